import PyProof.Rows.All
import Wide.All
import OpenK.AllK
import Lean
import PySem.Challenge.RW_nt0468_01
set_option Elab.async false
set_option linter.all false
set_option genSizeOf false
set_option tactic.hygienic false
set_option genCtorIdx false
set_option compiler.extract_closed false
set_option maxRecDepth 100000
set_option maxHeartbeats 0
open Option renaming some -> J, none -> U
open List renaming append_assoc -> aa, getElem?_append_left -> ar, length_append -> a6, getElem?_eq_getElem -> a7, getD_eq_getElem?_getD -> ba, length_map -> bj, range -> cn, all_eq_true -> cK, mem_range -> cL, append_nil -> cN, length_set -> cP, getElem?_append_right -> cQ, mem_append -> cS, getElem?_map -> cV, replicate -> cW, getElem_mem -> dk, length_range -> dn, map_cons -> dw, mem_of_getElem? -> dB, length_take -> dC, size_toArray -> dJ, take_succ_eq_append_getElem -> dK, mem_flatMap -> dN, map_append -> dO, mem_cons -> dP, take_length -> dS, mem_singleton -> dT, lookup_cons -> d6, mem_map -> d7, length_replicate -> d8, mem_filter -> eg, forall_mem_cons -> eo, any_eq_true -> eu, set_append_right -> ew, length_cons -> ey, cons_append -> eA, getElem?_eq_none -> eH, getElem?_set_ne -> eL, take_zero -> eN, getElem?_take_of_lt -> eO, length_filter_le -> eS, length_nil -> eV, append -> fx, nil_append -> fA, getLast?_eq_getElem? -> fD, sum_cons -> fH, replicate_succ -> fO, getElem?_range -> fP, getElem?_set_self -> fS, not_mem_nil -> fU, getElem?_eq_some_iff -> fZ, range_succ -> gf, flatMap_nil -> gF, set_set -> gQ, take_append_drop -> gR, getElem?_toArray -> gT, mem_of_ne_of_mem -> gU, mem_of_mem_take -> g9, getLast?_append -> hE, length_dropLast -> hH, map_map -> hZ, flatMap_append -> ie, getElem_of_mem -> ig, set_cons_zero -> iy, getElem?_set -> iE, flatten_cons -> iF, map_nil -> iH, flatMap_cons -> iI, dropLast_eq_take -> iM, mem_reverse -> iP, any_cons -> iQ, getElem?_of_mem -> iU, set_append_left -> iV, dropLast_concat -> iW, foldl_cons -> i6, append_toArray -> jb, mem_or_eq_of_mem_set -> jv, range' -> jA, idxOf_lt_length_iff -> jC, isEmpty_iff -> jK, length_drop -> jL, filter_cons -> jN, getElem?_cons_succ -> jP, getElem?_replicate -> jQ, ext_getElem -> jR, range_succ_eq_map -> jX, drop_eq_nil_of_le -> jY, take_of_length_le -> jZ, any_nil -> j4, length_singleton -> km, mem_iff_getElem? -> ku, mem_of_mem_drop -> kL, map_congr_left -> kU, length_reverse -> kW, getElem_idxOf -> lu, zip_cons_cons -> ly, filter_append -> lA, getElem?_drop -> lD, pairwise_cons -> lE, filter_congr -> lR, mem_range'_1 -> lS, sum_nil -> lT, map_set -> lU, mem_toArray -> lZ, find?_cons -> mz, forIn_cons -> mA, sum_append -> mJ, any_append -> mM, idxOf_cons -> mN, drop_zero -> mW
open Nat renaming lt_of_le_of_lt -> ae, lt_of_lt_of_le -> cM, le_trans -> cO, testBit_and -> cR, lt_trans -> cU, le_refl -> cX, le_add_right -> de, le_of_lt_succ -> dh, add_le_add_left -> di, testBit_two_pow -> dj, zero_testBit -> du, testBit_or -> dv, shiftRight_eq_div_pow -> dz, mul_le_mul_right -> dA, and_le_right -> dD, and_le_left -> dE, zero_le -> dF, add_assoc -> dG, le_of_lt -> dH, mod_two_eq_zero_or_one -> dI, lt_succ_self -> dM, add_comm -> dU, eq_of_testBit_eq -> dX, zero_add -> dY, le_of_not_lt -> dZ, add_sub_cancel_left -> d0, xor_assoc -> d9, pos_of_ne_zero -> ef, add_le_add_right -> eB, sub_self -> eD, pow_le_pow_right -> eE, testBit_shiftLeft -> eI, sub_le -> eJ, sub_add_cancel -> eM, lt_irrefl -> eU, ne_of_gt -> fc, testBit_xor -> fe, add_right_comm -> fg, add_sub_cancel -> fh, mul_div_cancel_left -> fo, lt_add_of_pos_right -> fp, testBit_shiftRight -> fv, not_lt_zero -> fy, succ_pos -> fF, pow_lt_pow_right -> fK, exists_eq_add_of_le -> fM, add_lt_add_left -> fN, mul_comm -> fQ, not_lt -> fV, div_add_mod -> f9, two_pow_pos -> gb, lt_succ_of_le -> gj, sub_pos_of_lt -> gk, two_pos -> gn, and_two_pow_sub_one_eq_mod -> gE, exists_eq_succ_of_ne_zero -> gG, sub_lt -> gI, pow_succ -> gP, add_sub_of_le -> gV, mul_mod_right -> gW, lt_succ_of_lt -> gY, add_lt_add_right -> g6, add_le_add -> g7, div_lt_of_lt_mul -> g8, div_eq_of_lt -> hI, le_of_eq -> hJ, mod_eq_of_lt -> hU, shiftLeft_eq -> hV, reduceEqDiff -> h8, lt_pow_two_of_testBit -> h9, mul_le_mul_left -> ib, le_antisymm -> iu, lt_of_le_of_ne -> ix, one_pos -> iz, exists_eq_add_of_lt -> iC, div_div_eq_div_mul -> iD, xor_zero -> iJ, sub_eq_zero_of_le -> iL, succ_ne_zero -> iN, and_assoc -> iR, le_add_left -> iX, min_le_left -> iY, one_ne_zero -> iZ, min_eq_left -> i0, add_sub_cancel' -> jd, succ_mul -> je, xor_self -> jg, xor_comm -> jh, testBit_two_pow_sub_one -> ji, add_mul_mod_self_right -> jl, lt_of_add_lt_add_left -> ju, zero_lt_of_lt -> jw, add_mul -> jx, lt_succ_iff_lt_or_eq -> jG, succ_pred_eq_of_pos -> jH, min_le_right -> jI, lt_of_not_le -> jJ, succ_le_succ -> jO, dvd_of_mod_eq_zero -> jS, add_zero -> jU, and_zero -> j0, and_self -> j3, zero_xor -> j5, testBit_lt_two_pow -> j6, add_mul_div_right -> j7, lt_sub_iff_add_lt -> j8, le_div_iff_mul_le -> j9, sub_le_of_le_add -> kA, sub_le_sub_right -> kD, mul_one -> kE, one_mul -> kF, zero_or -> kI, lt_mul_div_succ -> kN, mul_div_cancel' -> kO, sub_lt_sub_left -> kQ, div_eq_zero_iff -> kT, mul_assoc -> kX, or_eq_zero_iff -> lC, succ_sub_succ -> lF, add_mod_right -> lH, le_total -> lI, add_left_comm -> lK, succ -> lQ, sub_zero -> lW, min_eq_right -> me, succ_ne_self -> mi, add_mod -> mj, le_succ -> mn, mul_add_mod -> mx, div_le_self -> my, mod_lt -> mQ, log2 -> mV
open Bool renaming and_eq_true -> ax, or_eq_true -> cT, and_eq_true_iff -> cY, false_ne_true -> cZ, eq_iff_iff -> da, not_eq_true' -> dc, or_eq_true_iff -> ei, eq_false_iff -> eK, true_and -> eQ, false_or -> fq, or_eq_false_iff -> fJ, and_false -> fX, and_eq_false_iff -> fY, not_eq_true -> iO, or_false -> iS, xor_false -> jt, not_true -> jE, and_true -> jF, false_and -> kJ, false_eq_true -> lx, true_or -> lV
open PySem.Str renaming ofString -> bb
open PySem renaming Expr -> bo, World -> dq, Env -> ez, Value -> nf, wpAny_bind -> nh, Shared -> ni, wpAny -> nr, Params -> nu, NameKind -> nB, wpAny_pure -> nD, OsState -> nE, wpAny_mono -> nG, DictEntry -> nH, Program -> nJ, World -> nK, Around -> nL, wpAny_holding -> nM, mem_of_lookup -> nN, wpAny_Call_Name_kw -> nO, wpAny_newObj_type -> nQ, Scope -> nR, lookup_relabel_local -> nS, IsRangeIter -> nT, Comprehension -> nU, wpAny_standAt -> nV, wpAny_call_entry -> nW, call_meets -> nX, wpAny_execs_nil -> nY, Operator -> nZ, Arguments -> n3, CmpOp -> n8
open Option.some renaming inj -> cI, injEq -> jy
open Classical renaming byContradiction -> cJ, propDecidable -> eT, epsilon_spec -> jV, epsilon -> lM, not_not -> lY
open PySem.Challenge renaming rw_nt0468_01 -> dd
open Option renaming map_eq_some_iff -> dg, isNone_iff_eq_none -> eh, isSome_iff_exists -> eG, bind_some -> eP, bind_eq_some_iff -> iA, some_ne_none -> jc, map_some -> mF
open PySem.Heap renaming get?_push_of_some -> dy, get?_push_size -> gC, ExtBut -> gH, get?_none_of_le -> iT, SameBut -> lN, IsTuple -> lO, size_push -> mU
open Ne renaming symm -> dQ
open Int renaming natCast_nonneg -> dR, ofNat_lt -> eC, toNat_natCast -> eW, fmod -> eZ, ofNat -> fk, fdiv -> fE, ofNat_sub -> fG, ofNat_le -> gr, le_trans -> gx, toNat_of_nonneg -> gz, lt_of_le_of_lt -> gJ, add_sub_cancel -> gK, lt_of_lt_of_le -> gL, fmod_eq_emod_of_nonneg -> hB, le_of_lt -> hO, add_assoc -> ij, eq_ofNat_of_zero_le -> iB, fmod_nonneg_of_pos -> iK, toNat_lt -> jf, sub_add_cancel -> jm, fdiv_eq_ediv_of_nonneg -> js, lt_trans -> jT, ne_of_gt -> jW, ediv_lt_of_lt_mul -> ki, sub_nonpos_of_le -> kC, toNat_of_nonpos -> kP, add_right_comm -> kZ, fmod_lt_of_pos -> lB, emod_eq_of_lt -> lG, add_sub_assoc -> lJ, natCast_zero -> mh, negSucc -> mr, emod_nonneg -> mu, natCast_mul -> mG, natCast_pow -> mH
open PySem.Builtin renaming bitNot -> dW, bitAnd -> fW, divisionGoesByPylong -> i5, bitOr -> kY, bitXor -> mS
open PySem.W.Fast renaming tw14364793385576792824 -> fT, te14364793385576792824 -> ip, tw9446332074065402090 -> iw
open Nat.succ renaming inj -> gu
open PySem.Calls renaming evalArgs_plain -> gy, callWith_builtin -> gM, spliced_cons -> gO, spliced_nil -> gZ, Name_function_global -> jo
open PySem.Heap.SameBut renaming update -> gB
open PySem.PyData renaming keyHash -> gD
open Int.ofNat renaming inj -> ik
open PySem.Builtin.List renaming listTooLong -> iq
open PySem.NameKind renaming free -> ir, globalImplicit -> jM, cell -> mZ
open Prod renaming ext -> iG, fst -> kH
open ForInStep renaming yield -> i7
open PySem.W.WShape renaming hasItems -> i9
open PySem.Builtin.Int renaming intBits -> ja
open PyProof.Rows renaming getItem_tuple -> jn
open PySem.F renaming slot_tuple_iterator_iter -> jq, slot_range_iterator_iter -> jr, slot_list_append -> lr, slot_list_index -> lP
open Prod.mk renaming inj -> jz
open Array renaming eraseIdxIfInBounds -> jB, any_toList -> ma
open PySem.Value.ref renaming inj -> jD
open PySem.Stmt.FunctionDef renaming elim -> kj
open PySem.Const.str renaming elim -> kG
open List.Pairwise renaming filter -> kM
open PySem.Builtin.Range renaming small -> kR
open PySem.IsL renaming isList -> k9, update -> lq
open PySem.Value renaming bool -> lh
open Decidable renaming not_not -> lX
open PySem.Obj renaming mapSeq -> mT
open PySem.Expr.Attribute renaming elim -> mX
open PySem.Expr.Subscript renaming elim -> mY
open PySem.W.WTm renaming value -> nc
open PySem.W renaming boot_drawn -> nj
open PySem PySem.W PyProof.Rows
namespace Mine.Lake
section
open Lean (Syntax MacroM)
def tU{α:Type}:MacroM α:=Lean.Macro.throwUnsupported
def mp{α β:Type}(f:α->β):List α->List β
 | []=>[]
 | a::l=>f a::mp f l
def fd(p st:List Syntax):List String->Syntax
 | []=>st.head!
 | w::l=>
  match w.toList with
  | []=>.missing
  | c::r=>
   let s:=String.ofList r
   fd p (if c='\'' then .atom .none s::st
    else if c='!' then Lean.mkIdent s.toName::st
    else if c='$' then p[s.toNat?.getD 0]! ::st
    else .node .none (if s="" then `null else if s.startsWith "." then("Lean.Parser.Tactic"++s).toName else if s.startsWith "_" then("Lean.Parser.Term."++(s.drop 1).toString).toName else s.toName) (st.take (c.toNat - 48)).reverse.toArray::st.drop (c.toNat - 48)) l
def rp(s:String)(p:List Syntax):Syntax:=fd p [] (s.splitOn " ")
def Y9(l:List Syntax):Syntax:=.node .none `null l.toArray
def sq(l:List Syntax):Syntax:=rp "$0 1.tacticSeq1Indented 1.tacticSeq" [Y9 (l.intersperse (.atom .none ";"))]
def pa(l:List Syntax):Syntax:=rp "'( $0 ') 3.paren" [sq l]
def fi(l:List Syntax):Syntax:=rp "'first $0 2.first" [Y9 (mp (λt=>rp "'| $0 2group" [sq [t]]) l)]
def ap(f:Syntax)(l:List Syntax):Syntax:=if l.isEmpty then f else rp "$0 $1 2_app" [f,Y9 l]
def ho(n:Nat):List Syntax:=cW n (rp "'_ 1_hole" [])
def re(k:String)(l:List Syntax):Syntax:=rp "'refine $0 2.refine" [ap (rp ("!Mine.Lake."++k) []) (l++[rp "'? '_ 2_syntheticHole" []])]
def tb(t:Syntax):Syntax:=rp "'by $0 2_byTactic" [sq [t]]
def al(w:String):Syntax:=
 match w.splitOn ":" with
 | [f,a]=>rp "'exact $0 2.exact" [ap (rp ("!"++f) []) (mp (λc=>if c='a' then tb (rp "'assumption 1.assumption" []) else if c='d' then tb (rp "'decide 0 1.optConfig 2.decide" []) else rp "'_ 1_hole" []) a.toList)]
 | _=>.missing
def mO(s:Syntax):MacroM Syntax:=if s[1][0].getNumArgs != 0 then tU else pure (fi [
 rp "'with_reducible $0 2.withReducible" [sq [fi (rp "'assumption 1.assumption" []::mp al ("Nat.lt_of_lt_of_le:aa Nat.lt_of_lt_of_le:ad Nat.lt_of_le_of_lt:ad Mine.Lake.f2: Mine.Lake.lt_eq:aa Mine.Lake.leL:aad Mine.Lake.anL:ad Nat.le_add_right:__ Nat.le_add_left:__ Nat.le_of_not_lt:a Mine.Lake.zC:aa Mine.Lake.zA:a Mine.Lake.LLj:a Mine.Lake.zB:aaa Mine.Lake.zI:aa Mine.Lake.zD:aaa Mine.Lake.LLf:a Mine.Lake.zQ:aaaa Mine.Lake.zE: Mine.Lake.zDa:aaaa Mine.Lake.zAl:aa Mine.Lake.zAs: Mine.Lake.zF:aa Mine.Lake.zG:aa Mine.Lake.zH:aa Mine.Lake.LLh:ad Mine.Lake.LLm:aa Mine.Lake.zJ: Mine.Lake.zL:aa Mine.Lake.zR:a Mine.Lake.zBn:a Mine.Lake.zT:aa Mine.Lake.zAg:a Mine.Lake.zPu:a Mine.Lake.zAj:aa Mine.Lake.LLn:a Mine.Lake.LLd:a Mine.Lake.LLu:a Mine.Lake.zEe:a Mine.Lake.zM:aa Mine.Lake.zAk:a Mine.Lake.zAv:a Mine.Lake.zV:a Mine.Lake.zHa:a Mine.Lake.zW:a Mine.Lake.LLl:aa Mine.Lake.zX:a Nat.div_le_div_right:a Mine.Lake.zAp:aa Mine.Lake.zAo:a Mine.Lake.zY:a Mine.Lake.zBv:a Mine.Lake.LLo:a Mine.Lake.zAm:aa Mine.Lake.zAr:a Mine.Lake.zN:aa Nat.add_le_add:aa Mine.Lake.LMb:aad Mine.Lake.zAn:aa Mine.Lake.zGb:aaa Mine.Lake.zAt:a Mine.Lake.zEf: Mine.Lake.LLe:a Mine.Lake.zAu:aa Mine.Lake.zPd:aa Mine.Lake.zQe:a Mine.Lake.zPi:aa Mine.Lake.zHc:a Mine.Lake.zBb:a Mine.Lake.zAz:a Mine.Lake.zHd:aa Mine.Lake.zEd:a Mine.Lake.zAw:aa Int.ofNat_lt: Mine.Lake.zIa:aa Mine.Lake.zAi:a Mine.Lake.zBc:a Mine.Lake.zBe:aa Mine.Lake.zBf: Mine.Lake.zAx:aa Mine.Lake.zIb:aaa Mine.Lake.LLk:a Mine.Lake.zBk:aa Mine.Lake.zBi:aaa Mine.Lake.zBg: Mine.Lake.zBj:aa Mine.Lake.LLc:a Mine.Lake.zBo:aad Mine.Lake.zAa:aa Mine.Lake.zBl:aa Mine.Lake.LLj:d Mine.Lake.zBm:a Mine.Lake.zIc:aa Mine.Lake.zQd:a Mine.Lake.zAy:aa Mine.Lake.LLa:a Mine.Lake.LMk:aa Mine.Lake.zKa:a Mine.Lake.zAe:a Mine.Lake.zPq:aa Mine.Lake.zHb:a Mine.Lake.zBs:aa Mine.Lake.LLp:a Mine.Lake.LLg:a Mine.Lake.zJb:aaa Mine.Lake.zBh:a Mine.Lake.zBp:aa Mine.Lake.zBa:a Mine.Lake.zEc:a Mine.Lake.zBq:a Mine.Lake.zBr:aa Mine.Lake.zCa:a Mine.Lake.zPo:aa Mine.Lake.zAc:a Mine.Lake.zS:a Mine.Lake.zBu:aa Mine.Lake.zBw:a Mine.Lake.zJa:aa Mine.Lake.zNb: Mine.Lake.zNa:a Mine.Lake.zBd:a Mine.Lake.zBt:aa Mine.Lake.zAq:a Mine.Lake.LLz:aad Mine.Lake.zMa:aaa Int.ofNat_lt.mp:a Mine.Lake.zOb:aaa Mine.Lake.zOa:aaa Mine.Lake.zAb:a Mine.Lake.zAf:a Mine.Lake.zPa:aa Mine.Lake.zPg: Int.natCast_pos: Nat.mul_div_cancel:_d Mine.Lake.zPc:aa Mine.Lake.zPb:aaa Mine.Lake.LMt:ad Mine.Lake.zPj:a Mine.Lake.zQg:a Mine.Lake.zPk:aa Mine.Lake.zPf:aa Mine.Lake.zAh:aa Mine.Lake.zPl:a Mine.Lake.zJc:aaa Mine.Lake.LLb:a Mine.Lake.zEb:a Mine.Lake.zPh:aa Mine.Lake.zPn:aa Mine.Lake.zPr:a Mine.Lake.zAd:aaa Mine.Lake.zPs:a Mine.Lake.zPw:aa Mine.Lake.zPp:aaa Nat.div_eq_of_lt:a Mine.Lake.zPy: Mine.Lake.zPx:aa Mine.Lake.zPe:aa Mine.Lake.zQa:aa Mine.Lake.zPz:a Mine.Lake.zQb:aa Mine.Lake.zPm:a Mine.Lake.zQj: Mine.Lake.zJd:a Mine.Lake.zQh:a Mine.Lake.zQf:a Mine.Lake.zQk:a Mine.Lake.zQc:aa Mine.Lake.zPv:aaaa Mine.Lake.zPt:aa Mine.Lake.zQi:aa Mine.Lake.zKb:aaa Nat.le_of_lt:a Mine.Lake.LMl:a Nat.lt_trans:aa Nat.lt_succ_self:_ Nat.ne_of_lt:a Nat.le_of_succ_le:a Nat.not_lt.mpr:a Nat.zero_le:_ Int.ofNat_lt.mpr:a Nat.lt_of_le_of_lt:aa Int.natCast_nonneg:_ Nat.ne_of_gt:a".splitOn " "))]],
 rp "'lia '- !abstractProof 2.negConfigItem 1.configItem 1 1.optConfig 2.lia" []])
def mR(s:Syntax):MacroM Syntax:=
 if s[3].getNumArgs != 0 then tU else
 pure (pa (mp (λr=>let v:=r[0].getNumArgs != 0;let f:=λ(k:String × Nat)=>re ((if v then "s" else "r")++k.1) [ap r[1] (ho k.2)]
  fi (mp f [("wE",0),("wE",1),("wE",2),("wE",3),("wI",0),("wI",1)]++[rp "'rewrite 0 1.optConfig '[ $0 1 '] 3.rwRuleSeq 0 4.rewriteSeq" [r]])) s[2][1].getSepArgs.toList++[rp "'try $0 2.tacticTry_" [sq [rp "'with_reducible $0 2.withReducible" [sq [rp "'rfl 1.tacticRfl" []]]]]]))
def on(q:Syntax):Syntax:=
 let x:=q[0][0][0]
 if x.isIdent&&x.getId != `rfl&&q[0].getNumArgs == 1 then rp "'intro $0 1 2.intro" [x] else rp "'( 'intro !zz 1 2.intro '; 'obtain $0 1 0 ':= !zz 1 2 4.obtain 3 1.tacticSeq1Indented 1.tacticSeq ') 3.paren" [q]
def mB(s:Syntax):MacroM Syntax:=
 let q:=s[1][0][0]
 let l:=q[0][1].getSepArgs.toList
 if q.getNumArgs != 1||q[0].getKind != `Lean.Parser.Tactic.rcasesPat.tuple||s[2].getNumArgs != 0||l.length<2 then tU else
 let t:=s[3][1][0]
 pure (pa [fi [re "anE" [t],re "exE" [t]],rp "'try $0 2.tacticTry_" [sq [rp "'clear $0 1 2.clear" [t]]],on l.head![0],on (if l.length=2 then l[1]![0] else rp "'⟨ $0 '⟩ 3.rcasesPat.tuple 1 1.rcasesPatMed" [Y9 (l.tail.intersperse (.atom .none ","))])])
def mC(s:Syntax):MacroM Syntax:=
 let x:=s[1][0][1]
 if !x.isIdent||s[1].getNumArgs != 1||s[1][0][0].getNumArgs != 0||s[2].getNumArgs != 0||s[3].getNumArgs != 0 then tU else
 pure (fi [rp "'subst $0 1 2.subst" [x],rp "'( 'injection $0 0 3.injection '; 'done 1.done 3 1.tacticSeq1Indented 1.tacticSeq ') 3.paren" [x],rp "'( 'injection $0 'with !zz 1 2 3.injection '; 'subst !zz 1 2.subst 3 1.tacticSeq1Indented 1.tacticSeq ') 3.paren" [x],rp "'cases 0 '( !_ 1hygieneInfo 2_hygienicLParen $0 ') 3_paren 2.elimTarget 1 0 0 4.cases" [x]])
def pj(t:Syntax):Nat->Syntax
 | 0=>t
 | n+1=>pj (ap (rp "!Prod.fst" []) [t]) n
def gs(n:Nat):List Syntax->List Syntax
 | []=>[]
 | x::l=>
  rp "'generalize 0 $0 '= $1 4.generalizeArg 1 0 3.generalize" [let t:=pj (rp "!zz" []) l.length;if l.length+1=n then t else ap (rp "!Prod.snd" []) [t],x]::gs n l
def mI(s:Syntax):MacroM Syntax:=
 let l:=mp (λ(x:Syntax)=>if x.isIdent then x else x[0][0]) s[1].getArgs.toList
 let n:=l.length
 pure (pa ([rp "'revert $0 2.revert" [Y9 l],
  rp "'refine $0 2.refine" [ap (rp s!"'@ !Mine.Lake.hk{n} 2_explicit" []) (ho n++[rp "'? '_ 2_syntheticHole" [],rp "'_ 1_hole" [],rp "'? '_ 2_syntheticHole" []])],
  rp "'focus $0 2.focus" [sq [rp "'repeat' $0 2.repeat'" [sq [fi [rp "'apply !Mine.Lake.nP 2.apply" [],rp "'infer_instance 1.tacticInfer_instance" [],rp "'exact '⟨ $0 1 '⟩ 3_anonymousCtor 2.exact" [tb (rp "'repeat' $0 2.repeat'" [sq [fi [al "default:",rp "'intro '_ 1_hole 1 2.intro" [],rp "'constructor 1.constructor" []]]])]]]]]],
  rp "'generalize 0 $0 '= !zz 4.generalizeArg 1 0 3.generalize" [ap (rp s!"!Mine.Lake.tp{n}" []) (ho 2)]]++gs n l++[rp "'clear !zz 1 2.clear" [],rp "'unhygienic $0 2.tacticUnhygienic_" [sq [rp "'intros 0 2.intros" []]]]))
end
theorem b9{p:Prop}[Decidable p](h:decide p=true):p:=of_decide_eq_true h
theorem cj{p:Prop}[Decidable p](h:decide p=false):¬p:=of_decide_eq_false h
theorem cu{p:Prop}[Decidable p]:(decide p=true)=p:=decide_eq_true_eq
theorem cy{p:Prop}[Decidable p](h:p):decide p=true:=decide_eq_true h
theorem cz{p:Prop}[Decidable p](h:¬p):decide p=false:=decide_eq_false h
theorem cA{p:Prop}{i:Decidable p}:decide p=false↔¬p:=decide_eq_false_iff_not
theorem cC.{u}{c:Prop}{h:Decidable c}(q:c){α:Sort u}{x y:α}:ite c x y=x:=if_pos q
theorem cD.{u}{c:Prop}{h:Decidable c}(q:¬c){α:Sort u}{x y:α}:ite c x y=y:=if_neg q
theorem cF.{u, v}{α:Sort u}{β:Sort v}{a b:α}(f:α->β)(h:a=b):f a=f b:=congrArg f h
theorem cG{a b:Prop}(h:a)(g:¬a):b:=absurd h g
theorem cH.{u}{α:Type u}[BEq α][LawfulBEq α]{a b:α}(h:(a==b)=true):a=b:=eq_of_beq h
end Mine.Lake
namespace Mine.Lake
section
open Lean (Syntax MacroM)
def st0:Nat->Syntax->Option Syntax
 | n+1,.node i k a=>((cn a.size).find? λj=>(a.getD j .missing).getHeadInfo?.isSome).bind λj=>(st0 n (a.getD j .missing)).map λy=>.node i k (a.set! j y)
 | _,.atom (.original ..) v=>J (.atom .none v)
 | _,_=>U
def mD(s:Syntax):MacroM Syntax:=match st0 9 s with
 | some y=>
  let d:=y[1]
  let v:=y.setArg 0 (y[0].setArg 4 (rp "'noncomputable 1Lean.Parser.Command.noncomputable 1" []))
  pure ((λx=>if(s.find? λn=>n.isOfKind `Lean.Parser.Tactic.renameI).isSome then rp "'set_option !tactic.hygienic 0 'true 4Lean.Parser.Command.set_option 'in $0 3Lean.Parser.Command.in" [x] else x) (if s[0][4].getNumArgs != 0 then y
   else if d.getKind == `Lean.Parser.Command.definition then y.setArg 1 (rp "'theorem $0 $1 $2 2Lean.Parser.Command.declSig $3 4Lean.Parser.Command.theorem" [d[1],d[2][0],d[2][1][0],d[3]])
   else if d.getKind == `Lean.Parser.Command.abbrev then(if s[0][1].getNumArgs != 0 then v else v.setArg 1 (rp "'def $0 $1 $2 0 5Lean.Parser.Command.definition" [d[1],d[2],d[3]]))
   else y))
 | none=>tU
def mE(_:Syntax):MacroM Syntax:=pure (tb (rp "'decide 0 1.optConfig 2.decide" []))
def mK(s:Syntax):MacroM Syntax:=if s[1].getNumArgs != 0 then tU else pure (tb (rp "'kernel_rfl 1tacticKernel_rfl" []))
def mL(_:Syntax):MacroM Syntax:=pure (rp "!Mine.Lake.r_loc !rfl 1 2_app" [])
def mP(s:Syntax):MacroM Syntax:=if s[1].getNumArgs != 0 then tU else pure (rp "!Mine.Lake.oa !HMul.hMul !F !R 2 2_app !cs !au !az !aA !av !kx !ay 8 2_app" [])
end
end Mine.Lake
section
local macro_rules (kind := Lean.Parser.Command.declaration) | s => Mine.Lake.mD s
local macro_rules (kind := Lean.Parser.Term.omission) | s => Mine.Lake.mE s
def MineH.Lake.said0:iw dd=true:=by
 delta iw PySem.W.Fast.tw17960256430627541270 PySem.W.Fast.tw2436336058641802641
 repeat' with_reducible refine look_both ?_ ?_
 all_goals decide +kernel
def MineH.Lake.said:dd.wellSaid=true:=(congrFun PySem.W.Fast.te9446332074065402090 _).trans MineH.Lake.said0
namespace Mine.Lake
noncomputable section
def anE{a b q:Prop}(h:a/\b)(k:a->b->q):q:=k h.1 h.2
def exE.{u}{α:Sort u}{p:α->Prop}{q:Prop}(h:∃x,p x)(k:∀x,p x->q):q:=h.elim k
@[elab_as_elim] def rwE.{u}{α:Sort u}{a b:α}{motive:α->Prop}(h:a=b)(x:motive b):motive a:=h▸x
@[elab_as_elim] def swE.{u}{α:Sort u}{a b:α}{motive:α->Prop}(h:b=a)(x:motive b):motive a:=h▸x
@[elab_as_elim] def rwI{motive:Prop->Prop}(h:a↔b)(x:motive b):motive a:=propext h▸x
@[elab_as_elim] def swI{motive:Prop->Prop}(h:b↔a)(x:motive b):motive a:=propext h▸x
end
end Mine.Lake
local macro_rules (kind := Lean.Parser.Tactic.rwSeq) | s => Mine.Lake.mR s
local macro_rules (kind := Lean.Parser.Tactic.cases) | s => Mine.Lake.mC s
local macro_rules (kind := Lean.Parser.Tactic.obtain) | s => Mine.Lake.mB s
namespace Mine.Lake
noncomputable section
def bc(h:¬¬G):G:=cJ h
def u2(h:x<2):x=0\/x=1:=(Nat.lt_or_ge x 1).elim (λz=>.inl (Nat.lt_one_iff.mp z)) λz=>.inr (iu (dh h) z)
def f2:1 - x<2:=gj (eJ _ _)
def ff2(h:x<2):1 - (1 - x)=x:=(u2 h).elim (λe=>by rw[e]) λe=>by rw[e]
def Wh(h:a<b):b - a=b - (a+1)+1:=(jH (gk h)).symm
def JP(h:1<=x/\x<=6):x=1\/x=2\/x=6\/x=3\/x=4\/x=5:=(by decide:∀x<7,1<=x->x=1\/x=2\/x=6\/x=3\/x=4\/x=5) x (gj h.2) h.1
def Zb(h:2<=x/\x<=6):x=2\/x=6\/x=3\/x=4\/x=5:=(JP ⟨dH h.1,h.2⟩).resolve_left λe=>cG h.1 (by rw[e];decide)
def aa0(h:1<=x/\x<=6)(n:¬x=1):x∈([2,3,4,5,6]:List Nat):=by
 rcases (JP h).resolve_left n with e | e | e | e | e<;>rw[e]<;>decide
def aa1(h:1<=x/\x<=6)(n:¬x=1)(m:¬x=6):x∈([2,3,4,5]:List Nat):=by
 rcases ((JP h).resolve_left n) with e | e | e | e | e
 .rw[e];decide
 .exact cG e m
 all_goals rw[e];decide
def Zo(h:1<=x/\x<=6)(n1:¬x=1)(n4:¬x=4)(n5:¬x=5)(n6:¬x=6):x=2\/x=3:=
 ((JP h).resolve_left n1).elim .inl λe=>.inr ((e.resolve_left n6).elim id λe=>cG (e.resolve_left n4) n5)
def Zf(h:x∈([2,3,4,5]:List Nat)):2<=x/\x<=5:=(by decide:∀x∈([2,3,4,5]:List Nat),2<=x/\x<=5) x h
def Zc(h:x∈([2,3,4,5,6]:List Nat)):2<=x/\x<=6:=(by decide:∀x∈([2,3,4,5,6]:List Nat),2<=x/\x<=6) x h
def Ug(hp:p<4)(e:x/8=s)(h:x<16):(x/8*8+2+p)/8=s/\x/8*8+2+p<16/\1<=(x/8*8+2+p)%8/\(x/8*8+2+p)%8<=6:=by
 subst e;exact(by decide:∀p<4,∀x<16,(x/8*8+2+p)/8=x/8/\x/8*8+2+p<16/\1<=(x/8*8+2+p)%8/\(x/8*8+2+p)%8<=6) p hp x h
def oth(hc:c<2)(hs:s<2)(n:¬c=s):c=1 - s:=(by decide:∀c<2,∀s<2,¬c=s->c=1 - s) c hc s hs n
def L5(h:x<16)(g:s<2)(n:¬x/8=s):x/8=1 - s:=by
 have d:∀s<2,∀x<16,¬x/8=s->x/8=1 - s:=by decide
 exact d s g x h n
def Ry(g:s<2):(1 - s)*8+6=14 - 8*s/\14 - 8*(1 - s)=s*8+6:=by
 have d:∀s<2,(1 - s)*8+6=14 - 8*s/\14 - 8*(1 - s)=s*8+6:=by decide
 exact d s g
def Sq(h:x=s*8+6):x/8=s/\x%8=6/\x≠0:=by
 subst h;exact⟨by rw[dU,j7 _ _ ⋯];exact dY s,by rw[dU,jl],iN _⟩
def tl_{a b c:Nat}(h:b<=c)(g:a<=b):a<=c:=cO g h
def YM{a b c:Nat}(e:a=b)(h:b<=c):a<=c:=e▸h
def leL{a b c d:Nat}(e:a=b)(h:b<=c)(g:c<d):a<d:=ae (YM e h) g
def anL{p q:Nat}{a b c:Nat}(h:p<=q/\a<=b)(g:b<c):a<c:=ae h.2 g
def lt_eq{a b c:Nat}(h:a<b)(e:c=b):a<c:=e▸h
section
variable{a b c d f g h i j k l m n q r s t u v w x y z F R L N:Nat}{p p' p'' p3 G:Prop}{X Y:Int}
@[elab_as_elim] def Vp{P:Nat->Prop}{d:Nat}(h:d<4)(a:P 0)(b:P 1)(c:P 2)(e:P 3):P d:=by
 rcases d with _ | _ | _ | _ | d
 .exact a
 .exact b
 .exact c
 .exact e
 .exact cG h (fV.mpr (iX 4 d))
@[elab_as_elim] def lt8{P:Nat->Prop}{d:Nat}(h:d<8)(a:P 0)(b:P 1)(c:P 2)(e:P 3)(a':P 4)(b':P 5)(c':P 6)(e':P 7):P d:=
 (Nat.lt_or_ge d 4).elim (λz=>Vp z a b c e) λz=>by
  obtain⟨d,rfl⟩:=fM z;exact Vp (P:=λd=>P (4+d)) (ju h) a' b' c' e'
def LLa(h:0<n):n - 1<n:=gI h iz
def LLb(h:j<n - k):j<n:=cM h (eJ _ _)
def LLc(h:j<m - n):n+j<m:=Nat.add_lt_of_lt_sub' h
def LLd(h:n<=m):n+(m - n)=m:=gV h
def LLf(h:n<=m):m=n+(m - n):=(gV h).symm
def LLe(h:¬n<k):n=n - k+k:=(eM (dZ h)).symm
def LLg(h:i<min n m):i<n:=cM h (iY _ _)
def LLh(h:a<c)(g:c<=k):a - b<k:=ae (eJ _ _) (cM h g)
def LLi(h:a<=c)(g:c<k):a - b<k:=ae (eJ _ _) (ae h g)
def LLj(h:a<k):a - b<k:=ae (eJ _ _) h
def LLk(h:x+n<k):x+min j n<k:=ae (di (jI _ _) _) h
def LLl(h:x+c<k)(g:n<=c):x+min j n<k:=ae (di (cO (jI _ _) g) _) h
def LLm(h:¬i<n)(g:i - n=0):i=n:=iu (Nat.sub_eq_zero_iff_le.mp g) (dZ h)
def LLn(h:x=1 - s):¬x=s:=λe=>by rw[e] at h;cases s with | zero=>cases h | succ n=>rw[lF,Nat.zero_sub] at h;cases h
def LLo(h:p/\x=1 - s):¬x=s:=LLn h.2
def LLp(e:h+1=n):n - 1+1=n:=by subst e;rfl
def LLu(h:x+n<k):x<k:=ae (de _ _) h
def LLx(h:j<n - c)(g:n<k):j<k:=cU (LLb h) g
def LLz(h:j<n - c)(g:n<k)(f:k<=m):j<m:=cM (LLx h g) f
def LMb(h:a<b)(g:b<=c)(f:c<=m):a<m:=cM (cM h g) f
def LMk(h:j<n - 1)(g:k+j=n):1<k:=by subst g;exact jJ λz=>eU _ (cM h (kA (dU j 1▸eB z j)))
def LMl(h:a<=b):a - c<=b:=cO (eJ _ _) h
def LMt(g:p/\b<=c)(f:c<m):b - 1<m:=LLi g.2 f
def zA(h:s<12):((X+(((s - X)%12).toNat:Int))%12).toNat=s:=by
 rw[gz (mu _ ⋯),Int.add_emod_emod,Int.add_comm,jm,lG (dR s) (eC.mpr h)];rfl
def zB(h:s<L)(e:(c+(L - 1))%2=t%2)(g:c<2):(1 - c+L)%2=t%2:=by
 obtain⟨l,rfl⟩:=gG (fc (jw h));rw[<- e];rcases u2 g with rfl | rfl
 .rw[dY,dU];exact lH l 2
 .rw[dU 1];exact cF (·%2) (dY _)
def zC(e:F=k+1)(h:0<s/F/\s/F<R - 1):F<=s/\s+F<F*R:=
 ⟨dZ λz=>fc h.1 (hI z),cM (g6 (kN s (e▸fF k)) F) (ib F (j8.mp h.2))⟩
def z64(e:X=n)(l:n<64):0<=X/\X.toNat<64:=by subst e;exact⟨dR _,l⟩
def zD(h:g>=1/\(g - 1>=f/\p)/\p')(l:g<21)(e:w=0):0<=(g:Int) - (f+1 - ((2*w:Nat):Int))/\((g:Int) - (f+1 - ((2*w:Nat):Int))).toNat<64:=by
 subst e;exact z64 (fG (n:=g) (m:=f+1) (Nat.add_le_of_le_sub h.1 h.2.1.1)).symm (ae (eJ _ _) (cU l ⋯))
def zF(h:x=s)(g:s<2):x=1 - (1 - s):=h.trans (ff2 g).symm
def hv2(h:j<m/2):2*j+2<=m:=cO (hJ (fQ 2 (j+1))) ((j9 gn).mp h)
def hv3(h:2*j+2<=m):j<m/2:=(j9 gn).mpr (cO (hJ (fQ (j+1) 2)) h)
def hv4(h:j<(m - k)/2):k+2*j+2<=m:=by
 have z:2*j+1+k<m:=j8.mp (hv2 h);rw[dU] at z;exact z
def Yr(h:k+2*j+2<=m):j<(m - k)/2:=hv3 (Nat.le_sub_of_add_le (by rw[dU];exact h))
def ar1(h:j<(r - 2)/2)(e:x=4+2*j):0<x/\x<=r:=by
 subst e;have z:=hv4 h;rw[fg] at z;exact⟨cM ⋯ (de 4 _),z⟩
def zCe(h:x%2=0/\4<=x):∃j,x=4+2*j:=by
 obtain⟨y,rfl⟩:=fM h.2;exact⟨y/2,cF (4+·) (kO (jS ((mx 2 2 y).symm.trans h.1))).symm⟩
def ar2(h:x%2=0/\4<=x)(hr:x<=r):∃j,j<(r - 2)/2/\x=4+2*j:=by
 obtain⟨j,rfl⟩:=zCe h;exact⟨j,Yr (by rw[fg];exact hr),rfl⟩
def ar3(hj:j<(r+1+1 - (a+4))/2):a+4+2*j<=r:=Nat.le_of_add_le_add_right (hv4 hj)
def ar4(h:q%2=0/\4<=q)(hr:a+q<=r):∃j,j<(r+1+1 - (a+4))/2/\a+4+2*j=a+q:=by
 obtain⟨j,rfl⟩:=zCe h;exact⟨j,Yr (eB (dG a 4 (2*j)▸hr) 2),dG _ _ _⟩
def zCd(n:Nat):(n+1)%2≠n%2:=λe=>by
 rw[mj] at e;rcases dI n with z | z<;>rw[z] at e<;>exact cG e ⋯
def ar6(h:(u+i)%2=q)(h2:(u+(i+r))%2=q):r%2=0:=(dI r).resolve_right λz=>zCd (u+i) (by rw[h,<-h2,<-dG,mj (u+i) r,z,mj])
def ar7(h:q%2=0)(h0:0<q)(h4:¬4<=q):q=1+1:=(by decide:∀q<4,q%2=0->0<q->q=1+1) q (jJ h4) h h0
def aA(x:Int):(if 0<x then(x - 1)/2+1 else 0)=(((x+1)/2).toNat:Int):=by
 by_cases h:0<x
 .rw[cC h,gz (Int.ediv_nonneg (Int.add_nonneg (hO h) ⋯) ⋯)];exact(Int.add_mul_ediv_left (x - 1) 1 ⋯).symm.trans (cF (·/2) (ij x (-1) 2))
 .rw[cD h,kP (Int.le_of_lt_add_one (ki ⋯ (gJ (Int.add_le_add_right (Int.le_of_not_gt h) 1) ⋯)))];rfl
def Mh{a b:Int}(ha:-1000000<a/\a<1000000)(hb:-1000000<b/\b<1000000):b - a<=4000000/\(b - a+1)/2<=4000000:=by
 have z:b - a<2000000:=Int.sub_lt_sub hb.2 ha.1;exact⟨hO (jT z ⋯),hO (ki ⋯ (jT (Int.add_lt_add_right z 1) ⋯))⟩
def zE:(((m:Int) - n+1)/2).toNat=(m+1 - n)/2:=by
 rw[show(m:Int) - n+1=((m+1:Nat):Int) - n from kZ _ _ _];rcases lI n (m+1) with h | h
 .rw[<- fG h];rfl
 .rw[iL h,kP];exact Int.ediv_nonpos_of_nonpos_of_neg (kC (gr.mpr h)) ⋯
def zG(g:r<=n)(h:j<(r+1+1 - (a+4))/2):a+4+2*j<=n:=cO (ar3 h) g
def zH(h:s<N)(g:s<t):100+(N - t)<100+(N - s):=fN (kQ h g) 100
def zI(g:r<=n)(h:j<(r - 2)/2):4+2*j<=n:=cO (ar1 h rfl).2 g
def zJ:min 15 n - 7<=8:=kD (iY 15 n) 7
def zK(h:x=1 - s)(e:x=s):G:=by
 subst e;exact cG h (by cases x with | zero=>decide | succ n=>rw[lF,Nat.zero_sub];exact iN n)
def zL(h:p/\x=s)(g:p'/\p''/\x=1 - s/\p3):G:=zK g.2.2.1 h.2
def zM(h:p/\x=s)(g:p'/\a<b/\p''/\x=1 - s/\p3):G:=zK g.2.2.2.1 h.2
def zN(h:x=1 - s)(g:x=s/\p):G:=zK h g.1
def zCc(hj:j<n)(hn:n<=k)(hL:L<=min j n*c):L+c<=k*c:=cO (eB hL c) (je _ c▸dA c (cO (ae (iY j n) hj) hn))
def zQ(hL:L<=min j n*4)(hj:j<n)(hn:n<=21)(h:x+84<1000):x+L+4<1000:=ae (dG x L 4▸di (zCc hj hn hL) x) h
def zR(h:¬(x:Int) - y<0):(x:Int) - y=((x - y+(y - x):Nat):Int):=by
 have e:y<=x:=gr.mp (Int.le_of_sub_nonneg (Int.not_lt.mp h));rw[iL e,jU,fG e]
def zS(h:(x:Int) - y<0):-((x:Int) - y)=((x - y+(y - x):Nat):Int):=by
 have e:x<=y:=gr.mp (hO (Int.lt_of_sub_neg h));rw[iL e,dY,fG e,Int.neg_sub]
def zT(h:g>=1)(k:g - 1>=F):(g:Int)=((g - 1 - F:Nat):Int)+F+1:=cF fk (by rw[eM k,eM h])
def zU(h:(g:Int)=s+F - 1):g+1=s+F:=ik (show(g:Int)+1=s+F by rw[h,jm])
def zV(h:(g:Int)=s+F - 1):s=1+g - F:=by rw[dU,zU h,fh]
def zW(h:1+g>=F):(g:Int)=((1+g - F:Nat):Int)+F - 1:=by
 rw[show((1+g - F:Nat):Int)+F=((1+g - F+F:Nat):Int) from rfl,eM h,dU];exact(gK _ 1).symm
def zX(h:(g:Int)=s+F+1):s=g - 1 - F:=by rw[ik h];exact(fh s F).symm
def zY(h:(g:Int)=d+F+1):F<=g - 1:=by rw[ik h];exact iX F d
def zZ(h:(g:Int)=s+ -F+1):g+F=s+1:=ik (show(g:Int)+F=s+1 by rw[h,kZ,Int.neg_add_cancel_right])
def zAa(h:(g:Int)=s+ -F+1)(e:s≠F - 1):s=F+(g - 1):=by
 have z:=zZ h;cases g with
 | zero=>exact cG (by rw[dY] at z;rw[z];rfl) e
 | succ g=>rw[fg] at z;rw[<- gu z,dU];rfl
def zAb(h:g>=1):(g:Int)=((F+(g - 1):Nat):Int)+ -F+1:=by
 obtain⟨g,rfl⟩:=fM h;rw[d0,dU F,dU 1];exact cF (·+1) (Int.add_neg_cancel_right (g:Int) F).symm
def zAc(h:2<=F):F - 1<F:=gI (cM gn h) iz
def zAd(l:g<N)(h:(g:Int)=s+F - 1)(e:¬1+g<N):s+F=N:=zU h▸iu l (dU 1 g▸dZ e)
def zAe(h:(g:Int)=s+F):s=g - F:=by rw[ik h];exact(fh s F).symm
def zAf(h:g>=F):(g:Int)=((g - F:Nat):Int)+F:=cF fk (eM h).symm
def zCb(h:k<8):(c*8+k)%8=k:=by rw[Nat.mul_add_mod_self_right];exact hU h
def zAg(h:1<=k/\k<=5):1<=(c*8+k)%8/\(c*8+k)%8<=6:=by
 rw[zCb (ae h.2 ⋯)];exact⟨h.1,cO h.2 ⋯⟩
def zAh(h:1<=k/\k<=5)(e:(c*8+k)%8=1):k=1:=(zCb (ae h.2 ⋯)).symm.trans e
def zAi(h:k<4):(c*8+(k+2))%8<7:=by rw[zCb (cU (g6 h 2) ⋯)];exact cU (g6 h 2) ⋯
def zAj(h:0<x)(g:y<=x - 1):0<x - y:=gk (ae g (gI h iz))
def zAk(h:j<n):j+1+(n - (j+1))=n:=gV h
def zAl(h:0<n)(g:X<n):X.toNat<n:=(Int.toNat_lt' h).mpr g
def zAm(h:((g>=f/\p)/\p')/\p'')(l:g<21):0<=(g:Int) - f/\((g:Int) - f).toNat<64:=z64 (fG h.1.1.1).symm (ae (eJ _ _) (cU l ⋯))
def zAn(l:g<21)(h:f<=7):0<=(g:Int) - -f/\((g:Int) - -f).toNat<64:=z64 (Int.sub_neg (g:Int) f) (cU (Nat.add_lt_add_of_lt_of_le l h) ⋯)
def zAo(h:x=0\/x=1):¬x=3:=λe=>by subst e;exact cG h ⋯
def zAp(h:a*1+r=b)(g:r<a):a<=b/\b<a*2:=by subst h;exact⟨cO (hJ (kE a).symm) (de _ _),fN g _⟩
def zAq(h:p/\p'/\1<=v%8/\p''):¬v=0:=λe=>by subst e;exact cG h.2.2.1 ⋯
def zz0:s+F - 2*F*1=s - F:=by rw[kE,Nat.two_mul,Nat.add_sub_add_right]
def zAr(h:s<N):s+F - 2*F*1<N:=by rw[zz0];exact ae (eJ s F) h
def zAs:1 - s=0\/1 - s=1:=u2 f2
def zAt(h:¬b=0):-(b:Int)=-((b - 1:Nat):Int) - 1:=by
 obtain⟨n,rfl⟩:=gG h;exact Int.neg_add (a:=n) (b:=1)
def zAu(h:a<=x)(g:¬x=a):a<=x - 1:=Nat.le_sub_one_of_lt (ix h (dQ g))
def zAv(h:(t:Int)=s+X):(t - X).toNat=s:=by rw[h,gK];rfl
def zAw(h:F<=s/\p)(e:t=s+F - 2*F*1):(t:Int)=s+ -F:=by rw[e,zz0,fG h.1];rfl
def zAx(h:F<=s/\p)(e:(g:Int)=s+ -F):g=s+F - 2*F*1:=by rw[zz0];exact ik (e.trans (fG h.1).symm)
def zAy(h:F<=s)(e:t=s+F - 2*F*1):s=t+F:=by rw[e,zz0,eM h]
def zAz(h:p/\(g:Int)=s+X+1):(g - (X+1 - ((2*0:Nat):Int))).toNat=s:=by rw[show X+1 - ((2*0:Nat):Int)=X+1 from Int.sub_zero _,h.2,ij,gK];rfl
def zBa(h:p/\(g:Int)=s+X - 1):(g - (X+1 - ((2*1:Nat):Int))).toNat=s:=by rw[show X+1 - ((2*1:Nat):Int)=X+ -1 from lJ X 1 2,h.2,show(s:Int)+X - 1=s+(X+ -1) from ij _ _ _,gK];rfl
def zBb(h:x+3<1000):x+min j [4,3,2].length<1000:=ae (di (jI j 3) x) h
def zBc(h:i+1=L/\p):i=L - 1:=h.1▸rfl
def zBd(h:decide (1<n)=true):n - 1<n:=gI (cU iz (b9 h)) iz
def zBe(h:i+m=n)(g:i≠n):i+1+(m - 1)=n:=by
 cases m with
 | zero=>exact cG h g
 | succ m=>rw[fg];exact h
def zBf:a+5+i - a - 5=i:=by rw[Nat.sub_sub,d0]
def zBg:5<=a+5+i - a:=by rw[dG,d0];exact de 5 i
def zBh(h:j<n):min j n*21+21<=n*21:=zCc h (cX _) (cX _)
def zBi(h:x+N<1000)(g:L<=m)(e:m+21<=N):x+L+21<1000:=ae (dG x L 21▸di (cO (eB g 21) e) x) h
def zBj(g:s<L)(h:p/\x=y+(L - 1)):x+1=y+(L+1 - 1):=by
 rw[h.2,dG,eM (jw g)];rfl
def zBk(h:a<=b)(g:0<a):a - 1<b:=cM (gI g iz) h
def zBl(h:k<=n)(g:decide (k=0)=false):n - k<n:=have z:=ef (cj g);gI (cM z h) z
def zBm(h:y<=a):(a:Int) - y=((a - y:Nat):Int):=(fG h).symm
def zBn(g:(s*8+6)/8≠s):G:=cG (Sq rfl).1 g
def zBo(h:n<=k+1)(g:k<a)(e:a<=b):n - 1<b:=ae (kA h) (cM g e)
def zBp(h:x+1=n)(g:y+1=n):x - y=0:=by rw[gu (h.trans g.symm)];exact eD y
def zBq(h:x+2*y=a+y):a - y=x:=Nat.sub_eq_of_eq_add (Nat.add_right_cancel (m:=y) (by rw[<- h,Nat.two_mul,dG]))
def zCa(h:k<4):¬(c*8+2+k)%8=1:=by
 rw[dG,zCb (cU (fN h 2) ⋯),dU];exact λe=>cG (gu e) (iN k)
def zBr(h:k<4)(e:(c*8+2+k)%8=1):G:=cG e (zCa h)
def zBs(h:v<16)(g:1<=v%8/\v%8<=6):v<15:=(by decide:∀v<16,v%8<=6->v<15) v h g.2
def zBt(h:a+b=n+c)(g:d+f=a+k):d+(b+f)=n+(c+k):=by rw[lK,g,lK,<-dG,h,dG]
def zBu(g:k<=5)(h:c<2):c*8+k<16:=ae (g7 (dA 8 (dh h)) g) ⋯
def zBv(h:j<2):min j n<=1:=cO (iY j n) (dh h)
def zBw(h:n+k=m):((m:Int) - n).toNat=k:=by rw[<- h,Int.toNat_sub,d0]
def zDa(h:w<2)(l:g<21)(k:(1+g>=f/\p)/\p')(e:¬w=0):0<=(g:Int) - (f+1 - ((2*w:Nat):Int))/\((g:Int) - (f+1 - ((2*w:Nat):Int))).toNat<64:=by
 rw[(u2 h).resolve_left e];refine z64 (n:=1+g - f) ?_ (ae (eJ _ _) (cU (fN l 1) ⋯));rw[fG k.1.1,show(f:Int)+1 - ((2*1:Nat):Int)=f - 1 from lJ f 1 2,Int.sub_eq_add_neg,Int.neg_sub];show(g:Int)+(1+ -f)=1+g+ -f;rw[<- ij,Int.add_comm (g:Int) 1]
def zEa(h:c%16=0):∃k,c=2*(2*(2*(2*k))):=⟨c/16,by rw[<- kX 2 2 (c/16),<-kX 2 (2*2),<-kX 2];exact(kO (jS h)).symm⟩
def zEb(h:c%16=0):c%2=0:=by obtain⟨k,rfl⟩:=zEa h;exact gW _ _
def zEc(h:c%16=0):c/2%2=0:=by obtain⟨k,rfl⟩:=zEa h;rw[fo _ gn];exact gW _ _
def zEd(h:c%16=0):c/2/2%2=0:=by obtain⟨k,rfl⟩:=zEa h;rw[fo _ gn,fo _ gn];exact gW _ _
def zEe(h:c%16=0):c/2/2/2%2=0:=by obtain⟨k,rfl⟩:=zEa h;rw[fo _ gn,fo _ gn,fo _ gn];exact gW _ _
def zEf:c/2/2/2/2=c/16:=by rw[iD,iD,iD]
def zGb(h:0<L)(e:a+1+(L - 1)=L)(k:b+1=a):G:=by
 subst k;rw[dG,dU 1,eM h] at e;exact cG e (fc (Nat.lt_add_of_pos_left (fF b)))
def zHa(h:X.natAbs<2 ^ 64):-2 ^ 64<X:=Int.neg_lt_of_neg_lt (gJ (Int.natAbs_neg X▸Int.le_natAbs) (eC.mpr h))
def zHb(h:X.natAbs<2 ^ 64):X<2 ^ 64:=gJ Int.le_natAbs (eC.mpr h)
def zHc(h:-18446744073709551616<X/\X<18446744073709551616):X.natAbs<2 ^ 64:=by
 rcases Int.natAbs_eq X with e | e
 .exact eC.mp (e▸h.2)
 .exact eC.mp (Int.lt_of_neg_lt_neg (e▸h.1))
def zHd(h:0<X)(g:X<1000000):X.natAbs<2 ^ 30:=eC.mp (jT ((Int.natAbs_of_nonneg (hO h)).symm▸g) ⋯)
def zIa(h:L<=n - 1)(g:n<k):L<k:=ae (cO h (eJ _ _)) g
def zIb(h:x+N*21<1000)(g:L<=a*21)(e:a+b<=N):x+L+b*21<1000:=ae (dG x L _▸di (cO (eB g _) (jx a b 21▸dA 21 e)) x) h
def zIc{q:Bool}(h:(decide (0<=Y)&&decide (Y<=1000000)&&q)=true/\p)(g:n<=64):(n:Int)+Y<=2 ^ 27:=gx (Int.add_le_add (gr.mpr g) (b9 (cY.mp (cY.mp h.1).1).2)) ⋯
def zJa(h:x+c+(a+b)<k)(g:y<=c):x+y+a<k:=ae (g7 (di g x) (de a b)) h
def zJb(h:x+c+(a+b)<k)(g:y<=c)(e:z<=a):x+y+z+b<k:=ae (dG (x+y) z b▸g7 (di g x) (eB e b)) h
def zJc(h:a<=21)(g:y<=273)(e:z<=a*21):y+z+2<1000:=ae (eB (g7 g (cO e (dA 21 h))) 2) ⋯
def zJd(h:a+b<=21):0+273+(a*21+b*21)<1000:=ae (di (jx a b 21▸dA 21 h) (0+273)) ⋯
def zKa(h:i=a+k+1):i - a=k+1:=by rw[h,dG];exact d0 _ _
def zKb(h:N<=21)(e:c=N)(g:m<=c*25):m<1000000:=ae (cO g (dA 25 (e▸h))) ⋯
def zMa(h:s<x+c)(g:c<=d)(e:d<=f):¬x+f=s:=λz=>cG h (fV.mpr (z▸di (cO g e) x))
def zNa(h:x=1 - x):G:=zK h rfl
def zNb:x%2=1↔¬x%2=0:=⟨λh e=>cG (h.symm.trans e) iZ,(dI x).resolve_left⟩
def zOa(h:x+168<1000)(g:L<=m*84)(e:m<=1):x+L+84<1000:=ae (dG x L 84▸di (eB (cO g (dA 84 e)) 84) x) h
def zOb(h:a<2)(g:b<2)(e:a=1↔b=1):a=b:=(u2 g).elim (λz=>((u2 h).resolve_right λy=>cG (e.mp y) (z▸Nat.zero_ne_one)).trans z.symm) λz=>(e.mpr z).trans z.symm
def zPa(e:c=n)(h:j<=n):min j c+(n - j)=n:=by rw[e,i0 h,gV h]
def zPb(h:(decide (a<=b)||decide (a<=c))=true)(g:b<a)(e:c<a):G:=((ei.mp h).elim (λz=>cG (b9 z) (Nat.not_le.mpr g)) λz=>cG (b9 z) (Nat.not_le.mpr e))
def zPc(h:(f:Int)<F)(g:x+F<=m):x+f<m:=cM (fN (eC.mp h) x) g
def zPd(h:f<F)(g:x+F<=m):x+f<m:=cM (fN h x) g
def zPe(h:f<F)(g:x+1*F<=m):x+f<m:=zPd h (kF F▸g)
def zPf(h:x=1 - s/\p)(e:x=s):G:=zK h.1 e
def zPg:n - 1<=n+1 - 1:=eJ n 1
def zPh(e:g+y=x)(h:x<=24):g<1000:=ae (cO (de g y) (e▸h)) ⋯
def zPi(h:0<=X)(g:X<n):X.toNat<n:=(jf h).mpr g
def zPj(h:s<N):k<k+(N - s):=fp (gk h)
def zPk(h:a+b=c+d)(e:x=y):a+x+b=c+y+d:=by rw[e,fg,h,fg]
def zPl(h:a+40*(d+1)+200<k):a+3+40*d+200<k:=ae (eB (dG a 3 _▸di (dU 3 (40*d)▸di ⋯ (40*d)) a) 200) h
def zPm(h:a+4*(d+1)<k):a+1+4*d<k:=ae (dG a 1 _▸di (dU 1 (4*d)▸di ⋯ (4*d)) a) h
def zPn(h:p/\x/8=s)(g:x%8=1):x=s*8+1:=by rw[<- g,<-h.2,fQ];exact(f9 x 8).symm
def zPo(h:a<=b)(g:c<=d):c+a<=b+d:=dU a c▸g7 h g
def zPp(h:x+2<k)(g:L<=m)(e:m<=1):x+L<k:=ae (di (cO g (cO e ⋯)) x) h
def zPq(h:s<2)(g:x=2*s\/x=2*s+1):x<4:=g.elim (λe=>e▸ae (ib 2 (dh h)) ⋯) λe=>e▸ae (eB (ib 2 (dh h)) 1) ⋯
def zPr(h:a<1000000000):-18446744073709551616<(a:Int)/\(a:Int)<18446744073709551616:=⟨gL ⋯ (dR a),jT (eC.mpr h) ⋯⟩
def zPs(h:k<=m):k/c<=m:=cO (my k c) h
def zPt(h:m<=n)(g:decide (m≠0)=true):m/2<n:=cM (Nat.div_lt_self (ef (b9 g)) ⋯) h
def zPu(h:k<a*2):k/2<a:=g8 (fQ a 2▸h)
def zPv(h:0<k)(g:k<n)(e:k%16=0)(l:n<=2 ^ 4):G:=cG (hU (cM g l)▸e) (fc h)
def zPw(h:¬(q=0\/q=R - 1))(g:q<R):q+1<R:=ix g λe=>h (.inr (e▸rfl))
def zPx(h:i<c)(g:c+F*1<=m):i+F<m:=cM (g6 h F) (kE F▸g)
def zPy:(X%12).toNat<12:=(jf (mu X ⋯)).mpr (Int.emod_lt_of_pos X ⋯)
def zPz(h:X≠2*(F:Int)/\p):¬X=((2*F:Nat):Int):=h.1
def zQa(h:i+m=n)(g:i≠n):m - 1<m:=gI (ef λe=>g (by rw[<- h,e];rfl)) iz
def zQb(h:x/8=s)(e:¬s=0):¬x=1:=λz=>e (by rw[<- h,z])
def zQc(h:¬x%8=6)(e:x=s*8+6):G:=cG (Sq e).2.1 h
def zQd(h:¬n=i):i<n+1↔i<n:=⟨λz=>ix (dh z) (dQ h),λz=>gY z⟩
def zQe(h:x=c*8+6):x/8=c:=(Sq h).1
def zQf(h:x+2*y=a+b):(a:Int)+b - 2*y=x:=by rw[show(a:Int)+b=x+2*y from(cF fk h).symm,gK]
def zQg(h:r=a+b):min a r=a:=i0 (h▸de a b)
def zQh(h:k=2\/k=3\/k=4\/k=5\/k=6):k<7:=by rcases h with rfl | rfl | rfl | rfl | rfl<;>decide
def zQi(h:a<=b)(g:s<=0):s+a<=b:=by rw[Nat.le_zero.mp g,dY];exact h
def zQj:x%2<=1:=dh (mQ _ gn)
def zQk(h:x<16):x/8<2:=g8 h
end
end
end Mine.Lake
local macro_rules (kind := Lean.Parser.Tactic.lia) | s => Mine.Lake.mO s
namespace Mine.Lake
noncomputable section
section
open PySem
def nP{α β:Type}(a:Nonempty α)(b:Nonempty β):Nonempty (α × β):=a.elim λa=>b.elim λb=>⟨(a,b)⟩
section
variable{A B C D E F G H I Q K L M N O:Type}
abbrev tp1(P:A->Prop):=λz=>@lM _ z λc=>¬P c
def hk1{z}{P:A->Prop}(q:P (tp1 P z))(a):P a:=cJ λk=>@jV _ (λc=>¬P c) ⟨a,k⟩ q
abbrev tp2(P:A->B->Prop):=λz=>@lM (A × B) z λc=>¬P c.1 c.2
def hk2{z}{P:A->B->Prop}(q:P (tp2 P z).1 (tp2 P z).2)(a b):P a b:=cJ λk=>@jV _ (λc:A × B=>¬P c.1 c.2) ⟨(a,b),k⟩ q
abbrev tp3(P:A->B->C->Prop):=λz=>tp2 (λc:A × B=>P c.1 c.2) z
def hk3{z}{P:A->B->C->Prop}(q:P (tp3 P z).1.1 (tp3 P z).1.2 (tp3 P z).2)(a b c):P a b c:=hk2 (P:=λc=>P c.1 c.2) q (a,b) c
abbrev tp4(P:A->B->C->D->Prop):=λz=>tp3 (λc:A × B=>P c.1 c.2) z
def hk4{z}{P:A->B->C->D->Prop}(q:P (tp4 P z).1.1.1 (tp4 P z).1.1.2 (tp4 P z).1.2 (tp4 P z).2)(a b c d):P a b c d:=hk3 (P:=λc=>P c.1 c.2) q (a,b) c d
abbrev tp5(P:A->B->C->D->E->Prop):=λz=>tp4 (λc:A × B=>P c.1 c.2) z
def hk5{z}{P:A->B->C->D->E->Prop}(q:P (tp5 P z).1.1.1.1 (tp5 P z).1.1.1.2 (tp5 P z).1.1.2 (tp5 P z).1.2 (tp5 P z).2)(a b c d e):P a b c d e:=hk4 (P:=λc=>P c.1 c.2) q (a,b) c d e
abbrev tp6(P:A->B->C->D->E->F->Prop):=λz=>tp5 (λc:A × B=>P c.1 c.2) z
def hk6{z}{P:A->B->C->D->E->F->Prop}(q:P (tp6 P z).1.1.1.1.1 (tp6 P z).1.1.1.1.2 (tp6 P z).1.1.1.2 (tp6 P z).1.1.2 (tp6 P z).1.2 (tp6 P z).2)(a b c d e f):P a b c d e f:=hk5 (P:=λc=>P c.1 c.2) q (a,b) c d e f
abbrev tp7(P:A->B->C->D->E->F->G->Prop):=λz=>tp6 (λc:A × B=>P c.1 c.2) z
def hk7{z}{P:A->B->C->D->E->F->G->Prop}(q:P (tp7 P z).1.1.1.1.1.1 (tp7 P z).1.1.1.1.1.2 (tp7 P z).1.1.1.1.2 (tp7 P z).1.1.1.2 (tp7 P z).1.1.2 (tp7 P z).1.2 (tp7 P z).2)(a b c d e f g):P a b c d e f g:=hk6 (P:=λc=>P c.1 c.2) q (a,b) c d e f g
abbrev tp8(P:A->B->C->D->E->F->G->H->Prop):=λz=>tp7 (λc:A × B=>P c.1 c.2) z
def hk8{z}{P:A->B->C->D->E->F->G->H->Prop}(q:P (tp8 P z).1.1.1.1.1.1.1 (tp8 P z).1.1.1.1.1.1.2 (tp8 P z).1.1.1.1.1.2 (tp8 P z).1.1.1.1.2 (tp8 P z).1.1.1.2 (tp8 P z).1.1.2 (tp8 P z).1.2 (tp8 P z).2)(a b c d e f g h):P a b c d e f g h:=hk7 (P:=λc=>P c.1 c.2) q (a,b) c d e f g h
abbrev tp9(P:A->B->C->D->E->F->G->H->I->Prop):=λz=>tp8 (λc:A × B=>P c.1 c.2) z
def hk9{z}{P:A->B->C->D->E->F->G->H->I->Prop}(q:P (tp9 P z).1.1.1.1.1.1.1.1 (tp9 P z).1.1.1.1.1.1.1.2 (tp9 P z).1.1.1.1.1.1.2 (tp9 P z).1.1.1.1.1.2 (tp9 P z).1.1.1.1.2 (tp9 P z).1.1.1.2 (tp9 P z).1.1.2 (tp9 P z).1.2 (tp9 P z).2)(a b c d e f g h i):P a b c d e f g h i:=hk8 (P:=λc=>P c.1 c.2) q (a,b) c d e f g h i
abbrev tp10(P:A->B->C->D->E->F->G->H->I->Q->Prop):=λz=>tp9 (λc:A × B=>P c.1 c.2) z
def hk10{z}{P:A->B->C->D->E->F->G->H->I->Q->Prop}(q:P (tp10 P z).1.1.1.1.1.1.1.1.1 (tp10 P z).1.1.1.1.1.1.1.1.2 (tp10 P z).1.1.1.1.1.1.1.2 (tp10 P z).1.1.1.1.1.1.2 (tp10 P z).1.1.1.1.1.2 (tp10 P z).1.1.1.1.2 (tp10 P z).1.1.1.2 (tp10 P z).1.1.2 (tp10 P z).1.2 (tp10 P z).2)(a b c d e f g h i j):P a b c d e f g h i j:=hk9 (P:=λc=>P c.1 c.2) q (a,b) c d e f g h i j
abbrev tp11(P:A->B->C->D->E->F->G->H->I->Q->K->Prop):=λz=>tp10 (λc:A × B=>P c.1 c.2) z
def hk11{z}{P:A->B->C->D->E->F->G->H->I->Q->K->Prop}(q:P (tp11 P z).1.1.1.1.1.1.1.1.1.1 (tp11 P z).1.1.1.1.1.1.1.1.1.2 (tp11 P z).1.1.1.1.1.1.1.1.2 (tp11 P z).1.1.1.1.1.1.1.2 (tp11 P z).1.1.1.1.1.1.2 (tp11 P z).1.1.1.1.1.2 (tp11 P z).1.1.1.1.2 (tp11 P z).1.1.1.2 (tp11 P z).1.1.2 (tp11 P z).1.2 (tp11 P z).2)(a b c d e f g h i j k):P a b c d e f g h i j k:=hk10 (P:=λc=>P c.1 c.2) q (a,b) c d e f g h i j k
abbrev tp12(P:A->B->C->D->E->F->G->H->I->Q->K->L->Prop):=λz=>tp11 (λc:A × B=>P c.1 c.2) z
def hk12{z}{P:A->B->C->D->E->F->G->H->I->Q->K->L->Prop}(q:P (tp12 P z).1.1.1.1.1.1.1.1.1.1.1 (tp12 P z).1.1.1.1.1.1.1.1.1.1.2 (tp12 P z).1.1.1.1.1.1.1.1.1.2 (tp12 P z).1.1.1.1.1.1.1.1.2 (tp12 P z).1.1.1.1.1.1.1.2 (tp12 P z).1.1.1.1.1.1.2 (tp12 P z).1.1.1.1.1.2 (tp12 P z).1.1.1.1.2 (tp12 P z).1.1.1.2 (tp12 P z).1.1.2 (tp12 P z).1.2 (tp12 P z).2)(a b c d e f g h i j k l):P a b c d e f g h i j k l:=hk11 (P:=λc=>P c.1 c.2) q (a,b) c d e f g h i j k l
abbrev tp13(P:A->B->C->D->E->F->G->H->I->Q->K->L->M->Prop):=λz=>tp12 (λc:A × B=>P c.1 c.2) z
def hk13{z}{P:A->B->C->D->E->F->G->H->I->Q->K->L->M->Prop}(q:P (tp13 P z).1.1.1.1.1.1.1.1.1.1.1.1 (tp13 P z).1.1.1.1.1.1.1.1.1.1.1.2 (tp13 P z).1.1.1.1.1.1.1.1.1.1.2 (tp13 P z).1.1.1.1.1.1.1.1.1.2 (tp13 P z).1.1.1.1.1.1.1.1.2 (tp13 P z).1.1.1.1.1.1.1.2 (tp13 P z).1.1.1.1.1.1.2 (tp13 P z).1.1.1.1.1.2 (tp13 P z).1.1.1.1.2 (tp13 P z).1.1.1.2 (tp13 P z).1.1.2 (tp13 P z).1.2 (tp13 P z).2)(a b c d e f g h i j k l m):P a b c d e f g h i j k l m:=hk12 (P:=λc=>P c.1 c.2) q (a,b) c d e f g h i j k l m
abbrev tp14(P:A->B->C->D->E->F->G->H->I->Q->K->L->M->N->Prop):=λz=>tp13 (λc:A × B=>P c.1 c.2) z
def hk14{z}{P:A->B->C->D->E->F->G->H->I->Q->K->L->M->N->Prop}(q:P (tp14 P z).1.1.1.1.1.1.1.1.1.1.1.1.1 (tp14 P z).1.1.1.1.1.1.1.1.1.1.1.1.2 (tp14 P z).1.1.1.1.1.1.1.1.1.1.1.2 (tp14 P z).1.1.1.1.1.1.1.1.1.1.2 (tp14 P z).1.1.1.1.1.1.1.1.1.2 (tp14 P z).1.1.1.1.1.1.1.1.2 (tp14 P z).1.1.1.1.1.1.1.2 (tp14 P z).1.1.1.1.1.1.2 (tp14 P z).1.1.1.1.1.2 (tp14 P z).1.1.1.1.2 (tp14 P z).1.1.1.2 (tp14 P z).1.1.2 (tp14 P z).1.2 (tp14 P z).2)(a b c d e f g h i j k l m n):P a b c d e f g h i j k l m n:=hk13 (P:=λc=>P c.1 c.2) q (a,b) c d e f g h i j k l m n
abbrev tp15(P:A->B->C->D->E->F->G->H->I->Q->K->L->M->N->O->Prop):=λz=>tp14 (λc:A × B=>P c.1 c.2) z
def hk15{z}{P:A->B->C->D->E->F->G->H->I->Q->K->L->M->N->O->Prop}(q:P (tp15 P z).1.1.1.1.1.1.1.1.1.1.1.1.1.1 (tp15 P z).1.1.1.1.1.1.1.1.1.1.1.1.1.2 (tp15 P z).1.1.1.1.1.1.1.1.1.1.1.1.2 (tp15 P z).1.1.1.1.1.1.1.1.1.1.1.2 (tp15 P z).1.1.1.1.1.1.1.1.1.1.2 (tp15 P z).1.1.1.1.1.1.1.1.1.2 (tp15 P z).1.1.1.1.1.1.1.1.2 (tp15 P z).1.1.1.1.1.1.1.2 (tp15 P z).1.1.1.1.1.1.2 (tp15 P z).1.1.1.1.1.2 (tp15 P z).1.1.1.1.2 (tp15 P z).1.1.1.2 (tp15 P z).1.1.2 (tp15 P z).1.2 (tp15 P z).2)(a b c d e f g h i j k l m n o):P a b c d e f g h i j k l m n o:=hk14 (P:=λc=>P c.1 c.2) q (a,b) c d e f g h i j k l m n o
end
end
end
end Mine.Lake
local macro_rules (kind := Lean.Elab.Tactic.Ext.ext) | s => Mine.Lake.mI s
section
local macro_rules (kind := Lean.Parser.Term.tuple) | s => Mine.Lake.mK s
namespace MineH.Lake
noncomputable section
noncomputable abbrev pw:nJ:=PySem.Challenge.pw_nt0468_01
abbrev em(i:Nat):Stmt:=(pw.main.body.drop i).headD default
abbrev Kl(s:Stmt)(i:Nat):Stmt:=if h:s.ctorIdx=2 then Stmt.ClassDef.elim s h (λw w w b w w w w w w w=>(b.drop i).headD default) else s
abbrev Bv(st:Stmt)(qn:String):FuncData:=if h:st.ctorIdx=0 then kj st h (λname args body w w w scope w w w=>{name:=name,qualname:=bb qn,params:=args,body:=.stmts body,scope:=scope,globals:=builtinsNs,closure:=[],defaults:=.none,kwdefaults:=.none}) else default
abbrev S(s:String)(t:Nat):nf:=.str (bb s) t
abbrev I(i:Int)(t:Nat):nf:=.int i t
abbrev E(P:nu)(s:String)(t:Nat)(v:nf):nH:=⟨gD P (bb s),.str (bb s) t,v⟩
abbrev eR(P:nu)(l:List (String × Nat × Nat)):List nH:=l.map λx=>E P x.1 x.2.1 (.ref x.2.2)
abbrev Se:Nat->List Int->List nf
 | _,[]=>[]
 | b,i::l=>I i 0::I 0 0::.ref b::Se (b+7) l
abbrev qR(xs:List nf):Obj:={cls:=.type "tuple",data:=.seq xs.toArray}
abbrev lsO(xs:List nf)(n:Nat):Obj:={cls:=.type "list",data:=.seq xs.toArray n}
abbrev y9(es:List nH)(n:Nat):Obj:={cls:=.type "dict",data:=.dict es.toArray n}
abbrev ddO(c:nf)(es:List nH)(n:Nat):Obj:={cls:=c,data:=.dict es.toArray n}
abbrev Sg(st:Stmt)(qn:String):Obj:={cls:=.none,data:=.func (Bv st qn)}
abbrev C4(st:Stmt)(qn:String)(m c:nf):Obj:={cls:=.type "function",data:=.func {Bv st qn with globals:=mainNs,pyModule:=m,code:=c}}
abbrev Au(nm qn:String)(t line na:Nat)(fl a1 b a3 a2 vn vt fd:nf)(x:Nat):Obj:=
 {cls:=.type "code",data:=.fields #[S nm t,S qn (t+1),S "/claim/cut.py" (t+2),I line 0,I na 0,I 0 0,I 0 0,fl,a1,b,a3,a2,.none,vn,vt,fd,I x 0,I line 0,S "/claim/cut.py" (x+1)]}
abbrev wd(c:nf)(d:Option Addr)(xs:List nf)(sl:List (Option nf)):Obj:={cls:=c,dict:=d,data:=.fields xs.toArray,slots:=sl.toArray}
abbrev XA(c:nf)(d:Option Addr)(sl:List (Option nf)):Obj:={cls:=c,dict:=d,data:=.plain,slots:=sl.toArray}
abbrev TL(c:nf)(d:Option Addr)(nm:String)(bases mro:List nf)(ns:Addr)(qn:String)(hd:Bool)(_nsl:Nat)(subs:List nf)(ab dl:Bool)(co:Option Bool)(sl:List (Option nf)):Obj:=
 {cls:=c,dict:=d,data:=.cls {name:=bb nm,bases:=bases,mro:=mro,ns:=ns,qualname:=bb qn,hasDict:=hd,subclasses:=subs,abstract:=ab,collection:=co,hasDel:=dl},slots:=sl.toArray}
abbrev tX(xs:List nf):Obj->Obj
 | ⟨c,d,.fields vs,s⟩=>⟨c,d,.fields (vs.toList++xs).toArray,s⟩
 | o=>o
abbrev nmS:List String->Nat->List nf
 | [],_=>[]
 | s::r,t=>S s t::nmS r (t+1)
abbrev m0:nf:=S "chess.kinds" 187
abbrev m1:nf:=S "chess.bits" 278
abbrev m2:nf:=S "chess.lines" 312
abbrev m3:nf:=S "chess.geometry" 401
abbrev m4:nf:=S "chess.sliders" 562
abbrev m5:nf:=S "chess.position" 629
abbrev m6:nf:=S "chess.attacks" 728
abbrev m7:nf:=S "chess.castling" 865
abbrev m8:nf:=S "chess.piecemoves" 917
abbrev m9:nf:=S "chess.pawnmoves" 956
abbrev Pw:nf:=S "chess.evasions" 1094
abbrev Vt:nf:=S "chess.legality" 1129
abbrev Wm:nf:=S "chess.movegen" 1168
abbrev tZ:nf:=S "chess.draws" 1192
abbrev y8:nf:=S "chess.makemove" 1336
abbrev Nr:nf:=S "law_nt0468_01" 1486
abbrev cB(q:String)(t l n a k:Nat):Obj:=Au q q t l n (I 3 0) (.ref a) (.bool true) (I 181 0) (.ref (a+1)) (.ref (a+2)) (.ref (a+3)) (.ref (a+4)) (t+3+k)
abbrev fB(m:nf)(st:Stmt)(q:String)(t l n a:Nat)(vs:List String)(r:List Obj):List Obj:=qR []::wd .none U [] []::qR (nmS vs (t+3))::qR []::Sg st q::cB q t l n a vs.length::C4 st q m (.ref (a+5))::r
abbrev kB(m:nf)(st:Stmt)(q:String)(t l n a k:Nat)(r:Frag):Frag:=(a+5,cB q t l n a k)::(a+6,C4 st q m (.ref (a+5)))::r
abbrev xV(ov:List (Nat × nf))(es:List nH):List nH:=ov.foldl (λes iv=>es.modify iv.1 λe=>⟨e.hash,e.key,iv.2⟩) es
abbrev wI:BT->Nat->List Obj->BT
 | af,_,[]=>af
 | af,n,o::r=>wI (af.ins n o) (n+1) r
noncomputable abbrev o9:Life:={}
abbrev oP:Env:={scope:=pw.main.scope,locals:=mainNs,globals:=mainNs,cells:=[],code:=.ref 13,frame:=J 14}
noncomputable abbrev cE:Code:=.body (behindTheImports pw) oP
noncomputable abbrev B0:List Frame:=[topFrame ⟨0,0,0,0⟩]
noncomputable abbrev pC(w:nK):=PySem.W.Fast.tw10110043849684766642 fT pw w 11 (J (.ref 6)) 1
abbrev Zz(P:nu):List nH:=[E P "__name__" 165 (S "__main__" 164),E P "__doc__" 166 .none,E P "__package__" 167 .none,E P "__loader__" 168 (.builtin "__main__.__loader__#opaque"),E P "__spec__" 169 .none,E P "__annotations__" 170 (.ref 6),E P "__builtins__" 171 (.ref 4),E P "__file__" 173 (S "/claim/cut.py" 172),E P "__cached__" 174 .none]
abbrev YN(P:nu):List Obj:=[boot_o_0 P,
 boot_o_1 P,
 boot_o_2 P,
 boot_o_3 P,
 boot_o_4 P,
 boot_o_5 P,
 boot_o_6 P,
 boot_o_7 P,
 boot_o_8 P,
 boot_o_9 P,
 XA (.type "frame") U [J (.ref 9),J (.ref 3),J (.ref 3),U,J (S "__main__" 164),U,J (.ref 0)],
 qR [],
 wd .none U [] [],
 Au "<module>" "<module>" 182 1 0 (I 0 0) (.ref 11) (.bool false) (I 181 0) (.ref 12) .none .none .none 185,
 XA (.type "frame") U [J (.ref 13),J (.ref 3),J (.ref 3),U,J (S "__main__" 164),U,J (.ref 0)]]
abbrev T0(P:nu):BT:=wI .nil 0 (YN P)
abbrev Zy(P:nu):List Obj:=fB m0 (em 15) "make_piece" 217 16 2 15 ["side","kind"] <|
 fB m0 (em 16) "side_of" 225 18 1 22 ["piece"] <|
 fB m0 (em 17) "kind_of" 232 20 1 29 ["piece"] <|
 fB m0 (em 18) "pack_move" 239 22 4 36 ["origin","to","special","promo","field"] <|
 fB m0 (em 19) "move_from" 250 27 1 43 ["move"] <|
 fB m0 (em 20) "move_to" 257 29 1 50 ["move"] <|
 fB m0 (em 21) "move_special" 264 31 1 57 ["move"] <|
 fB m0 (em 22) "move_promo" 271 33 1 64 ["move"] <|
 []
abbrev V9(P:nu):List nH:=xV [(0,S "chess.bits" 278)] (Zz P)++[E P "WHITE" 190 (I 0 189),E P "BLACK" 192 (I 1 191),E P "NO_KIND" 194 (I 0 193),E P "PAWN" 196 (I 1 195),E P "KNIGHT" 198 (I 2 197),E P "BISHOP" 200 (I 3 199),E P "ROOK" 202 (I 4 201),E P "QUEEN" 204 (I 5 203),E P "KING" 206 (I 6 205),E P "EMPTY" 208 (I 0 207),E P "NORMAL" 210 (I 0 209),E P "PROMOTION" 212 (I 1 211),E P "EN_PASSANT" 214 (I 2 213),E P "CASTLING" 216 (I 3 215)]++eR P [("make_piece",224,21),("side_of",231,28),("kind_of",238,35),("pack_move",249,42),("move_from",256,49),("move_to",263,56),("move_special",270,63),("move_promo",277,70)]
abbrev T1(P:nu):BT:=(((wI (T0 P) 15 (Zy P)).set 3 (λw=>y9 (V9 P) 31)).set 12 (tX (Se 20 [16,18,20,22,27,29,31,33])))
def Xb(w:nK)(os:nE):pC w 382 ⟨T0 w.params,15,o9,#[],nj,187,os⟩ (piecesOf ((pw.main.body.drop 0).take 24) oP cE ⟨0,0,0,0⟩ B0)=J (.next,⟨T1 w.params,71,o9,#[],nj,280,os⟩,cE,⟨37,0,37,8⟩):=()
abbrev YK(P:nu):List Obj:=fB m1 (em 24) "more_than_one" 280 38 1 71 ["b"] <|
 fB m1 (em 25) "highest" 287 40 1 78 ["b","width","square"] <|
 fB m1 (em 26) "lowest" 296 53 1 85 ["b"] <|
 fB m1 (em 27) "squares_of" 303 55 1 92 ["b","out","square"] <|
 fB m2 (em 29) "direction" 314 68 3 99 ["geo","a","b","d"] <|
 fB m2 (em 30) "between" 324 73 3 106 ["geo","a","b","d"] <|
 fB m2 (em 31) "line" 334 78 3 113 ["geo","a","b","d"] <|
 fB m2 (em 32) "aligned" 344 83 4 120 ["geo","a","b","c"] <|
 []
abbrev VQ(P:nu):List nH:=xV [(0,S "chess.errors" 354)] (V9 P)++eR P [("more_than_one",286,77),("highest",295,84),("lowest",302,91),("squares_of",311,98),("direction",323,105),("between",333,112),("line",343,119),("aligned",353,126)]
abbrev T2(P:nu):BT:=(((wI (T1 P) 71 (YK P)).set 3 (λw=>y9 (VQ P) 39)).set 12 (tX (Se 76 [38,40,53,55,68,73,78,83])))
def WY(w:nK)(os:nE):pC w 267 ⟨T1 w.params,71,o9,#[],nj,280,os⟩ (piecesOf ((pw.main.body.drop 24).take 10) oP cE ⟨37,0,37,8⟩ B0)=J (.next,⟨T2 w.params,127,o9,#[],nj,356,os⟩,cE,⟨85,0,85,8⟩):=()
abbrev Zv(P:nu):List Obj:=[qR [.type "Exception"],
 wd (.type "builtin_function_or_method") U [.builtin "type.__prepare__",.type "type"] [],
 y9 [E P "__module__" 363 (S "chess.errors" 354),E P "__qualname__" 365 (S "ChessError" 364),E P "__firstlineno__" 367 (I 86 366),E P "__init__" 375 (.ref 140),E P "__static_attributes__" 377 (.ref 141)] 5,
 qR [],
 wd .none U [I 88 0,I 4 0,.ref 139] [],
 Au "ChessError" "ChessError" 358 86 0 (I 0 0) (.ref 130) (.bool false) (I 181 0) (.ref 131) .none .none .none 361,
 XA (.type "frame") U [J (.ref 132),J (.ref 3),J (.ref 129),U,J (S "chess.errors" 354),U,J (.ref 0)],
 qR [],
 wd .none U [] [],
 qR [S "self" 371,S "text" 372],
 qR [],
 Sg (Kl (em 34) 0) "ChessError.__init__",
 Au "__init__" "ChessError.__init__" 368 88 2 (I 3 0) (.ref 134) (.bool true) (I 181 0) (.ref 135) (.ref 136) (.ref 137) (.ref 138) 373,
 C4 (Kl (em 34) 0) "ChessError.__init__" (S "chess.errors" 354) (.ref 139),
 qR [S "text" 376],
 y9 ([E P "__module__" 363 (S "chess.errors" 354),E P "__firstlineno__" 367 (I 86 366)]++eR P [("__init__",375,140),("__static_attributes__",377,141),("__weakref__",379,144)]++[E P "__doc__" 380 .none]) 3,
 TL (.type "type") U "ChessError" [.type "Exception"] [.ref 143,.type "Exception",.type "BaseException",.type "object"] 142 "ChessError" true 0 [] false false U [J (.ref 127),U,J (S "ChessError" 356),J (S "ChessError" 364),J (.builtin "Exception.__new__"),J (.bool true)],
 wd (.type "getset_descriptor") U [S "__weakref__" 378,.ref 143,.builtin "ExceptionGroup.__weakref__",.none] [],
 wd (.type "super") U [.ref 143,.ref 143,.ref 143] [],
 wd (.type "builtin_function_or_method") U [.builtin "object.__init_subclass__",.ref 143] []]
abbrev VS(P:nu):List nH:=xV [] (VQ P)++[E P "ChessError" 384 (.ref 143)]
abbrev T3(P:nu):BT:=((((wI (T2 P) 127 (Zv P)).set 3 (λw=>y9 (VS P) 40)).set 2 (λw=>ddO .none [E P "type.__subclasses__.Exception.0" 381 (I 143 0),E P "type.__subclasses__.Exception.n" 382 (I 1 0)] 2)).set 12 (tX [I 86 0,I 0 0,.ref 132]))
def Xn(w:nK)(os:nE):pC w 229 ⟨T2 w.params,127,o9,#[],nj,356,os⟩ (piecesOf ((pw.main.body.drop 34).take 1) oP cE ⟨85,0,85,8⟩ B0)=J (.next,⟨T3 w.params,147,o9,#[],nj,385,os⟩,cE,⟨86,0,90,24⟩):=()
abbrev YX(P:nu):List Obj:=[qR [.ref 143],
 wd (.type "builtin_function_or_method") U [.builtin "type.__prepare__",.type "type"] [],
 y9 [E P "__module__" 392 (S "chess.errors" 354),E P "__qualname__" 394 (S "BadMove" 393),E P "__firstlineno__" 396 (I 91 395),E P "__static_attributes__" 397 (.ref 154)] 4,
 qR [],
 wd .none U [] [],
 Au "BadMove" "BadMove" 387 91 0 (I 0 0) (.ref 150) (.bool false) (I 181 0) (.ref 151) .none .none .none 390,
 XA (.type "frame") U [J (.ref 152),J (.ref 3),J (.ref 149),U,J (S "chess.errors" 354),U,J (.ref 0)],
 qR [],
 y9 [E P "__module__" 392 (S "chess.errors" 354),E P "__firstlineno__" 396 (I 91 395),E P "__static_attributes__" 397 (.ref 154),E P "__doc__" 398 .none] 2,
 TL (.type "type") U "BadMove" [.ref 143] [.ref 156,.ref 143,.type "Exception",.type "BaseException",.type "object"] 155 "BadMove" true 0 [] false false U [J (.ref 147),U,J (S "BadMove" 385),J (S "BadMove" 393),J (.builtin "Exception.__new__"),J (.bool true)],
 wd (.type "super") U [.ref 156,.ref 156,.ref 156] [],
 wd (.type "builtin_function_or_method") U [.builtin "object.__init_subclass__",.ref 156] [],
 qR [I 0 403,I 1 404,I 0 405,I (-1) 407,I 1 408,I 1 409,I (-1) 411,I (-1) 413],
 qR [I 1 415,I 0 416,I (-1) 418,I 0 419,I 1 420,I (-1) 422,I (-1) 424,I 1 425]]
abbrev Wg(P:nu):List nH:=xV [(0,S "chess.geometry" 401)] (VS P)++eR P [("BadMove",400,156),("STEP_FILES",414,159),("STEP_RANKS",426,160)]
abbrev T4(P:nu):BT:=((((wI (T3 P) 147 (YX P)).set 3 (λw=>y9 (Wg P) 43)).set 12 (tX [I 91 0,I 0 0,.ref 152])).set 143 (λw=>TL (.type "type") U "ChessError" [.type "Exception"] [.ref 143,.type "Exception",.type "BaseException",.type "object"] 142 "ChessError" true 0 [.ref 156] false false U [J (.ref 127),U,J (S "ChessError" 356),J (S "ChessError" 364),J (.builtin "Exception.__new__"),J (.bool true)]))
def WB(w:nK)(os:nE):pC w 289 ⟨T3 w.params,147,o9,#[],nj,385,os⟩ (piecesOf ((pw.main.body.drop 35).take 4) oP cE ⟨86,0,90,24⟩ B0)=J (.next,⟨T4 w.params,161,o9,#[],nj,427,os⟩,cE,⟨95,0,95,10⟩):=()
abbrev YA(P:nu):List Obj:=fx [qR [],
 wd (.type "builtin_function_or_method") U [.builtin "type.__prepare__",.type "type"] [],
 y9 [E P "__module__" 434 (S "chess.geometry" 401),E P "__qualname__" 436 (S "Geometry" 435),E P "__firstlineno__" 438 (I 96 437),E P "__init__" 449 (.ref 174),E P "__static_attributes__" 464 (.ref 175)] 5,
 qR [],
 wd .none U [I 98 0,I 4 0,.ref 173] [],
 Au "Geometry" "Geometry" 429 96 0 (I 0 0) (.ref 164) (.bool false) (I 181 0) (.ref 165) .none .none .none 432,
 XA (.type "frame") U [J (.ref 166),J (.ref 3),J (.ref 163),U,J (S "chess.geometry" 401),U,J (.ref 0)],
 qR [],
 wd .none U [] [],
 qR [S "self" 442,S "files" 443,S "ranks" 444,S "has_double" 445,S "has_castling" 446],
 qR [],
 Sg (Kl (em 39) 0) "Geometry.__init__",
 Au "__init__" "Geometry.__init__" 439 98 5 (I 3 0) (.ref 168) (.bool true) (I 181 0) (.ref 169) (.ref 170) (.ref 171) (.ref 172) 447,
 C4 (Kl (em 39) 0) "Geometry.__init__" (S "chess.geometry" 401) (.ref 173),
 qR [S "castles" 450,S "file_masks" 451,S "files" 452,S "full" 453,S "has_castling" 454,S "has_double" 455,S "king" 456,S "knight" 457,S "pawn" 458,S "rank_masks" 459,S "ranks" 460,S "rays" 461,S "rights_lost" 462,S "size" 463],
 y9 ([E P "__module__" 434 (S "chess.geometry" 401),E P "__firstlineno__" 438 (I 96 437)]++eR P [("__init__",449,174),("__static_attributes__",464,175),("__dict__",466,178),("__weakref__",468,179)]++[E P "__doc__" 469 .none]) 4,
 TL (.type "type") U "Geometry" [.type "object"] [.ref 177,.type "object"] 176 "Geometry" true 0 [] false false U [U,U,J (S "Geometry" 427),J (S "Geometry" 435),J (.builtin "object.__new__"),J (.bool true)],
 wd (.type "getset_descriptor") U [S "__dict__" 465,.ref 177,.builtin "function.__dict__",.builtin "function.__dict__#set"] [],
 wd (.type "getset_descriptor") U [S "__weakref__" 467,.ref 177,.builtin "ExceptionGroup.__weakref__",.none] [],
 wd (.type "super") U [.ref 177,.ref 177,.ref 177] [],
 wd (.type "builtin_function_or_method") U [.builtin "object.__init_subclass__",.ref 177] []] <|
 fB m3 (em 40) "is_growing" 472 113 1 182 ["d"] <|
 fB m3 (em 41) "add_masks" 479 115 1 189 ["geo","row","column","r","f"] <|
 fB m3 (em 42) "inner_squares" 490 123 2 196 ["geo","d","edge"] <|
 fB m3 (em 43) "add_rays" 499 134 1 203 ["geo","d","inner","delta","ray","order","square","goal"] <|
 fB m3 (em 44) "add_pawns" 513 149 1 210 ["geo","square"] <|
 []
abbrev VF(P:nu):List nH:=xV [] (Wg P)++eR P [("Geometry",471,177),("is_growing",478,188),("add_masks",489,195),("inner_squares",498,202),("add_rays",512,209),("add_pawns",520,216)]
abbrev T5(P:nu):BT:=(((wI (T4 P) 161 (YA P)).set 3 (λw=>y9 (VF P) 49)).set 12 (tX [I 96 0,I 0 0,.ref 166,I 113 0,I 0 0,.ref 187,I 115 0,I 0 0,.ref 194,I 123 0,I 0 0,.ref 201,I 134 0,I 0 0,.ref 208,I 149 0,I 0 0,.ref 215]))
def Xr(w:nK)(os:nE):pC w 398 ⟨T4 w.params,161,o9,#[],nj,427,os⟩ (piecesOf ((pw.main.body.drop 39).take 6) oP cE ⟨95,0,95,10⟩ B0)=J (.next,⟨T5 w.params,217,o9,#[],nj,521,os⟩,cE,⟨149,0,152,90⟩):=()
abbrev Z1(P:nu):List Obj:=fB m3 (em 45) "add_knights" 521 153 1 217 ["geo","files","not_first","not_last","not_first_two","not_last_two","square","b","near","far","found"] <|
 fB m3 (em 46) "add_castles" 538 165 1 224 ["geo","start","index","base","corner","way","goal"] <|
 fB m3 (em 47) "make_geometry" 551 182 4 231 ["files","ranks","has_double","has_castling","geo"] <|
 fB m4 (em 49) "ray_attacks" 564 193 4 238 ["geo","d","square","occupied","ray","stop","behind"] <|
 fB m4 (em 50) "rook_attacks" 577 208 3 245 ["geo","square","occupied","found","d"] <|
 fB m4 (em 51) "bishop_attacks" 588 213 3 252 ["geo","square","occupied","found","d"] <|
 fB m4 (em 52) "queen_attacks" 599 218 3 259 ["geo","square","occupied"] <|
 fB m4 (em 53) "slider_attacks" 608 220 4 266 ["geo","kind","square","occupied"] <|
 fB m4 (em 54) "piece_attacks" 618 228 5 273 ["geo","side","kind","square","occupied"] <|
 []
abbrev Wc(P:nu):List nH:=xV [(0,S "chess.position" 629)] (VF P)++eR P [("add_knights",537,223),("add_castles",550,230),("make_geometry",561,237),("ray_attacks",576,244),("rook_attacks",587,251),("bishop_attacks",598,258),("queen_attacks",607,265),("slider_attacks",617,272),("piece_attacks",628,279)]
abbrev T6(P:nu):BT:=(((wI (T5 P) 217 (Z1 P)).set 3 (λw=>y9 (Wc P) 58)).set 12 (tX (Se 222 [153,165,182,193,208,213,218,220,228])))
def Xm(w:nK)(os:nE):pC w 323 ⟨T5 w.params,217,o9,#[],nj,521,os⟩ (piecesOf ((pw.main.body.drop 45).take 11) oP cE ⟨149,0,152,90⟩ B0)=J (.next,⟨T6 w.params,280,o9,#[],nj,631,os⟩,cE,⟨236,0,236,8⟩):=()
abbrev YB(P:nu):List Obj:=fx [qR [],
 wd (.type "builtin_function_or_method") U [.builtin "type.__prepare__",.type "type"] [],
 y9 [E P "__module__" 638 (S "chess.position" 629),E P "__qualname__" 640 (S "Position" 639),E P "__firstlineno__" 642 (I 237 641),E P "__init__" 651 (.ref 293),E P "__static_attributes__" 664 (.ref 294)] 5,
 qR [],
 wd .none U [I 239 0,I 4 0,.ref 292] [],
 Au "Position" "Position" 633 237 0 (I 0 0) (.ref 283) (.bool false) (I 181 0) (.ref 284) .none .none .none 636,
 XA (.type "frame") U [J (.ref 285),J (.ref 3),J (.ref 282),U,J (S "chess.position" 629),U,J (.ref 0)],
 qR [],
 wd .none U [] [],
 qR [S "self" 646,S "geo" 647,S "zob" 648],
 qR [],
 Sg (Kl (em 56) 0) "Position.__init__",
 Au "__init__" "Position.__init__" 643 239 3 (I 3 0) (.ref 287) (.bool true) (I 181 0) (.ref 288) (.ref 289) (.ref 290) (.ref 291) 649,
 C4 (Kl (em 56) 0) "Position.__init__" (S "chess.position" 629) (.ref 292),
 qR [S "board" 652,S "ep" 653,S "full" 654,S "geo" 655,S "half" 656,S "history" 657,S "key" 658,S "kinds" 659,S "rights" 660,S "side" 661,S "sides" 662,S "zob" 663],
 y9 ([E P "__module__" 638 (S "chess.position" 629),E P "__firstlineno__" 642 (I 237 641)]++eR P [("__init__",651,293),("__static_attributes__",664,294),("__dict__",666,297),("__weakref__",668,298)]++[E P "__doc__" 669 .none]) 4,
 TL (.type "type") U "Position" [.type "object"] [.ref 296,.type "object"] 295 "Position" true 0 [] false false U [U,U,J (S "Position" 631),J (S "Position" 639),J (.builtin "object.__new__"),J (.bool true)],
 wd (.type "getset_descriptor") U [S "__dict__" 665,.ref 296,.builtin "function.__dict__",.builtin "function.__dict__#set"] [],
 wd (.type "getset_descriptor") U [S "__weakref__" 667,.ref 296,.builtin "ExceptionGroup.__weakref__",.none] [],
 wd (.type "super") U [.ref 296,.ref 296,.ref 296] [],
 wd (.type "builtin_function_or_method") U [.builtin "object.__init_subclass__",.ref 296] []] <|
 fB m5 (em 57) "put_piece" 672 252 3 301 ["pos","piece","s","bit"] <|
 fB m5 (em 58) "take_piece" 682 258 2 308 ["pos","s","piece","bit"] <|
 fB m5 (em 59) "shift_piece" 692 266 3 315 ["pos","a","b","piece","bits","numbers"] <|
 fB m5 (em 60) "occupied" 704 275 1 322 ["pos"] <|
 fB m5 (em 61) "pieces" 711 277 3 329 ["pos","side","kind"] <|
 []
abbrev VV(P:nu):List nH:=xV [] (Wc P)++eR P [("Position",671,296),("put_piece",681,307),("take_piece",691,314),("shift_piece",703,321),("occupied",710,328),("pieces",719,335)]
abbrev T7(P:nu):BT:=(((wI (T6 P) 280 (YB P)).set 3 (λw=>y9 (VV P) 64)).set 12 (tX [I 237 0,I 0 0,.ref 285,I 252 0,I 0 0,.ref 306,I 258 0,I 0 0,.ref 313,I 266 0,I 0 0,.ref 320,I 275 0,I 0 0,.ref 327,I 277 0,I 0 0,.ref 334]))
def XG(w:nK)(os:nE):pC w 393 ⟨T6 w.params,280,o9,#[],nj,631,os⟩ (piecesOf ((pw.main.body.drop 56).take 6) oP cE ⟨236,0,236,8⟩ B0)=J (.next,⟨T7 w.params,336,o9,#[],nj,720,os⟩,cE,⟨277,0,278,44⟩):=()
abbrev ZA(P:nu):List Obj:=fB m5 (em 62) "king_square" 720 279 2 336 ["pos","side"] <|
 fB m6 (em 64) "straight_sliders" 730 282 1 343 ["pos"] <|
 fB m6 (em 65) "slanting_sliders" 737 284 1 350 ["pos"] <|
 fB m6 (em 66) "pawn_attackers" 744 286 3 357 ["pos","square","side"] <|
 fB m6 (em 67) "step_attackers" 753 288 3 364 ["pos","square","side","geo","near"] <|
 fB m6 (em 68) "line_attackers" 764 293 3 371 ["pos","square","occupied","hits","straight","slanting"] <|
 fB m6 (em 69) "attackers_to" 776 302 3 378 ["pos","square","occupied","steps"] <|
 fB m6 (em 70) "is_attacked" 786 305 4 385 ["pos","square","side","occupied","geo","own","straight","slanting"] <|
 fB m6 (em 71) "checkers_of" 800 315 2 392 ["pos","side","everything"] <|
 fB m6 (em 72) "checkers" 809 318 1 399 ["pos"] <|
 fB m6 (em 73) "in_check_of" 816 320 2 406 ["pos","side","everything"] <|
 fB m6 (em 74) "in_check" 825 323 1 413 ["pos"] <|
 []
abbrev Vq(P:nu):List nH:=xV [(0,S "chess.attacks" 728)] (VV P)++eR P [("king_square",727,342),("straight_sliders",736,349),("slanting_sliders",743,356),("pawn_attackers",752,363),("step_attackers",763,370),("line_attackers",775,377),("attackers_to",785,384),("is_attacked",799,391),("checkers_of",808,398),("checkers",815,405),("in_check_of",824,412),("in_check",831,419)]
abbrev T8(P:nu):BT:=(((wI (T7 P) 336 (ZA P)).set 3 (λw=>y9 (Vq P) 76)).set 12 (tX (Se 341 [279,282,284,286,288,293,302,305,315,318,320,323])))
def X0(w:nK)(os:nE):pC w 384 ⟨T7 w.params,336,o9,#[],nj,720,os⟩ (piecesOf ((pw.main.body.drop 62).take 13) oP cE ⟨277,0,278,44⟩ B0)=J (.next,⟨T8 w.params,420,o9,#[],nj,832,os⟩,cE,⟨323,0,324,37⟩):=()
abbrev Zp(P:nu):List Obj:=fB m6 (em 75) "snipers_of" 832 325 2 420 ["pos","side","king","hits"] <|
 fB m6 (em 76) "blockers" 842 330 2 427 ["pos","side","king","snipers","standing","held","pinners","sniper","inside"] <|
 fB m6 (em 77) "pinned_pieces" 857 343 2 434 ["pos","side"] <|
 fB m7 (em 86) "squares_within" 881 353 2 441 ["a","b"] <|
 fB m7 (em 87) "castle_refusal" 889 357 2 448 ["pos","index","wing","king_from","king_to","rook_from","rook_to","whole","enemy"] <|
 fB m7 (em 88) "add_castling" 904 375 2 455 ["pos","out","index","king_from","king_to","rook_from","rook_to"] <|
 fB m8 (em 93) "add_goals" 925 384 3 462 ["origin","goals","out","goal"] <|
 fB m8 (em 94) "add_piece_moves" 935 387 4 469 ["pos","kind","target","out","whole","origin","reach"] <|
 []
abbrev Vx(P:nu):List nH:=xV [(0,S "chess.piecemoves" 917)] (Vq P)++eR P [("snipers_of",841,426),("blockers",856,433),("pinned_pieces",864,440)]++[E P "MAY" 868 (I 0 867),E P "NO_WING" 870 (I 1 869),E P "RIGHT_LOST" 872 (I 2 871),E P "NOT_FREE" 874 (I 3 873),E P "IN_CHECK" 876 (I 4 875),E P "PASSES_ATTACK" 878 (I 5 877),E P "GOAL_ATTACKED" 880 (I 6 879)]++eR P [("squares_within",888,447),("castle_refusal",903,454),("add_castling",916,461)]++[E P "CAPTURES" 920 (I 0 919),E P "QUIETS" 922 (I 1 921),E P "EVASIONS" 924 (I 3 923),E P "add_goals" 934 (.ref 468),E P "add_piece_moves" 947 (.ref 475)]
abbrev T9(P:nu):BT:=(((wI (T8 P) 420 (Zp P)).set 3 (λw=>y9 (Vx P) 94)).set 12 (tX (Se 425 [325,330,343,353,357,375,384,387])))
def XJ(w:nK)(os:nE):pC w 377 ⟨T8 w.params,420,o9,#[],nj,832,os⟩ (piecesOf ((pw.main.body.drop 75).take 20) oP cE ⟨323,0,324,37⟩ B0)=J (.next,⟨T9 w.params,476,o9,#[],nj,948,os⟩,cE,⟨387,0,391,46⟩):=()
abbrev Yd(P:nu):List Obj:=fB m8 (em 95) "stage_target" 948 392 2 476 ["pos","stage"] <|
 fB m9 (em 97) "push_step" 958 399 2 483 ["geo","side"] <|
 fB m9 (em 98) "start_mask" 966 403 2 490 ["geo","side"] <|
 fB m9 (em 99) "last_mask" 974 407 2 497 ["geo","side"] <|
 fB m9 (em 100) "shift_push" 982 411 3 504 ["geo","b","side"] <|
 fB m9 (em 101) "shift_capture" 991 415 4 511 ["geo","b","side","wing"] <|
 fB m9 (em 102) "push_targets" 1001 419 2 518 ["pos","side","geo","empty","pawns","ones","twos","passed"] <|
 fB m9 (em 103) "add_promotions" 1015 429 5 525 ["origin","to","stage","is_capture","out","with_lesser","kind"] <|
 fB m9 (em 104) "add_plain_pushes" 1028 441 3 532 ["pos","target","out","geo","step","ones","twos","goal"] <|
 fB m9 (em 105) "add_push_promotions" 1042 449 4 539 ["pos","stage","target","out","geo","step","ones","goal"] <|
 fB m9 (em 106) "add_pawn_captures" 1056 455 4 546 ["pos","stage","target","out","geo","side","last","pawns","hits","wing","step","goal"] <|
 []
abbrev Sv(P:nu):List nH:=xV [(0,S "chess.pawnmoves" 956)] (Vx P)++eR P [("stage_target",955,482),("push_step",965,489),("start_mask",973,496),("last_mask",981,503),("shift_push",990,510),("shift_capture",1000,517),("push_targets",1014,524),("add_promotions",1027,531),("add_plain_pushes",1041,538),("add_push_promotions",1055,545),("add_pawn_captures",1073,552)]
abbrev T10(P:nu):BT:=(((wI (T9 P) 476 (Yd P)).set 3 (λw=>y9 (Sv P) 105)).set 12 (tX (Se 481 [392,399,403,407,411,415,419,429,441,449,455])))
def TJ(w:nK)(os:nE):pC w 376 ⟨T9 w.params,476,o9,#[],nj,948,os⟩ (piecesOf ((pw.main.body.drop 95).take 12) oP cE ⟨387,0,391,46⟩ B0)=J (.next,⟨T10 w.params,553,o9,#[],nj,1074,os⟩,cE,⟨455,0,467,73⟩):=()
abbrev XO(P:nu):List Obj:=fB m9 (em 107) "add_pawn_moves" 1074 468 4 553 ["pos","stage","target","out"] <|
 fB m9 (em 108) "add_en_passant" 1084 474 2 560 ["pos","out","origins","origin"] <|
 fB Pw (em 110) "evasion_targets" 1096 481 2 567 ["pos","given"] <|
 fB Pw (em 111) "passed_pawn_square" 1104 485 1 574 ["pos"] <|
 fB Pw (em 112) "may_answer_en_passant" 1111 489 2 581 ["pos","target"] <|
 fB Pw (em 113) "add_evasions" 1119 493 2 588 ["pos","out","target","kind"] <|
 fB Vt (em 115) "taken_square" 1131 503 2 595 ["pos","move","goal"] <|
 fB Vt (em 117) "is_safe_en_passant" 1141 511 2 602 ["pos","move","taken","goal","everything","behind","hits"] <|
 fB Vt (em 118) "is_legal" 1154 518 3 609 ["pos","move","pinned","special","origin","goal","king","lifted"] <|
 fB Wm (em 120) "generate" 1170 534 2 616 ["pos","stage","out","target","kind"] <|
 fB Wm (em 121) "has_legal_move" 1181 548 1 623 ["pos","stages","pinned","stage","move"] <|
 []
abbrev RM(P:nu):List nH:=xV [(0,S "chess.draws" 1192)] (Sv P)++eR P [("add_pawn_moves",1083,559),("add_en_passant",1093,566),("evasion_targets",1103,573),("passed_pawn_square",1110,580),("may_answer_en_passant",1118,587),("add_evasions",1128,594),("taken_square",1139,601),("taken_square_legality",1140,601),("is_safe_en_passant",1153,608),("is_legal",1167,615),("generate",1180,622),("has_legal_move",1191,629)]
abbrev T11(P:nu):BT:=(((wI (T10 P) 553 (XO P)).set 3 (λw=>y9 (RM P) 117)).set 12 (tX (Se 558 [468,474,481,485,489,493,503,511,518,534,548])))
def Ui(w:nK)(os:nE):pC w 400 ⟨T10 w.params,553,o9,#[],nj,1074,os⟩ (piecesOf ((pw.main.body.drop 107).take 16) oP cE ⟨455,0,467,73⟩ B0)=J (.next,⟨T11 w.params,630,o9,#[],nj,1194,os⟩,cE,⟨556,0,556,8⟩):=()
abbrev WA(P:nu):List Obj:=fB tZ (em 130) "reversible_plies" 1208 564 1 630 ["pos"] <|
 fB tZ (em 131) "key_before" 1215 568 2 637 ["pos","plies"] <|
 fB tZ (em 132) "repetitions" 1223 572 1 644 ["pos","found","plies"] <|
 fB tZ (em 133) "is_repetition" 1232 578 2 651 ["pos","times"] <|
 fB tZ (em 134) "repetition_distance" 1240 580 1 658 ["pos","first","plies"] <|
 fB tZ (em 135) "has_repeated" 1249 588 1 665 ["pos","end","near","far"] <|
 fB tZ (em 136) "is_checkmate" 1259 595 1 672 ["pos"] <|
 fB tZ (em 137) "is_stalemate" 1266 597 1 679 ["pos"] <|
 fB tZ (em 138) "is_fifty" 1273 599 1 686 ["pos"] <|
 fB tZ (em 139) "square_colour" 1280 601 2 693 ["geo","square"] <|
 fB tZ (em 140) "bishops_on_one_colour" 1288 603 1 700 ["pos","seen","square"] <|
 []
abbrev So(P:nu):List nH:=xV [] (RM P)++[E P "ONGOING" 1195 (I 0 1194),E P "CHECKMATE" 1197 (I 1 1196),E P "STALEMATE" 1199 (I 2 1198),E P "FIFTY" 1201 (I 3 1200),E P "REPETITION" 1203 (I 4 1202),E P "MATERIAL" 1205 (I 5 1204),E P "FIFTY_PLIES" 1207 (I 100 1206)]++eR P [("reversible_plies",1214,636),("key_before",1222,643),("repetitions",1231,650),("is_repetition",1239,657),("repetition_distance",1248,664),("has_repeated",1258,671),("is_checkmate",1265,678),("is_stalemate",1272,685),("is_fifty",1279,692),("square_colour",1287,699),("bishops_on_one_colour",1296,706)]
abbrev T12(P:nu):BT:=(((wI (T11 P) 630 (WA P)).set 3 (λw=>y9 (So P) 135)).set 12 (tX (Se 635 [564,568,572,578,580,588,595,597,599,601,603])))
def TV(w:nK)(os:nE):pC w 395 ⟨T11 w.params,630,o9,#[],nj,1194,os⟩ (piecesOf ((pw.main.body.drop 123).take 18) oP cE ⟨556,0,556,8⟩ B0)=J (.next,⟨T12 w.params,707,o9,#[],nj,1297,os⟩,cE,⟨603,0,607,20⟩):=()
abbrev XS(P:nu):List Obj:=fB tZ (em 141) "is_insufficient" 1297 608 1 707 ["pos","kinds"] <|
 fB tZ (em 142) "is_draw_by_rule" 1305 615 1 714 ["pos"] <|
 fB tZ (em 143) "is_draw_in_search" 1312 617 2 721 ["pos","ply","distance"] <|
 fB tZ (em 144) "outcome" 1321 622 1 728 ["pos"] <|
 fB tZ (em 145) "result_text" 1328 634 1 735 ["pos","state"] <|
 fB y8 (em 147) "moved_piece" 1338 644 2 742 ["pos","move","origin","piece"] <|
 fB y8 (em 148) "taken_square" 1348 652 2 749 ["pos","move","goal"] <|
 fB y8 (em 150) "rook_step" 1358 660 3 756 ["geo","side","goal","index","wing"] <|
 fB y8 (em 151) "passed_square" 1369 666 4 763 ["pos","side","origin","goal","files","passed","enemies"] <|
 fB y8 (em 152) "kept_rights" 1382 675 3 770 ["pos","origin","goal","lost"] <|
 fB y8 (em 153) "clear_ep_key" 1392 678 1 777 ["pos"] <|
 fB y8 (em 154) "set_ep_key" 1399 682 2 784 ["pos","square"] <|
 []
abbrev Q6(P:nu):List nH:=xV [(0,S "chess.makemove" 1336),(111,.ref 755)] (So P)++eR P [("is_insufficient",1304,713),("is_draw_by_rule",1311,720),("is_draw_in_search",1320,727),("outcome",1327,734),("result_text",1335,741),("moved_piece",1347,748),("taken_square_makemove",1357,755),("rook_step",1368,762),("passed_square",1381,769),("kept_rights",1391,776),("clear_ep_key",1398,783),("set_ep_key",1406,790)]
abbrev T13(P:nu):BT:=(((wI (T12 P) 707 (XS P)).set 3 (λw=>y9 (Q6 P) 147)).set 12 (tX (Se 712 [608,615,617,622,634,644,652,660,666,675,678,682])))
def UH(w:nK)(os:nE):pC w 391 ⟨T12 w.params,707,o9,#[],nj,1297,os⟩ (piecesOf ((pw.main.body.drop 141).take 14) oP cE ⟨603,0,607,20⟩ B0)=J (.next,⟨T13 w.params,791,o9,#[],nj,1407,os⟩,cE,⟨682,0,685,19⟩):=()
abbrev XU(P:nu):List Obj:=fB y8 (em 155) "set_rights_key" 1407 686 2 791 ["pos","rights"] <|
 fB y8 (em 156) "do_move" 1415 690 2 798 ["pos","move","piece","side","origin","goal","special","rook","where","taken"] <|
 fB y8 (em 157) "undo_move" 1431 722 1 805 ["pos","move","taken","rights","ep","half","key","side","origin","goal","special","rook"] <|
 [qR [],
 wd (.type "builtin_function_or_method") U [.builtin "type.__prepare__",.type "type"] [],
 y9 [E P "__module__" 1458 (S "chess.zobrist" 1449),E P "__qualname__" 1460 (S "Zobrist" 1459),E P "__firstlineno__" 1462 (I 748 1461),E P "__init__" 1473 (.ref 825),E P "__static_attributes__" 1478 (.ref 826)] 5,
 qR [],
 wd .none U [I 750 0,I 4 0,.ref 824] [],
 Au "Zobrist" "Zobrist" 1453 748 0 (I 0 0) (.ref 815) (.bool false) (I 181 0) (.ref 816) .none .none .none 1456,
 XA (.type "frame") U [J (.ref 817),J (.ref 3),J (.ref 814),U,J (S "chess.zobrist" 1449),U,J (.ref 0)],
 qR [],
 wd .none U [] [],
 qR [S "self" 1466,S "pieces" 1467,S "ep" 1468,S "rights" 1469,S "side" 1470],
 qR [],
 Sg (Kl (em 159) 0) "Zobrist.__init__",
 Au "__init__" "Zobrist.__init__" 1463 750 5 (I 3 0) (.ref 819) (.bool true) (I 181 0) (.ref 820) (.ref 821) (.ref 822) (.ref 823) 1471,
 C4 (Kl (em 159) 0) "Zobrist.__init__" (S "chess.zobrist" 1449) (.ref 824),
 qR [S "ep" 1474,S "pieces" 1475,S "rights" 1476,S "side" 1477],
 y9 ([E P "__module__" 1458 (S "chess.zobrist" 1449),E P "__firstlineno__" 1462 (I 748 1461)]++eR P [("__init__",1473,825),("__static_attributes__",1478,826),("__dict__",1480,829),("__weakref__",1482,830)]++[E P "__doc__" 1483 .none]) 4,
 TL (.type "type") U "Zobrist" [.type "object"] [.ref 828,.type "object"] 827 "Zobrist" true 0 [] false false U [U,U,J (S "Zobrist" 1451),J (S "Zobrist" 1459),J (.builtin "object.__new__"),J (.bool true)],
 wd (.type "getset_descriptor") U [S "__dict__" 1479,.ref 828,.builtin "function.__dict__",.builtin "function.__dict__#set"] [],
 wd (.type "getset_descriptor") U [S "__weakref__" 1481,.ref 828,.builtin "ExceptionGroup.__weakref__",.none] [],
 wd (.type "super") U [.ref 828,.ref 828,.ref 828] [],
 wd (.type "builtin_function_or_method") U [.builtin "object.__init_subclass__",.ref 828] []]
abbrev S5(P:nu):List nH:=xV [(0,S "law_nt0468_01" 1486)] (Q6 P)++eR P [("set_rights_key",1414,797),("do_move",1430,804),("undo_move",1448,811),("Zobrist",1485,828)]
abbrev T14(P:nu):BT:=(((wI (T13 P) 791 (XU P)).set 3 (λw=>y9 (S5 P) 151)).set 12 (tX (Se 796 [686,690,722,748])))
def UL(w:nK)(os:nE):pC w 355 ⟨T13 w.params,791,o9,#[],nj,1407,os⟩ (piecesOf ((pw.main.body.drop 155).take 6) oP cE ⟨682,0,685,19⟩ B0)=J (.next,⟨T14 w.params,833,o9,#[],nj,1488,os⟩,cE,⟨755,0,755,8⟩):=()
abbrev X9(P:nu):List Obj:=fx [qR [I 0 1488,I 1 1489],
 qR [I 1 1490,I 0 1491],
 qR [I 0 1492,I (-1) 1494],
 qR [I (-1) 1496,I 0 1497],
 qR [I 1 1498,I 1 1499],
 qR [I 1 1500,I (-1) 1502],
 qR [I (-1) 1504,I (-1) 1506],
 qR [I (-1) 1508,I 1 1509],
 lsO [.ref 833,.ref 834,.ref 835,.ref 836,.ref 837,.ref 838,.ref 839,.ref 840] 0,
 qR [I 1 1511,I 2 1512],
 qR [I 2 1513,I 1 1514],
 qR [I 2 1515,I (-1) 1517],
 qR [I 1 1518,I (-2) 1520],
 qR [I (-1) 1522,I (-2) 1524],
 qR [I (-2) 1526,I (-1) 1528],
 qR [I (-2) 1530,I 1 1531],
 qR [I (-1) 1533,I 2 1534],
 lsO [.ref 842,.ref 843,.ref 844,.ref 845,.ref 846,.ref 847,.ref 848,.ref 849] 0] <|
 fB Nr (em 163) "_law_hits" 1536 758 4 851 ["files","ranks","cells","start","kind","ways","up","found","over","file","rank"] <|
 fB Nr (em 164) "_law_safe" 1553 781 5 858 ["files","ranks","cells","goal","side","start"] <|
 fx [qR [],
 wd .none U [] [],
 Sg (em 165) "_law_goals",
 Au "_law_goals" "_law_goals" 1565 786 4 (I 3 0) (.ref 865) (.bool true) (I 181 0) (.ref 866) .none .none (.ref 867) 1568,
 C4 (em 165) "_law_goals" (S "law_nt0468_01" 1486) (.ref 868)] <|
 fB Nr (em 166) "_law_fits" 1571 796 5 870 ["files","ranks","cells","start","to","side","after"] <|
 fx [qR [],
 wd .none U [] [],
 Sg (em 167) "_law_pick",
 Au "_law_pick" "_law_pick" 1584 802 5 (I 3 0) (.ref 877) (.bool true) (I 181 0) (.ref 878) .none .none (.ref 879) 1587,
 C4 (em 167) "_law_pick" (S "law_nt0468_01" 1486) (.ref 880)] <|
 fB Nr (em 168) "_law_back" 1590 812 5 882 ["files","ranks","cells","side","way"] <|
 fB Nr (em 169) "_law_kept" 1601 816 4 889 ["files","ranks","cells","rights","kept","i","home","corner"] <|
 []
abbrev QX(P:nu):List nH:=xV [] (S5 P)++eR P [("_law_kings",1510,841),("_law_jumps",1535,850),("_law_hits",1552,857),("_law_safe",1564,864),("_law_goals",1570,869),("_law_fits",1583,876),("_law_pick",1589,881),("_law_back",1600,888),("_law_kept",1614,895)]
abbrev T15(P:nu):BT:=(((wI (T14 P) 833 (X9 P)).set 3 (λw=>y9 (QX P) 160)).set 12 (tX [I 758 0,I 0 0,.ref 856,I 781 0,I 0 0,.ref 863,I 786 0,I 0 0,.ref 868,I 796 0,I 0 0,.ref 875,I 802 0,I 0 0,.ref 880,I 812 0,I 0 0,.ref 887,I 816 0,I 0 0,.ref 894]))
def Ux(w:nK)(os:nE):pC w 384 ⟨T14 w.params,833,o9,#[],nj,1488,os⟩ (piecesOf ((pw.main.body.drop 161).take 9) oP cE ⟨755,0,755,8⟩ B0)=J (.next,⟨T15 w.params,896,o9,#[],nj,1615,os⟩,cE,⟨816,0,823,15⟩):=()
abbrev Yl(P:nu):List Obj:=fx [qR [],
 wd .none U [] [],
 Sg (em 170) "_law_bare",
 Au "_law_bare" "_law_bare" 1615 824 2 (I 3 0) (.ref 896) (.bool true) (I 181 0) (.ref 897) .none .none (.ref 898) 1618,
 C4 (em 170) "_law_bare" (S "law_nt0468_01" 1486) (.ref 899),
 qR [],
 wd .none U [] [],
 Sg (em 171) "_law_agrees",
 Au "_law_agrees" "_law_agrees" 1621 829 7 (I 3 0) (.ref 901) (.bool true) (I 181 0) (.ref 902) .none .none (.ref 903) 1624,
 C4 (em 171) "_law_agrees" (S "law_nt0468_01" 1486) (.ref 904)] <|
 fB Nr (em 172) "_law_cells" 1627 862 5 906 ["files","ranks","side","rights","numbers","size","cells","i","white","k","s","n","kind"] <|
 [qR [],
 wd .none U [] [],
 Sg (em 173) "_law_position",
 Au "_law_position" "_law_position" 1646 886 6 (I 3 0) (.ref 913) (.bool true) (I 181 0) (.ref 914) .none .none (.ref 915) 1649,
 C4 (em 173) "_law_position" (S "law_nt0468_01" 1486) (.ref 916),
 qR [],
 wd .none U [] [],
 Sg (em 174) "law",
 Au "law" "law" 1652 904 1 (I 3 0) (.ref 918) (.bool true) (I 181 0) (.ref 919) .none .none (.ref 920) 1655,
 C4 (em 174) "law" (S "law_nt0468_01" 1486) (.ref 921)]
abbrev HV(P:nu):List nH:=xV [] (QX P)++eR P [("_law_bare",1620,900),("_law_agrees",1626,905),("_law_cells",1645,912),("_law_position",1651,917),("law",1657,922)]
abbrev Yo(P:nu):BT:=(((wI (T15 P) 896 (Yl P)).set 3 (λw=>y9 (HV P) 165)).set 12 (tX [I 824 0,I 0 0,.ref 899,I 829 0,I 0 0,.ref 904,I 862 0,I 0 0,.ref 911,I 886 0,I 0 0,.ref 916,I 904 0,I 0 0,.ref 921]))
def UJ(w:nK)(os:nE):pC w 146 ⟨T15 w.params,896,o9,#[],nj,1615,os⟩ (piecesOf ((pw.main.body.drop 170).take 5) oP cE ⟨816,0,823,15⟩ B0)=J (.next,⟨Yo w.params,923,o9,#[],nj,1658,os⟩,cE,⟨904,0,954,90⟩):=()
noncomputable abbrev E5:Option nf:=J (.ref 6)
noncomputable abbrev H0(P:nu):Heap:=boot_heap P
noncomputable abbrev HE(P:nu):Heap:=absHeap (Yo P) 923 o9
def abb(w:nK)(os:nE):PySem.W.Fast.tw15667345088766844465 fT pw w 11 E5 12 ⟨H0 w.params,#[],nj,181,os⟩ (topStub pw)=
  J (⟨absHeap (T0 w.params) 15 o9,#[],nj,187,os⟩,⟨PySem.W.Fast.tw11892475500146522536 fT cE,cE,⟨0,0,0,0⟩,B0⟩):=()
def aa5(w:nK)(os:nE):topGo treeTable pw w 11 E5 12 ⟨H0 w.params,#[],nj,181,os⟩ (topStub pw)=
  J (⟨absHeap (T0 w.params) 15 o9,#[],nj,187,os⟩,⟨denote treeTable cE,cE,⟨0,0,0,0⟩,B0⟩):=by
 have h:=abb w os;rw[<- PySem.W.Fast.te15667345088766844465,<-ip,<-PySem.W.Fast.te11892475500146522536] at h;exact h
def WG(w:nK)(s:ni):segRun treeTable pw w 11 E5 1 1 s (blockOf (behindTheImports pw) oP cE ⟨0,0,0,0⟩ B0)=J (.next,s,cE,⟨0,0,0,0⟩):=()
def aaO(w:nK)(s:ni)(p:Pos):topRun treeTable pw w 11 E5 2 s (restOf (pw.main.body.drop 175) oP cE p B0)=J s:=()
def aa6(h:pC w N s t=r):segRunT treeTable pw w 11 E5 1 N s t=r:=by
 unfold pC at h;rw[<- PySem.W.Fast.te10110043849684766642,<-ip] at h;exact h
def rH(h:pC w N s (piecesOf ((pw.main.body.drop i).take k) oP cE p B0)=J (.next,s',cE,p'))(hj:i+k=j)
  (x:topRun treeTable pw w 11 E5 M s'.abs (restOf (pw.main.body.drop j) oP cE p' B0)=J r):topRun treeTable pw w 11 E5 (N+M) s.abs (restOf (pw.main.body.drop i) oP cE p B0)=J r:=by
 subst hj;have y:=piece_app (segRun_of (aa6 h)) x;rw[<- List.drop_drop,gR] at y;exact y
def YD:behindTheImports pw=pw.main.body.drop 0:=()
def aaB(x:topRun treeTable pw w 11 E5 N s (restOf (pw.main.body.drop 0) oP cE p B0)=J r):topRun treeTable pw w 11 E5 N s (restOf (behindTheImports pw) oP cE p B0)=J r:=by
 rw[YD];exact x
abbrev c16(w:nK)(os:nE):=rH (UJ w os) (show 170+5=175 from rfl) (aaO w _ _)
abbrev c15(w:nK)(os:nE):=rH (Ux w os) (show 161+9=170 from rfl) (c16 w os)
abbrev c14(w:nK)(os:nE):=rH (UL w os) (show 155+6=161 from rfl) (c15 w os)
abbrev c13(w:nK)(os:nE):=rH (UH w os) (show 141+14=155 from rfl) (c14 w os)
abbrev c12(w:nK)(os:nE):=rH (TV w os) (show 123+18=141 from rfl) (c13 w os)
abbrev c11(w:nK)(os:nE):=rH (Ui w os) (show 107+16=123 from rfl) (c12 w os)
abbrev c10(w:nK)(os:nE):=rH (TJ w os) (show 95+12=107 from rfl) (c11 w os)
abbrev c9(w:nK)(os:nE):=rH (XJ w os) (show 75+20=95 from rfl) (c10 w os)
abbrev c8(w:nK)(os:nE):=rH (X0 w os) (show 62+13=75 from rfl) (c9 w os)
abbrev c7(w:nK)(os:nE):=rH (XG w os) (show 56+6=62 from rfl) (c8 w os)
abbrev c6(w:nK)(os:nE):=rH (Xm w os) (show 45+11=56 from rfl) (c7 w os)
abbrev c5(w:nK)(os:nE):=rH (Xr w os) (show 39+6=45 from rfl) (c6 w os)
abbrev c4(w:nK)(os:nE):=rH (WB w os) (show 35+4=39 from rfl) (c5 w os)
abbrev c3(w:nK)(os:nE):=rH (Xn w os) (show 34+1=35 from rfl) (c4 w os)
abbrev c2(w:nK)(os:nE):=rH (WY w os) (show 24+10=34 from rfl) (c3 w os)
abbrev c1(w:nK)(os:nE):=rH (Xb w os) (show 0+24=24 from rfl) (c2 w os)
abbrev aax(w:nK)(os:nE):=go_top (aa5 w os) (piece_block (WG w _) (aaB (c1 w os)))
noncomputable abbrev qw:nJ:={pw with main:={pw.main with body:=[em 174]}}
noncomputable abbrev Il:Str:=bb "law"
abbrev Wp:List Str:=pw.boundNames
abbrev u9:List Str:=Wp.filter λn=> !(n == Il)
abbrev fdR(s:Stmt):DefRec:=if h:s.ctorIdx=0 then kj s h (λname args body w w w scope w w pos=>⟨name,args,body,scope,pos⟩) else⟨Il,default,[],default,default⟩
abbrev FX:DefRec:=fdR (em 174)
abbrev YfM(s:ni):Heap:=s.heap
abbrev YaM(w:nK):Heap:=HE w.params
abbrev Vk(w:nK)(h:Heap):Prop:=∀a o,a<923->(Yo w.params).get a=J o->alive o=J o->h.get? a=J o
def Zx:∀w:nK,(fencedOpening treeTable pw w 6000).map (λs=>(s.heap,s.gens,s.drawn,s.toks))=J (H0 w.params,#[],nj,181):=
 boot_open () (by rfl) (λs=>by kernel_rfl)
def YT:∀w:nK,((H0 w.params).isNs mainGlobals&&(#[]:Array GenState).size == 0,(H0 w.params).objs.size,(H0 w.params).nsMap mainGlobals "__annotations__")=(true,11,E5):=by
 intro w;kernel_rfl
def Y2:importedModules pw.main.body=[]:=()
def l1(w:nK):staticsOk [] (H0 w.params) (HE w.params)=true:=()
def l4(w:nK):laidKept (H0 w.params) (HE w.params)=true:=()
def l3(w:nK)(os:nE):gensDone ⟨HE w.params,#[],nj,1658,os⟩=true:=()
def l2(w:nK):namesBound pw (HE w.params)=true:=()
def YE(w:nK)(os:nE):PySem.W.Fast.tw4187177175401517315 qw u9 [] (recOk []) true ⟨HE w.params,#[],nj,1658,os⟩=openGood qw u9:=()
def Z7(w:nK)(os:nE):openSeen qw u9 [] (recOk []) true ⟨HE w.params,#[],nj,1658,os⟩=openGood qw u9:=by
 rw[PySem.W.Fast.te4187177175401517315];exact YE w os
def WE(w:nK):(λos=>((staticsOk (importedModules pw.main.body) (H0 w.params) (HE w.params)&&namesBound pw (HE w.params)&&gensDone ⟨HE w.params,#[],nj,1658,os⟩&&laidKept (H0 w.params) (HE w.params)),
    openSeen qw u9 (importedModules pw.main.body) (recOk []) true ⟨HE w.params,#[],nj,1658,os⟩,YfM ⟨HE w.params,#[],nj,1658,os⟩))=λz=>(true,openGood qw u9,YaM w):=by
 funext os;rw[Y2,l1,l2,l3,l4,Z7];rfl
def abt(w:nK)(os:nE):topRun treeTable pw w 11 E5 (12+(1+(382+(267+(229+(289+(398+(323+(393+(384+(377+(376+(400+(395+(391+(355+(384+(146+2)))))))))))))))))) ⟨H0 w.params,#[],nj,181,os⟩ (topStub pw)=J ⟨HE w.params,#[],nj,1658,os⟩:=by
 have h:=aax w os;exact Eq.mp () h
def YC:LeftO pw qw u9 (recOk []) YfM YaM 6000 true:=
 LeftO.of_pieces (H₀:=H0) (H₁:=HE) Zx YT abt () WE
def yp0(w:nK)(s:ni)(e:YfM s=YaM w):Vk w s.heap:=by
 intro a o h g al;have:s.heap=HE w.params:=e;rw[this];exact(abs_get h g).trans al
def ypk(w:nK)(h h':Heap)(y:Vk w h)(k:∀b o,h.get? b=J o->h'.get? b=J o):Vk w h':=λa o x g al=>k _ _ (y a o x g al)
def Zq:defOf qw Il=J (FX,[]):=()
def hp0:pw.theDef Il=J (FX.params,FX.body,FX.scope):=()
def hk0:kwWritten? FX.params.kwonlyargs FX.params.kw_defaults=J []:=()
def aaF:dd.row.toRowW.promised:=by w_witness2
def VL(call:WalkO qw u9 (λw w=>True) Vk dd.row.toRowW FX [] λf vs=>PySem.call f vs):dd.Holds:=
 holds_law MineH.Lake.said λk1=>PySem.W.holds_open (r:=dd.row) (q:=qw) (loose:=u9) (Xt:=recOk []) (XP:=λw w=>True) (Yf:=YfM) (Ya:=YaM) (YP:=Vk) (d:=FX) (kwd:=[]) (N:=6000)
  YC yp0 ypk (λw w=>trivial) (λw w w w w=>trivial) Zq hp0 hk0 (λs e=>recFacts_of e) (by rfl) k1 (by decide +kernel) ⟨rfl,rfl,rfl,rfl,rfl,by decide +kernel⟩ aaF call
end
end MineH.Lake
end
namespace Mine.Lake
noncomputable section
section
open PySem
set_option genCtorIdx true in
inductive V where
 | none | bool (b:Bool) | int (i:Int) | str (s:Str) | ref (h:Nat) | con (a:Nat)
set_option genCtorIdx true in
inductive O where
 | list (xs:List V) | tup (xs:List V) | inst (c:Nat) (fs:List (Nat × V)) | aT (a b s:Int)
set_option genInjectivity false
mutual
inductive Fh where
 | add | sub | mul | div | mod | shl | shr | band | bor | bxor
inductive Kk where
 | eq | ne | lt | le | gt | ge | is | isnot | isin | b7
end
mutual
inductive E where
 | bK | bool (b:Bool) | int (i:Int) | str (s:Str) | loc (i:Nat) | glo (i:Nat) (v:V)
 | and (a b:E) | or (a b:E) | not (a:E) | neg (a:E) | inv (a:E)
 | bin (o:Fh) (a b:E) | ite (c a b:E)
 | cmp (a:E) (o:Kk) (b:E) | bU (a:E) (o:Kk) (b:E) (p:Kk) (c:E)
 | list (es:Es) | tup (es:Es) | rep (es:Es) (n:E)
 | comp (elt:E) (i:Nat) (iter:E) (test:E)
 | call (i f:Nat) (es:Es)
 | len (i:Nat) (a:E) | abs (i:Nat) (a:E) | range (i:Nat) (es:Es)
 | index (a x:E) | append (a x:E) | pop (a:E)
 | attr (a:E) (n:Nat) | sub (a i:E) | slice (a:E) (lo hi:E)
inductive Es where
 | nil | cons (e:E) (es:Es)
end
set_option genCtorIdx true in
gen_injective_theorems% E
set_option genCtorIdx true in
inductive af where
 | loc (i:Nat) | tup (is:List Nat) | attr (a:E) (n:Nat) | sub (a i:E)
mutual
inductive S where
 | assign (t:af) (e:E) | aug (t:af) (o:Fh) (e:E) | expr (e:E) | ret (e:E)
 | ite (c:E) (a b:Ss) | loop (c:E) (b:Ss) | each (t:af) (it:E) (b:Ss) | brk | fail
inductive Ss where
 | nil | cons (s:S) (r:Ss)
end
set_option genInjectivity true
noncomputable abbrev H:=List O
noncomputable abbrev nw:=List (Option V)
noncomputable abbrev Rz(α:Type):=Option (α × H)
inductive Fl where
 | next | brk | ret (v:V)
structure pK where
 con:Nat->Option O
 call:Nat->List V->H->(V->H->Prop)->Prop
section
variable(K:pK)
abbrev tR(h:H):V->Option O
 | .ref a=>h[a]?
 | .con a=>K.con a
 | _=>.none
abbrev pN(h:H)(v:V):Option (List V):=match tR K h v with
 | some (.list xs)=>J xs
 | some (.tup xs)=>J xs
 | _=>.none
abbrev pG(a b s:Int):Nat:=if s == 1 then(b - a).toNat else if s == 2 then((b - a+1)/2).toNat else(a - b).toNat
abbrev yA(a:Int):Bool:=decide (-1000000<a)&&decide (a<1000000)
inductive It where
 | list | tup | aT (a b s:Int)
abbrev Fg(h:H)(v:V):Option It:=match tR K h v with
 | some (.list _)=>J .list
 | some (.tup _)=>J .tup
 | some (.aT a b s)=>if yA a&&yA b&&(s == 1||s == 2||s == -1) then J (.aT a b s) else .none
 | _=>.none
abbrev oB(k:It)(h:H)(v:V)(j:Nat):Option (Option V):=match k with
 | .list=>(match tR K h v with | some (.list xs)=>J xs[j]? | _=>.none)
 | .tup=>(match tR K h v with | some (.tup xs)=>J xs[j]? | _=>.none)
 | .aT a b s=>J (if j<pG a b s then J (.int (a+j*s)) else .none)
abbrev small(a:Int):Bool:=decide (-18446744073709551616<a)&&decide (a<18446744073709551616)
abbrev TD(o:Fh)(r q:Option O)(F:List V->List V->V × H):Rz V:=match o,r,q with
 | .add,J (.list xs),J (.list ys)=>if xs.length+ys.length<=1000 then J (F xs ys) else .none
 | _,_,_=>.none
abbrev pq(o:Fh)(x y:V)(h:H):Rz V:=match x,y with
 | .int a,.int b=>match o with
  | .add=>J (.int (a+b),h)
  | .sub=>J (.int (a - b),h)
  | .mul=>if small a&&small b then J (.int (a*b),h) else .none
  | .div=>if 0<b&&b<1000000 then J (.int (fE a b),h) else .none
  | .mod=>if 0<b then J (.int (eZ a b),h) else .none
  | .shl=>if 0<=b&&b<=1000000&&small a then J (.int (a*2 ^ b.toNat),h) else .none
  | .shr=>if 0<=b then J (.int (fE a (2 ^ b.toNat)),h) else .none
  | .band=>J (.int (fW a b),h)
  | .bor=>J (.int (kY a b),h)
  | .bxor=>J (.int (mS a b),h)
 | .ref a,.ref b=>TD o h[a]? h[b]? λxs ys=>(.ref h.length,h++[.list (xs++ys)])
 | _,_=>.none
abbrev qy(f:V->V->Option Bool):List V->List V->Option Bool
 | x::xs,y::ys=>match f x y,qy f xs ys with
  | some a,J b=>J (a&&b)
  | _,_=>.none
 | _,_=>J true
abbrev u8:Nat->H->V->V->Option Bool
 | 0,_,_,_=>.none
 | n+1,h,x,y=>match x,y with
  | .int a,.int b=>J (a == b)
  | .bool a,.bool b=>J (a == b)
  | .str a,.str b=>J (a == b)
  | .ref a,.ref b=>match h[a]?,h[b]? with
   | some (.list xs),J (.list ys)=>if xs.length == ys.length then qy (u8 n h) xs ys else J false
   | some (.tup xs),J (.tup ys)=>match qy (u8 n h) xs ys with
    | some c=>J (c&&xs.length == ys.length)
    | .none=>.none
   | _,_=>.none
  | _,_=>.none
abbrev tr:V->Option Bool
 | .bool b=>J b
 | .int i=>J (i != 0)
 | .none=>J false
 | _=>.none
abbrev z8(h:H)(x:V):List V->Option Bool
 | []=>J false
 | y::ys=>match u8 4 h y x,z8 h x ys with
  | some a,J b=>J (a||b)
  | _,_=>.none
abbrev Ys(x y:V)(f:Int->Int->Bool):Option Bool:=match x,y with | .int a,.int b=>J (f a b) | _,_=>.none
abbrev neV(x y:V):Option Bool:=match x,y with | .int a,.int b=>J (a != b) | .bool a,.bool b=>J (a != b) | .str a,.str b=>J (a != b) | _,_=>.none
abbrev NT:V->Bool
 | .none=>true
 | _=>false
abbrev s7(o:Kk)(x y:V)(h:H):Option Bool:=match o with
 | .eq=>u8 4 h x y
 | .ne=>neV x y
 | .lt=>Ys x y λa b=>decide (a<b)
 | .le=>Ys x y λa b=>decide (a<=b)
 | .gt=>Ys x y λa b=>decide (b<a)
 | .ge=>Ys x y λa b=>decide (b<=a)
 | .is=>if NT y then J (NT x) else .none
 | .isnot=>if NT y then J (!NT x) else .none
 | .isin=>(pN K h y).bind λys=>z8 h x ys
 | .b7=>(pN K h y).bind λys=>(z8 h x ys).map (!·)
abbrev Rf{β:Type}(x:V)(F:Nat->Option β):Option β:=match x with | .ref a=>F a | _=>.none
abbrev Yp{β:Type}(x:V)(F:Int->Option β):Option β:=match x with | .int a=>F a | _=>.none
abbrev Ws{β:Type}(r:Option O)(F:List V->Option β):Option β:=match r with | some (.list xs)=>F xs | _=>.none
abbrev YU{β:Type}(r:Option O)(F:Nat->List (Nat × V)->Option β):Option β:=match r with | some (.inst c fs)=>F c fs | _=>.none
abbrev xq(x y:V)(h:H):Option V:=Yp y λi=>(pN K h x).bind λxs=>if 0<=i/\i<1000000 then xs[i.toNat]? else .none
abbrev xA(x:V)(n:Nat)(h:H):Option V:=Rf x λa=>YU h[a]? λw fs=>fs.lookup n
abbrev Ez(n:Nat)(v:V):List (Nat × V)->List (Nat × V)
 | []=>[(n,v)]
 | (m,u)::r=>if m == n then(n,v)::r else(m,u)::Ez n v r
abbrev rR(x:V)(n:Nat)(v:V)(h:H):Option H:=Rf x λa=>YU h[a]? λc fs=>if fs.length<100 then J (h.set a (.inst c (Ez n v fs))) else .none
abbrev pV(x y v:V)(h:H):Option H:=Rf x λa=>Yp y λi=>Ws h[a]? λxs=>if 0<=i/\i<1000000/\i.toNat<xs.length then J (h.set a (.list (xs.set i.toNat v))) else .none
abbrev Cp(o:Fh)(x y:V)(h:H):Rz V:=match x,y with
 | .ref a,.ref b=>TD o h[a]? h[b]? λxs ys=>(.ref a,h.set a (.list (xs++ys)))
 | x,y=>pq o x y h
abbrev xf(v:V)(d:Nat):Option Nat:=match v with
 | .none=>J d
 | .int i=>if 0<=i then J i.toNat else .none
 | _=>.none
abbrev xL(x lo hi:V)(h:H):Rz V:=Ws (tR K h x) λxs=>(xf lo 0).bind λa=>(xf hi xs.length).bind λb=>if xs.length<=1000 then J (.ref h.length,h++[.list ((xs.take b).drop a)]) else .none
abbrev JR(x:V)(h:H):Option V:=(pN K h x).bind λxs=>if xs.length<=1000000 then J (.int xs.length) else .none
abbrev VA:V->Option V
 | .int i=>J (.int (if i<0 then -i else i))
 | _=>.none
abbrev uJ:List V->Option (List Int)
 | []=>J []
 | .int y::r=>(uJ r).map (y::·)
 | _=>.none
abbrev abh(h:H)(is:List Int):Rz V:=match is with
 | []=>.none
 | a::r=>match r with
  | []=>if yA a then J (.ref h.length,h++[.aT 0 a 1]) else .none
  | b::r=>match r with
   | []=>if yA a&&yA b then J (.ref h.length,h++[.aT a b 1]) else .none
   | s::r=>if r.isEmpty&&(yA a&&yA b&&(s == 1||s == 2||s == -1)) then J (.ref h.length,h++[.aT a b s]) else .none
abbrev sF(vs:List V)(h:H):Rz V:=(uJ vs).bind (abh h)
abbrev zf(x y:V)(h:H):Option V:=Rf x λa=>Yp y λi=>Ws h[a]? λxs=>(uJ xs).bind λns=>if i∈ns/\ns.length<=1000 then J (.int (ns.idxOf i:Nat)) else .none
abbrev o8(x y:V)(h:H):Rz V:=Rf x λa=>Ws h[a]? λxs=>if xs.length<1000 then J (.none,h.set a (.list (xs++[y]))) else .none
abbrev CO(x:V)(h:H):Rz V:=Rf x λa=>Ws h[a]? λxs=>xs.getLast?.bind λv=>if xs.length<=1000 then J (v,h.set a (.list xs.dropLast)) else .none
abbrev UG(h:H):V->Bool
 | .ref i=>(match h[i]? with | some (.list _)=>true | _=>false)
 | _=>false
abbrev Gs:Option V->H->(V->H->Prop)->Prop
 | some v,h,Q=>Q v h
 | .none,_,_=>False
abbrev te:Rz V->(V->H->Prop)->Prop
 | some (v,h),Q=>Q v h
 | .none,_=>False
abbrev yb:Option Bool->(Bool->Prop)->Prop
 | some b,Q=>Q b
 | .none,_=>False
abbrev PC:Option H->(H->Prop)->Prop
 | some h,Q=>Q h
 | .none,_=>False
abbrev Q4(r:Option V)(p:Prop)(f:V->Prop):Prop:=match r with | some v=>f v | .none=>p
abbrev Ik(r:Option (Option V))(p:Prop)(f:V->Prop):Prop:=match r with | some r=>Q4 r p f | .none=>False
abbrev V7(v:V)(f:Int->Prop):Prop:=match v with | .int i=>f i | _=>False
abbrev okT(o:Option O)(f:List V->Prop):Prop:=match o with | some (.tup vs)=>f vs | _=>False
abbrev okU(v:V)(p:Prop):Prop:=match v with | .ref _=>False | .con _=>False | _=>p
abbrev ZG:Option It->(It->Prop)->Prop
 | some k,Q=>Q k
 | .none,_=>False
abbrev wL(b:Bool)(P Q:Prop):Prop:=(b=true->P)/\(b=false->Q)
abbrev xk:Nat->It->V->Nat->Nat->(V->H->(Option V->H->Prop)->Prop)->H->(V->H->Prop)->Prop
 | 0,_,_,_,_,_,_,_=>False
 | n+1,k,x,a,j,f,h,Q=>Ik (oB K k h x j) (Q (.ref a) h) λv=>f v h λu h=>Q4 u (xk n k x a (j+1) f h Q) λu=>te (o8 (.ref a) u h) λw h=>xk n k x a (j+1) f h Q
mutual
noncomputable def ev:E->nw->H->(V->H->Prop)->Prop
 | .bK,_,h,Q=>Q .none h
 | .bool b,_,h,Q=>Q (.bool b) h
 | .int i,_,h,Q=>Q (.int i) h
 | .str s,_,h,Q=>Q (.str s) h
 | .loc i,e,h,Q=>Ik e[i]? False λv=>Q v h
 | .glo _ v,_,h,Q=>Q v h
 | .and a b,e,h,Q=>ev a e h λx h=>yb (tr x) λt=>wL t (ev b e h Q) (Q x h)
 | .or a b,e,h,Q=>ev a e h λx h=>yb (tr x) λt=>wL t (Q x h) (ev b e h Q)
 | .not a,e,h,Q=>ev a e h λx h=>yb (tr x) λt=>Q (.bool !t) h
 | .neg a,e,h,Q=>ev a e h λx h=>V7 x λi=>Q (.int (-i)) h
 | .inv a,e,h,Q=>ev a e h λx h=>V7 x λi=>Q (.int (dW i)) h
 | .bin o a b,e,h,Q=>ev a e h λx h=>ev b e h λy h=>te (pq o x y h) Q
 | .ite c a b,e,h,Q=>ev c e h λx h=>yb (tr x) λt=>wL t (ev a e h Q) (ev b e h Q)
 | .cmp a o b,e,h,Q=>ev a e h λx h=>ev b e h λy h=>yb (s7 K o x y h) λt=>Q (.bool t) h
 | .bU a o b p c,e,h,Q=>ev a e h λx h=>ev b e h λy h=>yb (s7 K o x y h) λt=>
   wL t (ev c e h λz h=>yb (s7 K p y z h) λu=>Q (.bool u) h) (Q (.bool false) h)
 | .list es,e,h,Q=>S9 es e h λvs h=>vs.length<=1000/\Q (.ref h.length) (h++[.list vs])
 | .tup es,e,h,Q=>S9 es e h λvs h=>vs.length<=1000/\Q (.ref h.length) (h++[.tup vs])
 | .rep es n,e,h,Q=>S9 es e h λvs h=>vs.length<=1000/\ev n e h λk h=>V7 k λk=>0<=k/\k<=1000/\vs.length<=10/\Q (.ref h.length) (h++[.list (cW k.toNat vs).flatten])
 | .comp elt i iter test,e,h,Q=>ev iter e h λx h=>ZG (Fg K h x) λk=>∃n,xk K n k x h.length 0 (λv h P=>
   ev test (e.set i (J v)) h λy h=>yb (tr y) λt=>wL t (ev elt (e.set i (J v)) h λu h=>P (J u) h) (P .none h)) (h++[.list []]) Q
 | .call _ f es,e,h,Q=>S9 es e h λvs h=>K.call f vs h Q
 | .len _ a,e,h,Q=>ev a e h λx h=>Gs (JR K x h) h Q
 | .abs _ a,e,h,Q=>ev a e h λx h=>Gs (VA x) h Q
 | .range _ es,e,h,Q=>S9 es e h λvs h=>te (sF vs h) Q
 | .index a x,e,h,Q=>ev a e h λu h=>UG h u=true/\ev x e h λv h=>Gs (zf u v h) h Q
 | .append a x,e,h,Q=>ev a e h λu h=>UG h u=true/\ev x e h λv h=>te (o8 u v h) Q
 | .pop a,e,h,Q=>ev a e h λu h=>te (CO u h) Q
 | .attr a n,e,h,Q=>ev a e h λx h=>Gs (xA x n h) h Q
 | .sub a i,e,h,Q=>ev a e h λx h=>ev i e h λy h=>Gs (xq K x y h) h Q
 | .slice a lo hi,e,h,Q=>ev a e h λx h=>ev lo e h λl h=>ev hi e h λu h=>te (xL K x l u h) Q
noncomputable def S9:Es->nw->H->(List V->H->Prop)->Prop
 | .nil,_,h,Q=>Q [] h
 | .cons a es,e,h,Q=>ev a e h λx h=>S9 es e h λxs h=>Q (x::xs) h
end
abbrev Bq:List Nat->List V->nw->nw
 | i::is,v::vs,e=>Bq is vs (e.set i (J v))
 | _,_,e=>e
abbrev tL:af->V->nw->H->(nw->H->Prop)->Prop
 | .loc i,v,e,h,Q=>Q (e.set i (J v)) h
 | .tup is,v,e,h,Q=>okT (tR K h v) λvs=>vs.length=is.length/\Q (Bq is vs e) h
 | .attr a n,v,e,h,Q=>ev K a e h λx h=>PC (rR x n v h) λh=>Q e h
 | .sub a i,v,e,h,Q=>ev K a e h λx h=>ev K i e h λy h=>PC (pV x y v h) λh=>Q e h
abbrev Qs:af->Fh->E->nw->H->(nw->H->Prop)->Prop
 | .loc i,o,r,e,h,Q=>Ik e[i]? False λx=>ev K r e h λy h=>te (Cp o x y h) λv h=>Q (e.set i (J v)) h
 | .attr a n,o,r,e,h,Q=>ev K a e h λp h=>Gs (xA p n h) h λx h=>ev K r e h λy h=>te (Cp o x y h) λv h=>PC (rR p n v h) λh=>Q e h
 | .sub a i,o,r,e,h,Q=>ev K a e h λp h=>ev K i e h λq h=>Gs (xq K p q h) h λx h=>ev K r e h λy h=>te (Cp o x y h) λv h=>
   PC (pV p q v h) λh=>Q e h
 | .tup _,_,_,_,_,_=>False
noncomputable abbrev QS:=Fl->nw->H->Prop
abbrev oZ(next:nw->H->Prop)(Q:QS):QS
 | .next,e,h=>next e h
 | .brk,e,h=>Q .next e h
 | .ret v,e,h=>Q (.ret v) e h
abbrev JT:Nat->It->V->Nat->(V->nw->H->QS->Prop)->nw->H->QS->Prop
 | 0,_,_,_,_,_,_,_=>False
 | n+1,k,x,j,f,e,h,Q=>Ik (oB K k h x j) (Q .next e h) λv=>f v e h (oZ (λe h=>JT n k x (j+1) f e h Q) Q)
abbrev Az:Nat->(nw->H->(Bool->H->Prop)->Prop)->(nw->H->QS->Prop)->nw->H->QS->Prop
 | 0,_,_,_,_,_=>False
 | n+1,c,f,e,h,Q=>c e h λt h=>wL t (f e h (oZ (λe h=>Az n c f e h Q) Q)) (Q .next e h)
abbrev CY(r:nw->H->Prop)(Q:QS):QS
 | .next,e,h=>r e h
 | .brk,e,h=>Q .brk e h
 | .ret v,e,h=>Q (.ret v) e h
abbrev J4:af->It->Bool
 | .tup _,.list=>true
 | .tup _,_=>false
 | _,_=>true
mutual
noncomputable def evS:S->nw->H->QS->Prop
 | .assign t r,e,h,Q=>ev K r e h λv h=>tL K t v e h λe h=>Q .next e h
 | .aug t o r,e,h,Q=>Qs K t o r e h λe h=>Q .next e h
 | .expr r,e,h,Q=>ev K r e h λv h=>okU v (Q .next e h)
 | .ret r,e,h,Q=>ev K r e h λv h=>Q (.ret v) e h
 | .ite c a b,e,h,Q=>ev K c e h λx h=>yb (tr x) λt=>wL t (uO a e h Q) (uO b e h Q)
 | .loop c b,e,h,Q=>∃n,Az n (λe h P=>ev K c e h λx h=>yb (tr x) λt=>P t h) (λe h P=>uO b e h P) e h Q
 | .each t it b,e,h,Q=>ev K it e h λx h=>ZG (Fg K h x) λk=>J4 t k=true/\∃n,JT K n k x 0 (λv e h P=>tL K t v e h λe h=>uO b e h P) e h Q
 | .brk,e,h,Q=>Q .brk e h
 | .fail,_,_,_=>False
noncomputable def uO:Ss->nw->H->QS->Prop
 | .nil,e,h,Q=>Q .next e h
 | .cons s r,e,h,Q=>evS s e h (CY (λe h=>uO r e h Q) Q)
end
end
end
section
open PySem
def uA(m:∀v h,Q v h->Q' v h)(x:Gs r h Q):Gs r h Q':=by cases r<;>first | exact x | exact m _ _ x
def rL(m:∀v h,Q v h->Q' v h)(x:te r Q):te r Q':=by
 match r with
 | .none=>exact x
 | some (v,h)=>exact m _ _ x
def pU(m:∀b,Q b->Q' b)(x:yb r Q):yb r Q':=by cases r<;>first | exact x | exact m _ x
def Ad(m:∀b,Q b->Q' b)(x:PC r Q):PC r Q':=by cases r<;>first | exact x | exact m _ x
def ID(m:∀b,Q b->Q' b)(x:ZG r Q):ZG r Q':=by cases r<;>first | exact x | exact m _ x
def Em(m:p->p')(n:∀v,f v->f' v)(x:Q4 r p f):Q4 r p' f':=by cases r<;>first | exact m x | exact n _ x
def zx(m:p->p')(n:∀v,f v->f' v)(x:Ik r p f):Ik r p' f':=by cases r<;>first | exact x | exact Em m n x
def ET(n:∀v,f v->f' v)(x:V7 v f):V7 v f':=by cases v<;>first | exact n _ x | exact x
def Rc(n:∀v,f v->f' v)(x:okT v f):okT v f':=match v,x with | some (.tup _),x=>n _ x
def Q2(m:p->q)(x:okU v p):okU v q:=by cases v<;>first | exact x | exact m x
def M8(x:Ik r False f):∃v,r=J (J v)/\f v:=match r,x with | some (J v),x=>⟨v,rfl,x⟩
def Hp(x:V7 v f):∃i,v= .int i/\f i:=match v,x with | .int i,x=>⟨i,rfl,x⟩
def ML(x:okT r f):∃vs,r=J (.tup vs)/\f vs:=match r,x with | some (.tup vs),x=>⟨vs,rfl,x⟩
def ru(m:P->P')(n:Q->Q')(x:wL b P Q):wL b P' Q':=⟨λh=>m (x.1 h),λh=>n (x.2 h)⟩
abbrev pK.aV(K:pK):Prop:=∀f vs h (Q Q':V->H->Prop),(∀v h,Q v h->Q' v h)->K.call f vs h Q->K.call f vs h Q'
variable{K:pK}
def yL:∀{n:Nat} {k:It} {x:V} {a j:Nat} {f f':V->H->(Option V->H->Prop)->Prop} {h:H} {Q Q':V->H->Prop},
  (∀v h (P P':Option V->H->Prop),(∀u h,P u h->P' u h)->f v h P->f' v h P')->(∀v h,Q v h->Q' v h)->xk K n k x a j f h Q->xk K n k x a j f' h Q'
 | 0,_,_,_,_,_,_,_,_,_,_,_,z=>z
 | n+1,k,x,a,j,f,f',h,Q,Q',mf,mq,z=>zx (mq _ _) (λw z=>mf _ _ _ _ (λu h y=>Em (yL mf mq) (λw y=>rL (λw h y=>yL mf mq y) y) y) z) z
mutual
theorem jp(M:K.aV):∀(c:E) {e:nw} {h:H} {Q Q':V->H->Prop},(∀v h,Q v h->Q' v h)->ev K c e h Q->ev K c e h Q'
 | .bK,_,_,_,_,m,x=>m _ _ x
 | .bool _,_,_,_,_,m,x=>m _ _ x
 | .int _,_,_,_,_,m,x=>m _ _ x
 | .str _,_,_,_,_,m,x=>m _ _ x
 | .glo _ _,_,_,_,_,m,x=>m _ _ x
 | .loc i,e,_,_,_,m,x=>zx id (λw x=>m _ _ x) x
 | .and a b,_,_,_,_,m,x=>jp M a (λw w y=>pU (λw y=>ru (jp M b m) (m _ _) y) y) x
 | .or a b,_,_,_,_,m,x=>jp M a (λw w y=>pU (λw y=>ru (m _ _) (jp M b m) y) y) x
 | .not a,_,_,_,_,m,x=>jp M a (λw w y=>pU (λw y=>m _ _ y) y) x
 | .neg a,_,_,_,_,m,x=>jp M a (λv w y=>ET (λw y=>m _ _ y) y) x
 | .inv a,_,_,_,_,m,x=>jp M a (λv w y=>ET (λw y=>m _ _ y) y) x
 | .bin o a b,_,_,_,_,m,x=>jp M a (λw w y=>jp M b (λw w y=>rL m y) y) x
 | .ite c a b,_,_,_,_,m,x=>jp M c (λw w y=>pU (λw y=>ru (jp M a m) (jp M b m) y) y) x
 | .cmp a o b,_,_,_,_,m,x=>jp M a (λw w y=>jp M b (λw w y=>pU (λw y=>m _ _ y) y) y) x
 | .bU a o b p c,_,_,_,_,m,x=>
  jp M a (λw w y=>jp M b (λw w y=>pU (λw y=>ru (jp M c λw w y=>pU (λw y=>m _ _ y) y) (m _ _) y) y) y) x
 | .list es,_,_,_,_,m,x=>vr M es (λw w y=>⟨y.1,m _ _ y.2⟩) x
 | .tup es,_,_,_,_,m,x=>vr M es (λw w y=>⟨y.1,m _ _ y.2⟩) x
 | .rep es n,_,_,_,_,m,x=>vr M es (λw w y=>⟨y.1,jp M n (λv w y=>ET (λw y=>⟨y.1,y.2.1,y.2.2.1,m _ _ y.2.2.2⟩) y) y.2⟩) x
 | .comp elt i iter test,_,_,_,_,m,x=>
  jp M iter (λw w y=>ID (λ_ ⟨n,y⟩=>⟨n,yL (λv h P P' mp z=>jp M test (λw w z=>pU (λw z=>ru (jp M elt λw w z=>mp _ _ z) (mp _ _) z) z) z) m y⟩) y) x
 | .call _ f es,_,_,_,_,m,x=>vr M es (λw w y=>M _ _ _ _ _ m y) x
 | .len _ a,_,_,_,_,m,x=>jp M a (λw w y=>uA m y) x
 | .abs _ a,_,_,_,_,m,x=>jp M a (λw w y=>uA m y) x
 | .range _ es,_,_,_,_,m,x=>vr M es (λw w y=>rL m y) x
 | .index a b,_,_,_,_,m,x=>jp M a (λw w y=>⟨y.1,jp M b (λw w y=>uA m y) y.2⟩) x
 | .append a b,_,_,_,_,m,x=>jp M a (λw w y=>⟨y.1,jp M b (λw w y=>rL m y) y.2⟩) x
 | .pop a,_,_,_,_,m,x=>jp M a (λw w y=>rL m y) x
 | .attr a n,_,_,_,_,m,x=>jp M a (λw w y=>uA m y) x
 | .sub a b,_,_,_,_,m,x=>jp M a (λw w y=>jp M b (λw w y=>uA m y) y) x
 | .slice a b c,_,_,_,_,m,x=>jp M a (λw w y=>jp M b (λw w y=>jp M c (λw w y=>rL m y) y) y) x
theorem vr(M:K.aV):∀(c:Es) {e:nw} {h:H} {Q Q':List V->H->Prop},(∀v h,Q v h->Q' v h)->S9 K c e h Q->S9 K c e h Q'
 | .nil,_,_,_,_,m,x=>m _ _ x
 | .cons a es,_,_,_,_,m,x=>jp M a (λw w y=>vr M es (λw w y=>m _ _ y) y) x
end
def yG(M:K.aV):∀(t:af) {v:V} {e:nw} {h:H} {Q Q':nw->H->Prop},(∀e h,Q e h->Q' e h)->tL K t v e h Q->tL K t v e h Q'
 | .loc _,_,_,_,_,_,m,x=>m _ _ x
 | .tup is,v,_,h,_,_,m,x=>Rc (λw x=>⟨x.1,m _ _ x.2⟩) x
 | .attr a n,_,_,_,_,_,m,x=>jp M _ (λw w y=>Ad (λw y=>m _ _ y) y) x
 | .sub a i,_,_,_,_,_,m,x=>jp M _ (λw w y=>jp M _ (λw w y=>Ad (λw y=>m _ _ y) y) y) x
def Pc(M:K.aV):∀(t:af) {o:Fh} {r:E} {e:nw} {h:H} {Q Q':nw->H->Prop},(∀e h,Q e h->Q' e h)->Qs K t o r e h Q->Qs K t o r e h Q'
 | .loc i,_,_,e,_,_,_,m,x=>zx id (λw x=>jp M _ (λw w y=>rL (λw w y=>m _ _ y) y) x) x
 | .tup _,_,_,_,_,_,_,_,x=>x
 | .attr a n,_,_,_,_,_,_,m,x=>
  jp M _ (λw w y=>uA (λw w y=>jp M _ (λw w y=>rL (λw w y=>Ad (λw y=>m _ _ y) y) y) y) y) x
 | .sub a i,_,_,_,_,_,_,m,x=>
  jp M _ (λw w y=>jp M _ (λw w y=>uA (λw w y=>jp M _ (λw w y=>rL (λw w y=>Ad (λw y=>m _ _ y) y) y) y) y) y) x
def xK(mp:∀e h,p e h->p' e h)(mq:∀f e h,Q f e h->Q' f e h)(f:Fl)(e:nw)(h:H)(x:oZ p Q f e h):oZ p' Q' f e h:=by
 cases f<;>first | exact mp _ _ x | exact mq _ _ _ x
def Ij(mp:∀e h,p e h->p' e h)(mq:∀f e h,Q f e h->Q' f e h)(f:Fl)(e:nw)(h:H)(x:CY p Q f e h):CY p' Q' f e h:=by
 cases f<;>first | exact mp _ _ x | exact mq _ _ _ x
def Gj:∀{n:Nat} {k:It} {x:V} {j:Nat} {f:V->nw->H->QS->Prop} {e:nw} {h:H} {Q Q':QS},
  (∀v e h (P P':QS),(∀u e h,P u e h->P' u e h)->f v e h P->f v e h P')->(∀f e h,Q f e h->Q' f e h)->JT K n k x j f e h Q->JT K n k x j f e h Q'
 | 0,_,_,_,_,_,_,_,_,_,_,z=>z
 | n+1,k,x,j,f,e,h,Q,Q',mf,mq,z=>zx (mq _ _ _) (λw z=>mf _ _ _ _ _ (xK (λw w y=>Gj mf mq y) mq) z) z
def BU:∀{n:Nat} {c:nw->H->(Bool->H->Prop)->Prop} {f:nw->H->QS->Prop} {e:nw} {h:H} {Q Q':QS},
  (∀e h (P P':Bool->H->Prop),(∀t h,P t h->P' t h)->c e h P->c e h P')->
  (∀e h (P P':QS),(∀u e h,P u e h->P' u e h)->f e h P->f e h P')->(∀f e h,Q f e h->Q' f e h)->Az n c f e h Q->Az n c f e h Q'
 | 0,_,_,_,_,_,_,_,_,_,z=>z
 | n+1,c,f,e,h,Q,Q',mc,mf,mq,z=>
  mc _ _ _ _ (λt h y=>ru (mf _ _ _ _ (xK (λw w y=>BU mc mf mq y) mq)) (mq _ _ _) y) z
mutual
theorem Si(M:K.aV):∀(c:S) {e:nw} {h:H} {Q Q':QS},(∀f e h,Q f e h->Q' f e h)->evS K c e h Q->evS K c e h Q'
 | .assign t r,_,_,_,_,m,x=>jp M r (λw w y=>yG M t (λw w y=>m _ _ _ y) y) x
 | .aug t o r,_,_,_,_,m,x=>Pc M t (λw w y=>m _ _ _ y) x
 | .expr r,_,_,_,_,m,x=>jp M r (λv w y=>Q2 (m _ _ _) y) x
 | .ret r,_,_,_,_,m,x=>jp M r (λw w y=>m _ _ _ y) x
 | .ite c a b,_,_,_,_,m,x=>jp M c (λw w y=>pU (λw y=>ru (tA M a m) (tA M b m) y) y) x
 | .loop c b,_,_,_,_,m,x=>let ⟨n,x⟩:=x
  ⟨n,BU (λw w w w mp z=>jp M c (λw w z=>pU (λw z=>mp _ _ z) z) z) (λw w w w mp z=>tA M b mp z) m x⟩
 | .each t it b,_,_,_,_,m,x=>
  jp M it (λw w y=>ID (λ_ ⟨g,n,y⟩=>⟨g,n,Gj (λw w w w w mp z=>yG M t (λw w z=>tA M b mp z) z) m y⟩) y) x
 | .brk,_,_,_,_,m,x=>m _ _ _ x
 | .fail,_,_,_,_,_,x=>x
theorem tA(M:K.aV):∀(c:Ss) {e:nw} {h:H} {Q Q':QS},(∀f e h,Q f e h->Q' f e h)->uO K c e h Q->uO K c e h Q'
 | .nil,_,_,_,_,m,x=>m _ _ _ x
 | .cons s r,_,_,_,_,m,x=>Si M s (Ij (λw w y=>tA M r m y) m) x
end
end
section
abbrev t8:Nat->Addr
 | 0=>177 | 1=>296 | _=>828
abbrev ZD:List Str:=(["files","ranks","size","full","has_double","has_castling","file_masks","rank_masks","rays","king","knight","pawn","castles","rights_lost",
 "geo","zob","board","kinds","sides","side","rights","ep","half","key","history","pieces"]:List String).map bb
abbrev pI(n:Nat):Str:=ZD.getD n (bb "full")
noncomputable abbrev th:=List (Addr × Addr)
abbrev VR(Z:th):V->nf->Prop
 | .none,.none=>True
 | .bool b,.bool c=>b=c
 | .int i,.int j _=>i=j
 | .str s,.str t _=>s=t
 | .ref i,.ref a=>∃d,Z[i]? =J (a,d)
 | .con a,.ref b=>a=b
 | _,_=>False
inductive qS (Z:th):List V->List nf->Prop
 | nil:qS Z [] []
 | cons {x y xs ys}:VR Z x y->qS Z xs ys->qS Z (x::xs) (y::ys)
inductive G7 (Z:th):List (Nat × V)->List nH->Prop
 | nil:G7 Z [] []
 | cons {n v e fs es}:n<26->(∃t,e.key= .str (pI n) t)->VR Z v e.val->G7 Z fs es->G7 Z ((n,v)::fs) (e::es)
abbrev OR(Z:th)(h:Heap)(a d:Addr):O->Prop
 | .list xs=>a=d/\∃vs n,IsL h a vs.toArray n/\qS Z xs vs
 | .tup xs=>a=d/\∃vs,IsTup h a vs.toArray/\qS Z xs vs
 | .aT x y z=>a=d/\∃t u v,IsRange h a x y z t u v
 | .inst c fs=>a≠d/\h.get? a=J {cls:=.ref (t8 c),dict:=J d,data:=.plain}/\∃es n,h.get? d=J (dictOf es n)/\G7 Z fs es
abbrev Sep(Z:th):Prop:=∀(i j:Nat) (p q:Addr × Addr),Z[i]? =J p->Z[j]? =J q->i≠j->p.1≠q.1/\p.1≠q.2/\p.2≠q.1/\p.2≠q.2
structure pu (B:Heap) (Z:th) (T:H) (h:Heap):Prop where
 len:Z.length=T.length
 at_:∀(i:Nat) (p:Addr × Addr) (o:O),Z[i]? =J p->T[i]? =J o->OR Z h p.1 p.2 o
 sep:Sep Z
 hi:∀(i:Nat) (p:Addr × Addr),Z[i]? =J p->B.get? p.1=U/\B.get? p.2=U
 base:∀b o,B.get? b=J o->h.get? b=J o
abbrev B1(Z:th)(a:Addr):Prop:=∀(i:Nat) (p:Addr × Addr),Z[i]? =J p->a≠p.1/\a≠p.2
abbrev vI(Z:th)(h h':Heap):Prop:=∀b o,h.get? b=J o->B1 Z b->h'.get? b=J o
structure wf (Z aL:th) (h:Heap):Prop where
 old:∀(i:Nat) (p:Addr × Addr),Z[i]? =J p->aL[i]? =J p
 new:∀(i:Nat) (p:Addr × Addr),Z.length<=i->aL[i]? =J p->h.get? p.1=U/\h.get? p.2=U
def f0{l:List α}{i:Nat}{x:α}(h:l[i]? =J x):i<l.length:=(fZ.mp h).1
def wf.refl(Z:th)(h:Heap):wf Z Z h:=⟨λw w e=>e,λi p hi e=>cG (f0 e) (fV.mpr hi)⟩
def HW(h:¬B1 Z a):∃(i:Nat) (p:Addr × Addr),Z[i]? =J p/\(a=p.1\/a=p.2):=by
 refine cJ λk=>h λi p e=>⟨λq=>k ⟨i,p,e,.inl q⟩,λq=>k ⟨i,p,e,.inr q⟩⟩
def wf.trans{h h':Heap}(x:wf Z aL h)(y:wf aL ρ'' h')(k:vI Z h h')(sp:Sep ρ''):wf Z ρ'' h:=by
 refine⟨λi p e=>y.old i p (x.old i p e),λi p hi e=>?_⟩;by_cases q:i<aL.length
 .have e1:=y.old i _ (a7 q);rw[e1] at e;have e2:aL[i]? =J p:=(a7 q).trans e;exact x.new i p hi e2
 .have z:=y.new i p (dZ q) e;have key:∀a,(a=p.1\/a=p.2)->h'.get? a=U->h.get? a=U:=λa ha hn=>by
   cases g:h.get? a with
   | none=>rfl
   | some o=>
    by_cases ho:B1 Z a
    .rw[k a o g ho] at hn;cases hn
    .obtain⟨j,r,hj,hr⟩:=HW ho;have hj':=y.old j r (x.old j r hj);have ne:i≠j:=λt=>by subst t;exact cG (f0 hj) (fV.mpr hi)
     have s:=sp i j p r e hj' ne;rcases ha with rfl | rfl<;>rcases hr with hr | hr
     .exact cG hr s.1
     .exact cG hr s.2.1
     .exact cG hr s.2.2.1
     .exact cG hr s.2.2.2
  exact⟨key _ (.inl rfl) z.1,key _ (.inr rfl) z.2⟩
def B1.ext(x:B1 Z a)(y:wf Z aL h)(l:h.get? a=J o):B1 aL a:=by
 intro i p e;by_cases q:i<Z.length
 .have e1:=y.old i _ (a7 q);rw[e1] at e;exact x i p ((a7 q).trans e)
 .have z:=y.new i p (dZ q) e;exact⟨λt=>(by rw[<- t,l] at z;exact(nomatch z.1)),λt=>(by rw[<- t,l] at z;exact(nomatch z.2))⟩
def vI.refl(Z:th)(h:Heap):vI Z h h:=λw w e w=>e
def vI.trans(x:vI Z h h')(y:vI aL h' h'')(e:wf Z aL h):vI Z h h'':=λb o g n=>
 y b o (x b o g n) (n.ext e g)
def VR.mono(k:∀(i:Nat) (p:Addr × Addr),Z[i]? =J p->aL[i]? =J p)(h:VR Z x v):VR aL x v:=by
 cases x<;>cases v<;>first | exact h | (obtain⟨d,e⟩:=h;exact⟨d,k _ _ e⟩)
def qS.mono(k:∀(i:Nat) (p:Addr × Addr),Z[i]? =J p->aL[i]? =J p)(h:qS Z xs vs):qS aL xs vs:=by
 induction h with
 | nil=>exact .nil
 | cons a _ ih=>exact .cons (a.mono k) ih
def G7.mono(k:∀(i:Nat) (p:Addr × Addr),Z[i]? =J p->aL[i]? =J p)(h:G7 Z xs vs):G7 aL xs vs:=by
 induction h with
 | nil=>exact .nil
 | cons l a b _ ih=>exact .cons l a (b.mono k) ih
def OR.keep{h h':Heap}{a d:Addr}{o:O}(x:OR Z h a d o)(k:∀(i:Nat) (p:Addr × Addr),Z[i]? =J p->aL[i]? =J p)(ka:∀ob,h.get? a=J ob->h'.get? a=J ob)(kd:∀ob,h.get? d=J ob->h'.get? d=J ob):OR aL h' a d o:=by
 ext Z aL h h' a d o;cases o with
 | list xs=>obtain⟨e,vs,n,g,m⟩:=x;exact⟨e,vs,n,ka _ g,m.mono k⟩
 | tup xs=>obtain⟨e,vs,⟨ob,g,r⟩,m⟩:=x;exact⟨e,vs,⟨ob,ka _ g,r⟩,m.mono k⟩
 | aT x y z=>obtain⟨e,t,u,v,g⟩:=x;exact⟨e,t,u,v,ka _ g⟩
 | inst c fs=>obtain⟨ne,g,es,n,g2,m⟩:=x;exact⟨ne,ka _ g,es,n,kd _ g2,m.mono k⟩
def OR.alive(x:OR Z h a d o):(∃ob,h.get? a=J ob)/\∃ob,h.get? d=J ob:=by
 ext Z h a d o;cases o with
 | list xs=>obtain⟨rfl,vs,n,g,m⟩:=x;exact⟨⟨_,g⟩,_,g⟩
 | tup xs=>obtain⟨rfl,vs,⟨ob,g,r⟩,m⟩:=x;exact⟨⟨_,g⟩,_,g⟩
 | aT x y z=>obtain⟨rfl,t,u,v,g⟩:=x;exact⟨⟨_,g⟩,_,g⟩
 | inst c fs=>obtain⟨ne,g,es,n,g2,m⟩:=x;exact⟨⟨_,g⟩,_,g2⟩
variable{B:Heap}{Z:th}{T:H}{h h':Heap}
def pu.alive(R:pu B Z T h){i:Nat}{p:Addr × Addr}(e:Z[i]? =J p):(∃ob,h.get? p.1=J ob)/\∃ob,h.get? p.2=J ob:=by
 have l:i<T.length:=by rw[<- R.len];exact f0 e
 exact(R.at_ i p _ e (a7 l)).alive
def pu.fresh(R:pu B Z T h){a:Addr}(g:h.get? a=U):B1 Z a/\B.get? a=U:=by
 refine⟨λi p e=>?_,?_⟩
 .obtain⟨⟨o1,h1⟩,o2,h2⟩:=R.alive e;exact⟨λt=>(by rw[<- t,g] at h1;cases h1),λt=>(by rw[<- t,g] at h2;cases h2)⟩
 .cases q:B.get? a with
  | none=>rfl
  | some o=>rw[R.base a o q] at g;cases g
def qH(h:Heap):h.get? h.objs.size=U:=iT (cX _)
def pu.out(R:pu B Z T h)(k:∀(i:Nat) (p:Addr × Addr),Z[i]? =J p->(∀o,h.get? p.1=J o->h'.get? p.1=J o)/\(∀o,h.get? p.2=J o->h'.get? p.2=J o))(kb:∀b o,B.get? b=J o->h'.get? b=J o):pu B Z T h':=
 ⟨R.len,λi p o e1 e2=>(R.at_ i p o e1 e2).keep (λw w e=>e) (k i p e1).1 (k i p e1).2,R.sep,R.hi,kb⟩
def pu.push(R:pu B Z T h)(o:Obj):pu B Z T (h.push o):=
 R.out (λi p w=>⟨λw e=>dy o e,λw e=>dy o e⟩) (λb ob e=>dy o (R.base b ob e))
def pu.extBut(R:pu B Z T h)(hs:gH a h h')(n:B1 Z a)(hb:B.get? a=U):pu B Z T h':=
 R.out (λi p e=>⟨λo g=>hs _ o (dQ (n i p e).1) g,λo g=>hs _ o (dQ (n i p e).2) g⟩) (λb o e=>hs b o (λt=>by rw[t,hb] at e;cases e) (R.base b o e))
def pu.sameBut(R:pu B Z T h)(hs:lN a h h')(n:B1 Z a)(hb:B.get? a=U):pu B Z T h':=R.extBut hs.extBut n hb
def vI.push(Z:th)(h:Heap)(o:Obj):vI Z h (h.push o):=λw w e w=>dy o e
def sJ(e:(l++[x])[i]? =J y):l[i]? =J y\/(i=l.length/\y=x):=by
 by_cases q:i<l.length
 .rw[ar q] at e;exact .inl e
 .rw[cQ (dZ q)] at e;have:i - l.length=0:=by
   cases z:i - l.length with
   | zero=>rfl
   | succ n=>rw[z] at e;cases e
  rw[this] at e;cases e;exact .inr ⟨by lia,rfl⟩
def uH{l:List α}{x y:α}{i:Nat}(e:l[i]? =J y):(l++[x])[i]? =J y:=by rw[ar (f0 e)];exact e
def ui(l:List α)(x:α):(l++[x])[l.length]? =J x:=by rw[cQ (cX _),eD];rfl
def pu.new(R:pu B Z T h)(a d:Addr)(o:O)(x:OR (Z++[(a,d)]) h' a d o)(na:h.get? a=U)(nd:h.get? d=U)(k:∀b ob,h.get? b=J ob->h'.get? b=J ob):
  pu B (Z++[(a,d)]) (T++[o]) h':=by
 have fa:=R.fresh na;have fd:=R.fresh nd;refine⟨by rw[a6,a6,R.len];rfl,λi p o' e1 e2=>?_,λi j p q e1 e2 ne=>?_,λi p e=>?_,λb o' e=>k b o' (R.base b o' e)⟩
 .rcases sJ e1 with e1 | ⟨rfl,rfl⟩
  .rcases sJ e2 with e2 | ⟨q,rfl⟩
   .exact(R.at_ i p o' e1 e2).keep (λi p e=>uH e) (λw g=>k _ _ g) (λw g=>k _ _ g)
   .have:=f0 e1;rw[R.len] at this;lia
  .rcases sJ e2 with e2 | ⟨_,rfl⟩
   .have:=f0 e2;rw[R.len] at this;lia
   .exact x
 .rcases sJ e1 with e1 | ⟨rfl,rfl⟩<;>rcases sJ e2 with e2 | ⟨rfl,rfl⟩
  .exact R.sep i j p q e1 e2 ne
  .have:=fa.1 i p e1;have y:=fd.1 i p e1;exact⟨dQ this.1,dQ y.1,dQ this.2,dQ y.2⟩
  .have:=fa.1 j q e2;have y:=fd.1 j q e2;exact⟨this.1,this.2,y.1,y.2⟩
  .exact cG rfl ne
 .rcases sJ e with e | ⟨rfl,rfl⟩
  .exact R.hi i p e
  .exact⟨fa.2,fd.2⟩
def wf.snoc(Z:th)(h:Heap){a d:Addr}(ha:h.get? a=U)(hd:h.get? d=U):wf Z (Z++[(a,d)]) h:=by
 refine⟨λi p e=>uH e,λi p hi e=>?_⟩;rcases sJ e with e | ⟨_,rfl⟩
 .exact cG (f0 e) (fV.mpr hi)
 .exact⟨ha,hd⟩
def uf{α:Type}{l:List α}{x y:α}(e:(l.set i x)[j]? =J y):(i=j/\y=x/\i<l.length)\/(i≠j/\l[j]? =J y):=by
 rw[iE] at e;split at e
 .rename_i q;split at e
  .cases e;exact .inl ⟨q,rfl,by assumption⟩
  .cases e
 .rename_i q;exact .inr ⟨q,e⟩
def pu.put{a d c:Addr}{o':O}(R:pu B Z T h)(hi:Z[i]? =J (a,d))(hc:c=a\/c=d)(hs:gH c h h')(x:OR Z h' a d o'):pu B Z (T.set i o') h':=by
 ext B Z T h h' i a d c o';have hb:=R.hi i _ hi;have cb:B.get? c=U:=by rcases hc with rfl | rfl;exact hb.1;exact hb.2
 refine⟨by rw[cP];exact R.len,λj p o e1 e2=>?_,R.sep,R.hi,λb o e=>hs b o (λt=>by rw[t,cb] at e;cases e) (R.base b o e)⟩;ext j p o;rcases uf e2 with⟨rfl,rfl,_⟩ | ⟨ne,e2⟩
 .rw[hi] at e1;cases e1;exact x
 .have s:=R.sep i j _ _ hi e1 ne;refine(R.at_ j p o e1 e2).keep (λw w e=>e) (λob g=>?_) (λob g=>?_)
  .exact hs p.1 ob (by rcases hc with rfl | rfl;exact dQ s.1;exact dQ s.2.2.1) g
  .exact hs p.2 ob (by rcases hc with rfl | rfl;exact dQ s.2.1;exact dQ s.2.2.2) g
def vI.put{i:Nat}(hi:Z[i]? =J (a,d))(hc:c=a\/c=d)(hs:gH c h h'):vI Z h h':=λb o g n=>
 hs b o (by rcases hc with rfl | rfl;exact(n i _ hi).1;exact(n i _ hi).2) g
structure vQ (B:Heap) (Z:th) (s:ni) (aK:H) (v:V) (aL:th) (val:nf) (s':ni):Prop where
 ext:wf Z aL s.heap
 rel:pu B aL aK s'.heap
 keep:vI Z s.heap s'.heap
 val:VR aL v val
 gens:s'.gens=s.gens
 os:s'.os=s.os
noncomputable abbrev aa9(B:Heap)(Z:th)(s:ni)(aK:H)(v:V)(val:nf)(s':ni):Prop:=∃aL,vQ B Z s aK v aL val s'
abbrev Bk(B:Heap)(Z:th)(s:ni)(Q:V->H->Prop)(val:nf)(s':ni):Prop:=∃v aK,Q v aK/\aa9 B Z s aK v val s'
noncomputable abbrev qD:nf->ni->Prop:=λw w=>False
section
variable{aL bX ρ₂:th}{aK σ₁ σ₂:H}{s s₁ s₂:ni}{v v₁ v₂:V}{val w₁ w₂:nf}{Q:V->H->Prop}
def vQ.same(R:pu B Z T s.heap)(x:VR Z v val):vQ B Z s T v Z val {s with toks:=t,drawn:=d}:=
 ⟨.refl _ _,R,.refl _ _,x,rfl,rfl⟩
def vQ.trans(x:vQ B Z s σ₁ v₁ bX w₁ s₁)(y:vQ B bX s₁ σ₂ v₂ ρ₂ w₂ s₂):vQ B Z s σ₂ v₂ ρ₂ w₂ s₂:=
 ⟨x.ext.trans y.ext x.keep y.rel.sep,y.rel,x.keep.trans y.keep x.ext,y.val,y.gens.trans x.gens,y.os.trans x.os⟩
def vQ.bA(x:vQ B Z s σ₁ v₁ bX w₁ s₁)(y:VR bX v val):vQ B Z s σ₁ v bX val s₁:=⟨x.ext,x.rel,x.keep,y,x.gens,x.os⟩
def Bk.of(x:vQ B Z s σ₁ v₁ bX w₁ s₁)(y:Bk B bX s₁ Q val s₂):Bk B Z s Q val s₂:=by
 obtain⟨v,aK,q,aL,p⟩:=y;exact⟨v,aK,q,aL,x.trans p⟩
def Bk.now(q:Q v T)(R:pu B Z T s.heap)(x:VR Z v val):Bk B Z s Q val {s with toks:=t,drawn:=d}:=⟨v,T,q,Z,vQ.same R x⟩
def Bk.mono(m:∀v T,Q v T->Q' v T)(x:Bk B Z s Q val s₂):Bk B Z s Q' val s₂:=by
 obtain⟨v,aK,q,p⟩:=x;exact⟨v,aK,m _ _ q,p⟩
end
end
section
variable{aR:nJ}{w:dq}{A:nL}{B:Heap}{Z:th}{T aK:H}{s:ni}
def VR.bf(h:VR Z (.ref i) x):∃a d,x= .ref a/\Z[i]? =J (a,d):=by
 cases x<;>first | exact h.elim | (obtain⟨d,e⟩:=h;exact⟨_,d,rfl,e⟩)
def VR.int_inv(h:VR Z (.int i) x):∃t,x= .int i t:=by
 cases x<;>first | exact h.elim | (obtain rfl:i=_:=h;exact⟨_,rfl⟩)
def VR.bool_inv(h:VR Z (.bool i) x):x= .bool i:=by
 cases x<;>first | exact h.elim | (obtain rfl:i=_:=h;rfl)
def VR.str_inv(h:VR Z (.str i) x):∃t,x= .str i t:=by
 cases x<;>first | exact h.elim | (obtain rfl:i=_:=h;exact⟨_,rfl⟩)
def VR.none_inv(h:VR Z .none x):x= .none:=by
 cases x<;>first | exact h.elim | rfl
def VR.bW(h:VR Z (.con i) x):x= .ref i:=by
 cases x<;>first | exact h.elim | (obtain rfl:i=_:=h;rfl)
def Bk.new1(R:pu B Z T s.heap)(x:OR (Z++[(s.heap.objs.size,s.heap.objs.size)]) (s.heap.push ob) s.heap.objs.size s.heap.objs.size o)(q:Q (.ref T.length) (T++[o])):
  Bk B Z s Q (.ref s.heap.objs.size) {s with heap:=s.heap.push ob,toks:=t}:=
 ⟨_,_,q,Z++[(s.heap.objs.size,s.heap.objs.size)],.snoc _ _ (qH _) (qH _),R.new _ _ o x (qH _) (qH _) λw w g=>dy _ g,.push _ _ _,⟨s.heap.objs.size,by rw[<- R.len];exact ui _ _⟩,rfl,rfl⟩
def OR.newList(m:qS Z xs vs)(h:Heap):OR (Z++[(h.objs.size,h.objs.size)]) (h.push {cls:=.type "list",data:=.seq vs.toArray}) h.objs.size h.objs.size (.list xs):=
 ⟨rfl,vs,0,IsL.new _ _,m.mono λi p e=>uH e⟩
def OR.newTup(m:qS Z xs vs)(h:Heap):OR (Z++[(h.objs.size,h.objs.size)]) (h.push {cls:=.type "tuple",data:=.seq vs.toArray}) h.objs.size h.objs.size (.tup xs):=
 ⟨rfl,vs,IsTup.new _ _,m.mono λi p e=>uH e⟩
def qS.length(m:qS Z xs vs):xs.length=vs.length:=by
 induction m with
 | nil=>rfl
 | cons _ _ ih=>simp [ih]
def qS.append(m:qS Z xs vs)(n:qS Z ys ws):qS Z (xs++ys) (vs++ws):=by
 induction m with
 | nil=>exact n
 | cons a _ ih=>exact .cons a ih
def qS.get(m:qS Z xs vs):∀{i:Nat} {x:V},xs[i]? =J x->∃v,vs[i]? =J v/\VR Z x v:=by
 induction m with
 | nil=>intro i x e;cases e
 | cons a _ ih=>
  intro i x e;cases i with
  | zero=>cases e;exact⟨_,rfl,a⟩
  | succ i=>exact ih (i:=i) e
def qS.set(m:qS Z xs vs)(a:VR Z y u):∀(i:Nat),qS Z (xs.set i y) (vs.set i u):=by
 induction m with
 | nil=>intro i;exact .nil
 | cons b n ih=>
  intro i;cases i with
  | zero=>exact .cons a n
  | succ i=>exact .cons b (ih i)
def qS.take(m:qS Z xs vs):∀(n:Nat),qS Z (xs.take n) (vs.take n):=by
 induction m with
 | nil=>intro n;simp;exact .nil
 | cons b _ ih=>
  intro n;cases n with
  | zero=>exact .nil
  | succ n=>exact .cons b (ih n)
def qS.drop(m:qS Z xs vs):∀(n:Nat),qS Z (xs.drop n) (vs.drop n):=by
 induction m with
 | nil=>intro n;simp;exact .nil
 | cons b c ih=>
  intro n;cases n with
  | zero=>exact .cons b c
  | succ n=>exact ih n
def qS.rep(m:qS Z xs vs):∀(n:Nat),qS Z (cW n xs).flatten (cW n vs).flatten
 | 0=>.nil
 | n+1=>by
  rw[fO,fO,iF,iF];exact m.append (qS.rep m n)
def xm(h:small a=true):a.natAbs<2 ^ 64:=by
 ext a;unfold small at h;simp only[ax,cu] at h;lia
def VI(ha:small a=true)(_hb:small b=true):IntMulOk a b:=by
 ext a b;unfold IntMulOk;have:ja a<=64:=intBits_le_64 (by have:=xm ha;lia) (by have:=xm ha;lia);have:decide (ja a>shortFactorBits)=false:=cz (by unfold shortFactorBits;lia);rw[this];simp
abbrev Yt:Fh->nZ
 | .add=>.Add | .sub=>.Sub | .mul=>.Mult | .div=>.FloorDiv | .mod=>.Mod | .shl=>.LShift | .shr=>.RShift | .band=>.BitAnd | .bor=>.BitOr | .bxor=>.BitXor
def Gw{a b:Int}(h1:0<b)(h2:b<1000000):i5 a b=false:=by
 ext a b;unfold i5;have hb:b.natAbs.log2<30:=(Nat.log2_lt (by lia)).mpr (by lia);have z:b.natAbs.log2/30=0:=by lia
 simp only[z];split<;>rfl
def CW(h:te r Q):∃v T,r=J (v,T)/\Q v T:=by
 match r with
 | .none=>exact h.elim
 | some (v,T)=>exact⟨v,T,rfl,h⟩
def wo(h:Gs r T Q):∃v,r=J v/\Q v T:=by
 match r with
 | .none=>exact h.elim
 | some v=>exact⟨v,rfl,h⟩
def tC(h:yb r Q):∃v,r=J v/\Q v:=by
 match r with
 | .none=>exact h.elim
 | some v=>exact⟨v,rfl,h⟩
def Ms(h:PC r Q):∃v,r=J v/\Q v:=by
 match r with
 | .none=>exact h.elim
 | some v=>exact⟨v,rfl,h⟩
def Bk.int(R:pu B Z T s.heap)(q:Q (.int i) T):Bk B Z s Q (.int i u) {s with toks:=t}:=Bk.now q R (show VR Z (.int i) (.int i u) from rfl)
def Bk.bool(R:pu B Z T s.heap)(q:Q (.bool b) T):Bk B Z s Q (.bool b) {s with toks:=t}:=Bk.now q R (show VR Z (.bool b) (.bool b) from rfl)
def Bk.none(R:pu B Z T s.heap)(q:Q .none T):Bk B Z s Q .none {s with toks:=t}:=Bk.now q R (show VR Z .none .none from trivial)
def ud(R:pu B Z T s.heap)(hx:VR Z (.ref i) x)(e:T[i]? =J (.list xs)):∃a vs n,x= .ref a/\Z[i]? =J (a,a)/\IsL s.heap a vs.toArray n/\qS Z xs vs:=by
 ext B Z T s i xs x;obtain⟨a,d,rfl,g⟩:=hx.bf;obtain⟨ed,vs,n,l,m⟩:=R.at_ i _ _ g e;obtain rfl:a=d:=ed;exact⟨a,vs,n,rfl,g,l,m⟩
def oF{a:α}{C:Prop}(h:(U:Option α)=J a):C:=nomatch h
def sV[i:Decidable c](e:te (if c then J (v,h) else .none) Q):c/\Q v h:=by
 cases i with
 | isTrue q=>exact⟨q,e⟩
 | isFalse q=>exact e.elim
def UF(e:te (pq o (.int a) (.int b) T) Q)(R:pu B Z T s.heap):
  nr (model aR w) A (binaryOp (Yt o) (.int a t) (.int b u)) (Bk B Z s Q) qD s:=by
 cases o with
 | add=>exact add_int (Bk.int R e)
 | sub=>exact sub_int' (Bk.int R e)
 | mul=>exact have e:=sV e;mul_int (Bk.int R e.2) (VI (cY.mp e.1).1 (cY.mp e.1).2)
 | div=>
  have e:=sV e;have l:=cY.mp e.1;exact floordiv_int (jW (b9 l.1)) (Bk.int R e.2) (.inl (Gw (b9 l.1) (b9 l.2)))
 | mod=>exact have e:=sV e;mod_int' (jW e.1) (Bk.int R e.2)
 | shl=>
  have e:=sV e;have l:=cY.mp e.1;have l2:=cY.mp l.1;exact lshift_int_small (b9 l2.1) (b9 l2.2) (xm l.2) (Bk.int R e.2)
 | shr=>exact have e:=sV e;rshift_int e.1 (Bk.int R e.2)
 | band=>exact and_int (Bk.int R e)
 | bor=>exact or_int (Bk.int R e)
 | bxor=>exact xor_int (Bk.int R e)
def ue:1000000<sizeLine:=by decide +kernel
def vA(h:n<=1000):n<=sizeLine:=cO h (cO ⋯ (dH ue))
@[elab_as_elim] def UP{x y:V}{Q:V->H->Prop}{C:V->V->Prop}(e:te (pq o x y T) Q)(ci:∀a b,te (pq o (.int a) (.int b) T) Q->C (.int a) (.int b))(cr:∀a b,te (pq o (.ref a) (.ref b) T) Q->C (.ref a) (.ref b)):C x y:=by
 cases x<;>cases y<;>first | exact ci _ _ e | exact cr _ _ e | exact e.elim
def GD(e:te (TD o r q F) Q):∃xs ys,o= .add/\r=J (.list xs)/\q=J (.list ys)/\xs.length+ys.length<=1000/\Q (F xs ys).1 (F xs ys).2:=by
 ext o r q F Q;cases o<;>first | exact e.elim | skip
 cases r with
 | none=>exact e.elim
 | some o1=>
  cases o1<;>first | exact e.elim | skip
  cases q with
  | none=>exact e.elim
  | some o2=>cases o2<;>first | exact e.elim | exact⟨_,_,rfl,rfl,rfl,sV e⟩
def OT{x y:V}{vx vy:nf}{Q:V->H->Prop}(e:te (pq o x y T) Q)(R:pu B Z T s.heap)(hx:VR Z x vx)(hy:VR Z y vy):
  nr (model aR w) A (binaryOp (Yt o) vx vy) (Bk B Z s Q) qD s:=by
 ext aR w A B Z T s o x y vx vy Q;revert hx hy;refine UP e (λa b e hx hy=>?_) λa b e hx hy=>?_
 .obtain⟨t,rfl⟩:=hx.int_inv;obtain⟨u,rfl⟩:=hy.int_inv;exact UF e R
 .obtain⟨xs,ys,rfl,q1,q2,hz,e⟩:=GD (o:=o) (r:=T[a]?) (q:=T[b]?) (F:=λxs ys=>(V.ref T.length,T++[O.list (xs++ys)])) e;obtain⟨c,vs,n,rfl,g1,l1,m1⟩:=ud R hx q1;obtain⟨d,ws,n2,rfl,g2,l2,m2⟩:=ud R hy q2;refine P.add_list l1 l2 ?_ (vA (by rw[dJ,dJ,<-m1.length,<-m2.length];exact hz));have h:=Bk.new1 (s:=s) (Q:=Q) R (OR.newList (m1.append m2) s.heap) e (t:=s.toks);rw[jb];exact h
def bd{o:Option α}{f:α->Option β}{r:β}{C:Prop}(h:o.bind f=J r)(c:∀a,o=J a->f a=J r->C):C:=(iA.mp h).elim λa h=>c a h.1 h.2
def AB{x:V}{F:Nat->Option β}{r:β}{C:Prop}(e:Rf x F=J r)(c:∀a,x= .ref a->F a=J r->C):C:=by cases x<;>first | exact oF e | exact c _ rfl e
def KV{x:V}{F:Int->Option β}{r:β}{C:Prop}(e:Yp x F=J r)(c:∀a,x= .int a->F a=J r->C):C:=by cases x<;>first | exact oF e | exact c _ rfl e
def DS{β:Type}{F:List V->Option β}{r:β}{C:Prop}(e:Ws x F=J r)(c:∀xs,x=J (.list xs)->F xs=J r->C):C:=by
 revert F;ext x;cases x with
 | none=>exact oF e
 | some o=>cases o<;>first | exact oF e | exact c _ rfl e
def QF{x:Option O}{F:Nat->List (Nat × V)->Option β}{r:β}{C:Prop}(e:YU x F=J r)(c:∀k fs,x=J (.inst k fs)->F k fs=J r->C):C:=by
 cases x with
 | none=>exact oF e
 | some o=>cases o<;>first | exact oF e | exact c _ _ rfl e
def SP{p:Prop}[i:Decidable p]{v r:α}{C:Prop}(e:(if p then J v else .none)=J r)(c:p->v=r->C):C:=by
 cases i with
 | isTrue q=>exact c q (cI e)
 | isFalse q=>exact oF e
def GK{K:pK}{x y v:V}(e:xq K x y T=J v):∃i xs,y= .int i/\pN K T x=J xs/\(0<=i/\i<1000000)/\xs[i.toNat]? =J v:=by
 ext T K x y v;exact KV e λi hy e=>bd e λxs q e=>⟨i,xs,hy,q,Option.ite_none_right_eq_some.mp e⟩
def Kz{Q:V->H->Prop}(he:te (o8 x y T) Q):∃i xs,x= .ref i/\T[i]? =J (.list xs)/\xs.length<1000/\Q .none (T.set i (.list (xs++[y]))):=by
 ext T x y Q;obtain⟨v,aK,e,q⟩:=CW he;exact AB e λi hx e=>DS e λxs g e=>SP e λl e=>by cases (e);exact⟨i,xs,hx,g,l,q⟩
def yr:∀{xs:List V} {is:List Int},uJ xs=J is->xs=is.map V.int
 | [],is,q=>cI q▸rfl
 | x::xs,is,q=>by
  cases x with
  | int i=>
   obtain⟨r,e1,e2⟩:=dg.mp q;rw[<- e2,yr e1];rfl
  | _=>exact oF q
def Qo{Q:V->H->Prop}{C:List V->Prop}(he:te (sF xs T) Q)(c1:∀b,Q (.ref T.length) (T++[.aT 0 b 1])->C [.int b])(c2:∀a b,Q (.ref T.length) (T++[.aT a b 1])->C [.int a,.int b])
  (c3:∀a b c,((c=1\/c=2)\/c=-1)->Q (.ref T.length) (T++[.aT a b c])->C [.int a,.int b,.int c]):C xs:=by
 obtain⟨v,aK,e,q⟩:=CW he;refine bd e λis e1 e=>?_;rw[yr e1];have go:∀{r:Rz V},r=J (v,aK)->te r Q:=λe=>by rw[e];exact q
 match is,e with
 | [a],e=>exact c1 a (sV (go e)).2
 | [a,b],e=>exact c2 a b (sV (go e)).2
 | a::b::c::r,e=>
  have z:=sV (go e);have l:=cY.mp z.1;obtain rfl:=jK.mp l.1;exact c3 a b c ((ei.mp (cY.mp l.2).2).imp (λh=>(ei.mp h).imp cH cH) cH) z.2
 | [],e=>exact oF e
end
section
open PySem PySem.W PyProof.Rows PySem.SeqAt
section
variable{aR:nJ}{w:dq}{A:nL}{B:Heap}{Z:th}{T aK:H}{s:ni}
def wi(h:qy f (x::xs) (y::ys)=J b):∃a c,f x y=J a/\qy f xs ys=J c/\b=(a&&c):=by
 have h:(match f x y,qy f xs ys with | some a,J b=>J (a&&b) | _,_=>.none)=J b:=h;cases e1:f x y with
 | none=>rw[e1] at h;exact oF h
 | some a=>
  rw[e1] at h;cases e2:qy f xs ys with
  | none=>rw[e2] at h;exact oF h
  | some c=>rw[e2] at h;exact⟨a,c,rfl,rfl,(cI h).symm⟩
def yv(hf:∀x b,f x x=J b->b=true):∀(xs:List V) (b:Bool),qy f xs xs=J b->b=true
 | [],b,h=>(cI h).symm
 | x::xs,b,h=>by
  obtain⟨a,c,e1,e2,e⟩:=wi h;rw[e,hf x a e1,yv hf xs c e2];rfl
@[elab_as_elim] def G2{h:H}{x y:V}{b:Bool}{C:V->V->Bool->Prop}(e:u8 (n+1) h x y=J b)(ci:∀a c,C (.int a) (.int c) (a == c))(cb:∀a c,C (.bool a) (.bool c) (a == c))(cs:∀a c,C (.str a) (.str c) (a == c))
  (cr:∀i j b,u8 (n+1) h (.ref i) (.ref j)=J b->C (.ref i) (.ref j) b):C x y b:=by
 cases x<;>cases y<;>first | exact cr _ _ _ e | exact cI e▸ci _ _ | exact cI e▸cb _ _ | exact cI e▸cs _ _ | exact oF e
def MG(e:u8 (n+1) h (.ref i) (.ref j)=J b):
  (∃xs ys,h[i]? =J (.list xs)/\h[j]? =J (.list ys)/\((xs.length=ys.length/\qy (u8 n h) xs ys=J b)\/(xs.length≠ys.length/\b=false)))\/
   ∃xs ys c,h[i]? =J (.tup xs)/\h[j]? =J (.tup ys)/\qy (u8 n h) xs ys=J c/\b=(c&&xs.length == ys.length):=by
 ext n h i j b;have e:(match h[i]?,h[j]? with
   | some (.list xs),J (.list ys)=>if xs.length == ys.length then qy (u8 n h) xs ys else J false
   | some (.tup xs),J (.tup ys)=>match qy (u8 n h) xs ys with
    | some c=>J (c&&xs.length == ys.length)
    | .none=>.none
   | _,_=>.none)=J b:=e
 cases q1:h[i]? with
 | none=>rw[q1] at e;exact oF e
 | some o1=>
  ext o1;rw[q1] at e;cases q2:h[j]? with
  | none=>rw[q2] at e;cases o1<;>exact oF e
  | some o2=>
   ext o2;rw[q2] at e;cases o1<;>cases o2<;>first | exact oF e | skip
   .rename_i xs ys;refine .inl ⟨xs,ys,rfl,rfl,?_⟩;by_cases hl:xs.length=ys.length
    .exact .inl ⟨hl,(cC (beq_iff_eq.mpr hl)).symm.trans e⟩
    .exact .inr ⟨hl,(cI ((cD λz=>hl (cH z)).symm.trans e)).symm⟩
   .rename_i xs ys;dsimp only at e;cases q:qy (u8 n h) xs ys with
    | none=>rw[q] at e;exact oF e
    | some c=>rw[q] at e;exact .inr ⟨xs,ys,c,rfl,rfl,q,(cI e).symm⟩
def DB:∀(n:Nat) (h:H) (x:V) (b:Bool),u8 n h x x=J b->b=true
 | 0,_,_,_,e=>oF e
 | n+1,h,x,b,e=>G2 (C:=λx y b=>x=y->b=true) e (λa c q=>by cases q;exact beq_self_eq_true a) (λa c q=>by cases q;exact beq_self_eq_true a) (λa c q=>by cases q;exact beq_self_eq_true a) (λi j b e q=>by
   obtain rfl:i=j:=V.ref.inj q;rcases MG e with⟨xs,ys,h1,h2,h⟩ | ⟨xs,ys,c,h1,h2,h3,rfl⟩
   .obtain rfl:xs=ys:=O.list.inj (cI (h1.symm.trans h2));exact h.elim (λh=>yv (DB n _) xs b h.2) λh=>cG rfl h.1
   .obtain rfl:xs=ys:=O.tup.inj (cI (h1.symm.trans h2));rw[yv (DB n _) xs c h3,beq_self_eq_true];rfl) rfl
def Ke:∀{xs ys:List V} {b:Bool},qy f xs ys=J b->∀(j:Nat) (x y:V),xs[j]? =J x->ys[j]? =J y->∃c,f x y=J c
 | [],_,_,_,j,x,y,h1,_=>oF h1
 | _::_,[],_,_,j,x,y,_,h2=>oF h2
 | x::xs,y::ys,b,h,0,u,v,h1,h2=>(wi h).elim λa z=>z.elim λc z=>⟨a,cI h1▸cI h2▸z.1⟩
 | x::xs,y::ys,b,h,j+1,u,v,h1,h2=>(wi h).elim λa z=>z.elim λc z=>Ke z.2.1 j u v h1 h2
abbrev XT(f:V->V->Option Bool)(xs ys:List V)(j:Nat):Bool:=match xs[j]?,ys[j]? with
 | some x,J y=>(f x y).getD false
 | _,_=>false
def w9:∀{xs ys:List V} {b:Bool},qy f xs ys=J b->(cn (min xs.length ys.length)).all (XT f xs ys)=b
 | [],ys,b,h=>by rw[eV,Nat.zero_min];exact cI h
 | _::_,[],b,h=>by rw[eV,Nat.min_zero];exact cI h
 | x::xs,y::ys,b,h=>by
  obtain⟨a,c,e1,e2,rfl⟩:=wi h;rw[ey,ey,Nat.succ_min_succ,jX,List.all_cons,List.all_map];show((f x y).getD false&&(cn (min xs.length ys.length)).all (XT f xs ys))=_;rw[w9 e2,e1];rfl
def M0{vs:List nf}(h:j<vs.toArray.size):vs[j]? =J vs.toArray[j]:=a7 (by rw[dJ] at h;exact h)
def QY(ih:∀{x y:V} {vx vy:nf} {b:Bool},VR Z x vx->VR Z y vy->u8 n T x y=J b->EqAt A.in1 s vx vy b){xs ys:List V}{vs ws:List nf}{b:Bool}(m1:qS Z xs vs)(m2:qS Z ys ws)(e:qy (u8 n T) xs ys=J b):
  ∀k (h1:k<vs.toArray.size) (h2:k<ws.toArray.size),EqAt A.in1 s vs.toArray[k] ws.toArray[k] (XT (u8 n T) xs ys k):=λk h1 h2=>by
 have hk1:=a7 (show k<xs.length by rw[m1.length];rw[dJ] at h1;exact h1);have hk2:=a7 (show k<ys.length by rw[m2.length];rw[dJ] at h2;exact h2);obtain⟨c,hc⟩:=Ke e k _ _ hk1 hk2;obtain⟨v1,g1,r1⟩:=m1.get hk1;obtain⟨v2,g2,r2⟩:=m2.get hk2;rw[<- cI ((M0 h1).symm.trans g1)] at r1;rw[<- cI ((M0 h2).symm.trans g2)] at r2;have:XT (u8 n T) xs ys k=c:=by unfold XT;rw[hk1,hk2];show(u8 n T _ _).getD false=c;rw[hc];rfl
 rw[this];exact ih r1 r2 hc
def SJ{i j a d a2 d2:Nat}{b:Bool}(ih:∀{x y:V} {vx vy:nf} {b:Bool},VR Z x vx->VR Z y vy->u8 n T x y=J b->EqAt A.in1 s vx vy b)(hu:A.units<cLine)(R:pu B Z T s.heap)(ha:Z[i]? =J (a,d))(ha2:Z[j]? =J (a2,d2))(e:u8 (n+1) T (.ref i) (.ref j)=J b):RcAt A s (.ref a) (.ref a2) b:=by
 ext A B Z T s n i j a d a2 d2 b;rcases MG e with⟨xs,ys,h1,h2,h⟩ | ⟨xs,ys,c,h1,h2,h3,rfl⟩
 .obtain⟨-,vs,n1,L1',m1⟩:=R.at_ i _ _ ha h1;obtain⟨-,ws,n2,L2',m2⟩:=R.at_ j _ _ ha2 h2;have L1:=k9 L1';have L2:=k9 L2';have s1:vs.toArray.size=xs.length:=m1.length.symm;have s2:ws.toArray.size=ys.length:=m2.length.symm;rcases h with⟨hl,h⟩ | ⟨hl,rfl⟩
  .have r:=RcAt.lists (e:=XT (u8 n T) xs ys) (A:=A) L1 L2 (s1.trans (hl.trans s2.symm)) hu (QY ih m1 m2 h);have e':=w9 h;rw[<- hl,Nat.min_self,<-s1] at e';rw[e'] at r;exact r
  .exact RcAt.lists_lengths L1 L2 (bne_iff_ne.mpr λq=>hl (s1.symm.trans (q.trans s2))) hu
 .obtain⟨-,vs,L1,m1⟩:=R.at_ i _ _ ha h1;obtain⟨-,ws,L2,m2⟩:=R.at_ j _ _ ha2 h2;have s1:vs.toArray.size=xs.length:=m1.length.symm;have s2:ws.toArray.size=ys.length:=m2.length.symm;have r:=RcAt.tuples (e:=XT (u8 n T) xs ys) (A:=A) L1 L2 hu (QY ih m1 m2 h3);have e':=w9 h3;rw[<- s1,<-s2] at e' ⊢;rw[e'] at r;exact r
def SF:∀(n:Nat) {A:nL} {x y:V} {vx vy:nf} {b:Bool},A.units+n<cLine->pu B Z T s.heap->VR Z x vx->VR Z y vy->u8 n T x y=J b->EqAt A s vx vy b
 | 0,_,_,_,_,_,_,_,_,_,_,e=>oF e
 | n+1,A,x,y,vx,vy,b,hu,R,hx,hy,e=>G2 (C:=λx y b=>VR Z x vx->VR Z y vy->EqAt A s vx vy b) e
   (λa c hx hy=>by obtain⟨t,rfl⟩:=hx.int_inv;obtain⟨u,rfl⟩:=hy.int_inv;exact EqAt.int_int _ _ _ _)
   (λa c hx hy=>by rw[hx.bool_inv,hy.bool_inv];exact EqAt.bool_bool _ _)
   (λa c hx hy=>by obtain⟨t,rfl⟩:=hx.str_inv;obtain⟨u,rfl⟩:=hy.str_inv;exact EqAt.str_str _ _ _ _)
   (λi j b e hx hy=>by
    obtain⟨a,d,rfl,ha⟩:=hx.bf;obtain⟨a2,d2,rfl,ha2⟩:=hy.bf;by_cases ne:a=a2
    .subst ne;obtain rfl:i=j:=cJ λq=>(R.sep i j _ _ ha ha2 q).1 rfl;rw[DB (n+1) T (.ref i) b e];exact EqAt.same _
    .exact EqAt.of_refs ne (SJ (λhx hy e=>SF n (A:=A.in1) (by show A.units+1+n<cLine;rw[fg];exact hu) R hx hy e) (ae (de _ _) hu) R ha ha2 e)) hx hy
def ZM(hu:A.units+n+1<cLine)(R:pu B Z T s.heap){i j a d a2 d2:Nat}{b:Bool}(ha:Z[i]? =J (a,d))(ha2:Z[j]? =J (a2,d2))(e:u8 (n+1) T (.ref i) (.ref j)=J b):RcAt A s (.ref a) (.ref a2) b:=
 SJ (λhx hy e=>SF n (A:=A.in1) (by show A.units+1+n<cLine;rw[fg];exact hu) R hx hy e) (ae (de _ (n+1)) hu) R ha ha2 e
end
end
section
open PySem PySem.W PyProof.Rows PySem.SeqAt
abbrev Iu:Kk->n8
 | .eq=>.Eq | .ne=>.NotEq | .lt=>.Lt | .le=>.LtE | .gt=>.Gt | .ge=>.GtE | .is=>.Is | .isnot=>.IsNot | .isin=>.In | .b7=>.NotIn
abbrev CR(h:Heap)(a:Addr):O->Prop
 | .list xs=>∃vs,h.IsList a vs.toArray/\qS [] xs vs
 | .tup xs=>∃vs,IsTup h a vs.toArray/\qS [] xs vs
 | _=>False
abbrev vF(K:pK)(B:Heap):Prop:=∀a o,K.con a=J o->CR B a o
section
variable{aR:nJ}{w:dq}{A:nL}{B:Heap}{Z:th}{T aK:H}{s:ni}{K:pK}
def qS.bL(m:qS [] xs vs):qS Z xs vs:=m.mono λi p e=>by cases e
def DX(C:vF K B)(R:pu B Z T s.heap)(hx:VR Z x vx)(e:tR K T x=J (.tup xs)):∃a vs,vx= .ref a/\IsTup s.heap a vs.toArray/\qS Z xs vs:=by
 ext B Z T s K x vx xs;cases x with
 | ref i=>
  obtain⟨a,d,rfl,g⟩:=hx.bf;obtain⟨-,vs,l,m⟩:=R.at_ i _ _ g e;exact⟨a,vs,rfl,l,m⟩
 | con a=>
  obtain rfl:=hx.bW;obtain⟨vs,⟨ob,g,l⟩,m⟩:=C a _ e;exact⟨a,vs,rfl,⟨ob,R.base _ _ g,l⟩,m.bL⟩
 | _=>cases e
def Hy(C:vF K B)(R:pu B Z T s.heap)(hx:VR Z x vx)(e:tR K T x=J (.list xs)):∃a vs,vx= .ref a/\s.heap.IsList a vs.toArray/\qS Z xs vs:=by
 cases x with
 | ref i=>
  obtain⟨a,d,rfl,g⟩:=hx.bf;obtain⟨-,vs,n,l,m⟩:=R.at_ i _ _ g e;exact⟨a,vs,rfl,k9 l,m⟩
 | con a=>
  obtain rfl:=hx.bW;obtain⟨vs,⟨ob,g,l⟩,m⟩:=C a _ e;exact⟨a,vs,rfl,⟨ob,R.base _ _ g,l⟩,m.bL⟩
 | _=>cases e
def O0(e:pN K T x=J xs):tR K T x=J (.list xs)\/tR K T x=J (.tup xs):=by
 ext T K x xs;unfold pN at e;cases q:tR K T x with
 | none=>rw[q] at e;exact oF e
 | some o=>
  rw[q] at e;cases o<;>first | exact oF e | exact .inl (cF (λxs=>J (O.list xs)) (cI e)) | exact .inr (cF (λxs=>J (O.tup xs)) (cI e))
def Hk(C:vF K B)(R:pu B Z T s.heap)(hx:VR Z x vx)(e:pN K T x=J xs):∃a vs,vx= .ref a/\(s.heap.IsList a vs.toArray\/IsTup s.heap a vs.toArray)/\qS Z xs vs:=
 (O0 e).elim (λq=>(Hy C R hx q).elim λa h=>h.elim λvs h=>⟨a,vs,h.1,.inl h.2.1,h.2.2⟩) λq=>(DX C R hx q).elim λa h=>h.elim λvs h=>⟨a,vs,h.1,.inr h.2.1,h.2.2⟩
abbrev aaE:nf->V
 | .bool b=>.bool b
 | .int i _=>.int i
 | .str s _=>.str s
 | _=>.none
def VR.pre(hx:VR Z x v)(nx:∀a,x≠.con a):x=aaE v\/∃i a d,x= .ref i/\v= .ref a/\Z[i]? =J (a,d):=by
 ext Z x v;cases x with
 | none=>rw[hx.none_inv];exact .inl rfl
 | bool b=>rw[hx.bool_inv];exact .inl rfl
 | int i=>obtain⟨t,rfl⟩:=hx.int_inv;exact .inl rfl
 | str s=>obtain⟨t,rfl⟩:=hx.str_inv;exact .inl rfl
 | ref i=>obtain⟨a,d,h⟩:=hx.bf;exact .inr ⟨i,a,d,rfl,h⟩
 | con a=>exact cG rfl (nx a)
def VR.inj(R:pu B Z T s.heap)(hx:VR Z x v)(hy:VR Z y v)(nx:∀a,x≠.con a)(ny:∀a,y≠.con a):x=y:=by
 ext B Z T s x y v;rcases hx.pre nx with e | ⟨i,a,d,rfl,rfl,e1⟩<;>rcases hy.pre ny with e' | ⟨j,a',d',rfl,h,e2⟩
 .exact e.trans e'.symm
 .subst h;rw[e] at hx;exact hx.elim
 .rw[e'] at hy;exact hy.elim
 .cases h;exact cF V.ref (cJ λq=>(R.sep i j _ _ e1 e2 q).1 rfl)
def Nm(e:u8 n T x y=J b):∀a,x≠.con a:=by
 cases n with
 | zero=>exact oF e
 | succ n=>exact G2 (C:=λx w w=>∀a,x≠.con a) e (λw w w q=>nomatch q) (λw w w q=>nomatch q) (λw w w q=>nomatch q) λw w w w w q=>nomatch q
abbrev Ta(Z:th)(T:H)(z:V)(y:nf):Bool:=@decide (∃x,VR Z x y/\u8 4 T x z=J true) (eT _)
def XI(R:pu B Z T s.heap)(hx:VR Z x y)(e:u8 4 T x z=J c):Ta Z T z y=c:=by
 unfold Ta;cases c with
 | true=>exact @cy _ (eT _) ⟨x,hx,e⟩
 | false=>
  refine @cz _ (eT _) ?_;rintro⟨x',hx',e'⟩;rw[<- VR.inj R hx hx' (Nm e) (Nm e'),e] at e';exact nomatch e'
def NS(h:z8 T z (x::xs)=J b):∃a c,u8 4 T x z=J a/\z8 T z xs=J c/\b=(a||c):=by
 ext T z x xs b;have h:(match u8 4 T x z,z8 T z xs with | some a,J b=>J (a||b) | _,_=>.none)=J b:=h;cases e1:u8 4 T x z with
 | none=>rw[e1] at h;exact oF h
 | some a=>
  rw[e1] at h;cases e2:z8 T z xs with
  | none=>rw[e2] at h;exact oF h
  | some c=>rw[e2] at h;exact⟨a,c,rfl,rfl,(cI h).symm⟩
def Kt(R:pu B Z T s.heap)(hu:A.units+64<cLine)(hz:VR Z z vz)(m:qS Z xs vs):∀{b:Bool},z8 T z xs=J b->
  (∀y∈vs,EqAt A.in1 s y vz (Ta Z T z y))/\vs.any (Ta Z T z)=b:=by
 induction m with
 | nil=>exact λe=>⟨λw h=>(nomatch h),cI e⟩
 | @cons x y xs vs hx m ih=>
  intro b e;obtain⟨a,c,e1,e2,rfl⟩:=NS e;have i:=ih e2;have k:=XI R hx e1;refine⟨λv hv=>?_,by rw[iQ,k,i.2]⟩;rcases dP.mp hv with rfl | hv
  .rw[k];exact SF 4 (ae (by rw[dG];exact di ⋯ _:A.units+1+4<=A.units+64) hu) R hx hz e1
  .exact i.1 v hv
@[elab_as_elim] def Wz{f:Int->Int->Bool}{b:Bool}{C:V->V->Bool->Prop}(e:Ys x y f=J b)(c:∀a d,C (.int a) (.int d) (f a d)):C x y b:=by
 cases x<;>cases y<;>first | exact oF e | exact cI e▸c _ _
@[elab_as_elim] def XX{b:Bool}{C:V->V->Bool->Prop}(e:neV x y=J b)(ci:∀a c,C (.int a) (.int c) (a != c))(cb:∀a c,C (.bool a) (.bool c) (a != c))(cs:∀a c,C (.str a) (.str c) (a != c)):C x y b:=by
 cases x<;>cases y<;>first | exact oF e | exact cI e▸ci _ _ | exact cI e▸cb _ _ | exact cI e▸cs _ _
def Hx(hx:VR Z x v):(v == .none)=NT x:=by
 cases x with
 | none=>rw[hx.none_inv];rfl
 | bool b=>rw[hx.bool_inv];rfl
 | int i=>obtain⟨t,rfl⟩:=hx.int_inv;rfl
 | str s=>obtain⟨t,rfl⟩:=hx.str_inv;rfl
 | ref i=>obtain⟨a,d,rfl,h⟩:=hx.bf;rfl
 | con a=>rw[hx.bW];rfl
def MD(hx:VR Z x v)(h:NT x=true):v= .none:=cH ((Hx hx).trans h)
noncomputable abbrev K9(aR:nJ)(w:dq)(A:nL)(s:ni)(o:n8)(vx vy:nf)(b:Bool):Prop:=nr (model aR w) A (compareOp o vx vy) (λval s'=>val= .bool b/\s'=s) qD s
def Qw(C:vF K B)(R:pu B Z T s.heap)(hu:A.units+64<cLine)(hx:VR Z x vx)(hy:VR Z y vy)(e:((pN K T y).bind λys=>z8 T x ys)=J b):K9 aR w A s .In vx vy b/\K9 aR w A s .NotIn vx vy (!b):=
 bd e λys q e=>by
  obtain⟨a,vs,rfl,hl,m⟩:=Hk C R hy q;have i:=Kt (A:=A) R hu hx m e;have i1:∀v∈vs.toArray,EqAt A.in1 s v vx (Ta Z T x v):=λv hv=>i.1 v (lZ.mp hv);have i2:=(List.any_toArray (l:=vs) (p:=Ta Z T x)).trans i.2;rcases hl with hl | hl
  .exact⟨in_listAt (Ta Z T x) hl i1 ⟨cF lh i2,rfl⟩,notIn_listAt (Ta Z T x) hl i1 ⟨cF (λb=>lh !b) i2,rfl⟩⟩
  .exact⟨in_tupleAt (Ta Z T x) (show lO _ _ _ from hl) i1 ⟨cF lh i2,rfl⟩,notIn_tupleAt (Ta Z T x) (show lO _ _ _ from hl) i1 ⟨cF (λb=>lh !b) i2,rfl⟩⟩
def Hl{f:Int->Int->Bool}(h:∀a d t u,K9 aR w A s o (.int a t) (.int d u) (f a d)){x y:V}{vx vy:nf}{b:Bool}(hx:VR Z x vx)(hy:VR Z y vy)(e:Ys x y f=J b):K9 aR w A s o vx vy b:=by
 revert hx hy;refine Wz e λa d hx hy=>?_;obtain⟨t,rfl⟩:=hx.int_inv;obtain⟨u,rfl⟩:=hy.int_inv;exact h a d t u
def Rm{x y:V}{vx vy:nf}{b:Bool}(C:vF K B)(R:pu B Z T s.heap)(hu:A.units+64<cLine)(hx:VR Z x vx)(hy:VR Z y vy)(e:s7 K o x y T=J b):K9 aR w A s (Iu o) vx vy b:=by
 ext aR w A B Z T s K o x y vx vy b;cases o with
 | eq=>
  revert hx hy;refine G2 (n:=3) (C:=λx y b=>VR Z x vx->VR Z y vy->K9 aR w A s .Eq vx vy b) e (λa c hx hy=>?_) (λa c hx hy=>?_) (λa c hx hy=>?_) λi j b e hx hy=>?_
  .obtain⟨t,rfl⟩:=hx.int_inv;obtain⟨u,rfl⟩:=hy.int_inv;exact eq_int ⟨rfl,rfl⟩
  .rw[hx.bool_inv,hy.bool_inv];exact eq_bool ⟨rfl,rfl⟩
  .obtain⟨t,rfl⟩:=hx.str_inv;obtain⟨u,rfl⟩:=hy.str_inv;exact eq_str ⟨rfl,rfl⟩
  .obtain⟨a,d,rfl,ha⟩:=hx.bf;obtain⟨a2,d2,rfl,ha2⟩:=hy.bf;exact ZM (n:=3) (ae (di (by decide:4<=64) A.units) hu) R ha ha2 e _ _ _ _ ⟨rfl,rfl⟩
 | ne=>
  revert hx hy;refine XX (C:=λx y b=>VR Z x vx->VR Z y vy->K9 aR w A s .NotEq vx vy b) e (λa c hx hy=>?_) (λa c hx hy=>?_) λa c hx hy=>?_
  .obtain⟨t,rfl⟩:=hx.int_inv;obtain⟨u,rfl⟩:=hy.int_inv;exact ne_int ⟨rfl,rfl⟩
  .rw[hx.bool_inv,hy.bool_inv];exact ne_bool ⟨rfl,rfl⟩
  .obtain⟨t,rfl⟩:=hx.str_inv;obtain⟨u,rfl⟩:=hy.str_inv;exact ne_str ⟨rfl,rfl⟩
 | isin=>exact(Qw C R hu hx hy e).1
 | b7=>exact bd e λys q e=>(dg.mp e).elim λc h=>h.2▸(Qw C R hu hx hy (iA.mpr ⟨ys,q,h.1⟩)).2
 | is=>exact SP e λh e=>by rw[MD hy h,<-e,<-Hx hx];exact is_none_gen ⟨rfl,rfl⟩
 | isnot=>exact SP e λh e=>by rw[MD hy h,<-e,<-Hx hx];exact isnot_none_gen ⟨rfl,rfl⟩
 | lt=>exact Hl (λa d t u=>lt_int ⟨rfl,rfl⟩) hx hy e
 | le=>exact Hl (λa d t u=>le_int ⟨rfl,rfl⟩) hx hy e
 | gt=>exact Hl (λa d t u=>gt_int ⟨rfl,rfl⟩) hx hy e
 | ge=>exact Hl (λa d t u=>ge_int ⟨rfl,rfl⟩) hx hy e
def uh(C:vF K B)(R:pu B Z T s.heap)(hu:A.units+64<cLine)(hx:VR Z x vx)(hy:VR Z y vy)(e:s7 K o x y T=J b)(q:Q (.bool b) T):
  nr (model aR w) A (compareOp (Iu o) vx vy) (Bk B Z s Q) qD s:=
 nG (Rm C R hu hx hy e) (λval s' h=>h.1▸h.2▸Bk.bool R q (t:=s.toks)) λz z x=>x
def SL(R:pu B Z T s.heap)(hx:VR Z x vx)(e:tr x=J b)(h:Q b s):nr (model aR w) A (truthy vx) Q qD s:=by
 let _:=R
 cases x with
 | none=>rw[hx.none_inv];exact truthy_none (cI e▸h)
 | bool c=>rw[hx.bool_inv];exact wpAny_truthy_bool (cI e▸h)
 | int i=>obtain⟨t,rfl⟩:=hx.int_inv;exact truthy_int ((cI e:(i != 0)=b)▸h)
 | _=>exact oF e
end
end
section
open PySem PySem.W PyProof.Rows PySem.SeqAt
structure W3 (KF:Frag):Prop where
 get:∀c n,n<26->plainGet KF (t8 c) (pI n)=true/\findIn KF (.ref (t8 c)) (pI n)=J U
 has:∀c,hasDictIn KF (t8 c)=true/\findIn KF (.ref (t8 c)) "__setattr__"=J (J (.builtin "object.__setattr__"))/\plainOver KF (t8 c)=true
 inj:∀n m,n<26->m<26->(pI n == pI m)=true->n=m
section
variable{aR:nJ}{w:dq}{A:nL}{B:Heap}{Z:th}{T aK:H}{s:ni}{K:pK}{KF:Frag}{Q:V->H->Prop}
def Rr{i:Int}{vs:List nf}(h:0<=i)(l:i<vs.length):seqIndex? i vs.toArray.size=J i.toNat:=by
 have hneg:¬i<0:=Int.not_lt.mpr h;simp [seqIndex?,hneg,h,l]
def OD{x y:V}(C:vF K B)(R:pu B Z T s.heap)(hx:VR Z x vx)(hy:VR Z y vy)(hns:∀a b c p,slice≠.Slice a b c p)(he:Gs (xq K x y T) T Q):
  nr (model aR w) A (subscriptTail value slice vx vy) (Bk B Z s Q) qD s:=by
 obtain⟨v,e,q⟩:=wo he;clear he;obtain⟨i,xs,rfl,q1,h,e⟩:=GK e;obtain⟨u,rfl⟩:=hy.int_inv;obtain⟨a,vs,rfl,hl,m⟩:=Hk C R hx q1;obtain⟨val,g,r⟩:=m.get e;have hlt:i<vs.length:=(jf h.1).mp (f0 g);have tail:∀{id af:String},s.TypeIs (.ref a) af->typeLookup (.type af) "__getitem__"=pure (J (.builtin id))->nr (model aR w) A (getItem (.ref a) (.int i u)) (Bk B Z s Q) qD s->
   nr (model aR w) A (subscriptTail value slice (.ref a) (.int i u)) (Bk B Z s Q) qD s:=by
  intro id af hT hlk h;unfold subscriptTail;refine nh ?_;rw[getitemInPython_of_ne hT.not_modules];refine nh (wpAny_specialOf hT hlk ?_);have hs:subscripted slice false (.ref a) (.int i u)=operate [.ref a,.int i u] (getItem (.ref a) (.int i u)):=by
   cases slice<;>first | rfl | exact cG rfl (hns _ _ _ _)
  have fin:nr (model aR w) A (subscripted slice false (.ref a) (.int i u)) (λr s₃=>nr (model aR w) A (letTemporaryGo value (.ref a) r >>= λz=>pure r) (Bk B Z s Q) qD s₃) qD s:=by
   rw[hs];exact wpAny_operating (nG h (λr s₃ h₃=>nh (wpAny_letTemporaryGo (nD h₃))) λz z x=>x)
  first
   | exact nD (nh fin)
   | exact nh (nD (nh fin))
   | exact nh fin
 have fin:Bk B Z s Q val s:=Bk.now q R r (t:=s.toks) (d:=s.drawn);have g':vs.toArray[i.toNat]? =J val:=(gT ..).trans g;have h63:i<2 ^ 63:=gL h.2 ⋯;rcases hl with hl | hl
 .exact tail hl.typeIs slot_list_getitem.lookup (wpAny_getItem_list hl h.1 h63 g' fin)
 .refine tail hl.typeIs slot_tuple_getitem.lookup (jn (j:=i.toNat) hl (gx ⋯ h.1) h63 (Rr h.1 hlt) g' fin)
def Nl(CL:W3 KF)(hn:n<26)(m:G7 Z fs es):(∀v,fs.lookup n=J v->∃val,getL (pI n) es=J (J val)/\VR Z v val)/\(getL (pI n) es).isSome=true:=by
 ext Z KF n fs es;have rk:es.any (·.refKey)=false:=by
  induction m with
  | nil=>rfl
  | cons l k b _ ih=>obtain⟨t,k⟩:=k;rw[iQ,ih,DictEntry.refKey,k];rfl
 have key:∀{fs:List (Nat × V)} {es:List nH},G7 Z fs es->∀v,fs.lookup n=J v->∃e,es.find? (·.key.isStr (pI n))=J e/\VR Z v e.val:=by
  intro fs es m
  induction m with
  | nil=>intro v h;cases h
  | @cons p v e fs es l k b _ ih=>
   intro u h;obtain⟨t,k⟩:=k;by_cases q:n=p
   .subst q;rw[d6,beq_self_eq_true] at h;cases h;refine⟨e,?_,b⟩;rw[mz,k];simp [Value.isStr]
   .have qb:(n == p)=false:=by simpa using q
    rw[d6,qb] at h;obtain⟨e',h1,h2⟩:=ih u h;refine⟨e',?_,h2⟩;rw[mz];have:e.key.isStr (pI n)=false:=by
     rw[k];show(pI p == pI n)=false;cases z:(pI p == pI n) with
     | false=>rfl
     | true=>exact cG (CL.inj p n l hn z).symm q
    rw[this];exact h1
 constructor
 .intro v h;obtain⟨e,h1,h2⟩:=key m v h;exact⟨e.val,by unfold getL;rw[h1],h2⟩
 .unfold getL;cases es.find? (·.key.isStr (pI n)) with
  | some e=>rfl
  | none=>simp [rk]
def O6(x:VR Z v val):handedIn val=true:=by cases v<;>cases val<;>first | exact x.elim | rfl
def MT(R:pu B Z T s.heap)(hx:VR Z (.ref i) x)(e:T[i]? =J (.inst c fs)):
  ∃a d es n,x= .ref a/\Z[i]? =J (a,d)/\a≠d/\InstAt s.heap a ⟨.ref (t8 c),J d,.plain,#[]⟩ (t8 c) (J (dictOf es n))/\s.heap.get? d=J (dictOf es n)/\G7 Z fs es:=by
 ext B Z T s i c fs x;obtain⟨a,d,rfl,g⟩:=hx.bf;ext a d;obtain⟨ne,g1,es,n,g2,m⟩:=R.at_ i _ _ g e;exact⟨a,d,es,n,rfl,g,ne,⟨g1,rfl,rfl,g2⟩,g2,m⟩
def Dl(CL:W3 KF)(KI:KF.In B)(R:pu B Z T s.heap)(hn:n<26)(hx:VR Z x vx)(he:Gs (xA x n T) T Q):
  nr (model aR w) A (getAttr vx (pI n) ex) (Bk B Z s Q) qD s:=by
 obtain⟨v,e,q⟩:=wo he;refine AB e λi hi e1=>QF e1 λc fs q1 e2=>?_;subst hi;obtain⟨a,d,es,k,rfl,g,ne,I,gd,m⟩:=MT R hx q1;obtain⟨val,h1,h2⟩:=(Nl CL hn m).1 v e2;have cg:=CL.get c n hn;exact get_value (KI.keeps R.base) I (plainGet_of cg.1).1 (findObj_own (CL.has c).1 cg.2 rfl (by rw[lookIn_dict];exact h1)) (O6 h2) (Bk.now q R h2 (d:=s.drawn))
def PW{ox:Obj}{es:List nH}{n:Nat}{name:Str}{v:nf}{Q:Unit->ni->Prop}{E:nf->ni->Prop}(X:KF.In s.heap)(I:InstAt s.heap x ox C (J (dictOf es n)))(hd:ox.dict=J dx)(hs:findIn KF (.ref C) "__setattr__"=J (J (.builtin "object.__setattr__")))(hp:plainOver KF C=true)(ht:takerIn KF C name=J U)(hh:hasDictIn KF C=true)(hl:(getL name es).isSome=true)(hz:(putL name (gD w.params name) (.str name (s.toks+1)) v es).length<=1000)(D:s.heap.get? dx=J (dictOf es n))(h:∀h',h'.get? dx=J (dictOf (putL name (gD w.params name) (.str name (s.toks+1)) v es) (putN name es n))->lN dx s.heap h'->Q () {s with heap:=h',toks:=s.toks+2}):
  nr (model aR w) A (setAttr (.ref x) name v) Q E s:=by
 ext aR w A s KF x C dx ox es n name v Q E;refine set_plain X I hs ?_;refine osa_open (s:={s with toks:=s.toks+1}) X I hp ht λb=>?_;ext b;obtain⟨cd,hc,hd'⟩:=any_some hh;obtain⟨hx,hcl,hn,-⟩:=I;obtain⟨oc,odi,oda,osl⟩:=ox;dsimp only at hcl hd;subst hcl hd;have e:=putName_dict name (gD w.params name) (.str name (s.toks+1)) v es n;have D':(s.heap.update dx (Obj.putName name (gD w.params name) (.str name (s.toks+1)) v)).get? dx=J (dictOf (putL name (gD w.params name) (.str name (s.toks+1)) v es) (putN name es n)):=by
  rw[<- e];exact Heap.get?_update_self _ D (by rw[e];rfl)
 refine nh (nD (nh (nh (wpAny_loadPart hx (nh (looks_clsIn X hc _ _ _ _ (λ_ _ e=>e) ?_))))));rw[hd'];refine nD (a:=J dx) (nh (nD (nh ?_)));unfold nsSet;refine nh (nh (wpAny_askSetting (nD (nh (wpAny_mkText (nh (wpAny_loadPart D ?_)))))));dsimp only;have hl':(lookIn name (dictOf es n)).isSome=true:=by rw[lookIn_dict];exact hl
 unfold lookIn at hl';dsimp only at hl';have c:(!es.toArray.any (·.key.isStr name)&&es.toArray.any (·.refKey))=false:=by
  rw[<- ma,<-ma];split at hl'
  .rename_i en he;rw[eu.mpr ⟨en,List.mem_of_find?_eq_some he,List.find?_some he⟩];rfl
  .split at hl'
   .cases hl'
   .rename_i z;rw[iO] at z;rw[z,fX]
 rw[aRefKeyMayBeTheName_at,c];refine wpAny_updatePart D ?_;refine nh (wpAny_lookBehind D' (pastItsLine_dict (by rw[dJ,sizeLine_eq];lia)) ?_);exact nD (h _ D' (gB ..))
def Ra(CL:W3 KF)(hn:n<26)(hv:VR Z v val)(m:G7 Z fs es):G7 Z (Ez n v fs) (putL (pI n) hsh (.str (pI n) t) val es):=by
 induction m with
 | nil=>exact .cons hn ⟨t,rfl⟩ hv .nil
 | @cons p u e fs es l k b r ih=>
  unfold Ez putL;obtain⟨t',k'⟩:=k;by_cases q:p=n
  .subst q;rw[cC (beq_self_eq_true p),cC (by rw[k'];simp [Value.isStr])];exact .cons l ⟨t',k'⟩ hv r
  .have qb:(p == n)=false:=by simpa using q
   have:e.key.isStr (pI n)=false:=by
    rw[k'];show(pI p == pI n)=false;cases z:(pI p == pI n) with
    | false=>rfl
    | true=>exact cG (CL.inj p n l hn z) q
   rw[qb,this];exact .cons l ⟨t',k'⟩ b ih
def G7.length(m:G7 Z fs es):fs.length=es.length:=by
 induction m with
 | nil=>rfl
 | cons _ _ _ _ ih=>simp [ih]
def B3(n:Nat)(v:V):∀fs:List (Nat × V),(Ez n v fs).length<=fs.length+1
 | []=>cX _
 | (m,u)::r=>by
  unfold Ez;split
  .simp
  .have:=B3 n v r;simp only[ey];lia
def ye{vx val:nf}{n:Nat}{P:H->Prop}(CL:W3 KF)(KI:KF.In B)(R:pu B Z T s.heap)(hn:n<26)(hx:VR Z x vx)(hv:VR Z v val)(he:PC (rR x n v T) P):
  nr (model aR w) A (setAttr vx (pI n) val) (λz s'=>Bk B Z s (λz T=>P T) .none s') qD s:=by
 obtain⟨aK,e,q⟩:=Ms he;refine AB e λi hi e1=>QF e1 λc fs q1 e2=>SP e2 λhl e3=>?_;subst hi e3;obtain⟨a,d,es,k,rfl,g,ne,I,gd,m⟩:=MT R hx q1;have cg:=CL.get c n hn;have ch:=CL.has c;have m2:=λt=>Ra CL hn hv (hsh:=gD w.params (pI n)) (t:=t) m;exact PW (KI.keeps R.base) I rfl ch.2.1 ch.2.2 (by unfold takerIn;rw[cg.2];rfl) ch.1 (Nl CL hn m).2 (by rw[<- (m2 _).length];exact cO (B3 n v fs) (cO (Nat.succ_le_of_lt hl) (by decide:100<=1000))) gd λh' g' sb=>
  ⟨.none,_,q,Z,.refl _ _,R.put g (.inr rfl) sb.extBut ⟨ne,(sb.2 a ne).trans I.at_,_,_,g',m2 _⟩,.put g (.inr rfl) sb.extBut,trivial,rfl,rfl⟩
def NP{items:Array nf}{n:Nat}{k:Int}{t:Tok}{v:nf}{Q:Unit->ni->Prop}{E:nf->ni->Prop}(g:IsL s.heap l items n)(h0:0<=k)(hfit:k<2 ^ 63)(hn:k<items.size)(fin:∀h',IsL h' l (items.setIfInBounds k.toNat v) n->lN l s.heap h'->Q () {s with heap:=h'}):nr (model aR w) A (setItem (.ref l) (.int k t) v) Q E s:=by
 ext aR w A s l items n k t v Q E;have G:=k9 g;have ai:IsL (s.heap.update l (mT (·.setIfInBounds k.toNat v))) l (items.setIfInBounds k.toNat v) n:=by
  have u:=lq g (·.setIfInBounds k.toNat v);simpa using u
 unfold setItem
 try with_reducible refine nM ?_
 first | refine nh (nD ?_) | skip
 refine nh (wpAny_sequenceKey G.typeIs ⋯ ?_);refine nh (wpAny_callSpecial?_slot (name:=bb "__setitem__") G.typeIs slot_list_setitem ?_);refine nW slot_list_setitem G.typeIs entry_list_setitem ?_ (args_list_setitem _ _ _);have q:=fin _ ai (gB ..);show nr _ _ (Builtin.List.listSubscript? (.int k t) >>= _) _ _ s;refine nh (wpAny_listSubscript_int (fitsIndex_of h0 hfit) ?_);clear hfit;obtain⟨j,rfl⟩:=iB h0;ext j;have hx:items[j]? =J items[j]:=Array.getElem?_eq_getElem (by lia);show nr _ _ ((seqItemAt l j >>= λr=>pure (r.map (j,·))) >>= _) _ _ s;refine nh (nh (wpAny_seqItemAt g rfl (nD ?_)));rw[hx];show nr _ _ (setSeqItemAt l j v >>= _) _ _ s;refine nh (wpAny_setSeqItemAt g rfl ?_)
 first
  | exact nh (nD (nD ⟨.none,rfl,nD q⟩))
  | exact nD ⟨.none,rfl,nD q⟩
def yc{vx vy val:nf}{P:H->Prop}(R:pu B Z T s.heap)(hx:VR Z x vx)(hy:VR Z y vy)(hv:VR Z v val)(he:PC (pV x y v T) P):
  nr (model aR w) A (setItem vx vy val) (λz s'=>Bk B Z s (λz T=>P T) .none s') qD s:=by
 obtain⟨aK,e,q⟩:=Ms he;refine AB e λi hi e1=>KV e1 λk hk e2=>DS e2 λxs q1 e3=>SP e3 λl e4=>?_;subst hi hk e4;obtain⟨a,vs,n,rfl,g,l',m⟩:=ud R hx q1;obtain⟨u,rfl⟩:=hy.int_inv;refine NP l' l.1 (gL l.2.1 ⋯) ((jf l.1).mp (by rw[dJ,<-m.length];exact l.2.2)) λh' l' sb=>
  ⟨.none,_,q,Z,.refl _ _,R.put g (.inl rfl) sb.extBut ⟨rfl,vs.set k.toNat val,n,?_,m.set hv _⟩,.put g (.inl rfl) sb.extBut,trivial,rfl,rfl⟩
 have:(vs.toArray.setIfInBounds k.toNat val)=(vs.set k.toNat val).toArray:=by simp
 rw[<- this];exact l'
end
end
section
open PySem PySem.W PyProof.Rows PySem.SeqAt
def VM:isSeqSlot (J (.builtin "list.__iadd__"))=true:=by decide +kernel
section
variable{aR:nJ}{w:dq}{A:nL}{B:Heap}{Z:th}{T aK:H}{s:ni}{K:pK}{KF:Frag}{Q:V->H->Prop}
def DR(R:pu B Z T s.heap)(g:Z[i]? =J (a,a))(sb:gH a s.heap h')(u:IsL h' a arr n)(e:arr=ws.toArray)(m:qS Z ys ws)
  (hv:VR Z v val) (q:Q v (T.set i (.list ys))):Bk B Z s Q val {s with heap:=h',toks:=t}:=by
 subst e;exact⟨v,_,q,Z,.refl _ _,R.put g (.inl rfl) sb ⟨rfl,ws,n,u,m⟩,.put g (.inl rfl) sb,hv,rfl,rfl⟩
def Oq{items items2:Array nf}{n n2:Nat}{Q:nf->ni->Prop}{E:nf->ni->Prop}(hl:IsL s.heap l items n)(hb:IsL s.heap b items2 n2)(hz:items.size+items2.size<=1000)(h:Q (.ref l) {s with heap:=s.heap.update l (mT λx=>x++items2)}):nr (model aR w) A (inplaceOp .Add (.ref l) (.ref b)) Q E s:=by
 ext aR w A s l b items items2 n n2 Q E;have af:s.TypeIs (.ref l) "list":=⟨_,hl,rfl⟩
 have T2:s.TypeIs (.ref b) "list":=⟨_,hb,rfl⟩
 have hz':=ue;have look:=F.slot_list_iadd.lookup;unfold inplaceOp;refine nM (nh (wpAny_typeOf af (nh (wpAny_of_eq (a:=false) ?_ ?_))))
 .unfold fillsInplaceSlot;show(typeLookup (.type "list") (dunderI "add") >>= λfi=>pure (fi.isSome&& !isSeqSlot fi))=pure false;rw[look];show(pure (Option.isSome (J (Value.builtin "list.__iadd__"))&& !isSeqSlot (J (.builtin "list.__iadd__"))):Sem Bool)=pure false;rw[VM];rfl
 .show nr (model aR w) A (if false=true then _ else _) Q E s;rw[cD cZ];refine nh (wpAny_binaryOp1_none (nm:="add") af T2 noFill_list_add ?_);refine nh (wpAny_of_eq (PySem.seqSlot_of look VM) (nh (wpAny_rule ?_)));refine nX F.slot_list_iadd af F.entry_list_iadd (F.args_list_iadd_2 _ _) (AutoSeq1.list___iadd___list_list_0 l items n b items2 n2 ?_ (by lia) (by lia)) ⟨hl,hb,h⟩;have:iq (items.size+items2.size)=false:=by
   unfold iq;have h1:¬(items.size+items2.size>sizeLine):=by lia
   have h2:¬(2 ^ 63<=items.size+items2.size):=by lia
   simp only[sizeLine_eq] at*;simp;lia
  rw[this];simp
def U4(e:te (Cp o (.int a) (.int b) T) Q)(R:pu B Z T s.heap):nr (model aR w) A (inplaceOp (Yt o) (.int a t) (.int b u)) (Bk B Z s Q) qD s:=by
 cases o with
 | add=>exact PySem.P.iadd_int (Bk.int R e)
 | sub=>exact PySem.P.isub_int (Bk.int R e)
 | mul=>exact have e:=sV e;PySem.P.imul_int (Bk.int R e.2) (VI (cY.mp e.1).1 (cY.mp e.1).2)
 | div=>
  have e:=sV e;have l:=cY.mp e.1;exact ifloordiv_int (jW (b9 l.1)) (Bk.int R e.2) (.inl (Gw (b9 l.1) (b9 l.2)))
 | mod=>exact have e:=sV e;imod_int (jW e.1) (Bk.int R e.2)
 | shl=>
  have e:=sV e;have l:=cY.mp e.1;have l2:=cY.mp l.1;refine ilshift_int (b9 l2.1) ?_ (Bk.int R e.2);have h64:ja a<=64:=intBits_le_64 (by have:=xm l.2;lia) (by have:=xm l.2;lia);have:=b9 l2.2;lia
 | shr=>exact have e:=sV e;irshift_int e.1 (Bk.int R e.2)
 | band=>exact iand_int (Bk.int R e)
 | bor=>exact ior_int (Bk.int R e)
 | bxor=>exact ixor_int (Bk.int R e)
@[elab_as_elim] def W8{x y:V}{C:V->V->Prop}(e:te (Cp o x y T) Q)(ci:∀a b,te (Cp o (.int a) (.int b) T) Q->C (.int a) (.int b))(cr:∀a b,te (Cp o (.ref a) (.ref b) T) Q->C (.ref a) (.ref b)):C x y:=by
 cases x<;>cases y<;>first | exact ci _ _ e | exact cr _ _ e | exact e.elim
def A9{x y:V}{vx vy:nf}(he:te (Cp o x y T) Q)(R:pu B Z T s.heap)(hx:VR Z x vx)(hy:VR Z y vy):
  nr (model aR w) A (inplaceOp (Yt o) vx vy) (Bk B Z s Q) qD s:=by
 revert hx hy;refine W8 he (λa b e hx hy=>?_) λa b e hx hy=>?_
 .obtain⟨t,rfl⟩:=hx.int_inv;obtain⟨u,rfl⟩:=hy.int_inv;exact U4 e R
 .obtain⟨xs,ys,rfl,q1,q2,hz,e⟩:=GD (o:=o) (r:=T[a]?) (q:=T[b]?) (F:=λxs ys=>(V.ref a,T.set a (O.list (xs++ys)))) e;obtain⟨c,vs,n,rfl,g1,l1,m1⟩:=ud R hx q1;obtain⟨d,ws,n2,rfl,g2,l2,m2⟩:=ud R hy q2;refine Oq l1 l2 (by rw[dJ,dJ,<-m1.length,<-m2.length];exact hz) ?_;exact DR R g1 (gB ..).extBut (lq l1 (λx=>x++ws.toArray)) (jb vs ws) (m1.append m2) (show VR Z (.ref a) (.ref c) from⟨c,g1⟩) e (t:=s.toks)
def NM(R:pu B Z T s.heap)(g:Z[i]? =J (a,a))(l:IsL s.heap a vs.toArray n)(m:qS Z xs vs)(hy:VR Z y val)(q:Q .none (T.set i (.list (xs++[y])))):
  Bk B Z s Q .none {s with heap:=s.heap.update a (mT λxs=>xs.push val)}:=by
 exact DR R g (gB ..).extBut (lq l (λx=>x.push val)) (by simp) (m.append (.cons hy .nil)) (show VR Z .none .none from trivial) q (t:=s.toks)
def zi{x y:V}{vx vy:nf}{pos:Pos}(he:te (o8 x y T) Q)(R:pu B Z T s.heap)(hx:VR Z x vx)(hy:VR Z y vy):
  nr (model aR w) A (call (.builtin "list.append") [vx,vy]) (Bk B Z s Q) qD s:=by
 obtain⟨i,xs,rfl,q1,hl,q⟩:=Kz he;obtain⟨a,vs,n,rfl,g,l,m⟩:=ud R hx q1;have hz:=ue;have hlen:=m.length;exact nX lr ⟨_,l,rfl⟩ F.entry_list_append (F.args_list_append_2 _ _) (list_append a vs.toArray n vy (by simp only[dJ];lia)) ⟨l,NM R g l m hy q⟩
def Q5{vs:List nf}(h:vs.getLast? =J v):vs.toArray[vs.toArray.size - 1]? =J v:=by
 simp only[dJ,gT];rw[fD] at h;exact h
def qS.last(m:qS Z xs vs)(h:xs.getLast? =J x):∃v,vs.getLast? =J v/\VR Z x v:=by
 rw[fD] at h;obtain⟨v,g,r⟩:=m.get h;refine⟨v,?_,r⟩;rw[fD,<-m.length];exact g
def qS.dropLast(m:qS Z xs vs):qS Z xs.dropLast vs.dropLast:=by
 rw[iM,iM,<-m.length];exact m.take _
def Kr{vs:List nf}(hp:0<vs.length):(λx:Array nf=>x.eraseIdxIfInBounds (vs.toArray.size - 1)) vs.toArray=vs.dropLast.toArray:=by
 have l:=gI hp Nat.zero_lt_one;show jB vs.toArray (vs.length - 1)=_;rw[jB,dif_pos (show vs.length - 1<vs.toArray.size from l),List.eraseIdx_toArray,List.eraseIdx_eq_take_drop_succ,iM,eM hp,List.drop_length,cN]
def Pl{x:V}(he:te (CO x T) Q)(R:pu B Z T s.heap)(hx:VR Z x vx):
  (∃a vs n,vx= .ref a/\IsL s.heap a vs n)/\nr (model aR w) A (callWith pos (.builtin "list.pop") [vx] [] []) (Bk B Z s Q) qD s:=by
 ext aR w A B Z T s Q x vx pos;obtain⟨v,aK,e,q⟩:=CW he;refine AB e λi hi e1=>DS e1 λxs q1 e2=>bd e2 λy q2 e3=>SP e3 λhl e4=>?_;cases (e4);subst hi;obtain⟨a,vs,n,rfl,g,l,m⟩:=ud R hx q1;obtain⟨val,h1,h2⟩:=m.last q2;have hp:0<vs.length:=List.length_pos_iff.mpr λz=>by subst z;exact oF h1
 refine⟨⟨a,_,n,rfl,l⟩,P.pop_list l (Q5 h1) ?_ (vA (by rw[dJ,<-m.length];exact hl))⟩;exact DR R g (gB ..).extBut (lq l (λx=>x.eraseIdxIfInBounds (vs.toArray.size - 1))) (Kr hp) m.dropLast h2 q (t:=s.toks)
end
end
section
open PySem PySem.W PyProof.Rows PySem.SeqAt
section
variable{aR:nJ}{w:dq}{A:nL}{B:Heap}{Z:th}{T aK:H}{s:ni}{K:pK}{KF:Frag}{Q:V->H->Prop}
def N3(C:vF K B)(he:Gs (JR K x T) T Q)(R:pu B Z T s.heap)(hx:VR Z x vx):nr (model aR w) A (call (.builtin "len") [vx]) (Bk B Z s Q) qD s:=by
 obtain⟨v,e,q⟩:=wo he;refine bd e λxs q1 e1=>SP e1 λhl e2=>?_;subst e2;obtain⟨a,vs,rfl,hs,m⟩:=Hk C R hx q1;have z:(vs.toArray.size:Int)=xs.length:=cF Nat.cast m.length.symm;have f:(vs.toArray.size:Int)<2 ^ 63:=z▸gJ (gr.mpr hl) ⋯;rcases hs with hs | hs
 .exact len_list hs f (z▸Bk.int R q)
 .exact len_tuple hs f (z▸Bk.int R q)
def NZ(he:Gs (VA x) T Q)(R:pu B Z T s.heap)(hx:VR Z x vx):nr (model aR w) A (call (.builtin "abs") [vx]) (Bk B Z s Q) qD s:=by
 cases x with
 | int i=>
  obtain⟨t,rfl⟩:=hx.int_inv;exact call_abs_int λu tk=>Bk.int R he
 | _=>exact he.elim
def OR.newRng(h:Heap):OR (Z++[(h.objs.size,h.objs.size)]) (h.push {cls:=.type "range",data:=.fields #[.int a t,.int b u,.int c v]}) h.objs.size h.objs.size (.aT a b c):=
 ⟨rfl,t,u,v,IsRange.new ..⟩
def SA(h:yA a=true):-1000000<a/\a<1000000:=by
 unfold yA at h;simpa using h
def Jx(he:te (sF xs T) Q)(R:pu B Z T s.heap)(m:qS Z xs vs):nr (model aR w) A (call (.type "range") vs) (Bk B Z s Q) qD s:=by
 ext aR w A B Z T s Q xs vs;revert m;refine Qo (C:=λxs=>qS Z xs vs->nr (model aR w) A (call (.type "range") vs) (Bk B Z s Q) qD s) he (λb q m=>?_) (λa b q m=>?_) λa b c hc q m=>?_
 .obtain _ | ⟨h1,m⟩:=m;cases m;obtain⟨t,rfl⟩:=h1.int_inv;exact call_range_1 (Bk.new1 R (OR.newRng _) q)
 .obtain _ | ⟨h1,m⟩:=m;obtain _ | ⟨h2,m⟩:=m;cases m;obtain⟨t,rfl⟩:=h1.int_inv;obtain⟨u,rfl⟩:=h2.int_inv;exact call_range_2 (Bk.new1 R (OR.newRng _) q)
 ext a b c
 .obtain _ | ⟨h1,m⟩:=m;obtain _ | ⟨h2,m⟩:=m;obtain _ | ⟨h3,m⟩:=m;cases m;obtain⟨t,rfl⟩:=h1.int_inv;obtain⟨u,rfl⟩:=h2.int_inv;obtain⟨u',rfl⟩:=h3.int_inv;have z:c≠0/\c.natAbs<1000:=by rcases hc with(rfl | rfl) | rfl<;>decide
  exact call_range_3 z.1 (Bk.new1 R (OR.newRng _) q) (.inl (PyProof.noPylong_small (by have:=z.2;lia)))
def Ve(m:qS Z xs vs)(e:uJ xs=J ns):IntsAre vs ns:=by
 induction m generalizing ns with
 | nil=>cases e;exact .nil
 | @cons x y xs vs h m ih=>
  cases x with
  | int i=>
   obtain⟨r,e1,rfl⟩:=dg.mp e;obtain⟨t,rfl⟩:=h.int_inv;exact .cons i t (ih e1)
  | _=>exact oF e
def JJ(he:Gs (zf x y T) T Q)(R:pu B Z T s.heap)(hx:VR Z x vx)(hy:VR Z y vy):
  nr (model aR w) A (call (.builtin "list.index") [vx,vy]) (Bk B Z s Q) qD s:=by
 obtain⟨v,e,q⟩:=wo he;refine AB e λi hi e1=>KV e1 λk hk e2=>DS e2 λxs q1 e3=>bd e3 λns q2 e4=>SP e4 λl e5=>?_;subst hi hk e5;obtain⟨a,vs,n,rfl,g,l',m⟩:=ud R hx q1;obtain⟨t,rfl⟩:=hy.int_inv;have I:=Ve m q2;have hlen:=I.length;have hj:ns.idxOf k<ns.length:=jC.mpr l.1;have hfit:((ns.idxOf k:Nat):Int)<2 ^ 63 - 1:=gL (eC.mpr (cM hj l.2)) ⋯;refine nX lP ⟨_,l',rfl⟩ F.entry_list_index (F.args_list_index_2 _ _)
  (MeetsSeq.list_index a vs.toArray n (.int k t) (isInt k) (λy hy=>eq_isInt k t I y (lZ.mp hy)) (ns.idxOf k) (by rw[dJ,hlen];exact hj) hfit ?_ ?_) ⟨l',Bk.int R q⟩
 .show isInt k vs[ns.idxOf k]=true;rw[isInt_at k I _ (hlen▸hj) hj];exact beq_iff_eq.mpr (lu hj)
 .intro j hjs hlt;show isInt k vs[j]=false;rw[isInt_at k I j hjs (cU hlt hj)];exact ne_of_lt_idxOf hlt _
def Nf(hx:VR Z x vx)(e:xf x d=J n):∃o:Option Int,IsPart vx o/\((o=U/\n=d)\/o=J (n:Int)):=by
 cases x with
 | none=>obtain rfl:=hx.none_inv;exact⟨U,.none,.inl ⟨rfl,(cI e).symm⟩⟩
 | int i=>
  obtain⟨t,rfl⟩:=hx.int_inv;exact SP e λh e=>⟨J i,.int i t,.inr (by rw[<- e,gz h])⟩
 | _=>exact oF e
def Jy{l:List α}(k:Nat)(h:l.length<=k):∀n,((l.drop k).take n)=[]:=λn=>by rw[jY h,List.take_nil]
def TG{vs:List nf}{a b:Nat}:(vs.drop (min a vs.length)).take (min b vs.length - min a vs.length)=(vs.take b).drop a:=by
 rw[List.drop_take];rcases lI a vs.length with z | z
 .rw[i0 z];rcases lI b vs.length with y | y
  .rw[i0 y]
  .rw[me y,jZ (hJ jL),jZ (by rw[jL];exact kD y a)]
 .rw[me z,Jy _ (cX _),Jy _ z]
def TR{vs:List nf}{lo hi:Option Int}{a b:Nat}(h1:(lo=U/\a=0)\/lo=J (a:Int))(h2:(hi=U/\b=vs.length)\/hi=J (b:Int)):slicePick vs.toArray lo hi U=((vs.take b).drop a).toArray:=by
 ext vs lo hi a b;have e2:lo.elim 0 (clipAt vs.length)=min a vs.length:=by
  rcases h1 with⟨rfl,rfl⟩ | rfl
  .exact(Nat.zero_min _).symm
  .exact clipAt_nat ..
 have e3:hi.elim vs.length (clipAt vs.length)=min b vs.length:=by
  rcases h2 with⟨rfl,rfl⟩ | rfl
  .exact(Nat.min_self _).symm
  .exact clipAt_nat ..
 rw[slicePick_plain,<-TG,dJ,e2,e3]
end
end
section
open PySem PySem.W PyProof.Rows PySem.SeqAt
abbrev AM(h:Heap)(it:Addr)(vx:nf)(j:Nat):It->Prop
 | .list=>∃a,vx= .ref a/\h.IsListIter it a j
 | .tup=>∃a,vx= .ref a/\h.IsTupleIter it a j
 | .aT a b s=>nT h it (a+j*s) ((pG a b s:Int) - j) s
def AM.at_{it:Addr}{vx:nf}{j:Nat}{k:It}(x:AM h it vx j k)(e:∀o,h.get? it=J o->h'.get? it=J o):AM h' it vx j k:=by
 ext h h' it vx j k;cases k with
 | list=>obtain⟨a,rfl,o,g,r⟩:=x;exact⟨a,rfl,o,e _ g,r⟩
 | tup=>obtain⟨a,rfl,o,g,r⟩:=x;exact⟨a,rfl,o,e _ g,r⟩
 | aT a b s=>exact e _ x
def AM.alive(x:AM h it vx j k):∃o,h.get? it=J o:=by
 ext h it vx j k;cases k with
 | list=>obtain⟨a,rfl,o,g,r⟩:=x;exact⟨o,g⟩
 | tup=>obtain⟨a,rfl,o,g,r⟩:=x;exact⟨o,g⟩
 | aT a b s=>exact⟨_,x⟩
def tn(x:Int):(if 0<x then x else 0)=(x.toNat:Int):=by split<;>lia
def yy{a b:Int}:(if a<b then x else y)=if 0<b - a then x else y:=by simp only[Int.sub_pos]
def MP{a b s:Int}(h:(s=1\/s=2)\/s=-1):Builtin.Range.rangeSize a b s=pG a b s:=by
 ext a b s;rcases h with(rfl | rfl) | rfl
 .rw[rangeSize_one,yy];exact tn _
 .show(if(2:Int)>0 then(if a<b then(b - a - 1)/2+1 else 0) else _)=((((b - a+1)/2).toNat:Nat):Int)
  rw[cC ⋯,yy];exact aA _
 .show(if(-1:Int)>0 then _ else(if b<a then(a - b - 1)/(1:Int)+1 else 0))=(((a - b).toNat:Nat):Int)
  rw[cD ⋯,Int.ediv_one,jm,yy];exact tn _
def EW(h1:-4000000<=x)(h2:x<=4000000):Builtin.Range.rangeFitsLong x=true:=
 cY.mpr ⟨cy (gx ⋯ h1),cy (gJ h2 ⋯)⟩
def PX{a b s:Int}(h:(s=1\/s=2)\/s=-1)(ha:yA a=true)(hb:yA b=true):kR a b s=true:=by
 ext a b s;have h1:=SA ha;have h2:=SA hb;have fa:∀{x:Int},-1000000<x/\x<1000000->-4000000<=x/\x<=4000000:=λh=>⟨gx ⋯ (hO h.1),gx (hO h.2) ⋯⟩
 have hr:(pG a b s:Int)<=4000000:=by
  have t:∀{x:Int},x<=4000000->(x.toNat:Int)<=4000000:=λh=>gr.mpr (Int.toNat_le.mpr h);rcases h with(rfl | rfl) | rfl
  .exact t (Mh h1 h2).1
  .exact t (Mh h1 h2).2
  .exact t (Mh h2 h1).1
 have hs:-1<=s/\s<=2:=by rcases h with(rfl | rfl) | rfl<;>decide
 unfold kR
 (rewrite [MP h,EW (fa h1).1 (fa h1).2,EW (fa h2).1 (fa h2).2,EW (gx ⋯ hs.1) (gx hs.2 ⋯),EW (gx ⋯ (dR _)) hr];try with_reducible rfl)
 refine ei.mpr (.inr ?_);split<;>exact EW (by lia) (by lia)
section
variable{aR:nJ}{w:dq}{A:nL}{B:Heap}{Z:th}{T aK:H}{s:ni}{K:pK}{KF:Frag}
structure VG (h:Heap) (s':ni) (it:Addr) (vx:nf) (k:It):Prop where
 fresh:h.get? it=U
 ok:AM s'.heap it vx 0 k
 keep:∀b o,h.get? b=J o->s'.heap.get? b=J o
def Yb{k:It}{C:It->Prop}(e:Fg K T x=J k)(cl:∀xs,tR K T x=J (.list xs)->C .list)(ct:∀xs,tR K T x=J (.tup xs)->C .tup)(cr:∀a b c,tR K T x=J (.aT a b c)->(yA a&&yA b&&(c == 1||c == 2||c == -1))=true->C (.aT a b c)):C k:=by
 ext T K x k C;unfold Fg at e;cases q:tR K T x with
 | none=>rw[q] at e;exact oF e
 | some o=>
  rw[q] at e;cases o with
  | list xs=>exact cI e▸cl xs q
  | tup xs=>exact cI e▸ct xs q
  | inst _ _=>exact oF e
  | aT a b c=>exact SP e λh e=>e▸cr a b c q h
def DM{vx:nf}{k:It}(C:vF K B)(R:pu B Z T s.heap)(hx:VR Z x vx)(e:Fg K T x=J k):
  nr (model aR w) A (pyIter vx) (λval s'=>∃it,val= .ref it/\VG s.heap s' it vx k/\s'.gens=s.gens/\s'.os=s.os) qD s:=by
 refine Yb (C:=λk=>nr (model aR w) A (pyIter vx) (λval s'=>∃it,val= .ref it/\VG s.heap s' it vx k/\s'.gens=s.gens/\s'.os=s.os) qD s) e (λxs q=>?_) (λxs q=>?_) λa b c q h=>?_
 .obtain⟨a,vs,rfl,l,m⟩:=Hy C R hx q;exact wpAny_pyIter_list l ⟨_,rfl,⟨qH _,⟨a,rfl,_,gC _ rfl,rfl,rfl⟩,λb o e=>dy _ e⟩,rfl,rfl⟩
 .obtain⟨a,vs,rfl,l,m⟩:=DX C R hx q;exact wpAny_pyIter_tuple (show lO _ _ _ from l) ⟨_,rfl,⟨qH _,⟨a,rfl,_,gC _ rfl,rfl,rfl⟩,λb o e=>dy _ e⟩,rfl,rfl⟩
 .have l:=cY.mp h;have l2:=cY.mp l.1;have hs:(c=1\/c=2)\/c=-1:=(ei.mp l.2).imp (λh=>(ei.mp h).imp cH cH) cH;cases x with
  | ref i=>
   obtain⟨ad,d,rfl,g⟩:=hx.bf;obtain⟨-,t,u,v,r⟩:=R.at_ i _ _ g q;refine wpAny_pyIter_range r (PX hs l2.1 l2.2) ⟨_,rfl,⟨qH _,?_,λb o e=>dy _ e⟩,rfl,rfl⟩;show nT _ _ (a+((0:Nat):Int)*c) ((pG a b c:Int) - ((0:Nat):Int)) c;rw[mh,Int.zero_mul,Int.add_zero,Int.sub_zero,<-MP hs];exact gC _ rfl
  | con a=>exact(C _ _ q).elim
  | _=>exact oF q
def Pr{j:Nat}{p:Prop}{f:V->Prop}{C:Prop}(h:Ik (oB K .list T x j) p f)(c:∀xs,tR K T x=J (.list xs)->Q4 xs[j]? p f->C):C:=by
 unfold oB at h;dsimp only at h;generalize tR K T x=o at h c
 match o,h with
 | some (.list xs),h=>exact c xs rfl h
def Sp{j:Nat}{p:Prop}{f:V->Prop}{C:Prop}(h:Ik (oB K .tup T x j) p f)(c:∀xs,tR K T x=J (.tup xs)->Q4 xs[j]? p f->C):C:=by
 unfold oB at h;dsimp only at h;generalize tR K T x=o at h c
 match o,h with
 | some (.tup xs),h=>exact c xs rfl h
def VZ{vs:List nf}{j:Nat}{f:V->Prop}{p:Prop}{C:Prop}(m:qS Z xs vs)(h:Q4 xs[j]? p f)(c0:vs.toArray[j]? =U->p->C)(c1:∀u uv,vs.toArray[j]? =J uv->VR Z u uv->f u->C):C:=by
 rw[gT] at c0 c1;cases e:xs[j]? with
 | none=>rw[e] at h;exact c0 (eH (m.length▸List.getElem?_eq_none_iff.mp e)) h
 | some v=>rw[e] at h;exact(m.get e).elim λval g=>c1 v val g.1 g.2 h
def Nk{vx:nf}{k:It}{j:Nat}{it:Addr}{f:V->Prop}{G:Option nf->ni->Prop}{E:nf->ni->Prop}(hh:A.handled=U)(C:vF K B)(R:pu B Z T s.heap)(hx:VR Z x vx)(I:AM s.heap it vx j k){p:Prop}(hw:Ik (oB K k T x j) p f)(c0:∀s',gH it s.heap s'.heap->s'.gens=s.gens->s'.os=s.os->p->G U s')(c1:∀s' u uv,gH it s.heap s'.heap->s'.gens=s.gens->s'.os=s.os->VR Z u uv->AM s'.heap it vx (j+1) k->f u->G (J uv) s'):nr (model aR w) A (pyNext (.ref it)) G E s:=by
 cases k with
 | list=>
  obtain⟨a,rfl,I⟩:=I;exact Pr hw λxs q hw=>(Hy C R hx q).elim λb h=>h.elim λvs h=>VZ h.2.2 hw
   (λe p=>wpAny_pyNext_list_end hh I (jD h.1▸h.2.1) e λh' hs=>c0 _ hs rfl rfl p) λu uv e y z=>wpAny_pyNext_list_item I (jD h.1▸h.2.1) e λh' I' hs=>c1 {s with heap:=h'} u uv hs.extBut rfl rfl y ⟨a,rfl,I'⟩ z
 | tup=>
  obtain⟨a,rfl,I⟩:=I;exact Sp hw λxs q hw=>(DX C R hx q).elim λb h=>h.elim λvs h=>VZ h.2.2 hw
   (λe p=>wpAny_pyNext_tuple_end hh I (jD h.1▸(show s.heap.IsTuple b vs.toArray from h.2.1)) e λh' hs=>c0 _ hs rfl rfl p) λu uv e y z=>wpAny_pyNext_tuple_item I (jD h.1▸(show s.heap.IsTuple b vs.toArray from h.2.1)) e λh' I' hs=>c1 {s with heap:=h'} u uv hs.extBut rfl rfl y ⟨a,rfl,I'⟩ z
 | aT a b c=>
  have I:nT s.heap it (a+j*c) ((pG a b c:Int) - j) c:=I;by_cases hj:j<pG a b c
  .have hw:f (.int (a+j*c)):=(cF (λo=>Q4 o p f) (cC hj)).mp hw;refine wpAny_pyNext_range_item I (Int.sub_pos.mpr (eC.mpr hj)) λh' I' hs=>c1 _ _ _ hs.extBut rfl rfl (show VR Z (.int (a+j*c)) (.int (a+j*c) s.toks) from rfl) ?_ hw;show nT h' it (a+((j+1:Nat):Int)*c) ((pG a b c:Int) - ((j+1:Nat):Int)) c;rw[Int.natCast_add,Int.add_mul,<-Int.sub_sub,<-ij,show((1:Nat):Int)=1 from rfl,Int.one_mul];exact I'
  .have hw:p:=(cF (λo=>Q4 o p f) (cD hj)).mp hw;exact wpAny_pyNext_range_end hh I (kC (gr.mpr (dZ hj))) λh' hs=>c0 _ hs rfl rfl hw
end
end
section
open PySem PySem.W PyProof.Rows PySem.SeqAt
set_option genCtorIdx true in
inductive GV where
 | val (v:V) | len | abs | range
abbrev vEq:V->V->Bool
 | .int i,.int j=>i == j
 | .con a,.con b=>a == b
 | .bool a,.bool b=>a == b
 | .none,.none=>true
 | _,_=>false
def Xk(h:vEq a b=true):a=b:=by
 cases a<;>cases b<;>first | exact(cZ h).elim | rfl | exact cF V.int (cH h) | exact cF V.con (cH h) | exact cF V.bool (cH h)
abbrev oT(a b:Str):Bool:=a.cps.toList == b.cps.toList
def oW(h:oT a b=true):a=b:=
 match a,b,cH h with
 | ⟨⟨_⟩⟩,⟨⟨_⟩⟩,h=>cF (λl=>Str.mk ⟨l⟩) h
def v7(a:Str):oT a a=true:=beq_self_eq_true a.cps.toList
def vB(a b:Str):oT a b=(a == b):=
 da.mpr ⟨λh=>beq_iff_eq.mpr (oW h),λh=>cH h▸v7 a⟩
abbrev Cb(x:Str):List (Str × nB)->Option nB
 | []=>U
 | y::r=>cond (oT x y.1) (J y.2) (Cb x r)
def uQ(x:Str):∀l:List (Str × nB),Cb x l=l.lookup x
 | []=>rfl
 | (y,k)::r=>by
  show cond (oT x y) (J k) (Cb x r)=_;rw[vB,uQ x r,d6];cases x == y<;>rfl
abbrev FL:nB->Bool
 | .local=>true
 | .cell=>true
 | _=>false
noncomputable abbrev Inn:=Option (Str × List (Str × nB))
structure Pm where
 names:List (Str × nB)
 gs:List (Option GV)
 ft:List Nat
 inner:Inn
abbrev Vz(a:nB)(o:Option nB):Bool:=decide (o=J a)
abbrev gd{α:Type}(b:Bool)(o:Option α):Option α:=cond b o U
def uE(h:gd b o=J k):b=true/\o=J k:=by
 cases b with
 | true=>exact⟨rfl,h⟩
 | false=>exact nomatch h
def bl(h:(a&&b)=true):a=true:=(cY.mp h).1
def br(h:(a&&b)=true):b=true:=(cY.mp h).2
def nt(h:(!a)=true):a=false:=dc a▸h
def Ai(h:(!oT a b)=true):a≠b:=λq=>cZ ((nt h).symm.trans (q▸v7 a))
def xP(h:Vz k (Cb x l)=true):l.lookup x=J k:=(uQ x l).symm.trans (b9 h)
abbrev N9(l:List (Str × nB))(i:Nat)(x:Str)(f:nB->Bool):Option nB:=l[i]?.bind λp=>gd (oT x p.1&&f p.2) (J p.2)
def vq(h:N9 l i x f=J k):l[i]? =J (x,k)/\f k=true:=
 (iA.mp h).elim λp h=>⟨h.1.trans (cF J (iG (oW (bl (uE h.2).1)).symm (cI (uE h.2).2))),cI (uE h.2).2▸br (uE h.2).1⟩
def Te(h:l[i]? =J (x,k))(g:f k=true):N9 l i x f=J k:=by
 unfold N9;rw[h];show gd (oT x x&&f k) _=_;rw[v7,g];rfl
abbrev Mt(I:Inn)(l:List (Str × nB))(i:Nat)(x:Str):Option nB:=match I with
 | none=>N9 l i x FL
 | some c=>bif i == l.length then gd (oT x c.1&&Vz .local (Cb x c.2)) (J .local) else gd (Vz .free (Cb x c.2)&& !oT x c.1) (N9 l i x λk=>decide (k= .cell))
def vU(h:Mt (J c) l i x=J k):
  (i=l.length/\x=c.1/\k= .local)\/(i≠l.length/\l[i]? =J (x,.cell)/\c.2.lookup x=J .free/\x≠c.1/\k= .cell):=by
 ext c l i x k;unfold Mt at h;cases q:i == l.length with
 | true=>rw[q] at h;exact .inl ⟨cH q,oW (bl (uE h).1),(cI (uE h).2).symm⟩
 | false=>
  rw[q] at h;have g:=uE h;have p:=vq g.2;have e:k= .cell:=b9 p.2;exact .inr ⟨ne_of_beq_false q,e▸p.1,xP (bl g.1),Ai (br g.1),e⟩
def Qq(h:Mt I l i x=J k):FL k=true:=by
 cases I with
 | none=>exact(vq h).2
 | some c=>exact(vU h).elim (λh=>h.2.2▸rfl) λh=>h.2.2.2.2▸rfl
abbrev Pm.kind(P:Pm)(i:Nat)(x:Str):Option nB:=Mt P.inner P.names i x
abbrev Og(I:Inn)(l:List (Str × nB))(gs:List (Option GV))(i:Nat)(x:Str):Option GV:=
 gd ((N9 l i x λk=>decide (k= .globalImplicit)).isSome&&(match I with | none=>true | some c=>Vz .globalImplicit (Cb x c.2))) gs[i]?.join
def Ql{l:List (Str × nB)}{gs:List (Option GV)}{i:Nat}{x:Str}{g:GV}(h:Og I l gs i x=J g):l[i]? =J (x,.globalImplicit)/\gs[i]? =J (J g):=by
 ext I l gs i x g;have h:=uE h;obtain⟨k,hk⟩:=eG.mp (bl h.1);have p:=vq hk;exact⟨(b9 p.2:k= .globalImplicit)▸p.1,Option.join_eq_some_iff.mp h.2⟩
def Pj{l:List (Str × nB)}{gs:List (Option GV)}{i:Nat}{x:Str}{g:GV}(h:Og (J c) l gs i x=J g):Og U l gs i x=J g/\c.2.lookup x=J .globalImplicit:=by
 have p:=uE h;refine⟨?_,xP (br p.1)⟩;unfold Og;rw[bl p.1];exact p.2
abbrev Pm.glo(P:Pm)(i:Nat)(x:Str):Option GV:=Og P.inner P.names P.gs i x
abbrev Pm.nm(P:Pm):List Str:=match P.inner with
 | none=>P.names.map (·.1)
 | some (t,_)=>P.names.map (λy=>if oT y.1 t then bb "" else y.1)++[t]
abbrev dbg(x:Str):Bool:=oT x (bb "__debug__")
abbrev TC(mg mb:Str->Option nf)(x:Str):GV->Prop
 | .val v=>∃val,mg x=J val/\VR [] v val
 | .len=>mg x=U/\mb x=J (.builtin "len")
 | .abs=>mg x=U/\mb x=J (.builtin "abs")
 | .range=>mg x=U/\mb x=J (.type "range")
structure BJ (K:pK) (KF:Frag) (B:Heap) (mg mb:Str->Option nf):Prop where
 con:vF K B
 bV:KF.In B
 cls:W3 KF
 g:B.Ns mainGlobals mg
 b:B.Ns builtinsNs mb
structure uN (KF:Frag) (mg mb:Str->Option nf) (P:Pm) (aQ:ez):Prop where
 kind:aQ.scope.kind= .function
 gl:aQ.globals=mainGlobals
 bl:aQ.builtins=builtinsNs
 ks:∀i x k,P.kind i x=J k->aQ.kindOf x=J k/\(x == ("__debug__" :Str))=false/\P.nm[i]? =J x
 cs:∀i x,P.kind i x=J .cell->(aQ.cells.lookup x).isSome=true
 apart:∀i x k,P.kind i x=J k->(P.inner=U\/i=P.names.length)->∀j,P.nm[j]? =J x->j=i
 gs:∀i x g,P.glo i x=J g->aQ.kindOf x=J .globalImplicit/\(x == ("__debug__" :Str))=false/\TC mg mb x g
 ft:∀f∈P.ft,keepIn KF (.ref f)=true
structure qp (P:Pm) (aQ:ez) (B:Heap) (Z:th) (e:Mine.Lake.nw) (h:Heap):Prop where
 m:∃m,h.Ns aQ.locals m/\∀(i:Nat) (x:Str) (v:V),P.nm[i]? =J x->e[i]? =J (J v)->aQ.kindOf x=J .local->∃w,m x=J w/\VR Z v w
 cel:∀x c,aQ.cells.lookup x=J c->∃w,h.IsCell c w/\∀(i:Nat) (v:V),P.nm[i]? =J x->e[i]? =J (J v)->aQ.kindOf x=J .cell->∃u,w=J u/\VR Z v u
 own:B1 Z aQ.locals/\B.get? aQ.locals=U
 bJ:∀x c,aQ.cells.lookup x=J c->B1 Z c/\B.get? c=U/\c≠aQ.locals
 apart:∀x y c,aQ.cells.lookup x=J c->aQ.cells.lookup y=J c->x=y
section
variable{P:Pm}{aQ:ez}{B:Heap}{Z aL:th}{e:Mine.Lake.nw}{h h':Heap}
def DA(n:h.Ns a m):∃o,h.get? a=J o:=let ⟨o,_,_,e,_⟩:=n;⟨o,e⟩
def qp.step(X:qp P aQ B Z e h)(k:vI Z h h')(x:wf Z aL h):qp P aQ B aL e h':=by
 ext P aQ B Z aL e h h';obtain⟨m,n,hm⟩:=X.m;obtain⟨o,ho⟩:=DA n;refine⟨⟨m,n.at' λo e=>k _ o e X.own.1,λi y v a b c=>?_⟩,λy c hc=>?_,⟨X.own.1.ext x ho,X.own.2⟩,λy c hc=>?_,X.apart⟩
 .obtain⟨w,e1,e2⟩:=hm i y v a b c;exact⟨w,e1,e2.mono x.old⟩
 .obtain⟨w,⟨oc,hoc,hd⟩,hw⟩:=X.cel y c hc;refine⟨w,⟨oc,k _ _ hoc (X.bJ y c hc).1,hd⟩,λi v a b d=>?_⟩;obtain⟨u,e1,e2⟩:=hw i v a b d;exact⟨u,e1,e2.mono x.old⟩
 .obtain⟨w,⟨oc,hoc,hd⟩,hw⟩:=X.cel y c hc;exact⟨(X.bJ y c hc).1.ext x hoc,(X.bJ y c hc).2⟩
end
abbrev GG(o:Kk)(p:n8):Bool:=decide (Iu o=p)
abbrev Xy(o:Fh)(p:nZ):Bool:=decide (Yt o=p)
def dt{i:Decidable c}{k:c->Bool}{C:Prop}(h:@dite Bool c i k (λw=>false)=true)(f:∀q,k q=true->C):C:=by
 cases i with
 | isTrue q=>exact f q h
 | isFalse q=>exact(cZ h).elim
abbrev oU{α:Type}(xs:List α)(k:α->List α->Bool):Bool:=match xs with | []=>false | x::r=>k x r
@[elab_as_elim] def n9{C:List α->Prop}{xs:List α}{k:α->List α->Bool}(h:oU xs k=true)(f:∀x r,k x r=true->C (x::r)):C xs:=by
 cases xs with
 | nil=>exact(cZ h).elim
 | cons x r=>exact f x r h
@[elab_as_elim] def oN{C:List α->Prop}{xs:List α}(h:xs.isEmpty=true)(f:C []):C xs:=by
 cases xs with
 | nil=>exact f
 | cons x r=>exact(cZ h).elim
section
open PySem.Expr
variable{ex:bo}{C:bo->Prop}
abbrev Ln(ex:bo)(k:BoolOp->List bo->Pos->Bool):Bool:=if h:ex.ctorIdx=0 then BoolOp.elim ex h k else false
@[elab_as_elim] def CU{k:BoolOp->List bo->Pos->Bool}(h:Ln ex k=true)(f:∀a b c,k a b c=true->C (.BoolOp a b c)):C ex:=
 dt h λq h=>BoolOp.elim (motive_1:=λex=>∀q,BoolOp.elim (motive_1:=λw=>Bool) ex q k=true->C ex) ex q (λa b c w h=>f a b c h) q h
abbrev SV(ex:bo)(k:bo->nZ->bo->Bool):Bool:=if h:ex.ctorIdx=2 then BinOp.elim ex h (λa b c w=>k a b c) else false
@[elab_as_elim] def QJ{k:bo->nZ->bo->Bool}(h:SV ex k=true)(f:∀a b c d,k a b c=true->C (.BinOp a b c d)):C ex:=
 dt h λq h=>BinOp.elim (motive_1:=λex=>∀q,BinOp.elim (motive_1:=λw=>Bool) ex q (λa b c w=>k a b c)=true->C ex) ex q (λa b c d w h=>f a b c d h) q h
abbrev Q8(ex:bo)(k:UnaryOp->bo->Bool):Bool:=if h:ex.ctorIdx=3 then UnaryOp.elim ex h (λa b w=>k a b) else false
@[elab_as_elim] def Nt{k:UnaryOp->bo->Bool}(h:Q8 ex k=true)(f:∀a b c,k a b=true->C (.UnaryOp a b c)):C ex:=
 dt h λq h=>UnaryOp.elim (motive_1:=λex=>∀q,UnaryOp.elim (motive_1:=λw=>Bool) ex q (λa b w=>k a b)=true->C ex) ex q (λa b c w h=>f a b c h) q h
abbrev ZV(ex:bo)(k:bo->bo->bo->Bool):Bool:=if h:ex.ctorIdx=5 then IfExp.elim ex h (λa b c w=>k a b c) else false
@[elab_as_elim] def Vu{k:bo->bo->bo->Bool}(h:ZV ex k=true)(f:∀a b c d,k a b c=true->C (.IfExp a b c d)):C ex:=
 dt h λq h=>IfExp.elim (motive_1:=λex=>∀q,IfExp.elim (motive_1:=λw=>Bool) ex q (λa b c w=>k a b c)=true->C ex) ex q (λa b c d w h=>f a b c d h) q h
abbrev SB(ex:bo)(k:bo->List nU->nR->Bool):Bool:=if h:ex.ctorIdx=8 then ListComp.elim ex h (λa b c w=>k a b c) else false
@[elab_as_elim] def Mq{k:bo->List nU->nR->Bool}(h:SB ex k=true)(f:∀a b c d,k a b c=true->C (.ListComp a b c d)):C ex:=
 dt h λq h=>ListComp.elim (motive_1:=λex=>∀q,ListComp.elim (motive_1:=λw=>Bool) ex q (λa b c w=>k a b c)=true->C ex) ex q (λa b c d w h=>f a b c d h) q h
abbrev Sa(ex:bo)(k:bo->List n8->List bo->Bool):Bool:=if h:ex.ctorIdx=15 then Compare.elim ex h (λa b c w=>k a b c) else false
@[elab_as_elim] def H9{k:bo->List n8->List bo->Bool}(h:Sa ex k=true)(f:∀a b c d,k a b c=true->C (.Compare a b c d)):C ex:=
 dt h λq h=>Compare.elim (motive_1:=λex=>∀q,Compare.elim (motive_1:=λw=>Bool) ex q (λa b c w=>k a b c)=true->C ex) ex q (λa b c d w h=>f a b c d h) q h
abbrev w4(ex:bo)(k:bo->List bo->List Keyword->Pos->Bool):Bool:=if h:ex.ctorIdx=16 then Call.elim ex h k else false
@[elab_as_elim] def vV{k:bo->List bo->List Keyword->Pos->Bool}(h:w4 ex k=true)(f:∀a b c d,k a b c d=true->C (.Call a b c d)):C ex:=
 dt h λq h=>Call.elim (motive_1:=λex=>∀q,Call.elim (motive_1:=λw=>Bool) ex q k=true->C ex) ex q (λa b c d w h=>f a b c d h) q h
abbrev z5(ex:bo)(k:Const->Bool):Bool:=if h:ex.ctorIdx=19 then Constant.elim ex h (λa w w=>k a) else false
@[elab_as_elim] def Ak{k:Const->Bool}(h:z5 ex k=true)(f:∀a b c,k a=true->C (.Constant a b c)):C ex:=
 dt h λq h=>Constant.elim (motive_1:=λex=>∀q,Constant.elim (motive_1:=λw=>Bool) ex q (λa w w=>k a)=true->C ex) ex q (λa b c w h=>f a b c h) q h
abbrev Bm(ex:bo)(k:bo->Str->Pos->Bool):Bool:=if h:ex.ctorIdx=20 then Attribute.elim ex h k else false
@[elab_as_elim] def vW{k:bo->Str->Pos->Bool}(h:Bm ex k=true)(f:∀a b c,k a b c=true->C (.Attribute a b c)):C ex:=
 dt h λq h=>Attribute.elim (motive_1:=λex=>∀q,Attribute.elim (motive_1:=λw=>Bool) ex q k=true->C ex) ex q (λa b c w h=>f a b c h) q h
abbrev MB(ex:bo)(k:bo->bo->Bool):Bool:=if h:ex.ctorIdx=21 then Subscript.elim ex h (λa b w=>k a b) else false
@[elab_as_elim] def Ek{k:bo->bo->Bool}(h:MB ex k=true)(f:∀a b c,k a b=true->C (.Subscript a b c)):C ex:=
 dt h λq h=>Subscript.elim (motive_1:=λex=>∀q,Subscript.elim (motive_1:=λw=>Bool) ex q (λa b w=>k a b)=true->C ex) ex q (λa b c w h=>f a b c h) q h
abbrev uq(ex:bo)(k:Str->Bool):Bool:=if h:ex.ctorIdx=23 then Name.elim ex h (λa w=>k a) else false
@[elab_as_elim] def rx{k:Str->Bool}(h:uq ex k=true)(f:∀a b,k a=true->C (.Name a b)):C ex:=
 dt h λq h=>Name.elim (motive_1:=λex=>∀q,Name.elim (motive_1:=λw=>Bool) ex q (λa w=>k a)=true->C ex) ex q (λa b w h=>f a b h) q h
abbrev KY(ex:bo)(k:List bo->Bool):Bool:=if h:ex.ctorIdx=24 then List.elim ex h (λa w=>k a) else false
@[elab_as_elim] def Ni{k:List bo->Bool}(h:KY ex k=true)(f:∀a b,k a=true->C (.List a b)):C ex:=
 dt h λq h=>List.elim (motive_1:=λex=>∀q,List.elim (motive_1:=λw=>Bool) ex q (λa w=>k a)=true->C ex) ex q (λa b w h=>f a b h) q h
abbrev R5(ex:bo)(k:List bo->Bool):Bool:=if h:ex.ctorIdx=25 then Tuple.elim ex h (λa w w=>k a) else false
@[elab_as_elim] def LX{k:List bo->Bool}(h:R5 ex k=true)(f:∀a b c,k a=true->C (.Tuple a b c)):C ex:=
 dt h λq h=>Tuple.elim (motive_1:=λex=>∀q,Tuple.elim (motive_1:=λw=>Bool) ex q (λa w w=>k a)=true->C ex) ex q (λa b c w h=>f a b c h) q h
abbrev NC(ex:bo)(k:Option bo->Option bo->Option bo->Bool):Bool:=if h:ex.ctorIdx=26 then Slice.elim ex h (λa b c w=>k a b c) else false
@[elab_as_elim] def QA{k:Option bo->Option bo->Option bo->Bool}(h:NC ex k=true)(f:∀a b c d,k a b c=true->C (.Slice a b c d)):C ex:=
 dt h λq h=>Slice.elim (motive_1:=λex=>∀q,Slice.elim (motive_1:=λw=>Bool) ex q (λa b c w=>k a b c)=true->C ex) ex q (λa b c d w h=>f a b c d h) q h
end
abbrev ty(o:bo):Bool:=o.ctorIdx == 20||o.ctorIdx == 21||o.ctorIdx == 23
@[elab_as_elim] def DZ{C:bo->Prop}(h:ty o=true)(a:∀x p,C (.Name x p))(b:∀e n p,C (.Attribute e n p))(c:∀e s p,C (.Subscript e s p)):C o:=
 (ei.mp h).elim (λh=>(ei.mp h).elim (λh=>mX o (cH h) b) λh=>mY o (cH h) c) λh=>PySem.Expr.Name.elim o (cH h) a
abbrev VE(c:E):Bool:=6<=c.ctorIdx&&c.ctorIdx<=8||12<=c.ctorIdx&&c.ctorIdx<=14
abbrev plX(x:bo):Bool:= !(x.ctorIdx == 0||x.ctorIdx == 5||x.ctorIdx == 15||Q8 x λo w=>decide (o= .Not))
abbrev MZ(c:E)(x:bo):Bool:=VE c||plX x
abbrev wn(x:bo):Bool:= !(x.ctorIdx == 22)
abbrev PN(c:Const)(i:Str):Bool:=if h:c.ctorIdx=5 then kG c h (oT i) else false
@[elab_as_elim] def Ww{i:Str}{C:Const->Prop}(h:PN c i=true)(f:C (.str i)):C c:=
 dt h λq h=>kG (motive:=λc=>∀q,kG (motive:=λw=>Bool) c q (oT i)=true->C c) c q (λs w h=>oW h▸f) q h
abbrev MQ(op:BoolOp)(y:bo)(r:List bo)(pos:Pos):bo:=match r with | []=>y | z::r=>.BoolOp op (y::z::r) pos
abbrev Ob(f:GV->Bool):Option GV->Bool
 | some g=>f g
 | none=>false
abbrev GV.isV(v:V)(g:GV):Bool:=if h:g.ctorIdx=0 then GV.val.elim g h (vEq v) else false
abbrev GV.isB(n:Nat)(g:GV):Bool:=g.ctorIdx == n
abbrev vwE:E->Option Bool
 | .bK=>J false
 | .bool b=>cond b (J true) U
 | _=>U
def V1{p:Prop}(h:(U:Option Bool)=J b):p:=nomatch h
def RV{c:E}{b:Bool}:vwE c=J b->c=cond b (.bool true) .bK:=by
 cases c with
 | bK=>intro h;cases b with
  | true=>exact nomatch h
  | false=>rfl
 | bool x=>cases x with
  | true=>intro h;cases b with
   | true=>rfl
   | false=>exact nomatch h
  | false=>exact V1
 | _=>exact V1
abbrev JY(c:E):Bool:=vwE c == J false
abbrev CV(c:E):Bool:=vwE c == J true
def Du{c:E}(h:CV c=true):c= .bool true:=RV (cH h)
def IY{c:E}(h:JY c=true):c= .bK:=RV (cH h)
abbrev Lk(P:Pm)(t:Str)(sc:nR):Bool:=
 P.inner.isNone&& !dbg t&& !oT t (bb "")&&decide (sc.kind= .function)&& !sc.isGenerator&& !sc.isCoroutine&&
  sc.names.all (λy=> !oT y.1 (bb "")&& !decide (y.2= .cell)&&(!decide (y.2= .local)||(oT y.1 t||oT y.1 (bb ".0")))&&(!decide (y.2= .free)||(Vz .cell (Cb y.1 P.names)&&Vz .free (Cb y.1 sc.names))))&&
  P.names.all (λy=> !oT y.1 (bb ".0"))&&Vz .local (Cb (bb ".0") sc.names)&&Vz .local (Cb t sc.names)
abbrev vv{α:Type}(o:Option α)(b:Bool)(k:α->Bool):Bool:=match o with | none=>b | some x=>k x
mutual
noncomputable def chk:Pm->E->bo->Bool
 | P,.bK,ex=>z5 ex λc=>decide (c= .none)
 | P,.bool b,ex=>z5 ex λc=>decide (c= .bool b)
 | P,.int i,ex=>z5 ex λc=>decide (c= .int i)
 | P,.str i,ex=>z5 ex λc=>PN c i
 | P,.loc i,ex=>uq ex λx=>(P.kind i x).isSome
 | P,.glo i v,ex=>uq ex λx=>Ob (GV.isV v) (P.glo i x)
 | P,.and a b,ex=>Ln ex λo xs pos=>decide (o= .And)&&oU xs λx ys=>oU ys λy r=>chk P a x&&MZ a x&&chk P b (MQ .And y r pos)&&MZ b (MQ .And y r pos)
 | P,.or a b,ex=>Ln ex λo xs pos=>decide (o= .Or)&&oU xs λx ys=>oU ys λy r=>chk P a x&&MZ a x&&chk P b (MQ .Or y r pos)&&MZ b (MQ .Or y r pos)
 | P,.not a,ex=>Q8 ex λo x=>decide (o= .Not)&&chk P a x&&MZ a x
 | P,.neg a,ex=>Q8 ex λo x=>decide (o= .USub)&&chk P a x
 | P,.inv a,ex=>Q8 ex λo x=>decide (o= .Invert)&&chk P a x
 | P,.bin o a b,ex=>SV ex λx p y=>chk P a x&&Xy o p&&chk P b y
 | P,.ite c a b,ex=>ZV ex λt x y=>chk P c t&&MZ c t&&chk P a x&&MZ a x&&chk P b y&&MZ b y
 | P,.cmp a o b,ex=>Sa ex λx ps ys=>oU ps λp ps=>oU ys λy ys=>ps.isEmpty&&ys.isEmpty&&chk P a x&&GG o p&&chk P b y&& !behindInMarks p y
 | P,.bU a o b q c,ex=>Sa ex λx ps ys=>oU ps λp ps=>oU ps λp' ps=>oU ys λy ys=>oU ys λz ys=>ps.isEmpty&&ys.isEmpty&&chk P a x&&GG o p&&chk P b y&&GG q p'&&chk P c z&& !lastMarks [p,p'] [y,z]
 | P,.list es,ex=>KY ex (Jo P es)
 | P,.tup es,ex=>R5 ex (Jo P es)
 | P,.rep es n,ex=>SV ex λx p y=>KY x (Jo P es)&&decide (p= .Mult)&&chk P n y
 | P,.comp elt i iter test,ex=>SB ex λx gs sc=>oU gs λg gs=>gs.isEmpty&&uq g.target λt=>g.is_async == 0&&i == P.names.length&& !(g.iter.ctorIdx == 7)&&Lk P t sc&&chk P iter g.iter&&chk {P with inner:=J (t,sc.names)} elt x&&
   ((g.ifs.isEmpty&&CV test)||oU g.ifs λc r=>r.isEmpty&&chk {P with inner:=J (t,sc.names)} test c&&MZ test c)
 | P,.call i f es,ex=>w4 ex λo xs ks w=>ks.isEmpty&&uq o λx=>Ob (GV.isV (.con f)) (P.glo i x)&&P.ft.contains f&&Jo P es xs
 | P,.len i a,ex=>w4 ex λo xs ks w=>ks.isEmpty&&uq o λx=>Ob (GV.isB 1) (P.glo i x)&&oU xs λy ys=>ys.isEmpty&&wn y&&chk P a y
 | P,.abs i a,ex=>w4 ex λo xs ks w=>ks.isEmpty&&uq o λx=>Ob (GV.isB 2) (P.glo i x)&&oU xs λy ys=>ys.isEmpty&&wn y&&chk P a y
 | P,.range i es,ex=>w4 ex λo xs ks w=>ks.isEmpty&&uq o λx=>Ob (GV.isB 3) (P.glo i x)&&Jo P es xs
 | P,.index a b,ex=>w4 ex λo xs ks pos=>ks.isEmpty&&Bm o λo nm ap=>oU xs λy ys=>ys.isEmpty&&oT nm (bb "index")&&chk P a o&&chk P b y&&wn y&&ty o&&(ap.endLine == pos.line)
 | P,.append a b,ex=>w4 ex λo xs ks pos=>ks.isEmpty&&Bm o λo nm ap=>oU xs λy ys=>ys.isEmpty&&oT nm (bb "append")&&chk P a o&&chk P b y&&wn y&&ty o&&(ap.endLine == pos.line)
 | P,.pop a,ex=>w4 ex λo xs ks pos=>ks.isEmpty&&Bm o λo nm ap=>xs.isEmpty&&oT nm (bb "pop")&&chk P a o&&ty o&&(ap.endLine == pos.line)
 | P,.attr a n,ex=>Bm ex λo nm w=>decide (n<26)&&oT nm (pI n)&&chk P a o&&ty o
 | P,.sub a i,ex=>MB ex λo sl=>chk P a o&&chk P i sl&& !(sl.ctorIdx == 26)
 | P,.slice a lo hi,ex=>MB ex λo sl=>NC sl λl u st=>chk P a o&&(o.ctorIdx == 23)&&st.isNone&&vv l (JY lo) (λl=>chk P lo l)&&vv u (JY hi) λu=>chk P hi u
noncomputable def Jo:Pm->Es->List bo->Bool
 | P,.nil,xs=>xs.isEmpty
 | P,.cons a es,xs=>oU xs λx xs=>wn x&&chk P a x&&Jo P es xs
end
abbrev Ig(x:bo):Bool:=x.ctorIdx == 8||x.ctorIdx == 9||x.ctorIdx == 10
abbrev w7(x:bo):Bool:=x.ctorIdx == 24||x.ctorIdx == 25
abbrev NG(P:Pm):List Nat->List bo->Bool
 | [],xs=>xs.isEmpty
 | i::is,xs=>oU xs λx xs=>uq x (λx=>(P.kind i x).isSome)&&NG P is xs
abbrev Hw(P:Pm):af->bo->Bool
 | .loc i,ex=>uq ex λx=>(P.kind i x).isSome
 | .tup is,ex=>R5 ex (NG P is)
 | .attr a n,ex=>Bm ex λo nm w=>decide (n<26)&&oT nm (pI n)&&chk P a o
 | .sub a i,ex=>MB ex λo sl=>chk P a o&&chk P i sl&& !(sl.ctorIdx == 26)
section
open PySem.Stmt
variable{st:Stmt}{C:Stmt->Prop}
abbrev JS(st:Stmt)(k:List bo->bo->Bool):Bool:=if h:st.ctorIdx=5 then Assign.elim st h (λa b w=>k a b) else false
@[elab_as_elim] def Ok{k:List bo->bo->Bool}(h:JS st k=true)(f:∀a b c,k a b=true->C (.Assign a b c)):C st:=
 dt h λq h=>Assign.elim (motive_2:=λst=>∀q,Assign.elim (motive_2:=λw=>Bool) st q (λa b w=>k a b)=true->C st) st q (λa b c w h=>f a b c h) q h
abbrev V5(st:Stmt)(k:bo->nZ->bo->Bool):Bool:=if h:st.ctorIdx=7 then AugAssign.elim st h (λa b c w=>k a b c) else false
@[elab_as_elim] def Li{k:bo->nZ->bo->Bool}(h:V5 st k=true)(f:∀a b c d,k a b c=true->C (.AugAssign a b c d)):C st:=
 dt h λq h=>AugAssign.elim (motive_2:=λst=>∀q,AugAssign.elim (motive_2:=λw=>Bool) st q (λa b c w=>k a b c)=true->C st) st q (λa b c d w h=>f a b c d h) q h
abbrev VB(st:Stmt)(k:bo->bo->List Stmt->List Stmt->Bool):Bool:=if h:st.ctorIdx=9 then For.elim st h (λa b c d w=>k a b c d) else false
@[elab_as_elim] def Wt{k:bo->bo->List Stmt->List Stmt->Bool}(h:VB st k=true)(f:∀a b c d e,k a b c d=true->C (.For a b c d e)):C st:=
 dt h λq h=>For.elim (motive_2:=λst=>∀q,For.elim (motive_2:=λw=>Bool) st q (λa b c d w=>k a b c d)=true->C st) st q (λa b c d e w h=>f a b c d e h) q h
abbrev ND(st:Stmt)(k:bo->List Stmt->List Stmt->Bool):Bool:=if h:st.ctorIdx=11 then While.elim st h (λa b c w=>k a b c) else false
@[elab_as_elim] def Rx{k:bo->List Stmt->List Stmt->Bool}(h:ND st k=true)(f:∀a b c d,k a b c=true->C (.While a b c d)):C st:=
 dt h λq h=>While.elim (motive_2:=λst=>∀q,While.elim (motive_2:=λw=>Bool) st q (λa b c w=>k a b c)=true->C st) st q (λa b c d w h=>f a b c d h) q h
abbrev Vy(st:Stmt)(k:bo->List Stmt->List Stmt->Bool):Bool:=if h:st.ctorIdx=12 then If.elim st h (λa b c w=>k a b c) else false
@[elab_as_elim] def Xo{k:bo->List Stmt->List Stmt->Bool}(h:Vy st k=true)(f:∀a b c d,k a b c=true->C (.If a b c d)):C st:=
 dt h λq h=>If.elim (motive_2:=λst=>∀q,If.elim (motive_2:=λw=>Bool) st q (λa b c w=>k a b c)=true->C st) st q (λa b c d w h=>f a b c d h) q h
abbrev PI(st:Stmt)(k:bo->Bool):Bool:=if h:st.ctorIdx=24 then Expr.elim st h (λa w=>k a) else false
@[elab_as_elim] def Tl{k:bo->Bool}(h:PI st k=true)(f:∀a b,k a=true->C (.Expr a b)):C st:=
 dt h λq h=>Expr.elim (motive_2:=λst=>∀q,Expr.elim (motive_2:=λw=>Bool) st q (λa w=>k a)=true->C st) st q (λa b w h=>f a b h) q h
abbrev Vr(st:Stmt)(k:Option bo->Bool):Bool:=if h:st.ctorIdx=3 then Return.elim st h (λa w=>k a) else false
@[elab_as_elim] def Yk{k:Option bo->Bool}(h:Vr st k=true)(f:∀a b,k a=true->C (.Return a b)):C st:=
 dt h λq h=>Return.elim (motive_2:=λst=>∀q,Return.elim (motive_2:=λw=>Bool) st q (λa w=>k a)=true->C st) st q (λa b w h=>f a b h) q h
abbrev V0(st:Stmt):Bool:=if h:st.ctorIdx=26 then Break.elim st h (λw=>true) else false
@[elab_as_elim] def XL(h:V0 st=true)(f:∀a,C (.Break a)):C st:=
 dt h λq h=>Break.elim (motive_2:=λst=>∀q,Break.elim (motive_2:=λw=>Bool) st q (λw=>true)=true->C st) st q (λa w h=>f a) q h
end
mutual
noncomputable def ZW:Pm->S->Stmt->Bool
 | P,.assign t e,st=>JS st λtgs val=>oU tgs λtg r=>r.isEmpty&&Hw P t tg&&chk P e val&&wn tg&&(!Ig val||(t.ctorIdx == 0&&e.ctorIdx == 18))&&(!w7 val|| !w7 tg)
 | P,.aug t o e,st=>V5 st λtg p val=>Hw P t tg&&Xy o p&&chk P e val
 | P,.expr e,st=>PI st λval=>chk P e val&& !Ig val
 | P,.ret e,st=>Vr st λv=>vv v (JY e) (chk P e)
 | P,.ite c a b,st=>Vy st λt x y=>chk P c t&&MZ c t&&BO P a x&&BO P b y
 | P,.loop c a,st=>ND st λt x r=>chk P c t&&MZ c t&&r.isEmpty&&BO P a x
 | P,.each t it b,st=>VB st λtg i x r=>Hw P t tg&&chk P it i&& !(i.ctorIdx == 7)&&r.isEmpty&&BO P b x
 | P,.brk,st=>V0 st
 | P,.fail,st=>true
noncomputable def BO:Pm->Ss->List Stmt->Bool
 | P,.nil,xs=>xs.isEmpty
 | P,.cons a r,xs=>oU xs λx xs=>ZW P a x&&BO P r xs
end
end
section
open PySem PySem.W PyProof.Rows PySem.SeqAt
abbrev uk(A:nL)(d:Nat):Prop:=A.handled=U/\A.depth+4*d<1000/\A.units+40*d+200<cLine
abbrev qB(aR:nJ)(w:dq)(K:pK)(B:Heap)(d:Nat):Prop:=
 ∀f vs T Q,K.call f vs T Q->∀A Z s aF,uk A d->pu B Z T s.heap->qS Z vs aF->nr (model aR w) A (call (.ref f) aF) (Bk B Z s Q) qD s
abbrev LU(B:Heap)(Z:th)(s:ni)(af:Bool->H->Prop)(b:Bool)(s':ni):Prop:=Bk B Z s (λv T=>v= .bool b/\af b T) (.bool b) s'
abbrev BkL(B:Heap)(Z:th)(s:ni)(Q:List V->H->Prop)(aF:List nf)(s':ni):Prop:=∃vs aK aL,Q vs aK/\vQ B Z s aK .none aL .none s'/\qS aL vs aF
def vf(h:∀y p,x≠.Starred y p):starEach (x::xs) aQ=(false,eval x aQ)::starEach xs aQ:=by
 cases x<;>first | rfl | exact cG rfl (h _ _)
def xg(pos:Pos)(t:Sem nf)(r:List (Bool × Sem nf)):backTo pos ((false,t)::r)=(false,t)::backTo pos r:=rfl
section
variable{aR:nJ}{w:dq}{K:pK}{KF:Frag}{B:Heap}{mg mb:Str->Option nf}{d:Nat}
noncomputable abbrev oG(aR:nJ)(w:dq)(K:pK)(KF:Frag)(B:Heap)(mg mb:Str->Option nf)(d:Nat)(c:E):Prop:=
 ∀(P:Pm) (aQ:ez) (A:nL) (ex:bo) (e:Mine.Lake.nw) (Z:th) (T:H) (s:ni) (Q:V->H->Prop),chk P c ex=true->uN KF mg mb P aQ->uk A d->qp P aQ B Z e s.heap->pu B Z T s.heap->ev K c e T Q->
  nr (model aR w) A (eval ex aQ) (Bk B Z s Q) qD s
noncomputable abbrev uL(aR:nJ)(w:dq)(K:pK)(KF:Frag)(B:Heap)(mg mb:Str->Option nf)(d:Nat)(c:E):Prop:=
 ∀(P:Pm) (aQ:ez) (A:nL) (ex:bo) (e:Mine.Lake.nw) (Z:th) (T:H) (s:ni) (af:Bool->H->Prop),chk P c ex=true->MZ c ex=true->uN KF mg mb P aQ->uk A d->qp P aQ B Z e s.heap->pu B Z T s.heap->
  ev K c e T (λv T=>yb (tr v) λt=>af t T)->nr (model aR w) A (isTrue ex aQ (eval ex aQ)) (LU B Z s af) qD s
noncomputable abbrev Hz(aR:nJ)(w:dq)(K:pK)(KF:Frag)(B:Heap)(mg mb:Str->Option nf)(d:Nat)(c:Es):Prop:=
 ∀(P:Pm) (aQ:ez) (A:nL) (xs:List bo) (pos:Pos) (e:Mine.Lake.nw) (Z:th) (T:H) (s:ni) (Q:List V->H->Prop),Jo P c xs=true->uN KF mg mb P aQ->uk A d->qp P aQ B Z e s.heap->pu B Z T s.heap->S9 K c e T Q->
  (backTo pos (starEach xs aQ)).any (·.1)=false/\nr (model aR w) A (spliced (backTo pos (starEach xs aQ))) (BkL B Z s Q) qD s
variable{A:nL}{aQ:ez}{P:Pm}{e:Mine.Lake.nw}{Z aL:th}{T aK:H}{s s':ni}{Q:V->H->Prop}
def sB{E:nf->ni->Prop}{t:Sem nf}{k:nf->ni->Prop}(h:nr M A t (Bk B Z s Q) qD s)(c:∀v aK aL val s',Q v aK->vQ B Z s aK v aL val s'->k val s'):nr M A t k E s:=
 nG h (λval s' ⟨v,aK,q,aL,p⟩=>c v aK aL val s' q p) λw w x=>x.elim
def V3{E:nf->ni->Prop}{t:Sem Bool}{af:Bool->H->Prop}{k:Bool->ni->Prop}(h:nr M A t (LU B Z s af) qD s)(c:∀b aK aL s',af b aK->vQ B Z s aK (.bool b) aL (.bool b) s'->k b s'):nr M A t k E s:=
 nG h (λb s' ⟨v,aK,⟨e,q⟩,aL,p⟩=>c b aK aL s' q (e▸p)) λw w x=>x.elim
def Yv{E:nf->ni->Prop}{t:Sem (List nf)}{Q:List V->H->Prop}{k:List nf->ni->Prop}(h:nr M A t (BkL B Z s Q) qD s)(c:∀vs aK aL aF s',Q vs aK->vQ B Z s aK .none aL .none s'->qS aL vs aF->k aF s'):nr M A t k E s:=
 nG h (λaF s' ⟨vs,aK,aL,q,p,m⟩=>c vs aK aL aF s' q p m) λw w x=>x.elim
def up(p:vQ B Z s aK v aL val s')(h:nr M A t (Bk B aL s' Q) qD s'):nr M A t (Bk B Z s Q) qD s':=nG h (λw w x=>x.of p) λw w x=>x
def Yx{t:Sem Bool}{af:Bool->H->Prop}{v:V}{val:nf}(p:vQ B Z s aK v aL val s')(h:nr M A t (LU B aL s' af) qD s'):nr M A t (LU B Z s af) qD s':=nG h (λw w x=>Bk.of p x) λw w x=>x
def qp.on(X:qp P aQ B Z e s.heap)(p:vQ B Z s aK v aL val s'):qp P aQ B aL e s'.heap:=X.step p.keep p.ext
def LU.now{af:Bool->H->Prop}(R:pu B Z T s.heap)(q:af b T):LU B Z s af b s:=Bk.bool (s:=s) (t:=s.toks) R ⟨rfl,q⟩
def Bk.at_(p:vQ B Z s aK v aL val s')(q:Q v aK):Bk B Z s Q val s':=⟨v,aK,q,aL,p⟩
def BF(R:pu B Z T s.heap)(hx:VR Z v val)(h:tr v=J t)(q:k t s)(hM:M=model aR w):nr M A (truthy val) k qD s:=by
 subst hM;exact SL R hx h q
def Ut(h:FL k=true):k= .local\/k= .cell:=by cases k<;>first | exact .inl rfl | exact .inr rfl | exact(cZ h).elim
def Mw(hk:P.kind i x=J k):k= .local\/k= .cell:=Ut (Qq hk)
def Ew(S:BJ K KF B mg mb)(X:uN KF mg mb P aQ)(Y:qp P aQ B Z e s.heap)(R:pu B Z T s.heap)(hk:P.kind i x=J k)(he:ev K (.loc i) e T Q):
  nr (model aR w) A (eval (.Name x pos) aQ) (Bk B Z s Q) qD s/\nr (model aR w) A (loadName aQ x) (Bk B Z s Q) qD s:=by
 obtain⟨h1,h2,h3⟩:=X.ks i x k hk;obtain⟨v,q,he⟩:=M8 (f:=λv=>Q v T) he;have fin:nr (model aR w) A (loadName aQ x) (Bk B Z s Q) qD s:=by
  rcases Mw hk with rfl | rfl
  .obtain⟨m,n,hm⟩:=Y.m;obtain⟨u,e1,e2⟩:=hm i x v h3 q h1;exact wpAny_loadName_local X.kind h1 n e1 (Bk.now (s:=s) (t:=s.toks) (d:=s.drawn) he R e2)
  .obtain⟨c,hc⟩:=eG.mp (X.cs i x hk);obtain⟨u,hcell,hw⟩:=Y.cel x c hc;obtain⟨u',rfl,e2⟩:=hw i v h3 q h1;exact wpAny_loadName_cell X.kind h1 hc hcell (Bk.now (s:=s) (t:=s.toks) (d:=s.drawn) he R e2)
 exact⟨wpAny_Name fin h2,fin⟩
def Gc(S:BJ K KF B mg mb)(X:uN KF mg mb P aQ)(R:pu B Z T s.heap)(hk:P.glo i x=J (.val v))(h:∀val,VR [] v val->k val s):
  nr (model aR w) A (eval (.Name x pos) aQ) k qD s:=by
 obtain⟨h1,h2,val,h3,h4⟩:=X.gs i x _ hk;refine jo X.kind h1 (Calls.loadGlobal_global (mg:=mg) ?_ h3 (h val h4)) h2;rw[X.gl];exact S.g.keeps R.base
def wR(S:BJ K KF B mg mb)(X:uN KF mg mb P aQ)(R:pu B Z T s.heap)(hk:P.glo i x=J g)(hg:TC mg mb x g->mg x=U/\mb x=J v)(h:k v s):
  nr (model aR w) A (eval (.Name x pos) aQ) k qD s:=by
 obtain⟨h1,h2,h3⟩:=X.gs i x _ hk;obtain⟨h3,h4⟩:=hg h3;refine jo X.kind h1 (Calls.loadGlobal_builtin (mg:=mg) (mb:=mb) ?_ h3 ?_ h4 h) h2
 .rw[X.gl];exact S.g.keeps R.base
 .rw[X.bl];exact S.b.keeps R.base
def VR.bL(x:VR [] v val):VR Z v val:=x.mono λi p e=>by cases e
def Tr{E:nf->ni->Prop}{x:bo}{pos:Pos}{whole:Sem nf}{Q:Bool->ni->Prop}(h:nr M A (isTrue x aQ (eval x aQ)) Q E s):nr M A (isTrue (.BoolOp .And [x] pos) aQ whole) Q E s:=
 isTrue_and (nG h (λc s' q=>by cases c<;>first | exact q | exact isTrue_and_nil q) λw w x=>x)
def WS{E:nf->ni->Prop}{x:bo}{pos:Pos}{whole:Sem nf}{Q:Bool->ni->Prop}(h:nr M A (isTrue x aQ (eval x aQ)) Q E s):nr M A (isTrue (.BoolOp .Or [x] pos) aQ whole) Q E s:=
 isTrue_or (nG h (λc s' q=>by cases c<;>first | exact q | exact isTrue_or_nil q) λw w x=>x)
end
end
section
open PySem PySem.W PyProof.Rows PySem.SeqAt
section
variable{aR:nJ}{w:dq}{K:pK}{KF:Frag}{B:Heap}{mg mb:Str->Option nf}{d:Nat}
variable{A:nL}{aQ:ez}{P:Pm}{e:Mine.Lake.nw}{Z aL:th}{T aK:H}{s s':ni}{Q:V->H->Prop}
def Wq{af:Bool->H->Prop}(hs:nr (model aR w) A (eval ex aQ) (Bk B Z s (λv T=>yb (tr v) λt=>af t T)) qD s)(he:isTrue ex aQ (eval ex aQ)=(do let v <-eval ex aQ;standAt ex.pos;holding [v] (truthy v))):
  nr (model aR w) A (isTrue ex aQ (eval ex aQ)) (LU B Z s af) qD s:=
 isTrue_plain (sB hs λv aK aL val s' q p=>by
  obtain⟨t,e,q⟩:=tC q;exact BF p.rel p.val e (Bk.at_ (p.bA (show VR aL (.bool t) (.bool t) from rfl)) ⟨rfl,q⟩) rfl) he
def vh(h:wn x=true):∀y p,x≠.Starred y p:=λy p q=>by subst q;exact cZ h
def Qn{x:bo}(h:(!(x.ctorIdx == 26))=true):∀a b c p,x≠.Slice a b c p:=λa b c p q=>by subst q;exact cZ h
def NU(he:V7 v λi=>Q (.int (-i)) T)(R:pu B Z T s.heap)(hx:VR Z v val):nr (model aR w) A (unaryOp .USub val) (Bk B Z s Q) qD s:=by
 obtain⟨i,rfl,he⟩:=Hp he;obtain⟨t,rfl⟩:=hx.int_inv;exact PyProof.Rows.neg_int (Bk.int R he)
def Pp(he:V7 v λi=>Q (.int (dW i)) T)(R:pu B Z T s.heap)(hx:VR Z v val):nr (model aR w) A (unaryOp .Invert val) (Bk B Z s Q) qD s:=by
 obtain⟨i,rfl,he⟩:=Hp he;obtain⟨t,rfl⟩:=hx.int_inv;exact invert_int (Bk.int R he)
def Ol(he:yb (tr v) λt=>Q (.bool !t) T)(R:pu B Z T s.heap)(hx:VR Z v val):nr (model aR w) A (unaryOp .Not val) (Bk B Z s Q) qD s:=by
 obtain⟨t,e,q⟩:=tC he;exact not_of (BF R hx e (Bk.bool (t:=s.toks) R q) rfl)
def Fx(R:pu B Z T s.heap)(m:qS Z xs vs)(q:Q (.ref T.length) (T++[.list xs]))(hz:vs.length<=1000):nr (model aR w) A (newList vs) (Bk B Z s Q) qD s:=
 nQ (Bk.new1 R (OR.newList m _) q (t:=s.toks)) (vA hz)
def HI(R:pu B Z T s.heap)(m:qS Z xs vs)(q:Q (.ref T.length) (T++[.tup xs]))(hz:vs.length<=1000):nr (model aR w) A (newTuple vs) (Bk B Z s Q) qD s:=
 nQ (Bk.new1 R (OR.newTup m _) q (t:=s.toks)) (vA hz)
def QR(vs:List nf)(k:Nat):List.foldl (λx1 x2=>x1++x2) #[] (cW (if vs.toArray.isEmpty=true then 0 else k) vs.toArray)=(cW k vs).flatten.toArray:=by
 have h1:∀(k:Nat) (a:List nf),List.foldl (λx1 x2=>x1++x2) a.toArray (cW k vs.toArray)=(a++(cW k vs).flatten).toArray:=by
  intro k
  induction k with
  | zero=>intro a;simp
  | succ k ih=>
   intro a;rw[fO,fO,i6,jb,ih,iF,aa]
 cases vs with
 | nil=>simp
 | cons v vs=>
  have:=h1 k [];simpa using this
def Op(R:pu B Z T s.heap)(hl:IsL s.heap l vs.toArray n)(m:qS Z xs vs)(h0:0<=k)(h1:k<=1000)(h2:xs.length<=10)
  (q:Q (.ref T.length) (T++[.list (cW k.toNat xs).flatten])):nr (model aR w) A (binaryOp .Mult (.ref l) (.int k u)) (Bk B Z s Q) qD s:=by
 have z63:(2:Int) ^ 63=9223372036854775808:=by decide
 have hlen:=m.length;have hk:k.toNat<=1000:=by lia
 have hsz:vs.length*k.toNat<=10000:=by
  have:vs.length<=10:=by lia
  calc vs.length*k.toNat<=10*1000:=Nat.mul_le_mul this hk
   _=10000:=by decide
 refine wpAny_binaryOp_repeat_ref (T:="list") (U:="int") ⋯ ⟨_,hl,rfl⟩ (λs'=>typeIs_int s' k u) noFill_list_mul F.fills_int_mul F.slot_int_rmul repeat_list F.slot_int_index.lookup
  (nX F.slot_int_rmul (typeIs_int s k u) F.entry_int_rmul (F.args_int_rmul_2 _ _) (int___rmul___int_list k u l vs.toArray n)
   ⟨hl,rfl,⟨_,hl,rfl⟩,nX F.slot_list_mul ⟨_,hl,rfl⟩ F.entry_list_mul (F.args_list_mul_2 _ _)
    (AutoListH.list___mul___list_int_3 l vs.toArray n k u ?_ ?_ ?_) ⟨hl,?_⟩⟩)
 .simp [Builtin.List.listFitsIndex];lia
 .simp only[dJ];lia
 .simp only[dJ,iq,sizeLine_eq];simp;lia
 .rw[QR];exact Bk.new1 R (OR.newList (m.rep k.toNat) _) q
def IL{x lo hi:V}{vx vl vu:nf}(C:vF K B)(he:te (xL K x lo hi T) Q)(R:pu B Z T s.heap)(hx:VR Z x vx)(hl:VR Z lo vl)(hu:VR Z hi vu):
  nr (model aR w) A (getItem vx (.ref s.heap.objs.size)) (Bk B Z s Q) qD {s with heap:=s.heap.push {cls:=.type "slice",data:=.fields #[vl,vu,.none]}}/\({s with heap:=s.heap.push {cls:=.type "slice",data:=.fields #[vl,vu,.none]}}:ni).TypeIs vx "list":=by
 ext aR w K B A Z T s Q x lo hi vx vl vu;obtain⟨v,aK,e,q⟩:=CW he;refine DS e λxs q1 e1=>bd e1 λa q2 e2=>bd e2 λb q3 e3=>SP e3 λhz e4=>?_;cases (e4);obtain⟨ad,vs,rfl,l,m⟩:=Hy C R hx q1;obtain⟨o1,p1,r1⟩:=Nf hl q2;obtain⟨o2,p2,r2⟩:=Nf hu q3;rw[m.length] at r2 hz;have l':=l.push {cls:=.type "slice",data:=.fields #[vl,vu,.none]};refine⟨wpAny_getItem_list_slice l' (Heap.IsSliceOf.new ..) p1 p2 .none (λz=>nomatch z) ?_ (vA hz),l'.typeIs⟩;rw[TR r1 r2];have h:=Bk.new1 (s:={s with heap:=s.heap.push {cls:=.type "slice",data:=.fields #[vl,vu,.none]}}) (R.push _) (OR.newList ((m.take b).drop a) _) q (t:=s.toks);exact Bk.of (⟨.refl _ _,R.push _,.push _ _ _,trivial,rfl,rfl⟩:vQ B Z s T .none Z .none {s with heap:=s.heap.push {cls:=.type "slice",data:=.fields #[vl,vu,.none]}}) h
def Mu(q:UG h v=true):∃p xs,v= .ref p/\h[p]? =J (.list xs):=by
 cases v with
 | ref p=>
  ext h p;have q:(match h[p]? with | some (.list _)=>true | _=>false)=true:=q;cases g:h[p]? with
  | none=>rw[g] at q;exact(cZ q).elim
  | some o=>rw[g] at q;cases o<;>first | exact(cZ q).elim | exact⟨p,_,rfl,g⟩
 | _=>exact(cZ q).elim
def R4(h:UG T u=true)(R:pu B Z T s.heap)(hx:VR Z u val):∃a vs n,val= .ref a/\IsL s.heap a vs n:=by
 obtain⟨i,xs,rfl,q⟩:=Mu h;obtain⟨a,vs,n,rfl,g,l,m⟩:=ud R hx q;exact⟨a,_,n,rfl,l⟩
def K7(h:ty o=true)(name:Str)(whole:Sem nf):attributeBase o name aQ whole=whole:=by
 exact DZ (C:=λo=>attributeBase o name aQ whole=whole) h (λw w=>rfl) (λw w w=>rfl) λw w w=>rfl
def UU{id:String}{v:nf}{pl:Sem Bool}{Q:nf × List nf->ni->Prop}{E:nf->ni->Prop}(slot:Slot "list" name id)(hty:typeOf (.builtin id)=pure (.type "method_descriptor"))(h:∃a vs n,v= .ref a/\IsL s.heap a vs n)(q:Q (.builtin id,[v]) s):
  nr (model aR w) A (getMethod v name pl) Q E s:=by
 obtain⟨a,vs,n,rfl,l⟩:=h;exact getMethod_builtin ⟨_,l,rfl⟩ F.plainAttrs_list slot hty (λb hb=>by cases hb;exact⟨_,l,rfl⟩) q
def Ba{name:Str}{ap pos:Pos}{args:List bo}{id:String}{Q':nf->ni->Prop}{E:nf->ni->Prop}(hb:ty o=true)(hline:(ap.endLine == pos.line)=true)(hfew:methodCallForm (args.length+([]:List Keyword).length) (backTo pos (starEach args aQ)) (backToKw pos (keywordEach [] aQ))=true)(slot:Slot "list" name id)(hty:typeOf (.builtin id)=pure (.type "method_descriptor"))(h:nr (model aR w) A (eval o aQ) (λov s₁=>(∃a vs n,ov= .ref a/\IsL s₁.heap a vs n)/\nr (model aR w) A (callWith pos (.builtin id) [ov] (backTo pos (starEach args aQ)) []) Q' E s₁) E s):
  nr (model aR w) A (eval (.Call (.Attribute o name ap) args [] pos) aQ) Q' E s:=by
 rw[arm_eval_Call,K7 hb];refine nh (nG h (λov s₁ h₁=>?_) λz z e=>e);obtain⟨hL,hc⟩:=h₁;refine nh (nV ?_);have hpos:methodCallPos true o aQ ap pos=pure pos:=by unfold methodCallPos;simp [hline]
 unfold methodCall;rw[hfew];refine nh (nM (UU slot hty hL ?_));exact nh (wpAny_of_eq hpos hc)
def M5{args:List bo}{pos:Pos}{k:Args->ni->Prop}{E:nf->ni->Prop}(h:nr (model aR w) A (spliced (backTo pos (starEach args aQ))) (λvs s'=>k ⟨vs,[]⟩ s') E s)(hs:(backTo pos (starEach args aQ)).any (·.1)=false):
  nr (model aR w) A (evalArgs f true (backTo pos (starEach args aQ)) []) k E s:=by
 have key:∀l:List (Bool × Sem nf),l.any (·.1)=false->nr (model aR w) A (spliced l) (λvs s'=>k ⟨vs,[]⟩ s') E s->nr (model aR w) A (evalArgs f true l []) k E s:=by
  intro l hs h;cases l with
  | nil=>
   unfold evalArgs;show nr (model aR w) A (spliced [] >>= _) k E s;refine nh (nG h (λvs s' q=>nh (nD ?_)) λz z x=>x);refine nM ?_;exact nh (nD (nh (nD (nD q))))
  | cons x r=>
   obtain⟨b,t⟩:=x;have hb:b=false:=by cases b<;>first | rfl | simp at hs
   subst hb;exact gy h
 exact key _ hs h
end
end
section
open PySem PySem.W PyProof.Rows PySem.SeqAt
def FM{sc:nR}(h:∀x∈sc.names,x.2= .free->(aQ.cells.lookup x.1).isSome=true):
  ∃cl,closureFor sc aQ=pure cl/\(∀x c,cl.lookup x=J c->aQ.cells.lookup x=J c)/\∀x∈sc.names,x.2= .free->(cl.lookup x.1).isSome=true:=by
 ext aQ sc;have key:∀(l:List (Str × nB)) (cs:List (Str × Addr)),(∀x∈l,x.2= .free->(aQ.cells.lookup x.1).isSome=true)->(∀x c,cs.lookup x=J c->aQ.cells.lookup x=J c)->
   ∃cl,(forIn l cs (λx r=>if(x.2 == ir)=true then do let c <-cellOf aQ x.1;pure (i7 ((x.1,c)::r)) else pure (i7 r)):Sem (List (Str × Addr)))=pure cl/\(∀x c,cl.lookup x=J c->aQ.cells.lookup x=J c)/\
    (∀x∈l,x.2= .free->(cl.lookup x.1).isSome=true)/\(∀x,(cs.lookup x).isSome=true->(cl.lookup x).isSome=true):=by
  intro l
  induction l with
  | nil=>intro cs _ hcs;exact⟨cs,rfl,hcs,λx hx=>(nomatch hx),λx hx=>hx⟩
  | cons x l ih=>
   intro cs hl hcs;obtain⟨y,k⟩:=x;have hl':∀x∈l,x.2= .free->(aQ.cells.lookup x.1).isSome=true:=λx hx=>hl x (.tail _ hx);by_cases hk:k= .free
   .subst hk;obtain⟨c,hc⟩:=eG.mp (hl (y,.free) (.head _) rfl);obtain⟨cl,e1,e2,e3,e4⟩:=ih ((y,c)::cs) hl' (λx c' h=>by
     rw[d6] at h;cases q:x == y with
     | true=>rw[q] at h;cases h;rw[show x=y by simpa using q];exact hc
     | false=>rw[q] at h;exact hcs x c' h)
    refine⟨cl,?_,e2,λx hx hf=>?_,λx hx=>e4 x ?_⟩
    .rw[mA];have:cellOf aQ y=pure c:=by unfold cellOf;rw[hc]
     simp only[beq_self_eq_true,if_true,this];exact e1
    .cases hx with
     | head=>exact e4 y (by rw[d6,beq_self_eq_true];rfl)
     | tail _ hx=>exact e3 x hx hf
    .rw[d6];cases x == y<;>first | rfl | exact hx
   .have hb:(k == ir)=false:=by simpa using hk
    obtain⟨cl,e1,e2,e3,e4⟩:=ih cs hl' hcs;refine⟨cl,?_,e2,λx hx hf=>?_,e4⟩
    .rw[mA];simp only[hb,lx,if_false];exact e1
    .cases hx with
     | head=>exact cG hf hk
     | tail _ hx=>exact e3 x hx hf
 obtain⟨cl,e1,e2,e3,e4⟩:=key sc.names [] h (λx c h=>by cases h);refine⟨cl,?_,e2,e3⟩;unfold closureFor;simp only[bind_pure_comp] at e1 ⊢;rw[e1];rfl
section
variable{aR:nJ}{w:dq}{K:pK}{KF:Frag}{B:Heap}{mg mb:Str->Option nf}{d:Nat}
variable{A:nL}{aQ:ez}{P:Pm}{e:Mine.Lake.nw}{Z aL:th}{T aK:H}{s s':ni}{Q:V->H->Prop}
def OQ{vx:nf}{j:Nat}{k:It}{Q:nf->ni->Prop}{E:nf->ni->Prop}(I:AM s.heap it vx j k)(q:Q (.ref it) s):nr (model aR w) A (pyIter (.ref it)) Q E s:=by
 cases k with
 | list=>obtain⟨a,rfl,I⟩:=I;exact wpAny_pyIter_listiter I q
 | tup=>
  obtain⟨a,rfl,I⟩:=I;refine wpAny_pyIter_slot I.typeIs jq (nW jq I.typeIs F.entry_tuple_iterator_iter ?_ (F.args_tuple_iterator_iter_1 _));show nr _ _ (ret (.ref it)) _ _ s;exact nD ⟨_,rfl,"tuple_iterator",_,I.typeIs,F.slot_tuple_iterator_next.lookup,q⟩
 | aT a b c=>
  have I:nT s.heap it (a+j*c) ((pG a b c:Int) - j) c:=I;have hT:s.TypeIs (.ref it) "range_iterator":=⟨_,I,rfl⟩
  refine wpAny_pyIter_slot hT jr (nW jr hT F.entry_range_iterator_iter ?_ (F.args_range_iterator_iter_1 _));show nr _ _ (ret (.ref it)) _ _ s;exact nD ⟨_,rfl,"range_iterator",_,hT,F.slot_range_iterator_next.lookup,q⟩
def vQ.but{val:nf}{a:Addr}(p:vQ B Z s aK v aL val s'){s₂:ni}(hs:gH a s'.heap s₂.heap)(n:s.heap.get? a=U)(o:B1 aL a)(b:B.get? a=U)(hg:s₂.gens=s'.gens)(ho:s₂.os=s'.os):vQ B Z s aK v aL val s₂:=
 ⟨p.ext,p.rel.extBut hs o b,λc ob g n'=>hs c ob (λt=>by rw[t,n] at g;cases g) (p.keep c ob g n'),p.val,hg.trans p.gens,ho.trans p.os⟩
def qp.but(X:qp P aQ B Z e s.heap)(hs:gH a s.heap h')(n1:a≠aQ.locals)(n2:∀x c,aQ.cells.lookup x=J c->a≠c):qp P aQ B Z e h':=by
 obtain⟨m,n,hm⟩:=X.m;refine⟨⟨m,n.extBut hs (dQ n1),hm⟩,λy c hc=>?_,X.own,X.bJ,X.apart⟩;obtain⟨w,⟨oc,hoc,hd⟩,hw⟩:=X.cel y c hc;exact⟨w,⟨oc,hs _ _ (dQ (n2 y c hc)) hoc,hd⟩,hw⟩
def qp.less(X:qp P aQ B Z e s.heap)(h:∀(i:Nat) (v:V),e'[i]? =J (J v)->e[i]? =J (J v)):qp P aQ B Z e' s.heap:=by
 obtain⟨m,n,hm⟩:=X.m;refine⟨⟨m,n,λi x v a b c=>hm i x v a (h i v b) c⟩,λy c hc=>?_,X.own,X.bJ,X.apart⟩;obtain⟨w,hw,k⟩:=X.cel y c hc;exact⟨w,hw,λi v a b c=>k i v a (h i v b) c⟩
end
end
section
open PySem PySem.W PyProof.Rows PySem.SeqAt
abbrev LK(aQ:ez)(x:Str)(k:nB):nB:=if(k == ir&&aQ.scope.kind == .function&&aQ.kindOf x == J .cell)=true then .cell else k
def yw:∀names:List (Str × nB),
  (names.map λ(n,k)=>if(k == ir&&aQ.scope.kind == .function&&aQ.kindOf n == J .cell) then(n,mZ) else(n,k)).lookup x=(names.lookup x).map (LK aQ x)
 | []=>rfl
 | (n,k)::r=>by
  have e:(if(k == ir&&aQ.scope.kind == .function&&aQ.kindOf n == J .cell)=true then(n,mZ) else(n,k))=(n,LK aQ n k):=by
   unfold LK;split<;>rfl
  rw[dw];show List.lookup x ((if _ then _ else _)::_)=_;rw[e,d6,d6,yw r];cases hx:x == n with
  | true=>rw[cH hx];rfl
  | false=>rfl
structure BW (P:Pm) (t:Str) (sc:nR):Prop where
 inner:P.inner=U
 dbg:(t == ("__debug__" :Str))=false
 ne:t≠bb ""
 kind:sc.kind= .function
 gen:sc.isGenerator=false
 co:sc.isCoroutine=false
 loc:∀x,(x,NameKind.local)∈sc.names->x=t\/x=bb ".0"
 free:∀x,(x,ir)∈sc.names->P.names.lookup x=J .cell/\sc.names.lookup x=J .free
 nocell:∀y∈sc.names,y.2≠.cell
 noemp:∀y∈sc.names,y.1≠bb ""
 dot:∀y∈P.names,y.1≠bb ".0"
 tl:sc.names.lookup t=J .local
 dl:sc.names.lookup (bb ".0")=J .local
section
variable{aR:nJ}{w:dq}{K:pK}{KF:Frag}{B:Heap}{mg mb:Str->Option nf}{d:Nat}
variable{A:nL}{aQ:ez}{P:Pm}{e:Mine.Lake.nw}{Z aL:th}{T aK:H}{s s':ni}{Q:V->H->Prop}
def Hb(hi:P.inner=U)(h:P.names[i]? =J (x,k))(hk:FL k=true):P.kind i x=J k:=by
 unfold Pm.kind;rw[hi];exact Te h hk
def AU:∀{l:List (Str × nB)},l.lookup x=J k->∃i:Nat,l[i]? =J (x,k)
 | [],h=>by cases h
 | (y,k')::r,h=>by
  rw[d6] at h;cases q:x == y with
  | true=>rw[q] at h;cases h;exact⟨0,by rw[show x=y by simpa using q];rfl⟩
  | false=>rw[q] at h;obtain⟨i,hi⟩:=AU h;exact⟨i+1,hi⟩
abbrev Pm.into(P:Pm)(t:Str)(sc:nR):Pm:={P with inner:=J (t,sc.names)}
def xO(h:(P.into t sc).nm[i]? =J x):(i=P.names.length/\x=t)\/(i<P.names.length/\(x=bb ""\/(x≠t/\∃k,P.names[i]? =J (x,k)))):=by
 ext P t sc i x;have h:(P.names.map (λy=>if oT y.1 t then bb "" else y.1)++[t])[i]? =J x:=h;by_cases q:i<P.names.length
 .rw[ar (by rw[bj];exact q),cV] at h;obtain⟨y,hy,h⟩:=dg.mp h;refine .inr ⟨q,?_⟩;split at h
  .exact .inl h.symm
  .rename_i z;subst h;exact .inr ⟨λg=>z (g▸v7 _),y.2,hy⟩
 .have q:=dZ q;rw[cQ (by rw[bj];exact q),bj] at h;have l:=Nat.lt_one_iff.mp (f0 h);rw[l] at h;exact .inl ⟨iu (Nat.le_of_sub_eq_zero l) q,(cI h).symm⟩
def Ub{sc:nR}{i:Nat}{x:Str}{k:nB}(h:P.names[i]? =J (x,k))(hx:x≠t):(P.into t sc).nm[i]? =J x:=by
 show(P.names.map (λy=>if oT y.1 t then bb "" else y.1)++[t])[i]? =J x;rw[ar (by rw[bj];exact f0 h),cV,h];exact cF J (cD λg=>hx (oW g))
def Pe:(P.into t sc).nm[P.names.length]? =J t:=by
 show(P.names.map (λy=>if oT y.1 t then bb "" else y.1)++[t])[P.names.length]? =J t;rw[cQ (by rw[bj];exact cX _),bj,eD];rfl
def Nn(hi:P.inner=U){i:Nat}(h:P.names[i]? =J (y,k)):P.nm[i]? =J y:=by
 unfold Pm.nm;rw[hi];dsimp only;rw[cV,h];rfl
def Ds(h:(compEnvC sc cl C aQ).kindOf x=J k):∃k',sc.names.lookup x=J k'/\LK aQ x k'=k:=dg.mp ((yw sc.names).symm.trans h)
def Gi(h:sc.names.lookup x=J k):(compEnvC sc cl C aQ).kindOf x=J (LK aQ x k):=(yw sc.names).trans (by rw[h];rfl)
def Ox{sc:nR}{cl:List (Str × Addr)}{C:Addr}(X:uN KF mg mb P aQ)(aj:BW P t sc)(hcl:∀x∈sc.names,x.2= .free->(cl.lookup x.1).isSome=true):
  uN KF mg mb (P.into t sc) (compEnvC sc cl C aQ) where
 kind:=aj.kind
 gl:=X.gl
 bl:=X.bl
 ft:=X.ft
 ks:=λi x k h=>(vU h).elim (λ⟨e1,e2,e3⟩=>by
   subst e1 e2 e3;exact⟨nS aj.tl,aj.dbg,Pe⟩) λ⟨_,h1,h2,h3,e⟩=>by
  subst e;have c:=X.ks i x .cell (Hb aj.inner h1 rfl);exact⟨(Gi h2).trans (cF J (cC (by rw[c.1,X.kind];rfl))),c.2.1,Ub h1 h3⟩
 cs:=λi x h=>(vU h).elim (λh=>nomatch h.2.2) λh=>hcl (x,.free) (nN h.2.2.1) rfl
 apart:=λi x k h hi j hj=>(vU h).elim (λh1=>(xO hj).elim (λh2=>h2.1.trans h1.1.symm) λh2=>h2.2.elim (λe=>cG (h1.2.1.symm.trans e) aj.ne) λe=>cG h1.2.1 e.1)
  λh1=>hi.elim (λh=>nomatch h) λh=>cG h h1.1
 gs:=λi x g h=>by
  have h1:=Pj (c:=(t,sc.names)) h;have g2:=X.gs i x g (show Og P.inner _ _ _ _=_ from aj.inner▸h1.1);exact⟨Gi h1.2,g2.2⟩
def Oz{t:Str}(X:uN KF mg mb P aQ)(Y:qp P aQ B Z e s.heap)(aj:BW P t sc)(hcl:∀x c,cl.lookup x=J c->aQ.cells.lookup x=J c)
  (hk:∀b o,s.heap.get? b=J o->h'.get? b=J o) (hC:s.heap.get? C=U) (oC:B1 Z C) (bC:B.get? C=U) (n:h'.Ns C m):
  qp (P.into t sc) (compEnvC sc cl C aQ) B Z (e.set P.names.length U) h' where
 m:=⟨m,n,λi x v h1 h2 h3=>by
  exfalso;obtain⟨k,hl,e⟩:=Ds h3;have hl:sc.names.lookup x=J .local:=by
   unfold LK at e;split at e
   .exact nomatch e
   .rw[hl,e]
  have hm:=nN hl;rcases xO h1 with⟨e1,e2⟩ | ⟨l,e1 | ⟨e1,k',e2⟩⟩
  .rcases uf h2 with⟨_,q,_⟩ | ⟨q,_⟩
   .exact nomatch q
   .exact q e1.symm
  .exact aj.noemp _ hm e1
  .exact(aj.loc x hm).elim e1 (aj.dot (x,k') (dB e2))⟩
 own:=⟨oC,bC⟩
 apart:=λx y c h1 h2=>Y.apart x y c (hcl x c h1) (hcl y c h2)
 bJ:=λx c hc=>by
  obtain⟨u,⟨oc,ho,hd⟩,hw⟩:=Y.cel x c (hcl x c hc);have:=Y.bJ x c (hcl x c hc);exact⟨this.1,this.2.1,λq=>nomatch ((show s.heap.get? C=J oc from(show c=C from q)▸ho).symm.trans hC)⟩
 cel:=λx c hc=>by
  obtain⟨u,⟨oc,ho,hd⟩,hw⟩:=Y.cel x c (hcl x c hc);refine⟨u,⟨oc,hk _ _ ho,hd⟩,λi v h1 h2 h3=>?_⟩;obtain⟨k,hl,e⟩:=Ds h3;have hm:=nN hl;have hkf:k= .free:=by
   unfold LK at e;split at e
   .rename_i q;exact cH (bl (bl q))
   .exact cG e (aj.nocell _ hm)
  subst hkf;obtain⟨i',hi'⟩:=AU (aj.free x hm).1;have ck:=(X.ks i' x .cell (Hb aj.inner hi' rfl)).1;rcases xO h1 with⟨e1,e2⟩ | ⟨l,e1 | ⟨e1,k',e2⟩⟩
  .rw[e2,aj.tl] at hl;exact nomatch hl
  .exact cG e1 (aj.noemp _ hm)
  .rcases uf h2 with⟨_,q,_⟩ | ⟨_,q⟩
   .exact nomatch q
   .exact hw i v (Nn aj.inner e2) q ck
end
end
section
open PySem PySem.W PyProof.Rows PySem.SeqAt
section
variable{aR:nJ}{w:dq}{K:pK}{KF:Frag}{B:Heap}{mg mb:Str->Option nf}{d:Nat}
variable{A:nL}{aQ:ez}{P:Pm}{e:Mine.Lake.nw}{Z aL:th}{T aK:H}{s s':ni}{Q:V->H->Prop}
def MC{r:Option It}{Q:It->Prop}(h:ZG r Q):∃k,r=J k/\Q k:=by
 match r with
 | .none=>exact h.elim
 | some v=>exact⟨v,rfl,h⟩
def Ru{x:bo}(h:(!(x.ctorIdx == 7))=true)(aQ:ez)(v:nf):foldedSetIterable x aQ v=pure v:=by
 cases x<;>first | rfl | exact(cZ h).elim
abbrev BC(P:Pm)(test:E)(ifs:List bo):Prop:=(ifs=[]/\test= .bool true)\/∃c,ifs=[c]/\chk P test c=true/\MZ test c=true
def JG{test:E}{ifs:List bo}{af:Bool->H->Prop}(hT:BC P test ifs)(st:uL aR w K KF B mg mb d test)(X:uN KF mg mb P aQ)(r:uk A d)(Y:qp P aQ B Z e s.heap)(R:pu B Z T s.heap)(he:ev K test e T λy h=>yb (tr y) λt=>af t h):
  nr (model aR w) A (forIn ifs true λc r=>if r=true then do let ok <-isTrue c aQ (eval c aQ);pure (i7 ok) else pure (i7 r)) (LU B Z s af) qD s:=by
 rcases hT with⟨rfl,rfl⟩ | ⟨c,rfl,hc⟩
 .refine wpAny_tests_nil ?_;exact LU.now R he
 .exact wpAny_tests_one (st P aQ A c e Z T s af hc.1 hc.2 X r Y R he)
def abn{α β γ:Type}{p1 p2 p3 p4 p5 p6 p7:α->β->γ->Prop}{C:Prop}(h:∃a b c,p1 a b c/\p2 a b c/\p3 a b c/\p4 a b c/\p5 a b c/\p6 a b c/\p7 a b c)(f:∀a b c,p1 a b c->p2 a b c->p3 a b c->p4 a b c->p5 a b c->p6 a b c->p7 a b c->C):C:=
 h.elim λa h=>h.elim λb h=>h.elim λc h=>f a b c h.1 h.2.1 h.2.2.1 h.2.2.2.1 h.2.2.2.2.1 h.2.2.2.2.2.1 h.2.2.2.2.2.2
def Xe{α β γ:Type}{p1 p2 p3 p4 p5 p6 p7:α->β->γ->Prop}(a:α)(b:β)(c:γ)(h1:p1 a b c)(h2:p2 a b c)(h3:p3 a b c)(h4:p4 a b c)(h5:p5 a b c)(h6:p6 a b c)(h7:p7 a b c):∃a b c,p1 a b c/\p2 a b c/\p3 a b c/\p4 a b c/\p5 a b c/\p6 a b c/\p7 a b c:=
 ⟨a,b,c,h1,h2,h3,h4,h5,h6,h7⟩
def sn{α:Type}{x:Option α}{a:α}{C:Prop}(h:x=J a)(g:x=U):C:=nomatch g.symm.trans h
def ss{α:Type}{x:Option α}{a b:α}(h:x=J a)(g:x=J b):a=b:=cI (h.symm.trans g)
def NW{n:Nat}{k:It}{x:V}{a j:Nat}{f:V->H->(Option V->H->Prop)->Prop}{h:H}{C:Prop}(z:xk K n k x a j f h Q)
  (c:∀m,m<n->(Ik (oB K k h x j) (Q (.ref a) h) λv=>f v h λu h=>Q4 u (xk K m k x a (j+1) f h Q) λu=>te (o8 (.ref a) u h) λw h=>xk K m k x a (j+1) f h Q)->C):C:=match n,z with
 | n+1,z=>c n (dM n) z
def Uo{b:Bool}{P Q:Prop}(x:b=true->P)(y:b=false->Q):if b=true then P else Q:=by cases b<;>first | exact x rfl | exact y rfl
def xC{h h':Heap}{b:Addr}(k:∀b o,h.get? b=J o->h'.get? b=J o)(hn:h'.get? b=U):h.get? b=U:=by
 cases q:h.get? b with
 | none=>rfl
 | some o=>exact sn (k b o q) hn
def vQ.bE{v:V}{val:nf}{a:Addr}(p:vQ B Z s aK v aL val s')(hn:s'.heap.get? a=U):s.heap.get? a=U:=by
 cases q:s.heap.get? a with
 | none=>rfl
 | some o=>
  refine cJ λw=>?_;by_cases ho:B1 Z a
  .exact sn (p.keep _ o q ho) hn
  .obtain⟨j,p',hj,hp⟩:=HW ho;have al:=p.rel.alive (p.ext.old j p' hj);exact hp.elim (λe=>al.1.elim λw z=>sn ((cF _ e).trans z) hn) λe=>al.2.elim λw z=>sn ((cF _ e).trans z) hn
def E9{e:Mine.Lake.nw}{n i:Nat}{o o':Option V}{v:V}(q:n≠i)(h:e[i]? =J (J v)):(e.set n o)[i]? =J (J v):=by
 rw[iE,cD q];exact h
def F9(e:Mine.Lake.nw)(n:Nat)(u:Option V)(i:Nat)(v:V)(h:(e.set n U)[i]? =J (J v)):(e.set n u)[i]? =J (J v):=
 (uf h).elim (λh=>nomatch h.2.1) λh=>E9 (o':=u) h.1 h.2
def Jh{t:Str}{sc:nR}{cl:List (Str × Addr)}{C:Addr}{m:Str->Option nf}{h h7:Heap}{u:V}{uv:nf}(aj:BW P t sc)(Y:qp (P.into t sc) (compEnvC sc cl C aQ) B Z (e.set P.names.length U) h)
  (hm:∀(i:Nat) (x:Str) (v:V),(P.into t sc).nm[i]? =J x->(e.set P.names.length U)[i]? =J (J v)->(compEnvC sc cl C aQ).kindOf x=J .local->∃w,m x=J w/\VR Z v w)
  (n7:h7.Ns C (λy=>if y=t then J uv else m y)) (hs:∀b,b≠C->h7.get? b=h.get? b) (hu:VR Z u uv):qp (P.into t sc) (compEnvC sc cl C aQ) B Z (e.set P.names.length (J u)) h7 where
 m:=⟨_,n7,λi y v h1 h2 h3=>by
  rcases uf h2 with⟨e1,e2,_⟩ | ⟨q1,q2⟩
  .rcases xO h1 with⟨_,z⟩ | ⟨z,_⟩
   .exact⟨uv,cC z,cI e2▸hu⟩
   .exact cG e1 (fc z)
  .obtain⟨w,hw,r⟩:=hm i y v h1 (E9 (o':=U) q1 q2) h3;refine⟨w,(cD λz=>?_).trans hw,r⟩;rcases xO h1 with⟨g,_⟩ | ⟨_,g | ⟨g,_⟩⟩
   .exact q1 g.symm
   .exact aj.ne (z▸g)
   .exact g z⟩
 cel:=λy c hc=>by
  obtain⟨w',⟨oc,ho,hd⟩,hw'⟩:=Y.cel y c hc;refine⟨w',⟨oc,(hs c (Y.bJ y c hc).2.2).trans ho,hd⟩,λi v' h1 h2 h3=>hw' i v' h1 ?_ h3⟩;rcases uf h2 with⟨e1,_,_⟩ | ⟨q1,q2⟩
  .rcases xO h1 with⟨_,z⟩ | ⟨z,_⟩
   .exact nomatch ss h3 ((cF _ z).trans (nS aj.tl))
   .exact cG e1 (fc z)
  .exact E9 (o':=U) q1 q2
 own:=Y.own
 bJ:=Y.bJ
 apart:=Y.apart
abbrev Wf(K:pK)(test elt:E)(e:Mine.Lake.nw)(n:Nat):V->H->(Option V->H->Prop)->Prop:=λv h P'=>
 ev K test (e.set n (J v)) h λy h=>yb (tr y) λt=>wL t (ev K elt (e.set n (J v)) h λu h=>P' (J u) h) (P' .none h)
def OG {elt test:E}{x it:bo}{ifs:List bo}{t:Str}{tp pos:Pos}{sc:nR}{cl:List (Str × Addr)}{C:Addr}{k:It}{v:V}{val:nf}{a:Nat}{ita AC:Addr}{R:Result->ni->Prop}(S:BJ K KF B mg mb)(aj:BW P t sc)(X:uN KF mg mb (P.into t sc) (compEnvC sc cl C aQ))(r:uk A d)(hx:chk (P.into t sc) elt x=true)(sx:oG aR w K KF B mg mb d elt)(hT:BC (P.into t sc) test ifs)(st:uL aR w K KF B mg mb d test)(h0:s.heap.get? ita=U)(b0:B.get? ita=U)(hC:ita≠C)(hcl:∀x c,cl.lookup x=J c->ita≠c)(hC0:s.heap.get? C=U)(bC:B.get? C=U)(fin:∀s' aK aL,Q (.ref a) aK->vQ B Z s aK .none aL .none s'->aL[a]? =J (AC,AC)->qp (P.into t sc) (compEnvC sc cl C aQ) B aL (e.set P.names.length U) s'.heap->R (.ok .next) s')(n:Nat)(I0:∃j aK aL,xk K n k v a j (Wf K test elt e P.names.length) aK Q/\vQ B Z s aK .none aL .none s'/\qp (P.into t sc) (compEnvC sc cl C aQ) B aL (e.set P.names.length U) s'.heap/\AM s'.heap ita val j k/\VR aL v val/\
   aL[a]? =J (AC,AC)/\B1 aL ita):
  codeAny (model aR w) A (.compLoop (.ListComp x [⟨.Name t tp,it,ifs,0⟩] sc pos) 0 (.ref ita) (.ref AC) (compEnvC sc cl C aQ)) R s':=by
 revert aQ P e Z s s' Q elt test x it ifs t tp pos sc cl C k v val a ita AC R n;ext aR w K KF B mg mb d A;revert test x it ifs t tp pos sc cl C k v val a ita AC R n;ext aQ P e Z s s' Q elt;revert C k v val a ita AC R n;ext test x it ifs t tp pos sc cl;revert n;ext C k v val a ita AC R;refine codeAny_compLoop_tests (λn s'=>∃j aK aL,xk K n k v a j (Wf K test elt e P.names.length) aK Q/\vQ B Z s aK .none aL .none s'/\qp (P.into t sc) (compEnvC sc cl C aQ) B aL (e.set P.names.length U) s'.heap/\AM s'.heap ita val j k/\VR aL v val/\
   aL[a]? =J (AC,AC)/\B1 aL ita) (λn s5 I=>abn I λj aK aL hw p5 Y5 I5 Yr ha5 hi5=>?_) n I0
 refine NW hw λn' hn hw=>Nk r.1 S.con p5.rel Yr I5 hw (λs6 hs g o hw=>fin s6 aK aL hw (p5.but hs h0 hi5 b0 g o) ha5 (Y5.but (h':=s6.heap) hs hC hcl)) λs6 u uv hs g o hu I6 hw=>?_;have p6:=p5.but hs h0 hi5 b0 g o;have Y6:=Y5.but (h':=s6.heap) hs hC hcl;refine Y6.m.elim λm6 Y6m=>wpAny_assign_Name (wpAny_storeName_local (env:=compEnvC sc cl C aQ) (nS aj.tl) Y6m.1 (λh7 n7 hs7=>?_) (by show((relabel sc aQ).kind == .class||((relabel sc aQ).kind == .module&&_))=false;rw[show(relabel sc aQ).kind= .function from aj.kind];rfl));have p7:=p6.but (s₂:={s6 with heap:=h7,toks:=s6.toks+1}) hs7.extBut hC0 Y6.own.1 bC rfl rfl;refine V3 (JG (s:={s6 with heap:=h7,toks:=s6.toks+1}) hT st X r (Jh aj Y6 Y6m.2 n7 hs7.2 hu) p7.rel hw) λok σ8 ρ8 s8 q8 p8=>?_;have Y8:=(Jh aj Y6 Y6m.2 n7 hs7.2 hu).on p8;have I8:=I6.at_ λo g=>p8.keep _ _ ((hs7.2 _ hC).trans g) hi5;have a8:=p8.ext.old _ _ ha5;have i8:B1 ρ8 ita:=I6.alive.elim λoi hoi=>hi5.ext p8.ext (show h7.get? ita=J oi from(hs7.2 _ hC).trans hoi);refine Uo (λe=>?_) λe=>?_
 .refine sB (sx (P.into t sc) (compEnvC sc cl C aQ) A x _ ρ8 σ8 s8 _ hx X r Y8 p8.rel (q8.1 e)) λxu σ9 ρ9 xv s9 q9 p9=>?_;refine sB (zi (pos:=pos) q9 p9.rel (show VR ρ9 (.ref a) (.ref AC) from⟨AC,p9.ext.old _ _ a8⟩) p9.val) λv10 σ10 ρ10 z s10 q10 p10=>?_;have pp:=p9.trans p10;exact⟨n',hn,Xe (j+1) σ10 ρ10 q10 (((p7.trans p8).trans pp).bA trivial) ((Y8.on pp).less (F9 _ _ _)) (I8.at_ λo g=>pp.keep _ _ g i8) ((Yr.mono p8.ext.old).mono pp.ext.old) (pp.ext.old _ _ a8)
   (I8.alive.elim λoi hoi=>i8.ext pp.ext hoi)⟩
 .exact⟨n',hn,Xe (j+1) σ8 ρ8 (q8.2 e) ((p7.trans p8).bA trivial) (Y8.less (F9 _ _ _)) I8 (Yr.mono p8.ext.old) a8 i8⟩
def Dx{elt iter test:E}{x it:bo}{ifs:List bo}{t:Str}{tp pos:Pos}{sc:nR}{use:Option (nf->Sem Unit)}{Qf:nf->ni->Prop}(S:BJ K KF B mg mb)(aj:BW P t sc)(X:uN KF mg mb P aQ)(r:uk A d)(Y:qp P aQ B Z e s.heap)(R:pu B Z T s.heap)(hi:chk P iter it=true)(hi':(!(it.ctorIdx == 7))=true)(si:oG aR w K KF B mg mb d iter)(hx:chk (P.into t sc) elt x=true)(sx:oG aR w K KF B mg mb d elt)(hT:BC (P.into t sc) test ifs)(st:uL aR w K KF B mg mb d test)(he:ev K (.comp elt P.names.length iter test) e T Q)(fin:∀(s':ni) (aK:H) (aL:th) (v:V) (acc C:Addr),Q v aK->vQ B Z s aK v aL (.ref acc) s'->s.heap.get? C=U->B1 aL C->B.get? C=U->(∃m,s'.heap.Ns C m)->compPost (model aR w) A qD use Qf (.ref acc) C (.ok .next) s'):
  nr (model aR w) A (comprehension (.ListComp x [⟨.Name t tp,it,ifs,0⟩] sc pos) sc aQ (firstIterPos [⟨.Name t tp,it,ifs,0⟩] pos) (newList []) false (eval it aQ) use) Qf qD s:=by
 have hfree:∀x∈sc.names,x.2= .free->(aQ.cells.lookup x.1).isSome=true:=λy hy hf=>by
  obtain⟨y,k⟩:=y;obtain rfl:k= .free:=hf;obtain⟨i',hi'⟩:=AU (aj.free y hy).1;exact X.cs i' y (Hb aj.inner hi' rfl)
 obtain⟨cl,hclos,hcl1,hcl2⟩:=FM hfree;refine wpAny_comprehension_free rfl (λv=>Ru hi' aQ v) hclos aj.kind (λy hy hl=>by
  obtain⟨y,k⟩:=y;obtain rfl:k= .local:=hl;rcases aj.loc y hy with rfl | rfl
  .exact aj.tl
  .exact aj.dl) ?_
 refine sB (si P aQ A it e Z T s _ hi X r Y R he) λv aM aW val s1 q1 p1=>(MC q1).elim λk hk=>hk.2.elim λn hw=>?_;refine nG (DM S.con p1.rel p1.val hk.1) (λitv s2 h2=>h2.elim λita h2=>?_) λz z x=>x;rw[h2.1];have Bg:=h2.2.1;have fI:=p1.rel.fresh Bg.fresh;have R2:pu B aW aM s2.heap:=p1.rel.out (λi p hp=>⟨λo g=>Bg.keep _ _ g,λo g=>Bg.keep _ _ g⟩) λb o g=>Bg.keep _ _ (p1.rel.base b o g);refine nQ ?_;refine wpAny_newFunctionEnv aj.nocell (by intro y hy;simp at hy) (λh4 hn4 hs4=>?_) aj.kind;dsimp only at hn4 hs4 ⊢;generalize hH3:s2.heap.push {cls:=.type "list",dict:=U,data:=.seq ([]:List nf).toArray}=H3 at hn4 hs4 ⊢;have hC0:H3.get? H3.objs.size=U:=qH _;have k23:∀b o,s2.heap.get? b=J o->H3.get? b=J o:=λb o g=>hH3▸dy _ g;have k34:∀b o,H3.get? b=J o->h4.get? b=J o:=λb o g=>hs4.extBut b o (λt=>sn g ((cF _ t).trans hC0)) (dy _ g);have k24:∀b o,s2.heap.get? b=J o->h4.get? b=J o:=λb o g=>k34 b o (k23 b o g);have nA:=qH s2.heap;have nC:=xC k23 hC0;have fC:=R2.fresh nC;have RA:pu B (aW++[(s2.heap.objs.size,s2.heap.objs.size)]) (aM++[.list []]) h4:=by
  refine R2.new _ _ _ ⟨rfl,[],0,?_,.nil⟩ nA nA k24;refine k34 _ _ ?_;rw[<- hH3];exact IsL.new _ _
 have ex:wf aW (aW++[(s2.heap.objs.size,s2.heap.objs.size)]) s1.heap:=.snoc _ _ (xC Bg.keep nA) (xC Bg.keep nA);have oS:∀b:Addr,b≠s2.heap.objs.size->B1 aW b->B1 (aW++[(s2.heap.objs.size,s2.heap.objs.size)]) b:=λb ne ho i p hp=>(sJ hp).elim (λhp=>ho i p hp) λh=>h.2▸⟨ne,ne⟩;have oC:B1 (aW++[(s2.heap.objs.size,s2.heap.objs.size)]) H3.objs.size:=oS _ (by rw[<- hH3,mU];exact mi _) fC.1;have hitC:ita≠H3.objs.size:=λq=>Bg.ok.alive.elim λo ho=>sn (k23 _ _ ho) ((cF _ q).trans hC0);have hita:=p1.bE Bg.fresh;have L:=λ{s3:ni} (h3:s3.heap=h4) (g3:s3.gens=s2.gens) (o3:s3.os=s2.os)=>OG (s':=s3) (pos:=pos) (tp:=tp) (it:=it) (val:=val) (R:=compPost (model aR w) A qD use Qf (.ref s2.heap.objs.size) H3.objs.size) S aj (Ox (C:=H3.objs.size) X aj hcl2) r hx sx hT st hita fI.2 hitC
  (λx c hc q=>(Y.cel x c (hcl1 x c hc)).elim λu h=>h.1.elim λo ho=>sn ho.1 ((cF _ q.symm).trans hita)) (p1.bE (xC Bg.keep nC)) fC.2
  (λs' aK aL q p ha y=>fin s' aK aL _ _ _ q (p.bA (show VR aL (.ref aM.length) (.ref s2.heap.objs.size) from⟨_,ha⟩)) (p1.bE (xC Bg.keep nC)) y.own.1 fC.2 (y.m.elim λm n=>⟨m,n.1⟩)) n
  (Xe 0 (aM++[.list []]) (aW++[(s2.heap.objs.size,s2.heap.objs.size)]) hw ⟨p1.ext.trans ex p1.keep RA.sep,h3▸RA,λb o g n=>h3▸k24 b o (Bg.keep b o (p1.keep b o g n)),trivial,g3.trans (h2.2.2.1.trans p1.gens),o3.trans (h2.2.2.2.trans p1.os)⟩
   (h3▸Oz X ((Y.on p1).step (.refl _ _) ex) aj hcl1 (λb o g=>k24 b o (Bg.keep b o g)) (xC Bg.keep nC) oC fC.2 hn4) (h3▸Bg.ok.at_ λo g=>k24 _ _ g) (p1.val.mono λi p e=>uH e)
   (by have:=ui aW (s2.heap.objs.size,s2.heap.objs.size);rw[p1.rel.len] at this;exact this) (oS _ (Bg.ok.alive.elim λo ho=>Nat.ne_of_lt (Heap.lt_size ho)) fI.1))
 exact codeAny_compStart_list (L rfl rfl rfl) (OQ (vx:=val) (j:=0) (k:=k) (Bg.ok.at_ λo g=>k24 _ _ g) (L rfl rfl rfl))
end
end
section
open PySem PySem.W PyProof.Rows PySem.SeqAt
section
variable{aR:nJ}{w:dq}{K:pK}{KF:Frag}{B:Heap}{mg mb:Str->Option nf}{d:Nat}
variable{A:nL}{aQ:ez}{P:Pm}{e:Mine.Lake.nw}{Z aL:th}{T aK:H}{s s':ni}{Q:V->H->Prop}
def uk.cmp(r:uk A d):A.units+64<cLine:=ae (cO (g7 (de _ (40*d)) (by decide:64<=200)) (cX _)) r.2.2
def Bt(h:GG o p=true):p=Iu o:=(b9 h).symm
def MK(h:Xy o p=true):p=Yt o:=(b9 h).symm
def IA(h:Lk P t sc=true):BW P t sc where
 inner:=eh.mp (bl (bl (bl (bl (bl (bl (bl (bl (bl h)))))))))
 dbg:=(vB _ _).symm.trans (nt (br (bl (bl (bl (bl (bl (bl (bl (bl h))))))))))
 ne:=Ai (br (bl (bl (bl (bl (bl (bl (bl h))))))))
 kind:=b9 (br (bl (bl (bl (bl (bl (bl h)))))))
 gen:=nt (br (bl (bl (bl (bl (bl h))))))
 co:=nt (br (bl (bl (bl (bl h)))))
 loc:=λx hx=>(ei.mp (show(oT x t||oT x (bb ".0"))=true from br (bl (cK.mp (br (bl (bl (bl h)))) _ hx)))).imp oW oW
 free:=λx hx=>have z:=br (cK.mp (br (bl (bl (bl h)))) _ hx);⟨xP (bl z),xP (br z)⟩
 nocell:=λy hy=>cj (nt (br (bl (bl (cK.mp (br (bl (bl (bl h)))) _ hy)))))
 noemp:=λy hy=>Ai (bl (bl (bl (cK.mp (br (bl (bl (bl h)))) _ hy))))
 dot:=λy hy=>Ai (cK.mp (br (bl (bl h))) _ hy)
 tl:=xP (br h)
 dl:=xP (br (bl h))
def xD(hc:wn y=true):backTo pos (starEach [y] aQ)=[(false,eval y aQ)]:=by
 rw[vf (vh hc),xg];rfl
def Na:∀{es:Es} {xs:List bo},Jo P es xs=true->(backTo pos (starEach xs aQ)).any (·.1)=false
 | .nil,xs,h=>oN (C:=λxs=>(backTo pos (starEach xs aQ)).any (·.1)=false) h rfl
 | .cons a es,xs,h=>n9 (C:=λxs=>(backTo pos (starEach xs aQ)).any (·.1)=false) h λx xs h=>by
  rw[vf (vh (bl (bl h))),xg,iQ,Na (br h)];rfl
def JW(h:Ob f o=true):∃g,o=J g/\f g=true:=match o,h with | some g,h=>⟨g,rfl,h⟩
def RB{g:GV}(h:g.isV v=true):g= .val v:=
 dt h λq h=>GV.val.elim (motive:=λg=>∀q,GV.val.elim (motive:=λw=>Bool) g q (vEq v)=true->g= .val v) g q (λu w h=>cF GV.val (Xk h).symm) q h
def X8{g:GV}(h:g.isB 1=true):g= .len:=GV.len.elim (motive:=λg=>g= .len) g (cH h) rfl
def Xu{g:GV}(h:g.isB 2=true):g= .abs:=GV.abs.elim (motive:=λg=>g= .abs) g (cH h) rfl
def SQ{g:GV}(h:g.isB 3=true):g= .range:=GV.range.elim (motive:=λg=>g= .range) g (cH h) rfl
def zP{X Y af F:Prop}(q:wL b af F)(x:b=true->af->X)(y:b=false->F->Y):if b=true then X else Y:=by
 cases b with
 | true=>exact x rfl (q.1 rfl)
 | false=>exact y rfl (q.2 rfl)
def QL(e:r=J t)(x:yb r X):X t:=by subst e;exact x
section
variable(S:BJ K KF B mg mb)(M:K.aV)(CK:qB aR w K B d)
include S M CK
def UR:oG aR w K KF B mg mb d (.bK):=λP aQ A ex e Z T s Q hc X r Y R he=>by
 refine Ak hc λc z z hc=>?_;rw[b9 hc];exact Constant_none (Bk.none (t:=s.toks) R he)
def Qz(b:Bool):oG aR w K KF B mg mb d (.bool b):=λP aQ A ex e Z T s Q hc X r Y R he=>by
 refine Ak hc λc z z hc=>?_;rw[b9 hc];exact Constant_bool (Bk.bool (t:=s.toks) R he)
def Vg(i:Int):oG aR w K KF B mg mb d (.int i):=λP aQ A ex e Z T s Q hc X r Y R he=>by
 refine Ak hc λc z z hc=>?_;rw[b9 hc];exact wpAny_Constant_int (Bk.int R he)
def Vb(i:Str):oG aR w K KF B mg mb d (.str i):=λP aQ A ex e Z T s Q hc X r Y R he=>by
 refine Ak hc λc z z hc=>Ww hc ?_;exact Calls.Constant_str (Bk.now he R (show VR Z (.str i) (.str i s.toks) from rfl))
def TY(i:Nat):oG aR w K KF B mg mb d (.loc i):=λP aQ A ex e Z T s Q hc X r Y R he=>by
 refine rx hc λx z hc=>?_;obtain⟨k,hk⟩:=eG.mp hc;exact(Ew S X Y R hk he).1
def Uy(i:Nat)(v:V):oG aR w K KF B mg mb d (.glo i v):=λP aQ A ex e Z T s Q hc X r Y R he=>by
 refine rx hc λx z hc=>?_;obtain⟨g,hg,h⟩:=JW hc;exact Gc S X R (RB h▸hg) λval hv=>Bk.now (s:=s) (t:=s.toks) he R hv.bL
def UM{a b:E}(ha:oG aR w K KF B mg mb d a)(hb:oG aR w K KF B mg mb d b):oG aR w K KF B mg mb d (.and a b):=λP aQ A ex e Z T s Q hc X r Y R he=>by
 refine CU hc λo xs pos hc=>?_;rw[b9 (bl hc)];refine n9 (br hc) λx ys hc=>n9 hc λy rr hc=>?_;refine BoolOp_and (sB (ha P aQ A x e Z T s _ (bl (bl (bl hc))) X r Y R he) λv aM aW val s1 q p=>?_);obtain⟨t,ht,q⟩:=tC q;refine BF p.rel p.val ht (zP q (λu q=>?_) λu q=>Bk.at_ p q) rfl;have h:=up p (hb P aQ A _ e aW aM s1 _ (br (bl hc)) X r (Y.on p) p.rel q);cases rr with
 | nil=>exact h
 | cons z zs=>exact h
def Xq{a b:E}(ha:oG aR w K KF B mg mb d a)(hb:oG aR w K KF B mg mb d b):oG aR w K KF B mg mb d (.or a b):=λP aQ A ex e Z T s Q hc X r Y R he=>by
 refine CU hc λo xs pos hc=>?_;rw[b9 (bl hc)];refine n9 (br hc) λx ys hc=>n9 hc λy rr hc=>?_;refine BoolOp_or (sB (ha P aQ A x e Z T s _ (bl (bl (bl hc))) X r Y R he) λv aM aW val s1 q p=>?_);obtain⟨t,ht,q⟩:=tC q;refine BF p.rel p.val ht (zP q (λu q=>Bk.at_ p q) λu q=>?_) rfl;have h:=up p (hb P aQ A _ e aW aM s1 _ (br (bl hc)) X r (Y.on p) p.rel q);cases rr with
 | nil=>exact h
 | cons z zs=>exact h
def TI(ha:oG aR w K KF B mg mb d a):oG aR w K KF B mg mb d (.not a):=λP aQ A ex e Z T s Q hc X r Y R he=>by
 refine Nt hc λo x pos hc=>?_;rw[b9 (bl (bl hc))];exact UnaryOp_ (sB (ha P aQ A _ e Z T s _ (br (bl hc)) X r Y R he) λv aM aW val s1 q p=>up p (Ol q p.rel p.val))
def Tw(ha:oG aR w K KF B mg mb d a):oG aR w K KF B mg mb d (.neg a):=λP aQ A ex e Z T s Q hc X r Y R he=>by
 refine Nt hc λo x pos hc=>?_;rw[b9 (bl hc)];exact UnaryOp_ (sB (ha P aQ A _ e Z T s _ (br hc) X r Y R he) λv aM aW val s1 q p=>up p (NU q p.rel p.val))
def Tc(ha:oG aR w K KF B mg mb d a):oG aR w K KF B mg mb d (.inv a):=λP aQ A ex e Z T s Q hc X r Y R he=>by
 refine Nt hc λo x pos hc=>?_;rw[b9 (bl hc)];exact UnaryOp_ (sB (ha P aQ A _ e Z T s _ (br hc) X r Y R he) λv aM aW val s1 q p=>up p (Pp q p.rel p.val))
def Ti(o:Fh)(ha:oG aR w K KF B mg mb d a)(hb:oG aR w K KF B mg mb d b):oG aR w K KF B mg mb d (.bin o a b):=λP aQ A ex e Z T s Q hc X r Y R he=>by
 refine QJ hc λx op y pos hc=>?_;rw[MK (br (bl hc))];refine wpAny_BinOp (sB (ha P aQ A _ e Z T s _ (bl (bl hc)) X r Y R he) λv aM aW val s1 q p=>?_);refine sB (hb P aQ A _ e aW aM s1 _ (br hc) X r (Y.on p) p.rel q) λv2 aJ bB bI s2 q2 p2=>?_;exact up (p.trans p2) (OT q2 p2.rel (p.val.mono p2.ext.old) p2.val)
def UB{c a b:E}(tc:uL aR w K KF B mg mb d c)(ha:oG aR w K KF B mg mb d a)(hb:oG aR w K KF B mg mb d b):oG aR w K KF B mg mb d (.ite c a b):=λP aQ A ex e Z T s Q hc X r Y R he=>by
 refine Vu hc λt x y pos hc=>?_;refine IfExp_ (V3 (tc P aQ A _ e Z T s _ (bl (bl (bl (bl (bl hc))))) (br (bl (bl (bl (bl hc))))) X r Y R he) λt aM aW s1 q p=>zP q (λz q=>?_) λet q=>?_)
 .exact up p (ha P aQ A _ e aW aM s1 _ (br (bl (bl (bl hc)))) X r (Y.on p) p.rel q)
 .exact up p (hb P aQ A _ e aW aM s1 _ (br (bl hc)) X r (Y.on p) p.rel q)
def Tf(o:Kk)(ha:oG aR w K KF B mg mb d a)(hb:oG aR w K KF B mg mb d b):oG aR w K KF B mg mb d (.cmp a o b):=λP aQ A ex e Z T s Q hc X r Y R he=>by
 refine H9 hc λx ps ys pos hc=>n9 hc λp' ps hc=>n9 hc λy ys hc=>oN (bl (bl (bl (bl (bl hc))))) (oN (br (bl (bl (bl (bl hc))))) ?_);rw[Bt (br (bl (bl hc)))];refine wpAny_Compare1 (sB (ha P aQ A _ e Z T s _ (br (bl (bl (bl hc)))) X r Y R he) λv aM aW val s1 q p=>?_) (Bt (br (bl (bl hc)))▸nt (br hc));refine sB (hb P aQ A _ e aW aM s1 _ (br (bl hc)) X r (Y.on p) p.rel q) λv2 aJ bB bI s2 q2 p2=>?_;obtain⟨t,ht,q2⟩:=tC q2;exact up (p.trans p2) (uh S.con p2.rel r.cmp (p.val.mono p2.ext.old) p2.val ht q2)
omit S M CK in
def J5{a b c:E}{o q:Kk}{x y z:bo}{p p':n8}{ps:List n8}{ys:List bo}{C:List n8->List bo->Prop}
  (hc:(ps.isEmpty&&ys.isEmpty&&chk P a x&&GG o p&&chk P b y&&GG q p'&&chk P c z&& !lastMarks [p,p'] [y,z])=true)
  (f:chk P a x=true->chk P b y=true->chk P c z=true->lastMarks [Iu o,Iu q] [y,z]=false->C [Iu o,Iu q] [y,z]):C (p::p'::ps) (y::z::ys):=by
 obtain rfl:=Bt (br (bl (bl (bl (bl hc)))));obtain rfl:=Bt (br (bl (bl hc)));exact oN (C:=λps=>C (_::_::ps) (y::z::ys)) (bl (bl (bl (bl (bl (bl (bl hc))))))) (oN (C:=λys=>C _ (y::z::ys)) (br (bl (bl (bl (bl (bl (bl hc))))))) (f (br (bl (bl (bl (bl (bl hc)))))) (br (bl (bl (bl hc)))) (br (bl hc)) (nt (br hc))))
def SI{a b c:E}(o o2:Kk)(ha:oG aR w K KF B mg mb d a)(hb:oG aR w K KF B mg mb d b)(hc:oG aR w K KF B mg mb d c):oG aR w K KF B mg mb d (.bU a o b o2 c):=by
 exact λP aQ A ex e Z T s Q hk X r Y R he=>by
  refine H9 hk λx ps ys pos hk=>n9 hk λp' ps hk=>n9 hk λp2' ps hk=>n9 hk λy ys hk=>n9 hk λz ys hk=>J5 (C:=λps ys=>nr (model aR w) A (eval (.Compare x ps ys pos) aQ) (Bk B Z s Q) qD s) hk λc1 c3 c5 c6=>?_;refine Compare_chain (rs:=[]) (ops:=[]) (sB (ha P aQ A _ e Z T s _ c1 X r Y R he) λv aM aW val s1 q p=>?_) c6;refine chain_link (sB (hb P aQ A _ e aW aM s1 _ c3 X r (Y.on p) p.rel q) λv2 aJ bB bI s2 q2 p2=>?_);obtain⟨t,ht,q2⟩:=tC q2;refine sB (uh (Q:=λu T=>u= .bool t/\T=aJ) S.con p2.rel r.cmp (p.val.mono p2.ext.old) p2.val ht ⟨rfl,rfl⟩) λv3 σ3 ρ3 val3 s3 q3 p3=>?_;obtain⟨rfl,rfl⟩:=q3;have pp:=(p.trans p2).trans p3;refine BF p3.rel p3.val (show tr (.bool t)=J t from rfl) (zP q2 (λj q2=>?_) λet q2=>?_) rfl
  .refine chain_last (sB (hc P aQ A _ e ρ3 σ3 s3 _ c5 X r (Y.on pp) p3.rel q2) λv4 σ4 ρ4 val4 s4 q4 p4=>?_);obtain⟨t4,ht4,q4⟩:=tC q4;exact up (pp.trans p4) (uh S.con p4.rel r.cmp ((p2.val.mono p3.ext.old).mono p4.ext.old) p4.val ht4 q4)
  .exact Bk.at_ pp (et▸q2)
def S6(les:Hz aR w K KF B mg mb d es):oG aR w K KF B mg mb d (.list es):=λP aQ A ex e Z T s Q hc X r Y R he=>by
 refine Ni hc λxs pos hc=>?_;refine List_ (Yv (les P aQ A xs pos e Z T s _ hc X r Y R he).2 λvs aM aW aF s1 q p m=>?_);exact up p (Fx p.rel m q.2 (m.length▸q.1))
def Tt(les:Hz aR w K KF B mg mb d es):oG aR w K KF B mg mb d (.tup es):=λP aQ A ex e Z T s Q hc X r Y R he=>by
 refine LX hc λxs k pos hc=>?_;refine Tuple_ (Yv (les P aQ A xs pos e Z T s _ hc X r Y R he).2 λvs aM aW aF s1 q p m=>?_);exact up p (HI p.rel m q.2 (m.length▸q.1))
def TE(les:Hz aR w K KF B mg mb d es)(hn:oG aR w K KF B mg mb d n):oG aR w K KF B mg mb d (.rep es n):=λP aQ A ex e Z T s Q hc X r Y R he=>by
 refine QJ hc λx op y pos hc=>?_;rw[b9 (br (bl hc))];refine Ni (bl (bl hc)) λxs pos2 hl=>?_;refine wpAny_BinOp (List_ (Yv (les P aQ A xs pos2 e Z T s _ hl X r Y R he).2 λvs aM aW aF s1 q p m=>?_));refine nQ ?_ (by have:=ue;exact cO (m.length▸q.1:aF.length<=1000) (cO ⋯ this));have p1:vQ B aW s1 aM .none aW .none {s1 with heap:=s1.heap.push {cls:=.type "list",data:=.seq aF.toArray}}:=⟨.refl _ _,p.rel.push _,.push _ _ _,trivial,rfl,rfl⟩
 have pp:=p.trans p1;refine sB (hn P aQ A _ e aW aM _ _ (br hc) X r (Y.on pp) pp.rel q.2) λv2 aJ bB bI s2 q2 p2=>?_;obtain⟨k,rfl,q2⟩:=Hp q2;obtain⟨u,rfl⟩:=p2.val.int_inv;have hl:IsL s2.heap s1.heap.objs.size aF.toArray 0:=p2.keep _ _ (IsL.new _ _) (p.rel.fresh (qH _)).1;exact up (pp.trans p2) (Op p2.rel hl (m.mono p2.ext.old) q2.1 q2.2.1 q2.2.2.1 q2.2.2.2)
omit S M CK in
@[elab_as_elim] def JI{elt iter test:E}{i:Nat}{x:bo}{gs:List nU}{sc:nR}{C:List nU->Prop}
  (hc:(oU gs λg gs=>gs.isEmpty&&uq g.target λt=>g.is_async == 0&&i == P.names.length&& !(g.iter.ctorIdx == 7)&&Lk P t sc&&chk P iter g.iter&&chk {P with inner:=J (t,sc.names)} elt x&&
   ((g.ifs.isEmpty&&CV test)||oU g.ifs λc r=>r.isEmpty&&chk {P with inner:=J (t,sc.names)} test c&&MZ test c))=true)
  (f:∀t tp it ifs,i=P.names.length->(!(it.ctorIdx == 7))=true->BW P t sc->chk P iter it=true->chk (P.into t sc) elt x=true->BC (P.into t sc) test ifs->C [⟨.Name t tp,it,ifs,0⟩]):C gs:=by
 refine n9 hc λg gs hc=>oN (bl hc) ?_;obtain⟨tg,it,ifs,as⟩:=g;refine rx (C:=λtg=>C [⟨tg,it,ifs,as⟩]) (br hc) λt tp hc=>?_;obtain rfl:as=0:=cH (bl (bl (bl (bl (bl (bl hc))))));refine f t tp it ifs (cH (br (bl (bl (bl (bl (bl hc))))))) (br (bl (bl (bl (bl hc))))) (IA (br (bl (bl (bl hc))))) (br (bl (bl hc))) (br (bl hc)) ?_;rcases ei.mp (br hc) with h | h
 .refine .inl ⟨jK.mp (bl h),?_⟩;exact Du (br h)
 .exact n9 (C:=λifs=>BC (P.into t sc) test ifs) h λc r h=>oN (bl (bl h)) (.inr ⟨c,rfl,br (bl h),br h⟩)
def PH(i:Nat){elt iter test:E}(hiter:oG aR w K KF B mg mb d iter)(helt:oG aR w K KF B mg mb d elt)(ttest:uL aR w K KF B mg mb d test):oG aR w K KF B mg mb d (.comp elt i iter test):=λP aQ A ex e Z T s Q hc X r Y R he=>by
 refine Mq hc λx gs sc pos hc=>JI hc λt tp it ifs h1 h2 aj h3 h4 h5=>?_;subst h1;rw[eval_ListComp];exact Dx S aj X r Y R h3 h2 hiter h4 helt h5 ttest he λs' aK aL v acc C q p hC oC bC h=>h.elim λm n=>⟨m,n,λh' hs=>Bk.at_ (p.but (s₂:={s' with heap:=h'}) hs.extBut hC oC bC rfl rfl) q⟩
def SH{es:Es}(i f:Nat)(les:Hz aR w K KF B mg mb d es):oG aR w K KF B mg mb d (.call i f es):=by
 exact λP aQ A ex e Z T s Q hc X r Y R he=>by
  refine vV hc λo xs ks pos hc=>oN (bl hc) (rx (br hc) λx z hc=>?_);obtain⟨g,hg,h⟩:=JW (bl (bl hc));refine nO (Gc S X R (RB h▸hg) λval hv=>?_);rw[hv.bW];have L:=les P aQ A xs pos e Z T s _ (br hc) X r Y R he;refine callWith_of (P:=λh=>KF.In h) (by rw[L.1];rfl) (keeps_K (X.ft f (List.contains_iff_mem.mp (br (bl hc))))) ?_;exact M5 (Yv L.2 λvs aM aW aF s1 q p m=>⟨S.bV.keeps p.rel.base,up p (CK f vs aM Q q A aW s1 aF r p.rel m)⟩) L.1
def Uw{a:E}(i:Nat)(ha:oG aR w K KF B mg mb d a):oG aR w K KF B mg mb d (.len i a):=by
 exact λP aQ A ex e Z T s Q hc X r Y R he=>by
  refine vV hc λo xs ks pos hc=>oN (bl hc) (rx (br hc) λx z hc=>n9 (br hc) λy ys h=>oN (bl (bl h)) ?_);obtain⟨g,hg,h'⟩:=JW (bl hc);refine nO (wR (g:=.len) S X R (X8 h'▸hg) (λh=>h) ?_);rw[xD (br (bl h))];exact gM rfl (gy (gO (sB (ha P aQ A _ e Z T s _ (br h) X r Y R he) λv aM aW val s1 q p=>gZ (up p (N3 S.con q p.rel p.val)))))
def U2(i:Nat){a:E}(ha:oG aR w K KF B mg mb d a):oG aR w K KF B mg mb d (.abs i a):=λP aQ A ex e Z T s Q hc X r Y R he=>by
 refine vV hc λo xs ks pos hc=>oN (bl hc) (rx (br hc) λx z hc=>n9 (br hc) λy ys h=>oN (bl (bl h)) ?_);obtain⟨g,hg,h'⟩:=JW (bl hc);refine nO (wR (g:=.abs) S X R (Xu h'▸hg) (λh=>h) ?_);rw[xD (br (bl h))];exact gM rfl (gy (gO (sB (ha P aQ A _ e Z T s _ (br h) X r Y R he) λv aM aW val s1 q p=>gZ (up p (NZ q p.rel p.val)))))
def OS(i:Nat){es:Es}(les:Hz aR w K KF B mg mb d es):oG aR w K KF B mg mb d (.range i es):=λP aQ A ex e Z T s Q hc X r Y R he=>by
 refine vV hc λo xs ks pos hc=>oN (bl hc) (rx (br hc) λx z hc=>?_);obtain⟨g,hg,h'⟩:=JW (bl hc);refine nO (wR (g:=.range) S X R (SQ h'▸hg) (λh=>h) ?_);have L:=les P aQ A xs pos e Z T s _ (br hc) X r Y R he;exact PySem.callWith_type L.1 (M5 (Yv L.2 λvs aM aW aF s1 q p m=>up p (Jx q p.rel m)) L.1)
def NY(ha:oG aR w K KF B mg mb d a)(hb:oG aR w K KF B mg mb d b):oG aR w K KF B mg mb d (.index a b):=λP aQ A ex e Z T s Q hc X r Y R he=>by
 refine vV hc λo xs ks pos hc=>oN (bl hc) (vW (br hc) λo nm ap hc=>n9 hc λy ys hc=>oN (bl (bl (bl (bl (bl (bl hc)))))) ?_);rw[oW (br (bl (bl (bl (bl (bl hc))))))];have ys:=br (bl (bl hc));refine Ba (br (bl hc)) (br hc) (by rw[xD ys];rfl) lP F.type_list_index (sB (ha P aQ A _ e Z T s _ (br (bl (bl (bl (bl hc))))) X r Y R he) λv aM aW val s1 q p=>⟨R4 q.1 p.rel p.val,?_⟩);rw[xD ys];exact gM rfl (gy (gO (sB (hb P aQ A _ e aW aM s1 _ (br (bl (bl (bl hc)))) X r (Y.on p) p.rel q.2) λv2 aJ bB bI s2 q2 p2=>gZ (up (p.trans p2) (JJ q2 p2.rel (p.val.mono p2.ext.old) p2.val)))))
def L4(ha:oG aR w K KF B mg mb d a)(hb:oG aR w K KF B mg mb d b):oG aR w K KF B mg mb d (.append a b):=λP aQ A ex e Z T s Q hc X r Y R he=>by
 refine vV hc λo xs ks pos hc=>oN (bl hc) (vW (br hc) λo nm ap hc=>n9 hc λy ys hc=>oN (bl (bl (bl (bl (bl (bl hc)))))) ?_);rw[oW (br (bl (bl (bl (bl (bl hc))))))];have ys:=br (bl (bl hc));refine Ba (br (bl hc)) (br hc) (by rw[xD ys];rfl) lr F.type_list_append (sB (ha P aQ A _ e Z T s _ (br (bl (bl (bl (bl hc))))) X r Y R he) λv aM aW val s1 q p=>⟨R4 q.1 p.rel p.val,?_⟩);rw[xD ys];exact gM rfl (gy (gO (sB (hb P aQ A _ e aW aM s1 _ (br (bl (bl (bl hc)))) X r (Y.on p) p.rel q.2) λv2 aJ bB bI s2 q2 p2=>gZ (up (p.trans p2) (zi (pos:=pos) q2 p2.rel (p.val.mono p2.ext.old) p2.val)))))
def TO(ha:oG aR w K KF B mg mb d a):oG aR w K KF B mg mb d (.pop a):=λP aQ A ex e Z T s Q hc X r Y R he=>by
 refine vV hc λo xs ks pos hc=>oN (bl hc) (vW (br hc) λo nm ap hc=>oN (bl (bl (bl (bl hc)))) ?_);rw[oW (br (bl (bl (bl hc))))];refine Ba (br (bl hc)) (br hc) rfl F.slot_list_pop F.type_list_pop (sB (ha P aQ A _ e Z T s _ (br (bl (bl hc))) X r Y R he) λv aM aW val s1 q p=>?_);have h:=Pl (aR:=aR) (w:=w) (A:=A) (pos:=pos) q p.rel p.val;exact⟨h.1,up p h.2⟩
def Sx(n:Nat)(ha:oG aR w K KF B mg mb d a):oG aR w K KF B mg mb d (.attr a n):=λP aQ A ex e Z T s Q hc X r Y R he=>by
 refine vW hc λo nm pos hc=>?_;rw[oW (br (bl (bl hc)))];exact Attribute_any_ (sB (ha P aQ A _ e Z T s _ (br (bl hc)) X r Y R he) λv aM aW val s1 q p=>up p (Dl S.cls S.bV p.rel (b9 (bl (bl (bl hc)))) p.val q)) (DZ (C:=λo=>eval (o.Attribute (pI n) pos) aQ=(do let o_1 <-eval o aQ;standAt pos.atName;let r <-holding [o_1] (getAttr o_1 (pI n) true);letTemporaryGo o o_1 r;pure r)) (br hc) (λz z=>rfl) (λz z z=>rfl) λz z z=>rfl)
def U8(ha:oG aR w K KF B mg mb d a)(hi:oG aR w K KF B mg mb d i):oG aR w K KF B mg mb d (.sub a i):=λP aQ A ex e Z T s Q hc X r Y R he=>by
 refine Ek hc λo sl pos hc=>?_;refine Subscript_ (sB (ha P aQ A _ e Z T s _ (bl (bl hc)) X r Y R he) λv aM aW val s1 q p=>?_);refine sB (hi P aQ A _ e aW aM s1 _ (br (bl hc)) X r (Y.on p) p.rel q) λv2 aJ bB bI s2 q2 p2=>?_;exact up (p.trans p2) (OD S.con p2.rel (p.val.mono p2.ext.old) p2.val (Qn (br hc)) q2)
omit S M CK in
def Fe(sc:oG aR w K KF B mg mb d c)(h:vv l (JY c) (λl=>chk P c l)=true)(X:uN KF mg mb P aQ)(r:uk A d)(Y:qp P aQ B Z e s.heap)(R:pu B Z T s.heap)(he:ev K c e T Q):
  nr (model aR w) A (evalPart l aQ) (Bk B Z s Q) qD s:=by
 cases l with
 | some l=>exact sc P aQ A l e Z T s Q h X r Y R he
 | none=>
  cases IY h;exact nD (Bk.none (t:=s.toks) R he)
def N1{a lo hi:E}(ha:oG aR w K KF B mg mb d a)(hlo:oG aR w K KF B mg mb d lo)(hhi:oG aR w K KF B mg mb d hi):oG aR w K KF B mg mb d (.slice a lo hi):=by
 exact λP aQ A ex e Z T s Q hc X r Y R he=>by
  refine Ek hc λo sl pos hc=>QA hc λl u st sp hc=>?_;rw[eh.mp (br (bl (bl hc)))];refine wpAny_Subscript_Slice (T:="list") list_getitem_lookup (sB (ha P aQ A _ e Z T s _ (bl (bl (bl (bl hc)))) X r Y R he) λv aM aW val s1 q p=>?_) ?_
  case refine_2=>exact Expr.Name.elim (motive_1:=λo=>∀ov rv,letTemporaryGo o ov rv=pure ()) o (cH (br (bl (bl (bl hc))))) λy y y y=>rfl
  refine wpAny_Slice (sB (Fe hlo (br (bl hc)) X r (Y.on p) p.rel q) λv2 aJ bB bI s2 q2 p2=>?_);refine sB (Fe hhi (br hc) X r (Y.on (p.trans p2)) p2.rel q2) λv3 σ3 ρ3 val3 s3 q3 p3=>?_;rw[evalPart_none];have h:=IL (aR:=aR) (w:=w) (A:=A) S.con q3 p3.rel ((p.val.mono p2.ext.old).mono p3.ext.old) (p2.val.mono p3.ext.old) p3.val;exact nD ⟨h.2,nG h.1 (λy y z=>z.of ((p.trans p2).trans p3)) λy y x=>x.elim⟩
def Qx(ta:uL aR w K KF B mg mb d a):uL aR w K KF B mg mb d (.not a):=λP aQ A ex e Z T s af hc z X r Y R he=>by
 refine Nt hc λo x pos hc=>?_;rw[b9 (bl (bl hc))];exact isTrue_not (V3 (ta P aQ A _ e Z T s (λt h=>af (!t) h) (br (bl hc)) (br hc) X r Y R (jp M a (λv h x=>pU (λb y=>y) x) he)) λt aM aW s1 q p=>Bk.at_ (p.bA (show VR aW (.bool !t) (.bool !t) from rfl)) ⟨rfl,q⟩)
omit S M CK in
def IP(f:∀t,tr v=J t->X t->Y t)(h:yb (tr v) X):yb (tr v) Y:=by
 cases e:tr v with
 | none=>rw[e] at h;exact h
 | some t=>rw[e] at h;exact f t e h
def PQ{a b:E}(ta:uL aR w K KF B mg mb d a)(tb:uL aR w K KF B mg mb d b):uL aR w K KF B mg mb d (.and a b):=by
 exact λP aQ A ex e Z T s af hc u X r Y R he=>by
  refine CU hc λo xs pos hc=>?_;rw[b9 (bl hc)];refine n9 (br hc) λx ys hc=>n9 hc λy rr hc=>?_;refine isTrue_and (V3 (ta P aQ A _ e Z T s (λt h=>wL t (ev K b e h λv T=>yb (tr v) λt=>af t T) (af t h)) (bl (bl (bl hc))) (br (bl (bl hc))) X r Y R (jp M a (λv h x=>IP (λt ht=>ru id λx=>?_) x) he)) λt aM aW s1 q p=>?_)
  .exact QL ht x
  .refine zP q (λu q=>?_) λet q=>?_
   .cases rr with
    | nil=>exact Tr (Yx p (tb P aQ A _ e aW aM s1 af (br (bl hc)) (br hc) X r (Y.on p) p.rel q))
    | cons z zs=>exact Yx p (tb P aQ A _ e aW aM s1 af (br (bl hc)) (br hc) X r (Y.on p) p.rel q)
   .exact Bk.at_ (et▸p) ⟨rfl,et▸q⟩
def UZ{a b:E}(ta:uL aR w K KF B mg mb d a)(tb:uL aR w K KF B mg mb d b):uL aR w K KF B mg mb d (.or a b):=λP aQ A ex e Z T s af hc u X r Y R he=>by
 refine CU hc λo xs pos hc=>?_;rw[b9 (bl hc)];refine n9 (br hc) λx ys hc=>n9 hc λy rr hc=>?_;refine isTrue_or (V3 (ta P aQ A _ e Z T s (λt h=>wL t (af t h) (ev K b e h λv T=>yb (tr v) λt=>af t T)) (bl (bl (bl hc))) (br (bl (bl hc))) X r Y R (jp M a (λv h x=>IP (λt ht=>ru (λx=>?_) id) x) he)) λt aM aW s1 q p=>?_)
 .exact QL ht x
 .refine zP q (λet q=>?_) λet q=>?_
  .exact Bk.at_ (et▸p) ⟨rfl,et▸q⟩
  .cases rr with
   | nil=>exact WS (Yx p (tb P aQ A _ e aW aM s1 af (br (bl hc)) (br hc) X r (Y.on p) p.rel q))
   | cons z zs=>exact Yx p (tb P aQ A _ e aW aM s1 af (br (bl hc)) (br hc) X r (Y.on p) p.rel q)
def Rs{c a b:E}(tc:uL aR w K KF B mg mb d c)(ta:uL aR w K KF B mg mb d a)(tb:uL aR w K KF B mg mb d b):uL aR w K KF B mg mb d (.ite c a b):=λP aQ A ex e Z T s af hc z X r Y R he=>by
 refine Vu hc λt x y pos hc=>?_;refine isTrue_IfExp (V3 (tc P aQ A _ e Z T s _ (bl (bl (bl (bl (bl hc))))) (br (bl (bl (bl (bl hc))))) X r Y R he) λt aM aW s1 q p=>zP q (λz q=>?_) λz q=>?_)
 .exact Yx p (ta P aQ A _ e aW aM s1 _ (br (bl (bl (bl hc)))) (br (bl (bl hc))) X r (Y.on p) p.rel q)
 .exact Yx p (tb P aQ A _ e aW aM s1 _ (br (bl hc)) (br hc) X r (Y.on p) p.rel q)
omit S M CK in
def LU.fin{val:nf}{b:Bool}{af:Bool->H->Prop}(p:vQ B Z s aK v aL val s')(q:af b aK):LU B Z s af b s':=Bk.at_ (p.bA (show VR aL (.bool b) (.bool b) from rfl)) ⟨rfl,q⟩
def S7(o:Kk)(ha:oG aR w K KF B mg mb d a)(hb:oG aR w K KF B mg mb d b):uL aR w K KF B mg mb d (.cmp a o b):=by
 exact λP aQ A ex e Z T s af hc z X r Y R he=>by
  refine H9 hc λx ps ys pos hc=>n9 hc λp' ps hc=>n9 hc λy ys hc=>oN (bl (bl (bl (bl (bl hc))))) (oN (br (bl (bl (bl (bl hc))))) ?_);rw[Bt (br (bl (bl hc)))];refine wpAny_isTrue_Compare1 (sB (ha P aQ A _ e Z T s _ (br (bl (bl (bl hc)))) X r Y R he) λv aM aW val s1 q p=>?_) (Bt (br (bl (bl hc)))▸nt (br hc));refine sB (hb P aQ A _ e aW aM s1 _ (br (bl hc)) X r (Y.on p) p.rel q) λv2 aJ bB bI s2 q2 p2=>?_;obtain⟨t,ht,q2⟩:=tC q2;refine sB (uh (Q:=λu T=>u= .bool t/\af t T) S.con p2.rel r.cmp (p.val.mono p2.ext.old) p2.val ht ⟨rfl,q2⟩) λv3 σ3 ρ3 val3 s3 q3 p3=>?_;exact BF p3.rel p3.val (show tr v3=J t from q3.1▸rfl) (LU.fin ((p.trans p2).trans p3) q3.2) rfl
def NL{a b c:E}(o o2:Kk)(ha:oG aR w K KF B mg mb d a)(hb:oG aR w K KF B mg mb d b)(hc:oG aR w K KF B mg mb d c):uL aR w K KF B mg mb d (.bU a o b o2 c):=by
 exact λP aQ A ex e Z T s af hk j X r Y R he=>by
  refine H9 hk λx ps ys pos hk=>n9 hk λp' ps hk=>n9 hk λp2' ps hk=>n9 hk λy ys hk=>n9 hk λz ys hk=>J5 (C:=λps ys=>nr (model aR w) A (isTrue (.Compare x ps ys pos) aQ (eval (.Compare x ps ys pos) aQ)) (LU B Z s af) qD s) hk λc1 c3 c5 c6=>?_;refine isTrue_chain (rs:=[]) (ops:=[]) (sB (ha P aQ A _ e Z T s _ c1 X r Y R he) λv aM aW val s1 q p=>?_) c6;refine test_link (sB (hb P aQ A _ e aW aM s1 _ c3 X r (Y.on p) p.rel q) λv2 aJ bB bI s2 q2 p2=>?_);obtain⟨t,ht,q2⟩:=tC q2;refine sB (uh (Q:=λu T=>u= .bool t/\T=aJ) S.con p2.rel r.cmp (p.val.mono p2.ext.old) p2.val ht ⟨rfl,rfl⟩) λv3 σ3 ρ3 val3 s3 q3 p3=>?_;obtain⟨rfl,rfl⟩:=q3;have pp:=(p.trans p2).trans p3;refine BF p3.rel p3.val (show tr (.bool t)=J t from rfl) (zP q2 (λj q2=>?_) λet q2=>?_) rfl
  .refine test_last (sB (hc P aQ A _ e ρ3 σ3 s3 _ c5 X r (Y.on pp) p3.rel q2) λv4 σ4 ρ4 val4 s4 q4 p4=>?_);obtain⟨t4,ht4,q4⟩:=tC q4;refine sB (uh (Q:=λu T=>u= .bool t4/\af t4 T) S.con p4.rel r.cmp ((p2.val.mono p3.ext.old).mono p4.ext.old) p4.val ht4 ⟨rfl,q4⟩) λv5 σ5 ρ5 val5 s5 q5 p5=>?_;exact BF p5.rel p5.val (show tr v5=J t4 from q5.1▸rfl) (LU.fin ((pp.trans p4).trans p5) q5.2) rfl
  .exact LU.fin pp q2
omit S M CK in
set_option tactic.hygienic true in
def HP(h:plX ex=true):isTrue ex aQ (eval ex aQ)=(do let v <-eval ex aQ;standAt ex.pos;holding [v] (truthy v)):=by
 cases ex<;>first | rfl | exact(cZ h).elim | skip
 case UnaryOp op x p=>cases op<;>first | rfl | exact(cZ h).elim
omit S M CK in
def oQ(hp:VE c=false)(h:oG aR w K KF B mg mb d c):uL aR w K KF B mg mb d c:=λP aQ A ex e Z T s af hc ht X r Y R he=>Wq (h P aQ A ex e Z T s _ hc X r Y R he) (HP ((ei.mp ht).resolve_left λq=>nomatch hp.symm.trans q))
def R6:Hz aR w K KF B mg mb d .nil:=λP aQ A xs pos e Z T s Q hc X r Y R he=>by
 refine oN hc ?_;exact⟨rfl,gZ ⟨[],T,Z,he,vQ.same (t:=s.toks) (d:=s.drawn) R (show VR Z .none .none from trivial),.nil⟩⟩
def N7(ha:oG aR w K KF B mg mb d a)(les:Hz aR w K KF B mg mb d es):Hz aR w K KF B mg mb d (.cons a es):=λP aQ A xs pos e Z T s Q hc X r Y R he=>by
 refine⟨Na hc,?_⟩;refine n9 hc λx xs hc=>?_;rw[vf (vh (bl (bl hc))),xg];refine gO (sB (ha P aQ A x e Z T s _ (br (bl hc)) X r Y R he) λv aM aW val s1 q p=>?_);exact Yv (les P aQ A xs pos e aW aM s1 _ (br hc) X r (Y.on p) p.rel q).2 λvs aJ bB aF s2 q2 p2 m2=>⟨v::vs,aJ,bB,q2,p.trans p2,.cons (p.val.mono p2.ext.old) m2⟩
end
mutual
theorem oA(S:BJ K KF B mg mb)(M:K.aV)(CK:qB aR w K B d):∀c:E,oG aR w K KF B mg mb d c/\uL aR w K KF B mg mb d c
 | .bK=>have h:=UR S M CK ;⟨h,oQ rfl h⟩
 | .bool b=>have h:=Qz S M CK b ;⟨h,oQ rfl h⟩
 | .int i=>have h:=Vg S M CK i ;⟨h,oQ rfl h⟩
 | .str i=>have h:=Vb S M CK i ;⟨h,oQ rfl h⟩
 | .loc i=>have h:=TY S M CK i ;⟨h,oQ rfl h⟩
 | .glo i v=>have h:=Uy S M CK i v ;⟨h,oQ rfl h⟩
 | .and a b=>⟨UM S M CK (oA S M CK a).1 (oA S M CK b).1,PQ S M CK (oA S M CK a).2 (oA S M CK b).2⟩
 | .or a b=>⟨Xq S M CK (oA S M CK a).1 (oA S M CK b).1,UZ S M CK (oA S M CK a).2 (oA S M CK b).2⟩
 | .not a=>⟨TI S M CK (oA S M CK a).1,Qx S M CK (oA S M CK a).2⟩
 | .neg a=>have h:=Tw S M CK (oA S M CK a).1;⟨h,oQ rfl h⟩
 | .inv a=>have h:=Tc S M CK (oA S M CK a).1;⟨h,oQ rfl h⟩
 | .bin o a b=>have h:=Ti S M CK o (oA S M CK a).1 (oA S M CK b).1;⟨h,oQ rfl h⟩
 | .ite c a b=>⟨UB S M CK (oA S M CK c).2 (oA S M CK a).1 (oA S M CK b).1,Rs S M CK (oA S M CK c).2 (oA S M CK a).2 (oA S M CK b).2⟩
 | .cmp a o b=>⟨Tf S M CK o (oA S M CK a).1 (oA S M CK b).1,S7 S M CK o (oA S M CK a).1 (oA S M CK b).1⟩
 | .bU a o b o2 c=>⟨SI S M CK o o2 (oA S M CK a).1 (oA S M CK b).1 (oA S M CK c).1,NL S M CK o o2 (oA S M CK a).1 (oA S M CK b).1 (oA S M CK c).1⟩
 | .list es=>have h:=S6 S M CK (Of S M CK es);⟨h,oQ rfl h⟩
 | .tup es=>have h:=Tt S M CK (Of S M CK es);⟨h,oQ rfl h⟩
 | .rep es n=>have h:=TE S M CK (Of S M CK es) (oA S M CK n).1;⟨h,oQ rfl h⟩
 | .comp elt i iter test=>have h:=PH S M CK i (oA S M CK iter).1 (oA S M CK elt).1 (oA S M CK test).2;⟨h,oQ rfl h⟩
 | .call i f es=>have h:=SH S M CK i f (Of S M CK es);⟨h,oQ rfl h⟩
 | .len i a=>have h:=Uw S M CK i (oA S M CK a).1;⟨h,oQ rfl h⟩
 | .abs i a=>have h:=U2 S M CK i (oA S M CK a).1;⟨h,oQ rfl h⟩
 | .range i es=>have h:=OS S M CK i (Of S M CK es);⟨h,oQ rfl h⟩
 | .index a b=>have h:=NY S M CK (oA S M CK a).1 (oA S M CK b).1;⟨h,oQ rfl h⟩
 | .append a b=>have h:=L4 S M CK (oA S M CK a).1 (oA S M CK b).1;⟨h,oQ rfl h⟩
 | .pop a=>have h:=TO S M CK (oA S M CK a).1;⟨h,oQ rfl h⟩
 | .attr a n=>have h:=Sx S M CK n (oA S M CK a).1;⟨h,oQ rfl h⟩
 | .sub a i=>have h:=U8 S M CK (oA S M CK a).1 (oA S M CK i).1;⟨h,oQ rfl h⟩
 | .slice a lo hi=>have h:=N1 S M CK (oA S M CK a).1 (oA S M CK lo).1 (oA S M CK hi).1;⟨h,oQ rfl h⟩
theorem Of(S:BJ K KF B mg mb)(M:K.aV)(CK:qB aR w K B d):∀c:Es,Hz aR w K KF B mg mb d c
 | .nil=>R6 S M CK
 | .cons a es=>N7 S M CK (oA S M CK a).1 (Of S M CK es)
end
def Lh(S:BJ K KF B mg mb)(M:K.aV)(CK:qB aR w K B d)(c:E):oG aR w K KF B mg mb d c:=(oA S M CK c).1
def XB(S:BJ K KF B mg mb)(M:K.aV)(CK:qB aR w K B d)(c:E):uL aR w K KF B mg mb d c:=(oA S M CK c).2
end
end
section
open PySem PySem.W PyProof.Rows PySem.SeqAt
abbrev V8(aQ:ez)(a:Addr):Prop:=a=aQ.locals\/∃x,aQ.cells.lookup x=J a
abbrev Bb(aQ:ez)(Z:th)(h h':Heap):Prop:=∀b o,h.get? b=J o->B1 Z b->¬V8 aQ b->h'.get? b=J o
structure uM (P:Pm) (aQ:ez) (B:Heap) (Z:th) (s:ni) (e':Mine.Lake.nw) (aK:H) (aL:th) (s':ni):Prop where
 ext:wf Z aL s.heap
 rel:pu B aL aK s'.heap
 keep:Bb aQ Z s.heap s'.heap
 bG:qp P aQ B aL e' s'.heap
 gens:s'.gens=s.gens
 os:s'.os=s.os
abbrev Py(P:Pm)(aQ:ez)(B:Heap)(Z:th)(s:ni)(Q:Mine.Lake.nw->H->Prop)(s':ni):Prop:=∃e' aK aL,Q e' aK/\uM P aQ B Z s e' aK aL s'
abbrev FlR(Z:th):Fl->Flow->Prop
 | .next,.next=>True
 | .brk,.brk=>True
 | .ret v,.ret val=>VR Z v val
 | _,_=>False
@[elab_as_elim] def EB{C:Fl->Flow->Prop}{f:Fl}{fl:Flow}(r:FlR Z f fl)(n:C .next .next)(b:C .brk .brk)(c:∀v val,VR Z v val->C (.ret v) (.ret val)):C f fl:=by
 cases f<;>cases fl<;>first | exact(r:False).elim | exact n | exact b | exact c _ _ r
abbrev LS(P:Pm)(aQ:ez)(B:Heap)(Z:th)(s:ni)(Q:QS)(fl:Flow)(s':ni):Prop:=∃f e' aK aL,Q f e' aK/\uM P aQ B Z s e' aK aL s'/\FlR aL f fl
section
variable{aR:nJ}{w:dq}{K:pK}{KF:Frag}{B:Heap}{mg mb:Str->Option nf}{d:Nat}
variable{A:nL}{aQ:ez}{P:Pm}{e e' e'':Mine.Lake.nw}{Z aL ρ'':th}{T aK σ'':H}{s s' s'':ni}{Q:V->H->Prop}
def qp.alive(Y:qp P aQ B Z e h)(f:V8 aQ a):∃o,h.get? a=J o:=by
 rcases f with rfl | ⟨x,hx⟩
 .obtain⟨m,n,_⟩:=Y.m;exact DA n
 .obtain⟨w,⟨o,ho,_⟩,_⟩:=Y.cel x a hx;exact⟨o,ho⟩
def wf.transF(x:wf Z aL h)(y:wf aL ρ'' h')(k:Bb aQ Z h h')(Y:qp P aQ B aL e h')(sp:Sep ρ''):wf Z ρ'' h:=by
 refine⟨λi p e=>y.old i p (x.old i p e),λi p hi e=>?_⟩;by_cases q:i<aL.length
 .have e1:=y.old i _ (a7 q);rw[e1] at e;exact x.new i p hi ((a7 q).trans e)
 .have z:=y.new i p (dZ q) e;have key:∀a,(a=p.1\/a=p.2)->h'.get? a=U->h.get? a=U:=λa ha hn=>by
   cases g:h.get? a with
   | none=>rfl
   | some o=>
    by_cases hf:V8 aQ a
    .obtain⟨o',ho'⟩:=Y.alive hf;rw[ho'] at hn;cases hn
    .by_cases ho:B1 Z a
     .rw[k a o g ho hf] at hn;cases hn
     .obtain⟨j,r,hj,hr⟩:=HW ho;have hj':=y.old j r (x.old j r hj);have ne:i≠j:=λt=>by subst t;exact cG (f0 hj) (fV.mpr hi)
      have s:=sp i j p r e hj' ne;rcases ha with rfl | rfl<;>rcases hr with hr | hr
      .exact cG hr s.1
      .exact cG hr s.2.1
      .exact cG hr s.2.2.1
      .exact cG hr s.2.2.2
  exact⟨key _ (.inl rfl) z.1,key _ (.inr rfl) z.2⟩
def Bb.trans(x:Bb aQ Z h h')(y:Bb aQ aL h' h'')(z:wf Z aL h):Bb aQ Z h h'':=λb o g n f=>y b o (x b o g n f) (n.ext z g) f
def uM.trans(x:uM P aQ B Z s e' aK aL s')(y:uM P aQ B aL s' e'' σ'' ρ'' s''):uM P aQ B Z s e'' σ'' ρ'' s'':=
 ⟨x.ext.transF y.ext x.keep x.bG y.rel.sep,y.rel,x.keep.trans y.keep x.ext,y.bG,y.gens.trans x.gens,y.os.trans x.os⟩
def vQ.toS{val:nf}(p:vQ B Z s aK v aL val s')(Y:qp P aQ B Z e s.heap):uM P aQ B Z s e aK aL s':=⟨p.ext,p.rel,λb o g n w=>p.keep b o g n,Y.on p,p.gens,p.os⟩
def uM.same(R:pu B Z T s.heap)(Y:qp P aQ B Z e s.heap):uM P aQ B Z s e T Z s:=⟨.refl _ _,R,λw w g w w=>g,Y,rfl,rfl⟩
def Py.of{Q:Mine.Lake.nw->H->Prop}(p:uM P aQ B Z s e' aK aL s')(h:Py P aQ B aL s' Q s''):Py P aQ B Z s Q s'':=by
 ext B aQ P e' Z aL aK s s' s'' Q;obtain⟨e2,aJ,bB,q,p2⟩:=h;exact⟨e2,aJ,bB,q,p.trans p2⟩
def LS.of{Q:QS}(p:uM P aQ B Z s e' aK aL s')(h:LS P aQ B aL s' Q fl s''):LS P aQ B Z s Q fl s'':=by
 obtain⟨f,e2,aJ,bB,q,p2,r⟩:=h;exact⟨f,e2,aJ,bB,q,p.trans p2,r⟩
def upE{M:Model}{t:Sem α}{Q:Mine.Lake.nw->H->Prop}(p:uM P aQ B Z s e' aK aL s')(h:nr M A t (λw s2=>Py P aQ B aL s' Q s2) qD s'):nr M A t (λw s2=>Py P aQ B Z s Q s2) qD s':=nG h (λw w x=>x.of p) λw w x=>x
def upS{t:Sem Flow}{Q:QS}(p:uM P aQ B Z s e' aK aL s')(h:nr M A t (LS P aQ B aL s' Q) qD s'):nr M A t (LS P aQ B Z s Q) qD s':=nG h (λw w x=>x.of p) λw w x=>x
def uM.but(p:uM P aQ B Z s e' aK aL s')(hs:gH a s'.heap s2.heap)(n:s.heap.get? a=U)(o:B1 aL a)(b:B.get? a=U)(f:¬V8 aQ a)(hg:s2.gens=s'.gens)(ho:s2.os=s'.os):uM P aQ B Z s e' aK aL s2:=
 ⟨p.ext,p.rel.extBut hs o b,λc ob g n' f'=>hs c ob (λt=>by rw[t,n] at g;cases g) (p.keep c ob g n' f'),p.bG.but hs (λq=>f (.inl q)) (λx c hc q=>f (.inr ⟨x,q▸hc⟩)),hg.trans p.gens,ho.trans p.os⟩
def z6{x:Str}{v:V}(ap:∀j,P.nm[j]? =J x->j=i)(h3:P.nm[i]? =J x){j:Nat}{y:Str}{u:V}(a:P.nm[j]? =J y)(b:(e.set i (J v))[j]? =J (J u)){C:Prop}(c1:y=x->v=u->C)(c2:y≠x->e[j]? =J (J u)->C):C:=
 (uf b).elim (λh=>c1 (ss a (h.1▸h3)) (cI h.2.1).symm) λh=>c2 (λz=>h.1 (ap j (z▸a)).symm) h.2
def yn{x:Str}{k:nB}{v:V}{val:nf}{Q:Mine.Lake.nw->H->Prop}(X:uN KF mg mb P aQ)(hin:P.inner=U)(Y:qp P aQ B Z e s.heap)(R:pu B Z T s.heap)(hk:P.kind i x=J k)(hv:VR Z v val)(q:Q (e.set i (J v)) T):
  nr (model aR w) A (storeName aQ x val) (λr s'=>Py P aQ B Z s Q s') qD s:=by
 revert Z T s i x k v val Q;ext aR w KF B mg mb A aQ P e;ext Z T s i x k v val Q;have h3:=(X.ks i x k hk).2.2;have ap:=X.apart i x k hk (.inl hin);have h1:=(X.ks i x k hk).1;refine Y.m.elim λm n=>(Mw hk).elim (λe=>?_) λe=>?_
 .rw[e] at h1;refine wpAny_storeName_local h1 n.1 (λh' hn hs=>⟨_,T,Z,q,.refl _ _,R.sameBut hs Y.own.1 Y.own.2,λb o g r f=>(hs.2 b λz=>f (.inl z)).trans g,?_,rfl,rfl⟩) (by rw[X.kind];rfl);exact⟨⟨_,hn,λj y u a b c=>z6 ap h3 a b (λz1 z2=>⟨val,cC z1,z2▸hv⟩) λz1 z2=>(n.2 j y u a z2 c).elim λw h=>⟨w,(cD z1).trans h.1,h.2⟩⟩,
   λy c hc=>(Y.cel y c hc).elim λw' h=>⟨w',h.1.elim λoc ho=>⟨oc,(hs.2 c (Y.bJ y c hc).2.2).trans ho.1,ho.2⟩,λj u a b c'=>z6 ap h3 a b (λz r=>nomatch ss h1 ((cF aQ.kindOf z).symm.trans c')) λr z2=>h.2 j u a z2 c'⟩,Y.own,Y.bJ,Y.apart⟩
 .rw[e] at h1 hk;refine(eG.mp (X.cs i x hk)).elim λc hc=>(Y.cel x c hc).elim λw0 hw=>?_;have oc:=Y.bJ x c hc;refine wpAny_storeName_cell X.kind h1 hc hw.1 λh' hn hs=>⟨_,T,Z,q,.refl _ _,R.sameBut hs oc.1 oc.2.1,λb o g r f=>(hs.2 b λz=>f (.inr ⟨x,z▸hc⟩)).trans g,?_,rfl,rfl⟩
  refine⟨⟨m,n.1.sameBut hs (dQ oc.2.2),λj y u a b c'=>z6 ap h3 a b (λz r=>nomatch ss h1 ((cF aQ.kindOf z).symm.trans c')) λr z2=>n.2 j y u a z2 c'⟩,λy c' hc'=>?_,Y.own,Y.bJ,Y.apart⟩;by_cases z:y=x
  .exact⟨J val,ss hc ((cF (aQ.cells.lookup ·) z).symm.trans hc')▸hn,λj u a b c'=>z6 ap h3 a b (λr z2=>⟨val,rfl,z2▸hv⟩) λz1 r=>cG z z1⟩
  .exact(Y.cel y c' hc').elim λw' h=>⟨w',h.1.elim λo1 ho=>⟨o1,(hs.2 c' λt=>z (Y.apart y x c' hc' (t▸hc))).trans ho.1,ho.2⟩,λj u a b c2=>z6 ap h3 a b (λz2 r=>cG z2 z) λr z2=>h.2 j u a z2 c2⟩
def BN{pos:Pos}{val:nf}{M:Model}{k:Unit->ni->Prop}{E:nf->ni->Prop}(h:nr M A (storeName aQ x val) k E s):nr M A (assign (.Name x pos) aQ val) k E s:=wpAny_assign_Name h
def ur(h:∀y p,tg≠.Starred y p)(r:List bo):assignEach (tg::r) aQ=(false,assign tg aQ)::assignEach r aQ:=by
 cases tg<;>first | rfl | exact cG rfl (h _ _)
def JN:∀y q,PySem.Expr.Name x p≠.Starred y q:=λw w q=>nomatch q
def GI:∀(is:List Nat) {xs:List bo},NG P is xs=true->(assignEach xs aQ).length=is.length/\(assignEach xs aQ).findIdx? (·.1)=U
 | [],xs,h=>oN (C:=λxs=>(assignEach xs aQ).length=0/\(assignEach xs aQ).findIdx? (·.1)=U) h ⟨rfl,rfl⟩
 | i::is,xs,h=>n9 (C:=λxs=>(assignEach xs aQ).length=is.length+1/\(assignEach xs aQ).findIdx? (·.1)=U) h λx xs h=>rx (C:=λx=>(assignEach (x::xs) aQ).length=is.length+1/\(assignEach (x::xs) aQ).findIdx? (·.1)=U) (bl h) λx p w=>by
  have ih:=GI is (br h);rw[ur JN];exact⟨cF (·+1) ih.1,by rw[List.findIdx?_cons,cD (show ¬(false=true) from cZ),ih.2];rfl⟩
def Jr(X:uN KF mg mb P aQ)(hin:P.inner=U)(is:List Nat):∀{xs:List bo} {vs:List V} {aF:List nf} {e:Mine.Lake.nw} {Z:th} {s:ni} {Q:Mine.Lake.nw->H->Prop},NG P is xs=true->vs.length=is.length->qp P aQ B Z e s.heap->pu B Z T s.heap->qS Z vs aF->
  Q (Bq is vs e) T->nr (model aR w) A (assignInOrder ((assignEach xs aQ).map (·.2)) aF) (λz s'=>Py P aQ B Z s Q s') qD s:=by
 induction is with
 | nil=>
  intro xs vs aF e Z s Q h hl Y R m q;refine oN h ?_;exact assignInOrder_nil ⟨_,_,_,q,.same R Y⟩
 | cons i is ih=>
  intro xs vs aF e Z s Q h hl Y R m q;refine n9 h λx xs h=>rx (bl h) λx p hk=>?_;obtain⟨k,hk⟩:=eG.mp hk;cases m with
  | nil=>cases hl
  | @cons v val vs aF hv m=>
   rw[ur JN,dw];refine assignInOrder_cons (BN (nG (yn (Q:=λe' aK=>e'=e.set i (J v)/\aK=T) X hin Y R hk hv ⟨rfl,rfl⟩) (λz s1 h1=>?_) λz z x=>x));obtain⟨e1,aM,aW,⟨rfl,rfl⟩,p1⟩:=h1;exact upE p1 (ih (br h) (gu hl) p1.bG p1.rel (m.mono p1.ext.old) q)
def IH:assign (.Attribute o n pos) aQ val=(do
   let ov <-holding [val] (eval o aQ)
   standAt pos.atName
   holding [val,ov] (setAttr ov n val)
   release [val,ov] []):=rfl
def LN{tg:bo}{v:V}{val:nf}{Q:Mine.Lake.nw->H->Prop}(S:BJ K KF B mg mb)(X:uN KF mg mb P aQ)(hin:P.inner=U)(r:uk A d)(Y:qp P aQ B Z e s.heap)(R:pu B Z T s.heap)(hc:Hw P (.tup is) tg=true)(hv:VR Z v val)(he:tL K (.tup is) v e T Q):nr (model aR w) A (assign tg aQ val) (λz s'=>Py P aQ B Z s Q s') qD s:=by
 refine LX hc λxs k pos hc=>?_;obtain⟨vs,q,hl,he⟩:=ML (f:=λvs=>vs.length=is.length/\Q (Bq is vs e) T) he;obtain⟨a,aF,rfl,ht,m⟩:=DX S.con R hv q;have hn:=GI (aQ:=aQ) is hc;refine assign_Tuple_tuple r.1 ht (by rw[hn.1,<-hl,m.length];rfl) hn.2 λh' hs=>?_;have no:=qH s.heap;have fr:=R.fresh no;have p:uM P aQ B Z s e T Z {s with heap:=h'}:=(uM.same R Y).but (s2:={s with heap:=h'}) hs no fr.1 fr.2 (λf=>(Y.alive f).elim λo ho=>sn ho no) rfl rfl;exact upE p (Jr X hin is hc hl p.bG p.rel m he)
def xc{tg:bo}{v:V}{val:nf}{Q:Mine.Lake.nw->H->Prop}(S:BJ K KF B mg mb)(M:K.aV)(CK:qB aR w K B d)(X:uN KF mg mb P aQ)(hin:P.inner=U)(r:uk A d)(Y:qp P aQ B Z e s.heap)(R:pu B Z T s.heap)(hc:Hw P t tg=true)(hv:VR Z v val)(he:tL K t v e T Q):nr (model aR w) A (assign tg aQ val) (λz s'=>Py P aQ B Z s Q s') qD s:=by
 cases t with
 | loc i=>
  refine rx hc λx pos hc=>?_;obtain⟨k,hk⟩:=eG.mp hc;exact BN (yn X hin Y R hk hv he)
 | tup is=>exact LN S X hin r Y R hc hv he
 | attr a n=>
  refine vW hc λo nm pos hc=>?_;rw[oW (br (bl hc)),IH];refine nh (nM (sB (Lh S M CK a P aQ A o e Z T s _ (br hc) X r Y R he) λv2 aJ bB bI s2 q2 p2=>?_));refine nh (nV (nh (nM (nG (ye S.cls S.bV p2.rel (b9 (bl (bl hc))) p2.val (hv.mono p2.ext.old) q2) (λz s3 h3=>wpAny_release' ?_) λz z x=>x))));obtain⟨v3,σ3,q3,ρ3,p3⟩:=h3;exact⟨e,σ3,ρ3,q3,(p2.trans p3).toS Y⟩
 | sub a i=>
  refine Ek hc λo sl pos hc=>?_;rw[assign_Subscript];refine nh (nM (sB (Lh S M CK a P aQ A o e Z T s _ (bl (bl hc)) X r Y R he) λv2 aJ bB bI s2 q2 p2=>?_));refine nh (nM (sB (Lh S M CK i P aQ A sl e bB aJ s2 _ (br (bl hc)) X r (Y.on p2) p2.rel q2) λv3 σ3 ρ3 val3 s3 q3 p3=>?_));refine nh (nV (nh (nM (nG (yc p3.rel (p2.val.mono p3.ext.old) p3.val ((hv.mono p2.ext.old).mono p3.ext.old) q3) (λz s4 h4=>wpAny_release' ?_) λz z x=>x))));obtain⟨v4,σ4,q4,ρ4,p4⟩:=h4;exact⟨e,σ4,ρ4,q4,((p2.trans p3).trans p4).toS Y⟩
end
end
section
open PySem PySem.W PyProof.Rows PySem.SeqAt
section
variable{aR:nJ}{w:dq}{K:pK}{KF:Frag}{B:Heap}{mg mb:Str->Option nf}{d:Nat}
variable{A:nL}{aQ:ez}{P:Pm}{e e' e'':Mine.Lake.nw}{Z aL ρ'':th}{T aK σ'':H}{s s' s'':ni}
noncomputable abbrev Ce(aR:nJ)(w:dq)(K:pK)(KF:Frag)(B:Heap)(mg mb:Str->Option nf)(d:Nat)(c:S):Prop:=
 ∀(P:Pm) (aQ:ez) (A:nL) (st:Stmt) (e:Mine.Lake.nw) (Z:th) (T:H) (s:ni) (Q:QS),ZW P c st=true->P.inner=U->uN KF mg mb P aQ->uk A d->qp P aQ B Z e s.heap->pu B Z T s.heap->evS K c e T Q->
  nr (model aR w) A (exec st aQ) (LS P aQ B Z s Q) qD s
noncomputable abbrev BZ(aR:nJ)(w:dq)(K:pK)(KF:Frag)(B:Heap)(mg mb:Str->Option nf)(d:Nat)(c:Ss):Prop:=
 ∀(P:Pm) (aQ:ez) (A:nL) (xs:List Stmt) (e:Mine.Lake.nw) (Z:th) (T:H) (s:ni) (Q:QS),BO P c xs=true->P.inner=U->uN KF mg mb P aQ->uk A d->qp P aQ B Z e s.heap->pu B Z T s.heap->uO K c e T Q->
  nr (model aR w) A (execs xs aQ) (LS P aQ B Z s Q) qD s
def TM{M:Model}{t:Sem α}{E:nf->ni->Prop}{Q:Mine.Lake.nw->H->Prop}{k:α->ni->Prop}(h:nr M A t (λw s'=>Py P aQ B Z s Q s') qD s)(c:∀a e' aK aL s',Q e' aK->uM P aQ B Z s e' aK aL s'->k a s'):nr M A t k E s:=
 nG h (λa s' ⟨e',aK,aL,q,p⟩=>c a e' aK aL s' q p) λw w x=>x.elim
def goS{t:Sem Flow}{E:nf->ni->Prop}{Q:QS}{k:Flow->ni->Prop}(h:nr M A t (LS P aQ B Z s Q) qD s)(c:∀f fl e' aK aL s',Q f e' aK->uM P aQ B Z s e' aK aL s'->FlR aL f fl->k fl s'):nr M A t k E s:=
 nG h (λfl s' ⟨f,e',aK,aL,q,p,r⟩=>c f fl e' aK aL s' q p r) λw w x=>x.elim
def RG(h:Ig val=false)(tg:Option bo)(ln:Nat):swapsWith val tg ln aQ=pure false:=by
 cases val<;>first | rfl | exact nomatch h
def GS(h:(!w7 val|| !w7 tg)=true)(aQ:ez):swappedStores [tg] val aQ=pure U:=by
 revert aQ;ext val tg;cases tg<;>first | rfl | (cases val<;>first | rfl | exact nomatch h)
def goU{M:Model}{t:Sem α}{E:nf->ni->Prop}{Q:V->H->Prop}{u:nf}{k:α->ni->Prop}(h:nr M A t (λw s'=>Bk B Z s Q u s') qD s)(c:∀a v aK aL s',Q v aK->vQ B Z s aK v aL u s'->k a s'):nr M A t k E s:=
 nG h (λa s' ⟨v,aK,q,aL,p⟩=>c a v aK aL s' q p) λw w x=>x.elim
def DF(h:∀y p,tg≠.Starred y p){M:Model}{val:nf}{k:Unit->ni->Prop}{E:nf->ni->Prop}(x:nr M A (assign tg aQ val) k E s):nr M A (assignAll val ((assignEach [tg] aQ).map (·.2))) k E s:=by
 rw[ur h];exact x
def Qi{tg:bo}{k:It}{it:Addr}{vx val:nf}{j:Nat}{q:Unit->ni->Prop}{E:nf->ni->Prop}(hc:Hw P t tg=true)(hk:J4 t k=true)(I:AM s.heap it vx j k)(hv:∀is,t= .tup is->∃a,val= .ref a)(h:q () s):
  nr (model aR w) A (letOwnedTupleGo tg (.ref it) val) q E s:=by
 cases t with
 | loc i=>exact rx hc λz z z=>nD h
 | attr a n=>exact vW hc λz z z z=>nD h
 | sub a i=>exact Ek hc λz z z z=>nD h
 | tup is=>
  refine LX hc λxs z z z=>?_;obtain⟨a,rfl⟩:=hv is rfl;cases k with
  | list=>exact I.elim λb I=>wpAny_letOwnedTupleGo_listiter I.2 h
  | tup=>exact nomatch hk
  | aT _ _ _=>exact nomatch hk
def FY(C:vF K B)(R:pu B Z T s.heap)(hx:VR Z x vx)(hy:VR Z y vy)(he:Gs (xq K x y T) T Q):nr (model aR w) A (getItem vx vy) (Bk B Z s Q) qD s:=by
 obtain⟨v,e,q⟩:=wo he;obtain⟨i,xs,rfl,q1,h,e⟩:=GK e;obtain⟨u,rfl⟩:=hy.int_inv;obtain⟨a,vs,rfl,hl,m⟩:=Hk C R hx q1;obtain⟨val,g,r⟩:=m.get e;have hlt:i<vs.length:=(jf h.1).mp (f0 g);have fin:Bk B Z s Q val s:=Bk.now q R r (t:=s.toks) (d:=s.drawn);have g':vs.toArray[i.toNat]? =J val:=(gT ..).trans g;have h63:i<2 ^ 63:=gL h.2 ⋯;rcases hl with hl | hl
 .exact wpAny_getItem_list hl h.1 h63 g' fin
 .exact jn (j:=i.toNat) hl (gx ⋯ h.1) h63 (Rr h.1 hlt) g' fin
def Bw(u:nf->Sem Unit):evalThenUse (.ListComp x [⟨.Name t tp,it,ifs,0⟩] sc pos) aQ u=
  (comprehension (.ListComp x [⟨.Name t tp,it,ifs,0⟩] sc pos) sc aQ (firstIterPos [⟨.Name t tp,it,ifs,0⟩] pos) (newList []) false (eval it aQ) (J u) >>= λw=>pure ()):=by rfl
@[elab_as_elim] def Ty{C:E->Prop}(c:E)(h:c.ctorIdx=18)(f:∀a i b d,C (.comp a i b d)):C c:=by
 cases c<;>first | exact f _ _ _ _ | exact cG h (Nat.ne_of_beq_eq_false rfl)
def Iy{tg:bo}{elt iter test:E}{x it:bo}{ifs:List bo}{tn:Str}{tp cpos pos:Pos}{sc:nR}{Q:QS}(Z0:BJ K KF B mg mb)(M:K.aV)(CK:qB aR w K B d)(aj:BW P tn sc)(X:uN KF mg mb P aQ)(hin:P.inner=U)(r:uk A d)(Y:qp P aQ B Z e s.heap)(R:pu B Z T s.heap)(c1:Hw P t tg=true)(ns:∀y p,tg≠.Starred y p)(d3:chk P iter it=true)(d3':(!(it.ctorIdx == 7))=true)(d4:chk (P.into tn sc) elt x=true)(hT:BC (P.into tn sc) test ifs)(hs:swapsWithSole [tg] (.ListComp x [⟨.Name tn tp,it,ifs,0⟩] sc cpos) pos.line aQ=pure true)(he:ev K (.comp elt P.names.length iter test) e T λv h=>tL K t v e h λe h=>Q .next e h):nr (model aR w) A (exec (.Assign [tg] (.ListComp x [⟨.Name tn tp,it,ifs,0⟩] sc cpos) pos) aQ) (LS P aQ B Z s Q) qD s:=by
 have H:nr (model aR w) A (comprehension (.ListComp x [⟨.Name tn tp,it,ifs,0⟩] sc cpos) sc aQ (firstIterPos [⟨.Name tn tp,it,ifs,0⟩] cpos) (newList []) false (eval it aQ) (J λv=>assignAll v ((assignEach [tg] aQ).map (·.2))))
   (λz s'=>Py P aQ B Z s (λe T=>Q .next e T) s') qD s:=by
  refine Dx (Qf:=λz s'=>Py P aQ B Z s (λe T=>Q .next e T) s') Z0 aj X r Y R d3 d3' (Lh Z0 M CK iter) d4 (Lh Z0 M CK elt) hT (XB Z0 M CK test) he λs' aK aL v acc C q p hC oC bC hm=>?_;show nr _ A (assignAll (.ref acc) ((assignEach [tg] aQ).map (·.2))) _ qD s';obtain⟨m,n⟩:=hm;have pS:=p.toS Y;have nF:¬V8 aQ C:=λf=>by obtain⟨o,ho⟩:=Y.alive f;rw[hC] at ho;cases ho
  refine DF ns (TM (xc Z0 M CK X hin r pS.bG p.rel c1 p.val q) λz e2 aJ bB s2 q2 p2=>?_);obtain⟨oC',hoC⟩:=DA n;exact⟨m,n.at' λo g=>p2.keep _ _ g oC nF,λh' hs'=>⟨e2,aJ,bB,q2,(pS.trans p2).but (s2:={s2 with heap:=h'}) hs'.extBut hC (oC.ext p2.ext hoC) bC nF rfl rfl⟩⟩
 rw[exec_Assign_arm];refine nh (nV ?_);rw[hs];refine nh (nD ?_);rw[cC rfl,Bw];refine nh (nh (nG H (λz s' h=>nD (nD ?_)) λz z x=>x));obtain⟨e2,aJ,bB,q2,p2⟩:=h;exact⟨.next,e2,aJ,bB,q2,p2,trivial⟩
def Dd(Z0:BJ K KF B mg mb)(M:K.aV)(CK:qB aR w K B d){tg val:bo}{c:E}{pos:Pos}{Q:QS}(X:uN KF mg mb P aQ)(hin:P.inner=U)(r:uk A d)(Y:qp P aQ B Z e s.heap)(R:pu B Z T s.heap)
  (c1:Hw P t tg=true) (ns:wn tg=true) (c2:chk P c val=true) (c4:(!w7 val|| !w7 tg)=true) (hs:swapsWithSole [tg] val pos.line aQ=pure false) (he:ev K c e T λv h=>tL K t v e h λe h=>Q .next e h):
  nr (model aR w) A (exec (.Assign [tg] val pos) aQ) (LS P aQ B Z s Q) qD s:=
 wpAny_Assign_stores (sB (Lh Z0 M CK c P aQ A val e Z T s _ c2 X r Y R he) λv aM aW v1 s1 q p=>DF (vh ns)
  (TM (xc Z0 M CK X hin r (p.toS Y).bG p.rel c1 p.val q) λz e2 aJ bB s2 q2 p2=>⟨.next,e2,aJ,bB,q2,(p.toS Y).trans p2,trivial⟩)) hs (GS c4 aQ)
def I9(Z0:BJ K KF B mg mb)(M:K.aV)(CK:qB aR w K B d)(t:af)(c:E):Ce aR w K KF B mg mb d (.assign t c):=by
 exact λP aQ A st e Z T s Q hc hin X r Y R he=>by
  refine Ok hc λtgs val pos hc=>n9 hc λtg tgs hc=>oN (bl (bl (bl (bl (bl hc))))) ?_;have c1:=br (bl (bl (bl (bl hc))));have c2:=br (bl (bl (bl hc)));have c3:=br (bl (bl hc));cases hcomp:Ig val with
  | false=>exact Dd Z0 M CK X hin r Y R c1 c3 c2 (br hc) (RG hcomp (J tg) pos.line) he
  | true=>
   have h:=br (bl hc);rw[hcomp] at h;have e1:=cH (br h);refine Ty (C:=λc=>ev K c e T (λv h=>tL K t v e h λe h=>Q .next e h)->chk P c val=true->nr (model aR w) A (exec (.Assign [tg] val pos) aQ) (LS P aQ B Z s Q) qD s) c e1 (λelt i iter test he c2=>?_) he c2;refine Mq (C:=λval=>chk P (.comp elt i iter test) val=true->(!w7 val|| !w7 tg)=true->nr (model aR w) A (exec (.Assign [tg] val pos) aQ) (LS P aQ B Z s Q) qD s) c2 (λx gs sc cpos hk c2 c4=>?_) c2 (br hc);refine JI (C:=λgs=>chk P (.comp elt i iter test) (.ListComp x gs sc cpos)=true->nr (model aR w) A (exec (.Assign [tg] (.ListComp x gs sc cpos) pos) aQ) (LS P aQ B Z s Q) qD s) hk (λtn tp it ifs h1 h2 aj h3 h4 h5 c2=>?_) c2;subst h1;have hb:∃b,swapsWithSole [tg] (.ListComp x [⟨.Name tn tp,it,ifs,0⟩] sc cpos) pos.line aQ=pure b:=af.loc.elim (motive:=λt=>Hw P t tg=true->∃b,swapsWithSole [tg] (.ListComp x [⟨.Name tn tp,it,ifs,0⟩] sc cpos) pos.line aQ=pure b) t (cH (bl h))
    (λi c1=>rx (C:=λtg=>∃b,swapsWithSole [tg] (.ListComp x [⟨.Name tn tp,it,ifs,0⟩] sc cpos) pos.line aQ=pure b) c1 λz z z=>⟨_,rfl⟩) c1
   obtain⟨b,hb⟩:=hb;cases b with
   | true=>exact Iy Z0 M CK aj X hin r Y R c1 (vh c3) h3 h2 h4 h5 hb he
   | false=>exact Dd Z0 M CK X hin r Y R c1 c3 c2 c4 hb he
def Os(Z0:BJ K KF B mg mb)(M:K.aV)(CK:qB aR w K B d)(i:Nat)(o:Fh)(c:E):Ce aR w K KF B mg mb d (.aug (.loc i) o c):=by
 exact λP aQ A st e Z T s Q hc hin X r Y R he=>by
  refine Li hc λtg op val pos hc=>?_;rw[MK (br (bl hc))];refine rx (bl (bl hc)) λx px hk=>?_;obtain⟨k,hk⟩:=eG.mp hk;obtain⟨v0,q,he⟩:=M8 (f:=λx=>ev K c e T λy h=>te (Cp o x y h) λv h=>Q .next (e.set i (J v)) h) he;have hl:ev K (.loc i) e T (λv h=>v=v0/\h=T):=by show Ik e[i]? False _;rw[q];exact⟨rfl,rfl⟩
  refine wpAny_AugAssign_Name (sB (Ew (pos:=px) Z0 X Y R hk hl).2 λv aM aW val1 s1 q1 p1=>?_);obtain⟨rfl,rfl⟩:=q1;refine sB (Lh Z0 M CK c P aQ A val e aW aM s1 _ (br hc) X r (Y.on p1) p1.rel he) λv2 aJ bB bI s2 q2 p2=>?_;refine sB (A9 q2 p2.rel (p1.val.mono p2.ext.old) p2.val) λv3 σ3 ρ3 val3 s3 q3 p3=>?_;have pS:=((p1.trans p2).trans p3).toS Y;exact TM (yn (Q:=λe T=>Q .next e T) X hin pS.bG p3.rel hk p3.val q3) λz e4 σ4 ρ4 s4 q4 p4=>⟨.next,e4,σ4,ρ4,q4,pS.trans p4,trivial⟩
def Oo(Z0:BJ K KF B mg mb)(M:K.aV)(CK:qB aR w K B d)(a:E)(n:Nat)(o:Fh)(c:E):Ce aR w K KF B mg mb d (.aug (.attr a n) o c):=by
 exact λP aQ A st e Z T s Q hc hin X r Y R he=>by
  refine Li hc λtg op val pos hc=>?_;rw[MK (br (bl hc))];refine vW (bl (bl hc)) λo' nm px h=>?_;rw[oW (br (bl h))];have c1:=b9 (bl (bl h));refine wpAny_AugAssign_AttributeAny (sB (Lh Z0 M CK a P aQ A o' e Z T s _ (br h) X r Y R he) λv aM aW val1 s1 q1 p1=>?_);obtain⟨u,hu,q1⟩:=wo q1;refine sB (Dl (Q:=λv h=>v=u/\h=aM) Z0.cls Z0.bV p1.rel c1 p1.val (by rw[hu];exact⟨rfl,rfl⟩)) λv2 aJ bB bI s2 q2 p2=>?_;obtain⟨rfl,rfl⟩:=q2;refine sB (Lh Z0 M CK c P aQ A val e bB aJ s2 _ (br hc) X r ((Y.on p1).on p2) p2.rel q1) λv3 σ3 ρ3 val3 s3 q3 p3=>?_;refine sB (A9 q3 p3.rel (p2.val.mono p3.ext.old) p3.val) λv4 σ4 ρ4 val4 s4 q4 p4=>?_;exact goU (ye Z0.cls Z0.bV p4.rel c1 (((p1.val.mono p2.ext.old).mono p3.ext.old).mono p4.ext.old) p4.val q4) λz v5 σ5 ρ5 s5 q5 p5=>⟨.next,e,σ5,ρ5,q5,((((p1.trans p2).trans p3).trans p4).trans p5).toS Y,trivial⟩
def OB(Z0:BJ K KF B mg mb)(M:K.aV)(CK:qB aR w K B d)(a i:E)(o:Fh)(c:E):Ce aR w K KF B mg mb d (.aug (.sub a i) o c):=by
 exact λP aQ A st e Z T s Q hc hin X r Y R he=>by
  refine Li hc λtg op val pos hc=>?_;rw[MK (br (bl hc))];refine Ek (bl (bl hc)) λo' sl px h=>?_;refine wpAny_AugAssign_SubscriptAny (sB (Lh Z0 M CK a P aQ A o' e Z T s _ (bl (bl h)) X r Y R he) λv aM aW val1 s1 q1 p1=>?_) (λov iv new=>by
   have h:=br h;cases sl<;>first | rfl | exact(cZ h).elim)
  refine sB (Lh Z0 M CK i P aQ A sl e aW aM s1 _ (br (bl h)) X r (Y.on p1) p1.rel q1) λv2 aJ bB bI s2 q2 p2=>?_;obtain⟨u,hu,q2⟩:=wo q2;refine sB (FY (Q:=λv h=>v=u/\h=aJ) Z0.con p2.rel (p1.val.mono p2.ext.old) p2.val (by rw[hu];exact⟨rfl,rfl⟩)) λv3 σ3 ρ3 val3 s3 q3 p3=>?_;obtain⟨rfl,rfl⟩:=q3;refine sB (Lh Z0 M CK c P aQ A val e ρ3 σ3 s3 _ (br hc) X r (((Y.on p1).on p2).on p3) p3.rel q2) λv4 σ4 ρ4 val4 s4 q4 p4=>?_;refine sB (A9 q4 p4.rel (p3.val.mono p4.ext.old) p4.val) λv5 σ5 ρ5 val5 s5 q5 p5=>?_;exact goU (yc p5.rel ((((p1.val.mono p2.ext.old).mono p3.ext.old).mono p4.ext.old).mono p5.ext.old) (((p2.val.mono p3.ext.old).mono p4.ext.old).mono p5.ext.old) p5.val q5) λz v6 σ6 ρ6 s6 q6 p6=>
   ⟨.next,e,σ6,ρ6,q6,(((((p1.trans p2).trans p3).trans p4).trans p5).trans p6).toS Y,trivial⟩
def Sh(h:VR Z v val)(q:okU v X):X/\∀a,val≠.ref a:=by
 cases v<;>first | exact(q:False).elim | exact⟨q,λa e=>by subst e;exact h⟩
def Om(Z0:BJ K KF B mg mb)(M:K.aV)(CK:qB aR w K B d)(c:E):Ce aR w K KF B mg mb d (.expr c):=by
 exact λP aQ A st e Z T s Q hc hin X r Y R he=>by
  refine Tl hc λval pos hc=>?_;have hi:interactive aQ=false:=by unfold interactive;rw[X.kind];rfl
  refine wpAny_Expr (sB (Lh Z0 M CK c P aQ A val e Z T s _ (bl hc) X r Y R he) λv aM aW val1 s1 q p=>?_) hi (RG (nt (br hc)) U pos.line);obtain⟨q,h⟩:=Sh p.val q;cases val1<;>first | exact cG rfl (h _) | exact⟨.next,e,aM,aW,q,p.toS Y,trivial⟩
def Q1(Z0:BJ K KF B mg mb)(M:K.aV)(CK:qB aR w K B d)(c:E):Ce aR w K KF B mg mb d (.ret c):=by
 exact λP aQ A st e Z T s Q hc hin X r Y R he=>by
  refine Yk hc λo pos hc=>?_;cases o with
  | some val=>exact wpAny_Return_some (sB (Lh Z0 M CK c P aQ A _ e Z T s _ hc X r Y R he) λv aM aW val1 s1 q p=>⟨.ret v,e,aM,aW,q,p.toS Y,p.val⟩)
  | none=>
   cases IY hc;exact wpAny_Return_none ⟨.ret .none,e,T,Z,he,.same R Y,trivial⟩
def R0(Z0:BJ K KF B mg mb)(M:K.aV)(CK:qB aR w K B d)(c:E)(sa:BZ aR w K KF B mg mb d a)(sb:BZ aR w K KF B mg mb d b):Ce aR w K KF B mg mb d (.ite c a b):=λP aQ A st e Z T s Q hc hin X r Y R he=>by
 refine Xo hc λt x y pos hc=>?_;refine wpAny_If (V3 (XB Z0 M CK c P aQ A _ e Z T s _ (bl (bl (bl hc))) (br (bl (bl hc))) X r Y R he) λt aM aW s1 q p=>?_);have pS:=p.toS Y;cases t with
 | true=>exact upS pS (sa P aQ A _ e aW aM s1 Q (br (bl hc)) hin X r pS.bG p.rel (q.1 rfl))
 | false=>exact upS pS (sb P aQ A _ e aW aM s1 Q (br hc) hin X r pS.bG p.rel (q.2 rfl))
def OV(Z0:BJ K KF B mg mb)(M:K.aV)(CK:qB aR w K B d)(c:E)(sb:BZ aR w K KF B mg mb d b):Ce aR w K KF B mg mb d (.loop c b):=by
 revert c;ext aR w K KF B mg mb d b;ext c;exact λP aQ A st e Z T s Q hc hin X r Y R he=>by
  refine Rx hc λtst body rr pos hc=>oN (br (bl hc)) ?_;obtain⟨n,he⟩:=he;refine wpAny_While (codeAny_whileLoop (λn s1=>∃e1 aM aW,Az n (λe h P=>ev K c e h λx h=>yb (tr x) λt=>P t h) (λe h P=>uO K b e h P) e1 aM Q/\uM P aQ B Z s e1 aM aW s1) (λn1 s1 h=>?_) n ⟨e,T,Z,he,.same R Y⟩);obtain⟨e1,aM,aW,hw,p1⟩:=h;cases n1 with
  | zero=>exact hw.elim
  | succ n1=>
   refine V3 (XB Z0 M CK c P aQ A tst e1 aW aM s1 _ (bl (bl (bl hc))) (br (bl (bl hc))) X r p1.bG p1.rel hw) λt aJ bB s2 q2 p2=>?_;have pS:=p1.trans (p2.toS p1.bG);refine zP q2 (λz q2=>?_) λz q2=>nY ⟨.next,e1,aJ,bB,q2,pS,trivial⟩;refine goS (sb P aQ A body e1 bB aJ s2 _ (br hc) hin X r pS.bG p2.rel q2) λf fl e3 σ3 ρ3 s3 q3 p3 r3=>?_;revert q3;exact EB r3 (λq3=>⟨n1,dM _,e3,σ3,ρ3,q3,pS.trans p3⟩) (λq3=>⟨.next,e3,σ3,ρ3,q3,pS.trans p3,trivial⟩) λv val r3 q3=>⟨_,e3,σ3,ρ3,q3,pS.trans p3,r3⟩
def RP{k:It}{x:V}{j:Nat}{f:V->Mine.Lake.nw->H->QS->Prop}{e:Mine.Lake.nw}{h:H}{Q:QS}{C:Prop}(z:JT K n k x j f e h Q)
  (c:∀m,m<n->(Ik (oB K k h x j) (Q .next e h) λv=>f v e h (oZ (λe h=>JT K m k x (j+1) f e h Q) Q))->C):C:=match n,z with
 | n+1,z=>c n (dM n) z
def abo{p1 p2 p3 p4 p5:α->β->γ->δ->Prop}{C:Prop}(h:∃a b c d,p1 a b c d/\p2 a b c d/\p3 a b c d/\p4 a b c d/\p5 a b c d)(f:∀a b c d,p1 a b c d->p2 a b c d->p3 a b c d->p4 a b c d->p5 a b c d->C):C:=by
 obtain⟨a,b,c,d,h1,h2,h3,h4,h5⟩:=h;exact f a b c d h1 h2 h3 h4 h5
def OM{b:Ss}(Z0:BJ K KF B mg mb)(M:K.aV)(CK:qB aR w K B d)(t:af)(it:E)(sb:BZ aR w K KF B mg mb d b):Ce aR w K KF B mg mb d (.each t it b):=by
 revert t it;ext aR w K KF B mg mb d b;ext t it;exact λP aQ A st e Z T s Q hc hin X r Y R he=>by
  refine Wt hc λtg iex body rr pos hc=>oN (br (bl hc)) ?_;have c1:=bl (bl (bl (bl hc)));refine wpAny_For (sB (Lh Z0 M CK it P aQ A iex e Z T s _ (br (bl (bl (bl hc)))) X r Y R he) λv aM aW val s1 q1 p1=>?_) (λx=>Ru (br (bl (bl hc))) aQ x);obtain⟨k,hk,htk,n,hw⟩:=MC q1;refine nG (DM Z0.con p1.rel p1.val hk) (λitv s2 h2=>h2.elim λita h2=>?_) λz z x=>x.elim;rw[h2.1];have Bg:=h2.2.1;have p2:vQ B aW s1 aM v aW val s2:=⟨.refl _ _,p1.rel.out (λi p hp=>⟨λo g=>Bg.keep _ _ g,λo g=>Bg.keep _ _ g⟩) λb o g=>Bg.keep _ _ (p1.rel.base b o g),λb o g z=>Bg.keep b o g,p1.val,h2.2.2.1,h2.2.2.2⟩
  have f1:=p1.rel.fresh Bg.fresh;have hits:=p1.bE Bg.fresh;have nF:¬V8 aQ ita:=λf=>(Y.alive f).elim λo ho=>sn ho hits;refine codeAny_forLoop_any (λn s3=>∃j e3 σ3 ρ3,JT K n k v j (λv e h P=>tL K t v e h λe h=>uO K b e h P) e3 σ3 Q/\uM P aQ B Z s e3 σ3 ρ3 s3/\AM s3.heap ita val j k/\VR ρ3 v val/\B1 ρ3 ita) (λn1 s3 I=>abo I λj e3 σ3 ρ3 hw p3 I3 hv3 o3=>?_) n
   ⟨0,e,aM,aW,hw,(p1.trans p2).toS Y,Bg.ok,p1.val,f1.1⟩
  refine RP hw λn' hn hw=>Nk r.1 Z0.con p3.rel hv3 I3 hw (λs4 hs g o hw=>nY ⟨.next,e3,σ3,ρ3,hw,p3.but hs hits o3 f1.2 nF g o,trivial⟩) λs4 u uv hs g o hu I4 hw=>?_;have p4:=p3.but hs hits o3 f1.2 nF g o;refine Qi c1 htk I4 (λis ht=>?_) ?_
  .subst ht;obtain⟨vs,q,_⟩:=ML hw;obtain⟨a,_,h,_⟩:=DX Z0.con p4.rel hu q;exact⟨a,h⟩
  .refine TM (xc Z0 M CK X hin r p4.bG p4.rel c1 hu hw) λz e5 σ5 ρ5 s5 q5 p5=>?_;have o5:=I4.alive.elim λoi hoi=>o3.ext p5.ext hoi;have I5:=I4.at_ λo g=>p5.keep _ _ g o3 nF;have p45:=p4.trans p5;refine goS (sb P aQ A body e5 ρ5 σ5 s5 _ (br hc) hin X r p5.bG p5.rel q5) λf fl e6 σ6 ρ6 s6 q6 p6 r6=>?_;revert q6;exact EB r6 (λq6=>⟨n',hn,j+1,e6,σ6,ρ6,q6,p45.trans p6,I5.at_ λo g=>p6.keep _ _ g o5 nF,(hv3.mono p5.ext.old).mono p6.ext.old,I5.alive.elim λoi hoi=>o5.ext p6.ext hoi⟩)
    (λq6=>⟨.next,e6,σ6,ρ6,q6,p45.trans p6,trivial⟩) λv val r6 q6=>⟨_,e6,σ6,ρ6,q6,p45.trans p6,r6⟩
def R7:Ce aR w K KF B mg mb d .brk:=λP aQ A st e Z T s Q hc hin X r Y R he=>
 XL (C:=λst=>nr (model aR w) A (exec st aQ) (LS P aQ B Z s Q) qD s) hc λz=>wpAny_Break ⟨.brk,e,T,Z,he,.same R Y,trivial⟩
def Po:BZ aR w K KF B mg mb d .nil:=λP aQ A xs e Z T s Q hc hin X r Y R he=>
 oN (C:=λxs=>nr (model aR w) A (execs xs aQ) (LS P aQ B Z s Q) qD s) hc (nY ⟨.next,e,T,Z,he,.same R Y,trivial⟩)
def K8(sa:Ce aR w K KF B mg mb d a)(sb:BZ aR w K KF B mg mb d b):BZ aR w K KF B mg mb d (.cons a b):=λP aQ A xs e Z T s Q hc hin X r Y R he=>by
 refine n9 hc λx xs hc=>?_;refine wpAny_execs_cons (goS (sa P aQ A x e Z T s _ (bl hc) hin X r Y R he) λf fl e1 aM aW s1 q p r1=>?_);revert q;exact EB r1 (λq=>upS p (sb P aQ A xs e1 aW aM s1 Q (br hc) hin X r p.bG p.rel q)) (λq=>⟨.brk,e1,aM,aW,q,p,trivial⟩) λv val r1 q=>⟨_,e1,aM,aW,q,p,r1⟩
mutual
theorem aay(Z0:BJ K KF B mg mb)(M:K.aV)(CK:qB aR w K B d):∀c:S,Ce aR w K KF B mg mb d c
 | .assign t c=>I9 Z0 M CK t c
 | .aug (.loc i) o c=>Os Z0 M CK i o c
 | .aug (.tup is) o c=>λz z z z z z z z z z z z z z z he=>he.elim
 | .aug (.attr a n) o c=>Oo Z0 M CK a n o c
 | .aug (.sub a i) o c=>OB Z0 M CK a i o c
 | .expr c=>Om Z0 M CK c
 | .ret c=>Q1 Z0 M CK c
 | .ite c a b=>R0 Z0 M CK c (Gu Z0 M CK a) (Gu Z0 M CK b)
 | .loop c b=>OV Z0 M CK c (Gu Z0 M CK b)
 | .each t it b=>OM Z0 M CK t it (Gu Z0 M CK b)
 | .brk=>R7
 | .fail=>λz z z z z z z z z z z z z z z he=>he.elim
theorem Gu(Z0:BJ K KF B mg mb)(M:K.aV)(CK:qB aR w K B d):∀c:Ss,BZ aR w K KF B mg mb d c
 | .nil=>Po
 | .cons a b=>K8 (aay Z0 M CK a) (Gu Z0 M CK b)
end
end
end
section
open PySem PySem.W PyProof.Rows PySem.SeqAt
abbrev Rok(B:Heap)(Z:th)(s:ni)(Q:V->H->Prop)(r:Result)(s':ni):Prop:=match r with
 | .ok (.ret v)=>Bk B Z s Q v s'
 | _=>False
abbrev KO(aR:nJ)(w:dq)(B:Heap)(con:Nat->Option O)(d:Nat):pK where
 con:=con
 call:=λf vs T Q=>∀A Z s aF,uk A d->pu B Z T s.heap->qS Z vs aF->codeAny (model aR w) A (.call (.ref f) ⟨aF,[]⟩) (Rok B Z s Q) s
def Wb(aR:nJ)(w:dq)(B:Heap)(con:Nat->Option O)(d:Nat):qB aR w (KO aR w B con d) B d:=λf vs T Q h A Z s aF r R m=>
 wpAny_call (codeAny_mono (h A Z s aF r R m) λr s' z=>by rcases r with e | (v | _ | _ | _)<;>first | exact z | exact(z:False).elim)
def MJ(aR:nJ)(w:dq)(B:Heap)(con:Nat->Option O)(d:Nat):(KO aR w B con d).aV:=λf vs T Q Q' m h A Z s aF r R x=>
 codeAny_mono (h A Z s aF r R x) λr s' z=>by rcases r with e | (v | _ | _ | _)<;>first | exact(z:False).elim | exact Bk.mono m z
structure Fn where
 na:Nat
 gs:List (Option Nat)
 body:Ss
abbrev qI:List (Str × nB)->Bool
 | []=>true
 | y::r=>(Cb y.1 r).isNone&&qI r
abbrev yh:List Arg->List (Str × nB)->Bool
 | [],_=>true
 | a::as,l=>oU l λy r=>oT a.arg y.1&&FL y.2&&yh as r
abbrev gOk(GT:List (Str × GV))(g:Option Nat)(y:Str × nB):Bool:=vv g true λj=>decide (y.2= .globalImplicit)&&vv GT[j]? false λp=>oT y.1 p.1
abbrev UN(GT:List (Str × GV)):List (Option Nat)->List (Str × nB)->Bool
 | [],_=>true
 | g::gs,l=>oU l λy r=>gOk GT g y&&UN GT gs r
abbrev Fn.pm(GT:List (Str × GV))(ft:List Nat)(f:Fn)(sc:nR):Pm:=⟨sc.names,f.gs.map λo=>o.bind λj=>(GT[j]?).map (·.2),ft,U⟩
abbrev CS(p:n3):Bool:=p.posonlyargs.isEmpty&&p.kwonlyargs.isEmpty&&p.vararg.isNone&&p.kwarg.isNone
abbrev RR(GT:List (Str × GV))(ft:List Nat)(f:Fn)(p:n3)(sc:nR)(body:List Stmt):Bool:=
 decide (sc.kind= .function)&& !sc.isGenerator&& !sc.isCoroutine&&CS p&&qI sc.names&&sc.names.all (λy=> !dbg y.1)&&(p.args.length == f.na)&&yh p.args sc.names&&UN GT f.gs sc.names&&BO (f.pm GT ft sc) f.body body
def rY:∀{l:List (Str × nB)},qI l=true->∀{i:Nat} {x:Str} {k:nB},l[i]? =J (x,k)->l.lookup x=J k
 | [],_,_,_,_,h=>nomatch h
 | y::r,hd,0,x,k,h=>by
  cases h;show(match x == x with | true=>J k | false=>r.lookup x)=J k;rw[beq_self_eq_true]
 | y::r,hd,i+1,x,k,h=>by
  have ih:=rY (br hd) (i:=i) h;rw[d6];cases q:x == y.1 with
  | false=>exact ih
  | true=>exact sn (((uQ _ _).trans (cF (r.lookup ·) (cH q).symm)).trans ih) (eh.mp (bl hd))
def HG{r:List (Str × nB)}(hd:qI (y::r)=true){m:Nat}{x:Str}{k:nB}{C:Prop}(h:r[m]? =J (x,k))(e:x=y.1):C:=
 sn ((uQ _ _).trans ((cF (r.lookup ·) e.symm).trans (rY (br hd) h))) (eh.mp (bl hd))
def Kh:∀{l:List (Str × nB)},qI l=true->∀{i j:Nat} {x:Str} {k k':nB},l[i]? =J (x,k)->l[j]? =J (x,k')->i=j
 | [],_,_,_,_,_,_,h,_=>nomatch h
 | _::_,_,0,0,_,_,_,_,_=>rfl
 | _::_,hd,0,j+1,_,_,_,h,h'=>HG hd h' (cF kH (cI h)).symm
 | _::_,hd,i+1,0,_,_,_,h,h'=>HG hd h (cF kH (cI h')).symm
 | _::_,hd,i+1,j+1,_,_,_,h,h'=>cF (·+1) (Kh (br hd) (i:=i) (j:=j) h h')
def V2:∀{gs:List (Option Nat)} {l:List (Str × nB)},UN GT gs l=true->∀{i j:Nat},gs[i]? =J (J j)->∃x p,l[i]? =J (x,.globalImplicit)/\GT[j]? =J p/\x=p.1
 | [],_,_,_,_,h=>nomatch h
 | g::gs,l,hg,0,j,h=>n9 (C:=λl=>∃x p,l[0]? =J (x,jM)/\GT[j]? =J p/\x=p.1) hg λy r hg=>by
  cases h;have hg:(decide (y.2= .globalImplicit)&&vv GT[j]? false λp=>oT y.1 p.1)=true:=bl hg;have h2:=br hg;cases e:GT[j]? with
  | none=>rw[e] at h2;exact nomatch h2
  | some p=>rw[e] at h2;exact⟨y.1,p,cF J (iG rfl (b9 (bl hg))),rfl,oW h2⟩
 | g::gs,l,hg,i+1,j,h=>n9 (C:=λl=>∃x p,l[i+1]? =J (x,jM)/\GT[j]? =J p/\x=p.1) hg λy r hg=>V2 (br hg) (i:=i) h
def GO:∀{as:List Arg} {l:List (Str × nB)},yh as l=true->∀{j:Nat} {a:Arg},as[j]? =J a->∃k,l[j]? =J (a.arg,k)/\FL k=true
 | [],_,_,_,_,h=>nomatch h
 | c::as,l,hp,0,a,h=>n9 (C:=λl=>∃k,l[0]? =J (a.arg,k)/\FL k=true) hp λy r hp=>⟨y.2,cF J (iG ((oW (bl (bl hp))).symm.trans (cF Arg.arg (cI h))) rfl),br (bl hp)⟩
 | c::as,l,hp,j+1,a,h=>n9 (C:=λl=>∃k,l[j+1]? =J (a.arg,k)/\FL k=true) hp λy r hp=>GO (br hp) (j:=j) h
def Mx{l:List (Str × nB)}{as:List Arg}(hd:qI (y::l)=true)(hp:yh as l=true){b:Arg}(hb:b∈as):b.arg≠y.1:=λq=>by
 obtain⟨j,hj⟩:=iU hb;obtain⟨k,h,_⟩:=GO hp hj;exact HG hd h q
def Ev:∀{as:List Arg} {l:List (Str × nB)} {aF:List nf},qI l=true->yh as l=true->∀p∈(as.map (·.arg)).zip aF,((as.map (·.arg)).zip aF).lookup p.1=J p.2
 | [],_,_,_,_,_,hm=>nomatch hm
 | _::_,_,[],_,_,_,hm=>nomatch hm
 | a::as,l,v::aF,hd,hp,p,hm=>n9 (C:=λl=>qI l=true->List.lookup p.1 ((a.arg,v)::(as.map (·.arg)).zip aF)=J p.2) hp (λy r hp hd=>by
  rw[d6];cases q:p.1 == a.arg with
  | true=>
   cases hm with
   | head=>rfl
   | tail _ hm=>
    obtain⟨b,hb,e⟩:=d7.mp (List.of_mem_zip (a:=p.1) (b:=p.2) hm).1;exact cG (e.trans ((cH q).trans (oW (bl (bl hp))))) (Mx hd (br hp) hb)
  | false=>
   cases hm with
   | head=>exact nomatch (beq_self_eq_true a.arg).symm.trans q
   | tail _ hm=>exact Ev (br hd) (br hp) p hm) hd
def zm{L:List (Str × nf)}:∀{ns:List Str} {aF:List nf},ns.length=aF.length->(∀p∈ns.zip aF,L.lookup p.1=J p.2)->(ns.filterMap λn=>(L.lookup n).map (n,·))=ns.zip aF
 | [],_,_,_=>rfl
 | _::_,[],hl,_=>nomatch hl
 | n::ns,v::aF,hl,h=>by
  rw[List.filterMap_cons,h (n,v) (.head _)];exact cF ((n,v)::·) (zm (gu hl) λp hp=>h p (.tail _ hp))
def FH{as:List Arg}{aF:List nf}(hd:qI l=true)(hp:yh as l=true)(hl:as.length=aF.length):
  ((as.map (·.arg)).filterMap λn=>(((as.map (·.arg)).zip aF).lookup n).map (n,·))=(as.map (·.arg)).zip aF:=zm ((bj _).trans hl) (Ev hd hp)
def RW{l:List α}{s:β}{f:α->β->Sem (ForInStep β)}{g:β->Sem γ}(h:l=[]):(forIn l s f >>= g)=g s:=by subst h;rfl
def SW(x:List α)(n:Nat):x.zip (List.drop n ([]:List β))=[]:=by rw[List.drop_nil,List.zip_nil_right]
def Jv{fd:FuncData}{aF:List nf}{l:List (Str × nB)}(h:CS fd.params=true)(hd:fd.defaults= .none)(hl:fd.params.args.length=aF.length)(dl:qI l=true)(hp:yh fd.params.args l=true):
  bindArgs fd ⟨aF,[]⟩=pure ((fd.params.args.map (·.arg)).zip aF):=by
 ext fd aF l;obtain⟨nm,qn,⟨po,as,va,ko,kd,kw,df⟩,bd,sc,gl,cl,dfl,kdf,doc,pm,an,cd,ct,bt⟩:=fd;dsimp only at*;subst hd;unfold CS at h;simp only[ax,jK,eh] at h;obtain⟨⟨⟨rfl,rfl⟩,rfl⟩,rfl⟩:=h;have fz:=FH dl hp hl;have e:(as.map (·.arg)).length=aF.length:=(bj _).trans hl;have miss:∀k,((as.map (·.arg)).take k).filter (λn=>(((as.map (·.arg)).zip aF).lookup n).isNone)=[]:=λk=>by
  refine List.filter_eq_nil_iff.mpr λn hn q=>?_;have hn:=g9 hn;rw[<- List.map_fst_zip (hJ e),<-fz] at hn;obtain⟨p,hm,rfl⟩:=d7.mp hn;obtain⟨m,_,h2⟩:=List.mem_filterMap.mp hm;obtain⟨v,g,rfl⟩:=dg.mp h2;rw[g] at q;exact nomatch q
 refine Eq.trans (b:=ite ((decide (aF.length>(([]:List Arg).map (·.arg)++as.map (·.arg)).length)&&(U:Option Arg).isNone)=true) _ _) rfl ((cD ?_).trans ?_)
 .show ¬((decide ((as.map (·.arg)).length<aF.length)&&true)=true);rw[e,cz (eU _)];exact cZ
 refine(cD ?_).trans ((RW (SW _ _)).trans ?_)
 .show ¬((!(((as.map (·.arg)).take _).filter (λn=>(((as.map (·.arg)).zip aF).lookup n).isNone)).isEmpty)=true);rw[miss];exact cZ
 show(Pure.pure (List.filterMap (λn=>(((as.map (·.arg)).zip aF).lookup n).map (n,·)) (as.map (·.arg)++[])):Sem _)=_;rw[cN,fz]
end
section
open PySem PySem.W PyProof.Rows PySem.SeqAt
abbrev sX(n:Nat):V->Prop
 | .ref i=>i<n
 | _=>True
abbrev ZZ(n:Nat):O->Prop
 | .list xs=>∀x∈xs,sX n x
 | .tup xs=>∀x∈xs,sX n x
 | .inst _ fs=>∀p∈fs,sX n p.2
 | .aT _ _ _=>True
abbrev oY(n:Nat)(T:H):Prop:=∀o∈T,ZZ n o
abbrev Ret(n0:Nat)(v:V)(aK:H)(Q:V->H->Prop):Prop:=
 Q v aK\/(∃τ b8,aK=τ++b8/\n0<=τ.length/\oY τ.length τ/\sX τ.length v/\Q v τ)\/
 (∃τ b8 k o,aK=τ++b8/\v= .ref (τ.length+k)/\b8[k]? =J o/\ZZ τ.length o/\n0<=τ.length/\oY τ.length τ/\Q (.ref τ.length) (τ++[o]))
abbrev qN(n0:Nat)(Q:V->H->Prop):QS
 | .next,_,aK=>Ret n0 .none aK Q
 | .ret v,_,aK=>Ret n0 v aK Q
 | .brk,_,_=>False
structure ZX (B:Heap) (f:Addr) (params:n3) (sc:nR) (body:List Stmt):Prop where
 at_:∃o fd,B.get? f=J o/\o.data= .func fd/\fd.params=params/\fd.body= .stmts body/\fd.scope=sc/\fd.globals=mainGlobals/\fd.builtins=builtinsNs/\fd.closure=[]/\fd.defaults= .none/\B.CodeRec fd.code fd.qualname
section
variable{aR:nJ}{w:dq}{K:pK}{KF:Frag}{B:Heap}{mg mb:Str->Option nf}{d:Nat}{con:Nat->Option O}
variable{A:nL}{aQ:ez}{P:Pm}{e e' e'':Mine.Lake.nw}{Z aL ρ'':th}{T aK σ'':H}{s s' s'':ni}{Q:V->H->Prop}
def VR.lt(h:VR Z v val):sX Z.length v:=by
 cases v<;>first | trivial | skip
 cases val<;>first | exact h.elim | skip
 obtain⟨d,e⟩:=h;exact f0 e
def qS.lt(m:qS Z xs vs):∀x∈xs,sX Z.length x:=by
 induction m with
 | nil=>intro x hx;cases hx
 | cons a _ ih=>intro x hx;cases hx with
  | head=>exact a.lt
  | tail _ hx=>exact ih x hx
def G7.lt(m:G7 Z fs es):∀p∈fs,sX Z.length p.2:=by
 induction m with
 | nil=>intro x hx;cases hx
 | cons _ _ a _ ih=>intro x hx;cases hx with
  | head=>exact a.lt
  | tail _ hx=>exact ih x hx
def pu.closed(R:pu B Z T s.heap):oY T.length T:=by
 ext B Z T s;intro o ho;obtain⟨i,hi⟩:=iU ho;have l:=f0 hi;have h:=R.at_ i _ o (a7 (by rw[R.len];exact l)) hi;rw[<- R.len];cases o with
 | list xs=>obtain⟨_,vs,n,_,m⟩:=h;exact m.lt
 | tup xs=>obtain⟨_,vs,_,m⟩:=h;exact m.lt
 | inst c fs=>obtain⟨_,_,es,n,_,m⟩:=h;exact m.lt
 | aT _ _ _=>trivial
def VR.take(h:VR Z v val)(l:sX n v):VR (Z.take n) v val:=by
 cases v<;>cases val<;>first | exact h | skip
 obtain⟨d,e⟩:=h;exact⟨d,by rw[eO l];exact e⟩
def qS.take'(m:qS Z xs vs)(l:∀x∈xs,sX n x):qS (Z.take n) xs vs:=by
 induction m with
 | nil=>exact .nil
 | cons a _ ih=>exact .cons (a.take (l _ (.head _))) (ih λx hx=>l x (.tail _ hx))
def G7.take'(m:G7 Z fs es)(l:∀p∈fs,sX n p.2):G7 (Z.take n) fs es:=by
 induction m with
 | nil=>exact .nil
 | cons a b c _ ih=>exact .cons a b (c.take (l _ (.head _))) (ih λx hx=>l x (.tail _ hx))
def OR.take{a d n:Nat}{o:O}(x:OR Z h a d o)(l:ZZ n o):OR (Z.take n) h a d o:=by
 ext Z h a d n o;cases o with
 | list xs=>obtain⟨e,vs,k,g,m⟩:=x;exact⟨e,vs,k,g,m.take' l⟩
 | tup xs=>obtain⟨e,vs,g,m⟩:=x;exact⟨e,vs,g,m.take' l⟩
 | inst c fs=>obtain⟨e,g,es,k,g2,m⟩:=x;exact⟨e,g,es,k,g2,m.take' l⟩
 | aT _ _ _=>exact x
def vH(e:(Z.take n)[i]? =J p):i<n/\Z[i]? =J p:=by
 ext Z n i p;have l:=f0 e;rw[dC] at l;have:i<n:=by lia
 rw[eO this] at e;exact⟨this,e⟩
def pu.take(R:pu B Z (τ++b8) h)(c:oY τ.length τ):pu B (Z.take τ.length) τ h:=by
 have hl:=R.len;rw[a6] at hl;refine⟨by rw[dC];lia,λi p o e1 e2=>?_,λi j p q e1 e2 ne=>R.sep i j p q (vH e1).2 (vH e2).2 ne,λi p e=>R.hi i p (vH e).2,R.base⟩;have l:=f0 e2;exact(R.at_ i p o (vH e1).2 (by rw[ar l];exact e2)).take (c o (dB e2))
def Gn(p:vQ B Z s aK v aL val s')(q:Ret Z.length v aK Q):Bk B Z s Q val s':=by
 ext B Z aL aK s s' Q v val;rcases q with q | ⟨τ,b8,rfl,hn,hc,hv,q⟩ | ⟨τ,b8,k,o,rfl,rfl,hk,ho,hn,hc,q⟩
 .exact Bk.at_ p q
 .refine⟨v,τ,q,aL.take τ.length,⟨λi pp e=>?_,λi pp hi e=>p.ext.new i pp hi (vH e).2⟩,p.rel.take hc,p.keep,p.val.take hv,p.gens,p.os⟩;rw[eO (cM (f0 e) hn)];exact p.ext.old i pp e
 ext τ b8 k o
 .obtain⟨a,d,rfl,ha⟩:=p.val.bf;ext a d;have hidx:(τ++b8)[τ.length+k]? =J o:=by rw[cQ (by lia)];simpa using hk
  have OA:=p.rel.at_ _ _ o ha hidx;have sp:=p.rel.sep;have tl:(aL.take τ.length).length=τ.length:=by
   have:=p.rel.len;rw[a6] at this;rw[dC];lia
  have grow:∀(i:Nat) (pp:Addr × Addr),(aL.take τ.length)[i]? =J pp->(aL.take τ.length++[(a,d)])[i]? =J pp:=λi pp e=>uH e;have back:∀(i:Nat) (pp:Addr × Addr),(aL.take τ.length++[(a,d)])[i]? =J pp->(i<τ.length/\aL[i]? =J pp)\/(i=τ.length/\pp=(a,d)):=λi pp e=>by
   rcases sJ e with e | ⟨h1,h2⟩
   .exact .inl (vH e)
   .exact .inr ⟨by rw[h1,tl],h2⟩
  have RT:=p.rel.take hc;refine⟨.ref τ.length,τ++[o],q,aL.take τ.length++[(a,d)],⟨λi pp e=>?_,λi pp hi e=>?_⟩,⟨by rw[a6,a6,tl];rfl,λi pp o' e1 e2=>?_,λi j pp qq e1 e2 ne=>?_,λi pp e=>?_,p.rel.base⟩,p.keep,⟨d,by have:=ui (aL.take τ.length) (a,d);rw[tl] at this;exact this⟩,p.gens,p.os⟩
  .refine grow i pp ?_;rw[eO (cM (f0 e) hn)];exact p.ext.old i pp e
  .rcases back i pp e with⟨_,h⟩ | ⟨rfl,rfl⟩
   .exact p.ext.new i pp hi h
   .exact p.ext.new _ _ (by lia) ha
  .rcases back i pp e1 with⟨h1,h2⟩ | ⟨rfl,rfl⟩
   .have e2':τ[i]? =J o':=by rw[ar h1] at e2;exact e2
    exact(RT.at_ i pp o' (by rw[eO h1];exact h2) e2').keep grow (λw g=>g) λw g=>g
   .have:o'=o:=by
     have z:=ui τ o;rw[e2] at z;exact cI z
    subst this;exact(OA.take ho).keep grow (λw g=>g) λw g=>g
  ext i j pp qq
  .rcases back i pp e1 with⟨h1,h2⟩ | ⟨rfl,rfl⟩<;>rcases back j qq e2 with⟨h3,h4⟩ | ⟨rfl,rfl⟩
   .exact sp i j pp qq h2 h4 ne
   .exact sp i _ pp _ h2 ha (by lia)
   .exact sp _ j _ qq ha h4 (by lia)
   .exact cG rfl ne
  .rcases back i pp e with⟨_,h⟩ | ⟨rfl,rfl⟩
   .exact p.rel.hi i pp h
   .exact p.rel.hi _ _ ha
def uk.deeper(r:uk A (d+1))(aQ:ez):uk (A.deeper aQ) d:=by
 revert aQ;ext d A;obtain⟨h1,h2,h3⟩:=r;refine⟨h1,?_,?_⟩
 .show A.depth+1+4*d<1000;lia
 .show A.units+3+40*d+200<cLine;lia
end
end
section
open PySem PySem.W PyProof.Rows PySem.SeqAt
section
variable{aR:nJ}{w:dq}{KF:Frag}{B:Heap}{mg mb:Str->Option nf}{d:Nat}{con:Nat->Option O}{GT:List (Str × GV)}{ft:List Nat}
variable{A:nL}{e:Mine.Lake.nw}{Z aL:th}{T aK:H}{s s':ni}{Q:V->H->Prop}
structure Pb (aR:nJ) (w:dq) (con:Nat->Option O) (KF:Frag) (B:Heap) (mg mb:Str->Option nf) (GT:List (Str × GV)) (ft:List Nat):Prop where
 con:∀a o,con a=J o->CR B a o
 bV:KF.In B
 cls:W3 KF
 g:B.Ns mainGlobals mg
 b:B.Ns builtinsNs mb
 nl:B.NoLimit
 gt:∀p∈GT,TC mg mb p.1 p.2/\(p.1 == ("__debug__" :Str))=false
 ft:∀f∈ft,keepIn KF (.ref f)=true
def Pb.sta(af:Pb aR w con KF B mg mb GT ft)(d:Nat):BJ (KO aR w B con d) KF B mg mb:=⟨af.con,af.bV,af.cls,af.g,af.b⟩
abbrev oP(n:Nat)(vs:List V):Mine.Lake.nw:=vs.map J++cW (n+1 - vs.length) U
def Io(h:(oP n vs)[i]? =J (J v)):i<vs.length/\vs[i]? =J v:=by
 ext n vs i v;unfold oP at h;by_cases l:i<vs.length
 .rw[ar (by simpa using l),cV] at h;refine⟨l,?_⟩;cases q:vs[i]? with
  | none=>rw[q] at h;cases h
  | some u=>rw[q] at h;simp only[mF,jy] at h;rw[h]
 .rw[cQ (by simpa using l)] at h;have:=dB h;rw[List.mem_replicate] at this;cases this.2
def JD(kindOf:Str->Option nB):∀(as:List Arg) (l:List (Str × nB)) (aF:List nf) (m cm:Str->Option nf),qI l=true->yh as l=true->as.length=aF.length->
  (∀(j:Nat) (a:Arg) (v:nf),as[j]? =J a->aF[j]? =J v->(kindOf a.arg=J .local->bindL kindOf ((as.map (·.arg)).zip aF) m a.arg=J v)/\(kindOf a.arg≠J .local->bindC kindOf ((as.map (·.arg)).zip aF) cm a.arg=J v))/\
  (∀x,(∀a∈as,a.arg≠x)->bindL kindOf ((as.map (·.arg)).zip aF) m x=m x/\bindC kindOf ((as.map (·.arg)).zip aF) cm x=cm x)
 | [],l,aF,m,cm,hd,hp,hl=>⟨λj a v h=>(by cases h),λx w=>(by cases aF<;>exact⟨rfl,rfl⟩)⟩
 | a::as,[],aF,m,cm,hd,hp,hl=>nomatch hp
 | a::as,y::l,[],m,cm,hd,hp,hl=>nomatch hl
 | a::as,y::l,v::aF,m,cm,hd,hp,hl=>by
  have hp:(oT a.arg y.1&&FL y.2&&yh as l)=true:=hp;have ea:=oW (bl (bl hp));have hne:∀b∈as,b.arg≠a.arg:=λb hb=>ea▸Mx hd (br hp) hb;obtain⟨ih1,ih2⟩:=JD kindOf as l aF (if kindOf a.arg=J .local then λy=>if y=a.arg then J v else m y else m) (if kindOf a.arg=J .local then cm else λy=>if y=a.arg then J v else cm y) (br hd) (br hp) (gu hl);refine⟨λj b u hj hu=>?_,λy hy=>?_⟩
  .simp only[dw,ly];unfold bindL bindC;cases j with
   | zero=>
    cases hj;cases hu;have z:=ih2 a.arg hne;refine⟨λhk=>?_,λhk=>?_⟩
    .rw[z.1,cC hk];simp
    .rw[z.2,cD hk];simp
   | succ j=>exact ih1 j b u hj hu
  .simp only[dw,ly];unfold bindL bindC;have z:=ih2 y λb hb=>hy b (.tail _ hb);have ny:y≠a.arg:=dQ (hy a (.head _));rw[z.1,z.2];constructor
   .split<;>simp [ny]
   .split<;>simp [ny]
structure FnS (GT:List (Str × GV)) (ft:List Nat) (f:Fn) (p:n3) (sc:nR) (body:List Stmt):Prop where
 kind:sc.kind= .function
 gen:sc.isGenerator=false
 co:sc.isCoroutine=false
 args:CS p=true
 dist:qI sc.names=true
 dbg:∀y∈sc.names,(y.1 == ("__debug__" :Str))=false
 len:p.args.length=f.na
 pre:yh p.args sc.names=true
 gs:UN GT f.gs sc.names=true
 body:BO (f.pm GT ft sc) f.body body=true
def Pu(h:RR GT ft f p sc body=true):FnS GT ft f p sc body where
 kind:=b9 (bl (bl (bl (bl (bl (bl (bl (bl (bl h)))))))))
 gen:=nt (br (bl (bl (bl (bl (bl (bl (bl (bl h)))))))))
 co:=nt (br (bl (bl (bl (bl (bl (bl (bl h))))))))
 args:=br (bl (bl (bl (bl (bl (bl h))))))
 dist:=br (bl (bl (bl (bl (bl h)))))
 dbg:=λy hy=>(vB _ _).symm.trans (nt (cK.mp (br (bl (bl (bl (bl h))))) y hy))
 len:=cH (br (bl (bl (bl h))))
 pre:=br (bl (bl h))
 gs:=br (bl h)
 body:=br h
def Tb{p:n3}{sc:nR}{body:List Stmt}{fd:FuncData}(af:Pb aR w con KF B mg mb GT ft)(F:FnS GT ft f p sc body)(hs:fd.scope=sc)(hg:fd.globals=mainGlobals)(hb:fd.builtins=builtinsNs)(L a:Addr):
  uN KF mg mb (f.pm GT ft sc) (callEnvC fd L a):=by
 subst hs;have ek:∀x,(callEnvC fd L a).kindOf x=fd.scope.names.lookup x:=λx=>rfl;have nm:∀{i:Nat} {x:Str},(f.pm GT ft fd.scope).nm[i]? =J x->∃k,fd.scope.names[i]? =J (x,k):=λ{i x} h=>
  (dg.mp ((cV (f:=(·.1)) (l:=fd.scope.names) (i:=i)).symm.trans (show(fd.scope.names.map (·.1))[i]? =J x from h))).elim λy h=>⟨y.2,h.1.trans (cF J (iG h.2 rfl))⟩
 refine⟨F.kind,hg,hb,λi x k h=>?_,λi x h=>cellsFrom_some _ _ _ (.inl (rY F.dist (vq h).1)),λi x k h z j hj=>(nm hj).elim λk' h2=>Kh F.dist h2 (vq h).1,λi x g h=>?_,af.ft⟩
 .have h:=(vq h).1;exact⟨rY F.dist h,F.dbg _ (dB h),Nn rfl h⟩
 .have q:=Ql h;obtain⟨o,q2,e⟩:=dg.mp ((cV (l:=f.gs) (i:=i)).symm.trans q.2);cases o with
  | none=>exact nomatch e
  | some j=>
   obtain⟨x',pp,g1,g2,g3⟩:=V2 F.gs q2;have e:(GT[j]?).map (·.2)=J g:=e;rw[g2] at e;have ex:x=pp.1:=(cF kH (ss q.1 g1)).trans g3;have t:=af.gt pp (dB g2);exact⟨rY F.dist q.1,ex▸t.2,ex▸cI e▸t.1⟩
def RQ(af:Pb aR w con KF B mg mb GT ft)(FA:ZX B a p sc body)(c:RR GT ft f p sc body=true)(hl:vs.length=f.na)(h:oY T.length T->uO (KO aR w B con d) f.body (oP sc.names.length vs) T (qN T.length Q)):(KO aR w B con (d+1)).call a vs T Q:=by
 intro A Z s aF r R m;have F:=Pu c;obtain⟨o,fd,ho,hd,hp,hbody,hs,hg,hb,hcl,hdf,hcr⟩:=FA.at_;have hs':=hs;subst hp;subst hs;have hlen:fd.params.args.length=aF.length:=by rw[F.len,<-hl,m.length]
 have hbind:=Jv F.args hdf hlen F.dist F.pre;have kindB:∀x∈(fd.params.args.map (·.arg)).zip aF,∃(j:Nat) (a:Arg) (k:nB),fd.params.args[j]? =J a/\a.arg=x.1/\fd.scope.names[j]? =J (x.1,k)/\FL k=true:=λx hx=>by
  obtain⟨j,hj⟩:=iU hx;rw[List.getElem?_zip_eq_some] at hj;obtain⟨h1,h2⟩:=hj;rw[cV] at h1;cases q:fd.params.args[j]? with
  | none=>rw[q] at h1;cases h1
  | some b=>
   rw[q] at h1;simp only[mF,jy] at h1;obtain⟨k,g1,g2⟩:=GO F.pre q;exact⟨j,b,k,q,h1,h1▸g1,g2⟩
 refine(codeAny_call_cells (fd:=fd) (by have:=r.2.1;unfold recursionLimit;lia) (R.base _ _ ho) hd (af.nl.keeps R.base) (hcr.keeps R.base) hbody hbind hcl (λx hx=>?_) (λs1 x=>?_) F.co F.gen F.kind)
 .obtain⟨j,b,k,h1,h2,h3,h4⟩:=kindB x hx;have:=rY F.dist h3;cases k<;>first | (cases h4;done) | skip
  .exact .inl this
  .exact .inr ⟨this,cellsFrom_some _ _ _ (.inl this)⟩
 .have X:=Tb af F rfl hg hb s.heap.objs.size a;have kp:=x.toInCall.keep;obtain⟨h1,tk,rfl⟩:=x.toInCall.same;dsimp only at kp;have none_up:∀{b:Addr},h1.get? b=U->s.heap.get? b=U:=λ{b} hn=>by
   cases q:s.heap.get? b with
   | none=>rfl
   | some o=>rw[kp b o q] at hn;cases hn
  have noF:∀{b:Addr},V8 (callEnvC fd s.heap.objs.size a) b->s.heap.get? b=U:=λ{b} hf=>by
   refine iT ?_;rcases hf with rfl | ⟨y,hy⟩
   .exact x.toInCall.fresh
   .exact dH (ae x.toInCall.fresh (x.above y b (nN hy)))
  have R1:pu B Z T h1:=R.out (λi p hp=>⟨λo g=>kp _ _ g,λo g=>kp _ _ g⟩) λb o g=>kp _ _ (R.base b o g);have outF:∀{b:Addr},V8 (callEnvC fd s.heap.objs.size a) b->B1 Z b/\B.get? b=U:=λ{b} hf=>R.fresh (noF hf);have slot:∀(i:Nat) (y:Str) (v:V),(f.pm GT ft fd.scope).nm[i]? =J y->(oP fd.scope.names.length vs)[i]? =J (J v)->∃b u k,fd.params.args[i]? =J b/\b.arg=y/\aF[i]? =J u/\VR Z v u/\fd.scope.names[i]? =J (y,k):=λi y v h1 h2=>by
   obtain⟨hi,hv⟩:=Io h2;obtain⟨u,g1,g2⟩:=m.get hv;have hi':i<fd.params.args.length:=by rw[F.len,<-hl];exact hi
   obtain⟨k,g3,_⟩:=GO F.pre (a7 hi');unfold Pm.nm Fn.pm at h1;dsimp only at h1;rw[cV,g3] at h1;cases h1;exact⟨fd.params.args[i],u,k,a7 hi',rfl,g1,g2,g3⟩
  have BA:=JD (callEnvC fd s.heap.objs.size a).kindOf fd.params.args fd.scope.names aF (λt=>U) (λt=>U) F.dist F.pre hlen;have Y:qp (f.pm GT ft fd.scope) (callEnvC fd s.heap.objs.size a) B Z (oP fd.scope.names.length vs) h1:=by
   refine⟨⟨_,x.toInCall.ns,λi y v g1 g2 g3=>?_⟩,λy c hc=>⟨_,x.cell y c hc,λi v g1 g2 g3=>?_⟩,outF (.inl rfl),λy c hc=>?_,λy z c h1 h2=>name_of_addr x.apart (nN h1) (nN h2)⟩
   .obtain⟨b,u,k,e1,e2,e3,e4,e5⟩:=slot i y v g1 g2;subst e2;exact⟨u,(BA.1 i b u e1 e3).1 g3,e4⟩
   .obtain⟨b,u,k,e1,e2,e3,e4,e5⟩:=slot i y v g1 g2;subst e2;exact⟨u,(BA.1 i b u e1 e3).2 (by rw[g3];exact nofun),e4⟩
   .have z:=outF (b:=c) (.inr ⟨y,hc⟩);exact⟨z.1,z.2,fc (x.above y c (nN hc))⟩
  have hb:=h R.closed;refine goS (Gu (af.sta d) (MJ aR w B con d) (Wb aR w B con d) f.body (f.pm GT ft fd.scope) (callEnvC fd s.heap.objs.size a) (A.deeper (callEnvC fd s.heap.objs.size a)) body (oP fd.scope.names.length vs) Z T {s with heap:=h1,toks:=tk} _ F.body rfl X (r.deeper _) Y R1 hb) λfl flow e2 aJ bB s2 q2 p2 r2=>?_;have fin:∀{v:V} {val:nf},VR bB v val->vQ B Z s aJ v bB val s2:=λ{v val} hv=>
   ⟨⟨p2.ext.old,λi p hi hp=>⟨none_up (p2.ext.new i p hi hp).1,none_up (p2.ext.new i p hi hp).2⟩⟩,p2.rel,λb o g n=>p2.keep b o (kp b o g) n λhf=>(by rw[noF hf] at g;cases g),hv,p2.gens,p2.os⟩
  have hn:T.length=Z.length:=R.len.symm;cases fl<;>cases flow<;>first | exact(r2:False).elim | exact(q2:False).elim | skip
  .exact Gn (fin (show VR bB .none .none from trivial)) (hn▸q2)
  .exact Gn (fin r2) (hn▸q2)
def uk.make(r:uk A (d+1))(C:Addr)(aF:List nf):uk (A.under (.builtin "type.__call__" ⟨.ref C::aF,[]⟩)) d:=by
 obtain⟨h1,h2,h3⟩:=r;refine⟨h1,?_,?_⟩
 .rw[depth_under_make];lia
 .rw[units_under_make];lia
def RJ(af:Pb aR w con KF B mg mb GT ft)(hm:makesIn KF (t8 c)=true)(hi:findIn KF (.ref (t8 c)) "__init__"=J (J (.ref fI)))(hf:typeIn KF (.ref fI)=J (.type "function"))(h:(KO aR w B con d).call fI (.ref T.length::vs) (T++[.inst c []]) λv aK=>v= .none/\Q (.ref T.length) aK):(KO aR w B con (d+1)).call (t8 c) vs T Q:=by
 intro A Z s aF r R m;have X:=af.bV.keeps R.base;obtain⟨hh,g,dr,t,os⟩:=s;refine(make_core (makes_of X hm) (looks_findIn X hi) (λself=>bind_fn X self hf) (.inl rfl) ?_);have n1:=qH hh;have n2:hh.get? (hh.objs.size+1)=U:=iT (mn _);have kp:∀b o,hh.get? b=J o->((hh.push emptyDict).push (instObj (t8 c) hh.objs.size)).get? b=J o:=λb o e=>dy _ (dy _ e);have R1:pu B (Z++[(hh.objs.size+1,hh.objs.size)]) (T++[.inst c []]) ((hh.push emptyDict).push (instObj (t8 c) hh.objs.size)):=by
  refine R.new _ _ _ ⟨mi _,?_,[],0,?_,.nil⟩ n2 n1 kp
  .have:=gC (hh.push emptyDict) (o:=instObj (t8 c) hh.objs.size) rfl;rw[mU] at this;exact this
  .exact dy _ (gC _ rfl)
 have P1:vQ B Z ⟨hh,g,dr,t,os⟩ (T++[.inst c []]) .none (Z++[(hh.objs.size+1,hh.objs.size)]) .none ⟨(hh.push emptyDict).push (instObj (t8 c) hh.objs.size),g,dr,t,os⟩:=
  ⟨.snoc _ _ n2 n1,R1,λb o e u=>kp b o e,trivial,rfl,rfl⟩
 have sl:(Z++[(hh.objs.size+1,hh.objs.size)])[T.length]? =J (hh.objs.size+1,hh.objs.size):=by rw[<- R.len];exact ui _ _
 have C:=h _ (Z++[(hh.objs.size+1,hh.objs.size)]) ⟨(hh.push emptyDict).push (instObj (t8 c) hh.objs.size),g,dr,t,os⟩ (.ref (hh.objs.size+1)::aF) (r.make (t8 c) aF) R1 (.cons ⟨_,sl⟩ (m.mono λi p e=>uH e));refine codeAny_mono C λr s2 z=>?_;rcases r with e | (val | _ | _ | _)<;>first | exact(z:False).elim | skip
 obtain⟨v,aJ,⟨hv,q⟩,bB,p2⟩:=z;subst hv;obtain rfl:=p2.val.none_inv;exact⟨rfl,Bk.at_ (P1.trans (p2.bA (show VR bB (.ref T.length) (.ref (hh.objs.size+1)) from⟨_,p2.ext.old _ _ sl⟩))) q⟩
end
end
abbrev Y4:Stmt->List Stmt
 | .FunctionDef _ _ body _ _ _ _ _ _ _=>body
 | _=>[]
abbrev gi(n:Int):GV:=.val (.int n)
abbrev gc(n:Nat):GV:=.val (.con n)
abbrev GT:List (Str × GV):=([("PROMOTION",gi 1),("KNIGHT",gi 2),("NO_KIND",gi 0),("highest",gc 84),("range",.range),("direction",gc 105),("line",gc 119),("STEP_RANKS",gc 160),("STEP_FILES",gc 159),("is_growing",gc 188),("inner_squares",gc 202),("add_castles",gc 230),("add_knights",gc 223),("add_pawns",gc 216),("add_rays",gc 209),("add_masks",gc 195),("Geometry",gc 177),("ray_attacks",gc 244),("rook_attacks",gc 251),("bishop_attacks",gc 258),("QUEEN",gi 5),("queen_attacks",gc 265),("ROOK",gi 4),("BISHOP",gi 3),("slider_attacks",gc 272),("KING",gi 6),("PAWN",gi 1),("WHITE",gi 0),("EMPTY",gi 0),("side_of",gc 28),("kind_of",gc 35),("BLACK",gi 1),("lowest",gc 91),("pawn_attackers",gc 363),("slanting_sliders",gc 356),("straight_sliders",gc 349),("line_attackers",gc 377),("step_attackers",gc 370),("attackers_to",gc 384),("king_square",gc 342),("checkers_of",gc 398),("is_attacked",gc 391),("in_check_of",gc 412),("squares_of",gc 98),("more_than_one",gc 77),("between",gc 112),("snipers_of",gc 426),("blockers",gc 433),("MAY",gi 0),("GOAL_ATTACKED",gi 6),("PASSES_ATTACK",gi 5),("IN_CHECK",gi 4),("squares_within",gc 447),("NOT_FREE",gi 3),("occupied",gc 328),("RIGHT_LOST",gi 2),("NO_WING",gi 1),("castle_refusal",gc 454),("pack_move",gc 42),("CASTLING",gi 3),("NORMAL",gi 0),("pieces",gc 335),("add_goals",gc 468),("piece_attacks",gc 279),("QUIETS",gi 1),("CAPTURES",gi 0),("shift_push",gc 510),("start_mask",gc 496),("last_mask",gc 503),("push_targets",gc 524),("push_step",gc 489),("add_promotions",gc 531),("shift_capture",gc 517),("add_pawn_captures",gc 552),("add_push_promotions",gc 545),("add_plain_pushes",gc 538),("EN_PASSANT",gi 2),("passed_pawn_square",gc 580),("add_piece_moves",gc 475),("may_answer_en_passant",gc 587),("add_en_passant",gc 566),("add_pawn_moves",gc 559),("EVASIONS",gi 3),("evasion_targets",gc 573),("checkers",gc 405),("move_special",gc 63),("move_to",gc 56),("move_from",gc 49),("taken_square_legality",gc 601),("aligned",gc 126),("is_safe_en_passant",gc 608),("add_castling",gc 461),("stage_target",gc 482),("add_evasions",gc 594),("generate",gc 622),("is_legal",gc 615),("pinned_pieces",gc 440),("in_check",gc 419),("len",.len),("reversible_plies",gc 636),("key_before",gc 643),("repetitions",gc 650),("has_legal_move",gc 629),("FIFTY_PLIES",gi 100),("is_checkmate",gc 678),("square_colour",gc 699),("bishops_on_one_colour",gc 706),("is_insufficient",gc 713),("is_repetition",gc 657),("is_fifty",gc 692),("repetition_distance",gc 664),("ONGOING",gi 0),("MATERIAL",gi 5),("REPETITION",gi 4),("FIFTY",gi 3),("STALEMATE",gi 2),("CHECKMATE",gi 1),("outcome",gc 734),("set_rights_key",gc 797),("kept_rights",gc 776),("set_ep_key",gc 790),("passed_square",gc 769),("shift_piece",gc 321),("put_piece",gc 307),("make_piece",gc 21),("move_promo",gc 70),("take_piece",gc 314),("clear_ep_key",gc 783),("taken_square_makemove",gc 755),("rook_step",gc 762),("moved_piece",gc 748),("_law_jumps",gc 850),("_law_kings",gc 841),("_law_hits",gc 857),("_law_safe",gc 864),("_law_fits",gc 876),("_law_goals",gc 869),("is_draw_in_search",gc 727),("is_draw_by_rule",gc 720),("has_repeated",gc 671),("_law_bare",gc 900),("_law_pick",gc 881),("abs",.abs),("Position",gc 296),("make_geometry",gc 237),("Zobrist",gc 828),("_law_agrees",gc 905),("undo_move",gc 811),("result_text",gc 741),("is_stalemate",gc 685),("_law_kept",gc 895),("do_move",gc 804),("_law_back",gc 888),("_law_position",gc 917),("_law_cells",gc 912)]:List (String × GV)).map λx=>(bb x.1,x.2)
abbrev ftL:List Nat:=[21,28,35,42,49,56,63,70,77,84,91,98,105,112,119,126,177,188,195,202,209,216,223,230,237,244,251,258,265,272,279,296,307,314,321,328,335,342,349,356,363,370,377,384,391,398,405,412,419,426,433,440,447,454,461,468,475,482,489,496,503,510,517,524,531,538,545,552,559,566,573,580,587,594,601,608,615,622,629,636,643,650,657,664,671,678,685,692,699,706,713,720,727,734,741,748,755,762,769,776,783,790,797,804,811,828,857,864,869,876,881,888,895,900,905,912,917,922]
abbrev rU(n:Nat)(l:List Nat):List (Option Nat):=cW n U++l.map J
section
open Mine.Lake.E renaming loc->a,int->d,bin->f,attr->j,call->k,sub->l,cmp->m,glo->p,list->D,bool->F,range->L,or->M,tup->N,and->Q,len->R,append->W
open Mine.Lake.Ss renaming cons->b,nil->e
open Mine.Lake.Es renaming cons->c,nil->g
open Mine.Lake.af renaming loc->h,attr->w,sub->P
open Mine.Lake.S renaming assign->i,ret->n,ite->o,expr->v,aug->y,each->A
open Mine.Lake.V renaming int->q
open Mine.Lake.Fh renaming band->r,sub->t,bor->u,add->x,shl->z,mul->B,mod->G,shr->I,div->K,bxor->X
open Mine.Lake.Kk renaming eq->s,ne->C,lt->Y
abbrev HC:Fn:=⟨2,rU 2 [],b (n<|f x (f B (a 0)<|d 8)<|a 1) e⟩
abbrev Ou:Fn:=⟨1,rU 1 [],b (n<|f I (a 0)<|d 3) e⟩
abbrev N5:Fn:=⟨1,rU 1 [],b (n<|f r (a 0)<|d 7) e⟩
abbrev Js:Fn:=⟨4,rU 5 [0,1],b (i (h 4)<|d 0)<|b (o (m (a 2) s<|p 5<|q 1) (b (i (h 4)<|f t (a 3)<|p 6<|q 2) e) e)<|b (n<|f u (f u (f u (a 1)<|f z (a 0)<|d 6)<|f z (a 4)<|d 12)<|f z (a 2)<|d 14) e⟩
abbrev IZ:Fn:=⟨1,rU 1 [],b (n<|f r (f I (a 0)<|d 6)<|d 63) e⟩
abbrev Oa:Fn:=⟨1,rU 1 [],b (n<|f r (a 0)<|d 63) e⟩
abbrev Di:Fn:=⟨1,rU 1 [],b (n<|f r (f I (a 0)<|d 14)<|d 3) e⟩
abbrev HT:Fn:=⟨1,rU 1 [0,2,1],b (o (m (f r (f I (a 0)<|d 14)<|d 3) C<|p 1<|q 1) (b (n<|p 2<|q 0) e) e)<|b (n<|f x (f r (f I (a 0)<|d 12)<|d 3)<|p 3<|q 2) e⟩
abbrev Cj:Fn:=⟨1,rU 1 [],b (n<|m (f r (a 0)<|f t (a 0)<|d 1) C<|d 0) e⟩
abbrev OU:Fn:=⟨1,rU 3 [],b (o (m (a 0) s<|d 0) (b (n<|.neg<|d 1) e) e)<|b (i (h 1)<|d 1)<|b (.loop (f I (a 0)<|a 1)<|b (y (h 1) B<|d 2) e)<|b (i (h 2)<|d 0)<|b (.loop (m (a 1) .gt<|d 1)<|b (y (h 1) K<|d 2)<|b (o (f I (a 0)<|a 1) (b (y (h 0) I<|a 1)<|b (y (h 2) x<|a 1) e) e) e)<|b (n<|a 2) e⟩
abbrev SG:Fn:=⟨1,rU 1 [3],b (n<|k 1 84<|c (f r (a 0)<|.neg<|a 0) g) e⟩
abbrev H2:Fn:=⟨1,rU 3 [],b (i (h 1)<|D g)<|b (i (h 2)<|d 0)<|b (.loop (a 0)<|b (.loop (.not<|f r (a 0)<|d 15)<|b (y (h 0) I<|d 4)<|b (y (h 2) x<|d 4) e)<|b (o (f r (a 0)<|d 1) (b (v<|W (a 1)<|a 2) e) e)<|b (y (h 0) I<|d 1)<|b (y (h 2) x<|d 1) e)<|b (n<|a 1) e⟩
abbrev IN:Fn:=⟨3,rU 4 [4],b (A (h 3) (L 4<|c (d 8) g)<|b (o (f r (f I (l (l (j (a 0) 8)<|a 3)<|a 1)<|a 2)<|d 1) (b (n<|a 3) e) e) e)<|b (n<|.neg<|d 1) e⟩
abbrev Pk:Fn:=⟨3,rU 4 [5],b (i (h 3)<|k 4 105<|c (a 0)<|c (a 1)<|c (a 2) g)<|b (o (m (a 3) Y<|d 0) (b (n<|d 0) e) e)<|b (n<|f r (l (l (j (a 0) 8)<|a 3)<|a 1)<|l (l (j (a 0) 8)<|f X (a 3)<|d 2)<|a 2) e⟩
abbrev Xl:Fn:=⟨3,rU 4 [5],b (i (h 3)<|k 4 105<|c (a 0)<|c (a 1)<|c (a 2) g)<|b (o (m (a 3) Y<|d 0) (b (n<|d 0) e) e)<|b (n<|f u (f u (l (l (j (a 0) 8)<|a 3)<|a 1)<|l (l (j (a 0) 8)<|f X (a 3)<|d 2)<|a 1)<|f z (d 1)<|a 1) e⟩
abbrev OX:Fn:=⟨4,rU 4 [6],b (n<|m (f r (f I (k 4 119<|c (a 0)<|c (a 1)<|c (a 2) g)<|a 3)<|d 1) s<|d 1) e⟩
abbrev wE:Fn:=⟨5,rU 5 [],b (i (w (a 0) 0)<|a 1)<|b (i (w (a 0) 1)<|a 2)<|b (i (w (a 0) 2)<|f B (a 1)<|a 2)<|b (i (w (a 0) 3)<|f t (f z (d 1)<|f B (a 1)<|a 2)<|d 1)<|b (i (w (a 0) 4)<|Q (a 3)<|m (a 2) .ge<|d 5)<|b (i (w (a 0) 5)<|a 4)<|b (i (w (a 0) 6)<|D g)<|b (i (w (a 0) 7)<|D g)<|b (i (w (a 0) 8)<|D g)<|b (i (w (a 0) 9)<|D g)<|b (i (w (a 0) 10)<|D g)<|b (i (w (a 0) 11)<|D<|c (D g)<|c (D g) g)<|b (i (w (a 0) 12)<|D g)<|b (i (w (a 0) 13)<|D g) e⟩
abbrev zy:Fn:=⟨1,rU 1 [7],b (n<|M (m (l (p 1<|.con 160)<|a 0) .gt<|d 0)<|m (a 0) s<|d 1) e⟩
abbrev BE:Fn:=⟨1,rU 5 [4],b (i (h 1)<|f t (f z (d 1)<|j (a 0) 0)<|d 1)<|b (i (h 2)<|d 0)<|b (A (h 3) (L 5<|c (j (a 0) 1) g)<|b (v<|W (j (a 0) 7)<|f z (a 1)<|f B (a 3)<|j (a 0) 0)<|b (y (h 2) u<|f z (d 1)<|f B (a 3)<|j (a 0) 0) e)<|b (A (h 4) (L 5<|c (j (a 0) 0) g)<|b (v<|W (j (a 0) 6)<|f z (a 2)<|a 4) e) e⟩
abbrev wz:Fn:=⟨2,rU 3 [8,7],b (i (h 2)<|d 0)<|b (o (m (l (p 3<|.con 159)<|a 1) .gt<|d 0) (b (y (h 2) u<|l (j (a 0) 6)<|f t (j (a 0) 0)<|d 1) e) e)<|b (o (m (l (p 3<|.con 159)<|a 1) Y<|d 0) (b (y (h 2) u<|l (j (a 0) 6)<|d 0) e) e)<|b (o (m (l (p 4<|.con 160)<|a 1) .gt<|d 0) (b (y (h 2) u<|l (j (a 0) 7)<|f t (j (a 0) 1)<|d 1) e) e)<|b (o (m (l (p 4<|.con 160)<|a 1) Y<|d 0) (b (y (h 2) u<|l (j (a 0) 7)<|d 0) e) e)<|b (n<|f r (j (a 0) 3)<|.inv<|a 2) e⟩
abbrev DO:Fn:=⟨1,rU 8 [4,10,7,8,9],b (i (w (a 0) 9)<|.rep (c (d 0) g)<|j (a 0) 2)<|b (A (h 1) (L 8<|c (d 8) g)<|b (i (h 2)<|k 9 202<|c (a 0)<|c (a 1) g)<|b (i (h 3)<|f x (f B (l (p 10<|.con 160)<|a 1)<|j (a 0) 0)<|l (p 11<|.con 159)<|a 1)<|b (i (h 4)<|.rep (c (d 0) g)<|j (a 0) 2)<|b (i (h 5)<|L 8<|c (j (a 0) 2) g)<|b (o (k 12 188<|c (a 1) g) (b (i (h 5)<|L 8<|c (f t (j (a 0) 2)<|d 1)<|c (.neg<|d 1)<|c (.neg<|d 1) g) e) e)<|b (A (h 6) (a 5)<|b (o (f r (f I (a 2)<|a 6)<|d 1) (b (i (h 7)<|f x (a 6)<|a 3)<|b (i (P (a 4)<|a 6)<|f u (l (a 4)<|a 7)<|f z (d 1)<|a 7)<|b (y (P (j (a 0) 9)<|a 6) u<|f z (d 1)<|a 7) e) e) e)<|b (v<|W (j (a 0) 8)<|a 4) e) e⟩
abbrev BG:Fn:=⟨1,rU 2 [4],b (A (h 1) (L 2<|c (j (a 0) 2) g)<|b (v<|W (l (j (a 0) 11)<|d 0)<|f r (l (j (a 0) 9)<|a 1)<|f u (l (l (j (a 0) 8)<|d 4)<|a 1)<|l (l (j (a 0) 8)<|d 7)<|a 1)<|b (v<|W (l (j (a 0) 11)<|d 1)<|f r (l (j (a 0) 9)<|a 1)<|f u (l (l (j (a 0) 8)<|d 5)<|a 1)<|l (l (j (a 0) 8)<|d 6)<|a 1) e) e⟩
abbrev yj:Fn:=⟨1,rU 11 [4],b (i (h 1)<|j (a 0) 0)<|b (i (h 2)<|f r (j (a 0) 3)<|.inv<|l (j (a 0) 6)<|d 0)<|b (i (h 3)<|f r (j (a 0) 3)<|.inv<|l (j (a 0) 6)<|f t (a 1)<|d 1)<|b (i (h 4)<|f r (a 2)<|.inv<|l (j (a 0) 6)<|d 1)<|b (i (h 5)<|f r (a 3)<|.inv<|l (j (a 0) 6)<|f t (a 1)<|d 2)<|b (A (h 6) (L 11<|c (j (a 0) 2) g)<|b (i (h 7)<|f z (d 1)<|a 6)<|b (i (h 8)<|f u (f r (f z (a 7)<|d 1)<|a 2)<|f r (f I (a 7)<|d 1)<|a 3)<|b (i (h 9)<|f u (f r (f z (a 7)<|d 2)<|a 4)<|f r (f I (a 7)<|d 2)<|a 5)<|b (i (h 10)<|f u (f u (f u (f z (a 8)<|f B (d 2)<|a 1)<|f I (a 8)<|f B (d 2)<|a 1)<|f z (a 9)<|a 1)<|f I (a 9)<|a 1)<|b (v<|W (j (a 0) 10)<|f r (a 10)<|j (a 0) 3) e) e⟩
abbrev ym:Fn:=⟨1,rU 7 [4],b (i (w (a 0) 13)<|.rep (c (d 0) g)<|j (a 0) 2)<|b (i (h 1)<|f K (j (a 0) 0)<|d 2)<|b (A (h 2) (L 7<|c (d 4) g)<|b (i (h 3)<|f B (f B (f I (a 2)<|d 1)<|f t (j (a 0) 1)<|d 1)<|j (a 0) 0)<|b (i (h 4)<|f t (j (a 0) 0)<|d 1)<|b (i (h 5)<|d 1)<|b (o (f r (a 2)<|d 1) (b (i (h 4)<|d 0)<|b (i (h 5)<|.neg<|d 1) e) e)<|b (i (h 6)<|f x (a 1)<|f B (d 2)<|a 5)<|b (o (Q (j (a 0) 5)<|m (f B (f t (a 4)<|a 6)<|a 5) .gt<|d 0) (b (v<|W (j (a 0) 12)<|N<|c (f x (a 3)<|a 1)<|c (f x (a 3)<|a 6)<|c (f x (a 3)<|a 4)<|c (f t (f x (a 3)<|a 6)<|a 5) g)<|b (y (P (j (a 0) 13)<|f x (a 3)<|a 1) u<|f z (d 1)<|a 2)<|b (y (P (j (a 0) 13)<|f x (a 3)<|a 4) u<|f z (d 1)<|a 2) e)<|b (v<|W (j (a 0) 12) .bK) e) e) e⟩
abbrev wD:Fn:=⟨4,rU 6 [16,15,14,13,12,11],b (o (M (m (a 0) Y<|d 2)<|M (m (a 0) .gt<|d 8)<|M (m (a 1) Y<|d 3)<|m (a 1) .gt<|d 8) (b .fail e) e)<|b (i (h 4)<|k 6 177<|c (a 0)<|c (a 1)<|c (a 2)<|c (a 3) g)<|b (v<|k 7 195<|c (a 4) g)<|b (v<|k 8 209<|c (a 4) g)<|b (v<|k 9 216<|c (a 4) g)<|b (v<|k 10 223<|c (a 4) g)<|b (v<|k 11 230<|c (a 4) g)<|b (n<|a 4) e⟩
abbrev Fj:Fn:=⟨4,rU 7 [9],b (i (h 4)<|l (l (j (a 0) 8)<|a 1)<|a 2)<|b (i (h 5)<|f r (a 4)<|a 3)<|b (o (m (a 5) s<|d 0) (b (n<|a 4) e) e)<|b (o (k 7 188<|c (a 1) g) (b (n<|f r (a 4)<|f X (a 5)<|f t (a 5)<|d 1) e) e)<|b (i (h 6)<|f I (a 5)<|d 1)<|b (y (h 6) u<|f I (a 6)<|d 1)<|b (y (h 6) u<|f I (a 6)<|d 2)<|b (y (h 6) u<|f I (a 6)<|d 4)<|b (y (h 6) u<|f I (a 6)<|d 8)<|b (y (h 6) u<|f I (a 6)<|d 16)<|b (y (h 6) u<|f I (a 6)<|d 32)<|b (n<|f r (a 4)<|.inv<|a 6) e⟩
abbrev Fd:Fn:=⟨3,rU 5 [4,17],b (i (h 3)<|d 0)<|b (A (h 4) (L 5<|c (d 4) g)<|b (y (h 3) u<|k 6 244<|c (a 0)<|c (a 4)<|c (a 1)<|c (a 2) g) e)<|b (n<|a 3) e⟩
abbrev AL:Fn:=⟨3,rU 5 [4,17],b (i (h 3)<|d 0)<|b (A (h 4) (L 5<|c (d 4)<|c (d 8) g)<|b (y (h 3) u<|k 6 244<|c (a 0)<|c (a 4)<|c (a 1)<|c (a 2) g) e)<|b (n<|a 3) e⟩
abbrev B5:Fn:=⟨3,rU 3 [18,19],b (n<|f u (k 3 251<|c (a 0)<|c (a 1)<|c (a 2) g)<|k 4 258<|c (a 0)<|c (a 1)<|c (a 2) g) e⟩
abbrev Bl:Fn:=⟨4,rU 4 [23,19,22,18,20,21],b (o (m (a 1) s<|p 4<|q 3) (b (n<|k 5 258<|c (a 0)<|c (a 2)<|c (a 3) g) e) e)<|b (o (m (a 1) s<|p 6<|q 4) (b (n<|k 7 251<|c (a 0)<|c (a 2)<|c (a 3) g) e) e)<|b (o (m (a 1) s<|p 8<|q 5) (b (n<|k 9 265<|c (a 0)<|c (a 2)<|c (a 3) g) e) e)<|b (n<|d 0) e⟩
abbrev B4:Fn:=⟨5,rU 5 [26,1,25,24],b (o (m (a 2) s<|p 5<|q 1) (b (n<|l (l (j (a 0) 11)<|a 1)<|a 3) e) e)<|b (o (m (a 2) s<|p 6<|q 2) (b (n<|l (j (a 0) 10)<|a 3) e) e)<|b (o (m (a 2) s<|p 7<|q 6) (b (n<|l (j (a 0) 9)<|a 3) e) e)<|b (n<|k 8 272<|c (a 0)<|c (a 2)<|c (a 3)<|c (a 4) g) e⟩
abbrev wC:Fn:=⟨3,rU 3 [28,27],b (i (w (a 0) 14)<|a 1)<|b (i (w (a 0) 15)<|a 2)<|b (i (w (a 0) 16)<|.rep (c (p 3<|q 0) g)<|j (a 1) 2)<|b (i (w (a 0) 17)<|.rep (c (d 0) g)<|d 7)<|b (i (w (a 0) 18)<|D<|c (d 0)<|c (d 0) g)<|b (i (w (a 0) 19)<|p 4<|q 0)<|b (i (w (a 0) 20)<|d 0)<|b (i (w (a 0) 21)<|.neg<|d 1)<|b (i (w (a 0) 22)<|d 0)<|b (i (w (a 0) 3)<|d 1)<|b (i (w (a 0) 23)<|d 0)<|b (i (w (a 0) 24)<|D g) e⟩
abbrev J9:Fn:=⟨3,rU 4 [30,29],b (i (h 3)<|f z (d 1)<|a 2)<|b (i (P (j (a 0) 16)<|a 2)<|a 1)<|b (y (P (j (a 0) 17)<|k 4 35<|c (a 1) g) u<|a 3)<|b (y (P (j (a 0) 18)<|k 5 28<|c (a 1) g) u<|a 3)<|b (y (w (a 0) 23) X<|l (l (j (j (a 0) 15) 25)<|a 1)<|a 2) e⟩
abbrev H8:Fn:=⟨2,rU 4 [28,30,29],b (i (h 2)<|l (j (a 0) 16)<|a 1)<|b (i (h 3)<|f z (d 1)<|a 1)<|b (i (P (j (a 0) 16)<|a 1)<|p 4<|q 0)<|b (y (P (j (a 0) 17)<|k 5 35<|c (a 2) g) X<|a 3)<|b (y (P (j (a 0) 18)<|k 6 28<|c (a 2) g) X<|a 3)<|b (y (w (a 0) 23) X<|l (l (j (j (a 0) 15) 25)<|a 2)<|a 1)<|b (n<|a 2) e⟩
abbrev Fm:Fn:=⟨3,rU 6 [28,30,29],b (i (h 3)<|l (j (a 0) 16)<|a 1)<|b (i (h 4)<|f u (f z (d 1)<|a 1)<|f z (d 1)<|a 2)<|b (i (P (j (a 0) 16)<|a 1)<|p 6<|q 0)<|b (i (P (j (a 0) 16)<|a 2)<|a 3)<|b (y (P (j (a 0) 17)<|k 7 35<|c (a 3) g) X<|a 4)<|b (y (P (j (a 0) 18)<|k 8 28<|c (a 3) g) X<|a 4)<|b (i (h 5)<|l (j (j (a 0) 15) 25)<|a 3)<|b (y (w (a 0) 23) X<|f X (l (a 5)<|a 1)<|l (a 5)<|a 2) e⟩
abbrev Mb:Fn:=⟨1,rU 1 [27,31],b (n<|f u (l (j (a 0) 18)<|p 1<|q 0)<|l (j (a 0) 18)<|p 2<|q 1) e⟩
abbrev RO:Fn:=⟨3,rU 3 [],b (n<|f r (l (j (a 0) 18)<|a 1)<|l (j (a 0) 17)<|a 2) e⟩
abbrev FO:Fn:=⟨2,rU 2 [32,25],b (n<|k 2 91<|c (f r (l (j (a 0) 18)<|a 1)<|l (j (a 0) 17)<|p 3<|q 6) g) e⟩
abbrev yt:Fn:=⟨1,rU 1 [22,20],b (n<|f u (l (j (a 0) 17)<|p 1<|q 4)<|l (j (a 0) 17)<|p 2<|q 5) e⟩
abbrev yV:Fn:=⟨1,rU 1 [23,20],b (n<|f u (l (j (a 0) 17)<|p 1<|q 3)<|l (j (a 0) 17)<|p 2<|q 5) e⟩
abbrev AZ:Fn:=⟨3,rU 3 [26],b (n<|f r (f r (l (l (j (j (a 0) 14) 11)<|f t (d 1)<|a 2)<|a 1)<|l (j (a 0) 17)<|p 3<|q 1)<|l (j (a 0) 18)<|a 2) e⟩
abbrev AO:Fn:=⟨3,rU 5 [1,25,33],b (i (h 3)<|j (a 0) 14)<|b (i (h 4)<|f r (l (j (a 3) 10)<|a 1)<|l (j (a 0) 17)<|p 5<|q 2)<|b (y (h 4) u<|f r (l (j (a 3) 9)<|a 1)<|l (j (a 0) 17)<|p 6<|q 6)<|b (n<|f u (k 7 363<|c (a 0)<|c (a 1)<|c (a 2) g)<|f r (a 4)<|l (j (a 0) 18)<|a 2) e⟩
abbrev Bx:Fn:=⟨3,rU 6 [35,18,34,19],b (i (h 3)<|d 0)<|b (i (h 4)<|k 6 349<|c (a 0) g)<|b (o (a 4) (b (y (h 3) u<|f r (k 7 251<|c (j (a 0) 14)<|c (a 1)<|c (a 2) g)<|a 4) e) e)<|b (i (h 5)<|k 8 356<|c (a 0) g)<|b (o (a 5) (b (y (h 3) u<|f r (k 9 258<|c (j (a 0) 14)<|c (a 1)<|c (a 2) g)<|a 5) e) e)<|b (n<|a 3) e⟩
abbrev Eh:Fn:=⟨3,rU 4 [37,27,31,36],b (i (h 3)<|f u (k 4 370<|c (a 0)<|c (a 1)<|c (p 5<|q 0) g)<|k 4 370<|c (a 0)<|c (a 1)<|c (p 6<|q 1) g)<|b (n<|f u (a 3)<|k 7 377<|c (a 0)<|c (a 1)<|c (a 2) g) e⟩
abbrev Fq:Fn:=⟨4,rU 8 [37,35,18,34,19],b (o (k 8 370<|c (a 0)<|c (a 1)<|c (a 2) g) (b (n<|F true) e) e)<|b (i (h 4)<|j (a 0) 14)<|b (i (h 5)<|l (j (a 0) 18)<|a 2)<|b (i (h 6)<|f r (k 9 349<|c (a 0) g)<|a 5)<|b (o (Q (a 6)<|f r (k 10 251<|c (a 4)<|c (a 1)<|c (a 3) g)<|a 6) (b (n<|F true) e) e)<|b (i (h 7)<|f r (k 11 356<|c (a 0) g)<|a 5)<|b (n<|Q (m (a 7) C<|d 0)<|m (f r (k 12 258<|c (a 4)<|c (a 1)<|c (a 3) g)<|a 7) C<|d 0) e⟩
abbrev Ft:Fn:=⟨2,rU 3 [27,31,38,39],b (i (h 2)<|f u (l (j (a 0) 18)<|p 3<|q 0)<|l (j (a 0) 18)<|p 4<|q 1)<|b (n<|f r (k 5 384<|c (a 0)<|c (k 6 342<|c (a 0)<|c (a 1) g)<|c (a 2) g)<|l (j (a 0) 18)<|f t (d 1)<|a 1) e⟩
abbrev Kp:Fn:=⟨1,rU 1 [40],b (n<|k 1 398<|c (a 0)<|c (j (a 0) 19) g) e⟩
abbrev Fp:Fn:=⟨2,rU 3 [27,31,41,39],b (i (h 2)<|f u (l (j (a 0) 18)<|p 3<|q 0)<|l (j (a 0) 18)<|p 4<|q 1)<|b (n<|k 5 391<|c (a 0)<|c (k 6 342<|c (a 0)<|c (a 1) g)<|c (f t (d 1)<|a 1)<|c (a 2) g) e⟩
abbrev Lj:Fn:=⟨1,rU 1 [42],b (n<|k 1 412<|c (a 0)<|c (j (a 0) 19) g) e⟩
abbrev Ia:Fn:=⟨2,rU 4 [39,18,35,19,34],b (i (h 2)<|k 4 342<|c (a 0)<|c (a 1) g)<|b (i (h 3)<|f r (k 5 251<|c (j (a 0) 14)<|c (a 2)<|c (d 0) g)<|k 6 349<|c (a 0) g)<|b (y (h 3) u<|f r (k 7 258<|c (j (a 0) 14)<|c (a 2)<|c (d 0) g)<|k 8 356<|c (a 0) g)<|b (n<|f r (a 3)<|l (j (a 0) 18)<|f t (d 1)<|a 1) e⟩
abbrev LG:Fn:=⟨2,rU 9 [39,46,27,31,43,45,44],b (i (h 2)<|k 9 342<|c (a 0)<|c (a 1) g)<|b (i (h 3)<|k 10 426<|c (a 0)<|c (a 1) g)<|b (i (h 4)<|f X (f u (l (j (a 0) 18)<|p 11<|q 0)<|l (j (a 0) 18)<|p 12<|q 1)<|a 3)<|b (i (h 5)<|d 0)<|b (i (h 6)<|d 0)<|b (A (h 7) (k 13 98<|c (a 3) g)<|b (i (h 8)<|f r (k 14 112<|c (j (a 0) 14)<|c (a 2)<|c (a 7) g)<|a 4)<|b (o (Q (a 8)<|.not<|k 15 77<|c (a 8) g) (b (y (h 5) u<|a 8)<|b (o (f r (a 8)<|l (j (a 0) 18)<|a 1) (b (y (h 6) u<|f z (d 1)<|a 7) e) e) e) e) e)<|b (n<|N<|c (a 5)<|c (a 6) g) e⟩
abbrev Cq:Fn:=⟨2,rU 2 [47],b (n<|f r (l (k 2 433<|c (a 0)<|c (a 1) g)<|d 0)<|l (j (a 0) 18)<|a 1) e⟩
abbrev AV:Fn:=⟨2,rU 2 [],b (o (m (a 0) Y<|a 1) (b (n<|f t (f z (d 1)<|a 1)<|f z (d 2)<|a 0) e) e)<|b (n<|f t (f z (d 1)<|a 0)<|f z (d 2)<|a 1) e⟩
abbrev Bi:Fn:=⟨2,rU 9 [56,55,54,52,53,41,51,50,49,48],b (i (h 2)<|l (j (j (a 0) 14) 12)<|a 1)<|b (o (m (a 2) .is .bK) (b (n<|p 9<|q 1) e) e)<|b (o (m (f r (j (a 0) 20)<|f z (d 1)<|a 1) s<|d 0) (b (n<|p 10<|q 2) e) e)<|b (i (.tup [3,4,5,6])<|a 2)<|b (i (h 7)<|k 11 328<|c (a 0) g)<|b (o (f r (a 7)<|k 12 447<|c (a 3)<|c (a 5) g) (b (n<|p 13<|q 3) e) e)<|b (i (h 8)<|f t (d 1)<|f I (a 1)<|d 1)<|b (o (k 14 391<|c (a 0)<|c (a 3)<|c (a 8)<|c (a 7) g) (b (n<|p 15<|q 4) e) e)<|b (o (k 14 391<|c (a 0)<|c (a 6)<|c (a 8)<|c (a 7) g) (b (n<|p 16<|q 5) e) e)<|b (o (k 14 391<|c (a 0)<|c (a 4)<|c (a 8)<|c (a 7) g) (b (n<|p 17<|q 6) e) e)<|b (n<|p 18<|q 0) e⟩
abbrev Do:Fn:=⟨2,rU 7 [57,48,58,59,2],b (A (h 2) (D<|c (f B (d 2)<|j (a 0) 19)<|c (f x (f B (d 2)<|j (a 0) 19)<|d 1) g)<|b (o (m (k 7 454<|c (a 0)<|c (a 2) g) s<|p 8<|q 0) (b (i (.tup [3,4,5,6])<|l (j (j (a 0) 14) 12)<|a 2)<|b (v<|W (a 1)<|k 9 42<|c (a 3)<|c (a 4)<|c (p 10<|q 3)<|c (p 11<|q 0) g) e) e) e) e⟩
abbrev I7:Fn:=⟨3,rU 4 [43,58,60,2],b (A (h 3) (k 4 98<|c (a 1) g)<|b (v<|W (a 2)<|k 5 42<|c (a 0)<|c (a 3)<|c (p 6<|q 0)<|c (p 7<|q 0) g) e) e⟩
abbrev Af:Fn:=⟨4,rU 7 [54,43,61,63,62],b (i (h 4)<|k 7 328<|c (a 0) g)<|b (A (h 5) (k 8 98<|c (k 9 335<|c (a 0)<|c (j (a 0) 19)<|c (a 1) g) g)<|b (i (h 6)<|k 10 279<|c (j (a 0) 14)<|c (j (a 0) 19)<|c (a 1)<|c (a 5)<|c (a 4) g)<|b (v<|k 11 468<|c (a 5)<|c (f r (a 6)<|a 2)<|c (a 3) g) e) e⟩
abbrev DW:Fn:=⟨2,rU 2 [65,64,54],b (o (m (a 1) s<|p 2<|q 0) (b (n<|l (j (a 0) 18)<|f t (d 1)<|j (a 0) 19) e) e)<|b (o (m (a 1) s<|p 3<|q 1) (b (n<|f r (j (j (a 0) 14) 3)<|.inv<|k 4 328<|c (a 0) g) e) e)<|b (n<|f r (j (j (a 0) 14) 3)<|.inv<|l (j (a 0) 18)<|j (a 0) 19) e⟩
abbrev Ji:Fn:=⟨2,rU 2 [27],b (o (m (a 1) s<|p 2<|q 0) (b (n<|j (a 0) 0) e) e)<|b (n<|.neg<|j (a 0) 0) e⟩
abbrev Kg:Fn:=⟨2,rU 2 [27],b (o (m (a 1) s<|p 2<|q 0) (b (n<|l (j (a 0) 7)<|f t (j (a 0) 1)<|d 1) e) e)<|b (n<|l (j (a 0) 7)<|d 0) e⟩
abbrev HZ:Fn:=⟨3,rU 3 [27],b (o (m (a 2) s<|p 3<|q 0) (b (n<|f r (f z (a 1)<|j (a 0) 0)<|j (a 0) 3) e) e)<|b (n<|f I (a 1)<|j (a 0) 0) e⟩
abbrev Ci:Fn:=⟨4,rU 4 [66],b (o (m (a 3) s<|d 0) (b (n<|f z (k 4 510<|c (a 0)<|c (f r (a 1)<|.inv<|l (j (a 0) 6)<|f t (j (a 0) 0)<|d 1)<|c (a 2) g)<|d 1) e) e)<|b (n<|f I (k 4 510<|c (a 0)<|c (f r (a 1)<|.inv<|l (j (a 0) 6)<|d 0)<|c (a 2) g)<|d 1) e⟩
abbrev E1:Fn:=⟨2,rU 8 [54,61,26,66,67],b (i (h 2)<|j (a 0) 14)<|b (i (h 3)<|f r (j (a 2) 3)<|.inv<|k 8 328<|c (a 0) g)<|b (i (h 4)<|k 9 335<|c (a 0)<|c (a 1)<|c (p 10<|q 1) g)<|b (i (h 5)<|f r (k 11 510<|c (a 2)<|c (a 4)<|c (a 1) g)<|a 3)<|b (i (h 6)<|d 0)<|b (o (j (a 2) 4) (b (i (h 7)<|f r (k 11 510<|c (a 2)<|c (f r (a 4)<|k 12 496<|c (a 2)<|c (a 1) g)<|c (a 1) g)<|a 3)<|b (i (h 6)<|f r (k 11 510<|c (a 2)<|c (a 7)<|c (a 1) g)<|a 3) e) e)<|b (n<|N<|c (a 5)<|c (a 6) g) e⟩
abbrev A4:Fn:=⟨5,rU 7 [64,58,0,20,65,22,23,1],b (o (m (a 2) C<|p 7<|q 1) (b (v<|W (a 4)<|k 8 42<|c (a 0)<|c (a 1)<|c (p 9<|q 1)<|c (p 10<|q 5) g) e) e)<|b (o (m (a 2) s<|p 11<|q 0) (b (i (h 5)<|a 3) e)<|b (o (m (a 2) s<|p 7<|q 1) (b (i (h 5)<|.not<|a 3) e)<|b (i (h 5)<|F true) e) e)<|b (o (a 5) (b (A (h 6) (D<|c (p 12<|q 4)<|c (p 13<|q 3)<|c (p 14<|q 2) g)<|b (v<|W (a 4)<|k 8 42<|c (a 0)<|c (a 1)<|c (p 9<|q 1)<|c (a 6) g) e) e) e) e⟩
abbrev yM:Fn:=⟨3,rU 8 [70,69,43,68,58,60,2],b (i (h 3)<|j (a 0) 14)<|b (i (h 4)<|k 8 489<|c (a 3)<|c (j (a 0) 19) g)<|b (i (.tup [5,6])<|k 9 524<|c (a 0)<|c (j (a 0) 19) g)<|b (A (h 7) (k 10 98<|c (f r (f r (a 5)<|a 1)<|.inv<|k 11 503<|c (a 3)<|c (j (a 0) 19) g) g)<|b (v<|W (a 2)<|k 12 42<|c (f t (a 7)<|a 4)<|c (a 7)<|c (p 13<|q 0)<|c (p 14<|q 0) g) e)<|b (A (h 7) (k 10 98<|c (f r (a 6)<|a 1) g)<|b (v<|W (a 2)<|k 12 42<|c (f t (a 7)<|f B (d 2)<|a 4)<|c (a 7)<|c (p 13<|q 0)<|c (p 14<|q 0) g) e) e⟩
abbrev wJ:Fn:=⟨4,rU 8 [70,69,43,68,71],b (i (h 4)<|j (a 0) 14)<|b (i (h 5)<|k 8 489<|c (a 4)<|c (j (a 0) 19) g)<|b (i (h 6)<|l (k 9 524<|c (a 0)<|c (j (a 0) 19) g)<|d 0)<|b (A (h 7) (k 10 98<|c (f r (f r (a 6)<|a 2)<|k 11 503<|c (a 4)<|c (j (a 0) 19) g) g)<|b (v<|k 12 531<|c (f t (a 7)<|a 5)<|c (a 7)<|c (a 1)<|c (F false)<|c (a 3) g) e) e⟩
abbrev xX:Fn:=⟨4,rU 12 [68,61,26,70,43,72,71,58,60,2],b (i (h 4)<|j (a 0) 14)<|b (i (h 5)<|j (a 0) 19)<|b (i (h 6)<|k 12 503<|c (a 4)<|c (a 5) g)<|b (i (h 7)<|k 13 335<|c (a 0)<|c (a 5)<|c (p 14<|q 1) g)<|b (i (h 8)<|f r (a 2)<|l (j (a 0) 18)<|f t (d 1)<|a 5)<|b (A (h 9) (D<|c (d 0)<|c (d 1) g)<|b (i (h 10)<|f t (f x (k 15 489<|c (a 4)<|c (a 5) g)<|d 1)<|f B (d 2)<|a 9)<|b (A (h 11) (k 16 98<|c (f r (k 17 517<|c (a 4)<|c (a 7)<|c (a 5)<|c (a 9) g)<|a 8) g)<|b (o (f r (a 6)<|f z (d 1)<|a 11) (b (v<|k 18 531<|c (f t (a 11)<|a 10)<|c (a 11)<|c (a 1)<|c (F true)<|c (a 3) g) e)<|b (v<|W (a 3)<|k 19 42<|c (f t (a 11)<|a 10)<|c (a 11)<|c (p 20<|q 0)<|c (p 21<|q 0) g) e) e) e) e⟩
abbrev Bh:Fn:=⟨4,rU 4 [65,75,74,64,73],b (o (m (a 1) C<|p 4<|q 0) (b (v<|k 5 538<|c (a 0)<|c (a 2)<|c (a 3) g) e) e)<|b (v<|k 6 545<|c (a 0)<|c (a 1)<|c (a 2)<|c (a 3) g)<|b (o (m (a 1) C<|p 7<|q 1) (b (v<|k 8 552<|c (a 0)<|c (a 1)<|c (a 2)<|c (a 3) g) e) e) e⟩
abbrev AD:Fn:=⟨2,rU 4 [61,26,43,58,76,2],b (o (m (j (a 0) 21) Y<|d 0) (b (n .bK) e) e)<|b (i (h 2)<|f r (l (l (j (j (a 0) 14) 11)<|f t (d 1)<|j (a 0) 19)<|j (a 0) 21)<|k 4 335<|c (a 0)<|c (j (a 0) 19)<|c (p 5<|q 1) g)<|b (A (h 3) (k 6 98<|c (a 2) g)<|b (v<|W (a 1)<|k 7 42<|c (a 3)<|c (j (a 0) 21)<|c (p 8<|q 2)<|c (p 9<|q 0) g) e) e⟩
abbrev Ab:Fn:=⟨2,rU 2 [44,45,39,32],b (o (M (m (a 1) s<|d 0)<|k 2 77<|c (a 1) g) (b (n<|d 0) e) e)<|b (n<|f u (a 1)<|k 3 112<|c (j (a 0) 14)<|c (k 4 342<|c (a 0)<|c (j (a 0) 19) g)<|c (k 5 91<|c (a 1) g) g) e⟩
abbrev vJ:Fn:=⟨2,rU 2 [77],b (o (m (j (a 0) 21) Y<|d 0) (b (n<|F false) e) e)<|b (n<|m (f r (a 1)<|f u (f z (d 1)<|j (a 0) 21)<|f z (d 1)<|k 2 580<|c (a 0) g) C<|d 0) e⟩
abbrev EZ:Fn:=⟨2,rU 4 [83,84,81,82,79,80,1,23,22,20,78,25],b (i (h 2)<|k 4 573<|c (a 0)<|c (k 5 405<|c (a 0) g) g)<|b (o (a 2) (b (v<|k 6 559<|c (a 0)<|c (p 7<|q 3)<|c (a 2)<|c (a 1) g)<|b (o (k 8 587<|c (a 0)<|c (a 2) g) (b (v<|k 9 566<|c (a 0)<|c (a 1) g) e) e)<|b (A (h 3) (D<|c (p 10<|q 2)<|c (p 11<|q 3)<|c (p 12<|q 4)<|c (p 13<|q 5) g)<|b (v<|k 14 475<|c (a 0)<|c (a 3)<|c (a 2)<|c (a 1) g) e) e) e)<|b (v<|k 14 475<|c (a 0)<|c (p 15<|q 6)<|c (f r (j (j (a 0) 14) 3)<|.inv<|l (j (a 0) 18)<|j (a 0) 19)<|c (a 1) g) e⟩
abbrev Ku:Fn:=⟨3,rU 8 [85,59,76,90,87,86,39,27,31,41,89],b (i (h 3)<|k 8 63<|c (a 1) g)<|b (o (m (a 3) s<|p 9<|q 3) (b (n<|F true) e) e)<|b (o (m (a 3) s<|p 10<|q 2) (b (n<|k 11 608<|c (a 0)<|c (a 1) g) e) e)<|b (i (h 4)<|k 12 49<|c (a 1) g)<|b (i (h 5)<|k 13 56<|c (a 1) g)<|b (i (h 6)<|k 14 342<|c (a 0)<|c (j (a 0) 19) g)<|b (o (m (a 4) s<|a 6) (b (i (h 7)<|f X (f u (l (j (a 0) 18)<|p 15<|q 0)<|l (j (a 0) 18)<|p 16<|q 1)<|f z (d 1)<|a 6)<|b (n<|.not<|k 17 391<|c (a 0)<|c (a 5)<|c (f t (d 1)<|j (a 0) 19)<|c (a 7) g) e) e)<|b (o (m (f r (f I (a 2)<|a 4)<|d 1) s<|d 0) (b (n<|F true) e) e)<|b (n<|k 18 126<|c (j (a 0) 14)<|c (a 4)<|c (a 5)<|c (a 6) g) e⟩
abbrev LC:Fn:=⟨2,rU 5 [82,93,92,81,64,80,1,23,22,20,25,78,65,91],b (i (h 2)<|D g)<|b (o (m (a 1) s<|p 5<|q 3) (b (v<|k 6 594<|c (a 0)<|c (a 2) g)<|b (n<|a 2) e) e)<|b (i (h 3)<|k 7 482<|c (a 0)<|c (a 1) g)<|b (v<|k 8 559<|c (a 0)<|c (a 1)<|c (j (j (a 0) 14) 3)<|c (a 2) g)<|b (o (m (a 1) C<|p 9<|q 1) (b (v<|k 10 566<|c (a 0)<|c (a 2) g) e) e)<|b (A (h 4) (D<|c (p 11<|q 2)<|c (p 12<|q 3)<|c (p 13<|q 4)<|c (p 14<|q 5)<|c (p 15<|q 6) g)<|b (v<|k 16 475<|c (a 0)<|c (a 4)<|c (a 3)<|c (a 2) g) e)<|b (o (m (a 1) C<|p 17<|q 0) (b (v<|k 18 461<|c (a 0)<|c (a 2) g) e) e)<|b (n<|a 2) e⟩
abbrev AH:Fn:=⟨1,rU 5 [97,82,65,64,96,94,95],b (i (h 1)<|.ite (k 5 419<|c (a 0) g) (D<|c (p 6<|q 3) g)<|D<|c (p 7<|q 0)<|c (p 8<|q 1) g)<|b (i (h 2)<|k 9 440<|c (a 0)<|c (j (a 0) 19) g)<|b (A (h 3) (a 1)<|b (A (h 4) (k 10 622<|c (a 0)<|c (a 3) g)<|b (o (k 11 615<|c (a 0)<|c (a 4)<|c (a 2) g) (b (n<|F true) e) e) e) e)<|b (n<|F false) e⟩
abbrev yZ:Fn:=⟨1,rU 1 [98],b (o (m (j (a 0) 22) Y<|R 1<|j (a 0) 24) (b (n<|j (a 0) 22) e) e)<|b (n<|R 1<|j (a 0) 24) e⟩
abbrev Hq:Fn:=⟨2,rU 2 [98],b (o (m (a 1) s<|d 0) (b (n<|j (a 0) 23) e) e)<|b (n<|l (l (j (a 0) 24)<|f t (R 2<|j (a 0) 24)<|a 1)<|d 5) e⟩
abbrev FP:Fn:=⟨1,rU 3 [4,99,100],b (i (h 1)<|d 0)<|b (A (h 2) (L 3<|c (d 4)<|c (f x (k 4 636<|c (a 0) g)<|d 1)<|c (d 2) g)<|b (o (m (k 5 643<|c (a 0)<|c (a 2) g) s<|j (a 0) 23) (b (y (h 1) x<|d 1) e) e) e)<|b (n<|a 1) e⟩
abbrev CM:Fn:=⟨2,rU 2 [101],b (n<|m (f x (k 2 650<|c (a 0) g)<|d 1) .ge<|a 1) e⟩
abbrev wK:Fn:=⟨1,rU 3 [4,99,100],b (i (h 1)<|d 0)<|b (A (h 2) (L 3<|c (d 4)<|c (f x (k 4 636<|c (a 0) g)<|d 1)<|c (d 2) g)<|b (o (m (k 5 643<|c (a 0)<|c (a 2) g) s<|j (a 0) 23) (b (o (m (a 1) .gt<|d 0) (b (n<|.neg<|a 1) e) e)<|b (i (h 1)<|a 2) e) e) e)<|b (n<|a 1) e⟩
abbrev EM:Fn:=⟨1,rU 4 [99,4,100],b (i (h 1)<|k 4 636<|c (a 0) g)<|b (A (h 2) (L 5<|c (f x (a 1)<|d 1) g)<|b (A (h 3) (L 5<|c (f x (a 2)<|d 4)<|c (f x (a 1)<|d 1)<|c (d 2) g)<|b (o (m (k 6 643<|c (a 0)<|c (a 2) g) s<|k 6 643<|c (a 0)<|c (a 3) g) (b (n<|F true) e) e) e) e)<|b (n<|F false) e⟩
abbrev E7:Fn:=⟨1,rU 1 [97,102],b (n<|Q (k 1 419<|c (a 0) g)<|.not<|k 2 629<|c (a 0) g) e⟩
abbrev Dv:Fn:=⟨1,rU 1 [97,102],b (n<|Q (.not<|k 1 419<|c (a 0) g)<|.not<|k 2 629<|c (a 0) g) e⟩
abbrev Mg:Fn:=⟨1,rU 1 [103,104],b (n<|Q (m (j (a 0) 22) .ge<|p 1<|q 100)<|.not<|k 2 678<|c (a 0) g) e⟩
abbrev Cz:Fn:=⟨2,rU 2 [],b (n<|f r (f x (f G (a 1)<|j (a 0) 0)<|f K (a 1)<|j (a 0) 0)<|d 1) e⟩
abbrev vM:Fn:=⟨1,rU 3 [43,23,105],b (i (h 1)<|d 0)<|b (A (h 2) (k 3 98<|c (l (j (a 0) 17)<|p 4<|q 3) g)<|b (y (h 1) u<|f z (d 1)<|k 5 699<|c (j (a 0) 14)<|c (a 2) g) e)<|b (n<|m (a 1) C<|d 3) e⟩
abbrev Aa:Fn:=⟨1,rU 2 [26,22,20,1,106,23,44],b (i (h 1)<|j (a 0) 17)<|b (o (m (f u (f u (l (a 1)<|p 2<|q 1)<|l (a 1)<|p 3<|q 4)<|l (a 1)<|p 4<|q 5) C<|d 0) (b (n<|F false) e) e)<|b (o (m (l (a 1)<|p 5<|q 2) s<|d 0) (b (n<|k 6 706<|c (a 0) g) e) e)<|b (n<|Q (m (l (a 1)<|p 7<|q 3) s<|d 0)<|.not<|k 8 77<|c (l (a 1)<|p 5<|q 2) g) e⟩
abbrev zl:Fn:=⟨1,rU 1 [107,108,109],b (n<|M (k 1 713<|c (a 0) g)<|M (k 2 657<|c (a 0)<|c (d 3) g)<|k 3 692<|c (a 0) g) e⟩
abbrev xU:Fn:=⟨2,rU 3 [109,110],b (o (k 3 692<|c (a 0) g) (b (n<|F true) e) e)<|b (i (h 2)<|k 4 664<|c (a 0) g)<|b (n<|Q (m (a 2) C<|d 0)<|m (a 2) Y<|a 1) e⟩
abbrev OI:Fn:=⟨1,rU 1 [102,97,116,115,103,114,108,113,107,112,111],b (o (.not<|k 1 629<|c (a 0) g) (b (o (k 2 419<|c (a 0) g) (b (n<|p 3<|q 1) e) e)<|b (n<|p 4<|q 2) e) e)<|b (o (m (j (a 0) 22) .ge<|p 5<|q 100) (b (n<|p 6<|q 3) e) e)<|b (o (k 7 657<|c (a 0)<|c (d 3) g) (b (n<|p 8<|q 4) e) e)<|b (o (k 9 713<|c (a 0) g) (b (n<|p 10<|q 5) e) e)<|b (n<|p 11<|q 0) e⟩
abbrev Fs:Fn:=⟨1,rU 2 [117,111,116,27],b (i (h 1)<|k 2 734<|c (a 0) g)<|b (o (m (a 1) s<|p 3<|q 0) (b (n<|.str (bb "*")) e) e)<|b (o (m (a 1) C<|p 4<|q 1) (b (n<|.str (bb "1/2-1/2")) e) e)<|b (o (m (j (a 0) 19) s<|p 5<|q 0) (b (n<|.str (bb "0-1")) e) e)<|b (n<|.str (bb "1-0")) e⟩
abbrev FC:Fn:=⟨2,[U,U,U,U,J 87,J 86,U,J 28,J 29],b (i (h 2)<|k 4 49<|c (a 1) g)<|b (o (M (m (a 2) .ge<|j (j (a 0) 14) 2)<|m (k 5 56<|c (a 1) g) .ge<|j (j (a 0) 14) 2) (b .fail e) e)<|b (i (h 3)<|l (j (a 0) 16)<|a 2)<|b (o (M (m (a 3) s<|p 7<|q 0)<|m (k 8 28<|c (a 3) g) C<|j (a 0) 19) (b .fail e) e)<|b (n<|a 3) e⟩
abbrev Cm:Fn:=⟨2,rU 3 [86,85,76,27],b (i (h 2)<|k 3 56<|c (a 1) g)<|b (o (m (k 4 63<|c (a 1) g) C<|p 5<|q 2) (b (n<|a 2) e) e)<|b (o (m (j (a 0) 19) s<|p 6<|q 0) (b (n<|f t (a 2)<|j (j (a 0) 14) 0) e) e)<|b (n<|f x (a 2)<|j (j (a 0) 14) 0) e⟩
abbrev Ca:Fn:=⟨4,rU 7 [26],b (i (h 4)<|j (j (a 0) 14) 0)<|b (o (Q (m (f t (a 3)<|a 2) C<|f B (d 2)<|a 4)<|m (f t (a 2)<|a 3) C<|f B (d 2)<|a 4) (b (n<|.neg<|d 1) e) e)<|b (i (h 5)<|f K (f x (a 2)<|a 3)<|d 2)<|b (i (h 6)<|f r (l (j (a 0) 17)<|p 7<|q 1)<|l (j (a 0) 18)<|f t (d 1)<|a 1)<|b (o (m (f r (l (l (j (j (a 0) 14) 11)<|a 1)<|a 5)<|a 6) s<|d 0) (b (n<|.neg<|d 1) e) e)<|b (n<|a 5) e⟩
abbrev Fo:Fn:=⟨3,rU 4 [],b (i (h 3)<|f u (l (j (j (a 0) 14) 13)<|a 1)<|l (j (j (a 0) 14) 13)<|a 2)<|b (n<|f t (j (a 0) 20)<|f r (j (a 0) 20)<|a 3) e⟩
abbrev Ei:Fn:=⟨1,rU 1 [],b (o (m (j (a 0) 21) .ge<|d 0) (b (y (w (a 0) 23) X<|l (j (j (a 0) 15) 21)<|f G (j (a 0) 21)<|j (j (a 0) 14) 0)<|b (i (w (a 0) 21)<|.neg<|d 1) e) e) e⟩
abbrev HS:Fn:=⟨2,rU 2 [],b (o (m (a 1) .ge<|d 0) (b (y (w (a 0) 23) X<|l (j (j (a 0) 15) 21)<|f G (a 1)<|j (j (a 0) 14) 0) e) e)<|b (i (w (a 0) 21)<|a 1) e⟩
abbrev AF:Fn:=⟨2,rU 2 [],b (o (m (a 1) C<|j (a 0) 20) (b (y (w (a 0) 23) X<|f X (l (j (j (a 0) 15) 20)<|j (a 0) 20)<|l (j (j (a 0) 15) 20)<|a 1)<|b (i (w (a 0) 20)<|a 1) e) e) e⟩
abbrev Oe:Fn:=⟨2,rU 10 [130,87,86,85,59,129,128,127,28,126,0,123,124,125,122,30,26,120,121,118,119,31],b (i (h 2)<|k 10 748<|c (a 0)<|c (a 1) g)<|b (i (h 3)<|j (a 0) 19)<|b (i (h 4)<|k 11 49<|c (a 1) g)<|b (i (h 5)<|k 12 56<|c (a 1) g)<|b (i (h 6)<|k 13 63<|c (a 1) g)<|b (i (h 7)<|N<|c (.neg<|d 1)<|c (.neg<|d 1) g)<|b (o (m (a 6) s<|p 14<|q 3) (b (i (h 7)<|k 15 762<|c (j (a 0) 14)<|c (a 3)<|c (a 5) g) e) e)<|b (i (h 8)<|k 16 755<|c (a 0)<|c (a 1) g)<|b (i (h 9)<|l (j (a 0) 16)<|a 8)<|b (v<|W (j (a 0) 24)<|N<|c (a 1)<|c (a 9)<|c (j (a 0) 20)<|c (j (a 0) 21)<|c (j (a 0) 22)<|c (j (a 0) 23) g)<|b (v<|k 17 783<|c (a 0) g)<|b (y (w (a 0) 22) x<|d 1)<|b (o (m (a 9) C<|p 18<|q 0) (b (v<|k 19 314<|c (a 0)<|c (a 8) g)<|b (i (w (a 0) 22)<|d 0) e) e)<|b (o (m (a 6) s<|p 20<|q 1) (b (v<|k 19 314<|c (a 0)<|c (a 4) g)<|b (v<|k 21 307<|c (a 0)<|c (k 22 21<|c (a 3)<|c (k 23 70<|c (a 1) g) g)<|c (a 5) g) e)<|b (v<|k 24 321<|c (a 0)<|c (a 4)<|c (a 5) g) e)<|b (o (m (a 6) s<|p 14<|q 3) (b (v<|k 24 321<|c (a 0)<|c (l (a 7)<|d 0)<|c (l (a 7)<|d 1) g) e) e)<|b (o (m (k 25 35<|c (a 2) g) s<|p 26<|q 1) (b (i (w (a 0) 22)<|d 0)<|b (v<|k 27 790<|c (a 0)<|c (k 28 769<|c (a 0)<|c (a 3)<|c (a 4)<|c (a 5) g) g) e) e)<|b (v<|k 29 797<|c (a 0)<|c (k 30 776<|c (a 0)<|c (a 4)<|c (a 5) g) g)<|b (o (m (a 3) s<|p 31<|q 1) (b (y (w (a 0) 3) x<|d 1) e) e)<|b (i (w (a 0) 19)<|f t (d 1)<|a 3)<|b (y (w (a 0) 23) X<|j (j (a 0) 15) 19) e⟩
abbrev I2:Fn:=⟨1,[U,U,U,U,U,U,U,U,U,U,U,U,J 98,U,J 87,J 86,J 85,J 0,J 126,J 123,J 124,J 26,J 122,J 59,J 129,J 28,J 128,J 31],b (o (m (R 12<|j (a 0) 24) s<|d 0) (b .fail e) e)<|b (i (.tup [1,2,3,4,5,6])<|.pop<|j (a 0) 24)<|b (i (h 7)<|f t (d 1)<|j (a 0) 19)<|b (i (w (a 0) 19)<|a 7)<|b (i (h 8)<|k 14 49<|c (a 1) g)<|b (i (h 9)<|k 15 56<|c (a 1) g)<|b (i (h 10)<|k 16 63<|c (a 1) g)<|b (o (m (a 10) s<|p 17<|q 1) (b (v<|k 18 314<|c (a 0)<|c (a 9) g)<|b (v<|k 19 307<|c (a 0)<|c (k 20 21<|c (a 7)<|c (p 21<|q 1) g)<|c (a 8) g) e)<|b (v<|k 22 321<|c (a 0)<|c (a 9)<|c (a 8) g) e)<|b (o (m (a 10) s<|p 23<|q 3) (b (i (h 11)<|k 24 762<|c (j (a 0) 14)<|c (a 7)<|c (a 9) g)<|b (v<|k 22 321<|c (a 0)<|c (l (a 11)<|d 1)<|c (l (a 11)<|d 0) g) e) e)<|b (o (m (a 2) C<|p 25<|q 0) (b (v<|k 19 307<|c (a 0)<|c (a 2)<|c (k 26 755<|c (a 0)<|c (a 1) g) g) e) e)<|b (o (m (a 7) s<|p 27<|q 1) (b (y (w (a 0) 3) t<|d 1) e) e)<|b (i (w (a 0) 20)<|a 3)<|b (i (w (a 0) 21)<|a 4)<|b (i (w (a 0) 22)<|a 5)<|b (i (w (a 0) 23)<|a 6) e⟩
abbrev wY:Fn:=⟨5,rU 5 [],b (i (w (a 0) 25)<|a 1)<|b (i (w (a 0) 21)<|a 2)<|b (i (w (a 0) 20)<|a 3)<|b (i (w (a 0) 19)<|a 4) e⟩
abbrev Ec:Fn:=⟨4,rU 11 [132,131],b (i (h 4)<|f G (l (a 2)<|a 3)<|d 8)<|b (i (h 5)<|p 11<|.con 841)<|b (o (m (a 4) s<|d 1) (b (i (h 6)<|f t (d 1)<|f B (f K (l (a 2)<|a 3)<|d 8)<|d 2)<|b (i (h 5)<|D<|c (N<|c (d 1)<|c (a 6) g)<|c (N<|c (.neg<|d 1)<|c (a 6) g) g) e)<|b (o (m (a 4) s<|d 2) (b (i (h 5)<|p 12<|.con 850) e)<|b (o (m (a 4) s<|d 3) (b (i (h 5)<|.slice (p 11<|.con 841) (d 4) .bK) e)<|b (o (m (a 4) s<|d 4) (b (i (h 5)<|.slice (p 11<|.con 841) .bK<|d 4) e) e) e) e) e)<|b (i (h 7)<|D g)<|b (A (.tup [8,6]) (a 5)<|b (i (h 9)<|f x (f G (a 3)<|a 0)<|a 8)<|b (i (h 10)<|f x (f K (a 3)<|a 0)<|a 6)<|b (.loop (Q (.bU (d 0) .le (a 9) Y<|a 0)<|.bU (d 0) .le (a 10) Y<|a 1)<|b (v<|W (a 7)<|f x (f B (a 10)<|a 0)<|a 9)<|b (o (M (l (a 2)<|f x (f B (a 10)<|a 0)<|a 9)<|m (a 4) .isin<|N<|c (d 1)<|c (d 2)<|c (d 6) g) (b .brk e) e)<|b (y (h 9) x<|a 8)<|b (y (h 10) x<|a 6) e) e)<|b (n<|a 7) e⟩
abbrev Lw:Fn:=⟨5,rU 6 [4,98,133],b (A (h 5) (L 6<|c (R 7<|a 2) g)<|b (o (Q (l (a 2)<|a 5)<|Q (m (f K (l (a 2)<|a 5)<|d 8) C<|a 4)<|m (a 3) .isin<|k 8 857<|c (a 0)<|c (a 1)<|c (a 2)<|c (a 5) g) (b (n<|F false) e) e) e)<|b (n<|F true) e⟩
abbrev Jc:Fn:=⟨4,rU 7 [133],b (i (h 4)<|f K (l (a 2)<|a 3)<|d 8)<|b (i (h 5)<|k 7 857<|c (a 0)<|c (a 1)<|c (a 2)<|c (a 3) g)<|b (o (m (f G (l (a 2)<|a 3)<|d 8) C<|d 1) (b (n<|.comp (a 8) 8 (a 5)<|M (m (l (a 2)<|a 8) s<|d 0)<|m (f K (l (a 2)<|a 8)<|d 8) C<|a 4) e) e)<|b (i (h 5)<|.comp (a 8) 8 (a 5)<|Q (l (a 2)<|a 8)<|m (f K (l (a 2)<|a 8)<|d 8) C<|a 4)<|b (i (h 6)<|f t (f x (a 3)<|a 0)<|f B (f B (d 2)<|a 0)<|a 4)<|b (o (m (l (a 2)<|a 6) s<|d 0) (b (v<|W (a 5)<|a 6) e) e)<|b (n<|a 5) e⟩
abbrev KG:Fn:=⟨5,rU 7 [134],b (i (h 5)<|f K (l (a 2)<|a 3)<|d 8)<|b (i (h 6)<|.slice (a 2) .bK .bK)<|b (i (P (a 6)<|a 4)<|l (a 6)<|a 3)<|b (i (P (a 6)<|a 3)<|d 0)<|b (n<|k 7 864<|c (a 0)<|c (a 1)<|c (a 6)<|c (.index (a 6)<|f x (f B (a 5)<|d 8)<|d 6)<|c (a 5) g) e⟩
abbrev Kq:Fn:=⟨5,rU 9 [4,98,136,135],b (i (h 5)<|D g)<|b (A (h 6) (L 9<|c (R 10<|a 2) g)<|b (o (Q (l (a 2)<|a 6)<|m (f K (l (a 2)<|a 6)<|d 8) s<|a 3) (b (y (h 5) x<|.comp (N<|c (a 6)<|c (a 13) g) 13 (k 11 869<|c (a 0)<|c (a 1)<|c (a 2)<|c (a 6) g)<|F true) e) e) e)<|b (A (h 8) (L 9<|c (R 10<|a 5) g)<|b (i (.tup [6,7])<|l (a 5)<|f G (f x (a 4)<|a 8)<|R 10<|a 5)<|b (o (k 12 876<|c (a 0)<|c (a 1)<|c (a 2)<|c (a 6)<|c (a 7) g) (b (n<|N<|c (a 6)<|c (a 7) g) e) e) e)<|b (n<|N g) e⟩
abbrev L6:Fn:=⟨5,rU 5 [136,135],b (o (M (m (a 4) s<|N g)<|M (m (l (a 2)<|l (a 4)<|d 0) s<|d 0)<|m (f K (l (a 2)<|l (a 4)<|d 0)<|d 8) C<|a 3) (b (n<|F false) e) e)<|b (n<|Q (m (l (a 4)<|d 1) .isin<|k 5 869<|c (a 0)<|c (a 1)<|c (a 2)<|c (l (a 4)<|d 0) g)<|k 6 876<|c (a 0)<|c (a 1)<|c (a 2)<|c (l (a 4)<|d 0)<|c (l (a 4)<|d 1) g) e⟩
abbrev LT:Fn:=⟨4,rU 8 [4],b (i (h 4)<|d 0)<|b (A (h 5) (L 8<|c (d 4) g)<|b (i (h 6)<|f B (f B (f K (a 5)<|d 2)<|a 0)<|f t (a 1)<|d 1)<|b (i (h 7)<|f x (a 6)<|f B (f t (a 0)<|d 1)<|f t (d 1)<|f G (a 5)<|d 2)<|b (o (Q (f r (f I (a 3)<|a 5)<|d 1)<|Q (m (l (a 2)<|f x (a 6)<|d 3) s<|f x (f B (f K (a 5)<|d 2)<|d 8)<|d 6)<|m (l (a 2)<|a 7) s<|f x (f B (f K (a 5)<|d 2)<|d 8)<|d 4) (b (y (h 4) u<|f z (d 1)<|a 5) e) e) e)<|b (n<|a 4) e⟩
abbrev KE:Fn:=⟨2,rU 3 [4,98],b (i (h 2)<|.comp (N<|c (f G (l (a 1)<|a 5)<|d 8)<|c (f G (f x (f G (a 5)<|a 0)<|f K (a 5)<|a 0)<|d 2) g) 5 (L 3<|c (R 4<|a 1) g)<|m (f G (l (a 1)<|a 5)<|d 8) .b7<|N<|c (d 0)<|c (d 6) g)<|b (o (M (m (a 2) s<|D<|c (N<|c (d 2)<|c (d 0) g) g)<|m (a 2) s<|D<|c (N<|c (d 2)<|c (d 1) g) g) (b (n<|F true) e) e)<|b (n<|M (m (a 2) s<|.rep (c (N<|c (d 3)<|c (d 0) g) g)<|R 4<|a 2)<|m (a 2) s<|.rep (c (N<|c (d 3)<|c (d 1) g) g)<|R 4<|a 2) e⟩
abbrev we:Fn:=⟨7,rU 18 [98,134,141,4,140,101,108,110,139,107,138,137,117],b (i (.tup [7,8,9])<|l (a 3)<|f t (R 18<|a 3)<|d 1)<|b (i (h 10)<|k 19 864<|c (a 1)<|c (a 2)<|c (a 7)<|c (.index (a 7)<|f x (f B (a 8)<|d 8)<|d 6)<|c (a 8) g)<|b (i (h 11)<|m (k 20 881<|c (a 1)<|c (a 2)<|c (a 7)<|c (a 8)<|c (d 0) g) s<|N g)<|b (i (h 12)<|f t (R 18<|a 3)<|d 1)<|b (i (h 13)<|.comp (f t (a 12)<|a 31) 31 (L 21<|c (a 12) g)<|m (l (a 3)<|a 31) s<|l (a 3)<|a 12)<|b (i (h 14)<|d 0)<|b (o (m (R 18<|a 13) s<|d 1) (b (i (h 14)<|l (a 13)<|d 0) e) e)<|b (o (m (R 18<|a 13) .gt<|d 1) (b (i (h 14)<|.neg<|l (a 13)<|f t (R 18<|a 13)<|d 1) e) e)<|b (i (h 15)<|k 22 900<|c (a 1)<|c (a 7) g)<|b (i (h 16)<|Q (m (a 5) .ge<|d 100)<|M (a 10)<|.not<|a 11)<|b (i (h 17)<|d 0)<|b (o (Q (a 11)<|a 10) (b (i (h 17)<|d 2) e)<|b (o (a 11) (b (i (h 17)<|d 1) e)<|b (o (m (a 5) .ge<|d 100) (b (i (h 17)<|d 3) e)<|b (o (m (R 18<|a 13) .gt<|d 1) (b (i (h 17)<|d 4) e)<|b (o (a 15) (b (i (h 17)<|d 5) e) e) e) e) e) e)<|b (o (M (m (k 23 650<|c (a 0) g) C<|R 18<|a 13)<|m (k 24 657<|c (a 0)<|c (f G (a 6)<|d 5) g) C<|m (f x (R 18<|a 13)<|d 1) .ge<|f G (a 6)<|d 5) (b (n<|F false) e) e)<|b (o (M (m (k 25 664<|c (a 0) g) C<|a 14)<|m (k 26 671<|c (a 0) g) C<|a 4) (b (n<|F false) e) e)<|b (o (M (m (k 27 713<|c (a 0) g) C<|a 15)<|m (k 28 720<|c (a 0) g) C<|M (a 15)<|M (m (R 18<|a 13) .gt<|d 1)<|a 16) (b (n<|F false) e) e)<|b (o (m (k 29 727<|c (a 0)<|c (f G (a 6)<|d 11) g) C<|M (a 16)<|Q (m (a 14) C<|d 0)<|m (a 14) Y<|f G (a 6)<|d 11) (b (n<|F false) e) e)<|b (n<|m (k 30 734<|c (a 0) g) s<|a 17) e⟩
abbrev BK:Fn:=⟨5,rU 13 [4,142,134],b (i (h 5)<|f B (a 0)<|a 1)<|b (i (h 6)<|.rep (c (d 0) g)<|a 5)<|b (o (m (a 0) s<|d 7) (b (i (P (a 6)<|d 3)<|d 6)<|b (i (P (a 6)<|d 17)<|d 14)<|b (A (h 7) (L 13<|c (d 4) g)<|b (o (f r (f I (a 3)<|a 7)<|d 1) (b (i (P (a 6)<|l (D<|c (d 6)<|c (d 0)<|c (d 20)<|c (d 14) g)<|a 7)<|l (D<|c (d 4)<|c (d 4)<|c (d 12)<|c (d 12) g)<|a 7) e) e) e) e)<|b (i (h 8)<|f G (l (a 4)<|d 2)<|a 5)<|b (i (P (a 6)<|a 8)<|d 6)<|b (A (h 9) (L 13<|c (a 5) g)<|b (i (h 10)<|f G (f x (f K (l (a 4)<|d 2)<|a 5)<|a 9)<|a 5)<|b (o (Q (m (d 14) .b7<|a 6)<|M (m (.abs 14<|f t (f G (a 10)<|d 3)<|f G (a 8)<|d 3) .gt<|d 1)<|m (.abs 14<|f t (f K (a 10)<|d 3)<|f K (a 8)<|d 3) .gt<|d 1) (b (i (P (a 6)<|a 10)<|d 14) e) e) e) e)<|b (A (h 11) (.slice (a 4) (d 3)<|d 7)<|b (i (h 12)<|l (D<|c (d 0)<|c (d 5)<|c (d 4)<|c (d 2)<|c (d 3)<|c (d 1)<|c (d 4)<|c (d 3) g)<|f G (a 11)<|d 8)<|b (i (h 10)<|f G (f K (a 11)<|d 16)<|a 5)<|b (o (Q (a 12)<|Q (m (l (a 6)<|a 10) s<|d 0)<|M (m (a 12) C<|d 1)<|.bU (d 0) Y (f K (a 10)<|a 0) Y<|f t (a 1)<|d 1) (b (i (P (a 6)<|a 10)<|f x (f B (f G (f K (a 11)<|d 8)<|d 2)<|d 8)<|a 12)<|b (o (.not<|k 15 864<|c (a 0)<|c (a 1)<|c (a 6)<|c (.index (a 6)<|f t (d 14)<|f B (d 8)<|a 2)<|c (f t (d 1)<|a 2) g) (b (i (P (a 6)<|a 10)<|d 0) e) e) e) e) e)<|b (n<|a 6) e⟩
abbrev qC:Fn:=⟨6,rU 13 [4,145,143,144,123],b (i (h 6)<|f B (a 0)<|a 1)<|b (i (h 7)<|f B (d 15)<|a 6)<|b (i (h 8)<|D g)<|b (A (h 9) (L 13<|c (d 15) g)<|b (v<|W (a 8)<|.comp (f z (d 1)<|f x (f B (a 9)<|a 6)<|a 18) 18 (L 13<|c (a 6) g)<|F true) e)<|b (i (h 11)<|k 14 828<|c (a 8)<|c (.rep (c (d 0) g)<|a 0)<|c (.comp (f z (d 1)<|f x (a 7)<|a 18) 18 (L 13<|c (d 16) g)<|F true)<|c (f z (d 1)<|f x (a 7)<|d 16) g)<|b (i (h 12)<|k 15 296<|c (k 16 237<|c (a 0)<|c (a 1)<|c (F false)<|c (m (a 0) s<|d 7) g)<|c (a 11) g)<|b (A (h 10) (L 13<|c (a 6) g)<|b (o (l (a 2)<|a 10) (b (v<|k 17 307<|c (a 12)<|c (l (a 2)<|a 10)<|c (a 10) g) e) e) e)<|b (i (w (a 12) 19)<|a 3)<|b (i (w (a 12) 20)<|a 4)<|b (i (w (a 12) 22)<|a 5)<|b (y (w (a 12) 23) X<|f z (d 1)<|f x (a 7)<|a 4)<|b (o (m (a 3) s<|d 1) (b (y (w (a 12) 23) X<|f z (d 1)<|f x (a 7)<|d 16) e) e)<|b (n<|a 12) e⟩
abbrev GF:Fn:=⟨1,rU 23 [4,154,153,146,98,152,141,151,150,117,148,149,147],b (i (h 1)<|.comp (.ite (m (a 36) Y<|R 27<|a 0) (l (a 0)<|a 36)<|d 0) 36 (L 23<|c (d 7) g)<|F true)<|b (i (.tup [2,3])<|l (D<|c (N<|c (d 3)<|c (d 4) g)<|c (N<|c (d 7)<|c (d 3) g) g)<|f G (l (a 1)<|d 0)<|d 2)<|b (i (h 4)<|f G (f K (l (a 1)<|d 0)<|d 2)<|d 2)<|b (i (h 5)<|d 0)<|b (o (m (a 2) s<|d 7) (b (i (h 5)<|f G (f K (l (a 1)<|d 0)<|d 4)<|d 16) e) e)<|b (i (h 6)<|f G (l (a 1)<|d 1)<|d 104)<|b (i (h 7)<|k 24 912<|c (a 2)<|c (a 3)<|c (a 4)<|c (a 5)<|c (a 1) g)<|b (i (h 8)<|k 25 917<|c (a 2)<|c (a 3)<|c (a 7)<|c (a 4)<|c (a 5)<|c (a 6) g)<|b (i (h 9)<|D<|c (N<|c (a 7)<|c (a 4)<|c (a 5) g) g)<|b (i (h 10)<|d 0)<|b (i (h 11)<|F false)<|b (i (h 12)<|D<|c (N g)<|c (N g) g)<|b (o (.not<|k 26 905<|c (a 8)<|c (a 2)<|c (a 3)<|c (a 9)<|c (F false)<|c (a 6)<|c (l (a 1)<|d 2) g) (b (n<|F false) e) e)<|b (A (h 13) (.slice (a 0) (d 7)<|d 15)<|b (i (.tup [7,4,5])<|l (a 9)<|f t (R 27<|a 9)<|d 1)<|b (i (h 14)<|l (a 12)<|a 4)<|b (o (M (m (f G (a 13)<|d 3) C<|d 0)<|.not<|k 28 888<|c (a 2)<|c (a 3)<|c (a 7)<|c (a 4)<|c (a 14) g) (b (i (h 14)<|k 29 881<|c (a 2)<|c (a 3)<|c (a 7)<|c (a 4)<|c (f K (a 13)<|d 3) g) e) e)<|b (o (m (a 14) s<|N g) (b .brk e) e)<|b (i (.tup [15,16])<|a 14)<|b (i (h 17)<|f u (a 16)<|f z (a 15)<|d 6)<|b (y (h 6) x<|d 1)<|b (o (M (l (a 7)<|a 16)<|m (f G (l (a 7)<|a 15)<|d 8) s<|d 1) (b (i (h 6)<|d 0) e) e)<|b (i (h 18)<|.slice (a 7) .bK .bK)<|b (i (P (a 18)<|a 16)<|l (a 7)<|a 15)<|b (i (P (a 18)<|a 15)<|d 0)<|b (o (Q (m (f G (l (a 7)<|a 15)<|d 8) s<|d 1)<|m (f K (a 16)<|a 2) .isin<|N<|c (d 0)<|c (f t (a 3)<|d 1) g) (b (i (P (a 18)<|a 16)<|f x (f x (f B (a 4)<|d 8)<|d 2)<|f G (f K (a 13)<|d 3)<|d 4)<|b (y (h 17) u<|f u (f z (d 1)<|d 14)<|f z (f G (f K (a 13)<|d 3)<|d 4)<|d 12) e) e)<|b (v<|k 30 804<|c (a 8)<|c (a 17) g)<|b (o (m (a 6) s<|d 0) (b (i (h 10)<|R 27<|a 9)<|b (i (h 11)<|F false) e) e)<|b (i (h 19)<|N<|c (a 18)<|c (f t (d 1)<|a 4)<|c (k 31 895<|c (a 2)<|c (a 3)<|c (a 18)<|c (a 5) g) g)<|b (i (h 11)<|M (a 11)<|m (a 19) .isin<|.slice (a 9) (a 10) .bK)<|b (v<|W (a 9)<|a 19)<|b (i (P (a 12)<|a 4)<|N<|c (a 16)<|c (a 15) g)<|b (o (.not<|k 26 905<|c (a 8)<|c (a 2)<|c (a 3)<|c (a 9)<|c (a 11)<|c (a 6)<|c (a 13) g) (b (n<|F false) e) e) e)<|b (i (h 20)<|k 32 734<|c (a 8) g)<|b (i (h 21)<|f x (D<|c (.str (bb "*"))<|c (l (D<|c (.str (bb "0-1"))<|c (.str (bb "1-0")) g)<|l (l (a 9)<|f t (R 27<|a 9)<|d 1)<|d 1) g)<|.rep (c (.str (bb "1/2-1/2")) g)<|d 4)<|b (o (M (m (k 33 741<|c (a 8) g) C<|l (a 21)<|a 20)<|m (k 34 685<|c (a 8) g) C<|m (a 20) s<|d 2) (b (n<|F false) e) e)<|b (A (h 22) (L 23<|c (f t (R 27<|a 9)<|d 1) g)<|b (v<|k 35 811<|c (a 8) g) e)<|b (n<|k 26 905<|c (a 8)<|c (a 2)<|c (a 3)<|c (.slice (a 9) .bK<|d 1)<|c (F false)<|c (f G (l (a 1)<|d 1)<|d 104)<|c (l (a 1)<|d 2) g) e⟩
end
end
end Mine.Lake
section
local macro_rules (kind := Lean.Parser.Term.tuple) | s => Mine.Lake.mK s
namespace MineH.Lake
noncomputable section
abbrev KF(P:nu):Frag:=fx [(3,y9 (HV P) 165)] <|
 kB m0 (em 15) "make_piece" 217 16 2 15 2 <|
 kB m0 (em 16) "side_of" 225 18 1 22 1 <|
 kB m0 (em 17) "kind_of" 232 20 1 29 1 <|
 kB m0 (em 18) "pack_move" 239 22 4 36 5 <|
 kB m0 (em 19) "move_from" 250 27 1 43 1 <|
 kB m0 (em 20) "move_to" 257 29 1 50 1 <|
 kB m0 (em 21) "move_special" 264 31 1 57 1 <|
 kB m0 (em 22) "move_promo" 271 33 1 64 1 <|
 kB m1 (em 24) "more_than_one" 280 38 1 71 1 <|
 kB m1 (em 25) "highest" 287 40 1 78 3 <|
 kB m1 (em 26) "lowest" 296 53 1 85 1 <|
 kB m1 (em 27) "squares_of" 303 55 1 92 3 <|
 kB m2 (em 29) "direction" 314 68 3 99 4 <|
 kB m2 (em 30) "between" 324 73 3 106 4 <|
 kB m2 (em 31) "line" 334 78 3 113 4 <|
 kB m2 (em 32) "aligned" 344 83 4 120 4 <|
 fx [(159,qR [I 0 403,I 1 404,I 0 405,I (-1) 407,I 1 408,I 1 409,I (-1) 411,I (-1) 413]),
 (160,qR [I 1 415,I 0 416,I (-1) 418,I 0 419,I 1 420,I (-1) 422,I (-1) 424,I 1 425]),
 (173,Au "__init__" "Geometry.__init__" 439 98 5 (I 3 0) (.ref 168) (.bool true) (I 181 0) (.ref 169) (.ref 170) (.ref 171) (.ref 172) 447),
 (174,C4 (Kl (em 39) 0) "Geometry.__init__" (S "chess.geometry" 401) (.ref 173)),
 (176,y9 [E P "__module__" 434 (S "chess.geometry" 401),E P "__firstlineno__" 438 (I 96 437),E P "__init__" 449 (.ref 174),E P "__static_attributes__" 464 (.ref 175),E P "__dict__" 466 (.ref 178),E P "__weakref__" 468 (.ref 179),E P "__doc__" 469 .none] 4),
 (177,TL (.type "type") U "Geometry" [.type "object"] [.ref 177,.type "object"] 176 "Geometry" true 0 [] false false U [U,U,J (S "Geometry" 427),J (S "Geometry" 435),J (.builtin "object.__new__"),J (.bool true)])] <|
 kB m3 (em 40) "is_growing" 472 113 1 182 1 <|
 kB m3 (em 41) "add_masks" 479 115 1 189 5 <|
 kB m3 (em 42) "inner_squares" 490 123 2 196 3 <|
 kB m3 (em 43) "add_rays" 499 134 1 203 8 <|
 kB m3 (em 44) "add_pawns" 513 149 1 210 2 <|
 kB m3 (em 45) "add_knights" 521 153 1 217 11 <|
 kB m3 (em 46) "add_castles" 538 165 1 224 7 <|
 kB m3 (em 47) "make_geometry" 551 182 4 231 5 <|
 kB m4 (em 49) "ray_attacks" 564 193 4 238 7 <|
 kB m4 (em 50) "rook_attacks" 577 208 3 245 5 <|
 kB m4 (em 51) "bishop_attacks" 588 213 3 252 5 <|
 kB m4 (em 52) "queen_attacks" 599 218 3 259 3 <|
 kB m4 (em 53) "slider_attacks" 608 220 4 266 4 <|
 kB m4 (em 54) "piece_attacks" 618 228 5 273 5 <|
 fx [(292,Au "__init__" "Position.__init__" 643 239 3 (I 3 0) (.ref 287) (.bool true) (I 181 0) (.ref 288) (.ref 289) (.ref 290) (.ref 291) 649),
 (293,C4 (Kl (em 56) 0) "Position.__init__" (S "chess.position" 629) (.ref 292)),
 (295,y9 [E P "__module__" 638 (S "chess.position" 629),E P "__firstlineno__" 642 (I 237 641),E P "__init__" 651 (.ref 293),E P "__static_attributes__" 664 (.ref 294),E P "__dict__" 666 (.ref 297),E P "__weakref__" 668 (.ref 298),E P "__doc__" 669 .none] 4),
 (296,TL (.type "type") U "Position" [.type "object"] [.ref 296,.type "object"] 295 "Position" true 0 [] false false U [U,U,J (S "Position" 631),J (S "Position" 639),J (.builtin "object.__new__"),J (.bool true)])] <|
 kB m5 (em 57) "put_piece" 672 252 3 301 4 <|
 kB m5 (em 58) "take_piece" 682 258 2 308 4 <|
 kB m5 (em 59) "shift_piece" 692 266 3 315 6 <|
 kB m5 (em 60) "occupied" 704 275 1 322 1 <|
 kB m5 (em 61) "pieces" 711 277 3 329 3 <|
 kB m5 (em 62) "king_square" 720 279 2 336 2 <|
 kB m6 (em 64) "straight_sliders" 730 282 1 343 1 <|
 kB m6 (em 65) "slanting_sliders" 737 284 1 350 1 <|
 kB m6 (em 66) "pawn_attackers" 744 286 3 357 3 <|
 kB m6 (em 67) "step_attackers" 753 288 3 364 5 <|
 kB m6 (em 68) "line_attackers" 764 293 3 371 6 <|
 kB m6 (em 69) "attackers_to" 776 302 3 378 4 <|
 kB m6 (em 70) "is_attacked" 786 305 4 385 8 <|
 kB m6 (em 71) "checkers_of" 800 315 2 392 3 <|
 kB m6 (em 72) "checkers" 809 318 1 399 1 <|
 kB m6 (em 73) "in_check_of" 816 320 2 406 3 <|
 kB m6 (em 74) "in_check" 825 323 1 413 1 <|
 kB m6 (em 75) "snipers_of" 832 325 2 420 4 <|
 kB m6 (em 76) "blockers" 842 330 2 427 9 <|
 kB m6 (em 77) "pinned_pieces" 857 343 2 434 2 <|
 kB m7 (em 86) "squares_within" 881 353 2 441 2 <|
 kB m7 (em 87) "castle_refusal" 889 357 2 448 9 <|
 kB m7 (em 88) "add_castling" 904 375 2 455 7 <|
 kB m8 (em 93) "add_goals" 925 384 3 462 4 <|
 kB m8 (em 94) "add_piece_moves" 935 387 4 469 7 <|
 kB m8 (em 95) "stage_target" 948 392 2 476 2 <|
 kB m9 (em 97) "push_step" 958 399 2 483 2 <|
 kB m9 (em 98) "start_mask" 966 403 2 490 2 <|
 kB m9 (em 99) "last_mask" 974 407 2 497 2 <|
 kB m9 (em 100) "shift_push" 982 411 3 504 3 <|
 kB m9 (em 101) "shift_capture" 991 415 4 511 4 <|
 kB m9 (em 102) "push_targets" 1001 419 2 518 8 <|
 kB m9 (em 103) "add_promotions" 1015 429 5 525 7 <|
 kB m9 (em 104) "add_plain_pushes" 1028 441 3 532 8 <|
 kB m9 (em 105) "add_push_promotions" 1042 449 4 539 8 <|
 kB m9 (em 106) "add_pawn_captures" 1056 455 4 546 12 <|
 kB m9 (em 107) "add_pawn_moves" 1074 468 4 553 4 <|
 kB m9 (em 108) "add_en_passant" 1084 474 2 560 4 <|
 kB Pw (em 110) "evasion_targets" 1096 481 2 567 2 <|
 kB Pw (em 111) "passed_pawn_square" 1104 485 1 574 1 <|
 kB Pw (em 112) "may_answer_en_passant" 1111 489 2 581 2 <|
 kB Pw (em 113) "add_evasions" 1119 493 2 588 4 <|
 kB Vt (em 115) "taken_square" 1131 503 2 595 3 <|
 kB Vt (em 117) "is_safe_en_passant" 1141 511 2 602 7 <|
 kB Vt (em 118) "is_legal" 1154 518 3 609 8 <|
 kB Wm (em 120) "generate" 1170 534 2 616 5 <|
 kB Wm (em 121) "has_legal_move" 1181 548 1 623 5 <|
 kB tZ (em 130) "reversible_plies" 1208 564 1 630 1 <|
 kB tZ (em 131) "key_before" 1215 568 2 637 2 <|
 kB tZ (em 132) "repetitions" 1223 572 1 644 3 <|
 kB tZ (em 133) "is_repetition" 1232 578 2 651 2 <|
 kB tZ (em 134) "repetition_distance" 1240 580 1 658 3 <|
 kB tZ (em 135) "has_repeated" 1249 588 1 665 4 <|
 kB tZ (em 136) "is_checkmate" 1259 595 1 672 1 <|
 kB tZ (em 137) "is_stalemate" 1266 597 1 679 1 <|
 kB tZ (em 138) "is_fifty" 1273 599 1 686 1 <|
 kB tZ (em 139) "square_colour" 1280 601 2 693 2 <|
 kB tZ (em 140) "bishops_on_one_colour" 1288 603 1 700 3 <|
 kB tZ (em 141) "is_insufficient" 1297 608 1 707 2 <|
 kB tZ (em 142) "is_draw_by_rule" 1305 615 1 714 1 <|
 kB tZ (em 143) "is_draw_in_search" 1312 617 2 721 3 <|
 kB tZ (em 144) "outcome" 1321 622 1 728 1 <|
 kB tZ (em 145) "result_text" 1328 634 1 735 2 <|
 kB y8 (em 147) "moved_piece" 1338 644 2 742 4 <|
 kB y8 (em 148) "taken_square" 1348 652 2 749 3 <|
 kB y8 (em 150) "rook_step" 1358 660 3 756 5 <|
 kB y8 (em 151) "passed_square" 1369 666 4 763 7 <|
 kB y8 (em 152) "kept_rights" 1382 675 3 770 4 <|
 kB y8 (em 153) "clear_ep_key" 1392 678 1 777 1 <|
 kB y8 (em 154) "set_ep_key" 1399 682 2 784 2 <|
 kB y8 (em 155) "set_rights_key" 1407 686 2 791 2 <|
 kB y8 (em 156) "do_move" 1415 690 2 798 10 <|
 kB y8 (em 157) "undo_move" 1431 722 1 805 12 <|
 fx [(824,Au "__init__" "Zobrist.__init__" 1463 750 5 (I 3 0) (.ref 819) (.bool true) (I 181 0) (.ref 820) (.ref 821) (.ref 822) (.ref 823) 1471),
 (825,C4 (Kl (em 159) 0) "Zobrist.__init__" (S "chess.zobrist" 1449) (.ref 824)),
 (827,y9 [E P "__module__" 1458 (S "chess.zobrist" 1449),E P "__firstlineno__" 1462 (I 748 1461),E P "__init__" 1473 (.ref 825),E P "__static_attributes__" 1478 (.ref 826),E P "__dict__" 1480 (.ref 829),E P "__weakref__" 1482 (.ref 830),E P "__doc__" 1483 .none] 4),
 (828,TL (.type "type") U "Zobrist" [.type "object"] [.ref 828,.type "object"] 827 "Zobrist" true 0 [] false false U [U,U,J (S "Zobrist" 1451),J (S "Zobrist" 1459),J (.builtin "object.__new__"),J (.bool true)]),
 (833,qR [I 0 1488,I 1 1489]),
 (834,qR [I 1 1490,I 0 1491]),
 (835,qR [I 0 1492,I (-1) 1494]),
 (836,qR [I (-1) 1496,I 0 1497]),
 (837,qR [I 1 1498,I 1 1499]),
 (838,qR [I 1 1500,I (-1) 1502]),
 (839,qR [I (-1) 1504,I (-1) 1506]),
 (840,qR [I (-1) 1508,I 1 1509]),
 (841,lsO [.ref 833,.ref 834,.ref 835,.ref 836,.ref 837,.ref 838,.ref 839,.ref 840] 0),
 (842,qR [I 1 1511,I 2 1512]),
 (843,qR [I 2 1513,I 1 1514]),
 (844,qR [I 2 1515,I (-1) 1517]),
 (845,qR [I 1 1518,I (-2) 1520]),
 (846,qR [I (-1) 1522,I (-2) 1524]),
 (847,qR [I (-2) 1526,I (-1) 1528]),
 (848,qR [I (-2) 1530,I 1 1531]),
 (849,qR [I (-1) 1533,I 2 1534]),
 (850,lsO [.ref 842,.ref 843,.ref 844,.ref 845,.ref 846,.ref 847,.ref 848,.ref 849] 0)] <|
 kB Nr (em 163) "_law_hits" 1536 758 4 851 11 <|
 kB Nr (em 164) "_law_safe" 1553 781 5 858 6 <|
 fx [(868,Au "_law_goals" "_law_goals" 1565 786 4 (I 3 0) (.ref 865) (.bool true) (I 181 0) (.ref 866) .none .none (.ref 867) 1568),
 (869,C4 (em 165) "_law_goals" (S "law_nt0468_01" 1486) (.ref 868))] <|
 kB Nr (em 166) "_law_fits" 1571 796 5 870 7 <|
 fx [(880,Au "_law_pick" "_law_pick" 1584 802 5 (I 3 0) (.ref 877) (.bool true) (I 181 0) (.ref 878) .none .none (.ref 879) 1587),
 (881,C4 (em 167) "_law_pick" (S "law_nt0468_01" 1486) (.ref 880))] <|
 kB Nr (em 168) "_law_back" 1590 812 5 882 5 <|
 kB Nr (em 169) "_law_kept" 1601 816 4 889 8 <|
 fx [(899,Au "_law_bare" "_law_bare" 1615 824 2 (I 3 0) (.ref 896) (.bool true) (I 181 0) (.ref 897) .none .none (.ref 898) 1618),
 (900,C4 (em 170) "_law_bare" (S "law_nt0468_01" 1486) (.ref 899)),
 (904,Au "_law_agrees" "_law_agrees" 1621 829 7 (I 3 0) (.ref 901) (.bool true) (I 181 0) (.ref 902) .none .none (.ref 903) 1624),
 (905,C4 (em 171) "_law_agrees" (S "law_nt0468_01" 1486) (.ref 904))] <|
 kB Nr (em 172) "_law_cells" 1627 862 5 906 13 <|
 [(916,Au "_law_position" "_law_position" 1646 886 6 (I 3 0) (.ref 913) (.bool true) (I 181 0) (.ref 914) .none .none (.ref 915) 1649),
 (917,C4 (em 173) "_law_position" (S "law_nt0468_01" 1486) (.ref 916)),
 (921,Au "law" "law" 1652 904 1 (I 3 0) (.ref 918) (.bool true) (I 181 0) (.ref 919) .none .none (.ref 920) 1655),
 (922,C4 (em 174) "law" (S "law_nt0468_01" 1486) (.ref 921))]
def Le(P:nu):(KF P).map (λp=>(Yo P).get p.1)=(KF P).map (λp=>J p.2):=()
def Dg(P:nu):(KF P).map (λp=>alive p.2)=(KF P).map (λp=>J p.2):=()
def Rl(P:nu):(KF P).all (λp=>decide (p.1<923))=true:=()
end
end MineH.Lake
namespace Mine.Lake
noncomputable section
section
open MineH.Lake (KF Yo em Kl Vk C4 Au Bv Le Dg Rl HV)
def K6{K:Frag}(h:K.lookup a=J o):(a,o)∈K:=by
 induction K with
 | nil=>cases h
 | cons p r ih=>
  obtain⟨b,ob⟩:=p;rw[d6] at h;cases q:a == b with
  | true=>rw[q] at h;cases h;rw[show a=b by simpa using q];exact .head _
  | false=>rw[q] at h;exact .tail _ (ih h)
def qi:∀{l:List α},l.map f=l.map g->∀x∈l,f x=g x
 | [],_,x,hx=>by cases hx
 | a::r,h,x,hx=>by
  rw[dw,dw] at h;injection h with h1 h2;cases hx with
  | head=>exact h1
  | tail _ hx=>exact qi h2 x hx
def Zd{K:Frag}{af:BT}(h1:K.map (λp=>af.get p.1)=K.map (λp=>J p.2))(h2:K.map (λp=>alive p.2)=K.map (λp=>J p.2))(h3:K.all (λp=>decide (p.1<923))=true)
  (Y:∀a o,a<923->af.get a=J o->alive o=J o->h.get? a=J o):K.In h:=λa o e=>by
 have hm:=K6 e;refine Y a o ?_ (qi h1 _ hm) (qi h2 _ hm);have:=cK.mp h3 _ hm;simpa using this
def UE{w:dq}{h:Heap}(Y:Vk w h):(KF w.params).In h:=Zd (Le w.params) (Dg w.params) (Rl w.params) Y
def To(P:nu):[177,296,828].map (λC=>(cn 26).map λn=>(plainGet (KF P) C (pI n),findIn (KF P) (.ref C) (pI n)))=[177,296,828].map λw=>(cn 26).map λw=>(true,J U):=()
def Mk(P:nu):[177,296,828].map (λC=>(hasDictIn (KF P) C,findIn (KF P) (.ref C) "__setattr__",plainOver (KF P) C,makesIn (KF P) C))=[177,296,828].map λw=>(true,J (J (.builtin "object.__setattr__")),true,true):=()
def UK:((cn 26).all λn=>(cn 26).all λm=> !oT (pI n) (pI m)||n == m)=true:=()
def C9(c:Nat):t8 c∈[177,296,828]:=match c with
 | 0=>.head _
 | 1=>.tail _ (.head _)
 | _+2=>.tail _ (.tail _ (.head _))
def W9(P:nu):W3 (KF P):=
 ⟨λc n hn=>have e:=qi (qi (To P) _ (C9 c)) n (cL.mpr hn);⟨cF kH e,cF Prod.snd e⟩,
 λc=>have e:=qi (Mk P) _ (C9 c);⟨cF (·.1) e,cF (·.2.1) e,cF (·.2.2.1) e⟩,
 λn m hn hm h=>by
  have z:=cK.mp (cK.mp UK n (cL.mpr hn)) m (cL.mpr hm);rw[vB,h] at z;exact cH z⟩
def Rg(P:nu)(c:Nat):makesIn (KF P) (t8 c)=true:=cF (·.2.2.2) (qi (Mk P) _ (C9 c))
abbrev Jj:Nat->Addr
 | 0=>174 | 1=>293 | _=>825
def QD(P:nu):(findIn (KF P) (.ref 177) "__init__",findIn (KF P) (.ref 296) "__init__",findIn (KF P) (.ref 828) "__init__",typeIn (KF P) (.ref 174),typeIn (KF P) (.ref 293),typeIn (KF P) (.ref 825))=
  (J (J (.ref 174)),J (J (.ref 293)),J (J (.ref 825)),J (.type "function"),J (.type "function"),J (.type "function")):=()
def PT(P:nu):ftL.all (λf=>keepIn (KF P) (.ref f))=true:=()
abbrev Yq:nf->V
 | .int i _=>.int i
 | .ref b=>.con b
 | _=>.none
abbrev Re:V->Bool
 | .int _=>true
 | .con _=>true
 | _=>false
def ST(e:Yq v=x)(h:Re x=true):VR [] x v:=by subst e;cases v<;>first | exact rfl | exact(cZ h).elim
def MS:∀{vs:List nf},(vs.map Yq).all Re=true->qS [] (vs.map Yq) vs
 | [],_=>.nil
 | _::_,h=>.cons (ST rfl (bl h)) (MS (br h))
abbrev gvS(x:Str):GV->Bool
 | .val v=>Re v
 | .len=>oT x (bb "len")
 | .abs=>oT x (bb "abs")
 | .range=>oT x (bb "range")
abbrev gvE:GV->Option (Option V)
 | .val v=>J (J v)
 | _=>J U
abbrev gvC(K:Frag)(x:Str):Option (Option V):=(nsIn K mainGlobals x).map (Option.map Yq)
def X1(P:nu):GT.map (λp=>(gvC (KF P) p.1,gvS p.1 p.2,dbg p.1))=GT.map λp=>(gvE p.2,true,false):=()
def yS:(bootBuiltins (bb "len"),bootBuiltins (bb "abs"),bootBuiltins (bb "range"))=(J (.builtin "len"),J (.builtin "abs"),J (.type "range")):=()
section
variable{K:Frag}{B:Heap}{mg mb:Str->Option nf}{x:Str}
def LM(X:K.In B)(hg:B.Ns mainGlobals mg)(hb:∀x:Str,x≠"__name__"->mb x=bootBuiltins x)(e:gvC K x=J U)(h:oT x (bb n)=true)(ne:bb n≠"__name__")(b:bootBuiltins (bb n)=J v):mg x=U/\mb x=J v:=
 ⟨mg_none_of X hg ((dg.mp e).elim λo r=>r.1.trans (cF J (Option.map_eq_none_iff.mp r.2))),(cF mb (oW h)).trans ((hb _ ne).trans b)⟩
def Zr(X:K.In B)(hg:B.Ns mainGlobals mg)(hb:∀x:Str,x≠"__name__"->mb x=bootBuiltins x):∀{g:GV},gvC K x=gvE g->gvS x g=true->TC mg mb x g
 | .val _,e,h=>(dg.mp e).elim λz r=>(dg.mp r.2).elim λw f=>⟨w,mg_of X hg (r.1.trans (cF J f.1)),ST f.2 h⟩
 | .len,e,h=>LM X hg hb e h (by decide +kernel) (cF (·.1) yS)
 | .abs,e,h=>LM X hg hb e h (by decide +kernel) (cF (·.2.1) yS)
 | .range,e,h=>LM X hg hb e h (by decide +kernel) (cF (·.2.2) yS)
end
abbrev LJ:List (Nat × Bool × List V):=[(159,false,[.int 0,.int 1,.int 0,.int (-1),.int 1,.int 1,.int (-1),.int (-1)]),
 (160,false,[.int 1,.int 0,.int (-1),.int 0,.int 1,.int (-1),.int (-1),.int 1]),
 (833,false,[.int 0,.int 1]),
 (834,false,[.int 1,.int 0]),
 (835,false,[.int 0,.int (-1)]),
 (836,false,[.int (-1),.int 0]),
 (837,false,[.int 1,.int 1]),
 (838,false,[.int 1,.int (-1)]),
 (839,false,[.int (-1),.int (-1)]),
 (840,false,[.int (-1),.int 1]),
 (841,true,[.con 833,.con 834,.con 835,.con 836,.con 837,.con 838,.con 839,.con 840]),
 (842,false,[.int 1,.int 2]),
 (843,false,[.int 2,.int 1]),
 (844,false,[.int 2,.int (-1)]),
 (845,false,[.int 1,.int (-2)]),
 (846,false,[.int (-1),.int (-2)]),
 (847,false,[.int (-2),.int (-1)]),
 (848,false,[.int (-2),.int 1]),
 (849,false,[.int (-1),.int 2]),
 (850,true,[.con 842,.con 843,.con 844,.con 845,.con 846,.con 847,.con 848,.con 849])]
abbrev yT(a:Nat):Option (Bool × List V):=LJ.lookup a
def HO(h:yT a=J p):(a,p)∈LJ:=by
 ext a p;obtain⟨l,r,e,_⟩:=List.lookup_eq_some_iff.mp h;exact e▸List.mem_append_right l (.head _)
abbrev XV:Bool × List V->O
 | (true,xs)=>.list xs
 | (false,xs)=>.tup xs
abbrev zj(sa:Nat)(ns:List Int)(a:Nat):Option O:=if a=sa then J (.list (ns.map .int)) else(yT a).map XV
abbrev Ye:nf->Option String
 | .type n=>J n
 | _=>U
def TU(h:Ye v=J n):v= .type n:=by cases v<;>first | exact cF _ (cI h) | exact oF h
abbrev WV:Data->Option (Array nf)
 | .seq vs _=>J vs
 | _=>U
def Vn(h:WV d=J vs):∃k,d= .seq vs k:=by
 ext d vs;cases d<;>first | exact⟨_,cF (Data.seq · _) (cI h)⟩ | exact oF h
abbrev aaK(K:Frag)(a:Nat):Option (String × List V):=(K.lookup a).bind λo=>(Ye o.cls).bind λn=>(WV o.data).map λvs=>(n,vs.toList.map Yq)
def U3(P:nu):LJ.map (λq=>(aaK (KF P) q.1,q.2.2.all Re))=LJ.map λq=>(J (if q.2.1 then "list" else "tuple",q.2.2),true):=()
def Tg(X:(KF P).In B):∀{p:Bool × List V},yT a=J p->CR B a (XV p):=λ{p} h=>
 have e:=qi (U3 P) _ (HO h)
 bd (cF (·.1) e) λo e1 q=>bd q λn e2 q=>(dg.mp q).elim λvs r=>(Vn r.1).elim λk e3=>
  have i:p.2.all Re=true:=cF (·.2) e
  have f:vs.toList.map Yq=p.2:=cF (·.2) r.2
  have m:qS [] p.2 vs.toList:=f▸MS (f.symm▸i)
  have c:o.cls= .type (if p.1 then "list" else "tuple"):=(TU e2).trans (cF (λq:String × List V=>Value.type q.1) r.2)
  match p,c,m with
  | (true,_),c,m=>⟨vs.toList,⟨o,X _ _ e1,c,k,e3⟩,m⟩
  | (false,_),c,m=>⟨vs.toList,⟨o,X _ _ e1,c,k,e3⟩,m⟩
noncomputable abbrev Tp(aR:nJ)(w:dq)(con:Nat->Option O)(B:Heap)(mg mb:Str->Option nf):Prop:=Pb aR w con (KF w.params) B mg mb GT ftL
def XM{aR:nJ}(Y:Vk w B)(hg:B.Ns mainGlobals mg)(hb:B.Ns builtinsNs mb)(hbb:∀x:Str,x≠"__name__"->mb x=bootBuiltins x)(nl:B.NoLimit)(hs:CR B sa (.list (ns.map .int))):
  Tp aR w (zj sa ns) B mg mb:=
 have X:=UE Y
 ⟨λa o h=>by
  unfold zj at h;by_cases q:a=sa
  .rw[cC q] at h;cases h;exact q▸hs
  .rw[cD q] at h;exact(dg.mp h).elim λp e=>e.2▸Tg X e.1,X,W9 _,hg,hb,nl,λp hp=>have z:=jz (qi (X1 w.params) p hp);have y:=jz z.2;⟨Zr X hg hbb z.1 y.1,(vB _ _).symm.trans y.2⟩,λf hf=>cK.mp (PT w.params) f hf⟩
noncomputable abbrev FT:=Option Obj × nf × Bool × FuncBody × Bool × Nat × Nat × Addr × List (Str × Addr)
abbrev fL(P:nu)(f:Fn)(st:Stmt)(q:String)(a:Nat):FT:=
 ((KF P).lookup a,(Bv st q).defaults,codeIn (KF P) (.ref (a - 1)) (Bv st q).qualname,(Bv st q).body,RR GT ftL f (Bv st q).params (Bv st q).scope (Y4 st),f.na,(Bv st q).scope.names.length,(Bv st q).builtins,(Bv st q).closure)
abbrev fR(st:Stmt)(q:String)(m:nf)(a k n:Nat):FT:=(J (C4 st q m (.ref (a - 1))),.none,true,.stmts (Y4 st),true,k,n,builtinsNs,[])
def nCx:Nonempty ((((((nJ × dq) × Heap) × (Str->Option nf)) × (Str->Option nf)) × Nat) × List Int):=by repeat' first | apply Mine.Lake.nP | infer_instance | exact⟨by repeat' first | exact default | intro _ | constructor⟩
abbrev cx:=tp7 (λaR w B mg mb sa ns=>ns.length<=63->yT sa=U->Tp aR w (zj sa ns) B mg mb->(KO aR w B (zj sa ns) 24).call 922 [.con sa] [] (λv z=>v= .bool true)) nCx
abbrev w0:dq:=cx.1.1.1.1.1.2
abbrev Md:Nat:=if yT cx.1.2=U then cx.1.2 else 1000
abbrev Pv:List Int:=if cx.2.length<=63 then cx.2 else[]
abbrev CA:Nat->Option O:=zj Md Pv
abbrev T0:Prop:=Tp cx.1.1.1.1.1.1 w0 CA cx.1.1.1.1.2 cx.1.1.1.2 cx.1.1.2
abbrev K0(d:Nat):pK:=@ite _ T0 (eT _) (KO cx.1.1.1.1.1.1 w0 cx.1.1.1.1.2 CA d) ⟨CA,λw w w w=>True⟩
def Fb(t:T0)(d:Nat):K0 d=KO cx.1.1.1.1.1.1 w0 cx.1.1.1.1.2 CA d:=cC t
def Hg(t:¬T0)(d:Nat):K0 d=⟨CA,λw w w w=>True⟩:=cD t
def P6:yT Md=U:=by
 unfold Md;split
 .assumption
 .decide +kernel
def MX:Pv.length<=63:=by
 unfold Pv;split
 .assumption
 .exact dF _
def ZS(n:Nat):(KO aR w B con n).con=con:=by cases n<;>rfl
def KP(d:Nat):(K0 d).con=CA:=by
 by_cases t:T0
 .rw[Fb t];exact ZS _
 .rw[Hg t]
def lw(d:Nat):(K0 d).aV:=by
 by_cases t:T0
 .rw[Fb t];exact MJ _ _ _ _ _
 .rw[Hg t];exact λw w w w w w w=>trivial
def Wv(h:(K0 24).call 922 [.con Md] [] (λv u=>v= .bool true)):∀(aR:nJ) (w:dq) (B:Heap) (mg mb:Str->Option nf) (sa:Nat) (ns:List Int),ns.length<=63->yT sa=U->Tp aR w (zj sa ns) B mg mb->(KO aR w B (zj sa ns) 24).call 922 [.con sa] [] (λv u=>v= .bool true):=
 hk7 (z:=nCx) λa b af=>by
  have e1:Md=cx.1.2:=cC b;have e2:Pv=cx.2:=cC a;have z:=h;rw[Fb (by unfold T0 CA;rw[e1,e2];exact af)] at z;unfold CA at z;rw[e1,e2] at z;exact z
noncomputable abbrev KC(d:Nat)(f:Fn)(a k n:Nat):Prop:=
 ∀{vs:List V} {T:H} {Q:V->H->Prop},vs.length=k->(oY T.length T->uO (K0 d) f.body (oP n vs) T (qN T.length Q))->(K0 (d+1)).call a vs T Q
section
variable{d:Nat}
def kc(st:Stmt)(q:String)(m:nf)(e:fL w0.params f st q a=fR st q m a k n):KC d f a k n:=λ{vs T Q} hl h=>by
 by_cases af:T0
 .rw[Fb af] at h ⊢;exact
   have e5:f.na=k:=cF (·.2.2.2.2.2.1) e
   have e6:(Bv st q).scope.names.length=n:=cF (·.2.2.2.2.2.2.1) e
   RQ af ⟨_,_,af.bV _ _ (cF (·.1) e),rfl,rfl,cF (·.2.2.2.1) e,rfl,rfl,cF (·.2.2.2.2.2.2.2.1) e,cF (·.2.2.2.2.2.2.2.2) e,cF (·.2.1) e,codeRec_of af.bV (cF (·.2.2.1) e)⟩ (cF (·.2.2.2.2.1) e) (hl.trans e5.symm) (e6▸h)
 .rw[Hg af];trivial
abbrev m0:nf:=MineH.Lake.S "chess.kinds" 187
abbrev m1:nf:=MineH.Lake.S "chess.bits" 278
abbrev m2:nf:=MineH.Lake.S "chess.lines" 312
abbrev m3:nf:=MineH.Lake.S "chess.geometry" 401
abbrev m4:nf:=MineH.Lake.S "chess.sliders" 562
abbrev m5:nf:=MineH.Lake.S "chess.position" 629
abbrev m6:nf:=MineH.Lake.S "chess.attacks" 728
abbrev m7:nf:=MineH.Lake.S "chess.castling" 865
abbrev m8:nf:=MineH.Lake.S "chess.piecemoves" 917
abbrev m9:nf:=MineH.Lake.S "chess.pawnmoves" 956
abbrev Pw:nf:=MineH.Lake.S "chess.evasions" 1094
abbrev Vt:nf:=MineH.Lake.S "chess.legality" 1129
abbrev Wm:nf:=MineH.Lake.S "chess.movegen" 1168
abbrev tZ:nf:=MineH.Lake.S "chess.draws" 1192
abbrev y8:nf:=MineH.Lake.S "chess.makemove" 1336
abbrev Nr:nf:=MineH.Lake.S "chess.zobrist" 1449
abbrev Pz:nf:=MineH.Lake.S "law_nt0468_01" 1486
def Id:KC d HC 21 2 2:=kc (em 15) "make_piece" m0 ()
def OC:KC d Ou 28 1 1:=kc (em 16) "side_of" m0 ()
def O7:KC d N5 35 1 1:=kc (em 17) "kind_of" m0 ()
def Ix:KC d Js 42 4 7:=kc (em 18) "pack_move" m0 ()
def Jz:KC d IZ 49 1 1:=kc (em 19) "move_from" m0 ()
def Od:KC d Oa 56 1 1:=kc (em 20) "move_to" m0 ()
def ED:KC d Di 63 1 1:=kc (em 21) "move_special" m0 ()
def HX:KC d HT 70 1 4:=kc (em 22) "move_promo" m0 ()
def CF:KC d Cj 77 1 1:=kc (em 24) "more_than_one" m1 ()
def O3:KC d OU 84 1 3:=kc (em 25) "highest" m1 ()
def QM:KC d SG 91 1 2:=kc (em 26) "lowest" m1 ()
def He:KC d H2 98 1 3:=kc (em 27) "squares_of" m1 ()
def IM:KC d IN 105 3 5:=kc (em 29) "direction" m2 ()
def Pq:KC d Pk 112 3 5:=kc (em 30) "between" m2 ()
def Wo:KC d Xl 119 3 5:=kc (em 31) "line" m2 ()
def Ov:KC d OX 126 4 5:=kc (em 32) "aligned" m2 ()
def CB:KC d wE 174 5 5:=kc (Kl (em 39) 0) "Geometry.__init__" m3 ()
def zr:KC d zy 188 1 2:=kc (em 40) "is_growing" m3 ()
def Jp:KC d BE 195 1 6:=kc (em 41) "add_masks" m3 ()
def B7:KC d wz 202 2 5:=kc (em 42) "inner_squares" m3 ()
def LY:KC d DO 209 1 13:=kc (em 43) "add_rays" m3 ()
def IF:KC d BG 216 1 3:=kc (em 44) "add_pawns" m3 ()
def FQ:KC d yj 223 1 12:=kc (em 45) "add_knights" m3 ()
def Fz:KC d ym 230 1 8:=kc (em 46) "add_castles" m3 ()
def Cw:KC d wD 237 4 12:=kc (em 47) "make_geometry" m3 ()
def Fw:KC d Fj 244 4 8:=kc (em 49) "ray_attacks" m4 ()
def EK:KC d Fd 251 3 7:=kc (em 50) "rook_attacks" m4 ()
def Bj:KC d AL 258 3 7:=kc (em 51) "bishop_attacks" m4 ()
def Cl:KC d B5 265 3 5:=kc (em 52) "queen_attacks" m4 ()
def AY:KC d Bl 272 4 10:=kc (em 53) "slider_attacks" m4 ()
def B6:KC d B4 279 5 9:=kc (em 54) "piece_attacks" m4 ()
def CD:KC d wC 293 3 5:=kc (Kl (em 56) 0) "Position.__init__" m5 ()
def JC:KC d J9 307 3 6:=kc (em 57) "put_piece" m5 ()
def Ih:KC d H8 314 2 7:=kc (em 58) "take_piece" m5 ()
def Fr:KC d Fm 321 3 9:=kc (em 59) "shift_piece" m5 ()
def Kx:KC d Mb 328 1 3:=kc (em 60) "occupied" m5 ()
def QE:KC d RO 335 3 3:=kc (em 61) "pieces" m5 ()
def FK:KC d FO 342 2 4:=kc (em 62) "king_square" m5 ()
def yN:KC d yt 349 1 3:=kc (em 64) "straight_sliders" m6 ()
def yQ:KC d yV 356 1 3:=kc (em 65) "slanting_sliders" m6 ()
def AE:KC d AZ 363 3 4:=kc (em 66) "pawn_attackers" m6 ()
def Aw:KC d AO 370 3 8:=kc (em 67) "step_attackers" m6 ()
def Bc:KC d Bx 377 3 10:=kc (em 68) "line_attackers" m6 ()
def En:KC d Eh 384 3 8:=kc (em 69) "attackers_to" m6 ()
def FD:KC d Fq 391 4 13:=kc (em 70) "is_attacked" m6 ()
def Fv:KC d Ft 398 2 7:=kc (em 71) "checkers_of" m6 ()
def Kv:KC d Kp 405 1 2:=kc (em 72) "checkers" m6 ()
def Fu:KC d Fp 412 2 7:=kc (em 73) "in_check_of" m6 ()
def Lo:KC d Lj 419 1 2:=kc (em 74) "in_check" m6 ()
def Hr:KC d Ia 426 2 9:=kc (em 75) "snipers_of" m6 ()
def Ko:KC d LG 433 2 16:=kc (em 76) "blockers" m6 ()
def Cu:KC d Cq 440 2 3:=kc (em 77) "pinned_pieces" m6 ()
def AI:KC d AV 447 2 2:=kc (em 86) "squares_within" m7 ()
def BB:KC d Bi 454 2 19:=kc (em 87) "castle_refusal" m7 ()
def D1:KC d Do 461 2 12:=kc (em 88) "add_castling" m7 ()
def JH:KC d I7 468 3 8:=kc (em 93) "add_goals" m8 ()
def ze:KC d Af 475 4 12:=kc (em 94) "add_piece_moves" m8 ()
def Fc:KC d DW 482 2 5:=kc (em 95) "stage_target" m8 ()
def JQ:KC d Ji 489 2 3:=kc (em 97) "push_step" m9 ()
def Jt:KC d Kg 503 2 3:=kc (em 99) "last_mask" m9 ()
def Hm:KC d HZ 510 3 4:=kc (em 100) "shift_push" m9 ()
def Cy:KC d Ci 517 4 5:=kc (em 101) "shift_capture" m9 ()
def DH:KC d E1 524 2 13:=kc (em 102) "push_targets" m9 ()
def Br:KC d A4 531 5 15:=kc (em 103) "add_promotions" m9 ()
def y7:KC d yM 538 3 15:=kc (em 104) "add_plain_pushes" m9 ()
def wM:KC d wJ 545 4 13:=kc (em 105) "add_push_promotions" m9 ()
def xR:KC d xX 552 4 22:=kc (em 106) "add_pawn_captures" m9 ()
def Bf:KC d Bh 559 4 9:=kc (em 107) "add_pawn_moves" m9 ()
def AJ:KC d AD 566 2 10:=kc (em 108) "add_en_passant" m9 ()
def zt:KC d Ab 573 2 6:=kc (em 110) "evasion_targets" Pw ()
def vK:KC d vJ 587 2 3:=kc (em 112) "may_answer_en_passant" Pw ()
def EP:KC d EZ 594 2 16:=kc (em 113) "add_evasions" Pw ()
def KU:KC d Ku 615 3 19:=kc (em 118) "is_legal" Vt ()
def LV:KC d LC 622 2 19:=kc (em 120) "generate" Wm ()
def AW:KC d AH 629 1 12:=kc (em 121) "has_legal_move" Wm ()
def yz:KC d yZ 636 1 2:=kc (em 130) "reversible_plies" tZ ()
def HM:KC d Hq 643 2 3:=kc (em 131) "key_before" tZ ()
def FI:KC d FP 650 1 6:=kc (em 132) "repetitions" tZ ()
def Cf:KC d CM 657 2 3:=kc (em 133) "is_repetition" tZ ()
def wH:KC d wK 664 1 6:=kc (em 134) "repetition_distance" tZ ()
def ES:KC d EM 671 1 7:=kc (em 135) "has_repeated" tZ ()
def Eo:KC d E7 678 1 3:=kc (em 136) "is_checkmate" tZ ()
def D8:KC d Dv 685 1 3:=kc (em 137) "is_stalemate" tZ ()
def Mf:KC d Mg 692 1 3:=kc (em 138) "is_fifty" tZ ()
def B8:KC d Cz 699 2 2:=kc (em 139) "square_colour" tZ ()
def vG:KC d vM 706 1 6:=kc (em 140) "bishops_on_one_colour" tZ ()
def zq:KC d Aa 713 1 9:=kc (em 141) "is_insufficient" tZ ()
def Ao:KC d zl 720 1 4:=kc (em 142) "is_draw_by_rule" tZ ()
def xQ:KC d xU 727 2 5:=kc (em 143) "is_draw_in_search" tZ ()
def OF:KC d OI 734 1 12:=kc (em 144) "outcome" tZ ()
def FE:KC d Fs 741 1 6:=kc (em 145) "result_text" tZ ()
def FB:KC d FC 748 2 9:=kc (em 147) "moved_piece" y8 ()
def CJ:KC d Cm 755 2 7:=kc (em 148) "taken_square" y8 ()
def CC:KC d Ca 769 4 8:=kc (em 151) "passed_square" y8 ()
def Fi:KC d Fo 776 3 4:=kc (em 152) "kept_rights" y8 ()
def E4:KC d Ei 783 1 1:=kc (em 153) "clear_ep_key" y8 ()
def GP:KC d HS 790 2 2:=kc (em 154) "set_ep_key" y8 ()
def A8:KC d AF 797 2 2:=kc (em 155) "set_rights_key" y8 ()
def OL:KC d Oe 804 2 32:=kc (em 156) "do_move" y8 ()
def IQ:KC d I2 811 1 28:=kc (em 157) "undo_move" y8 ()
def DG:KC d wY 825 5 5:=kc (Kl (em 159) 0) "Zobrist.__init__" Nr ()
def KM:KC d Ec 857 4 13:=kc (em 163) "_law_hits" Pz ()
def KQ:KC d Lw 864 5 9:=kc (em 164) "_law_safe" Pz ()
def Iq:KC d Jc 869 4 8:=kc (em 165) "_law_goals" Pz ()
def Ma:KC d KG 876 5 8:=kc (em 166) "_law_fits" Pz ()
def LZ:KC d Kq 881 5 13:=kc (em 167) "_law_pick" Pz ()
def LE:KC d L6 888 5 7:=kc (em 168) "_law_back" Pz ()
def KN:KC d LT 895 4 9:=kc (em 169) "_law_kept" Pz ()
def Lu:KC d KE 900 2 5:=kc (em 170) "_law_bare" Pz ()
def HA:KC d we 905 7 31:=kc (em 171) "_law_agrees" Pz ()
def JX:KC d BK 912 5 16:=kc (em 172) "_law_cells" Pz ()
def Eg:KC d qC 917 6 18:=kc (em 173) "_law_position" Pz ()
def ZQ:KC d GF 922 1 36:=kc (em 174) "law" Pz ()
end
end
section
open MineH.Lake (KF Yo em Kl Vk C4 Au Bv Le Dg Rl HV qw u9 FX Il VL)
def Yi(P:nu):nsIn (KF P) mainGlobals Il=J (J (.ref 922)):=()
def Rj:FX.name=Il:=()
def RY(h:dd.row.toRowW.claim.pre args=true):∃xs,args=[.list xs]/\i9 [] xs .int=true/\xs.length<=63:=by
 obtain⟨h1,h2⟩:=pre_splitW (r:=dd.row.toRowW) h;obtain⟨d,r,rfl,a,b⟩:=hasAllW_cons (e:=.list .int) (es:=[]) h1;have e:=hasAllW_nil b;subst e;obtain⟨xs,rfl,hx⟩:=hasW_list a;refine⟨xs,rfl,hx,?_⟩;have h3:WTm.holds [] (.and (.not (.lt (.lit (.int 63)) (.len (.arg 0)))) (.lit (.bool true))) {args:=[.list xs]}=true:=h2;refine cJ λk=>?_;have:¬(xs.length<=63):=k;have q:(63:Int)<(xs.length:Int):=eC.mpr (jJ this);have e:less? (.int 63) (.int (xs.length:Int))=J true:=by simp [less?,Num.less?,q]
 simp [WTm.holds,nc,e] at h3
def Xx(r:ReadsW [] cl h v (.int i) as):VR [] (.int i) v:=by
 ext cl h v i as;cases r;exact rfl
def D7:∀{xs:List WData} {vs:List nf} {as:List Addr},ReadsAllW [] cl h vs xs as->i9 [] xs .int=true->∃ns:List Int,ns.length=xs.length/\qS [] (ns.map .int) vs
 | [],_,_,r,_=>by cases r;exact⟨[],rfl,.nil⟩
 | d::ds,_,_,r,hx=>by
  cases r with
  | cons r1 r2=>exact(hasW_int (bl hx)).elim λi e=>(D7 r2 (br hx)).elim λns h=>⟨i::ns,cF lQ h.1,.cons (Xx (e▸r1)) h.2⟩
def Vm(r:ReadsW [] cl h v (.list xs) as)(hx:i9 [] xs .int=true):∃sa,∃ns:List Int,v= .ref sa/\ns.length=xs.length/\CR h sa (.list (ns.map .int)):=by
 ext cl h v xs as;cases r with
 | list g hc hd hall=>exact(D7 hall hx).elim λns h=>⟨_,ns,rfl,h.1,_,⟨_,g,hc,_,hd⟩,h.2⟩
def P9(hr:ReadsAllW [] cl h aF [.list xs] as)(hx:i9 [] xs .int=true):
  ∃sa,∃ns:List Int,aF=[.ref sa]/\ns.length=xs.length/\CR h sa (.list (ns.map .int)):=by
 ext cl h aF xs as;cases hr with
 | cons r1 r2=>cases r2;exact(Vm r1 hx).elim λsa h=>h.elim λns h=>⟨sa,ns,cF (λv=>[v]) h.1,h.2⟩
abbrev ZI:nf->Bool
 | .ref _=>true
 | _=>false
abbrev Yh(vs:List nf):Bool:=match vs with
 | []=>false
 | v::_=>ZI v
def Td:∀{ns:List Int} {vs:List nf},qS [] (ns.map .int) vs->Yh vs=false
 | [],_,m=>by cases m;rfl
 | _::_,_,m=>by cases m with | @cons _ v _ _ a _=>cases v<;>first | rfl | exact a.elim
abbrev Vj(o:Obj):Bool:=vv (Ye o.cls) false (· == "list")&&vv (WV o.data) false λvs=> !Yh vs.toList
def WN(P:nu):LJ.map (λq=>((KF P).lookup q.1).map Vj)=LJ.map λw=>J false:=()
def Xz{B:Heap}(X:(KF P).In B){sa:Addr}{ns:List Int}(h:CR B sa (.list (ns.map .int))){p:Bool × List V}(q:yT sa=J p):False:=
 (dg.mp (qi (WN P) _ (HO q))).elim λo r=>h.elim λvs ⟨⟨o2,g,hc,n,hd⟩,m⟩=>
  have e:o2=o:=cI (g.symm.trans (X _ _ r.1))
  have z:Vj o2=true:=by
   unfold Vj;rw[hc,hd];show("list" == "list"&& !Yh vs)=true;rw[Td m];rfl
  cZ (r.2.symm.trans ((cF Vj e).symm.trans z))
def Uz (L:∀(aR:nJ) (w:dq) (B:Heap) (mg mb:Str->Option nf) (sa:Nat) (ns:List Int),ns.length<=63->yT sa=U->Tp aR w (zj sa ns) B mg mb->
   (KO aR w B (zj sa ns) 24).call 922 [.con sa] [] (λv _=>v= .bool true)):dd.Holds:=by
 refine VL λw s₀ s₁ mg mb G Y a o pm cd doc dV kV ho hd hcd hD hmg hg args aF as hpre hlay hrd hwl hlo=>?_;obtain⟨xs,rfl,hx,hlen⟩:=RY hpre;obtain⟨sa,ns,rfl,hn,hs⟩:=P9 hrd hx;have T0:=G.T;have af:Tp dd.row.toRowW.prog w (zj sa ns) s₁.heap mg mb:=XM Y T0.g T0.b T0.builtins T0.nolimit hs;have e:mg Il=J (.ref 922):=mg_of af.bV T0.g (Yi w.params);rw[Rj,e] at hmg;have ea:922=a:=by injection hmg with x;injection x
 subst ea;have hq:yT sa=U:=by
  cases q:yT sa with
  | none=>rfl
  | some p=>exact(Xz af.bV hs q).elim
 have W:=L dd.row.toRowW.prog w s₁.heap mg mb sa ns (by lia) hq af;have R:pu s₁.heap [] [] s₁.heap:=⟨rfl,λi p o e=>(nomatch e),λi j p q e=>(nomatch e),λi p e=>(nomatch e),λb o e=>e⟩
 have m:qS [] [.con sa] [Value.ref sa]:=.cons rfl .nil;refine nG (Wb _ w s₁.heap (zj sa ns) 24 922 [.con sa] [] _ W callerA [] s₁ _ ⟨rfl,by decide +kernel,by decide +kernel⟩ R m) ?_ ?_
 .rintro v s' ⟨va,aK,rfl,aL,p⟩;have hv:v= .bool true:=by
   have:=p.val;cases v<;>first | exact this.elim | skip
   rename_i b;have:true=b:=this;rw[<- this]
  subst hv;refine⟨.inl ⟨_,.bool true,[],rfl,λcls=>raisesW_false (r:=dd.row.toRowW) (λct h=>by cases h) cls,.bool true,?_,λ_=>⟨.nil,λa h=>by cases h⟩⟩,.of_keep λb o e=>p.keep b o e λi q z=>(by cases z),p.os,.of_eq (p.gens.trans hg)⟩;refine postW_of (r:=dd.row.toRowW) (by show WShape.has [] (.bool true) .bool=true;rfl) (X:=true) ?_ rfl;show nc [] (.eq .res (.lit (.bool true))) _=_;simp [nc,same]
 .intro e s' h;exact h.elim
end
end
end Mine.Lake
end
namespace Mine.Lake
noncomputable section
section
open PySem PyProof.Rows
abbrev nv(n:Nat):V:=.int (n:Int)
abbrev oh(a b:Nat):Nat:=a - (a &&& b)
def xs_{x y u v p q r s:Nat}(h:x+2*y=u+v)(k:p+2*q=r+s):2*x+p+2*(2*y+q)=2*u+r+(2*v+s):=by lia
def Ib:∀(a b:Nat),(a ^^^ b)+2*(a &&& b)=a+b:=by
 intro a
 induction a using Nat.strongRecOn with
 | _ a ih=>
  intro b;by_cases h:a=0
  .subst h;simp
  .have i:=ih (a/2) (by lia) (b/2);have e1:(a ^^^ b)/2=a/2 ^^^ b/2:=Nat.xor_div_two;have e2:(a &&& b)/2=a/2 &&& b/2:=Nat.and_div_two;have m1:(a ^^^ b)%2=(a%2+b%2)%2:=by
    have q:=Nat.xor_mod_two_pow (a:=a) (b:=b) (n:=1);rw[Nat.pow_one] at q;rw[q];rcases dI a with x | x<;>rcases dI b with y | y<;>rw[x,y]<;>rfl
   have m2:(a &&& b)%2=(a%2)*(b%2):=by
    have q:=Nat.and_mod_two_pow (a:=a) (b:=b) (n:=1);rw[Nat.pow_one] at q;rw[q];rcases dI a with x | x<;>rcases dI b with y | y<;>rw[x,y]<;>rfl
   have k:(a ^^^ b)%2+2*((a &&& b)%2)=a%2+b%2:=by
    rw[m1,m2];rcases dI a with x | x<;>rcases dI b with y | y<;>rw[x,y]
   have z:=xs_ i k;rw[<- e1,<-e2,f9,f9,f9,f9] at z;exact z
def Vw(a b:Nat):fW (a:Int) (b:Int)=((a &&& b:Nat):Int):=by
 unfold fW;simp
def abj(a b:Nat):kY (a:Int) (b:Int)=((a ||| b:Nat):Int):=by
 unfold kY;have h:∀n:Nat,¬(0<=dW (n:Int)):=λn=>by unfold dW;lia
 have e:∀x:Int,dW (dW x)=x:=λx=>by unfold dW;lia
 unfold fW;simp only[h,decide_false,e,eW]
def YL(a b:Nat):mS (a:Int) (b:Int)=((a ^^^ b:Nat):Int):=by
 rw[bitXor_and,Vw];have:=Ib a b;lia
def Kn(a b:Nat):a &&& b<=a:=dE
def DC(a b:Nat):fW (a:Int) (dW (b:Int))=((oh a b:Nat):Int):=by
 ext a b;have h:¬(0<=dW (b:Int)):=by unfold dW;lia
 have e:dW (dW (b:Int))=(b:Int):=by unfold dW;lia
 unfold fW;have:=Kn a b;simp only[h,decide_false,e,eW,dR,decide_true];unfold oh;lia
def Qu(b:Nat):fW (b:Int) (-(b:Int))=((oh b (b - 1):Nat):Int):=by
 by_cases h:b=0
 .subst h;rfl
 .have e:-(b:Int)=dW ((b - 1:Nat):Int):=by unfold dW;lia
  rw[e,DC]
section
variable{K:pK}{a b:Nat}{h:H}{Q:V->H->Prop}{P:Bool->Prop}
def AS(l:a<1000000000):small (a:Int)=true:=by
 unfold small
 (rewrite [ax,cu,cu];try with_reducible rfl)
 lia
def VW:te (pq .add (nv a) (nv b) h) Q=Q (nv (a+b)) h:=rfl
def VX(l:b<=a):te (pq .sub (nv a) (nv b) h) Q=Q (nv (a - b)) h:=cF (λi=>Q (.int i) h) (fG l).symm
def C6[Decidable c](l:c)(e:v=v'):te (if c then J (v,h) else .none) Q=Q v' h:=(cF (te · Q) (cC l)).trans (cF (Q · h) e)
def VH(l:a<1000000000)(l':b<1000000000):te (pq .mul (nv a) (nv b) h) Q=Q (nv (a*b)) h:=by
 have e:(small (a:Int)&&small (b:Int))=true:=cY.mpr ⟨AS l,AS l'⟩;show te (if(small (a:Int)&&small (b:Int))=true then J (V.int ((a:Int)*(b:Int)),h) else .none) Q=_;rw[cC e];exact cF (λi=>Q (.int i) h) (mG a b).symm
def Rq(l:0<b)(l':b<1000000):te (pq .div (nv a) (nv b) h) Q=Q (nv (a/b)) h:=
 C6 (cY.mpr ⟨cy (eC.mpr l),cy (eC.mpr l')⟩) (cF V.int (js _ (dR b)))
def VK(l:0<b):te (pq .mod (nv a) (nv b) h) Q=Q (nv (a%b)) h:=C6 (eC.mpr l) (cF V.int (hB _ (dR b)))
def VD(l:a<1000000000)(l':b<=1000000):te (pq .shl (nv a) (nv b) h) Q=Q (nv (a <<< b)) h:=
 C6 (cY.mpr ⟨cY.mpr ⟨cy (dR b),cy (gr.mpr l')⟩,AS l⟩) (cF V.int (by rw[hV,mG,mH];rfl))
def Sf:te (pq .shr (nv a) (nv b) h) Q=Q (nv (a >>> b)) h:=
 C6 (dR b) (cF V.int (by
  show fE (a:Int) (2 ^ b)=((a >>> b:Nat):Int)
  rw[js _ (Int.pow_nonneg ⋯),dz,Int.natCast_ediv,mH];rfl))
def SM:te (pq .band (nv a) (nv b) h) Q=Q (nv (a &&& b)) h:=cF (λi=>Q (.int i) h) (Vw a b)
def RH:te (pq .bor (nv a) (nv b) h) Q=Q (nv (a ||| b)) h:=cF (λi=>Q (.int i) h) (abj a b)
def SY:te (pq .bxor (nv a) (nv b) h) Q=Q (nv (a ^^^ b)) h:=cF (λi=>Q (.int i) h) (YL a b)
def Oy:te (pq .band (nv a) (.int (dW (b:Int))) h) Q=Q (nv (oh a b)) h:=cF (λi=>Q (.int i) h) (DC a b)
def N2:te (pq .band (nv a) (.int (-(a:Int))) h) Q=Q (nv (oh a (a - 1))) h:=cF (λi=>Q (.int i) h) (Qu a)
def aaY:yb (s7 K .eq (nv a) (nv b) h) P=P (decide (a=b)):=cF P (da.mpr (beq_iff_eq.trans (Int.ofNat_inj.trans decide_eq_true_iff.symm)))
def aaP:yb (s7 K .ne (nv a) (nv b) h) P=P (decide (a≠b)):=cF P (da.mpr (bne_iff_ne.trans ((not_congr Int.ofNat_inj).trans decide_eq_true_iff.symm)))
def aa8:yb (s7 K .lt (nv a) (nv b) h) P=P (decide (a<b)):=cF P (decide_eq_decide.mpr eC)
def aaz:yb (s7 K .gt (nv a) (nv b) h) P=P (decide (b<a)):=cF P (decide_eq_decide.mpr eC)
def aaX:yb (s7 K .ge (nv a) (nv b) h) P=P (decide (b<=a)):=cF P (decide_eq_decide.mpr gr)
def Mv(s:pN K h x=J xs)(g:xs[a]? =J v)(l:a<1000000):Gs (xq K x (nv a) h) h Q=Q v h:=by
 have e:xq K x (nv a) h=J v:=by
  show((pN K h x).bind λxs=>if 0<=(a:Int)/\(a:Int)<1000000 then xs[(a:Int).toNat]? else .none)=_;rw[s,eP,cC ⟨dR a,eC.mpr l⟩];exact g
 rw[e];rfl
def SO(g:h[p]? =J (.inst c fs))(l:fs.lookup n=J v):Gs (xA (.ref p) n h) h Q=Q v h:=by
 have e:xA (.ref p) n h=J v:=by
  show YU h[p]? _=_;rw[g];exact l
 rw[e];rfl
def HL(g:tR K h x=J o)(e:(match (J o:Option O) with | some (.list xs)=>J xs | some (.tup xs)=>J xs | _=>.none)=r):pN K h x=r:=by
 unfold pN;rw[g];exact e
def io(g:h[p]? =J (.list xs)):pN K h (.ref p)=J xs:=HL (x:=.ref p) g rfl
def t9(g:h[p]? =J (.tup xs)):pN K h (.ref p)=J xs:=HL (x:=.ref p) g rfl
def Ju{c:Nat}{o:Bool × List V}{xs:List V}(g:K.con c=J (.tup xs)):pN K h (.con c)=J xs:=HL (x:=.con c) g rfl
def Zs(s:pN K h x=J xs)(l:xs.length<=1000000):Gs (JR K x h) h Q=Q (nv xs.length) h:=by
 have e:JR K x h=J (nv xs.length):=by
  unfold JR;rw[s];exact cC l
 rw[e];rfl
def AN(F:List V->Option β)(g:r=J (.list xs)):Ws r F=F xs:=by rw[g];rfl
def WM(F:Nat->List (Nat × V)->Option β)(g:r=J (.inst c fs)):YU r F=F c fs:=by rw[g];rfl
def DL(F:Nat->Option β):Rf (.ref p) F=F p:=rfl
def R3(F:Int->Option β):Yp (.int i) F=F i:=rfl
def DE(g:h[p]? =J (.list xs))(hi:i<xs.length)(hm:xs.length<1000):pV (.ref p) (nv i) v h=J (h.set p (.list (xs.set i v))):=by
 unfold pV nv;rw[DL,R3,AN _ g,cC ⟨dR i,by lia,by rw[eW];exact hi⟩,eW]
def Ll(g:h[p]? =J (.inst c fs))(l:fs.length<100):rR (.ref p) n v h=J (h.set p (.inst c (Ez n v fs))):=by
 unfold rR;rw[DL,WM _ g,cC l]
def BV(g:h[p]? =J (.list xs))(l:xs.length<1000):o8 (.ref p) v h=J (.none,h.set p (.list (xs++[v]))):=by
 unfold o8;rw[DL,AN _ g,cC l]
def L7(g:h[p]? =J (.list xs))(e:xs.getLast? =J v)(l:xs.length<=1000):CO (.ref p) h=J (v,h.set p (.list xs.dropLast)):=by
 unfold CO;rw[DL,AN _ g,e,eP,cC l]
def Ly(g:h[p]? =J (.list xs))(e:uJ xs=J ns)(m:k∈ns)(l:ns.length<=1000):zf (.ref p) (.int k) h=J (.int (ns.idxOf k:Nat)):=by
 unfold zf;rw[DL,R3,AN _ g,e,eP,cC ⟨m,l⟩]
def tx{x lo hi:V}(g:tR K h x=J (.list xs))(e1:xf lo 0=J a)(e2:xf hi xs.length=J b)(l:xs.length<=1000):xL K x lo hi h=J (.ref h.length,h++[.list ((xs.take b).drop a)]):=by
 unfold xL;rw[AN _ g,e1,eP,e2,eP,cC l]
def Tm(a:Int)(h:H):sF [.int a] h=if yA a=true then J (V.ref h.length,h++[O.aT 0 a 1]) else .none:=rfl
def Ur(a b:Int)(h:H):sF [.int a,.int b] h=if(yA a&&yA b)=true then J (V.ref h.length,h++[O.aT a b 1]) else .none:=rfl
def Uq(a b c:Int)(h:H):sF [.int a,.int b,.int c] h=if(yA a&&yA b&&(c == 1||c == 2||c == -1))=true then J (V.ref h.length,h++[O.aT a b c]) else .none:=rfl
def PK(g:h[p]? =J (.list xs)):UG h (.ref p)=true:=by
 show(match h[p]? with | some (.list _)=>true | _=>false)=true;rw[g]
def xI:xf (nv n) d=J n:=by
 show(if 0<=(n:Int) then J (n:Int).toNat else .none)=_;rw[cC (dR n)];rfl
end
section
variable{K:pK}{e:nw}{h:H}{Q:QS}
def Jf(mf:∀v e h (P P':QS),(∀a b c,P a b c->P' a b c)->f v e h P->f v e h P')(N:Nat)(I:Nat->nw->H->Prop)
  (step:∀j,j<N->∀e h,I j e h->∃v,oB K k h x j=J (J v)/\f v e h (oZ (I (j+1)) Q)) (done:∀e h,I N e h->oB K k h x N=J .none/\Q .next e h):
  ∀(m j:Nat) (e:nw) (h:H),j+m=N->I j e h->JT K (m+1) k x j f e h Q
 | 0,j,e,h,q,z=>by
  obtain rfl:j=N:=q;show Ik (oB K k h x j) _ _;rw[(done _ _ z).1];exact(done _ _ z).2
 | m+1,j,e,h,q,z=>(step j (q▸fp (fF m)) e h z).elim λv w=>by
  show Ik (oB K k h x j) _ _;rw[w.1];exact mf _ _ _ _ _ (xK (λe h z=>Jf mf N I step done m (j+1) e h (by rw[Nat.succ_add];exact q) z) λu u u z=>z) w.2
def EQ(mc:∀e h (P P':Bool->H->Prop),(∀a b,P a b->P' a b)->c e h P->c e h P')(mf:∀e h (P P':QS),(∀a b c,P a b c->P' a b c)->f e h P->f e h P')
  (I:Nat->nw->H->Prop) (step:∀m e h,I m e h->c e h λt h=>wL t (∃j,j<m/\f e h (oZ (I j) Q)) (Q .next e h)):∀(n m:Nat) (e:nw) (h:H),m<=n->I m e h->Az (n+1) c f e h Q
 | 0,m,e,h,q,z=>mc _ _ _ _ (λt h y=>⟨λe1=>(y.1 e1).elim λj w=>cG w.1 (fV.mpr (cO q (dF j))),y.2⟩) (step m e h z)
 | n+1,m,e,h,q,z=>mc _ _ _ _ (λt h y=>⟨λe1=>(y.1 e1).elim λj w=>mf _ _ _ _ (xK (λe h z=>EQ mc mf I step n j e h (dh (cM w.1 q)) z) λu u u z=>z) w.2,y.2⟩) (step m e h z)
def Be{x:V}{a:Nat}{f:V->H->(Option V->H->Prop)->Prop}{Q:V->H->Prop}(mf:∀v h (P P':Option V->H->Prop),(∀u h,P u h->P' u h)->f v h P->f v h P')(N:Nat)(I:Nat->H->Prop)
  (step:∀j,j<N->∀h,I j h->∃v,oB K k h x j=J (J v)/\f v h (λu h=>Q4 u (I (j+1) h) λu=>te (o8 (.ref a) u h) λg h=>I (j+1) h))
  (done:∀h,I N h->oB K k h x N=J .none/\Q (.ref a) h):∀(m j:Nat) (h:H),j+m=N->I j h->xk K (m+1) k x a j f h Q
 | 0,j,h,q,z=>by
  obtain rfl:j=N:=q;show Ik (oB K k h x j) _ _;rw[(done _ z).1];exact(done _ z).2
 | m+1,j,h,q,z=>(step j (q▸fp (fF m)) h z).elim λv w=>by
  show Ik (oB K k h x j) _ _;rw[w.1];have r:=λh=>Be mf N I step done m (j+1) h (by rw[Nat.succ_add];exact q);exact mf _ _ _ _ (λu h y=>Em (r h) (λg y=>rL (λg h y=>r h y) y) y) w.2
end
end
structure db (K:pK) (c:E) (e:nw) (h:H) (v:V) (h':H):Prop where
 go:∀Q:V->H->Prop,Q v h'->ev K c e h Q
structure Gb (K:pK) (c:Es) (e:nw) (h:H) (v:List V) (h':H):Prop where
 go:∀Q:List V->H->Prop,Q v h'->S9 K c e h Q
structure ii (K:pK) (f:Nat) (vs:List V) (h:H) (v:V) (h':H):Prop where
 go:∀Q:V->H->Prop,Q v h'->K.call f vs h Q
structure oD (K:pK) (r:Ss) (e:nw) (h:H) (Q:QS):Prop where
 go:uO K r e h Q
section
variable{K:pK}{e:nw}{h h1 h2 h3:H}{a b c:E}{i j n m p:Nat}{v x y z:V}{xs vs:List V}{es:Es}{t s:Bool}{o:Fh}{co:Kk}{fs:List (Nat × V)}
def r_loc(g:e[i]? =J (J v)):db K (.loc i) e h v h:=⟨λQ q=>by show Ik e[i]? False _;rw[g];exact q⟩
def F2:db K (.glo i v) e h v h:=⟨λQ q=>q⟩
def bv:db K (.glo i (.int (fk n))) e h (nv n) h:=⟨λQ q=>q⟩
def ac:db K (.int (fk n)) e h (nv n) h:=⟨λQ q=>q⟩
def qF:db K (.int k) e h (.int k) h:=⟨λQ q=>q⟩
def x0:db K .bK e h .none h:=⟨λQ q=>q⟩
def o4:db K (.bool t) e h (.bool t) h:=⟨λQ q=>q⟩
def BQ:db K (.str k) e h (.str k) h:=⟨λQ q=>q⟩
def uC(A:db K a e h x h1)(l:tr x=J t):db K (.not a) e h (.bool !t) h1:=⟨λQ q=>A.go _ (by rw[l];exact q)⟩
def Ah(A:db K a e h (.int k) h1):db K (.neg a) e h (.int (-k)) h1:=⟨λQ q=>A.go _ q⟩
def um(A:db K a e h x h1)(B:db K b e h1 y h2)(l:pq o x y h2=J (z,h3)):db K (.bin o a b) e h z h3:=⟨λQ q=>A.go _ (B.go _ (by rw[l];exact q))⟩
def qG(A:db K a e h (nv n) h1)(B:db K b e h1 (nv m) h2):db K (.bin .add a b) e h (nv (n+m)) h2:=⟨λQ q=>A.go _ (B.go _ (VW.mpr q))⟩
def oH(A:db K a e h (nv n) h1)(B:db K b e h1 (nv m) h2)(l:m<=n):db K (.bin .sub a b) e h (nv (n - m)) h2:=⟨λQ q=>A.go _ (B.go _ ((VX l).mpr q))⟩
def r7(A:db K a e h (nv n) h1)(B:db K b e h1 (nv m) h2)(l:n<1000000000)(l':m<1000000000):db K (.bin .mul a b) e h (nv (n*m)) h2:=⟨λQ q=>A.go _ (B.go _ (by(rewrite [VH l l'];try with_reducible rfl);exact q))⟩
def sA(A:db K a e h (nv n) h1)(B:db K b e h1 (nv m) h2)(l:0<m)(l':m<1000000):db K (.bin .div a b) e h (nv (n/m)) h2:=⟨λQ q=>A.go _ (B.go _ ((Rq l l').mpr q))⟩
def wF(A:db K a e h (nv n) h1)(B:db K b e h1 (nv m) h2)(l:0<m):db K (.bin .mod a b) e h (nv (n%m)) h2:=⟨λQ q=>A.go _ (B.go _ ((VK l).mpr q))⟩
def qo(A:db K a e h (nv n) h1)(B:db K b e h1 (nv m) h2)(l:n<1000000000)(l':m<=1000000):db K (.bin .shl a b) e h (nv (n <<< m)) h2:=⟨λQ q=>A.go _ (B.go _ (by rw[VD l l'];exact q))⟩
def rD(A:db K a e h (nv n) h1)(B:db K b e h1 (nv m) h2):db K (.bin .shr a b) e h (nv (n >>> m)) h2:=⟨λQ q=>A.go _ (B.go _ (Sf.mpr q))⟩
def nb(A:db K a e h (nv n) h1)(B:db K b e h1 (nv m) h2):db K (.bin .band a b) e h (nv (n &&& m)) h2:=⟨λQ q=>A.go _ (B.go _ (SM.mpr q))⟩
def qE(A:db K a e h (nv n) h1)(B:db K b e h1 (nv m) h2):db K (.bin .bor a b) e h (nv (n ||| m)) h2:=⟨λQ q=>A.go _ (B.go _ (RH.mpr q))⟩
def y4(A:db K a e h (nv n) h1)(B:db K b e h1 (nv m) h2):db K (.bin .bxor a b) e h (nv (n ^^^ m)) h2:=⟨λQ q=>A.go _ (B.go _ (SY.mpr q))⟩
def xh(A:db K a e h (nv n) h1)(B:db K b e h1 (nv m) h2):db K (.bin .band a (.inv b)) e h (nv (oh n m)) h2:=⟨λQ q=>A.go _ (B.go _ (Oy.mpr q))⟩
def Z5(A:db K a e h (nv n) h1)(B:db K b e h1 (nv n) h2):db K (.bin .band a (.neg b)) e h (nv (oh n (n - 1))) h2:=⟨λQ q=>A.go _ (B.go _ (N2.mpr q))⟩
def pB(A:db K a e h x h1)(B:db K b e h1 y h2)(l:s7 K co x y h2=J t):db K (.cmp a co b) e h (.bool t) h2:=⟨λQ q=>A.go _ (B.go _ (by rw[l];exact q))⟩
def oM(A:db K a e h (nv n) h1)(B:db K b e h1 (nv m) h2):db K (.cmp a .eq b) e h (.bool (decide (n=m))) h2:=⟨λQ q=>A.go _ (B.go _ (aaY.mpr q))⟩
def tI(A:db K a e h (nv n) h1)(B:db K b e h1 (nv m) h2):db K (.cmp a .ne b) e h (.bool (decide (n≠m))) h2:=⟨λQ q=>A.go _ (B.go _ (aaP.mpr q))⟩
def Pa(A:db K a e h (nv n) h1)(B:db K b e h1 (nv m) h2):db K (.cmp a .lt b) e h (.bool (decide (n<m))) h2:=⟨λQ q=>A.go _ (B.go _ (aa8.mpr q))⟩
def Jw(A:db K a e h (nv n) h1)(B:db K b e h1 (nv m) h2):db K (.cmp a .gt b) e h (.bool (decide (m<n))) h2:=⟨λQ q=>A.go _ (B.go _ (aaz.mpr q))⟩
def JM(A:db K a e h (nv n) h1)(B:db K b e h1 (nv m) h2):db K (.cmp a .ge b) e h (.bool (decide (m<=n))) h2:=⟨λQ q=>A.go _ (B.go _ (aaX.mpr q))⟩
def f8:Gb K .nil e h [] h:=⟨λQ q=>q⟩
def be(A:db K a e h x h1)(B:Gb K es e h1 xs h2):Gb K (.cons a es) e h (x::xs) h2:=⟨λQ q=>A.go _ (B.go _ q)⟩
def lc(g:e[i]? =J (J v))(B:Gb K es e h xs h2):Gb K (.cons (.loc i) es) e h (v::xs) h2:=be (r_loc g) B
def lz(g:e[i]? =J (J v)):Gb K (.cons (.loc i) .nil) e h [v] h:=lc g f8
def bi(A:Gb K es e h vs h1)(B:ii K f vs h1 v h2):db K (.call i f es) e h v h2:=⟨λQ q=>A.go _ (B.go _ q)⟩
def W5(A:db K a e h (.ref p) h1)(g:h1[p]? =J (.inst cl fs))(l:fs.lookup n=J v):db K (.attr a n) e h v h1:=⟨λQ q=>A.go _ ((SO g l).mpr q)⟩
def pd(A:db K a e h x h1)(B:db K b e h1 (nv j) h2)(s:pN K h2 x=J xs)(g:xs[j]? =J v)(l:j<1000000):db K (.sub a b) e h v h2:=⟨λQ q=>A.go _ (B.go _ ((Mv s g l).mpr q))⟩
def tV(A:db K a e h x h1)(s:pN K h1 x=J xs)(l:xs.length<=1000000):db K (.len i a) e h (nv xs.length) h1:=⟨λQ q=>A.go _ ((Zs s l).mpr q)⟩
def qe(A:Gb K es e h xs h1)(l:xs.length<=1000):db K (.list es) e h (.ref h1.length) (h1++[.list xs]):=⟨λQ q=>A.go _ ⟨l,q⟩⟩
def sO(A:Gb K es e h xs h1)(l:xs.length<=1000):db K (.tup es) e h (.ref h1.length) (h1++[.tup xs]):=⟨λQ q=>A.go _ ⟨l,q⟩⟩
def qZ(A:db K a e h x h1)(l:tr x=J t)(B:t=true->db K b e h1 v h2)(C:t=false->x=v/\h1=h2):db K (.and a b) e h v h2:=⟨λQ q=>A.go _ (by
 rw[l];exact⟨λe=>(B e).go _ q,λe=>by obtain⟨rfl,rfl⟩:=C e;exact q⟩)⟩
def EH(A:db K a e h x h1)(l:tr x=J t)(B:t=false->db K b e h1 v h2)(C:t=true->x=v/\h1=h2):db K (.or a b) e h v h2:=⟨λQ q=>A.go _ (by
 rw[l];exact⟨λe=>by obtain⟨rfl,rfl⟩:=C e;exact q,λe=>(B e).go _ q⟩)⟩
def sr(A:db K a e h (.bool s) h)(B:db K b e h (.bool t) h):db K (.and a b) e h (.bool (s&&t)) h:=
 qZ A rfl (λe=>by rw[e];exact B) λe=>by rw[e];exact⟨rfl,rfl⟩
def sE(A:db K a e h (.bool s) h)(B:db K b e h (.bool t) h):db K (.or a b) e h (.bool (s||t)) h:=
 EH A rfl (λe=>by rw[e];exact B) λe=>by rw[e];exact⟨rfl,rfl⟩
def PY(A:db K c e h x h1)(l:tr x=J t)(B:t=true->db K a e h1 v h2)(C:t=false->db K b e h1 v h2):db K (.ite c a b) e h v h2:=⟨λQ q=>A.go _ (by
 rw[l];exact⟨λe=>(B e).go _ q,λe=>(C e).go _ q⟩)⟩
def oE:tr (nv n)=J (decide (n≠0)):=by
 unfold nv tr;by_cases e:n=0
 .simp [e]
 .have:(n:Int)≠0:=by lia
  simp [e,this]
def bm:tr (.bool t)=J t:=rfl
variable{Q:QS}{r:Ss}{sa sb:Ss}{is:List Nat}{e1:nw}
abbrev se(K:pK)(r:Ss)(Q:QS):QS:=CY (λe h=>uO K r e h Q) Q
def od(q:Q .next e h):oD K .nil e h Q:=⟨q⟩
def ld(q:oD K r e h Q):oD K .nil e h (se K r Q):=⟨q.go⟩
def bs(A:db K a e h v h1)(B:oD K r (e.set i (J v)) h1 Q):oD K (.cons (.assign (.loc i) a) r) e h Q:=⟨A.go _ B.go⟩
def zh(A:db K a e h v h1)(g:tR K h1 v=J (.tup vs))(l':vs.length=is.length)(B:oD K r (Bq is vs e) h1 Q):oD K (.cons (.assign (.tup is) a) r) e h Q:=⟨A.go _ (by
 unfold tL;dsimp only;rw[g];exact⟨l',B.go⟩)⟩
def QG(A:db K b e h v h1)(P:db K a e h1 x h2)(l:rR x n v h2=J h3)(B:oD K r e h3 Q):oD K (.cons (.assign (.attr a n) b) r) e h Q:=⟨A.go _ (P.go _ (by rw[l];exact B.go))⟩
def uG(A:db K c e h v h1)(P:db K a e h1 x h2)(I:db K b e h2 y h3)(l:pV x y v h3=J h4)(B:oD K r e h4 Q):oD K (.cons (.assign (.sub a b) c) r) e h Q:=⟨A.go _ (P.go _ (I.go _ (by rw[l];exact B.go)))⟩
def oI(g:e[i]? =J (J x))(A:db K a e h y h1)(l:Cp o x y h1=J (v,h2))(B:oD K r (e.set i (J v)) h2 Q):oD K (.cons (.aug (.loc i) o a) r) e h Q:=by
 ext K e h h1 h2 a i v x y o Q r;exact⟨by
  show Qs K (.loc i) o a e h _;unfold Qs;dsimp only;rw[g];exact A.go _ (by rw[l];exact B.go)⟩
def GY(P:db K a e h (.ref p) h1)(g:h1[p]? =J (.inst cl fs))(l:fs.lookup n=J x)(A:db K b e h1 y h2)(l':Cp o x y h2=J (v,h3))(l2:rR (.ref p) n v h3=J h4)(B:oD K r e h4 Q):oD K (.cons (.aug (.attr a n) o b) r) e h Q:=by
 revert v x y o fs Q r h4 cl;ext K e h h1 h2 h3 a b n p;ext v x y o fs Q r h4 cl;exact⟨P.go _ ((SO g l).mpr (A.go _ (by rw[l'];show PC _ _;rw[l2];exact B.go)))⟩
def Rt(P:db K a e h (.ref p) h1)(I:db K b e h1 (nv j) h2)(s:h2[p]? =J (.list xs))(g:xs[j]? =J x)(lj:j<1000000)(A:db K c e h2 y h3)(l':Cp o x y h3=J (v,h4))(l2:pV (.ref p) (nv j) v h4=J h5)(B:oD K r e h5 Q):oD K (.cons (.aug (.sub a b) o c) r) e h Q:=by
 revert p v x y xs o Q r h4 h5;ext K e h h1 h2 h3 a b c j;ext p v x y xs o Q r h4 h5;exact⟨P.go _ (I.go _ ((Mv (io s) g lj).mpr (A.go _ (by rw[l'];show PC _ _;rw[l2];exact B.go))))⟩
def oJ(A:db K a e h .none h1)(B:oD K r e h1 Q):oD K (.cons (.expr a) r) e h Q:=⟨A.go _ B.go⟩
def uz(A:db K a e h v h1)(B:Q (.ret v) e h1):oD K (.cons (.ret a) r) e h Q:=⟨A.go _ B⟩
def Z6(B:Q .brk e h):oD K (.cons .brk r) e h Q:=⟨B⟩
def uw(A:db K c e h x h1)(l:tr x=J t)(B:t=true->oD K sa e h1 (se K r Q))(C:t=false->oD K sb e h1 (se K r Q)):oD K (.cons (.ite c sa sb) r) e h Q:=⟨A.go _ (by
 rw[l];exact⟨λe=>(B e).go,λe=>(C e).go⟩)⟩
def lv(A:db K c e h x h1)(l:tr x=J t)(B:t=true->oD K sa e h1 (se K r Q))(C:t=false->oD K r e h1 Q):oD K (.cons (.ite c sa .nil) r) e h Q:=uw A l B λe=>ld (C e)
def Dn(M:K.aV)(A:db K it e h x h1)(l:Fg K h1 x=J k)(tk:J4 tg k=true)(N:Nat)(I:Nat->nw->H->Prop)(z:I 0 e h1)(step:∀j,j<N->∀e h,I j e h->∃v,oB K k h x j=J (J v)/\tL K tg v e h λe h=>uO K sa e h (oZ (I (j+1)) (se K r Q)))(done:∀e h,I N e h->oB K k h x N=J .none/\oD K r e h Q):oD K (.cons (.each tg it sa) r) e h Q:=by
 revert N I;ext K e h h1 x Q r sa it k tg;exact⟨A.go _ (by
  rw[l];exact⟨tk,N+1,Jf (f:=λv e h P=>tL K tg v e h λe h=>uO K sa e h P) (λv e h P P' m w=>yG M tg (λe h w=>tA M sa m w) w) N I step (λe h w=>⟨(done e h w).1,(done e h w).2.go⟩) N 0 e h1 (dY N) z⟩)⟩
def DT(M:K.aV)(N:Nat)(I:Nat->nw->H->Prop)(z:I N e h)(step:∀m e h,I m e h->∃x h1 t,db K c e h x h1/\tr x=J t/\(t=true->∃j,j<m/\oD K sa e h1 (oZ (I j) (se K r Q)))/\(t=false->oD K r e h1 Q)):oD K (.cons (.loop c sa) r) e h Q:=by
 revert N I;ext K e h c Q r sa;exact⟨N+1,EQ (c:=λe h P=>ev K c e h λx h=>yb (tr x) λt=>P t h) (f:=λe h P=>uO K sa e h P) (λe h P P' m w=>jp M c (λv h w=>pU (λt w=>m _ _ w) w) w) (λe h P P' m w=>tA M sa m w) I (λm e h w=>by
   obtain⟨x,h1,t,a1,a2,a3,a4⟩:=step m e h w;refine a1.go _ ?_;dsimp only;rw[a2];exact⟨λe1=>by obtain⟨j,l,z⟩:=a3 e1;exact⟨j,l,z.go⟩,λe1=>(a4 e1).go⟩) N N e h (cX _) z⟩
variable{f:Nat}{n0:Nat}
def qO(q:G v h):qN n0 G (.ret v) e h:=.inl q
def C7(hc:oY h.length h)(hv:sX h.length v)(q:G v h):qN h.length G (.ret v) e (h++b8):=.inr (.inl ⟨h,b8,rfl,cX _,hc,hv,q⟩)
def uV(q:G .none h):qN n0 G .next e h:=.inl q
end
section
variable{d:Nat}{Q:V->H->Prop}{T:H}
def mk{K K':pK}(F:∀Q,(oY T.length T->uO K' body e T (qN T.length Q))->K.call f vs T Q)(G:∀Q:V->H->Prop,Q v aK->oY T.length T->oD K' body e T (qN T.length Q)):ii K f vs T v aK:=
 ⟨λQ q=>F Q λhc=>(G Q q hc).go⟩
def za{s k:Nat}(hs:s<1000):ii (K0 (d+1)) 21 [nv s,nv k] T (nv (s*8+k)) T:=
 mk (λQ=>Id rfl) λQ q hc=>uz (qG (r7 (r_loc rfl) ac (by lia) ⋯) (r_loc rfl)) (qO q)
def xE{p:Nat}:ii (K0 (d+1)) 28 [nv p] T (nv (p >>> 3)) T:=
 mk (λQ=>OC rfl) λQ q hc=>uz (rD (r_loc rfl) ac) (qO q)
end
end
end Mine.Lake
local macro_rules (kind := «term∅») | s => Mine.Lake.mL s
namespace Mine.Lake
noncomputable section
abbrev rF:Nat->Ss->Ss
 | n+1,.cons _ r=>rF n r
 | _,r=>r
abbrev Qk(sa F R:Nat)(x4 x5 x6 x7 x8 x9 bY x11 x12:Option V):nw:=
 [J (.con sa),J (.ref 1),J (nv F),J (nv R),x4,x5,x6,x7,x8,x9,bY,x11,x12,U,U,U,U,U,U,U,U,U,U,U,U,U,U,U,U,U,U,U,U,U,U,U,U]
abbrev YG:Ss:=rF 2 GF.body
abbrev Yu:List Int:=(cn 7).map λi=>if i<Pv.length then Pv.getD i 0 else 0
abbrev h20:H:=[.aT 0 7 1]++[.list (Yu.map .int)]++[.tup [nv 3,nv 4]]++[.tup [nv 7,nv 3]]++[.list [.ref 2,.ref 3]]
abbrev SX(F R:Nat):Prop:=oD (K0 23) YG (Qk Md F R U U U U U U U U U) h20 (qN 0 λv w=>v= .bool true)
abbrev cc:Bool:=@decide (SX 3 4) (eT _)
abbrev F:Nat:=if cc=true then 7 else 3
abbrev R:Nat:=if cc=true then 3 else 4
def KD{C:Nat->Nat->Bool->Prop}(h1:C 3 4 false)(h2:C 7 3 true):C F R cc:=by
 unfold F R;cases cc with
 | true=>exact h2
 | false=>exact h1
def Sl(h:SX F R):SX 3 4/\SX 7 3:=by
 have e:SX 3 4:=cJ λn=>by
  have z:cc=false:=@cz _ (eT _) n;unfold F R at h;rw[z] at h;exact n h
 have z:cc=true:=@cy _ (eT _) e;refine⟨e,?_⟩;unfold F R at h;rw[z] at h;exact h
section
variable{K:pK}{e:nw}{h h1 h2 h3:H}{a b c:E}{i j n m p:Nat}{v x y z:V}{Q:QS}{r:Ss}{sa sb:Ss}
def IJ(q:∀Q:V->H->Prop,te (pq o (nv n) (nv m) h) Q=Q (nv k) h):Cp o (nv n) (nv m) h=J (nv k,h):=by
 ext h n m o k;have q:=(q (λv s=>v=nv k/\s=h)).mpr ⟨rfl,rfl⟩;show pq o (nv n) (nv m) h=_;cases w:pq o (nv n) (nv m) h with
 | none=>rw[w] at q;exact q.elim
 | some o=>obtain⟨v,s⟩:=o;rw[w] at q;obtain⟨q1,q2⟩:=(q:v=nv k/\s=h);rw[q1,q2]
def BP:Cp .add (nv n) (nv m) h=J (nv (n+m),h):=IJ λw=>VW
def NH:Cp .shr (nv n) (nv m) h=J (nv (n >>> m),h):=IJ λw=>Sf
def rW:Cp .bor (nv n) (nv m) h=J (nv (n ||| m),h):=IJ λw=>RH
def ER:Cp .bxor (nv n) (nv m) h=J (nv (n ^^^ m),h):=IJ λw=>SY
def Y7(l:n<1000000000)(l':m<1000000000):Cp .mul (nv n) (nv m) h=J (nv (n*m),h):=IJ λw=>VH l l'
def ZO(l:0<m)(l':m<1000000):Cp .div (nv n) (nv m) h=J (nv (n/m),h):=IJ λw=>Rq l l'
def Z3(l:m<=n):Cp .sub (nv n) (nv m) h=J (nv (n - m),h):=IJ λw=>VX l
end
section
variable{d:Nat}{Q:V->H->Prop}{T:H}
def xM:ii (K0 (d+1)) 35 [nv p] T (nv (p &&& 7)) T:=
 mk (λQ=>O7 rfl) λQ q hc=>uz (nb ∅ ac) (qO q)
abbrev oO(o t s f:Nat):Nat:=t ||| o <<< 6 ||| f <<< 12 ||| s <<< 14
def r9(ho:o<64)(hs:s<4)(hp:s=1->2<=p)(hp':p<8):ii (K0 (d+1)) 42 [nv o,nv t,nv s,nv p] T (nv (oO o t s (if s=1 then p - 2 else 0))) T:=
 mk (λQ=>Ix rfl) λQ q hc=>bs ac (lv (oM ∅ bv) bm
  (λe1=>bs (oH ∅ bv (hp (b9 e1))) (ld (uz (qE (qE (qE ∅ (qo ∅ ac (by lia) ⋯)) (qo ∅ ac (by lia) ⋯)) (qo ∅ ac (by lia) ⋯))
   (qO (by have:=b9 e1;rw[cC this] at q;exact q)))))
  λe1=>uz (qE (qE (qE ∅ (qo ∅ ac (by lia) ⋯)) (qo ∅ ac ⋯ ⋯)) (qo ∅ ac (by lia) ⋯))
   (qO (by have:=cj e1;rw[cD this] at q;exact q)))
def uW:ii (K0 (d+1)) 49 [nv m] T (nv (m >>> 6 &&& 63)) T:=
 mk (λQ=>Jz rfl) λQ q hc=>uz (nb (rD ∅ ac) ac) (qO q)
def vo:ii (K0 (d+1)) 56 [nv m] T (nv (m &&& 63)) T:=
 mk (λQ=>Od rfl) λQ q hc=>uz (nb ∅ ac) (qO q)
def sT:ii (K0 (d+1)) 63 [nv m] T (nv (m >>> 14 &&& 3)) T:=
 mk (λQ=>ED rfl) λQ q hc=>uz (nb (rD ∅ ac) ac) (qO q)
def G0(hm:m >>> 14 &&& 3=1):ii (K0 (d+1)) 70 [nv m] T (nv ((m >>> 12 &&& 3)+2)) T:=
 mk (λQ=>HX rfl) λQ q hc=>lv (tI (nb (rD ∅ ac) ac) bv) bm (λe1=>cG hm (b9 e1))
  λe1=>uz (qG (nb (rD ∅ ac) ac) bv) (qO q)
def tT(hb:0<b):ii (K0 (d+1)) 77 [nv b] T (.bool (decide (b &&& (b - 1)≠0))) T:=
 mk (λQ=>CF rfl) λQ q hc=>uz (tI (nb ∅ (oH ∅ ac hb)) ac) (qO q)
end
section
variable{K:pK}{e:nw}{h h1 h2 h3:H}{a b c:E}{i j n m p:Nat}{v x y z:V}{Q:QS}{r:Ss}{sa sb:Ss}{xs ys:List V}
def vE(A:db K a e h (.ref p) h1)(g:h1[p]? =J (.list ys))(B:db K b e h1 v h2)(g2:h2[p]? =J (.list xs))(l:xs.length<1000):db K (.append a b) e h .none (h2.set p (.list (xs++[v]))):=⟨λQ q=>A.go _ ⟨PK g,B.go _ (by rw[BV g2 l];exact q)⟩⟩
def zn:(T++[o]).set T.length o'=T++[o']:=by rw[ew _ _ (cX _),eD];rfl
def bn{T:H}:(T++[o])[T.length]? =J o:=ui T o
end
abbrev oX:Nat->Nat->Nat->List Nat
 | 0,_,_=>[]
 | n+1,c,s=>if c%2=1 then s::oX n (c/2) (s+1) else oX n (c/2) (s+1)
abbrev oV(b:Nat):List Nat:=oX 64 b 0
def Bs:∀n s,oX n 0 s=[]
 | 0,_=>rfl
 | n+1,s=>by simp [oX,Bs n]
def OK{n c s:Nat}(h:c%16=0):oX (n+4) c s=oX n (c/16) (s+4):=by
 ext n c s;have h1:c%2=0:=by lia
 have h2:c/2%2=0:=by lia
 have h3:c/2/2%2=0:=by lia
 have h4:c/2/2/2%2=0:=by lia
 have h5:c/2/2/2/2=c/16:=by lia
 simp [oX,h1,h2,h3,h4,h5]
def aaa(c:Nat):c &&& 15=c%16:=gE c 4
def Xp(c:Nat):c &&& 1=c%2:=gE c 1
def aaR(c:Nat):c >>> 4=c/16:=dz c 4
def Xw(c:Nat):c >>> 1=c/2:=dz c 1
section
variable{d:Nat}{Q:V->H->Prop}{T:H}
def OW(hb:0<b)(hb':b<2 ^ 64):ii (K0 (d+1)) 84 [nv b] T (nv (mV b)) T:=by
 ext d T b;exact mk (λQ=>O3 rfl) λQ q hc=>lv (oM ∅ ac) bm (λe1=>cG (b9 e1) (fc hb)) λw=>bs ac
   (DT (lw _) 6 (λm e h=>∃i,i+m=6/\T=h/\e=[J (nv b),J (nv (2 ^ i)),U,U]) ⟨0,rfl,rfl,rfl⟩ λm e h z=>by
    obtain⟨i,hi,rfl,rfl⟩:=z;refine⟨_,_,_,rD ∅ ∅,oE,λe1=>?_,λe1=>?_⟩
    .have hne:=b9 e1;have:i≠6:=λt=>by
      subst t;exact hne (by rw[dz];exact hI hb')
     have hp:2 ^ i<=2 ^ 6:=eE ⋯ (by lia);refine⟨m - 1,by lia,oI rfl ac (Y7 (by lia) ⋯) (od ⟨i+1,by lia,rfl,?_⟩)⟩;rw[gP];rfl
    .have h0:b >>> 2 ^ i=0:=cJ λt=>by rw[cy t] at e1;cases e1
     have hlt:b<2 ^ 2 ^ i:=by
      rw[dz] at h0;rcases kT.mp h0 with t | t
      .exact cG t (fc (gb _))
      .exact t
     refine bs ac (DT (lw _) i (λm e h=>∃s c,m<=6/\T=h/\e=[J (nv c),J (nv (2 ^ m)),J (nv s),U]/\c=b >>> s/\0<c/\c<2 ^ 2 ^ m) ⟨0,b,by lia,rfl,rfl,rfl,hb,hlt⟩ λm e h z=>?_);obtain⟨s,c,hm,rfl,rfl,hc1,hc2,hc3⟩:=z;refine⟨_,_,_,Jw ∅ ac,bm,λe1=>?_,λe1=>?_⟩
     .have hm1:m≠0:=λt=>by subst t;exact cG (b9 e1) ⋯
      obtain⟨k,rfl⟩:=gG hm1;have e2:2 ^ (k+1)/2=2 ^ k:=by rw[gP];lia
      have e3:2 ^ 2 ^ (k+1)=2 ^ 2 ^ k*2 ^ 2 ^ k:=by rw[<- Nat.pow_add];congr 1;rw[gP];lia
      refine⟨k,by lia,oI rfl ac (ZO ⋯ ⋯) (lv (rD ∅ ∅) oE (λe4=>?_) λe4=>od ?_)⟩
      .have hne:c >>> (2 ^ (k+1)/2)≠0:=b9 e4;refine oI rfl ∅ NH (oI rfl ∅ BP (ld (od ⟨s+2 ^ k,c >>> 2 ^ k,by lia,rfl,by rw[<- e2];rfl,by rw[hc1,Nat.shiftRight_add],?_,?_⟩)))
       .rw[e2] at hne;exact ef hne
       .rw[dz];exact g8 (by rw[<- e3];exact hc3)
      .have h0:c >>> (2 ^ (k+1)/2)=0:=cJ λt=>by rw[cy t] at e4;cases e4
       rw[e2,dz] at h0;refine⟨s,c,by lia,rfl,by rw[<- e2];rfl,hc1,hc2,?_⟩;rcases kT.mp h0 with t | t
       .exact cG t (fc (gb _))
       .exact t
     .have hm0:m=0:=by
       cases m with
       | zero=>rfl
       | succ k=>
        have:1<2 ^ (k+1):=Nat.one_lt_two_pow (by lia);rw[cy this] at e1;cases e1
      subst hm0;have hl:mV b=s:=by
       have c1:c=1:=by
        have:c<2:=hc3;lia
       rw[c1,dz] at hc1;rw[Nat.log2_eq_iff (fc hb)];have p:=gb s;have dm:=f9 b (2 ^ s);have ml:=mQ b p;rw[<- hc1] at dm;rw[gP];lia
      exact uz ∅ (qO (hl▸q)))
def IC(hb:0<oh b (b - 1))(hb':b<2 ^ 64):ii (K0 (d+2)) 91 [nv b] T (nv (mV (oh b (b - 1)))) T:=
 mk (λQ=>QM rfl) λQ q hc=>uz (bi (be (Z5 ∅ ∅) f8) (OW hb (ae (eJ _ _) hb'))) (qO q)
def pW(hb:b<2 ^ 64):ii (K0 (d+1)) 98 [nv b] T (.ref T.length) (T++[.list ((oV b).map nv)]):=by
 ext d T b;exact mk (λQ=>He rfl) λQ q hc=>bs (qe f8 ⋯) (bs ac
   (DT (lw _) b (λm e h=>∃c s n xs,c<=m/\c<2 ^ n/\T++[.list (xs.map nv)]=h/\e=[J (nv c),J (.ref T.length),J (nv s),U]/\xs++oX n c s=oV b/\xs.length+n<=64)
    ⟨b,0,64,[],cX _,hb,rfl,rfl,rfl,by decide⟩ λm0 e h z=>by
    refine bc λkk=>?_;obtain⟨m,s,n,xs,hm0,hm,rfl,rfl,hx,hn⟩:=z;refine kk ?_;clear kk;refine⟨_,_,_,r_loc rfl,oE,λe1=>?_,λe1=>?_⟩
    .have hne:m≠0:=b9 e1;refine⟨m/2,by lia,DT (lw _) m (λk e h=>∃s n,0<k/\k<=m/\k<2 ^ n/\T++[.list (xs.map nv)]=h/\e=[J (nv k),J (.ref T.length),J (nv s),U]/\xs++oX n k s=oV b/\xs.length+n<=64)
      ⟨s,n,ef hne,cX _,hm,rfl,rfl,hx,hn⟩ λk e h z=>?_⟩
     refine bc λkk=>?_;obtain⟨s,n,hk0,hk,hkn,rfl,rfl,hx,hn⟩:=z;refine kk ?_;clear kk;refine⟨_,_,_,uC (nb ∅ ac) oE,bm,λe2=>?_,λe2=>?_⟩
     .have h15:k%16=0:=by
       rw[<- aaa];refine cJ λt=>?_;rw[show decide (k &&& 15≠0)=true from cy t] at e2;cases e2
      have n4:∃n',n=n'+4:=by
       refine⟨n - 4,?_⟩;have:¬n<4:=λt=>by
        have:2 ^ n<=2 ^ 4:=eE ⋯ (by lia);lia
       lia
      obtain⟨n',rfl⟩:=n4;refine⟨k/16,by lia,oI rfl ac NH (oI rfl ac BP (od ⟨s+4,n',by lia,by lia,?_,rfl,?_,?_,by lia⟩))⟩
      .rw[Nat.pow_add] at hkn;lia
      .rw[aaR];rfl
      .rw[<- hx,OK h15]
     .have n1:∃n',n=n'+1:=by
       cases n with
       | zero=>exact cG hkn (by simp;lia)
       | succ n=>exact⟨n,rfl⟩
      obtain⟨n',rfl⟩:=n1;have hk2:k/2<2 ^ n':=by rw[gP] at hkn;lia
      refine uw (nb ∅ ac) oE (λe3=>?_) (λe3=>?_)
      .have o:k%2=1:=by
        have:=b9 e3;rw[Xp] at this;lia
       have hl:xs.length<64:=by lia
       refine oJ (vE ∅ bn ∅ bn (by simp;lia)) (ld (oI rfl ac NH (oI rfl ac BP (od ⟨k/2,s+1,n',xs++[s],by lia,hk2,?_,?_,?_,?_⟩))))
       .rw[zn,dO];rfl
       .rw[Xw];rfl
       .rw[<- hx,oX,cC o,aa];rfl
       .rw[a6];simp;lia
      .have o:¬k%2=1:=λt=>by
        rw[show decide (k &&& 1≠0)=true from cy (by rw[Xp,t];decide)] at e3;cases e3
       refine ld (oI rfl ac NH (oI rfl ac BP (od ⟨k/2,s+1,n',xs,by lia,hk2,rfl,?_,?_,by lia⟩)))
       .rw[Xw];rfl
       .rw[<- hx,oX,cD o]
    .have h0:m=0:=cJ λt=>by rw[cy t] at e1;cases e1
     subst h0;rw[Bs,cN] at hx;exact uz ∅ (qO (hx▸q))))
end
structure o7 where
 files:Nat
 ranks:Nat
 cast:Bool
 fm:List Nat
 rm:List Nat
 rays:List (List Nat)
 king:List Nat
 knight:List Nat
 pawn:List (List Nat)
 castles:List (Option (List Nat))
 lost:List Nat
abbrev o7.size(G:o7):Nat:=G.files*G.ranks
abbrev o7.av(G:o7):Nat:=(1 <<< G.size) - 1
abbrev o7.ray(G:o7)(d s:Nat):Nat:=(G.rays.getD d []).getD s 0
abbrev o7.pw(G:o7)(d s:Nat):Nat:=(G.pawn.getD d []).getD s 0
structure GH where
 fm:Nat
 rm:Nat
 rays:Nat
 king:Nat
 knight:Nat
 pawn:Nat
 castles:Nat
 lost:Nat
 ray:List Nat
 pw:List Nat
 cs:List V
structure BM (G:o7):Prop where
 sz:G.size<=21
 fl:G.fm.length=G.files
 rl:G.rm.length=G.ranks
 f3:3<=G.files
 f7:G.files<=7
 r3:3<=G.ranks
 r8:G.ranks<=8
 ra:G.rays.length=8
 rs:∀l∈G.rays,l.length=G.size
 kl:G.king.length=G.size
 nl:G.knight.length=G.size
 pl:G.pawn.length=2
 ps:∀l∈G.pawn,l.length=G.size
 cl:G.castles.length=4
 cv:∀t,J t∈G.castles->(∀x∈t,x<G.size)/\t.getD 0 0≠t.getD 2 0
 ll:G.lost.length=G.size
structure pP (T:H) (g:Nat) (h:GH) (G:o7) (n:Nat):Prop where
 inst:T[g]? =J (.inst 0 [(0,nv G.files),(1,nv G.ranks),(2,nv G.size),(3,nv G.av),(4,.bool false),(5,.bool G.cast),(6,.ref h.fm),(7,.ref h.rm),(8,.ref h.rays),(9,.ref h.king),(10,.ref h.knight),(11,.ref h.pawn),(12,.ref h.castles),(13,.ref h.lost)])
 fm:T[h.fm]? =J (.list (G.fm.map nv))
 rm:T[h.rm]? =J (.list (G.rm.map nv))
 rays:T[h.rays]? =J (.list (h.ray.map .ref))
 ray:∀(d p:Nat) (l:List Nat),h.ray[d]? =J p->G.rays[d]? =J l->T[p]? =J (.list (l.map nv))
 king:T[h.king]? =J (.list (G.king.map nv))
 knight:T[h.knight]? =J (.list (G.knight.map nv))
 pawn:T[h.pawn]? =J (.list (h.pw.map .ref))
 pw:∀(d p:Nat) (l:List Nat),h.pw[d]? =J p->G.pawn[d]? =J l->T[p]? =J (.list (l.map nv))
 castles:T[h.castles]? =J (.list h.cs)
 cs0:∀i:Nat,G.castles[i]? =J U->h.cs[i]? =J .none
 cs:∀(i:Nat) (t:List Nat),G.castles[i]? =J (J t)->t.length=4/\∃p,h.cs[i]? =J (.ref p)/\p<n/\T[p]? =J (.tup (t.map nv))
 lost:T[h.lost]? =J (.list (G.lost.map nv))
 ok:BM G
 hr:h.ray.length=8
 hp:h.pw.length=2
 low:g<n/\h.fm<n/\h.rm<n/\h.rays<n/\h.king<n/\h.knight<n/\h.pawn<n/\h.castles<n/\h.lost<n/\(∀p∈h.ray,p<n)/\(∀p∈h.pw,p<n)
def pP.same(A:pP T g h G n)(e:∀i,i<n->aK[i]? =T[i]?):pP aK g h G n:=by
 ext T aK g h G n;obtain⟨l1,l2,l3,l4,l5,l6,l7,l8,l9,l10,l11⟩:=A.low;exact⟨(e _ l1).trans A.inst,(e _ l2).trans A.fm,(e _ l3).trans A.rm,(e _ l4).trans A.rays,λd p l a b=>(e _ (l10 p (dB a))).trans (A.ray d p l a b),(e _ l5).trans A.king,(e _ l6).trans A.knight,(e _ l7).trans A.pawn,
  λd p l a b=>(e _ (l11 p (dB a))).trans (A.pw d p l a b),(e _ l8).trans A.castles,A.cs0,λi t q=>by
   obtain⟨c0,p,c1,c2,c3⟩:=A.cs i t q;exact⟨c0,p,c1,c2,(e _ c2).trans c3⟩,(e _ l9).trans A.lost,A.ok,A.hr,A.hp,A.low⟩
def pP.app(A:pP T g h G n)(l:n<=T.length)(t:H):pP (T++t) g h G n:=
 A.same λi hi=>ar (cM hi l)
def v9{l:List Nat}(h:i<l.length):(l.map nv)[i]? =J (nv (l.getD i 0)):=by
 rw[cV,a7 h,ba,a7 h];rfl
def zw{l:List Nat}{i p:Nat}(h:l[i]? =J p):(l.map V.ref)[i]? =J (.ref p):=by
 rw[cV,h];rfl
section
variable{K:pK}{e:nw}{T h h1 h2 h3:H}{a b c:E}{i j n m p:Nat}{v x y z:V}{g n:Nat}{gh:GH}{G:o7}
def pf{G:V->H->Prop}(A:db K a e h v h1)(q:G v h1):oD K (.cons (.ret a) r) e h (qN n0 G):=⟨A.go _ (.inl q)⟩
def pM{G:V->H->Prop}(A:db K a e h v h1)(q:G v h1):oD K (.cons (.ret a) r) e h (se K r' (qN n0 G)):=⟨A.go _ (.inl q)⟩
def Z9{G:V->H->Prop}(A:db K a e h v h1)(q:G v h1):oD K (.cons (.ret a) r) e h (se K r' (se K r'' (qN n0 G))):=⟨A.go _ (.inl q)⟩
def QN{G:V->H->Prop}(A:db K a e h v (h3++t))(hc:oY h3.length h3)(hv:sX h3.length v)(q:G v h3):oD K (.cons (.ret a) r) e h (qN h3.length G):=⟨A.go _ (C7 (e:=e) hc hv q)⟩
def oz(k:Nat)(g:h[p]? =J (.inst cl fs))(A:db K a e h (.ref p) h)(l:fs.lookup k=J v):db K (.attr a k) e h v h:=W5 A g l
def tO{l:List Nat}(g:h[p]? =J (.list (l.map nv)))(A:db K a e h (.ref p) h)(B:db K b e h (nv i) h)(hl:i<l.length)(hm:l.length<1000):db K (.sub a b) e h (nv (l.getD i 0)) h:=
 pd A B (io g) (v9 hl) (by lia)
def Gz{s:Nat}(A:pP h g gh G m)(B:db K a e h (.ref g) h)(C:db K b e h (nv i) h)(D:db K c e h (nv s) h)(hi:i<8)(hs:s<G.size):db K (.sub (.sub (.attr a 8) b) c) e h (nv (G.ray i s)) h:=by
 have q1:i<gh.ray.length:=by rw[A.hr];exact hi
 have q2:i<G.rays.length:=by rw[A.ok.ra];exact hi
 have e2:=A.ok.rs _ (dk q2);have sz:=A.ok.sz;have w:=A.ray i _ _ (a7 q1) (a7 q2);have z:=tO w (pd (oz 8 A.inst B rfl) C (io A.rays) (zw (a7 q1)) (by lia)) D (by lia) (by lia);have ee:(G.rays[i]).getD s 0=G.ray i s:=by
  unfold o7.ray;rw[ba (l:=G.rays),a7 q2];rfl
 rw[<- ee];exact z
def ZE{s:Nat}(A:pP h g gh G m)(B:db K a e h (.ref g) h)(C:db K b e h (nv i) h)(D:db K c e h (nv s) h)(hi:i<2)(hs:s<G.size):db K (.sub (.sub (.attr a 11) b) c) e h (nv (G.pw i s)) h:=by
 have q1:i<gh.pw.length:=by rw[A.hp];exact hi
 have q2:i<G.pawn.length:=by rw[A.ok.pl];exact hi
 have e2:=A.ok.ps _ (dk q2);have sz:=A.ok.sz;have w:=A.pw i _ _ (a7 q1) (a7 q2);have z:=tO w (pd (oz 11 A.inst B rfl) C (io A.pawn) (zw (a7 q1)) (by lia)) D (by lia) (by lia);have ee:(G.pawn[i]).getD s 0=G.pw i s:=by
  unfold o7.pw;rw[ba (l:=G.pawn),a7 q2];rfl
 rw[<- ee];exact z
end
abbrev Cn(con:Nat->Option O):Prop:=∀a p,yT a=J p->con a=J (XV p)
def UX(h:yT sa=U):Cn (zj sa ns):=λa p q=>by
 unfold zj;rw[cD (λe=>by subst e;rw[h] at q;cases q),q];rfl
abbrev VY(d:Nat):Int:=([1,0,-1,0,1,-1,-1,1]:List Int).getD d 0
abbrev Ct(d:Nat):Bool:=decide (0<VY d)||decide (d=1)
def C0:Cn (K0 d).con:=by
 rw[KP];exact UX P6
def NR(h:d<8):([.int 1,.int 0,.int (-1),.int 0,.int 1,.int (-1),.int (-1),.int 1]:List V)[d]? =J (.int (VY d)):=by
 exact lt8 h rfl rfl rfl rfl rfl rfl rfl rfl
abbrev Zi(b:Nat):Nat:=
 let b:=b ||| b >>> 1
 let b:=b ||| b >>> 2
 let b:=b ||| b >>> 4
 let b:=b ||| b >>> 8
 let b:=b ||| b >>> 16
 b ||| b >>> 32
abbrev tj(g:Bool)(R occ:Nat):Nat:=if R &&& occ=0 then R else if g then R &&& ((R &&& occ) ^^^ ((R &&& occ) - 1)) else oh R (Zi ((R &&& occ) >>> 1))
section
variable{d:Nat}{Q:V->H->Prop}{T:H}{g n:Nat}{gh:GH}{G:o7}
def HY(hk:k<8):ii (K0 (d+1)) 188 [nv k] T (.bool (Ct k)) T:=
 mk (λQ=>zr rfl) λQ q hc=>pf (sE (pB (pd F2 ∅ (Ju (o:=(false,[])) (C0 160 _ rfl)) (NR hk) (by lia)) qF rfl) (oM ∅ ac)) q
def yd(A:pP T g gh G n)(hk:k<8)(hs:s<G.size):ii (K0 (d+2)) 244 [.ref g,nv k,nv s,nv o] T (nv (tj (Ct k) (G.ray k s) o)) T:=by
 ext d T g n gh G k s o;exact mk (λQ=>Fw rfl) λQ q hc=>bs (Gz A ∅ ∅ ∅ hk hs) (bs (nb ∅ ∅) (lv (oM ∅ ac) bm
   (λe1=>pM ∅ (by rw[tj,cC (b9 e1)] at q;exact q))
   λe1=>lv (bi (lz rfl) (HY hk)) bm
    (λe2=>pM (nb ∅ (y4 ∅ (oH ∅ ac (ef (cj e1))))) (by rw[tj,cD (cj e1),cC e2] at q;exact q))
    λe2=>bs (rD ∅ ac) (oI rfl (rD ∅ ac) rW (oI rfl (rD ∅ ac) rW (oI rfl (rD ∅ ac) rW (oI rfl (rD ∅ ac) rW (oI rfl (rD ∅ ac) rW
     (oI rfl (rD ∅ ac) rW (pf (xh ∅ ∅) (by rw[tj,cD (cj e1),cD (by rw[e2];decide)] at q;exact q))))))))))
end
section
variable{K:pK}{e:nw}{h h1 h2 h3:H}{a b c:E}{i j n m p:Nat}{v x y z:V}{Q:QS}{r:Ss}{sa sb:Ss}{xs ys:List V}{es:Es}
def ry(l:n<1000000):yA (n:Int)=true:=by
 unfold yA
 (rewrite [ax,cu,cu];try with_reducible rfl)
 lia
def pZ(A:Gb K es e h [nv n] h1)(l:n<1000000):db K (.range i es) e h (.ref h1.length) (h1++[.aT 0 n 1]):=⟨λQ q=>A.go _ (by
 show te (sF [.int (n:Int)] h1) Q
 (rewrite [Tm,cC (ry l)];try with_reducible rfl)
 exact q)⟩
def S3(A:Gb K es e h [nv n,nv m] h1)(l:n<1000000)(l':m<1000000):db K (.range i es) e h (.ref h1.length) (h1++[.aT n m 1]):=⟨λQ q=>A.go _ (by
 show te (sF [.int (n:Int),.int (m:Int)] h1) Q
 (rewrite [Ur,cC (cY.mpr ⟨ry l,ry l'⟩)];try with_reducible rfl)
 exact q)⟩
def tM(l:n+N=m):oB K (.aT (n:Int) (m:Int) 1) h x j=J (if j<N then J (nv (n+j)) else .none):=by
 have e1:pG (n:Int) (m:Int) 1=N:=by
  unfold pG;rw[cC (by rfl)];lia
 unfold oB;dsimp only;rw[e1];have e2:(n:Int)+(j:Int)*1=((n+j:Nat):Int):=by lia
 rw[e2];rfl
def rQ(M:K.aV)(A:db K it e h (.ref p) h1)(g:h1[p]? =J (.aT (n:Int) (m:Int) 1))(l1:n<=m)(l2:m<1000000)(I:Nat->nw->H->Prop)(z:I n e h1)
  (step:∀j,n<=j->j<m->∀e h,I j e h->oD K sa (e.set t (J (nv j))) h (oZ (I (j+1)) (se K r Q))) (done:∀e h,I m e h->oD K r e h Q):oD K (.cons (.each (.loc t) it sa) r) e h Q:=
 Dn (k:=.aT (n:Int) (m:Int) 1) M A (by simp [Fg,tR,g,ry l2,ry (n:=n) (by lia)]) rfl (m - n) (λj e h=>I (n+j) e h) z
  (λj hj e h z=>⟨nv (n+j),by rw[tM (N:=m - n) (by lia),cC hj],(step (n+j) (by lia) (by lia) e h z).go⟩)
  λe h z=>⟨by rw[tM (N:=m - n) (by lia),cD (eU _)],done e h (by rw[show n+(m - n)=m by lia] at z;exact z)⟩
def WZ(M:K.aV)(A:db K it e h (.ref p) h1)(g:h1[p]? =J (.list xs))(I:Nat->nw->H->Prop)(z:I 0 e h1)(keep:∀j e h,I j e h->h[p]? =J (.list xs))(tk:J4 t .list=true)
  (step:∀j v,xs[j]? =J v->∀e h,I j e h->tL K t v e h λe h=>uO K sa e h (oZ (I (j+1)) (se K r Q))) (done:∀e h,I xs.length e h->oD K r e h Q):oD K (.cons (.each t it sa) r) e h Q:=
 Dn (k:=.list) M A (by simp [Fg,tR,g]) tk xs.length I z
  (λj hj e h z=>⟨xs[j],by simp [oB,tR,keep j e h z,hj],step j _ (a7 hj) e h z⟩)
  λe h z=>⟨by simp [oB,tR,keep _ e h z],done e h z⟩
end
abbrev Tn(f:Nat->Nat)(lo:Nat):Nat->Nat
 | 0=>0
 | n+1=>Tn f lo n ||| f (lo+n)
abbrev sR(G:o7)(s o:Nat):Nat:=Tn (λd=>tj (Ct d) (G.ray d s) o) 0 4
abbrev tB(G:o7)(s o:Nat):Nat:=Tn (λd=>tj (Ct d) (G.ray d s) o) 4 4
abbrev uj(G:o7)(k s o:Nat):Nat:=if k=3 then tB G s o else if k=4 then sR G s o else if k=5 then sR G s o ||| tB G s o else 0
abbrev sP(G:o7)(c k s o:Nat):Nat:=if k=1 then G.pw c s else if k=2 then G.knight.getD s 0 else if k=6 then G.king.getD s 0 else uj G k s o
section
variable{d:Nat}{Q:V->H->Prop}{T:H}{g n:Nat}{gh:GH}{G:o7}
def rd(A:pP T g gh G n)(hn:n<=T.length)(hs:s<G.size):ii (K0 (d+3)) 251 [.ref g,nv s,nv o] T (nv (sR G s o)) T:=by
 ext d T g n gh G s o;exact mk (λQ=>EK rfl) λQ q hc=>bs ac (rQ (n:=0) (m:=4) (lw _) (pZ (be ac f8) ⋯) bn ⋯ ⋯
   (λj e h=>T++[.aT 0 4 1]=h/\∃x,e=[J (.ref g),J (nv s),J (nv o),J (nv (Tn (λd=>tj (Ct d) (G.ray d s) o) 0 j)),x,U,U,U]) ⟨rfl,U,rfl⟩
   (λj w hj e h z=>by
    obtain⟨rfl,x,rfl⟩:=z;refine oI rfl (bi (lc rfl (lc rfl (lc rfl (lz rfl)))) (yd (A.app hn _) (by lia) hs)) rW (od ⟨rfl,J (nv j),?_⟩);rw[Tn,dY];rfl)
   λe h z=>by
    obtain⟨rfl,x,rfl⟩:=z;exact QN ∅ hc trivial q)
def qu(A:pP T g gh G n)(hn:n<=T.length)(hs:s<G.size):ii (K0 (d+3)) 258 [.ref g,nv s,nv o] T (nv (tB G s o)) T:=
 mk (λQ=>Bj rfl) λQ q hc=>bs ac (rQ (n:=4) (m:=8) (lw _) (S3 (be ac (be ac f8)) ⋯ ⋯) bn ⋯ ⋯
  (λj e h=>T++[.aT 4 8 1]=h/\∃x,e=[J (.ref g),J (nv s),J (nv o),J (nv (Tn (λd=>tj (Ct d) (G.ray d s) o) 4 (j - 4))),x,U,U,U]) ⟨rfl,U,rfl⟩
  (λj h4 hj e h z=>by
   obtain⟨rfl,x,rfl⟩:=z;refine oI rfl (bi (lc rfl (lc rfl (lc rfl (lz rfl)))) (yd (A.app hn _) hj hs)) rW (od ⟨rfl,J (nv j),?_⟩);obtain⟨k,rfl⟩:=fM h4;rw[show 4+k+1 - 4=(4+k - 4)+1 from Nat.succ_sub (de 4 k),Tn,show 4+(4+k - 4)=4+k from gV (de 4 k)];rfl)
  λe h z=>by
   obtain⟨rfl,x,rfl⟩:=z;exact QN ∅ hc trivial q)
def Cx(A:pP T g gh G n)(hn:n<=T.length)(hs:s<G.size):ii (K0 (d+4)) 265 [.ref g,nv s,nv o] T (nv (sR G s o ||| tB G s o)) T:=
 mk (λQ=>Cl rfl) λQ q hc=>pf (qE (bi (lc rfl (lc rfl (lz rfl))) (rd A hn hs)) (bi (lc rfl (lc rfl (lz rfl))) (qu A hn hs))) q
def A5(A:pP T g gh G n)(hn:n<=T.length)(hs:s<G.size):ii (K0 (d+5)) 272 [.ref g,nv k,nv s,nv o] T (nv (uj G k s o)) T:=by
 ext d T g n gh G k s o;exact mk (λQ=>AY rfl) λQ q hc=>lv (oM ∅ bv) bm (λe1=>pM (bi (lc rfl (lc rfl (lz rfl))) (qu A hn hs)) (by rw[uj,cC (b9 e1)] at q;exact q))
   λe1=>lv (oM ∅ bv) bm (λe2=>pM (bi (lc rfl (lc rfl (lz rfl))) (rd A hn hs)) (by rw[uj,cD (cj e1),cC (b9 e2)] at q;exact q))
   λe2=>lv (oM ∅ bv) bm (λe3=>pM (bi (lc rfl (lc rfl (lz rfl))) (Cx A hn hs)) (by rw[uj,cD (cj e1),cD (cj e2),cC (b9 e3)] at q;exact q))
   λe3=>pf ac (by rw[uj,cD (cj e1),cD (cj e2),cD (cj e3)] at q;exact q)
def Cg(A:pP T g gh G n)(hn:n<=T.length)(hc:c<2)(hs:s<G.size):ii (K0 (d+6)) 279 [.ref g,nv c,nv k,nv s,nv o] T (nv (sP G c k s o)) T:=by
 ext d T g n gh G c k s o;exact have sz:=A.ok.sz
  have kl:=A.ok.kl
  have nl:=A.ok.nl
  mk (λQ=>B6 rfl) λQ q w=>lv (oM ∅ bv) bm (λe1=>pM (ZE A ∅ ∅ ∅ hc hs) (by rw[sP,cC (b9 e1)] at q;exact q))
   λe1=>lv (oM ∅ bv) bm (λe2=>pM (tO A.knight (oz 10 A.inst ∅ rfl) ∅ (by lia) (by lia)) (by rw[sP,cD (cj e1),cC (b9 e2)] at q;exact q))
   λe2=>lv (oM ∅ bv) bm (λe3=>pM (tO A.king (oz 9 A.inst ∅ rfl) ∅ (by lia) (by lia)) (by rw[sP,cD (cj e1),cD (cj e2),cC (b9 e3)] at q;exact q))
   λe3=>pf (bi (lc rfl (lc rfl (lc rfl (lz rfl)))) (A5 A hn hs)) (by rw[sP,cD (cj e1),cD (cj e2),cD (cj e3)] at q;exact q)
end
section
variable{K:pK}{e:nw}{h h1 h3:H}{a:E}{v:V}{G:V->H->Prop}{r r1 r2:Ss}{n0:Nat}{t:H}{I:nw->H->Prop}
def abp(A:db K a e h v (h3++t))(hc:oY h3.length h3)(hv:sX h3.length v)(q:G v h3):oD K (.cons (.ret a) r) e h (se K r1 (oZ I (se K r2 (qN h3.length G)))):=⟨A.go _ (C7 (e:=e) hc hv q)⟩
end
abbrev CG(G:o7)(a b:Nat):Nat->Nat->Nat
 | 0,_=>8
 | n+1,d=>if(G.ray d a >>> b) &&& 1≠0 then d else CG G a b n (d+1)
abbrev yD(G:o7)(a b:Nat):Nat:=CG G a b 8 0
abbrev O4(G:o7)(a b:Nat):Nat:=if yD G a b<8 then G.ray (yD G a b) a &&& G.ray (yD G a b ^^^ 2) b else 0
abbrev NB(G:o7)(a b:Nat):Nat:=if yD G a b<8 then G.ray (yD G a b) a ||| G.ray (yD G a b ^^^ 2) a ||| 1 <<< a else 0
abbrev OY(G:o7)(a b c:Nat):Bool:=decide ((NB G a b >>> c) &&& 1=1)
def ZB(h:d<8):d ^^^ 2<8:=Nat.xor_lt_two_pow (n:=3) h ⋯
section
variable{d:Nat}{Q:V->H->Prop}{T:H}{g n:Nat}{gh:GH}{G:o7}
def BX(A:pP T g gh G n)(hn:n<=T.length)(ha:a<G.size):ii (K0 (d+1)) 105 [.ref g,nv a,nv b] T (if yD G a b<8 then nv (yD G a b) else .int (-1)) T:=by
 ext d T g n gh G a b;exact mk (λQ=>IM rfl) λQ q hc=>rQ (n:=0) (m:=8) (lw _) (pZ (be ac f8) ⋯) bn ⋯ ⋯
   (λj e h=>T++[.aT 0 8 1]=h/\CG G a b (8 - j) j=yD G a b/\∃x,e=[J (.ref g),J (nv a),J (nv b),x,U,U]) ⟨rfl,rfl,U,rfl⟩
   (λj w hj e h z=>by
    obtain⟨rfl,hd,x,rfl⟩:=z;rw[show 8 - j=(8 - (j+1))+1 from Wh (by assumption),CG] at hd;refine lv (nb (rD (Gz (A.app hn _) ∅ ∅ ∅ hj ha) ∅) ac) oE (λe1=>?_) λe1=>od ⟨rfl,?_,J (nv j),rfl⟩
    .rw[cC (b9 e1)] at hd;rw[<- hd,cC hj] at q;exact abp ∅ hc trivial q
    .rw[cD (cj e1)] at hd;exact hd)
   λe h z=>by
    obtain⟨rfl,hd,x,rfl⟩:=z;have:yD G a b=8:=hd.symm;rw[this,cD ⋯] at q;exact QN (Ah qF) hc trivial q
def GJ(A:pP T g gh G n)(hn:n<=T.length)(ha:a<G.size)(hb:b<G.size):ii (K0 (d+2)) 112 [.ref g,nv a,nv b] T (nv (O4 G a b)) T:=
 mk (λQ=>Pq rfl) λQ q hc=>by
  have c:=BX (d:=d) A hn (a:=a) (b:=b) ha;unfold O4 at q;by_cases h:yD G a b<8
  .rw[cC h] at c q;exact bs (bi (lc rfl (lc rfl (lz rfl))) c) (lv (Pa ∅ ac) bm (λe=>cG (b9 e) (fy _)) λw=>
    pf (nb (Gz A ∅ ∅ ∅ h ha) (Gz A ∅ (y4 ∅ ac) ∅ (ZB h) hb)) q)
  .rw[cD h] at c q;exact bs (bi (lc rfl (lc rfl (lz rfl))) c) (lv (t:=true) (pB ∅ qF rfl) rfl (λw=>pM ac q) λe=>by cases e)
def WC(A:pP T g gh G n)(hn:n<=T.length)(ha:a<G.size)(hb:b<G.size):ii (K0 (d+2)) 119 [.ref g,nv a,nv b] T (nv (NB G a b)) T:=by
 ext d T g n gh G a b;exact have sz:=A.ok.sz
  mk (λQ=>Wo rfl) λQ q hc=>by
   have c:=BX (d:=d) A hn (a:=a) (b:=b) ha;unfold NB at q;by_cases h:yD G a b<8
   .rw[cC h] at c q;exact bs (bi (lc rfl (lc rfl (lz rfl))) c) (lv (Pa ∅ ac) bm (λe=>cG (b9 e) (fy _)) λw=>
     pf (qE (qE (Gz A ∅ ∅ ∅ h ha) (Gz A ∅ (y4 ∅ ac) ∅ (ZB h) ha)) (qo ac ∅ ⋯ (by lia))) q)
   .rw[cD h] at c q;exact bs (bi (lc rfl (lc rfl (lz rfl))) c) (lv (t:=true) (pB ∅ qF rfl) rfl (λw=>pM ac q) λe=>by cases e)
def NN(A:pP T g gh G n)(hn:n<=T.length)(ha:a<G.size)(hb:b<G.size):ii (K0 (d+3)) 126 [.ref g,nv a,nv b,nv c] T (.bool (OY G a b c)) T:=
 mk (λQ=>Ov rfl) λQ q hc=>pf (oM (nb (rD (bi (lc rfl (lc rfl (lz rfl))) (WC A hn ha hb)) ∅) ac) ac) q
end
structure Ps where
 board:List Nat
 aN:List Nat
 aO:List Nat
 au:Nat
 az:Nat
 aA:Nat
 av:Nat
 key:Nat
 ay:List V
abbrev Ps.sd(P:Ps)(i:Nat):Nat:=P.aO.getD i 0
abbrev Ps.kd(P:Ps)(i:Nat):Nat:=P.aN.getD i 0
structure uu where
 g:Nat
 gh:GH
 G:o7
 n:Nat
 z:Nat
abbrev psO(p:Nat)(X:uu)(P:Ps):O:=.inst 1 [(14,.ref X.g),(15,.ref X.z),(16,.ref (p+1)),(17,.ref (p+2)),(18,.ref (p+3)),(19,nv P.au),(20,nv P.az),(21,.int (-1)),(22,nv P.aA),(3,nv P.av),(23,nv P.key),(24,.ref (p+4))]
structure Xg (G:o7) (P:Ps):Prop where
 bl:P.board.length=G.size
 kl:P.aN.length=7
 sl:P.aO.length=2
 sd:P.au<2
 s64:∀i,P.sd i<2 ^ 64
 sS:∀i,P.sd i<2 ^ G.size
 k64:∀i,P.kd i<2 ^ 64
structure At (T:H) (p:Nat) (X:uu) (P:Ps):Prop where
 geo:pP T X.g X.gh X.G X.n
 low:X.n<=p
 inst:T[p]? =J (psO p X P)
 board:T[p+1]? =J (.list (P.board.map nv))
 aN:T[p+2]? =J (.list (P.aN.map nv))
 aO:T[p+3]? =J (.list (P.aO.map nv))
 ay:T[p+4]? =J (.list P.ay)
 ok:Xg X.G P
def At.len(A:At T p X P):X.n<=T.length:=cO A.low (dH (f0 A.inst))
def At.app(A:At T p X P)(t:H):At (T++t) p X P:=
 ⟨A.geo.app A.len t,A.low,(ar (f0 A.inst)).trans A.inst,(ar (f0 A.board)).trans A.board,(ar (f0 A.aN)).trans A.aN,(ar (f0 A.aO)).trans A.aO,(ar (f0 A.ay)).trans A.ay,A.ok⟩
abbrev Im(x:Nat):Nat:=mV (oh x (x - 1))
def Hj(h:0<x):0<oh x (x - 1):=by
 ext x;unfold oh;have:x &&& (x - 1)<=x - 1:=dD;lia
def JA(h:a<2 ^ 64):a &&& b<2 ^ 64:=ae dE h
abbrev Ps.king(P:Ps)(c:Nat):Nat:=Im (P.sd c &&& P.kd 6)
abbrev Ps.strt(P:Ps):Nat:=P.kd 4 ||| P.kd 5
abbrev Ps.slnt(P:Ps):Nat:=P.kd 3 ||| P.kd 5
abbrev Ps.all(P:Ps):Nat:=P.sd 0 ||| P.sd 1
abbrev Kw(G:o7)(P:Ps)(s c:Nat):Nat:=G.pw (1 - c) s &&& P.kd 1 &&& P.sd c
abbrev u5(G:o7)(P:Ps)(s c:Nat):Nat:=Kw G P s c ||| ((G.knight.getD s 0 &&& P.kd 2) ||| (G.king.getD s 0 &&& P.kd 6)) &&& P.sd c
abbrev tQ(G:o7)(P:Ps)(s o:Nat):Nat:=(sR G s o &&& P.strt) ||| (tB G s o &&& P.slnt)
abbrev PV(G:o7)(P:Ps)(s o:Nat):Nat:=u5 G P s 0 ||| u5 G P s 1 ||| tQ G P s o
abbrev uD(G:o7)(P:Ps)(s c o:Nat):Bool:=decide (u5 G P s c≠0)||(decide (sR G s o &&& (P.strt &&& P.sd c)≠0)||(decide (P.slnt &&& P.sd c≠0)&&decide (tB G s o &&& (P.slnt &&& P.sd c)≠0)))
abbrev wU(G:o7)(P:Ps)(c:Nat):Nat:=PV G P (P.king c) P.all &&& P.sd (1 - c)
abbrev r5(G:o7)(P:Ps)(c:Nat):Bool:=uD G P (P.king c) (1 - c) P.all
section
variable{K:pK}{e:nw}{T h:H}{a b c:E}{i p:Nat}{X:uu}{P:Ps}
def oR(A:At h p X P)(B:db K a e h (.ref p) h)(C:db K b e h (nv i) h)(hi:i<2):db K (.sub (.attr a 18) b) e h (nv (P.sd i)) h:=
 tO A.aO (oz 18 A.inst B rfl) C (by rw[A.ok.sl];exact hi) (by rw[A.ok.sl];decide)
def tE(A:At h p X P)(B:db K a e h (.ref p) h)(C:db K b e h (nv i) h)(hi:i<7):db K (.sub (.attr a 17) b) e h (nv (P.kd i)) h:=
 tO A.aN (oz 17 A.inst B rfl) C (by rw[A.ok.kl];exact hi) (by rw[A.ok.kl];decide)
def qP(A:At h p X P)(B:db K a e h (.ref p) h):db K (.attr a 14) e h (.ref X.g) h:=oz 14 A.inst B rfl
def qd(A:At h p X P)(B:db K a e h (.ref p) h):db K (.attr a 19) e h (nv P.au) h:=oz 19 A.inst B rfl
def P7(A:pP h X.g X.gh X.G X.n)(B:db K a e h (.ref X.g) h)(C:db K b e h (nv i) h)(hi:i<X.G.size):db K (.sub (.attr a 10) b) e h (nv (X.G.knight.getD i 0)) h:=
 tO A.knight (oz 10 A.inst B rfl) C (by rw[A.ok.nl];exact hi) (by rw[A.ok.nl];exact ae A.ok.sz ⋯)
def Xf(A:pP h X.g X.gh X.G X.n)(B:db K a e h (.ref X.g) h)(C:db K b e h (nv i) h)(hi:i<X.G.size):db K (.sub (.attr a 9) b) e h (nv (X.G.king.getD i 0)) h:=
 tO A.king (oz 9 A.inst B rfl) C (by rw[A.ok.kl];exact hi) (by rw[A.ok.kl];exact ae A.ok.sz ⋯)
end
section
variable{d:Nat}{Q:V->H->Prop}{T:H}{p:Nat}{X:uu}{P:Ps}
def v8(A:At T p X P):ii (K0 (d+1)) 328 [.ref p] T (nv P.all) T:=
 mk (λQ=>Kx rfl) λQ q hc=>pf (qE (oR A ∅ bv ⋯) (oR A ∅ bv ⋯)) q
def Ej(A:At T p X P)(hc:c<2)(hk:k<7):ii (K0 (d+1)) 335 [.ref p,nv c,nv k] T (nv (P.sd c &&& P.kd k)) T:=
 mk (λQ=>QE rfl) λQ q w=>pf (nb (oR A ∅ ∅ hc) (tE A ∅ ∅ hk)) q
def qK(A:At T p X P)(hc:c<2)(hk:0<P.sd c &&& P.kd 6):ii (K0 (d+3)) 342 [.ref p,nv c] T (nv (P.king c)) T:=
 mk (λQ=>FK rfl) λQ q w=>pf (bi (be (nb (oR A ∅ ∅ hc) (tE A ∅ bv ⋯)) f8) (IC (Hj hk) (JA (A.ok.s64 c)))) q
def yE(A:At T p X P):ii (K0 (d+1)) 349 [.ref p] T (nv P.strt) T:=
 mk (λQ=>yN rfl) λQ q hc=>pf (qE (tE A ∅ bv ⋯) (tE A ∅ bv ⋯)) q
def wu(A:At T p X P):ii (K0 (d+1)) 356 [.ref p] T (nv P.slnt) T:=
 mk (λQ=>yQ rfl) λQ q hc=>pf (qE (tE A ∅ bv ⋯) (tE A ∅ bv ⋯)) q
def A7(A:At T p X P)(hs:s<X.G.size)(hc:c<2):ii (K0 (d+1)) 363 [.ref p,nv s,nv c] T (nv (Kw X.G P s c)) T:=
 mk (λQ=>AE rfl) λQ q w=>pf (nb (nb (ZE A.geo (qP A ∅) (oH ac ∅ (dh hc)) ∅ (gj (eJ 1 c)) hs) (tE A ∅ bv ⋯)) (oR A ∅ ∅ hc)) q
def tq(A:At T p X P)(hs:s<X.G.size)(hc:c<2):ii (K0 (d+2)) 370 [.ref p,nv s,nv c] T (nv (u5 X.G P s c)) T:=
 mk (λQ=>Aw rfl) λQ q w=>bs (qP A ∅) (bs (nb (P7 A.geo ∅ ∅ hs) (tE A ∅ bv ⋯)) (oI rfl (nb (Xf A.geo ∅ ∅ hs) (tE A ∅ bv ⋯)) rW
  (pf (qE (bi (lc rfl (lc rfl (lz rfl))) (A7 A hs hc)) (nb ∅ (oR A ∅ ∅ hc))) q)))
def Bo(A:At T p X P)(hs:s<X.G.size):ii (K0 (d+4)) 377 [.ref p,nv s,nv o] T (nv (tQ X.G P s o)) T:=by
 ext d T p X P s o;exact mk (λQ=>Bc rfl) λQ q w=>by
   have c1:=rd (d:=d) A.geo A.len (o:=o) hs;have c2:=qu (d:=d) A.geo A.len (o:=o) hs;refine bs ac (bs (bi (lz rfl) (yE A)) (lv ∅ oE (λe1=>oI rfl (nb (bi (be (qP A ∅) (lc rfl (lz rfl))) c1) ∅) rW (ld ?_)) λe1=>?_))
   .refine bs (bi (lz rfl) (wu A)) (lv ∅ oE (λe2=>oI rfl (nb (bi (be (qP A ∅) (lc rfl (lz rfl))) c2) ∅) rW (ld (pf ∅ ?_))) λe2=>pf ∅ ?_)
    .rw[kI];exact q
    .rw[kI];have:P.slnt=0:=by simpa using e2
     unfold tQ at q;rw[this,j0,Nat.or_zero] at q;exact q
   .have h0:P.strt=0:=by simpa using e1
    unfold tQ at q;rw[h0,j0,kI] at q;refine bs (bi (lz rfl) (wu A)) (lv ∅ oE (λe2=>oI rfl (nb (bi (be (qP A ∅) (lc rfl (lz rfl))) c2) ∅) rW (ld (pf ∅ ?_))) λe2=>pf ∅ ?_)
    .rw[kI];exact q
    .have:P.slnt=0:=by simpa using e2
     rw[this,j0] at q;exact q
def EF(A:At T p X P)(hs:s<X.G.size):ii (K0 (d+5)) 384 [.ref p,nv s,nv o] T (nv (PV X.G P s o)) T:=
 mk (λQ=>En rfl) λQ q w=>bs (qE (bi (lc rfl (lc rfl (be bv f8))) (tq A hs ⋯)) (bi (lc rfl (lc rfl (be bv f8))) (tq A hs ⋯)))
  (pf (qE ∅ (bi (lc rfl (lc rfl (lz rfl))) (Bo A hs))) q)
def rJ(A:At T p X P)(hs:s<X.G.size)(hc:c<2):ii (K0 (d+4)) 391 [.ref p,nv s,nv c,nv o] T (.bool (uD X.G P s c o)) T:=by
 ext d T p X P s c o;exact mk (λQ=>FD rfl) λQ q w=>by
   have c1:=rd (d:=d) A.geo A.len (o:=o) hs;have c2:=qu (d:=d) A.geo A.len (o:=o) hs;unfold uD at q;refine lv (bi (lc rfl (lc rfl (lz rfl))) (tq A hs hc)) oE (λe1=>pM o4 (by rw[e1] at q;exact q)) λe1=>?_;rw[e1,fq] at q;refine bs (qP A ∅) (bs (oR A ∅ ∅ hc) (bs (nb (bi (lz rfl) (yE A)) ∅) (lv (x:=nv (sR X.G s o &&& (P.strt &&& P.sd c))) (qZ ∅ oE
    (λw=>nb (bi (lc rfl (lc rfl (lz rfl))) c1) ∅) λe2=>⟨?_,rfl⟩) oE (λe2=>pM o4 (by rw[e2] at q;exact q)) λe2=>?_)))
   .have:P.strt &&& P.sd c=0:=by simpa using e2
    rw[this,j0]
   .rw[e2,fq] at q;exact bs (nb (bi (lz rfl) (wu A)) ∅) (pf (sr (tI ∅ ac) (tI (nb (bi (lc rfl (lc rfl (lz rfl))) c2) ∅) ac)) q)
end
section
variable{K:pK}{e:nw}{h h1 h2 h3:H}{a b c:E}{i j n m p:Nat}{v x y z:V}{Q:QS}{r:Ss}{sa sb:Ss}{xs ys:List V}{es:Es}
def uR{t:Nat}{l:List Nat}(M:K.aV)(A:db K it e h (.ref p) h1)(g:h1[p]? =J (.list (l.map nv)))(I:Nat->nw->H->Prop)(z:I 0 e h1)(keep:∀j e h,I j e h->h[p]? =J (.list (l.map nv)))
  (step:∀j (hj:j<l.length),∀e h,I j e h->oD K sa (e.set t (J (nv l[j]))) h (oZ (I (j+1)) (se K r Q))) (done:∀e h,I l.length e h->oD K r e h Q):oD K (.cons (.each (.loc t) it sa) r) e h Q:=
 WZ M A g I z keep rfl (λj v hv e h q=>by
  rw[cV] at hv;obtain⟨w,h1,rfl⟩:=dg.mp hv;obtain⟨hj,rfl⟩:=fZ.mp h1;exact(step j hj e h q).go) λe h q=>done e h (by rw[bj] at q;exact q)
end
def xy:∀(k c s:Nat),oX k c s=(jA s k).filter λm=>c.testBit (m - s)
 | 0,c,s=>rfl
 | k+1,c,s=>by
  have ih:=xy k;ext k c s;show(if c%2=1 then s::oX k (c/2) (s+1) else oX k (c/2) (s+1))=_;have e:(jA (s+1) k).filter (λm=>(c/2).testBit (m - (s+1)))=(jA (s+1) k).filter λm=>c.testBit (m - s):=by
   refine lR λm hm=>?_;rw[lS] at hm;rw[show m - s=(m - (s+1))+1 from Wh hm.1,Nat.testBit_succ]
  rw[ih,List.range'_succ,jN,e,eD,Nat.testBit_zero];by_cases h:c%2=1
  .rw[cC h,cC (cy h)]
  .rw[cD h,cD (λe=>h (b9 e))]
def IT:m∈oX k c s↔(s<=m/\m<s+k)/\c.testBit (m - s)=true:=by
 rw[xy,eg,lS]
def Ge(h:b<2 ^ n)(q:b.testBit m=true):m<n:=(Nat.pow_lt_pow_iff_right (dM 1)).mp (ae (Nat.ge_two_pow_of_testBit q) h)
def uT(h:m∈oV b):b.testBit m=true:=(IT.mp h).2
def EG(h:b<2 ^ n)(hm:m∈oV b):m<n:=Ge h (uT hm)
abbrev p0(G:o7)(P:Ps)(c:Nat):Nat:=((sR G (P.king c) 0 &&& P.strt) ||| (tB G (P.king c) 0 &&& P.slnt)) &&& P.sd (1 - c)
abbrev qM(G:o7)(P:Ps)(c s:Nat):Nat:=O4 G (P.king c) s &&& (P.all ^^^ p0 G P c)
abbrev wV(G:o7)(P:Ps)(c:Nat)(a s:Nat):Nat:=if qM G P c s≠0/\qM G P c s &&& (qM G P c s - 1)=0 then a ||| qM G P c s else a
abbrev O9(G:o7)(P:Ps)(c:Nat)(a s:Nat):Nat:=if qM G P c s≠0/\qM G P c s &&& (qM G P c s - 1)=0/\qM G P c s &&& P.sd c≠0 then a ||| 1 <<< s else a
abbrev GX(G:o7)(P:Ps)(c:Nat):Nat:=(oV (p0 G P c)).foldl (wV G P c) 0
abbrev CQ(G:o7)(P:Ps)(c:Nat):Nat:=(oV (p0 G P c)).foldl (O9 G P c) 0
structure sy (G:o7) (P:Ps) (c:Nat):Prop where
 pos:0<P.sd c &&& P.kd 6
 lt:P.king c<G.size
def By{f:α->Nat->α}{a:α}{l:List Nat}{j:Nat}(hj:j<l.length):(l.take (j+1)).foldl f a=f ((l.take j).foldl f a) l[j]:=by
 rw[dK hj,List.foldl_append];rfl
def c2(c:Nat):1 - c<2:=gj (eJ 1 c)
section
variable{d:Nat}{Q:V->H->Prop}{T:H}{p:Nat}{X:uu}{P:Ps}
def FR(A:At T p X P)(hc:c<2)(hk:sy X.G P c):ii (K0 (d+6)) 398 [.ref p,nv c] T (nv (wU X.G P c)) T:=
 mk (λQ=>Fv rfl) λQ q w=>bs (qE (oR A ∅ bv ⋯) (oR A ∅ bv ⋯))
  (pf (nb (bi (lc rfl (be (bi (lc rfl (lz rfl)) (qK A hc hk.pos)) (lz rfl))) (EF A hk.lt)) (oR A ∅ (oH ac ∅ (dh hc)) (c2 c))) q)
def LW(A:At T p X P)(hk:sy X.G P P.au):ii (K0 (d+7)) 405 [.ref p] T (nv (wU X.G P P.au)) T:=
 mk (λQ=>Kv rfl) λQ q w=>pf (bi (lc rfl (be (qd A ∅) f8)) (FR A A.ok.sd hk)) q
def FJ(A:At T p X P)(hc:c<2)(hk:sy X.G P c):ii (K0 (d+5)) 412 [.ref p,nv c] T (.bool (r5 X.G P c)) T:=
 mk (λQ=>Fu rfl) λQ q w=>bs (qE (oR A ∅ bv ⋯) (oR A ∅ bv ⋯))
  (pf (bi (lc rfl (be (bi (lc rfl (lz rfl)) (qK A hc hk.pos)) (be (oH ac ∅ (dh hc)) (lz rfl)))) (rJ A hk.lt (c2 c))) q)
def vS(A:At T p X P)(hk:sy X.G P P.au):ii (K0 (d+6)) 419 [.ref p] T (.bool (r5 X.G P P.au)) T:=
 mk (λQ=>Lo rfl) λQ q w=>pf (bi (lc rfl (be (qd A ∅) f8)) (FJ A A.ok.sd hk)) q
def GZ(A:At T p X P)(hc:c<2)(hk:sy X.G P c):ii (K0 (d+4)) 426 [.ref p,nv c] T (nv (p0 X.G P c)) T:=
 mk (λQ=>Hr rfl) λQ q w=>bs (bi (lc rfl (lz rfl)) (qK A hc hk.pos))
  (bs (nb (bi (be (qP A ∅) (lc rfl (be ac f8))) (rd A.geo A.len hk.lt)) (bi (lz rfl) (yE A)))
  (oI rfl (nb (bi (be (qP A ∅) (lc rfl (be ac f8))) (qu A.geo A.len hk.lt)) (bi (lz rfl) (wu A))) rW
  (pf (nb ∅ (oR A ∅ (oH ac ∅ (dh hc)) (c2 c))) q)))
def Lv{c:Nat}(A:At T p X P)(hc:c<2)(hk:sy X.G P c):
  ii (K0 (d+5)) 433 [.ref p,nv c] T (.ref (T.length+1)) (T++[.list ((oV (p0 X.G P c)).map nv)]++[.tup [nv (GX X.G P c),nv (CQ X.G P c)]]):=by
 ext d T p X P c;exact have A':=A.app [.list ((oV (p0 X.G P c)).map nv)]
  have hS:p0 X.G P c<2 ^ X.G.size:=ae dD (A.ok.sS _)
  have h64:p0 X.G P c<2 ^ 64:=ae dD (A.ok.s64 _)
  mk (λQ=>Ko rfl) λQ q w=>bs (bi (lc rfl (lz rfl)) (qK A hc hk.pos))
   (bs (bi (lc rfl (lz rfl)) (GZ A hc hk)) (bs (y4 (qE (oR A ∅ bv ⋯) (oR A ∅ bv ⋯)) ∅) (bs ac (bs ac
   (uR (l:=oV (p0 X.G P c)) (lw _) (bi (lz rfl) (pW h64)) bn
    (λj e h=>T++[.list ((oV (p0 X.G P c)).map nv)]=h/\∃x y,e=[J (.ref p),J (nv c),J (nv (P.king c)),J (nv (p0 X.G P c)),J (nv (P.all ^^^ p0 X.G P c)),J (nv (((oV (p0 X.G P c)).take j).foldl (wV X.G P c) 0)),J (nv (((oV (p0 X.G P c)).take j).foldl (O9 X.G P c) 0)),x,y,U,U,U,U,U,U,U,U])
    ⟨rfl,U,U,rfl⟩ (λj e h z=>by obtain⟨rfl,_⟩:=z;exact bn)
    (λj hj e h z=>by
     obtain⟨rfl,x,y,rfl⟩:=z;have hl:=EG hS (dk hj);refine bs (nb (bi (be (qP A' ∅) (lc rfl (lz rfl))) (GJ A'.geo A'.len hk.lt hl)) ∅) ?_;rw[By hj,By hj];by_cases h0:qM X.G P c (oV (p0 X.G P c))[j]=0
     .refine lv (x:=nv 0) (t:=false) (qZ (x:=nv (qM X.G P c (oV (p0 X.G P c))[j])) ∅ oE (λe=>cG h0 (b9 e)) λw=>⟨by rw[h0],rfl⟩) rfl (λe=>by cases e) λw=>od ⟨rfl,J (nv (oV (p0 X.G P c))[j]),J (nv (qM X.G P c (oV (p0 X.G P c))[j])),?_⟩;rw[wV,O9,cD (λz=>z.1 h0),cD (λz=>z.1 h0)];rfl
     .refine lv (qZ (x:=nv (qM X.G P c (oV (p0 X.G P c))[j])) ∅ oE (λw=>uC (bi (be (x:=nv (qM X.G P c (oV (p0 X.G P c))[j])) ∅ f8) (tT (ef h0))) bm) λe=>cG (cj e) (by simpa using h0)) bm (λe1=>?_) λe1=>?_
      .have h1:qM X.G P c (oV (p0 X.G P c))[j] &&& (qM X.G P c (oV (p0 X.G P c))[j] - 1)=0:=by simpa using e1
       refine oI rfl (x:=nv (((oV (p0 X.G P c)).take j).foldl (wV X.G P c) 0)) (y:=nv (qM X.G P c (oV (p0 X.G P c))[j])) ∅ rW (lv (nb (n:=qM X.G P c (oV (p0 X.G P c))[j]) ∅ (oR A' ∅ ∅ hc)) oE (λe2=>?_) λe2=>?_)
       .refine oI rfl (qo ac ∅ ⋯ (cO (dH hl) (cO A.geo.ok.sz ⋯))) rW (ld (ld (od ⟨rfl,J (nv (oV (p0 X.G P c))[j]),J (nv (qM X.G P c (oV (p0 X.G P c))[j])),?_⟩)));rw[wV,O9,cC ⟨h0,h1⟩,cC ⟨h0,h1,b9 e2⟩];rfl
       .refine ld (od ⟨rfl,J (nv (oV (p0 X.G P c))[j]),J (nv (qM X.G P c (oV (p0 X.G P c))[j])),?_⟩);rw[wV,O9,cC ⟨h0,h1⟩,cD (λz=>(cj e2) z.2.2)];rfl
      .have h1:¬qM X.G P c (oV (p0 X.G P c))[j] &&& (qM X.G P c (oV (p0 X.G P c))[j] - 1)=0:=by simpa using e1
       refine od ⟨rfl,J (nv (oV (p0 X.G P c))[j]),J (nv (qM X.G P c (oV (p0 X.G P c))[j])),?_⟩;rw[wV,O9,cD (λz=>h1 z.2),cD (λz=>h1 z.2.1)];rfl)
    λe h z=>by
     obtain⟨rfl,x,y,rfl⟩:=z;rw[dS];have q':Q (.ref (T++[O.list ((oV (p0 X.G P c)).map nv)]).length) (T++[.list ((oV (p0 X.G P c)).map nv)]++[.tup [nv (GX X.G P c),nv (CQ X.G P c)]]):=by rw[a6];exact q
     exact pf (sO (lc rfl (lz rfl)) (by show(2:Nat)<=1000;decide)) q')))))
def SE(A:At T p X P)(hc:c<2)(hk:sy X.G P c):ii (K0 (d+6)) 440 [.ref p,nv c] T (nv (GX X.G P c &&& P.sd c)) T:=
 mk (λQ=>Cu rfl) λQ q hc'=>by
  refine QN (v:=nv (GX X.G P c &&& P.sd c)) (t:=[.list ((oV (p0 X.G P c)).map nv)]++[.tup [nv (GX X.G P c),nv (CQ X.G P c)]]) ?_ hc' trivial q;rw[<- aa];refine nb (pd (bi (lc rfl (lz rfl)) (Lv A hc hk)) ac (t9 (xs:=[nv (GX X.G P c),nv (CQ X.G P c)]) ?_) rfl ⋯) (oR ((A.app _).app _) ∅ ∅ hc);rw[show T.length+1=(T++[O.list ((oV (p0 X.G P c)).map nv)]).length by simp];exact bn
end
abbrev VC(a b:Nat):Nat:=if a<b then(1 <<< b) - (2 <<< a) else(1 <<< a) - (2 <<< b)
abbrev uU(G:o7)(P:Ps)(i:Nat):Nat:=match G.castles.getD i U with
 | none=>1
 | some t=>if P.az &&& (1 <<< i)=0 then 2 else if P.all &&& VC (t.getD 0 0) (t.getD 2 0)≠0 then 3
  else if uD G P (t.getD 0 0) (1 - (i >>> 1)) P.all=true then 4 else if uD G P (t.getD 3 0) (1 - (i >>> 1)) P.all=true then 5 else if uD G P (t.getD 1 0) (1 - (i >>> 1)) P.all=true then 6 else 0
def Nj(h:a<b):2 <<< a<=1 <<< b:=by
 rw[hV,hV,kF,fQ,<-gP];exact eE ⋯ h
def ZT(h:t.length=4):t=[t.getD 0 0,t.getD 1 0,t.getD 2 0,t.getD 3 0]:=by
 match t,h with
 | [a,b,c,d],_=>rfl
section
variable{K:pK}{e:nw}{T h:H}{a b c:E}{i p:Nat}{X:uu}{P:Ps}{d:Nat}
def UW(A:pP h X.g X.gh X.G X.n)(B:db K a e h (.ref X.g) h)(C:db K b e h (nv i) h)(g:X.G.castles[i]? =J U)(hi:i<4):db K (.sub (.attr a 12) b) e h .none h:=
 pd (oz 12 A.inst B rfl) C (io A.castles) (A.cs0 i g) (cU hi ⋯)
def Bn(hne:x≠y)(hx:x<100)(hy:y<100):ii (K0 (d+1)) 447 [nv x,nv y] T (nv (VC x y)) T:=
 mk (λQ=>AI rfl) λQ q w=>by
  unfold VC at q;refine lv (Pa ∅ ∅) bm (λe1=>?_) λe1=>?_
  .have l:=b9 e1;rw[cC l] at q;exact pM (oH (qo ac ∅ ⋯ (by lia)) (qo ac ∅ ⋯ (by lia)) (Nj l)) q
  .have l:=cj e1;rw[cD l] at q;exact pf (oH (qo ac ∅ ⋯ (by lia)) (qo ac ∅ ⋯ (by lia)) (Nj (by lia))) q
def Bu{i:Nat}(A:At T p X P)(hi:i<4):ii (K0 (d+5)) 454 [.ref p,nv i] T (nv (uU X.G P i)) T:=by
 ext T p X P d i;exact have hl:i<X.G.castles.length:=by rw[A.geo.ok.cl];exact hi
  mk (λQ=>BB rfl) λQ q w=>by
   ext Q;have g:=a7 hl;unfold uU at q;rw[ba,g] at q;cases o:X.G.castles[i] with
   | none=>
    rw[o] at g q;exact bs (UW A.geo (qP A ∅) ∅ g hi) (lv (t:=true) (pB ∅ x0 rfl) rfl (λw=>pM bv q) λe=>by cases e)
   | some t=>
    rw[o] at g q;obtain⟨h4,pt,g1,_,g2⟩:=A.geo.cs i t g;obtain⟨hx,hne⟩:=A.geo.ok.cv t (dB g);have e4:=ZT h4;have sz:=A.geo.ok.sz;have m0:=hx (t.getD 0 0) (by rw[e4];simp);have m1:=hx (t.getD 1 0) (by rw[e4];simp);have m2:=hx (t.getD 2 0) (by rw[e4];simp);have m3:=hx (t.getD 3 0) (by rw[e4];simp);have hc:1 - (i >>> 1)<2:=c2 _;have hs:i >>> 1<=1:=by rw[Xw];lia
    rw[e4] at g2;dsimp only[Option.getD_some] at q;revert q;generalize t.getD 0 0=t0 at*;generalize t.getD 1 0=t1 at*;generalize t.getD 2 0=t2 at*;generalize t.getD 3 0=t3 at*;intro q;refine bs (pd (oz 12 A.geo.inst (qP A ∅) rfl) ∅ (io A.geo.castles) g1 (cU hi ⋯)) (lv (t:=false) (pB ∅ x0 rfl) rfl (λe=>by cases e) λw=>?_);refine lv (oM (nb (oz 20 A.inst ∅ rfl) (qo ac ∅ ⋯ (by lia))) ac) bm (λe1=>pM bv ?_) λe1=>?_
    .rw[cC (b9 e1)] at q;exact q
    rw[cD (cj e1)] at q;refine zh ∅ g2 rfl (bs (bi (lz rfl) (v8 A)) (lv (nb ∅ (bi (lc rfl (lz rfl)) (Bn hne (by lia) (by lia)))) oE (λe2=>pM bv ?_) λe2=>?_))
    .rw[cC (b9 e2)] at q;exact q
    rw[cD (cj e2)] at q;refine bs (oH ac (rD ∅ ac) hs) (lv (bi (lc rfl (lc rfl (lc rfl (lz rfl)))) (rJ A m0 hc)) bm (λe3=>pM bv ?_) λe3=>?_)
    .rw[cC e3] at q;exact q
    rw[cD (by rw[e3];decide)] at q;refine lv (bi (lc rfl (lc rfl (lc rfl (lz rfl)))) (rJ A m3 hc)) bm (λe5=>pM bv ?_) λe5=>?_
    .rw[cC e5] at q;exact q
    rw[cD (by rw[e5];decide)] at q;refine lv (bi (lc rfl (lc rfl (lc rfl (lz rfl)))) (rJ A m1 hc)) bm (λe6=>pM bv ?_) λe6=>pf bv ?_
    .rw[cC e6] at q;exact q
    .rw[cD (by rw[e6];decide)] at q;exact q
end
section
variable{T:H}{o p i:Nat}{X:uu}{P:Ps}{v v':O}{t:H}
abbrev oL(T:H)(o:Nat)(xs:List Nat):H:=T.set o (.list (xs.map nv))
def oe:(oL T o xs).length=T.length:=cP
def Ae(h:o<T.length):(oL T o xs)[o]? =J (.list (xs.map nv)):=fS h
def uK:oL (oL T o xs) o ys=oL T o ys:=gQ _
def ro(h:T[o]? =J (.list (xs.map nv))):oL T o xs=T:=by
 obtain⟨l,e⟩:=fZ.mp h;unfold oL;rw[<- e];exact List.set_getElem_self l
def At.put(A:At T p X P)(h:p+4<o):At (oL T o xs) p X P:=by
 have k:∀j,j≠o->(oL T o xs)[j]? =T[j]? :=λj e=>eL (dQ e);have l:=A.low;exact⟨A.geo.same λi hi=>k i (by lia),A.low,(k _ (by lia)).trans A.inst,(k _ (by lia)).trans A.board,(k _ (by lia)).trans A.aN,(k _ (by lia)).trans A.aO,(k _ (by lia)).trans A.ay,A.ok⟩
def qk(hc:oY n T):oY n (oL T o xs):=λa ha=>by
 rcases jv ha with h | rfl
 .exact hc a h
 .intro x hx;obtain⟨y,_,rfl⟩:=d7.mp hx;trivial
variable{K:pK}{e:nw}{n0:Nat}{G:V->H->Prop}{h3:H}
def tv(h:o<T.length):(oL T o xs++t)[o]? =J (.list (xs.map nv)):=by
 rw[ar (by rw[oe];exact h)];exact Ae h
def Dk(hl:o<T.length)(A:db K a e (oL T o xs++t) (.ref o) (oL T o xs++t))(B:db K b e (oL T o xs++t) (nv m) (oL T o xs++t))(l:xs.length<1000):db K (.append a b) e (oL T o xs++t) .none (oL T o (xs++[m])++t):=by
 have z:=vE A (tv hl) B (tv hl) (by rw[bj];exact l);rw[iV _ _ (by rw[oe];exact hl)] at z;unfold oL at z ⊢;rw[gQ] at z;rw[dO];exact z
def FF(hl:h3.length=n0)(hc:oY n0 h3)(q:G .none h3):oD K .nil e (h3++t) (qN n0 G):=⟨.inr (.inl ⟨h3,t,rfl,hJ hl.symm,hl▸hc,trivial,q⟩)⟩
def pT(h:h3.length=n):(h3++[a])[n]? =J a:=by subst h;exact bn
end
abbrev Et(og gs:Nat):List Nat:=(oV gs).map λt=>oO og t 0 0
section
variable{d:Nat}{Q:V->H->Prop}{T:H}{p o:Nat}{X:uu}{P:Ps}{xs:List Nat}
def EX{l:List Nat}{j:Nat}(hj:j<l.length):(l.take (j+1)).map f=(l.take j).map f++[f l[j]]:=by
 rw[dK hj,dO];rfl
def JV{og gs:Nat}(ho:og<64)(hg:gs<2 ^ 64)(L:T[o]? =J (.list (xs.map nv)))(hn:xs.length+(oV gs).length<1000):
  ii (K0 (d+2)) 468 [nv og,nv gs,.ref o] T .none (oL T o (xs++Et og gs)):=by
 ext d T o xs og gs;exact have bR:=f0 L
  mk (λQ=>JH rfl) λQ q hc=>uR (l:=oV gs) (lw _) (bi (lz rfl) (pW hg)) bn
   (λj e h=>oL T o (xs++((oV gs).take j).map λt=>oO og t 0 0)++[.list ((oV gs).map nv)]=h/\∃x,e=[J (nv og),J (nv gs),J (.ref o),x,U,U,U,U,U])
   ⟨by rw[eN,iH,cN,ro L],U,rfl⟩ (λj e h z=>by obtain⟨rfl,_⟩:=z;exact pT oe)
   (λj hj e h z=>by
    obtain⟨rfl,x,rfl⟩:=z;refine oJ (Dk bR ∅ (bi (lc rfl (lc rfl (be bv (be bv f8)))) (r9 ho ⋯ (λe=>cG e ⋯) ⋯)) ?_) (od ⟨?_,J (nv (oV gs)[j]),rfl⟩)
    .rw[a6,bj,dC];lia
    .rw[EX hj,<-aa];rfl)
   λe h z=>by
    obtain⟨rfl,x,rfl⟩:=z;rw[dS];exact FF oe (qk hc) q
def Kf:∀(k c s j:Nat),c<2 ^ j->(oX k c s).length<=j
 | 0,_,_,_,_=>dF _
 | k+1,c,s,j,hc=>by
  by_cases nz:c=0
  .subst nz;rw[Bs];exact dF _
  cases j with
  | zero=>exact cG hc (by simp;lia)
  | succ i=>
   have hd:c/2<2 ^ i:=by rw[gP] at hc;lia
   have:=Kf k (c/2) (s+1) i hd;unfold oX;split
   .exact jO this
   .exact Nat.le_succ_of_le this
def t5(h:b<2 ^ n):(oV b).length<=n:=Kf _ _ _ _ h
def vj(h:o<T.length):oL (T++t) o xs=oL T o xs++t:=iV _ _ h
def rZ{l:List Nat}{j:Nat}(hj:j<l.length):(l.take (j+1)).flatMap f=(l.take j).flatMap f++f l[j]:=by
 rw[dK hj,ie];simp
def qX{f:Nat->List Nat}(h:∀x,(f x).length<=m):∀(l:List Nat),(l.flatMap f).length<=l.length*m
 | []=>dF _
 | x::l=>by
  have:=qX h l;have:=h x;rw[iI,a6,ey,je];lia
abbrev wr(G:o7)(P:Ps)(k tg og:Nat):List Nat:=Et og (sP G P.au k og P.all &&& tg)
abbrev tS(G:o7)(P:Ps)(k tg:Nat):List Nat:=(oV (P.sd P.au &&& P.kd k)).flatMap (wr G P k tg)
def GA{og gs n:Nat}(h:gs<2 ^ n):(Et og gs).length<=n:=by
 unfold Et;rw[bj];exact t5 h
abbrev qW(G:o7)(P:Ps)(st:Nat):Nat:=if st=0 then P.sd (1 - P.au) else if st=1 then oh G.av P.all else oh G.av (P.sd P.au)
abbrev I1(G:o7)(P:Ps)(gv:Nat):Nat:=if gv=0\/gv &&& (gv - 1)≠0 then 0 else gv ||| O4 G (P.king P.au) (Im gv)
def u3{k tg:Nat}(A:At T p X P)(ho:p+4<o)(hk:k<7)(ht:tg<2 ^ 21)(L:T[o]? =J (.list (xs.map nv)))(hn:xs.length+(oV (P.sd P.au &&& P.kd k)).length*21<1000):
  ii (K0 (d+7)) 475 [.ref p,nv k,nv tg,.ref o] T .none (oL T o (xs++tS X.G P k tg)):=by
 ext d T p o X P xs k tg;exact have bR:=f0 L
  have hS:P.sd P.au &&& P.kd k<2 ^ X.G.size:=ae dE (A.ok.sS _)
  have f21:∀x,(wr X.G P k tg x).length<=21:=λx=>GA (ae dD ht)
  mk (λQ=>ze rfl) λQ q hc=>bs (bi (lz rfl) (v8 A)) (uR (l:=oV (P.sd P.au &&& P.kd k)) (lw _)
   (bi (be (bi (lc rfl (be (qd A ∅) (lz rfl))) (Ej A A.ok.sd hk)) f8) (pW (JA (A.ok.s64 _)))) bn
   (λj e h=>oL T o (xs++((oV (P.sd P.au &&& P.kd k)).take j).flatMap (wr X.G P k tg))++[.list ((oV (P.sd P.au &&& P.kd k)).map nv)]=h/\
    ∃x y,e=[J (.ref p),J (nv k),J (nv tg),J (.ref o),J (nv P.all),x,y,U,U,U,U,U,U])
   ⟨by rw[eN,gF,cN,ro L],U,U,rfl⟩ (λj e h z=>by obtain⟨rfl,_⟩:=z;exact pT oe)
   (λj hj e h z=>by
    obtain⟨rfl,x,y,rfl⟩:=z;have hl:=EG hS (dk hj);have A':=(A.put (xs:=xs++((oV (P.sd P.au &&& P.kd k)).take j).flatMap (wr X.G P k tg)) ho).app [.list ((oV (P.sd P.au &&& P.kd k)).map nv)];have fl:=qX f21 ((oV (P.sd P.au &&& P.kd k)).take j);have fj:=f21 (oV (P.sd P.au &&& P.kd k))[j];have bnd:(xs++((oV (P.sd P.au &&& P.kd k)).take j).flatMap (wr X.G P k tg)).length+21<1000:=by
     rw[a6];rw[dC] at fl;have:min j (oV (P.sd P.au &&& P.kd k)).length*21+21<=(oV (P.sd P.au &&& P.kd k)).length*21:=by lia
     lia
    have g64:sP X.G P.au k (oV (P.sd P.au &&& P.kd k))[j] P.all &&& tg<2 ^ 64:=ae dD (cU ht ⋯);have sz:=A.geo.ok.sz;have kc:=JV (d:=d+4) (T:=oL T o (xs++((oV (P.sd P.au &&& P.kd k)).take j).flatMap (wr X.G P k tg))++[.list ((oV (P.sd P.au &&& P.kd k)).map nv)]) (o:=o) (og:=(oV (P.sd P.au &&& P.kd k))[j]) (by lia) g64 (tv bR)
     (ae (di (t5 (n:=21) (ae dD ht)) _) bnd)
    rw[vj (by rw[oe];exact bR),uK] at kc;refine bs (bi (be (qP A' ∅) (be (qd A' ∅) (lc rfl (lc rfl (lz rfl))))) (Cg A'.geo A'.len A.ok.sd hl))
     (oJ (bi (lc rfl (be (nb ∅ ∅) (lz rfl))) kc) (od ⟨?_,J (nv (oV (P.sd P.au &&& P.kd k))[j]),_,rfl⟩))
    rw[rZ hj,<-aa];rfl)
   λe h z=>by
    obtain⟨rfl,x,y,rfl⟩:=z;rw[dS];exact FF oe (qk hc) q)
def Df{K:pK}(A:pP h X.g X.gh X.G X.n)(B:db K a e h (.ref X.g) h):db K (.attr a 3) e h (nv X.G.av) h:=oz 3 A.inst B rfl
def De{st:Nat}(A:At T p X P):ii (K0 (d+2)) 482 [.ref p,nv st] T (nv (qW X.G P st)) T:=by
 ext d T p X P st;exact mk (λQ=>Fc rfl) λQ q w=>lv (oM ∅ bv) bm (λe1=>pM (oR A ∅ (oH ac (qd A ∅) (dh A.ok.sd)) (c2 _)) (by rw[qW,cC (b9 e1)] at q;exact q))
   λe1=>lv (oM ∅ bv) bm (λe2=>pM (xh (Df A.geo (qP A ∅)) (bi (lz rfl) (v8 A))) (by rw[qW,cD (cj e1),cC (b9 e2)] at q;exact q))
   λe2=>pf (xh (Df A.geo (qP A ∅)) (oR A ∅ (qd A ∅) A.ok.sd)) (by rw[qW,cD (cj e1),cD (cj e2)] at q;exact q)
def zu(A:At T p X P)(hk:sy X.G P P.au)(hg:gv<2 ^ 64)(hl:gv≠0->Im gv<X.G.size):ii (K0 (d+4)) 573 [.ref p,nv gv] T (nv (I1 X.G P gv)) T:=
 mk (λQ=>zt rfl) λQ q w=>by
  unfold I1 at q;by_cases h0:gv=0
  .rw[cC (.inl h0)] at q;exact lv (t:=true) (EH (x:=.bool true) (t:=true) (by have z:=oM (K:=K0 (d+3)) (e:=oP 6 [.ref p,nv gv]) (h:=T) (a:=.loc 1) (b:=.int 0) (n:=gv) (m:=0) ∅ ac;rw[cy h0] at z;exact z) rfl (λe=>by cases e) λw=>⟨rfl,rfl⟩) rfl (λw=>pM ac q) λe=>by cases e
  .refine lv (sE (oM ∅ ac) (bi (lz rfl) (tT (ef h0)))) bm (λe1=>pM ac ?_) λe1=>pf (qE ∅ (bi (be (qP A ∅) (be (bi (lc rfl (be (qd A ∅) f8)) (qK A A.ok.sd hk.pos)) (be (bi (lz rfl) (IC (Hj (ef h0)) hg)) f8))) (GJ A.geo A.len hk.lt (hl h0)))) ?_
   .rw[cC (by simpa using e1)] at q;exact q
   .rw[cD (by simpa using e1)] at q;exact q
end
abbrev fwd(G:o7)(c:Nat):Int:=if c=0 then(G.files:Int) else -(G.files:Int)
abbrev pA(G:o7)(c:Nat):Nat:=if c=0 then G.rm.getD (G.ranks - 1) 0 else G.rm.getD 0 0
abbrev PB(G:o7)(b c:Nat):Nat:=if c=0 then b <<< G.files &&& G.av else b >>> G.files
abbrev Wi(G:o7)(b c wg:Nat):Nat:=if wg=0 then PB G (oh b (G.fm.getD (G.files - 1) 0)) c <<< 1 else PB G (oh b (G.fm.getD 0 0)) c >>> 1
abbrev vg(G:o7)(P:Ps)(c:Nat):Nat:=PB G (P.sd c &&& P.kd 1) c &&& oh G.av P.all
abbrev E3(st:Nat)(cap:Bool):Bool:=if st=0 then cap else if st=1 then !cap else true
abbrev tN(og t st:Nat)(cap:Bool):List Nat:=(if st≠1 then[oO og t 1 3] else[])++(if E3 st cap=true then[oO og t 1 2,oO og t 1 1,oO og t 1 0] else[])
def H7(ok:BM G):G.av<2 ^ 21:=by
 unfold o7.av;rw[hV,kF];have:=eE (n:=2) ⋯ ok.sz;have:=gb G.size;lia
def Qb(ok:BM G)(h:b<2 ^ 21):PB G b c<2 ^ 21:=by
 unfold PB;split
 .exact ae dD (H7 ok)
 .rw[dz];exact ae (my _ _) h
def rz(a b:Nat):oh a b<=a:=eJ _ _
section
variable{K:pK}{e:nw}{h h1 h2:H}{a b:E}
def G3(A:db K a e h (nv g) h1)(B:db K b e h1 (.int s) h2)(l:0<=(g:Int) - s):db K (.bin .sub a b) e h (nv ((g:Int) - s).toNat) h2:=by
 have z:=um (o:=.sub) (z:=.int ((g:Int) - s)) A B rfl;unfold nv;rw[gz l];exact z
end
section
variable{d:Nat}{Q:V->H->Prop}{T:H}{p o g n:Nat}{gh:GH}{G:o7}{X:uu}{P:Ps}{xs:List Nat}
def xd(A:pP T g gh G n):ii (K0 (d+1)) 489 [.ref g,nv c] T (.int (fwd G c)) T:=
 mk (λQ=>JQ rfl) λQ q w=>lv (oM ∅ bv) bm (λe1=>pM (oz 0 A.inst ∅ rfl) (by rw[fwd,cC (b9 e1)] at q;exact q))
  λe1=>pf (Ah (k:=(G.files:Int)) (oz 0 A.inst ∅ rfl)) (by rw[fwd,cD (cj e1)] at q;exact q)
def w6(A:pP T g gh G n):ii (K0 (d+1)) 503 [.ref g,nv c] T (nv (pA G c)) T:=
 have r3:=A.ok.r3
 have r8:=A.ok.r8
 have rl:=A.ok.rl
 mk (λQ=>Jt rfl) λQ q w=>lv (oM ∅ bv) bm (λe1=>pM (tO A.rm (oz 7 A.inst ∅ rfl) (oH (oz 1 A.inst ∅ rfl) ac (cO ⋯ r3)) (by rw[rl];exact gI (cM ⋯ r3) ⋯) (by rw[rl];exact ae r8 ⋯)) (by rw[pA,cC (b9 e1)] at q;exact q))
  λe1=>pf (tO A.rm (oz 7 A.inst ∅ rfl) ac (by rw[rl];exact cM ⋯ r3) (by rw[rl];exact ae r8 ⋯)) (by rw[pA,cD (cj e1)] at q;exact q)
def vY(A:pP T g gh G n)(hb:b<2 ^ 21):ii (K0 (d+1)) 510 [.ref g,nv b,nv c] T (nv (PB G b c)) T:=
 have f7:=A.ok.f7
 mk (λQ=>Hm rfl) λQ q w=>lv (oM ∅ bv) bm (λe1=>pM (nb (qo ∅ (oz 0 A.inst ∅ rfl) (cU hb ⋯) (cO f7 ⋯)) (oz 3 A.inst ∅ rfl)) (by rw[PB,cC (b9 e1)] at q;exact q))
  λe1=>pf (rD ∅ (oz 0 A.inst ∅ rfl)) (by rw[PB,cD (cj e1)] at q;exact q)
def Co(A:pP T g gh G n)(hb:b<2 ^ 21):ii (K0 (d+2)) 517 [.ref g,nv b,nv c,nv wg] T (nv (Wi G b c wg)) T:=
 have f3:=A.ok.f3
 have f7:=A.ok.f7
 have fl:=A.ok.fl
 mk (λQ=>Cy rfl) λQ q w=>lv (oM ∅ ac) bm (λe1=>pM (qo (bi (lc rfl (be (xh ∅ (tO A.fm (oz 6 A.inst ∅ rfl) (oH (oz 0 A.inst ∅ rfl) ac (cO ⋯ f3)) (by rw[fl];exact gI (cM ⋯ f3) ⋯) (by rw[fl];exact ae f7 ⋯))) (lz rfl))) (vY A (ae (rz _ _) hb))) ac (cU (Qb A.ok (ae (rz _ _) hb)) ⋯) ⋯) (by rw[Wi,cC (b9 e1)] at q;exact q))
  λe1=>pf (rD (bi (lc rfl (be (xh ∅ (tO A.fm (oz 6 A.inst ∅ rfl) ac (by rw[fl];exact cM ⋯ f3) (by rw[fl];exact ae f7 ⋯))) (lz rfl))) (vY A (ae (rz _ _) hb))) ac) (by rw[Wi,cD (cj e1)] at q;exact q)
def xa(A:At T p X P)(hc:c<2):ii (K0 (d+2)) 524 [.ref p,nv c] T (.ref T.length) (T++[.tup [nv (vg X.G P c),nv 0]]):=by
 ext d T p X P c;exact have hb:P.sd c &&& P.kd 1<2 ^ 21:=ae dE (cM (A.ok.sS _) (eE ⋯ A.geo.ok.sz))
  mk (λQ=>DH rfl) λQ q w=>bs (qP A ∅) (bs (xh (Df A.geo ∅) (bi (lz rfl) (v8 A))) (bs (bi (lc rfl (lc rfl (be bv f8))) (Ej A hc ⋯))
   (bs (nb (bi (lc rfl (lc rfl (lz rfl))) (vY A.geo hb)) ∅) (bs ac (lv (t:=false) (oz 4 A.geo.inst ∅ rfl) rfl (λe=>by cases e) λw=>
    pf (sO (lc rfl (lz rfl)) (by show(2:Nat)<=1000;decide)) q)))))
end
section
variable{K:pK}{e:nw}{h h1 h2:H}{a b c c1 c2:E}{i o m:Nat}{x:V}{t t1 t2 x1 x2 x3:Bool}{Q:QS}{r:Ss}{xs:List Nat}
def X6(L:h[o]? =J (.list (xs.map nv)))(A:db K a e h (.ref o) h)(B:db K b e h (nv m) h)(l:xs.length<1000):db K (.append a b) e h .none (oL h o (xs++[m])):=by
 have z:=vE A L B L (by rw[bj];exact l);unfold oL;rw[dO];exact z
def Vh(L:h[o]? =J (.list (xs.map nv)))(C:db K c e h x h)(k:tr x=J t)(A:db K a e h (.ref o) h)(B:db K b e h (nv m) h)(l:xs.length<1000)(R:oD K r e (oL h o (xs++if t=true then[m] else[])) Q):oD K (.cons (.ite c (.cons (.expr (.append a b)) .nil) .nil) r) e h Q:=
 lv C k (λe1=>oJ (X6 L A B l) (ld (by rw[cC e1] at R;exact R))) λe1=>by
  rw[cD (by rw[e1];decide),cN,ro L] at R;exact R
def XR(C1:db K c1 e h (.bool t1) h)(C2:db K c2 e h (.bool t2) h)(A:db K a e h (.bool x1) h)(B:db K b e h (.bool x2) h)(C:db K c e h (.bool x3) h)(R:oD K r (e.set i (J (.bool (if t1=true then x1 else if t2=true then x2 else x3)))) h Q):
  oD K (.cons (.ite c1 (.cons (.assign (.loc i) a) .nil) (.cons (.ite c2 (.cons (.assign (.loc i) b) .nil) (.cons (.assign (.loc i) c) .nil)) .nil)) r) e h Q:=
 uw C1 bm (λe1=>bs A (ld (by rw[cC e1] at R;exact R))) λe1=>uw C2 bm (λe2=>bs B (ld (ld (by rw[cD (by rw[e1];decide),cC e2] at R;exact R))))
  λe2=>bs C (ld (ld (by rw[cD (by rw[e1];decide),cD (by rw[e2];decide)] at R;exact R)))
end
section
variable{d:Nat}{Q:V->H->Prop}{T:H}{p o g n:Nat}{gh:GH}{G:o7}{X:uu}{P:Ps}{xs:List Nat}
def Sk(og t st:Nat)(cap:Bool):tN og t st cap=(if decide (st≠1)=true then[oO og t 1 (if 1=1 then 5 - 2 else 0)] else[])++(if(if decide (st=0)=true then cap else if decide (st=1)=true then !cap else true)=true then[4,3,2].map λx=>oO og t 1 (x - 2) else[]):=by
 unfold tN E3;simp only[cu];rfl
def vC{og to st:Nat}{cap:Bool}(hog:og<64)(L:T[o]? =J (.list (xs.map nv)))(hn:xs.length+4<1000):
  ii (K0 (d+2)) 531 [nv og,nv to,nv st,.bool cap,.ref o] T .none (oL T o (xs++tN og to st cap)):=by
 ext d T o xs og to st cap;exact have bR:=f0 L
  mk (λQ=>Br rfl) λQ q hc=>by
   rw[Sk,<-aa] at q;refine Vh (m:=oO og to 1 (if 1=1 then 5 - 2 else 0)) L (tI ∅ bv) bm ∅ (bi (lc rfl (lc rfl (be bv (be bv f8)))) (r9 hog ⋯ (λw=>by decide) ⋯)) (by lia)
    (XR (oM ∅ bv) (oM ∅ bv) ∅ (uC (x:=.bool cap) ∅ bm) o4 ?_)
   have hb:(xs++if decide (st≠1)=true then[oO og to 1 (if 1=1 then 5 - 2 else 0)] else[]).length+3<1000:=by
    rw[a6];split<;>simp<;>lia
   revert q hb;generalize (xs++if decide (st≠1)=true then[oO og to 1 (if 1=1 then 5 - 2 else 0)] else[])=ys;intro q hb;refine lv ∅ bm (λe1=>?_) λe1=>?_
   .have e1':=e1;rw[cC e1] at q;refine uR (l:=[4,3,2]) (lw _) (qe (be bv (be bv (be bv f8))) ⋯) bn
     (λj e h=>oL T o (ys++([4,3,2].take j).map λx=>oO og to 1 (x - 2))++[.list ([4,3,2].map nv)]=h/\∃v x,e=[J (nv og),J (nv to),J (nv st),J (.bool cap),J (.ref o),v,x,U,U,U,U,U,U,U,U,U])
     ⟨by rw[eN,iH,cN];rfl,_,U,rfl⟩ (λj e h z=>by obtain⟨rfl,_⟩:=z;exact pT (by rw[oe,oe])) (λj hj e h z=>?_) λe h z=>?_
    .obtain⟨rfl,v,x,rfl⟩:=z;have hj':j<3:=hj;have hr:2<=[4,3,2][j]/\[4,3,2][j]<8:=by
      have:∀x∈[4,3,2],2<=x/\x<8:=by decide
      exact this _ (dk hj)
     refine oJ (Dk bR ∅ (bi (lc rfl (lc rfl (be bv (lz rfl)))) (r9 hog ⋯ (λw=>hr.1) hr.2)) ?_) (od ⟨?_,v,J (nv [4,3,2][j]),rfl⟩)
     .rw[a6,bj,dC];lia
     .rw[EX hj,<-aa];rfl
    .obtain⟨rfl,v,x,rfl⟩:=z;exact ld (FF oe (qk hc) q)
   .rw[cD (by rw[e1];decide),cN] at q;have z:=FF (K:=K0 (d+1)) (t:=[]) (G:=Q) (e:=(oP 15 [nv og,nv to,nv st,.bool cap,.ref o]).set 5 (J (.bool (if decide (st=0)=true then cap else if decide (st=1)=true then !cap else true)))) (oe (T:=T) (o:=o) (xs:=ys)) (qk hc) q;rw[cN] at z;exact z
end
def Ny(ok:BM G)(hg:g∈oV (vg G P c &&& y))(hl:g<21):0<=(g:Int) - fwd G c/\((g:Int) - fwd G c).toNat<64:=by
 ext G P c y g;have f7:=ok.f7;unfold fwd;split
 .rename_i h0;have b:=uT hg;rw[cR,ax] at b;have b1:=b.1;unfold vg PB at b1;rw[cC h0,cR,ax,cR,ax,eI,ax,cu] at b1;have:G.files<=g:=b1.1.1.1;lia
 .lia
abbrev pL(G:o7)(P:Ps)(tg:Nat):Nat:=vg G P P.au &&& tg
abbrev yf(G:o7)(P:Ps)(tg:Nat):List Nat:=(oV (oh (pL G P tg) (pA G P.au))).map λ(g:Nat)=>oO ((g:Int) - fwd G P.au).toNat g 0 0
abbrev AX(G:o7)(P:Ps)(st g:Nat):List Nat:=tN ((g:Int) - fwd G P.au).toNat g st false
abbrev wQ(G:o7)(P:Ps)(st tg:Nat):List Nat:=(oV (pL G P tg &&& pA G P.au)).flatMap (AX G P st)
def L9(a b:Nat):oh a b=a &&& oh a b:=by
 unfold oh;have e:a - (a &&& b)=a ^^^ (a &&& b):=by
  have x:=Ib a (a &&& b);have:a &&& (a &&& b)=a &&& b:=by rw[<- iR,j3]
  rw[this] at x;have:=Kn a b;lia
 rw[e,Nat.and_xor_distrib_left,j3,<-iR,j3]
def AR(og t st:Nat)(cap:Bool):(tN og t st cap).length<=4:=by
 unfold tN;rw[a6];split<;>split<;>simp
section
variable{d:Nat}{Q:V->H->Prop}{T:H}{p o:Nat}{X:uu}{P:Ps}{xs:List Nat}
def xH(A:At T p X P):vg X.G P c<2 ^ 21:=
 ae dE (Qb A.geo.ok (ae dE (cM (A.ok.sS _) (eE ⋯ A.geo.ok.sz))))
def yu(A:At T p X P)(ho:p+4<o)(L:T[o]? =J (.list (xs.map nv)))(hn:xs.length+21<1000):
  ii (K0 (d+3)) 538 [.ref p,nv tg,.ref o] T .none (oL T o (xs++yf X.G P tg)):=by
 ext d T p o X P xs tg;exact have bR:=f0 L
  have A1:=A.app [.tup [nv (vg X.G P P.au),nv 0]]
  have o21:oh (pL X.G P tg) (pA X.G P.au)<2 ^ 21:=ae (rz _ _) (ae dE (xH A))
  mk (λQ=>y7 rfl) λQ q hc=>bs (qP A ∅) (bs (bi (lc rfl (be (qd A ∅) f8)) (xd A.geo)) (zh (vs:=[nv (vg X.G P P.au),nv 0]) (bi (lc rfl (be (qd A ∅) f8)) (xa A A.ok.sd)) bn rfl
   (uR (l:=oV (oh (pL X.G P tg) (pA X.G P.au))) (lw _) (bi (be (xh (nb ∅ ∅) (bi (lc rfl (be (qd A1 ∅) f8)) (w6 A1.geo))) f8) (pW (cU o21 ⋯))) bn
    (λj e h=>oL T o (xs++((oV (oh (pL X.G P tg) (pA X.G P.au))).take j).map λ(g:Nat)=>oO ((g:Int) - fwd X.G P.au).toNat g 0 0)++[.tup [nv (vg X.G P P.au),nv 0]]++[.list ((oV (oh (pL X.G P tg) (pA X.G P.au))).map nv)]=h/\
     ∃x,e=[J (.ref p),J (nv tg),J (.ref o),J (.ref X.g),J (.int (fwd X.G P.au)),J (nv (vg X.G P P.au)),J (nv 0),x,U,U,U,U,U,U,U,U])
    ⟨by rw[eN,iH,cN,ro L];rfl,U,rfl⟩ (λj e h z=>by obtain⟨rfl,_⟩:=z;exact pT (by rw[a6,a6,oe]))
    (λj hj e h z=>by
     obtain⟨rfl,x,rfl⟩:=z;have hm:=dk hj;have h21:=EG o21 hm;have og:0<=((oV (oh (pL X.G P tg) (pA X.G P.au)))[j]:Int) - fwd X.G P.au/\(((oV (oh (pL X.G P tg) (pA X.G P.au)))[j]:Int) - fwd X.G P.au).toNat<64:=
      Ny (P:=P) (y:=tg &&& oh (pL X.G P tg) (pA X.G P.au)) A.geo.ok (by rw[<- iR];show _∈oV (pL X.G P tg &&& _);rw[<- L9];exact hm) h21
     have ln:=t5 o21;rw[aa];refine oJ (Dk bR ∅ (bi (be (G3 ∅ ∅ og.1) (lc rfl (be bv (be bv f8)))) (r9 og.2 ⋯ (λe=>cG e ⋯) ⋯)) ?_) (od ⟨?_,J (nv (oV (oh (pL X.G P tg) (pA X.G P.au)))[j]),rfl⟩)
     .rw[a6,bj,dC];lia
     .rw[EX hj,<-aa xs,aa (oL _ _ _)];rfl)
    λe h z=>by
     obtain⟨rfl,x,rfl⟩:=z;rw[dS];have e0:(0 &&& tg:Nat)=0:=Nat.zero_and _;refine uR (l:=oV (0 &&& tg)) (lw _) (bi (be (nb ∅ ∅) f8) (pW (by rw[e0];decide))) bn
      (λj e h=>j=0/\oL T o (xs++yf X.G P tg)++([.tup [nv (vg X.G P P.au),nv 0]]++([.list ((oV (oh (pL X.G P tg) (pA X.G P.au))).map nv)]++[.list ((oV (0 &&& tg)).map nv)]))=h)
      ⟨rfl,by rw[<- aa,<-aa];rfl⟩ (λj e h z=>?_) (λj hj e h z=>?_) λe h z=>?_
     .obtain⟨_,rfl⟩:=z;rw[<- aa,<-aa];exact bn
     .rw[e0] at hj;exact cG hj (fy _)
     .obtain⟨_,rfl⟩:=z;exact FF oe (qk hc) q)))
def wP{st tg:Nat}(A:At T p X P)(ho:p+4<o)(L:T[o]? =J (.list (xs.map nv)))(hn:xs.length+84<1000):
  ii (K0 (d+3)) 545 [.ref p,nv st,nv tg,.ref o] T .none (oL T o (xs++wQ X.G P st tg)):=by
 ext d T p o X P xs st tg;exact have bR:=f0 L
  have A1:=A.app [.tup [nv (vg X.G P P.au),nv 0]]
  have o21:pL X.G P tg &&& pA X.G P.au<2 ^ 21:=ae dE (ae dE (xH A))
  mk (λQ=>wM rfl) λQ q hc=>bs (qP A ∅) (bs (bi (lc rfl (be (qd A ∅) f8)) (xd A.geo)) (bs (pd (bi (lc rfl (be (qd A ∅) f8)) (xa A A.ok.sd)) ac (t9 bn) rfl ⋯)
   (uR (l:=oV (pL X.G P tg &&& pA X.G P.au)) (lw _) (bi (be (nb (nb ∅ ∅) (bi (lc rfl (be (qd A1 ∅) f8)) (w6 A1.geo))) f8) (pW (cU o21 ⋯))) bn
    (λj e h=>oL T o (xs++((oV (pL X.G P tg &&& pA X.G P.au)).take j).flatMap (AX X.G P st))++([.tup [nv (vg X.G P P.au),nv 0]]++[.list ((oV (pL X.G P tg &&& pA X.G P.au)).map nv)])=h/\
     ∃x,e=[J (.ref p),J (nv st),J (nv tg),J (.ref o),J (.ref X.g),J (.int (fwd X.G P.au)),J (nv (vg X.G P P.au)),x,U,U,U,U,U,U])
    ⟨by rw[eN,gF,cN,ro L,<-aa];rfl,U,rfl⟩ (λj e h z=>by obtain⟨rfl,_⟩:=z;rw[<- aa];exact pT (by rw[a6,a6,oe]))
    (λj hj e h z=>by
     obtain⟨rfl,x,rfl⟩:=z;have hm:=dk hj;have h21:=EG o21 hm;have og:0<=((oV (pL X.G P tg &&& pA X.G P.au))[j]:Int) - fwd X.G P.au/\(((oV (pL X.G P tg &&& pA X.G P.au))[j]:Int) - fwd X.G P.au).toNat<64:=
      Ny (P:=P) (y:=tg &&& pA X.G P.au) A.geo.ok (by rw[<- iR];exact hm) h21
     have ln:=t5 o21;have fl:=qX (λx=>AR ((x:Int) - fwd X.G P.au).toNat x st false) ((oV (pL X.G P tg &&& pA X.G P.au)).take j);have kc:=vC (d:=d) (T:=oL T o (xs++((oV (pL X.G P tg &&& pA X.G P.au)).take j).flatMap (AX X.G P st))++([.tup [nv (vg X.G P P.au),nv 0]]++[.list ((oV (pL X.G P tg &&& pA X.G P.au)).map nv)])) (o:=o) (to:=(oV (pL X.G P tg &&& pA X.G P.au))[j]) (st:=st) (cap:=false) og.2 (tv bR) (by
      rw[a6];rw[dC] at fl;have:(((oV (pL X.G P tg &&& pA X.G P.au)).take j).flatMap (AX X.G P st)).length<=min j (oV (pL X.G P tg &&& pA X.G P.au)).length*4:=fl;lia)
     rw[vj (by rw[oe];exact bR),uK] at kc;refine oJ (bi (be (G3 ∅ ∅ og.1) (lc rfl (lc rfl (be o4 (lz rfl))))) kc) (od ⟨?_,J (nv (oV (pL X.G P tg &&& pA X.G P.au))[j]),rfl⟩);rw[rZ hj,<-aa xs];rfl)
    λe h z=>by
     obtain⟨rfl,x,rfl⟩:=z;rw[dS];exact FF oe (qk hc) q)))
def AQ(A:At T p X P):ii (K0 (d+1)) 566 [.ref p,.ref o] T .none T:=
 mk (λQ=>AJ rfl) λQ q hc=>lv (t:=true) (pB (oz 21 A.inst ∅ rfl) qF rfl) rfl (λw=>pM x0 q) λe=>by cases e
abbrev wB(G:o7)(c wg:Nat):Int:=fwd G c+1 - ((2*wg:Nat):Int)
abbrev tG(G:o7)(P:Ps)(tg wg:Nat):Nat:=Wi G (P.sd P.au &&& P.kd 1) P.au wg &&& (tg &&& P.sd (1 - P.au))
abbrev EJ(G:o7)(P:Ps)(st wg g:Nat):List Nat:=if pA G P.au &&& 1 <<< g≠0 then tN ((g:Int) - wB G P.au wg).toNat g st true else[oO ((g:Int) - wB G P.au wg).toNat g 0 0]
abbrev HB(G:o7)(P:Ps)(st tg wg:Nat):List Nat:=(oV (tG G P tg wg)).flatMap (EJ G P st wg)
abbrev Lx(G:o7)(P:Ps)(st tg:Nat):List Nat:=[0,1].flatMap (HB G P st tg)
def XQ{P:Ps}{tg wg g:Nat}(ok:BM G)(hw:wg<2)(hg:g∈oV (tG G P tg wg))(hl:g<21):0<=(g:Int) - wB G P.au wg/\((g:Int) - wB G P.au wg).toNat<64:=by
 ext G P tg wg g;have f7:=ok.f7;have f3:=ok.f3;unfold wB fwd;split
 .rename_i h0;have b:=uT hg;unfold tG at b;rw[cR,ax] at b;have b1:=b.1;unfold Wi PB at b1;by_cases w0:wg=0
  .rw[cC w0,cC h0,eI,ax,cu,cR,ax,eI,ax,cu] at b1;have h1:=b1.1;have h2:=b1.2.1.1;lia
  .rw[cD w0,cC h0,fv,cR,ax,eI,ax,cu] at b1;have h2:=b1.1.1;lia
 .lia
def Ep(G:o7)(P:Ps)(st wg g:Nat):(EJ G P st wg g).length<=4:=by
 unfold EJ;split
 .exact AR _ _ _ _
 .exact(by decide:1<=4)
def xW{st tg:Nat}(A:At T p X P)(ho:p+4<o)(L:T[o]? =J (.list (xs.map nv)))(hn:xs.length+168<1000)(ht:tg<2 ^ 21):
  ii (K0 (d+3)) 552 [.ref p,nv st,nv tg,.ref o] T .none (oL T o (xs++Lx X.G P st tg)):=by
 ext d T p o X P xs st tg;exact have bR:=f0 L
  have hb:P.sd P.au &&& P.kd 1<2 ^ 21:=ae dE (cM (A.ok.sS _) (eE ⋯ A.geo.ok.sz))
  have o21:∀wg,tG X.G P tg wg<2 ^ 21:=λwg=>ae dD (ae dE ht)
  have cw:∀wg,(HB X.G P st tg wg).length<=84:=λwg=>cO (qX (Ep X.G P st wg) _) (dA 4 (t5 (o21 wg)))
  mk (λQ=>xR rfl) λQ q hc=>bs (qP A ∅) (bs (qd A ∅) (bs (bi (lc rfl (lz rfl)) (w6 A.geo)) (bs (bi (lc rfl (lc rfl (be bv f8))) (Ej A A.ok.sd ⋯))
   (bs (nb ∅ (oR A ∅ (oH ac ∅ (dh A.ok.sd)) (c2 _)))
   (uR (l:=[0,1]) (lw _) (qe (be ac (be ac f8)) ⋯) bn
    (λj e h=>∃tl,oL T o (xs++([0,1].take j).flatMap (HB X.G P st tg))++([.list ([0,1].map nv)]++tl)=h/\
     ∃x y z,e=[J (.ref p),J (nv st),J (nv tg),J (.ref o),J (.ref X.g),J (nv P.au),J (nv (pA X.G P.au)),J (nv (P.sd P.au &&& P.kd 1)),J (nv (tg &&& P.sd (1 - P.au))),x,y,z,U,U,U,U,U,U,U,U,U,U,U])
    ⟨[],by rw[eN,gF,cN,ro L,cN];rfl,U,U,U,rfl⟩
    (λj e h z=>by obtain⟨tl,rfl,_⟩:=z;rw[<- aa];exact ar (by rw[a6,oe];exact dM _) |>.trans (pT oe))
    (λj hj e h z=>by
     obtain⟨tl,rfl,x,y,z,rfl⟩:=z;have hw:[0,1][j]<2:=(by decide:∀x∈[0,1],x<2) _ (dk hj);have fl:=qX cw ([0,1].take j);have hj2:j<2:=hj;rw[dC] at fl;have hb2:(xs++([0,1].take j).flatMap (HB X.G P st tg)).length+84<1000:=by
      rw[a6];have:min j [0,1].length<=1:=by show min j 2<=1;lia
      lia
     obtain⟨wg,hwg⟩:=(⟨_,rfl⟩:∃wg,wg=[0,1][j])
     obtain⟨ys,hys⟩:=(⟨_,rfl⟩:∃ys,ys=xs++([0,1].take j).flatMap (HB X.G P st tg))
     rw[<- hwg] at hw ⊢;rw[<- hys] at hb2 ⊢;have A0:=(A.put (xs:=ys) ho).app ([.list ([0,1].map nv)]++tl);refine bs (v:=.int (wB X.G P.au wg)) (um (um (bi (lc rfl (lz rfl)) (xd A0.geo)) qF rfl) (r7 ac ∅ ⋯ (cU hw ⋯)) rfl)
      (uR (l:=oV (tG X.G P tg wg)) (lw _) (bi (be (nb (bi (lc rfl (lc rfl (lc rfl (lz rfl)))) (Co A0.geo hb)) ∅) f8) (pW (cU (o21 wg) ⋯))) bn
      (λi e h=>oL T o (ys++((oV (tG X.G P tg wg)).take i).flatMap (EJ X.G P st wg))++(([.list ([0,1].map nv)]++tl)++[.list ((oV (tG X.G P tg wg)).map nv)])=h/\
       ∃z,e=[J (.ref p),J (nv st),J (nv tg),J (.ref o),J (.ref X.g),J (nv P.au),J (nv (pA X.G P.au)),J (nv (P.sd P.au &&& P.kd 1)),J (nv (tg &&& P.sd (1 - P.au))),J (nv wg),J (.int (wB X.G P.au wg)),z,U,U,U,U,U,U,U,U,U,U,U])
      ⟨by rw[eN,gF,cN,<-aa];rfl,z,rfl⟩
      (λi e h z=>by obtain⟨rfl,_⟩:=z;rw[<- aa (oL _ _ _)];exact pT (by simp only[a6,oe]))
      (λi hi e h z=>?_) λe h z=>?_)
     .obtain⟨rfl,z,rfl⟩:=z;have hm:=dk hi;have h21:=EG (o21 wg) hm;have og:=XQ (P:=P) A.geo.ok hw hm h21;have ln:=t5 (o21 wg);have fl3:=qX (Ep X.G P st wg) ((oV (tG X.G P tg wg)).take i);rw[dC] at fl3;have hb3:(ys++((oV (tG X.G P tg wg)).take i).flatMap (EJ X.G P st wg)).length+4<1000:=by rw[a6];lia
      refine uw (nb ∅ (qo ac ∅ ⋯ (cO (dH h21) ⋯))) oE (λe1=>?_) λe1=>?_
      .have kc:=vC (d:=d) (T:=oL T o (ys++((oV (tG X.G P tg wg)).take i).flatMap (EJ X.G P st wg))++(([.list ([0,1].map nv)]++tl)++[.list ((oV (tG X.G P tg wg)).map nv)])) (o:=o) (to:=(oV (tG X.G P tg wg))[i]) (st:=st) (cap:=true) og.2 (tv bR) hb3;rw[vj (by rw[oe];exact bR),uK] at kc;refine oJ (bi (be (G3 ∅ ∅ og.1) (lc rfl (lc rfl (be o4 (lz rfl))))) kc) (ld (od ⟨?_,J (nv (oV (tG X.G P tg wg))[i]),rfl⟩));rw[rZ hi,<-aa ys];have:EJ X.G P st wg (oV (tG X.G P tg wg))[i]=tN (((oV (tG X.G P tg wg))[i]:Int) - wB X.G P.au wg).toNat (oV (tG X.G P tg wg))[i] st true:=cC (b9 e1);rw[this]
      .refine oJ (Dk bR ∅ (bi (be (G3 ∅ ∅ og.1) (lc rfl (be bv (be bv f8)))) (r9 og.2 ⋯ (λe=>cG e ⋯) ⋯)) (by lia)) (ld (od ⟨?_,J (nv (oV (tG X.G P tg wg))[i]),rfl⟩));rw[rZ hi,<-aa ys];have:EJ X.G P st wg (oV (tG X.G P tg wg))[i]=[oO (((oV (tG X.G P tg wg))[i]:Int) - wB X.G P.au wg).toNat (oV (tG X.G P tg wg))[i] 0 0]:=cD (cj e1);rw[this];rfl
     .obtain⟨rfl,z,rfl⟩:=z;rw[dS];refine od ⟨tl++[.list ((oV (tG X.G P tg wg)).map nv)],?_,J (nv wg),J (.int (wB X.G P.au wg)),z,rfl⟩;rw[rZ hj,<-aa xs,<-hys,<-hwg,aa [_]];rfl)
    λe h z=>by
     obtain⟨tl,rfl,x,y,z,rfl⟩:=z;exact FF oe (qk hc) q)))))
abbrev rX(G:o7)(P:Ps)(st tg:Nat):List Nat:=(if st≠0 then yf G P tg else[])++wQ G P st tg++(if st≠1 then Lx G P st tg else[])
def D2{K:pK}{e:nw}{h:H}{c:E}{i f:Nat}{es:Es}{vs:List V}{x:V}{t:Bool}{r:Ss}{Q:QS}(L:h[o]? =J (.list (xs.map nv)))(C:db K c e h x h)(k:tr x=J t)(A:Gb K es e h vs h)(D:t=true->ii K f vs h .none (oL h o (xs++ys)))
  (R:oD K r e (oL h o (xs++if t=true then ys else[])) Q):oD K (.cons (.ite c (.cons (.expr (.call i f es)) .nil) .nil) r) e h Q:=
 lv C k (λe1=>oJ (bi A (D e1)) (ld (by rw[cC e1] at R;exact R))) λe1=>by
  rw[cD (by rw[e1];decide),cN,ro L] at R;exact R
def IK(G:o7)(P:Ps)(tg:Nat)(h:vg G P P.au<2 ^ 21):(yf G P tg).length<=21:=by
 unfold yf;rw[bj];exact t5 (ae (rz _ _) (ae dE h))
def GE(G:o7)(P:Ps)(st tg:Nat)(h:vg G P P.au<2 ^ 21):(wQ G P st tg).length<=84:=
 cO (qX (m:=4) (λx=>AR _ _ _ _) _) (dA 4 (t5 (n:=21) (ae dE (ae dE h))))
def vw{st tg:Nat}(A:At T p X P)(ho:p+4<o)(L:T[o]? =J (.list (xs.map nv)))(hn:xs.length+273<1000)(ht:tg<2 ^ 21):
  ii (K0 (d+4)) 559 [.ref p,nv st,nv tg,.ref o] T .none (oL T o (xs++rX X.G P st tg)):=by
 ext d T p o X P xs st tg;exact have bR:=f0 L
  mk (λQ=>Bf rfl) λQ q hc=>by
   have q2:Q .none (oL T o ((xs++(if decide (st≠0)=true then yf X.G P tg else[]))++wQ X.G P st tg++(if decide (st≠1)=true then Lx X.G P st tg else[]))):=by
    unfold rX at q;simp only[cu];have e:∀a b c:List Nat,(xs++a)++b++c=xs++(a++b++c):=λa b c=>by rw[aa,aa,aa]
    rw[e];exact q
   refine D2 L (tI ∅ bv) bm (lc rfl (lc rfl (lz rfl))) (λw=>yu A ho L (by lia)) ?_;have l1:(xs++if decide (st≠0)=true then yf X.G P tg else[]).length<=xs.length+21:=by
    rw[a6];have:=IK X.G P tg (xH A);split
    .lia
    .simp
   revert q2 l1;generalize xs++(if decide (st≠0)=true then yf X.G P tg else[])=ys;intro q2 l1;have k2:=wP (d:=d) (T:=oL T o ys) (o:=o) (st:=st) (tg:=tg) (A.put ho) ho (Ae bR) (by lia);rw[uK] at k2;refine oJ (bi (lc rfl (lc rfl (lc rfl (lz rfl)))) k2) ?_;have l2:(ys++wQ X.G P st tg).length<=xs.length+105:=by
    rw[a6];have:=GE X.G P st tg (xH A);lia
   revert q2 l2;generalize ys++wQ X.G P st tg=zs;intro q2 l2;refine D2 (Ae bR) (tI ∅ bv) bm (lc rfl (lc rfl (lc rfl (lz rfl)))) (λw=>xW (A.put ho) ho (Ae bR) (by lia) ht) ?_;rw[uK];have z:=FF (K:=K0 (d+3)) (t:=[]) (G:=Q) (e:=oP 9 [.ref p,nv st,nv tg,.ref o]) oe (qk hc) q2;rw[cN] at z;exact z
abbrev yg(G:o7)(P:Ps)(i:Nat):List Nat:=if uU G P i=0 then[oO ((G.castles.getD i U).getD []).head! (((G.castles.getD i U).getD []).getD 1 0) 3 0] else[]
abbrev GL(G:o7)(P:Ps):List Nat:=[2*P.au,2*P.au+1].flatMap (yg G P)
def O1(G:o7)(P:Ps)(i:Nat):(yg G P i).length<=1:=by
 unfold yg;split<;>simp
def Dz(A:At T p X P)(ho:p+4<o)(L:T[o]? =J (.list (xs.map nv)))(hn:xs.length+2<1000):
  ii (K0 (d+6)) 461 [.ref p,.ref o] T .none (oL T o (xs++GL X.G P)):=by
 ext d T p o X P xs;exact have bR:=f0 L
  have aX:=A.ok.sd
  mk (λQ=>D1 rfl) λQ q hc=>uR (l:=[2*P.au,2*P.au+1]) (lw _) (qe (be (r7 ac (qd A ∅) ⋯ (cU aX ⋯)) (be (qG (r7 ac (qd A ∅) ⋯ (cU aX ⋯)) ac) f8)) (by show(2:Nat)<=1000;decide)) bn
   (λj e h=>oL T o (xs++([2*P.au,2*P.au+1].take j).flatMap (yg X.G P))++[.list ([2*P.au,2*P.au+1].map nv)]=h/\∃x a b c y,e=[J (.ref p),J (.ref o),x,a,b,c,y,U,U,U,U,U,U])
   ⟨by rw[eN,gF,cN,ro L];rfl,U,U,U,U,U,rfl⟩ (λj e h z=>by obtain⟨rfl,_⟩:=z;exact pT oe)
   (λj hj e h z=>by
    obtain⟨rfl,x,a,b,c,y,rfl⟩:=z;have A':=(A.put (xs:=xs++([2*P.au,2*P.au+1].take j).flatMap (yg X.G P)) ho).app [.list ([2*P.au,2*P.au+1].map nv)];have hi:[2*P.au,2*P.au+1][j]<4:=by
     have m:=dk hj;have:∀x∈[2*P.au,2*P.au+1],x<4:=by
      intro x hx;simp only[dP,fU,or_false] at hx;lia
     exact this _ m
    have fl:=qX (O1 X.G P) ([2*P.au,2*P.au+1].take j);have hj2:j<2:=hj;have hb:(xs++([2*P.au,2*P.au+1].take j).flatMap (yg X.G P)).length<1000:=by
     rw[a6];rw[dC,kE] at fl;have:min j [2*P.au,2*P.au+1].length<=1:=by show min j 2<=1;lia
     lia
    obtain⟨i,hie⟩:=(⟨_,rfl⟩:∃i,i=[2*P.au,2*P.au+1][j])
    rw[<- hie] at hi ⊢;refine lv (oM (bi (lc rfl (lz rfl)) (Bu A' hi)) bv) bm (λe1=>?_) λe1=>?_
    .have r0:uU X.G P i=0:=b9 e1;have hl:i<X.G.castles.length:=by rw[A.geo.ok.cl];exact hi
     have g:=a7 hl;cases oc:X.G.castles[i] with
     | none=>
      unfold uU at r0;rw[ba,g,oc] at r0;cases r0
     | some t=>
      rw[oc] at g;obtain⟨h4,pt,g1,gp,g2⟩:=A'.geo.cs i t g;obtain⟨hx,_⟩:=A.geo.ok.cv t (dB g);have e4:=ZT h4;have sz:=A.geo.ok.sz;have m0:=hx (t.getD 0 0) (by rw[e4];simp);have ce:yg X.G P i=[oO (t.getD 0 0) (t.getD 1 0) 3 0]:=by
       unfold yg;rw[cC r0,ba,g,e4];rfl
      rw[e4] at g2;refine zh (pd (oz 12 A'.geo.inst (qP A' ∅) rfl) ∅ (io A'.geo.castles) g1 (cU hi ⋯)) g2 rfl
       (oJ (Dk bR ∅ (bi (lc rfl (lc rfl (be bv (be bv f8)))) (r9 (by lia) ⋯ (λe=>cG e ⋯) ⋯)) hb) (ld (od ⟨?_,J (nv i),_,_,_,_,rfl⟩)))
      rw[rZ hj,<-aa xs,<-hie,ce];rfl
    .refine od ⟨?_,J (nv i),a,b,c,y,rfl⟩;have ce:yg X.G P i=[]:=cD (cj e1);rw[rZ hj,<-hie,ce,cN])
   λe h z=>by
    obtain⟨rfl,x,a,b,c,y,rfl⟩:=z;exact FF oe (qk hc) q
abbrev uP(m:Nat):Nat:=m >>> 14 &&& 3
abbrev qT(m:Nat):Nat:=m >>> 6 &&& 63
abbrev qv(m:Nat):Nat:=m &&& 63
abbrev vT(G:o7)(P:Ps)(m pn:Nat):Bool:=if uP m=3 then true else if qT m=P.king P.au then !uD G P (qv m) (1 - P.au) (P.all ^^^ 1 <<< P.king P.au)
 else if pn >>> qT m &&& 1=0 then true else OY G (qT m) (qv m) (P.king P.au)
def GN(A:At T p X P):ii (K0 (d+1)) 587 [.ref p,nv tg] T (.bool false) T:=
 mk (λQ=>vK rfl) λQ q hc=>lv (t:=true) (pB (oz 21 A.inst ∅ rfl) qF rfl) rfl (λw=>pM o4 q) λe=>by cases e
def KR(A:At T p X P)(hk:sy X.G P P.au)(h2:uP m≠2)(hf:qT m<X.G.size)(ht:qv m<X.G.size):ii (K0 (d+5)) 615 [.ref p,nv m,nv pn] T (.bool (vT X.G P m pn)) T:=by
 ext d T p X P m pn;exact have sz:=A.geo.ok.sz
  mk (λQ=>KU rfl) λQ q hc=>by
   unfold vT at q;refine bs (v:=nv (uP m)) (bi (lz rfl) (sT)) (lv (oM ∅ bv) bm (λe1=>pM o4 ?_) λe1=>?_)
   .rw[cC (b9 e1)] at q;exact q
   rw[cD (cj e1)] at q;refine lv (oM ∅ bv) bm (λe2=>cG (b9 e2) h2) λw=>?_;refine bs (v:=nv (qT m)) (bi (lz rfl) (uW)) (bs (v:=nv (qv m)) (bi (lz rfl) (vo)) (bs (bi (lc rfl (be (qd A ∅) f8)) (qK A A.ok.sd hk.pos)) ?_));refine lv (oM ∅ ∅) bm (λe3=>?_) λe3=>?_
   .rw[cC (b9 e3)] at q;exact bs (y4 (qE (oR A ∅ bv ⋯) (oR A ∅ bv ⋯)) (qo ac ∅ ⋯ (cO (dH hk.lt) (cO sz ⋯))))
     (pM (uC (bi (lc rfl (lc rfl (be (oH ac (qd A ∅) (dh A.ok.sd)) (lz rfl)))) (rJ A ht (c2 _))) bm) q)
   rw[cD (cj e3)] at q;refine lv (oM (nb (rD ∅ ∅) ac) ac) bm (λe4=>pM o4 ?_) λe4=>pf (bi (be (qP A ∅) (lc rfl (lc rfl (lz rfl)))) (NN A.geo A.len hf ht)) ?_
   .rw[cC (b9 e4)] at q;exact q
   .rw[cD (cj e4)] at q;exact q
abbrev ve(P:Ps)(k:Nat):Nat:=(oV (P.sd P.au &&& P.kd k)).length
def EV(ht:tg<2 ^ 21):(tS G P k tg).length<=ve P k*21:=
 qX (λx=>GA (ae dD ht)) _
abbrev uy(G:o7)(P:Ps)(ks:List Nat)(tg:Nat):List Nat:=ks.flatMap λk=>tS G P k tg
def M3{Q:QS}{r:Ss}{e:nw}{tl:H}{t i:Nat}{it ea eb ec:E}{ks:List Nat}{tg hd:Nat}(A:At T p X P)(ho:p+4<o)(bR:o<T.length)(ht:tg<2 ^ 21)(hk:∀k∈ks,k<7)(hn:xs.length+(ks.map (ve P)).sum*21<1000)(hit:db (K0 (d+7)) it e (oL T o xs++tl) (.ref hd) (oL T o xs++(tl++[.list (ks.map nv)])))(hh:hd=T.length+tl.length)(ht4:e[t]? ≠U)(ha:∀x h,db (K0 (d+7)) ea (e.set t (J x)) h (.ref p) h)(hb:∀x h,db (K0 (d+7)) eb (e.set t (J x)) h (nv tg) h)(hc:∀x h,db (K0 (d+7)) ec (e.set t (J x)) h (.ref o) h)(R:∀e',(e'=e\/∃x,e'=e.set t (J x))->oD (K0 (d+7)) r e' (oL T o (xs++uy X.G P ks tg)++(tl++[.list (ks.map nv)])) Q):
  oD (K0 (d+7)) (.cons (.each (.loc t) it (.cons (.expr (.call i 475 (.cons ea (.cons (.loc t) (.cons eb (.cons ec .nil)))))) .nil)) r) e (oL T o xs++tl) Q:=by
 revert Q r e tl t i it ea eb ec ks tg hd;ext d T p o X P xs;ext Q r e tl t i it ea eb ec ks tg hd;exact uR (l:=ks) (lw _) hit (by rw[<- aa];exact pT (by rw[a6,oe,hh]))
   (λj e' h=>oL T o (xs++(ks.take j).flatMap λk=>tS X.G P k tg)++(tl++[.list (ks.map nv)])=h/\(e'=e\/∃x,e'=e.set t (J x)))
   ⟨by rw[eN,gF,cN],.inl rfl⟩ (λj e h z=>by obtain⟨rfl,_⟩:=z;rw[<- aa (oL _ _ _)];exact pT (by rw[a6,oe,hh]))
   (λj hj e' h z=>by
    obtain⟨rfl,he⟩:=z;have es:e'.set t (J (nv ks[j]))=e.set t (J (nv ks[j])):=by
     rcases he with rfl | ⟨x,rfl⟩
     .rfl
     .rw[gQ]
    have el:(e.set t (J (nv ks[j])))[t]? =J (J (nv ks[j])):=by
     rw[fS];refine cJ λq=>ht4 ?_;exact eH (dZ q)
    have A':=(A.put (xs:=xs++(ks.take j).flatMap λk=>tS X.G P k tg) ho).app (tl++[.list (ks.map nv)]);have bnd:(xs++(ks.take j).flatMap λk=>tS X.G P k tg).length+ve P ks[j]*21<1000:=by
     have g:∀l:List Nat,(l.flatMap λk=>tS X.G P k tg).length<=(l.map (ve P)).sum*21:=by
      intro l
      induction l with
      | nil=>exact dF _
      | cons k l ih=>
       rw[iI,a6,dw,fH,jx];have:=EV (G:=X.G) (P:=P) (k:=k) ht;lia
     have g1:=g (ks.take j);have g2:((ks.take (j+1)).map (ve P)).sum<=(ks.map (ve P)).sum:=by
      have:=gR (j+1) ks;have e2:(ks.map (ve P)).sum=((ks.take (j+1)).map (ve P)).sum+((ks.drop (j+1)).map (ve P)).sum:=by rw[<- mJ,<-dO,this]
      lia
     rw[dK hj,dO,mJ] at g2;simp only[dw,iH,fH,lT,jU] at g2;rw[a6];lia
    have kc:=u3 (d:=d) (T:=oL T o (xs++(ks.take j).flatMap λk=>tS X.G P k tg)++(tl++[.list (ks.map nv)])) (o:=o) A' ho (hk _ (dk hj)) ht (tv bR) bnd;rw[vj (by rw[oe];exact bR),uK] at kc;rw[es];refine oJ (bi (be (ha _ _) (be (r_loc el) (be (hb _ _) (be (hc _ _) f8)))) kc) (od ⟨?_,.inr ⟨_,rfl⟩⟩);rw[rZ hj,<-aa xs])
   λe' h z=>by
    obtain⟨rfl,he⟩:=z;rw[dS];exact R e' he
def Vd(h0:0<x)(h:x<2 ^ n):Im x<n:=by
 unfold Im;rw[Nat.log2_lt (fc (Hj h0))];exact ae (rz _ _) h
abbrev uc(G:o7)(P:Ps):Nat:=I1 G P (wU G P P.au)
abbrev DD(G:o7)(P:Ps):List Nat:=(if uc G P≠0 then rX G P 3 (uc G P)++uy G P [2,3,4,5] (uc G P) else[])++tS G P 6 (oh G.av (P.sd P.au))
def Ga{st tg:Nat}(A:At T p X P)(ht:tg<2 ^ 21):(rX X.G P st tg).length<=273:=by
 ext T p X P st tg;have a:=IK X.G P tg (xH A);have b:=GE X.G P st tg (xH A);have c:(Lx X.G P st tg).length<=168:=by
  have:=qX (f:=HB X.G P st tg) (m:=84) (λwg=>cO (qX (Ep X.G P st wg) _) (dA 4 (t5 (n:=21) (ae dD (ae dE ht))))) [0,1];exact this
 unfold rX;rw[a6,a6];split<;>split
 all_goals first | lia | (simp only[eV];lia)
def DP(ht:tg<2 ^ 21):(uy X.G P ks tg).length<=(ks.map (ve P)).sum*21:=by
 unfold uy
 induction ks with
 | nil=>exact dF _
 | cons k l ih=>
  rw[iI,a6,dw,fH,jx];have:=EV (G:=X.G) (P:=P) (k:=k) ht;lia
def Er(A:At T p X P)(hk:sy X.G P P.au)(ho:p+4<o)(L:T[o]? =J (.list (xs.map nv)))(ht:uc X.G P<2 ^ 21)(hn:xs.length+273+((([2,3,4,5]:List Nat).map (ve P)).sum*21+ve P 6*21)<1000):
  ii (K0 (d+8)) 594 [.ref p,.ref o] T .none (oL T o (xs++DD X.G P)):=by
 ext d T p o X P xs;exact have bR:=f0 L
  have hS:wU X.G P P.au<2 ^ X.G.size:=ae dD (A.ok.sS _)
  have f21:oh X.G.av (P.sd P.au)<2 ^ 21:=ae (rz _ _) (H7 A.geo.ok)
  mk (λQ=>EP rfl) λQ q hc=>by
   unfold DD at q;have last:∀(e:nw) (ys:List Nat) (tl:H),ys.length+ve P 6*21<1000->e[0]? =J (J (.ref p))->e[1]? =J (J (.ref o))->Q .none (oL T o (ys++tS X.G P 6 (oh X.G.av (P.sd P.au))))->
     oD (K0 (d+7)) (.cons (.expr (.call 14 475 (.cons (.loc 0) (.cons (.glo 15 (.int 6)) (.cons (.bin .band (.attr (.attr (.loc 0) 14) 3) (.inv (.sub (.attr (.loc 0) 18) (.attr (.loc 0) 19)))) (.cons (.loc 1) .nil)))))) .nil) e (oL T o ys++tl) (qN T.length Q):=λe ys tl hb g0 g1 q=>by
    have A':=(A.put (xs:=ys) ho).app tl;have kc:=u3 (d:=d) (T:=oL T o ys++tl) (o:=o) (k:=6) (tg:=oh X.G.av (P.sd P.au)) A' ho ⋯ f21 (tv bR) hb;rw[vj (by rw[oe];exact bR),uK] at kc;exact oJ (bi (be (r_loc g0) (be bv (be (xh (Df A'.geo (qP A' (r_loc g0))) (oR A' (r_loc g0) (qd A' (r_loc g0)) A.ok.sd)) (be (r_loc g1) f8)))) kc) (FF oe (qk hc) q)
   refine bs (v:=nv (uc X.G P)) (bi (lc rfl (be (bi (lz rfl) (LW A hk)) f8)) (zu A hk (ae dD (A.ok.s64 _)) (λh=>Vd (ef h) hS))) (lv ∅ oE (λe1=>?_) λe1=>?_)
   .rw[cC (b9 e1),<-aa,<-aa] at q;have pl:=Ga (st:=3) A ht;have kl:=DP (X:=X) (P:=P) (ks:=[2,3,4,5]) ht;refine oJ (bi (lc rfl (be bv (lc rfl (lz rfl)))) (vw A ho L (by lia) ht)) ?_;have A2:=A.put (xs:=xs++rX X.G P 3 (uc X.G P)) ho;refine lv (bi (lc rfl (lz rfl)) (GN A2)) bm (λe=>by cases e) λw=>?_;have z:=M3 (d:=d) (xs:=xs++rX X.G P 3 (uc X.G P)) (tl:=[]) (t:=3) (i:=14) (it:=.list (.cons (.glo 10 (.int 2)) (.cons (.glo 11 (.int 3)) (.cons (.glo 12 (.int 4)) (.cons (.glo 13 (.int 5)) .nil))))) (ea:=.loc 0) (eb:=.loc 2) (ec:=.loc 1) (ks:=[2,3,4,5]) (tg:=uc X.G P) (hd:=(oL T o (xs++rX X.G P 3 (uc X.G P))++[]).length) (r:=.nil) (e:=(oP 16 [.ref p,.ref o]).set 2 (J (nv (uc X.G P)))) (T:=T) (o:=o)
     (Q:=se (K0 (d+7)) (.cons (.expr (.call 14 475 (.cons (.loc 0) (.cons (.glo 15 (.int 6)) (.cons (.bin .band (.attr (.attr (.loc 0) 14) 3) (.inv (.sub (.attr (.loc 0) 18) (.attr (.loc 0) 19)))) (.cons (.loc 1) .nil)))))) .nil) (qN T.length Q))
     A ho bR ht ⋯ (by rw[a6];lia) (by rw[fA,cN];exact qe (be bv (be bv (be bv (be bv f8)))) ⋯) (by rw[cN,oe];rfl) (jc (U:Option V)) (λx h=>r_loc rfl) (λx h=>r_loc rfl) (λx h=>r_loc rfl)
     (λe' he=>ld (last e' _ _ (by rw[a6,a6];lia) (by rcases he with rfl | ⟨x,rfl⟩<;>rfl) (by rcases he with rfl | ⟨x,rfl⟩<;>rfl) q))
    rw[cN] at z;exact z
   .rw[cD (cj e1),fA] at q;have z:=last ((oP 16 [.ref p,.ref o]).set 2 (J (nv (uc X.G P)))) xs [] (by lia) rfl rfl q;rw[ro L,cN] at z;exact z
end
abbrev ua(G:o7)(P:Ps)(st:Nat):List Nat:=if st=3 then DD G P else rX G P st G.av++uy G P [2,3,4,5,6] (qW G P st)++(if st≠0 then GL G P else[])
section
variable{K:pK}{e:nw}{h h1 h3:H}{a:E}{v:V}{G:V->H->Prop}{r r':Ss}{n0:Nat}{t:H}{T:H}{xs:List Nat}
def aba(A:db K a e h v (h3++t))(hl:n0<=h3.length)(hc:oY h3.length h3)(hv:sX h3.length v)(q:G v h3):oD K (.cons (.ret a) r) e h (qN n0 G):=⟨A.go _ (.inr (.inl ⟨h3,t,rfl,hl,hc,hv,q⟩))⟩
def YF(A:db K a e h v (h3++t))(hl:n0<=h3.length)(hc:oY h3.length h3)(hv:sX h3.length v)(q:G v h3):oD K (.cons (.ret a) r) e h (se K r' (qN n0 G)):=⟨A.go _ (.inr (.inl ⟨h3,t,rfl,hl,hc,hv,q⟩))⟩
def XD(C:db K c e h x h)(k:tr x=J tt)(A:Gb K es e h vs h)(D:ii K f vs h .none h)(R:oD K r e h Q):oD K (.cons (.ite c (.cons (.expr (.call i f es)) .nil) .nil) r) e h Q:=
 lv C k (λw=>oJ (bi A D) (ld R)) λw=>R
def yK(l:n<=m)(h:sX n v):sX m v:=by
 cases v<;>first | exact cM h l | trivial
def BR(hc:oY T.length T):oY (T++[O.list (xs.map nv)]).length (T++[O.list (xs.map nv)]):=by
 ext T xs;exact λo ho=>by
  have l:T.length<=(T++[O.list (xs.map nv)]).length:=by rw[a6];exact de _ _
  rcases cS.mp ho with h | h
  .have z:=hc o h;cases o with
   | list ys=>exact λx hx=>yK l (z x hx)
   | tup ys=>exact λx hx=>yK l (z x hx)
   | inst c fs=>exact λx hx=>yK l (z x hx)
   | aT _ _ _=>trivial
  .rw[dT] at h;subst h;intro x hx;obtain⟨y,_,rfl⟩:=d7.mp hx;trivial
def Dt:oL (T++[O.list (xs.map nv)]) T.length ys=T++[O.list (ys.map nv)]:=zn
def tJ:(T++[o]).length=T.length+1:=by rw[a6];rfl
end
section
variable{d:Nat}{Q:V->H->Prop}{T:H}{p:Nat}{X:uu}{P:Ps}
def At.lt(A:At T p X P):p+4<T.length:=f0 A.ay
def LR{st:Nat}(A:At T p X P)(hk:sy X.G P P.au)(ht:uc X.G P<2 ^ 21)(hst:∀st,qW X.G P st<2 ^ 21)(hn:(([2,3,4,5,6]:List Nat).map (ve P)).sum<=21):ii (K0 (d+9)) 622 [.ref p,nv st] T (.ref T.length) (T++[.list ((ua X.G P st).map nv)]):=by
 ext d T p X P st;exact have A0:=A.app [.list (([]:List Nat).map nv)]
  have ho:p+4<T.length:=A.lt
  have L0:(T++[O.list (([]:List Nat).map nv)])[T.length]? =J (.list (([]:List Nat).map nv)):=bn
  have f21:X.G.av<2 ^ 21:=H7 A.geo.ok
  have hs:(([2,3,4,5]:List Nat).map (ve P)).sum+ve P 6<=21:=by
   simp only[dw,iH,fH,lT] at hn ⊢;lia
  mk (λQ=>LV rfl) λQ q hc=>by
   unfold ua at q;refine bs (qe (xs:=[]) f8 (dF _)) (lv (oM ∅ bv) bm (λe1=>?_) λe1=>?_)
   .rw[cC (b9 e1)] at q;have kc:=Er (d:=d) (T:=T++[.list (([]:List Nat).map nv)]) (o:=T.length) A0 hk ho L0 ht (by simp only[eV];lia);rw[Dt,fA] at kc;refine oJ (bi (lc rfl (lz rfl)) kc) (YF (t:=[]) (h3:=T++[.list ((DD X.G P).map nv)]) (v:=.ref T.length) ?_ ?_ (BR hc) ?_ q)
    .rw[cN];exact r_loc rfl
    .rw[tJ];exact mn _
    .rw[tJ];exact dM _
   .rw[cD (cj e1)] at q;have pl:=Ga (st:=st) A f21;have kl:=DP (X:=X) (P:=P) (ks:=[2,3,4,5,6]) (hst st);refine bs (bi (lc rfl (lz rfl)) (De A0)) ?_;have kc:=vw (d:=d+4) (T:=T++[.list (([]:List Nat).map nv)]) (o:=T.length) (st:=st) (tg:=X.G.av) A0 ho L0 (by simp only[eV];lia) f21;refine oJ (bi (lc rfl (lc rfl (be (Df A0.geo (qP A0 ∅)) (lz rfl)))) kc) ?_;rw[fA];have A1:=A0.put (xs:=rX X.G P st X.G.av) ho;refine XD (tI ∅ bv) bm (lc rfl (lz rfl)) (AQ A1) ?_;have z:=λ(Q':QS) (r:Ss) R=>M3 (d:=d+1) (xs:=rX X.G P st X.G.av) (tl:=[]) (t:=4) (i:=16) (it:=.list (.cons (.glo 11 (.int 2)) (.cons (.glo 12 (.int 3)) (.cons (.glo 13 (.int 4)) (.cons (.glo 14 (.int 5)) (.cons (.glo 15 (.int 6)) .nil)))))) (ea:=.loc 0) (eb:=.loc 3) (ec:=.loc 2) (ks:=[2,3,4,5,6]) (tg:=qW X.G P st) (hd:=(oL (T++[O.list (([]:List Nat).map nv)]) T.length (rX X.G P st X.G.av)++[]).length) (r:=r) (e:=((oP 19 [.ref p,nv st]).set 2 (J (.ref T.length))).set 3 (J (nv (qW X.G P st)))) (T:=T++[O.list (([]:List Nat).map nv)]) (o:=T.length)
     (Q:=Q') A0 ho (by rw[tJ];exact dM _) (hst st) ⋯ (by lia) (by rw[fA,cN];exact qe (be bv (be bv (be bv (be bv (be bv f8))))) (by show(5:Nat)<=1000;decide)) (by rw[cN,oe];rfl) (jc (U:Option V)) (λx h=>r_loc rfl) (λx h=>r_loc rfl) (λx h=>r_loc rfl) R
    rw[cN] at z;refine z _ _ λe' he=>?_;have g0:e'[0]? =J (J (.ref p)):=by rcases he with rfl | ⟨x,rfl⟩<;>rfl
    have g1:e'[1]? =J (J (nv st)):=by rcases he with rfl | ⟨x,rfl⟩<;>rfl
    have g2:e'[2]? =J (J (.ref T.length)):=by rcases he with rfl | ⟨x,rfl⟩<;>rfl
    rw[Dt];have A2:=(A.app [.list ((rX X.G P st X.G.av++uy X.G P [2,3,4,5,6] (qW X.G P st)).map nv)]).app ([]++[.list (([2,3,4,5,6]:List Nat).map nv)]);have L2:(T++[O.list ((rX X.G P st X.G.av++uy X.G P [2,3,4,5,6] (qW X.G P st)).map nv)]++([]++[O.list (([2,3,4,5,6]:List Nat).map nv)]))[T.length]? =J (.list ((rX X.G P st X.G.av++uy X.G P [2,3,4,5,6] (qW X.G P st)).map nv)):=
     (ar (by rw[tJ];exact dM _)).trans bn
    refine D2 L2 (tI (r_loc g1) bv) bm (be (r_loc g0) (be (r_loc g2) f8)) (λw=>Dz A2 ho L2 (by rw[a6];lia)) ?_;rw[vj (by rw[tJ];exact dM _),Dt];simp only[cu];refine aba (h3:=T++[.list ((rX X.G P st X.G.av++uy X.G P [2,3,4,5,6] (qW X.G P st)++if st≠0 then GL X.G P else[]).map nv)]) (r_loc g2) ?_ (BR hc) ?_ q
    .rw[tJ];exact mn _
    .rw[tJ];exact dM _
end
abbrev B9(G:o7)(P:Ps):Nat:=GX G P P.au &&& P.sd P.au
abbrev Cs(b:Bool):List Nat:=if b=true then[3] else[0,1]
abbrev AK(G:o7)(P:Ps):Bool:=(Cs (r5 G P P.au)).any λst=>(ua G P st).any λm=>vT G P m (B9 G P)
def Iz{f:α->Bool}{l:List α}{j:Nat}(hj:j<l.length):(l.take (j+1)).any f=((l.take j).any f||f l[j]):=by
 rw[dK hj,mM,iQ,j4,iS]
section
variable{K:pK}{e:nw}{h h1 h3:H}{a:E}{v:V}{G:V->H->Prop}{r r1 r2 r3:Ss}{t:H}{I ak:nw->H->Prop}
def ZK(A:db K a e h v (h3++t))(hc:oY h3.length h3)(hv:sX h3.length v)(q:G v h3):oD K (.cons (.ret a) r) e h (se K r1 (oZ I (se K r2 (oZ ak (se K r3 (qN h3.length G)))))):=⟨A.go _ (C7 (e:=e) hc hv q)⟩
end
section
variable{d:Nat}{Q:V->H->Prop}{T:H}{p:Nat}{X:uu}{P:Ps}
def ti(A:At T p X P)(hk:sy X.G P P.au)(ht:uc X.G P<2 ^ 21)(hst:∀st,qW X.G P st<2 ^ 21)(hn:(([2,3,4,5,6]:List Nat).map (ve P)).sum<=21)(hm:∀st,∀m∈ua X.G P st,uP m≠2/\qT m<X.G.size/\qv m<X.G.size):ii (K0 (d+10)) 629 [.ref p] T (.bool (AK X.G P)) T:=by
 ext d T p X P;exact mk (λQ=>AW rfl) λQ q hc=>by
   unfold AK at q;obtain⟨b,hb⟩:=(⟨_,rfl⟩:∃b,b=r5 X.G P P.au)
   have kc:=vS (d:=d+3) A hk;rw[<- hb] at kc q;obtain⟨sg,hsg⟩:=(⟨_,rfl⟩:∃sg,sg=Cs b)
   have A1:=A.app [.list (sg.map nv)];refine bs (v:=.ref T.length) (h1:=T++[.list (sg.map nv)]) (PY (bi (lz rfl) kc) bm (λe1=>?_) λe1=>?_) ?_
   .rw[hsg,e1];exact qe (be bv f8) (by show(1:Nat)<=1000;decide)
   .rw[hsg,e1];exact qe (be bv (be bv f8)) (by show(2:Nat)<=1000;decide)
   rw[<- hsg] at q;refine bs (v:=nv (B9 X.G P)) (bi (lc rfl (be (qd A1 ∅) f8)) (SE A1 A.ok.sd hk)) (uR (l:=sg) (lw _) ∅ bn
    (λj e h=>∃tl,T++([.list (sg.map nv)]++tl)=h/\((sg.take j).any λst=>(ua X.G P st).any λm=>vT X.G P m (B9 X.G P))=false/\∃x y,e=[J (.ref p),J (.ref T.length),J (nv (B9 X.G P)),x,y,U,U,U,U,U,U,U,U])
    ⟨[],by rw[cN],by rw[eN,j4],U,U,rfl⟩ (λj e h z=>by
     obtain⟨tl,rfl,_⟩:=z;rw[<- aa];exact(ar (by rw[tJ];exact dM _)).trans bn) (λj hj e h z=>?_) λe h z=>?_)
   .obtain⟨tl,rfl,ha,x,y,rfl⟩:=z;have A2:=A.app ([.list (sg.map nv)]++tl);obtain⟨st,hse⟩:=(⟨_,rfl⟩:∃st,st=sg[j])
    rw[<- hse];have bk:ua X.G P st=ua X.G P sg[j]:=by rw[hse]
    refine uR (l:=ua X.G P st) (lw _) (bi (lc rfl (lz rfl)) (LR A2 hk ht hst hn)) bn
     (λi e h=>T++(([.list (sg.map nv)]++tl)++[.list ((ua X.G P st).map nv)])=h/\(((ua X.G P st).take i).any λm=>vT X.G P m (B9 X.G P))=false/\∃y,e=[J (.ref p),J (.ref T.length),J (nv (B9 X.G P)),J (nv st),y,U,U,U,U,U,U,U,U])
     ⟨by rw[<- aa],by rw[eN,j4],y,rfl⟩ (λi e h z=>by
      obtain⟨rfl,_⟩:=z;rw[<- aa T];exact bn) (λi hi e h z=>?_) λe h z=>?_
    .obtain⟨rfl,hf,y,rfl⟩:=z;obtain⟨m2,m3,m4⟩:=hm st _ (dk hi);refine lv (bi (lc rfl (lc rfl (lz rfl))) (KR (A.app _) hk m2 m3 m4)) bm (λe1=>?_) λe1=>od ⟨rfl,by rw[Iz hi,hf,e1];rfl,J (nv (ua X.G P st)[i]),rfl⟩;have big:(sg.any λst=>(ua X.G P st).any λm=>vT X.G P m (B9 X.G P))=true:=by
      rw[eu];refine⟨sg[j],dk hj,?_⟩;rw[<- bk,eu];exact⟨_,dk hi,e1⟩
     rw[big] at q;exact ZK (v:=.bool true) o4 hc trivial q
    .obtain⟨rfl,hf,y,rfl⟩:=z;rw[dS] at hf;refine od ⟨tl++[.list ((ua X.G P st).map nv)],by rw[aa [_]],?_,J (nv st),y,rfl⟩;rw[Iz hj,ha,<-bk,hf];rfl
   .obtain⟨tl,rfl,ha,x,y,rfl⟩:=z;rw[dS] at ha;rw[ha] at q;exact QN (v:=.bool false) o4 hc trivial q
end
structure HK (T:H) (P:Ps) (ks:List Nat):Prop where
 len:ks.length=P.ay.length
 small:ks.length<=100
 at_:∀(i k:Nat),ks[i]? =J k->∃q a b c d e,P.ay[i]? =J (.ref q)/\T[q]? =J (.tup [a,b,c,d,e,nv k])
def HK.app(A:HK T P ks)(t:H):HK (T++t) P ks:=⟨A.len,A.small,λi k h=>by
 obtain⟨q,a,b,c,d,e,h1,h2⟩:=A.at_ i k h;exact⟨q,a,b,c,d,e,h1,(ar (f0 h2)).trans h2⟩⟩
abbrev rK(P:Ps):Nat:=if P.aA<P.ay.length then P.aA else P.ay.length
abbrev Cr(P:Ps)(ks:List Nat)(k:Nat):Nat:=if k=0 then P.key else ks.getD (ks.length - k) 0
section
variable{d:Nat}{Q:V->H->Prop}{T:H}{p:Nat}{X:uu}{P:Ps}{ks:List Nat}
def rT(A:At T p X P)(hl:P.ay.length<=1000000):ii (K0 (d+1)) 636 [.ref p] T (nv (rK P)) T:=
 mk (λQ=>yz rfl) λQ q hc=>lv (Pa (oz 22 A.inst ∅ rfl) (tV (oz 24 A.inst ∅ rfl) (io A.ay) hl)) bm (λe1=>pM (oz 22 A.inst ∅ rfl) (by rw[rK,cC (b9 e1)] at q;exact q))
  λe1=>pf (tV (oz 24 A.inst ∅ rfl) (io A.ay) hl) (by rw[rK,cD (cj e1)] at q;exact q)
def ug(A:At T p X P)(S:HK T P ks)(hk:k<=ks.length):ii (K0 (d+1)) 643 [.ref p,nv k] T (nv (Cr P ks k)) T:=by
 ext d T p X P ks k;exact have hl:=S.len
  have hs:=S.small
  mk (λQ=>HM rfl) λQ q hc=>lv (oM ∅ ac) bm (λe1=>pM (oz 23 A.inst ∅ rfl) (by rw[Cr,cC (b9 e1)] at q;exact q))
   λe1=>by
    have k0:k≠0:=cj e1;have hi:ks.length - k<ks.length:=by lia
    rw[Cr,cD k0,ba,a7 hi] at q;obtain⟨qh,a,b,c,d',e,h1,h2⟩:=S.at_ _ _ (a7 hi);exact pf (pd (pd (oz 24 A.inst ∅ rfl) (oH (tV (oz 24 A.inst ∅ rfl) (io A.ay) (by lia)) ∅ (by lia)) (io A.ay) (by rw[<- hl];exact h1) (by lia)) ac (t9 h2) rfl ⋯) q
end
structure Gd (G:o7) (P:Ps):Prop where
 k:sy G P P.au
 ht:uc G P<2 ^ 21
 hst:∀st,qW G P st<2 ^ 21
 hn:(([2,3,4,5,6]:List Nat).map (ve P)).sum<=21
 hm:∀st,∀m∈ua G P st,uP m≠2/\qT m<G.size/\qv m<G.size
section
variable{K:pK}{e:nw}{h h1 h2 h3 t:H}{a b c:E}{i j n m p:Nat}{v x y z:V}{Q:QS}{r:Ss}{sa sb:Ss}{es:Es}{G:V->H->Prop}
def Dc(A:Gb K es e h [nv n,nv m,nv 2] h1)(l:n<1000000)(l':m<1000000):db K (.range i es) e h (.ref h1.length) (h1++[.aT n m 2]):=⟨λQ q=>A.go _ (by
 show te (sF [.int (n:Int),.int (m:Int),.int 2] h1) Q;have e:(yA (n:Int)&&yA (m:Int)&&((2:Int) == 1||(2:Int) == 2||(2:Int) == -1))=true:=by(rewrite [ry l,ry l'];try with_reducible rfl);rfl
 (rewrite [Uq,cC e];try with_reducible rfl)
 exact q)⟩
def F7:oB K (.aT (n:Int) (m:Int) 2) h x j=J (if j<(m+1 - n)/2 then J (nv (n+2*j)) else .none):=by
 ext K h j n m x;have e1:pG (n:Int) (m:Int) 2=(m+1 - n)/2:=by
  unfold pG;rw[cD ⋯,cC ⋯];lia
 unfold oB;dsimp only;rw[e1];have e2:(n:Int)+(j:Int)*2=((n+2*j:Nat):Int):=by lia
 rw[e2];rfl
def DN{t:Nat}(M:K.aV)(A:db K it e h (.ref p) h1)(g:h1[p]? =J (.aT (n:Int) (m:Int) 2))(N:Nat)(l:N=(m+1 - n)/2)(l1:n<1000000)(l2:m<1000000)(I:Nat->nw->H->Prop)(z:I 0 e h1)(step:∀j,j<N->∀e h,I j e h->oD K sa (e.set t (J (nv (n+2*j)))) h (oZ (I (j+1)) (se K r Q)))(done:∀e h,I N e h->oD K r e h Q):oD K (.cons (.each (.loc t) it sa) r) e h Q:=by
 revert N I;ext K e h h1 n m p Q r sa it t;subst l;exact Dn (k:=.aT (n:Int) (m:Int) 2) M A (by simp [Fg,tR,g,ry l2,ry l1]) rfl _ I z
  (λj hj e h z=>⟨nv (n+2*j),by rw[F7,cC hj],(step j hj e h z).go⟩)
  λe h z=>⟨by rw[F7,cD (eU _)],done e h z⟩
def xY(A:db K a e h v (h3++t))(hc:oY h3.length h3)(hv:sX h3.length v)(q:G v h3)(aj:∀e h,qN h3.length G (.ret v) e h->Q (.ret v) e h):oD K (.cons (.ret a) r) e h Q:=⟨A.go _ (aj _ _ (C7 (e:=e) hc hv q))⟩
end
abbrev tH(P:Ps)(ks:List Nat):Nat->List Nat
 | 0=>[]
 | n+1=>tH P ks n++if Cr P ks (4+2*n)=P.key then[4+2*n] else[]
abbrev rO(P:Ps):Nat:=(rK P - 2)/2
abbrev Mo:List Nat->Int
 | []=>0
 | [a]=>a
 | a::_::_=>-a
def Kb:∀k:Nat,∃t,tH P ks (j+k)=tH P ks j++t
 | 0=>⟨[],by rw[cN];rfl⟩
 | k+1=>by
  obtain⟨t,e⟩:=Kb (P:=P) (ks:=ks) (j:=j) k;exact⟨t++_,by rw[<- dG,tH,e,aa]⟩
abbrev QV(P:Ps)(ks:List Nat)(aI:Nat):Bool:=(cn ((rK P+1+1 - (aI+4))/2)).any λj=>decide (Cr P ks aI=Cr P ks (aI+4+2*j))
abbrev LO(P:Ps)(ks:List Nat):Bool:=(cn (rK P+1)).any (QV P ks)
def Gy:(cn (n+1)).any f=((cn n).any f||f n):=by
 rw[gf,mM,iQ,j4,iS]
def Nh(l:j<n)(h:f j=true):(cn n).any f=true:=eu.mpr ⟨j,cL.mpr l,h⟩
def KZ(S:HK T P ks):rK P<=ks.length:=by
 have:=S.len;unfold rK;split<;>lia
section
variable{d:Nat}{Q:V->H->Prop}{T:H}{p:Nat}{X:uu}{P:Ps}{ks:List Nat}
def yi(A:At T p X P)(S:HK T P ks):ii (K0 (d+2)) 650 [.ref p] T (nv (tH P ks (rO P)).length) T:=by
 ext d T p X P ks;exact have hl:=S.len
  have hs:=S.small
  have hr:=KZ S
  mk (λQ=>FI rfl) λQ q hc=>bs ac (DN (n:=4) (m:=rK P+1) (lw _) (Dc (be ac (be (qG (bi (lz rfl) (rT A (by lia))) ac) (be ac f8))) ⋯ (by show rK P+1<1000000;lia)) bn
   (rO P) (by unfold rO;lia) ⋯ (by lia) (λj e h=>T++[.aT (4:Nat) (rK P+1:Nat) 2]=h/\∃x,e=[J (.ref p),J (nv (tH P ks j).length),x,U,U,U,U]) ⟨rfl,U,rfl⟩
   (λj hj e h z=>by
    obtain⟨rfl,x,rfl⟩:=z;have hk:4+2*j<=ks.length:=by unfold rO at hj;lia
    have A':=A.app [.aT (4:Nat) (rK P+1:Nat) 2];refine lv (oM (bi (lc rfl (lz rfl)) (ug A' (S.app _) hk)) (oz 23 A'.inst ∅ rfl)) bm (λe1=>oI rfl ac BP (ld (od ⟨rfl,J (nv (4+2*j)),?_⟩))) λe1=>od ⟨rfl,J (nv (4+2*j)),?_⟩
    .rw[tH,cC (b9 e1),a6];rfl
    .rw[tH,cD (cj e1),cN];rfl)
   λe h z=>by
    obtain⟨rfl,x,rfl⟩:=z;exact xY ∅ hc trivial q λw w z=>z)
def tP(A:At T p X P)(S:HK T P ks):ii (K0 (d+3)) 657 [.ref p,nv m] T (.bool (decide (m<=(tH P ks (rO P)).length+1))) T:=
 mk (λQ=>Cf rfl) λQ q hc=>pf (JM (qG (bi (lz rfl) (yi A S)) ac) ∅) q
def td(A:At T p X P)(S:HK T P ks):ii (K0 (d+2)) 664 [.ref p] T (.int (Mo (tH P ks (rO P)))) T:=by
 ext d T p X P ks;exact have hl:=S.len
  have hs:=S.small
  have hr:=KZ S
  mk (λQ=>wH rfl) λQ q hc=>bs ac (DN (n:=4) (m:=rK P+1) (lw _) (Dc (be ac (be (qG (bi (lz rfl) (rT A (by lia))) ac) (be ac f8))) ⋯ (by show rK P+1<1000000;lia)) bn
   (rO P) (by unfold rO;lia) ⋯ (by lia) (λj e h=>T++[.aT (4:Nat) (rK P+1:Nat) 2]=h/\∃x f,e=[J (.ref p),J (nv f),x,U,U,U,U]/\(tH P ks j=[]/\f=0\/0<f/\tH P ks j=[f])) ⟨rfl,U,0,rfl,.inl ⟨rfl,rfl⟩⟩
   (λj hj e h z=>by
    obtain⟨rfl,x,f,rfl,hf⟩:=z;have hk:4+2*j<=ks.length:=by unfold rO at hj;lia
    have A':=A.app [.aT (4:Nat) (rK P+1:Nat) 2];refine lv (oM (bi (lc rfl (lz rfl)) (ug A' (S.app _) hk)) (oz 23 A'.inst ∅ rfl)) bm (λe1=>?_) λe1=>od ⟨rfl,J (nv (4+2*j)),f,rfl,?_⟩
    .have e1:=b9 e1;refine lv (Jw ∅ ac) bm (λe2=>?_) λe2=>bs ∅ (ld (od ⟨rfl,J (nv (4+2*j)),4+2*j,rfl,.inr ⟨by lia,?_⟩⟩))
     .have e2:=b9 e2;rcases hf with hf | hf
      .have:=hf.2;have:0<f:=e2;lia
      .obtain⟨t,ht⟩:=Kb (P:=P) (ks:=ks) (j:=j+1) (rO P - (j+1));rw[show j+1+(rO P - (j+1))=rO P by lia,tH,cC e1,hf.2] at ht;rw[ht] at q;exact xY (v:=.int (-(f:Int))) (Ah ∅) hc trivial q λw w z=>z
     .rcases hf with hf | hf
      .rw[tH,cC e1,hf.1];rfl
      .exact cG hf.1 (cj e2)
    .rw[tH,cD (cj e1),cN];exact hf)
   λe h z=>by
    obtain⟨rfl,x,f,rfl,hf⟩:=z;refine xY (v:=nv f) ∅ hc trivial ?_ λw w z=>z;rcases hf with⟨h1,h2⟩ | ⟨h1,h2⟩
    .rw[h1] at q;rw[h2];exact q
    .rw[h2] at q;exact q)
def D6(A:At T p X P)(S:HK T P ks):ii (K0 (d+2)) 671 [.ref p] T (.bool (LO P ks)) T:=by
 ext d T p X P ks;exact have hl:=S.len
  have hs:=S.small
  have hr:=KZ S
  mk (λQ=>ES rfl) λQ q hc=>bs (bi (lz rfl) (rT A (by lia))) (rQ (n:=0) (m:=rK P+1) (lw _) (pZ (be (qG ∅ ac) f8) (by show rK P+1<1000000;lia)) bn (by lia) (by lia)
   (λj e h=>∃tl,T++([.aT (0:Nat) (rK P+1:Nat) 1]++tl)=h/\(cn j).any (QV P ks)=false/\∃x y,e=[J (.ref p),J (nv (rK P)),x,y,U,U,U,U]) ⟨[],by rw[cN];rfl,rfl,U,U,rfl⟩
   (λaI w hn e h z=>by
    obtain⟨tl,rfl,ha,x,y,rfl⟩:=z;refine DN (n:=aI+4) (m:=rK P+1) (lw _) (Dc (be (qG ∅ ac) (be (qG ∅ ac) (be ac f8))) (by show aI+4<1000000;lia) (by show rK P+1<1000000;lia)) bn _ rfl (by lia) (by lia)
     (λj e h=>T++([.aT (0:Nat) (rK P+1:Nat) 1]++tl)++[.aT (aI+4:Nat) (rK P+1:Nat) 2]=h/\((cn j).any λj=>decide (Cr P ks aI=Cr P ks (aI+4+2*j)))=false/\∃y,e=[J (.ref p),J (nv (rK P)),J (nv aI),y,U,U,U,U])
     ⟨rfl,rfl,y,rfl⟩ (λj hj e h z=>?_) λe h z=>?_
    .obtain⟨rfl,hf,y,rfl⟩:=z;have A':=(A.app ([.aT (0:Nat) (rK P+1:Nat) 1]++tl)).app [.aT (aI+4:Nat) (rK P+1:Nat) 2];have S':=(S.app ([.aT (0:Nat) (rK P+1:Nat) 1]++tl)).app [.aT (aI+4:Nat) (rK P+1:Nat) 2];refine lv (oM (bi (lc rfl (lz rfl)) (ug A' S' (k:=aI) (by lia))) (bi (lc rfl (lz rfl)) (ug A' S' (k:=aI+4+2*j) (by lia)))) bm (λe1=>?_) λe1=>od ⟨rfl,by rw[Gy,hf,e1];rfl,J (nv (aI+4+2*j)),rfl⟩;have:LO P ks=true:=Nh hn (Nh hj e1);rw[this] at q;rw[aa];exact xY (v:=.bool true) o4 hc trivial q λw w z=>z
    .obtain⟨rfl,hf,y,rfl⟩:=z;refine od ⟨tl++[.aT (aI+4:Nat) (rK P+1:Nat) 2],by rw[aa,aa],?_,J (nv aI),y,rfl⟩;rw[Gy,ha];exact hf)
   λe h z=>by
    obtain⟨tl,rfl,ha,x,y,rfl⟩:=z;have:LO P ks=false:=ha;rw[this] at q;exact xY (v:=.bool false) o4 hc trivial q λw w z=>z)
abbrev QZ(G:o7)(P:Ps):Bool:=r5 G P P.au&& !AK G P
abbrev Da(G:o7)(P:Ps):Bool:=decide (100<=P.aA)&& !QZ G P
abbrev JB(G:o7)(s:Nat):Nat:=s%G.files+s/G.files &&& 1
abbrev zp(G:o7)(P:Ps):Nat:=(oV (P.kd 3)).foldl (λa s=>a ||| 1 <<< JB G s) 0
abbrev xo(G:o7)(P:Ps):Bool:=if P.kd 1 ||| P.kd 4 ||| P.kd 5≠0 then false else if P.kd 2=0 then decide (zp G P≠3) else decide (P.kd 3=0)&& !decide (P.kd 2 &&& (P.kd 2 - 1)≠0)
abbrev Sm(G:o7)(P:Ps)(ks:List Nat):Bool:=xo G P||(decide (3<=(tH P ks (rO P)).length+1)||Da G P)
abbrev NK(G:o7)(P:Ps)(ks:List Nat)(m:Nat):Bool:=if Da G P=true then true else decide (Mo (tH P ks (rO P))≠0)&&decide (Mo (tH P ks (rO P))<(m:Int))
abbrev D0(G:o7)(P:Ps)(ks:List Nat):Nat:=if AK G P=false then(if r5 G P P.au=true then 1 else 2) else if 100<=P.aA then 3 else if 3<=(tH P ks (rO P)).length+1 then 4 else if xo G P=true then 5 else 0
abbrev GB(P:Ps)(o:Nat):Str:=if o=0 then bb "*" else if o≠1 then bb "1/2-1/2" else if P.au=0 then bb "0-1" else bb "1-0"
def D4(A:At T p X P)(g:Gd X.G P):ii (K0 (d+11)) 678 [.ref p] T (.bool (QZ X.G P)) T:=
 mk (λQ=>Eo rfl) λQ q hc=>pf (sr (bi (lz rfl) (vS (d:=d+4) A g.k)) (uC (bi (lz rfl) (ti A g.k g.ht g.hst g.hn g.hm)) bm)) q
def DJ(A:At T p X P)(g:Gd X.G P):ii (K0 (d+11)) 685 [.ref p] T (.bool (!r5 X.G P P.au&& !AK X.G P)) T:=
 mk (λQ=>D8 rfl) λQ q hc=>pf (sr (uC (bi (lz rfl) (vS (d:=d+4) A g.k)) bm) (uC (bi (lz rfl) (ti A g.k g.ht g.hst g.hn g.hm)) bm)) q
def EA(A:At T p X P)(g:Gd X.G P):ii (K0 (d+12)) 692 [.ref p] T (.bool (Da X.G P)) T:=
 mk (λQ=>Mf rfl) λQ q hc=>pf (sr (JM (oz 22 A.inst ∅ rfl) bv) (uC (bi (lz rfl) (D4 A g)) bm)) q
def CE(A:pP T g gh G n):ii (K0 (d+1)) 699 [.ref g,nv s] T (nv (JB G s)) T:=
 have f3:=A.ok.f3
 have f7:=A.ok.f7
 mk (λQ=>B8 rfl) λQ q hc=>pf (nb (qG (wF ∅ (oz 0 A.inst ∅ rfl) (by lia)) (sA ∅ (oz 0 A.inst ∅ rfl) (by lia) (by lia))) ac) q
def RU(G:o7)(s:Nat):JB G s<=1:=dD
def O8(A:At T p X P):ii (K0 (d+2)) 706 [.ref p] T (.bool (decide (zp X.G P≠3))) T:=by
 ext d T p X P;exact mk (λQ=>vG rfl) λQ q hc=>bs ac (uR (l:=oV (P.kd 3)) (lw _) (bi (be (tE A ∅ bv ⋯) f8) (pW (A.ok.k64 _))) bn
   (λj e h=>T++[.list ((oV (P.kd 3)).map nv)]=h/\∃x,e=[J (.ref p),J (nv (((oV (P.kd 3)).take j).foldl (λa s=>a ||| 1 <<< JB X.G s) 0)),x,U,U,U,U]) ⟨rfl,U,rfl⟩ (λj e h z=>by obtain⟨rfl,_⟩:=z;exact bn)
   (λj hj e h z=>by
    obtain⟨rfl,x,rfl⟩:=z;have A':=A.app [.list ((oV (P.kd 3)).map nv)];refine oI rfl (qo ac (bi (be (qP A' ∅) (lz rfl)) (CE A'.geo)) ⋯ (cO (RU _ _) ⋯)) rW (od ⟨rfl,J (nv (oV (P.kd 3))[j]),?_⟩);rw[By hj];rfl)
   λe h z=>by
    obtain⟨rfl,x,rfl⟩:=z;rw[dS];exact xY (tI ∅ ac) hc trivial q λw w z=>z)
def sQ(A:At T p X P):ii (K0 (d+3)) 713 [.ref p] T (.bool (xo X.G P)) T:=by
 ext d T p X P;exact have kk:∀{K:pK} {e:nw} {a b:E} {i:Nat},db K a e T (.ref (p+2)) T->db K b e T (nv i) T->i<7->db K (.sub a b) e T (nv (P.kd i)) T:=λB C hi=>tO A.aN B C (by rw[A.ok.kl];exact hi) (by rw[A.ok.kl];decide)
  mk (λQ=>zq rfl) λQ q hc=>by
   unfold xo at q;refine bs (oz 17 A.inst ∅ rfl) (lv (tI (qE (qE (kk ∅ bv ⋯) (kk ∅ bv ⋯)) (kk ∅ bv ⋯)) ac) bm (λe1=>pM o4 ?_) λe1=>?_)
   .rw[cC (b9 e1)] at q;exact q
   rw[cD (cj e1)] at q;refine lv (oM (kk ∅ bv ⋯) ac) bm (λe2=>pM (bi (lz rfl) (O8 A)) ?_) λe2=>?_
   .rw[cC (b9 e2)] at q;exact q
   rw[cD (cj e2)] at q;exact pf (sr (oM (kk ∅ bv ⋯) ac) (uC (bi (be (kk ∅ bv ⋯) f8) (tT (ef (cj e2)))) bm)) q
def JK(A:At T p X P)(S:HK T P ks)(g:Gd X.G P):ii (K0 (d+13)) 720 [.ref p] T (.bool (Sm X.G P ks)) T:=
 mk (λQ=>Ao rfl) λQ q hc=>pf (sE (bi (lz rfl) (sQ A)) (sE (bi (lc rfl (be ac f8)) (tP A S)) (bi (lz rfl) (EA A g)))) q
def Fy(A:At T p X P)(S:HK T P ks)(g:Gd X.G P):ii (K0 (d+13)) 727 [.ref p,nv m] T (.bool (NK X.G P ks m)) T:=
 mk (λQ=>xQ rfl) λQ q hc=>by
  unfold NK at q;refine lv (bi (lz rfl) (EA A g)) bm (λe1=>pM o4 ?_) λe1=>?_
  .rw[cC e1] at q;exact q
  rw[cD (by rw[e1];decide)] at q;exact bs (bi (lz rfl) (td A S)) (pf (sr (pB ∅ qF (by show J (!decide (_=_))=J (decide (¬(_=_)));rw[decide_not])) (pB ∅ ∅ rfl)) q)
def Bp(A:At T p X P)(S:HK T P ks)(g:Gd X.G P):ii (K0 (d+11)) 734 [.ref p] T (nv (D0 X.G P ks)) T:=by
 ext d T p X P ks;exact mk (λQ=>OF rfl) λQ q hc=>by
   unfold D0 at q;refine lv (uC (bi (lz rfl) (ti A g.k g.ht g.hst g.hn g.hm)) bm) bm (λe1=>?_) λe1=>?_
   .have e1:AK X.G P=false:=by simpa using e1
    rw[cC e1] at q;refine lv (bi (lz rfl) (vS (d:=d+4) A g.k)) bm (λe2=>Z9 bv ?_) λe2=>pM bv ?_
    .rw[cC e2] at q;exact q
    .rw[cD (by rw[e2];decide)] at q;exact q
   have e1:¬AK X.G P=false:=by simpa using e1
   rw[cD e1] at q;refine lv (JM (oz 22 A.inst ∅ rfl) bv) bm (λe2=>pM bv ?_) λe2=>?_
   .rw[cC (b9 e2)] at q;exact q
   rw[cD (cj e2)] at q;refine lv (bi (lc rfl (be ac f8)) (tP (d:=d+7) A S)) bm (λe3=>pM bv ?_) λe3=>?_
   .rw[cC (b9 e3)] at q;exact q
   rw[cD (cj e3)] at q;refine lv (bi (lz rfl) (sQ (d:=d+7) A)) bm (λe4=>pM bv ?_) λe4=>pf bv ?_
   .rw[cC e4] at q;exact q
   .rw[cD (by rw[e4];decide)] at q;exact q
def FS(A:At T p X P)(S:HK T P ks)(g:Gd X.G P):ii (K0 (d+12)) 741 [.ref p] T (.str (GB P (D0 X.G P ks))) T:=by
 ext d T p X P ks;exact mk (λQ=>FE rfl) λQ q hc=>by
   unfold GB at q;refine bs (bi (lz rfl) (Bp A S g)) (lv (oM ∅ bv) bm (λe1=>pM BQ ?_) λe1=>?_)
   .rw[cC (b9 e1)] at q;exact q
   rw[cD (cj e1)] at q;refine lv (tI ∅ bv) bm (λe2=>pM BQ ?_) λe2=>?_
   .rw[cC (b9 e2)] at q;exact q
   rw[cD (cj e2)] at q;refine lv (oM (qd A ∅) bv) bm (λe3=>pM BQ ?_) λe3=>pf BQ ?_
   .rw[cC (b9 e3)] at q;exact q
   .rw[cD (cj e3)] at q;exact q
end
structure ZH where
 rows:Nat
 ep:Nat
 az:Nat
 row:List Nat
structure YH (T:H) (z:Nat) (h:ZH) (sz n:Nat):Prop where
 inst:T[z]? =J (.inst 2 [(25,.ref h.rows),(21,.ref h.ep),(20,.ref h.az),(19,nv (1 <<< (15*sz+16)))])
 rows:T[h.rows]? =J (.list (h.row.map .ref))
 rl:h.row.length=15
 row:∀i p:Nat,h.row[i]? =J p->p<n/\T[p]? =J (.list (((cn sz).map λs=>1 <<< (i*sz+s)).map nv))
 az:T[h.az]? =J (.list (((cn 16).map λr=>1 <<< (15*sz+r)).map nv))
 low:z<n/\h.rows<n/\h.az<n
abbrev blk(p:Nat)(X:uu)(P:Ps):H:=[psO p X P,.list (P.board.map nv),.list (P.aN.map nv),.list (P.aO.map nv),.list P.ay]
abbrev st(a:H)(X:uu)(P:Ps)(c:H):H:=a++(blk a.length X P++c)
structure PA (a:H) (X:uu):Prop where
 geo:pP a X.g X.gh X.G X.n
 low:X.n<=a.length
 zob:∃h,YH a X.z h X.G.size X.n
structure pH (G:o7) (P:Ps):Prop where
 bl:P.board.length=G.size
 kl:P.aN.length=7
 sl:P.aO.length=2
section
variable{K:pK}{e:nw}{a c T:H}{ea eb ec:E}{i j k n m p s:Nat}{v x:V}{X:uu}{P:Ps}{t:H}
def rS(hi:i<5):(st a X P c)[a.length+i]? =(blk a.length X P)[i]? :=by
 unfold st;rw[cQ (de _ _),d0,ar (by exact hi)]
def oy:(st a X P c)[a.length]? =J (psO a.length X P):=rS (i:=0) ⋯
def A6(hi:i<5):(st a X P c).set (a.length+i) o=a++((blk a.length X P).set i o++c):=by
 unfold st;rw[ew _ _ (de _ _),d0,iV _ _ (by exact hi)]
def rG:st a X P c++t=st a X P (c++t):=by unfold st;rw[aa,aa]
def u6:(st a X P c).length=a.length+5+c.length:=by
 unfold st
 (rewrite [a6,a6,dG];try with_reducible rfl);rfl
def sD(h:i<a.length):(st a X P c)[i]? =a[i]? :=ar h
def rq:(st a X P c)[a.length+5+i]? =c[i]? :=by
 ext a c i X P;unfold st;rw[cQ (by lia),cQ (by show 5<=_;lia)];congr 1;show a.length+5+i - a.length - 5=i;lia
def PA.at(A:PA a X)(ok:Xg X.G P):At (st a X P c) a.length X P:=
 ⟨A.geo.app A.low _,A.low,oy,rS (i:=1) ⋯,rS (i:=2) ⋯,rS (i:=3) ⋯,rS (i:=4) ⋯,ok⟩
def E6{l:List Nat}(g:T[p]? =J (.list (l.map nv)))(hi:i<l.length)(hm:l.length<1000):pV (.ref p) (nv i) (nv m) T=J (T.set p (.list ((l.set i m).map nv))):=by
 rw[DE g (by rw[bj];exact hi) (by rw[bj];exact hm),lU]
def PO(ok:pH X.G P)(hi:i<X.G.size)(sz:X.G.size<=21):pV (.ref (a.length+1)) (nv i) (nv m) (st a X P c)=J (st a X {P with board:=P.board.set i m} c):=by
 rw[E6 (rS (i:=1) ⋯) (by rw[ok.bl];exact hi) (by rw[ok.bl];lia),A6 ⋯];rfl
def R8(ok:pH X.G P)(hi:i<7):pV (.ref (a.length+2)) (nv i) (nv m) (st a X P c)=J (st a X {P with aN:=P.aN.set i m} c):=by
 rw[E6 (rS (i:=2) ⋯) (by rw[ok.kl];exact hi) (by rw[ok.kl];decide),A6 ⋯];rfl
def Qy(ok:pH X.G P)(hi:i<2):pV (.ref (a.length+3)) (nv i) (nv m) (st a X P c)=J (st a X {P with aO:=P.aO.set i m} c):=by
 rw[E6 (rS (i:=3) ⋯) (by rw[ok.sl];exact hi) (by rw[ok.sl];decide),A6 ⋯];rfl
def sw(h:Ez n v [(14,.ref X.g),(15,.ref X.z),(16,.ref (a.length+1)),(17,.ref (a.length+2)),(18,.ref (a.length+3)),(19,nv P.au),(20,nv P.az),(21,.int (-1)),(22,nv P.aA),(3,nv P.av),(23,nv P.key),(24,.ref (a.length+4))]=fs)
  (h2:a++([O.inst 1 fs,.list (P.board.map nv),.list (P.aN.map nv),.list (P.aO.map nv),.list P.ay]++c)=st a X P' c):rR (.ref a.length) n v (st a X P c)=J (st a X P' c):=by
 rw[Ll oy (by show(12:Nat)<100;decide),h,<-h2];exact cF J (A6 (i:=0) ⋯)
def VP(A:PA a X)(B:db K ea e (st a X P c) (.ref a.length) (st a X P c))(C:db K eb e (st a X P c) (nv i) (st a X P c))(D:db K ec e (st a X P c) (nv s) (st a X P c))(hi:i<15)(hs:s<X.G.size):db K (.sub (.sub (.attr (.attr ea 15) 25) eb) ec) e (st a X P c) (nv (1 <<< (i*X.G.size+s))) (st a X P c):=by
 ext K e a c ea eb ec i s X P;obtain⟨h,aj⟩:=A.zob;obtain⟨z1,z2,z3⟩:=aj.low;have low:=A.low;have sz:=A.geo.ok.sz;have hr:i<h.row.length:=by rw[aj.rl];exact hi
 have hp:=aj.row i _ (a7 hr);have q:db K (.sub (.attr (.attr ea 15) 25) eb) e (st a X P c) (.ref h.row[i]) (st a X P c):=pd (oz 25 ((sD (cM z1 low)).trans aj.inst) (oz 15 oy B rfl) rfl) C (io ((sD (cM z2 low)).trans aj.rows)) (zw (a7 hr)) (cU hi ⋯);have z:=tO ((sD (cM hp.1 low)).trans hp.2) q D (by rw[bj,dn];exact hs) (by rw[bj,dn];lia);rw[ba,cV,fP hs] at z;exact z
end
abbrev Ps.putP(G:o7)(P:Ps)(pc s:Nat):Ps:={P with board:=P.board.set s pc,aN:=P.aN.set (pc &&& 7) (P.kd (pc &&& 7) ||| 1 <<< s),aO:=P.aO.set (pc >>> 3) (P.sd (pc >>> 3) ||| 1 <<< s),key:=P.key ^^^ 1 <<< (pc*G.size+s)}
abbrev Ps.takeP(G:o7)(P:Ps)(pc s:Nat):Ps:={P with board:=P.board.set s 0,aN:=P.aN.set (pc &&& 7) (P.kd (pc &&& 7) ^^^ 1 <<< s),aO:=P.aO.set (pc >>> 3) (P.sd (pc >>> 3) ^^^ 1 <<< s),key:=P.key ^^^ 1 <<< (pc*G.size+s)}
abbrev Ps.b6(G:o7)(P:Ps)(pc u v:Nat):Ps:={P with board:=(P.board.set u 0).set v pc,aN:=P.aN.set (pc &&& 7) (P.kd (pc &&& 7) ^^^ (1 <<< u ||| 1 <<< v)),aO:=P.aO.set (pc >>> 3) (P.sd (pc >>> 3) ^^^ (1 <<< u ||| 1 <<< v)),key:=P.key ^^^ (1 <<< (pc*G.size+u) ^^^ 1 <<< (pc*G.size+v))}
section
variable{K:pK}{e:nw}{a c T:H}{ea eb ec:E}{i j k n m p s:Nat}{v x:V}{X:uu}{P:Ps}{t:H}{r:Ss}{Q:QS}{o:Fh}
def Mi(ok:pH X.G P)(B:db K ea e (st a X P c) (.ref a.length) (st a X P c))(I:db K eb e (st a X P c) (nv j) (st a X P c))(hj:j<7)(A:db K ec e (st a X P c) (nv m) (st a X P c))(l:Cp o (nv (P.kd j)) (nv m) (st a X P c)=J (nv n,st a X P c))
  (R:oD K r e (st a X {P with aN:=P.aN.set j n} c) Q):oD K (.cons (.aug (.sub (.attr ea 17) eb) o ec) r) e (st a X P c) Q:=
 Rt (oz 17 oy B rfl) I (rS (i:=2) ⋯) (v9 (by rw[ok.kl];exact hj)) (cU hj ⋯) A l (R8 ok hj) R
def KK(ok:pH X.G P)(B:db K ea e (st a X P c) (.ref a.length) (st a X P c))(I:db K eb e (st a X P c) (nv j) (st a X P c))(hj:j<2)(A:db K ec e (st a X P c) (nv m) (st a X P c))(l:Cp o (nv (P.sd j)) (nv m) (st a X P c)=J (nv n,st a X P c))
  (R:oD K r e (st a X {P with aO:=P.aO.set j n} c) Q):oD K (.cons (.aug (.sub (.attr ea 18) eb) o ec) r) e (st a X P c) Q:=
 Rt (oz 18 oy B rfl) I (rS (i:=3) ⋯) (v9 (by rw[ok.sl];exact hj)) (cU hj ⋯) A l (Qy ok hj) R
def uI(B:db K ea e (st a X P c) (.ref a.length) (st a X P c))(A:db K ec e (st a X P c) (nv m) (st a X P c))(R:oD K r e (st a X {P with key:=P.key ^^^ m} c) Q):oD K (.cons (.aug (.attr ea 23) .bxor ec) r) e (st a X P c) Q:=
 GY B oy rfl A ER (sw (P':={P with key:=P.key ^^^ m}) rfl rfl) R
def HQ(ok:pH X.G P)(hi:i<X.G.size)(sz:X.G.size<=21)(B:db K ea e (st a X P c) (.ref a.length) (st a X P c))(I:db K eb e (st a X P c) (nv i) (st a X P c))(A:db K ec e (st a X P c) (nv m) (st a X P c))(R:oD K r e (st a X {P with board:=P.board.set i m} c) Q):oD K (.cons (.assign (.sub (.attr ea 16) eb) ec) r) e (st a X P c) Q:=
 uG A (oz 16 oy B rfl) I (PO ok hi sz) R
def CX(ok:pH X.G P)(hi:i<X.G.size)(sz:X.G.size<=21)(B:db K ea e (st a X P c) (.ref a.length) (st a X P c))(I:db K eb e (st a X P c) (nv i) (st a X P c)):db K (.sub (.attr ea 16) eb) e (st a X P c) (nv (P.board.getD i 0)) (st a X P c):=
 tO (rS (i:=1) ⋯) (oz 16 oy B rfl) I (by rw[ok.bl];exact hi) (by rw[ok.bl];lia)
end
section
variable{d:Nat}{a c:H}{X:uu}{P:Ps}
structure vb (pc:Nat):Prop where
 l:pc<15
 k:pc &&& 7<7
def vb.s(h:vb pc):pc >>> 3<2:=by
 have:=h.l;rw[dz];lia
def uY(A:PA a X)(ok:pH X.G P)(hp:vb pc)(hs:s<X.G.size):ii (K0 (d+2)) 307 [.ref a.length,nv pc,nv s] (st a X P c) .none (st a X (P.putP X.G pc s) c):=
 have sz:=A.geo.ok.sz
 mk (λQ=>JC rfl) λQ q hc=>bs (qo ac ∅ ⋯ (cO (dH hs) (cO sz ⋯))) (HQ ok hs sz ∅ ∅ ∅
  (Mi (P:={P with board:=P.board.set s pc}) ⟨by rw[<- ok.bl];exact cP,ok.kl,ok.sl⟩ ∅ (bi (lz rfl) (xM)) hp.k ∅ rW
  (KK (P:={P with board:=P.board.set s pc,aN:=P.aN.set (pc &&& 7) (P.kd (pc &&& 7) ||| 1 <<< s)}) ⟨by rw[<- ok.bl];exact cP,by rw[<- ok.kl];exact cP,ok.sl⟩ ∅ (bi (lz rfl) (xE)) hp.s ∅ rW
  (uI ∅ (VP A ∅ ∅ ∅ hp.l hs) (od (uV q))))))
def wk(A:PA a X)(ok:pH X.G P)(hp:vb (P.board.getD s 0))(hs:s<X.G.size):ii (K0 (d+2)) 314 [.ref a.length,nv s] (st a X P c) (nv (P.board.getD s 0)) (st a X (P.takeP X.G (P.board.getD s 0) s) c):=by
 ext d a c X P s;exact have sz:=A.geo.ok.sz
  mk (λQ=>Ih rfl) λQ q hc=>bs (CX ok hs sz ∅ ∅) (bs (qo ac ∅ ⋯ (cO (dH hs) (cO sz ⋯))) (HQ ok hs sz ∅ ∅ bv
   (Mi (P:={P with board:=P.board.set s 0}) ⟨by rw[<- ok.bl];exact cP,ok.kl,ok.sl⟩ ∅ (bi (lz rfl) (xM)) hp.k ∅ ER
   (KK (P:={P with board:=P.board.set s 0,aN:=P.aN.set (P.board.getD s 0 &&& 7) (P.kd (P.board.getD s 0 &&& 7) ^^^ 1 <<< s)}) ⟨by rw[<- ok.bl];exact cP,by rw[<- ok.kl];exact cP,ok.sl⟩ ∅ (bi (lz rfl) (xE)) hp.s ∅ ER
   (uI ∅ (VP A ∅ ∅ ∅ hp.l hs) (pf ∅ q))))))
def yk(A:PA a X)(ok:pH X.G P)(hp:vb (P.board.getD u 0))(hu:u<X.G.size)(hs:s<X.G.size):ii (K0 (d+2)) 321 [.ref a.length,nv u,nv s] (st a X P c) .none (st a X (P.b6 X.G (P.board.getD u 0) u s) c):=by
 ext d a c X P u s;exact have sz:=A.geo.ok.sz
  have low:=A.low
  mk (λQ=>Fr rfl) λQ q hc=>by
   obtain⟨h,aj⟩:=A.zob;obtain⟨z1,z2,z3⟩:=aj.low;have hr:P.board.getD u 0<h.row.length:=by rw[aj.rl];exact hp.l
   have hq:=aj.row _ _ (a7 hr);refine bs (CX ok hu sz ∅ ∅) (bs (qE (qo ac ∅ ⋯ (cO (dH hu) (cO sz ⋯))) (qo ac ∅ ⋯ (cO (dH hs) (cO sz ⋯)))) (HQ ok hu sz ∅ ∅ bv
    (HQ (P:={P with board:=P.board.set u 0}) ⟨by rw[<- ok.bl];exact cP,ok.kl,ok.sl⟩ hs sz ∅ ∅ ∅ (Mi (P:={P with board:=(P.board.set u 0).set s (P.board.getD u 0)}) ⟨by rw[<- ok.bl];exact cP.trans cP,ok.kl,ok.sl⟩ ∅ (bi (lz rfl) (xM)) hp.k ∅ ER
    (KK (P:={P with board:=(P.board.set u 0).set s (P.board.getD u 0),aN:=P.aN.set (P.board.getD u 0 &&& 7) (P.kd (P.board.getD u 0 &&& 7) ^^^ (1 <<< u ||| 1 <<< s))}) ⟨by rw[<- ok.bl];exact cP.trans cP,by rw[<- ok.kl];exact cP,ok.sl⟩ ∅ (bi (lz rfl) (xE)) hp.s ∅ ER ?_)))))
   have row:∀{K:pK} {e:nw} {P':Ps} {ea eb:E} {i:Nat},i<X.G.size->db K ea e (st a X P' c) (.ref h.row[P.board.getD u 0]) (st a X P' c)->db K eb e (st a X P' c) (nv i) (st a X P' c)->db K (.sub ea eb) e (st a X P' c) (nv (1 <<< (P.board.getD u 0*X.G.size+i))) (st a X P' c):=λ{K e P' ea eb i} hi C D=>by
    have z:=tO ((sD (cM hq.1 low)).trans hq.2) C D (by rw[bj,dn];exact hi) (by rw[bj,dn];lia);rw[ba,cV,fP hi] at z;exact z
   exact bs (pd (oz 25 ((sD (cM z1 low)).trans aj.inst) (oz 15 oy ∅ rfl) rfl) ∅ (io ((sD (cM z2 low)).trans aj.rows)) (zw (a7 hr)) (cU hp.l ⋯))
    (uI ∅ (y4 (row hu ∅ ∅) (row hs ∅ ∅)) (od (uV q)))
end
abbrev xw(G:o7)(P:Ps)(o g:Nat):Nat:=P.az - (P.az &&& (G.lost.getD o 0 ||| G.lost.getD g 0))
abbrev Ps.setR(G:o7)(P:Ps)(r:Nat):Ps:={P with az:=r,key:=P.key ^^^ (1 <<< (15*G.size+P.az) ^^^ 1 <<< (15*G.size+r))}
abbrev takeH(G:o7)(P:Ps)(t g:Nat):Ps:=if t≠0 then {P.takeP G t g with aA:=0} else P
abbrev qQ(G:o7)(P:Ps)(pc sp pr o g:Nat):Ps:=if sp=1 then(P.takeP G pc o).putP G pr g else P.b6 G pc o g
abbrev wA(P:Ps)(pc:Nat):Ps:=if pc &&& 7=1 then {P with aA:=0} else P
abbrev Gm(P:Ps)(sd:Nat):Ps:=if sd=1 then {P with av:=P.av+1} else P
abbrev Rk(G:o7)(P:Ps)(sd:Nat):Ps:={P with au:=1 - sd,key:=P.key ^^^ 1 <<< (15*G.size+16)}
abbrev PD(m:Nat):Nat:=(m >>> 12 &&& 3)+2
abbrev FV(P:Ps)(q:Nat):Ps:={P with ay:=P.ay++[.ref q],aA:=P.aA+1}
abbrev doP(G:o7)(P:Ps)(m q:Nat):Ps:=
 Rk G (Gm ((wA (qQ G (takeH G (FV P q) (P.board.getD (qv m) 0) (qv m)) (P.board.getD (qT m) 0) (uP m) (P.au*8+PD m) (qT m) (qv m)) (P.board.getD (qT m) 0)).setR G (xw G P (qT m) (qv m))) P.au) P.au
structure XE (G:o7) (P:Ps) (m:Nat):Prop where
 len:pH G P
 f:qT m<G.size
 t:qv m<G.size
 ne:qT m≠qv m
 pc:vb (P.board.getD (qT m) 0)
 own:P.board.getD (qT m) 0≠0/\P.board.getD (qT m) 0 >>> 3=P.au
 tk:P.board.getD (qv m) 0≠0->vb (P.board.getD (qv m) 0)
 sp:uP m=0\/uP m=1
 pr:uP m=1->vb (P.au*8+PD m)
 nd:P.board.getD (qT m) 0 &&& 7=1->(qv m:Int) - qT m≠2*G.files/\(qT m:Int) - qv m≠2*G.files
 rt:P.az<16
 hl:P.ay.length<900
 sd:P.au<2
section
variable{K:pK}{e:nw}{h h1 h2:H}{a c:H}{ea eb ec:E}{i j k n m p s:Nat}{v x:V}{xs:List V}{X:uu}{P:Ps}{t:Bool}{r sa sb:Ss}{Q:QS}{es:Es}
def BY(C:db K ec e h x h)(l:tr x=J t)(B:t=true->oD K r e h2 Q->oD K sa e h (se K r Q))(B2:t=false->h=h2)(R:oD K r e h2 Q):oD K (.cons (.ite ec sa .nil) r) e h Q:=
 lv C l (λe1=>B e1 R) λe1=>B2 e1▸R
def Rb(C:db K ec e h x h)(l:tr x=J t)(B:t=true->oD K r e h2 Q->oD K sa e h (se K r Q))(B2:t=false->oD K r e h2 Q->oD K sb e h (se K r Q))(R:oD K r e h2 Q):oD K (.cons (.ite ec sa sb) r) e h Q:=
 uw C l (λe1=>B e1 R) λe1=>B2 e1 R
def Hh(A:db K ea e h (nv n) h1)(B:oD K r e h1 Q):oD K (.cons (.expr ea) r) e h Q:=⟨A.go _ B.go⟩
def yW(A:db K eb e (st a X P c) v (st a X P c))(B:db K ea e (st a X P c) (.ref a.length) (st a X P c))(l:rR (.ref a.length) k v (st a X P c)=J (st a X P' c))(R:oD K r e (st a X P' c) Q):oD K (.cons (.assign (.attr ea k) eb) r) e (st a X P c) Q:=
 QG A B l R
def wc(A:Gb K es e (st a X P c) xs (st a X P c))(l:xs.length<=1000):db K (.tup es) e (st a X P c) (.ref (a.length+5+c.length)) (st a X P (c++[.tup xs])):=by
 have z:=sO A l;rw[rG,u6] at z;exact z
def Xv(A:db K ea e (st a X P c) (.ref a.length) (st a X P c))(B:db K eb e (st a X P c) v (st a X P c'))(l:P.ay.length<1000):db K (.append (.attr ea 24) eb) e (st a X P c) .none (st a X {P with ay:=P.ay++[v]} c'):=by
 have z:=vE (oz 24 oy A rfl) (rS (i:=4) ⋯) B (rS (i:=4) ⋯) l;rw[A6 ⋯] at z;exact z
def Zw(A:PA a X)(B:db K ea e (st a X P c) (.ref a.length) (st a X P c))(C:db K eb e (st a X P c) (nv i) (st a X P c))(hi:i<16):db K (.sub (.attr (.attr ea 15) 20) eb) e (st a X P c) (nv (1 <<< (15*X.G.size+i))) (st a X P c):=by
 ext K e a c ea eb i X P;obtain⟨h,aj⟩:=A.zob;obtain⟨z1,z2,z3⟩:=aj.low;have z:=tO ((sD (cM z3 A.low)).trans aj.az) (oz 20 ((sD (cM z1 A.low)).trans aj.inst) (oz 15 oy B rfl) rfl) C (by rw[bj,dn];exact hi) (by rw[bj,dn];decide);rw[ba,cV,fP hi] at z;exact z
def abe(A:PA a X)(B:db K ea e (st a X P c) (.ref a.length) (st a X P c)):db K (.attr (.attr ea 15) 19) e (st a X P c) (nv (1 <<< (15*X.G.size+16))) (st a X P c):=by
 obtain⟨h,aj⟩:=A.zob;obtain⟨z1,z2,z3⟩:=aj.low;exact oz 19 ((sD (cM z1 A.low)).trans aj.inst) (oz 15 oy B rfl) rfl
def PA.g(A:PA a X):pP (st a X P c) X.g X.gh X.G X.n:=A.geo.app A.low _
end
section
variable{d:Nat}{a c:H}{X:uu}{P:Ps}{m:Nat}
def Ey{K:pK}(B:db K ea e (st a X P c) (.ref a.length) (st a X P c)):db K (.attr ea 14) e (st a X P c) (.ref X.g) (st a X P c):=oz 14 oy B rfl
def Fk(A:PA a X)(M:XE X.G P m):ii (K0 (d+2)) 748 [.ref a.length,nv m] (st a X P c) (nv (P.board.getD (qT m) 0)) (st a X P c):=by
 ext d a c X P m;exact mk (λQ=>FB rfl) λQ q hc=>bs (v:=nv (qT m)) (bi (lz rfl) (uW)) (lv (sE (JM ∅ (oz 2 A.g.inst (Ey ∅) rfl)) (JM (n:=qv m) (bi (lz rfl) (vo)) (oz 2 A.g.inst (Ey ∅) rfl))) bm
   (λe1=>cG e1 (by have:=M.f;have:=M.t;simp;lia)) λw=>bs (CX M.len M.f A.geo.ok.sz ∅ ∅) (lv (sE (oM ∅ bv) (tI (bi (lz rfl) (xE)) (oz 19 oy ∅ rfl))) bm
   (λe1=>cG e1 (by have:=M.own;simp only[cT,cu,not_or];exact⟨this.1,λz=>z this.2⟩)) λw=>pf ∅ q))
def ww(h:uP m≠2):ii (K0 (d+2)) 755 [v,nv m] T (nv (qv m)) T:=
 mk (λQ=>CJ rfl) λQ q hc=>bs (v:=nv (qv m)) (bi (lz rfl) (vo)) (lv (tI (n:=uP m) (bi (lz rfl) (sT)) bv) bm (λw=>pM ∅ q) λe1=>cG h (cj e1))
def Ch(A:PA a X){sd o g:Nat}(h:(g:Int) - o≠2*X.G.files/\(o:Int) - g≠2*X.G.files):ii (K0 (d+1)) 769 [.ref a.length,nv sd,nv o,nv g] (st a X P c) (.int (-1)) (st a X P c):=
 have f7:=A.geo.ok.f7
 mk (λQ=>CC rfl) λQ q hc=>by
  have two:∀{K:pK} {e:nw},e[4]? =J (J (nv X.G.files))->db K (.bin .mul (.int 2) (.loc 4)) e (st a X P c) (nv (2*X.G.files)) (st a X P c):=λl=>r7 ac (r_loc l) ⋯ (by lia);have b1:((g:Int) - o != ((2*X.G.files:Nat):Int))=true:=by rw[bne_iff_ne];have:=h.1;lia
  have b2:((o:Int) - g != ((2*X.G.files:Nat):Int))=true:=by rw[bne_iff_ne];have:=h.2;lia
  exact bs (oz 0 A.g.inst (Ey ∅) rfl) (lv (sr (s:=true) (t:=true) (pB (x:=.int ((g:Int) - o)) (um ∅ ∅ rfl) (two rfl) (cF J b1)) (pB (x:=.int ((o:Int) - g)) (um ∅ ∅ rfl) (two rfl) (cF J b2))) bm
   (λw=>pM (Ah (k:=1) qF) q) λe1=>by cases e1)
def FN(A:PA a X)(ho:o<X.G.size)(hg:g<X.G.size):ii (K0 (d+1)) 776 [.ref a.length,nv o,nv g] (st a X P c) (nv (xw X.G P o g)) (st a X P c):=
 have ll:=A.geo.ok.ll
 have sz:=A.geo.ok.sz
 mk (λQ=>Fi rfl) λQ q hc=>bs (qE (tO A.g.lost (oz 13 A.g.inst (Ey ∅) rfl) ∅ (by rw[ll];exact ho) (by lia)) (tO A.g.lost (oz 13 A.g.inst (Ey ∅) rfl) ∅ (by rw[ll];exact hg) (by lia)))
  (pf (oH (oz 20 oy ∅ rfl) (nb (oz 20 oy ∅ rfl) ∅) dE) q)
def Ld:ii (K0 (d+1)) 783 [.ref a.length] (st a X P c) .none (st a X P c):=
 mk (λQ=>E4 rfl) λQ q hc=>lv (t:=false) (pB (oz 21 oy ∅ rfl) qF rfl) rfl (λe1=>by cases e1) λw=>od (uV q)
def QB:ii (K0 (d+1)) 790 [.ref a.length,.int (-1)] (st a X P c) .none (st a X P c):=
 mk (λQ=>GP rfl) λQ q hc=>lv (t:=false) (pB ∅ qF rfl) rfl (λe1=>by cases e1) λw=>yW (P':=P) ∅ ∅ (sw rfl rfl) (od (uV q))
def G8(A:PA a X)(h1:P.az<16)(h2:r<16):ii (K0 (d+1)) 797 [.ref a.length,nv r] (st a X P c) .none (st a X (P.setR X.G r) c):=
 mk (λQ=>A8 rfl) λQ q hc=>BY (tI ∅ (oz 20 oy ∅ rfl)) bm
  (λe1 R=>uI ∅ (y4 (Zw A ∅ (oz 20 oy ∅ rfl) h1) (Zw A ∅ ∅ h2)) (yW (P':=P.setR X.G r) ∅ ∅ (sw rfl rfl) (ld R)))
  (λe1=>by
   have:r=P.az:=cJ λt=>(cj e1) t;subst this;unfold Ps.setR;rw[jg,iJ]) (od (uV q))
end
def pH.take(h:pH G P)(pc s:Nat):pH G (P.takeP G pc s):=⟨cP.trans h.bl,cP.trans h.kl,cP.trans h.sl⟩
def pH.put(h:pH G P)(pc s:Nat):pH G (P.putP G pc s):=⟨cP.trans h.bl,cP.trans h.kl,cP.trans h.sl⟩
def pH.shift(h:pH G P)(pc u s:Nat):pH G (P.b6 G pc u s):=⟨cP.trans (cP.trans h.bl),cP.trans h.kl,cP.trans h.sl⟩
def pH.same(h:pH G P)(e1:P'.board=P.board)(e2:P'.aN=P.aN)(e3:P'.aO=P.aO):pH G P':=⟨e1▸h.bl,e2▸h.kl,e3▸h.sl⟩
def pH.takeH(h:pH G P)(t g:Nat):pH G (takeH G P t g):=by
 unfold Mine.Lake.takeH;split
 .exact(h.take t g).same rfl rfl rfl
 .exact h
def WI{l:List Nat}(h:i≠j):(l.set i x).getD j 0=l.getD j 0:=by
 rw[ba,eL h,<-ba]
abbrev D5:O:=.tup [.int (-1),.int (-1)]
abbrev Lm(P:Ps)(m:Nat):O:=.tup [nv m,nv (P.board.getD (qv m) 0),nv P.az,.int (-1),nv P.aA,nv P.key]
section
variable{K:pK}{e:nw}{a c:H}{ea eb ec:E}{k n:Nat}{X:uu}{P:Ps}{r:Ss}{Q:QS}
def Ow(A:db K ea e (st a X P c) (.ref a.length) (st a X P c))(B:db K eb e (st a X P c) (nv n) (st a X P c))(R:oD K r e (st a X {P with aA:=P.aA+n} c) Q):oD K (.cons (.aug (.attr ea 22) .add eb) r) e (st a X P c) Q:=
 GY A oy rfl B BP (sw (P':={P with aA:=P.aA+n}) rfl rfl) R
def N4(A:db K ea e (st a X P c) (.ref a.length) (st a X P c))(B:db K eb e (st a X P c) (nv n) (st a X P c))(R:oD K r e (st a X {P with av:=P.av+n} c) Q):oD K (.cons (.aug (.attr ea 3) .add eb) r) e (st a X P c) Q:=
 GY A oy rfl B BP (sw (P':={P with av:=P.av+n}) rfl rfl) R
def HJ(A:db K ea e (st a X P c) (.ref a.length) (st a X P c))(B:db K eb e (st a X P c) (nv n) (st a X P c))(R:oD K r e (st a X {P with aA:=n} c) Q):oD K (.cons (.assign (.attr ea 22) eb) r) e (st a X P c) Q:=
 yW (P':={P with aA:=n}) B A (sw rfl rfl) R
def LL(A:db K ea e (st a X P c) (.ref a.length) (st a X P c))(B:db K eb e (st a X P c) (nv n) (st a X P c))(R:oD K r e (st a X {P with au:=n} c) Q):oD K (.cons (.assign (.attr ea 19) eb) r) e (st a X P c) Q:=
 yW (P':={P with au:=n}) B A (sw rfl rfl) R
end
section
variable{d:Nat}{a c:H}{X:uu}{P:Ps}{m:Nat}
def Oi(A:PA a X)(M:XE X.G P m):ii (K0 (d+3)) 804 [.ref a.length,nv m] (st a X P c) .none (st a X (doP X.G P m (a.length+5+(c++[D5]).length)) (c++[D5]++[Lm P m])):=by
 ext d a c X P m;exact mk (λQ=>OL rfl) λQ q hc=>by
   have hf:=M.f;have ht:=M.t;have own:=M.own;have tk:=M.tk;have sd:=M.sd;have nd:=M.nd;have pcb:(takeH X.G (FV P (a.length+5+(c++[D5]).length)) (P.board.getD (qv m) 0) (qv m)).board.getD (qT m) 0=P.board.getD (qT m) 0:=by
    unfold takeH;split
    .exact WI (dQ M.ne)
    .rfl
   refine bs (bi (lc rfl (lz rfl)) (Fk A M)) (bs (oz 19 oy ∅ rfl) (bs (v:=nv (qT m)) (bi (lz rfl) (uW)) (bs (v:=nv (qv m)) (bi (lz rfl) (vo)) (bs (v:=nv (uP m)) (bi (lz rfl) (sT))
    (bs (h1:=st a X P (c++[D5])) (wc (be (Ah (k:=1) qF) (be (Ah (k:=1) qF) f8)) (by show(2:Nat)<=1000;decide)) (lv (oM ∅ bv) bm (λe1=>cG (b9 e1) (by rcases M.sp with h | h<;>rw[h]<;>decide)) λw=>?_))))))
   refine bs (bi (lc rfl (lz rfl)) (ww (by rcases M.sp with h | h<;>rw[h]<;>decide))) (bs (CX M.len ht A.geo.ok.sz ∅ ∅) ?_);refine oJ (Xv ∅ (wc (lc rfl (lc rfl (be (oz 20 oy ∅ rfl) (be (oz 21 oy ∅ rfl) (be (oz 22 oy ∅ rfl) (be (oz 23 oy ∅ rfl) f8)))))) (by show(6:Nat)<=1000;decide)) (cU M.hl ⋯)) ?_;refine oJ (bi (lz rfl) (Ld)) (Ow ∅ ac ?_);generalize a.length+5+(c++[D5]).length=qa at*;have L1:pH X.G (FV P qa):=M.len.same rfl rfl rfl;refine BY (h2:=st a X (takeH X.G (FV P qa) (P.board.getD (qv m) 0) (qv m)) (c++[D5]++[Lm P m])) (tI ∅ bv) bm (λe1 R=>?_) (λe1=>?_) ?_
   .have e1:=b9 e1;have:=wk (d:=d) (c:=c++[D5]++[Lm P m]) A L1 (tk e1) ht;unfold takeH at R;rw[cC e1] at R;exact Hh (bi (lc rfl (lz rfl)) this) (HJ ∅ ac (ld R))
   .unfold takeH;rw[cD (cj e1)];rfl
   have L2:=L1.takeH (P.board.getD (qv m) 0) (qv m);have hd:doP X.G P m qa=Rk X.G (Gm ((wA (qQ X.G (takeH X.G (FV P qa) (P.board.getD (qv m) 0) (qv m)) (P.board.getD (qT m) 0) (uP m) (P.au*8+PD m) (qT m) (qv m)) (P.board.getD (qT m) 0)).setR X.G (xw X.G P (qT m) (qv m))) P.au) P.au:=rfl;have kr:xw X.G P (qT m) (qv m)=xw X.G (takeH X.G (FV P qa) (P.board.getD (qv m) 0) (qv m)) (qT m) (qv m):=by
    unfold takeH;split<;>rfl
   have rt:(takeH X.G (FV P qa) (P.board.getD (qv m) 0) (qv m)).az=P.az:=by
    unfold takeH;split<;>rfl
   rw[hd,kr] at q;have rt':=M.rt;rw[<- rt] at rt';generalize takeH X.G (FV P qa) (P.board.getD (qv m) 0) (qv m)=P2 at*;clear hd kr rt;obtain⟨cc,hcc⟩:=(⟨_,rfl⟩:∃cc,cc=c++[D5]++[Lm P m])
   rw[<- hcc] at q ⊢;have pcok:vb (P2.board.getD (qT m) 0):=by rw[pcb];exact M.pc
   refine Rb (h2:=st a X (qQ X.G P2 (P.board.getD (qT m) 0) (uP m) (P.au*8+PD m) (qT m) (qv m)) cc) (oM ∅ bv) bm (λe1 R=>?_) (λe1 R=>?_) ?_
   .have e1:=b9 e1;have k1:=wk (d:=d) (c:=cc) A L2 pcok hf;unfold qQ at R;rw[cC e1] at R;rw[pcb] at k1;exact Hh (bi (lc rfl (lz rfl)) k1) (oJ (bi (lc rfl (be (bi (lc rfl (be (bi (v:=nv (PD m)) (lz rfl) (G0 e1)) f8)) (za (by lia))) (lz rfl))) (uY A (L2.take _ _) (M.pr e1) ht)) (ld R))
   .have e1:=cj e1;have k1:=yk (d:=d) (c:=cc) A L2 pcok hf ht;unfold qQ at R;rw[cD e1] at R;rw[pcb] at k1;exact oJ (bi (lc rfl (lc rfl (lz rfl))) k1) (ld R)
   have kr:xw X.G P2 (qT m) (qv m)=xw X.G (wA (qQ X.G P2 (P.board.getD (qT m) 0) (uP m) (P.au*8+PD m) (qT m) (qv m)) (P.board.getD (qT m) 0)) (qT m) (qv m):=by
    unfold wA qQ;split<;>split<;>rfl
   have rt2:(wA (qQ X.G P2 (P.board.getD (qT m) 0) (uP m) (P.au*8+PD m) (qT m) (qv m)) (P.board.getD (qT m) 0)).az=P2.az:=by
    unfold wA qQ;split<;>split<;>rfl
   rw[kr] at q;rw[<- rt2] at rt';clear kr rt2;generalize qQ X.G P2 (P.board.getD (qT m) 0) (uP m) (P.au*8+PD m) (qT m) (qv m)=P3 at*;refine lv (oM ∅ bv) bm (λe1=>cG (b9 e1) (by rcases M.sp with h | h<;>rw[h]<;>decide)) λw=>?_;refine BY (h2:=st a X (wA P3 (P.board.getD (qT m) 0)) cc) (oM (bi (lz rfl) (xM)) bv) bm (λe1 R=>?_) (λe1=>?_) ?_
   .have e1:=b9 e1;unfold wA at R;rw[cC e1] at R;exact HJ ∅ ac (oJ (bi (lc rfl (be (bi (lc rfl (lc rfl (lc rfl (lz rfl)))) (Ch A (nd e1))) f8)) (QB)) (ld R))
   .unfold wA;rw[cD (cj e1)]
   generalize wA P3 (P.board.getD (qT m) 0)=P4 at*;refine oJ (bi (lc rfl (be (bi (lc rfl (lc rfl (lz rfl))) (FN A hf ht)) f8)) (G8 A rt' (ae (eJ _ _) rt'))) ?_;generalize P4.setR X.G (xw X.G P4 (qT m) (qv m))=P5 at*;refine BY (h2:=st a X (Gm P5 P.au) cc) (oM ∅ bv) bm (λe1 R=>?_) (λe1=>?_) (LL ∅ (oH ac ∅ (dh sd)) (uI ∅ (abe A ∅) (od (uV q))))
   .unfold Gm at R;rw[cC (b9 e1)] at R;exact N4 ∅ ac (ld R)
   .unfold Gm;rw[cD (cj e1)]
end
abbrev EC(P:Ps)(sd:Nat):Ps:=if sd=1 then {P with av:=P.av - 1} else P
abbrev FW(G:o7)(P:Ps)(t g:Nat):Ps:=if t≠0 then P.putP G t g else P
abbrev Dq(P:Ps)(hs:List V):Ps:={P with ay:=hs,au:=1 - P.au}
abbrev unP(G:o7)(P:Ps)(hs:List V)(m tk rt hf ky:Nat):Ps:=
 {EC (FW G (qQ G (Dq P hs) (P.board.getD (qv m) 0) (uP m) ((1 - P.au)*8+1) (qv m) (qT m)) tk (qv m)) (1 - P.au) with az:=rt,aA:=hf,key:=ky}
structure Z2 (G:o7) (P:Ps) (m tk:Nat):Prop where
 len:pH G P
 f:qT m<G.size
 t:qv m<G.size
 pc:vb (P.board.getD (qv m) 0)
 tk:tk≠0->vb tk
 sp:uP m=0\/uP m=1
 hl:P.ay.length<900
 sd:P.au<2
 fu:1<=P.av
section
variable{K:pK}{e:nw}{a c:H}{ea eb ec:E}{k n:Nat}{v:V}{X:uu}{P:Ps}{r:Ss}{Q:QS}{hs:List V}
def YQ(A:db K ea e (st a X P c) (.ref a.length) (st a X P c))(h:P.ay=hs++[v])(l:P.ay.length<900):db K (.pop (.attr ea 24)) e (st a X P c) v (st a X {P with ay:=hs} c):=
 have B:db K (.attr ea 24) e (st a X P c) (.ref (a.length+4)) (st a X P c):=oz 24 oy A rfl
 ⟨λQ q=>B.go _ (by
  have e1:(st a X P c)[a.length+4]? =J (.list P.ay):=rS (i:=4) ⋯;have e2:P.ay.length<=1000:=by lia
  rw[L7 (v:=v) e1 (by rw[h,hE];rfl) e2,A6 ⋯,show P.ay.dropLast=hs by rw[h,iW]];exact q)⟩
def Oc(A:db K ea e (st a X P c) (.ref a.length) (st a X P c))(B:db K eb e (st a X P c) (nv n) (st a X P c))(l:n<=P.av)(R:oD K r e (st a X {P with av:=P.av - n} c) Q):oD K (.cons (.aug (.attr ea 3) .sub eb) r) e (st a X P c) Q:=
 GY A oy rfl B (Z3 l) (sw (P':={P with av:=P.av - n}) rfl rfl) R
def J8(A:db K ea e (st a X P c) (.ref a.length) (st a X P c))(B:db K eb e (st a X P c) (nv n) (st a X P c))(R:oD K r e (st a X {P with az:=n} c) Q):oD K (.cons (.assign (.attr ea 20) eb) r) e (st a X P c) Q:=
 yW (P':={P with az:=n}) B A (sw rfl rfl) R
def Y1(A:db K ea e (st a X P c) (.ref a.length) (st a X P c))(B:db K eb e (st a X P c) (nv n) (st a X P c))(R:oD K r e (st a X {P with key:=n} c) Q):oD K (.cons (.assign (.attr ea 23) eb) r) e (st a X P c) Q:=
 yW (P':={P with key:=n}) B A (sw rfl rfl) R
end
section
variable{d:Nat}{a c:H}{X:uu}{P:Ps}{m:Nat}
def pc8(h:s<2):vb (s*8+1):=by
 rcases (u2 (by assumption:s<2)) with h | h<;>subst h<;>exact⟨by decide,by decide⟩
def Iw{tk rt hf ky q0:Nat}{hs:List V}(A:PA a X)(M:Z2 X.G P m tk)(hh:P.ay=hs++[.ref q0])(hq:(st a X P c)[q0]? =J (.tup [nv m,nv tk,nv rt,.int (-1),nv hf,nv ky]))(h4:q0<a.length\/a.length+5<=q0):
  ii (K0 (d+3)) 811 [.ref a.length] (st a X P c) .none (st a X (unP X.G P hs m tk rt hf ky) c):=by
 ext d a c X P m tk rt hf ky q0 hs;exact mk (λQ=>IQ rfl) λQ q hc=>by
   have mf:=M.f;have mt:=M.t;have sd:=M.sd;have hl:=M.hl;have c0:0<P.ay.length:=by rw[hh,a6];exact fF _
   refine lv (oM (tV (oz 24 oy ∅ rfl) (io (rS (i:=4) ⋯)) (by lia)) ac) bm (λe1=>cG (b9 e1) (fc c0)) λw=>?_;have hq':(st a X {P with ay:=hs} c)[q0]? =J (.tup [nv m,nv tk,nv rt,.int (-1),nv hf,nv ky]):=by
    rcases h4 with h | h
    .rw[sD h] at hq ⊢;exact hq
    .rw[show q0=a.length+5+(q0 - (a.length+5)) by lia,rq] at hq ⊢;exact hq
   refine zh (vs:=[nv m,nv tk,nv rt,.int (-1),nv hf,nv ky]) (YQ ∅ hh hl) hq' rfl (bs (oH ac (oz 19 oy ∅ rfl) (dh sd)) (LL ∅ ∅ ?_));refine bs (v:=nv (qT m)) (bi (lz rfl) (uW)) (bs (v:=nv (qv m)) (bi (lz rfl) (vo)) (bs (v:=nv (uP m)) (bi (lz rfl) (sT)) ?_));have hd:unP X.G P hs m tk rt hf ky={EC (FW X.G (qQ X.G (Dq P hs) (P.board.getD (qv m) 0) (uP m) ((1 - P.au)*8+1) (qv m) (qT m)) tk (qv m)) (1 - P.au) with az:=rt,aA:=hf,key:=ky}:=rfl;rw[hd] at q;clear hd;have fu:(FW X.G (qQ X.G (Dq P hs) (P.board.getD (qv m) 0) (uP m) ((1 - P.au)*8+1) (qv m) (qT m)) tk (qv m)).av=P.av:=by
    unfold FW qQ;split<;>split<;>rfl
   have L1:pH X.G (Dq P hs):=M.len.same rfl rfl rfl;have L2:pH X.G (qQ X.G (Dq P hs) (P.board.getD (qv m) 0) (uP m) ((1 - P.au)*8+1) (qv m) (qT m)):=by
    unfold qQ;split
    .exact(L1.take _ _).put _ _
    .exact L1.shift _ _ _
   refine Rb (h2:=st a X (qQ X.G (Dq P hs) (P.board.getD (qv m) 0) (uP m) ((1 - P.au)*8+1) (qv m) (qT m)) c) (oM ∅ bv) bm (λe1 R=>?_) (λe1 R=>?_) ?_
   .have e1:=b9 e1;unfold qQ at R;rw[cC e1] at R;exact Hh (bi (lc rfl (lz rfl)) (wk (P:=Dq P hs) A L1 M.pc mt)) (oJ (bi (lc rfl (be (bi (lc rfl (be bv f8)) (za (by show 1 - P.au<1000;lia))) (lz rfl))) (uY A (L1.take _ _) (pc8 (c2 _)) mf)) (ld R))
   .have e1:=cj e1;unfold qQ at R;rw[cD e1] at R;exact oJ (bi (lc rfl (lc rfl (lz rfl))) (yk (P:=Dq P hs) A L1 M.pc mt mf)) (ld R)
   generalize qQ X.G (Dq P hs) (P.board.getD (qv m) 0) (uP m) ((1 - P.au)*8+1) (qv m) (qT m)=P2 at*;refine lv (oM ∅ bv) bm (λe1=>cG (b9 e1) (by rcases M.sp with h | h<;>rw[h]<;>decide)) λw=>?_;refine BY (h2:=st a X (FW X.G P2 tk (qv m)) c) (tI ∅ bv) bm (λe1 R=>?_) (λe1=>?_) ?_
   .have e1:=b9 e1;unfold FW at R;rw[cC e1] at R;exact oJ (bi (lc rfl (lc rfl (be (bi (lc rfl (lz rfl)) (ww (by rcases M.sp with h | h<;>rw[h]<;>decide))) f8))) (uY A L2 (M.tk e1) mt)) (ld R)
   .unfold FW;rw[cD (cj e1)]
   generalize FW X.G P2 tk (qv m)=P3 at*;refine BY (h2:=st a X (EC P3 (1 - P.au)) c) (oM ∅ bv) bm (λe1 R=>?_) (λe1=>?_) (J8 ∅ ∅ (yW (P':={EC P3 (1 - P.au) with az:=rt}) ∅ ∅ (sw rfl rfl) (HJ ∅ ∅ (Y1 ∅ ∅ (od (uV q))))))
   .unfold EC at R;rw[cC (b9 e1)] at R;exact Oc ∅ ac (by rw[fu];exact M.fu) (ld R)
   .unfold EC;rw[cD (cj e1)]
end
abbrev XN(F R:Nat)(f r:Int):Bool:=decide (0<=f)&&decide (f<F)&&(decide (0<=r)&&decide (r<R))
abbrev Tu(F R:Nat)(o u:Int):Nat->Int->Int->List Nat
 | 0,_,_=>[]
 | n+1,f,r=>if XN F R f r=true then(r.toNat*F+f.toNat)::Tu F R o u n (f+o) (r+u) else[]
abbrev adq(F R:Nat)(o u:Int):Nat->Int->Int->Bool
 | 0,f,r=> !XN F R f r
 | n+1,f,r=> !XN F R f r||adq F R o u n (f+o) (r+u)
abbrev wN(F R s:Nat)(w:Int × Int):List Nat:=Tu F R w.1 w.2 8 ((s%F:Nat)+w.1) ((s/F:Nat)+w.2)
abbrev pz(p:Nat->Bool):List Nat->List Nat
 | []=>[]
 | s::l=>s::if p s=true then[] else pz p l
abbrev om:List (Int × Int):=[(0,1),(1,0),(0,-1),(-1,0),(1,1),(1,-1),(-1,-1),(-1,1)]
abbrev tW:List (Int × Int):=[(1,2),(2,1),(2,-1),(1,-2),(-1,-2),(-2,-1),(-2,1),(-1,2)]
abbrev rM(sd:Nat):List (Int × Int):=[(1,1 - ((sd*2:Nat):Int)),(-1,1 - ((sd*2:Nat):Int))]
abbrev pE(k sd:Nat):List (Int × Int):=if k=1 then rM sd else if k=2 then tW else if k=3 then om.drop 4 else if k=4 then om.take 4 else om
abbrev zg(k:Nat):Bool:=decide (k=1)||(decide (k=2)||decide (k=6))
abbrev xj(aS:List Nat)(k:Nat)(s:Nat):Bool:=decide (aS.getD s 0≠0)||zg k
abbrev xZ(F R:Nat)(aS:List Nat)(k sd s:Nat):List Nat:=(pE k sd).flatMap λw=>pz (xj aS k) (wN F R s w)
abbrev q7(F R:Nat)(aS:List Nat)(s:Nat):List Nat:=xZ F R aS (aS.getD s 0%8) (aS.getD s 0/8) s
abbrev Vi:List (List (Int × Int)):=[rM 0,rM 1,tW,om.drop 4,om.take 4,om]
def IW(h:sd<2):pE k sd∈Vi:=by
 unfold pE;rcases (u2 (by assumption:sd<2)) with h | h<;>subst h<;>(repeat' split)<;>simp [Vi]
structure Bd (F R:Nat):Prop where
 f:3<=F/\F<=7
 r:3<=R/\R<=4
 sz:F*R<=21
 adq:(cn (F*R)).all (λs=>Vi.all λws=>ws.all λw=>adq F R w.1 w.2 8 ((s%F:Nat)+w.1) ((s/F:Nat)+w.2))=true
 len:(cn (F*R)).all (λs=>Vi.all λws=>decide ((ws.map λw=>(wN F R s w).length).sum<=24))=true
def Za:Bd 3 4:=⟨by decide,by decide,by decide,by decide +kernel,by decide +kernel⟩
def YW:Bd 7 3:=⟨by decide,by decide,by decide,by decide +kernel,by decide +kernel⟩
def Bd.adq_(b:Bd F R)(hs:s<F*R)(h:sd<2)(hw:w∈pE k sd):Mine.Lake.adq F R w.1 w.2 8 ((s%F:Nat)+w.1) ((s/F:Nat)+w.2)=true:=
 cK.mp (cK.mp (cK.mp b.adq s (cL.mpr hs)) _ (IW h)) _ hw
def IO(p:Nat->Bool):∀l:List Nat,(pz p l).length<=l.length
 | []=>cX _
 | s::l=>by
  have:=IO p l;unfold pz;split
  .exact jO (dF _)
  .exact jO this
def Bd.hits_len{s k sd:Nat}(b:Bd F R)(hs:s<F*R)(h:sd<2)(aS:List Nat):(xZ F R aS k sd s).length<=24:=by
 revert aS;ext s k sd;have z:=b9 (cK.mp (cK.mp b.len s (cL.mpr hs)) _ (IW (k:=k) h));refine cO ?_ z;unfold xZ
 induction pE k sd with
 | nil=>exact cX _
 | cons w l ih=>
  rw[iI,a6,dw,fH];have:=IO (xj aS k) (wN F R s w);lia
section
variable{K:pK}{e:nw}{h h1 h2 h3 t:H}{a b c:E}{i j n m p:Nat}{v x y z:V}{Q:QS}{r:Ss}{sa sb:Ss}{xs:List V}{G:V->H->Prop}{o:O}{o1 o2:Kk}{b1 b2:Bool}
def Ie(g:tR K h v=J o):tR K (h++t) v=J o:=by
 cases v with
 | ref a=>exact(ar (f0 g)).trans g
 | con a=>exact g
 | _=>exact g
def NQ(A:db K a e h v (h3++t))(hv:v= .ref (h3.length+i))(hk:t[i]? =J o)(ho:ZZ h3.length o)(hc:oY h3.length h3)(q:G (.ref h3.length) (h3++[o]))(aj:∀e h,qN h3.length G (.ret v) e h->Q (.ret v) e h):oD K (.cons (.ret a) r) e h Q:=
 ⟨A.go _ (aj _ _ (.inr (.inr ⟨h3,t,i,o,rfl,hv,hk,ho,cX _,hc,q⟩)))⟩
def zk{l:List Nat}:ZZ n (.list (l.map nv)):=λx hx=>by
 obtain⟨y,_,rfl⟩:=d7.mp hx;trivial
def Hf{t:af}(M:K.aV)(A:db K it e h v h1)(g:tR K h1 v=J (.list xs))(I:Nat->nw->H->Prop)(z:I 0 e h1)(keep:∀j e h,I j e h->tR K h v=J (.list xs))(tk:J4 t .list=true)(step:∀j v,xs[j]? =J v->∀e h,I j e h->tL K t v e h λe h=>uO K sa e h (oZ (I (j+1)) (se K r Q)))(done:∀e h,I xs.length e h->oD K r e h Q):oD K (.cons (.each t it sa) r) e h Q:=
 Dn (k:=.list) M A (by simp [Fg,g]) tk xs.length I z
  (λj hj e h z=>⟨xs[j],by simp [oB,keep j e h z,hj],step j _ (a7 hj) e h z⟩)
  λe h z=>⟨by simp [oB,keep _ e h z],done e h z⟩
def L8(A:db K a e h x h)(B:db K b e h y h)(C:db K c e h z h)(l:s7 K o1 x y h=J b1)(l2:s7 K o2 y z h=J b2):db K (.bU a o1 b o2 c) e h (.bool (b1&&b2)) h:=⟨λQ q=>A.go _ (B.go _ (by
 rw[l];show wL _ _ _;refine⟨λe1=>C.go _ (by rw[l2];rw[e1,eQ] at q;exact q),λe1=>by rw[e1] at q;exact q⟩))⟩
def vZ(A:db K a e h x h)(B:db K b e h y h)(C:db K c e h z h)(l:xL K x y z h=J (v,h2)):db K (.slice a b c) e h v h2:=⟨λQ q=>A.go _ (B.go _ (C.go _ (by rw[l];exact q)))⟩
def ux:∀{l:List Nat},z8 h (nv g) (l.map nv)=J (decide (g∈l))
 | []=>rfl
 | y::l=>by
  rw[dw,z8,ux (l:=l)];have:u8 4 h (nv y) (nv g)=J (decide (y=g)):=by
   show J ((y:Int) == (g:Int))=_;congr 1;rw[da];simp;lia
  rw[this];show J _=J _;congr 1;rw[da];simp [eq_comm (a:=y)]
def SD(R:oD K r2 e h Q):oD K (.cons .brk r) e h (se K r1 (oZ I (se K r2 Q))):=⟨R.go⟩
end
def Qm{K:pK}(B:db K a e (A++(.list (l.map nv)::t)) (.ref A.length) (A++(.list (l.map nv)::t)))(C:db K b e (A++(.list (l.map nv)::t)) (nv m) (A++(.list (l.map nv)::t)))(hl:l.length<1000):
  db K (.append a b) e (A++(.list (l.map nv)::t)) .none (A++(.list ((l++[m]).map nv)::t)):=by
 have g:(A++(O.list (l.map nv)::t))[A.length]? =J (.list (l.map nv)):=by simp
 have z:=vE B g C g (by rw[bj];exact hl);have e1:(A++(O.list (l.map nv)::t)).set A.length (.list (l.map nv++[nv m]))=A++(.list ((l++[m]).map nv)::t):=by
  rw[ew _ _ (cX _),eD,iy,dO];rfl
 rw[e1] at z;exact z
def OP{K:pK}(g:tR K h v=J (.tup vs))(l:vs.length=is.length)(q:Q (Bq is vs e) h):tL K (.tup is) v e h Q:=by
 unfold tL;dsimp only;rw[g];exact⟨l,q⟩
abbrev KB(K:pK)(h:H)(v:V)(ws:List (Int × Int)):Prop:=∃xs,tR K h v=J (.list xs)/\xs.length=ws.length/\∀(i:Nat) (x:V),xs[i]? =J x->∃w,ws[i]? =J w/\tR K h x=J (.tup [.int w.1,.int w.2])
abbrev Zl:Ss:=match Ec.body with
 | .cons _ (.cons _ (.cons _ r))=>r
 | _=>.nil
def Dy{f:α->List Nat}{l:List α}{j:Nat}(hj:j<l.length):(l.take (j+1)).flatMap f=(l.take j).flatMap f++f l[j]:=by
 rw[dK hj,ie];simp
def HU{f:α->List Nat}{l:List α}{j:Nat}:((l.take j).flatMap f).length<=(l.flatMap f).length:=by
 have e:l.flatMap f=(l.take j).flatMap f++(l.drop j).flatMap f:=by rw[<- ie,gR]
 rw[e,a6];exact de _ _
section
variable{d:Nat}{Q:V->H->Prop}{T wh:H}{s k cp:Nat}{aS:List Nat}
def Pg(bd:Bd F R)(hs:s<F*R)(aX:sd<2)(L:T[cp]? =J (.list (aS.map nv)))(hl:aS.length=F*R)(W:KB (K0 d) (T++wh) wv (pE k sd))(hc:oY T.length T)(q:Q (.ref T.length) (T++[.list ((xZ F R aS k sd s).map nv)])):oD (K0 d) Zl [J (nv F),J (nv R),J (.ref cp),J (nv s),J (nv k),J wv,x6,U,U,U,U,U,U,U] (T++wh) (qN T.length Q):=by
 ext d Q T wh s k cp aS sd wv x6;have hF:=bd.f;have hR:=bd.r;have hsz:=bd.sz;have hcp:=f0 L;refine bc λkk=>?_;obtain⟨xs,w1,w2,w3⟩:=W;refine kk ?_;clear kk;have hb:=bd.hits_len (k:=k) hs aX aS;have F0:0<F:=by lia
 refine bs (qe (xs:=[]) f8 (dF _)) (Hf (lw _) (v:=wv) ∅ (Ie w1)
  (λj e h=>∃jk,(T++wh)++(.list ((((pE k sd).take j).flatMap λw=>pz (xj aS k) (wN F R s w)).map nv)::jk)=h/\∃x6 x8 x9 bY,e=[J (nv F),J (nv R),J (.ref cp),J (nv s),J (nv k),J wv,x6,J (.ref (T++wh).length),x8,x9,bY,U,U,U])
  ⟨[],rfl,x6,U,U,U,rfl⟩ (λj e h z=>by obtain⟨jk,rfl,_⟩:=z;exact Ie w1) rfl (λj v hv e h z=>?_) λe h z=>?_)
 .refine bc λkk=>?_;obtain⟨jk,rfl,x6,x8,x9,bY,rfl⟩:=z;obtain⟨wy,g1,g2⟩:=w3 j v hv;obtain⟨hj,rfl⟩:=fZ.mp g1;have ad:=bd.adq_ hs aX (dk hj);obtain⟨fd,hfd⟩:=(⟨_,rfl⟩:∃fd,fd=((pE k sd).take j).flatMap λw=>pz (xj aS k) (wN F R s w))
  refine kk ?_;clear kk;have hb2:(fd++pz (xj aS k) (wN F R s (pE k sd)[j])).length<=24:=by
   rw[hfd,<-Dy (f:=λw=>pz (xj aS k) (wN F R s w)) hj];exact cO HU hb
  rw[Dy hj,<-hfd];have L':∀{l:H},((T++wh)++l)[cp]? =J (.list (aS.map nv)):=λ{l}=>by rw[aa,ar hcp];exact L
  refine OP (Ie g2) rfl ?_;refine(bs (v:=.int ((s%F:Nat)+(pE k sd)[j].1)) (um (wF ∅ ∅ F0) ∅ rfl) (bs (v:=.int ((s/F:Nat)+(pE k sd)[j].2)) (um (sA ∅ ∅ F0 (by lia)) ∅ rfl) ?_)).go;generalize hwj:(pE k sd)[j]=wj at*;refine DT (lw _) 8 (λm e h=>∃f r g jk,adq F R wj.1 wj.2 m f r=true/\g++pz (xj aS k) (Tu F R wj.1 wj.2 m f r)=fd++pz (xj aS k) (wN F R s wj)/\
   (T++wh)++(.list (g.map nv)::jk)=h/\e=[J (nv F),J (nv R),J (.ref cp),J (nv s),J (nv k),J wv,J (.int wj.2),J (.ref (T++wh).length),J (.int wj.1),J (.int f),J (.int r),U,U,U])
   ⟨_,_,fd,jk,ad,rfl,rfl,rfl⟩ λm e h z=>?_
  refine bc λkk=>?_;obtain⟨f,r,g,jk,ha,hg,rfl,rfl⟩:=z;refine kk ?_;clear kk;refine⟨_,_,XN F R f r,sr (s:=decide (0<=f)&&decide (f<F)) (t:=decide (0<=r)&&decide (r<R)) (L8 qF ∅ ∅ rfl rfl) (L8 qF ∅ ∅ rfl rfl),rfl,λe1=>?_,λe1=>?_⟩
  .cases m with
   | zero=>unfold adq at ha;rw[e1] at ha;cases ha
   | succ m=>
    unfold adq at ha;unfold Tu at hg;rw[e1,jE,fq] at ha;rw[cC e1] at hg;have e2:=e1;unfold XN at e2;simp only[ax,cu] at e2;refine bc λkk=>?_;obtain⟨⟨i1,i2⟩,i3,i4⟩:=e2;obtain⟨fn,rfl⟩:=iB i1;obtain⟨rn,rfl⟩:=iB i3;refine kk ?_;clear kk;have hf2:fn<F:=by lia
    have hr2:rn<R:=by lia
    have hq:rn*F+fn<F*R:=by
     have:rn*F+F<=R*F:=by rw[<- je];exact dA _ hr2
     rw[fQ F R];lia
    rw[eW,eW] at hg;have gl:g.length<1000:=by
     have:=cF List.length hg;rw[a6] at this;lia
    have sqE:∀{e:nw} {h:H},e[10]? =J (J (.int (rn:Int)))->e[0]? =J (J (nv F))->e[9]? =J (J (.int (fn:Int)))->db (K0 d) (.bin .add (.bin .mul (.loc 10) (.loc 0)) (.loc 9)) e h (nv (rn*F+fn)) h:=
     λl1 l2 l3=>qG (r7 (n:=rn) (r_loc l1) (r_loc l2) (by lia) (by lia)) (r_loc l3)
    refine⟨m,dM _,oJ (Qm ∅ (sqE rfl rfl rfl) gl) ?_⟩;have sk:decide (k∈[1,2,6])=zg k:=by
     unfold zg;rw[da];simp
    have rit:=λ{e:nw} {h:H} (lL:h[cp]? =J (.list (aS.map nv))) (l0:e[2]? =J (J (.ref cp))) (l1:e[10]? =J (J (.int (rn:Int)))) (l2:e[0]? =J (J (nv F))) (l3:e[9]? =J (J (.int (fn:Int))))=>tO (K:=K0 d) lL (r_loc (i:=2) l0) (sqE l1 l2 l3) (by rw[hl];exact hq) (by rw[hl];lia);rw[pz,List.append_cons] at hg;obtain⟨y,hy⟩:=(⟨_,rfl⟩:∃y,y=aS.getD (rn*F+fn) 0)
    have pe:xj aS k (rn*F+fn)=(decide (y≠0)||zg k):=by unfold xj;rw[hy]
    rw[pe] at hg;rw[<- hy] at rit;by_cases hz:y=0
    .subst hz;have hg:(g++[rn*F+fn])++(if zg k=true then[] else pz (xj aS k) (Tu F R wj.1 wj.2 m (↑fn+wj.1) (↑rn+wj.2)))=fd++pz (xj aS k) (wN F R s wj):=hg;refine lv (x:=.bool (zg k)) (t:=zg k) (EH (x:=nv 0) (t:=false) (rit L' rfl rfl rfl rfl) rfl (λu=>pB ∅ (sO (be ac (be ac (be ac f8))) (by show(3:Nat)<=1000;decide)) ?_) λe=>by cases e) bm (λe3=>?_) λe3=>?_
     .show(pN _ _ _).bind _=_;rw[t9 bn,eP];exact(ux (l:=[1,2,6])).trans (cF J sk)
     .rw[cC e3,cN] at hg;rw[<- hg,aa (T++wh)];exact SD (od ⟨_,rfl,_,_,_,_,rfl⟩)
     .rw[cD (by rw[e3];decide)] at hg;rw[aa (T++wh)];exact oI rfl ∅ (by rfl) (oI rfl ∅ (by rfl) (od ⟨_,_,_,_,ha,hg,rfl,rfl⟩))
    .rw[cy (p:=y≠0) hz,lV,cC rfl,cN] at hg;refine lv (x:=nv y) (t:=true) (EH (x:=nv y) (t:=true) (rit L' rfl rfl rfl rfl) (by rw[oE];exact cF J (cy hz)) (λe=>by cases e) λu=>⟨rfl,rfl⟩) (by rw[oE];exact cF J (cy hz)) (λu=>?_) λe=>by cases e
     rw[<- hg];exact SD (od ⟨_,rfl,_,_,_,_,rfl⟩)
  .have:Tu F R wj.1 wj.2 m f r=[]:=by
    cases m with
    | zero=>rfl
    | succ m=>unfold Tu;rw[cD (by rw[e1];decide)]
   rw[this,pz,cN] at hg;rw[hg];exact od ⟨jk,rfl,_,_,_,_,rfl⟩
 .refine bc λkk=>?_;obtain⟨jk,rfl,x6,x8,x9,bY,rfl⟩:=z;refine kk ?_;clear kk;rw[w2,dS];have e1:(T++wh)++(O.list (((pE k sd).flatMap λw=>pz (xj aS k) (wN F R s w)).map nv)::jk)=T++(wh++(O.list ((xZ F R aS k sd s).map nv)::jk)):=by rw[aa];rfl
  rw[e1];exact NQ ∅ (i:=wh.length) (o:=.list ((xZ F R aS k sd s).map nv)) (by rw[a6]) (by simp) zk hc q λu u z=>z
end
abbrev WL(K:pK)(h:H):List V->List (Int × Int)->Prop
 | [],[]=>True
 | x::xs,w::ws=>tR K h x=J (.tup [.int w.1,.int w.2])/\WL K h xs ws
 | _,_=>False
def WL.ways{K:pK}:∀{xs:List V} {ws:List (Int × Int)},WL K h xs ws->xs.length=ws.length/\∀(i:Nat) (x:V),xs[i]? =J x->∃w,ws[i]? =J w/\tR K h x=J (.tup [.int w.1,.int w.2])
 | [],[],_=>⟨rfl,λi x e=>by cases e⟩
 | x::xs,[],q=>q.elim
 | [],w::ws,q=>q.elim
 | x::xs,w::ws,q=>by
  obtain⟨h1,h2⟩:=q.2.ways;refine⟨cF lQ h1,λi y e=>?_⟩;cases i with
  | zero=>cases e;exact⟨w,rfl,q.1⟩
  | succ i=>exact h2 i y e
def WL.at{K:pK}(g:tR K h v=J (.list xs))(q:WL K h xs ws):KB K h v ws:=⟨xs,g,q.ways⟩
abbrev DY(F R:Nat)(aS:List Nat)(goal au s:Nat):Bool:= !(decide (aS.getD s 0≠0)&&(decide (aS.getD s 0/8≠au)&&decide (goal∈q7 F R aS s)))
abbrev tF(F R:Nat)(aS:List Nat)(goal au:Nat):Bool:=(cn aS.length).all (DY F R aS goal au)
def OH:(cn (n+1)).all f=((cn n).all f&&f n):=by
 rw[gf,List.all_append,List.all_cons,List.all_nil,jF]
def QC{n j:Nat}(l:j<n)(h:f j=false):(cn n).all f=false:=by
 ext f n j;cases q:(cn n).all f with
 | false=>rfl
 | true=>rw[cK.mp q j (cL.mpr l)] at h;cases h
structure CL (F R:Nat) (aS:List Nat):Prop where
 bd:Bd F R
 l:aS.length=F*R
 v:∀i,aS.getD i 0<16
section
variable{d:Nat}{Q:V->H->Prop}{T:H}{s cp goal au:Nat}{aS:List Nat}
def sH{K:pK}(L:h[cp]? =J (.list (aS.map nv)))(hL:CL F R aS)(hs:s<F*R)(A:db K a e h (.ref cp) h)(B:db K b e h (nv s) h):db K (.sub a b) e h (nv (aS.getD s 0)) h:=
 tO L A B (by rw[hL.l];exact hs) (by rw[hL.l];exact ae hL.bd.sz ⋯)
def CL.sd(h:CL F R aS)(s:Nat):aS.getD s 0/8<2:=by
 have:=h.v s;lia
def DU(hL:CL F R aS)(hs:s<F*R)(L:T[cp]? =J (.list (aS.map nv))):ii (K0 (d+1)) 857 [nv F,nv R,.ref cp,nv s] T (.ref T.length) (T++[.list ((q7 F R aS s).map nv)]):=by
 ext d T s cp aS;exact mk (λQ=>KM rfl) λQ q hc=>by
   have aX:=hL.sd s;unfold q7 at q;obtain⟨k,hk⟩:=(⟨_,rfl⟩:∃k,k=aS.getD s 0%8)
   obtain⟨sd,hd⟩:=(⟨_,rfl⟩:∃sd,sd=aS.getD s 0/8)
   rw[<- hk,<-hd] at q;rw[<- hd] at aX;have go:=λ(wh:H) (wv:V) (x6:Option V) (W:KB (K0 d) (T++wh) wv (pE k sd))=>Pg (d:=d) (wh:=wh) (x6:=x6) hL.bd hs aX L hL.l W hc q;have kk:∀(K:pK) (h:H) (i:Nat),K.con=(K0 d).con->WL K h [.con 833,.con 834,.con 835,.con 836,.con 837,.con 838,.con 839,.con 840] om:=λK h i hK=>by
    have k:∀a o,(K0 d).con a=J o->tR K h (.con a)=J o:=λa o e=>by show K.con a=_;rw[hK];exact e
    exact⟨k _ _ (C0 833 _ rfl),k _ _ (C0 834 _ rfl),k _ _ (C0 835 _ rfl),k _ _ (C0 836 _ rfl),k _ _ (C0 837 _ rfl),k _ _ (C0 838 _ rfl),k _ _ (C0 839 _ rfl),k _ _ (C0 840 _ rfl),trivial⟩
   have jj:∀(K:pK) (h:H),K.con=(K0 d).con->WL K h [.con 842,.con 843,.con 844,.con 845,.con 846,.con 847,.con 848,.con 849] tW:=λK h hK=>by
    have k:∀a o,(K0 d).con a=J o->tR K h (.con a)=J o:=λa o e=>by show K.con a=_;rw[hK];exact e
    exact⟨k _ _ (C0 842 _ rfl),k _ _ (C0 843 _ rfl),k _ _ (C0 844 _ rfl),k _ _ (C0 845 _ rfl),k _ _ (C0 846 _ rfl),k _ _ (C0 847 _ rfl),k _ _ (C0 848 _ rfl),k _ _ (C0 849 _ rfl),trivial⟩
   have c841:(K0 d).con 841=J (.list [.con 833,.con 834,.con 835,.con 836,.con 837,.con 838,.con 839,.con 840]):=C0 841 _ rfl;have c850:(K0 d).con 850=J (.list [.con 842,.con 843,.con 844,.con 845,.con 846,.con 847,.con 848,.con 849]):=C0 850 _ rfl;have hK:(K0 d).con=(K0 d).con:=rfl;have cell:∀{h:H} {e:nw},h[cp]? =J (.list (aS.map nv))->e[2]? =J (J (.ref cp))->e[3]? =J (J (nv s))->db (K0 d) (.sub (.loc 2) (.loc 3)) e h (nv (aS.getD s 0)) h:=λL l2 l3=>sH L hL hs (r_loc l2) (r_loc l3);refine bs (v:=nv k) (by rw[hk];exact wF (cell L rfl rfl) ac ⋯) (bs F2 ?_);refine uw (oM ∅ ac) bm (λe1=>?_) λe1=>?_
   .have e1:=b9 e1;refine bs (v:=.int (1 - ((sd*2:Nat):Int))) (by
     have z:=r7 (sA (cell (h:=T) (e:=((oP 13 [nv F,nv R,.ref cp,nv s]).set 4 (J (nv k))).set 5 (J (.con 841))) L rfl rfl) (ac (n:=8)) ⋯ ⋯) (ac (n:=2)) (by rw[<- hd];exact cU aX ⋯) ⋯;rw[<- hd] at z;exact um qF z rfl) (bs (qe (be (sO (be qF (lz rfl)) (by show(2:Nat)<=1000;decide)) (be (sO (be (Ah (k:=1) qF) (lz rfl)) (by show(2:Nat)<=1000;decide)) f8)) (by show(2:Nat)<=1000;decide)) (ld ?_))
    have z:=go [.tup [.int 1,.int (1 - ((sd*2:Nat):Int))],.tup [.int (-1),.int (1 - ((sd*2:Nat):Int))],.list [.ref T.length,.ref (T.length+1)]] (.ref (T.length+2)) (J (.int (1 - ((sd*2:Nat):Int)))) (WL.at (xs:=[.ref T.length,.ref (T.length+1)]) (by show(T++_)[T.length+2]? =_;rw[cQ (by lia)];simp) (by
     unfold pE;rw[cC e1];exact⟨by show(T++_)[T.length]? =_;rw[cQ (by lia)];simp,by show(T++_)[T.length+1]? =_;rw[cQ (by lia)];simp,trivial⟩))
    have ea:T++[O.tup [.int 1,.int (1 - ((sd*2:Nat):Int))]]++[O.tup [.int (-1),.int (1 - ((sd*2:Nat):Int))]]++[O.list [.ref T.length,.ref (T++[O.tup [V.int 1,.int (1 - ((sd*2:Nat):Int))]]).length]]=T++[.tup [.int 1,.int (1 - ((sd*2:Nat):Int))],.tup [.int (-1),.int (1 - ((sd*2:Nat):Int))],.list [.ref T.length,.ref (T.length+1)]]:=by simp
    have eb:(T++[O.tup [.int 1,.int (1 - ((sd*2:Nat):Int))]]++[O.tup [.int (-1),.int (1 - ((sd*2:Nat):Int))]]).length=T.length+2:=by simp
    show oD _ _ ((((oP 13 [nv F,nv R,.ref cp,nv s]).set 4 (J (nv k))).set 5 (J (.con 841))).set 6 _ |>.set 5 (J (.ref (T++[O.tup [.int 1,.int (1 - ((sd*2:Nat):Int))]]++[O.tup [.int (-1),.int (1 - ((sd*2:Nat):Int))]]).length))) _ _;rw[eb];refine Eq.mp ?_ z;rw[<- ea];rfl
   have e1:=cj e1;refine uw (oM ∅ ac) bm (λe2=>?_) λe2=>?_
   .have e2:=b9 e2;have z:=go [] (.con 850) U (WL.at (xs:=[.con 842,.con 843,.con 844,.con 845,.con 846,.con 847,.con 848,.con 849]) (by show(K0 d).con 850=_;rw[hK];exact c850) (by
     unfold pE;rw[cD e1,cC e2];exact jj _ _ hK))
    rw[cN] at z;exact bs F2 (ld (ld z))
   have e2:=cj e2;have sl:∀lo hi:V,∀a b:Nat,xf lo 0=J a->xf hi 8=J b->xL (K0 d) (.con 841) lo hi T=J (.ref T.length,T++[.list (([.con 833,.con 834,.con 835,.con 836,.con 837,.con 838,.con 839,.con 840].take b).drop a)]):=λlo hi a b h1 h2=>by
    exact tx (x:=.con 841) (by show(K0 d).con 841=_;rw[hK];exact c841) h1 h2 ⋯
   refine uw (oM ∅ ac) bm (λe3=>?_) λe3=>?_
   .have e3:=b9 e3;have z:=go [.list [.con 837,.con 838,.con 839,.con 840]] (.ref T.length) U (WL.at (xs:=[.con 837,.con 838,.con 839,.con 840]) bn (by
     unfold pE;rw[cD e1,cD e2,cC e3];exact(kk _ _ 0 hK).2.2.2.2))
    exact bs (vZ F2 qF x0 (sl _ _ 4 8 rfl rfl)) (ld (ld (ld z)))
   have e3:=cj e3;refine lv (oM ∅ ac) bm (λe4=>?_) λe4=>?_
   .have e4:=b9 e4;have kw:=kk (K0 d) (T++[.list [.con 833,.con 834,.con 835,.con 836]]) 0 hK;have z:=go [.list [.con 833,.con 834,.con 835,.con 836]] (.ref T.length) U (WL.at (xs:=[.con 833,.con 834,.con 835,.con 836]) bn (by
     unfold pE;rw[cD e1,cD e2,cD e3,cC e4];exact⟨kw.1,kw.2.1,kw.2.2.1,kw.2.2.2.1,trivial⟩))
    exact bs (vZ F2 x0 qF (sl _ _ 0 4 rfl rfl)) (ld (ld (ld (ld z))))
   .have e4:=cj e4;have z:=go [] (.con 841) U (WL.at (xs:=[.con 833,.con 834,.con 835,.con 836,.con 837,.con 838,.con 839,.con 840]) (by show(K0 d).con 841=_;rw[hK];exact c841) (by
     unfold pE;rw[cD e1,cD e2,cD e3,cD e4];exact kk _ _ 0 hK))
    rw[cN] at z;exact ld (ld (ld z))
def yU(hL:CL F R aS)(L:T[cp]? =J (.list (aS.map nv))):ii (K0 (d+2)) 864 [nv F,nv R,.ref cp,nv goal,nv au] T (.bool (tF F R aS goal au)) T:=by
 ext d T cp goal au aS;exact have hcp:=f0 L
  have hsz:=hL.bd.sz
  have hl:=hL.l
  mk (λQ=>KQ rfl) λQ q hc=>rQ (n:=0) (m:=aS.length) (lw _) (pZ (be (by have z:=tV (K:=K0 (d+1)) (i:=7) (a:=.loc 2) (e:=oP 9 [nv F,nv R,.ref cp,nv goal,nv au]) ∅ (io L) (by rw[bj];lia);rw[bj] at z;exact z) f8) (by lia)) bn (by lia) (by lia)
   (λj e h=>∃jk,T++(.aT (0:Nat) aS.length 1::jk)=h/\(cn j).all (DY F R aS goal au)=true/\∃x,e=[J (nv F),J (nv R),J (.ref cp),J (nv goal),J (nv au),x,U,U,U,U]) ⟨[],rfl,rfl,U,rfl⟩
   (λs w hs e h z=>by
    obtain⟨jk,rfl,ha,x,rfl⟩:=z;have L':∀{l:H},(T++l)[cp]? =J (.list (aS.map nv)):=λ{l}=>by rw[ar hcp];exact L
    have hs2:s<F*R:=by rw[<- hl];exact hs
    have cell:∀{h:H} {e:nw},h[cp]? =J (.list (aS.map nv))->e[2]? =J (J (.ref cp))->e[5]? =J (J (nv s))->db (K0 (d+1)) (.sub (.loc 2) (.loc 5)) e h (nv (aS.getD s 0)) h:=λL l2 l3=>sH L hL hs2 (r_loc l2) (r_loc l3);have kh:=λ(h:H) (L:h[cp]? =J (.list (aS.map nv)))=>DU (d:=d) hL hs2 L;have f1:DY F R aS goal au s= !(decide (aS.getD s 0≠0)&&(decide (aS.getD s 0/8≠au)&&decide (goal∈q7 F R aS s))):=rfl;have nx:∀jk',DY F R aS goal au s=true->∃jk,T++(O.aT (0:Nat) aS.length 1::jk)=T++(O.aT (0:Nat) aS.length 1::jk')/\(cn (s+1)).all (DY F R aS goal au)=true/\∃x,[J (nv F),J (nv R),J (V.ref cp),J (nv goal),J (nv au),J (nv s),U,U,U,U]=[J (nv F),J (nv R),J (.ref cp),J (nv goal),J (nv au),x,U,U,U,U]:=λjk' h=>⟨jk',rfl,by rw[OH,ha,h];rfl,_,rfl⟩
    by_cases h0:aS.getD s 0=0
    .refine lv (x:=nv 0) (t:=false) (qZ (t:=false) (cell L' rfl rfl) (by rw[oE,h0];rfl) (λe=>by cases e) λw=>⟨by rw[h0],rfl⟩) rfl (λe=>by cases e) λw=>od (nx _ ?_);rw[f1,h0];rfl
    have c0:tr (nv (aS.getD s 0))=J true:=by rw[oE];exact cF J (cy h0)
    by_cases h1:aS.getD s 0/8=au
    .refine lv (x:=.bool false) (t:=false) (qZ (cell L' rfl rfl) c0 (λw=>qZ (x:=.bool false) (t:=false) (by have z:=tI (K:=K0 (d+1)) (sA (cell (h:=T++(.aT (0:Nat) aS.length 1::jk)) (e:=[J (nv F),J (nv R),J (.ref cp),J (nv goal),J (nv au),J (nv s),U,U,U,U]) L' rfl rfl) (ac (n:=8)) ⋯ ⋯) (b:=.loc 4) (m:=au) ∅;rw[h1] at z;simpa using z) rfl (λe=>by cases e) λw=>⟨rfl,rfl⟩) λe=>by cases e) rfl (λe=>by cases e) λw=>od (nx _ ?_);rw[f1,h1];simp
    refine lv (qZ (cell L' rfl rfl) c0 (λw=>qZ (x:=.bool true) (t:=true) (by have z:=tI (K:=K0 (d+1)) (sA (cell (h:=T++(.aT (0:Nat) aS.length 1::jk)) (e:=[J (nv F),J (nv R),J (.ref cp),J (nv goal),J (nv au),J (nv s),U,U,U,U]) L' rfl rfl) (ac (n:=8)) ⋯ ⋯) (b:=.loc 4) (m:=au) ∅;rw[cy (p:=aS.getD s 0/8≠au) h1] at z;exact z) rfl
     (λw=>pB (t:=decide (goal∈q7 F R aS s)) ∅ (bi (lc rfl (lc rfl (lc rfl (lz rfl)))) (kh _ L')) (by show(pN _ _ _).bind _=_;rw[io bn];exact ux)) λe=>by cases e) λe=>by cases e) bm (λe1=>?_) λe1=>?_
    .have:tF F R aS goal au=false:=QC hs (by rw[f1,cy h0,cy (p:=aS.getD s 0/8≠au) h1,e1];rfl);rw[this] at q;rw[aa];exact xY (v:=.bool false) o4 hc trivial q λw w z=>z
    .rw[aa];exact od (nx _ (by rw[f1,e1,fX,fX];rfl)))
   λe h z=>by
    obtain⟨jk,rfl,ha,x,rfl⟩:=z;have:tF F R aS goal au=true:=ha;rw[this] at q;exact xY (v:=.bool true) o4 hc trivial q λw w z=>z
end
def Ar{c:Prop}[Decidable c]{l:List Nat}(h:t∈if c then l else[]):c/\t∈l:=by
 by_cases q:c
 .rw[cC q] at h;exact⟨q,h⟩
 .rw[cD q] at h;exact nomatch h
def Km{n:Nat}{f r:Int}(h:t∈Tu F R o u n f r):t<F*R:=by
 ext o u t
 induction n generalizing f r with
 | zero=>exact nomatch h
 | succ n ih=>
  have q:XN F R f r=true/\t∈(r.toNat*F+f.toNat)::Tu F R o u n (f+o) (r+u):=Ar h;clear h;refine(dP.mp q.2).elim (λe=>?_) ih;have q:=q.1;unfold XN at q;simp only[ax,cu] at q;have h1:f.toNat<F:=by lia
  have h2:r.toNat<R:=by lia
  have:r.toNat*F+F<=R*F:=by rw[<- je];exact dA _ h2
  rw[e,fQ F R];lia
def PM{l:List Nat}:t∈pz p l->t∈l:=by
 induction l with
 | nil=>exact id
 | cons s l ih=>exact λh=>dP.mpr ((dP.mp h).imp_right λh=>ih (by
   cases q:p s with
   | true=>rw[q] at h;exact nomatch h
   | false=>rw[q] at h;exact h))
def An(h:t∈xZ F R aS k sd s):t<F*R:=by
 unfold xZ at h;obtain⟨w,_,h⟩:=dN.mp h;exact Km (PM h)
section
variable{K:pK}{e:nw}{h h1 h2:H}{a b c it test elt:E}{i p:Nat}{v x:V}{k:It}
def EU(M:K.aV)(A:db K it e h x h1)(l:Fg K h1 x=J k)(N:Nat)(I:Nat->H->Prop)(z:I 0 (h1++[.list []]))(step:∀j,j<N->∀h,I j h->∃v y b h2,oB K k h x j=J (J v)/\db K test (e.set i (J v)) h y h2/\tr y=J b/\(b=true->∃u h3 h4,db K elt (e.set i (J v)) h2 u h3/\o8 (.ref h1.length) u h3=J (.none,h4)/\I (j+1) h4)/\(b=false->I (j+1) h2))(done:∀h,I N h->oB K k h x N=J .none/\h=h'):db K (.comp elt i it test) e h (.ref h1.length) h':=by
 revert N I;ext K e h h1 it test elt i x k h';exact⟨λQ q=>A.go _ (by
  rw[l];refine⟨N+1,Be (f:=λv h P=>ev K test (e.set i (J v)) h λy h=>yb (tr y) λt=>wL t (ev K elt (e.set i (J v)) h λu h=>P (J u) h) (P .none h)) (λv h P P' m w=>jp M test (λy h w=>pU (λt w=>⟨λe1=>jp M elt (λu h w=>m _ _ w) (w.1 e1),λe1=>m _ _ (w.2 e1)⟩) w) w) N I (λj hj h w=>?_) (λh w=>⟨(done h w).1,(done h w).2▸q⟩) N 0 _ (dY N) z⟩;obtain⟨v,y,b,h2,q1,q2,q3,q4,q5⟩:=step j hj h w;refine⟨v,q1,q2.go _ ?_⟩;dsimp only;rw[q3];refine⟨λe1=>?_,λe1=>q5 e1⟩;obtain⟨u,h3,h4,r1,r2,r3⟩:=q4 e1;refine r1.go _ ?_;show te (o8 (.ref h1.length) u h3) λg h=>I (j+1) h;rw[r2];exact r3)⟩
def Am(hl:xs.length<1000):o8 (.ref A.length) v (A++(.list xs::t))=J (.none,A++(.list (xs++[v])::t)):=by
 rw[BV (xs:=xs) (by rw[cQ (cX _),eD];rfl) hl,ew _ _ (cX _),eD,iy]
def BS{l:List Nat}(hj:j<l.length):(l.take (j+1)).filter f=(l.take j).filter f++if f l[j]=true then[l[j]] else[]:=by
 rw[dK hj,lA];congr 1;cases q:f l[j]<;>simp [q]
def ME{l:List Nat}{f:Nat->Bool}(M:K.aV)(A:db K it e h (.ref p) h1)(g:h1[p]? =J (.list (l.map nv)))(hl:l.length<1000)(tst:∀s∈l,∀t,∃x,db K test (e.set i (J (nv s))) (h1++t) x (h1++t)/\tr x=J (f s))(el:∀s∈l,∀t,db K elt (e.set i (J (nv s))) (h1++t) (nv s) (h1++t)):db K (.comp elt i it test) e h (.ref h1.length) (h1++[.list ((l.filter f).map nv)]):=by
 ext K e h h1 it test elt i p l f;exact EU (k:=.list) M A (by simp [Fg,tR,g]) l.length (λj h=>h=h1++[.list (((l.take j).filter f).map nv)]) rfl (λj hj h q=>by
   subst q;obtain⟨x,q1,q2⟩:=tst _ (dk hj) [.list (((l.take j).filter f).map nv)];refine⟨nv l[j],x,f l[j],_,by simp [oB,tR,ar (f0 g),g,hj],q1,q2,λe1=>⟨_,_,_,el _ (dk hj) _,Am (t:=[]) (by
    rw[bj];exact ae (cO (eS _ _) (List.length_take_le' _ _)) hl),?_⟩,λe1=>?_⟩
   .rw[BS hj,cC e1,dO];rfl
   .rw[BS hj,cD (by rw[e1];decide),cN]) λh q=>by
   subst q;exact⟨by simp [oB,tR,ar (f0 g),g],by rw[dS]⟩
def II:∀l:List Nat,uJ (l.map nv)=J (l.map λn:Nat=>(n:Int))
 | []=>rfl
 | n::l=>by
  rw[dw];show(uJ (l.map nv)).map ((n:Int)::·)=_;rw[II l];rfl
def Mr{k:Nat}:∀l:List Nat,(l.map λn:Nat=>(n:Int)).idxOf (k:Int)=l.idxOf k
 | []=>rfl
 | n::l=>by
  rw[dw,mN,mN,Mr l];have:((n:Int) == (k:Int))=(n == k):=by rw[da];simp;lia
  rw[this]
def HH{l:List Nat}{k:Nat}(A:db K a e h (.ref p) h)(g:h[p]? =J (.list (l.map nv)))(B:db K b e h (nv k) h)(m:k∈l)(hl:l.length<=1000):db K (.index a b) e h (nv (l.idxOf k)) h:=
 ⟨λQ q=>A.go _ ⟨PK g,B.go _ (by
  show Gs (zf (.ref p) (.int (k:Int)) h) h Q;rw[Ly g (II l) (d7.mpr ⟨k,m,rfl⟩) (by rw[bj];exact hl),Mr];exact q)⟩⟩
def Sd(A:db K a e h (.ref p) h)(g:h[p]? =J (.list xs))(hl:xs.length<=1000):db K (.slice a .bK .bK) e h (.ref h.length) (h++[.list xs]):=
 vZ A x0 x0 (by
  rw[tx (x:=.ref p) g (show xf .none 0=J 0 from rfl) (show xf .none xs.length=J xs.length from rfl) hl,dS,mW])
end
abbrev Nx(aS:List Nat)(au t:Nat):Bool:=decide (aS.getD t 0=0)||decide (aS.getD t 0/8≠au)
abbrev vd(aS:List Nat)(au t:Nat):Bool:=decide (aS.getD t 0≠0)&&decide (aS.getD t 0/8≠au)
abbrev sY(F au s:Nat):Nat:=s+F - 2*F*au
abbrev oj(F R:Nat)(aS:List Nat)(s:Nat):List Nat:=if aS.getD s 0%8≠1 then(q7 F R aS s).filter (Nx aS (aS.getD s 0/8))
 else(q7 F R aS s).filter (vd aS (aS.getD s 0/8))++if aS.getD (sY F (aS.getD s 0/8) s) 0=0 then[sY F (aS.getD s 0/8) s] else[]
abbrev AA(F R:Nat)(aS:List Nat):Prop:=∀s,s<F*R->aS.getD s 0%8=1->F<=s/\s+F<F*R
abbrev oo(aS:List Nat)(s t:Nat):List Nat:=(aS.set t (aS.getD s 0)).set s 0
abbrev sZ(F R:Nat)(aS:List Nat)(s t:Nat):Bool:=tF F R (oo aS s t) ((oo aS s t).idxOf (aS.getD s 0/8*8+6)) (aS.getD s 0/8)
def zz{l:List Nat}:(l.set i x).getD j 0=if i=j/\i<l.length then x else l.getD j 0:=by
 rw[ba,iE];by_cases h:i=j
 .subst h;by_cases h2:i<l.length
  .simp [h2]
  .simp [h2]
 .simp [h]
def CL.set{aS:List Nat}(h:CL F R aS)(hx:x<16):CL F R (aS.set i x):=⟨h.bd,by rw[cP];exact h.l,λj=>by
 rw[zz];split
 .exact hx
 .exact h.v j⟩
def CL.after(h:CL F R aS)(s t:Nat):CL F R (oo aS s t):=(h.set (h.v s)).set ⋯
section
variable{d:Nat}{Q:V->H->Prop}{T:H}{s t cp au:Nat}{aS:List Nat}
def Jq(hL:CL F R aS)(hs:s<F*R):(q7 F R aS s).length<=24:=hL.bd.hits_len hs (hL.sd s) aS
def JE(hL:CL F R aS)(hs:s<F*R):(oj F R aS s).length<=25:=by
 ext s aS;have:=Jq hL hs;unfold oj;split
 .exact cO (eS _ _) (by lia)
 .rw[a6];have:=eS (vd aS (aS.getD s 0/8)) (q7 F R aS s);split
  .rw[km];lia
  .rw[eV];lia
def BI(hL:CL F R aS)(hp:AA F R aS)(hs:s<F*R)(L:T[cp]? =J (.list (aS.map nv))):ii (K0 (d+2)) 869 [nv F,nv R,.ref cp,nv s] T (.ref T.length) (T++[.list ((oj F R aS s).map nv)]):=by
 ext d T s cp aS;exact mk (λQ=>Iq rfl) λQ q hc=>by
   have hcp:=f0 L;have hF:=hL.bd.f;have hsz:=hL.bd.sz;have aX:=hL.sd s;have hle:=Jq hL hs;have L':∀{l:H},(T++l)[cp]? =J (.list (aS.map nv)):=λ{l}=>by rw[ar hcp];exact L
   have cell:∀{h:H} {e:nw} {j t:Nat},h[cp]? =J (.list (aS.map nv))->e[2]? =J (J (.ref cp))->e[j]? =J (J (nv t))->t<F*R->db (K0 (d+1)) (.sub (.loc 2) (.loc j)) e h (nv (aS.getD t 0)) h:=λL l2 l3 ht=>sH L hL ht (r_loc l2) (r_loc l3);refine bs (sA (cell L rfl rfl hs) ac ⋯ ⋯) (bs (bi (lc rfl (lc rfl (lc rfl (lz rfl)))) (DU hL hs L)) ?_);unfold oj at q;refine lv (tI (wF (cell L' rfl rfl hs) ac ⋯) ac) bm (λe1=>?_) λe1=>?_
   .rw[cC (b9 e1)] at q;refine NQ (t:=[.list ((q7 F R aS s).map nv)]++[.list (((q7 F R aS s).filter (Nx aS (aS.getD s 0/8))).map nv)]) (i:=1) (v:=.ref (T++[O.list ((q7 F R aS s).map nv)]).length) ?_ (by rw[a6];rfl) rfl zk hc q λw w z=>z;rw[<- aa];refine ME (lw _) ∅ bn (by lia) (λt ht l=>?_) λt ht l=>r_loc rfl;have h2:=An ht;rw[aa];exact⟨_,sE (oM (cell L' rfl rfl h2) ac) (tI (sA (cell L' rfl rfl h2) ac ⋯ ⋯) ∅),rfl⟩
   .have e1:=cj e1;rw[cD e1] at q;obtain⟨p1,p2⟩:=hp s hs (cJ e1);have ah:sY F (aS.getD s 0/8) s<F*R:=by
     unfold sY;rcases (by lia:aS.getD s 0/8=0\/aS.getD s 0/8=1) with h | h<;>rw[h]<;>lia
    have ah2:2*F*(aS.getD s 0/8)<=s+F:=by
     rcases (by lia:aS.getD s 0/8=0\/aS.getD s 0/8=1) with h | h<;>rw[h]<;>lia
    have fl:=eS (vd aS (aS.getD s 0/8)) (q7 F R aS s);refine bs (v:=.ref (T++[O.list ((q7 F R aS s).map nv)]).length) (h1:=(T++[O.list ((q7 F R aS s).map nv)])++[.list (((q7 F R aS s).filter (vd aS (aS.getD s 0/8))).map nv)]) (ME (lw _) ∅ bn (by lia) (λt ht l=>?_) λt ht l=>r_loc rfl)
     (bs (v:=nv (sY F (aS.getD s 0/8) s)) (oH (qG ∅ ∅) (r7 (r7 ac ∅ ⋯ (by lia)) ∅ (by show 2*F<1000000000;lia) (by lia)) ah2) ?_)
    .have h2:=An ht;rw[aa];by_cases z:aS.getD t 0=0
     .refine⟨nv 0,qZ (t:=false) (cell L' rfl rfl h2) (by rw[oE,z];rfl) (λe=>by cases e) λw=>⟨by rw[z],rfl⟩,?_⟩;unfold vd;rw[z];rfl
     .refine⟨.bool (decide (aS.getD t 0/8≠aS.getD s 0/8)),qZ (t:=true) (cell L' rfl rfl h2) (by rw[oE];exact cF J (cy z)) (λw=>tI (sA (cell L' rfl rfl h2) ac ⋯ ⋯) ∅) (λe=>by cases e),?_⟩;unfold vd;rw[cy (p:=aS.getD t 0≠0) z,eQ];rfl
    .rw[aa T];refine BY (h2:=T++([O.list ((q7 F R aS s).map nv)]++[.list (((q7 F R aS s).filter (vd aS (aS.getD s 0/8))++if aS.getD (sY F (aS.getD s 0/8) s) 0=0 then[sY F (aS.getD s 0/8) s] else[]).map nv)])) (oM (cell L' rfl rfl ah) ac) bm (λe2 R=>?_) (λe2=>?_) ?_
     .rw[cC (b9 e2)] at R;rw[<- aa] at R ⊢;exact oJ (Qm (t:=[]) ∅ ∅ (by lia)) (ld R)
     .rw[cD (cj e2),cN]
     .exact NQ (i:=1) ∅ (by rw[a6];rfl) rfl zk hc q λw w z=>z
def Dw(hL:CL F R aS)(hs:s<F*R)(ht:t<F*R)(hk:aS.getD s 0/8*8+6∈oo aS s t)(L:T[cp]? =J (.list (aS.map nv))):ii (K0 (d+3)) 876 [nv F,nv R,.ref cp,nv s,nv t] T (.bool (sZ F R aS s t)) T:=
 mk (λQ=>Ma rfl) λQ q hc=>by
  have hcp:=f0 L;have hsz:=hL.bd.sz;have hl:=hL.l;have aX:=hL.sd s;have L':∀{l:H},(T++l)[cp]? =J (.list (aS.map nv)):=λ{l}=>by rw[ar hcp];exact L
  refine bs (sA (sH L hL hs ∅ ∅) ac ⋯ ⋯) (bs (Sd ∅ L (by rw[bj];lia)) ?_);refine uG (sH bn hL hs ∅ ∅) ∅ ∅ (E6 bn (by lia) (by lia)) ?_;rw[zn];refine uG ac ∅ ∅ (E6 bn (by rw[cP];lia) (by rw[cP];lia)) ?_;rw[zn];have hA:=hL.after s t;have g:(T++[O.list ((oo aS s t).map nv)])[T.length]? =J (.list ((oo aS s t).map nv)):=bn;exact xY (h3:=T) (t:=[O.list ((oo aS s t).map nv)]) (bi (lc rfl (lc rfl (lc rfl (be (HH ∅ g (qG (r7 ∅ ac (cU aX ⋯) ⋯) ac) hk (by rw[hA.l];lia)) (lz rfl))))) (yU hA g)) hc trivial q λw w z=>z
end
abbrev pQ(h:H)(b:Nat):List V->List (Nat × Nat)->Prop
 | [],[]=>True
 | v::vs,p::ps=>(∃q,v= .ref q/\b<q/\h[q]? =J (.tup [nv p.1,nv p.2]))/\pQ h b vs ps
 | _,_=>False
def pQ.len:∀{vs:List V} {ps:List (Nat × Nat)},pQ h b vs ps->vs.length=ps.length
 | [],[],_=>rfl
 | [],_::_,q=>q.elim
 | _::_,[],q=>q.elim
 | _::_,_::_,q=>cF lQ q.2.len
def pQ.mono(hb:b'<=b)(k:∀i o,b<i->h[i]? =J o->h'[i]? =J o):∀{vs:List V} {ps:List (Nat × Nat)},pQ h b vs ps->pQ h' b' vs ps
 | [],[],_=>trivial
 | [],_::_,q=>q.elim
 | _::_,[],q=>q.elim
 | _::_,_::_,q=>by
  refine bc λkk=>?_;obtain⟨⟨x,h1,h2,h3⟩,q2⟩:=q;refine kk ?_;clear kk;exact⟨⟨x,h1,ae hb h2,k x _ h2 h3⟩,q2.mono hb k⟩
def pQ.append:∀{vs us:List V} {ps rs:List (Nat × Nat)},pQ h b vs ps->pQ h b us rs->pQ h b (vs++us) (ps++rs)
 | [],_,[],_,_,q=>q
 | [],_,_::_,_,q,_=>q.elim
 | _::_,_,[],_,q,_=>q.elim
 | _::_,_,_::_,_,q,q'=>⟨q.1,q.2.append q'⟩
def pQ.get:∀{vs:List V} {ps:List (Nat × Nat)} {i:Nat},pQ h b vs ps->i<ps.length->∃q,vs[i]? =J (.ref q)/\b<q/\h[q]? =J (.tup [nv (ps.getD i (0,0)).1,nv (ps.getD i (0,0)).2])
 | [],[],_,_,l=>cG l (fy _)
 | [],_::_,_,q,_=>q.elim
 | _::_,[],_,q,_=>q.elim
 | v::vs,p::ps,i,q,l=>by
  cases i with
  | zero=>obtain⟨⟨x,h1,h2,h3⟩,_⟩:=q;exact⟨x,cF J h1,h2,h3⟩
  | succ i=>exact q.2.get (Nat.lt_of_succ_lt_succ l)
abbrev vc(F R:Nat)(aS:List Nat)(au s:Nat):List (Nat × Nat):=if aS.getD s 0≠0/\aS.getD s 0/8=au then(oj F R aS s).map λt=>(s,t) else[]
abbrev qV(F R:Nat)(aS:List Nat)(au:Nat):List (Nat × Nat):=(cn aS.length).flatMap (vc F R aS au)
abbrev Ip(oZ:Int)(n k:Nat):Nat:=(eZ (oZ+k) n).toNat
abbrev EE(F R:Nat)(aS:List Nat)(ms:List (Nat × Nat))(oZ:Int)(k:Nat):Option (Nat × Nat):=
 if sZ F R aS (ms.getD (Ip oZ ms.length k) (0,0)).1 (ms.getD (Ip oZ ms.length k) (0,0)).2=true then J (ms.getD (Ip oZ ms.length k) (0,0)) else U
abbrev wW(F R:Nat)(aS:List Nat)(au:Nat)(oZ:Int):Option (Nat × Nat):=(cn (qV F R aS au).length).findSome? (EE F R aS (qV F R aS au) oZ)
abbrev AT:Option (Nat × Nat)->O
 | none=>.tup []
 | some m=>.tup [nv m.1,nv m.2]
def yO:(cn (n+1)).flatMap f=(cn n).flatMap f++f n:=by
 rw[gf,ie];simp
section
variable{K:pK}{e:nw}{h h1 h2:H}{a b it:E}{i j p s n:Nat}{v x:V}{l:List Nat}
def US(M:K.aV)(A:db K it e h (.ref p) h1)(g:h1[p]? =J (.list (l.map nv)))(hl:l.length<1000)(el:∀t h,db K a (e.set i (J (nv t))) h (nv s) h)(er:∀t h,db K b (e.set i (J (nv t))) h (nv t) h):
  db K (.comp (.tup (.cons a (.cons b .nil))) i it (.bool true)) e h (.ref h1.length) (h1++(.list ((cn l.length).map λj=>.ref (h1.length+1+j))::l.map λt=>.tup [nv s,nv t])):=by
 ext K e h h1 a b it i p s l;exact EU (k:=.list) M A (by simp [Fg,tR,g]) l.length (λj h=>h=h1++(.list ((cn j).map λj=>.ref (h1.length+1+j))::(l.take j).map λt=>.tup [nv s,nv t])) rfl (λj hj h q=>by
   subst q;refine⟨nv l[j],.bool true,true,_,by simp [oB,tR,ar (f0 g),g,hj],o4,rfl,λw=>⟨_,_,_,sO (be (el _ _) (be (er _ _) f8)) (by show(2:Nat)<=1000;decide),?_,rfl⟩,λe=>by cases e⟩;rw[aa,eA,Am (by rw[bj,dn];lia)];have e1:(h1++(O.list ((cn j).map λj=>V.ref (h1.length+1+j))::(l.take j).map λt=>O.tup [nv s,nv t])).length=h1.length+1+j:=by
    rw[a6,ey,bj,dC];lia
   rw[e1,gf,dO,dK hj,dO];rfl) λh q=>by
   subst q;exact⟨by simp [oB,tR,ar (f0 g),g],by rw[dS]⟩
def My(A:H)(h0:0<A.length):∀(l:List Nat) (t:H),pQ (A++((l.map λt=>.tup [nv s,nv t])++t)) (A.length - 1) ((cn l.length).map λj=>.ref (A.length+j)) (l.map λt=>(s,t))
 | [],t=>trivial
 | y::l,t=>by
  have z:=My (A++[.tup [nv s,nv y]]) (by rw[a6];exact fF _) l t;rw[a6,km,aa] at z;rw[ey,jX,dw,dw,hZ];refine⟨⟨A.length,rfl,by lia,by simp⟩,?_⟩;have e1:(λj=>V.ref (A.length+j)) ∘ lQ=λj=>.ref (A.length+1+j):=by
   funext j;show V.ref (A.length+(j+1))=_;congr 1;lia
  rw[e1];exact z.mono (by lia) λi o w h=>h
def sG(A:db K a e h (.int t) h1)(B:db K b e h1 (nv n) h2)(l:0<n):db K (.bin .mod a b) e h (nv (eZ t n).toNat) h2:=by
 have l':(0:Int)<(n:Int):=by lia
 have z:=um (o:=.mod) (z:=.int (eZ t n)) A B (by
  unfold pq nv;dsimp only;rw[cC l'])
 have:0<=eZ t n:=iK _ l';unfold nv at z ⊢;rw[gz this];exact z
def SK(hq:A.length<q)(g:(A++(.list xs::t))[q]? =J (.list ys))(hl:xs.length+ys.length<=1000):Cp .add (.ref A.length) (.ref q) (A++(.list xs::t))=J (.ref A.length,A++(.list (xs++ys)::t)):=by
 have g0:(A++(O.list xs::t))[A.length]? =J (.list xs):=by simp
 show TD .add (A++(O.list xs::t))[A.length]? (A++(O.list xs::t))[q]? _=_;rw[g0,g];refine(cC hl).trans ?_;show J (V.ref A.length,(A++O.list xs::t).set A.length (.list (xs++ys)))=_;rw[ew _ _ (cX _),eD,iy]
end
def qJ{aS:List Nat}(hL:CL F R aS)(hp:AA F R aS)(hs:s<F*R)(h:t∈oj F R aS s):t<F*R:=by
 ext s t aS;have aX:=hL.sd s;unfold oj at h;split at h
 .exact An (eg.mp h).1
 .rename_i e1;rcases cS.mp h with h | h
  .exact An (eg.mp h).1
  .obtain⟨p1,p2⟩:=hp s hs (cJ e1);split at h
   .rw[dT] at h;subst h;unfold sY;rcases (by lia:aS.getD s 0/8=0\/aS.getD s 0/8=1) with h | h<;>rw[h]<;>lia
   .cases h
def rj:m∈qV F R aS au↔m.1<aS.length/\aS.getD m.1 0≠0/\aS.getD m.1 0/8=au/\m.2∈oj F R aS m.1:=by
 ext au aS m;unfold qV vc;rw[dN];constructor
 .rintro⟨s,h1,h2⟩;split at h2
  .rename_i h3;obtain⟨t,h4,rfl⟩:=d7.mp h2;exact⟨cL.mp h1,h3.1,h3.2,h4⟩
  .cases h2
 .rintro⟨h1,h2,h3,h4⟩;refine⟨m.1,cL.mpr h1,?_⟩;rw[cC ⟨h2,h3⟩];exact d7.mpr ⟨m.2,h4,rfl⟩
abbrev Ff(F R:Nat)(aS:List Nat)(au:Nat):Prop:=∀m∈qV F R aS au,au*8+6∈oo aS m.1 m.2
section
variable{d:Nat}{Q:V->H->Prop}{T:H}{s t cp au:Nat}{aS:List Nat}
def F8(hL:CL F R aS)(hj:j<=F*R):((cn j).flatMap (vc F R aS au)).length<=j*25:=by
 induction j with
 | zero=>exact cX _
 | succ j ih=>
  have ih:=ih (Nat.le_of_succ_le hj);rw[yO,a6];have:(vc F R aS au j).length<=25:=by
   unfold vc;split
   .rw[bj];exact JE hL hj
   .exact dF _
  lia
def PE{oZ:Int}(h:0<n):Ip oZ n k<n:=by
 unfold Ip;have h':(0:Int)<(n:Int):=by lia
 have:=lB (oZ+k) h';have:=iK (oZ+k) h';lia
def yF:(cn (n+1)).findSome? f=((cn n).findSome? f).or (f n):=by
 rw[gf,List.findSome?_append];simp
def Rd(hj:j<n)(h0:(cn j).findSome? f=U)(h:f j=J x):(cn n).findSome? f=J x:=by
 obtain⟨k,rfl⟩:=iC hj
 induction k with
 | zero=>rw[jU,yF,h0,h];rfl
 | succ k ih=>rw[show j+(k+1)+1=(j+k+1)+1 by lia,yF,ih (by lia)];rfl
def Eu{oZ:Int}(hL:CL F R aS)(hp:AA F R aS)(hk:Ff F R aS au)(L:T[cp]? =J (.list (aS.map nv))):
  ii (K0 (d+4)) 881 [nv F,nv R,.ref cp,nv au,.int oZ] T (.ref T.length) (T++[AT (wW F R aS au oZ)]):=by
 ext d T cp au aS oZ;exact mk (λQ=>LZ rfl) λQ q hc=>by
   have hcp:=f0 L;have hsz:=hL.bd.sz;have hl:=hL.l;have L':∀{l:H},(T++l)[cp]? =J (.list (aS.map nv)):=λ{l}=>by rw[ar hcp];exact L
   refine bs (qe (xs:=[]) f8 (dF _)) (rQ (n:=0) (m:=aS.length) (lw _) (pZ (be (by have z:=tV (K:=K0 (d+3)) (i:=10) (a:=.loc 2) (h:=T++[.list []]) (e:=(oP 13 [nv F,nv R,.ref cp,nv au,.int oZ]).set 5 (J (.ref T.length))) ∅ (io L') (by rw[bj];lia);rw[bj] at z;exact z) f8) (by lia)) bn (by lia) (by lia)
    (λj e h=>∃vs jk,T++(.list vs::jk)=h/\pQ h T.length vs ((cn j).flatMap (vc F R aS au))/\∃x,e=[J (nv F),J (nv R),J (.ref cp),J (nv au),J (.int oZ),J (.ref T.length),x,U,U,U,U,U,U,U])
    ⟨[],[.aT (0:Nat) aS.length 1],by rw[aa];rfl,trivial,U,rfl⟩ (λs w hs e h z=>?_) λe h z=>?_)
   .refine bc λkk=>?_;obtain⟨vs,jk,rfl,hP,x,rfl⟩:=z;refine kk ?_;clear kk;have hs2:s<F*R:=by rw[<- hl];exact hs
    have cell:∀{h:H} {e:nw},h[cp]? =J (.list (aS.map nv))->e[2]? =J (J (.ref cp))->e[6]? =J (J (nv s))->db (K0 (d+3)) (.sub (.loc 2) (.loc 6)) e h (nv (aS.getD s 0)) h:=λL l2 l3=>sH L hL hs2 (r_loc l2) (r_loc l3);have ln:=hP.len;have ml:=F8 (au:=au) hL (j:=s) (dH hs2);have cnd:∃x,db (K0 (d+3)) (.and (.sub (.loc 2) (.loc 6)) (.cmp (.bin .div (.sub (.loc 2) (.loc 6)) (.int 8)) .eq (.loc 3))) [J (nv F),J (nv R),J (.ref cp),J (nv au),J (.int oZ),J (.ref T.length),J (nv s),U,U,U,U,U,U,U] (T++(.list vs::jk)) x (T++(.list vs::jk))/\tr x=J (decide (aS.getD s 0≠0/\aS.getD s 0/8=au)):=by
     by_cases h0:aS.getD s 0=0
     .refine⟨nv 0,qZ (t:=false) (cell L' rfl rfl) (by rw[oE,h0];rfl) (λe=>by cases e) λw=>⟨by rw[h0],rfl⟩,?_⟩;rw[h0];rfl
     .refine⟨.bool (decide (aS.getD s 0/8=au)),qZ (t:=true) (cell L' rfl rfl) (by rw[oE];exact cF J (cy h0)) (λw=>oM (sA (cell L' rfl rfl) ac ⋯ ⋯) ∅) (λe=>by cases e),?_⟩;show J (decide _)=J _;congr 1;rw[da];simp only[cu];exact⟨λh=>⟨h0,h⟩,λh=>h.2⟩
    obtain⟨cx,c1,c2⟩:=cnd;refine lv c1 c2 (λe1=>?_) λe1=>od ⟨vs,jk,rfl,?_,_,rfl⟩
    .have e1:=b9 e1;obtain⟨gl,hgl⟩:=(⟨_,rfl⟩:∃gl,gl=oj F R aS s)
     have gll:gl.length<=25:=by rw[hgl];exact JE hL hs2
     have kg:=BI (d:=d+1) hL hp hs2 (T:=T++(.list vs::jk)) L';rw[<- hgl] at kg;obtain⟨ys,hys⟩:=(⟨_,rfl⟩:∃ys:List V,ys=(cn gl.length).map λj=>.ref ((T++(.list vs::jk)++[O.list (gl.map nv)]).length+1+j))
     have yl:ys.length=gl.length:=by rw[hys,bj,dn]
     have rc:=US (K:=K0 (d+3)) (i:=13) (a:=.loc 6) (b:=.loc 13) (s:=s) (l:=gl) (e:=[J (nv F),J (nv R),J (.ref cp),J (nv au),J (.int oZ),J (.ref T.length),J (nv s),U,U,U,U,U,U,U]) (lw _) (bi (i:=11) (be (r_loc (i:=0) rfl) (be (r_loc (i:=1) rfl) (be (r_loc (i:=2) rfl) (be (r_loc (i:=6) rfl) f8)))) kg) bn (by lia) (λt h=>r_loc rfl) λt h=>r_loc rfl;rw[<- hys] at rc;have ea:∀(v:List V),T++(O.list v::jk)++[O.list (gl.map nv)]++(O.list ys::gl.map λt=>O.tup [nv s,nv t])=T++(O.list v::(jk++[O.list (gl.map nv)]++(.list ys::gl.map λt=>.tup [nv s,nv t]))):=λv=>by simp
     have eb:∀(v:List V),T++(O.list v::(jk++[O.list (gl.map nv)]++(.list ys::gl.map λt=>.tup [nv s,nv t])))=(T++(O.list v::jk)++[O.list (gl.map nv)]++[O.list ys])++((gl.map λt=>.tup [nv s,nv t])++[]):=λv=>by simp
     refine oI rfl rc (v:=.ref T.length) (h2:=T++(O.list (vs++ys)::(jk++[O.list (gl.map nv)]++(.list ys::gl.map λt=>.tup [nv s,nv t])))) ?_ (ld (od ⟨vs++ys,_,rfl,?_,_,rfl⟩))
     .rw[ea];refine SK (by rw[a6,a6];exact Nat.lt_add_right _ (fp (fF _))) ?_ (by lia);rw[<- ea,cQ (cX _),eD];rfl
     .rw[yO];have m1:vc F R aS au s=gl.map λt=>(s,t):=by unfold vc;rw[cC e1,hgl]
      rw[m1];refine pQ.append (hP.mono (cX _) λi o hi g=>?_) ?_
      .rw[cQ (dH hi)] at g ⊢;obtain⟨k,hk2⟩:=iC hi;rw[show i - T.length=k+1 by lia] at g ⊢;rw[jP] at g ⊢;rw[aa,ar (f0 g)];exact g
      .rw[eb];have pn:=My (s:=s) (T++(O.list (vs++ys)::jk)++[O.list (gl.map nv)]++[O.list ys]) (by rw[a6];exact fF _) gl [];have el:(T++(O.list (vs++ys)::jk)++[O.list (gl.map nv)]++[O.list ys]).length=(T++(.list vs::jk)++[O.list (gl.map nv)]).length+1:=by simp only[a6,ey,eV]
       rw[el,<-hys] at pn;exact pn.mono (by simp only[a6,ey,eV];lia) λi o w h=>h
    .rw[yO];have m1:vc F R aS au s=[]:=by unfold vc;rw[cD (cj e1)]
     rw[m1,cN];exact hP
   .refine bc λkk=>?_;obtain⟨vs,jk,rfl,hP,x,rfl⟩:=z;have hP:pQ (T++(.list vs::jk)) T.length vs (qV F R aS au):=hP;have ln:=hP.len;have ml:=F8 (au:=au) hL (j:=aS.length) (hJ hl);have ml:(qV F R aS au).length<=aS.length*25:=ml;obtain⟨ms,hms⟩:=(⟨_,rfl⟩:∃ms,ms=qV F R aS au)
    refine kk ?_;clear kk;unfold wW at q;rw[<- hms] at hP ln ml q;have gv:∀{t:H},(T++(.list vs::t))[T.length]? =J (.list vs):=λ{t}=>by simp
    have len:∀{e:nw} {t:H},e[5]? =J (J (.ref T.length))->db (K0 (d+3)) (.len 10 (.loc 5)) e (T++(.list vs::t)) (nv ms.length) (T++(.list vs::t)):=λ{e t} l=>by
     have z:=tV (K:=K0 (d+3)) (i:=10) (a:=.loc 5) (e:=e) (r_loc l) (io (gv (t:=t))) (by lia);rw[ln] at z;exact z
    refine rQ (n:=0) (m:=ms.length) (lw _) (pZ (be (len rfl) f8) (by lia)) bn (by lia) (by lia)
     (λj e h=>T++(.list vs::(jk++[.aT (0:Nat) ms.length 1]))=h/\(cn j).findSome? (EE F R aS ms oZ)=U/\∃x y z,e=[J (nv F),J (nv R),J (.ref cp),J (nv au),J (.int oZ),J (.ref T.length),x,y,z,U,U,U,U,U])
     ⟨by rw[aa];rfl,rfl,x,U,U,rfl⟩ (λk w hk' e h z=>?_) λe h z=>?_
    .refine bc λkk=>?_;obtain⟨rfl,hf,x,y,z,rfl⟩:=z;refine kk ?_;clear kk;have n0:0<ms.length:=ae (dF _) hk';have il:=PE (oZ:=oZ) (k:=k) n0;have hP2:pQ (T++(.list vs::(jk++[O.aT (0:Nat) ms.length 1]))) T.length vs ms:=hP.mono (cX _) λi o w g=>by
      rw[<- eA,<-aa];exact(ar (f0 g)).trans g
     refine bc λkk=>?_;obtain⟨qh,g1,g2,g3⟩:=hP2.get il;obtain⟨m,hm⟩:=(⟨_,rfl⟩:∃m,m=ms.getD (Ip oZ ms.length k) (0,0))
     refine kk ?_;clear kk;have mm:m∈ms:=by
      rw[hm,ba,a7 il];exact dk il
     rw[<- hm] at g3;have pk:EE F R aS ms oZ k=if sZ F R aS m.1 m.2=true then J m else U:=by unfold EE;rw[<- hm]
     have mq:=mm;rw[hms] at mq;have kq:=hk m mq;obtain⟨q1,q2,q3,q4⟩:=rj.mp mq;have s1:m.1<F*R:=by rw[<- hl];exact q1
     refine zh (pd ∅ (sG (um (x:=.int oZ) (y:=nv k) (z:=.int (oZ+k)) ∅ ∅ rfl) (len rfl) n0) (io gv) g1 (cU il (by lia))) (vs:=[nv m.1,nv m.2]) g3 rfl ?_;refine lv (bi (lc rfl (lc rfl (lc rfl (lc rfl (lz rfl))))) (Dw hL s1 (qJ hL hp s1 q4) (by rw[q3];exact kq) L')) bm (λe1=>?_) λe1=>od ⟨rfl,?_,_,_,_,rfl⟩
     .have fd:=Rd hk' hf (pk.trans (cC e1));rw[fd] at q;refine NQ (h3:=T) (t:=(.list vs::(jk++[.aT (0:Nat) ms.length 1]))++[.tup [nv m.1,nv m.2]]) (i:=(O.list vs::(jk++[.aT (0:Nat) ms.length 1])).length) (v:=.ref (T++(.list vs::(jk++[O.aT (0:Nat) ms.length 1]))).length) ?_ (by rw[a6]) bn ?_ hc q λw w z=>z
      .rw[<- aa];exact sO (lc rfl (lz rfl)) (by show(2:Nat)<=1000;decide)
      .exact zk (l:=[m.1,m.2])
     .rw[yF,hf,pk,cD (by rw[e1];decide)];rfl
    .refine bc λkk=>?_;obtain⟨rfl,hf,x,y,z,rfl⟩:=z;refine kk ?_;clear kk;rw[hf] at q;refine NQ (h3:=T) (t:=(.list vs::(jk++[.aT (0:Nat) ms.length 1]))++[.tup []]) (i:=(O.list vs::(jk++[.aT (0:Nat) ms.length 1])).length) (v:=.ref (T++(.list vs::(jk++[O.aT (0:Nat) ms.length 1]))).length) ?_ (by rw[a6]) bn ?_ hc q λw w z=>z
     .rw[<- aa];exact sO f8 (dF _)
     .exact λx h=>by cases h
end
structure Yw (K:pK) (c:E) (e:nw) (h:H) (R:V->H->Prop):Prop where
 go:∀Q:V->H->Prop,(∀v h',R v h'->Q v h')->ev K c e h Q
section
variable{K:pK}{e:nw}{h h1 h2:H}{a b c it test elt n:E}{i p:Nat}{v x:V}{k:It}{r:Ss}{Q:QS}{es:Es}{vs us:List V}
def R9{R:V->H->Prop}(A:Yw K a e h R)(B:∀v h',R v h'->oD K r (e.set i (J v)) h' Q):oD K (.cons (.assign (.loc i) a) r) e h Q:=⟨A.go _ λv h' q=>(B v h' q).go⟩
def UD(M:K.aV)(A:db K it e h x h1)(l:Fg K h1 x=J k)(N:Nat)(I:Nat->H->Prop)(z:I 0 (h1++[.list []]))(step:∀j,j<N->∀h,I j h->∃v y b h2,oB K k h x j=J (J v)/\db K test (e.set i (J v)) h y h2/\tr y=J b/\(b=true->∃u h3 h4,db K elt (e.set i (J v)) h2 u h3/\o8 (.ref h1.length) u h3=J (.none,h4)/\I (j+1) h4)/\(b=false->I (j+1) h2))(done:∀h,I N h->oB K k h x N=J .none):Yw K (.comp elt i it test) e h λv h'=>v= .ref h1.length/\I N h':=⟨λQ q=>A.go _ (by
 rw[l];refine⟨N+1,Be (f:=λv h P=>ev K test (e.set i (J v)) h λy h=>yb (tr y) λt=>wL t (ev K elt (e.set i (J v)) h λu h=>P (J u) h) (P .none h)) (λv h P P' m w=>jp M test (λy h w=>pU (λt w=>⟨λe1=>jp M elt (λu h w=>m _ _ w) (w.1 e1),λe1=>m _ _ (w.2 e1)⟩) w) w) N I (λj hj h w=>?_) (λh w=>⟨done h w,q _ _ ⟨rfl,w⟩⟩) N 0 _ (dY N) z⟩;obtain⟨v,y,b,h2,q1,q2,q3,q4,q5⟩:=step j hj h w;refine⟨v,q1,q2.go _ ?_⟩;dsimp only;rw[q3];refine⟨λe1=>?_,λe1=>q5 e1⟩;obtain⟨u,h3,h4,r1,r2,r3⟩:=q4 e1;refine r1.go _ ?_;show te (o8 (.ref h1.length) u h3) λg h=>I (j+1) h;rw[r2];exact r3)⟩
def Nv(A:Gb K es e h vs h1)(B:db K n e h1 (nv m) h2)(l:vs.length<=10)(l':m<=1000):db K (.rep es n) e h (.ref h2.length) (h2++[.list (cW m vs).flatten]):=⟨λQ q=>A.go _ ⟨cO l ⋯,B.go _ ⟨by show(0:Int)<=(m:Int);lia,by show(m:Int)<=1000;lia,l,by rw[eW];exact q⟩⟩⟩
abbrev eqS(f:V->V->Option Bool):Option O->Option O->Option Bool
 | some (.list xs),J (.list ys)=>if xs.length == ys.length then qy f xs ys else J false
 | some (.tup xs),J (.tup ys)=>(qy f xs ys).map λc=>c&&xs.length == ys.length
 | _,_=>.none
set_option smartUnfolding false in
def Tj{k a b:Nat}:u8 (k+1) h (.ref a) (.ref b)=eqS (u8 k h) h[a]? h[b]? :=rfl
def Tx{p q:Nat}:s7 K .eq (.ref p) (.ref q) h=eqS (u8 3 h) h[p]? h[q]? :=Tj (k:=3)
def Ml{f:V->V->Option Bool}{xs ys:List V}:eqS f (J (.tup xs)) (J (.tup ys))=(qy f xs ys).map λc=>c&&xs.length == ys.length:=rfl
def uF{f:V->V->Option Bool}{x y:V}{xs ys:List V}{a b:Bool}(h1:f x y=J a)(h2:qy f xs ys=J b):qy f (x::xs) (y::ys)=J (a&&b):=by
 rw[qy,h1,h2]
def KX{k x y:Nat}:u8 (k+1) h (nv x) (nv y)=J (decide (x=y)):=by
 show J ((x:Int) == (y:Int))=_;congr 1;rw[da];simp;lia
def HF{k:Nat}:∀{l l':List Nat},l.length=l'.length->qy (u8 (k+1) h) (l.map nv) (l'.map nv)=J (decide (l=l'))
 | [],[],_=>rfl
 | [],_::_,q=>by cases q
 | _::_,[],q=>by cases q
 | x::l,y::l',q=>by
  refine(uF KX (HF (gu q))).trans (cF J ?_);rw[da];simp
def TQ{k a b:Nat}{p r:Nat × Nat}(g:h[a]? =J (.tup [nv p.1,nv p.2]))(g':h[b]? =J (.tup [nv r.1,nv r.2])):u8 (k+2) h (.ref a) (.ref b)=J (decide (p=r)):=by
 rw[Tj,g,g',Ml,show qy (u8 (k+1) h) [nv p.1,nv p.2] [nv r.1,nv r.2]=J (decide ([p.1,p.2]=[r.1,r.2])) from HF (l:=[p.1,p.2]) (l':=[r.1,r.2]) rfl];refine cF J ?_;rw[da];obtain⟨p1,p2⟩:=p;obtain⟨r1,r2⟩:=r;simp
def Qv{k b b':Nat}:∀{vs us:List V} {ps rs:List (Nat × Nat)},pQ h b vs ps->pQ h b' us rs->ps.length=rs.length->qy (u8 (k+2) h) vs us=J (decide (ps=rs))
 | [],[],[],[],_,_,_=>rfl
 | _::_,_,[],_,q,_,_=>q.elim
 | [],_,_::_,_,q,_,_=>q.elim
 | _,_::_,_,[],_,q,_=>q.elim
 | _,[],_,_::_,_,q,_=>q.elim
 | _::_,_::_,p::ps,r::rs,q,q',l=>by
  obtain⟨⟨x,rfl,_,g⟩,q2⟩:=q;obtain⟨⟨y,rfl,_,g'⟩,q2'⟩:=q';refine(uF (TQ g g') (Qv q2 q2' (gu l))).trans (cF J ?_);rw[da];simp
def MU{b b' p q:Nat}(g:h[p]? =J (.list vs))(g':h[q]? =J (.list us))(A:pQ h b vs ps)(A':pQ h b' us rs):s7 K .eq (.ref p) (.ref q) h=J (decide (ps=rs)):=by
 rw[Tx,g,g'];show(if vs.length == us.length then qy (u8 3 h) vs us else J false)=_;by_cases e1:ps.length=rs.length
 .rw[cC (by rw[A.len,A'.len];simpa using e1)];exact Qv A A' e1
 .rw[cD (by rw[A.len,A'.len];simpa using e1)];congr 1;rw[eq_comm,cA];exact λe=>e1 (cF _ e)
def Nq{r:Nat × Nat}{b:Nat}(hq:b<q)(g:h[q]? =J (.tup [nv r.1,nv r.2])):∀n:Nat,pQ h b (cW n [V.ref q]).flatten (cW n r)
 | 0=>trivial
 | n+1=>⟨⟨q,rfl,hq,g⟩,Nq hq g n⟩
end
abbrev BH(F R:Nat)(aS:List Nat)(au:Nat):Option (Nat × Nat)->Bool
 | none=>false
 | some m=>decide (aS.getD m.1 0≠0)&&(decide (aS.getD m.1 0/8=au)&&(decide (m.2∈oj F R aS m.1)&&sZ F R aS m.1 m.2))
abbrev wG(F R:Nat)(aS:List Nat)(az i:Nat):Bool:=decide (az >>> i &&& 1≠0)&&(decide (aS.getD (i/2*F*(R - 1)+3) 0=i/2*8+6)&&decide (aS.getD (i/2*F*(R - 1)+(F - 1)*(1 - i%2)) 0=i/2*8+4))
abbrev sL(F R:Nat)(aS:List Nat)(az:Nat):Nat->Nat
 | 0=>0
 | n+1=>if wG F R aS az n=true then sL F R aS az n ||| 1 <<< n else sL F R aS az n
section
variable{d:Nat}{Q:V->H->Prop}{T:H}{s t cp wp au az:Nat}{aS:List Nat}
def LD(hL:CL F R aS)(hp:AA F R aS)(hk:Ff F R aS au)(L:T[cp]? =J (.list (aS.map nv)))(W:T[wp]? =J (AT way))(hw:∀m,way=J m->m.1<F*R):
  ii (K0 (d+4)) 888 [nv F,nv R,.ref cp,nv au,.ref wp] T (.bool (BH F R aS au way)) T:=by
 ext d T cp wp au aS way;exact mk (λQ=>LE rfl) λQ q hc=>by
   have hcp:=f0 L;have L':∀{l:H},(T++l)[cp]? =J (.list (aS.map nv)):=λ{l}=>by rw[ar hcp];exact L
   have W':∀{l:H},(T++l)[wp]? =J (AT way):=λ{l}=>by rw[ar (f0 W)];exact W
   have g0:(T++[O.tup []])[T.length]? =J (.tup []):=bn;cases way with
   | none=>
    refine lv (x:=.bool true) (t:=true) (h1:=T++[.tup []]) (EH (x:=.bool true) (t:=true) (pB ∅ (sO f8 (dF _)) ?_) rfl (λe=>by cases (e)) λw=>⟨rfl,rfl⟩) rfl (λw=>?_) λe=>by cases (e)
    .rw[Tx,W',g0];rfl
    .exact xY (v:=.bool false) o4 hc trivial q λw w z=>z
   | some m=>
    ext Q m;have hm:=hw m rfl;have wm:∀{l:H},(T++l)[wp]? =J (.tup ([m.1,m.2].map nv)):=λ{l}=>W';have rit:∀{e:nw} {l:H} {j:Nat},e[4]? =J (J (.ref wp))->j<2->db (K0 (d+3)) (.sub (.loc 4) (.int (fk j))) e (T++l) (nv ([m.1,m.2].getD j 0)) (T++l):=λ{e l j} l4 hj=>pd (r_loc l4) ac (t9 wm) (v9 hj) (by lia);have ce:∀{e:nw} {l:H},e[4]? =J (J (.ref wp))->e[2]? =J (J (.ref cp))->db (K0 (d+3)) (.sub (.loc 2) (.sub (.loc 4) (.int 0))) e (T++l) (nv (aS.getD m.1 0)) (T++l):=λl4 l2=>sH L' hL hm (r_loc l2) (rit (j:=0) l4 ⋯);refine lv (h1:=T++[.tup []]) (EH (x:=.bool false) (t:=false) (pB ∅ (sO f8 (dF _)) ?_) rfl (λw=>sE (oM (ce rfl rfl) ac) (tI (sA (ce rfl rfl) ac ⋯ ⋯) ∅)) λe=>by cases (e)) bm (λe1=>?_) λe1=>?_
    .rw[Tx,W',g0];rfl
    .have:BH F R aS au (J m)=false:=by
      dsimp only[BH];rcases (cT _ _).mp e1 with h | h
      .rw[show decide (aS.getD m.1 0≠0)=false from cz λz=>z (b9 h)];rfl
      .rw[show decide (aS.getD m.1 0/8=au)=false from cz (b9 h),kJ,fX]
     rw[this] at q;exact xY (v:=.bool false) o4 hc trivial q λw w z=>z
    .rw[fJ] at e1;have c0:aS.getD m.1 0≠0:=cj e1.1;have c1:aS.getD m.1 0/8=au:=cJ λz=>(cj e1.2) z;have bk:BH F R aS au (J m)=(decide (m.2∈oj F R aS m.1)&&sZ F R aS m.1 m.2):=by
      dsimp only[BH];rw[cy c0,cy c1,eQ,eQ]
     rw[bk] at q;have kg:=BI (d:=d+1) (T:=T++[O.tup []]) hL hp hm L';have cm:db (K0 (d+3)) (.cmp (.sub (.loc 4) (.int 1)) .isin (.call 5 869 (.cons (.loc 0) (.cons (.loc 1) (.cons (.loc 2) (.cons (.sub (.loc 4) (.int 0)) .nil)))))) (oP 7 [nv F,nv R,.ref cp,nv au,.ref wp]) (T++[O.tup []]) (.bool (decide (m.2∈oj F R aS m.1))) (T++([O.tup []]++[.list ((oj F R aS m.1).map nv)])):=by
      rw[<- aa];exact pB (rit (j:=1) rfl ⋯) (bi (lc rfl (lc rfl (lc rfl (be (rit (j:=0) rfl ⋯) f8)))) kg) (by show(pN _ _ _).bind _=_;rw[io bn];exact ux)
     by_cases hg:m.2∈oj F R aS m.1
     .rw[cy hg] at q cm;rw[eQ] at q;have hL':aS.length=F*R:=hL.l;have mv:m∈qV F R aS au:=rj.mpr ⟨by rw[hL'];exact hm,c0,c1,hg⟩;exact xY (v:=.bool (sZ F R aS m.1 m.2)) (h3:=T) (t:=[O.tup []]++[.list ((oj F R aS m.1).map nv)]) (qZ cm rfl (λw=>bi (lc rfl (lc rfl (lc rfl (be (rit (j:=0) rfl ⋯) (be (rit (j:=1) rfl ⋯) f8))))) (Dw hL hm (qJ hL hp hm hg) (by rw[c1];exact hk m mv) L')) λe=>by cases (e)) hc trivial q λw w z=>z
     .rw[cz hg] at q cm;exact xY (h3:=T) (t:=[O.tup []]++[.list ((oj F R aS m.1).map nv)]) (v:=.bool false) (qZ cm rfl (λe=>by cases (e)) λw=>⟨rfl,rfl⟩) hc trivial q λw w z=>z
def Lf(hL:CL F R aS)(hr:az=0\/F=7/\R=3)(L:T[cp]? =J (.list (aS.map nv))):ii (K0 (d+1)) 895 [nv F,nv R,.ref cp,nv az] T (nv (sL F R aS az 4)) T:=by
 ext d T cp az aS;exact mk (λQ=>KN rfl) λQ q hc=>by
   have hF:=hL.bd.f;have hR:=hL.bd.r;have L':∀{l:H},(T++l)[cp]? =J (.list (aS.map nv)):=λ{l}=>by rw[ar (f0 L)];exact L
   refine bs ac (rQ (n:=0) (m:=4) (lw _) (pZ (be ac f8) ⋯) bn ⋯ ⋯
    (λj e h=>T++[.aT 0 4 1]=h/\∃x y z,e=[J (nv F),J (nv R),J (.ref cp),J (nv az),J (nv (sL F R aS az j)),x,y,z,U,U]) ⟨rfl,U,U,U,rfl⟩ (λi w hi e h z=>?_) λe h z=>?_)
   .obtain⟨rfl,x,y,z,rfl⟩:=z;have i2:i/2<2:=by lia
    have hm1:i/2*F<1000000000:=by
     rcases (by lia:i/2=0\/i/2=1) with h | h<;>rw[h]<;>lia
    have hm2:(F - 1)<1000000000:=by lia
    refine bs (v:=nv (i/2*F*(R - 1))) (r7 (r7 (sA ∅ ac ⋯ ⋯) ∅ (cU i2 ⋯) (by lia)) (oH ∅ ac (cO ⋯ hR.1)) hm1 (ae (eJ _ _) (by lia))) (bs (v:=nv (i/2*F*(R - 1)+(F - 1)*(1 - i%2)))
     (qG ∅ (r7 (oH ∅ ac (cO ⋯ hF.1)) (oH ac (wF ∅ ac ⋯) (dh (mQ _ ⋯))) (ae (eJ _ _) (by lia)) (ae (eJ _ _) ⋯))) ?_)
    obtain⟨k1,hk1⟩:=(⟨_,rfl⟩:∃k1,k1=i/2*F*(R - 1))
    obtain⟨k2,hk2⟩:=(⟨_,rfl⟩:∃k2,k2=i/2*F*(R - 1)+(F - 1)*(1 - i%2))
    have kd:wG F R aS az i=(decide (az >>> i &&& 1≠0)&&(decide (aS.getD (k1+3) 0=i/2*8+6)&&decide (aS.getD k2 0=i/2*8+4))):=by unfold wG;rw[hk1,hk2]
    have bnd:az >>> i &&& 1≠0->k1+3<F*R/\k2<F*R:=λh=>by
     rcases hr with h0 | ⟨h1,h2⟩
     .subst h0;exact cG (by simp) h
     .rw[hk1,hk2,h1,h2];rcases (by lia:i=0\/i=1\/i=2\/i=3) with h | h | h | h<;>subst h<;>decide
    rw[<- hk2,<-hk1];have sh:db (K0 d) (.bin .band (.bin .shr (.loc 3) (.loc 5)) (.int 1)) [J (nv F),J (nv R),J (.ref cp),J (nv az),J (nv (sL F R aS az i)),J (nv i),J (nv k1),J (nv k2),U,U] (T++[.aT 0 4 1]) (nv (az >>> i &&& 1)) (T++[.aT 0 4 1]):=nb (rD ∅ ∅) ac;have cnd:∃x,db (K0 d) (.and (.bin .band (.bin .shr (.loc 3) (.loc 5)) (.int 1)) (.and (.cmp (.sub (.loc 2) (.bin .add (.loc 6) (.int 3))) .eq (.bin .add (.bin .mul (.bin .div (.loc 5) (.int 2)) (.int 8)) (.int 6))) (.cmp (.sub (.loc 2) (.loc 7)) .eq (.bin .add (.bin .mul (.bin .div (.loc 5) (.int 2)) (.int 8)) (.int 4))))) [J (nv F),J (nv R),J (.ref cp),J (nv az),J (nv (sL F R aS az i)),J (nv i),J (nv k1),J (nv k2),U,U] (T++[.aT 0 4 1]) x (T++[.aT 0 4 1])/\tr x=J (wG F R aS az i):=by
     rw[kd];by_cases h0:az >>> i &&& 1=0
     .exact⟨nv 0,qZ (t:=false) sh (by rw[oE,h0];rfl) (λe=>by cases e) λw=>⟨by rw[h0],rfl⟩,by rw[h0];rfl⟩
     .obtain⟨b1,b2⟩:=bnd h0;refine⟨.bool (decide (aS.getD (k1+3) 0=i/2*8+6)&&decide (aS.getD k2 0=i/2*8+4)),qZ (t:=true) sh (by rw[oE];exact cF J (cy h0)) (λw=>sr (oM (sH L' hL b1 ∅ (qG ∅ ac)) (qG (r7 (sA ∅ ac ⋯ ⋯) ac (cU i2 ⋯) ⋯) ac)) (oM (sH L' hL b2 ∅ ∅) (qG (r7 (sA ∅ ac ⋯ ⋯) ac (cU i2 ⋯) ⋯) ac))) (λe=>by cases e),?_⟩;rw[cy (p:=az >>> i &&& 1≠0) h0,eQ];rfl
    obtain⟨cx,c1,c2⟩:=cnd;refine lv c1 c2 (λe1=>oI rfl (qo ac ∅ ⋯ (by lia)) rW (ld (od ⟨rfl,J (nv i),J (nv k1),J (nv k2),?_⟩))) λe1=>od ⟨rfl,J (nv i),J (nv k1),J (nv k2),?_⟩
    .rw[sL,cC e1];rfl
    .rw[sL,cD (by rw[e1];decide)];rfl
   .obtain⟨rfl,x,y,z,rfl⟩:=z;exact xY (v:=nv (sL F R aS az 4)) ∅ hc trivial q λw w z=>z
end
section
variable{K:pK}{e:nw}{h h1 h2:H}{a b c:E}{i:Nat}{v x:V}{r sa:Ss}{Q:QS}{s t:Bool}{R:V->H->Prop}
def ZR(A:Yw K c e h R)(B:∀v h',R v h'->∃t,tr v=J t/\(t=true->oD K sa e h' (se K r Q))/\(t=false->oD K r e h' Q)):oD K (.cons (.ite c sa .nil) r) e h Q:=by
 exact⟨A.go _ λv h' q=>by
  obtain⟨t,h1,h2,h3⟩:=B v h' q;rw[h1];exact⟨λe=>(h2 e).go,λe=>(h3 e).go⟩⟩
def X5(A:Yw K a e h R)(B:∀v h',R v h'->Q (.ret v) e h'):oD K (.cons (.ret a) r) e h Q:=⟨A.go _ λv h' q=>B v h' q⟩
def V4(A:db K a e h (.bool s) h1)(B:db K b e h1 (.bool t) h2):Yw K (.or a b) e h λv h'=>v= .bool (s||t)/\(h'=h1\/h'=h2):=⟨λQ q=>A.go _ (by
 show wL s _ _;refine⟨λe1=>q _ _ ⟨by rw[e1];rfl,.inl rfl⟩,λe1=>B.go _ (q _ _ ⟨by rw[e1];rfl,.inr rfl⟩)⟩)⟩
def wa:(cn (n+1)).filter f=(cn n).filter f++if f n=true then[n] else[]:=by
 rw[gf,lA];congr 1;cases q:f n<;>simp [q]
end
abbrev Aj(aS:List Nat)(s:Nat):Bool:= !decide (aS.getD s 0%8∈[0,6])
abbrev BL(F:Nat)(aS:List Nat)(s:Nat):Nat × Nat:=(aS.getD s 0%8,(s%F+s/F)%2)
abbrev wO(F:Nat)(aS:List Nat):List (Nat × Nat):=((cn aS.length).filter (Aj aS)).map (BL F aS)
abbrev vp(F:Nat)(aS:List Nat):Bool:=(decide (wO F aS=[(2,0)])||decide (wO F aS=[(2,1)]))||(decide (wO F aS=cW (wO F aS).length (3,0))||decide (wO F aS=cW (wO F aS).length (3,1)))
section
variable{d:Nat}{Q:V->H->Prop}{T:H}{s t cp:Nat}{aS:List Nat}
def pQ.app{h t:H}(hb:b'<=b)(P:pQ h b vs ps):pQ (h++t) b' vs ps:=P.mono hb λw w w g=>(ar (f0 g)).trans g
def VO{K:pK}(h0:0<h.length)(A:∀h,db K a e h (.ref p) h)(g:h[p]? =J (.list vs))(P:pQ h 0 vs ps):
  db K (.cmp a .eq (.list (.cons (.tup (.cons (.int (fk x)) (.cons (.int (fk y)) .nil))) .nil))) e h (.bool (decide (ps=[(x,y)]))) (h++([.tup [nv x,nv y]]++[.list [.ref h.length]])):=by
 rw[<- aa];refine pB (A _) (qe (be (sO (be ac (be ac f8)) (by show(2:Nat)<=1000;decide)) f8) (by show(1:Nat)<=1000;decide)) ?_;refine MU (b':=0) ?_ bn ((P.app (cX _)).app (cX _)) ⟨⟨h.length,rfl,h0,(ar (by simp)).trans bn⟩,trivial⟩;rw[aa,ar (f0 g)];exact g
def V6{K:pK}(h0:0<h.length)(A:∀h,db K a e h (.ref p) h)(N:∀t,db K n e (h++t) (nv ps.length) (h++t))(hl:ps.length<=1000)(g:h[p]? =J (.list vs))(P:pQ h 0 vs ps):
  db K (.cmp a .eq (.rep (.cons (.tup (.cons (.int (fk x)) (.cons (.int (fk y)) .nil))) .nil) n)) e h (.bool (decide (ps=cW ps.length (x,y)))) (h++([.tup [nv x,nv y]]++[.list (cW ps.length [V.ref h.length]).flatten])):=by
 rw[<- aa];refine pB (A _) (Nv (be (sO (be ac (be ac f8)) (by show(2:Nat)<=1000;decide)) f8) (N _) (by show(1:Nat)<=10;decide) hl) ?_;refine MU (b':=0) ?_ bn ((P.app (cX _)).app (cX _)) (Nq (r:=(x,y)) h0 ((ar (by simp)).trans bn) _);rw[aa,ar (f0 g)];exact g
def KW(hL:CL F R aS)(L:T[cp]? =J (.list (aS.map nv))):ii (K0 (d+1)) 900 [nv F,.ref cp] T (.bool (vp F aS)) T:=by
 ext d T cp aS;exact mk (λQ=>Lu rfl) λQ q hc=>by
   have hcp:=f0 L;have hF:=hL.bd.f;have hsz:=hL.bd.sz;have hl:=hL.l;have F0:0<F:=by lia
   have L':∀{l:H},(T++l)[cp]? =J (.list (aS.map nv)):=λ{l}=>by rw[ar hcp];exact L
   have z0:=tV (K:=K0 d) (i:=4) (a:=.loc 1) (h:=T) (e:=oP 5 [nv F,.ref cp]) ∅ (io L) (by rw[bj];lia);rw[bj] at z0;obtain⟨hb,hhb⟩:=(⟨_,rfl⟩:∃hb,hb=T++[O.aT ((0:Nat):Int) (aS.length:Int) 1])
   have rg:hb[T.length]? =J (.aT ((0:Nat):Int) (aS.length:Int) 1):=by rw[hhb];exact bn
   have Lb:∀{l:H},(hb++l)[cp]? =J (.list (aS.map nv)):=λ{l}=>by rw[hhb,aa];exact L'
   have rA:db (K0 d) (.range 3 (.cons (.len 4 (.loc 1)) .nil)) (oP 5 [nv F,.ref cp]) T (.ref T.length) hb:=by
    rw[hhb];exact pZ (i:=3) (be z0 f8) (by lia)
   refine R9 (UD (k:=.aT ((0:Nat):Int) aS.length 1) (lw _) rA (by
    simp only[Fg,tR,rg,ry (n:=aS.length) (by lia)];rfl) aS.length (λj h=>∃vs jk,h=hb++(.list vs::jk)/\pQ h hb.length vs (((cn j).filter (Aj aS)).map (BL F aS)))
    ⟨[],[],rfl,trivial⟩ (λj hj h z=>?_) λh z=>?_) λv h' z=>?_
   .obtain⟨vs,jk,rfl,hP⟩:=z;have hj2:j<F*R:=by rw[<- hl];exact hj
    have cell:∀{h:H} {e:nw},h[cp]? =J (.list (aS.map nv))->e[1]? =J (J (.ref cp))->e[5]? =J (J (nv j))->db (K0 d) (.bin .mod (.sub (.loc 1) (.loc 5)) (.int 8)) e h (nv (aS.getD j 0%8)) h:=λL l2 l3=>wF (sH L hL hj2 (r_loc l2) (r_loc l3)) ac ⋯;have L3:∀{l m:H},(hb++l++m)[cp]? =J (.list (aS.map nv)):=λ{l m}=>by rw[aa];exact Lb
    have L2:∀{l:H},(hb++l)[cp]? =J (.list (aS.map nv)):=Lb;refine⟨nv j,.bool (Aj aS j),Aj aS j,_,?_,pB (cell L2 rfl rfl) (sO (be ac (be ac f8)) (by show(2:Nat)<=1000;decide)) ?_,rfl,λe1=>?_,λe1=>⟨vs,jk++[.tup [nv 0,nv 6]],by rw[aa,eA],?_⟩⟩
    .have:=tM (K:=K0 d) (h:=hb++(.list vs::jk)) (x:=.ref T.length) (n:=0) (m:=aS.length) (j:=j) (N:=aS.length) (dY _);rw[cC hj,dY] at this;exact this
    .show(pN _ _ _).bind _=_;rw[t9 bn,eP];rw[show z8 _ (nv (aS.getD j 0%8)) [nv 0,nv 6]=J (decide (aS.getD j 0%8∈[0,6])) from ux (l:=[0,6])];rfl
    .have ln:=hP.len;have vl:vs.length<1000:=by
      rw[ln,bj];have:=eS (Aj aS) (cn j);rw[dn] at this;lia
     refine⟨.ref (hb++(O.list vs::jk)++[O.tup [nv 0,nv 6]]).length,(hb++(O.list vs::jk)++[O.tup [nv 0,nv 6]])++[O.tup [nv (aS.getD j 0%8),nv ((j%F+j/F)%2)]],_,sO (be (cell L3 rfl rfl) (be (wF (qG (wF ∅ ∅ F0) (sA ∅ ∅ F0 (by lia))) (ac (n:=2)) ⋯) f8)) (by show(2:Nat)<=1000;decide),by rw[aa,aa,eA];exact Am vl,_,_,rfl,?_⟩;rw[wa,cC e1,dO];refine pQ.append (hP.mono (cX _) λi o hi g=>?_) ⟨⟨_,rfl,?_,?_⟩,trivial⟩
     .rw[cQ (dH hi)] at g ⊢;obtain⟨k,hk2⟩:=iC hi;rw[show i - hb.length=k+1 by lia] at g ⊢;rw[jP] at g ⊢;show((jk++[O.tup [nv 0,nv 6]])++[O.tup [nv (aS.getD j 0%8),nv ((j%F+j/F)%2)]])[k]? =J o;rw[aa,ar (f0 g)];exact g
     .simp only[a6,ey,eV];lia
     .show(hb++(O.list _::((jk++[O.tup [nv 0,nv 6]])++[O.tup [nv (aS.getD j 0%8),nv ((j%F+j/F)%2)]])))[_]? =_;rw[<- eA,<-aa hb];exact pT (by simp only[a6,ey,eV])
    .rw[wa,cD (by rw[e1];decide),cN];exact hP.app (cX _)
   .have:=tM (K:=K0 d) (h:=h) (x:=.ref T.length) (n:=0) (m:=aS.length) (j:=aS.length) (N:=aS.length) (dY _);rw[cD (eU _)] at this;exact this
   .obtain⟨rfl,vs,jk,rfl,hP⟩:=z;have hP:pQ _ _ vs (wO F aS):=hP;have ll:(wO F aS).length<=aS.length:=by
     unfold wO;rw[bj];have:=eS (Aj aS) (cn aS.length);rw[dn] at this;exact this
    have ln:=hP.len;unfold vp at q;obtain⟨fd,hfd⟩:=(⟨_,rfl⟩:∃fd,fd=wO F aS)
    rw[<- hfd] at hP ll ln q;obtain⟨h1,hh1⟩:=(⟨_,rfl⟩:∃h1,h1=hb++(.list vs::jk))
    obtain⟨p,hp⟩:=(⟨_,rfl⟩:∃p,p=hb.length)
    have pre:∃jk',h1=T++jk':=⟨_,by rw[hh1,hhb,aa]⟩
    have g:h1[p]? =J (.list vs):=by rw[hh1,hp];simp
    have h0:0<h1.length:=by rw[hh1];simp only[a6,ey,eV];lia
    rw[<- hh1,<-hp];rw[<- hh1,<-hp] at hP;have hP:=hP.app (t:=[]) (dF _);rw[cN] at hP;have gA:∀{t:H},(h1++t)[p]? =J (.list vs):=λ{t}=>(ar (f0 g)).trans g;have lenE:∀{e:nw} (t:H),e[2]? =J (J (.ref p))->db (K0 d) (.len 4 (.loc 2)) e (h1++t) (nv fd.length) (h1++t):=λ{e} t l=>by
     have z:=tV (K:=K0 d) (i:=4) (a:=.loc 2) (e:=e) (r_loc l) (io (gA (t:=t))) (by lia);rw[ln] at z;exact z
    have h0':∀{t:H},0<(h1++t).length:=λ{t}=>by rw[a6];lia
    refine ZR (V4 (VO h0 (λh=>r_loc rfl) g hP) (VO h0' (λh=>r_loc rfl) gA (hP.app (cX _)))) λv h' z=>?_;obtain⟨rfl,hh⟩:=z;have ex:∃t,h'=h1++t:=by
     rcases hh with h | h
     .exact⟨_,h⟩
     .rw[aa] at h;exact⟨_,h⟩
    obtain⟨t1,rfl⟩:=ex;refine⟨_,rfl,λe1=>?_,λe1=>?_⟩
    .rw[e1] at q;obtain⟨jk',rfl⟩:=pre;rw[aa];exact xY (v:=.bool true) o4 hc trivial q λw w z=>z
    .rw[e1,fq] at q;refine X5 (V4 (V6 h0' (λh=>r_loc rfl) (λt=>by rw[aa];exact lenE _ rfl) (by lia) gA (hP.app (cX _))) (V6 (by rw[aa];exact h0') (λh=>r_loc rfl) (λt=>by rw[aa,aa];exact lenE _ rfl) (by lia) (by rw[aa];exact gA) ((hP.app (cX _)).app (cX _)))) λv h' z=>?_;obtain⟨rfl,hh⟩:=z;have ex:∃t,h'=T++t:=by
      obtain⟨jk',rfl⟩:=pre;rcases hh with h | h
      .rw[aa,aa] at h;exact⟨_,h⟩
      .rw[aa,aa,aa] at h;exact⟨_,h⟩
     obtain⟨t2,rfl⟩:=ex;exact .inr (.inl ⟨T,t2,rfl,cX _,hc,trivial,q⟩)
end
abbrev qY(n:Nat):V->V
 | .ref k=>.ref (n+k)
 | v=>v
abbrev Ja(n:Nat):O->O
 | .list xs=>.list (xs.map (qY n))
 | .tup xs=>.tup (xs.map (qY n))
 | .inst c fs=>.inst c (fs.map λp=>(p.1,qY n p.2))
 | .aT a b s=>.aT a b s
def CP{b:Bool}{o:Option α}{k:α}{C:Prop}(h:gd b o=J k)(c:b=true->o=J k->C):C:=c (uE h).1 (uE h).2
@[elab_as_elim] def sm{x p:α}{P:α->Prop}(h:J x=J p)(f:P x):P p:=cI h▸f
abbrev V.i?(v:V):Option Int:=match v with | .int i=>J i | _=>Option.none
def u7{v:V}(h:v.i? =J i):v= .int i:=by cases v<;>first | exact oF h | exact cF V.int (cI h)
abbrev nI:Int->Option Nat
 | .ofNat n=>J n
 | .negSucc _=>U
def G4(h:nI i=J n):i=(n:Int):=by cases i<;>first | exact oF h | exact cF fk (cI h)
abbrev V.n?(v:V):Option Nat:=v.i?.bind nI
def KA(h:v.n? =J n):v=nv n:=bd h λi e h=>(u7 e).trans (cF V.int (G4 h))
abbrev V.r?(v:V):Option Nat:=match v with | .ref i=>J i | _=>Option.none
def Ax{v:V}(h:v.r? =J i):v= .ref i:=by cases v<;>first | exact oF h | exact cF V.ref (cI h)
abbrev O.l? :O->Option (List V)
 | .list xs=>J xs
 | .tup _=>U
 | .inst _ _=>U
 | .aT _ _ _=>U
def K1{o:O}(h:o.l? =J xs):o= .list xs:=by cases o<;>first | exact oF h | exact cF O.list (cI h)
abbrev O.s? :O->Option (List V)
 | .list xs=>J xs
 | .tup xs=>J xs
 | .inst _ _=>U
 | .aT _ _ _=>U
abbrev O.f? :O->Option (Nat × List (Nat × V))
 | .inst c fs=>J (c,fs)
 | .tup _=>U
 | .list _=>U
 | .aT _ _ _=>U
def Ks{o:O}(h:o.f? =J p):o= .inst p.1 p.2:=by cases o<;>first | exact oF h | exact cF (λp=>O.inst p.1 p.2) (cI h)
abbrev O.g? :O->Option (Int × Int × Int)
 | .aT a b s=>J (a,b,s)
 | .tup _=>U
 | .list _=>U
 | .inst _ _=>U
def W6{o:O}(h:o.g? =J p):o= .aT p.1 p.2.1 p.2.2:=by cases o<;>first | exact oF h | exact cF (λp=>O.aT p.1 p.2.1 p.2.2) (cI h)
abbrev n2(a b:Int)(f:Nat->Nat->Option Nat):Option Int:=(nI a).bind λa=>(nI b).bind λb=>(f a b).map fk
abbrev Vv:Fh->Int->Int->Option Int
 | .add,a,b=>J (a+b)
 | .sub,a,b=>J (a - b)
 | .mul,a,b=>gd (small a&&small b) (J (a*b))
 | .div,a,b=>n2 a b λa b=>gd (decide (0<b)&&decide (b<1000000)) (J (a/b))
 | .mod,a,b=>n2 a b λa b=>gd (decide (0<b)) (J (a%b))
 | .shl,a,b=>n2 a b λa b=>gd (decide (a<1000000000)&&decide (b<=1000000)) (J (a <<< b))
 | .shr,a,b=>n2 a b λa b=>J (a >>> b)
 | .band,a,b=>(nI a).bind λa=>match b with | .ofNat b=>J (fk (a &&& b)) | .negSucc b=>J (fk (oh a b))
 | .bor,a,b=>n2 a b λa b=>J (a ||| b)
 | .bxor,_,_=>U
abbrev QH(o:Fh)(x y:V):Option Int:=x.i?.bind λa=>y.i?.bind λb=>Vv o a b
abbrev VU:Kk->Int->Int->Option Bool
 | .eq,a,b=>J (a == b)
 | .lt,a,b=>J (decide (a<b))
 | .gt,a,b=>J (decide (b<a))
 | .ge,a,b=>J (decide (b<=a))
 | .ne,_,_=>U
 | .le,_,_=>U
 | .is,_,_=>U
 | .isnot,_,_=>U
 | .isin,_,_=>U
 | .b7,_,_=>U
abbrev Y3(o:Kk)(x y:V):Option Bool:=x.i?.bind λa=>y.i?.bind λb=>VU o a b
abbrev trI:V->Option Bool
 | .bool b=>J b
 | .int i=>J (i != 0)
 | .none=>U
 | .str _=>U
 | .ref _=>U
 | .con _=>U
abbrev Zh(h:H):V->Option (List V)
 | .ref p=>h[p]?.bind O.s?
 | .con a=>(yT a).bind λp=>gd (!p.1) (J p.2)
 | .none=>U
 | .bool _=>U
 | .int _=>U
 | .str _=>U
abbrev X7(h:H)(x y:V):Option V:=(Zh h x).bind λxs=>y.n?.bind λi=>gd (decide (i<1000000)) xs[i]?
abbrev VN(h:H)(x:V)(n:Nat):Option V:=x.r?.bind λp=>h[p]?.bind λo=>o.f?.bind λcf=>cf.2.lookup n
abbrev Wd(h:H)(x:V)(n:Nat)(v:V):Option H:=x.r?.bind λp=>h[p]?.bind λo=>o.f?.bind λcf=>gd (decide (cf.2.length<100)) (J (h.set p (.inst cf.1 (Ez n v cf.2))))
abbrev QU(h:H)(x y v:V):Option H:=x.r?.bind λp=>y.n?.bind λi=>h[p]?.bind λo=>o.l?.bind λxs=>gd (decide (i<xs.length)&&decide (i<1000000)) (J (h.set p (.list (xs.set i v))))
abbrev WR(h:H)(x v:V):Option H:=x.r?.bind λp=>h[p]?.bind λo=>o.l?.bind λxs=>gd (decide (xs.length<1000)) (J (h.set p (.list (xs++[v]))))
abbrev Z8(h:H)(is:List Int):Option (V × H):=match is with
 | []=>U
 | a::r=>match r with
  | []=>gd (yA a) (J (.ref h.length,h++[.aT 0 a 1]))
  | b::r=>match r with
   | []=>U
   | s::r=>gd (r.isEmpty&&(yA a&&yA b&&(s == 1||s == 2||s == -1))) (J (.ref h.length,h++[.aT a b s]))
abbrev ZL(h:H)(vs:List V):Option (V × H):=(uJ vs).bind (Z8 h)
abbrev Zg(h:H)(x:V):Option (Int × Int × Int):=x.r?.bind λp=>h[p]?.bind λo=>o.g?.bind λt=>gd (yA t.1&&yA t.2.1&&(t.2.2 == 1||t.2.2 == 2||t.2.2 == -1)) (J t)
abbrev No(lp:Nat)(f:V->H->Option (V × H)):Nat->Int->Int->H->Option H
 | 0,_,_,h=>J h
 | n+1,x,s,h=>(f (.int x) h).bind λp=>(WR p.2 (.ref lp) p.1).bind λh=>No lp f n (x+s) s h
abbrev YR(v:V):Bool:=v.ctorIdx == 2||v.ctorIdx == 5
abbrev TF(v:V):Bool:=v.ctorIdx == 0
mutual
noncomputable def qU(C:Nat->List V->H->Option (V × H)):E->nw->H->Option (V × H)
 | .bK,_,h=>J (.none,h)
 | .bool b,_,h=>J (.bool b,h)
 | .int i,_,h=>J (.int i,h)
 | .loc i,e,h=>e[i]?.bind λo=>o.bind λv=>J (v,h)
 | .glo _ v,_,h=>gd (YR v) (J (v,h))
 | .and a b,e,h=>(qU C a e h).bind λp=>(trI p.1).bind λt=>cond t (qU C b e p.2) (J p)
 | .or a b,e,h=>(qU C a e h).bind λp=>(trI p.1).bind λt=>cond t (J p) (qU C b e p.2)
 | .neg a,e,h=>(qU C a e h).bind λp=>p.1.i?.bind λi=>J (.int (-i),p.2)
 | .inv a,e,h=>(qU C a e h).bind λp=>p.1.i?.bind λi=>J (.int (-i - 1),p.2)
 | .bin o a b,e,h=>(qU C a e h).bind λp=>(qU C b e p.2).bind λq=>(QH o p.1 q.1).bind λz=>J (.int z,q.2)
 | .cmp a o b,e,h=>(qU C a e h).bind λp=>(qU C b e p.2).bind λq=>(Y3 o p.1 q.1).bind λz=>J (.bool z,q.2)
 | .list es,e,h=>(Lq C es e h).bind λp=>gd (decide (p.1.length<=1000)) (J (.ref p.2.length,p.2++[.list p.1]))
 | .tup es,e,h=>(Lq C es e h).bind λp=>gd (decide (p.1.length<=1000)) (J (.ref p.2.length,p.2++[.tup p.1]))
 | .rep es n,e,h=>(Lq C es e h).bind λp=>(qU C n e p.2).bind λq=>q.1.n?.bind λk=>gd (decide (p.1.length<=10)&&decide (k<=1000)) (J (.ref q.2.length,q.2++[.list (cW k p.1).flatten]))
 | .comp elt i iter test,e,h=>(qU C iter e h).bind λp=>(Zg p.2 p.1).bind λt=>gd (CV test) ((No p.2.length (λv h=>qU C elt (e.set i (J v)) h) (pG t.1 t.2.1 t.2.2) t.1 t.2.2 (p.2++[.list []])).bind λh'=>J (.ref p.2.length,h'))
 | .call _ f es,e,h=>(Lq C es e h).bind λp=>C f p.1 p.2
 | .range _ es,e,h=>(Lq C es e h).bind λp=>ZL p.2 p.1
 | .append a x,e,h=>(qU C a e h).bind λp=>gd (UG p.2 p.1) ((qU C x e p.2).bind λq=>(WR q.2 p.1 q.1).bind λh=>J (.none,h))
 | .attr a n,e,h=>(qU C a e h).bind λp=>(VN p.2 p.1 n).bind λv=>J (v,p.2)
 | .sub a b,e,h=>(qU C a e h).bind λp=>(qU C b e p.2).bind λq=>(X7 q.2 p.1 q.1).bind λv=>J (v,q.2)
 | .str _,_,_=>U
 | .not _,_,_=>U
 | .ite _ _ _,_,_=>U
 | .bU _ _ _ _ _,_,_=>U
 | .len _ _,_,_=>U
 | .abs _ _,_,_=>U
 | .index _ _,_,_=>U
 | .pop _,_,_=>U
 | .slice _ _ _,_,_=>U
noncomputable def Lq(C:Nat->List V->H->Option (V × H)):Es->nw->H->Option (List V × H)
 | .nil,_,h=>J ([],h)
 | .cons a es,e,h=>(qU C a e h).bind λp=>(Lq C es e p.2).bind λq=>J (p.1::q.1,q.2)
end
noncomputable abbrev St:=Option V × nw × H
abbrev JF(f:V->nw->H->Option St):Nat->Int->Int->nw->H->Option (nw × H)
 | 0,_,_,e,h=>J (e,h)
 | n+1,x,s,e,h=>(f (.int x) e h).bind λp=>gd p.1.isNone (JF f n (x+s) s p.2.1 p.2.2)
abbrev YS(C:Nat->List V->H->Option (V × H)):af->V->nw->H->Option (nw × H)
 | .loc i,v,e,h=>J (e.set i (J v),h)
 | .attr p n,v,e,h=>(qU C p e h).bind λx=>(Wd x.2 x.1 n v).bind λh=>J (e,h)
 | .sub p q,v,e,h=>(qU C p e h).bind λx=>(qU C q e x.2).bind λy=>(QU y.2 x.1 y.1 v).bind λh=>J (e,h)
 | .tup _,_,_,_=>U
abbrev YO(C:Nat->List V->H->Option (V × H))(o:Fh)(a:E):af->nw->H->Option (nw × H)
 | .loc i,e,h=>e[i]?.bind λx=>x.bind λx=>(qU C a e h).bind λp=>(QH o x p.1).bind λz=>J (e.set i (J (.int z)),p.2)
 | .sub p q,e,h=>(qU C p e h).bind λx=>(qU C q e x.2).bind λy=>(X7 y.2 x.1 y.1).bind λu=>(qU C a e y.2).bind λw=>(QH o u w.1).bind λz=>(QU w.2 x.1 y.1 (.int z)).bind λh=>J (e,h)
 | .attr _ _,_,_=>U
 | .tup _,_,_=>U
abbrev Y0:af->Option Nat
 | .loc i=>J i
 | .attr _ _=>U
 | .sub _ _=>U
 | .tup _=>U
mutual
noncomputable def X4(C:Nat->List V->H->Option (V × H)):S->nw->H->Option St
 | .assign t a,e,h=>(qU C a e h).bind λp=>(YS C t p.1 e p.2).bind λq=>J (U,q.1,q.2)
 | .aug t o a,e,h=>(YO C o a t e h).bind λq=>J (U,q.1,q.2)
 | .expr a,e,h=>(qU C a e h).bind λp=>gd (TF p.1) (J (U,e,p.2))
 | .ret a,e,h=>(qU C a e h).bind λp=>J (J p.1,e,p.2)
 | .ite c a b,e,h=>(qU C c e h).bind λp=>(trI p.1).bind λt=>cond t (wZ C a e p.2) (wZ C b e p.2)
 | .each t it b,e,h=>(Y0 t).bind λi=>(qU C it e h).bind λp=>(Zg p.2 p.1).bind λt=>(JF (λv e h=>wZ C b (e.set i (J v)) h) (pG t.1 t.2.1 t.2.2) t.1 t.2.2 e p.2).bind λq=>J (U,q.1,q.2)
 | .loop _ _,_,_=>U
 | .brk,_,_=>U
 | .fail,_,_=>U
noncomputable def wZ(C:Nat->List V->H->Option (V × H)):Ss->nw->H->Option St
 | .nil,e,h=>J (U,e,h)
 | .cons s r,e,h=>(X4 C s e h).bind λp=>cond p.1.isNone (wZ C r p.2.1 p.2.2) (J p)
end
abbrev fnT:List (Nat × (Nat × Fn)):=[(174,(5,wE)),(188,(2,zy)),(195,(6,BE)),(202,(5,wz)),(209,(13,DO)),(216,(3,BG)),(223,(12,yj)),(230,(8,ym)),(237,(12,wD)),(293,(5,wC)),(825,(5,wY))]
abbrev TB:List (Nat × (Nat × Nat)):=[(177,(0,174)),(296,(1,293)),(828,(2,825))]
abbrev CI:Nat->Nat->List V->H->Option (V × H)
 | 0,_,_,_=>U
 | n+1,f,vs,h=>match TB.lookup f with
  | some c=>(CI n c.2 (.ref h.length::vs) (h++[.inst c.1 []])).bind λp=>gd (TF p.1) (J (.ref h.length,p.2))
  | none=>(fnT.lookup f).bind λq=>gd (q.2.na == vs.length) ((wZ (CI n) q.2.body (oP q.1 vs) h).bind λp=>J (p.1.getD .none,p.2.2))
abbrev PZ(C:Nat->List V->H->Option (V × H)):Nat->Ss->nw->H->Option (nw × H × Ss)
 | 0,r,e,h=>J (e,h,r)
 | n+1,.cons s r,e,h=>(X4 C s e h).bind λp=>gd p.1.isNone (PZ C n r p.2.1 p.2.2)
 | _+1,.nil,_,_=>U
structure Cd (n:Nat) (bM e Z:nw):Prop where
 len:e.length=Z.length
 bZ:∀(i:Nat) (v:V),e[i]? =J (J v)->Z[i]? =J (J (qY n v))
 none_:∀i:Nat,e[i]? =J U->Z[i]? =bM[i]?
def Cd.set(c:Cd n bM e Z)(i:Nat)(v:V):Cd n bM (e.set i (J v)) (Z.set i (J (qY n v))) where
 len:=by rw[cP,cP];exact c.len
 bZ:=λj u g=>(uf g).elim (λg=>by
  rw[<- g.1,cI g.2.1,fS (c.len▸g.2.2)]) λg=>by
  rw[eL g.1];exact c.bZ j u g.2
 none_:=λj g=>(uf g).elim (λg=>nomatch g.2.1) λg=>by
  rw[eL g.1];exact c.none_ j g.2
abbrev qt(T h:H):H:=T++h.map (Ja T.length)
section
variable{T h h' t:H}{p i:Nat}{o:O}{v x y:V}{xs:List V}{K:pK}{b:Bool}
def yR:(qt T h).length=T.length+h.length:=by unfold qt;rw[a6,bj]
def vR(g:h[p]? =J o):(qt T h)[T.length+p]? =J (Ja T.length o):=by
 unfold qt;rw[cQ (de _ _),d0,cV,g];rfl
def Me:qt T (h++t)=qt T h++t.map (Ja T.length):=by unfold qt;rw[dO,aa]
def KS:qt T (h.set p o)=(qt T h).set (T.length+p) (Ja T.length o):=by
 unfold qt;rw[ew _ _ (de _ _),d0,lU]
def XF{a b z:Int}{f:Nat->Nat->Option Nat}{C:Int->Int->Int->Prop}(q:n2 a b f=J z)(c:∀m n k,f m n=J k->C (m:Int) (n:Int) (k:Int)):C a b z:=
 bd q λm e1 q=>bd q λn e2 q=>by
  obtain⟨k,e3,e4⟩:=dg.mp q;rw[G4 e1,G4 e2,<-e4];exact c m n k e3
def nn{o:Fh}{a b k:Nat}(q:∀Q:V->H->Prop,te (pq o (nv a) (nv b) h) Q=Q (nv k) h):pq o (nv a) (nv b) h=J (nv k,h):=IJ q
def Sy{op:Fh}{a b z:Int}(q:Vv op a b=J z):pq op (.int a) (.int b) h=J (.int z,h):=by
 have N:=λ{o:Fh} (f:Nat->Nat->Option Nat) (q:n2 a b f=J z) (c:∀m n k,f m n=J k->pq o (nv m) (nv n) h=J (nv k,h))=>XF (C:=λa b z=>pq o (.int a) (.int b) h=J (.int z,h)) q c;cases op with
 | add=>exact cF (λz=>J (V.int z,h)) (cI q)
 | sub=>exact cF (λz=>J (V.int z,h)) (cI q)
 | mul=>exact CP q λhs q=>(cC hs).trans (cF (λz=>J (V.int z,h)) (cI q))
 | div=>exact N _ q λm n k q=>CP q λhs q=>sm q (nn λQ=>Rq (b9 (bl hs)) (b9 (br hs)))
 | mod=>exact N _ q λm n k q=>CP q λhs q=>sm q (nn λQ=>VK (b9 hs))
 | shl=>exact N _ q λm n k q=>CP q λhs q=>sm q (nn λQ=>VD (b9 (bl hs)) (b9 (br hs)))
 | shr=>exact N _ q λm n k q=>sm q (nn λQ=>Sf)
 | band=>
  refine bd q λm e q=>?_;rw[G4 e];cases b with
  | ofNat b=>exact sm (P:=λz=>pq .band (.int (m:Int)) (.int (b:Int)) h=J (.int z,h)) q (nn λQ=>SM)
  | negSucc b=>
   refine sm (P:=λz=>pq .band (.int (m:Int)) (.int (mr b)) h=J (.int z,h)) q ?_;show J (V.int (fW (m:Int) (mr b)),h)=J (V.int ((oh m b:Nat):Int),h);rw[show mr b=dW (b:Int) from(Int.negSucc_eq b).trans (Int.neg_add ..),DC]
 | bor=>exact N _ q λm n k q=>sm q (nn λQ=>RH)
 | bxor=>exact oF q
def Nz(q:QH op x y=J z):pq op (qY T.length x) (qY T.length y) h=J (.int z,h):=bd q λa e1 q=>bd q λb e2 q=>by
 rw[u7 e1,u7 e2];exact Sy q
def PP(q:VU op a c=J b):s7 K op (.int a) (.int c) h=J b:=by cases op<;>first | exact q | exact oF q
def Uk(q:Y3 op x y=J b):s7 K op (qY T.length x) (qY T.length y) h=J b:=bd q λa e1 q=>bd q λb e2 q=>by
 rw[u7 e1,u7 e2];exact PP q
def KT(q:trI x=J b):tr (qY T.length x)=J b:=by cases x<;>first | exact q | exact oF q
def O5(q:yT a=J (false,xs)):xs.map (qY n)=xs:=by
 have z:=cK.mp (cK.mp (show(LJ.all λq=>q.2.1||q.2.2.all λv=>v.ctorIdx == 2)=true by decide +kernel) _ (HO q));refine(kU λv hv=>?_).trans (List.map_id _);exact V.int.elim (motive:=λv=>qY n v=v) v (cH (z v hv)) λw=>rfl
def Wu(g:h[q]? =J o)(e:o.s? =J xs):pN K (qt T h) (.ref (T.length+q))=J (xs.map (qY T.length)):=by
 cases o with
 | list ys=>exact(io (vR g)).trans (cF (λxs=>J (xs.map (qY T.length))) (cI e))
 | tup ys=>exact(t9 (vR g)).trans (cF (λxs=>J (xs.map (qY T.length))) (cI e))
 | inst _ _=>exact oF e
 | aT _ _ _=>exact oF e
def TA(C:Cn con)(hK:K.con=con)(q:Zh h x=J xs):pN K (qt T h) (qY T.length x)=J (xs.map (qY T.length)):=by
 cases x with
 | ref p=>exact bd q λo g e=>Wu g e
 | con a=>
  refine bd q λp g e=>CP e λe1 e2=>?_;have hp:p=(false,xs):=iG (nt e1) (cI e2);rw[hp] at g;rw[O5 g];exact Ju (o:=(false,[])) (hK▸C _ _ g)
 | none=>exact oF q
 | bool _=>exact oF q
 | int _=>exact oF q
 | str _=>exact oF q
def Mp(C:Cn con)(hK:K.con=con)(q:X7 h x y=J v):xq K (qY T.length x) (qY T.length y) (qt T h)=J (qY T.length v):=bd q λxs g q=>bd q λi e q=>CP q λl q=>by
 rw[KA e];show xq K _ (.int (i:Int)) _=_;unfold xq;dsimp only[Yp];rw[TA C hK g,eP];rw[cC ⟨dR i,eC.mpr (b9 l)⟩,eW,cV,q];rfl
def F6:∀{fs:List (Nat × V)},(fs.map λp=>(p.1,qY n p.2)).lookup k=(fs.lookup k).map (qY n)
 | []=>rfl
 | (m,u)::fs=>by
  rw[dw,d6,d6];cases k == m
  .exact F6
  .rfl
def Ri(q:VN h x k=J v):xA (qY T.length x) k (qt T h)=J (qY T.length v):=bd q λp e q=>bd q λo g q=>bd q λcf f q=>by
 rw[Ax e];show xA (.ref _) k _=_;unfold xA;dsimp only[Rf];rw[vR g,Ks f];exact F6.trans (cF _ q)
def PU:∀{fs:List (Nat × V)},Ez k (qY n v) (fs.map λp=>(p.1,qY n p.2))=(Ez k v fs).map λp=>(p.1,qY n p.2)
 | []=>rfl
 | (m,u)::fs=>by
  show(if m == k then _ else _)=List.map _ (if m == k then _ else _);cases m == k
  .exact cF ((m,qY n u)::·) PU
  .rfl
def Qg(q:Wd h x k v=J h'):rR (qY T.length x) k (qY T.length v) (qt T h)=J (qt T h'):=bd q λp e q=>bd q λo g q=>bd q λcf f q=>CP q λl q=>by
 rw[Ax e,<-cI q,KS];show rR (.ref _) k _ _=_;unfold rR;dsimp only[Rf];rw[vR g,Ks f];refine(cC (by rw[bj];exact b9 l)).trans ?_;rw[PU];rfl
def TP(h:i<1000000):(i:Int)<1000000:=by lia
def J2(q:QU h x y v=J h'):pV (qY T.length x) (qY T.length y) (qY T.length v) (qt T h)=J (qt T h'):=by
 ext T h h' v x y;exact bd q λp e q=>bd q λi e2 q=>bd q λo g q=>bd q λxs f q=>CP q λl q=>by
  rw[Ax e,KA e2,<-cI q,KS];have g2:(qt T h)[T.length+p]? =_:=(vR g).trans (cF (λo=>J (Ja T.length o)) (K1 f));refine(AN (λxs=>if 0<=(i:Int)/\(i:Int)<1000000/\(i:Int).toNat<xs.length then J ((qt T h).set (T.length+p) (.list (xs.set (i:Int).toNat (qY T.length v)))) else U) g2).trans ?_;rw[cC ⟨dR i,TP (b9 (br l)),by rw[bj];exact b9 (bl l)⟩,eW];exact cF (λl=>J ((qt T h).set (T.length+p) (.list l))) lU.symm
def NJ(q:WR h x v=J h'):o8 (qY T.length x) (qY T.length v) (qt T h)=J (.none,qt T h'):=bd q λp e q=>bd q λo g q=>bd q λxs f q=>CP q λl q=>by
 rw[Ax e,<-cI q,KS];show o8 (.ref _) _ _=_;unfold o8;dsimp only[Rf];rw[vR g,K1 f];refine(cC (by rw[bj];exact b9 l)).trans ?_;exact cF (λl=>J (V.none,(qt T h).set (T.length+p) (.list l))) (dO (f:=qY T.length) (l₁:=xs) (l₂:=[v])).symm
def Ud{is:List Int}:(is.map V.int).map (qY n)=is.map V.int:=by rw[hZ];rfl
def D9:∀is:List Int,uJ (is.map V.int)=J is
 | []=>rfl
 | i::is=>by
  show(uJ (is.map V.int)).map (i::·)=_;rw[D9 is];rfl
def Un{p:V × H}(q:ZL h xs=J p):sF (xs.map (qY T.length)) (qt T h)=J (qY T.length p.1,qt T p.2):=by
 ext T h xs p;exact bd q λis e q=>by
  rw[yr e,Ud];unfold sF;rw[D9,eP];have up1:∀{a b c:Int},J (V.ref (qt T h).length,qt T h++[O.aT a b c])=J (qY T.length (.ref h.length),qt T (h++[.aT a b c])):=λ{a b c}=>by rw[yR,Me];rfl
  match is,q with
  | [a],q=>exact CP q λl q=>sm q ((cC l).trans up1)
  | a::b::s::r,q=>exact CP q λl q=>sm q ((cC l).trans up1)
  | [],q=>exact oF q
  | [_,_],q=>exact oF q
def Rp{t:Int × Int × Int}(q:Zg h x=J t):Fg K (qt T h) (qY T.length x)=J (.aT t.1 t.2.1 t.2.2):=bd q λp e q=>bd q λo g q=>bd q λu f q=>CP q λl q=>sm q (by
 rw[Ax e];show Fg K _ (.ref _)=_;unfold Fg;rw[show tR K (qt T h) (.ref _)=J (.aT u.1 u.2.1 u.2.2) from(vR g).trans (cF (λo=>J (Ja T.length o)) (W6 f))];exact cC l)
end
noncomputable abbrev CT:=Nat->List V->H->Option (V × H)
abbrev Wa(K:pK)(T:H)(C:CT):Prop:=∀f vs h p,C f vs h=J p->ii K f (vs.map (qY T.length)) (qt T h) (qY T.length p.1) (qt T p.2)
section
variable{T:H}{K:pK}{con:Nat->Option O}{C:CT}{bM:nw}
def Ho:qt T h++[Ja T.length o]=qt T (h++[o]):=by rw[Me];rfl
def Lr(A:db K c Z h0 (.ref (qt T h).length) (qt T h++[Ja T.length o])):db K c Z h0 (qY T.length (.ref h.length)) (qt T (h++[o])):=by
 rw[Ho,yR] at A;exact A
def SC(l:j<pG a b s):oB K (.aT a b s) h x j=J (J (.int (a+j*s))):=cF J (cC l)
def Nu:oB K (.aT a b s) h x (pG a b s)=J U:=cF J (cD (eU _))
def MN:a+((k+1:Nat):Int)*s=a+k*s+s:=by rw[Int.natCast_succ,Int.add_mul,Int.one_mul,ij]
def MH(l:k<n):n - k=(n - (k+1))+1:=(jH (gk l)).symm
def Nb:a+((0:Nat):Int)*s=a:=by rw[mh,Int.zero_mul,Int.add_zero]
def Yg(A:db K a e h p h1)(hl:UG h1 p=true)(B:db K x e h1 v h2)(q:o8 p v h2=J (.none,h3)):db K (.append a x) e h .none h3:=⟨λQ w=>A.go _ ⟨hl,B.go _ (by rw[q];exact w)⟩⟩
def XZ(q:UG h v=true):UG (qt T h) (qY T.length v)=true:=by
 obtain⟨p,xs,rfl,g⟩:=Mu q;show(match (qt T h)[T.length+p]? with | some (.list _)=>true | _=>false)=true;rw[vR g];rfl
def Wr(h:YR v=true):qY n v=v:=(ei.mp h).elim (λh=>V.int.elim (motive:=λv=>qY n v=v) v (cH h) λw=>rfl) λh=>V.con.elim (motive:=λv=>qY n v=v) v (cH h) λw=>rfl
def Hi(h:TF v=true):v= .none:=V.none.elim (motive:=λv=>v= .none) v (cH h) rfl
def Tz{elt it:E}{i:Nat}{e Z:nw}{h:H}{t:Int × Int × Int}{p:V × H}{h':H}(M:K.aV)(c:Cd T.length bM e Z)(A:db K it Z (qt T h) (qY T.length p.1) (qt T p.2))(e2:Zg p.2 p.1=J t)(F:∀{v:V} {h:H} {q:V × H},qU C elt (e.set i (J v)) h=J q->db K elt (Z.set i (J (qY T.length v))) (qt T h) (qY T.length q.1) (qt T q.2))(q:No p.2.length (λv h=>qU C elt (e.set i (J v)) h) (pG t.1 t.2.1 t.2.2) t.1 t.2.2 (p.2++[.list []])=J h'):db K (.comp elt i it (.bool true)) Z (qt T h) (qY T.length (.ref p.2.length)) (qt T h'):=by
 ext T K C bM elt it i e Z h t p h';have z:=EU (h':=qt T h') (elt:=elt) (i:=i) (test:=.bool true) M A (Rp e2) (pG t.1 t.2.1 t.2.2) (λk hh=>∃g,hh=qt T g/\No p.2.length (λv h=>qU C elt (e.set i (J v)) h) (pG t.1 t.2.1 t.2.2 - k) (t.1+k*t.2.2) t.2.2 g=J h')
  ⟨_,Ho (o:=.list []),by rw[Nb];exact q⟩ (λk hk hh z=>z.elim λg z=>?_) λhh z=>z.elim λg z=>⟨Nu,?_⟩
 .rw[yR] at z;exact z
 .have q:=z.2;rw[MH hk] at q;refine bd q λu e3 q=>bd q λh4 e4 q=>⟨_,.bool true,true,hh,SC hk,o4,rfl,λw=>⟨_,_,_,z.1▸F e3,?_,h4,rfl,by rw[MN];exact q⟩,λz=>nomatch z⟩
  rw[yR];exact NJ e4
 .have q:=z.2;rw[eD] at q;exact z.1.trans (cF (qt T) (cI q))
mutual
theorem oq(M:K.aV)(hC:Cn con)(hK:K.con=con)(hc:Wa K T C):∀(t:E) {e Z:nw} {h:H} {p:V × H},qU C t e h=J p->Cd T.length bM e Z->db K t Z (qt T h) (qY T.length p.1) (qt T p.2)
 | .bK,_,_,_,_,q,c=>sm q x0
 | .bool b,_,_,_,_,q,c=>sm q o4
 | .int i,_,_,_,_,q,c=>sm q qF
 | .loc i,_,_,_,_,q,c=>bd q λo e1 q=>bd q λv e2 q=>sm q (r_loc (c.bZ _ _ (e2▸e1)))
 | .glo i u,_,_,_,_,q,c=>CP q λhu q=>sm q (by rw[Wr hu];exact F2)
 | .and a b,_,_,_,_,q,c=>bd q λp e1 q=>bd q λt e2 q=>qZ (oq M hC hK hc a e1 c) (KT e2) (λz=>oq M hC hK hc b (by rw[z] at q;exact q) c) λz=>(by rw[z] at q;cases q;exact⟨rfl,rfl⟩)
 | .or a b,_,_,_,_,q,c=>bd q λp e1 q=>bd q λt e2 q=>EH (oq M hC hK hc a e1 c) (KT e2) (λz=>oq M hC hK hc b (by rw[z] at q;exact q) c) λz=>(by rw[z] at q;cases q;exact⟨rfl,rfl⟩)
 | .neg a,_,_,_,_,q,c=>bd q λp e1 q=>bd q λi e2 q=>sm q (Ah (by have A:=oq M hC hK hc a e1 c;rw[u7 e2] at A;exact A))
 | .inv a,_,_,_,_,q,c=>bd q λp e1 q=>bd q λi e2 q=>sm q ⟨λQ w=>(by have A:=oq M hC hK hc a e1 c;rw[u7 e2] at A;exact A.go _ (by show Q (.int (dW i)) _;exact w))⟩
 | .bin o a b,_,_,_,_,q,c=>bd q λp e1 q=>bd q λp2 e2 q=>bd q λz e3 q=>sm q (um (oq M hC hK hc a e1 c) (oq M hC hK hc b e2 c) (Nz e3))
 | .cmp a o b,_,_,_,_,q,c=>bd q λp e1 q=>bd q λp2 e2 q=>bd q λz e3 q=>sm q (pB (oq M hC hK hc a e1 c) (oq M hC hK hc b (p:=p2) e2 c) (Uk e3))
 | .list es,_,_,_,_,q,c=>bd q λp e1 q=>CP q λl q=>sm q (Lr (qe (xG M hC hK hc es e1 c) (by rw[bj];exact b9 l)))
 | .tup es,_,_,_,_,q,c=>bd q λp e1 q=>CP q λl q=>sm q (Lr (sO (xG M hC hK hc es e1 c) (by rw[bj];exact b9 l)))
 | .rep es n,_,_,_,_,q,c=>bd q λp e1 q=>bd q λp2 e2 q=>bd q λk e3 q=>CP q λl q=>sm q (Lr (by
   have B:=oq M hC hK hc n e2 c;rw[KA e3] at B;have z:=Nv (m:=k) (xG M hC hK hc es e1 c) B (by rw[bj];exact b9 (bl l)) (b9 (br l));rw[<- List.map_replicate,<-List.map_flatten] at z;exact z))
 | .comp elt i it test,_,_,_,_,q,c=>bd q λp e1 q=>bd q λt e2 q=>CP q λtt q=>bd q λh' e3 q=>sm q (by
   rw[Du tt];exact Tz M c (oq M hC hK hc it e1 c) e2 (λw=>oq M hC hK hc elt w (c.set i _)) e3)
 | .call i f es,_,_,_,_,q,c=>bd q λp e1 q=>bi (xG M hC hK hc es e1 c) (hc _ _ _ _ q)
 | .range i es,_,_,_,_,q,c=>bd q λp e1 q=>⟨λQ w=>(xG M hC hK hc es e1 c).go _ (by rw[Un q];exact w)⟩
 | .append a x,_,_,_,_,q,c=>bd q λp e1 q=>CP q λl q=>bd q λp2 e2 q=>bd q λh3 e3 q=>sm q (Yg (oq M hC hK hc a e1 c) (XZ l) (oq M hC hK hc x e2 c) (NJ e3))
 | .attr a n,_,_,_,_,q,c=>bd q λp e1 q=>bd q λu e2 q=>sm q ⟨λQ w=>(oq M hC hK hc a e1 c).go _ (by rw[Ri e2];exact w)⟩
 | .sub a b,_,_,_,_,q,c=>bd q λp e1 q=>bd q λp2 e2 q=>bd q λu e3 q=>sm q ⟨λQ w=>(oq M hC hK hc a e1 c).go _ ((oq M hC hK hc b e2 c).go _ (by rw[Mp hC hK e3];exact w))⟩
 | .str _,_,_,_,_,q,_=>oF q
 | .not _,_,_,_,_,q,_=>oF q
 | .ite _ _ _,_,_,_,_,q,_=>oF q
 | .bU _ _ _ _ _,_,_,_,_,q,_=>oF q
 | .len _ _,_,_,_,_,q,_=>oF q
 | .abs _ _,_,_,_,_,q,_=>oF q
 | .index _ _,_,_,_,_,q,_=>oF q
 | .pop _,_,_,_,_,q,_=>oF q
 | .slice _ _ _,_,_,_,_,q,_=>oF q
theorem xG(M:K.aV)(hC:Cn con)(hK:K.con=con)(hc:Wa K T C):∀(t:Es) {e Z:nw} {h:H} {p:List V × H},Lq C t e h=J p->Cd T.length bM e Z->Gb K t Z (qt T h) (p.1.map (qY T.length)) (qt T p.2)
 | .nil,_,_,_,_,q,c=>sm q f8
 | .cons a es,_,_,_,_,q,c=>bd q λp e1 q=>bd q λp2 e2 q=>sm q (be (oq M hC hK hc a e1 c) (xG M hC hK hc es e2 c))
end
end
section
variable{T:H}{K:pK}{con:Nat->Option O}{C:CT}{bM:nw}{Q:QS}
abbrev aft(K:pK)(r:Ss)(Q:QS)(n:Nat)(o:Option V)(Z:nw)(h:H):Prop:=match o with
 | none=>oD K r Z h Q
 | some v=>Q (.ret (qY n v)) Z h
def Ir(z:aft K r Q n o Z h):aft K .nil (se K r Q) n o Z h:=by
 cases o with
 | none=>exact ld z
 | some v=>exact z
def Jb(q:QH op x y=J z):Cp op (qY T.length x) (qY T.length y) h=J (.int z,h):=by
 have e:=Nz (T:=T) (h:=h) q;refine bd q λa e1 q=>bd q λb e2 q=>?_;rw[u7 e1,u7 e2] at e ⊢;exact e
def Wx(A:db K a e h x h1)(B:db K b e h1 y h2)(l:xq K x y h2=J u)(D:db K w e h2 v h3)(l2:Cp o u v h3=J (z,h3))(l3:pV x y z h3=J h4)(R:oD K r e h4 Q):oD K (.cons (.aug (.sub a b) o w) r) e h Q:=by
 revert h3 h4 x y u v o r z;ext K Q a b w e h h1 h2;ext h3 h4 x y u v o r z;exact⟨A.go _ (B.go _ (by rw[l];exact D.go _ (by rw[l2];show PC _ _;rw[l3];exact R.go)))⟩
def TX{r:Ss}{t:af}{v:V}{e Z:nw}{h0 h:H}{q:nw × H}(M:K.aV)(hC:Cn con)(hK:K.con=con)(hc:Wa K T C)(w:YS C t v e h=J q)(c:Cd T.length bM e Z)(A:db K a Z h0 (qY T.length v) (qt T h))(R:∀aL,Cd T.length bM q.1 aL->oD K r aL (qt T q.2) Q):oD K (.cons (.assign t a) r) Z h0 Q:=by
 ext T K con C bM Q a r t v e Z h0 h q;cases t with
 | loc i=>cases w;exact bs A (R _ (c.set i v))
 | attr p n=>exact bd w λx e1 w=>bd w λh4 e2 w=>by cases w;exact QG A (oq M hC hK hc p e1 c) (Qg e2) (R _ c)
 | sub p i=>exact bd w λx e1 w=>bd w λy e2 w=>bd w λh4 e3 w=>by cases w;exact uG A (oq M hC hK hc p e1 c) (oq M hC hK hc i e2 c) (J2 e3) (R _ c)
 | tup is=>exact oF w
def Ul{a:E}{r:Ss}{t:af}{e Z:nw}{h:H}{q:nw × H}(M:K.aV)(hC:Cn con)(hK:K.con=con)(hc:Wa K T C)(w:YO C op a t e h=J q)(c:Cd T.length bM e Z)(R:∀aL,Cd T.length bM q.1 aL->oD K r aL (qt T q.2) Q):oD K (.cons (.aug t op a) r) Z (qt T h) Q:=by
 ext T K con C bM Q op a r t e Z h q;cases t with
 | loc i=>exact bd w λx g w=>bd w λx e0 w=>bd w λp e1 w=>bd w λz e2 w=>by cases w;exact oI (c.bZ _ _ (e0▸g)) (oq M hC hK hc a e1 c) (Jb e2) (R _ (c.set i (.int z)))
 | sub p i=>
  exact bd w λx e1 w=>bd w λy e2 w=>bd w λu e3 w=>bd w λv e4 w=>bd w λz e5 w=>bd w λh4 e6 w=>by
   cases w;exact Wx (oq M hC hK hc p e1 c) (oq M hC hK hc i e2 c) (Mp hC hK e3) (oq M hC hK hc a e4 c) (Jb e5) (J2 e6) (R _ c)
 | attr p n=>exact oF w
 | tup is=>exact oF w
def U0(h:Y0 t=J i):t= .loc i:=by cases t<;>first | exact cF af.loc (cI h) | exact oF h
def Um{b r:Ss}{i:Nat}{e Z:nw}{h:H}{t:Int × Int × Int}{p:V × H}{q:nw × H}(M:K.aV)(c:Cd T.length bM e Z)(A:db K it Z (qt T h) (qY T.length p.1) (qt T p.2))(e2:Zg p.2 p.1=J t)(F:∀{v:V} {e Z:nw} {h:H} {p:St} {Q:QS},wZ C b (e.set i (J v)) h=J p->p.1=U->Cd T.length bM e Z->(∀aL,Cd T.length bM p.2.1 aL->Q .next aL (qt T p.2.2))->oD K b (Z.set i (J (qY T.length v))) (qt T h) Q)(w:JF (λv e h=>wZ C b (e.set i (J v)) h) (pG t.1 t.2.1 t.2.2) t.1 t.2.2 e p.2=J q)(R:∀aL,Cd T.length bM q.1 aL->oD K r aL (qt T q.2) Q):oD K (.cons (.each (.loc i) it b) r) Z (qt T h) Q:=by
 ext T K C bM Q it b r i e Z h t p q;exact Dn M A (Rp e2) rfl (pG t.1 t.2.1 t.2.2) (λk Z hh=>∃e h,Cd T.length bM e Z/\hh=qt T h/\JF (λv e h=>wZ C b (e.set i (J v)) h) (pG t.1 t.2.1 t.2.2 - k) (t.1+k*t.2.2) t.2.2 e h=J q)
   ⟨e,p.2,c,rfl,by rw[Nb];exact w⟩ (λk hk Z hh z=>z.elim λe z=>z.elim λh z=>⟨_,SC hk,by
    have w:=z.2.2;rw[MH hk] at w;exact bd w λp e1 w=>CP w λn w=>z.2.1▸(F (Q:=oZ (λZ hh=>∃e h,Cd T.length bM e Z/\hh=qt T h/\JF (λv e h=>wZ C b (e.set i (J v)) h) (pG t.1 t.2.1 t.2.2 - (k+1)) (t.1+(k+1:Nat)*t.2.2) t.2.2 e h=J q) (se K r Q)) e1 (eh.mp n) z.1 λaL c'=>⟨p.2.1,p.2.2,c',rfl,by rw[MN];exact w⟩).go⟩)
   λZ hh z=>z.elim λe z=>z.elim λh z=>⟨Nu,by
    have w:=z.2.2;rw[eD] at w;cases w;exact z.2.1▸R Z z.1⟩
mutual
theorem Nd(M:K.aV)(hC:Cn con)(hK:K.con=con)(hc:Wa K T C):∀(t:S) {e Z:nw} {h:H} {p:St} {r:Ss} {Q:QS},X4 C t e h=J p->Cd T.length bM e Z->(∀aL,Cd T.length bM p.2.1 aL->aft K r Q T.length p.1 aL (qt T p.2.2))->oD K (.cons t r) Z (qt T h) Q
 | .assign t a,_,_,_,_,_,_,q,c,R=>bd q λp e1 q=>bd q λw e2 q=>TX M hC hK hc e2 c (oq M hC hK hc a e1 c) (by cases q;exact R)
 | .aug t op a,_,_,_,_,_,_,q,c,R=>bd q λw e2 q=>Ul M hC hK hc e2 c (by cases q;exact R)
 | .expr a,_,_,_,_,_,_,q,c,R=>bd q λp e1 q=>CP q λn q=>by
  have A:=oq M hC hK hc a e1 c;rw[Hi n] at A;cases q;exact oJ A (R _ c)
 | .ret a,_,_,_,_,_,_,q,c,R=>bd q λp e1 q=>by cases q;exact uz (oq M hC hK hc a e1 c) (R _ c)
 | .ite g a b,_,_,_,_,_,_,q,c,R=>bd q λp e1 q=>bd q λt e2 q=>uw (oq M hC hK hc g e1 c) (KT e2) (λz=>xr M hC hK hc a (by rw[z] at q;exact q) c λaL c'=>Ir (R aL c')) λz=>xr M hC hK hc b (by rw[z] at q;exact q) c λaL c'=>Ir (R aL c')
 | .each t it b,_,_,_,_,_,_,q,c,R=>bd q λi e0 q=>bd q λp e1 q=>bd q λu e2 q=>bd q λw e3 q=>by
  rw[U0 e0];exact Um M c (oq M hC hK hc it e1 c) e2 (λw n c R=>xr M hC hK hc b w (c.set i _) λaL c'=>(by rw[n];exact od (R aL c'))) e3 (by cases q;exact R)
 | .loop _ _,_,_,_,_,_,_,q,_,_=>oF q
 | .brk,_,_,_,_,_,_,q,_,_=>oF q
 | .fail,_,_,_,_,_,_,q,_,_=>oF q
theorem xr(M:K.aV)(hC:Cn con)(hK:K.con=con)(hc:Wa K T C):∀(t:Ss) {e Z:nw} {h:H} {p:St} {Q:QS},wZ C t e h=J p->Cd T.length bM e Z->(∀aL,Cd T.length bM p.2.1 aL->aft K .nil Q T.length p.1 aL (qt T p.2.2))->oD K t Z (qt T h) Q
 | .nil,_,_,_,_,_,q,c,R=>by cases q;exact R _ c
 | .cons s r,_,_,_,_,_,q,c,R=>bd q λp e1 q=>Nd M hC hK hc s e1 c λaL c'=>by
  cases z:p.1 with
  | none=>rw[z] at q;exact xr M hC hK hc r q c' R
  | some v=>rw[z] at q;cases q;have w:=R aL c';rw[z] at w;exact w
end
def M9(M:K.aV)(hC:Cn con)(hK:K.con=con)(hc:Wa K T C):∀(n:Nat) {t:Ss} {e Z:nw} {h:H} {p:nw × H × Ss} {Q:QS},PZ C n t e h=J p->Cd T.length bM e Z->(∀aL,Cd T.length bM p.1 aL->oD K p.2.2 aL (qt T p.2.1) Q)->oD K t Z (qt T h) Q
 | 0,t,_,_,_,_,_,q,c,R=>by cases q;exact R _ c
 | n+1,.cons s t,_,_,_,_,_,q,c,R=>bd q λp e1 q=>CP q λz q=>Nd M hC hK hc s e1 c λaL c'=>by
  rw[eh.mp z];exact M9 M hC hK hc n q c' R
 | n+1,.nil,_,_,_,_,_,q,c,R=>oF q
end
section
open MineH.Lake (KF)
section
variable{d:Nat}{T:H}
def ZC(h3:c<3)(h:ii (K0 d) (Jj c) (.ref T.length::vs) (T++[.inst c []]) .none aK):ii (K0 (d+1)) (t8 c) vs T (.ref T.length) aK:=
 have ia:=QD w0.params
 have f:findIn (KF w0.params) (.ref (t8 c)) "__init__"=J (J (.ref (Jj c)))/\typeIn (KF w0.params) (.ref (Jj c))=J (.type "function"):=by
  match c,h3 with
  | 0,_=>exact⟨cF kH ia,cF (λp=>p.2.2.2.1) ia⟩
  | 1,_=>exact⟨cF (λp=>p.2.1) ia,cF (λp=>p.2.2.2.2.1) ia⟩
  | 2,_=>exact⟨cF (λp=>p.2.2.1) ia,cF (λp=>p.2.2.2.2.2) ia⟩
 ⟨λQ q=>by
  by_cases af:T0
  .rw[Fb af] at h ⊢;exact RJ af (Rg _ c) f.1 f.2 (h.go _ ⟨rfl,q⟩)
  .rw[Hg af];trivial⟩
def K3{β:Type}:∀{l:List (Nat × β)} {a:Nat} {b:β},l.lookup a=J b->(a,b)∈l
 | [],_,_,h=>oF h
 | (k,v)::l,a,b,h=>by
  rw[d6] at h;cases e:a == k with
  | true=>rw[e] at h;rw[cH e,<-cI h];exact .head _
  | false=>rw[e] at h;exact .tail _ (K3 h)
def Xc:∀x∈fnT,∀{vs:List V} {Q:V->H->Prop},vs.length=x.2.2.na->(oY T.length T->uO (K0 d) x.2.2.body (oP x.2.1 vs) T (qN T.length Q))->(K0 (d+1)).call x.1 vs T Q:=
 eo.mpr ⟨CB,eo.mpr ⟨zr,eo.mpr ⟨Jp,eo.mpr ⟨B7,eo.mpr ⟨LY,eo.mpr ⟨IF,eo.mpr ⟨FQ,
  eo.mpr ⟨Fz,eo.mpr ⟨Cw,eo.mpr ⟨CD,eo.mpr ⟨DG,nofun⟩⟩⟩⟩⟩⟩⟩⟩⟩⟩⟩
def Ua:∀x∈TB,x.1=t8 x.2.1/\x.2.2=Jj x.2.1/\x.2.1<3:=by decide
def abg{nn:Nat}:Cd T.length (oP nn (vs.map (qY T.length))) (oP nn vs) (oP nn (vs.map (qY T.length))):=by
 refine⟨by unfold oP;simp only[a6,bj,d8],λi v g=>?_,λi g=>rfl⟩;obtain⟨l,g2⟩:=Io g;unfold oP;rw[ar (by rw[bj,bj];exact l),cV,cV,g2];rfl
def QO:∀n:Nat,Wa (K0 (d+n)) T (CI n)
 | 0=>λf vs h p q=>oF q
 | n+1=>λf vs h p q=>by
  have q:(match TB.lookup f with
   | some c=>(CI n c.2 (.ref h.length::vs) (h++[.inst c.1 []])).bind λp=>gd (TF p.1) (J (.ref h.length,p.2))
   | none=>(fnT.lookup f).bind λq=>gd (q.2.na == vs.length) ((wZ (CI n) q.2.body (oP q.1 vs) h).bind λp=>J (p.1.getD .none,p.2.2)))=J p:=q
  cases e1:TB.lookup f with
  | some c=>
   rw[e1] at q;have k:=Ua (f,c) (K3 e1);rw[show f=t8 c.1 from k.1];refine bd q λu e2 q=>CP q λn0 q=>sm (P:=λp=>ii _ (t8 c.1) _ (qt T h) (qY T.length p.1) (qt T p.2)) q ?_;have z:=QO n _ _ _ _ e2;rw[<- Ho,Hi n0,show c.2=Jj c.1 from k.2.1] at z;have e3:qY T.length (.ref h.length)= .ref (qt T h).length:=by rw[yR];rfl
   rw[dw,e3] at z;rw[e3];exact ZC k.2.2 z
  | none=>
   rw[e1] at q;refine bd q λg e2 q=>CP q λl q=>bd q λu e3 q=>sm (P:=λp=>ii _ f _ (qt T h) (qY T.length p.1) (qt T p.2)) q ?_;refine mk (λQ=>Xc (f,g) (K3 e2) ((bj _).trans (cH l).symm)) λQ q hc=>xr (lw _) C0 rfl (QO n) g.2.body e3 abg λaL c'=>?_;revert q;cases u.1 with
   | none=>exact λq=>od (uV (e:=aL) q)
   | some v=>exact λq=>qO (e:=aL) q
end
abbrev Wj(F R:Nat):nw:=[J (nv F),J (nv R),U,U,U,U,U,U,U,U,U,U,U,U,U,U,U,U,U]
abbrev FG(F R:Nat):Option (nw × H × Ss):=PZ (CI 3) 6 qC.body (Wj F R) []
end
abbrev Us:V->V->Bool
 | .none,y=>y.ctorIdx == 0
 | .bool a,y=>vv (match y with | .bool b=>J b | _=>U) false (a == ·)
 | .int a,y=>vv y.i? false (a == ·)
 | .ref a,y=>vv y.r? false (a == ·)
 | .str _,_=>false
 | .con _,_=>false
def ub(h:vv o false k=true):∃x,o=J x/\k x=true:=by
 cases o with
 | none=>exact(cZ h).elim
 | some x=>exact⟨x,rfl,h⟩
abbrev U6:List V->List V->Bool
 | [],ys=>ys.isEmpty
 | x::xs,ys=>oU ys λy ys=>Us x y&&U6 xs ys
abbrev Yc:List (Nat × V)->List (Nat × V)->Bool
 | [],ys=>ys.isEmpty
 | x::xs,ys=>oU ys λy ys=>x.1 == y.1&&Us x.2 y.2&&Yc xs ys
abbrev O.t? :O->Option (List V)
 | .tup xs=>J xs
 | .list _=>U
 | .inst _ _=>U
 | .aT _ _ _=>U
def WU{o:O}(h:o.t? =J xs):o= .tup xs:=by cases o<;>first | exact oF h | exact cF O.tup (cI h)
abbrev WQ:O->O->Bool
 | .list xs,o=>vv o.l? false (U6 xs)
 | .tup xs,o=>vv o.t? false (U6 xs)
 | .inst c fs,o=>vv o.f? false λp=>c == p.1&&Yc fs p.2
 | .aT _ _ _,_=>false
abbrev Hc(h:H)(p:Nat)(o:O):Bool:=vv h[p]? false λo'=>WQ o' o
def Ii(h:Us x y=true):x=y:=by
 cases x with
 | none=>exact(Hi h).symm
 | bool a=>cases y<;>first | exact(cZ h).elim | exact cF V.bool (cH h)
 | int a=>exact(ub h).elim λi h=>(cF V.int (cH h.2)).trans (u7 h.1).symm
 | ref a=>exact(ub h).elim λi h=>(cF V.ref (cH h.2)).trans (Ax h.1).symm
 | str _=>exact(cZ h).elim
 | con _=>exact(cZ h).elim
def Ic:∀{x y:List V},U6 x y=true->x=y
 | [],y,h=>oN (C:=λy=>[]=y) h rfl
 | x::xs,y,h=>n9 (C:=λy=>x::xs=y) h λy ys h=>by rw[Ii (bl h),Ic (br h)]
def Np:∀{x y:List (Nat × V)},Yc x y=true->x=y
 | [],y,h=>oN (C:=λy=>[]=y) h rfl
 | x::xs,y,h=>n9 (C:=λy=>x::xs=y) h λy ys h=>by rw[Np (br h),show x=y from iG (cH (bl (bl h))) (Ii (br (bl h)))]
def NE(h:WQ x y=true):x=y:=by
 cases x with
 | list xs=>exact(ub h).elim λys h=>(cF O.list (Ic h.2)).trans (K1 h.1).symm
 | tup xs=>exact(ub h).elim λys h=>(cF O.tup (Ic h.2)).trans (WU h.1).symm
 | inst c fs=>exact(ub h).elim λp h=>by rw[Ks h.1,cH (bl h.2),Np (br h.2)]
 | aT _ _ _=>exact(cZ h).elim
def WX(q:Hc h p o=true):h[p]? =J o:=(ub q).elim λo' z=>z.1.trans (cF J (NE z.2))
abbrev rI(l:List Nat):Nat:=l.foldl (λa t=>a ||| 1 <<< t) 0
abbrev mo(F R s:Nat)(ws:List (Int × Int)):List Nat:=ws.flatMap λw=>(wN F R s w).take 1
abbrev dL(F R:Nat)(c:Bool):o7 where
 files:=F
 ranks:=R
 cast:=c
 fm:=(cn F).map λf=>rI ((cn (F*R)).filter λs=>s%F == f)
 rm:=(cn R).map λr=>rI ((cn (F*R)).filter λs=>s/F == r)
 rays:=(cn 8).map λd=>(cn (F*R)).map λs=>rI (wN F R s (om.getD d (0,0)))
 king:=(cn (F*R)).map λs=>rI (mo F R s om)
 knight:=(cn (F*R)).map λs=>rI (mo F R s tW)
 pawn:=[(cn (F*R)).map λs=>rI (mo F R s (rM 0)),(cn (F*R)).map λs=>rI (mo F R s (rM 1))]
 castles:=if c then[J [3,5,6,4],J [3,1,0,2],J [17,19,20,18],J [17,15,14,16]] else[U,U,U,U]
 lost:=if c then[2,0,0,3,0,0,1,0,0,0,0,0,0,0,8,0,0,12,0,0,4] else cW 12 0
abbrev Gf(n:Nat)(c:Bool):List V:=if c then[.ref (n+75),.ref (n+76),.ref (n+77),.ref (n+78)] else[.none,.none,.none,.none]
abbrev ghS(n:Nat)(c:Bool):GH:=⟨n+37,n+38,n+39,n+49,n+41,n+44,n+45,n+73,[51,54,57,59,61,64,66,68].map (n+·),[42,43].map (n+·),Gf n c⟩
abbrev tf(c:Bool):Nat:=if c then 79 else 75
abbrev WP(n:Nat):Ps:=⟨cW n 0,cW 7 0,[0,0],0,0,0,1,0,[]⟩
abbrev xS(n F R:Nat)(c:Bool):uu:=⟨n+36,ghS n c,dL F R c,n+tf c,n+35⟩
abbrev aa4(sz i:Nat):List Nat:=(cn sz).map λs=>1 <<< (i*sz+s)
abbrev Vl(F R:Nat)(c:Bool)(h:H):Bool:=
 Hc h 36 (.inst 0 [(0,nv F),(1,nv R),(2,nv (F*R)),(3,nv ((1 <<< (F*R)) - 1)),(4,.bool false),(5,.bool c),(6,.ref 37),(7,.ref 38),(8,.ref 39),(9,.ref 49),(10,.ref 41),(11,.ref 44),(12,.ref 45),(13,.ref 73)])&&
 Hc h 37 (.list ((dL F R c).fm.map nv))&&Hc h 38 (.list ((dL F R c).rm.map nv))&&Hc h 39 (.list ([51,54,57,59,61,64,66,68].map .ref))&&
 ((cn 8).all λd=>Hc h ([51,54,57,59,61,64,66,68].getD d 0) (.list (((dL F R c).rays.getD d []).map nv)))&&
 Hc h 49 (.list ((dL F R c).king.map nv))&&Hc h 41 (.list ((dL F R c).knight.map nv))&&Hc h 44 (.list ([42,43].map .ref))&&
 Hc h 42 (.list (((dL F R c).pawn.getD 0 []).map nv))&&Hc h 43 (.list (((dL F R c).pawn.getD 1 []).map nv))&&Hc h 45 (.list (Gf 0 c))&&Hc h 73 (.list ((dL F R c).lost.map nv))&&
 (!c||(cn 4).all λi=>Hc h (75+i) (.tup (((((dL F R c).castles.getD i U)).getD []).map nv)))&&
 Hc h 35 (.inst 2 [(25,.ref 0),(21,.ref 32),(20,.ref 34),(19,nv (1 <<< (15*(F*R)+16)))])&&Hc h 0 (.list (((cn 15).map λi=>3+2*i).map .ref))&&
 ((cn 15).all λi=>Hc h (3+2*i) (.list ((aa4 (F*R) i).map nv)))&&Hc h 34 (.list (((cn 16).map λr=>1 <<< (15*(F*R)+r)).map nv))
abbrev eqH:H->H->Bool
 | [],ys=>ys.isEmpty
 | x::xs,ys=>oU ys λy ys=>WQ x y&&eqH xs ys
def QW:∀{x y:H},eqH x y=true->x=y
 | [],y,h=>oN (C:=λy=>[]=y) h rfl
 | x::xs,y,h=>n9 (C:=λy=>x::xs=y) h λy ys h=>by rw[NE (bl h),QW (br h)]
abbrev XH(p g z:Nat)(P:Ps):O:=.inst 1 [(14,.ref g),(15,.ref z),(16,.ref (p+1)),(17,.ref (p+2)),(18,.ref (p+3)),(19,nv P.au),(20,nv P.az),(21,.int (-1)),(22,nv P.aA),(3,nv P.av),(23,nv P.key),(24,.ref (p+4))]
abbrev OO(o:Option (Option V))(v:V):Bool:=vv o false λu=>vv u false λu=>Us u v
def HR(h:OO o v=true):o=J (J v):=(ub h).elim λu h=>(ub h.2).elim λx g=>h.1.trans (cF J (g.1.trans (cF J (Ii g.2))))
abbrev isN(o:Option (Option V)):Bool:=vv o false Option.isNone
def X2(h:isN o=true):o=J U:=(ub h).elim λu h=>h.1.trans (cF J (eh.mp h.2))
abbrev RF(F R:Nat)(c:Bool)(o:Option (nw × H × Ss)):Bool:=match o with
 | some (e,h,_)=>Vl F R c h&&(eqH (h.drop (tf c)) [XH (tf c) 36 35 (WP (F*R)),.list ((cW (F*R) 0).map nv),.list ((cW 7 0).map nv),.list ([0,0].map nv),.list []]&&
  (OO e[6]? (nv (F*R))&&(OO e[7]? (nv (15*(F*R)))&&(OO e[12]? (.ref (tf c))&&(decide (h.length=tf c+5)&&(decide (e.length=19)&&(OO e[0]? (nv F)&&(OO e[1]? (nv R)&&[2,3,4,5].all λi=>isN e[i]?))))))))
 | none=>false
abbrev RX(F R:Nat)(c:Bool):Bool:=RF F R c (FG F R)
def YI:RX 7 3 true=true:=by decide +kernel
def Zk:RX 3 4 false=true:=by decide +kernel
abbrev rC(f:Nat->Bool):Nat->Nat
 | 0=>0
 | n+1=>rC f n ||| if f n=true then 2 ^ n else 0
def pR(f:Nat->Bool)(i n:Nat):(rC f n).testBit i=(decide (i<n)&&f i):=by
 ext f i
 induction n with
 | zero=>exact(du i).trans (by rw[cz (fy i)];rfl)
 | succ n ih=>
  have e1:n≠i->decide (i<n+1)=decide (i<n):=λe=>decide_eq_decide.mpr ⟨λh=>ix (dh h) (dQ e),gY⟩;show(rC f n ||| if f n=true then 2 ^ n else 0).testBit i=_;rw[dv,ih];by_cases h:f n=true
  .rw[cC h,dj];by_cases e:n=i
   .subst e;simp [h]
   .simp [e,e1 e]
  .rw[cD h,du,iS];by_cases e:n=i
   .subst e;simp [h]
   .rw[e1 e]
def vL(f:Nat->Bool)(n:Nat):rC f n<2 ^ n:=by
 refine h9 _ λi h=>?_;rw[pR];simp;lia
abbrev sv(n:Nat)(c:List Nat):List Nat:=(cn 7).map λk=>rC (λs=>decide (c.getD s 0≠0)&&decide (c.getD s 0%8=k)) n
abbrev sU(n:Nat)(c:List Nat):List Nat:=(cn 2).map λd=>rC (λs=>decide (c.getD s 0≠0)&&decide (c.getD s 0/8=d)) n
abbrev z9(n:Nat)(c:List Nat):Nat:=rC (λi=>decide (i/n≠0)&&decide (c.getD (i%n) 0=i/n)) (15*n)
abbrev oa(n:Nat)(c:List Nat)(au az aA av kx:Nat)(ay:List V):Ps:=⟨c,sv n c,sU n c,au,az,aA,av,z9 n c ^^^ kx,ay⟩
section
variable{n s t u pc i k:Nat}{c:List Nat}{G:o7}
def pD{l l':List Nat}(hl:l.length=l'.length)(hj:j<l.length->l'.getD j 0=x)(h:∀i,i≠j->l.getD i 0=l'.getD i 0):l.set j x=l':=by
 refine List.ext_getElem? λi=>?_;rw[iE];by_cases hi:i<l.length
 .have hi':i<l'.length:=hl▸hi;by_cases e:j=i
  .subst e;rw[cC rfl,cC hi,<-hj hi,ba,a7 hi'];rfl
  .rw[cD e];have:=h i (dQ e);rw[ba,ba,a7 hi,a7 hi'] at this;rw[a7 hi,a7 hi'];exact cF J this
 .have hi':¬i<l'.length:=hl▸hi;rw[eH (dZ hi),eH (dZ hi')];by_cases e:j=i
  .subst e;rw[cC rfl,cD hi]
  .rw[cD e]
def o0(h:i<m):((cn m).map f).getD i 0=f i:=by
 rw[ba,cV,fP h];rfl
def vX(h:¬i<m):((cn m).map f).getD i 0=0:=by
 rw[ba,eH (by rw[bj,dn];lia)];rfl
def K2{au az aA av kx:Nat}(h:k<7):(oa n c au az aA av kx ay).kd k=rC (λs=>decide (c.getD s 0≠0)&&decide (c.getD s 0%8=k)) n:=o0 h
def DI{au az aA av kx:Nat}(h:k<2):(oa n c au az aA av kx ay).sd k=rC (λs=>decide (c.getD s 0≠0)&&decide (c.getD s 0/8=k)) n:=o0 h
def Jn(n:Nat):n &&& 7=n%8:=gE n 3
def Sw(n:Nat):n >>> 3=n/8:=dz n 3
def pY(n:Nat):1 <<< n=2 ^ n:=by rw[hV,kF]
def OJ(hs:s<n)(h:¬p*n+s=i):¬(i/n=p/\i%n=s):=λ⟨h1,h2⟩=>h (by
 have:=f9 i n;rw[h1,h2,fQ] at this;exact this)
def W4(hs:s<n):(p*n+s)/n=p:=by
 rw[fQ,Nat.mul_add_div (jw hs),hI hs];rfl
def Xh(hs:s<n):(p*n+s)%n=s:=by
 rw[fQ,mx,hU hs]
def XC(hs:s<n)(hp:p<15):p*n+s<15*n:=by
 have:p*n+n<=15*n:=by rw[<- je];exact dA _ hp
 lia
def Ap(hs:s<n)(hp:pc<15)(h0:pc≠0)(hne:∀i,i≠s->c'.getD i 0=c.getD i 0)(h1:c.getD s 0=0/\c'.getD s 0=pc\/c.getD s 0=pc/\c'.getD s 0=0):z9 n c ^^^ 1 <<< (pc*n+s)=z9 n c':=by
 ext n s pc c c';refine dX λi=>?_;ext i;unfold z9;rw[fe,pR,pR,pY,dj];by_cases e:pc*n+s=i
 .subst e;rw[W4 hs,Xh hs,cy (XC hs hp),cy h0];rcases h1 with⟨a,b⟩ | ⟨a,b⟩
  .rw[a,b,cz (p:=0=pc) (λh=>h0 h.symm)];simp
  .rw[a,b,cz (p:=0=pc) (λh=>h0 h.symm)];simp
 .rw[cz e,jt];congr 1;by_cases m:i%n=s
  .have hd:i/n≠pc:=λh=>OJ hs e ⟨h,m⟩;rw[m];by_cases z:i/n=0
   .rw[z];rfl
   .congr 1;rcases h1 with⟨a,b⟩ | ⟨a,b⟩
    .rw[a,b,cz (p:=0=i/n) (λh=>z h.symm),cz (p:=pc=i/n) (λh=>hd h.symm)]
    .rw[a,b,cz (p:=0=i/n) (λh=>z h.symm),cz (p:=pc=i/n) (λh=>hd h.symm)]
  .rw[hne _ m]
def Gh(hs:s<n)(hne:∀i,i≠s->f' i=f i)(h1:f s= !f' s):rC f n ^^^ 1 <<< s=rC f' n:=by
 refine dX λi=>?_;rw[fe,pR,pR,pY,dj];by_cases e:s=i
 .subst e;rw[cy hs,h1,cy (p:=s=s) rfl];cases f' s<;>rfl
 .rw[cz e,jt,hne i (dQ e)]
def Gr(h:∀i,i<n->f' i=f i):rC f n=rC f' n:=by
 refine dX λi=>?_;rw[pR,pR];by_cases e:i<n
 .rw[h i e]
 .rw[cz e];rfl
def MO(hs:s<n)(h:f s=false):rC f n ||| 1 <<< s=rC f n ^^^ 1 <<< s:=by
 refine dX λi=>?_;rw[fe,dv,pR,pY,dj];by_cases e:s=i
 .subst e;rw[h];simp
 .rw[cz e];simp
def GC{F F':Nat->Nat}{x:Nat}(hj:j<m)(h1:x=F' j)(h2:∀i,i<m->i≠j->F i=F' i):((cn m).map F).set j x=(cn m).map F':=by
 refine pD (by simp) (λw=>by rw[o0 hj,h1]) λi hi=>?_;by_cases l:i<m
 .rw[o0 l,o0 l];exact h2 i l hi
 .rw[vX l,vX l]
end
section
variable{n s t u pc:Nat}{c:List Nat}{G:o7}{au az aA av kx:Nat}{ay:List V}
def rP:vb pc->pc/8<2/\pc%8<7:=λh=>by
 have a:=h.k;have b:=h.s;rw[Jn] at a;rw[Sw] at b;exact⟨b,a⟩
def uS(hs:s<n)(hl:c.length=n)(hk:pc%8<7)(h0:pc≠0)(hne:∀i,i≠s->c'.getD i 0=c.getD i 0)(h1:c.getD s 0=0/\c'.getD s 0=pc\/c.getD s 0=pc/\c'.getD s 0=0):
  (sv n c).set (pc%8) ((sv n c).getD (pc%8) 0 ^^^ 1 <<< s)=sv n c':=by
 ext n s pc c c';unfold sv;refine GC hk ?_ λi hi hne2=>Gr λj hj=>?_
 .rw[o0 hk];refine Gh hs (λi hi=>by rw[hne i hi]) ?_;rcases h1 with⟨a,b⟩ | ⟨a,b⟩<;>rw[a,b]<;>simp [h0]
 .by_cases e:j=s
  .subst e;rcases h1 with⟨a,b⟩ | ⟨a,b⟩<;>rw[a,b]<;>simp [h0,dQ hne2]
  .rw[hne j e]
def u4(hs:s<n)(hk:pc/8<2)(h0:pc≠0)(hne:∀i,i≠s->c'.getD i 0=c.getD i 0)(h1:c.getD s 0=0/\c'.getD s 0=pc\/c.getD s 0=pc/\c'.getD s 0=0):
  (sU n c).set (pc/8) ((sU n c).getD (pc/8) 0 ^^^ 1 <<< s)=sU n c':=by
 ext n s pc c c';unfold sU;refine GC hk ?_ λi hi hne2=>Gr λj hj=>?_
 .rw[o0 hk];refine Gh hs (λi hi=>by rw[hne i hi]) ?_;rcases h1 with⟨a,b⟩ | ⟨a,b⟩<;>rw[a,b]<;>simp [h0]
 .by_cases e:j=s
  .subst e;rcases h1 with⟨a,b⟩ | ⟨a,b⟩<;>rw[a,b]<;>simp [h0,dQ hne2]
  .rw[hne j e]
def im{l:List Nat}(i:Nat)(h:i≠s):(l.set s x).getD i 0=l.getD i 0:=by
 rw[zz,cD (λz=>h z.1.symm)]
def ou{l:List Nat}(h:s<l.length):(l.set s x).getD s 0=x:=by rw[zz,cC ⟨rfl,h⟩]
def DK(hG:G.size=n)(hs:s<n)(hl:c.length=n)(hp:vb pc)(h0:pc≠0)(hc:c.getD s 0=pc):(oa n c au az aA av kx ay).takeP G pc s=oa n (c.set s 0) au az aA av kx ay:=by
 have h1:c.getD s 0=0/\(c.set s 0).getD s 0=pc\/c.getD s 0=pc/\(c.set s 0).getD s 0=0:=.inr ⟨hc,ou (by rw[hl];exact hs)⟩;have kf:=Ap hs hp.l h0 (im (l:=c) (x:=0)) h1;unfold Ps.takeP oa;dsimp only[Ps.kd,Ps.sd];rw[Jn,Sw,uS hs hl (rP hp).2 h0 im h1,u4 hs (rP hp).1 h0 im h1,hG,d9,jh kx,<-d9,kf]
def CN(hG:G.size=n)(hs:s<n)(hl:c.length=n)(hp:vb pc)(h0:pc≠0)(hc:c.getD s 0=0):(oa n c au az aA av kx ay).putP G pc s=oa n (c.set s pc) au az aA av kx ay:=by
 have h1:c.getD s 0=0/\(c.set s pc).getD s 0=pc\/c.getD s 0=pc/\(c.set s pc).getD s 0=0:=.inl ⟨hc,ou (by rw[hl];exact hs)⟩;have kf:=Ap hs hp.l h0 (im (l:=c) (x:=pc)) h1;unfold Ps.putP oa;dsimp only[Ps.kd,Ps.sd];have e1:(sv n c).getD (pc%8) 0 ||| 1 <<< s=(sv n c).getD (pc%8) 0 ^^^ 1 <<< s:=by
  unfold sv;rw[o0 (rP hp).2];exact MO hs (by rw[hc];rfl)
 have e2:(sU n c).getD (pc/8) 0 ||| 1 <<< s=(sU n c).getD (pc/8) 0 ^^^ 1 <<< s:=by
  unfold sU;rw[o0 (rP hp).1];exact MO hs (by rw[hc];rfl)
 rw[Jn,Sw,e1,e2,uS hs hl (rP hp).2 h0 im h1,u4 hs (rP hp).1 h0 im h1,hG,d9,jh kx,<-d9,kf]
def Xa(h:u≠v):1 <<< u ||| 1 <<< v=1 <<< u ^^^ 1 <<< v:=by
 refine dX λi=>?_;rw[dv,fe,pY,pY,dj,dj];by_cases e:u=i
 .subst e;simp [dQ h]
 .simp [e]
def JZ{l:List Nat}(hi:i<l.length)(y:Nat):(l.set i x).getD i 0 ^^^ y=x ^^^ y:=by rw[ou hi]
def Gq(hG:G.size=n)(hu:u<n)(hv:t<n)(hne:u≠t)(hl:c.length=n)(hp:vb pc)(h0:pc≠0)(hc:c.getD u 0=pc)(hc2:c.getD t 0=0):
  (oa n c au az aA av kx ay).b6 G pc u t=oa n ((c.set u 0).set t pc) au az aA av kx ay:=by
 ext n t u pc c G au az aA av kx ay;have h1:c.getD u 0=0/\(c.set u 0).getD u 0=pc\/c.getD u 0=pc/\(c.set u 0).getD u 0=0:=.inr ⟨hc,ou (by rw[hl];exact hu)⟩;have hl2:(c.set u 0).length=n:=by rw[cP];exact hl
 have hc3:(c.set u 0).getD t 0=0:=by rw[im t (dQ hne)];exact hc2
 have h2:(c.set u 0).getD t 0=0/\((c.set u 0).set t pc).getD t 0=pc\/(c.set u 0).getD t 0=pc/\((c.set u 0).set t pc).getD t 0=0:=.inl ⟨hc3,ou (by rw[hl2];exact hv)⟩;have k1:=Ap hu hp.l h0 (im (l:=c) (x:=0)) h1;have k2:=Ap hv hp.l h0 (im (l:=c.set u 0) (x:=pc)) h2;have a1:=uS hu hl (rP hp).2 h0 im h1;have a2:=uS hv hl2 (rP hp).2 h0 im h2;have b1:=u4 hu (rP hp).1 h0 im h1;have b2:=u4 hv (rP hp).1 h0 im h2;have lk:pc%8<(sv n c).length:=by unfold sv;rw[bj,dn];exact(rP hp).2
 have ls:pc/8<(sU n c).length:=by unfold sU;rw[bj,dn];exact(rP hp).1
 rw[<- a1,JZ lk,gQ,d9] at a2;rw[<- b1,JZ ls,gQ,d9] at b2;unfold Ps.b6 oa;dsimp only[Ps.kd,Ps.sd];rw[Jn,Sw,Xa hne,a2,b2,hG,<-k2,<-k1];congr 1;rw[d9,jh kx,<-d9,<-d9]
end
structure We (F R:Nat) (c:Bool):Prop where
 bd:Bd F R
 chk:RX F R c=true
 ok:BM (dL F R c)
 cc:∀i:Nat,(dL F R c).castles[i]? =J U->(Gf 0 c)[i]? =J .none
def aaD:BM (dL 3 4 false):=⟨by decide,by decide +kernel,by decide +kernel,by decide,by decide,by decide,by decide,by decide +kernel,by decide +kernel,by decide +kernel,by decide +kernel,by decide,by decide +kernel,by decide,λt h=>by simp [dL] at h,by decide⟩
def aaV:BM (dL 7 3 true):=⟨by decide,by decide +kernel,by decide +kernel,by decide,by decide,by decide,by decide,by decide +kernel,by decide +kernel,by decide +kernel,by decide +kernel,by decide,by decide +kernel,by decide,λt h=>by
 simp only[dL,if_true,dP,jy,fU,or_false] at h;rcases h with rfl | rfl | rfl | rfl<;>exact⟨by decide,by decide⟩,by decide⟩
def Zj:We 3 4 false:=⟨Za,Zk,aaD,λi h=>by
 match i with
 | 0 | 1 | 2 | 3=>rfl
 | i+4=>cases h⟩
def ZY:We 7 3 true:=⟨YW,YI,aaV,λi h=>by
 match i with
 | 0 | 1 | 2 | 3=>cases h
 | i+4=>cases h⟩
abbrev hR:Option (nw × H × Ss)->H
 | some (_,h,_)=>h
 | none=>[]
abbrev hP(F R:Nat):H:=hR (FG F R)
abbrev aP(T:H)(F R:Nat)(c:Bool):H:=qt T ((hP F R).take (tf c))
def Gx:∀(n:Nat) (t:Ss) {e:nw} {h:H} {p:nw × H × Ss},PZ C n t e h=J p->p.2.2=rF n t
 | 0,t,_,_,_,q=>by cases q;cases t<;>rfl
 | n+1,.cons s t,_,_,_,q=>bd q λp w q=>CP q λw q=>Gx n t q
 | n+1,.nil,_,_,_,q=>oF q
section
variable{T h:H}{F R p m:Nat}{c:Bool}{o:O}
def qA(n:Nat)(l:List Nat):Ja n (.list (l.map nv))= .list (l.map nv):=by
 show O.list ((l.map nv).map (qY n))=_;rw[hZ];rfl
def SZ(n:Nat)(l:List Nat):Ja n (.tup (l.map nv))= .tup (l.map nv):=by
 show O.tup ((l.map nv).map (qY n))=_;rw[hZ];rfl
def Eb(n:Nat)(l:List Nat):Ja n (.list (l.map .ref))= .list ((l.map (n+·)).map .ref):=by
 show O.list ((l.map V.ref).map (qY n))=_;rw[hZ,hZ];rfl
def xz(hp:p<m)(q:Hc h p o=true):(qt T (h.take m))[T.length+p]? =J (Ja T.length o):=by
 refine vR ?_;rw[eO hp];exact WX q
def IX(n:Nat):(Gf 0 c).map (qY n)=Gf n c:=by
 cases c<;>rfl
def YY(b:We F R c)(q:Vl F R c h=true)(hl:h.length=tf c+5):PA (qt T (h.take (tf c))) (xS T.length F R c):=by
 ext T h F R c;unfold Vl at q;simp only[ax] at q;obtain⟨⟨⟨⟨⟨⟨⟨⟨⟨⟨⟨⟨⟨⟨⟨⟨q36,q37⟩,q38⟩,q39⟩,qr⟩,q49⟩,q41⟩,q44⟩,q42⟩,q43⟩,q45⟩,q73⟩,qc⟩,q35⟩,q0⟩,qz⟩,q34⟩:=q;have pn:75<=tf c:=by cases c<;>decide
 have al:(qt T (h.take (tf c))).length=T.length+tf c:=by rw[yR,dC];lia
 have ok:=b.ok;refine⟨?_,by rw[al];exact cX _,⟨⟨T.length+0,T.length+32,T.length+34,(((cn 15).map λi=>3+2*i).map (T.length+·))⟩,?_⟩⟩
 .refine⟨xz (by lia) q36,(xz (by lia) q37).trans (cF J (qA _ _)),(xz (by lia) q38).trans (cF J (qA _ _)),(xz (by lia) q39).trans (cF J (Eb _ _)),λd p l hp hg=>?_,(xz (by lia) q49).trans (cF J (qA _ _)),(xz (by lia) q41).trans (cF J (qA _ _)),(xz (by lia) q44).trans (cF J (Eb _ _)),λd p l hp hg=>?_,(xz (by lia) q45).trans ?_,λi hi=>?_,λi t hi=>?_,(xz (by lia) q73).trans (cF J (qA _ _)),ok,rfl,rfl,?_⟩
  .have hd:d<8:=f0 hp;have z:=cK.mp qr d (cL.mpr hd);have hg':(dL F R c).rays[d]? =J l:=hg;rw[show(dL F R c).rays.getD d []=l by rw[ba,hg'];rfl] at z;have hp':(([51,54,57,59,61,64,66,68]:List Nat).map (T.length+·))[d]? =J p:=hp;rw[cV] at hp';obtain⟨k,h1,rfl⟩:=dg.mp hp';rw[show([51,54,57,59,61,64,66,68]:List Nat).getD d 0=k by rw[ba,h1];rfl] at z;have hk:k<75:=(by decide:∀x∈([51,54,57,59,61,64,66,68]:List Nat),x<75) k (dB h1);exact(xz (by lia) z).trans (cF J (qA _ _))
  .match d,hp,hg with
   | 0,hp,hg=>
    cases hp;have hg':(dL F R c).pawn[0]? =J l:=hg;have e:(dL F R c).pawn.getD 0 []=l:=by rw[ba,hg'];rfl
    rw[e] at q42;exact(xz (by lia) q42).trans (cF J (qA _ _))
   | 1,hp,hg=>
    cases hp;have hg':(dL F R c).pawn[1]? =J l:=hg;have e:(dL F R c).pawn.getD 1 []=l:=by rw[ba,hg'];rfl
    rw[e] at q43;exact(xz (by lia) q43).trans (cF J (qA _ _))
   | d+2,hp,hg=>cases hg
  .show J (O.list _)=J (O.list _);rw[IX];rfl
  .have:=b.cc i hi;show(Gf T.length c)[i]? =J .none;rw[<- IX,cV,this];rfl
  .cases c with
   | false=>
    have:J t∈(dL F R false).castles:=dB hi;simp [dL] at this
   | true=>
    rw[jE,fq] at qc;have hi4:i<4:=by have:=f0 hi;exact this
    have z:=cK.mp qc i (cL.mpr hi4);have hg':(dL F R true).castles[i]? =J (J t):=hi;rw[show((dL F R true).castles.getD i U).getD []=t by rw[ba,hg'];rfl] at z;refine⟨?_,T.length+(75+i),?_,?_,(xz (by show 75+i<79;lia) z).trans (cF J (SZ _ _))⟩
    .match i,hi with
     | 0,hi | 1,hi | 2,hi | 3,hi=>cases hi;rfl
     | i+4,hi=>cases hi
    .match i,hi4 with
     | 0,_ | 1,_ | 2,_ | 3,_=>rfl
    .show _<T.length+79;lia
  .refine⟨?_,?_,?_,?_,?_,?_,?_,?_,?_,λp hp=>?_,λp hp=>?_⟩
   any_goals (show T.length+_<T.length+tf c;lia)
   .obtain⟨k,h1,rfl⟩:=d7.mp (show p∈([51,54,57,59,61,64,66,68]:List Nat).map (T.length+·) from hp);have hk:k<75:=(by decide:∀x∈([51,54,57,59,61,64,66,68]:List Nat),x<75) k h1;show _<T.length+tf c;lia
   .obtain⟨k,h1,rfl⟩:=d7.mp (show p∈([42,43]:List Nat).map (T.length+·) from hp);have hk:k<75:=(by decide:∀x∈([42,43]:List Nat),x<75) k h1;show _<T.length+tf c;lia
 .refine⟨xz (by lia) q35,(xz (by lia) q0).trans (cF J (Eb _ _)),by simp,λi p hp=>?_,(xz (by lia) q34).trans (cF J (qA _ _)),?_⟩
  .rw[cV,cV] at hp;have hi:i<15:=by
    refine cJ λh=>?_;rw[eH (by rw[dn];lia)] at hp;cases hp
   rw[fP hi] at hp;cases hp;have z:=cK.mp qz i (cL.mpr hi);refine⟨by show T.length+(3+2*i)<T.length+tf c;lia,(xz (by lia) z).trans (cF J (qA _ _))⟩
  .exact⟨by show T.length+35<T.length+tf c;lia,by show T.length+0<T.length+tf c;lia,by show T.length+34<T.length+tf c;lia⟩
end
abbrev sI(n au az:Nat):Nat:=1 <<< (15*n+az) ^^^ if au=1 then 1 <<< (15*n+16) else 0
abbrev ut(aS:List Nat)(n j:Nat):List Nat:=aS.take j++cW (n - j) 0
def vP(hl:aS.length=n)(hj:j<=n):(ut aS n j).length=n:=by
 unfold ut;rw[a6,dC,d8];lia
def vm(hl:aS.length=n)(hj:j<=n):(ut aS n j).getD i 0=if i<j then aS.getD i 0 else 0:=by
 unfold ut;rw[ba,ba];by_cases h:i<j
 .rw[cC h,ar (by rw[dC];lia),eO h]
 .rw[cD h,cQ (by rw[dC];lia)];rw[jQ];split<;>rfl
def Rw{l l':List Nat}(hl:l.length=l'.length)(h:∀i,l.getD i 0=l'.getD i 0):l=l':=by
 refine jR hl λi h1 h2=>?_;have:=h i;rw[ba,ba,a7 h1,a7 h2] at this;exact this
def Pd{aS:List Nat}(hl:aS.length=n)(hj:j<n)(h:aS.getD j 0=0):ut aS n (j+1)=ut aS n j:=
 Rw (by rw[vP hl hj,vP hl (dH hj)]) λi=>by
  rw[vm hl hj,vm hl (dH hj)];by_cases e:i=j
  .subst e;rw[cC (dM _),cD (eU _),h]
  .by_cases l:i<j
   .rw[cC l,cC (by lia)]
   .rw[cD l,cD (by lia)]
def Sj(hl:aS.length=n)(hj:j<n):(ut aS n j).set j (aS.getD j 0)=ut aS n (j+1):=
 pD (by rw[vP hl hj,vP hl (dH hj)]) (λw=>by rw[vm hl hj,cC (dM _)]) λi e=>by
  rw[vm hl hj,vm hl (dH hj)];by_cases l:i<j
  .rw[cC l,cC (by lia)]
  .rw[cD l,cD (by lia)]
def DQ(h:∀i,f i=false):rC f n=0:=by
 refine dX λi=>?_;rw[pR,h,du,fX]
def WK(n:Nat)(aS:List Nat):WP n=oa n (ut aS n 0) 0 0 0 1 0 []:=by
 ext n aS;have g:∀i,(ut aS n 0).getD i 0=0:=λi=>by
  unfold ut;rw[eN,fA,ba,jQ];split<;>rfl
 unfold WP oa;have e1:sv n (ut aS n 0)=cW 7 0:=by
  unfold sv;rw[show(λk=>rC (λs=>decide ((ut aS n 0).getD s 0≠0)&&decide ((ut aS n 0).getD s 0%8=k)) n)=λw=>0 from funext λk=>DQ λi=>by rw[g];rfl];rfl
 have e2:sU n (ut aS n 0)=[0,0]:=by
  unfold sU;rw[show(λk=>rC (λs=>decide ((ut aS n 0).getD s 0≠0)&&decide ((ut aS n 0).getD s 0/8=k)) n)=λw=>0 from funext λk=>DQ λi=>by rw[g];rfl];rfl
 have e3:z9 n (ut aS n 0)=0:=DQ λi=>by
  rw[g];by_cases h:i/n=0
  .rw[h];rfl
  .rw[cz (p:=0=i/n) (λz=>h z.symm),fX]
 rw[e1,e2,e3];unfold ut;rw[eN,fA,lW];rfl
def C5{n:Nat}{c:List Nat}{au az aA av kx:Nat}{ay:List V}(hl:c.length=n)(hG:G.size=n):pH G (oa n c au az aA av kx ay):=
 ⟨hl.trans hG.symm,by show(sv n c).length=7;unfold sv;rw[bj,dn],by show(sU n c).length=2;unfold sU;rw[bj,dn]⟩
section
variable{d:Nat}{T:H}{au az aA cp:Nat}{aS:List Nat}
def abr(l:nw):l=(cn l.length).map λi=>l.getD i U:=by
 refine jR (by simp) λi h1 h2=>?_;rw[List.getElem_map,List.getElem_range,ba,a7 h1];rfl
abbrev Ym:Ss:=rF 6 qC.body
def RL{a t0:H}{X:uu}{a0 a1 a8 a9 a10 a11 a13 a14 a15 a16 a17 a18:Option V}(hA:PA a X)(ht0:a=T++t0)(hX:X.G.size=F*R)(hL:CL F R aS)(hp:∀i,aS.getD i 0≠0->vb (aS.getD i 0))(hr:az<16)(L:T[cp]? =J (.list (aS.map nv)))(q:Q (.ref a.length) (st a X (oa (F*R) aS au az aA 1 (sI (F*R) au az) []) [.aT 0 (F*R:Nat) 1])):
  oD (K0 (d+3)) Ym [a0,a1,J (.ref cp),J (nv au),J (nv az),J (nv aA),J (nv (F*R)),J (nv (15*(F*R))),a8,a9,a10,a11,J (.ref a.length),a13,a14,a15,a16,a17,a18] (st a X (WP (F*R)) []) (qN T.length Q):=by
 revert a t0 X a0 a1 a8 a9 a10 a11 a13 a14 a15 a16 a17 a18;ext d T au az aA cp aS Q;ext a t0 X a0 a1 a8 a9 a10 a11 a13 a14 a15 a16 a17 a18;have hl:=hL.l;have hsz:=hL.bd.sz;have hcp:=f0 L;have lib:∀{j:Nat},j<=F*R->pH X.G (oa (F*R) (ut aS (F*R) j) 0 0 0 1 0 []):=λhj=>C5 (vP hl hj) hX;have L':∀{P:Ps} {t:H},(st a X P t)[cp]? =J (.list (aS.map nv)):=λ{P t}=>by
  rw[sD (by rw[ht0,a6];lia),ht0,ar hcp];exact L
 refine rQ (n:=0) (m:=F*R) (lw _) (pZ (lz rfl) (by lia)) bn (by lia) (by lia)
  (λj e h=>∃x,st a X (oa (F*R) (ut aS (F*R) j) 0 0 0 1 0 []) [.aT 0 (F*R:Nat) 1]=h/\e=[a0,a1,J (.ref cp),J (nv au),J (nv az),J (nv aA),J (nv (F*R)),J (nv (15*(F*R))),a8,a9,x,a11,J (.ref a.length),a13,a14,a15,a16,a17,a18])
  ⟨a10,by rw[<- WK,rG];rfl,rfl⟩ (λj w hj e h z=>?_) λe h z=>?_
 .obtain⟨x,rfl,rfl⟩:=z;by_cases h0:aS.getD j 0=0
  .refine lv (t:=false) (sH L' hL hj ∅ ∅) (by rw[oE,h0];rfl) (λe=>by cases e) λw=>od ⟨J (nv j),?_,rfl⟩;rw[Pd hl hj h0]
  .refine lv (t:=true) (sH L' hL hj ∅ ∅) (by rw[oE];exact cF J (cy h0)) (λw=>?_) λe=>by cases e
   have pp:=CN (n:=F*R) (G:=X.G) (au:=0) (az:=0) (aA:=0) (av:=1) (kx:=0) (ay:=[]) hX hj (vP hl (dH hj)) (hp j h0) h0 (by rw[vm hl (dH hj),cD (eU _)]);rw[Sj hl hj] at pp;have kp:=uY (d:=d+1) (c:=[.aT 0 (F*R:Nat) 1]) (s:=j) hA (lib (dH hj)) (hp j h0) (by rw[hX];exact hj);rw[pp] at kp;exact oJ (bi (lc rfl (be (sH L' hL hj ∅ ∅) (lz rfl))) kp) (ld (od ⟨J (nv j),rfl,rfl⟩))
 .obtain⟨x,rfl,rfl⟩:=z;have ec:ut aS (F*R) (F*R)=aS:=by unfold ut;rw[eD,<-hl,dS];exact cN _
  rw[ec];have hb:15*(F*R)+az<=1000000:=by lia
  refine LL ∅ ∅ (J8 ∅ ∅ (HJ ∅ ∅ (uI ∅ (qo ac (qG ∅ ∅) ⋯ hb) ?_)));have fin:{(oa (F*R) aS au az aA 1 0 []:Ps) with key:=(oa (F*R) aS 0 0 0 1 0 []).key ^^^ 1 <<< (15*(F*R)+az)}=oa (F*R) aS au az aA 1 (1 <<< (15*(F*R)+az)) []:=by
   unfold oa;rw[iJ]
  refine BY (h2:=st a X (oa (F*R) aS au az aA 1 (sI (F*R) au az) []) [.aT 0 (F*R:Nat) 1]) (oM ∅ ac) bm (λe1 Rn=>?_) (λe1=>?_) (pf ∅ q)
  .have hb2:15*(F*R)+16<=1000000:=by lia
   refine uI ∅ (qo ac (qG ∅ ac) ⋯ hb2) (ld ?_);have e2:oa (F*R) aS au az aA 1 (sI (F*R) au az) []={(oa (F*R) aS au az aA 1 (1 <<< (15*(F*R)+az)) []) with key:=(oa (F*R) aS au az aA 1 (1 <<< (15*(F*R)+az)) []).key ^^^ 1 <<< (15*(F*R)+16)}:=by
    unfold oa sI;rw[cC (b9 e1),d9]
   rw[e2,<-fin] at Rn;exact Rn
  .have e2:sI (F*R) au az=1 <<< (15*(F*R)+az):=by
    unfold sI;rw[cD (cj e1),iJ]
   rw[e2,<-fin];rfl
def UT(F R:Nat):FG F R=PZ (CI 3) 6 qC.body (Wj F R) []:=rfl
structure Rv (F R:Nat) (c:Bool) (e:nw) (h:H):Prop where
 g:Vl F R c h=true
 d:h.drop (tf c)=[XH (tf c) 36 35 (WP (F*R)),.list ((cW (F*R) 0).map nv),.list ((cW 7 0).map nv),.list ([0,0].map nv),.list []]
 e6:e[6]? =J (J (nv (F*R)))
 e7:e[7]? =J (J (nv (15*(F*R))))
 e12:e[12]? =J (J (.ref (tf c)))
 l:h.length=tf c+5
 el:e.length=19
 n:∀i∈[2,3,4,5],e[i]? =J U
def J0(e0:FG F R=J (e,h,r))(ck:RX F R cc=true):Rv F R cc e h:=by
 ext e h r;have ck:RF F R cc (J (e,h,r))=true:=(cF (RF F R cc) e0).symm.trans ck;have c1:=br ck;have c2:=br c1;have c3:=br c2;have c4:=br c3;have c5:=br c4;have c6:=br c5;exact⟨bl ck,QW (bl c1),HR (bl c2),HR (bl c3),HR (bl c4),b9 (bl c5),b9 (bl c6),λi hi=>X2 (cK.mp (br (br (br c6))) i hi)⟩
def Ki(ck:RX F R cc=true):∃e h r,FG F R=J (e,h,r):=by
 cases e0:FG F R with
 | none=>have ck:RF F R cc U=true:=(cF (RF F R cc) e0).symm.trans ck;exact(cZ ck).elim
 | some q=>obtain⟨e,h,r⟩:=q;exact⟨e,h,r,rfl⟩
def QI(e0:FG F R=J (e,h,r)):hP F R=h:=(cF hR e0:hR (FG F R)=hR (J (e,h,r)))
def QP(e0:FG F R=J (e,h,r))(f:Rv F R cc e h):(aP T F R cc).length=T.length+tf cc:=by
 have l:=f.l;unfold aP;rw[QI e0,yR,dC];lia
def Zn{e:nw}{h:H}{r:Ss}(e0:FG F R=J (e,h,r))(f:Rv F R cc e h):qt T h=st (aP T F R cc) (xS T.length F R cc) (WP (F*R)) []:=by
 ext T e h r;have al:=QP (T:=T) e0 f;have e1:h=h.take (tf cc)++h.drop (tf cc):=(gR _ _).symm;unfold st;rw[al];rw[e1,Me,f.d,cN];unfold aP;rw[QI e0];unfold blk;show _++[Ja T.length (XH (tf cc) 36 35 (WP (F*R))),Ja T.length (.list ((cW (F*R) 0).map nv)),Ja T.length (.list ((cW 7 0).map nv)),Ja T.length (.list (([0,0]:List Nat).map nv)),Ja T.length (.list [])]=_;rw[qA,qA,qA];rfl
def abk{n cp au az aA:Nat}:Cd n (oP 18 [nv F,nv R,.ref cp,nv au,nv az,nv aA]) (Wj F R) (oP 18 [nv F,nv R,.ref cp,nv au,nv az,nv aA]):=by
 ext n cp au az aA;exact⟨rfl,λi v g=>by
   match i,g with
   | 0,g=>cases g;rfl
   | 1,g=>cases g;rfl
   | i+2,g=>
    have:∀x∈([U,U,U,U,U,U,U,U,U,U,U,U,U,U,U,U,U]:nw),x=U:=by simp
    exact cG (this _ (dB (show([U,U,U,U,U,U,U,U,U,U,U,U,U,U,U,U,U]:nw)[i]? =J (J v) from g))) (jc v),λi g=>rfl⟩
def Xj{x2 x3 x4 x5 x6 x7 x12:Option V}(h:l.length=19)(f2:l[2]? =J x2)(f3:l[3]? =J x3)(f4:l[4]? =J x4)(f5:l[5]? =J x5)(f6:l[6]? =J x6)(f7:l[7]? =J x7)(f12:l[12]? =J x12):
  ∃a0 a1 a8 a9 a10 a11 a13 a14 a15 a16 a17 a18,l=[a0,a1,x2,x3,x4,x5,x6,x7,a8,a9,a10,a11,x12,a13,a14,a15,a16,a17,a18]:=by
 ext l x2 x3 x4 x5 x6 x7 x12;have e:=abr l;have g:∀{i:Nat} {x:Option V},l[i]? =J x->l.getD i U=x:=λf=>by rw[ba,f];rfl
 rw[h] at e;rw[<- g f2,<-g f3,<-g f4,<-g f5,<-g f6,<-g f7,<-g f12];exact⟨_,_,_,_,_,_,_,_,_,_,_,_,e⟩
def TZ:Ym=rF 6 qC.body:=rfl
def Sz(b:We F R cc):PA (aP T F R cc) (xS T.length F R cc):=by
 obtain⟨e,h,r,e0⟩:=Ki b.chk;have f:=J0 e0 b.chk;unfold aP;rw[QI e0];exact YY b f.g f.l
def El(b:We F R cc)(hL:CL F R aS)(hp:∀i,aS.getD i 0≠0->vb (aS.getD i 0))(hr:az<16)(L:T[cp]? =J (.list (aS.map nv))):
  ii (K0 (d+4)) 917 [nv F,nv R,.ref cp,nv au,nv az,nv aA] T (.ref (aP T F R cc).length) (st (aP T F R cc) (xS T.length F R cc) (oa (F*R) aS au az aA 1 (sI (F*R) au az) []) [.aT 0 (F*R:Nat) 1]):=by
 ext d T au az aA cp aS;obtain⟨e,h,r,e0⟩:=Ki b.chk;have f:=J0 e0 b.chk;have al:=QP (T:=T) e0 f;have hh:=Zn (T:=T) e0 f;have hA:=Sz (T:=T) b;obtain⟨t0,ht0⟩:=(⟨_,rfl⟩:∃t,aP T F R cc=T++t)
 have e1:=e0;rw[UT] at e1;have rr:=Gx _ _ e1;rw[<- TZ] at rr;have rr:r=Ym:=rr;refine mk (λQ=>Eg rfl) λQ q hc=>?_;have rest:∀aL,Cd T.length (oP 18 [nv F,nv R,.ref cp,nv au,nv az,nv aA]) e aL->oD (K0 (d+3)) r aL (qt T h) (qN T.length Q):=λaL cv=>by
  have pe:qY T.length (.ref (tf cc))= .ref (aP T F R cc).length:=by rw[al];rfl
  have f12:=cv.bZ 12 _ f.e12;rw[pe] at f12;obtain⟨a0,a1,a8,a9,a10,a11,a13,a14,a15,a16,a17,a18,rfl⟩:=Xj (l:=aL) (x2:=J (.ref cp)) (x3:=J (nv au)) (x4:=J (nv az)) (x5:=J (nv aA)) (by rw[<- cv.len];exact f.el)
   (cv.none_ 2 (f.n 2 (by simp))) (cv.none_ 3 (f.n 3 (by simp))) (cv.none_ 4 (f.n 4 (by simp))) (cv.none_ 5 (f.n 5 (by simp))) (cv.bZ 6 _ f.e6) (cv.bZ 7 _ f.e7) f12
  rw[hh,rr];exact RL hA ht0 rfl hL hp hr L q
 have go:=M9 (K:=K0 (d+3)) (T:=T) (Q:=qN T.length Q) (lw _) C0 rfl (QO (d:=d) 3) 6 (t:=qC.body) (h:=[]) e1 abk rest;have e3:qt T []=T:=cN _;rw[e3] at go;exact go
end
structure wS (F R:Nat) (cs:List Nat):Prop where
 cl:CL F R cs
 pv:∀i,cs.getD i 0=0\/1<=cs.getD i 0%8/\cs.getD i 0%8<=6
 k0:∃k,k<F*R/\∀i,cs.getD i 0=6↔i=k
 k1:∃k,k<F*R/\∀i,cs.getD i 0=14↔i=k
 pw:AA F R cs
abbrev wT(F R:Nat)(cs:List Nat)(i:Nat):Bool:=decide (F=7)&&(decide (R=3)&&(decide (cs.getD (i/2*14+3) 0=i/2*8+6)&&decide (cs.getD (i/2*14+6*(1 - i%2)) 0=i/2*8+4)))
structure Gp (F R:Nat) (cs:List Nat) (au az:Nat):Prop where
 cg:wS F R cs
 sf:tF F R cs (cs.idxOf (14 - 8*au)) (1 - au)=true
 rt:∀i,i<4->az >>> i &&& 1≠0->wT F R cs i=true
 sd:au<2
 r16:az<16
abbrev RC(F R:Nat)(cs:List Nat)(x:Nat):Bool:=(cn (F*R)).any λk=>(cn (F*R)).all λi=>decide (cs.getD i 0=x) == decide (i=k)
abbrev TS(F R:Nat)(cs:List Nat)(au az:Nat):Bool:=
 decide (cs.length=F*R)&&((cn (F*R)).all λi=>decide (cs.getD i 0<16)&&(decide (cs.getD i 0=0)||decide (1<=cs.getD i 0%8/\cs.getD i 0%8<=6))&&decide (cs.getD i 0%8≠1))&&
 RC F R cs 6&&RC F R cs 14&&tF F R cs (cs.idxOf (14 - 8*au)) (1 - au)&&((cn 4).all λi=>decide (az >>> i &&& 1=0)||wT F R cs i)
def w5{l:List Nat}(h:¬i<l.length):l.getD i 0=0:=by rw[ba,eH (dZ h)];rfl
def M2{F R x:Nat}(hl:cs.length=F*R)(hx:x≠0)(h:RC F R cs x=true):∃k,k<F*R/\∀i,cs.getD i 0=x↔i=k:=by
 obtain⟨k,hk,h⟩:=eu.mp h;refine⟨k,cL.mp hk,λi=>?_⟩;by_cases hi:i<F*R
 .have:=cH (cK.mp h i (cL.mpr hi))
  rwa [da,cu,cu] at this
 .rw[w5 (by rw[hl];exact hi)];exact⟨λz=>cG z.symm hx,λz=>cG (z▸cL.mp hk) hi⟩
def VJ{F R au az:Nat}{cs:List Nat}(bd:Bd F R)(hs:au<2)(hr:az<16)(h:TS F R cs au az=true):Gp F R cs au az:=by
 ext F R au az cs;unfold TS at h;simp only[ax,cu] at h;obtain⟨⟨⟨⟨⟨h1,h2⟩,h3⟩,h4⟩,h5⟩,h6⟩:=h;have all:∀i,cs.getD i 0<16/\(cs.getD i 0=0\/1<=cs.getD i 0%8/\cs.getD i 0%8<=6)/\cs.getD i 0%8≠1:=λi=>by
  by_cases hi:i<F*R
  .have:=cK.mp h2 i (cL.mpr hi);simp only[ax,cT,cu] at this;exact⟨this.1.1,this.1.2,this.2⟩
  .rw[w5 (by rw[h1];exact hi)];exact⟨by decide,.inl rfl,by decide⟩
 refine⟨⟨⟨bd,h1,λi=>(all i).1⟩,λi=>(all i).2.1,M2 h1 ⋯ h3,M2 h1 ⋯ h4,λs w h=>cG h (all s).2.2⟩,h5,λi hi hb=>?_,hs,hr⟩;have:=cK.mp h6 i (cL.mpr hi);rcases (cT _ _).mp this with h | h
 .exact cG (b9 h) hb
 .exact h
abbrev X3(n:Nat):Nat:=([6,0,20,14]:List Nat).getD n 0
abbrev YJ(n:Nat):Nat:=([4,4,12,12]:List Nat).getD n 0
abbrev Px(r:Nat):Nat->List Nat
 | 0=>((cW 21 0).set 3 6).set 17 14
 | n+1=>if r >>> n &&& 1≠0 then(Px r n).set (X3 n) (YJ n) else Px r n
def Ha(r:Nat):∀n,(Px r n).length=21
 | 0=>by rw[Px,cP,cP,d8]
 | n+1=>by
  rw[Px];split
  .rw[cP];exact Ha r n
  .exact Ha r n
def Wy:((cn 16).all λr=>(cn 2).all λs=>TS 7 3 (Px r 4) s r)=true:=by decide +kernel
abbrev IV(w:Nat):List Nat:=(cW 12 0).set w 6
abbrev PF(w s:Nat):List Nat:=(IV w).set s 14
abbrev dist(a b:Nat):Nat:=a - b+(b - a)
abbrev far(w s:Nat):Bool:=decide (1<dist (s%3) (w%3))||decide (1<dist (s/3) (w/3))
def UC:((cn 12).all λw=>(cn 12).all λs=> !far w s||(cn 2).all λsd=>TS 3 4 (PF w s) sd 0)=true:=by decide +kernel
def WT:((cn 12).all λw=>(cn 12).any λs=>far w s)=true:=by decide +kernel
def wX{cs:List Nat}(hl:cs.length=F*R){k:Nat}(hk:k<F*R)(h:∀i,cs.getD i 0=x↔i=k):x∈cs/\cs.idxOf x=k:=by
 have hk':k<cs.length:=hl▸hk;have e:cs[k]=x:=by
  have:=(h k).mpr rfl
  rwa [ba,a7 hk'] at this
 have m:x∈cs:=e▸dk hk';refine⟨m,(h _).mp ?_⟩;have l:=jC.mpr m;rw[ba,a7 l];exact lu l
def wS.king(h:wS F R cs)(hs:au<2):∃k,k<F*R/\∀i,cs.getD i 0=au*8+6↔i=k:=by
 rcases (u2 (by assumption:au<2)) with e | e<;>subst e
 .exact h.k0
 .exact h.k1
def Gp.place{cs:List Nat}(g:Gp F R cs au az)(hs:s<F*R)(h0:cs.getD s 0=0)(hk:1<=kd/\kd<=5)(hc:c<2)(hp:kd=1->F<=s/\s+F<F*R)(sf:tF F R (cs.set s (c*8+kd)) ((cs.set s (c*8+kd)).idxOf (14 - 8*au)) (1 - au)=true):Gp F R (cs.set s (c*8+kd)) au az:=by
 ext au az s kd c cs;have hl:=g.cg.cl.l;have sl:s<cs.length:=by rw[hl];exact hs
 have gs:∀i,(cs.set s (c*8+kd)).getD i 0=if i=s then c*8+kd else cs.getD i 0:=λi=>by
  rw[zz];by_cases e:s=i
  .rw[cC ⟨e,sl⟩,cC e.symm]
  .rw[cD (λz=>e z.1),cD (λz=>e z.symm)]
 have kg:∀x,x=6\/x=14->(∃k,k<F*R/\∀i,cs.getD i 0=x↔i=k)->∃k,k<F*R/\∀i,(cs.set s (c*8+kd)).getD i 0=x↔i=k:=λx hx ⟨k,k1,k2⟩=>⟨k,k1,λi=>by
  rw[gs];by_cases e:i=s
  .rw[cC e];subst e;refine⟨λz=>by rcases hx with h | h<;>lia,λz=>?_⟩;subst z;have:=(k2 i).mpr rfl;rcases hx with h | h<;>lia
  .rw[cD e];exact k2 i⟩
 refine⟨⟨g.cg.cl.set (by lia),λi=>?_,kg 6 (.inl rfl) g.cg.k0,kg 14 (.inr rfl) g.cg.k1,λi hi h=>?_⟩,sf,λi hi hb=>?_,g.sd,g.r16⟩
 .rw[gs];split
  .right;lia
  .exact g.cg.pv i
 .rw[gs] at h;by_cases e:i=s
  .rw[cC e] at h;subst e;exact hp (by lia)
  .rw[cD e] at h;exact g.cg.pw i hi h
 .have z:=g.rt i hi hb;unfold wT at z ⊢;simp only[ax,cu] at z ⊢;obtain⟨z1,z2,z3,z4⟩:=z;refine⟨z1,z2,?_,?_⟩
  .rw[gs,cD (λe=>by rw[e,h0] at z3;lia)];exact z3
  .rw[gs,cD (λe=>by rw[e,h0] at z4;lia)];exact z4
structure RZ (K:pK) (f:Nat) (vs:List V) (h:H) (R:V->H->Prop):Prop where
 go:∀Q:V->H->Prop,(∀v h',R v h'->Q v h')->K.call f vs h Q
def mkX{K K':pK}{f:Nat}{vs:List V}{body:Ss}{e:nw}{T:H}{R:V->H->Prop}(F:∀Q,(oY T.length T->uO K' body e T (qN T.length Q))->K.call f vs T Q)(G:∀Q:V->H->Prop,(∀v h',R v h'->Q v h')->oY T.length T->oD K' body e T (qN T.length Q)):RZ K f vs T R:=
 ⟨λQ q=>F Q λhc=>(G Q q hc).go⟩
section
variable{K:pK}{e:nw}{h A t:H}{a b:E}{i j n m x y:Nat}{l:List Nat}
def EO(hi:i<l.length)(hm:l.length<1000):pV (.ref A.length) (nv i) (nv m) (A++(.list (l.map nv)::t))=J (A++(.list ((l.set i m).map nv)::t)):=by
 rw[E6 (by simp) hi hm,ew _ _ (cX _),eD,iy]
def Ro(B:db K a e h (nv x) h)(C:db K b e h (nv y) h):db K (.abs i (.bin .sub a b)) e h (nv (dist x y)) h:=by
 ext K e h a b i x y;have z:=um (o:=.sub) (z:=.int ((x:Int) - y)) B C rfl;refine⟨λQ q=>z.go _ ?_⟩;show Q (.int (if(x:Int) - y<0 then -((x:Int) - y) else(x:Int) - y)) h;have:(if(x:Int) - y<0 then -((x:Int) - y) else(x:Int) - y)=((dist x y:Nat):Int):=by
  unfold dist;split<;>lia
 rw[this];exact q
def Uc(n m:Nat):(cW n [nv m]).flatten=(cW n m).map nv:=by
 induction n with
 | zero=>rfl
 | succ n ih=>rw[fO,iF,ih,fO,dw];rfl
def Q0(h:l.getD i 0=0):(l.set i x).set i 0=l:=by
 rw[gQ];exact pD rfl (λw=>h) λw w=>rfl
end
abbrev Wk:Ss:=match BK.body with
 | .cons _ (.cons _ (.cons _ r))=>r
 | _=>.nil
abbrev Zu(n:Int):Nat:=([0,5,4,2,3,1,4,3]:List Nat).getD (eZ n 8).toNat 0
abbrev U1(F R:Nat):Prop:=F=3/\R=4\/F=7/\R=3
def Db:U1 F R:=KD (C:=λF R w=>U1 F R) (.inl ⟨rfl,rfl⟩) (.inr ⟨rfl,rfl⟩)
def U1.bd(h:U1 F R):Bd F R:=KD (C:=λF R w=>Bd F R) Za YW
section
variable{d:Nat}{T:H}{au az np:Nat}{Q:V->H->Prop}{ns:List Int}
def sC(x:Int){n:Nat}(h:0<n):(eZ x n).toNat<n:=by
 ext x n;have h':(0:Int)<(n:Int):=by lia
 have:=lB x h';have:=iK x h';lia
def y6{K:pK}(A:db K a e h (.int x) h)(B:db K b e h (nv n) h)(l:0<n)(l':n<1000000):db K (.bin .div a b) e h (.int (fE x n)) h:=um A B (by
 unfold pq nv;dsimp only
 (rewrite [cC (by(rewrite [ax,cu,cu];try with_reducible rfl);lia)];try with_reducible rfl))
def LB{jk:H}{x7 x8 x9 bY:Option V}(Db:U1 F R)(g:Gp F R cs au az)(hn:ns.length=7)(N:T[np]? =J (.list (ns.map .int)))(hc:oY T.length T)(q:∀cs,Gp F R cs au az->Q (.ref T.length) (T++[.list (cs.map nv)])):oD (K0 (d+2)) Wk [J (nv F),J (nv R),J (nv au),J (nv az),J (.ref np),J (nv (F*R)),J (.ref T.length),x7,x8,x9,bY,U,U,U,U,U,U] (T++(.list (cs.map nv)::jk)) (qN T.length Q):=by
 revert az np Q ns cs jk x7 x8 x9 bY;ext d T au;ext az np Q ns cs jk x7 x8 x9 bY;have bd:=Db.bd;have hF:=bd.f;have hR:=bd.r;have hsz:=bd.sz;have hs2:=g.sd;have sz0:0<F*R:=by rcases Db with⟨h1,h2⟩ | ⟨h1,h2⟩<;>rw[h1,h2]<;>decide
 have N':∀{t:H},(T++t)[np]? =J (.list (ns.map .int)):=λ{t}=>(ar (f0 N)).trans N;refine Hf (v:=.ref (T++(.list (cs.map nv)::jk)).length) (xs:=((ns.map V.int).take 7).drop 3) (lw _) (vZ ∅ qF qF (by
   exact tx (x:=.ref np) (a:=3) (b:=7) N' rfl rfl (by rw[bj,hn];decide))) bn
  (λj e h=>∃cs jk2 bY x11 x12,Gp F R cs au az/\T++(.list (cs.map nv)::(jk++[.list (((ns.map V.int).take 7).drop 3)]++jk2))=h/\e=[J (nv F),J (nv R),J (nv au),J (nv az),J (.ref np),J (nv (F*R)),J (.ref T.length),x7,x8,x9,bY,x11,x12,U,U,U,U])
  ⟨cs,[],bY,U,U,g,by simp,rfl⟩ (λj e h z=>?_) rfl (λj v hv e h z=>?_) λe h z=>?_
 .refine bc λkk=>?_;obtain⟨cs',jk2,_,_,_,_,rfl,_⟩:=z;refine kk ?_;clear kk;show(T++(O.list (cs'.map nv)::(jk++[.list (((ns.map V.int).take 7).drop 3)]++jk2)))[(T++(.list (cs.map nv)::jk)).length]? =_;rw[<- eA,<-eA,<-aa,<-aa,ar (by simp)];exact pT (by simp)
 .refine bc λkk=>?_;obtain⟨cs,jk2,y10,y11,y12,g,rfl,rfl⟩:=z;refine kk ?_;clear kk;have hv2:∃n:Int,v= .int n:=by
   have:v∈ns.map V.int:=g9 (kL (dB hv));obtain⟨n,_,rfl⟩:=d7.mp this;exact⟨n,rfl⟩
  obtain⟨n,rfl⟩:=hv2;obtain⟨jk3,hjk⟩:=(⟨_,rfl⟩:∃jk3,jk3=jk++[O.list (((ns.map V.int).take 7).drop 3)]++jk2)
  have aB:∀cs' jk' bY x11 x12,Gp F R cs' au az->∃cs jk2 y10 y11 y12,Gp F R cs au az/\T++(.list (cs.map nv)::(jk++[.list (((ns.map V.int).take 7).drop 3)]++jk2))=T++(O.list (cs'.map nv)::(jk3++jk'))/\[J (nv F),J (nv R),J (nv au),J (nv az),J (.ref np),J (nv (F*R)),J (.ref T.length),x7,x8,x9,bY,x11,x12,U,U,U,U]=[J (nv F),J (nv R),J (nv au),J (nv az),J (.ref np),J (nv (F*R)),J (.ref T.length),x7,x8,x9,y10,y11,y12,U,U,U,U]:=
   λcs' jk' bY x11 x12 g'=>⟨cs',jk2++jk',bY,x11,x12,g',by rw[hjk];simp,rfl⟩
  rw[<- hjk];clear hjk;obtain⟨kd,hkd⟩:=(⟨_,rfl⟩:∃kd,kd=Zu n)
  have k5:kd<=5:=by
   rw[hkd];exact(by decide:∀m<8,([0,5,4,2,3,1,4,3]:List Nat).getD m 0<=5) _ (sC n (n:=8) ⋯)
  have hl:=g.cg.cl.l;obtain⟨s,hs⟩:=(⟨_,rfl⟩:∃s,s=(eZ (fE n 16) (F*R:Nat)).toNat)
  have s1:s<F*R:=by rw[hs];exact sC _ sz0
  refine(bs (v:=nv kd) (pd (qe (xs:=([0,5,4,2,3,1,4,3]:List Nat).map nv) (be ac (be ac (be ac (be ac (be ac (be ac (be ac (be ac f8)))))))) (by show(8:Nat)<=1000;decide)) (sG ∅ (ac (n:=8)) ⋯) (io bn) (by rw[hkd];exact v9 (sC _ ⋯)) (cU (sC _ ⋯) ⋯))
   (bs (v:=nv s) (by rw[hs];exact sG (y6 ∅ (ac (n:=16)) ⋯ ⋯) ∅ sz0) ?_)).go
  have Lc:∀{l:List Nat} {t t':H},(T++(O.list (l.map nv)::t)++t')[T.length]? =J (.list (l.map nv)):=λ{l t t'}=>by rw[aa,eA];simp
  have cell:∀{e:nw} {t:H},e[6]? =J (J (.ref T.length))->e[10]? =J (J (nv s))->db (K0 (d+2)) (.sub (.loc 6) (.loc 10)) e (T++(.list (cs.map nv)::jk3)++t) (nv (cs.getD s 0)) (T++(.list (cs.map nv)::jk3)++t):=λl6 l10=>sH Lc g.cg.cl s1 (r_loc l6) (r_loc l10);by_cases z0:kd=0
  .refine lv (t:=false) (qZ (t:=false) (x:=nv kd) ∅ (by rw[oE,z0];rfl) (λe=>by cases e) λw=>⟨rfl,rfl⟩) (by rw[oE,z0];rfl) (λe=>by cases e) λw=>?_;rw[aa,eA];exact od (aB cs _ _ _ _ g)
  have hF0:0<F:=by lia
  refine lv (x:=.bool (decide (cs.getD s 0=0)&&(decide (kd≠1)||(decide (0<s/F)&&decide (s/F<R - 1))))) (t:=decide (cs.getD s 0=0)&&(decide (kd≠1)||(decide (0<s/F)&&decide (s/F<R - 1)))) (qZ (t:=true) (x:=nv kd) ∅ (by rw[oE];exact cF J (cy z0)) (λw=>sr (oM (cell rfl rfl) ac) (sE (tI ∅ ac) (L8 (x:=nv 0) (z:=nv (R - 1)) ac (sA ∅ ∅ hF0 (by lia)) (oH ∅ ac (by show 1<=R;lia)) ?_ ?_))) λe=>by cases e) rfl (λe1=>?_) λe1=>?_
  .show J (decide ((0:Int)<((s/F:Nat):Int)))=J (decide (0<s/F));congr 1;rw[da];simp only[cu];lia
  .show J (decide (((s/F:Nat):Int)<((R - 1:Nat):Int)))=J (decide (s/F<R - 1));congr 1;rw[da];simp only[cu];lia
  .simp only[ax,cT,cu] at e1;obtain⟨c0,c1⟩:=e1;obtain⟨cc,hcc⟩:=(⟨_,rfl⟩:∃cc,cc=(eZ (fE n 8) (2:Nat)).toNat)
   have cc2:cc<2:=by rw[hcc];exact sC _ ⋯
   have pw:kd=1->F<=s/\s+F<F*R:=λe=>by
    rcases c1 with h | h
    .exact cG e h
    .rcases Db with⟨h1,h2⟩ | ⟨h1,h2⟩<;>lia
   have sl:s<cs.length:=by rw[hl];exact s1
   have cl':CL F R (cs.set s (cc*8+kd)):=g.cg.cl.set (by lia);have bV:14 - 8*au∈cs.set s (cc*8+kd):=by
    obtain⟨k,k1,k2⟩:=g.cg.king (c2 au);have e:(1 - au)*8+6=14 - 8*au:=(Ry hs2).1;rw[e] at k2;have ck:cs.getD k 0=14 - 8*au:=(k2 k).mpr rfl;have ne:s≠k:=λz=>by rw[<- z,c0] at ck;lia
    have:(cs.set s (cc*8+kd)).getD k 0=14 - 8*au:=by rw[im k (dQ ne)];exact ck
    have kl:k<(cs.set s (cc*8+kd)).length:=by rw[cP,hl];exact k1
    rw[ba,a7 kl] at this;exact this▸dk kl
   rw[aa,eA];refine uG (v:=nv (cc*8+kd)) (qG (r7 (n:=cc) (by rw[hcc];exact sG (y6 ∅ (ac (n:=8)) ⋯ ⋯) (ac (n:=2)) ⋯) ac (cU cc2 ⋯) ⋯) ∅) ∅ ∅ (EO sl (by lia)) ?_;have g2:∀{l:List Nat} {t:H},(T++(O.list (l.map nv)::t))[T.length]? =J (.list (l.map nv)):=λ{l t}=>by simp
   have kq:db (K0 (d+2)) (.bin .sub (.int 14) (.bin .mul (.int 8) (.loc 2))) [J (nv F),J (nv R),J (nv au),J (nv az),J (.ref np),J (nv (F*R)),J (.ref T.length),x7,x8,x9,J (nv s),J (.int n),J (nv kd),U,U,U,U] (T++(.list ((cs.set s (cc*8+kd)).map nv)::(jk3++[.list (([0,5,4,2,3,1,4,3]:List Nat).map nv)]))) (nv (14 - 8*au)) (T++(.list ((cs.set s (cc*8+kd)).map nv)::(jk3++[.list (([0,5,4,2,3,1,4,3]:List Nat).map nv)]))):=
    oH ac (r7 ac ∅ ⋯ (by lia)) (by show 8*au<=14;lia)
   refine lv (uC (bi (lc rfl (lc rfl (lc rfl (be (HH ∅ g2 kq bV (by rw[cP];lia)) (be (oH ac ∅ (dh hs2)) f8))))) (yU cl' g2)) bm) bm (λe2=>?_) λe2=>?_
   .refine uG (v:=nv 0) ac ∅ ∅ (EO (by rw[cP];exact sl) (by rw[cP];lia)) (ld (ld (od ?_)));rw[Q0 c0];exact aB cs _ _ _ _ g
   .have e3:tF F R (cs.set s (cc*8+kd)) ((cs.set s (cc*8+kd)).idxOf (14 - 8*au)) (1 - au)=true:=by simpa using e2
    exact ld (od (aB _ _ _ _ _ (g.place s1 c0 ⟨ef z0,k5⟩ cc2 pw e3)))
  .rw[aa,eA];exact od (aB cs _ _ _ _ g)
 .refine bc λkk=>?_;obtain⟨cs,jk2,y10,y11,y12,g,rfl,rfl⟩:=z;refine kk ?_;clear kk;exact NQ ∅ (i:=0) rfl rfl zk hc (q cs g) λw w z=>z
def SN(w:Nat):14∉IV w:=λh=>by
 unfold IV at h;rcases jv h with h | h
 .have:=List.eq_of_mem_replicate h;cases this
 .cases h
def PS(h:s<12):14∈PF w s:=by
 unfold PF;exact List.mem_set (by unfold IV;rw[cP,d8];exact h) 14
def Wl(r n:Nat)(hn:n<4):X3 n<21:=by
 exact Vp hn ⋯ ⋯ ⋯ ⋯
def Kc(Db:U1 F R)(hs:au<2)(hr:az<16)(hr0:F=3->az=0)(hn:ns.length=7)(N:T[np]? =J (.list (ns.map .int))):
  RZ (K0 (d+3)) 912 [nv F,nv R,nv au,nv az,.ref np] T λv h'=>∃cs,Gp F R cs au az/\v= .ref T.length/\h'=T++[.list (cs.map nv)]:=by
 ext d T au az np ns;exact mkX (λQ=>JX rfl) λQ q hc=>by
   ext Q;have bd:=Db.bd;have hF:=bd.f;have hR:=bd.r;have hsz:=bd.sz;have sz0:0<F*R:=by rcases Db with⟨h1,h2⟩ | ⟨h1,h2⟩<;>rw[h1,h2]<;>decide
   have rest:=λ(cs:List Nat) (jk:H) (x7 x8 x9 bY:Option V) (g:Gp F R cs au az)=>LB (d:=d) (x7:=x7) (x8:=x8) (x9:=x9) (bY:=bY) (jk:=jk) (Q:=Q) Db g hn N hc λcs g=>q _ _ ⟨cs,g,rfl,rfl⟩;have N':∀{t:H},(T++t)[np]? =J (.list (ns.map .int)):=λ{t}=>(ar (f0 N)).trans N;refine bs (r7 ∅ ∅ (by lia) (by lia)) (bs (Nv (be (ac (n:=0)) f8) ∅ (by show(1:Nat)<=10;decide) (by lia)) ?_);rw[Uc];have LA:∀{l:List Nat} {t:H},(T++(O.list (l.map nv)::t))[T.length]? =J (.list (l.map nv)):=λ{l t}=>by simp
   refine uw (oM ∅ ac) bm (λe1=>?_) λe1=>?_
   .have e1:=b9 e1;obtain⟨hF7,hR3⟩:F=7/\R=3:=by
     rcases Db with⟨h1,h2⟩ | ⟨h1,h2⟩
     .rw[h1] at e1;cases e1
     .exact⟨h1,h2⟩
    rw[hF7,hR3] at bd rest ⊢;refine uG ac ∅ (ac (n:=3)) (EO (t:=[]) (by rw[d8];decide) (by rw[d8];decide)) ?_;refine uG ac ∅ (ac (n:=17)) (EO (t:=[]) (by rw[cP,d8];decide) (by rw[cP,d8];decide)) ?_;refine rQ (n:=0) (m:=4) (lw _) (pZ (be ac f8) ⋯) bn ⋯ ⋯
     (λj e h=>∃jk x7,T++(.list ((Px az j).map nv)::jk)=h/\e=[J (nv 7),J (nv 3),J (nv au),J (nv az),J (.ref np),J (nv (7*3)),J (.ref T.length),x7,U,U,U,U,U,U,U,U,U])
     ⟨[.aT 0 4 1],U,by rw[aa];rfl,rfl⟩ (λj w hj e h z=>?_) λe h z=>?_
    .obtain⟨jk,x7,rfl,rfl⟩:=z;have kl:=Ha az j;refine lv (nb (rD ∅ ∅) ac) oE (λe2=>?_) λe2=>od ⟨jk,J (nv j),?_,rfl⟩
     .have e2:=b9 e2;have kt:=Wl az j hj;have a1:=pd (K:=K0 (d+2)) (a:=.list (.cons (.int 4) (.cons (.int 4) (.cons (.int 12) (.cons (.int 12) .nil))))) (b:=.loc 7) (e:=[J (nv 7),J (nv 3),J (nv au),J (nv az),J (.ref np),J (nv (7*3)),J (.ref T.length),J (nv j),U,U,U,U,U,U,U,U,U]) (h:=T++(.list ((Px az j).map nv)::jk)) (qe (xs:=([4,4,12,12]:List Nat).map nv) (be ac (be ac (be ac (be ac f8)))) (by show(4:Nat)<=1000;decide)) ∅ (io bn) (v9 hj) (by lia);have a2:=pd (K:=K0 (d+2)) (a:=.list (.cons (.int 6) (.cons (.int 0) (.cons (.int 20) (.cons (.int 14) .nil))))) (b:=.loc 7) (e:=[J (nv 7),J (nv 3),J (nv au),J (nv az),J (.ref np),J (nv (7*3)),J (.ref T.length),J (nv j),U,U,U,U,U,U,U,U,U]) (h:=T++(.list ((Px az j).map nv)::jk)++[.list (([4,4,12,12]:List Nat).map nv)]) (qe (xs:=([6,0,20,14]:List Nat).map nv) (be ac (be ac (be ac (be ac f8)))) (by show(4:Nat)<=1000;decide)) ∅ (io bn) (v9 hj) (by lia);refine uG a1 ∅ a2 (h4:=T++(.list (((Px az j).set (X3 j) (YJ j)).map nv)::(jk++[.list (([4,4,12,12]:List Nat).map nv)]++[.list (([6,0,20,14]:List Nat).map nv)]))) ?_ (ld (od ⟨jk++[.list (([4,4,12,12]:List Nat).map nv)]++[.list (([6,0,20,14]:List Nat).map nv)],J (nv j),?_,rfl⟩))
      .rw[aa,aa,eA,<-aa];exact EO (by rw[kl];exact kt) (by rw[kl];decide)
      .rw[Px,cC e2]
     .rw[Px,cD (cj e2)]
    .obtain⟨jk,x7,rfl,rfl⟩:=z;have ck:=cK.mp (cK.mp Wy az (cL.mpr hr)) au (cL.mpr hs);exact ld (rest _ _ _ _ _ _ (VJ bd hs hr ck))
   .have e1:=cj e1;obtain⟨hF3,hR4⟩:F=3/\R=4:=by
     rcases Db with⟨h1,h2⟩ | ⟨h1,h2⟩
     .exact⟨h1,h2⟩
     .exact cG h1 e1
    obtain rfl:=hr0 hF3;rw[hF3,hR4] at bd rest ⊢;obtain⟨n2,hn2⟩:∃n2,(ns.map V.int)[2]? =J (.int n2):=by
     rw[cV,a7 (by rw[hn];decide)];exact⟨_,rfl⟩
    ext n2;have num:∀{e:nw} {t:H},e[4]? =J (J (.ref np))->db (K0 (d+2)) (.sub (.loc 4) (.int 2)) e (T++t) (.int n2) (T++t):=λl=>pd (r_loc l) (ac (n:=2)) (io N') hn2 ⋯;obtain⟨wh,hwh⟩:=(⟨_,rfl⟩:∃wh,wh=(eZ n2 (3*4:Nat)).toNat)
    ext wh;have w12:wh<12:=by rw[hwh];exact sC n2 (n:=12) ⋯
    refine bs (v:=nv wh) (by rw[hwh];exact sG (num rfl) ∅ ⋯) (uG ac ∅ ∅ (EO (t:=[]) (by rw[d8];exact w12) (by rw[d8];decide)) ?_);obtain⟨sk,hsk⟩:=(⟨_,rfl⟩:∃sk:Nat->Nat,sk=λk:Nat=>(eZ (fE n2 (3*4:Nat)+(k:Int)) (3*4:Nat)).toNat)
    ext sk;have sk12:∀k,sk k<12:=λk=>by rw[hsk];exact sC _ (n:=12) ⋯
    refine rQ (n:=0) (m:=3*4) (lw _) (pZ (lz rfl) ⋯) bn ⋯ ⋯
     (λj e h=>∃cs jk x9 bY,T++(.list (cs.map nv)::jk)=h/\(cs=IV wh/\(∀k,k<j->far wh (sk k)=false)\/∃s,s<12/\far wh s=true/\cs=PF wh s)/\e=[J (nv 3),J (nv 4),J (nv au),J (nv 0),J (.ref np),J (nv (3*4)),J (.ref T.length),U,J (nv wh),x9,bY,U,U,U,U,U,U])
     ⟨IV wh,[.aT 0 (3*4:Nat) 1],U,U,by rw[aa];rfl,.inl ⟨rfl,λk hk=>cG hk (fy _)⟩,rfl⟩ (λj w hj e h z=>?_) λe h z=>?_
    .refine bc λkk=>?_;obtain⟨cs,jk,x9,bY,rfl,hcs,rfl⟩:=z;refine kk ?_;clear kk;have sj:(eZ (fE n2 (3*4:Nat)+j) (3*4:Nat)).toNat=sk j:=by rw[hsk]
     refine bs (v:=nv (sk j)) (by rw[<- sj];exact sG (um (x:=.int (fE n2 (3*4:Nat))) (y:=nv j) (z:=.int (fE n2 (3*4:Nat)+j)) (y6 (num rfl) ∅ ⋯ ⋯) ∅ rfl) ∅ ⋯) ?_;have fr:db (K0 (d+2)) (.or (.cmp (.abs 14 (.bin .sub (.bin .mod (.loc 10) (.int 3)) (.bin .mod (.loc 8) (.int 3)))) .gt (.int 1)) (.cmp (.abs 14 (.bin .sub (.bin .div (.loc 10) (.int 3)) (.bin .div (.loc 8) (.int 3)))) .gt (.int 1))) [J (nv 3),J (nv 4),J (nv au),J (nv 0),J (.ref np),J (nv (3*4)),J (.ref T.length),U,J (nv wh),J (nv j),J (nv (sk j)),U,U,U,U,U,U] (T++(.list (cs.map nv)::jk)) (.bool (far wh (sk j))) (T++(.list (cs.map nv)::jk)):=
      sE (Jw (Ro (wF ∅ ac ⋯) (wF ∅ ac ⋯)) ac) (Jw (Ro (sA ∅ ac ⋯ ⋯) (sA ∅ ac ⋯ ⋯)) ac)
     have nin:db (K0 (d+2)) (.cmp (.int 14) .b7 (.loc 6)) [J (nv 3),J (nv 4),J (nv au),J (nv 0),J (.ref np),J (nv (3*4)),J (.ref T.length),U,J (nv wh),J (nv j),J (nv (sk j)),U,U,U,U,U,U] (T++(.list (cs.map nv)::jk)) (.bool (!decide (14∈cs))) (T++(.list (cs.map nv)::jk)):=by
      refine pB (ac (n:=14)) ∅ ?_;show(pN _ _ _).bind _=_;rw[io LA,eP];rw[ux];rfl
     refine lv (sr nin fr) bm (λe2=>?_) λe2=>od ⟨cs,jk,J (nv j),J (nv (sk j)),rfl,?_,rfl⟩
     .rw[ax,dc,cA] at e2;obtain⟨e2,e3⟩:=e2;rcases hcs with⟨rfl,_⟩ | ⟨s,s1,_,rfl⟩
      .have ol:(IV wh).length=12:=by unfold IV;rw[cP,d8]
       exact uG ac ∅ ∅ (EO (by rw[ol];exact sk12 j) (by rw[ol];decide)) (ld (od ⟨_,jk,J (nv j),J (nv (sk j)),rfl,.inr ⟨sk j,sk12 j,e3,rfl⟩,rfl⟩))
      .exact cG (PS s1) e2
     .rcases hcs with⟨rfl,h⟩ | h
      .refine .inl ⟨rfl,λk hk=>?_⟩;by_cases ek:k=j
       .rw[ek];rw[cz (SN wh),Bool.not_false,eQ] at e2;exact e2
       .exact h k (by lia)
      .exact .inr h
    .refine bc λkk=>?_;obtain⟨cs,jk,x9,bY,rfl,hcs,rfl⟩:=z;refine kk ?_;clear kk;have tw:∃s,s<12/\far wh s=true/\cs=PF wh s:=by
      rcases hcs with⟨_,h⟩ | h
      .obtain⟨s,s1,s2⟩:=eu.mp (cK.mp WT wh (cL.mpr w12));have s1:=cL.mp s1;have hk:=h (Int.emod ((s:Int) - fE n2 (3*4:Nat)) 12).toNat (by generalize (s:Int) - fE n2 (3*4:Nat)=z;show(z%12).toNat<12;lia);have es:sk (Int.emod ((s:Int) - fE n2 (3*4:Nat)) 12).toNat=s:=by
        rw[hsk];dsimp only;rw[hB _ ⋯];generalize fE n2 (3*4:Nat)=z;show((z+(((s:Int) - z)%12).toNat)%12).toNat=s;lia
       rw[es,s2] at hk;cases hk
      .exact h
     obtain⟨s,s1,s2,rfl⟩:=tw;have ck:=cK.mp (cK.mp UC wh (cL.mpr w12)) s (cL.mpr s1);rw[s2,jE,fq] at ck;exact ld (rest _ _ _ _ _ _ (VJ bd hs hr (cK.mp ck au (cL.mpr hs))))
end
noncomputable abbrev qm:=List Nat × Nat × Nat
abbrev DV(h:H)(q:Nat)(S:qm):Prop:=∃cq,h[q]? =J (.tup [.ref cq,nv S.2.1,nv S.2.2])/\h[cq]? =J (.list (S.1.map nv))
abbrev wx(h:H):List V->List qm->Prop
 | [],[]=>True
 | v::vs,s::ss=>(∃q,v= .ref q/\DV h q s)/\wx h vs ss
 | _,_=>False
def DV.app{q:Nat}{S:qm}(A:DV h q S)(t:H):DV (h++t) q S:=by
 obtain⟨cq,h1,h2⟩:=A;exact⟨cq,(ar (f0 h1)).trans h1,(ar (f0 h2)).trans h2⟩
def wx.len:∀{vs:List V} {ss:List qm},wx h vs ss->vs.length=ss.length
 | [],[],_=>rfl
 | [],_::_,q=>q.elim
 | _::_,[],q=>q.elim
 | _::_,_::_,q=>cF lQ q.2.len
def wx.get:∀{vs:List V} {ss:List qm} {i:Nat} {S:qm},wx h vs ss->ss[i]? =J S->∃q,vs[i]? =J (.ref q)/\DV h q S
 | [],[],_,_,_,e=>by cases e
 | [],_::_,_,_,q,_=>q.elim
 | _::_,[],_,_,q,_=>q.elim
 | v::vs,s::ss,i,S,q,e=>by
  cases i with
  | zero=>obtain⟨⟨x,h1,h2⟩,_⟩:=q;cases e;exact⟨x,cF J h1,h2⟩
  | succ i=>exact q.2.get e
def Su{k a b:Nat}{l l':List Nat}(g:h[a]? =J (.list (l.map nv)))(g':h[b]? =J (.list (l'.map nv))):u8 (k+2) h (.ref a) (.ref b)=J (decide (l=l')):=by
 rw[Tj,g,g'];show(if(l.map nv).length == (l'.map nv).length then qy (u8 (k+1) h) (l.map nv) (l'.map nv) else J false)=_;by_cases e1:l.length=l'.length
 .rw[cC (by simpa using e1)];exact HF e1
 .rw[cD (by simpa using e1)];congr 1;rw[eq_comm,cA];exact λe=>e1 (cF _ e)
def IR{k a b:Nat}{S S':qm}(g:DV h a S)(g':DV h b S'):u8 (k+3) h (.ref a) (.ref b)=J (decide (S=S')):=by
 ext h k a b S S';obtain⟨c,h1,h2⟩:=g;obtain⟨c',h1',h2'⟩:=g';rw[Tj,h1,h1',Ml];rw[uF (Su h2 h2') (uF KX (uF KX rfl))];refine cF J ?_;obtain⟨x,y,z⟩:=S;obtain⟨x',y',z'⟩:=S';rw[da];simp
abbrev xe(S:List qm):List Nat:=((cn (S.length - 1)).filter λi=>decide (S.getD i ([],0,0)=S.getD (S.length - 1) ([],0,0))).map λi=>S.length - 1 - i
abbrev pO(bk:List Nat):Int:=if 1<bk.length then -(bk.getD (bk.length - 1) 0:Int) else if bk.length=1 then(bk.getD 0 0:Int) else 0
def Iv:Mo bk.reverse=pO bk:=by
 unfold pO
 match bk with
 | []=>rfl
 | [a]=>rfl
 | a::b::l=>
  rw[cC (by simp)];have e:(a::b::l).reverse=(l.reverse++[b])++[a]:=by simp
  cases r:(a::b::l).reverse with
  | nil=>simp at r
  | cons x xs=>
   have hx:(a::b::l).getD ((a::b::l).length - 1) 0=x:=by
    have:(a::b::l)=xs.reverse++[x]:=by rw[<- List.reverse_reverse (a::b::l),r,List.reverse_cons]
    rw[this];simp
   cases xs with
   | nil=>have:=cF List.length r;simp at this
   | cons y ys=>rw[hx];rfl
section
variable{d:Nat}{Q:V->H->Prop}{T:H}{p:Nat}{X:uu}{P:Ps}{ks:List Nat}
def Gg{K:pK}(A:db K a e h (.bool s) h1)(B:db K b e h1 (.bool t) h2):db K (.cmp a .ne b) e h (.bool (s != t)) h2:=pB A B rfl
def Dm{K:pK}{e:nw}{h:H}{c:E}{sa r:Ss}{Q:QS}(A:db K c e h (.bool false) h)(R:oD K r e h Q):oD K (.cons (.ite c sa .nil) r) e h Q:=lv A rfl (λe=>by cases e) λw=>R
abbrev Qj:Ss:=rF 12 we.body
structure WH (G:o7) (P:Ps) (ks:List Nat) (bk:List Nat) (aH aD aE aB:Bool):Prop where
 chk:r5 G P P.au= !aH
 has:AK G P= !aD
 rep:tH P ks (rO P)=bk.reverse
 aB:LO P ks=aB
 aE:xo G P=aE
abbrev qL(aA:Nat)(bk:List Nat)(aH aD aE:Bool):Nat:=if(aD&&aH)=true then 2 else if aD=true then 1 else if 100<=aA then 3 else if 1<bk.length then 4 else if aE=true then 5 else 0
abbrev rE(aA:Nat)(aH aD:Bool):Bool:=decide (100<=aA)&&(aH|| !aD)
def WH.fifty{ks bk:List Nat}{aH aD aE aB:Bool}(A:WH G P ks bk aH aD aE aB):Da G P=rE P.aA aH aD:=by
 unfold Da QZ rE;rw[A.chk,A.has];cases aH<;>cases aD<;>rfl
def WH.out{ks bk:List Nat}{aH aD aE aB:Bool}(A:WH G P ks bk aH aD aE aB):D0 G P ks=qL P.aA bk aH aD aE:=by
 ext P G ks bk aH aD aE aB;unfold D0 qL;rw[A.has,A.chk,A.rep,A.aE,kW];have e:(3<=bk.length+1)↔(1<bk.length):=by lia
 simp only[e];cases aH<;>cases aD<;>simp
def JO{aH aD aE aB:Bool}{sp bp cp au az last:Nat}{m:Int}{n0:Nat}(A:At T p X P)(S:HK T P ks)(g:Gd X.G P)(H:WH X.G P ks bk aH aD aE aB)(hb:T[bp]? =J (.list (bk.map nv)))(bl:bk.length<1000){σ0 t:Mine.Lake.H}(hσ:T=σ0++t)(h0:σ0.length=n0)(hc:oY n0 σ0)(q:Q (.bool true) σ0):
  oD (K0 (d+13)) Qj [J (.ref p),J (nv F),J (nv R),J (.ref sp),J (.bool aB),J (nv P.aA),J (.int m),J (.ref cp),J (nv au),J (nv az),J (.bool aH),J (.bool aD),J (nv last),J (.ref bp),J (.int (pO bk)),J (.bool aE),J (.bool (rE P.aA aH aD)),J (nv (qL P.aA bk aH aD aE)),U,U,U,U,U,U,U,U,U,U,U,U,U,U] T (qN n0 Q):=by
 revert aH aD aE aB sp bp cp au az last m n0 σ0 t;ext d Q T p X P ks bk;revert σ0 t;ext aH aD aE aB sp bp cp au az last m n0;subst h0;have rl:(tH P ks (rO P)).length=bk.length:=by rw[H.rep,kW]
 have len:∀{e:nw} {i:Nat},e[13]? =J (J (.ref bp))->db (K0 (d+13)) (.len i (.loc 13)) e T (nv bk.length) T:=λ{e i} l=>by
  have z:=tV (K:=K0 (d+13)) (i:=i) (a:=.loc 13) (e:=e) (r_loc l) (io hb) (by rw[bj];lia);rw[bj] at z;exact z
 have md:∀{e:nw} {k:Nat},0<k->e[6]? =J (J (.int m))->db (K0 (d+13)) (.bin .mod (.loc 6) (.int (fk k))) e T (nv (eZ m k).toNat) T:=λhk l=>sG (r_loc l) ac hk;have k1:=yi (d:=d+11) A S;rw[rl] at k1;have k2:=λm=>tP (d:=d+10) (m:=m) A S;rw[rl] at k2;have k3:=td (d:=d+11) A S;rw[H.rep,Iv] at k3;have k4:=D6 (d:=d+11) A S;rw[H.aB] at k4;have k5:=sQ (d:=d+10) A;rw[H.aE] at k5;have k6:=JK (d:=d) A S g;have e6:Sm X.G P ks=(aE||(decide (1<bk.length)||rE P.aA aH aD)):=by
  unfold Sm;rw[H.aE,H.fifty,rl];have:decide (3<=bk.length+1)=decide (1<bk.length):=by rw[da];simp only[cu];lia
  rw[this]
 rw[e6] at k6;have k7:=λm=>Fy (d:=d) (m:=m) A S g;have e7:∀m,NK X.G P ks m=(rE P.aA aH aD||(decide (pO bk≠0)&&decide (pO bk<(m:Int)))):=λm=>by
  unfold NK;rw[H.fifty,H.rep,Iv];cases rE P.aA aH aD<;>rfl
 have k8:=Bp (d:=d+2) A S g;rw[H.out] at k8;have pe:∀{e:nw},e[0]? =J (J (.ref p))->Gb (K0 (d+13)) (.cons (.loc 0) .nil) e T [.ref p] T:=λl=>be (r_loc l) f8;refine Dm (by
  have z1:=tI (K:=K0 (d+13)) (bi (i:=23) (pe (e:=[J (.ref p),J (nv F),J (nv R),J (.ref sp),J (.bool aB),J (nv P.aA),J (.int m),J (.ref cp),J (nv au),J (nv az),J (.bool aH),J (.bool aD),J (nv last),J (.ref bp),J (.int (pO bk)),J (.bool aE),J (.bool (rE P.aA aH aD)),J (nv (qL P.aA bk aH aD aE)),U,U,U,U,U,U,U,U,U,U,U,U,U,U]) rfl) k1) (len (i:=18) rfl);have z2:=Gg (K:=K0 (d+13)) (bi (i:=24) (be (r_loc (i:=0) (e:=[J (.ref p),J (nv F),J (nv R),J (.ref sp),J (.bool aB),J (nv P.aA),J (.int m),J (.ref cp),J (nv au),J (nv az),J (.bool aH),J (.bool aD),J (nv last),J (.ref bp),J (.int (pO bk)),J (.bool aE),J (.bool (rE P.aA aH aD)),J (nv (qL P.aA bk aH aD aE)),U,U,U,U,U,U,U,U,U,U,U,U,U,U]) rfl) (be (md (k:=5) ⋯ rfl) f8)) (k2 _)) (JM (qG (len (i:=18) rfl) (ac (n:=1))) (md (k:=5) ⋯ rfl));have z:=sE z1 z2;rw[cz (λh:bk.length≠bk.length=>h rfl),bne_self_eq_false] at z;exact z) ?_
 refine Dm (by
  have z1:=pB (K:=K0 (d+13)) (co:=.ne) (t:=false) (bi (i:=25) (pe (e:=[J (.ref p),J (nv F),J (nv R),J (.ref sp),J (.bool aB),J (nv P.aA),J (.int m),J (.ref cp),J (nv au),J (nv az),J (.bool aH),J (.bool aD),J (nv last),J (.ref bp),J (.int (pO bk)),J (.bool aE),J (.bool (rE P.aA aH aD)),J (nv (qL P.aA bk aH aD aE)),U,U,U,U,U,U,U,U,U,U,U,U,U,U]) rfl) k3) (r_loc (i:=14) (v:=.int (pO bk)) rfl) (by show J (pO bk != pO bk)=_;rw[bne_self_eq_false]);have z2:=Gg (K:=K0 (d+13)) (bi (i:=26) (pe (e:=[J (.ref p),J (nv F),J (nv R),J (.ref sp),J (.bool aB),J (nv P.aA),J (.int m),J (.ref cp),J (nv au),J (nv az),J (.bool aH),J (.bool aD),J (nv last),J (.ref bp),J (.int (pO bk)),J (.bool aE),J (.bool (rE P.aA aH aD)),J (nv (qL P.aA bk aH aD aE)),U,U,U,U,U,U,U,U,U,U,U,U,U,U]) rfl) k4) (r_loc (i:=4) rfl);have z:=sE z1 z2;rw[bne_self_eq_false] at z;exact z) ?_
 refine Dm (by
  have z1:=Gg (K:=K0 (d+13)) (bi (i:=27) (pe (e:=[J (.ref p),J (nv F),J (nv R),J (.ref sp),J (.bool aB),J (nv P.aA),J (.int m),J (.ref cp),J (nv au),J (nv az),J (.bool aH),J (.bool aD),J (nv last),J (.ref bp),J (.int (pO bk)),J (.bool aE),J (.bool (rE P.aA aH aD)),J (nv (qL P.aA bk aH aD aE)),U,U,U,U,U,U,U,U,U,U,U,U,U,U]) rfl) k5) (r_loc (i:=15) rfl);have z2:=Gg (K:=K0 (d+13)) (bi (i:=28) (pe (e:=[J (.ref p),J (nv F),J (nv R),J (.ref sp),J (.bool aB),J (nv P.aA),J (.int m),J (.ref cp),J (nv au),J (nv az),J (.bool aH),J (.bool aD),J (nv last),J (.ref bp),J (.int (pO bk)),J (.bool aE),J (.bool (rE P.aA aH aD)),J (nv (qL P.aA bk aH aD aE)),U,U,U,U,U,U,U,U,U,U,U,U,U,U]) rfl) k6) (sE (r_loc (i:=15) rfl) (sE (Jw (len (i:=18) rfl) (ac (n:=1))) (r_loc (i:=16) rfl)));have z:=sE z1 z2;rw[bne_self_eq_false,bne_self_eq_false] at z;exact z) ?_
 refine Dm (by
  have k7:=k7 (eZ m 11).toNat;rw[e7] at k7;have aI:∀{e:nw},e[14]? =J (J (.int (pO bk)))->e[6]? =J (J (.int m))->db (K0 (d+13)) (.and (.cmp (.loc 14) .ne (.int 0)) (.cmp (.loc 14) .lt (.bin .mod (.loc 6) (.int 11)))) e T (.bool (decide (pO bk≠0)&&decide (pO bk<((eZ m 11).toNat:Int)))) T:=λl1 l2=>
   sr (pB (r_loc l1) qF (by
    show J (pO bk != 0)=_;congr 1;rw[da];simp)) (pB (r_loc l1) (md (k:=11) ⋯ l2) rfl)
  have z:=Gg (K:=K0 (d+13)) (bi (i:=29) (be (r_loc (i:=0) (e:=[J (.ref p),J (nv F),J (nv R),J (.ref sp),J (.bool aB),J (nv P.aA),J (.int m),J (.ref cp),J (nv au),J (nv az),J (.bool aH),J (.bool aD),J (nv last),J (.ref bp),J (.int (pO bk)),J (.bool aE),J (.bool (rE P.aA aH aD)),J (nv (qL P.aA bk aH aD aE)),U,U,U,U,U,U,U,U,U,U,U,U,U,U]) rfl) (be (md (k:=11) ⋯ rfl) f8)) k7) (sE (r_loc (i:=16) rfl) (aI rfl rfl));rw[bne_self_eq_false] at z;exact z) ?_
 have z:=oM (K:=K0 (d+13)) (bi (i:=30) (pe (e:=[J (.ref p),J (nv F),J (nv R),J (.ref sp),J (.bool aB),J (nv P.aA),J (.int m),J (.ref cp),J (nv au),J (nv az),J (.bool aH),J (.bool aD),J (nv last),J (.ref bp),J (.int (pO bk)),J (.bool aE),J (.bool (rE P.aA aH aD)),J (nv (qL P.aA bk aH aD aE)),U,U,U,U,U,U,U,U,U,U,U,U,U,U]) rfl) k8) (r_loc (i:=17) (v:=nv (qL P.aA bk aH aD aE)) rfl);rw[cy (p:=qL P.aA bk aH aD aE=qL P.aA bk aH aD aE) rfl] at z;subst hσ;exact xY z hc trivial q λw w z=>z
def vO:((cn (j+1)).filter f).map g=((cn j).filter f).map g++if f j=true then[g j] else[]:=by
 rw[wa,dO];split<;>rfl
def UV{K:pK}{e:nw}{h h1:Mine.Lake.H}{it test elt:E}{i n:Nat}{v:V}{f:Nat->Bool}(M:K.aV)(A:db K it e h v h1)(l:Fg K h1 v=J (.aT ((0:Nat):Int) (n:Int) 1))(hn:n<1000)(tst:∀j,j<n->∀t,db K test (e.set i (J (nv j))) (h1++t) (.bool (f j)) (h1++t))(el:∀j,j<n->∀t,db K elt (e.set i (J (nv j))) (h1++t) (nv (g j)) (h1++t)):db K (.comp elt i it test) e h (.ref h1.length) (h1++[.list ((((cn n).filter f).map g).map nv)]):=
 EU M A l n (λj h=>h=h1++[.list ((((cn j).filter f).map g).map nv)]) rfl (λj hj h q=>by
  subst q;have ri:=tM (K:=K) (h:=h1++[.list ((((cn j).filter f).map g).map nv)]) (x:=v) (n:=0) (m:=n) (j:=j) (N:=n) (dY _);rw[cC hj,dY] at ri;refine⟨nv j,_,f j,_,ri,tst j hj _,rfl,λe1=>⟨_,_,_,el j hj _,Am (t:=[]) (by
   rw[bj,bj];have:=eS f (cn j);rw[dn] at this;lia),?_⟩,λe1=>?_⟩
  .rw[vO,cC e1,dO];rfl
  .rw[vO,cD (by rw[e1];decide),cN]) λh q=>by
  subst q;have ri:=tM (K:=K) (h:=h1++[.list ((((cn n).filter f).map g).map nv)]) (x:=v) (n:=0) (m:=n) (j:=n) (N:=n) (dY _);rw[cD (eU _)] at ri;exact⟨ri,rfl⟩
def NA{K:pK}{h:H}{W:Option (Nat × Nat)}{q wp:Nat}(g:h[wp]? =J (AT W))(g0:h[q]? =J (.tup [])):s7 K .eq (.ref wp) (.ref q) h=J W.isNone:=by
 rw[Tx,g,g0];cases W<;>rfl
def GQ{sp cp au az:Nat}{m:Int}{aB:Bool}{aS:List Nat}{vs:List V}{SS:List qm}(A:At T p X P)(S:HK T P ks)(g:Gd X.G P)(hL:CL F R aS)(hp:AA F R aS)(hk:Ff F R aS au)(hi:au*8+6∈aS)(hs:au<2)(Ls:T[sp]? =J (.list vs))(St:wx T vs SS)(hl:0<SS.length)(hl2:SS.length<100)(hlast:SS[SS.length - 1]? =J (aS,au,az))(H:WH X.G P ks (xe SS) (tF F R aS (aS.idxOf (au*8+6)) au) (wW F R aS au 0).isNone (vp F aS) aB):
  ii (K0 (d+14)) 905 [.ref p,nv F,nv R,.ref sp,.bool aB,nv P.aA,.int m] T (.bool true) T:=by
 revert sp cp au az m aB aS vs SS;ext d T p X P ks;ext sp cp au az m aB aS vs SS;exact mk (λQ=>HA rfl) λQ q hc=>by
   have vl:=St.len;refine bc λkk=>?_;obtain⟨q0,g0,cq,g1,g2⟩:=St.get hlast;refine kk ?_;clear kk;have hsz:=hL.bd.sz;have hcl:=hL.l;have sget:∀{e:nw} {t:Mine.Lake.H},e[3]? =J (J (.ref sp))->db (K0 (d+13)) (.bin .sub (.len 18 (.loc 3)) (.int 1)) e (T++t) (nv (SS.length - 1)) (T++t):=λ{e t} l=>by
    have z:=tV (K:=K0 (d+13)) (i:=18) (a:=.loc 3) (h:=T++t) (e:=e) (r_loc l) (io ((ar (f0 Ls)).trans Ls)) (by lia);rw[vl] at z;exact oH z ac hl
   have sg0:=λ{e:nw} (l:e[3]? =J (J (.ref sp)))=>sget (e:=e) (t:=[]) l;simp only[cN] at sg0;refine zh (vs:=[.ref cq,nv au,nv az]) (pd ∅ (sg0 rfl) (io Ls) g0 (by lia)) g1 rfl ?_;have hkq:∀{e:nw},e[8]? =J (J (nv au))->db (K0 (d+13)) (.bin .add (.bin .mul (.loc 8) (.int 8)) (.int 6)) e T (nv (au*8+6)) T:=λl=>qG (r7 (r_loc l) ac (by lia) ⋯) ac;refine bs (bi (lc rfl (lc rfl (lc rfl (be (HH ∅ g2 (hkq rfl) hi (by show aS.length<=1000;lia)) (lz rfl))))) (yU (d:=d+11) hL g2)) ?_;obtain⟨aH,hsafe⟩:=(⟨_,rfl⟩:∃aH,aH=tF F R aS (aS.idxOf (au*8+6)) au)
   obtain⟨pk,hpk⟩:=(⟨_,rfl⟩:∃pk,pk=wW F R aS au 0)
   have kp:=Eu (d:=d+9) hL hp hk g2 (oZ:=0);rw[<- hpk] at kp H;rw[<- hsafe] at H ⊢;refine bs (v:=.bool pk.isNone) (h1:=T++([AT pk]++[.tup []])) (by
    rw[<- aa];exact pB (bi (lc rfl (lc rfl (lc rfl (lc rfl (be qF f8))))) kp) (sO f8 (dF _)) (NA ((ar (by simp)).trans bn) bn)) ?_
   obtain⟨t1,ht1⟩:=(⟨_,rfl⟩:∃t1,t1=[AT pk]++[O.tup []])
   rw[<- ht1];refine bs (sget rfl) ?_;obtain⟨bk,hbk⟩:=(⟨_,rfl⟩:∃bk,bk=xe SS)
   have stq:∀{t:Mine.Lake.H} {j:Nat},j<SS.length->∃qj,vs[j]? =J (.ref qj)/\DV (T++t) qj (SS.getD j ([],0,0)):=λ{t j} hj=>by
    have:SS[j]? =J (SS.getD j ([],0,0)):=by rw[ba,a7 hj];rfl
    obtain⟨qj,h1,h2⟩:=St.get this;exact⟨qj,h1,h2.app t⟩
   refine bs (v:=.ref (T++t1++[O.aT ((0:Nat):Int) ((SS.length - 1:Nat):Int) 1]).length) (h1:=(T++t1++[O.aT ((0:Nat):Int) ((SS.length - 1:Nat):Int) 1])++[.list (bk.map nv)]) (by
    rw[hbk];unfold xe;refine UV (h1:=T++t1++[O.aT ((0:Nat):Int) ((SS.length - 1:Nat):Int) 1]) (lw _) (pZ (lz rfl) (by lia)) (by
     simp only[Fg,tR,bn,ry (n:=SS.length - 1) (by lia)];rfl) (by lia) (λj hj t=>?_) λj hj t=>oH ∅ ∅ (by lia)
    refine bc λkk=>?_;obtain⟨qj,h1,h2⟩:=stq (t:=t1++[O.aT ((0:Nat):Int) ((SS.length - 1:Nat):Int) 1]++t) (j:=j) (by lia);obtain⟨ql,h3,h4⟩:=stq (t:=t1++[O.aT ((0:Nat):Int) ((SS.length - 1:Nat):Int) 1]++t) (j:=SS.length - 1) (by lia);refine kk ?_;clear kk;have Ls':(T++t1++[O.aT ((0:Nat):Int) ((SS.length - 1:Nat):Int) 1]++t)[sp]? =J (.list vs):=by
     rw[aa,aa,ar (f0 Ls)];exact Ls
    rw[<- aa,<-aa] at h2 h4;exact pB (pd ∅ ∅ (io Ls') h1 (by lia)) (pd ∅ ∅ (io Ls') h3 (by lia)) (IR (k:=1) h2 h4)) ?_
   rw[<- hbk] at H;have bl:bk.length<100:=by
    rw[hbk];unfold xe;rw[bj];have:=eS (λi=>decide (SS.getD i ([],0,0)=SS.getD (SS.length - 1) ([],0,0))) (cn (SS.length - 1));rw[dn] at this;lia
   obtain⟨t2,ht2⟩:∃t2,(T++t1++[O.aT ((0:Nat):Int) ((SS.length - 1:Nat):Int) 1])++[.list (bk.map nv)]=T++t2:=⟨t1++[O.aT ((0:Nat):Int) ((SS.length - 1:Nat):Int) 1]++[.list (bk.map nv)],by simp⟩
   obtain⟨bp,hbp⟩:=(⟨_,rfl⟩:∃bp,bp=(T++t1++[O.aT ((0:Nat):Int) ((SS.length - 1:Nat):Int) 1]).length)
   have Lb:(T++t2)[bp]? =J (.list (bk.map nv)):=by rw[<- ht2,hbp];exact bn
   rw[<- hbp,ht2];clear hbp ht2;have len:∀{e:nw} {i:Nat},e[13]? =J (J (.ref bp))->db (K0 (d+13)) (.len i (.loc 13)) e (T++t2) (nv bk.length) (T++t2):=λ{e i} l=>by
    have z:=tV (K:=K0 (d+13)) (i:=i) (a:=.loc 13) (e:=e) (r_loc l) (io Lb) (by rw[bj];lia);rw[bj] at z;exact z
   have A2:=A.app t2;have S2:=S.app t2;have aE:=KW (d:=d+12) hL (T:=T++t2) (cp:=cq) ((ar (f0 g2)).trans g2);have fin:∀n,n=qL P.aA bk aH pk.isNone (vp F aS)->oD (K0 (d+13)) Qj [J (.ref p),J (nv F),J (nv R),J (.ref sp),J (.bool aB),J (nv P.aA),J (.int m),J (.ref cq),J (nv au),J (nv az),J (.bool aH),J (.bool pk.isNone),J (nv (SS.length - 1)),J (.ref bp),J (.int (pO bk)),J (.bool (vp F aS)),J (.bool (rE P.aA aH pk.isNone)),J (nv n),U,U,U,U,U,U,U,U,U,U,U,U,U,U] (T++t2) (qN T.length Q):=
    λn hn=>by
     rw[hn];exact JO A2 S2 g H Lb (by lia) rfl rfl hc q
   have aI:oD (K0 (d+13)) (rF 8 we.body) [J (.ref p),J (nv F),J (nv R),J (.ref sp),J (.bool aB),J (nv P.aA),J (.int m),J (.ref cq),J (nv au),J (nv az),J (.bool aH),J (.bool pk.isNone),J (nv (SS.length - 1)),J (.ref bp),J (.int (pO bk)),U,U,U,U,U,U,U,U,U,U,U,U,U,U,U,U,U] (T++t2) (qN T.length Q):=by
    refine bs (bi (lc rfl (lz rfl)) aE) (bs (v:=.bool (rE P.aA aH pk.isNone)) (sr (JM ∅ (ac (n:=100))) (sE ∅ (uC (x:=.bool pk.isNone) ∅ bm))) (bs ac ?_));refine uw (sr (s:=pk.isNone) (t:=aH) ∅ ∅) bm (λe1=>bs ac (ld (fin 2 ?_))) λe1=>?_
    .unfold qL;rw[cC e1]
    have st1:qL P.aA bk aH pk.isNone (vp F aS)=if pk.isNone=true then 1 else if 100<=P.aA then 3 else if 1<bk.length then 4 else if vp F aS=true then 5 else 0:=by unfold qL;rw[cD (by rw[e1];decide)]
    rw[st1] at fin;refine uw ∅ bm (λe2=>bs ac (ld (ld (fin 1 ?_)))) λe2=>?_
    .rw[cC e2]
    rw[cD (by rw[e2];decide)] at fin;refine uw (JM ∅ (ac (n:=100))) bm (λe3=>bs ac (ld (ld (ld (fin 3 ?_))))) λe3=>?_
    .rw[cC (b9 e3)]
    rw[cD (cj e3)] at fin;refine uw (Jw (len rfl) (ac (n:=1))) bm (λe4=>bs ac (ld (ld (ld (ld (fin 4 ?_)))))) λe4=>?_
    .rw[cC (b9 e4)]
    rw[cD (cj e4)] at fin;refine lv ∅ bm (λe5=>bs ac (ld (ld (ld (ld (ld (fin 5 ?_))))))) λe5=>ld (ld (ld (ld (fin 0 ?_))))
    .rw[cC e5]
    .rw[cD (by rw[e5];decide)]
   refine bs ac (lv (oM (len rfl) (ac (n:=1))) bm (λe1=>?_) λe1=>?_)
   .have e1:=b9 e1;refine bs (v:=nv (bk.getD 0 0)) (tO Lb ∅ (ac (n:=0)) (by lia) (by lia)) (ld (lv (Jw (len rfl) (ac (n:=1))) bm (λe2=>cG (b9 e2) (by lia)) λe2=>?_));have nl:nv (bk.getD 0 0)= .int (pO bk):=by unfold pO;rw[cD (by lia),cC e1];rfl
    rw[nl];exact aI
   .have e1:=cj e1;refine lv (Jw (len rfl) (ac (n:=1))) bm (λe2=>?_) λe2=>?_
    .have e2:1<bk.length:=b9 e2;refine bs (v:=.int (pO bk)) ?_ (ld aI);have nl:pO bk=-(bk.getD (bk.length - 1) 0:Int):=by unfold pO;rw[cC e2]
     rw[nl];exact Ah (tO Lb ∅ (oH (len rfl) (ac (n:=1)) (by lia)) (by lia) (by lia))
    .have e2:=cj e2;have nl:nv 0= .int (pO bk):=by unfold pO;rw[cD e2,cD e1];rfl
     rw[show V.int (pO bk)=nv 0 from nl.symm] at aI;exact aI
end
abbrev pF(F R:Nat)(cs:List Nat)(s t:Nat):Prop:=cs.getD s 0%8=1/\(t/F=0\/t/F=R - 1)
instance (F R:Nat) (cs:List Nat) (s t:Nat):Decidable (pF F R cs s t):=by unfold pF;exact inferInstance
abbrev li(F R:Nat)(cs:List Nat)(s t pr:Nat):List Nat:=if pF F R cs s t then(oo cs s t).set t (cs.getD s 0/8*8+2+pr) else oo cs s t
abbrev NX(s t:Nat):Nat:=t ||| s <<< 6
abbrev WO(s t pr:Nat):Nat:=NX s t ||| (1 <<< 14 ||| pr <<< 12)
def Zm:((cn 21).all λs=>(cn 21).all λt=>decide (qT (NX s t)=s/\qv (NX s t)=t/\uP (NX s t)=0)&&(cn 4).all λpr=>decide (qT (WO s t pr)=s/\qv (WO s t pr)=t/\uP (WO s t pr)=1/\PD (WO s t pr)=pr+2))=true:=by decide +kernel
abbrev yY(F R:Nat)(cs:List Nat)(s t pr:Nat):Nat:=if pF F R cs s t then WO s t pr else NX s t
def Q9(hs:s<21)(ht:t<21)(hp:pr<4):qT (yY F R cs s t pr)=s/\qv (yY F R cs s t pr)=t/\uP (yY F R cs s t pr)=(if pF F R cs s t then 1 else 0)/\(pF F R cs s t->PD (yY F R cs s t pr)=pr+2):=by
 ext s t pr cs;have z:=cK.mp (cK.mp Zm s (cL.mpr hs)) t (cL.mpr ht);rw[ax,cu] at z;have z2:=b9 (cK.mp z.2 pr (cL.mpr hp));unfold yY;by_cases h:pF F R cs s t
 .rw[cC h,cC h];exact⟨z2.1,z2.2.1,z2.2.2.1,λw=>z2.2.2.2⟩
 .rw[cD h,cD h];exact⟨z.1.1,z.1.2.1,z.1.2.2,λh'=>cG h' h⟩
abbrev uB(cs:List Nat)(s t:Nat):Prop:=cs.getD t 0=0/\cs.getD s 0%8≠1
instance (cs:List Nat) (s t:Nat):Decidable (uB cs s t):=by unfold uB;exact inferInstance
abbrev sW(cs:List Nat)(s t aA:Nat):Nat:=if uB cs s t then aA+1 else 0
abbrev pJ(n:Nat)(S:qm)(aA av:Nat)(ay:List V):Ps:=oa n S.1 S.2.1 S.2.2 aA av (sI n S.2.1 S.2.2) ay
structure H5 (F R:Nat) (S:qm) (s t:Nat):Prop where
 m:(s,t)∈qV F R S.1 S.2.1
 f:sZ F R S.1 s t=true
abbrev rB(F R:Nat)(S:qm)(s t pr:Nat):qm:=(li F R S.1 s t pr,1 - S.2.1,sL F R (li F R S.1 s t pr) S.2.2 4)
inductive u0 (F R:Nat) (S0:qm) (h0:Nat):List qm->Nat->Nat->Bool->Prop
 | base:u0 F R S0 h0 [S0] h0 0 false
 | step {SS:List qm} {aA aC:Nat} {aB:Bool} {S:qm} {s t pr:Nat} (C:u0 F R S0 h0 SS aA aC aB) (l:SS.getLast? =J S) (L:H5 F R S s t) (hp:pr<4):
  u0 F R S0 h0 (SS++[rB F R S s t pr]) (sW S.1 s t aA) (if uB S.1 s t then aC else SS.length)
   ((if uB S.1 s t then aB else false)||decide (rB F R S s t pr∈SS.drop (if uB S.1 s t then aC else SS.length)))
abbrev yH(n:Nat)(S:qm):Nat:=z9 n S.1 ^^^ sI n S.2.1 S.2.2
structure PL (F R:Nat) (c:Bool):Prop where
 gd:∀(S:qm) (aA av:Nat) (ay:List V),Gp F R S.1 S.2.1 S.2.2->Gd (dL F R c) (pJ (F*R) S aA av ay)
 chk:∀(S:qm) (aA av:Nat) (ay:List V),Gp F R S.1 S.2.1 S.2.2->r5 (dL F R c) (pJ (F*R) S aA av ay) S.2.1= !tF F R S.1 (S.1.idxOf (S.2.1*8+6)) S.2.1
 has:∀(S:qm) (aA av:Nat) (ay:List V),Gp F R S.1 S.2.1 S.2.2->AK (dL F R c) (pJ (F*R) S aA av ay)= !(wW F R S.1 S.2.1 0).isNone
 aE:∀(S:qm) (aA av:Nat) (ay:List V),Gp F R S.1 S.2.1 S.2.2->xo (dL F R c) (pJ (F*R) S aA av ay)=vp F S.1
 bV:∀S:qm,Gp F R S.1 S.2.1 S.2.2->Ff F R S.1 S.2.1
 step:∀(S:qm) (s t pr:Nat),Gp F R S.1 S.2.1 S.2.2->H5 F R S s t->pr<4->Gp F R (rB F R S s t pr).1 (rB F R S s t pr).2.1 (rB F R S s t pr).2.2
 kept:∀(S:qm) (s t pr aA av:Nat) (ay:List V),Gp F R S.1 S.2.1 S.2.2->H5 F R S s t->pr<4->xw (dL F R c) (pJ (F*R) S aA av ay) s t=(rB F R S s t pr).2.2
 far:∀(S:qm) (s t:Nat),Gp F R S.1 S.2.1 S.2.2->H5 F R S s t->S.1.getD s 0%8=1->(t:Int) - s≠2*F/\(s:Int) - t≠2*F
 other:∀(S:qm) (s t:Nat),Gp F R S.1 S.2.1 S.2.2->H5 F R S s t->S.1.getD t 0≠0->S.1.getD t 0/8≠S.2.1
 rep:∀(S0:qm) (h0:Nat) (SS:List qm) (aA aC:Nat) (aB:Bool) (S:qm) (av:Nat) (ay:List V),Gp F R S0.1 S0.2.1 S0.2.2->u0 F R S0 h0 SS aA aC aB->SS.getLast? =J S->ay.length+1=SS.length->
  tH (pJ (F*R) S aA av ay) (SS.dropLast.map (yH (F*R))) (rO (pJ (F*R) S aA av ay))=(xe SS).reverse/\LO (pJ (F*R) S aA av ay) (SS.dropLast.map (yH (F*R)))=aB
section
variable{s t pr aA av q:Nat}{S:qm}{ay:List V}
def Gp.pc(g:Gp F R cs au az)(h:cs.getD i 0≠0):vb (cs.getD i 0):=by
 have v:=g.cg.cl.v i;rcases g.cg.pv i with z | z
 .exact cG z h
 .exact⟨by lia,by rw[Jn];lia⟩
def Ex(hs:sd<2)(hp:pr<4):vb (sd*8+(pr+2)):=by
 ext sd pr;refine⟨by lia,?_⟩;rw[Jn];lia
structure ZF (F R:Nat) (S:qm) (s t:Nat):Prop where
 ls:s<F*R
 lt:t<F*R
 ne:s≠t
 own:S.1.getD s 0≠0/\S.1.getD s 0/8=S.2.1
 mem:t∈oj F R S.1 s
def yC(pl:PL F R cc)(g:Gp F R S.1 S.2.1 S.2.2)(L:H5 F R S s t):ZF F R S s t:=by
 ext s t S;obtain⟨h1,h2,h3,h4⟩:=rj.mp L.m;have h1:s<S.1.length:=h1;rw[g.cg.cl.l] at h1;have h2:S.1.getD s 0≠0:=h2;refine⟨h1,qJ g.cg.cl g.cg.pw h1 h4,λe=>?_,⟨h2,h3⟩,h4⟩;subst e;exact pl.other S s s g L h2 h3
def U7(hs:sd<2):sI n sd r ^^^ (1 <<< (15*n+r) ^^^ 1 <<< (15*n+r')) ^^^ 1 <<< (15*n+16)=sI n (1 - sd) r':=by
 unfold sI;generalize 1 <<< (15*n+r)=a;generalize 1 <<< (15*n+r')=b;generalize 1 <<< (15*n+16)=e;rcases (u2 (by assumption:sd<2)) with h | h<;>subst h
 .rw[cD ⋯,cC ⋯,iJ,<-d9 a a b,jg,j5]
 .rw[cC rfl,cD ⋯,iJ];rw[jh a e,d9 e a,<-d9 a a b,jg,j5,jh e b,d9,jg,iJ]
def zb{l:List Nat}(h:l.length=n):(l.set i x).length=n:=by rw[cP];exact h
def Uv(pl:PL F R cc)(g:Gp F R S.1 S.2.1 S.2.2)(L:H5 F R S s t)(hp:pr<4):doP (dL F R cc) (pJ (F*R) S aA av ay) (yY F R S.1 s t pr) q=
  pJ (F*R) (rB F R S s t pr) (sW S.1 s t aA) (if S.2.1=1 then av+1 else av) (ay++[.ref q]):=by
 ext s t pr aA av q S ay;obtain⟨ls,lt,ne,own,gm⟩:=yC pl g L;have hsz:=g.cg.cl.bd.sz;have hl:=g.cg.cl.l;obtain⟨m1,m2,m3,m4⟩:=Q9 (cs:=S.1) (s:=s) (t:=t) (pr:=pr) (by lia) (by lia) hp;have kp:=pl.kept S s t pr aA av ay g L hp;have hG:(dL F R cc).size=F*R:=rfl;have hs2:=g.sd;have pcs:=g.pc own.1;unfold doP;rw[m1,m2,m3];have hb:(pJ (F*R) S aA av ay).board=S.1:=rfl;have aX:(pJ (F*R) S aA av ay).au=S.2.1:=rfl;rw[hb,aX,kp];obtain⟨cs1,hc1⟩:=(⟨_,rfl⟩:∃cs1,cs1=S.1.set t 0)
 ext cs1;have e1:takeH (dL F R cc) (FV (pJ (F*R) S aA av ay) q) (S.1.getD t 0) t=oa (F*R) cs1 S.2.1 S.2.2 (if S.1.getD t 0≠0 then 0 else aA+1) av (sI (F*R) S.2.1 S.2.2) (ay++[.ref q]):=by
  unfold takeH;have lg:FV (pJ (F*R) S aA av ay) q=oa (F*R) S.1 S.2.1 S.2.2 (aA+1) av (sI (F*R) S.2.1 S.2.2) (ay++[.ref q]):=rfl;by_cases h0:S.1.getD t 0=0
  .rw[cD (λz=>z h0),cD (λz=>z h0),lg,hc1];have:S.1.set t 0=S.1:=pD rfl (λw=>h0) λw w=>rfl;rw[this]
  .rw[cC h0,cC h0,lg,DK hG lt hl (g.pc h0) h0 rfl,hc1];rfl
 rw[e1];have cl1:cs1.length=F*R:=by rw[hc1];exact zb hl
 have c1t:cs1.getD t 0=0:=by rw[hc1];exact ou (by lia)
 have c1s:cs1.getD s 0=S.1.getD s 0:=by rw[hc1];exact im s ne
 have e2:qQ (dL F R cc) (oa (F*R) cs1 S.2.1 S.2.2 (if S.1.getD t 0≠0 then 0 else aA+1) av (sI (F*R) S.2.1 S.2.2) (ay++[.ref q])) (S.1.getD s 0) (if pF F R S.1 s t then 1 else 0) (S.2.1*8+PD (yY F R S.1 s t pr)) s t=
   oa (F*R) (li F R S.1 s t pr) S.2.1 S.2.2 (if S.1.getD t 0≠0 then 0 else aA+1) av (sI (F*R) S.2.1 S.2.2) (ay++[.ref q]):=by
  unfold qQ li;by_cases hpr:pF F R S.1 s t
  .rw[cC hpr,cC rfl,cC hpr,m4 hpr,DK hG ls cl1 pcs own.1 c1s,CN hG lt (zb cl1) (Ex hs2 hp) (by lia) (by rw[im t (dQ ne)];exact c1t)];congr 1;refine pD ?_ (λw=>?_) λi hi=>?_
   .rw[hc1];simp [oo]
   .rw[own.2,ou (by unfold oo;simp;lia)];lia
   .rw[im i hi];unfold oo;rw[hc1];by_cases e:i=s
    .subst e;rw[ou (by simp;lia),ou (by simp;lia)]
    .rw[im i e,im i e,im i hi,im i hi]
  .rw[cD hpr,cD ⋯,cD hpr,Gq hG ls lt ne cl1 pcs own.1 c1s c1t];congr 1;refine pD ?_ (λw=>?_) λi hi=>?_
   .rw[hc1];simp [oo]
   .unfold oo;rw[im t (dQ ne),ou (by lia)]
   .unfold oo;rw[hc1];by_cases e:i=s
    .subst e;rw[ou (by simp;lia),ou (by simp;lia)]
    .rw[im i e,im i e,im i hi,im i hi]
 rw[e2];have e3:wA (oa (F*R) (li F R S.1 s t pr) S.2.1 S.2.2 (if S.1.getD t 0≠0 then 0 else aA+1) av (sI (F*R) S.2.1 S.2.2) (ay++[.ref q])) (S.1.getD s 0)=oa (F*R) (li F R S.1 s t pr) S.2.1 S.2.2 (sW S.1 s t aA) av (sI (F*R) S.2.1 S.2.2) (ay++[.ref q]):=by
  unfold wA;rw[Jn];by_cases h1:S.1.getD s 0%8=1
  .have hh:sW S.1 s t aA=0:=cD λz=>z.2 h1;rw[cC h1,hh];rfl
  .rw[cD h1];by_cases h0:S.1.getD t 0=0
   .have hh:sW S.1 s t aA=aA+1:=cC ⟨h0,h1⟩;rw[cD (λz=>z h0),hh]
   .have hh:sW S.1 s t aA=0:=cD λz=>h0 z.1;rw[cC h0,hh]
 rw[e3];unfold Ps.setR Rk Gm pJ;have kn:=U7 (n:=F*R) (r:=S.2.2) (r':=(rB F R S s t pr).2.2) hs2;have e4:∀a b x y:Nat,a ^^^ b ^^^ x ^^^ y=a ^^^ (b ^^^ x ^^^ y):=λa b x y=>by rw[d9,d9,<-d9 b]
 by_cases h1:S.2.1=1
 .rw[cC h1,cC h1];unfold oa;dsimp only;rw[hG,e4,kn];rfl
 .rw[cD h1,cD h1];unfold oa;dsimp only;rw[hG,e4,kn];rfl
def H6(pl:PL F R cc)(g:Gp F R S.1 S.2.1 S.2.2)(L:H5 F R S s t)(hp:pr<4):qT (yY F R S.1 s t pr)=s/\qv (yY F R S.1 s t pr)=t/\uP (yY F R S.1 s t pr)=(if pF F R S.1 s t then 1 else 0)/\(pF F R S.1 s t->PD (yY F R S.1 s t pr)=pr+2):=by
 obtain⟨ls,lt,_,_,_⟩:=yC pl g L;have hsz:=g.cg.cl.bd.sz;exact Q9 (by lia) (by lia) hp
def WJ(pl:PL F R cc)(g:Gp F R S.1 S.2.1 S.2.2)(L:H5 F R S s t)(hp:pr<4)(hh:ay.length<900):XE (dL F R cc) (pJ (F*R) S aA av ay) (yY F R S.1 s t pr):=by
 ext s t pr aA av S ay;obtain⟨ls,lt,ne,own,gm⟩:=yC pl g L;obtain⟨m1,m2,m3,m4⟩:=H6 pl g L hp;have far:=pl.far S s t g L;refine⟨C5 g.cg.cl.l rfl,by rw[m1];exact ls,by rw[m2];exact lt,by rw[m1,m2];exact ne,by rw[m1];exact g.pc own.1,by rw[m1];exact⟨own.1,(Sw _).trans own.2⟩,λh=>by rw[m2] at h ⊢;exact g.pc h,?_,λh=>?_,λh=>?_,g.r16,hh,g.sd⟩
 .rw[m3];split<;>simp
 .rw[m3] at h;have hpr:pF F R S.1 s t:=cJ λz=>by rw[cD z] at h;cases h
  rw[m4 hpr];exact Ex g.sd hp
 .rw[m1] at h ⊢;rw[m2];rw[Jn] at h;exact far h
def F5(g:Gp F R S.1 S.2.1 S.2.2):(li F R S.1 s t pr).length=F*R:=by
 have hl:=g.cg.cl.l;unfold li oo;split<;>simp [hl]
def IG(g:Gp F R S.1 S.2.1 S.2.2)(lt:t<F*R)(ne:s≠t):(li F R S.1 s t pr).getD t 0=if pF F R S.1 s t then S.1.getD s 0/8*8+2+pr else S.1.getD s 0:=by
 have hl:=g.cg.cl.l;unfold li;by_cases h:pF F R S.1 s t
 .rw[cC h,cC h,ou (by unfold oo;simp;lia)]
 .rw[cD h,cD h];unfold oo;rw[im t (dQ ne),ou (by lia)]
def Dh(g:Gp F R S.1 S.2.1 S.2.2)(ls:s<F*R)(ne:s≠t):(li F R S.1 s t pr).getD s 0=0:=by
 have hl:=g.cg.cl.l;unfold li;split
 .rw[im s ne];unfold oo;rw[ou (by simp;lia)]
 .unfold oo;rw[ou (by simp;lia)]
def Gv(h1:i≠s)(h2:i≠t):(li F R S.1 s t pr).getD i 0=S.1.getD i 0:=by
 unfold li;split
 .rw[im i h2];unfold oo;rw[im i h1,im i h2]
 .unfold oo;rw[im i h1,im i h2]
def Jl(g:Gp F R S.1 S.2.1 S.2.2)(lt:t<F*R)(ne:s≠t)(own:S.1.getD s 0≠0/\S.1.getD s 0/8=S.2.1)(hp:pr<4):vb ((li F R S.1 s t pr).getD t 0)/\(li F R S.1 s t pr).getD t 0≠0:=by
 rw[IG g lt ne];have hs:=g.sd;split
 .rw[own.2,dG,dU 2 pr];exact⟨Ex hs hp,by lia⟩
 .exact⟨g.pc own.1,own.1⟩
def Zt(pl:PL F R cc)(g:Gp F R S.1 S.2.1 S.2.2)(L:H5 F R S s t)(hp:pr<4)(hh:ay.length<900)(hf:1<=full'):Z2 (dL F R cc) (oa (F*R) (li F R S.1 s t pr) (1 - S.2.1) aZ aU full' kx' ay) (yY F R S.1 s t pr) (S.1.getD t 0):=by
 ext s t pr S ay full' aU kx' aZ;obtain⟨ls,lt,ne,own,gm⟩:=yC pl g L;obtain⟨m1,m2,m3,m4⟩:=H6 pl g L hp;refine⟨C5 (F5 g) rfl,by rw[m1];exact ls,by rw[m2];exact lt,by rw[m2];exact(Jl g lt ne own hp).1,λh=>g.pc h,by rw[m3];split<;>simp,hh,c2 _,hf⟩
def Ts{aU kx' aZ:Nat}{hs':List V}(pl:PL F R cc)(g:Gp F R S.1 S.2.1 S.2.2)(L:H5 F R S s t)(hp:pr<4):
  unP (dL F R cc) (oa (F*R) (li F R S.1 s t pr) (1 - S.2.1) aZ aU (if S.2.1=1 then av+1 else av) kx' hs') ay (yY F R S.1 s t pr) (S.1.getD t 0) S.2.2 aA (pJ (F*R) S aA av ay).key=pJ (F*R) S aA av ay:=by
 ext s t pr aA av S ay aU kx' aZ hs';obtain⟨ls,lt,ne,own,gm⟩:=yC pl g L;obtain⟨m1,m2,m3,m4⟩:=H6 pl g L hp;have hsz:=g.cg.cl.bd.sz;have hl:=g.cg.cl.l;have hs2:=g.sd;have hG:(dL F R cc).size=F*R:=rfl;have al:=F5 (s:=s) (t:=t) (pr:=pr) g;have ap:=Jl g lt ne own hp;have ss:1 - (1 - S.2.1)=S.2.1:=ff2 (by assumption);unfold unP;rw[m1,m2,m3];obtain⟨P,hP⟩:=(⟨_,rfl⟩:∃P,P=oa (F*R) (li F R S.1 s t pr) (1 - S.2.1) aZ aU (if S.2.1=1 then av+1 else av) kx' hs')
 have pb:P.board=li F R S.1 s t pr:=by rw[hP];rfl
 have ps:P.au=1 - S.2.1:=by rw[hP];rfl
 have pp:Dq P ay=oa (F*R) (li F R S.1 s t pr) S.2.1 aZ aU (if S.2.1=1 then av+1 else av) kx' ay:=by
  unfold Dq;rw[ps,ss,hP];rfl
 rw[<- hP,pb,ps,ss,pp];have e1:qQ (dL F R cc) (oa (F*R) (li F R S.1 s t pr) S.2.1 aZ aU (if S.2.1=1 then av+1 else av) kx' ay) ((li F R S.1 s t pr).getD t 0) (if pF F R S.1 s t then 1 else 0) (S.2.1*8+1) t s=
   oa (F*R) (S.1.set t 0) S.2.1 aZ aU (if S.2.1=1 then av+1 else av) kx' ay:=by
  unfold qQ;by_cases hpr:pF F R S.1 s t
  .have e8:S.1.getD s 0=S.2.1*8+1:=by
    have:=hpr.1;have:=own.2;lia
   rw[cC hpr,cC rfl,DK hG lt al ap.1 ap.2 rfl,CN hG ls (zb al) (pc8 hs2) (by lia) (by rw[im s ne];exact Dh g ls ne)];congr 1;refine pD (by simp [al,hl]) (λw=>by rw[im s ne];exact e8) λi hi=>?_;by_cases e:i=t
   .subst e;rw[ou (by lia),ou (by lia)]
   .rw[im i e,im i e,Gv hi e]
  .rw[cD hpr,cD ⋯,Gq hG lt ls (dQ ne) al ap.1 ap.2 rfl (Dh g ls ne)];congr 1;refine pD (by simp [al,hl]) (λw=>by rw[im s ne,IG g lt ne,cD hpr]) λi hi=>?_;by_cases e:i=t
   .subst e;rw[ou (by lia),ou (by lia)]
   .rw[im i e,im i e,Gv hi e]
 rw[e1];have e2:FW (dL F R cc) (oa (F*R) (S.1.set t 0) S.2.1 aZ aU (if S.2.1=1 then av+1 else av) kx' ay) (S.1.getD t 0) t=oa (F*R) S.1 S.2.1 aZ aU (if S.2.1=1 then av+1 else av) kx' ay:=by
  unfold FW;have e3:(S.1.set t 0).set t (S.1.getD t 0)=S.1:=by
   rw[gQ];exact pD rfl (λw=>rfl) λw w=>rfl
  by_cases h0:S.1.getD t 0=0
  .rw[cD (λz=>z h0)];rw[h0,gQ] at e3;rw[e3]
  .rw[cC h0,CN hG lt (zb hl) (g.pc h0) h0 (ou (by lia)),e3]
 rw[e2];unfold EC pJ oa;by_cases h1:S.2.1=1
 .rw[cC h1,cC h1];rfl
 .rw[cD h1,cD h1]
end
section
local macro_rules (kind := Lean.Parser.Term.tuple) | s => Mine.Lake.mP s
abbrev wl(F R s d:Nat):List Nat:=wN F R s (om.getD d (0,0))
abbrev pre(t:Nat)(l:List Nat):List Nat:=l.takeWhile λx=> !decide (x=t)
abbrev KH:List Nat->List Nat
 | []=>[0]
 | s::l=>KH l++(KH l).map λm=>1 <<< s ||| m
abbrev Uj(F R:Nat)(f:Nat->Nat->Bool):Bool:=(cn 8).all λd=>(cn (F*R)).all λs=>f d s
abbrev RD(F R:Nat)(f:Nat->Nat->Bool):Bool:=(cn (F*R)).all λs=>(cn (F*R)).all λt=>f s t
abbrev HD(p q:Bool):Bool:=p == q
abbrev E8(p q:Bool):Bool:= !p||q
structure Tab (F R:Nat):Prop where
 atk:Uj F R (λd s=>(KH (wl F R s d)).all λm=>tj (Ct d) (rI (wl F R s d)) m == rI (pz (λx=>m.testBit x) (wl F R s d)))=true
 sym:Uj F R (λd s=>(cn (F*R)).all λt=>HD (decide (t∈wl F R s d)) (decide (s∈wl F R t (d ^^^ 2)))&&E8 (decide (t∈wl F R s d)) (decide (pre s (wl F R t (d ^^^ 2))=(pre t (wl F R s d)).reverse)&&decide (((wl F R s d).filter λx=>decide (x∈wl F R t (d ^^^ 2)))=pre t (wl F R s d))&&decide (wl F R s d=pre t (wl F R s d)++t::wl F R t d)))=true
 dis:Uj F R (λd s=>decide (wl F R s d).Nodup&& !decide (s∈wl F R s d)&&(cn 8).all λd'=>decide (d=d')||(wl F R s d).all λx=> !decide (x∈wl F R s d'))=true
 ks:RD F R (λs t=>HD (decide (t∈mo F R s om)) (decide (s∈mo F R t om))&&HD (decide (t∈mo F R s tW)) (decide (s∈mo F R t tW))&&HD (decide (t∈mo F R s (rM 0))) (decide (s∈mo F R t (rM 1))))=true
 adj:RD F R (λs t=>E8 (decide (t∈mo F R s om)) ((cn 8).any λd=>decide (t∈wl F R s d)&&decide (pre t (wl F R s d)=[]))&&E8 (decide (t∈mo F R s tW)) ((cn 8).all λd=> !decide (t∈wl F R s d))&&E8 (decide (t∈mo F R s (rM 0))||decide (t∈mo F R s (rM 1))) (decide (t∈mo F R s om))&& !decide (s∈mo F R s om)&& !decide (s∈mo F R s tW))=true
def YV:Tab 3 4:=⟨by decide +kernel,by decide +kernel,by decide +kernel,by decide +kernel,by decide +kernel⟩
def ZU:Tab 7 3:=⟨by decide +kernel,by decide +kernel,by decide +kernel,by decide +kernel,by decide +kernel⟩
def T1:Tab F R:=KD (C:=λF R w=>Tab F R) YV ZU
def EI:∀(l:List Nat) (a i:Nat),(l.foldl (λa t=>a ||| 1 <<< t) a).testBit i=(a.testBit i||decide (i∈l))
 | [],a,i=>by simp
 | s::l,a,i=>by
  rw[i6,EI l,dv,pY,dj,Bool.or_assoc];congr 1;rw[da];simp only[cT,cu,dP,eq_comm (a:=s) (b:=i)]
def py(l:List Nat)(i:Nat):(rI l).testBit i=decide (i∈l):=by
 unfold rI;rw[EI,du,fq]
def MA:∀(l:List Nat) (o:Nat),∃m∈KH l,∀x,m.testBit x=(o.testBit x&&decide (x∈l))
 | [],o=>⟨0,by simp [KH],λx=>by rw[du];simp⟩
 | s::l,o=>by
  obtain⟨m,h1,h2⟩:=MA l o;cases hs:o.testBit s with
  | true=>
   refine⟨1 <<< s ||| m,cS.mpr (.inr (d7.mpr ⟨m,h1,rfl⟩)),λx=>?_⟩;rw[dv,pY,dj,h2];by_cases e:s=x
   .subst e;rw[hs];simp
   .have e':x≠s:=λz=>e z.symm;simp [e,e']
  | false=>
   refine⟨m,cS.mpr (.inl h1),λx=>?_⟩;rw[h2];by_cases e:x=s
   .subst e;rw[hs];rfl
   .simp [e]
def yx:∀{l:List Nat},(∀x∈l,p x=q x)->pz p l=pz q l
 | [],_=>rfl
 | s::l,h=>by rw[pz,pz,h s (.head _),yx λx hx=>h x (.tail _ hx)]
def Ky(h:r &&& o=r &&& m):tj b r o=tj b r m:=by unfold tj;rw[h]
def Ea:pre t (y::l)=if y=t then[] else y::pre t l:=by
 unfold pre;by_cases e:y=t
 .rw[cC e,List.takeWhile_cons_of_neg (by simp [e])]
 .rw[cD e,List.takeWhile_cons_of_pos (by simp [e])]
def o6:x∈pre t (y::l)↔y≠t/\(x=y\/x∈pre t l):=by
 rw[Ea];by_cases e:y=t
 .rw[cC e];exact⟨(nomatch ·),λh=>cG e h.1⟩
 .rw[cD e,dP];exact⟨.intro e,(·.2)⟩
def pX{l:List Nat}:t∈pz p l↔t∈l/\∀x∈pre t l,p x=false:=by
 induction l with
 | nil=>exact⟨(nomatch ·),And.left⟩
 | cons s l ih=>
  constructor
  .exact λh=>(dP.mp h).elim (λe=>⟨e▸.head _,λx hx=>cG e.symm (o6.mp hx).1⟩) λh=>by
    cases hp:p s with
    | true=>rw[hp] at h;exact nomatch h
    | false=>
     rw[hp] at h;exact⟨.tail _ (ih.mp h).1,λx hx=>(o6.mp hx).2.elim (·▸hp) ((ih.mp h).2 x)⟩
  .intro h;by_cases e:s=t
   .exact e▸.head _
   .refine .tail _ ?_;rw[h.2 s (o6.mpr ⟨e,.inl rfl⟩)];exact ih.mpr ⟨gU (dQ e) h.1,λx hx=>h.2 x (o6.mpr ⟨e,.inr hx⟩)⟩
section
variable{s t d o k:Nat}
def G9(h:Uj F R f=true)(hd:d<8)(hs:s<F*R):f d s=true:=cK.mp (cK.mp h d (cL.mpr hd)) s (cL.mpr hs)
def t7(h:RD F R f=true)(hs:s<F*R)(ht:t<F*R):f s t=true:=cK.mp (cK.mp h s (cL.mpr hs)) t (cL.mpr ht)
def xF(hd:d<8)(hs:s<F*R):(dL F R cc).ray d s=rI (wl F R s d):=by
 unfold o7.ray;have e1:(dL F R cc).rays.getD d []=(cn (F*R)).map λs=>rI (wN F R s (om.getD d (0,0))):=by
  rw[ba];show(((cn 8).map λd=>(cn (F*R)).map λs=>rI (wN F R s (om.getD d (0,0))))[d]?).getD []=_;rw[cV,fP hd];rfl
 rw[e1,o0 hs];rfl
def Jm(hs:s<F*R):(dL F R cc).king.getD s 0=rI (mo F R s om):=o0 hs
def Fa(hs:s<F*R):(dL F R cc).knight.getD s 0=rI (mo F R s tW):=o0 hs
def XY(hk:k<2)(hs:s<F*R):(dL F R cc).pw k s=rI (mo F R s (rM k)):=by
 match k,hk with
 | 0,_=>exact o0 hs
 | 1,_=>exact o0 hs
def C3(hd:d<8)(hs:s<F*R):tj (Ct d) ((dL F R cc).ray d s) o=rI (pz (λx=>o.testBit x) (wl F R s d)):=by
 ext s d o;rw[xF hd hs];obtain⟨m,m1,m2⟩:=MA (wl F R s d) o;have e1:rI (wl F R s d) &&& o=rI (wl F R s d) &&& m:=by
  refine dX λi=>?_;rw[cR,cR,py,m2];cases decide (i∈wl F R s d)<;>simp
 rw[Ky e1,cH (cK.mp (G9 T1.atk hd hs) m m1)];congr 1;refine yx λx hx=>?_;rw[m2,cy hx,jF]
def M7{lo i:Nat}(n:Nat):(Tn f lo n).testBit i=true↔∃d,lo<=d/\d<lo+n/\(f d).testBit i=true:=by
 induction n with
 | zero=>exact⟨(nomatch (du i).symm.trans ·),λ⟨d,h⟩=>cG h.2.1 (fV.mpr h.1)⟩
 | succ n ih=>
  show(Tn f lo n ||| f (lo+n)).testBit i=true↔_;rw[dv,cT,ih];exact⟨λh=>h.elim (λ⟨d,h⟩=>⟨d,h.1,gY h.2.1,h.2.2⟩) λh=>⟨_,de _ _,dM _,h⟩,λ⟨d,h⟩=>(jG.mp h.2.1).elim (λq=>.inl ⟨d,h.1,q,h.2.2⟩) λq=>.inr ((show d=lo+n from q)▸h.2.2)⟩
def EY(hs:s<F*R):(sR (dL F R cc) s o).testBit t=true↔∃d,d<4/\t∈pz (λx=>o.testBit x) (wl F R s d):=by
 ext s t o;unfold sR;rw[M7];constructor
 .rintro⟨d,h1,h2,h3⟩;rw[C3 (by lia) hs,py] at h3;exact⟨d,by lia,b9 h3⟩
 .rintro⟨d,h1,h2⟩;exact⟨d,dF _,by lia,by rw[C3 (by lia) hs,py];exact cy h2⟩
def D3(hs:s<F*R):(tB (dL F R cc) s o).testBit t=true↔∃d,4<=d/\d<8/\t∈pz (λx=>o.testBit x) (wl F R s d):=by
 ext s t o;unfold tB;rw[M7];constructor
 .rintro⟨d,h1,h2,h3⟩;rw[C3 (by lia) hs,py] at h3;exact⟨d,h1,by lia,b9 h3⟩
 .rintro⟨d,h1,h2,h3⟩;exact⟨d,h1,by lia,by rw[C3 (by lia) hs,py];exact cy h3⟩
end
abbrev xT(F R:Nat)(p:Nat->Bool)(k sd a t:Nat):Prop:=
 (k=1/\t∈mo F R a (rM sd))\/(k=2/\t∈mo F R a tW)\/(k=6/\t∈mo F R a om)\/∃d,d<8/\(if d<4 then k=4\/k=5 else k=3\/k=5)/\t∈pz p (wl F R a d)
def Ph(h:∀x,p x=true):∀l:List Nat,pz p l=l.take 1
 | []=>rfl
 | s::l=>by rw[pz,h,cC rfl];rfl
def RK{P:Int × Int->Prop}:(∃w∈om,P w)↔∃d,d<8/\P (om.getD d (0,0)):=by
 constructor
 .rintro⟨w,hw,h⟩;obtain⟨d,hd,e⟩:=ig hw;exact⟨d,hd,by rw[ba,a7 hd,e];exact h⟩
 .rintro⟨d,hd,h⟩;refine⟨_,?_,h⟩;refine lt8 hd ?_ ?_ ?_ ?_ ?_ ?_ ?_ ?_<;>simp [om]
def OZ{P:Int × Int->Prop}:(∃w∈om.take 4,P w)↔∃d,d<4/\P (om.getD d (0,0)):=by
 ext P;constructor
 .rintro⟨w,hw,h⟩;obtain⟨d,hd,e⟩:=ig hw;have hd4:d<4:=hd;refine⟨d,hd4,?_⟩;have g:(om.take 4)[d]=om.getD d (0,0):=Vp (P:=λd=>∀h:d<(om.take 4).length,(om.take 4)[d]=om.getD d (0,0)) hd4 (λz=>rfl) (λz=>rfl) (λz=>rfl) (λz=>rfl) hd;exact g▸e▸h
 .rintro⟨d,hd,h⟩;refine⟨_,?_,h⟩;refine Vp hd ?_ ?_ ?_ ?_<;>simp [om]
def N0{P:Int × Int->Prop}:(∃w∈om.drop 4,P w)↔∃d,4<=d/\d<8/\P (om.getD d (0,0)):=by
 ext P;constructor
 .rintro⟨w,hw,h⟩;obtain⟨d,hd,e⟩:=ig hw;have hd4:d<4:=hd;refine⟨d+4,by lia,by lia,?_⟩;have g:(om.drop 4)[d]=om.getD (d+4) (0,0):=Vp (P:=λd=>∀h:d<(om.drop 4).length,(om.drop 4)[d]=om.getD (d+4) (0,0)) hd4 (λz=>rfl) (λz=>rfl) (λz=>rfl) (λz=>rfl) hd;exact g▸e▸h
 .rintro⟨d,h1,hd,h⟩;refine⟨_,?_,h⟩;obtain⟨d,rfl⟩:=fM h1;refine Vp (ju (show 4+d<4+4 from hd)) ?_ ?_ ?_ ?_<;>simp [om]
def vk{aS:List Nat}(hk:1<=k/\k<=6):t∈xZ F R aS k sd a↔xT F R (λx=>decide (aS.getD x 0≠0)) k sd a t:=by
 ext k sd a t aS;unfold xZ;have aG:zg k=true->(pE k sd).flatMap (λw=>pz (xj aS k) (wN F R a w))=mo F R a (pE k sd):=λh=>by
  unfold mo;congr 1;funext w;exact Ph (λx=>by unfold xj;rw[h,Bool.or_true]) _
 have sld:zg k=false->∀w,pz (xj aS k) (wN F R a w)=pz (λx=>decide (aS.getD x 0≠0)) (wN F R a w):=λh w=>yx λx z=>by unfold xj;rw[h,iS]
 unfold xT;rcases JP hk with h | h | h | h | h | h<;>subst h
 .rw[aG rfl];simp [pE]
 .rw[aG rfl];simp [pE]
 .rw[aG rfl];simp [pE]
 .simp only[sld rfl];rw[dN];show(∃w∈om.drop 4,_)↔_;rw[N0];constructor
  .rintro⟨d,h1,h2,h3⟩;exact .inr (.inr (.inr ⟨d,h2,by rw[cD (by lia)];simp,h3⟩))
  .rintro(⟨h,_⟩ | ⟨h,_⟩ | ⟨h,_⟩ | ⟨d,h1,h2,h3⟩)
   .cases h
   .cases h
   .cases h
   .refine⟨d,?_,h1,h3⟩;by_cases e:d<4
    .rw[cC e] at h2;lia
    .lia
 .simp only[sld rfl];rw[dN];show(∃w∈om.take 4,_)↔_;rw[OZ];constructor
  .rintro⟨d,h1,h3⟩;exact .inr (.inr (.inr ⟨d,by lia,by rw[cC h1];simp,h3⟩))
  .rintro(⟨h,_⟩ | ⟨h,_⟩ | ⟨h,_⟩ | ⟨d,h1,h2,h3⟩)
   .cases h
   .cases h
   .cases h
   .refine⟨d,?_,h3⟩;by_cases e:d<4
    .exact e
    .rw[cD e] at h2;lia
 .simp only[sld rfl];rw[dN];show(∃w∈om,_)↔_;rw[RK];constructor
  .rintro⟨d,h1,h3⟩;exact .inr (.inr (.inr ⟨d,h1,by split<;>simp,h3⟩))
  .rintro(⟨h,_⟩ | ⟨h,_⟩ | ⟨h,_⟩ | ⟨d,h1,h2,h3⟩)
   .cases h
   .cases h
   .cases h
   .exact⟨d,h1,h3⟩
def tu:x≠0↔∃i,x.testBit i=true:=by
 constructor
 .intro h;refine cJ λz=>h (dX λi=>?_);rw[du];cases q:x.testBit i with
  | false=>rfl
  | true=>exact cG ⟨i,q⟩ z
 .rintro⟨i,h⟩ e;rw[e,du] at h;cases h
section
variable{s t d o k a au az aA av kx c n:Nat}{cs:List Nat}{ay:List V}{p:Nat->Bool}
def vN(hd:d<8):d ^^^ 2<8/\(d ^^^ 2) ^^^ 2=d/\(d ^^^ 2<4↔d<4):=by
 match d,hd with
 | 0,_ | 1,_ | 2,_ | 3,_ | 4,_ | 5,_ | 6,_ | 7,_=>decide
def HN(hd:d<8)(hs:s<F*R)(ht:t<F*R):(t∈wl F R s d↔s∈wl F R t (d ^^^ 2))/\(t∈wl F R s d->pre s (wl F R t (d ^^^ 2))=(pre t (wl F R s d)).reverse/\((wl F R s d).filter λx=>decide (x∈wl F R t (d ^^^ 2)))=pre t (wl F R s d)/\wl F R s d=pre t (wl F R s d)++t::wl F R t d):=by
 ext s t d;have z:=cK.mp (G9 T1.sym hd hs) t (cL.mpr ht);unfold HD E8 at z;rw[ax] at z;have z1:=cH z.1;rw[da,cu,cu] at z1;refine⟨z1,λh=>?_⟩;have z2:=z.2;rw[cy h,jE,fq,ax,ax,cu,cu,cu] at z2;exact⟨z2.1.1,z2.1.2,z2.2⟩
def zo(hd:d<8)(hs:s<F*R)(ht:t<F*R)(h:t∈pz p (wl F R s d)):s∈pz p (wl F R t (d ^^^ 2)):=by
 ext s t d p;obtain⟨h1,h2⟩:=pX.mp h;obtain⟨s1,s2⟩:=HN hd hs ht;refine pX.mpr ⟨s1.mp h1,λx hx=>?_⟩;rw[(s2 h1).1] at hx;exact h2 x (iP.mp hx)
def r4(hs:s<F*R)(ht:t<F*R):(t∈mo F R s om↔s∈mo F R t om)/\(t∈mo F R s tW↔s∈mo F R t tW)/\(t∈mo F R s (rM 0)↔s∈mo F R t (rM 1)):=by
 ext s t;have z:=t7 T1.ks hs ht;unfold HD at z;rw[ax,ax] at z;have z1:=cH z.1.1;have z2:=cH z.1.2;have z3:=cH z.2;rw[da,cu,cu] at z1 z2 z3;exact⟨z1,z2,z3⟩
def Dp(hs:s<F*R)(ht:t<F*R)(hc:c<2):t∈mo F R s (rM c)↔s∈mo F R t (rM (1 - c)):=by
 rcases (u2 (by assumption:c<2)) with e | e<;>subst e
 .exact(r4 hs ht).2.2
 .exact(r4 ht hs).2.2.symm
def rh(hk:k<7):((oa n cs au az aA av kx ay).kd k).testBit a=true↔a<n/\cs.getD a 0≠0/\cs.getD a 0%8=k:=by
 rw[K2 hk,pR];simp only[ax,cu]
def sM(hk:k<2):((oa n cs au az aA av kx ay).sd k).testBit a=true↔a<n/\cs.getD a 0≠0/\cs.getD a 0/8=k:=by
 rw[DI hk,pR];simp only[ax,cu]
def U9(hv:∀i,cs.getD i 0<16):(oa n cs au az aA av kx ay).all.testBit a=true↔a<n/\cs.getD a 0≠0:=by
 unfold Ps.all;rw[dv,cT,sM ⋯,sM ⋯];have:=hv a;constructor
 .rintro(h | h)
  .exact⟨h.1,h.2.1⟩
  .exact⟨h.1,h.2.1⟩
 .rintro⟨h1,h2⟩;rcases (by lia:cs.getD a 0/8=0\/cs.getD a 0/8=1) with h | h
  .exact .inl ⟨h1,h2,h⟩
  .exact .inr ⟨h1,h2,h⟩
def Ac(ht:t<F*R)(hc:c<2):(u5 (dL F R cc) () t c).testBit a=true↔a<F*R/\cs.getD a 0≠0/\cs.getD a 0/8=c/\(cs.getD a 0%8=1/\t∈mo F R a (rM c)\/cs.getD a 0%8=2/\t∈mo F R a tW\/cs.getD a 0%8=6/\t∈mo F R a om):=by
 ext t a au az aA av kx c cs ay;unfold u5 Kw;rw[XY (by lia) ht,Fa ht,Jm ht];simp only[dv,cR,cT,ax,py,cu,rh (show 1<7 by decide),rh (show 2<7 by decide),rh (show 6<7 by decide),sM hc];constructor
 .rintro(⟨⟨h1,h2,h3,h4⟩,_,_,h5⟩ | ⟨⟨h1,h2,h3,h4⟩ | ⟨h1,h2,h3,h4⟩,_,_,h5⟩)
  .exact⟨h2,h3,h5,.inl ⟨h4,(Dp h2 ht hc).mpr h1⟩⟩
  .exact⟨h2,h3,h5,.inr (.inl ⟨h4,(r4 h2 ht).2.1.mpr h1⟩)⟩
  .exact⟨h2,h3,h5,.inr (.inr ⟨h4,(r4 h2 ht).1.mpr h1⟩)⟩
 .rintro⟨h2,h3,h5,⟨h4,h1⟩ | ⟨h4,h1⟩ | ⟨h4,h1⟩⟩
  .exact .inl ⟨⟨(Dp h2 ht hc).mp h1,h2,h3,h4⟩,h2,h3,h5⟩
  .exact .inr ⟨.inl ⟨(r4 h2 ht).2.1.mp h1,h2,h3,h4⟩,h2,h3,h5⟩
  .exact .inr ⟨.inr ⟨(r4 h2 ht).1.mp h1,h2,h3,h4⟩,h2,h3,h5⟩
abbrev Yy(k d:Nat):Prop:=if d<4 then k=4\/k=5 else k=3\/k=5
def PG:(oa n cs au az aA av kx ay).strt.testBit a=true↔a<n/\cs.getD a 0≠0/\(cs.getD a 0%8=4\/cs.getD a 0%8=5):=by
 unfold Ps.strt;rw[dv,cT,rh ⋯,rh ⋯];constructor
 .rintro(⟨h1,h2,h3⟩ | ⟨h1,h2,h3⟩)
  .exact⟨h1,h2,.inl h3⟩
  .exact⟨h1,h2,.inr h3⟩
 .rintro⟨h1,h2,h3 | h3⟩
  .exact .inl ⟨h1,h2,h3⟩
  .exact .inr ⟨h1,h2,h3⟩
def Rh:(oa n cs au az aA av kx ay).slnt.testBit a=true↔a<n/\cs.getD a 0≠0/\(cs.getD a 0%8=3\/cs.getD a 0%8=5):=by
 ext a au az aA av kx n cs ay;unfold Ps.slnt;rw[dv,cT,rh ⋯,rh ⋯];constructor
 .rintro(⟨h1,h2,h3⟩ | ⟨h1,h2,h3⟩)
  .exact⟨h1,h2,.inl h3⟩
  .exact⟨h1,h2,.inr h3⟩
 .rintro⟨h1,h2,h3 | h3⟩
  .exact .inl ⟨h1,h2,h3⟩
  .exact .inr ⟨h1,h2,h3⟩
def Jk(ht:t<F*R):(tQ (dL F R cc) () t o).testBit a=true↔a<F*R/\cs.getD a 0≠0/\∃d,d<8/\Yy (cs.getD a 0%8) d/\a∈pz (λx=>o.testBit x) (wl F R t d):=by
 ext t o a au az aA av kx cs ay;unfold tQ Yy;rw[dv,cT,cR,cR,ax,ax,EY ht,D3 ht,PG,Rh];constructor
 .rintro(⟨⟨d,h1,h2⟩,h3,h4,h5⟩ | ⟨⟨d,h0,h1,h2⟩,h3,h4,h5⟩)
  .exact⟨h3,h4,d,by lia,by rw[cC h1];exact h5,h2⟩
  .exact⟨h3,h4,d,h1,by rw[cD (by lia)];exact h5,h2⟩
 .rintro⟨h3,h4,d,h1,h5,h2⟩;by_cases e:d<4
  .rw[cC e] at h5;exact .inl ⟨⟨d,e,h2⟩,h3,h4,h5⟩
  .rw[cD e] at h5;exact .inr ⟨⟨d,by lia,h1,h2⟩,h3,h4,h5⟩
def C8(hd:d<8):Yy k (d ^^^ 2)↔Yy k d:=by
 unfold Yy;have:=(vN hd).2.2;by_cases e:d<4
 .rw[cC e,cC (this.mpr e)]
 .rw[cD e,cD (λz=>e (this.mp z))]
abbrev yP(F R:Nat)(cs:List Nat)(p:Nat->Bool)(c t a:Nat):Prop:=a<F*R/\cs.getD a 0≠0/\cs.getD a 0/8=c/\xT F R p (cs.getD a 0%8) c a t
def H4(ht:t<F*R)(hc:c<2)(ha:a<F*R)(h0:cs.getD a 0≠0)(h1:cs.getD a 0/8=c):xT F R (λx=>o.testBit x) (cs.getD a 0%8) c a t↔(u5 (dL F R cc) () t c).testBit a=true\/(tQ (dL F R cc) () t o).testBit a=true:=by
 ext t o a au az aA av kx c cs ay;rw[Ac ht hc,Jk ht];unfold xT;constructor
 .rintro(h | h | h | ⟨d,h2,h3,h4⟩)
  .exact .inl ⟨ha,h0,h1,.inl h⟩
  .exact .inl ⟨ha,h0,h1,.inr (.inl h)⟩
  .exact .inl ⟨ha,h0,h1,.inr (.inr h)⟩
  .exact .inr ⟨ha,h0,d ^^^ 2,(vN h2).1,(C8 h2).mpr h3,zo h2 ha ht h4⟩
 .rintro(⟨_,_,_,h⟩ | ⟨_,_,d,h2,h3,h4⟩)
  .rcases h with h | h | h
   .exact .inl h
   .exact .inr (.inl h)
   .exact .inr (.inr (.inl h))
  .exact .inr (.inr (.inr ⟨d ^^^ 2,(vN h2).1,(C8 h2).mpr h3,zo h2 ht ha h4⟩))
def tz(ht:t<F*R)(hc:c<2):uD (dL F R cc) () t c o=true↔∃a,yP F R cs (λx=>o.testBit x) c t a:=by
 ext t o au az aA av kx c cs ay;have key:∀a,yP F R cs (λx=>o.testBit x) c t a↔(u5 (dL F R cc) () t c).testBit a=true\/(tQ (dL F R cc) () t o &&& ().sd c).testBit a=true:=λa=>by
  ext a;rw[cR,ax,sM hc];constructor
  .rintro⟨h1,h2,h3,h4⟩;rcases (H4 ht hc h1 h2 h3).mp h4 with h | h
   .exact .inl h
   .exact .inr ⟨h,h1,h2,h3⟩
  .rintro(h | ⟨h,h1,h2,h3⟩)
   .have z:=(Ac ht hc).mp h;exact⟨z.1,z.2.1,z.2.2.1,(H4 ht hc z.1 z.2.1 z.2.2.1).mpr (.inl h)⟩
   .exact⟨h1,h2,h3,(H4 ht hc h1 h2 h3).mpr (.inr h)⟩
 have e:(∃a,yP F R cs (λx=>o.testBit x) c t a)↔u5 (dL F R cc) () t c≠0\/tQ (dL F R cc) () t o &&& ().sd c≠0:=by
  rw[tu,tu];constructor
  .rintro⟨a,h⟩;rcases (key a).mp h with h | h
   .exact .inl ⟨a,h⟩
   .exact .inr ⟨a,h⟩
  .rintro(⟨a,h⟩ | ⟨a,h⟩)
   .exact⟨a,(key a).mpr (.inl h)⟩
   .exact⟨a,(key a).mpr (.inr h)⟩
 rw[e];unfold uD tQ;generalize u5 (dL F R cc) () t c=x1;generalize sR (dL F R cc) t o=x2;generalize tB (dL F R cc) t o=x3;generalize ().strt=x4;generalize ().slnt=x5;generalize ().sd c=x6;simp only[cT,ax,cu];have e2:(x2 &&& x4 ||| x3 &&& x5) &&& x6≠0↔x2 &&& (x4 &&& x6)≠0\/(x5 &&& x6≠0/\x3 &&& (x5 &&& x6)≠0):=by
  rw[tu,tu,tu,tu];simp only[cR,dv,ax,cT];constructor
  .rintro⟨i,⟨h1,h2⟩ | ⟨h1,h2⟩,h3⟩
   .exact .inl ⟨i,h1,h2,h3⟩
   .exact .inr ⟨⟨i,h2,h3⟩,i,h1,h2,h3⟩
  .rintro(⟨i,h1,h2,h3⟩ | ⟨_,i,h1,h2,h3⟩)
   .exact⟨i,.inl ⟨h1,h2⟩,h3⟩
   .exact⟨i,.inr ⟨h1,h2⟩,h3⟩
 rw[e2]
end
abbrev uX(cs:List Nat)(x:Nat):Bool:=decide (cs.getD x 0≠0)
abbrev zv(cs:List Nat)(s t x:Nat):Bool:=decide (x=t)||(decide (cs.getD x 0≠0)&& !decide (x=s))
def H1(h:∀i,x.testBit i=true↔i=k):x=2 ^ k:=by
 refine dX λi=>?_;rw[dj,da,h,cu,eq_comm]
def J3(k:Nat):2 ^ k &&& (2 ^ k - 1)=0:=by
 refine dX λi=>?_;rw[cR,dj,du,ji];by_cases h:k=i
 .subst h;simp
 .simp [h]
def IB(k:Nat):Im (2 ^ k)=k:=by
 unfold Im oh;rw[J3,lW,Nat.log2_two_pow]
section
variable{s t o k a au az aA av kx c n K:Nat}{cs:List Nat}{ay:List V}{p q:Nat->Bool}
def su(hl:cs.length=n)(hv:∀i,cs.getD i 0<16):(λx=>(oa n cs au az aA av kx ay).all.testBit x)=uX cs:=by
 funext x;rw[da,U9 hv];unfold uX;rw[cu];refine⟨λh=>h.2,λh=>⟨cJ λz=>h (w5 (by rw[hl];exact z)),h⟩⟩
def IE(g:wS F R cs)(hc:c<2)(hk:∀i,cs.getD i 0=c*8+6↔i=K)(hK:K<F*R):().sd c &&& ().kd 6=2 ^ K:=by
 refine H1 λi=>?_;rw[cR,ax,sM hc,rh ⋯];constructor
 .rintro⟨⟨h1,h2,h3⟩,_,_,h4⟩;exact(hk i).mp (by lia)
 .intro e;subst e;have:=(hk i).mpr rfl;exact⟨⟨hK,by lia,by lia⟩,hK,by lia,by lia⟩
def zd(g:wS F R cs)(hc:c<2)(hk:∀i,cs.getD i 0=c*8+6↔i=K)(hK:K<F*R):().king c=K:=by
 unfold Ps.king;rw[IE g hc hk hK,IB]
def UY(g:wS F R cs)(hc:c<2)(hk:∀i,cs.getD i 0=c*8+6↔i=K)(hK:K<F*R):sy (dL F R cc) () c:=
 ⟨by rw[IE g hc hk hK];exact gb _,by rw[zd g hc hk hK];exact hK⟩
def Mj(g:wS F R cs)(h:cs.getD a 0≠0):1<=cs.getD a 0%8/\cs.getD a 0%8<=6:=by
 rcases g.pv a with z | z
 .exact cG z h
 .exact z
def JU(hl:ds.length=F*R)(hv:∀i,ds.getD i 0<16)(pv:∀i,ds.getD i 0=0\/1<=ds.getD i 0%8/\ds.getD i 0%8<=6)(hs:au<2):tF F R ds t au=true↔∀a,¬yP F R ds (uX ds) (1 - au) t a:=by
 ext t au ds;unfold tF;rw[cK];constructor
 .rintro h a ⟨h1,h2,h3,h4⟩;have z:=h a (cL.mpr (by rw[hl];exact h1));have pk:1<=ds.getD a 0%8/\ds.getD a 0%8<=6:=by
   rcases pv a with z | z
   .exact cG z h2
   .exact z
  unfold DY q7 at z;rw[cy h2,eQ,cy (p:=ds.getD a 0/8≠au) (by lia),eQ,dc,cA,vk pk,h3] at z;exact z h4
 .intro h a ha;ext a;have ha:=cL.mp ha;rw[hl] at ha;unfold DY;rw[dc];refine eK.mpr λz=>?_;simp only[ax,cu] at z;obtain⟨z1,z2,z3⟩:=z;have pk:1<=ds.getD a 0%8/\ds.getD a 0%8<=6:=by
   rcases pv a with z | z
   .exact cG z z1
   .exact z
  unfold q7 at z3;rw[vk pk] at z3;have va:=hv a;have e:ds.getD a 0/8=1 - au:=L5 (by assumption) (by assumption) (by assumption);rw[e] at z3;exact h a ⟨ha,z1,e,z3⟩
def Ag(g:wS F R cs)(hs:au<2):tF F R cs t au=true↔∀a,¬yP F R cs (uX cs) (1 - au) t a:=JU g.cl.l g.cl.v g.pv hs
def Yj(g:wS F R cs)(hs:au<2):r5 (dL F R cc) () au= !tF F R cs (cs.idxOf (au*8+6)) au:=by
 obtain⟨K,hK,hk⟩:=g.king hs;unfold r5;rw[zd g hs hk hK,(wX g.cl.l hK hk).2];rw[da,dc,tz hK (by lia),su g.cl.l g.cl.v];constructor
 .rintro⟨a,h⟩;refine eK.mpr λz=>(Ag g hs).mp z a h
 .intro h;refine cJ λz=>?_;rw[(Ag (t:=K) g hs).mpr λa ha=>z ⟨a,ha⟩] at h;cases h
def ts(h:t∈oj F R cs s):cs.getD t 0=0\/cs.getD t 0/8≠cs.getD s 0/8:=by
 ext s t cs;unfold oj at h;split at h
 .have:=(eg.mp h).2;unfold Nx at this;simpa using this
 .rcases cS.mp h with h | h
  .have:=(eg.mp h).2;unfold vd at this;simp only[ax,cu] at this;exact .inr this.2
  .split at h
   .rename_i e;rw[dT] at h;subst h;exact .inl e
   .cases h
def Xs(g:wS F R cs)(hs:au<2):Ff F R cs au:=by
 ext au cs;exact λm hm=>by
  ext m;obtain⟨h1,h2,h3,h4⟩:=rj.mp hm;obtain⟨K,hK,hk⟩:=g.king hs;have hl:=g.cl.l;have ot:=ts h4;have tl:=qJ g.cl g.pw (by rw[<- hl];exact h1) h4;have mem:∀{l:List Nat} {i x:Nat},i<l.length->l.getD i 0=x->x∈l:=λ{l i x} hi e=>by
   rw[ba,a7 hi] at e;exact e▸dk hi
  have kv:=(hk K).mpr rfl;have ne:m.1≠m.2:=λe=>by
   rw[<- e] at ot;rcases ot with z | z
   .exact h2 z
   .exact z rfl
  by_cases e:m.1=K
  .refine mem (i:=m.2) (by unfold oo;simp;lia) ?_;unfold oo;rw[im _ (dQ ne),ou (by lia),e,kv]
  .have e2:m.2≠K:=λz=>by
    rw[z,kv,h3] at ot;rcases ot with z | z<;>lia
   refine mem (i:=K) (by unfold oo;simp;lia) ?_;unfold oo;rw[im _ (dQ e),im _ (dQ e2),kv]
def F4(hl:cs.length=F*R)(hs:s<F*R)(ht:t<F*R)(ne:s≠t)(i:Nat):(oo cs s t).getD i 0=if i=s then 0 else if i=t then cs.getD s 0 else cs.getD i 0:=by
 revert i;ext s t cs;unfold oo;by_cases h1:i=s
 .subst h1;rw[cC rfl,ou (by simp;lia)]
 .rw[cD h1,im i h1];by_cases h2:i=t
  .subst h2;rw[cC rfl,ou (by lia)]
  .rw[cD h2,im i h2]
abbrev rV(K s t:Nat):Nat:=if s=K then t else K
def Dj(g:wS F R cs)(hs:s<F*R)(ht:t<F*R)(ne:s≠t)(own:cs.getD s 0≠0/\cs.getD s 0/8=au)(aX:au<2)(ot:cs.getD t 0=0\/cs.getD t 0/8≠au)(hk:∀i,cs.getD i 0=au*8+6↔i=K)(hK:K<F*R):
  sZ F R cs s t=true↔∀a,a≠t->¬yP F R cs (zv cs s t) (1 - au) (rV K s t) a:=by
 ext s t au K cs;have hl:=g.cl.l;have ag:=F4 hl hs ht ne;have al:(oo cs s t).length=F*R:=by unfold oo;simp [hl]
 have kv:=(hk K).mpr rfl;have kt:K≠t:=λe=>by rw[<- e,kv] at ot;rcases ot with z | z<;>lia
 have ka:∀i,(oo cs s t).getD i 0=au*8+6↔i=rV K s t:=λi=>by
  rw[ag];unfold rV;by_cases h1:i=s
  .subst h1;rw[cC rfl];split
   .exact⟨λh=>by lia,λh=>cG h ne⟩
   .rename_i h;exact⟨λh=>by lia,λz=>cG z h⟩
  .rw[cD h1];by_cases h2:i=t
   .subst h2;rw[cC rfl,hk];split
    .rename_i h;exact⟨λ_=>rfl,λ_=>h⟩
    .rename_i h;exact⟨λz=>cG z h,λz=>cG z.symm kt⟩
   .rw[cD h2,hk];split
    .rename_i h;subst h;exact⟨λz=>cG z h1,λz=>cG z h2⟩
    .exact Iff.rfl
 have kl:rV K s t<F*R:=by unfold rV;split<;>assumption
 unfold sZ;rw[own.2,(wX al kl ka).2];have pv:∀i,(oo cs s t).getD i 0=0\/1<=(oo cs s t).getD i 0%8/\(oo cs s t).getD i 0%8<=6:=λi=>by
  rw[ag];split
  .exact .inl rfl
  .split
   .exact g.pv s
   .exact g.pv i
 rw[JU al (g.cl.after s t).v pv aX];have oc:uX (oo cs s t)=zv cs s t:=by
  funext x;ext x;unfold uX zv;rw[ag];by_cases h1:x=s
  .subst h1;rw[cC rfl,cz (p:=x=t) ne];simp
  .rw[cD h1];by_cases h2:x=t
   .subst h2;rw[cC rfl];simp only[decide_true,lV];exact cy own.1
   .rw[cD h2];simp [h1,h2]
 rw[oc];have iff:∀a,yP F R (oo cs s t) (zv cs s t) (1 - au) (rV K s t) a↔a≠t/\yP F R cs (zv cs s t) (1 - au) (rV K s t) a:=λa=>by
  ext a;unfold yP;rw[ag];by_cases h1:a=s
  .subst h1;rw[cC rfl];exact⟨λh=>cG rfl h.2.1,λh=>by have:=h.2.2.2.1;lia⟩
  .rw[cD h1];by_cases h2:a=t
   .subst h2;rw[cC rfl];exact⟨λh=>by have:=h.2.2.1;lia,λh=>cG rfl h.1⟩
   .rw[cD h2];exact⟨λh=>⟨h2,h⟩,λh=>h.2⟩
 constructor
 .intro h a h1 h2;exact h a ((iff a).mpr ⟨h1,h2⟩)
 .intro h a h1;have:=(iff a).mp h1;exact h a this.1 this.2
end
def Mz(h1:2 ^ k<=y)(h2:y<2 ^ (k+1)):y.testBit k=true:=by
 rw[Nat.testBit_eq_decide_div_mod_eq];have:y/2 ^ k=1:=by
  rw[gP] at h2;refine Nat.div_eq_of_lt_le ?_ ?_
  .lia
  .lia
 rw[this];rfl
def xB(h0:x≠0):x &&& (x - 1)=0↔∃k,∀i,x.testBit i=true↔i=k:=by
 ext x;have l1:=Nat.log2_self_le h0;have l2:=Nat.lt_log2_self (n:=x);have b:=Mz l1 l2;constructor
 .intro h;refine⟨x.log2,?_⟩;have e:x=2 ^ x.log2:=by
   refine cJ λz=>?_;have b2:=Mz (y:=x - 1) (k:=x.log2) (by lia) (by lia);have:(x &&& (x - 1)).testBit x.log2=true:=by rw[cR,b,b2];rfl
   rw[h,du] at this;cases this
  intro i;generalize x.log2=k at e;subst e;rw[dj,cu,eq_comm]
 .rintro⟨k,h⟩;rw[H1 h];exact J3 k
def M4(h:∀i,x.testBit i=true↔i=k):Im x=k:=by rw[H1 h,IB]
section
variable{s t o k a b au az aA av kx c n K d x:Nat}{cs:List Nat}{ay:List V}{p q:Nat->Bool}
def tD:(x >>> k) &&& 1≠0↔x.testBit k=true:=by
 unfold Nat.testBit;rw[Nat.and_comm,bne_iff_ne]
def xn(hd:d<8)(hs:s<F*R):(wl F R s d).Nodup/\s∉wl F R s d/\∀d',d'<8->x∈wl F R s d->x∈wl F R s d'->d=d':=by
 ext s d x;have z:=G9 T1.dis hd hs;simp only[ax,cu,dc,cA] at z;refine⟨z.1.1,z.1.2,λd' hd' h1 h2=>?_⟩;ext d';have y:=cK.mp z.2 d' (cL.mpr hd');rcases (cT _ _).mp y with y | y
 .exact b9 y
 .have:=cK.mp y x h1;rw[cy h2] at this;cases this
def MI(ha:a<F*R)(n d:Nat)(h:d+n=8):(CG (dL F R cc) a b n d<8->CG (dL F R cc) a b n d<8/\b∈wl F R a (CG (dL F R cc) a b n d))/\(¬CG (dL F R cc) a b n d<8->∀d',d<=d'->d'<8->b∉wl F R a d'):=by
 ext a b
 induction n generalizing d with
 | zero=>exact⟨λz=>cG z (eU 8),λu d' h1 h2=>cG h2 (fV.mpr ((h:d=8)▸h1))⟩
 | succ n ih=>
  replace ih:=ih (d+1) (by lia);ext n d;have hd:d<8:=by lia
  have e:((dL F R cc).ray d a >>> b) &&& 1≠0↔b∈wl F R a d:=by rw[tD,xF hd ha,py,cu]
  by_cases hb:((dL F R cc).ray d a >>> b) &&& 1≠0
  .rw[show CG (dL F R cc) a b (n+1) d=d from cC hb];exact⟨λu=>⟨hd,e.mp hb⟩,λz=>cG hd z⟩
  .rw[show CG (dL F R cc) a b (n+1) d=CG (dL F R cc) a b n (d+1) from cD hb];exact⟨ih.1,λz d' h1 h2=>(Nat.eq_or_lt_of_le h1).elim (λq=>q▸λw=>hb (e.mpr w)) λq=>ih.2 z d' q h2⟩
def Jg(ha:a<F*R)(hd:d<8)(hb:b∈wl F R a d):yD (dL F R cc) a b=d:=by
 ext a b d;have z:=MI (b:=b) ha 8 0 rfl;by_cases h:CG (dL F R cc) a b 8 0<8
 .have:=z.1 h;exact((xn this.1 ha).2.2 d hd this.2 hb)
 .exact cG hb (z.2 h d (dF _) hd)
def Mm(ha:a<F*R)(h:yD (dL F R cc) a b<8):b∈wl F R a (yD (dL F R cc) a b):=((MI (b:=b) ha 8 0 rfl).1 h).2
def VT(h:x∈wl F R a d):x<F*R:=Km h
def Dr(ha:a<F*R)(hb:b<F*R):(O4 (dL F R cc) a b).testBit x=true↔∃d,d<8/\b∈wl F R a d/\x∈pre b (wl F R a d):=by
 ext a b x;unfold O4;have main:∀d,d<8->b∈wl F R a d->(((dL F R cc).ray d a &&& (dL F R cc).ray (d ^^^ 2) b).testBit x=true↔x∈pre b (wl F R a d)):=λd hd hm=>by
  ext d;rw[cR,ax,xF hd ha,xF (vN hd).1 hb,py,py,cu,cu];rw[<- ((HN hd ha hb).2 hm).2.1,eg,cu]
 constructor
 .intro h;split at h
  .rename_i hd;have hm:=Mm ha hd;exact⟨_,hd,hm,(main _ hd hm).mp h⟩
  .rw[du] at h;cases h
 .rintro⟨d,hd,hm,hx⟩;have e:=Jg ha hd hm;rw[e,cC hd];exact(main d hd hm).mpr hx
def RS(hs:s<F*R):OY (dL F R cc) s t K=true↔∃d,d<8/\t∈wl F R s d/\(K∈wl F R s d\/K∈wl F R s (d ^^^ 2)\/s=K):=by
 ext s t K;unfold OY NB;rw[cu];have e1:∀y:Nat,(y >>> K) &&& 1=1↔y.testBit K=true:=λy=>by
  ext y;rw[<- tD,Xp];have:=dI (y >>> K);lia
 rw[e1];have main:∀d,d<8->(((dL F R cc).ray d s ||| (dL F R cc).ray (d ^^^ 2) s ||| 1 <<< s).testBit K=true↔K∈wl F R s d\/K∈wl F R s (d ^^^ 2)\/s=K):=λd hd=>by
  rw[dv,dv,xF hd hs,xF (vN hd).1 hs,py,py,pY,dj];simp only[cT,cu,or_assoc]
 constructor
 .intro h;split at h
  .rename_i hd;exact⟨_,hd,Mm hs hd,(main _ hd).mp h⟩
  .rw[du] at h;cases h
 .rintro⟨d,hd,hm,hx⟩;have e:=Jg hs hd hm;rw[e,cC hd];exact(main d hd).mpr hx
abbrev Enm(F R:Nat)(cs:List Nat)(au a:Nat):Prop:=a<F*R/\cs.getD a 0≠0/\cs.getD a 0/8=1 - au
abbrev Lp(F R:Nat)(cs:List Nat)(au K a:Nat):Prop:=Enm F R cs au a/\(cs.getD a 0%8=1/\K∈mo F R a (rM (1 - au))\/cs.getD a 0%8=2/\K∈mo F R a tW\/cs.getD a 0%8=6/\K∈mo F R a om)
abbrev Sn(F R:Nat)(cs:List Nat)(au K d a:Nat):Prop:=d<8/\Enm F R cs au a/\Yy (cs.getD a 0%8) d/\a∈wl F R K d
def MW(hK:K<F*R):yP F R cs p (1 - au) K a↔Lp F R cs au K a\/∃d,Sn F R cs au K d a/\∀x∈pre a (wl F R K d),p x=false:=by
 ext a au K cs p;constructor
 .rintro⟨h1,h2,h3,h | h | h | ⟨d,h4,h5,h6⟩⟩
  .exact .inl ⟨⟨h1,h2,h3⟩,.inl h⟩
  .exact .inl ⟨⟨h1,h2,h3⟩,.inr (.inl h)⟩
  .exact .inl ⟨⟨h1,h2,h3⟩,.inr (.inr h)⟩
  .obtain⟨m1,m2⟩:=pX.mp (zo h4 h1 hK h6);exact .inr ⟨d ^^^ 2,⟨(vN h4).1,⟨h1,h2,h3⟩,(C8 h4).mpr h5,m1⟩,m2⟩
 .rintro(⟨⟨h1,h2,h3⟩,h⟩ | ⟨d,⟨h4,⟨h1,h2,h3⟩,h5,h6⟩,h7⟩)
  .refine⟨h1,h2,h3,?_⟩;rcases h with h | h | h
   .exact .inl h
   .exact .inr (.inl h)
   .exact .inr (.inr (.inl h))
  .exact⟨h1,h2,h3,.inr (.inr (.inr ⟨d ^^^ 2,(vN h4).1,(C8 h4).mpr h5,zo h4 hK h1 (pX.mpr ⟨h6,h7⟩)⟩))⟩
def G1(hl:cs.length=F*R)(hv:∀i,cs.getD i 0<16)(hK:K<F*R)(hs:au<2)(hk:().king au=K):(wU (dL F R cc) () au).testBit a=true↔yP F R cs (uX cs) (1 - au) K a:=by
 ext a au az aA av kx K cs ay;unfold wU PV;rw[hk,cR,ax,sM (by lia)];have ao:=λh1 h2 h3=>H4 (cs:=cs) (t:=K) (a:=a) (c:=1 - au) (au:=au) (az:=az) (aA:=aA) (av:=av) (kx:=kx) (ay:=ay) (o:=().all) hK (by lia) h1 h2 h3;rw[su hl hv] at ao;constructor
 .rintro⟨h,h1,h2,h3⟩;refine⟨h1,h2,h3,(ao h1 h2 h3).mpr ?_⟩;rw[dv,dv,cT,cT] at h;rcases h with(h | h) | h
  .have z:=(Ac hK ⋯).mp h;rw[z.2.2.1] at h3;rw[<- h3];exact .inl h
  .have z:=(Ac hK ⋯).mp h;rw[z.2.2.1] at h3;rw[<- h3];exact .inl h
  .exact .inr h
 .rintro⟨h1,h2,h3,h4⟩;refine⟨?_,h1,h2,h3⟩;rw[dv,dv,cT,cT];rcases (ao h1 h2 h3).mp h4 with h | h
  .rcases (by lia:1 - au=0\/1 - au=1) with e | e<;>rw[e] at h
   .exact .inl (.inl h)
   .exact .inl (.inr h)
  .exact .inr h
def EN(hK:K<F*R)(hs:au<2)(hk:().king au=K):(p0 (dL F R cc) () au).testBit a=true↔∃d,Sn F R cs au K d a:=by
 ext a au az aA av kx K cs ay;have e:p0 (dL F R cc) () au=tQ (dL F R cc) () K 0 &&& ().sd (1 - au):=by
  unfold p0 tQ;rw[hk]
 rw[e,cR,ax,sM (by lia),Jk hK];constructor
 .rintro⟨⟨h1,h2,d,h3,h4,h5⟩,_,_,h6⟩;exact⟨d,h3,⟨h1,h2,h6⟩,h4,(pX.mp h5).1⟩
 .rintro⟨d,h3,⟨h1,h2,h6⟩,h4,h5⟩;exact⟨⟨h1,h2,d,h3,h4,pX.mpr ⟨h5,λx w=>du x⟩⟩,h1,h2,h6⟩
abbrev Ins(F R:Nat)(cs:List Nat)(au K a x:Nat):Prop:=(∃d,d<8/\a∈wl F R K d/\x∈pre a (wl F R K d))/\cs.getD x 0≠0/\¬∃d,Sn F R cs au K d x
def IS(hl:cs.length=F*R)(hv:∀i,cs.getD i 0<16)(hK:K<F*R)(hs:au<2)(hk:().king au=K)(ha:a<F*R):(qM (dL F R cc) () au a).testBit x=true↔Ins F R cs au K a x:=by
 ext a au az aA av kx K x cs ay;unfold qM Ins;rw[hk,cR,ax,Dr hK ha,fe];have e1:=congrFun (su (n:=F*R) (au:=au) (az:=az) (aA:=aA) (av:=av) (kx:=kx) (ay:=ay) hl hv) x;have e2:=EN (a:=x) hK hs hk;rw[e1];unfold uX;refine and_congr_right λw=>?_;by_cases h:∃d,Sn F R cs au K d x
 .rw[e2.mpr h];obtain⟨d,h1,h2,h3⟩:=h;rw[cy h2.2.1];exact⟨λz=>(by cases z),λz=>cG ⟨d,h1,h2,h3⟩ z.2⟩
 .have:(p0 (dL F R cc) () au).testBit x=false:=eK.mpr λz=>h (e2.mp z);rw[this,jt,cu];exact⟨λz=>⟨z,h⟩,λz=>z.1⟩
def tY(h:b<2 ^ 64):m∈oV b↔b.testBit m=true:=⟨uT,λhb=>IT.mpr ⟨⟨dF _,Ge h hb⟩,hb⟩⟩
def Qe(l:List Nat)(m:Nat):(l.foldl (wV G P c) m).testBit x=true↔m.testBit x=true\/∃a∈l,(qM G P c a≠0/\qM G P c a &&& (qM G P c a - 1)=0)/\(qM G P c a).testBit x=true:=by
 ext c x G P
 induction l generalizing m with
 | nil=>exact⟨.inl,λh=>h.elim id λ⟨_,h⟩=>nomatch h.1⟩
 | cons a l ih=>
  replace ih:=ih (wV G P c m a);ext a l m;have e:(wV G P c m a).testBit x=true↔m.testBit x=true\/(qM G P c a≠0/\qM G P c a &&& (qM G P c a - 1)=0)/\(qM G P c a).testBit x=true:=by
   unfold wV;by_cases h:qM G P c a≠0/\qM G P c a &&& (qM G P c a - 1)=0
   .rw[cC h,dv,cT];exact⟨(·.imp_right (And.intro h)),(·.imp_right And.right)⟩
   .rw[cD h];exact⟨.inl,(·.resolve_right λz=>h z.1)⟩
  rw[i6,ih,e,or_assoc];refine or_congr_right ⟨λh=>h.elim (⟨a,.head _,·⟩) λ⟨b,h⟩=>⟨b,.tail _ h.1,h.2⟩,λ⟨b,h⟩=>(dP.mp h.1).elim (λe=>.inl (e▸h.2)) λq=>.inr ⟨b,q,h.2⟩⟩
def Qd(hl:cs.length=F*R)(hv:∀i,cs.getD i 0<16)(hK:K<F*R)(hs:au<2)(hk:().king au=K)(s64:p0 (dL F R cc) () au<2 ^ 64):
  (GX (dL F R cc) () au).testBit s=true↔∃a d,Sn F R cs au K d a/\∀x,Ins F R cs au K a x↔x=s:=by
 ext s au az aA av kx K cs ay;unfold GX;rw[Qe,du];constructor
 .rintro(h | ⟨a,h1,⟨h2,h3⟩,h4⟩)
  .cases h
  .obtain⟨d,sn⟩:=(EN hK hs hk).mp ((tY s64).mp h1);obtain⟨k,hk1⟩:=(xB h2).mp h3;have:=(hk1 s).mp h4;subst this;exact⟨a,d,sn,λx=>(IS hl hv hK hs hk sn.2.1.1).symm.trans (hk1 x)⟩
 .rintro⟨a,d,sn,h⟩;have hb:∀x,(qM (dL F R cc) () au a).testBit x=true↔x=s:=λx=>(IS hl hv hK hs hk sn.2.1.1).trans (h x);have h0:qM (dL F R cc) () au a≠0:=tu.mpr ⟨s,(hb s).mpr rfl⟩;exact .inr ⟨a,(tY s64).mpr ((EN hK hs hk).mpr ⟨d,sn⟩),⟨h0,(xB h0).mpr ⟨s,hb⟩⟩,(hb s).mpr rfl⟩
end
section
variable{a b s t x:Nat}
def t6{l:List Nat}:x∈pre t l->x∈l:=by
 induction l with
 | nil=>exact id
 | cons y l ih=>exact λh=>dP.mpr ((o6.mp h).2.imp_right ih)
def Lz{l:List Nat}:x∈pre t l->x≠t:=by
 induction l with
 | nil=>exact λh=>nomatch h
 | cons y l ih=>exact λh=>(o6.mp h).2.elim (·▸(o6.mp h).1) ih
def GW{l:List Nat}:a∈l->b∈l->a=b\/a∈pre b l\/b∈pre a l:=by
 induction l with
 | nil=>exact λh=>nomatch h
 | cons y l ih=>
  intro ha hb;by_cases e1:y=a
  .by_cases e2:y=b
   .exact .inl (e1.symm.trans e2)
   .exact .inr (.inl (o6.mpr ⟨e2,.inl e1.symm⟩))
  .by_cases e2:y=b
   .exact .inr (.inr (o6.mpr ⟨e1,.inl e2.symm⟩))
   .exact(ih (gU (dQ e1) ha) (gU (dQ e2) hb)).imp_right (·.imp (λh=>o6.mpr ⟨e2,.inr h⟩) λh=>o6.mpr ⟨e1,.inr h⟩)
def A3{l:List Nat}:s∈pre a l->t∈pre s l->t∈pre a l:=by
 induction l with
 | nil=>exact λh=>nomatch h
 | cons y l ih=>exact λh1 h2=>o6.mpr ⟨(o6.mp h1).1,(o6.mp h2).2.imp_right λh=>(o6.mp h1).2.elim (λe=>cG e.symm (o6.mp h2).1) (ih · h)⟩
def MM:∀{l1:List Nat},a∉l1->a≠s->pre a (l1++s::l2)=l1++s::pre a l2
 | [],_,h=>by rw[fA,Ea,cD (dQ h),fA]
 | y::l1,h1,h2=>by
  rw[eA,Ea,cD (λe:y=a=>h1 (by rw[e];exact .head _)),MM (λz=>h1 (.tail _ z)) h2];rfl
def Qc{P:Nat->Prop}{l:List Nat}:a∈l->P a->∃b,b∈l/\P b/\(∀x∈pre b l,¬P x)/\∀x∈pre b l,x∈pre a l:=by
 induction l with
 | nil=>exact λh=>nomatch h
 | cons y l ih=>
  intro h hp;by_cases hy:P y
  .exact⟨y,.head _,hy,λx hx=>cG rfl (o6.mp hx).1,λx hx=>cG rfl (o6.mp hx).1⟩
  .have ya:y≠a:=λe=>hy (e▸hp);exact(ih (gU ya.symm h) hp).elim λb r=>⟨b,.tail _ r.1,r.2.1,λx hx=>(o6.mp hx).2.elim (·▸hy) (r.2.2.1 x),λx hx=>o6.mpr ⟨ya,(o6.mp hx).2.imp_right (r.2.2.2 x)⟩⟩
end
section
variable{s t a d au K x:Nat}{cs:List Nat}
abbrev L1(F R:Nat)(cs:List Nat)(au K t:Nat):Prop:=∀a,Lp F R cs au K a->a=t
abbrev Clr(F R:Nat)(cs:List Nat)(K d a:Nat):Prop:=∀x∈pre a (wl F R K d),uX cs x=false
abbrev Pin(F R:Nat)(cs:List Nat)(K d a s:Nat):Prop:=s∈pre a (wl F R K d)/\∀x∈pre a (wl F R K d),x≠s->uX cs x=false
abbrev On(F R K t d a:Nat):Prop:=t=a\/t∈pre a (wl F R K d)
abbrev L2(F R:Nat)(cs:List Nat)(au K s t:Nat):Prop:=∀a d,Sn F R cs au K d a->Clr F R cs K d a\/Pin F R cs K d a s->On F R K t d a
def O2(hK:K<F*R):(∀a,a≠t->¬yP F R cs (zv cs s t) (1 - au) K a)↔L1 F R cs au K t/\L2 F R cs au K s t:=by
 ext s t au K cs;have ot:zv cs s t t=true:=by unfold zv;simp
 constructor
 .intro h;refine⟨λa la=>cJ λz=>h a z ((MW hK).mpr (.inl la)),λa d sn hc=>cJ λz=>?_⟩;unfold On at z;have z1:t≠a:=λe=>z (.inl e);have z2:t∉pre a (wl F R K d):=λe=>z (.inr e);refine h a (dQ z1) ((MW hK).mpr (.inr ⟨d,sn,λx hx=>?_⟩));have xt:x≠t:=λe=>z2 (e▸hx);unfold zv;rw[cz xt,fq];rcases hc with hc | hc
  .have:=hc x hx;unfold uX at this;rw[this];rfl
  .by_cases e:x=s
   .simp [e]
   .have:=hc.2 x hx e;unfold uX at this;rw[this];rfl
 .rintro⟨h1,h2⟩ a na ha;rcases (MW hK).mp ha with la | ⟨d,sn,hc⟩
  .exact na (h1 a la)
  .have nt:t∉pre a (wl F R K d):=λe=>by have:=hc t e;rw[ot] at this;cases this
   have free:∀x∈pre a (wl F R K d),x≠s->uX cs x=false:=λx hx e=>by
    have:=hc x hx;unfold zv at this;unfold uX;simp only[fJ,fY] at this;rcases this.2 with z | z
    .exact z
    .simp [e] at z
   have on:On F R K t d a:=by
    by_cases hs:s∈pre a (wl F R K d)
    .exact h2 a d sn (.inr ⟨hs,free⟩)
    .exact h2 a d sn (.inl λx hx=>free x hx λe=>hs (e▸hx))
   rcases on with z | z
   .exact na z.symm
   .exact nt z
abbrev Ck(F R:Nat)(cs:List Nat)(au K a:Nat):Prop:=yP F R cs (uX cs) (1 - au) K a
abbrev C1(F R:Nat)(cs:List Nat)(au K t:Nat):Prop:=(∃a,Ck F R cs au K a)->∃a,(∀a',Ck F R cs au K a'↔a'=a)/\(t=a\/∃d,d<8/\a∈wl F R K d/\t∈pre a (wl F R K d))
abbrev Hd(F R:Nat)(cs:List Nat)(au K s:Nat):Prop:=∃a d,Sn F R cs au K d a/\∀x,Ins F R cs au K a x↔x=s
abbrev Al(F R K s t:Nat):Prop:=∃d,d<8/\t∈wl F R s d/\(K∈wl F R s d\/K∈wl F R s (d ^^^ 2)\/s=K)
def yX(h:Enm F R cs au a):uX cs a=true:=by unfold uX;exact cy h.2.1
def Hn(hK:K<F*R):Ck F R cs au K a↔Lp F R cs au K a\/∃d,Sn F R cs au K d a/\Clr F R cs K d a:=MW hK
def Sc(hs:au<2)(hK:K<F*R)(h:Lp F R cs au K a)(hd:d<8)(ha:a∈wl F R K d):pre a (wl F R K d)=[]:=by
 ext a d au K cs;obtain⟨⟨a1,a2,a3⟩,h⟩:=h;have z:=t7 T1.adj hK a1;unfold E8 at z;simp only[ax,cT,dc,cA] at z;have kg:a∈mo F R K om->pre a (wl F R K d)=[]:=λh=>by
  rcases z.1.1.1.1 with y | y
  .exact cG h y
  .obtain⟨d',hd',y⟩:=eu.mp y;rw[ax,cu,cu] at y;have:=(xn (cL.mp hd') hK).2.2 d hd y.1 ha;rw[<- this];exact y.2
 rcases h with⟨_,h⟩ | ⟨_,h⟩ | ⟨_,h⟩
 .have h':=(Dp a1 hK (c:=1 - au) (by lia)).mp h;rcases z.1.1.2 with y | y
  .rw[fJ,cA,cA] at y;have e:1 - (1 - au)=0\/1 - (1 - au)=1:=by lia
   rcases e with e | e<;>rw[e] at h'
   .exact cG h' y.1
   .exact cG h' y.2
  .exact kg (b9 y)
 .have h':=(r4 a1 hK).2.1.mp h;rcases z.1.1.1.2 with y | y
  .exact cG h' y
  .have:=cK.mp y d (cL.mpr hd);rw[cy ha] at this;cases this
 .exact kg ((r4 a1 hK).1.mp h)
def abc(aX:au<2)(hK:K<F*R)(ls:s<F*R)(lt:t<F*R)(os:cs.getD s 0≠0/\cs.getD s 0/8=au)(oK:cs.getD K 0≠0)(sK:s≠K)(tK:t≠K)(st:s≠t)(path:∀d,d<8->t∈wl F R s d->∀x∈pre t (wl F R s d),uX cs x=false):
  L1 F R cs au K t/\L2 F R cs au K s t↔C1 F R cs au K t/\(¬Hd F R cs au K s\/Al F R K s t):=by
 ext s t au K cs;have uniq:∀{x d d'},d<8->d'<8->x∈wl F R K d->x∈wl F R K d'->d=d':=λhd hd' h1 h2=>(xn hd hK).2.2 _ hd' h1 h2;have nsn:∀d,¬Sn F R cs au K d s:=λd h=>by have:=h.2.1.2.2;rw[os.2] at this;lia
 constructor
 .rintro⟨l1,l2⟩;refine⟨λ_=>?_,?_⟩
  .rename_i ex;obtain⟨a0,c0⟩:=ex;have cond:∀a,Ck F R cs au K a->(a=t/\Lp F R cs au K a)\/∃d,Sn F R cs au K d a/\Clr F R cs K d a/\On F R K t d a:=λa ca=>by
    rcases (Hn hK).mp ca with h | ⟨d,h1,h2⟩
    .exact .inl ⟨l1 a h,h⟩
    .exact .inr ⟨d,h1,h2,l2 a d h1 (.inl h2)⟩
   have un:∀a a',Ck F R cs au K a->Ck F R cs au K a'->a'=a:=λa a' ca ca'=>by
    rcases cond a ca with⟨e1,p1⟩ | ⟨d,s1,c1,o1⟩<;>rcases cond a' ca' with⟨e2,p2⟩ | ⟨d',s2,c2,o2⟩
    .rw[e1,e2]
    .rcases o2 with o2 | o2
     .rw[e1,o2]
     .have:=c2 t o2;rw[<- e1,yX p1.1] at this;cases this
    .rcases o1 with o1 | o1
     .rw[e2,o1]
     .have:=c1 t o1;rw[<- e2,yX p2.1] at this;cases this
    .rcases o1 with o1 | o1<;>rcases o2 with o2 | o2
     .rw[<- o1,<-o2]
     .have:=c2 t o2;rw[o1,yX s1.2.1] at this;cases this
     .have:=c1 t o1;rw[o2,yX s2.2.1] at this;cases this
     .have e:=uniq s1.1 s2.1 (t6 o1) (t6 o2);subst e;rcases GW s1.2.2.2 s2.2.2.2 with h | h | h
      .exact h.symm
      .have:=c2 a h;rw[yX s1.2.1] at this;cases this
      .have:=c1 a' h;rw[yX s2.2.1] at this;cases this
   refine⟨a0,λa'=>⟨λh=>un a0 a' c0 h,λe=>e▸c0⟩,?_⟩;rcases cond a0 c0 with⟨e1,_⟩ | ⟨d,s1,c1,o1 | o1⟩
   .exact .inl e1.symm
   .exact .inl o1
   .exact .inr ⟨d,s1.1,s1.2.2.2,o1⟩
  .by_cases hd:Hd F R cs au K s
   .right;obtain⟨a,d,sn,hi⟩:=hd;ext a d;obtain⟨⟨d',hd',am,sp⟩,_,_⟩:=(hi s).mpr rfl;have e:=uniq sn.1 hd' sn.2.2.2 am;subst e;obtain⟨b,b1,b2,b3,b4⟩:=Qc (P:=λy=>Sn F R cs au K d y) am sn;have free:∀x∈pre b (wl F R K d),x≠s->uX cs x=false:=λx hx e=>by
     unfold uX;refine cz λh0=>e ((hi x).mp ⟨⟨d,sn.1,am,b4 x hx⟩,h0,?_⟩);rintro⟨d2,s2⟩;have:=uniq s2.1 sn.1 s2.2.2.2 (t6 hx);subst this;exact b3 x hx s2
    have on:On F R K t d b:=by
     by_cases hs:s∈pre b (wl F R K d)
     .exact l2 b d b2 (.inr ⟨hs,free⟩)
     .exact l2 b d b2 (.inl λx hx=>free x hx λe=>hs (e▸hx))
    have tm:t∈wl F R K d:=by
     rcases on with h | h
     .rw[h];exact b1
     .exact t6 h
    have sm:=t6 sp;obtain⟨y1,y2⟩:=HN sn.1 hK ls;obtain⟨y3,_,y5⟩:=y2 sm;have kw:=y1.mp sm;rw[y5] at tm;rcases cS.mp tm with h | h
    .refine⟨d ^^^ 2,(vN sn.1).1,?_,.inl kw⟩;have:t∈pre K (wl F R s (d ^^^ 2)):=by rw[y3];exact iP.mpr h
     exact t6 this
    .cases h with
     | head=>exact cG rfl st
     | tail _ h=>exact⟨d,sn.1,h,.inr (.inl kw)⟩
   .exact .inl hd
 .rintro⟨c1,c2⟩;refine⟨λa la=>?_,λa d sn hc=>?_⟩
  .have ca:=(Hn hK).mpr (.inl la);obtain⟨a0,u,h⟩:=c1 ⟨a,ca⟩;have:=(u a).mp ca;subst this;rcases h with h | ⟨d,hd,h1,h2⟩
   .exact h.symm
   .rw[Sc aX hK la hd h1] at h2;cases h2
  .rcases hc with hc | hc
   .have ca:=(Hn hK).mpr (.inr ⟨d,sn,hc⟩);obtain⟨a0,u,h⟩:=c1 ⟨a,ca⟩;have:=(u a).mp ca;subst this;rcases h with h | ⟨d',hd',h1,h2⟩
    .exact .inl h
    .have:=uniq sn.1 hd' sn.2.2.2 h1;subst this;exact .inr h2
   .have hh:Hd F R cs au K s:=⟨a,d,sn,λx=>by
     constructor
     .rintro⟨⟨d',hd',h1,h2⟩,h3,_⟩;have:=uniq sn.1 hd' sn.2.2.2 h1;subst this;refine cJ λz=>?_;have:=hc.2 x h2 z;unfold uX at this;rw[cy h3] at this;cases this
     .intro e;subst e;exact⟨⟨d,sn.1,sn.2.2.2,hc.1⟩,os.1,λ⟨d',h⟩=>nsn d' h⟩⟩
    rcases c2 with z | ⟨d',hd',tm,z⟩
    .exact cG hh z
    have sm:=t6 hc.1;obtain⟨y1,y2⟩:=HN sn.1 hK ls;obtain⟨y3,_,y5⟩:=y2 sm;have kw:=y1.mp sm;have us:∀{e e':Nat},e<8->e'<8->K∈wl F R s e->K∈wl F R s e'->e=e':=λh1 h2 h3 h4=>(xn h1 ls).2.2 _ h2 h3 h4;rcases z with z | z | z
    .have e:=us hd' (vN sn.1).1 z kw;subst e;have pt:=path _ hd' tm;rcases GW tm z with h | h | h
     .exact cG h tK
     .rw[y3] at h;exact .inr (A3 hc.1 (iP.mp h))
     .have:=pt K h;unfold uX at this;rw[cy oK] at this;cases this
    .have e:=us (vN hd').1 (vN sn.1).1 z kw;have e2:d'=d:=by
      have:=cF (λy=>y ^^^ 2) e;simp only[(vN hd').2.1,(vN sn.1).2.1] at this;exact this
     subst e2;have am:=sn.2.2.2;have na:a≠s:=λe=>nsn d' (e▸sn);have nap:a∉pre s (wl F R K d'):=λh=>by
      have:=A3 h hc.1;exact Lz this rfl
     have aw:a∈wl F R s d':=by
      rw[y5] at am;rcases cS.mp am with h | h
      .exact cG h nap
      .cases h with
       | head=>exact cG rfl na
       | tail _ h=>exact h
     have pa:pre a (wl F R K d')=pre s (wl F R K d')++s::pre a (wl F R s d'):=by
      have:=MM (l2:=wl F R s d') nap na;rw[<- y5] at this;exact this
     rcases GW tm aw with h | h | h
     .exact .inl h
     .exact .inr (by rw[pa];exact cS.mpr (.inr (.tail _ h)))
     .have:=path d' hd' tm a h;rw[yX sn.2.1] at this;cases this
    .exact cG z sK
end
structure U5 (F R:Nat):Prop where
 fwd:RD F R (λs t=>E8 (decide (t=s+F)||decide (s=t+F)) (decide (t∈mo F R s om)))=true
def Va:U5 3 4:=⟨by decide +kernel⟩
def Vc:U5 7 3:=⟨by decide +kernel⟩
def T2:U5 F R:=KD (C:=λF R w=>U5 F R) Va Vc
section
variable{s t a d au az aA av kx K x:Nat}{cs:List Nat}{ay:List V}
def IU(hs:s<F*R)(ht:t<F*R)(h:t∈mo F R s om)(hd:d<8)(hm:t∈wl F R s d):pre t (wl F R s d)=[]:=by
 have z:=t7 T1.adj hs ht;unfold E8 at z;simp only[ax,cT,dc,cA] at z;rcases z.1.1.1.1 with y | y
 .exact cG h y
 .obtain⟨d',hd',y⟩:=eu.mp y;rw[ax,cu,cu] at y;have:=(xn (cL.mp hd') hs).2.2 d hd y.1 hm;rw[<- this];exact y.2
def Qt(hs:s<F*R)(ht:t<F*R)(h:t∈mo F R s tW)(hd:d<8):t∉wl F R s d:=λhm=>by
 ext s t d;have z:=t7 T1.adj hs ht;unfold E8 at z;simp only[ax,cT,dc,cA] at z;rcases z.1.1.1.2 with y | y
 .exact cG h y
 .have:=cK.mp y d (cL.mpr hd);rw[cy hm] at this;cases this
def Gk(hs:s<F*R)(ht:t<F*R)(hc:au<2)(h:t∈mo F R s (rM au)):t∈mo F R s om:=by
 have z:=t7 T1.adj hs ht;unfold E8 at z;simp only[ax,cT,dc,cA] at z;rcases z.1.1.2 with y | y
 .rw[fJ,cA,cA] at y;rcases (u2 (by assumption:au<2)) with e | e<;>rw[e] at h
  .exact cG h y.1
  .exact cG h y.2
 .exact b9 y
def P8(hs:s<F*R):s∉mo F R s om/\s∉mo F R s tW:=by
 have z:=t7 T1.adj hs hs;simp only[ax,dc,cA] at z;exact⟨z.1.2,z.2⟩
def yI(g:wS F R cs)(h0:cs.getD s 0≠0)(h:t∈oj F R cs s):xT F R (uX cs) (cs.getD s 0%8) (cs.getD s 0/8) s t/\(cs.getD s 0%8=1->cs.getD t 0≠0)\/cs.getD s 0%8=1/\t=sY F (cs.getD s 0/8) s/\cs.getD t 0=0:=by
 ext s t cs;unfold oj q7 at h;have pk:=Mj g h0;split at h
 .rename_i e1;have:=(eg.mp h).1;exact .inl ⟨(vk pk).mp this,λz=>cG z e1⟩
 .rename_i e1;rcases cS.mp h with h | h
  .have h2:=(eg.mp h).2;unfold vd at h2;rw[ax,cu] at h2;exact .inl ⟨(vk pk).mp (eg.mp h).1,λ_=>h2.1⟩
  .split at h
   .rename_i e2;rw[dT] at h;subst h;exact .inr ⟨cJ e1,rfl,e2⟩
   .cases h
def K5(hs:s<F*R)(ht:t<F*R)(hc:au<2)(hp:F<=s)(h:t=sY F au s):t∈mo F R s om:=by
 ext s t au;have z:=t7 T2.fwd hs ht;unfold E8 at z;simp only[cT,dc,fJ,cA,cu] at z;rcases z with z | z
 .exfalso;unfold sY at h;rcases (u2 (by assumption:au<2)) with e | e
  .subst e;exact z.1 (by lia)
  .subst e;exact z.2 (by lia)
 .exact z
def Ot(g:wS F R cs)(hs:s<F*R)(h0:cs.getD s 0≠0)(h6:cs.getD s 0%8≠6)(h:t∈oj F R cs s)(hd:d<8)(hm:t∈wl F R s d)(hx:x∈pre t (wl F R s d)):uX cs x=false:=by
 ext s t d x cs;have ht:=qJ g.cl g.pw hs h;have c2:=g.cl.sd s;rcases yI g h0 h with⟨⟨h1,h2⟩ | ⟨h1,h2⟩ | ⟨h1,h2⟩ | ⟨d',hd',h1,h2⟩,_⟩ | ⟨h1,h2,_⟩
 .rw[IU hs ht (Gk hs ht c2 h2) hd hm] at hx;cases hx
 .exact cG hm (Qt hs ht h2 hd)
 .exact cG h1 h6
 .obtain⟨m1,m2⟩:=pX.mp h2;have:=(xn hd' hs).2.2 d hd m1 hm;subst this;exact m2 x hx
 .have pw:=g.pw s hs h1;rw[IU hs ht (K5 hs ht c2 pw.1 h2) hd hm] at hx;cases hx
def KL(g:wS F R cs)(hs:au<2)(hK:K<F*R)(hk:().king au=K)(ex:∃a,Ck F R cs au K a):(uc (dL F R cc) ()).testBit t=true↔∃a,(∀a',Ck F R cs au K a'↔a'=a)/\(t=a\/∃d,d<8/\a∈wl F R K d/\t∈pre a (wl F R K d)):=by
 ext t au az aA av kx K cs ay;unfold uc I1;have aX:().au=au:=rfl;rw[aX,hk];have cb:=λa=>G1 (a:=a) (az:=az) (aA:=aA) (av:=av) (kx:=kx) (ay:=ay) g.cl.l g.cl.v hK hs hk;generalize wU (dL F R cc) () au=gv at cb;have g0:gv≠0:=by
  obtain⟨a,ha⟩:=ex;exact tu.mpr ⟨a,(cb a).mpr ha⟩
 by_cases h1:gv &&& (gv - 1)=0
 .obtain⟨k,hk1⟩:=(xB g0).mp h1;have lk:=M4 hk1;have kn:k<F*R:=((cb k).mp ((hk1 k).mpr rfl)).1;rw[cD (by rintro(z | z);exact g0 z;exact z h1),lk,dv,cT,Dr hK kn,hk1];constructor
  .intro h;exact⟨k,λa'=>(cb a').symm.trans (hk1 a'),h⟩
  .rintro⟨a,u,h⟩;have:k=a:=(u k).mp ((cb k).mp ((hk1 k).mpr rfl));subst this;exact h
 .rw[cC (.inr h1),du];constructor
  .intro h;cases h
  .rintro⟨a,u,_⟩;exact cG ((xB g0).mpr ⟨a,λi=>(cb i).trans (u i)⟩) h1
def Th(hz:F*R<=21)(hs:au<2):p0 (dL F R cc) () au<2 ^ 64:=by
 refine ae dD ?_;have e:().sd (1 - au)=rC (λs=>decide (cs.getD s 0≠0)&&decide (cs.getD s 0/8=1 - au)) (F*R):=DI (by lia);rw[e];exact cU (vL _ _) (fK ⋯ (by lia))
def yB(g:wS F R cs)(aX:au<2)(hk:∀i,cs.getD i 0=au*8+6↔i=K)(hK:K<F*R)(ls:s<F*R)(own:cs.getD s 0≠0/\cs.getD s 0/8=au)(sK:s≠K)(h:t∈oj F R cs s):
  sZ F R cs s t=true↔(r5 (dL F R cc) () au=true->(uc (dL F R cc) ()).testBit t=true)/\((B9 (dL F R cc) ()).testBit s=false\/OY (dL F R cc) s t K=true):=by
 ext s t au az aA av kx K cs ay;have lt:=qJ g.cl g.pw ls h;have ot:=ts h;rw[own.2] at ot;have st:s≠t:=λe=>by rw[<- e] at ot;rcases ot with z | z;exact own.1 z;exact z own.2
 have kv:=(hk K).mpr rfl;have tK:t≠K:=λe=>by rw[e,kv] at ot;rcases ot with z | z<;>lia
 have h6:cs.getD s 0%8≠6:=λe=>sK ((hk s).mp (by have:=own.2;lia));have kq:=zd (au:=au) (az:=az) (aA:=aA) (av:=av) (kx:=kx) (ay:=ay) g aX hk hK;have ka:rV K s t=K:=cD sK;rw[Dj g ls lt st own aX ot hk hK,ka,O2 hK,abc aX hK ls lt own (by lia) sK tK st (λd hd hm x hx=>Ot g ls own.1 h6 h hd hm hx)];have c1:C1 F R cs au K t↔(r5 (dL F R cc) () au=true->(uc (dL F R cc) ()).testBit t=true):=by
  have ic:r5 (dL F R cc) () au=true↔∃a,Ck F R cs au K a:=by
   unfold r5;rw[kq,tz hK (by lia),su g.cl.l g.cl.v];rfl
  rw[ic];unfold C1;constructor
  .intro z ex;exact(KL g aX hK kq ex).mpr (z ex)
  .intro z ex;exact(KL g aX hK kq ex).mp (z ex)
 have c2:(¬Hd F R cs au K s)↔(B9 (dL F R cc) ()).testBit s=false:=by
  have hb:=Qd (s:=s) (az:=az) (aA:=aA) (av:=av) (kx:=kx) (ay:=ay) g.cl.l g.cl.v hK aX kq (Th g.cl.bd.sz aX);have e:(B9 (dL F R cc) ()).testBit s=true↔Hd F R cs au K s:=by
   unfold B9;have aY:().au=au:=rfl;rw[aY,cR,ax,sM aX,hb];exact⟨λz=>z.1,λz=>⟨z,ls,own.1,own.2⟩⟩
  rw[<- e,iO]
 rw[c1,c2,RS ls];rfl
def F3(ha:a<F*R)(h:∀x,x≠t->p x=q x)(hh:xT F R p k c a t):xT F R q k c a t:=by
 ext t a p q k c;rcases hh with h1 | h1 | h1 | ⟨d,h1,h2,h3⟩
 .exact .inl h1
 .exact .inr (.inl h1)
 .exact .inr (.inr (.inl h1))
 .obtain⟨m1,m2⟩:=pX.mp h3;exact .inr (.inr (.inr ⟨d,h1,h2,pX.mpr ⟨m1,λx hx=>(h x (Lz hx))▸m2 x hx⟩⟩))
def N8(hc:c<2)(ht:t<F*R):¬xT F R p k c t t:=by
 ext t p k c;have so:=P8 ht;rintro(⟨_,h⟩ | ⟨_,h⟩ | ⟨_,h⟩ | ⟨d,h1,h2,h3⟩)
 .exact so.1 (Gk ht ht hc h)
 .exact so.2 h
 .exact so.1 h
 .exact(xn (x:=t) h1 ht).2.1 (pX.mp h3).1
def BD(g:wS F R cs)(aX:au<2)(hk:∀i,cs.getD i 0=au*8+6↔i=K)(hK:K<F*R)(lt:t<F*R)(ot:cs.getD t 0=0\/cs.getD t 0/8≠au):
  sZ F R cs K t=true↔uD (dL F R cc) () t (1 - au) (().all ^^^ 1 <<< K)=false:=by
 ext t au az aA av kx K cs ay;have kv:=(hk K).mpr rfl;have own:cs.getD K 0≠0/\cs.getD K 0/8=au:=⟨by lia,by lia⟩
 have st:K≠t:=λe=>by rw[<- e] at ot;rcases ot with z | z;exact own.1 z;exact z own.2
 have ka:rV K K t=t:=cC rfl;rw[Dj g hK lt st own aX ot hk hK,ka];have e1:∀x,x≠t->zv cs K t x=(().all ^^^ 1 <<< K).testBit x:=λx hx=>by
  ext x;have e:=congrFun (su (n:=F*R) (au:=au) (az:=az) (aA:=aA) (av:=av) (kx:=kx) (ay:=ay) g.cl.l g.cl.v) x;rw[fe,e,pY,dj];unfold zv uX;rw[cz hx,fq];by_cases h:x=K
  .subst h;rw[cy own.1,cy (p:=x=x) rfl];rfl
  .rw[cz h,cz (p:=K=x) (λz=>h z.symm)];simp
 rw[<- iO,tz lt (by lia)];constructor
 .rintro h ⟨a,h1,h2,h3,h4⟩;have at':a≠t:=λe=>by rw[e] at h4;exact N8 (by lia) lt h4
  exact h a at' ⟨h1,h2,h3,F3 h1 (λx hx=>(e1 x hx).symm) h4⟩
 .rintro h a _ ⟨h1,h2,h3,h4⟩;exact h ⟨a,h1,h2,h3,F3 h1 e1 h4⟩
end
abbrev KJ(F c:Nat):Int:=if c=0 then(F:Int) else -(F:Int)
abbrev w8(F c wg s g:Nat):Bool:=if wg=0 then decide (s%F≠F - 1)&&decide ((g:Int)=s+KJ F c+1) else decide (s%F≠0)&&decide ((g:Int)=s+KJ F c - 1)
structure Tq (F R:Nat):Prop where
 cap:RD F R (λs g=>(cn 2).all λc=>HD (decide (g∈mo F R s (rM c))) (w8 F c 0 s g||w8 F c 1 s g))=true
def Up:Tq 3 4:=⟨by decide +kernel⟩
def Uu:Tq 7 3:=⟨by decide +kernel⟩
def T3:Tq F R:=KD (C:=λF R w=>Tq F R) Up Uu
def W2:((cn 21).all λo=>(cn 21).all λt=>(cn 4).all λs=>(cn 4).all λf=>decide (qT (oO o t s f)=o/\qv (oO o t s f)=t/\uP (oO o t s f)=s))=true:=by decide +kernel
def Aq(ho:o<21)(ht:t<21)(hs:s<4)(hf:f<4):qT (oO o t s f)=o/\qv (oO o t s f)=t/\uP (oO o t s f)=s:=
 b9 (cK.mp (cK.mp (cK.mp (cK.mp W2 o (cL.mpr ho)) t (cL.mpr ht)) s (cL.mpr hs)) f (cL.mpr hf))
def qf(a b i:Nat):(oh a b).testBit i=(a.testBit i&& !b.testBit i):=by
 ext a b i;have e:oh a b=a ^^^ (a &&& b):=by
  unfold oh;have x:=Ib a (a &&& b);have:a &&& (a &&& b)=a &&& b:=by rw[<- iR,j3]
  rw[this] at x;have:=Kn a b;lia
 rw[e,fe,cR];cases a.testBit i<;>cases b.testBit i<;>rfl
section
variable{s t a d g au az aA av kx K x c n st tg m:Nat}{cs:List Nat}{ay:List V}
def uo:(dL F R cc).av.testBit x=decide (x<F*R):=by
 unfold o7.av;have:(dL F R cc).size=F*R:=rfl;rw[this,pY,ji]
def G5(hf:f<F):((dL F R cc).fm.getD f 0).testBit x=(decide (x<F*R)&&decide (x%F=f)):=by
 have e:(dL F R cc).fm.getD f 0=rI ((cn (F*R)).filter λs=>s%F == f):=o0 hf;rw[e,py,da];simp only[cu,eg,cL,beq_iff_eq,ax]
def K4:fwd (dL F R cc) c=KJ F c:=rfl
abbrev Pn(F R:Nat)(cs:List Nat)(c s:Nat):Prop:=s<F*R/\cs.getD s 0≠0/\cs.getD s 0/8=c/\cs.getD s 0%8=1
def Bz(hc:c<2):(().sd c &&& ().kd 1).testBit s=true↔Pn F R cs c s:=by
 rw[cR,ax,sM hc,rh ⋯];unfold Pn;exact⟨λ⟨⟨h1,h2,h3⟩,_,_,h4⟩=>⟨h1,h2,h3,h4⟩,λ⟨h1,h2,h3,h4⟩=>⟨⟨h1,h2,h3⟩,h1,h2,h4⟩⟩
def Jd(hF:1<=F)(hl:cs.length=F*R)(hv:∀i,cs.getD i 0<16)(hc:c<2):(vg (dL F R cc) () c).testBit g=true↔g<F*R/\cs.getD g 0=0/\∃s,Pn F R cs c s/\(g:Int)=s+KJ F c:=by
 ext g au az aA av kx c cs ay;unfold vg PB;have al:=congrFun (su (n:=F*R) (au:=au) (az:=az) (aA:=aA) (av:=av) (kx:=kx) (ay:=ay) hl hv) g;rw[cR,ax,qf,uo,al];unfold uX;have fl:(dL F R cc).files=F:=rfl;rw[fl];simp only[ax,cu,dc,cA,lX];rcases (u2 (by assumption:c<2)) with e | e<;>subst e
 .rw[cC rfl,cR,ax,eI,ax,cu,Bz ⋯];unfold KJ;rw[cC rfl];constructor
  .rintro⟨⟨⟨h1,h2⟩,_⟩,h3,h4⟩;exact⟨h3,h4,_,h2,by lia⟩
  .rintro⟨h3,h4,s,h2,h5⟩;ext s;have:s=g - F:=by lia
   subst this;exact⟨⟨⟨by lia,h2⟩,by rw[uo];exact cy h3⟩,h3,h4⟩
 .rw[cD ⋯,fv,Bz ⋯];unfold KJ;rw[cD ⋯];constructor
  .rintro⟨h2,h3,h4⟩;exact⟨h3,h4,_,h2,by lia⟩
  .rintro⟨h3,h4,s,h2,h5⟩;have:s=F+g:=by lia
   subst this;exact⟨h2,h3,h4⟩
def J6(hF:2<=F)(hc:au<2)(hw:c<2):(tG (dL F R cc) () tg c).testBit g=true↔tg.testBit g=true/\(g<F*R/\cs.getD g 0≠0/\cs.getD g 0/8=1 - au)/\∃s,Pn F R cs au s/\w8 F au c s g=true:=by
 ext g au az aA av kx c tg cs ay;unfold tG;have aX:().au=au:=rfl;have fl:(dL F R cc).files=F:=rfl;rw[aX,cR,cR,ax,ax,sM (by lia)];have key:g<F*R->((Wi (dL F R cc) (().sd au &&& ().kd 1) au c).testBit g=true↔∃s,Pn F R cs au s/\w8 F au c s g=true):=λhg=>by
  unfold Wi PB w8 KJ;rw[fl];rcases (u2 (by assumption:c<2)) with e | e<;>subst e
  .simp only[↓reduceIte];rcases (u2 (by assumption:au<2)) with e | e<;>subst e
   .simp only[↓reduceIte];rw[eI,cR,eI,qf,G5 (by lia),uo];simp only[ax,cu,dc,fY,cA,Bz (show 0<2 by decide)];constructor
    .rintro⟨h1,⟨h2,h3,h4⟩,h5⟩;exact⟨_,h3,by rcases h4 with z | z;exact cG h3.1 z;exact z,by lia⟩
    .rintro⟨s,h3,h4,h6⟩;have:s=g - 1 - F:=by lia
     subst this;exact⟨by lia,⟨by lia,h3,.inr h4⟩,by lia⟩
   .simp only[iZ,↓reduceIte];rw[eI,fv,qf,G5 (by lia)];simp only[ax,cu,dc,fY,cA,Bz (show 1<2 by decide)];constructor
    .rintro⟨h1,h3,h4⟩;exact⟨_,h3,by rcases h4 with z | z;exact cG h3.1 z;exact z,by lia⟩
    .rintro⟨s,h3,h4,h6⟩;have hs1:s≠F - 1:=λe=>h4 (by rw[e];exact hU (by lia));have:s=F+(g - 1):=by lia
     subst this;exact⟨by lia,h3,.inr h4⟩
  .simp only[iZ,↓reduceIte];rcases (u2 (by assumption:au<2)) with e | e<;>subst e
   .simp only[↓reduceIte];rw[fv,cR,eI,qf,G5 (by lia),uo];simp only[ax,cu,dc,fY,cA,Bz (show 0<2 by decide)];constructor
    .rintro⟨⟨h2,h3,h4⟩,h5⟩;exact⟨_,h3,by rcases h4 with z | z;exact cG h3.1 z;exact z,by lia⟩
    .rintro⟨s,h3,h4,h6⟩;have es:s=1+g - F:=by lia
     refine⟨⟨by lia,es▸h3,.inr (es▸h4)⟩,?_⟩;refine cJ λz=>h4 ?_;have e:s+F=F*R:=by lia
     have:=cF (λy=>y%F) e;simp only[lH,gW] at this;exact this
   .simp only[iZ,↓reduceIte];rw[fv,fv,qf,G5 (by lia)];simp only[ax,cu,dc,fY,cA,Bz (show 1<2 by decide)];constructor
    .rintro⟨h3,h4⟩;exact⟨_,h3,by rcases h4 with z | z;exact cG h3.1 z;exact z,by lia⟩
    .rintro⟨s,h3,h4,h6⟩;have:s=F+(1+g):=by lia
     subst this;exact⟨h3,.inr h4⟩
 constructor
 .rintro⟨h1,h2,h3⟩;exact⟨h2,h3,(key h3.1).mp h1⟩
 .rintro⟨h2,h3,h1⟩;exact⟨(key h3.1).mpr h1,h2,h3⟩
end
section
variable{s t a d g au az aA av kx K x c n st tg m k:Nat}{cs:List Nat}{ay:List V}
def yp:x &&& 1 <<< g≠0↔x.testBit g=true:=by
 rw[tu];constructor
 .rintro⟨i,h⟩;rw[cR,pY,dj,ax,cu] at h;rw[h.2];exact h.1
 .intro h;exact⟨g,by rw[cR,pY,dj,h,cy (p:=g=g) rfl];rfl⟩
def Ng(hl:cs.length=F*R)(hv:∀i,cs.getD i 0<16)(hs:s<F*R)(hk:2<=k/\k<=6):(sP (dL F R cc) c k s ().all).testBit t=true↔xT F R (uX cs) k c s t:=by
 ext s t au az aA av kx c k cs ay;have al:=su (n:=F*R) (au:=au) (az:=az) (aA:=aA) (av:=av) (kx:=kx) (ay:=ay) hl hv;unfold sP uj xT;rcases Zb hk with h | h | h | h | h<;>subst h
 .simp only[h8,↓reduceIte,Fa hs,py,cu];constructor
  .intro h;exact .inr (.inl ⟨trivial,h⟩)
  .rintro(⟨h,_⟩ | ⟨_,h⟩ | ⟨h,_⟩ | ⟨d,_,h,_⟩)
   .cases h
   .exact h
   .cases h
   .split at h<;>simp at h
 .simp only[h8,↓reduceIte,Jm hs,py,cu];constructor
  .intro h;exact .inr (.inr (.inl ⟨trivial,h⟩))
  .rintro(⟨h,_⟩ | ⟨h,_⟩ | ⟨_,h⟩ | ⟨d,_,h,_⟩)
   .cases h
   .cases h
   .exact h
   .split at h<;>simp at h
 .simp only[h8,↓reduceIte,D3 hs,al];constructor
  .rintro⟨d,h1,h2,h3⟩;exact .inr (.inr (.inr ⟨d,h2,by rw[cD (by lia)];simp,h3⟩))
  .rintro(⟨h,_⟩ | ⟨h,_⟩ | ⟨h,_⟩ | ⟨d,h1,h,h2⟩)
   .cases h
   .cases h
   .cases h
   .refine⟨d,?_,h1,h2⟩;by_cases e:d<4
    .rw[cC e] at h;simp at h
    .lia
 .simp only[h8,↓reduceIte,EY hs,al];constructor
  .rintro⟨d,h1,h3⟩;exact .inr (.inr (.inr ⟨d,by lia,by rw[cC h1];simp,h3⟩))
  .rintro(⟨h,_⟩ | ⟨h,_⟩ | ⟨h,_⟩ | ⟨d,h1,h,h2⟩)
   .cases h
   .cases h
   .cases h
   .refine⟨d,?_,h2⟩;by_cases e:d<4
    .exact e
    .rw[cD e] at h;simp at h
 .simp only[h8,↓reduceIte,dv,cT,EY hs,D3 hs,al];constructor
  .rintro(⟨d,h1,h3⟩ | ⟨d,h1,h2,h3⟩)
   .exact .inr (.inr (.inr ⟨d,by lia,by split<;>simp,h3⟩))
   .exact .inr (.inr (.inr ⟨d,h2,by split<;>simp,h3⟩))
  .rintro(⟨h,_⟩ | ⟨h,_⟩ | ⟨h,_⟩ | ⟨d,h1,h,h2⟩)
   .cases h
   .cases h
   .cases h
   .by_cases e:d<4
    .exact .inl ⟨d,e,h2⟩
    .exact .inr ⟨d,by lia,h1,h2⟩
abbrev Oh(F R:Nat)(cs:List Nat)(au k s:Nat):Prop:=s<F*R/\cs.getD s 0≠0/\cs.getD s 0/8=au/\cs.getD s 0%8=k
def Mn(hz:F*R<=21)(hc:au<2)(hk:k<7):s∈oV (().sd au &&& ().kd k)↔Oh F R cs au k s:=by
 have e:().sd au=rC (λs=>decide (cs.getD s 0≠0)&&decide (cs.getD s 0/8=au)) (F*R):=DI hc;have l:().sd au &&& ().kd k<2 ^ 64:=by
  refine ae dE ?_;rw[e];exact cU (vL _ _) (fK ⋯ (by lia))
 rw[tY l,cR,ax,sM hc,rh hk];unfold Oh;exact⟨λ⟨⟨h1,h2,h3⟩,_,_,h4⟩=>⟨h1,h2,h3,h4⟩,λ⟨h1,h2,h3,h4⟩=>⟨⟨h1,h2,h3⟩,h1,h2,h4⟩⟩
def xJ(hz:F*R<=21)(hl:cs.length=F*R)(hv:∀i,cs.getD i 0<16)(hc:au<2)(hk:2<=k/\k<=6)(ht:tg<2 ^ 64):m∈tS (dL F R cc) () k tg↔∃s t,Oh F R cs au k s/\xT F R (uX cs) k au s t/\tg.testBit t=true/\m=oO s t 0 0:=by
 ext au az aA av kx tg m k cs ay;unfold tS wr Et;have aX:().au=au:=rfl;rw[aX,dN];constructor
 .rintro⟨s,h1,h2⟩;ext s;obtain⟨t,h3,rfl⟩:=d7.mp h2;have os:=(Mn hz hc (by lia)).mp h1;have h4:=uT h3;rw[cR,ax,Ng hl hv os.1 hk] at h4;exact⟨s,t,os,h4.1,h4.2,rfl⟩
 .rintro⟨s,t,os,h1,h2,rfl⟩;refine⟨s,(Mn hz hc (by lia)).mpr os,d7.mpr ⟨t,?_,rfl⟩⟩;rw[tY (ae dD ht),cR,ax,Ng hl hv os.1 hk];exact⟨h1,h2⟩
def FZ(h:m∈tN og to st cap):∃f,f<4/\m=oO og to 1 f:=by
 ext m og to st cap;unfold tN at h;rcases cS.mp h with h | h
 .split at h
  .rw[dT] at h;exact⟨3,by decide,h⟩
  .cases h
 .split at h
  .simp only[dP,fU,or_false] at h;rcases h with h | h | h
   .exact⟨2,by decide,h⟩
   .exact⟨1,by decide,h⟩
   .exact⟨0,by decide,h⟩
  .cases h
def Go(h:E3 st cap=true):oO og to 1 2∈tN og to st cap:=by
 unfold tN;rw[cC h];exact cS.mpr (.inr (.head _))
def N6(hc:au<2)(hF:1<=F)(p:Pn F R cs au s)(pw:F<=s/\s+F<F*R)(h0:cs.getD g 0=0)(e:(g:Int)=s+KJ F au):g∈oj F R cs s:=by
 ext s g au cs;have ea:g=sY F (cs.getD s 0/8) s:=by
  rw[p.2.2.1];unfold sY;unfold KJ at e;rcases (u2 (by assumption:au<2)) with h | h<;>subst h
  .rw[cC rfl] at e;lia
  .rw[cD ⋯] at e;lia
 unfold oj;rw[cD (λz=>z p.2.2.2),<-ea,cC h0];exact cS.mpr (.inr (.head _))
def Q3(hc:au<2)(hw:c<2)(hg:g<F*R)(p:Pn F R cs au s)(e1:cs.getD g 0≠0/\cs.getD g 0/8=1 - au)(e:w8 F au c s g=true):g∈oj F R cs s:=by
 ext s g au c cs;have z:=cK.mp (t7 T3.cap p.1 hg) au (cL.mpr hc);unfold HD at z;have z:=cH z;have st:g∈mo F R s (rM au):=by
  refine b9 (z.trans ?_);rcases (u2 (by assumption:c<2)) with h | h<;>subst h
  .rw[e];rfl
  .rw[e,Bool.or_true]
 unfold oj;rw[cD (λz=>z p.2.2.2)];refine cS.mpr (.inl (eg.mpr ⟨?_,?_⟩))
 .unfold q7;rw[p.2.2.2,p.2.2.1,vk ⋯];exact .inl ⟨rfl,st⟩
 .unfold vd;rw[p.2.2.1,ax,cu,cu];exact⟨e1.1,by lia⟩
def AP(g0:wS F R cs)(hc:au<2)(p:Pn F R cs au s)(h:t∈oj F R cs s):(cs.getD t 0=0/\(t:Int)=s+KJ F au)\/(cs.getD t 0≠0/\cs.getD t 0/8=1 - au/\∃wg,wg<2/\w8 F au wg s t=true):=by
 ext s t au cs;have ht:=qJ g0.cl g0.pw p.1 h;have ot:=ts h;have vt:=g0.cl.v t;rw[p.2.2.1] at ot;rcases yI g0 p.2.1 h with⟨hq,h2⟩ | ⟨_,h2,h3⟩
 .right;have n0:=h2 p.2.2.2;have st:t∈mo F R s (rM au):=by
   rw[p.2.2.2,p.2.2.1] at hq;rcases hq with⟨_,h⟩ | ⟨h,_⟩ | ⟨h,_⟩ | ⟨d,_,h,_⟩
   .exact h
   .cases h
   .cases h
   .split at h<;>lia
  have z:=cK.mp (t7 T3.cap p.1 ht) au (cL.mpr hc);unfold HD at z;have z:=cH z;rw[cy st] at z;refine⟨n0,?_,?_⟩
  .rcases ot with h | h
   .exact cG h n0
   .exact L5 (by assumption) (by assumption) h
  .rcases (cT _ _).mp z.symm with h | h
   .exact⟨0,by decide,h⟩
   .exact⟨1,by decide,h⟩
 .left;refine⟨h3,?_⟩;have pw:=g0.pw s p.1 p.2.2.2;rw[p.2.2.1] at h2;unfold sY at h2;unfold KJ;rcases (u2 (by assumption:au<2)) with h | h<;>subst h
  .rw[cC rfl];lia
  .rw[cD ⋯];lia
def E0(hw:c<2)(h:w8 F au c s g=true):((g:Int) - wB (dL F R cc) au c).toNat=s:=by
 ext s g au c;unfold w8 at h;unfold wB;rw[K4];rcases (u2 (by assumption:c<2)) with e | e<;>subst e
 .rw[cC rfl,ax,cu,cu] at h;lia
 .rw[cD ⋯,ax,cu,cu] at h;lia
def MY(g0:wS F R cs)(hc:au<2)(h:m∈rX (dL F R cc) () st tg):∃s t,Oh F R cs au 1 s/\t∈oj F R cs s/\tg.testBit t=true/\qT m=s/\qv m=t/\(uP m=0\/uP m=1):=by
 ext au az aA av kx st tg m cs ay;have hF:=g0.cl.bd.f;have hz:=g0.cl.bd.sz;have ob:=λg=>Jd (g:=g) (az:=az) (aA:=aA) (av:=av) (kx:=kx) (ay:=ay) (au:=au) (by lia:1<=F) g0.cl.l g0.cl.v hc;have pushOk:∀g,(pL (dL F R cc) () tg).testBit g=true->∃s,Oh F R cs au 1 s/\g∈oj F R cs s/\g<F*R/\tg.testBit g=true/\((g:Int) - fwd (dL F R cc) au).toNat=s:=λg hg=>by
  ext g;unfold pL at hg;rw[cR,ax] at hg;obtain⟨h1,h2,s,p,e⟩:=(ob g).mp hg.1;exact⟨s,p,N6 hc (by lia) p (g0.pw s p.1 p.2.2.2) h2 e,h1,hg.2,by rw[K4];lia⟩
 unfold rX at h;rcases cS.mp h with h | h
 .rcases cS.mp h with h | h
  .split at h
   .unfold yf at h;obtain⟨g,h1,rfl⟩:=d7.mp h;have b:=uT h1;rw[qf,ax] at b;obtain⟨s,p,h2,h3,h4,h5⟩:=pushOk g b.1;have aX:().au=au:=rfl;rw[aX,h5];obtain⟨q1,q2,q3⟩:=Aq (o:=s) (t:=g) (s:=0) (f:=0) (by have:=p.1;lia) (by lia) ⋯ ⋯;exact⟨s,g,p,h2,h4,q1,q2,.inl q3⟩
   .cases h
  .unfold wQ AX at h;obtain⟨g,h1,h2⟩:=dN.mp h;ext g;have b:=uT h1;rw[cR,ax] at b;obtain⟨s,p,h3,h4,h5,h6⟩:=pushOk g b.1;ext s;have aX:().au=au:=rfl;rw[aX,h6] at h2;obtain⟨f,hf,rfl⟩:=FZ h2;obtain⟨q1,q2,q3⟩:=Aq (o:=s) (t:=g) (s:=1) (f:=f) (by have:=p.1;lia) (by lia) ⋯ hf;exact⟨s,g,p,h3,h5,q1,q2,.inr q3⟩
 .split at h
  .unfold Lx HB at h;obtain⟨wg,hw,h⟩:=dN.mp h;have hw2:wg<2:=by
    simp only[dP,fU,or_false] at hw;lia
   obtain⟨g,h1,h2⟩:=dN.mp h;obtain⟨b1,b2,s,p,b3⟩:=(J6 (by lia) hc hw2).mp (uT h1);have gg:=Q3 hc hw2 b2.1 p b2.2 b3;have aX:().au=au:=rfl;unfold EJ at h2;rw[aX,E0 hw2 b3] at h2;split at h2
   .obtain⟨f,hf,rfl⟩:=FZ h2;obtain⟨q1,q2,q3⟩:=Aq (o:=s) (t:=g) (s:=1) (f:=f) (by have:=p.1;lia) (by have:=b2.1;lia) ⋯ hf;exact⟨s,g,p,gg,b1,q1,q2,.inr q3⟩
   .rw[dT] at h2;subst h2;obtain⟨q1,q2,q3⟩:=Aq (o:=s) (t:=g) (s:=0) (f:=0) (by have:=p.1;lia) (by have:=b2.1;lia) ⋯ ⋯;exact⟨s,g,p,gg,b1,q1,q2,.inl q3⟩
  .cases h
def AG(g0:wS F R cs)(hc:au<2)(p:Oh F R cs au 1 s)(ht:tg.testBit t=true)(hst:st=3\/st=0/\cs.getD t 0≠0\/st=1/\cs.getD t 0=0)(h:t∈oj F R cs s):
  ∃m,m∈rX (dL F R cc) () st tg/\qT m=s/\qv m=t/\uP m≠3:=by
 ext s t au az aA av kx st tg cs ay;have hF:=g0.cl.bd.f;have hz:=g0.cl.bd.sz;have aX:().au=au:=rfl;have lt:=qJ g0.cl g0.pw p.1 h;have ls:=p.1;have q0:=Aq (o:=s) (t:=t) (s:=0) (f:=0) (by lia) (by lia) ⋯ ⋯;have q1:=Aq (o:=s) (t:=t) (s:=1) (f:=2) (by lia) (by lia) ⋯ ⋯;have l64:(2:Nat) ^ 21<2 ^ 64:=by decide
 unfold rX;rcases AP g0 hc p h with⟨h0,e⟩ | ⟨n0,n1,wg,hw,e⟩
 .have on:(vg (dL F R cc) () au).testBit t=true:=(Jd (by lia) g0.cl.l g0.cl.v hc).mpr ⟨lt,h0,s,p,e⟩;have ol:vg (dL F R cc) () au<2 ^ 64:=by
   unfold vg;refine ae dD (ae (rz _ _) ?_);unfold o7.av;have:(dL F R cc).size=F*R:=rfl;rw[this,pY];have:=fK (a:=2) ⋯ (show F*R<64 by lia);lia
  have pg:(pL (dL F R cc) () tg).testBit t=true:=by
   unfold pL;rw[aX,cR,on,ht];rfl
  have pgl:pL (dL F R cc) () tg<2 ^ 64:=by
   unfold pL;rw[aX];exact ae dE ol
  have es:((t:Int) - fwd (dL F R cc) au).toNat=s:=by rw[K4];lia
  have s13:st≠0:=by rcases hst with h | h | h<;>lia
  by_cases lb:(pA (dL F R cc) au).testBit t=true
  .refine⟨oO s t 1 2,cS.mpr (.inl (cS.mpr (.inr ?_))),q1.1,q1.2.1,by rw[q1.2.2];decide⟩;unfold wQ AX;rw[aX];refine dN.mpr ⟨t,?_,?_⟩
   .rw[tY (ae dE pgl),cR,pg,lb];rfl
   .rw[es];refine Go ?_;unfold E3;rcases hst with h | h | h
    .rw[h];rfl
    .exact cG h0 h.2
    .rw[h.1];rfl
  .refine⟨oO s t 0 0,cS.mpr (.inl (cS.mpr (.inl ?_))),q0.1,q0.2.1,by rw[q0.2.2];decide⟩;rw[cC s13];unfold yf;rw[aX];refine d7.mpr ⟨t,?_,by rw[es]⟩;rw[tY (ae (rz _ _) pgl),qf,pg,eQ,dc];exact eK.mpr lb
 .have s03:st≠1:=by
   rcases hst with h | h | h
   .lia
   .lia
   .exact cG h.2 n0
  have cg:(tG (dL F R cc) () tg wg).testBit t=true:=(J6 (by lia) hc hw).mpr ⟨ht,⟨lt,n0,n1⟩,s,p,e⟩;have cl:tG (dL F R cc) () tg wg<2 ^ 64:=by
   unfold tG;refine ae dD (ae dD ?_);rw[aX];have e:().sd (1 - au)=rC (λs=>decide (cs.getD s 0≠0)&&decide (cs.getD s 0/8=1 - au)) (F*R):=DI (by lia);rw[e];exact cU (vL _ _) (fK ⋯ (by lia))
  have mw:wg∈[0,1]:=by
   rcases (u2 (by assumption:wg<2)) with h | h<;>rw[h]<;>simp
  by_cases lb:(pA (dL F R cc) au).testBit t=true
  .refine⟨oO s t 1 2,cS.mpr (.inr ?_),q1.1,q1.2.1,by rw[q1.2.2];decide⟩;rw[cC s03];unfold Lx HB EJ;rw[aX];refine dN.mpr ⟨wg,mw,dN.mpr ⟨t,(tY cl).mpr cg,?_⟩⟩;rw[cC (yp.mpr lb),E0 hw e];refine Go ?_;unfold E3;rcases hst with h | h | h
   .rw[h];rfl
   .rw[h.1];rfl
   .exact cG h.2 n0
  .refine⟨oO s t 0 0,cS.mpr (.inr ?_),q0.1,q0.2.1,by rw[q0.2.2];decide⟩;rw[cC s03];unfold Lx HB EJ;rw[aX];refine dN.mpr ⟨wg,mw,dN.mpr ⟨t,(tY cl).mpr cg,?_⟩⟩;rw[cD (λz=>lb (yp.mp z)),E0 hw e];exact .head _
def zc(h:t∈mo F R s ws):t<F*R:=by
 unfold mo at h;obtain⟨w,_,h⟩:=dN.mp h;exact Km (g9 h)
def Ht(h:xT F R p k c s t):t<F*R:=by
 rcases h with⟨_,h⟩ | ⟨_,h⟩ | ⟨_,h⟩ | ⟨d,_,_,h⟩
 .exact zc h
 .exact zc h
 .exact zc h
 .exact VT (pX.mp h).1
def yJ(g0:wS F R cs)(o:Oh F R cs au k s)(hk:k≠1):t∈oj F R cs s↔xT F R (uX cs) k au s t/\(cs.getD t 0=0\/cs.getD t 0/8≠au):=by
 have pk:=Mj g0 o.2.1;unfold oj q7;rw[o.2.2.1,o.2.2.2,cC hk,eg];rw[o.2.2.2] at pk;rw[vk pk];unfold Nx;rw[cT,cu,cu];exact Iff.rfl
abbrev abf(F R:Nat)(cs:List Nat)(au st ev m:Nat):Prop:=
 ∃s t k,Oh F R cs au k s/\qT m=s/\qv m=t/\(uP m=0\/uP m=1)/\t<F*R/\
  (k=1/\t∈oj F R cs s/\(st=3->ev.testBit t=true)\/2<=k/\k<=6/\xT F R (uX cs) k au s t/\(if st=3/\k≠6 then ev.testBit t=true else cs.getD t 0=0\/cs.getD t 0/8≠au))
def As(hv:∀i,cs.getD i 0<16)(hc:au<2):(oh (dL F R cc).av (().sd au)).testBit t=true↔t<F*R/\(cs.getD t 0=0\/cs.getD t 0/8≠au):=by
 rw[qf,uo,ax,cu,dc,<-iO,sM hc];constructor
 .rintro⟨h1,h2⟩;refine⟨h1,?_⟩;by_cases h:cs.getD t 0=0
  .exact .inl h
  .exact .inr λz=>h2 ⟨h1,h,z⟩
 .rintro⟨h1,h2⟩;exact⟨h1,λz=>by rcases h2 with h | h;exact z.2.1 h;exact h z.2.2⟩
def xN(hl:cs.length=F*R)(hv:∀i,cs.getD i 0<16)(hc:au<2):(qW (dL F R cc) () st).testBit t=true↔t<F*R/\(if st=0 then cs.getD t 0≠0/\cs.getD t 0/8=1 - au else if st=1 then cs.getD t 0=0 else cs.getD t 0=0\/cs.getD t 0/8≠au):=by
 unfold qW;have aX:().au=au:=rfl;rw[aX];by_cases h0:st=0
 .rw[cC h0,cC h0,sM (by lia)]
 .rw[cD h0,cD h0];by_cases h1:st=1
  .rw[cC h1,cC h1,qf,uo,congrFun (su (n:=F*R) hl hv) t];unfold uX;simp only[ax,cu,dc,cA,lX]
  .rw[cD h1,cD h1];exact As hv hc
def aaQ(hz:F*R<=21):rC f (F*R)<2 ^ 64:=cU (vL _ _) (fK ⋯ (by lia))
def vD(hz:F*R<=21)(h:∀i,y.testBit i=true->i<F*R):y<2 ^ 21:=by
 refine cM (h9 (n:=F*R) _ λi hi=>?_) (eE ⋯ hz);exact eK.mpr λz=>by have:=h i z;lia
def z7(hz:F*R<=21)(hl:cs.length=F*R)(hv:∀i,cs.getD i 0<16)(hc:au<2):qW (dL F R cc) () st<2 ^ 21:=
 vD hz λi h=>((xN hl hv hc).mp h).1
def Xd(hz:F*R<=21)(hl:cs.length=F*R)(hv:∀i,cs.getD i 0<16)(hK:K<F*R)(hs:au<2)(hk:().king au=K):wU (dL F R cc) () au<2 ^ 21:=
 vD hz λi h=>((G1 hl hv hK hs hk).mp h).1
def Sb(g0:wS F R cs)(hK:K<F*R)(hs:au<2)(hk:().king au=K):uc (dL F R cc) ()<2 ^ 21:=by
 ext au az aA av kx K cs ay;have aX:().au=au:=rfl;have cl:=Xd (az:=az) (aA:=aA) (av:=av) (kx:=kx) (ay:=ay) g0.cl.bd.sz g0.cl.l g0.cl.v hK hs hk;have cb:=λi=>G1 (a:=i) (az:=az) (aA:=aA) (av:=av) (kx:=kx) (ay:=ay) g0.cl.l g0.cl.v hK hs hk;unfold uc I1;rw[aX,hk];split
 .decide
 .rename_i h0;refine vD g0.cl.bd.sz λi h=>?_;rw[dv,cT] at h;rcases h with h | h
  .exact((cb i).mp h).1
  .have ne:wU (dL F R cc) () au≠0:=λe=>h0 (.inl e);have z1:wU (dL F R cc) () au &&& (wU (dL F R cc) () au - 1)=0:=cJ λe=>h0 (.inr e);obtain⟨k,hk1⟩:=(xB ne).mp z1;rw[M4 hk1] at h;obtain⟨d,hd,h1,h2⟩:=(Dr hK ((cb k).mp ((hk1 k).mpr rfl)).1).mp h;exact VT (t6 h2)
def xi(g0:wS F R cs)(hc:au<2)(hks:∀k∈ks,2<=k/\k<=6)(ht:tg<2 ^ 21):m∈uy (dL F R cc) () ks tg↔∃k,k∈ks/\∃s t,Oh F R cs au k s/\xT F R (uX cs) k au s t/\tg.testBit t=true/\m=oO s t 0 0:=by
 ext au az aA av kx tg m cs ay ks;unfold uy;rw[dN];constructor
 .rintro⟨k,h1,h2⟩;exact⟨k,h1,(xJ g0.cl.bd.sz g0.cl.l g0.cl.v hc (hks k h1) (cU ht ⋯)).mp h2⟩
 .rintro⟨k,h1,h2⟩;exact⟨k,h1,(xJ g0.cl.bd.sz g0.cl.l g0.cl.v hc (hks k h1) (cU ht ⋯)).mpr h2⟩
def Qp(g0:wS F R cs)(hc:au<2)(hK:K<F*R)(hk:().king au=K)(h:m∈ua (dL F R cc) () st):
  abf F R cs au st (uc (dL F R cc) ()) m\/st≠3/\m∈GL (dL F R cc) ():=by
 ext au az aA av kx K st m cs ay;have hz:=g0.cl.bd.sz;have aX:().au=au:=rfl;have el:=Sb (az:=az) (aA:=aA) (av:=av) (kx:=kx) (ay:=ay) g0 hK hc hk;have dec:∀{s t:Nat},s<F*R->t<F*R->qT (oO s t 0 0)=s/\qv (oO s t 0 0)=t/\uP (oO s t 0 0)=0:=λh1 h2=>Aq (by lia) (by lia) ⋯ ⋯;have ownL:oh (dL F R cc).av (().sd au)<2 ^ 21:=vD hz λi h=>((As g0.cl.v hc).mp h).1;unfold ua at h;by_cases h3:st=3
 .rw[cC h3] at h;left;unfold DD at h;rcases cS.mp h with h | h
  .split at h
   .rcases cS.mp h with h | h
    .obtain⟨s,t,o,gl,b,e1,e2,e3⟩:=MY g0 hc h;exact⟨s,t,1,o,e1,e2,e3,qJ g0.cl g0.pw o.1 gl,.inl ⟨rfl,gl,λw=>b⟩⟩
    .obtain⟨k,hk1,s,t,o,hq,b,rfl⟩:=(xi g0 hc (by simp) el).mp h;have hk2:2<=k/\k<=5:=Zf hk1;have lt:=Ht hq;obtain⟨e1,e2,e3⟩:=dec o.1 lt;exact⟨s,t,k,o,e1,e2,.inl e3,lt,.inr ⟨hk2.1,by lia,hq,by rw[cC ⟨h3,by lia⟩];exact b⟩⟩
   .cases h
  .rw[aX] at h;obtain⟨s,t,o,hq,b,rfl⟩:=(xJ hz g0.cl.l g0.cl.v hc ⋯ (cU ownL ⋯)).mp h;have lt:=Ht hq;obtain⟨e1,e2,e3⟩:=dec o.1 lt;exact⟨s,t,6,o,e1,e2,.inl e3,lt,.inr ⟨by decide,by decide,hq,by rw[cD (λz=>z.2 rfl)];exact((As g0.cl.v hc).mp b).2⟩⟩
 .rw[cD h3] at h;rcases cS.mp h with h | h
  .left;rcases cS.mp h with h | h
   .obtain⟨s,t,o,gl,b,e1,e2,e3⟩:=MY g0 hc h;exact⟨s,t,1,o,e1,e2,e3,qJ g0.cl g0.pw o.1 gl,.inl ⟨rfl,gl,λz=>cG z h3⟩⟩
   .obtain⟨k,hk1,s,t,o,hq,b,rfl⟩:=(xi g0 hc (by simp) (z7 hz g0.cl.l g0.cl.v hc)).mp h;have hk2:2<=k/\k<=6:=Zc hk1;have lt:=Ht hq;obtain⟨e1,e2,e3⟩:=dec o.1 lt;refine⟨s,t,k,o,e1,e2,.inl e3,lt,.inr ⟨hk2.1,hk2.2,hq,?_⟩⟩;rw[cD (λz=>h3 z.1)];have z:=((xN g0.cl.l g0.cl.v hc).mp b).2;split at z
    .exact .inr (by lia)
    .split at z
     .exact .inl z
     .exact z
  .split at h
   .exact .inr ⟨h3,h⟩
   .cases h
end
section
variable{s t a d g au az aA av kx K x c n st tg m k r:Nat}{cs:List Nat}{ay:List V}
def JL(hc:au<2)(hk:∀i,cs.getD i 0=au*8+6↔i=K)(hK:K<F*R):Oh F R cs au 6 K:=by
 have:=(hk K).mpr rfl;exact⟨hK,by lia,by lia,by lia⟩
def RI(hk:∀i,cs.getD i 0=au*8+6↔i=K)(o:Oh F R cs au 6 s):s=K:=(hk s).mp (by have:=o.2.2.1;have:=o.2.2.2;lia)
def SU(g0:wS F R cs)(hc:au<2)(hk:∀i,cs.getD i 0=au*8+6↔i=K)(hK:K<F*R)(hr:r∈mo F R K om)(h0:cs.getD r 0=0)(a1:uD (dL F R cc) () K (1 - au) ().all=false)(a2:uD (dL F R cc) () r (1 - au) ().all=false):
  r∈oj F R cs K/\sZ F R cs K r=true:=by
 ext au az aA av kx K r cs ay;have rl:r<F*R:=zc hr;have o:=JL hc hk hK;refine⟨(yJ g0 o ⋯).mpr ⟨.inr (.inr (.inl ⟨rfl,hr⟩)),.inl h0⟩,?_⟩;rw[BD (az:=az) (aA:=aA) (av:=av) (kx:=kx) (ay:=ay) g0 hc hk hK rl (.inl h0)];refine eK.mpr λz=>?_;obtain⟨a,b1,b2,b3,b4⟩:=(tz rl (by lia)).mp z;ext a;have al:∀y,().all.testBit y=uX cs y:=λy=>congrFun (su (n:=F*R) g0.cl.l g0.cl.v) y;have no1:∀a,¬yP F R cs (λx=>().all.testBit x) (1 - au) K a:=λa h=>by
  rw[(tz hK (by lia)).mpr ⟨a,h⟩] at a1;cases a1
 have no2:∀a,¬yP F R cs (λx=>().all.testBit x) (1 - au) r a:=λa h=>by
  rw[(tz rl (by lia)).mpr ⟨a,h⟩] at a2;cases a2
 have xb:∀y,y≠K->(().all ^^^ 1 <<< K).testBit y=().all.testBit y:=λy hy=>by
  rw[fe,pY,dj,cz (p:=K=y) (λe=>hy e.symm),jt]
 rcases b4 with h | h | h | ⟨d,h1,h2,h3⟩
 .exact no2 a ⟨b1,b2,b3,.inl h⟩
 .exact no2 a ⟨b1,b2,b3,.inr (.inl h)⟩
 .exact no2 a ⟨b1,b2,b3,.inr (.inr (.inl h))⟩
 .obtain⟨m1,m2⟩:=pX.mp h3;by_cases hp:K∈pre r (wl F R a d)
  .refine no1 a ⟨b1,b2,b3,.inr (.inr (.inr ⟨d,h1,h2,pX.mpr ⟨t6 hp,λy hy=>?_⟩⟩))⟩;have:=m2 y (A3 hp hy);rw[xb y (Lz hy)] at this;exact this
  .refine no2 a ⟨b1,b2,b3,.inr (.inr (.inr ⟨d,h1,h2,pX.mpr ⟨m1,λy hy=>?_⟩⟩))⟩;have:=m2 y hy;rw[xb y (λe=>hp (e▸hy))] at this;exact this
def Hu(hc:G.castles.getD i U=J [kf,kt,rf,rt])(h:uU G P i=0):P.az &&& 1 <<< i≠0/\P.all &&& VC kf rf=0/\uD G P kf (1 - (i >>> 1)) P.all=false/\uD G P rt (1 - (i >>> 1)) P.all=false:=by
 ext G P i kf kt rf rt;unfold uU at h;rw[hc] at h;dsimp only at h;split at h
 .cases h
 .rename_i h1;split at h
  .cases h
  .rename_i h2;split at h
   .cases h
   .rename_i h3;split at h
    .cases h
    .rename_i h4;exact⟨h1,cJ h2,by simpa using h3,by simpa using h4⟩
abbrev Cc(F R:Nat)(cc:Bool):Prop:=F=3/\R=4/\cc=false\/F=7/\R=3/\cc=true
def RE{P:Ps}{kf rf rt:Nat}(h:P.all &&& VC kf rf=0)(hb:(VC kf rf).testBit rt=true)(al:∀y,P.all.testBit y=uX cs y):cs.getD rt 0=0:=by
 ext cs P kf rf rt;have z:(P.all &&& VC kf rf).testBit rt=false:=by rw[h,du]
 rw[cR,hb,jF,al] at z;unfold uX at z;exact cJ λe=>by rw[cy e] at z;cases z
def NF(hcc:Cc F R cc)(g:Gp F R cs au az)(hk:∀i,cs.getD i 0=au*8+6↔i=K)(hK:K<F*R)(h:m∈GL (dL F R cc) ()):
  (uP m=3/\qT m<F*R/\qv m<F*R)/\∃r,r∈oj F R cs K/\sZ F R cs K r=true:=by
 ext au az aA av kx K m cs ay;unfold GL at h;have aX:().au=au:=rfl;rw[aX] at h;obtain⟨i,hi,h⟩:=dN.mp h;have hi4:i=2*au\/i=2*au+1:=by simpa using hi
 have sd:=g.sd;unfold yg at h;split at h
 .rename_i h0;rw[dT] at h;rcases hcc with⟨eF,eR,ec⟩ | ⟨eF,eR,ec⟩
  .exfalso;ext i;have e:(dL F R cc).castles.getD i U=U:=by
    rw[eF,eR,ec];have:i<4:=by lia
    exact Vp this rfl rfl rfl rfl
   unfold uU at h0;rw[e] at h0;cases h0
  .have al:∀y,().all.testBit y=uX cs y:=λy=>congrFun (su g.cg.cl.l g.cg.cl.v) y;have key:∀kf kt rf rt,(dL F R cc).castles.getD i U=J [kf,kt,rf,rt]->i >>> 1=au->kf=i/2*14+3->(VC kf rf).testBit rt=true->rt∈mo F R kf om->i/2=au->i<4->kf<21->kt<21->
     (uP m=3/\qT m<F*R/\qv m<F*R)/\∃r,r∈oj F R cs K/\sZ F R cs K r=true:=λkf kt rf rt e1 e2 e3 e4 e5 e6 e7 e8 e9=>by
    obtain⟨c1,c2,c3,c4⟩:=Hu e1 h0;rw[e2] at c3 c4;have rb:az >>> i &&& 1≠0:=tD.mpr (yp.mp c1);have hm:=g.rt i e7 rb;unfold wT at hm;simp only[ax,cu] at hm;have kK:kf=K:=(hk kf).mp (by rw[e3,hm.2.2.1,e6]);subst kK;rw[e1] at h;have hm2:m=oO kf kt 3 0:=h;obtain⟨q1,q2,q3⟩:=Aq (o:=kf) (t:=kt) (s:=3) (f:=0) e8 e9 ⋯ ⋯;rw[hm2];exact⟨⟨q3,by rw[q1,eF,eR];exact e8,by rw[q2,eF,eR];exact e9⟩,rt,SU g.cg sd hk hK e5 (RE c2 e4 al) c3 c4⟩
   rcases (u2 (by assumption:au<2)) with e | e<;>subst e
   .rcases hi4 with e | e<;>subst e
    .exact key 3 5 6 4 (by rw[eF,eR,ec];rfl) rfl rfl ⋯ (by rw[eF,eR];decide) rfl ⋯ ⋯ ⋯
    .exact key 3 1 0 2 (by rw[eF,eR,ec];rfl) rfl rfl ⋯ (by rw[eF,eR];decide) rfl ⋯ ⋯ ⋯
   .rcases hi4 with e | e<;>subst e
    .exact key 17 19 20 18 (by rw[eF,eR,ec];rfl) rfl rfl ⋯ (by rw[eF,eR];decide) rfl ⋯ ⋯ ⋯
    .exact key 17 15 14 16 (by rw[eF,eR,ec];rfl) rfl rfl ⋯ (by rw[eF,eR];decide) rfl ⋯ ⋯ ⋯
 .cases h
def J1(hk:().king au=K)(h3:uP m≠3):vT (dL F R cc) () m pn=true↔if qT m=K then uD (dL F R cc) () (qv m) (1 - au) (().all ^^^ 1 <<< K)=false else pn.testBit (qT m)=false\/OY (dL F R cc) (qT m) (qv m) K=true:=by
 ext au az aA av kx K m cs ay pn;have aX:().au=au:=rfl;unfold vT;rw[aX,hk,cD h3];by_cases e:qT m=K
 .rw[cC e,cC e,dc]
 .rw[cD e,cD e];by_cases b:pn >>> qT m &&& 1=0
  .rw[cC b];refine⟨λw=>.inl ?_,λw=>rfl⟩;exact eK.mpr λz=>(tD.mpr z) b
  .rw[cD b];exact⟨λz=>.inr z,λz=>z.elim (λz=>by rw[tD.mp b] at z;cases z) id⟩
def NO(g0:wS F R cs)(hs:au<2)(hK:K<F*R)(hk:().king au=K)(ch:r5 (dL F R cc) () au=true)(h:(uc (dL F R cc) ()).testBit t=true):cs.getD t 0=0\/cs.getD t 0/8≠au:=by
 ext t au az aA av kx K cs ay;have ex:∃a,Ck F R cs au K a:=by
  unfold r5 at ch;rw[hk,tz hK (by lia),su g0.cl.l g0.cl.v] at ch;exact ch
 rcases (KL g0 hs hK hk ex).mp h with⟨a,u,h | ⟨d,hd,h1,h2⟩⟩
 .subst h;have:=(u t).mpr rfl;exact .inr (by have:=this.2.2.1;lia)
 .rcases (Hn hK).mp ((u a).mpr rfl) with l | ⟨d',sn,cl⟩
  .rw[Sc hs hK l hd h1] at h2;cases h2
  .have:=(xn hd hK).2.2 d' sn.1 h1 sn.2.2.2;subst this;have:=cl t h2;unfold uX at this;exact .inl (cJ λz=>by rw[cy z] at this;cases this)
def Tv(hcc:Cc F R cc)(g:Gp F R cs au az):AK (dL F R cc) ()=true↔∃s t,(s,t)∈qV F R cs au/\sZ F R cs s t=true:=by
 ext au az aA av kx cs ay;have g0:=g.cg;have aY:=g.sd;obtain⟨K,hK,hk⟩:=g0.king aY;have hl:=g0.cl.l;have kq:=zd (au:=au) (az:=az) (aA:=aA) (av:=av) (kx:=kx) (ay:=ay) g0 aY hk hK;have aX:().au=au:=rfl;unfold AK;rw[aX,eu];obtain⟨ch,hch⟩:=(⟨_,rfl⟩:∃ch,ch=r5 (dL F R cc) () au)
 rw[<- hch];constructor
 .rintro⟨st,hst,hm⟩;obtain⟨m,hm,hleg⟩:=eu.mp hm;rcases Qp g0 aY hK kq hm with⟨s,t,k,o,e1,e2,e3,lt,hq⟩ | ⟨_,hcast⟩
  .have s3:uP m≠3:=by lia
   have lg:=(J1 kq s3).mp hleg;rw[e1,e2] at lg;have st3:ch=true->st=3:=λe=>by rw[e] at hst;simpa[Cs] using hst
   have st3':st=3->ch=true:=λe=>by
    cases hc:ch with
    | true=>rfl
    | false=>rw[hc,e] at hst;simp [Cs] at hst
   have gl:t∈oj F R cs s/\(s≠K->ch=true->(uc (dL F R cc) ()).testBit t=true):=by
    rcases hq with⟨hk1,gl,ev⟩ | ⟨h2,h6,hq,tgq⟩
    .exact⟨gl,λ_ e=>ev (st3 e)⟩
    .have k1:k≠1:=by lia
     rw[yJ g0 o k1];split at tgq
     .rename_i e;exact⟨⟨hq,NO g0 aY hK kq (by rw[<- hch];exact st3' e.1) tgq⟩,λ_ _=>tgq⟩
     .rename_i e;refine⟨⟨hq,tgq⟩,λsK hc=>?_⟩;have k6:k=6:=cJ λz=>e ⟨st3 hc,z⟩;subst k6;exact cG (RI hk o) sK
   refine⟨s,t,rj.mpr ⟨by rw[hl];exact o.1,o.2.1,o.2.2.1,gl.1⟩,?_⟩;by_cases sK:s=K
   .subst sK;rw[cC rfl] at lg;have ot:=ts gl.1;rw[o.2.2.1] at ot;exact(BD g0 aY hk hK lt ot).mpr lg
   .rw[cD sK] at lg;exact(yB g0 aY hk hK o.1 ⟨o.2.1,o.2.2.1⟩ sK gl.1).mpr ⟨λe=>gl.2 sK (by rw[hch];exact e),lg⟩
  .obtain⟨_,r,h1,h2⟩:=NF hcc g hk hK hcast;have o:=JL aY hk hK;exact⟨K,r,rj.mpr ⟨by rw[hl];exact hK,o.2.1,o.2.2.1,h1⟩,h2⟩
 .rintro⟨s,t,hm,hf⟩;obtain⟨m1,m2,m3,m4⟩:=rj.mp hm;have m1:s<F*R:=by rw[<- hl];exact m1
  have m2:cs.getD s 0≠0:=m2;have lt:=qJ g0.cl g0.pw m1 m4;have ot:=ts m4;have m3:cs.getD s 0/8=au:=m3;have m4:t∈oj F R cs s:=m4;rw[m3] at ot;have pk:=Mj g0 m2;have o:Oh F R cs au (cs.getD s 0%8) s:=⟨m1,m2,m3,rfl⟩
  have hz:=g0.cl.bd.sz;have el:=Sb (az:=az) (aA:=aA) (av:=av) (kx:=kx) (ay:=ay) g0 hK aY kq;have dec:=Aq (o:=s) (t:=t) (s:=0) (f:=0) (by lia) (by lia) ⋯ ⋯;have done:∀st m,st∈Cs ch->m∈ua (dL F R cc) () st->qT m=s->qv m=t->uP m≠3->∃st,st∈Cs ch/\((ua (dL F R cc) () st).any λm=>vT (dL F R cc) () m (B9 (dL F R cc) ()))=true:=λst m h1 h2 e1 e2 e3=>by
   refine⟨st,h1,eu.mpr ⟨m,h2,(J1 kq e3).mpr ?_⟩⟩;rw[e1,e2];by_cases sK:s=K
   .rw[cC sK];subst sK;exact(BD g0 aY hk hK lt ot).mp hf
   .rw[cD sK];exact((yB g0 aY hk hK m1 ⟨m2,m3⟩ sK m4).mp hf).2
  have evb:s≠K->ch=true->(uc (dL F R cc) ()).testBit t=true:=λsK e=>((yB (az:=az) (aA:=aA) (av:=av) (kx:=kx) (ay:=ay) g0 aY hk hK m1 ⟨m2,m3⟩ sK m4).mp hf).1 (by rw[<- hch];exact e);by_cases k1:cs.getD s 0%8=1
  .have sK:s≠K:=λe=>by have:=(hk s).mpr e;lia
   rw[k1] at o;cases hc:ch with
   | true=>
    rw[hc] at done;have eb:=evb sK hc;obtain⟨m,q1,q2,q3,q4⟩:=AG (az:=az) (aA:=aA) (av:=av) (kx:=kx) (ay:=ay) g0 aY o eb (.inl rfl) m4;refine done 3 m (by simp [Cs]) ?_ q2 q3 q4;unfold ua;rw[cC rfl];unfold DD;rw[cC (tu.mpr ⟨t,eb⟩)];exact cS.mpr (.inl (cS.mpr (.inl q1)))
   | false=>
    rw[hc] at done;have fb:(dL F R cc).av.testBit t=true:=by rw[uo];exact cy lt
    by_cases h0:cs.getD t 0=0
    .obtain⟨m,q1,q2,q3,q4⟩:=AG (az:=az) (aA:=aA) (av:=av) (kx:=kx) (ay:=ay) g0 aY o fb (.inr (.inr ⟨rfl,h0⟩)) m4;refine done 1 m (by simp [Cs]) ?_ q2 q3 q4;unfold ua;rw[cD ⋯];exact cS.mpr (.inl (cS.mpr (.inl q1)))
    .obtain⟨m,q1,q2,q3,q4⟩:=AG (az:=az) (aA:=aA) (av:=av) (kx:=kx) (ay:=ay) g0 aY o fb (.inr (.inl ⟨rfl,h0⟩)) m4;refine done 0 m (by simp [Cs]) ?_ q2 q3 q4;unfold ua;rw[cD ⋯];exact cS.mpr (.inl (cS.mpr (.inl q1)))
  .have hq:=(yJ g0 o k1).mp m4;have s3:uP (oO s t 0 0)≠3:=by rw[dec.2.2];decide
   cases hc:ch with
   | true=>
    rw[hc] at done;refine done 3 (oO s t 0 0) (by simp [Cs]) ?_ dec.1 dec.2.1 s3;unfold ua;rw[cC rfl];unfold DD;by_cases k6:cs.getD s 0%8=6
    .refine cS.mpr (.inr ?_);rw[aX];have ownL:oh (dL F R cc).av (().sd au)<2 ^ 21:=vD hz λi h=>((As g0.cl.v aY).mp h).1;rw[k6] at o hq;exact(xJ hz hl g0.cl.v aY ⋯ (cU ownL ⋯)).mpr ⟨s,t,o,hq.1,(As g0.cl.v aY).mpr ⟨lt,hq.2⟩,rfl⟩
    .have sK:s≠K:=λe=>by have:=(hk s).mpr e;lia
     have eb:=evb sK hc;rw[cC (tu.mpr ⟨t,eb⟩)];refine cS.mpr (.inl (cS.mpr (.inr ?_)));refine(xi g0 aY (by simp) el).mpr ⟨_,?_,s,t,o,hq.1,eb,rfl⟩;exact aa1 (by assumption) (by assumption) (by assumption)
   | false=>
    rw[hc] at done;have bV:cs.getD s 0%8∈([2,3,4,5,6]:List Nat):=aa0 (by assumption) (by assumption);by_cases h0:cs.getD t 0=0
    .refine done 1 (oO s t 0 0) (by simp [Cs]) ?_ dec.1 dec.2.1 s3;unfold ua;rw[cD ⋯];refine cS.mpr (.inl (cS.mpr (.inr ?_)));refine(xi g0 aY (by simp) (z7 hz hl g0.cl.v aY)).mpr ⟨_,bV,s,t,o,hq.1,(xN hl g0.cl.v aY).mpr ⟨lt,?_⟩,rfl⟩;rw[cD ⋯,cC rfl];exact h0
    .refine done 0 (oO s t 0 0) (by simp [Cs]) ?_ dec.1 dec.2.1 s3;unfold ua;rw[cD ⋯];refine cS.mpr (.inl (cS.mpr (.inr ?_)));refine(xi g0 aY (by simp) (z7 hz hl g0.cl.v aY)).mpr ⟨_,bV,s,t,o,hq.1,(xN hl g0.cl.v aY).mpr ⟨lt,?_⟩,rfl⟩;rw[cC rfl];have vt:=g0.cl.v t;rcases ot with z | z
     .exact cG z h0
     .have z':cs.getD t 0/8≠au:=z;have e:cs.getD t 0/8=1 - au:=L5 vt aY z';exact⟨h0,e⟩
end
section
variable{s t a d au az aA av kx K x c n m k r:Nat}{cs:List Nat}{ay:List V}
def Pf:(wW F R cs au 0).isNone=true↔¬∃s t,(s,t)∈qV F R cs au/\sZ F R cs s t=true:=by
 ext au cs;unfold wW;rw[eh,List.findSome?_eq_none_iff];have id:∀k,k<(qV F R cs au).length->Ip 0 (qV F R cs au).length k=k:=λk hk=>by
  ext k;unfold Ip;rw[hB _ (by lia),Int.zero_add,lG (by lia) (by lia)];lia
 constructor
 .rintro h ⟨s,t,hm,hf⟩;obtain⟨k,hk,e⟩:=ig hm;have z:=h k (cL.mpr hk);unfold EE at z;rw[id k hk,ba,a7 hk,e] at z;rw[cC (by exact hf)] at z;cases z
 .intro h k hk;have hk:=cL.mp hk;unfold EE;rw[id k hk,ba,a7 hk];refine cD λz=>h ⟨_,_,dk hk,z⟩
def Ee{p:Nat->Nat->Bool}{q:Nat->Bool}{ks:List Nat}(h:∀m,(ks.map λk=>if p k m=true then 1 else 0).sum<=if q m=true then 1 else 0):∀l:List Nat,(ks.map λk=>(l.filter (p k)).length).sum<=(l.filter q).length
 | []=>by
  have:∀ks:List Nat,(ks.map λk=>(([]:List Nat).filter (p k)).length).sum=0:=λks=>by
   induction ks with
   | nil=>rfl
   | cons k ks ih=>rw[dw,fH,ih];rfl
  rw[this];exact dF _
 | m::l=>by
  have ih:=Ee h l;have hm:=h m;have e:(ks.map λk=>((m::l).filter (p k)).length).sum=(ks.map λk=>if p k m=true then 1 else 0).sum+(ks.map λk=>(l.filter (p k)).length).sum:=by
   clear h hm ih
   induction ks with
   | nil=>rfl
   | cons k ks ih=>
    rw[dw,fH,ih,dw,fH,dw,fH,jN];split
    .rw[ey];lia
    .lia
  rw[e,jN];split
  .rename_i hq;rw[cC hq] at hm;rw[ey];lia
  .rename_i hq;rw[cD hq] at hm;lia
def G6:∀n,n<22->((jA 0 64).filter λm=>decide (m<n)).length<=21:=by decide +kernel
def XW(hz:F*R<=21)(hc:au<2):(([2,3,4,5,6]:List Nat).map (ve ())).sum<=21:=by
 ext au az aA av kx cs ay;have aX:().au=au:=rfl;have e:([2,3,4,5,6]:List Nat).map (ve ())=([2,3,4,5,6]:List Nat).map λk=>((jA 0 64).filter λm=>decide (k<7)&&(decide (m<F*R)&&(decide (cs.getD m 0≠0)&&(decide (cs.getD m 0/8=au)&&decide (cs.getD m 0%8=k))))).length:=by
  refine kU λk hk=>?_;ext k;have k7:k<7:=by simp only[dP,fU,or_false] at hk;lia
  unfold ve oV
  (rewrite [aX,xy];try with_reducible rfl)
  congr 1;refine lR λm w=>?_;ext m
  (rewrite [lW,cR,cy k7,eQ,da,ax,sM hc,rh k7];try with_reducible rfl)
  simp only[ax,cu];exact⟨λ⟨⟨h1,h2,h3⟩,_,_,h4⟩=>⟨h1,h2,h3,h4⟩,λ⟨h1,h2,h3,h4⟩=>⟨⟨h1,h2,h3⟩,h1,h2,h4⟩⟩
 (rewrite [e];try with_reducible rfl)
 refine cO (Ee (q:=λm=>decide (m<F*R)) (λm=>?_) _) (G6 _ (by lia));ext m;by_cases h:m<F*R
 ·(rewrite [cC (cy h)];try with_reducible rfl)
  simp only[dw,iH,fH,lT,ax,cu];generalize cs.getD m 0%8=v
  repeat' split
  all_goals lia
 .have:∀k,(decide (k<7)&&(decide (m<F*R)&&(decide (cs.getD m 0≠0)&&(decide (cs.getD m 0/8=au)&&decide (cs.getD m 0%8=k)))))=false:=λk=>by
   (rewrite [cz h,kJ,fX];try with_reducible rfl)
  simp only[this];exact dF _
def ZJ(hcc:Cc F R cc)(g:Gp F R cs au az):Gd (dL F R cc) ():=by
 ext au az aA av kx cs ay;have g0:=g.cg;have aY:=g.sd;obtain⟨K,hK,hk⟩:=g0.king aY;have kq:=zd (au:=au) (az:=az) (aA:=aA) (av:=av) (kx:=kx) (ay:=ay) g0 aY hk hK;refine⟨UY g0 aY hk hK,Sb g0 hK aY kq,λst=>z7 g0.cl.bd.sz g0.cl.l g0.cl.v aY,XW g0.cl.bd.sz aY,λst m hm=>?_⟩;rcases Qp g0 aY hK kq hm with⟨s,t,k,o,e1,e2,e3,lt,_⟩ | ⟨_,hcast⟩
 .exact⟨by lia,by rw[e1];exact o.1,by rw[e2];exact lt⟩
 .obtain⟨⟨h1,h2,h3⟩,_⟩:=NF hcc g hk hK hcast;exact⟨by rw[h1];decide,h2,h3⟩
def UA(g0:wS F R cs)(hc:au<2)(o:Oh F R cs au 1 s)(h:t∈oj F R cs s):(t:Int) - s≠2*F/\(s:Int) - t≠2*F:=by
 ext s t au cs;have hF:=g0.cl.bd.f;have fw:KJ F au=F\/KJ F au=-(F:Int):=by unfold KJ;split<;>simp
 rcases AP g0 hc o h with⟨_,e⟩ | ⟨_,_,wg,_,e⟩
 .rcases fw with f | f<;>rw[f] at e<;>lia
 ext wg
 .unfold w8 at e;split at e
  .rw[ax,cu,cu] at e;rcases fw with f | f<;>rw[f] at e<;>lia
  .rw[ax,cu,cu] at e;rcases fw with f | f<;>rw[f] at e<;>lia
def TT(hk:k<7):(oa n cs au az aA av kx ay).kd k=0↔∀s,s<n->cs.getD s 0≠0->cs.getD s 0%8≠k:=by
 ext au az aA av kx n k cs ay;constructor
 .intro h s h1 h2 h3;have:=(rh (n:=n) (cs:=cs) (au:=au) (az:=az) (aA:=aA) (av:=av) (kx:=kx) (ay:=ay) (a:=s) hk).mpr ⟨h1,h2,h3⟩;rw[h,du] at this;cases this
 .intro h;refine cJ λz=>?_;obtain⟨i,hi⟩:=tu.mp z;obtain⟨h1,h2,h3⟩:=(rh hk).mp hi;exact h i h1 h2 h3
def QQ(f:Nat->Nat)(i:Nat)(l:List Nat)(a:Nat):(l.foldl (λa s=>a ||| 1 <<< f s) a).testBit i=true↔a.testBit i=true\/∃s∈l,f s=i:=by
 rw[<- List.foldl_map (f:=f) (g:=λa t=>a ||| 1 <<< t),EI,cT,cu,d7]
def MF(f:Nat->Nat)(hf:∀s,f s<=1):∀(l:List Nat) (a:Nat),a<4->l.foldl (λa s=>a ||| 1 <<< f s) a<4
 | [],a,h=>h
 | s::l,a,h=>by
  rw[i6];refine MF f hf l _ (Nat.or_lt_two_pow (n:=2) h ?_);have:=hf s;rcases (by lia:f s=0\/f s=1) with e | e<;>rw[e]<;>decide
def NV(h:y<4):y=3↔y.testBit 0=true/\y.testBit 1=true:=by
 have all:∀y,y<4->(y=3↔y.testBit 0=true/\y.testBit 1=true):=by decide
 exact all y h
def OE(hn:l.Nodup)(h:∀x,x∈l↔x=s):l=[s]:=by
 match l,hn with
 | [],_=>exact cG ((h s).mpr rfl) (by simp)
 | [y],_=>rw[(h y).mp (.head _)]
 | y::z::l,hn=>
  have e1:=(h y).mp (.head _);have e2:=(h z).mp (.tail _ (.head _));rw[e1,e2] at hn;simp at hn
def UI(g0:wS F R cs):xo (dL F R cc) ()=vp F cs:=by
 ext au az aA av kx cs ay;have hl:=g0.cl.l;have hz:=g0.cl.bd.sz;have kz:=λ{k:Nat} (hk:k<7)=>TT (n:=F*R) (cs:=cs) (au:=au) (az:=az) (aA:=aA) (av:=av) (kx:=kx) (ay:=ay) hk;have lm:∀s,s∈(cn cs.length).filter (Aj cs)↔s<F*R/\cs.getD s 0≠0/\cs.getD s 0%8≠6:=λs=>by
  ext s;rw[eg,cL,hl];unfold Aj;rw[dc,cA];simp only[dP,fU,or_false,not_or];refine and_congr_right λw=>?_;rcases g0.pv s with z | z
  .rw[z]
  .exact⟨λh=>⟨λe=>by rw[e] at z;lia,h.2⟩,λh=>⟨by lia,h.2⟩⟩
 obtain⟨L,hL⟩:=(⟨_,rfl⟩:∃L,L=(cn cs.length).filter (Aj cs))
 ext L;rw[<- hL] at lm;have ln:L.Nodup:=by rw[hL];exact kM _ List.nodup_range
 have lo:wO F cs=L.map (BL F cs):=by unfold wO;rw[hL]
 have rep:∀y:Nat × Nat,wO F cs=cW (wO F cs).length y↔∀s∈L,BL F cs s=y:=λy=>by
  rw[List.eq_replicate_iff,lo];exact⟨λh s hs=>h.2 _ (d7.mpr ⟨s,hs,rfl⟩),λh=>⟨rfl,λb hb=>by obtain⟨a,ha,e⟩:=d7.mp hb;rw[<- e];exact h a ha⟩⟩
 have bl:vp F cs=true↔(wO F cs=[(2,0)]\/wO F cs=[(2,1)])\/((∀s∈L,BL F cs s=(3,0))\/∀s∈L,BL F cs s=(3,1)):=by
  unfold vp;rw[cT,cT,cT,cu,cu,cu,cu,rep,rep]
 have one:∀x,wO F cs=[(2,x)]↔∃s,L=[s]/\BL F cs s=(2,x):=λx=>by
  rw[lo];exact List.map_eq_singleton_iff
 have f1:∀s k x,BL F cs s=(k,x)->cs.getD s 0%8=k:=λs k x h=>(jz h).1;have al:∀s∈L,vp F cs=true->cs.getD s 0%8=2\/cs.getD s 0%8=3:=λs hs h=>by
  rcases bl.mp h with(h | h) | (h | h)
  .obtain⟨s',e,h'⟩:=(one 0).mp h;rw[e,dT] at hs;rw[hs];exact .inl (f1 _ _ _ h')
  .obtain⟨s',e,h'⟩:=(one 1).mp h;rw[e,dT] at hs;rw[hs];exact .inl (f1 _ _ _ h')
  .exact .inr (f1 _ _ _ (h s hs))
  .exact .inr (f1 _ _ _ (h s hs))
 have inL:∀{k},k≠6->().kd k≠0->k<7->∃s,s∈L/\cs.getD s 0%8=k:=λ{k} k6 h hk=>by
  obtain⟨i,hi⟩:=tu.mp h;obtain⟨h1,h2,h3⟩:=(rh hk).mp hi;exact⟨i,(lm i).mpr ⟨h1,h2,by rw[h3];exact k6⟩,h3⟩
 unfold xo;by_cases hA:().kd 1 ||| ().kd 4 ||| ().kd 5=0
 .rw[cD (λh=>h hA)];obtain⟨h12,a5⟩:=lC.mp hA;obtain⟨a1,a4⟩:=lC.mp h12;have k23:∀s∈L,cs.getD s 0%8=2\/cs.getD s 0%8=3:=λs hs=>by
   obtain⟨h1,h2,h3⟩:=(lm s).mp hs;have b1:=(kz ⋯).mp a1 s h1 h2;have b4:=(kz ⋯).mp a4 s h1 h2;have b5:=(kz ⋯).mp a5 s h1 h2;rcases g0.pv s with z | z
   .exact cG z h2
   .exact Zo z b1 b4 b5 h3
  by_cases h2:().kd 2=0
  .rw[cC h2];have k3:∀s∈L,cs.getD s 0%8=3:=λs hs=>by
    obtain⟨i1,i2,i3⟩:=(lm s).mp hs;have b:=(kz ⋯).mp h2 s i1 i2;rcases k23 s hs with z | z
    .exact cG z b
    .exact z
   have sq:∀s,JB (dL F R cc) s=(s%F+s/F)%2:=λs=>by
    show(s%F+s/F) &&& 1=_;exact Nat.and_one_is_mod _
   have s3:∀s,s∈oV (().kd 3)↔s∈L:=λs=>by
    rw[tY (by rw[K2 ⋯];exact aaQ hz),rh ⋯];exact⟨λh=>(lm s).mpr ⟨h.1,h.2.1,by rw[h.2.2];decide⟩,λh=>by have h':=(lm s).mp h;exact⟨h'.1,h'.2.1,k3 s h⟩⟩
   have le:zp (dL F R cc) ()<4:=MF _ (λs=>by rw[sq];lia) _ 0 ⋯;have tb:∀i,(zp (dL F R cc) ()).testBit i=true↔∃s∈L,(s%F+s/F)%2=i:=λi=>by
    unfold zp;rw[QQ];simp only[du,lx,false_or,s3,sq]
   rw[da,cu,Ne,NV le,tb,tb,bl];constructor
   .intro h;refine .inr ?_;by_cases h0:∃s∈L,(s%F+s/F)%2=0
    .refine .inl λs hs=>?_;have:(s%F+s/F)%2≠1:=λe=>h ⟨h0,s,hs,e⟩;exact iG (k3 s hs) (show(s%F+s/F)%2=0 by lia)
    .refine .inr λs hs=>?_;have:(s%F+s/F)%2≠0:=λe=>h0 ⟨s,hs,e⟩;exact iG (k3 s hs) (show(s%F+s/F)%2=1 by lia)
   .rintro h ⟨⟨s,hs,e0⟩,r,hr,e1⟩;rcases h with(h | h) | (h | h)
    .obtain⟨s',e,h'⟩:=(one 0).mp h;have a:=f1 _ _ _ h';rw[e,dT] at hs;have b:=k3 s' (by rw[e];exact .head _);lia
    .obtain⟨s',e,h'⟩:=(one 1).mp h;have a:=f1 _ _ _ h';have b:=k3 s' (by rw[e];exact .head _);lia
    .have:=(jz (h r hr)).2;lia
    .have:=(jz (h s hs)).2;lia
  .rw[cD h2];obtain⟨s2,hs2,e2⟩:=inL ⋯ h2 ⋯;rw[da,ax,dc,cu,cA,Ne,lY,xB h2,bl];constructor
   .rintro⟨h3,k,hk⟩;have b2:∀s,s∈L↔s=k:=λs=>by
     rw[<- hk s,rh ⋯,lm];refine⟨λh=>⟨h.1,h.2.1,?_⟩,λh=>⟨h.1,h.2.1,by rw[h.2.2];decide⟩⟩;have b:=(kz ⋯).mp h3 s h.1 h.2.1;rcases k23 s ((lm s).mpr h) with z | z
     .exact z
     .exact cG z b
    have e:=OE ln b2;have kk:cs.getD k 0%8=2:=by rw[<- (b2 s2).mp hs2];exact e2
    rcases (by lia:(k%F+k/F)%2=0\/(k%F+k/F)%2=1) with z | z
    .exact .inl (.inl ((one 0).mpr ⟨k,e,iG kk z⟩))
    .exact .inl (.inr ((one 1).mpr ⟨k,e,iG kk z⟩))
   .intro h;have go:∀x,wO F cs=[(2,x)]->().kd 3=0/\∃k,∀i,(().kd 2).testBit i=true↔i=k:=λx h=>by
     obtain⟨s',e,h'⟩:=(one x).mp h;have a:=f1 _ _ _ h';have is:∀s,s∈L↔s=s':=λs=>by rw[e,dT]
     constructor
     .refine(kz ⋯).mpr λs i1 i2 i3=>?_;have:=(is s).mp ((lm s).mpr ⟨i1,i2,by rw[i3];decide⟩);rw[this] at i3;lia
     .refine⟨s',λi=>?_⟩;rw[rh ⋯,<-is i,lm];refine⟨λh=>⟨h.1,h.2.1,by rw[h.2.2];decide⟩,λh=>⟨h.1,h.2.1,?_⟩⟩;rw[(is i).mp ((lm i).mpr h)];exact a
    rcases h with(h | h) | (h | h)
    .exact go 0 h
    .exact go 1 h
    .have:=f1 _ _ _ (h s2 hs2);lia
    .have:=f1 _ _ _ (h s2 hs2);lia
 .rw[cC hA];refine(eK.mpr λh=>hA ?_).symm;have no:∀k,k<7->k≠6->k≠2->k≠3->().kd k=0:=λk hk k6 k2 k3=>by
   refine cJ λz=>?_;obtain⟨s,hs,e⟩:=inL k6 z hk;rcases al s hs h with z | z<;>lia
  rw[no 1 ⋯ ⋯ ⋯ ⋯,no 4 ⋯ ⋯ ⋯ ⋯,no 5 ⋯ ⋯ ⋯ ⋯];rfl
end
section
variable{s t a d g au az aA av kx K x c n m k pr i:Nat}{cs:List Nat}{ay:List V}
abbrev Kj(F R:Nat)(cs:List Nat)(s t pr:Nat):Nat:=if pF F R cs s t then cs.getD s 0/8*8+2+pr else cs.getD s 0
def uZ(hl:cs.length=F*R)(hs:s<F*R)(ht:t<F*R)(ne:s≠t)(i:Nat):(li F R cs s t pr).getD i 0=if i=s then 0 else if i=t then Kj F R cs s t pr else cs.getD i 0:=by
 revert i;ext s t pr cs;ext i;have ag:=F4 hl hs ht ne;unfold li Kj;by_cases h:pF F R cs s t
 .rw[cC h,cC h];by_cases h2:i=t
  .subst h2;rw[ou (by unfold oo;simp;lia),cD (dQ ne),cC rfl]
  .rw[im i h2,ag,cD h2,cD h2]
 .rw[cD h,cD h,ag]
def Tk:(li F R cs s t pr).length=cs.length:=by
 unfold li oo;split<;>simp
structure FU (F R:Nat) (cs:List Nat) (au s t:Nat):Prop where
 hs:s<F*R
 ht:t<F*R
 ne:s≠t
 v:cs.getD s 0≠0
 c:cs.getD s 0/8=au
 g:t∈oj F R cs s
 o:cs.getD t 0=0\/cs.getD t 0/8≠au
 nk:∀c k,c<2->(∀i,cs.getD i 0=c*8+6↔i=k)->k≠t
def vi(g:Gp F R cs au az)(m:(s,t)∈qV F R cs au):FU F R cs au s t:=by
 ext s t au az cs;obtain⟨h1,h2,h3,h4⟩:=rj.mp m;have g0:=g.cg;have hs:s<F*R:=by rw[<- g0.cl.l];exact h1
 have tl:=qJ g0.cl g0.pw hs h4;have ot:=ts h4;have h3:cs.getD s 0/8=au:=h3;have h2:cs.getD s 0≠0:=h2;have h4:t∈oj F R cs s:=h4;have ot:cs.getD t 0=0\/cs.getD t 0/8≠au:=by rw[<- h3];exact ot
 have aX:=g.sd;refine⟨hs,tl,λe=>?_,h2,h3,h4,ot,λc k hc hk e=>?_⟩
 .rw[<- e] at ot;rcases ot with z | z
  .exact h2 z
  .exact z h3
 ext c k
 .subst e;have kv:=(hk k).mpr rfl;have kc:c=1 - au:=ot.elim (λz=>cG z (Sq kv).2.2) λz=>oth (by assumption) (by assumption) λe=>z ((Sq kv).1.trans e);rcases yI g0 h2 h4 with⟨hq,_⟩ | ⟨_,_,z⟩
  .have sf:=g.sf;have e14:14 - 8*au=c*8+6:=by rw[kc];exact(Ry (by assumption)).1.symm
   have hkl:k<F*R:=tl;rw[e14,(wX g0.cl.l hkl hk).2] at sf;rw[h3] at hq;refine(Ag g0 (by lia)).mp sf s ⟨hs,h2,?_,?_⟩
   .lia
   .have e:1 - (1 - au)=au:=ff2 (by assumption);rw[e];exact hq
  .lia
def J7(g0:wS F R cs)(L:FU F R cs au s t)(hp:pr<4)(hc:c<2)(hk:∀i,cs.getD i 0=c*8+6↔i=K)(i:Nat):(li F R cs s t pr).getD i 0=c*8+6↔i=rV K s t:=by
 revert i;ext s t au K c pr cs;ext i;have ne:=L.ne;have kt:=L.nk c K hc hk;rw[uZ g0.cl.l L.hs L.ht ne];unfold rV;by_cases h1:i=s
 .subst h1;rw[cC rfl];split
  .exact⟨λh=>by lia,λh=>cG h ne⟩
  .rename_i h;exact⟨λh=>by lia,λz=>cG z h⟩
 .rw[cD h1];by_cases h2:i=t
  .subst h2;rw[cC rfl];unfold Kj;by_cases h:pF F R cs s i
   .rw[cC h];have sk:s≠K:=λe=>by
     have:=(hk s).mpr e;have:=h.1;lia
    rw[cD sk];exact⟨λz=>by lia,λz=>cG z.symm kt⟩
   .rw[cD h,hk];split
    .rename_i h;exact⟨λ_=>rfl,λ_=>h⟩
    .rename_i h;exact⟨λz=>cG z h,λz=>cG z.symm kt⟩
  .rw[cD h2,hk];split
   .rename_i h;subst h;exact⟨λz=>cG z h1,λz=>cG z h2⟩
   .exact Iff.rfl
def CZ(g0:wS F R cs)(L:FU F R cs au s t)(hp:pr<4):Kj F R cs s t pr/8=au/\Kj F R cs s t pr<16/\1<=Kj F R cs s t pr%8/\Kj F R cs s t pr%8<=6:=by
 have h:=L.c;have hv:=g0.cl.v s;have pv:=Mj g0 L.v;unfold Kj;split
 .exact Ug hp h hv
 .exact⟨h,hv,pv⟩
def Vs(g0:wS F R cs)(L:FU F R cs au s t)(hp:pr<4)(i:Nat):(li F R cs s t pr).getD i 0<16/\((li F R cs s t pr).getD i 0=0\/1<=(li F R cs s t pr).getD i 0%8/\(li F R cs s t pr).getD i 0%8<=6):=by
 have z:=CZ (pr:=pr) g0 L hp;rw[uZ g0.cl.l L.hs L.ht L.ne];split
 .exact⟨by decide,.inl rfl⟩
 .split
  .exact⟨z.2.1,.inr z.2.2⟩
  .exact⟨g0.cl.v i,g0.pv i⟩
def LH(g0:wS F R cs)(L:FU F R cs au s t)(hp:pr<4):wS F R (li F R cs s t pr):=by
 ext s t au pr cs;have kk:∀c,c<2->∃k,k<F*R/\∀i,(li F R cs s t pr).getD i 0=c*8+6↔i=k:=λc hc=>by
  ext c;obtain⟨K,hK,hk⟩:=g0.king hc;exact⟨rV K s t,by unfold rV;split;exact L.ht;exact hK,J7 g0 L hp hc hk⟩
 refine⟨⟨g0.cl.bd,Tk.trans g0.cl.l,λi=>(Vs g0 L hp i).1⟩,λi=>(Vs g0 L hp i).2,kk 0 ⋯,kk 1 ⋯,λi hi h=>?_⟩;ext i;rw[uZ g0.cl.l L.hs L.ht L.ne] at h;split at h
 .cases h
 .split at h
  .rename_i e;subst e;unfold Kj at h;split at h
   .lia
   .rename_i np;have hF:=g0.cl.bd.f;have n1:¬(i/F=0\/i/F=R - 1):=λz=>np ⟨h,z⟩;have r1:i/F<R:=g8 hi;constructor
    .refine dZ λz=>n1 (.inl (hI z))
    .have a1:i/F+1<R:=by
      revert n1 r1;generalize i/F=q;intro n1 r1;lia
     have a2:i<F*(i/F+1):=kN i (by lia);have a3:F*(i/F+1+1)<=F*R:=ib F a1;rw[Nat.mul_add F (i/F+1) 1] at a3;lia
  .exact g0.pw i hi h
def Xi(g:Gp F R cs au az)(L:FU F R cs au s t)(f:sZ F R cs s t=true)(hp:pr<4):tF F R (li F R cs s t pr) ((li F R cs s t pr).idxOf (14 - 8*(1 - au))) (1 - (1 - au))=true:=by
 ext s t au az pr cs;have g0:=g.cg;have aX:=g.sd;obtain⟨K,hK,hk⟩:=g0.king aX;ext K;have e1:14 - 8*(1 - au)=au*8+6:=(Ry aX).2;have e2:1 - (1 - au)=au:=ff2 aX;have kl:rV K s t<F*R:=by unfold rV;split;exact L.ht;exact hK
 have g1:=LH (pr:=pr) g0 L hp;rw[e1,e2,(wX g1.cl.l kl (J7 g0 L hp aX hk)).2,Ag g1 aX];have ff:=(Dj g0 L.hs L.ht L.ne ⟨L.v,L.c⟩ aX L.o hk hK).mp f;rintro a ⟨h1,h2,h3,h4⟩;ext a;have ng:=uZ (pr:=pr) g0.cl.l L.hs L.ht L.ne;have nvs:=CZ (pr:=pr) g0 L hp;have oc:uX (li F R cs s t pr)=zv cs s t:=by
  funext x;ext x;unfold uX zv;rw[ng];by_cases x1:x=s
  .subst x1;rw[cC rfl,cz (p:=x=t) L.ne];simp
  .rw[cD x1];by_cases x2:x=t
   .subst x2;rw[cC rfl];simp only[decide_true,lV];exact cy (by lia)
   .rw[cD x2];simp [x1,x2]
 have as:a≠s:=λe=>by rw[ng,cC e] at h2;exact h2 rfl
 have at':a≠t:=λe=>by rw[ng,cD as,cC e] at h3;lia
 rw[ng,cD as,cD at'] at h2 h3 h4;rw[oc] at h4;exact ff a at' ⟨h1,h2,h3,h4⟩
def zO:∀n i,(sL F R cs az n).testBit i=(decide (i<n)&&wG F R cs az i)
 | 0,i=>by show(0:Nat).testBit i=_;simp
 | n+1,i=>by
  have e:(sL F R cs az (n+1)).testBit i=((sL F R cs az n).testBit i||(decide (n=i)&&wG F R cs az n)):=by
   show(if wG F R cs az n=true then sL F R cs az n ||| 1 <<< n else sL F R cs az n).testBit i=_;by_cases h:wG F R cs az n=true
   .rw[cC h,dv,pY,dj,h,jF]
   .rw[cD h,(by simpa using h:wG F R cs az n=false),fX,iS]
  rw[e,zO n i];by_cases h1:n=i
  .subst h1;simp
  .have:decide (i<n+1)=decide (i<n):=by rw[decide_eq_decide];lia
   rw[this,cz h1];simp
def Vo:sL F R cs az 4<16:=by
 refine h9 (n:=4) _ λi hi=>?_;rw[zO,cz (by lia)];rfl
def Nc(g:Gp F R cs au az)(m:(s,t)∈qV F R cs au)(f:sZ F R cs s t=true)(hp:pr<4):Gp F R (li F R cs s t pr) (1 - au) (sL F R (li F R cs s t pr) az 4):=by
 ext s t au az pr cs;have L:=vi g m;have aX:=g.sd;refine⟨LH g.cg L hp,Xi g L f hp,λi hi h=>?_,by lia,Vo⟩;ext i;have h:=tD.mp h;rw[zO,ax] at h;have h:=h.2;unfold wG at h;rw[ax,ax,cu,cu,cu] at h;have home:=g.rt i hi h.1;unfold wT at home ⊢;rw[ax,ax,cu,cu] at home;obtain⟨eF,eR,_⟩:=home;rw[eF,eR] at h ⊢;rw[ax,ax,ax,cu,cu,cu,cu];have a1:i/2*7*(3 - 1)=i/2*14:=by lia
 rw[a1] at h;exact⟨rfl,rfl,h.2.1,h.2.2⟩
def Sr:((cn 21).all λx=>(cn 4).all λi=>((dL 7 3 true).lost.getD x 0).testBit i == (decide (x=i/2*14+3)||decide (x=i/2*14+6*(1 - i%2))))=true:=by decide +kernel
def Je(hx:x<21)(hi:i<4):((dL 7 3 true).lost.getD x 0).testBit i=true↔x=i/2*14+3\/x=i/2*14+6*(1 - i%2):=by
 rw[cH (cK.mp (cK.mp Sr x (cL.mpr hx)) i (cL.mpr hi)),cT,cu,cu]
def Pi(g:Gp 3 4 cs au az):az=0:=by
 refine dX λi=>?_;rw[du];refine eK.mpr λz=>?_;by_cases hi:i<4
 .have:=g.rt i hi (tD.mpr z);unfold wT at this;simp at this
 .have h16:=g.r16;have:az.testBit i=false:=j6 (cM h16 (eE (n:=2) ⋯ (show 4<=i by lia)));rw[this] at z;cases z
def TK(hcc:Cc F R cc)(g:Gp F R cs au az)(m:(s,t)∈qV F R cs au)(hp:pr<4):xw (dL F R cc) () s t=sL F R (li F R cs s t pr) az 4:=by
 ext s t au az aA av kx pr cs ay;have L:=vi g m;have er:xw (dL F R cc) () s t=oh az ((dL F R cc).lost.getD s 0 ||| (dL F R cc).lost.getD t 0):=rfl;rw[er];refine dX λi=>?_;ext i;rw[qf,zO,da];by_cases hr:az.testBit i=true
 .have hi:i<4:=cJ λz=>by
   have h16:=g.r16;have:az.testBit i=false:=j6 (cM h16 (eE (n:=2) ⋯ (show 4<=i by lia)));rw[this] at hr;cases hr
  rw[hr,cy hi,eQ,eQ];rcases hcc with⟨eF,eR,_⟩ | ⟨eF,eR,ec⟩
  .rw[eF,eR] at g;rw[Pi g,du] at hr;cases hr
  .have home:=g.rt i hi (tD.mpr hr);rw[eF,eR,ec];rw[eF,eR] at home;unfold wT at home;rw[ax,ax,ax,cu,cu,cu,cu] at home;obtain⟨_,_,h1,h2⟩:=home;have ng:=uZ (pr:=pr) g.cg.cl.l L.hs L.ht L.ne;have nvs:=CZ (pr:=pr) g.cg L hp;have ot:=L.o;rw[eF,eR] at ng nvs;have ke:∀q,cs.getD q 0≠0->((li 7 3 cs s t pr).getD q 0=cs.getD q 0↔q≠s/\q≠t):=λq h0=>by
    ext q;rw[ng];by_cases q1:q=s
    .rw[cC q1];exact⟨λe=>cG e.symm h0,λe=>cG q1 e.1⟩
    .rw[cD q1];by_cases q2:q=t
     .rw[cC q2,<-q2];rw[<- q2] at ot nvs;refine⟨λe=>?_,λe=>cG rfl e.2⟩;rcases ot with z | z<;>lia
     .rw[cD q2];exact⟨λw=>⟨q1,q2⟩,λw=>rfl⟩
   have a1:i/2*7*(3 - 1)=i/2*14:=by lia
   unfold wG;rw[ax,ax,cu,cu,cu,a1,<-h1,<-h2];rw[ke _ (by rw[h1];lia),ke _ (by rw[h2];lia),dc,eK,Ne,dv,cT,Je (by have:=L.hs;rw[eF,eR] at this;lia) hi,Je (by have:=L.ht;rw[eF,eR] at this;lia) hi];have hr':=tD.mpr hr;constructor
   .intro h;exact⟨hr',⟨λe=>h (.inl (.inl e.symm)),λe=>h (.inr (.inl e.symm))⟩,⟨λe=>h (.inl (.inr e.symm)),λe=>h (.inr (.inr e.symm))⟩⟩
   .rintro⟨_,⟨x1,x2⟩,x3,x4⟩ ((e | e) | (e | e))
    .exact x1 e.symm
    .exact x3 e.symm
    .exact x2 e.symm
    .exact x4 e.symm
 .have hr':¬az >>> i &&& 1≠0:=λz=>hr (tD.mp z);unfold wG;rw[cz hr',(by simpa using hr:az.testBit i=false)];simp
end
section
variable{s t s' t' au az pr pr' n i j k m:Nat}{cs ds:List Nat}{S S':qm}
abbrev F1(n v s:Nat):Nat:=if v=0 then 0 else if v=1 then 100+(n - s) else if v=9 then 100+s else 100
abbrev CH(f:Nat->Nat):Nat->Nat
 | 0=>0
 | n+1=>CH f n+f n
def GM:∀n,(∀i,i<n->g i=f i)->CH g n=CH f n
 | 0,_=>rfl
 | n+1,h=>by
  show CH g n+g n=CH f n+f n;rw[GM n λi hi=>h i (by lia),h n (by lia)]
def GR(h:∀i,i≠s->g i=f i):∀n,s<n->CH g n+f s=CH f n+g s
 | 0,h0=>cG h0 (fy _)
 | n+1,h0=>by
  show CH g n+g n+f s=CH f n+f n+g s;by_cases e:s=n
  .subst e;have:=GM (f:=f) (g:=g) s λi hi=>h i (by lia);lia
  .have a:=GR h n (by lia);have b:=h n (dQ e);lia
def TN{f g:Nat->Nat}(hs:s<n)(ht:t<n)(ne:s≠t)(h:∀i,i≠s->i≠t->g i=f i):CH g n+(f s+f t)=CH f n+(g s+g t):=by
 ext s t n f g;have a:=GR (f:=f) (g:=λi=>if i=s then g s else f i) (s:=s) (λi hi=>cD hi) n hs;have b:=GR (f:=λi=>if i=s then g s else f i) (g:=g) (s:=t) (λi hi=>by
  by_cases e:i=s
  .subst e;exact(cC rfl).symm
  .exact(h i e hi).trans (cD e).symm) n ht
 have e1:(if s=s then g s else f s)=g s:=cC rfl;have e2:(if t=s then g s else f t)=f t:=cD (dQ ne);simp only[e1,e2,if_true] at a b;lia
abbrev S8(F R:Nat)(cs:List Nat):Nat:=CH (λi=>F1 (F*R) (cs.getD i 0) i) (F*R)
def WD(h:k≠0):100<=F1 n k s:=by
 unfold F1;rw[cD h];split
 .lia
 .split<;>lia
def E2(h:k%8≠1)(h0:k≠0):F1 n k s=100:=by
 unfold F1;rw[cD h0,cD (by lia),cD (by lia)]
def SR(g0:wS F R cs)(hc:au<2)(L:FU F R cs au s t)(hp:pr<4):S8 F R (li F R cs s t pr)<=S8 F R cs/\(¬uB cs s t->S8 F R (li F R cs s t pr)<S8 F R cs):=by
 ext s t au pr cs;have ng:=uZ (pr:=pr) g0.cl.l L.hs L.ht L.ne;have z:=TN (n:=F*R) (f:=λi=>F1 (F*R) (cs.getD i 0) i) (g:=λi=>F1 (F*R) ((li F R cs s t pr).getD i 0) i) L.hs L.ht L.ne λi h1 h2=>by rw[ng,cD h1,cD h2]
 have gs:(li F R cs s t pr).getD s 0=0:=by rw[ng,cC rfl]
 have gt:(li F R cs s t pr).getD t 0=Kj F R cs s t pr:=by rw[ng,cD (dQ L.ne),cC rfl]
 have w0:F1 (F*R) 0 s=0:=rfl;rw[gs,gt,w0] at z;have z:S8 F R (li F R cs s t pr)+(F1 (F*R) (cs.getD s 0) s+F1 (F*R) (cs.getD t 0) t)=S8 F R cs+(0+F1 (F*R) (Kj F R cs s t pr) t):=z;have hF:=g0.cl.bd.f;have le:F1 (F*R) (Kj F R cs s t pr) t<=F1 (F*R) (cs.getD s 0) s/\(cs.getD s 0%8=1->F1 (F*R) (Kj F R cs s t pr) t<F1 (F*R) (cs.getD s 0) s):=by
  by_cases p1:cs.getD s 0%8=1
  .suffices h:F1 (F*R) (Kj F R cs s t pr) t<F1 (F*R) (cs.getD s 0) s from⟨dH h,λw=>h⟩
   have pk:=g0.pw s L.hs p1;have hs:=L.hs;have lc:=L.c;have pg:=AP g0 hc (s:=s) ⟨L.hs,L.v,L.c,p1⟩ L.g;have dir:if au=0 then s<t else t<s:=by
    unfold w8 KJ at pg;by_cases h0:au=0
    .rw[cC h0] at pg ⊢;rcases pg with⟨_,e⟩ | ⟨_,_,wg,_,e⟩
     .lia
     .by_cases hw:wg=0
      .rw[cC hw,ax,cu,cu] at e;lia
      .rw[cD hw,ax,cu,cu] at e;lia
    .rw[cD h0] at pg ⊢;rcases pg with⟨_,e⟩ | ⟨_,_,wg,_,e⟩
     .lia
     .by_cases hw:wg=0
      .rw[cC hw,ax,cu,cu] at e;lia
      .rw[cD hw,ax,cu,cu] at e;lia
   have wb:100<F1 (F*R) (cs.getD s 0) s:=by
    unfold F1;rw[cD L.v];by_cases h0:au=0
    .rw[cC (by lia)];lia
    .rw[cD (by lia),cC (by lia)];lia
   unfold Kj;by_cases h:pF F R cs s t
   .rw[cC h,E2 (by lia) (by lia)];exact wb
   .rw[cD h];have ht:=L.ht;unfold F1;rw[cD L.v,cD L.v];by_cases h0:au=0
    .rw[cC h0] at dir;rw[cC (by lia),cC (by lia)];lia
    .rw[cD h0] at dir;rw[cD (by lia),cC (by lia),cD (by lia),cC (by lia)];lia
  .refine⟨?_,λz=>cG z p1⟩;unfold Kj;rw[cD (λh=>p1 h.1),E2 p1 L.v,E2 p1 L.v];exact cX _
 refine⟨by lia,λq=>?_⟩;unfold uB at q;by_cases h1:cs.getD s 0%8=1
 .have:=le.2 h1;lia
 .have h2:cs.getD t 0≠0:=λe=>q ⟨e,h1⟩;have:=WD (n:=F*R) (s:=t) h2;lia
def Ed:(sI n sd r).testBit x=(decide (15*n+r=x) ^^ (decide (sd=1)&&decide (15*n+16=x))):=by
 unfold sI;rw[fe,pY,dj];by_cases h:sd=1
 .rw[cC h,pY,dj,cy h,eQ]
 .rw[cD h,du,cz h,kJ]
def M6{sd r v:Nat}(hn:0<n)(hi:i<n)(h0:v≠0)(hv:v<15):(z9 n cs ^^^ sI n sd r).testBit (v*n+i)=decide (cs.getD i 0=v):=by
 ext n i cs sd r v;have l:v*n+i<15*n:=by
  have:=dA n (show v+1<=15 from hv);rw[jx] at this;lia
 have e1:(v*n+i)/n=v:=by rw[dU,j7 _ _ hn,hI hi,dY]
 have e2:(v*n+i)%n=i:=by rw[dU,jl,hU hi]
 rw[fe,Ed];unfold z9;rw[pR,e1,e2,cy l,cy h0,cz (p:=15*n+r=v*n+i) (by lia),cz (p:=15*n+16=v*n+i) (by lia)];simp
def v15(g0:wS F R cs)(i:Nat):cs.getD i 0<15:=by
 have:=g0.cl.v i;rcases g0.pv i with z | z<;>lia
def TW(h:cs.length=ds.length)(e:∀i,cs.getD i 0=ds.getD i 0):cs=ds:=by
 refine jR h λi h1 h2=>?_;have:=e i
 rwa [ba,ba,a7 h1,a7 h2] at this
def Nw(g:Gp F R S.1 S.2.1 S.2.2)(g':Gp F R S'.1 S'.2.1 S'.2.2)(e:yH (F*R) S=yH (F*R) S'):S=S':=by
 ext S S';obtain⟨cs,sd,r⟩:=S;ext cs sd r;obtain⟨ds,sd',r'⟩:=S';dsimp only at g g' e;unfold yH at e;dsimp only at e;have hn:0<F*R:=Nat.mul_pos (by have:=g.cg.cl.bd.f;lia) (by have:=g.cg.cl.bd.r;lia);have hl:=g.cg.cl.l;have hl':=g'.cg.cl.l;have h1:=g.sd;have h2:=g'.sd;have r1:=g.r16;have r2:=g'.r16;have ec:cs=ds:=by
  refine TW (hl.trans hl'.symm) λi=>?_;by_cases hi:i<F*R
  .have b:∀v,v≠0->v<15->(cs.getD i 0=v↔ds.getD i 0=v):=λv h0 hv=>by
    have a1:=M6 (cs:=cs) (sd:=sd) (r:=r) hn hi h0 hv;rw[e,M6 hn hi h0 hv] at a1;rw[decide_eq_decide] at a1;exact a1.symm
   by_cases z:cs.getD i 0=0
   .by_cases z':ds.getD i 0=0
    .rw[z,z']
    .exact(b _ z' (v15 g'.cg i)).mpr rfl
   .exact((b _ z (v15 g.cg i)).mp rfl).symm
  .rw[w5 (by lia),w5 (by lia)]
 ext ds sd' r';subst ec;have ek:sI (F*R) sd r=sI (F*R) sd' r':=by
  have:=cF (z9 (F*R) cs ^^^ ·) e
  rwa [<- d9,<-d9,jg,j5,j5] at this
 have b1:=cF (·.testBit (15*(F*R)+16)) ek;have b2:=cF (·.testBit (15*(F*R)+r)) ek;rw[Ed,Ed,cz (p:=15*(F*R)+r=15*(F*R)+16) (by lia),cz (p:=15*(F*R)+r'=15*(F*R)+16) (by lia)] at b1;rw[Ed,Ed,cz (p:=15*(F*R)+16=15*(F*R)+r) (by lia)] at b2;simp at b1 b2;have es:sd=sd':=by lia
 have er:r=r':=by lia
 rw[es,er]
def UQ(g0:wS F R cs)(hc:au<2)(L:FU F R cs au s t)(hp:pr<4)(L':FU F R (li F R cs s t pr) (1 - au) s' t')(hp':pr'<4):li F R (li F R cs s t pr) s' t' pr'≠cs:=by
 ext s t s' t' au pr pr' cs;exact λe=>by
  have g1:=LH (pr:=pr) g0 L hp;have a:=uZ (pr:=pr) g0.cl.l L.hs L.ht L.ne s;have b:=uZ (pr:=pr') g1.cl.l L'.hs L'.ht L'.ne s;have nvs:=CZ (pr:=pr') g1 L' hp';have v:=L.v;have c:=L.c;rw[cC rfl] at a;rw[e,a] at b;split at b
  .exact v b
  .split at b
   .rw[<- b] at nvs;lia
   .exact v b
end
section
variable{s t au az pr n i j k m aA aC h0 av:Nat}{cs ds:List Nat}{S S' S0 X Y:qm}{SS:List qm}{aB c:Bool}{ay:List V}{P:Ps}{ks:List Nat}
abbrev Yn(F R:Nat)(S:qm):Prop:=Gp F R S.1 S.2.1 S.2.2
def Mc(g:Yn F R S)(L:H5 F R S s t):FU F R S.1 S.2.1 s t:=vi g L.m
def TH(g:Yn F R S)(L:H5 F R S s t)(hp:pr<4):Yn F R (rB F R S s t pr):=Nc g L.m L.f hp
structure ChI (F R:Nat) (S0:qm) (h0:Nat) (SS:List qm) (aA aC:Nat) (aB:Bool):Prop where
 gp:∀(i:Nat) X,SS[i]? =J X->Yn F R X
 par:∀(i:Nat) X,SS[i]? =J X->(X.2.1+i)%2=S0.2.1%2
 st:∀(i:Nat) X Y,SS[i]? =J X->SS[i+1]? =J Y->∃s t pr,H5 F R X s t/\pr<4/\Y=rB F R X s t pr
 lt:aC<SS.length
 hf:aC=0/\aA=h0+(SS.length - 1)\/aA+aC+1=SS.length
 ph:∀S,SS.getLast? =J S->∀(i:Nat) X,SS[i]? =J X->S8 F R S.1<=S8 F R X.1/\(i<aC->S8 F R S.1<S8 F R X.1)
 ag:aB=true↔∃(i j:Nat) (X:qm),aC<=i/\i<j/\SS[i]? =J X/\SS[j]? =J X
def sN(h:(l++[x])[i]? =J y):l[i]? =J y\/i=l.length/\y=x:=by
 by_cases e:i<l.length
 .rw[ar e] at h;exact .inl h
 .rw[cQ (by lia)] at h;by_cases e2:i - l.length=0
  .rw[e2] at h;exact .inr ⟨by lia,(cI h).symm⟩
  .rw[eH (by simp;lia)] at h;cases h
def NI{l:List α}{x:α}(h:l.getLast? =J x):l[l.length - 1]? =J x:=by rw[<- fD];exact h
def Qa(g:Yn F R S0)(C:u0 F R S0 h0 SS aA aC aB):ChI F R S0 h0 SS aA aC aB:=by
 ext aA aC h0 S0 SS aB
 induction C with
 | base=>
  have one:∀{i:Nat} {X:qm},[S0][i]? =J X->i=0/\X=S0:=λ{i X} h=>by
   rcases sN (l:=[]) h with z | z
   .cases z
   .exact z
  refine⟨λi X h=>by rw[(one h).2];exact g,λi X h=>by rw[(one h).1,(one h).2];rfl,λi X Y w h=>cG (one h).1 (iN _),by simp,.inl ⟨rfl,rfl⟩,λS h i X hX=>?_,⟨λh=>Bool.noConfusion h,λ⟨i,j,X,_,h1,h2,h3⟩=>by have:=(one h3).1;lia⟩⟩;have e:S0=S:=cI h;rw[(one hX).2,<-e];exact⟨cX _,λh=>cG h (fy _)⟩
 | @step SS aA aC aB S s t pr C l L hp ih=>
  have lg:=NI l;have gS:=ih.gp _ _ lg;have gN:=TH (pr:=pr) gS L hp;have ll:=ih.lt;have LF:=Mc gS L;have ps:=SR gS.cg gS.sd LF hp;have nx:(rB F R S s t pr).1=li F R S.1 s t pr:=rfl;have ns:(rB F R S s t pr).2.1=1 - S.2.1:=rfl;refine⟨λi X h=>?_,λi X h=>?_,λi X Y h h'=>?_,?_,?_,λS' h i X hX=>?_,?_⟩
  .rcases sN h with z | z
   .exact ih.gp i X z
   .rw[z.2];exact gN
  .rcases sN h with z | z
   .exact ih.par i X z
   .have p:=ih.par _ _ lg;have sd:=gS.sd;rw[z.2,z.1,ns];lia
  .rcases sN h' with z | z
   .rcases sN h with y | y
    .exact ih.st i X Y y z
    .rw[y.1,eH (by lia)] at z;cases z
   .rcases sN h with y | y
    .have e:i=SS.length - 1:=by lia
     rw[e,lg] at y;rw[<- cI y,z.2];exact⟨s,t,pr,L,hp,rfl⟩
    .lia
  .rw[a6];show _<SS.length+1;split<;>lia
  .rw[a6];show _\/_+_+1=SS.length+1;unfold sW;by_cases q:uB S.1 s t
   .rw[cC q,cC q];rcases ih.hf with z | z
    .refine .inl ⟨z.1,?_⟩;show _=h0+(SS.length+1 - 1)
     lia
    .exact .inr (by lia)
   .rw[cD q,cD q];exact .inr (by lia)
  .rw[List.getLast?_concat] at h;have h:=cI h;rw[<- h,nx];rcases sN hX with z | z
   .have o:=ih.ph S l i X z;by_cases q:uB S.1 s t
    .rw[cC q];exact⟨cO ps.1 o.1,λhi=>ae ps.1 (o.2 hi)⟩
    .rw[cD q];exact⟨cO ps.1 o.1,λhi=>cM (ps.2 q) o.1⟩
   .rw[z.2,nx];refine⟨cX _,λhi=>?_⟩;rw[z.1] at hi;split at hi<;>lia
  .rw[cT,cu];by_cases q:uB S.1 s t
   .rw[cC q,cC q,ih.ag];constructor
    .rintro(⟨i,j,X,h1,h2,h3,h4⟩ | h)
     .exact⟨i,j,X,h1,h2,by rw[ar (f0 h3)];exact h3,by rw[ar (f0 h4)];exact h4⟩
     .obtain⟨i,hi⟩:=ku.mp h;rw[lD] at hi;have lt:=f0 hi;exact⟨aC+i,SS.length,_,by lia,lt,by rw[ar lt];exact hi,by rw[cQ (cX _),eD];rfl⟩
    .rintro⟨i,j,X,h1,h2,h3,h4⟩;rcases sN h3 with z | z
     .rcases sN h4 with y | y
      .exact .inl ⟨i,j,X,h1,h2,z,y⟩
      .refine .inr (ku.mpr ⟨i - aC,?_⟩);rw[lD,<-y.2,(by lia:aC+(i - aC)=i)];exact z
     .have lt:=f0 h4;rw[a6] at lt;have lt:j<SS.length+1:=lt;lia
   .rw[cD q,cD q,jY (cX _)];constructor
    .rintro(h | h)
     .cases h
     .cases h
    .rintro⟨i,j,X,h1,h2,h3,h4⟩;have lt:=f0 h4;rw[a6] at lt;have lt:j<SS.length+1:=lt;lia
def ar5(h:s+r=N)(h2:i+x=N)(h3:s<=i):x<=r:=by lia
def ar8(h:s+r=N)(h2:i+x=N)(h3:x<=r):s<=i:=by lia
def ar9(h:i+a=N)(h2:j+(a+4+2*b)=N):j<i:=by lia
def aaL(h:i+q+a=N):i+(a+q)=N:=by lia
def apart(I:ChI F R S0 h0 SS aA aC aB)(hi:SS[i]? =J X)(hj:SS[i+q]? =J X)(h:0<q):q%2=0/\4<=q:=by
 have e:q%2=0:=ar6 (I.par i X hi) (I.par _ X hj);refine⟨e,cJ λz=>?_⟩;have ej:q=1+1:=ar7 e h z;subst ej;obtain⟨Y,hY⟩:=(⟨_,a7 (Nat.lt_of_succ_lt (f0 hj))⟩:∃Y,SS[i+1]? =J Y)
 obtain⟨s,t,pr,L,hp,eY⟩:=I.st i X Y hi hY;obtain⟨s',t',pr',L',hp',eX⟩:=I.st (i+1) Y X hY hj;have gX:=I.gp i X hi;have l2:=Mc (I.gp _ Y hY) L';subst eY;exact UQ gX.cg gX.sd (Mc gX L) hp l2 hp' (cF kH eX).symm
def Ef:∀{l l':List Nat},l.Pairwise (·<·)->l'.Pairwise (·<·)->(∀x,x∈l↔x∈l')->l=l'
 | [],[],_,_,_=>rfl
 | [],b::l',_,_,h=>cG ((h b).mpr (.head _)) (by simp)
 | a::l,[],_,_,h=>cG ((h a).mp (.head _)) (by simp)
 | a::l,b::l',h1,h2,h=>by
  have p1:=lE.mp h1;have p2:=lE.mp h2;have ab:a=b:=by
   rcases dP.mp ((h a).mp (.head _)) with z | z
   .exact z
   .rcases dP.mp ((h b).mpr (.head _)) with y | y
    .exact y.symm
    .have:=p1.1 b y;have:=p2.1 a z;lia
  subst ab
  (rewrite [Ef p1.2 p2.2 λx=>⟨λhx=>?_,λhx=>?_⟩];try with_reducible rfl)
  .rcases dP.mp ((h x).mp (.tail _ hx)) with z | z
   .have:=p1.1 x hx;lia
   .exact z
  .rcases dP.mp ((h x).mpr (.tail _ hx)) with z | z
   .have:=p2.1 x hx;lia
   .exact z
set_option tactic.hygienic true in
def M1(n:Nat):x∈tH P ks n↔∃j,j<n/\x=4+2*j/\Cr P ks x=P.key:=by
 induction n with
 | zero=>exact⟨(nomatch ·),λ⟨_,h⟩=>cG h.1 (fy _)⟩
 | succ n ih=>
  show x∈tH P ks n++(if Cr P ks (4+2*n)=P.key then[4+2*n] else[])↔_;rw[cS,ih];exact⟨λh=>h.elim (λ⟨j,h⟩=>⟨j,gY h.1,h.2⟩) λh=>⟨n,dM _,dT.mp (Ar h).2,(dT.mp (Ar h).2).symm▸(Ar h).1⟩,
   λ⟨j,h⟩=>(jG.mp h.1).elim (λq=>.inl ⟨j,q,h.2⟩) λq=>.inr (by rw[cC (q▸h.2.1▸h.2.2),h.2.1,q];exact .head _)⟩
def LP(n:Nat):(tH P ks n).Pairwise (·<·):=by
 induction n with
 | zero=>exact List.Pairwise.nil
 | succ n ih=>
  refine List.pairwise_append.mpr ⟨ih,by split<;>simp,λa ha b hb=>?_⟩;obtain⟨j,h1,h2,_⟩:=(M1 n).mp ha;have:=dT.mp (Ar hb).2;lia
def Pt{x N:Nat}(hN:SS.length=N+1)(l:SS[N]? =J S):x∈xe SS↔0<x/\∃i,i+x=N/\SS[i]? =J S:=by
 ext S SS x N;have gd:∀i,i<N->(SS.getD i ([],0,0)=SS.getD N ([],0,0)↔SS[i]? =J S):=λi hi=>by
  rw[ba,ba,l,a7 (hN▸gY hi)];exact⟨λh=>cF J h,λh=>cI h⟩
 unfold xe;rw[d7,hN,fh];constructor
 .rintro⟨i,h,h3⟩;have h:=eg.mp h;have h1:=cL.mp h.1;exact⟨h3▸gk h1,i,h3▸jd (dH h1),(gd i h1).mp (b9 h.2)⟩
 .rintro⟨h1,i,h2,h3⟩;have hi:i<N:=h2▸fp h1;exact⟨i,eg.mpr ⟨cL.mpr hi,cy ((gd i hi).mpr h3)⟩,by rw[<- h2,d0]⟩
def Hv:(xe SS).reverse.Pairwise (·<·):=by
 rw[List.pairwise_reverse];unfold xe;rw[List.pairwise_map];refine List.Pairwise.imp_of_mem ?_ (kM _ List.pairwise_lt_range);intro a b _ hb h;exact kQ (cU h (cL.mp (eg.mp hb).1)) h
def W7(I:ChI F R S0 h0 SS aA aC aB)(hN:SS.length=N+1)(hh:ay.length=N):∃r,aC+r=N/\rK (pJ (F*R) S aA av ay)=r:=by
 have e:rK (pJ (F*R) S aA av ay)=if aA<N then aA else N:=by rw[<- hh];rfl
 have lt:=I.lt;have hf:=I.hf;rw[e];rw[hN] at lt hf;rcases hf with⟨z,y⟩ | z
 .exact⟨N,by rw[z,dY],cD (by rw[y];exact fV.mpr (iX _ _))⟩
 .have z:aA+aC=N:=gu z;refine⟨aA,(dU _ _).trans z,?_⟩;split
  .rfl
  .rename_i h;exact iu (fV.mp h) (z▸de _ _)
def Gl(hN:SS.length=N+1)(l:SS[N]? =J S)(hi:i+k=N)(hX:SS[i]? =J X):Cr (pJ n S aA av ay) (SS.dropLast.map (yH n)) k=yH n X:=by
 unfold Cr;by_cases e:k=0
 .subst e hi;rw[cC rfl];rw[jU,hX] at l;rw[cI l];rfl
 .rw[cD e,bj,hH,hN,fh,<-hi,fh,ba,cV,List.getElem?_dropLast,hN,<-hi,fh,cC (fp (ef e)),hX];rfl
def RN(hN:SS.length=N+1)(h:k<=N):∃i X,i+k=N/\SS[i]? =J X:=
 ⟨N - k,_,eM h,a7 (hN▸gj (eJ _ _))⟩
def Wn(g:Yn F R S0)(C:u0 F R S0 h0 SS aA aC aB)(l:SS.getLast? =J S)(hh:ay.length+1=SS.length):
  tH (pJ (F*R) S aA av ay) (SS.dropLast.map (yH (F*R))) (rO (pJ (F*R) S aA av ay))=(xe SS).reverse/\LO (pJ (F*R) S aA av ay) (SS.dropLast.map (yH (F*R)))=aB:=by
 ext aA aC h0 av S S0 SS aB ay;have I:=Qa g C;have hN:=hh.symm;have lg:=NI l;rw[hN,fh] at lg;obtain⟨r,hr,rev⟩:=W7 (S:=S) (av:=av) (ay:=ay) I hN rfl;ext r;have rN:r<=ay.length:=hr▸iX _ _;constructor
 .refine Ef (LP _) Hv λx=>?_;ext x;rw[M1,iP,Pt hN lg];unfold rO;rw[rev];constructor
  .rintro⟨j,h1,h2,h3⟩;have a:=ar1 h1 h2;obtain⟨i,X,hi,hX⟩:=RN hN (cO a.2 rN);rw[Gl hN lg hi hX] at h3;exact⟨a.1,i,hi,Nw (I.gp _ X hX) (I.gp _ S lg) h3▸hX⟩
  .rintro⟨h1,i,h2,h3⟩;have ap:=apart I h3 (h2.symm▸lg) h1;have sn:aC<=i:=fV.mp λz=>eU _ ((I.ph S l _ S h3).2 z);obtain⟨j,j1,j2⟩:=ar2 ap (ar5 hr h2 sn);exact⟨j,j1,j2,Gl hN lg h2 h3⟩
 .rw[da,I.ag];unfold LO QV;rw[rev,eu];constructor
  .rintro⟨a,ha,h⟩;ext a;obtain⟨j,hj,h⟩:=eu.mp h;have le:=ar3 (cL.mp hj);obtain⟨i,X,hi,hX⟩:=RN (k:=a) hN (cO (Nat.lt_succ_iff.mp (cL.mp ha)) rN);obtain⟨i',Y,hi',hY⟩:=RN (k:=a+4+2*j) hN (cO le rN);have h:=b9 h;rw[Gl hN lg hi hX,Gl hN lg hi' hY] at h;exact⟨i',i,X,ar8 hr hi' le,ar9 hi hi',Nw (I.gp _ X hX) (I.gp _ Y hY) h▸hY,hX⟩
  .rintro⟨i,j,X,h1,h2,h3,h4⟩;obtain⟨q,q0,e⟩:=(⟨j - i,gk h2,jd (dH h2)⟩:∃q,0<q/\i+q=j)
   subst e;have ap:=apart I h3 h4 q0;obtain⟨a,ha⟩:=(⟨ay.length - (i+q),jd (dh (Nat.lt_of_lt_of_eq (f0 h4) hN))⟩:∃a,i+q+a=ay.length)
   have ha':i+(a+q)=ay.length:=aaL ha;obtain⟨j,j1,j2⟩:=ar4 (a:=a) ap (ar5 hr ha' h1);refine⟨a,cL.mpr (gj (cO (de _ _) (ar5 hr ha' h1))),eu.mpr ⟨j,cL.mpr j1,cy ?_⟩⟩;rw[j2,Gl hN lg ha h4,Gl hN lg ha' h3]
def Ze(hcc:Cc F R cc):PL F R cc where
 gd:=λS aA av ay g=>ZJ hcc g
 chk:=λS aA av ay g=>Yj g.cg g.sd
 has:=λS aA av ay g=>by
  rw[da,dc,eK,Ne,Pf,lY];exact Tv hcc g
 aE:=λS aA av ay g=>UI g.cg
 bV:=λS g=>Xs g.cg g.sd
 step:=λS s t pr g L hp=>Nc g L.m L.f hp
 kept:=λS s t pr aA av ay g L hp=>TK hcc g L.m hp
 far:=λS s t g L h1=>by
  have f:=vi g L.m;exact UA g.cg g.sd ⟨f.hs,f.v,f.c,h1⟩ f.g
 other:=λS s t g L h=>by
  have f:=vi g L.m;rcases f.o with z | z
  .exact cG z h
  .exact z
 rep:=λS0 h0 SS aA aC aB S av ay g C l hh=>Wn g C l hh
def pl:PL F R cc:=Ze (KD (C:=Cc) (.inl ⟨rfl,rfl,rfl⟩) (.inr ⟨rfl,rfl,rfl⟩))
end
end
abbrev Ay(a:H)(sp aG i:Nat):Prop:=i≠sp/\i≠aG/\(i<a.length\/a.length+5<=i)
abbrev y0(a:H)(i:Nat):Prop:=i<a.length\/a.length+5<=i
def Ay.bF(h:Ay a sp aG i):y0 a i:=h.2.2
section
variable{a c t:H}{X:uu}{P P':Ps}{i k q sp aG:Nat}{o:O}
def qg(h:y0 a i)(g:(st a X P c)[i]? =J o):(st a X P' (c++t))[i]? =J o:=by
 ext a c t X P P' i o;rcases h with h | h
 .rw[sD h] at g ⊢;exact g
 .rw[show i=a.length+5+(i - (a.length+5)) by lia,rq] at g ⊢;exact(ar (f0 g)).trans g
def GU:(st a X P c).set (a.length+5+k) o=st a X P (c.set k o):=by
 ext a c X P k o;unfold st;rw[ew _ _ (by lia),ew _ _ (by show 5<=_;lia)];congr 3;show a.length+5+k - a.length - 5=k;lia
end
abbrev xp(ok:Nat->Prop)(h:H)(q:Nat)(S:qm):Prop:=∃cq,ok q/\ok cq/\h[q]? =J (.tup [.ref cq,nv S.2.1,nv S.2.2])/\h[cq]? =J (.list (S.1.map nv))
abbrev Cv(ok:Nat->Prop)(h:H):List V->List qm->Prop
 | [],[]=>True
 | v::vs,s::ss=>(∃q,v= .ref q/\xp ok h q s)/\Cv ok h vs ss
 | _,_=>False
def xp.at{h:H}{q:Nat}{S:qm}(A:xp ok h q S):DV h q S:=by
 obtain⟨cq,_,_,h1,h2⟩:=A;exact⟨cq,h1,h2⟩
def Cv.at:∀{vs:List V} {ss:List qm},Cv ok h vs ss->wx h vs ss
 | [],[],_=>trivial
 | [],_::_,q=>q.elim
 | _::_,[],q=>q.elim
 | _::_,_::_,q=>by
  obtain⟨⟨x,h1,h2⟩,q2⟩:=q;exact⟨⟨x,h1,h2.at⟩,q2.at⟩
def xp.mono{h h':H}(k:∀i o,ok i->h[i]? =J o->h'[i]? =J o){q:Nat}{S:qm}(A:xp ok h q S):xp ok h' q S:=by
 obtain⟨cq,a1,a2,h1,h2⟩:=A;exact⟨cq,a1,a2,k _ _ a1 h1,k _ _ a2 h2⟩
def Cv.mono(k:∀i o,ok i->h[i]? =J o->h'[i]? =J o):∀{vs:List V} {ss:List qm},Cv ok h vs ss->Cv ok h' vs ss
 | [],[],_=>trivial
 | [],_::_,q=>q.elim
 | _::_,[],q=>q.elim
 | _::_,_::_,q=>by
  obtain⟨⟨x,h1,h2⟩,q2⟩:=q;exact⟨⟨x,h1,h2.mono k⟩,q2.mono k⟩
def Cv.snoc{h:H}{q:Nat}{S:qm}(A:xp ok h q S):∀{vs:List V} {ss:List qm},Cv ok h vs ss->Cv ok h (vs++[.ref q]) (ss++[S])
 | [],[],_=>⟨⟨q,rfl,A⟩,trivial⟩
 | [],_::_,q=>q.elim
 | _::_,[],q=>q.elim
 | _::_,_::_,q=>⟨q.1,q.2.snoc A⟩
def wx.drop:∀{n:Nat} {vs:List V} {ss:List qm},wx h vs ss->wx h (vs.drop n) (ss.drop n)
 | 0,_,_,q=>q
 | _+1,[],[],_=>trivial
 | _+1,[],_::_,q=>q.elim
 | _+1,_::_,[],q=>q.elim
 | n+1,_::_,_::_,q=>q.2.drop (n:=n)
def Kd{q:Nat}{S:qm}(A:DV h q S):∀{vs:List V} {ss:List qm},wx h vs ss->z8 h (.ref q) vs=J (decide (S∈ss))
 | [],[],_=>rfl
 | [],_::_,q=>q.elim
 | _::_,[],q=>q.elim
 | v::vs,s::ss,r=>by
  obtain⟨⟨x,rfl,h2⟩,r2⟩:=r;rw[z8,IR (k:=1) h2 A,Kd A r2];show J _=J _;congr 1;rw[da];simp only[cT,cu,dP,eq_comm (a:=s) (b:=S)]
inductive qx (F R:Nat) (ok:Nat->Prop) (h:H) (S0:qm) (h0:Nat):List qm->Nat->Nat->List V->Prop
 | base:qx F R ok h S0 h0 [S0] h0 1 []
 | step {SS:List qm} {aA av:Nat} {ay:List V} {S:qm} {s t pr q:Nat} (C:qx F R ok h S0 h0 SS aA av ay) (l:SS.getLast? =J S) (L:H5 F R S s t) (hp:pr<4) (hq:ok q) (g:h[q]? =J (Lm (pJ (F*R) S aA av ay) (yY F R S.1 s t pr))):
  qx F R ok h S0 h0 (SS++[rB F R S s t pr]) (sW S.1 s t aA) (if S.2.1=1 then av+1 else av) (ay++[.ref q])
section
variable{h0:Nat}{ok:Nat->Prop}{h h':H}{S0 S:qm}{SS:List qm}{aA av:Nat}{ay:List V}
def qx.mono(k:∀i o,ok i->h[i]? =J o->h'[i]? =J o)(A:qx F R ok h S0 h0 SS aA av ay):qx F R ok h' S0 h0 SS aA av ay:=by
 induction A with
 | base=>exact .base
 | step C l L hp hq g ih=>exact .step ih l L hp hq (k _ _ hq g)
def qx.len(A:qx F R ok h S0 h0 SS aA av ay):ay.length+1=SS.length:=by
 induction A with
 | base=>rfl
 | step C l L hp hq g ih=>
  rw[a6,a6];show _+1+1=_+1;lia
def qx.bT(A:qx F R ok h S0 h0 SS aA av ay):1<=av:=by
 induction A with
 | base=>exact cX _
 | step C l L hp hq g ih=>split<;>lia
def qx.gp(g0:Gp F R S0.1 S0.2.1 S0.2.2)(A:qx F R ok h S0 h0 SS aA av ay):∀S,SS.getLast? =J S->Gp F R S.1 S.2.1 S.2.2:=by
 induction A with
 | base=>intro S h;cases h;exact g0
 | step C l L hp hq g ih=>
  intro S' e;rw[hE] at e;cases e;exact pl.step _ _ _ _ (ih _ l) L hp
def Lg:∀{SS:List qm},SS.getLast? =J S->SS=SS.dropLast++[S]:=λ{SS} h=>by
 obtain⟨ys,e⟩:=List.getLast?_eq_some_iff.mp h;rw[e,iW]
def qx.hk(A:qx F R ok h S0 h0 SS aA av ay)(hP:P.ay=ay)(hl:SS.length<=100):HK h P (SS.dropLast.map (yH (F*R))):=by
 ext h0 ok h S0 SS aA av ay P;have ln:=A.len;refine⟨by rw[bj,hH,hP];lia,by rw[bj,hH];lia,λi k e=>?_⟩;ext i k;rw[hP];clear hl hP ln
 induction A with
 | base=>cases e
 | step C l L hp hq g ih=>
  rename_i SS aA av ay S s t pr q;have ln:=C.len;rw[iW] at e;have sp:=Lg l;have cl:(SS.dropLast).length+1=SS.length:=by rw[hH];lia
  by_cases hi:i<SS.dropLast.length
  .have e':(SS.dropLast.map (yH (F*R)))[i]? =J k:=by
    rw[sp,dO,ar (by rw[bj];exact hi)] at e;exact e
   obtain⟨q',b1,b2,b3,b4,b5,h1,h2⟩:=ih e';exact⟨q',b1,b2,b3,b4,b5,(ar (f0 h1)).trans h1,h2⟩
  .have e2:i=ay.length:=by
    have:=f0 e;rw[bj] at this;lia
   subst e2;have ek:k=yH (F*R) S:=by
    rw[sp,dO,cQ (by rw[bj];lia)] at e;rw[bj,show ay.length - SS.dropLast.length=0 by lia] at e;cases e;rfl
   rw[ek];have g':h[q]? =J (.tup [nv (yY F R S.1 s t pr),nv (S.1.getD (qv (yY F R S.1 s t pr)) 0),nv S.2.2,.int (-1),nv aA,nv (yH (F*R) S)]):=g;exact⟨q,_,_,_,_,_,by rw[cQ (cX _),eD];rfl,g'⟩
end
structure LF (F R:Nat) (S0:qm) (h0:Nat) (bh a h:H) (sp aG:Nat) (SS:List qm) (aA av:Nat) (ay:List V) (W0 W1:Option (Nat × Nat)):Prop where
 sp5:a.length+5<=sp
 stp5:a.length+5<=aG
 ne:sp≠aG
 sts:∃vs,h[sp]? =J (.list vs)/\Cv (Ay a sp aG) h vs SS
 steps:∃w0 w1,h[aG]? =J (.list [.ref w0,.ref w1])/\(Ay a sp aG w0/\h[w0]? =J (AT W0))/\(Ay a sp aG w1/\h[w1]? =J (AT W1))
 wr0:∀m,W0=J m->m.1<F*R
 wr1:∀m,W1=J m->m.1<F*R
 trail:qx F R (Ay a sp aG) h S0 h0 SS aA av ay
 fr:∀(i:Nat) (o:O),Ay a sp aG i->bh[i]? =J o->h[i]? =J o
def LF.frame{S0:qm}{bh a h h':H}{sp aG:Nat}{SS:List qm}{aA av:Nat}{ay:List V}{W0 W1:Option (Nat × Nat)}(A:LF F R S0 h0 bh a h sp aG SS aA av ay W0 W1)(k:∀i o,y0 a i->h[i]? =J o->h'[i]? =J o):LF F R S0 h0 bh a h' sp aG SS aA av ay W0 W1:=by
 revert sp aG SS aA av ay W0 W1;ext h0 S0 bh a h h';ext sp aG SS aA av ay W0 W1;have k':∀i o,Ay a sp aG i->h[i]? =J o->h'[i]? =J o:=λi o hi g=>k i o hi.bF g;obtain⟨vs,h1,h2⟩:=A.sts;obtain⟨w0,w1,g1,⟨g2,g3⟩,g4,g5⟩:=A.steps;exact⟨A.sp5,A.stp5,A.ne,⟨vs,k _ _ (.inr A.sp5) h1,h2.mono k'⟩,⟨w0,w1,k _ _ (.inr A.stp5) g1,⟨g2,k' _ _ g2 g3⟩,g4,k' _ _ g4 g5⟩,A.wr0,A.wr1,A.trail.mono k',λi o hi g=>k' i o hi (A.fr i o hi g)⟩
def LF.move{S0:qm}{bh a:H}{X:uu}{P P':Ps}{c:H}{sp aG:Nat}{SS:List qm}{aA av:Nat}{ay:List V}{W0 W1:Option (Nat × Nat)}(A:LF F R S0 h0 bh a (st a X P c) sp aG SS aA av ay W0 W1)(t:H):LF F R S0 h0 bh a (st a X P' (c++t)) sp aG SS aA av ay W0 W1:=
 A.frame λw w hi g=>qg hi g
def Ka{S:qm}{aA av:Nat}{ay:List V}(hl:S.1.length=F*R)(hs:S.2.1<2)(sz:F*R<=21):Xg (dL F R cc) (pJ (F*R) S aA av ay):=by
 ext S aA av ay;have ln:=C5 (G:=dL F R cc) (n:=F*R) (c:=S.1) (au:=S.2.1) (az:=S.2.2) (aA:=aA) (av:=av) (kx:=sI (F*R) S.2.1 S.2.2) (ay:=ay) hl rfl;have p64:2 ^ (F*R)<2 ^ 64:=fK ⋯ (by lia);have sS:∀i,(pJ (F*R) S aA av ay).sd i<2 ^ (F*R):=λi=>by
  by_cases h:i<2
  .exact(DI (n:=F*R) (c:=S.1) (au:=S.2.1) (az:=S.2.2) (aA:=aA) (av:=av) (kx:=sI (F*R) S.2.1 S.2.2) (ay:=ay) h)▸vL _ _
  .have:(pJ (F*R) S aA av ay).sd i=0:=vX h;rw[this];exact gb _
 have kS:∀i,(pJ (F*R) S aA av ay).kd i<2 ^ (F*R):=λi=>by
  by_cases h:i<7
  .exact(K2 (n:=F*R) (c:=S.1) (au:=S.2.1) (az:=S.2.2) (aA:=aA) (av:=av) (kx:=sI (F*R) S.2.1 S.2.2) (ay:=ay) h)▸vL _ _
  .have:(pJ (F*R) S aA av ay).kd i=0:=vX h;rw[this];exact gb _
 exact⟨ln.bl,ln.kl,ln.sl,hs,λi=>cU (sS i) p64,sS,λi=>cU (kS i) p64⟩
abbrev EL(sa np F R au az aA:Nat)(cq pp sp aC:Nat)(aB:Bool)(aG:Nat)(x13 bQ bP bO bN bD bx bw bu bq:Option V):nw:=
 [J (.con sa),J (.ref np),J (nv F),J (nv R),J (nv au),J (nv az),J (nv aA),J (.ref cq),J (.ref pp),J (.ref sp),J (nv aC),J (.bool aB),J (.ref aG),x13,bQ,bP,bO,bN,bD,bx,bw,bu,bq,U,U,U,U,U,U,U,U,U,U,U,U,U,U]
abbrev LQ:Ss:=match rF 13 GF.body with
 | .cons (.each _ _ b) _=>b
 | _=>.nil
def QT{S:qm}{oZ:Int}{m:Nat × Nat}(h:wW F R S.1 S.2.1 oZ=J m):H5 F R S m.1 m.2:=by
 ext S oZ m;unfold wW at h;obtain⟨k,hk,h⟩:=List.exists_of_findSome?_eq_some h;have hk:=cL.mp hk;unfold EE at h;split at h
 .rename_i f;cases h;have il:=PE (oZ:=oZ) (k:=k) (ae (dF _) hk);refine⟨?_,f⟩;rw[ba,a7 il];exact dk il
 .cases h
def Qr{S:qm}{W:Option (Nat × Nat)}(hl:S.1.length=F*R)(hw:∀m,W=J m->m.1<F*R)(h:BH F R S.1 S.2.1 W=true):∃m,W=J m/\H5 F R S m.1 m.2:=by
 ext S W;cases W with
 | none=>cases h
 | some m=>
  dsimp only[BH] at h;simp only[ax,cu] at h;obtain⟨h1,h2,h3,h4⟩:=h;exact⟨m,rfl,rj.mpr ⟨by rw[hl];exact hw m rfl,h1,h2,h3⟩,h4⟩
abbrev ZN:Ss:=rF 4 LQ
abbrev S4:Ss:=rF 12 LQ
section
variable{d:Nat}{Q:QS}{sa np cq pp sp aG aC aA av s t wp:Nat}{aB:Bool}{m:Int}{S:qm}{a c:H}{X:uu}{P:Ps}
def UO{K:pK}(A:db K ea e (st a X P c) (.ref p) (st a X P c))(g:(st a X P c)[p]? =J (.list xs))(hl:xs.length<=1000):db K (.slice ea .bK .bK) e (st a X P c) (.ref (a.length+5+c.length)) (st a X P (c++[.list xs])):=by
 have z:=Sd A g hl;rw[rG,u6] at z;exact z
abbrev Av(m:Int):Nat:=(eZ (fE m (3:Nat)) (4:Nat)).toNat
def Yz(m:Int):Av m<4:=sC _ ⋯
def ZP{K:pK}(l:e[13]? =J (J (.int m))):db K (.bin .mod (.bin .div (.loc 13) (.int 3)) (.int 4)) e h (nv (Av m)) h:=sG (y6 (r_loc l) (ac (n:=3)) ⋯ ⋯) (ac (n:=4)) ⋯
def WW {bD bx bw bu bq:Option V}{hf:Nat}(hl:S.1.length=F*R)(hv:∀i,S.1.getD i 0<16)(hF:3<=F/\F<=7)(hR:1<=R)(sz:F*R<=21)(hs:s<F*R)(ht:t<F*R)(hne:s≠t)(own:S.1.getD s 0/8=S.2.1)(Lc:(st a X P c)[cq]? =J (.list (S.1.map nv)))(oc:y0 a cq)(go:∀aq c',a.length+5+c.length<=aq->(∃t,c'=c++t)->(st a X P c')[aq]? =J (.list ((li F R S.1 s t (Av m)).map nv))->
   oD (K0 d) S4 (EL sa np F R S.2.1 S.2.2 hf cq pp sp aC aB aG (J (.int m)) (J (.ref wp)) (J (nv s)) (J (nv t)) (J (nv (yY F R S.1 s t (Av m)))) (J (.ref aq)) bx bw bu bq) (st a X P c') Q):
  oD (K0 d) (rF 8 LQ) (EL sa np F R S.2.1 S.2.2 hf cq pp sp aC aB aG (J (.int m)) (J (.ref wp)) (J (nv s)) (J (nv t)) (J (nv (NX s t))) bD bx bw bu bq) (st a X P c) Q:=by
 revert t wp aB m S a c X P bD bx bw bu bq hf;ext d Q sa np cq pp sp aG aC s;ext t wp aB m S a c X P bD bx bw bu bq hf;have cl:∀{P:Ps} {c':H},(∃t,c'=c++t)->(st a X P c')[cq]? =J (.list (S.1.map nv)):=λ⟨t,e⟩=>by rw[e];exact qg oc Lc
 have ll:S.1.length<1000:=by lia
 have aqo:y0 a (a.length+5+c.length):=.inr (de _ _);refine bs (UO ∅ Lc (by rw[bj];lia)) ?_;have ga:∀{l:List Nat} {t:H},(st a X P (c++[.list (l.map nv)]++t))[a.length+5+c.length]? =J (.list (l.map nv)):=λ{l t}=>by
  rw[rq,aa,cQ (cX _),eD];rfl
 have ga0:∀{l:List Nat},(st a X P (c++[.list (l.map nv)]))[a.length+5+c.length]? =J (.list (l.map nv)):=λ{l}=>by
  have:=ga (l:=l) (t:=[]);rw[cN] at this;exact this
 have is:∀{l:List Nat} {i x:Nat} {t:H},i<l.length->l.length<1000->pV (.ref (a.length+5+c.length)) (nv i) (nv x) (st a X P (c++[.list (l.map nv)]++t))=J (st a X P (c++[.list ((l.set i x).map nv)]++t)):=λ{l i x t} h1 h2=>by
  rw[E6 ga h1 h2,GU,aa,ew _ _ (cX _),eD,aa];rfl
 have is0:∀{l:List Nat} {i x:Nat},i<l.length->l.length<1000->pV (.ref (a.length+5+c.length)) (nv i) (nv x) (st a X P (c++[.list (l.map nv)]))=J (st a X P (c++[.list ((l.set i x).map nv)])):=λ{l i x} h1 h2=>by
  have:=is (l:=l) (i:=i) (x:=x) (t:=[]) h1 h2;rw[cN,cN] at this;exact this
 have cell:∀{e:nw} {c':H} {j i:Nat},(∃t,c'=c++t)->e[7]? =J (J (.ref cq))->e[j]? =J (J (nv i))->i<F*R->db (K0 d) (.sub (.loc 7) (.loc j)) e (st a X P c') (nv (S.1.getD i 0)) (st a X P c'):=λhc l7 lj hi=>tO (cl hc) (r_loc l7) (r_loc lj) (by rw[hl];exact hi) ll;refine uG (cell ⟨_,rfl⟩ rfl rfl hs) ∅ ∅ (is0 (by rw[hl];exact ht) ll) ?_;refine uG (v:=nv 0) ac ∅ ∅ (is0 (by rw[cP,hl];exact hs) (by rw[cP];exact ll)) ?_;have al:((S.1.set t (S.1.getD s 0)).set s 0).length=F*R:=by rw[cP,cP];exact hl
 have F0:0<F:=by lia
 have kd:∀{e:nw} {c':H},(∃t,c'=c++t)->e[7]? =J (J (.ref cq))->e[15]? =J (J (nv s))->db (K0 d) (.cmp (.bin .mod (.sub (.loc 7) (.loc 15)) (.int 8)) .eq (.int 1)) e (st a X P c') (.bool (decide (S.1.getD s 0%8=1))) (st a X P c'):=λhc l7 l15=>oM (wF (cell hc l7 l15 hs) (ac (n:=8)) ⋯) ac;have sd2:S.2.1<2:=by have:=hv s;lia
 by_cases h1:S.1.getD s 0%8=1
 .have tp:∀{e:nw},e[3]? =J (J (nv R))->e[16]? =J (J (nv t))->e[2]? =J (J (nv F))->db (K0 d) (.cmp (.bin .div (.loc 16) (.loc 2)) .isin (.tup (.cons (.int 0) (.cons (.bin .sub (.loc 3) (.int 1)) .nil)))) e (st a X P (c++[.list (((S.1.set t (S.1.getD s 0)).set s 0).map nv)])) (.bool (decide (t/F∈[0,R - 1]))) (st a X P (c++[.list (((S.1.set t (S.1.getD s 0)).set s 0).map nv)]++[.tup ([0,R - 1].map nv)])):=λl3 l16 l2=>
   pB (sA (r_loc l16) (r_loc l2) F0 (by lia)) (wc (xs:=[0,R - 1].map nv) (be (ac (n:=0)) (be (oH (r_loc l3) (ac (n:=1)) hR) f8)) (by show(2:Nat)<=1000;decide)) (by
    show(pN _ _ _).bind _=_;have g:(st a X P (c++[.list (((S.1.set t (S.1.getD s 0)).set s 0).map nv)]++[.tup ([0,R - 1].map nv)]))[a.length+5+(c++[O.list (((S.1.set t (S.1.getD s 0)).set s 0).map nv)]).length]? =J (.tup ([0,R - 1].map nv)):=by rw[rq];exact bn
    rw[t9 g];exact ux)
  have pi:pF F R S.1 s t↔t/F∈[0,R - 1]:=by
   unfold pF;simp only[dP,fU,or_false];exact⟨λz=>z.2,λz=>⟨h1,z⟩⟩
  by_cases h2:t/F∈[0,R - 1]
  .have hp:=pi.mpr h2;have tp2:=λ{e:nw} a b c=>tp (e:=e) a b c;simp only[cy h2] at tp2;refine lv (x:=.bool true) (t:=true) (qZ (t:=true) (x:=.bool true) (by have:=kd (e:=(EL sa np F R S.2.1 S.2.2 hf cq pp sp aC aB aG (J (.int m)) (J (.ref wp)) (J (nv s)) (J (nv t)) (J (nv (NX s t))) bD bx bw bu bq).set 18 (J (.ref (a.length+5+c.length)))) (c':=c++[.list (((S.1.set t (S.1.getD s 0)).set s 0).map nv)]) ⟨_,rfl⟩ rfl rfl;rw[cy h1] at this;exact this) rfl (λw=>tp2 rfl rfl rfl) λe=>by cases e) rfl (λw=>?_) λe=>by cases e
   refine uG (v:=nv (S.2.1*8+2+Av m)) (qG (qG (r7 ∅ (ac (n:=8)) (cU sd2 ⋯) ⋯) (ac (n:=2))) (ZP rfl)) ∅ ∅ (is (by rw[al];exact ht) (by rw[al];lia)) ?_;refine oI rfl (v:=nv (WO s t (Av m))) (qE (qo (ac (n:=1)) (ac (n:=14)) ⋯ ⋯) (qo (ZP rfl) (ac (n:=12)) (cU (Yz m) ⋯) ⋯)) rW (ld ?_);have e1:yY F R S.1 s t (Av m)=WO s t (Av m):=cC hp;have e2:li F R S.1 s t (Av m)=((S.1.set t (S.1.getD s 0)).set s 0).set t (S.2.1*8+2+Av m):=by
    unfold li;rw[cC hp,own];rfl
   rw[<- e1];exact go _ _ (cX _) ⟨_,aa _ _ _⟩ (by rw[e2];exact ga)
  .have hp:¬pF F R S.1 s t:=λz=>h2 (pi.mp z);have tp2:=λ{e:nw} a b c=>tp (e:=e) a b c;simp only[cz h2] at tp2;refine lv (x:=.bool false) (t:=false) (qZ (t:=true) (x:=.bool true) (by have:=kd (e:=(EL sa np F R S.2.1 S.2.2 hf cq pp sp aC aB aG (J (.int m)) (J (.ref wp)) (J (nv s)) (J (nv t)) (J (nv (NX s t))) bD bx bw bu bq).set 18 (J (.ref (a.length+5+c.length)))) (c':=c++[.list (((S.1.set t (S.1.getD s 0)).set s 0).map nv)]) ⟨_,rfl⟩ rfl rfl;rw[cy h1] at this;exact this) rfl (λw=>tp2 rfl rfl rfl) λe=>by cases e) rfl (λe=>by cases e) λw=>?_;have e1:yY F R S.1 s t (Av m)=NX s t:=cD hp;have e2:li F R S.1 s t (Av m)=(S.1.set t (S.1.getD s 0)).set s 0:=cD hp;rw[<- e1];exact go _ _ (cX _) ⟨_,aa _ _ _⟩ (by rw[e2];exact ga)
 .have hp:¬pF F R S.1 s t:=λz=>h1 z.1;refine lv (x:=.bool false) (t:=false) (qZ (t:=false) (x:=.bool false) (by have:=kd (e:=(EL sa np F R S.2.1 S.2.2 hf cq pp sp aC aB aG (J (.int m)) (J (.ref wp)) (J (nv s)) (J (nv t)) (J (nv (NX s t))) bD bx bw bu bq).set 18 (J (.ref (a.length+5+c.length)))) (c':=c++[.list (((S.1.set t (S.1.getD s 0)).set s 0).map nv)]) ⟨_,rfl⟩ rfl rfl;rw[cz h1] at this;exact this) rfl (λe=>by cases e) λw=>⟨rfl,rfl⟩) rfl (λe=>by cases e) λw=>?_;have e1:yY F R S.1 s t (Av m)=NX s t:=cD hp;have e2:li F R S.1 s t (Av m)=(S.1.set t (S.1.getD s 0)).set s 0:=cD hp;rw[<- e1];exact go _ _ (cX _) ⟨_,rfl⟩ (by rw[e2];exact ga0)
def WF(hl:S.1.length=F*R)(sz:F*R<=21)(hs:s<F*R)(ht:t<F*R)(Lc:(st a X P c)[cq]? =J (.list (S.1.map nv)))(W:(st a X P c)[wp]? =J (AT (J (s,t))))(go:oD (K0 d) (rF 8 LQ) (EL sa np F R S.2.1 S.2.2 (sW S.1 s t aA) cq pp sp aC aB aG (J (.int m)) (J (.ref wp)) (J (nv s)) (J (nv t)) (J (nv (NX s t))) bD bx bw bu bq) (st a X P c) Q):
  oD (K0 d) ZN (EL sa np F R S.2.1 S.2.2 aA cq pp sp aC aB aG (J (.int m)) (J (.ref wp)) bP bO bN bD bx bw bu bq) (st a X P c) Q:=by
 revert t wp aB m S a c X P bP bO bN bD bx bw bu bq;ext d Q sa np cq pp sp aG aC aA s;revert bP bO bN bD bx bw bu bq;ext t wp aB m S a c X P;ext bP bO bN bD bx bw bu bq;have ll:S.1.length<1000:=by lia
 have cell:∀{e:nw} {j i:Nat},e[7]? =J (J (.ref cq))->e[j]? =J (J (nv i))->i<F*R->db (K0 d) (.sub (.loc 7) (.loc j)) e (st a X P c) (nv (S.1.getD i 0)) (st a X P c):=λl7 lj hi=>tO Lc (r_loc l7) (r_loc lj) (by rw[hl];exact hi) ll;refine zh (vs:=[nv s,nv t]) ∅ W rfl (bs (v:=nv (NX s t)) (qE ∅ (qo ∅ (ac (n:=6)) (by lia) ⋯)) (oI rfl (ac (n:=1)) BP ?_));by_cases h0:S.1.getD t 0=0
 .refine lv (x:=.bool (decide (S.1.getD s 0%8=1))) (t:=decide (S.1.getD s 0%8=1)) (EH (t:=false) (cell rfl rfl ht) (by rw[oE,h0];rfl) (λw=>oM (wF (cell rfl rfl hs) (ac (n:=8)) ⋯) (ac (n:=1))) λe=>by cases e) bm (λe1=>?_) λe1=>?_
  .have hh:sW S.1 s t aA=0:=cD λz=>z.2 (b9 e1);rw[hh] at go;exact bs ac (ld go)
  .have hh:sW S.1 s t aA=aA+1:=cC ⟨h0,cj e1⟩;rw[hh] at go;exact go
 .have hh:sW S.1 s t aA=0:=cD λz=>h0 z.1;rw[hh] at go;exact lv (t:=true) (EH (t:=true) (cell rfl rfl ht) (by rw[oE];exact cF J (cy h0)) (λe=>by cases e) λw=>⟨rfl,rfl⟩) (by rw[oE];exact cF J (cy h0)) (λw=>bs ac (ld go)) λe=>by cases e
end
inductive LI (F R:Nat) (S0:qm) (h0:Nat) (bh:H) (sa np:Nat) (a:H) (X:uu) (sp aG n:Nat):nw->H->Prop
 | mk (SS:List qm) (aA av:Nat) (ay:List V) (aC:Nat) (aB:Bool) (S:qm) (W0 W1:Option (Nat × Nat)) (c:H) (sd rt cq:Nat) (x13 bQ bP bO bN bD bx bw bu bq:Option V) (lf:LF F R S0 h0 bh a (st a X (pJ (F*R) S aA av ay) c) sp aG SS aA av ay W0 W1) (lst:SS.getLast? =J S) (ch:u0 F R S0 h0 SS aA aC aB) (hn:SS.length<=n+1):LI F R S0 h0 bh sa np a X sp aG n (EL sa np F R sd rt aA cq a.length sp aC aB aG x13 bQ bP bO bN bD bx bw bu bq) (st a X (pJ (F*R) S aA av ay) c)
def LI.of{h0 sa np sp aG n aA av aC sd rt cq:Nat}{S0 S:qm}{bh a c h:H}{X:uu}{SS:List qm}{ay:List V}{aB:Bool}{W0 W1:Option (Nat × Nat)}(e:h=st a X (pJ (F*R) S aA av ay) c)(lf:LF F R S0 h0 bh a h sp aG SS aA av ay W0 W1)(lst:SS.getLast? =J S)(ch:u0 F R S0 h0 SS aA aC aB)(hn:SS.length<=n+1):LI F R S0 h0 bh sa np a X sp aG n (EL sa np F R sd rt aA cq a.length sp aC aB aG x13 bQ bP bO bN bD bx bw bu bq) h:=by
 subst e;exact .mk SS aA av ay aC aB S W0 W1 c sd rt cq x13 bQ bP bO bN bD bx bw bu bq lf lst ch hn
def Z4{h3:H}(h1:i≠sp)(h2:i≠aG)(g:h3[i]? =J o):(((h3.set sp o1)++[o2]).set aG o3)[i]? =J o:=by
 rw[eL (dQ h2),ar (by rw[cP];exact f0 g),eL (dQ h1),g]
def YZ(g:T[p]? =J (.list xs))(hi:i<xs.length)(hm:xs.length<1000):pV (.ref p) (nv i) v T=J (T.set p (.list (xs.set i v))):=DE g hi hm
def Gp.rt0(g:Gp F R cs au az):az=0\/F=7/\R=3:=by
 by_cases h:az=0
 .exact .inl h
 right;have:∃i,i<4/\az >>> i &&& 1≠0:=by
  have r16:=g.r16;have all:∀r,r<16->r≠0->∃i,i<4/\r >>> i &&& 1≠0:=by decide
  exact all az r16 h
 obtain⟨i,hi,hb⟩:=this;have z:=g.rt i hi hb;unfold wT at z;simp only[ax,cu] at z;exact⟨z.1,z.2.1⟩
def xx{S:qm}{SS:List qm}(h:SS.getLast? =J S):SS[SS.length - 1]? =J S:=by rw[<- fD];exact h
def Gp.kingIn(g:Gp F R cs au az):au*8+6∈cs:=by
 obtain⟨k,k1,k2⟩:=g.cg.king g.sd;exact(wX g.cg.cl.l k1 k2).1
section
variable{d:Nat}{Q:QS}{sa np cq sp aG aC aA av s t h0 aq n:Nat}{aB:Bool}{m:Int}{S S0:qm}{SS:List qm}{ay:List V}{W0 W1:Option (Nat × Nat)}{bh a c:H}{X:uu}
def yo{ok:Nat->Prop}{vs:List V}(A:PA a X)(hX:X.G=dL F R cc)(g0:Gp F R S0.1 S0.2.1 S0.2.2)(tr:qx F R ok (st a X (pJ (F*R) S aA av ay) c) S0 h0 SS aA av ay)(h1:(st a X (pJ (F*R) S aA av ay) c)[sp]? =J (.list vs))(h2:wx (st a X (pJ (F*R) S aA av ay) c) vs SS)(lst:SS.getLast? =J S)(ch:u0 F R S0 h0 SS aA aC aB)(hl:SS.length<100):
  ii (K0 (d+14)) 905 [.ref a.length,nv F,nv R,.ref sp,.bool aB,nv aA,.int m] (st a X (pJ (F*R) S aA av ay) c) (.bool true) (st a X (pJ (F*R) S aA av ay) c):=by
 revert h0 aB m S S0 SS ay a c X ok vs;ext d sp aC aA av;ext h0 aB m S S0 SS ay a c X ok vs;have g:=tr.gp g0 S lst;have hl0:0<SS.length:=by cases SS with | nil=>cases lst | cons=>exact fF _
 have rp:=pl.rep S0 h0 SS aA aC aB S av ay g0 ch lst tr.len;have hk:=tr.hk (P:=pJ (F*R) S aA av ay) rfl (by lia);have gd:=pl.gd S aA av ay g;have pk:=Ka (aA:=aA) (av:=av) (ay:=ay) g.cg.cl.l g.sd g.cg.cl.bd.sz;rw[<- hX] at gd pk;have agr:WH X.G (pJ (F*R) S aA av ay) (SS.dropLast.map (yH (F*R))) (xe SS) (tF F R S.1 (S.1.idxOf (S.2.1*8+6)) S.2.1) (wW F R S.1 S.2.1 0).isNone (vp F S.1) aB:=by
  rw[hX];exact⟨pl.chk S aA av ay g,pl.has S aA av ay g,rp.1,rp.2,pl.aE S aA av ay g⟩
 exact GQ (cp:=0) (A.at pk) hk gd g.cg.cl g.cg.pw (pl.bV S g) g.kingIn g.sd h1 h2 hl0 hl (xx lst) agr
def ON(A:PA a X)(hX:X.G=dL F R cc)(g0:Gp F R S0.1 S0.2.1 S0.2.2)(lf:LF F R S0 h0 bh a (st a X (pJ (F*R) S aA av ay) c) sp aG SS aA av ay W0 W1)(lst:SS.getLast? =J S)(ch:u0 F R S0 h0 SS aA aC aB)(hl:SS.length<100):
  ii (K0 (d+14)) 905 [.ref a.length,nv F,nv R,.ref sp,.bool aB,nv aA,.int m] (st a X (pJ (F*R) S aA av ay) c) (.bool true) (st a X (pJ (F*R) S aA av ay) c):=by
 obtain⟨vs,h1,h2⟩:=lf.sts;exact yo A hX g0 lf.trail h1 h2.at lst ch hl
def Ue{bQ bx bw bu bq:Option V}(A:PA a X)(hX:X.G=dL F R cc)(g0:Gp F R S0.1 S0.2.1 S0.2.2)(L:H5 F R S s t)(lf:LF F R S0 h0 bh a (st a X (pJ (F*R) S aA av ay) c) sp aG SS aA av ay W0 W1)(lst:SS.getLast? =J S)(ch:u0 F R S0 h0 SS aA aC aB)(hn:SS.length<=n+1)(hn2:n<20)(aq5:Ay a sp aG aq)(La:(st a X (pJ (F*R) S aA av ay) c)[aq]? =J (.list ((li F R S.1 s t (Av m)).map nv)))(go:∀e h,LI F R S0 h0 bh sa np a X sp aG (n+1) e h->Q .next e h):
  oD (K0 (d+14)) S4 (EL sa np F R S.2.1 S.2.2 (sW S.1 s t aA) cq a.length sp aC aB aG (J (.int m)) bQ (J (nv s)) (J (nv t)) (J (nv (yY F R S.1 s t (Av m)))) (J (.ref aq)) bx bw bu bq) (st a X (pJ (F*R) S aA av ay) c) Q:=by
 revert aG aC aA av s t h0 aq n aB m S S0 SS ay W0 W1 bh a c X bQ bx bw bu bq;ext d Q sa np cq sp;revert SS ay W0 W1 bh a c X bQ bx bw bu bq;ext aG aC aA av s t h0 aq n aB m S S0;ext SS ay W0 W1 bh a c X bQ bx bw bu bq;have g:=lf.trail.gp g0 S lst;have ok:=yC pl g L;have g1:=pl.step S s t (Av m) g L (Yz m);have tl:=lf.trail.len;have aX:=g.sd;have M:=WJ (aA:=aA) (av:=av) (ay:=ay) pl g L (Yz m) (by lia);rw[<- hX] at M;have kd:=Oi (d:=d+11) (c:=c) A M;have dp:=Uv (aA:=aA) (av:=av) (ay:=ay) (q:=a.length+5+(c++[D5]).length) pl g L (Yz m);rw[<- hX] at dp;rw[dp] at kd;refine bc λkk=>?_;obtain⟨P0,hP0⟩:=(⟨_,rfl⟩:∃P0,P0=pJ (F*R) S aA av ay)
 ext P0;obtain⟨q,hq⟩:=(⟨_,rfl⟩:∃q,q=a.length+5+(c++[D5]).length)
 ext q;obtain⟨bT,hfull⟩:=(⟨_,rfl⟩:∃bT,bT=if S.2.1=1 then av+1 else av)
 obtain⟨S1,hS1⟩:=(⟨_,rfl⟩:∃S1,S1=rB F R S s t (Av m))
 obtain⟨P1,hP1⟩:=(⟨_,rfl⟩:∃P1,P1=pJ (F*R) S1 (sW S.1 s t aA) bT (ay++[.ref q]))
 obtain⟨c1,hc1⟩:=(⟨_,rfl⟩:∃c1,c1=c++([D5]++[Lm P0 (yY F R S.1 s t (Av m))]))
 refine kk ?_;clear kk;rw[<- hS1] at g1;rw[<- hq,<-hfull,<-hS1,<-hP1,<-hP0,aa,<-hc1] at kd;rw[<- hP0] at lf La ⊢;refine oJ (bi (lc rfl (lz rfl)) kd) ?_;have lf1:LF F R S0 h0 bh a (st a X P1 c1) sp aG SS aA av ay W0 W1:=by rw[hc1];exact lf.move _
 have La1:(st a X P1 c1)[aq]? =J (.list ((li F R S.1 s t (Av m)).map nv)):=by rw[hc1];exact qg aq5.bF La
 refine bc λkk=>?_;obtain⟨vs,v1,v2⟩:=lf.sts;obtain⟨w0,w1,s1,s2,s3⟩:=lf.steps;refine kk ?_;clear kk;have spl:=f0 v1;have stl:=f0 s1;rw[u6] at spl stl;have q_ok:Ay a sp aG q:=by
  rw[hq,a6];exact⟨by lia,by lia,.inr (by lia)⟩
 have gq:(st a X P1 c1)[q]? =J (Lm (pJ (F*R) S aA av ay) (yY F R S.1 s t (Av m))):=by
  rw[hq,hc1,rq,<-aa,<-hP0];exact bn
 have tr1:=qx.step lf1.trail lst L (Yz m) q_ok gq;rw[<- hS1,<-hfull] at tr1;have ch1:=u0.step ch lst L (Yz m);rw[<- hS1] at ch1;obtain⟨bz,hs1⟩:=(⟨_,rfl⟩:∃bz,bz=if uB S.1 s t then aC else SS.length)
 obtain⟨bH,ha1⟩:=(⟨_,rfl⟩:∃bH,bH=if uB S.1 s t then aB else false)
 rw[<- hs1,<-ha1] at ch1;obtain⟨bS,hh1⟩:=(⟨_,rfl⟩:∃bS,bS=sW S.1 s t aA)
 rw[<- hh1] at tr1 ch1 hP1 ⊢;have v1':(st a X P1 c1)[sp]? =J (.list vs):=by rw[hc1];exact qg (.inr lf.sp5) v1
 have vl:=v2.at.len;have len:∀{e:nw} {i:Nat},e[9]? =J (J (.ref sp))->db (K0 (d+14)) (.len i (.loc 9)) e (st a X P1 c1) (nv SS.length) (st a X P1 c1):=λ{e i} l=>by
  have z:=tV (K:=K0 (d+14)) (i:=i) (a:=.loc 9) (e:=e) (r_loc l) (io v1') (by lia);rw[vl] at z;exact z
 suffices rest:oD (K0 (d+14)) (rF 14 LQ) (EL sa np F R S.2.1 S.2.2 bS cq a.length sp bz bH aG (J (.int m)) bQ (J (nv s)) (J (nv t)) (J (nv (yY F R S.1 s t (Av m)))) (J (.ref aq)) bx bw bu bq) (st a X P1 c1) Q by
  refine lv (oM ∅ ac) bm (λe1=>?_) λe1=>?_
  .have nq:¬uB S.1 s t:=λz=>by
    have:=b9 e1;rw[hh1,sW,cC z] at this;cases this
   rw[cD nq] at hs1 ha1;subst hs1 ha1;exact bs (len rfl) (bs o4 (ld rest))
  .have yq:uB S.1 s t:=cJ λz=>(cj e1) (by rw[hh1,sW,cD z]);rw[cC yq] at hs1 ha1;subst hs1 ha1;exact rest
 have kk:=Lf (d:=d+13) (T:=st a X P1 c1) (cp:=aq) (az:=S.2.2) (show CL F R (li F R S.1 s t (Av m)) by have:=g1.cg.cl;rw[hS1] at this;exact this) g.rt0 La1;have k2:sL F R (li F R S.1 s t (Av m)) S.2.2 4=S1.2.2:=by rw[hS1];rfl
 have k1:1 - S.2.1=S1.2.1:=by rw[hS1];rfl
 have k0:li F R S.1 s t (Av m)=S1.1:=by rw[hS1];rfl
 rw[k2] at kk;rw[k0] at La1;refine bs (v:=.ref (a.length+5+c1.length)) (h1:=st a X P1 (c1++[.tup [.ref aq,nv S1.2.1,nv S1.2.2]])) (by
  rw[<- k1];exact wc (lc rfl (be (oH (ac (n:=1)) ∅ (dh aX)) (be (bi (lc rfl (lc rfl (lc rfl (lz rfl)))) kk) f8))) (by show(3:Nat)<=1000;decide)) ?_
 obtain⟨c2,hc2⟩:=(⟨_,rfl⟩:∃c2,c2=c1++[O.tup [.ref aq,nv S1.2.1,nv S1.2.2]])
 obtain⟨qs,hqs⟩:=(⟨_,rfl⟩:∃qs,qs=a.length+5+c1.length)
 have c1l:c.length<=c1.length:=by rw[hc1,a6];lia
 have qs_ok:Ay a sp aG qs:=by rw[hqs];exact⟨by lia,by lia,.inr (by lia)⟩
 have lf2:LF F R S0 h0 bh a (st a X P1 c2) sp aG SS aA av ay W0 W1:=by rw[hc2];exact lf1.move _
 have La2:(st a X P1 c2)[aq]? =J (.list (S1.1.map nv)):=by rw[hc2];exact qg aq5.bF La1
 have g2:(st a X P1 c2)[qs]? =J (.tup [.ref aq,nv S1.2.1,nv S1.2.2]):=by rw[hqs,hc2,rq];exact bn
 have tr2:qx F R (Ay a sp aG) (st a X P1 c2) S0 h0 (SS++[S1]) bS bT (ay++[.ref q]):=by rw[hc2];exact tr1.mono λi o hi g=>qg hi.bF g
 rw[<- hc2,<-hqs];have sS:xp (Ay a sp aG) (st a X P1 c2) qs S1:=⟨aq,qs_ok,aq5,g2,La2⟩
 obtain⟨vs2,u1,u2⟩:=lf2.sts;have ul:=u2.at.len;obtain⟨again2,ha2⟩:=(⟨_,rfl⟩:∃again2,again2=(bH||decide (S1∈SS.drop bz)))
 have ag:∃t3,db (K0 (d+14)) (.or (.loc 11) (.cmp (.loc 19) .isin (.slice (.loc 9) (.loc 10) .bK))) (EL sa np F R S.2.1 S.2.2 bS cq a.length sp bz bH aG (J (.int m)) bQ (J (nv s)) (J (nv t)) (J (nv (yY F R S.1 s t (Av m)))) (J (.ref aq)) (J (.ref qs)) bw bu bq) (st a X P1 c2) (.bool again2) (st a X P1 (c2++t3)):=by
  by_cases h:bH=true
  .refine⟨[],?_⟩;rw[cN,ha2,h];exact EH (x:=.bool true) (t:=true) ∅ rfl (λe=>by cases e) λw=>⟨rfl,rfl⟩
  .have h:bH=false:=by simpa using h
   refine⟨[.list (vs2.drop bz)],?_⟩;rw[ha2,h,fq];refine EH (x:=.bool false) (t:=false) ∅ rfl (λw=>pB ∅ (vZ (v:=.ref (a.length+5+c2.length)) (r_loc (v:=.ref sp) rfl) (r_loc (v:=nv bz) rfl) x0 ?_) ?_) λe=>by cases e
   .rw[tx (x:=.ref sp) u1 xI (show xf .none vs2.length=J vs2.length from rfl) (by lia),dS,u6,rG]
   .show(pN _ _ _).bind _=_;rw[io (by rw[rq];exact bn),eP];exact Kd ((sS.mono (h':=st a X P1 (c2++[.list (vs2.drop bz)])) λi o hi g=>qg hi.bF g).at) ((u2.mono (h':=st a X P1 (c2++[.list (vs2.drop bz)])) λi o hi g=>qg hi.bF g).at.drop)
 obtain⟨t3,ag⟩:=ag;refine bs ag ?_;rw[<- ha2] at ch1;obtain⟨c3,hc3⟩:=(⟨_,rfl⟩:∃c3,c3=c2++t3)
 rw[<- hc3];have lf3:LF F R S0 h0 bh a (st a X P1 c3) sp aG SS aA av ay W0 W1:=by rw[hc3];exact lf2.move _
 have tr3:qx F R (Ay a sp aG) (st a X P1 c3) S0 h0 (SS++[S1]) bS bT (ay++[.ref q]):=by rw[hc3];exact tr2.mono λi o hi g=>qg hi.bF g
 have sS3:xp (Ay a sp aG) (st a X P1 c3) qs S1:=by rw[hc3];exact sS.mono λi o hi g=>qg hi.bF g
 refine bc λkk=>?_;obtain⟨vs3,u1,u2⟩:=lf3.sts;obtain⟨w0,w1,s1,⟨s2,s3⟩,s4,s5⟩:=lf3.steps;have ul:=u2.at.len;obtain⟨k,hk⟩:∃k,sp=a.length+5+k:=⟨sp - (a.length+5),by have:=lf.sp5;lia⟩
 obtain⟨k',hk'⟩:∃k',aG=a.length+5+k':=⟨aG - (a.length+5),by have:=lf.stp5;lia⟩
 refine kk ?_;clear kk;have ap:=vE (K:=K0 (d+14)) (a:=.loc 9) (b:=.loc 19) (e:=EL sa np F R S.2.1 S.2.2 bS cq a.length sp bz again2 aG (J (.int m)) bQ (J (nv s)) (J (nv t)) (J (nv (yY F R S.1 s t (Av m)))) (J (.ref aq)) (J (.ref qs)) bw bu bq) ∅ u1 (r_loc (v:=.ref qs) rfl) u1 (by lia);have e4:(st a X P1 c3).set sp (.list (vs3++[.ref qs]))=st a X P1 (c3.set k (.list (vs3++[.ref qs]))):=by rw[hk];exact GU
 rw[e4] at ap;refine oJ ap ?_;obtain⟨c4,hc4⟩:=(⟨_,rfl⟩:∃c4,c4=c3.set k (.list (vs3++[.ref qs])))
 rw[<- hc4] at e4 ⊢;have g4:(st a X P1 (c4++[O.tup [nv t,nv s]]))[aG]? =J (.list [.ref w0,.ref w1]):=by
  rw[<- rG,<-e4,ar (by rw[cP];exact f0 s1),eL lf.ne];exact s1
 refine uG (wc (lc rfl (lz rfl)) (by show(2:Nat)<=1000;decide)) ∅ ∅ (YZ g4 aX (by show(2:Nat)<1000;decide)) ?_;obtain⟨qw,hqw⟩:=(⟨_,rfl⟩:∃qw,qw=a.length+5+c4.length)
 rw[<- hqw];have e6:(st a X P1 (c4++[O.tup [nv t,nv s]])).set aG (.list ([V.ref w0,.ref w1].set S.2.1 (.ref qw)))=st a X P1 ((c4++[O.tup [nv t,nv s]]).set k' (.list ([V.ref w0,.ref w1].set S.2.1 (.ref qw)))):=by rw[hk'];exact GU
 have e7:(st a X P1 (c4++[O.tup [nv t,nv s]])).set aG (.list ([V.ref w0,.ref w1].set S.2.1 (.ref qw)))=(((st a X P1 c3).set sp (.list (vs3++[.ref qs])))++[O.tup [nv t,nv s]]).set aG (.list ([V.ref w0,.ref w1].set S.2.1 (.ref qw))):=by rw[e4,rG]
 have kp:∀i o,Ay a sp aG i->(st a X P1 c3)[i]? =J o->((st a X P1 (c4++[O.tup [nv t,nv s]])).set aG (.list ([V.ref w0,.ref w1].set S.2.1 (.ref qw))))[i]? =J o:=λi o hi g=>by rw[e7];exact Z4 hi.1 hi.2.1 g
 obtain⟨c6,hc6⟩:=(⟨_,rfl⟩:∃c6,c6=(c4++[O.tup [nv t,nv s]]).set k' (.list ([V.ref w0,.ref w1].set S.2.1 (.ref qw))))
 have l3:(st a X P1 c3).length=a.length+5+c3.length:=u6;have c4l:c4.length=c3.length:=by rw[hc4,cP]
 have c3l:c1.length<=c3.length:=by rw[hc3,hc2,a6,a6];lia
 have qw_ok:Ay a sp aG qw:=by rw[hqw,c4l];exact⟨by lia,by lia,.inr (by lia)⟩
 have gw:(st a X P1 c6)[qw]? =J (.tup [nv t,nv s]):=by
  rw[hc6,<-e6,eL (dQ qw_ok.2.1),hqw,rq];exact bn
 rw[e6,<-hc6] at kp;rw[e6,<-hc6];have sp6:(st a X P1 c6)[sp]? =J (.list (vs3++[.ref qs])):=by
  rw[hc6,<-e6,e7,eL (dQ lf.ne),ar (by rw[cP];exact f0 u1),fS (f0 u1)]
 have stp6:(st a X P1 c6)[aG]? =J (.list ([V.ref w0,.ref w1].set S.2.1 (.ref qw))):=by
  rw[hc6,<-e6,fS (f0 g4)]
 have wt:∀m',J (t,s)=J m'->m'.1<F*R:=λm' e=>by cases e;exact ok.lt
 have lf6:∃W0' W1',LF F R S0 h0 bh a (st a X P1 c6) sp aG (SS++[S1]) bS bT (ay++[.ref q]) W0' W1':=by
  have sts:∃vs,(st a X P1 c6)[sp]? =J (.list vs)/\Cv (Ay a sp aG) (st a X P1 c6) vs (SS++[S1]):=⟨_,sp6,(u2.mono kp).snoc (sS3.mono kp)⟩
  rcases (Mine.Lake.u2 (by assumption:S.2.1<2)) with hz | hz
  .rw[hz] at stp6;exact⟨J (t,s),W1,lf.sp5,lf.stp5,lf.ne,sts,⟨qw,w1,stp6,⟨qw_ok,gw⟩,s4,kp _ _ s4 s5⟩,wt,lf.wr1,tr3.mono kp,λi o hi g=>kp i o hi (lf3.fr i o hi g)⟩
  .rw[hz] at stp6;exact⟨W0,J (t,s),lf.sp5,lf.stp5,lf.ne,sts,⟨w0,qw,stp6,⟨s2,kp _ _ s2 s3⟩,qw_ok,gw⟩,lf.wr0,wt,tr3.mono kp,λi o hi g=>kp i o hi (lf3.fr i o hi g)⟩
 obtain⟨W0',W1',lf6⟩:=lf6;have lst6:(SS++[S1]).getLast? =J S1:=by rw[hE];rfl
 have ln6:(SS++[S1]).length=SS.length+1:=by rw[a6];rfl
 rw[hP1] at lf6 ⊢;have ag:=ON (d:=d) (m:=m) A hX g0 lf6 lst6 ch1 (by lia);refine lv (t:=false) (uC (bi (lc rfl (lc rfl (lc rfl (lc rfl (lc rfl (lc rfl (lz rfl))))))) ag) bm) rfl (λe=>by cases e) λw=>od (go _ _ ?_);exact⟨_,_,_,_,_,_,S1,W0',W1',c6,S.2.1,S.2.2,cq,J (.int m),bQ,J (nv s),J (nv t),J (nv (yY F R S.1 s t (Av m))),J (.ref aq),J (.ref qs),bw,bu,bq,lf6,lst6,ch1,by lia⟩
end
section
variable{d:Nat}{Q:QS}{sa np cq sp aG aC aA av h0 n wp:Nat}{aB:Bool}{m:Int}{S S0:qm}{SS:List qm}{ay:List V}{W0 W1:Option (Nat × Nat)}{bh a c:H}{X:uu}
def MV(Db:U1 F R)(A:PA a X)(hX:X.G=dL F R cc)(g0:Gp F R S0.1 S0.2.1 S0.2.2)(lf:LF F R S0 h0 bh a (st a X (pJ (F*R) S aA av ay) c) sp aG SS aA av ay W0 W1)(lst:SS.getLast? =J S)(ch:u0 F R S0 h0 SS aA aC aB)(hn:SS.length<=n+1)(hn2:n<20)(Lc:(st a X (pJ (F*R) S aA av ay) c)[cq]? =J (.list (S.1.map nv)))(oc:y0 a cq)(hW:(st a X (pJ (F*R) S aA av ay) c)[wp]? =J (AT W))(ow:y0 a wp)(hL:∀p,W=J p->H5 F R S p.1 p.2)(go:∀e h,LI F R S0 h0 bh sa np a X sp aG (n+1) e h->Q .next e h)(bk:∀e h,LI F R S0 h0 bh sa np a X sp aG (n+1) e h->Q .brk e h):
  oD (K0 (d+14)) (rF 3 LQ) (EL sa np F R S.2.1 S.2.2 aA cq a.length sp aC aB aG (J (.int m)) (J (.ref wp)) bP bO bN bD bx bw bu bq) (st a X (pJ (F*R) S aA av ay) c) Q:=by
 revert aC aA av h0 n wp aB m S S0 SS ay W0 W1 bh a c X W bP bO bN bD bx bw bu bq;ext d Q sa np cq sp aG;revert bh a c X W bP bO bN bD bx bw bu bq;ext aC aA av h0 n wp aB m S S0 SS ay W0 W1;ext bh a c X W bP bO bN bD bx bw bu bq;have g:=lf.trail.gp g0 S lst;have bd:=Db.bd;have lf2:LF F R S0 h0 bh a (st a X (pJ (F*R) S aA av ay) (c++[.tup []])) sp aG SS aA av ay W0 W1:=lf.move _;have Lc2:(st a X (pJ (F*R) S aA av ay) (c++[.tup []]))[cq]? =J (.list (S.1.map nv)):=qg oc Lc;have hW2:(st a X (pJ (F*R) S aA av ay) (c++[.tup []]))[wp]? =J (AT W):=qg ow hW;have cond:∀{e:nw},e[14]? =J (J (.ref wp))->db (K0 (d+14)) (.cmp (.loc 14) .eq (.tup .nil)) e (st a X (pJ (F*R) S aA av ay) c) (.bool W.isNone) (st a X (pJ (F*R) S aA av ay) (c++[.tup []])):=λl=>
  pB (r_loc l) (wc f8 (dF _)) (NA hW2 (by rw[rq];exact bn))
 cases W with
 | none=>
  refine lv (t:=true) (cond rfl) rfl (λw=>Z6 (bk _ _ ?_)) λe=>by cases e
  exact⟨SS,aA,av,ay,aC,aB,S,W0,W1,_,S.2.1,S.2.2,cq,J (.int m),J (.ref wp),bP,bO,bN,bD,bx,bw,bu,bq,lf2,lst,ch,by lia⟩
 | some p=>
  obtain⟨s,t⟩:=p;have L:=hL _ rfl;have ok:=yC pl g L;have hsz:=bd.sz;have hF:=bd.f;have hR:=bd.r;refine lv (t:=false) (cond rfl) rfl (λe=>by cases e) λw=>WF (a:=a) (c:=c++[.tup []]) g.cg.cl.l hsz ok.ls ok.lt Lc2 hW2 (WW (a:=a) (c:=c++[.tup []]) g.cg.cl.l g.cg.cl.v hF (by lia) hsz ok.ls ok.lt ok.ne ok.own.2 Lc2 oc λaq c' h5 hc' La=>?_);refine bc λkk=>?_;obtain⟨t',rfl⟩:=hc';obtain⟨vs,v1,v2⟩:=lf2.sts;obtain⟨w0,w1,s1,_⟩:=lf2.steps;refine kk ?_;clear kk;have lf3:LF F R S0 h0 bh a (st a X (pJ (F*R) S aA av ay) (c++[.tup []]++t')) sp aG SS aA av ay W0 W1:=lf2.move _;have l1:=f0 v1;have l2:=f0 s1;rw[u6] at l1 l2;exact Ue A hX g0 L lf3 lst ch hn hn2 ⟨by lia,by lia,.inr (by lia)⟩ La go
def Qh(Db:U1 F R)(A:PA a X)(hX:X.G=dL F R cc)(g0:Gp F R S0.1 S0.2.1 S0.2.2)(hn2:n<20)(I:LI F R S0 h0 bh sa np a X sp aG n e h)(go:∀e h,LI F R S0 h0 bh sa np a X sp aG (n+1) e h->Q .next e h)(bk:∀e h,LI F R S0 h0 bh sa np a X sp aG (n+1) e h->Q .brk e h):oD (K0 (d+14)) LQ (e.set 13 (J (.int m))) h Q:=by
 revert sp aG h0 n m S0 bh a X e h;ext d Q sa np;ext sp aG h0 n m S0 bh a X e h;refine bc λkk=>?_;obtain⟨SS,aA,av,ay,aC,aB,S,W0,W1,c,sd,rt,cq0,x13,bQ,bP,bO,bN,bD,bx,bw,bu,bq,lf,lst,ch,hn⟩:=I;revert cq0 x13 bQ bP bO bN bD bx bw bu bq;ext SS aA av ay aC aB S W0 W1 c sd rt;ext cq0 x13 bQ bP bO bN bD bx bw bu bq;have g:=lf.trail.gp g0 S lst;have aX:=g.sd;obtain⟨vs,v1,v2⟩:=lf.sts;refine kk ?_;clear kk;have vl:=v2.at.len;have hl0:0<SS.length:=by cases SS with | nil=>cases lst | cons=>exact fF _
 have len:∀{e:nw} {i:Nat},e[9]? =J (J (.ref sp))->db (K0 (d+14)) (.len i (.loc 9)) e (st a X (pJ (F*R) S aA av ay) c) (nv SS.length) (st a X (pJ (F*R) S aA av ay) c):=λ{e i} l=>by
  have z:=tV (K:=K0 (d+14)) (i:=i) (a:=.loc 9) (e:=e) (r_loc l) (io v1) (by lia);rw[vl] at z;exact z
 have gs:∃q cq,vs[SS.length - 1]? =J (.ref q)/\Ay a sp aG cq/\(st a X (pJ (F*R) S aA av ay) c)[q]? =J (.tup [.ref cq,nv S.2.1,nv S.2.2])/\(st a X (pJ (F*R) S aA av ay) c)[cq]? =J (.list (S.1.map nv)):=by
  have:∀{vs:List V} {ss:List qm} {i:Nat},Cv (Ay a sp aG) (st a X (pJ (F*R) S aA av ay) c) vs ss->ss[i]? =J S->∃q cq,vs[i]? =J (.ref q)/\Ay a sp aG cq/\(st a X (pJ (F*R) S aA av ay) c)[q]? =J (.tup [.ref cq,nv S.2.1,nv S.2.2])/\(st a X (pJ (F*R) S aA av ay) c)[cq]? =J (.list (S.1.map nv)):=by
   intro vs ss
   induction vs generalizing ss with
   | nil=>
    intro i q e;cases ss with
    | nil=>cases e
    | cons s ss=>exact q.elim
   | cons v vs ih=>
    intro i q e;cases ss with
    | nil=>exact q.elim
    | cons s ss=>
     cases i with
     | zero=>
      cases e;refine bc λkk=>?_;obtain⟨⟨x,h1,cq,a1,a2,h2,h3⟩,_⟩:=q;refine kk ?_;clear kk;exact⟨x,cq,cF J h1,a2,h2,h3⟩
     | succ i=>exact ih q.2 e
  exact this v2 (xx lst)
 refine bc λkk=>?_;obtain⟨q,cq,q1,oc,q2,q3⟩:=gs;obtain⟨w0,w1,s1,⟨s2,s3⟩,s4,s5⟩:=lf.steps;refine kk ?_;clear kk;refine zh (vs:=[.ref cq,nv S.2.1,nv S.2.2]) (pd ∅ (oH (len rfl) (ac (n:=1)) hl0) (io v1) q1 (by lia)) q2 rfl ?_;obtain⟨wq,W,e1,e2,e3,e4⟩:∃wq W,[V.ref w0,.ref w1][S.2.1]? =J (.ref wq)/\Ay a sp aG wq/\(st a X (pJ (F*R) S aA av ay) c)[wq]? =J (AT W)/\∀m,W=J m->m.1<F*R:=by
  rcases (Mine.Lake.u2 (by assumption:S.2.1<2)) with hz | hz<;>rw[hz]
  .exact⟨w0,W0,rfl,s2,s3,lf.wr0⟩
  .exact⟨w1,W1,rfl,s4,s5,lf.wr1⟩
 refine bs (pd ∅ ∅ (io s1) e1 (by lia)) ?_;have bV:=pl.bV S g;have kb:=LD (d:=d+10) (wp:=wq) g.cg.cl g.cg.pw bV q3 e3 e4;have cond:∀{e:nw},e[13]? =J (J (.int m))->e[2]? =J (J (nv F))->e[3]? =J (J (nv R))->e[7]? =J (J (.ref cq))->e[4]? =J (J (nv S.2.1))->e[14]? =J (J (.ref wq))->db (K0 (d+14)) (.or (.cmp (.bin .mod (.loc 13) (.int 3)) .ne (.int 0)) (.not (.call 28 888 (.cons (.loc 2) (.cons (.loc 3) (.cons (.loc 7) (.cons (.loc 4) (.cons (.loc 14) .nil)))))))) e (st a X (pJ (F*R) S aA av ay) c) (.bool (decide ((eZ m (3:Nat)).toNat≠0)|| !BH F R S.1 S.2.1 W)) (st a X (pJ (F*R) S aA av ay) c):=λl13 l2 l3 l7 l4 l14=>
  sE (tI (sG (r_loc l13) (ac (n:=3)) ⋯) (ac (n:=0))) (uC (bi (be (r_loc l2) (be (r_loc l3) (be (r_loc l7) (be (r_loc l4) (be (r_loc l14) f8))))) kb) bm)
 refine lv (cond rfl rfl rfl rfl rfl rfl) bm (λe5=>?_) λe5=>?_
 .have kp:=Eu (d:=d+10) g.cg.cl g.cg.pw bV q3 (oZ:=fE m (3:Nat));rw[rG,u6] at kp;refine bs (bi (lc rfl (lc rfl (lc rfl (lc rfl (be (y6 ∅ (ac (n:=3)) ⋯ ⋯) f8))))) kp) (ld ?_);have lf2:LF F R S0 h0 bh a (st a X (pJ (F*R) S aA av ay) (c++[AT (wW F R S.1 S.2.1 (fE m (3:Nat)))])) sp aG SS aA av ay W0 W1:=lf.move _;exact MV Db A hX g0 lf2 lst ch hn hn2 (qg oc.bF q3) oc.bF (by rw[rq];exact bn) (.inr (de _ _)) (λp hp=>QT hp) go bk
 .rw[fJ,Bool.not_eq_false'] at e5;obtain⟨p,hp,L⟩:=Qr g.cg.cl.l e4 e5.2;exact MV Db A hX g0 lf lst ch hn hn2 q3 oc.bF e3 e2.bF (λp' hp'=>by rw[hp] at hp';cases hp';exact L) go bk
end
abbrev Hs:Ss:=rF 14 GF.body
section
variable{d:Nat}{Q:QS}{sa np cq sp aG aC aA av h0 n:Nat}{aB:Bool}{S S0:qm}{SS:List qm}{ay:List V}{W0 W1:Option (Nat × Nat)}{bh a c:H}{X:uu}
def Uf(ho:o<=5)(hs:P.au<2):([.str (bb "*"),.str (if P.au=0 then bb "0-1" else bb "1-0"),.str (bb "1/2-1/2"),.str (bb "1/2-1/2"),.str (bb "1/2-1/2"),.str (bb "1/2-1/2")]:List V)[o]? =J (.str (GB P o)):=by
 unfold GB
 match o,ho with
 | 0,_=>rfl
 | 1,_=>rfl
 | 2,_ | 3,_ | 4,_ | 5,_=>rfl
def XK:D0 G P ks<=5:=by
 ext G P ks;unfold D0
 repeat' split
 all_goals lia
def Oj:(!r5 G P P.au&& !AK G P)=decide (D0 G P ks=2):=by
 unfold D0;cases AK G P<;>cases r5 G P P.au<;>simp
 repeat' split
 all_goals simp
def qx.weak(k:∀i,ok i->ok' i)(A:qx F R ok h S0 h0 SS aA av ay):qx F R ok' h S0 h0 SS aA av ay:=by
 induction A with
 | base=>exact .base
 | step C l L hp hq g ih=>exact .step ih l L hp (k _ hq) g
def QK(A:PA a X)(hX:X.G=dL F R cc)(g0:Gp F R S0.1 S0.2.1 S0.2.2)(tr:qx F R (y0 a) (st a X (pJ (F*R) S aA av ay) c) S0 h0 SS aA av ay)(lst:SS.getLast? =J S)(hl:1<SS.length)(hl2:SS.length<100):
  ∃SS' S' aU full' bg,SS'.length+1=SS.length/\SS'.getLast? =J S'/\qx F R (y0 a) (st a X (pJ (F*R) S' aU full' bg) c) S0 h0 SS' aU full' bg/\
   ii (K0 (d+3)) 811 [.ref a.length] (st a X (pJ (F*R) S aA av ay) c) .none (st a X (pJ (F*R) S' aU full' bg) c):=by
 ext d aA av h0 S S0 SS ay a c X;have k:∀(P':Ps) i o,y0 a i->(st a X (pJ (F*R) S aA av ay) c)[i]? =J o->(st a X P' c)[i]? =J o:=λP' i o hi g=>by
  have:=qg (t:=[]) (P':=P') hi g;rw[cN] at this;exact this
 obtain⟨h,hh⟩:=(⟨_,rfl⟩:∃h,h=st a X (pJ (F*R) S aA av ay) c)
 rw[<- hh] at tr k;cases tr with
 | base=>exact cG hl (eU 1)
 | step C l L hp hq g=>
  rename_i SS' aU full' bg S' s t pr q;rw[hE] at lst;have e:rB F R S' s t pr=S:=by
   have:(J (rB F R S' s t pr))=J S:=lst;injection this
  subst e;have gp:=C.gp g0 S' l;rw[a6] at hl2;have hl2:SS'.length+1<100:=hl2;have tl:=C.len;have M:=Zt (aU:=sW S'.1 s t aU) (kx':=sI (F*R) (rB F R S' s t pr).2.1 (rB F R S' s t pr).2.2) (aZ:=(rB F R S' s t pr).2.2) (ay:=bg++[.ref q]) (full':=if S'.2.1=1 then full'+1 else full') pl gp L hp (by rw[a6];show bg.length+1<900;lia) (by have:=C.bT;split<;>lia);have mt:=(H6 pl gp L hp).2.1;have un:=Ts (aA:=aU) (av:=full') (ay:=bg) (aU:=sW S'.1 s t aU) (kx':=sI (F*R) (rB F R S' s t pr).2.1 (rB F R S' s t pr).2.2) (aZ:=(rB F R S' s t pr).2.2) (hs':=bg++[.ref q]) pl gp L hp;rw[<- hX] at M un;have g':h[q]? =J (.tup [nv (yY F R S'.1 s t pr),nv (S'.1.getD t 0),nv S'.2.2,.int (-1),nv aU,nv (pJ (F*R) S' aU full' bg).key]):=by
   have z:h[q]? =J (.tup [nv (yY F R S'.1 s t pr),nv (S'.1.getD (qv (yY F R S'.1 s t pr)) 0),nv S'.2.2,.int (-1),nv aU,nv (pJ (F*R) S' aU full' bg).key]):=g;rw[mt] at z;exact z
  rw[hh] at g';have kd:=Iw (d:=d) (c:=c) (hs:=bg) A M rfl g' hq;rw[un] at kd;exact⟨SS',S',aU,full',bg,by rw[a6];rfl,l,C.mono λi o hi g=>k _ i o hi g,kd⟩
def PJ{h:H}{ns:List Int}{n1 n2:Int}(A:PA a X)(hX:X.G=dL F R cc)(g0:Gp F R S0.1 S0.2.1 S0.2.2)(I:LI F R S0 h0 bh sa np a X sp aG n e h)(hn:n<20)(hns:bh[np]? =J (.list (ns.map .int)))(onp:Ay a sp aG np)(e1:ns[1]? =J n1)(e2:ns[2]? =J n2)(hh0:(eZ n1 (104:Nat)).toNat=h0)(q:∀e h,Q (.ret (.bool true)) e h):oD (K0 (d+14)) Hs e h Q:=by
 revert aG h0 n S0 bh a X e h ns n1 n2;ext d Q sa np sp;ext aG h0 n S0 bh a X e h ns n1 n2;refine bc λkk=>?_;obtain⟨SS,aA,av,ay,aC,aB,S,W0,W1,c,sd,rt,cq,x13,bQ,bP,bO,bN,bD,bx,bw,bu,bq,lf,lst,ch,hl⟩:=I;revert cq x13 bQ bP bO bN bD bx bw bu bq;ext SS aA av ay aC aB S W0 W1 c sd rt;ext cq x13 bQ bP bO bN bD bx bw bu bq;have g:=lf.trail.gp g0 S lst;have aX:=g.sd;obtain⟨vs,v1,v2⟩:=lf.sts;ext vs;have vl:=v2.at.len;have hl0:0<SS.length:=by cases SS with | nil=>cases (lst) | cons=>exact fF _
 have hk:=lf.trail.hk (P:=pJ (F*R) S aA av ay) rfl (by lia);have gd:=pl.gd S aA av ay g;have pk:=Ka (aA:=aA) (av:=av) (ay:=ay) g.cg.cl.l g.sd g.cg.cl.bd.sz;rw[<- hX] at gd pk;obtain⟨P,hP⟩:=(⟨_,rfl⟩:∃P,P=pJ (F*R) S aA av ay)
 ext P;have Ps:P.au=S.2.1:=by rw[hP];rfl
 obtain⟨ks,hks⟩:=(⟨_,rfl⟩:∃ks,ks=SS.dropLast.map (yH (F*R)))
 refine kk ?_;clear kk;rw[<- hP,<-hks] at hk;rw[<- hP] at gd pk v1 v2;have npc:∀{t:H},(st a X P (c++t))[np]? =J (.list (ns.map .int)):=λ{t}=>by
  have:=lf.fr np _ onp hns;rw[<- hP] at this;exact qg onp.bF this
 have num:∀{e:nw} {t:H} {j:Nat} {x:Int},ns[j]? =J x->j<7->e[1]? =J (J (.ref np))->db (K0 (d+14)) (.sub (.loc 1) (.int (fk j))) e (st a X P (c++t)) (.int x) (st a X P (c++t)):=λhx hj l=>pd (r_loc l) ac (io npc) (by rw[cV,hx];rfl) (by lia);have At0:∀{t:H},At (st a X P (c++t)) a.length X P:=λ{t}=>A.at pk;have hk2:∀{t:H},HK (st a X P (c++t)) P ks:=λ{t}=>by rw[<- rG];exact hk.app t
 rw[<- hP];have e0:st a X P c=st a X P (c++[]):=by rw[cN]
 have oc:=λ(t:H)=>Bp (d:=d+3) (At0 (t:=t)) hk2 gd;refine bs (v:=nv (D0 X.G P ks)) (h1:=st a X P c) (by rw[e0];exact bi (lz rfl) (oc [])) ?_;obtain⟨o,ho⟩:=(⟨_,rfl⟩:∃o,o=D0 X.G P ks)
 have o5:o<=5:=by rw[ho];exact XK
 rw[<- ho];obtain⟨q0,cq0,q1,q2,q3⟩:∃q0 cq0,vs[SS.length - 1]? =J (.ref q0)/\(st a X P c)[q0]? =J (.tup [.ref cq0,nv S.2.1,nv S.2.2])/\True:=by
  refine bc λkk=>?_;obtain⟨q0,h1,cq0,h2,h3⟩:=v2.at.get (xx lst);refine kk ?_;clear kk;exact⟨q0,cq0,h1,h2,trivial⟩
 have v1':∀{t:H},(st a X P (c++t))[sp]? =J (.list vs):=λ{t}=>qg (.inr lf.sp5) v1;have q2':∀{t:H},(st a X P (c++t))[q0]? =J (.tup [.ref cq0,nv S.2.1,nv S.2.2]):=λ{t}=>by rw[<- rG,ar (f0 q2)];exact q2
 have len:∀{e:nw} {i:Nat} {t:H},e[9]? =J (J (.ref sp))->db (K0 (d+14)) (.len i (.loc 9)) e (st a X P (c++t)) (nv SS.length) (st a X P (c++t)):=λ{e i t} l=>by
  have z:=tV (K:=K0 (d+14)) (i:=i) (a:=.loc 9) (e:=e) (r_loc l) (io (v1' (t:=t))) (by lia);rw[vl] at z;exact z
 have sdE:∀{e:nw} {t:H},e[9]? =J (J (.ref sp))->db (K0 (d+14)) (.sub (.sub (.loc 9) (.bin .sub (.len 27 (.loc 9)) (.int 1))) (.int 1)) e (st a X P (c++t)) (nv S.2.1) (st a X P (c++t)):=λl=>
  pd (pd (r_loc l) (oH (len l) (ac (n:=1)) hl0) (io v1') q1 (by lia)) (ac (n:=1)) (t9 q2') rfl ⋯
 obtain⟨txt,htx⟩:=(⟨_,rfl⟩:∃txt,txt=if S.2.1=0 then bb "0-1" else bb "1-0");have tl:∃t lp,db (K0 (d+14)) (.bin .add (.list (.cons (.str (bb "*")) (.cons (.sub (.list (.cons (.str (bb "0-1")) (.cons (.str (bb "1-0")) .nil))) (.sub (.sub (.loc 9) (.bin .sub (.len 27 (.loc 9)) (.int 1))) (.int 1))) .nil))) (.rep (.cons (.str (bb "1/2-1/2")) .nil) (.int 4)))
   ((EL sa np F R sd rt aA cq a.length sp aC aB aG x13 bQ bP bO bN bD bx bw bu bq).set 20 (J (nv o))) (st a X P c) (.ref lp) (st a X P (c++t))/\(st a X P (c++t))[lp]? =J (.list [.str (bb "*"),.str txt,.str (bb "1/2-1/2"),.str (bb "1/2-1/2"),.str (bb "1/2-1/2"),.str (bb "1/2-1/2")]):=by
  have a1:=qe (K:=K0 (d+14)) (xs:=[.str (bb "0-1"),.str (bb "1-0")]) (h:=st a X P c) (e:=(EL sa np F R sd rt aA cq a.length sp aC aB aG x13 bQ bP bO bN bD bx bw bu bq).set 20 (J (nv o))) (be BQ (be BQ f8)) (by show(2:Nat)<=1000;decide);have a2:db (K0 (d+14)) (.sub (.list (.cons (.str (bb "0-1")) (.cons (.str (bb "1-0")) .nil))) (.sub (.sub (.loc 9) (.bin .sub (.len 27 (.loc 9)) (.int 1))) (.int 1))) ((EL sa np F R sd rt aA cq a.length sp aC aB aG x13 bQ bP bO bN bD bx bw bu bq).set 20 (J (nv o))) (st a X P c) (.str txt) (st a X P c++[.list [.str (bb "0-1"),.str (bb "1-0")]]):=by
   refine pd a1 (by rw[rG];exact sdE rfl) (io bn) ?_ (by lia);rw[htx];rcases (Mine.Lake.u2 (by assumption:S.2.1<2)) with hz | hz<;>rw[hz]<;>rfl
  have a3:=qe (K:=K0 (d+14)) (be (BQ (k:=bb "*")) (be a2 f8)) (by show(2:Nat)<=1000;decide);have a4:=Nv (K:=K0 (d+14)) (e:=(EL sa np F R sd rt aA cq a.length sp aC aB aG x13 bQ bP bO bN bD bx bw bu bq).set 20 (J (nv o))) (h:=st a X P c++[.list [.str (bb "0-1"),.str (bb "1-0")]]++[.list [.str (bb "*"),.str txt]]) (be (BQ (k:=bb "1/2-1/2")) f8) (ac (n:=4)) (by show(1:Nat)<=10;decide) ⋯;have a5:=um (o:=.add) (z:=.ref (st a X P c++[O.list [V.str (bb "0-1"),V.str (bb "1-0")]]++[O.list [V.str (bb "*"),V.str txt]]++[O.list (cW 4 [V.str (bb "1/2-1/2")]).flatten]).length) (h3:=st a X P c++[O.list [V.str (bb "0-1"),V.str (bb "1-0")]]++[O.list [V.str (bb "*"),V.str txt]]++[O.list (cW 4 [V.str (bb "1/2-1/2")]).flatten]++[.list [.str (bb "*"),.str txt,.str (bb "1/2-1/2"),.str (bb "1/2-1/2"),.str (bb "1/2-1/2"),.str (bb "1/2-1/2")]]) a3 a4 (by
   unfold pq;dsimp only;rw[ar (by simp),bn,bn];rfl)
  refine⟨[O.list [V.str (bb "0-1"),V.str (bb "1-0")]]++[O.list [V.str (bb "*"),V.str txt]]++[O.list (cW 4 [V.str (bb "1/2-1/2")]).flatten]++[.list [.str (bb "*"),.str txt,.str (bb "1/2-1/2"),.str (bb "1/2-1/2"),.str (bb "1/2-1/2"),.str (bb "1/2-1/2")]],(st a X P c++[O.list [V.str (bb "0-1"),V.str (bb "1-0")]]++[O.list [V.str (bb "*"),V.str txt]]++[O.list (cW 4 [V.str (bb "1/2-1/2")]).flatten]).length,?_,?_⟩;rotate_left
  .rw[<- rG,<-aa,<-aa,<-aa];exact bn
  .rw[<- rG,<-aa,<-aa,<-aa];exact a5
 obtain⟨t,lp,tl,tg⟩:=tl;refine bs tl ?_;have rtx:=FS (d:=d+2) (At0 (t:=t)) hk2 gd;have stl:=DJ (d:=d+3) (At0 (t:=t)) gd;rw[Oj (ks:=ks),<-ho] at stl;rw[<- ho] at rtx;have tok:=Uf (P:=P) (o:=o) o5 (by rw[Ps];exact aX);rw[Ps,<-htx] at tok;refine Dm (by
  have z1:=pB (K:=K0 (d+14)) (co:=.ne) (t:=false) (bi (i:=33) (be (r_loc (i:=8) (e:=((EL sa np F R sd rt aA cq a.length sp aC aB aG x13 bQ bP bO bN bD bx bw bu bq).set 20 (J (nv o))).set 21 (J (.ref lp))) rfl) f8) rtx) (pd (r_loc (i:=21) rfl) (r_loc (i:=20) (v:=nv o) rfl) (io tg) tok (by lia)) (by show J (GB P o != GB P o)=_;rw[bne_self_eq_false]);have z2:=Gg (K:=K0 (d+14)) (bi (i:=34) (be (r_loc (i:=8) (e:=((EL sa np F R sd rt aA cq a.length sp aC aB aG x13 bQ bP bO bN bD bx bw bu bq).set 20 (J (nv o))).set 21 (J (.ref lp))) rfl) f8) stl) (oM (r_loc (i:=20) (v:=nv o) rfl) (ac (n:=2)));have z:=sE z1 z2;rw[bne_self_eq_false] at z;exact z) ?_
 have tr0:qx F R (y0 a) (st a X P (c++t)) S0 h0 SS aA av ay:=by
  have z:=lf.trail.weak (ok':=y0 a) λi hi=>hi.bF;rw[hP];exact z.mono λi o hi g=>qg hi g
 refine rQ (n:=0) (m:=SS.length - 1) (lw _) (pZ (be (oH (len rfl) (ac (n:=1)) hl0) f8) (by lia)) bn (by lia) (by lia)
  (λj e h=>∃SS' S' aU full' bg bq,SS'.length+j=SS.length/\SS'.getLast? =J S'/\qx F R (y0 a) (st a X (pJ (F*R) S' aU full' bg) (c++t++[.aT 0 (SS.length - 1:Nat) 1])) S0 h0 SS' aU full' bg/\h=st a X (pJ (F*R) S' aU full' bg) (c++t++[.aT 0 (SS.length - 1:Nat) 1])/\
   e=EL sa np F R sd rt aA cq a.length sp aC aB aG x13 bQ bP bO bN bD bx (J (nv o)) (J (.ref lp)) bq)
  ⟨SS,S,aA,av,ay,bq,rfl,lst,by rw[<- hP];exact tr0.mono λi o hi g=>qg hi g,by rw[rG,hP],rfl⟩ (λj w hj e h z=>?_) λe h z=>?_
 .refine bc λkk=>?_;obtain⟨SS',S',aU,full',bg,y22,l1,l2,l3,rfl,rfl⟩:=z;obtain⟨SS2,S2,half2,full2,hist2,m1,m2,m3,m4⟩:=QK (d:=d+11) A hX g0 l3 l2 (by lia) (by lia);refine kk ?_;clear kk;exact oJ (bi (lz rfl) m4) (od ⟨SS2,S2,half2,full2,hist2,J (nv j),by lia,m2,m3,rfl,rfl⟩)
 .refine bc λkk=>?_;obtain⟨SS',S',aU,full',bg,y22,l1,l2,l3,rfl,rfl⟩:=z;refine kk ?_;clear kk;have le:SS'=[S0]/\aU=h0/\full'=1/\bg=[]:=by
   cases l3 with
   | base=>exact⟨rfl,rfl,rfl,rfl⟩
   | step C0 l L hp hq g=>
    have:=C0.len;rw[a6] at l1;have:∀x:qm,[x].length=1:=λw=>rfl;rw[this] at l1;lia
  obtain⟨rfl,rfl,rfl,rfl⟩:=le;cases (l2);have v3:(st a X (pJ (F*R) S0 aU 1 []) (c++t++[.aT 0 (SS.length - 1:Nat) 1]))[sp]? =J (.list vs):=by
   rw[aa];exact qg (.inr lf.sp5) v1
  have fst:∃S1 q1,vs[0]? =J (.ref q1)/\xp (Ay a sp aG) (st a X P c) q1 S1/\SS[0]? =J S1:=by
   cases vs with
   | nil=>cases SS with
    | nil=>cases (hl0)
    | cons=>cases (vl)
   | cons v vs=>cases SS with
    | nil=>cases (hl0)
    | cons s ss=>
     obtain⟨⟨x,h1,h2⟩,_⟩:=v2
     exact⟨s,x,cF J h1,h2,rfl⟩
  refine bc λkk=>?_;obtain⟨S1,q1',f1,f2,f3⟩:=fst;refine kk ?_;clear kk;have f4:S1=S0:=by
   have:∀{SS:List qm} {aA aC:Nat} {aB:Bool},u0 F R S0 aU SS aA aC aB->SS[0]? =J S0:=λ{SS aA aC aB} ch=>by
    induction ch with
    | base=>rfl
    | step C0 l L hp ih=>rw[ar (f0 ih)];exact ih
   have:=this ch;rw[f3] at this;cases (this);rfl
  subst f4;have vt:vs.take 1=[.ref q1']:=by
   cases vs with
   | nil=>cases (f1)
   | cons v vs=>cases (f1);rfl
  have sl:∀{e:nw},e[9]? =J (J (.ref sp))->db (K0 (d+14)) (.slice (.loc 9) .bK (.int 1)) e (st a X (pJ (F*R) S1 aU 1 []) (c++t++[.aT 0 (SS.length - 1:Nat) 1])) (.ref (a.length+5+(c++t++[O.aT 0 (SS.length - 1:Nat) 1]).length)) (st a X (pJ (F*R) S1 aU 1 []) (c++t++[.aT 0 (SS.length - 1:Nat) 1]++[.list [.ref q1']])):=λl=>
   vZ (r_loc l) x0 (ac (n:=1)) (by
    rw[tx (x:=.ref sp) (a:=0) (b:=1) v3 rfl (xI (n:=1)) (by lia),mW,u6,rG,vt])
  have f5:DV (st a X (pJ (F*R) S1 aU 1 []) (c++t++[.aT 0 (SS.length - 1:Nat) 1]++[.list [.ref q1']])) q1' S1:=(f2.mono λi o hi g=>by rw[aa,aa];exact qg hi.bF g).at;have ag:=yo (d:=d) (m:=n2) (sp:=a.length+5+(c++t++[O.aT 0 (SS.length - 1:Nat) 1]).length) (vs:=[.ref q1']) (SS:=[S1]) (S:=S1) (h0:=aU) (aA:=aU) (av:=1) (ay:=[]) (c:=c++t++[.aT 0 (SS.length - 1:Nat) 1]++[.list [.ref q1']]) (ok:=y0 a) A hX g0 .base (by rw[rq];exact bn) ⟨⟨q1',rfl,f5⟩,trivial⟩ rfl .base (by show(1:Nat)<100;decide);have np3:∀{t':H},(st a X (pJ (F*R) S1 aU 1 []) (c++t++[.aT 0 (SS.length - 1:Nat) 1]++t'))[np]? =J (.list (ns.map .int)):=λ{t'}=>by
   have:=lf.fr np _ onp hns;rw[aa,aa];exact qg onp.bF this
  have numF:∀{e:nw} {j:Nat} {x:Int},ns[j]? =J x->j<7->e[1]? =J (J (.ref np))->db (K0 (d+14)) (.sub (.loc 1) (.int (fk j))) e (st a X (pJ (F*R) S1 aU 1 []) (c++t++[.aT 0 (SS.length - 1:Nat) 1]++[.list [.ref q1']])) (.int x) (st a X (pJ (F*R) S1 aU 1 []) (c++t++[.aT 0 (SS.length - 1:Nat) 1]++[.list [.ref q1']])):=λhx hj l=>pd (r_loc l) ac (io np3) (by rw[cV,hx];rfl) (by lia);rw[<- hh0] at ag;rw[<- hh0] at sl numF;rw[<- hh0];exact uz (bi (lc rfl (lc rfl (lc rfl (be (sl rfl) (be o4 (be (sG (numF e1 ⋯ rfl) (ac (n:=104)) ⋯) (be (numF e2 ⋯ rfl) f8))))))) ag) (q _ _)
end
section
variable{K:pK}{e:nw}{h h1:H}{it elt:E}{i f n:Nat}{v:V}{r:Ss}{Q:QS}{es:Es}{vs:List V}{R:V->H->Prop}
def MR(A:Gb K es e (st a X P c) xs (st a X P c'))(l:xs.length<=1000):db K (.list es) e (st a X P c) (.ref (a.length+5+c'.length)) (st a X P (c'++[.list xs])):=by
 have z:=qe A l;rw[rG,u6] at z;exact z
def Vf(A:Gb K es e h vs h1)(B:RZ K f vs h1 R):Yw K (.call i f es) e h R:=⟨λQ q=>A.go _ (B.go _ q)⟩
def Uh(M:K.aV)(A:db K it e h v h1)(l:Fg K h1 v=J (.aT ((0:Nat):Int) (n:Int) 1))(hn:n<1000)(el:∀j,j<n->∀t,db K elt (e.set i (J (nv j))) (h1++t) (g j) (h1++t)):db K (.comp elt i it (.bool true)) e h (.ref h1.length) (h1++[.list ((cn n).map g)]):=
 EU M A l n (λj h=>h=h1++[.list ((cn j).map g)]) rfl (λj hj h q=>by
  subst q;have ri:=tM (K:=K) (h:=h1++[.list ((cn j).map g)]) (x:=v) (n:=0) (m:=n) (j:=j) (N:=n) (dY _);rw[cC hj,dY] at ri;refine⟨nv j,_,true,_,ri,o4,rfl,λe1=>⟨_,_,_,el j hj _,Am (t:=[]) (by rw[bj,dn];lia),?_⟩,λe1=>by cases e1⟩;rw[gf,dO];rfl) λh q=>by
  subst q;have ri:=tM (K:=K) (h:=h1++[.list ((cn n).map g)]) (x:=v) (n:=0) (m:=n) (j:=n) (N:=n) (dY _);rw[cD (eU _)] at ri;exact⟨ri,rfl⟩
end
section
variable{d:Nat}{sa:Nat}{h2:H}
def PR{ms ns:List Int}{Q:V->H->Prop}(Db:U1 F R)(b:We F R cc)(hsa:CA sa=J (.list (ms.map .int)))(hms:ms.length<=63)(hns:ns.length=7)(hh:h2[1]? =J (.list (ns.map .int)))(hc:h2.length=5)(q:∀h,Q (.bool true) h):
  oD (K0 (d+14)) YG (Qk sa F R U U U U U U U U U) h2 (qN 0 Q):=by
 ext d sa h2 ms ns Q;have bd:=Db.bd;have hF:=bd.f;have ge:∀{j:Nat},j<7->∃x,ns[j]? =J x:=λhj=>⟨_,a7 (by rw[hns];exact hj)⟩
 refine bc λkk=>?_;obtain⟨n0,e0⟩:=ge (j:=0) ⋯;obtain⟨n1,e1⟩:=ge (j:=1) ⋯;obtain⟨n2,e2⟩:=ge (j:=2) ⋯;have num:∀{e:nw} {j:Nat} {x:Int},ns[j]? =J x->j<7->e[1]? =J (J (.ref 1))->db (K0 (d+14)) (.sub (.loc 1) (.int (fk j))) e h2 (.int x) h2:=λhx hj l=>pd (r_loc l) ac (io hh) (by rw[cV,hx];rfl) (by lia);obtain⟨au,aX⟩:=(⟨_,rfl⟩:∃au,au=(eZ (fE n0 (2:Nat)) (2:Nat)).toNat)
 refine kk ?_;clear kk;have sd2:au<2:=by rw[aX];exact sC _ ⋯
 refine bs (v:=nv au) (by rw[aX];exact sG (y6 (num e0 ⋯ rfl) (ac (n:=2)) ⋯ ⋯) (ac (n:=2)) ⋯) (bs ac ?_);obtain⟨az,hrt⟩:=(⟨_,rfl⟩:∃az,az=if F=7 then(eZ (fE n0 (4:Nat)) (16:Nat)).toNat else 0)
 have r16:az<16:=by
  rw[hrt];split
  .exact sC _ ⋯
  .decide
 have r0:F=3->az=0:=λe=>by rw[hrt,cD (by lia)]
 suffices rest:oD (K0 (d+14)) (rF 5 GF.body) (Qk sa F R (J (nv au)) (J (nv az)) U U U U U U U) h2 (qN 0 Q) by
  refine lv (oM ∅ ac) bm (λe5=>?_) λe5=>?_
  .rw[cC (b9 e5)] at hrt;exact bs (v:=nv az) (by rw[hrt];exact sG (y6 (num e0 ⋯ rfl) (ac (n:=4)) ⋯ ⋯) (ac (n:=16)) ⋯) (ld rest)
  .rw[cD (cj e5)] at hrt;subst hrt;exact rest
 obtain⟨h0,hh0⟩:=(⟨_,rfl⟩:∃h0,h0=(eZ n1 (104:Nat)).toNat)
 refine bs (v:=nv h0) (by rw[hh0];exact sG (num e1 ⋯ rfl) (ac (n:=104)) ⋯) ?_;refine R9 (Vf (lc rfl (lc rfl (lc rfl (lc rfl (lz rfl))))) (Kc (d:=d+11) Db sd2 r16 r0 hns hh)) λv h' z=>?_;refine bc λkk=>?_;obtain⟨cs,g0,rfl,rfl⟩:=z;obtain⟨S0,hS0⟩:=(⟨_,rfl⟩:∃S0:qm,S0=(cs,au,az))
 have g0':Gp F R S0.1 S0.2.1 S0.2.2:=by rw[hS0];exact g0
 have kp:=El (d:=d+10) (aA:=h0) (au:=au) (T:=h2++[.list (cs.map nv)]) (cp:=h2.length) b g0.cg.cl (λi hi=>g0.pc hi) r16 bn;have A:=Sz (T:=h2++[O.list (cs.map nv)]) b;obtain⟨X,hX⟩:=(⟨_,rfl⟩:∃X,X=xS (h2++[O.list (cs.map nv)]).length F R cc)
 have hXG:X.G=dL F R cc:=by rw[hX];rfl
 obtain⟨a,ha⟩:=(⟨_,rfl⟩:∃a,a=aP (h2++[O.list (cs.map nv)]) F R cc)
 have at0:∃t0,a=h2++[O.list (cs.map nv)]++t0:=⟨_,ha⟩
 obtain⟨t0,at0⟩:=at0;refine kk ?_;clear kk;have pS:oa (F*R) cs au az h0 1 (sI (F*R) au az) []=pJ (F*R) S0 h0 1 []:=by rw[hS0];rfl
 rw[pS,<-hX,<-ha] at kp;rw[<- hX,<-ha] at A;clear ha hX;refine bs (bi (lc rfl (lc rfl (lc rfl (lc rfl (lc rfl (lz rfl)))))) kp) ?_;have al:h2.length<a.length:=by rw[at0,a6,a6];show _<_+1+_;lia
 have gcs:∀{P:Ps} {c:H},(st a X P c)[h2.length]? =J (.list (cs.map nv)):=λ{P c}=>by
  rw[sD al,at0,ar (by rw[a6];exact dM _)];exact bn
 have gns:∀{P:Ps} {c:H},(st a X P c)[1]? =J (.list (ns.map .int)):=λ{P c}=>by
  rw[sD (by lia),at0,aa,ar (by lia)];exact hh
 refine bs (v:=.ref (a.length+5+2)) (h1:=st a X (pJ (F*R) S0 h0 1 []) ([.aT 0 (F*R:Nat) 1]++[.tup [.ref h2.length,nv au,nv az]]++[.list [.ref (a.length+5+1)]])) (MR (be (wc (lc rfl (lc rfl (lz rfl))) (by show(3:Nat)<=1000;decide)) f8) (by show(1:Nat)<=1000;decide)) (bs ac (bs o4 ?_));refine bs (v:=.ref (a.length+5+5)) (h1:=st a X (pJ (F*R) S0 h0 1 []) ([.aT 0 (F*R:Nat) 1]++[.tup [.ref h2.length,nv au,nv az]]++[.list [.ref (a.length+5+1)]]++[.tup []]++[.tup []]++[.list [.ref (a.length+5+3),.ref (a.length+5+4)]])) (MR (be (wc f8 (dF _)) (be (wc f8 (dF _)) f8)) (by show(2:Nat)<=1000;decide)) ?_;obtain⟨c6,hc6⟩:=(⟨_,rfl⟩:∃c6,c6=[O.aT 0 (F*R:Nat) 1]++[O.tup [.ref h2.length,nv au,nv az]]++[O.list [.ref (a.length+5+1)]]++[O.tup []]++[O.tup []]++[O.list [.ref (a.length+5+3),.ref (a.length+5+4)]])
 rw[<- hc6];have gc:∀{P:Ps} {t:H} {j:Nat} {o:O},c6[j]? =J o->(st a X P (c6++t))[a.length+5+j]? =J o:=λ{P t j o} hj=>by rw[rq,ar (f0 hj)];exact hj
 have d1:c6[1]? =J (.tup [.ref h2.length,nv S0.2.1,nv S0.2.2]):=by rw[hc6,hS0];rfl
 have d2:c6[2]? =J (.list [.ref (a.length+5+1)]):=by rw[hc6];rfl
 have d3:c6[3]? =J (.tup []):=by rw[hc6];rfl
 have d4:c6[4]? =J (.tup []):=by rw[hc6];rfl
 have d5:c6[5]? =J (.list [.ref (a.length+5+3),.ref (a.length+5+4)]):=by rw[hc6];rfl
 have c6l:c6.length=6:=by rw[hc6];rfl
 have hcs:S0.1=cs:=by rw[hS0]
 have ok:∀{j:Nat},j≠2->j≠5->Ay a (a.length+5+2) (a.length+5+5) (a.length+5+j):=λh1 h2=>⟨by lia,by lia,.inr (by lia)⟩
 have s0:∀{t:H},xp (Ay a (a.length+5+2) (a.length+5+5)) (st a X (pJ (F*R) S0 h0 1 []) (c6++t)) (a.length+5+1) S0:=λ{t}=>⟨h2.length,ok ⋯ ⋯,⟨by lia,by lia,.inl al⟩,gc d1,by rw[hcs];exact gcs⟩
 have e6:st a X (pJ (F*R) S0 h0 1 []) c6=st a X (pJ (F*R) S0 h0 1 []) (c6++[]):=by rw[cN]
 have ag:=yo (d:=d) (m:=n2) (sp:=a.length+5+2) (vs:=[.ref (a.length+5+1)]) (SS:=[S0]) (S:=S0) (h0:=h0) (aA:=h0) (av:=1) (ay:=[]) (c:=c6) (ok:=y0 a) A hXG g0' .base (by rw[e6];exact gc d2) (by rw[e6];exact⟨⟨_,rfl,s0.at⟩,trivial⟩) rfl .base (by show(1:Nat)<100;decide);refine lv (t:=false) (uC (bi (lc rfl (lc rfl (lc rfl (lc rfl (be o4 (lc rfl (be (pd ∅ (ac (n:=2)) (io gns) (by rw[cV,e2];rfl) ⋯) f8))))))) ag) bm) rfl (λe=>by cases e) λw=>?_;obtain⟨xs,hxs⟩:=(⟨_,rfl⟩:∃xs,xs=((ms.map V.int).take 15).drop 7)
 have xl:xs.length<=8:=by rw[hxs,jL,dC];lia
 obtain⟨bh,hh00⟩:=(⟨_,rfl⟩:∃bh,bh=st a X (pJ (F*R) S0 h0 1 []) (c6++[.list xs]))
 have glp:bh[a.length+5+6]? =J (.list xs):=by rw[hh00,rq,<-c6l];exact bn
 have gnp:bh[1]? =J (.list (ns.map .int)):=by rw[hh00];exact gns
 have stN:Ay a (a.length+5+2) (a.length+5+5) 1:=⟨by lia,by lia,.inl (by lia)⟩
 have lf:LF F R S0 h0 bh a bh (a.length+5+2) (a.length+5+5) [S0] h0 1 [] U U:=by
  refine⟨de _ _,de _ _,(by lia),⟨[.ref (a.length+5+1)],(by rw[hh00];exact gc d2),⟨⟨_,rfl,(by rw[hh00];exact s0)⟩,trivial⟩⟩,⟨a.length+5+3,a.length+5+4,(by rw[hh00];exact gc d5),⟨ok ⋯ ⋯,(by rw[hh00];exact gc d3)⟩,⟨ok ⋯ ⋯,(by rw[hh00];exact gc d4)⟩⟩,(λm e=>by cases e),(λm e=>by cases e),qx.base,λi o hi g=>g⟩
 have fin:∀n e h,n<20->LI F R S0 h0 bh sa 1 a X (a.length+5+2) (a.length+5+5) n e h->oD (K0 (d+14)) Hs e h (qN 0 Q):=λn e h hn I=>PJ A hXG g0' I hn gnp stN e1 e2 hh0.symm λe h=>.inl (q h);refine Hf (v:=.ref (a.length+5+6)) (xs:=xs) (h1:=bh) (lw _) (vZ ∅ (ac (n:=7)) (ac (n:=15)) ?_) glp (λj e h=>LI F R S0 h0 bh sa 1 a X (a.length+5+2) (a.length+5+5) j e h) ?_ (λj e h I=>?_) rfl (λj v hv e h I=>?_) λe h I=>fin _ e h (by lia) I
 .rw[tx (x:=.con sa) (xs:=ms.map .int) (a:=7) (b:=15) (by show(K0 (d+14)).con sa=_;rw[KP];exact hsa) (xI (n:=7)) (xI (n:=15)) (by rw[bj];lia),u6,rG,c6l,hh00,hxs]
 .exact LI.of hh00 lf rfl .base (cX _)
 .refine bc λkk=>?_;obtain⟨SS,aA,av,ay,aC,aB,S,W0,W1,c,sd,rt,cq,x13,bQ,bP,bO,bN,bD,bx,bw,bu,bq,lf,lst,ch,hn⟩:=I;refine kk ?_;clear kk;exact lf.fr _ _ (ok ⋯ ⋯) glp
 .have hm:∃m:Int,v= .int m:=by
   have hv':v∈xs:=dB hv;rw[hxs] at hv';obtain⟨m,_,rfl⟩:=d7.mp (g9 (kL hv'));exact⟨m,rfl⟩
  obtain⟨m,rfl⟩:=hm;have hj:j<xs.length:=f0 hv;exact(Qh (Q:=oZ (λe h=>LI F R S0 h0 bh sa 1 a X (a.length+5+2) (a.length+5+5) (j+1) e h) (se (K0 (d+14)) Hs (qN 0 Q))) Db A hXG g0' (by lia) I (λe h I=>I) λe h I=>(fin _ e h (by lia) I).go).go
end
section
def brd:We F R cc:=KD (C:=We) Zj ZY
def Q7:(K0 24).call 922 [.con Md] [] (λv w=>v= .bool true):=by
 exact ZQ (d:=23) rfl λhc=>by
   have hsa:CA Md=J (.list (Pv.map .int)):=by unfold CA zj;rw[cC rfl]
   have nl0:=MX;have hK:(K0 23).con=CA:=KP 23;obtain⟨Q,hQ⟩:=(⟨_,rfl⟩:∃Q:V->H->Prop,Q=λv w=>v= .bool true)
   rw[<- hQ];have q:∀h,Q (.bool true) h:=λh=>by rw[hQ]
   obtain⟨ns,hns⟩:=(⟨_,rfl⟩:∃ns:List Int,ns=Yu)
   have nl:ns.length=7:=by rw[hns];unfold Yu;rw[bj,dn]
   have so:∀{h:H},pN (K0 23) h (.con Md)=J (Pv.map .int):=λ{h}=>by
    unfold pN;rw[show tR (K0 23) h (.con Md)=J (.list (Pv.map .int)) by show(K0 23).con Md=_;(rewrite [hK];try with_reducible rfl);exact hsa]
   have Uo:=Sl (PR (d:=9) (h2:=h20) (ns:=Yu) Db brd hsa MX (by unfold Yu;rw[bj,dn]) rfl rfl λw=>rfl);have main:oD (K0 23) GF.body (oP 36 [.con Md]) [] (qN 0 Q):=by
    refine bs (v:=.ref 1) (h1:=[.aT 0 7 1]++[.list (ns.map .int)]) (by
     have e1:ns.map V.int=(cn 7).map λi=>if i<Pv.length then .int (Pv.getD i 0) else .int 0:=by
      rw[hns];unfold Yu;rw[hZ];congr 1;funext i;show V.int (if _ then _ else _)=_;split<;>rfl
     rw[e1];refine Uh (lw _) (pZ (be (ac (n:=7)) f8) ⋯) (by
      unfold Fg;show(match tR (K0 23) ([]++[O.aT 0 7 1]) (.ref 0) with | some (.list _)=>J It.list | some (.tup _)=>J It.tup | some (.aT a b s)=>if yA a&&yA b&&(s == 1||s == 2||s == -1) then J (It.aT a b s) else U | _=>U)=_;rw[show tR (K0 23) ([]++[O.aT 0 7 1]) (.ref 0)=J (.aT 0 7 1) from rfl];show(if _ then _ else _)=_;rw[cC (by
       have l0:yA 0=true:=ry (n:=0) ⋯;have l7:yA 7=true:=ry (n:=7) ⋯
       (rewrite [l0,l7];try with_reducible rfl);rfl)]
      rfl) ⋯ λj hj t=>?_
     have z:=tV (K:=K0 23) (i:=27) (a:=.loc 0) (h:=[.aT 0 7 1]++t) (e:=(oP 36 [.con Md]).set 36 (J (nv j))) ∅ so (by rw[bj];lia);rw[bj] at z;by_cases h:j<Pv.length
     .rw[cC h];refine PY (t:=true) (by have y:=Pa (r_loc (K:=K0 23) (i:=36) (v:=nv j) (e:=(oP 36 [.con Md]).set 36 (J (nv j))) (h:=[.aT 0 7 1]++t) rfl) z;rw[cy h] at y;exact y) rfl (λw=>pd ∅ ∅ so ?_ (by lia)) λe=>by cases e
      rw[cV,a7 h,ba,a7 h];rfl
     .rw[cD h];exact PY (t:=false) (by have y:=Pa (r_loc (K:=K0 23) (i:=36) (v:=nv j) (e:=(oP 36 [.con Md]).set 36 (J (nv j))) (h:=[.aT 0 7 1]++t) rfl) z;rw[cz h] at y;exact y) rfl (λe=>by cases e) λw=>qF) ?_
    obtain⟨n0,e0⟩:=(⟨_,a7 (by rw[nl];decide)⟩:∃n0,ns[0]? =J n0)
    obtain⟨b,hb⟩:=(⟨_,rfl⟩:∃b,b=(eZ n0 (2:Nat)).toNat)
    have b2:b<2:=by rw[hb];exact sC _ ⋯
    have hh:∀{t:H},([O.aT 0 7 1]++[.list (ns.map .int)]++t)[1]? =J (.list (ns.map .int)):=λ{t}=>rfl;refine zh (v:=.ref (2+b)) (h1:=[.aT 0 7 1]++[.list (ns.map .int)]++[.tup [nv 3,nv 4]]++[.tup [nv 7,nv 3]]++[.list [.ref 2,.ref 3]]) (vs:=if b=0 then[nv 3,nv 4] else[nv 7,nv 3]) (pd (xs:=[.ref 2,.ref 3]) (j:=b) (qe (be (sO (be (ac (n:=3)) (be (ac (n:=4)) f8)) (by show(2:Nat)<=1000;decide)) (be (sO (be (ac (n:=7)) (be (ac (n:=3)) f8)) (by show(2:Nat)<=1000;decide)) f8)) (by show(2:Nat)<=1000;decide)) (by
      rw[hb];exact sG (pd (xs:=ns.map .int) ∅ (ac (n:=0)) (io hh) (by rw[cV,e0];rfl) ⋯) (ac (n:=2)) ⋯) (io rfl) ?_ (by lia)) ?_ ?_ ?_
    .rcases (u2 (by assumption:b<2)) with h | h<;>rw[h]<;>rfl
    .rcases (u2 (by assumption:b<2)) with h | h<;>rw[h]<;>rfl
    .rcases (u2 (by assumption:b<2)) with h | h<;>rw[h]<;>rfl
    .rcases (u2 (by assumption:b<2)) with h | h
     .rw[cC h,hns,hQ];exact Uo.1
     .rw[cD (by lia),hns,hQ];exact Uo.2
   exact main.go
def law_from:dd.Holds:=Uz (Wv Q7)
end
end
end Mine.Lake
end
theorem PySem.Challenge.cw_nt0468_01_holds : PySem.Challenge.rw_nt0468_01.Holds :=
 Mine.Lake.law_from
