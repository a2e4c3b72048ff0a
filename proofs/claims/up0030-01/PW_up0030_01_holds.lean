import PyProof.Rows.All
import OpenK.KLine
import Wide.Seal
import PyProof.DictRoadsH
import KE.KSlice
import KE.KRevSl
import KE.IntBitsLaws
import KE.KEqDict
import KE.KDictSum
import KE.LcSums
import KE.KDeep
import PyProof.Rows.KernelRfl
import PyProof.WalksMore
import PyProof.RangeIter
import KE.KAssignIn
import KE.KItem
import PyProof.TableCode
import Open.Fast
import Lean
import PySem.Challenge.RW_up0030_01
set_option Elab.async false
set_option linter.all false
set_option compiler.extract_closed false
set_option compiler.reuse false
set_option compiler.small 0
namespace Mine
open Lean Syntax
def Zl {A B:Type} (f:B → A → B) (b:B) (l:List A):B:=l.foldl f b
def Zr (f:Syntax → Syntax) (s:Syntax):Syntax:=s.rewriteBottomUp f
def Ze (s:Syntax) (i:Nat):Syntax:=s[i]
def Zo (a:Array Syntax:=#[]):Syntax:=mkNullNode a
def Zh (s:Syntax) (k:String):Bool:=s.getKind.getString! == k
def Zc (s:Syntax):Nat:=s.getNumArgs
def Zk (s:Syntax):String:=s.getKind.getString!
def Zm (c k:String) (a:Array Syntax):Syntax:=.node .none (.str (.str (Name.mkStr2 "Lean" "Parser") c) k) a
def Za (s:String):Syntax:=.atom .none s
def Zp (x:Syntax):Syntax:=Zm "Tactic" "paren" #[Za "(",x,Za ")"]
def Zt (x:Syntax):Syntax :=
 let x:=if Zh x "paren" then (Ze x 1) else x
 if Zh x "byTactic" then Zp (Ze x 1) else Zm "Tactic" "show" #[Za "show",x]
def Zw (f:Syntax) (xs:Array Syntax):Syntax:=Zm "Term" "app" #[f,Zo xs]
def Zf (s:Syntax):Syntax :=
 let f:=(Ze s 0)
 let f:=if Zh f "paren" && Zh (Ze f 1) "app" then (Ze f 1) else f
 if Zh f "app" then Zw (Ze f 0) ((Ze f 1).getArgs ++ (Ze s 1).getArgs) else s
def Zg (s:Syntax):Syntax:=if Zh s "app" then Zf s
 else if (Zh s "intro" || Zh s "clear") && Zh (Ze (Ze s 1) 0) "app" then s.setArg 1 (Zo (#[(Ze (Ze (Ze s 1) 0) 0)] ++ (Ze (Ze (Ze s 1) 0) 1).getArgs))
 else if Zh s "show" && Zc s == 2 then Zt (Ze s 1)
 else s
def Zi (d:Syntax) (xs:Array Syntax):Syntax :=
 Zr (fun s=>if s.isIdent then
   let z:=s.getId.toString
   let c:=z.front.toNat
   xs.getD (if z.length == 1 && 944 < c then if c > 955 then c - 946 else c - 945 else 99) s
  else Zg s) (Ze (Ze d 3) 1)
def Zv (t:Data.Trie Syntax) (n:String) (xs:Array Syntax) (s:Syntax):Syntax:=match t.find? n with
 | some d=>Zt (Zi d xs)
 | none=>s
def Zs (a:Array Syntax):Syntax:=Zp (Zm "Tactic" "tacticSeq" #[Zm "Tactic" "tacticSeq1Indented" #[Zo (mkSepArray a Zo)]])
def Zd (d:Data.Trie String) (n:Name):Name:=Zl (fun m c =>
 let s:=c.getString!
 m.str ((d.find? s).getD (if s.length > 1 && s.front.isUpper then "omega_" ++ toString (Zl (fun n (c:Char)=>n * 128 + c.toNat) 0 s.toList) else s))) .anonymous n.components
def Zx (d:Data.Trie String) (t:Data.Trie Syntax) (s:Syntax):Syntax :=
 match s with
 | .atom _ v=>Za v
 | .ident _ r n _=>match t.find? r.toString with
  | some d=>if Zc (Ze (Ze d 2) 0) == 0 then (Ze (Ze d 3) 1) else mkIdent n
  | none=>if n.isAnonymous then .ident .none r n [] else mkIdent (Zd d n)
 | .node _ k a =>
  let s:=Syntax.node .none k a
  let b:=(Ze s 1)
  if Zh s "app" then
   let xs:=b.getArgs
   match t.find? (if (Ze s 0).isIdent then (Ze s 0).getId.toString else "") with
   | some d =>
    let n:=Zc (Ze (Ze d 2) 0)
    let xs:=if 0 < n && n < xs.size && Zh (Ze (Ze d 3) 1) "byTactic" then (xs.extract 0 (n - 1)).push (Zw xs[n - 1]! (xs.extract n xs.size)) else xs
    let b:=Zi d xs
    if n < xs.size then Zf (Zw b (xs.extract n xs.size)) else b
   | none=>Zf s
  else if Zh s "show" && a.size == 2 then Zt b
  else if Zh s "omega" && Zc (Ze b 0) == 0 then Zv t "omega" #[] s
  else if Zh s "injections" then Zv t ("zqI" ++ toString (Zc b)) b.getArgs s
  else if Zh s "rwSeq" && Zc (Ze s 3) == 0 then
    let r:=Zl (fun (p:Array Syntax × Bool) x =>
     let y:=if Zh (Ze x 1) "paren" then (Ze (Ze x 1) 1) else (Ze x 1)
     if Zh y "byTactic" then ((if p.2 then p.1.push (Zv t "zqE" #[] s) else p.1).push (Zt y),false)
     else (p.1.push (Zv t (if Zc (Ze x 0) == 0 then "zqL" else "zqR") #[(Ze x 1)] s),true)) (#[],false) (Ze (Ze s 2) 1).getSepArgs.toList
    Zs (if r.2 then r.1.push (Zv t "zqE" #[] s) else r.1)
  else if Zh s "declaration" && (Ze s 0).getHeadInfo?.isNone then
    if Zh b "definition" then .node .none k #[(Ze s 0),Zm "Command" "theorem" #[Za "theorem",(Ze b 1),Zm "Command" "declSig" #[(Ze (Ze b 2) 0),(Ze (Ze (Ze b 2) 1) 0)],(Ze b 3)]]
    else if Zh b "abbrev" then (t.find? "in").get!.setArg 2 (.node .none k #[(Ze s 0).setArg 4 (Zo #[Zm "Command" "noncomputable" #[Za "noncomputable"]]),Zm "Command" "definition" #[Za "def",(Ze b 1),(Ze b 2),(Ze b 3),Zo]])
    else s
  else if Zh s "mutual" then if !Zh (Ze b 0) "variable" then s.setArg 1 (Zo (Zl (fun a c=>a.push (if Zh c "in" then Ze c 2 else c)) #[] b.getArgs.toList)) else Zo ((#[Zm "Command" "section" #[Zm "Command" "sectionHeader" #[Zo,Zo,Zo,Zo],Za "section",Zo]] ++ b.getArgs).push (Zm "Command" "end" #[Za "end",Zo]))
  else s
 | s=>s
def Zq (c:Syntax):MacroM Syntax :=
 if Zk (Ze (Ze c 1) 0) != "open" then Macro.throwUnsupported else
 let d:=(Zl (fun (p:Data.Trie String × String) x =>
  let x:=x.getId.toString
  if p.2 == "" then (p.1,x) else (p.1.insert p.2 x,"")) (.empty,"") (Ze (Ze (Ze (Ze c 1) 0) 1) 0).getArgs.toList).1
 let t:=Zl (fun t c =>
  let s:=Zr (Zx d t) c
  t.insert (Ze (Ze (Ze s 1) 1) 0).getId.toString (Ze s 1)) (Data.Trie.empty.insert "in" (Zr (Zx d .empty) (Ze (Ze c 1) 2))) (Ze (Ze (Ze c 1) 1) 1).getArgs.toList
 return Zo (Zl (fun a c=>a.push (Zr (Zx d t) c)) #[] ((Ze c 1).getArgs.toList.drop 3))
local macro_rules (kind:=Lean.Parser.Command.mutual) | s=>Zq s
mutual open a z b h c some d e e rfl f a g b h n i l j x k s l r m int n p o k p o q i r List s cons t q u Nat v t w H x c y v z length A var B none C nil D obj E G G true H m I x1 K g L x2 M K N Bool O T P z0a Q h1 R Int T z0c U z0d V w W P Y false aa this ab y ac f ae casesOn af PySem ag M ah trans aj d am L ao R ap Option aq j au map aw list ay tup az elim aD C aK heap aO bool aP u aQ Or aT item aX cmp be attr bg get? bi str bl W bm lst bp call bs pos bu ret bw names bA Expr bC ite bD body bE dict bF inr bH Str bI ref bL glob bS inst bT inl bX S b1 decide b8 Heap b9 at_ b' prog ce toks cg φ ci assign ck Value cm lookup cq symm cr congrArg cs noConfusion cA kind cB name cD of_decide_eq_true cF drop cH if_neg cL X c0 if_pos c3 and_eq_true c5 size c8 arity c9 len dc slots de all dx key dy stuck dB inj dD isEmpty dF ofString dM bin dS any dU setAttr dX params d8 Addr d_ scope ea String ec args ee Stmt ej absurd en Shared eB and eF isSome eG slot eI le_trans eP ctorIdx eU objs eZ sub e0 toList e8 sub_add_cancel e_ add fv Fast fx keep fE Array fF Nodup fK Prod fS data fV injEq fW motive_1 fY and_eq_true_iff f_ expr gc N gh cell gn χ go comp gs row gu take gA mem_cons gH isin gL And gM Builtin gN Nonempty gP ifs g0 keeps g3 tail g' push hl type hp all_eq_true hq append ht free hv motive_2 hw newList hO lt_of_le_of_lt hP off hV getElem?_eq_getElem hZ decide_eq_true ia seq ir not ix alive iG line iX arg i3 get i7 mem_singleton jl setItem ju neg jB rec jC trivial jG Call jZ Challenge j2 Frag kc World kq Scope kF iter kH le_refl kM Name kS fmod kZ length_cons k0 lt_of_lt_of_le k8 zip k_ Obj la add_assoc lb beq_iff_eq ld getD li loose lu PyProof lv Slice lG mainGlobals lJ new lK newDict lP val l6 nodup_cons me Rows mr head mE abs mF boot_heap mL isNone aaa zero_add aad Attribute aai Subscript aam ble aaC main aaI pw_up0030_01 aaU beq_self_eq_true aaW ext aa3 isStr aa5 lookup_cons abh True abi add_le_add_left abl cont abo fdiv abp field abJ In abT findIn abU function ab6 life ace true_and acf unpack ack Eq acs add_le_add acu band acv beq acy builtin acK le_add_right acL le_of_not_lt acR or_eq_true ac2 Pos ac4 Tuple adf getElem?_map adv pop adw range ady sliceTo adL add_le_add_right adW filterMap aeh Assign aej Program aeP mem_append afc Const aff ListComp afn bor afo contains aft extend afQ le_of_ble_eq_true af9 SharedT agp endLine agu fnX agM kernel agP le_of_lt agV slice ag6 BoolOp ag7 DictEntry ahe OsState ahj UnaryOp ahD init ahM ne_of_lt ahW sliceFrom ah0 Constant ah1 Decidable ah2 Dict aib and_true aiI lt_succ_self ai7 Delete aja For ajj beq_eq_false_iff_ne ajs fields ajy hash ajL imp ajQ le_of_succ_le ajV motive aj3 not_lt_of_le akb rw_up0030_01 ako BT akp Compare akq Data aks False akB absHeap akF blt akG clsName akI contains_iff_mem akV func all z0j als isTrue alv le_add_left alz mem_append_left alD mul alE ne_of_gt alI openGood alJ pass al3 Arguments al4 AugAssign ame IfExp amm While amp add_comm amB eq_false_iff amD find? amG fnName amJ globalImplicit am3 instOk ang min2 anm nsMap any z0k anI BinOp anJ Continue anO If anS NotIn anT Operator anU Pass an8 builtinsNs aoe cons_append aoD filterMap_cons apn isNs apr kwonlyargs aps le_of_lt_succ apx look_both apy lt_irrefl apC mods apJ nsKeys aqc withFollow aqn CmpOp aqq DecidableEq aqw Params aqz Return aqB Thread aqH add_left_comm aqP ble_eq_true_of_le aqW cellsFrom arY kwarg ar3 lt_of_le_of_ne ar4 makesIn ar5 mapR asm posonlyargs ass sEq_iff asB tw2368527892694137696 asD vararg asL ω asM Add atc USub atj add_right_comm atH boot_drawn atI boot_toks atK clsIn atL consts atS z0m atT z0n atY defOf atZ denote auB hashInt avt importedModules avy isFalse avI lt_succ_of_le avK map_eq_some_iff avO namesBound avS nil_append avX of_mem_zip av0 plain awv stepOk aww stepT awz sub_le awA succ_le_succ awL treeTable awP tw821141287760084731 aw7 Calls axg Inhabited axh IsNot axk Life axl Not axp Sub axB add_sub_cancel axD and_assoc azT default aBL find?_cons aBV gensDone aBW getD_eq_getElem?_getD aDr keepIn aDw laidKept aEG startupNames aEI staticsOk aEV toList_inj aEY topFrom aE2 tw3399658132070893891 aE3 tw5923862056798008813 aE4 typeIn aFo BitAnd aFp BitOr aFE FloorDiv aFI Gt aFJ GtE aFN Is aFT Keyword aFU LeftO aFW Lt aFX LtE aF0 Mod aF2 Mult aF4 NotEq aGy behindInMarks aGF boundNames aGR constantsAlone aHh fenceModules? aHn foldedForSure aHo followText aJG isCoroutine aJH isGenerator aKd lt_of_succ_lt_succ aKk mem_range aKK plainOver aKL plainProg aLs tw10156331382660048174 aLt tw11892475500146522536 aLu tw14364793385576792824 aLv tw6613529449190102663 aMe ClassDef aMf Comprehension aMh DefRec aMi FunctionDef aMl Holds aMx RowW aMD WalkO
mutual
def zqL α:=by first|refine AaB α ?_|rewrite[α]
def zqR α:=by first|refine AaC α ?_|rewrite[←α]
def zqE:=by try with_reducible rfl
def zqA:=by assumption
def zqD:=by decide
def omega:=by first|(with_reducible assumption)|decide|(with_reducible exact u.kH _)|(with_reducible exact u.agP zqA)|(with_reducible exact u.e8 zqA)|(with_reducible exact u.k0 zqA zqA)|(with_reducible exact u.hO zqA zqA)|(with_reducible exact u.eI zqA zqA)|(with_reducible exact u.k0 zqA zqD)|(with_reducible exact u.eI zqA zqD)|(with_reducible exact u.hO zqA zqD)|(with_reducible exact u.k0 zqD zqA)|(with_reducible exact u.eI zqD zqA)|(with_reducible exact u.awA zqA)|(with_reducible exact u.le_of_succ_le_succ zqA)|(with_reducible exact u.ajQ zqA)|(with_reducible exact u.succ_le_of_lt zqA)|(with_reducible exact u.lt_of_succ_le zqA)|(with_reducible exact u.aps zqA)|(with_reducible exact u.avI zqA)|(with_reducible exact u.aKd zqA)|(with_reducible exact u.succ_lt_succ zqA)|(with_reducible exact u.lt_of_succ_lt zqA)|(with_reducible exact u.lt_of_not_le zqA)|(with_reducible exact u.acL zqA)|(with_reducible exact u.aj3 zqA)|(with_reducible exact u.not_le_of_lt zqA)|(with_reducible exact u.alE zqA)|(with_reducible exact u.ahM zqA)|(with_reducible exact u.acK _ _)|(with_reducible exact u.alv _ _)|(with_reducible exact u.zero_lt_succ _)|(with_reducible exact u.succ_ne_zero _)|(with_reducible exact u.aiI _)|(with_reducible exact u.amp _ _)|(with_reducible exact u.la _ _ _)|(with_reducible exact u.atj _ _ _)|(with_reducible exact u.aqH _ _ _)|(with_reducible exact u.axB)|(with_reducible exact u.add_sub_cancel_left)|(with_reducible exact u.add_lt_add_left zqA _)|(with_reducible exact u.abi zqA _)|(with_reducible exact u.adL zqA _)|(with_reducible exact u.acs zqA zqA)|(with_reducible exact u.awz _ _)|(with_reducible exact u.ar3 zqA zqA)|(with_reducible exact ej zqA zqA)|(with_reducible exact u.apy _ zqA)|(with_reducible exact e)|lia|omega+splitDisjunctions
def mW α:=by exact α
def mX α:=by refine α
def mY α:=by intro α
def mZ α:=by clear α
def m1 α β:=.s α β
def m2 α:=.s α .C
def na:=.A 0
def nu α β:=.aT α β
def m8 α β γ:=.aX .α β γ
def nm α β:=m2 (.α β)
def m4:=.A 1
def m9:=.m 0
def nc:=.m 1
def nQ α β:=.bL α β
def m3:=.A 2
def m5 α:=nm bu α
def ni α β:=.bp α β
def nd α β:=.bC α β .C
def nb α β:=m8 eq α β
def nf α:=.be na α
def nh α β:=nQ α (.m β)
def nI α:=.ay α
def m6:=.A 3
def m7 α β:=.ci α β
def m_:=.A 4
def nC α:=nu α m9
def nD α β:=.be α β
def n9:=.s .dy .C
def nk α:=.bi α
def nN α β γ:=α mp aE β γ
def nJ α β γ:=nb α (nh β γ)
def n_ α:=fun ψ=>α
def nB:=.m 2
def nF α:=nu α nc
def ng:=.A 5
def nj α:=nd α n9
def nr α β γ:=.dM .α β γ
def nx α β:=.dU na α β
def nn α β:=(α,(.m β))
def nq:=.A 6
def nt:=nI .C
def nE:=.m 3
def n0 α β:=nN b_ α β
def nv α:=.ay α
def nw:=n_ Y
def nK α β:=ni α (m2 β)
def nG α β γ δ:=ni α (m1 β (m1 γ (m2 δ)))
def ny α:=d.eP=α
def nO α β:=ni α (m1 na (m2 β))
def nz α β:=.eB (m1 α (m2 β))
def nA α β γ:=m7 α (nu β γ)
def nT α:=af.bH.dF α
def nX α:=nu α nB
def n' α:=n0 f α
def nH α:=.f_ α
def n1 α β:=.eT na α β
def nL:=.m 4
def nM:=by kernel_rfl
def ox α β:=b_ K mp aE α β
def nP α:=nI [nc,nk α]
def nR:=.m 5
def o9:=nf "mode"
def nS α β γ:=nJ (nC α) β γ
def on:=nD (nf "host") "tab"
def nU:=.A 7
def nV α:=nQ α nc
def nW α:=nd α (m5 (.aO Y))
def oy:=.m 8
def nY α:=.c9 α
def nZ α β:=.or (m1 α (m2 β))
def n2 α:=nu α nE
def n3 α β:=α (fW:=fun P=>N) d b β
def n4:=.ju nc
def n5 α β γ:=.go α β γ .C
def n6:=r af.bA
def o_ α:=nD α "rows"
def pp α:=nD (nf α) "rows"
def n7 α β γ:=m8 gH α (nQ β (nI γ))
def o0:=.hw .C
def n8 α β γ:=.jd α β (m2 γ)
def oa α:=.ir α
def pn:=N.cs b
def ob α β γ:=m8 ne α (nh β γ)
def oc α:=nd α (m5 (.aO G))
def od α:=(mF W).α
def oe α β:=nu (nf α) β
def og α β:=nJ m4 α β
def oh α β:=nJ o9 α β
def oi:=.m 10
def oj α β:=nC (nu α β)
def ol α β:=.ay (m1 α (m2 β))
def om:=.bm .C
def oo:=.m 16
def op α β:=ni α (m1 β (m2 m4))
def oq:=nF m4
def ot α:=nO 68 α
def ou α:=ox f α
def ov:=pp "tab"
def ow α:=nG α na m4 m3
def oz:=.m 6
def oA:=.m 18
def oB:=.m 14
def oC:=.m 15
def oD:=.m 19
def oE:=.m 17
def oF:=nI []
def oG α:=nC (.A α)
def oH:=r af.ee
def oI:=nF m6
def oJ α:=nx α m9
def oK α β:=α (hv:=fun P=>N) d b β
def oL:=n' j
def oM:=iS j
def oN α:=α V os
def oO:=.m 2047
def oP:=nC m3
def oQ α β:=(α,(nI β))
def oR:=n_ N
def oS:=nF m_
def oT:=nT "law"
def oU:=by exact pn
def oV:=o_ on
def oW:=.s .dy n9
def oX α:=(r.adw α).de
def oY:=r (af.bH×u)
def oZ α:=nN jj Aa α
def o1 α β γ:=by obtain⟨α,β⟩:=γ b
def o2:=nf "rows"
def o3 α β:=nI [nB,α,β]
def o4:=nF na
def o5 α:=nx α o0
def o6 α:=nK α m3
def o7 α β:=aE.bw.cm α==c .β
def o8:=nI [oy,.m 9]
def pa α:=fK.mk.dB α
def pb:=@ar.ae
def pc α:=[α,"t"]
def pd:=nC m6
def pe α:=(α,nc)
def pf α:=nK α m6
def pg α:=m8 lt α m9
def ph α:=n1 α (m2 m4)
def pi:=nQ "ANY" m9
def pj α β:=nr acu (nX α) β
def pk:=alI hk l5
def pl α:=ni 23 (m1 na (m1 α (m1 m4 (m2 m3))))
end
set_option backward.eqns.nonrecursive false in def A:=A
open af af.bl af.aw7 lu.me
abbrev hk:aej:={af.jZ.aaI with aaC:={af.jZ.aaI.aaC with bD:=af.jZ.aaI.aaC.bD.cF 227}}
abbrev l5:r af.bH:=["_wall","U_ANY","U_METHOD","U_PROP","U_READONLY","U_ENUM","U_OPTION","U_VAR","KeepError","TooDeep","HostFault","Notes","Y_KEY","Y_BOOL","Y_STR","Y_NUM","Y_ENUM","Y_UNION","Y_INTER","Y_OBJ","Y_REF","Y_PARAM","Y_ARRAY","Y_TUPLE","Y_SIG","Y_KEYOF","Y_INDEX","Y_COND","Y_MAPPED","Y_TPL","Y_ALIAS","ANY","UNKNOWN","NEVER","VOID","UNDEF","NULLT","STRING","NUMBER","FALSE_T","TRUE_T","OBJECTT","EMPTY","ERR","FRESH_F","FRESH_T","P_OPT","P_READONLY","P_METHOD","P_PRIVATE","P_PROTECTED","P_GETONLY","D_CLASS","V_CO","FAM_OTHER","FAM_STR","FAM_NUM","FAM_BOOL","FAM_NULL","FAM_UNDEF","FAM_VOID","FAM_OBJ","MAX_UNION","FIRST_ROWS","LITERAL_ROWS","MARKED_ROWS","OBJECT_ROWS","KEY_FAMILIES","TypeTable","Decl","kind_of","func_type","new_param","new_decl","parts_of","whole_of_row","regular_twin","join_bools","stays_beside","top_of","union","add_undef","is_literal","is_unit","is_fresh","regular_one","regular","common_family","meet_family","family","PRIMITIVE_NAMES","known_decl","value_holds","units_fit","loose_props","lets_primitive","MOST_PLAIN","PLAIN_ROWS","plain_shape","base_dids","MOST_ROUNDS","MOST_SHAPES","Thin","RefHost","find_prop","prop_row","read_type","has_base","R_ASSIGN","R_COMPARE","R_IDENT","R_SUBTYPE","RULE_MEET","RULE_DEFERRED","RULE_SIG","RULE_LIST","RULE_OBJECT","RULE_CHOICE","RULE_CALLS","RULE_INDEX","RULE_REFS","RULE_PLACES","RULE_WORD","VALUE_ROWS","LIST_ROWS","SHAPED_ROWS","DEFERRED_ROWS","OPEN_ROWS","MAX_OPEN","MOST_LOOKS","RelRule","Rel","by_rule","silent_with","twin_of","cut_back","settled","ask_kinds","relbase_kept","close_trail","tells","taken_wider","slot_notes","all_related","simple_related","tops_related","unknown_told","is_numeric_enum","values_related","number_to_enum","structured","rule_for","from_union","some_part","lay_again","to_union","same_kind","each_in","is_weak","shows_nothing","is_weak_kind","weak_fault","takes_all","class_apart","relate_is_asked","lies_in_other","pid_bound","ParamRule","param_related","install_rel_params","MAX_ROAD","LENGTH_CHANGERS","did_of","rises","too_deep","objects_related","refs_related","object_told","opened","is_readonly","weak_asked","shape_related","relshape_within_literal","rest_related","lacking","owners_fit","marks_fit","is_called","loss_notes","prop_related","same_objects","same_shapes","same_prop","RelshapeObjectRule","RelshapeWordRule","install_rel_word","install_rel_objects","_law_take","_law_row","_law_bits","_law_member","_law_mask","_law_object","_law_body","_law_declared","_law_world","_law_one","_law_in","_law_cover","_law_apart","_law_top","_law_lay","_law_goes","_law_left","_law_whole"].au af.bH.dF
abbrev dC:r af.bH:=aEG++(l5++[oT])
set_option maxRecDepth 100000 in
def Jx:(atY hk oT).eF=G:=by rfl
abbrev ml:aMh:=((atY hk oT).i3 Jx).1
abbrev aeK:r (af.bH×af.bA):=((atY hk oT).i3 Jx).2
def U_:atY hk oT=c (ml,aeK):=by exact(ap.some_get Jx).cq
set_option maxRecDepth 100000 in
def D0:kwWritten? ml.dX.apr ml.dX.kw_defaults=c aeK:=by rfl
set_option maxRecDepth 100000 in
def De:af.jZ.aaI.theDef oT=c (ml.dX,ml.bD,ml.d_):=by rfl
noncomputable abbrev aGk(l:aMx)(aGl:kc→b8→Prop):Prop:=aMD hk l5 (fun ψ ψ=>abh) aGl l ml aeK fun ac vs=>af.bp ac vs
abbrev alW(aEK:af9→aqB→ap (af9×aqB))(ok:aqB→N):u→af9→aqB→ap af9|0,_,_=>B|h+1,k,v=>match through v with|G=>c k|Y=>match ok v with|Y=>B|G=>match aEK k v with|c (s',iu)=>alW aEK ok h s' iu|B=>B
def Qe{aee:ea→ap gM}{n:aej}{V:kc}{avW:u}{atm:ap ck}:∀(h:u)(k:af9)(v:aqB)(l:af9),alW (aww (atZ aee) n V) (awv avW atm) h k v=c l→topRun aee n V avW atm h k.mE v=c l.mE|0,_,_,_,b=>by cases b|h+1,k,v,l,b=>by unfold alW at b;unfold topRun;cases aS:through v with|G=>rw[aS]at b;cases b;rfl|Y=>rw[aS]at b;cases aG:awv avW atm v with|Y=>rw[aG]at b;cases b|G=>rw[aG]at b;cases hs:aww (atZ aee) n V k v with|B=>rw[hs]at b;cases b|c t=>obtain⟨ap7,aLx⟩:=t;rw[hs]at b;rw[stepT_spec hs,mW Qe h ap7 aLx l b]
abbrev alC:r k_→u→ako→ako|[],_,v=>v|p::i,h,v=>alC i (h+1) (v.ins h p)
abbrev apP:r k_→u→ako→N|[],_,_=>G|p::i,h,v=>((v.ins h p).i3 h).eF&&apP i (h+1) (v.ins h p)
def OO(ab6:axk):∀(i:r k_)(h:u)(v:ako),apP i h v=G→(akB (alC i h v) (h+i.z) ab6).eU.e0=(akB v h ab6).eU.e0++i|[],h,v,_=>by simp[alC]|p::i,h,v,b=>by rw[o1 Q h2 N.fY.mp];have:=OO ab6 i (h+1) (v.ins h p) h2;rw[show h+(p::i).z=h+1+i.z by simp only[r.kZ];omega];show(akB (alC i (h+1) (v.ins h p)) (h+1+i.z) ab6).eU.e0=_;rw[aa,absHeap_ins Q];simp[b8.g']
abbrev agb(W:aqw)(os:ahe):af9:=⟨alC (od eU.e0) 0 .C,od eU.e0.z,od ab6,#[],atH,atI,os⟩
def Xk(w:b8)(b:apP w.eU.e0 0 .C=G):akB (alC w.eU.e0 0 .C) w.eU.e0.z w.ab6=w:=by have d:=OO w.ab6 _ 0 .C b;rw[u.aaa]at d;have Aw:(akB ako.C 0 w.ab6).eU.e0=[]:=e;rw[Aw,r.avS]at d;have aV:=fE.aEV.mp d;(have bj:∀E:b8,E.eU=w.eU→E.ab6=w.ab6→E=w:=by rintro⟨f,g⟩Q h2;cases w;cases Q;cases h2;rfl);exact bj _ aV e
def Q1(W:aqw)(os:ahe)(b:apP (od eU.e0) 0 .C=G):(agb W os).mE=⟨mF W,#[],atH,atI,os⟩:=by show en.mk (akB (alC (od eU.e0) 0 .C) (od eU.e0.z) (od ab6)) _ _ _ _=_;rw[Xk _ b];rfl
def AaA(n:aej)(V:kc)(h:u)(f:ap ck):alW (aww (atZ awL) n V) (awv h f)=alW (af.bl.fv.aLs (af.bl.fv.aLt af.bl.fv.aLu) n V) (af.bl.fv.aLv h f):=by rw[af.bl.fv.te10156331382660048174,af.bl.fv.te11892475500146522536,af.bl.fv.te14364793385576792824,af.bl.fv.te6613529449190102663]
def R3(W:aqw):apP (od eU.e0) 0 .C=G:=nM
abbrev asr(V:kc)(os:ahe):ap af9:=alW (af.bl.fv.aLs (af.bl.fv.aLt af.bl.fv.aLu) af.jZ.aaI V) (af.bl.fv.aLv 11 (c (.bI 6))) 17982 (agb V.dX os) (topStub af.jZ.aaI)
mutual variable{cg asL:Type}(n t:aej)(li:r bH)(axy:en→cg)
def WZ{axx:kc→cg}{gc ag:u}(am:b8→af9→asL)(K:kc→asL)(d:opening n=aKL n.aaC.d_.bw)(adY:u.aam 600 gc=G)(ac:∀k,aHh n k=c k)(c5:∀W:aqw,(od apn lG,od eU.c5,od anm lG "__annotations__")=(G,11,c (.bI 6)))(le:u.aam ag gc=G)(run:∀(V:kc)(os:ahe),(alW (aww (atZ awL) n V) (awv 11 (c (.bI 6))) ag (agb V.dX os) (topStub n)).au (fun st=>am (mF V.dX) st)=c (K V))(ajL:∀V bf k,am bf k=K V→(aEI (avt n.aaC.bD) bf k.mE.aK&&avO n k.mE.aK&&aBV k.mE&&aDw bf k.mE.aK)=G∧openSeen t li (avt n.aaC.bD) (n_ G) G k.mE=alI t li∧axy k.mE=axx V):aFU n t li (n_ G) axy axx gc:=fun V=>by obtain⟨⟨b,g9,aj,o,os⟩,aV,a5⟩:=ap.avK.mp (boot_open d adY ac V);(obtain⟨e,e,e,e⟩:b=mF V.dX∧g9=fE.mk []∧aj=atH∧o=atI:=by simpa using a5);obtain⟨st,l,i⟩:=ap.avK.mp (oN run);(obtain⟨z1,bz,e2⟩:_∧_∧_:=by simpa only[fK.mk.fV]using c5 V.dX);obtain⟨ip,kG,ab3⟩:=ajL V _ _ i;have l:=topRun_mono (gc-ag) _ _ _ _ (Qe ag _ _ _ l);rw[show ag+(gc-ag)=gc by have:=u.afQ le;omega,Q1 _ _ (R3 _)]at l;(have v:aEY awL n V gc ⟨mF V.dX,fE.mk [],atH,atI,os⟩=c st.mE:=by unfold aEY;dsimp only;rw[z1,bz,e2,l];show(match aEI (avt n.aaC.bD) (mF V.dX) st.mE.aK&&avO n st.mE.aK&&aBV st.mE&&aDw (mF V.dX) st.mE.aK with|G=>_|Y=>_)=_;rw[ip]);unfold openEnds;rw[aV];show(aEY awL n V gc _).au _=_;rw[v,mW cr c (fK.aaW kG ab3)]
end
def AbD(W:aqw):(od apn lG,od eU.c5,od anm lG "__annotations__")=(G,11,c (.bI 6)):=nM
set_option maxRecDepth 100000 in
def Zh:opening af.jZ.aaI=aKL af.jZ.aaI.aaC.d_.bw:=nM
def UJ(k:en):aHh af.jZ.aaI k=c k:=nM
def WF{b:b8}{f g x aj:r bH}(aG:b.apJ lG=dC)(a_:∀j∈l5,j∈f)(U:oT∈g):b.keysOk f g x aj=G:=by unfold b8.keysOk;rw[aG,r.hp,mY o H];(have:aEG.afo o=G∨f.afo o=G∨g.afo o=G:=by rcases r.aeP.1 H with H|H;(·exact .bT (r.akI.2 H));·rcases r.aeP.1 H with H|H;(·exact .bF (.bT (r.akI.2 (a_ o H))));·rw[r.i7.1 H,mW .bF (.bF (r.akI.2 U))]);rcases aa with d|d|d<;>rw[d]<;>simp
set_option maxRecDepth 100000 in
def R4:af.jZ.aaI.aGF=nT "_wall"::nT "__name__"::(l5.g3++[oT]):=nM
def Xu{b:b8}(aG:b.apJ lG=dC)(cu:b.apn lG=G):avO af.jZ.aaI b=G:=by unfold avO;rw[aG,cu,N.ace,r.hp,mY o H];(have:o∈aEG∨o∈af.jZ.aaI.aGF:=by rcases r.aeP.1 H with H|H;(·exact .bT H);·right;rw[R4];have d:l5=nT "_wall"::l5.g3:=e;rw[d,r.aoe,r.gA]at H;rw[r.gA,r.gA,mW H.ajL id .bF]);rw[N.acR,mW aa.ajL r.akI.2 r.akI.2]
def W':∀j∈l5,j∈af.bl.fv.awP hk l5:=by rw[←af.bl.fv.te821141287760084731,mY j H];unfold looseW looseD heldW;exact r.alz _ (r.alz _ (r.alz _ H))
abbrev aEw(apC:r bH)(k:en):=(af.bl.fv.tw5160383126252970620 (af.bl.ao.ar5 (fun j=>j.cB) (af.bl.fv.aE2 hk)) (af.bl.fv.tw5991557255702980513 hk) [] {aK:=k.aK,drawn:=k.drawn,ce:=k.ce,os:=k.os},k.aK.bltView,(af.bl.fv.tw14722251495701143533 k.aK apC&&(k.aK.apn lG&&(k.aK.apn an8&&(af.bl.fv.tw10994771534591457954 hk k.aK&&k.gens.c5==0))),af.bl.fv.tw479339242167458305 hk k,af.bl.fv.tw16090120013241838585 hk (af.bl.fv.tw3247288618530077131 hk) k,af.bl.fv.tw2386780881361962483 hk (af.bl.fv.awP hk l5) k,af.bl.fv.tw11698064438423848299 hk l5 k,af.bl.fv.tw7317090234206586261 hk k,af.bl.fv.tw7369524293546568484 hk l5 k))
def Abr{apC:r bH}{k:en}(aG:k.aK.apJ lG=dC)(b:aEw apC k=pk):openSeen hk l5 apC (n_ G) G k=pk:=by rw[o1 aV b fK.mk.dB,o1 bj b fK.mk.dB,o1 cV b fK.mk.dB,af.bl.fv.te4187177175401517315,mX fK.aaW aV (fK.aaW bj (fK.aaW ?_ b))];(have Aw:af.bl.fv.tw10880121769531294198 k.aK (af.bl.fv.awP hk l5) (af.bl.ao.ar5 (fun j=>j.cB) (af.bl.fv.aE2 hk)) (af.bl.ao.ar5 (fun j=>j.fst) (af.bl.fv.tw7409074990110511671 hk)) (af.bl.ao.ar5 (fun j=>j.cB) (af.bl.fv.tw13664370479719496447 hk (af.bl.fv.awP hk l5)))=G:=by rw[←af.bl.fv.te10880121769531294198,mW WF aG W' (by rw[show af.bl.ao.ar5 (fun j=>j.cB) (af.bl.fv.aE2 hk)=[oT]by kernel_rfl,mW .mr _])]);show(_&&_&&_&&_&&_&&G&&(k.gens.c5==0))=G;rw[Aw];simpa only[N.c3,N.ace,N.aib,axD]using cV
set_option genSizeOf false
set_option genSizeOfSpec false
set_option genInjectivity false
set_option backward.dsimp.useDefEqAttr false
set_option backward.match.sparseCases false
set_option genInjectivity true in
inductive ar where|B|aO(g:N)|m(q:R)|bi(k:ea)|ay(i:r ar)|bm(i:r ar)|D(q:u)deriving axg
mutual
abbrev ar.t:ar→ar→N|.B,g=>pb oR g G nw nw nw nw nw nw|.aO j,g=>pb oR g Y (fun ab=>b1 (j=ab)) nw nw nw nw nw|.m j,g=>pb oR g Y nw (fun ab=>b1 (j=ab)) nw nw nw nw|nk j,g=>pb oR g Y nw nw (fun ab=>b1 (j=ab)) nw nw nw|nI j,g=>pb oR g Y nw nw nw (fun ab=>ar.apW j ab) nw nw|.bm j,g=>pb oR g Y nw nw nw nw (fun ab=>ar.apW j ab) nw|.D j,g=>pb oR g Y nw nw nw nw nw (fun ab=>b1 (j=ab))
abbrev ar.apW:r ar→r ar→N|[],g=>@r.ae ar oR g G (fun ψ ψ=>Y)|j::xs,g=>@r.ae ar oR g Y (fun ab k7=>ar.t j ab&&ar.apW xs k7)
end
def ar.K1(f):ar.t f f=G:=ar.jB (fW:=fun f=>ar.t f f=G) (hv:=fun f=>ar.apW f f=G) e (n_ (hZ e)) (n_ (hZ e)) (n_ (hZ e)) (fun ψ b=>b) (fun ψ b=>b) (n_ (hZ e)) e (fun ψ ψ Q h2=>N.fY.2 ⟨Q,h2⟩) f
def ar.KZ(f):∀g,ar.t f g=G→f=g:=by refine ar.jB (fW:=fun f=>∀g,ar.t f g=G→f=g) (hv:=fun f=>∀g,ar.apW f g=G→f=g) ?_ ?_ ?_ ?_ ?_ ?_ ?_ ?_ ?_ f;intro g b;(induction g using ar.ae with|B=>rfl|_=>rw[oU]);intro j g b;(induction g using ar.ae with|aO ab=>exact cr _ (cD b)|_=>rw[oU]);intro j g b;(induction g using ar.ae with|m ab=>exact cr _ (cD b)|_=>rw[oU]);intro j g b;(induction g using ar.ae with|bi ab=>exact cr _ (cD b)|_=>rw[oU]);intro j q g b;(induction g using ar.ae with|ay ab=>exact cr _ (q ab b)|_=>rw[oU]);intro j q g b;(induction g using ar.ae with|bm ab=>exact cr _ (q ab b)|_=>rw[oU]);intro j g b;(induction g using ar.ae with|D ab=>exact cr _ (cD b)|_=>rw[oU]);intro g b;(induction g using r.ae with|C=>rfl|s=>rw[oU]);intro j xs q aq g b;induction g using r.ae with|C=>rw[oU]|s ab k7=>rw[o1 Q h2 N.fY.1,q ab Q,aq k7 h2]
def ar.K0{f g}(b:ar.t f g=Y)(d:f=g):aks:=by subst d;exact N.cs (b.cq.ah (ar.K1 f))
noncomputable instance:aqq ar:=fun f g=>@N.ae (fun y=>ar.t f g=y→ah1 (f=g)) (ar.t f g) (fun b=>avy (ar.K0 b)) (fun b=>als (ar.KZ f g b)) e
inductive adG|e_|eZ|alD|abo|kS|acu|afn deriving aqq
inductive ai5|eq|ne|lt|le|gt|ge|gH|lM|agL|app deriving aqq
set_option genCtorIdx false in
mutual
inductive dz where|B|aO(g:N)|m(q:R)|bi(k:ea)|A(q:u)|bL(h:ea)(y:ar)|ay(Aa:hG)|bm(Aa:hG)|hw(Aa:hG)|lK(g:N)|be(d:dz)(h:ea)|aT(d q:dz)|ady(d o:dz)|ahW(d o:dz)|agV(d:dz)(f g:R)|rev(d:dz)|dM(p:adG)(f g:dz)|ju(f:dz)|aX(p:ai5)(f g:dz)|eB(Aa:hG)|or(Aa:hG)|ir(d:dz)|bC(x f g:dz)|bp(ac:u)(Aa:hG)|lJ(x:u)(Aa:hG)|eT(d:dz)(h:ea)(Aa:hG)|c9(d:dz)|dS(d:dz)|de(d:dz)|alS(d:dz)|af3(d:dz)|ang(f g:dz)|aa3(d:dz)|akO(d o:dz)|aay(o aj:dz)|hq(d j:dz)|aft(d j:dz)|adv(d:dz)|go(gD:dz)(eG:u)(kF:dz)(gP:hG)|dy
inductive hG where|C|s(d:dz)(Aa:hG)
end
set_option genCtorIdx false in
mutual
inductive md where|f_(d:dz)|ci(q:u)(d:dz)|age(q:u)(d:dz)|dU(d:dz)(h:ea)(j:dz)|jl(d o j:dz)|acf(is:r u)(d:dz)|atr(q:u)(p:adG)(j:dz)|agg(d:dz)(h:ea)(p:adG)(j:dz)|agn(d o:dz)|amA(d o:dz)|bC(x:dz)(f g:cx)|ag2(x:dz)(g:cx)|jd(q:u)(d:dz)(g:cx)|mn(q:u)(Aa:hG)(g:cx)|bu(d:dz)|abl|alJ|dy
inductive cx where|C|s(k:md)(g:cx)
end
structure dk where
 cB:ea
 bw:r ea
 c8:u
 dc:u
 bD:cx
 cF:N
structure mD where
 eT:u→ea→ap u
 ahD:u→ap (ap u)
 aay:r (R×R)
 abp:u→ea→N
abbrev du:u:=1048576
noncomputable instance:gN dz:=⟨.B⟩
noncomputable instance:gN hG:=⟨.C⟩
noncomputable instance:gN cx:=⟨.C⟩
noncomputable instance:gN md:=⟨.alJ⟩
noncomputable instance:gN adG:=⟨.e_⟩
noncomputable instance:gN ai5:=⟨.eq⟩
noncomputable instance:gN mD:=⟨⟨fun P P=>B,fun P=>B,[],fun P P=>Y⟩⟩
def Ai{bk bt}{E:Prop}(b:bk∧bt)(o:bk→bt→E):E:=o b.1 b.2
def Ac{bn:Type}{bk bt:bn→Prop}{E:Prop}(b:∃I,bk I∧bt I)(o:∀I,bk I→bt I→E):E:=b.az fun I b=>o I b.1 b.2
@[elab_as_elim]theorem AaB{cg:Type}{f g}{n:cg→Prop}(b:f=g)(H:n g):n f:=b▸H
def BL{cg gn:Type}{f x:cg}{g aj:gn}{W:Prop}(b:(f,g)=(x,aj))(o:f=x→g=aj→W):W:=o (cr fK.fst b) (cr fK.snd b)
abbrev atG:cx:=(m1 (m7 4 (nY (nf "bounds"))) (m1 (nH (.hq (nf "bounds") m3)) (m1 (nH (.hq (nf "defaults") m6)) (m1 (nH (.hq (nf "names") m4)) (m5 (n1 "put" (nm ay (m1 (nh "Y_PARAM" 10) (m2 m_)))))))))
abbrev aA6:dk:={cB:="new_param",bw:=["tab","name","bound","default","pid"],c8:=4,dc:=5,bD:=atG,cF:=Y}
abbrev aqO:cx:=(m1 (m7 3 (.lJ 1 (m1 (nY (nf "decls")) (m1 m4 (m2 m3))))) (m1 (nH (.hq (nf "decls") m6)) (m5 m6)))
abbrev aA5:dk:={cB:="new_decl",bw:=["tab","kind","name","decl"],c8:=3,dc:=4,bD:=aqO,cF:=Y}
abbrev ayv:cx:=(m1 (nj (og "NEVER" 2)) (m1 (nA 2 o2 m4) (m1 (nd (nS m3 "Y_UNION" 6) (m5 (nF m3))) (m5 (nv (m2 m4))))))
abbrev aBc:dk:={cB:="parts_of",bw:=["tab","t","row"],c8:=2,dc:=3,bD:=ayv,cF:=Y}
abbrev ay2:cx:=(m1 (m7 1 (nC na)) (m1 (nd (nZ (og "Y_STR" 3) (og "Y_TPL" 18)) (m5 (nh "STRING" 6))) (m1 (nd (og "Y_NUM" 4) (m5 (nh "NUMBER" 7))) (m1 (nd (og "Y_ENUM" 5) (m5 (.bC (.aa3 (n2 na)) (nh "STRING" 6) (nh "NUMBER" 7)))) (m5 n4)))))
abbrev aBJ:dk:={cB:="whole_of_row",bw:=["row","kind"],c8:=1,dc:=2,bD:=ay2,cF:=Y}
abbrev ayC:cx:=(m1 (nA 2 o2 m4) (m1 (nj (nz (n7 oP "MARKED_ROWS" [nB,nE,nL,nR,oy]) (nb (nu m3 n4) nc))) (m5 n4)))
abbrev aBj:dk:={cB:="regular_twin",bw:=["tab","t","row"],c8:=2,dc:=3,bD:=ayC,cF:=Y}
abbrev ax9:cx:=(m2 (nd (.eB (m1 (nZ (m8 gH (nh "FALSE_T" 8) na) (m8 gH (nh "FRESH_F" 14) na)) (nm or (m1 (m8 gH (nh "TRUE_T" 9) na) (m2 (m8 gH (nh "FRESH_T" 15) na)))))) oW))
abbrev aAG:dk:={cB:="join_bools",bw:=["got"],c8:=1,dc:=1,bD:=ax9,cF:=Y}
abbrev ayO:cx:=(m1 (nj (m8 gH (nO 4 m3) m4)) (m5 (m8 lM (nK 3 (oe "rows" m3)) m4)))
abbrev aBv:dk:={cB:="stays_beside",bw:=["tab","got","t"],c8:=3,dc:=3,bD:=ayO,cF:=Y}
abbrev ayV:cx:=(m1 (n8 1 (nv (m1 pi (m1 (nh "ERR" 13) (m2 (nV "UNKNOWN"))))) (nd (m8 gH m4 na) (m5 m4))) (m5 n4))
abbrev aBC:dk:={cB:="top_of",bw:=pc "got",c8:=1,dc:=2,bD:=ayV,cF:=Y}
abbrev ayX:cx:=(m1 (m7 2 (.lK G)) (m1 (n8 3 m4 (n8 4 (nO 2 m6) (.jl m3 m_ nc))) (m1 (m7 5 (o6 7)) (m1 (nd (m8 ge ng m9) (m5 ng)) (m1 (nH (o6 5)) (m1 (.age 6 (.go nU 7 (.alS m3) (m2 (nG 6 na m3 nU)))) (m1 (nj (oa nq)) (m1 (nd (nb (nY nq) nc) (m5 (nC nq))) (m1 (nj (m8 gt (nY nq) (nh "MAX_UNION" 400))) (m5 (n1 "put" (nm ay (m1 (nh "Y_UNION" 6) (nm af3 nq))))))))))))))
abbrev aBE:dk:={cB:="union",bw:=["tab","parts","got","t","part","top","kept"],c8:=2,dc:=8,bD:=ayX,cF:=G}
abbrev axT:cx:=(m5 (ni 8 (m1 na (nm ay (m1 m4 (m2 (nh "UNDEF" 4)))))))
abbrev aAm:dk:={cB:="add_undef",bw:=pc "tab",c8:=2,dc:=2,bD:=axT,cF:=Y}
abbrev ax5:cx:=(m5 (n7 (nC (oe "rows" m4)) "LITERAL_ROWS" [nB,nE,nL,nR]))
abbrev aAC:dk:={cB:="is_literal",bw:=pc "tab",c8:=2,dc:=2,bD:=ax5,cF:=Y}
abbrev ax4:cx:=(m1 (nA 2 o2 m4) (m5 (nz (n7 oP "MARKED_ROWS" [nB,nE,nL,nR,oy]) (nb (nu m3 n4) nc))))
abbrev aAB:dk:={cB:="is_fresh",bw:=["tab","t","row"],c8:=2,dc:=3,bD:=ax4,cF:=Y}
abbrev ayB:cx:=(m1 (nj (nO 11 m4)) (m5 m4))
abbrev aBi:dk:={cB:="regular_one",bw:=pc "tab",c8:=2,dc:=2,bD:=ayB,cF:=Y}
abbrev ax1:cx:=(m1 (nA 2 o2 m4) (m1 (m7 3 oP) (m1 (nd (nb m6 (nV "Y_KEY")) (m5 (.aay m4 (nQ "FAM_OTHER" m9)))) (m1 (nd (nJ m6 "Y_BOOL" 2) (m5 (nh "FAM_BOOL" 3))) (m1 (nd (n7 m6 "OBJECT_ROWS" [oy,.m 9,.m 11,.m 12,.m 13]) (m5 (nh "FAM_OBJ" 7))) (m1 (nj (nJ m6 "Y_UNION" 6)) (m1 (nj (nJ m6 "Y_INTER" 7)) (m1 (m7 4 (o6 3)) (m1 (nd (pg m_) (m5 (nQ "FAM_OTHER" m9))) (m5 (.bC (nJ m_ "STRING" 6) (nV "FAM_STR") (nh "FAM_NUM" 2))))))))))))
abbrev aAu:dk:={cB:="family",bw:=["tab","t","row","kind","whole"],c8:=2,dc:=5,bD:=ax1,cF:=Y}
abbrev aya:cx:=(m5 (.bC (m8 lt oq (nY (nf "decls"))) (oe "decls" oq) (.B)))
abbrev aAH:dk:={cB:="known_decl",bw:=["tab","row"],c8:=2,dc:=2,bD:=aya,cF:=Y}
abbrev atF:cx:=(m1 (m7 2 o0) (m1 (m7 3 (.lK G)) (m1 (m7 4 (.hw (m2 m4))) (m1 (.ag2 m_ (m1 (m7 5 (.adv m_)) (m1 (nj (.or (m1 (m8 gH ng m6) (m1 (pg ng) (m2 (nb (nO 13 ng) (nQ "FAM_OTHER" m9))))))) (m1 (.jl m6 ng nc) (m1 (nA 6 o2 ng) (m2 (.bC (nS nq "Y_INTER" 7) n9 (m2 (.bC (nz (nS nq "Y_REF" 9) (m8 agL (nO 14 nq) .B)) n9 (m2 (.bC (nS nq "Y_REF" 9) (m1 (nH (.hq m_ (nD (oe "decls" (nF nq)) "body"))) (nm f_ (.aft m_ (nD (oe "decls" (nF nq)) "bases")))) (m2 (.bC (.or (m1 (ob (nC nq) "Y_OBJ" 8) (m1 (nX nq) (m1 (n2 nq) (m1 (nu nq nL) (m2 (nb (nu nq oz) nc))))))) n9 (nm f_ (.aft m3 (nF nq)))))))))))))))) (m5 m3)))))
abbrev aA3:dk:={cB:="loose_props",bw:=["tab","t","out","seen","waiting","at","row"],c8:=2,dc:=7,bD:=atF,cF:=Y}
abbrev ayn:cx:=(m1 (m7 2 (nO 15 m4)) (m1 (nj (m8 agL m3 .B)) (m1 (n8 3 m3 (nW (nz (nb (pj m6 (nV "P_OPT")) m9) (m8 lM pd (nQ "PRIMITIVE_NAMES" (nI [nk "charAt",nk "concat",nk "includes",nk "indexOf",nk "length",nk "slice",nk "toLowerCase",nk "toString",nk "toUpperCase"])))))) (m5 (.or (m1 (oa m3) (nm dS (n5 (n7 (nC m_) "PRIMITIVE_NAMES" [nk "charAt",nk "concat",nk "includes",nk "indexOf",nk "length",nk "slice",nk "toLowerCase",nk "toString",nk "toUpperCase"]) 4 m3))))))))
abbrev aA1:dk:={cB:="lets_primitive",bw:=["tab","t","props","prop"],c8:=2,dc:=5,bD:=ayn,cF:=G}
abbrev ayx:cx:=(m1 (.mn 2 (m2 (nh "MOST_PLAIN" 40)) (m1 (nj (pg m4)) (m1 (nA 3 o2 m4) (m1 (nd (nS m6 "Y_OBJ" 8) (m5 m4)) (m1 (nj (nS m6 "Y_SIG" 13)) (m1 (nd (n7 pd "PLAIN_ROWS" [nc,nB,nE,nL,nR]) (m5 (nh "EMPTY" 11))) (m1 (nj (.or (m1 (ob pd "Y_REF" 9) (m1 (nX m6) (m2 (nD (oe "decls" oI) "bases")))))) (m2 (m7 1 (nD (oe "decls" oI) "body")))))))))) n9)
abbrev aBe:dk:={cB:="plain_shape",bw:=["tab","t","turn","row"],c8:=2,dc:=4,bD:=ayx,cF:=Y}
abbrev axV:cx:=(m1 (nA 2 o2 m4) (m1 (m7 3 (.bC (nS m3 "Y_INTER" 7) (nF m3) (nv (m2 m4)))) (m5 (.go (nF (oe "rows" m_)) 4 m6 (m2 (nS (oe "rows" m_) "Y_REF" 9))))))
abbrev aAo:dk:={cB:="base_dids",bw:=["tab","t","row","parts"],c8:=2,dc:=5,bD:=axV,cF:=Y}
abbrev ax2:cx:=(m1 (n8 2 o4 (nd (nb oP m4) (m5 m3))) (m5 .B))
abbrev aAv:dk:={cB:="find_prop",bw:=["row","name","prop"],c8:=2,dc:=3,bD:=ax2,cF:=Y}
abbrev ayz:cx:=(m1 (m7 1 (ph "force")) (m1 (nA 3 ov m4) (m1 (.bC (nZ (nS m6 "Y_ARRAY" 11) (nS m6 "Y_TUPLE" 12)) n9 (m2 (m7 4 (ni 19 (m1 (nu ov (ph "shape")) (m2 m3)))))) (m5 (.bC (m8 agL m_ .B) (.B) (nv (m1 m3 (m1 (n1 "force" (m2 oS)) (m1 (nX m_) (m2 (n2 m_)))))))))))
abbrev aBg:dk:={cB:="prop_row",bw:=["host","t","name","row","prop"],c8:=3,dc:=5,bD:=ayz,cF:=Y}
abbrev ayA:cx:=(m5 (.bC (pj m4 (nV "P_OPT")) (nO 9 oq) oq))
abbrev aBh:dk:={cB:="read_type",bw:=["tab","prop"],c8:=2,dc:=2,bD:=ayA,cF:=Y}
abbrev aty:cx:=(m1 (m7 3 (.lK G)) (m1 (m7 4 (.hw (m2 m4))) (m1 (.ag2 m_ (m1 (m7 5 (.adv m_)) (m1 (oc (nb ng m3)) (m2 (nd (nz (m8 ne ng m9) (m8 lM ng m6)) (m1 (.jl m6 ng nc) (m2 (.jd 6 (nD (nu (nD (nf "tab") "decls") ng) "bases") (nm f_ (.aft m_ (ni 18 (m1 (nf "tab") (m2 (n1 "force" (m2 nq))))))))))))))) (m5 (.aO Y)))))
abbrev aAx:dk:={cB:="has_base",bw:=["host","did","base","seen","waiting","at","t"],c8:=3,dc:=7,bD:=aty,cF:=G}
abbrev axW:cx:=(m1 (m7 4 (.akO (nf "rules") m4)) (m5 (nz (m8 app m_ .B) (.eT m_ "holds" (m1 na (m1 m3 (m2 m6)))))))
abbrev aAp:dk:={cB:="by_rule",bw:=["rel","number","s","t","rule"],c8:=4,dc:=5,bD:=axW,cF:=Y}
abbrev axZ:cx:=(m1 (.amA (pp "notes") (nC m4)) (m2 (.ag2 (m8 gt (nY (nf "trail")) oq) (m2 (.agn (nf "assumed") (.adv (nf "trail")))))))
abbrev aAs:dk:={cB:="cut_back",bw:=["rel","spot"],c8:=2,dc:=2,bD:=axZ,cF:=Y}
abbrev ayI:cx:=(m1 (m7 1 (ph "force")) (m1 (nd (op 10 (nf "tab")) (m5 (op 12 (nf "tab")))) (m5 m4)))
abbrev aBp:dk:={cB:="settled",bw:=pc "host",c8:=2,dc:=2,bD:=ayI,cF:=Y}
abbrev axU:cx:=(m1 (oc (nb m4 m3)) (m1 (m7 1 (op 25 (nf "host"))) (m1 (m7 2 (ni 25 (m1 (nf "host") (m2 m3)))) (m1 (nj (nb m4 m3)) (m1 (nd (oh "R_IDENT" 3) (.s .dy (.s .dy oW))) (m1 (m7 4 (ow 32)) (m1 (oc (.or (m1 (nb m_ nc) (nm eB (m1 (oh "R_COMPARE" 2) (m1 (ob m3 "NEVER" 2) (m2 (nb (nG 32 na m3 m4) nc)))))))) (m5 (nz (pg m_) (ow 27))))))))))
abbrev aAn:dk:={cB:="ask_kinds",bw:=["rel","s","t","rows","told"],c8:=3,dc:=5,bD:=axU,cF:=Y}
abbrev ayE:cx:=(m1 (m7 3 (ol m4 m3)) (m1 (nd (m8 gH m6 (nf "known")) (m5 (oe "known" m6))) (m1 (oc (m8 gH m6 (nf "assumed"))) (m1 (nj (.eB (m1 (m8 ge (nf "looks") (nh "MOST_LOOKS" 20000)) (nm ir (nK 29 na))))) (m1 (nd (nZ (m8 ge (nf "deep") (nh "MAX_OPEN" 60)) (m8 ge (nf "looks") (nh "MOST_LOOKS" 20000))) oW) (m1 (.agg na "looks" .e_ nc) (m1 (m7 4 (.eT na "mark" .C)) (m1 (.jl (nf "assumed") m6 nc) (m1 (nH (.hq (nf "trail") m6)) (m1 (.agg na "deep" .e_ nc) (m1 (m7 5 (.bC (oh "R_IDENT" 3) .dy (ow 37))) (m1 (.agg na "deep" .eZ nc) (m1 (.bC (oa ng) (m1 (nH (nO 24 m_)) (m2 (nd (nZ (nb oS m9) (ob o9 "R_SUBTYPE" 4)) (m2 (.jl (nf "known") m6 (.aO Y)))))) (m2 (nd (nb oS m9) (nm f_ (nO 28 (nb (nY (pp "notes")) (nC m_))))))) (m5 ng))))))))))))))
abbrev aBl:dk:={cB:="relbase_kept",bw:=["rel","s","t","key","spot","answer"],c8:=3,dc:=6,bD:=ayE,cF:=Y}
abbrev axY:cx:=(m1 (.jd 2 (nf "trail") (m1 (.agn (nf "assumed") m3) (m2 (nd m4 (m2 (.jl (nf "known") m3 (.aO G))))))) (m2 (o5 "trail")))
abbrev aAr:dk:={cB:="close_trail",bw:=["rel","clean","key"],c8:=2,dc:=3,bD:=axY,cF:=Y}
abbrev ayS:cx:=(m5 (nz (nf "telling") (nb o9 (nV "R_ASSIGN"))))
abbrev aBz:dk:={cB:="tells",bw:=["rel"],c8:=1,dc:=1,bD:=ayS,cF:=Y}
abbrev ayQ:cx:=(m2 (nj (.eB (m1 (nK 29 na) (m1 (ob m4 "ERR" 13) (m1 (ob m3 "ERR" 13) (m2 (.ir .dy))))))))
abbrev aBx:dk:={cB:="taken_wider",bw:=["rel","s","t"],c8:=3,dc:=3,bD:=ayQ,cF:=Y}
abbrev ayM:cx:=(m1 (nj m_) (m1 (nj m6) (nm f_ (ow 30))))
abbrev aBt:dk:={cB:="slot_notes",bw:=["rel","s","t","s_ro","t_ro"],c8:=5,dc:=5,bD:=ayM,cF:=Y}
abbrev ayL:cx:=(m1 (m7 3 (ow 33)) (m1 (nd (m8 ge m6 m9) (m5 m6)) (m1 (m7 4 oV) (m1 (m7 5 (oj m_ m4)) (m1 (m7 6 (oj m_ m3)) (m1 (nd (nZ (n7 ng "OPEN_ROWS" [oz,.m 7,oi,oB,oC,oo,oE,oA,oD]) (n7 nq "OPEN_ROWS" [oz,.m 7,oi,oB,oC,oo,oE,oA,oD])) (m5 n4)) (m1 (nd (nJ m3 "OBJECTT" 10) (m5 (.bC (n7 ng "VALUE_ROWS" [nc,nB,nE,nL,nR]) m9 n4))) (m1 (nd (n7 nq "VALUE_ROWS" [nc,nB,nE,nL,nR]) (m5 (.bC (n7 ng "VALUE_ROWS" [nc,nB,nE,nL,nR]) (ow 35) m9))) (m1 (nd (.or (m1 (og "UNDEF" 4) (m1 (og "NULLT" 5) (m2 (og "VOID" 3))))) (m5 m9)) (m5 n4))))))))))
abbrev aBs:dk:={cB:="simple_related",bw:=["rel","s","t","told","rows","a","b"],c8:=3,dc:=7,bD:=ayL,cF:=Y}
abbrev ayW:cx:=(m1 (nj (.or (m1 (nb m3 pi) (m1 (nJ m3 "ERR" 13) (m1 (og "NEVER" 2) (m2 (og "ERR" 13))))))) (m1 (nj (nz (nb m4 pi) (oh "R_SUBTYPE" 4))) (m1 (nd (nb m3 (nV "UNKNOWN")) (m5 nc)) (m1 (nd (nb m4 pi) (.s .dy oW)) (m1 (nd (nb m4 (nV "UNKNOWN")) (m5 (nO 34 m3))) (m1 (nj (nz (nJ m3 "NEVER" 2) (m8 lM (oj oV m4) (nQ "OPEN_ROWS" (nI [oz,.m 7,oi,oB,oC,oo,oE,oA,oD]))))) (m5 n4)))))))
abbrev aBD:dk:={cB:="tops_related",bw:=["rel","s","t"],c8:=3,dc:=3,bD:=ayW,cF:=Y}
abbrev ayY:cx:=(m1 (nd (n7 (oj oV m4) "DEFERRED_ROWS" [oi,oB,oC,oo,oE,oA,oD]) (m5 n4)) (m1 (m7 2 (op 2 on)) (m1 (nd (oh "R_SUBTYPE" 4) (m5 m9)) n9)))
abbrev aBF:dk:={cB:="unknown_told",bw:=["rel","t","parts"],c8:=2,dc:=3,bD:=ayY,cF:=Y}
abbrev ayZ:cx:=(m1 (nd (og "UNDEF" 4) (m5 (.bC (nJ m3 "VOID" 3) nc m9))) (m1 (nA 3 oV m4) (m1 (nA 4 oV m3) (m1 (nd (nz (nb (pf 3) m3) (m8 ge (pf 3) m9)) (m5 nc)) (m1 (nj (nz (oh "R_COMPARE" 2) (nb (nK 3 m_) m4))) (m1 (nj (.eB (m1 (nS m6 "Y_ENUM" 5) (m1 (nS m_ "Y_ENUM" 5) (m2 (nb oI oS)))))) (m1 (nd (nS m6 "Y_ENUM" 5) (m5 (.bC (.eB (m1 (m8 gH (nC m_) (ol (nh "Y_STR" 3) (nh "Y_NUM" 4))) (m1 (nb (nK 3 m_) (pf 3)) (m2 (nb oS (n2 m6)))))) nc m9))) (m5 (ni 36 (m1 na (m1 m4 (m1 m6 (m2 m_)))))))))))))
abbrev aBG:dk:={cB:="values_related",bw:=["rel","s","t","a","b"],c8:=3,dc:=5,bD:=ayZ,cF:=Y}
abbrev ayq:cx:=(m1 (nd (nZ (oh "R_SUBTYPE" 4) (.ir .dy)) (m5 m9)) oW)
abbrev aA7:dk:={cB:="number_to_enum",bw:=["rel","s","a","b"],c8:=4,dc:=4,bD:=ayq,cF:=Y}
abbrev ayP:cx:=(m1 (m7 3 oV) (m1 (m7 4 (oj m6 m4)) (m1 (m7 5 (oj m6 m3)) (m1 (nd (nJ m_ "Y_UNION" 6) (m5 (ow 39))) (m1 (nd (nJ ng "Y_UNION" 6) (m5 (ow 41))) (m5 (pl (ni 38 (m1 m_ (m2 ng))))))))))
abbrev aBw:dk:={cB:="structured",bw:=["rel","s","t","rows","a","b"],c8:=3,dc:=6,bD:=ayP,cF:=Y}
abbrev ayH:cx:=(m1 (nj (nZ (nJ na "Y_INTER" 7) (og "Y_INTER" 7))) (m1 (nd (nZ (n7 na "DEFERRED_ROWS" [oi,oB,oC,oo,oE,oA,oD]) (n7 m4 "DEFERRED_ROWS" [oi,oB,oC,oo,oE,oA,oD])) (m5 (nh "RULE_DEFERRED" 2))) (m1 (nj (nz (nJ na "Y_SIG" 13) (og "Y_SIG" 13))) (m1 (nj (nz (m8 gH na (nQ "LIST_ROWS" (nI [.m 11,.m 12]))) (m8 gH m4 (nQ "LIST_ROWS" (nI [.m 11,.m 12]))))) (m5 (nh "RULE_OBJECT" 5))))))
abbrev aBo:dk:={cB:="rule_for",bw:=["a","b"],c8:=2,dc:=2,bD:=ayH,cF:=Y}
abbrev ax3:cx:=(m1 (n8 3 (op 2 on) (.bC (n1 "ask" (m1 m6 (m2 m3))) (m2 (nj (oh "R_COMPARE" 2))) (m2 (nW (ob o9 "R_COMPARE" 2))))) (m5 (ob o9 "R_COMPARE" 2)))
abbrev aAw:dk:={cB:="from_union",bw:=["rel","s","t","part"],c8:=3,dc:=4,bD:=ax3,cF:=Y}
abbrev ayN:cx:=(m1 (m7 3 .B) (m1 (.jd 4 m3 (m1 (m7 5 (.eT na "mark" .C)) (m2 (nd (n1 "ask" (m1 m4 (m2 m_))) (m1 (oc (nb (nY (pp "notes")) (nC ng))) oW))))) (m1 (nW (m8 agL m6 .B)) oW)))
abbrev aBu:dk:={cB:="some_part",bw:=["rel","s","parts","lax","part","spot"],c8:=3,dc:=6,bD:=ayN,cF:=Y}
abbrev ayT:cx:=(m1 (m7 3 on) (m1 (m7 4 (ni 2 (m1 m6 (m2 m3)))) (m1 (oc (nZ (m8 gH m4 m_) (nG 40 na m4 m_))) (m1 (m7 5 (oj (o_ m6) m4)) (m1 (nd (n7 ng "DEFERRED_ROWS" [oi,oB,oC,oo,oE,oA,oD]) (m5 (pl (nh "RULE_DEFERRED" 2)))) (m1 (nj (nz (nJ ng "Y_INTER" 7) (pl (nV "RULE_MEET")))) (m1 (nd (nZ (nJ ng "Y_INTER" 7) (m8 gH ng (nQ "SHAPED_ROWS" o8))) (m5 (pl (nh "RULE_CHOICE" 6)))) (m5 (nz (nJ ng "Y_TUPLE" 12) (pl (nh "RULE_PLACES" 12)))))))))))
abbrev aBA:dk:={cB:="to_union",bw:=["rel","s","t","tab","parts","kind"],c8:=3,dc:=6,bD:=ayT,cF:=Y}
abbrev ax7:cx:=(m1 (nW (.or (m1 (nb o4 nt) (m1 (m8 ne (nX na) nt) (m1 (m8 ne (n2 na) nt) (m1 (m8 ne (nu na nL) nt) (m2 (m8 ne (nu na nR) nt)))))))) (m5 (.de (n5 (m8 ne (pj m4 (nV "P_OPT")) m9) 1 o4))))
abbrev aAE:dk:={cB:="is_weak",bw:=["row"],c8:=1,dc:=2,bD:=ax7,cF:=Y}
abbrev ayK:cx:=(m1 (oc (m8 gH m4 (nv (m1 pi (m1 (nV "UNKNOWN") (m1 (nh "NEVER" 2) (m1 (nh "ERR" 13) (m1 (nh "VOID" 3) (m1 (nh "UNDEF" 4) (m1 (nh "NULLT" 5) (m2 (nh "OBJECTT" 10)))))))))))) (m1 (m7 2 (oj ov m4)) (m1 (nW (nz (m8 lM m3 (nQ "SHAPED_ROWS" o8)) (m8 lM m3 (nQ "OPEN_ROWS" (nI [oz,.m 7,oi,oB,oC,oo,oE,oA,oD]))))) (m1 (nA 3 ov (ph "shape")) (m5 (.eB (m1 (nb oI nt) (m1 (nb (nX m6) nt) (m2 (nb (n2 m6) nt))))))))))
abbrev aBr:dk:={cB:="shows_nothing",bw:=["host","s","kind","row"],c8:=2,dc:=4,bD:=ayK,cF:=Y}
abbrev ax8:cx:=(m1 (nA 2 ov m4) (m1 (nj (nS m3 "Y_INTER" 7)) (m5 (nz (m8 gH oP (nQ "SHAPED_ROWS" o8)) (nK 42 (nu ov (ph "shape")))))))
abbrev aAF:dk:={cB:="is_weak_kind",bw:=["host","t","row"],c8:=2,dc:=3,bD:=ax8,cF:=Y}
abbrev ay1:cx:=(m1 (nW (nZ (oa (nO 44 m3)) (nO 43 m4))) (m1 (nA 3 ov (n1 "shape" (m2 m3))) (m5 (.de (n5 (m8 agL (nG 20 na m4 (nC m_)) .B) 4 oI)))))
abbrev aBI:dk:={cB:="weak_fault",bw:=["host","s","t","row"],c8:=3,dc:=5,bD:=ay1,cF:=Y}
abbrev ayR:cx:=(m1 (oc (m8 gH m4 (nv (m1 pi (m1 (nV "UNKNOWN") (m1 (nh "ERR" 13) (m2 (nh "OBJECTT" 10)))))))) (m1 (nA 2 ov m4) (m1 (nj (nS m3 "Y_INTER" 7)) (m1 (nW (m8 lM oP (nQ "SHAPED_ROWS" o8))) (m1 (nA 3 ov (ph "shape")) (m5 (nb (.agV m6 1 6) (nv (m1 nt (m1 nt (m1 nt (m1 nt (m2 nt)))))))))))))
abbrev aBy:dk:={cB:="takes_all",bw:=["host","t","row","shape"],c8:=2,dc:=4,bD:=ayR,cF:=Y}
abbrev axX:cx:=(m1 (nA 3 ov m4) (m1 (nA 4 ov m3) (m1 (nW (nZ (ob pd "Y_REF" 9) (ob (nC m_) "Y_REF" 9))) (m1 (nW (nZ (m8 ne (nD (nu (nD (nf "tab") "decls") oI) "kind") (nV "D_CLASS")) (m8 ne (nD (nu (nD (nf "tab") "decls") oS) "kind") (nV "D_CLASS")))) (m5 (oa (nG 22 na oI oS)))))))
abbrev aAq:dk:={cB:="class_apart",bw:=["host","s","t","a","b"],c8:=3,dc:=5,bD:=axX,cF:=Y}
abbrev ayD:cx:=(m1 (m7 3 (ni 13 (m1 (nf "tab") (m2 (nu m4 m3))))) (m5 (.or (m1 (nJ m6 "FAM_OBJ" 7) (m1 (nb m6 (nQ "FAM_OTHER" m9)) (nm dS (n5 (nO 46 m_) 4 m4)))))))
abbrev aBk:dk:={cB:="relate_is_asked",bw:=["host","held","place","fam"],c8:=3,dc:=5,bD:=ayD,cF:=Y}
abbrev ayo:cx:=(m1 (m7 3 (nf "host")) (m1 (nA 4 m4 m3) (m1 (m7 5 (nr e_ (.ady m4 m3) (.ahW m4 (nr e_ m3 nc)))) (m1 (n8 6 ng (oc (nz (oa (nG 47 m6 m_ nq)) (n1 "ask" (m1 m_ (m2 nq)))))) (m5 (.eB (m1 (nS (nu (o_ (nD m6 "tab")) m_) "Y_PARAM" 10) (m1 (m8 gt (nY ng) nc) (m2 (n1 "ask" (m1 m_ (m2 (ni 8 (m1 (nD m6 "tab") (m2 ng)))))))))))))))
abbrev aA2:dk:={cB:="lies_in_other",bw:=["rel","held","place","host","part","others","other"],c8:=3,dc:=7,bD:=ayo,cF:=Y}
abbrev ayw:cx:=(m1 (nA 2 (nf "bounds") m4) (m5 (.bC (nZ (pg m3) (nb m3 pi)) (nV "UNKNOWN") m3)))
abbrev aBd:dk:={cB:="pid_bound",bw:=["tab","pid","bound"],c8:=2,dc:=3,bD:=ayw,cF:=Y}
abbrev ayu:cx:=(m1 (nA 3 oV m4) (m1 (nW (ob pd "Y_PARAM" 10)) (m1 (m7 4 (ni 50 (m1 on (m2 oI)))) (m5 (nz (m8 ne m_ m4) (n1 "ask" (m1 m_ (m2 m3))))))))
abbrev aBb:dk:={cB:="param_related",bw:=["rel","s","t","row","bound"],c8:=3,dc:=5,bD:=ayu,cF:=Y}
abbrev atA:cx:=(m2 (.jl (nf "rules") (nh "RULE_DEFERRED" 2) (.lJ 5 .C)))
abbrev aAz:dk:={cB:="install_rel_params",bw:=["rel"],c8:=1,dc:=1,bD:=atA,cF:=Y}
abbrev ax0:cx:=(m5 (.bC (nS na "Y_REF" 9) o4 m9))
abbrev aAt:dk:={cB:="did_of",bw:=["row"],c8:=1,dc:=1,bD:=ax0,cF:=Y}
abbrev ayG:cx:=(m1 (m7 4 n4) (m1 (m7 5 m9) (m1 (.jd 6 na n9) (m5 (.eB (m1 (m8 gt m3 m9) (m1 (m8 ge ng nE) (m2 (m8 gt m6 m_)))))))))
abbrev aBn:dk:={cB:="rises",bw:=["road","side","did","number","last","count","step"],c8:=4,dc:=7,bD:=ayG,cF:=Y}
abbrev ayU:cx:=(m1 (nj (m8 ge (nY (nf "road")) (nh "MAX_ROAD" 24))) (m1 (m7 3 oV) (m1 (nW (oa (ni 54 (m1 (nf "road") (m1 m9 (m1 (nK 53 (nu m6 m4)) (m2 m4))))))) n9)))
abbrev aBB:dk:={cB:="too_deep",bw:=["rel","s","t","rows"],c8:=3,dc:=4,bD:=ayU,cF:=Y}
abbrev ays:cx:=(m1 (m7 4 on) (m1 (nA 5 (o_ m_) m4) (m1 (nA 6 (o_ m_) m3) (m1 (nd (nJ m3 "OBJECTT" 10) (m5 (pl (nh "RULE_WORD" 14)))) (m1 (nj (m8 lM (nC nq) (nQ "SHAPED_ROWS" o8))) (m1 (nj (.eB (m1 (nS ng "Y_REF" 9) (m1 (nS nq "Y_REF" 9) (m1 (nb (nF ng) (nF nq)) (m2 (nD (nu (nD m_ "decls") (nF ng)) "variances"))))))) (m5 (ni 58 (m1 na (m1 m4 (m1 m3 (m2 m6))))))))))))
abbrev aA9:dk:={cB:="objects_related",bw:=["rel","s","t","weak","tab","a","b"],c8:=4,dc:=7,bD:=ays,cF:=Y}
abbrev ayr:cx:=(m1 (oc (oa (op 16 on))) (m1 (nH (n1 "note" (m2 (nh "U_OPTION" 11)))) (m5 (ob o9 "R_SUBTYPE" 4))))
abbrev aA8:dk:={cB:="object_told",bw:=["rel","s"],c8:=2,dc:=2,bD:=ayr,cF:=Y}
abbrev ayt:cx:=(m1 (nd (ow 55) oW) (m1 (m7 4 oV) (m1 (nH (.hq (nf "road") (nv (m1 (nK 53 (nu m_ m4)) (m1 m4 (m1 (nK 53 (nu m_ m3)) (m2 m3))))))) (m1 (.bC (oh "R_IDENT" 3) n9 (m2 (m7 5 (ni 61 (m1 na (m1 m4 (m1 m3 (m2 m6)))))))) (m1 (nH (.adv (nf "road"))) (m5 ng))))))
abbrev aBa:dk:={cB:="opened",bw:=["rel","s","t","weak","rows","answer"],c8:=4,dc:=6,bD:=ayt,cF:=Y}
abbrev ax6:cx:=(m5 (m8 ne (pj na (nr afn (nh "P_READONLY" 2) (nh "P_GETONLY" 32))) m9))
abbrev aAD:dk:={cB:="is_readonly",bw:=["prop"],c8:=1,dc:=1,bD:=ax6,cF:=Y}
abbrev ay0:cx:=(m5 (.or (m1 (ob o9 "R_COMPARE" 2) n9)))
abbrev aBH:dk:={cB:="weak_asked",bw:=["rel","s"],c8:=2,dc:=2,bD:=ay0,cF:=Y}
abbrev ayJ:cx:=(m1 (m7 4 (nf "host")) (m1 (nA 5 (o_ (nD m_ "tab")) (.eT m_ "shape" (m2 m3))) (m1 (nW (.eB (m1 m6 (m1 (nO 60 m4) (m2 (nG 45 m_ m4 m3)))))) (m1 (nj (.eB (m1 (oh "R_SUBTYPE" 4) (m1 (ni 11 (m1 (nD m_ "tab") (m2 m3))) (m2 (.ir .dy)))))) (m1 (n8 6 (nF ng) (nW (oa (nG 65 na m4 nq)))) (m5 (ni 62 (m1 na (m1 m4 (m1 m3 (m2 ng)))))))))))
abbrev aBq:dk:={cB:="shape_related",bw:=["rel","s","t","weak","host","row","prop"],c8:=4,dc:=7,bD:=ayJ,cF:=Y}
abbrev ayF:cx:=(m1 (nj (.eB (m1 (nZ (m8 ne (nu m6 nL) nt) (m8 ne (nu m6 nR) nt)) (nm ir (pl (nh "RULE_INDEX" 10)))))) (m1 (oc (nz (nb (nX m6) nt) (nb (n2 m6) nt))) n9))
abbrev aBm:dk:={cB:="rest_related",bw:=["rel","s","t","row"],c8:=4,dc:=4,bD:=ayF,cF:=Y}
abbrev ayb:cx:=(m1 (nd (nb (pj m3 (nV "P_OPT")) m9) (m1 (nd (nz (nb (nf "missing") (nk "")) (nb (nY (nf "road")) nc)) (m2 (nx "missing" oP))) (m5 (.aO Y)))) (m1 (nj (op 11 on)) (m1 (nW (oh "R_SUBTYPE" 4)) oW)))
abbrev aAI:dk:={cB:="lacking",bw:=["rel","s","prop"],c8:=3,dc:=3,bD:=ayb,cF:=Y}
abbrev ayp:cx:=(m1 (nj (nz (nr acu (nr afn (nX m3) (nX m6)) (nr afn (nh "P_PRIVATE" 8) (nh "P_PROTECTED" 16))) (.ir .dy))) (m1 (nj (.eB (m1 (oh "R_SUBTYPE" 4) (m1 (o6 59) (nm ir (pf 59)))))) (m5 (.or (m1 (oh "R_COMPARE" 2) (m1 (nb (pj m3 (nV "P_OPT")) m9) (m2 (m8 ne (pj m6 (nV "P_OPT")) m9))))))))
abbrev aA4:dk:={cB:="marks_fit",bw:=["rel","s","found","want"],c8:=4,dc:=4,bD:=ayp,cF:=Y}
abbrev ayy:cx:=(m1 (m7 3 on) (m1 (m7 4 (nG 20 (nf "host") m4 oP)) (m1 (nd (m8 agL m_ .B) (m5 (ow 63))) (m1 (nW (oa (ni 64 (m1 na (m1 m4 (m1 m_ (m2 m3))))))) (m1 (m7 5 (ni 21 (m1 m6 (m2 m_)))) (m1 (m7 6 (ni 21 (m1 m6 (m2 m3)))) (m1 (nW (oa (n1 "ask" (m1 ng (m2 nq))))) (m1 (nj (nK 29 na)) (m1 (.bC (oa (op 11 m6)) (nm f_ (ni 31 (m1 na (m1 ng (m1 nq (m1 (nK 59 m_) (m2 (o6 59)))))))) n9) (m5 (.aO G)))))))))))
abbrev aBf:dk:={cB:="prop_related",bw:=["rel","s","prop","tab","found","have","want"],c8:=3,dc:=7,bD:=ayy,cF:=Y}
abbrev atB:cx:=(m2 (.jl (nf "rules") (nh "RULE_WORD" 14) (.lJ 7 .C)))
abbrev aAA:dk:={cB:="install_rel_word",bw:=["rel"],c8:=1,dc:=1,bD:=atB,cF:=Y}
abbrev atz:cx:=(m2 (.jl (nf "rules") (nh "RULE_OBJECT" 5) (.lJ 6 .C)))
abbrev aAy:dk:={cB:="install_rel_objects",bw:=["rel"],c8:=1,dc:=1,bD:=atz,cF:=Y}
abbrev ayk:cx:=(m1 (m7 2 (nC na)) (m1 (.jl na m9 (nr e_ m3 nc)) (m1 (m7 3 (.bC (m8 lt m3 (nY o4)) (nu o4 m3) (nr e_ (nr alD m3 (.m 101)) (.m 7)))) (m5 (nr kS m6 m4)))))
abbrev aAX:dk:={cB:="_law_take",bw:=["d","n","at","x"],c8:=2,dc:=4,bD:=ayk,cF:=Y}
abbrev ayj:cx:=(m1 (m7 1 (.bm (m1 (ol nc (nk "undefined")) (m1 (ol nc (nk "null")) (m1 (nv (m1 nB (m1 nc (m2 m9)))) (m1 (nv (m1 nE (m1 (nk "a") (m2 m9)))) (m1 (nv (m1 nR (m1 nc (m1 (nk "E") (m1 (nk "a") (m2 m9)))))) (nm ay (m1 nE (m1 (nk "b") (m2 m9))))))))))) (m5 (nu (nr e_ m4 (.bm (m1 (ol nc (nk "string")) (m1 (nv (m1 nL (m1 m9 (m2 m9)))) (nm ay (m1 nc (m2 (nk "number")))))))) na)))
abbrev aAW:dk:={cB:="_law_row",bw:=["one","rows"],c8:=1,dc:=2,bD:=ayj,cF:=Y}
abbrev ayd:cx:=(m5 (nu (.bm (m1 nc (m1 nB (m1 nL (m1 (.m 24) (m1 oo (m1 (.m 32) (m1 (.m 120) (m1 (.m 128) (m2 (.m 384))))))))))) na))
abbrev aAK:dk:={cB:="_law_bits",bw:=["one"],c8:=1,dc:=1,bD:=ayd,cF:=Y}
abbrev aqK:cx:=(m1 (nd (nb (nr kS na nE) m9) (m5 nt)) (m1 (m7 1 (.bC (nb (nr kS (nr abo na (.m 243)) nB) nc) (.bm (m2 (nr kS (nr abo na (.m 27)) (.m 9)))) om)) (m5 (ol (nr e_ (.bm (m2 (nr kS (nr abo na nE) (.m 9)))) m4) (nr eZ (nr kS na nE) nc)))))
abbrev aAT:dk:={cB:="_law_member",bw:=["code","more"],c8:=1,dc:=2,bD:=aqK,cF:=Y}
abbrev ayi:cx:=(m1 (nd (nb na nt) (m5 oO)) (m1 (m7 1 (.bC (nb o4 nc) (.m 513) m9)) (m1 (n8 2 (nC na) (m7 1 (nr afn m4 (o6 70)))) (m5 m4))))
abbrev aAS:dk:={cB:="_law_mask",bw:=["member","bits","one"],c8:=1,dc:=3,bD:=ayi,cF:=Y}
abbrev aqL:cx:=(m1 (m7 2 o0) (m1 (.mn 3 (m2 nB) (m2 (nd (m8 ne (nu m4 m6) nt) (m1 (m7 4 (nO 8 (n5 (n1 "put" (m2 (nK 69 nq))) 6 (oj m4 m6)))) (nm f_ (.hq m3 (nv (m1 (nu (nk "pq") m6) (m1 m_ (m1 (nF (nu m4 m6)) (m2 m9))))))))))) (m1 (m7 5 (nv (m1 (.bC (nb m3 om) (.m 508) m9) (m1 (nK 72 (nC m4)) (m2 (nK 72 oq)))))) (m5 (ol (n1 "put" (nm ay (m1 oy (m1 (.af3 m3) (m1 nt (m1 nt (m1 nt (m1 nt (m2 m9))))))))) ng)))))
abbrev aAU:dk:={cB:="_law_object",bw:=["tab","body","props","k","kind","mask"],c8:=2,dc:=7,bD:=aqL,cF:=G}
abbrev atC:cx:=(m1 (m7 2 (ot nL)) (m1 (nd (nz (nb m3 m9) (m8 ne m4 om)) (m5 (nu m4 (ni 68 (m1 na (nm c9 m4)))))) (m1 (m7 3 (nK 71 (ot (.m 486)))) (m1 (m7 4 (nK 71 (ot (.m 486)))) (m5 (ol (.bC (nz (m8 ne m4 om) (nb m3 nc)) (oj m4 n4) m6) (.bC (nb m3 nE) nt m_)))))))
abbrev aAL:dk:={cB:="_law_body",bw:=["d","bodies","how","first","second"],c8:=2,dc:=5,bD:=atC,cF:=Y}
abbrev atD:cx:=(m1 (.acf [4,5] (nO 73 m3)) (m1 (m7 6 (nG 1 na m4 (nk "C"))) (m1 (.dU nq "body" m_) (m5 (nv (m1 (n1 "put" (nm ay (m1 (.m 9) (m1 (nD nq "did") (m2 nt))))) (m1 ng (m1 m6 (m2 nt)))))))))
abbrev aAN:dk:={cB:="_law_declared",bw:=["tab","kind","body","place","t","mask","decl"],c8:=4,dc:=7,bD:=atD,cF:=Y}
abbrev aqN:cx:=(m1 (.acf [2,3,4] (nv (m1 o0 (m1 o0 (m2 o0))))) (m1 (.mn 5 (m2 (nr e_ nc (ot nL))) (m1 (m7 6 (nr eZ (ot (nr e_ ng nc)) nc)) (m1 (.bC (pg nq) (m2 (m7 7 (nO 74 m3))) (m1 (nA 7 m3 nq) (m2 (nd (nb (ot nB) nc) (m2 (m7 7 (ol (nC nU) (nK 71 (ot (.m 486)))))))))) (m1 (nH (.hq m3 nU)) (m1 (nH (.hq m6 nq)) (nm f_ (.hq m_ (ni 75 (m1 m4 (m1 nc (m1 nU (m2 (nr e_ ng nc))))))))))))) (m1 (m7 8 (ni 75 (m1 m4 (m1 nB (m1 (nu m3 (ni 68 (m1 na (nm c9 m3)))) (m2 m9)))))) (m5 (nv (m1 m_ (m1 m6 (m1 m3 (m2 (.A 8))))))))))
abbrev aA0:dk:={cB:="_law_world",bw:=["d","tab","bodies","ups","classes","k","up","body","face"],c8:=2,dc:=9,bD:=aqN,cF:=Y}
abbrev aqM:cx:=(m1 (.acf [4,5,6,7] m3) (m1 (nA 8 (nv (m1 m9 (m1 nc (m1 nE (m1 nL (m1 nR (m1 nB (m1 oz (m2 (.m 7)))))))))) (ot oy)) (m1 (nd (nb (.A 8) m9) (m1 (m7 9 (ot (.m 9))) (m5 (nv (m1 (.eT m4 "put" (m2 (nK 69 (.A 9)))) (m1 (nv (m1 (nK 70 (.A 9)) (m1 m9 (m2 m9)))) (m1 m9 (m2 nt)))))))) (m1 (nd (m8 lt (.A 8) nE) (m1 (.acf [10,11] (ni 73 (m1 m4 (m2 (nO 74 nq))))) (m5 (nv (m1 (.A 10) (m1 (.A 11) (m1 m9 (m2 nt)))))))) (m1 (nd (m8 lt (.A 8) nR) (m5 (nu m_ (ni 68 (m1 na (nm c9 m_)))))) (m1 (nd (nb (.A 8) nR) (m5 nU)) (m1 (m7 12 (nv (m1 nc (m1 (nv (m1 (.m 511) (m1 oO (m2 oO)))) (m1 m9 (m2 nt)))))) (m1 (nd (nb (.A 8) oz) (m1 (m7 13 (nv (m1 (nv (m1 (.m 11) (m1 (nv (m1 (.m 508) (m1 oO (m2 oO)))) (m1 m9 (m2 nt))))) (m1 (nv (m1 oi (m1 (nv (m1 m9 (m1 oO (m2 oO)))) (m1 m9 (m2 nt))))) (m2 (.A 12)))))) (m5 (nu (.A 13) (nu (nv (m1 m9 (m1 nc (m1 m9 (m1 nc (m2 nB)))))) (ot nR)))))) (m1 (m7 14 o0) (m1 (.mn 15 (m2 (.bC (m8 ne m6 om) (ot nL) m9)) (nm f_ (.hq (.A 14) (nu m6 (ni 68 (m1 na (nm c9 m6))))))) (m1 (nd (nb (.A 14) om) (m5 (nv (m1 (ni 0 (m1 m4 (m1 (nk "T") (m1 n4 (nm ju nc))))) (m1 (nv (m1 m9 (m1 m9 (m2 m9)))) (m1 m9 (nm ay (m2 (.A 12))))))))) (m5 (nv (m1 (ni 0 (m1 m4 (m1 (nk "T") (m1 (ni 8 (m1 m4 (m2 (n5 (oG 16) 16 (.A 14))))) (nm ju nc))))) (m1 (nv (m1 m9 (m1 m9 (m2 m9)))) (m1 m9 (nm af3 (.A 14))))))))))))))))))
abbrev aAV:dk:={cB:="_law_one",bw:=["d","tab","world","pool","classes","ups","bodies","face","how","one","t","mask","whole","tops","chosen","go"],c8:=4,dc:=17,bD:=aqM,cF:=Y}
abbrev ayg:cx:=(m1 (oc (nb (nC na) (nC m4))) (m1 (nd (m8 ne (n2 na) nt) (m5 (.de (n5 (op 78 m_) 4 (n2 na))))) (m1 (nW (m8 ne (n2 m4) nt)) (m1 (.acf [2,3] (ol o4 oq)) (m5 (.eB (m1 (nb (nr afn oP pd) pd) (nm or (m1 (nb (nF m3) m9) (nm eB (m1 (nb (nr afn (nF m3) oI) oI) (m2 (nb (nr afn (nX m3) (nX m6)) (nX m6))))))))))))))
abbrev aAP:dk:={cB:="_law_in",bw:=["s","t","a","b"],c8:=2,dc:=5,bD:=ayg,cF:=Y}
abbrev aye:cx:=(m1 (oc (.dS (n5 (nO 78 m6) 3 m4))) (m5 (.eB (m1 (m8 ne (n2 na) nt) (nm de (n5 (op 79 m3) 2 (n2 na)))))))
abbrev aAM:dk:={cB:="_law_cover",bw:=["s","others"],c8:=2,dc:=4,bD:=aye,cF:=Y}
abbrev ayc:cx:=(m1 (nW (nZ (nb (nX m4) m9) (nb (nX m3) m9))) (m1 (m7 3 (nr eZ (nX m4) nc)) (m1 (.ag2 (nz (m8 ge m6 m9) (m8 ne m6 (nr eZ (nX m3) nc))) (m2 (nA 3 na m6))) (m5 (pg m6)))))
abbrev aAJ:dk:={cB:="_law_apart",bw:=["ups","s","t","at"],c8:=3,dc:=4,bD:=ayc,cF:=Y}
abbrev ayl:cx:=(m5 (.dS (n5 (nz (nb (nF oq) oO) (nb (nX oq) oO)) 1 na)))
abbrev aAY:dk:={cB:="_law_top",bw:=["held"],c8:=1,dc:=2,bD:=ayl,cF:=Y}
abbrev ayh:cx:=(m2 (.mn 4 (nm c9 m3) (m2 (nd (m8 ge (nu m3 m_) m9) (m2 (.dU (oe "decls" (nF (oe "rows" (oj m4 m_)))) "bases" (.bC m6 (nv (m2 (oj m4 (nu m3 m_)))) nt)))))))
abbrev aAQ:dk:={cB:="_law_lay",bw:=["tab","classes","ups","there","k"],c8:=4,dc:=5,bD:=ayh,cF:=Y}
abbrev ayf:cx:=(m1 (nA 3 m4 m3) (m1 (m7 4 (nr e_ (.ady m4 m3) (.ahW m4 (nr e_ m3 nc)))) (m1 (oc (.dS (n5 (.eB (m1 (ni 78 (m1 m6 (m2 ng))) (nm ir (nG 80 na m6 ng)))) 5 m_))) (m5 (.eB (m1 (m8 ne (n2 m6) nt) (m1 (m8 gt (nY m_) nc) (m2 (ni 79 (m1 m6 (m2 m_)))))))))))
abbrev aAO:dk:={cB:="_law_goes",bw:=["ups","held","place","part","others"],c8:=3,dc:=6,bD:=ayf,cF:=Y}
abbrev atE:cx:=(m1 (.acf [3,4] (ol (nC m4) oq)) (m1 (.mn 5 (m1 (nr eZ (nY m3) nc) (m1 n4 (nm ju nc))) (m1 (.age 6 (n5 (oG 10) 10 m3)) (m1 (m7 7 (nG 48 (nf "host") nq ng)) (m1 (nH (ni 82 (m1 on (m1 m6 (m1 m_ (m2 (.aO G))))))) (m1 (m7 8 (nG 49 na nq ng)) (m1 (nH (ni 82 (m1 on (m1 m6 (m1 m_ (m2 (.aO Y))))))) (m1 (nA 9 m3 ng) (m1 (nj (m8 ne (.A 8) (nG 83 m_ m3 ng))) (m1 (nj (m8 ne nU (.or (m1 (m8 gt (nF (nF (.A 9))) m9) (m1 (m8 ne (n2 (.A 9)) nt) (m2 (o6 81))))))) (m2 (nd (nz nU (.A 8)) (m2 (m7 2 (nr e_ (.ady m3 ng) (.ahW m3 (nr e_ ng nc)))))))))))))))) (m5 m3)))
abbrev aAR:dk:={cB:="_law_left",bw:=["rel","world","held","classes","ups","place","kinds","asked","lies","part"],c8:=3,dc:=11,bD:=atE,cF:=Y}
abbrev aym:cx:=(m1 (nj (.or (m1 (nb m3 om) (nm ir (.de (n5 (ni 79 (m1 nq (m2 m3))) 6 m4)))))) (m1 (.mn 3 (nm c9 m3) (m1 (nA 4 m3 m6) (m1 (m7 5 (nz (nb (nF oS) m9) (nb (n2 m_) nt))) (m2 (nj (.eB (m1 (nG 83 na m3 m6) (nm or (m1 (oa ng) (m2 (o6 81))))))))))) (m5 (.aO G))))
abbrev aAZ:dk:={cB:="_law_whole",bw:=["ups","pool","left","place","part","plain"],c8:=3,dc:=7,bD:=aym,cF:=Y}
abbrev agh:cx:=(m1 (m7 1 (.hw (m1 m9 (m2 (n5 (.A 19) 19 (.ady na (.m 63))))))) (m1 (m7 2 (.lJ 0 .C)) (m1 (nH (nG 1 m3 nR (nk "E"))) (m1 (m7 3 (.lJ 3 (m1 (.lJ 2 (m2 m3)) (m2 nL)))) (m1 (.dU m6 "telling" (.aO Y)) (m1 (nH (pf 52)) (m1 (nH (pf 67)) (m1 (nH (pf 66)) (m1 (m7 4 (ni 76 (m1 m4 (m2 m3)))) (m1 (.acf [5,6] (ol (nC m_) oS)) (m1 (m7 7 o0) (m1 (.mn 8 (m2 (nr e_ nE (.ang (nr abo (nY oq) oi) nE))) (m1 (m7 9 (ni 77 (m1 m4 (m1 m3 (m1 m_ (m2 nU)))))) (m2 (nd (m8 lM (oG 9) (n5 (oG 18) 18 nU)) (nm f_ (.hq nU (.A 9))))))) (m1 (n8 10 nU (n8 11 nU (nj (m8 ne (.eT m6 "ask" (m1 (oG 10) (m2 (oG 11)))) (ni 78 (m1 (.A 10) (m2 (.A 11)))))))) (m1 (nH (ni 82 (m1 m3 (m1 ng (m1 nq (m2 (.aO G))))))) (m1 (m7 12 (nr e_ ng (.bm (m1 (n2 m_) (m2 (nC nU)))))) (m1 (n8 10 (.A 12) (n8 11 (.A 12) (nj (m8 ne (nG 47 (nD m6 "host") (oG 10) (oG 11)) (nG 80 nq (.A 10) (.A 11)))))) (m1 (nH (ni 82 (m1 m3 (m1 ng (m1 nq (m2 (.aO Y))))))) (m1 (m7 13 om) (m1 (n8 14 (ni 2 (m1 m3 (m2 (ni 8 (m1 m3 (m2 (n5 (oG 16) 16 nU))))))) (m7 13 (nr e_ (.A 13) (.go (.A 17) 17 nU (m2 (nb (oG 17) (.A 14))))))) (m1 (n8 15 (nv (m1 (.A 13) (nm rev nU))) (nj (oa (nG 85 nq nU (nG 84 m6 m_ (.A 15)))))) (m5 (.eB (m1 (nb (o_ (nD m6 "notes")) om) (m1 (nb (nD m6 "trail") om) (m2 (nb (nD m6 "assumed") (.lK Y)))))))))))))))))))))))))))
abbrev arc:dk:={cB:="law",bw:=["script","d","tab","rel","world","classes","ups","pool","go","one","s","t","every","start","part","held"],c8:=1,dc:=20,bD:=agh,cF:=Y}
abbrev atw:cx:=(m1 (o5 "rows") (m1 (nx "index" (.lK Y)) (m1 (nx "decls" (.hw (m2 .B))) (m1 (o5 "bounds") (m1 (o5 "defaults") (m1 (o5 "names") (m1 (nx "origins" (.lK Y)) (m1 (nx "renamed" (.lK Y)) (m1 (oJ "shaping") (m1 (oJ "putting") (m2 (.jd 1 (nQ "FIRST_ROWS" (nI [nP "any",nP "unknown",nP "never",nP "void",nP "undefined",nP "null",nP "string",nP "number",o3 m9 m9,o3 nc m9,nP "object",nI [oy,oF,oF,oF,oF,oF,m9],nI [oz,o8],nP "error",o3 m9 nc,o3 nc nc])) (nm f_ (ph "put"))))))))))))))
abbrev aAk:dk:={cB:="TypeTable.__init__",bw:=["self","row"],c8:=1,dc:=2,bD:=atw,cF:=Y}
abbrev atx:cx:=(m1 (nd (m8 gH m4 (nf "index")) (m5 (oe "index" m4))) (m1 (m7 2 (nY o2)) (m1 (nH (.hq (nf "rows") m4)) (m1 (.jl (nf "index") m4 m3) (m5 m3)))))
abbrev aAl:dk:={cB:="TypeTable.put",bw:=["self","row","t"],c8:=2,dc:=3,bD:=atx,cF:=Y}
abbrev ats:cx:=(m1 (nx "did" m4) (m1 (nx "kind" m3) (m1 (nx "name" m6) (m1 (nx "params" nt) (m1 (nx "body" n4) (m1 (nx "bases" nt) (m1 (nx "static" n4) (m1 (oJ "extends_class") (m1 (nx "abstract" (.aO Y)) (m1 (nx "members" om) (m1 (nx "variances" om) (m1 (oJ "busy") (m1 (oJ "at") (m1 (nx "file" (nk "")) (m2 (oJ "nid"))))))))))))))))
abbrev az8:dk:={cB:="Decl.__init__",bw:=["self","did","kind","name"],c8:=4,dc:=4,bD:=ats,cF:=Y}
abbrev atv:cx:=(m1 (nx "tab" m4) (m1 (oJ "deep") (m1 (nx "most_rounds" (nh "MOST_ROUNDS" 200)) (m1 (nx "most_deep" (nh "MOST_SHAPES" 40)) (m2 (nx "lib" .B))))))
abbrev aAj:dk:={cB:="Thin.__init__",bw:=["self","tab"],c8:=2,dc:=2,bD:=atv,cF:=Y}
abbrev axS:cx:=(m5 m4)
abbrev aAi:dk:={cB:="Thin.force",bw:=pc "self",c8:=2,dc:=2,bD:=axS,cF:=Y}
abbrev axM:cx:=(m5 (op 17 (nf "tab")))
abbrev aAb:dk:={cB:="RefHost.shape",bw:=pc "self",c8:=2,dc:=2,bD:=axM,cF:=Y}
abbrev atu:cx:=(m1 (nx "host" m4) (m1 (nx "mode" m3) (m1 (nx "rules" (.lK G)) (m1 (nx "assumed" (.lK Y)) (m1 (nx "known" (.lK Y)) (m1 (o5 "trail") (m1 (o5 "road") (m1 (oJ "deep") (m1 (oJ "looks") (m1 (nx "notes" (.lJ 4 .C)) (m1 (nx "telling" (.aO G)) (m1 (nx "twin" .B) (m1 (nx "missing" (nk "")) (m2 (oJ "at")))))))))))))))
abbrev aAd:dk:={cB:="Rel.__init__",bw:=["self","host","mode"],c8:=3,dc:=3,bD:=atu,cF:=Y}
abbrev axN:cx:=(m5 (ow 26))
abbrev aAc:dk:={cB:="Rel.ask",bw:=["self","s","t"],c8:=3,dc:=3,bD:=axN,cF:=Y}
abbrev axO:cx:=(m5 (nv (m1 (nY (pp "notes")) (nm c9 (nf "trail")))))
abbrev aAe:dk:={cB:="Rel.mark",bw:=["self"],c8:=1,dc:=1,bD:=axO,cF:=Y}
abbrev axP:cx:=(m2 (nj (nf "telling")))
abbrev aAf:dk:={cB:="Rel.note",bw:=["self","code"],c8:=2,dc:=2,bD:=axP,cF:=Y}
abbrev att:cx:=(m2 (o5 "rows"))
abbrev az9:dk:={cB:="Notes.__init__",bw:=["self"],c8:=1,dc:=1,bD:=att,cF:=Y}
abbrev axL:cx:=(m5 (nz (ob (nD m4 "mode") "R_IDENT" 3) (nG 51 m4 m3 m6)))
abbrev aAa:dk:={cB:="ParamRule.holds",bw:=["self","rel","s","t"],c8:=4,dc:=4,bD:=axL,cF:=Y}
abbrev axQ:cx:=(m1 (nj (nJ (nD m4 "mode") "R_IDENT" 3)) (m5 (ni 56 (m1 m4 (m1 m3 (m1 m6 (m2 (.aO G))))))))
abbrev aAg:dk:={cB:="RelshapeObjectRule.holds",bw:=["self","rel","s","t"],c8:=4,dc:=4,bD:=axQ,cF:=Y}
abbrev axR:cx:=(m5 (ni 57 (m1 m4 (m2 m3))))
abbrev aAh:dk:={cB:="RelshapeWordRule.holds",bw:=["self","rel","s","t"],c8:=4,dc:=4,bD:=axR,cF:=Y}
abbrev aHm:r dk:=[aA6,aA5,aBc,aBJ,aBj,aAG,aBv,aBC,aBE,aAm,aAC,aAB,aBi,aAu,aAH,aA3,aA1,aBe,aAo,aAv,aBg,aBh,aAx,aAp,aAs,aBp,aAn,aBl,aAr,aBz,aBx,aBt,aBs,aBD,aBF,aBG,aA7,aBw,aBo,aAw,aBu,aBA,aAE,aBr,aAF,aBI,aBy,aAq,aBk,aA2,aBd,aBb,aAz,aAt,aBn,aBB,aA9,aA8,aBa,aAD,aBH,aBq,aBm,aAI,aA4,aBf,aAA,aAy,aAX,aAW,aAK,aAT,aAS,aAU,aAL,aAN,aA0,aAV,aAP,aAM,aAJ,aAY,aAQ,aAO,aAR,aAZ,arc,aAk,aAl,az8,aAj,aAi,aAb,aAd,aAc,aAe,aAf,az9,aAa,aAg,aAh]
abbrev bo(h:u):ap dk:=aHm[h]?
abbrev ant{gn:Type}(i:r (u×ea×gn))(x:u)(j:ea):ap gn:=@r.jB (u×ea×gn) (n_ (ap gn)) B (fun t ψ l=>@N.ae (n_ (ap gn)) (u.acv t.1 x&&t.2.1==j) l (c t.2.2)) i
abbrev anf:r (u×ea×u):=[(0,"put",88),(2,"force",91),(2,"shape",92),(3,"ask",94),(3,"mark",95),(3,"note",96),(5,"holds",98),(6,"holds",99),(7,"holds",100)]
abbrev aDQ:u→ea→ap u:=ant anf
abbrev apl:r (u×ap u):=[(0,c 87),(1,c 89),(2,c 90),(3,c 93),(4,c 97),(5,B),(6,B),(7,B)]
abbrev aJB(x:u):ap (ap u):=apl.cm x
abbrev aoG:r (u×ea):=[(0,"rows"),(0,"index"),(0,"decls"),(0,"bounds"),(0,"defaults"),(0,"names"),(0,"origins"),(0,"renamed"),(0,"shaping"),(0,"putting"),(1,"did"),(1,"kind"),(1,"name"),(1,"params"),(1,"body"),(1,"bases"),(1,"static"),(1,"extends_class"),(1,"abstract"),(1,"members"),(1,"variances"),(1,"busy"),(1,"at"),(1,"file"),(1,"nid"),(2,"tab"),(2,"deep"),(2,"most_rounds"),(2,"most_deep"),(2,"lib"),(3,"host"),(3,"mode"),(3,"rules"),(3,"assumed"),(3,"known"),(3,"trail"),(3,"road"),(3,"deep"),(3,"looks"),(3,"notes"),(3,"telling"),(3,"twin"),(3,"missing"),(3,"at"),(4,"rows")]
abbrev aui(x:u)(j:ea):N:=aoG.dS fun t=>u.acv t.1 x&&t.2==j
abbrev T:mD:={abp:=aui,eT:=aDQ,ahD:=aJB,aay:=[(3,6),(4,5),(5,4),(6,1),(7,2),(10,7)]}
set_option tactic.hygienic false
noncomputable instance:gN dk:=⟨⟨"",[],0,0,.C,Y⟩⟩
set_option tactic.hygienic true
structure anM where
 atL:r (ea×ar)
 amG:u→ap ea
 akG:u→ap ea deriving gN
abbrev aJI:dz→N|.B=>G|_=>Y
abbrev aoh(d:af.bA)(o:afc→N):N:=if b:ny 19 then n3 af.bA.ah0.az (fun x P P=>o x)else Y
abbrev amz(d:af.bA)(o:af.bH→ac2→N):N:=if b:ny 23 then n3 af.bA.kM.az (fun j n=>o j n)else Y
abbrev atX(d:af.bA)(o:n6→N):N:=if b:ny 25 then n3 af.bA.ac4.az (fun i P P=>o i)else Y
abbrev atV(d:af.bA)(o:n6→N):N:=if b:ny 24 then n3 af.bA.r.az (fun i P=>o i)else Y
abbrev azz(d:af.bA)(o:(r (ap af.bA))→n6→N):N:=if b:ny 6 then n3 af.bA.ah2.az (fun ks vs P=>o ks vs)else Y
abbrev aog(d:af.bA)(o:af.bA→af.bH→ac2→N):N:=if b:ny 20 then n3 af.bA.aad.az (fun y k n=>o y k n)else Y
abbrev ajp(d:af.bA)(o:af.bA→af.bA→N):N:=if b:ny 21 then n3 af.bA.aai.az (fun y k P=>o y k)else Y
abbrev aok(d:af.bA)(o:(ap af.bA)→(ap af.bA)→(ap af.bA)→N):N:=if b:ny 26 then n3 af.bA.lv.az (fun i aP v P=>o i aP v)else Y
abbrev aq1(d:af.bA)(o:ahj→af.bA→N):N:=if b:ny 3 then n3 af.bA.ahj.az (fun p j P=>o p j)else Y
abbrev azq(d:af.bA)(o:af.bA→anT→af.bA→N):N:=if b:ny 2 then n3 af.bA.anI.az (fun i p l P=>o i p l)else Y
abbrev azs(d:af.bA)(o:af.bA→(r aqn)→n6→N):N:=if b:ny 15 then n3 af.bA.akp.az (fun i p l P=>o i p l)else Y
abbrev atP(d:af.bA)(o:ag6→n6→N):N:=if b:ny 0 then n3 af.bA.ag6.az (fun p i P=>o p i)else Y
abbrev azD(d:af.bA)(o:af.bA→af.bA→af.bA→N):N:=if b:ny 5 then n3 af.bA.ame.az (fun v j ab P=>o v j ab)else Y
abbrev atR(d:af.bA)(o:af.bA→n6→(r aFT)→ac2→N):N:=if b:ny 16 then n3 af.bA.jG.az (fun ac as ks n=>o ac as ks n)else Y
abbrev azu(d:af.bA)(o:af.bA→(r aMf)→kq→N):N:=if b:ny 8 then n3 af.bA.aff.az (fun f g9 x P=>o f g9 x)else Y
abbrev azA(d:af.ee)(o:af.bA→N):N:=if b:ny 24 then oK af.ee.bA.az (fun y P=>o y)else Y
abbrev azl(d:af.ee)(o:n6→af.bA→N):N:=if b:ny 5 then oK af.ee.aeh.az (fun i y P=>o i y)else Y
abbrev atO(d:af.ee)(o:af.bA→anT→af.bA→N):N:=if b:ny 7 then oK af.ee.al4.az (fun v p y P=>o v p y)else Y
abbrev atS(d:af.ee)(o:n6→N):N:=if b:ny 4 then oK af.ee.ai7.az (fun i P=>o i)else Y
abbrev azE(d:af.ee)(o:af.bA→oH→oH→N):N:=if b:ny 12 then oK af.ee.anO.az (fun v j ab P=>o v j ab)else Y
abbrev azQ(d:af.ee)(o:af.bA→oH→oH→N):N:=if b:ny 11 then oK af.ee.amm.az (fun v j ab P=>o v j ab)else Y
abbrev azC(d:af.ee)(o:af.bA→af.bA→oH→oH→N):N:=if b:ny 9 then oK af.ee.aja.az (fun v q j ab P=>o v q j ab)else Y
abbrev azK(d:af.ee)(o:(ap af.bA)→N):N:=if b:ny 3 then oK af.ee.aqz.az (fun y P=>o y)else Y
abbrev azw(d:af.ee)(o:N):N:=if b:ny 27 then oK af.ee.anJ.az (fun P=>o)else Y
abbrev azJ(d:af.ee)(o:N):N:=if b:ny 25 then oK af.ee.anU.az (fun P=>o)else Y
abbrev ahm{cg:Type}(i:r cg)(g:N):N:=match i with|[]=>g|_=>Y
abbrev aoi{cg:Type}(i:r cg)(o:cg→r cg→N):N:=match i with|j::xs=>o j xs|_=>Y
abbrev i0{cg:Type}(i:r cg)(o:cg→N):N:=aoi i fun j xs=>ahm xs (o j)
abbrev aao{cg:Type}(i:r cg)(o:cg→cg→N):N:=aoi i fun j xs=>i0 xs fun ab=>o j ab
abbrev ajo{cg:Type}(p:ap cg)(o:cg→N):N:=match p with|c j=>o j|_=>Y
abbrev ajn{cg:Type}(p:ap cg)(g:N):N:=match p with|B=>g|_=>Y
abbrev azF(x:afc)(o:R→N):N:=if b:x.eP=2 then afc.m.az (ajV:=fun P=>N) x b o else Y
abbrev azL(x:afc)(o:af.bH→N):N:=if b:x.eP=5 then afc.bi.az (ajV:=fun P=>N) x b o else Y
abbrev azr(x:afc)(o:N→N):N:=if b:x.eP=1 then afc.aO.az (ajV:=fun P=>N) x b o else Y
abbrev akN(d:af.bA)(o:af.bA→n6→ac2→N):N:=atR d fun ac as ks n=>ahm ks (o ac as n)
abbrev aoj(d:af.bA)(o:af.bA→af.bH→ac2→n6→ac2→N):N:=akN d fun ac as n=>aog ac fun p k lw=>o p k lw as n
abbrev azO(d:af.bA)(o:af.bA→af.bA→N):N:=ajp d fun y k=>aok k fun i aP v=>ajn i (ajo aP fun aP=>ajn v (o y aP))
abbrev atW(d:af.bA)(o:af.bA→af.bA→N):N:=ajp d fun y k=>aok k fun i aP v=>ajo i fun i=>ajn aP (ajn v (o y i))
abbrev azM(d:af.bA)(o:af.bA→af.bA→af.bA→N):N:=ajp d fun y k=>aok k fun i aP v=>ajo i fun i=>ajo aP fun aP=>ajn v (o y i aP)
abbrev azN(d:af.bA)(o:af.bA→af.bA→N):N:=ajp d fun y k=>aok k fun i aP v=>ajn i (ajn aP (ajo v fun v=>o y v))
abbrev azt(d:af.bA)(o:af.bA→aqn→af.bA→N):N:=azs d fun i os aKT=>i0 os fun f'=>i0 aKT fun l=>o i f' l
abbrev amy(d:af.bA)(o:af.bA→af.bA→N):N:=akN d fun ac as P=>i0 as fun j=>o ac j
abbrev atQ(d:af.bA)(o:af.bA→af.bA→af.bA→N):N:=akN d fun ac as P=>aao as fun j ab=>o ac j ab
abbrev azH(d:af.bA)(o:af.bA→af.bH→ac2→ac2→N):N:=aoj d fun p k lw as n=>ahm as (o p k lw n)
abbrev aq0(d:af.bA)(o:af.bA→af.bH→ac2→af.bA→ac2→N):N:=aoj d fun p k lw as n=>i0 as fun j=>o p k lw j n
abbrev azI(d:af.bA)(o:af.bA→af.bH→ac2→af.bA→af.bA→ac2→N):N:=aoj d fun p k lw as n=>aao as fun j ab=>o p k lw j ab n
abbrev azv(d:af.bA)(o:af.bA→af.bH→af.bA→n6→kq→N):N:=azu d fun jN g9 x=>i0 g9 fun t=>amz t.target fun j P=>b1 (t.is_async=0)&&o jN j t.kF t.gP x
abbrev amx(d:af.ee)(o:af.bA→af.bA→N):N:=azl d fun a' y=>i0 a' fun v=>o v y
abbrev azm(d:af.ee)(o:af.bA→af.bH→af.bA→N):N:=amx d fun v y=>aog v fun p h P=>o p h y
abbrev azn(d:af.ee)(o:af.bA→af.bA→af.bA→N):N:=amx d fun v y=>ajp v fun p q=>o p q y
abbrev azo(d:af.ee)(o:n6→af.bA→N):N:=amx d fun v y=>atX v fun a'=>o a' y
abbrev aGW(d:af.ee)(o:af.bH→ac2→anT→af.bA→N):N:=atO d fun v f' y=>amz v fun j n=>o j n f' y
abbrev azp(d:af.ee)(o:af.bA→af.bH→anT→af.bA→N):N:=atO d fun v f' y=>aog v fun p h P=>o p h f' y
abbrev azy(d:af.ee)(o:af.bA→af.bA→N):N:=atS d fun a'=>i0 a' fun v=>ajp v o
abbrev azx(d:af.ee)(o:af.bA→af.bA→N):N:=atS d fun a'=>i0 a' fun v=>atW v o
abbrev azP(d:af.ee)(o:af.bA→oH→N):N:=azQ d fun v j ab=>ahm ab (o v j)
abbrev atT(d:af.ee)(o:af.bA→af.bA→oH→N):N:=azC d fun v q j ab=>ahm ab (o v q j)
abbrev azB(d:af.ee)(o:af.bA→af.bA→n6→oH→N):N:=atT d fun v gQ j=>akN gQ fun ac as P=>o v ac as j
abbrev ki(aE:kq)(ac:af.bA)(h:ea):N:=amz ac fun id P=>id==nT h&&(o7 id amJ&&id !=("__debug__":af.bH))
abbrev aeS(d:af.bA):N:=!(atR d fun P as ks P=>as.dD&&ks.dD)
abbrev iS(d:af.bA):N:=!(b1 (ny 22))
abbrev ahP(d:af.bA):N:=!(b1 (ny 8)||(b1 (ny 9)||b1 (ny 10)))
abbrev aj2(d:af.bA):N:=!(b1 (ny 26))
abbrev ams(p:adG)(n:anT):N:=b1 (n=match p with|.e_=>.asM|.eZ=>.axp|.alD=>.aF2|.abo=>.aFE|.kS=>.aF0|.acu=>.aFo|.afn=>.aFp)
abbrev atM(p:ai5)(n:aqn):N:=b1 (n=match p with|.eq=>.ack|.ne=>.aF4|.lt=>.aFW|.le=>.aFX|.gt=>.aFI|.ge=>.aFJ|.gH=>.abJ|.lM=>.anS|.agL=>.aFN|.app=>.axh)
abbrev akH(q:R)(d:af.bA):N:=aoh d fun x=>azF x fun aq=>b1 (aq=q)
abbrev avQ(d:af.bA):N:=aq1 d fun p j=>b1 (p=.atc)&&akH 1 j
abbrev apo(mp:oY)(aE:kq)(q:u)(id:af.bH):N:=mp.cm id==c q&&((o7 id «local»||o7 id gh||o7 id ht)&&(id !=("__debug__":af.bH)&&id !=("__classdict__":af.bH)))
abbrev aod(mp:oY)(aE:kq)(j:af.bH)(eG:u)(x:kq):N:=x.cA==.abU&&(x.bw.cm j==c .local&&(mp.de (fun h=>h.2 !=eG)&&(x.bw.de fun h=>h.2 !=.gh&&((h.2 !=.local||(x.bw.cm h.1==c .local&&(h.1==j||(mp.cm h.1).mL)))&&(h.2 !=.ht||(o7 h.1 gh||o7 h.1 ht))))))
mutual variable(K:anM)
mutual
abbrev b_(mp:oY)(aE:kq):dz→af.bA→N|.B,d=>aoh d fun x=>b1 (x=.B)|.aO g,d=>aoh d fun x=>azr x fun j=>g==j|.m q,d=>akH q d|nk k,d=>aoh d fun x=>azL x fun j=>j==nT k|.A q,d=>amz d fun id P=>nN apo q id|.bL h y,d=>ki aE d h&&b1 (K.atL.cm h=c y)|nI Aa,d=>atX d fun i=>b1 (i.z≤1000)&&oZ i|.bm Aa,d=>atV d fun i=>b1 (i.z≤1000)&&oZ i|.hw Aa,d=>atV d fun i=>b1 (i.z≤1000)&&oZ i|.lK _,d=>azz d fun ks vs=>ahm ks (ahm vs G)|.be f h,d=>aog d fun y k P=>k==nT h&&(aeS y&&n' y)|.aT f o,d=>ajp d fun y k=>aj2 k&&(n' y&&n0 o k)|.ady f o,d=>azO d fun y aP=>n' y&&n0 o aP|.ahW f o,d=>atW d fun y aP=>n' y&&n0 o aP|.agV f q aq,d=>azM d fun y i aP=>n' y&&(akH q i&&akH aq aP)|.rev f,d=>azN d fun y aP=>n' y&&avQ aP|.dM p f g,d=>azq d fun i f' l=>ams p f'&&(n' i&&n0 g l)|.ju f,d=>aq1 d fun p j=>b1 (p=.atc)&&oL|.aX p f g,d=>azt d fun i f' l=>atM p f'&&(! aGy f' l&&(n' i&&n0 g l))|.eB Aa,d=>atP d fun p i=>b1 (p=.gL)&&oZ i|.or Aa,d=>atP d fun p i=>b1 (p=.aQ)&&oZ i|.ir f,d=>aq1 d fun p j=>b1 (p=.axl)&&oL|.bC x f g,d=>azD d fun v j ab=>n0 x v&&(oL&&n0 g ab)|.bp ac Aa,d=>akN d fun fn ec P=>ajo (K.amG ac) fun h=>ki aE fn h&&(b1 (ec.z≤20)&&oZ ec)|.lJ x Aa,d=>akN d fun fn ec P=>ajo (K.akG x) fun h=>ki aE fn h&&(b1 (ec.z≤20)&&oZ ec)|.eT f h Aa,d=>aoj d fun p k iB ec bs=>k==nT h&&(aeS p&&(iB.agp==bs.iG&&(b1 (ec.z≤20)&&(n' p&&oZ ec))))|.c9 f,d=>amy d fun fn j=>ki aE fn "len"&&(oM&&oL)|.dS f,d=>amy d fun fn j=>ki aE fn "any"&&(oM&&oL)|.de f,d=>amy d fun fn j=>ki aE fn "all"&&(oM&&oL)|.alS f,d=>amy d fun fn j=>ki aE fn "sorted"&&(oM&&oL)|.af3 f,d=>amy d fun fn j=>ki aE fn "tuple"&&(oM&&oL)|.ang f g,d=>atQ d fun fn j ab=>ki aE fn "min"&&(oM&&(iS ab&&(oL&&n0 g ab)))|.aa3 f,d=>atQ d fun fn j ab=>ki aE fn "isinstance"&&(oM&&(ki aE ab "str"&&oL))|.akO f o,d=>aq0 d fun p k iB j bs=>k==nT "get"&&(aeS p&&(iB.agp==bs.iG&&(oM&&(n' p&&n0 o j))))|.aay o aj,d=>azI d fun p k iB j ab bs=>k==nT "get"&&(ki aE p "KEY_FAMILIES"&&(iB.agp==bs.iG&&(oM&&(iS ab&&(n0 o j&&n0 aj ab)))))|.hq f j,d=>aq0 d fun p k iB ab bs=>k==nT "append"&&(aeS p&&(iB.agp==bs.iG&&(iS ab&&(n' p&&n0 j ab))))|.aft f j,d=>aq0 d fun p k iB ab bs=>k==nT "extend"&&(aeS p&&(iB.agp==bs.iG&&(iS ab&&(n' p&&n0 j ab))))|.adv f,d=>azH d fun p k iB bs=>k==nT "pop"&&(aeS p&&(iB.agp==bs.iG&&n' p))|.go gD eG kF gP,d=>azv d fun jN j gQ fs x=>nN aod j eG x&&(n0 kF gQ&&(b_ ((j,eG)::mp) x gD jN&&jj ((j,eG)::mp) x gP fs))|.dy,_=>G
abbrev jj(mp:oY)(aE:kq):hG→n6→N|.C,i=>ahm i G|.s d Aa,i=>aoi i fun j xs=>oM&&(n0 d j&&oZ xs)
end
abbrev aeJ(mp:oY)(aE:kq)(q:u)(d:af.bA):N:=amz d fun id P=>mp.cm id==c q&&(o7 id «local»||o7 id gh)
abbrev alU(mp:oY)(aE:kq):r u→n6→N|[],[]=>G|q::is,j::xs=>nN aeJ q j&&nN alU is xs|_,_=>Y
abbrev awC(d:af.bA):N:=if b:ny 25 then n3 af.bA.ac4.az (fun vs P P=>!(vs.de (aGR 8))&&!(vs.de (aHn 8)))else G
mutual
abbrev aby(mp:oY)(aE:kq):md→af.ee→N|.f_ f,k=>azA k fun y=>ahP y&&ou y|.ci q f,k=>amx k fun v y=>nN aeJ q v&&(ahP y&&ou y)|.age q f,k=>amx k fun v y=>nN aeJ q v&&(b1 (y.eP=8)&&ou y)|.dU f h j,k=>azm k fun p v y=>v==nT h&&(ahP y&&(ou p&&ox j y))|.jl f o j,k=>azn k fun p q y=>aj2 q&&(ahP y&&(ou p&&(ox o q&&ox j y)))|.acf is f,k=>azo k fun a' y=>nN alU is a'&&(ahP y&&(awC y&&(b1 is.fF&&ou y)))|.atr q p j,k=>aGW k fun id n f' y=>nN aeJ q (.kM id n)&&(nN apo q id&&(ams p f'&&ox j y))|.agg f h p j,k=>azp k fun d v f' y=>v==nT h&&(ams p f'&&(ou d&&ox j y))|.agn f o,k=>azy k fun p q=>aj2 q&&(ou p&&ox o q)|.amA f o,k=>azx k fun p i=>ou p&&ox o i|.bC x f g,k=>azE k fun v j ab=>ox x v&&(nN acO f j&&nN acO g ab)|.ag2 x g,k=>azP k fun v j=>ox x v&&nN acO g j|.jd q f g,k=>atT k fun v gQ j=>nN aeJ q v&&(ou gQ&&nN acO g j)|.mn q Aa g,k=>azB k fun v fn ec j=>nN aeJ q v&&(ki aE fn "range"&&(jj K mp aE Aa ec&&nN acO g j))|.bu f,k=>(azK k fun p=>match p with|c y=>ou y|B=>aJI f)|.abl,k=>azw k G|.alJ,k=>azJ k G|.dy,_=>G
abbrev acO(mp:oY)(aE:kq):cx→oH→N|.C,i=>ahm i G|.s k g,i=>aoi i fun j xs=>nN aby k j&&nN acO g xs
end
end
set_option tactic.hygienic false
abbrev am3(M:j2)(aD:d8):N:=abT M (.bI aD) "__getattribute__"==c (c (.acy "object.__getattribute__"))&&(abT M (.bI aD) "__getattr__"==c B&&(abT M (.bI aD) "__setattr__"==c (c (.acy "object.__setattr__"))&&(aKK M aD&&((atK M aD).dS (·.hasDict)&&(abT M (.bI aD) "__bool__"==c B&&(abT M (.bI aD) "__len__"==c B&&ar4 M aD))))))
set_option backward.match.sparseCases true
abbrev ajW(fn:dk):oY:=(fn.bw.au af.bH.dF).k8 (r.adw fn.bw.z)
set_option tactic.hygienic true
abbrev aDl:akq→N|.ia _ _=>G|_=>Y
abbrev aq4(M:j2):ck→N|.B=>G|.bI O=>(match M.cm O with|c p=>aDl p.fS|B=>Y)|_=>Y
abbrev aqY(M:j2)(cd:ck)(t:af.bH):N:=match cd with|.bI x=>(match M.cm x with|c ⟨_,_,.ajs vs,_⟩=>(match vs.e0 with|_::.bi h _::_=>af.bl.fv.sEq h t|_=>Y)|_=>Y)|_=>Y
abbrev amF(M:j2)(f:d8):ap (al3×r ee×kq):=match M.cm f with|c ⟨_,_,.akV ⟨_,jV,dX,.stmts bD,d_,aoK,[],dV,_,_,_,_,jL,_,lc⟩,_⟩=>(match aqY M jL jV&&(aoK==lG&&(lc==an8&&aq4 M dV))with|G=>c (dX,bD,d_)|Y=>B)|_=>B
abbrev avY(K:anM)(fn:dk)(dX:al3)(bD:r ee)(d_:kq):N:=[dX.asm.dD,dX.asD.mL,dX.apr.dD,dX.arY.mL,b1 (dX.ec.au (·.iX)=(fn.bw.au af.bH.dF).gu fn.c8),b1 (fn.c8≤fn.bw.z),b1 (fn.bw.au af.bH.dF).fF,(dX.ec.au (·.iX)).de (fun j=>b1 (d_.bw.cm j=c .local∨d_.bw.cm j=c .gh)),b1 ((aqW 0 d_.bw []).au (·.1)).fF,d_.bw.de (fun j=>b1 (j.2≠.ht)),! d_.aJG,! d_.aJH,b1 (d_.cA=.abU),acO K (ajW fn) d_ fn.bD bD].de id
mutual
abbrev ajl(M:j2):ar→ck→N|.m q,.m aq _=>b1 (q=aq)|nk k,.bi aP _=>b1 (aP=nT k)|nI i,.bI f=>(match M.cm f with|c ⟨.hl v,_,.ia xs _,_⟩=>b1 (v="tuple")&&(b1 (i.z≤du)&&aoa M i xs.e0)|_=>Y)|_,_=>Y
abbrev aoa(M:j2):r ar→r ck→N|[],[]=>G|j::xs,y::vs=>ajl M j y&&aoa M xs vs|_,_=>Y
end
abbrev aBK(M:j2)(x:d8)(j:ea):N:=abT M (.bI x) (nT j)==c B
abbrev ar8(M:j2)(x:d8)(j:ea)(ac:d8):N:=abT M (.bI x) (nT j)==c (c (.bI ac))&&aE4 M (.bI ac)==c (.hl "function")
abbrev aoA:r d8:=[229,236,243,250,257,264,271,278,283,290,297,311,318,342,350,371,376,384,389,576,583,590,597,722,743,750,757,764,771,778,785,792,806,813,820,834,841,848,855,862,869,883,902,909,914,919,924,931,936,943,950,976,983,991,998,1005,1012,1026,1033,1040,1047,1054,1066,1073,1087,1106,1179,1186,1193,1200,1207,1214,1221,1226,1233,1240,1247,1252,1257,1262,1269,1274,1281,1286,1291,1296,1301,165,179,200,403,410,550,666,673,694,680,96,964,1141,1167]
abbrev arb:r ea:=["new_param","new_decl","parts_of","whole_of_row","regular_twin","join_bools","stays_beside","top_of","union","add_undef","is_literal","is_fresh","regular_one","family","known_decl","loose_props","lets_primitive","plain_shape","base_dids","find_prop","prop_row","read_type","has_base","by_rule","cut_back","settled","ask_kinds","relbase_kept","close_trail","tells","taken_wider","slot_notes","simple_related","tops_related","unknown_told","values_related","number_to_enum","structured","rule_for","from_union","some_part","to_union","is_weak","shows_nothing","is_weak_kind","weak_fault","takes_all","class_apart","relate_is_asked","lies_in_other","pid_bound","param_related","install_rel_params","did_of","rises","too_deep","objects_related","object_told","opened","is_readonly","weak_asked","shape_related","rest_related","lacking","marks_fit","prop_related","install_rel_word","install_rel_objects","_law_take","_law_row","_law_bits","_law_member","_law_mask","_law_object","_law_body","_law_declared","_law_world","_law_one","_law_in","_law_cover","_law_apart","_law_top","_law_lay","_law_goes","_law_left","_law_whole","law"]
abbrev aGI:r d8:=[182,203,567,711,120,967,1151,1170]
abbrev aqU:r ea:=["TypeTable","Decl","RefHost","Rel","Notes","ParamRule","RelshapeObjectRule","RelshapeWordRule"]
abbrev amv:r (ea×ar):=[("ANY",m9),oQ "DEFERRED_ROWS" [oi,oB,oC,oo,oE,oA,oD],pe "D_CLASS",nn "EMPTY" 11,nn "ERR" 13,nn "FALSE_T" 8,nn "FAM_BOOL" 3,("FAM_NUM",nB),nn "FAM_OBJ" 7,("FAM_OTHER",m9),pe "FAM_STR",oQ "FIRST_ROWS" [nP "any",nP "unknown",nP "never",nP "void",nP "undefined",nP "null",nP "string",nP "number",o3 m9 m9,o3 nc m9,nP "object",nI [oy,oF,oF,oF,oF,oF,m9],nI [oz,o8],nP "error",o3 m9 nc,o3 nc nc],nn "FRESH_F" 14,nn "FRESH_T" 15,("LIST_ROWS",(nI [.m 11,.m 12])),oQ "LITERAL_ROWS" [nB,nE,nL,nR],oQ "MARKED_ROWS" [nB,nE,nL,nR,oy],nn "MAX_OPEN" 60,nn "MAX_ROAD" 24,nn "MAX_UNION" 400,nn "MOST_LOOKS" 20000,nn "MOST_PLAIN" 40,nn "MOST_ROUNDS" 200,nn "MOST_SHAPES" 40,("NEVER",nB),nn "NULLT" 5,nn "NUMBER" 7,nn "OBJECTT" 10,oQ "OBJECT_ROWS" [oy,.m 9,.m 11,.m 12,.m 13],oQ "OPEN_ROWS" [oz,.m 7,oi,oB,oC,oo,oE,oA,oD],oQ "PLAIN_ROWS" [nc,nB,nE,nL,nR],oQ "PRIMITIVE_NAMES" [nk "charAt",nk "concat",nk "includes",nk "indexOf",nk "length",nk "slice",nk "toLowerCase",nk "toString",nk "toUpperCase"],nn "P_GETONLY" 32,pe "P_OPT",nn "P_PRIVATE" 8,nn "P_PROTECTED" 16,("P_READONLY",nB),nn "RULE_CHOICE" 6,("RULE_DEFERRED",nB),nn "RULE_INDEX" 10,pe "RULE_MEET",nn "RULE_OBJECT" 5,nn "RULE_PLACES" 12,nn "RULE_WORD" 14,pe "R_ASSIGN",("R_COMPARE",nB),nn "R_IDENT" 3,nn "R_SUBTYPE" 4,("SHAPED_ROWS",o8),nn "STRING" 6,nn "TRUE_T" 9,nn "UNDEF" 4,pe "UNKNOWN",nn "U_OPTION" 11,oQ "VALUE_ROWS" [nc,nB,nE,nL,nR],nn "VOID" 3,nn "Y_ARRAY" 11,("Y_BOOL",nB),nn "Y_ENUM" 5,nn "Y_INTER" 7,pe "Y_KEY",nn "Y_NUM" 4,nn "Y_OBJ" 8,nn "Y_PARAM" 10,nn "Y_REF" 9,nn "Y_SIG" 13,nn "Y_STR" 3,nn "Y_TPL" 18,nn "Y_TUPLE" 12,nn "Y_UNION" 6]
abbrev ij(ac:u):d8:=aoA.ld ac 0
abbrev eR(x:u):d8:=aGI.ld x 0
abbrev gt:anM:={atL:=amv,amG:=fun ac=>arb[ac]?,akG:=fun x=>aqU[x]?}
def CN{n}{h}(b:oX h n=G):∀ac,ac<h→n ac=G:=fun ac b2=>r.hp.1 b ac (r.aKk.2 b2)
abbrev aDk(d:ag7)(n:R×R):N:=match d.dx with|.m o _=>(match d.lP with|.m y _=>b1 (o=n.1)&&(b1 (y=n.2)&&b1 (d.ajy=auB o))|_=>Y)|_=>Y
abbrev apR:r ag7→r (R×R)→N|[],[]=>G|d::l,n::k=>aDk d n&&apR l k|_,_=>Y
abbrev arW(M:j2):N:=match M.cm 151 with|c ⟨.hl v,B,.bE Aa _,ed⟩=>b1 (v="dict")&&(b1 (ed.c5=0)&&apR Aa.e0 T.aay)|_=>Y
abbrev amj:r u:=[0,0,0,0,0,0,0,0,0,0,0,0,0,0,0,149,0,0,0,0,92,156,153,162,157,154,165,155,158,160,159,152,164,161,0,0,0,0,163,0,96,148,120,151,147,121,145,122,101,146,123,99,100,108,109,129,132,0,130,131,128,98,0,105,106,103,102,0,0,0,104,115,107,111,112,124,166,88,89,0,0,1,2,3,4,5,6,7,8,9,10,11,0,12,13,0,0,0,14,127,15,0,0,16,17,117,126,18,19,118,119,0,90,20,21,22,23,140,141,142,143,136,134,0,0,137,133,0,135,0,138,139,150,110,144,97,125,113,116,0,91,24,0,0,25,26,27,28,29,30,31,32,0,33,34,35,0,36,37,38,39,40,41,0,42,0,0,43,44,45,46,47,48,49,50,51,93,52,53,114,0,54,55,56,57,0,58,59,60,61,62,0,63,64,0,65,0,0,66,0,0,0,94,95,67,68,69,70,71,72,73,74,75,76,77,78,79,80,81,82,83,84,85,86,87]
abbrev afM(y:ck)(f:d8):N:=match y with|.bI g=>u.acv g f|_=>Y
abbrev akf(M:j2)(x:u)(y:ck):N:=match x with|0=>G|h+1=>match u.aam 87 h with|Y=>afM y (ij h)|G=>match u.aam 95 h with|Y=>afM y (eR (h-87))|G=>match u.aam 165 h with|Y=>(match amv[h-95]? with|c t=>ajl M t.2 y|B=>Y)|G=>afM y 151
abbrev alY(M:j2):r ag7→r af.bH→r u→N|[],[],_=>G|d::Aa,h::ns,x::kd=>(match d.dx with|.bi o _=>af.bl.fv.sEq o h|_=>Y)&&(akf M x d.lP&&alY M Aa ns kd)|_,_,_=>Y
def Qr{M}{d}{Aa}{h}{ns}{x}{kd}(b:alY M (d::Aa) (h::ns) (x::kd)=G):(∃v,d.dx=.bi h v)∧akf M x d.lP=G∧alY M Aa ns kd=G:=by rw[mX Ai (N.fY.1 b) fun Q h2=>?_,mX Ai (N.fY.1 h2) fun h2 h3=>?_,mX ⟨?_,h2,h3⟩,mZ b h2 h3];generalize d.dx=y at Q;induction y using af.ck.ae with|bi o v=>exact⟨v,by rw[af.bl.fv.ass.1 Q]⟩|_=>exact N.cs Q
def Qq{M}:∀(Aa)(am)(bX),alY M Aa am bX=G→Aa.adW (fun d=>match d.dx with|.bi h _=>c h|_=>B)=am|[],[],_,_=>e|[],_::_,_,b=>pn|_::_,[],_,b=>pn|_::_,_::_,[],b=>pn|d::Aa,h::ns,x::kd,b=>by obtain⟨⟨v,Q⟩,_,h3⟩:=Qr b;rw[r.aoD,Q,mW cr (h::·) (Qq Aa ns kd h3)]
def Qp{M}:∀(Aa)(am)(bX),alY M Aa am bX=G→am.fF→∀h x,(h,x)∈am.k8 bX→∃d,Aa.amD (fun d=>d.dx.aa3 h)=c d∧akf M x d.lP=G|_,[],_,_,_,_,_,H=>nomatch H|[],_::_,_,b,_,_,_,_=>pn|_::_,_::_,[],b,_,_,_,_=>pn|d::Aa,h::ns,x::kd,b,aj,j,ab,H=>by obtain⟨⟨v,Q⟩,h2,h3⟩:=Qr b;refine aQ.az (r.gA.1 H) ?_ ?_;rintro t;rotate_left 1;rintro H;rotate_right 1;(with_reducible refine BL t ?_);rw[mZ t,mY t L];subst t;subst L;rw[mX ⟨d,?_,h2⟩,r.aBL,Q];show(match j==j with|G=>c d|Y=>_)=_;rw[aaU,mX Ai (r.l6.1 aj) fun i0 aao=>?_,mX Ac (Qp Aa ns kd h3 aao j ab H) fun a5 f g=>?_,mX ⟨a5,?_,g⟩,r.aBL,Q];show(match h==j with|G=>c d|Y=>_)=_;have:(h==j)=Y:=ajj.2 fun a=>i0 (a▸(r.avX H).1);rw[aa,mW f]
structure aw8(M:j2)(mg:af.bH→ap ck):Prop where
 b9:∀h x,(h,x)∈dC.k8 amj→∃y,mg h=c y∧akf M x y=G
 hP:∀h,h∉dC→mg h=B
 bS:oX 8 (fun q=>am3 M (eR q))=G
 abp:aoG.de (fun t=>aBK M (eR t.1) t.2)=G
 eT:anf.de (fun t=>ar8 M (eR t.1) t.2.1 (ij t.2.2))=G
 arV:arW M=G
structure aw9(M:j2):Prop where
 fx:oX 8 (fun q=>aDr M (.bI (eR q))&&ar4 M (eR q))=G
 av0:[5,6,7].de (fun q=>abT M (.bI (eR q)) "__init__"==c (c (.acy "object.__init__")))=G
 ahD:[(0,87),(1,89),(2,90),(3,93),(4,97)].de (fun t=>ar8 M (eR t.1) "__init__" (ij t.2))=G
abbrev aD5(M:j2)(ac:u):Prop:=∀fn,bo ac=c fn→∃n g k,amF M (ij ac)=c (n,g,k)∧avY gt fn n g k=G
set_option genSizeOf true
set_option genSizeOfSpec true
set_option genInjectivity true
set_option backward.dsimp.useDefEqAttr true
abbrev aBN:ee→r (al3×r ee×kq)|.aMi _ n g _ _ _ k _ _ _=>[(n,g,k)]|_=>[]
abbrev amI:r ee→r (al3×r ee×kq)|[]=>[]|.aMe _ _ _ i _ _ _ _ _ _ _::l=>i.flatMap aBN++amI l|st::l=>aBN st++amI l
abbrev afY(b:b8):r u→j2|[]=>[]|f::i=>match b.bg f with|c p=>(f,p)::afY b i|B=>afY b i
def U3(v:ako)(h:u)(ab6:axk)(f:u):(akB v h ab6).bg f=if f<h then ix ((v.i3 f).ld azT)else B:=by unfold b8.bg;rw[absHeap_at];by_cases b:f<h;(·rw[c0 b,c0 b];generalize(v.i3 f).ld azT=p;obtain⟨x,aj,aGZ,ed⟩:=p;cases aGZ<;>rfl);·rw[cH b,cH b]
abbrev aka(v:ako)(h:u):r u→j2|[]=>[]|f::i=>match u.akF f h with|G=>(match ix ((v.i3 f).ld azT)with|c p=>(f,p)::aka v h i|B=>aka v h i)|Y=>aka v h i
def Pu(v:ako)(h:u)(ab6:axk):∀i,aka v h i=afY (akB v h ab6) i|[]=>e|f::i=>by unfold aka afY;rw[U3,Pu v h ab6 i];by_cases b:f<h;(·rw[c0 b,show u.akF f h=G from u.aqP b]);·rw[cH b,show u.akF f h=Y by rw[N.amB,mW fun a=>b (u.afQ a)]]
def Ie(b:b8):∀i,(afY b i).abJ b|[]=>fun f p d=>by cases d|g::i=>fun f p d=>by unfold afY at d;cases t:b.bg g with|B=>rw[t]at d;exact Ie b i f p d|c j=>rw[t]at d;rw[r.aa5]at d;cases a:f==g with|G=>rw[a]at d;cases d;rw[lb.1 a,mW t]|Y=>rw[a]at d;exact Ie b i f p d
abbrev aly(M:j2):N:=match M.cm lG with|c ⟨_,_,.bE Aa _,_⟩=>alY M Aa.e0 dC amj|_=>Y
abbrev at1:r af.bH→N|[]=>G|f::i=>i.de (fun g=>!(af.bl.fv.sEq f g))&&at1 i
def O0:∀{i:r af.bH},at1 i=G→i.fF|[],_=>.C|f::i,b=>by rw[o1 Q h2 N.fY.1,mX r.l6.2 ⟨fun H=>?_,O0 h2⟩];have:=r.hp.1 Q f H;rw[af.bl.fv.ass.2 e]at aa;exact N.cs aa
set_option maxRecDepth 100000 in
def T_:at1 dC=G:=nM
def OF{M:j2}{b:b8}(cL:M.abJ b)(d:aly M=G):b.apJ lG=dC∧(∀h x,(h,x)∈dC.k8 amj→∃y,b.anm lG h=c y∧akf M x y=G)∧∀h,h∉dC→b.anm lG h=B:=by unfold aly at d;generalize t:M.cm lG=p at d;induction p using ap.ae with|B=>exact N.cs d|c cR=>induction cR using af.k_.ae with|mk x aj fS ed=>induction fS using af.akq.ae with|bE Aa ep=>have d:alY M Aa.e0 dC amj=G:=d;have K:=cL _ _ t;(have aG:b.apJ lG=dC:=by unfold b8.apJ;rw[K,mW Qq _ _ _ d]);refine⟨aG,fun h x H=>?_,fun h H=>b8.nsMap_none (aG▸H)⟩;(obtain⟨j,f,g⟩:=Qp _ _ _ d (O0 T_) h x H);refine⟨j.lP,?_,g⟩;unfold b8.anm;rw[K];show(Aa.amD fun d=>d.dx.aa3 h).au (·.lP)=_;rw[←fE.find?_toList,f];rfl|_=>exact N.cs d
abbrev amf(M:j2):N:=oX 8 (fun q=>am3 M (eR q))&&(aoG.de (fun t=>aBK M (eR t.1) t.2)&&(anf.de (fun t=>ar8 M (eR t.1) t.2.1 (ij t.2.2))&&(arW M&&(oX 8 (fun q=>aDr M (.bI (eR q))&&ar4 M (eR q))&&([5,6,7].de (fun q=>abT M (.bI (eR q)) "__init__"==c (c (.acy "object.__init__")))&&[(0,87),(1,89),(2,90),(3,93),(4,97)].de (fun t=>ar8 M (eR t.1) "__init__" (ij t.2)))))))
def W9{M:j2}{b:b8}(cL:M.abJ b)(d:aly M=G)(i:amf M=G):aw8 M (b.anm lG)∧aw9 M:=by obtain⟨_,cC,c4⟩:=OF cL d;unfold amf at i;simp only[N.c3 (f:=r.de _ _),N.c3 (f:=arW M)]at i;obtain⟨Q,h2,h3,h4,h5,h6,h7⟩:=i;exact⟨⟨cC,c4,Q,h2,h3,h4⟩,⟨h5,h6,h7⟩⟩
abbrev aoB:r u:=[14,15,16,17,18,19,20,21,22,23,24,26,27,31,32,35,36,37,38,61,62,63,64,77,80,81,82,83,84,85,86,87,89,90,91,93,94,95,96,97,98,100,103,104,105,106,107,108,109,110,111,113,114,115,116,117,118,120,121,122,123,124,126,127,129,132,139,140,141,142,143,144,145,146,147,148,149,150,151,152,153,154,155,156,157,158,159,8,10,11,39,40,58,70,71,74,72,4,112,136,138]
abbrev anp(ac:u):N:=match bo ac with|c fn=>(match(amI af.jZ.aaI.aaC.bD)[(aoB.ld ac 0)]? with|c (n,g,k)=>avY gt fn n g k|B=>Y)|B=>G
abbrev ahN:r u:=[3,119,120,125,126,127,128,129,130,131,132,133,134,135,136,137,138,139,140,141,142,143,144,145,146,147,148,149,150,151,181,182,202,203,222,343,377,531,532,566,567,598,599,600,601,603,647,648,710,711,966,967,1150,1151,1169,1170]++aoA.flatMap fun f=>[f,f-1]
noncomputable abbrev axd:=ap (al3×r ee×kq)
abbrev akT(M:j2):r axd:=aoA.au (amF M)
abbrev agu:r axd:=aoB.au fun q=>(amI af.jZ.aaI.aaC.bD)[q]?
set_option backward.match.sparseCases false
abbrev aDD(bf:b8)(st:af9):=(aEI (af.bl.fv.aE3 af.jZ.aaI.aaC.bD) bf st.mE.aK&&aBV st.mE&&aDw bf st.mE.aK,aEw (af.bl.fv.aE3 af.jZ.aaI.aaC.bD) st.mE)
abbrev aDE(st:af9):=(aly (aka st.tree st.h ahN)&&amf (aka st.tree st.h ahN),akT (aka st.tree st.h ahN))
abbrev aov(V:kc)(os:ahe):=(oN asr).au fun st=>aDD (mF V.dX) st
abbrev aow(V:kc)(os:ahe):=(oN asr).au aDE
set_option maxRecDepth 100000 in
def Q3(V:kc)(os:ahe):aov (V.aqc "special-get-raises" Y) os=c (G,pk):=nM
set_option maxRecDepth 100000 in
def Q4(V:kc)(os:ahe):aov (V.aqc "special-get-raises" G) os=c (G,pk):=nM
set_option maxRecDepth 100000 in
def RP(V:kc)(os:ahe):aow (V.aqc "special-get-raises" Y) os=c (G,agu):=nM
set_option maxRecDepth 100000 in
def RQ(V:kc)(os:ahe):aow (V.aqc "special-get-raises" G) os=c (G,agu):=nM
def Mm{W:kc→Prop}(ac:∀V:kc,W (V.aqc "special-get-raises" Y))(v:∀V:kc,W (V.aqc "special-get-raises" G))(V:kc):W V:=by have d:=kc.withFollow_self V "special-get-raises";cases U:V.dX.aHo "special-get-raises"<;>rw[U]at d;(·rw[←d,mW ac V]);·rw[←d,mW v V]
abbrev aDF(bf:b8)(st:af9):=(aDD bf st,aDE st)
def Un(V:kc)(os:ahe):(oN asr).au (aDF (mF V.dX))=c ((G,pk),G,agu):=by have f:oN aov=_:=Mm (W:=fun V=>oN aov=c (G,pk)) (fun V=>Q3 V os) (fun V=>Q4 V os) V;have g:oN aow=_:=Mm (W:=fun V=>oN aow=c (G,agu)) (fun V=>RP V os) (fun V=>RQ V os) V;unfold aov at f;unfold aow at g;generalize oN asr=p at f g;cases p with|B=>cases f|c st=>exact cr c (fK.aaW (ap.c.dB f) (ap.c.dB g))
abbrev axw(M:j2)(b:b8):Prop:=M.abJ b∧aly M=G∧amf M=G∧akT M=agu
abbrev aGm(_:kc)(b:b8):Prop:=∃M,axw M b
def WU:aFU af.jZ.aaI hk l5 (n_ G) (fun k=>(aly (afY k.aK ahN)&&amf (afY k.aK ahN),akT (afY k.aK ahN))) (n_ (G,agu)) 17982:=by refine WZ (ag:=17982) _ _ _ _ aDF (n_ ((G,pk),G,agu)) Zh e UJ AbD e (fun V os=>?_) (fun V bf st b=>?_);(·rw[AaA,mW (oN Un)]);·rw[o1 Q b fK.mk.dB];obtain⟨aV,bj⟩:=pa Q;rw[o1 cV gp fK.mk.dB];rw[Pu st.tree st.h st.ab6]at cV gp;revert cV gp;show(aly (afY st.mE.aK ahN)&&amf (afY st.mE.aK ahN))=G→akT (afY st.mE.aK ahN)=agu→_;intro cV gp;generalize st.mE=k at aV bj cV gp⊢;have aG:=(OF (Ie k.aK ahN) (N.fY.1 cV).1).1;have cu:k.aK.apn lG=G:=(N.fY.1 (N.fY.1 (pa (pa (pa bj).2).2).1).2).1;have Aw:avt af.jZ.aaI.aaC.bD=af.bl.fv.aE3 af.jZ.aaI.aaC.bD:=congrFun af.bl.fv.te5923862056798008813 _;rw[Aw,mX ⟨?_,Abr aG bj,fK.aaW cV gp⟩,Xu aG cu];simpa only[N.aib]using aV
set_option maxRecDepth 100000 in
def Ac3:fv.tw8377067652309620493 (fv.asB af.jZ.akb).b'=G:=nM
set_option maxRecDepth 100000 in
def Ac4:fv.tw17119622794617984870 (fv.asB af.jZ.akb).b' (fv.asB af.jZ.akb).b'.aaC.bD (fun ψ h=>fv.tw17868728402115742887 h)=G:=nM
set_option maxRecDepth 100000 in
set_option maxHeartbeats 0 in
def Ac5:fv.tw12908688711261696721 (fv.asB af.jZ.akb).b'=G:=apx (apx (apx (apx nM Ac3) nM) nM) Ac4
set_option maxRecDepth 100000 in
set_option maxHeartbeats 0 in
def Ac6:fv.tw17960256430627541270 (fv.asB af.jZ.akb)=G:=by(iterate 15 refine apx ?_ nM);exact Ac5
set_option maxRecDepth 100000 in
set_option maxHeartbeats 0 in
def Ac2:af.jZ.akb.wellSaid=G:=by refine(congrFun fv.te9446332074065402090 _).ah ?_;(iterate 18 refine apx ?_ nM);exact Ac6
set_option maxRecDepth 100000 in
set_option maxHeartbeats 0 in
def hd(bp:aGk af.jZ.akb.gs.toRowW aGm):af.jZ.akb.aMl:=by refine holds_law Ac2 fun aNt=>?_;exact holds_open (l:=af.jZ.akb.gs) (t:=hk) (li:=l5) (aj:=ml) (kwd:=aeK) WU (fun V k d=>⟨_,Ie _ _,(N.fY.1 (pa d).1).1,(N.fY.1 (pa d).1).2,(pa d).2⟩) (fun V b h'⟨M,j,ab⟩o=>⟨M,j.g0 o,ab⟩) (fun ψ ψ=>jC) (fun ψ ψ ψ ψ ψ=>jC) U_ De D0 (fun ψ ψ=>recFacts_nil e) e (by assumption) (by decide+agM) ⟨e,e,e,e,e,by decide+agM⟩ ⟨[.aw []],by decide+agM,by decide+agM⟩ bp
set_option maxRecDepth 100000 in
def Aaa:oX 26 anp=G:=nM
set_option maxRecDepth 100000 in
def Aac:oX 25 (fun q=>anp (q+26))=G:=nM
set_option maxRecDepth 100000 in
def Aad:oX 25 (fun q=>anp (q+51))=G:=nM
set_option maxRecDepth 100000 in
def Aae:oX 25 (fun q=>anp (q+76))=G:=nM
def Aab{ac:u}(b:ac<101):anp ac=G:=by by_cases Q:ac<26;(·exact CN Aaa ac Q);·by_cases h2:ac<51;(·rw[show ac=ac-26+26 by omega,mW CN Aac _ (by omega)]);·by_cases h3:ac<76;(·rw[show ac=ac-51+51 by omega,mW CN Aad _ (by omega)]);·rw[show ac=ac-76+76 by omega,mW CN Aae _ (by omega)]
def Y_{M:j2}(b:akT M=agu){ac:u}(b2:ac<101):aD5 M ac:=by intro fn d;have t:=Aab b2;unfold anp at t;rw[d]at t;(have aV:(akT M)[ac]?=c (amF M (ij ac)):=by unfold akT;have aB:ac<aoA.z:=b2;rw[r.adf,r.hV aB];show c _=c (amF M (aoA.ld ac 0));rw[r.aBW,r.hV aB];rfl);(have bj:agu[ac]?=c ((amI af.jZ.aaI.aaC.bD)[(aoB.ld ac 0)]?):=by unfold agu;have aB:ac<aoB.z:=b2;rw[r.adf,r.hV aB,r.aBW,r.hV aB];rfl);rw[b,bj]at aV;have cV:=ap.c.dB aV;clear aV bj;generalize(amI af.jZ.aaI.aaC.bD)[(aoB.ld ac 0)]?=p at cV t;cases p with|B=>exact N.cs t|c j=>obtain⟨n,g,k⟩:=j;exact⟨n,g,k,cV.cq,t⟩
end
mutual open a z b h c some d e e rfl f a g b h n i l j x k s l r m int n p o k p o q i r List s cons t q u Nat v t w H x c y v z length A var B none C nil D obj E G F mk' G true H m I x1 J hx K g L x2 M K N Bool O T P z0a Q h1 R Int S z0b T z0c U z0d V w W P X ρ Y false Z x3 aa this ab y ac f ae casesOn af PySem ag M ah trans aj d ak rows al U am L ao R ap Option aq j au map av V aw list ay tup az elim aC I aD C aH St aI A aK heap aL env aN F aO bool aP u aQ Or aT item aW Q aX cmp aY enc a0 D a4 H1 bb E be attr bg get? bi str bl W bm lst bp call bs pos bu ret bv Sem bw names bx mono bA Expr bC ite bD body bE dict bF inr bH Str bI ref bJ H' bL glob bP bind bS inst bT inl bU next bX S bY par b1 decide b6 set b8 Heap b9 at_ b' prog ce toks cg φ ci assign ck Value cm lookup cq symm cr congrArg cs noConfusion cz O cA kind cB name cD of_decide_eq_true cF drop cH if_neg cI σ cL X cT Inv cW fin cX ρ1 c0 if_pos c3 and_eq_true c5 size c8 arity c9 len dc slots de all dm H2 dv Env dx key dy stuck dB inj dD isEmpty dF ofString dH wpAny_bind dK bounds dM bin dS any dU setAttr dX params d3 wpAny d8 Addr d_ scope ea String eb hlen ec args ee Stmt ej absurd en Shared es toNat eu place eB and eD items eF isSome eG slot eI le_trans eJ under eM trail eO bind_some eP ctorIdx eU objs eX base eY cls eZ sub e0 toList e1 kvs e4 deep e7 parts e8 sub_add_cancel e_ add e' lay fp le_of_eq fq mem_map fv Fast fx keep fE Array fF Nodup fI refl fK Prod fL ban fO known fP model fQ ups fS data fU if_true fV injEq fW motive_1 fX wpAny_pure fY and_eq_true_iff f3 inv f6 seen f_ expr gc N gh cell gk succ gn χ go comp gq ofNat gs row gu take gw Classical gA mem_cons gB one gF getElem?_eq_some_iff gG idOf gH isin gI map_cons gL And gM Builtin gN Nonempty gP ifs gR length_append gS mpr gU road gZ any_eq_true g0 keeps g2 small g3 tail g' push ha rank hf zero hl type hp all_eq_true hq append hr cells ht free hv motive_2 hw newList hx z0e hC rel hN length_map hO lt_of_le_of_lt hP off hU fns hV getElem?_eq_getElem hZ decide_eq_true h1 z0f h_ kindOf ia seq ib units im isKey ir not ix alive iG line iL defaults iU step iX arg i1 depth i3 get i6 isData i7 mem_singleton i8 not_succ_le_zero i9 prim je fresh jh many ji map_some jl setItem jq decide_eq_false ju neg jz PyData jB rec jC trivial jE whole jG Call jP getElem?_append_left j2 Frag j4 Mine ka Off kc World kh idx kk mem_cons_self km pure kq Scope kr SeqAt kB h10 kF iter kH le_refl kK s₀ kM Name kN NameKind kR decide_eq_true_eq kS fmod kZ length_cons k0 lt_of_lt_of_le k1 missing k8 zip k_ Obj la add_assoc lb beq_iff_eq ld getD lh intro li loose ln testBit lu PyProof lv Slice lx bad lF length_singleton lG mainGlobals lH mem_cons_of_mem lI mem_of_getElem? lJ new lK newDict lP val lT Around lZ classes l6 nodup_cons l7 objE me Rows mi bases mj cLine mm doc mr head mt z0g mu intKind mx less mG encM mI foldl mL isNone mM lt_trans mN num mT toArray aaa zero_add aad Attribute aai Subscript aam ble aaC main aaD mean aaE not_mem_nil aaL sum aaQ SameBut aaU beq_self_eq_true aaW ext aa3 isStr aa5 lookup_cons aa6 not_lt aa7 ofNat_lt aba reverse abh True abi add_le_add_left abl cont abo fdiv abp field abs z0h abv if_false abz mem_of_lookup abC set_append_left abF yes abJ In abO append_assoc abP areKeys abR envOfC abT findIn abU function ab5 le_antisymm ab7 min ab8 natCast_nonneg ace true_and acf unpack ack Eq acs add_le_add act backTo acu band acv beq acw beq_false_of_ne acy builtin acz eq_of_beq acC headD acI isVal acK le_add_right acL le_of_not_lt acR or_eq_true acU setB ac2 Pos ac4 Tuple ac9 eq_iff_iff adb eval add z0i adf getElem?_map adn isEmpty_nil ads ofNat_le adv pop adw range adx right ady sliceTo adB top adJ Kept adL add_le_add_right adP byContradiction adT epsilon adU epsilon_spec adW filterMap ad8 mapIdx aeb reach aec starEach aeh Assign aej Program ael Y aem all_cons aen and_self aeu false_and aev false_eq_true aex get?_push_size aey grow aeM loc aeN map_map aeP mem_append aeQ negSucc ae1 typeIs ae2 update ae9 wpAny_holding afc Const aff ListComp afl append_nil afn bor afo contains aft extend afu filter afK index afO join afQ le_of_ble_eq_true af0 sizeLine af4 zero_le af7 Ns af8 Run agc add_lt_add_right agd addrs agf atKey agk bits agp endLine ags false_or agv getElem?_cons_succ agw getElem?_mapIdx agx getElem?_set_ne agM kernel agP le_of_lt agT own agV slice ag6 BoolOp ag7 DictEntry ag8 IO ahc Ne ahg Pairwise ahh Range ahj UnaryOp ahl brk ahp eqv ahD init ahF kinds ahH le_succ_of_le ahJ live ahK look ahL map_append ahM ne_of_lt ahO nodup_nil ahR or_true ahT pos_of_ne_zero ahW sliceFrom ah0 Constant ah1 Decidable ah2 Dict ah6 RcAt aib and_true aig ext_getElem? aih getElem?_append_right aii getElem?_eq_none aij getElem_mem aiC ih1 aiD ih2 aiG length_take aiI lt_succ_self aiK mul_le_mul_left aiO ofNat_eq_natCast aiS put aiZ valueAt ai4 AutoSeq1 ai6 Code ai7 Delete aja For ajc IsList ajd Laid aje RcNeAt ajj beq_eq_false_iff_ne ajk bitNot ajm compEnvC ajq dec ajs fields ajy hash ajL imp ajP kvsOf ajQ le_of_succ_le ajR lists ajT map_nil ajU mem_iff_getElem? ajV motive aj0 news aj3 not_lt_of_le aj4 not_or ake set_append_right akg toNat_natCast akp Compare akq Data akr DictOf aks False akt Fr akz a_1 akC any_cons akD apart akE bindL akF blt akG clsName akI contains_iff_mem akV func akW getElem?_concat_length akX getElem?_set_self akY getItem all z0j alq isEmpty_iff alr isSome_iff_exists als isTrue alv le_add_left alx lookIn alz mem_append_left alA min_le_left alD mul alE ne_of_gt alG not_eq_true' alH one_mul alJ pass alN recursionLimit alO replicate al3 Arguments al4 AugAssign al7 Char al8 ExtBut al9 Flow ama ForInStep amb FuncData ame IfExp amm While amp add_comm amq apart2 amr assignEach amt callerA amu codeAny amB eq_false_iff amC exists_mem_of_ne_nil amD find? amE find?_cons_of_neg amG fnName amH fnOf amJ globalImplicit am3 instOk am5 isNone_iff_eq_none am9 length_nil ana length_toList anc lt_size and mapOf ane mem_filter ang min2 anh min_eq_left ani mul_add anl nodup_append anm nsMap anq or_eq_true_iff ans sum_cons anv testBit_or anw tuple any z0k anB wpAny_newObj_type anC yield anH B anI BinOp anJ Continue anO If anR Look anS NotIn anT Operator anU Pass an2 alloc an3 and_false an6 bindC an8 builtinsNs aoe cons_append aon decide_eq_decide aoo decide_eq_false_iff_not aop dictOf aox eq_of_beq_eq_true aoC false_ne_true aoD filterMap_cons aoE filter_cons aoJ getElem?_cons_zero apm instDecidableEqProd apr kwonlyargs aps le_of_lt_succ apu length_drop apv length_set apw locals apy lt_irrefl apz map_take apA mem_iff_getElem apB min_le_right apC mods apG not_and apH not_exists apI not_le apQ or_false apS pairwise_cons apV propext apX rangeSize apY reverse_cons apZ room ap4 stack ap5 stored ap6 s₁ aqd wpAny_field aqe wpAny_mono aqf wpAny_standAt aqm Call_ aqn CmpOp aqq DecidableEq aqr Hend aqs IsSliceOf aqt J aqz Return aqA Subscript_ aqC TypeIs aqG add_add_add_comm aqH add_left_comm aqI add_zero aqP ble_eq_true_of_le aqV canLay0 aqW cellsFrom aqX code are forIn arf forIn_cons arg z0l ari getElem?_toList arj getLast? ark grown arS isInt arU keys arY kwarg ar2 length_filter_le ar3 lt_of_le_of_ne ar4 makesIn ar6 map_drop ar7 mem_append_right asi ofNat_inj asm posonlyargs aso putAt ass sEq_iff asv snoc asy sysModules asA true_or asD vararg asH weak asK wpAny_mkInt asL ω asM Add asS DictOfH asV IntsAre asW IsL asX IsPart asY IsTup asZ IsTuple as2 News as6 Perm ata Top atc USub atf above ath add_int ati add_mul atj add_right_comm atk add_sl atl all_map atn any_eq_false atJ callWith_method1 atK clsIn atL consts atS z0m atT z0n at2 docDef at3 draws at7 eqIsQuiet_byValue at8 eq_ofNat_of_zero_le at9 eq_of_testBit_eq aua eraseIdx aub eraseIdxIfInBounds auc eraseIdx_eq_take_drop_succ auk foldl_cons aul forall_mem_cons aum frames auo get?_push_of_some auz handled auB hashInt avs iff_of_false avv instObj avw instOk_parts avx inst_at avy isFalse avD le_succ avE length_mapIdx avF length_pos_iff avG listTooLong avI lt_succ_of_le avJ mapSeq avK map_eq_some_iff avM mul_assoc avR neg_mul avS nil_append avX of_mem_zip av0 plain av1 plain1 av6 pyHash av7 pyNext awb rawInt awc refKey awh seqIndex_of awi set_comm awj singleton awk sizeLine_eq awl size_toArray awn slicePick awo slicePlaces awp slot_dict_get awq slot_list_getitem awr slot_tuple_getitem aws spliced awt spliced_more awx storedH awy strongRecOn awz sub_le awA succ_le_succ awB succ_pos awF tail_any awI toNat_of_nonneg awM trees awT wpAny_Call_method_late awU wpAny_assign_Name awV wpAny_call_entry awW wpAny_loadPart' aw5 zero_mul aw7 Calls axa Dflts axb ExcName axg Inhabited axh IsNot axj LSm axl Not axp Sub axq Sublist axs UnaryOp_ axB add_sub_cancel axD and_assoc axF any_map axH assignInOrder ay4 binaryOp ay5 bindArgs ay8 bne_iff_ne aza builtins azb canLayAll0 azd cellOf azf cellsFrom_some azV depthAll azX dif_pos azY dropLast az2 ediv_one az4 eq_comm az5 eq_int az7 extBut aBL find?_cons aBW getD_eq_getElem?_getD aBX getElem?_modify aBY getElem?_take_of_lt aBZ getElem_of_mem aCl hashesW aCQ holding aDm isTrue_and aDn isTrue_or aDo item_list aDr keepIn aDz length_eq_zero_iff aDC loadGlobal aDH lt_add_of_pos_right aDL map_congr_left aDM map_id aDN max_le aDO mem_of_mem_drop aDP mem_of_mem_take aDR mod_lt aDS modify aDT natCast_add aDW not_lt_zero aDX not_true aD2 ofNat_sub aD9 operate aEd plainAttrs_list aEn pure_bind aEs resolve_left aEy set_cons_succ aEz set_cons_zero aEA sliceAdjust aEC sortedHeap aED spliced_none aEF standAt aEJ storeName aEL str_str aEM sub_self aEN subscripted aEO swappedStores aEP swapsWith aET take_left' aEV toList_inj aEW toNat_lt aEX toNat_of_nonpos aE0 truthy aE4 typeIn aFa wpAny_call aFb wpAny_execs_nil aFc wpAny_listPart aFd wpAny_nsGet aFe wpAny_seqItems aFf wpAny_updateSeq aFm Below aFn BindsTo aFo BitAnd aFp BitOr aFq BoolOp_one aFw CodeRec aFD EqAt aFE FloorDiv aFG FuncBody aFI Gt aFJ GtE aFL IfExp_ aFN Is aFO IsRangeIter aFP IsiPair aFT Keyword aFV List_ aFW Lt aFX LtE aF0 Mod aF1 Model aF2 Mult aF4 NotEq aF6 OfNat aF9 Reads aGa ReadsAll aGb Result aGf Tok aGh UInt32 aGi Unit aGj WData aGq add_lt_add_of_le_of_lt aGr add_sub_of_le aGu append_at aGw attributeBase aGy behindInMarks aGz bind_fun_some aGA blockKind aGC bool_bool aGD bootBuiltins aGE boot_type aGJ callWith_function aGK callWith_type1 aGL call_meets aGM call_meetsIn aGO closureFor aGP compareOp aGQ comprehension aGR constantsAlone aGX data_mapDictKeys aGY decide_true aG9 entry_dict_get aHc eqIsQuiet aHd eq_empty_of_size_eq_zero aHi filter_eq_nil_iff aHj filter_eq_self aHk find_spec aHl fmod_nonneg_of_pos aHn foldedForSure aHo followText aHp forIn_toList aHq frames_deeper aHv getElem?_replicate aHw getLast?_eq_getElem? aJy importsNone aJz in1_units aJA inferInstance aJC intBits_le aJD interactive aJG isCoroutine aJH isGenerator aJJ isNone_none aJL isTrue_IfExp aJX kmk_pick_nat aJ1 le_max_left aJ2 le_max_right aJ3 le_of_add_le_add_right aJ6 listItems aJ7 listSubscript? aJ8 lists_lengths aKd lt_of_succ_lt_succ aKi map_fst_zip aKj max_eq_right aKk mem_range aKl mem_reverse aKm methodCallForm aKn methodCallPos aKo min_eq_right aKt noPylong_small aKB ofNat_fdiv aKD or_eq_false_iff aKE or_lt_two_pow aKG pairwise_append aKH pairwise_singleton aKJ plainAttrs_dict aKK plainOver aKP rangeFitsLong aKY seqIndex? aKZ singleton_append aK0 size_of_entries aK1 size_push aK3 sliceApplied aK4 sliceBounds aK5 slicePart_int aK6 slot_dict_delitem aK7 slot_dict_getitem aK8 slot_list_delitem aK9 slot_list_extend aLa slot_list_pop aLd sub_le_sub_left aLe sub_le_sub_right aLf sub_lt_self aLg sub_nonpos_of_le aLi take_sublist aLk testBit_two_pow aLn toArray_toList aLo toList_append aLp toList_eraseIdx aLq toList_push aLr tupleItemsOf aLw type_dict_get aLC wpAny_Assign_Name aLD wpAny_Delete aLE wpAny_For aLF wpAny_Name aLG wpAny_delItem_slot aLH wpAny_deleteEach_cons aLI wpAny_deleteEach_nil aLJ wpAny_delete_Subscript aLK wpAny_execs_cons aLL wpAny_letGo aLM wpAny_loadName_local aLN wpAny_of_eq aLO wpAny_rule aLP wpAny_specialOf aLQ wpAny_storeName_local aLR wpAny_truthy_bool aLS wpAny_typeOf aL2 zip_cons_cons aL5 Arg aL6 Attribute_any_ aL8 BoolOp_and aL9 BoolOp_or aMa BoolsAre aMd CellsAre aMk HeapKind aMm InstAt aMn IntMulOk aMo IsCell aMp IsListIter aMq IsRange aMr IsTupleIter aMs Meets aMt MeetsSeq aMu Neg aMv PUnit aMw Pairs aMy Set aMz StrKeys aMB Tuple_ aMF Z
mutual
def zqL α:=by first|refine AaB α ?_|rewrite[α]
def zqR α:=by first|refine AaC α ?_|rewrite[←α]
def zqE:=by try with_reducible rfl
def zqA:=by assumption
def zqD:=by decide
def omega:=by first|(with_reducible assumption)|decide|(with_reducible exact u.kH _)|(with_reducible exact u.agP zqA)|(with_reducible exact u.e8 zqA)|(with_reducible exact u.k0 zqA zqA)|(with_reducible exact u.hO zqA zqA)|(with_reducible exact u.eI zqA zqA)|(with_reducible exact u.k0 zqA zqD)|(with_reducible exact u.eI zqA zqD)|(with_reducible exact u.hO zqA zqD)|(with_reducible exact u.k0 zqD zqA)|(with_reducible exact u.eI zqD zqA)|(with_reducible exact u.awA zqA)|(with_reducible exact u.le_of_succ_le_succ zqA)|(with_reducible exact u.ajQ zqA)|(with_reducible exact u.succ_le_of_lt zqA)|(with_reducible exact u.lt_of_succ_le zqA)|(with_reducible exact u.aps zqA)|(with_reducible exact u.avI zqA)|(with_reducible exact u.aKd zqA)|(with_reducible exact u.succ_lt_succ zqA)|(with_reducible exact u.lt_of_succ_lt zqA)|(with_reducible exact u.lt_of_not_le zqA)|(with_reducible exact u.acL zqA)|(with_reducible exact u.aj3 zqA)|(with_reducible exact u.not_le_of_lt zqA)|(with_reducible exact u.alE zqA)|(with_reducible exact u.ahM zqA)|(with_reducible exact u.acK _ _)|(with_reducible exact u.alv _ _)|(with_reducible exact u.zero_lt_succ _)|(with_reducible exact u.succ_ne_zero _)|(with_reducible exact u.aiI _)|(with_reducible exact u.amp _ _)|(with_reducible exact u.la _ _ _)|(with_reducible exact u.atj _ _ _)|(with_reducible exact u.aqH _ _ _)|(with_reducible exact u.axB)|(with_reducible exact u.add_sub_cancel_left)|(with_reducible exact u.add_lt_add_left zqA _)|(with_reducible exact u.abi zqA _)|(with_reducible exact u.adL zqA _)|(with_reducible exact u.acs zqA zqA)|(with_reducible exact u.awz _ _)|(with_reducible exact u.ar3 zqA zqA)|(with_reducible exact ej zqA zqA)|(with_reducible exact u.apy _ zqA)|(with_reducible exact e)|lia|omega+splitDisjunctions
def zqI1 α:=by refine@QK _ _ _ ?_;generalize aDs _ _=α
def zqI2 α β:=by refine@QQ _ _ _ _ ?_;generalize(arX _ _).1=α,(arX _ _).2=β
def zqI3 α β γ:=by refine@QR _ _ _ _ _ ?_;generalize(am7 _ _).1=α,((am7 _ _).2).1=β,((am7 _ _).2).2=γ
def zqI4 α β γ δ:=by refine@QS _ _ _ _ _ _ ?_;generalize(ajN _ _).1=α,((ajN _ _).2).1=β,(((ajN _ _).2).2).1=γ,(((ajN _ _).2).2).2=δ
def zqI5 α β γ δ ε:=by refine@QT _ _ _ _ _ _ _ ?_;generalize(ahG _ _).1=α,((ahG _ _).2).1=β,(((ahG _ _).2).2).1=γ,((((ahG _ _).2).2).2).1=δ,((((ahG _ _).2).2).2).2=ε
def zqI6 α β γ δ ε ζ:=by refine@QU _ _ _ _ _ _ _ _ ?_;generalize(afP _ _).1=α,((afP _ _).2).1=β,(((afP _ _).2).2).1=γ,((((afP _ _).2).2).2).1=δ,(((((afP _ _).2).2).2).2).1=ε,(((((afP _ _).2).2).2).2).2=ζ
def zqI7 α β γ δ ε ζ η:=by refine@QV _ _ _ _ _ _ _ _ _ ?_;generalize(ad6 _ _).1=α,((ad6 _ _).2).1=β,(((ad6 _ _).2).2).1=γ,((((ad6 _ _).2).2).2).1=δ,(((((ad6 _ _).2).2).2).2).1=ε,((((((ad6 _ _).2).2).2).2).2).1=ζ,((((((ad6 _ _).2).2).2).2).2).2=η
def zqI8 α β γ δ ε ζ η θ:=by refine@QW _ _ _ _ _ _ _ _ _ _ ?_;generalize(acJ _ _).1=α,((acJ _ _).2).1=β,(((acJ _ _).2).2).1=γ,((((acJ _ _).2).2).2).1=δ,(((((acJ _ _).2).2).2).2).1=ε,((((((acJ _ _).2).2).2).2).2).1=ζ,(((((((acJ _ _).2).2).2).2).2).2).1=η,(((((((acJ _ _).2).2).2).2).2).2).2=θ
def zqI9 α β γ δ ε ζ η θ ι:=by refine@QX _ _ _ _ _ _ _ _ _ _ _ ?_;generalize(abx _ _).1=α,((abx _ _).2).1=β,(((abx _ _).2).2).1=γ,((((abx _ _).2).2).2).1=δ,(((((abx _ _).2).2).2).2).1=ε,((((((abx _ _).2).2).2).2).2).1=ζ,(((((((abx _ _).2).2).2).2).2).2).1=η,((((((((abx _ _).2).2).2).2).2).2).2).1=θ,((((((((abx _ _).2).2).2).2).2).2).2).2=ι
def zqI10 α β γ δ ε ζ η θ ι κ:=by refine@QL _ _ _ _ _ _ _ _ _ _ _ _ ?_;generalize(aaz _ _).1=α,((aaz _ _).2).1=β,(((aaz _ _).2).2).1=γ,((((aaz _ _).2).2).2).1=δ,(((((aaz _ _).2).2).2).2).1=ε,((((((aaz _ _).2).2).2).2).2).1=ζ,(((((((aaz _ _).2).2).2).2).2).2).1=η,((((((((aaz _ _).2).2).2).2).2).2).2).1=θ,(((((((((aaz _ _).2).2).2).2).2).2).2).2).1=ι,(((((((((aaz _ _).2).2).2).2).2).2).2).2).2=κ
def zqI11 α β γ δ ε ζ η θ ι κ μ:=by refine@QM _ _ _ _ _ _ _ _ _ _ _ _ _ ?_;generalize(mv _ _).1=α,((mv _ _).2).1=β,(((mv _ _).2).2).1=γ,((((mv _ _).2).2).2).1=δ,(((((mv _ _).2).2).2).2).1=ε,((((((mv _ _).2).2).2).2).2).1=ζ,(((((((mv _ _).2).2).2).2).2).2).1=η,((((((((mv _ _).2).2).2).2).2).2).2).1=θ,(((((((((mv _ _).2).2).2).2).2).2).2).2).1=ι,((((((((((mv _ _).2).2).2).2).2).2).2).2).2).1=κ,((((((((((mv _ _).2).2).2).2).2).2).2).2).2).2=μ
def zqI12 α β γ δ ε ζ η θ ι κ μ ν:=by refine@QN _ _ _ _ _ _ _ _ _ _ _ _ _ _ ?_;generalize(lD _ _).1=α,((lD _ _).2).1=β,(((lD _ _).2).2).1=γ,((((lD _ _).2).2).2).1=δ,(((((lD _ _).2).2).2).2).1=ε,((((((lD _ _).2).2).2).2).2).1=ζ,(((((((lD _ _).2).2).2).2).2).2).1=η,((((((((lD _ _).2).2).2).2).2).2).2).1=θ,(((((((((lD _ _).2).2).2).2).2).2).2).2).1=ι,((((((((((lD _ _).2).2).2).2).2).2).2).2).2).1=κ,(((((((((((lD _ _).2).2).2).2).2).2).2).2).2).2).1=μ,(((((((((((lD _ _).2).2).2).2).2).2).2).2).2).2).2=ν
def zqI13 α β γ δ ε ζ η θ ι κ μ ν ξ:=by refine@QO _ _ _ _ _ _ _ _ _ _ _ _ _ _ _ ?_;generalize(kY _ _).1=α,((kY _ _).2).1=β,(((kY _ _).2).2).1=γ,((((kY _ _).2).2).2).1=δ,(((((kY _ _).2).2).2).2).1=ε,((((((kY _ _).2).2).2).2).2).1=ζ,(((((((kY _ _).2).2).2).2).2).2).1=η,((((((((kY _ _).2).2).2).2).2).2).2).1=θ,(((((((((kY _ _).2).2).2).2).2).2).2).2).1=ι,((((((((((kY _ _).2).2).2).2).2).2).2).2).2).1=κ,(((((((((((kY _ _).2).2).2).2).2).2).2).2).2).2).1=μ,((((((((((((kY _ _).2).2).2).2).2).2).2).2).2).2).2).1=ν,((((((((((((kY _ _).2).2).2).2).2).2).2).2).2).2).2).2=ξ
def zqI14 α β γ δ ε ζ η θ ι κ μ ν ξ ο:=by refine@QP _ _ _ _ _ _ _ _ _ _ _ _ _ _ _ _ ?_;generalize(kj _ _).1=α,((kj _ _).2).1=β,(((kj _ _).2).2).1=γ,((((kj _ _).2).2).2).1=δ,(((((kj _ _).2).2).2).2).1=ε,((((((kj _ _).2).2).2).2).2).1=ζ,(((((((kj _ _).2).2).2).2).2).2).1=η,((((((((kj _ _).2).2).2).2).2).2).2).1=θ,(((((((((kj _ _).2).2).2).2).2).2).2).2).1=ι,((((((((((kj _ _).2).2).2).2).2).2).2).2).2).1=κ,(((((((((((kj _ _).2).2).2).2).2).2).2).2).2).2).1=μ,((((((((((((kj _ _).2).2).2).2).2).2).2).2).2).2).2).1=ν,(((((((((((((kj _ _).2).2).2).2).2).2).2).2).2).2).2).2).1=ξ,(((((((((((((kj _ _).2).2).2).2).2).2).2).2).2).2).2).2).2=ο
def mW α:=by exact α
def mX α:=by refine α
def mY α:=by intro α
def mZ α:=by clear α
def nW α:=(α).2.2
def m3 α β:=by refine α β ?_
def m1 α β:=by refine(?_:α→_) β
def m2 α:=by refine(?_:_→_) α
def nM α β γ:=α _ _ β γ
def qk α:=nW (nW α)
def n7 α β:=nM α _ β
def oU α:=.aw α
def nc α:=(α:R)
def m4 α:=by exact α
def ni α:=n7 α _
def oV α β:=(α,.D β)
def n9 α β γ:=α[β]?=c γ
def tx α:=c (.D α)
def nB:=h+1
def nj α:=(α).2.1
def m5:=by intro aa
def rQ α:=α I L Z x4
def aWq α β:=α β (by kernel_rfl)
def nn α:=c (.m α)
def nE α:=.ay α
def m6 α:=by refine(?_:α)
def nX α β γ:=α[β]?=c γ
def nT:=aA h
def zX α:=by(with_reducible show α)
def qP α:=.aO α
def m7 α:=α _ _
def nA α:=.s α .C
def nr:=.m 0
def nm:=S+1
def m8:=by rotate_right 1
def m9:=by rotate_left 1
def nd α β:=(α ..).ah (aWq Af β)
def nI α β γ δ ε:=α (β:=γ) (δ:=ε)
def nh:=(n).2
def m_:=oU []
def nw:=by decide
def na:=.bU
def qI α β:=.bS α β
def ng:=by clear J
def nz:=Aj e
def nf α:=by rw[zX (by rw[m3 Ak α])]
def ri α:=by rw[m3 α J]
def qQ α β:=a6.H α β
def nv α β:=α _ _ β
def nb α β:=by rw[α,mW β]
def zY α:=aA (h+α)
def rC α β:=r (α×β)
def p_ α β:=α E h β
def zZ α:=α I L Z
def nk:=(n).1
def og α:=.bi α
def pe α:=.m α
def nQ:=.D 12
def oh α:=.bm α
def nU:=Ao ..
def nN:=ai+1
def oD α β:=α=c (β,a.F)
def o0 α β:=α O cf β l w
def nt α:=by refine aQ.az α ?_ ?_
def oj α:=(nW α).1
def oy:=Ar ..
def nu:=by clear av
def nq:=r u
def pB:=qk f
def nP α:=.bI α
def nx:=oU _
def op α β:=n9 α q β
def ny α β γ δ:=aU T α β γ δ
def oN α:=α q W
def nO α:=fun P=>α
def pv α β γ δ ε:=by refine α β fun γ δ ε=>?_
def pn:=.A 0
def nD α β γ δ:=by refine Ac α fun β γ δ=>?_
def u_ α:=.bM α
def nG:=.m 1
def qs α:=.un α
def oO:=c aM
def nH α β γ:=by by_cases α:β=γ
def oF:=.m v
def nJ:=c _
def t3:=cT E U am H
def nC:=r ar
def ou α:=nj (nW α)
def nY α β:=by refine aQ.az α ?_ ?_<;>clear β
def nF α:=fun j=>α
def pw α β:=by rw[m3 α (β ag)]
def o1:=(k,v)
def qR:=26+a.ds.z
def pU α β:=α O cf β l w
def ob α:=nc (α:u)
def nK α β:=if α then β else B
def pp α:=.bT α
def pV:=.m k
def nZ:=tx 1
def nV:=by rw[ri Ai]
def oc α:=by rintro α e
def nL:=r aR
def sn α β γ:=α+(qQ β γ)
def yL:=cD (by kernel_rfl!)
def n0:=aA nB
def n8:=by rintro e
def pC:=c a1
def pf α β γ δ:=.cl α β γ δ
def nR:=by intro b
def aRQ α β:=by rcases J with(⟨α,β⟩)
def n1:=r R
def nS:=.bE []
def n5 α:=.aO α
def ty α β:=c1 a α β
def pO α β:=nX α q β
def aOc α β γ δ:=bc T bo (h+α) β γ δ
def p' α:=fun ψ=>α
def t4 α β:=α→β→Prop
def pD α:=by obtain e:=α
def wk α:=.D α
def r_ α β:=.aT (.A α) β
def on α β γ:=.aX .α β γ
def tz α β:=a6.H α β
def oi:=by rw[m3 Ay av]
def o2 α β γ:=Ae α (Ae β γ)
def yM α β:=by with_reducible exact α β
def aRR:=[aM,a1]
def ol α:=fun d=>α
def n2:=by clear l
def qa α β:=p (α β)
def pW α:=p_ dp α
def w4 α:=α g=c p
def wl α β:=t3 α β w
def ov α β γ δ:=if α=β then γ else δ
def n3:=.D q
def ow α β γ:=(α).au fun β=>γ
def rD α β:=α al aD β
def n4 α β γ:=by refine Al α fun β γ=>?_
def wm α β γ:=α (k:={k with aK:=β,ce:=γ})
def oo α β γ δ:=match α with|β=>γ|_=>δ
def oA:=by clear d
def oG α β:=∀j∈α,β
def n6:=.bE _
def rE α β γ:=aOc α β γ a.F
def so α β:=by rw[m3 Ac (α β)]
def vG α:=(α,nr)
def oH:=qk b
def o5 α β:=α=c (β,a4)
def rR α β:=α j=c β
def qS α:=⟨α,e⟩
def oP α β:={a with α:=β}
def n_:=by omega
def n':=.m q
def oa α β γ δ ε:=α β (γ+1) δ (ε+1)
def od:=(b).1
def oe:=by rintro b
def q8 α:=.dx α
def rt α:=.bF α
def ql α β:=Ad _ α β
def o_ α β:=by rw[m3 α (β bG)]
def sp α:=.bM (dq α)
def u' α β:=.bm (α β)
def pa α:=α j J
def z0:=o0 aU d
def w5 α:=fun n=>α
def oS α β γ δ ε:=by induction α using r.ae with|C=>show β|s γ δ=>show ε
def oI:=(t).2
def om:=by clear b
def pg:=qP G
def rS α:=α[q]?
def oJ:=ni t
def sM α β:=(α,.m β)
def oT:=by subst d
def s6 α:=.bu α
def oq α β:=by exact nd α β
def px:=tx 12
def oQ α:=α (by decide)
def rT α:=qI α _
def ot α β γ:=by refine Ai α fun β γ=>?_
def q9 α β:=b_ K mp aE α β
def ox:=(t).1
def vH α β:=α→ap β
def oW:=.D 1
def oX:=qP Y
def z2 α:=(a.b9 α).F
def sq α:=α g p d
def qb α β γ δ ε:=by induction α with|C=>show β|s γ δ ih=>show ε
def ph:=.A 2
def uE α β:=.aw (α β)
def oz α β γ δ:=by rw[pv Ac α β γ δ]
def qt α:=qk (oN α)
def s7 α:=u.e8 α
def w6 α:=c (pe α)
def oB:=r a9
def rj:=oU i
def qT α:=by exact N.cs α
def oC α:=pU aU α
def sN α β:=α aN M β aC
def oE α:=fun b=>α
def yN α:=fun ag=>α
def t5 α β γ δ:=Am α (β+1) γ δ
def pP α:=by rw[aRQ α a4]
def sO α:=.be pn α
def sr α β γ:=show α=β from γ
def oK:=by clear ag
def sP α β γ:=AK a α β γ
def oL:=rQ bk
def oM α β:=α β _ _ _
def wn α:=ni α _ b
def ă α:=[nQ,pV,α]
def xV α:=α I L Z x4 x5
def qm α:=by show α;omega
def oR:=zY 5
def rU:=n+1
def t6 α β:=α a.ak β
def oY:=rQ bt
def ru α:=α a aS
def oZ α:=α d o=G
def wo:=fP E.b' E.V
def pE α β γ:=eC α β γ
def pF α:=cN a α
def o3:=by rintro ct av
def o4:=ap (u×N)
def qU:=[v]
def o6 α:=by rw[α]at aa
def o7 α:=by simpa using α
def o8 α:=by rw[m3 Al α]
def pQ α β:=α (β b)
def pX α β:=(α β).ah
def o9:=nE i
def yO α β:=eH a.ak α β
def vI:=gC n t
def pb:=c a2
def pY:=o+1
def pZ:=nn v
def pc:=zY 3
def pd α:=by rw[yM Aq α]
def pi:=by subst I
def pj α β γ δ ε ζ η:=nI α β γ δ ε (ζ:=η)
def wp:=a.bs+1
def pk α β:=cr α β
def va α:=h+8*α
def pl:=ap ar
def uF α β:=α _ _ _ _ β
def s8 α β γ:=.bp α (.s (.A β) (nA γ))
def pq:=by subst b
def pr α:=by rw[α]at b
def rV α:=[o,α]
def qc:=.A 1
def ps:=nE []
def q_ α β:=nX a.ak α β
def ś α β:=bc T bo nB α β a.F
def ss α:=α ?_ ?_ ?_ ?_ ?_ ?_ ?_ ?_
def qu:=by simp only[N.c3]at ag
def pu:=rC (u×u) N
def qv:=c y
def qw:=.m o
def qx:=.A 3
def pz:=qk pB
def pA:=gV E h aI U am
def qy α β:=⟨(t α).1,β⟩
def qJ α β γ:=α (show β from γ)
def wq:=.D 25
def qn α:=ni (ni α)
def rv α:=qI α []
def vJ:=eV g
def pG α β γ δ:=oD (rE α β γ) δ
def t7 α:=t4 α en
def qV:=wk qR
def pH α β γ:=.s α (.s β (nA γ))
def pI α β γ δ:=by induction α:β using N.ae with|G=>show γ|Y=>show δ
def q':=.mk
def ra:=by simp
def pJ:=rQ bO
def pK α:=aWq AZ α
def qW α:=aWq A0 α
def pL α:=yN (α ag)
def pM:=ă oF
def pN:=a.Ap≤a.ca.z
def rb α:=fun a=>α
def vK α:=⟨p,α⟩
def sQ α:=by injection α
def pR:=a8+1
def xW:=.D 24
def rc α:=by refine(α).ah ?_
def pS:=fun ψ ψ=>e
def pT α:=α x5 cp cZ d' ez
def wr α:=i.z≤α
def p0:=by intro d
def p1:=by clear t
def p2 α:=by injection α with I
def p3 α:=.hl α
def p4 α:=by rw[m3 Ac α]
def p5 α β:=nM α β _
def p6:=.A 4
def t8 α β:=α β (by decide)
def p7 α β:=n9 α aq β
def rk α β γ:=.dM .α β γ
def p8 α:=dp E h α
def p9:=hT E
def qd α β:=⟨α,β⟩
def sR α:=⟨α,b⟩
def qe α:=α≠[]
def w7:=.D 23
def qf α β:=α=c (β,z'.F)
def s9 α β:=(a.Ah α).β
def qg:=m4 yL
def qh α β:=nX a.F α β
def sb α β γ:=α _ _ β γ
def qi:=j::xs
def qj α β:=b_ K mp aE α d=G→β
def qo α:=⟨_,α⟩
def rl α:=by rw[α]at a5
def rm α β:=α=c (.m β)
def qp α β γ:=(α β γ).z
def su α:=qQ α S
def tA α β γ:=(a.Ah α).β γ
def Ŝ α β:=db k.aK X α β
def qq α:=wm α Q t1
def ŝ α:=cS (α aR.v)
def qr:=n9 a.ak k f
def Ą:=by simpa using aa
def qz:=by exact yL
def vb α:=oU [α]
def qA:=qP g
def rF α β γ δ ε:=α→β→γ→δ→ε→Prop
def qB:=pW f
def aOd α:=α E U am dC bf ei aL mp
def qC α:=fun l a i f M b=>α
def sv:=by intro aN M bG aC cz av t
def qD:=by subst L
def qE:=by clear aJ
def tB α:=a6.H _ α
def sc:=tx 0
def qF α:=Ax T nT α aRR w e e
def t9 α β γ:=bc T bo nB α aRR w=cW (b4 T nT β γ w)
def sd α:=(cN a α).An
def qG:=dI a M O
def qH:=sM "mode" 4
def qK:=(b).2
def qL α:=.ay α
def sw:=.A 6
def qM α β γ:=oD (ś α β) γ
def se:=qs cj
def qN:=pp e
def vc α:=tz α nm
def qO α β γ δ ε:=by induction α using ar.ae with|β γ=>show δ|_=>show ε
def s_:=rS w
def sx:=bv.fz dr
def yP α:=c (nE α)
def uG α:=.bM α
def qX:=rQ cb
def qY:=a7.dh-1
def qZ α β:=by rw[α,β];rfl
def q0:=zZ bk
def q1:=oh i
def uH:=u_ i
def q2 α β:=α (s7 β)
def q3:=wl k.aK X
def q4:=rC u u
def yQ α:=fun dO=>u.i8 _ α
def q5 α:=d3 wo aI α aW bb k
def q6:=fun P P P b=>Av b
def w8 α β:=α a al aD β
def q7 α β:=by rw[m2 α,m5,mW β]
def tC α:=by refine α ?_
def vL:=by subst a5
def rd:=by rintro t
def sy α β:=eL α β
def re:=p gr
def sS:=tx a.ad
def tD α:=a.F++[α]
def rf α β γ δ:=by refine AC α fun β γ δ=>?_
def rg α β:=sn α β S
def rh α β γ:=show α=β by exact γ
def z3:=nc f+2
def ta:=fun p=>ap.bP p _
def ws α β γ:=sN α β cz ct γ
def rn:=.m 2
def wt α β:=.ay (α β)
def tE:=nn o
def ro α β:=sn α β ai
def sT:=by exact N.cs b
def tb:=by exact Aq b
def rp:=p' e
def rq α:=r_ α nr
def rr α:=(z0).bP fun n=>α
def vM α:=rt (rt α)
def wu:=I.ah L
def rs α β γ:=by induction α using N.ae with|G=>show β|Y=>show γ
def wv:=(k,v)::ks
def rx:=.jc
def tF:=by subst l
def t_ α β:=if α then β else 0
def ry α β:=∀d∈α,β
def rz α:=(α).cq
def rA α:=by simp[α]
def t' α β:=(α β).az
def rB:=nj b
def w9:=26+aj
def uI α:=(a.As α).F
def ą α β γ:=p (sP α β γ)
def Ć α:=uE α aR.aY
def ua α β:=c (α,l,β)
def ć α:=bn→bB→α
def tc α β:=∀g p,w4 α→β
def aRS:=e5 "p" n++e5 "q" t
def rG α:=α<1000
def vd α:=g≠α
def ub:=[o]
def tG:=r.kk ..
def uJ:=by rfl
def rH α β:=(α β).z
def ve:=tx 11
def rI:=rQ cP
def rJ α:=α (by omega)
def rK:=qP y
def rL:=zZ bt
def rM:=bk I L
def rN α:=qa AH α
def rO:=s6 y
def uK:=nc l-1
def w_ α β:=gz T a.F α β
def z4 α:=α nh nk
def rP α β γ:=by rw[pD (sr α β γ)]
def rW α β γ:=α ⟨β,γ⟩
def rX:=(ag).1
def aTY:=(r.fq).1
def yR:=by clear a5
def rY:=.D f
def rZ α β:=.aT α β
def z5 α:=.bI α
def r0:=p aV
def z6:=a.ds.z+2
def yS α:={k with aK:=α,ce:=tk}
def r1:=u_ _
def r2:=qs i
def r3 α:=Ax T nT α [aM,a1,a2] w e e
def r4 α β γ:=bc T bo nB α [aM,a1,a2] w=cW (b4 T nT β γ w)
def r5 α:=by rw[pw AD α]
def uc:=.bY a.dK.z
def r6:=n9 a.ak v g
def r7:=u' cL.au .m
def r8:=vH af.bH ck
def r9:=by rintro _ _ _ e ag
def sf α:=α→u
def w' α:=by(with_reducible exact α)
def sg α β:=by simp only[α,β];rfl
def sh α:=by rw[α];rfl
def si:=nP f
def sj:=u_ []
def sk α β:=α _ β _ _
def sl α β:=c1 a α β
def sm:=fj a.ak [] a'
def uL α β γ δ:=by induction α using u.ae with|hf=>show β|gk γ=>show δ
def sz:=(j).1
def sA:=by subst t
def sB α β:=by simp only[α,β]at b
def Ĉ α β:=by induction α using u.ae<;>exact β
def ĉ α β:=by induction α using β<;>rfl
def sC:=p jb
def ww α β:=(α β).cq
def wx:=tx 23
def sD α β γ δ:=α→β→γ→δ→E
def vf:=f+2
def sE:=by rw[ri Ac]
def sF α:=nv α _
def yT:=ku a
def sG α β:=.ci α β
def sH α:=α f g
def sI:=vG "deep"
def sJ α β:=p (Bn α β)
def aTZ:=c_.aw []
def sK:=by(rw[oc v])
def aWx α:=nE [wq,xW,α,bV.aY]
def vg α:=(aU d l w).bP fun n=>α
def yU α:=n9 a.ds α a0
def Ş α β:=α x≤β x
def xX:=by intro aW bb
def sL:=oV "host" 11
def Ċ α:=(nW α).2
def sU α:=q≠α
def sV:=Bg ..
def sW α:=.c9 α
def sX:=zZ bO
def sY:=bt I L
def sZ α β γ:=p (α (β γ))
def aRT α:=ap (α×ch)
def ċ α:=(a.Ah α).F
def aT0 α:=(a.b9 α).F
def s2:=wl b X
def xa:=⟨cA,v,[]⟩
def s3 α β γ δ ε ζ:=by refine At α fun β γ δ ε ζ=>?_
def wy α:=by rw[m2 α,m5,Ą]
def vN α:=ni AQ b (w5 α)
def s4:=by rintro j J e
def s5 α:=α x5 cp cZ
def td α:=α≤ac
def te α:=fun i=>α
def tf:=by rw[aa]
def tg α β:=by rw[α,β]
def th:=.m f
def xb:=tx 24
def ti:=ac-1
def tj α:=nv α d
def tl α:=by rw[so α av]
def tm α β γ δ:=by induction α using ap.ae with|B=>show β|c γ=>show δ
def tn α:=w.b6 q α
def z7 α:=o2 nz α oy
def xY α:=α (cN a)
def tp α:=by rw[m9,mY J];show α;rw[ng]
def tq:=_::_
def xZ α β:=AW (Ae α β)
def tr:=by intro j J
def ts α β:=.bC α β .C
def tu α:=wn Bk (w5 α)
def tv:=ty k a7
def tw:=qI 4 [oV "rows" 19]
def tH:=(bh).2
def yV α β γ:=∀(α:u)(β),γ
def tI α β:=a.F.b6 α β
def tJ:=.D 11
def ş α β:=α (ap.c.dB β)
def tK:=r bv
def tL α β γ:=by rw[α,β,mW γ]
def tM:=nc 0
def x0 α:=p_ α d
def tN α:=b.bg α=c p
def tO:=oj b
def x1:=cz.bx I
def tP:=t.to d
def tQ α:=by rw[aRQ α dm]
def x2 α:=r_ 1 α
def x3 α β:=α aN M β bQ
def x6 α:=tz α nN
def tR:=by rw[m3 At l]
def aRU:=.aw aRS
def tS:=S+nN
def tT:=(t dN).2
def xc:=vK d
def tU:=wr du
def tV α β γ δ ε ζ:=by intro α;induction β with|C=>show γ|s δ ε ih=>show ζ
def tW:=fp e e e
def tX α:=s8 68 0 α
def z8:=rD a.e' G
def xd:=aWx w7
def tY α:=(kp α).aY
def tZ α:=fun d he=>α
def t2 α:=BK a α nw nw
def ud α:=α≤6
def ue α:=fun t=>α
def uf:=by subst a
def aPP:=by injection b
def ug:=by injections a
def uh:=by congr 1
def ui α β:=α a.F β
def aWr α β:=α (af.bH.dF β)
def uj:=.A 7
def uk:=r jF
def um α:=qk (qt α)
def uo:=p fo
def uq α β:=by rw[←α,mW β]
def x7:=.bE i
def ur:=og k
def us:=pe (-1)
def ut α β γ:=d=α∧o β γ=G
def uu α:=ty α k
def uv α:=by rw[so aTY α]
def uw α:=o5 z0 α
def ux:=t7 ck
def uy α β γ:=by refine Al α fun β γ=>?_
def uz:=AL a O o1
def uA:=.mr _
def uB:=AX nz nU e
def uC α:=α I L Z x4 x5 cp
def uD:=fun ψ ψ ψ=>e
def uM:=by subst aa
def uN:=.m 3
def Č α:=r.lH _ α
def uO:=p jk
def uP:=p cV
def uQ:=nc o
def uR:=rQ d7
def uS α:=by rw[zX (by rw[m3 gf.of α])]
def uT α:=by rw[zX (by rw[m3 BL α])]
def uU α:=cr _ α
def yW:=by rw[nf a5]
def uV:=zZ cb
def uW:=og _
def uX:=bO I L
def uY:=bk I
def uZ α:=rR aL.hr.cm α
def u0:=qS _
def u1:=z2 wp
def u2 α:=.m α v
def u3:=aOd jJ
def aOe α:=.bm (ŝ α)
def aPQ α β γ:=Ba _ α β _ _ _ (γ a) e e
def u4:=el a7 st
def u5:=hn a k di n t
def u6:=.s d Aa
def aWu:=2+a.ds.z
def u7 α:=α e e e e
def u8 α β:=by obtain⟨α,_⟩:=(r.gF).1 β
def u9 α β γ:=by induction α using N.ae with|Y=>show β|G=>show γ
def aWv:=bc E.O E.hU h
def vh:=.aP
def vi α β:=by refine⟨α,β⟩
def vj α β:=by injections a α β
def vk:=b5+1
def vl α:=.m (ob α)
def č α:=c (og α)
def vm:=r ck
def vn:=nc f
def vo:=bv.fz _
def vp:=c0 e
def z9 α:=α++[aTZ]
def vq:=qP _
def vr:=ou b
def vt:=fm o
def z_ α:=.bY α bh
def vu:=oV "rows" 2
def Ď α:=α a h k v
def vv α:=qb i (by rfl) f i (by show α)
def vw:=kJ k v f g
def vx α:=Ae α oy
def vy:=iK a d
def vz α β γ:=by induction α:β using ap.ae with|B=>rfl|c p=>show γ
def vA:=bn→bB→bR→cn→Prop
def vB:=aaR al
def vC:=oV "rules" 13
def À α β:=hH α β i bq
def vD α β γ:=m4 (yQ (Am α 1 0 16 S S β e γ (Az dO)))
def vE:=.D n t
def vF α:=.cl α vI mp cY
def Š α:=a.ak.z<α
def vO:=by rw[r.hN]
def vP:=Bl ..
def vQ:=by subst aJ
def vR:=a.c2+1
def vS:=a.ad+1
def vT:=.D _
def vU α:=Ad _ α
def vV:=B1 _
def vW α:=qI 3 α
def vX:=by rw[ri At]
def vY:=zY 2
def aPR:=aaf g
def vZ:=bt I
def v0 α:=Ax T nT α [aM] w e e
def v1:=w4 b.bg
def v2 α:=u' cS α
def v3 α:=d3 ag aI α aW bb k
def v4:=.bY n
def v5 α:=(cN a α).dh
def v6:=(t n).2
def š α β:=α j (pa β)
def v7 α:=va a7.An+α
def aPS:=W.au aR.aY
def Ţ α:=α g p a d
def v8:=by intro _ f
def ď α β:=ą α _ β
def v9:=Ć W.au
def v_:=ć (bR→Prop)
def v':=(f,y)::l
def Đ:=B2 fun P P P P P=>e
def wa:=a.Ah ao
def wb:=aT0 n
def wc α β:=fun P P α=>β
def wd:=op X.bN n
def we α:=fun g p d=>α
def aOf α:=fun ab b0=>α
def wf α:=wm α h2 d2
def wg:=oV "index" 3
def wh:=oV "assumed" 14
def wi:=yO n mp
def wj α:=∃I L Z x4,α
def wz α:=⟨e,α⟩
def wA:=.dy
def wB α β γ:=if α=G then β else γ
def wC:=by rintro a
def wD α β:=∀{i}{α},β
def wE α:=by induction α using N.ae
def wF:=c a3
def wG α β:=α→β→N
def wH α:=by rw[m3 Ai α]
def wI:=h+4
def wJ:=nn cA
def wK:=S+2
def wL:=zY 4
def wM:=oh []
def ţ:=oh .C
def aPT α β:=.bp α (nA β)
def wN:=j::i
def wO α:=by rw[yM BD α]
def wP:=by rintro gx av
def wQ:=S+3
def wR α:=mf E h α
def wS α β:=eH ao α β
def wT:=by rw[qT d]
def wU:=rC af.bH u
def wV:=vb .B
def wW α:=fun P P=>α
def wX α β γ:=t5 (rV α) ai β γ
def wY α:=hS cf α
def wZ α:=α ab b0
def w0:=aRT ar
def w1:=w8 hi b3 bV W o
def w2:=oV "known" 15
def w3 α β:=α T β _ _
def xe α:=16≤α
def xf α:=α≤al.z
def xg:=by subst dg
def aT1:=nomatch ba
def xh:=by unfold du
def xi α:=by simp only[α]at b
def xj:=c k.aY
def xk:=aq+1
def xl:=.m _
def xm:=c vJ
def xn α β:=u.eI α β
def aRV α:=by exact ej e α
def xo:=p dt
def xp:=nc 1
def aWw α:=oV "trail" α
def xq:=rQ ff
def xr α:=qQ α ai
def xt:=zZ cP
def xu:=j.aj x
def xv:=cb I L
def xw:=bO I
def xx:=by rw[m3 AU av]
def xy α:=Ax T nT α [aM,a1,a2,a3] w e e
def xz α β γ:=bc T bo nB α [aM,a1,a2,a3] w=cW (b4 T nT β γ w)
def xA α:=α d he
def xB:=fy n t
def xC:=rT 3
def xD:=rT 4
def xE:=bW.bx L
def aT2:=E.ij ac
def xF α β γ:=by have α:=β a.F γ
def xG:=by rw[sQ b]
def xH:=z4 iH
def xI:=x.acC 0
def xJ:=t6 io a'
def xK α:=aWr α h
def xL α β:=∃p,α β=c p
def xM α β:=.eB (.s α (nA β))
def xN:=ma aL aE
def xO:=oV "decls" 4
def xP:=ty v st
def xQ:=t4 bn bB
def xR:=yO t cY
def xS:=ii 2 a.ds
def xT α β:=α E.O aWv β l w
def xU α:=∃I L Z,α
def aT3:=jM aWu cA "C" (-1) []
def aPU:=W (f).1 (nj f) (oj f) (ou f)
def x8 α:=u.acL α
def x9 α:=fun ab=>α
def x_:=(oH).1
def x':=(ag).2
def ya:=by rintro J
def yb α β:=by injections h α β
def yc:=by injection d
def yd α:=by induction α using aR.ae
def aT4 α:=by cases α<;>rfl
def ye:=.m n
def yf:=by exact b.az
def yg α β:=by simp only[α];exact β
def yh α β:=by rw[m6 α,mW β]
def yi α β:=α id=c β
def yj:=rQ o
def yk:=u.kH _
def yl:=nE .C
def ym:=vG "looks"
def aRW:=sp qU
def yn:=aA ac
def yo α:=qm (by rw[α])
def yp:=.bF e
def yq:=pO w rj
def yr α β γ δ ε:=by refine Bq α fun β γ δ ε=>?_
def ys:=vc 20
def yt:=rC ar ar
def yu α β:=aH.F (oP α β)
def yv:=z5 z6
def yw α β γ:=α β ai γ ai
def yx:=(fC n).2
def yy:=fR a z'
def yz:=ql e b
def yA:=O++[o1]
def aRX:=rD bz.e' Y
def yB:=d4 b X i vs
def yC:=hS cf d
def yD:=by rintro _ e ag
def yE α:=[oO,pC,α]
def yF α:=ws sa α (fun co Q t1 cX I bQ bW=>?_)
def yG:=oV 2 20
def yH:=oV "road" 17
def yI:=iE d j
def yJ α β:=aby K mp aE α k=G→β
def yK:=(s9 gO As aRU).F
def yX α:=N.cs α
def aT5:=(N.fY).1
def yY α:=⟨α,[]⟩
def yZ:=.local
def y0 α:=("telling",α)
def y1 α:=by refine⟨α,?_⟩
def y2:=by rintro d
def y3 α:=by rw[aJ]at α
def y4 α:=by rw[α]at aV
def y5:=by simp[Bj]
def y6:=by rw[←ad5]
def y7 α β:=by by_cases α:q<β
def y8 α β γ:=by induction α using β<;>first|rfl|show γ
def y9 α β:=by simp[α,β]
def y_:=.m g
def y' α β:=u.ab5 α β
def za:=.A 5
def zb:=p bj
def zc:=oU aaH
def zd α β:=n9 α o β
def ze α β:=by rw[m3 At (α β)]
def zf:=nn k
def zg:=26+S
def zh α β:=(AW α).ah β
def zi α β:=ie a.ak α β
def zj α β:=pp ⟨α,β⟩
def zk:=wk w9
def zl α:=c (α,p)
def zm:=qS e
def zn α:=ql α e
def zo α:=by refine dH (α ?_)
def zp:=nc g+2
def zq:=z2 rU
def zr:=nm+ai
def zt α:=uF (ni BO) α
def zu α:=aW α (yS h')
def zv:=O++wv
def zw α:=.g3 _ α
def aT6 α:=gb am α h' X cv
def zx:=b8.aex _ e
def zy α:=aag a al α
def zz α:=wt cS α
def zA α:=pf α 0 2047 2047
def zB α:=pf α 511 2047 2047
def zC:=b5+d5
def zD:=(fy n t).dD
def zE:=i.z<du
def zF α:=by refine AA (wn g) fun α z1 ip a1 b t=>?_
def zG:=d∈W
def zH α:=fun l w=>α
def zI:=a6.H _ nm
def zJ α β:=aak α fun q=>β
def zK:=kb ao i bq
def zL α:=AO (n7 (ni Ce) α e e (cD (by kernel_rfl)))
def zM:=oV "bounds" 5
def zN α:=gN (bn×α)
def zO:=(a9.D n t).aY
def zP α β:=t9 α β [oO,pC]
def zQ α β γ δ ε ζ:=have(sR x):=Bp b;α (fW:=ol (∀x:d.eP=β,γ (fW:=nO N) d x δ=G→ε)) d x ζ x b
def zR:=by rw[ĉ l a9.ae]
def zS α:=by rw[yR,mY a5,vL,mW α]
def zT:=hm q l g
def zU:=by rw[Ĉ h (N.cs o)]
def zV:=adI E aI k bb
def zW:=k6 16 0 0 ""
def Á α:=α≤du
def Â:=(r.hp).1
def Ã α:=α≠am
def Ä α:=α[aq]?
def Å α:=by unfold α at b
def Æ:=by rw[aPP]
def Ç:=.m aP
def È:=.m 4
def É:=.m 9
def Ê α β:=α (aQ.bF β)
def Ë:=g.iF=G
def Ì:=r cg
def Í:=p BH
def Î:=aQ.bT b
def Ï:=af.bH.dF h
def Ð α β:=α a β aS
def Ñ α:=α+(tB S)
def Ò α β:=.bI (α β)
def Ó:=aZ br
def Ô α β:=α (by simpa using β)
def Õ α:=α++[l]
def aT7:=26+z1.ds.z
def Ö:=by rw[ri AC]
def Ø α β:=p (α▸β)
def Ù:=by rw[m3 Bt l]
def Ú:=a.gU=[]
def Û:=a.Ap=0
def Ü α:=vH α cg
def Ý:=sq ne
def Þ α β γ δ ε:=α β (nj γ) (oj δ) (Ċ ε)
def ß:=w6 (-1)
def à:=sO "decls"
def á α:=.m (adR α)
def â α:=(j==α)=Y
def ã:=pO w uH
def ä:=by rw[a_]at d
def å α β:=q_ α (q8 β)
def æ:=rv 5
def ç α β:=aU T cf α l β
def è:=16≤q
def é α β:=α β (ai+1) S e
def ê:=v≠1
def ë:=k≠1
def ì α:=db b X y α
def í:=jv b n
def î α:=(α).bP _
def ï:=fun P b=>b
def ð:=ċ ao
def ñ α β γ:=by rw[oS i (by show α) β i (by show γ)]
def ò α β γ:=w_ α β=c (.D γ)
def ó α β:=f0 T α β
def ô α β:=db k.aK X α β
def õ:=fE ck
def ö α:=fR a α
def ø α β γ:=.aT α (.aT β γ)
def ù:=by rintro n ba e
def ú α:=by simp only[N.c3,kR]at α
def û:=fj ao [] a'
def ü α β γ δ:=by rw[mW α,mW β,mW γ,mW δ]
def ý:=aaX al b n
def þ α:=@gw.adT _ q fun f=>¬α
def ÿ α β γ:=gw.adP fun h=>gw.adU (n:=fun f:α=>¬β) ⟨γ,h⟩ b
def Ā:=g|||bZ==bZ
def aWs:=j_ z' al W d W.z
def ā:=(_,_)::_
def Ă α:=Cu a α nw nw _
def đ:=bn→Prop
def Ē:=by simp at b
def ē α:=by injections α h
def Ĕ α:=by rw[α]
def ĕ:=by kernel_rfl
def Ė:=.m aq
def ė α:=c (n5 α)
def Ę:=.D 0
def ę:=.A q
def Ě:=p Aw
def ě:=nc aP
def Ĝ:=ni BG
def ĝ:=rQ hh
def Ğ α:=by(with_reducible exact Aq α)
def ğ:=(kw a n i).F
def Ġ:=nn n
def ġ α:=.s α _
def Ģ:=a.Ap-1
def ģ:=aj+2
def Ĥ:=26+a8
def ĥ α:=nv b7.ak α
def Ħ:=zY 6
def ħ:=zZ d7
def Ĩ α β γ δ:=by refine BF α fun β γ δ=>?_
def ĩ:=cP I L
def Ī:=cb I
def aWt α:=hj.fI α _
def ī α β:=.be α β
def Ĭ α β γ:=α (k:={s1 with aK:=β,ce:=γ})
def ĭ:=w4 h'.bg
def Į:=oV "host" _
def į:=oV "rules" _
def İ:=eS i
def ı:=z2 (n+3)
def Ĳ:=sq o
def ĳ:=xV bk
def Ĵ:=xV bt
def ĵ:=dI a M []
def Ķ α:=uF α _
def ķ α:=on eq ph α
def ĸ α:=lO k α
def Ĺ α:=t8 u.mM α
def ĺ α β:=by unfold α;rw[β]
def Ļ:=su 2
def ļ:=0≤q
def Ľ:=AL a [] o1
def ľ:=O++ks
def Ŀ α:=rR aL.h_ .α
def ŀ:=yU aj
def Ł:=aC.lx g t
def ł α:=aF.eX α _ e
def Ń α:=(r.fq).2 α
def ń:=g+200
def Ņ:=by rintro e ag
def ņ:=.gq h
def Ň α:=nX l 0 α
def ň:=.hw .C
def ŉ:=by cases f
def Ŋ:=aWw 16
def ŋ α β:=α E h p β
def Ō α:=α+g+200
def ō:=g6 X.bN g
def Ŏ:=k≠v
def ŏ α:=by rw[m2 (ş α av)]
def Ő:=("twin",.B)
def ő α:=by rw[m6 (sb d3 α _ _ k)]
def Œ:=oV 5 21
def œ:=oV "defaults" 6
def Ŕ:=oV "notes" 18
def ŕ:=by rw[nY b b]
def Ŗ α:=yT→∃di,α
def ŗ α:=b.az fun I b=>b.az fun L b=>b.az fun Z b=>α
def Ř α:=α B B aE nQ
def ř:=!(lX al d j)
def Ś:=aPQ 12 3 BY
def Ť:=(aG).1
def ť:=(j.h).2
def Ŧ α:=show α from e
def ŧ:=CL ..
def Ũ α:=ru α ..
def ũ:=by kernel_rfl!
def Ū α β γ δ:=by simp[α,β,γ,δ]
def ū α β γ δ:=by induction α using ap.ae with|B=>show β|c γ=>show δ
def Ŭ:=.m j
def ŭ:=.m 10
def Ů:=p aav
def ů:=oU V
def Ű:=ih b
def ű α β:=α β (by omega)
def Ų:=aZ l3
def ų:=r.hV _
def Ŵ α β γ:=by rw[α,β,γ];rfl
def ŵ α:=(r.i7).1 α
def Ŷ:=aP::i
def ŷ:=p' Y
def Ÿ α:=c (α,w)
def Ź:=oV "assumed" _
def ź:=vG "at"
def Ż α:=l.b6 q α
def ż:=w6 z3
def Ž:=(N.fY).1 b
def ž α:=b.bg α=B
def ſ:=i.au aR.aY
def aNF α:=by rw[α];simp
def aNG α:=m7 r.abC α
def aNH α:=α ao a'
def aNI:=yP [pe vI,.m (hB (g).1),.m (hB (g).2)]
def aNJ α:=by rw[w' (gL.lh jC α)]
def aNK α:=gG ao α
def aNL α:=aU O cf α l a4
def aNM:=z7 nz
def aNN α:=(α (·.1)).fF
def aNO α:=.kM α n
def aNP:=aOe b.au
def aNQ α:=l.b6 α (c j)
def aNR α:={k with ce:=α}
def aNS α:=oG α (j∈W)
def aNT:=gb am b h' X X
def aNU:=p_ ac3 Aa
def aNV α:=hy a z' α
def aNW α:=aU T cf α l w
def aNX α:=oo s_ (c rj) α B
def aNY α:=ie ao α g
def aNZ α β γ:=t5 [α,β] ai γ nm
def aN0:=qR+aq
def aN1:=by rw[ba]at dg
def aN2 α:=fun{aW}t=>α
def aN3:=o0 h0 Aa
def aN4 α:=i.de fun n=>α
def aN5 α β:=by rw[xX,sv,o_ α β,mZ bG]
def aN6 α:=fun o' a5=>α
def aN7:=Ŝ y cM
def aN8 α:=(b[n]).α
def aN9:=a.fQ=al.au .m
def aOa:=.bC x f g
def aOb α β:=α∧(dE→f∧β)
def aOg:=-1073741824
def aOh:=(j.h).1
def aOi:=(R.ads).2
def aOj α:=⟨o',α⟩
def aOk:=nomatch b
def aOl α β:=by simp only[α,ap.c.fV]at β
def aOm α β:=by induction α using N.ae<;>exact β
def aOn α β γ:=my T a.F α β=c γ
def aOo:=.m d.v
def aOp:=c qV
def aOq α β:=α (aQ.bT β)
def aOr:=aZ jm
def aOs:=aZ jr
def aOt:=aZ ik
def aOu:=aZ adi
def aOv:=(z8).F
def aOw:=u.af4 _
def aOx:=l.je=Y
def aOy α:=α (by assumption)
def aOz α:=rC af.bH α
def aOA:=ap cg
def aOB α β:=aQ.bF (α β)
def aOC α:=(r.gF.mp α).1
def aOD:=ab.aj x
def aOE α:=(N.fY).1 α
def aOF:=by exact hX.az b
def aOG α:=c (α,aPS)
def aOH:=oV "known" _
def aOI:=sp f6
def aOJ α:=dm.b6 q α
def aOK:=sO "rows"
def aOL:=ru C1
def aOM:=nc H-1
def aON:=aeR p
def aOO:=n9 a.ak v l
def aOP:=q9 f j
def aOQ:=q9 f y
def aOR:=tD aT3
def aOS:=uI (sp E)
def aOT:=vd am
def aOU:=.bu pg
def aOV:=(f,g)::l
def aOW α β:=.hq (.A α) β
def aOX α:=rR aE.bw.cm .α
def aOY:=(fy n t).au
def aOZ:=ai+nm
def aO0 α:=α=c (y,bJ)
def aO1 α:=α ab x d
def aO2 α β:=by rw[mY J,nV,ng];rintro α β
def aO3 α:=ad7 al α b
def aO4 α:=¬g6 cI.bN α
def aO5:=(j,aaq)
def aO6 α β:=f0 T α β
def aO7 α:=b5+(α+1)
def aO8 α β:=bc T bo nB α [aM] w=cW (b4 T nT β [oO] w)
def aO9 α β γ:=dP _ n0 (.dU _ α _) _ β=c (na,[nJ,ve,nn 4],γ)
def aPa:=(aaS f).k
def aPb:=p (Bo a.F f)
def aPc α:=CV (q:=α)
def aPd α β:=by by_cases bK:α∈β
def aPe α:=∀g∈α,aPR
def aPf α:=nX w f α
def aPg α:=i' cf d l a i f α
def aWy:=b.cF rU
def aPh:={k with aK:=Q,ce:=t1}
def aPi α:=q' α f g x n i
def aPj:=by rintro y cy e f g
def aPk:=iz cL b h' X cv
def aPl α:=k3 α qR (nn 7) B
def aPm:=∀o,(hA o M).eF=G→(hA o fA).eF=G
def aPn:=by rw[zX (by rw[tC C2])]
def aPo α β:=α→dv→ch→β
def aPp:=j0 b X i e1
def aPq:=jy b X i xs
def aPr:=j1 b h' X cv
def aPs α β γ:=m4 (α β ai γ e (AM 20 aG) kW)
def aPt:=c (eS (aD++[bV,W[0]' abr]))
def aPu:=Ad ([]) ra (fun g⟨n,ba,_⟩=>aT1)
def aPv α:=jI V b X α Aa
def aPw:=by rintro _ _ _ _ e ag
def aPx:=oV "names" 7
def aPy:=oV "tab" 1
def aPz:=hK p=Y
def aPA α:=b.az fun I b=>b.az fun L b=>α
def aPB:=(da dG).2
def aPC α β:=α T cf β l a.F
def aPD:=dI a [] []
def aPE:=Ŝ j aF
def aPF α:=(i[o]).α
def aPG:=lX al k v
def aPH α β γ:=by rw[m3 α (β bQ bW γ)]
def aPI:=by intro _ _ f g
def aPJ:=by obtain⟨a1,a2⟩:=f
def aPK α:=M α a i f
def aPL α:=iq bl α eA et
def aPM α:=fb a ao α (cc+1) cj
def aPN:=(mp|||f4==f4)&&(cY|||f5==f5)
def aPO:=abR jV d_ jH aT2 jL
def aPV:=@r.jB
def aPW α β γ:=by simp only[α,β,ap.eO,γ]
def aPX:=! i.dD
def aPY:=by unfold aH.F
def aPZ α:=by with_reducible exact α
def aP0:=by apply r.aig
def aP1 α β γ:=by obtain⟨α,β,e⟩:=γ
def aP2 α:=by injections a α
def aP3:=c .gh
def aP4 α β:=by simp only[α,β]
def aP5:=.D a.ad
def aP6 α β γ:=α E.K mp aE β γ=G
def aP7:=.A 14
def aP8 α:=by simp;exact α
def aP9:=nc (-1)
def aQa:=nj ag
def aQb:=(tA fB AT xa).F
def aQc:=nn eu
def aQd:=aQ.bT e
def aQe:=a7.jg=Y
def aQf α β γ:=bc T bo α β γ a.F
def aQg:=zY 200
def aQh α:=pe (nc α+2)
def aQi:=pe z3
def aQj:=ap ch
def aQk:=E.eR x
def aQl:=ob (cc+1)
def aQm:=oV "trail" _
def aQn:=sq j.ix
def aQo α β:=d4 k.aK X α β
def aQp:=qW []
def aQq α β:=rb (α (a▸β))
def aQr α:=α (u.kH _)
def aQs α:=va bh.An+α
def aQt α:=U.bg α=B
def aQu α:=!(u.acv q α)
def aQv α:=c (eS α)
def aQw α β:=(aU O cf α l nh).bP fun t=>β
def aQx α β:=(aU α l nh).bP fun t=>β
def aQy:=q9 f p
def aQz α:=afg cf α
def aQA α:=t' r.aaE α
def aQB:=bv.ha a7 st
def aQC:=.bu oX
def aQD α β γ:={a with α:=β,ey:=γ}
def aQE:=ac5 b n
def aQF:=fun j b=>b
def aQG α β γ:=Ag α 1 β (γ+1)
def aQH:=a9→N
def aQI:=[oW,oF]
def aQJ:=by exact Aq aJ
def aQK:=(r.i7).1 J
def aQL α:=ow α y (y,oI)
def aQM α:=a.c2+α<20000
def aQN α β:=by refine AX α β ?_
def aQO α:=α ai (a8+1) S e
def aQP α β γ:=f1 [] .α (.m l.o) β=c γ
def aQQ α β:=by show α;rw[oi,mY J,pP β]
def aQR:=by rw[pD (acz dQ)]
def aQS:=abK a al aD
def aQT:=ua na w
def aQU:=f≤g
def aQV α:=("missing",og α)
def aQW:=c (c_.aw j)
def aQX α:=.g3 _ α
def aQY α β:=(xZ nz α).ah β
def aQZ α:=rk e_ α nG
def aQ0 α:=α (aC.eZ aN)
def aQ1 α:=aU T cf α l w
def aQ2:=fun P P b=>b
def aQ3:=acS t0
def aQ4 α β γ:=.α (sO β) γ
def aQ5:=p_ adK g
def aQ6:=qa Cv f
def aQ7 α β γ:=by rw[o_ α β,mZ bG];show γ;rw[qu]
def aQ8:=k3 bV.aY gJ (nn b) B B B B B B B
def aQ9:=gY+acq
def aRa:=sx-sd n
def aRb α β γ:=α T cf β γ a.F
def aRc:=gG i l
def aRd α:=qJ Aq (B=c _) α
def aRe:=yV q l (op a.ak l→op ao l)
def aRf:=f0 O cf g
def aRg:=iY d p
def aRh α β γ δ:=by rw[nf α,mZ β,mY γ];subst δ
def aRi α β:=α g p d β no
def aRj α:=ki aE fn α
def aRk α β:=by induction α using r.ae with|C=>rw[aRV β]|s=>rfl
def aRl α β γ:=.go α β γ .C
def aRm:=by exact BZ (Ag [] 1 0 16 1 e b)
def aRn:=ww ap.c.dB b
def aRo:=o v j ab
def aRp:=a.fH f g x
def aRq α:=aOf (α ab (Č b0))
def aRr α:=by rw[oA,mY d,oT,mW α]
def aRs:=AP _ d hc ⟨o,hd⟩
def aRt α β:=α β al aD b3
def aRu:=[sc,wx,nn jS,B,B]
def aRv:=hj a z1 M O hY aD
def aRw:=⟨nw,uJ⟩
def aRx:=[px,yP [nr,.m O.z]]
def aRy:=a.b9 wp
def aRz α β:=α a aj a0 β
def aRA:=fun h ψ=>aT4 h
def aRB α:=by rw[rc (cr ta α)]
def aRC:=Ş j.aj ab.aj
def aRD α:=xY (α aR.v).au
def aRE α:=[oO,pC,α,B]
def aRF α β:=by rw[nY α β,n8,m9,n8,m8]
def aRG α:=l7 a vJ (w6 (t_ cE 1)) α fe
def aRH:=(bv.un cj).Bf
def aRI:=.eT pn "put" (nA (aPT 69 sw))
def aRJ α β γ δ ε:=Ch T α β γ δ ε a.F a.F
def aRK α:=α x5 cp cZ d'
def aRL α:=lR tE (w6 uK) α
def aRM α β:=∀(q:u)(l:a9),op α l→op β l
def aRN α β:=fb α ao β cc cj
def aRO:=pX bX.Aa I (e3.Aa L)
def aRP:=fun P P P P P b=>(ni AQ e b)
def aRY:=-4294967296
def aRZ α:=show α by decide
def aR0 α β:=by simp only[α,β,ap.ji]
def aR1:=B5 ..
def aR2 α β:=[a.ak.z,α,β]
def aR3:=by rewrite[b]
def aR4:=u→Prop
def aR5:=by with_reducible rw[tb]
def aR6 α β γ:=by simp only[α,β,N.c3]at γ
def aR7:=by injections h
def aR8 α β γ:=by generalize α=β at γ⊢
def aR9:=c d.aY
def aSa:=c v.aY
def aSb α β:=Ď afb α β
def aSc:=f.iF=G
def aSd:=p aj5
def aSe:=p ad0
def aSf α β γ:=by simp only[α,β];exact γ
def aSg:=rQ aab
def aSh:=aZ agI
def aSi:=(aRX).F
def aSj:=nE agO
def aSk:=f.je=Y
def aSl:=by rw[tF];rfl
def aSm:=zZ ff
def aSn:=zZ hh
def aSo:=oh a.xs
def aSp:=d7 I L
def aSq:=by rw[nt ((r.gA).1 b)]
def aSr:=qs ks
def aSs:=oV "road" _
def aSt:=q8 "string"
def aSu:=q8 "number"
def aSv:=oQ cH
def aSw α:=uE α a9.aY
def aSx:=xV bO
def aSy:=xV cb
def aSz:=gd.bx b7
def aSA:=fJ.bx b7
def aSB α:=pQ aQ.bF α
def aSC α:=S+(x6 α)
def aSD:=pO w (qI x fs)
def aSE α:=d3 (fP b' V) aI α aW bb k
def aSF α:=Q.bg α=B
def aSG:=aq::l
def aSH:=fun cM Q t1 cX I bQ bW=>?_
def aSI:=Cr aB
def aSJ:=a.dK++[g]
def aSK:=x0 mh
def aSL:=x2 qx
def aSM:=by rw[pw Ac Da]
def aSN:=by rw[pw Ai aT5]
def aSO:=č "C"
def aSP α:=α=c (fl,r',z'.F)
def aSQ:=Š 900000
def aSR:=Ţ j.xs
def aSS:=iT bq
def aST α:=Ae α oy
def aSU:=W.au aR.v
def aSV α β:=α a aS m_ β
def aSW α β:=ov f o α ((f,g)::β)
def aSX:=v≠10
def aSY α:=a.ak.z+α<900000
def aSZ:=c (mG cC)
def aS0:=aT6 k.aK
def aS1:=el a7 se
def aS2:=fy cw er
def aS3:=acA h fs
def aS4 α:=(a.fH m_ aRW α).F
def aS5:=b8.aaQ aj b h'
def aS6 α:=by rw[nD (aC.hC.at Ab) cw dg α]
def aS7 α:=[px,c pg,α]
def aS8:=abq h y fs
def aS9 α:=[nZ,pZ,sS,α,B]
def aTa:=mB mp aL am H l k.aK X
def aTb:=dv→ch→lV
def aTc:=∀q g,a7≠.bY q g
def aTd:=lL cE
def aTe:=(wu).ah Z
def aTf α:=α q d Ab
def aTg α:=m4 (Ag ub (nm+1) 100 nm α e aG)
def aTh:=by injection hs with I L Z x4
def aTi α:=by replace aJ:α:=aJ
def aTj:=CC oy
def aTk α β:=dq (fN α β)
def aTl:=(Cb ba).1
def aTm α:=dI α [] []
def aTn α β:=x3 bh α x1 gx fun β h2 d2 g5 L c7 fh=>?_
def aTo α β:=by(have α:xs.c5=i.z:=wy β)
def aTp α:=nE [og cE,qw,α,nr]
def aTq:=Bm nz nU
def aTr:=aaJ is vs l
def aTs:=ag9 cI X
def aTt α:=by rw[pv AC ag dQ α f8]
def aTu α:=adM U α am (nO Y)
def aTv:=ajm x cl aD aL
def aTw:=(Q.g' (afN O ax)).eU.c5
def aTx:=rC i_ i_
def aTy α:=by refine(nM AI ?_ α)
def aTz α β:=Bm α nU β
def aTA α:=iH α y=c g
def aTB α β:=α h' cv i β
def aTC:=ni AQ e ag
def aTD α:=(α).eJ X.bN.z
def aTE α:=ov f o qv (α o l)
def aTF:=by rw[m3 AF (š ajA lz)]
def aTG:=(j,eG)::mp
def aTH α β:=∃d z' r',α=c (s6 d.aY,r',z'.F)∧aWs∧β
def aTI:=t _ _ _ I bQ
def aTJ:=fun P P P P b=>(A9 _ _ _ e b)
def aTK:=bX.iU cJ I bQ
def aTL α β:=vs.au c++r.alO (α-β) B
def aTM:=afh a M W al
def aTN α:=α B B B B B B aE gT
def aTO α:=[nZ,tx 25,xb,c (qP hE),α]
def aTP α:=α bV W pY d6
def aTQ α:=bn→bB→bR→cn→α
def aTR α:=b.az fun I b=>b.az fun L b=>b.az fun Z b=>b.az fun x4 b=>α
def aTS α:=bn×bB×bR×cn×dd×dR×ex×fu×α
def aTT α:=bB×bR×cn×dd×dR×ex×fu×f7×α
def aTU:=rF bn bB bR cn dd
def aTV:=aPU (pB).1 (nj pB) (oj pB) (ou pB)
def aTW α:=bn×bB×bR×cn×dd×dR×α
def aTX α:=ajb b' V M n li aaD mg mb α
def aT8:=(r.fq).2
def aT9 α:=(α:af.bH)
def aUa α β:=by obtain⟨f,α⟩:=β
def aUb α β:=by simp only[r.gR,α,β]
def aUc:=! d.e7.dD
def aUd α:=by with_reducible exact α b
def aUe α β:=by replace α:=(N.c3 ..).mp β
def aUf α:=by obtain⟨α,_⟩:=(r.gF).1 b
def aUg α:=Prop→α→Prop
def aUh:=by assumption
def aUi α β:=by rw[uL h (by rw[qT α]) h (by show β)]
def aUj:=bh.An+1
def aUk:=c (eS b)
def aUl α:=by(rintro α _ _ _ e _)
def aUm α:=r.amC _ α
def aUn α β γ δ ε:=by simp only[α,β,γ,δ];exact ε
def aUo:=nc a.bs
def aUp:=aQ.bF b
def aUq:=aZ agA
def aUr:=aZ ais
def aUs:=aZ ait
def aUt:=aZ ahy
def aUu:=aQ.bF e
def aUv:=k.jg=Y
def aUw:=a.ad+2
def aUx α β:=by rw[α β];rfl
def aUy α:=(α g V).2
def aUz:=og "a"
def aUA:=og "T"
def aUB α:=k.aK.bg α=c p
def aUC α:=(a9.DF α).1
def aUD:=b1 (k∈i)
def aUE:=bX.Aa I
def aUF:=a0.mi=[]
def aUG:=q8 "undefined"
def aUH:=sp acc
def aUI α:=r.hV (m4 α)
def aUJ:=vs.bx b7
def aUK:=dj.bx b7
def aUL:=pF j.v
def aUM:=pO w x7
def aUN α:=α j tG
def aUO α:=t8 u.hO α
def aUP:=ŝ p.au
def aUQ:=aOd ah3
def aUR α:=(lB o α).eF
def aUS:=uG (ab2 aq y i)
def aUT:=rC ea ar
def aUU:=aq<al.z
def aUV α:=tc b.bg α
def aUW:=D7 fun P P P P P=>e
def aUX α:=vg (ow α y (y,nh))
def aUY α:=gG a.ak α
def aUZ α:=vN (have dG:=(fC n).1;have dN:=(da dG).1;qy dN α)
def aU0:=(da n).2
def aU1:=t6 abe a'
def aU2 α β:=α aN cJ.iM β e3.f3
def aU3 α β:=show α=β by omega
def aU4:=by rw[pw Ac DU]
def aU5:=by rw[pw Ai DT]
def aU6 α:=abn α y i
def aU7 α:=by rw[α];decide
def aU8:=z9 adH
def aU9 α:={k with aK:=α}
def aVa:=gb am k.aK h' X X
def aVb α:=α ac=c fn
def aVc:=ajd a al aD
def aVd:=o2 nU nU oy
def aVe:=402*b.z
def aVf α:=el (z_ k) α
def aVg α:=α (fX ?_)
def aVh α β γ:=b4 T α β γ a.F
def aVi α:=oJ wu c7 α
def aVj α β γ δ ε ζ:=by induction α using β with|γ δ ε=>show ζ|_=>rw[sT]
def aVk α:=by rw[mX AD α fun p P P d P=>?_,mW xc]
def aVl α β:=aU α cf β l a.F
def aVm:=aWt K.aF
def aVn:=agF j x d
def aVo:=À ao o
def aVp:=hi z' al aD b3 bV W (o+3)
def aVq α:=∀v∈a',α
def aVr α:=α a M al aD
def aVs:=hb k v
def aVt:=ah5 cf Aa
def aVu α β γ:=rm (pE a.F α β) γ
def aVv α:=A3 (Ae nU α)
def aVw:=by rw[nH t g aj]
def aVx:=b.bg g=c cR
def aVy:=(a.dG (uG (dq (fN f6 vf))) m_).F
def aVz:=(dX.ec.au (·.iX)).k8 fM
def aVA α β γ:=α β (γ+1) 9223372036854775808 b5
def aVB:=mu b' V
def aVC:=hy.fI a _
def aVD α β γ δ:=by rw[mZ α,mY β];subst γ;exact δ
def aVE α:=H.dS fun t=>α
def aVF:=on ne qc ţ
def aVG:=iq xd (wk aT7) eA et
def aVH:=j7 w p
def aVI:=mw o G M
def aVJ α:=af.bA.jG fn α [] z1
def aVK:=by rw[r.gR,r.lF]
def aVL:=by simp only[C9]at aV
def aVM α:=by rw[zX (by rw[m3 gf.of (α f.k)])]
def aVN:=aeW i bq
def aVO:=fun P P P P=>Đ
def aVP α:=(#[]:α).c5
def aVQ:=t3 h' cv bJ
def aVR:=b.gu n++aWy
def aVS:=if hE then rD aaT o else[]
def aVT:=∃cL:n1,a.xs=cL.au .m
def aVU:=b3[l-1]
def aVV:=[j,ab]
def aVW α:=α E.b' E.V
def aVX α:=α f.k g.k
def aVY α:=(a.dG α x).F
def aVZ:=p_ ahi ac
def aV0:={k with aK:=h2,ce:=d2}
def aV1:=t6 aae ao
def aV2:=Ŝ ab iZ
def aV3:=pf v c6 0 0
def aV4:=pf k df 0 0
def aV5:=Ş n.aj t.aj
def aV6:=ď k hs
def aV7 α:=Am α (a8+1) ai S
def aV8 α:=α nN (a8+1) S e
def aV9 α:=by rw[oi,nu,mY J,pP α]
def aWa α:=[oO,pC,α,B,B,B,B]
def aWb:=.bi (lL cE)
def aWc:=lU a k a7
def aWd α:=t5 α a8 ai nm
def aWe:=alR cE n t
def aWf:=fun o a0 b=>(Ad a0 b e)
def aWg:=eS (abb W ks)
def aWh α:=(by decide+agM:oG aiR α)
def aWi:=by rw[rl d,oA,yW]
def aWj α:=abk gD gP α x
def aWk:=(tA ao BM aP).Ah (sy ao uc)
def aWl α:=by simp only[A6,A7,A8,r.gZ]at α⊢
def aWm:=(a.b9 cw).iI ((b3++[g]).au eV)
def aWn α:=fun Q t1 cX I bQ=>α
def aWo α:=bB×bR×cn×dd×dR×ex×α
def aWp:=amH cB jV dX bD d_ dV kV mm pm an jL ac7
end
set_option backward.eqns.nonrecursive false in def A:=A
open af af.bl af.aw7 lu.me
set_option backward.match.sparseCases true
set_option maxRecDepth 100000 in
def AdM:chainsOk hk=G:=uJ
set_option genSizeOf false
set_option backward.dsimp.useDefEqAttr false
set_option tactic.hygienic false
def XQ(H h:u):ab7 H h+(h-(H+1))≤h:=(u.le_total H h).az (oE (xn (u.acs (u.alA H h) (u.aLd (u.avD H) h)) (pQ u.fp u.aGr))) (oE (xn (u.acs (u.apB H h) (u.fp (pQ u.sub_eq_zero_of_le u.ahH))) (u.kH h)))
def XX{g h:u}(b:ud h):402*h+(g+(2412-402*h))+200=Ō 2412:=cr (·+200) ((u.aqH _ g _).ah ((cr (g+·) (u.aGr (u.aiK 402 b))).ah (u.amp g 2412)))
def X3{q:R}(b:aOg<q∧q<1073741824):q.natAbs<1073741824:=by induction q using R.ae with|gq h=>exact R.aa7.1 qK|aeQ h=>exact R.aa7.1 (R.lt_of_neg_lt_neg od)
def O9{ac l:u}(b:td (8*l+40)):ac-(8*l+40)+8*l+40=ac:=pQ (sF u.la).ah u.e8
def Yk{ac l:u}(b:td (8*l+40)):ac-8*l-40+8*l+40=ac:=pQ (cr (·+8*l+40) (u.sub_sub ac (8*l) 40)).ah O9
def Pa{l:u}(b:¬l=0):ob (l-1)=uK:=pQ R.aD2 u.ahT
def YF(H:u):(aOM-(-1)).es=H:=cr R.es (R.e8 (nc H) 1)
def KN{n o:u}(b:n<o)(aG:o≤1073741824):aOg<nc n∧nc n<1073741824:=⟨R.k0 nw (R.ab8 n),R.aa7.2 (u.k0 b aG)⟩
def YC{H:u}(b:rG H):aOg<aOM∧aOM<1073741824:=⟨R.k0 (nw:aOg<nc 0-1) (R.aLe (R.ab8 H) 1),R.mM (t8 R.aLf _) (t8 KN b).2⟩
def XR{q n:u}(Q:sU n)(h2:¬q<n):¬q-1<n:=u.aj3 (u.le_sub_one_of_lt (u.ar3 (u.aa6.1 h2) (ahc.cq Q)))
def XS{q n:u}(Q:sU n)(h2:¬q<n):q-1+1=q:=s7 (u.hO (u.af4 n) (u.ar3 (u.aa6.1 h2) (ahc.cq Q)))
def XT{q aj v:u}(b:¬v=0)(Ab:q<26):25+aj+v≠q:=ol (u.aj3 (u.acs (u.acK 25 aj) (u.ahT b)) (u.hO (u.fp d) Ab))
def O3{aj i:u}:16<w9+i:=u.k0 nw (u.eI (u.acK 26 aj) (u.acK _ i))
def O4{aj v i:u}(b:v≤i):25+aj+v<w9+i:=u.hO (u.abi b (25+aj)) (u.agc (u.agc nw aj) i)
def XU{aj:u}:16≠w9:=u.ahM (u.k0 nw (u.acK 26 aj))
def XV{aj i v:u}(b:aj<i)(bf:¬v=0):25+i+v≠w9:=u.alE (u.hO (xn (u.fp (u.atj 25 1 aj)) (u.abi b 25)) (u.aDH (u.ahT bf)))
def XW{j ab K n:u}(f:j≤ab+n)(g:ab≤K+1):j≤K+rU:=u.eI f (xn (u.adL g n) (u.fp (u.atj K 1 n)))
def O5(l:u):-1+ob (l+1)=l:=(m7 R.amp).ah (R.add_neg_cancel_right (nc l) 1)
def XY(l:u):tM≤-1+ob (l+1):=R.eI (R.ab8 l) (R.fp (ww O5 l))
def XZ(l:u):(-1+ob (l+1)).es=l:=cr R.es (O5 l)
def X0{aj h:u}(b:aj=301)(cu:3*h<680):aj+1+3*h+10<1000:=u.mM (u.agc (u.aGq (u.fp (cr (·+1) b)) cu) 10) nw
def X1{aP h:u}(b:aP=4)(cu:3*h<680):aP+3+12*h+400<9900:=u.mM (u.agc (u.aGq (u.fp (cr (·+3) b)) (u.hO (u.fp (u.avM 4 3 h)) (t8 u.mul_lt_mul_of_pos_left cu))) 400) nw
def O6{f g:u}{i:R}(b:ob (f+g)≤i)(aB:i<20000):f<1048576:=u.hO (sH u.acK) (u.mM (R.aa7.1 (R.hO b aB)) (nw:20000<1048576))
def O7{f g:u}{i:R}(b:ob (f+g)≤i+1)(aB:i<900000):g+f<1000000:=u.hO (u.fp (u.amp g f)) (u.mM (R.aa7.1 (R.hO b (R.agc aB 1))) (nw:900001<1000000))
def X2{f g:u}{i:R}(b:ob (f+g)≤i+1)(aB:i<900000):g<1048576:=u.hO (u.acK g f) (u.mM (O7 b aB) nw)
def O8(f:R)(g:u):f+1+nc g=f+ob (g+1):=(R.atj f 1 g).ah (R.la f g 1)
def X4{g:R}(bf:¬g<0)(Q:¬g=0):¬g≤0:=ol (Q (R.ab5 d (R.aa6.1 bf)))
def X6{f o:R}{x:u}(b:f+ob (x+1)<o):f+nc x<o:=R.hO (R.abi (aOi (u.avD x)) f) b
def X5{V:R}{v:u}(eh:V=6∨V=7∨V=-1)(b:xe v):V=nc v↔V=ob 16:=(fun t:V<16=>avs (ol (R.aa6.2 (aOi b) (R.hO (R.fp d.cq) t))) (R.ahM t)) (eh.az (ol (d.cq▸(nw:nc 6<16))) (ol (d.az (ol (d.cq▸(nw:nc 7<16))) (ol (d.cq▸(nw:aP9<16))))))
def X7{k:u}(b:k=11∨xe k):ë:=ol (t8 ej (d▸b:1=11∨xe 1))
def X8{k:u}(b:k=11∨xe k):k≠10:=ol (t8 ej (d▸b:10=11∨xe 10))
def X9{q:u}(b:è):¬(q=4∨q=5):=nF (u.aj3 b (j.az (ol (d.cq▸(nw:4<16))) (ol (d.cq▸(nw:5<16)))))
def X_{f g x:R}{H h:u}(b:g≤f+H)(o:x≤g+h):x≤f+ob (H+h):=R.eI o (R.eI (R.adL b h) (R.fp (R.la f H h)))
def X'{f g x H h:u}(b:g≤f+4*H)(o:x≤g+4*h):x≤f+4*(H+h):=u.eI o (xn (u.adL b _) (u.fp ((u.la f (4*H) (4*h)).ah (cr (f+·) (rz (u.ani 4 H h))))))
def Ya{v aq:u}(b:xk≠v)(bf:¬v=0):v-1≠aq:=ol (b (d▸u.e8 (u.ahT bf)))
def Yb{j o cc:u}{i:R}(b:j≤pY)(h2:uQ≤i):nc j≤i+aQl:=R.eI (aOi b) (R.acs h2 (R.ads.2 (u.awA (u.af4 cc))))
def Ia{i o:R}{V:u}(b:i+nc V<o)(eh:1≤V):i+ob (V-1)+1<o:=R.hO (R.fp ((R.la i _ 1).ah (cr (fun j:u=>i+nc j) (u.e8 eh)))) b
def O_{aj o:R}{l H:u}(b:aj+nc l<o)(bK:H<l):aj+1+nc H<o:=R.hO (R.eI (R.fp (O8 aj H)) (R.abi (aOi bK) aj)) b
def Yc{f n:u}(b:0<n)(d:f=n-1):vn=nc n-1:=pQ (cr u.cast d).ah R.aD2
def Yd{f n:u}(b:0<n)(d:¬f=n-1):vn≠nc n-1:=rb (d (R.asi.1 (a.ah (ww R.aD2 b))))
def Ye{o q h:u}(b:o+0=h):¬(o≤q∧q<h):=nF (u.aj3 sz (u.k0 j.2 (u.fp b.cq)))
def Yf{i o:R}{g x:u}(b:i+ob (g+x+200)<o):i+ob ń<o:=R.hO (R.abi (R.ads.2 (u.adL (u.acK g x) 200)) i) b
def Yg{i o:R}{g:u}(b:i+ob (Ō 402)<o):i+500<o:=R.hO (R.abi (aOi (u.eI (nw:500≤402+0+200) (u.adL (u.abi (u.af4 g) 402) 200))) i) b
def Yh{l k:u}(b:l+k<890000):l+2000<900000:=u.k0 (u.agc (u.hO (u.acK l k) b) 2000) nw
def Yi{j ab:u}(d:j+402=ab):j+j+j+j+4*402=ab+ab+ab+ab:=d▸rz ((cr (·+(j+402)) ((cr (·+(j+402)) (u.aqG j 402 j 402)).ah (u.aqG (j+j) 804 j 402))).ah (u.aqG (j+j+j) 1206 j 402))
def Yj{g1 gW g:u}(b:g1≤gW+4*402)(o:gW+(Ō 402+(Ō 402)+(Ō 402)+(Ō 402))<890000):g1+(ń+(g+200)+(g+200)+(g+200))<890000:=u.hO (xn (u.adL b _) (u.fp ((u.la gW _ _).ah (cr (gW+·) ((m7 u.amp).ah (Yi ((u.amp _ 402).ah (rz (u.la 402 g 200))))))))) o
def Yl{x:u}(b:¬x%3=0):x%3=1∨x%3=2:=(u.lt_or_eq_of_le (u.aps (u.aDR x (nw:3>0)))).ajL (ue (y' (u.aps t) (u.ahT b))) id
def Ym{l o:u}(b:l<pY):uK<o∧-1≤uK:=⟨R.k0 (t8 R.aLf (nc l)) (pQ aOi u.aps),R.aLe (R.ab8 l) 1⟩
def Yn{l f x:u}(b:l<4)(Q:f≤16+8*(l+1))(h2:x≤f+8):x≤60:=u.eI h2 (xn (u.adL (u.eI Q (u.abi (u.aiK 8 b) 16)) 8) nw)
def Yo:∀q:u,q≤5→q=0∨q=1∨q=2∨q=3∨q=4∨q=5:=nw
def Yp{i o:R}{V x:u}(b:V≤304)(aB:i+ob (x+304)<o):i+nc V<o:=R.hO (R.abi (aOi (u.eI b (u.alv 304 x))) i) aB
def Yq{l k V:u}(b:V≤304)(br:l+k<890000):l+4*V<900000:=u.k0 (u.add_lt_add_of_lt_of_le (u.hO (u.acK l k) br) (u.aiK 4 b)) nw
def O'{f q h:u}(Q:f≤4+2*q)(h2:q<h)(h3:ud h):f≤14:=u.eI Q (u.abi (u.aiK 2 (u.aps (u.k0 h2 h3))) 4)
def Yr{f g q h:u}(Q:f≤4+2*q)(h2:q<h)(h3:ud h)(h4:g≤4):tM+ob (2*f+g)<60:=R.hO (R.fp (R.aaa _)) (R.aa7.2 (u.hO (u.acs (u.aiK 2 (O' Q h2 h3)) h4) nw))
def Ys{h:u}(b:ud h):tM+ob (5100+1824*h)<20000:=R.hO (R.fp (R.aaa _)) (R.aa7.2 (u.hO (u.abi (u.aiK 1824 b) 5100) nw))
def Yt{l k:u}(b:l+(5100+5100+5100+5100)<890000)(h2:k≤l+1):k+(2412+(2412+0)+200+(2412+(2412+0)+200)+(2412+(2412+0)+200)+(2412+(2412+0)+200))<890000:=u.hO (u.eI (u.adL h2 _) (u.eI (u.fp (u.la l 1 20096)) (u.abi nw l))) b
def Yu(f g x aj:R):f+g-(x+aj)=f+-1*x+(g+-1*aj):=by simp only[R.avR,R.avR,R.alH,R.alH,R.sub_eq_add_neg,R.neg_add,R.la,R.la,R.aqH g]
def Yv(f g:R):-(f+g)=-1*f+-1*g:=by simp only[R.avR,R.avR,R.alH,R.alH,R.neg_add]
def Yw{aP H x:u}(b:ud H)(cK:aP+100<x):aP+1+H<x:=u.hO (xn (u.abi b (aP+1)) (u.abi (nw:7≤100) aP)) cK
def Yx(o:R)(aq:u):o-ob xk=o-aq-1:=rz (R.sub_sub o aq 1)
def Yy{h:R}(b:0<h):h-0-1+1=nc h.es:=((R.e8 (h-0) 1).ah (R.sub_zero h)).ah (rz (pQ R.awI R.agP))
def Yz{h:R}(b:¬0<h):tM=nc h.es:=cr u.cast (rz (pQ R.aEX R.aa6.1))
def Pb{h:R}(b:h≤4294967296):aRY≤nc h.es∧nc h.es≤4294967296:=⟨R.eI nw (R.ab8 _),pQ aOi R.toNat_le.2⟩
def YA{f g:R}(b:f>g):f-g-1+1=nc (f-g).es:=(R.e8 (f-g) 1).ah (rz (R.awI (pQ R.sub_nonneg_of_le R.agP)))
def YB{f g:R}(b:¬f>g):tM=nc (f-g).es:=cr u.cast (rz (R.aEX (pQ R.aLg R.aa6.1)))
def YD{aP x:u}(b:aP+100<x):aP+6+2<x:=u.hO (u.abi (nw:8≤100) aP) b
def Pc{q:R}{h:u}(bf:¬ļ):q+h<h:=R.k0 (R.agc (R.apI.1 bf) (nc h)) (R.fp (R.aaa _))
def YE{q:R}{h:u}(b:0≤q+h):-nc h≤q:=R.le_of_sub_nonneg (R.eI b (R.fp (R.sub_neg q h).cq))
set_option genSizeOfSpec false
set_option genInjectivity false
set_option backward.dsimp.useDefEqAttr true
set_option tactic.hygienic true
set_option genCtorIdx false
inductive a6|y(q:u)|o(h:u)|f(j ab:a6)|H(h:u)(j:a6)|l(j:a6)(h:u)
noncomputable instance:asM a6:=⟨.f⟩
noncomputable instance(h:u):aF6 a6 h:=⟨.o h⟩
abbrev a6.aj(x:nq)(j:a6):u:=@a6.jB (p' u) (fun q=>x.ld q 0) (fun h=>h) (fun ψ ψ n t=>n+t) (fun h ψ n=>h*n) (fun ψ h n=>n*h) j
abbrev arZ(i:nq):nq→nq:=aPV u (p' (nq→nq)) (fun l=>l) (fun aP ψ ac l=>@r.ae u (p' nq) l (aP::ac []) (fun V k=>(aP+V)::ac k)) i
abbrev avC(h:u):nq:=@u.jB (p' nq) [1] (fun ψ i=>0::i) h
abbrev am8(h:u)(i:nq):nq:=aPV u (p' nq) [] (fun aP ψ l=>(h*aP)::l) i
abbrev aa4(i:nq):sf nq:=aPV u (p' (sf nq)) (p' 0) (fun aP ψ ac x=>aP*xI+ac x.g3) i
abbrev a6.h(j:a6):u×nq:=@a6.jB (p' (u×nq)) (fun q=>(0,avC q)) (fun h=>(h,[])) (fun ψ ψ n t=>(nk+ox,arZ nh oI)) (fun h ψ n=>(h*nk,am8 h nh)) (fun ψ h n=>(h*nk,am8 h nh)) j
abbrev aDv(i:nq):nq→N:=aPV u (p' (nq→N)) (p' G) (fun aP ψ ac l=>@r.ae u (p' N) l (u.acv aP 0&&ac []) (fun V k=>u.aam aP V&&ac k)) i
def Kr:∀(i l x),aa4 (arZ i l) x=aa4 i x+aa4 l x|[],l,x=>ww u.aaa _|Ŷ,[],x=>(cr (aP*x.acC 0+·) (Kr i [] x.g3)).ah e|Ŷ,V::l,x=>by show(aP+V)*xI+aa4 (arZ i l) x.g3=aP*xI+aa4 i x.g3+(V*xI+aa4 l x.g3);rw[Kr i l x.g3,u.ati,mW (ni u.aqG)]
def Ku:∀(h)(x),aa4 (avC h) x=x.ld h 0|0,[]=>e|0,f::_=>(u.alH f)|nB,[]=>pX u.aaa _ ((Ku h []).ah e)|nB,f::x=>by show 0*f+aa4 (avC h) x=x.ld h 0;rw[u.aw5,u.aaa,mW Ku h x]
def Kt(h):∀(i x),aa4 (am8 h i) x=h*aa4 i x|[],_=>e|Ŷ,x=>by show h*aP*xI+aa4 (am8 h i) x.g3=h*(aP*xI+aa4 i x.g3);rw[Kt h i,u.ani,u.avM]
def a6.H'(x)(j:a6):xu=aOh+aa4 ť x:=by induction j with|y q=>exact(Ku q x).cq.ah (ww u.aaa _)|o h=>rfl|f j ab Q h2=>show xu+aOD=aOh+ab.h.1+aa4 (arZ ť ab.h.2) x;rw[Q,h2,Kr,mW (ni u.aqG)]|H h j b=>show h*xu=h*aOh+aa4 (am8 h ť) x;rw[b,Kt,u.ani]|l j h b=>show xu*h=h*aOh+aa4 (am8 h ť) x;rw[b,Kt,u.mul_comm,u.ani]
def Ks:∀(i l x),aDv i l=G→aa4 i x≤aa4 l x|[],_,_,_=>aOw|Ŷ,[],x,b=>by(obtain⟨Q,h2⟩:=Ž);show aP*xI+aa4 i x.g3≤0;rw[u.aox Q,u.aw5,u.aaa,mW Ks i [] x.g3 h2]|Ŷ,V::l,x,b=>by obtain⟨Q,h2⟩:=Ž;exact u.acs (u.mul_le_mul_right _ (u.afQ Q)) (Ks i l x.g3 h2)
abbrev a6.le(j ab:a6):N:=u.aam aOh ab.h.1&&aDv ť ab.h.2
def AJ(x)(j ab:a6)(b:j.le ab=G):aRC:=by obtain⟨Q,h2⟩:=Ž;rw[j.H',ab.H',mW u.acs (u.afQ Q) (nM Ks x h2)]
def Ag(x)(n t j ab:a6)(b:(n+ab).le (t+j)=G)(a:aRC):aV5:=u.aJ3 (u.eI (show n.aj x+aOD≤t.aj x+xu from AJ x _ _ b) (u.abi a _))
def Am(x)(n t j ab g4 lS:a6)(b:(n+(ab+lS)).le (t+(j+g4))=G)(a:aRC)(z':Ş g4.aj lS.aj):aV5:=Ag x n t (j+g4) (ab+lS) b (u.acs a z')
def Bu(x)(n t j ab g4 lS k v:a6)(b:(n+(ab+lS+v)).le (t+(j+g4+k))=G)(a:aRC)(z':Ş g4.aj lS.aj)(bz:Ş k.aj v.aj):aV5:=Ag x n t (j+g4+k) (ab+lS+v) b (u.acs (u.acs a z') bz)
def Os(x)(n t j ab g4 lS k v s' iu:a6)(b:(n+(ab+lS+(v+iu))).le (t+(j+g4+(k+s')))=G)(a:aRC)(z':Ş g4.aj lS.aj)(bz:Ş k.aj v.aj)(e2:Ş s'.aj iu.aj):aV5:=Ag x n t (j+g4+(k+s')) (ab+lS+(v+iu)) b (u.acs (u.acs a z') (u.acs bz e2))
abbrev a6.eq(j ab:a6):N:=j.le ab&&ab.le j
def BI(x)(j ab:a6)(b:j.eq ab=G):xu=aOD:=y' (AJ x j ab (Ž).1) (AJ x ab j (Ž).2)
def Br(x)(n t j ab:a6)(b:(n+ab).eq (t+j)=G)(a:xu=aOD):n.aj x=t.aj x:=u.add_right_cancel ((sr (n.aj x+aOD) (t.aj x+xu) (BI x _ _ b)).ah (cr (t.aj x+·) a))
def OB(x)(n t j ab g4 lS:a6)(b:(n+(ab+lS)).eq (t+(j+g4))=G)(a:xu=aOD)(z':g4.aj x=lS.aj x):n.aj x=t.aj x:=Br x n t (j+g4) (ab+lS) b (show xu+g4.aj x=aOD+lS.aj x by rw[a,z'])
def AM(h){f g:u}(b:aQU):h*f≤h*g:=u.aiK h b
def Az{f g:u}(b:f=g):aQU:=u.fp b
def AN{f g:u}(b:f=g):g≤f:=u.fp b.cq
abbrev S:a6:=.y 0
abbrev ai:a6:=.y 1
abbrev a8:a6:=.y 2
abbrev eK:a6:=.y 3
abbrev ahk:a6:=.y 4
abbrev amn:a6:=.y 5
inductive iW|y(q:u)|o(h:u)|f(j ab:iW)|k(j ab:iW)|H(h:u)(j:iW)|K(j:iW)
noncomputable instance:asM iW:=⟨.f⟩
noncomputable instance:axp iW:=⟨.k⟩
noncomputable instance:aMu iW:=⟨.K⟩
noncomputable instance(h:u):aF6 iW h:=⟨.o h⟩
abbrev iW.aj(x:n1)(j:iW):R:=@iW.jB (p' R) (fun q=>x.ld q 0) (fun h=>ņ) (fun ψ ψ n t=>n+t) (fun ψ ψ n t=>n-t) (fun h ψ n=>ņ*n) (fun ψ n=>-n) j
abbrev afJ(h:R)(i:n1):n1→n1:=aPV R (p' (n1→n1)) (fun l=>aPV R (p' n1) [] (fun V ψ k=>(h*V)::k) l) (fun aP i ac l=>@r.ae R (p' n1) l Ŷ (fun V k=>(aP+h*V)::ac k)) i
abbrev arQ(h:u):n1:=@u.jB (p' n1) [1] (fun ψ i=>0::i) h
abbrev lg(i:n1):n1→R:=aPV R (p' (n1→R)) (p' 0) (fun aP ψ ac x=>aP*xI+ac x.g3) i
abbrev iW.h(j:iW):R×n1:=@iW.jB (p' (R×n1)) (fun q=>(0,arQ q)) (fun h=>(ņ,[])) (fun ψ ψ n t=>(nk+ox,afJ 1 nh oI)) (fun ψ ψ n t=>(nk+-1*ox,afJ (-1) nh oI)) (fun h ψ n=>(ņ*nk,afJ ņ [] nh)) (fun ψ n=>(-1*nk,afJ (-1) [] nh)) j
def HP(h):∀(l x),lg (afJ h [] l) x=h*lg l x|[],x=>ww R.mul_zero h|V::l,x=>by show h*V*xI+lg (afJ h [] l) x.g3=h*(V*xI+lg l x.g3);simp only[HP h l,R.ani,R.avM]
def J7(h):∀(i l x),lg (afJ h i l) x=lg i x+h*lg l x|[],l,x=>(HP h l x).ah (ww R.aaa _)|Ŷ,[],x=>by show lg Ŷ x=lg Ŷ x+h*0;simp only[R.mul_zero,R.aqI]|Ŷ,V::l,x=>by show(aP+h*V)*xI+lg (afJ h i l) x.g3=aP*xI+lg i x.g3+h*(V*xI+lg l x.g3);simp only[J7 h i l x.g3,R.ati,R.ani,R.avM];generalize aP*xI=f;generalize h*(V*xI)=g;generalize lg i x.g3=aj;generalize h*lg l x.g3=d;simp only[R.la,R.la,R.aqH g aj d]
def J8:∀(h)(x),lg (arQ h) x=x.ld h 0|0,[]=>e|0,f::_=>pX R.aqI _ (R.alH f)|nB,[]=>by show 0*0+lg (arQ h) []=0;rw[J8 h []];rfl|nB,f::x=>by show 0*f+lg (arQ h) x=x.ld h 0;simp only[R.aw5,R.aaa];exact J8 h x
def iW.H'(x)(j:iW):xu=aOh+lg ť x:=by induction j with|y q=>exact(J8 q x).cq.ah (ww R.aaa _)|o h=>exact ww R.aqI _|f j ab Q h2=>show xu+aOD=aOh+ab.h.1+lg (afJ 1 ť ab.h.2) x;simp only[Q,h2,J7,R.alH,R.la,R.la,R.aqH (lg ť x)]|k j ab Q h2=>show xu-aOD=aOh+-1*ab.h.1+lg (afJ (-1) ť ab.h.2) x;simp only[Q,h2,J7];exact Yu ..|H h j b=>show ņ*xu=ņ*aOh+lg (afJ ņ [] ť) x;simp only[b,HP,R.ani]|K j b=>show-xu=-1*aOh+lg (afJ (-1) [] ť) x;simp only[b,HP];exact Yv ..
abbrev aDh(q:R):N:=@R.jB (p' N) (fun h=>u.acv h 0) ŷ q
abbrev aDg(q:R):N:=@R.jB (p' N) (p' G) ŷ q
abbrev aDf(i:n1):N:=aPV R (p' N) G (fun aP ψ ac=>aDh aP&&ac) i
def Va:∀{q},aDh q=G→q=0|ņ,b=>cr R.gq (u.aox b)
def U':∀{q},aDg q=G→ļ|ņ,_=>R.ab8 h
def NO:∀(i x),aDf i=G→lg i x=0|[],_,_=>e|Ŷ,x,b=>by obtain⟨Q,h2⟩:=Ž;show aP*xI+lg i x.g3=0;simp only[Va Q,NO i x.g3 h2,R.aw5];rfl
abbrev iW.ok(j ab:iW):N:=aDg (iW.k ab j).h.1&&aDf (iW.k ab j).h.2
def D1(x)(j ab:iW)(b:j.ok ab=G):aRC:=by obtain⟨Q,h2⟩:=Ž;refine R.sub_nonneg.1 (show 0≤(iW.k ab j).aj x from ?_);simp only[iW.H',NO _ x h2,R.aqI];exact U' Q
def A4(x)(n t j ab:iW)(b:(n+ab).ok (t+j)=G)(a:aRC):aV5:=R.aJ3 (R.eI (show n.aj x+aOD≤t.aj x+xu from D1 x _ _ b) (R.abi a _))
def A5(x)(n t j ab g4 lS:iW)(b:(n+(ab+lS)).ok (t+(j+g4))=G)(a:aRC)(z':Ş g4.aj lS.aj):aV5:=A4 x n t (j+g4) (ab+lS) b (R.acs a z')
def E0(x)(n t j ab g4 lS k v:iW)(b:(n+(ab+lS+v)).ok (t+(j+g4+k))=G)(a:aRC)(z':Ş g4.aj lS.aj)(bz:Ş k.aj v.aj):aV5:=A4 x n t (j+g4+k) (ab+lS+v) b (R.acs (R.acs a z') bz)
def Vh(h){f g}(b:aQU):R.gq h*f≤R.gq h*g:=R.mul_le_mul_of_nonneg_left b (R.ab8 h)
def B4{n:Prop}(b:xp≤0):n:=t8 ej b
def B1(h:u):tM≤nc h:=R.ab8 h
def Bb{f g:u}(b:aQU):vn≤nc g:=aOi b
def BZ{n:Prop}(b:1≤0):n:=t8 ej b
abbrev b5:iW:=.y 0
abbrev d5:iW:=.y 1
abbrev gY:iW:=.y 2
abbrev acq:iW:=.y 3
abbrev aqD:iW:=.y 4
set_option backward.dsimp.useDefEqAttr false
set_option backward.match.sparseCases false
set_option genCtorIdx true
inductive c_ where|aw(i:nC)|bE(i:yt)|bM(i:rC R ar)|bS(eY:u)(fs:aUT)deriving axg
abbrev c_.t(f g:c_):N:=@c_.ae (p' N) f (nF (@c_.ae (p' N) g (x9 (b1 (j=ab))) ŷ ŷ (fun ψ ψ=>Y))) (nF (@c_.ae (p' N) g ŷ (x9 (b1 (j=ab))) ŷ (fun ψ ψ=>Y))) (nF (@c_.ae (p' N) g ŷ ŷ (x9 (b1 (j=ab))) (fun ψ ψ=>Y))) (fun x j=>@c_.ae (p' N) g ŷ ŷ ŷ (fun aj ab=>b1 (x=aj)&&b1 (j=ab)))
def c_.K1(f):c_.t f f=G:=@c_.ae (fun f=>c_.t f f=G) f (p' (hZ e)) (p' (hZ e)) (p' (hZ e)) (fun ψ ψ=>rW N.fY.2 (hZ e) (hZ e))
def c_.KZ(f g)(b:c_.t f g=G):f=g:=by induction f using c_.ae with|aw j=>(induction g using c_.ae with|aw ab=>exact uU (cD b)|_=>rw[sT])|bE j=>(induction g using c_.ae with|bE ab=>exact uU (cD b)|_=>rw[sT])|bM j=>(induction g using c_.ae with|bM ab=>exact uU (cD b)|_=>rw[sT])|bS x j=>rw[aVj g c_.ae bS aj ab (by have a:=Ž;exact congr (uU (cD a.1)) (cD a.2))]
def c_.K0{f g}(b:sH c_.t=Y)(d:f=g):aks:=by rw[oT,mW N.cs (b.cq.ah (c_.K1 f))]
noncomputable instance:aqq c_:=fun f g=>@N.ae (fun y=>sH c_.t=y→ah1 (f=g)) (sH c_.t) (oE (pQ avy c_.K0)) (oE (als (c_.KZ f g b))) e
noncomputable abbrev ch:=r c_
mutual
abbrev ar.i6:wG u ar|_,xl=>G|_,uW=>G|nB,o9=>ar.kP h i|nB,q1=>ar.kP h i|_,_=>Y
abbrev ar.kP:wG u nC|_,[]=>G|h,qi=>ar.i6 h j&&ar.kP h xs
end
def IF:∀h q,ar.i6 h n'=G:=aRA
def IG:∀h q,ar.i6 h (og q)=G:=aRA
def IH:∀h i,ar.i6 nB o9=ar.kP h i:=pS
def II:∀h i,ar.i6 nB q1=ar.kP h i:=pS
def IJ:∀h,ar.i6 h .B=Y:=fun h=>aT4 h
def IK:∀h g,ar.i6 h qA=Y:=aRA
def IL:∀h g,ar.i6 h (.D g)=Y:=aRA
def IM:∀i,ar.i6 0 o9=Y:=rp
def IN:∀i,ar.i6 0 q1=Y:=rp
def Eq:∀gv,ar.kP gv []=G:=rp
def Er:∀h j xs,ar.kP h qi=(ar.i6 h j&&ar.kP h xs):=uD
mutual
abbrev ar.im:wG u ar|_,xl=>G|_,uW=>G|nB,o9=>ar.abP h i|_,_=>Y
abbrev ar.abP:wG u nC|_,[]=>G|h,qi=>ar.im h j&&ar.abP h xs
end
def Lz:∀h q,ar.im h n'=G:=aRA
def LA:∀h q,ar.im h (og q)=G:=aRA
def LB:∀h i,ar.im nB o9=ar.abP h i:=pS
def LC:∀h i,ar.im h q1=Y:=aRA
def LD:∀h,ar.im h .B=Y:=fun h=>aT4 h
def LE:∀h g,ar.im h qA=Y:=aRA
def LF:∀h g,ar.im h (.D g)=Y:=aRA
def LG:∀i,ar.im 0 o9=Y:=rp
def Es:∀gv,ar.abP gv []=G:=rp
def Et:∀h j xs,ar.abP h qi=(ar.im h j&&ar.abP h xs):=uD
inductive ls where|bU|ahl|abl|bu(y:ar)
noncomputable abbrev dv:=r (ap ar)
noncomputable abbrev iV:=u→nC→ch→w0
abbrev kx(o:ar):vH yt ar|[]=>B|v'=>aTE kx
def EM(o):kx o []=B:=e
def EN(o):∀f y l,kx o v'=(aTE kx):=uD
abbrev abn(o y:ar):yt→yt|[]=>[(o,y)]|aOV=>aSW v' (abn o y l)
def FZ(o y):abn o y []=([(o,y)]):=e
def F0(o y):∀f g l,abn o y aOV=(aSW v' (abn o y l)):=uD
abbrev aep(o:ar):yt→yt|[]=>[]|aOV=>aSW l (aep o l)
def AdN(o):aep o []=[]:=e
def EL(o)(f g)(l):aep o aOV=(aSW l (aep o l)):=e
abbrev lB(o:R):vH (rC R ar) ar|[]=>B|v'=>aTE lB
def E4(o):lB o []=B:=e
def E5(o):∀f y l,lB o v'=(aTE lB):=uD
abbrev ab2(o:R)(y:ar):rC R ar→rC R ar|[]=>[(o,y)]|aOV=>aSW v' (ab2 o y l)
def Kg(o)(y):ab2 o y []=([(o,y)]):=e
def Kh(o)(y):∀f g l,ab2 o y aOV=(aSW v' (ab2 o y l)):=uD
abbrev l4:ar→N|nE _=>G|_=>Y
abbrev acA(h:ea):vH aUT ar|[]=>B|v'=>ov f h qv (acA h l)
def JX(h):acA h []=B:=e
def JY(h):∀f y l,acA h v'=(ov f h qv (acA h l)):=uD
abbrev abq(h:ea)(y:ar):aUT→aUT|[]=>[(h,y)]|aOV=>ov f h v' ((f,g)::abq h y l)
def F'(h)(y):abq h y []=([(h,y)]):=e
def Ga(h)(y):∀f g l,abq h y aOV=(ov f h v' ((f,g)::abq h y l)):=uD
abbrev jA:u:=6
abbrev ja:u:=6
abbrev iH(w:ch):vH ar N|.B=>c Y|qA=>c g|n'=>c (q !=0)|uW=>B|o9=>c aPX|q1=>c aPX|n3=>aNX (c aPX)
abbrev lN(w:ch):ar→ap (r ar)|o9=>c i|q1=>c i|n3=>(aNX (c i))|_=>B
abbrev j7(w:ch):ar→ap (r ar)|q1=>c i|n3=>(aNX (c i))|_=>B
abbrev ab1(h:u)(q:R):ap u:=if ļ then(nK (q<h) (c q.es))else(nK (0≤q+h) (c (q+h).es))
abbrev eC(w:ch)(p o:ar):pl:=match p,o with|o9,n'=>(ab1 i.z q).bP fun aq=>Ä i|q1,n'=>(ab1 i.z q).bP fun aq=>Ä i|ur,n'=>nK (k.z≤1000) ((ab1 k.z q).bP fun aq=>ow (Ä k.e0) x (.bi (ea.awj x)))|rY,o=>(match w[f]? with|c rj=>(oo o n' ((ab1 i.z q).bP fun aq=>Ä i) B)|c x7=>nK (l4 o&&o.im jA) (kx o i)|c uH=>(oo o n' (lB q i) B)|_=>B)|_,_=>B
abbrev g2(q:R):N:=aOg<q&&q<1073741824
abbrev ay7(f g:R):ap R:=match f,g with|.gq H,ņ=>c (.gq (H|||h))|_,_=>B
abbrev ay6(f g:R):ap R:=match f,g with|.gq H,ņ=>c (.gq (H&&&h))|_,_=>B
abbrev jp{cg:Type}(y:ar)(o:Ü R):aOA:=oo y n' (o q) B
abbrev aak{cg:Type}(y:ar)(o:Ü u):aOA:=oo y n3 (o q) B
abbrev acr{cg:Type}(y:ar)(o:Ü nC):aOA:=oo y o9 (o i) B
abbrev abN{cg:Type}(y:ar)(o:Ü nC):aOA:=oo y q1 (o i) B
abbrev agz{cg:Type}(w:ch)(q:u)(o:u→aUT→aOA):aOA:=oo s_ (c (qI x fs)) (o x fs) B
abbrev kC{cg:Type}(w:ch)(q:u)(o:Ü nC):aOA:=aNX (o i)
abbrev aar{cg:Type}(w:ch)(q:u)(o:Ü yt):aOA:=oo s_ (c x7) (o i) B
abbrev ajv{cg:Type}(w:ch)(q:u)(o:Ü (rC R ar)):aOA:=oo s_ (c uH) (o i) B
abbrev alo(p:adG)(f g:R):pl:=match p with|.e_=>w6 (f+g)|.eZ=>w6 (f-g)|.alD=>nK (g2 f&&g2 g) (w6 (f*g))|.abo=>nK (g2 f&&(0<g&&g2 g)) (c (.m (f.abo g)))|.kS=>nK (0<g&&g2 g) (c (.m (f.kS g)))|.acu=>(sH ay6).au .m|.afn=>(sH ay7).au .m
abbrev amo(w:ch)(f g:ar):pl:=(j7 w f).bP fun i=>(j7 w g).bP fun H=>nK (Á (i.z+H.z)) (c (.bm (i++H)))
abbrev arR:adG→N|.e_=>G|_=>Y
abbrev lY(w:ch)(p:adG)(f g:ar):pl:=match f with|th=>jp g (alo p f)|f=>nK (arR p) (amo w f g)
abbrev kz(w:ch)(f g:ar):ap N:=match f with|qP j=>(oo g (qP ab) (c (j==ab)) B)|Ŭ=>jp g (x9 (c (j==ab)))|og j=>(oo g (og ab) (c (j==ab)) B)|o9=>acr g fun H=>if H.dD then c i.dD else nK ((ar.ay i).i6 ja&&(ar.ay H).i6 ja) (c (b1 (i=H)))|q1=>abN g fun H=>nK H.dD (c i.dD)|n3=>(match g with|oh H=>nK H.dD (kC w q (te (c i.dD)))|.D aq=>aar w q (te (aar w aq fun H=>nK (i.dD&&H.dD) (c G)))|_=>B)|.B=>B
abbrev jT(w:ch)(j x:ar):ap N:=match x with|o9=>nK (j.i6 ja&&ar.kP ja i&&tU) (c (b1 (j∈i)))|q1=>nK (j.i6 ja&&ar.kP ja i&&tU) (c (b1 (j∈i)))|n3=>(match s_ with|c x7=>nK (l4 j&&j.im jA) (c (kx j i).eF)|c uH=>(oo j n' (c (lB q i).eF) B)|_=>B)|_=>B
abbrev f1(w:ch)(p:ai5)(f g:ar):pl:=match p with|.eq=>(kz w f g).au .aO|.ne=>(match f,g with|vT,vT=>B|_,_=>ow (kz w f g) j (n5 (! j)))|.lt=>(match f,g with|Ŭ,.m ab=>ė (b1 (j<ab))|_,_=>B)|.le=>(match f,g with|Ŭ,.m ab=>ė (b1 (j≤ab))|_,_=>B)|.gt=>(match f,g with|Ŭ,.m ab=>ė (b1 (ab<j))|_,_=>B)|.ge=>(match f,g with|Ŭ,.m ab=>ė (b1 (ab≤j))|_,_=>B)|.gH=>(jT w f g).au .aO|.lM=>(oo g n3 (oo s_ (c r1) (ow (jT w f g) j (n5 (! j))) B) (ow (jT w f g) j (n5 (! j))))|.agL=>(oo g .B (ė (b1 (f=.B))) B)|.app=>oo g .B (c (n5 (! b1 (f=.B)))) B
abbrev acx:nC→ap (r N)|[]=>c []|qA::xs=>(match acx xs with|c bq=>c (g::bq)|B=>B)|_=>B
def Md:acx []=c []:=e
def Me:∀g xs,acx (qA::xs)=(match acx xs with|c bq=>c (g::bq)|B=>B):=pS
def Mf:∀g xs,acx (y_::xs)=B:=pS
def Mg:∀g xs,acx (og g::xs)=B:=pS
def Mh:∀g xs,acx (nE g::xs)=B:=pS
def Mi:∀g xs,acx (oh g::xs)=B:=pS
def Mj:∀g xs,acx (.D g::xs)=B:=pS
def Mk:∀xs,acx (.B::xs)=B:=rp
abbrev aiE(q:R):n1→n1|[]=>[q]|aSG=>if q≤aq then q::aSG else aq::aiE q l
def Kb(q):aiE q []=([q]):=e
def Kc(q):∀aq l,aiE q aSG=(if q≤aq then q::aSG else aq::aiE q l):=pS
abbrev aeY:n1→n1|[]=>[]|q::l=>aiE q (aeY l)
def AdQ:aeY []=([]):=e
def AbI:∀q l,aeY (q::l)=(aiE q (aeY l)):=pS
abbrev aew(o:R):vH (rC R R) R|[]=>B|v'=>aTE aew
def Nw(o):aew o []=B:=e
def JT(o):∀f y l,aew o v'=(aTE aew):=uD
abbrev kn(w:ch):ar→ap (nC×ap (u×nC))|o9=>c (i,B)|q1=>c (i,B)|n3=>(aNX (c (i,c (q,i))))|_=>B
abbrev ast:ar→ap (r ar)|o9=>c i|q1=>c i|_=>B
abbrev afL(w:ch)(q:u):N:=oo s_ (c nx) G Y
abbrev am4(w:ch)(q:u):N:=oo s_ (c r1) G Y
abbrev AY(x:ap (u×nC))(w:ch):N:=match x with|B=>G|c (q,i)=>b1 yq
abbrev gz(O:mD)(w:ch)(p:ar)(h:ea):pl:=zJ p (agz w q fun x fs=>nK (O.abp x h) aS3)
abbrev my(O:mD)(w:ch)(p:ar)(h:ea):ap u:=zJ p (agz w q fun x fs=>(O.eT x h).bP fun ac=>nK (acA h fs).mL (c ac))
abbrev asu(w:ch)(p o:ar):pl:=jp o fun q=>(aVH).bP fun i=>nK (ļ&&g2 q) (c (u' i.gu q.es))
abbrev awm(w:ch)(p o:ar):pl:=jp o fun q=>(aVH).bP fun i=>nK (ļ&&g2 q) (c (u' i.cF q.es))
abbrev aK2(p:ar)(f g:R):pl:=acr p fun i=>nK (1≤f&&(aQU&&g≤i.z)) (c (wt (i.gu g.es).cF f.es))
abbrev aEB(w:ch)(p:ar):pl:=zJ p (ajv w q (te (nK (i.z<64) (c (u' (aeY (i.au (·.1))).au .m)))))
abbrev awN(w:ch)(p:ar):pl:=(aVH).bP fun i=>nK (wr 16384) (c o9)
abbrev aJK:vH ar N|uW=>c G|xl=>c Y|_=>B
abbrev acN(w:ch)(y:ar):pl:=ow (lN w y) i (.m i.z)
abbrev axE(y:ar):pl:=abN y fun i=>ow (acx i) bq (.aO (bq.dS id))
abbrev aGt(y:ar):pl:=abN y fun i=>ow (acx i) bq (.aO (bq.de id))
abbrev afk(a4 dm:ch)(q:u)(y:ar):aQj:=nK (afL a4 q) (kC dm q (te (nK zE (c (aOJ (.aw (i++[y])))))))
abbrev aug(a4 dm:ch)(q:u)(y:ar):aQj:=nK (afL a4 q) ((ast y).bP fun H=>kC dm q (te (nK (i.z+H.z<du) (c (aOJ (.aw (i++H)))))))
abbrev alK(w:ch)(q:u):w0:=kC w q (te (i.arj.au fun y=>(y,tn (oU i.azY))))
abbrev arh(a4 dm:ch)(q:u)(o:ar):pl:=nK (am4 a4 q) (jp o (nF (ajv dm q (te (c ((lB j i).ld .B))))))
abbrev lm(w:ch)(q:u)(e6 y:ar):aQj:=match s_ with|c x7=>nK (l4 e6&&(e6.im jA&&zE)) (c (tn (.bE (aU6 e6))))|c uH=>jp e6 fun aq=>nK zE (c (tn aUS))|c rj=>jp e6 fun aq=>nK (0≤aq&&aq<i.z) (c (tn (.aw (i.b6 aq.es y))))|_=>B
abbrev aEx(O:mD)(w:ch)(q:u)(h:ea)(y:ar):aQj:=agz w q fun x fs=>nK (O.abp x h&&fs.z<200) (c (tn (.bS x aS8)))
abbrev aq3(w:ch)(q:u)(e6:ar):aQj:=aar w q (te (nK (l4 e6&&(e6.im jA&&(kx e6 i).eF)) (c (tn (.bE (aep e6 i))))))
abbrev azU(w:ch)(q:u)(e6:ar):aQj:=jp e6 fun aq=>kC w q (te (nK (i.dD&&(0≤aq&&g2 aq)) (c w)))
abbrev abk(gD:dv→ch→w0)(gP:dv→ch→aRT N)(eG:u)(x:ap (u×nC)):aPo nC (aRT nC)|[],_,w=>nK (AY x w) (Ÿ [])|qi,l,w=>nK (AY x w) ((gP (aNQ eG) w).bP fun n=>wB nk ((gD (aNQ eG) nh).bP fun t=>ow (aWj eG xs l oI) V (ox::V.1,V.2)) (aWj eG xs l nh))
def FQ(gD)(gP)(eG)(x):∀gv w,aWj eG [] gv w=(nK (AY x w) (Ÿ [])):=pS
def FR(gD)(gP)(eG)(x):∀j xs l w,aWj eG qi l w=(nK (AY x w) ((gP (aNQ eG) w).bP fun n=>wB nk ((gD (aNQ eG) nh).bP fun t=>ow (aWj eG xs l oI) V (ox::V.1,V.2)) (aWj eG xs l nh))):=fun ψ ψ ψ ψ=>e
mutual variable(O:mD)(cf:iV)
mutual
abbrev aU:aPo dz w0|.B,_,w=>Ÿ .B|qA,_,w=>Ÿ qA|n',_,w=>Ÿ n'|ur,_,w=>Ÿ ur|ę,l,w=>(rS l).afO.au fun y=>(y,w)|.bL _ y,_,w=>Ÿ y|nE Aa,l,w=>ow (h0 Aa l w) n (nE nk,nh)|oh Aa,l,w=>ow (h0 Aa l w) n (oh nk,nh)|.hw Aa,l,w=>ow (h0 Aa l w) n (.D (nh).z,nh++[oU nk])|.lK g,_,w=>c (.D w.z,w++[if g then sj else nS])|.be d h,l,w=>aUX (gz O nh nk h)|.aT d o,l,w=>vg (aQx o (aQL (eC oI nk ox)))|.ady d o,l,w=>vg (aQx o (aQL (asu oI nk ox)))|.ahW d o,l,w=>vg (aQx o (aQL (awm oI nk ox)))|.agV d f g,l,w=>aUX (aK2 nk f g)|.rev d,l,w=>vg (ow (z4 j7) i (oh i.aba,nh))|.dM p d o,l,w=>vg (aQx o (aQL (lY oI p nk ox)))|.ju d,l,w=>vg (jp nk fun q=>c (pe (-q),nh))|.aX p d o,l,w=>vg (aQx o (aQL (f1 oI p nk ox)))|.eB Aa,l,w=>ada Aa l w|.or Aa,l,w=>afs Aa l w|.ir d,l,w=>vg (ow xH g (n5 (! g),nh))|aOa,l,w=>(aU x l w).bP fun n=>(xH).bP fun bZ=>wB bZ (aU f l nh) (aU g l nh)|.bp ac Aa,l,w=>(h0 Aa l w).bP fun n=>cf ac nk nh|.lJ x Aa,l,w=>((h0 Aa l w).bP fun n=>(O.ahD x).bP fun p=>match p with|B=>nK (nk).dD (c (.D (nh).z,nh++[rv x]))|c ac=>(cf ac (.D (nh).z::nk) (nh++[rv x])).bP fun t=>nK (ox=.B) (c (.D (nh).z,oI)))|.eT d h Aa,l,w=>vg ((my O nh nk h).bP fun ac=>(h0 Aa l nh).bP fun t=>cf ac (nk::ox) oI)|.c9 d,l,w=>aUX (z4 acN)|.dS d,l,w=>aUX (axE nk)|.de d,l,w=>aUX (aGt nk)|.alS d,l,w=>aUX (z4 aEB)|.af3 d,l,w=>aUX (z4 awN)|.ang f g,l,w=>(aU f l w).bP fun n=>jp nk (nF (aQx g (jp ox fun ab=>c (pe (if ab<j then ab else j),oI))))|.aa3 d,l,w=>vg (ow (aJK nk) g (qA,nh))|.akO d o,l,w=>vg (zJ nk (aQx o (aQL (arh nh oI q ox))))|.aay o aj,l,w=>(aU o l w).bP fun n=>jp nk (nF (ow (aU aj l nh) t (((aew j O.aay).au .m).ld ox,oI)))|.hq d j,l,w=>vg (zJ nk (aQx j (ow (afk nh oI q ox) bJ (.B,bJ))))|.aft d j,l,w=>vg (zJ nk (aQx j (ow (aug nh oI q ox) bJ (.B,bJ))))|.adv d,l,w=>vg (zJ nk (alK nh q))|.go gD k kF gP,l,w=>(aU kF l w).bP fun n=>(z4 kn).bP fun t=>ow (abk (zH (aU gD l w)) (zH (ahq gP l w)) k oI ox l nh) V (oh V.1,V.2)|wA,_,_=>B
abbrev h0:aPo hG (aRT nC)|.C,_,w=>Ÿ []|u6,l,w=>vg (ow (h0 Aa l nh) t (nk::ox,oI))
abbrev ada:aPo hG w0|.C,_,_=>B|u6,l,w=>vg (match Aa with|.C=>c n|m7 .s=>(xH).bP fun g=>wB g (ada Aa l nh) (c n))
abbrev afs:aPo hG w0|.C,_,_=>B|u6,l,w=>vg (match Aa with|.C=>c n|m7 .s=>(xH).bP fun g=>wB g (c n) (afs Aa l nh))
abbrev ahq:aPo hG (aRT N)|.C,_,w=>Ÿ G|u6,l,w=>vg ((xH).bP fun g=>wB g (ahq Aa l nh) (c (Y,nh)))
end
def Uu(l)(w):o0 h0 .C=c ([],w):=e
def Us(d)(Aa)(l)(w):pU ada u6=rr (match Aa with|.C=>c n|m7 .s=>(xH).bP fun g=>wB g (ada O cf Aa l nh) (c n)):=e
def Uv(d)(Aa)(l)(w):pU afs u6=rr (match Aa with|.C=>c n|m7 .s=>(xH).bP fun g=>wB g (c n) (afs O cf Aa l nh)):=e
abbrev atg:adG→R→R→ap R|.e_,f,g=>c (f+g)|.eZ,f,g=>c (f-g)|_,_,_=>B
noncomputable abbrev lV:=ap (ls×dv×ch)
abbrev aaJ:nq→nC→dv→ap dv|[],[],l=>c l|q::is,y::vs,l=>aaJ is vs (Ż qv)|_,_,_=>B
abbrev aGx(w:ch)(q x:u)(h:ea)(y:R):aQj:=agz w q fun c' fs=>nK (c'=x&&b1 (fs.z<200)) (c (tn (.bS c' (abq h (.m y) fs))))
abbrev aqZ(p:lV)(o:aTb):lV:=match p with|aQT=>o l w|j=>j
abbrev afw(p:lV)(o:aTb):lV:=match p with|aQT=>o l w|ua .abl w=>o l w|ua .ahl w=>aQT|ua rO w=>ua rO w|B=>B
abbrev fZ(bD:aTb)(eG:u)(x:ap (u×nC)):aPo nC lV|[],l,w=>nK (AY x w) aQT|qi,l,w=>nK (AY x w) (afw (bD (aNQ eG) w) (fZ bD eG x xs))
def NE(bD)(eG)(x):∀l w,fZ bD eG x [] l w=(nK (AY x w) aQT):=pS
def NF(bD)(eG)(x):∀j xs l w,fZ bD eG x qi l w=(nK (AY x w) (afw (bD (aNQ eG) w) (fZ bD eG x xs))):=fun ψ ψ ψ ψ=>e
abbrev ae8(adz:dv→ch→aRT N)(bD:aTb):aPo u lV|0,_,_=>B|nB,l,w=>(adz l w).bP fun n=>wB nk (afw (bD l nh) (ae8 adz bD h)) (ua na nh)
def AdR(adz)(bD):∀gv ach,ae8 adz bD 0 gv ach=B:=pS
def Lq(adz)(bD):∀h l w,ae8 adz bD nB l w=((adz l w).bP fun n=>wB nk (afw (bD l nh) (ae8 adz bD h)) (ua na nh)):=uD
abbrev adA(d:dz)(l:dv)(w:ch):aRT N:=rr (ow xH g (g,nh))
abbrev k5(f:R)(k:R):u→nC|0=>[]|nB=>th::k5 (f+k) k h
def GH(f)(k):k5 f k 0=([]):=e
def GI(f)(k):∀h,k5 f k nB=(th::k5 (f+k) k h):=rp
abbrev acb:nC→ap (r ar)|[.m h]=>nK (g2 h) (c (k5 0 1 h.es))|[th,.m g,pV]=>nK (g2 f&&(g2 g&&k==-1)) (c (k5 f (-1) (f-g).es))|_=>B
abbrev alZ:u:=4096
mutual
abbrev dP:aPo md lV|.f_ d,l,w=>rr (ua na nh)|.ci q d,l,w=>rr (c (na,Ż (c nk),nh))|.age q d,l,w=>rr (c (na,Ż (c nk),nh))|.dU d h j,l,w=>(o0 aU j).bP fun n=>aQw d (zJ ox (ow (aEx O oI q h nk) bJ (na,l,bJ)))|.jl d o j,l,w=>(o0 aU j).bP fun n=>aQw d (zJ ox ((aU O cf o l oI).bP fun V=>ow (lm V.2 q V.1 nk) bJ (na,l,bJ)))|.acf is d,l,w=>rr (acr nk fun i=>ow (aaJ is i l) bW (na,bW,nh))|sF .atr,_,_=>B|.agg d h p j,l,w=>rr (zJ nk (agz nh q fun x fs=>nK (O.abp x h) ((aS3).bP fun f=>jp f fun f=>aQw j (jp ox fun g=>(atg p f g).bP fun y=>ow (aGx oI q x h y) bJ (na,l,bJ)))))|.agn d o,l,w=>rr (zJ nk (aQw o (ow (aq3 oI q ox) bJ (na,l,bJ))))|.amA d o,l,w=>rr (zJ nk (aQw o (ow (azU oI q ox) bJ (na,l,bJ))))|aOa,l,w=>(o0 aU x).bP fun n=>(xH).bP fun bZ=>wB bZ (b4 f l nh) (b4 g l nh)|.ag2 x g,l,w=>ae8 (adA O cf x) (zH (b4 g l w)) alZ l w|.jd q d g,l,w=>rr ((z4 kn).bP fun t=>fZ (zH (b4 g l w)) q oI ox l nh)|.mn q Aa g,l,w=>(aN3).bP fun n=>(acb nk).bP fun i=>fZ (zH (b4 g l w)) q B i l nh|s6 d,l,w=>rr (ua (s6 nk) nh)|.abl,l,w=>ua .abl w|.alJ,l,w=>aQT|wA,_,_=>B
abbrev b4:aPo cx lV|.C,l,w=>aQT|.s k g,l,w=>aqZ (dP k l w) fun bW a4=>b4 g bW a4
end
end
mutual
abbrev ar.eJ(h:u):ar→N|n3=>b1 (q<h)|o9=>ar.abd h i|q1=>ar.abd h i|_=>G
abbrev ar.abd(h:u):nC→N|[]=>G|qi=>ar.eJ h j&&ar.abd h xs
end
def Fx:∀h q,ar.eJ h n'=G:=pS
def Fy:∀h q,ar.eJ h (og q)=G:=pS
def Fz:∀h i,ar.eJ h o9=ar.abd h i:=pS
def FA:∀h i,ar.eJ h q1=ar.abd h i:=pS
def FB:∀h,ar.eJ h .B=G:=rp
def FC:∀h g,ar.eJ h qA=G:=pS
def FD:∀h g,ar.eJ h (.D g)=b1 (g<h):=pS
def Eu(h):ar.abd h []=G:=e
def Ev(h):∀j xs,ar.abd h qi=(ar.eJ h j&&ar.abd h xs):=pS
abbrev c_.eJ(h:u):c_→N|rj=>ar.abd h i|x7=>aN4 ((nk).eJ h&&(nh).eJ h)|uH=>aN4 ((nh).eJ h)|.bS _ fs=>fs.de fun n=>(nh).eJ h
abbrev adt(h:u):wG ch ch|[],_=>G|tq,[]=>Y|f::w,g::a4=>(b1 (f=g)||g.eJ h)&&adt h w a4
def Gz(h):∀gv,adt h [] gv=G:=rp
def GA(h):∀gv ach,adt h (gv::ach) []=Y:=pS
def GB(h):∀f w g a4,adt h (f::w) (g::a4)=((b1 (f=g)||g.eJ h)&&adt h w a4):=fun ψ ψ ψ ψ=>e
abbrev aht(fl:ls):ar:=oo fl rO y .B
abbrev cW(p:lV):w0:=p.au fun V=>(aht V.1,nW V)
abbrev afv(h:u)(w:ch)(p:lV):w0:=p.bP fun V=>nK (adt h w (nW V)&&(aht V.1).eJ h) (c (aht V.1,(nW V).gu h))
abbrev aiT(O:mD)(cf:iV)(ac:dk)(vs:nC)(w:ch):w0:=nK (vs.z=ac.c8) (match ac.cF with|G=>afv w.z w (b4 O cf ac.bD (aTL ac.dc ac.c8) w)|Y=>cW (b4 O cf ac.bD (aTL ac.dc ac.c8) w))
abbrev bc(O:mD)(hU:vH u dk):u→iV|0=>wc P B|nB=>fun ac vs w=>match hU ac with|c fn=>aiT O (bc O hU h) fn vs w|B=>B
def SS(O)(hU):bc O hU 0=(wc P B):=e
def ST(O)(hU):∀h,bc O hU nB=(fun ac vs w=>match hU ac with|c fn=>aiT O (bc O hU h) fn vs w|B=>B):=rp
def IR{cg}(q)(o:Ü u):aak n3 o=o q:=e
def ED{cg}(q)(o:Ü R):jp n' o=o q:=e
def Q2{cg}(i)(o:Ü nC):abN q1 o=o i:=e
def Nz(y):aht rO=y:=e
def J5{cg}{w:ch}{q:u}{i}{o:Ü nC}(b:yq):kC w q o=o i:=by delta kC;rw[aR3];rfl
def NL{cg}{w:ch}{q:u}{i}{o:Ü (rC R ar)}(b:ã):ajv w q o=o i:=by delta ajv;rw[aR3];rfl
def Oa{w:ch}{q:u}{i}(b:ã):am4 w q=G:=by delta am4;rw[aR3];rfl
def Wg{w:ch}{q:u}{i}(b:yq):afL w q=G:=by delta afL;rw[aR3];rfl
def K7{w:ch}{q:u}{i}(b:yq):lN w n3=c i:=by show(aNX (c i))=_;rw[aR3];rfl
def Oj{w:ch}{f:u}{i}{q}(b:aPf rj):pE w rY n'=pE w o9 n':=by show(match w[f]? with|c rj=>(ab1 i.z q).bP (fun aq=>Ä i)|c x7=>nK (l4 n'&&(ar.m q).im jA) (kx n' i)|c uH=>lB q i|_=>B)=_;rw[aR3];rfl
abbrev aDs{bn:Type}(q:gN bn)(W:đ):bn:=þ (W f)
def QK{bn}[q:gN bn]{W:đ}(b:W (aDs q W))(I):W I:=ÿ bn (W f) I
abbrev arX{bn bB:Type}(q:zN bB)(W:xQ):bn×bB:=@gw.adT _ q fun f=>¬W f.1 f.2
def QQ{bn bB}[q:zN bB]{W:xQ}(b:W (oN arX).1 (oN arX).2)(I)(L):W I L:=gw.adP fun h=>gw.adU (n:=fun f:bn×bB=>¬W f.1 f.2) ⟨(I,L),h⟩ b
abbrev am7{bn bB bR:Type}(q:gN (bn×bB×bR))(W:v_):bn×bB×bR:=þ (W f.1 (nj f) (nW f))
def QR{bn bB bR}[q:gN (bn×bB×bR)]{W:v_}(b:W (oN am7).1 (nj (oN am7)) (nW (oN am7)))(I)(L)(Z):zZ W:=ÿ (bn×bB×bR) (W f.1 (nj f) (nW f)) (I,L,Z)
abbrev ajN{bn bB bR cn:Type}(q:zN (bB×bR×cn))(W:vA):bn×bB×bR×cn:=þ (Þ W f.1 f f f)
def QS{bn bB bR cn}[q:zN (bB×bR×cn)]{W:vA}(b:Þ W (oN ajN).1 (oN ajN) (oN ajN) (oN ajN))(I)(L)(Z)(x4):rQ W:=ÿ (bn×bB×bR×cn) (Þ W f.1 f f f) (I,L,Z,x4)
abbrev ahG{bn bB bR cn dd:Type}(q:gN (bn×bB×bR×cn×dd))(W:aTU):bn×bB×bR×cn×dd:=þ (W f.1 (nj f) (oj f) (ou f) pB)
def QT{bn bB bR cn dd}[q:gN (bn×bB×bR×cn×dd)]{W:aTU}(b:W (oN ahG).1 (nj (oN ahG)) (oj (oN ahG)) (ou (oN ahG)) (qt ahG))(I)(L)(Z)(x4)(x5):xV W:=ÿ (bn×bB×bR×cn×dd) (W f.1 (nj f) (oj f) (ou f) pB) (I,L,Z,x4,x5)
abbrev afP{bn bB bR cn dd dR:Type}(q:zN (bB×bR×cn×dd×dR))(W:bn→rF bB bR cn dd dR):bn×bB×bR×cn×dd×dR:=þ (W f.1 (nj f) (oj f) (ou f) (pB).1 (pB).2)
def QU{bn bB bR cn dd dR}[q:zN (bB×bR×cn×dd×dR)]{W:ć (bR→cn→dd→dR→Prop)}(b:W (oN afP).1 (nj (oN afP)) (oj (oN afP)) (ou (oN afP)) (qt afP).1 (qt afP).2)(I)(L)(Z)(x4)(x5)(cp):uC W:=ÿ (bn×bB×bR×cn×dd×dR) (W f.1 (nj f) (oj f) (ou f) (pB).1 (pB).2) (I,L,Z,x4,x5,cp)
abbrev ad6{bn bB bR cn dd dR ex:Type}(q:gN (aTW ex))(W:ć (rF bR cn dd dR ex)):aTW ex:=þ (aPU (pB).1 (nj pB) (nW pB))
def QV{bn bB bR cn dd dR ex}[q:gN (aTW ex)]{W:ć (rF bR cn dd dR ex)}(b:W (oN ad6).1 (nj (oN ad6)) (oj (oN ad6)) (ou (oN ad6)) (qt ad6).1 (nj (qt ad6)) (nW (qt ad6)))(I)(L)(Z)(x4)(x5)(cp)(cZ):s5 (rQ W):=ÿ (aTW ex) (aPU (pB).1 (nj pB) (nW pB)) (I,L,Z,x4,x5,cp,cZ)
abbrev acJ{bn bB bR cn dd dR ex fu:Type}(q:zN (aWo fu))(W:bn→bB→bR→rF cn dd dR ex fu):bn×aWo fu:=þ (Þ aPU (pB).1 pB pB pB)
def QW{bn bB bR cn dd dR ex fu}[q:zN (aWo fu)]{W:bn→bB→bR→rF cn dd dR ex fu}(b:Þ (W (oN acJ).1 (nj (oN acJ)) (oj (oN acJ)) (ou (oN acJ))) (qt acJ).1 (qt acJ) (qt acJ) (qt acJ))(I)(L)(Z)(x4)(x5)(cp)(cZ)(d'):aRK (rQ W):=ÿ (bn×aWo fu) (Þ aPU (pB).1 pB pB pB) (I,L,Z,x4,x5,cp,cZ,d')
abbrev abx{bn bB bR cn dd dR ex fu f7:Type}(q:gN (aTS f7))(W:aTQ (rF dd dR ex fu f7)):aTS f7:=þ (aPU (pB).1 (nj pB) (oj pB) (ou pB) pz)
def QX{bn bB bR cn dd dR ex fu f7}[q:gN (aTS f7)]{W:aTQ (rF dd dR ex fu f7)}(b:W (oN abx).1 (nj (oN abx)) (oj (oN abx)) (ou (oN abx)) (qt abx).1 (nj (qt abx)) (oj (qt abx)) (ou (qt abx)) (um abx))(I)(L)(Z)(x4)(x5)(cp)(cZ)(d')(ez):pT (rQ W):=ÿ (aTS f7) (aPU (pB).1 (nj pB) (oj pB) (ou pB) pz) (I,L,Z,x4,x5,cp,cZ,d',ez)
abbrev aaz{bn bB bR cn dd dR ex fu f7 hR:Type}(q:zN (aTT hR))(W:bn→bB→bR→cn→dd→rF dR ex fu f7 hR):bn×aTT hR:=þ (aPU (pB).1 (nj pB) (oj pB) (ou pB) (pz).1 (pz).2)
def QL{bn bB bR cn dd dR ex fu f7 hR}[q:zN (aTT hR)]{W:bn→bB→bR→cn→dd→rF dR ex fu f7 hR}(b:W (oN aaz).1 (nj (oN aaz)) (oj (oN aaz)) (ou (oN aaz)) (qt aaz).1 (nj (qt aaz)) (oj (qt aaz)) (ou (qt aaz)) (um aaz).1 (um aaz).2)(I)(L)(Z)(x4)(x5)(cp)(cZ)(d')(ez)(aaN):rQ W x5 cp cZ d' ez aaN:=ÿ (bn×aTT hR) (aPU (pB).1 (nj pB) (oj pB) (ou pB) (pz).1 (pz).2) (I,L,Z,x4,x5,cp,cZ,d',ez,aaN)
abbrev mv{bn bB bR cn dd dR ex fu f7 hR jo:Type}(q:gN (aTW (ex×fu×f7×hR×jo)))(W:ć (bR→cn→dd→dR→rF ex fu f7 hR jo)):aTW (ex×fu×f7×hR×jo):=þ (aTV (pz).1 (nj pz) (nW pz))
def QM{bn bB bR cn dd dR ex fu f7 hR jo}[q:gN (aTW (ex×fu×f7×hR×jo))]{W:ć (bR→cn→dd→dR→rF ex fu f7 hR jo)}(b:W (oN mv).1 (nj (oN mv)) (oj (oN mv)) (ou (oN mv)) (qt mv).1 (nj (qt mv)) (oj (qt mv)) (ou (qt mv)) (um mv).1 (nj (um mv)) (nW (um mv)))(I)(L)(Z)(x4)(x5)(cp)(cZ)(d')(ez)(aaN)(mV):aRK (rQ W) ez aaN mV:=ÿ (bn×bB×bR×cn×dd×dR×ex×fu×f7×hR×jo) (aTV (pz).1 (nj pz) (nW pz)) (I,L,Z,x4,x5,cp,cZ,d',ez,aaN,mV)
abbrev lD{bn bB bR cn dd dR ex fu f7 hR jo lq:Type}(q:zN (aWo (fu×f7×hR×jo×lq)))(W:bn→bB→bR→cn→dd→dR→ex→rF fu f7 hR jo lq):bn×aWo (fu×f7×hR×jo×lq):=þ (Þ aTV (pz).1 pz pz pz)
def QN{bn bB bR cn dd dR ex fu f7 hR jo lq}[q:zN (aWo (fu×f7×hR×jo×lq))]{W:bn→bB→bR→cn→dd→dR→ex→rF fu f7 hR jo lq}(b:Þ (W (oN lD).1 (nj (oN lD)) (oj (oN lD)) (ou (oN lD)) (qt lD).1 (nj (qt lD)) (oj (qt lD)) (ou (qt lD))) (um lD).1 (um lD) (um lD) (um lD))(I)(L)(Z)(x4)(x5)(cp)(cZ)(d')(ez)(aaN)(mV)(aeg):aRK (rQ W) ez aaN mV aeg:=ÿ (aTW (ex×fu×f7×hR×jo×lq)) (Þ aTV (pz).1 pz pz pz) (I,L,Z,x4,x5,cp,cZ,d',ez,aaN,mV,aeg)
abbrev kY{bn bB bR cn dd dR ex fu f7 hR jo lq acj:Type}(q:gN (aTS (f7×hR×jo×lq×acj)))(W:aTQ (dd→dR→ex→fu→rF f7 hR jo lq acj)):aTS (f7×hR×jo×lq×acj):=þ (aTV (pz).1 (nj pz) (oj pz) (ou pz) (qk pz))
def QO{bn bB bR cn dd dR ex fu f7 hR jo lq acj}[q:gN (aTS (f7×hR×jo×lq×acj))]{W:aTQ (dd→dR→ex→fu→rF f7 hR jo lq acj)}(b:W (oN kY).1 (nj (oN kY)) (oj (oN kY)) (ou (oN kY)) (qt kY).1 (nj (qt kY)) (oj (qt kY)) (ou (qt kY)) (um kY).1 (nj (um kY)) (oj (um kY)) (ou (um kY)) (qk (um kY)))(I)(L)(Z)(x4)(x5)(cp)(cZ)(d')(ez)(aaN)(mV)(aeg)(ag4):aRK (rQ W) ez aaN mV aeg ag4:=ÿ (aTS (f7×hR×jo×lq×acj)) (aTV (pz).1 (nj pz) (oj pz) (ou pz) (qk pz)) (I,L,Z,x4,x5,cp,cZ,d',ez,aaN,mV,aeg,ag4)
abbrev kj{bn bB bR cn dd dR ex fu f7 hR jo lq acj ai3:Type}(q:zN (aTT (hR×jo×lq×acj×ai3)))(W:bn→bB→bR→cn→dd→dR→ex→fu→f7→rF hR jo lq acj ai3):bn×aTT (hR×jo×lq×acj×ai3):=þ (aTV (pz).1 (nj pz) (oj pz) (ou pz) (qk pz).1 (qk pz).2)
def QP{bn bB bR cn dd dR ex fu f7 hR jo lq acj ai3}[q:zN (aTT (hR×jo×lq×acj×ai3))]{W:bn→bB→bR→cn→dd→dR→ex→fu→f7→rF hR jo lq acj ai3}(b:W (oN kj).1 (nj (oN kj)) (oj (oN kj)) (ou (oN kj)) (qt kj).1 (nj (qt kj)) (oj (qt kj)) (ou (qt kj)) (um kj).1 (nj (um kj)) (oj (um kj)) (ou (um kj)) (qk (um kj)).1 (qk (um kj)).2)(I)(L)(Z)(x4)(x5)(cp)(cZ)(d')(ez)(aaN)(mV)(aeg)(ag4)(akn):aRK (rQ W) ez aaN mV aeg ag4 akn:=ÿ (bn×aTT (hR×jo×lq×acj×ai3)) (aTV (pz).1 (nj pz) (oj pz) (ou pz) (qk pz).1 (qk pz).2) (I,L,Z,x4,x5,cp,cZ,d',ez,aaN,mV,aeg,ag4,akn)
abbrev aJW{cg:Type}(q:gN cg)(n:cg→Prop):cg:=@gw.adT cg q n
def AdO{cg}[q:gN cg]{n:cg→Prop}{E:Prop}(b:∃ab,n ab)(o:n (aJW q n)→E):E:=pQ o gw.adU
def AC{bk bt bO}{E:Prop}(b:bk∧bt∧bO)(o:bk→bt→bO→E):E:=o od rB (nW b)
def Bq{bk bt bO cb}{E:Prop}(b:bk∧bt∧bO∧cb)(o:sD bk bt bO cb):E:=Þ o od b b b
def Hz{bk bt bO cb cP}{E:Prop}(b:bk∧bt∧bO∧cb∧cP)(o:bk→sD bt bO cb cP):E:=o od rB tO vr oH
def HA{bk bt bO cb cP d7}{E:Prop}(b:bk∧bt∧bO∧cb∧cP∧d7)(o:bk→bt→sD bO cb cP d7):E:=o od rB tO vr x_ (oH).2
def Uw{bk bt bO cb cP d7 ff}{E:Prop}(b:bk∧bt∧bO∧cb∧cP∧d7∧ff)(o:bk→bt→bO→sD cb cP d7 ff):E:=o od (nj b) (oj b) (ou b) x_ (nj oH) (nW oH)
def HB{bk bt bO cb cP d7 ff hh}{E:Prop}(b:bk∧bt∧bO∧cb∧cP∧d7∧ff∧hh)(o:bk→bt→bO→cb→sD cP d7 ff hh):E:=Þ (o od (nj b) (oj b) (ou b)) x_ oH oH oH
def Al{bn:Type}{bk:đ}{E:Prop}(b:∃I,uY)(o:∀I,uY→E):E:=b.az fun I b=>o I b
def AF{bn:Type}{bk bt bO:đ}{E:Prop}(b:∃I,uY∧vZ∧xw)(o:∀I,uY→vZ→xw→E):E:=b.az fun I b=>o I od rB (nW b)
def Nr{bn:Type}{bk bt bO cb:đ}{E:Prop}(b:∃I,uY∧vZ∧xw∧Ī)(o:∀I,sD uY vZ xw Ī):E:=b.az fun I b=>o I od rB tO (Ċ b)
def HD{bn:Type}{bk bt bO cb cP:đ}{E:Prop}(b:∃I,uY∧vZ∧xw∧Ī∧cP I)(o:∀I,uY→sD vZ xw Ī (cP I)):E:=b.az fun I b=>o I od rB tO vr oH
def Ux{bn:Type}{bk bt bO cb cP d7 ff:đ}{E:Prop}(b:∃I,uY∧vZ∧xw∧Ī∧cP I∧d7 I∧ff I)(o:∀I,uY→vZ→xw→sD Ī (cP I) (d7 I) (ff I)):E:=b.az fun I b=>o I od rB tO vr x_ (nj oH) (nW oH)
def BF{bn bB:Type}{bk:xQ}{E:Prop}(b:∃I L,rM)(o:∀I L,rM→E):E:=aPA (o I L b)
def AR{bn bB:Type}{bk bt:xQ}{E:Prop}(b:∃I L,rM∧sY)(o:∀I L,rM→sY→E):E:=aPA (o I L od qK)
def At{bn bB:Type}{bk bt bO:xQ}{E:Prop}(b:∃I L,rM∧sY∧uX)(o:∀I L,rM→sY→uX→E):E:=aPA (o I L od rB (nW b))
def BV{bn bB:Type}{bk bt bO cb:xQ}{E:Prop}(b:∃I L,rM∧sY∧uX∧xv)(o:∀I L,sD rM sY uX xv):E:=aPA (o I L od rB tO (Ċ b))
def Dr{bn bB:Type}{bk bt bO cb cP:xQ}{E:Prop}(b:∃I L,rM∧sY∧uX∧xv∧ĩ)(o:∀I L,rM→sD sY uX xv ĩ):E:=aPA (o I L od rB tO vr oH)
def Ns{bn bB:Type}{bk bt bO cb cP d7:xQ}{E:Prop}(b:∃I L,rM∧sY∧uX∧xv∧ĩ∧aSp)(o:∀I L,rM→sY→sD uX xv ĩ aSp):E:=aPA (o I L od rB tO vr x_ (oH).2)
def Uy{bn bB:Type}{bk bt bO cb cP d7 ff hh:xQ}{E:Prop}(b:∃I L,rM∧sY∧uX∧xv∧ĩ∧aSp∧ff I L∧hh I L)(o:∀I L,rM→sY→uX→xv→sD ĩ aSp (ff I L) (hh I L)):E:=aPA (o I L od rB tO vr x_ (nj oH) (oj oH) (Ċ oH))
def JM{bn bB bR:Type}{bk:v_}{E:Prop}(b:xU q0)(o:∀I L Z,q0→E):E:=ŗ (o I L Z b)
def AD{bn bB bR:Type}{bk bt:v_}{E:Prop}(b:xU (q0∧rL))(o:∀I L Z,q0→rL→E):E:=ŗ (o I L Z od qK)
def B8{bn bB bR:Type}{bk bt bO:v_}{E:Prop}(b:xU (q0∧rL∧sX))(o:∀I L Z,q0→rL→sX→E):E:=ŗ (o I L Z od rB (nW b))
def DX{bn bB bR:Type}{bk bt bO cb:v_}{E:Prop}(b:xU (q0∧rL∧sX∧uV))(o:∀I L Z,sD q0 rL sX uV):E:=ŗ (o I L Z od rB tO (Ċ b))
def BW{bn bB bR:Type}{bk bt bO cb cP:v_}{E:Prop}(b:xU (q0∧rL∧sX∧uV∧xt))(o:∀I L Z,q0→sD rL sX uV xt):E:=ŗ (o I L Z od rB tO vr oH)
def Co{bn bB bR:Type}{bk bt bO cb cP d7:v_}{E:Prop}(b:xU (q0∧rL∧sX∧uV∧xt∧ħ))(o:∀I L Z,q0→rL→sD sX uV xt ħ):E:=ŗ (o I L Z od rB tO vr x_ (oH).2)
def JN{bn bB bR:Type}{bk bt bO cb cP d7 ff hh:v_}{E:Prop}(b:xU (q0∧rL∧sX∧uV∧xt∧ħ∧aSm∧aSn))(o:∀I L Z,q0→rL→sX→uV→sD xt ħ aSm aSn):E:=ŗ (o I L Z od rB tO vr x_ (nj oH) (oj oH) (Ċ oH))
def Nt{bn bB bR:Type}{bk bt bO cb cP d7 ff hh aab:v_}{E:Prop}(b:xU (q0∧rL∧sX∧uV∧xt∧ħ∧aSm∧aSn∧zZ aab))(o:∀I L Z,q0→rL→sX→uV→xt→sD ħ aSm aSn (zZ aab)):E:=ŗ (o I L Z od rB tO vr x_ (nj oH) (oj oH) (ou oH) (qk oH))
def AA{bn bB bR cn:Type}{bk bt:vA}{E:Prop}(b:wj (oL∧oY))(o:∀I L Z x4,oL→oY→E):E:=aTR (o I L Z x4 od qK)
def JO{bn bB bR cn:Type}{bk bt bO:vA}{E:Prop}(b:wj (oL∧oY∧pJ))(o:∀I L Z x4,oL→oY→pJ→E):E:=aTR (yj od rB (nW b))
def ES{bn bB bR cn:Type}{bk bt bO cb:vA}{E:Prop}(b:wj (oL∧oY∧pJ∧qX))(o:∀I L Z x4,sD oL oY pJ qX):E:=aTR (Þ yj od b b b)
def Dc{bn bB bR cn:Type}{bk bt bO cb cP:vA}{E:Prop}(b:wj (oL∧oY∧pJ∧qX∧rI))(o:∀I L Z x4,oL→sD oY pJ qX rI):E:=aTR (yj od rB tO vr oH)
def Dd{bn bB bR cn:Type}{bk bt bO cb cP d7:vA}{E:Prop}(b:wj (oL∧oY∧pJ∧qX∧rI∧uR))(o:∀I L Z x4,oL→oY→sD pJ qX rI uR):E:=aTR (yj od rB tO vr x_ (oH).2)
def Bt{bn bB bR cn:Type}{bk bt bO cb cP d7 ff:vA}{E:Prop}(b:wj (oL∧oY∧pJ∧qX∧rI∧uR∧xq))(o:∀I L Z x4,oL→oY→pJ→sD qX rI uR xq):E:=aTR (yj od (nj b) (oj b) (ou b) x_ (nj oH) (nW oH))
def ET{bn bB bR cn:Type}{bk bt bO cb cP d7 ff hh:vA}{E:Prop}(b:wj (oL∧oY∧pJ∧qX∧rI∧uR∧xq∧ĝ))(o:∀I L Z x4,oL→oY→pJ→qX→sD rI uR xq ĝ):E:=aTR (Þ (yj od (nj b) (oj b) (ou b)) x_ oH oH oH)
def Uz{bn bB bR cn:Type}{bk bt bO cb cP d7 ff hh aab anE anF:vA}{E:Prop}(b:wj (oL∧oY∧pJ∧qX∧rI∧uR∧xq∧ĝ∧aSg∧rQ anE∧rQ anF))(o:∀I L Z x4,oL→oY→pJ→qX→rI→uR→xq→sD ĝ aSg (rQ anE) (rQ anF)):E:=aTR (yj od (nj b) (oj b) (ou b) (oH).1 (nj oH) (oj oH) (ou oH) (qk oH).1 (nj (qk oH)) (nW (qk oH)))
def Bz{bn bB bR cn dd:Type}{bk bt:aTU}{E:Prop}(b:∃I L Z x4 x5,ĳ∧Ĵ)(o:∀I L Z x4 x5,ĳ→Ĵ→E):E:=b.az fun I b=>b.az fun L b=>b.az fun Z b=>b.az fun x4 b=>b.az fun x5 b=>yj x5 od qK
def UA{bn bB bR cn dd:Type}{bk bt bO cb cP:aTU}{E:Prop}(b:∃I L Z x4 x5,ĳ∧Ĵ∧aSx∧aSy∧xV cP)(o:∀I L Z x4 x5,ĳ→sD Ĵ aSx aSy (xV cP)):E:=aPA (b.az fun Z b=>b.az fun x4 b=>b.az fun x5 b=>yj x5 od rB tO vr oH)
def HE{bn bB bR cn dd dR:Type}{bk bt:bn→rF bB bR cn dd dR}{E:Prop}(b:∃I L Z x4 x5 cp,uC bk∧uC bt)(o:∀I L Z x4 x5 cp,uC bk→uC bt→E):E:=aPA (b.az fun Z b=>b.az fun x4 b=>b.az fun x5 b=>b.az fun cp b=>yj x5 cp od qK)
def UB{bn bB bR cn dd dR:Type}{bk bt bO:ć (bR→cn→dd→dR→Prop)}{E:Prop}(b:∃I L Z x4 x5 cp,uC bk∧uC bt∧uC bO)(o:∀I L Z x4 x5 cp,uC bk→uC bt→uC bO→E):E:=aPA (b.az fun Z b=>b.az fun x4 b=>b.az fun x5 b=>b.az fun cp b=>yj x5 cp od rB (nW b))
def F7{bn bB bR cn dd dR ex:Type}{bk bt:ć (rF bR cn dd dR ex)}{E:Prop}(b:∃I L Z x4 x5 cp cZ,s5 oL∧s5 oY)(o:∀I L Z x4 x5 cp cZ,s5 oL→s5 oY→E):E:=ŗ (b.az fun x4 b=>b.az fun x5 b=>b.az fun cp b=>b.az fun cZ b=>yj x5 cp cZ od qK)
def Nu{bn bB bR cn dd dR ex:Type}{bk bt bO:aTQ (dd→dR→ex→Prop)}{E:Prop}(b:∃I L Z x4 x5 cp cZ,s5 oL∧s5 oY∧s5 pJ)(o:∀I L Z x4 x5 cp cZ,s5 oL→s5 oY→s5 pJ→E):E:=ŗ (b.az fun x4 b=>b.az fun x5 b=>b.az fun cp b=>b.az fun cZ b=>yj x5 cp cZ od rB (nW b))
def UC{bn bB bR cn dd dR ex fu f7:Type}{bk bt bO cb cP:aTQ (rF dd dR ex fu f7)}{E:Prop}(b:∃I L Z x4 x5 cp cZ d' ez,pT oL∧pT oY∧pT pJ∧pT qX∧pT rI)(o:∀I L Z x4 x5 cp cZ d' ez,pT oL→sD (pT oY) (pT pJ) (pT qX) (pT rI)):E:=ŗ (b.az fun x4 b=>b.az fun x5 b=>b.az fun cp b=>b.az fun cZ b=>b.az fun d' b=>b.az fun ez b=>aRK yj ez od rB tO vr oH)
def HC{bn bB bR cn dd dR ex fu f7 hR jo lq acj ai3 aL3:Type}{bk:ć (bR→cn→dd→dR→ex→fu→f7→hR→rF jo lq acj ai3 aL3)}{E:Prop}(b:∃I L Z x4 x5 cp cZ d' ez aaN mV aeg ag4 akn aqh,aRK oL ez aaN mV aeg ag4 akn aqh)(o:∀I L Z x4 x5 cp cZ d' ez aaN mV aeg ag4 akn aqh,aRK oL ez aaN mV aeg ag4 akn aqh→E):E:=ŗ (b.az fun x4 b=>b.az fun x5 b=>b.az fun cp b=>b.az fun cZ b=>b.az fun d' b=>b.az fun ez b=>b.az fun aaN b=>b.az fun mV b=>b.az fun aeg b=>b.az fun ag4 b=>b.az fun akn b=>b.az fun aqh b=>aRK yj ez aaN mV aeg ag4 akn aqh b)
@[elab_as_elim]theorem AaC{cg:Type}{f g}{n:cg→Prop}(b:f=g)(H:n f):n g:=b▸H
def Aq{cg:Type}{j:cg}{W:Prop}(b:B=c j):W:=aOk
def C4{cg:Type}{j:cg}{W:Prop}(b:c j=B):W:=aOk
def GR{W:Prop}(b:G=Y):W:=aOk
def BD{W:Prop}(b:Y=G):W:=aOk
def Ak{cg:Type}{j ab:cg}{W:Prop}(b:c j=c ab)(o:j=ab→W):W:=pQ o ap.c.dB
def BJ{h}{W:aR4}(b:W 0)(o:∀q,q<h→W (q+1)):∀q,q<nB→W q:=fun q=>u.ae q (nO b) (fun q Ab=>o q (u.aKd Ab))
def KA{W:aR4}:∀q,q<0→W q:=fun q Ab=>ej Ab (u.aDW q)
def C2{cg}{f:cg}{W:Prop}(o:W)(b:f=f):W:=o
def Db{aI W:Prop}(b:aI)(o:aI→W):W:=o b
set_option genSizeOfSpec true
set_option genInjectivity true
set_option backward.dsimp.useDefEqAttr true
def AE{bk bt bO}(Q:bk)(h2:bt)(h3:bO):bk∧bt∧bO:=⟨Q,h2,h3⟩
def By{bk bt bO cb}(Q:bk)(h2:bt)(h3:bO)(h4:cb):bk∧bt∧bO∧cb:=⟨Q,h2,h3,h4⟩
def JD{bk bt bO cb cP}(Q:bk)(h2:bt)(h3:bO)(h4:cb)(h5:cP):bk∧bt∧bO∧cb∧cP:=⟨Q,h2,h3,h4,h5⟩
def Na{bk bt bO cb cP d7}(Q:bk)(h2:bt)(h3:bO)(h4:cb)(h5:cP)(h6:d7):bk∧bt∧bO∧cb∧cP∧d7:=⟨Q,h2,h3,h4,h5,h6⟩
def Ue{bk bt bO cb cP d7 ff}(Q:bk)(h2:bt)(h3:bO)(h4:cb)(h5:cP)(h6:d7)(h7:ff):bk∧bt∧bO∧cb∧cP∧d7∧ff:=⟨Q,h2,h3,h4,h5,h6,h7⟩
def JE{bk bt bO cb cP d7 ff hh}(Q:bk)(h2:bt)(h3:bO)(h4:cb)(h5:cP)(h6:d7)(h7:ff)(h8:hh):bk∧bt∧bO∧cb∧cP∧d7∧ff∧hh:=⟨Q,h2,h3,h4,h5,h6,h7,h8⟩
def Hs{bk bt bO cb cP d7 ff hh aab}(Q:bk)(h2:bt)(h3:bO)(h4:cb)(h5:cP)(h6:d7)(h7:ff)(h8:hh)(h9:aab):bk∧bt∧bO∧cb∧cP∧d7∧ff∧hh∧aab:=⟨Q,h2,h3,h4,h5,h6,h7,h8,h9⟩
def Ad{bn:Type}{bk bt:đ}(I)(Q:uY)(h2:vZ):∃I,uY∧vZ:=⟨I,Q,h2⟩
def AP{bn:Type}{bk bt bO:đ}(I)(Q:uY)(h2:vZ)(h3:xw):∃I,uY∧vZ∧xw:=⟨I,Q,h2,h3⟩
def Nb{bn:Type}{bk bt bO cb:đ}(I)(Q:uY)(h2:vZ)(h3:xw)(h4:Ī):∃I,uY∧vZ∧xw∧Ī:=⟨I,Q,h2,h3,h4⟩
def Ht{bn:Type}{bk bt bO cb cP:đ}(I)(Q:uY)(h2:vZ)(h3:xw)(h4:Ī)(h5:cP I):∃I,uY∧vZ∧xw∧Ī∧cP I:=⟨I,Q,h2,h3,h4,h5⟩
def JF{bn:Type}{bk bt bO cb cP d7 ff:đ}(I)(Q:uY)(h2:vZ)(h3:xw)(h4:Ī)(h5:cP I)(h6:d7 I)(h7:ff I):∃I,uY∧vZ∧xw∧Ī∧cP I∧d7 I∧ff I:=⟨I,Q,h2,h3,h4,h5,h6,h7⟩
def BN{bn bB:Type}{bk:xQ}(I)(L)(Q:rM):∃I L,rM:=⟨I,L,Q⟩
def AI{bn bB:Type}{bk bt:xQ}(I)(L)(Q:rM)(h2:sY):∃I L,rM∧sY:=⟨I,L,Q,h2⟩
def Au{bn bB:Type}{bk bt bO:xQ}(I)(L)(Q:rM)(h2:sY)(h3:uX):∃I L,rM∧sY∧uX:=⟨I,L,Q,h2,h3⟩
def Bx{bn bB:Type}{bk bt bO cb:xQ}(I)(L)(Q:rM)(h2:sY)(h3:uX)(h4:xv):∃I L,rM∧sY∧uX∧xv:=⟨I,L,Q,h2,h3,h4⟩
def BU{bn bB:Type}{bk bt bO cb cP:xQ}(I)(L)(Q:rM)(h2:sY)(h3:uX)(h4:xv)(h5:ĩ):∃I L,rM∧sY∧uX∧xv∧ĩ:=⟨I,L,Q,h2,h3,h4,h5⟩
def Dp{bn bB:Type}{bk bt bO cb cP d7:xQ}(I)(L)(Q:rM)(h2:sY)(h3:uX)(h4:xv)(h5:ĩ)(h6:aSp):∃I L,rM∧sY∧uX∧xv∧ĩ∧aSp:=⟨I,L,Q,h2,h3,h4,h5,h6⟩
def Hu{bn bB:Type}{bk bt bO cb cP d7 ff hh:xQ}(I)(L)(Q:rM)(h2:sY)(h3:uX)(h4:xv)(h5:ĩ)(h6:aSp)(h7:ff I L)(h8:hh I L):∃I L,rM∧sY∧uX∧xv∧ĩ∧aSp∧ff I L∧hh I L:=⟨I,L,Q,h2,h3,h4,h5,h6,h7,h8⟩
def Nc{bn bB bR:Type}{bk:v_}(I)(L)(Z)(Q:q0):xU q0:=⟨I,L,Z,Q⟩
def A9{bn bB bR:Type}{bk bt:v_}(I)(L)(Z)(Q:q0)(h2:rL):xU (q0∧rL):=⟨I,L,Z,Q,h2⟩
def CA{bn bB bR:Type}{bk bt bO:v_}(I)(L)(Z)(Q:q0)(h2:rL)(h3:sX):xU (q0∧rL∧sX):=⟨I,L,Z,Q,h2,h3⟩
def CU{bn bB bR:Type}{bk bt bO cb:v_}(I)(L)(Z)(Q:q0)(h2:rL)(h3:sX)(h4:uV):xU (q0∧rL∧sX∧uV):=⟨I,L,Z,Q,h2,h3,h4⟩
def CH{bn bB bR:Type}{bk bt bO cb cP:v_}(I)(L)(Z)(Q:q0)(h2:rL)(h3:sX)(h4:uV)(h5:xt):xU (q0∧rL∧sX∧uV∧xt):=⟨I,L,Z,Q,h2,h3,h4,h5⟩
def Cn{bn bB bR:Type}{bk bt bO cb cP d7:v_}(I)(L)(Z)(Q:q0)(h2:rL)(h3:sX)(h4:uV)(h5:xt)(h6:ħ):xU (q0∧rL∧sX∧uV∧xt∧ħ):=⟨I,L,Z,Q,h2,h3,h4,h5,h6⟩
def Uf{bn bB bR:Type}{bk bt bO cb cP d7 ff hh:v_}(I)(L)(Z)(Q:q0)(h2:rL)(h3:sX)(h4:uV)(h5:xt)(h6:ħ)(h7:aSm)(h8:aSn):xU (q0∧rL∧sX∧uV∧xt∧ħ∧aSm∧aSn):=⟨I,L,Z,Q,h2,h3,h4,h5,h6,h7,h8⟩
def Ug{bn bB bR:Type}{bk bt bO cb cP d7 ff hh aab:v_}(I)(L)(Z)(Q:q0)(h2:rL)(h3:sX)(h4:uV)(h5:xt)(h6:ħ)(h7:aSm)(h8:aSn)(h9:zZ aab):xU (q0∧rL∧sX∧uV∧xt∧ħ∧aSm∧aSn∧zZ aab):=⟨I,L,Z,Q,h2,h3,h4,h5,h6,h7,h8,h9⟩
def Hv{bn bB bR cn:Type}{bk:vA}(I)(L)(Z)(x4)(Q:oL):wj oL:=⟨I,L,Z,x4,Q⟩
def AQ{bn bB bR cn:Type}{bk bt:vA}(I)(L)(Z)(x4)(Q:oL)(h2:oY):wj (oL∧oY):=⟨I,L,Z,x4,Q,h2⟩
def Hw{bn bB bR cn:Type}{bk bt bO:vA}(I)(L)(Z)(x4)(Q:oL)(h2:oY)(h3:pJ):wj (oL∧oY∧pJ):=⟨I,L,Z,x4,Q,h2,h3⟩
def EO{bn bB bR cn:Type}{bk bt bO cb:ć (t4 bR cn)}(I)(L)(Z)(x4)(Q:oL)(h2:oY)(h3:pJ)(h4:qX):wj (oL∧oY∧pJ∧qX):=⟨I,L,Z,x4,Q,h2,h3,h4⟩
def JG{bn bB bR cn:Type}{bk bt bO cb cP:vA}(I)(L)(Z)(x4)(Q:oL)(h2:oY)(h3:pJ)(h4:qX)(h5:rI):wj (oL∧oY∧pJ∧qX∧rI):=⟨I,L,Z,x4,Q,h2,h3,h4,h5⟩
def JH{bn bB bR cn:Type}{bk bt bO cb cP d7:vA}(I)(L)(Z)(x4)(Q:oL)(h2:oY)(h3:pJ)(h4:qX)(h5:rI)(h6:uR):wj (oL∧oY∧pJ∧qX∧rI∧uR):=⟨I,L,Z,x4,Q,h2,h3,h4,h5,h6⟩
def Cs{bn bB bR cn:Type}{bk bt bO cb cP d7 ff:vA}(I)(L)(Z)(x4)(Q:oL)(h2:oY)(h3:pJ)(h4:qX)(h5:rI)(h6:uR)(h7:xq):wj (oL∧oY∧pJ∧qX∧rI∧uR∧xq):=⟨I,L,Z,x4,Q,h2,h3,h4,h5,h6,h7⟩
def Dq{bn bB bR cn:Type}{bk bt bO cb cP d7 ff hh:vA}(I)(L)(Z)(x4)(Q:oL)(h2:oY)(h3:pJ)(h4:qX)(h5:rI)(h6:uR)(h7:xq)(h8:ĝ):wj (oL∧oY∧pJ∧qX∧rI∧uR∧xq∧ĝ):=⟨I,L,Z,x4,Q,h2,h3,h4,h5,h6,h7,h8⟩
def Ui{bn bB bR cn:Type}{bk bt bO cb cP d7 ff hh aab:vA}(I)(L)(Z)(x4)(Q:oL)(h2:oY)(h3:pJ)(h4:qX)(h5:rI)(h6:uR)(h7:xq)(h8:ĝ)(h9:aSg):wj (oL∧oY∧pJ∧qX∧rI∧uR∧xq∧ĝ∧aSg):=⟨I,L,Z,x4,Q,h2,h3,h4,h5,h6,h7,h8,h9⟩
def Uh{bn bB bR cn:Type}{bk bt bO cb cP d7 ff hh aab anE anF:vA}(I)(L)(Z)(x4)(Q:oL)(h2:oY)(h3:pJ)(h4:qX)(h5:rI)(h6:uR)(h7:xq)(h8:ĝ)(h9:aSg)(kB:rQ anE)(aB2:rQ anF):wj (oL∧oY∧pJ∧qX∧rI∧uR∧xq∧ĝ∧aSg∧rQ anE∧rQ anF):=⟨I,L,Z,x4,Q,h2,h3,h4,h5,h6,h7,h8,h9,kB,aB2⟩
def Bk{bn bB bR cn dd:Type}{bk bt:aTU}(I)(L)(Z)(x4)(x5)(Q:ĳ)(h2:Ĵ):∃I L Z x4 x5,ĳ∧Ĵ:=⟨I,L,Z,x4,x5,Q,h2⟩
def Nd{bn bB bR cn dd:Type}{bk bt bO cb:aTU}(I)(L)(Z)(x4)(x5)(Q:ĳ)(h2:Ĵ)(h3:aSx)(h4:aSy):∃I L Z x4 x5,ĳ∧Ĵ∧aSx∧aSy:=⟨I,L,Z,x4,x5,Q,h2,h3,h4⟩
def Uj{bn bB bR cn dd:Type}{bk bt bO cb cP:aTU}(I)(L)(Z)(x4)(x5)(Q:ĳ)(h2:Ĵ)(h3:aSx)(h4:aSy)(h5:xV cP):∃I L Z x4 x5,ĳ∧Ĵ∧aSx∧aSy∧xV cP:=⟨I,L,Z,x4,x5,Q,h2,h3,h4,h5⟩
def Ne{bn bB bR cn dd:Type}{bk bt bO cb cP d7 ff:aTU}(I)(L)(Z)(x4)(x5)(Q:ĳ)(h2:Ĵ)(h3:aSx)(h4:aSy)(h5:xV cP)(h6:xV d7)(h7:xV ff):∃I L Z x4 x5,ĳ∧Ĵ∧aSx∧aSy∧xV cP∧xV d7∧xV ff:=⟨I,L,Z,x4,x5,Q,h2,h3,h4,h5,h6,h7⟩
def Hx{bn bB bR cn dd dR:Type}{bk bt:bn→rF bB bR cn dd dR}(I)(L)(Z)(x4)(x5)(cp)(Q:uC bk)(h2:uC bt):∃I L Z x4 x5 cp,uC bk∧uC bt:=⟨I,L,Z,x4,x5,cp,Q,h2⟩
def Uk{bn bB bR cn dd dR:Type}{bk bt bO:bn→rF bB bR cn dd dR}(I)(L)(Z)(x4)(x5)(cp)(Q:uC bk)(h2:uC bt)(h3:uC bO):∃I L Z x4 x5 cp,uC bk∧uC bt∧uC bO:=⟨I,L,Z,x4,x5,cp,Q,h2,h3⟩
def Nf{bn bB bR cn dd dR ex:Type}{bk bt:ć (rF bR cn dd dR ex)}(I)(L)(Z)(x4)(x5)(cp)(cZ)(Q:s5 oL)(h2:s5 oY):∃I L Z x4 x5 cp cZ,s5 oL∧s5 oY:=⟨I,L,Z,x4,x5,cp,cZ,Q,h2⟩
def Ng{bn bB bR cn dd dR ex:Type}{bk bt bO:ć (rF bR cn dd dR ex)}(I)(L)(Z)(x4)(x5)(cp)(cZ)(Q:s5 oL)(h2:s5 oY)(h3:s5 pJ):∃I L Z x4 x5 cp cZ,s5 oL∧s5 oY∧s5 pJ:=⟨I,L,Z,x4,x5,cp,cZ,Q,h2,h3⟩
def Ul{bn bB bR cn dd dR ex fu f7:Type}{bk bt bO cb cP:aTQ (rF dd dR ex fu f7)}(I)(L)(Z)(x4)(x5)(cp)(cZ)(d')(ez)(Q:pT oL)(h2:pT oY)(h3:pT pJ)(h4:pT qX)(h5:pT rI):∃I L Z x4 x5 cp cZ d' ez,pT oL∧pT oY∧pT pJ∧pT qX∧pT rI:=⟨I,L,Z,x4,x5,cp,cZ,d',ez,Q,h2,h3,h4,h5⟩
def JI{bn bB bR cn dd dR ex fu f7:Type}{bk bt bO cb cP d7 ff hh aab:aTQ (rF dd dR ex fu f7)}(I)(L)(Z)(x4)(x5)(cp)(cZ)(d')(ez)(Q:pT oL)(h2:pT oY)(h3:pT pJ)(h4:pT qX)(h5:pT rI)(h6:pT uR)(h7:pT xq)(h8:pT ĝ)(h9:pT aSg):∃I L Z x4 x5 cp cZ d' ez,pT oL∧pT oY∧pT pJ∧pT qX∧pT rI∧pT uR∧pT xq∧pT ĝ∧pT aSg:=⟨I,L,Z,x4,x5,cp,cZ,d',ez,Q,h2,h3,h4,h5,h6,h7,h8,h9⟩
set_option genSizeOfSpec false
set_option genInjectivity false
set_option backward.dsimp.useDefEqAttr false
def Lg{gn}{x}{j}{ac}(i:r (u×ea×gn)):ant i x j=c ac→(x,j,ac)∈i:=by refine aPV (u×ea×gn) (te (ant i x j=c ac→(x,j,ac)∈i)) (oE aOk) (fun t i ih=>?_) i;show@N.ae (p' (ap gn)) (u.acv ox x&&nj t==j) (ant i x j) (c (nW t))=c ac→_;rw[pI d (u.acv ox x&&nj t==j) (by rw[nR];have a:=aOE d;simp only[←ap.c.dB b,←u.aox a.1,←acz a.2];exact uA) (by exact oE (aQX Ű))]
set_option tactic.hygienic false
structure eW where
 bN:rC d8 d8
 fL:r d8 deriving gN
noncomputable instance:gN lT:=⟨{}⟩
noncomputable instance:gN en:=⟨{}⟩
noncomputable instance:gN kc:=⟨⟨wW 0,{strHash:=nO 0,shareClass:=nO 0,mergeTok:=id,gG:=nO 0,idOfShared:=wW 0,aHo:=nO Y,idOfImm:=nO 0}⟩⟩
noncomputable instance:gN aF1:=⟨fP (gw.choice aJA) (gw.choice aJA)⟩
abbrev eW.e_(X:eW)(n:d8×d8):eW:=⟨X.bN++[n],X.fL⟩
abbrev g6(X:rC d8 d8)(g:d8):Prop:=∃n∈X,g=nk∨g=nh
abbrev ka(X:eW)(g:d8):Prop:=¬ō∧g∉X.fL
def Dz:∀{X d}{g},g6 (X++d) g↔g6 X g∨g6 d g:=by injections X d g;unfold g6;constructor;rw[mY J,sE,ng];rintro n ba b;rw[nt (r.aeP.mp ba),rd,m9,rd,m8,mW .bT (Ad n t b),mW (rt (Ad n t b))];rintro(⟨n,ba,b⟩|⟨n,ba,b⟩);rw[mW Ad n (r.alz _ ba) b,mW Ad n (r.ar7 _ ba) b]
mutual
abbrev db(b:b8)(X:eW):t4 ar ck|.B,y=>y=.B|qA,y=>y=qA|n',y=>∃v,y=u2 q|ur,y=>∃v,y=.bi (af.bH.dF k) v|o9,y=>∃f p xs h,y=si∧ka X f∧tN f∧p.eY=p3 "tuple"∧p.fS=.ia xs h∧tU∧d4 b X i xs.e0|q1,y=>∃f p xs h,y=si∧ka X f∧tN f∧p.eY=p3 "list"∧p.fS=.ia xs h∧tU∧d4 b X i xs.e0|n3,y=>∃n,wd∧y=nP nk
abbrev d4(b:b8)(X:eW):t4 nC vm|[],vs=>vs=[]|qi,vs=>∃y l,vs=y::l∧db b X j y∧d4 b X xs l
end
abbrev hK(p:k_):N:=oo p.fS (.ia ..) G Y
structure j1(b h':b8)(X cv:eW):Prop where
 ia:∀g p,v1→hK p=G→ka X g→ĭ∧ka cv g
 i3:∀(q:u)(n:d8×d8),wd→op cv.bN n
structure iz(cL:d8→Prop)(b h':b8)(X cv:eW):Prop where
 fx:∀g p,v1→¬cL g→¬ō→ĭ
 ix:aUV (∃o',h'.bg g=c o')
 xs:∀g p,cL g→v1→aPz∧∀o',h'.bg g=c o'→hK o'=Y
 aey:∃d,cv.bN=X.bN++d∧∀g,g6 d g→b.bg g=B
 fL:cv.fL=X.fL
def iz.fI{cL}{b}{X}(J:∀g p,cL g→v1→aPz):iz cL b b X X:=⟨fun P P d P P=>d,fun P p d=>xc,fun g p j d=>⟨J g p j d,aN6 (J g o' j a5)⟩,aPu,e⟩
def iz.ah{cL}{b Q h2}{X cX g5}(f:iz cL b Q X cX)(g:iz cL Q h2 cX g5):iz cL b h2 X g5:=by rw[oz f.aey aV A1 gE,oz g.aey bj BR f2,mX ⟨fun x p d j V=>?_,fun x p d=>?_,fun x p j d=>?_,(Ad (aV++bj) (by rw[BR,A1,r.abO]) (fun x hc=>?_)),g.fL.ah f.fL⟩,mX g.fx x p (f.fx x p d j V) j fun t=>?_];rw[A1]at t;rw[nt (Dz.mp t),rd,m9,rd,m8,mW V t];rw[gE x t]at d;rw[Ğ d,n4 (f.ix x p d) j8 aV,mW g.ix x _ aV,vi (f.xs x p j d).1 (fun o' a5=>?_),n4 (f.ix x p d) j8 d6,mW (g.xs x _ j d6).2 _ a5,nt (Dz.mp hc),rd,m9,rd,m8,mW gE x t,vz cG (b.bg x) (by rw[n4 (f.ix x p cG) j8 d6];rw[f2 x t]at d6;rw[pd d6])]
def iz.i3{cL}{b h'}{X cv}(j:aPk){q:u}{n}(d:wd):op cv.bN n:=by rw[oz j.aey aV A1 P,A1,r.jP (aOC d),mW d]
def iz.Cw{cL}{b h'}{X cv}(j:aPk){f}{p}(d:tN f)(h:¬g6 X.bN f):¬g6 cv.bN f:=by rw[oz j.aey aV A1 ac,mY t];rw[A1]at t;rw[nt (Dz.mp t),rd,m9,rd,m8,mW h t];rw[ac f t]at d;rw[pd d]
def iz.hP{cL}{b h'}{X cv}(j:aPk){f}{p}(d:tN f)(h:ka X f):ka cv f:=⟨j.Cw d h.1,nb j.fL h.2⟩
def iz.Aw{cL}{b h'}{X cv}(j:aPk):aPr:=by rw[vi (fun g p d hs no=>⟨j.fx g p d (fun t=>?_) no.1,j.hP d no⟩) (fun q n=>j.i3)];rw[(j.xs g p t d).1]at hs;rw[wO hs]
mutual variable{cL:d8→Prop}{b h':b8}{X cv:eW}
mutual
def db.AS(j:aPr):∀{f:ar}{y:ck},db b X f y→db h' cv f y|.B,_,l=>l|vq,_,l=>l|xl,_,l=>l|uW,_,l=>l|o9,_,l=>by rw[Ù,n2];(rintro f p xs h e no d hc hd aB t);rw[ot (j.ia f p d (ĺ hK hd) no) a5 alF,mW Cs f p _ h e alF a5 hc hd aB (d4.AS j t)]|q1,_,l=>by rw[Ù,n2];(rintro f p xs h e no d hc hd aB t);rw[ot (j.ia f p d (ĺ hK hd) no) a5 alF,mW Cs f p _ h e alF a5 hc hd aB (d4.AS j t)]|n3,_,l=>by rw[m3 Ac l,n2];rintro n d e;exact(Ad n (tj j.i3) e)
def d4.AS(j:aPr):∀{i:nC}{vs:vm},yB→aTB d4 vs|[],_,l=>l|tq,_,l=>by rw[tR,n2,aPj,mW Au y _ e (db.AS j f) (d4.AS j g)]
end
def db.bx(j:aPk){f}{y}(l:db b X f y):db h' cv f y:=db.AS j.Aw l
def d4.bx(j:aPk){i}{vs}(l:yB):aTB d4 vs:=d4.AS j.Aw l
end
def d4.z{b}{X}:wD vs (yB→vs.z=i.z)|[],_,l=>aSl|tq,_,l=>by rw[tR,n2];rintro y cy e _ g;simp[g.z]
def d4.i3{b}{X}:∀{i}{vs}{q:u}{f},yB→op i f→∃y,op vs y∧db b X f y|[],_,_,_,_,d=>by simp at d|tq,_,0,_,l,d=>by rw[tR,n2];(rintro y cy e t g);simp at d;rw[oT,mW Ad y e t]|tq,_,q+1,_,l,d=>by rw[tR,n2];rintro y cy e t g;simp only[r.agv]at d⊢;exact g.i3 d
def d4.hq{b}{X}:∀{i H}{vs asC},yB→d4 b X H asC→d4 b X (i++H) (vs++asC)|[],_,_,_,l,t=>by rw[tF,mW t]|tq,_,_,_,l,t=>by rw[tR,n2,aPj,mW Au y (cy++_) e f (g.hq t)]
def d4.gu{b}{X}:∀{i}{vs}(h),yB→d4 b X (i.gu h) (vs.gu h)|_,_,0,_=>uJ|[],_,_+1,l=>aSl|tq,_,nB,l=>by rw[tR,n2,aPj,mW Au y _ e f (g.gu h)]
def d4.cF{b}{X}:∀{i}{vs}(h),yB→d4 b X (i.cF h) (vs.cF h)|_,_,0,l=>o7 l|[],_,_+1,l=>aSl|tq,_,nB,l=>by rw[tR,n2,aPj];simpa using g.cF h
def d4.aba{b}{X}:wD vs (yB→d4 b X i.aba vs.aba)|[],_,l=>aSl|tq,_,l=>by rw[tR,n2,aPj];simp only[r.apY,r.apY];exact g.aba.hq (Au y _ e f e)
def d4.b6{b}{X}{f}{y}(t:db b X f y):∀{i}{vs}(q),yB→d4 b X (i.b6 q f) (vs.b6 q y)|[],_,_,l=>aSl|tq,_,0,l=>by rw[tR,n2];(rintro fD cy e _ g);exact(Au y _ e t g)|tq,_,q+1,l=>by rw[tR,n2];rintro fD cy e f g;exact(nM Au e f (d4.b6 t q g))
mutual
abbrev awK:ar→aGj|n'=>n'|ur=>.bi (af.bH.dF k)|o9=>.anw (alV i)|q1=>uE alV i|_=>.B
abbrev alV:nC→r aGj|[]=>[]|qi=>awK j::alV xs
end
def Ach:alV []=[]:=e
def Aci(j)(xs):alV qi=awK j::alV xs:=e
abbrev auC(V:kc)(o:ar):R:=hashW V.dX (awK o)
def Fg(k):(af.bH.dF k).cps=(k.e0.au al7.es).mT:=sh bH.ofString_eq_byList
def SY{f g:al7}(b:f.es=g.es):f=g:=by apply al7.aaW;exact aGh.toNat_inj.mp b
def OG:∀{i H:r al7},i.au al7.es=H.au al7.es→i=H|[],[],_=>e|[],tq,b=>by rw[Ē]|tq,[],b=>by rw[Ē]|f::i,g::H,b=>by rw[sB r.gI r.s.fV,SY od,OG qK]
def Gx{k v}(b:af.bH.dF k=af.bH.dF v):k=v:=by rw[m1 ((k.e0.au _).mT=(v.e0.au _).mT) (by rw[←Fg,←Fg,b]),mY t,m2 (o7 t),mY da,mW ea.aEV.mp (OG da)]
def AbW(k):aWr jz.strOk k=G:=by unfold jz.strOk;rw[Fg];rw[←fE.all_toList,r.hp,mY x hc,so r.fq.mp hc,mZ hc];rintro aj _ e;rw[m2 aj.valid,m5,m1 (aj.es<0x110000) (by unfold al7.es;(rw[nY aa aa,rd,m9,mY J,nV,ng];rintro _ t;rw[m8])<;>(simp only[aGh.es]at*;omega)),mY h2];simpa using h2
mutual
abbrev ko:ar→jz|n'=>n'|ur=>.bi (af.bH.dF k)|o9=>.anw (abc i)|q1=>uE abc i|_=>.B
abbrev abc:nC→r jz|[]=>[]|qi=>ko j::abc xs
end
def Ef:∀q,ko n'=n':=rp
def Eg:∀k,ko ur=.bi (af.bH.dF k):=rp
def Eh:∀i,ko o9=.anw (abc i):=rp
def Ei:∀i,ko q1=uE abc i:=rp
def Ej:ko .B=.B:=e
def Ek:∀g,ko qA=.B:=rp
def El:∀g,ko (.D g)=.B:=rp
def Qc:abc []=([]):=e
def Qd:∀j xs,abc qi=(ko j::abc xs):=pS
mutual
def GL{b:b8}{X:eW}:∀{f:ar}{y:ck}(h:u),db b X f y→f.i6 h=G→∃as,aF9 b y (ko f) as|n',_,_,l,_=>by rw[m3 Al l,n2,sK,mW (qo (u2 q))]|ur,_,_,l,_=>by rw[m3 Al l,n2,sK,mW (qo (.bi _ v))]|o9,_,h,l,o=>(aUi o (by rw[Ù,n2];rintro f p xs H e _ d hc hd _ t;rw[n4 (GK h t (m4 o)) as a,mW (qo (.anw d hc hd a))]))|q1,_,h,l,o=>(aUi o (by rw[Ù,n2];rintro f p xs H e _ d hc hd _ t;rw[n4 (GK h t (m4 o)) as a,mW (qo (.aw d hc hd a))]))|.B,_,h,_,o=>zU|vq,_,h,_,o=>zU|vT,_,h,_,o=>zU
def GK{b:b8}{X:eW}:∀{i:nC}{vs:vm}(h:u),yB→ar.kP h i=G→∃as,aGa b vs (abc i) as|[],_,_,l,_=>by rw[tF,mW (qo .C)]|qi,_,h,l,o=>by rw[tR,n2,aPj,aR6 Eq Er o,n4 (GL h f o.1) as aw3,n4 (GK h g o.2) bq aw4,mW (qo (.s aw3 aw4))]
end
mutual
def D6:∀{f:ar}(h:u),f.i6 h=G→jz.aqV (ko f)=G∧(ko f).i1≤h|n',_,_=>qg|ur,_,_=>by simp[Ef,Eg,Eh,Ei,Ej,Ek,El,jz.aqV,jz.i1,AbW]|o9,h,o=>(aUi o (by have t:=H4 h (i:=i) (m4 o);rw[m2 oI,mY da];simp only[Ef,Eg,Eh,Ei,Ej,Ek,El,jz.aqV,jz.i1,ox,ace];omega))|q1,h,o=>(aUi o (by have t:=H4 h (i:=i) (m4 o);rw[m2 oI,mY da];simp only[Ef,Eg,Eh,Ei,Ej,Ek,El,jz.aqV,jz.i1,ox,ace];omega))|.B,h,o=>zU|vq,h,o=>zU|vT,h,o=>zU
def H4:∀{i:nC}(h:u),ar.kP h i=G→jz.azb (abc i)=G∧jz.azV (abc i)≤h|[],_,_=>qg|qi,h,o=>by rw[aR6 Eq Er o];have f:=D6 h o.1;have g:=H4 h o.2;rw[m2 f.2,mY a2,m2 g.2,mY dn];simp only[Qc,Qd,jz.azb,jz.azV,f.1,g.1,N.aen,ace];exact rW u.aDN.2 a2 dn
end
mutual
def JL:∀{f g:ar}(h o:u),f.i6 h=G→g.i6 o=G→(jz.ahp (ko f) (ko g)=G↔f=g)|n',g,h,o,_,U=>(by induction g using ar.ae with|m aq=>simp[Ef,Eg,Eh,Ei,Ej,Ek,El,jz.ahp]|bi v=>rw[qz]|ay H=>rw[qz]|bm H=>rw[qz]|_=>rw[Ĉ o (yX U)])|ur,g,h,o,_,U=>(by induction g using ar.ae with|m aq=>rw[qz]|bi v=>simp only[Ef,Eg,Eh,Ei,Ej,Ek,El,jz.ahp,ar.bi.fV,lb];exact⟨oE (Gx b),oE (by rw[b])⟩|ay H=>rw[qz]|bm H=>rw[qz]|_=>rw[Ĉ o (yX U)])|o9,g,h,o,a_,U=>(by induction g using ar.ae with|m aq=>rw[qz]|bi v=>rw[qz]|ay H=>(rw[uL h (by rw[qT a_]) h (by rw[uL o (by rw[qT U]) o (by simp only[Ef,Eg,Eh,Ei,Ej,Ek,El,jz.ahp,ar.ay.fV];exact JK h o (m4 a_) (m4 U))])])|bm H=>rw[qz]|_=>rw[Ĉ o (yX U)])|q1,g,h,o,a_,U=>(by induction g using ar.ae with|m aq=>rw[qz]|bi v=>rw[qz]|bm H=>(rw[uL h (by rw[qT a_]) h (by rw[uL o (by rw[qT U]) o (by simp only[Ef,Eg,Eh,Ei,Ej,Ek,El,jz.ahp,ar.bm.fV];exact JK h o (m4 a_) (m4 U))])])|ay H=>rw[qz]|_=>rw[Ĉ o (yX U)])|.B,_,h,_,b,_=>by rw[Ĉ h (N.cs b)]|vq,_,h,_,b,_=>by rw[Ĉ h (N.cs b)]|vT,_,h,_,b,_=>by rw[Ĉ h (N.cs b)]
def JK:∀{i H:nC}(h o:u),ar.kP h i=G→ar.kP o H=G→(jz.eqvAll (abc i) (abc H)=G↔i=H)|[],H,_,_,_,_=>by induction H using r.ae<;>(rw[qz])|qi,H,h,o,a_,U=>by rw[oS H (by rw[qz]) ab k7 (by simp only[Eq,Er,N.c3]at a_ U;rw[m2 (JL h o a_.1 U.1),mY d6,m2 (JK h o a_.2 U.2),mY da];simp only[Qc,Qd,jz.eqvAll,N.c3,d6,da,r.s.fV])]
end
mutual
def FX:∀{f:ar}(h:u),f.im h=G→f.i6 h=G|xl,h,_=>by rw[ĉ h u.ae]|uW,h,_=>by rw[ĉ h u.ae]|o9,h,o=>(aUi o (by exact M0 h (by simpa[Lz,LA,LB,LC,LD,LE,LF,LG]using o)))|oh _,h,o=>zU|.B,h,o=>zU|vq,h,o=>zU|vT,h,o=>zU
def M0:∀{i:nC}(h:u),ar.abP h i=G→ar.kP h i=G|[],_,_=>uJ|qi,h,o=>by rw[aR6 Es Et o];simp only[Eq,Er,N.c3];exact⟨FX h o.1,M0 h o.2⟩
end
mutual
abbrev acn(b:b8):t4 ar ck|n',y=>∃v,y=u2 q|ur,y=>∃v,y=.bi (af.bH.dF k) v|o9,y=>∃f p xs h,y=si∧tN f∧p.eY=p3 "tuple"∧p.fS=.ia xs h∧aco b i xs.e0|_,_=>aks
abbrev aco(b:b8):t4 nC vm|[],vs=>vs=[]|qi,vs=>∃y l,vs=y::l∧acn b j y∧aco b xs l
end
mutual
def acn.dB{b:b8}:∀{j ab:ar}{y:ck},acn b j y→acn b ab y→j=ab|n',ab,y,f,g=>(by rw[o8 f,mZ f,oc v];induction ab using ar.ae with|m aq=>rw[uy g aP d,mZ g];injection d with I L;rw[pi,qD];rfl|bi k=>rw[o8 g,mY aP d,yc]|ay i=>rw[m3 AA g];intro _ _ _ _ d _;rw[yc]|_=>cases g)|ur,ab,y,f,g=>(by rw[o8 f,mZ f,oc v];induction ab using ar.ae with|m aq=>rw[o8 g,mY aP d,yc]|bi s'=>rw[o8 g,mY aP d];injection d with aV _;rw[Gx aV]|ay i=>rw[m3 AA g];intro _ _ _ _ d _;rw[yc]|_=>cases g)|o9,ab,y,f,g=>(by rw[m3 Dc f,mZ f];rintro ad p xs h e d _ hd t;induction ab using ar.ae with|m aq=>rw[o8 g,oA,mY aP d,yc]|bi s'=>rw[o8 g,oA,mY aP d,yc]|ay H=>rw[m3 Dc g,mY aMG o' aqi aiL aV bj _ ad1 er,mZ akz,p2 aV,pi];rw[d]at bj;rw[nf bj,mZ bj,mY bj];subst bj;rw[hd]at ad1;injection ad1 with I L;rw[pi,qD,aco.dB t er]|_=>cases g)|.B,_,_,f,_=>ŉ|vq,_,_,f,_=>ŉ|oh _,_,_,f,_=>ŉ|vT,_,_,f,_=>ŉ
def aco.dB{b:b8}:∀{j ab:nC}{y:vm},aco b j y→aco b ab y→j=ab|[],[],_,_,_=>e|[],tq,_,f,g=>by subst f;rw[mX AR g fun P P d P=>?_,yc]|tq,[],_,f,g=>by subst g;rw[m3 AR f];intro _ _ d _;rw[yc]|qi,ab::k7,_,f,g=>by rw[m3 At f,mZ f];rintro y l e a1 a2;rw[m3 At g,mY fD r' d c6 dn];injection d with I L;rw[pi,qD,acn.dB a1 c6,aco.dB a2 dn]
end
mutual
def acn.g0{b h':b8}{aj:d8}{acQ:k_}{Aa:fE ag7}{ep:u}(ho:b.bg aj=c acQ)(hd:acQ.fS=.bE Aa ep)(hs:aS5):∀{j:ar}{y:ck},acn b j y→acn h' j y|xl,_,f=>f|uW,_,f=>f|o9,_,f=>by rw[m3 Dc f,mZ f];(rintro ad p xs h e d hc cG t);(have dw:ad≠aj:=rb (by rw[mZ hs,uf];rw[ho]at d;rw[mZ hc,nf d,mZ d,mY d,oT];rw[hd]at cG;injection cG));exact(JG _ p _ h e ((hs.2 _ dw).ah d) hc cG (aco.g0 ho hd hs t))|.B,_,f=>ŉ|vq,_,f=>ŉ|oh _,_,f=>ŉ|vT,_,f=>ŉ
def aco.g0{b h':b8}{aj:d8}{acQ:k_}{Aa:fE ag7}{ep:u}(ho:b.bg aj=c acQ)(hd:acQ.fS=.bE Aa ep)(hs:aS5):∀{j:nC}{y:vm},aco b j y→aco h' j y|[],_,f=>f|tq,_,f=>by rw[m3 At f,mZ f];rintro y l e a1 a2;exact(Au y l e (acn.g0 ho hd hs a1) (aco.g0 ho hd hs a2))
end
mutual
def K4{b:b8}:∀{f:ar}{y:ck},acn b f y→∃as,aF9 b y (ko f) as|n',_,l=>by rw[m3 Al l,n2,sK,mW (qo (u2 q))]|ur,_,l=>by rw[m3 Al l,n2,sK,mW (qo (.bi _ v))]|o9,_,l=>by rw[m3 Dc l,n2];(rintro f p xs H e d hc hd t);rw[n4 (PJ t) as a,mW (qo (.anw d hc hd a))]|.B,_,f=>ŉ|vq,_,f=>ŉ|oh _,_,f=>ŉ|vT,_,f=>ŉ
def PJ{b:b8}:∀{i:nC}{vs:vm},aco b i vs→∃as,aGa b vs (abc i) as|[],_,l=>by rw[tF,mW (qo .C)]|qi,_,l=>by rw[tR,n2,aPj,n4 (K4 f) as aw3,n4 (PJ g) bq aw4,mW (qo (.s aw3 aw4))]
end
mutual
def db.dx{b:b8}{X:eW}:∀{f:ar}{y:ck}(h:u),db b X f y→f.im h=G→acn b f y|xl,_,_,l,_=>l|uW,_,_,l,_=>l|o9,_,h,l,o=>(aUi o (by rw[Ù,n2];rintro f p xs H e _ d hc hd _ t;exact(JG f p _ H e d hc hd (d4.dx h t (m4 o)))))|.B,_,h,_,o=>zU|vq,_,h,_,o=>zU|oh _,_,h,_,o=>zU|vT,_,h,_,o=>zU
def d4.dx{b:b8}{X:eW}:∀{i:nC}{vs:vm}(h:u),yB→ar.abP h i=G→aco b i vs|[],_,_,l,_=>l|qi,_,h,l,o=>by rw[tR,n2,aPj,aR6 Es Et o,mW Au y _ e (db.dx h f o.1) (d4.dx h g o.2)]
end
mutual
abbrev aq7:sf ar|o9=>aoq i+1|_=>1
abbrev aoq:sf nC|[]=>0|qi=>aq7 j+aoq xs
end
def Ua(j)(xs):aoq qi=aq7 j+aoq xs:=e
mutual variable{b':aej}{V:kc}{bb:ux}
set_option maxRecDepth 100000 in
mutual
def PD:∀(o:ar)(y:ck)(aI:lT)(k:en)(h:u)(aW:t7 R),o.im h=G→acn k.aK o y→aI.ib+h+2<mj→aW (auC V o) (aNR (k.ce+aq7 o))→aSE (av6 y)|n',_,aI,k,h,aW,_,j,_,b=>by rw[o8 j,mZ j,sK,tC wpAny_pyHash_int,m1 (auC V n'=auB q) (hashW_int _ q),mY d,←d,mW b]|og ab,_,aI,k,h,aW,_,j,_,b=>by rw[o8 j,mZ j,sK,mW wpAny_pyHash_str b]|nE xs,_,aI,k,h,aW,aG,j,cK,b=>(aUi aG (by rw[m3 Dc j,mZ j];rintro f p vs H e hg hc hd eh;refine pyHash_slot (O:="tuple") (ql hg hc) aN.slot_tuple_hash aN.entry_tuple_hash (aN.args_tuple_hash_1 _) (beq_builtin_none _) (rt (m4 (oa Ag [aI.ib,h,mj] S a8 (tS+2) a8 e cK))) ?_;rw[ő (gM.ac4.aLr _>>=_),mX dH (wpAny_tupleItemsOf hg hd ?_),tC dH,←fE.aHp,mX NM xs vs.e0 aI.in1 k #[] h _ (m4 aG) eh (yg lT.aJz (oa Ag [aI.ib,h,mj] (zr+2) a8 (tS+2) a8 e cK)) fun g U=>?_,m6 (m7 (sb d3 (retInt _) _)),U,mX dH (asK (fX (nM AI e ?_))),mW b]))|.B,_,aI,k,h,aW,aG,_,_,_=>by rw[Ĉ h (yX aG)]|vq,_,aI,k,h,aW,aG,_,_,_=>by rw[Ĉ h (yX aG)]|oh _,_,aI,k,h,aW,aG,_,_,_=>by rw[Ĉ h (yX aG)]|vT,_,aI,k,h,aW,aG,_,_,_=>by rw[Ĉ h (yX aG)]
def NM:∀(xs:nC)(vs:vm)(aI:lT)(k:en)(g:fE R)(h:u)(aW:t7 (fE R)),ar.abP h xs=G→aco k.aK xs vs→aI.ib+h+2<mj→(∀bZ,bZ.e0=g.e0++aCl V.dX (alV xs)→aW bZ (aNR (k.ce+aoq xs)))→aSE (are vs g fun j l=>do let b←av6 j;km aMv.unit;km (pQ ama.anC l.g'))|[],_,aI,k,g,h,aW,_,j,_,b=>by subst j;exact fX (b g (by simp[Ach,aCl]))|o::xs,_,aI,k,g,h,aW,aG,j,cK,b=>by rw[m3 At j,mZ j];rintro y l e I L;rw[aR6 Es Et aG,r.arf,mX dH (dH (PD o _ aI k h _ Ť I cK ?_)),mX dH (aVg fX),mX NM xs _ aI _ _ h aW aG.2 L cK fun bZ U=>?_,m2 (b bZ (by simp[U,Aci,aCl];rfl)),m5];simpa[Ua,u.la]using aa
end
def Aaf:∀(h)(o)(y)(aI)(k)(H)(aW),o.im h=G→h<H→acn k.aK o y→aW G k→aSE (aHc H y):=by rw[aR7];induction h with|hf=>intro o y aI k H aW aG bK j b;(induction o using ar.ae with|m q=>rw[o8 j,mZ j,sK,at7 _ e,mW fX b]|bi ab=>rw[o8 j,mZ j,sK,at7 _ e,mW fX b]|_=>rw[qT aG])|gk h ih=>intro o y aI k H aW aG bK j b;induction o using ar.ae with|m q=>rw[o8 j,mZ j,sK,at7 _ e,mW fX b]|bi ab=>rw[o8 j,mZ j,sK,at7 _ e,mW fX b]|ay xs=>rw[m3 Dc j,mZ j];(rintro f p vs t e hg hc hd eh);have h1:k.aqC si "tuple":=(ql hg hc);(rw[uL H (by omega) H (by unfold aHc;rw[mX dH (aLP h1 aN.slot_tuple_eq.cm ?_),ő (m7 isInstance>>=_),mX dH (wpAny_isInstance h1 isSubtype_tuple_tuple ?_)];dsimp only[N.aDX,N.aev,abv];rw[mX dH (aFe hg hd ?_),tC dH,ő (are vs _ _),←fE.aHp,mX wpAny_forIn_list _ (fun hQ l s'=>l.1=B∧s'=k∧∃ks,ar.abP h ks=G∧aco _ ks hQ) _ ?_ ?_ _ _ (AE e e (ql (m4 aG) eh)),mZ b hg eh h1];rintro y hQ l s';intro J;rcases J with(⟨br,e,ks,jR,iO⟩);(rw[oS ks (by rw[sQ iO]) o ks (by refine At iO fun fD r' d gv ach=>?_;injection d with I L;rw[pi,qD,aR6 Es Et jR,mX dH (ih o _ aI _ H _ jR.1 n_ gv ?_)];simp only[N.aDX,N.aev,abv];exact fX (AE e e (ql jR.2 ach)))]);rw[mZ hg eh h1,mY J,aRQ bW fh];rintro s';rw[mY J,Ö,ng];rintro br e _;simp only at br;subst br;exact fX b)])|_=>rw[qT aG]
end
abbrev ac6(b':aej)(V:kc):aMk b' V ar where is:=fun b o f=>l4 o=G∧o.im jA=G∧acn b o si;ajy:=auC V;at3:=aq7;apZ:=fun aI=>aI.ib+100<mj;dB:=fun J b0=>acn.dB (nW J) (nW b0);g0:=fun j ho hd hs=>(AE sz (nj j) (acn.g0 ho hd hs (nW j)));av6:=fun cK aG b=>ni PD jA _ (nj aG) (nW aG) (by unfold jA;exact YD cK) b;eqBool:=(fun{aI bb k j ab f g aW}cK J b0 b=>by rw[n4 (K4 (nW J)) as gr,n4 (K4 (nW b0)) bq jk];have alu:=D6 jA (FX _ (nj J));rw[m2 (D6 _ (FX _ (nj b0))),mY ar0,m1 (m7 jz.ahp=b1 _) (by have:=JL jA jA (FX _ (nj J)) (FX _ (nj b0));rw[nH t j ab,hZ t,mW aa.gS t,jq t,mW N.amB.gS fun a=>t (aa.mp a)]),p0,mX (ni (qn kr.eqBoolOverData) gr jk alu.1 ar0.1 ?_ (nb d b)),m2 (u.alA (ko j).i1 (ko ab).i1),mY aa,m2 alu.2,m5];unfold jA at*;exact oa Bu [aI.ib,mj,(ko j).i1,m7 ab7] (S+eK) ai (S+100) ai a8 6 eK a8 e cK alu.2 (m7 u.alA));quiet:=fun aG b=>oM Aaf jA _ 8 _ (nj aG) nw (nW aG) b
noncomputable abbrev ahI(xs:õ)(h:u):k_:={eY:=p3 "list",fS:=.ia xs h}
mutual variable(b':aej)(V:kc)(eR:u→d8)
abbrev j0(b:b8)(X:eW):t4 (rC R ar) (rC R ck)|[],e1=>e1=[]|(o,y)::i,e1=>∃j l,e1=(o,j)::l∧ì j∧j0 b X i l
abbrev jy(b:b8)(X:eW):t4 yt (r (ar×d8×ck))|[],xs=>xs=[]|(o,y)::i,xs=>∃f j l,xs=(o,f,j)::l∧l4 o=G∧o.im jA=G∧db b X o si∧ì j∧jy b X i l
abbrev jI(b:b8)(X:eW):t4 aUT (r ag7)|[],Aa=>Aa=[]|(h,y)::i,Aa=>∃d l v,Aa=d::l∧d.ajy=jz.keyHash V.dX Ï∧d.dx=.bi Ï v∧ì d.lP∧jI b X i l
abbrev mC(b:b8)(X:eW):t4 c_ (d8×d8)|rj,n=>nh=nk∧∃xs h,b.bg nk=c (ahI xs h)∧tU∧d4 b X i xs.e0|x7,n=>nh=nk∧tU∧∃xs,b.asS (ac6 b' V) nk xs∧aPq|uH,n=>nh=nk∧tU∧∃e1,b.akr aVB nk e1∧aPp|qI x fs,n=>b.bg nk=c (avv (eR x) nh)∧∃Aa h,b.bg nh=c (aop Aa h)∧fs.z≤300∧aPv fs∧aNN fs.au
abbrev amq(n t:d8×d8):Prop:=nk≠ox∧nk≠oI∧nh≠ox∧nh≠oI
structure aah(b:b8)(X:eW)(w:ch):Prop where
 c9:X.bN.z=w.z
 D:∀(q:u)p n,op w p→wd→mC b' V eR b X p n
 akD:X.bN.ahg amq
end
mutual variable{b':aej}{V:kc}{eR:u→d8}{cL:d8→Prop}{b h':b8}{X cv:eW}
def j0.AS(j:aPr):wD e1 (aPp→aTB j0 e1)|[],_,l=>l|ā,_,l=>by rw[tR,n2];rintro ab cy e g x;exact(Au ab _ e (g.AS j) (j0.AS j x))
def jy.AS(j:aPr):wD xs (aPq→aTB jy xs)|[],_,l=>l|ā,_,l=>by rw[m3 Co l,n2];rintro f ab cy e g x aj d ac;exact(Cn f ab _ e g x (aj.AS j) (d.AS j) (jy.AS j ac))
def jy.is(b')(V):wD xs (aPq→oG xs ((ac6 b' V).is b sz (nj j)))|[],_,l,j,J=>by rw[tF];cases J|ā,_,l,j,J=>by rw[m3 Co l,n2];rintro f ab cy e g x aj _ ac;rw[nt (r.gA.mp J),n8,m9,ya,m8,mW AE g x (aj.dx jA x),mW jy.is b' V ac j J]
def jI.AS(j:aPr):wD Aa (aPv i→jI V h' cv i Aa)|[],_,l=>l|ā,_,l=>by rw[m3 BW l,n2];rintro d cy v e f g x aj;exact(CH d _ v e f g (x.AS j) (jI.AS j aj))
def mC.AS:∀(j:aPr){p}{n}(o:∀g cR,g=nk∨g=nh→aVx→h'.bg g=c cR)(l:mC b' V eR b X p n),mC b' V eR h' cv p n:=by rw[mY j,mY p n,mY o l];induction p using c_.ae with|aw i=>(obtain⟨f,xs,h,d,aB,t⟩:=l);exact qd f (Au _ h (sb o qN d) aB (t.AS j))|bE i=>(obtain⟨f,aB,xs,⟨p,Aa,ep,ho,Q,h2,h3,h4,h5⟩,aj⟩:=l);exact(AE f aB (Ad _ (Cn p _ _ (sb o qN ho) Q h2 h3 ((aj.AS j).is _ V) h5) (aj.AS j)))|bM i=>(obtain⟨f,aB,e1,⟨p,Aa,ep,ho,l⟩,aj⟩:=l);exact(AE f aB (Ad _ (A9 p _ _ (sb o qN ho) l) (aj.AS j)))|bS x fs=>obtain⟨f,Aa,h,d,aB,t,cO⟩:=l;exact qd (sb o qN f) (Bx _ h (sb o yp d) aB (t.AS j) cO)
def j0.bx(j:aPk){i}{e1}(l:aPp):aTB j0 e1:=l.AS j.Aw
def jy.bx(j:aPk){i}{xs}(l:aPq):aTB jy xs:=l.AS j.Aw
def jI.bx(j:aPk){i}{Aa}(l:aPv i):jI V h' cv i Aa:=l.AS j.Aw
def mC.bx(j:aPk){p}{n}(o:∀g cR,g=nk∨g=nh→aVx→h'.bg g=c cR)(l:mC b' V eR b X p n):mC b' V eR h' cv p n:=l.AS j.Aw o
def Cb{bN}{q:u}{n}(d:op bN n):g6 bN nk∧g6 bN nh:=qd (Ad n (r.lI d) qN) (Ad n (r.lI d) yp)
def aah.E9{w}(ao:aah b' V eR b X w)(j:aPr)(ba:cv.bN=X.bN)(o:∀g p,ō→v1→ĭ):aah b' V eR h' cv w:=⟨nb ba ao.c9,fun q p n f g=>by rw[ba]at g;exact(ao.D q p n f g).AS j fun x cR hc d=>o x _ (Ad n (r.lI g) hc) d,nb ba ao.akD⟩
def aah.g0{w}(ao:aah b' V eR b X w)(j:iz cL b h' X X)(o:∀g p,ō→v1→ĭ):aah b' V eR h' X w:=ao.E9 j.Aw e o
def amq.cq{n t}(f:amq n t):amq t n:=(By (ahc.cq f.1) (ahc.cq (oj f)) (ahc.cq (nj f)) (ahc.cq (Ċ f)))
def ZG{bN:rC d8 d8}(W:bN.ahg amq){q aq:u}{n t}(Ab:op bN n)(cQ:p7 bN t)(h:sU aq):amq n t:=by rw[r.pairwise_iff_getElem]at W;obtain⟨aJ5,e⟩:=r.gF.mp Ab;obtain⟨aJ9,e⟩:=r.gF.mp cQ;rw[nt (u.lt_or_ge q aq),rd,m9,rd,m8,mW W q aq _ _ t,mW (rz (W aq q aJ9 aJ5 (u.ar3 t (ahc.cq h))))]
def aah.an2:∀{w}{n}{p}(ao:aah b' V eR b X w)(j:iz cL b h' X (X.e_ n))(o:∀g cR,ō→aVx→h'.bg g=c cR)(l:mC b' V eR h' (X.e_ n) p n)(gE:ž nk)(f2:ž nh)(ahJ:∀g,ō→∃cR,aVx),aah b' V eR h' (X.e_ n) (w++[p]):=by rw[mY w n p,mY ao j o l gE f2 ahJ,mX ⟨y9 eW.e_ ao.c9,fun q o' cw f g=>?_,?_⟩];replace g:op (X.bN++[n]) cw:=g;rw[nt (u.lt_or_ge q w.z),rd,m9,rd,m8];rw[r.jP t]at f;(have er:q<X.bN.z:=nb ao.c9 t);rw[r.jP er]at g;exact(ao.D q _ _ f g).bx j fun x cR hc d=>o x _ (ql (r.lI g) hc) d;rw[r.aih t]at f;rw[r.aih (nb ao.c9 t),ao.c9]at g;(induction Ab:q-w.z using u.ae with|hf=>rw[Ab]at f g;simp at f g;subst f g;exact l|gk aq=>rw[Ab]at f;simp at f);rw[m6 ((X.bN++[n]).ahg _),r.aKG,mX AE ao.akD (m7 r.aKH) (fun t cG cw dg=>?_)];rw[r.i7]at dg;rw[mZ j l,xg,n4 (ahJ ox (Ad t cG qN)) j8 aV,n4 (ahJ oI (Ad t cG yp)) k2 bj];refine(By ?_ ?_ ?_ ?_)<;>intro a;rw[a,gE]at aV;rw[Ğ aV];rw[a,f2]at aV;rw[Ğ aV];rw[a,gE]at bj;rw[Ğ bj];rw[a,f2]at bj;rw[pd bj]
def mC.ahJ:∀{p}{n}(l:mC b' V eR b X p n),(∃cR,b.bg nk=c cR)∧∃cR,b.bg nh=c cR:=by rw[mY p n,mY l];induction p using c_.ae with|aw i=>(obtain⟨f,xs,h,d,t⟩:=l);exact⟨qo d,qo (f▸d)⟩|bE i=>(obtain⟨f,aB,xs,⟨p,Aa,ep,d,l⟩,aj⟩:=l);exact⟨qo d,qo (f▸d)⟩|bM i=>(obtain⟨f,aB,xs,⟨p,Aa,ep,d,l⟩,aj⟩:=l);exact⟨qo d,qo (f▸d)⟩|bS x fs=>obtain⟨f,Aa,h,d,t,cO⟩:=l;exact⟨qo f,qo d⟩
def aah.ahJ{w}(ao:aah b' V eR b X w):∀g,ō→∃cR,aVx:=by rintro g;rw[mY J,sE,ng];rintro n ba U;rw[aP1 q Ab (r.aBZ ba)];(have ms:q<w.z:=uq ao.c9 Ab);have:=(ao.D q w[q] X.bN[q] (rA ms) (by simp[Ab])).ahJ;rw[nY U U,n8,m9,n8,m8,mW aa.1,mW aa.2]
def aah.Aap{w}(ao:aah b' V eR b X w){q:u}{p}(d:op w p):∃n,wd:=by(have:q<X.bN.z:=by simp only[ao.c9]at⊢;exact aOC d);exact⟨X.bN[q],rA aa⟩
def aah.at{w}(ao:aah b' V eR b X w){q:u}{p}(d:op w p):∃n,wd∧mC b' V eR b X p n:=by rw[n4 (ao.Aap d) n ba,mW Ad n ba (ao.D q p n d ba)]
def aah.aiS:∀{w}{q}{n}{o'}(ao:aah b' V eR b X w)(j:iz cL b h' X X)(ba:wd)(o:∀g cR,vd nk→vd nh→aVx→ō→h'.bg g=c cR)(l:mC b' V eR h' X o' n),aah b' V eR h' X (w.b6 q o'):=by rw[mY w q n o',mY ao j ba o l,mX ⟨rA ao.c9,fun aq p t f g=>?_,ao.akD⟩,nH cQ q aq];subst cQ;rw[ba]at g;rw[nf g,mZ g,mY g];subst g;rw[m2 (wy (aOC f)),mY jf];rw[r.akX jf]at f;rw[aRh f f f f,mW l];rw[r.agx cQ]at f;have aj:=ZG ao.akD ba g cQ;exact(ao.D aq p t f g).bx j fun x cR hc d=>by rw[nY hc hc,n8,m9,n8,m8,mW o _ _ (ahc.cq aj.1) (ahc.cq (oj aj)) d (Cb g).1,mW o _ _ (ahc.cq (nj aj)) (ahc.cq (Ċ aj)) d (Cb g).2]
end
abbrev adM(U b:b8)(am:d8)(no:d8→N):rC d8 k_:=(r.adw b.eU.c5).adW fun g=>match b.bg g with|c p=>if g=am∨(U.bg g).eF=G∨no g=G then B else zl g|B=>B
set_option tactic.hygienic true in
def CM:∀{U b}{am}{no}{g}{p},(g,p)∈adM U b am no↔v1∧aOT∧U.bg g=B∧no g=Y:=by injections U b am no g p;unfold adM;rw[r.mem_filterMap];constructor;rw[mY J,sE,ng];rintro x _ hc;split at hc;rename_i o' d;split at hc;rw[Ğ hc];rename_i h;rw[nf hc,mZ hc,mY hc,uT hc,mZ hc,mY hc L];subst hc;rw[qD];rw[aj4,aj4]at h;rw[mW By d h.1 (o7 (nj h)) (o7 (nW h)),Ğ hc,mY J,ri Bq,ng];rintro d h t a;rw[mX Ad g (r.aKk.gS (b8.anc d)) ?_,d];dsimp only;rw[cH (by simp[h,t,a])]
def Dm:∀{U b}{am}{no},as2 U am b (adM U b am no):=by rw[mY U b am no n,mY ba,yr (CM.mp ba) f g x P,mW AE f g x]
set_option tactic.hygienic true
def Bp{x}[aj:ah1 x]{ac}(b:dite x ac (nO Y)=G):∃hc,ac hc=G:=by induction aj using ah1.ae with|als hc=>exact sR hc|avy _=>rw[sT]
def Hl{d}{o}(b:oZ aoh):∃x dN dG,d=.ah0 x dN dG∧o x=G:=zQ af.bA.ah0.az 19 af.bA.ah0.az (fun x P P=>o x) (∃x dN dG,d=.ah0 x dN dG∧o x=G) aTJ
def Hn{d}{o}(b:oZ amz):∃j n,ut (aNO j) j n:=zQ af.bA.kM.az 23 af.bA.kM.az (fun j n=>o j n) (∃j n,ut (aNO j) j n) (fun P P P b=>(nM AI e b))
def MZ{d}{o}(b:oZ atX):∃i dN dG,d=.ac4 i dN dG∧o i=G:=zQ af.bA.ac4.az 25 af.bA.ac4.az (fun i P P=>o i) (∃i dN dG,d=.ac4 i dN dG∧o i=G) aTJ
def MX{d}{o}(b:oZ atV):∃i n,d=.r i n∧o i=G:=zQ af.bA.r.az 24 af.bA.r.az (fun i P=>o i) (∃i n,d=.r i n∧o i=G) (fun P P P b=>(nM AI e b))
def TG{d}{o}(b:oZ azz):∃ks vs n,ut (.ah2 ks vs n) ks vs:=zQ af.bA.ah2.az 6 af.bA.ah2.az (fun ks vs P=>o ks vs) (∃ks vs n,ut (.ah2 ks vs n) ks vs) aTJ
def Hk{d}{o}(b:oZ aog):∃y k n,d=.aad y k n∧o y k n=G:=zQ af.bA.aad.az 20 af.bA.aad.az (fun y k n=>o y k n) (∃y k n,d=.aad y k n∧o y k n=G) aTJ
def DV{d}{o}(b:oZ ajp):∃y k n,ut (.aai y k n) y k:=zQ af.bA.aai.az 21 af.bA.aai.az (fun y k P=>o y k) (∃y k n,ut (.aai y k n) y k) aTJ
def Ho{d}{o}(b:oZ aok):∃i aP v n,d=.lv i aP v n∧o i aP v=G:=zQ af.bA.lv.az 26 af.bA.lv.az (fun i aP v P=>o i aP v) (∃i aP v n,d=.lv i aP v n∧o i aP v=G) aRP
def Jv{d}{o}(b:oZ aq1):∃p j n,ut (.ahj p j n) p j:=zQ af.bA.ahj.az 3 af.bA.ahj.az (fun p j P=>o p j) (∃p j n,ut (.ahj p j n) p j) aTJ
def Tw{d}{o}(b:oZ azq):∃i p l n,d=.anI i p l n∧o i p l=G:=zQ af.bA.anI.az 2 af.bA.anI.az (fun i p l P=>o i p l) (∃i p l n,d=.anI i p l n∧o i p l=G) aRP
def TA{d}{o}(b:oZ azs):∃i p l n,d=.akp i p l n∧o i p l=G:=zQ af.bA.akp.az 15 af.bA.akp.az (fun i p l P=>o i p l) (∃i p l n,d=.akp i p l n∧o i p l=G) aRP
def MT{d}{o}(b:oZ atP):∃p i n,ut (.ag6 p i n) p i:=have(sR x):=Bp b;af.bA.ag6.az (fW:=ol (∀x:d.eP=0,af.bA.ag6.az (fW:=nO N) d x (fun p i P=>o p i)=G→∃p i n,ut (.ag6 p i n) p i)) d x aTJ x b
def TL{d}{o}(b:oZ azD):∃v j ab n,d=.ame v j ab n∧aRo=G:=zQ af.bA.ame.az 5 af.bA.ame.az (fun v j ab P=>aRo) (∃v j ab n,d=.ame v j ab n∧aRo=G) aRP
def Ty{d}{o}(b:oZ atR):∃ac as ks n,d=.jG ac as ks n∧o ac as ks n=G:=zQ af.bA.jG.az 16 af.bA.jG.az (fun ac as ks n=>o ac as ks n) (∃ac as ks n,d=.jG ac as ks n∧o ac as ks n=G) aRP
def TC{d}{o}(b:oZ azu):∃f g9 x n,d=.aff f g9 x n∧o f g9 x=G:=zQ af.bA.aff.az 8 af.bA.aff.az (fun f g9 x P=>o f g9 x) (∃f g9 x n,d=.aff f g9 x n∧o f g9 x=G) aRP
def TH{d}{o}(b:oZ azA):∃y n,d=.bA y n∧o y=G:=have(sR x):=Bp b;af.ee.bA.az (hv:=ol (∀x:d.eP=24,af.ee.bA.az (hv:=nO N) d x (fun y P=>o y)=G→∃y n,d=.bA y n∧o y=G)) d x (fun P P P b=>(nM AI e b)) x b
def Tt{d}{o}(b:oZ azl):∃i y n,ut (.aeh i y n) i y:=have(sR x):=Bp b;af.ee.aeh.az (hv:=ol (∀x:d.eP=5,af.ee.aeh.az (hv:=nO N) d x (fun i y P=>o i y)=G→∃i y n,ut (.aeh i y n) i y)) d x aTJ x b
def Tv{d}{o}(b:oZ atO):∃v p y n,d=.al4 v p y n∧o v p y=G:=have(sR x):=Bp b;af.ee.al4.az (hv:=ol (∀x:d.eP=7,af.ee.al4.az (hv:=nO N) d x (fun v p y P=>o v p y)=G→∃v p y n,d=.al4 v p y n∧o v p y=G)) d x aRP x b
def MV{d}{o}(b:oZ atS):∃i n,d=.ai7 i n∧o i=G:=have(sR x):=Bp b;af.ee.ai7.az (hv:=ol (∀x:d.eP=4,af.ee.ai7.az (hv:=nO N) d x (fun i P=>o i)=G→∃i n,d=.ai7 i n∧o i=G)) d x (fun P P P b=>(nM AI e b)) x b
def TK{d}{o}(b:oZ azE):∃v j ab n,d=.anO v j ab n∧aRo=G:=have(sR x):=Bp b;af.ee.anO.az (hv:=ol (∀x:d.eP=12,af.ee.anO.az (hv:=nO N) d x (fun v j ab P=>aRo)=G→∃v j ab n,d=.anO v j ab n∧aRo=G)) d x aRP x b
def TW{d}{o}(b:oZ azQ):∃v j ab n,d=.amm v j ab n∧aRo=G:=have(sR x):=Bp b;af.ee.amm.az (hv:=ol (∀x:d.eP=11,af.ee.amm.az (hv:=nO N) d x (fun v j ab P=>aRo)=G→∃v j ab n,d=.amm v j ab n∧aRo=G)) d x aRP x b
def TJ{d}{o}(b:oZ azC):∃v q j ab n,d=.aja v q j ab n∧o v q j ab=G:=have(sR x):=Bp b;af.ee.aja.az (hv:=ol (∀x:d.eP=9,af.ee.aja.az (hv:=nO N) d x (fun v q j ab P=>o v q j ab)=G→∃v q j ab n,d=.aja v q j ab n∧o v q j ab=G)) d x (fun P P P P P P b=>(ni Bk _ e b)) x b
def TQ{d}{o}(b:oZ azK):∃y n,d=.aqz y n∧o y=G:=have(sR x):=Bp b;af.ee.aqz.az (hv:=ol (∀x:d.eP=3,af.ee.aqz.az (hv:=nO N) d x (fun y P=>o y)=G→∃y n,d=.aqz y n∧o y=G)) d x (fun P P P b=>(nM AI e b)) x b
def TD{d}{o}(b:oZ azw):∃n,d=.anJ n∧o=G:=have(sR x):=Bp b;af.ee.anJ.az (hv:=ol (∀x:d.eP=27,af.ee.anJ.az (hv:=nO N) d x (nO o)=G→∃n,d=.anJ n∧o=G)) d x (fun P P b=>yz) x b
def TP{d}{o}(b:oZ azJ):∃n,d=.anU n∧o=G:=have(sR x):=Bp b;af.ee.anU.az (hv:=ol (∀x:d.eP=25,af.ee.anU.az (hv:=nO N) d x (nO o)=G→∃n,d=.anU n∧o=G)) d x (fun P P b=>yz) x b
def DS{cg}{i:Ì}{g}(b:ahm i g=G):i=[]∧g=G:=by rw[oS i (by exact sR e) _ _ (by rw[sT])]
def Jt{cg}{i}{o:wG cg Ì}(b:aoi i o=G):∃j xs,i=qi∧o j xs=G:=by rw[oS i (by rw[sT]) _ _ (by exact(nM AI e b))]
def Da{cg}{i}{o:cg→N}(b:i0 i o=G):∃j,i=[j]∧o j=G:=have⟨_,_,d,b⟩:=Jt b;have(sR a5):=DS b;(ql (a5▸d) b)
def MS{cg}{i}{o:wG cg cg}(b:aao i o=G):∃j ab,i=aVV∧o j ab=G:=have⟨_,_,d,b⟩:=Jt b;have⟨_,a5,b⟩:=Da b;(sb AI (a5▸d) b)
def DU{cg}{p}{o:cg→N}(b:ajo p o=G):∃j,p=c j∧o j=G:=ū p (by rw[sT]) _ (by exact yz)
def DT{cg}{p:aOA}{g}(b:ajn p g=G):p=B∧g=G:=ū p (by exact sR e) _ (by rw[sT])
def TM{x}{o}(b:azF x o=G):∃q,x=n'∧o q=G:=have(sR t):=Bp b;afc.m.az (ajV:=fun x=>∀t:x.eP=2,afc.m.az (ajV:=nO N) x t o=G→∃q,x=n'∧o q=G) x t (fun P P b=>yz) t b
def TR{x}{o}(b:azL x o=G):∃q,x=og q∧o q=G:=have(sR t):=Bp b;afc.bi.az (ajV:=fun x=>∀t:x.eP=5,afc.bi.az (ajV:=nO N) x t o=G→∃q,x=og q∧o q=G) x t (fun P P b=>yz) t b
def Tx{x}{o}(b:azr x o=G):∃q,x=qP q∧o q=G:=have(sR t):=Bp b;afc.aO.az (ajV:=fun x=>∀t:x.eP=1,afc.aO.az (ajV:=nO N) x t o=G→∃q,x=qP q∧o q=G) x t (fun P P b=>yz) t b
def EK{d}{o}(b:oZ akN):∃ac as n,d=.jG ac as [] n∧o ac as n=G:=have⟨_,_,_,_,d,b⟩:=Ty b;have(sR a5):=DS b;(A9 _ _ _ (a5▸d) b)
def Hm{d}{o}(b:oZ aoj):∃p k lw as n,d=.jG (.aad p k lw) as [] n∧o p k lw as n=G:=have⟨_,_,_,d,b⟩:=EK b;have⟨_,_,_,a5,b⟩:=Hk b;(ni Bk _ (a5▸d) b)
def TU{d}{o}(ag:oZ azO):∃y aP z1 bz,ut (.aai y (.lv B (c aP) B z1) bz) y aP:=by rw[r5 DV,mZ ag,r9,pw AA Ho,oK,aPw,aU5,mZ ag,Ņ,aU4,mZ ag,yD,aU5,oK,Ņ,mW aTC]
def MY{d}{o}(ag:oZ atW):∃y aP z1 bz,ut (.aai y (.lv (c aP) B B z1) bz) y aP:=by rw[r5 DV,mZ ag,r9,pw AA Ho,oK,aPw,aU4,mZ ag,yD,aU5,mZ ag,Ņ,aU5,oK,Ņ,mW aTC]
def TS{d}{o}(ag:oZ azM):∃y i aP z1 bz,d=.aai y (.lv (c i) (c aP) B z1) bz∧o y i aP=G:=by rw[r5 DV,mZ ag,r9,pw AA Ho,oK,aPw,aU4,mZ ag,yD,aU4,mZ ag,yD,aU5,oK,Ņ,mW (ni Bk _ e ag)]
def TT{d}{o}(ag:oZ azN):∃y aP z1 bz,ut (.aai y (.lv B B (c aP) z1) bz) y aP:=by rw[r5 DV,mZ ag,r9,pw AA Ho,oK,aPw,aU5,mZ ag,Ņ,aU5,mZ ag,Ņ,aU4,oK,yD,mW aTC]
def Tz{d}{o}(ag:oZ azt):∃i f' l z1,d=.akp i [f'] [l] z1∧o i f' l=G:=by rw[pw AA TA,oK,aPw,aSM,mZ ag,yD,aSM,oK,yD,mW aTC]
def FW{d}{o}(ag:oZ amy):∃ac j z1,ut (.jG ac [j] [] z1) ac j:=by rw[r5 EK,oK,r9,aSM,oK,yD,mW A9 _ _ _ e ag]
def MU{d}{o}(ag:oZ atQ):∃ac j ab z1,d=.jG ac aVV [] z1∧o ac j ab=G:=by rw[r5 EK,oK,r9,pw AR MS,oK];rintro _ _ e ag;exact aTC
def TN{d}{o}(ag:oZ azH):∃p k lw n,d=.jG (.aad p k lw) [] [] n∧o p k lw n=G:=by rw[pw Bz Hm,oK];rintro _ _ _ _ _ e ag;rw[pw Ai DS,oK,Ņ,mW aTC]
def Ju{d}{o}(ag:oZ aq0):∃p k lw j n,d=.jG (.aad p k lw) [j] [] n∧o p k lw j n=G:=by rw[pw Bz Hm,oK];rintro _ _ _ _ _ e ag;rw[aSM,oK,yD,mW (ni Bk _ e ag)]
def TO{d}{o}(ag:oZ azI):∃p k lw j ab n,d=.jG (.aad p k lw) aVV [] n∧o p k lw j ab n=G:=by rw[pw Bz Hm,oK];rintro _ _ _ _ _ e ag;rw[pw AR MS,oK];rintro _ _ e ag;exact(nM (ni Hx) e ag)
def TB{d}{o}(ag:oZ azv):∃jN j z1 gQ fs x bz,d=.aff jN [⟨.kM j z1,gQ,fs,0⟩] x bz∧o jN j gQ fs x=G:=by rw[pw AA TC,oK,aPw,aSM,mZ ag,mY J];rcases J with(⟨_,_,_,_⟩);rw[Ņ,pw AR Hn,oK];intro _ _ d ag;rw[aSN,mZ ag,mY dQ ag,pD d,pD (cD dQ),mW (ni Nf _ _ _ e ag)]
def FV{d}{o}(ag:oZ amx):∃v y z1,ut (.aeh qU y z1) v y:=by rw[r5 Tt,oK,r9,aSM,oK,yD,mW A9 _ _ _ e ag]
def Tq{d}{o}(ag:oZ azm):∃p v z1 y bz,d=.aeh [.aad p v z1] y bz∧o p v y=G:=by rw[r5 FV,oK,r9,r5 Hk,oK,r9,mW (ni Bk _ e ag)]
def Tr{d}{o}(ag:oZ azn):∃p q z1 y bz,d=.aeh [.aai p q z1] y bz∧o p q y=G:=by rw[r5 FV,oK,r9,r5 DV,oK,r9,mW (ni Bk _ e ag)]
def Ts{d}{o}(ag:oZ azo):∃a' z1 bz y e2,ut (.aeh [.ac4 a' z1 bz] y e2) a' y:=by rw[r5 FV,oK,r9,r5 MZ,oK,r9,mW (ni Bk _ e ag)]
def Tu{d}{o}(ag:oZ azp):∃p v z1 f' y bz,d=.al4 (.aad p v z1) f' y bz∧o p v f' y=G:=by rw[pw AA Tv,oK,aPw,r5 Hk,oK,r9,mW (nM (ni Hx) e ag)]
def TF{d}{o}(ag:oZ azy):∃p q z1 bz,ut (.ai7 [.aai p q z1] bz) p q:=by rw[pw AR MV,oK];rintro _ _ e ag;rw[aSM,mZ ag,yD,r5 DV,oK,r9,mW aTC]
def TE{d}{o}(ag:oZ azx):∃p i z1 bz e2,ut (.ai7 [.aai p (.lv (c i) B B z1) bz] e2) p i:=by rw[pw AR MV,oK];rintro _ _ e ag;rw[aSM,mZ ag,yD,pw AA MY,oK,aPw,mW (ni Bk _ e ag)]
def TV{d}{o}(ag:oZ azP):∃v j z1,ut (.amm v j [] z1) v j:=by rw[pw AA TW,oK,aPw,pw Ai DS,oK,Ņ,mW A9 _ _ _ e ag]
def MW{d}{o}(ag:oZ atT):∃v gQ j z1,d=.aja v gQ j [] z1∧o v gQ j=G:=by rw[pw Bz TJ,oK];rintro _ _ _ _ _ e ag;rw[pw Ai DS,oK,Ņ,mW aTC]
def TI{d}{o}(ag:oZ azB):∃v fn ec z1 j bz,d=.aja v (.jG fn ec [] z1) j [] bz∧o v fn ec j=G:=by rw[pw AA MW,oK,aPw,r5 EK,oK,r9,mW (nM (ni Hx) e ag)]
mutual variable{K:anM}{mp:wU}{aE:kq}
def V5{d}:qj dz.B (∃z1 bz,d=af.bA.ah0 .B z1 bz):=yN (by rw[r5 Hl,r9,pD (cD ag),mW (nv BN e)])
def VQ{g}{d}:qj (dz.aO g) (∃x z1 bz,d=af.bA.ah0 (qP x) z1 bz∧(g==x)=G):=yN (by rw[r5 Hl,r9,pw Ac Tx,yD,mW A9 _ _ _ e ag])
def Wa{k}{d}:qj (dz.bi k) (∃j z1 bz,d=af.bA.ah0 (og j) z1 bz∧(j==af.bH.dF k)=G):=yN (by rw[r5 Hl,r9,pw Ac TR,yD,mW A9 _ _ _ e ag])
def Wd{q}{d}:qj (dz.A q) (∃id z1,d=af.bA.kM id z1∧(apo mp aE q id)=G):=pL Hn
def Wb{Aa}{d}:qj (dz.ay Aa) (∃i z1 bz,d=af.bA.ac4 i z1 bz∧(b1 (wr 1000)&&jj K mp aE Aa i)=G):=pL MZ
def VY{Aa}{d}:qj (dz.bm Aa) (∃i z1,d=af.bA.r i z1∧(b1 (wr 1000)&&jj K mp aE Aa i)=G):=pL MX
def V4{Aa}{d}:qj (dz.hw Aa) (∃i z1,d=af.bA.r i z1∧(b1 (wr 1000)&&jj K mp aE Aa i)=G):=pL MX
def V3{aic}{d}:qj (dz.lK aic) (∃z1,d=af.bA.ah2 [] [] z1):=yN (by rw[r5 TG,r9,pw Ai DS,Ņ,pw Ai DS];rintro e _;exact u0)
def VO{f}{h}{d}:qj (dz.be f h) (∃y k z1,d=af.bA.aad y k z1∧(k==Ï&&(aeS y&&aOQ))=G):=pL Hk
def V_{f}{o}{d}:qj (dz.ady f o) (∃y aP z1 bz,d=af.bA.aai y (.lv B (c aP) B z1) bz∧(aOQ&&q9 o aP)=G):=pL TU
def V9{f}{o}{d}:qj (dz.ahW f o) (∃y aP z1 bz,d=af.bA.aai y (.lv (c aP) B B z1) bz∧(aOQ&&q9 o aP)=G):=pL MY
def V8{f}{q}{aq}{d}:qj (dz.agV f q aq) (∃y i aP z1 bz,d=af.bA.aai y (.lv (c i) (c aP) B z1) bz∧(aOQ&&(akH q i&&akH aq aP))=G):=pL TS
def V7{f}{d}:qj (dz.rev f) (∃y aP z1 bz,d=af.bA.aai y (.lv B B (c aP) z1) bz∧(aOQ&&avQ aP)=G):=pL TT
def VP{p}{f}{g}{d}:qj (dz.dM p f g) (∃i f' l z1,d=af.bA.anI i f' l z1∧(ams p f'&&(q9 f i&&q9 g l))=G):=pL Tw
def N8{f}{d}:qj (dz.ju f) (∃j z1,d=af.bA.ahj .atc j z1∧aOP=G):=yN (by rw[r5 Jv,r9,aSN];rintro dQ ag;rw[pD (cD dQ),mW (nM AI e ag)])
def N6{p}{f}{g}{d}:qj (dz.aX p f g) (∃i f' l z1,d=af.bA.akp i [f'] [l] z1∧(atM p f'&&(! aGy f' l&&(q9 f i&&q9 g l)))=G):=pL Tz
def N5{Aa}{d}:qj (dz.eB Aa) (∃i z1,d=af.bA.ag6 .gL i z1∧(jj K mp aE Aa i)=G):=yN (by rw[r5 MT,r9,aSN];rintro dQ ag;rw[pD (cD dQ),mW (nM AI e ag)])
def N_{Aa}{d}:qj (dz.or Aa) (∃i z1,d=af.bA.ag6 .aQ i z1∧(jj K mp aE Aa i)=G):=yN (by rw[r5 MT,r9,aSN];rintro dQ ag;rw[pD (cD dQ),mW (nM AI e ag)])
def N9{f}{d}:qj (dz.ir f) (∃j z1,d=af.bA.ahj .axl j z1∧aOP=G):=yN (by rw[r5 Jv,r9,aSN];rintro dQ ag;rw[pD (cD dQ),mW (nM AI e ag)])
def N7{x}{f}{g}{d}:qj (dz.bC x f g) (∃v j ab z1,d=af.bA.ame v j ab z1∧(q9 x v&&(aOP&&q9 g ab))=G):=pL TL
def VZ{f}{h}{Aa}{d}:qj (dz.eT f h Aa) (∃p k iB ec bs,d=af.bA.jG (.aad p k iB) ec [] bs∧(k==Ï&&(aeS p&&(iB.agp==bs.iG&&(b1 (ec.z≤20)&&(aQy&&jj K mp aE Aa ec)))))=G):=pL Hm
def VX{f}{d}:qj (dz.c9 f) (∃fn j z1,d=aVJ [j]∧(aRj "len"&&(iS j&&aOP))=G):=pL FW
def VM{f}{d}:qj (dz.dS f) (∃fn j z1,d=aVJ [j]∧(aRj "any"&&(iS j&&aOP))=G):=pL FW
def VL{f}{d}:qj (dz.de f) (∃fn j z1,d=aVJ [j]∧(aRj "all"&&(iS j&&aOP))=G):=pL FW
def V'{f}{d}:qj (dz.alS f) (∃fn j z1,d=aVJ [j]∧(aRj "sorted"&&(iS j&&aOP))=G):=pL FW
def Wc{f}{d}:qj (dz.af3 f) (∃fn j z1,d=aVJ [j]∧(aRj "tuple"&&(iS j&&aOP))=G):=pL FW
def V0{f}{g}{d}:qj (sH dz.ang) (∃fn j ab z1,d=aVJ aVV∧(aRj "min"&&(iS j&&(iS ab&&(aOP&&q9 g ab))))=G):=pL MU
def VU{f}{d}:qj (dz.aa3 f) (∃fn j ab z1,d=aVJ aVV∧(aRj "isinstance"&&(iS j&&(ki aE ab "str"&&aOP)))=G):=pL MU
def VS{f}{o}{d}:qj (dz.akO f o) (∃p k iB j bs,d=af.bA.jG (.aad p k iB) [j] [] bs∧(k==af.bH.dF "get"&&(aeS p&&(iB.agp==bs.iG&&(iS j&&(aQy&&q9 o j)))))=G):=pL Ju
def VW{o}{aj}{d}:qj (dz.aay o aj) (∃p k iB j ab bs,d=af.bA.jG (.aad p k iB) aVV [] bs∧(k==af.bH.dF "get"&&(ki aE p "KEY_FAMILIES"&&(iB.agp==bs.iG&&(iS j&&(iS ab&&(q9 o j&&q9 aj ab))))))=G):=pL TO
def VN{f}{j}{d}:qj (dz.hq f j) (∃p k iB ab bs,d=af.bA.jG (.aad p k iB) [ab] [] bs∧(k==af.bH.dF "append"&&(aeS p&&(iB.agp==bs.iG&&(iS ab&&(aQy&&q9 j ab)))))=G):=pL Ju
def VT{f}{j}{d}:qj (dz.aft f j) (∃p k iB ab bs,d=af.bA.jG (.aad p k iB) [ab] [] bs∧(k==af.bH.dF "extend"&&(aeS p&&(iB.agp==bs.iG&&(iS ab&&(aQy&&q9 j ab)))))=G):=pL Ju
def V6{f}{d}:qj (dz.adv f) (∃p k iB bs,d=af.bA.jG (.aad p k iB) [] [] bs∧(k==af.bH.dF "pop"&&(aeS p&&(iB.agp==bs.iG&&aQy)))=G):=pL TN
def Kf{gD}{eG}{kF}{gP}{d}:qj (dz.go gD eG kF gP) (∃jN j z1 gQ fs x bz,d=af.bA.aff jN [⟨.kM j z1,gQ,fs,0⟩] x bz∧(aod mp aE j eG x&&(q9 kF gQ&&(b_ K aTG x gD jN&&jj K aTG x gP fs)))=G):=pL TB
def VC{f}{k}:yJ (md.f_ f) (∃y z1,k=af.ee.bA y z1∧(ahP y&&aOQ)=G):=pL TH
def Vx{q}{f}{k}:yJ (md.ci q f) (∃v y z1,k=af.ee.aeh qU y z1∧(aeJ mp aE q v&&(ahP y&&aOQ))=G):=pL FV
def N4{q}{f}{k}:yJ (md.age q f) (∃v y z1,k=af.ee.aeh qU y z1∧(aeJ mp aE q v&&(b1 (y.eP=8)&&aOQ))=G):=pL FV
def VH{f}{h}{j}{k}:yJ (md.dU f h j) (∃p v z1 y bz,k=af.ee.aeh [.aad p v z1] y bz∧(v==Ï&&(ahP y&&(aQy&&q9 j y)))=G):=pL Tq
def VJ{is}{f}{k}:yJ (md.acf is f) (∃a' z1 bz y e2,k=af.ee.aeh [.ac4 a' z1 bz] y e2∧(alU mp aE is a'&&(ahP y&&(awC y&&(b1 is.fF&&aOQ))))=G):=pL Ts
def Vy{f}{h}{p}{j}{k}:yJ (md.agg f h p j) (∃d v z1 f' y bz,k=af.ee.al4 (.aad d v z1) f' y bz∧(v==Ï&&(ams p f'&&(q9 f d&&q9 j y)))=G):=pL Tu
def VA{f}{o}{k}:yJ (md.amA f o) (∃p i z1 bz e2,k=af.ee.ai7 [.aai p (.lv (c i) B B z1) bz] e2∧(aQy&&q9 o i)=G):=pL TE
def VF{x}{f}{g}{k}:yJ (md.bC x f g) (∃v j ab z1,k=af.ee.anO v j ab z1∧(q9 x v&&(acO K mp aE f j&&acO K mp aE g ab))=G):=pL TK
def VK{x}{g}{k}:yJ (md.ag2 x g) (∃v j z1,k=af.ee.amm v j [] z1∧(q9 x v&&acO K mp aE g j)=G):=pL TV
def VE{q}{f}{g}{k}:yJ (md.jd q f g) (∃v gQ j z1,k=af.ee.aja v gQ j [] z1∧(aeJ mp aE q v&&(q9 f gQ&&acO K mp aE g j))=G):=pL MW
def VD{q}{Aa}{g}{k}:yJ (md.mn q Aa g) (∃v fn ec z1 j bz,k=af.ee.aja v (.jG fn ec [] z1) j [] bz∧(aeJ mp aE q v&&(aRj "range"&&(jj K mp aE Aa ec&&acO K mp aE g j)))=G):=pL TI
def Vz{k}:yJ md.abl (∃z1,k=af.ee.anJ z1):=yN (by rw[pw Ac TD];rintro _ e _;exact u0)
def VG{k}:yJ md.alJ (∃z1,k=af.ee.anU z1):=yN (by rw[pw Ac TP];rintro _ e _;exact u0)
def VV{f o}{d}:qj (dz.aT f o) (∃y k a,d=af.bA.aai y k a∧(aj2 k&&(aOQ&&q9 o k))=G):=pL DV
def VR{ac}{Aa}{d}:qj (dz.bp ac Aa) (∃fn as a h,d=af.bA.jG fn as [] a∧K.amG ac=c h∧(ki aE fn h&&(b1 (as.z≤20)&&jj K mp aE Aa as))=G):=yN (by rw[r5 EK,r9,aU4];rintro _ d ag;exact(ni Hw e d ag))
def V2{ac}{Aa}{d}:qj (dz.lJ ac Aa) (∃fn as a h,d=af.bA.jG fn as [] a∧K.akG ac=c h∧(ki aE fn h&&(b1 (as.z≤20)&&jj K mp aE Aa as))=G):=yN (by rw[r5 EK,r9,aU4];rintro _ d ag;exact(ni Hw e d ag))
def VI{f o j}{k}:yJ (md.jl f o j) (∃p q z1 y bz,k=af.ee.aeh [.aai p q z1] y bz∧(aj2 q&&(ahP y&&(aQy&&(q9 o q&&q9 j y))))=G):=pL Tr
def VB{f o}{k}:yJ (md.agn f o) (∃p q z1 bz,k=af.ee.ai7 [.aai p q z1] bz∧(aj2 q&&(aQy&&q9 o q))=G):=pL TF
def CB{d}{Aa}{i}:jj K mp aE u6 i=G→∃j xs,i=qi∧iS j=G∧q9 d j=G∧jj K mp aE Aa xs=G:=yN (by rw[pw AR Jt];rintro _ _ d ag;rw[aSN];rintro dQ ag;rw[aSN];rintro dW ag;exact(nM Bx d dQ dW ag))
end
set_option tactic.hygienic false
def Cm{cg gn:Type}{p}{ac:vH cg gn}{j}(b:p.bP ac=c j):∃f,p=c f∧ac f=c j:=ū p (by rw[xG]) f (by exact(Ad f e b))
def H9{cg gn:Type}{p}{ac:cg→gn}{j}(b:p.au ac=c j):∃f,p=c f∧ac f=j:=ū p (by rw[xG]) f (by exact(pQ (Ad f e) ap.c.dB))
def Cl{cg}{y}{o}{j:cg}(b:jp y o=c j):∃q,y=n'∧o q=c j:=by rw[qO y m q (by exact yz) (by rw[xG])]
def Cx{cg}{y}{o}{j:cg}(b:aak y o=c j):∃q,y=n3∧o q=c j:=by rw[qO y D q (by exact yz) (by rw[xG])]
def IS{cg}{y}{o}{j:cg}(b:acr y o=c j):∃q,y=nE q∧o q=c j:=by rw[qO y ay q (by exact yz) (by rw[xG])]
def IQ{cg}{y}{o}{j:cg}(b:abN y o=c j):∃q,y=oh q∧o q=c j:=by rw[qO y bm q (by exact yz) (by rw[xG])]
def Ge{cg}{w}{q}{o}{j:cg}(b:agz w q o=c j):∃x fs,aSD∧o x fs=c j:=by revert b;delta agz;generalize s_=p;rw[nR,tm p (by rw[tb]) f (by induction f using c_.ae with|bS x fs=>exact nM AI e b|_=>rw[tb])]
def Gf{cg}{w}{q}{o}{j:cg}(b:kC w q o=c j):∃i,yq∧o i=c j:=by revert b;delta kC;generalize s_=p;rw[nR,tm p (by rw[tb]) f (by induction f using c_.ae with|aw i=>exact yz|_=>rw[tb])]
def J4{cg}{w}{q}{o}{j:cg}(b:aar w q o=c j):∃i,aUM∧o i=c j:=by revert b;delta aar;generalize s_=p;rw[nR,tm p (by rw[tb]) f (by induction f using c_.ae with|bE i=>exact yz|_=>rw[tb])]
def NK{cg}{w}{q}{o}{j:cg}(b:ajv w q o=c j):∃i,ã∧o i=c j:=by revert b;delta ajv;generalize s_=p;rw[nR,tm p (by rw[tb]) f (by induction f using c_.ae with|bM i=>exact yz|_=>rw[tb])]
def Ct{cg:Type}{x}[aj:ah1 x]{p}{j:cg}(b:(nK x p)=c j):x∧p=c j:=by induction aj using ah1.ae with|als hc=>exact sR hc|avy _=>rw[xG]
def Ay{cg gn:Type}{p}{ac:vH cg gn}{j}{E:Prop}(b:p.bP ac=c j)(o:∀f,p=c f→ac f=c j→E):E:=(Cm b).az fun f t=>o f ox oI
def AU{cg gn:Type}{p}{ac:cg→gn}{j}{E:Prop}(b:p.au ac=c j)(o:∀f,p=c f→ac f=j→E):E:=(H9 b).az fun f t=>o f ox oI
def Bc{cg:Type}{x}[aj:ah1 x]{p}{j:cg}{E:Prop}(b:(nK x p)=c j)(o:x→p=c j→E):E:=o (Ct b).1 (Ct b).2
structure iJ where
 b':aej
 V:kc
 M:j2
 n:aej
 li:r af.bH
 aaD:vH axb ck
 mg:r8
 mb:r8
 bf:b8
 K:anM
 eR:u→d8
 ij:u→d8
 O:mD
 hU:vH u dk deriving gN
structure aFM(M:j2)(aD:d8):Prop where
 ga:abT M (nP aD) "__getattribute__"=c (c (.acy "object.__getattribute__"))
 gt:abT M (nP aD) "__getattr__"=c B
 sa:abT M (nP aD) "__setattr__"=c (c (.acy "object.__setattr__"))
 po:aKK M aD=G
 hd:(atK M aD).dS (·.hasDict)=G
 aid:abT M (nP aD) "__bool__"=c B
 aNc:abT M (nP aD) "__len__"=c B
 aNe:ar4 M aD=G
def avw:∀{M}{aD}(b:am3 M aD=G),aFM M aD:=by rw[mY M aD,nR,Å am3,sB N.c3 lb,mX HB b fun f g x aj d ac K q=>?_,mW ⟨f,g,x,aj,d,ac,K,q⟩]
structure hT(E:iJ):Prop where
 adB:ata E.n E.li E.aaD E.mg E.mb E.bf
 cL:E.M.abJ E.bf
 aEQ:xL E.bf.bg asy
 const:∀h hJ,E.K.atL.cm h=c hJ→∃y,xK E.mg=c y∧∀(b:b8)(X:eW),(tc E.bf.bg v1)→(∀g,E.bf.bg g≠B→ka X g)→db b X hJ y
 fn:∀ac h,E.K.amG ac=c h→xK E.mg=c (Ò E.ij ac)
 eY:∀x h,E.K.akG x=c h→xK E.mg=c (Ò E.eR x)
 ay3:∀h:ea,h∈["len","any","all","sorted","min","isinstance"]→xK E.mg=B∧xK E.mb=c (.acy h)
 abp:∀x j,E.O.abp x j=G→am3 E.M aQk=G∧aWr (abT E.M (Ò E.eR x)) j=c B
 eT:∀x j ac,E.O.eT x j=c ac→am3 E.M aQk=G∧aWr (abT E.M (Ò E.eR x)) j=c (c (Ò E.ij ac))∧aE4 E.M (Ò E.ij ac)=c (p3 "function")
 arV:∃f e1,E.mg "KEY_FAMILIES"=c si∧E.bf.akr (aVW mu) f e1∧(f==asy)=Y∧∀o,(∃y v,aew o E.O.aay=c y∧aiZ e1 o=c (u2 y))∨(aew o E.O.aay=B∧aiZ e1 o=B)
 aqT:∀h:ea,h∈["tuple","range","str"]→xK E.mg=B∧xK E.mb=c (p3 h)
structure gV(E:iJ)(h:u)(aI:lT)(U:b8)(am:d8):Prop where
 fk:aI.auz=B
 eZ:tc E.bf.bg (w4 U.bg)
 ap4:∃anG eX ahs aj9,aFm anG eX aj9 U∧aI.aum=c (ahs::aj9)∧ahs.frame=c am∧ahs.d_.cA=.abU
 i1:aI.i1+3*h+10<alN
 ib:aI.ib+12*h+400<mj
structure ma(aL:af.dv)(aE:kq):Prop where
 cA:aL.d_.cA=.abU
 bL:aL.globals=lG
 akF:aL.aza=an8
 aeM:∀j,aOX «local»→Ŀ «local»
 cf:∀j,(aOX gh∨aOX ht)→(Ŀ gh∨Ŀ ht)
 aHx:∀j,aOX amJ→Ŀ amJ
 hr:∀j,(Ŀ gh∨Ŀ ht)→∃x,uZ x
structure cT(E:iJ)(U:b8)(am:d8)(H:r8)(b:b8)(X:eW)(w:ch):Prop where
 fr:akt U am b H
 hC:aah E.b' E.V E.eR b X w
 hP:∀g,ō→U.bg g=B∧aOT
 lx:∀g,g∈X.fL→E.bf.bg g=B∧∃p,v1
noncomputable abbrev gb(am:d8):=iz (fun g=>g=am)
abbrev anR(aL:af.dv)(am:d8)(H:r8)(b:b8)(X:eW)(j:af.bH)(y:ck):Prop:=(Ŀ «local»∧((aL.apw=am∧rR H y)∨(Ã aL.apw∧¬g6 X.bN aL.apw∧∃p Aa h,tN aL.apw∧p.fS=.bE Aa h∧aMz Aa∧nsFind Aa j=c y)))∨((Ŀ gh∨Ŀ ht)∧∃x p,uZ x∧Ã x∧¬g6 X.bN x∧tN x∧p.fS=.gh qv)
abbrev mB(mp:wU)(aL:af.dv)(am:d8)(H:r8)(l:dv)(b:b8)(X:eW):Prop:=∀j q hJ,rR mp.cm q→(Ŀ «local»∨Ŀ gh∨Ŀ ht)→pO l (c hJ)→∃y,anR aL am H b X j y∧db b X hJ y
def anR.bx:∀{am}{H}{b h'}{X cv}{aL}{j}{y}(d:aT6 b)(i:anR aL am H b X j y),anR aL am H h' cv j y:=by injections am H b h' X cv aL j y;rw[mY d i,nY i i,mY J,nV,ng];rintro f g;rw[m9,mY J];rcases J with(⟨f,x,p,g,h,V,K,aj⟩);rw[m8,mX (pp ⟨f,?_⟩),nY g g];rintro g;rw[m9,mY J];rcases J with(⟨h,V,p,Aa,o,K,aj⟩);rw[m8,mW (pp g),mW (rt (AE h (d.Cw K V) (A9 p _ o (d.fx _ _ K h V) aj))),mW .bF (qd f (BU x p g h (d.Cw K V) (d.fx _ _ K h V) aj))]
def mB.bx{am}{H}{b h'}{X cv}{mp}{aL}{l}(j:aT6 b)(d:mB mp aL am H l b X):mB mp aL am H l h' cv:=fun ab q hJ f o g=>by rw[nD (d ab q hJ f o g) y i t,mW Ad y (i.bx j) (t.bx j)]
def cT.Bd:∀{E}{U}{am}{H}{b}{X}{w}(aC:s2),∀g p,g=am→v1→aPz:=by rw[mY E U am H b X w,mY aC];rintro g p e d;rw[mX B8 aC.fr.ns fun o' Aa ep a5 aj P=>?_,rl d,nf a5,mZ a5,mY a5,vL];unfold hK;rw[aj]
def cT.fI{E}{U}{am}{H}{b}{X}{w}(aC:s2):gb am b b X X:=iz.fI aC.Bd
def cT.B0{E}{U}{am}{H}{b h'}{X}{w}(aC:s2)(o:aUV ĭ):aNT:=⟨fun g p d P P=>Ĳ,we (vK Ĳ),fun g p j d=>⟨aC.Bd g p j d,aN6 (by rw[rl Ĳ,yW,zS (aC.Bd g p j d)])⟩,aPu,e⟩
def cT.g0{E}{U}{am}{H}{b h'}{X}{w}(aC:s2)(o:aUV ĭ):wl h' X:=by rw[mX ⟨?_,aC.hC.g0 (aC.B0 o) fun g p P d=>Ĳ,aC.hP,fun g t=>⟨(Ł).1,let(xc):=(Ł).2;vK Ĳ⟩⟩,mX AD aC.fr.ns fun p Aa ep d l=>?_,mW ⟨(A9 p _ _ (tj o) l),we (o g p (sq aC.fr.fx)),aC.fr.atf⟩]
def cT.eZ{E}{U}{am}{H}{b}{X}{w}{h}{aI}(aC:s2)(aN:pA):tc E.bf.bg v1:=we (aC.fr.fx g p (sq aN.eZ))
def cT.Y7{E}{U}{am}{H}{b}{X}{w}{h}{aI}(aC:s2)(aN:pA):∀g,ō→E.bf.bg g=B:=fun g t=>by rw[vz d (E.bf.bg g) (by rw[m2 (aC.hP g t).1,m5,o6 (sq aN.eZ),yM C4 aa])]
def cT.Ff{E}{U}{am}{H}{b}{X}{w}(bl:p9){h}{aI}(aC:s2)(aN:pA){g}(t:ō):(g==asy)=Y:=by rw[mX ajj.gS fun d=>?_,oT,uy bl.aEQ p d];rw[aC.Y7 aN _ t]at d;rw[pd d]
def cT.M{E}{U}{am}{H}{b}{X}{w}{h}{aI}(bl:p9)(aC:s2)(aN:pA):E.M.abJ b:=fun f p d=>aC.eZ aN f p (bl.cL f p d)
def Bv{b:b8}{p}:∀g cR,aVx→(b.g' p).bg g=c cR:=fun P P d=>b8.auo _ d
def B9{b:b8}:ž b.eU.c5:=by rw[vz d (b.bg b.eU.c5) (by exact ej (b8.anc d) (u.apy _))]
def cT.DY{E}{U}{am}{H}{b}{X}{w}(aC:s2){g}(ac:b.bg g=B):ka X g:=by rw[vi (fun t=>?_) (fun t=>?_)];obtain⟨p,d⟩:=aC.hC.ahJ _ t;rw[ac]at d;rw[Ğ d];obtain⟨_,p,d⟩:=aC.lx _ t;rw[ac]at d;rw[pd d]
def cT.Dy{E}{U}{am}{H}{b}{X}{w}(aC:s2):ka X b.eU.c5:=aC.DY B9
def cT.Y8{E}{U}{am}{H}{b}{X}{w}{h}{aI}(aC:s2)(aN:pA):∀g,E.bf.bg g≠B→ka X g:=fun g t=>by induction d:E.bf.bg g using ap.ae with|B=>exact t' t d|c p=>rw[m2 (sq aN.eZ),mY a,vi (fun V=>?_) (fun V=>?_)];rw[(aC.hP g V).1]at a;rw[Ğ a];rw[(aC.lx g V).1]at d;rw[pd d]
abbrev anW(E:iJ)(U:b8)(am:d8)(H:r8)(k:en)(X:eW)(aW:ux)(bJ:ch)(y:ar):Prop:=∀cM h' tk cv,aS0→aVQ→db h' cv y cM→zu cM
abbrev ami(E:iJ)(U:b8)(am:d8)(H:r8)(k:en)(X:eW)(aW:t7 N)(bJ:ch)(g:N):Prop:=∀h' tk cv,aS0→aVQ→aW g (yS h')
abbrev aqx(E:iJ)(U:b8)(am:d8)(H:r8)(k:en)(X:eW)(aW:t7 vm)(h:u)(bJ:ch)(vs:nC):Prop:=∀fM h' tk cv,aS0→aVQ→d4 h' cv vs fM→vs.z=h→zu fM
def Lk{cg gn:Type}{W:t4 gn cg}{f x}{g aj}(t:W aj x)(d:(f,g)=(x,aj)):W g f:=by rw[uT d,oA,mY d L,oT,qD,mW t]
def anW.to{E}{U}{am}{H}{k}{X}{aW}{w bJ}{f y}(t:anW E U am H k X aW bJ y)(d:(f,w)=(y,bJ)):anW E U am H k X aW w f:=Lk t d
def aqx.to{E}{U}{am}{H}{k}{X}{aW}{h}{w bJ}{f y}(t:aqx E U am H k X aW h bJ y)(d:(f,w)=(y,bJ)):aqx E U am H k X aW h w f:=Lk t d
def ami.to{E}{U}{am}{H}{k}{X}{aW}{w bJ}{f g}(t:ami E U am H k X aW bJ g)(d:(f,w)=(g,bJ)):ami E U am H k X aW w f:=Lk t d
abbrev dp(E:iJ)(h:u)(aeO:dz):Prop:=∀{aI:lT}{U:b8}{am:d8}{aL:af.dv}{aE:kq}{H:r8}{mp:wU}{d:af.bA}{l:dv}{w bJ:ch}{y:ar}{k:en}{X:eW}{aW:ux}{bb:ux},pA→xN→aP6 b_ aeO d→q3→aTa→aO0 (xT aU aeO)→anW E U am H k X aW bJ y→q5 (adb d aL)
abbrev mh(E:iJ)(h:u)(aeO:dz):Prop:=∀{aI:lT}{U:b8}{am:d8}{aL:af.dv}{aE:kq}{H:r8}{mp:wU}{d:af.bA}{l:dv}{w bJ:ch}{y:ar}{g:N}{k:en}{X:eW}{aW:t7 N}{bb:ux},pA→xN→aP6 b_ aeO d→q3→aTa→aO0 (xT aU aeO)→aTA bJ→ami E U am H k X aW bJ g→q5 (als d aL (adb d aL))
abbrev ac3(E:iJ)(h:u)(Aa:hG):Prop:=∀{aI:lT}{U:b8}{am:d8}{aL:af.dv}{aE:kq}{H:r8}{mp:wU}{i:r af.bA}{bs:ac2}{l:dv}{w bJ:ch}{vs:nC}{k:en}{X:eW}{aW:t7 vm}{bb:ux},pA→xN→aP6 jj Aa i→q3→aTa→xT h0 Aa=c (vs,bJ)→aqx E U am H k X aW i.z bJ vs→q5 (aws (act bs (aec i aL)))
def Abd:∀{E}{h},pW .B:=by rw[mY E h aI U am aL aE H mp d l w bJ y,mY k X aW bb,sv,o_ BF V5,mZ bG];rintro _ _ e;rw[ŏ fK.mk.dB,nu,mY av,wH av,nu,oc e,mW fX (oJ aC.fI aC e)]
def AaU{E}{h}{g}:p8 qA:=fun{aI U am aL aE H mp d l w bJ y k X aW bb}aN M bG aC cz av t=>by rw[o_ AD VQ,mZ bG];rintro x _ _ e ag;rw[ŏ fK.mk.dB,nu,mY av,m3 Ai av,nu,oc e];rw[lb]at ag;subst ag;exact fX (oJ aC.fI aC e)
def HV:∀{q}{d}(ag:akH q d=G),∃o n,d=.ah0 n' o n:=by rw[mY q d,mY ag,r5 Hl,oK,r9,pw Ac TM,oK,yD,mW (m7 BN (by rw[cD ag]))]
def Aa0{E}{h}{q}:p8 n':=fun{aI U am aL aE H mp d l w bJ y k X aW bb}aN M bG aC cz av t=>by rw[o_ BF HV,mZ bG];rintro _ _ e;rw[ŏ fK.mk.dB,nu,mY av,wH av,nu,oc e,mW asK (oJ aC.fI aC u0)]
def Abm:∀{E}{h}{j},p8 (og j):=by rw[mY E h j aI U am aL aE H mp d l w bJ,mY y k X aW bb,sv,o_ AD Wa,mZ bG];rintro ab _ _ e ag;rw[ŏ fK.mk.dB,nu,mY av,m3 Ai av,nu,oc e,pD (acz ag),mW wpAny_mkText (oJ aC.fI aC u0)]
def W_:∀{aE}{ag}{aI}{bb}{k}{aL}{U}{am}{H}{X}{j}{y}{aW}(M:xN)(aN:akt U am k.aK H)(i:anR aL am H k.aK X j y)(hc:â (aT9 "__classdict__"))(b:aW y k),v3 (loadName aL j):=by injections aE ag aI bb k aL U am H X j y aW;rw[mY M aN i hc b,nY i i,mY J,nV,ng];rintro f g;rw[m9,mY J];rcases J with(⟨f,x,p,g,afT,V,K,aj⟩);rw[m8,nY g g,mY J,nV,ng];rintro e g;rw[m9,mY J];rcases J with(⟨_,_,p,Aa,o,K,aj,aaK,ac⟩);rw[m8,mW aLM M.cA f aN.ns g b,mW aLM M.cA f (CU p _ o K aj aaK (nO e)) ac b,nY f f];rintro f;rw[m9];rintro f;rw[m8,mW wpAny_loadName_cell M.cA f g (Ad p K aj) b,mW wpAny_loadName_free M.cA f g (Ad p K aj) b hc]
def Wj:∀{mp}{aE}{q}{j}(ag:apo mp aE q j=G),rR mp.cm q∧(aOX «local»∨aOX gh∨aOX ht)∧â (aT9 "__debug__")∧â (aT9 "__classdict__"):=by rw[mY mp aE q j,mY ag];unfold apo at ag;simp only[N.c3,N.acR,lb,ay8]at ag;rw[mX Bq ag fun f g x aj=>?_,mW By f (g.az (·.az .bT fun t=>.bF (.bT t)) fun t=>rt (.bF t)) (ajj.gS x) (ajj.gS aj)]
def Abq:∀{E}{h}{q},p8 ę:=by rw[mY E h q aI U am aL aE H mp d l w bJ,mY y k X aW bb,sv,o_ AR Wd,mZ bG];rintro j _ e ag;rw[yr (Wj ag) Ab aG hd hc,pv AU av fD aJ d,nu,uT d,oA,mY d L,oT,qD,m1 (op l _) (by induction br:rS l using ap.ae with|B=>rw[br]at aJ;injection aJ|c p=>rw[br]at aJ;rw[show p=c _ from aJ]),mY ab0,nD (cz j q fD Ab (aG.az (rb (.bT (M.aeM j a))) (rb (rt (M.cf j a)))) ab0) cM i ft,mW aLF (W_ M aC.fr i hc (oJ aC.fI aC ft)) hd]
def Df:∀{aE}{ac}{j}(ag:ki aE ac j=G),∃n,ac=.kM (af.bH.dF j) n∧aWr aE.bw.cm j=c .amJ∧(af.bH.dF j==aT9 "__debug__")=Y:=by injections aE ac j;rw[mY ag,pw AR Hn,mZ ag];rintro id n e aku;simp only[N.c3,ay8]at aku;rw[pv AC aku f g x,mZ aku,pD (acz f),mW AP _ e (o7 g) (ajj.gS x)]
def OC:∀{aE}{ag}{aI}{bb}{k}{aL}{j}{n}{aW}(M:xN)(J:aOX amJ)(hd:â (aT9 "__debug__"))(b:v3 (aDC aL j)),v3 (adb (aNO j) aL):=by injections aE ag aI bb k aL j n aW;rw[mY M J hd b,mX aLF ?_ hd];unfold loadName;(have aV:aL.d_.cA.isAnnotationScope=Y:=sh M.cA);rw[aV];rw[N.aeu,N.aeu,cH N.aoC]at⊢;rw[zo fX,m1 (aL.aGA=.abU) (by unfold dv.aGA;rw[aV];simp[M.cA]),mY bj,m2 (pa M.aHx),mY cV,bj,cV,mW b]
def HN{aE}{ag}{aI}{bb}{k}{aL}{j}{n}{y}{mg}{aW}(M:xN)(J:aOX amJ)(hd:â (aT9 "__debug__"))(hg:k.aK.af7 lG mg)(aJ:rR mg y)(b:aW y k):v3 (adb (aNO j) aL):=by refine OC M J hd ?_;unfold aDC;rw[M.bL,mW dH (aFd hg (nb aJ (fX b)))]
def HM{aE}{ag}{aI}{bb}{k}{aL}{j}{n}{y}{mg mb}{aW}(M:xN)(J:aOX amJ)(hd:â (aT9 "__debug__"))(hg:k.aK.af7 lG mg)(bK:mg j=B)(U:k.aK.af7 an8 mb)(aJ:rR mb y)(b:aW y k):v3 (adb (aNO j) aL):=by refine OC M J hd ?_;unfold aDC;rw[M.bL,M.akF,mW dH (aFd hg (nb bK (dH (aFd U (nb aJ (fX b))))))]
def AaZ:∀{E}{h}(bl:p9){j}{hJ},p8 (.bL j hJ):=by rw[mY E h,mY bl,mY j hJ aI U am aL aE H mp d l w bJ y,mY k X aW bb,sv,m1 ((ki _ d j&&b1 _)=G) bG,mY ag,ú ag,m3 Ai ag,oK,mY ag hc,pw AF Df,mZ bG ag];rintro n e J hd;rw[ŏ fK.mk.dB,nu,mY av,m3 Ai av,nu,oc e,nD (bl.const j hJ hc) cM aJ br,mX HN M J hd (aQ0 bl.adB.K.g0) aJ (oJ aC.fI aC (br _ _ (aC.eZ aN) (aC.Y8 aN)))]
def BT{d}{hQ}{aL}(b:iS d=G):aec (d::hQ) aL=(Y,adb d aL)::aec hQ aL:=by rw[y8 d af.bA.ae (by rw[xG])]
def AbN:∀{E}{h},p_ ac3 .C:=by rw[mY E h aI U am aL aE H mp i bs l w bJ,mY vs k X aW bb,sv];induction i using r.ae with|s _ _=>rw[sQ bG]|C=>rw[m3 Ak (show Ÿ []=c (vs,bJ)from av),nu,mY av,m3 BL av,nu,oc e,mW aED (oJ aC.fI aC e e)]
def AbM:∀{E}{h}{d}{Aa}(l8:pW d)(it:aNU),ac3 E h u6:=by rw[mY E h d Aa,mY l8 it,mY aI U am aL aE H mp i bs l w bJ vs k,mY X aW bb,sv,o_ BV CB,mZ bG,aQQ (by rintro j xs e hs dQ dW) y,o3,xx,mY J,tQ asC];rintro gx d;rw[nu,m2 tP,mZ t,mY t,mX awt (ws l8 dQ (fun cM h' tk cv I bQ bW=>?_)) (BT hs),mX (x3 it dW x1 gx fun fM aoL ap8 aFj L c7 fh aB=>?_),mW (oJ wu c7 (Au _ _ e xE fh) (rA aB))]
def cT.JP{E}{U}{am}{H}{b h'}{X}{w}(aC:s2){n}(o:aUV ĭ)(gE:ž nk)(f2:ž nh):gb am b h' X (X.e_ n):=⟨fun g p d P P=>Ĳ,we (vK Ĳ),fun g p j d=>⟨aC.Bd g p j d,aN6 (by rw[rl Ĳ,yW,zS (aC.Bd g p j d)])⟩,(Ad ([n]) e (fun g⟨t,cG,fk⟩=>by rw[r.i7]at cG;subst cG;rw[nY fk fk,n8,m9,n8,m8,mW gE,mW f2])),e⟩
def cT.an2{E}{U}{am}{H}{b h'}{X}{w}(aC:cT E U am H b X w){n}{p}(o:aUV ĭ)(gE:ž nk)(f2:ž nh)(l:mC E.b' E.V E.eR h' (X.e_ n) p n):t3 h' (X.e_ n) (w++[p]):=by rw[mX ⟨(aC.g0 o).fr,aC.hC.an2 (aC.JP o gE f2) (fun g cR P d=>o g cR d) l gE f2 aC.hC.ahJ,fun g t=>?_,(aC.g0 o).lx⟩,nt (Dz.mp t),rd,m9,mY J,sE,ng];rintro t cG fk;rw[m8,mW aC.hP g t];simp only[r.i7]at cG;clear l;subst cG;(have cu:b.bg g=B:=by rw[p1,nY fk fk,n8,m9,n8,m8,mW gE,mW f2]);refine⟨?_,fun a=>?_⟩;(rw[vz d (U.bg g) (by rw[sq aC.fr.fx]at cu;rw[yM C4 cu])]);rw[uf,m3 AD aC.fr.ns,mZ p,mY p _ _ d _];rw[cu]at d;rw[pd d]
def Cr{o}(b:Á o):o≤af0:=by rw[Å du,awk];omega
def XG:∀{E}{aI}{U}{am}{H}{w}{vs}{fM}{k}{X}{aW}{bb}(aC:q3)(l:aQo vs fM)(aB:Á vs.z)(t:∀cM h' tk cv,aS0→wl h' cv→db h' cv (nE vs) cM→zu cM),q5 (newTuple fM):=by rw[mY E aI U am H w vs fM k X aW bb,mY aC l aB t];have j:=aC.B0 (h':=k.aK.g' {eY:=p3 "tuple",fS:=.ia fM.mT}) Bv;rw[mX anB (oJ j (aC.g0 Bv) ?_) (by rw[m6 (fM.mT.c5≤af0),r.awl,l.z,mW aSI]),mW (ni Cs e aC.Dy zx e e aB (o7 (l.bx j)))]
def XF{E}{aI}{U}{am}{H}{w}{vs}{fM}{k}{X}{aW}{bb}(aC:q3)(l:aQo vs fM)(aB:Á vs.z)(t:∀cM h' tk cv,aS0→wl h' cv→db h' cv (oh vs) cM→zu cM):q5 (hw fM):=by have j:=aC.B0 (h':=k.aK.g' {eY:=p3 "list",fS:=.ia fM.mT}) Bv;rw[mX anB (oJ j (aC.g0 Bv) ?_) (by rw[m6 (fM.mT.c5≤af0),r.awl,l.z,mW aSI]),mW (ni Cs e aC.Dy zx e e aB (o7 (l.bx j)))]
def Abo:∀{E}{h}{Aa}(it:aNU),p8 (nE Aa):=by rw[mY E h Aa,mY it,mY aI U am aL aE H mp d l w bJ y k X,aN5 AD Wb];rintro i _ _ e ag;rw[ú ag,xx,mY J,pP vs];rintro ct d;rw[nu,m2 tP,p1,mY t,mX aMB (ws it x' (fun fM h' tk cv j bQ bW aB=>?_)),mW XG bQ bW (by rw[m2 rX,m5,xh,mW Am [i.z,vs.z] ai 1048576 S 1000 ai S e rX (Az aB)]) fun cM aoL ap8 aFj L c7 fh=>oJ (j.ah L) c7 fh]
def Aa6{E}{h}{Aa}(it:aNU):p8 (oh Aa):=fun{aI U am aL aE H mp d l w bJ y k X aW bb}aN M bG aC cz av t=>by rw[o_ AR VY,mZ bG];rintro i _ e ag;rw[ú ag,xx,mY J,pP vs];rintro ct d;rw[nu,m2 tP,p1,mY t,mX aFV (ws it x' (fun fM h' tk cv j bQ bW aB=>?_)),mW XF bQ bW (by rw[m2 rX,m5,xh,mW Am [i.z,vs.z] ai 1048576 S 1000 ai S e rX (Az aB)]) fun cM aoL ap8 aFj L c7 fh=>oJ (j.ah L) c7 fh]
def Abc:∀{E}{h}{Aa}(it:aNU),p8 (.hw Aa):=by rw[mY E h Aa,mY it,mY aI U am aL aE H mp d l w bJ y k X,xX,sv,o_ AR V4,mZ bG];rintro i _ e ag;rw[ú ag,xx,mY J,pP vs];rintro ct d;rw[nu,m2 tP,p1,mY t,mX aFV (ws it x' (fun fM h' tk cv j bQ bW aB=>?_))];(have eb:Á vs.z:=by rw[m2 rX,m5,xh,mW Am [i.z,vs.z] ai 1048576 S 1000 ai S e rX (Az aB)]);have L:=nI bQ.JP h' (h'.g' {eY:=p3 "list",fS:=.ia fM.mT}) n (h'.eU.c5,h'.eU.c5) Bv B9 B9;have c7:=pj bQ.an2 h' (h'.g' {eY:=p3 "list",fS:=.ia fM.mT}) n (h'.eU.c5,h'.eU.c5) p (oU vs) Bv B9 B9 (qd e (Ô (Au _ 0 zx eb) xE));refine anB (oJ (j.ah L) c7 (Ad (h'.eU.c5,h'.eU.c5) ?_ e)) (by rw[m6 (fM.mT.c5≤af0),r.awl,bW.z,mW Cr eb]);change(_++_)[_]?=_;rw[←bQ.hC.c9,aQr r.aih];simp
def T9{aL}{bs}:adb (.ah2 [] [] bs) aL=(aEF bs>>=nO lK):=e
def Abb:∀{E}{h}{g},p8 (.lK g):=by rw[mY E h g aI U am aL aE H mp d l w bJ,mY y k X aW bb,sv,o_ Al V3,mZ bG];rintro _ e;rw[ŏ fK.mk.dB,mZ av,mY av,wH av,nu,oc e];simp only[T9];rw[zo aqf,m2 (nI aC.JP h' (k.aK.g' {eY:=p3 "dict",fS:=.bE #[]}) n (k.aK.eU.c5,k.aK.eU.c5) Bv B9 B9),mY L,m1 (mC E.b' E.V E.eR (k.aK.g' {eY:=p3 "dict",fS:=.bE #[]}) (X.e_ (k.aK.eU.c5,k.aK.eU.c5)) (if g then sj else nS) (k.aK.eU.c5,k.aK.eU.c5)) (by rw[p1,wE g,mW AE e aOw (ql (b8.asS.lJ _) e),mW AE e aOw (ql (nM Cn 0 zx (AE e e e) e (tZ (by simp at he)) (.C) r.ahO) e)]),mY ef,m2 (nI aC.an2 h' (k.aK.g' _) n (k.aK.eU.c5,k.aK.eU.c5) Bv B9 B9 ef),mY c7,mX anB (oJ L c7 (Ad (k.aK.eU.c5,k.aK.eU.c5) ?_ e)) (by rw[m6 (aVP (fE _)≤af0+1),mW yL])];change(_++_)[_]?=_;rw[←aC.hC.c9,aQr r.aih];simp
def awh:∀{h}{q}{aq}(b:ab1 h q=c aq),aKY q h=c aq∧-nc h≤q∧q<h∧aq<h:=by rw[yb q aq,mY b,Å ab1];unfold aKY;by_cases bf:ļ;rw[c0 bf]at b;split at b;rw[nf b,mZ b,nR,pq,m1 (¬q<0) (m4 (fun dO=>B4 (A5 [q] 1 0 0 b5 (b5+1) 0 e bf dO))),mY d,cH d,mX By ?_ (m4 (A5 [q,↑h] (-d5) b5 0 b5 0 d5 e bf vV)) aUh (m4 (aOy (R.aEW bf).2)),c0 (by simp;exact⟨bf,aUh⟩)];(with_reducible rw[tb]);rw[pr (cH bf)];split at b;rw[nf b,mZ b,nR,pq,m1 (q<0) (m4 (oa A4 [q] b5 0 b5 0 e (R.apI.1 bf))),mY d,c0 d,mX By ?_ (m4 (aOy YE)) (m4 (oa A5 [q,↑h] b5 d5 b5 0 0 d5 e (R.apI.1 bf) vV)) (m4 ((aOy R.aEW).2 (Pc bf))),c0 (by simp;exact⟨aUh,Pc bf⟩),aR5]
def Vf:∀{h}{q}{aq}(b:ab1 h q=c aq)(bf:ļ),aq=q.es:=by rw[mY h q aq,mY b bf,Å ab1];rw[c0 bf]at b;rw[y7 t h];rw[c0 t]at b;rw[nf b,om,mY b,pq];rfl;rw[pr (cH t),aR5]
def Ve{h}{q}{aq}(b:ab1 h q=c aq)(bf:¬ļ):aq=(q+h).es:=by rw[Å ab1,pr (cH bf)];by_cases t:0≤q+h;rw[c0 t]at b;rw[nf b,om,mY b,pq];rfl;rw[pr (cH t),aR5]
def AbY(j):rH af.bH.dF j=j.z:=by unfold af.bH.z;rw[Fg]at⊢;simp[ea.ana]
def AbC(x):af.bH.dF (ea.awj x)=⟨#[x.es]⟩:=by rw[m2 (Fg (ea.awj x)),m5];induction b:af.bH.dF (ea.awj x)using af.bH.ae with|mk cps=>rw[o6 b];simp only at aa;rw[tf];simp
def j0.ahK{b}{X}:∀{i}{e1}(o),aPp→(lB o i=B∧aiZ e1 o=B)∨∃y j,lB o i=c y∧aiZ e1 o=c j∧ì j:=tV lj lj (by intro _ o l;rw[tF,mW (pp zm)]) ll i (by induction ll using fK.ae with|mk f y=>intro _ o l;rw[tR,n2];rintro j cy e g x;rw[nH d f o,mW (rt (Au y j (by simp[E4,E5,d]) (y9 aiZ d) g)),nt (ih o x),aO2 ab a,tp (by rw[vX])];rintro fD g4 ab a t;rw[m8,mW (zj (Ū E4 E5 d ab) (by unfold aiZ at a⊢;rw[Ô r.amE d,mW a])),mW (rt (Au _ _ (Ū E4 E5 d ab) (by unfold aiZ at a⊢;rw[Ô r.amE d,mW a]) t))])
def jy.ahK{b}{X}:∀{i}{xs}(o),aPq→(kx o i=B∧agf xs o=B)∨∃y f j,kx o i=c y∧agf xs o=c (f,j)∧ì j:=tV lj lj (by intro _ o l;rw[tF,mW (pp zm)]) ll i (by induction ll using fK.ae with|mk f y=>intro _ o l;rw[m3 Co l,n2];rintro ad j cy e _ _ _ g x;rw[nH d f o,mW (rt (CA y ad j (by simp[EM,EN,d]) (y9 agf d) g)),nt (ih o x),aO2 ab a,tp (by rw[ri B8])];rintro fD dE g4 ab a t;rw[m8,mW (zj (Ū EM EN d ab) (by unfold agf at a⊢;rw[Ô r.amE d,mW a])),mW (rt (n7 CA (Ū EM EN d ab) (by unfold agf at a⊢;rw[Ô r.amE d,mW a]) t))])
def gV.apZ{E}{h}{aI}{U}{am}(aN:pA):aI.in1.ib+100<mj:=by rw[m2 aN.ib,m5];simp only[lT.aJz];exact oa Ag [aI.ib,h,mj] (nm+100) a8 (S+(tB ai)+400) a8 e aa
set_option tactic.hygienic true in
def Dg:∀{E}{U}{am}{H}{w}{k:en}{X}(aC:q3){p}{co}{i}(ef:Ŝ p co)(b:aVH=c i),∃f cR xs o,co=si∧k.aK.bg f=c cR∧cR.eY=p3 "list"∧cR.fS=.ia xs o∧tU∧aQo i xs.e0:=by injections E U am H w k X;intro aC;injections p co i;intro ef b;induction p using ar.ae with|bm l'=>rw[sB j7 ap.c.fV,pq,m3 Bt ef,mZ ef];(rintro f cR xs o e _ d hc hd aB t);exact(JH f _ _ o e d hc hd aB t)|D q=>replace b:(aNX (c i))=c i:=b;generalize d:s_=aa8 at b;(rw[tm aa8 (by rw[aR5]) cR (by induction cR using c_.ae with|aw l'=>rw[nf b,om,nR,pq,p4 ef,mZ ef];(rw[ù]);rw[nD (aC.hC.at d) cw dg l,aN1,nf dg,mZ dg,mY dg,xg];(obtain⟨_,xs,o,a5,aB,t⟩:=l);exact(n7 JH o e a5 e e aB t)|_=>rw[aR5])])|_=>rw[tb]
def aDo:∀{E:iJ}{aI}{k}{X}{bb}{f}{cR}{xs}{o}{i}{q}{v}{aq}{y}{aW}(d:k.aK.bg f=c cR)(hc:cR.eY=p3 "list")(hd:cR.fS=.ia xs o)(aB:tU)(t:aQo i xs.e0)(cQ:ab1 i.z q=c aq)(aJ:p7 i y)(b:∀cM tk,aN7→aW cM (aNR tk)),q5 (akY si (u2 q)):=by rw[mY E aI k X bb f cR,mY xs o i q v aq y aW d hc hd aB t cQ aJ b];have hL:k.aK.ajc f xs:=(AP cR d hc ⟨o,hd⟩);rw[aTo eb t.z,so t.i3 aJ,mY cM K l,yr (awh cQ) Q h2 h3 h4];(have arg:p7 xs cM:=uq fE.ari K);unfold du at aB;by_cases bf:ļ;rw[m2 (Vf cQ bf),mY akP,mW wpAny_getItem_list hL bf (m4 (aVA A5 [↑i.z,q] d5 1048576 (d5+1) b5 e (Bb aB) h3)) (akP▸arg) (nv b l),m2 (Ve cQ bf),mY akP,mW wpAny_getItem_list_neg hL (m4 (oa A4 [q] b5 0 b5 0 e (R.apI.1 bf))) (m4 (A5 [↑i.z,↑xs.c5,q] (-d5) gY b5 d5 (-b5) gY e (Bb (AN eb)) h2)) (m4 (A5 [↑i.z,q] (-9223372036854775808) d5 b5 1048576 (-b5) d5 e (Bb aB) h2)) (nb eb (akP▸arg)) (nv b l)]
set_option tactic.hygienic true in
def Wt:∀{E}{h}{aI}{U}{am}{H}{w}{k}{X}{bb}(aN:pA)(aC:q3){p o y}{co kQ}(ef:Ŝ p co)(An:Ŝ o kQ)(aJ:eC w p o=c y),(∃O id,k.aqC co O∧typeLookup (p3 O) "__getitem__"=km (c (.acy id)))∧∀{aW},(∀cM tk,aN7→aW cM (aNR tk))→q5 (akY co kQ):=by injections E h aI U am H w k X bb;intro aN aC;injections p o y co kQ;intro ef An aJ;induction p using ar.ae with|ay i=>(rw[qO o m q (by rw[m3 Ay aJ,qE,mY aq cQ aJ,m3 Bt ef,mZ ef];(rintro f cR xs aiL e _ d hc hd aB t);rw[o8 An,mZ An,sK,m1 (asY _ f _) (AP _ d hc ⟨aiL,hd⟩),mY h1,vi (AI ("tuple") ("tuple.__getitem__") (Ad cR d hc) awr.cm) (fun{aW}b=>?_),m2 (wy t.z),mY eb,so t.i3 aJ,mY cM K l,yr (awh cQ) Q h2 h3 h4];unfold du at aB;refine getItem_tuple h1 (m4 (A5 [↑i.z,q] (-9223372036854775808) d5 b5 1048576 (-b5) d5 e (Bb aB) h2)) (m4 (aVA A5 [↑i.z,q] d5 1048576 (d5+1) b5 e (Bb aB) h3)) (nb eb Q) (uq fE.ari K) (nv b l)) (by rw[aQJ])])|bm i=>(rw[qO o m q (by rw[m3 Ay aJ,qE,mY aq cQ aJ,m3 Bt ef,mZ ef];(rintro f cR xs aiL e _ d hc hd aB t);rw[o8 An,mZ An,sK,mW ⟨(sb AI (ql d hc) awq.cm),fun{aW}b=>aDo d hc hd aB t cQ aJ b⟩]) (by rw[aQJ])])|bi j=>(rw[qO o m q (by rw[m3 Bc aJ,qE,mY hs aJ,m3 Ay aJ,mZ aJ,mY aq cQ aJ,m3 AU aJ,qE];(rintro x hc e);rw[o8 ef,mZ ef,sK,o8 An,mZ An];(rw[oc aP]);rw[vi (AI ("str") ("str.__getitem__") (typeIs_str k _ v) slot_str_getitem.cm) (fun{aW}b=>?_),m3 Bq (awh cQ),mY Q h2 h3 h4];refine lu.me.getItem_str (x:=x.es) ?_ ?_ (nv b ⟨k.ce,Ĕ AbC⟩);rw[N.aKD,mW ⟨jq (m4 (fun dO=>B4 (E0 [↑j.z,q] 1 0 b5 1000 (-b5) d5 (d5+1) (-9223372036854775808) e (Bb hs) h2 dO))),jq (m4 (fun dO=>B4 (E0 [↑j.z,q] 1 0 b5 1000 (d5+1) b5 9223372036854775808 d5 e (Bb hs) h3 dO)))⟩,aPW AbY Q Fg];simp[hc]) (by rw[aQJ])])|D f=>delta eC at aJ;dsimp only at aJ;generalize d:w[f]?=aa8 at aJ;(induction aa8 using ap.ae with|B=>rw[aQJ]|c V=>(induction V using c_.ae with|aw i=>(rw[qO o m q (by rw[so ap.bind_eq_some_iff.mp aJ,qE,mY aq cQ aJ,p4 ef,mZ ef];(rw[ù]);rw[so aC.hC.at d,mY cw dg l,aN1,nf dg,mZ dg,mY dg,xg];(obtain⟨_,xs,aax,a5,aB,t⟩:=l);rw[o8 An,mZ An,sK,mW ⟨(sb AI (zn a5) awq.cm),fun{aW}b=>aDo a5 e e aB t cQ aJ b⟩]) (by rw[aQJ])])|bE i=>rw[m3 Bc aJ,mZ aJ,mY aG aJ];simp only[N.c3]at aG;rw[p4 ef,mZ ef];(rw[ù]);rw[so aC.hC.at d,mY cw dg l,aN1,nf dg,mZ dg,mY dg,xg];(obtain⟨_,aB,xs,hD,t⟩:=l);rw[m2 (An.dx _ aG.2),mY e6,mZ An,vi (AI ("dict") ("dict.__getitem__") hD.ae1 aK7.cm) (fun{aW}b=>?_)];(rw[qO o ay agO (by rw[m3 AA (id e6),aUl aiF,nt (t.ahK aSj),mY J,nV,ng];(rintro a _);rw[m9,mY J,ri B8,ng];(rintro fD dE g4 ab a l);rw[m8];rw[a]at aJ;rw[Ğ aJ];rw[ab]at aJ;rw[mZ ab,nf aJ,qE,mY aJ,vQ];exact wpAny_getItem_heap (knd:=m7 ac6) aN.apZ (AE Ť aG.2 e6) hD a (nv b l)) (by simp[l4]at aG)])|bM i=>(rw[qO o m q (by rw[aTi (lB q i=c y),p4 ef,mZ ef];(rw[ù]);rw[so aC.hC.at d,mY cw dg l,aN1,nf dg,mZ dg,mY dg,xg];(obtain⟨_,aB,e1,hD,t⟩:=l);rw[o8 An,mZ An,sK,vi (AI ("dict") ("dict.__getitem__") hD.ae1 aK7.cm) (fun{aW}b=>?_),nt (t.ahK q),mY J,nV,ng];(rintro a _);rw[m9,mY J,vX,ng];(rintro fD g4 ab a l);rw[m8];rw[a]at aJ;rw[Ğ aJ];rw[ab]at aJ;rw[mZ ab,nf aJ,qE,mY aJ,vQ];exact wpAny_getItem_of (o:=q) (y9 mu ck.arS) hD.and a (nv b l)) (by rw[aQJ])])|bS=>rw[aQJ]))|_=>rw[aQJ]
def DL:∀{y}(b:aeS y=G)(j)(aL)(v),aGw y j aL v=v:=by intro y;induction y using af.bA.ae with|jG ac as ks n=>(rw[oS as (by(rw[oS ks (by rw[nR,mW N.cs b]) o ks (by rw[mY b j aL v,om];induction ac using af.bA.ae<;>rfl)])) f as (by rw[mY b j aL v,om];induction ac using af.bA.ae<;>rfl)])|_=>intro b j aL v;rfl
def Ab0{ed}(b:aj2 ed=G)(p q):aEN ed Y p q=aD9 [p,q] (akY p q):=by rw[y8 ed af.bA.ae (by rw[xG])]
def S0(o h:u):max tM (ab7 uQ (nc h))=ob (ab7 o h):=by by_cases b:o≤h;rw[u.anh b,pQ R.anh R.ads.gS,R.aKj (R.ab8 _)];have b:=u.le_of_not_le b;rw[u.aKo b,pQ R.aKo R.ads.gS,R.aKj (R.ab8 _)]
def MJ(o h:u):(if xp>0 then max tM (ab7 (if uQ<0 then uQ+h else o) (nc h))else max (-1) (ab7 (if uQ<0 then uQ+h else o) (nc h-1)))=ob (ab7 o h):=by rw[oQ c0,cH (R.aa6.gS (R.ab8 o)),S0]
def ZL(eD){ab}(b:0≤ab):awn eD B (c ab) B=(eD.e0.gu ab.es).mT:=by rw[m3 Al (R.at8 b),om,oc o,m1 (aK4 B nJ B eD.c5=(ob 0,ob (ab7 o _),1)) (cr (nF (tM,j,xp)) (MJ o _)),p0];simp only[aJX _ d,r.drop_zero,u.sub_zero,←fE.ana,kmk_take_min,R.akg]
def ZJ(eD){j}(b:0≤j):awn eD (c j) B B=(eD.e0.cF j.es).mT:=by rw[m3 Al (R.at8 b),om,oc o,m1 (aK4 nJ B B _=(ob (ab7 o _),ob eD.c5,1)) (cr (nF (j,nc eD.c5,xp)) (MJ o _)),mY d];simp only[aJX _ d,←fE.ana,kmk_drop_min,R.akg];exact uU (r.take_of_length_le (nb r.apu (u.aLd (u.alA ..) _)))
noncomputable abbrev af1(i aP o:ck):k_:={eY:=p3 "slice",fS:=.ajs #[i,aP,o]}
def GO{E}{aI}{U}{am}{H}{w}{k}{X}{bb}(aC:q3){abE ae6 ae5}{aW}(b:∀s',s'.aK=k.aK.g' (af1 abE ae6 ae5)→s'=aU9 (k.aK.g' (af1 abE ae6 ae5))→gb am k.aK s'.aK X X→wl s'.aK X→aW (nP k.aK.eU.c5) s'):q5 (newFields "slice" [abE,ae6,ae5]):=by rw[m3 anB (b _ e e (aC.B0 Bv) (aC.g0 Bv)),m6 ((#[abE,ae6,ae5]:fE _).c5≤af0+2),mW yL]
def Kx:∀{E}{aI}{U}{am}{H}{w}{X}{bb}{aE9 agV}{co}{p}{i}{abE ae6 ae5}{lo Ab st}{zs}{kK:en}{aW}(aC:wl kK.aK X)(ef:db kK.aK X p co)(aB:aVH=c i)(Av:asX abE lo)(aEm:asX ae6 Ab)(aEc:asX ae5 st)(bf:st≠c 0)(ba:∀(xs),d4 kK.aK X i xs.e0→d4 kK.aK X zs (awn xs lo Ab st).e0)(hz:Á zs.z)(hs:∀f g,aEN agV Y si (nP g)=aD9 [si,nP g] (akY si (nP g))∨aEN agV Y si (nP g)=aD9 [nP g,si] (akY si (nP g)))(t:∀cM h' tk cv,aT6 kK.aK→wl h' cv→db h' cv (oh zs) cM→aW cM {kK with aK:=h',ce:=tk}),d3 wo aI (subscriptTail aE9 agV co (nP kK.aK.eU.c5)) aW bb {kK with aK:=kK.aK.g' (af1 abE ae6 ae5)}:=by rw[mY E aI U am H w X bb aE9 agV co p i abE,mY ae6 ae5 lo Ab st zs kK aW,mY aC ef aB Av aEm aEc bf ba hz hs t,m3 Dd (Dg aC ef aB),mZ ef];rintro f cR xs o e d hc hd jt l;have hL:kK.aK.ajc f xs:=(AP cR d hc ⟨o,hd⟩);have j6:tc kK.aK.bg (((kK.aK.g' (af1 abE ae6 ae5)).g' {eY:=p3 "list",fS:=.ia (awn xs lo Ab st)}).bg g=c p):=fun g p a=>m7 Bv (nv Bv a);rw[m2 (aC.g0 (Bv (p:=af1 abE ae6 ae5))),mY bQ];(have K:d3 wo aI (akY si (nP kK.aK.eU.c5)) aW bb {kK with aK:=kK.aK.g' (af1 abE ae6 ae5)}:=by rw[m1 (b8.ajc (en.aK {kK with aK:=kK.aK.g' (af1 abE ae6 ae5)}) f _) (hL.g' _),mY aHL];refine wpAny_getItem_list_slice (k:={kK with aK:=kK.aK.g' _}) aHL (b8.aqs.lJ ..) Av aEm aEc bf (p5 t kK.ce (aC.B0 j6) (aC.g0 j6) ?_) (by rw[m2 l.z,m5];simp only[fE.ana]at aa;rw[aa,mW Cr jt]);exact(ni Cs e bQ.Dy zx e e hz ((ba _ l).bx (aC.B0 j6))));have h1:en.aqC {kK with aK:=kK.aK.g' (af1 abE ae6 ae5)} si "list":=(hL.g' _).ae1;rw[nt (hs f kK.aK.eU.c5),wC,m9,wC,m8,mW awF h1 awq.cm K a,mW awF h1 awq.cm K a]
def Aa3:∀{E}{h}{f o}(sa:qB)(aaK:pW o),p8 (.aT f o):=by injections E h f o;intro sa aaK;injections aI U am aL aE H mp d l w bJ y k X;rw[xX,sv,o_ AD VV,mZ bG];rintro acZ ed bs e ag;rw[aQQ (by(have iQ:aj2 ed=G∧aP6 b_ f acZ∧aP6 b_ o ed:=by simp only[N.c3,N.c3]at ag;exact ag)) p,o3,oi,mY J,tQ q,wP,pv AU av fD aJ d,nu];replace t:=tP;rw[mX aqA (ws sa (nj iQ) (fun co Q t1 cX I bQ bW=>x3 aaK (nW iQ) x1 gx fun kQ h2 d2 g5 L c7 fh=>?_)),wH (pj Wt k aV0 bb bb aI aI aN c7 xE fh aJ),mY J,ri AR,ng];rintro O id h1 aB;rintro K;exact awF h1 aB (K fun cM tk ft=>sk t h2 wu c7 ft) (Ab0 iQ.1 _ _)
def Abk{E}{h}{f o}(sa:qB)(aaK:pW o):p8 (.ady f o):=fun{aI U am aL aE H mp d l w bJ y k X aW bb}aN M bG aC cz av t=>by rw[o_ AA V_,mZ bG];rintro acZ aP _ _ e ag;rw[qu,oi,mZ av,mY J,pP p,o3,oi,nu,mY J,tQ q,wP,xx,nu,mY V e9 d,m2 tP,p1,mY t,so Cl e9,mZ e9,oA,mY aq d gy,m3 Db (sr q Ė d),mZ d,mY hz];subst hz;rw[pv Ay gy i aB aaj,m3 Bc aaj,mY Ab d,ú Ab,mZ gy aaj,nf d,oA,mY d,oT,mX aqA (yF rX),mX dH (fX (dH (ae9 (x3 aaK x' x1 gx fun kQ h2 d2 g5 L c7 fh=>dH (ae9 (fX ?_)))))),o8 fh,mZ fh,oc v,mX (wf GO c7 fun s' P Aa P P=>?_),mZ P];subst Aa;rw[m1 tU (by rw[mX Dd (wf Dg c7 xE aB) fun P P P P P P P P a P=>?_,mW a]),mY eb,mX (nI Kx zs (i.gu aq.es) kK aV0 c7 xE aB .B (u2 aq) .B ra (fun xs cy=>?_) (nb r.aiG (u.eI (u.apB ..) eb)) (wW yp) fun cM h3 j9 abG Z ic k4=>t cM h3 j9 abG aTe ic k4),ZL _ Ab.1,mW cy.gu _]
def Abj:∀{E}{h}{f o}(sa:qB)(aaK:pW o),p8 (.ahW f o):=by rw[mY E h f o,mY sa aaK,mY aI U am aL aE H mp d l w bJ y k X,aN5 AA V9];rintro acZ aP _ _ e ag;rw[qu,oi,mZ av,mY J,pP p,o3,oi,nu,mY J,tQ q,wP,xx,nu,mY V e9 d,m2 tP,p1,mY t,so Cl e9,mZ e9,oA,mY aq d gy,m3 Db (sr q Ė d),mZ d,mY hz];subst hz;rw[pv Ay gy i aB aaj,m3 Bc aaj,mY Ab d,ú Ab,mZ gy aaj,nf d,oA,mY d,oT,mX aqA (yF rX),mX dH (x3 aaK x' x1 gx fun kQ h2 d2 g5 L c7 fh=>dH (ae9 (fX (dH (aVg ae9))))),o8 fh,mZ fh,oc v,mX (wf GO c7 fun s' P Aa P P=>?_),mZ P];subst Aa;rw[m1 tU (by rw[mX Dd (wf Dg c7 xE aB) fun P P P P P P P P a P=>?_,mW a]),mY eb,mX (nI Kx zs (i.cF aq.es) kK aV0 c7 xE aB (u2 aq) .B .B qg (fun xs cy=>?_) (nb r.apu (u.eI (u.awz ..) eb)) (wW yp) fun cM h3 j9 abG Z ic k4=>t cM h3 j9 abG aTe ic k4),ZJ _ Ab.1,mW cy.cF _]
def cT.FJ:∀{E}{U}{am}{H}{w}{X}{b h'}{aj0}(aC:s2)(aN:akt U am h' H)(gc:as2 U am h' aj0)(eZ:∀n∈aTu b,n∈aj0),wl h' X∧aNT∧∀g p,v1→aOT→ĭ:=by rw[mY E U am H w X b h' aj0,mY aC aN gc eZ];(have o:∀g p,v1→aOT→ĭ:=fun g p d afT=>by induction t:U.bg g using ap.ae with|c o'=>rw[m2 (aC.fr.fx g _ t),m5,o6 d,nf aa,mZ aa,m5,uM,mW aN.fx g p t]|B=>exact(gc _ (eZ _ (CM.gS (By d afT t e)))).1);(have jH:∃p,h'.bg am=c p∧aPz:=by rw[m3 B8 aN.ns,mY p Aa ep d aj _,mW Ad p d (ĺ hK aj)]);have j:aNT:=⟨fun g p d afT P=>o g p d afT,we (by rw[nH t g am,mZ aC aN gc eZ o,sA,p4 jH,mY o' a5 _,mW (aOj a5),mW (vK (o g p d t))]),fun g p t d=>⟨aC.Bd g p t d,aN6 (by rw[mZ aC aN gc eZ o,sA,oz jH k2 bj a,rl bj,mZ bj,yW,zS a])⟩,aPu,e⟩;exact(AE ⟨aN,aC.hC.g0 j fun g p t d=>o g p d (aC.hP g t).2,aC.hP,fun g t=>⟨(Ł).1,let(xc):=(Ł).2;aQn⟩⟩ j o)
def R5{f g:R}{h:u}(Q:1≤f)(h2:aQU)(h3:g≤h):gM.lv.aEA (c f) (c g) 1 (nc h)=(f,g):=by unfold gM.lv.aEA;(have h4:¬(xp<0):=n_);rw[m1 (¬(f<0)) (m4 (fun dO=>B4 (A5 [f] 1 0 1 b5 (b5+1) 0 e Q dO))),mY h5,m1 (¬(g<0)) (m4 (fun dO=>B4 (E0 [f,g] 1 0 1 b5 b5 d5 (d5+1) 0 e Q h2 dO))),mY h6];simp only[h4,h5,h6,abv];rw[uh,mW R.anh (R.eI h2 h3),mW R.anh h3]
def ZN{f g}(Q:1≤f)(h2:aQU):gM.lv.awo f g 1=(g-f).es:=by unfold gM.lv.awo;rw[m1 (xp>0) n_,mY h3];simp only[h3,fU,R.az2];split;rw[mW cr R.es (R.e8 _ 1),mW (rz (R.aEX (R.aLg (aOy R.aa6.1))))]
def ZK(xs:õ){f g:R}(Q:1≤f)(h2:aQU)(h3:g≤xs.c5):((r.adw (g-f).es).adW fun(o:u)=>xs[(f+uQ*1).es]?).mT=((xs.e0.gu g.es).cF f.es).mT:=by rw[mZ h3,m3 Al (R.at8 (R.eI nw Q)),mZ Q,oc h,m3 Al (R.at8 (R.eI (R.ab8 h) h2)),mZ h2,oc H,m1 ((fun(o:u)=>xs[(nc h+uQ*1).es]?)=fun o=>xs[h+o]?) (by funext o;rw[R.mul_one];rfl),mY d];simp only[d,R.toNat_sub,R.akg,R.akg];rw[m2 (pick_run xs h (H-h)),mY aa,o6 r.filterMap_map,m1 (((nF xs[j]?)∘nF (h+j))=fun o=>xs[h+o]?) e,mY bj,o6 bj,aa,r.drop_take]
def U2:∀{E:iJ}{aI:lT}{k:en}{bb:ux}{v ed:d8}{eD:õ}{f g:R}{aP awQ:aGf}{aW:ux}(aS:asY k.aK v eD)(hs:k.aK.aqs ed (.m f aP) (.m g awQ) .B)(Q:1≤f)(h2:aQU)(h3:g≤eD.c5)(b:aW (nP k.aK.eU.c5) (aU9 (k.aK.g' {eY:=p3 "tuple",fS:=.ia ((eD.e0.gu g.es).cF f.es).mT})))(acH:eD.c5≤af0),q5 (akY (nP v) (nP ed)):=by injections E aI k bb v ed;rw[mY eD f g aP awQ aW aS hs Q h2 h3 b acH,m1 (sizeOk (.ia ((eD.e0.gu g.es).cF f.es).mT)) (by rw[m6 (((eD.e0.gu g.es).cF f.es).mT.c5≤af0),r.awl,r.apu,r.aiG,fE.ana,mW (xn (u.awz ..) (u.eI (u.apB ..) acH))]),mY aIf,mX AF (id hs) fun os aiv auL afD=>?_,m1 (k.aqC (nP ed) "slice") (Ad os aiv auL),mY arp];delta akY;rw[zX (by rw[tC ae9]),mX dH (wpAny_sequenceKey aS.ae1 nw ?_),mX dH (wpAny_callSpecial?_slot (cB:=bH.dF "__getitem__") aS.ae1 awr (awV awr aS.ae1 entry_tuple_getitem ?_ (m7 args_tuple_getitem))),ő (gM.ac4.aLr (nP v)>>=_),mX dH (tupleItemsOf_ aS ?_),mX dH (aLS arp ?_),oQ c0,m1 (∀{aW:t7 (R×R×u)}{bb:ux}{aI:lT},aW (f,1,(g-f).es) k→q5 (gM.lv.aK3 (nP ed) (km (nc eD.c5)))) (by intro aW bb aI b;delta gM.lv.aK3 gM.lv.sliceFields;rw[mX dH (dH (aqd aiv afD (j:=.m f aP) e (dH (aqd aiv afD (j:=.m g awQ) e (dH (aqd aiv afD (j:=.B) e (fX ?_))))))),zo slicePart_none,ő (if(xp==0)=G then _ else _),aSv,mX dH (aK5 (dH (aK5 (aVg dH)))),ő (match gM.lv.aEA (c f) (c g) 1 (nc eD.c5)with|(lo,Ab)=>km (lo,xp,gM.lv.awo lo Ab 1)),R5 Q h2 h3,ő (km (f,xp,gM.lv.awo f g 1)),ZN Q h2,mW fX b]),mY sa,zo sa,m1 (¬((f==0&&xp==1&&((g-f).es==eD.c5))=G)) (by rw[m1 ((f==0)=Y) (yo ajj),m5,tf,mW yL]),mY ajF,ő (if(f==0&&xp==1&&((g-f).es==eD.c5))=G then _ else _),cH ajF,ZK eD Q h2 h3];exact dH (H:=gM.ac4.tupleExact _) (anB (fX (pQ (Ad _ e) fX)) aIf)
def V1{d}(b:avQ d=G):∃o n t,d=.ahj .atc (.ah0 nG o n) t:=by rw[m3 AD (Jv b),om];rintro _ _ _ e h';rw[ot (aOE h') f g,mZ h',m3 BF (HV g),mZ g];rintro _ _ e;rw[pD (cD f),mW (n7 Nc e)]
def Abh:∀{E}{h}{f}(sa:qB),p8 (.rev f):=by rw[mY E h f,mY sa,mY aI U am aL aE H mp d l w bJ y k X,xX,sv,aQ7 AA V7 (by rintro acZ aP _ _ e ag),m3 JM (V1 x')];rintro _ _ _ e;rw[oi,mY J,pP p,o3,pv AU av i aB d,mZ av,m2 tP,p1,mY t,mX aqA (yF rX),mX dH (fX (dH (ae9 (fX (dH (ae9 ?_)))))),mX axs (asK (neg_int ?_)),m2 bQ,mY c7,mX (wm GO Q (t1+1+1) bQ fun s' P Aa P P=>?_),mZ P];subst Aa;rw[m1 tU (by rw[mX Dd (qq Dg bQ bW aB) fun P P P P P P P P a P=>?_,mW a]),mY eb,mX (nI Kx zs i.aba kK {k with aK:=Q,ce:=t1+1+1} bQ bW aB .B .B (.m (-1) _) qg (fun xs cy=>?_) (o7 eb) (wW qN) fun cM h3 j9 abG Z ic k4=>t cM h3 j9 abG (I.ah Z) ic k4)];simp only[krv_pick]at⊢;exact cy.aba
def Abi:∀{E}{h}{f}{q aq}(sa:qB),p8 (.agV f q aq):=by injections E h f q aq;intro sa;injections aI U am aL aE H mp d l w bJ y k X;rw[xX,sv,aQ7 Bz V8 (by rintro acZ i aP _ _ e ag),m3 AC ag,mZ ag];rintro ag dQ dW;rw[m3 BF (HV dQ),mZ dQ];rintro _ _ e;obtain⟨_,_,e⟩:=HV dW;rw[tl Cm,mY J,pP p];rintro ct e9;rw[so H9 e9];rintro V gy d;rw[mZ e9,m2 tP,mZ t,mY t,oA,so IS gy];rintro i d aaj;rw[mZ gy,m3 Db (sr p o9 d),oA,mY hz];subst hz;rw[m3 Ai (Ct aaj)];rintro Ab d;rw[ú Ab,mZ aaj av,nf d,oA,mY d,oT,mX aqA (yF ag),m3 Bt bW,mZ bW];rintro ad cR xs o e no d hc hd jt l;rw[mX dH (asK (dH (ae9 (asK (dH (aVg ae9)))))),mX (wm GO Q (t1+1+1) bQ fun s' P Aa L c7=>?_),mZ P];subst Aa;rw[m1 (sF asY) aRs,mY h1];have aCg:asY (Q.g' (af1 (.m q t1) (.m aq (t1+1)) .B)) ad xs:=(AP cR (tj Bv) hc ⟨o,hd⟩);rw[aTo eb l.z,m1 (d3 (fP _ E.V) aI _ aW bb _) (by have Z:=c7.B0 (h':=(Q.g' (af1 (.m q t1) (.m aq (t1+1)) .B)).g' {eY:=p3 "tuple",fS:=.ia ((xs.e0.gu aq.es).cF q.es).mT}) Bv;rw[mX (wm U2 (Q.g' _) (t1+1+1) aCg (b8.aqs.lJ ..) Ab.1 (nj Ab) (m4 (A5 [aq,↑i.z,↑xs.c5] b5 gY b5 d5 d5 gY e (nW Ab) (Bb (AN eb)))) (sb t (t1+1+1) _ (I.ah (L.ah Z)) (c7.g0 Bv) ?_) (nb eb (Cr jt))),mW (ni Cs e c7.Dy zx e e (tL r.apu r.aiG (Bu [i.z,du,m7 ab7-q.es,m7 ab7] a8 ai S ai a8 eK eK S e jt (m7 u.awz) (m7 u.apB))) (yg r.toList_toArray (((l.gu _).cF _).bx (L.ah Z))))]),mY K,mW (wm awF (Q.g' (af1 (.m q t1) (.m aq (t1+1)) _)) (t1+1+1) aCg.ae1 awr.cm K e)]
def HW(f g)(v):(ck.bi f v).aa3 g=(f==g):=e
def jI.ahK{V}{b}{X}(h):∀{fs}{Aa},aPv fs→(aS3=B∧Aa.amD (ol (xK d.dx.aa3))=B)∨∃y d,aS3=c y∧Aa.amD (ol (xK d.dx.aa3))=c d∧ì d.lP:=tV lj lj (by intro _ l;rw[tF,mW (pp zm)]) ll fs (by induction ll using fK.ae with|mk f y=>intro _ l;rw[m3 BW l,mZ l];rintro d cy v e fk aG aJ br;rw[nH t f h,mZ ih,sA,mX .bF (Au y d (y9 JX JY) ?_ aJ),r.find?_cons_of_pos];rw[aG,HW,mW aaU _];(have a:¬(xK d.dx.aa3=G):=by rw[aG,HW,mY a,mW t (Gx (acz a))]);rw[nt (ih br),aO2 j ab,tp (by rw[vX])];rintro fD a5 j ab z';rw[m8,mW (zj (Ū JX JY t j) (nb (r.amE (n:=fun d:ag7=>d.dx.aa3 _) a) ab)),mW (rt (Au _ _ (Ū JX JY t j) (nb (r.amE (n:=fun d:ag7=>d.dx.aa3 _) a) ab) z'))])
def jI.arU{V}{b}{X}:∀{fs}{Aa},aPv fs→Aa.dS (·.awc)=Y:=tV lj lj (by intro _ l;rw[tF];rfl) ll fs (by induction ll using fK.ae with|mk f y=>intro _ l;rw[m3 BW l,n2];rintro d cy v e fk aG aJ br;simp only[r.akC,ih br,N.apQ];unfold ag7.awc;rw[aG])
def jI.alx:∀{V}{b}{X}{fs}{Aa}{h}{o}(l:aPv fs),(aS3=B∧alx Ï (aop Aa o)=c B)∨∃y j,aS3=c y∧alx Ï (aop Aa o)=c (c j)∧ì j:=by rw[mY V b X fs Aa h o,mY l,nt (l.ahK h),mY J,nV,ng];rintro f g;rw[m9,mY J,vX,ng];rintro y d f g x;rw[m8,mX (pp ⟨f,?_⟩),m6 ((match Aa.amD (ol (xK d.dx.aa3))with|c d=>nJ|B=>if Aa.dS (·.awc)then B else nJ)=_),g,l.arU];rfl;rw[mX .bF (Au y _ f ?_ x),m6 ((match Aa.amD (ol (xK d.dx.aa3))with|c d=>nJ|B=>if Aa.dS (·.awc)then B else nJ)=_),g]
def db.handed:∀{b}{X}{y}{j}(l:ì j),handedIn j=G:=by rw[mY b X y j,mY l];induction y using ar.ae with|B=>rw[tF];rfl|aO g=>rw[tF];rfl|m q=>rw[m3 Al l,n2,sK];rfl|bi k=>rw[m3 Al l,n2,sK];rfl|ay i=>rw[m3 AA l,n2,aUl f];rfl|bm i=>rw[m3 AA l,n2,aUl f];rfl|D q=>rw[m3 Ac l,n2];rintro n _ e;rfl
def avx:∀{E}{U}{am}{H}{w}{k:en}{X}(aC:q3){q x}{fs}{co}(ef:ô n3 co)(d:aSD),∃n Aa o,wd∧co=nP nk∧k.aK.bg nk=c (avv aQk nh)∧k.aK.bg nh=c (aop Aa o)∧jI E.V k.aK X fs Aa∧aNN fs.au∧fs.z≤300∧aMm k.aK nk (avv aQk nh) aQk (c (aop Aa o)):=by injections E U am H w k X;intro aC;injections q x fs co;rw[mY ef d,p4 ef,mZ ef,ù,nD (aC.hC.at d) cw dg l,aN1,nf dg,mZ dg,mY dg,xg];obtain⟨aV,Aa,o,bj,aB,b2,cO⟩:=l;exact(Uf n _ o ba e aV bj b2 cO aB ⟨aV,e,e,bj⟩)
def L':∀{E}{h}{aI}{U}{am}{H}{w}{k}{X}{bb}(bl:p9)(aN:pA)(aC:q3){q x}{fs}{co}{j}{y}{f_}{aW}(ef:ô n3 co)(d:aSD)(b2:E.O.abp x j=G)(aJ:acA j fs=c y)(t:∀cM tk,aN7→aW cM (aNR tk)),q5 (getAttr co (af.bH.dF j) f_):=by rw[mY E h aI U am H w k X bb,mY bl aN aC,mY q x fs co j y f_ aW,mY ef d b2 aJ t,m3 JN (avx aC ef d),mZ ef];rintro n Aa o ba e aV bj alP cO _ anN;rw[ot (bl.abp x j b2) ok cu];have ag8:=avw ok;rw[nt (nI alP.alx h j o o),mY J,nV,ng];rintro a _;rw[m9,mY J,vX,ng];rintro fD aFh ab a l;rw[m8];rw[a]at aJ;rw[Ğ aJ];rw[ab]at aJ;rw[mZ ab,nf aJ,qE,mY aJ,vQ];(obtain⟨cd,hcd⟩:∃cd,atK E.M aQk=c cd:=by induction cG:atK E.M aQk using ap.ae with|B=>rw[m2 ag8.hd,m5,o6 cG];injection aa|c cd=>exact qS cd);rw[m2 (by rw[m2 ag8.hd,m5,o6 hcd,Ą]),mY hd,mX get_value (aC.M bl aN) anN ag8.ga ?_ l.handed (nv t l)];unfold findObj;rw[hcd,ap.eO,cu,ap.eO];rw[ap.eO];unfold af.bl.ownOf;rw[c0 hd,m6 ((î (m7 alx))=_),a];rfl
def AaS:∀{E}{h}{f}{j}(bl:p9)(sa:qB),p8 (.be f j):=by rw[mY E h f j,mY bl sa,mY aI U am aL aE H mp d l w bJ y k X,aN5 AD VO];rintro acZ ahX _ e ag;rw[qu,aTt dW,mZ ag,aQQ (by rw[aQR]) p];rintro ct e9;rw[m3 AU e9,mY fD gy d,m2 tP,p1,mY t,so Cx gy,oA,mY q d aaj,mZ gy av e9,m3 Db (sr p n3 d),mZ d,mY hz];subst hz;rw[mX AR (Ge aaj) fun x fs he atd=>?_,mX Bc atd fun b2 aJ=>?_,m3 aL6 (yF f8),mW (qq L' bl aN bQ bW he b2 aJ fun cM tk ft=>sk t Q I bQ ft),m6 ((do let p←ni aGw;aEF _;let l←m7 aCQ;letTemporaryGo _ p l;km l)=_)];simp only[DL dW]at⊢
def R0{f g}{x}(b:sH ay6=c x):sH gM.bitAnd=x:=by revert b;(induction f using R.ae with|gq j=>(induction g using R.ae with|gq ab=>rw[nR,m3 Ak b,om,nR,pq];rfl|_=>rw[nR,mW Aq b])|_=>rw[nR,mW Aq b])
set_option tactic.hygienic true in
def R1{f g}{x}(b:sH ay7=c x):sH gM.bitOr=x:=by revert b;(induction f using R.ae with|gq j=>(induction g using R.ae with|gq ab=>rw[nR,m3 Ak b,om,mY b,pq];(have d:∀a:u,gM.ajk (R.gq a)=R.aeQ a:=rb (by unfold gM.ajk;rw[m6 (-ob a-1=R.aeQ a)];omega));(have bj:∀a:u,gM.ajk (R.aeQ a)=R.gq a:=rb (by unfold gM.ajk;rw[m6 (-(R.aeQ a)-1=ob a)];omega));rw[m6 (gM.ajk _=_)];simp only[d,d];rw[m6 (gM.ajk (gM.ajk _)=_)];simp only[bj,bj];rw[m6 (gM.ajk (gM.ajk (R.gq (j|||ab)))=_)];simp only[d,bj]|_=>rw[nR,mW Aq b])|_=>rw[nR,mW Aq b])
def K'{q}(b:g2 q=G):q.natAbs<1073741824:=by rw[Å g2,sB N.c3 kR,mW X3 b]
abbrev aqQ:adG→anT|.e_=>.asM|.eZ=>.axp|.alD=>.aF2|.abo=>.aFE|.kS=>.aF0|.acu=>.aFo|.afn=>.aFp
def Ml{p}{f'}(b:ams p f'=G):f'=aqQ p:=pX cD b (by rw[om,ĉ p adG.ae])
def RW:∀{E:iJ}{aI}{k}{X}{bb}{p}{q aq}{v aP}{y}{aW}(aJ:alo p q aq=c y)(aea:∀tk cM,aN7→aW cM (aNR tk)),q5 (ay4 (aqQ p) (u2 q) (.m aq aP)):=by injections E aI k X bb p q aq;intro v aP y aW aJ aea;induction p using adG.ae with|e_=>rw[p2 aJ,pi,mW ath (nv aea u0)]|eZ=>rw[p2 aJ,pi,mW sub_int' (nv aea u0)]|alD=>rw[mX Bc aJ fun hs d=>?_,qE,nf d,mZ d,mY d,oT];simp only[N.c3]at hs;exact lu.me.mul_int (nv aea u0) (rJ (nI aMn.of_le H 30 h 30 (aJC (K' hs.1)) (aJC (K' hs.2))))|abo=>rw[m3 Bc aJ,mY hs d,qE,nf d,mZ d,mY d,oT,ú hs,mW floordiv_int n_ (nv aea u0) (.bT (lu.aKt (K' (nW hs))))]|kS=>rw[m3 Bc aJ,mY hs d,qE,nf d,mZ d,mY d,oT,ú hs,mW mod_int' n_ (nv aea u0)]|acu=>rw[m3 AU aJ,qE];(rintro x hc e);exact and_int (nv aea ⟨k.ce,by rw[R0 hc]⟩)|afn=>rw[m3 AU aJ,qE];rintro x hc e;exact or_int (nv aea ⟨k.ce,by rw[R1 hc]⟩)
def RV:∀{E}{aI}{U}{am}{H}{w}{k}{X}{bb}(aC:q3){p}{j ab y}{aF iZ}{aW}(fc:aPE)(gK:aV2)(aJ:(nK (arR p=G) (amo w j ab))=c y)(t:∀cM h' tk,aVa→wl h' X→db h' X y cM→zu cM),q5 (ay4 (aqQ p) aF iZ):=by rw[mY E aI U am H w k X bb,mY aC,mY p j ab y aF iZ aW,mY fc gK aJ t,m3 Bc aJ,mZ aJ,mY ho aJ];(obtain e:p=.e_:=by rw[y8 p adG.ae (by rw[sQ ho])]);rw[pv Ay aJ i aB av,oi,nu,mY o aG av,mX Bc av fun eb d=>?_,mZ aJ av,nf d,oA,mY d,oT,m3 Dd (Dg aC fc aB),mZ fc,mZ ho];rintro a1;intro J;rcases J with(⟨eY,aol,fS,ed⟩);rintro xs j6 e ho hc hd _ bW;rw[m3 Dd (Dg aC gK aG),mZ gK];rintro a2;intro J;rcases J with(⟨aML,aMP,data2,aNv⟩);rintro k7 hM e aCP aeB aCr _ fh;simp only at hc hd aeB aCr;subst hc hd aeB aCr;rw[m2 (wy bW.z),mY aV,m2 (wy fh.z),mY bj,mX concat_meets (zn ho) (zn aCP) noFill_list_add seq_list_add af.aN.slot_list_add af.aN.entry_list_add (m7 af.aN.args_list_add_2) (m7 (qn list_addW) (tL aV bj (Cr eb))) (AE ho aCP ?_)];replace j:=aC.B0 (h':=k.aK.g' {eY:=p3 "list",fS:=.ia (xs++k7)}) Bv;refine n7 t j (aC.g0 Bv) (ni Cs e aC.Dy zx e e (o7 eb) ?_);simp only[fE.aLo];exact(bW.hq fh).bx j
def RX{E}{aI}{U}{am}{H}{w}{k}{X}{bb}(aC:q3){p}{j ab y}{aF iZ}{aW}(fc:aPE)(gK:aV2)(aJ:lY w p j ab=c y)(t:∀cM h' tk,aVa→wl h' X→db h' X y cM→zu cM):q5 (ay4 (aqQ p) aF iZ):=by rw[qO j m q (by rw[so Cl aJ];(rintro aq e aJ);rw[m3 Al fc,mZ fc,sK,m3 Al gK,mZ gK];(rw[oc aP]);exact RW aJ fun tk cM l=>t cM k.aK tk aC.fI aC l) (by exact RV aC fc gK aJ t)]
def AaT:∀{E}{h}{p}{f g}(sa:qB)(bh:pW g),p8 (.dM p f g):=by rw[mY E h p f g,mY sa bh,mY aI U am aL aE H mp d l w bJ y k X,xX,sv,aQ7 AA VP (by rintro i f' cy _ e ag),aQQ (by rw[pD (Ml rX)]) j,o3,oi,mY J,tQ ab,wP,pv AU av fD aJ d,nu,m2 tP,p1,mY t,mX wpAny_BinOp (ws sa aQa (fun aob Q t1 cX I bQ bW=>aTn (nW ag) azc)),mW (wf RX c7 xE fh aJ fun cM h3 j9 Z ic k4=>oJ aTe ic k4)]
def Aa9:∀{E}{h}{f}(sa:qB),p8 (.ju f):=by rw[mY E h f,mY sa,mY aI U am aL aE H mp d l w bJ y k X,aN5 AR N8,aQQ (by rintro acZ _ e ag) p];rintro ct e9;rw[nD (Cl e9) q d gy,m2 (ş t.to gy),mZ t,mY t,mZ gy,mZ av e9,m3 Db (sr p n' d),oA,mY hz];subst hz;rw[mX axs (ws sa ag (fun aob Q t1 cX I bQ bW=>?_)),o8 bW,mZ bW,oc v,mW neg_int (sk t Q I bQ u0)]
set_option tactic.hygienic true in
def Ft:∀{E}{aI}{U}{am}{H}{w}{k}{X}{bb}(aC:q3){y}{cM}{g}{aW}(l:aN7)(aJ:aTA w)(t:∀tk,aW g (aNR tk)),q5 (aE0 cM):=by injections E aI U am H w k X bb;intro aC;injections y cM g aW;intro l aJ t;have aea:aW g k:=t k.ce;(have ajR:∀{f:d8}{cR:k_}{xs:õ}{o:u}{i:nC},k.aK.bg f=c cR→cR.eY=p3 "list"→cR.fS=.ia xs o→tU→aQo i xs.e0→c aPX=c g→q5 (aE0 si):=by rw[mY f cR xs o i d hc hd aB cy dL,aTo aV cy.z,m1 (xs.dD=i.dD) (by unfold fE.dD;rw[aV,mZ aB cy dL aV];induction i using r.ae<;>(rw[ũ])),mY bj];unfold du at aB;rw[mX wpAny_truthy_list aRs (nb aV (aVA A4 [↑i.z] b5 1048576 e (Bb aB))) ?_,bj,mZ aJ aea,nf dL,aVD dL dL dL (t _)]);induction y using ar.ae with|B=>rw[tF,aTi (nJ=c g),nf aJ,mZ aJ,mY aJ,mZ t ajR,vQ,mW truthy_none aea]|aO x=>rw[tF,aTi (nJ=c g),nf aJ,mZ aJ,mY aJ,mZ t ajR,vQ,mW aLR aea]|m q=>rw[m3 Al l,n2,sK,aTi (nJ=c g),nf aJ,mZ aJ,mY aJ,mZ t ajR,vQ,mW lu.me.truthy_int aea]|bi j=>rw[aQJ]|ay i=>rw[Ù,mZ l];(rintro f cR xs o e _ d hc hd aB cy);rw[aTo aV cy.z,m1 (xs.dD=i.dD) (by unfold fE.dD;rw[aV,mZ aJ aB cy aV];induction i using r.ae<;>(rw[ũ])),mY bj];unfold du at aB;rw[mX truthy_tuple aRs (nb aV (aVA A4 [↑i.z] b5 1048576 e (Bb aB))) ?_,bj,aTi (nJ=c g),nf aJ,mZ aJ,mY aJ,mZ aea ajR,vQ,mW t _]|bm i=>rw[Ù,n2];(rintro f cR xs o e _ d hc hd aB cy);exact ajR d hc hd aB cy (m4 aJ)|D q=>rw[aTi ((aNX (c aPX))=c g)];generalize d:s_=aa8 at aJ;rw[tm aa8 (by rw[pd aJ]) aKA (by induction aKA using c_.ae with|aw i=>rw[m3 Ac l,n2,ù,nD (aC.hC.at d) cw dg ef,aN1,nf dg,mZ dg,mY dg,xg];(obtain⟨_,xs,aax,a5,aB,cy⟩:=ef);exact ajR a5 e e aB cy aJ|_=>rw[pd aJ])]
abbrev apT:af.bA→N|.ahj .axl _ _|.ag6 ..|.ame ..|.akp ..=>Y|_=>G
set_option tactic.hygienic true in
def ZQ{d}(b:apT d=G)(aL)(jE):als d aL jE=(do let y←jE;aEF d.bs;aCQ [y] (aE0 y)):=by(induction d using af.bA.ae<;>first|rfl|rw[aPP];done|skip);rename_i f' _ _;rw[y8 f' af.ahj.ae (by rw[xG])]
def Ab8{E}{h}{aeO}(l8:pW aeO)(ba:∀mp aE d,b_ E.K mp aE aeO d=G→apT d=G):p_ mh aeO:=fun{aI U am aL aE H mp d l w bJ y g k X aW bb}aN M bG aC cz av O t=>by rw[mX isTrue_plain (sN l8 bG cz av fun cM h' tk cv j j3 r'=>?_) (ZQ (n7 ba bG) _ _),mW (wm Ft h' tk j3 r' O fun ap8=>t h' _ _ j j3)]
def Abe:∀{E}{h}{f}(aed:qB),p8 (.ir f):=by rw[mY E h f,mY aed,mY aI U am aL aE H mp d l w bJ y k X,aN5 AR N9,aQQ (by rintro acZ _ e ag) j,o3,pv AU av g dL d,nu,m2 tP,p1,mY t,mX axs (ws aed ag (fun aob Q t1 cX I bQ bW=>not_of ?_)),mW (qq Ft bQ bW dL fun tk=>sk t Q I bQ e)]
def Ab6{E}{h}{f}(aed:p_ mh f):mh E h (.ir f):=fun{aI U am aL aE H mp d l w bJ y g k X aW bb}aN M bG aC cz av O t=>by rw[o_ AR N9,mZ bG];rintro acZ _ e ag;rw[aV9 j,o3,xx,mY bZ dL d,mZ av,uT d,mZ d,mY d L,oT,qD,aOl iH O];subst O;exact isTrue_not (sN aed ag cz ct dL (aWn aTI))
def Aa2:∀{E}{h}{x f g}(l9:p_ mh x)(sa:qB)(bh:pW g),p8 aOa:=by rw[mY E h x f g,mY l9 sa bh,mY aI U am aL aE H mp d l w bJ y k X,aN5 AA N7];rintro v j ab _ e ag;rw[qu,oi,mY J,pP cM,o3,pv Ay av bZ hc av,rs bZ (by rw[mX aFL (sN l9 rX cz ct hc fun Q t1 cX I bQ=>?_),mW (x3 sa aQa x1 av fun cM h2 d2 g5 L c7 fh=>aVi fh)]) (by rw[mX aFL (sN l9 rX cz ct hc fun Q t1 cX I bQ=>?_),mW (x3 bh (nW ag) x1 av fun cM h2 d2 g5 L c7 fh=>aVi fh)])]
def Ab5:∀{E}{h}{x f g}(l9:p_ mh x)(aed:p_ mh f)(aee:p_ mh g),mh E h aOa:=by rw[mY E h x f g,mY l9 aed aee,mY aI U am aL aE H mp d l w bJ y aic k,mY X aW bb,mY aN M bG aC cz av O t,o_ AA N7,mZ bG];rintro v j ab _ e ag;rw[qu,oi,mY J,pP cM,o3,pv Ay av bZ hc av,rs bZ (by rw[mX aJL (sN l9 rX cz ct hc fun Q t1 cX I bQ=>?_),mW (x3 aed aQa x1 av O fun h2 d2 g5 L c7=>t _ _ _ wu c7)]) (by rw[mX aJL (sN l9 rX cz ct hc fun Q t1 cX I bQ=>?_),mW (x3 aee (nW ag) x1 av O fun h2 d2 g5 L c7=>t _ _ _ wu c7)])]
abbrev ah7(E:iJ)(h:u)(p:N)(Aa:hG):Prop:=∀{aI:lT}{U:b8}{am:d8}{aL:af.dv}{aE:kq}{H:r8}{mp:wU}{i:r af.bA}{bs:ac2}{l:dv}{w bJ:ch}{y:ar}{k:en}{X:eW}{aW:ux}{bb:ux},pA→xN→aP6 jj Aa i→q3→aTa→aO0 (if p then xT ada Aa else xT afs Aa)→anW E U am H k X aW bJ y→q5 (adb (.ag6 (if p then .gL else .aQ) i bs) aL)
abbrev ah8(E:iJ)(h:u)(p:N)(Aa:hG):Prop:=∀{aI:lT}{U:b8}{am:d8}{aL:af.dv}{aE:kq}{H:r8}{mp:wU}{i:r af.bA}{bs:ac2}{jE:bv ck}{l:dv}{w bJ:ch}{y:ar}{g:N}{k:en}{X:eW}{aW:t7 N}{bb:ux},pA→xN→aP6 jj Aa i→q3→aTa→aO0 (if p then xT ada Aa else xT afs Aa)→aTA bJ→ami E U am H k X aW bJ g→q5 (als (.ag6 (if p then .gL else .aQ) i bs) aL jE)
def Re:∀{E}{h}{p},ŋ ah7 .C:=by rw[mY E h p aI U am aL aE H mp i bs l w,mY bJ y k X aW bb,sv,aOm p (Aq av)]
def Rf{E}{h}{p}:ŋ ah8 .C:=fun{aI U am aL aE H mp i bs jE l w bJ y g k X aW bb}aN M bG aC cz av O t=>by rw[aOm p (Aq av)]
def Dw{K}{mp}{aE}{i}(ag:jj K mp aE .C i=G):i=[]:=by rw[oS i (by rfl) _ _ (by rw[sQ ag])]
def Rc:∀{E}{h}{p}{d}{Aa}(l8:pW d)(it:ŋ ah7 Aa),ah7 E h p u6:=by rw[mY E h p d Aa,mY l8 it,mY aI U am aL aE H mp i bs l w bJ y k,mY X aW bb,sv,o_ BV CB,mZ bG];rintro j xs e hs dQ dW;rw[rs p (by simp only[fU]at av⊢;rw[oi,nu,mY J];(rw[pP aP]);(rw[o3]);(induction Aa using hG.ae with|C=>(rw[pD (Dw dW)]);rw[ŏ t.to,p1,mY t,mW aFq (sN l8 dQ cz ct t)]|s bj aud=>rw[m3 AR (CB dW)];rintro L awX e _;rw[mX aL8 (ws l8 dQ aSH),oi,nu,mY bZ aS av,rs bZ (by refine qq Ft bQ bW aS fun tk=>?_;dsimp only[fU];exact x3 (wm it Q tk) dW x1 (o7 av) fun cM h2 d2 g5 L c7 fh=>aVi fh) (by rw[mZ ct,ŏ t.to,p1,mY t,mX (qq Ft bQ bW aS ?_),mY tk];dsimp only[N.aev,abv];exact oJ I bQ bW)])) (by simp only[N.aev,abv]at av⊢;rw[oi,nu,mY J,pP aP,o3];induction Aa using hG.ae with|C=>(rw[pD (Dw dW)]);rw[ŏ t.to,p1,mY t,mW aFq (sN l8 dQ cz ct t)]|s bj aud=>rw[m3 AR (CB dW)];rintro L awX e _;rw[mX aL9 (ws l8 dQ aSH),oi,nu,mY bZ aS av,u9 bZ (by rw[mX (qq Ft bQ bW aS ?_),mY tk];dsimp only[N.aev,abv];exact x3 (wm it Q tk) dW x1 (o7 av) fun cM h2 d2 g5 L c7 fh=>aVi fh) (by rw[mZ ct,ŏ t.to,p1,mY t,mX (qq Ft bQ bW aS ?_),mY tk];dsimp only[fU];exact oJ I bQ bW)])]
def Rd:∀{E}{h}{p}{d}{Aa}(aeZ:aSK)(anu:ŋ ah8 Aa),ah8 E h p u6:=by injections E h p d Aa;rw[mY aeZ anu,mY aI U am aL aE H mp i bs,mY jE l w bJ y g k X aW bb aN M bG aC cz av O t,o_ BV CB,mZ bG];rintro j xs e hs dQ dW;rw[rs p (by dsimp only[fU,Us]at av⊢;rw[oi,nu,mY J];(rw[pP aP]);(rw[o3]);(induction Aa using hG.ae with|C=>(rw[pD (Dw dW)]);rw[nf av,nu,mY av,uT av,nu,mY av L];subst av;rw[qD,mX aDm (sN aeZ dQ cz ct O fun Q t1 cX I bQ=>?_),mZ O];(rw[rs g (by exact isTrue_and_nil aTI) (by exact aTI)])|s bj aud=>rw[m3 AR (CB dW)];rintro L awX e _;rw[oi,nu,mY bZ aS av,rs bZ (by refine aDm (sN aeZ dQ cz ct aS fun Q t1 cX I bQ=>?_);simp only[fU];exact x3 (qq anu) dW x1 (o7 av) O fun h2 d2 g5 L c7=>t _ _ _ wu c7) (by rw[p2 av,uT I,mZ I,mY I L,pi,qD];rw[aS]at O;rw[nf O,aVD O O O (aDm (sN aeZ dQ cz ct aS (aWn aTI)))])])) (by dsimp only[N.aev,abv,Uv]at av⊢;rw[oi,nu,mY J,pP aP,o3];induction Aa using hG.ae with|C=>(rw[pD (Dw dW)]);rw[nf av,nu,mY av,uT av,nu,mY av L];subst av;rw[qD,mX aDn (sN aeZ dQ cz ct O fun Q t1 cX I bQ=>?_),mZ O];(rw[rs g (by exact aTI) (by exact isTrue_or_nil aTI)])|s bj aud=>rw[m3 AR (CB dW)];rintro L awX e _;rw[oi,nu,mY bZ aS av,u9 bZ (by refine aDn (sN aeZ dQ cz ct aS fun Q t1 cX I bQ=>?_);simp only[N.aev,abv];exact x3 (qq anu) dW x1 (o7 av) O fun h2 d2 g5 L c7=>t _ _ _ wu c7) (by rw[p2 av,uT I,mZ I,mY I L,pi,qD];rw[aS]at O;rw[nf O,aVD O O O (aDn (sN aeZ dQ cz ct aS (aWn aTI)))])])]
def AaP{E}{h}{Aa}(it:ah7 E h G Aa):p8 (.eB Aa):=fun{aI U am aL aE H mp d l w bJ y k X aW bb}aN M bG aC cz av t=>by rw[o_ AR N5,mZ bG];rintro i _ e ag;exact sN it ag cz av t
def Abf{E}{h}{Aa}(it:ah7 E h Y Aa):p8 (.or Aa):=fun{aI U am aL aE H mp d l w bJ y k X aW bb}aN M bG aC cz av t=>by rw[o_ AR N_,mZ bG];rintro i _ e ag;exact sN it ag cz av t
def Ab3{E}{h}{Aa}(it:ah8 E h G Aa):mh E h (.eB Aa):=fun{aI U am aL aE H mp d l w bJ y g k X aW bb}aN M bG aC cz av O t=>by rw[o_ AR N5,mZ bG];rintro i _ e ag;exact sN it ag cz av O t
def Ab7:∀{E}{h}{Aa}(it:ah8 E h Y Aa),mh E h (.or Aa):=by rw[mY E h Aa,mY it,mY aI U am aL aE H mp d l w bJ y g k,mY X aW bb,mY aN M bG aC cz av O t,o_ AR N_,mZ bG];rintro i _ e ag;exact sN it ag cz av O t
abbrev azh:ai5→aqn|.eq=>.ack|.ne=>.aF4|.lt=>.aFW|.le=>.aFX|.gt=>.aFI|.ge=>.aFJ|.gH=>.abJ|.lM=>.anS|.agL=>.aFN|.app=>.axh
def MN{p}{f'}(b:atM p f'=G):f'=azh p:=pX cD b (by rw[om,ĉ p ai5.ae])
def gV.iG{E}{h}{aI}{U}{am}(aN:pA):aI.ib+100<mj:=q7 aN.ib (oa Ag [aI.ib,h,mj] (S+100) a8 (S+(tB ai)+400) a8 e aa)
abbrev aql(aI:lT)(k:en)(j ab:ck)(g:N):Prop:=kr.ah6 aI k j ab g∧kr.aje aI k j ab (! g)
def Nn{j ab}(J:j.i6 ja=G)(b0:ab.i6 ja=G):jz.ahp (ko j) (ko ab)=b1 (j=ab):=by have:=JL ja ja J b0;rw[nH t j ab,hZ t,mW aa.gS t,jq t,mW N.amB.gS fun a=>t (aa.mp a)]
def ON{E}{h}{aI}{U}{am}(aN:pA)(f g)(b:ud f∨ud g):aI.ib+1+sH ab7<mj:=by rw[m2 (sH u.alA),m5,m2 (sH u.apB),m5,m2 aN.iG,m5,mW Yw (b.az (u.eI (u.alA ..)) (u.eI (u.apB ..))) aa]
def eq_data:∀{E}{h}{aI}{U}{am}{k}{X}(aN:pA){j ab}{aF iZ}{g}(fc:aPE)(gK:aV2)(J:j.i6 ja=G)(b0:ab.i6 ja=G)(U:b1 (j=ab)=g),aql aI k aF iZ g:=by rw[mY E h aI U am k X,mY aN,mY j ab aF iZ g,mY fc gK J b0 U,n4 (GL ja fc J) as gr,n4 (GL ja gK b0) bq jk];have alu:=D6 ja J;have ar0:=D6 ja b0;rw[m2 ((Nn J b0).ah U),mY d];have am0:aI.ib+ab7 (ko j).i1 (ko ab).i1<mj:=u.hO (u.adL (u.avD _) _) (ON aN (ko j).i1 (ko ab).i1 (pp alu.2));rw[mZ U,oT,mW ⟨fun b' V bb aW b=>kr.compareEq_reads gr jk alu.1 ar0.1 am0 b,fun b' V bb aW b=>kr.compareNe_reads gr jk alu.1 ar0.1 am0 b⟩]
def Nk{aI}{k}{X}(cK:aI.ib<mj){f dE}{xs}{i}(J:k.aK.ajc f xs)(l:aQo i xs.e0)(b0:k.aK.ajc dE #[]):aql aI k si (nP dE) i.dD:=by rw[m2 (wy l.z),mY aV,n2,oS i (by have he:∀aq(Q:aq<xs.c5)(h2:aq<aVP õ),kr.aFD aI.in1 k xs[aq] (#[]:õ)[aq] G:=fun aq P h2=>ej h2 (u.aDW aq);(have bz:(r.adw xs.c5).de (nO G)=G:=sh aV);rw[m2 (kr.ah6.ajR (d:=nO G) J b0 aV cK he),mY dN,m2 (kr.aje.ajR (d:=nO G) J b0 aV cK he),mY dG];rw[bz]at dN dG;exact⟨dN,dG⟩) aP i (by(have a:(xs.c5 !=aVP õ)=G:=sh aV);exact⟨kr.ah6.aJ8 J b0 a cK,kr.aje.aJ8 J b0 a cK⟩)]
def IY{X}{b}{xs}(l:d4 b X [] xs.e0):xs=#[]:=q7 l.z (fE.aHd (by rw[Ą]))
def Ur{aI}{k}{X}(cK:aI.ib<mj){f dE}{xs}{i}(J:k.aK.asZ f xs)(l:aQo i xs.e0)(b0:k.aK.asZ dE #[]):aql aI k si (nP dE) i.dD:=by rw[m2 (wy l.z),mY aV];have he:∀aq(Q:aq<xs.c5)(h2:aq<aVP õ),kr.aFD aI.in1 k xs[aq] (#[]:õ)[aq] G:=fun aq P h2=>ej h2 (u.aDW aq);(have a:((r.adw (ab7 xs.c5 (aVP õ))).de (nO G)&&xs.c5==aVP õ)=i.dD:=by rw[aV,Ŧ (aVP (fE _)=0),u.min_zero,mZ l aV];induction i using r.ae<;>rfl);rw[m2 (kr.ah6.tuples (d:=nO G) J b0 cK he),mY dN,m2 (kr.aje.tuples (d:=nO G) J b0 cK he),mY dG];rw[a]at dN dG;exact⟨dN,dG⟩
def AbX(n t):(af.bH.dF n==af.bH.dF t)=(n==t):=by rw[nH a n t,uf];simp only[aaU,aaU];rw[ajj.gS fun z'=>a (Gx z'),ajj.gS a]
def Uq:∀{E}{h}{aI}{U}{am}{H}{w}{k}{X}(bl:p9)(aN:pA)(aC:q3){q aq}{aF iZ}(fc:ô n3 aF)(gK:ô (.D aq) iZ)(Ab:pO w nS)(cQ:nX w aq nS),kr.ah6 aI k aF iZ G:=by injections E h aI U am H w k X;intro bl aN aC;injections q aq aF iZ;rw[mY fc gK Ab cQ,m2 (u.hO (u.acK ..) aN.iG),mY cK,p4 fc,mZ fc,ù,aS6 ef];cases ba.cq.ah dg;rw[p4 gK,mZ gK];rintro t cG e;rw[nD (aC.hC.at cQ) er amZ aLb];cases cG.cq.ah amZ;obtain⟨_,_,xs,⟨p,Aa,ep,ho,Q,h2,h3,h4,h5⟩,aj⟩:=ef;obtain⟨_,_,k7,⟨o',afr,aMU,au5,A1,BR,Cp,CW,Dt⟩,aan⟩:=aLb;clear h4 h5;subst aj;clear CW Dt;subst aan;have az3:∀{Aa:fE ag7},Aa.e0=([]:r (ar×d8×ck)).au (entryOfKey (ac6 E.b' E.V))→Aa=#[]:=rb (fE.ext' a);rw[pD (az3 h3),pD (az3 Cp),m1 (∀b' V,k.aK.akr aVB _ _) (fun b' V=>(Cn p _ _ ho Q h2 (tZ (nomatch he)) (.C) r.ahO)),mY aFA,m1 (∀b' V,k.aK.akr aVB _ _) (fun b' V=>(n7 Cn au5 A1 BR (tZ (nomatch he)) (.C) r.ahO)),mY aFB,mW fun b' V bb aW b=>nI keq_eq knd (mu _ V) l G (aC.Ff bl aN aTl) (aC.Ff bl aN (Cb cG).1) (aFA _ V) (aFB _ V) cK (nO .C) b]
def Kz{X}{j}{aF}{b}(l:db b X (oh j) aF):∃f xs,aF=si∧b.ajc f xs∧d4 b X j xs.e0:=by rw[Ù,n2];rintro f cR xs o e _ d hc hd _ l;exact(Au f _ e aRs l)
def Qj:∀{X}{j}{aF}{b}(l:db b X (nE j) aF),∃f xs,aF=si∧b.asZ f xs∧d4 b X j xs.e0:=by rw[mY X j aF b,mY l,Ù,n2];rintro f cR xs o e _ d hc hd _ l;exact(Au f _ e aRs l)
def Nm:∀{E}{h}{aI}{U}{am}{H}{w}{k}{X}(bl:p9)(aN:pA)(aC:q3){j ab}{aF iZ}{g}(fc:aPE)(gK:aV2)(aJ:kz w j ab=c g),kr.ah6 aI k aF iZ g∧((∃q aq,j=n3∧ab=.D aq)∨kr.aje aI k aF iZ (! g)):=by injections E h aI U am H w k X;intro bl aN aC;injections j ab aF iZ g;intro fc gK aJ;have cK:aI.ib<mj:=u.hO (u.acK ..) aN.iG;rw[m1 (aql aI k aF _ g→kr.ah6 aI k _ _ g∧((∃q aq,j=n3∧ab=.D aq)∨kr.aje aI k _ iZ _)) (ue ⟨ox,.bF oI⟩),mY aid];induction j using ar.ae with|B=>rw[sQ aJ]|aO n=>(rw[qO ab aO t (by subst fc;subst gK;rw[p2 aJ,pi,mW (rW aid (m7 kr.ah6.aGC) (m7 kr.aje.aGC))]) (by rw[sQ aJ])])|m q=>rw[so Cl aJ];(rintro aq e aJ);rw[o8 fc,mZ fc,sK,o8 gK,mZ gK];(rw[oc aP]);rw[nf aJ,qE,mY aJ,vQ,mW (rW aid (ni kr.ah6.int_int) (ni kr.aje.int_int))]|bi n=>(rw[qO ab bi t (by rw[o8 fc,mZ fc,sK,o8 gK,mZ gK];(rw[oc aP]);rw[p2 aJ,pi,m2 (nI kr.ah6.aEL aI aI k k (af.bH.dF n) v (af.bH.dF t) aP),mY dN,m2 (nI kr.aje.aEL aI aI k k (af.bH.dF n) v (af.bH.dF t) aP),mY dG];rw[AbX]at dN dG;exact rW aid dN dG) (by rw[sQ aJ])])|ay i=>rw[so IS aJ];(rintro H e aJ);(rw[oS H (by(rw[pD (qJ ap.c.dB (c i.dD=c g) aJ)]);rw[ze Qj fc,mZ fc];(rintro f xs e J l);rw[ze Qj gK,mZ gK];(rintro dE k7 e b0 r');(rw[pD (IY r')]);exact aid (Ur cK J l b0)) aP H (by rw[ot (qJ Ct ((nK ((ar.ay i).i6 ja&&(ar.ay (aP::H)).i6 ja) (c (b1 (i=aP::H))))=c g) aJ) hd aJ];have hd:=(N.c3 ..).mp hd;exact aid (eq_data aN fc gK hd.1 hd.2 (ş (pX aon.gS ⟨ar.ay.dB,cr _⟩) aJ)))])|bm i=>rw[so IQ aJ];(rintro H e aJ);(rw[oS H (by(rw[pD (qJ ap.c.dB (c i.dD=c g) aJ)]);rw[ze Kz fc,mZ fc];(rintro f xs e J l);rw[ze Kz gK,mZ gK];(rintro dE k7 e b0 r');(rw[pD (IY r')]);exact aid (Nk cK J l b0)) aP H (by exact qJ Aq (B=c g) aJ)])|D q=>induction ab using ar.ae with|bm H=>(rw[oS H (by rw[nD (qJ Gf ((kC w q (te (c i.dD)))=c g) aJ) i Ab aJ,nf aJ,qE,mY aJ,vQ,p4 fc,mZ fc];(rw[ù]);rw[aS6 ef];cases ba.cq.ah dg;(obtain⟨_,xs,o,d,_,l⟩:=ef);rw[ze Kz gK,mZ gK];(rintro dE k7 e b0 r');(rw[pD (IY r')]);exact aid (Nk cK (AP _ d e (qS o)) l b0)) aP H (by exact qJ Aq (B=c g) aJ)])|D aq=>rw[nD (qJ J4 ((aar w q (te (aar w aq fun H=>nK (i.dD&&H.dD) (c G))))=c g) aJ) i Ab aJ,nD (J4 aJ) H cQ aJ,mX Bc aJ fun he aJ=>?_,mZ aid,nf aJ,qE,mY aJ,vQ,mZ aJ,qE];have he:=(N.c3 ..).mp he;(rw[pD (r.alq.mp he.1)]);rw[qE];(rw[pD (r.alq.mp he.2)]);exact⟨Uq bl aN aC fc gK Ab cQ,.bT (nM AI e e)⟩|_=>rw[sQ aJ]
def LW{j}(J:j.i6 ja=G):∀{i},ar.kP ja i=G→((abc i).dS fun ab=>jz.ahp ab (ko j))=b1 (j∈i)|[],_=>e|ab::i,aB=>by rw[aUe aB aB,m6 ((m7 jz.ahp||(abc i).dS fun ab=>jz.ahp ab _)=_),LW J aB.2,Nn aB.1 J,←N.decide_or,mW (rW aon.gS (oE (b.az (ol (d▸r.kk)) (r.lH _))) (oE ((r.gA.mp b).ajL ack.cq id)))]
def NY{E}{h}{aI}{U}{am}(aN:pA){j}{i}(J:j.i6 ja=G)(aB:ar.kP ja i=G):jz.azb (abc i)=G∧(ko j).aqV=G∧aI.ib+1+ab7 (jz.azV (abc i)) (ko j).i1<mj∧((abc i).dS fun ab=>jz.ahp ab (ko j))=b1 (j∈i):=(By ((H4 ja aB).1) ((D6 ja J).1) (ON aN _ _ (.bF (D6 ja J).2)) (LW J aB))
abbrev adI(E:iJ)(aI:lT)(k:en)(bb:ux)(f':aqn)(aF ig:ck)(g:N):Prop:=∀{aW:ux},(∀tk,aW qA (aNR tk))→q5 (aGP f' aF ig)
def Vq{E}{h}{aI}{U}{am}{w}{k}{X}{bb}(aN:pA){j}{i}{aF ig}{g}(fc:aPE)(aa9:ô o9 ig)(aJ:jT w j o9=c g):zV .abJ aF ig g∧zV .anS aF ig (! g):=by rw[wH (qJ Ct ((nK (j.i6 _&&ar.kP _ i&&tU) nJ)=c g) aJ),qE,mY hd aJ,nf aJ,qE,mY aJ,vQ,aUe hd ((N.c3 ..).mp hd).1,n4 (GL ja fc hd.1) as gr,m3 Bt aa9,mZ aa9];rintro f cR xs o e _ d hc ahw _ l;rw[n4 (GK ja l hd.2) bq jk,yr (NY aN hd.1 hd.2) i0 aao akM aof,mW ⟨aN2 (kr.in_tuple_reads (.anw d hc ahw jk) gr i0 aao akM (nb aof (t _))),aN2 (kr.notIn_tuple_reads (.anw d hc ahw jk) gr i0 aao akM (nb aof (t _)))⟩]
def Vo:∀{E}{h}{aI}{U}{am}{w}{k}{X}{bb}(aN:pA){j}{i}{aF ig}{g}(fc:aPE)(aa9:ô q1 ig)(aJ:jT w j q1=c g),zV .abJ aF ig g∧zV .anS aF ig (! g):=by injections E h aI U am w k X bb;intro aN;injections j i aF ig g;rw[mY fc aa9 aJ,wH (qJ Ct ((nK (j.i6 _&&ar.kP _ i&&tU) nJ)=c g) aJ),mZ aJ,mY hd aJ,nf aJ,qE,mY aJ,vQ,aUe hd ((N.c3 ..).mp hd).1,n4 (GL ja fc hd.1) as gr,m3 Bt aa9,mZ aa9];rintro f cR xs o e _ d hc ahw _ l;rw[n4 (GK ja l hd.2) bq jk,yr (NY aN hd.1 hd.2) i0 aao akM aof,mW ⟨aN2 (kr.in_list_reads (.aw d hc ahw jk) gr i0 aao akM (nb aof (t _))),aN2 (kr.notIn_list_reads (.aw d hc ahw jk) gr i0 aao akM (nb aof (t _)))⟩]
def in_dict:∀{E}{h}{aI}{U}{am}{H}{w}{k}{X}{bb}(bl:p9)(aN:pA)(aC:q3){j}{q}{aF ig}{g}{i}(fc:aPE)(aa9:ô n3 ig)(Ab:aUM)(aJ:(nK (l4 j&&j.im jA) (c (kx j i).eF))=c g),zV .abJ aF ig g:=by injections E h aI U am H w k X bb;intro bl aN aC;injections j q aF ig g i;intro fc aa9 Ab aJ;obtain⟨aG,aJ⟩:=Ct aJ;rw[nf aJ,qE,mY aJ,vQ,qE,aUe aG aG,aP1 n ba aa9];obtain⟨cw,dg,ef⟩:=aC.hC.at Ab;cases ba.cq.ah dg;obtain⟨_,_,xs,hD,aj⟩:=ef;have e6:=fc.dx jA aG.2;rw[mZ fc,qO j ay agO (by(obtain⟨aiF,_,_,_,e,_⟩:=id e6);rw[mX (aN2 (wpAny_in_heap (knd:=aVW ac6) aN.apZ (AE Ť aG.2 e6) (aC.Ff bl aN aTl) hD ?_)),nt (aj.ahK aSj),mY J,nV,ng];(rintro ab a);rw[tp (by rw[ri B8])];(rintro fD dE g4 ab a _);rw[m8];rw[ab]at t;rw[a,mW t _];rw[ab]at t;rw[a,mW t _]) (by cases Ť)]
def Vm:∀{E}{h}{aI}{U}{am}{H}{w}{k}{X}{bb}(bl:p9)(aN:pA)(aC:q3){o}{q}{aF ig}{i}(fc:ô qw aF)(aa9:ô n3 ig)(Ab:ã),zV .abJ aF ig (aUR i)∧zV .anS aF ig (! aUR i):=by injections E h aI U am H w k X bb;intro bl aN aC;injections o q aF ig i;rw[mY fc aa9 Ab,p4 aa9,mZ aa9,ù,aS6 ef];cases ba.cq.ah dg;obtain⟨_,_,e1,hD,aj⟩:=ef;rw[o8 fc,mZ fc,oc v];have ns:=aC.Ff bl aN aTl;have aG:(mu E.b' E.V).is o (u2 o)=G:=hZ (e:o=o);rw[vi (aN2 (wpAny_in_of aG ns hD.and ?_)) (aN2 (wpAny_notIn_of aG ns hD.and ?_)),nt (aj.ahK o),mY J,nV,ng];rintro ab a;rw[m9,mY J,vX,ng];rintro fD g4 ab a _;rw[m8];rw[ab]at t;rw[a,mW t _];rw[ab]at t;rw[a,mW t _,nt (aj.ahK o),aO2 ab a,tp (by rw[vX])];rintro fD g4 ab a _;rw[m8];rw[ab]at t;rw[a,mW t _];rw[ab]at t;rw[a,mW t _]
def Vi:∀{w}{j}{q}{g}(aJ:jT w j n3=c g),(∃i,aUM∧(nK (l4 j&&j.im jA) (c (kx j i).eF))=c g)∨∃i o,ã∧j=qw∧aUR i=g:=by injections w j q g;rw[mY aJ,aTi ((match(generalizing:=false)s_ with|c x7=>(nK (l4 j&&j.im jA) (c (kx j i).eF))|c uH=>(match(generalizing:=false)j with|n'=>c (lB q i).eF|_=>B)|_=>B)=c g)];induction d:s_ using ap.ae with|B=>rw[d]at aJ;rw[pd aJ]|c p=>rw[d]at aJ;rw[oA];induction p using c_.ae with|bE i=>exact .bT (Ad i e aJ)|bM i=>(rw[qO j m o (by exact rt (ş (Au i o e e) aJ)) (by rw[pd aJ])])|_=>rw[pd aJ]
def NZ:∀{E}{h}{aI}{U}{am}{H}{w}{k}{X}{bb}(bl:p9)(aN:pA)(aC:q3){j x}{aF ig}{g}(fc:aPE)(aa9:Ŝ x ig)(aJ:jT w j x=c g),zV .abJ aF ig g∧((∀q,x=n3→∃i,ã)→zV .anS aF ig (! g)):=by injections E h aI U am H w k X bb;intro bl aN aC;injections j x aF ig g;intro fc aa9 aJ;induction x using ar.ae with|ay i=>exact(Vq aN fc aa9 aJ).ajL id fun b P=>b|bm i=>exact(Vo aN fc aa9 aJ).ajL id fun b P=>b|D q=>rw[nt (Vi aJ),mY J,sE,ng];(rintro i Ab b);rw[m9,mY J,vX,ng];(rintro i o Ab e e);rw[m8,vi (in_dict bl aN aC fc aa9 Ab b) (fun a=>?_),m3 Al (a _ e)];(rintro l' z');cases Ab.cq.ah z';exact(Vm bl aN aC fc aa9 Ab).ajL id fun b P=>b|_=>rw[sQ aJ]
def Oc{k:en}{X}{y}{cM}(l:aN7):(cM==ck.B)=b1 (y=.B):=by induction y using ar.ae with|B=>rw[tF];rfl|aO g=>rw[tF];rfl|m q=>rw[m3 Al l,n2,sK];rfl|bi k=>rw[m3 Al l,n2,sK];rfl|ay i=>rw[m3 AA l,n2,aUl f];rfl|bm i=>rw[m3 AA l,n2,aUl f];rfl|D q=>rw[m3 Ac l,n2];rintro n _ e;rfl
def Wn{aI}{k}{bb}{ag}{y}{aW}(b:aW (n5 (!(y==.B))) k):v3 (aGP .axh y .B):=by rw[m6 (v3 (do return ck.aO (!(←isSame y _))))];rw[isSame_none]at⊢;exact dH (pQ fX fX)
def HU:∀{E}{aI}{k}{X}{bb}{ac:wG R R}{j ab y}{aF iZ}{f'}(fc:aPE)(gK:aV2)(aJ:(match(generalizing:=false)j,ab with|Ŭ,.m ab=>c (ar.aO (ac j ab))|_,_=>B)=c y)(o:∀f v g aP,zV f' (u2 f) (.m g aP) (sH ac)),∃g,y=qA∧zV f' aF iZ g:=by rw[mY E aI k X bb ac j ab y aF iZ,mY f' fc gK aJ o,qO j m f (by(rw[qO ab m g (by rw[nf aJ,qE,mY aJ,vQ];(obtain⟨v,e⟩:=fc);(obtain⟨aP,e⟩:=gK);exact(Ad _ e (o f v g aP))) (by rw[pd aJ])])) (by rw[pd aJ])]
def O1:∀{E}{aI}{k}{X}{bb}{ac:N→N}{j ab y:ar}{aF iZ}{f'}(gK:aV2)(aJ:(match(generalizing:=false)ab with|.B=>c (ar.aO (ac (b1 (j=.B))))|_=>B)=c y)(o:zV f' aF .B (ac (b1 (j=.B)))),∃g,y=qA∧zV f' aF iZ g:=by rw[mY E aI k X bb ac j ab y aF iZ,mY f' gK aJ o];induction ab using ar.ae with|B=>rw[nf aJ,qE,mY aJ,vQ];subst gK;exact(ql e o)|_=>rw[pd aJ]
def Xz:∀{w}{j ab y}(aJ:f1 w .ne j ab=c y),∃g,kz w j ab=c g∧y=n5 (! g)∧¬∃q aq,j=n3∧ab=.D aq:=by injections w j ab y;intro aJ;by_cases b:∃q aq,j=n3∧ab=.D aq;rw[m3 AR b,om];rintro q aq e e;cases aJ;rw[m1 (f1 w .ne j ab=ow (kz w j ab) j (n5 (! j))) (by rw[qE,qO j D q (by(rw[qO ab D aq (by exact ej (AI q aq e e) b) (by rfl)])) (by rfl)]),mY d,m3 AU (d▸aJ),qE];rintro g dL e;exact(AP g dL e b)
def XP:∀{w}{j ab y}(aJ:f1 w .lM j ab=c y),∃g,jT w j ab=c g∧y=n5 (! g)∧∀q,ab=n3→∃i,ã:=by injections w j ab y;intro aJ;by_cases b:∃q,ab=n3;rw[o8 b,mZ b,oc q,aTi ((match(generalizing:=false)s_ with|c r1=>ow (jT w j n3) j (ar.aO (! j))|_=>B)=c y)];(induction d:s_ using ap.ae with|B=>rw[d]at aJ;rw[pd aJ]|c p=>rw[d]at aJ;induction p using c_.ae with|bM i=>rw[m3 AU aJ,qE];(rintro g dL e);exact(AP g dL e (fun aq cQ=>by rw[p2 cQ,pi,mW ⟨i,d⟩]))|_=>rw[pd aJ]);rw[m1 (f1 w .lM j ab=ow (jT w j ab) j (n5 (! j))) (by rw[qE,qO ab D q (by exact ej (qS q) b) (by rfl)]),mY d,m3 AU (d▸aJ),qE];rintro g dL e;exact(AP g dL e (fun aq cQ=>ej ⟨aq,cQ⟩ b))
def ML:∀{E}{h}{aI}{U}{am}{H}{w}{k}{X}{bb}(bl:p9)(aN:pA)(aC:q3){p}{j ab y}{aF iZ}(fc:aPE)(gK:aV2)(aJ:f1 w p j ab=c y),∃g,y=qA∧zV (azh p) aF iZ g:=by rw[mY E h aI U am H w k X bb,mY bl aN aC,mY p j ab y aF iZ,mY fc gK aJ];induction p using ai5.ae with|eq=>rw[m3 AU aJ,qE];(rintro g dL e);exact(Ad g e (aN2 (ni (Nm bl aN aC fc gK dL).1 (t _))))|ne=>rw[m3 AF (Xz aJ),qE];(rintro g dL e ajF);exact(Nm bl aN aC fc gK dL).2.az (oE (ej b ajF)) (w5 (Ad _ e (aN2 (ni n (t _)))))|lt=>exact HU fc gK aJ fun P P P P{aW}t=>lu.me.lt_int (t _)|le=>exact HU fc gK aJ fun P P P P{aW}t=>lu.me.le_int (t _)|gt=>exact HU fc gK aJ fun P P P P{aW}t=>lu.me.gt_int (t _)|ge=>exact HU fc gK aJ fun P P P P{aW}t=>lu.me.ge_int (t _)|gH=>rw[m3 AU aJ,qE];(rintro g dL e);exact(Ad g e ((NZ bl aN aC fc gK dL).1))|lM=>rw[m3 AF (XP aJ),qE];(rintro g dL e hd);exact(Ad _ e ((NZ bl aN aC fc gK dL).2 hd))|agL=>exact O1 (ac:=id) gK aJ (aN2 (af.is_none (nb (Oc fc) (t _))))|app=>exact O1 (ac:=ir) gK aJ (aN2 (Wn (nb (Oc fc) (t _))))
def AaW:∀{E}{h}(bl:p9){p}{f g}(sa:qB)(bh:pW g),p8 (.aX p f g):=by rw[mY E h,mY bl,mY p f g,mY sa bh,mY aI U am aL aE H mp d l w bJ y k X,xX,sv,aQ7 AA N6 (by rintro i f' cy _ e ag),mX Bq ag fun dQ dW f8 iw=>?_,mZ ag,pD (MN dQ),oi,nu,mY J,pP j,o3,oi,nu,mY J,tQ ab,wP,xx,nu,mY fD aJ av,m2 (t.to av),p1,mY t,mX wpAny_Compare1 (ws sa f8 (fun aob Q t1 cX I bQ bW=>aTn iw azc)) (o7 dW),m3 Ac (nI ML k aV0 bb bb bl aN c7 xE fh aJ),mZ aJ av];rintro g e K;exact K fun tk=>sk t h2 wu c7 e
def Ab4:∀{E}{h}(bl:p9){p}{f g}(sa:qB)(bh:pW g),mh E h (.aX p f g):=by rw[ē E,mY bl];injections p f g;intro sa bh;injections aI U am aL aE H mp d l w bJ y aic k;rw[mY X aW bb,mY aN M bG aC cz av O t,o_ AA N6,mZ bG];rintro i f' cy _ e ag;rw[qu,mX Bq ag fun dQ dW f8 iw=>?_,oK,pD (MN dQ),oi,mY J,pP j,o3,oi,mY J,tQ ab,wP,pv AU av fD aJ av,uT av,nu,mY av L];subst av;rw[qD,mX wpAny_isTrue_Compare1 (ws sa f8 (fun aob Q t1 cX I bQ bW=>aTn iw azc)) (o7 dW),m3 Ac (nI ML k aV0 bb bb bl aN c7 xE fh aJ),mZ aJ av,mZ av,nu];rintro g e K;rw[pD (qJ ap.c.dB (c g=c aic) O),mW K fun tk=>aLR (t h2 _ _ wu c7)]
def EF:∀{E}{h}{aI}{U}{am}{aL}{aE}{H}{w}{k}{X}{bb}(bl:p9)(aN:pA)(M:xN)(aC:q3){fn j}{xs}{cE}{bs}{aW}(cu:cE∈["len","any","all","sorted","min","isinstance"])(ag:aRj cE=G)(J:iS j=G)(ba:(act bs (aec xs aL)).dS (·.1)=Y)(b:d3 wo aI (aws (act bs (aec qi aL))) (fun vs ap6=>d3 wo aI (bp (.acy cE) vs) aW bb ap6) bb k),q5 (adb (.jG fn qi [] bs) aL):=by rw[mY E h aI U am aL aE H w k X bb,mY bl aN M aC,mY fn j xs cE bs aW,mY cu ag J ba b,pw AF Df,mZ ag];rintro n e aG hd;rw[ot (bl.ay3 cE cu) Q h2,mX lu.me.aqm (HM M aG hd (aQ0 bl.adB.K.g0) Q (aQ0 bl.adB.g.g0) h2 ?_),mW lu.me.callWith_builtin1 b (BT J) ba]
def Dn{aI}{aL}{k}{bb}{j}{bs}{aW}{ag}(J:iS j=G)(b:d3 ag aI (adb j aL) (fun y ap6=>aW [y] ap6) bb k):v3 (aws (act bs (aec [j] aL))):=awt (aqe b (wc a (aED a)) (wc a a)) (BT J)
def IW{aI}{aL}{k}{bb}{j ab}{bs}{aW}{ag}(J:iS j=G)(b0:iS ab=G)(b:d3 ag aI (adb j aL) (fun y ap6=>d3 ag aI (adb ab aL) (fun aP ap7=>aW [y,aP] ap7) bb ap6) bb k):v3 (aws (act bs (aec aVV aL))):=awt (aqe b (wc a (awt (aqe a (wc a (aED a)) (wc a a)) (BT b0))) (wc a a)) (BT J)
def av1{aL}{ab}{bs}(b0:iS ab=G):(act bs (aec [ab] aL)).dS (·.1)=Y:=aUx BT b0
def PS:∀{E}{U}{am}{H}{w}{k:en}{X}(aC:q3){p}{co}{i}(ef:Ŝ p co)(b:lN w p=c i),∃f cR xs o,co=si∧k.aK.bg f=c cR∧(cR.eY=p3 "list"∨cR.eY=p3 "tuple")∧cR.fS=.ia xs o∧tU∧aQo i xs.e0:=by rw[mY E U am H w k X,mY aC,mY p co i,mY ef b];induction p using ar.ae with|ay l'=>rw[sB lN ap.c.fV,pq,m3 Bt ef,mZ ef];(rintro f cR xs o e _ d hc hd aB t);exact(JH f _ _ o e d (.bF hc) hd aB t)|bm l'=>rw[mX ES (Dg (p:=oh l') aC ef b) fun f cR xs o Q h2 h3 h4=>?_,mW EO f _ _ o Q h2 (pp h3) h4]|D q=>rw[mX ES (Dg (p:=n3) aC ef b) fun f cR xs o Q h2 h3 h4=>?_,mW EO f _ _ o Q h2 (pp h3) h4]|_=>rw[tb]
set_option tactic.hygienic true in
def I8{b}{X}:∀{i}{vs}{bq},yB→acx i=c bq→axj.aMa vs bq|[],_,_,l,d=>by rw[tF,p2 d,pi,mW .C]|qA::xs,_,_,l,d=>by rw[tR,n2];(rintro y cy e aJ br);rw[vQ];simp only[Md,Me,Mf,Mg,Mh,Mi,Mj,Mk]at d;split at d;rename_i g7 a5;rw[nf d,mZ d,mY d,oT,mW .s g (I8 br a5),pd d]|.B::_,_,_,_,d=>m4 (Aq d)|xl::_,_,_,_,d=>m4 (Aq d)|uW::_,_,_,_,d=>m4 (Aq d)|nE _::_,_,_,_,d=>m4 (Aq d)|oh _::_,_,_,_,d=>m4 (Aq d)|vT::_,_,_,_,d=>m4 (Aq d)
def Aa5{E}{h}(bl:p9){f}(sa:qB):p8 (.c9 f):=fun{aI U am aL aE H mp d l w bJ y k X aW bb}aN M bG aC cz av t=>by rw[o_ AD VX,mZ bG];rintro fn j _ e ag;rw[qu,aTt dW,aV9 p,o3,xx,mY fD e9 d,m2 tP,p1,mY t,oA,m3 AU e9,mZ e9 av];rintro i aB e;rw[mX EF bl aN M aC qg dQ dW e (Dn dW (yF f8)),aPH Dd (qq PS) aB,mZ bW];rintro f cR xs o e d hc hd jt cy;rw[aTo aV cy.z];unfold du at jt;(have cW:aW (.m xs.c5 (t1+1)) {k with aK:=Q,ce:=t1+1+1}:=nb aV (oJ I bQ u0));rw[nY hc hc];rintro hc;rw[m9];rintro hc;rw[m8,mW (qq len_list aRs (nb aV (aVA A4 [↑i.z] b5 1048576 e (Bb jt))) cW),mW (qq lu.me.len_tuple aRs (nb aV (aVA A4 [↑i.z] b5 1048576 e (Bb jt))) cW)]
def AaO{E}{h}(bl:p9){f}(sa:qB):p8 (.de f):=fun{aI U am aL aE H mp d l w bJ y k X aW bb}aN M bG aC cz av t=>by rw[aQ7 AD VL (by rintro fn j _ e ag),aQQ (by rw[aTt dW]) i,o3,pv AU av fD e9 d,nu,m2 tP,p1,mY t,oA,nD (IQ e9) l' jN gy,mZ e9,rP i (oh l') jN,m3 AU gy,mZ gy av];rintro bq aB e;rw[mX EF bl aN M aC qg dQ dW e (Dn dW (yF f8)),m3 Bt bW,mZ bW];rintro f cR xs o e _ d hc hd jt cy;rw[mX (nI axj.all_bools k aPh vs xs.e0 bQ.fr (Dm (no:=nO Y)) aN.fk (AP cR d hc (qd o (yg fE.aLn hd))) (I8 cy aB) fun h2 d2 anK af6=>?_),rf (bQ.FJ anK af6 fun P a=>a) c7 L P,mW (aVi e)]
def AaQ{E}{h}(bl:p9){f}(sa:qB):p8 (.dS f):=fun{aI U am aL aE H mp d l w bJ y k X aW bb}aN M bG aC cz av t=>by rw[aQ7 AD VM (by rintro fn j _ e ag),aQQ (by rw[aTt dW]) i,o3,pv AU av fD e9 d,nu,m2 tP,p1,mY t,oA,nD (IQ e9) l' jN gy,mZ e9,rP i (oh l') jN,m3 AU gy,mZ gy av];rintro bq aB e;rw[mX EF bl aN M aC qg dQ dW e (Dn dW (yF f8)),m3 Bt bW,mZ bW];rintro f cR xs o e _ d hc hd jt cy;rw[mX (nI axj.any_bools k aPh vs xs.e0 bQ.fr (Dm (no:=nO Y)) aN.fk (AP cR d hc (qd o (by simp only[fE.aLn]at⊢;exact hd))) (I8 cy aB) fun h2 d2 anK af6=>?_),rf (bQ.FJ anK af6 fun P a=>a) c7 L P,mW (aVi e)]
def Aa8:∀{E}{h}(bl:p9){f g}(sa:qB)(bh:pW g),p8 (.ang f g):=by rw[mY E h,mY bl,mY f g,mY sa bh,mY aI U am aL aE H mp d l w bJ y k X,xX,sv,o_ AA V0,mZ bG];rintro fn j ab _ e ag;rw[qu,mX Hz ag fun dQ dW f8 iw aaO=>?_,aV9 Iw,o3,tl Cl,nu,mY q at5 av,rP Iw n' at5,oi,nu,mY J,tQ aLA,wP,tl Cl,mZ av,mY aq akP av,rP aLA Ė akP];replace t:=ş t.to av;rw[mX EF bl aN M aC qg dQ dW (av1 f8) (IW dW f8 (ws sa iw (fun co Q t1 cX I bQ bW=>aTn aaO kQ))),o8 bW,mZ bW,oc v,o8 fh,mZ fh,oc aP,pv (wf min_two_ints) aN.fk h3 j9 ajM];by_cases hc:aq<q;rw[c0 hc,mW (oJ (pX I.ah L (c7.B0 ajM)) (c7.g0 ajM) ⟨aP,by rw[c0 hc]⟩),cH hc,mW (oJ (pX I.ah L (c7.B0 ajM)) (c7.g0 ajM) ⟨v,by rw[cH hc]⟩)]
def Aa1:∀{E}{h}(bl:p9){f}(sa:qB),p8 (.aa3 f):=by rw[mY E h,mY bl,mY f,mY sa,mY aI U am aL aE H mp d l w bJ y k X,aN5 AA VU];rintro fn j ab _ e ag;rw[qu,mX Bq ag fun dQ dW f8 iw=>?_];(have b0:iS ab=G:=by rw[so Df f8,mZ ag f8];rintro n e _;rfl);rw[aQQ (by(have aKe:∀{s':en}{cv:eW}{axe:ch}{anV:ux},t3 s'.aK cv axe→anV (p3 "str") s'→d3 wo aI (adb ab aL) anV bb s':=fun{s' cv axe anV}j3 er=>by rw[m3 AF (Df f8),mZ ag f8 b0];rintro n e aG hd;rw[ot (bl.aqT "str" qg) Q h2,mW HM M aG hd (bl.adB.K.g0 (j3.eZ aN)) Q (bl.adB.g.g0 (j3.eZ aN)) h2 er])) p,o3,pv AU av aic e9 d,nu,m2 tP,p1,mY t,oA,mX EF bl aN M aC qg dQ dW (av1 b0) (IW dW b0 (ws sa iw (fun co Q t1 cX I bQ bW=>aKe (s':=aPh) bQ ?_))),mZ ct];induction p using ar.ae with|bi a=>rw[nu,p2 e9,pi,o8 bW,mZ bW,sK,mW af.aFP.aEL (oJ I bQ e)]|m a=>rw[nu,p2 e9,pi,o8 bW,mZ bW,sK,mW af.aFP.int_str (sk t Q I bQ e)]|_=>rw[sQ e9]
def Abp:∀{E}{h}(bl:p9){f}(sa:qB),p8 (.af3 f):=by rw[mY E h,mY bl,mY f,mY sa,mY aI U am aL aE H mp d l w bJ y k X,xX,sv,aQ7 AD Wc (by rintro fn j _ e ag),aTt dW,oi,nu,mY J,pP p,o3,xx,mY fD e9 d,m2 tP,p1,mY t,pv Ay e9 i aB gy,m3 Bc gy,mZ d,mY eb d,mZ e9 av gy,nf d,oA,mY d,oT,m3 AF (Df dQ),mZ ag dQ];rintro n e aG hd;rw[ot (bl.aqT "tuple" qg) A1 BR,mX lu.me.aqm (HM M aG hd (aQ0 bl.adB.K.g0) A1 (aQ0 bl.adB.g.g0) BR ?_),mX lu.me.aGK (Dn dW (yF f8)) (BT dW),aPH Dd (qq Dg) aB,mZ bW];rintro f cR xs o e d hc ahw jt cy;rw[m2 (wy cy.z),mY aV,mX (qq call_tuple_list (AP cR d hc ⟨o,ahw⟩) (fun h2 hM=>?_) (qm (by rw[awk,aV])))];have c7:=bQ.g0 hM;have L:=bQ.B0 hM;have Z:=c7.B0 (h':=h2.g' {eY:=p3 "tuple",fS:=.ia xs}) Bv;exact oJ aTe (c7.g0 Bv) (ni Cs e c7.Dy zx e e jt (cy.bx (L.ah Z)))
def cT.Ig:∀{E}{U}{am}{H}{b h'}{w}{X}(aC:s2){q}{n}{aj}{o'}(ba:wd)(hd:aj=nk∨aj=nh)(bh:aS5)(aal:xL h'.bg aj)(l:aNT→mC E.b' E.V E.eR h' X o' n),aNT∧t3 h' X (w.b6 q o'):=by rw[mY E U am H b h' w X,mY aC,mY q n aj o',mY ba hd bh aal l];(have agT:g6 X.bN aj:=by rw[mZ bh aal,nY hd hd,n8,m9,n8,m8,mW aTl,mW (Cb ba).2]);rw[wH (aC.hP aj agT)];rintro cu hL;have j:aNT:=⟨fun g p d P V=>(tH g (aQq V agT)).ah d,we (by rw[aVw,mZ hd bh agT cu hL,sA,mW aal,mW (vK ((tH g t).ah d))]),fun g p a d=>⟨Ţ aC.Bd,fun k2 bj=>by rw[n2,uf];simp only[tH g hL.cq,d]at bj;rw[nf bj,aVD bj bj bj (aC.Bd g p e d)]⟩,aPu,e⟩;rw[mX ⟨j,aC.fr.change bh hL cu,aC.hC.aiS j ba (fun g cR g1 gW d P=>(tH g ?_).ah d) (l j),aC.hP,fun g t=>⟨(Ł).1,let(xc):=(Ł).2;aQn⟩⟩,mZ bh aal agT cu hL,n8,nY hd hd,wC,m9,wC,m8,mW g1 a,mW gW a]
def cT.GF:∀{E}{U}{am}{H}{b h'}{w}{X}(aC:s2){q}{n}{i l'}{xs}{o}(Ab:yq)(ba:wd)(bh:b8.aaQ nk b h')(K:h'.bg nk=c (ahI xs o))(aB:Á l'.z)(l:aNT→d4 h' X l' xs.e0),aNT∧t3 h' X (tn (oU l')):=by rw[mY E U am H b h' w X,mY aC,mY q n i l',mY xs o Ab ba bh K aB l,aS6 ef,aN1,nf dg,mZ dg,mY dg,xg,mW aC.Ig ba qN bh (qo K) (nF (qd ef.1 (Au _ o K aB (l j))))]
def Dv:∀{E}{U}{am}{H}{b}{w}{X}(aC:s2){q}{i}{co}(ef:db b X n3 co)(Ab:yq),∃n xs o,wd∧co=nP nk∧b.bg nk=c (ahI xs o)∧tU∧d4 b X i xs.e0:=by rw[mY E U am H b w X,mY aC,mY q i co,mY ef Ab,p4 ef,mZ ef,ù,aS6 l,aN1,nf dg,mZ dg,mY dg,xg];obtain⟨_,xs,o,K,aB,cy⟩:=l;exact(CH n _ o ba e K aB cy)
def Jz:∀{E}{U}{am}{H}{b}{w}{X}(aC:s2){q}{i}{co}(ef:db b X n3 co)(Ab:ã),∃n e1,wd∧co=nP nk∧nh=nk∧b.akr (aVW mu) nk e1∧aPp∧tU:=by rw[mY E U am H b w X,mY aC,mY q i co,mY ef Ab,p4 ef,mZ ef,ù,aS6 l,aN1,nf dg,mZ dg,mY dg,xg];obtain⟨d,aB,e1,hD,aj⟩:=l;exact(Dp n _ ba e d hD aj aB)
def j0.z{b}{X}:wD e1 (aPp→e1.z=i.z)|[],_,l=>aSl|ā,_,l=>by rw[tR,n2];rintro j cy e _ x;simp[j0.z x]
def j0.arU{b}{X}:wD e1 (aPp→e1.au (·.1)=i.au (·.1))|[],_,l=>aSl|ā,_,l=>by rw[tR,n2];rintro j cy e _ x;simp[j0.arU x]
def Kd(q):∀i,(aiE q i).as6 (q::i)|[]=>.fI _|aq::i=>by simp only[Kb,Kc];split;rw[mW .fI _,mW ((Kd q i).s aq).ah (.swap ..)]
def La:∀i,(aeY i).as6 i|[]=>.fI _|q::i=>(Kd q _).ah ((La i).s q)
set_option tactic.hygienic true in
def N0(q):∀i,i.ahg (·≤·)→(aiE q i).ahg (·≤·)|[],_=>m7 r.aKH|aq::i,b=>by rw[pr r.apS];simp only[Kb,Kc];split;rename_i aip;rw[r.apS,vi (fun a hz=>?_) (r.apS.gS b),nt (r.gA.mp hz),n8,m9];rintro hz;rw[m8,mW aip,mW R.eI aip (od a hz)];rename_i aip;rw[r.apS,vi (fun a hz=>?_) (N0 q i qK),nt (r.gA.mp ((Kd q i).mem_iff.mp hz)),n8,m9];rintro hz;rw[m8];omega;exact od a hz
def P2:∀i,(aeY i).ahg (·≤·)|[]=>.C|q::i=>N0 q _ (P2 i)
def AbK{f g:n1}(n:f.as6 g)(a_:f.ahg (·≤·))(U:g.ahg (·≤·)):f=g:=r.as6.eq_of_pairwise (fun j ab P P Q h2=>R.ab5 Q h2) a_ U n
def Vw{b}{X}{vs}{ns}(l:asV vs ns):d4 b X (ns.au .m) vs:=by induction l with|C=>rfl|s h v _ ih=>exact(Au _ _ e (qS v) ih)
def WE{b'}{V}:∀(vs){e1:rC R ck},vs.z=e1.z→(yV aq y (p7 vs y→∃o j,Ä e1=c (o,j)∧(mu b' V).is o y=G))→asV vs (e1.au (·.1)):=tV vs vs (by intro e1 d b;(rw[oS e1 (by exact .C) f i (by exact u.cs d)])) y vs (by rw[mY e1 d b,oS e1 (by exact u.cs d) n e1 (by rw[m2 (ih (u.gk.dB d) fun aq aP aJ=>b xk aP aJ),mY br,mX AR (b 0 y e) fun aax g4 aV bj=>?_,mZ d b ih,p2 aV,pi];induction y using af.ck.ae with|m q v=>cases(qJ lb.mp ((q==aax)=G) bj);exact .s _ v br|_=>rw[qT bj])])
def Rk:∀{a4 dm bJ}{q}{y}(b:afk a4 dm q y=c bJ),afL a4 q=G∧∃i,pO dm rj∧zE∧bJ=aOJ (.aw (i++[y])):=by injections a4 dm bJ q y;rw[nR,mX Bc b fun f b=>?_,nD (Gf b) i g b,mX Bc b fun x b=>?_,mW (qd f (AP i g x aRn))]
def UG:∀{a4 dm bJ}{q}{y}(b:aug a4 dm q y=c bJ),afL a4 q=G∧∃H i,ast y=c H∧pO dm rj∧i.z+H.z<du∧bJ=aOJ (.aw (i++H)):=by injections a4 dm bJ q y;rw[nR,mX Bc b fun f b=>?_,pv Ay b H aj b,nD (Gf b) i g b,mX Bc b fun x b=>?_,mW (qd f (Bx H i aj g x aRn))]
def ZV{w}{q}{n}(b:alK w q=c n):∃i y,yq∧i.arj=c y∧n=(y,tn (oU i.azY)):=by rw[nD (Gf b) i g b,pv AU b y x b,mW Au i y g x b.cq]
def U1:∀{a4 dm}{q}{o y}(b:arh a4 dm q o=c y),am4 a4 q=G∧∃j i,o=Ŭ∧pO dm uH∧y=(lB j i).ld .B:=by rw[mY a4 dm q o y,nR,mX Bc b fun f b=>?_,nD (Cl b) j g b,nD (NK b) i x b,mW (qd f (Au j i g x aRn))]
def AbL{w}{p y}(b:aEB w p=c y):∃q i,p=n3∧ã∧i.z<64∧y=u' (aeY (i.au (·.1))).au .m:=by rw[nD (Cx b) q f b,nD (NK b) i g b,mX Bc b fun x b=>?_,mW Bx q i f g x aRn]
def Abl:∀{E}{h}(bl:p9){f}(sa:qB),p8 (.alS f):=by rw[mY E h,mY bl,mY f,mY sa,mY aI U am aL aE H mp d l w bJ y k X,aN5 AD V'];rintro fn j _ e ag;rw[qu,aTt dW,oi,mY J,pP p,o3,pv AU av fD e9 d,m2 tP,p1,mY t,oA,m3 BV (AbL e9),mZ e9];rintro q i mH Ab aHA e;rw[mZ av,rP p n3 mH,mX EF bl aN M aC qg dQ dW e (Dn dW (yF f8)),aPH Ns Jz Ab,mZ bW];rintro n e1 ba e bj hD aj aB;rw[uy hD.dictAt ep ak6];(have eb:e1.z<64:=nb aj.z aHA);rw[mX (nI kdu_sorted k aPh aj0 (aTu Q) (pj kdl_dict knd (aVW mu) e1 e1 ep ep (bQ.Ff bl aN aTl)) aN.fk bQ.fr Dm ak6 (nb awk (u.eI (u.agP eb) nw)) fun a0 h2 d2 vs anK af6 kG aC8 aJ=>?_),m2 (WE _ aC8 aJ),mY aIs];have arG:=(af6 (a0,listOf vs.mT 0) uA).1;rw[rf (bQ.FJ anK af6 fun P a=>zw a) c7 L P];(have auu:aSF a0:=by rw[vz t (Q.bg a0) (by exfalso;rw[nH a a0 am,mW (nj (af6 _ uA) a)];induction bz:U.bg a0 using ap.ae with|c o'=>rw[m2 (nW (af6 _ uA)),m5,o6 bz,yM C4 aa]|B=>exact ej (kG _ (CM.gS (By t a bz e))) (u.apy _))]);rw[m2 (bQ.DY auu),mY aCO,mX awV slot_list_sort (zn arG) entry_list_sort (wf list_sort_tree arG aIs (nb aC8 eb) fun out aKu a1 a2 a3=>(ql e ?_)) (args_list_sort _),n4 (nI (nI sortedHeap_at b h2 vs vs) h 0 out out arG) aMT aCx];have lC:∀g p,vd a0→w4 h2.bg→(aEC h2 a0 vs out).bg g=c p:=fun g p acP d=>(sortedHeap_old acP (b8.anc d)).ah d;rw[m1 (am≠a0) (rb (nj (af6 _ uA) a.cq)),mY aCb,m1 (gb am h2 (aEC h2 a0 vs out) cX cX→abh) (nO jC),mY Z,m1 (akt _ am _ H) (by rw[mX AD c7.fr.ns fun p Aa aHb aes cy=>?_,mX ⟨(A9 p Aa aHb (nM lC aCb aes) cy),we (lC g p ?_ (sq c7.fr.fx)),c7.fr.atf⟩,mZ kG arG auu aCO aCx lC aCb Z,n8,m2 (nW (af6 _ uA)),m5,o6 d,yM C4 aa]),mY aFH,rf (nI bQ.FJ h' (aEC h2 a0 vs out) aj0 (aTu Q) aFH (fun a hz=>by rw[yr (CM.mp hz) d6 da fC P,mX AE (nM lC ?_ (af6 a (zw hz)).1) da fC,y2];rw[d,auu]at d6;rw[pd d6]) fun P a=>a) ic x4 ψ,m1 (aKu=aeY (i.au (·.1))) (by rw[mX AbK ?_ a3 (P2 _),←aj.arU,mW a2.ah (ww La _)]),mY Aa,mX (p5 t d2 (I.ah x4) ic (oM Cs a0 e aCO aCx e e ?_ ?_)),r.hN,(La _).length_eq,r.hN,mW aB,←Aa,mW Vw a1]
set_option tactic.hygienic true in
def Ob:∀{E}{U}{am}{H}{b}{w}{X}(aC:s2){q}{co}(ef:db b X n3 co)(Ab:afL w q=G),∃n xs o,wd∧co=nP nk∧b.bg nk=c (ahI xs o):=by rw[mY E U am H b w X,mY aC,mY q co,mY ef Ab];delta afL at Ab;generalize d:s_=aa8 at Ab;rw[tm aa8 (by rw[wO Ab]) cR (by induction cR using c_.ae with|aw i=>rw[mX DX (Dv aC ef d) fun n xs o f g x P=>?_,mW CA n _ o f g x]|_=>rw[wO Ab])]
set_option tactic.hygienic true in
def Wf:∀{E}{U}{am}{H}{b}{w}{X}(aC:s2){q}{co}(ef:db b X n3 co)(Ab:am4 w q=G),∃n e1,wd∧co=nP nk∧b.akr (aVW mu) nk e1:=by injections E U am H b w X;intro aC;injections q co;intro ef Ab;delta am4 at Ab;generalize d:s_=p at Ab;rw[tm p (by rw[wO Ab]) cR (by induction cR using c_.ae with|bM i=>rw[mX Dr (Jz aC ef d) fun n e1 f g P x P=>?_,mW Au n _ f g x]|_=>rw[wO Ab])]
def AaR{E}{h}{f g}(sa:qB)(bh:pW g):p8 (.hq f g):=fun{aI U am aL aE H mp d l w bJ y k X aW bb}aN M bG aC cz av t=>by rw[aQ7 Bz VN (by rintro afX acc iB ab bs e ag),mX HA ag fun dQ dW f8 iw aaO aha=>?_,mZ ag,aQR,oi,nu,mY J,pP p,o3,tl Cx,nu,mY q mH av,rP p n3 mH,oi,nu,mY J,tQ j,wP,xx,mY acl e9 d,m2 tP,p1,mY t,oA];obtain⟨hL,i,Ab,eb,e⟩:=Rk e9;refine awT (awM:=act bs (aec [ab] aL)) (oM DL dW) (aUx BT iw) f8 e (yF aaO);rw[aPH B8 Ob hL];rintro n aLV aeK ba e ho;rw[mX (nM Dp af.aN.aEd af.aN.slot_list_append af.aN.type_list_append (zn ho) (fun f d=>by rw[p2 d,pi,mW (zn ho)]) ?_),mX lu.me.atJ (Dn iw (aTn aha aF)) (BT iw),m3 BW (Dv c7 xE Ab),mY cw xs o dg d K aB cy,mZ d];rw[L.i3 ba]at dg;rw[nf dg,mZ dg,mY dg,xg,mX (wf aGu K (fun h3 awg Cp=>?_) (nb (show xs.c5=i.z by rw[m2 cy.z,m5,Ą]) aSI)),ot (c7.GF (l':=i++[j]) Ab (L.i3 ba) awg Cp (aP8 eb) (fun Z=>nb fE.aLq ((qJ cy.hq (p5 d4 [j]) (Au _ _ e fh e)).bx Z))) Z ic,mW (p5 t d2 aTe ic e)]
set_option maxHeartbeats 0 in
def W6:∀(O)(h1:O="list"∨O="tuple")(i)(eD)(h)(g)(am6)(gW)(aol)(ed)(aI4:¬(! eD.dD&&gM.r.avG (eD.c5+am6.c5))=G)(iP:eD.c5≤af0)(alj:eD.c5+am6.c5≤af0+1),aMs (rW gM.«list.extend» [nP i,nP g] []) (fun P ao k=>k.aK.bg i=c {eY:=p3 "list",bE:=B,fS:=.ia eD h,dc:=#[]}∧k.aK.bg g=c {eY:=p3 O,bE:=aol,fS:=.ia am6 gW,dc:=ed}∧ao (.ok (s6 ck.B)) {k with aK:=k.aK.ae2 i (k_.avJ (nF (j++am6))),ce:=k.ce}):=by injections O;intro h1;injections i;rw[mY eD h g am6 gW aol ed aI4 iP alj,mW .of_wp fun b' V aI ao k b=>by obtain⟨ba,K,aj,tk,os⟩:=k;obtain⟨aB,U,b⟩:=b;rw[m2 af.ai4.idx_int,mY gE,m2 af.ai4.sub_tuple_tuple,mY f2,m2 af.ai4.sub_list_list,mY i2,m2 af.ai4.sub_tuple_list,mY aet,m2 af.ai4.sub_list_tuple,mY aoz];(have aDb:(eD++am6).c5≤af0+1:=nb fE.size_append alj);rw[nY h1 h1,n8,m9,n8,m8];wp_walk using(nI (aFf aB e) hz iP _hz' aDb),af.ai4.awW aB,af.ai4.awW U;exact yz;wp_walk using(nI (aFf aB e) hz iP _hz' aDb),af.ai4.awW aB,af.ai4.awW U;exact yz]
def Abv{w}{y}{i}(b:ast y=c i):lN w y=c i:=by induction y using ar.ae<;>first|exact b|rw[xG]
def AaY:∀{E}{h}{f g}(sa:qB)(bh:pW g),p8 (.aft f g):=by injections E h f g;intro sa bh;injections aI U am aL aE H mp d l w bJ y k X;rw[aN5 Bz VT];rintro afX acc iB ab bs e ag;rw[qu,mX HA ag fun dQ dW f8 iw aaO aha=>?_,mZ ag,aQR,oi,nu,mY J,pP p,o3,tl Cx,mZ av,mY q mH av,rP p n3 mH,oi,mZ av,mY J,tQ aDI,wP,xx,mY acl e9 d,m2 tP,p1,mY t,oA];obtain⟨hL,aDB,i,bK,Ab,eb,e⟩:=UG e9;refine awT (awM:=act bs (aec [ab] aL)) (oM DL dW) (aUx BT iw) f8 e (yF aaO);rw[aPH B8 Ob hL];rintro n aLV aeK ba e ho;rw[mX (nM Dp af.aN.aEd af.aN.aK9 af.aN.type_list_extend (zn ho) (fun f d=>by rw[p2 d,pi,mW (zn ho)]) ?_),mX lu.me.atJ (Dn iw (aTn aha aF)) (BT iw),m3 BW (Dv c7 xE Ab),mY cw xs o dg d K aB cy,mZ d];simp only[L.i3 ba]at dg;rw[nf dg,mZ dg,mY dg,xg,m3 Dd (wf PS c7 fh (Abv bK)),mZ fh];rintro aed;intro J;rcases J with(⟨aLj,aNy,aNx,aNA⟩);rintro k7 hM e aeZ awG aEU ca Ap;(obtain⟨O,h1,l9⟩:∃O,(O="list"∨O="tuple")∧aLj=p3 O:=by rw[nY awG awG,wC,m9,wC,m8,mW (ql qN a),mW (ql yp a)]);clear awG;simp only at l9 aEU;subst l9 aEU;rw[aTo aV cy.z];(have bj:k7.c5=aDB.z:=wy Ap.z);rw[m1 (¬(! xs.dD&&gM.r.avG _)=G) (by rw[m1 (gM.r.avG (xs.c5+k7.c5)=Y) (by unfold du at eb;unfold gM.r.avG;rw[aV,bj,awk];simp;exact u.eI (u.agP eb) nw),m5,tf];simp),mY agK,mX aGL af.aN.aK9 (zn K) af.aN.entry_list_extend (m7 af.aN.args_list_extend_2) (nM (oM (W6 O h1 _ _) o) agK (nb aV aSI) (by rw[aV,bj,m2 (Cr (u.agP eb)),m5];omega)) (AE K aeZ ?_),ot (nI c7.GF l' (i++aDB) h' (h2.ae2 nk (k_.avJ (nF (j++k7)))) Ab (L.i3 ba) (b8.aaQ.ae2 ..) (af.asW.ae2 K _) (aP8 (u.agP eb)) (fun Z=>nb fE.aLo ((cy.hq Ap).bx Z))) Z ic,mW (p5 t d2 aTe ic e)]
def Abg:∀{E}{h}{f}(sa:qB),p8 (.adv f):=by rw[mY E h f,mY sa,mY aI U am aL aE H mp d l w bJ y k X,aN5 AA V6];rintro afX acc iB bs e ag;rw[qu,mX Bq ag fun dQ dW f8 iw=>?_,mZ ag,aQR,oi,nu,mY J,pP p,o3,tl Cx,mZ av,mY q mH av,rP p n3 mH,ze ZV av,mZ av,mY i fD Ab aJ d,uT d,mZ d,mY d L,oT,qD,mX wpAny_Call_method0_late (oM DL dW) f8 (yF iw),aPH BW Dv Ab,mZ bW];rintro n xs o ba e K aB cy;rw[mX (nM Dp af.aN.aEd af.aN.aLa af.aN.type_list_pop (zn K) (fun f d=>by rw[p2 d,pi,mW (zn K)]) ?_),tC (lu.me.callWith_method0 (aL:=aL)),aTo aV cy.z];(have ab0:n9 i (i.z-1) y:=uq r.aHw aJ);rw[nD (cy.i3 ab0) ab b0 gK,m1 (n9 xs (xs.c5-1) ab) (by rw[aV,←fE.ari,mW b0]),mY aJt,mX (qq aGL af.aN.aLa (zn K) af.aN.entry_list_pop (af.aN.args_list_pop_1 _) (nM af.aMt.list_pop_last o ab aJt (nb aV aSI)) ⟨K,?_⟩),ot (nI bQ.GF l' i.azY h' (Q.ae2 nk (k_.avJ fun aqi=>aqi.aub (xs.c5-1))) Ab ba (b8.aaQ.ae2 ..) (af.asW.ae2 K _) (aP8 (u.ahH aB)) (fun Z=>by rw[m1 ((xs.aub (xs.c5-1)).e0=xs.e0.gu (i.z-1)) (by rw[aV];(have apc:i.z-1<xs.c5:=by rw[m2 (r.gF.mp ab0),m5];obtain⟨a,_⟩:=aa;exact u.k0 a (u.fp aV.cq));rw[fE.aub,azX apc,fE.aLp,r.auc,r.drop_eq_nil_of_le (by simp only[fE.ana];exact u.eI (u.fp aV) (aQr u.sub_le_iff_le_add.1)),r.afl]),mY bj,bj,r.dropLast_eq_take,mW (cy.gu _).bx Z])) Z ic,mW t ab _ t1 _ (I.ah Z) ic (gK.bx Z)]
def AaX:∀{E}{h}(bl:p9){f g}(sa:qB)(bh:pW g),p8 (.akO f g):=by rw[ē E,mY bl];injections f g;intro sa bh;injections aI U am aL aE H mp d l w bJ y k X;rw[xX,sv,o_ Bz VS,mZ bG];rintro afX acc iB ab bs e ag;rw[qu,mX HA ag fun dQ dW f8 iw aaO aha=>?_,mZ ag,aQR,aV9 p,o3,tl Cx,nu,mY q mH av,rP p n3 mH,oi,nu,mY J,tQ aFh,wP,xx,mY fD e9 d,m2 tP,p1,mY t,oA];obtain⟨hL,j,i,aHg,Ab,e⟩:=U1 e9;rw[mZ e9 av,rP aFh Ŭ aHg];refine awT (awM:=act bs (aec [ab] aL)) (oM DL dW) (aUx BT iw) f8 e (yF aaO);rw[aPH At Wf hL];rintro n aNa ba e aju;rw[mX (nM Dp af.aN.aKJ af.aN.awp af.aN.aLw aju.ae1 aju.and.noDict ?_),mX lu.me.atJ (Dn iw (aTn aha aF)) (BT iw),m3 Ns (Jz c7 xE Ab),mY cw e1 dg d _ hD aj aB,mZ akz];rw[L.i3 ba]at dg;rw[oA,nf dg,mZ dg,mY dg,xg,o8 fh,mZ fh,oc v,m1 ((mu E.b' E.V).is j (u2 j)=G) (y9 mu ck.arS),mY aG,mX (wf aGM af.aN.awp hD.ae1 af.aN.aG9 (m7 af.aN.args_dict_get_2) (nM meets_dict_get aG (c7.Ff bl aN (Cb (L.i3 ba)).1)) (ql hD.and ?_)),nt (aj.ahK j),aO2 z1 bz,tp (by rw[vX])];rintro fD g4 z1 bz ft;rw[m8,bz];rw[z1]at t;rw[mW t .B h2 _ _ wu c7 e,bz];rw[z1]at t;exact t g4 h2 _ _ wu c7 ft
def Aa4:∀{E}{h}(bl:p9){f g}(sa:qB)(bh:pW g),p8 (.aay f g):=by rw[ē E,mY bl];injections f g;intro sa bh;injections aI U am aL aE H mp d l w bJ y k X;rw[xX,sv,o_ HE VW,mZ bG];rintro afX acc iB j ab bs e ag;rw[qu,mX Uw ag fun dQ dW f8 iw aaO aha aFZ=>?_,oK,aQR,m3 AF (Df dW),mZ dW];rintro po e aG hd;rw[oi,nu,mY J,pP apq,o3,tl Cl,mZ av,mY q at5 av,rP apq n' at5,xx,mY J,tQ aMR];rintro gx d;rw[nu];replace t:=tP;refine BV bl.arV fun ad e1 hg aju avf aIE=>?_;refine awT (awM:=m7 act) (oM DL e) (qZ (BT iw) (BT aaO)) f8 e (HN M aG hd (aQ0 bl.adB.K.g0) hg ?_);have hD:=aQ0 (aju.fx (h':=k.aK));rw[mX (nM Dp af.aN.aKJ af.aN.awp af.aN.aLw hD.ae1 hD.and.noDict ?_),mX lu.me.atJ (IW iw aaO (ws sa aha (fun aF Q t1 cX I bQ bW=>aTn aFZ iZ))) (BT iw) (av1 aaO),o8 bW,mZ bW,oc v];(have ahx:(mu E.b' E.V).is q (u2 q)=G:=y9 mu ck.arS);have aB7:=aju.fx (h':=h2) (c7.eZ aN);rw[mX (wf aGM af.aN.awp aB7.ae1 af.aN.aG9 (sF af.aN.args_dict_get_3) (meets_dict_get_default _ _ ahx avf _) (ql aB7.and ?_)),nt (aIE q),mY J,ri AR,ng];rintro fD iu z1 bz;rw[tp (by rw[nV])];rintro z1 bz;rw[m8,bz];rw[z1]at t;rw[mW (sk t h2 wu c7 (qS iu)),bz];rw[z1]at t;exact t iZ h2 _ _ wu c7 fh
def Jo(aL):∀(bw:aOz kN)(kd),(∀h∈bw,h.2=.ht→∃x,aL.hr.cm h.1=c x)→(∀j x,rR kd.cm x→uZ x)→∃cl,(are bw kd (fun j __s=>if(j.snd==kN.ht)=G then do let __do_lift←azd aL j.fst;km (ama.anC ((j.fst,__do_lift)::__s))else km (ama.anC __s)):bv (aOz d8))=km cl∧(∀j x,rR cl.cm x→uZ x)∧∀j,((kd.cm j).eF∨(j,kN.ht)∈bw)→(cl.cm j).eF|[],kd,_,o=>(AP kd (by kernel_rfl!) o (fun j t=>t.az id fun t=>nomatch t))|(h,A2)::bw,kd,b,o=>by simp only[r.arf];rw[nH b2 A2 .ht];subst b2;rw[n4 (b (h,.ht) uA e) x hc,m1 (azd _ h=km x) (ĺ azd hc),mY d,mX AF (Jo aL bw ((h,x)::kd) (fun a hz=>b a (zw hz)) fun j aj hd=>by rw[nH t j h,mZ b d,sA];simp at hd;subst hd;rw[mW hc,m1 (â h) (o7 t),mY aeT];simp only[r.aa5,aeT]at hd;exact o j aj hd) fun cl aV bj cV=>?_,mZ b hc,mX AP cl ?_ bj (fun j t=>cV j ?_)];simp only[aaU,fU,d,aEn];rw[mW aV,mZ d aV cV,nH a j h,mZ t,uf];left;simp;rw[nY t t,rd,m9,rd,m8];left;rw[m1 (â h) (o7 a),mY aeT];simp only[r.aa5,aeT];rw[mW t,nt (r.gA.mp t),rd,m9,rd,m8,uT t,mZ t,mY t L,sA];revert L;rw[aPn,mW (t' a e),mW .bF t,m1 ((A2==kN.ht)=Y) (o7 b2),mY U,mX AF (Jo aL bw kd (fun a hz=>b a (zw hz)) o) fun cl aV bj cV=>?_,mX AP cl ?_ bj (fun j t=>cV j ?_)];simp only[U,N.aev,abv,aEn];rw[mW aV,nY t t,rd,m9,rd,m8,mW (pp t),nt (r.gA.mp t),rd,m9,rd,m8,mZ b U,uT t,mZ t,mY t L,sA,qD,mW (t' b2 e),mW .bF t]
def S1:∀(aE)(aL)(b:∀h∈aE.bw,h.2=.ht→∃x,aL.hr.cm h.1=c x),∃cl,aGO aE aL=km cl∧(∀j x,rR cl.cm x→uZ x)∧∀j,(j,kN.ht)∈aE.bw→(cl.cm j).eF:=by rw[mY aE aL,nR,mX AF (Jo aL aE.bw [] b (fun j x t=>by simp at t)) fun cl aV bj cV=>?_,mX AP _ ?_ bj (fun j t=>cV j (.bF t)),aGO];rw[aV,aEn]
def abz{cg:Type}{j}{o}:∀{i:aOz cg},rR i.cm o→(j,o)∈i|(ab,aq)::i,b=>by rw[nH t j ab,sA,Ē,pq,mW uA];(have:â ab:=o7 t);rw[sB r.aa5 aa,mW (aQX (abz b))]
def Ky(aL:af.dv):∀(bw:aOz kN)(j),(bw.au fun(h,o)=>if(o==kN.ht&&aL.d_.cA==.abU&&aL.h_ h==aP3)then(h,kN.gh)else(h,o)).cm j=ow (bw.cm j) o (if(o==kN.ht&&aL.d_.cA==.abU&&aL.h_ j==aP3)then kN.gh else o)|[],j=>e|(h,o)::l,j=>by have ih:=Ky aL l j;rw[m6 (r.cm j ((if(o==kN.ht&&aL.d_.cA==.abU&&aL.h_ h==nJ)=G then(h,kN.gh)else(h,o))::_)=_),nH t j h,sA];by_cases hc:(o==kN.ht&&aL.d_.cA==.abU&&aL.h_ j==aP3)=G;rw[c0 hc,aR0 r.aa5 aaU,c0 hc];rw[cH hc,aR0 r.aa5 aaU,cH hc];(have J:â h:=o7 t);by_cases hc:(o==kN.ht&&aL.d_.cA==.abU&&aL.h_ h==aP3)=G;rw[c0 hc];simp only[r.aa5,J];rw[mW ih,cH hc];simp only[r.aa5,J];exact ih
structure aqo(mp:wU)(aE:kq)(j:af.bH)(eG:u)(x:kq):Prop where
 cA:x.cA=.abU
 A:rR x.bw.cm .local
 eG:∀h∈mp,h.2≠eG
 asa:∀h∈x.bw,h.2≠.gh
 aeM:∀h∈x.bw,h.2=yZ→x.bw.cm h.1=c yZ
 agT:∀h∈x.bw,h.2=yZ→h.1=j∨mp.cm h.1=B
 ht:∀h∈x.bw,h.2=.ht→aE.bw.cm h.1=c .gh∨aE.bw.cm h.1=c .ht
def S7:∀{mp}{aE}{j}{eG}{x}(b:aod mp aE j eG x=G),aqo mp aE j eG x:=by injections mp aE j eG x;rw[nR,Å aod];simp only[N.c3,lb,r.hp]at b;rw[mX Bq b fun Q h2 bf h3=>?_,mX ⟨Q,h2,fun h cu=>o7 (bf h cu),fun h cu=>?_,fun h cu aB=>?_,fun h cu aB=>?_,fun h cu b2=>?_⟩,m2 (h3 h cu).1,m5,Ą,m2 (nj (h3 h cu)),mY aa,o6 aB];simp at aa;rw[mW aa.1,m2 (nj (h3 h cu)),m5,o6 aB];simp only[bne_self_eq_false,N.ags,N.c3,N.acR,lb,ap.am5]at aa;rw[mW aa.2,m2 (nW (h3 h cu)),m5,o6 b2,Ą]
def ma.go:∀{aL}{mp}{eG}{aE}(M:xN){j}{x}(hc:aqo mp aE j eG x){cl}(aD)(h2:∀j c',rR cl.cm c'→uZ c')(h3:∀ab,(ab,kN.ht)∈x.bw→(cl.cm ab).eF),ma aTv x:=by rw[mY aL mp eG aE,mY M,mY j x,mY hc,mY cl aD,mY h2 h3];have A2:∀ab,(aTv).h_ ab=ow (x.bw.cm ab) o (if(o==kN.ht&&aL.d_.cA==.abU&&aL.h_ ab==aP3)then kN.gh else o):=x9 (Ky aL x.bw ab);rw[mX ⟨hc.cA,M.bL,M.akF,fun ab b0=>?_,fun ab b0=>?_,fun ab b0=>?_,fun ab b0=>?_⟩,A2,b0];rfl;rw[nY b0 b0];rintro b0;rw[m9];rintro b0;rw[m8,mW (hc.asa _ (abz b0) e).az,A2,b0,ap.ji];by_cases t:(kN.ht==kN.ht&&aL.d_.cA==.abU&&aL.h_ ab==aP3)=G;rw[c0 t,mW qN,cH t,mW yp,A2,b0];rfl;rw[A2]at b0;rw[m1 (x.bw.cm ab=c _) (by induction t:x.bw.cm ab using ap.ae with|B=>rw[t]at b0;simp at b0|c o=>rw[t]at b0;induction o using af.kN.ae with|ht=>rfl|gh=>exact(hc.asa _ (abz t) e).az|_=>simp at b0),mY b2,mW ap.alr.mp (h3 ab (abz b2))]
abbrev amk(O:ea)(b:b8)(ax:d8)(eD:õ):Prop:=(O="list"∧b.ajc ax eD)∨(O="tuple"∧b.asZ ax eD)
abbrev aei(O:ea)(b:b8)(aC ax:d8)(q:u):Prop:=(O="list"∧b.aMp aC ax q)∨(O="tuple"∧b.aMr aC ax q)
abbrev afN(O:ea)(ax:d8):k_:={eY:=.hl (ov O "list" "list_iterator" "tuple_iterator"),fS:=.ajs #[nP ax,.m 0 0]}
def Oi{b'}{V}{aI}{bb}{k}{O}{ax}{eD}{aW}(hs:amk O k.aK ax eD)(t:aW (nP k.aK.eU.c5) (aU9 (k.aK.g' (afN O ax)))):aSE (pyIter (nP ax)):=by rw[nY hs hs,mY J,nV,ng];rintro e b;rw[tp (by rw[nV])];rintro e b;rw[m8,mW wpAny_pyIter_list b t,mW wpAny_pyIter_tuple b t]
def Of{O}{ax aC}{b}{o:ea}(h1:O="list"∨O="tuple")(d:b.bg aC=c (afN O ax)):aei O b aC ax 0:=by rw[nY h1 h1,n8,m9,n8,m8,mW (pp (qd e (AP _ d e e))),mW .bF (qd e (AP _ d e e))]
def Oh:∀{b'}{V}{aI}{bb}{k}{O}{ax aC}{q}{eD}{j}{aW}(Ab:aei O k.aK aC ax q)(hs:amk O k.aK ax eD)(J:op eD j)(t:∀h',aei O h' aC ax (q+1)→b8.aaQ aC k.aK h'→aW (c j) (aU9 h')),aSE (av7 (nP aC)):=by rw[mY b' V aI bb k O ax aC q,mY eD j aW Ab hs J t,nY hs hs,mY J,nV,ng];rintro e b;rw[tp (by rw[nV])];rintro e b;rw[m8,nY Ab Ab,mY J,nV,ng];rintro _ Ab;rw[m9,mY J,nV,ng];rintro d _;rw[m8,mW wpAny_pyNext_list_item Ab b J fun h' f g=>t _ (pp (wz f)) g,mW (t8 ej d),nY Ab Ab,mY J,nV,ng];rintro d _;rw[tp (by rw[nV])];rintro _ Ab;rw[m8,mW (t8 ej d),mW wpAny_pyNext_tuple_item Ab b J fun h' f g=>t _ (.bF (wz f)) g]
def Og{b'}{V}{aI}{bb}{k}{O}{ax aC}{q}{eD}{aW}(fk:aI.auz=B)(Ab:aei O k.aK aC ax q)(hs:amk O k.aK ax eD)(J:rS eD=B)(t:∀h',b8.al8 aC k.aK h'→aW B (aU9 h')):aSE (av7 (nP aC)):=by rw[nY hs hs,mY J,nV,ng];rintro e b;rw[tp (by rw[nV])];rintro e b;rw[m8,nY Ab Ab,mY J,nV,ng];rintro _ Ab;rw[m9,mY J,nV,ng];rintro d _;rw[m8,mW wpAny_pyNext_list_end fk Ab b J t,mW (t8 ej d),nY Ab Ab,mY J,nV,ng];rintro d _;rw[tp (by rw[nV])];rintro _ Ab;rw[m8,mW (t8 ej d),mW wpAny_pyNext_tuple_end fk Ab b J t]
def aei.fx{O}{ax aC}{q}{b h'}(j:aei O b aC ax q)(o:∀p,tN aC→h'.bg aC=c p):aei O h' aC ax q:=by rw[nY j j,mY J];rcases J with(⟨d,p,f,g⟩);rw[m9,mY J];rcases J with(⟨d,p,f,g⟩);rw[m8,mW (pp (qd d (Ad p (o p f) g))),mW .bF (qd d (Ad p (o p f) g))]
def aei.ix:∀{O}{ax aC}{q}{b}(j:aei O b aC ax q),∃p,tN aC∧aPz:=by injections O ax aC q b;intro j;rcases j with(⟨_,p,f,_,g⟩|⟨_,p,f,_,g⟩)<;>exact(Ad p f (by unfold hK;rw[g]at⊢))
set_option tactic.hygienic true in
def P4:∀{E}{U}{am}{H}{b}{w}{X}(aC:s2){y}{co}{i}{x}(ef:ì co)(hs:kn w y=c (i,x)),∃O ax,(O="list"∨O="tuple")∧co=nP ax∧tU∧(∃p,tN ax)∧∀h' cv bJ m',aPr→cT E U am m' h' cv bJ→AY x bJ=G→∃eD,amk O h' ax eD∧aTB d4 eD.e0:=by injections E U am H b w X;intro aC;injections y co i x;intro ef hs;induction y using ar.ae with|ay l'=>simp only[kn,ap.c.fV,fK.mk.fV]at hs;rw[m3 Ai hs,mZ hs];(rw[oc e]);rw[m3 Bt (id ef)];(rintro f p xs h e no d hc hd aB t);rw[mX BU ("tuple") f yp e aB xc (fun h' cv bJ m' j j3 P=>?_),mX Bt (ef.AS j) fun dE o' aqi aiL aV alF a5 agD ad1 aiq er=>?_,mZ alF,p2 aV,pi,mW (ql (.bF (qd e (AP _ a5 agD ⟨aiL,ad1⟩))) er)]|bm l'=>simp only[kn,ap.c.fV,fK.mk.fV]at hs;rw[m3 Ai hs,mZ hs];(rw[oc e]);rw[m3 Bt (id ef)];(rintro f p xs h e no d hc hd aB t);rw[mX BU ("list") f qN e aB xc (fun h' cv bJ m' j j3 P=>?_),mX Bt (ef.AS j) fun dE o' aqi aiL aV alF a5 agD ad1 aiq er=>?_,mZ alF,p2 aV,pi,mW (ql (pp (qd e (AP _ a5 agD ⟨aiL,ad1⟩))) er)]|D q=>replace hs:(aNX (c (i,c (q,i))))=c (i,x):=hs;generalize Ab:s_=aa8 at hs;(rw[tm aa8 (by rw[pd hs]) cR (by induction cR using c_.ae with|aw aeL=>rw[ap.c.fV,fK.mk.fV]at hs;rw[m3 Ai hs,mZ hs];(rw[oc e]);rw[m3 BW (Dv aC ef Ab)];(rintro n xs o ba e K aB cy);rw[mX BU ("list") nk qN e aB (qo K) (fun h' cv bJ m' j j3 cU=>?_)];unfold AY at cU;rw[kR]at cU;refine BW (Dv j3 (ef.AS j) cU) fun cw aqi aax dg d arg aiq aKS=>?_;rw[nv j.i3 ba]at dg;rw[mZ d,nf dg,mZ dg,mY dg,xg,mW (ql (pp (qd e (AP _ arg e (qS aax)))) aKS)]|_=>rw[pd hs])])|_=>exact Aq hs
abbrev eW.agj(X:eW)(a0:d8):eW:=⟨X.bN,a0::X.fL⟩
def JQ{b}{X}{a0}(ac:ž a0):j1 b b X (X.agj a0):=⟨fun g p d P no=>(AE d no.1 (ue (by rw[nt (r.gA.mp t),n8,m9,rd,m8];rw[ac]at d;rw[Ğ d,mW no.2 t]))),fun P P d=>d⟩
def j1.ah{b Q h2}{X cX g5}(j:j1 b Q X cX)(ab:j1 Q h2 cX g5):j1 b h2 X g5:=⟨fun g p d hs no=>let⟨aV,g1⟩:=aRi j.ia hs;ab.ia g p aV hs g1,fun q n d=>ab.i3 q n (j.i3 q n d)⟩
def Nv{b h'}{X cv}{fL}(j:aPr)(o:∀g,g∈fL→g∈cv.fL):j1 b h' X ⟨cv.bN,fL⟩:=⟨fun g p d hs no=>let⟨aV,g1⟩:=aRi j.ia hs;(AE aV g1.1 (ue (g1.2 (o g t)))),j.i3⟩
noncomputable abbrev asz(i:r af.bA)(aL:af.dv)(g:N):bv N:=are i g fun x l=>if l=G then do let ok←als x aL (adb x aL);km (ama.anC ok)else km (ama.anC l)
abbrev aga(E:iJ)(h:u)(Aa:hG):Prop:=∀{aI:lT}{U:b8}{am:d8}{aL:af.dv}{aE:kq}{H:r8}{mp:wU}{i:r af.bA}{l:dv}{w bJ:ch}{g:N}{k:en}{X:eW}{aW:t7 N}{bb:ux},pA→xN→aP6 jj Aa i→q3→aTa→xT ahq Aa=c (g,bJ)→ami E U am H k X aW bJ g→q5 (asz i aL G)
def Qb{ag}{aI}{bb}{k}{aL}{aW}:∀i,aW Y k→v3 (asz i aL Y)|[],b=>fX b|_::i,b=>by unfold asz;rw[r.arf]at⊢;exact dH (fX (Qb i b))
def Acq:∀{E}{h},p_ aga .C:=by rw[mY E h aI U am aL aE H mp i l w bJ g,mY k X aW bb,sv,pD (Dw bG),ŏ t.to,p1,mY t,mW fX (t _ _ _ aC.fI aC)]
def Acp:∀{E}{h}{d}{Aa}(aeZ:aSK)(anu:p_ aga Aa),aga E h u6:=by rw[mY E h d Aa,mY aeZ anu,mY aI U am aL aE H mp i l w bJ g k X,xX,sv,o_ BV CB,mZ bG];rintro j xs e hs dQ dW;rw[oi,mY J,pP y,o3,pv Ay av aic aS av];unfold asz;rw[r.arf]at⊢;simp only[fU];rw[rs aic (by rw[mX dH (dH (sN aeZ dQ cz ct aS (aWn (fX ?_)))),mW (x3 anu dW x1 av fun h2 d2 g5 L c7=>t _ _ _ wu c7)]) (by rw[ŏ t.to,p1,mY t,mX dH (dH (sN aeZ dQ cz ct aS (aWn (fX ?_)))),mW Qb _ aTI])]
def Ds{b h'}{cI}{aj}(bh:aS5)(hd:∀p,tN aj→hK p=G→¬ka cI aj):j1 b h' cI cI:=⟨fun g p d hs no=>by rw[aVw,mZ bh,sA,mW (hd p d hs no).az,mW ⟨(tH g t).ah d,no⟩],fun P P d=>d⟩
def cT.GN{E}{U}{am}{H}{b h'}{w}{cI}{aj}(aC:wl b cI)(bh:aS5)(hd:∀p,tN aj→hK p=G→¬ka cI aj)(g1:aO4 aj)(gW:Ã aj)(kI:aQt aj)(aal:xL h'.bg aj):wl h' cI:=by rw[mX ⟨aC.fr.change bh gW kI,aC.hC.E9 (Ds bh hd) e fun g p t d=>(tH g (aQq g1 t)).ah d,aC.hP,fun g t=>⟨(Ł).1,?_⟩⟩,nH a g aj,mZ bh hd g1 gW kI,uf,mW aal,n4 (Ł).2 p d,mW (vK ((tH g a).ah d))]
def EU{am}{b h'}{cI}{Q}{cX}{aj}(j:gb am Q b cX cI)(ac:aSF aj)(bh:aS5):gb am Q h' cX cI:=by(have ne:tc Q.bg (vd aj):=fun g p d a=>by simp only[a,ac]at d;rw[pd d]);exact⟨fun g p d fb no=>(tH g Ý).ah (aRi j.fx fb),fun g p d=>let(aOj a5):=aQn;aOj ((tH g Ý).ah a5),fun g p a d=>⟨(aSR).1,aN6 ((aSR).2 _ (uq (tH g Ý) a5))⟩,j.aey,j.fL⟩
def UE{am}{b h'}{cI}{Q}{cX}{aj}(j:gb am Q b cX cI)(ac:aSF aj)(bh:b8.al8 aj b h')(hL:am≠aj)(Bd:∀p,tN am→aPz)(aB:∃p,tN am):gb am Q h' cX cI:=by(have ne:tc Q.bg (vd aj):=fun g p d a=>by rw[a,ac]at d;rw[pd d]);exact⟨fun g p d fb no=>bh g p Ý (aRi j.fx fb),fun g p d=>let(aOj a5):=aQn;aOj (bh g _ Ý a5),fun g p a d=>⟨(aSR).1,aN6 (by rw[mZ j,uf,uy aB k2 bj,rl (bh g k2 hL bj),yW,zS (Bd _ bj)])⟩,j.aey,j.fL⟩
def cT.ark:∀{E}{U}{am}{H}{b h'}{w}{cI}{aj}(aC:wl b cI)(bh:b8.al8 aj b h')(hd:∀p,tN aj→hK p=G→¬ka cI aj)(g1:aO4 aj)(gW:Ã aj)(kI:aQt aj)(anj:aj∉cI.fL),wl h' cI:=by rw[mY E U am H b h' w cI aj,mY aC bh hd g1 gW kI anj];have jn:j1 b h' cI cI:=⟨fun g p d hs no=>by rw[aVw,mZ bh g1 gW kI anj,sA,mW (hd p d hs no).az,mW ⟨bh g p t d,no⟩],fun P P d=>d⟩;rw[mX ⟨?_,aC.hC.E9 jn e fun g p t d=>bh g p (aQq g1 t) d,aC.hP,fun g t=>⟨(Ł).1,let(xc):=(Ł).2;vK (bh g p (aQq anj t) d)⟩⟩,mX AD aC.fr.ns fun p Aa ep d cy=>?_,mX ⟨(A9 p Aa ep (nM bh gW.cq d) cy),we (bh g p ?_ (sq aC.fr.fx)),aC.fr.atf⟩,mZ bh hd g1 gW anj,n8];rw[kI]at d;rw[pd d]
def cT.start{E}{U}{am}{H}{b h'}{w}{X}{h}{aI}(aN:pA){a0}(aC:s2)(o:aUV ĭ)(ac:ž a0)(aal:xL h'.bg a0):t3 h' (X.agj a0) w:=by have aqt:=aC.g0 o;rw[mX ⟨aqt.fr,aC.hC.E9 (pX JQ ac (iz.Aw (cL:=fun g=>g=am) ⟨fun g p d P P=>Ĳ,we (vK Ĳ),fun g p a d=>⟨Ţ aC.Bd,aN6 (by rw[rl Ĳ,yW,zS (Ţ aC.Bd)])⟩,aPu,e⟩)) e fun g p P d=>Ĳ,aC.hP,fun g t=>?_⟩,nt (r.gA.mp t),n8,m9,rd,m8,mX ⟨?_,aal⟩];(rw[vz d (E.bf.bg g) (by rw[aC.eZ aN g p d]at ac;rw[yM C4 ac])]);exact aqt.lx g t
def cT.stop{E}{U}{am}{H}{b}{w}{cI}{fL}(aC:wl b cI)(o:∀g,g∈fL→g∈cI.fL):wl b ⟨cI.bN,fL⟩:=⟨aC.fr,aC.hC.E9 (Nv (iz.Aw aC.fI) o) e fun P P P d=>d,aC.hP,fun g t=>aC.lx g (o g t)⟩
def UF{am}{b}{cI}{Q}{cX}{a0}(j:gb am Q b (cX.agj a0) cI):gb am Q b cX ⟨cI.bN,cX.fL⟩:=⟨j.fx,j.ix,j.xs,j.aey,e⟩
def mB.fL{am}{H}{b}{X}{mp}{aL}{l}{a0}(cz:mB mp aL am H l b X)(ac:ž a0):mB mp aL am H l b (X.agj a0):=fun ab q hJ f o g=>by rw[nD (cz ab q hJ f o g) y i t,mW Ad y i (t.AS (JQ ac))]
def mB.go:∀{am}{H}{b}{cI}{mp}{aL}{aE x}{j}{eG}{l}{cl}{aD}{aaB}{hJ}{y}(hc:aqo mp aE j eG x)(M:xN)(cz:mB mp aL am H l b cI)(h2:∀j c',rR cl.cm c'→uZ c')(h3:∀ab,(ab,kN.ht)∈x.bw→(cl.cm ab).eF)(ak1:Ã aD)(aB6:aO4 aD)(cu:b.af7 aD aaB)(aJ:rR aaB y)(ft:db b cI hJ y),mB aTG aTv am H (l.b6 eG (c hJ)) b cI:=by injections am H b cI mp aL aE x j eG l cl aD aaB;injections hJ y;intro hc M cz h2 h3 ak1 aB6 cu aJ ft;injections ab q f;intro b0 aG br;have A2:(aTv).h_ ab=ow (x.bw.cm ab) o (if(o==kN.ht&&aL.d_.cA==.abU&&aL.h_ ab==aP3)then kN.gh else o):=Ky aL x.bw ab;rw[nH t ab j,sA];simp only[r.aa5,aaU,ap.c.fV]at b0;subst b0;(have jf:eG<l.z:=wy (aOC br));rw[r.akX jf]at br;simp only[ap.c.fV]at br;subst br;rw[mX Ad y (zj (qZ A2 hc.A) (rt (AE ak1 aB6 ?_))) ft,mX DX cu fun p Aa ep d aj aaK hs=>?_,mW CU p _ _ d aj aaK (nb hs aJ)];(have aeT:(ab==j)=Y:=o7 t);simp only[r.aa5,aeT]at b0;rw[m1 (sU eG) (hc.eG _ (abz b0)),mY Ab];rw[r.agx Ab.cq]at br;(have b2:x.bw.cm ab=c .ht:=by induction a:x.bw.cm ab using ap.ae with|B=>rw[A2,a]at aG;simp at aG|c o=>induction o using af.kN.ae with|ht=>rfl|gh=>exact(hc.asa _ (abz a) e).az|«local»=>rw[nt (hc.agT _ (abz a) e)];(rintro V);rw[m9];(rintro V);rw[m8,mW (t' t V)];rw[b0]at V;rw[yM C4 V]|_=>rw[A2,a]at aG;simp at aG);have ahx:aL.h_ ab=c .gh∨aL.h_ ab=c .ht:=M.cf ab (hc.ht _ (abz b2) e);rw[nD (cz ab q f b0 (.bF ahx) br) aP i aeU,mX Ad aP ?_ aeU,nY i i,mY J,nV,ng];rintro V _;rw[m9,mY J];rcases J with(⟨_,aob,p,aV,bj,cV,gp,ky⟩);rw[m8];(rw[nY ahx ahx,wC,m9,wC,m8])<;>(rw[a]at V;rw[nf V,mZ V,mY V];injection V);rw[mX .bF ⟨?_,(BU _ p ?_ bj cV gp ky)⟩,A2,b2,ap.ji];by_cases t:(kN.ht==kN.ht&&aL.d_.cA==.abU&&aL.h_ ab==aP3)=G;rw[c0 t,mW qN,cH t,mW yp,n4 (ap.alr.mp (h3 ab (abz b2))) c' agD,m2 (nv h2 agD),m5,o6 aV,nf aa,mZ aa,m5,uM,mW agD]
inductive as7(E:iJ)(U:b8)(am:d8)(H:r8)(k:en)(X:eW)(aC a0 aD:d8)(O:ea)(ax:d8)(i vs:nC)(ao:nC→ch→nC→Prop):t7 u|mk(hQ:nC)(b:b8)(tk:u)(cI:eW)(abI:ch)(aaB:r8)(k7:õ)(o:u)(abm ai0 anA:nC)(j:gb am k.aK b (X.agj a0) cI)(hI:t3 b cI abI)(mO:aO4 aC)(aj7:aO4 a0)(ahQ:aO4 aD)(cu:b.af7 aD aaB)(fo:aei O b aC ax abm.z)(hD:b.bg a0=c (ahI k7 o))(br:d4 b cI ai0 k7.e0)(aB:i=abm++hQ)(aJ:vs=ai0++anA)(b7:ai0.z≤abm.z)(y:ao hQ abI anA):as7 E U am H k X aC a0 aD O ax i vs ao hQ.z (yS b)
set_option maxHeartbeats 4000000 in
def S8:∀{E}{h}{gD}{gP}{eG}(l8:pW gD)(a':p_ aga gP){aI}{U}{am}{aL}{aE x}{H}{mp}{j}{mQ}{jN gQ}{fs}{bs}{l}{aqr}{i}{co}{s1}{cX}{ao}{vs}{cl}{aD a0 aC ax}{O}(aN:pA)(M:xN)(hc:aqo mp aE j eG x)(dQ:b_ E.K aTG x gD jN=G)(dW:jj E.K aTG x gP fs=G)(h2:∀j c',rR cl.cm c'→uZ c')(h3:∀ab,(ab,kN.ht)∈x.bw→(cl.cm ab).eF)(axm:mB mp aL am H l s1.aK (cX.agj a0))(afT:xL s1.aK.bg am)(abS:s1.aK.bg aC=B)(agr:s1.aK.bg a0=B)(agq:s1.aK.bg aD=B)(ank:aC≠a0)(apE:aC≠aD)(avN:a0≠aD)(aqJ:aQt aC)(axK:aQt a0)(axJ:aQt aD)(aoI:aC∉cX.fL)(aun:aD∉cX.fL)(eb:tU)(af2:∀h' cv bJ,gb am s1.aK h' (cX.agj a0) cv→aVQ→AY co bJ=G→∃eD,amk O h' ax eD∧aTB d4 eD.e0)(eE:∀h' tk cI k7 o aaB,gb am s1.aK h' (cX.agj a0) cI→t3 h' cI aqr→aO4 a0→aO4 aD→h'.bg a0=c (ahI k7 o)→Á vs.z→d4 h' cI vs k7.e0→h'.af7 aD aaB→ao (.ok na) {s1 with aK:=h',ce:=tk}),∀(o)(k),(as7 E U am H s1 cX aC a0 aD O ax i vs fun hQ abI anA=>abk (zH (xT aU gD)) (zH (xT ahq gP)) eG co hQ l abI=c (anA,aqr)) o k→amu wo aI (.compLoop (.aff jN [⟨.kM j mQ,gQ,fs,0⟩] x bs) 0 (nP aC) (nP a0) aTv) ao k:=by injections E h gD gP eG;intro l8 a';injections aI U am aL aE x H mp j mQ jN gQ fs bs;injections l aqr i co s1 cX ao vs cl aD a0 aC ax O;intro aN M hc dQ dW h2 h3 axm afT abS agr agq ank apE avN aqJ axK axJ aoI aun eb af2 eE;(have adg:Ã aC:=rb (by rw[uy afT p d];rw[←a,abS]at d;rw[pd d]));(have aus:Ã a0:=rb (by rw[uy afT p d];rw[←a,agr]at d;rw[pd d]));(have ak1:Ã aD:=rb (by rw[uy afT p d];rw[←a,agq]at d;rw[pd d]));have anQ:ma aTv x:=M.go hc aD h2 h3;rw[mY o k V,mX codeAny_compLoop_tests (nM (as7 E _ am H) aC a0 aD O _ i _ fun hQ abI anA=>abk (zH (aU _ _ _ l w)) (zH (ahq _ _ _ l w)) _ _ _ l _=c _) ?_ o V,mZ V k o,mY ad9 k V];induction V with|mk hQ b tk cI abI aaB k7 o abm ai0 anA J hI mO aj7 ahQ cu fo hD br aB aJ b7 av=>(have Ak:∀p,tN aC→hK p=G→¬ka cI aC:=fun p d a=>by rw[oz fo.ix o' a5 z',rl d,nf a5,mZ a5,mY a5,vL];rw[a]at z';rw[yM GR z']);rw[m1 (aC∉cI.fL) (by rw[J.fL,mY t,nt (r.gA.mp t),rd,m9,rd,m8,mW ank t,mW aoI t]),mY aDU];(have aju:a0∈cI.fL:=nb J.fL uA);rw[m1 (∀{b:b8}{p:k_},tN a0→hK p=G→¬ka _ a0) (wc a (a.2 aju)),mY aNs,oS hQ (by rw[m3 Bc av,nu,mY cU av,wH (ş fK.mk.dB av),mZ av];(rw[oc e]);rw[m3 Ac (af2 b _ _ J hI cU),mY eD acG ali];(have aV:eD.c5=i.z:=wy ali.z);rw[m1 (eD[abm.z]?=B) (by rw[fE.aii];rw[aV,aB];simp),mY bj,mX (Ĭ Og b tk aN.fk fo acG bj fun h6 dt=>?_),m1 (∀g p,vd aC→v1→w4 h6.bg) (fun g p h d=>dt g p h d),mY aEv,m2 (UE J abS dt adg.cq (fun p d=>hI.Bd am p e d) (aVk hI.fr.ns)),mY avm,m2 (hI.ark dt Ak mO adg aqJ aDU),mY auw];have jn:j1 b h6 cI cI:=⟨fun g p d hs no=>by rw[nH t g aC,mZ abS ank apE aqJ aoI adg mO fo aDU dt aEv,sA,mW (Ak p d hs no).az,mW ⟨dt g p t d,no⟩],fun P P d=>d⟩;rw[r.afl]at aJ;rw[vQ,mX (sk eE tk o _ avm auw aj7 ahQ (aEv a0 _ ank.cq hD) ?_ (br.AS jn) (cu.az7 dt apE.cq))];rw[aB]at eb;simp at eb;omega) f hQ (by rw[m3 Bc av,nu,mY cU av,m3 Ac (af2 b _ _ J hI cU),mY eD acG ali,m1 (n9 i abm.z f) (aNF aB),mY bj,nD (ali.i3 bj) y aJn ft,m1 (n9 eD abm.z y) (uq fE.ari aJn),mY cV,mX (Ĭ Oh b tk fo acG cV ?_),mY h6 aCD afZ,m2 (EU J abS afZ),mY avm,m2 (hI.GN afZ Ak mO adg aqJ (by rw[oz aCD.ix p d P,mW xc])),mY auw];have aqg:j1 b h6 cI cI:=Ds afZ Ak;have aCM:h6.af7 aD aaB:=cu.sameBut afZ apE.cq;rw[m2 ((afZ.2 a0 ank.cq).ah hD),mY aHE,mX awU (aLQ (aL:=aTv) (anQ.aeM j hc.A) aCM (fun h7 ajE alQ=>?_) (sh anQ.cA))];replace ajE:h7.af7 aD (x9 (ov ab j qv (aaB ab))):=ajE;replace alQ:b8.aaQ aD h6 h7:=alQ;(have agU:∀p,h6.bg aD=c p→hK p=G→¬ka cI aD:=fun p d a=>by rw[m3 B8 aCM,mY o' Aa ep a5 aj _,rl d];cases a5;unfold hK at a;rw[aj]at a;rw[wO a]);have avn:=EU avm agq alQ;have aCa:=auw.GN alQ agU ahQ ak1 axJ (aVk ajE);have aFg:j1 h6 h7 cI cI:=Ds alQ agU;have amT:aei O h7 aC ax (abm.z+1):=aCD.fx fun p d=>(alQ.2 aC apE).ah d;have arm:h7.bg a0=c (ahI k7 o):=(alQ.2 a0 avN).ah aHE;rw[m2 ((ft.AS aqg).AS aFg),mY aKV];have aCW:d4 h7 cI ai0 k7.e0:=(br.AS aqg).AS aFg;have as3:mB aTG aTv am H (l.b6 eG (c f)) h7 cI:=mB.go hc M (axm.bx avn) h2 h3 ak1 ahQ ajE ra aKV;rw[oi,mZ av,mY J,pP aic,o3,rs aic (by rw[oi,nu,mY J];(rw[tQ V]);(rw[wP]);rw[xx,mY J];(rw[aRQ asE acl]);(rintro e9 d);rw[m3 Ai (fK.mk.dB d),mZ eE av d];(rw[oc e]);refine Ĭ a' h7 (tk+1) aN anQ dW aCa as3 ct fun h8 aER aL4 d' asU=>?_;dsimp only[fU];refine Ĭ l8 h8 aER aN anQ dQ asU (as3.bx d') gx fun aMN h9 aES aw6 ez aFK aKO=>?_;have al0:=d'.ah ez;rw[m1 (xL h7.bg aC) (by rw[oz amT.ix p d P,mW xc]),mY aia,o8 aia,mZ aia,mY aD4 aia];have lC:∀g p,aOT→¬g6 cI.bN g→w4 h7.bg→w4 h9.bg:=fun g p acP no d=>aRi al0.fx acP;rw[m2 (lC a0 _ aus aj7 arm),mY aHF,m2 (amT.fx fun p d=>lC aC p adg mO d),mY aIt,m1 (h9.af7 aD (x9 (ov ab j qv (aaB ab)))) (by rw[m3 AD ajE,mY p Aa ep d cy,mW A9 p _ _ (lC aD p ak1 ahQ d) cy]),mY aIG,m2 (aCW.bx al0),mY aIX];(have gp:k7.c5=ai0.z:=wy br.z);refine Ĭ aGu h9 aES aHF (fun kB ap3 aBP=>?_) (by rw[gp,tC Cr];rw[aB]at eb;simp at eb;exact Am [ai0.z,abm.z,hQ.z,du] S eK S ai (ai+pR) eK e b7 eb);have aDY:¬g6 aw6.bN a0:=al0.Cw arm aj7;rw[m2 (al0.Cw aia mO),mY aKx,m1 (¬g6 _ aD) (by rw[mX AD ajE fun p P P d P=>?_,mW al0.Cw d ahQ]),mY aKw,m1 (a0∈aw6.fL) (nb al0.fL aju),mY aHD];have aEt:∀p,h9.bg a0=c p→hK p=G→¬ka aw6 a0:=fun p d a V=>V.2 aHD;rw[m2 (EU (avn.ah al0) agr ap3),mY aJs,m2 (aFK.GN ap3 aEt aDY aus axK (qo aBP)),mY aHI,m1 (oM j1 h9) (Ds ap3 aEt),mY aLU,mX Ad _ (u.aiI _) (ni (p5 q' aES) (abm++[f]) (ai0++[V]) _ aJs aHI aKx aDY aKw (aIG.sameBut ap3 avN.cq) ?_ aBP ?_ (aNF aB) (aNF aJ) (qm (by simp)) e9),r.gR,mW aIt.fx fun p d=>(ap3.2 aC ank).ah d,fE.aLq,mW (qJ aIX.hq (p5 d4 [V]) (Au _ _ e aKO e)).AS aLU]) (by rw[mX (Ĭ a' h7 (tk+1) aN anQ dW aCa as3 ct ?_),mY h8 aER aL4 d' asU];dsimp only[N.aev,abv];rw[m1 (xL h7.bg aC) (by rw[oz amT.ix p d P,mW xc]),mY aia,o8 aia,mZ aia,mY aD4 aia];replace lC:∀g p,aOT→¬g6 cI.bN g→w4 h7.bg→w4 h8.bg:=fun g p acP no d=>aRi d'.fx acP;rw[mX Ad _ (u.aiI _) (ni q' _ (x9 (ov ab j qv (aaB ab))) _ o (abm++[f]) _ _ (avn.ah d') asU (d'.Cw aia mO) (d'.Cw arm aj7) (by obtain⟨p,_,_,d,_⟩:=ajE;exact d'.Cw d ahQ) ?_ ?_ (lC a0 _ aus aj7 arm) (aCW.bx d') (aNF aB) aJ (aP8 (Ag [ai0.z,abm.z] S nN S ai e b7)) av),m3 AD ajE,mY p Aa ep d cy,mW A9 p _ _ (lC aD p ak1 ahQ d) cy,r.gR,mW amT.fx fun p d=>lC aC p adg mO d])])]
def JZ{d}(b:d.eP≠7)(aL)(j):foldedSetIterable d aL j=km j:=by rw[y8 d af.bA.ae (by exact ej e b)]
def MM:∀{E}{h}{gD kF}{gP}{eG}(aeX:pW kF)(l8:pW gD)(a':p_ aga gP){aI}{U}{am}{aL}{aE x}{H}{mp}{j}{mQ}{jN gQ}{fs}{bs aEg}{l}{w bJ}{y}{k}{X}{use}{aW}{bb}(aN:pA)(M:xN)(ag:(aod mp aE j eG x&&(b_ E.K mp aE kF gQ&&(b_ E.K aTG x gD jN&&jj E.K aTG x gP fs)))=G)(afH:gQ.eP≠7)(aC:q3)(cz:aTa)(av:aO0 (aU E.O aWv (.go gD eG kF gP) l w))(t:∀a0 aD h' tk cv aaB,aS0→aVQ→db h' cv y (nP a0)→h'.af7 aD aaB→k.aK.bg aD=B→¬g6 cv.bN aD→Ã aD→aQt aD→compPost wo aI bb use aW (nP a0) aD (.ok na) (yS h')),q5 (aGQ (.aff jN [⟨.kM j mQ,gQ,fs,0⟩] x bs) x aL aEg (hw []) Y (adb gQ aL) use):=by injections E h gD kF gP eG;intro aeX l8 a';injections aI U am aL aE x H mp j mQ jN gQ fs bs;injections aEg l w bJ y k X use aW bb;rw[mY aN M ag afH aC cz av t,qu,mX Bq ag fun bG dQ dW f8=>?_];have hc:=S7 bG;rw[oi,nu,mY J,pP apq,o3,oi,mZ av,mY J,aRQ i co];rintro lA av;rw[xx,nu,mY J,tQ vs];rintro gx d;rw[m3 Ai (fK.mk.dB d),mZ d,oc e,mX AF (S1 x aL fun cO cu b2=>M.hr _ (M.cf _ (hc.ht cO cu b2))) fun cl aV bj cV=>?_,mX wpAny_comprehension_free e (JZ afH aL) aV hc.cA hc.aeM (ws aeX dQ aSH),aPH Dr P4 lA,mZ lA,mZ bW];rintro O ax h1 e eb;rw[mY J,ri Al,ng];rintro aNh aM0;rintro af2;(obtain⟨aJN,avd,_⟩:∃eD,amk O Q ax eD∧d4 Q cX i eD.e0:=by rw[mZ eb,mX (n7 af2 H (iz.Aw bQ.fI) bQ ?_),mZ af2,oS i (by exact(Ct gx).1) f i (by exact(Ct gx).1)]);rw[m3 (qq Oi) avd,mX anB (wpAny_newFunctionEnv hc.asa (by intro ab b0;simp at b0) (fun h4 au4 apg=>?_) hc.cA) aOw];dsimp only at au4 apg⊢;generalize aro:(Q.g' (afN O ax)).g' {eY:=p3 "list",bE:=B,fS:=.ia ([]:vm).mT}=amc at au4 apg⊢;have aqk:aTw=Q.eU.c5+1:=b8.aK1 ..;(have anD:amc.eU.c5=Q.eU.c5+2:=by rw[←aro,b8.aK1,aqk]);(have fr:∀f,Q.eU.c5≤f→Q.bg f=B:=fun f a_=>by induction d:Q.bg f using ap.ae with|B=>rfl|c o'=>exact ej (b8.anc d) (u.aa6.gS a_));(have asj:tc Q.bg (w4 h4.bg):=we (by rw[m2 (b8.anc d),mY jf,rc (apg.2 g (nb anD (u.ahM (u.k0 jf (m7 u.acK))))),mW b8.auo _ (aro▸m7 Bv (tj Bv))]));rw[m1 (h4.bg _=c _) (by rw[rc (apg.2 _ (nb anD (u.ahM (oQ u.aDH)))),mW b8.auo _ (aro▸m7 Bv zx)]),mY aoI];(have aBS:h4.bg aTw=c (ahI #[] 0):=by rw[rc (apg.2 _ (tL anD aqk (u.ahM (u.aiI _)))),mW b8.auo _ (aro▸zx)]);have agr:aSF aTw:=fr _ (yo aqk);have agq:aSF amc.eU.c5:=fr _ (yo anD);have abS:aSF Q.eU.c5:=fr _ yk;(have aat:∀f,Q.bg f=B→U.bg f=B:=fun f d=>by rw[vz a (U.bg f) (by rw[bQ.fr.fx f p a]at d;rw[yM C4 d])]);have avP:∀f,Q.bg f=B→f∉cX.fL:=fun f d=>(bQ.DY d).2;have avU:∀f,Q.bg f=B→¬g6 cX.bN f:=fun f d=>(bQ.DY d).1;(have afT:xL Q.bg am:=aVk bQ.fr.ns);rw[m2 (cT.start aN bQ asj agr (qo aBS)),mY amd];have x4:gb am Q h4 (cX.agj aTw) (cX.agj aTw):=⟨fun g p d P P=>sq asj,we (vK (sq asj)),fun g p a d=>⟨Ţ bQ.Bd,aN6 (by rw[rl (sq asj),yW,zS (Ţ bQ.Bd)])⟩,aPu,e⟩;have B5:aei O h4 Q.eU.c5 ax 0:=Of (o:="") h1 aoI;(have avH:∀aeV:en,aeV={k with aK:=h4,ce:=t1+([]:aOz ck).z}→amu wo aI (.compLoop (.aff jN [⟨.kM j mQ,gQ,fs,0⟩] x bs) 0 (nP Q.eU.c5) (nP aTw) (ajm x cl amc.eU.c5 aL)) (compPost wo aI bb use aW (nP aTw) amc.eU.c5) aeV:=by rw[oc aeV,mX (pj (nI (nI (nI S8 l l s1 aPh) cX cX co co) vs vs aqr dm) i i O O ax ax l8 a' aN M hc dW f8 bj cV ((cz.bx I).fL agr) afT abS agr agq (nb aqk (u.ahM (u.aiI _))) (nb anD (u.ahM (oQ u.aDH))) (tL aqk anD (u.ahM (u.aiI _))) (aat _ abS) (aat _ agr) (aat _ agq) (avP _ abS) (avP _ agq) eb (fun h' cv bJ j j3 st=>?_) (fun h' tk cI k7 o aaB j j3 aj7 ahQ aHu aiq cy cu=>?_) _ _ (q' i h4 _ (cX.agj aTw) a4 _ #[] 0 [] [] vs x4 amd (avU _ abS) (avU _ agr) (avU _ agq) au4 B5 aBS e e e yk gx)),mW (n7 af2 H ((JQ agr).ah j.Aw) j3 st),m2 (UF j),mY xs,m2 (j3.stop (fL:=cX.fL) fun g dL=>nb j.fL (zw dL)),mY aqt,m2 (Nv (iz.Aw j3.fI) fun g dL=>nb j.fL (zw dL)),mY g8,mX (sb oJ (I.ah xs) aqt (n7 Cs o e ⟨aj7,avP _ agr⟩ aHu e e aiq (cy.AS g8)) cu ?_ ahQ ?_ (aat _ agq))];(rw[vz a (k.aK.bg amc.eU.c5) (by rw[m3 Al (I.ix _ p a),mY o' a5,rl agq,pd a5])]);rw[mY a,o8 afT,mY p d];rw[←a,agq]at d;rw[pd d]);rw[m3 codeAny_compStart_list (avH _ e),nY B5 B5,mY J,nV,ng];rintro _ Ab;rw[tp (by rw[nV])];rintro _ Ab;rw[m8,mW wpAny_pyIter_listiter Ab (avH _ e),mW wpAny_pyIter_tupleiter Ab (avH _ e)]
def KM{K}{mp}{aE}{aeO}{d}(ag:q9 aeO d=G)(b:aeO≠wA):d.eP≠7:=by intro t;revert ag;refine af.bA.aMy.az (fW:=ol (b_ K _ _ _ d=G→aks)) d t ?_;intro _ _ _ ag;induction aeO using dz.ae<;>first|exact b e|rw[qT ag]|rw[qT (aT5 ag).1]
def PR:∀{E}{h}{gD kF}{gP}{eG}(aeX:pW kF)(l8:pW gD)(a':p_ aga gP),p8 (.go gD eG kF gP):=by rw[mY E h gD kF gP eG,mY aeX l8 a',mY aI U am aL aE H mp d l w bJ y k X,aN5 F7 Kf];rintro jN j mQ gQ fs x bs e ag;rw[m1 (kF≠wA) (rb (by rw[mZ aeX ag,uf,pv Ay av P b P,mW (aRd b)])),mY cU,m2 (by rw[qu,mW aQa]),mY as1];simp only[eval_ListComp];refine MM (use:=B) aeX l8 a' aN M ag (KM as1 cU) aC cz av fun a0 aD h' tk cv aaB j j3 r' cu gE f2 i2 aet=>?_;rw[mX Ad aaB cu (fun aoL bh=>?_)];(have agU:∀p,h'.bg aD=c p→hK p=G→¬ka cv aD:=fun p d a=>by rw[mX B8 cu fun o' Aa ep a5 aj P=>?_,rl d,nf a5,yR,mY a5,vL];unfold hK at a;rw[aj]at a;rw[wO a]);rw[m1 (aD∉cv.fL) (nb j.fL (aC.DY gE).2),mY anj,mW (p5 t tk (EU j gE bh) (j3.ark bh.az7 agU f2 i2 aet anj) (r'.AS (Ds bh agU)))]
def XM{aL}(b:aL.d_.cA=.abU):aJD aL=Y:=by unfold aJD;rw[b];rfl
structure ah3(E:iJ)(U:b8)(am dC:d8)(bf:b8)(ei:eW)(aL:af.dv)(mp:wU):Prop where
 iM:ma aL aL.d_
 aeM:aL.apw=am
 je:bf.bg am=B
 aeL:xL bf.bg dC
 ar9:¬g6 ei.bN dC
 hr:∀j x,uZ x→bf.bg x=B∧Ã x∧U.bg x=B
 akD:∀j ab x,uZ x→aL.hr.cm ab=c x→j=ab
 dB:∀j ab q,rR mp.cm q→mp.cm ab=c q→j=ab
structure jJ(E:iJ)(U:b8)(am dC:d8)(bf:b8)(ei:eW)(aL:af.dv)(mp:wU)(H:r8)(b:b8)(X:eW)(l:dv)(w:ch):Prop where
 f3:s2
 ok:mB mp aL am H l b X
 eX:gb dC bf b ei X
 gh:∀j x,uZ x→¬g6 X.bN x∧x∉X.fL∧∃y,b.aMo x y
abbrev axc(b:b8)(X:eW):t4 ls al9|na,ac=>ac=na|.ahl,ac=>ac=.ahl|.abl,ac=>ac=.abl|rO,ac=>∃cM,ac=s6 cM∧ì cM
def UD:∀{am dC}{bf b h'}{ei X cv}(j:gb dC bf b ei X)(ac:bf.bg am=B)(aeL:xL bf.bg dC)(ar9:¬g6 ei.bN dC)(ab:aT6 b),gb dC bf h' ei cv:=by rw[mY am dC bf b h' ei X cv,mY j ac aeL ar9 ab];(have ne:tc bf.bg aOT:=fun g p d a=>by rw[a,ac]at d;rw[pd d]);rw[oz j.aey aV A1 gE,oz ab.aey bj BR f2,mX ⟨fun g p d fb no=>ab.fx g p (aRi j.fx fb) Ý (j.Cw d no),fun g p d=>let(aOj a5):=aQn;ab.ix g o' a5,fun g p a d=>⟨(aSR).1,fun o' a5=>?_⟩,(Ad (aV++bj) (by rw[BR,A1,r.abO]) (fun g U=>?_)),ab.fL.ah j.fL⟩,mZ aeL,uf,n4 aQn j8 d6,m2 (ab.fx g _ d6 Ý (j.Cw d ar9)),mY aa,o6 a5,nf aa,mZ aa,mY aa,uM,mW (j.xs g p e d).2 _ d6,nt (Dz.mp U),rd,m9,rd,m8,mW gE g t,vz cG (bf.bg g) (by rw[n4 (j.ix g p cG) j8 d6];rw[f2 g t]at d6;rw[pd d6])]
noncomputable abbrev afd(aL:af.dv)(am:d8):=iz (fun g=>g=am∨∃j,uZ g)
def jJ.Bd:∀{E}{U}{am dC}{bf b}{ei X}{aL}{mp}{H}{l}{w}(bX:u3 H b X l w),∀g p,(g=am∨∃j,uZ g)→v1→aPz:=by rw[mY E U am dC bf b ei X aL mp H l w,mY bX];rintro g p(e|⟨j,J⟩)d;exact bX.f3.Bd g p e d;obtain⟨_,_,y,o',K,aj⟩:=bX.gh j g J;rw[d]at K;rw[nf K,mZ K,mY K];subst K;unfold hK;rw[aj]
def jJ.ER{E}{U}{am dC}{bf b}{ei X}{aL}{mp}{H}{l}{w}(bX:u3 H b X l w):afd aL am b b X X:=iz.fI bX.Bd
def jJ.Aa{E}{U}{am dC}{bf b h'}{ei X cv}{aL}{mp}{H}{l}{w}(bX:u3 H b X l w)(j:aT6 b):afd aL am b h' X cv:=by rw[mX ⟨fun g p d fb no=>j.fx g p d (rb (fb (pp a))) no,j.ix,fun g p a d=>⟨Ţ bX.Bd,fun o' a5=>?_⟩,j.aey,j.fL⟩,nH t g am,mW (j.xs g p t d).2 _ a5];refine aQ.az a ?_ ?_<;>clear a;rw[wC,tp (by rw[ri Al])];rintro ab b0;rw[m8,mW (t' t a)];have:=j.fx g p d t (bX.gh ab g b0).1;rw[o6 a5,yR];cases aa;exact bX.Bd g p (.bF ⟨ab,b0⟩) d
def Np:∀{E}{U}{am dC}{bf b h'}{ei X}{aL}{mp}{H}{l}{w}{aj}(bX:u3 H b X l w)(bh:aS5)(hd:aj=am∨∃j,uZ aj)(aal:∃p,h'.bg aj=c p∧aPz),afd aL am b h' X X:=by rw[mY E U am dC bf b h' ei X aL mp H l w,mY aj,mY bX bh hd aal,m1 (∀g,¬(g=am∨∃j,uZ g)→vd aj) (fun g h a=>h (a▸hd)),mY ne,m3 Ac aal,mZ aal];rintro acQ az1 aL1;rw[mX ⟨fun g p d fb no=>(tH g (ne g fb)).ah d,fun g p d=>?_,fun g p a d=>⟨Ţ bX.Bd,fun o' a5=>?_⟩,aPu,e⟩,aVw,mZ bh hd ne,sA,mW ⟨acQ,az1⟩,mW (vK ((tH g t).ah d)),aVw,mZ bh hd ne,sA,rl az1,nf a5,yR,mY a5,vL,mW aL1];rw[tH g t,d]at a5;rw[yW,zS (Ţ bX.Bd)]
def jJ.iU{E}{U}{am dC}{bf b h'}{ei X cv}{aL}{mp}{H}{l}{w bJ}(bX:u3 H b X l w)(cJ:aUQ)(j:aT6 b)(aC:aVQ):u3 H h' cv l bJ:=by refine⟨aC,bX.ok.bx j,UD bX.eX cJ.je cJ.aeL cJ.ar9 j,fun ab x d=>?_⟩;obtain⟨f,g,y,p,K,aj⟩:=aO1 bX.gh;exact(AE (j.Cw K f) (nb j.fL g) (AI y p (j.fx x p K (nj (aO1 cJ.hr)) f) aj))
def GQ:∀{E}{U}{am dC}{bf}{ei X}{aL}{mp}{H}{l}{w}{ag}{aI}{bb}{k}{q}{id}{hJ}{y}{aW}(cJ:aUQ)(bX:u3 H k.aK X l w)(Ab:yi mp.cm q)(aG:yi aL.h_ yZ∨yi aL.h_ .gh)(ft:Ŝ hJ y)(t:∀h' tk m',u3 m' h' X (Ż (c hJ)) w→afd aL am k.aK h' X X→zu ()),v3 (aEJ aL id y):=by injections E U am dC bf ei X aL mp H l w ag aI;injections bb k q id hJ y aW;intro cJ bX Ab aG ft t;have fn:=cJ.iM.cA;rw[nY aG aG];rintro aG;rw[m9];rintro aG;rw[m8,m1 (k.aK.af7 aL.apw H) (nb cJ.aeM bX.f3.fr.ns),mY cu,mX aLQ aG cu (fun h' ao7 bh=>?_) (sh fn)];rw[cJ.aeM]at ao7 bh;rw[m1 (∀p,aUB am→hK p=G→¬ka X am) (fun p d a=>by rw[bX.f3.Bd am p e d]at a;rw[wO a]),mY aEu];have jn:j1 k.aK h' X X:=Ds bh aEu;rw[m1 (∃p,h'.bg am=c p∧aPz) (by rw[m3 B8 ao7,mY p Aa ep d aj _,mW ⟨p,d,ĺ hK aj⟩]),mY aal,oz aal ano aes aL0];have j3:cT E U am (nF (ov j id qv (H j))) h' X w:=⟨bX.f3.fr.b6 ao7 bh,bX.f3.hC.E9 jn e fun g p V d=>(tH g (aUy bX.f3.hP)).ah d,bX.f3.hP,fun g V=>⟨(bX.f3.lx g V).1,by rw[nH a g am,mZ cJ bX t ao7 bh aEu aal,uf,mW ⟨ano,aes⟩,m3 Al (aUy bX.f3.lx),mY p d,mW (vK ((tH g a).ah d))]⟩⟩;rw[mX t h' _ _ ⟨j3,fun ab aq f b0 aiB br=>?_,EU bX.eX cJ.je bh,fun ab x d=>?_⟩ (Np bX bh qN (Ad ano aes aL0)),nH a ab id,mZ ao7 j3,uf];rw[Ab]at b0;rw[aRh b0 b0 b0 b0,m2 (wy (aOC br)),mY jf];rw[r.akX jf]at br;simp only[ap.c.fV]at br;subst br;rw[mW Ad y (zj aG (zj cJ.aeM ra)) (ft.AS jn),m1 (sU aq) (fun V=>a (cJ.dB ab _ aq b0 (V▸Ab))),mY aip];rw[r.agx aip]at br;rw[nD (bX.ok ab aq f b0 aiB br) aP i aeU,mX Ad aP ?_ (aeU.AS jn),nY i i,aO2 V i,m9,mY J];rcases J with(⟨V,x,p,aV,bj,cV,gp,ky⟩);rw[m8,nY i i,mY J,nV,ng];rintro jm adD;rw[m9,mY J,nV,ng];rintro jm _;rw[m8,mW (zj V (zj jm (y9 a adD))),mW (t' jm cJ.aeM),mW .bF (qd V (BU x p aV bj cV ((tH x bj).ah gp) ky))];obtain⟨f,g,V,p,K,aj⟩:=aO1 bX.gh;rw[mW AE f g (AI V p ((tH x (nj (aO1 cJ.hr))).ah K) aj),m3 Al (cJ.iM.hr _ (pp aG)),mY x hc];obtain⟨aZ,aKr,ae3,aln⟩:=bX.gh id x hc;rw[rf (cJ.hr id x hc) gE f2 i2,mX wpAny_storeName_cell fn aG hc aln ?_,mY h' agD bh];(have agU:∀p,aUB x→hK p=G→¬ka X x:=fun p d a=>by rw[p4 aln,mY o' a5 aj,rl d,nf a5,yR,mY a5,vL];unfold hK at a;rw[aj]at a;rw[wO a]);replace jn:j1 k.aK h' X X:=Ds bh agU;rw[p4 agD,mY j8 aV i0,m2 (bX.f3.GN bh agU aZ f2 i2 ⟨j8,aV⟩),mY j3,mX t h' k.ce H ⟨j3,fun ab aq f b0 aiB br=>?_,EU bX.eX gE bh,fun ab c' d=>?_⟩ (Np bX bh (.bF ⟨id,hc⟩) (Ad j8 aV (ĺ hK i0))),nH a ab id,uf];rw[Ab]at b0;rw[aRh b0 b0 b0 b0,m2 (wy (aOC br)),mY jf];rw[r.akX jf]at br;simp only[ap.c.fV]at br;subst br;rw[mW Ad y (.bF (qd (pp aG) (BU x _ hc f2 aZ aV i0))) (ft.AS jn),m1 (sU aq) (fun V=>a (cJ.dB ab _ aq b0 (V▸Ab))),mY aip];rw[r.agx aip]at br;rw[m3 Ac (bX.ok ab aq f b0 aiB br),mY aP i aeU,mX Ad aP ?_ (aeU.AS jn),nY i i,mY J,nV,ng];rintro V i;rw[m9,mY J];rcases J with(⟨V,c',p,A1,BR,Cp,CW,Dt⟩);rw[m8,nY i i];rintro i;rw[m9,mY J,nV,ng];rintro jm _;rw[m8,mW (zj V (pp i)),mW (t' jm cJ.aeM),m1 (c'≠x) (fun V=>a (cJ.akD ab _ _ A1 (V▸hc))),mY ne,mW .bF (qd V (BU _ p A1 BR Cp ((tH _ ne).ah CW) Dt))];obtain⟨f,g,V,p,K,aj⟩:=bX.gh ab c' d;rw[nH a c' x,mZ hc aZ aKr aln gE f2 i2 agD bh agU,uf,mW AE f g (nM AI aV i0),mW AE f g (AI V p ((tH _ a).ah K) aj)]
abbrev anX(E:iJ)(U:b8)(am dC:d8)(bf:b8)(ei:eW)(aL:af.dv)(mp:wU)(k:en)(X:eW)(aW:t7 al9)(r':dv)(bJ:ch)(fl:ls):Prop:=∀cf h' tk cv m',u3 m' h' cv r' bJ→afd aL am k.aK h' X cv→axc h' cv fl cf→aW cf (yS h')
def anX.to{E}{U}{am dC}{bf}{ei}{aL}{mp}{k}{X}{aW}{l r'}{w bJ}{ac fl}(t:aOd anX k X aW r' bJ fl)(d:(ua ac w:lV)=c (fl,r',bJ)):aOd anX k X aW l w ac:=by rw[nf d,oA,mY d,uT d,oA,mY d L,oT,uT L,mZ L,mY L L,qD,qD,mW t]
abbrev mf(E:iJ)(h:u)(cj:md):Prop:=∀{aI:lT}{U:b8}{am dC:d8}{bf:b8}{ei:eW}{aL:af.dv}{H:r8}{mp:wU}{st:af.ee}{l r':dv}{w bJ:ch}{fl:ls}{k:en}{X:eW}{aW:t7 al9}{bb:ux},pA→aUQ→aby E.K mp aL.d_ cj st=G→u3 H k.aK X l w→xT dP cj=c (fl,r',bJ)→aOd anX k X aW r' bJ fl→q5 (exec st aL)
abbrev adK(E:iJ)(h:u)(cj:cx):Prop:=∀{aI:lT}{U:b8}{am dC:d8}{bf:b8}{ei:eW}{aL:af.dv}{H:r8}{mp:wU}{st:r af.ee}{l r':dv}{w bJ:ch}{fl:ls}{k:en}{X:eW}{aW:t7 al9}{bb:ux},pA→aUQ→acO E.K mp aL.d_ cj st=G→u3 H k.aK X l w→xT b4 cj=c (fl,r',bJ)→aOd anX k X aW r' bJ fl→q5 (execs st aL)
def D8{f j}{g ab}{x a}(b:(c (f,g,x):lV)=c (j,ab,a)):f=j∧g=ab∧x=a:=by rw[nf b,om,mY b,uT b,om,mY b L,pq,uT L,mZ L,mY L L,qD,qD,mW AE e e e]
def S9{p}{o}{V}(b:aqZ p o=c V):(∃bW a4,p=c (na,bW,a4)∧o bW a4=c V)∨(p=c V∧V.1≠na):=ū p (by rw[xG]) n (by obtain⟨fl,l,w⟩:=n;induction fl using ls.ae with|bU=>exact .bT (AI l w e b)|_=>exact .bF ⟨b,ol (by rw[p2 b,pi,yc])⟩)
def ND{p}{o}{V}(b:afw p o=c V):(∃ac bW a4,(ac=na∨ac=.abl)∧p=c (ac,bW,a4)∧o bW a4=c V)∨(p=c (.ahl,V.2)∧V.1=na)∨∃y,p=c (rO,V.2)∧V.1=rO:=ū p (by rw[xG]) n (by obtain⟨fl,l,w⟩:=n;induction fl using ls.ae with|bU=>exact .bT (CA _ l w qN e b)|abl=>exact .bT (CA _ l w yp e b)|ahl=>rw[p2 b,pi,mW (rt (pp zm))]|bu y=>rw[p2 b,pi,mW (vM (Ad y e e))])
def AdB:∀{E}{h},p_ adK .C:=by rw[mY E h aI U am dC bf ei aL H mp st l r',mY w bJ,mY fl k X aW bb aN cJ bG bX av t];induction st using r.ae with|s _ _=>rw[sQ bG]|C=>rw[m2 (t.to av),p1,mY t,mW aFb (oJ _ bX bX.ER e)]
def Adz:∀{E}{h}{f}{g}(sa:p_ mf f)(bh:aQ5),adK E h (sH .s):=by rw[mY E h f g,mY sa bh,mY aI U am dC bf ei aL H mp st l r' w bJ,mY fl k X aW bb aN cJ bG bX av t,oS st (by rw[sQ bG]) j xs (by have ag:(aby E.K mp aL.d_ f j&&acO E.K mp aL.d_ g xs)=G:=bG;rw[qu,nt (S9 av),mY J,ri AR,ng];rintro bW a4 ct av;rw[m9,mY J,nV,ng];rintro av aJq;rw[m8,mX aLK (sa aN cJ rX bX ct fun cf Q t1 cX cC e3 I gE=>?_)];subst gE;rw[mW (qq bh aN cJ x' e3 av fun cf h2 d2 g5 c4 f9 L f2=>oJ _ f9 wu f2),mX aLK (sa aN cJ rX bX av fun cf Q t1 cX cC e3 I gE=>?_),mZ av,nu];have cW:=t cf Q t1 cX cC e3 I gE;rw[p1];induction fl using ls.ae with|bU=>exact t' aJq e|ahl=>subst gE;exact cW|abl=>subst gE;exact cW|bu y=>rw[p4 gE,mZ gE];rintro cM e _;exact cW)]
def Fq:∀{mp}{aE}{q}{v}(ag:aeJ mp aE q v=G),∃id n,v=aNO id∧yi mp.cm q∧(yi aE.bw.cm yZ∨yi aE.bw.cm .gh):=by rw[mY mp aE q v,mY ag,pw AR Hn,oK];rintro _ _ e aku;simp only[N.c3,N.acR,lb]at aku;exact(Au _ _ e aku.1 aku.2)
def Adh:∀{E}{h}{f}(sa:qB),wR (.f_ f):=by rw[mY E h f,mY sa,mY aI U am dC bf ei aL H mp st l r' w bJ,mY fl k X aW bb aN cJ bG bX av t,o_ AR VC,mZ bG];rintro y z1 e ag;rw[qu,oi,mY J,pP aP,o3,m2 (t.to av),p1,mY t,mX wpAny_Expr_any (sa aN cJ.iM x' bX.f3 bX.ok ct fun cM Q t1 cX I bQ bW=>oJ H aTK aUE e) (XM cJ.iM.cA) ?_,y8 y af.bA.ae (by rw[qT rX])]
def Ac7:∀{E}{h}{q}{f}(sa:qB),wR (.ci q f):=by rw[mY E h q f,mY sa,mY aI U am dC bf ei aL H mp st l r' w bJ,mY fl k X aW bb aN cJ bG bX av t,o_ AD Vx,mZ bG];rintro v y z1 e ag;rw[qu,ze Fq rX];rintro id n e Ab aG;rw[oi,nu,mY J,pP aP,o3,m2 (t.to av),p1,mY t,m3 aLC (sa aN cJ.iM (nW ag) bX.f3 bX.ok ct aSH),m2 aTK,mY e3,mW (qq GQ cJ e3 Ab aG bW fun h2 d2 c4 f9 L=>oJ _ f9 ((aUE).ah L) e),y8 y af.bA.ae (by rw[qT aQa])]
def Ads:∀{E}{h}{f}(sa:qB),wR (s6 f):=by rw[mY E h f,mY sa,mY aI U am dC bf ei aL H mp st l r' w bJ,mY fl k X aW bb aN cJ bG bX av t,o_ AR TQ];rintro p a e ag;rw[oK,oi,nu,mY J,pP aP,o3];replace t:=t.to av;induction p using ap.ae with|c y=>exact wpAny_Return_some (sa aN cJ.iM bG bX.f3 bX.ok ct fun cM Q t1 cX I bQ bW=>oJ H aTK aUE (ql e bW))|B=>clear sa;induction f using dz.ae with|B=>rw[wH (ş fK.mk.dB ct),mZ ct av];(rw[oc e]);exact wpAny_Return_none (oJ H bX bX.ER (ql e e))|_=>rw[qT bG]
def Ade{E}{h}:p_ mf .abl:=fun{aI U am dC bf ei aL H mp st l r' w bJ fl k X aW bb}aN cJ bG bX av t=>by rw[o_ Al Vz,mZ bG,oc z1,m2 (t.to av),p1,mY t,mW wpAny_Continue (oJ _ bX bX.ER e)]
def Adq:∀{E}{h},p_ mf .alJ:=by rw[mY E h aI U am dC bf ei aL H mp st l r',mY w bJ,mY fl k X aW bb aN cJ bG bX av t,o_ Al VG,mZ bG,oc z1,m2 (t.to av),p1,mY t,mW wpAny_Pass (oJ _ bX bX.ER e)]
def Adw{E}{h}:p_ mf wA:=fun{aI U am dC bf ei aL H mp st l r' w bJ fl k X aW bb}aN cJ bG bX av t=>m4 (aRd av)
def AdA:∀{E}{h}{x}{f g}(l9:p_ mh x)(sa:p_ adK f)(bh:aQ5),wR aOa:=by rw[mY E h x f g,mY l9 sa bh,mY aI U am dC bf ei aL H mp st l r' w bJ,mY fl k X aW bb aN cJ bG bX av t,o_ AA VF,mZ bG];rintro v j ab z1 e ag;rw[qu,oi,mY J,pP y,o3,pv Ay av bZ gx av,rs bZ (by exact wpAny_If (l9 aN cJ.iM rX bX.f3 bX.ok ct gx (aWn (qq sa aN cJ aQa aTK av fun cf h2 d2 g5 c4 f9 L f2=>oJ _ f9 ((aUE).ah L) f2)))) (by exact wpAny_If (l9 aN cJ.iM rX bX.f3 bX.ok ct gx (aWn (qq bh aN cJ (nW ag) aTK av fun cf h2 d2 g5 c4 f9 L f2=>oJ _ f9 ((aUE).ah L) f2))))]
inductive axn(E:iJ)(U:b8)(am dC:d8)(bf:b8)(ei:eW)(aL:af.dv)(mp:wU)(k:en)(X:eW)(ao:u→dv→ch→Prop)(o:u):en→Prop|mk(b:b8)(tk:u)(cI:eW)(H:r8)(l:dv)(w:ch)(bX:u3 H b cI l w)(j:afd aL am k.aK b X cI)(y:ao o l w):aOd axn k X ao o (yS b)
def Ady:∀{E}{h}{x}{g}(l9:p_ mh x)(bh:aQ5),wR (.ag2 x g):=by injections E h x g;intro l9 bh;injections aI U am dC bf ei aL H mp st l r' w bJ;rw[mY fl k X aW bb aN cJ bG bX av t,aQ7 AD VK (by rintro v j z1 e ag),mX wpAny_While (codeAny_whileLoop (ni (axn E _ am _) k _ fun o bW a4=>ae8 _ (zH (b4 _ _ g l w)) o bW a4=c _) ?_ _ (n7 q' H l w bX bX.ER av)),nu,mY o s' V];induction V with|mk b tk cv m' bW a4 e3 I ct=>rw[uL o (by rw[sQ ct]) o (by rw[m3 Ay ct,mZ ct,mY J,tQ c6];rintro an0 ct;rw[m3 Ay an0,mZ an0,mY J,aRQ y amc];rintro gx an0;rw[pv AU an0 dn e9 d,mZ an0,m3 Ai (fK.mk.dB d),oA,oc e,u9 dn (by rw[m2 (t.to ct),p1,mY t,mW (aU2 (wm l9 b tk) rX e3.ok gx e9 fun h2 d2 g5 L c7=>aFb (oJ _ (e3.iU cJ L c7) (I.ah (e3.Aa L)) e))]) (by rw[mX (aU2 (wm l9 b tk) rX e3.ok gx e9 ?_),mY h2 d2 g5 L c7];have f9:=e3.iU cJ L c7;replace L:=I.ah (e3.Aa L);rcases ND ct with⟨ac,k4,acl,b2,gy,ct⟩|⟨gy,d⟩|⟨eN,gy,d⟩;rw[mX (wf bh aN cJ x' f9 gy fun cf h3 j9 abG afR k' Z i2=>?_),mZ gy];(rw[aRF b2 b2])<;>subst i2<;>exact(Ad o (u.aiI _) (ni q' _ _ k' (L.ah Z) ct));rw[mZ ct,rP fl na d,m3 (wf bh aN cJ x' f9) gy,mY cf h3 j9 abG afR k' Z i2];subst i2;rw[mW (oJ _ k' (L.ah Z) e),mZ ct,rP fl (s6 eN) d,m3 (wf bh aN cJ x' f9) gy,mY cf h3 j9 abG afR k' Z i2,p4 i2,mZ i2];rintro cM e ft;exact oJ _ k' (L.ah Z) (ql e ft))])]
def JS{cL}{Q b h'}{cX cI}{aj}(j:iz cL Q b cX cI)(ac:aSF aj)(bh:aS5):iz cL Q h' cX cI:=by(have ne:tc Q.bg (vd aj):=fun g p d a=>by rw[a,ac]at d;rw[pd d]);exact⟨fun g p d fb no=>(tH g Ý).ah (aRi j.fx fb),fun g p d=>let(aOj a5):=aQn;aOj ((tH g Ý).ah a5),fun g p a d=>⟨(aSR).1,aN6 ((aSR).2 _ (uq (tH g Ý) a5))⟩,j.aey,j.fL⟩
def JR{cL}{Q b h'}{cX cI}{aj}(j:iz cL Q b cX cI)(ac:aSF aj)(bh:b8.al8 aj b h'):iz cL Q h' cX cI:=by(have ne:tc Q.bg (vd aj):=fun g p d a=>by rw[a,ac]at d;rw[pd d]);exact⟨fun g p d fb no=>bh g p Ý (aRi j.fx fb),fun g p d=>let(aOj a5):=aQn;aOj (bh g _ Ý a5),fun g p a d=>⟨(aSR).1,aN6 (by rw[n4 aQn k2 bj,rl (bh g k2 Ý bj),yW,zS ((aSR).2 _ bj)])⟩,j.aey,j.fL⟩
structure axi(E:iJ)(aI:lT)(U:b8)(am:d8)(Q:b8)(cX:eW)(aC:d8)(i:nC)(co:ap (u×nC))(W:t4 b8 u):Prop where
 fx:∀b h' aq,W b aq→(∀p,tN aC→h'.bg aC=c p)→W h' aq
 ix:∀b aq,W b aq→∃p,tN aC∧aPz
 aT:∀{k:en}{cI:eW}{abI:ch}{H:r8}{aq:u}{f:ar}{bb:ux}{aW:t7 (ap ck)},j1 Q k.aK cX cI→t3 k.aK cI abI→AY co abI=G→W k.aK aq→p7 i f→(∀y h' tk,db k.aK cI f y→W h' xk→b8.aaQ aC k.aK h'→aW qv (yS h'))→q5 (av7 (nP aC))
 cW:∀{k:en}{cI:eW}{abI:ch}{H:r8}{bb:ux}{aW:t7 (ap ck)},j1 Q k.aK cX cI→t3 k.aK cI abI→AY co abI=G→W k.aK i.z→(∀h',b8.al8 aC k.aK h'→aW B (aU9 h'))→q5 (av7 (nP aC))
inductive aqy(E:iJ)(U:b8)(am dC:d8)(bf:b8)(ei:eW)(aL:af.dv)(mp:wU)(k:en)(X:eW)(aC:d8)(W:t4 b8 u)(i:nC)(ao:nC→dv→ch→Prop):t7 u|mk(hQ abm:nC)(b:b8)(tk:u)(cI:eW)(H:r8)(l:dv)(w:ch)(bX:u3 H b cI l w)(j:afd aL am k.aK b X cI)(p:aO4 aC)(n:W b abm.z)(d:i=abm++hQ)(y:ao hQ l w):aOd aqy k X aC W i ao hQ.z (yS b)
def NG:∀{E}{h}{g}{q}(bh:aQ5){aI}{U}{am dC}{bf}{ei}{aL}{mp}{id}{n}{bD}{r'}{bJ}{fl}{s1}{cX}{ao}{i}{co}{aC}{W}(aN:pA)(cJ:aUQ)(Ab:yi mp.cm q)(aG:yi aL.d_.bw.cm yZ∨yi aL.d_.bw.cm .gh)(ag:acO E.K mp aL.d_ g bD=G)(gQ:axi E aI U am s1.aK cX aC i co W)(abS:s1.aK.bg aC=B)(axA:xL s1.aK.bg am)(axz:∀j x,uZ x→xL s1.aK.bg x)(kA:bf.bg aC=B)(ajr:aQt aC)(auh:aC∉cX.fL)(t:∀cf h' tk cv m',u3 m' h' cv r' bJ→afd aL am s1.aK h' cX cv→axc h' cv fl cf→ao (.ok cf) {s1 with aK:=h',ce:=tk}),∀(o)(k),(aOd aqy s1 cX aC W i fun hQ l w=>fZ (zH (xT b4 g)) q co hQ l w=c (fl,r',bJ)) o k→amu wo aI (.forLoop (aNO id) (nP aC) bD [] aL) ao k:=by injections E h g q;intro bh;injections aI U am dC bf ei aL mp id n bD r' bJ;intro fl s1 cX ao i co aC W aN cJ Ab aG ag gQ abS axA axz kA ajr auh t;(have adg:Ã aC:=rb (by rw[uy axA p d];rw[←a,abS]at d;rw[pd d]));(have agy:∀j x,uZ x→x≠aC:=fun j x d a=>by rw[n4 (axz j x d) p a5];rw[a,abS]at a5;rw[pd a5]);rw[mY o k V,mX codeAny_forLoop (nM (ni (aqy E _ am _)) aC W i fun hQ l w=>fZ (zH (b4 _ _ g l w)) q _ _ l w=c _) ?_ o V,mZ V k o,mY o s' V];induction V with|mk hQ abm b tk cI H l w bX xs mO ew aB av=>(have Ak:∀p,tN aC→hK p=G→¬ka cI aC:=fun p d a=>by rw[m3 Ac (nv gQ.ix ew),mY o' a5 z',rl d,nf a5,mZ a5,mY a5,vL];rw[a]at z';rw[yM GR z']);rw[m1 (aC∉cI.fL) (nb xs.fL auh),mY acP,oS hQ (by rw[m3 Bc av,nu,mY cU av,m3 AC (D8 av),nu];(rintro e e e);rw[r.afl]at aB;refine Ĭ gQ.cW b tk xs.Aw bX.f3 cU (nb aB ew) fun h6 dt=>?_;have jn:j1 b h6 cI cI:=⟨fun g p d hs no=>by rw[nH t g aC,mZ gQ abS kA ajr auh adg agy mO acP dt,sA,mW (Ak p d hs no).az,mW ⟨dt g p t d,no⟩],fun P P d=>d⟩;rw[m1 (nM (jJ E _ am _) aL mp H _ _ l w) (by rw[mX ⟨bX.f3.ark dt Ak mO adg ajr acP,fun ab aq f b0 aiB br=>?_,JR bX.eX kA dt,fun ab x d=>?_⟩,nD (bX.ok ab aq f b0 aiB br) aP cc aeU,mX Ad aP ?_ (aeU.AS jn),nY cc cc,mY J,nV,ng];rintro V cc;rw[m9,mY J];rcases J with(⟨V,x,p,aV,bj,cV,gp,ky⟩);rw[m8,nY cc cc];rintro cc;rw[m9,mY J,nV,ng];rintro jm _;rw[m8,mW (zj V (pp cc)),mW (t' jm cJ.aeM),mW .bF (qd V (BU x p aV bj cV (dt x p (agy ab x aV) gp) ky))];obtain⟨f,bZ,V,p,K,aj⟩:=aO1 bX.gh;exact(AE f bZ (AI V p (dt x p (aO1 agy) K) aj))),mY as8,mW aFb (p5 t tk H as8 (JR xs abS dt) e)]) f hQ (by rw[m3 Bc av,nu,mY cU av,m1 (n9 i abm.z f) (aNF aB),mY bj,m3 (Ĭ gQ.aT b tk xs.Aw bX.f3 cU ew) bj,mY y h6 aLh ft as5 afZ];have aqg:j1 b h6 cI cI:=Ds afZ Ak;rw[m1 (jJ E _ am _ _ _ aL mp H _ _ l w) (by rw[mX ⟨bX.f3.GN afZ Ak mO adg ajr (by rw[nD (nv gQ.ix as5) p d P,mW xc]),fun ab aq f b0 aiB br=>?_,JS bX.eX kA afZ,fun ab x d=>?_⟩,m3 Ac (bX.ok ab aq f b0 aiB br),mY aP cc aeU,mX Ad aP ?_ (aeU.AS aqg),nY cc cc,mY J,nV,ng];rintro V cc;rw[m9,mY J];rcases J with(⟨V,x,p,aV,bj,cV,gp,ky⟩);rw[m8,nY cc cc];rintro cc;rw[m9,mY J,nV,ng];rintro jm _;rw[m8,mW (zj V (pp cc)),mW (t' jm cJ.aeM),mW .bF (qd V (BU x p aV bj cV ((afZ.2 x (agy ab x aV)).ah gp) ky))];obtain⟨f,bZ,V,p,K,aj⟩:=aO1 bX.gh;exact(AE f bZ (AI V p ((afZ.2 x (aO1 agy)).ah K) aj))),mY as8,mX awU (Ĭ GQ h6 aLh cJ as8 Ab aG (ft.AS aqg) fun h7 awE aNd as9 cZ=>?_),m1 (xL h6.bg aC) (by rw[nD (nv gQ.ix as5) p d P,mW xc]),mY aqF];have apF:¬(aC=am∨∃j,uZ aC):=rb (a.az adg fun⟨j,J⟩=>agy j aC J e);rw[m2 (gQ.fx _ _ _ as5 fun p d=>cZ.fx aC p d apF mO),mY aF8,o8 aqF,mZ aqF,mY aD4 aqF,m2 mO,mY aNg,m2 (cZ.fx aC _ aqF apF mO),mY aGp];have awY:afd aL am s1.aK h7 cX cI:=(JS xs abS afZ).ah cZ;(have afS:∀{k4:dv}{acl:ch},fZ (zH (xT b4 g)) q co hQ k4 acl=c (fl,r',bJ)→∀{h3:b8}{j9:u}{abG:eW}{afR:r8},u3 afR h3 abG k4 acl→afd aL am h7 h3 cI abG→∃o,o<(f::hQ).z∧(aOd aqy s1 cX aC W i fun hQ l w=>fZ (zH (xT b4 g)) q co hQ l w=c (fl,r',bJ)) o {s1 with aK:=h3,ce:=j9}:=by rw[mY k4 acl e9 h3 j9 abG afR k' Z,mX Ad _ (u.aiI _) (ni (sk q' (abm++[f])) k' (awY.ah Z) (Z.Cw aGp mO) ?_ (aNF aB) e9),r.gR,mW gQ.fx _ _ _ aF8 fun p d=>Z.fx aC p d apF mO]);rcases ND av with⟨ac,k4,acl,b2,gy,av⟩|⟨gy,d⟩|⟨eN,gy,d⟩;rw[m3 (Ĭ bh h7 awE aN cJ ag as9) gy,mY cf h3 j9 abG afR k' Z i2,mZ gy];(rw[aRF b2 b2])<;>subst i2<;>exact afS av k' Z;rw[mZ av afS,rP fl na d,m3 (Ĭ bh h7 awE aN cJ ag as9) gy,mY cf h3 j9 abG afR k' Z i2];subst i2;rw[mW (oJ _ k' (awY.ah Z) e),mZ av afS,rP fl (s6 eN) d,m3 (Ĭ bh h7 awE aN cJ ag as9) gy,mY cf h3 j9 abG afR k' Z i2,p4 i2,mZ i2];rintro cM e aKU;exact oJ _ k' (awY.ah Z) (ql e aKU))]
def Adi:∀{E}{h}{q}{f}{g}(sa:qB)(bh:aQ5),wR (.jd q f g):=by injections E h q f g;intro sa bh;injections aI U am dC bf ei aL H mp st l r' w bJ;rw[mY fl k X aW bb aN cJ bG bX av t,o_ AA VE,mZ bG];rintro v gQ j z1 e ag;rw[qu,ze Fq rX];rintro id n e Ab aG;rw[oi,nu,mY J,pP y,o3,oi,nu,mY J,aRQ i co];rintro lA av;rw[m1 (f≠wA) (rb (by rw[mZ sa ag,uf,mW (aRd ct)])),mY cU,mX aLE (sa aN cJ.iM aQa bX.f3 bX.ok ct aSH) (JZ (KM aQa cU) aL)];have e3:=bX.iU cJ I bQ;rw[aPH Dr P4 lA,mZ lA,mZ bW];rintro O ax h1 e eb _ af2;rw[mZ eb,m1 (AY co a4=G) (by rw[mZ af2,oS i (by exact(Ct av).1) f i (by exact(Ct av).1)]),mY ave,nD (af2 Q cX a4 H (iz.Aw bQ.fI) bQ ave) aJN avd P,m3 (qq Oi) avd];have hM:tc Q.bg ((Q.g' (afN O ax)).bg g=c p):=Bv;have L:=bQ.B0 hM;rw[m2 (e3.iU cJ L (bQ.g0 hM)),mY f9];have hP:=bQ.Dy;(have aat:aQt Q.eU.c5:=by rw[vz a (U.bg Q.eU.c5) (by rw[m2 (bQ.fr.fx _ p a),m5,o6 B9,pd aa])]);rw[m1 (bf.bg _=B) (by rw[vz a (bf.bg Q.eU.c5) (by rw[n4 (e3.eX.ix _ p a) o' a5,rl B9,pd a5])]),mY aoM,mX (pj (nI (nI (nI NG s1 aPh cX cX) aC Q.eU.c5 i i) co co W (fun b aq=>aei O b _ _ aq)) r' r' bJ bJ fl fl bh aN cJ Ab aG (nW ag) ⟨fun b h' aq a o=>a.fx o,fun b aq a=>a.ix,?_,?_⟩ B9 (aVk bQ.fr.ns) (fun j x d=>by obtain⟨_,_,V,p,K,_⟩:=e3.gh j x d;exact vK K) aoM aat hP.2 (fun cf h' tk cv m' anY g4 add=>oJ _ anY ((aUE).ah g4) add) _ _ (q' i [] (Q.g' _) t1 _ H l _ f9 (e3.Aa L) hP.1 (Of (o:="") h1 zx) e av)),mY s' cI abI m' aq dE aFC anV jn j3 asx cQ a_ awa,nD (af2 s'.aK cI abI m' jn j3 asx) eD acG ali,nD (ali.i3 a_) aP cK aeU,mW Oh cQ acG (uq fE.ari cK) fun h' f g=>awa aP _ _ aeU f g,mY s' cI abI m' aFC anV jn j3 asx cQ awa,m3 Ac (ni af2 jn j3 asx),mY eD acG ali,mX Og aN.fk cQ acG ?_ awa,m2 ali.z,m5,fE.aii,o6 fE.ana,mW Ag [eD.c5,i.z] S ai S ai e (Az aa)]
def Pv{K}{mp}{aE}{aL}{bs}:∀{Aa}{i},jj K mp aE Aa i=G→(act bs (aec i aL)).dS (·.1)=Y|.C,i,ag=>aUx Dw ag|u6,i,ag=>by rw[pw BV CB,oK];rintro j xs e hs dQ dW;rw[BT hs,m6 ((Y||(m7 act).dS (·.1))=Y),Pv dW];rfl
def PE{f x}:∀{h aq},aq<h→nX (k5 f x h) aq (pe (f+aq*x))∧abh|0,_,b=>n_|nB,0,_=>y9 GH GI|nB,xk,b=>by refine⟨?_,jC⟩;simp only[GH,GI,r.agv];rw[(rJ (PE (f:=f+x))).1];congr 2;simp only[R.aDT,R.ati];omega
def K2{f x}:∀h,(k5 f x h).z=h|0=>e|nB=>by simp[GH,GI,K2]
def CV{q}(b:aRY≤q∧q≤4294967296):gM.ahh.aKP q=G:=by unfold gM.ahh.aKP;simp only[N.c3,kR];exact⟨A4 [q] (-9223372036854775808) b5 aRY b5 e od,aVA A4 [q] b5 4294967296 e qK⟩
def Aai{E}{aI}{U}{am}{Q}{cX}{aC}{f x}{o}(fk:aI.auz=B):axi E aI U am Q cX aC (k5 f x o) B (fun b aq=>aq≤o∧aFO b aC (f+aq*x) (uQ-aq) x)where fx:=fun b h' aq a lC=>⟨a.1,lC _ a.2⟩;ix:=fun b aq a=>(zn a.2);aT:=(fun{k cI abI H aq hJ bb aW}P P P a d t=>by(have cQ:aq<o:=by rw[m2 (aOC d),m5];simp only[K2]at aa;exact aa);rw[(PE cQ).1]at d;simp only[ap.c.fV]at d;rw[oT,mX wpAny_pyNext_range_item a.2 (m4 (R.sub_pos_of_lt (R.aa7.2 cQ))) fun h' aJM bh=>t _ h' _ u0 ⟨cQ,?_⟩ bh,m1 (f+ob xk*x=f+nc aq*x+x) (by simp only[R.aDT,R.ati,←R.la];exact uU (R.alH x)),mY aV,m1 (uQ-ob xk=uQ-aq-1) (m4 (m7 Yx)),mY bj,aV,bj,mW aJM]);cW:=fun{k cI abI H bb aW}P P P a t=>by rw[K2]at a;exact wpAny_pyNext_range_end fk a.2 (m4 (D1 [↑o] (b5-b5) 0 e)) t
def Aag:∀{vs i}(b:acb vs=c i),(∃o,vs=[qw]∧g2 o=G∧i=k5 0 1 o.es)∨∃f g,vs=[th,.m g,us]∧g2 f=G∧g2 g=G∧i=k5 f (-1) (f-g).es:=by rw[mY vs i b,oS vs (by rw[tb]) j vs (by rw[qO j m o (by(rw[oS vs (by rw[m3 Bc b,om,mY f b,mW .bT (AP _ e f aRn)]) ab vs (by rw[qO ab m g (by(rw[oS vs (by rw[tb]) a vs (by rw[qO a m x (by(rw[oS vs (by rw[mX Bc b fun aj h2=>?_,aUe aj aj];have aao:=(N.c3 ..).mp aj.2;rw[om];(rw[pD (acz aao.2)]);exact rt (Bx o g e aj.1 aao.1 (ww ap.c.dB h2))) _ _ (by rw[tb])])) (by rw[tb])])])) (by rw[oS vs (by rw[tb]) _ vs (by induction vs using r.ae<;>exact Aq b)])])])) (by rw[oS vs (by rw[tb]) _ vs (by rw[oS vs (by rw[tb]) _ vs (by induction vs using r.ae<;>exact Aq b)])])])]
def Adj:∀{E}{h}{q}{Aa}{g}(bl:p9)(it:aNU)(bh:aQ5),wR (.mn q Aa g):=by injections E h q Aa g;intro bl it bh;injections aI U am dC bf ei aL H mp st l r' w bJ;rw[mY fl k X aW bb aN cJ bG bX av t,o_ HE VD,mZ bG];rintro v fn ec z1 j bz e ag;rw[qu,mX Bq ag fun dQ dW f8 iw=>?_,mZ ag,ze Fq dQ,mZ dQ];rintro id n e Ab aG;rw[oi,nu,mY J,pP vs,o3,oi,nu,mY i aB av,m3 AF (Df dW),mZ dW];rintro aNl e ao3 hd;rw[ot (bl.aqT "range" qg) A1 BR];(have aaC:∀(Q:b8)(t1:u)(cX:eW)(ao:d8)(f bZ x:R)(aed aee l9:aGf)(o:u),u3 H Q cX l a4→afd aL am k.aK Q X cX→aMq Q ao f bZ x aed aee l9→gM.ahh.g2 f bZ x=G→gM.ahh.apX f bZ x=uQ→i=k5 f x o→d3 wo aI (pyIter (nP ao)) (fun gQ ap7=>amu wo aI (.forLoop (aNO id) gQ j [] aL) (fun l s'=>match l with|.ok ac=>aW ac s'|.error d=>cameBackBy wo aI aL bb d s') ap7) bb aPh:=by rw[mY Q t1 cX ao f bZ x aed aee l9 o e3 I eE aeE acH js,mZ aB];subst js;have bQ:=e3.f3;refine qq wpAny_pyIter_range eE aeE ?_;have hM:tc Q.bg ((Q.g' {eY:=p3 "range_iterator",fS:=.ajs #[awb f,awb (gM.ahh.apX f bZ x),awb x]}).bg g=c p):=Bv;have L:=bQ.B0 hM;rw[m2 (e3.iU cJ L (bQ.g0 hM)),mY f9];have hP:=bQ.Dy;rw[m1 (U.bg _=B) (by rw[vz a (U.bg Q.eU.c5) (by rw[m2 (bQ.fr.fx _ p a),m5,o6 B9,pd aa])]),mY aat,m1 (bf.bg _=B) (by rw[vz a (bf.bg Q.eU.c5) (by rw[n4 (e3.eX.ix _ p a) o' a5,rl B9,pd a5])]),mY aoM,mX (nI (nI (nI (nI NG s1 aPh cX cX) aC Q.eU.c5 i (k5 f x o)) co B r' r') bJ bJ fl fl bh aN cJ Ab aG iw (Aai aN.fk) B9 (aVk bQ.fr.ns) (fun j x d=>by obtain⟨_,_,V,p,K,_⟩:=e3.gh j x d;exact vK K) aoM aat hP.2 (fun cf h' tk cv m' anY g4 add=>oJ _ anY (I.ah g4) add) _ _ (q' _ [] _ t1 _ H l _ f9 (e3.Aa L) hP.1 ⟨aOw,?_⟩ e av)),m1 (f+ob 0*x=f) ra,mY aV,m1 (uQ-ob 0=o) (by kernel_rfl!),mY bj,m6 (uF aFO x),r.am9,aV,bj,←acH,mW zx]);rw[nu,mX aLE ?_ (JZ (by rw[m6 ((16:u)≠7)];decide) _),mX lu.me.aqm (HM cJ.iM ao3 hd (bl.adB.K.g0 (bX.f3.eZ aN)) A1 (bl.adB.g.g0 (bX.f3.eZ aN)) BR ?_)];induction Aa using hG.ae with|C=>rw[wH (ş fK.mk.dB ct),mZ aaC ct];(rw[oc e]);exact qJ Aq (B=c i) aB|s aV aMW=>rw[m3 BV (CB f8)];rintro aND aNE e hs _ aFY;refine lu.me.aGK (it aN cJ.iM f8 bX.f3 bX.ok ct fun fM Q t1 cX I bQ bW eb=>?_) (BT hs) (Pv aFY);replace e3:=aTK;rw[nt (Aag aB),mY J,ri AF,ng];rintro ad9 aue aeE e;rw[m9,mY J,ri BV,ng];rintro f bZ aue sa akc e;rw[m8,mZ ct eb aB,rP vs [.m ad9] aue,m3 At bW,mZ bW];rintro y cy e;rw[mY J,ri Al,ng,oc aLm,y2,oT];unfold g2 at aeE;rw[ú aeE,tC (qq call_range_1)];replace hM:tc Q.bg ((Q.g' {eY:=p3 "range",fS:=.ajs #[.m 0 t1,.m ad9 aLm,.m 1 (t1+1)]}).bg g=c p):=Bv;replace L:=bQ.B0 hM;(replace acH:gM.ahh.apX 0 ad9 1=nc ad9.es:=by unfold gM.ahh.apX;simp only[aRZ (xp>0),fU,R.az2];split;rw[mW (aOy Yy),mW (aOy Yz)]);refine ni aaC 0 _ 1 t1 _ (t1+1) _ (e3.iU cJ L (bQ.g0 hM)) aRO zx ?_ acH e;unfold gM.ahh.g2;rw[acH];simp only[oQ (aPc 0),aPc ad9 (m4 ⟨A4 [ad9] aRY b5 (aOg+1) b5 e aeE.1,A4 [ad9] b5 4294967296 vk 1073741824 e aeE.2⟩),oQ (aPc 1),aPc (nc ad9.es) (Pb (R.eI (R.agP aeE.2) nw)),N.aen,N.ace,aRZ (xp>0),fU,aPc (ad9+(1-1)) (m4 ⟨A4 [ad9] aRY (b5+(1-1)) (aOg+1) b5 e aeE.1,A4 [ad9] (b5+(1-1)) 4294967296 vk 1073741824 e aeE.2⟩),N.ahR];rw[mZ ct eb aB,rP vs [th,.m bZ,us] aue];obtain⟨y,cy,e,⟨aed,e⟩,fJ,aNq,e,⟨aee,e⟩,eN,aNr,e,⟨l9,e⟩,d⟩:=bW;rw[oT];unfold g2 at sa akc;simp only[N.c3,kR]at sa akc;refine qq call_range_3 nw ?_ (.bT (oQ lu.aKt));replace hM:tc Q.bg ((Q.g' {eY:=p3 "range",fS:=.ajs #[.m f aed,.m bZ aee,.m (-1) l9]}).bg g=c p):=Bv;replace L:=bQ.B0 hM;(replace acH:gM.ahh.apX f bZ (-1)=nc (f-bZ).es:=by unfold gM.ahh.apX;simp only[aRZ (¬(aP9>0)),abv,R.neg_neg,R.az2];split;rw[mW (aOy YA),mW (aOy YB)]);refine n7 (oM (ni aaC) f) (e3.iU cJ L (bQ.g0 hM)) aRO zx ?_ acH e;unfold gM.ahh.g2;rw[acH];simp only[aPc f (m4 ⟨A4 [f] aRY b5 (aOg+1) b5 e sa.1,A4 [f] b5 4294967296 vk 1073741824 e sa.2⟩),aPc bZ (m4 ⟨A4 [bZ] aRY b5 (aOg+1) b5 e akc.1,A4 [bZ] b5 4294967296 vk 1073741824 e akc.2⟩),oQ (aPc (-1)),aPc (nc (f-bZ).es) (Pb (R.eI (R.sub_le_sub (R.agP sa.2) (R.agP akc.1)) nw)),N.aen,N.ace,aRZ (¬(aP9>0)),abv,aPc (bZ+(-1+1)) (m4 ⟨A4 [bZ] aRY (aO7 (-1)) (aOg+1) b5 e akc.1,A4 [bZ] (aO7 (-1)) 4294967296 vk 1073741824 e akc.2⟩),N.ahR]
def jI.aiS{V}{b}{X}{h}{y}{cM}{tk}(ft:ì cM):∀{fs}{Aa},aPv fs→jI V b X aS8 (putL Ï (jz.keyHash V.dX Ï) (.bi Ï tk) cM Aa):=tV lj lj (by intro _ l;rw[tF,mW (n7 CH e e e ft e)]) ll fs (by induction ll using fK.ae with|mk f aP=>intro _ l;rw[m3 BW l,mZ l];rintro d cy v e fk aG aJ br;unfold putL;simp only[F',Ga];rw[nH t f h,mZ ih,sA,m1 (d.dx.aa3 _=G) (tL aG HW (aaU _)),m5,vp,c0 aa,mW (nM CH v e fk aG ft br),m1 (¬(d.dx.aa3 _=G)) (by rw[aG,HW,mY a,mW t (Gx (acz a))]),mY a,cH t,cH a,mW CH d _ v e fk aG aJ (ih br)])
def jI.c9{V}{b}{X}:∀{fs}{Aa},aPv fs→Aa.z=fs.z:=tV lj lj (by intro _ l;rw[tF];rfl) ll fs (by induction ll using fK.ae with|mk f aP=>intro _ l;rw[m3 BW l,n2];rintro d cy v e fk aG aJ br;simp[ih br])
def NH{h}{y}:∀{fs},(aS8).z≤fs.z+1:=tV lj lj (by rw[qz]) ll fs (by induction ll using fK.ae with|mk f aP=>simp only[F',Ga];split;simp;rw[m2 ih,m5];simp;omega)
def UU{h j}{y}:∀{fs},j∈(aS8).au (·.1)→j=h∨j∈fs.au (·.1):=tV lj lj (by rw[nR];simp[F',Ga]at b;exact pp b) ll fs (by induction ll using fK.ae with|mk f aP=>rw[nR,sB F' Ga];split at b;exact .bF b;rw[r.gI,r.gA]at b;rw[ŕ,oe,m9,oe,m8,mW (rt (by rw[b];simp)),nt Ű,rd,m9,rd,m8,mW (pp t),mW (rt (nb r.gI (zw t)))])
set_option tactic.hygienic true in
def UV{h}{y}:∀{fs},aNN fs.au→((aS8).au (·.1)).fF:=tV lj lj (by rw[mY _,mW yL]) ll fs (by induction ll using fK.ae with|mk f aP=>rw[nR];rw[r.gI,r.l6]at b;simp only[F',Ga];split;rw[r.gI,r.l6,mW b];rename_i t;rw[r.gI,r.l6,mW ⟨rb (t' UU a t od),ih qK⟩])
def cT.put2:∀{E}{U}{am}{H}{w}{X}{b h'}(aC:s2){q}{n}{aj}{o'}(ba:wd)(hd:aj=nk∨aj=nh)(abH:akt U am h' H)(lC:∀g p,v1→vd aj→aOT→ĭ)(aal:xL h'.bg aj)(l:aNT→mC E.b' E.V E.eR h' X o' n),aNT∧t3 h' X (w.b6 q o'):=by rw[mY E U am H w X b h',mY aC,mY q n aj o',mY ba hd abH lC aal l];(have agT:g6 X.bN aj:=by rw[mZ lC aal,nY hd hd,n8,m9,n8,m8,mW aTl,mW (Cb ba).2]);rw[ot (aC.hP aj agT) cu hL,mX B8 abH.ns fun ano Aa ep aes azG P=>?_];(have axC:aUV (∃o',h'.bg g=c o'):=we (by rw[aVw,mZ hd lC agT cu hL,sA,mW aal,nH da g am,mZ aC abH lC l hL];subst da;rw[mW ⟨ano,aes⟩,mW (vK (lC g p d t da))]));have j:aNT:=⟨fun g p d nl V=>lC g p d (aQq V agT) nl,axC,fun g p a d=>⟨Ţ aC.Bd,fun k2 bj=>by rw[mZ aC abH lC l hL,uf];rw[aes]at bj;rw[nf bj,mZ bj,mY bj];subst bj;unfold hK;rw[azG]⟩,aPu,e⟩;rw[mX ⟨j,abH,aC.hC.aiS j ba (fun g cR g1 gW d V=>lC g cR d ?_ (aUy aC.hP)) (l j),aC.hP,fun g t=>⟨(Ł).1,let(xc):=(Ł).2;sq axC⟩⟩,mZ lC aal agT cu hL,n8,nY hd hd,wC,m9,wC,m8,mW g1 a,mW gW a]
def PX:∀{E}{h}{aI}{U}{am}{H}{w}{k}{X}{bb}(bl:p9)(aN:pA)(aC:q3){q x}{fs}{co cM}{j}{y}{aW}(ef:ô n3 co)(d:aSD)(ft:aN7)(b2:E.O.abp x j=G)(aB:fs.z<200)(t:∀h' tk,aVa→t3 h' X (tn (.bS x (abq j y fs)))→zu ()),q5 (dU co (af.bH.dF j) cM):=by injections E h aI U am H w k X bb;intro bl aN aC;injections q x fs co cM j y aW;rw[mY ef d ft b2 aB t,m3 JN (avx aC ef d),mZ ef];rintro n Aa o ba e aV bj alP cO alf anN;rw[ot (bl.abp x j b2) ok cu];have ag8:=avw ok;rw[m1 (E.M.abJ _) (fun f p a=>aN.eZ f p (bl.cL f p a)),mY ate,m1 (sF takerIn=c _) (by unfold takerIn;rw[cu];rfl),mY aiA,m1 ((m7 getL).eF=G) (by(rw[nt (nI alP.alx h j o o),mY J,nV,ng];rintro _ a;rw[m9,mY J,vX,ng];rintro _ _ _ a _;rw[m8])<;>(simp only[lookIn_dict]at a;rw[a];rfl)),mY ajz,m1 ((Ķ putL).z≤1000) (by rw[m2 (nI jI.aiS h j tk (k.ce+1) ft alP).c9,mY bW,m2 (pj NH h j y y fs fs),mY fh,bW,mW Am [fs.z,(abq j y _).z] ai 1000 nm 200 ai nm e aB fh]),mY hz];have aD1:U.bg nh=B∧Ã nh:=aC.hP _ (Cb ba).2;(have aF3:as2 U am k.aK ((nh,aop Aa o)::adM U k.aK am (fun g=>g==nh)):=fun a hz=>by rw[nt (r.gA.mp hz),n8,m9];rintro hz;rw[m8,mW AE bj aD1.2 aD1.1,mW Dm a hz]);rw[pv (set_dict aC.fr ate aF3 anN e ag8.sa ag8.po aiA ag8.hd ajz e (.mr fun a hz=>?_)) hz h' abH gg,m2 (Ċ (CM.mp hz)),mY aa,Ą];have aBU:=(gg _ uA).1;rw[ot (nI aC.put2 aj nh o' (.bS x (abq j y fs)) ba yp abH (fun g p a g1 gW=>by induction e2:U.bg g using ap.ae with|c k2=>rw[m2 (aC.fr.fx g _ e2),m5,o6 a,nf aa,mZ aa,m5,uM,mW abH.fx g p e2]|B=>exact(gg _ (aQX (CM.gS (By a gW e2 (o7 g1))))).1) (qo aBU) fun L=>by rw[mX ⟨?_,(nM Bx aBU (by rw[m2 (pj NH h j y y fs fs),mY fh,mW Am [fs.z,(abq j y _).z] ai 300 nm 200 ai nm e aB fh]) ((nI jI.aiS h j tk (k.ce+1) ft alP).bx L) (UV cO))⟩,m1 (nk≠nh) (rb (by simp only[a,bj]at aV;cases aV)),mY aKq];induction e2:U.bg nk using ap.ae with|c k2=>rw[(aC.hP _ aTl).1]at e2;rw[pd e2]|B=>exact(gg _ (aQX (CM.gS (By aV ((aC.hP _ aTl).2) e2 (o7 aKq))))).1) L c7,mW (nM t L c7)]
def Adt:∀{E}{h}(bl:p9){f j}{cE}(sa:qB)(ahX:pW j),wR (.dU f cE j):=by rw[ē E,mY bl];injections f j cE;intro sa ahX;injections aI U am dC bf ei aL H mp st l r' w bJ;rw[mY fl k X aW bb aN cJ bG bX av t,o_ Bz VH,mZ bG];rintro p v z1 ag0 bz e ag;rw[qu,m3 Bq ag,mZ ag];rintro dQ dW f8 iw;rw[aQR,tl Cm,mY J,pP y,o3,tl Cm,mY J,tQ afX,wP,tl Cx];rintro q mH av;rw[rP afX n3 mH,tl H9];rintro acl e9 d;rw[mZ av,nu,m3 AC (D8 (cr _ d)),mZ d];rintro e e e;rw[m3 AR (Ge e9)];rintro x fs he gy;rw[m3 Ai (Ct gy)];rintro hc aaj;rw[mZ e9 av gy,pD (ap.c.dB aaj),ú hc,m1 (aEP ag0 (c (.aad p (af.bH.dF cE) z1)) bz.iG aL=km Y) (by clear dW iw;induction ag0 using af.bA.ae<;>(rfl)),mY hs,oM plainObj_exec_Assign_Attribute p _ hs,mX dH (aqf (dH (ahX aN cJ.iM iw bX.f3 bX.ok ct aSH)))];have e3:=bX.iU cJ I bQ;refine dH (kas_attr (aU2 (qq sa) f8 e3.ok gx fun afX h2 d2 g5 L c7 fh=>?_));have f9:=e3.iU cJ L c7;rw[mX (wf PX bl aN c7 fh he xE hc.1 hc.2 fun h3 j9 Z ic=>?_),mW fX (oJ H (f9.iU cJ Z ic) ((aRO).ah (f9.Aa Z)) e)]
def j0.aiS{b}{X}{aq}{y}{cM}(ft:ì cM):wD e1 (aPp→aNN e1.au→j0 b X (ab2 aq y i) (ap5 e1 aq cM)):=tV lj lj (by intro _ l _;rw[mZ f,tF,mW Au _ _ e ft e]) ll i (by induction ll using fK.ae with|mk f aP=>intro _ l cO;rw[tR,mZ l];rintro j cy e g x;rw[r.gI,r.l6]at cO;simp only[Kg,Kh];rw[nH t f aq,mZ ih,sA,vp,m1 (ap5 _ f _=(f,cM)::cy) (by unfold ap5;rw[m1 ((((f,j)::cy).dS fun e6=>b1 (e6.1=f))=G) ra,mY Q,c0 Q];simp only[r.gI,fU];rw[uh];(have:∀a∈cy,(ov a.1 f (a.1,cM) a)=a:=fun a hz=>by rw[cH,p0,mW cO.1 (r.fq.gS (Ad a hz d))]);exact ack.ah (g:=cy.au id) (r.aDL aa) (r.aDM _)),mY d,d,mW Au _ _ e ft x,cH t,m2 (ih x cO.2),mY ih,m1 (ap5 _ aq cM=(f,j)::ap5 cy aq _) (by unfold ap5;rw[m1 ((((f,j)::cy).dS fun e6=>b1 (e6.1=aq))=cy.dS fun e6=>b1 (e6.1=aq)) (rA t),mY Q,Q];by_cases a:(cy.dS fun e6=>b1 (e6.1=aq))=G;rw[c0 a,c0 a,r.gI,cH t];rw[cH a,cH a];rfl),p0,d,mW Au j _ e g ih])
def N'{aq}{y}:∀{i},(ab2 aq y i).z≤i.z+1|[]=>qg|(f,aP)::i=>by simp only[Kg,Kh];split;simp;rw[m2 (pj N' aq aq y y i i),m5];simp;omega
def M_{o y}:∀{i},(aU6 o).z≤i.z+1|[]=>qg|(f,aP)::i=>by simp only[FZ,F0];split;simp;rw[m2 (pj M_ o o y y i i),m5];simp;omega
def jy.c9{b}{X}:wD xs (aPq→xs.z=i.z)|[],_,l=>aSl|ā,_,l=>by rw[m3 Co l,n2];rintro f j cy e _ _ _ _ ac;simp[jy.c9 ac]
def jy.aiS{b}{X}{o y}{aiF}{cM}(j6:l4 o=G)(hM:o.im jA=G)(An:db b X o (nP aiF))(ft:ì cM):wD xs (aPq→aNN xs.au→jy b X (aU6 o) (awx xs o aiF cM)):=tV lj lj (by intro _ l _;rw[mZ f,tF,mW (n7 Cn e j6 hM An ft e)]) ll i (by induction ll using fK.ae with|mk f aP=>intro _ l cO;rw[m3 Co l,n2];rintro akA j cy e c6 dn dA ek x;rw[r.gI,r.l6]at cO;simp only[FZ,F0];rw[nH t f o,mZ ih,mZ j6 hM An,sA,vp,m1 (agf ((f,akA,j)::cy) f=c (akA,j)) (rA agf),mY Q,storedH_old Q,m1 (((f,akA,j)::cy).au (aso f cM)=(f,akA,cM)::cy) (by rw[r.gI,uh];simp[aso];(have:∀a∈cy,aso f cM a=a:=fun a hz=>by unfold aso;rw[cH,p0,mW cO.1 (r.fq.gS (Ad a hz d))]);exact ack.ah (g:=cy.au id) (r.aDL aa) (r.aDM _)),mY d,d,mW (n7 Cn e c6 dn dA ft x),cH t,m2 (ih x cO.2),mY ih,m1 (agf ((f,akA,j)::cy) o=agf cy o) (ĺ agf (Ô r.amE t)),mY Aw,m1 (awx _ o _ cM=(f,akA,j)::awx cy o aiF _) (by unfold awx;rw[Aw];by_cases a:(agf cy o).eF=G;rw[c0 a,c0 a,r.gI];unfold aso;rw[cH t];rw[cH a,cH a];rfl),p0,d,mW Cn _ j _ e c6 dn dA ek ih])
def XK:∀{b'}{V}{b:b8}{f}{e1}(j:b.akr aVB f e1),aNN e1.au:=by rw[mY b' V b f e1,mY j,mX Co j fun P P P P P P P P cO=>?_,mW cO]
def Q_{b'}{V}{b:b8}{f}{e1}(j:b.akr aVB f e1):∃p,tN f:=by rw[m3 AD j,mY p _ _ d _,mW xc]
def Z3:∀{w bJ}{q}{e6 y}(b:lm w q e6 y=c bJ),(∃i,aUM∧(l4 e6=G∧e6.im jA=G∧zE)∧bJ=tn (.bE (aU6 e6)))∨(∃i aq,ã∧e6=Ė∧zE∧bJ=tn aUS)∨∃i aq,yq∧e6=Ė∧0≤aq∧aq<i.z∧bJ=tn (.aw (i.b6 aq.es y)):=by injections w bJ q e6 y;rw[nR,Å lm];induction d:s_ using ap.ae with|B=>rw[pr d,aR5]|c p=>rw[pr d,oA];induction p using c_.ae with|bE i=>rw[ot (qJ Ct ((nK (l4 e6&&(e6.im jA&&zE)) (c (tn (.bE (aU6 e6)))))=c bJ) b) aG b];have aG:=(N.c3 ..).mp aG;have ahx:=(N.c3 ..).mp aG.2;exact .bT (AP i e (AE Ť ahx.1 (cD ahx.2)) aRn)|bM i=>rw[nD (qJ Cl ((jp e6 fun aq=>nK zE (c (tn aUS)))=c bJ) b) aq f b,mX Bc b fun g b=>?_,mW (rt (.bT (Bx i aq e f g aRn)))]|aw i=>rw[nD (qJ Cl ((jp e6 fun aq=>nK (0≤aq&&aq<i.z) (c (tn (.aw (i.b6 aq.es y)))))=c bJ) b) aq f b,mX Bc b fun g b=>?_];have g:=(N.c3 ..).mp g;exact vM (BU i aq e f (cD g.1) (cD g.2) aRn)|bS=>rw[aR5]
def Z6:∀{E}{h}{aI}{U}{am}{H}{w}{k}{X}{bb}(aN:pA)(aC:q3){q}{e6 y}{n}{kQ cM}{i}{aW}(ba:wd)(An:Ŝ e6 kQ)(ft:aN7)(Ab:aUM)(aG:l4 e6=G∧e6.im jA=G∧zE)(t:∀h' tk,aVa→t3 h' X (tn (.bE (aU6 e6)))→zu ()),q5 (jl (nP nk) kQ cM):=by rw[mY E h aI U am H w k X bb,mY aN aC,mY q e6 y n kQ cM i aW,mY ba An ft Ab aG t,aS6 l];cases ba.cq.ah dg;obtain⟨bj,aB,xs,hD,aj⟩:=l;rw[m2 (An.dx _ (nj aG)),mY agN,qO e6 ay agO (by rw[m3 AA (id agN),aUl aiF,m1 (aNN xs.au) (by rw[mX Co hD fun P P P P P P P P cO=>?_,mW cO]),mY cO];refine wpAny_setItem_heap (knd:=aVW ac6) aN.apZ (AE Ť (nj aG) agN) hD (fun h' ajt bh=>?_) (by rw[aj.c9]at⊢;exact aSI);(obtain⟨Z,ic⟩:=aC.Ig (o':=.bE (abn aSj y i)) ba qN bh (aVk ajt) fun Z=>(AE bj (q7 (pj M_ o aSj y y i i) (Am [i.z,du,(abn _ y i).z] a8 ai nm ai a8 nm e (nW aG) aa)) (vU ajt ((jy.aiS Ť (nj aG) An ft aj cO).bx Z))));exact nM t Z ic) (by cases Ť)]
def Z7:∀{E}{h}{aI}{U}{am}{H}{w}{k}{X}{bb}(aN:pA)(aC:q3){q}{aq}{y}{n}{kQ cM}{i}{aW}(ba:wd)(An:ô Ė kQ)(ft:aN7)(Ab:ã)(eb:zE)(t:∀h' tk,aVa→t3 h' X (tn aUS)→zu ()),q5 (jl (nP nk) kQ cM):=by rw[mY E h aI U am H w k X bb,mY aN aC,mY q aq y n kQ cM i aW,mY ba An ft Ab eb t,aS6 l];cases ba.cq.ah dg;obtain⟨bj,aB,e1,hD,aj⟩:=l;rw[o8 An,mZ An,oc v,m1 ((mu E.b' E.V).is aq (u2 aq)=G) (hZ (e:aq=aq)),mY aG];refine wpAny_setItem_pairs (knd:=aVW mu) aG hD (fun h' ajt bh=>?_) (nb aj.z aSI);rw[ot (aC.Ig (o':=aUS) ba qN bh (Q_ ajt) fun Z=>(AE bj (q7 (pj N' aq aq y y i i) (Am [i.z,du,(ab2 aq y i).z] a8 ai nm ai a8 nm e eb aa)) (vU ajt ((j0.aiS ft aj (XK hD)).bx Z)))) Z ic,mW (nM t Z ic)]
def Z9:∀{E}{h}{aI}{U}{am}{H}{w}{k}{X}{bb}(aN:pA)(aC:q3){q}{aq}{y}{n}{kQ cM}{i}{aW}(ba:wd)(An:ô Ė kQ)(ft:aN7)(Ab:yq)(cQ:0≤aq∧aq<i.z)(t:∀h' tk,aVa→t3 h' X (tn (.aw (i.b6 aq.es y)))→zu ()),q5 (jl (nP nk) kQ cM):=by rw[mY E h aI U am H w k X bb,mY aN aC,mY q aq y n kQ cM i aW,mY ba An ft Ab cQ t,mX BW (Dv aC (Ad n ba e) Ab) fun cw xs o dg d K aB cy=>?_,aN1,mZ d,nf dg,mZ dg,mY dg,xg,o8 An,mZ An,oc v,m2 (wy cy.z),mY aV];unfold du at aB;rw[mX ki_setAt K cQ.1 (m4 (oa A5 [aq,↑i.z] b5 9223372036854775808 b5 d5 d5 1048576 e cQ.2 (Bb aB))) (nb aV cQ.2) ?_,ot (nI aC.GF l' (i.b6 aq.es y) h' (k.aK.ae2 nk (k_.avJ (·.setIfInBounds aq.es cM))) Ab ba (b8.aaQ.ae2 ..) (af.asW.ae2 K _) (by rw[r.apv,xh];omega) (fun Z=>nb fE.toList_setIfInBounds ((d4.b6 ft _ cy).bx Z))) Z ic,mW (nM t Z ic)]
def Ws:∀{E}{h}(bl:p9){aI}{U}{am}{H}{w}{k}{X}{bb}(aN:pA)(aC:q3){q}{e6 y}{co kQ cM}{bJ}{aW}(ef:ô n3 co)(An:Ŝ e6 kQ)(ft:aN7)(aJ:lm w q e6 y=c bJ)(t:∀h' tk,aVa→t3 h' X bJ→zu ()),q5 (jl co kQ cM):=by rw[ē E,mY bl];injections aI U am H w k X bb;intro aN aC;injections q e6 y co kQ cM bJ aW;rw[mY ef An ft aJ t,p4 ef,mZ ef,ù];rcases Z3 aJ with⟨i,Ab,aG,e⟩|⟨i,aq,Ab,e,aG,e⟩|⟨i,aq,Ab,e,bf,Q,e⟩;rw[mW Z6 aN aC ba An ft Ab aG t,mW Z7 aN aC ba An ft Ab aG t,mW Z9 aN aC ba An ft Ab ⟨bf,Q⟩ t]
def Adu:∀{E}{h}(bl:p9){f o j}(sa:qB)(aaK:pW o)(ahX:pW j),wR (.jl f o j):=by rw[ē E,mY bl];injections f o j;intro sa aaK ahX;injections aI U am dC bf ei aL H mp st l r' w bJ;rw[mY fl k X aW bb aN cJ bG bX av t,o_ Bz VI,mZ bG];rintro p q z1 ag0 bz e ag;rw[qu,m3 Hz ag,oK];rintro dQ dW f8 iw aaO;rw[tl Cm,mY J,pP y,o3,tl Cm,mY J,tQ aa8,wP,tl Cx];rintro am2 mH av;rw[rP aa8 (.D am2) mH,tl Cm,mY J,aRQ e6 acl];rintro e9 av;rw[tl H9];rintro aMj gy d;rw[mZ av,nu,nu,aP1 e e (D8 (cr c d)),m1 (aEP ag0 (c (.aai p q z1)) bz.iG aL=km Y) (by clear dW aaO;induction ag0 using af.bA.ae<;>(rfl)),mY hs,mX wpAny_Assign_Subscript (ahX aN cJ.iM aaO bX.f3 bX.ok ct aSH) hs];have e3:=bX.iU cJ I bQ;refine aU2 (qq sa) f8 e3.ok gx fun afX h2 d2 g5 L c7 fh=>?_;have f9:=e3.iU cJ L c7;refine wf aaK aN cJ.iM iw f9.f3 f9.ok e9 fun kQ h3 j9 abG Z ic k4=>?_;have k':=f9.iU cJ Z ic;exact wm Ws h3 j9 bl aN ic (fh.bx Z) k4 ((bW.bx L).bx Z) gy fun h4 aNw x4 amd=>oJ H (k'.iU cJ x4 amd) (((aRO).ah (f9.Aa Z)).ah (k'.Aa x4)) e
def Ada:∀{E}{h}(bl:p9){f j}{cE}{p}(sa:qB)(ahX:pW j),wR (.agg f cE p j):=by rw[ē E,mY bl];injections f j cE p;intro sa ahX;injections aI U am dC bf ei aL H mp st l r' w bJ;rw[mY fl k X aW bb aN cJ bG bX av t,o_ HE Vy];rintro cR v z1 f' ag0 bz e ag;rw[qu,mX Bq ag fun dQ dW f8 iw=>?_,aQR,pD (Ml dW),oi,nu,mY J,pP aa8,o3,tl Cx,mZ av,mY q mH av,rP aa8 n3 mH,m3 AR (Ge av),mZ av,mY x fs he av,m3 Bc av,nu,mY b2 av,oi,nu,mY hJ aB av,tl Cl,nu,mY aJu jb av,rP hJ (.m aJu) jb,oi,nu,mY J,tQ aGH,wP,tl Cl,nu,mY aJv dt av,rP aGH (.m aJv) dt,oi,nu,mY apq ahB av,pv AU av acl e9 d,m3 AC (D8 (cr _ d))];rintro e e e;rw[mX AR (Ge e9) fun c' aMY auO gy=>?_,mX Bc gy fun hc aaj=>?_,pD (ap.c.dB aaj),aUe hc hc,pD (cD hc.1)];have eb:=cD hc.2;refine wpAny_AugAssign_AttributeAny (sa aN cJ.iM f8 bX.f3 bX.ok ct fun afX Q t1 cX I bQ bW=>?_);have e3:=bX.iU cJ I bQ;rw[mX (qq L' bl aN bQ bW he b2 aB fun co d2 ef=>?_),o8 ef,mZ ef,oc aed,mX (aU2 (wm ahX Q d2) iw e3.ok gx fun aF h2 j9 g5 L c7 fh=>?_),o8 fh,mZ fh,oc aee];have f9:=e3.iU cJ L c7;have cW:∀tk awO,d3 wo aI (dU afX (af.bH.dF cE) (.m apq awO)) (nO (aW na)) bb (yS h2):=fun tk awO=>nI PX y (.m apq) k (yS h2) bl aN c7 xE auO (qS awO) b2 eb fun h3 j9 Z ic=>t _ h3 j9 g5 H (f9.iU cJ Z ic) ((aRO).ah (f9.Aa Z)) e;clear dW bG ag;(induction p using adG.ae<;>simp only[atg,ap.c.fV]at ahB<;>first|clear t d aaj e9 gy cW av;cases ahB;done|skip);clear t d aaj e9 gy av;subst ahB;rw[mW iadd_int (m7 cW),mZ t d aaj e9 gy av];subst ahB;exact isub_int (m7 cW)
def jJ.gone:∀{E}{U}{am dC}{bf b h'}{ei cI}{aL}{mp}{H}{l}{w}{aj}(cJ:aUQ)(bX:u3 H b cI l w)(dt:b8.al8 aj b h')(Ak:∀p,tN aj→hK p=G→¬ka cI aj)(mO:aO4 aj)(adg:Ã aj)(ajr:aQt aj)(acP:aj∉cI.fL)(kA:bf.bg aj=B)(agy:∀j x,uZ x→x≠aj),u3 H h' cI l w:=by rw[mY E U am dC bf b h' ei cI aL mp H l w,mY aj,mY cJ bX dt Ak mO adg ajr acP kA agy];have jn:j1 b h' cI cI:=⟨fun g p d hs no=>by rw[aVw,mZ dt mO adg ajr acP kA agy,sA,mW (Ak p d hs no).az,mW ⟨dt g p t d,no⟩],fun P P d=>d⟩;rw[mX ⟨bX.f3.ark dt Ak mO adg ajr acP,fun ab aq f b0 aiB br=>?_,JR bX.eX kA dt,fun ab x d=>?_⟩,nD (bX.ok ab aq f b0 aiB br) aP cc aeU,mX Ad aP ?_ (aeU.AS jn),nY cc cc,mY J,nV,ng];rintro V cc;rw[m9,mY J];rcases J with(⟨V,x,p,aV,bj,cV,gp,ky⟩);rw[m8,nY cc cc];rintro cc;rw[m9,mY J,nV,ng];rintro jm _;rw[m8,mW (zj V (pp cc)),mW (t' jm cJ.aeM),mW .bF (qd V (BU x p aV bj cV (dt x p (agy ab x aV) gp) ky))];obtain⟨f,bZ,V,p,K,aol⟩:=aO1 bX.gh;exact(AE f bZ (AI V p (dt x p (aO1 agy) K) aol))
def Ac9:∀{E}{h}{q}{gD kF}{gP}{eG}(aeX:pW kF)(l8:pW gD)(a':p_ aga gP),wR (.age q (.go gD eG kF gP)):=by injections E h q gD kF gP eG;intro aeX l8 a';injections aI U am dC bf ei aL H mp st l r' w bJ;rw[mY fl k X aW bb aN cJ bG bX av t,o_ AD N4,mZ bG];rintro v V z1 e ag;rw[qu,pv AC ag dQ P dW,mZ P,mZ ag];(obtain⟨jN,g9,x,n,e⟩:∃jN g9 x n,V=.aff jN g9 x n:=by rw[mX F7 (Kf dW) fun P P P P P P P d P=>?_,mW (uF Hv d)]);rw[ze Fq dQ,mZ dQ];rintro id pt e Ab aG;rw[aV9 y,o3];replace t:=t.to av;obtain⟨aGG,all⟩:∃g,aEP (.aff jN g9 x n) (c (.kM id pt)) z1.iG aL=km g:=u0;rw[u9 aGG (by rw[mX aLC (PR aeX l8 a' aN cJ.iM dW bX.f3 bX.ok ct aSH) all,mW (qq GQ cJ aTK Ab aG bW fun h2 d2 c4 f9 L=>oJ _ f9 ((aUE).ah L) e)]) (by rw[m3 F7 (Kf dW),mZ dW,mY aMS j mQ gQ fs c' aNn d ag];injection d with I L Z x4;rw[pi,qD];subst Z;subst x4;rw[m1 (kF≠wA) (rb (by rw[mZ aeX ag,uf,pv Ay ct P b P,mW (aRd b)])),mY cU,m2 (by rw[qu,mW aQa]),mY as1,uF exec_Assign_Name_used all,mX dH (aqf (dH ?_)),m6 (d3 _ aI (do let _←sk aGQ x _ Y (m7 adb) _) _ _ k),mX dH (aqe (nI MM use (c (ci (.kM id pt) aL)) aW (fun P s'=>aW na s') aeX l8 a' aN cJ.iM ag (KM as1 cU) bX.f3 bX.ok ct fun a0 aD h' tk cv aaB g4 j3 r' cu gE f2 i2 aet=>?_) (fun P s' cG=>fX (fX cG)) fun P P d=>d),m2 (bX.iU cJ g4 j3),mY e3];(have aB4:∀ab ig,aL.hr.cm ab=c ig→ig≠aD:=fun ab ig d a=>by obtain⟨_,_,V,p,K,_⟩:=bX.gh ab ig d;rw[a,gE]at K;rw[pd K]);rw[m6 (m7 (sk d3 aI)),mX awU (wm GQ h' tk cJ e3 Ab aG r' fun h2 d2 c4 f9 L=>?_),m1 (¬(aD=am∨∃j,uZ aD)) (rb (a.az i2 fun⟨j,J⟩=>aB4 j aD J e)),mY apF];(have ahA:h2.af7 aD aaB:=by rw[m3 AD cu,mY p Aa ep d cy,mW A9 p _ _ (L.fx aD p d apF f2) cy]);rw[mX Ad aaB ahA (fun h3 bh=>?_),m1 (bf.bg aD=B) (by rw[vz a (bf.bg aD) (by rw[n4 (bX.eX.ix _ p a) o' a5,rl gE,pd a5])]),mY aoM,m1 (aD∉cv.fL) (nb g4.fL (bX.f3.DY gE).2),mY acP];(have agU:∀p,h2.bg aD=c p→hK p=G→¬ka cv aD:=fun p d a=>by rw[m3 B8 ahA,mY o' Aa ep a5 aj _,rl d,nf a5,yR,mY a5,vL];unfold hK at a;rw[aj]at a;rw[wO a]);rw[m2 (jJ.gone cJ f9 bh.az7 agU f2 i2 aet acP aoM aB4),mY k',mW (p5 t d2 _ k' (JS ((bX.Aa g4).ah L) gE bh) e)])]
set_option backward.match.sparseCases true
abbrev ah9(aL:af.dv)(mp:wU):t4 nq (r (ck→bv aGi))|[],a'=>a'=[]|q::is,a'=>∃v hQ id,a'=v::hQ∧yi mp.cm q∧(yi aL.h_ yZ∨yi aL.h_ .gh)∧(∀(ag:aF1)(aI:lT)(bb:ux)(aW:t7 aGi)(k:en)(y:ck),v3 (aEJ aL id y)→v3 (v y))∧ah9 aL mp is hQ
def ah9.asv{aL}{mp}{q}{v}{id}(Q:yi mp.cm q)(h2:yi aL.h_ yZ∨yi aL.h_ .gh)(h3:∀(ag)(aI)(bb)(aW)(k)(y),v3 (aEJ aL id y)→v3 (v y)):∀{is}{a'},ah9 aL mp is a'→ah9 aL mp (is++[q]) (a'++[v])|[],_,b=>by rw[pq,mW CH v _ _ e Q h2 h3 e]|aq::is,_,b=>by rw[m3 BW b,om];rintro iu hQ aM5 e f g x aj;exact(CH _ (hQ++[v]) _ e f g x (ah9.asv Q h2 h3 aj))
def PW{q}{y}:∀{is}{vs}{l},aaJ (is++[q]) (vs++[y]) l=(aTr).au (ue (t.b6 q qv))|[],[],l=>e|[],aP::vs,l=>(by rw[oS vs (by rfl) V vs (by rfl)])|aq::is,[],l=>by induction is using r.ae<;>rfl|aq::is,aP::vs,l=>by rw[m6 (aaJ (is++[q]) (vs++[y]) _=_),PW];rfl
def PV{q}{y}:∀{is}{vs}{l},q∉is→aaJ is vs (Ż qv)=(aTr).au (ue (t.b6 q qv))|[],[],l,_=>e|[],tq,l,_=>e|tq,[],l,_=>e|aq::is,aP::vs,l,b=>by rw[m1 (sU aq) (aQq b uA),mY Q,m6 (aaJ _ vs _=(aaJ _ vs _).au _),nv r.awi Q,PV fun a=>b (zw a)]
def PU:∀{is}{vs}{l},is.fF→is.z=vs.z→aaJ is.aba vs.aba l=aTr|[],[],l,_,_=>e|aq::is,aP::vs,l,cO,aB=>by simp only[r.l6]at cO;rw[r.apY,r.apY,PW,PU cO.2 (by simpa using aB),m6 (_=aaJ _ vs _),PV cO.1]
def PT:∀{is}{vs}{l r'},aTr=c r'→is.z=vs.z|[],[],_,_,_=>e|_::is,_::vs,l,r',b=>by rw[m2 (nI PT is is vs vs b),m5];simp[aa]
def jh{E}{U}{am dC}{bf}{ei}{aL}{mp}{X}{w}{ag}{aI}{bb}{r'}{s0:en}(cJ:aUQ):∀(is)(a')(ajh)(vs)(H)(b)(tk)(l)(aW),ah9 aL mp is a'→u3 H b X l w→d4 b X ajh vs→aaJ is ajh l=c r'→(∀h' tk m',u3 m' h' X r' w→afd aL am b h' X X→aW () {s0 with aK:=h',ce:=tk})→d3 ag aI (axH a' vs) aW bb {s0 with aK:=b,ce:=tk}|[],a',ajh,vs,H,b,tk,l,aW,st,bX,ft,d,t=>(by subst st;induction ajh using r.ae with|s _ _=>rw[sQ d]|C=>subst ft;rw[p2 d,pi,mW fX (t b _ H bX bX.ER)])|q::is,a',ajh,vs,H,b,tk,l,aW,st,bX,ft,d,t=>by rw[m3 BW st,mZ st];rintro v hQ id e Q h2 h3 h4;rw[oS ajh (by rw[sQ d]) f ajh (by rw[m3 At ft,mZ ft];rintro y CK e gr cy;rw[m1 (aaJ is _ _=c _) d,mZ d,mY d,m6 (d3 ag aI (m7 aCQ>>=nO (m7 axH)) aW bb _),mX dH (ae9 (m7 (ni h3) (GQ (k:={s0 with aK:=b,ce:=tk}) cJ bX Q h2 gr fun h' ap8 m' anY g4=>?_))),mW jh cJ is hQ ajh CK m' h' ap8 _ aW h4 anY (cy.bx g4) d fun aoL aLl aKf aGc aLT=>t aoL aLl aKf aGc (g4.ah aLT)])]
def P_{aL}{mp}:∀{is}{a'},alU mp aL.d_ is a'=G→ah9 aL mp is ((amr a' aL).au (·.2))∧qp amr a' aL=is.z∧(amr a' aL).findIdx? (·.1)=B|[],[],_=>(AE e e e)|q::is,v::a',ag=>by replace ag:(aeJ mp aL.d_ q v&&alU mp aL.d_ is a')=G:=ag;rw[qu,ze Fq rX];rintro id n e Q h2;rw[rf (P_ x') f g x,m1 (amr (aNO id::a') aL=(Y,m7 ci)::m7 amr) e,mY d,d,mX AE (n7 CH e Q h2 (fun ag aI bb aW k y V=>awU V) f) (rA g) ?_,r.findIdx?_cons,cH (by simp),x];rfl
abbrev aiM(aL:af.dv)(iG:u)(d:af.bA):ap af.bH:=if b:d.eP=23 then af.bA.kM.az (fW:=p' (ap af.bH)) d b (fun id bs=>nK (aL.h_ id==c yZ&&bs.iG==iG) (c id))else B
def OS{aL}{mp}(iG):∀{is}{a'},alU mp aL.d_ is a'=G→(a'.adW (aiM aL iG)).z=a'.z→ah9 aL mp is.aba ((a'.adW (aiM aL iG)).aba.au fun h=>bindName aL h)|[],[],_,_=>e|q::is,v::a',ag,aB=>by replace ag:(aeJ mp aL.d_ q v&&alU mp aL.d_ is a')=G:=ag;rw[qu,ze Fq rX];rintro id n e Q h2;by_cases a:(aL.h_ id==c yZ&&n.iG==iG)=G;(have d:(af.bA.kM id n::a').adW (aiM aL iG)=id::a'.adW (aiM aL iG):=by simp only[r.aoD,show aiM aL iG (aNO id)=c id from c0 a]at⊢);simp only[d]at aB⊢;simp only[r.apY,r.apY,r.ahL];refine ah9.asv Q h2 (fun ag aI bb aW k y V=>wpAny_bindName V) (OS iG x' ?_);simpa using aB;rw[m1 ((af.bA.kM _ n::a').adW (m7 aiM)=a'.adW _) (by rw[r.aoD,show aiM aL iG (aNO id)=B from cH a]at⊢),mY d];simp only[d]at aB;rw[m2 (r.length_filterMap_le (aiM aL iG) a'),m5];simp only[r.kZ]at aB;exact BZ (Am [(m7 r.adW).z,a'.z] 1 0 nN S S ai e (AN aB) aa)
set_option tactic.hygienic true in
def Lf{cg gn asL:Type}{x}[ah1 x]{g h}{ac:gn→cg}{ao:t4 gn asL}(o:¬x→(g=h∨∃j ab,g=ac j∧ao j ab)):(if x then h else g)=h∨∃j ab,(if x then h else g)=ac j∧ao j ab:=by by_cases b:x;rw[mW .bT (c0 b),cH b,mW o b]
def Ab2:∀{y}(b:awC y=G)(a')(o)(n)(aL),aEO [.ac4 a' o n] y aL=km B∨∃bw iG,aEO [.ac4 a' o n] y aL=km (c bw)∧bw.z=a'.z∧bw=a'.adW (aiM aL iG):=by injections y;rw[nR];injections a' o n aL;induction y using af.bA.ae with|ac4 vs hM dG=>replace b:(!(vs.de (aGR 8))&&!(vs.de (aHn 8)))=G:=b;rw[sB N.c3 N.alG];delta aEO;dsimp only;rw[mX Lf fun ψ=>Lf fun ψ=>Lf fun cu=>?_,od,qK,mX .bF ⟨_,_,e,?_,cr (fun ac=>a'.adW ac) (funext (nF (by induction j using af.bA.ae<;>rfl)))⟩,mW ah1.adP fun t=>cu (N.anq.2 (.bT (ay8.2 t)))]|_=>exact qN
def Adx:∀{E}{h}{is}{f}(sa:qB),wR (.acf is f):=by rw[mY E h is f,mY sa,mY aI U am dC bf ei aL H mp st l r' w bJ,mY fl k X aW bb aN cJ bG bX av t,o_ Bz VJ,mZ bG];rintro a' z1 bz ag0 e2 e ag;rw[ú ag,mX Hz ag fun dQ dW f8 iw aaO=>?_,aV9 aDI,o3,tl IS,nu,mY i jN av,rP aDI o9 jN,pv AU av bW aiw d,m3 AC (D8 (cr _ d)),mZ av d];rintro e e e;rw[m1 (swapsWithSole [.ac4 a' z1 bz] ag0 e2.iG aL=km Y) (by clear ag dW f8 aaO;induction ag0 using af.bA.ae<;>(rfl)),mY hs];simp only[exec_Assign_arm];rw[zo aqf,hs,zo fX,aSv,mX dH (sa aN cJ.iM aaO bX.f3 bX.ok ct fun cM Q t1 cX I bQ ft=>?_)];have e3:=bX.iU cJ I bQ;rw[m3 Bt ft,mZ ft];rintro ad cR xs o e no d hc hd aB cy;rw[aTo aV cy.z,rf (P_ (mp:=mp) dQ) a1 a2 a3];have eb:=PT aiw;have aDq:∀{h2:b8},b8.al8 Q.eU.c5 Q h2→tc Q.bg (w4 h2.bg):=fun dt g p d=>dt g p (rb (by simp only[a,B9]at d;rw[pd d])) d;rw[nt (Ab2 f8 a' z1 bz aL)];rintro eh;rw[m9,mY J,vX,ng];rintro bw iG eh au2 ahA;rw[m8,eh,zo fX,m6 (m7 (sb d3 (do assignAll _ [m7 ci];km _) _)),tC dH,m6 (m7 (sb d3 (sF ci) _))];simp only[arm_assign_Tuple];rw[zo aqf,mX (qq af.wpAny_unpack_tuple aN.fk aRs (by rw[a2,eb,aV]) a3 ?_),mY h2 dt];have agN:=aDq dt;have L:=bQ.B0 agN;rw[m2 (e3.iU cJ L (bQ.g0 agN)),mY f9];exact jh (s0:=k) cJ _ _ i _ H _ t1 l _ a1 f9 (cy.bx L) aiw fun h3 j9 afR k' Z=>fX (oJ _ k' ((aRO).ah Z) e);rw[eh,zo fX,m1 (bw.z=xs.c5) (by rw[au2,aV,←eb,←a2,mZ au2 ahA eh a1 a3 aiw eb];(have:∀(a':r af.bA),qp amr a' aL=a'.z:=fun a'=>qb a' (by rfl) v a' (by induction v using af.bA.ae<;>(rw[m6 ((_::m7 amr).z=_)];simp[ih])));exact ww aa _),mY aiu,m6 (m7 (sb d3 (do rule _;let eD←sF unpackItems;axH (bw.aba.au fun h=>bindName _ h) _;km _) _)),mX dH (aLO (dH ?_)),aiu,mX (qq af.wpAny_unpackItems_tuple aN.fk aRs ?_),mY h2 dt];replace agN:=aDq dt;replace L:=bQ.B0 agN;rw[m2 (e3.iU cJ L (bQ.g0 agN)),mY f9,m2 (OS (mp:=mp) _ dQ (by rw[←ahA,mW au2])),mY st];rw[←ahA]at st;refine dH (oM (jh (s0:=k)) cJ _ H _ t1 l _ st f9 (cy.bx L).aba (nb (PU iw eb) aiw) fun h3 j9 afR k' Z=>fX (oJ _ k' ((aRO).ah Z) e))
set_option backward.match.sparseCases false
def No{cg gn:Type}(ac:cg→gn):∀(i:Ì)(aq),(i.au ac).aua aq=(i.aua aq).au ac|[],_=>e|tq,0=>e|wN,xk=>rA (No ac i aq)
def jy.del{b}{X}{o}{n}:∀{i}{xs}{aq},aPq→aNN xs.au→Ä xs=c (o,n)→jy b X (aep o i) (xs.aua aq):=tV lj lj (by intro _ aq l _ d;rw[mZ f,tF];simp at d) ll i (by induction ll using fK.ae with|mk f aP=>intro _ aq l cO d;rw[m3 Co l,n2];rintro akA j cy e c6 dn dA ek x;rw[r.gI,r.l6]at cO;rw[uL aq (by clear ih;simp only[r.aoJ,ap.c.fV,fK.mk.fV]at d;rw[m3 Ai d,oA];(rintro e _);rw[EL,vp,mW x]) aq (by simp only[r.agv]at d;have dw:f≠o:=rb (cO.1 (r.fq.gS (Ad (o,n) (r.lI d) a.cq)));simp only[EL,cH dw,r.eraseIdx_cons_succ];exact(Cn _ j _ e c6 dn dA ek (ih x cO.2 d)))])
def TZ{o}:∀{i},qp aep o i≤i.z:=tV lj lj (by exact yk) ll i (by induction ll using fK.ae with|mk f aP=>simp only[EL];split;simp;rw[m2 ih,m5];simp;omega)
def T6:∀{b'}{V}{aI}{bb}{k}{aj f}{o}{xs}{aW}(cK:aI.in1.ib+100<mj)(ao1:(ac6 b' V).is k.aK o f)(bK:k.aK.asS (ac6 b' V) aj xs)(avg:(agf xs o).eF=G)(acH:xs.z≤af0)(t:∀aq n h' tk,Ä xs=c (o,n)→h'.asS (ac6 b' V) aj (xs.aua aq)→b8.aaQ aj k.aK h'→zu ()),aSE (delItem (nP aj) si):=by injections b' V aI bb k aj f o xs aW;intro cK ao1 bK avg acH t;have h1:=bK.ae1;rw[mX Co bK fun p Aa ep ho hc hd he aCC cu=>?_,mX aLG h1 nw af.aN.aK6 (awV af.aN.aK6 h1 af.aN.entry_dict_delitem ?_ (m7 af.aN.args_dict_delitem_2))];unfold gM.«dict.__delitem__»;rw[tC dH];unfold gM.ah2.dictSlotArgs;rw[mX dH (wpAny_notOrdered_dict h1 ?_),ő (km _),tC fX,ő (gM.ah2.takeOut aj _>>=_)];unfold gM.ah2.takeOut;rw[zo ae9,mX dH ((ac6 _ V).av6 cK ao1 ?_),mX dH (nI wpAny_dictFind_heap knd (ac6 _ V) k (aNR (k.ce+(ac6 _ V).at3 o)) cK ao1 ho hd he aCC cu ?_ ?_),mY ajF];rw[atKey_none_of_get ajF]at avg;cases avg;rw[mY aq n cQ,mX dH (wpAny_dictEntries (k:=aNR (k.ce+(ac6 _ V).at3 o)) ho hd ?_),entry_at he aq,cQ,m1 (Aa.c5≤af0) (nb (aK0 he) acH),mY ak8,mX dH (aVg (nI wpAny_updateDictKeys hz ak8 k (aNR (k.ce+(ac6 _ V).at3 o)) ho hd)),mX dH (aLL (fX (Ad _ e (t aq n _ _ cQ (n7 Cn (b8.get?_update_self _ ho (k_.isFreed_of_dict (k_.aGX hd _))) (hc.mapDictKeys _) (k_.aGX hd _) ?_ ?_ ?_) (b8.aaQ.ae2 ..)))))];(have ao0:aq<Aa.c5:=nb (aK0 he) (aOC cQ));rw[fE.aub,azX ao0,fE.aLp,he,No,tr,mW (ac6 _ V).g0 (aCC j (r.mem_of_mem_eraseIdx J)) ho hd (b8.aaQ.ae2 ..),mW (r.axq.au _ (r.eraseIdx_sublist ..)).nodup cu]
def T7:∀{b'}{V}{aI}{bb}{k}{i ed}{abE}{lo}{o}{aW}(aB:k.aK.bg i=c (ahI #[] o))(hs:k.aK.aqs ed abE .B .B)(Av:asX abE lo)(t:∀h',b8.aaQ i k.aK h'→h'.bg i=c (ahI #[] o)→aW () (aU9 h')),aSE (delItem (nP i) (nP ed)):=by injections b' V aI bb k i ed abE lo o aW;intro aB hs Av t;have hL:k.aK.ajc i #[]:=(AP _ aB e (qS o));refine AF (id hs) fun os aiv auL afD=>?_;have arp:k.aqC (nP ed) "slice":=(Ad os aiv auL);rw[mX aLG hL.ae1 nw af.aN.aK8 (awV af.aN.aK8 hL.ae1 af.aN.entry_list_delitem ?_ (m7 af.aN.args_list_delitem_2)),ő (gM.r.aJ7 _>>=_),tC dH];unfold gM.r.aJ7;refine dH (aLP arp slice_no_index ?_);dsimp only[ap.aJJ,fU];rw[tC fX,ő (typeOf _>>=_),mX dH (aLS arp ?_),aSv];rw[listSliceParts_eq,mX dH (dH (aqd aiv afD (j:=.B) e (dH (aFc .B ?_)))),qJ cH (¬((rawPart B==awb 0)=G)) N.aoC,mX dH (aqd aiv afD (j:=abE) e (dH (aFc Av ?_))),mX dH (aqd aiv afD (j:=.B) e (dH (aFc .B (fX ?_)))),tC (dH (H:=gM.r.aJ6 _))];unfold gM.r.aJ6;rw[mX dH (aVg (aFe aB e)),mX dH (aLN (sliceIndices_raw _ B B _ (by simp)) ?_),zo aLO,tC dH,m6 (m7 (sb d3 (updateSeq i _) _)),mX aFf aB e ?_ aOw aOw,mX dH (aLL (fX (Ad _ e (t _ (b8.aaQ.ae2 ..) ?_)))),mW af.asW.ae2 aB _]
def T5:∀{w bJ}{q}{o}(b:aq3 w q o=c bJ),∃i,aUM∧(l4 o=G∧o.im jA=G∧(kx o i).eF=G)∧bJ=tn (.bE (aep o i)):=by rw[mY w bJ q o,nR,nD (J4 b) i f b,mX Bc b fun g b=>?_];have g:=(N.c3 ..).mp g;exact(AP i f ⟨g.1,(N.c3 ..).mp g.2⟩ aRn)
def Adg:∀{E}{h}{f o}(sa:qB)(aaK:pW o),wR (.agn f o):=by injections E h f o;intro sa aaK;injections aI U am dC bf ei aL H mp st l r' w bJ;rw[mY fl k X aW bb aN cJ bG bX av t,o_ AA VB,mZ bG];rintro p q z1 bz e ag;rw[aSN,mZ ag];intro _ ag;rw[qu,aV9 aa8,o3,tl Cx,nu,mY am2 mH av,rP aa8 (.D am2) mH,oi,nu,mY J,tQ e6,wP,pv AU av acl e9 d,mZ av,m3 AC (D8 (cr _ d)),mZ d];rintro e e e;rw[m3 AF (T5 e9),mZ e9];rintro i Ab aG e;refine aLD (aLH (aLJ (sa aN cJ.iM rX bX.f3 bX.ok ct fun afX Q t1 cX I bQ bW=>?_)));have e3:=aTK;rw[mX (aU2 (qq aaK) x' e3.ok gx fun kQ h2 d2 g5 L c7 fh=>?_),mZ gx];have f9:=e3.iU cJ L c7;rw[so bW.bx L,mZ bW,ù,nD (c7.hC.at Ab) cw dg ef,mZ Ab,aN1,nf dg,mZ dg,mY dg,xg];obtain⟨bj,aB,xs,hD,aj⟩:=ef;have agN:=fh.dx jA (nj aG);rw[qO e6 ay agO (by rw[m3 AA (id agN),mZ fh,aUl aiF];(have cO:aNN xs.au:=by rw[mX Co hD fun P P P P P P P P cO=>?_,mW cO]);rw[mX (nI T6 k aV0 o aSj aN.apZ (AE Ť (nj aG) agN) hD ?_ (nb aj.c9 aSI) fun aq aNo h3 j9 cQ aB8 awg=>?_),nt (aj.ahK aSj),mY J,nV,ng];(rintro a _);rw[m9,mY J,ri B8,ng];(rintro fD dE g4 _ a _);rw[m8];have:=nW aG;rw[o6 a];cases aa;rw[a];rfl;(rw[ot (c7.Ig (o':=.bE (aep aSj i)) ba qN awg (aVk aB8) fun Z=>(AE bj (qm (by have:=nI TZ o aSj i i)) (vU aB8 ((aj.del cO cQ).bx Z)))) Z ic]);exact aLI (oJ H (f9.iU cJ Z ic) ((aRO).ah (f9.Aa Z)) e)) (by cases Ť)]
def Adf:∀{E}{h}{f o}(sa:qB)(aaK:pW o),wR (.amA f o):=by rw[mY E h f o,mY sa aaK,mY aI U am dC bf ei aL H mp st l r' w bJ,mY fl k X aW bb aN cJ bG bX av t,o_ Bz VA,mZ bG];rintro p lo z1 bz e2 e ag;rw[qu,oi,nu,mY J,pP aa8,o3,tl Cx,nu,mY am2 mH av,rP aa8 (.D am2) mH,oi,nu,mY J,tQ aJP,wP,pv AU av acl e9 d,nu,m3 AC (D8 (cr _ d)),oA];rintro e e e;rw[nD (Cl e9) aq akP gy,mZ e9,rP aJP Ė akP,nD (Gf gy) i Ab aaj,mX Bc aaj fun aG atd=>?_,mZ aaj,mZ gy,pD (ap.c.dB atd),aUe aG aG,pD (r.alq.mp Ť),mX aLD (aLH (aLJ (sa aN cJ.iM rX bX.f3 bX.ok ct fun afX Q t1 cX I bQ bW=>?_)))];have e3:=bX.iU cJ I bQ;refine dH (aU2 (qq aaK) x' e3.ok gx fun kQ h2 d2 g5 L c7 fh=>dH (ae9 (fX (dH (aVg ae9)))));have f9:=e3.iU cJ L c7;rw[o8 fh,mZ fh,oc v,mX (wf GO c7 fun s' P Aa Z ic=>?_),mZ P];subst Aa;have k':=f9.iU cJ Z ic;rw[m3 BW (Dv ic ((bW.bx L).bx Z) Ab),mZ bW];rintro n xs aM9 ba e K aB cy;rw[m1 (xs=#[]) (by rw[m2 cy.z,m5];apply fE.aEV.mp;exact r.eq_nil_of_length_eq_zero aa),mY aJr];subst aJr;rw[mX (wm T7 (h2.g' (af1 (u2 aq) .B .B)) d2 K (b8.aqs.lJ ..) (u2 aq) fun h4 bh CW=>?_),wH (ic.GF (l':=[]) Ab ba bh CW aOw fun x4=>cy.bx x4),mY x4 amd,m1 (dm.b6 _ nx=dm) (by rw[mX r.aig fun a=>?_,nH t am2 a,sA,m2 (aOC Ab),mY jf,r.akX jf,Ab];rw[r.agx t]),mY auv];simp only[auv]at amd;exact aLI (p5 t d2 H (k'.iU cJ x4 amd) (((aRO).ah (f9.Aa Z)).ah (k'.Aa x4)) e)
def W8{gn:Type}{h f}{y}{i:aOz gn}(b:(h==f)=G):((f,y)::i).cm h=c y:=tg (Ŧ (((f,y)::i).cm h=(match h==f with|G=>qv|Y=>i.cm h))) b
def W7{gn:Type}{h f}{y}{i:aOz gn}(b:(h==f)=Y):((f,y)::i).cm h=i.cm h:=tg (Ŧ (((f,y)::i).cm h=(match h==f with|G=>qv|Y=>i.cm h))) b
def AdK{bw:r af.bH}:∀{vs:vm},bw.fF→bw.z=vs.z→∀h∈bw,((bw.k8 vs).cm h).eF=G:=qb bw (by rw[mY vs _ _ h b,mW ej b r.aaE]) f bw (by rw[mY vs cO aB h b,oS vs (by exact u.cs aB) y vs (by rw[nH t h f,mW (uU (W8 (lb.gS t))),mW (uU (W7 (acw t))).ah (ih (r.l6.mp cO).2 (u.gk.dB aB) h ((r.gA.mp b).aEs t))])])
def UO{cg gn:Type}{ac K:vH cg gn}:∀i:Ì,(∀h∈i,ac h=K h)→i.adW ac=i.adW K:=tV i i (by intro _;rfl) j i (by rw[nR,r.aoD,r.aoD,b j uA,ih fun h cu=>b h (zw cu)])
def AdL:∀{bw:r af.bH}{vs:vm},bw.fF→bw.z=vs.z→bw.adW (fun h=>((bw.k8 vs).cm h).au (h,·))=bw.k8 vs:=tV bw bw (by intro vs _ b;(rw[oS vs (by rfl) _ _ (by exact u.cs b)])) f bw (by rw[mY vs cO aB,oS vs (by exact u.cs aB) y vs (by rw[r.l6]at cO;rw[m2 (ih (vs:=vs) cO.2 (u.gk.dB aB)),mY ih];simp only[r.aL2,r.aoD];rw[aR0 r.aa5 aaU,mX (uU (ack.ah (UO _ fun h cu=>?_) ih)),m1 ((h==f)=Y) (acw fun a=>cO.1 (a▸cu)),mY aeT,aeT])])
def Abw:∀{ag}{aI}{bb}{k}{aj}(hd:aj=.B∨∃O p eD o,aj=nP O∧aUB O∧p.fS=.ia eD o),d3 ag aI (seqItems? aj) (fun P s'=>s'=k) bb k:=by rw[mY ag aI bb k aj,mY hd,nY hd hd,n8,tp (by rw[ri JO])];rintro O p eD o e d a;rw[m8,mW fX e,mW aFe d a e]
def OD{ag}{aI}{bb}{k}{dc}{aW}:∀(i:aOz ck),(oG i ((dc.cm sz).eF=G))→aW dc k→v3 (are i dc (fun j l=>wB (r.cm sz l).mL (km (ama.anC (l++[(sz,j.2)]))) (km (ama.anC l))))|[],_,t=>fX t|wN,b,t=>by rw[r.arf,m2 (b j uA),mY J,m1 (¬((m7 r.cm).mL=G)) (by rw[ap.am5,mY a];rw[a]at J;injection J),mY cu,cH cu,mW dH (fX (OD i (aOf (b ab (zw b0))) t))]
def Kk{ag}{aI}{gn}{g}{j ab}{aW:t7 gn}{bb}{k}(b:g=Y)(o:d3 ag aI ab aW bb k):v3 (wB g j ab):=nb (cH (rb (N.cs (b.cq.ah a)))) o
abbrev aEe(fd:amb):amb:={fd with dX:={fd.dX with asm:=[],asD:=B,apr:=[],arY:=B}}
def ZO{fd}(Q:fd.dX.asm=[])(h2:fd.dX.asD=B)(h3:fd.dX.apr=[])(h4:fd.dX.arY=B):aEe fd=fd:=by induction fd using amb.ae with|mk cB jV dX aqX d_ aoK at0 dV kV mm pm an jL ac7 lc=>induction dX using al3.ae with|mk po atp acZ aJY A2 aJZ ds=>rw[m1 (po=[]) Q,mZ Q,mY Q,m1 (acZ=B) h2,mZ h2,mY h2,m1 (aJY=[]) h3,mZ h3,mY h3,m1 (aJZ=B) h4,mZ h4,mY h4];subst Q h2 h3 h4;rfl
def RZ:∀{k}{fd}{vs}{ag}{aI}{bb}{aW}(cO:(fd.dX.ec.au (·.iX)).fF)(aB:rH fd.dX.ec.au (·.iX)=vs.z)(hd:fd.iL=.B∨∃O p eD o,fd.iL=nP O∧aUB O∧p.fS=.ia eD o)(cG:aW ((fd.dX.ec.au (·.iX)).k8 vs) k),v3 (ay5 (aEe fd) (yY vs)):=by injections k fd vs ag aI bb aW;intro cO aB hd cG;have hE:=AdK cO aB;rw[zo fX,mX dH (aqe (Abw hd) (fun at0 s' d=>?_) (wc j j)),mZ hd,oT];(have gW:∀o,(r.afu (fun h=>(r.cm h ((r.au (nF j.iX) fd.dX.ec).k8 vs)).mL) (r.gu o (r.au (nF j.iX) fd.dX.ec)))=[]:=fun o=>by rw[mX r.aHi.gS fun h cu a=>?_,m2 (hE h (r.aDP cu)),mY v];rw[ap.am5.mp a]at v;exact yX v);rw[m1 ((b1 (vs.z>(r.au (nF j.iX) fd.dX.ec).z)&&(B:ap aL5).mL)=Y) (qZ (sr (r.au (nF j.iX) fd.dX.ec).z vs.z aB) (jq (u.apy _))),mY g1,m3 Kk g1,m3 Kk (cr (fun i:r _=>aPX) (gW _)),mX dH (OD _ (fun j J=>hE _ (r.aDO (r.avX J).1)) ?_),zo fX,m3 Kk e,mW fX (ack.gS (cr (te (aW i _)) ((uU (r.afl _)).ah (AdL cO aB))) cG)]
def RY:∀{k}{fd}{vs}(Q:fd.dX.asm=[])(h2:fd.dX.asD=B)(h3:fd.dX.apr=[])(h4:fd.dX.arY=B)(cO:(fd.dX.ec.au (·.iX)).fF)(aB:rH fd.dX.ec.au (·.iX)=vs.z)(hd:fd.iL=.B∨∃O p eD o,fd.iL=nP O∧aUB O∧p.fS=.ia eD o),aFn k fd (yY vs) ((fd.dX.ec.au (·.iX)).k8 vs):=by intro k fd vs Q h2 h3 h4 cO aB hd ag aI bb aW cG;rw[←ZO Q h2 h3 h4]at⊢;exact RZ cO aB hd cG
def Hh:∀(bw)(h)(ajf:aOz d8)(lo:u),lo≤h→(∀n∈ajf,lo≤nh∧nh<h)→ajf.ahg (fun j ab=>j.2≠ab.2)→(∀n∈aqW h bw ajf,lo≤nh)∧(aqW h bw ajf).ahg (fun j ab=>j.2≠ab.2)|[],h,ajf,lo,_,b,ba=>⟨fun n cG=>(b n cG).1,ba⟩|(j,A2)::bw,h,ajf,lo,aB,b,ba=>by unfold aqW;split;rw[mX Hh bw nB ((j,h)::ajf) lo (u.ahH aB) (fun n cG=>?_) ?_,nt (r.gA.mp cG),n8,m9];rintro cG;rw[m8,mW ⟨aB,u.aiI _⟩,mW ⟨(b n cG).1,u.lt_succ_of_lt (b n cG).2⟩];simp only[r.apS];rw[mW ⟨fun n cG=>ww u.ahM (b n cG).2,ba⟩,mW Hh bw h ajf lo aB b ba]
def Pr{kd:aOz d8}(ba:kd.ahg (fun j ab=>j.2≠ab.2)){j ab}{x}(J:(j,x)∈kd)(b0:(ab,x)∈kd):j=ab:=qb kd (by cases J) n kd (by simp only[r.apS]at ba;rw[nt (r.gA.mp J)];rintro aV;rw[m9];rintro Q;rw[m8,nt (r.gA.mp b0)];rintro bj;rw[m9];rintro h2;rw[m8];simp only[←aV]at bj;rw[mW (rz (fK.mk.dB bj).1),m2 (ba.1 _ h2),mY aa];rw[←aV]at aa;rw[mW (t' aa e),nt (r.gA.mp b0)];rintro bj;rw[m9];rintro h2;rw[m8,m2 (ba.1 _ Q),m5];rw[←bj]at aa;rw[mW (t' aa e),mW ih ba.2 Q h2])
def MG{azg}:∀{kd}{hr}{j}{x},aMd azg kd hr→rR kd.cm x→∃p,(x,p)∈hr∧p.fS=.gh (azg j):=by intro kd hr j x l;induction l with|C=>rw[nR,mW Aq b]|@s h c' p kd hr hd l ih=>rw[nR,xi r.aa5,nH t j h,mZ ih,sA,pr aaU,nf b,om,mY b,pq,mW Ad p uA hd];rw[acw t]at b;rw[nD Ű o' f g,mW (ql (zw f) g)]
def Mb{A2}{j}:∀(bq)(H),j∉bq.au (·.1)→akE A2 bq H j=H j|[],_,_=>e|(h,y)::bq,H,b=>by unfold akE;rw[Mb bq _ (rb (b (zw a))),m1 (j≠h) (aQq b uA),mY t];split;simp[t];rfl
def Ma{A2}{j}:∀(bq)(H),j∉bq.au (·.1)→an6 A2 bq H j=H j|[],_,_=>e|(h,y)::bq,H,b=>by unfold an6;rw[Ma bq _ (rb (b (zw a))),m1 (j≠h) (aQq b uA),mY t];split;rfl;simp[t]
def I5{A2}{j}{y}(aG:rR A2 .local):∀(bq)(H),aNN bq.au→rR bq.cm y→akE A2 bq H j=c y|(h,aP)::bq,H,cO,b=>by simp only[r.gI,r.l6]at cO;unfold akE;rw[nH t j h,sA];simp only[r.aa5,aaU,ap.c.fV]at b;rw[pq,nv Mb cO.1,c0 aG];simp;rw[m1 (â h) (o7 t),mY aeT,sB r.aa5 aeT,mW I5 aG bq _ cO.2 b]
def I4{A2}{j}{y}(aG:A2 j≠c yZ):∀(bq)(H),aNN bq.au→rR bq.cm y→an6 A2 bq H j=c y|(h,aP)::bq,H,cO,b=>by simp only[r.gI,r.l6]at cO;unfold an6;rw[nH t j h,sA];simp only[r.aa5,aaU,ap.c.fV]at b;rw[pq,nv Ma cO.1,cH aG];simp;rw[m1 (â h) (o7 t),mY aeT,sB r.aa5 aeT,mW I4 aG bq _ cO.2 b]
def QE{bw:r af.bH}{vs}:∀{q:u}{j}{y:ck},bw.fF→op bw j→op vs y→(bw.k8 vs).cm j=c y:=by induction bw generalizing vs with|C=>rw[mY q j y _ b,Ē]|s f bw ih=>intro q j y cO Q h2;simp only[r.l6]at cO;rw[oS vs (by simp at h2) aP vs (by simp only[r.aL2];rw[uL q (by simp only[r.aoJ,ap.c.fV]at Q h2;subst Q h2;simp) q (by simp only[r.agv]at Q h2;rw[m1 (j≠f) (aQq cO.1 (r.lI Q)),mY t,m1 (â f) (o7 t),mY aeT];simp only[r.aa5,aeT];exact ih cO.2 Q h2)])]
mutual
def db.eJ{b:b8}{X:eW}:∀{f:ar}{y:ck},db b X f y→f.eJ X.bN.z=G|.B,_,_=>e|vq,_,_=>e|xl,_,_=>e|uW,_,_=>e|o9,_,l=>by rw[Ù,n2];(rintro f p xs h e no d hc hd aB t);rw[m6 (ar.abd _ i=G),mW d4.eJ t]|q1,_,l=>by rw[Ù,n2];(rintro f p xs h e no d hc hd aB t);rw[m6 (ar.abd _ i=G),mW d4.eJ t]|n3,_,l=>by rw[m3 Ac l,n2];rintro n d e;simpa[Fx,Fy,Fz,FA,FB,FC,FD]using aOC d
def d4.eJ{b:b8}{X:eW}:∀{i:nC}{vs:vm},yB→ar.abd X.bN.z i=G|[],_,_=>e|qi,_,l=>by rw[tR,n2,aPj];simp only[Eu,Ev,N.c3];exact⟨db.eJ f,d4.eJ g⟩
end
structure ag9(cI X:eW):Prop where
 bN:∃d,cI.bN=X.bN++d
 fL:X.fL=cI.fL
def ag9.hP{X cI}(j:aTs){f}(b:ka cI f):ka X f:=by rw[uy j.bN d he,mW ⟨ue (od (nb he (Dz.gS (pp t)))),nb j.fL qK⟩]
mutual
def db.mx{b:b8}{X cI:eW}(j:aTs):∀{f:ar}{y:ck},f.eJ X.bN.z=G→db b cI f y→db b X f y|.B,_,_,l=>l|vq,_,_,l=>l|xl,_,_,l=>l|uW,_,_,l=>l|o9,_,aP,l=>by rw[Ù,n2];(rintro f p xs h e no d hc hd aB t);exact(Cs f p _ h e (j.hP no) d hc hd aB (d4.mx j aP t))|q1,_,aP,l=>by rw[Ù,n2];(rintro f p xs h e no d hc hd aB t);exact(Cs f p _ h e (j.hP no) d hc hd aB (d4.mx j aP t))|n3,_,aP,l=>by rw[m3 Ac l,mZ l];rintro n d e;rw[uy j.bN bj he,m2 (by simpa[Fx,Fy,Fz,FA,FB,FC,FD]using aP),mY Ab];rw[he,r.jP Ab]at d;exact(Ad n d e)
def d4.mx{b:b8}{X cI:eW}(j:aTs):∀{i:nC}{vs:vm},ar.abd X.bN.z i=G→d4 b cI i vs→yB|[],_,_,l=>l|tq,_,aP,l=>by rw[tR,n2,aPj,aR6 Eu Ev aP,mW Au y _ e (db.mx j aP.1 f) (d4.mx j aP.2 g)]
end
def j0.eJ{b}{X}:wD e1 (aPp→(aN4 (aTD nh))=G)|[],_,_=>e|ā,_,l=>by rw[m3 At l,n2];rintro j cy e g x;simp only[r.aem,j0.eJ x,g.eJ];rfl
def j0.mx{b}{X cI}(j:aTs):wD e1 ((aN4 (aTD nh))=G→j0 b cI i e1→aPp)|[],_,_,l=>l|ā,_,aP,l=>by rw[tR,n2];rintro ab cy e g x;simp only[r.aem,N.c3]at aP;exact(Au ab _ e (g.mx j aP.1) (j0.mx j aP.2 x))
def jy.eJ{b}{X}:wD xs (aPq→(aN4 (aTD nk&&aTD nh))=G)|[],_,_=>e|ā,_,l=>by rw[m3 Co l,n2];rintro f ab cy e g x aj d ac;simp only[r.aem,jy.eJ ac];simp[aj.eJ,d.eJ]
def jy.mx{b}{X cI}(j:aTs):wD xs ((aN4 (aTD nk&&aTD nh))=G→jy b cI i xs→aPq)|[],_,_,l=>l|ā,_,aP,l=>by rw[m3 Co l,n2];rintro f ab cy e g x aj d ac;rw[aR6 r.aem N.c3 aP,mW Cn f ab _ e g x (aj.mx j aP.1.1) (d.mx j aP.1.2) (jy.mx j aP.2 ac)]
def jI.eJ{b}{X}{V}:wD Aa (aPv i→(aN4 (aTD nh))=G)|[],_,_=>e|ā,_,l=>by rw[m3 BW l,n2];rintro d cy v e f g x aj;simp only[r.aem,jI.eJ aj,x.eJ];rfl
def jI.mx{b}{X cI}{V}(j:aTs):wD Aa ((aN4 (aTD nh))=G→jI V b cI i Aa→aPv i)|[],_,_,l=>l|ā,_,aP,l=>by rw[m3 BW l,n2];rintro d cy v e f g x aj;simp only[r.aem,N.c3]at aP;exact(CH d _ v e f g (x.mx j aP.1) (jI.mx j aP.2 aj))
def mC.eJ:∀{b}{X}{b'}{V}{eR}{p}{n}(l:mC b' V eR b X p n),p.eJ X.bN.z=G:=by rw[mY b X b' V eR p n,mY l];induction p using c_.ae with|aw i=>(obtain⟨_,_,_,_,_,t⟩:=l);exact t.eJ|bE i=>(obtain⟨_,_,_,_,t⟩:=l);exact t.eJ|bM i=>(obtain⟨_,_,_,_,t⟩:=l);exact t.eJ|bS x fs=>obtain⟨_,_,_,_,_,t,_⟩:=l;exact t.eJ
def mC.mx:∀{b}{X cI}{b'}{V}{eR}(j:aTs){p}{n}(aP:p.eJ X.bN.z=G)(l:mC b' V eR b cI p n),mC b' V eR b X p n:=by injections b X cI b' V eR;intro j;injections p n;intro aP l;induction p using c_.ae with|aw i=>(obtain⟨f,xs,h,d,aB,t⟩:=l);exact qd f (Au _ h d aB (t.mx j aP))|bE i=>(obtain⟨f,aB,xs,hD,t⟩:=l);exact(AE f aB (vU hD (t.mx j aP)))|bM i=>(obtain⟨f,aB,e1,hD,t⟩:=l);exact(AE f aB (vU hD (t.mx j aP)))|bS x fs=>obtain⟨f,Aa,h,d,aB,t,cO⟩:=l;exact qd f (Bx _ h d aB (t.mx j aP) cO)
def Y'{h}:∀{w a4}{q:u}{f g},adt h w a4=G→op w f→op a4 g→f=g∨g.eJ h=G:=tV w w (by rw[mY a4 q f g _ aV,mW Aq aV]) j w (by rw[mY a4 q f g b aV bj,oS a4 (by rw[sT]) ab a4 (by replace b:=N.fY.mp b;rw[uL q (by rw[p2 aV,pi,p2 bj,pi,mW (N.anq.mp od).imp_left cD]) q (by exact ih qK aV bj)])])
def Pf{h}:∀{w a4},adt h w a4=G→w.z≤a4.z|[],_,_=>aOw|_::w,_::a4,b=>by simp only[Gz,GA,GB,N.c3]at b;rw[m2 (Pf qK),m5];simp;omega
def cT.cF{E}{U}{am}{H}{b bf}{X cI}{w a4}(axo:aah E.b' E.V E.eR bf X w)(aC:t3 b cI a4)(j:aTs)(ok:adt w.z w a4=G):cT E U am H b X (a4.gu w.z):=by rw[uy j.bN d he];have eb:X.bN.z=w.z:=axo.c9;rw[m2 (Pf ok),mY b7,mX ⟨aC.fr,⟨?_,fun q p n f g=>?_,?_⟩,fun g t=>aC.hP g (nb he (Dz.gS (pp t))),fun g t=>aC.lx g (uq j.fL t)⟩,eb,r.aiG];omega;(have Ab:q<w.z:=q7 (r.gF.mp g).1 (aQO (aV7 [X.bN.z,r.z w,q]) (Az eb) aa));rw[r.aBY Ab]at f;rw[m1 (op cI.bN n) (tL he (r.jP (m4 (Am [X.bN.z,r.z w,q] (a8+1) S ai S (a8+1) ai e (AN eb) Ab))) g),mY bZ,m2 (aC.hC.D q p n f bZ),mY l];(have aM:op w w[q]:=rA Ab);rw[m1 (p.eJ _=G) (by rw[nt (Y' ok aM f),wC,m9,wC,m8,←a,mW (axo.D q _ n aM g).eJ,eb,mW a]),mY aP,mW l.mx j aP,m2 aC.hC.akD,m5];rw[he,r.aKG]at aa;exact aa.1
set_option backward.match.sparseCases true
structure aFF(E:iJ)(f:d8)(fn:dk)(cB jV:af.bH)(dX:al3)(bD:r af.ee)(d_:kq)(dV kV mm pm jL ac7 aZ:ck)(an acQ:ap d8)(aj8:fE (ap ck)):Prop where
 ho:E.M.cm f=c ⟨aZ,acQ,.akV aWp,aj8⟩
 aqX:codeIn E.M jL jV=G
 dN:dX.asm=[]
 dG:dX.asD=B
 fH:dX.apr=[]
 aiP:dX.arY=B
 ec:dX.ec.au (·.iX)=(fn.bw.au af.bH.dF).gu fn.c8
 atp:fn.c8≤fn.bw.z
 cO:(fn.bw.au af.bH.dF).fF
 ahF:oG (dX.ec.au (·.iX)) (rR d_.bw.cm .local∨rR d_.bw.cm .gh)
 aze:((aqW 0 d_.bw []).au (·.1)).fF
 aj1:oG d_.bw (j.2≠.ht)
 co:d_.aJG=Y
 gen:d_.aJH=Y
 cA:d_.cA=.abU
 dflt:dV=.B∨∃O p eD o,dV=nP O∧E.M.cm O=c p∧p.fS=.ia eD o
 bD:acO E.K (ajW fn) d_ fn.bD bD=G
abbrev ah4(E:iJ)(f:d8)(fn:dk):Prop:=∃cB jV dX bD d_ dV kV mm pm jL ac7 aZ an acQ aj8,aFF E f fn cB jV dX bD d_ dV kV mm pm jL ac7 aZ an acQ aj8
def Fb:∀{fn}{j}{q}(b:(ajW fn).cm j=c q),op (fn.bw.au af.bH.dF) j:=by injections fn j q;rw[nR,m2 (abz b),mY bK];unfold ajW at bK;obtain⟨aq,cQ,d⟩:=r.aBZ bK;rw[r.getElem_zip]at d;rw[ot (fK.mk.dB d) aV bj];rw[r.getElem_range]at bj;clear b bK d;subst bj;rw[←aV];(have adj:aq<fn.bw.z:=by simp at cQ;exact cQ);simp[adj]
structure ai9(E:iJ)(h:u)(aI:lT)(U:b8)(am:d8):Prop where
 fk:aI.auz=B
 eZ:tc E.bf.bg (w4 U.bg)
 ap4:∃anG eX ahs aj9,aFm anG eX aj9 U∧aI.aum=c (ahs::aj9)∧ahs.frame=c am∧ahs.d_.cA=.abU
 i1:aI.i1+3*h+8<alN
 ib:aI.ib+12*h+391<mj
def gV.x{E}{h}{aI}{U}{am}(aN:pA):ai9 E h aI U am:=⟨aN.fk,aN.eZ,aN.ap4,q7 aN.i1 (oa Ag [aI.i1,h,alN] (ro S 3+8) a8 (ro S 3+10) a8 e aa),q7 aN.ib (oa Ag [aI.ib,h,mj] (S+(tB ai)+391) a8 (S+(tB ai)+400) a8 e aa)⟩
def ai9.j{E}{h}{aI}{U}{am}(aN:ai9 E nB aI U am):pA:=⟨aN.fk,aN.eZ,aN.ap4,q7 aN.i1 (oa Ag [aI.i1,h,alN] (ro S 3+10) a8 (S+(x6 3)+8) a8 e aa),q7 aN.ib (oa Ag [aI.ib,h,mj] (S+(tB ai)+400) a8 (S+(a6.H _ nN)+391) a8 e aa)⟩
abbrev ahi(E:iJ)(h:u)(ac:u):Prop:=∀{aI:lT}{U:b8}{am:d8}{H:r8}{w bJ:ch}{vs:nC}{fM:vm}{y:ar}{k:en}{X:eW}{lW:t7 aGb},ai9 E h aI U am→q3→aQo vs fM→aO0 (bc E.O E.hU h ac vs w)→(∀cM h' tk cv,aS0→aVQ→db h' cv y cM→lW (.ok (s6 cM)) (yS h'))→amu wo aI (.bp (Ò E.ij ac) (yY fM)) lW k
def Aaz:∀{O}{cf}{fn}{vs}{w bJ}{y}(b:aO0 (aiT O cf fn vs w)),vs.z=fn.c8∧∃fl bW a4,b4 O cf fn.bD (aTL fn.dc fn.c8) w=c (fl,bW,a4)∧aO0 (if fn.cF then(nK (adt w.z w a4&&(aht fl).eJ w.z) (c (aht fl,a4.gu w.z)))else c (aht fl,a4)):=by injections O cf fn vs w bJ y;rw[nR,mX Bc b fun f b=>?_,y1 f,pI aj fn.cF (by rw[pr aj,m3 Ay b,mY J];(rcases J with(⟨fl,bW,a4⟩));(rintro g b);exact(A9 _ _ _ g b)) (by rw[pr aj,m3 AU b,mY J];rcases J with(⟨fl,bW,a4⟩);rintro g b;exact(n7 A9 g (cr c b)))]
def SU:∀{E:iJ}(bl:p9){h:u}{ac:u}{fn:dk}(b2:aVb E.hU)(ok:ah4 E aT2 fn)(bh:p_ adK fn.bD),ahi E nB ac:=by injections E;rw[mY bl,yb ac fn,mY b2 ok bh];injections aI U am H w bJ vs fM y k X lW;rw[mY aN aC ft av t,m2 aN.j,mY anL,mX HC ok fun cB jV dX bD d_ dV kV mm pm jL ac7 aZ an acQ aj8 ao=>?_,m1 (aO0 (aiT E.O aWv fn vs w)) (by rw[m1 (aO0 (match(generalizing:=false)E.hU ac with|c fn=>aiT E.O aWv fn vs w|B=>B)) av,m5,o6 b2,mW aa]),nu,mY av];obtain⟨aoR,fl,bW,a4,ct,av⟩:=Aaz av;rw[mX ES aN.ap4 fun anG eX ahs aj9 anH iN abW auU=>?_,m1 (E.M.abJ U) (fun f p a=>aN.eZ f p (bl.cL f p a)),mY ate,m2 (bl.adB.g0 aN.eZ),mY agb];have afC:fM.z=vs.z:=ft.z;(have art:rH dX.ec.au (·.iX)=fM.z:=by rw[ao.ec,r.aiG,r.hN,afC,aoR,m2 ao.atp,m5,mW u.anh aa]);(have abY:(dX.ec.au (·.iX)).fF:=nb ao.ec (r.axq.nodup (r.aLi ..) ao.cO));rw[m1 (aFn k aWp (yY fM) aVz) (by refine RY (fd:=aWp) ao.dN ao.dG ao.fH ao.aiP abY art ?_;rcases ao.dflt with(a|⟨O,p,eD,o,f,g,x⟩);rw[mW (pp a),mW (rt (Hw O p eD o f (nv (aC.M bl anL) g) x))]),mY auH];(have aat:((aVz).au (·.1))=dX.ec.au (·.iX):=nb r.aKi (u.fp art));rw[m1 (((aVz).de fun ab=>d_.bw.cm ab.1==c yZ||d_.bw.cm ab.1==aP3)=G) (by rw[r.hp,mY ab b0,m1 (ab.1∈dX.ec.au (·.iX)) (r.avX b0).1,mY bK];(rw[nt (ao.ahF ab.1 bK),wC,m9,wC,m8])<;>simp[a]),mY aIw,m1 (aI.i1<alN) (q7 aN.i1 (oa Ag [aI.i1,h,alN] S a8 (S+(x6 3)+8) a8 e aa)),mY aI2,mX (pj (nI (nI code_defC M E.M n E.n) li E.li aaD E.aaD) mg E.mg mb E.mb aj0 (aTu k.aK) anH aC.fr ate Dm agb iN abW auU ao.ho ao.aqX aI2 auH aIw ao.aze ?_ ao.co ao.gen ao.cA),mY K jH Q tk hr ai8 abH gg ael aFl aME aMA lt];have aB0:tc U.bg (w4 K.bg):=ai8.fx;rw[mX B8 aC.fr.ns fun ano aMX aMV aes azG P=>?_,mX B8 ai8.ns fun ann aHf aHa aif atU P=>?_];have aup:tc K.bg (g<jH):=we (u.k0 (b8.anc d) abH.atf);(replace alT:tc k.aK.bg (g<jH∧(aOT→w4 Q.bg)):=we (by induction a:U.bg g using ap.ae with|c k2=>rw[m2 (aC.fr.fx g k2 a),m5,o6 d,nf aa,mZ aa,m5,uM,mW ⟨aup g p (ai8.fx g p a),nO (abH.fx g p (ai8.fx g p a))⟩]|B=>rw[nH da g am,mZ aN aC t anL abW ai8 gg lt aes];subst da;exact⟨aup g _ aif,fun V=>t' V e⟩;replace bK:(g,p)∈aTu k.aK:=CM.gS (By d da a e);exact⟨lt _ bK,nO (gg _ (r.ar7 _ bK)).1⟩));have as0:Q.bg am=c ann:=abH.fx am ann aif;(have jn:gb am k.aK Q X X:=by rw[mX ⟨fun g p d acP P=>(sq alT).2 acP,fun g p d=>?_,fun g p a d=>⟨Ţ aC.Bd,fun o' a5=>?_⟩,aPu,e⟩,nH da g am,mZ aN aC t anL abW ai8 gg lt aes aif alT];subst da;rw[mW ⟨ann,as0⟩,mW (vK ((sq alT).2 da)),mZ aN aC t anL abW ai8 gg lt aes aif alT,uf,rl as0,nf a5,mZ a5,mY a5,vL];unfold hK;rw[atU]);(have aIr:∀g,ō→K.bg g=B∧vd jH:=fun g V=>by rw[m3 Al (aC.hC.ahJ g V),mY p d,ot (aC.hP g V) jm adD];have:=gg (g,p) (r.ar7 _ (CM.gS (By d adD jm e)));exact⟨nW aa,nj aa⟩);have bQ:cT E K jH (akE (aPO).h_ aVz (nO B)) Q X w:=⟨abH,aC.hC.g0 jn fun g p V d=>jn.fx g p d (aUy aC.hP)|>rb ((sq alT).2 (aUy aC.hP)),aIr,fun g V=>⟨(aC.lx g V).1,let(xc):=aUy aC.lx;sq jn.ix⟩⟩;(have akU:∀g,jH≤g→k.aK.bg g=B:=fun g aoU=>by rw[vz d (k.aK.bg g) (by exact ej (sq alT).1 (u.aa6.gS aoU))]);(have aHs:∀g,jH≤g→K.bg g=B:=fun g aoU=>by rw[vz d (K.bg g) (by exact ej (sq aup) (u.aa6.gS aoU))]);have aD3:∀g,jH≤g→ka X g:=fun g aoU=>aC.DY (akU g aoU);have cl:=oa Hh d_.bw jH [] jH yk (fun n ba=>aT1) .C;have agF:∀j x,(aPO).hr.cm j=c x→jH+1≤x:=fun j x d=>cl.1 (j,x) (abz d);have aj1:∀j,d_.bw.cm j≠c .ht:=fun j d=>ao.aj1 _ (abz d) e;(have iM:ma aPO d_:=by rw[mX ⟨ao.cA,e,e,fun j d=>d,fun j d=>d,fun j d=>d,fun j d=>?_⟩,nY d d,y2,m9,y2,m8,mW ap.alr.mp (azf d_.bw (jH+1) [] (pp d)),mW (aj1 j d).az]);rw[m1 (ah3 E K jH am k.aK X aPO (ajW fn)) (by rw[mX ⟨iM,e,akU jH yk,⟨ano,aes⟩,fun V=>(aC.hP am V).2 e,fun j x d=>(AE (akU x (u.ajQ aVn)) (u.alE aVn) (aHs x (u.ajQ aVn))),fun j ab x aV bj=>Pr cl.2 (abz aV) (abz bj),fun j ab q aV bj=>?_⟩,m2 (Fb aV),mY z1,m2 (Fb bj),mY bz];rw[z1]at bz;exact ap.c.dB bz),mY cJ,m1 (gV E h (aI.deeper aPO) K jH) (by rw[mX ⟨aN.fk,we (aB0 g p (sq aN.eZ)),(EO aI eX _ (ahs::aj9) aFl (lT.aHq iN) e ao.cA),?_,?_⟩,m2 aN.i1,m5,m6 (aI.i1+1+3*h+10<_),mW (oa Ag [aI.i1,alN,h] (sn nm 3 a8+10) ai (S+(tz 3 pR)+8) ai e aa),m2 aN.ib,m5,m6 (aI.ib+3+12*h+400<_),mW (oa Ag [aI.ib,h,mj] (ro wQ 12+400) a8 (S+(x6 12)+391) a8 e aa)]),mY asT];(have aoc:∀j x,(aPO).hr.cm j=c x→∃p,Q.bg x=c p∧p.fS=.gh (an6 (aPO).h_ aVz (nO B) j):=fun j x d=>by rw[m3 Ac (MG ael d),mY p a1 a2,mW Ad p ((gg _ (r.alz _ a1)).1) a2]);rw[m1 (jJ E K jH am k.aK X aPO (ajW fn) (akE (aPO).h_ aVz (nO B)) Q X (aTL fn.dc fn.c8) w) (by refine⟨bQ,fun j q hJ J aG br=>?_,jn,fun j x d=>?_⟩;(have Ab:q<vs.z:=by rw[y7 a vs.z,mW a];rw[Ô r.aih a]at br;rw[r.aHv]at br;split at br<;>cases br);rw[Ô r.jP Ab,r.adf]at br;rw[so ap.avK.mp br,mZ br,mY dE gj a5,nf a5,yR,mY a5,vL,nD (ft.i3 gj) fD ab0 awd,m2 (Fb J),mY abt];(have afz:(aVz).cm j=c fD:=by rw[mX QE abY ?_ ab0,ao.ec,r.aBY (m4 (aQO (aV7 [vs.z,fn.c8,q]) (Az aoR) Ab)),mW abt]);rw[mX Ad fD ?_ (awd.bx jn)];rcases aG with aG|aG|aG;rw[mW (zj aG (pp (wz (I5 aG _ _ (nb aat abY) afz)))),m3 Al (iM.hr j (pp aG)),mY x hc,m3 Ac (aoc j x hc),mY p j8 k2,m1 ((aPO).h_ j≠c yZ) (rb (by rw[aG]at a;rw[nf a,mZ a,mY a];injection a)),mY nl];rw[I4 nl _ _ (nb aat abY) afz]at k2;rw[mW .bF (qd (pp aG) (BU x p hc (u.alE (agF j x hc)) ((aD3 x (u.ajQ (agF j x hc))).1) j8 k2)),mW (aj1 j aG).az,m3 Ac (aoc j x d),mY p j8 k2];have:=aD3 x (u.ajQ aVn);exact(AE aa.1 aa.2 (AI _ p j8 k2))),mY e3,mX (wm bh Q tk asT cJ ao.bD e3 ct fun cf h2 d2 g5 c4 f9 P f2=>?_),mZ ct,mX CA jH c4 (adM K h2 jH (nO Y)) f9.f3.fr Dm (fun ai9 P=>?_),mZ P];(have c7:t3 h2 g5 a4:=by refine⟨ai9,f9.f3.hC,fun g V=>?_,f9.f3.lx⟩;replace a:=(f9.f3.hP g V).1;refine⟨?_,?_⟩;(rw[vz d (U.bg g) (by rw[sq aB0]at a;rw[yM C4 a])]);rw[mZ aN aC t anL abW ai8 gg lt aes alT as0 jn cJ e3 f9 ai9,n8];rw[aif]at a;rw[yM C4 a]);rw[m1 (db h2 g5 (match(generalizing:=false)fl with|rO=>y|_=>.B) (match(generalizing:=false)cf with|rO=>y|_=>.B)) (by rw[nu];induction fl using ls.ae with|bu y=>rw[p4 f2,mZ f2];(rintro cM e l);exact l|bU=>rw[m1 (cf=al9.bU) f2,mY a,mZ f2,uf,mW (e:ck.B=ck.B)]|ahl=>rw[m1 (cf=al9.ahl) f2,mY a,mZ f2,uf,mW (e:ck.B=ck.B)]|abl=>rw[m1 (cf=al9.abl) f2,mY a,mZ f2,uf,mW (e:ck.B=ck.B)]),mY ap0];(have cW:∀cM,db h2 g5 y cM→a4=bJ→lW (.ok (s6 cM)) aV0:=fun cM l d=>by rw[nu,nu,oT,mW t _ h2 d2 g5 f9.eX c7 l]);(replace ap0:db h2 g5 (aht fl) (match(generalizing:=false)cf with|rO=>y|_=>.B):=by clear av f2;induction fl using ls.ae<;>exact ap0);generalize aht fl=ag0 at av ap0;rw[m6 (m7 lW)];by_cases aCu:fn.cF=G;rw[c0 aCu]at av;by_cases hd:(adt w.z w a4&&ag0.eJ w.z)=G;(case ju=>rw[cH hd]at av;rw[pd av]);rw[c0 hd]at av;simp only[N.c3]at hd;simp only[ap.c.fV,fK.mk.fV]at av;rw[m3 Ai av,mZ cW av,nu,oc e,p4 f9.eX.aey,mY d he _];have dr:ag9 g5 X:=⟨⟨d,he⟩,f9.eX.fL.cq⟩;rw[mX t _ h2 d2 X ⟨f9.eX.fx,f9.eX.ix,f9.eX.xs,aPu,e⟩ (cT.cF aC.hC c7 dr hd.1) (ap0.mx dr ?_),aC.hC.c9,mW hd.2];rw[cH aCu]at av;simp only[ap.c.fV,fK.mk.fV]at av;rw[m3 Ai av,mZ t av,nu];rintro e d;exact cW _ ap0 d
def IX:∀{E}{h}{Aa}{aI}{U}{am}{aL}{aE}{H}{mp}{ec}{bs}{aBO}{l}{w a4}{vs}{k}{X}{aW}{bb}(aN:pA)(M:xN)(ag:aP6 jj Aa ec)(aC:q3)(cz:aTa)(it:aNU)(av:o5 (xT h0 Aa) vs)(t:∀fM h' tk cv,aS0→t3 h' cv a4→d4 h' cv vs fM→zu (yY fM)),q5 (evalArgs aBO G (act bs (aec ec aL)) []):=by rw[mY E h Aa aI U am aL aE H mp ec bs aBO l,mY w a4 vs k X aW bb,mY aN M ag aC cz it av t];induction Aa using hG.ae with|C=>rw[Dw ag];simp only[Uu,ap.c.fV,fK.mk.fV]at av;rw[m3 Ai av,nu];(rw[oc e]);exact lu.me.evalArgs_none (oJ aC.fI aC e)|s d Aa=>rw[pw BV CB];rintro j xs e hs _ _;rw[m2 (sN (pj it bs bs bb bb aW (fun vs s'=>aW _ s')) ag cz av fun fM h' tk cv j j3 r' P=>oJ j j3 r'),mY b];rw[BT hs]at b⊢;exact evalArgs_plain b
def AaV:∀{E}{h}{ac}{Aa}(bl:p9)(aD6:∀cE,E.K.amG ac=c cE→∃fn,aVb E.hU∧ah4 E aT2 fn)(it:aNU)(akd:aVZ),p8 (.bp ac Aa):=by rw[mY E h ac Aa,mY bl aD6 it akd,mY aI U am aL aE H mp d l w bJ y k X,xX,sv,o_ JO VR,mZ bG];rintro fn ec bs cE e abt ag;rw[qu,aTt P,m3 AF (Df dQ),mZ ag dQ];rintro n e aG hd;rw[oi,mY J,pP vs,o3,nD (aD6 cE abt) fd amR ok,mX HC ok fun cB jV dX bD d_ dV kV mm pm jL ac7 aZ an acQ aj8 ao=>?_,mX lu.me.aqm (HN M aG hd (aQ0 bl.adB.K.g0) (bl.fn ac _ abt) ?_),mX (nI aGJ p ⟨aZ,acQ,.akV aWp,aj8⟩ fd aWp (sN IX f8 cz it ct fun fM Q t1 cX I bQ bW=>⟨qS (nv (bQ.M bl aN) ao.ho),?_⟩)),mX aFa (qq akd aN.x bQ bW av fun cM h2 d2 g5 L c7 fh=>aVi fh)]
def JW{K}{mp}{aE}{aL}{bs}:∀{Aa}{i},jj K mp aE Aa i=G→(act bs (aec i aL)).de (nF (! sz))=G|.C,i,ag=>aUx Dw ag|u6,i,ag=>by rw[pw BV CB,oK];rintro j xs e hs dQ dW;rw[BT hs,m6 ((G&&(m7 act).de (nF (! sz)))=G),JW dW];rfl
def Xh:∀{O}{w}{p}{j}{ac}(b:my O w p j=c ac),∃q x fs,p=n3∧aSD∧O.eT x j=c ac∧(acA j fs).mL=G:=by injections O w p j ac;rw[mY b,m3 Ac (Cx b),om,mY q f b,m3 AR (Ge b),mZ b,mY x fs g b,m3 Ay b,mZ b,mY add aj b,m3 Bc b,om,mY d b,pD (ap.c.dB b),mW CU q x _ f g aj d]
def Aa7:∀{E}{h}{f}{j}{Aa}(bl:p9)(aD8:∀x ac,E.O.eT x j=c ac→∃fn,aVb E.hU∧ah4 E aT2 fn)(sa:qB)(it:aNU)(akd:∀ac,aVZ),p8 (.eT f j Aa):=by rw[mY E h f j Aa,mY bl aD8 sa it akd,mY aI U am aL aE H mp d l w bJ y k X,xX,sv,o_ Bz VZ,mZ bG];rintro p ahX iB ec bs e ag;rw[ú ag,mX HA ag fun dQ dW f8 iw aaO aha=>?_,mZ ag,aQR,oi,nu,mY J,pP aa8,o3,oi,nu,mY ac axv av,m3 DX (Xh axv),mY q x fs mH he b2 ajF,mZ axv,rP aa8 n3 mH,oi,nu,mY J,tQ vs,wP,nD (aD8 x ac b2) fd amR ok,mX HC ok fun cB jV dX bD d_ dV kV mm pm jL ac7 aZ an acQ aj8 ao=>?_,rf (bl.eT x j ac b2) aJE auT avh];have ag8:=avw aJE;simp only[arm_eval_Call,DL dW];rw[mX dH (yF aaO),zo aqf,m1 (aKm (ec.z+([]:r aFT).z) (act bs (aec _ aL)) (m7 backToKw)=G) (by unfold aKm;rw[JW aha];rw[Ŧ (backToKw bs (keywordEach [] aL)=[])]at⊢;simp;omega),mY aIn,m1 (aKn G p aL iB bs=km bs) (by unfold aKn;simp[f8]),mY apc];unfold methodCall;rw[aIn,aPH JN (qq avx) he];rintro n afr o ba e aV bj alP cO _ anN;rw[m1 (shadowIn nJ _=c _) (by rw[nt (nI alP.alx h j o o),mY J,nV,ng];rintro _ a;rw[m9,mY J,vX,ng];rintro fD _ z' a _;rw[m8,m6 ((m7 alx).au (·.eF)=c _),a];rfl;rw[z']at ajF;injection ajF),mY fG,mX dH (ae9 (qq method_fn (bQ.M bl aN) anN ag8.ga ag8.gt auT avh fG ?_)),mX dH (aLN apc ?_),mX (nI aGJ p ⟨aZ,acQ,.akV aWp,aj8⟩ fd aWp (x3 (qq IX) aha x1 it gx fun fM h2 d2 g5 L c7 fh=>⟨qS (nv (c7.M bl aN) ao.ho),?_⟩)),mX aFa (wf (akd ac) aN.x c7 (show d4 h2 _ (n3::vs) (nP _::fM)from(Au _ _ e xE fh)) av fun cM h3 j9 abG Z ic k4=>oJ aTe ic k4)]
structure akw(E:iJ):Prop where
 eY:∀x cE,E.K.akG x=c cE→aDr E.M (Ò E.eR x)=G∧ar4 E.M aQk=G
 av0:∀x cE,E.K.akG x=c cE→E.O.ahD x=c B→abT E.M (Ò E.eR x) "__init__"=c (c (.acy "object.__init__"))
 ahD:∀x cE ac,E.K.akG x=c cE→E.O.ahD x=c (c ac)→abT E.M (Ò E.eR x) "__init__"=c (c (Ò E.ij ac))∧aE4 E.M (Ò E.ij ac)=c (p3 "function")
def Qk(ec):(ai6.acy "type.__call__" ec).aum=0:=ĕ
def AcA:∀{E}{h}{aI}{U}{am}(aN:pA)(ec),ai9 E h (aI.eJ (.acy "type.__call__" ec)) U am:=by rw[mY E h aI U am,mY aN ec,m1 ((aI.eJ _).i1≤aI.i1+2) (by rw[m6 (aI.i1+ai6.weight _≤aI.i1+2)];unfold ai6.weight;rw[Qk,m1 (ai6.isGuard (.acy "type.__call__" ec)=Y) (by rw[m6 (guardIds.afo "type.__call__"=Y)];decide+agM),mY Q,m1 (ai6.isCaller (.acy "type.__call__" ec)=Y) (by unfold ai6.isCaller;kernel_rfl!),mY h2,Q,h2];split<;>(simp)),mY aV,m1 ((aI.eJ _).ib≤aI.ib+9) (by rw[m6 (aI.ib+ai6.cUnits _≤aI.ib+9),m1 (ai6.cUnits (m7 .acy)=1+3*(ai6.acy "type.__call__" ec).aum) e,m5,aa,Qk,mW AJ [aI.ib] (S+(sn 1 3 0)) (S+9) e]),mY bj,mX ⟨aN.fk,aN.eZ,?_,q7 aN.i1 (Am [(aI.eJ _).i1,aI.i1,h,alN] (sn S 3 a8+8+1) eK S (ai+2) (sn ai 3 a8+10+1) eK e aV aa),q7 aN.ib (Am [(aI.eJ _).ib,aI.ib,h,mj] (S+(tB a8)+391+1) eK S (ai+9) (ai+(tB a8)+400+1) eK e bj aa)⟩,mX ES aN.ap4 fun anG eX ahs aj9 anH iN abW auU=>?_,mW (ni EO anH iN abW auU)]
def cT.made:∀{E}{U}{am}{H}{b h'}{X}{w}{x}{j aaq}(aC:s2)(aN:akt U am h' H)(gc:as2 U am h' ((j,avv aQk aaq)::(aaq,emptyDict)::aTu b))(lt:∀n∈aTu b,nk<aaq)(Bd:aaq<j),t3 h' (X.e_ aO5) (w++[rv x])∧gb am b h' X (X.e_ aO5):=by injections E U am H b h' X w x j aaq;rw[mY aC aN gc lt Bd,rf (aC.FJ aN gc fun P a=>aQX (zw a)) c7 L o];have fb:=gc _ uA;have cO:=gc _ (aQX uA);(have je:∀g,U.bg g=B→aOT→(¬g<aaq)→b.bg g=B:=fun g d h V=>by rw[vz t (b.bg g) (by exact(V (lt _ (CM.gS (By t h d e)))).az)]);have gE:b.bg j=B:=je j (nW fb) (nj fb) (u.aa6.gS (u.agP Bd));have f2:ž aaq:=je aaq (nW cO) (nj cO) (u.apy _);have Z:gb am b h' X (X.e_ aO5):=⟨L.fx,L.ix,L.xs,(Ad ([aO5]) e (fun g⟨t,cG,fk⟩=>by rw[r.i7]at cG;subst cG;rw[mZ gc lt Bd fb cO je,nY fk fk,n8,m9,n8,m8,mW gE,mW f2])),e⟩;rw[vi ⟨aN,aC.hC.an2 Z (fun g cR V d=>o g cR d (aUy aC.hP)) (qd fb.1 (Bx ([]) 0 cO.1 ra e (by simp))) gE f2 aC.hC.ahJ,fun g t=>?_,c7.lx⟩ Z,nt (Dz.mp t),rd,m9,mY J,sE,ng];rintro t cG fk;rw[m8,mW aC.hP g t];rw[r.i7]at cG;subst cG;rw[mZ gc lt Bd je gE f2 Z t,nY fk fk,n8,m9,n8,m8,mW ⟨nW fb,nj fb⟩,mW ⟨nW cO,nj cO⟩]
def Aba:∀{E}{h}{x}{Aa}(bl:p9)(aaP:akw E)(it:aNU)(akd:∀ac,aVZ),p8 (.lJ x Aa):=by rw[mY E h x Aa,mY bl aaP it akd,mY aI U am aL aE H mp d l w bJ y k X,xX,sv,o_ JO V2,mZ bG];rintro fn ec bs cE e abt ag;rw[qu,aTt P,m3 AF (Df dQ),mZ ag dQ];rintro n e aG hd;rw[oi,nu,mY J,pP vs,o3];have asR:=aaP.eY x cE abt;rw[mX lu.me.aqm (HN M aG hd (aQ0 bl.adB.K.g0) (bl.eY x _ abt) ?_),m1 ((((m7 act).dS (·.1))||([]:rC (ap af.bH) (bv ck)).dS (·.1.mL))=Y) (by rw[m2 (nI JW aL aL bs bs f8),m5,o6 r.hp,r.any_nil,N.apQ,r.atn,mY a hz,m2 (aa a hz),m5,Ą]),mY fa,mX callWith_of fa (keeps_K asR.1) (sN IX f8 cz it ct fun fM Q t1 cX I bQ bW=>⟨bQ.M bl aN,?_⟩),tC aFa,oi,nu,mY p Ab av];induction p using ap.ae with|B=>rw[m3 Bc (show(nK (vs.dD=G) (c (ar.D a4.z,a4++[rT x])))=c _ from av),nu,mY aln d,mZ ct];(rw[pD (r.alq.mp aln)]);rw[m2 (ş t.to d),p1,mY t,m1 (fM=[]) bW,mY hc,mZ bW];subst hc;rw[mX (nI make_K0 k aPh aj0 (aTu Q) bQ.fr Dm (bQ.M bl aN) asR.2 (aaP.av0 x cE abt Ab) fun j aaq h' abH gg lt Bd=>?_),ot (bQ.made abH gg lt Bd) c7 L,mX (oJ wu c7 (Ad aO5 ?_ e)),m6 ((cX.bN++[aO5])[a4.z]?=_),←bQ.hC.c9];simp|c ac=>rw[oi,mY J,tQ aP];rintro gx e9;rw[m3 Bc e9,mZ e9,mY cK d,rP aP .B cK,nu,m2 (ş t.to d),p1,mY t,ot (aaP.ahD x cE ac abt Ab) auT avh,mX (nI make_K k aPh aj0 (adM _ Q am (nO Y)) bQ.fr Dm (bQ.M bl aN) asR.2 auT avh ?_),mY j aaq h' abH gg lt Bd,wH (bQ.made abH gg lt Bd),mY c7 L];(have fc:db h' (cX.e_ aO5) (.D a4.z) (nP j):=by rw[mX Ad aO5 ?_ e,m6 ((cX.bN++[aO5])[a4.z]?=_),←bQ.hC.c9];simp);rw[mX (wm (akd ac) h' t1 (AcA aN _) c7 (show d4 h' (cX.e_ aO5) (.D a4.z::vs) (nP j::fM)from(nM Au e fc (bW.bx L))) gx fun cM h3 j9 abG Z ic k4=>?_),mW ⟨k4,oJ aTe ic (fc.bx Z)⟩]
structure amh(E:iJ):Prop where
 fn:∀ac cE,E.K.amG ac=c cE→∃fn,aVb E.hU∧ah4 E aT2 fn
 eT:∀x j ac,E.O.eT x j=c ac→∃fn,aVb E.hU∧ah4 E aT2 fn
 de:∀ac fn,aVb E.hU→ah4 E aT2 fn
def ZP(d)(b:((d.eP==0||d.eP==3)||(d.eP==5||d.eP==15))=Y):apT d=G:=by rw[y8 d af.bA.ae (by rw[sT])]
def Av{d}{h}{ac}(b:dite (d.eP=h) ac (nO Y)=G)(cu:((h==0||h==3)||(h==5||h==15))=Y:=by rfl):apT d=G:=ZP d ((Bp b).1▸cu)
def Abn{E}{h}:pW wA:=fun{aI U am aL aE H mp d l w bJ y k X aW bb}aN M bG aC cz av t=>m4 (aRd av)
def Ab9{E}{h}:p_ mh wA:=fun{aI U am aL aE H mp d l w bJ y g k X aW bb}aN M bG aC cz av O t=>m4 (aRd av)
abbrev gf(E:iJ)(h:u)(d:dz):Prop:=pW d∧aSK
abbrev aac(E:iJ)(h:u)(Aa:hG):Prop:=aNU∧(∀p,ŋ ah7 Aa)∧(∀p,ŋ ah8 Aa)∧p_ aga Aa
def gf.mk{E}{h}{d}(k:pW d)(v:aSK):x0 gf:=@gL.lh (pW d) aSK @k @v
def gf.k{E}{h}{d}(f:x0 gf):pW d:=@gL.left (pW d) aSK f
def gf.v{E}{h}{d}(f:x0 gf):aSK:=@gL.adx (pW d) aSK f
def aac.mk{E}{h}{Aa}(k:aNU)(f:∀p,ŋ ah7 Aa)(g:∀p,ŋ ah8 Aa)(v:p_ aga Aa):p_ aac Aa:=(By (@k) (@f) (@g) (@v))
def aac.k{E}{h}{d}(f:x0 aac):x0 ac3:=@gL.left (x0 ac3) _ f
def aac.f{E}{h}{d}(b:x0 aac)(p):ŋ ah7 d:=@gL.left (∀p,ŋ ah7 d) _ (gL.adx b) p
def aac.b9{E}{h}{d}(b:x0 aac)(p):ŋ ah8 d:=@gL.left (∀p,ŋ ah8 d) _ (pQ gL.adx gL.adx) p
def aac.tt{E}{h}{d}(b:x0 aac):x0 aga:=@gL.adx _ (x0 aga) (pQ gL.adx gL.adx)
def gf.of{E}{h}{d}(k:pW d)(ba:∀mp aE j,b_ E.K mp aE d j=G→apT j=G):x0 gf:=by rw[aPZ (gf.mk k (Ab8 k ba))]
def IV{E}{h}:p_ aac .C:=by rw[aPZ (aac.mk AbN (fun p=>Re) (fun p=>Rf) Acq)]
def aem{E}{h}{d}{Aa}(f:x0 gf)(g:p_ aac Aa):aac E h u6:=by rw[aPZ (aac.mk (aVX AbM) (fun p=>Rc f.k (g.f p)) (fun p=>Rd f.v (g.b9 p)) (Acp f.v g.tt))]
def G6{E}{h}(bl:p9)(aaP:akw E)(abL:amh E)(aE:∀ac,aVZ)(d):x0 gf:=by rw[mX (ss (ss (ss (ss (ss (nI dz.jB fW (gf E h) hv (aac E h)))))) ?_ ?_ d),zX (by rw[m3 gf.of Abd]),mW q6,mY _,zX (by rw[m3 gf.of AaU]),mW q6,mY _,zX (by rw[m3 gf.of Aa0]),mW q6,mY _,zX (by rw[m3 gf.of Abm]),mW q6,mY _,zX (by rw[m3 gf.of Abq]),mW q6];intro _ _;rw[zX (by rw[m3 gf.of (AaZ bl)]),mW fun P P P b=>Av (Ž).1,v8,aVM Abo,mW q6,v8,aVM Aa6,mW q6,v8,aVM Abc,mW q6,mY _,zX (by rw[m3 gf.of Abb]),mW q6];intro _ _ f;rw[uS (AaS bl f.k),mW q6,aPI,uS (aVX Aa3),mW q6,aPI,uS (aVX Abk),mW q6,aPI,uS (aVX Abj),mW q6];intro _ _ _ f;rw[aVM Abi,mW q6,v8,aVM Abh,mW q6];intro _ _ _ f g;rw[uS (aVX AaT),mW q6,v8,aVM Aa9];(exact fun P P P b=>by rw[m3 AR (N8 b),om];rintro _ _ e _;rfl);intro _ _ _ f g;rw[w' (gf.mk (AaW bl f.k g.k) (Ab4 bl f.k g.k)),v8,w' (gf.mk (AaP (f.f _)) (Ab3 (f.b9 _))),v8,w' (gf.mk (Abf (f.f _)) (Ab7 (f.b9 _))),v8,w' (gf.mk (Abe f.k) (Ab6 f.v))];intro _ _ _ f g x;rw[w' (gf.mk (Aa2 f.v g.k x.k) (Ab5 f.v g.v x.v)),mY ac _ f,uS (AaV bl (abL.fn ac) f.k (aE ac)),mW q6];intro _ _ f;rw[uS (Aba bl aaP f.k aE),mW q6];intro _ j _ f g;rw[uS (Aa7 bl (fun x ac=>abL.eT x j ac) f.k g.k aE),mW q6,v8,uS (Aa5 bl f.k),mW q6,v8,uS (AaQ bl f.k),mW q6,v8,uS (AaO bl f.k),mW q6,v8,uS (Abl bl f.k),mW q6,v8,uS (Abp bl f.k),mW q6,aPI,uS (Aa8 bl f.k g.k),mW q6,v8,uS (Aa1 bl f.k),mW q6,aPI,uS (AaX bl f.k g.k),mW q6,aPI,uS (Aa4 bl f.k g.k),mW q6,aPI,uS (aVX AaR),mW q6,aPI,uS (aVX AaY),mW q6,v8,aVM Abg,mW q6];intro _ _ _ _ f g x;rw[uS (PR g.k f.k x.tt),mW q6,w' (gf.mk Abn Ab9),w' IV,aPI,aPZ (sH aem)]
def Adb{E}{h}{q}{p}{f}:wR (.atr q p f):=fun{aI U am dC bf ei aL H mp st l r' w bJ fl k X aW bb}aN cJ bG bX av t=>m4 (aRd av)
def Ac8:∀{E}{h}(bl:p9)(aaP:akw E)(abL:amh E)(aE:∀ac,aVZ){q}(f),wR (.age q f):=by rw[mY E h,mY bl aaP abL aE,mY q f];rcases(gw.em (∃gD eG kF gP,f=.go gD eG kF gP))with(b|b);obtain⟨gD,eG,kF,gP,e⟩:=b;(have t:p_ aac gP:=by refine ss (ss (ss (ss (ss (nI hG.jB fW (nO abh) hv (aac E h)))))) IV (fun d P P g=>aem (G6 bl aaP abL aE d) g) _<;>intros<;>trivial);(have a:abh∧wR (.age q (.go gD eG kF gP)):=by rw[aPZ (gL.lh jC (Ac9 (G6 bl aaP abL aE _).k (G6 bl aaP abL aE _).k t.tt))]);obtain⟨_,a⟩:=a;rw[mW @a,mY aI U am dC bf ei aL H mp st l r' w bJ fl k X aW bb aN cJ bG bX av t];obtain⟨v,y,a,e,ag⟩:=N4 bG;rw[qu];obtain⟨_,dQ,dW⟩:=ag;replace dQ:=cD dQ;revert dW;refine af.bA.aff.az (fW:=fun y=>b_ _ _ _ f y=G→_) y dQ ?_;intro jN g9 x n dW;exfalso;clear bG;induction f using dz.ae<;>first|exact BD dW|exact aRd av|(obtain⟨_,axt,_⟩:=Cm av);(first|exact aRd axt|rw[m3 Db (show B=c _ from axt),mY hz];cases hz);done|exact b (uF Hv e)|skip
def LQ{E}{h}(bl:p9)(aaP:akw E)(abL:amh E)(aE:∀ac,aVZ)(g):aQ5:=by have aaS:=G6 bl aaP abL aE;(have aGs:∀Aa,p_ aac Aa:=fun Aa=>by refine ss (ss (ss (ss (ss (nI hG.jB fW (nO abh) hv (aac E h)))))) IV (fun d P P g=>aem (aaS d) g) _<;>intros<;>trivial);(have a:abh∧aQ5:=by rw[mX (ss (ss (nI cx.jB fW (fun f=>abh∧p_ mf f) hv (fun g=>abh∧aQ5))) ?_ ?_ ?_ ?_ g),mY f,w' (gL.lh jC (Adh aPa)),v8,w' (gL.lh jC (Ac7 aPa)),v8,aNJ (Ac8 bl aaP abL aE f),mY f _ j,aNJ (Adt bl aPa (aaS j).k),mY f o j,aNJ (Adu bl aPa (aaS o).k (aaS j).k),v8,w' (gL.lh jC (Adx aPa))];intro _ _ _;rw[aNJ Adb,mY f _ _ j,aNJ (Ada bl aPa (aaS j).k),mY f o,w' (gL.lh jC (Adg aPa (aaS o).k)),mY f o,w' (gL.lh jC (Adf aPa (aaS o).k)),mY x _ _ f g,aNJ (AdA (aaS x).v (gL.adx f) (gL.adx g)),mY x _ g,w' (gL.lh jC (Ady (aaS x).v (gL.adx g)))];intro _ f _ g;rw[w' (gL.lh jC (Adi aPa (gL.adx g)))];intro _ Aa _ g;rw[aNJ (Adj bl (aGs _).k (gL.adx g)),mY f,w' (gL.lh jC (Ads aPa)),aNJ Ade,aNJ Adq,aNJ Adw,aNJ AdB,aPI,aPZ (gL.lh jC (Adz (gL.adx f) (gL.adx g)))]);obtain⟨_,a⟩:=a;exact@a
def SR{E}{ac}:ahi E 0 ac:=by intro aI U am H w bJ vs fM y k X lW aN aC ft av t;injection av
def SQ{E}{h}{ac}(b2:E.hU ac=B):ahi E nB ac:=by intro aI U am H w bJ vs fM y k X lW aN aC ft av t;simp[SS,ST,b2]at av
def Q'{E}(bl:p9)(aaP:akw E)(abL:amh E)(h):∀ac,abh∧aVZ:=by induction h with|hf=>rw[mY ac,aPZ (gL.lh jC SR)]|gk h ih=>intro ac;induction b2:E.hU ac using ap.ae with|B=>rw[aPZ (gL.lh jC (SQ b2))]|c fn=>rw[aPZ (gL.lh jC (SU bl b2 (abL.de ac _ b2) (LQ bl aaP abL (fun ac=>gL.adx (ih ac)) _)))]
set_option backward.match.sparseCases false
set_option tactic.hygienic true
set_option genInjectivity true in
inductive a9 where|dx(k:ea)|aO(y ac:R)|bi(k:ea)|mN|jc|D(n t:o4)|bI(aj:u)|bY(n:u)|un(i:nq)deriving axg
abbrev a9.cd(v:a9):(u×ea×R×R×o4×o4×nq):=@a9.ae (p' _) v (fun k=>(0,k,0,0,B,B,[])) (fun y ac=>(1,"",y,ac,B,B,[])) (fun k=>(2,k,0,0,B,B,[])) (3,"",0,0,B,B,[]) (4,"",0,0,B,B,[]) (fun n t=>(5,"",0,0,n,t,[])) (fun aj=>(6,"",aj,0,B,B,[])) (w5 (7,"",n,0,B,B,[])) (te (8,"",0,0,B,B,i))
abbrev a9.azR(j:(u×ea×R×R×o4×o4×nq)):a9:=[a9.dx (nj j),.aO (oj j) (ou j),og (nj j),.mN,rx,.D (qk j).1 (nj (qk j)),nP (oj j).es,.bY (oj j).es,qs (nW (qk j))].ld sz .mN
def a9.M2(v:a9):a9.azR v.cd=v:=by induction v using a9.ae<;>rfl
noncomputable instance:aqq a9:=fun f g=>@decidable_of_iff _ (f.cd=g.cd) ⟨oE ((a9.M2 f).cq.ah ((cr a9.azR b).ah (a9.M2 g))),cr a9.cd⟩ (n7 @apm (n7 @apm (n7 @apm (n7 @apm (n7 @apm (ni @apm))))) f.cd g.cd)
abbrev aeR(p:N):ar:=pe (t_ p 1)
abbrev e5(h:ea):o4→nC|B=>[]|zl o=>[nE [og h,qw,aON,nr]]
abbrev cS(i:nq):nC:=i.au fun(q:u)=>ar.m q
abbrev a9.aY:a9→ar|q8 k=>nE [nG,ur]|.aO y ac=>nE [rn,.m y,.m ac]|ur=>nE [uN,ur,nr]|.mN=>nE [È,nr,nr]|rx=>nE [.m 5,nG,og "E",aUz,nr]|vE=>nE [.m 8,qL aRS,ps,ps,ps,ps,nr]|nP aj=>nE [É,.m aj,ps]|v4=>nE [ŭ,.m n]|r2=>nE [.m 6,zz i]
structure lr where
 cA:u
 bD:u
 mi:nq deriving gN
set_option genInjectivity true in
structure aH where
 bs:u
 xs:nC
 ak:oB
 afK:yt
 ds:r lr
 dK:n1
 iL:nC
 bw:nC
 ey:yt
 fO:yt
 eM:nC
 apL:nC
 gU:nC
 e4:R
 c2:R
 k1:ea
 abj:nC
 fQ:nC
 lZ:nC
 Ap:u
 ca:r c_ deriving gN
abbrev acd:c_:=qI 0 [vu,wg,xO,zM,œ,aPx,oV "origins" 8,oV "renamed" 9,vG "shaping",vG "putting"]
abbrev jM(aq5 cA:u)(cB:ea)(bD:R)(mi:nq):c_:=qI 1 [sM "did" aq5,sM "kind" cA,("name",og cB),("params",ps),sM "body" bD,("bases",zz mi),("static",us),vG "extends_class",("abstract",oX),("members",wM),("variances",wM),vG "busy",ź,("file",og ""),vG "nid"]
abbrev arI:c_:=qI 2 [aPy,sI,sM "most_rounds" 200,sM "most_deep" 40,("lib",.B)]
abbrev k6(Ap:u)(e4 c2:R)(k1:ea):c_:=vW [sL,qH,vC,wh,w2,aWw Ap,yH,sM "deep" e4,sM "looks" c2,Ŕ,y0 oX,Ő,aQV k1,ź]
abbrev ii:u→r lr→r c_|_,[]=>[]|o,aj::l=>jM o aj.cA "C" aj.bD aj.mi::ii pY l
def Hp:∀gv,ii gv []=([]):=rp
def Hq:∀o aj l,ii o (aj::l)=(jM o aj.cA "C" aj.bD aj.mi::ii pY l):=uD
abbrev agd:u→u→nC|_,0=>[]|f,nB=>rY::agd (f+1) h
def LL:∀gv,agd gv 0=([]):=rp
def LM:∀f h,agd f nB=(rY::agd (f+1) h):=pS
abbrev aH.gl(a:aH):u:=ov a.Ap 0 16 (25+a.ds.z+a.Ap)
abbrev aH.l0(a:aH):nC:=.B::.D 10::agd 26 a.ds.z
abbrev aH.g8(a:aH):ch:=[oU [.m a.bs,aSo],acd,aSw a.ak.au,.bE a.afK,oU a.l0,uE a.dK.au .m,oU a.iL,oU a.bw,nS,nS,jM 1 5 "E" (-1) [],arI,k6 a.gl a.e4 a.c2 a.k1,u_ [yG,Œ,oV 14 22],.bE a.ey,.bE a.fO,oU a.apL,oU a.gU,tw,m_,æ,rv 6,rv 7,oU a.abj,oU a.fQ,oU a.lZ]
abbrev aH.F(a:aH):ch:=((a.g8++xS)++a.ca).b6 a.gl (oU a.eM)
def Ca(o)(i):qp ii o i=i.z:=by induction i generalizing o with|C=>rfl|s aj l ih=>simp[Hp,Hq,ih]
def LN(f h):qp agd f h=h:=by induction h generalizing f with|hf=>rfl|gk h ih=>simp[LL,LM,ih]
def Qh(a:aH)(q)(b:q<26)(iy:sU 16):a.gl≠q:=by unfold aH.gl;split;rw[mW (ol (iy d.cq)),mW XT aUh b]
def Bs(a:aH):a.g8.z=26:=e
def CI(a:aH):a.F.z=qR+a.ca.z:=Ū aH.F Bs Ca u.la
def BK(a:aH)(q)(b:q<26)(iy:sU 16):rS a.F=rS a.g8:=by unfold aH.F;rw[r.agx (Qh a q b iy),r.abO,r.jP (by simp only[Bs];exact b)]
def Cu(a:aH)(q)(b:q<26)(iy:sU 16)(p):a.F.b6 q p=(((a.g8.b6 q p)++xS)++a.ca).b6 a.gl (oU a.eM):=by unfold aH.F;rw[m7 r.awi (Qh a q b iy),r.abO,aNG (yg Bs b),r.abO]
mutual variable(a:aH)
def BH:qh 0 (oU [.m a.bs,aSo]):=t2 0
def A1:n9 a.F 1 acd:=t2 1
def BR:qh 2 (aSw a.ak.au):=t2 2
def Cp:qh 3 (.bE a.afK):=t2 3
def CW:qh 4 (oU a.l0):=t2 4
def Dt:qh 5 (uE a.dK.au .m):=t2 5
def NI:qh 6 (oU a.iL):=t2 6
def NJ:qh 7 (oU a.bw):=t2 7
def J2:n9 a.F 11 arI:=t2 11
def BY:qh 12 (k6 a.gl a.e4 a.c2 a.k1):=t2 12
def HI:qh 13 (u_ [yG,Œ,oV 14 22]):=t2 13
def EW:qh 14 (.bE a.ey):=t2 14
def EX:qh 15 (.bE a.fO):=t2 15
def Gb:qh 17 (oU a.gU):=t2 17
def UX:qh 18 tw:=t2 18
def Gc:qh 19 m_:=t2 19
def UY:qh 20 æ:=t2 20
def UZ:qh 21 (rv 6):=t2 21
def U0:qh 22 (rv 7):=t2 22
def HJ:qh 23 (oU a.abj):=t2 23
def HK:qh 24 (oU a.fQ):=t2 24
def EY:qh 25 (oU a.lZ):=t2 25
def DZ(b:pN):qh a.gl (oU a.eM):=by rw[m1 (a.gl<((a.g8++xS)++a.ca).z) (by rw[aUb Bs Ca];unfold aH.gl;split;rw[mW O3,mW O4 b]),p0,aPY,r.akX d]
def PQ(i):tI a.gl rj=aH.F (oP eM i):=by unfold aH.F;simp only[r.set_set]at⊢;rfl
def s0(n:u):tI 0 (oU [ye,aSo])=aH.F (oP bs n):=Ă 0
def BS(i):tI 2 (aSw i.au)=aH.F (oP ak i):=Ă 2
def Cd(i):tI 3 x7=aH.F (oP afK i):=Ă 3
def Eb(i):tI 5 (uE i.au .m)=aH.F (oP dK i):=Ă 5
def Ec(i):tI 6 rj=aH.F (oP iL i):=Ă 6
def Ed(i:nC):tI 7 rj=aH.F (oP bw i):=Ă 7
def Fl(aj o)(H):tI 12 (k6 a.gl aj o H)=aH.F {a with e4:=aj,c2:=o,k1:=H}:=Ă 12
def K6(i):tI 14 x7=aH.F (oP ey i):=Ă 14
def PO(i):tI 15 x7=aH.F (oP fO i):=Ă 15
def PP(i):tI 17 rj=aH.F (oP gU i):=Ă 17
def AaD(i):tI 23 rj=aH.F (oP abj i):=Ă 23
def AaF(i):tI 24 rj=aH.F (oP fQ i):=Ă 24
def AaH(i):tI 25 rj=aH.F (oP lZ i):=Ă 25
end
def NT(h q:u):ab1 h (nc q)=nK (q<h) (c q):=by unfold ab1;simp only[R.ab8,fU,R.aa7,R.akg]
def AK(a:aH)(q:u)(l)(b:op a.ak l):pE a.F (.D 2) n'=c l.aY:=by obtain⟨aB,he⟩:=r.gF.1 b;simp[eC,BR,NT,aB,he]
def Ax(O)(cf)(ac)(vs)(w)(a_:vs.z=ac.c8)(hd:ac.cF=Y):aiT O cf ac vs w=cW (b4 O cf ac.bD (aTL ac.dc ac.c8) w):=by unfold aiT;rw[c0 a_,hd]
def Ii(O)(cf)(ac)(vs)(w)(a_:vs.z=ac.c8)(hd:ac.cF=G):aiT O cf ac vs w=afv w.z w (b4 O cf ac.bD (aTL ac.dc ac.c8) w):=by unfold aiT;rw[c0 a_,hd]
noncomputable abbrev aA(h:u):iV:=bc T bo h
def I9(h)(aM a1 a2 a3)(w):xz 0 atG [oO,pC,pb,wF,B]:=xy aA6
def A_(h)(aM a1 a2)(w):r4 1 aqO (aRE pb):=r3 aA5
def Bw(h)(aM a1)(w):t9 2 ayv (yE B):=qF aBc
def CQ(h)(aM)(w):bc T bo nB 3 [aM] w=cW (b4 T nT ay2 [oO,B] w):=v0 aBJ
def Jc(h)(aM a1)(w):t9 4 ayC (yE B):=qF aBj
def Sj(h)(aM)(w):aO8 5 ax9:=v0 aAG
def So(h)(aM a1 a2)(w):r4 6 ayO (yE pb):=r3 aBv
def MC(h)(aM)(w):bc T bo nB 7 [aM] w=cW (b4 T nT ayV [oO,B] w):=v0 aBC
def Jj(h)(aM a1)(w):bc T bo nB 8 aRR w=afv w.z w (b4 T nT ayX [oO,pC,B,B,B,B,B,B] w):=Ii T nT aBE aRR w e e
def SG(h)(aM a1)(w):zP 9 axT:=qF aAm
def R7(h)(aM a1)(w):zP 10 ax5:=qF aAC
def Mn(h)(aM a1)(w):t9 11 ax4 (yE B):=qF aAB
def R9(h)(aM a1)(w):zP 12 ayB:=qF aBi
def DO(h)(aM a1)(w):t9 13 ax1 [oO,pC,B,B,B]:=qF aAu
def R_(h)(aM a1)(w):zP 14 aya:=qF aAH
def Mo(h)(aM a1)(w):t9 15 atF (aWa B):=qF aA3
def R'(h)(aM a1)(w):bc T bo nB 16 aRR w=afv w.z w (b4 T nT ayn [oO,pC,B,B,B] w):=Ii T nT aA1 aRR w e e
def I_(h)(aM a1)(w):t9 17 ayx (aRE B):=qF aBe
def Sa(h)(aM a1)(w):t9 18 axV [oO,pC,B,B,B]:=qF aAo
def FL(h)(aM a1)(w):t9 19 ax2 (yE B):=qF aAv
def Mp(h)(aM a1 a2)(w):r4 20 ayz [oO,pC,pb,B,B]:=r3 aBg
def Mq(h)(aM a1)(w):zP 21 ayA:=qF aBh
def Sb(h)(aM a1 a2)(w):bc T bo nB 22 [aM,a1,a2] w=afv w.z w (b4 T nT aty (aWa pb) w):=Ii T nT aAx [aM,a1,a2] w e e
def Hb(h)(aM a1 a2 a3)(w):xz 23 axW [oO,pC,pb,wF,B]:=xy aAp
def Sc(h)(aM a1)(w):zP 24 axZ:=qF aAs
def Mr(h)(aM a1)(w):zP 25 ayI:=qF aBp
def Hc(h)(aM a1 a2)(w):r4 26 axU [oO,pC,pb,B,B]:=r3 aAn
def EG(h)(aM a1 a2)(w):r4 27 ayE [oO,pC,pb,B,B,B]:=r3 aBl
def Sd(h)(aM a1)(w):t9 28 axY (yE B):=qF aAr
def Se(h)(aM)(w):aO8 29 ayS:=v0 aBz
def Sf(h)(aM a1 a2)(w):r4 30 ayQ (yE pb):=r3 aBx
def Sg(h)(aM a1 a2 a3 aqE)(w):bc T bo nB 31 [aM,a1,a2,a3,aqE] w=cW (b4 T nT ayM [oO,pC,pb,wF,c aqE] w):=Ax T nT aBt [aM,a1,a2,a3,aqE] w e e
def CR(h)(aM a1 a2)(w):r4 32 ayL (aWa pb):=r3 aBs
def I'(h)(aM a1 a2)(w):r4 33 ayW (yE pb):=r3 aBD
def Ms(h)(aM a1)(w):t9 34 ayY (yE B):=qF aBF
def DP(h)(aM a1 a2)(w):r4 35 ayZ [oO,pC,pb,B,B]:=r3 aBG
def Sh(h)(aM a1 a2 a3)(w):xz 36 ayq [oO,pC,pb,wF]:=xy aA7
def Ja(h)(aM a1 a2)(w):r4 37 ayP [oO,pC,pb,B,B,B]:=r3 aBw
def Jb(h)(aM a1)(w):zP 38 ayH:=qF aBo
def Mt(h)(aM a1 a2)(w):r4 39 ax3 (aRE pb):=r3 aAw
def Mu(h)(aM a1 a2)(w):r4 40 ayN [oO,pC,pb,B,B,B]:=r3 aBu
def FM(h)(aM a1 a2)(w):r4 41 ayT [oO,pC,pb,B,B,B]:=r3 aBA
def Mv(h)(aM)(w):bc T bo nB 42 [aM] w=cW (b4 T nT ax7 [oO,B] w):=v0 aAE
def EH(h)(aM a1)(w):t9 43 ayK (aRE B):=qF aBr
def Si(h)(aM a1)(w):t9 44 ax8 (yE B):=qF aAF
def Jd(h)(aM a1 a2)(w):r4 45 ay1 [oO,pC,pb,B,B]:=r3 aBI
def Je(h)(aM a1)(w):t9 46 ayR (aRE B):=qF aBy
def FN(h)(aM a1 a2)(w):r4 47 axX [oO,pC,pb,B,B]:=r3 aAq
def Jf(h)(aM a1 a2)(w):r4 48 ayD [oO,pC,pb,B,B]:=r3 aBk
def Hd(h)(aM a1 a2)(w):r4 49 ayo (aWa pb):=r3 aA2
def Jg(h)(aM a1)(w):t9 50 ayw (yE B):=qF aBd
def Mw(h)(aM a1 a2)(w):r4 51 ayu [oO,pC,pb,B,B]:=r3 aBb
def Sk(h)(aM)(w):aO8 52 atA:=v0 aAz
def Mx(h)(aM)(w):aO8 53 ax0:=v0 aAt
def My(h)(aM a1 a2 a3)(w):xz 54 ayG [oO,pC,pb,wF,B,B,B]:=xy aBn
def Sl(h)(aM a1 a2)(w):r4 55 ayU (aRE pb):=r3 aBB
def EI(h)(aM a1 a2 a3)(w):xz 56 ays [oO,pC,pb,wF,B,B,B]:=xy aA9
def Mz(h)(aM a1)(w):zP 57 ayr:=qF aA8
def Sm(h)(aM a1 a2 a3)(w):xz 58 ayt [oO,pC,pb,wF,B,B]:=xy aBa
def Sn(h)(aM)(w):aO8 59 ax6:=v0 aAD
def Sp(h)(aM a1)(w):zP 60 ay0:=qF aBH
def Jh(h)(aM a1 a2 a3)(w):xz 61 ayJ [oO,pC,pb,wF,B,B,B]:=xy aBq
def Sq(h)(aM a1 a2 a3)(w):xz 62 ayF [oO,pC,pb,wF]:=xy aBm
def He(h)(aM a1 a2)(w):r4 63 ayb (yE pb):=r3 aAI
def MA(h)(aM a1 a2 a3)(w):xz 64 ayp [oO,pC,pb,wF]:=xy aA4
def Hf(h)(aM a1 a2)(w):r4 65 ayy (aWa pb):=r3 aBf
def Sr(h)(aM)(w):aO8 66 atB:=v0 aAA
def Ss(h)(aM)(w):aO8 67 atz:=v0 aAy
def MB(h)(aM a1)(w):t9 68 ayk (aRE B):=qF aAX
def St(h)(aM)(w):bc T bo nB 69 [aM] w=cW (b4 T nT ayj [oO,B] w):=v0 aAW
def Su(h)(aM)(w):aO8 70 ayd:=v0 aAK
def MD(h)(aM)(w):bc T bo nB 71 [aM] w=cW (b4 T nT aqK [oO,B] w):=v0 aAT
def FO(h)(aM)(w):bc T bo nB 72 [aM] w=cW (b4 T nT ayi [oO,B,B] w):=v0 aAS
def Sv(h)(aM a1)(w):bc T bo nB 73 aRR w=afv w.z w (b4 T nT aqL (aWa B) w):=Ii T nT aAU aRR w e e
def Sw(h)(aM a1)(w):t9 74 atC [oO,pC,B,B,B]:=qF aAL
def Sx(h)(aM a1 a2 a3)(w):xz 75 atD [oO,pC,pb,wF,B,B,B]:=xy aAN
def Sy(h)(aM a1)(w):t9 76 aqN [oO,pC,B,B,B,B,B,B,B]:=qF aA0
def Sz(h)(aM a1 a2 a3)(w):xz 77 aqM [oO,pC,pb,wF,B,B,B,B,B,B,B,B,B,B,B,B,B]:=xy aAV
def DQ(h)(aM a1)(w):t9 78 ayg [oO,pC,B,B,B]:=qF aAP
def Ji(h)(aM a1)(w):t9 79 aye (aRE B):=qF aAM
def Jk(h)(aM a1 a2)(w):r4 80 ayc (aRE pb):=r3 aAJ
def SA(h)(aM)(w):bc T bo nB 81 [aM] w=cW (b4 T nT ayl [oO,B] w):=v0 aAY
def SB(h)(aM a1 a2 a3)(w):xz 82 ayh [oO,pC,pb,wF,B]:=xy aAQ
def Hg(h)(aM a1 a2)(w):r4 83 ayf [oO,pC,pb,B,B,B]:=r3 aAO
def SC(h)(aM a1 a2)(w):r4 84 atE [oO,pC,pb,B,B,B,B,B,B,B,B]:=r3 aAR
def SD(h)(aM a1 a2)(w):r4 85 aym (aWa pb):=r3 aAZ
def SE(h)(aM)(w):bc T bo nB 87 [aM] w=cW (b4 T nT atw [oO,B] w):=v0 aAk
def Jl(h)(aM a1)(w):t9 88 atx (yE B):=qF aAl
def SF(h)(aM a1 a2 a3)(w):xz 89 ats [oO,pC,pb,wF]:=xy az8
def SH(h)(aM a1)(w):zP 90 atv:=qF aAj
def SI(h)(aM a1)(w):zP 91 axS:=qF aAi
def SJ(h)(aM a1)(w):zP 92 axM:=qF aAb
def SK(h)(aM a1 a2)(w):r4 93 atu (yE pb):=r3 aAd
def Jm(h)(aM a1 a2)(w):r4 94 axN (yE pb):=r3 aAc
def SL(h)(aM)(w):aO8 95 axO:=v0 aAe
def SM(h)(aM a1)(w):zP 96 axP:=qF aAf
def SN(h)(aM)(w):aO8 97 att:=v0 az9
def ME(h)(aM a1 a2 a3)(w):xz 98 axL [oO,pC,pb,wF]:=xy aAa
def MF(h)(aM a1 a2 a3)(w):xz 99 axQ [oO,pC,pb,wF]:=xy aAg
def R8(h)(aM a1 a2 a3)(w):xz 100 axR [oO,pC,pb,wF]:=xy aAh
def Di(O)(cf)(d)(h)(l)(w):oC (.be d h)=rr (ow (gz O nh nk h) y (y,nh)):=e
def Adk(O)(cf)(d o)(l)(w):oC (.aT d o)=rr (aQw o (aQL (eC oI nk ox))):=e
def Adc(O)(cf)(p)(d o)(l)(w):oC (.aX p d o)=rr (aQw o (aQL (f1 oI p nk ox))):=e
def Qu(O)(cf)(p)(d o)(l)(w):oC (.dM p d o)=rr (aQw o (aQL (lY oI p nk ox))):=e
def Qv(O)(cf)(ac)(Aa)(l)(w):oC (.bp ac Aa)=(aN3).bP fun n=>cf ac nk nh:=e
def Lv(O)(cf)(d)(h)(Aa)(l)(w):oC (.eT d h Aa)=rr ((my O nh nk h).bP fun ac=>(h0 O cf Aa l nh).bP fun t=>cf ac (nk::ox) oI):=e
def Adm(O)(cf)(d)(l)(w):oC (.ir d)=rr (ow xH g (n5 (! g),nh)):=e
def Iz(O)(cf)(q)(l)(w):oC (.ju n')=c (pe (-q),w):=e
def Qx(O)(cf)(x f g)(l)(w):oC aOa=(o0 aU x).bP fun n=>(xH).bP fun bZ=>wB bZ (aU O cf f l nh) (aU O cf g l nh):=e
def Dk(O)(cf)(d)(l)(w):oC (.c9 d)=rr (ow (z4 lN) i (.m i.z,nh)):=by show(z0).bP (w5 (ow (z4 acN) y (y,nh)))=_;unfold acN;simp only[ap.aeN];rfl
def Ar(O)(cf)(l)(w):o0 h0 .C=c ([],w):=e
def Add(O)(cf)(d)(Aa)(l)(w):pU h0 u6=rr (ow (h0 O cf Aa l nh) t (nk::ox,oI)):=e
def IC(O)(cf)(Aa)(l)(w):oC (nE Aa)=ow aN3 n (nE nk,nh):=e
def Qy(O)(cf)(Aa)(l)(w):oC (oh Aa)=ow aN3 n (oh nk,nh):=e
def GY(O)(cf)(d)(l)(w):pU ada (.s d .C)=z0:=by show(z0).bP c=_;exact ap.aGz _
def Ls(O)(cf)(d a5)(Aa)(l)(w):pU ada (.s d (.s a5 Aa))=rr ((xH).bP fun g=>wB g (ada O cf (.s a5 Aa) l nh) (c n)):=e
def Ado(O)(cf)(d)(l)(w):pU afs (.s d .C)=z0:=by show(z0).bP c=_;exact ap.aGz _
def Adp(O)(cf)(d a5)(Aa)(l)(w):pU afs (.s d (.s a5 Aa))=rr ((xH).bP fun g=>wB g (c n) (afs O cf (.s a5 Aa) l nh)):=e
def En(O)(cf)(Aa)(l)(w):oC (.eB Aa)=o0 ada Aa:=e
def Adn(O)(cf)(Aa)(l)(w):oC (.or Aa)=o0 afs Aa:=e
def Bl(O)(cf)(q)(l)(w):oC ę=(rS l).afO.au fun y=>(y,w):=e
def Dj(O)(cf)(h)(y)(l)(w):oC (.bL h y)=c (y,w):=e
def Ao(O)(cf)(y)(l)(w):oC (.m y)=c (.m y,w):=e
def DI(O)(cf)(y)(l)(w):oC (og y)=c (og y,w):=e
def Fv(O)(cf)(y)(l)(w):oC rK=c (rK,w):=e
def IB(O)(cf)(l)(w):o0 aU .B=c (.B,w):=e
def Bg(O)(cf)(l)(w):o0 b4 .C=c (na,l,w):=e
def Eo(O)(cf)(k)(g)(l)(w):pU b4 (.s k g)=aqZ (o0 dP k) fun bW a4=>b4 O cf g bW a4:=e
def Kl(l)(w)(o):aqZ aQT o=o l w:=e
def QC(O)(cf)(d)(l)(w):pU dP (.f_ d)=rr (ua na nh):=e
def QA(O)(cf)(q)(d)(l)(w):pU dP (.ci q d)=rr (c (na,Ż (c nk),nh)):=e
def AdC(O)(cf)(q)(d)(l)(w):pU dP (.age q d)=rr (c (na,Ż (c nk),nh)):=e
def QD(O)(cf)(d)(l)(w):pU dP (s6 d)=rr (ua (s6 nk) nh):=e
def IE(O)(cf)(x)(f g)(l)(w):pU dP aOa=(o0 aU x).bP fun n=>(xH).bP fun bZ=>wB bZ (b4 O cf f l nh) (b4 O cf g l nh):=e
def AdD(O)(cf)(l)(w):o0 dP .alJ=c (na,l,w):=e
def J_(i:nC)(q:u):((ab1 i.z (nc q)).bP fun aq=>Ä i)=rS i:=by rw[NT];split;rfl;rename_i b;rw[r.aii (m4 (u.aa6.1 b))];rfl
def E7(w)(i)(q:u):pE w o9 (.m (nc q))=rS i:=J_ i q
def Du(w)(i)(q:u):pE w q1 (.m (nc q))=rS i:=J_ i q
def Cq(w)(f)(i)(q:u)(b:aPf rj):pE w rY (.m (nc q))=rS i:=aSf eC b (J_ i q)
def B5(w)(f)(i):pE w (qL (f::i)) nr=c f:=E7 w _ 0
def D4(w)(f g)(i):pE w (qL (f::g::i)) nG=c g:=E7 w _ 1
def Od(w)(f g x)(i):pE w (qL (f::g::x::i)) rn=c x:=E7 w _ 2
def Oe(w)(f g x aj)(i):pE w (qL (f::g::x::aj::i)) uN=c aj:=E7 w _ 3
def Wo(w)(f g x aj d)(i):pE w (qL (f::g::x::aj::d::i)) È=c d:=E7 w _ 4
def Wp(w)(f g x aj d ac)(i):pE w (qL (f::g::x::aj::d::ac::i)) (.m 5)=c ac:=E7 w _ 5
def Wr(w)(i)(f)(b:i.arj=c f):pE w o9 us=c f:=by rw[oS i (by rw[xG]) j l (by rw[m1 (ab1 (j::l).z (-1)=c l.z) (by rw[m1 (¬tM≤-1) nw,mY t1,m1 (tM≤-1+nc (j::l).z) (yg r.kZ (XY _)),mY d2,m1 ((-1+nc (j::l).z).es=l.z) (yg r.kZ (XZ _)),mY j9];unfold ab1;rw[cH t1,c0 d2,j9]),mY d];simp only[eC,d,ap.eO];rw[pr r.aHw];simpa using b)]
abbrev av3(w:ch)(y:ar):ar×ch:=(y,w)
abbrev avA(O:mD)(h:ea)(n:ar×ch):w0:=(gz O nh nk h).au (av3 nh)
def Ww(O)(h)(y)(w):avA O h (y,w)=(gz O w y h).au (av3 w):=e
def AcN(O)(cf)(d)(h)(l)(w):oC (.be d h)=(z0).bP (avA O h):=Di O cf d h l w
abbrev aJU(cf:iV)(ac:u)(y:ar)(t:nC×ch):w0:=cf ac (y::ox) oI
abbrev aJT(O:mD)(cf:iV)(Aa:hG)(l:dv)(y:ar)(w:ch)(ac:u):w0:=(aN3).bP (aJU cf ac y)
abbrev aJS(O:mD)(cf:iV)(h:ea)(Aa:hG)(l:dv)(n:ar×ch):w0:=(my O nh nk h).bP (aJT O cf Aa l nk nh)
def Qo(O)(cf)(d)(h)(Aa)(l)(w):oC (.eT d h Aa)=(z0).bP (aJS O cf h Aa l):=Lv O cf d h Aa l w
def w_var(O)(cf)(q)(l)(w):oC ę=(rS l).afO.au (av3 w):=o0 Bl q
def Ba(w)(q x)(fs)(h)(y)(b:aSD)(b2:T.abp x h=G)(aJ:aS3=c y):gz T w n3 h=c y:=by simp only[gz,aak,agz,b,b2,aJ,fU]
def CY(w)(q x ac)(fs)(h)(b:aSD)(b2:T.eT x h=c ac)(aJ:aS3=B):my T w n3 h=c ac:=by simp only[my,aak,agz,b,b2,aJ,ap.eO,ap.aJJ,fU]
mutual variable(a:aH)
def RK:ò oW "rows" 2:=aPQ 1 0 A1
def RJ:ò oW "index" 3:=aPQ 1 0 A1
def RI:ò oW "decls" 4:=aPQ 1 0 A1
def I2:ò oW "bounds" 5:=aPQ 1 0 A1
def L8:ò oW "defaults" 6:=aPQ 1 0 A1
def L9:ò oW "names" 7:=aPQ 1 0 A1
def Q9:w_ tJ "tab"=c oW:=aPQ 11 2 J2
def L1:w_ nQ "host"=c tJ:=Ś
def Rt:rm (w_ nQ "mode") 4:=Ś
def Rv:ò nQ "rules" 13:=Ś
def L0:ò nQ "assumed" 14:=Ś
def Rq:ò nQ "known" 15:=Ś
def L3:ò nQ "trail" a.gl:=Ś
def Ru:ò nQ "road" 17:=Ś
def Rp:rm (w_ nQ "deep") a.e4:=Ś
def Rr:rm (w_ nQ "looks") a.c2:=Ś
def L2:ò nQ "notes" 18:=Ś
def Rw:w_ nQ "telling"=c oX:=Ś
def Rs:w_ nQ "missing"=c (og a.k1):=Ś
def LT:ò (.D 18) "rows" 19:=aPQ 18 4 UX
def Fa:aOn oW "put" 88:=CY _ 1 0 88 _ _ (A1 a) e e
def Xl:aOn tJ "force" 91:=CY _ 11 2 91 _ _ (J2 a) e e
def Xm:aOn tJ "shape" 92:=CY _ 11 2 92 _ _ (J2 a) e e
def OP:aOn nQ "ask" 94:=CY _ 12 3 94 _ _ (BY a) e e
def Xn:aOn nQ "mark" 95:=CY _ 12 3 95 _ _ (BY a) e e
def Xo:aOn nQ "note" 96:=CY _ 12 3 96 _ _ (BY a) e e
def Xp:aOn (.D 20) "holds" 98:=CY _ 20 5 98 _ _ (UY a) e e
def Xq:aOn (.D 21) "holds" 99:=CY _ 21 6 99 _ _ (UZ a) e e
def Xr:aOn (.D 22) "holds" 100:=CY _ 22 7 100 _ _ (U0 a) e e
end
abbrev f0(O:mD)(cf:iV)(g:cx)(l:dv)(w:ch):lV:=o0 b4 g
def DM(O)(cf)(g)(l)(w):o0 f0 g=o0 b4 g:=e
def ID(O)(cf)(q)(d)(g)(l)(w):pU dP (.jd q d g)=rr ((z4 kn).bP fun t=>fZ aRf q oI ox l nh):=e
def Lx(O)(cf)(q)(Aa)(g)(l)(w):pU dP (.mn q Aa g)=(aN3).bP fun n=>(acb nk).bP fun i=>fZ aRf q B i l nh:=e
def Fw(O)(cf)(x)(g)(l)(w):pU dP (.ag2 x g)=ae8 (adA O cf x) aRf alZ l w:=e
def Ly(O)(cf)(d o j)(l)(w):pU dP (.jl d o j)=(o0 aU j).bP fun n=>aQw d (zJ ox ((aU O cf o l oI).bP fun V=>ow (lm V.2 q V.1 nk) bJ (na,l,bJ))):=e
def CG(O)(cf)(d j)(l)(w)(q)(a4 dm)(y)(i aeL)(Q:uw n3)(bf:pO a4 (oU aeL))(h2:aNL j=c (y,dm))(h3:pO dm rj)(h4:zE):oC (.hq d j)=c (.B,aOJ (.aw (i++[y]))):=by show î z0=_;rw[Q];show î (aNL j)=_;rw[h2];show(afk a4 dm q y).au _=_;delta afk;rw[c0 (Wg bf),J5 h3,c0 h4];rfl
def C7(O)(cf)(Aa)(l)(w):oC (.hw Aa)=ow aN3 n (.D (nh).z,nh++[oU nk]):=e
def IA(O)(cf)(g)(l)(w):oC (.lK g)=c (.D w.z,w++[if g then sj else nS]):=e
def BG(g)(k)(l)(w):fZ g k B [] l w=c (na,l,w):=by simp only[NE]at⊢;rfl
def EV(g)(k)(j)(xs)(l)(w):fZ g k B qi l w=afw (g (aNQ k) w) (fZ g k B xs):=by simp only[NF]at⊢;kernel_rfl!
def NA(l)(w)(o):afw aQT o=o l w:=e
def UN(y)(l)(w)(o):afw (ua rO w) o=c (rO,l,w):=e
def BO(g:aTb)(k)(j)(xs)(l)(w)(bW)(a4)(b:g (aNQ k) w=c (na,bW,a4)):fZ g k B qi l w=fZ g k B xs bW a4:=qZ EV b
def HF(g)(k)(x)(j)(xs)(l)(w)(b:AY x w=G):fZ g k x qi l w=afw (g (aNQ k) w) (fZ g k x xs):=by simp only[NF]at⊢;simp only[b,fU]
def F9(g)(k)(x)(l)(w)(b:AY x w=G):fZ g k x [] l w=c (na,l,w):=by simp only[NE]at⊢;simp only[b,fU]
abbrev ago(O:mD)(cf:iV)(d:dz)(l:dv)(w:ch):w0:=z0
abbrev ahC(O:mD)(cf:iV)(d:hG)(l:dv)(w:ch):aRT N:=o0 ahq d
def Uc(O)(cf)(d)(l)(w):o0 ago d=z0:=e
def HQ(O)(cf)(d)(l)(w):o0 ahC d=o0 ahq d:=e
def Iy(O)(cf)(gD)(k)(gQ)(gP)(l)(w):oC (.go gD k gQ gP)=(o0 aU gQ).bP fun n=>(z4 kn).bP fun t=>ow (abk (ago O cf gD) (ahC O cf gP) k oI ox l nh) V (oh V.1,V.2):=e
def Qw(O)(cf)(l)(w):o0 ahq .C=c (G,w):=e
def Lu(O)(cf)(d)(l)(w):pU ahq (.s d .C)=rr (ow xH g (g,nh)):=by show î z0=_;rw[uh];funext n;rw[tm xH (by rfl) g (by rw[ĉ g N.ae])]
def Jp{cg:Type}(gD)(gP)(k)(x)(l)(w)(hc:AY x w=G)(d)(n)(ac)(i:Ì)(ba:oG i (gP (l.b6 k (c (d j))) w=c (n j,w)))(b2:oG i (n j=G→gD (l.b6 k (c (d j))) w=c (ac j,w))):aWj k (i.au d) l w=c ((i.afu n).au ac,w):=qb i (by simp[FQ,FR,hc]) j i (by have aDj:=ih (aRq ba) (aRq b2);simp only[r.gI,FQ,FR,hc,fU,aUN ba];induction J:n j using N.ae with|Y=>simp[aDj,r.aoE,J]|G=>simp[b2 j tG J,aDj,r.aoE,J])
inductive jF where|K|aP|y(j:ar)|b(j:ar)(a:aH)|k(fl:ls)(l:dv)(a:aH)
abbrev axI(a:aH)(q:u)(h:ea):pl:=ant [(1,"rows",.D 2),(1,"index",.D 3),(1,"decls",.D 4),(1,"bounds",.D 5),(1,"defaults",.D 6),(1,"names",.D 7),(11,"tab",oW),(12,"host",tJ),(12,"mode",È),(12,"rules",.D 13),(12,"assumed",.D 14),(12,"known",.D 15),(12,"trail",.D a.gl),(12,"road",.D 17),(12,"deep",.m a.e4),(12,"looks",.m a.c2),(12,"notes",.D 18),(12,"telling",oX),(12,"missing",og a.k1),(18,"rows",.D 19)] q h
abbrev aEH(h:ea):N:=["rows","index","decls","bounds","defaults","names","tab","host","mode","rules","assumed","known","trail","road","deep","looks","notes","telling","missing"].afo h
abbrev avL(q:u)(h:ea):ap u:=ant [(1,"put",88),(11,"force",91),(11,"shape",92),(12,"ask",94),(12,"mark",95),(12,"note",96),(20,"holds",98),(21,"holds",99),(22,"holds",100)] q h
inductive hX{cg:Type}(j:cg):Prop
def hX.az{cg}{j:cg}{W:Prop}(b:hX j):W:=aOk
noncomputable abbrev aqu:=ar→aH→uk→Prop→Prop
noncomputable abbrev aFS:=nC→aH→uk→Prop→Prop
noncomputable abbrev anP:=ls→dv→aH→uk→Prop→Prop
abbrev aE1(y:ar)(a:aH)(i:uk)(f:Prop)(o:N→uk→Prop→Prop):Prop:=oo i (.y qA::i) (o g i (f∧aTA a.F)) (hX (iH a.F y))
abbrev ap9(y:ar)(a:aH)(i:uk)(f:Prop)(o:N→uk→Prop→Prop):Prop:=match y with|qA=>o g i f|.B=>o Y i f|y=>aE1 y a i f o
abbrev ask(p:pl)(a:aH)(i:uk)(f:Prop)(M:aqu):Prop:=match i with|.y j::i=>M j a i (f∧p=c j)|.K::i=>(match p with|c j=>M j a i f|B=>hX p)|_=>hX p
abbrev an4(p:w0)(a:aH)(i:uk)(f:Prop)(M:aqu):Prop:=match i with|.y j::i=>M j a i (f∧oD p j)|.b j z'::i=>M j z' i (f∧qf p j)|_=>hX p
abbrev atq(p:aQj)(i:uk)(f:Prop)(M:aH→uk→Prop→Prop):Prop:=oo i (.b _ z'::i) (M z' i (f∧p=c z'.F)) (hX p)
abbrev akL(bD:dv→aH→uk→aUg anP)(q:u):nC→dv→aH→uk→aUg anP|[],l,a,i,f,M=>M na l a i f|qi,l,a,i,f,M=>bD (Ż (c j)) a i f fun fl l a i f=>match fl with|na=>akL bD q xs l a i f M|.abl=>akL bD q xs l a i f M|.ahl=>M na l a i f|rO=>M rO l a i f
mutual variable(cf:iV)
mutual
abbrev i':dz→dv→aH→uk→aUg aqu|.B,_,a,i,f,M=>M .B a i f|qA,_,a,i,f,M=>aPK qA|n',_,a,i,f,M=>aPK n'|ur,_,a,i,f,M=>aPK ur|ę,l,a,i,f,M=>(match(rS l).afO with|qv=>M y a i f|B=>hX q)|.bL _ y,_,a,i,f,M=>M y a i f|nE Aa,l,a,i,f,M=>akK Aa l a i f fun vs a i f=>aPK (nE vs)|oh Aa,l,a,i,f,M=>akK Aa l a i f fun vs a i f=>aPK (oh vs)|.be d h,l,a,i,f,M=>(i' d l a i f fun p a i f=>match aEH h with|G=>(oo p n3 (match axI a q h with|qv=>M y a i f|B=>hX h) (hX h))|Y=>ask (gz T a.F p h) a i f M)|.aT d o,l,a,i,f,M=>i' d l a i f fun p a i f=>i' o l a i f fun q a i f=>ask (eC a.F p q) a i f M|.dM p j ab,l,a,i,f,M=>i' j l a i f fun j a i f=>i' ab l a i f fun ab a i f=>ask (lY a.F p j ab) a i f M|.ju d,l,a,i,f,M=>(i' d l a i f fun y a i f=>oo y n' (aPK (pe (-q))) (hX y))|.aX p j ab,l,a,i,f,M=>i' j l a i f fun j a i f=>i' ab l a i f fun ab a i f=>ask (f1 a.F p j ab) a i f M|.eB Aa,l,a,i,f,M=>amw G Aa l a i f M|.or Aa,l,a,i,f,M=>amw Y Aa l a i f M|.ir d,l,a,i,f,M=>i' d l a i f fun y a i f=>ap9 y a i f fun g i f=>aPK (n5 (! g))|.bC x j ab,l,a,i,f,M=>(i' x l a i f fun y a i f=>ap9 y a i f fun g i f=>match g with|G=>i' j l a i f M|Y=>i' ab l a i f M)|.bp ac Aa,l,a,i,f,M=>akK Aa l a i f fun vs a i f=>an4 (cf ac vs a.F) a i f M|.eT d h Aa,l,a,i,f,M=>(i' d l a i f fun p a i f=>oo p n3 (match avL q h with|c ac=>akK Aa l a i f fun vs a i f=>an4 (cf ac (n3::vs) a.F) a i f M|B=>hX h) (hX h))|.c9 d,l,a,i,f,M=>i' d l a i f fun y a i f=>ask (acN a.F y) a i f M|.hq d j,l,a,i,f,M=>(i' d l a i f fun p z1 i f=>i' j l z1 i f fun y a i f=>oo p n3 (atq (afk z1.F a.F q y) i f fun a i f=>M .B a i f) (hX p))|.aa3 d,l,a,i,f,M=>(i' d l a i f fun y a i f=>match y with|uW=>aPK pg|xl=>aPK oX|_=>hX y)|d,l,a,i,f,M=>an4 (ç d a.F) a i f M
abbrev akK:hG→dv→aH→uk→aUg aFS|.C,_,a,i,f,M=>M [] a i f|u6,l,a,i,f,M=>i' d l a i f fun y a i f=>akK Aa l a i f fun vs a i f=>aPK (y::vs)
abbrev amw(p:N):hG→dv→aH→uk→aUg aqu|.C,_,_,_,_,_=>hX p|u6,l,a,i,f,M=>i' d l a i f fun y a i f=>match Aa with|.C=>M y a i f|m7 .s=>ap9 y a i f fun g i f=>match g,p with|G,G=>amw p Aa l a i f M|Y,Y=>amw p Aa l a i f M|_,_=>M y a i f
end
mutual
abbrev atN:md→dv→aH→uk→aUg anP|.f_ d,l,a,i,f,M=>aPg (fun P a i f=>M na l a i f)|.ci q d,l,a,i,f,M=>aPg (fun y a i f=>M na (Ż qv) a i f)|.age q d,l,a,i,f,M=>aPg (fun y a i f=>M na (Ż qv) a i f)|.acf is d,l,a,i,f,M=>(aPg (fun y a i f=>oo y (nE vs) (match aTr with|c bW=>M na bW a i f|B=>hX y) (hX y)))|.bC x j ab,l,a,i,f,M=>(i' cf x l a i f fun y a i f=>ap9 y a i f fun g i f=>match g with|G=>agm j l a i f M|Y=>agm ab l a i f M)|s6 d,l,a,i,f,M=>aPg (fun y a i f=>M rO l a i f)|.abl,l,a,i,f,M=>M .abl l a i f|.jd q d g,l,a,i,f,M=>(aPg (fun y a i f=>match i with|.k fl r' z'::i=>M fl r' z' i (f∧aSP ((kn a.F y).bP fun t=>fZ (f0 T cf g) q oI ox l a.F))|vh::i=>(match y with|nE vs=>akL (fun l a i f M=>agm g l a i f M) q vs l a i f M|oh vs=>akL (fun l a i f M=>agm g l a i f M) q vs l a i f M|_=>hX y)|_=>hX (kn a.F y)))|.alJ,l,a,i,f,M=>M na l a i f|.mn q Aa g,l,a,i,f,M=>(akK cf Aa l a i f fun vs a i f=>match i with|.k fl r' z'::i=>M fl r' z' i (f∧aSP ((acb vs).bP fun t=>fZ (f0 T cf g) q B t l a.F))|vh::i=>(match acb vs with|c t=>akL (fun l a i f M=>agm g l a i f M) q t l a i f M|B=>hX vs)|_=>hX (acb vs))|.jl d o j,l,a,i,f,M=>(i' cf j l a i f fun y a i f=>aPg (fun p a i f=>oo p n3 (i' cf o l a i f fun e6 a i f=>atq (lm a.F q e6 y) i f fun a i f=>M na l a i f) (hX p)))|st,l,a,i,f,M=>oo i (.k fl r' z'::i) (M fl r' z' i (f∧aSP (aPC dP st))) (hX (aPC dP st))
abbrev agm:cx→dv→aH→uk→aUg anP|.C,l,a,i,f,M=>M na l a i f|.s k g,l,a,i,f,M=>atN k l a i f fun fl l a i f=>match fl with|na=>agm g l a i f M|fl=>M fl l a i f
end
end
def Xg{gn:Type}{j}{aj}:∀{i:rC ea gn},rR i.cm aj→(j,aj)∈i|(ab,d)::l,b=>by rw[xi r.aa5];split at b;rename_i t;rw[nf b,om,mY b,pq,lb.1 t,mW uA,mW (aQX (Xg b))]
def AV{cg:Type}{W:cg→Prop}{f}{i}(b:W f)(h2:∀t∈i,W t):∀t∈f::i,W t:=rW r.aul.2 b h2
def L_(a)(q)(h)(y)(b:axI a q h=c y):w_ n3 h=c y:=(AV (W:=fun t:u×ea×ar=>w_ (.D ox) (nj t)=c (nW t)) (RK a) (AV (RJ a) (AV (RI a) (AV (I2 a) (AV (L8 a) (AV (L9 a) (AV (Q9 a) (AV (L1 a) (AV (Rt a) (AV (Rv a) (AV (L0 a) (AV (Rq a) (AV (L3 a) (AV (Ru a) (AV (Rp a) (AV (Rr a) (AV (L2 a) (AV (Rw a) (AV (Rs a) (AV (LT a) (fun ψ b=>aQA b))))))))))))))))))))) _ (Lg (gn:=ar) _ b)
def Xi(a:aH)(q)(h)(ac)(b:avL q h=c ac):my T a.F n3 h=c ac:=(AV (W:=fun t:u×ea×u=>aOn (.D ox) (nj t) (nW t)) (Fa a) (AV (Xl a) (AV (Xm a) (AV (OP a) (AV (Xn a) (AV (Xo a) (AV (Xp a) (AV (Xq a) (AV (Xr a) (fun ψ b=>aQA b)))))))))) _ (Lg (gn:=u) _ b)
def FH{p}{a}{i}{f}{M}(b:ask p a i f M):∃j l' dE,aOb (M j a l' dE) (p=c j):=by rw[ñ (by rw[aOF]) j (by induction j using jF.ae with|y j=>exact(A9 _ _ _ b id)|K=>(induction p using ap.ae with|c j=>exact(n7 A9 b (w5 (qS n)))|B=>rw[aOF])|_=>rw[aOF])]
def IZ{p}{a}{i}{f}{M}(b:an4 p a i f M):∃j z' l' dE,aOb (M j z' l' dE) (qf p j):=by rw[ñ (by rw[aOF]) j (by induction j using jF.ae with|y j=>exact(ni AQ b id)|b j z'=>exact(ni AQ b id)|_=>rw[aOF])]
def Acr{y:ar}{a:aH}{i:uk}{f:Prop}{o:N→uk→Prop→Prop}(b:aE1 y a i f o):∃g l' dE,aOb (o g l' dE) (aTA a.F):=by rw[ñ (by rw[aOF]) j (by induction j using jF.ae with|y j=>(rw[qO j aO g (by exact(A9 _ _ _ b id)) (by rw[aOF])])|_=>rw[aOF])]
def Iv{y}{a}{i}{f}{o}(b:ap9 y a i f o):∃g l' dE,aOb (o g l' dE) (aTA a.F):=by induction y using ar.ae with|aO g=>exact(n7 A9 b (fun f=>qS f))|B=>exact(n7 A9 b (fun f=>qS f))|_=>exact Acr b
abbrev hS(cf:iV)(d:dz):Prop:=∀l a i f M,aPg M→∃j z' l' dE,aOb (M j z' l' dE) (qf (ç d a.F) j)
abbrev ah5(cf:iV)(Aa:hG):Prop:=∀l a i f M,akK cf Aa l a i f M→∃j z' l' dE,aOb (M j z' l' dE) (qf (aPC h0 Aa) j)
abbrev aq8(cf:iV)(p:N)(Aa:hG)(l:dv)(w:ch):w0:=match p with|G=>ada T cf Aa l w|Y=>afs T cf Aa l w
abbrev amg(cf:iV)(Aa:hG):Prop:=∀p l a i f M,amw cf p Aa l a i f M→∃j z' l' dE,aOb (M j z' l' dE) (qf (aq8 cf p Aa l a.F) j)
mutual variable{cf:iV}
def B2{d}(aj:∀l a i f M,aPg M=an4 (ç d a.F) a i f M):yC:=qC (IZ (aj l a i f M▸b))
def Gw{d}{y}(aj:∀l a i f M,aPg M=M y a i f)(t:∀l w,aQ1 d=c (y,w)):yC:=qC (AQ y a i f (aj l a i f M▸b) (fun f=>⟨f,m7 t⟩))
def Y4(q):wY ę:=qC (by replace b:(match(rS l).afO with|qv=>M y a i f|B=>hX q):=b;induction d:(rS l).afO using ap.ae with|c y=>rw[pr d,mW (ni AQ b (fun f=>⟨f,sg Bl d⟩))]|B=>rw[xi d,mW b.az])
def Y3{Aa}(g:aVt):wY (nE Aa):=qC (by rw[zF vs,mW (vN (qy n (sg IC v6)))])
def YY{Aa}(g:aVt):wY (oh Aa):=qC (by rw[zF vs,mW (vN (qy n (sg Qy v6)))])
def YQ{d}{h}(g:yC):wY (.be d h):=qC (by rw[zF p,pI hs (aEH h) (by rw[pr hs];dsimp only at b;(rw[qO p D q (by dsimp only at b;split at b;rename_i y d;rw[mW (vN (qy n (by rw[aPW Di v6 (L_ z1 q h y d)];rfl))),mW b.az]) (by rw[yf])])) (by rw[pr hs,mX AD (FH b) fun j kG a2 b da=>?_,mW (vN (qy (da n).1 (by rw[aPW Di (t (da n).1).2 aU0];rfl)))])])
def YW{d o}(g:yC)(x:hS cf o):wY (.aT d o):=qC (by rw[zF p,mX AA (wn x) fun q bz kG a2 b da=>?_,mX AD (FH b) fun j ab3 a3 b fC=>?_,mW (aUZ (by simp only[Adk,tT,ap.eO,aPB,ap.eO,yx];rfl))])
def YR{p}{d o}(g:yC)(x:hS cf o):wY (.dM p d o):=qC (by rw[zF P,mX AA (wn x) fun q bz kG a2 b da=>?_,mX AD (FH b) fun j ab3 a3 b fC=>?_,mW (aUZ (by simp only[Qu,tT,ap.eO,aPB,ap.eO,yx];rfl))])
def YT{p:ai5}{d o:dz}(g:yC)(x:hS cf o):wY (.aX p d o):=qC (by rw[zF P,mX AA (wn x) fun q bz kG a2 b da=>?_,mX AD (FH b) fun j ab3 a3 b fC=>?_,mW (aUZ (by simp only[Adc,tT,ap.eO,aPB,ap.eO,yx];rfl))])
def Y0{d}(g:yC):wY (.ju d):=qC (by rw[zF y,qO y m q (by exact(vN (qy n (by rw[aRB v6];rfl)))) (by rw[yf])])
def Y1{d}(g:yC):wY (.ir d):=qC (by rw[zF y,mX AD (Iv b) fun v kG a2 b da=>?_,mW (vN (have dN:=(da n).1;qy dN (by rw[aPW Adm tT aU0];rfl)))])
def YV{x j ab}(g:hS cf x)(aj:hS cf j)(d:hS cf ab):wY (.bC x j ab):=qC (by rw[zF y,mX AD (Iv b) fun v kG a2 b da=>?_,rs v (by rw[mX AA (wn aj) fun j e2 ab3 a3 b fC=>?_,mW (aUZ (by rw[Qx,tT,ap.eO,aPB,mW yx]))]) (by rw[mX AA (wn d) fun j e2 ab3 a3 b fC=>?_,mW (aUZ (by rw[Qx,tT,ap.eO,aPB,mW yx]))])])
def YS{ac}{Aa}(g:aVt):wY (.bp ac Aa):=qC (by rw[zF vs,mX AA (IZ b) fun j bz kG a2 b da=>?_,mW (vN (have dN:=(da n).1;qy dN (by simp only[Qv,tT,ap.eO];exact aU0)))])
def YZ{d}{h}{Aa}(aj:yC)(g:aVt):wY (.eT d h Aa):=qC (by rw[mX AA (wn aj) fun p gm aeL aM b hk=>?_,qO p D q (by dsimp only at b;split at b;rename_i ac b2;rw[zF vs,mX AA (IZ b) fun j bz kG a2 b da=>?_,mW (vN (have dN:=(da n).1;have ab9:=(t dN).1;⟨(hk ab9).1,by simp only[Lv,(hk ab9).2,ap.eO,Xi gm q h ac b2,ap.eO,tT,ap.eO];exact aU0⟩)),mW b.az]) (by rw[yf])])
def YX{d}(g:yC):wY (.c9 d):=qC (by rw[zF y,mX AD (FH b) fun j kG a2 b da=>?_,mW (vN (have dN:=(da n).1;qy dN (by rw[aRB tT];simp only[ap.eO,aU0];rfl)))])
def L6{p}{i}{f}{M}(b:atq p i f M):∃z' l' dE,aOb (M z' l' dE) (p=c z'.F):=by rw[ñ (by rw[aOF]) j (by induction j using jF.ae with|b j z'=>exact(A9 _ _ _ b id)|_=>rw[aOF])]
def YP{d j}(g:yC)(x:hS cf j):wY (.hq d j):=qC (by rw[m3 AA (wn g),om,mY p z1 ip a1 b t,m3 AA (wn x),om,mY y bz kG a2 b da,qO p D q (by rw[m3 AD (L6 b),om,mY e2 ab3 a3 b fC,mW (aUZ (by rw[aRB tT];show î (ç j z1.F)=_;simp only[aPB,ap.eO,yx];rfl))]) (by rw[yf])])
def YU{d}(g:yC):wY (.aa3 d):=qC (by rw[zF y];induction y using ar.ae with|bi k=>exact(vN (qy n (by rw[aRB v6];rfl)))|m k=>exact(vN (qy n (by rw[aRB v6];rfl)))|_=>rw[yf])
def Y6:ah5 cf .C:=qC (vN ⟨n,oy⟩)
def Y5{d}{Aa}(g:yC)(x:aVt):ah5 cf u6:=qC (by rw[zF y,mX AA (wn x) fun vs bz kG a2 b da=>?_,mW (vN (have dN:=(da n).1;qy dN (by rw[aPW Add tT aU0];rfl)))])
def Ut(p)(d)(l)(w):aq8 cf p (.s d .C) l w=aQ1 d:=by rw[wE p];exact Ado ..;exact GY ..
def Nq(p)(d a5)(Aa)(l)(w a4)(y)(g)(b:o5 (aQ1 d) y)(v:aTA a4):aq8 cf p (.s d (.s a5 Aa)) l w=ov g p (aq8 cf p (.s a5 Aa) l a4) (c (y,a4)):=by rw[wE p];show afs T cf _ l w=_;rw[Adp,b,ap.eO,v,mZ v];induction g using N.ae<;>rfl;show ada T cf _ l w=_;rw[Ls,b,ap.eO,v,mZ v];induction g using N.ae<;>rfl
def YL:amg cf .C:=fun p l a i f M b=>(b:hX p).az
def YK{d}{Aa}(g:yC)(x:amg cf Aa):amg cf u6:=fun p l a i f M b=>by rw[m3 AA (wn g),om,mY y z1 ip a1 b t];induction Aa using hG.ae with|C=>exact(vN (qy n (nb Ut v6)))|s a5 Aa=>rw[m3 AD (Iv b),mZ b,mY v kG a2 b da,nH ho v p];subst ho;rw[m1 (amw cf v (.s a5 Aa) l z1 kG a2 M) (by rw[mZ da,aOm v b]),om,mY b,m3 AA (nv (ni x) b),mZ b,mY j e2 ab3 a3 b fC,mW (aUZ (tL (ni (Nq v d _ _) _ tT aPB) vp yx)),m1 (M y z1 kG a2) (by clear da;induction v using N.ae<;>induction p using N.ae<;>first|exact b|exact t' ho e),om,nR,mW (vN (have dN:=(da n).1;qy dN (tg (ni (Nq p d _ _) _ tT aU0) (cH ho))))]
def YO{Aa}(x:amg cf Aa):wY (.eB Aa):=qC (by rw[mX AA (nv (ni x) b) fun j z' l' dE b t=>?_,mW (vN (qy n (by simp only[En]at⊢;exact v6)))])
def Y2{Aa}(x:amg cf Aa):wY (.or Aa):=qC (by rw[mX AA (nv (ni x) b) fun j z' l' dE b t=>?_,mW (vN (qy n (by simp only[Adn]at⊢;exact v6)))])
abbrev aF5(cf:iV)(Aa:hG):Prop:=aVt∧amg cf Aa
def Cy(d):yC:=by rw[mX (ss (ss (ss (ss (ss (nI dz.jB fW (hS cf) hv (aF5 cf)))))) ?_ ?_ d),mW Gw (fun P P P P P=>e) (IB T cf),mW fun g=>Gw (fun P P P P P=>e) (Fv T cf g),ü (fun g=>Gw (fun P P P P P=>e) (Ao T cf g)) (fun g=>Gw (fun P P P P P=>e) (DI T cf g)) Y4 (fun h y=>Gw (fun P P P P P=>e) (Dj T cf h y)),ü (fun P g=>Y3 g.1) (fun P g=>YY g.1) (wW Đ) (nO Đ),ü (wc g (YQ g)) (fun P P g x=>YW g x) aVO aVO,ü aVO (wW Đ) (fun P P P g x=>YR g x) (fun P g=>Y0 g),ü (fun P P P g x=>YT g x) (fun P g=>YO g.2) (fun P g=>Y2 g.2) (fun P g=>Y1 g),ü (fun P P P g x aj=>YV g x aj) (wc g (YS g.1)) (wc P Đ) (fun P P P g x=>YZ g x.1),ü (fun P g=>YX g) (wW Đ) (wW Đ) (wW Đ),ü (wW Đ) aVO (fun P g=>YU g) aVO,ü aVO (fun P P g x=>YP g x) aVO (wW Đ),mW fun P P P P P P P=>Đ,mW Đ,mW ⟨Y6,YL⟩,mW fun P P g x=>⟨Y5 g x.1,YK g x.2⟩]
def Ra(Aa):aVt:=by rw[mY l a i f M b,mX AA (Cy (nE Aa) l a i f (fun y a i f=>oo y (nE vs) (M vs a i f) aks) b) fun j z' l' dE b t=>?_,qO j ay vs (by rw[mX AQ vs z' l' dE b (w5 ⟨(t n).1,?_⟩)];have d:=v6;simp only[IC]at d;(induction Q:aPC h0 Aa using ap.ae with|B=>rw[Q]at d;rw[yc]|c V=>rw[Q]at d;have aV:=ap.c.dB d;rw[m2 (ar.ay.dB (cr fK.fst aV)),mY a1,m2 (cr fK.snd aV),mY a2,mW cr c (fK.aaW a1 a2)])) (by rw[yf])]
end
abbrev afg(cf:iV)(k:md):Prop:=∀l a i f M,atN cf k l a i f M→∃fl r' z' l' dE,aOb (M fl r' z' l' dE) (aSP (aPC dP k))
abbrev ahd(cf:iV)(k:cx):Prop:=∀l a i f M,agm cf k l a i f M→∃fl r' z' l' dE,aOb (M fl r' z' l' dE) (aSP (aPC b4 k))
mutual variable{cf:iV}
abbrev aGv(p:lV)(i:uk)(f:Prop)(M:anP):Prop:=oo i (.k fl r' z'::i) (M fl r' z' i (f∧aSP p)) (hX p)
def D7{k}(aj:∀l a i f M,atN cf k l a i f M=aGv (aPC dP k) i f M):afg cf k:=qC (by rw[pr aj,ñ (by rw[yf]) j (by induction j using jF.ae with|k fl r' z'=>exact(ni Bk _ b id)|_=>rw[yf])])
def Zo(d):aQz (.f_ d):=qC (by rw[mX AA (nv (oM Cy d) b) fun y z1 ip a1 b t=>?_,mW (tu (qy n (sg QC v6)))])
def Zl(q)(d):aQz (.ci q d):=qC (by rw[mX AA (nv (oM Cy d) b) fun y z1 ip a1 b t=>?_,mW (tu (qy n (sg QA v6)))])
def Zm(q)(d):aQz (.age q d):=qC (by rw[mX AA (nv (oM Cy d) b) fun y z1 ip a1 b t=>?_,mW (tu (qy n (by simp only[AdC,v6]at⊢;rfl)))])
def Zt(d):aQz (s6 d):=qC (by rw[mX AA (nv (oM Cy d) b) fun y z1 ip a1 b t=>?_,mW (tu (qy n (sg QD v6)))])
def Zv(is:nq)(d:dz):aQz (.acf is d):=qC (by rw[m3 AA (nv (oM Cy d) b),om,mY y z1 ip a1 b t,qO y ay vs (by replace b:(match aTr with|c bW=>M na bW z1 ip a1|B=>hX (ar.ay vs)):=b;(induction hs:aTr using ap.ae with|B=>rw[xi hs,mW b.az]|c bW=>rw[pr hs,mW (tu (qy n (by show ap.bP (ç _ a.F) _=_;rw[v6];show(aTr).au _=_;rw[hs];rfl)))])) (by rw[yf])])
def Zq(x:dz){j ab:cx}(aj:ahd cf j)(d:ahd cf ab):aQz (.bC x j ab):=qC (by rw[m3 AA (nv (oM Cy x) b),om,mY y z1 ip a1 b t,m3 AD (Iv b),om,mY v kG a2 b da,rs v (by rw[m3 Bz (wn aj),om,mY fl r' e2 ab3 a3 b fC,mW (tu (have dG:=(fC n).1;have dN:=(da dG).1;qy dN (by rw[IE,tT,ap.eO,aPB,mW yx])))]) (by rw[m3 Bz (wn d),om,mY fl r' e2 ab3 a3 b fC,mW (tu (have dG:=(fC n).1;have dN:=(da dG).1;qy dN (by rw[IE,tT,ap.eO,aPB,mW yx])))])])
def FT{g}(aj:ahd cf g)(q):∀(vs)(l)(a)(i)(f)(M),akL (fun l a i f M=>agm cf g l a i f M) q vs l a i f M→∃fl r' z' l' dE,aOb (M fl r' z' l' dE) (aSP (fZ (f0 T cf g) q B vs l a.F))|[],l,a,i,f,M,b=>(tu ⟨n,BG ..⟩)|qi,l,a,i,f,M,b=>by rw[m3 Bz (wn aj),om,mY fl bW z1 ip a1 b t];induction fl using ls.ae with|bU=>rw[m3 Bz (uF (FT aj q xs _) b),om,mY fl r' e2 ab3 a3 b fC,mW (tu (have dN:=(fC n).1;qy dN (by rw[EV,DM,tT,mW yx])))]|abl=>rw[m3 Bz (uF (FT aj q xs _) b),om,mY fl r' e2 ab3 a3 b fC,mW (tu (have dN:=(fC n).1;qy dN (by rw[EV,DM,tT,mW yx])))]|ahl=>exact(tu (qy n (by simp only[EV,DM,v6];rfl)))|bu y=>exact(tu (qy n (by simp only[EV,DM,v6];rfl)))
def Zp(q)(d){g}(aj:ahd cf g):aQz (.jd q d g):=qC (by rw[m3 AA (nv (oM Cy d) b),om,mY y z1 ip a1 b t,oS ip (by rw[yf]) j ip (by induction j using jF.ae with|k fl r' z'=>exact(tu (qy nk (tL ID (t nk).2 nh)))|aP=>(induction y using ar.ae with|ay vs=>rw[m3 Bz (uF (FT aj q vs _) b),om,mY fl r' e2 ab3 a3 b fC,mW (tu (have dN:=(fC n).1;qy dN (tL ID tT yx)))]|bm vs=>rw[m3 Bz (uF (FT aj q vs _) b),om,mY fl r' e2 ab3 a3 b fC,mW (tu (have dN:=(fC n).1;qy dN (tL ID tT yx)))]|_=>rw[yf])|_=>rw[yf])])
def Zs(q)(Aa){g}(aj:ahd cf g):aQz (.mn q Aa g):=qC (by rw[mX AA (nv (oM Ra Aa) b) fun vs z1 ip a1 b t=>?_,oS ip (by rw[yf]) j ip (by induction j using jF.ae with|k fl r' z'=>exact(tu (qy nk (tL Lx (t nk).2 nh)))|aP=>replace b:(match acb vs with|c t=>akL (fun l a i f M=>agm cf g l a i f M) q t l z1 ip a1 M|B=>hX vs):=b;(induction br:acb vs using ap.ae with|B=>rw[xi br,mW b.az]|c V=>rw[pr br,mX Bz (uF (FT aj q V _) b) fun fl r' e2 ab3 a3 b fC=>?_,mW (tu (have dN:=(fC n).1;qy dN (by rw[aPW Lx tT br,mW yx])))])|_=>rw[yf])])
def AdE{cf}{d o j}{l}{w a4 dm}{q}{e6 y}(Q:o5 (aQ1 j) y)(h2:ç d a4=c (n3,dm)){acl}(h3:ç o dm=c (e6,acl)):dP T cf (.jl d o j) l w=ow (lm acl q e6 y) w (na,l,w):=by simp only[Ly,Q,ap.eO,h2,ap.eO];show î (ç o dm)=_;rw[h3];rfl
def Zu(d o j):aQz (.jl d o j):=qC (by rw[mX AA (nv (oM Cy j) b) fun y z1 ip a1 b t=>?_,mX AA (nv (oM Cy d) b) fun p bz kG a2 b da=>?_,qO p D q (by rw[mX AA (nv (oM Cy o) b) fun e6 e2 ab3 a3 b fC=>?_,mX AD (L6 b) fun l_ aNb aqE b ahU=>?_,mW (tu (have fH:=(ahU n).1;have dG:=(fC fH).1;have dN:=(da dG).1;qy dN (qZ (AdE tT aPB (fC fH).2) (ahU n).2)))]) (by rw[yf])])
def Zr:ahd cf .C:=qC (tu ⟨n,sV⟩)
def Zn{k}{g}(aj:afg cf k)(d:ahd cf g):ahd cf (.s k g):=qC (by refine Bz (wn aj) fun fl bW z1 ip a1 b t=>?_;induction fl using ls.ae with|bU=>rw[mX Bz (wn d) fun fl r' e2 ab3 a3 b fC=>?_,mW (tu (have dN:=(fC n).1;qy dN (tL Eo tT yx)))]|_=>exact(tu (qy n (sg Eo v6))))
def LP(g):ahd cf g:=by rw[mX (ss (ss (nI cx.jB fW (afg cf) hv (ahd cf))) ?_ ?_ ?_ ?_ g),ü Zo Zl Zm (wc P aUW),ü Zu Zv (wc P aUW) (fun P P P P=>aUW),ü (wW aUW) (wW aUW) (fun x P P aj d=>Zq x aj d) (wc P aUW),ü (fun q d P aj=>Zp q d aj) (fun q Aa P aj=>Zs q _ aj) Zt (qC (tu (qS n))),mW (qC (tu ⟨n,AdD ..⟩)),mW aUW,mW Zr,mW fun P P aj d=>Zn aj d]
inductive ac0 where|K|aP|n(W:Prop)(b:W)(f:jF)
abbrev ac0.an:ac0→jF|K=>.K|aP=>vh|nv n f=>f
abbrev apO:r ac0→Prop→Prop|[],f=>f|.K::i,f=>apO i f|vh::i,f=>apO i f|.n W _ _::i,f=>apO i (f∧W)
def Ib:∀(i)(f),f→apO i f|[],_,b=>b|.K::i,f,b=>Ib i f b|vh::i,f,b=>Ib i f b|.n _ t _::i,_,b=>Ib i _ ⟨b,t⟩
abbrev p{t:pl}{j:ar}(b:t=c j):ac0:=.n _ b (.y j)
abbrev aZ{t:w0}{j:ar}{a:aH}(b:oD t j):ac0:=.n _ b (.b j a)
abbrev os{t:lV}{fl:ls}{l:dv}{a:aH}(b:t=c (fl,l,a.F)):ac0:=.n _ b (.k fl l a)
abbrev aaF{t:aQj}{a:aH}(b:t=c a.F):ac0:=.n _ b (.b .B a)
abbrev acS{t:ap N}{g:N}(b:t=c g):ac0:=.n _ b (.y qA)
abbrev aqv{gn:Type}(i:r ac0)(j:gn):Prop:=apO i abh∧j=j
def KP{gn}(i)(j:gn):aqv i j:=qS (Ib i _ jC)
noncomputable abbrev aFx(cf:iV)(g:cx)(l r':dv)(a z':aH)(fl:ls)(i:r ac0):Prop:=aqv i (fl,r',z')=agm cf g l a (i.au ac0.an) abh fun aoF bW z1 ψ f=>f∧(aoF,bW,z1)=(fl,r',z')
noncomputable abbrev aFz(cf:iV)(g:cx)(l:dv)(a z':aH)(y:ar)(i:r ac0):Prop:=aqv i (y,z')=agm cf g l a (i.au ac0.an) abh fun aoF ψ z1 ψ f=>f∧(aht aoF,z1)=(y,z')
noncomputable abbrev aFy(cf:iV)(j:dz)(l:dv)(a z':aH)(y:ar)(i:r ac0):Prop:=aqv i (y,z')=i' cf j l a (i.au ac0.an) abh fun gd z1 ψ f=>f∧(gd,z1)=(y,z')
def AZ{g}{l r'}{a z'}{fl}(i)(d:aFx cf g l r' a z' fl i):aSP (aPC b4 g):=by rw[m3 Bz (LP g l a _ abh _ (ack.mp d (KP i (fl,r',z')))),mY aoF bW z1 l' dE b t];cases qK;exact(t od).2
def Af{g}{l}{a z'}{y}(i)(d:aFz cf g l a z' y i):qf (cW (aPC b4 g)) y:=by rw[mX Bz (LP g l a _ abh _ (ack.mp d (KP i (y,z')))) fun aoF bW z1 l' dE b t=>?_,(t od).2,mZ d t];cases qK;rfl
def A0{j}{l}{a z'}{y}(i)(d:aFy cf j l a z' y i):qf (ç j a.F) y:=by refine AA (Cy j l a _ abh _ (ack.mp d (KP i (y,z')))) fun gd z1 l' dE b t=>?_;cases qK;exact(t od).2
end
set_option tactic.hygienic false
abbrev a9.lit:aQH|m7 .aO|uW|.mN|rx=>G|_=>Y
abbrev a9.je:aQH|.aO _ ac=>ac==1|_=>Y
abbrev a9.o:a9→R|q8 _=>1|m7 .aO=>2|uW=>3|.mN=>4|rx=>5|qs _=>6|m7 .D=>8|nP _=>9|.bY _=>10
abbrev a9.jE:a9→R|uW|rx=>6|.mN=>7|_=>-1
def Bo(w)(l:a9):rm (eC w l.aY nr) l.o:=by induction l using a9.ae<;>exact sF B5
abbrev aH.ad(a:aH):u:=qR+a.ca.z
abbrev aH.As(a:aH)(p:c_):aH:=oP ca (a.ca++[p])
def Bj(a:aH):a.F.z=a.ad:=CI a
def Qg(a:aH)(b:pN):a.gl<a.ad:=by delta aH.gl aH.ad;split;rw[mW O3,mW O4 b]
def Cc(a:aH)(p)(b:pN):tD p=(a.As p).F:=by rw[aPY,sr (a.As p).gl a.gl e,sr (a.As p).g8 a.g8 e,m6 (_=((a.g8++xS)++(a.ca++[p])).b6 _ (oU a.eM)),m1 (a.gl<((a.g8++ii 2 _)++a.ca).z) (by rw[aUb Bs Ca,mW Qg a b]),p0,←r.abO,tj (r.abC (k:=(a.g8++ii 2 _)++a.ca))]
def GE(a:aH)(p)(b:pN):n9 (a.As p).F a.ad p:=by rw[←Cc a p b,←Bj];simp
def KX(a:aH)(p o')(b:pN):(a.As p).F.b6 a.ad o'=(a.As o').F:=by rw[←Cc a p b,←Cc a _ b,←Bj];simp
def D_(a:aH)(p)(b:pN):(a.As p).Ap≤(a.As p).ca.z:=by simp[aH.As];exact Ag [a.Ap,a.ca.z] S nN S ai e b
def Fm{w}{q}{i}(b:yq):lN w n3=c i:=by rw[m6 ((aNX (c i))=c i),b]
def Il{w}{q}{i}(b:yq):kn w n3=c (i,c (q,i)):=by rw[m6 ((aNX (c (i,c (q,i))))=c (i,c (q,i))),b]
def CX{w}{y}{i}{h}(b:lN w y=c i)(d:nc i.z=h):rm (acN w y) h:=by rw[oT,mW (pk (ap.au fun i:r _=>ar.m _) b)]
def AH{f g}{x}(b:(f==g)=x):f1 [] .eq th y_=c (qP x):=by rw[pq];rfl
def EJ{f g}{x}(b:(!(f==g))=x):f1 [] .ne th y_=c (qP x):=by rw[pq];rfl
def CS{f g}{x}(b:b1 (g≤f)=x):f1 [] .ge th y_=c (qP x):=by rw[pq];rfl
def B'{f g}{x}(b:b1 (g<f)=x):f1 [] .gt th y_=c (qP x):=by rw[pq];rfl
def Cz{f g}{x}(b:b1 (f<g)=x):f1 [] .lt th y_=c (qP x):=by rw[pq];rfl
def N3:∀i:n1,ar.kP 6 (i.au .m)=G|[]=>e|wN=>(N.c3 ..).gS (wz (N3 i))
def Jn(o)(i:n1){x}(b:i.afo o=x)(aB:u.aam i.z 1000=G:=by rfl):f1 [] .gH qw (wt i.au .m)=c (qP x):=by rw[m1 (((ar.m o).i6 6&&ar.kP 6 (i.au _)&&b1 (Á (rH i.au ar.m)))=G) (Ŵ N3 r.hN (hZ (u.eI (u.afQ aB) (nw:Á 1000)))),p0,m6 ((nK (((ar.m o).i6 6&&ar.kP 6 _&&b1 (Á (rH i.au _)))=G) nJ).au _=_),c0 d,ap.ji,show b1 (ar.m o∈i.au ar.m)=x by rw[oA,pq,N.ac9,decide_eq_true_iff,r.akI,r.fq,mW ⟨fun⟨j,J,d⟩=>by rw[p2 d,pi,mW J],oE ⟨o,b,e⟩⟩]]
def H6{w}{q}{i}(b:yq):rm (acN w n3) i.z:=by simp only[acN,lN,b];rfl
def Kw(w)(i):rm (acN w q1) i.z:=e
def CT{w}{j x}{g}(b:jT w j x=c g):f1 w .gH j x=c qA:=pk (ap.au ar.aO) b
def S5{w}{j}{f}{i}{g}(K:aPf uH)(b:jT w j rY=c g):f1 w .lM j rY=c (n5 (! g)):=by simp only[f1,K,b,ap.ji]
def XD{cf}{l}(a:aH)(aS:pN)(g):aVl T (.lK g)=c (.D a.ad,uI (if g then sj else nS)):=by simp only[IA,Ð Cc _,Bj]
def Vg{cf}{d}{l}{w bJ}{g}(b:aQ1 d=c (qA,bJ)):ahq T cf (.s d .C) l w=c (g,bJ):=qZ Lu b
def CK{O}{cf}{q}{l}{w}{y}(b:(rS l).afO=c y):oC ę=c (y,w):=sg Bl b
def LZ{w}{q}{i}(y)(b:yq)(aB:zE):afk w w q y=c (tn (.aw (i++[y]))):=by simp only[afk,kC,afL,b,aB,fU]
def KY{w}{q}{i}(o y)(b:aUM)(v:l4 o=G)(t:o.im jA=G)(aB:zE):lm w q o y=c (tn (.bE (aU6 o))):=by simp only[lm,b,v,t,aB,aGY,N.aen,fU]
def Z8{w}{q}{i}(o)(y)(b:ã)(aB:zE):lm w q qw y=c (tn (uG (ab2 o y i))):=by simp only[lm,jp,b,aB,fU]
def Wx(l:a9):[2,3,4,5].afo l.o=l.lit:=zR
def Wk(a:aH)(h v:u)(l)(b:aOO):qM 10 aQI (qP l.lit):=nd R7 [ą v l b,p (Bo a.F l),sZ (Jn l.o [2,3,4,5]) Wx l]
def HX(a:aH)(h v:u)(l)(b:aOO):qM 11 aQI (qP l.je):=by rw[m2 (sP v l b),om,nR];induction l using a9.ae with|dx|un|bI|bY=>rw[oq Mn [p b,.K,.K]]|_=>rw[oq Mn [p b,.K,.K,.K,.K]]
def Aal(a:aH)(h v:u)(l)(b:aOO)(b2:aOx):pG 2 12 aQI oF:=nd R9 [aZ (b2▸HX a h v l b)]
def F_(a:aH)(h)(y):qM 91 [tJ,y] y:=nd SI []
def Ij(a:aH)(h v:u)(l)(b:aOO)(b2:aOx):pG 3 25 [tJ,oF] oF:=by have Q:=F_ a nB oF;have h2:=Wk a nB v l b;induction aB:l.lit using N.ae with|Y=>rw[oq Mr [aZ Q,aZ (aB▸h2)]]|G=>rw[oq Mr [aZ Q,aZ (aB▸h2),aZ (Aal a h v l b b2)]]
abbrev a9.e7(v:u):a9→nq|r2=>i|_=>qU
def Ke{v:u}(f:u)(b:v≠f):(nc v==vn)=Y:=acw fun d=>b (R.gq.dB d)
def GD:∀(a:aH)(h v:u)(l:a9)(b:aOO)(h2:v≠2),qM 2 aQI (qL (cS (l.e7 v))):=by injections a h v l;rw[mY b h2,m2 (sP v l b),om,nR];induction l using a9.ae with|un i=>rw[oq Bw [p (AH (Ke 2 h2)),p b,.K,.K,.K]]|_=>rw[oq Bw [p (AH (Ke 2 h2)),p b,.K,.K]]
def Em(a:aH)(h)(l:a9):qM 3 [l.aY] (.m l.jE):=by induction l using a9.ae with|bi k=>rw[oq CQ [.K,.K]]|mN=>rw[oq CQ [.K,.K,.K,.K]]|jc=>rw[oq CQ [.K,.K,.K,.K,.K,.K]]|_=>rw[oq CQ [.K,.K,.K,.K,.K]]
def Aam(a:aH)(h v:u)(l)(b:aOO)(b2:aOx):qM 4 aQI us:=by rw[m2 (sP v l b),om,nR];induction l using a9.ae with|aO y ac=>rw[oq Jc [p b,.K,.K,.K,rN b2]]|dx|un|bI|bY=>rw[oq Jc [p b,.K,.K]]|_=>rw[oq Jc [p b,.K,.K,.K,.K]]
def OI(a:aH)(h)(aS:pN):qM 95 [nQ] (nE [nr,.m a.eM.z]):=nd SL [p (H6 (Gc a)),p (H6 (DZ a aS))]
def Qa(a:aH)(h):qM 29 [nQ] oX:=nd Se []
def XO(a:aH)(h)(y):qM 96 [nQ,y] .B:=nd SM []
abbrev aaw:u→oB→yt|_,[]=>[]|o,l::i=>(l.aY,qw)::aaw pY i
def HY:∀gv,aaw gv []=([]):=rp
def HZ:∀o l i,aaw o (l::i)=((l.aY,qw)::aaw pY i):=uD
abbrev gG:oB→a9→u|[],_=>0|f::i,l=>ov f l 0 (aRc+1)
def Gg:∀gv,gG [] gv=(0):=rp
def Gh:∀f i l,gG (f::i) l=(ov f l 0 (aRc+1)):=uD
abbrev eL(i:oB)(l:a9):oB:=if l∈i then i else Õ i
abbrev afm:u→ar→ar|q,o9=>i.ld q .B|_,_=>.B
abbrev aiV:ar→R|n'=>q|_=>0
abbrev awJ:ar→ea|ur=>k|_=>""
abbrev awH:ar→nC|o9=>i|_=>[]
abbrev azS(h:ea)(i:nC):o4:=ow (i.amD fun y=>awJ (afm 0 y)==h) y ((aiV (afm 1 y)).es,aiV (afm 2 y)==1)
abbrev a9.ajq(y:ar):R→a9|1=>.dx (awJ (afm 1 y))|2=>.aO (aiV (afm 1 y)) (aiV (afm 2 y))|3=>.bi (awJ (afm 1 y))|4=>.mN|5=>rx|8=>.D (azS "p" (awH (afm 1 y))) (azS "q" (awH (afm 1 y)))|9=>nP (aiV (afm 1 y)).es|10=>.bY (aiV (afm 1 y)).es|_=>.un ((awH (afm 1 y)).au (nF (aiV j).es))
def M4(l):a9.ajq l.aY l.o=l:=by induction l using a9.ae with|D n t=>(rcases n with(_|⟨o,_|_⟩))<;>(rcases t with(_|⟨aax,_|_⟩))<;>rfl|un i=>rw[m6 (a9.un ((cS i).au (nF (aiV j).es))=_),show(cS i).au (nF (aiV j).es)=i by unfold cS;rw[r.aeN,mW r.aDM i]]|_=>rfl
def Nh(l k:a9)(b:l.aY=k.aY):l=k:=by rw[m2 (by rw[m2 (Bo [] l),mY Q];rw[b,Bo]at Q;exact rz (ş ar.m.dB Q)),mY aG,←M4 l,←M4 k,b,aG]
def JB(l)(i)(o):kx l.aY (aaw o i)=nK (l∈i) (nn (o+aRc:u)):=by induction i generalizing o with|C=>rfl|s f i ih=>simp only[HY,HZ,EM,EN];rw[nH d f l,mZ ih,oT];simp[Gg,Gh];rw[m1 (¬f.aY=l.aY) (oE (d (nv Nh b))),mY aa,cH aa,ih,m1 (¬l=f) (oE (d b.cq)),mY a5];simp only[r.gA,a5,ags,Gg,Gh,cH d];rw[rh (pY+aRc) (o+(aRc+1)) (BI (rV aRc) zr tS e)]
def M9(l)(i)(o)(b:l∉i):abn l.aY (.m (o+i.z:u)) (aaw o i)=aaw o (Õ i):=by induction i generalizing o with|C=>rfl|s f i ih=>rw[sB r.gA aj4];have:¬f.aY=l.aY:=ol (b.1 (rz (tj Nh)));simp only[HY,HZ,FZ,F0,cH aa,r.aoe];rw[show o+(f::i).z=pY+i.z by simp only[r.kZ];exact BI (rV i.z) tS zr e,ih pY qK]
def Ok(o)(i):qp aaw o i=i.z:=by induction i generalizing o with|C=>rfl|s f i ih=>simp[HY,HZ,ih]
def E3(i)(l)(b:l∉i):aRc=i.z:=vv (by rw[r.gA,aj4]at b;have:¬f=l:=ol (b.1 d.cq);simp[Gg,Gh,aa,ih qK])
def HR(i)(l)(b:l∈i):n9 i aRc l:=qb i (by cases b) f i (by rw[nH d f l,mZ ih b,oT];simp[Gg,Gh];rw[m1 (¬l=f) (oE (d b.cq)),mY a5];simp only[r.gA,a5,ags]at b;simp[Gg,Gh,d,Ű])
set_option tactic.hygienic true in
def D'(i)(l):n9 (eL i l) aRc l:=by unfold eL;split;rename_i b;exact HR i l b;rename_i b;rw[E3 i l b];simp
def RA(h)(i):ar.abP h (cS i)=G:=vv (by dsimp only[cS,r.gI,Es,Et,Lz,LA,LB,LC,LD,LE,LF,LG,N.ace];exact ih)
def Rz(h)(i H):ar.abP h (i++H)=(ar.abP h i&&ar.abP h H):=vv (by simp[Es,Et,ih,N.axD])
def L4(h)(n):ar.abP 4 (e5 h n)=G:=by(rcases n with(_|⟨_,_|_⟩))<;>rfl
def F4(l:a9):l.aY.im jA=G:=by induction l using a9.ae with|un i=>rw[m6 ((G&&(ar.abP 4 _&&G))=G)];rw[RA]at⊢;rfl|D n t=>rw[m6 ((G&&(ar.abP 4 _&&G))=G)];simp only[Rz,L4,L4]at⊢;rfl|_=>rfl
def F6(l:a9):l4 l.aY=G:=zR
abbrev aH.aiU(a:aH):Prop:=a.afK=aaw 0 a.ak
abbrev aH.Ah(a:aH)(i:oB):aH:={a with ak:=i,afK:=aaw 0 i}
def Vl{a:aH}(b:a.aiU)(l):jT a.F l.aY (.D 3)=c (b1 (l∈a.ak)):=by rw[Å aH.aiU];simp only[jT,Cp,F6,F4,N.aen,fU,b,JB];by_cases bK:l∈a.ak<;>simp[bK]
def GG:∀(a:aH)(h)(l)(b:a.aiU)(aB:Š 1000000),ś 88 [oW,l.aY]=c (pe (t6 gG l),(a.Ah (eL a.ak l)).F):=by rw[vj h l,mY b aB];have il:=Vl b l;have h':a.afK=aaw 0 a.ak:=b;rw[aPd l a.ak];rw[hZ bK]at il;(have fo:eC a.F (.D 3) l.aY=c (pe (t6 gG l)):=by simp only[eC,Cp,F6,F4,N.aen,fU,h',JB,bK,u.aaa]);rw[show a.Ah _=a by delta aH.Ah eL;rw[c0 bK,←h'],mW (nd Jl [p (show sk f1 .gH=_ from pk (ap.au _) il),uo])];rw[jq bK]at il;rw[sr (gG _ l) a.ak.z (nv E3 bK),sr (eL _ l) (Õ a.ak) (cH bK)];have h2:=H6 (BR a);rw[r.hN]at h2;have a_:=LZ l.aY (BR a) (by rw[vO,xh];omega);rw[show a.ak.au a9.aY++[l.aY]=(Õ a.ak).au a9.aY by rw[r.ahL];rfl,BS]at a_;rw[m1 (nv abn a.afK=aaw 0 _) (by rw[m2 (M9 l _ 0 bK),m5,o6 u.aaa,h',aa]),mY d,m2 (KY _ (.m a.ak.z) (Cp (oP ak (Õ a.ak))) (F6 l) (F4 l) (by rw[m6 (a.afK.z<_),h',Ok,xh];omega)),mY hs];have hs:lm _ 3 l.aY (.m a.ak.z)=c (a.Ah (Õ a.ak)).F:=hs.ah (cr c ((pk (fun aj=>(aH.F (oP ak (Õ a.ak))).b6 3 (.bE aj)) d).ah (Cd (oP ak (Õ a.ak)) _)));exact nd Jl [p (show sk f1 .gH=_ from pk (ap.au _) il),p h2,aaF a_,aaF hs]
set_option backward.match.sparseCases true
abbrev fN(i:nq)(o:u):nq:=if o∈i then i else i++[o]
abbrev kl(ak:oB)(v:u):nq:=match ak[v]? with|c l=>l.e7 v|B=>qU
abbrev fj(ak:oB)(K:nq)(a':nq):nq:=a'.mI (fun K v=>(kl ak v).mI fN K) K
abbrev dq(K:nq):rC R ar:=K.au fun(o:u)=>(uQ,ar.m 1)
def Ki(K)(o:u):ab2 o nG (dq K)=aTk K o:=qb K (by rfl) f K (by simp only[dq,r.gI,Kg,Kh];rw[nH d f o,mZ ih,oT];simp[fN];rw[m1 (¬(vn=o)) n_,mY aV];have bj:¬(o=f):=oE (d b.cq);rw[cH aV,m1 (ab2 uQ (ar.m 1) (dq K)=aTk K o) ih,m5];unfold dq at aa;rw[tf];by_cases b:o∈K<;>simp[fN,b,bj])
def NU(K)(o):(lB o (dq K)).eF=b1 (o∈K.au R.gq):=qb K (by rfl) f K (by simp only[dq,r.gI,E4,E5];rw[nH d vn o,mZ ih,oT];simp;rw[cH d,m1 (¬(o=R.gq f)) (oE (d b.cq)),mY bj,m1 ((lB o (dq K)).eF=_) ih,mY aa];unfold dq at aa;rw[tf,m1 (¬(o=vn)) (oE (d b.cq)),mY cV];simp[r.gA,cV])
def Ka(K)(o:u):(lB uQ (dq K)).eF=b1 (o∈K):=by rw[NU]at⊢;rw[uh];simp only[r.fq,R.aiO,ac9];constructor;rw[mY J,sE,ng];rintro f a_ d;rw[m1 (f=o) n_,m5,mW (aa▸a_),nR,mW ⟨o,b,e⟩]
def HT(K)(o):qp fN K o≤K.z+1:=by unfold fN;split<;>simp
def J0(bN K:nq):qp bN.mI fN K≤K.z+bN.z:=by induction bN generalizing K with|C=>simp|s f bN ih=>rw[m2 (ih (fN K f)),m5,m2 (HT K f),m5];simp only[r.auk,r.kZ];exact XW aUh aa
def Acv:∀(a:aH)(aS:pN)(cf)(f g eN ajX ajY ajZ)(bN),∀K eQ,K.z+bN.z<1000→∃agY,fZ (f0 T cf (nA (.jl (.A 2) p6 nG))) 4 B (cS bN) [f,g,sS,eN,eQ,ajX,ajY,ajZ] (uI (sp K))=c (na,[f,g,sS,eN,agY,ajX,ajY,ajZ],uI (uG (dq (bN.mI fN K)))):=by rw[ug,mY aS,mY cf f g eN ajX ajY ajZ bN];induction bN with|C=>rw[mY K eQ _,mW ⟨eQ,by simp only[cS,r.ajT,BG];rfl⟩]|s n bN ih=>intro K eQ aB;simp only[r.kZ]at aB;rw[m2 (HT K n),mY aiq,n4 (ih (fN K n) Ġ (m4 (oa Am [K.z,bN.z,qp fN K n] (a8+ai) 1000 tS 1000 a8 nm e aB aiq))) agY b,m1 (rH dq K<1048576) (aSf dq r.hN (oa Ag [K.z,bN.z] S 1048576 tS 1000 e aB)),mY t1,vi agY ((zt ?_).ah b)];have hs:=Z8 n nG (Ð GE (sp K)) t1;rw[Ki,KX a _ _ aS]at hs;exact pK [aaF hs]
def HO(ak:oB)(a' K:nq)(H:u)(bK:aVq (qp kl ak v≤H)):(fj ak K a').z≤K.z+a'.z*H:=by induction a' generalizing K with|C=>simp[fj]|s v a' ih=>rw[m2 (ih ((kl ak v).mI fN K) (fun j J=>bK j (Č J))),mY Q,m2 (J0 (kl ak v) K),mY h2,m2 (bK v tG),mY h3];simp only[fj,r.auk,r.kZ]at*;simp only[u.succ_mul]at⊢;exact Bu [(r.mI (fun K v=>r.mI fN K (kl ak v)) (r.mI fN K (kl ak v)) a').z,(r.mI fN K (kl ak v)).z,a'.z*H,K.z,qp kl ak v,H] S (eK+(a8+amn)) S (ai+a8) ai (eK+ahk) ahk amn e Q h2 h3
def Acw:∀(a:aH)(aS:pN)(h:u)(g ajX ajY ajZ:pl)(a':nq),∀K eN eQ,K.z+a'.z*60<1000→(aVq (v≠2∧(a.ak[v]?).eF∧qp kl a.ak v≤60))→∃aE7 agY,fZ (aO6 n0 (nA (.jd 4 (s8 2 0 qx) (nA (.jl (.A 2) p6 nG))))) 3 B (cS a') [nZ,g,sS,eN,eQ,ajX,ajY,ajZ] (uI (sp K))=c (na,[nZ,g,sS,aE7,agY,ajX,ajY,ajZ],uI (uG (dq (fj a.ak K a')))):=by rw[ug,mY aS];injections h g ajX ajY ajZ a';induction a' with|C=>rw[mY K eN eQ _ _,mW ⟨eN,eQ,by simp only[cS,r.ajT,BG];rfl⟩]|s v a' ih=>rw[mY K eN eQ aB aJ,rf (aJ v tG) h2 br ba,n4 (ap.alr.1 br) l br];(have amY:t6 kl v=l.e7 v:=ĺ kl br);simp only[r.kZ,u.succ_mul]at aB;rw[m2 (J0 (t6 kl v) K),mY aiq,n4 (Acv a aS n0 nZ g pZ ajX ajY ajZ (t6 kl v) K eQ (m4 (Am [(kl _ v).z,K.z,a'.z] (ai+S+1) 1000 S 60 (ai+(a6.l a8 _+60)+1) 1000 e ba aB))) ahY eh,Ĩ (ih ((kl a.ak v).mI fN K) pZ ahY (m4 (Bu [(kl _ v).z,K.z,a'.z,(r.mI _ K _).z] (eK+(a6.l a8 _)+1) 1000 S 60 (ai+(a6.l a8 _+60)+1) 1000 eK (ai+S) e ba aB aiq)) (fun j J=>aJ j (Č J))) aE7 agY b];have agI:=GD (a.As (sp K)) h v l br h2;refine(pQ (m7 BN) (zt ?_).ah);rw[←amY]at agI;exact pK [aSh,os eh]
abbrev ahE(q:u):nq→nq|[]=>[q]|aSG=>if q≤aq then q::aSG else aq::ahE q l
def Gm(q):ahE q []=([q]):=e
def Gn(q):∀aq l,ahE q aSG=(if q≤aq then q::aSG else aq::ahE q l):=pS
abbrev acV:nq→nq|[]=>[]|q::l=>ahE q (acV l)
def P3:acV []=([]):=e
def Lb:∀q l,acV (q::l)=(ahE q (acV l)):=pS
def Vr(q:u)(i):aiE (nc q) (i.au R.gq)=(ahE q i).au R.gq:=vv (by simp only[r.gI,Kb,Kc,Gm,Gn];by_cases d:q≤f;rw[m1 (nc q≤R.gq f) (yg R.aiO (A4 [↑q,↑f] b5 d5 b5 d5 e (Bb d))),m5,c0 d,c0 aa];rfl;rw[m1 (¬nc q≤R.gq f) (yg R.aiO (rb (d (R.ads.1 a)))),m5,cH d,cH aa,ih];rfl)
def AbH(i):aeY (i.au R.gq)=(acV i).au R.gq:=vv (by simp only[r.gI,AbI,ih,Lb];exact Vr f (acV i))
def N2(q j)(i):j∈ahE q i↔j=q∨j∈i:=qb i (by simp[Gm,Gn]) f i (by simp only[Gm,Gn];split;simp;simp only[r.gA,ih];constructor;rintro(b|b|b);rw[mW (aSB aQ.bT),mW Î,mW (aSB aQ.bF)];rintro(b|b|b);rw[mW (aSB aQ.bT),mW Î,mW (aSB aQ.bF)])
def Fo(j)(i):j∈acV i↔j∈i:=vv (by simp[P3,Lb,N2,ih])
def Vt(q)(i):qp ahE q i=i.z+1:=vv (by simp only[Gm,Gn];split<;>(first|rw[ũ]|rw[qz]|simp[ih]))
def Lc(i:nq):rH acV i=i.z:=vv (by simp[P3,Lb,Vt,ih])
set_option backward.match.sparseCases false
def U6{cg}{w:ch}{q:u}{i}(b:ã)(o:Ü _):ajv w q o=o i:=by delta ajv;rw[b]
def Adv(O)(cf)(d)(l)(w a4)(q)(i)(b:uw n3)(Q:pO a4 uH)(h2:i.z<64):o5 (oC (.alS d)) (u' (aeY (i.au (·.1))).au .m):=by rw[rc (pk ta b),mW cr (ap.au fun y=>(y,a4)) ((U6 Q (te (nK (i.z<64) (c (ar.bm ((aeY (i.au (·.1))).au .m)))))).ah (c0 h2))]
def Qz(O)(cf)(d)(l)(w):oC (.af3 d)=rr ((z4 j7).bP fun i=>nK (wr 16384) (c (o9,nh))):=by rw[m6 (î (aU O _ d l w)=_),uh];funext n;unfold awN;induction z4 j7 using ap.ae with|B=>rfl|c i=>simp only[ap.eO];split<;>rfl
def KQ(h)(w O):adt h w (w++O)=G:=qb w (by rfl) f w (by simp[Gz,GA,GB,ih])
def Pg(h)(w a4)(b:adt h w a4=G)(q)(p)(ho:p.eJ h=G):adt h w (a4.b6 q p)=G:=by induction w generalizing a4 q with|C=>rfl|s f w ih=>rw[oS a4 (by rw[sT]) g a4 (by simp only[Gz,GA,GB,N.c3,N.acR]at b;rw[uL q (by simp only[r.aEz,Gz,GA,GB,ho,qK,N.ahR,N.aen]) q (by simp only[r.aEy,Gz,GA,GB,ih a4 qK q,N.aib,N.acR];exact od)])]
def AcD(h)(i)(b:oG i (j.eJ h=G)):ar.abd h i=G:=vv (by simp[Eu,Ev,b f tG,ih (fun j J=>b j (Č J))])
def AcB(h)(i H):ar.abd h (i++H)=(ar.abd h i&&ar.abd h H):=vv (by simp[Eu,Ev,ih,N.axD])
def AcC(h)(i):ar.abd h (cS i)=G:=vv (by dsimp only[cS,r.gI,Eu,Ev,Fx,Fy,Fz,FA,FB,FC,FD,N.ace];exact ih)
def Ni(h)(l:a9):l.aY.eJ h=G:=by(have ba:∀cE n,ar.abd h (e5 cE n)=G:=by intro cE n;induction n using ap.ae with|B=>rfl|c f=>rw[aPJ];rfl);induction l using a9.ae<;>(first|rw[ũ]|rw[qz]|simp[a9.aY,Fx,Fy,Fz,FA,FB,FC,FD,Eu,Ev,AcB,ba,AcC])
def Aau(h)(i:oB):(c_.aw (i.au a9.aY)).eJ h=G:=by simp only[c_.eJ];apply AcD;rw[tr,uv J,ng];rintro l _ e;exact Ni h l
def Wu(h o)(i):(c_.bE (aaw o i)).eJ h=G:=by simp only[c_.eJ];induction i generalizing o with|C=>rfl|s f i ih=>simp[HY,HZ,Ni,Fx,Fy,Fz,FA,FB,FC,FD];simpa using ih pY
def Aat(a:aH)(i):ċ i=(tI 2 (aSw i.au)).b6 3 (.bE (aaw 0 i)):=by rw[BS,Cd]at⊢;rfl
def Ny(a:aH)(aS:pN)(i)(p)(y)(aJ:y.eJ a.ad=G)(l):afv a.F.z a.F (ua rO (tA i As p).F)=c (y,ċ i):=by have d:(tA i As p).F=ċ i++[p]:=rz (Cc (a.Ah i) p aS);rw[m1 ((a.F.b6 2 _).b6 3 _++[p]=((tD p).b6 2 (aSw i.au)).b6 3 (.bE (aaw 0 i))) (tg (m7 (r.abC (k:=a.F)) (yg CI (AJ [a.ca.z,a.ds.z] (2+1) (26+ai+S) e))) (aNG (tL r.apv CI (AJ [a.ca.z,a.ds.z] (3+1) (26+ai+S) e)))),mY gp,m1 (adt a.F.z _ (tA i As p).F=G) (by rw[d,Aat,gp,mW (m7 (n7 Pg (m7 (n7 Pg (sF KQ)) (m7 Aau))) (sF Wu))]),mY bj,m1 ((tA i As p).F.gu a.F.z=ċ i) (nb d (r.aET (sg Bj Bj))),mY cV,m1 (y.eJ a.F.z=G) (nb Bj aJ),mY ab0,mW (c0 (N.fY.2 ⟨bj,ab0⟩)).ah (pk (fun v=>c (y,v)) cV)]
def Ea(a:aH)(b:a.aiU):a.Ah a.ak=a:=by unfold aH.Ah;rw[←b]
abbrev mS(ak:oB)(K:nq)(v:u):N:=match ak[v]? with|c l=>!(b1 (l.jE∈K.au R.gq))|B=>Y
abbrev io(ak:oB)(a':nq):nq:=(acV (fj ak [] a')).afu (mS ak (fj ak [] a'))
abbrev abe(ak:oB)(a':nq):u×oB:=if 1∈fj ak [] a' then(1,ak)else match io ak a' with|ub=>(o,ak)|ks=>(gG ak aSr,sy ak aSr)
def Gj(w)(f)(K)(b:aPf (sp K))(o:u):jT w qw rY=c (b1 (o∈K)):=by simp only[jT,b,Ka]
def NV(w)(f)(K)(b:aPf (sp K))(o):jT w qw rY=c (b1 (o∈K.au R.gq)):=by simp only[jT,b,NU]
def Ack(a:aH)(f h)(K)(b:qh f (sp K))(bf:0∉K)(amL:13∉K):qM 7 [rY] (pe (if 1∈K then 1 else-1)):=by have am1:=CT (Gj a.F f K b 0);rw[jq bf]at am1;have avq:=CT (Gj a.F f K b 13);rw[jq amL]at avq;have aav:=CT (Gj a.F f K b 1);rw[aPd 1 K];rw[hZ bK]at aav;rw[c0 bK,mW (nd MC [vh,p am1,p avq,Ů])];rw[jq bK]at aav;rw[cH bK,mW (nd MC [vh,p am1,p avq,Ů])]
def Wv(a:aH)(f h)(K)(b:qh f (sp K))(h8:8∉K)(aoN:14∉K):qM 5 [rY] .B:=by have aDe:=CT (Gj a.F f K b 8);rw[jq h8]at aDe;have aDd:=CT (Gj a.F f K b 14);rw[jq aoN]at aDd;exact nd Sj [p aDe,p aDd]
def AbU(a:aH)(h f v:u)(K)(l)(a_:qh f (sp K))(b:aOO)(b2:aOx):pG 2 6 [oW,rY,oF] (n5 (mS a.ak K v)):=by have aav:=CT (NV a.F f K a_ (-1));(have d:b1 (aP9∈K.au R.gq)=Y:=by simp only[aoo,r.fq,R.aiO,apH,apG];rw[mY j _,mW fun dO=>B4 (A5 [↑j] 1 0 b5 (-1) 0 b5 e (R.fp dO) vV)]);rw[d]at aav;have avr:=S5 a_ (NV a.F f K a_ l.jE);rw[show mS _ K v=!(b1 _)by unfold mS;rw[b],mW (nd So [aZ (Aam a h v l b b2),Ů,ą v l b,aZ (Em a h l),p avr])]
def Kn(ak:oB)(a':nq)(j:u)(b:j∈io ak a'):j∈fj ak [] a':=by rw[Å io,mW (m7 Fo).1 (r.ane.1 b).1]
def Acy{ak:oB}{a' k9:nq}(bK:1∉fj ak [] a')(aG:io ak a'=k9)(b:¬k9.z=1):abe ak a'=(gG ak (qs k9),sy ak (qs k9)):=by unfold abe;rw[cH bK,aG];match k9,b with|[],_=>rfl|[_],b=>exact t' b e|_::tq,_=>rfl
def Qm:∀(a:aH)(h)(J:a.aiU)(aB:Š 1000000)(aS:pN)(y)(a')(aJ:y=zz a'∨y=v2 a')(Q:a'.z≤16)(ajH:aVq (v≠2∧(a.ak[v]?).eF∧qp kl a.ak v≤60))(hg:(sm).z<64)(br:∀v∈sm,∃l,aOO∧aOx)(bf:0∉sm)(amL:13∉sm)(h8:8∉sm)(aoN:14∉sm)(aG:1∉sm→qe xJ),rE 3 8 [oW,y]=c (.m (aU1).1,ċ (aU1).2):=by rw[ē a,mY J aB aS];injections y a';rw[mY aJ Q ajH hg br bf amL h8 aoN aG,m3 BF (Acw a aS nB qv B B B _ [] B B (yg r.am9 (Ag [a'.z] (0+(a6.l S _)+1) 1000 (tB S) (tB 16) e (AM 60 Q))) ajH)];rintro eN eQ cK;generalize arn:sm=E at*;have acG:nX aOS a.ad (sp E):=Ð GE _;have jQ:=nI XD cf vY l [nZ,qv,B,B,B,B,B,B] a aS G;(have am0:((kn (uI sj) y).bP fun t=>fZ (aO6 vY (nA (.jd 4 (s8 2 0 qx) (nA (.jl (.A 2) p6 nG))))) 3 oI ox [nZ,qv,sS,B,B,B,B,B] (uI sj))=c (na,[nZ,qv,sS,eN,eQ,B,B,B],aOS):=nb (show kn _ y=c (cS a',B)by clear cK jQ;(rw[aRF aJ aJ])<;>rfl) cK);(have adX:xJ=(acV E).afu (mS a.ak E):=ĺ io arn);generalize D0:xJ=k9 at*;have eb:rH cS k9=k9.z:=r.hN ..;have aa2:=Ack (a.As (sp E)) a.ad nB _ acG bf amL;have aCE:=Wv (a.As (sp E)) a.ad nB _ acG h8 aoN;have aeD:∀(i:oB)(V:ar)(l:dv),V.eJ a.ad=G→afv a.F.z a.F (ua (s6 V) (s9 i As (sp E)).F)=c (V,ċ i):=fun i V l eh=>Ny a aS i (sp E) V eh l;rw[aPd 1 E];rw[c0 bK]at aa2;rw[m2 (aeD a.ak nG [nZ,qv,sS,eN,eQ,nn 1,B,B] e),mY hz];rw[Ea a J]at hz;rw[show m7 abe=(1,a.ak)by unfold abe;rw[arn,c0 bK],Ea a J,mW (Jj ..).ah ((uU (pK [aZ jQ,os am0,aZ aa2,.K])).ah hz)];rw[cH bK]at aa2;rw[m2 (aG bK),mY ad2,mZ aG];(have aeC:abk (ago T vY uj) (ahC T vY (nA (.bp 6 (pH pn ph uj)))) 7 B (cS (acV E)) [nZ,qv,sS,eN,eQ,ß,B,B] aOS=c (cS k9,aOS):=by rw[adX,mX (ni (nI (nI Jp d (fun(q:u)=>ar.m q) ac (fun(q:u)=>ar.m q)) n (mS _ E) hc e) _ _ _ ?_ ?_),tr,m3 Ac (br j ((m7 Fo).1 J))];rintro l aiw afG;rw[mW Vg (qW [aZ (AbU _ h _ j E l acG aiw afG)]),mY j _ _,Uc,mW CK e]);(have jr:ny vY (.go uj 7 (.alS ph) (nA (.bp 6 (pH pn ph uj)))) [nZ,qv,sS,eN,eQ,ß,B,B] aOS=c (v2 k9,aOS):=by rw[m1 (aeY ((dq E).au (·.1))=(acV E).au _) (by rw[←AbH,uh];unfold dq;rw[r.aeN];rfl),mY aI9,m2 (ni (Adv T vY ph [nZ,qv,nJ,eN,eQ,ß,B,B]) (CK e) acG (nb (sr (rH dq E) E.z (r.hN _)) hg)),mY hs];rw[aI9,r.aeN]at hs;rw[Iy,hs,ap.eO,m6 ((nM abk 7 B (cS _) _ _).au _=_),aeC];rfl);clear aeC;(have i4:iH aOS (v2 k9)=c G:=by clear D0 adX eb jr;induction k9 using r.ae with|C=>exact t' ad2 e|s=>rfl);(have b7:k9.z<64:=by rw[m2 (r.ar2 (t6 mS E) (acV E)),m5];simp only[Lc]at aa;rw[adX];omega);have jt:=Kw aOS (cS k9);rw[eb]at jt;rw[nH Q k9.z 1,mZ adX eb ad2 b7,m3 Al (r.length_eq_one_iff.1 Q),oc o,m2 (aeD a.ak qw [nZ,qv,sS,eN,eQ,ß,c (oh [qw]),B] e),mY hz];rw[Ea a J]at hz;rw[show m7 abe=(o,a.ak)by unfold abe;rw[arn,cH bK,D0],Ea a J,mW (Jj ..).ah ((uU (pK [aZ jQ,os am0,aZ aa2,.K,aZ aCE,aOs,acS i4,p jt,.K,.K])).ah hz)];have ba:=GG (a.As (sp E)) nB (qs k9) J aB;have aV:(nc k9.z==1)=Y:=acw fun d=>Q (R.gq.dB d);have bj:b1 (nc 400<nc k9.z)=Y:=jq (m4 (fun dO=>B4 (A5 [↑k9.z] 1 0 vk 64 (400+1) b5 e (Bb b7) dO)));(have aJh:ny vY (.af3 sw) [nZ,qv,sS,eN,eQ,ß,c (v2 k9),B] aOS=c (zz k9,aOS):=by rw[Qz,CK e,m6 ((if rH cS _≤16384 then _ else _)=_),c0 (m4 (Am [rH cS _,k9.z] S 16384 S ai (ai+1) 64 e (Az eb) b7))]);rw[m2 (aeD (sy a.ak (qs k9)) (pe (aUY (qs k9))) [nZ,qv,sS,eN,eQ,ß,c (v2 k9),B] e),mY hz,Acy (arn▸bK) D0 Q,mW (Jj ..).ah ((uU (pK [aZ jQ,os am0,aZ aa2,.K,aZ aCE,aOs,acS i4,p jt,rN aV,p jt,qa B' bj,aZ aJh,aZ ba])).ah hz)]
set_option genInjectivity true in
inductive bv where|cl(q f g x:u)|bY(q:u)(k:bv)|un(i:tK)deriving gN
abbrev gX(f g x dE bZ c':u):N:=(f|||dE==dE)&&(g==0||(Ā&&x|||c'==c'))
mutual
abbrev hb:wG bv bv|.cl _ f g x,v=>(oo v (.cl _ dE bZ c') (gX f g x dE bZ c') Y)|.bY q k,v=>(oo v (.bY aq _) (q==aq) Y)||aVs|r2,v=>agX i v
abbrev agX:wG tK bv|[],_=>G|k::i,v=>aVs&&agX i v
end
def BA:∀q f g x v,hb (pf q f g x) v=(oo v (.cl _ dE bZ c') (gX f g x dE bZ c') Y):=fun ψ ψ ψ ψ ψ=>e
def BB:∀q k v,hb (.bY q k) v=((oo v (.bY aq _) (q==aq) Y)||aVs):=uD
def BC:∀i v,hb r2 v=agX i v:=pS
def It:∀gv,agX [] gv=G:=rp
def Iu:∀k i v,agX (k::i) v=(aVs&&agX i v):=uD
mutual
abbrev lO:wG bv tK|pf q f g x,H=>H.dS (hb (pf q f g x))|.bY q k,H=>H.dS (hb (.bY q k))||ĸ H|r2,H=>ae0 i H
abbrev ae0:wG tK tK|[],_=>G|k::i,H=>ĸ H&&ae0 i H
end
def A6:∀q f g x H,lO (pf q f g x) H=(H.dS (hb (pf q f g x))):=fun ψ ψ ψ ψ ψ=>e
def A7:∀q k H,lO (.bY q k) H=(H.dS (hb (.bY q k))||ĸ H):=uD
def A8:∀i H,lO r2 H=(ae0 i H):=pS
def GV:∀gv,ae0 [] gv=G:=rp
def GW:∀k i H,ae0 (k::i) H=(ĸ H&&ae0 i H):=uD
abbrev el(k v:bv):N:=match v with|qs H=>ĸ H|v=>aVs
def Is(i)(v):agX i v=i.de fun k=>aVs:=vv (by simp[It,Iu,ih])
def GU(i H):ae0 i H=i.de fun k=>ĸ H:=vv (by simp[GV,GW,ih])
mutual
abbrev bv.An:sf bv|p5 .cl g=>ov g 0 0 3|.bY _ k=>k.An+1|r2=>bv.fz i+1
abbrev bv.fz:sf tK|[]=>0|k::i=>max k.An (bv.fz i)
end
def G4:bv.fz []=(0):=e
def G5:∀k i,bv.fz (k::i)=(max k.An (bv.fz i)):=pS
def Ci:∀gv ach g ai2,bv.An (pf gv ach g ai2)=(ov g 0 0 3):=fun ψ ψ ψ ψ=>e
def Cj:∀gv k,bv.An (.bY gv k)=(k.An+1):=pS
def Ck:∀i,bv.An r2=(bv.fz i+1):=rp
mutual
abbrev bv.dh:sf bv|ni .cl=>16|.bY _ k=>k.dh+1|r2=>bv.ag3 i+1
abbrev bv.ag3:sf tK|[]=>0|k::i=>k.dh+bv.ag3 i
end
def QZ:bv.ag3 []=(0):=e
def Q0:∀k i,bv.ag3 (k::i)=(k.dh+bv.ag3 i):=pS
def EA:∀gv ach ai2 awZ,bv.dh (pf gv ach ai2 awZ)=(16):=fun ψ ψ ψ ψ=>e
def EB:∀gv k,bv.dh (.bY gv k)=(k.dh+1):=pS
def EC:∀i,bv.dh r2=(bv.ag3 i+1):=rp
abbrev bv.jg:bv→N|qs _=>G|_=>Y
abbrev bv.Bf:sf bv|p5 .cl g=>ov g 0 0 4|m7 .bY=>2|qs _=>1
def Ex:∀gv ach g ai2,bv.Bf (pf gv ach g ai2)=(ov g 0 0 4):=fun ψ ψ ψ ψ=>e
def Ey:∀gv ach,bv.Bf (.bY gv ach)=(2):=pS
def Ez:∀gv,bv.Bf (qs gv)=(1):=rp
abbrev bv.ha(k v:bv):u:=2*k.An+v.Bf
inductive hm:u→a9→aR4|un:hm 4 aUG 1|nl:hm 5 (q8 "null") 2|st:hm 6 aSt 120|avV:hm 7 aSu 384|Ap:hm 9 (.aO 1 0) 4|f(q:u)(b:è):hm q aUz 24|g(q:u)(b:è):hm q (og "b") 32|a(q:u)(b:è):hm q .mN 128|d(q:u)(b:è):hm q rx 16
abbrev ie(ak:oB)(q g:u):Prop:=∃l,op ak l∧zT
abbrev iT(i:nq):u:=i.foldr (fun f g=>f|||g) 0
inductive kb(ak:oB):t4 nq nq|C:kb ak [] []|s(q g:u)(i bq:nq):ie ak q g→kb ak i bq→kb ak (q::i) (g::bq)
inductive hH(ak:oB):u→nq→nq→Prop|gB(q g:u):ie ak q g→hH ak q [q] [g]|jh(q:u)(i bq:nq):pO ak r2→è→qe i→wr 3→kb ak i bq→À ak q
abbrev adq(p:N)(bq:nq):u:=(t_ p 513)|||aSS
inductive eH(ak:oB):t4 o4 u|no:eH ak B 2047|abF(o:u)(p:N)(i bq:nq):À ak o→wr 2→eH ak (zl o) (adq p bq)
abbrev gC(n t:o4):u:=t_ (n.mL&&t.mL) 508
abbrev abQ(a:aH)(n:u):ap u:=ow a.dK[n]? g (if g≤0 then 1 else g.es)
inductive c1(a:aH):t4 u bv|i9(q g:u):zi q g→sl q (pf q g 0 0)|iv:å 1 "unknown"→sl 1 (zB 1)|lk:å 10 "object"→sl 10 (zA 10)|D(q:u)(n t:o4)(mp cY:u):pO a.ak vE→(q=11∨è)→wi→xR→sl q (vF q)|bI(q aj:u)(a0:lr)(n t:o4)(mp cY:u):pO a.ak (z5 ģ)→è→ŀ→q_ a0.bD vE→(a0.bD=11∨xe a0.bD)→wi→xR→sl q (vF q)|bY(q n g:u)(k:bv):pO a.ak v4→è→abQ a n=c g→vd q→uu g→sl q (.bY q k)|un(q:u)(i:nq)(dr:tK):pO a.ak r2→è→qe i→wr 8→i.z=dr.z→(∀(aq f:u)(k:bv),p7 i f→p7 dr k→uu f)→(∀k∈dr,aUv)→sl q (qs dr)
structure fR(a z':aH):Prop where
 ak:aRM a.ak z'.ak
 ds:∀(aj:u)(a0:lr),ŀ→∃jx,n9 z'.ds aj jx∧jx.bD=a0.bD
 Cm:∀(n g:u),abQ a n=c g→abQ z' n=c g
def fR.ah{f g x}(b:sH fR)(o:fR g x):fR f x:=⟨fun q l d=>o.ak q l (b.ak q l d),fun aj a0 d=>by rw[nD (b.ds aj a0 d) jx aV bj,nD (o.ds aj jx aV) aMg cV gp,mW (vU cV (gp.ah bj))],fun n g d=>o.Cm n g (b.Cm n g d)⟩
def ie.bx{ao iA}(b:yV q l (op ao l→op iA l)){q g}(n:aNY q):ie iA q g:=by rw[oz n l d n,mW Ad l (tj b) n]
def kb.bx{ao iA}(b:yV q l (op ao l→op iA l)){i bq}(n:zK):kb iA i bq:=by induction n with|C=>exact .C|s q g i bq n _ ih=>exact .s q g i _ (n.bx b) ih
def hH.bx{ao iA}(b:yV q l (op ao l→op iA l)){o}{i bq}(n:aVo):À iA o:=by cases n with|gB g n=>exact pQ (.gB o g) n.bx|jh _ _ d iy Q h2 n=>exact .jh o i _ (tj b) iy Q h2 (n.bx b)
def eH.bx{ao iA}(b:yV q l (op ao l→op iA l)){n}{H}(y:wS n H):eH iA n H:=by cases y with|no=>exact .no|abF o p i bq y aB=>exact .abF o p i _ (y.bx b) aB
def c1.bx{a z'}(b:yy){q}{k}(y:uu q):c1 z' q k:=by induction y with|i9 q g n=>exact .i9 q g (n.bx b.ak)|iv d=>exact .iv (tj b.ak)|lk d=>exact .lk (tj b.ak)|D q n t mp cY d Ab cC c4=>exact .D q n t _ _ (tj b.ak) Ab (cC.bx b.ak) (c4.bx b.ak)|bI q aj a0 n t mp cY d Ab hd dt U cC c4=>rw[nD (b.ds aj a0 hd) jx aV bj,mW .bI q aj _ n t _ _ (tj b.ak) Ab aV (nb bj (nv b.ak dt)) (nb bj U) (cC.bx b.ak) (c4.bx b.ak)]|bY q n g k d Ab U cu _ ih=>exact .bY q n g k (tj b.ak) Ab (nv b.Cm U) cu ih|un q i dr d Ab Q h2 h3 _ h5 ih=>exact .un q i _ (tj b.ak) Ab Q h2 h3 ih h5
abbrev an7:sf a9|q8 k=>ov k "undefined" 1 (ov k "null" 2 (ov k "string" 120 384))|m7 .aO=>4|ur=>ov k "a" 24 32|.mN=>128|rx=>16|_=>0
def hm.agk{q}{l}{g}(n:zT):g=an7 l:=aT4 n
def hm.fn{q}{l}{g bZ}(n:zT)(t:hm q l bZ):g=bZ:=tg n.agk t.agk
def ie.fn{ao}{q g bZ}(n:aNY q)(t:ie ao q bZ):g=bZ:=by rw[oz n l d n,oz t r' a5 t,rl d,yW,zS (n.fn t)]
def kb.fn{ao}{i bq g7}(n:zK)(t:kb ao i g7):bq=g7:=by induction n generalizing g7 with|C=>cases t;rfl|s q g i bq n _ ih=>cases t with|s _ bZ _ aMJ cw t=>rw[n.fn cw,ih t]
def hm.Gv{q}{i}{g}(n:hm q r2 g):aks:=by cases n
def hH.fn:∀{ao}{o}{i bq l' g7}(n:aVo)(t:hH ao o l' g7),i=l'∧bq=g7:=by injections ao o i bq l' g7;intro n t;cases n with|gB g n=>(cases t with|gB bZ t=>exact wz (by rw[n.fn t])|jh _ _ d=>rw[oz n l aV n,y4 d,nf aV,aVD aV aV aV n.Gv.az])|jh _ _ d iy Q h2 n=>cases t with|gB g t=>rw[oz t l aV t,y4 d,nf aV,aVD aV aV aV t.Gv.az]|jh _ _ a5 _ _ _ t=>rw[rl d,mZ akz a_2,nf a5,mZ a5,mY a5,p2 a5,pi,mW (wz (n.fn t))]
def eH.fn{ao:oB}{n:o4}{H m':u}(y:wS n H)(V:wS n m'):H=m':=by cases y with|no=>cases V;rfl|abF o p i bq y=>cases V with|abF _ _ l' g7 V=>rw[(y.fn V).2]
abbrev axu(a:aH)(q:u)(k:bv):a9→Prop|r2=>∃dr,k=qs dr∧i.z=dr.z∧∀(aq f:u)(k:bv),p7 i f→p7 dr k→uu f|v4=>∃g bh,k=.bY q bh∧abQ a n=c g∧ty g bh|nP aj=>∃a0 n t mp cY,yU (aj-2)∧q_ a0.bD vE∧wi∧xR∧k=vF q|vE=>∃mp cY,wi∧xR∧k=vF q|q8 "unknown"=>k=zB 1|q8 "object"=>k=zA 10|l=>∃g,zT∧k=pf q g 0 0
def hm.Iw{a}{q g}{l}(n:zT){k}:axu a q k l=∃g,zT∧k=pf q g 0 0:=aT4 n
def c1.f3:∀{a}{q}{k}(y:uu q){l}(d:op a.ak l),axu a q k l:=by rw[vj q k,mY y];injections l;rw[p0];cases y with|i9 _ g n=>rw[oz n r' a5 n,rl d,nf a5,mZ a5,mY a5,vL,n.Iw,mW Ad g n e]|iv a5=>rw[aWi,zS e]|lk a5=>rw[aWi,zS e]|D _ n t mp cY a5 Ab cC c4=>rw[aWi,yR,mY a5,vL,mW Au _ _ cC c4 e]|bI _ aj a0 n t mp cY a5 Ab hd dt U cC c4=>rw[aWi,yR,mY a5,vL,mW Uj a0 n t _ _ hd dt cC c4 e]|bY _ n g k a5 Ab U cu y=>rw[aWi,yR,mY a5,vL,mW Au g k e U y]|un _ i dr a5 Ab Q h2 h3 V h5=>rw[aWi,yR,mY a5,vL,mW AP _ e h3 V]
def UH{i:nq}{dr anb:tK}(b:i.z=dr.z)(h':i.z=anb.z)(ih:∀(aq f:u)(k s'),p7 i f→p7 dr k→p7 anb s'→k=s'):dr=anb:=by rw[aP0,mY aq];by_cases cQ:aq<i.z;rw[m2 (r.hV cQ),mY a1];have a2:nX dr aq (dr[aq]'(b▸cQ)):=ų;have a3:nX anb aq (anb[aq]'(h'▸cQ)):=ų;simp only[a2,a3,oM ih aq a1 a2 a3];have cQ:=u.acL cQ;rw[r.aii (b▸cQ),r.aii (h'▸cQ)]
def c1.fn{a:aH}{q:u}{k s':bv}(y:uu q)(V:ty q s'):k=s':=by induction y generalizing s' with|i9 q g n=>rw[p4 n,mZ n,mY l d n,m2 (V.f3 d),mY V];rw[n.Iw]at V;rw[p4 V,mZ V,mZ V];(rintro bZ cw e);rw[n.fn cw]|iv d=>exact ww V.f3 d|lk d=>exact ww V.f3 d|D q n t mp cY d Ab cC c4=>rw[ze V.f3 d,mZ V];(rintro f4 f5 g1 gW e);rw[cC.fn g1,c4.fn gW]|bI q aj a0 n t mp cY d Ab hd dt U cC c4=>rw[m3 UA (V.f3 d),mZ V];(rintro jx cw er f4 f5 ad1 aG5 g1 gW e);cases ap.c.dB (hd.cq.ah ad1);cases ap.c.dB (dt.cq.ah aG5);rw[cC.fn g1,c4.fn gW]|bY q n g k d Ab U cu _ ih=>rw[ze V.f3 d,mZ V];(rintro bZ bh e dL V);cases ap.c.dB (U.cq.ah dL);rw[ih V]|un q i dr d Ab Q h2 h3 _ h5 ih=>rw[m3 AF (V.f3 d),mZ V];rintro anb e amM V;rw[UH h3 amM fun aq f k s' a1 a2 a3=>ih aq f k a1 a2 (V aq f _ a1 a3)]
abbrev mP(q:u):Prop:=sU 0∧sU 2∧sU 3∧sU 8∧sU 12∧sU 13∧sU 14∧sU 15
def Gy{q}(b:è):mP q:=have ac(o:u)(aG:u.akF o 16=G):sU o:=u.alE (u.k0 (u.afQ aG) b);(JE (ac 0 e) (ac 2 e) (ac 3 e) (ac 8 e) (ac 12 e) (ac 13 e) (ac 14 e) (ac 15 e))
abbrev aD7(q:u):N:=aQu 0&&(aQu 2&&(aQu 3&&(aQu 8&&(aQu 12&&(aQu 13&&(aQu 14&&aQu 15))))))
def Ic{q}(b:aD7 q=G):mP q:=by(have ac(o:u)(aG:(aQu o)=G):sU o:=ol (by rw[oT];rw[u.beq_refl]at aG;injection aG));rw[sB aD7 N.c3,mW JE (ac 0 od) (ac 2 rB) (ac 3 tO) (ac 8 vr) (ac 12 x_) (ac 13 (nj oH)) (ac 14 (oj oH)) (ac 15 (Ċ oH))]
def hm.ok{q}{l}{g}(n:zT):mP q∧aOx:=by cases n with|f _ b|g _ b|a _ b|d _ b=>exact qS (Gy b)|_=>exact qS (Ic e)
def Y9{q}(b:q=11∨è):mP q:=b.az (ol (d▸Ic e)) Gy
def c1.gs:∀{a}{q}{k}(y:uu q),∃l,op a.ak l∧aOx∧mP q:=by rw[vj q k,mY y];cases y with|i9 _ g n=>rw[oz n l d n,mW AP l d n.ok.2 n.ok.1]|iv d=>exact(AP _ d e (Ic e))|lk d=>exact(AP _ d e (Ic e))|D _ n t mp cY d Ab=>exact(AP _ d e (Y9 Ab))|bI _ aj a0 n t mp cY d Ab=>exact(AP _ d e (Gy Ab))|bY _ n g k d Ab=>exact(AP _ d e (Gy Ab))|un _ i dr d Ab=>exact(AP _ d e (Gy Ab))
abbrev a9.AG:aQH|.bY _=>G|_=>Y
abbrev a9.ado:aQH|qs _=>G|_=>Y
abbrev a9.acI:aQH|q8 _|m7 .aO|uW|.mN|rx=>G|_=>Y
abbrev a9.abA:aQH|qs _|.bY _=>G|_=>Y
abbrev a9.iF:aQH|m7 .D|nP _=>G|_=>Y
abbrev acW(k v:u)(g:a9):R:=ov v 1 1 (ov k 1 (t_ g.AG (-1)) (-1))
abbrev ae4(k v:u)(f g:a9):R:=ov k 4 0 (ov f.jE v 1 (ov f rx (ov g aUz 1 0) 0))
abbrev kJ(k v:u)(f g:a9):R:=if acW k v g≥0 then acW k v g else if f.abA||g.abA then-1 else ov v 10 (if f.acI then 0 else-1) (if g.acI then(t_ f.acI (ae4 k v f g))else if k=4∨k=5 then 0 else-1)
def C_(f g:u)(b:f≠g):(vn==nc g)=Y:=yo ajj
def DN(f g:u):(vn==nc g)=(f==g):=by rw[nH b f g,pq];simp;rw[C_ f g b];simp[b]
def Gr(v o:u)(b:v=o):(nc v==uQ)=G:=by rw[pq];simp
def Bn{f}(o:u)(b:f≠o):f1 [] .eq th qw=c oX:=AH (Ke o b)
def E_(l:a9)(i:n1){x}(b:i.afo l.o=x)(aB:u.aam i.z 1000=G:=by rfl):aQP gH (wt i.au .m) (qP x):=Jn l.o i b aB
def NP(l:a9):[6,7,10,14,15,16,17,18,19].afo l.o=l.abA:=zR
def Vb(l:a9):[10,14,15,16,17,18,19].afo l.o=l.AG:=zR
def J9(l:a9):[1,2,3,4,5].afo l.o=l.acI:=zR
def AcG(a:aH)(h v)(g:a9)(U:r6)(aS:mP v):pG 2 34 [nQ,oF] (pe (t_ g.AG (-1))):=by have b:=E_ g [10,14,15,16,17,18,19] (Vb g);rw[pI ba g.AG (by rw[oq Ms [ą v g U,p (Bo a.F g),Ø ba b]]) (by rw[oq Ms [ą v g U,p (Bo a.F g),Ø ba b,aZ (GD a h v g U (nj aS)),.K]])]
def Acl:∀(a:aH)(h k v)(g)(U:r6)(hs:mP k)(aS:mP v),pG 3 33 pM (pe (acW k v g)):=by injections a h k v g;intro U hs aS;have cK:=AcG a h v g U aS;rw[mX HB hs fun s0 BS P P P ap1 P P=>?_,mX HB aS fun t0 d2 P P P awD P P=>?_,mZ P,nH a1 v 1,mZ U aS cK t0 d2 awD];subst a1;rw[mW (nd I' [.K,.K,sJ 2 BS,sJ 13 ap1,sJ 0 s0,.K]),nH a2 k 1,mZ hs s0 BS ap1];subst a2;rw[show acW 1 v g=t_ g.AG (-1)by unfold acW;rw[cH a1,vp],mW (nd I' [sJ 0 t0,sJ 13 awD,.K,.K,.K,sJ 1 a1,.K,.K,aZ cK]),show acW k v g=-1 by unfold acW;rw[cH a1,cH a2],mW (nd I' [sJ 0 t0,sJ 13 awD,sJ 2 BS,sJ 13 ap1,sJ 0 s0,sJ 1 a1,sJ 0 s0,sJ 1 a2,sJ 2 d2])]
def YG(a:aH)(h:u)(f g x:ar):qM 36 [nQ,f,g,x] nr:=nd Sh [.K]
def AcJ:∀(a:aH)(h k v:u)(f g)(a_:qr)(U:r6)(aS:mP v)(abs:f.acI=G)(aeA:g.acI=G)(dw:¬(f=rx∧g=rx)),pG 2 35 pM (pe (ae4 k v f g)):=by injections a h k v f g;rw[mY a_ U aS abs aeA dw,m2 (oj aS),mY h3,nH a1 k 4,mZ a_];subst a1;exact nd DP [.K,sJ 3 h3];have gr:=sP k f a_;have jk:=sP v g U;clear U;have jm:=Em a h f;rw[nH a2 f.jE v,show ae4 k v f g=1 by unfold ae4;rw[cH a1,c0 a2],mW (nd DP [sJ 4 a1,re,uO,aOr,p (AH (show(f.jE==nc v)=G from lb.gS a2)),aOr,p (CS (hZ (show 0≤f.jE by exact A5 [f.jE,↑v] 0 b5 d5 b5 0 d5 e (R.fp a2.cq) vV)))])];have bj:=AH (acw a2);rw[nH a3 f rx,mZ a_ abs];subst a3;rw[show ae4 k v _ g=ov g uW 1 0 by unfold ae4;rw[cH a1,cH a2,vp],m2 (Em a h g),mY adD];(induction g using a9.ae with|jc=>exact t' dw zm|bi y=>have Aa:f1 [] .eq (og y) aUz=c (n5 (y=="a")):=e;rw[nH aJ y "a",mZ aeA dw Aa,vQ,mW (nd DP [sJ 4 a1,re,uO,aOr,zb,.K,.K,.K,.K,.K,.K,.K,.K,.K,aZ adD,aOr,.K,.K,.K,.K])];rw[show(y=="a")=Y from acw aJ]at Aa;rw[cH (ol (aJ (a9.bi.dB d))),mW (nd DP [sJ 4 a1,re,uO,aOr,zb,.K,.K,.K,.K,.K,.K,.K,.K,.K,aZ adD,aOr,.K,.K,.K,p Aa])]|mN=>rw[oq DP [sJ 4 a1,re,uO,aOr,zb,.K,.K,.K,.K,.K,.K,.K,.K,.K,aZ adD,aOr,.K]]|dx|aO=>rw[oq DP [sJ 4 a1,re,uO,aOr,zb,.K,.K,.K,.K,.K,.K,.K,.K,.K]]|_=>rw[sQ aeA]);rw[show ae4 k v f g=0 by unfold ae4;rw[cH a1,cH a2,cH a3]];(have aG:(f.o==5)=Y:=by rw[mZ a_ abs dw gr jm a2 bj,y8 f a9.ae (by exact t' a3 e)]);rw[xF jb Bo f,mW (nd DP [sJ 4 a1,re,uO,aOr,zb,.K,sC,rN aG,sC,rN aG,aZ (YG a h pV f.aY g.aY)])]
def P0:∀(a:aH)(h k v:u)(f g:a9)(a_:qr)(U:r6)(hs:mP k)(aS:mP v)(dw:¬(f=rx∧g=rx)),pG 4 32 pM (pe vw):=by injections a h k v f g;intro a_ U hs aS dw;have l3:=Ď Acl g U hs aS;have gr:=sP k f a_;have jk:=sP v g U;rw[xF jb Bo f];have dt:=Bo a.F g;by_cases bf:0≤acW k v g;rw[sr vw (acW k v g) (c0 bf),mW (nd CR [Ų,sZ CS hZ bf])];have BH:=CS (jq bf);rw[show vw=_ from cH bf];have jU:=E_ f [6,7,10,14,15,16,17,18,19] (NP f);have cR:=E_ g [6,7,10,14,15,16,17,18,19] (NP g);rw[pI aCj f.abA (by rw[oq CR [Ų,Í,re,sC,uO,xo,Ø aCj jU]]) (by rw[aCj]at jU;rw[pI aru g.abA (by rw[oq CR [Ų,Í,re,sC,uO,xo,p jU,Ø aru cR]]) (by rw[aru]at cR;have acZ:=E_ f [1,2,3,4,5] (J9 f);have aef:=E_ g [1,2,3,4,5] (J9 g);rw[cH (nw:¬(Y||Y)=G),nH kB v 10,mZ U aS bf];subst kB;rw[vp];(rw[pI abs f.acI (by rw[oq CR [Ų,Í,re,sC,uO,xo,p jU,p cR,.K,Ø abs acZ]]) (by rw[oq CR [Ų,Í,re,sC,uO,xo,p jU,p cR,.K,Ø abs acZ]])]);rw[cH kB,pI aeA g.acI (by rw[vp];(rw[pI abs f.acI (by rw[oq CR [Ų,Í,re,sC,uO,xo,p jU,p cR,p (Bn _ kB),Ø aeA aef,Ø abs acZ,aZ (AcJ a nB k v f g a_ U aS abs aeA dw)]]) (by rw[oq CR [Ų,Í,re,sC,uO,xo,p jU,p cR,p (Bn _ kB),Ø aeA aef,Ø abs acZ]])])) (by rw[aSv,nH h4 k 4,mZ a_ hs bf];subst h4;rw[mW (nd CR [Ų,Í,re,sC,uO,xo,p jU,p cR,p (Bn _ kB),Ø aeA aef,.K]),nH h5 k 5,mZ a_ hs bf h4];subst h5;rw[mW (nd CR [Ų,Í,re,sC,uO,xo,p jU,p cR,p (Bn _ kB),Ø aeA aef,.K,.K]),cH (ol (d.az h4 h5)),mW (nd CR [Ų,Í,re,sC,uO,xo,p jU,p cR,p (Bn _ kB),Ø aeA aef,sJ 4 h4,sJ 5 h5,sJ 3 (oj hs)])])])])]
abbrev fm(o:u×u):ar:=nE [.m o.1,.m o.2]
def F3(f g)(b:fm f=fm g):f=g:=by rw[aPJ];obtain⟨c6,dn⟩:=g;simp only[fm,ar.ay.fV,r.s.fV,ar.m.fV,aib]at b;rw[R.gq.dB od,R.gq.dB qK]
def DW(o):(fm o).im jA=G:=uJ
def Hy(o):l4 (fm o)=G:=e
abbrev hA(o:u×u):vH pu N|[]=>B|v'=>aTE hA
def H0(o):hA o []=B:=e
def H1(o):∀f y l,hA o v'=(aTE hA):=uD
abbrev mw(o:u×u)(y:N):pu→pu|[]=>[(o,y)]|aOV=>aSW v' (mw o y l)
def Gp(o)(y):mw o y []=([(o,y)]):=e
def Gq(o)(y):∀f g l,mw o y aOV=(aSW v' (mw o y l)):=uD
abbrev iR(M:pu):yt:=M.au fun d=>(fm d.1,qP d.2)
abbrev hu(O:q4):yt:=O.au fun o=>(vt,nG)
def JC(o)(M):kx vt (iR M)=(hA o M).au .aO:=qb M (by rfl) d M (by rw[aUa y d];simp only[iR,r.gI,EM,EN,H0,H1];rw[nH b f o,mZ ih,pq];simp;rw[m1 (¬fm f=fm o) (ol (b (tj F3))),m5,cH aa,cH b,mW ih])
def M'(o)(y)(M):abn vt rK (iR M)=iR (mw o y M):=qb M (by rfl) d M (by rw[aUa V d];simp only[iR,r.gI,FZ,F0,Gp,Gq];rw[nH b f o,mZ ih,pq];simp;rw[m1 (¬fm f=fm o) (ol (b (tj F3))),m5,cH aa,cH b,r.gI,uh])
set_option tactic.hygienic true in
def Oq(o)(y)(M)(d)(b:d∈mw o y M):d∈M∨d=(o,y):=qb M (by simp only[Gp,Gq,r.i7]at b;exact aQ.bF b) j M (by rw[aUa V j,sB Gp Gq];split at b;rename_i he;clear ih;subst he;rw[aSq,oe,m9,oe,m8,mW aUp,mW aQ.bT (r.lH _ b),aSq,oe,m9,oe,m8,mW aQ.bT (b▸tG),nt Ű,oe,m9,oe,m8,mW aQ.bT (r.lH _ b),mW aUp])
set_option tactic.hygienic true in
def H2(o aax)(y)(M):hA aax (mw o y M)=ov o aax qv (hA aax M):=qb M (by rfl) j M (by rw[aUa V j];simp only[Gp,Gq];split;rename_i he;clear ih;subst he;simp only[H0,H1];split<;>rfl;rename_i he;simp only[H0,H1,ih];split;rename_i h2;clear ih;subst h2;rw[cH (oE (he b.cq))]at⊢;rfl)
def Kq(o)(y)(M):(mw o y M).z≤M.z+1:=qb M (by rw[qz]) j M (by rw[aUa V j];simp only[Gp,Gq];split<;>(simp only[r.kZ])<;>omega)
set_option tactic.hygienic true in
def Kp(o)(M)(y)(b:hA o M=c y):(o,y)∈M:=qb M (by rw[xG]) j M (by rw[aUa V j,sB H0 H1];split at b;rename_i he;clear ih;subst he;rw[nf b,mZ b,nR,pq,mW tG,mW r.lH _ Ű])
def Hr(o)(O):(kx vt (hu O)).eF=b1 (o∈O):=qb O (by rfl) f O (by simp only[hu,r.gI,EM,EN];rw[nH b f o,mZ ih,pq];simp;rw[m1 (¬fm f=fm o) (ol (b (tj F3))),mY aa,m1 (¬o=f) (ol (b d.cq)),mY h',cH aa,m2 ih,m5];unfold hu at aa;rw[tf];simp[h'])
def T'(o)(O)(b:o∉O):abn vt nG (hu O)=hu (O++[o]):=qb O (by rfl) f O (by rw[sB r.gA aj4];have:¬fm f=fm o:=ol (b.1 (rz (tj F3)));simp only[hu,r.gI,FZ,F0,cH aa,r.aoe];rw[uh,mW ih qK])
def TY(o)(O)(b:o∉O):aep vt (hu (O++[o]))=hu O:=qb O (by simp[hu,EL]) f O (by rw[r.gA,aj4]at b;have:¬fm f=fm o:=ol (b.1 (rz (tj F3)));simp only[hu,r.gI,EL,cH aa,r.aoe];rw[uh,mW ih qK])
def CO{cg gn:Type}{p}{f}{ac:vH cg gn}{l}(b:p=c f)(o:ac f=l):p.bP ac=l:=nb b o
def J6{gn}{w}{q x}{fs}{ac}{l:ap gn}(b:aSD)(o:ac x fs=l):agz w q ac=l:=by unfold agz;rw[b,mW o]
def J'{gn:Type}{x}[ah1 x]{j l:ap gn}(b:x)(o:j=l):(nK x j)=l:=(c0 b).ah o
def Ep:∀(O)(cf)(d)(h)(j)(l)(w a4 dm)(y)(q x)(fs)(Q:o5 (o0 aU j) y)(h2:aNL d=c (n3,dm))(h3:pO dm (qI x fs))(h4:O.abp x h=G)(h5:fs.z<200),pU dP (.dU d h j)=c (na,l,aOJ (.bS x aS8)):=by rw[mY O cf d h j l w a4 dm y q x fs,mY Q h2 h3 h4 h5,mX CO Q (CO h2 ?_),mX (cr (ap.au _) (show aEx O _ q h y=c (dm.b6 q _)from J6 h3 (J' (qZ h4 (hZ h5)) e))).ah e]
def I3:∀(a:aH)(cf)(l)(b:Ň px)(h)(f)(p)(g V)(b2:T.abp 3 h=G)(aB:rm (acA h [sL,qH,vC,wh,w2,aWw a.gl,yH,sM "deep" a.e4,sM "looks" a.c2,Ŕ,y0 oX,Ő,aQV a.k1,ź]) f)(eh:atg p f g=c V),dP T cf (.agg pn h p y_) l a.F=c (na,l,tI 12 (.bS 3 (abq h (.m V) [sL,qH,vC,wh,w2,aWw a.gl,yH,sM "deep" a.e4,sM "looks" a.c2,Ŕ,y0 oX,Ő,aQV a.k1,ź]))):=by rw[mY a cf l,mY b,mY h f p g V,mY b2 aB eh,m1 (oD (ç _ _) vT) (qZ Bl b),mY d,mX CO d (J6 (BY a) (J' b2 (CO aB (CO eh ?_)))),mW (uU (J6 (BY a) e)).ah e]
def RO(a:aH)(cf)(l)(b:Ň px):dP T cf (.agg pn "looks" .e_ nG) l a.F=c (na,l,yu c2 vR):=nb (n7 (I3 a _ l b) 1 _ e e e) (cr (nF (ua ls.bU j)) (Fl a _ _ _))
def RM(a:aH)(cf)(l)(b:Ň px):dP T cf (.agg pn "deep" .e_ nG) l a.F=c (na,l,yu e4 (a.e4+1)):=nb (n7 (I3 a _ l b) 1 _ e e e) (cr (nF (ua ls.bU j)) (Fl a _ _ _))
def RN(a:aH)(cf)(l)(b:Ň px):dP T cf (.agg pn "deep" .eZ nG) l a.F=c (na,l,yu e4 (a.e4-1)):=nb (n7 (I3 a _ l b) 1 _ e e e) (cr (nF (ua ls.bU j)) (Fl a _ _ _))
def QB(O)(cf)(d o)(l)(w a4 dm)(q)(e6)(i)(Q:uw n3)(h2:aNL o=c (e6,dm))(h3:pO dm x7)(h4:l4 e6=G)(h5:e6.im jA=G)(h6:(kx e6 i).eF=G):pU dP (.agn d o)=c (na,l,aOJ (.bE (aep e6 i))):=by rw[mX CO Q (CO h2 ?_),mX (cr (ap.au _) (show aq3 dm q e6=c (aOJ (.bE (aep e6 i)))from ?_)).ah e];delta aq3 aar;rw[h3,mW c0 (Ŵ h4 h5 h6)]
def Lw(O)(cf)(d)(l)(w a4)(q)(i)(y)(Q:uw n3)(h2:pO a4 (.aw (i++[y]))):oC (.adv d)=c (y,a4.b6 q rj):=by rw[rc (pk ta Q)];show alK a4 q=_;delta alK;rw[J5 h2];rw[r.getLast?_concat,r.dropLast_concat,ap.ji]
def DH(adz)(bD:aTb)(h)(l)(w a4 dm)(bW)(b:o5 (adz l w) G)(U:bD l a4=c (na,bW,dm)):ae8 adz bD nB l w=ae8 adz bD h bW dm:=by simp only[Lq,b];simp only[ap.eO,fU,U];rfl
def Fu(adz)(bD)(h)(l)(w a4)(b:o5 (adz l w) Y):ae8 adz bD nB l w=c (na,l,a4):=sg Lq b
def Acd{O}{cf}{x}{l}{w a4}{g}(b:o5 (o0 aU x) qA):o5 (o0 adA x) g:=by unfold adA;rw[b];rfl
def Tn:∀(a:aH)(aS:pN)(h)(O ks)(cu:(ľ).fF)(aB:ks.z<4000)(Q:a.eM=(ľ).au fm)(h2:a.ey=hu ľ),ś 24 [nQ,nE [nr,.m O.z]]=c (.B,aH.F (aQD eM (O.au fm) (hu O))):=by rw[ug,mY aS,yb O ks,mY cu aB Q h2];(have Aw:dP T nT (.amA (ī (sO "notes") "rows") (.aT qc nr)) aRx a.F=c (na,aRx,a.F):=by rw[m1 (oD (aU _ nT (ī (sO "notes") "rows") aRx a.F) (.D 19)) aQp,mY jb,m1 (oD (aU _ nT (rq 1) aRx a.F) nr) (qW [.K]),mY dt,rc (pk ta jb)];simp only[ap.eO,IR,dt,azU,ED,J5 (Gc a),g2];rfl);(have akR:∀(z':aH)(aS:z'.Ap≤z'.ca.z),qf (adA T nT (on gt (sW (sO "trail")) (x2 nG)) aRx z'.F) (b1 (O.z<z'.eM.z)):=by intro z' aJf;have aB:rm (acN z'.F (.D z'.gl)) z'.eM.z:=CX (Fm (DZ z' aJf)) e;exact Acd (qW [p aB,.K,p (B' (sr (b1 _) (b1 (O.z<z'.eM.z)) (aon.gS R.aa7)))]));(have kD:∀(H:u)(ks:q4)(a:aH)(aS:pN),ks.z=H→(ľ).fF→a.eM=(ľ).au fm→a.ey=hu ľ→∀gc,H<gc→ae8 (adA T nT (on gt (sW (sO "trail")) (x2 nG))) (aO6 nT (nA (aQ4 agn "assumed" (.adv (sO "trail"))))) gc aRx a.F=c (na,aRx,aH.F (aQD eM (O.au fm) (hu O))):=by intro H;induction H with|hf=>rw[mY ks a aS aG cu Q h2 gc adY,mZ cu,m2 (r.aDz.1 aG),m5,mZ aG,uM];rw[r.afl]at Q h2;(obtain⟨gg,e⟩:∃gg,gc=gg+1:=⟨gc-1,m4 (Br _ S nN S nN e (rz (s7 (aQG [gc,gc-1] _ 0 S e adY))))⟩);rw[p5 Fu gg _ a.F,m1 ((aQD eM (O.au _) (hu O):aH)=a) (by rw[←Q,←h2]),m5,tf,ru akR,Q];simp|gk H ih=>intro ks a aS aG cu Q h2 gc adY;obtain⟨gg,e⟩:∃gg,gc=gg+1:=⟨gc-1,m4 (Br _ ai pR ai pR e (rz (s7 (aQG [H,gc,gc-1] _ nm ai e adY))))⟩;rw[nt (r.eq_nil_or_concat ks)];rintro D0;rw[m9,mY J,ri BF,ng];rintro ajO o e;rw[m8,mZ cu,mZ Q h2];subst D0;simp at aG;rw[r.concat_eq_append]at aG cu Q h2;rw[←r.abO]at cu Q h2;simp only[r.gR,r.lF]at aG;rw[m1 (o∉O++ajO) (by rw[r.anl]at cu;rw[nR,mW (nW cu o b o (r.i7.2 e) e)]),mY aau,m1 (aU _ _ (.adv (sO "trail")) aRx a.F=c (vt,m7 a.F.b6)) (by apply Lw T nT _ _ _ a.F a.gl ((O++ajO).au fm) vt aQp;rw[ru DZ,Q];simp),mY ep,p5 DH gg _ a.F (aH.F (aQD eM ((O++ajO).au fm) (hu (O++ajO)))) aRx,mW (rJ (ih _ (aQD eM ((O++ajO).au _) (hu _)) aS (m4 (Br [H,ajO.z] ai S nN nm e aG)) (r.anl.1 cu).1 e e _)),ru akR,Q];simp;rw[DM,Eo];rw[PQ]at ep;rw[qn QB _ _ (hu _) aQp ep (uq h2 (EW _)) e (DW o) (aNF Hr)];rw[Kl,Bg,TY o _ aau,K6]);exact nd Sc [os Aw,os ((Fw ..).ah (nM kD a aS e cu Q h2 _ (qm (by unfold alZ))))]
abbrev aH.BP(a:aH):aH:={a with eM:=[],apL:=(ov a.Ap 0 a.eM a.apL),ca:=z9 (ov a.Ap 0 a.ca (a.ca.b6 Ģ (c_.aw a.eM))),Ap:=a.ca.z+1}
def Ot(ael:ch)(p:c_)(h)(b:h=ael.z):(ael++[p]).b6 h p=ael++[p]:=by rw[pq,aQr (m7 r.ake),u.aEM];rfl
def OW{a:aH}(b:Û):a.BP={a with eM:=[],apL:=a.eM,ca:=z9 a.ca,Ap:=a.ca.z+1}:=by unfold aH.BP;rw[c0 b,c0 b]
def OX{a:aH}(b:¬Û):a.BP={a with eM:=[],ca:=z9 (a.ca.b6 Ģ (c_.aw a.eM)),Ap:=a.ca.z+1}:=by unfold aH.BP;rw[cH b,cH b]
def XB:∀(a:aH)(aS:pN),(tD aTZ).b6 12 (k6 a.F.z a.e4 a.c2 a.k1)=a.BP.F:=by rw[mY a,mY aS];(have iN:a.BP.gl=a.F.z:=by rw[CI];simp only[aH.gl,aH.BP];exact BI [a.ca.z,a.ds.z] (25+ai+nm) (26+ai+S) e);rw[nH bf a.Ap 0,m1 (a.BP.g8=(a.g8.b6 16 (c_.aw a.eM)).b6 12 (k6 a.F.z a.e4 a.c2 a.k1)) (by rw[←iN];rw[OW bf];rfl),mY aoX,m1 (a.F=((a.g8.b6 16 (c_.aw a.eM))++xS)++a.ca) (by unfold aH.F;rw[show a.gl=16 by simp[aH.gl,bf],r.abO,aNG (yo Bs),r.abO]),mY aV,m1 (a.BP.F=((a.BP.g8++xS)++(z9 a.ca)).b6 a.F.z (c_.aw [])) (by rw[←iN,OW bf];rfl),mY bj,bj,←r.abO,n7 Ot (by rw[CI];simp[Bs,Ca,u.la]),aoX];rw[aV];rw[aNG (by simp[Bs];exact AJ [a.ca.z,qp ii 2 a.ds] (12+1) (26+(ai+S)) e),aNG (by simp[Bs];exact AJ [qp ii 2 a.ds] (12+1) zg e),m7 r.abC (by simp[Bs]),m1 (a.BP.g8=a.g8.b6 12 (k6 a.F.z a.e4 a.c2 a.k1)) (by rw[←iN];rw[OX bf];rfl),mY aoX,m1 (a.F=(a.g8++xS)++a.ca.b6 Ģ (c_.aw a.eM)) (by rw[aPY,show a.gl=(a.g8++xS).z+Ģ by simp[aH.gl,bf,Bs,Ca];exact Br [a.Ap,a.ds.z,Ģ] (25+ai+S) (26+ai+a8) S pR e (rz (s7 (aQG [a.Ap,a.ds.z,Ģ] S 0 S e (u.ahT bf)))),rJ (m7 r.ake)];congr 2;exact q2 (Br [r.z (a.g8++xS)+Ģ-r.z (a.g8++xS),Ģ,r.z (a.g8++xS)] S ai (S+a8) (a8+ai) e) (AJ [r.z (a.g8++xS)+Ģ-r.z (a.g8++xS),Ģ,r.z (a.g8++xS)] a8 (a8+ai) e)),mY aV,m1 (a.BP.F=((a.BP.g8++xS)++(z9 (a.ca.b6 Ģ (c_.aw a.eM)))).b6 a.F.z (c_.aw [])) (by rw[←iN,OX bf];rfl),mY bj,bj,←r.abO,n7 Ot (by rw[CI];simp[Bs,Ca,u.la]),aoX];rw[aV];rw[aNG (by simp[Bs];exact AJ [a.ca.z,qp ii 2 a.ds] (12+1) (26+(ai+S)) e),aNG (by simp[Bs];exact AJ [qp ii 2 a.ds] (12+1) zg e),m7 r.abC (by simp[Bs])]
abbrev abw(O:q4)(M:pu):pu:=O.mI (fun M o=>aVI) M
def Wy(O)(M):qp abw O M≤M.z+O.z:=by induction O generalizing M with|C=>simp[abw]|s o O ih=>rw[m2 (ih (mw o G M)),mY Q,m2 (Kq o G M),mY h2];simp only[abw,r.auk,r.kZ]at*;exact Am [(r.mI (fun M o=>aVI) aVI O).z,(aVI).z,O.z,M.z] S (eK+pR) S (ai+a8) ai (eK+1) e Q h2
def Wz(O)(M)(d)(b:d∈abw O M):d∈M∨(d.1∈O∧d.2=G):=by induction O generalizing M with|C=>exact aQ.bT b|s o O ih=>rw[nt (ih aVI b),oe,m9,oe,m8,nt (Oq o G M d b),oe,m9,oe,m8,mW Î,mW (rW aQ.bF (nb b tG) (by rw[b])),mW (rW aQ.bF (Č od) qK)]
def Ol(O)(M)(o)(b:(hA o M).eF=G∨o∈O):(hA o (abw O M)).eF=G:=by induction O generalizing M with|C=>rw[ŕ];(rw[oe]);rw[m9];(rw[oe]);rw[m8,mW b];cases b|s f O ih=>apply ih;rw[nY b b,oe,m9,oe,m8];left;rw[H2]at⊢;split;rfl;rw[mW b,aSq,oe,m9,oe,m8];left;rw[H2,c0 b.cq]at⊢;rfl;exact aUp
def S2(cf)(agb:q4)(a'):∀(a:aH)(aS:pN)(M)(fJ),a.eM=agb.au fm→a.ey=hu a'→a.fO=iR M→M.z+a'.z<1000000→∃any,fZ (f0 T cf (.s (aQ4 agn "assumed" ph) (nA (ts qc (nA (.jl (sO "known") ph pg)))))) 2 (c (a.gl,agb.au fm)) (a'.au fm) (aS7 fJ) a.F=c (na,aS7 any,aH.F {a with ey:=[],fO:=iR (abw a' M)}):=qb a' (by rw[mY a aS M fJ Q h2 h3 h4,y1 fJ,r.ajT,ni F9 _ (by simp[AY,ru DZ,Q]),m1 (({a with ey:=[],fO:=iR (abw [] M)}:aH)=a) (by rw[m6 (({a with ey:=[],fO:=iR M}:aH)=a),←h3,m1 (a.ey=[]) h2,mY kT,←kT]),m5,tf]) o a' (by intro a aS M fJ Q h2 h3 h4;simp only[r.kZ]at h4;rw[m2 (Kq o G M),mY aG];obtain⟨any,fk⟩:=ih {a with ey:=hu a',fO:=iR (mw o G M)} aS aVI (c vt) Q e e (m4 (oa Am [M.z,a'.z,(aVI).z] (a8+ai) 1000000 tS 1000000 a8 nm e h4 aG));rw[y1 any,r.gI,n7 (ni HF) (by simp[AY,ru DZ,Q])];(have aV:aRb dP (aQ4 agn "assumed" ph) (aS7 (c vt))=c (na,aS7 (c vt),yu ey (hu a')):=by rw[nM (QB T cf _ _) a.F a.F 14 vt (hu (o::a')) aQp aQp (tg EW h2) e (DW o) (aNF Hr),m1 (aep vt (hu (o::a'))=hu a') (by simp[hu,EL]),m5,aa,K6]);rw[m1 (rH iR M<1048576) (aSf iR r.hN (oa Ag [M.z,a'.z] S 1048576 tS 1000000 e h4)),mY aB];(have bj:aRb f0 (.s (aQ4 agn "assumed" ph) (nA (ts qc (nA (.jl (sO "known") ph pg))))) ((aS7 fJ).b6 2 (c vt))=c (na,aS7 (c vt),aH.F {a with ey:=hu a',fO:=iR (mw o G M)}):=by rw[m2 (pX EX (oP ey (hu a')) (pk (nF nJ) h3)),mY K];(have lf:lm (yu ey (hu a')) 15 vt pg=c (aH.F {a with ey:=hu a',fO:=iR (mw o G M)}):=by unfold lm;rw[K,m6 ((nK ((l4 _&&((fm o).im _&&b1 (rH iR M<du)))=G) nJ)=_),c0 (qZ DW (qJ hZ (rH iR M<du) aB)),M',mW cr c (m7 PO)]);exact pK [os aV,aaF lf]);rw[bj,NA,mW fk])
def F8{O}{cf}{g}{q}{l}{w}{y}{i}{x}{V}(hs:kn w y=c (i,x))(b:fZ aRf q x i l w=V):((kn w y).bP fun t=>fZ aRf q oI ox l w)=V:=nb hs b
def S3:∀(a:aH)(aS:pN)(h:u)(O:q4)(M:pu)(Q:a.eM=O.au fm)(h2:a.ey=hu O)(h3:a.fO=iR M)(h4:M.z+O.z<1000000),ś 28 [nQ,pg]=c (.B,({a with ey:=[],fO:=iR (abw O M)}:aH).BP.F):=by rw[mY a,mY aS,mY h O M,mY Q h2 h3 h4,n4 (S2 nT O O a aS M B Q h2 h3 h4) any aB];have hs:=Il (Q▸ru DZ);rw[m2 (XB {a with ey:=[],fO:=iR (abw O M)} aS),mY cu];(have afH:dP T nT (.dU pn "trail" ň) (aS7 any) (aH.F {a with ey:=[],fO:=iR (abw O M)})=c (na,aS7 any,({a with ey:=[],fO:=iR (abw O M)}:aH).BP.F):=by rw[n7 (Ep T nT _ _) (z9 (aH.F {a with ey:=[],fO:=iR (abw O M)})) (z9 (aH.F {a with ey:=[],fO:=iR (abw O M)})) (.D (rH aH.F {a with ey:=[],fO:=iR (abw O M)})) 12 3 [sL,qH,vC,wh,w2,aWw a.gl,yH,sM "deep" a.e4,sM "looks" a.c2,Ŕ,y0 oX,Ő,aQV a.k1,ź] (sg C7 Ar) (by simp only[Bl];rfl) (nb (r.jP (qm (by simp only[CI]))) (BY {a with ey:=[],fO:=iR (abw O M)})) e (aRZ (14<200)),←cu];rfl);exact nd Sd [os (F8 hs aB),os afH]
abbrev kv:oB:=[q8 "any",q8 "unknown",q8 "never",q8 "void",aUG,q8 "null",aSt,aSu,.aO 0 0,.aO 1 0,q8 "object",.D B B,qs [8,9],q8 "error",.aO 0 1,.aO 1 1]
structure dI(a:aH)(M:pu)(O:q4):Prop where
 kh:a.aiU
 eX:aRM kv a.ak
 cO:a.ak.fF
 aS:pN
 eM:a.eM=O.au fm
 ey:a.ey=hu O
 jX:O.fF
 fO:a.fO=iR M
 ks:∀(f g:u)(y:N),((f,g),y)∈M→∃sa bh,ty f sa∧ty g bh∧y=el sa bh
 jW:ob (O.z+M.z)≤a.c2
abbrev aml(a:aH)(o:u×u):Prop:=∃sa bh,ty o.1 sa∧ty o.2 bh∧el sa bh=G
abbrev fb(a:aH)(ao:oB)(O:q4)(cc:u)(cj:ea):aH:={a with ak:=ao,afK:=aaw 0 ao,eM:=O.au fm,ey:=hu O,c2:=a.c2+cc,k1:=cj}
abbrev hj(a z':aH)(M:pu)(O kt:q4)(x:u):Prop:=∃(ao:oB)(ks:q4)(cc:u)(cj:ea),z'=fb a ao kt cc cj∧kt=ľ∧dI z' M kt∧(aRM a.ak ao)∧(∀o∈ks,aml z' o)∧ks.z≤cc∧cc≤x∧ao.z≤a.ak.z+4*x
def KO(a)(ao)(O)(cc)(cj)(b:aRe):ö (fb a ao O cc cj):=⟨b,fun aj a0 d=>(Ad a0 d e),fun n g d=>d⟩
def hj.le{a z'}{M}{O kt}{x}(b:hj a z' M O kt x):yy:=by rw[m3 Dc b,om];rintro ao ks cc cj e _ _ eE _;exact KO a ao _ _ _ eE
def YH(a)(ao iA)(O kt)(cc ajS)(cj aiJ):fb (fb a ao O cc cj) iA kt ajS aiJ=fb a iA kt (cc+ajS) aiJ:=by rw[m1 (a.c2+nc cc+nc ajS=a.c2+ob (cc+ajS)) (m4 (R.ab5 (D1 [a.c2,↑cc,↑ajS] (b5+d5+gY) (b5+(d5+gY)) e) (D1 [a.c2,↑cc,↑ajS] (b5+(d5+gY)) (b5+d5+gY) e))),p0];simp only[fb,d]
def aml.bx{a z'}(b:yy){o}(v:aml a o):aml z' o:=by rw[mX At v fun sa bh gd fJ d=>?_,mW Au _ _ (gd.bx b) (fJ.bx b) d]
def YI{a}{M}{O}(aF:qG):fb a a.ak O 0 a.k1=a:=by rw[m2 aF.eM,mY Q,m2 aF.ey,mY h2,m2 aF.kh,mY h3];unfold aH.aiU at h3;unfold fb;rw[←Q,←h2,←h3];simp
def hj.fI:∀{a}{M}{O}(aF:qG)(x),hj a a M O O x:=by rw[mY a M O,mY aF,mY x,mW (p5 Dq 0 (by rw[YI aF]) (by simp only[r.afl]) aF aQ2 (fun o aG=>ej aG r.aaE) ra (m4 (AJ [x] 0 S e)) n_)]
def hj.bx:∀{a z'}{M}{O kt}{x c'}(b:hj a z' M O kt x)(hc:x≤c'),hj a z' M O kt c':=by rw[mY a z' M O kt x c',mY b hc,mX ET b fun ao ks cc cj Q h2 h3 h4 h5 h6 h7 h8=>?_,mW (oM Dq ao Q h2 h3 h4 h5 h6 n_ (m4 (Am [x,c',ao.z,a.ak.z] a8 (ro eK 4) (su 4) (xr 4) a8 (rg eK 4) e (AM 4 hc) h8)))]
def hj.ah:∀{a z1 bz}{M}{O hY kO}{x c'}(b:hj a z1 M O hY x)(o:hj z1 bz M hY kO c'),hj a bz M O kO (x+c'):=by rw[mY a z1 bz M O hY kO x c',mY b o,m2 o.le,mY b7,m3 ET b,om];rintro ao ks cc cj e e h3 h4 h5 h6 h7 h8;rw[m3 ET o,mZ o];rintro iA ajO ajS aiJ e e ajM avz aJQ aM6 aM7 aJR;rw[m1 ((fb a ao ľ cc cj).ak.z=ao.z) e,mY d,mX Dq iA (ks++ajO) (cc+ajS) aiJ (YH ..) (Ĕ r.abO) ajM (fun q l Ab=>avz q l (h4 q l Ab)) ?_ (yo r.gR) n_ (m4 (Bu [x,ao.z,a.ak.z,c',iA.z,(fb a ao ľ cc cj).ak.z] ahk (a8+(tz 4 (S+eK))) ai (rg a8 4) ahk (sn amn 4 eK) amn ai e h8 aJR (Az d))),tr,nt (r.aeP.1 J),ya,m9,ya,m8,mW (pa h5).bx b7,mW (pa aJQ)]
def Gl{w}{f}{i}(o)(K:aPf x7){g}(b:(kx vt i).eF=g):f1 w .gH (nE [.m o.1,.m o.2]) rY=c qA:=by rw[pq,mX CT (?_:jT w vt _=_)];simp only[jT,K,Hy,DW,N.aen,fU]
def Wq{w:ch}{f:u}{i:yt}(o:u×u)(K:aPf x7){y:ar}(b:kx vt i=c y):pE w rY (nE [.m o.1,.m o.2])=c y:=by rw[m6 (eC w _ (fm o)=_)];simp only[eC,K,Hy,DW,N.aen,fU,b]
def Ko(a:aH)(h k v)(M)(adX:a.fO=iR M)(y)(b:hA o1 M=c y):qM 27 pM rK:=by(have hd:kx (fm o1) a.fO=c rK:=Ŵ adX JC b);exact nd EG [p (Gl o1 (EX a) (cr ap.eF hd)),p (Wq o1 (EX a) hd)]
def WB(a:aH)(h k v)(M)(O)(adX:a.fO=iR M)(h1:a.ey=hu O)(b:hA o1 M=B)(h':o1∈O):qM 27 pM pg:=by(have hd:kx (fm o1) a.fO=B:=Ŵ adX JC b);(have a_:(kx (fm o1) a.ey).eF=G:=tL h1 Hr (hZ h'));exact nd EG [p (Gl _ (EX a) (cr _ hd)),p (Gl _ (EW a) a_)]
abbrev AL(a:aH)(O:q4)(o:u×u):aH:={a with c2:=vR,e4:=a.e4+1,ey:=hu (O++[o]),eM:=(O++[o]).au fm}
abbrev ahu(a:aH)(M:pu)(O:q4)(o:u×u)(ks:q4)(ao:oB)(cc:u)(cj:ea)(y:N):aH:=if y then(ov O [] ({aPM (o::ks)with ey:=[],fO:=iR (abw (o::ks) M)}:aH).BP (aPM (O++o::ks)))else(ov O [] {fb a ao [] (cc+1) cj with fO:=iR (mw o Y M)} (fb a ao O (cc+1) cj))
def On:∀(a:aH)(h k v:u)(M:pu)(O ks:q4)(aF:qG)(b:hA o1 M=B)(h':o1∉O)(aB:a.c2<20000)(hd:a.e4<60)(ao:oB)(cc:u)(cj:ea)(y:N)(kg:ks.z<3990)(abY:(zv).fF)(js:a.c2+cc<900000)(jR:ob ((zv).z+M.z)≤a.c2+cc+1)(adl:bc T bo nB 37 pM (uz).F=c (rK,(aRN uz zv).F)),rE 2 27 pM=c (rK,(ahu a M O o1 ks ao cc cj y).F):=by injections a h k v M O ks;intro aF b h' aB hd;injections ao cc cj y;intro kg abY js jR adl;have aS:=aF.aS;rw[m1 (kx _ a.fO=B) (Ŵ aF.fO JC b),mY aH9,m1 ((kx _ a.ey).eF=Y) (tL aF.ey Hr (jq h')),mY ars];have acH:=aF.jW;(have aHV:rH hu O<du:=by delta hu du;rw[vO,mW O6 acH aB]);(have aHW:rH O.au fm<du:=by rw[xh,vO,mW O6 acH aB]);rw[m1 (rH iR M<du) (by delta iR du;rw[vO,mW X2 jR js]),mY aHJ];have j8:=Gl o1 (EX a) (cr ap.eF aH9);have k2:=Gl o1 (EW a) ars;have aj5:=CS (jq (show¬(nc 20000≤a.c2)by exact fun dO=>B4 (A5 [a.c2] 1 0 vk 20000 20000 b5 e aB dO)));have asb:=CS (jq (show¬(nc 60≤a.e4)by exact fun dO=>B4 (A5 [a.e4] 1 0 vk 60 60 b5 e hd dO)));have asc:=RO a n0 [px,zf,pZ,c (fm o1),B,B] e;have apM:=OI (oP c2 vR) h aS;rw[show(oP c2 vR:aH).eM.z=O.z by rw[show(oP c2 vR:aH).eM=_ from aF.eM,r.hN]]at apM;(have asd:lm (yu c2 vR) 14 (fm o1) nG=c (aH.F (aQD c2 vR (hu yA))):=by rw[KY _ _ (pX EW (oP c2 vR) (pk (nF nJ) aF.ey)) (Hy _) (DW _) aHV,nv T' h',K6]);(have ase:afk (aH.F (aQD c2 vR (hu yA))) (aH.F (aQD c2 vR (hu yA))) a.gl (fm o1)=c (aH.F {a with c2:=vR,ey:=hu yA,eM:=(yA).au fm}):=by rw[rc (LZ _ ((DZ (aQD c2 vR (hu _)) aS).ah (pk (nF nJ) aF.eM)) aHW),r.ahL,mW cr c (m7 PQ)]);have asf:=RM {a with c2:=vR,ey:=hu yA,eM:=(yA).au fm} n0 [px,zf,pZ,c (fm o1),yP [nr,.m O.z],B] e;rw[m2 (RN (aRN uz zv) n0 [nJ,zf,pZ,c (fm o1),yP [nr,.m O.z],c rK] e),mY apN];rw[show({aRN uz zv with e4:=(aRN uz zv).e4-1}:aH)=aPM zv by rw[m1 (a.e4+1-1=a.e4) (m4 (R.ab5 (D1 [a.e4] (vk-1) b5 e) (D1 [a.e4] b5 (vk-1) e))),mY aV];(have bj:vR+nc cc=a.c2+aQl:=m4 (m7 O8));simp only[fb,AL,aV,bj]]at apN;rw[u9 y (by have aCq:bc T bo nB 24 [nQ,nE [nr,.m O.z]] (aPM zv).F=c (.B,(fb a ao O (cc+1) cj).F):=Tn (aPM zv) aS h O wv abY (yg r.kZ (Ag [ks.z] (nm+1) 4000 nm 3990 e kg)) e e;rw[nH ak4 O []];subst ak4;(have f':lm (fb a ao [] (cc+1) cj).F 15 (fm o1) oX=c (ahu a M [] o1 ks ao cc cj Y).F:=Ŵ (KY _ _ ((EX (fb a ao _ _ _)).ah (pk (nF nJ) aF.fO)) (Hy _) (DW _) aHJ) M' PO);exact nd EG [p j8,p k2,aSd,p asb,aSd,os asc,aZ apM,aaF asd,aaF ase,os asf,.K,aZ adl,os apN,aZ aCq,.K,.K,aaF f'];have aux:(nc O.z==0)=Y:=acw fun d=>ak4 (r.aDz.mp (R.gq.dB d));rw[show ahu a M O _ _ ao _ _ _=fb a ao O _ _ by unfold ahu;rw[aSv,cH ak4],mW (nd EG [p j8,p k2,aSd,p asb,aSd,os asc,aZ apM,aaF asd,aaF ase,os asf,.K,aZ adl,os apN,aZ aCq,.K,rN aux,.K])]) (by rw[nH ak4 O []];subst ak4;have afC:=S3 (aPM ([]++wv)) aS h wv M e e aF.fO (by simp only[r.avS]at jR;exact O7 jR js);exact nd EG [p j8,p k2,aSd,p asb,aSd,os asc,aZ apM,aaF asd,aaF ase,os asf,.K,aZ adl,os apN,.K,.K,p (H6 (Gc (aPM ([]++wv)))),.K,.K,aZ afC];replace aux:(nc O.z==0)=Y:=acw fun d=>ak4 (r.aDz.mp (R.gq.dB d));rw[show ahu a M O _ _ ao _ _ _=fb a ao _ _ _ by unfold ahu;rw[vp,cH ak4],mW (nd EG [p j8,p k2,aSd,p asb,aSd,os asc,aZ apM,aaF asd,aaF ase,os asf,.K,aZ adl,os apN,.K,rN aux])])]
abbrev af8(ac q:u)(ec:nC)(y:N)(x:u)(a:aH)(M:pu)(O:q4):Prop:=∃z' kt,qf (bc T bo ac q ec a.F) rK∧hj a z' M O kt x∧(y=Y→kt=O)
abbrev afi(ac q:u)(ec:nC)(y:N)(x:u)(a:aH)(M:pu)(O:q4):Prop:=∃z' kt,qf (bc T bo ac q ec a.F) rK∧hj a z' M O kt x
def FG(a:aH)(h k:u):pG 2 94 (ă pV) pg:=by have d:qM 26 (ă pV) pg:=nd Hc [sZ AH aaU (nc k)];exact nd Jm [aZ d]
def G_(a:aH)(h k v)(f g)(cU:Ŏ)(a_:qr)(U:r6)(acD:aSk)(afE:g.je=Y)(hs:mP k)(aS:mP v)(dw:¬(f=rx∧g=rx))(y:N)(b:vw=t_ y 1):pG 6 94 pM rK:=by have Q:=Ij a nB k f a_ acD;have h2:=Ij a nB v g U afE;rw[m2 (Ď P0 f g a_ U hs aS dw),mY h3];have h4:=AH (C_ k v cU);rw[b]at h3;rw[om];(have d:pG 5 26 pM rK:=by rw[rs y (by rw[oq Hc [p h4,aZ Q,aZ h2,p h4,.K,aZ h3,.K]]) (by rw[oq Hc [p h4,aZ Q,aZ h2,p h4,.K,aZ h3,.K,.K,.K]])]);exact nd Jm [aZ d]
def G8(a z':aH)(h k v)(f g)(cU:Ŏ)(a_:qr)(U:r6)(acD:aSk)(afE:g.je=Y)(hs:mP k)(aS:mP v)(dw:¬(f=rx∧g=rx))(y)(b:vw=-1)(aG:qf (rE 4 27 pM) rK):qf (rE 6 94 pM) rK:=by have Q:=Ij a nB k f a_ acD;have h2:=Ij a nB v g U afE;have h3:=Ď P0 f g a_ U hs aS dw;have h4:=AH (C_ k v cU);rw[b]at h3;have d:qf (rE 5 26 pM) rK:=nd Hc [p h4,aZ Q,aZ h2,p h4,.K,aZ h3,.K,.K,.K,aZ aG];exact nd Jm [aZ d]
def OZ{cg:Type}{i:Ì}(b:i.fF):∀(q aq:u)(f),op i f→p7 i f→q=aq:=qb i (by intro q aq f Q;simp at Q) j i (by obtain⟨J,aB⟩:=r.l6.1 b;rw[mY q aq f Q h2,uL q (by(rw[uL aq (by rfl) aq (by simp only[r.aoJ,ap.c.fV,r.agv]at Q h2;subst Q;exact ej (r.lI h2) J)])) q (by rw[uL aq (by simp only[r.aoJ,ap.c.fV,r.agv]at Q h2;subst h2;exact ej (r.lI Q) J) aq (by simp only[r.agv]at Q h2;rw[ih aB q aq f Q h2]at⊢)])])
def Fe{a}{M}{O}(aF:qG){k v:u}{f}(hs:qr)(aS:n9 a.ak v f):k=v:=OZ aF.cO k v f hs aS
def fp{a z'}(Q:z'.ak=a.ak)(h2:z'.ds=a.ds)(h3:z'.dK=a.dK):yy:=⟨fun q l b=>nb Q b,fun aj a0 b=>(Ad a0 (nb h2 b) e),fun n g b=>by unfold abQ at*;rw[h3,mW b]⟩
def dI.AL{a}{M}{O}(aF:qG)(o)(b:o∉O):dI (AL a O o) M (O++[o]):={kh:=aF.kh,eX:=aF.eX,cO:=aF.cO,aS:=aF.aS,eM:=e,ey:=e,jX:=nb r.anl (AE aF.jX (rW r.l6.2 r.aaE r.ahO) (fun f a_ g U=>by rw[ŵ U,p0,mW b (d▸a_)])),fO:=aF.fO,ks:=fun f g y d=>by rw[s3 (aF.ks f g y d) sa bh gd fJ cV];have b7:ö (j4.AL a O o):=tW;exact(Au sa bh aSz aSA cV),jW:=by rw[m2 aF.jW,m5];simp only[j4.AL,r.gR,r.lF];exact A4 [↑O.z,↑M.z,a.c2] (vk+d5) (gY+1) zC gY e aa}
def dI.le{a z'}{M}{O kt}(aF:qG)(Q:z'.ak=a.ak)(h2:z'.afK=a.afK)(h3:z'.ds=a.ds)(h4:z'.dK=a.dK)(h5:z'.Ap≤z'.ca.z)(h6:z'.eM=kt.au fm)(h7:z'.ey=hu kt)(h8:kt.fF)(h9:z'.fO=a.fO)(kB:ob (kt.z+M.z)≤z'.c2):dI z' M kt:={kh:=by rw[m2 aF.kh,m5];unfold aH.aiU at*;rw[Q,h2,mW aa],eX:=nb Q aF.eX,cO:=nb Q aF.cO,aS:=h5,eM:=h6,ey:=h7,jX:=h8,fO:=nb h9 aF.fO,ks:=fun f g y d=>by rw[s3 (aF.ks f g y d) sa bh gd fJ cV];have b7:yy:=fp Q h3 h4;exact(Au _ _ aSz aSA cV),jW:=kB}
def WD:∀(a:aH)(h k v x:u)(M:pu)(O:q4)(aF:qG)(h1:qe O)(a7 st:bv)(vs:tv)(dj:xP)(aCh:o1∈O→el a7 st=G)(aB:aQM x)(hc:x<3980)(hd:a.e4<60)(adl:dI uz M yA→o1∉O→afi nB 37 pM u4 x uz M yA),af8 (h+2) 27 pM u4 (x+1) a M O:=by injections a h k v x M O;intro aF h1;injections a7 st;intro vs dj aCh aB hc hd adl;induction aG:hA o1 M using ap.ae with|c y=>rw[m3 At (aF.ks k v y (n7 Kp aG))];(rintro sa bh gd fJ d);simp only[gd.fn vs,fJ.fn dj]at d;rw[oT,mW Au a O (Ko a _ k v M aF.fO _ aG) (aWt aF) (nO e)]|B=>by_cases h':o1∈O;rw[aCh h',mW Au a O (WB a _ k v M O aF.fO aF.ey aG h') (aWt aF) (nO e)];obtain⟨bz,kO,br,ao,ks,cc,cj,e,e,gi,eE,aiA,kg,js,fT⟩:=adl (aF.AL o1 h') h';rw[m1 (ö uz) tW,mY ad4,m2 (ad4.ah (KO _ ao (yA++ks) cc cj eE)),mY b7];rw[r.abO]at gi br b7 aiA;simp only[r.aKZ]at gi br b7 aiA;have aiz:=gi.jW;have hlo:(aRN uz zv).c2=vR+cc:=e;simp only[hlo]at aiz;have g_:=Ď On M O ks aF aG h' (m4 (oa A5 [a.c2,↑x] b5 20000 zC 20000 0 d5 e aB vV)) hd ao cc cj u4 (m4 (Bu [x,ks.z,cc] (ai+1) 3990 nm 3980 ai a8 a8 S e hc kg js)) gi.jX (m4 (oa A5 [a.c2,↑x,↑cc] (b5+gY) 900000 zC 20000 gY d5 e aB (Bb js))) (m4 (A4 [a.c2,↑cc,↑(zv).z,↑M.z] aQ9 (zC+1) aQ9 (vk+d5) e aiz)) br;(have ape:ao.z≤a.ak.z+4*(x+1):=by rw[m1 ((uz).ak.z=a.ak.z) e,m5,mW (yw Am [x,ao.z,(AL a O _).ak.z,a.ak.z] (eK+(vc 4)) (rg a8 4) a8 eK e fT (Az aa))]);rw[pI aJ u4 (by rw[y3 g_];simp only[ahu,h1,fU,abv]at g_;have mK:fR (aRN uz zv) (aPM zv):=tW;rw[mX (nM Au g_ (oM Dq ao e e ?_ eE ?_ (qm (by simp only[r.kZ])) n_ ape) (m4 yL)),mW (u7 gi.le aF.aS e e gi.jX e (yh (_≤a.c2+aQl) (A4 [a.c2,↑cc,↑(zv).z,↑M.z] aQ9 (aO7 d5) aQ9 (vk+d5) e aiz))),mY o aG,nt (r.gA.1 aG)];(rw[n8]);rw[m9];(rintro aG);rw[m8,mW aml.bx (b7.ah mK) (Au _ _ vs dj aJ),mW (aiA o aG).bx mK]) (by rw[y3 g_];simp only[ahu,h1,abv,N.aev]at g_;rw[mX Au _ O g_ (oM Dq ao e (by simp only[r.afl]) ?_ eE (fun o aG=>ej aG r.aaE) qg n_ ape) (nO e),mW (u7 gi.le aF.aS e e aF.jX e (by rw[m2 aF.jW,m5,m6 (_≤a.c2+aQl),mW A5 [a.c2,↑cc,↑M.z,↑O.z] (acq+gY) (aO7 d5) (acq+gY) b5 0 d5 e aa vV]))])]
def HG(g:aTb)(k)(j)(xs)(l)(w)(y)(bW)(a4)(b:g (aNQ k) w=c (rO,bW,a4)):fZ g k B qi l w=c (rO,bW,a4):=qZ EV b
def DJ(O)(cf)(q)(d)(g)(l)(w a4)(y)(i)(x)(b:uw y)(hs:kn a4 y=c (i,x)):pU dP (.jd q d g)=fZ aRf q x i l a4:=by simp only[ID,b];simp only[ap.eO,hs]
abbrev aeo(x:sf u)(i:nq):u:=(i.au x).aaL
def UW:∀(h k v:u)(M)(O)(a)(y)(x)(acX)(bN:nq)(ba:∀n∈bN,∀z1 hY aD,aRv→aD+x n≤acX→af8 nB 94 [nQ,ye,oF] (y n) (x n) z1 M hY),∀z1 hY aD eN,aRv→aD+aeo x bN≤acX→∃bz kO r',fZ (aO6 n0 (nA (.bC (.eT pn "ask" (.s (.A 3) (nA ph))) (nA (ts (on eq (sO "mode") (.bL "R_COMPARE" rn)) (.s wA .C))) (nA (ts (on ne (sO "mode") (.bL "R_COMPARE" rn)) (nA aQC)))))) 3 B (cS bN) [px,zf,pZ,eN] z1.F=c (if bN.de y then na else aQC,[px,zf,pZ,r'],bz.F)∧hj a bz M O kO acX:=by injections h k v M O a y x acX bN;intro ba;induction bN with|C=>rw[mY z1 hY aD eN eE mo,mW (n7 A9 (Ŵ cS r.ajT BG) (eE.bx (qm (by simp[aeo]at mo))))]|s n bN ih=>intro z1 hY aD eN eE mo;(have aur:aD+(x n+aeo x bN)≤acX:=m4 mo);rw[m3 At (ba n tG _ _ aD eE (m4 (Ag [aD,acX,x n,aeo x _] (S+a8) ai (S+(a8+eK)) ai e aur))),mY bz kO br ak3 _,pI aJ (y n) (by rw[y3 br,m3 AD (ih (fun t cG=>ba t (Č cG)) _ _ _ Ġ (eE.ah ak3) (m4 (Ag [aD,acX,x n,aeo x _] (S+a8+eK) ai (S+(a8+eK)) ai e aur))),mY e2 axr r' h3 aoQ,mX A9 _ _ r' ?_ aoQ,cS,r.gI,mX (zt ?_).ah (h3.ah (by simp[aJ])),mW (pK [Ó,.K])]) (by rw[y3 br,mX (sb A9 Ġ ?_ ((eE.ah ak3).bx (m4 (Ag [aD,acX,x n,aeo x _] (S+a8) ai (S+(a8+eK)) ai e aur)))),cS,r.gI,mX (ni HG _ _ oX _ bz.F ?_).ah (by simp[aJ];rfl),mW (pK [Ó,.K])])]
def J1:∀(h k v:u)(M)(O)(a)(aF:qG)(i)(hs:q_ k r2)(h2:k≠2)(y)(x)(ba:∀n∈i,∀z1 hY aD,aRv→aD+x n≤aeo x i→af8 nB 94 [nQ,ye,oF] (y n) (x n) z1 M hY),afi (h+2) 39 pM (i.de y) (aeo x i) a M O:=by rw[mY h k v M O a,mY aF,mY i,mY hs h2,mY y x,mY ba,mX AD (UW h k v M O a y x (aeo x i) i ba a O 0 B (hj.fI aF 0) (m4 (AJ [aeo x i] (0+S) S e))) fun bz kO r' b eE=>?_,aTy eE];have agI:=GD a h k r2 hs h2;rw[pI aJ (i.de y) (by rw[pr aJ,mW (nd Mt [aSh,os b,.K])]) (by rw[pr aJ,mW (nd Mt [aSh,os b])])]
def AbG:∀(h k:u)(a:aH)(aS:pN)(i:nq)(y)(ba:∀t∈i,qM 94 (ă (.m t)) (.aO (y t))),pG 2 40 (ă (zz i)) (.aO (i.dS y)):=by rw[yb k a,mY aS];injections i y;intro ba;have bK:=Ð OI h;(have aB:∀(bN:nq)(eQ fe:pl),(∀t∈bN,t∈i)→∃asp asq,fZ (aO6 n0 (.s (sG 5 (.eT pn "mark" .C)) (nA (ts (.eT pn "ask" (.s (.A 1) (nA p6))) (.s (ts (on eq (sW (ī (sO "notes") "rows")) (rq 5)) (nA aOU)) (.s wA (.s wA .C))))))) 4 B (cS bN) [px,zf,c (zz i),c .B,eQ,fe] a.F=c (if bN.dS y then aOU else na,[px,zf,c (zz i),c .B,asp,asq],a.F):=tV bN bN (by rw[mY eQ fe _,mW ⟨eQ,fe,Ŵ cS r.ajT BG⟩]) t bN (by intro eQ fe ajC;have br:=ba t (ajC t tG);have g9:=CX (Fm (Gc a)) e;rw[pI aJ (y t) (by rw[y3 br,mX BN (nn t) (yP [nr,.m a.eM.z]) ?_,cS,r.gI,mX (ni HG _ _ pg _ a.F ?_).ah (by simp[aJ];rfl),mW (pK [aZ bK,Ó,p g9,.K,.K])]) (by rw[y3 br,Ĩ (ih (nn t) (yP [nr,.m a.eM.z]) (fun j J=>ajC j (Č J))) asp asq b,mX BN asp asq ?_,cS,r.gI,mX (ni BO _ _ _ a.F ?_).ah (b.ah (by simp[aJ])),mW (pK [aZ bK,Ó])])]));rw[Ĩ (aB i B B (fun t cG=>cG)) asp asq b,pI aJ (i.dS y) (by rw[pr aJ,mW (nd Mu [os b])]) (by rw[pr aJ,mW (nd Mu [os b,.K])])]
def R6:∀(h:u)(a:aH)(o:R)(aG:o≠2∧o≠5∧o≠14)(k v:ar),qM 23 [nQ,qw,k,v] oX:=by rw[mY h a o,mY aG,mY k v];(have d:oD (ny nT (aQ4 akO "rules" qc) [px,tE,c k,c v,B] a.F) .B:=by rw[m1 (oD (aU _ nT (sO "rules") [px,tE,c k,c v,B] a.F) (.D 13)) aQp,mY aV,m1 (oD (ny nT qc [px,nJ,c k,c v,B] _) qw) vP,mY bj,pv AC aG Q h2 h3,rc (pk ta aV)];simp[IR,arh,ED,NL (HI a),Oa (HI a),bj,E4,E5,Q.cq,h2.cq,h3.cq]);exact nd Hb [aZ d,.K]
def FK(h)(a z':aH)(o)(f ac)(k v)(y)(aG:lB o [(2,ar.D 20),(5,ar.D 21),(14,ar.D 22)]=c rY)(bK:avL f "holds"=c ac)(b:qf (bc T bo h ac [rY,nQ,k,v] a.F) rK):qf (ś 23 [nQ,qw,k,v]) rK:=by(have d:oD (ny nT (aQ4 akO "rules" qc) [px,tE,c k,c v,B] a.F) rY:=by rw[m1 (oD (aU _ nT (sO "rules") [px,tE,c k,c v,B] a.F) (.D 13)) aQp,mY aV,m1 (oD (ny nT qc [px,nJ,c k,c v,B] _) qw) vP,mY bj,rc (pk ta aV)];simp[IR,arh,ED,NL (HI a),Oa (HI a),bj,aG]);rw[m1 (f=20∧ac=98∨f=21∧ac=99∨f=22∧ac=100) (by clear d b;simp only[E4,E5]at aG;split at aG;rw[nf aG,mZ aG,mY aG,p2 aG,pi,p2 bK,pi,mW (pp zm)];split at aG;rw[nf aG,mZ aG,mY aG,p2 aG,pi,p2 bK,pi,mW (rt (pp zm))];split at aG;rw[nf aG,mZ aG,mY aG,p2 aG,pi,p2 bK,pi,mW (rt (.bF zm)),pd aG]),mY a_,mZ aG bK];rcases a_ with⟨e,e⟩|⟨e,e⟩|⟨e,e⟩;rw[mW (nd Hb [aZ d,.K,aZ b]),mW (nd Hb [aZ d,.K,aZ b]),mW (nd Hb [aZ d,.K,aZ b])]
def ZM:∀(h n g)(a)(b:abQ a n=c g),qM 50 [oW,.m n] y_:=by injections h n g a;rw[nR,Å abQ];induction U:a.dK[n]? using ap.ae with|B=>rw[pr U,aPP]|c an5=>rw[pr U,sB ap.ji ap.c.fV];(have d:aVu (.D 5) ye an5:=by rw[Cq _ 5 _ n (Dt a)];simp[U]);by_cases bf:an5<0;(have:g=1:=by rw[←b,c0 (m4 (A4 [an5] b5 0 vk 0 e bf))]);rw[mZ b,uM,mW (nd Jg [p d,sZ Cz hZ bf]),nH Q an5 0,mZ U bf];subst Q;(have:g=1:=by rw[←b,rJ c0]);rw[mZ b,uM,mW (nd Jg [p d,.K,.K]),pr (cH (m4 (X4 bf Q))),rh (nc g) an5 (b▸R.awI (R.aa6.1 bf)),mW (nd Jg [p d,sZ Cz jq bf,sZ AH acw Q])]
def Pt(h k v n g:u)(a z':aH)(y)(hs:q_ k v4)(U:abQ a n=c g)(dw:vd k)(b:qf (ś 94 [nQ,y_,oF]) rK):qf (rE 4 23 [nQ,rn,pV,oF]) rK:=by have d:qf (rE 2 51 pM) rK:=nd Mw [aV6,.K,.K,.K,aZ (ZM h n g a U),p (show f1 a.F .ne y_ pV=c pg from EJ (sh (C_ g k dw))),aZ b];exact FK (h+3) a z' 2 20 98 _ _ y e e (nd ME [.K,aZ d])
def ZH(h k:u)(v)(f)(a:aH)(hs:qr)(a_:f.AG=Y):pG 3 23 [nQ,rn,pV,v] oX:=by(have h2:f1 a.F .ne (.m f.o) ŭ=c pg:=by rw[mZ hs,y8 f a9.ae (by rw[sQ a_])]);have d:qM 51 (ă v) oX:=nd Mw [aV6,aPb,p h2];exact sk (FK _ a a 2) 98 _ e e (nd ME [.K,aZ d])
def Le(h k v:u)(a z':aH)(i)(g)(y)(hs:q_ k r2)(aS:r6)(b:qf (bc T bo h 39 pM a.F) rK):qf (ś 37 pM) rK:=m4 (nd Ja [aV6,.K,ď v aS,p (Bo a.F g),.K,aZ b])
def Km(l:a9)(b:l.ado=Y):(l.o==6)=Y:=by induction l using a9.ae<;>simp[a9.ado]at b<;>rfl
def In(h k v:u)(a z':aH)(i)(f)(y)(hs:qr)(a_:f.ado=Y)(aS:q_ v r2)(b:qf (bc T bo h 41 pM a.F) rK):qf (ś 37 pM) rK:=m4 (nd Ja [aV6,aPb,ď v aS,.K,p (AH (Km f a_)),.K,aZ b])
def Jy(l:a9):aQP gH (nE [ŭ,.m 14,.m 15,.m 16,.m 17,.m 18,.m 19]) (qP l.AG):=zR
def Cv(l:a9):aQP eq (.m 7) oX:=zR
def XI(l:a9):aQP eq (.m 13) oX:=zR
def XH(l:a9):aQP gH (nE [.m 11,.m 12]) oX:=zR
def Aay(a:aH)(h)(f g:a9):qM 38 [.m f.o,.m g.o] (pe (if f.AG||g.AG then 2 else 5)):=by rw[m2 (Jy f),mY aq2,m2 (Jy g),mY aie];generalize f.AG=j at aq2⊢;generalize g.AG=ab at aie⊢;rw[rs j (by rw[oq Jb [aQ6,qa Cv g,p aq2]]) (by rw[rs ab (by rw[oq Jb [aQ6,qa Cv g,p aq2,p aie]]) (by rw[oq Jb [aQ6,qa Cv g,p aq2,p aie,qa XI f,qa XH f]])])]
def Im(h k v:u)(a z':aH)(f g)(y)(hs:qr)(a_:f.ado=Y)(aS:r6)(U:g.ado=Y)(b:qf (ś 23 [nQ,pe (if f.AG||g.AG then 2 else 5),pV,oF]) rK):qf (rE 2 37 pM) rK:=by have br:=Aay a h f g;generalize(if f.AG||g.AG then nc 2 else 5)=o at b br;exact nd Ja [aV6,aPb,ď v aS,p (Bo a.F g),p (AH (Km f a_)),p (AH (Km g U)),Ó,aZ b]
def OL(k:u)(i):(ar.m (nc k)∈cS i)↔k∈i:=by simp only[cS,r.fq,ar.m.fV];constructor;rw[mY J,sE,ng];rintro f a_ d;rw[m1 (f=k) n_,m5,mW (aa▸a_),nR,mW ⟨k,b,e⟩]
def Rx(h)(i):ar.kP h (cS i)=G:=vv (by dsimp only[cS,r.gI,Eq,Er,IF,IG,IH,II,IJ,IK,IL,IM,IN,N.ace];exact ih)
def PZ(l:a9):aQP gH (nE [.m 8,.m 9]) (qP l.iF):=zR
def Xx(l:a9):aQP eq (.m 12) oX:=zR
def Iq:∀(h k v:u)(a z':aH)(aS:pN)(f)(i)(hs:qr)(api:q_ v r2)(h2:v≠2)(jt:rG i.z)(y)(V)(ba:∀t∈i,qM 94 (ă (.m t)) (.aO (y t)))(aCY:(aUD||i.dS y)=Y→f.AG=G→qf (rE 2 23 [nQ,rn,pV,oF]) (qP V))(hz:(aUD||i.dS y)=G∨f.AG=Y→z'=a)(mJ:f.ado=Y),qf (rE 3 41 pM) (n5 (aUD||i.dS y||(f.AG&&V))):=by injections h k v a z';intro aS;injections f i;intro hs api h2 jt;injections y V;intro ba aCY hz mJ;have agI:=GD a nB v r2 api h2;have adm:=AbG h k a aS i y ba;rw[m1 (rH cS i≤1048576) (aSf cS r.hN (Ag [i.z] S 1048576 nm 1000 e jt)),mY eb,m1 (jT a.F pV (zz i)=c aUD) (by simp only[jT,IF,IG,IH,II,IJ,IK,IL,IM,IN,ja,Rx,du,eb,aGY,N.aen,fU,OL]),mY il];have ad0:=CT il;have gr:=sP k f hs;have agG:=Jy f;have fG:=PZ f;rw[pI bK (aUD||i.dS y) (by rw[aOq hz bK];(rw[pI iQ aUD (by rw[iQ]at ad0;exact nd FM [aSh,aSe]) (by rw[iQ]at ad0;rw[iQ,N.ags]at bK;rw[bK]at adm;exact nd FM [aSh,aSe,aZ adm])])) (by rw[ot (N.aKD.1 bK) iQ ik];rw[ik]at adm;rw[iQ]at ad0;rw[pI acB f.AG (by rw[acB]at agG;exact nd FM [aSh,aSe,aZ adm,re,aPb,p agG,aZ (aCY bK acB)]) (by rw[acB]at agG;rw[Ê hz acB,pI alj f.iF (by rw[alj]at fG;exact nd FM [aSh,aSe,aZ adm,re,aPb,p agG,aQ6,aQ6,p fG,aZ (R6 nB a 6 nw pV oF)]) (by rw[alj]at fG;exact nd FM [aSh,aSe,aZ adm,re,aPb,p agG,aQ6,aQ6,p fG,qa Xx f])])])]
def KI{q o}(b:è)(aG:u.akF o 16=G):sU o:=u.alE (u.k0 (u.afQ aG) b)
def hm.ge{q}{l}{g}(n:zT):q≠1∧sU 10∧l.abA=Y∧l.acI=G∧l.AG=Y∧l.ado=Y:=by cases n with|f _ b|g _ b|a _ b|d _ b=>exact(Na (KI b e) (KI b e) e e e e)|_=>exact(Na nw nw e e e e)
abbrev aDi:sf a9|aSt=>6|aSu=>7|aUG=>4|q8 "null"=>5|m7 .aO=>9|_=>16
abbrev av4:oB:=[aUG,q8 "null",aSt,aSu,.aO 1 0,aUz,og "b",.mN,rx]
abbrev aE8(f g:a9):R:=ov f aUG 0 (ov f.jE (aDi g) 1 (ov f rx (ov g aUz 1 0) 0))
def AcI:(av4.de fun f=>av4.de fun g=>(f==g)||(sH aE8==t_ (an7 f|||an7 g==an7 g) 1))=G:=ĕ
def hm.NX{q:u}{l:a9}{g:u}(n:zT):l∈av4:=r.akI.mp (by cases n<;>rfl)
def hm.We{q:u}{l:a9}{g:u}(n:zT):(q=4)=(l=aUG):=by cases n with|un=>exact apV (iff_of_true e e)|f _ b|g _ b|a _ b|d _ b=>exact apV (avs (KI b e) nofun)|_=>exact apV (avs nw nw)
def Vd{V:R}{v:u}(eh:V=6∨V=7∨V=-1)(b:xe v):(V=nc v)=(V=ob 16):=apV (m4 (X5 eh b))
def hm.Wi{q:u}{l:a9}{g:u}(n:zT){V:R}(eh:V=6∨V=7∨V=-1):(V=nc q)=(V=nc (aDi l)):=by cases n with|f _ b|g _ b|a _ b|d _ b=>exact Vd eh b|_=>rfl
def AcS(l:a9):l.jE=6∨l.jE=7∨l.jE=-1:=by induction l using a9.ae with|bi|jc=>exact qN|mN=>exact rt qN|_=>exact rt yp
def Pw(k v:u)(f g:a9)(bq lc:u)(n:hm k f bq)(t:hm v g lc)(abV:f≠g):ae4 k v f g=t_ (bq|||lc==lc) 1:=by rw[m2 (r.hp.mp (r.hp.mp AcI f n.NX) g t.NX),nR,sB (acw abV) N.ags,n.agk,t.agk,←lb.mp b];simp only[ae4,aE8,n.We,t.Wi (AcS f)]
def I0:∀(a:aH)(M:pu)(O:q4)(aF:qG)(h k v bq lc:u)(n:zi k bq)(t:zi v lc),pG 6 94 pM (n5 (bq|||lc==lc)):=by rw[vj M O,mY aF];injections h k v bq lc;rw[mY n t,nH cU k v];subst cU;rw[n.fn t,show(lc|||lc==lc)=G by simp,mW FG a wI k,p4 n,mZ n];rintro f a_ n;rw[p4 t,mZ t];rintro g U t;(have abV:f≠g:=by rw[p0,p1,oT,mW cU (Fe aF a_ U)]);have Q:=n.ge;have h2:=t.ge;rw[m3 (G_ a h k v f g cU a_ U n.ok.2 t.ok.2 n.ok.1 t.ok.1 (by rw[mZ a_ n U t Q h2,mY J,nV,ng,oc e,mW abV e])) _];simp only[kJ,acW,Q.1,h2.1,abv,oj Q,oj h2,ou Q,ou h2,nj h2,N.or_self,N.aev,fU];rw[aSv,mW Pw k v f g bq lc n t abV]
abbrev aeW:nq→nq→tK|q::i,g::bq=>pf q g 0 0::aVN|_,_=>[]
def DC:∀q i g bq,aeW (q::i) (g::bq)=pf q g 0 0::aVN:=fun ψ ψ ψ ψ=>e
def DD:∀i,aeW [] i=[]:=te (aT4 i)
def DE:∀i,aeW i []=[]:=te (aT4 i)
abbrev ab4(bq lc:nq):N:=bq.de fun g=>lc.dS fun bZ=>Ā
def Abu{ao}{i bq}(n:zK):i.z=qp aeW i bq:=by induction n with|C=>rfl|s q g i bq _ _ ih=>simp[DC,DD,DE,ih]
def Abs{a}{i bq}(n:kb a.ak i bq):∀(aq f:u)(k),p7 i f→p7 aVN k→uu f:=by induction n with|C=>rw[mY aq f k b,Ē]|s q g i bq n _ ih=>rw[mY aq f k Q h2,uL aq (by simp only[DC,DD,DE,r.aoJ,ap.c.fV]at Q h2;subst Q;subst h2;exact .i9 q g n) aq (by simp only[DC,DD,DE,r.agv]at Q h2;exact ih aq f k Q h2)]
def Abt(i bq):∀k∈aVN,aUv:=by induction i generalizing bq with|C=>intro k b;simp[DC,DD,DE]at b|s q i ih=>rw[oS bq (by intro k b;simp[DC,DD,DE]at b) g bq (by rw[mY k b,nt (r.gA.1 b),n8,m9,oe,m8];rfl;exact ih _ k b)]
inductive ac1:u→nq→nq→bv→Prop|gB(o g:u):ac1 o ub [g] (pf o g 0 0)|jh(o:u)(i bq:nq):ac1 o i bq (.un aVN)
def hH.A'{a}{o}{i bq}(n:À a.ak o):∃k,uu o∧ac1 o i bq k∧(aUv→t6 ie o (iT bq))∧(k.jg=G→q_ o r2):=by cases n with|gB g n=>exact(Nb _ (.i9 o g n) (.gB o g) (nO (by simpa[iT]using n)) (oE (by simp[bv.jg]at b)))|jh _ _ d iy Q h2 n=>exact(Nb _ (.un o i _ d iy Q n_ (Abu n) (Abs n) (Abt i _)) (.jh o i _) (oE (by simp[bv.jg]at b)) (nO d))
def hH.B_{ao}{o}{i bq}(n:aVo):zK:=by cases n with|gB g n=>exact ni .s n .C|jh _ _ _ _ _ _ n=>exact n
def hH.c9{ao}{o}{i bq}(n:aVo):wr 3:=by cases n with|gB=>rw[qz]|jh _ _ _ _ _ b=>exact b
def Ll(q g o bZ):hb (pf q g 0 0) (pf o bZ 0 0)=Ā:=Ū BA BB BC gX
def LX{ao}{i bq}(n:zK)(q g):(aVN).dS (hb (pf q g 0 0))=bq.dS fun bZ=>Ā:=by induction n with|C=>rfl|s aq x i bq _ _ ih=>simp only[DC,DD,DE,r.akC,Ll,ih]
def LR{ao}{i bq}(n:zK)(ac)(K)(b:∀q g,ac (pf q g 0 0)=K g):(aVN).de ac=bq.de K:=by induction n with|C=>rfl|s aq x i bq _ _ ih=>simp only[DC,DD,DE,r.aem,b,ih]
def ac1.Ap:∀{ao}{o aax}{i bq l' g7}{k s'}(n:ac1 o i bq k)(t:ac1 aax l' g7 s')(ba:zK)(cG:kb ao l' g7),el k s'=ab4 bq g7:=by injections ao o aax i bq l' g7 k s';intro n t ba cG;cases n with|gB g=>(cases t with|gB bZ=>simp[el,Ll,ab4]|jh=>simp[el,A6,A7,A8,LX cG,ab4])|jh=>cases t with|gB bZ=>simp only[el,BA,BB,BC,Is,ab4];rw[LR ba _ (fun g=>Ā) (fun q g=>Ll ..)];simp|jh=>simp only[el,A6,A7,A8,GU,ab4];rw[LR ba _ (fun g=>g7.dS fun bZ=>Ā) (fun q g=>yg A6 (LX cG q g))]
abbrev aFk(a:aH)(O:q4)(H:u):Prop:=∀o∈O,aml a o∨∃sa bh,ty o.1 sa∧ty o.2 bh∧H≤bv.ha sa bh
structure j'(a:aH)(M:pu)(O:q4)(H x:u):Prop where
 aF:qG
 ne:qe O
 ajg:aFk a O (H+1)
 cc:aQM x
 rw:aSY (4*x)
 eo:a.e4+H<60
 ig:x<3980
def j'.AL:∀{a}{M}{O}{H x m' c' k v}{a7 st}(K:j' a M O H x)(vs:tv)(dj:xP)(bK:H=aQB)(ajC:m'<H)(hc:c'+1≤x)(b:o1∉O),j' uz M yA m' c':=by rw[mY a M O H x m' c' k v a7 st,mY K vs dj bK ajC hc b,mW ({aF:=K.aF.AL _ b,ne:=ra,ajg:=by have b7:ö (j4.AL a O o1):=tW;rw[mY o aG,nt (r.aeP.1 aG)];rintro aG;rw[m9];rintro aG;rw[m8,nt (K.ajg o aG),oe,m9,mY J,vX,ng];rintro sa bh gd fJ b;rw[m8,mW aQ.bT (b.bx b7),mW (aOB (Au sa bh aSz aSA) (m4 (t5 [H,m',sa.ha bh] ai a8 nN S (S+1) a8 e ajC b)))];rw[ŵ aG]at⊢;exact aOB (Au a7 st aUJ aUK) (m4 (aQO (aV7 [H,a7.ha st,m']) (Az bK) ajC)),cc:=by rw[m2 K.cc,m5,m6 (vR+nc c'<20000),mW (oa A5 [↑c',↑x,a.c2] (gY+1+b5) 20000 b5 d5 (gY+d5+1) 20000 e (Bb hc) aa)],rw:=by rw[m2 K.rw,m5,m6 (aSY (4*c')),mW (t5 [c',x,a.ak.z] (rg a8 4) 900000 (vc 4) (xr 4) (ro a8 4+1) 900000 e (AM 4 hc) aa)],eo:=by rw[m2 K.eo,m5,m6 (a.e4+1+nc m'<60),mW (oa A5 [↑H,↑m',a.e4] (gY+1+d5) 60 d5 b5 (gY+b5+1) 60 e (Bb ajC) aa)],ig:=q7 K.ig (t5 [c',x] S 3980 nm ai (ai+1) 3980 e hc aa)})]
def j'.CE:∀{a z1}{M}{O hY}{H x aD m' c'}(K:j' a M O H x)(l:aRv)(bK:m'≤H)(hc:aD+c'≤x),j' z1 M hY m' c':=by rw[mY a z1 M O hY H x aD m' c',mY K l bK hc,m2 l.le,mY b7,m3 ET l,n2];rintro ao ks cc cj e e h3 h4 h5 h6 h7 h8;exact{aF:=h3,ne:=rA K.ne,ajg:=by rw[mY o aG,nt (r.aeP.1 aG)];rintro aG;rw[m9];rintro aG;rw[m8,nt (K.ajg o aG),oe,m9,mY J,vX,ng];rintro sa bh gd fJ b;rw[m8,mW aQ.bT (b.bx b7),mW (aOB (Au sa bh aSz aSA) (m4 (Am [m',H,sa.ha bh] (S+1) a8 S ai (ai+1) a8 e bK b))),mW aQ.bT (h5 o aG)],cc:=by rw[m2 K.cc,m5,m6 (a.c2+nc cc+nc c'<20000),mW E0 [↑aD,↑c',↑x,↑cc,a.c2] (aqD+acq+d5+1) 20000 zC gY acq b5 (aqD+gY+1) 20000 e (Bb hc) (Bb h7) aa],rw:=by rw[m2 K.rw,m5,m6 (ao.z+4*c'<900000),mW Bu [aD,c',x,ao.z,a.ak.z] (ro eK 4+1) 900000 (tz 4 (S+ai)) (qQ 4 a8) eK (rg ahk 4) (sn ahk 4 a8+1) 900000 e (AM 4 hc) h8 aa],eo:=by rw[m2 K.eo,m5,m6 (a.e4+nc m'<60),mW A5 [↑m',↑H,a.e4] (gY+b5+1) 60 b5 d5 (gY+d5+1) 60 e (Bb bK) aa],ig:=q7 K.ig (t5 [aD,c',x] ai 3980 (S+ai) a8 (a8+1) 3980 e hc aa)}
def j'.mem{a}{M}{O}{x k v}{a7 st}(K:j' a M O aQB x)(vs:tv)(dj:xP)(b:o1∈O):el a7 st=G:=by rw[nt (K.ajg _ b),mY J,vX,ng];rintro sa bh gd fJ d;rw[m9,mY J,vX,ng];rintro sa bh gd fJ d;rw[m8,←gd.fn vs,←fJ.fn dj,mW d];simp only[gd.fn vs,fJ.fn dj]at d;exact BZ (Ag [a7.ha st] 1 0 nm S e d)
def G9:∀(a)(h k v x)(M)(O)(a7 st)(K:j' a M O aQB (x+1))(vs:tv)(dj:xP)(f g)(cU:Ŏ)(a_:qr)(U:r6)(b:vw=-1)(adl:o1∉O→abh→afi (h+3) 37 pM u4 x uz M yA),af8 (h+6) 94 pM u4 (x+1) a M O:=by injections a h k v x M O a7 st;rw[mY K vs dj,mY f g,mY cU a_ U b adl,m2 K.cc,mY js,m2 K.eo,mY auM,m2 K.ig,mY afB,m3 At (WD a (h+2) k v x M O K.aF K.ne a7 st vs dj (K.mem vs dj) (m4 (X6 js)) n_ (m4 (oa A5 [a.e4,↑(a7.ha _)] b5 60 zC 60 0 d5 e auM vV)) (fun P cu=>adl cu jC))];rintro z' kt Q h2 h3;rw[m3 AF vs.gs];rintro dE gj fa jU;rw[m3 AF dj.gs];rintro bZ dL ly cR;rw[a_]at gj;rw[U]at dL;rw[nf gj,mZ gj,mY gj];subst gj;rw[nf dL,mZ dL,mY dL];subst dL;rw[mX Au _ _ (G8 a _ h k v f g cU a_ U fa ly jU cR ?_ _ b Q) h2 h3,mZ b fa ly,mY J,nV,ng,oc e,mW cU (Fe K.aF a_ U)]
def af8.bx:∀{ac q}{ec}{y}{x c'}{a}{M}{O}(b:af8 ac q ec y x a M O)(hc:x≤c'),af8 ac q ec y c' a M O:=by rw[mY ac q ec y x c' a M O,mY b hc,mX At b fun z' kt Q h2 h3=>?_,mW Au _ _ Q (h2.bx hc) h3]
def Ik(k v)(f g)(Q:ë)(h2:ê)(b:(f.abA||g.abA)=G):vw=-1:=by simp only[kJ,acW,Q,h2,abv];rw[aSv];simp only[b,fU]
def ac1.ha{o}{i bq}{k}(n:ac1 o i bq k)(ao)(b:zK):k.An≤1:=by rw[m1 (∀i bq,zK→bv.fz (aeW i bq)=0) (by intro i bq b;induction b with|C=>rfl|s q g i bq _ _ ih=>simp[DC,DD,DE,G4,G5,Ci,Cj,Ck,ih]),m5];cases n with|gB=>rw[qz]|jh=>simp[Ci,Cj,Ck,nv aa b]
def ac1.Bf{o}{i bq}{k}(n:ac1 o i bq k):k.Bf≤1:=by cases n<;>simp[Ex,Ey,Ez]
def LV{ao}{i bq}(n:zK)(g)(y)(b:∀q bZ,ie ao q bZ→y q=Ā):i.dS y=bq.dS fun bZ=>Ā:=by induction n with|C=>rfl|s q bZ i bq n _ ih=>simp only[r.akC,b q bZ n,ih]
def Rb{ao}{i bq}(n:zK)(y)(K)(b:∀q g,aNY q→y q=K g):i.de y=bq.de K:=by induction n with|C=>rfl|s q bZ i bq n _ ih=>simp only[r.aem,b q bZ n,ih]
def kb.mem{ao}{i bq}(n:zK){q}(b:q∈i):∃g,aNY q:=by induction n with|C=>cases b|s aq g i bq n _ ih=>rw[aSq,n8,m9,oe,m8,mW ⟨g,n⟩,mW Ű]
abbrev Bi(ao:oB)(q:u):u:=match rS ao with|c l=>an7 l|B=>0
def ie.Bi{ao}{q g}(n:aNY q):j4.Bi ao q=g:=by rw[oz n l d n];unfold j4.Bi;rw[d,mW n.agk.cq]
def L7:∀(a)(h k v g)(i bq)(M)(O)(st)(n:zi k g)(t:À a.ak v)(dj:xP)(pt:ac1 v i bq st)(K:j' a M O (bv.ha (pf k g 0 0) st) 1),af8 (h+12) 94 pM (bq.dS fun bZ=>Ā) 1 a M O:=by injections a h k v g i bq M O st;rw[mY n t dj pt K,m1 (ty k _) (.i9 k g n),mY vs,m2 t,mY hk];cases t with|gB bZ t=>exact(Au a O (o7 (I0 a M O K.aF (h+6) k v g bZ n t)) aVm (nO e))|jh _ _ d iy dw b7 t=>have i4:=(ac1.gB k g).Ap pt (ni .s n .C) t;have ba:=n;rw[p4 n,mZ n];rintro f a_ cw;have abX:=cw.ge;rw[m1 Ŏ (by rw[mZ dj pt hk iy,n8,ä,mZ a_ abX,nf d,aRr cw.Gv]),mY cU];(have aCK:ab4 [g] bq=bq.dS fun bZ=>Ā:=rA ab4);rw[←aCK,←i4,mX G9 a _ k v 0 M O _ _ K vs dj f _ cU a_ d (Ik k v f _ abX.1 (vD qU 1 iy) (N.ahR _)) ?_,mY cu _];have ke:=K.aF.AL o1 cu;rw[aTy (hj.fI ke 0)];have l3:=Iq (h+5) k v uz uz ke.aS f i a_ d (vD qU 2 iy) n_ (fun q=>g|||t6 Bi q==t6 Bi q) Y (fun er amZ=>by rw[m3 Al (t.mem amZ)];rintro bZ dL;rw[m2 (I0 _ M _ ke h k _ g _ ba dL),m5,dL.Bi,mW aa]) (fun P b=>by rw[pr (qk abX).1,aUd BD]) (nO e) (qk abX).2;rw[m1 ((aUD||i.dS (fun q=>g|||Bi _ q==Bi _ q)||(f.AG&&Y))=m7 el) (by rw[i4,aCK,N.an3,N.apQ,LV t g _ (fun q bZ b=>Ĕ b.Bi)];by_cases bK:k∈i;(have:(bq.dS fun bZ=>Ā)=G:=by rw[←LV t g (fun q=>g|||Bi _ q==Bi _ q) (fun q bZ b=>Ĕ b.Bi)];rw[r.gZ,mW Ad k bK (aNF ba.Bi)]);simp[aa];simp[bK]),mY i5];rw[i5]at l3;exact In _ k v _ _ i f _ a_ (qk abX).2 d l3
def WT(bq):ab4 bq bq=G:=by simp only[ab4,r.hp,r.gZ];rw[mY g U,mW ⟨g,U,ra⟩]
def MR(i):aeo (nO 1) i=i.z:=vv (by dsimp only[aeo,r.gI,r.ans,r.kZ]at*;exact Br [(r.au (nO 1) i).aaL,i.z] (1+S) nN S ai e ih)
def RD:∀(a)(h k v)(i bq l' g7)(M)(O)(a7 st)(n:À a.ak k)(t:hH a.ak v l' g7)(vs:tv)(bN:ac1 k i bq a7)(dj:xP)(pt:ac1 v l' g7 st)(K:j' a M O aQB 4),af8 (h+17) 94 pM (ab4 bq g7) 4 a M O:=by injections a h k v i bq l' g7 M O a7 st;rw[mY n t vs bN dj pt K,nH cU k v,mZ pt,mZ dj];subst cU;rw[m3 Ai (n.fn t),mZ t,oc e,WT,mW Au a O (FG a (h+15) k) aVm (oE (by rw[aUd GR]))];cases n with|gB g n=>clear cU;(cases bN with|gB=>rw[m2 (L7 a (h+5) k v g l' g7 M O st n t dj pt (rJ (K.CE (hj.fI K.aF 0) yk))),m5,m1 (ab4 [g] g7=g7.dS fun bZ=>Ā) (rA ab4),mY d,d,mW (rJ aa.bx)]|jh=>rw[mZ K,p4 n,mZ n,mY l d n];cases vs with|un _ _ _ a5=>rw[aWi,zS n.Gv.az])|jh _ _ d iy dw b7 n=>clear dw;cases bN with|gB g=>rw[mZ cU,mZ iy b7 n K];(cases vs with|i9 _ _ cw=>rw[p4 cw,mZ cw,mY l a5 cw,rl d,yW,zS cw.Gv.az]|D _ _ _ _ _ a5=>rw[rl d,yW,yR,mY a5];injection a5|bI _ _ _ _ _ _ _ a5=>rw[rl d,yW,yR,mY a5];injection a5)|jh=>have i4:=(ac1.jh k i bq).Ap pt n t.B_;rw[←i4,mX AF dj.gs fun df aas ly cR=>?_,m1 ê (by rw[mZ pt i4,mZ dj cU aas cR,n8];cases t with|gB bZ t=>rw[p4 t,p1,mY l a5 t,m2 t.ge,m5,mW aa.1 e]|jh _ _ _ b=>exact u.i8 _ (Ag [] 1 0 16 1 e b)),mY aa1,mX (nM (G9 a _ k v i.z M O _ _ (K.CE (hj.fI K.aF 0) yk (m4 (Ag [i.z] (0+nm) 4 S 3 e b7))) vs dj) cU d aas (Ik k v _ _ (vD [k] 1 iy) aa1 (by rfl)) ?_).bx n_,mY cu _,m2 (K.aF.AL _ cu),mY ke,m1 (bv.ha (qs _) _=2*(bv.fz (aeW i bq)+1)+st.Bf) uJ,mY g_,m1 (j' _ M _ st.Bf 3) (K.AL vs dj e (nb g_ (AJ [vo,st.Bf] nN (vc 2+ai) e)) n_ cu),mY A1,m1 (ö uz) tW,mY ad4,mX AR (J1 (h+11) k v M yA uz ke i d (vD [k] 2 iy) (fun q=>g7.dS fun bZ=>t6 Bi q|||bZ==bZ) (nO 1) (by intro cw dg z1 hY aD eE mo;rw[MR]at mo;rw[m3 Al (n.mem dg),mY bZ dL];have mK:=ad4.ah eE.le;rw[m2 (dL.bx mK.ak),mY aoT,m2 (nI (A1.CE eE) m' (bv.ha (pf cw bZ 0 0) st) c' 1 (Ū bv.ha Ci Cj Ck) n_),mY BR,m2 (nM (n7 (L7 _ h _ v) M) aoT (t.bx mK.ak) (dj.bx mK) pt BR),m5,dL.Bi,mW aa])) fun bz kO Q h2=>?_,m1 ((i.de fun q=>g7.dS fun bZ=>t6 Bi q|||bZ==bZ)=m7 el) (tL i4 ab4 (Rb n _ _ (fun q g b=>Ĕ b.Bi))),mY i5];rw[i5]at Q;simp only[MR]at h2;exact(sb AI (sk (Le _ k v _) i d aas Q) h2)
def Q8(f h aj)(b:aj<h):nX (agd f h) aj (wk (f+aj)):=by induction h generalizing f aj with|hf=>exact BZ (Ag [aj] 1 0 nm 0 e b)|gk h ih=>rw[uL aj (by rfl) aj (by simp only[LL,LM,r.agv];rw[rJ (ih _ aj)];congr 2;exact BI [aj,f] (nN+S) aOZ e)]
def T1(o)(i)(aj):(ii o i)[aj]?=ow i[aj]? a0 (jM (o+aj) a0.cA "C" a0.bD a0.mi):=by induction i generalizing o aj with|C=>rfl|s a0 i ih=>rw[uL aj (by rfl) aj (by simp only[Hp,Hq,r.agv];rw[ih pY aj,uh];funext a0;rw[uh,mW BI (rV aj) zr tS e])]
def EZ(a:aH)(aj)(a0)(b:ŀ):qh w9 (jM (2+aj) a0.cA "C" a0.bD a0.mi):=by rw[aUf hd,aPY,r.agx (by unfold aH.gl;split;rw[mW XU,mW XV hd (by assumption)]),r.abO,r.aih (qm (by simp only[Bs])),Bs,r.jP (by simp only[Ca];exact aWd [aj,a.ds.z,w9-26] ai (a8+26) zg e hd (q2 Az (AJ [aj,a.ds.z,w9-26] 26 zg e)))];simp only[rh (w9-26) aj (q2 (Br [aj,w9-26] ai S (ai+26) zg e) (AJ [aj,w9-26] 26 zg e)),T1,b];rfl
def D5(a:aH)(aj:u)(a0)(b:ŀ):pE a.F (.D 4) (aQh aj)=c zk:=by rw[aU3 (nc aj+2) (ob ģ),aUf hd,sk Cq 4 (CW a)];simp only[aH.l0,r.agv];exact nM Q8 aj hd
def M3(a:aH)(aj)(a0)(b:ŀ):rm (w_ zk "body") a0.bD:=p5 Ba 1 _ _ (aRz EZ b) e e
def Jw(a:aH)(aj)(a0)(b:ŀ):w_ zk "bases"=c (zz a0.mi):=p5 Ba 1 _ _ (aRz EZ b) e e
def M5(a:aH)(aj)(a0)(b:ŀ):rm (w_ zk "kind") a0.cA:=p5 Ba 1 _ _ (aRz EZ b) e e
def T3(a:aH)(aj)(a0)(b:ŀ):w_ zk "variances"=c wM:=p5 Ba 1 _ _ (aRz EZ b) e e
inductive hn(a:aH):u→u→o4→o4→Prop|lP(k:u)(f:a9):qr→f.acI=G→q_ 11 (.D B B)→hn a k 11 B B|D(k:u)(n t:o4):q_ k vE→hn a k k n t|bI(k aj:u)(a0:lr)(n t:o4):q_ k (z5 ģ)→ŀ→aUF→q_ a0.bD vE→hn a k a0.bD n t
def hn.gs:∀{a}{k di}{n t}(b:u5),q_ di vE:=by injections a k di n t;rw[nR];cases b with|lP _ _ _ b=>exact b|D _ _ b=>exact b|bI _ _ _ _ _ _ _ b=>exact b
def Or{l:a9}(b:l.acI=G):(l.o==nc 8)=Y∧(l.o==nc 13)=Y:=by induction l using a9.ae<;>first|exact zm|rw[xG]
def H7(k:u):b1 (nc k<0)=Y:=jq (R.aa6.2 (R.ab8 k))
def ZR:∀(a)(h k di)(n t)(b:u5),qM 17 [oW,pV] (.m di):=by injections a h k di n t;rw[nR];cases b with|lP f hs a_ aB2=>have d:=ą k f hs;have Aw:=aPb;exact nd I_ [vh,sZ Cz H7 k,d,Aw,rN (Or a_).1,Aw,rN (Or a_).2,Aw,sZ (E_ f [1,2,3,4,5]) (pX J9 f) a_]|D _ _ hs=>have d:=aV6;exact nd I_ [vh,sZ Cz H7 k,d,.K,.K]|bI aj a0 _ _ hs hd U br=>have d:=aV6;have afp:=p (aRz D5 hd);have g:=U▸aRz Jw hd;have t0:ui iH ps=c Y:=e;exact nd I_ [vh,sZ Cz H7 k,d,.K,.K,.K,.K,.K,.K,.K,.K,.K,aQ3,.K,afp,p g,aQ3,.K,afp,p (aRz M3 hd),sZ Cz H7 a0.bD,ď _ br,.K,.K]
def C5(a)(h k di)(n t)(b:u5):pG 2 92 [tJ,pV] (.m di):=nd SJ [aZ (ZR a h k di n t b)]
abbrev apU(cE:ea):o4→ar|B=>.B|zl o=>aTp aON
abbrev alR(cE:N)(n t:o4):o4:=if cE then t else n
abbrev lL(cE:N):ea:=if cE then"q"else"p"
def aHk(a:aH)(h)(n t)(cE):qM 19 [zO,aWb] (apU (lL cE) aWe):=by rw[tm n (by(rw[tm t (by rw[aOm cE (nd FL [.K,vh])]) g (by rw[aOm cE (nd FL [.K,vh,.K,.K])])])) f (by rw[tm t (by rw[aOm cE (nd FL [.K,vh,.K,.K])]) g (by rw[u9 cE (by rw[oq FL [.K,vh,.K,.K]]) (by rw[oq FL [.K,vh,.K,.K,.K,.K]])])])]
def hn.at{a}{k di}{n t}(b:u5):∃f,qr∧(f.o==nc 11)=Y∧(f.o==nc 12)=Y:=by cases b with|lP f Q a_ _=>clear a_;induction f using a9.ae<;>(exact(AP _ Q e e))|D _ _ Q=>exact(AP _ Q e e)|bI aj a0 _ _ Q=>exact(AP _ Q e e)
def Py:∀(a)(h k di)(n t)(b:u5)(cE),pG 3 20 [tJ,pV,aWb] (apU (lL cE) aWe):=by injections a h k di n t;intro b;injections cE;refine AF b.at fun f a_ j6 hM=>?_;have Aw:=aPb;have b2:=aHk a nB n t cE;have hs:=aZ (C5 a h k di n t b);have br:=ď di b.gs;induction aJ:aWe using ap.ae with|B=>rw[oq Mp [aZ (F_ a nB pV),ą k f a_,Aw,rN j6,Aw,rN hM,hs,br,aZ (aJ▸b2),.K]]|c g=>rw[oq Mp [aZ (F_ a nB pV),ą k f a_,Aw,rN j6,Aw,rN hM,hs,br,aZ (aJ▸b2),.K,.K,aZ (F_ a nB (.m g.1)),.K,.K]]
def K3(a:aH)(h)(cE)(o:u)(p):qM 59 [aTp aON] oX:=by rw[aOm p (nd Sn [.K,.K,.K,.K])]
def Xf(a:aH)(h k:u)(cE aKs)(o aax:u)(p o'):pG 2 64 [nQ,pV,aTp aON,nE [og aKs,.m aax,aeR o',nr]] (n5 (! p||o')):=by have t0:ui iH nr=c Y:=e;rw[m2 (K3 a h cE o p),mY l,u9 p (by rw[aOm o' (nd MA [.K,.K,.K,.K,.K,aQ3,aQ3,.K,aZ l,.K,.K,.K,.K])]) (by rw[aOm o' (nd MA [.K,.K,.K,.K,.K,aQ3,aQ3,.K,aZ l,.K,.K,.K,.K,.K,.K,.K])])]
def AcX(a:aH)(h:u)(f g:ar):pG 2 30 [nQ,f,g] .B:=nd Sf [aZ (Qa a h)]
def AbF(a:aH)(h)(f g):pG 3 31 [nQ,f,g,oX,oX] .B:=nd Sg [aZ (AcX a h f g)]
def CD(i)(q):(iT i).ln q=i.dS fun g=>g.ln q:=qb i (by simp[iT]) f i (by rw[m1 (iT (f::i)=f|||iT i) e,m5];simp only[aa,u.anv,ih,r.akC])
def Ih(i:oB)(j:a9)(q:u)(l:a9)(b:op i l):op (eL i j) l:=by unfold eL;split;rw[mW b,aUf Ab,r.jP Ab,mW b]
set_option tactic.hygienic true in
def Z5(i:oB)(j:a9)(b:i.fF):(eL i j).fF:=by unfold eL;split;exact b;rename_i J;rw[r.anl,mW AE b (rW r.l6.2 r.aaE r.ahO) (fun f a_ g U=>by rw[ŵ U,p0,mW J (d▸a_)])]
def Z4(i:oB)(j:a9):qp eL i j≤i.z+1∧wr (qp eL i j):=by unfold eL;split<;>simp
set_option tactic.hygienic true in
def N1(K)(o j):j∈fN K o↔j∈K∨j=o:=by unfold fN;split;rename_i b;constructor;exact aQ.bT;rintro(h'|e);rw[mW h',mW b];simp
set_option tactic.hygienic true in
def Vs(K)(o)(b:K.fF):(fN K o).fF:=by unfold fN;split;exact b;rename_i J;rw[r.anl,mW AE b (rW r.l6.2 r.aaE r.ahO) (fun f a_ g U=>by rw[ŵ U,p0,mW J (d▸a_)])]
def UR(bN K:nq)(j):j∈bN.mI fN K↔j∈K∨j∈bN:=by induction bN generalizing K with|C=>simp|s f bN ih=>rw[r.auk,ih,N1,r.gA];constructor;rintro((b|b)|b);rw[mW Î,mW (aSB aQ.bT),mW (aSB aQ.bF)];rintro(b|b|b);rw[mW (pQ aQ.bT aQ.bT),mW (pQ aQ.bT aQ.bF),mW aUp]
def US(bN K:nq)(b:K.fF):(bN.mI fN K).fF:=by induction bN generalizing K with|C=>exact b|s f bN ih=>exact ih _ (Vs K f b)
def Gd(ao)(a' K)(j):j∈fj ao K a'↔j∈K∨∃v∈a',j∈kl ao v:=by induction a' generalizing K with|C=>simp[fj]|s v a' ih=>have:fj ao K (v::a')=fj ao ((kl ao v).mI fN K) a':=e;rw[aa,ih,UR]at⊢;constructor;rintro((b|b)|⟨iu,Q,h2⟩);rw[mW Î,mW aQ.bF (Ad v tG b),mW aQ.bF (Ad iu (Č Q) h2)];rintro(b|⟨iu,Q,h2⟩);rw[mW (pQ aQ.bT aQ.bT),nt (r.gA.1 Q),n8,m9];rintro Q;rw[m8,mW (Ê aQ.bT h2),mW aQ.bF (ql Q h2)]
def U5(ao)(a' K)(b:K.fF):(fj ao K a').fF:=by induction a' generalizing K with|C=>exact b|s v a' ih=>exact ih _ (nv US b)
abbrev agl(ao:oB)(v:u):u:=iT ((kl ao v).au (Bi ao))
def kb.agk{ao:oB}{i bq:nq}(n:zK):bq=i.au (Bi ao):=by induction n with|C=>rfl|s q g i bq n _ ih=>rw[r.gI,n.Bi,←ih]
def Z1(ao:oB)(i:nq)(b:oG i (∃g,aNY j)):kb ao i (i.au (Bi ao)):=qb i (by exact .C) f i (by rw[n4 (b f tG) g U,r.gI,U.Bi,mW .s f g i _ U (ih fun j J=>b j (Č J))])
def hH.e7{ao}{o}{i bq}(n:aVo):kl ao o=i:=by cases n with|gB g n=>rw[oz n l d n,m2 (qk n.ge).2,mY aa];unfold kl;rw[d];simp only[];clear d n;(rw[y8 l a9.ae (by rw[qT aa])])|jh _ _ d=>unfold kl;rw[d];rfl
def hH.agk{ao}{o}{i bq}(n:aVo):bq=i.au (Bi ao)∧aSS=agl ao o:=by have:=n.B_.agk;exact⟨aa,by unfold agl;rw[n.e7,←aa]⟩
def hH.KH:∀{ao}{o}{i bq}(n:aVo),o≠1∧o≠2∧o≠10∧(∃l,zd ao l)∧qe i:=by rw[mY ao o i bq,mY n];cases n with|gB g n=>rw[oz n l d n,m2 n.ge,m5,m2 n.ok.1,m5,mW JD n.ge.1 (nj n.ok.1) (nj n.ge) ⟨l,d⟩ (m4 yL)]|jh _ _ d b h'=>exact(JD (vD ub 1 b) (vD ub 2 b) (vD ub 10 b) (qo d) h')
def AcT{q}{l}{g}(n:zT):(l.jE=6∧g|||120=120)∨(l.jE=7∧g|||384=384)∨l.jE=-1:=by cases n<;>decide
def KS{f g:u}(b:f|||g=g)(q)(a_:f.ln q=G):g.ln q=G:=by rw[←b,u.anv,a_];rfl
def P7(ao)(K)(j g)(n:aNY j)(h6:6∈K→∃g,aNY 6):mS ao K j=G∨(6∈K∧g|||120=120)∨(7∈K∧g|||384=384):=by rw[oz n l d n];unfold mS;rw[d];simp only[];rcases AcT n with⟨b,U⟩|⟨b,U⟩|b;rw[b,aPd 6 K,mW (aOq aQ.bF ⟨bK,U⟩)];left;simp only[N.alG,aoo,r.fq,apH,apG,R.aiO];rw[mY ab b0 d,mW bK (by rw[m1 (ab=6) n_,m5,mW (aa▸b0)]),b,aPd 7 K,mW (Ê aQ.bF ⟨bK,U⟩)];left;simp only[N.alG,aoo,r.fq,apH,apG,R.aiO];rw[mY ab b0 d,mW bK (by rw[m1 (ab=7) n_,m5,mW (aa▸b0)]),b];left;simp only[N.alG,aoo,r.fq,apH,apG,R.aiO];rw[mY ab b0 d,mW B4 (A5 [↑ab] 1 0 b5 (-1) 0 b5 e (R.fp d) vV)]
def GP(ao)(K)(o)(aG:o=6∨o=7)(h6:nX ao 6 aSt)(h7:nX ao 7 aSu):mS ao K o=G:=by(have:∃k,nX ao o (q8 k):=by rw[nY aG aG,n8,m9,n8,m8,mW (qo h6),mW (qo h7)]);rw[m3 Al aa,mZ aa];rintro k d;unfold mS;rw[d];simp only[a9.jE,N.alG,aoo,r.fq,apH,apG,R.aiO];rw[mY ab b0 d,mW B4 (A5 [↑ab] 1 0 b5 (-1) 0 b5 e (R.fp d) vV)]
def WC:∀(ao)(a')(h6:nX ao 6 aSt)(h7:nX ao 7 aSu)(ba:oG û (∃g,aNY j)),iT ((io ao a').au (Bi ao))=iT ((û).au (Bi ao)):=by injections ao a';intro h6 h7 ba;apply u.at9;rw[mY q,CD,CD,N.ac9,r.gZ,r.gZ,m1 (Bi ao 6=120) (by unfold Bi;rw[h6];rfl),mY aHZ,m1 (Bi ao 7=384) (by unfold Bi;rw[h7];rfl),mY aH0];constructor;rw[mY J,sE,ng];rintro g U Ab;rw[uv U,mZ U,s4,mW (ql (Ń (Ad j (Kn ao _ j J) e)) Ab),mY J,sE,ng];rintro g U Ab;rw[uv U,mZ U,s4,n4 (pa ba) g dL];rw[dL.Bi]at Ab;(have aG:∀ab,ab∈û→mS ao û ab=G→ab∈aNH io:=by intro ab b0 hs;unfold io;exact rW r.ane.2 ((m7 Fo).2 b0) hs);rcases P7 ao û j g dL (oE (ba 6 b))with b|⟨b,U⟩|⟨b,U⟩;rw[mW Ad _ (Ń (Ad j (aG j J b) e)) (nb dL.Bi Ab),mW Ad _ (Ń (Ad 6 (aG 6 b (GP ao _ 6 aQd h6 h7)) e)) (nb aHZ (KS U q Ab)),mW Ad _ (Ń (Ad 7 (aG 7 b (GP ao _ 7 aUu h6 h7)) e)) (nb aH0 (KS U q Ab))]
def Om(ao:oB)(a':nq)(h6:nX ao 6 aSt)(h7:nX ao 7 aSu)(ba:oG û (∃l,n9 ao j l∧(l.jE=6∨l.jE=7∨l.jE=-1)))(dw:qe û):qe (aNH io):=by rw[n4 (aUm dw) j J];(have aG:∀ab,ab∈û→mS ao û ab=G→qe (aNH io):=by intro ab b0 hs b;(have:ab∈aNH io:=by unfold io;exact rW r.ane.2 ((m7 Fo).2 b0) hs);rw[o6 b];cases aa);rw[pI hs (mS ao û j) (by exact aG j J hs) (by rw[nD (pa ba) l d eh];unfold mS at hs;rw[d]at hs;simp only[N.not_eq_false',kR,r.fq,R.aiO]at hs;rw[oz hs ab b0 avp];rcases eh with b|b|b;rw[m1 (ab=6) n_,mY aa,mZ avp,uM,mW aG 6 b0 (GP ao _ 6 aQd h6 h7),m1 (ab=7) n_,mY aa,mZ avp,uM,mW aG 7 b0 (GP ao _ 7 aUu h6 h7),mW B4 (E0 [↑ab,l.jE] 1 0 b5 d5 d5 (-1) 0 b5 e (R.fp avp) (R.fp b) vV)])]
def Qs(l:a9):l.jE=6∨l.jE=7∨l.jE=-1:=by induction l using a9.ae<;>(rw[qz])
abbrev aLz:aQH|r2=>i.afo 8|_=>G
def Acx(i)(b:a9.un i∈kv):8∈i:=r.akI.mp (r.hp.mp (show kv.de aLz=G by kernel_rfl) _ b)
def NS(ao)(i)(U:yV q l (op kv l→op ao l))(h8:8∉i):xe (aNK r2):=by rw[aPd (a9.un i) ao,m2 (HR ao _ bK),mY b];by_cases jf:aNK r2<16;rw[m1 (∀q,q<16→op ao _→aks) (by rw[mY q Ab d,m1 (∃l,op kv l) (qo (aUI Ab)),mY bj,uy bj l bj,m2 (U q l bj),mY aa,o6 d,oA,nf aa,mZ aa,m5,uM];(have hd:∀q,q<16→pO kv r2→8∈i:=fun q Ab d=>m4 (Acx _ (r.lI d)));exact h8 (hd q Ab bj)),m5,mW (aa _ jf b).az];omega;rw[nv E3 bK,m2 (qJ (m7 U) (n9 kv 15 _) e),m5,u8 b aa];omega
def GM(a)(ao)(b:aRe):fR a (a.Ah ao):=⟨b,fun aj a0 d=>(Ad a0 d e),fun n g d=>d⟩
def dI.Ah:∀{a}{M}{O}(aF:qG)(ao)(b:ao=a.ak∨∃j,ao=t6 eL j),dI wa M O∧aRe∧ao.z≤a.ak.z+1:=by rw[mY a M O,mY aF,mY ao,mY b];(have aim:aRM a.ak ao:=by rw[ŕ,n8,tp (by rw[ri Al]),oc j,m8,mW aQ2,mW fun q l b=>uF Ih b]);rw[m1 ao.fF (by rw[mZ aim,ŕ,n8,tp (by rw[ri Al]),oc j,m8,mW aF.cO,mW (nv Z5 aF.cO)]),mY abY];have b7:=GM a ao aim;rw[mX ⟨{kh:=e,eX:=fun q l d=>aim q l (aF.eX q l d),cO:=abY,aS:=aF.aS,eM:=aF.eM,ey:=aF.ey,jX:=aF.jX,fO:=aF.fO,ks:=fun f g y d=>by rw[s3 (aF.ks f g y d) sa bh gd fJ cV,mW ⟨sa,bh,aSz,aSA,cV⟩],jW:=aF.jW},aim,?_⟩,mZ aim abY b7,ŕ,n8,tp (by rw[ri Al]),oc j,m8];omega;exact(m7 Z4).1
def dI.PF:∀{a}{M}{O}(aF:qG)(ao)(azi:dI wa M O)(b:aRe)(aB:ao.z≤a.ak.z+1),hj a wa M O O 1:=by rw[mY a M O,mY aF,mY ao,mY azi b aB,mX Dq ao _ 0 a.k1 ?_ (by simp only[r.afl]) azi b (fun o aG=>ej aG r.aaE) ra n_ (m4 (Ag [ao.z,a.ak.z] S (sn ai 4 1) S nN e aB)),m2 aF.eM,mY Q,m2 aF.ey,mY h2];delta fb aH.Ah;rw[←Q,←h2];simp
abbrev aae(ao iA:oB):Prop:=∀(q n:u),pO iA v4→pO ao v4
def aae.fI(ao):aae ao ao:=aQ2
def aae.ah{f g x}(b:sH aae)(o:aae g x):aae f x:=fun q n d=>b q n (o q n d)
def Dl(ao)(j)(J:∀n,j≠v4):aae ao (eL ao j):=by intro q n Ab;unfold eL at Ab;split at Ab;rw[mW Ab,y7 aaY ao.z];rw[r.jP aaY]at Ab;rw[mW Ab,u8 kf Ab];simp only[r.gR,r.lF]at kf;rw[m1 (q=ao.z) (m4 (y' (Ag [ao.z,q] ai S nN nm e kf) (Ag [ao.z,q] S ai S ai e (x8 aaY)))),mY auX,mZ aaY b kf,mZ kf];subst auX;rw[aOl r.akW Ab,mW ej Ab (J n)]
def AcE(ao)(a'):aae ao (aNH abe).2:=by delta abe;by_cases b:1∈û;rw[c0 b,mW aae.fI _,cH b];generalize aNH io=p;rw[oS p (by exact m7 Dl (fun n b=>Æ)) o i (by(induction i using r.ae with|C=>exact aae.fI _|s=>exact m7 Dl (fun n b=>Æ)))]
def Ql:∀(ao)(a'),(aNH abe).2=ao∨∃j,(aNH abe).2=eL ao j:=by injections ao a';by_cases b:1∈û;rw[show aNH abe=_ from c0 b,mW qN,show aNH abe=_ from cH b];generalize aNH io=i;rw[ñ (by exact .bF u0) j (by rw[oS i (by exact qN) ab i (by exact .bF u0)])]
set_option tactic.hygienic true in
def Ln:∀(a:aH)(M:pu)(O:q4)(aF:qG)(h:u)(y:ar)(a':nq)(aJ:y=zz a'∨y=v2 a')(dw:qe a')(Q:a'.z≤16)(ew:aVq (∃i bq,À a.ak v))(hg:(sm).z≤3)(fT:aSQ),∃(aP:u)(ao:oB),rE 3 8 [oW,y]=c (Ç,ð)∧(ao=a.ak∨∃j,ao=t6 eL j)∧aV1∧∃i bq,À ao aP∧wr (sm).z∧aSS=iT (a'.au (agl a.ak)):=by rw[vj M O,mY aF,yb y a',mY aJ dw Q ew hg fT];have h6:å 6 "string":=ł 6;have h7:å 7 "number":=ł 7;(have ary:oG sm (∃g,zi j g):=by rw[tr,nt ((ni Gd).1 J),ya,m9,mY J,sE,ng];rintro v aS J;rw[m8];cases J;rw[Ĩ (ew v aS) i bq n];rw[n.e7]at J;exact n.B_.mem J);(have alb:oG sm (∃l,n9 a.ak j l∧aOx):=by rw[tr,mX AR (pa ary) fun g l d n=>?_,mW Ad l d n.ok.2]);(have aoY:oG sm (mP j∧j≠1):=by rw[tr,mX AR (pa ary) fun g l d n=>?_,mW ⟨n.ok.1,n.ge.1⟩]);rw[m1 (qe (sF fj)) (by rw[n4 (aUm dw) v aS,Ĩ (ew v aS) i bq n,n4 (aUm (qk n.KH)) j J,nR];have:j∈sm:=(ni Gd).2 (aQ.bF (Ad v aS (nb n.e7 J)));rw[o6 b];cases aa),mY auW];have ajB:qe xJ:=nM Om h6 h7 (fun j J=>by rw[nD (pa alb) l d P,mW Ad l d (Qs l)]) auW;have aoO:1∉sm:=oE ((aoY 1 b).2 e);have adm:=Qm a h aF.kh n_ aF.aS y a' aJ Q (fun v aS=>by rw[Ĩ (ew v aS) i bq n,m3 Hz n.KH];rintro _ h2 _;rw[mY J,ri Al,ng];rintro l d;rintro _;exact(AE h2 (by rw[d];rfl) (by rw[n.e7,m2 n.c9,m5];omega))) n_ alb (oE ((aoY 0 b).1.1 e)) (oE (nj (qk (aoY 13 b).1) e)) (oE (ou (aoY 8 b).1 e)) (oE (oj (qk (aoY 14 b).1) e)) (nO ajB);refine(nM Bx adm (m7 Ql) (m7 AcE) ?_);have auY:oG xJ (∃g,zi j g):=fun j J=>ary j (n7 Kn J);(have kg:qp io a.ak a'≤(sm).z:=by rw[m2 (r.ar2 (mS a.ak sm) (acV sm)),m5];simp only[Lc]at aa;unfold io;exact aa);(have amO:iT ((io a.ak a').au (Bi a.ak))=iT (a'.au (agl a.ak)):=by rw[WC _ _ h6 h7 ary];apply u.at9;rw[mY q,CD,CD,N.ac9,r.gZ,r.gZ];constructor;rw[mY J,sE,ng];rintro g U Ab;rw[uv U,mZ U,s4,nt ((ni Gd).1 J),ya,m9,mY J,sE,ng];rintro v aS J;rw[m8];cases J;refine(ql (aT8 (Ad v aS e)) ?_);unfold agl;rw[CD,r.gZ,mW (ql (aT8 (Ad j J e)) Ab),mY J,sE,ng];rintro g U Ab;rw[uv U,mZ U];rintro v aS e;unfold agl at Ab;rw[CD,r.gZ]at Ab;rw[oz Ab bZ dL Ab,uv dL,mZ dL,s4,mW (ql (Ń (Ad j ((ni Gd).2 (aQ.bF (Ad v aS J))) e)) Ab)]);by_cases aau:∃o,xJ=ub;rw[uy aau o aau,m1 (aU1=(o,a.ak)) (pX cH aoO (by rewrite[aau];rfl)),mY d,d,n4 (auY o (nb aau (r.i7.2 e))) g U,mX Au _ _ (.gB o g U) (by rw[aau]at kg;exact kg) ?_,←amO,aau,r.gI,r.ajT,U.Bi,m1 (aU1=(aUY (.un xJ),sy a.ak (.un xJ))) (pX cH aoO (by generalize xJ=i at aau;rw[ñ (by rfl) j (by rw[oS i (by exact ej (qS j) aau) ab i (by rfl)])])),mY d,d,mX Au _ _ (n7 .jh (m7 D') (nM NS aF.eX ?_) ajB n_ ((nv Z1 auY).bx (fun q l b=>uF Ih b))) kg amO,mY h8,mX AR (auY 8 h8) fun g l d n=>?_,mW (ou n.ok.1 e)]
abbrev aj6(p:N):u:=t_ p 1
def PI:∀(a:aH)(M:pu)(O:q4)(aF:qG)(h:u)(cE:ea)(o:u)(p:N)(i bq:nq)(n:À a.ak o)(aB:wr 2)(fT:aSQ),∃(aP:u)(ao:oB),rE 5 21 [oW,aTp aON]=c (Ç,ð)∧(ao=a.ak∨∃j,ao=t6 eL j)∧∃l' g7,hH ao aP l' g7∧iT g7=aSS|||aj6 p:=by rw[vj M O,mY aF];injections h cE o p i bq;rw[mY n aB fT,u9 p (by rw[mX Au o a.ak ?_ aQd (AI i bq n (rA aj6)),Ea a aF.kh,mW (nd Mq [.K,.K,qJ acS (ui iH nr=c Y) e,.K])]) (by have aiP:zi 4 1:=(Ad _ (ł 4) (.un));rw[m1 (∀v∈rV 4,∃i bq,À a.ak v) (by rw[mY v aS,nt (r.gA.1 aS),n8,m9];rintro aS;rw[m8,mW BN i bq n,ŵ aS,mW (m7 BN (.gB 4 1 aiP))]),mY ajH,m1 ((fj a.ak [] (rV 4)).z≤3) (by rw[m1 (fj a.ak [] (rV 4)=fN (i.mI fN []) 4) (by rw[m6 ((kl a.ak 4).mI fN ((kl a.ak o).mI fN [])=_),n.e7,(hH.gB 4 1 aiP).e7];rfl),p0,d,m2 (HT (i.mI fN []) 4),mY Q,m2 (J0 i []),mY h2];simp only[r.am9]at h2;exact Bu [i.z,(fN (r.mI fN [] i) 4).z,(r.mI fN [] i).z] ai 3 S 2 ai pR a8 (0+S) e aB Q h2),mY ajz];rcases(Ln a M O aF h (zz (rV 4)) (rV 4) aQd qg qg ajH ajz fT)with(⟨aP,ao,Q,h2,_,l',g7,h3,h4,h5⟩);rw[mX Au aP ao ?_ h2 (AI l' g7 h3 ?_)];have aer:rE 4 9 [oW,qw]=c (Ç,ð):=nd SG [aZ Q];rw[mW (nd Mq [.K,.K,qJ acS (ui iH nG=c G) e,.K,aZ aer]),h5,m1 (t6 agl 4=1) (by rw[←(hH.gB 4 1 aiP).agk.2];rfl),mY gp,m2 n.agk.2,mY iM];simp only[r.gI,r.ajT,gp,←iM,aj6];rfl)]
abbrev aaf(g:u):Prop:=g=1∨g=2∨g=4∨g=24∨g=16∨g=32∨g=120∨g=128∨g=384
abbrev aie(g:u):u:=ov g 1 0 (ov g 2 1 (ov g 4 2 (ov g 24 3 (ov g 16 4 (ov g 32 5 (ov g 120 6 (ov g 128 7 8)))))))
def hm.BE{q}{l}{g}(n:zT):aPR:=by cases n<;>first|exact qN|exact rt qN|exact vM qN|exact rt (vM qN)|exact vM (vM qN)|exact rt (vM (vM qN))|exact vM (vM (vM qN))|exact rt (vM (vM (vM qN)))|exact vM (vM (vM (vM e)))
def kb.BE{ao}{i bq}(n:zK):aPe bq:=by induction n with|C=>intro g b;cases b|s q g i bq n _ ih=>rw[mY bZ b,aSq,n8,m9,oe,m8,p4 n,mZ n,mY l _ n,mW n.BE,mW ih _ b]
abbrev aiR:nq:=[1,2,4,24,16,32,120,128,384]
def DA{g:u}(b:aPR):g∈aiR:=by rcases b with e|e|e|e|e|e|e|e|e<;>decide
def TX(g bZ:u)(b:aPR)(h':aaf bZ):Ā=bZ.ln (aie g):=aWh (∀ab∈aiR,(j|||ab==ab)=ab.ln (aie j)) g (DA b) bZ (DA h')
def M1(g:u)(b:aPR):g.ln (aie g)=G:=aWh (j.ln (aie j)=G) g (DA b)
def Ee(f g:u):(f|||g==g)=G↔∀q,f.ln q=G→g.ln q=G:=by rw[lb]at⊢;constructor;rw[mY b q a_,mW KS b q a_,mY b];apply u.at9;intro q;rw[u.anv]at⊢;induction a_:f.ln q using N.ae with|Y=>rw[ũ]|G=>simp[b q a_]
def WS(bq lc:nq)(b:aPe bq)(h':aPe lc):ab4 bq lc=(aSS|||iT lc==iT lc):=by rw[N.ac9,Ee];simp only[ab4,r.hp,r.gZ];constructor;intro aB q Ab;simp only[CD,r.gZ]at Ab⊢;rw[oz Ab g U Ab,nD (aB g U) bZ dL d,mW (vU dL ((Ee g _).1 d q Ab)),mY hs g U,m1 ((iT _).ln _=G) (by rw[CD,r.gZ,mW Ad g U (M1 g (b g U))]),mY Q,m2 (hs _ Q),mY h2];rw[CD,r.gZ]at h2;rw[oz h2 bZ dL d,mW (vU dL (nb (TX g _ (b g U) (h' _ dL)) d))]
def aaf.Ab{g}(b:aPR):g.ln 9=Y:=aWh (j.ln 9=Y) g (DA b)
def Pj(bq)(b:aPe bq):(iT bq).ln 9=Y:=by rw[CD,r.atn,mY g U,(b g U).Ab,mW yL]
def P'(p:N)(q):(t_ p 513:u).ln q=(p&&(b1 (q=0)||b1 (q=9))):=by rw[wE p];simp;rw[m1 ((513:u)=2^0|||2^9) nw,m5];simp only[fU,aa,u.anv,u.aLk,N.ace];rw[uh];rw[aon]at⊢;exact az4;rw[aon]at⊢;exact az4
def Acc(p)(q):(aj6 p).ln q=(p&&b1 (q=0)):=by rw[wE p];simp[aj6];rw[m1 ((1:u)=2^0) e,m5];dsimp only[aj6,fU];rw[Ŧ ((1:u).ln q=(2^0:u).ln q),u.aLk];simp[az4]
def Xe:∀(p o')(bq g7 U dL)(Q:aPe bq)(h2:aPe g7)(h3:aPe U)(h4:aPe dL)(d:iT U=aSS|||aj6 p)(a5:iT dL=iT g7|||aj6 o'),((! p||o')&&ab4 U dL)=(adq p bq|||adq o' g7==adq o' g7):=by injections p o' bq g7 U dL;rw[mY Q h2 h3 h4 d a5,nM WS h3 h4,N.ac9,N.c3,Ee,Ee,d,a5,mZ d,m2 (Pj _ Q),mY fk,m2 (Pj _ h2),mY aIo];simp only[adq,u.anv,P',Acc];constructor;rw[mY J,nV,ng];rintro ho hs;rintro q Ab;(rw[u9 p (by rw[N.aeu,N.ags]at Ab;rw[m2 (hs q (by simp[Ab])),m5];simp only[N.acR,N.c3,kR]at aa⊢;rw[nY aa aa];(rw[oe]);rw[tp (by rw[nV])];(rintro b h');rw[m8,mW aUp,mW (rW aQ.bT b (aQ.bT h'))]) (by rw[m2 (o7 ho),mY au5,mZ a5 ho];subst au5;simp only[N.ace,N.acR,kR]at Ab hs⊢;rw[nY Ab Ab];rintro Ab;rw[m9];rintro Ab;rw[m8,mW aQ.bT Ab,nt (hs q (aQ.bT Ab)),oe,m9,oe,m8,mW aUp,mW (pQ aQ.bT aQ.bT)])]);intro hs;constructor;(rw[u9 p (by rfl) (by rw[m2 (hs 9 (by kernel_rfl!)),m5,o6 aIo,Ą])]);intro q Ab;simp only[N.acR,N.c3,kR]at Ab hs⊢;rw[nY Ab Ab];rintro Ab;rw[m9,aO2 Ab aIp,m8,m1 (sU 9) (by rw[n8];rw[fk]at Ab;rw[wO Ab]),mY dw];rcases hs q (aQ.bF Ab)with(⟨b,h'|h'⟩|b);rw[mW (rW aQ.bF b h'),mW ej h' dw,mW Î];subst aIp;rcases hs 0 (aQ.bT ⟨Ab,aQd⟩)with(⟨b,h'|h'⟩|b);exact aQ.bF (qS b);cases h';exact Î
def Xj:∀{a}{M}{O}(aF:qG)(cj),hj a (oP k1 cj) M O O 0:=by rw[mY a M O,mY aF,mY cj,m2 aF.eM,mY Q,m2 aF.ey,mY h2,m2 aF.kh,mY h3];unfold aH.aiU at h3;refine(nM Dq 0 cj ?_ (Ĕ r.afl) (u7 aF.le aF.aS aF.eM aF.ey aF.jX e aF.jW) aQ2 (fun o aG=>ej aG r.aaE) ra n_ n_);unfold fb;rw[←Q,←h2,←h3];simp
def WJ:∀(a:aH)(h k:u)(f)(cE)(o:u)(p)(hs:qr)(b2:aSk),∃cj,rE 2 63 (ă (aTp aON))=c (oX,yu k1 cj):=by injections a h k f cE o p;intro hs b2;have abW:=HX a h k f hs;rw[b2]at abW;rw[rs p (by exact⟨a.k1,(He ..).ah (aWq (Af (z':=a)) [.K,.K,.K,aZ abW,.K])⟩) (by have g9:=CX (Fm (Gb a)) e;have A_:f1 a.F .eq (og a.k1) (og "")=c (n5 (a.k1=="")):=e;induction Q:a.k1==""using N.ae with|Y=>rw[Q]at A_;exact⟨a.k1,(He ..).ah (aWq (Af (z':=a)) [.K,.K,.K,p A_])⟩|G=>rw[Q]at A_;induction h2:(nc a.gU.z==1)using N.ae with|Y=>exact⟨a.k1,(He ..).ah (aWq (Af (z':=a)) [.K,.K,.K,p A_,p g9,rN h2])⟩|G=>rw[y1 cE];(have afH:dP T n0 (.dU pn "missing" (rq 2)) [px,zf,c (aTp nr)] a.F=c (na,[px,zf,c (aTp nr)],yu k1 cE):=nb (nM (w3 Ep n0) a.F a.F a.F (og cE) 12 3 _ (qW [.K]) vP (BY a) e qg) (cr (nF (c (ls.bU,([px,zf,c (aTp nr)]:dv),j))) (Fl a a.e4 a.c2 cE)));exact nd He [.K,.K,.K,p A_,p g9,rN h2,os afH])]
def E'(p:N)(bq:nq)(b:aPe bq):(adq p bq).ln 10=Y:=by rw[m1 ((iT bq).ln 10=Y) (by rw[CD,r.atn]at⊢;rw[mY g U,mW N.amB.mp (aWh (j.ln 10=Y) g (DA (b g U)))]),mY kB];simp only[adq,u.anv,P',kB];induction p using N.ae<;>(rw[ũ])
def Gu(H)(b:H.ln 10=Y):(2047|||H==H)=Y:=by induction U:(2047|||H==H)using N.ae with|Y=>rfl|G=>rw[m2 ((Ee _ H).1 U 10 nw),m5,o6 b,wO aa]
def Pz:∀(a)(h k di)(M)(O)(K:j' a M O 3 6)(f)(hs:qr)(b2:aSk)(n t)(fG:u5)(cE)(cj)(afF:eH a.ak aWe cj)(o)(p)(i bq)(ba:À a.ak o)(aB:wr 2),afi (h+18) 65 (ă (nE [aWb,qw,aON,nr])) (cj|||adq p bq==adq p bq) 6 a M O:=by injections a h k di M O;rw[mY K,mY f,mY hs b2];injections n t;intro fG;injections cE cj;intro afF;injections o p i bq;intro ba aB;have abu:=Py a (h+14) k di n t fG cE;(have fT:aSQ:=q7 K.rw (oa Ag [a.ak.z] S 900000 (sn S 4 6) 900000 e aa));induction acF:aWe using ap.ae with|B=>rw[acF]at afF abu;cases afF;rw[Gu _ (E' p _ ba.B_.BE),n4 (WJ a (h+15) k f aTd o p hs b2) cj js,mX AI _ O ?_ ((Xj K.aF cj).bx n_)];simp only[apU]at abu;exact nd Hf [.K,aZ abu,.K,aZ js]|c d=>obtain⟨j6,j8⟩:=d;rw[acF]at afF abu;cases afF with|abF _ _ ip ay9 dN ale=>simp only[apU]at abu;have ao6:=Xf a (h+15) k aTd aTd j6 o j8 p;obtain⟨aP,fB,aiw,aHP,aDt,aqR,aEj,aV⟩:=PI a M O K.aF (h+12) aTd j6 j8 ip ay9 dN ale fT;rw[rf (K.aF.Ah fB aHP) ke adc lE,m2 (K.aF.PF _ ke adc lE),mY aKQ];obtain⟨V,gO,afG,ak3,aDu,aqS,aEk,bj⟩:=PI (a.Ah fB) M O ke (h+12) aTd o p i bq (ba.bx adc) aB (by rw[m6 (fB.z<900000),m2 K.rw,m5,mW Am [a.ak.z,fB.z] (ai+1) 900000 ai nm (sn S 4 6+1) 900000 e lE aa]);rw[rf (ke.Ah gO ak3) gi adV acM,m2 (ke.PF _ gi adV acM),mY aKR];have aEq:=aKQ.ah aKR;have i5:=Xe j8 p ay9 bq aqR aqS dN.B_.BE ba.B_.BE aEj.B_.BE aEk.B_.BE aV bj;induction bK:(! j8||p)using N.ae with|Y=>rw[bK]at i5 ao6;simp only[N.aeu]at i5;rw[←i5,mX AI a O ?_ aVm,mW (nd Hf [.K,aZ abu,.K,aZ ao6])]|G=>rw[bK]at i5 ao6;simp only[N.ace]at i5;rw[←i5];have av5:hH (tA fB Ah gO).ak aP aDt aqR:=aEj.bx adV;have aEl:hH (tA fB Ah gO).ak V aDu aqS:=aEk;rw[mX Nr av5.A' fun a7 vs bN P P=>?_,mX Nr aEl.A' fun st dj aEi P P=>?_,m1 (m7 bv.ha≤3) (by rw[m2 (bN.ha _ av5.B_),mY Q,m2 aEi.Bf,mY h2];unfold bv.ha;exact Am [a7.An,st.Bf] (Ļ+ai) 3 Ļ (qQ 2 1) ai 1 e (AM 2 Q) h2),mY g_,s3 (RD _ h aP V aDt aqR aDu aqS M O a7 st av5 aEl vs bN dj aEi (K.CE aEq g_ n_)) e2 axr a_ aoQ P];have aEr:=aEq.ah aoQ;rw[aTy aEr,m2 (aEr.le.ak k f hs),mY aI6];have abW:=HX e2 (h+16) k f aI6;rw[b2]at abW;have aI0:=K3 e2 (h+16) aTd j6 j8;have aI1:=K3 e2 (h+16) aTd o p;have iQ:=AbF e2 (h+14) Ç (.m V);induction aJ:ab4 aqR aqS using N.ae with|Y=>rw[y3 a_,mW (nd Hf [.K,aZ abu,.K,aZ ao6,aZ aiw,aZ afG,aZ a_])]|G=>rw[y3 a_,mW (nd Hf [.K,aZ abu,.K,aZ ao6,aZ aiw,aZ afG,aZ a_,aZ (Qa e2 (h+16)),aZ abW,aZ aI0,aZ aI1,aZ iQ])]
def GX(O)(cf)(d)(l)(w a4)(i)(bq)(b:uw q1)(U:acx i=c bq):o5 (oC (.de d)) (.aO (bq.de id)):=by rw[rc (pk ta b),mW (pk (fun p=>ow (ap.au (fun bq=>ar.aO (r.de bq id)) p) y (y,a4)) U)]
def GZ(O)(cf)(d)(l)(w a4)(i)(bq)(b:uw q1)(U:acx i=c bq):o5 (oC (.dS d)) (.aO (bq.dS id)):=by rw[rc (pk ta b)];simp only[ap.eO,axE,Q2,U,ap.ji]
def CP{cg:Type}(i:Ì)(ac):acx (i.au (nF (ar.aO (ac j))))=c (i.au ac):=vv (by simp[Md,Me,Mf,Mg,Mh,Mi,Mj,Mk,ih])
def Ch{cg:Type}(O)(cf)(gD)(k)(gQ)(l)(w a4)(y)(x)(i:Ì)(d ac)(b:o5 (o0 aU gQ) y)(hs:kn a4 y=c (i.au d,x))(hc:AY x a4=G)(b2:oG i (o5 (aU O cf gD (l.b6 k (c (d j))) a4) (ac j))):o5 (oC (.go gD k gQ .C)) (u' i.au ac):=by simp only[Iy,b];simp only[ap.eO,hs];rw[Jp (ago O _ _) _ k x l _ hc d (nO G) ac i (fun j P=>aP4 HQ Qw) (fun j J P=>pa b2)];rw[r.aHj.2 (wW e)];rfl
abbrev akm(n t:o4):N:=match n,t with|B,B=>Y|zl _,B=>p|B,zl _=>p|zl _,c (_,o')=>p&&o'
abbrev fy(n t:o4):r (ea×u×N):=(match n with|B=>[]|zl o=>[("p",o,p)])++(match t with|B=>[]|zl o=>[("q",o,p)])
abbrev jO(j:ea×u×N):ar:=nE [og sz,.m (nj j),aeR (nW j),nr]
def KW(n t):aRS=(xB).au jO:=ū n (by(induction t using ap.ae with|B=>rfl|c g=>obtain⟨c6,dn⟩:=g;rfl)) f (by rw[aPJ];induction t using ap.ae with|B=>rfl|c g=>obtain⟨c6,dn⟩:=g;rfl)
def Um(w)(j):pE w (jO j) nr=c (og sz):=aR1
def F5(w:ch)(n t:o4):eC w zO nG=c (wt aOY jO):=by rw[←KW]at⊢;exact D4 ..
def PB(w:ch)(n t:o4):f1 w .eq (wt aOY jO) ps=c (qP zD):=by induction xB using r.ae<;>rfl
def AcO(n t:o4)(dw:qe xB):(ow xB j (nW j)).de id=akm n t:=ū n (by(induction t using ap.ae with|B=>rw[aRV dw]|c g=>clear dw;obtain⟨c6,dn⟩:=g;simp[fy,akm])) f (by rw[mZ dw,aPJ];induction t using ap.ae with|B=>simp[fy,akm]|c g=>obtain⟨c6,dn⟩:=g;simp[fy,akm])
def AcQ(n t:o4)(aa:xB=[]):akm n t=Y:=ū n (by(induction t using ap.ae with|B=>rfl|c g=>obtain⟨c6,dn⟩:=g;simp[fy]at aa)) f (by rw[aPJ];induction t using ap.ae<;>simp[fy]at aa)
def Wm:∀(a:aH)(h:u)(n t:o4),qM 42 [zO] (n5 (akm n t)):=by injections a h n t;have Q:=F5 a.F n t;have agE:=PB a.F n t;rw[pI he zD (by rw[he]at agE;rw[AcQ n t (r.alq.1 he),mW (nd Mv [p Q,p agE])]) (by rw[he]at agE;have hc:=aRJ nT (on ne (rk acu (x2 rn) (.bL "P_OPT" nG)) nr) 1 (r_ 0 nG) [c zO,B] (wt aOY jO) B xB jO (nF (ar.aO (nW j))) (qW [p Q]) e e (by rw[mY j _,mZ f];obtain⟨I,L,Z⟩:=j;rw[aOm Z (qW [.K,.K,.K])]);have iO:=GX T nT _ _ a.F a.F _ _ hc (m7 CP);rw[AcO n t (ol (by rw[d]at he;injection he))]at iO;exact nd Mv [p Q,p agE,.K,.K,.K,.K,.K,.K,.K,.K,aZ iO])]
def Wl(a:aH)(h v di:u)(n t:o4)(b:hn a v di n t)(g:a9)(U:r6)(fG:Ë):pG 3 44 [tJ,oF] (n5 (akm n t)):=by have aC5:=PZ g;rw[fG]at aC5;have dt:=Bo a.F g;exact nd Si [ą v g U,xo,qa Cv g,xo,p aC5,aZ (C5 a h v di n t b),ď di b.gs,aZ (Wm a nB n t)]
def O2(l:a9):aQP lM (nE [.m 8,.m 9]) (n5 (! l.iF)):=zR
def XL(l:a9):aQP lM (nE [.m 6,.m 7,ŭ,.m 14,.m 15,.m 16,.m 17,.m 18,.m 19]) (n5 (! l.abA)):=zR
def AbB:∀(a:aH)(h k di:u)(n t:o4)(b:u5),∃g,pG 3 43 [tJ,pV] qA:=by rw[mY a h k di n t,nR,m2 (C5 a h k di n t b),mY hs,mZ hs,m2 (sP di _ b.gs),mY br,mZ br,m1 (∃f,qr) (by cases b with|lP f Q=>exact⟨f,Q⟩|D _ _ Q=>exact qo Q|bI aj a0 _ _ Q=>exact qo Q),mY a_,o8 a_,mZ a_];rintro f a_;have il:=Jn k [0,1,2,13,3,4,5,10] e;have Q:=F5 a.F n t;have agE:=PB a.F n t;have gr:=sP k f a_;rw[xF jb Bo f];have aV:=O2 f;have bj:=XL f;rw[pI U ([0,1,2,13,3,4,5,10].afo (nc k)) (by rw[U]at il;exact⟨G,nd EH [p il]⟩) (by rw[U]at il;(have cW:(f.iF=Y→f.abA=G)→∃g,pG 3 43 [tJ,pV] qA:=fun ahB=>by rw[pI he zD (by rw[he]at agE;(rw[pI hs f.iF (by rw[y4 hs,mW ⟨G,nd EH [p il,re,sC,r0,aZ (C5 a h k _ n t b),ď _ b.gs,p Q,p agE,.K,.K,.K,.K]⟩]) (by rw[y4 hs];rw[ahB hs]at bj;exact⟨G,nd EH [p il,re,sC,r0,zb,aZ (C5 a h k _ n t b),ď _ b.gs,p Q,p agE,.K,.K,.K,.K]⟩)])) (by rw[he]at agE;rw[pI hs f.iF (by rw[y4 hs,mW ⟨Y,nd EH [p il,re,sC,r0,aZ (C5 a h k _ n t b),ď _ b.gs,p Q,p agE]⟩]) (by rw[y4 hs];rw[ahB hs]at bj;exact⟨Y,nd EH [p il,re,sC,r0,zb,aZ (C5 a h k _ n t b),ď _ b.gs,p Q,p agE]⟩)])]);rw[pI fG f.iF (by exact cW (ol (by rw[fG]at d;rw[yM GR d]))) (by rw[pI ahB f.abA (by exact cW (nO ahB)) (by rw[y4 fG];rw[ahB]at bj;exact⟨Y,nd EH [p il,re,sC,r0,zb]⟩)])])]
def If:∀(n t:o4)(j:ea×u×N)(b:j∈xB),∃cE,sz=aTd∧aWe=c (nj j,nW j):=by injections n t j;rw[nR,Å fy,nt (r.aeP.1 b),oe,m9,oe,m8];(induction n using ap.ae with|B=>cases b|c f=>rw[aPJ,xi r.i7,pq,mW Ad Y e e]);induction t using ap.ae with|B=>cases b|c f=>rw[aPJ,xi r.i7,pq,mW Ad G e e]
abbrev alB(n t:o4)(cE:ea):N:=ov cE "p" n.mL t.mL
def AcP:∀(a:aH)(h k v di mR:u)(n t cw er:o4)(hs:u5)(aS:hn a v mR cw er)(g:a9)(U:r6)(fG:Ë),∃V,pG 4 45 [tJ,pV,oF] (qP V)∧(V=G→qe aS2∧oG aS2 (alB n t sz=G)):=by injections a h k v di mR n t cw er;rw[mY hs aS,mY g,mY U fG];have ajJ:=Wl a h v mR cw er aS g U fG;rw[m3 Al (AbB a h k di n t hs),mY V aC3];have cU:=C5 a nB v mR cw er aS;have br:=sP mR _ aS.gs;clear aS;have Q:=F5 a.F cw er;induction afI:akm cw er using N.ae with|Y=>rw[afI]at ajJ;exact(Ad Y (nd Jd [aZ ajJ]) (oE (by rw[aUd BD])))|G=>rw[afI]at ajJ;rw[rs V (by exact(Ad Y (nd Jd [aZ ajJ,aZ aC3]) (oE (by rw[aUd BD])))) (by have hc:=aRJ pc (on agL (.bp 20 (pH pn qc (rq 4))) .B) 4 (r_ 3 nG) [ve,zf,pZ,c (a9.D cw er).aY,B] (wt (fy cw er).au jO) B aS2 jO (nF (ar.aO (alB n t sz))) (qW [p Q]) e e (by rw[tr,nD (If cw er j J) cE cu P,mZ P];have abu:=Py a h k di n t hs cE;rw[m1 (b1 (apU (lL cE) aWe=.B)=alB n t sz) (by rw[mZ hs abu,cu,mZ cu,wE cE];(induction n using ap.ae with|B=>rfl|c f=>rw[aPJ];rfl);induction t using ap.ae with|B=>rfl|c f=>rw[aPJ];rfl),mY bK,←bK];have Aw:pE [] (jO j) nr=c aWb:=(Um [] j).ah (pk (x9 (c (ar.bi ab))) cu);exact qW [Ě,aZ abu,.K]);clear Q;have iO:=w3 GX pc a.F a.F _ _ hc (m7 CP);rw[mZ hc,mX Ad ((ow aS2 j (alB n t sz)).de id) (nd Jd [aZ ajJ,aZ aC3,aZ cU,p br,aZ iO]) ?_,mZ br iO,mY b,mX ⟨?_,?_⟩,om,mY d];(induction cw using ap.ae with|B=>(induction er using ap.ae with|B=>rw[qT afI]|c x=>clear afI;obtain⟨A_,Bw⟩:=x;simp[fy]at d)|c x=>clear afI;obtain⟨A_,Bw⟩:=x;induction er using ap.ae<;>simp[fy]at d);rw[tr,m2 (Â b _ (aT8 (Ad j J e))),m5,mW aa])]
def hn.CE:∀{a z1}{M}{O hY}{aD k di}{n t}(b:u5)(l:aRv),hn z1 k di n t:=by injections a z1 M O hY aD k di n t;rw[mY b l,m2 l.le,mY b7,m3 AA l,n2];rintro ao ks cc cj e _;cases b with|lP f Q h2 h3=>exact .lP k f (ĥ Q) h2 (ĥ h3)|D _ _ Q=>exact .D k n t (ĥ Q)|bI aj a0 _ _ Q h2 h3 h4=>exact .bI k aj a0 n t (ĥ Q) h2 h3 (ĥ h4)
def Zk(bq)(b:aPe bq):aSS<2^9:=qb bq (by decide) g bq (by rw[m1 (iT (g::bq)=g|||aSS) e,p0,d];apply u.aKE;rw[mW (aWh (j<2^9) g (DA (b g tG))),mW ih fun j J=>b j (Č J)])
def eH.lt{ao}{n}{H}(b:wS n H):H<2^11:=by cases b with|no=>decide|abF o p i bq n _=>apply u.aKE;induction p using N.ae<;>decide;exact u.k0 (Zk bq n.B_.BE) nw
def CF(H)(b:H<2^11):(H|||2047==2047)=G:=by rw[Ee,mY q Ab,m1 ((2047:u)=2^11-1) nw,m5,aa,u.testBit_two_pow_sub_one,y7 aIq 11];simp[aIq];rw[m1 (H.ln q=Y) (u.testBit_lt_two_pow (u.k0 b (u.pow_le_pow_right nw n_))),m5];rw[aa]at Ab;rw[wO Ab]
def Z0:∀(h k v:u)(M)(O)(a)(y)(awe)(xs:r (ea×u×N))(acX)(ba:oG xs (∀z1 hY aD,aRv→aD+6≤acX→afi (h+18) 65 (ă (jO j)) (y j) 6 z1 M hY)),∀z1 hY aD fi,aRv→aD+6*xs.z≤acX→∃bz kO alL,fZ (aO6 (zY 18) (nA (ts (.ir (.bp 65 (pH pn qc sw))) (nA aQC)))) 6 B (xs.au jO) [px,zf,pZ,c pg,ve,c awe,fi] z1.F=c (if xs.de y then na else aQC,[px,zf,pZ,c pg,ve,c awe,alL],bz.F)∧hj a bz M O kO acX:=by injections h k v M O a y awe xs acX;intro ba;induction xs with|C=>rw[mY z1 hY aD fi eE mo,mW A9 z1 hY fi (qZ r.ajT BG) (eE.bx mo)]|s j xs ih=>intro z1 hY aD fi eE mo;simp only[r.kZ]at mo;rw[mX AR (ba j tG z1 hY aD eE (m4 (Ag [aD,xs.z,acX] (S+6) a8 (aSC 6) a8 e mo))) fun bz kO br ak3=>?_,pI aJ (y j) (by rw[y3 br,mX AD (ih (fun t cG=>ba t (Č cG)) bz kO (aD+6) (c (jO j)) (eE.ah ak3) (m4 (Ag [aD,xs.z,acX] (ro (S+6) 6) a8 (aSC 6) a8 e mo))) fun e2 axr r' h3 aoQ=>?_,mX A9 _ _ r' ?_ aoQ,r.gI,mX (zt ?_).ah (h3.ah (by rw[r.aem,aJ,N.ace])),mW (pK [Ó])]) (by rw[y3 br,mX (sb A9 (c (jO j)) ?_ ((eE.ah ak3).bx (m4 (Ag [aD,xs.z,acX] (S+6) a8 (aSC 6) a8 e mo)))),r.gI,mX (qn HG _ ?_).ah (Ŵ r.aem aJ N.aeu),mW (pK [Ó])])]
def Aao(a:aH)(h)(k v)(n t):qM 62 [nQ,k,v,zO] pg:=by have h2:eC a.F zO rn=c ps:=Od ..;have h3:eC a.F zO uN=c ps:=Oe ..;have h4:eC a.F zO È=c ps:=Wo ..;have h5:eC a.F zO (.m 5)=c ps:=Wp ..;exact nd Sq [p h4,.K,p h5,.K,p h2,.K,p h3,.K]
def PY{ao:oB}{n t cw er:o4}{mp cY f4 f5:u}(Q:wS n mp)(h2:wS t cY)(jQ:wS cw f4)(kT:wS er f5):(aS2).de (nF (ov sz "p" (mp|||f4==f4) (cY|||f5==f5)))=aPN:=by cases jQ with|no=>(cases kT with|no=>simp[fy,CF mp Q.lt,CF cY h2.lt]|abF o p i bq=>simp[fy,CF mp Q.lt])|abF o p i bq=>cases kT with|no=>simp[fy,CF cY h2.lt]|abF o p i bq=>simp[fy]
def AbA{ao:oB}{n t cw er:o4}{mp cY f4 f5:u}(Q:wS n mp)(h2:wS t cY)(jQ:wS cw f4)(kT:wS er f5)(dw:qe aS2)(iO:oG aS2 (alB n t sz=G)):aPN=Y:=by rw[m2 (PY Q h2 jQ kT),mY i5,←i5,mZ i5,n4 (aUm dw) j J,m2 (pa iO),mY bK,mZ iO,r.all_eq_false,mX Ad j J ?_,nD (If cw er j J) cE cu acF];rw[cu]at bK⊢;rw[mZ cu,wE cE,m2 (by simpa[alB,lL]using bK),mY ba,mZ bK];subst ba;cases Q;rw[m1 (cw=c _) acF,mY alk,mZ dw J acF];subst alk;(cases jQ with|abF _ _ i bq pt _=>simp[lL,Gu _ (nv E' pt.B_.BE)]);rw[m2 (by simpa[alB,lL]using bK),mY cG,mZ bK];subst cG;cases h2;rw[m1 (er=c _) acF,mY alk,mZ dw J acF];subst alk;cases kT with|abF _ _ i bq pt _=>simp[lL,Gu _ (nv E' pt.B_.BE)]
def Abz:∀(a:aH)(h k v di mR:u)(M:pu)(O:q4)(K:j' a M O 3 12)(f g:a9)(a_:qr)(acD:aSk)(U:r6)(afE:g.je=Y)(mq:Ë)(n t cw er:o4)(hs:u5)(aS:hn a v mR cw er)(mp cY f4 f5:u)(Q:wi)(h2:xR)(jQ:yO cw f4)(kT:yO er f5),afi (h+19) 61 [nQ,pV,oF,pg] aPN 12 a M O:=by injections a h k v di mR M O;rw[mY K,mY f g,mY a_ acD U afE mq];injections n t cw er;intro hs aS;injections mp cY f4 f5;rw[mY Q h2 jQ kT,nD (AcP a (h+14) k v di mR n t cw er hs aS g U mq) V avl eh];have cU:=C5 a (h+16) v mR cw er aS;have br:=sP mR _ aS.gs;clear aS;have abW:=HX a (h+17) v g U;rw[afE]at abW;have aoZ:=F5 a.F cw er;have avk:pG 18 60 [nQ,pV] pg:=nd Sp [.K];have i5:=PY Q h2 jQ kT;rw[rs V (by rw[ot (eh e) dw iO,AbA Q h2 jQ kT dw iO,mW AI a O (nd Jh [aZ cU,p br,aZ avk,aZ avl]) aVm]) (by refine AD (Z0 h k v M O a (nF (ov sz "p" (mp|||f4==f4) (cY|||f5==f5))) (a9.D cw er).aY aS2 12 (by rw[mZ i5,mY j J z1 hY aD eE mo,nD (If cw er j J) cE cu acF,ng];have b7:=eE.le;have A1:=nI (K.CE eE) m' 3 c' 6 yk n_;have ars:=b7.ak k f a_;have iP:=hs.CE eE;obtain⟨I,L,Z⟩:=j;simp only at cu acF;subst cu;rw[wE cE,m1 (cw=c _) acF,mY alk,mZ br aoZ eh acF];subst alk;(cases jQ with|abF _ _ i bq pt aB=>exact Pz _ h k _ M _ A1 f ars acD n t iP Y _ (Q.bx b7.ak) L Z i _ (pt.bx b7.ak) aB);rw[m1 (er=c _) acF,mY alk,mZ br aoZ eh acF];subst alk;cases kT with|abF _ _ i bq pt aB=>exact Pz _ h k _ M _ A1 f ars acD n t iP G _ (h2.bx b7.ak) L Z i _ (pt.bx b7.ak) aB) a O 0 B (hj.fI K.aF 0) (by rw[mZ i5,mZ jQ kT br aoZ eh,tm cw (by(induction er using ap.ae with|B=>decide|c x=>rw[qz])) x (by induction er using ap.ae with|B=>rw[qz]|c x=>rw[qz])])) fun bz kO alL aB eE=>?_;rw[i5]at aB;rw[aTy eE,pI aJ aPN (by rw[y3 aB,mW (nd Jh [aZ cU,p br,aZ avk,aZ avl,.K,aZ abW,p aoZ,os aB,aZ (Aao bz (h+17) pV oF cw er)])]) (by rw[y3 aB,mW (nd Jh [aZ cU,p br,aZ avk,aZ avl,.K,aZ abW,p aoZ,os aB])])])]
def j'.gU:∀{a}{M}{O}{H x}(K:j' a M O H x)(l),j' (oP gU l) M O H x:=by rw[mY a M O H x,mY K,mY l,mW (have b7:fR a (oP gU l):=tW;{aF:=u7 K.aF.le K.aF.aS K.aF.eM K.aF.ey K.aF.jX e K.aF.jW,ne:=K.ne,ajg:=fun o aG=>by rw[nt (K.ajg o aG),oe,tp (by rw[vX])];rintro sa bh gd fJ d;rw[m8,mW aQ.bT (b.bx b7),mW aQ.bF (Au _ _ aSz aSA d)],cc:=K.cc,rw:=K.rw,eo:=K.eo,ig:=K.ig})]
def hn.gU:∀{a}{k di}{n t}(b:u5)(l),hn (oP gU l) k di n t:=by injections a k di n t;rw[nR];injections l;cases b with|lP f Q h2 h3=>exact .lP k f Q h2 h3|D _ _ Q=>exact .D k n t Q|bI aj a0 _ _ Q h2 h3 h4=>exact .bI k aj a0 n t Q h2 h3 h4
abbrev adR(l:a9):R:=oo l (nP aj) aj 0
def JA(a:aH)(h)(l):qM 53 [l.aY] (á l):=by induction l using a9.ae with|bI aj=>rw[oq Mx [.K,.K,.K]]|_=>rw[oq Mx [.K,.K]]
def Aaq(a:aH)(h)(br:Ú)(aj mN):qM 54 [.D 17,nr,.m aj,.m mN] oX:=by have K:qh 17 m_:=br▸Gb a;rw[m2 (Il K),mY hs,m1 (AY (c (17,[])) _=G) (hZ K),mY cU];have b2:=(DJ T nT 6 pn (.s wA .C) [tx 17,nn 0,nn aj,nn mN,ß,nn 0,B] a.F a.F (.D 17) [] (c (17,[])) vP hs).ah (ni F9 _ cU);rw[pI hd (b1 (0<aj)) (by rw[oq My [os b2,qa B' hd,.K]]) (by rw[oq My [os b2,qa B' hd]])]
def Acj(a:aH)(h k:u)(v)(f)(a_:qr)(br:Ú):pG 2 55 (ă v) oX:=by have g9:ui acN (.D 17)=c nr:=CX (Fm (Gb a)) (sh br);exact nd Sl [p g9,.K,ą k f a_,aZ (JA a h f),aZ (Aaq a h br (adR f) k)]
def Adr(O:mD)(cf:iV)(d:dz)(l:dv)(w:ch):oC (.adv d)=rr (zJ nk (alK nh q)):=e
def Ro(a:aH)(j:ar)(br:Ú):afk a.F a.F 17 j=c (yu gU [j]):=by rw[m1 (qh 17 m_) (br▸Gb a),mY K];delta afk afL kC;rw[K,mW cr c (PP a [j])]
def ZW(a:aH)(j:ar)(br:a.gU=[j]):alK a.F 17=c (j,yu gU []):=by rw[m1 (qh 17 (vb j)) (br▸Gb a),mY K];delta alK kC;rw[K,mW cr (fun w=>Ÿ j) (PP a [])]
def Zj:∀(a:aH)(h k v di mR:u)(M:pu)(O:q4)(K:j' a M O 3 12)(alg:Ú)(f g:a9)(a_:qr)(acD:aSk)(U:r6)(afE:g.je=Y)(mq:Ë)(n t cw er:o4)(hs:u5)(aS:hn a v mR cw er)(mp cY f4 f5:u)(Q:wi)(h2:xR)(jQ:yO cw f4)(kT:yO er f5),afi (h+20) 58 [nQ,pV,oF,pg] aPN 12 a M O:=by injections a h k v di mR M O;intro K alg;injections f g;intro a_ acD U afE mq;injections n t cw er;rw[mY hs aS,mY mp cY f4 f5,mY Q h2 jQ kT,m3 AR (Abz (oP gU [nE [á f,pV,á g,oF]]) h k v di mR M O (K.gU _) f g a_ acD U afE mq n t cw er (hs.gU _) (aS.gU _) mp cY f4 f5 Q h2 jQ kT)];rintro bz kO br eE;rw[m1 (bz.gU=[nE [á f,pV,á g,oF]]) (by rw[mZ br,m3 AA eE,mZ eE];rintro ao ks cc cj e _;rfl),mY aCZ,mX AI ({bz with gU:=[]}) kO ?_ ?_,aR8 aPN y br];have gr:=sP k f a_;(have apb:ny (zY 19) (.adv (sO "road")) [px,zf,pZ,c pg,tx 2,c rK] bz.F=c (nE [á f,pV,á g,oF],aH.F {bz with gU:=[]}):=by simp only[Adr,AcN,w_var];rw[m6 (ap.bP (nv avA (vT,bz.F)) _=_),Ww,L_ _ _ _ vT e,mW (nv ZW aCZ)]);rw[mW (nd Sm [aZ (Acj a (h+17) k oF f a_ alg),re,aZ (JA a (h+18) f),ą v g U,aZ (JA a (h+18) g),aaF (Ro a (nE [á f,pV,á g,oF]) alg),.K,Ó,aZ apb]),mZ br aCZ,m3 ET eE,mZ eE];rintro ao ks cc cj e e h3 h4 h5 h6 h7 h8;rw[m1 (({fb (oP gU [nE [á f,pV,á g,oF]]) ao _ _ _ with gU:=[]}:aH)=fb a ao ľ cc cj) (by unfold fb;rw[←alg]),mY d,d,m1 (fR (fb (oP gU [nE [á f,pV,á g,oF]]) ao ľ cc cj) (fb a ao ľ cc cj)) tW,mY b7,mW (oM Dq ao e e (u7 h3.le h3.aS e e h3.jX e h3.jW) h4 (fun o aG=>(h5 o aG).bx b7) h6 h7 h8)]
def YM:∀(a bz:aH)(h k v:u)(f g:a9){y:ar}(a_:qr)(U:r6)(mq:Ë)(l2:aSX)(hd:∀aj,f=nP aj→∃aan a0,aj=aan+2∧yU aan)(br:rE 20 58 [nQ,pV,oF,pg]=c (y,bz.F)),rE 21 56 [nQ,pV,oF,pg]=c (y,bz.F):=by injections a bz h k v f g y;intro a_ U mq l2 hd br;have gr:=sP k f a_;clear a_;have jk:=sP v g U;clear U;have aV:=Bn 10 l2;induction h9:(nc f.o==9)using N.ae with|Y=>have aer:f1 a.F .eq (.m f.o) É=c oX:=AH h9;(induction g using a9.ae with|D cw er=>rw[oq EI [re,uO,r0,.K,.K,aPb,p aer,Ó]]|bI aan=>rw[oq EI [re,uO,r0,.K,.K,aPb,p aer,Ó]]|_=>rw[sQ mq])|G=>induction f using a9.ae with|bI aj=>(induction g using a9.ae with|D cw er=>rw[oq EI [re,uO,r0,.K,.K,.K,.K,.K,.K,Ó]]|bI aan=>(induction ahw:(nc aj==aan)using N.ae with|Y=>rw[oq EI [re,uO,r0,.K,.K,.K,.K,.K,.K,.K,.K,rN ahw,Ó]]|G=>rw[m3 AR (hd aj e),mZ hd h9];rintro i0 a0 e hD;exact nd EI [re,uO,r0,.K,.K,.K,.K,.K,.K,.K,.K,rN ahw,.K,p (D5 a _ a0 hD),p (T3 a _ a0 hD),qJ acS (ui iH wM=c Y) e,Ó])|_=>rw[sQ mq])|_=>rw[sQ h9]
def YN:∀(a:aH)(h k v di mR:u)(M:pu)(O:q4)(K:j' a M O 3 12)(alg:Ú)(f g:a9)(a_:qr)(acD:aSk)(U:r6)(afE:g.je=Y)(mq:Ë)(l2:aSX)(n t cw er:o4)(hs:u5)(aS:hn a v mR cw er)(mp cY f4 f5:u)(Q:wi)(h2:xR)(jQ:yO cw f4)(kT:yO er f5),afi (h+23) 23 [nQ,.m 5,pV,oF] aPN 12 a M O:=by rw[mY a h k v di mR M O,mY K alg,mY f g,mY a_ acD U afE mq l2,mY n t cw er,mY hs aS,mY mp cY f4 f5,mY Q h2 jQ kT,mX AR (Ď Zj di mR M O K alg f g a_ acD U afE mq n t cw er hs aS mp cY f4 f5 Q h2 jQ kT) fun bz kO br eE=>?_,mZ acD Q h2,aTy eE,aR8 aPN y br];have b:=YM a bz h k v f g a_ U mq l2 (fun aj d=>by rw[oT];cases hs with|bI aj a0 _ _ b hd=>rw[pr a_,mZ a_,nf b,mZ b,nR,p2 b,pi,mW (nM AI e hd)]|lP _ b aJ=>rw[pr a_,nf b,om,nR,pq];injection aJ|D _ _ b=>rw[pr a_,nf b,om,nR,aPP]) br;exact sk (FK _ a _ 5) 99 y e e (nd MF [.K,aZ b])
def Adl(O)(cf)(o aj)(l)(w a4 dm)(j)(ab)(b:o5 (o0 aU o) Ŭ)(h2:aNL aj=c (ab,dm)):oC (.aay o aj)=c (match aew j O.aay with|qv=>.m y|B=>ab,dm):=by rw[rc (pk ta b)];simp only[ap.eO,ED,h2,ap.ji];induction aew j O.aay using ap.ae<;>rfl
abbrev agt(v:u):a9→R|q8 _=>(aew v T.aay).ld 0|m7 .aO=>3|m7 .D|nP _=>7|uW|rx=>1|.mN=>2|_=>0
def JU:∀(a:aH)(h v:u)(l)(b:aOO)(cK:l.ado=Y),pG 2 13 aQI (pe (agt v l)):=by rw[mY a h v l,mY b cK,m2 (sP v l b),p0,om];induction l using a9.ae with|un i=>rw[sQ cK]|dx k=>(have aG:oD (ny n0 (.aay (.A 1) (.bL "FAM_OTHER" nr)) [nZ,pZ,c (a9.dx k).aY,nn 1,B] a.F) (pe (agt v (q8 k))):=by rw[qn Adl v _ vP (Dj ..)];unfold agt;induction aew v T.aay using ap.ae<;>rfl);exact nd DO [p d,.K,.K,aZ aG]|aO y ac=>rw[oq DO [p d,.K,.K,.K]]|D|bI=>rw[oq DO [p d,.K,.K,.K,.K]]|bY n=>rw[oq DO [p d,.K,.K,.K,.K,.K,.K,aZ (Em a h v4),.K]]|bi k=>rw[oq DO [p d,.K,.K,.K,.K,.K,.K,aZ (Em a h ur),.K,.K]]|mN=>rw[oq DO [p d,.K,.K,.K,.K,.K,.K,aZ (Em a h .mN),.K,.K]]|jc=>rw[oq DO [p d,.K,.K,.K,.K,.K,.K,aZ (Em a h rx),.K,.K]]
abbrev aH.fH(a:aH)(f g x:c_):aH:=((a.As f).As g).As x
mutual variable(a:aH)(aS:pN)(f g x aj:c_)
include aS
def C1:(aRp).F=((tD f)++[g])++[x]:=by have Q:=Ð D_ f;rw[m2 (D_ _ g Q),mY h2];unfold aH.fH;simp only[←Cc _ x h2,←Cc _ g Q,←Ð Cc f]at⊢
def KU:n9 (aRp).F a.ad f:=by rw[aOL,r.jP (by rw[y5]),r.jP (by rw[y5]),←Bj]at⊢;simp
def Pn:n9 (aRp).F vS g:=by rw[aOL,r.jP (by rw[y5])]at⊢;simp only[show vS=(tD f).z by rw[y5]]at⊢;simp
def GC:n9 (aRp).F aUw x:=by simp only[aOL,show aUw=((tD f)++[g]).z by rw[y5]]at⊢;simp
def ZE:(aRp).F.b6 a.ad aj=(a.fH aj g x).F:=by rw[aOL,aOL,m7 r.abC (by rw[y5]),m7 r.abC (by rw[y5]),←Bj]at⊢;simp
def ZF:(aRp).F.b6 vS aj=(a.fH f aj x).F:=by rw[aOL,aOL,m7 r.abC (by rw[y5])]at⊢;rw[show vS=(tD f).z by rw[y5],aQr (m7 r.ake)]at⊢;simp
def KV:(aRp).F.b6 aUw aj=(a.fH f g aj).F:=by simp only[aOL,aOL,show aUw=((tD f)++[g]).z by rw[y5],aQr (m7 r.ake)]at⊢;simp
end
def Lt(O:mD)(cf:iV)(d j:dz)(l:dv)(w:ch)(q:u)(a4 dm:ch)(y:ar)(H i aeL:nC)(Q:uw n3)(bf:pO a4 (oU aeL))(h2:aNL j=c (y,dm))(bK:ast y=c H)(h3:pO dm rj)(h4:i.z+H.z<du):oC (.aft d j)=c (.B,aOJ (.aw (i++H))):=by rw[mX CO Q (CO h2 ?_),mX (cr (ap.au _) (show aug a4 dm q y=c (aOJ (.aw (i++H)))from J' (ĺ afL bf) (CO bK ?_))).ah e];unfold kC;rw[h3,mW c0 h4]
abbrev aDG:cx:=oo atF (.s _ (.s _ (.s _ (ġ (.ag2 _ g))))) g .C
abbrev aiH(a:aH)(v:u)(fe fi:pl):dv:=[nZ,pZ,sS,c (wk vS),c (wk aUw),fe,fi]
def PA(n t:o4):(fy n t).z≤2:=by rw[tm n (by(induction t using ap.ae with|B=>decide|c x=>rw[qz])) x (by induction t using ap.ae with|B=>rw[qz]|c x=>rw[qz])]
mutual variable(a:aH)(aS:pN)
include aS
def Pp(f g:c_)(y:ar)(O:mD)(cf:iV)(l:dv)(b:(l[4]?).afO=c (wk aUw)):aU O cf (.adv p6) l (a.fH f g (vb y)).F=c (y,(a.fH f g m_).F):=tg (oM Lw O _ (a.fH f g (vb y)).F _ [] y (CK b) (Ũ GC)) (ru KV)
def Po(f x)(i)(o){g}(b:aUR i=g):f1 (a.fH f uH x).F .gH qw (wk vS)=c qA:=by rw[tC CT,m6 ((match(a.fH f uH x).F[vS]? with|c (.bE H)=>(nK (Y&&(ar.m o).im jA) (c (kx qw H).eF))|c (u_ H)=>c (aUR H)|_=>B)=c g),ru Pn,←b]
def Pq(f x)(i)(o:u)(b:i.z<10):lm (a.fH f (sp i) x).F vS qw nG=c (a.fH f (uG (aTk i o)) x).F:=by unfold lm;rw[ru Pn,m6 ((nK (rH dq i<du) nJ)=_),c0 (by unfold dq;rw[vO,mW (Ĺ b)]),Ki,ru ZF]
def ZD(f g)(y):afk (a.fH f g m_).F (a.fH f g m_).F aUw y=c (a.fH f g (vb y)).F:=by delta afk afL kC;rw[ru GC]at⊢;exact cr c (Ũ KV)
end
def OE:∀(a:aH)(aS:pN)(h v b9:u)(n t:o4)(b:q_ b9 vE)(f6:nq)(hs:b9∉f6)(iQ:f6.z<10)(fe fi:pl),∃anz,b4 T vY aDG (aiH a v fe fi) (a.fH m_ aOI (vb (.m b9))).F=c (na,aiH a v (nn b9) anz,(a.fH (uE aOY jO) (uG (aTk f6 b9)) m_).F):=by rw[mY a,mY aS,mY h v b9 n t,nR,mY f6,mY hs iQ,mY fe fi,y1 (c zO)];have apb:=aSV Pp aOI (.m b9) T vY (aiH a v fe fi) e;have ala:=JU (a.fH m_ aOI m_) h b9 vE b e;have il:=aSV Po m_ (dq f6) b9 ((Ka ..).ah (jq hs));have au3:b1 (nc b9<0)=Y:=jq (R.aa6.gS (R.ab8 _));have br:=AK (a.fH m_ (uG (aTk f6 b9)) m_) b9 vE b;have Aw:∀w,rm (eC w zO nr) 8:=fun w=>m7 Bo;have aV:=fun w=>F5 w n t;have t0:iH [] ps=c Y:=e;rw[m2 (PA n t),mY aaZ];(have aim:ny vY (.aft ph (.aT sw nG)) (aiH a v (nn b9) (c zO)) (a.fH m_ (uG (aTk f6 b9)) m_).F=c (.B,(a.fH (uE aOY jO) (uG (aTk f6 b9)) m_).F):=qZ (qn Lt (a.fH _ (uG (aTk f6 b9)) m_).F (wt aOY jO) _ [] _ vP (Ũ KU) (qW [qa aV []]) e (Ũ KU) (by simp only[r.hN,r.am9,u.aaa];exact aUO aaZ)) (ru ZE));have lf:=aSV Pq m_ f6 b9 iQ;exact pK [aZ apb,p il,qa Cz au3,aZ ala,.K,aaF lf,p br,qa Aw [],.K,qa Aw [],.K,qa Aw [],.K,qa Aw [],.K,.K,aQ3,.K,aQ3,.K,aQ3,.K,.K,aZ aim]
def Xb:∀(a:aH)(aS:pN)(h v aj:u)(a0:lr)(b:q_ v (z5 ģ))(hd:ŀ)(U:aUF),∃anz,b4 T vY aDG (aiH a v B B) (a.fH m_ (sp []) (vb oF)).F=c (na,aiH a v pZ anz,aS4 (vb (.m a0.bD))):=by rw[ug,mY aS];injections h v aj a0;rw[mY b hd U,y1 (c (a9.bI ģ).aY)];have apb:=aSV Pp (sp []) oF T vY (aiH a v B B) e;have ala:=JU (a.fH m_ (sp []) m_) h v (z5 ģ) b e;have il:=aSV Po m_ (dq []) v (g:=Y) e;have au3:b1 (nc v<0)=Y:=jq (R.aa6.gS (R.ab8 _));have lf:lm (a.fH m_ (sp []) m_).F vS oF nG=c (aS4 m_):=aSV Pq m_ [] v nw;have br:=AK (a.fH m_ aRW m_) v (z5 ģ) b;have adh:acN (aS4 m_) (.D 4)=c (aQh a.ds.z):=CX (Fm (CW (a.fH m_ aRW m_))) (by rw[m6 (ob a.l0.z=_),show a.l0.z=z6 by simp only[aH.l0,r.kZ,LN]];rfl);have jf:b1 ((nc aj+2)<(nc a.ds.z+2))=G:=hZ (R.agc (R.aa7.gS (r.gF.1 hd).1) 2);have afp:=fun V=>D5 (a.fH m_ aRW ů) aj a0 hd;have Aw:rm (eC [] (a9.bI ģ).aY nr) 9:=m7 Bo;have aav:eC [] (a9.bI ģ).aY nG=c (aQh aj):=e;have aIv:aOc 2 14 [oW,(a9.bI ģ).aY] (aS4 m_)=c (zk,aS4 m_):=nd R_ [Ů,p adh,qa Cz jf,Ů,qa afp []];have agC:=fun V=>M3 (a.fH m_ aRW ů) aj a0 hd;(have aH1:gz T (aS4 (vb (.m a0.bD))) zk "bases"=c ps:=by rw[m2 (Jw (a.fH m_ aRW (vb (.m a0.bD))) aj a0 hd),m5,o6 U,mW aa]);(have aim:ny vY (.aft (.A 4) (ī (ø à sw nG) "bases")) (aiH a v pZ (c (a9.bI ģ).aY)) (aS4 (vb (.m a0.bD)))=c (.B,aS4 (vb (.m a0.bD))):=qZ (qn Lt (a.fH m_ aRW _).F (nE _) [] [.m a0.bD] _ vP (Ũ GC) (qW [Ů,qa afp [.m a0.bD],p aH1]) e (Ũ GC) (aRZ (1<du))) (ru KV));exact pK [aZ apb,p il,qa Cz au3,aZ ala,.K,aaF lf,p br,Ě,.K,Ě,.K,aZ aIv,.K,Ě,.K,Ů,qa afp [],qa agC [],aaF (aSV ZD aRW (.m a0.bD)),aZ aim]
def IT(a:aH)(f):(a.As f).ad=vS:=by simp[aH.ad,aH.As,u.la]
def KL(a:aH)(aS:pN){O}{cf}{Aa}{l}{vs}(b:oD (h0 O cf Aa l a.F) vs):aVl O (.hw Aa)=c (.D a.ad,uI (oU vs)):=by simp only[C7,b,←Ð Cc _,←Bj];rfl
def OT(a:aH)(aS:pN){O}{cf}{l}:aVl O (.lK G)=c (.D a.ad,uI sj):=by rw[IA,←Ð Cc _,←Bj];rfl
def Qf{O}{cf}{x}{l}{w a4}{y}{g}(b:o5 (o0 aU x) y)(U:aTA a4):o5 (o0 adA x) g:=by unfold adA;rw[b,ap.eO,U];rfl
def Lm{w}{q}{i}(b:yq):iH w n3=c aPX:=aP4 iH b
def Xa:∀(a)(aS:pN)(h v di)(n t)(b:hn a v di n t)(g)(U:r6)(mq:Ë),∃acc,rE 3 15 aQI=c (.D a.ad,(a.fH (uE aOY jO) aUH m_).F):=by rw[ug,mY aS];injections h v di n t;rw[nR,mY g,mY U mq];have Q:=Ð D_ m_;have g1:ny vY ň [nZ,pZ,B,B,B,B,B] a.F=_:=KL a aS e;have gW:ny vY (.lK G) [nZ,pZ,sS,B,B,B,B] (uI m_)=_:=OT _ Q;have kI:ny vY (.hw (nA qc)) [nZ,pZ,sS,c (wk vS),B,B,B] ((a.As m_).As sj).F=_:=KL _ (nv D_ Q) (vs:=[oF]) e;rw[IT]at gW kI;rw[IT]at kI;have aeF:∀fe fi f k(V:nC),adA T vY p6 (aiH a v fe fi) (a.fH f k ů).F=c (! V.dD,(a.fH f k ů).F):=fun fe fi f k V=>Qf vP (Lm (Ũ GC));cases b with|lP f Q h2 _=>rw[U]at Q;rw[nf Q,mZ Q,mY Q];subst Q;clear U g1 gW kI aeF;(induction g using a9.ae<;>first|rw[qT mq]|rw[qT h2])|D _ _ Q=>rw[n4 (OE a aS h v v n t Q [] r.aaE nw B B) anz he,mW ⟨qU,nd Mo [aZ g1,aZ gW,aZ kI,os ((Fw ..).ah ((ni (p5 DH 4095) (uF aeF [oF]) he).ah (m7 (ni Fu) (Ķ aeF))))]⟩]|bI aj a0 _ _ Q hd aH5 br=>rw[n4 (Xb a aS h v aj a0 Q hd aH5) anz he,m1 (a0.bD∉qU) (by intro bK;rw[ŵ bK,Q]at br;rw[nf br,mZ br,mY br];injection br),mY dw,n4 (OE a aS h v a0.bD n t br qU dw (aRZ (1<10)) pZ anz) aNC auO,mW ⟨fN qU a0.bD,nd Mo [aZ g1,aZ gW,aZ kI,os ((Fw ..).ah ((ni (p5 DH 4095) (uF aeF [oF]) he).ah ((qn DH (Ķ aeF) auO).ah (m7 (ni Fu) (Ķ aeF)))))]⟩]
def UL(a:aH)(aS:pN)(f g x)(y)(aJ:y.eJ a.ad=G)(l):oD (afv a.F.z a.F (ua rO (aRp).F)) y:=by rw[m1 ((aRp).F=a.F++[f,g,x]) (by rw[aOL]at⊢;simp),mY d,m1 (y.eJ a.F.z=G) (by rw[Bj]at⊢;exact aJ),mY ab0];rw[d]at⊢;simp only[afv,ap.eO,Nz,KQ,ab0,N.aen,fU,r.aET]
abbrev asn:ar:=nE [og "charAt",og "concat",og "includes",og "indexOf",og "length",og "slice",og "toLowerCase",og "toString",og "toUpperCase"]
def W3:∀(a)(aS:pN)(h v di)(n t)(b:hn a v di n t)(g)(U:r6)(mq:Ë),pG 4 16 aQI (qP zD):=by rw[ug,mY aS];injections h v di n t;rw[mY b,mY g,mY U mq,n4 (Xa a aS h v di n t b g U mq) acc aB,m2 (fun y l=>UL a aS (uE aOY jO) aUH m_ rK e l),mY aeD];have hg:=KU a aS (uE aOY jO) aUH m_;clear b U mq;generalize a.fH (uE aOY jO) aUH m_=z1 at aB aeD hg;have lA:=Il hg;(have cU:AY (c (a.ad,(xB).au jO)) z1.F=G:=y9 AY hg);(have abt:oG xB (sz="p"∨sz="q"):=fun j J=>by rw[nD (If n t j J) cE cu P,mZ P,cu,mZ cu lA cU hg aeD aB J,wE cE,mW qN,mW yp]);(have kD:∀xs:r (ea×u×N),(oG xs (sz="p"∨sz="q"))→∀eN,∃k4,fZ (aO6 pc (nA (ts (xM (on eq (rk acu (r_ 3 rn) (.bL "P_OPT" nG)) nr) (on lM (rq 3) (.bL "PRIMITIVE_NAMES" asn))) (nA aQC)))) 3 (c (a.ad,(xB).au jO)) (xs.au jO) (aS9 eN) z1.F=c (if xs.de (nF (nW j))then na else aQC,aS9 k4,z1.F):=tV xs xs (by intro _ eN;exact⟨eN,ni F9 _ cU⟩) j xs (by rw[mY J eN,n4 (ih (aRq J) (c (jO j))) k4 br,m2 (aUN J),mY apj,ng];obtain⟨I,L,Z⟩:=j;rw[rs Z (by rw[vi k4 ((n7 (ni HF) cU).ah ?_)];have:f0 T pc (nA (ts (xM (on eq (rk acu (r_ 3 rn) (.bL "P_OPT" nG)) nr) (on lM (rq 3) (.bL "PRIMITIVE_NAMES" asn))) (nA aQC))) (aS9 (c (jO (I,L,G)))) z1.F=c (na,aS9 (c (jO (I,L,G))),z1.F):=pK [.K,.K,.K];exact((pk (fun p=>afw p _) aa).ah (NA ..)).ah br) (by rw[vi (c (jO (I,L,Y))) ((n7 (ni HF) cU).ah ?_),m1 (f0 T pc (nA (ts (xM (on eq (rk acu (r_ 3 rn) (.bL "P_OPT" nG)) nr) (on lM (rq 3) (.bL "PRIMITIVE_NAMES" asn))) (nA aQC))) (aS9 (c (jO (I,L,Y)))) z1.F=c (aQC,aS9 (c (jO (I,L,Y))),z1.F)) (by clear br ih abt;(rw[nY apj apj,y2,m9,y2,m8])<;>(rw[m1 (I=_) d,aRr (pK [.K,.K,.K,.K,.K])])),m5,mW (pk (fun p=>afw p _) aa).ah (UN ..)])]));rw[n4 (kD xB abt B) k4 aix];have jr:=Ch T pc (on gH (rq 4) (.bL "PRIMITIVE_NAMES" asn)) 4 ph (aS9 k4) z1.F z1.F aP5 _ xB jO (nF (ar.aO Y)) vP lA cU (fun j J=>by rw[m2 (pa abt),mY apj,mZ J aix abt kD];obtain⟨I,L,Z⟩:=j;(rw[nY apj apj,y2,m9,y2,m8])<;>(rw[m1 (I=_) d,aRr (qW [.K,.K])]));have ik:=w3 GZ pc z1.F z1.F _ _ jr (CP _ (nO Y));(have aCi:(ow xB P Y).dS id=Y:=by clear jr aix kD abt cU lA aeD aB hg ik;generalize xB=i;induction i with|C=>rfl|s j i ih=>exact ih);rw[aCi]at ik;have i4:iH z1.F aP5=c (! zD):=pX Lm hg (by rw[r.isEmpty_map]);rw[m1 (zD=G→(xB).de (nF (nW j))=G) (ol (aUx r.alq.mp d)),mY iO];simp only[R'];rw[mX ack.ah (cr _ ?_) (aeD _ (aS9 k4)),mZ jr aCi kD abt cU hg aeD aS];revert aix;generalize(xB).de (nF (nW j))=f at iO⊢;generalize zD=d at iO i4⊢;rw[mY aix,rs f (by(rw[rs d (by exact pK [aZ aB,.K,os (F8 lA aix),acS i4]) (by exact pK [aZ aB,.K,os (F8 lA aix),acS i4,aOt])])) (by rw[rs d (by exact N.cs (iO e)) (by exact pK [aZ aB,.K,os (F8 lA aix)])])]
abbrev ku(a:aH):Prop:=∀(aj:u)(a0:lr),ŀ→aUF
inductive lU(a:aH)(k:u):bv→Prop|i9(g:u):zi k g→lU a k (pf k g 0 0)|iv:k=1→å k "unknown"→lU a k (zB k)|lk:k=10→å k "object"→lU a k (zA k)|di(n t:o4)(mp cY:u)(f:a9):qr→aSc→ë→k≠10→wi→xR→(Ŗ u5)→lU a k (vF k)
def c1.A2:∀{a}{k}{a7}(y:tv)(Q:aQe)(h2:aTc),aWc:=by rw[mY a k a7,mY y Q h2];cases y with|i9 _ g n=>exact .i9 g n|iv d=>exact .iv e d|lk d=>exact .lk e d|D _ n t mp cY d Ab cC c4=>exact .di n t mp cY _ d e (m4 (X7 Ab)) (m4 (X8 Ab)) cC c4 (nO ⟨k,.D k n t d⟩)|bI _ aj a0 n t mp cY d Ab hd dt U cC c4=>exact .di n t _ _ _ d e (vD [k] 1 Ab) (vD [k] 10 Ab) cC c4 (fun cK=>qo (.bI k aj a0 n t d hd (cK aj a0 hd) dt))|bY _ n g s'=>exact ej e (m7 h2)|un _ i dr=>rw[qT Q]
def eH.Fd{ao}{n}{H}(b:wS n H):(H==0)=Y∧(H|||0==0)=Y:=by(have:H≠0:=by cases b with|no=>decide|abF o p i bq pt _=>rw[mZ f,p0];have dw:=qk pt.KH;have U:=pt.B_;clear pt;cases U with|C=>exact dw e|s q g i bq gJ _=>rw[m1 aPR (by rw[oz gJ l P gJ,mW gJ.BE]),mY aIN,m1 ((adq p (g::bq)).ln (aie g)=G) (by simp only[adq,u.anv,CD,r.akC,M1 g aIN,N.asA,N.ahR]),mY aS];rw[d]at aS;simp at aS);simp[aa]
def a9.DF{l:a9}(b:l.iF=G):l.acI=Y∧l.abA=Y∧l.AG=Y∧l.ado=Y∧l≠rx∧aOx:=by induction l using a9.ae<;>simp[a9.iF]at b<;>(rw[qz])
def lU.gs:∀{a}{k}{a7}(o:aWc),∃f,qr∧f.abA=Y∧f.AG=Y∧f.ado=Y∧(k=1∨ë):=by rw[vj k a7,mY o];cases o with|i9 g n=>rw[oz n l d n];have:=n.ge;exact(Ht l d (oj aa) (qk aa).1 (qk aa).2 (aQ.bF aa.1))|iv b d=>exact(Ht _ d e e e Î)|lk b d=>exact(Ht _ d e e e (aQ.bF (m4 (yQ (Am [k] 1 0 10 S S 1 e (AN b) (Az dO))))))|di n t mp cY f d hs Q kB=>have:=a9.DF hs;exact(Ht f d (nj aa) (oj aa) (ou aa) (aQ.bF Q))
def Fi:∀(g)(b:aPR),(g|||511==511)=G∧(511|||g==g)=Y∧(g|||0==0)=Y:=by rw[mY g b,mW (aWh ((j|||511==511)=G∧(511|||j==j)=Y∧(j|||0==0)=Y) g (DA b))]
def ie.BE{ao}{q g}(n:aNY q):aPR:=by rw[oz n l P n,mW n.BE]
def FE(n t):(n=B∧t=B∧vI=508)∨((n≠B∨t≠B)∧vI=0):=by induction n using ap.ae<;>induction t using ap.ae<;>(rw[qz])
abbrev aGd(a:aH)(k v:u):Prop:=∀f g,qr→r6→Ŏ→vw≠-1
abbrev aGe(a:aH)(k v:u):Prop:=∃f g,qr∧r6∧vw=-1
abbrev aFt(a:aH)(k v:u)(a7 st:bv):Prop:=∃n t mp cY f,qr∧aSc∧a7=vF k∧wi∧xR∧st=zA v∧(Ŗ u5)
abbrev aFv(a:aH)(k v:u)(a7 st:bv):Prop:=∃n t mp cY cw er f4 f5 g,r6∧Ë∧wi∧xR∧yO cw f4∧yO er f5∧(Ŗ u5)∧(Ŗ (hn a v di cw er))∧u4=aPN
abbrev afb(a:aH)(h k v:u)(a7 st:bv):Prop:=(aGd a k v∧pG 6 94 pM (n5 u4))∨(Ŏ∧aGe a k v∧((v=10∧aFt a k v a7 st)∨(aSX∧aFv a k v a7 st)))
def AaM{k v}{f g}(b:v=1):vw=1:=by delta kJ acW;rw[c0 b];rfl
def AaN{k v}{f g}(aS:ê)(hs:k=1)(U:g.AG=Y):vw=0:=by delta kJ acW;rw[cH aS,c0 hs,U];rfl
def DB{k v}{f g}(aS:ê)(hs:ë)(a_:f.abA=Y)(U:g.abA=Y):vw=ov v 10 (if f.acI then 0 else-1) (if g.acI then(t_ f.acI (ae4 k v f g))else if k=4∨k=5 then 0 else-1):=by delta kJ acW;rw[cH aS,cH hs,aSv,a_,U];rfl
structure aek(a:aH)(k v:u)(a7 st:bv)(f g:a9):Prop where
 ne:Ŏ
 a_:qr
 U:r6
 fa:aSk
 ly:g.je=Y
 jU:mP k
 cR:mP v
 afU:f.abA=Y
 afV:g.abA=Y
 BE:g.AG=Y
 abV:f≠g
def aek.Fn{a}{k v}{a7 st}{f g}(V:aek a k v a7 st f g)(h)(y:N)(Q:vw=t_ y 1)(h2:u4=y):afb a h k v a7 st:=by refine aQ.bT ⟨fun dE bZ gj dL P=>?_,?_⟩;cases(V.a_.cq.ah gj);cases(V.U.cq.ah dL);rw[Q,mZ Q h2];induction y using N.ae<;>decide;rw[h2,mW (Ď G_ f g V.ne V.a_ V.U V.fa V.ly V.jU V.cR (oE (V.abV ((od).ah (qK).cq))) y Q)]
def EE(n t):vI=508∧n=B∧t=B∨vI=0∧(n≠B∨t≠B):=by rw[nt (FE n t),mY J,Ö,ng];rintro j ab d;rw[tp (by rw[nV])];rintro b d;rw[m8,mW .bT (AE d j ab),mW .bF (sR d)]
def OR{ao}{n t}{mp cY}(Q:wS n mp)(h2:wS t cY)(b:n≠B∨t≠B):((2047|||mp==mp)&&(2047|||cY==cY))=Y:=by rw[ŕ,oe,m9,oe,m8];(cases Q with|no=>exact ej e b|abF o p i bq pt=>rw[Gu _ (nv E' pt.B_.BE),N.aeu]);cases h2 with|no=>exact ej e b|abF o p i bq pt=>rw[Gu _ (nv E' pt.B_.BE),N.an3]
def H_{ao}{H}(b:wS B H):H=2047:=by cases b;rfl
def Tl:∀{a}{h k v}{a7}{f g}(V:aek a k v a7 (zB v) f g)(ks:aWc)(aS:v=1),Ď afb a7 (zB v):=by rw[mY a h k v a7 f g,mY V ks aS,mX V.Fn h G (AaM aS) ?_,mZ V aS];induction ks using lU.ae with|i9 df n=>rw[m6 (gX df 0 0 511 2047 2047=G)];unfold gX;rw[(Fi df n.BE).1];rfl|iv b _=>rw[m6 (gX 511 2047 2047 511 2047 2047=G)];decide|lk=>rw[m6 (gX 0 2047 2047 511 2047 2047=G)];decide|di n t mp cY aM _ _ _ _ cC c4=>rw[m6 (gX vI mp cY 511 2047 2047=G)];unfold gX;simp only[CF mp cC.lt,CF cY c4.lt,N.aib,N.ahR,N.aib];(rw[nt (EE n t),mY J,nV,ng];rintro d _;rw[m9,mY J,nV,ng];rintro d _;rw[m8])<;>rw[d]<;>decide
def Jr:∀{a}{h k v}{st}{f g}(V:aek a k v (zB k) st f g)(adp:lU a v st)(hs:k=1)(aS:ê),Ď afb (zB k) st:=by rw[mY a h k v st f g,mY V adp hs aS,mX V.Fn h Y (AaN aS hs V.BE) ?_,mZ V];induction adp using lU.ae with|i9 df n=>rw[m6 (ni gX 0 0=Y)];unfold gX;rw[nj (Fi _ n.BE),N.aeu]|iv b _=>exact ej b aS|lk=>rw[m6 (gX 511 2047 2047 0 2047 2047=Y)];decide|di n t mp cY aM _ _ _ _ cC c4=>rw[m6 (gX 511 2047 2047 vI mp cY=Y)];unfold gX;(rw[nt (EE n t),mY J,nV,ng];rintro d _;rw[m9,mY J,nV,ng];rintro d _;rw[m8])<;>rw[d]<;>exact N.aeu _
def Tk:∀{a}{M}{O}{h k v df c6}{f g}(aF:qG)(V:aek a k v aV4 aV3 f g)(bN:zi k df)(pt:zi v c6),aSb aV4 aV3:=by injections a M O h k v df c6 f g;rw[mY aF V bN pt,m1 (el aV4 aV3=(df|||c6==c6)) (N.aib _),mY aJ,mX (rW aQ.bT (fun dE bZ gj dL P=>?_) (nb aJ (I0 a M O aF h k v df c6 bN pt))),mZ aF aJ,oz bN l d n,oz pt r' a5 cw];cases(V.a_.cq.ah gj);cases(V.U.cq.ah dL);cases(V.a_.cq.ah d);cases(V.U.cq.ah a5);have Q:=n.ge;have h2:=cw.ge;rw[DB h2.1 Q.1 V.afU V.afV,cH (nj h2),ou h2,ou Q,vp,vp,Pw k v f g df c6 n cw V.abV];split<;>decide
def Tj:∀{a}{h k v df}{f g}(V:aek a k v aV4 (zA v) f g)(bN:zi k df)(b:v=10),aSb aV4 (zA v):=by rw[mY a h k v df f g,mY V bN b,oz bN l d n];cases(V.a_.cq.ah d);have Q:=n.ge;rw[mX V.Fn h Y ?_ ?_,DB (show ê by rw[b];decide) Q.1 V.afU V.afV,c0 b,ou Q];rfl;rw[m6 (m7 (gX _ 0 0 0)=Y)];unfold gX;rw[nW (Fi _ bN.BE),N.aeu]
def ZX{q g}{l}(n:zT):(q=4∨q=5)↔(g=1∨g=2):=by cases n with|un|nl|st|avV|Ap=>decide|f b|g b|a b|d b=>exact avs (aOy X9) nw
def Ti:∀{a}{M}{O}{h k v df mp cY}{n t}{f g}(aF:qG)(V:aek a k v aV4 (vF v) f g)(bN:zi k df)(fG:Ë)(aa1:ê)(l2:aSX)(cC:wi)(c4:xR)(iD:Ŗ (hn a v di n t)),aSb aV4 (vF v):=by injections a M O h k v df mp cY;injections n t f g;rw[mY aF V bN fG aa1 l2 cC c4 iD,oz bN l d anr];cases(V.a_.cq.ah d);have Q:=anr.ge;have aeA:=aUC fG;have jw:=DB aa1 Q.1 V.afU V.afV;rw[cH l2,aeA,cH N.aoC]at jw;have asl:=ZX anr;by_cases amN:k=4∨k=5;rw[c0 amN]at jw;rw[mX V.Fn h Y jw ?_,m6 (m7 (gX _ 0 0 _)=Y)];have U:=asl.mp amN;clear asl amN jw V aF bN iD d anr Q;(rw[nt (EE n t),mY J,nV,ng];rintro d _;rw[m9,mY J,nV,ng];rintro d _;rw[m8])<;>rw[d]<;>(rw[aRF U U])<;>rfl;rw[cH amN]at jw;rw[mX aQ.bF (Ê (AE V.ne (Au f g V.a_ V.U jw)) (qd l2 (ni JI n t _ _ g V.U fG (.no) (.no) cC c4 (nO ⟨11,.lP k f V.a_ (ou Q) (nv aF.eX e)⟩) iD ?_))),m6 (m7 (gX _ 0 0 _)=_),m1 (¬(df=1∨df=2)) (nF (amN (asl.gS j))),mY U];have ba:=bN.BE;rw[mZ asl amN jw V aF iD d anr Q aeA fG,nt (EE n t),mY J,Ö,ng];rintro d e e;rw[m9,aO2 d dw,m8];cases H_ cC;cases H_ c4;rw[d,mW (aWh (¬(j=1∨j=2)→m7 (gX j 0 0 _)=G) _ (DA ba) U),d,OR cC c4 dw];unfold gX;rw[nW (Fi _ ba),N.aeu]
def Th:∀{a:aH}{h k v c6:u}{g:a9}(V:aek a k v (zA k) aV3 (q8 "object") g)(hs:k=10)(pt:zi v c6),aSb (zA k) aV3:=by injections a h k v c6 g;rw[mY V hs pt,oz pt l d n];cases(V.U.cq.ah d);have Q:=n.ge;rw[mX V.Fn h Y ?_ (N.an3 _),DB Q.1 (show ë by rw[hs];decide) V.afU V.afV,cH (nj Q),ou Q,vp,m6 (ae4 k v _ g=0)];unfold ae4;rw[cH (aU7 hs),cH (by rw[m6 (¬(aP9=nc v)),mW fun dO=>B4 (A5 [↑v] 1 0 b5 (-1) 0 b5 e (R.fp dO.cq) vV)]),cH (oE aOk)]
def Tg:∀{a:aH}{M:pu}{O:q4}{h k v mp cY:u}{n t:o4}{g:a9}(aF:qG)(V:aek a k v (zA k) (vF v) (q8 "object") g)(hs:k=10)(fG:Ë)(aa1:ê)(l2:aSX)(cC:wi)(c4:xR)(iD:Ŗ (hn a v di n t)),aSb (zA k) (vF v):=by rw[mY a M O h k v mp cY,mY n t g,mY aF V hs fG aa1 l2 cC c4 iD,m2 (DB aa1 (show ë by rw[hs];decide) V.afU V.afV),mY jw];rw[cH l2,aUC fG,cH N.aoC,cH (aU7 hs)]at jw;rw[mX aQ.bF (Ê (AE V.ne (Au _ g V.a_ V.U jw)) (qd l2 (ni JI n t _ _ g V.U fG (.no) (.no) cC c4 (nO ⟨11,.lP k _ V.a_ e (nv aF.eX e)⟩) iD ?_))),m6 (gX 0 2047 2047 vI mp cY=_)];unfold gX;simp only[u.zero_or,aaU,N.ace];rfl
def Tf:∀{a:aH}{h k v c6 mp cY:u}{n t:o4}{f g:a9}(V:aek a k v (vF k) aV3 f g)(fG:aSc)(iP:ë)(cC:wi)(pt:zi v c6),aSb (vF k) aV3:=by rw[mY a h k v c6 mp cY,mY n t f g,mY V fG iP cC pt,oz pt l d anr];cases(V.U.cq.ah d);have Q:=anr.ge;rw[mX V.Fn h Y ?_ ?_,DB Q.1 iP V.afU V.afV,cH (nj Q),ou Q,vp,aUC fG];rfl;rw[m6 (gX vI mp cY c6 0 0=Y)];unfold gX;simp only[cC.Fd.1,cC.Fd.2,N.ags,N.aeu,N.an3]
def Te:∀{a}{h k v mp cY}{n t}{f g}(V:aek a k v (vF k) (zA v) f g)(fG:aSc)(iP:ë)(cC:wi)(c4:xR)(iD:Ŗ u5)(b:v=10),aSb (vF k) (zA v):=by rw[mY a h k v mp cY,mY n t f g,mY V fG iP cC c4 iD b,m2 (DB (show ê by rw[b];decide) iP V.afU V.afV),mY jw];rw[c0 b,aUC fG,cH N.aoC]at jw;exact aQ.bF (AE V.ne (Au f g V.a_ V.U jw) (aQ.bT (qd b (Ne n t mp cY f V.a_ fG e cC c4 e iD))))
def Td:∀{a:aH}{M:pu}{O:q4}{h k v mp cY f4 f5:u}{n t cw er:o4}{f g:a9}(aF:qG)(V:aek a k v (vF k) (.cl v (gC cw er) f4 f5) f g)(fG:aSc)(iP:ë)(cC:wi)(c4:xR)(iD:Ŗ u5)(agJ:Ë)(aa1:ê)(l2:aSX)(agQ:yO cw f4)(agR:yO er f5)(ajI:Ŗ (hn a v di cw er)),aSb (vF k) (.cl v (gC cw er) f4 f5):=by rw[mY a M O h k v mp cY f4 f5,mY n t cw er f g,mY aF V fG iP cC c4 iD agJ aa1 l2 agQ agR ajI,m2 (DB aa1 iP V.afU V.afV),mY jw,mZ iP];(have aC1:¬(k=4∨k=5):=nF (by clear iD jw;have aJ:=aUC fG;rw[mZ fG,nY j j,n8,m9,n8,m8];cases((ł 4).cq.ah V.a_);cases aJ;cases((ł 5).cq.ah V.a_);injection aJ));rw[cH l2,aUC agJ,cH N.aoC,cH aC1]at jw;rw[mX aQ.bF (Ê (AE V.ne (Au f g V.a_ V.U jw)) (qd l2 (JI n t mp cY cw er f4 f5 g V.U agJ cC c4 agQ agR iD ajI ?_))),m6 (gX vI mp cY (gC cw er) f4 f5=_)];unfold gX;rw[cC.Fd.1,N.ags,mZ jw aC1 V iD ajI fG agJ aF aa1 l2,nt (EE n t),mY J,Ö,ng];rintro d e e;rw[m9,aO2 d dw,m8];cases H_ cC;cases H_ c4;rw[d,nt (EE cw er),mY J,nV,ng];rintro a5 _;rw[m9,mY J,nV,ng];rintro a5 aCN;rw[m8,a5];rfl;rw[a5,OR agQ agR aCN];rfl;simp only[d,u.zero_or,aaU,N.ace]
def MK:∀{a}{M}{O}(aF:qG)(h k v)(a7 st)(ks:aWc)(adp:lU a v st)(vs:tv)(dj:xP),afb a h k v a7 st:=by rw[vj M O,mY aF];injections h k v a7 st;rw[mY ks adp vs dj,nH cU k v,mZ adp];subst cU;cases vs.fn dj;rw[m1 (el a7 a7=G) (by clear vs dj;cases ks<;>(first|rw[ũ]|rw[qz]|simp[el,BA,BB,BC,gX])),m5,tC aQ.bT,tf,mW ⟨fun P P P P b=>ej e b,FG a _ k⟩,mX AF vs.gs fun f a_ fa jU=>?_,mX AF dj.gs fun g U ly cR=>?_,mZ vs dj,m1 (f≠g) (by rw[mZ ly,mY d,oT,mW cU (Fe aF a_ U)]),mY abV,mX HD ks.gs fun dE gj afU P P P=>?_,mX HD adp.gs fun bZ dL afV asg P P=>?_];cases(a_.cq.ah gj);rw[mZ P,mZ gj];cases(U.cq.ah dL);rw[m1 (aek a k v a7 st f g) ⟨cU,a_,U,fa,ly,jU,cR,afU,afV,asg,abV⟩,mY V,mZ cU fa ly jU cR afU afV asg abV];revert V;induction adp using lU.ae with|iv aS _=>exact fun V=>Tl V ks aS|i9 c6 pt=>rw[m2 (pt.az fun l n=>(nh).ge.1),mY aS];(induction ks using lU.ae with|iv hs _=>exact fun V=>Jr V (.i9 _ pt) hs aS|i9 df bN=>exact fun V=>Tk aF V bN pt|lk hs d=>cases(a_.cq.ah d);exact fun V=>Th V hs pt|di n t mp cY aM d fG iP _ cC c4 iD=>cases(a_.cq.ah d);exact fun V=>Tf V fG iP cC pt)|lk aS akR=>rw[m1 ê (aU7 aS),mY aa1];(induction ks using lU.ae with|iv hs _=>exact fun V=>Jr V (.lk aS akR) hs aa1|i9 df bN=>exact fun V=>Tj V bN aS|lk hs d=>exact fun V=>ej (hs.ah aS.cq) V.ne|di n t mp cY aM d fG iP _ cC c4 iD=>cases(a_.cq.ah d);exact fun V=>Te V fG iP cC c4 iD aS)|di cw er f4 f5 aMI a5 agJ aa1 l2 agQ agR ajI=>cases(U.cq.ah a5);induction ks using lU.ae with|iv hs _=>exact fun V=>Jr V (ni .di _ a5 agJ aa1 l2 agQ agR ajI) hs aa1|i9 df bN=>exact fun V=>Ti aF V bN agJ aa1 l2 agQ agR ajI|lk hs d=>cases(a_.cq.ah d);exact fun V=>Tg aF V hs agJ aa1 l2 agQ agR ajI|di n t mp cY aM d fG iP _ cC c4 iD=>cases(a_.cq.ah d);exact fun V=>Td aF V fG iP cC c4 iD agJ aa1 l2 agQ agR ajI
def AcY:∀(a)(aS:pN)(h k di)(n t)(b:u5)(f)(a_:qr)(aCk:aSc)(kB:å 10 "object"),pG 10 23 [nQ,.m 5,pV,vl 10] (n5 (! zD)):=by rw[mY a,mY aS,mY h k di n t,nR,mY f,mY a_ aCk kB];have aB:=W3 a aS h k di n t b f a_ aCk;(have l3:pG 5 57 [nQ,pV] (n5 (! zD)):=by rw[pI he zD (by rw[he]at aB;exact nd Mz [aZ aB,aZ (XO a (h+3) (.m 11)),.K]) (by rw[he]at aB;exact nd Mz [aZ aB])]);have eh:pG 7 23 [nQ,.m 14,pV,ŭ] (n5 (! zD)):=FK (h+6) a a 14 22 100 _ _ _ e e (nd R8 [Ų]);have afq:pE a.F (.D 2) ŭ=c (a9.dx "object").aY:=sP 10 _ kB;have aG4:pG 8 56 [nQ,pV,ŭ,pg] (n5 (! zD)):=nd EI [ą k f a_,p afq,.K,aZ eh];exact FK (h+9) a a 5 21 99 _ _ _ e e (nd MF [.K,aZ aG4])
def ZZ(n t):(vI|||0==0)=! zD:=by rw[tm n (by(rw[tm t (by rfl) g (by kernel_rfl!)])) f (by rw[tm t (by rw[ũ]) g (by kernel_rfl!)])]
def ku.CE:∀{a z1}{M}{O hY}{aD}(b:yT)(l:aRv),ku z1:=by rw[mY a z1 M O hY aD,mY b l,m3 AA l,n2];rintro ao ks cc cj e _;exact b
def Aas{a z1}{M}{O hY}{aD}(b:Ú)(l:aRv):z1.gU=[]:=by rw[m3 AA l,n2];rintro ao ks cc cj e _;exact b
def lU.Xt{a}{k}{a7}(o:aWc):aQe∧a7.dh=16∧aTc:=by cases o<;>exact(AE e (by rfl) (fun q g=>ra))
def S4:∀(a)(h k v)(M)(O)(K:j' a M O 3 12)(a7 st)(ks:aWc)(adp:lU a v st)(vs:tv)(dj:xP)(cK:yT)(br:Ú)(b:((v=10∧∃n t mp cY f,qr∧aSc∧a7=vF k∧wi∧xR∧st=zA v∧(Ŗ u5))∨(aSX∧∃n t mp cY cw er f4 f5 g,r6∧Ë∧wi∧xR∧yO cw f4∧yO er f5∧(Ŗ (hn a k di n t))∧(Ŗ (hn a v di cw er))∧u4=aPN))),afi (h+24) 37 pM u4 12 a M O:=by injections a h k v M O;intro K;injections a7 st;rw[mY ks adp vs dj cK br b,m3 HD ks.gs,mY f a_ afU aDZ aD0 _,m3 HD adp.gs,mZ adp,mY g U afV asg aKy _,mZ a_2,mZ ks,ŕ,mY J];rcases J with(⟨kB,n,t,mp,cY,dE,gj,ajy,e,cC,c4,e,iD⟩);rw[m9,mY J];rcases J with(⟨kB,n,t,mp,cY,cw,er,f4,f5,bZ,dL,auJ,cC,c4,agQ,agR,hs,aS,aJ⟩);rw[m8];rw[a_]at gj;rw[aRh gj gj gj gj,m3 Al (iD cK),mY di fG,mZ U dj];subst kB;have aB1:=K.aF.eX 10 _ e;rw[m2 (AcY a K.aF.aS (h+13) k _ n t fG f a_ ajy aB1),mY eh,mX AI a O ?_ aVm,m1 (el (vF k) (zA 10)=! zD) (by rw[←ZZ];simp only[el,BA,BB,BC,gX,CF mp cC.lt,CF cY c4.lt,N.aen,N.ahR,N.aib]),mY i5,i5,mW Im _ k _ a a f _ _ a_ aD0 aB1 e (by rw[m1 ((f.AG||(a9.dx "object").AG)=Y) (sh aDZ),m5,tf,mW eh])];rw[U]at dL;rw[nf dL,mZ dL,mY dL];subst dL;rw[m3 Al (hs cK),mY di fG,n4 (aS cK) mR agJ,mX AF vs.gs fun a2 ak5 fa jU=>?_,mX AF dj.gs fun dn agB ly cR=>?_];rw[a_]at ak5;rw[nf ak5,mZ ak5,mY ak5];subst ak5;rw[U]at agB;rw[aRh agB agB agB agB,mX AR (Ď YN di mR M O K br f g a_ fa U ly auJ kB n t cw er fG agJ mp cY f4 f5 cC c4 agQ agR) fun bz kO Q h2=>?_,aTy h2,aJ,mW Im _ k v a _ f g _ a_ aD0 U aKy (by rw[m1 ((f.AG||g.AG)=Y) (qZ aDZ asg),m5,tf,mW Q])]
open gw in
abbrev cN(a:aH)(n:u):bv:=if b:∃k,uu n then gw.choose b else qs []
def Be{a}{n}{k}(y:uu n):pF n=k:=by have b:∃k,uu n:=⟨k,y⟩;unfold cN;rw[azX b,mW (gw.choose_spec b).fn y]
def KB{a}{i:nq}{dr}(aB:i.z=dr.z)(b:∀(aq f:u)(k),p7 i f→p7 dr k→uu f):xY i.au=dr:=by rw[aP0,mY aq,r.adf];by_cases cQ:aq<i.z;have a1:p7 i i[aq]:=r.hV cQ;have a2:nX dr aq (dr[aq]'(m4 (aQO (aV7 [i.z,dr.z,aq]) (Az aB) cQ))):=ų;simp only[a1,a2,ap.ji,Be (b aq _ _ a1 a2)];rw[rJ r.aii,r.aii (m4 (Am [i.z,dr.z,aq] ai a8 ai S S a8 e (AN aB) (x8 cQ)))];rfl
def KE{a}{i:nq}{dr:tK}(aB:i.z=dr.z)(b:∀(aq f:u)(k),p7 i f→p7 dr k→uu f){n}(ba:n∈i):sl n (pF n)∧pF n∈dr:=by rw[aP1 aq cQ (r.apA.1 ba),m1 (p7 i i[aq]) (r.hV cQ),mY a1,m1 (nX dr aq (dr[aq]'(m4 (aQO (aV7 [i.z,dr.z,aq]) (Az aB) cQ)))) ų,mY a2];have y:=b aq _ _ a1 a2;rw[Be y,mW ⟨y,r.aij _⟩]
def PK(dr)(k)(b:k∈dr):k.An≤sx:=qb dr (by cases b) f dr (by simp only[G4,G5];rw[aSq,n8,m9,oe,m8];exact u.aJ1 ..;rw[m2 Ű,m5,mW u.eI aa (u.aJ2 ..)])
def Qt(dr):bv.ag3 dr=(dr.au bv.dh).aaL:=qb dr (by rfl) f dr (by simp only[QZ,Q0,r.gI,r.ans,ih])
def Hi{a}{i}{dr}(b:xY i.au=dr):aeo (w5 (v5 n)) i=bv.ag3 dr:=by simp only[Qt,←b,r.aeN];rfl
def LS{a}{i:nq}{dr}(b:xY i.au=dr)(ac):(aN4 (ac (cN a n)))=dr.de ac:=by rw[←b,r.atl];rfl
def c1.CZ:∀{a}{k}{a7}(y:tv)(g)(U:n9 a.ak k g),(g.ado=a7.jg)∧(g.AG=G↔∃q j,a7=.bY q j):=by rw[mY a k a7,mY y,mY g,mY U];cases y with|i9 _ df n=>rw[oz n l d n];rw[U]at d;rw[nf d,mZ d,mY d,oT];have:=n.ge;exact⟨sh (qk aa).2,aNF (qk aa).1⟩|iv d=>rw[U]at d;rw[mZ U,nf d,aRr (wz (rA a9.AG))]|lk d=>rw[U]at d;rw[mZ U,nf d,aRr (wz (rA a9.AG))]|D _ _ _ _ _ d=>rw[U]at d;rw[mZ U,nf d,aRr (wz (rA a9.AG))]|bI _ _ _ _ _ _ _ d=>rw[U]at d;rw[mZ U,nf d,aRr (wz (rA a9.AG))]|bY _ n bZ s' d=>rw[U]at d;rw[mZ U,nf d,aRr (wz (rA a9.AG))]|un _ i dr d=>rw[U]at d;rw[mZ U,nf d,aRr (wz (rA a9.AG))]
def bv.DR(a7:bv):(aQe∧aTc)∨(∃q g,a7=.bY q g)∨(∃i,a7=r2):=by induction a7 using bv.ae with|cl=>exact aQ.bT (wz ra)|bY q g=>exact aOB aQ.bT (BN q g e)|un i=>exact Ê aQ.bF (qS i)
def lU.An:∀{a}{k}{a7}(o:aWc),(∃n t mp cY f,qr∧aSc∧wi∧a7=vF k)→a7.An=3∧a7.Bf=4:=by rw[vj k a7,mY o,mZ o,mY J];rcases J with(⟨n,t,mp,cY,f,_,_,cC,e⟩);(have:mp≠0:=wy cC.Fd.1);simp[Ci,Cj,Ck,Ex,Ey,Ez,aa]
def Cg(k v)(b:v.jg=Y):el k v=aVs:=by induction v using bv.ae<;>simp[bv.jg]at b<;>rfl
def GT{a}{k}{a7}(y:tv):hb a7 (zB 1)=G:=by induction y with|i9 q g n=>simp only[BA,BB,BC,gX,(Fi g n.BE).1];rfl|iv=>rfl|lk=>rfl|D q n t mp cY _ _ cC c4=>(rw[nt (FE n t),mY J,Ö,ng];rintro _ _ d;rw[m9,mY J,nV,ng];rintro _ d;rw[m8])<;>rw[d]<;>simp only[BA,BB,BC,gX,CF mp cC.lt,CF cY c4.lt,N.aib,N.ahR]<;>decide|bI q aj a0 n t mp cY _ _ _ _ _ cC c4=>(rw[nt (FE n t),mY J,Ö,ng];rintro _ _ d;rw[m9,mY J,nV,ng];rintro _ d;rw[m8])<;>rw[d]<;>simp only[BA,BB,BC,gX,CF mp cC.lt,CF cY c4.lt,N.aib,N.ahR]<;>decide|bY q n g k _ _ _ _ _ ih=>simp only[BA,BB,BC,ih,N.ahR]|un q i dr _ _ _ _ aB b _ ih=>simp only[BA,BB,BC,Is,r.hp];rw[mY k hs,aP1 aq cQ (r.apA.1 hs),mW ih aq _ _ (aUI (Am [i.z,dr.z,aq] (a8+1) S ai S (a8+1) ai e (AN aB) cQ)) (r.hV _)]
abbrev asN(o:u):Prop:=∀(a:aH)(h k v:u)(a7 st:bv)(M:pu)(O:q4),a7.An<o→tv→xP→st.jg=Y→yT→Ú→j' a M O aQB a7.dh→af8 (v7 40) 94 pM u4 a7.dh a M O
def P8:∀(a)(h k v)(a7 st)(M)(O)(iN:asN a7.An)(aF:qG)(vs:tv)(dj:xP)(cK:st.jg=Y)(un:yT)(br:Ú)(cU:Ŏ)(f g)(a_:qr)(U:r6)(aa0:vw=-1)(K:∀H,H<aQB→j' a M O H qY),afi (v7 37) 37 pM u4 qY a M O:=by injections a h k v a7 st M O;intro iN aF vs dj cK un br cU;injections f g;intro a_ U aa0 K;have mJ:=vs.CZ f a_;have afA:=dj.CZ g U;rw[cK]at afA;rcases a7.DR with⟨Q,h2⟩|⟨q,bh,e⟩|⟨dr,e⟩;clear iN;have ks:=vs.A2 Q h2;have kE:=nj ks.Xt;rw[m1 (f.AG=Y) (by induction ba:f.AG using N.ae with|Y=>rfl|G=>rw[Ĩ (nj mJ ba) q j d,mW ej d (h2 q j)]),mY acB];rcases st.DR with⟨jQ,kT⟩|⟨aq,aee,e⟩|⟨lt,e⟩;clear cK afA;have adp:=dj.A2 jQ kT;rw[mZ jQ kT,nt (nM (MK aF 0 k v) ks adp vs dj),mY J,nV,ng];rintro b _;rw[m9,mY J,Ö,ng];rintro _ _ b;rw[m8,mW ej aa0 (b f g a_ U cU)];(have h3:3<aQB:=by rw[mZ dj K,ŕ,mY J];rcases J with(⟨_,n,t,mp,cY,dE,gj,ajy,d,cC,c4,_⟩);rw[m9,mY J];rcases J with(⟨_,n,t,mp,cY,cw,er,f4,f5,bZ,dL,auJ,cC,c4,agQ,agR,_,_,_⟩);rw[m8,m2 (ks.An (Nd n t _ _ _ gj ajy cC d)),m5];simp only[bv.ha];rw[mW Ag [a7.An,st.Bf] (3+1) (Ļ+ai) (qQ 2 3) Ļ e (AM 2 (AN aa.1)),mZ adx,m1 (st.Bf=4) (by cases adp with|i9 _ pt=>rw[oz pt l d pt];rw[dL]at d;rw[nf d,oA,mY d,oT,m2 (ou pt.ge),m5,o6 (aUC auJ),wO aa]|iv=>rfl|lk=>rfl|di n t mp cY f cC c4 h4 h5 H h6 aC6=>rw[m2 H.Fd.1,m5];simp only[Ex,Ey,Ez];rw[m1 (mp≠0) (o7 aa),mY dw,cH dw]),m5];simp only[bv.ha];exact Ag [st.Bf,a7.An] (3+1) (xr 2+S) 4 S e (AN aa));have hg:=K 3 h3;rw[kE]at hg⊢;rw[mX AR (S4 a (v7 13) k v M O (rJ (hg.CE (hj.fI hg.aF 0) yk)) a7 st ks adp vs dj un br b) fun bz kO aV bj=>?_,mW (nM AI aV (rJ bj.bx)),mZ vs ks kE,m2 (nW afA (BN aq _ e)),mY arv,m2 (K 0 (by simp[bv.ha,Ex,Ey,Ez])),mY hg,mZ K,mX AI a O ?_ (aWt hg.aF),mZ hg,m1 (el a7 (.bY aq aee)=Y) (by clear mJ;induction a7 using bv.ae with|cl=>rfl|bY q j=>exact ej e (h2 q j)|un i=>rw[qT Q]),mY i5,i5,mW Im _ k v a a f g _ a_ (tg mJ.1 Q) U (Ĕ afA.1) (by rw[arv,N.ahR,vp,mW ZH _ k _ f a a_ acB]),mW (yX cK),mZ mJ,mZ aa0];(cases vs with|bY _ n bZ _ d Ab afy aat aef=>rw[ä,nf d,oA,mY d,oT,m2 (K (m7 bv.ha) (aUn bv.ha Ci Cj Ck (AJ [bh.An,st.Bf] (Ļ+ai+1) (vc 2+ai) e))),mY hg,mZ K];(have kE:(bv.bY k bh).dh-1=bh.dh:=uJ);rw[kE]at hg⊢;rw[s3 (iN a nB bZ v bh st M O (by simp[Ci,Cj,Ck]) aef dj cK un br hg) bz kO Q h2 P,mZ P,m1 (el (z_ k) st=el bh st) (by rw[mZ U afA hg Q,nv Cg cK,nv Cg cK];induction st using bv.ae with|cl=>rfl|un i=>rw[qT cK]|bY aq j=>clear cK;cases dj;simp only[BA,BB,BC];rw[m1 ((k==v)=Y) (o7 cU),m5,aa,N.ags]),mY i5,i5,aTy h2,m1 ((bv.bY k _).An=aUj) uJ,mY g_,g_,rh (va aUj+37) ((aQs 43)+2) (BI [bh.An,h] (ai+(vc 8)+37) (rg ai 8+43+2) e),mX (p5 (Im _ k v a) g a_ e U (Ĕ afA.1) ?_),Ŧ (((a9.bY n).AG||g.AG)=G),vp,aU3 (aQs 43+1) ((aQs 40)+4),mX (sk (Pt _ k v n) a a_ afy aat ?_),rh (aQs 40+1) (nB+8*bh.An+40) (BI [bh.An,h] (rg ai 8+40+1) (rg nN 8+40) e),mW Q]);rw[mZ aa0,mZ cU];cases vs with|un _ i _ d Ab dw aB jt aJ agH=>rw[ä,mZ mJ,nf d,oA,mY d,oT];have hg:=K (bv.ha (qs dr) st-1) (aUn bv.ha Ci Cj Ck (Ag [2*(vo+1)+st.Bf-1,vo,st.Bf] nm (x6 2+a8) nm (x6 2+a8) e (q2 Az (AJ [2*(sx+1)+st.Bf-1,vo,st.Bf] 1 (x6 2+a8) e))));have afF:=KB jt aJ;(have kE:(bv.un dr).dh-1=bv.ag3 dr:=uJ);simp only[kE]at hg⊢;(have g_:(bv.un dr).An=sx+1:=uJ);refine AR (J1 (va sx+42) k v M O a hg.aF i a_ (vD [k] 2 Ab) (w5 (el (pF n) st)) (w5 (v5 n)) (by rw[mY n ba z1 hY aD eE mo,ot (KE jt aJ ba) awR bK];rw[Hi afF]at mo;have b7:=eE.le;have alh:=PK dr _ bK;rw[m2 (nI (hg.CE eE) m' (m7 bv.ha) c' (v5 n) (by dsimp only[bv.ha,g_];exact Am [vo,sd n,st.Bf,2*(vo+1)+st.Bf-1] (xr 2+a8) eK (xr 2) Ļ (vc 2+a8) (eK+1) e (AM 2 alh) (q2 AN (AJ [vo,sd n,st.Bf,2*(sx+1)+st.Bf-1] 1 (vc 2+a8) e))) mo),mY ain,m2 (p5 (iN _ (va aRa+3) n v) M (yo g_) (awR.bx b7) aUK cK (un.CE eE) (Aas br eE) ain),m5,rh (va vo+42+1) (va (vo-sd n)+3+8*sd n+40) (y' (Ag [vo,sd n,h,vo-sd n] (rg a8 8+42+1) (ro (sn a8 8 eK+3) 8+40) (su 8) (tz 8 (eK+ai)) e (AM 8 (q2 AN (Ag [vo,sd n,h,aRa] ai S ai S e alh)))) (Ag [vo,sd n,h,vo-sd n] (ro (sn a8 8 eK+3) 8+40) (rg a8 8+42+1) (tz 8 (eK+ai)) (su 8) e (AM 8 (q2 Az (Ag [vo,sd n,h,aRa] ai S ai S e alh))))),mW aa])) fun bz kO Q h2=>?_;simp only[Hi afF]at h2;rw[m1 ((aN4 (m7 el))=el (qs _) _) (by rw[LS afF (fun k=>el k _),nv Cg cK];simp only[BA,BB,BC,Is];rw[uh];funext k;exact Cg k _ cK),mY i5];rw[i5]at Q;rw[aTy h2,g_,rh (va (vo+1)+37) ((va vo+42+2)+1) (BI [vo,h] (ai+(vc 8)+37) (rg ai 8+42+2+1) e),mW Le _ k v a _ i g _ a_ U Q]
def bv.Ix(k:bv):1≤k.dh:=by induction k using bv.ae<;>simp[EA,EB,EC]
def Zi:∀{a}{k v}{a7 st}(vs:tv)(dj:xP)(f g)(a_:qr)(U:r6)(cU:Ŏ)(cK:st.jg=Y)(hc:¬(aQe∧aTc)∨¬(∀q g,st≠.bY q g)),vw=-1∨(v=1∧el a7 st=G∧vw=1):=by injections a k v a7 st;intro vs dj;injections f g;rw[mY a_ U cU cK hc,m2 (vs.CZ f a_),mY mJ];have afA:=dj.CZ g U;rw[nH aS v 1,mZ cK hc afA];right;clear U cU;subst aS;rw[mX AE e ?_ uJ,m1 (st=zB 1) (by cases dj with|i9 _ df n=>rw[p4 n,mZ n,mY l _ n,mW ej e n.ge.1]|iv=>rfl|D _ _ _ _ _ _ b=>omega|bI _ _ _ _ _ _ _ _ b=>rw[aRm]|bY _ _ _ _ _ b=>rw[aRm]|un _ _ _ _ b=>rw[aRm]),m5,mZ dj,uM,nv Cg e,mW GT vs,mZ dj];left;rw[nH hs k 1,mZ mJ,mZ a_ cU];subst hs;rw[m1 (a7=zB 1) (by clear hc;cases vs with|i9 _ df n=>rw[p4 n,mZ n,mY l _ n,mW ej e n.ge.1]|iv=>rfl|D _ _ _ _ _ _ b=>omega|bI _ _ _ _ _ _ _ _ b=>rw[aRm]|bY _ _ _ _ _ b=>rw[aRm]|un _ _ _ _ b=>rw[aRm]),mY aJb,mZ vs];subst aJb;(have arv:g.AG=G:=by rw[nY hc hc,oe,m9,oe,m8,mW ej (wz ra) b];induction st using bv.ae with|bY q j=>exact nW afA (BN q j e)|cl=>exact ej ra b|un=>rw[qT cK]);rw[m1 (g.abA=G) (by clear U afA;induction g using a9.ae<;>simp[a9.AG]at arv<;>rfl),mY aru];simp[kJ,acW,aS,arv,aru];clear vs;apply Ik k v f g hs aS;rw[nY hc hc,oe,m9,oe,m8,m1 (f.ado=G∨f.AG=G) (by induction a7 using bv.ae with|cl=>exact ej (wz ra) b|bY q j=>exact aOB (nW mJ) (BN q j e)|un i=>left;rw[mJ.1];rfl),m5];(rw[nY aa aa,oe,m9,oe,m8])<;>(clear a_ mJ;induction f using a9.ae)<;>simp[a9.ado,a9.AG]at b<;>rfl;induction st using bv.ae with|bY q j=>rw[m2 (nW afA (BN q j e)),nR,mZ U afA];induction g using a9.ae<;>simp[a9.AG]at b;exact N.anq.2 yp|cl=>exact ej ra b|un=>rw[qT cK]
def I1:∀{a:aH}{M:pu}{O:q4}(aF:qG)(h k v:u)(a7 st:bv)(vs:tv)(dj:xP)(cK:st.jg=Y),(∃f g,qr∧r6∧(k=v∨vw≠-1)∧pG 6 94 pM (n5 u4))∨(Ŏ∧∃f g,qr∧r6∧vw=-1):=by rw[vj M O,mY aF];injections h k v a7 st;rw[mY vs dj cK,mX AF vs.gs fun f a_ fa jU=>?_,mX AF dj.gs fun g U ly cR=>?_,nH cU k v];left;clear cR;subst cU;rw[mX Bx f g a_ U aQd ?_,m1 (el a7 st=G) (by rw[vs.fn dj];rcases st.DR with⟨Q,h2⟩|⟨q,j,e⟩|⟨i,e⟩;clear cK;cases dj.A2 Q h2<;>(first|rw[ũ]|rw[qz]|simp[el,BA,BB,BC,gX]);simp[el,BA,BB,BC];exact yX cK),m5,tf,mW FG a _ k];by_cases hc:(aQe∧aTc)∧(∀q g,st≠.bY q g);rw[nt (MK aF h k v _ _ (vs.A2 hc.1.1 hc.1.2) (dj.A2 cK hc.2) vs dj),mY J,nV,ng];rintro Q h2;rw[m9,mY J,Ö,ng];rintro _;rw[mY J,vX,ng];rintro dE bZ gj dL h3;rintro _;rw[m8,mW aQ.bT (Bx f g a_ U (aQ.bF (Q f g a_ U cU)) h2),mW aQ.bF (qd cU (Au _ _ gj dL h3)),m1 (¬(aQe∧aTc)∨¬(∀q g,st≠.bY q g)) (by rw[nt (gw.em (aQe∧aTc)),oe,m9,oe,m8,mW aQ.bF fun h'=>rW hc b h',mW Î]),mY agD,nt (Zi vs dj f g a_ U cU cK agD),oe,m9,mY J,Ö,ng];rintro _ Q h2;rw[m8,mW aQ.bF (qd cU (Au f g a_ U b))];left;rw[mX Bx f g a_ U (aQ.bF (aU7 h2)) ?_,Q,mX (Ď G_ f g cU a_ U fa ly jU cR ?_ _ h2),mZ fa ly h2,mY J,nV,ng,oc e,mW cU (Fe aF a_ U)]
def RB(o:u):asN o:=by induction o with|hf=>rw[mY a h k v a7 st M O b,mW BZ (Ag [a7.An] 1 0 nm 0 e b)]|gk o ih=>rw[mY a h k v a7 st M O aG vs dj cK un br K,m1 (asN _) (fun z' aiL s' iu awu asx fA kt b=>qn ih (m4 (aV8 (aWd [a7.An,o,awu.An]) aG b))),mY iN,nt (I1 K.aF (v7 34) k v _ _ vs dj cK),mY J,ri BV,ng];rintro f g _ _ _ b;rw[m9,mY J];rcases J with(⟨cU,f,g,a_,U,aa0⟩);rw[m8,mW Au a O b aVm rp,m2 a7.Ix,mY eh];(have d:a7.dh=qY+1:=m4 (Br _ S nN _ nN e (rz (s7 (Ag [a7.dh,qY] 1 S 1 S e eh)))));have b7:ö uz:=tW;have:=G9 a (v7 34) k v qY M O a7 st (uq d K) vs dj f g cU a_ U aa0 (fun cu ψ=>P8 uz h k v a7 st M yA iN (K.aF.AL _ cu) aUJ aUK cK un br cU f g a_ U aa0 (fun H bK=>K.AL vs dj e bK (m4 (Ag [a7.dh,qY] (ai+1) S nN S e (AN d))) cu));simp only[←d]at aa;exact aa
structure hy(a z':aH)(x:u):Prop where
 bs:z'.bs=a.bs
 xs:z'.xs=a.xs
 ds:z'.ds=a.ds
 dK:z'.dK=a.dK
 iL:z'.iL=a.iL
 bw:z'.bw=a.bw
 gU:z'.gU=a.gU
 e4:z'.e4=a.e4
 abj:z'.abj=a.abj
 fQ:z'.fQ=a.fQ
 lZ:z'.lZ=a.lZ
 cc:z'.c2≤a.c2+x
 gT:z'.ak.z≤a.ak.z+4*x
 ak:aRM a.ak z'.ak
 ca:∀(aq:u)(p:c_),xk≠a.Ap→p7 a.ca p→p7 z'.ca p∧xk≠z'.Ap
def hy.fI(a)(x):hy a a x:=⟨e,e,e,e,e,e,e,e,e,e,e,m4 (A4 [a.c2,↑x] b5 zC 0 d5 e vV),n_,fun ψ ψ b=>b,fun ψ ψ b h'=>sR h'⟩
def hy.ah{f g x}{H h}(b:hy f g H)(o:hy g x h):hy f x (H+h):=⟨o.bs.ah b.bs,o.xs.ah b.xs,o.ds.ah b.ds,o.dK.ah b.dK,o.iL.ah b.iL,o.bw.ah b.bw,o.gU.ah b.gU,o.e4.ah b.e4,o.abj.ah b.abj,o.fQ.ah b.fQ,o.lZ.ah b.lZ,by rw[m2 b.cc,m5,m2 o.cc,m5,mW X_ aUh aa],by rw[m2 b.gT,m5,m2 o.gT,m5,mW X' aUh aa],fun q l d=>o.ak q l (b.ak q l d),fun aq p d a5=>by rw[ot (b.ca aq p d a5) aV bj,mW o.ca aq p bj aV]⟩
def hy.bx{f g}{H h}(b:hy f g H)(o:H≤h):hy f g h:={b with cc:=q7 b.cc (A5 [↑H,↑h,g.c2,f.c2] gY (acq+d5) b5 d5 gY (acq+b5) e (Bb o) aa),gT:=q7 b.gT (Am [H,h,g.ak.z,f.ak.z] a8 (ro eK 4) (su 4) (xr 4) a8 (rg eK 4) e (AM 4 o) aa)}
def hy.le{a z'}{x}(b:aNV x):yy:=⟨b.ak,fun aj a0 d=>(Ad a0 (nb b.ds d) e),fun n g d=>by unfold abQ at*;rw[b.dK,mW d]⟩
def dI.Fj{a}{M}(aF:ĵ)(o):dI (j4.AL a [] o) M ub:=aF.AL o r.aaE
def j'.Fj{a:aH}{M:pu}{m' c' k v:u}{a7 st:bv}(aF:ĵ)(vs:tv)(dj:xP)(ajC:m'<aQB)(aB:a.c2+c'+1<20000)(br:aSY (4*c'))(hd:a.e4+1+m'<60)(hc:c'<3980):j' (j4.AL a [] o1) M [o1] m' c':={aF:=aF.Fj _,ne:=ra,ajg:=by have b7:ö (j4.AL a [] o1):=tW;rw[mY o aG,ŵ aG,mW aQ.bF (rJ (Au a7 st aUJ aUK))],cc:=yh (vR+nc c'<20000) (oa A4 [a.c2,↑c'] (vk+d5) 20000 (zC+1) 20000 e aB),rw:=br,eo:=hd,ig:=hc}
def dI.BP:∀{a:aH}{M fA:pu}{O:q4}(aF:qG)(aG:∀(f g:u)(y:N),((f,g),y)∈fA→∃sa bh,ty f sa∧ty g bh∧y=el sa bh)(hs:ob fA.z≤a.c2),dI ({a with ey:=[],fO:=iR fA}:aH).BP fA []:=by rw[mY a M fA O,mY aF aG hs,mW (have b7:fR a ({a with ey:=[],fO:=iR fA}:aH).BP:=tW;{kh:=aF.kh,eX:=aF.eX,cO:=aF.cO,aS:=by dsimp only[aH.BP];split<;>simp,eM:=e,ey:=e,jX:=r.ahO,fO:=e,ks:=fun f g y d=>by rw[s3 (aG f g y d) sa bh gd fJ cV,mW Au sa bh aSz aSA cV],jW:=aSf r.am9 u.aaa hs})]
def Oo:∀(a:aH)(h k v x:u)(M:pu)(aF:ĵ)(a7 st:bv)(vs:tv)(dj:xP)(aB:a.c2+x+1<20000)(hc:x<3980)(hd:a.e4<60)(adl:hA o1 M=B→afi nB 37 pM u4 x Ľ M [o1]),∃z' fA,qf (rE 2 27 pM) (n5 u4)∧dI z' fA []∧hy a z' (x+1)∧aPm∧(hA o1 fA).eF=G:=by injections a h k v x M;intro aF;injections a7 st;intro vs dj aB hc hd adl;induction aG:hA o1 M using ap.ae with|c y=>rw[s3 (aF.ks k v y (n7 Kp aG)) sa bh gd fJ d];simp only[gd.fn vs,fJ.fn dj]at d;rw[oT,mW BU a M (Ko a nB k v M aF.fO _ aG) aF aVC (fun ψ b=>b) (by rw[aG]at⊢;rfl)]|B=>obtain⟨bz,kO,br,ao,ks,cc,cj,e,e,gi,eE,aiA,kg,js,fT⟩:=adl aG;rw[mZ adl,m1 (ö Ľ) tW,mY ad4];have b7:=ad4.ah (KO Ľ ao ([o1]++ks) cc cj eE);clear ad4;simp only[r.aKZ]at gi br b7 aiA;have aiz:=gi.jW;have hlo:(aRN Ľ wv).c2=vR+cc:=e;simp only[hlo]at aiz;clear hlo;have g_:=Ď On M [] ks aF aG r.aaE (m4 (oa A5 [a.c2,↑x] b5 20000 (zC+1) 20000 0 d5 e aB vV)) hd ao cc cj u4 (m4 (Bu [x,ks.z,cc] (ai+1) 3990 nm 3980 ai a8 a8 S e hc kg js)) gi.jX (m4 (oa A5 [a.c2,↑x,↑cc] (b5+gY) 900000 (zC+1) 20000 gY d5 e aB (Bb js))) (by simp only[r.avS]at⊢;exact A4 [a.c2,↑cc,↑(wv).z,↑M.z] aQ9 (zC+1) aQ9 (vk+d5) e aiz) br;clear aG br;have mK:fR (aRN Ľ wv) (aPM wv):=tW;(have ape:ao.z≤a.ak.z+4*(x+1):=by rw[m1 ((Ľ).ak.z=a.ak.z) e,m5,mW (yw Am [x,ao.z,(Ľ).ak.z,a.ak.z] (eK+(vc 4)) (rg a8 4) a8 eK e fT (Az aa))]);rw[mZ fT,pI aJ u4 (by rw[y3 g_];simp only[ahu,fU]at g_;have aaV:dI (aPM wv) M wv:=u7 gi.le aF.aS e e gi.jX e (yh (_≤a.c2+aQl) (A4 [a.c2,↑cc,↑(wv).z,↑M.z] aQ9 (aO7 d5) aQ9 (vk+d5) e aiz));rw[m2 (Wy wv M),mZ kg,mY kg,mX BU _ (abw wv M) g_ (aaV.BP ?_ ?_) ?_ (fun o b=>n7 Ol Î) (n7 Ol (aQ.bF tG)),mY f g y d,nt (n7 Wz d)];(rw[oe]);rw[tp (by rw[nV])];(rintro b h');rw[m8,mW aaV.ks f g y b,mZ d];simp only at b h';subst h';rw[aSq];(rw[oe]);rw[m9];(rw[oe]);rw[m8];cases b;rw[mW Au a7 st ((vs.bx b7).bx mK) ((dj.bx b7).bx mK) aJ.cq,m3 At ((aiA _ b).bx mK),mY sa bh gd fJ d,mW Au sa bh gd fJ d.cq,m6 (_≤a.c2+aQl),mW A5 [a.c2,↑cc,↑(wv).z,↑M.z,↑(abw wv M).z] aqD (aO7 d5) aQ9 (vk+d5) aqD (acq+gY) e aiz (Bb kg),mX ⟨e,e,e,e,e,e,e,e,e,e,e,?_,ape,eE,?_⟩,m6 (a.c2+aQl≤_),mW A4 [a.c2,↑x,↑cc] (aO7 gY) (aO7 d5) gY d5 e (Bb js),mY aq p cQ ho];(rw[u8 ao0 ho]);rw[mX ⟨?_,?_⟩,m6 (p7 ((ov a.Ap 0 a.ca (a.ca.b6 Ģ _))++[_]) p)];split;rw[r.jP ao0]at⊢;exact ho;rw[r.jP (by simp only[r.apv]at⊢;exact ao0),r.agx (m4 (Ya cQ (by assumption)))]at⊢;rw[mW ho,m6 (xk≠a.ca.z+1),mW (yQ (Am [aq,a.ca.z] 1 0 nm ai nN nm e ao0 (AN dO)))]) (by rw[mZ aiA aiz mK,y3 g_];simp only[ahu,fU,N.aev,abv]at g_;rw[m2 (Kq o1 Y M),mZ kg,mY kg];have amU:fR (aRN Ľ wv) ({fb a ao [] (cc+1) cj with fO:=iR (mw o1 Y M)}:aH):=tW;rw[mX BU _ (mw o1 Y M) g_ ?_ ?_ ?_ ?_,mZ eE g_,mW {kh:=e,eX:=gi.eX,cO:=gi.cO,aS:=aF.aS,eM:=e,ey:=e,jX:=r.ahO,fO:=e,ks:=fun f g y d=>by rw[mZ kg,nt (uF Oq d),oe,m9,oe,m8,m3 At (gi.ks f g y b),mZ d,mY sa bh gd fJ d,mW Au sa bh (gd.bx amU) (fJ.bx amU) d,mZ gi,oA,uT b,mZ b,mY b L,uT b,mZ b,mY b L,pq,qD,qD,mW Au a7 st ((vs.bx b7).bx amU) ((dj.bx b7).bx amU) aJ.cq],jW:=by rw[m2 aF.jW,m5];simp only[r.am9,u.aaa]at aa⊢;rw[m6 (_≤a.c2+aQl),mW Yb kg aa]},mX ⟨e,e,e,e,e,e,e,e,e,e,e,?_,ape,eE,fun aq p cQ ho=>⟨ho,cQ⟩⟩,m6 (a.c2+aQl≤_),mW A4 [a.c2,↑x,↑cc] (aO7 gY) (aO7 d5) gY d5 e (Bb js),mY o b];rw[H2]at⊢;split;rfl;exact b;rw[H2,vp]at⊢;rfl)]
abbrev abg(a:aH)(M:pu)(k v:u):Prop:=∃f g,qr∧r6∧(k=v∨vw≠-1∨(hA o1 M).eF=G)
def RF:∀(a:aH)(h k v:u)(M:pu)(aF:ĵ)(a7 st:bv)(vs:tv)(dj:xP)(cK:st.jg=Y)(un:yT)(br:Ú)(aB:aQM a7.dh)(kX:aSY (4*a7.dh))(hd:a.e4+aQB<60)(eh:a7.dh<3980),∃z' fA,qf (aQf (v7 40) 94 pM) (n5 u4)∧dI z' fA []∧aNV a7.dh∧aPm∧abg z' fA k v:=by injections a h k v M;intro aF;injections a7 st;intro vs dj cK un br aB kX hd eh;have aeI:=a7.Ix;rw[nt (I1 aF (v7 34) k v a7 st vs dj cK),mY J,ri BV,ng];rintro f g a_ U h' b;rw[m9,mY J];rcases J with(⟨cU,f,g,a_,U,aa0⟩);rw[m8,mW ⟨a,M,b,aF,aVC,fun ψ b=>b,f,g,a_,U,by rw[nY h' h'];rintro h';rw[m9];rintro h';rw[m8,mW aQ.bT h',mW (aOq aQ.bF h')]⟩,mX AF vs.gs fun dE gj fa jU=>?_,mX AF dj.gs fun bZ dL ly cR=>?_];rw[a_]at gj;rw[U]at dL;rw[nf gj,mZ gj,mY gj];subst gj;rw[nf dL,mZ dL,mY dL];subst dL;have b7:ö Ľ:=tW;rw[mX Dr (Oo a (v7 36) k v qY M aF a7 st vs dj (m4 (Ia aB aeI)) (m4 (é (aNZ a7.dh qY 3980) 3980 eh (q2 Az (Ag [a7.dh,qY] 1 S 1 S e aeI)))) (m4 (oa A5 [a.e4,↑(a7.ha _)] b5 60 zC 60 0 d5 e hd vV)) (p' (P8 Ľ h k v a7 st M [o1] (RB _) (aF.Fj _) aUJ aUK cK un br cU f g a_ U aa0 (fun H bK=>j'.Fj (c':=qY) aF vs dj bK (m4 (Ia aB aeI)) (m4 (oa Am (aR2 a7.dh qY) (sn S 4 a8) 900000 (ro S 4) 900000 (tz 4 pR) (xr 4) e kX (AM 4 (q2 Az (Ag (aR2 a7.dh qY) 1 ai 1 ai e aeI))))) (m4 (O_ hd bK)) (m4 (é (aNZ a7.dh qY 3980) 3980 eh (q2 Az (Ag [a7.dh,qY] 1 S 1 S e aeI)))))))) fun z' fA Q h2 h3 h4 h5=>?_,m1 (¬(f=rx∧g=rx)) (by rw[mZ aa0 fa ly,mY J,nV,ng,oc e,mW cU (Fe aF a_ U)]),mY dw,mX ⟨z',fA,G8 a _ _ k v f g cU a_ U fa ly jU cR dw _ aa0 Q,h2,h3.bx (m4 (Ag [a7.dh,qY] (ai+1) S nN S e (q2 Az (Ag [a7.dh,qY] 1 S 1 S e aeI)))),h4,f,g,nv h3.ak a_,nv h3.ak U,Ê aQ.bF h5⟩]
def abg.ak{a z'}{M}{k v}(b:abg a M k v)(br:yV q l (op a.ak l→op z'.ak l)):abg z' M k v:=by rw[mX At b fun f g a_ U b=>?_,mW Au f g (nv br a_) (nv br U) b]
def FY:∀{a}{M}{O}(aF:qG)(h k v)(a7 st)(vs:tv)(dj:xP)(cK:st.jg=Y)(hd:abg a M k v),pG 6 94 pM (n5 u4):=by rw[vj M O,mY aF];injections h k v a7 st;rw[mY vs dj cK hd,mX At hd fun f g a_ U hd=>?_,nt (I1 aF h k v _ _ vs dj cK),mY J,ri BV,ng];rintro _ _ _ _ _ b;rw[m9,mY J];rcases J with(⟨cU,dE,bZ,gj,dL,aa0⟩);rw[m8,mW b];rw[a_]at gj;rw[U]at dL;rw[nf gj,mZ gj,mY gj];subst gj;rw[nf dL,mZ dL,mY dL];subst dL;rcases hd with b|b|b;rw[mW ej b cU,mW ej aa0 b,n4 (ap.alr.1 b) y aJ,s3 (aF.ks k v y (n7 Kp aJ)) sa bh gd fJ d];simp only[gd.fn vs,fJ.fn dj]at d;rw[oT,mX AF vs.gs fun dE gj fa jU=>?_,mX AF dj.gs fun bZ dL ly cR=>?_];rw[a_]at gj;rw[U]at dL;rw[nf gj,mZ gj,mY gj];subst gj;rw[nf dL,mZ dL,mY dL];subst dL;rw[m1 (¬(f=rx∧g=rx)) (by rw[mZ aa0 fa ly,mY J,nV,ng,oc e,mW cU (Fe aF a_ U)]),mY dw,mW G8 a a h k v f g cU a_ U fa ly jU cR dw _ aa0 (Ko a _ k v M aF.fO _ aJ)]
inductive acp(a:aH)(M:pu)(H:nq):aR4|gB:å 1 "unknown"→acp a M H 1|cl(k:u)(f:a9):qr→f.ado=Y→f.AG=Y→ë→(∀t∈H,abg a M k t)→acp a M H k|bY(k n g:u):q_ k v4→abQ a n=c g→(∀t∈H,abg a M k t)→acp a M H g→acp a M H k|un(k:u)(i:nq):q_ k r2→(∀n∈i,acp a M H n)→acp a M H k
def acp.bx{a z'}{M}{H}{k}(b:acp a M H k)(b7:yy):acp z' M H k:=by induction b with|gB d=>exact .gB (tj b7.ak)|cl k f d Q h2 h3 h4=>exact .cl k f (tj b7.ak) Q h2 h3 (fun t cG=>(h4 t cG).ak b7.ak)|bY k n g d Q h2 _ ih=>exact .bY k n g (tj b7.ak) (nv b7.Cm Q) (fun t cG=>(h2 t cG).ak b7.ak) ih|un k i d _ ih=>exact .un k i (tj b7.ak) ih
def c1.gB:∀{a}{a7}(vs:ty 1 a7),a7=zB 1:=by rw[mY a a7,mY vs];cases vs with|i9 _ df n=>rw[p4 n,mZ n,mY l _ n,mW ej e n.ge.1]|iv=>rfl|D _ _ _ _ _ _ b=>omega|bI _ _ _ _ _ _ _ _ b=>rw[aRm]|bY _ _ _ _ _ b=>rw[aRm]|un _ _ _ _ b=>rw[aRm]
def Fs:∀{a}{k}{a7}(y:tv)(b:aQe),hb a7 a7=G:=by rw[vj k a7,mY y b];rcases a7.DR with⟨Q,h2⟩|⟨q,j,e⟩|⟨i,e⟩;rw[om];cases y.A2 Q h2<;>(first|rw[ũ]|rw[qz]|simp[BA,BB,BC,gX]);simp[BA,BB,BC];exact N.cs b
def AcF{a}{t}{asw}(y:ty t asw)(b:t≠1)(cK:asw.jg=Y):hb (zB 1) asw=Y:=by rcases asw.DR with⟨Q,h2⟩|⟨q,j,e⟩|⟨i,e⟩;clear cK;(cases y.A2 Q h2 with|i9 df n=>simp only[BA,BB,BC,gX,nj (Fi df n.BE),N.aeu]|iv h'=>exact ej h' b|lk=>rfl|di n t mp cY aM _ _ _ _ cC c4=>(rw[nt (FE n t),mY J,Ö,ng];rintro _ _ d;rw[m9,mY J,nV,ng];rintro _ d;rw[m8])<;>rw[d]<;>rfl);rfl;exact yX cK
def LY{a:aH}{i:nq}{dr:tK}(b:xY i.au=dr)(ac:bv→N):(i.dS fun n=>ac (cN a n))=dr.dS ac:=by rw[←b,r.axF];rfl
def Qi(a7:bv)(Q:aQe)(h2:aTc)(H:tK):lO a7 H=H.dS (hb a7):=by induction a7 using bv.ae with|cl=>rfl|bY q g=>exact ej e (h2 q g)|un i=>rw[qT Q]
abbrev asO(o:u):Prop:=∀(a:aH)(h k v:u)(a7:bv)(H:nq)(cj:tK)(M:pu)(O:q4),a7.An<o→tv→sl v se→q_ v (qs H)→1∉H→acp a M H k→j' a M O (bv.ha a7 se) a7.dh→af8 (v7 40) 94 pM aS1 a7.dh a M O
def P9:∀(a:aH)(h k v:u)(a7:bv)(H:nq)(cj:tK)(M:pu)(O:q4)(iN:asO a7.An)(aF:qG)(vs:tv)(dj:sl v se)(j5:q_ v (qs H))(aez:1∉H)(iP:ë)(aiY:acp a M H k)(cU:Ŏ)(K:∀o,o<bv.ha a7 se→j' a M O o qY),afi (v7 37) 37 pM aS1 qY a M O:=by injections a h k v a7 H cj M O;rw[mY iN aF vs dj j5 aez iP aiY cU K,mZ cU,mX AF vs.gs fun f a_ fa jU=>?_,mZ jU];have mJ:=vs.CZ f a_;cases dj with|un _ m' _ d Ab dw aB jt aJ agH=>rw[j5]at d;rw[nf d,oA,mY d,p2 d,pi];have afF:=KB jt aJ;(have arD:∀t∈H,sl t (pF t)∧(cN a t).jg=Y:=by rw[mY t cG,ot (KE jt aJ cG) y bK,mW ⟨y,agH _ bK⟩]);rcases a7.DR with⟨Q,h2⟩|⟨q,bh,e⟩|⟨dr,e⟩;rw[m1 (∀t∈H,abg a M k t) (by clear vs;cases aiY with|gB=>rw[aRV iP]|cl _ _ _ _ _ _ b=>exact b|bY _ n g d=>rw[ä,mZ a_ fa,nf d,oA,mY d,oT,m3 BF (nj mJ e),mY q j d,mW ej d (h2 q j)]|un _ i d=>rw[ä,mZ a_ fa,nf d,mZ d,mY d,oT];rw[Q]at mJ;exact ej mJ.1 qg),mY ail,m1 (f.AG=Y) (by induction ba:f.AG using N.ae with|Y=>rfl|G=>rw[m3 BF (nj mJ ba),mY q j d,mW ej d (h2 q j)]),mY acB];have l3:=Iq (v7 33) k v a a aF.aS f H a_ j5 (vD qU 2 Ab) n_ (ue (el a7 (pF t))) Y (fun t cG=>FY aF (v7 28) k t a7 _ vs (arD t cG).1 (arD t cG).2 (ail t cG)) (fun P b=>by rw[pr acB,aUd BD]) (nO e) (tg mJ.1 Q);rw[mX AI a O ?_ (aWt aF)];(have i5:(b1 (k∈H)||(aVE (el a7 (pF t)))||(f.AG&&Y))=aS1:=by simp only[N.an3,N.apQ];(have aV:(aVE (el a7 (pF t)))=aS1:=by rw[LY afF (ue (el a7 t)),m1 (aS1=cj.dS (hb a7)) (Qi a7 Q h2 cj),mY Aw,Aw];rw[N.ac9,r.gZ,r.gZ];constructor;rw[mY J,sE,ng];rintro t cG d;rw[mW ⟨t,cG,uq (m7 Cg (agH t cG)) d⟩,mY J,sE,ng];rintro t cG d;exact⟨t,cG,by rw[←m7 Cg (agH t cG)]at d;exact d⟩);rw[aPd k H,m1 ((aVE (el a7 (pF t)))=G) (by rw[r.gZ,mX Ad k bK ?_,Be vs,nv Cg Q,mW Fs vs Q]),m5,←aV,aa];simp;simp[bK,aV]);rw[←i5,mW In (v7 36) k v a a H f _ a_ (tg mJ.1 Q) j5 l3,mZ mJ];(cases vs with|bY _ n bZ _ d ms afy aat aef=>rw[ä,mZ fa,nf d,oA,mY d,oT];(replace ail:(∀t∈H,abg a M k t)∧acp a M H bZ:=by clear ms aat iN K;cases aiY with|gB=>rw[aRV iP]|cl _ _ d _ b=>rw[ä,mZ akz,nf d,oA,p0,oT,aPP]|bY _ cw aji d aoS b h'=>rw[ä,nf d,oA,mY d,p2 d,pi];rw[afy]at aoS;rw[nf aoS,aVD aoS aoS aoS ⟨b,h'⟩]|un _ i d=>rw[ä,nf d,oA,p0,yc]);have asE:sl k (z_ k):=.bY k n bZ bh a_ ms afy aat aef;(have g_:(bv.bY k bh).An=aUj:=uJ);(have kE:(bv.bY k bh).dh-1=bh.dh:=uJ);rw[m2 (K (bv.ha bh se) (aUn bv.ha Ci Cj Ck (AJ [bh.An,aRH] (Ļ+ai+1) (vc 2+ai) e))),mY hg];rw[kE]at hg⊢;rw[m1 (sl v se) (.un v H cj j5 Ab dw aB jt aJ agH),mY awS];replace ba:∀t∈H,oD (aQf (aQs 41+1) 94 (ă (.m t))) (n5 (aVf (pF t))):=fun t cG=>nM (FY aF (aQs 36) k t) asE (arD t cG).1 (arD t cG).2 (ail.1 t cG);rw[m1 ((aVE (aVf (pF t)))=cj.dS (hb (z_ k))) (by rw[LY afF (ue (el (z_ k) t))];rw[N.ac9,r.gZ,r.gZ];constructor;rw[mY J,sE,ng];rintro t cG d;rw[mW ⟨t,cG,uq (m7 Cg (agH t cG)) d⟩,mY J,sE,ng];rintro t cG d;exact⟨t,cG,by rw[←m7 Cg (agH t cG)]at d;exact d⟩),mY aV,m1 (k∈H→(aVE (aVf (pF t)))=G) (by rw[mY bK,r.gZ,mX Ad k bK ?_,Be asE,nv Cg e,mW Fs asE e]),mY ajD];(replace i5:(b1 (k∈H)||(aVE (aVf (pF t)))||((a9.bY n).AG&&el bh se))=aVf se:=by rw[m1 (aVf se=(cj.dS (hb (z_ k))||el bh se)) (by kernel_rfl!),m5,aa,←aV,aPd k H,ajD bK];simp;simp[bK,a9.AG]);rw[pI aas (b1 (k∈H)||(aVE (aVf (pF t)))) (by rw[m2 (Iq (aQs 41) k v a a aF.aS _ H a_ j5 (vD qU 2 Ab) n_ _ (el bh se) ba (oE (by rw[pr aas,aUd GR])) (nO e) e),mY l3];rw[i5]at l3;rw[mX AI a O ?_ (aWt aF),g_,rh (va aUj+37) (va bh.An+41+3+1) (BI [bh.An,h] (ai+(vc 8)+37) (rg ai 8+41+3+1) e),mW In _ k v a a H _ _ a_ e j5 l3]) (by rw[m3 At (iN a h bZ v bh H cj M O (yo g_) aef awS j5 aez ail.2 hg),mY bz kO Q h2 _,m2 (Pt (aQs 39) k v n bZ a bz _ a_ afy aat Q),mY arJ];replace l3:=Iq (aQs 41) k v a bz aF.aS _ H a_ j5 (vD qU 2 Ab) n_ _ (el bh se) ba (wW arJ) (oE (by rw[ŕ,oe,m9,oe,m8,pr aas];(with_reducible exact BD b);rw[aPP])) e;rw[i5]at l3;rw[mX AI bz kO ?_ h2,g_,rh (va aUj+37) (va bh.An+41+3+1) (BI [bh.An,h] (ai+(vc 8)+37) (rg ai 8+41+3+1) e),mW In _ k v a bz H _ _ a_ e j5 l3])]);cases vs with|un _ i _ d ms aCN aiq aCL ab0 aM2=>rw[ä,mZ fa mJ,nf d,oA,mY d,oT,m1 (sl v se) (.un v H cj j5 Ab dw aB jt aJ agH),mY awS,m1 (∀n∈i,acp a M H n) (by clear ms;cases aiY with|gB=>rw[aRV iP]|cl _ _ d b=>rw[ä,mZ akz,nf d,oA,p0,oT,aPP]|bY _ cw aji d=>rw[ä,nf d,oA,p0,yc]|un _ l' d b=>rw[ä,nf d,oA,mY d,p2 d,pi,mW b]),mY avj];replace hg:=K (bv.ha (qs dr) se-1) (aUn bv.ha Ci Cj Ck (Ag [2*(sx+1)+aRH-1,sx,aRH] nm (x6 2+a8) nm (x6 2+a8) e (q2 Az (AJ [2*(sx+1)+aRH-1,sx,aRH] 1 (x6 2+a8) e))));have au1:=KB aCL ab0;(replace kE:(bv.un dr).dh-1=bv.ag3 dr:=uJ);simp only[kE]at hg⊢;(replace g_:(bv.un dr).An=sx+1:=uJ);refine AR (J1 (va sx+42) k v M O a hg.aF i a_ (vD [k] 2 ms) (w5 (el (pF n) se)) (w5 (v5 n)) (by rw[mY n ba z1 hY aD eE mo,wH (KE aCL ab0 ba),mY awR bK];rw[Hi au1]at mo;have b7:=eE.le;have alh:=PK dr _ bK;rw[m2 (nI (hg.CE eE) m' (bv.ha (pF n) se) c' (v5 n) (by dsimp only[bv.ha,g_];exact Am [sx,sd n,aRH,2*(sx+1)+aRH-1] (xr 2+a8) eK (xr 2) Ļ (vc 2+a8) (eK+1) e (AM 2 alh) (q2 AN (AJ [sx,sd n,aRH,2*(sx+1)+aRH-1] 1 (vc 2+a8) e))) mo),mY ain,m2 (iN z1 (va aRa+3) n v (pF n) H cj M hY (yo g_) (awR.bx b7) (awS.bx b7) (ĥ j5) aez ((avj n ba).bx b7) ain),m5,rh (va sx+42+1) (va aRa+3+8*sd n+40) (y' (Ag [sx,sd n,h,aRa] (rg a8 8+42+1) (ro (sn a8 8 eK+3) 8+40) (su 8) (tz 8 (eK+ai)) e (AM 8 (q2 AN (Ag [sx,sd n,h,aRa] ai S ai S e alh)))) (Ag [sx,sd n,h,aRa] (ro (sn a8 8 eK+3) 8+40) (rg a8 8+42+1) (tz 8 (eK+ai)) (su 8) e (AM 8 (q2 Az (Ag [sx,sd n,h,aRa] ai S ai S e alh))))),mW aa])) fun bz kO Q h2=>?_;simp only[Hi au1]at h2;rw[m1 ((aN4 (el (pF n) se))=el (qs dr) se) (by rw[LS au1 (fun k=>el k se)];simp only[el,A6,A7,A8,GU]),mY i5];rw[i5]at Q;rw[mX AI bz kO ?_ h2,g_,rh (va (sx+1)+37) ((va sx+42+2)+1) (BI [sx,h] (ai+(vc 8)+37) (rg ai 8+42+2+1) e),mW Le _ k v a bz i _ _ a_ j5 Q]
def L5:∀{a:aH}{M:pu}{O:q4}(aF:qG)(h k v:u)(a7:bv)(H:nq)(cj:tK)(vs:tv)(dj:sl v se)(j5:q_ v (qs H))(aez:1∉H),pG 6 94 pM (n5 aS1)∨(Ŏ∧ë∧∃f,qr∧kJ k v f (qs H)=-1):=by rw[vj M O,mY aF];injections h k v a7 H cj;rw[mY vs dj j5 aez,mX AF vs.gs fun f a_ fa jU=>?_,mX AF dj.gs fun g U ly cR=>?_];rw[j5]at U;rw[mZ ly,nf U,mZ U,mY U];subst U;have aln:=dj;cases dj with|un _ m' _ d Ab dw aB jt aJ agH=>rw[j5]at d;rw[mZ dw aB,nf d,mZ d,mY d,p2 d,pi,nH cU k v];left;clear j5 cR Ab;subst cU;rw[m1 (aS1=G) (by rw[vs.fn aln];simp only[el,A6,A7,A8,GU,r.hp];rw[tr,aP1 aq cQ (r.apA.1 J),m2 (aJ aq _ _ (aUI (Am [H.z,cj.z,aq] (a8+1) S ai S (a8+1) ai e (AN jt) cQ)) (r.hV cQ)),mY lQ];have aeH:=agH _ J;rw[m2 (Fs lQ aeH),mY br];(have ik:cj.dS (hb cj[aq])=G:=nb r.gZ (ql J br));rcases(cj[aq]).DR with⟨Q,h2⟩|⟨q,ab,d⟩|⟨i,d⟩;rw[Qi _ Q h2,mW ik];rw[d]at ik⊢;simp only[A6,A7,A8,ik,N.asA];rw[d]at aeH;exact yX aeH),m5,tf,mW FG a wI k,nH hs k 1];left;subst hs;rw[vs.gB,m1 (el (zB 1) se=Y) (by simp only[el,A6,A7,A8];rw[r.atn,tr,aP1 aq cQ (r.apA.1 J),m1 (H[aq]'(m4 (Am [H.z,cj.z,aq] (a8+1) S ai S (a8+1) ai e (AN jt) cQ))∈H) (r.aij _),mY bK,m2 (aJ aq _ _ (aUI (Am [H.z,cj.z,aq] (a8+1) S ai S (a8+1) ai e (AN jt) cQ)) (r.hV cQ)),mY lQ,AcF lQ (ol (aez (d▸bK))) (agH _ J)];simp),m5,tf,mX G_ a h 1 v f (qs H) cU a_ j5 fa e jU cR ?_ Y ?_,mY J,nV,ng];rintro _ b;cases b;(have:ê:=vD qU 1 Ab);simp[kJ,acW,aa,a9.AG];right;exact(AE cU hs (Ad f a_ (Ik k v f _ hs (vD qU 1 Ab) (N.anq.2 yp))))
def RC(o):asO o:=by induction o with|hf=>rw[mY a h k v a7 H cj M O b,mW BZ (Ag [a7.An] 1 0 nm 0 e b)]|gk o ih=>rw[mY a h k v a7 H cj M O aG vs dj j5 aez aiY K,m1 (asO _) (fun z' aiL s' iu awu m' aiJ fA kt b=>qn ih _ (m4 (aV8 (aWd [a7.An,o,awu.An]) aG b))),mY iN,nt (L5 K.aF (v7 34) k v _ H _ vs dj j5 aez),oe,m9,mY J];rcases J with(⟨cU,iP,f,a_,aa0⟩);rw[m8,mW Au a O b aVm (nO e),m2 a7.Ix,mY eh];(have d:a7.dh=qY+1:=m4 (Br _ S nN _ nN e (rz (s7 (Ag [a7.dh,qY] 1 S 1 S e eh)))));have b7:ö uz:=tW;have:=G9 a (v7 34) k v qY M O a7 se (uq d K) vs dj f _ cU a_ j5 aa0 (fun cu P=>P9 uz h k v a7 H cj M yA iN (K.aF.AL _ cu) aUJ aUK j5 aez iP (aiY.bx b7) cU (fun H bK=>K.AL vs dj e bK (m4 (Ag [a7.dh,qY] (ai+1) S nN S e (AN d))) cu));rw[←d]at aa;exact aa
def RG:∀(a)(h k v)(H)(cj)(M)(aF:ĵ)(a7)(vs:tv)(dj:sl v se)(j5:q_ v (qs H))(aez:1∉H)(aiY:acp a M H k)(aB:aQM a7.dh)(kX:aSY (4*a7.dh))(hd:a.e4+bv.ha a7 se<60)(eh:a7.dh<3980),∃z' fA,qf (aQf (v7 40) 94 pM) (n5 aS1)∧dI z' fA []∧aNV a7.dh∧aPm:=by injections a h k v H cj M;intro aF;injections a7;intro vs dj j5 aez aiY aB kX hd eh;have aeI:=a7.Ix;rw[nt (L5 aF (v7 34) k v _ H _ vs dj j5 aez),oe,m9,mY J];rcases J with(⟨cU,iP,f,a_,aa0⟩);rw[m8,mW Bx a M b aF aVC ï,mX AF vs.gs fun dE gj fa jU=>?_,mX AF dj.gs fun bZ dL ly cR=>?_];rw[a_]at gj;rw[j5]at dL;rw[aRh gj gj gj gj,mZ ly,nf dL,mZ dL,mY dL];subst dL;have b7:ö Ľ:=tW;rw[mX Dr (Oo a (v7 36) k v qY M aF a7 se vs dj (m4 (Ia aB aeI)) (m4 (é (aNZ a7.dh qY 3980) 3980 eh (q2 Az (Ag [a7.dh,qY] 1 S 1 S e aeI)))) (m4 (oa A5 [a.e4,↑(a7.ha _)] b5 60 zC 60 0 d5 e hd vV)) (nO (P9 Ľ h k v a7 H cj M [o1] (RC _) (aF.Fj _) aUJ aUK j5 aez iP (aiY.bx b7) cU (fun H bK=>j'.Fj (c':=qY) aF vs dj bK (m4 (Ia aB aeI)) (m4 (oa Am (aR2 a7.dh qY) (sn S 4 a8) 900000 (ro S 4) 900000 (tz 4 pR) (xr 4) e kX (AM 4 (q2 Az (Ag (aR2 a7.dh qY) 1 ai 1 ai e aeI))))) (m4 (O_ hd bK)) (m4 (é (aNZ a7.dh qY 3980) 3980 eh (q2 Az (Ag [a7.dh,qY] 1 S 1 S e aeI)))))))) fun z' fA Q h2 h3 h4 h5=>?_,mX (sb Bx (G8 a _ _ k v f _ cU a_ j5 fa e jU cR (by rw[mY J,nV,ng];rintro _ b;rw[aPP]) _ aa0 Q) h2 (h3.bx (m4 (Ag [a7.dh,qY] (ai+1) S nN S e (q2 Az (Ag [a7.dh,qY] 1 S 1 S e aeI))))) h4)]
inductive aR where|mk(v m0 cC c4 eu:u)(e7:nL)deriving gN
abbrev aR.v:sf aR|m7 (.mk v _ _ _)=>v
abbrev aR.m0:sf aR|m7 (sk q' H)=>H
abbrev aR.cC:sf aR|m7 (p5 q' H)=>H
abbrev aR.c4:sf aR|m7 (n7 q' H)=>H
abbrev aR.eu:sf aR|ni q' n _=>n
abbrev aR.e7:aR→nL|ni q' _ i=>i
mutual
abbrev aR.aY:aR→ar|aPi v=>nE [oF,nE [th,.m g,.m x],ye,wt aR.akQ i]
abbrev aR.akQ:nL→nC|[]=>[]|d::i=>d.aY::aR.akQ i
end
def G2:∀v f g x n i,aR.aY (aPi v)=(nE [oF,nE [th,.m g,.m x],ye,wt aR.akQ i]):=fun ψ ψ ψ ψ ψ ψ=>e
def QI:aR.akQ []=([]):=e
def QJ:∀d i,aR.akQ (d::i)=(d.aY::aR.akQ i):=pS
mutual
abbrev aR.eo:sf aR|ni q' _ i=>aR.aeq i+1
abbrev aR.aeq:sf nL|[]=>0|d::i=>max d.eo (aR.aeq i)
end
def IO:aR.aeq []=(0):=e
def IP:∀d i,aR.aeq (d::i)=(max d.eo (aR.aeq i)):=pS
def QH:∀gv ach ai2 awZ aLY i,aR.eo (q' gv ach ai2 awZ aLY i)=(aR.aeq i+1):=fun ψ ψ ψ ψ ψ ψ=>e
def Nj(i):aR.akQ i=i.au aR.aY:=vv (by simp[QI,QJ,ih])
def M8(i)(d)(b:d∈i):d.eo≤aR.aeq i:=qb i (by cases b) f i (by simp only[IO,IP];rw[aSq,n8,m9,oe,m8];exact u.aJ1 ..;rw[m2 Ű,m5,mW u.eI aa (u.aJ2 ..)])
mutual
abbrev iE:wG aR aR|.mk v f g x _ i,d=>v==d.v||(if i.dD then(if d.e7.dD then gX f g x d.m0 d.cC d.c4 else Y)else alp i d)
abbrev alp:wG nL aR|[],_=>G|wN,d=>iE j d&&alp i d
end
def Vj:∀gv,alp [] gv=G:=rp
def Vk:∀j i d,alp wN d=(iE j d&&alp i d):=uD
def Gk:∀v f g x gv i d,iE (q' v f g x gv i) d=(v==d.v||(if i.dD then(if d.e7.dD then gX f g x d.m0 d.cC d.c4 else Y)else alp i d)):=fun ψ ψ ψ ψ ψ ψ ψ=>e
def NW(i)(d):alp i d=i.de (nF (iE j d)):=vv (by simp[Vj,Vk,ih])
mutual
abbrev iY:wG aR nL|aPi v,p=>p.dS (iE (aPi v))||(aPX&&akJ i p)
abbrev akJ:wG nL nL|[],_=>G|wN,p=>iY j p&&akJ i p
end
def FS:∀v f g x n i p,iY (aPi v) p=(p.dS (iE (aPi v))||(aPX&&akJ i p)):=fun ψ ψ ψ ψ ψ ψ ψ=>e
def MP:∀gv,akJ [] gv=G:=rp
def MQ:∀j i p,akJ wN p=(iY j p&&akJ i p):=uD
def MO(i p):akJ i p=i.de (nF (iY j p)):=vv (by simp[MP,MQ,ih])
def F1(w)(d:aR):rm (eC w d.aY nr) d.v:=by rw[yd d];simp only[G2];exact aR1
def F2(w)(d:aR):eC w d.aY nG=c (nE [.m d.m0,.m d.cC,.m d.c4]):=by rw[yd d];simp only[G2];exact D4 ..
def JJ(w)(d:aR):rm (eC w d.aY rn) d.eu:=by rw[yd d];simp only[G2];exact Od ..
def EQ(w)(d:aR):eC w d.aY uN=c (wt d.e7.au aR.aY):=by rw[yd d];simp only[G2,Nj];exact Oe ..
def CL(O)(cf)(l)(w):oC yl=c (ps,w):=by simp only[IC,Ar]at⊢;rfl
def G1(O)(cf)(is)(d)(l bW)(w a4)(i)(b:uw o9)(hs:aaJ is i l=c bW):pU dP (.acf is d)=c (na,bW,a4):=by rw[rc (pk ta b),mW (pk (ap.au fun bW=>(ls.bU,bW,a4)) hs)]
def KR(f g):((ob (f|||g))==nc g)=(f|||g==g):=m7 DN
def IU{cg:Type}(i:Ì)(ac):(i.au ac).de id=i.de ac:=rA r.atl
def R2(g)(w):f1 w .ne qA qA=c oX:=by rw[ĉ g N.ae]
def FP(w){i:nL}{g}(b:i.dD=g):f1 w .ne (wt i.au aR.aY) ps=c (qP (! g)):=by rw[pq,ĉ i r.ae]
def C'(w)(j ab:u):lY w .afn Ŭ (.m ab)=c (vl (j|||ab)):=e
def Kv:∀(a:aH)(h)(k v),pG k.eo 78 [k.aY,v.aY] (n5 (iE k v)):=by injections a h k v;(suffices b:∀aj(k:aR),k.eo=aj→∀h,oD (bc _ _ (h+aj) _ [k.aY,v.aY] _) (n5 (iE k v))by exact b _ k e h);intro aj;induction aj using u.awy with|ind aj ih=>intro k hd h;induction k using aR.ae with|mk a' f g x n i=>have Aw:=ui F1 (aPi a');rw[m2 (ui F2 (aPi a')),mY aV,m2 (ui EQ (aPi a')),mY cV,xF kA F1 v,xF gE F2 v,xF i2 EQ v];have ad1:aR.aeq i+1=aj:=hd;rw[mZ hd,nH cU a' v.v,m1 (iE (aPi a') v=G) (by simp only[Gk,lb.gS cU,N.asA]),mY aJ,aJ,←ad1,mW (nd DQ [Ě,p kA,p (AH (nv Gr cU))])];have I:(nc a'==nc v.v)=Y:=nv C_ cU;have ajH:(a'==v.v)=Y:=acw cU;induction i using r.ae with|s j i=>rw[m1 (iE (.mk a' f g x n wN) v=(wN).de (x9 (iE ab v))) (by simp[Gk,ajH,NW]),mY aJ];have hc:=aRJ (zY (aR.aeq wN)) (s8 78 4 qc) 4 (r_ 0 uN) [c (aR.mk a' f g x n wN).aY,aSa,B,B,B] (wt (wN).au aR.aY) B wN aR.aY (x9 (ar.aO (iE ab v))) (qW [uP]) e e (aOf (by have ajK:=nv M8 b0;have:=ih ab.eo (ad1▸u.avI ajK) ab e (h+(aR.aeq wN-ab.eo));rw[u.la,u.e8 ajK]at aa;exact qW [aZ aa]));have iO:=w3 GX (zY (aR.aeq wN)) a.F a.F _ _ hc (m7 CP);rw[IU]at iO;rw[aJ,←ad1];generalize(wN).de (x9 (iE ab v))=y at iO⊢;exact nd DQ [Ě,p kA,rN I,uP,qa (FP a.F (i:=wN)) e,aZ iO]|C=>rw[←ad1,mZ ad1 ih,m2 (FP a.F (ack.fI v.e7.dD)),mY aet,m1 (iE (q' a' f g x n []) v=if v.e7.dD then gX f g x v.m0 v.cC v.c4 else Y) (by induction ba:v.e7 using r.ae<;>(simp[Gk,ajH,ba])),mY aJ,aJ];generalize v.e7.dD=y at aet⊢;rw[u9 y (by rw[oq DQ [Ě,p kA,rN I,uP,.K,p i2,p aet]]) (by rw[m1 ((nc g==0)=(g==0)) (DN g 0),mY gm,m2 (AH (KR f v.m0)),mY BH,m2 (AH (KR g v.cC)),mY A1];have BR:=AH (KR x v.c4);rw[m2 (AH gm),mY Cp];have aeK:=C' a.F f v.m0;have j6:=C' a.F g v.cC;have hM:=C' a.F x v.c4;rw[m1 (m7 (gX f g x _)=((f|||v.m0==v.m0)&&(g==0||((g|||v.cC==v.cC)&&(x|||v.c4==v.c4))))) e,mY hs,hs,aR8 (f|||v.m0==v.m0) hk BH,aR8 (g|||v.cC==v.cC) d6 A1,aR8 (x|||v.c4==v.c4) da BR,aR8 (g==0) fC Cp,mZ hs gm aJ ajH cU];have ara:f1 a.F .ne (wt v.e7.au aR.aY) ps=c oX:=aet;have jn:=I;rw[u9 hk (by rw[oq DQ [Ě,p kA,rN jn,uP,.K,p i2,p ara,r0,p gE,.K,.K,p aeK,.K,Í]]) (by rw[rs fC (by rw[oq DQ [Ě,p kA,rN jn,uP,.K,p i2,p ara,r0,p gE,.K,.K,p aeK,.K,Í,.K,p Cp]]) (by rw[u9 d6 (by rw[oq DQ [Ě,p kA,rN jn,uP,.K,p i2,p ara,r0,p gE,.K,.K,p aeK,.K,Í,.K,p Cp,.K,.K,p j6,.K,p A1]]) (by rw[oq DQ [Ě,p kA,rN jn,uP,.K,p i2,p ara,r0,p gE,.K,.K,p aeK,.K,Í,.K,p Cp,.K,.K,p j6,.K,p A1,.K,.K,p hM,.K,p BR]])])])])]
abbrev eS(i:nL):ar:=u' i.au aR.aY
def G7{cg:Type}(i:Ì)(ac):(i.au ac).dS id=i.dS ac:=rA r.axF
def Ov:∀(a:aH)(h)(k)(p),oD (aQf (h+k.eo+1) 79 [k.aY,eS p]) (n5 (iY k p)):=by injections a h k i;(suffices b:∀aj(k:aR),k.eo=aj→∀h,oD (bc _ _ (h+aj+1) _ [k.aY,İ] _) (n5 (iY k i))by exact b _ k e h);intro aj;induction aj using u.awy with|ind aj ih=>rw[mY k hd h,xF cV EQ k];have hc:=aRJ (zY aj) (s8 78 0 qx) 3 qc [xj,c İ,B,B] İ B i aR.aY (x9 (ar.aO (iE k ab))) vP e e (aOf (by have:=Kv a h k ab;rw[o6 hd,mW (qW [aZ aa])]));rw[m2 (qn GZ hc (m7 CP)),mY ik];rw[G7]at ik;have aeB:=aRJ (zY aj) (s8 79 2 qc) 2 (r_ 0 uN) [xj,c İ,B,B] (wt k.e7.au aR.aY) B k.e7 aR.aY (x9 (ar.aO (iY ab i))) (qW [uP]) e e (aOf (by rw[m2 (nv M8 b0),mY ajK,m1 (k.eo=aR.aeq k.e7+1) (by rw[mZ ih cV hc ik b0 ajK hd,yd k];rfl),mY aC2];rw[hd]at aC2;have ajK:ab.eo+1≤aj:=aC2▸u.awA ajK;have:=ih ab.eo ajK ab e (h+(aj-(ab.eo+1)));rw[u.la,u.la,u.e8 ajK]at aa;exact qW [aZ aa]));have iO:=w3 GX (zY aj) a.F a.F _ _ aeB (m7 CP);rw[IU]at iO;rw[m1 (iY k i=(i.dS (iE k)||(! k.e7.dD&&k.e7.de fun ab=>iY ab i))) (by rw[mZ ih cV hc ik aeB iO hd,yd k];simp[FS,MO,aR.e7]),mY aJ,aJ,m2 (FP a.F (ack.fI k.e7.dD)),mY kI,mZ hc aeB aJ ih hd];generalize i.dS (iE k)=y at ik⊢;rw[aR8 (k.e7.de fun ab=>iY ab i) V iO];generalize k.e7.dD=aP at kI⊢;rw[rs y (by rw[oq Ji [aOt]]) (by rw[rs aP (by rw[oq Ji [aOt,uP,p kI]]) (by rw[oq Ji [aOt,uP,p kI,aZ iO]])])]
abbrev aiW(b:nL):N:=b.dS fun d=>d.cC==2047&&d.c4==2047
def Ox(a:aH)(h)(b):qM 81 [eS b] (.aO (aiW b)):=by have hc:=aRJ nT (xM (on eq (rZ (x2 nG) nG) (.m 2047)) (on eq (rZ (x2 nG) rn) (.m 2047))) 1 pn [aUk,B] (eS b) B b aR.aY (ol (ar.aO (d.cC==2047&&d.c4==2047))) vP e e (aOf (by rw[xF aV F2 ab,m2 (AH (DN ab.cC 2047)),mY d6];have da:=AH (DN ab.c4 2047);rw[mZ b0,aR8 (ab.cC==2047) y d6,u9 y (by exact qW [r0,.K,p d6]) (by exact qW [r0,.K,p d6,r0,.K,p da])]));have ik:=GZ T nT _ _ a.F a.F _ _ hc (m7 CP);rw[G7]at ik;exact nd SA [aOt]
abbrev aeb(al:n1)(B3:u):wG u u|0,_=>Y|ac+1,f=>ov f B3 G (oo al[f]? (c (.gq aP)) (aeb al B3 ac aP) Y)
def Aaj{al:n1}{B3 ac f aP}(h:¬f=B3)(b:nX al f (.gq aP)):aeb al B3 (ac+1) f=aeb al B3 ac aP:=pX cH h (by rw[aR3];rfl)
def Aak{al:n1}{B3 ac f aP}(h:¬f=B3)(b:nX al f (.aeQ aP)):aeb al B3 (ac+1) f=Y:=pX cH h (by rw[aR3];rfl)
def PG(al)(B3):∀gv,aeb al B3 0 gv=Y:=rp
def PH(al)(B3):∀ac f,aeb al B3 (ac+1) f=(ov f B3 G (oo al[f]? (c (.gq aP)) (aeb al B3 ac aP) Y)):=pS
structure aaR(al:n1):Prop where
 c9:al.z≤4
 up:∀(o:u)(aP:R),zd al aP→aP<o∧-1≤aP
abbrev lX(al:n1)(k v:aR):N:=if k.eu=0∨v.eu=0 then Y else !(aeb al (v.eu-1) k.eu (k.eu-1))
def Lr{O}{cf}{x}{l}{w a4}{g}(b:o5 (o0 aU x) qA):o5 (o0 adA x) g:=by unfold adA;rw[b];rfl
def Io(w)(q):lY w .eZ n' nG=c (pe (q-1)):=e
def Rj:∀(a:aH)(al)(fw:vB)(hz:aN9)(cf)(k v:aR)(aS:0<v.eu),∀(f ac gc),f<ac→vf<gc→f<al.z→∃l,ae8 (adA T cf (xM (on ge qx nr) (on ne qx (rk eZ (r_ 2 rn) nG)))) (f0 T cf (nA (sG 3 (r_ 0 qx)))) gc [xb,xj,aSa,nn f] a.F=c (na,[xb,xj,aSa,nn l],a.F)∧b1 (l<0)=!(aeb al (v.eu-1) ac f):=by rw[aP2 al,mY fw hz];injections cf k v;rw[mY aS,mY f];induction f using u.awy with|ind f ih=>intro ac gc b2 adY a_;obtain⟨add,e⟩:∃add,ac=add+1:=⟨ti,m4 (yw Br [f,ac,ti] pR pR e (rz (s7 (Ag [f,ac,ti] 1 ai nm ai e b2))))⟩;obtain⟨gg,e⟩:∃gg,gc=gg+1:=⟨gc-1,m4 (yw Br [f,gc,gc-1] pR pR e (rz (s7 (aQG [f,gc,gc-1] ai wK ai e adY))))⟩;have bj:=JJ a.F v;(have abX:tM≤vn:=m4 (A4 [↑f] 0 b5 0 b5 e vV));rw[nH ak6 f (v.eu-1),mX Ad f ?_ ?_,p5 Fu gg _ a.F];(have d6:(!(vn==nc v.eu-1))=Y:=qZ (rh vn (nc v.eu-1) (Yc aS ak6)) aaU);rw[mW Lr (qW [sZ CS hZ abX,zb,p (Io a.F v.eu),qa EJ d6]),show aeb al (v.eu-1) (add+1) f=G from c0 ak6];kernel_rfl!;have afx:n9 al f al[f]:=r.hV a_;rw[wH (fw.up f _ afx)];rintro Q h2;(have fo:aVu xW th al[f]:=by rw[Cq _ 24 _ f (HK a),hz];simp[afx]);(replace d6:(!(vn==nc v.eu-1))=G:=sh (acw (show vn≠nc v.eu-1 by exact Yd aS ak6)));(have aeF:oD (aRb adA (xM (on ge qx nr) (on ne qx (rk eZ (r_ 2 rn) nG))) [xb,xj,aSa,nn f]) G:=m4 (Lr (qW [sZ CS hZ abX,zb,p (Io a.F v.eu),qa EJ d6])));(have agC:aRb f0 (nA (sG 3 (r_ 0 qx))) [xb,xj,aSa,nn f]=c (na,[xb,xj,aSa,nn al[f]],a.F):=m4 (pK [uo]));induction cK:al[f]using R.ae with|gq aP=>rw[cK]at Q agC;(have aeG:aP<f:=by have jQ:ě<vn:=Q;exact R.aa7.1 jQ);rw[m3 Ac (ih aP aeG add gg (m4 (aV8 (aWd [f,add,aP]) b2 aeG)) (m4 (aV8 (oa Am [f,gg,aP] (a8+2) ai wK) adY aeG)) (m4 (aQO (aWd [f,al.z,aP]) a_ aeG)))];(rintro l br afG);rw[mX Ad l ?_ ?_,sk (p5 DH gg) a.F aeF agC,mW br,afG];rw[Aaj ak6 (afx.ah (cr c cK))]|aeQ aP=>rw[cK]at h2 agC;(have arF:¬(tM≤R.aeQ aP):=m4 (R.apI.2 (R.negSucc_lt_zero aP)));rw[mX Ad (R.aeQ aP) ?_ ?_,sk (p5 DH gg) a.F aeF agC];obtain⟨akv,e⟩:∃akv,gg=akv+1:=⟨gg-1,m4 (yw Br [f,gg,gg-1] pR pR e (rz (s7 (aQG [f,gg,gg-1] ai wK nN e adY))))⟩;rw[p5 Fu akv _ a.F,mW Lr (qW [sZ CS jq arF])];(have:R.aeQ aP<0:=m4 (oa A4 [R.aeQ aP] b5 0 b5 0 e (R.apI.1 arF)));rw[Aak ak6 (afx.ah (cr c cK)),mW hZ aa]
def Ou:∀(a:aH)(al)(fw:vB)(hz:aN9)(h)(k v)(hs:xf k.eu),qM 80 [xW,k.aY,v.aY] (n5 aPG):=by rw[aP2 al,mY fw hz,yb k v,mY hs,xF bj JJ k,xF f2 JJ v,nH Q k.eu 0,m1 (aPG=Y) (c0 (pp Q)),mY aJ,aJ,mW (nd Jk [zb,p (AH (Gr _ 0 Q))])];have d6:(nc k.eu==0)=Y:=C_ _ 0 Q;rw[nH h2 v.eu 0,m1 (aPG=Y) (c0 (.bF h2)),mY aJ,aJ,mW (nd Jk [zb,rN d6,p f2,p (AH (Gr _ 0 h2))])];have da:(nc v.eu==0)=Y:=C_ _ 0 h2;have iP:k.eu-1<k.eu:=u.sub_one_lt Q;rw[nD (Rj a al fw hz nT k v (u.ahT h2) (k.eu-1) k.eu alZ iP (by unfold alZ;rw[m2 fw.c9,m5,mW Bu [k.eu,al.z,k.eu-1] (a8+2+1) 4096 S ai (a8+1) S ai 4 e hs iP aa]) (u.k0 iP hs)) l br afG];replace aJ:aPG=b1 (l<0):=(cH (aj4.gS ⟨Q,h2⟩)).ah afG.cq;(have aG6:ob (k.eu-1)=nc k.eu-1:=m4 (Pa Q));rw[aG6]at br;rw[aJ,mW (nd Jk [zb,rN d6,p f2,rN da,zb,p (Io a.F k.eu),os ((Fw ..).ah br),qa (nI Cz f l g 0) e])]
def DG(n:u)(b:n<2000):g2 (nc n)=G:=by unfold g2;simp only[N.c3,kR];exact t8 KN b
def AbE(w)(p)(q):asu w p n'=(aVH).bP fun i=>nK ((b1 ļ&&g2 q)=G) (c (u' i.gu q.es)):=e
def Aby(w)(p)(q):awm w p n'=(aVH).bP fun i=>nK ((b1 ļ&&g2 q)=G) (c (u' i.cF q.es)):=e
def K_{b}{O}{cf}{f g}{l}{w}{n:u}(Q:(l[f]?).afO=c (oh b))(h2:rm (l[g]?).afO n)(ba:rG n):oC (.ady (.A f) (.A g))=c (u' b.gu n,w):=by rw[m2 (ű DG n),mY s1,m1 (asu w (oh b) ye=c (u' b.gu n)) (by rw[m1 ((b1 (tM≤nc n)&&g2 (nc n))=G) (qZ s1 (hZ (R.ab8 n))),mY x,AbE,Ŧ (j7 w (oh b)=c b),ap.eO,c0 x,R.akg]),p0,rc (cr ta (CK Q)),ap.eO,CK h2,ap.eO,d];rfl
def K9:∀{b:nC}{O:mD}{cf:iV}{f g:u}{l:dv}{w:ch}{n:u}(Q:(l[f]?).afO=c (oh b))(h2:rm (l[g]?).afO n)(ba:rG n),oC (.ahW (.A f) (aQZ (.A g)))=c (.bm aWy,w):=by rw[mY b O cf f g l w n,mY Q h2 ba,m1 (oC (aQZ (.A g))=c (vl rU,w)) (qZ Qu (CK h2)),mY eN,m2 (DG rU (m4 (Ag [n] (nm+1) 2000 nm 1000 e ba))),mY s1,m1 (awm w (oh b) (vl rU)=c (.bm aWy)) (by rw[m1 ((b1 (tM≤ob rU)&&g2 (ob rU))=G) (qZ s1 (hZ (R.ab8 rU))),mY x,Aby,Ŧ (j7 w (oh b)=c b),ap.eO,c0 x,R.akg]),p0,rc (cr ta (CK Q)),ap.eO,eN,ap.eO,d];rfl
def Q5(w){f g}(b:u.aam (f.z+g.z) du=G):lY w .e_ (oh f) (oh g)=c (.bm (f++g)):=by rw[m1 (lY w .e_ (oh f) (oh g)=nK (arR .e_) (amo w _ _)) e,p0,d,qJ c0 (arR _=G) e,amo,Ŧ (j7 w _=c f),Ŧ (j7 w _=c g),ap.eO,ap.eO,pQ c0 u.afQ]
def Li{cg:Type}(i:Ì)(n:u):(i.gu n++i.cF rU).z≤i.z:=uq r.auc (r.length_eraseIdx_le ..)
def atk(w)(b:nC)(n)(aB:rG b.z):lY w .e_ (u' b.gu n) (.bm aWy)=c (.bm aVR):=Q5 w (u.aqP (by rw[←r.gR,mW (xn (Li b n) (u.agP (Ĺ aB)))]))
abbrev aaX(al:n1)(b:nL)(n:u):N:=match b[n]? with|B=>Y|c d=>let p:=aVR;p.dS (nF (yI&&ř))||(aUc&&(b1 (1<p.z)&&aRg))
def Ow:∀(a:aH)(al)(fw:vB)(hz:aN9)(ac)(b2:td 22)(b)(n:u)(d)(he:n9 b n d)(aB:b.z<100)(hd:d.eo≤20)(aaZ:xf d.eu),oD (aQf (ac+1) 83 [xW,eS b,ye]) (n5 ý):=by rw[aP2 al,mY fw hz];injections ac;intro b2;injections b n d;intro he aB hd aaZ;have ba:n<b.z:=(r.gF.1 he).1;(have fo:pE a.F (eS b) ye=c d.aY:=by unfold eS;rw[Du,r.adf,he];rfl);have st:ny yn (.ady (.A 1) ph) [xb,aUk,Ġ,aR9,B,B] a.F=_:=K_ e e (m4 (é (aNZ b.z n 1000) 100 aB ba));have jw:ny yn (.ahW (.A 1) (aQZ ph)) [xb,aUk,Ġ,aR9,B,B] a.F=_:=K9 e e (m4 (é (aNZ b.z n 1000) 100 aB ba));have ad:=atk a.F (b.au aR.aY) n (qm (by rw[vO]));(have aJ:∀i,aVR=i→ý=(i.dS (nF (yI&&ř))||(aUc&&(b1 (1<i.z)&&iY d i))):=fun i aB=>by subst aB;simp only[aaX,he]);rw[←r.apz,←r.ar6,←r.ahL]at ad;rw[←r.apz]at st;rw[←r.ar6]at jw;revert aJ ad;generalize aVR=i;rw[mY ad aJ,aJ i e,mZ aJ];(have ak9:td (d.eo+1):=m4 (Am [ac,d.eo] (ai+1) S 22 S ai 20 e b2 hd));have hc:=aRJ yn (xM (s8 78 3 za) (.ir (.bp 80 (pH pn qx za)))) 5 p6 [xb,aUk,Ġ,aR9,c İ,B] İ B i aR.aY (nF (ar.aO (yI&&ř))) vP e e (fun j J=>by rw[m2 (Kv a (ac-d.eo) d j),mY il];rw[u.e8 (u.ajQ ak9)]at il;have acB:=Ou a al fw hz ti d j aaZ;rw[s7 (u.eI (u.awB _) ak9)]at acB;clear J st jw ad fo he;generalize yI=y at il⊢;rw[u9 y (by exact qW [aZ il]) (by exact qW [aZ il,aZ acB])]);rw[m2 (qn GZ hc (m7 CP)),mY ik];rw[G7]at ik;rw[xF cV EQ d];have aCp:=Ov a (ac-(d.eo+1)) d i;rw[u.la,u.e8 ak9]at aCp;rw[m2 (FP a.F (ack.fI d.e7.dD)),mY kI];have amV:rm (acN a.F (eS i)) i.z:=CX (i:=ſ) e (by rw[vO]);clear hc he aB hd aaZ ba b2 ak9;generalize i.dS (nF (yI&&ř))=y at ik⊢;generalize d.e7.dD=aP at kI⊢;rw[rs y (by rw[oq Hg [uo,aZ st,aZ jw,p ad,aOt]]) (by rw[rs aP (by rw[oq Hg [uo,aZ st,aZ jw,p ad,aOt,uP,p kI]]) (by by_cases ao8:1<i.z;rw[hZ ao8,mW (nd Hg [uo,aZ st,aZ jw,p ad,aOt,uP,p kI,p amV,p (B' (hZ (R.aa7.gS ao8))),aZ aCp]),jq ao8,mW (nd Hg [uo,aZ st,aZ jw,p ad,aOt,uP,p kI,p amV,p (B' (jq (oE (pQ ao8 R.aa7.mp))))])])])]
abbrev aH.dG(a:aH)(f g:c_):aH:=(a.As f).As g
mutual variable(a:aH)(aS:pN)(f g aj:c_)
include aS
def D9:(sH a.dG).F=(tD f)++[g]:=by unfold aH.dG;rw[←Cc _ g (Ð D_ f),←Ð Cc f]
def KT:n9 (sH a.dG).F a.ad f:=by rw[ru D9,r.jP (by rw[y5]),←Bj];simp
def Id:n9 (sH a.dG).F vS g:=by simp only[ru D9,show vS=(tD f).z by rw[y5]];simp
def ZC:(a.dG f g).F.b6 a.ad aj=(a.dG aj g).F:=by rw[ru D9,ru D9,m7 r.abC (by rw[y5]),←Bj];simp
def Pm:(a.dG f g).F.b6 vS aj=(a.dG f aj).F:=by simp only[ru D9,ru D9,show vS=(tD f).z by rw[y5],aQr (m7 r.ake)];simp
end
def Nx(a:aH)(aS:pN)(f g)(y)(aJ:y.eJ a.ad=G)(l):oD (afv a.F.z a.F (ua rO (sH a.dG).F)) y:=by rw[m1 ((sH a.dG).F=a.F++[f,g]) (aNF (ru D9)),mY d,m1 (y.eJ a.F.z=G) (nb Bj aJ),mY ab0,d];simp only[afv,ap.eO,Nz,KQ,ab0,N.aen,fU,r.aET]
def RS:∀(a:aH)(h v aj:u)(b:q_ v (nP aj)),qM 18 aQI (oh [.m aj]):=by injections a h v aj;intro b;have d:=sP v _ b;simp only[a9.aY]at d;rw[m1 (oD (abk (ago T nT (rZ (rZ aOK p6) nG)) (ahC T nT (nA (on eq (rZ (rZ aOK p6) nr) (.bL "Y_REF" É)))) 4 B [oF] [nZ,pZ,yP [É,.m aj,ps],yP [oF],B] a.F) [.m aj]) (by rw[m1 (oD (aU _ nT (on eq (rZ (rZ aOK p6) nr) (.bL "Y_REF" É)) [nZ,pZ,yP [É,.m aj,ps],yP [oF],pZ] a.F) pg) (qW [p d,.K,.K]),mY A_,m1 (oD (Ķ ahC) G) (by rw[HQ,Lu,A_]at⊢;rfl),mY Q,m1 (oD (ago _ nT (rZ (rZ aOK p6) nG) [nZ,pZ,yP [É,.m aj,ps],yP [oF],pZ] a.F) (.m aj)) (qW [p d,.K]),mY h2];simp[FQ,FR,AY,Q,h2]),mY hc];have jr:oD (ny nT (.go (rZ (rZ aOK p6) nG) 4 qx (nA (on eq (rZ (rZ aOK p6) nr) (.bL "Y_REF" É)))) [nZ,pZ,yP [É,.m aj,ps],yP [oF],B] a.F) (oh [.m aj]):=pk (ap.au fun V:nC×ch=>(ar.bm V.1,V.2)) hc;exact nd Sa [p d,.K,.K,aOs]
abbrev aaT(al:n1)(aD:nL)(o:u):nq:=oo al[o]? (c (.gq aP)) (match aD[aP]? with|c d=>[d.v]|B=>[]) []
structure ajd(a:aH)(al:n1)(aD:nL):Prop where
 ds:∀(o:u)(a0:lr),yU o→a0.mi=rD aaT o
 cl:∀(o:u)(d:aR),zd aD d→q_ d.v (z5 (o+2))
 c9:aD.z=al.z
 adS:al.z≤a.ds.z
abbrev auF:cx:=oo aty (.s _ (.s _ (ġ (.ag2 _ g)))) g .C
abbrev adZ(a:aH)(f g:R)(fe fi:pl):dv:=[ve,nn f,nn g,sS,c (wk vS),fe,fi]
mutual variable(a:aH)(aS:pN)
include aS
def Pl(f)(y)(O)(cf)(l)(b:(l[4]?).afO=c (wk vS)):aU O cf (.adv p6) l (a.dG f (vb y)).F=c (y,(a.dG f m_).F):=tg (oM Lw O _ (a.dG f (vb y)).F _ [] y (CK b) (Ũ Id)) (ru Pm)
def ZA(x)(i)(o){g}(b:aUR i=g):f1 (aVY uH) .lM qw aP5=c (qP (! g)):=by rw[m1 (jT (aVY uH) qw aP5=c g) (by rw[m6 ((match(aVY uH)[a.ad]? with|c (.bE H)=>(nK (Y&&(ar.m o).im jA) (c (kx qw H).eF))|c (u_ H)=>c (aUR H)|_=>B)=c g),ru KT,←b]),mY Ab,m6 ((oo (aVY uH)[a.ad]? (c r1) (ow (jT (aVY uH) qw aP5) j (ar.aO (! j))) B)=_),Ab,ru KT];rfl
def ZB(x)(i)(o:u)(b:i.z<10):lm (aVY (sp i)) a.ad (aQh o) nG=c (aVY (uG (dq (fN i (o+2))))):=by unfold lm;rw[ru KT,m6 ((nK (rH dq i<du) nJ)=_),c0 (by unfold dq;rw[vO,mW (Ĺ b)]),sr (nc o+2) (ob (o+2)) e,Ki,ru ZC]
end
abbrev aCm:cx:=(nA (.f_ (.aft (.A 4) (.bp 18 (.s (sO "tab") (nA (.eT pn "force" (nA sw))))))))
def U8:∀(a)(aS:pN)(h)(aM)(f g:u)(abV:f≠g)(a0)(bq)(hD:yU f)(U:a0.mi=bq)(f6)(il:vf∉f6)(iQ:f6.z<10)(fe fi adE)(V)(abX:fZ (ó n0 aCm) 6 B (cS bq) (adZ a aM zp ż fi) aVy=c (na,adZ a aM zp ż adE,(a.dG (uG (dq (fN f6 vf))) ů).F)),f0 T n0 auF (adZ a aM zp fe fi) (a.dG aOI (vb aQi)).F=c (na,adZ a aM zp ż adE,(a.dG (uG (dq (fN f6 vf))) ů).F):=by rw[mY a,mY aS,mY h aM f g,mY abV,mY a0 bq,mY hD U,mY f6,mY il iQ,mY fe fi adE V,mY abX];have ba:=Pl a aS aOI aQi T n0 (adZ a aM zp fe fi) e;have d6:(z3==zp)=Y:=rJ acw;(have fC:(!(z3==0))=G:=sh (acw (show z3≠0 by omega)));have Ab:=aSV ZA (dq f6) z3 ((Ka f6 vf).ah (jq il));have lf:=ZB a aS m_ f6 f iQ;have aIb:pE aVy (.D 4) aQi=c (wk (26+f)):=D5 (a.dG (uG (dq (fN f6 vf))) m_) f _ hD;(have mq:gz T aVy (wk (26+f)) "bases"=c (zz bq):=by rw[m2 (Jw (a.dG (uG (dq (fN f6 vf))) m_) f _ hD),m5,o6 U,mW aa]);exact pK [aZ ba,rN d6,qa EJ fC,p Ab,aaF lf,p aIb,p mq,os (pj F8 y (zz bq) i (cS bq) x B e abX)]
def U9:∀(a:aH)(aS:pN)(al:n1)(aD:nL)(fw:vB)(hL:aVc)(h:u)(aM:R)(g:u),∀(f ac gc:u)(f6:nq)(fe fi:pl),f<ac→vf<gc→f<al.z→f6.z+f<10→(oG f6 (vf<j))→∃fl l acc V,ae8 (adA T n0 p6) (ó n0 auF) gc (adZ a aM zp fe fi) (a.dG aOI (vb aQi)).F=c (fl,l,(a.dG aUH ů).F)∧((aeb al g ac f=G∧fl=aOU)∨(aeb al g ac f=Y∧fl=na)):=by rw[ug,mY aS];injections al aD;rw[mY fw hL,yb aM g];have aeF:∀fe fi k(V:nC),adA T n0 p6 (adZ a aM zp fe fi) (a.dG k ů).F=c (! V.dD,(a.dG k ů).F):=fun fe fi k V=>Qf vP (Lm (Ũ Id));intro f;induction f using u.awy with|ind f ih=>intro ac gc f6 fe fi b2 adY a_ iQ aeE;obtain⟨add,e⟩:∃add,ac=add+1:=⟨ti,m4 (yw Br [f,ac,ti] pR pR e (rz (s7 (Ag [f,ac,ti] 1 ai nm ai e b2))))⟩;obtain⟨gg,e⟩:∃gg,gc=gg+1:=⟨gc-1,m4 (yw Br [f,gc,gc-1] pR pR e (rz (s7 (aQG [f,gc,gc-1] ai wK ai e adY))))⟩;have h1:=aeF fe fi aOI [aQi];rw[nH abV f g,mZ ih aeE iQ adY b2 aeF];subst abV;rw[mX AQ _ (adZ a aM z3 ż fi) f6 ([]) ?_ (aQ.bT (qS vp))];have ba:=Pl a aS aOI aQi T n0 (adZ a aM z3 fe fi) e;have:f0 T n0 auF (adZ a aM z3 fe fi) (a.dG aOI (vb aQi)).F=c (aOU,adZ a aM z3 ż fi,(a.dG aOI m_).F):=pK [aZ ba,p (nI AH f z3 g z3 (aaU _))];simp only[Lq,h1];rw[m6 (m7 afw=_),tf];rfl;have hD:nX a.ds f (a.ds[f]'(u.k0 a_ hL.adS)):=ų;have aB9:=hL.ds f _ hD;have afx:n9 al f al[f]:=r.hV a_;rw[ot (fw.up f _ afx) aE5 aNB,m1 (vf∉f6) (fun bK=>u.apy _ (aeE _ bK)),mY il,m1 (f6.z<10) (u.hO (m7 u.acK) iQ),mY aI5];have bD:=fun bq Q=>U8 a aS h aM f g abV _ bq hD Q f6 il aI5 fe fi;clear hD;induction cK:al[f]using R.ae with|aeQ aP=>rw[cK]at afx;(obtain⟨akv,e⟩:∃akv,gg=akv+1:=⟨gg-1,m4 (yw Br [f,gg,gg-1] pR pR e (rz (s7 (aQG [f,gg,gg-1] ai wK nN e adY))))⟩);rw[m1 (rD aaT f=[]) (ĺ aaT afx),mY aas,mX AQ na _ (fN f6 vf) ([]) ((qn DH h1 (bD [] (aB9.ah aas) fi [] (BG ..))).ah (m7 (p5 Fu akv) (n7 aeF []))) (aQ.bF (qS (by simp only[PG,PH,cH abV,afx])))]|gq aP=>rw[cK]at aE5 afx;have aeG:aP<f:=R.aa7.mp aE5;(have aJj:aP<aD.z:=nb hL.c9 (u.mM aeG a_));have mo:n9 aD aP aD[aP]:=r.hV aJj;rw[m1 (rD aaT f=[aD[aP].v]) (by unfold aaT;rw[afx,m6 ((match aD[aP]? with|c d=>[d.v]|B=>[])=_),mo]),mY aas,m2 (hL.cl aP _ mo),mY iC];revert aas iC;generalize aD[aP].v=v;intro aas iC;have afy:=RS (a.dG (uG (dq (fN f6 vf))) m_) h _ _ iC;have aIl:=F_ (a.dG (uG (dq (fN f6 vf))) m_) h oF;(have J:ny n0 (.aft (.A 4) (.bp 18 (.s (sO "tab") (nA (.eT pn "force" (nA sw)))))) (adZ a aM zp ż pZ) aVy=c (.B,(a.dG (uG (dq (fN f6 vf))) (vb (aQh aP))).F):=qZ (sb (w3 Lt n0) vS aVy aVy (oh [aQh aP]) [aQh aP] [] [] vP (Ũ Id) (qW [aZ aIl,aZ afy]) e (Ũ Id) (aRZ (1<du))) (ru Pm));rw[m2 ((BO (ó n0 aCm) 6 oF [] (adZ a aM zp ż fi) aVy _ _ (pK [aZ J])).ah (BG _ 6 (adZ a aM zp ż pZ) (a.dG (uG (dq (fN f6 vf))) (vb (aQh aP))).F)),mY abX,mX AA (ih aP aeG add gg (fN f6 vf) ż pZ (m4 (aV8 (aWd [f,add,aP]) b2 aeG)) (m4 (aV8 (oa Am [f,gg,aP] (a8+2) ai wK) adY aeG)) (m4 (aQO (aWd [f,al.z,aP]) a_ aeG)) (q7 (HT f6 vf) (oa Bu [f,f6.z,aP,(fN f6 vf).z] (eK+a8) 10 (ai+S) 10 (a8+1) S eK nN e iQ aeG aa)) (fun j J=>by rw[nt ((sF N1).1 J),ya,m9,n8,m8,mW u.mM (u.agc aeG 2) (pa aeE),mW u.agc aeG 2])) fun fl l acc V Q h2=>?_,mW AQ fl l acc V ((ni (p5 DH gg) h1 (bD _ (aB9.ah aas) _ _ abX)).ah Q) (aUn PG PH (cH abV) afx h2)]
def U7:∀(a:aH)(aS:pN)(al:n1)(aD:nL)(fw:vB)(hL:aVc)(h f g:u)(a_:f<al.z),pG 2 22 [tJ,aQi,pe zp] (n5 (aeb al g (f+1) f)):=by rw[ug,mY aS];injections al aD;rw[mY fw hL,yb f g,mY a_];have abZ:=fw.c9;refine AA (U9 a aS al aD fw hL h z3 g f (f+1) alZ [] B B (u.aiI _) (by unfold alZ;exact t5 [f,al.z] wK 4096 nm ai ai 4 e a_ abZ) a_ (show 0+f<10 by exact t5 [f,al.z] (0+S) 10 nm ai ai 4 e a_ abZ) (fun P b=>aOk)) fun fl l acc V Q h2=>?_;have g1:ny n0 (.lK G) [ve,ż,w6 zp,B,B,B,B] a.F=_:=ru OT;have gW:ny n0 (.hw (nA qc)) [ve,ż,w6 zp,sS,B,B,B] (uI sj)=_:=KL _ (Ð D_ _) (vs:=[aQi]) e;rw[IT]at gW;simp only[Sb];rw[mZ abZ a_,nY h2 h2,mY J,nV,ng,oc h2,m9,mY J,nV,ng,oc h2,m8,h2,mW (uU (pK [aZ g1,aZ gW,os ((Fw ..).ah Q)])).ah (Nx a aS aUH ů _ e l),h2,mW (uU (pK [aZ g1,aZ gW,os ((Fw ..).ah Q)])).ah (Nx a aS aUH ů _ e l)]
structure aag(a:aH)(al:n1)(d:aR):Prop where
 eY:∀o,d.eu=pY→o<al.z∧q_ d.v (z5 (o+2))∧∃a0,yU o∧a0.cA=1
 afW:d.eu=0→∃l,n9 a.ak d.v l∧(∀aj,l=nP aj→∃aan a0,aj=aan+2∧yU aan∧a0.cA=2)
set_option tactic.hygienic true in
def MI:∀(a)(aS:pN)(al)(aD)(fw:vB)(hL:aVc)(h)(k v)(bN:zy k)(pt:zy v),pG 3 47 [tJ,.m k.v,.m v.v] (n5 aPG):=by rw[ug,mY aS];injections al aD;rw[mY fw hL,yb k v,mY bN pt];(have cA:∀(j:aR),zy j→∃l,n9 a.ak j.v l∧((l.o=9∧∃aj a0,l=z5 ģ∧ŀ∧((j.eu=aj+1∧a0.cA=1∧aj<al.z)∨(j.eu=0∧a0.cA=2)))∨(l.o≠9∧j.eu=0)):=by intro j mQ;induction J:j.eu using u.ae with|gk o=>(obtain⟨Q,h2,a0,h3,h4⟩:=mQ.eY o J);exact(aOq (vU h2) (qd e (Au o a0 e h3 (aQ.bT (AE e h4 Q)))))|hf=>rw[so mQ.afW J,mY l Q h2,mX Ad l Q ?_,mZ Q,nH aG l.o 9];left;rw[y1 aG];induction l using a9.ae<;>simp[a9.o]at aG;rename_i aj;rw[m3 At (h2 aj e),mZ h2];rintro aan a0 e h3 h4;rw[mW (Ê (Au aan a0 e h3) (wz h4)),mW aQ.bF (qS aG)]);rw[nD (cA k bN) f a_ aCF,nD (cA v pt) g U aCG];have jb:=sP _ f a_;have dt:=sP _ g U;have aiF:=Bo a.F f;have aJV:=Bo a.F g;rw[mZ a_,nY aCF aCF,mY J];rcases J with(⟨aG,aj,a0,e,hD,ak7⟩);rw[m9,mY J,nV,ng];rintro aG ba;rw[m8,mZ U,nY aCG aCG,mY J];rcases J with(⟨ad2,aan,jx,e,ajt,aCo⟩);rw[m9,aO2 ad2 dg,m8];have afp:=aRz D5 hD;have azW:=D5 a aan jx ajt;have aap:=aRz M5 hD;have aq6:=M5 a aan jx ajt;rw[nY ak7 ak7,mY J,Ö,ng];rintro Q h2 h3;rw[m9,mY J,nV,ng];rintro Q h2;rw[m8];rw[h2]at aap;rw[nY aCo aCo,mY J,Ö,ng];rintro jQ kT amM;rw[m9,mY J,nV,ng];rintro jQ kT;rw[m8];rw[kT]at aq6;have aas:=U7 a aS al aD fw hL h aj aan h3;rw[show aPG=!(aeb al aan (aj+1) aj)by simp[lX,Q,jQ],mW (nd FN [sC,xo,.K,.K,.K,.K,.K,p afp,p aap,.K,.K,p azW,p aq6,.K,.K,.K,aZ aas])];rw[kT]at aq6;rw[show aPG=Y from Ê c0 jQ,mW (nd FN [sC,xo,.K,.K,.K,.K,.K,p afp,p aap,.K,.K,p azW,p aq6,.K])];rw[h2]at aap;rw[show aPG=Y from aOq c0 Q,mW (nd FN [sC,xo,.K,.K,.K,.K,.K,p afp,p aap,.K])];(have t:(g.o==9)=Y:=o7 ad2);rw[show aPG=Y from Ê c0 dg,mW (nd FN [sC,xo,.K,.K,p aJV,p (EJ (by rw[t]))])];(replace t:(f.o==9)=Y:=o7 aG);rw[show aPG=Y from aOq c0 ba,mW (nd FN [sC,xo,p aiF,p (EJ (by rw[t]))])]
abbrev aaA(al:n1)(aD:nL)(hE:N)(o:u)(a0:lr):lr:={a0 with mi:=aVS}
abbrev aH.e'(a:aH)(al:n1)(aD:nL)(hE:N):aH:=oP ds (a.ds.ad8 (rD aaA hE))
abbrev aH.acU(a:aH)(o:u)(g:nq):aH:=oP ds (a.ds.aDS o fun a0=>{a0 with mi:=g})
def T2(aq)(i)(o)(g)(a0)(b:n9 i o a0):ii aq (i.aDS o fun a0=>{a0 with mi:=g})=(ii aq i).b6 o (jM (aq+o) a0.cA "C" a0.bD g):=by induction i generalizing aq o with|C=>rw[Ē]|s f i ih=>rw[uL o (by rw[sB r.aoJ ap.c.fV,mZ ih,pq];rfl) o (by rw[xi r.agv];simp only[r.modify_succ_cons,Hp,Hq,r.aEy];rw[ih xk o b,rh (xk+o) (aq+pY) (BI [aq,o] zr tS e)])]
def Abx:∀(a:aH)(o)(g)(a0)(b:yU o),a.F.b6 (26+o) (jM (2+o) a0.cA "C" a0.bD g)=(a.acU o g).F:=by injections a o g a0;rw[nR,aUf aG];(have aB:(a.acU o g).ds.z=a.ds.z:=rA aH.acU);(have iN:(a.acU o g).gl=a.gl:=by unfold aH.gl;rw[aB];rfl);rw[m1 ((a.acU o g).g8=a.g8) (by unfold aH.g8;rw[iN];rw[aH.l0,aB];rfl),mY aoX,m1 (a.gl≠26+o) (by unfold aH.gl;split<;>omega),mY dw,m1 (∀p,((a.g8++ii 2 _)++a.ca).b6 (26+o) p=(a.g8++(ii 2 _).b6 o p)++a.ca) (by rw[mY p,aNG (qm (by simp[Bs,Ca])),m7 r.ake (qm (by simp only[Bs])),Bs,rh (26+o-26) o (q2 (Br (rV (26+o-26)) ai S (ai+26) zg e) (AJ (rV (26+o-26)) 26 zg e))]),p0,aPY,iN,aoX,nv r.awi dw,d,←T2 2 _ o g a0 b];rfl
def Xs(i:r lr)(o:u)(g:nq)(b:∀a0,n9 i o a0→a0.mi=g):i.aDS o (fun a0=>{a0 with mi:=g})=i:=by rw[aP0,mY q];rw[r.aBX]at⊢;rw[nH aCA o q];subst aCA;(induction aB:i[o]? using ap.ae with|B=>rw[ũ]|c a0=>rw[m2 (b a0 aB),m5];simp;induction a0 using lr.ae;simp_all);simp[aCA]
structure abK(a:aH)(al:n1)(aD:nL):Prop where
 fQ:aN9
 eY:a.lZ=aD.au aR.aY
 cl:∀(o:u)(d:aR),zd aD d→q_ d.v (z5 (o+2))
 c9:aD.z=al.z
 adS:al.z≤a.ds.z
 afW:∀(o:u)(a0:lr),yU o→rD aaT o=[]→aUF
def RU{al}{aD}(fw:vB)(aB:aD.z=al.z)(o aP)(b:nX al o (.gq aP)):∃d,n9 aD aP d∧rD aaT o=[d.v]:=by rw[aUf aG,m2 (fw.up o _ b).1,mY cK];(have jf:aP<aD.z:=by rw[m1 (ě<o) cK,mY h',mW u.k0 (u.mM (R.aa7.1 h') aG) (u.fp aB.cq)]);exact(Ad (aD[aP]) (r.hV jf) (by simp only[aaT,b,r.hV jf]))
def WR:∀(a)(al)(aD)(fw:vB)(hL:aQS)(cf)(hE)(o)(aG:o<al.z)(eQ:pl),aRb f0 (nA (ts (on ge (r_ 2 p6) nr) (nA (.dU (ø à (ø aOK (x2 p6) nr) nG) "bases" (.bC (.A 3) (qL (nA (rZ (ø qc ph p6) nr))) yl))))) (aTO tE)=c (na,aTO tE,(a.acU o aVS).F):=by rw[vj al aD,mY fw hL];injections cf hE o;intro aG eQ;have arq:zd al al[o]:=r.hV aG;(have arT:aVu xW qw al[o]:=by rw[Cq _ 24 _ o (HK a),hL.fQ];simp[arq]);have aut:nX a.ds o (a.ds[o]'(by rw[m2 hL.adS,m5];omega)):=ų;induction cK:al[o]using R.ae with|aeQ aP=>rw[cK]at arT;(have arF:¬(tM≤R.aeQ aP):=n_);(have U:rD aaT o=[]:=by simp only[aaT,arq,cK]);rw[m1 (a.acU o aVS=a) (by rw[U];unfold aH.acU;rw[show(if hE then([]:nq)else[])=[]by split<;>rfl,Xs a.ds o [] (fun a0 hD=>hL.afW o a0 hD U)]),mY hs,hs,mW (pK [p arT,sZ CS jq arF])]|gq aP=>rw[cK]at arT arq;have aDp:aVu xW qw ě:=arT;rw[nD (RU fw hL.c9 o aP arq) d he U];have aB5:nX aD o (aD[o]'(yo hL.c9)):=ų;(have aJw:pE a.F wq qw=c (aD[o]'(yo hL.c9)).aY:=by rw[n7 Cq o (EY a),hL.eY];simp[aB5]);(have aJx:pE a.F wq (.m ě)=c d.aY:=by rw[Cq _ 25 _ aP (EY a),hL.eY];simp[he]);rw[m2 (hL.cl o _ aB5),mY iC];(have apc:tM≤ě:=m4 (A4 [↑aP] 0 b5 0 b5 e vV));have Aw:=ui F1 (aD[o]'(yo hL.c9));rw[xF aG0 F1 d];have aJF:=sP _ _ iC;have aav:eC a.F (a9.bI (o+2)).aY nG=c (aQh o):=D4 ..;have afp:=D5 a o _ aut;rw[m1 (oD (aU _ cf (.bC (.A 3) (qL (nA (rZ (ø qc ph p6) nr))) yl) (aTO tE) a.F) (qL (cS aVS))) (by rw[rs hE (by rw[U,mW (qW [p aDp,p aJx,p aG0])]) (by exact aQp)]),mY i5];have au6:oD (aRb aU (ø à (ø aOK (x2 p6) nr) nG) (aTO tE)) (wk (26+o)):=qW [p aJw,Ě,p aJF,Ů,p afp];(have afH:aRb dP (.dU (ø à (ø aOK (x2 p6) nr) nG) "bases" (.bC (.A 3) (qL (nA (rZ (ø qc ph p6) nr))) yl)) (aTO tE)=c (na,aTO tE,(a.acU o aVS).F):=nb (n7 (qn Ep) 1 _ i5 au6 (EZ a o _ aut) e qg) (cr (nF (c (ls.bU,([nJ,nJ,nJ,nJ,nJ]:dv),j))) (Abx a o _ _ aut)));exact pK [p aDp,sZ CS hZ apc,os afH]
def GJ(f h:u):k5 vn 1 nB=th::k5 (ob (f+1)) 1 h:=sg GH GI
def abK.acU{a:aH}{al:n1}{aD:nL}(hL:aQS)(o:u)(hE:N):abK (a.acU o aVS) al aD:={fQ:=hL.fQ,eY:=hL.eY,cl:=hL.cl,c9:=hL.c9,adS:=aSf aH.acU r.length_modify hL.adS,afW:=fun aq a0 b U=>by rw[sB aH.acU r.aBX];induction hd:Ä a.ds using ap.ae with|B=>rw[xi hd,Ē]|c aqp=>rw[xi hd,m2 (hL.afW aq aqp hd U),mY bf,nH aCH o aq,mZ hd];subst aCH;rw[Ē,pq,U];simp;simp[aCH]at b;rw[pq,mW bf]}
def WP:∀(al)(aD)(fw:vB)(cf)(hE),∀(H o)(a)(eQ),aQS→o+H=al.z→∃agY,fZ (f0 T cf (nA (ts (on ge (r_ 2 p6) nr) (nA (.dU (ø à (ø aOK (x2 p6) nr) nG) "bases" (.bC (.A 3) (qL (nA (rZ (ø qc ph p6) nr))) yl)))))) 4 B (k5 uQ 1 H) (aTO eQ) a.F=c (na,aTO agY,yu ds (a.ds.ad8 fun aq a0=>if o≤aq∧aUU then aaA al aD hE aq a0 else a0)):=by injections al aD;intro fw;injections cf hE;intro H;induction H with|hf=>rw[mY o a eQ hL aG,y1 eQ];(have:(oP ds (a.ds.ad8 fun aq a0=>if o≤aq∧aUU then aaA al aD hE aq a0 else a0):aH)=a:=by rw[m1 ((a.ds.ad8 fun aq a0=>if o≤aq∧aUU then aaA al aD hE aq a0 else a0)=a.ds) (by rw[aP0,mY q,r.agw,m1 (¬(o≤q∧q<al.z)) (m4 (Ye aG)),m5];simp[aa]),m5,tf]);rw[aa,mW Ĝ]|gk H ih=>rw[mY o a eQ hL aG,n4 (ih pY _ tE (hL.acU o hE) (m4 (Br [o,H,al.z] zr a8 tS a8 e aG))) agY b,y1 agY,GJ,m2 (w8 WR fw hL cf hE o (m4 (Ag [o,H,al.z] (S+1) a8 tS a8 e (Az aG))) eQ),mY cU,mX (zt cU).ah (b.ah ?_)];congr 3;rw[m6 ((({a.acU o aVS with ds:=_}:aH)).F=_),uh];unfold aH.acU;rw[m3 cr (fun aj=>(oP ds aj:aH)),aP0,mY q];simp only[r.agw,r.agw,r.aBX];induction rS a.ds using ap.ae with|B=>rfl|c a0=>simp only[ap.ji,ap.c.fV];rw[nH arA o q];subst arA;rw[m1 (¬(pY≤o∧o<al.z)) (m4 (nF (u.not_succ_le_self o sz))),mY Q,m1 (o≤o∧o<al.z) (m4 ⟨AJ ub S S e,Ag [o,H,al.z] (S+1) a8 tS a8 e (Az aG)⟩),mY h2,c0 h2];simp[aaA];by_cases h2:o≤q∧q<al.z;rw[m1 (pY≤q∧q<al.z) (m4 ⟨u.ar3 h2.1 arA,h2.2⟩),mY Q];simp only[c0 Q,c0 h2];simp[arA];rw[m1 (¬(pY≤q∧q<al.z)) (m4 (nF (rW h2 (u.ajQ sz) j.2))),mY Q];simp only[cH Q,cH h2];simp[arA]
def RT(al)(aD)(o)(b:al.z≤o):rD aaT o=[]:=aP4 aaT (r.aii b)
def Fk(H:u)(b:H<2000):acb [.m H]=c (k5 (ob 0) 1 H):=by rw[m2 (DG H b),mY hs,m1 (acb [.m (nc H)]=nK (g2 (nc H)=G) (c (k5 0 1 (nc H).es))) e,m5,aa,c0 hs,R.akg];rfl
def WO(a:aH)(al:n1)(aD:nL)(hL:aQS)(hE:N):(oP ds (a.ds.ad8 fun aq a0=>if 0≤aq∧aUU then aaA al aD hE aq a0 else a0):aH)=rD a.e' hE:=by rw[m1 ((a.ds.ad8 fun aq a0=>if 0≤aq∧aUU then aaA al aD hE aq a0 else a0)=a.ds.ad8 (rD aaA hE)) (by rw[aP0,mY q,r.agw,r.agw];induction hd:rS a.ds using ap.ae with|B=>rfl|c a0=>simp only[ap.ji,ap.c.fV];rw[y7 Ab al.z,c0 ⟨m4 (AJ [q] 0 S e),Ab⟩];rw[cH (m4 (nF (Ab j.2)))];have U:=RT al aD q (m4 (u.aa6.1 Ab));rw[m2 (hL.afW q a0 hd U),mY aa];dsimp only[aaA,U];clear hd;induction a0 using lr.ae;simp_all),m5];unfold aH.e';rw[tf]
def G0(O:mD)(cf:iV)(q:u)(Aa:hG)(g:cx)(l:dv)(w a4:ch)(vs i:nC)(b:o5 aN3 vs)(br:acb vs=c i):pU dP (.mn q Aa g)=fZ aRf q B i l a4:=by simp only[Lx,b];rw[m6 ((acb vs).bP _=_),br];rfl
def K5{O}{cf}{g}{q}{l}{w}{vs t}{V}(br:acb vs=c t)(b:fZ aRf q B t l w=V):((acb vs).bP fun t=>fZ aRf q B t l w)=V:=nb br b
def H3(a)(al)(aD)(fw:vB)(hL:aQS)(h)(hE):ś 82 [oW,wq,xW,qP hE]=c (.B,(rD a.e' hE).F):=by rw[n4 (WP al aD fw nT hE al.z 0 a B hL (m4 (BI [al.z] (0+S) S e))) agY b,pr (WO a al aD hL hE)];have abZ:=fw.c9;have amV:rm (ui acN xW) al.z:=CX (Fm (hL.fQ▸HK a)) (by rw[vO]);exact nd SB [p amV,os (K5 (ű Fk _) b)]
def AbZ:∀{f g x dE bZ c' an1 aji an9}(b:gX f g x dE bZ c'=G)(o:gX dE bZ c' an1 aji an9=G),gX f g x an1 aji an9=G:=by injections f g x dE bZ c' an1 aji an9;intro b o;simp only[gX,N.c3,N.acR,Ee]at b o⊢;rw[wH b,mZ b];rintro Q h2;rw[wH o,mZ o];rintro j6 hM;rw[y1 (fun q Ab=>j6 q (Q q Ab)),nY h2 h2];rintro h2;rw[m9,mY J,nV,ng];rintro h2 h3;rw[m8,mW aQ.bT h2,nY hM hM];rintro hM;rw[m9,mY J,nV,ng];rintro hM ajM;rw[m8];left;rw[m1 (bZ=0) (o7 hM),mY aa,mZ hM,uM,m1 (g=0) (by apply u.at9;intro q;induction U:g.ln q using N.ae with|Y=>simp|G=>rw[m2 (h2 q U),m5];simp at aa),m5];simp[aa];exact rW aQ.bF (fun q Ab=>hM q (h2 q Ab)) (fun q Ab=>ajM q (h3 q Ab))
set_option tactic.hygienic true in
def C6(q f g x:u)(v:bv)(aG:hb (pf q f g x) v=G):∀k:bv,hb k (pf q f g x)=G→hb k v=G:=by intro k;induction k using bv.jB (hv:=te (agX i (pf q f g x)=G→agX i v=G))with|cl aq dE bZ c'=>rw[nR];(induction v using bv.ae with|cl o an1 aji an9=>exact AbZ (show gX dE bZ c' f g x=G from b) (show gX f g x an1 aji an9=G from aG)|bY=>rw[qT aG]|un=>rw[qT aG])|bY aq k ih=>rw[nR,mW N.anq.2 (.bF (ih b))]|un i ih=>rw[nR,mW Ű]|C=>rfl|s k i aiC aiD=>rename_i b;simp only[It,Iu,N.c3]at b⊢;exact⟨aiC od,aiD qK⟩
set_option tactic.hygienic true in
def Ir(H:bv)(cj:tK)(bK:H∈cj):∀k:bv,hb k H=G→lO k cj=G:=by intro k;induction k using bv.jB (hv:=te (agX i H=G→ae0 i cj=G))with|cl aq dE bZ c'=>rw[nR];simp only[A6,A7,A8,r.gZ];exact⟨H,bK,b⟩|bY aq k ih=>rw[nR];simp only[A6,A7,A8,N.acR,r.gZ];exact aQ.bT ⟨H,bK,b⟩|un i ih=>rw[nR];simp only[BA,BB,BC]at b;simp only[A6,A7,A8];exact Ű|C=>rfl|s k i aiC aiD=>rename_i b;simp only[It,Iu,GV,GW,N.c3]at b⊢;exact⟨aiC od,aiD qK⟩
abbrev al6(bh:bv)(ed:tK):Prop:=(∀st,hb bh st=ed.de fun k=>hb k st)∧(∀cj,lO bh cj=ed.de fun k=>ĸ cj)
abbrev adJ(ks ed:tK):Prop:=(∀o∈ks,o∈ed)∧(∀k∈ed,k∈ks∨∃q f g x V,V=bv.cl q f g x∧V∈ks∧(∃aq dE bZ c',k=pf aq dE bZ c')∧hb k V=G)
def adJ.all1{ks ed}(b:adJ ks ed)(st):(ks.de fun k=>hb k st)=ed.de fun k=>hb k st:=by rw[N.ac9,r.hp,r.hp];constructor;rw[mY aG k hs,nt (qK k hs)];rintro h';rw[m9,mY J];rcases J with(⟨q,f,g,x,V,e,eh,_,aS⟩);rw[m8,mW aG k h',mW C6 q f g x st (aG _ eh) k aS,mY hs o aG,mW hs o (od o aG)]
def adJ.LO{ks ed}(b:adJ ks ed)(cj):(ks.de fun k=>ĸ cj)=ed.de fun k=>ĸ cj:=by rw[N.ac9,r.hp,r.hp];constructor;rw[mY aG k hs,nt (qK k hs)];rintro h';rw[m9,mY J];rcases J with(⟨q,f,g,x,V,e,eh,⟨aq,dE,bZ,c',e⟩,aS⟩);rw[m8,mW aG k h',m2 (aG _ eh),mY aa,aWl aa,oz aa H bK d,mW Ad H bK (C6 q f g x H d _ aS),mY hs o aG,mW hs o (od o aG)]
def QF{ks ed}(b:adJ ks ed):al6 aSr ed:=⟨fun st=>aUn BA BB BC Is (b.all1 _),fun cj=>aUn A6 A7 A8 GU (b.LO _)⟩
def QG{o}{ed}(b:adJ ub ed):al6 o ed:=⟨fun st=>by rw[←b.all1 st];simp,fun cj=>by rw[←b.LO cj];simp⟩
abbrev acY:bv:=zB 1
def LH{ed}(b:acY∈ed)(aJ:∀k∈ed,hb k acY=G):al6 acY ed:=by constructor;intro st;rw[N.ac9,r.hp]at⊢;constructor;rw[mY aG k hs,mW (ni C6 st aG k (aJ k hs)),mY hs,mW hs _ b,mY cj];rw[N.ac9,r.hp]at⊢;constructor;intro aG k hs;simp only[acY,A6,A7,A8,r.gZ]at aG;rw[oz aG H bK d,mW Ir H cj bK k (ni C6 H d k (aJ k hs)),mY hs,mW hs _ b]
def adJ.B3{ks ed}(b:adJ ks ed):∀k,ĸ ks=ĸ ed:=by(have Q:∀k:bv,ks.dS (hb k)=ed.dS (hb k):=by rw[mY k,N.ac9,r.gZ,r.gZ];constructor;rw[mY J,sE,ng];rintro o aG d;rw[mW ⟨o,od o aG,d⟩,mY J,sE,ng];rintro j J d;rw[nt (pa qK)];rintro h';rw[m9,mY J];rcases J with(⟨q,f,g,x,V,e,eh,⟨aq,dE,bZ,c',e⟩,aS⟩);rw[m8,mW Ad j h' d,mW (vU eh (oM C6 aq _ aS k d))]);intro k;induction k using bv.jB (hv:=te (ae0 i ks=ae0 i ed))with|cl aq dE bZ c'=>simp only[A6,A7,A8];exact Q _|bY aq k ih=>simp only[A6,A7,A8,Q,ih]|un i ih=>simp only[A6,A7,A8];exact ih|C=>rfl|s k i aiC aiD=>simp only[GV,GW,aiC,aiD]
def Aco(o)(aG:o.jg=Y):∀k,ĸ ub=hb k o:=by intro k;induction k using bv.jB (hv:=te (ae0 i ub=agX i o))with|cl aq dE bZ c'=>simp[A6,A7,A8]|bY aq k ih=>simp only[A6,A7,A8,ih,r.akC,r.any_nil,N.apQ];exact m7 (nw:∀ag j:N,((ag||j)||j)=(ag||j))|un i ih=>simp only[A6,A7,A8,BA,BB,BC];exact ih|C=>rfl|s k i aiC aiD=>simp only[GV,GW,It,Iu,aiC,aiD]
set_option tactic.hygienic true in
def Acn{cj aiJ}(b:∀H∈cj,H∈aiJ):∀k,lO k cj=G→lO k aiJ=G:=by intro k;induction k using bv.jB (hv:=te (ae0 i cj=G→ae0 i aiJ=G))with|cl aq dE bZ c'=>rw[mY hs,aWl hs,oz hs H bK d,mW Ad H (b H bK) d]|bY aq k ih=>intro hs;simp only[A6,A7,A8,N.acR,r.gZ]at hs⊢;rw[nY hs hs,mY J,sE,ng];(rintro H bK d);rw[m9];(rintro hs);rw[m8,mW aQ.bT (Ad H (b H bK) d),mW aQ.bF (ih hs)]|un i ih=>intro hs;simp only[A6,A7,A8]at hs⊢;exact ih hs|C=>rfl|s k i aiC aiD=>rename_i hs;simp only[GV,GW,N.c3]at hs⊢;exact⟨aiC hs.1,aiD hs.2⟩
def Acm:∀{a:aH}{hs os:tK}(hc:oG hs (lO j os=G))(aJ:oG hs (j.jg=Y∧∃q,ty q j∧∀aq ab,j=.bY aq ab→aq=q)),∀{q:u}{k:bv},uu q→lO k hs=G→lO k os=G:=by rw[vj hs os,mY hc aJ,mY q k y];induction y with|i9 q g n=>rw[nR,aWl b,oz b j J d,m2 (pa hc),m5];(induction j using bv.ae with|cl aq dE bZ c'=>simp only[A6,A7,A8,r.gZ]at aa;rw[oz aa H bK a5,mW Ad H bK (oM C6 aq H a5 _ d)]|bY=>rw[wT]|un=>rw[wT])|iv=>rw[nR,aWl b,oz b j J d,m2 (pa hc),m5];(induction j using bv.ae with|cl aq dE bZ c'=>simp only[A6,A7,A8,r.gZ]at aa;rw[oz aa H bK a5,mW Ad H bK (oM C6 aq H a5 _ d)]|bY=>rw[wT]|un=>rw[wT])|lk=>rw[nR,aWl b,oz b j J d,m2 (pa hc),m5];(induction j using bv.ae with|cl aq dE bZ c'=>simp only[A6,A7,A8,r.gZ]at aa;rw[oz aa H bK a5,mW Ad H bK (oM C6 aq H a5 _ d)]|bY=>rw[wT]|un=>rw[wT])|D=>rw[nR,aWl b,oz b j J d,m2 (pa hc),m5];(induction j using bv.ae with|cl aq dE bZ c'=>simp only[A6,A7,A8,r.gZ]at aa;rw[oz aa H bK a5,mW Ad H bK (oM C6 aq H a5 _ d)]|bY=>rw[wT]|un=>rw[wT])|bI=>rw[nR,aWl b,oz b j J d,m2 (pa hc),m5];(induction j using bv.ae with|cl aq dE bZ c'=>simp only[A6,A7,A8,r.gZ]at aa;rw[oz aa H bK a5,mW Ad H bK (oM C6 aq H a5 _ d)]|bY=>rw[wT]|un=>rw[wT])|bY q n g k aV bj cV gp y ih=>rw[nR,m1 (ty q _) (.bY q n g k aV bj cV gp y),mY fD];simp only[A6,A7,A8,N.acR,r.gZ]at b;rw[ŕ,mY J,sE,ng];(rintro j J d);rw[m9];(rw[oe]);rw[m8];simp only[BA,BB,BC,N.acR]at d;rw[nY d d];(rw[y2]);rw[m9];(rw[y2]);rw[m8];(induction j using bv.ae with|cl=>rw[wT]|un=>rw[wT]|bY aq ab=>rw[m2 (o7 d),mY aip,oA];subst aip;obtain⟨_,aM4,lQ,ms⟩:=aJ _ J;rw[m2 (ms q ab e),mY aa,mZ ms,uM];rw[fD.fn lQ]at⊢;exact hc _ J);rw[m2 (Ir j _ J k d),mY aa];simp only[A6,A7,A8,N.acR];exact aQ.bF (ih aa);simp only[A6,A7,A8,N.acR];exact aSB ih|un q i dr _ _ _ _ aB _ _ ih=>rw[nR];simp only[A6,A7,A8,GU,r.hp]at b⊢;rw[tr,aP1 aq cQ (r.apA.1 J),mW ih aq _ _ (aUI (Am [i.z,dr.z,aq] (a8+1) S ai S (a8+1) ai e (AN aB) cQ)) ų (b _ J)]
inductive iK(a:aH):aR→Prop|cl(v f g x Av:u):sl v (pf v f g x)→iK a (q' v f g x Av [])|bY(v n g:u)(bh:bv)(i:nL)(ed:tK):q_ v v4→xe v→abQ a n=c g→vd v→ty g bh→qe i→i.z=ed.z→(oG i (iK a j))→(∀(aq:u)(j:aR)(k:bv),p7 i j→p7 ed k→uu j.v)→al6 bh ed→(g=1∨(∃j∈i,g=j.v)∨(∃H,q_ g (qs H)∧∀t∈H,∃j∈i,t=j.v))→iK a (q' v 0 0 0 0 i)
def iK.bx{a z'}(b:yy){d}(n:vy):iK z' d:=by induction n with|cl v f g x Av y=>exact pf v f g x _ (y.bx b)|bY v n g bh i ed aV bj cV gp y ky ahn _ aho aer afq ih=>exact .bY v n g _ i _ (nv b.ak aV) bj (nv b.Cm cV) gp (y.bx b) ky ahn ih (fun aq j k Q h2=>(aho aq j k Q h2).bx b) aer (by rcases afq with Q|Q|⟨H,Q,h2⟩;rw[mW aQ.bT Q,mW (aOq aQ.bF Q),mW (aOB aQ.bF (Ad H (nv b.ak Q) h2))])
def iK.A'{a}{d}(n:vy):sl d.v (pF d.v)∧(cN a d.v).jg=Y∧(∀aq ab,pF d.v=.bY aq ab→aq=d.v):=by cases n with|cl v f g x Av y=>have:pF v=pf v f g x:=Be y;simp only[aR.v,aa];exact(AE y e (fun aq ab b=>Æ))|bY v n g bh i ed aV bj cV gp y ky ahn _ aho aer _=>have fD:sl v (z_ v):=.bY v n g bh aV bj cV gp y;have:pF v=z_ v:=Be fD;simp only[aR.v,aa];exact(AE fD e (fun aq ab b=>by injection b with I L;rw[pi,qD];rfl))
def OH{a}{i:nL}{ed}(aB:i.z=ed.z)(b:∀(aq:u)(j)(k),p7 i j→p7 ed k→uu j.v):i.au (nF aUL)=ed:=by rw[aP0,mY aq,r.adf];by_cases cQ:aq<i.z;have a1:p7 i i[aq]:=r.hV cQ;have a2:nX ed aq (ed[aq]'(m4 (aQO (aV7 [i.z,ed.z,aq]) (Az aB) cQ))):=ų;simp only[a1,a2,ap.ji,Be (b aq _ _ a1 a2)];rw[rJ r.aii,r.aii (m4 (Am [i.z,ed.z,aq] ai a8 ai S S a8 e (AN aB) (x8 cQ)))];rfl
def E6:∀{a}{j}(mQ:iK a j){d}(dT:vy),yI=hb (pF d.v) aUL:=by rw[aP2 j,mY mQ,p0,mY dT,m2 mQ.A',mY lQ];induction dT with|cl v f g x Av y=>rw[mZ lQ,m1 (pF v=pf v f g x) (Be y),mY Aa];simp only[aR.v,Aa,Gk,r.adn,fU];(cases mQ with|cl iu dE bZ c' aKI fD=>rw[m2 (Be fD),mY afr];simp only[aR.v,aR.e7,aR.m0,aR.cC,aR.c4,afr,BA,BB,BC,r.adn,fU];rw[mZ afr,nH api v iu];subst api;rw[m2 (y.fn fD),m5,mZ fD];injection aa with I L Z x4;revert I;rw[aPn,qD];subst Z;subst x4;simp[gX];rw[m1 ((v==iu)=Y) (o7 api),m5,aa,N.ags]|bY iu n bZ bh i ed aV bj cV gp fD ky=>clear akz a_2 a_3 a_5;have fJ:sl iu (z_ iu):=.bY iu n bZ bh aV bj cV gp fD;rw[m2 (Be fJ),mY afr];(have dw:(v==iu)=Y:=by rw[m1 (v≠iu) (by rw[mZ aV bj gp afr,n8,m2 (y.fn fJ),m5];injection aa),m5,Ą]);rw[m1 (i.dD=Y) (by rw[aRk i ky]),mY aB];simp[aR.v,aR.e7,afr,BA,BB,BC,dw,aB])|bY v n g bh i ed aV bj cV gp y ky ahn aou aho aer afq ih=>rw[mZ lQ,mZ aou afq];have fJ:sl v (z_ v):=.bY v n g bh aV bj cV gp y;rw[m2 (Be fJ),mY Aa,m1 (i.dD=Y) (by rw[mZ ahn aho ih,aRk i ky]),mY aB];simp only[aR.v,Aa,Gk,aB,NW,N.aev,abv,BA,BB,BC];rw[m2 (OH ahn aho),mY bK,m1 ((i.de fun ab=>iE ab j)=m7 hb) (by rw[aer.1,←bK,r.atl];apply N.ac9.2;rw[r.hp,r.hp];constructor;rw[mY b ab b0,m2 (wZ b),mY aa,o6 (wZ ih),mW aa,mY b ab b0,wZ ih,mW (wZ b)]),mY h2,mZ ih,h2,mZ h2,uh];cases mQ with|cl iu dE bZ c' aKI fD=>rw[m2 (Be fD),mY afr];(have dw:(v==iu)=Y:=by rw[m1 (v≠iu) (by rw[mZ afr,n8,m2 (fJ.fn fD),m5];injection aa),m5,Ą]);simp only[aR.v,afr,dw]|bY iu cw aji akc l' aNu gE f2 i2 aet fD aoz=>rw[m1 (ty _ _) (ni .bY gE f2 i2 aet fD),mY eN,m2 (Be eN),mY afr];simp only[aR.v,afr]
def Do:∀{a:aH}{p:nL}(po:oG p (iK a j)){d:aR}(dT:vy),aRg=lO (pF d.v) (p.au (nF aUL)):=by rw[aP2 p,mY po,mY d,mY dT];(have ik:∀d,vy→p.dS (iE d)=(p.au (nF aUL)).dS (hb (cN a d.v)):=by rw[mY d dT,r.axF];apply N.ac9.2;rw[r.gZ,r.gZ];constructor;rw[mY J,sE,ng];rintro j J b;rw[mW ⟨j,J,by rw[pr (E6 (pa po) dT),mW b]⟩,mY J,sE,ng];rintro j J b;exact⟨j,J,nb (E6 (pa po) dT) b⟩);induction dT with|cl v f g x Av y=>have Aa:pF v=pf v f g x:=Be y;rw[m2 (ik _ (.cl v f g x Av y)),m5];simp only[aR.v,Aa]at aa;simp only[FS,aa,aR.v,Aa,A6,A7,A8,r.adn,N.aDX,N.aeu,N.apQ]|bY v n g bh i ed aV bj cV gp y ky ahn aou aho aer afq ih=>rw[m1 (sl v (z_ v)) (.bY v n g bh aV bj cV gp y),mY fJ];have Aa:pF v=z_ v:=Be fJ;rw[m1 (i.dD=Y) (by rw[mZ ahn aou aho afq ih,aRk i ky]),mY aB,m2 (ik _ (.bY v n g _ i _ aV bj cV gp y ky ahn aou aho aer afq)),mY aa];simp only[aR.v,Aa]at aa;simp only[FS,aa,aR.v,Aa,A6,A7,A8,aB,MO,N.not_false,N.ace];rw[uh,m2 (OH ahn aho),mY bK,aer.2,←bK,r.atl];apply N.ac9.2;rw[r.hp,r.hp];constructor;rw[mY b ab b0,m2 (wZ b),mY aa,o6 (wZ ih),mW aa,mY b ab b0,wZ ih,mW (wZ b)]
def T4(ao)(a')(b:aVq (kl ao v=qU))(j):j∈û↔j∈a':=by rw[Gd];constructor;rintro(h'|⟨v,aS,J⟩);cases h';rw[b v aS]at J;rw[aQK,mW aS,mY J,mW aQ.bF ⟨j,J,nb (pa b) (r.i7.2 e)⟩]
def AcK:∀{a}{j}{k}(y:uu j)(cK:aUv)(K)(h6:å 6 "string")(h7:å 7 "number"),mS a.ak K j=G∨∃V g,(V=6∧g=120∨V=7∧g=384)∧V∈K∧(∃aq dE bZ c',k=pf aq dE bZ c')∧hb k (pf V g 0 0)=G:=by rw[vj j k,mY y cK];injections K;intro h6 h7;(have apK:∀l:a9,n9 a.ak j l→l.jE=-1→mS a.ak K j=G:=by intro l d eh;unfold mS;rw[d];simp only[eh,N.alG,aoo,r.fq,apH,apG,R.aiO];rw[mY ab b0 d,mW B4 (A5 [↑ab] 1 0 b5 (-1) 0 b5 e (R.fp d) vV)]);cases y with|i9 _ g n=>(rcases P7 a.ak K j g n (nO (AI 120 _ h6 (.st)))with b|⟨b,U⟩|⟨b,U⟩);rw[mW Î,mW aQ.bF (Bx 6 _ (aQ.bT zm) b (uF Hv e) (by simp[BA,BB,BC,gX,U])),mW aQ.bF (Bx 7 _ (aQ.bF zm) b (uF Hv e) (by simp[BA,BB,BC,gX,U]))]|iv d=>exact aQ.bT (apK _ d e)|lk d=>exact aQ.bT (apK _ d e)|D _ _ _ _ _ d=>exact aQ.bT (apK _ d e)|bI _ _ _ _ _ _ _ d=>exact aQ.bT (apK _ d e)|bY _ _ _ _ d=>exact aQ.bT (apK _ d e)|un _ _ _ _=>rw[qT cK]
inductive anZ(a:aH)(a':nq):t4 u oB|iv:1∈a'→anZ a a' 1 a.ak|gB(o:u):1∉a'→o∈a'→adJ [pF o] (xY a'.au)→anZ a a' o a.ak|jh(aP:u)(ao:oB)(ks:nq):1∉a'→ao=sy a.ak aSr→nX ao aP aSr→xe aP→qe ks→ks.z≤8→ks.fF→(∀o∈ks,o∈a')→adJ (xY ks.au) (xY a'.au)→anZ a a' aP ao
def Vu(q)(i)(b:i.fF)(Ab:q∉i):(ahE q i).fF:=qb i (by rw[qz]) f i (by rw[ot (r.l6.1 b) a_ aB];simp only[r.gA,aj4]at Ab;simp only[Gm,Gn];split;rw[mW r.l6.2 (sR (aSf r.gA aj4 Ab)),mX r.l6.2 ⟨?_,ih aB Ab.2⟩];rw[N2]at⊢;rintro(d|d);rw[mW Ab.1 d.cq,mW a_ d])
def AbJ(i)(b:i.fF):(acV i).fF:=qb i (by exact b) f i (by rw[ot (r.l6.1 b) a_ aB,mW Vu f _ (ih aB) (fun bK=>a_ ((m7 Fo).1 bK))])
def WA(ao)(a'):(io ao a').fF:=(AbJ _ (U5 ao a' [] r.ahO)).afu _
set_option tactic.hygienic true in
def Lo:∀(a)(M)(O)(aF:qG)(h)(a')(dw:qe a')(Q:a'.z≤8)(aJ:aVq (∃k,uu v∧aUv))(fT:aSQ),∃(aP:u)(ao:oB),rE 3 8 [oW,v2 a']=c (Ç,ð)∧(ao=a.ak∨∃j,ao=t6 eL j)∧anZ a a' aP ao:=by rw[vj M O,mY aF];injections h a';intro dw Q aJ fT;have h6:å 6 "string":=ł 6;have h7:å 7 "number":=ł 7;(have ba:aVq (t6 kl v=qU):=by rw[mY v aS,m3 Ac (aJ v aS),mY k y cK,oz y.gs l d P,mZ P,m2 (y.CZ l d).1,m5];simp only[cK]at aa;unfold kl;rw[d];simp only[];rw[oA,y8 l a9.ae (by rw[qT aa])]);have aio:=T4 a.ak a' ba;(have ajz:(sm).z≤8:=by rw[m2 (nM HO [] 1 (fun v aS=>nb (ba v aS) yL)),m5];simp only[r.am9,u.aaa,u.mul_one]at aa;omega);(have alb:oG sm (∃l,n9 a.ak j l∧aOx∧mP j):=by rw[tr,m3 Ac (aJ j ((aio j).1 J)),mY k y _,mW y.gs]);rw[m1 (qe (sF fj)) (by rw[m3 Al (aUm dw),mY v aS,nR];have:=(aio v).2 aS;rw[o6 b];cases aa),mY auW];have ajB:qe xJ:=nM Om h6 h7 (fun j J=>by rw[m3 Ac (pa alb),mY l d _,mW ⟨l,d,Qs l⟩]) auW;(have acE:∀j,j∈sm→mP j:=fun j J=>by rw[mX AF (pa alb) fun P P P b=>?_,mW b]);have adm:=Qm a h aF.kh n_ aF.aS (v2 a') a' aUu n_ (fun v aS=>by rw[m3 AF (alb v ((aio v).2 aS)),mY l d _ ho,mW AE (nj ho) (by rw[d];rfl) (nb (ba v aS) yL)]) n_ (fun j J=>by rw[mX AF (pa alb) fun l d ac P=>?_,mW Ad l d ac]) (oE ((acE 0 b).1 e)) (oE (nj (qk (acE 13 b)) e)) (oE (ou (acE 8 b) e)) (oE (oj (qk (acE 14 b)) e)) (nO ajB);rw[mX Au _ _ adm (m7 Ql) ?_];by_cases ain:1∈sm;rw[m1 (aU1=(1,a.ak)) (c0 ain),mY d,d,mW .iv ((aio 1).1 ain)];have aoO:1∉a':=oE (pQ ain (aio 1).2);have ao2:∀o∈xJ,o∈a':=fun o aG=>(aio o).1 (n7 Kn aG);rw[m1 ((m7 io).z≤8) (by rw[m2 (r.ar2 (mS a.ak sm) (acV sm)),m5];simp only[Lc]at aa;unfold io;omega),mY kg];(have jR:∀ab,ab∈a'→mS a.ak sm ab=G→ab∈xJ:=by intro ab b0 hs;unfold io;exact rW r.ane.2 ((m7 Fo).2 ((aio ab).2 b0)) hs);(have adX:adJ (xY (io a.ak a').au) (xY a'.au):=by constructor;rw[mY o aG,uv aG,mZ aG,s4,mW (Ń (Ad j (pa ao2) e)),mY k hs,uv hs,mZ hs,s4,m3 Ac (pa aJ),mY k y cK,Be y,nt (AcK y cK sm h6 h7),oe,m9,mY J,ri BV,ng];rintro V g eh aDa afC aS;rw[m8];left;exact Ń (Ad j (jR j J b) (Be y));right;rw[m1 (V=6∨V=7) (by(rw[nY eh eh,mY J,nV,ng];rintro b _;rw[m9,mY J,nV,ng];rintro b _;rw[m8])<;>(simp[b])),mY aC9,m2 (jR V ((aio V).1 aDa) (nM GP V aC9 h6 h7)),mY ajJ,m1 (pF V=pf V g 0 0) (by rw[mZ aDa aS aC9 ajJ,nY eh eh,mY J,nV,ng,oc e,tp (by rw[nV]),oc e,m8,mW Be (.i9 6 _ (vU h6 (.st))),mW Be (.i9 7 _ (vU h7 (.avV)))]),mY all,mW Nd V g 0 0 _ e (aT8 (Ad V ajJ all)) afC aS]);by_cases aau:∃o,xJ=ub;rw[o8 aau,mZ aau,mY o aau,m1 (aU1=(o,a.ak)) (pX cH ain (by rewrite[aau];rfl)),mY d,d];rw[aau]at adX ao2;rw[mW .gB o aoO (ao2 o (r.i7.2 e)) adX,m1 (aU1=(aUY (.un xJ),sy a.ak (.un xJ))) (pX cH ain (by generalize xJ=i at aau;rw[ñ (by rfl) j (by rw[oS i (by exact ej (qS j) aau) ab i (by rfl)])])),mY d,d,mW (n7 .jh aoO e (m7 D') (nM NS aF.eX (oE (ou (acE 8 ((aio 8).2 (ao2 8 b))) e))) ajB kg (m7 WA) ao2 adX)]
def UM(w:ch)(n t:o4):f1 w .eq (nE [qL aRS,ps,ps,ps,ps]) (nE [ps,ps,ps,ps,ps])=c (n5 (n.mL&&t.mL)):=ū n (by(induction t using ap.ae with|B=>rfl|c x=>obtain⟨A_,Bw⟩:=x;rw[ĉ Bw N.ae])) x (by obtain⟨A_,Bw⟩:=x;induction t using ap.ae with|B=>rw[ĉ Bw N.ae]|c aj=>obtain⟨i0,aao⟩:=aj;induction Bw using N.ae<;>induction aao using N.ae<;>rfl)
def GS:∀(a:aH)(h v di:u)(f:a9)(a_:n9 a.ak v f)(ho:mP v)(n t:o4)(hs:f.iF=G→hn a v di n t),pG 3 46 [tJ,oF] (n5 (b1 (v=1)||b1 (v=10)||(f.iF&&(n.mL&&t.mL)))):=by injections a h v di f;intro a_ ho;injections n t;rw[mY hs,m1 (jT a.F oF (nE [nr,nG,.m 13,ŭ])=c (b1 (v=1)||b1 (v=10))) (by rw[mX HB ho fun bf h2 h3 h8 amK amL aoN akZ=>?_,m1 (¬(nc v=0)) (m4 (ol (bf (R.asi.1 d)))),mY Aw,m1 (¬(nc v=13)) (m4 (ol (amL (R.asi.1 d)))),mY aG1,m1 ((nc v=1)=(v=1)) (apV R.asi),mY aV,m1 ((nc v=10)=(v=10)) (apV R.asi),mY afq];simp[jT,IF,IG,IH,II,IJ,IK,IL,IM,IN,Eq,Er,ja,du,Aw,aG1,aV,afq,bf]),mY il];have ad0:=CT il;have gr:=sP v f a_;rw[xF jb Bo f];have cu:=O2 f;rw[pI hd (b1 (v=1)||b1 (v=10)) (by rw[hd]at ad0;exact nd Je [aSe]) (by rw[hd]at ad0;induction fG:f.iF using N.ae with|Y=>rw[fG]at cu;exact nd Je [aSe,re,sC,aQ6,sC,p cu]|G=>rw[fG]at cu;(have aV:oD (ny vY (.agV qx 1 6) [ve,pZ,c f.aY,c zO] a.F) (nE [qL aRS,ps,ps,ps,ps]):=by rw[aRB vP];rfl);exact nd Je [aSe,re,sC,aQ6,sC,p cu,aZ (C5 a h v _ n t (hs fG)),ď _ (hs fG).gs,aZ aV,p (UM a.F n t)])]
abbrev ac5(b:nL)(n:u):N:=match b[n]? with|c d=>b1 (0<d.cC)||(aUc||aiW b)|B=>Y
def OQ{ao}{n}{H}(b:wS n H):(H==2047)=n.mL:=by cases b with|no=>rfl|abF o p i bq pt _=>rw[m2 (E' p _ pt.B_.BE),m5,m1 (adq p _≠2047) (by rw[p0,o6 d];revert aa;decide),mY dw];simpa using dw
def Acb:∀{a}(un:yT)(aF:∃M O,qG){d}(dT:vy)(h),pG 3 46 [tJ,.m d.v] (n5 (d.cC==2047&&d.c4==2047)):=by rw[ug,mY un aF];injections d;rw[mY dT,aR7,m3 BF aF,mZ aF];rintro M O aF;rw[m3 AC dT.A'];rintro y cK cQ;rw[m3 AF y.gs];rintro l Aw kA agS;cases dT with|cl v f g x Av fD=>have Aa:pF v=pf v f g x:=Be fD;clear fD;simp only[aR.v,Aa]at y cK cQ Aw agS⊢;clear Aa;have A2:=y.A2 e (by simp);clear y;generalize hs:bv.cl v f g x=k at A2;(cases A2 with|i9 df n=>rw[aTh];revert I;rw[aPn,qD];subst Z;subst x4;rw[m3 Ac n,mZ n];(rintro r' a5 n);rw[rl Aw,nf a5,mZ a5,mY a5,vL];have abX:=n.ge;(have fG:l.iF=Y:=by clear kA Aw agS cK cQ abX;cases n<;>rfl);rw[m2 (GS a h v 0 l Aw agS B B (oE (by rw[pr fG,aUd BD]))),m5];simp only[aa];simp[aR.cC,aR.c4,abX.1,nj abX,fG]|iv Q aV=>rw[mZ cK cQ,aTh];revert I;rw[aPn,qD];subst Z;subst x4;rw[y4 Aw,mZ kA,aRh aV aV aV aV,m2 (GS a h v 0 _ Aw agS B B (oE Æ)),m5,tf];simp[aR.cC,aR.c4,Q]|lk Q aV=>rw[mZ cK cQ,aTh];revert I;rw[aPn,qD];subst Z;subst x4;rw[y4 Aw,mZ kA,aRh aV aV aV aV,m2 (GS a h v 0 _ Aw agS B B (oE Æ)),m5,tf];simp[aR.cC,aR.c4,Q]|di n t mp cY aM aV fG Q kB cC c4 iD=>rw[mZ cK cQ,aTh];revert I;rw[aPn,qD];subst Z;subst x4;rw[y4 Aw,nf aV,mZ aV,mY aV];subst aV;rw[m3 Al (iD un)];rintro di hs;rw[m2 (GS a h v _ l Aw agS n t (nO hs)),m5];simp only[aa];simp[aR.cC,aR.c4,Q,kB,fG,OQ cC,OQ c4])|bY v n g bh i ed aV bj cV gp fD ky=>simp only[aR.v]at Aw agS⊢;rw[aV]at Aw;rw[mZ kA,aRh Aw Aw Aw Aw,m2 (GS a h v 0 _ aV agS B B (oE Æ)),m5];simp only[aa];rw[m1 ê (vD qU 1 bj),mY Q,m1 aSX (vD qU 10 bj),mY kB];simp[aR.cC,aR.c4,Q,kB,a9.iF]
def UI:∀{a:aH}{d:aR}(dT:vy),∃l,n9 a.ak d.v l∧l.ado=Y∧(b1 (agt d.v l=7)||b1 (agt d.v l=0))=(b1 (0<d.cC)||aUc):=by rw[aP2 d,mY dT,m3 AC dT.A'];rintro y cK cQ;rw[m3 AF y.gs];rintro l Aw kA agS;rw[m2 (y.CZ l Aw).1,mY aiy];simp only[cK]at aiy;rw[mX AP l Aw aiy ?_];cases dT with|cl v f g x Av fD=>have Aa:pF v=pf v f g x:=Be fD;clear fD;simp only[aR.v,Aa]at y cK cQ Aw agS⊢;clear Aa;have A2:=y.A2 e (by simp);clear y;generalize hs:bv.cl v f g x=k at A2;(cases A2 with|i9 df n=>rw[aTh];revert I;rw[aPn,qD];subst Z;subst x4;rw[m3 Ac n,mZ n];(rintro r' a5 n);rw[rl Aw,nf a5,mZ a5,mY a5,vL,mZ kA aiy Aw agS cK cQ];cases n<;>rfl|iv Q aV=>rw[mZ cK cQ,aTh];revert I;rw[aPn,qD];subst Z;subst x4;rw[y4 Aw,mZ kA aiy Aw,nf aV,mZ aV,mY aV];subst aV;simp[aR.cC,aR.e7,agt,T,Nw,JT,Q]|lk Q aV=>rw[mZ cK cQ,aTh];revert I;rw[aPn,qD];subst Z;subst x4;rw[y4 Aw,mZ kA aiy Aw,nf aV,mZ aV,mY aV];subst aV;simp[aR.cC,aR.e7,agt,T,Nw,JT,Q]|di n t mp cY aM aV fG Q kB cC c4 iD=>rw[mZ cK cQ c4,aTh];revert I;rw[aPn,qD];subst Z;subst x4;rw[y4 Aw,nf aV,mZ aV,mY aV];subst aV;(have U:0<g:=by rw[m2 cC.Fd.1,m5,m1 (vd 0) (o7 aa),m5,mW (oa Ag [g] 0 S 0 S e (u.ahT aa))]);clear kA aiy Aw;induction l using a9.ae<;>simp[a9.iF]at fG<;>simp[aR.cC,aR.e7,agt,U])|bY v n g bh i ed aV bj cV gp fD ky=>rw[mZ y,mZ f akz a_2 a_4];simp only[aR.v]at Aw⊢;rw[aV]at Aw;rw[mZ kA aiy,nf Aw,mZ Aw,mY Aw];subst Aw;rw[m1 (i.dD=Y) (by rw[aRk i ky]),mY aB];simp[aR.cC,aR.e7,agt,aB]
def Gi(b:nL):ŝ b.au=b.au (ol (ar.m d.v)):=rA cS
def RH:∀(a)(un:yT)(aF:∃M O,qG)(h)(b)(adu:ry b vy)(n:u)(d)(he:n9 b n d),pG 4 48 [tJ,aNP,ye] (n5 aQE):=by rw[ug,mY un aF];injections h b;intro adu;injections n d;rw[mY he,m3 AF (UI (adu d (r.lI he)))];rintro l br aiy b2;have ala:=JU a nB d.v l br aiy;(have fo:aVu aNP ye d.v:=by rw[Du,Gi,r.adf,he];rfl);have hc:=aRJ pc (s8 46 0 p6) 4 qc [ve,c aNP,Ġ,w6 (agt d.v l),B] aNP B b (ol (ar.m d.v)) (ol (ar.aO (d.cC==2047&&d.c4==2047))) vP (sh Gi) e (by rw[tr,mW (qW [aZ (Acb un aF (pa adu) h)])]);have ik:=w3 GZ pc a.F a.F _ _ hc (m7 CP);rw[G7]at ik;rw[m1 (aQE=((b1 _||b1 _)||aiW b)) (by rw[b2];simp only[ac5,he,N.or_assoc]),mY aJ];have aS:aiW b=b.dS (ol (d.cC==2047&&d.c4==2047)):=e;rw[←aS]at ik;rw[aJ];generalize agt d.v l=ac at*;rw[nH h7 ac 7,mZ b2 hc ik aJ];subst h7;exact nd Jf [uo,aZ ala,.K];have aEo:=acw h7;rw[jq h7,nH bf ac 0,mZ b2 hc ik aJ h7];subst bf;rw[mW (nd Jf [uo,aZ ala,rN aEo,.K]),jq bf,mW (nd Jf [uo,aZ ala,rN aEo,sZ AH acw bf,aOt])]
structure afh(a:aH)(M:pu)(W:nL)(al:n1):Prop where
 dT:ry W vy
 Av:ry W (zy d)
 aaG:ry W (xf d.eu)
 eo:ry W (d.eo≤10)
 ajq:ry W (oG W (abg a M d.v j.v))
 An:ry W (sd d.v≤14∧v5 d.v≤400)
 eZ:ry W (oG d.e7 (j∈W∨j.v=1))
 c9:ud W.z
 cO:(W.au aR.v).fF
def abg.KG:∀{a}{M fA}{k v}(b:abg a M k v)(aG:aPm),abg a fA k v:=by rw[mY a M fA k v,mY b aG,mX At b fun f g a_ U b=>?_,mX Au f g a_ U ?_];rcases b with b|b|b;rw[mW Î,mW (aSB aQ.bT),mW (aOB aQ.bF (aG _ b))]
def aag.bx:∀{a z':aH}{al:n1}{d:aR}(b:zy d)(b7:yy)(aG:∀(o:u)(a0:lr),yU o→∃jx,zd z'.ds jx∧jx.cA=a0.cA),aag z' al d:=by rw[mY a z' al d,mY b b7 aG,mW (⟨fun o aV=>by obtain⟨Q,h2,a0,h3,h4⟩:=b.eY o aV;rw[m3 Ac (aG o a0 h3),mY jx h5 h6,mW AE Q (ĥ h2) (Ad jx h5 (h6.ah h4))],fun aV=>by rw[so b.afW aV,mY l Q h2,mX Ad l (ĥ Q) (fun aj hd=>?_),m3 At (h2 aj hd),mY aan a0 h3 h4 h5,m3 Ac (aG aan a0 h4),mY jx h6 h7,mW Au aan jx h3 h6 (h7.ah h5)]⟩)]
def afh.bx{a z'}{M fA}{W}{al}(b:aTM)(b7:yy)(aG:yV o a0 (yU o→∃jx,zd z'.ds jx∧jx.cA=a0.cA))(adX:aPm):afh z' fA W al:={dT:=tZ ((xA b.dT).bx b7),Av:=tZ ((b.Av d he).bx b7 aG),aaG:=b.aaG,eo:=b.eo,ajq:=fun d he j J=>((b.ajq d he j J).ak b7.ak).KG adX,An:=tZ (by rw[m2 (b.dT d he).A'.1,mY y,Be (y.bx b7),mW (xA b.An)]),eZ:=b.eZ,c9:=b.c9,cO:=b.cO}
def ZI{a}{M}{W}{al}(ew:aTM)(H)(bK:∀t∈H,∃j∈W,t=j.v)(Q:å 1 "unknown"){d}(dT:vy):zG∨d.v=1→acp a M H d.v:=by(have ail:ry W (∀t∈H,abg a M d.v t):=by rw[mY d he t cG,m3 Ac (bK t cG),mZ cG,s4,mW ew.ajq d he j J]);induction dT with|cl v f g x Av y=>rw[nR,nH aS v 1];simp only[aR.v,aS];rw[mW .gB Q,ŕ];(rw[oe]);rw[m9];(rw[oe]);rw[m8,oz y.gs l Aw P];have cu:=y.CZ l Aw;refine .cl v l Aw (sh cu.1) ?_ aS (ail _ b);(induction ba:l.AG using N.ae with|Y=>rfl|G=>rw[Ĩ (nj cu ba) q j d,yc]);exact ej b aS|bY v n g bh i ed aV bj cV gp y ky ahn aou aho aer afq ih=>rw[nR];(have il:aR.mk v 0 0 0 0 i∈W:=by rw[ŕ,oe,m9,oe,m8,mW b,m1 (v=1) b,m5,mW BZ (Am qU 1 0 16 S S 1 e bj (Az aa))]);have aCT:oG i (acp a M H j.v):=fun j J=>ih j J (ew.eZ _ il j J);rw[mX .bY v n g aV cV (ail _ il) ?_,mZ cV gp y];rcases afq with e|⟨j,J,e⟩|⟨o,aG,cG⟩;rw[mW .gB Q,mW (pa aCT),mX .un g o aG (fun t amZ=>?_),m3 Ac (cG t amZ),mZ amZ,s4,mW (pa aCT)]
def PL{a}(ao)(b:aRe)(aB:ao.z≤a.ak.z+1):hy a wa 1:=⟨e,e,e,e,e,e,e,e,e,e,e,by rw[m6 (a.c2≤_),mW D1 [a.c2] b5 vk e],by rw[m6 (ao.z≤_),mW Ag [ao.z,a.ak.z] S (sn ai 4 1) S nN e aB],b,fun aq p d a5=>⟨a5,d⟩⟩
def hy.ahF{a z'}{x}(b:aNV x):yV o a0 (yU o→∃jx,zd z'.ds jx∧jx.cA=a0.cA):=fun o a0 d=>⟨a0,by rw[b.ds]at⊢;exact d,e⟩
def W4:∀(a:aH)(ac)(pt:u)(y)(jm adD)(p:nL)(Q:oG p (∃g,oD (bc T bo ac 47 [tJ,.m pt,.m j.v] a.F) qA∧∃x,oD (bc T bo ac 94 [nQ,.m pt,.m j.v] a.F) (qP x)∧y j=(! g&&x))),∀fi,∃alL,fZ (aO6 yn (nA (ts (xM (.ir (.bp 47 (pH qx p6 sw))) (.eT pn "ask" (.s (.A 4) (nA sw)))) (nA aOU)))) 6 B (p.au (nF (ar.m j.v))) [px,c jm,c adD,ve,nn pt,c (aOe p.au),fi] a.F=c (if p.dS y then aOU else na,[px,c jm,c adD,ve,nn pt,c (aOe p.au),alL],a.F):=by injections a ac pt y jm adD p;intro Q;generalize hL:ar.bm aUP=am;clear hL;induction p with|C=>rw[mY fi,mW ⟨fi,qZ r.ajT BG⟩]|s j p ih=>intro fi;obtain⟨g,U,x,hc,aJ⟩:=aUN Q;rw[m3 Al (ih (aRq Q) (nn j.v))];rintro alL br;rw[pI arO (y j) (by rw[y1 (nn j.v)];rw[arO]at aJ;(obtain⟨e,e⟩:g=Y∧x=G:=by clear U hc;induction g using N.ae<;>induction x using N.ae<;>first|exact zm|rw[sQ aJ]);rw[r.gI,mW (qn HG _ (pK [aZ U,aZ hc])).ah (Ŵ r.akC arO N.asA)]) (by rw[y1 alL];rw[arO]at aJ;rw[r.gI,mX (zt ?_).ah (br.ah (by rw[r.akC,arO,N.ags])),rs g (by exact pK [aZ U]) (by(obtain e:x=Y:=by rw[mZ hc,y8 x N.ae (by rw[sQ aJ])]);exact pK [aZ U,aZ hc])])]
def a9.Wh(l:a9):(l.o==nc 10)=l.AG:=zR
def iK.AG{a}{d}(dT:vy){l}(b:n9 a.ak d.v l):l.AG=aUc:=by cases dT with|cl v f g x Av y=>(induction ba:l.AG using N.ae with|Y=>rfl|G=>rw[Ĩ (nj (y.CZ l b) ba) q j d,yc])|bY v n g bh i ed aV bj cV gp fD ky=>rw[mZ f akz a_2 a_4,mZ bj cV gp fD,m2 (pQ ap.c.dB aV.cq.ah),m5,om,uM,aRk i ky]
def Tc:∀{a}{M}{W}{al}(aF:ĵ)(ew:aTM)(ac)(b2:td 6)(d)(kU:zG)(p)(ho:aNS p)(Q:1∈p.au aR.v),oD (bc T bo ac 94 [nQ,aOo,nG] a.F) (n5 aRg):=by rw[mY a M W al,mY aF ew,mY ac,mY b2,p0,mY kU,mY p,mY ho Q];have dT:=ew.dT d kU;rw[pv AC dT.A' agZ aJk aIu,mX AF agZ.gs fun alM arL aHr aKC=>?_];have gd:=ł 1;rw[m1 (pF 1=acY) (Be (.iv gd)),mY aI7,m1 (iY d p=G) (nb (Do (fun j J=>š ew.dT ho) dT) (Ir acY _ (by rw[nD (r.fq.1 Q) j J d,mW (Ń (Ad j J (nb d aI7)))]) _ (GT agZ))),mY amQ];have agG:=FY aF (ac-6) d.v 1 _ _ agZ (.iv gd) e (Au alM _ arL gd (by rw[nH b d.v 1,mW Î,mW (aOB aQ.bT qg)]));rw[aU3 (ac-6+6) ac,nv Cg e,GT agZ]at agG;rw[amQ,mW agG]
def Tb:∀{a z'}{M}{W}{al}(b7:yy)(aF:dI z' M [])(aoP:afh z' M W al)(ew:aTM)(ac)(b2:td 6)(d)(kU:zG)(p)(ho:aNS p)(j)(J:j∈p)(aG:adJ [aUL] (aRD p.au)),qf (bc T bo ac 94 [nQ,aOo,.m j.v] z'.F) (n5 aRg):=by rw[mY a z' M W al,mY b7 aF aoP ew,mY ac,mY b2,p0,mY kU,mY p,mY ho,mY j,mY J aG,rf (ew.dT d kU).A' agZ P P,rf (š ew.dT ho).A' lQ aeH P,m2 (FY aF (ac-6) _ _ _ _ (agZ.bx b7) (lQ.bx b7) aeH (aoP.ajq d kU j (pa ho))),mY agG];rw[aU3 (ac-6+6) ac,nv Cg aeH]at agG;rw[m1 (aRg=hb (pF d.v) aUL) (by rw[Do (fun j J=>š ew.dT ho) (ew.dT d kU),show(p.au (nF aUL))=aRD p.au by rw[r.aeN];rfl,←aG.B3,Aco _ aeH]),mY amQ,amQ,mW agG]
def Acz{a z'}(b7:yy)(aP)(ks)(br:nX z'.ak aP aSr)(iy:xe aP)(dw:qe ks)(aB:ks.z≤8)(aJ:∀v∈ks,∃k,uu v∧aUv):c1 z' aP (.un (xY ks.au)):=by rw[m3 (.un aP _ _ br iy dw aB (ww r.hN _)) ?_,mY aq f k aV bj];simp only[r.adf,aV]at bj;rw[pD (ap.c.dB bj),m3 Ac (aJ f (r.lI aV)),mY k vs _,Be vs,mW aUJ,mY k hs,uv hs,mZ hs];rintro f a_ e;rw[m3 Ac (aJ f a_),mY k vs aJm,Be vs,mW aJm]
def iK.vs{a}{W:nL}(ew:ry W vy){p:nL}(ho:aNS p):∀v∈p.au aR.v,∃k,uu v∧aUv:=by rw[mY v aS,uv aS,mZ aS,s4,rf (š ew ho).A' lQ aeH P,mW (ql lQ aeH)]
def Ta:∀{a z'}{M}{W}{al}(B6:aNV 1)(aF:dI z' M [])(ew:aTM)(hd:z'.e4=0)(js:z'.c2+500<20000)(kX:z'.ak.z+1600<900000)(ac)(b2:td 160)(d)(kU:zG)(p)(ho:aNS p)(aP:u)(ks)(iC:nX z'.ak aP aSr)(iy:xe aP)(dw:qe ks)(kg:ks.z≤8)(Q:1∉ks)(jR:∀o∈ks,o∈p.au aR.v)(aG:adJ (xY ks.au) (aRD p.au)),∃bz acm,bc T bo ac 94 [nQ,aOo,Ç] z'.F=c (n5 aRg,bz.F)∧dI bz acm []∧hy z' bz 400∧(∀o,(hA o M).eF=G→(hA o acm).eF=G):=by rw[mY a z' M W al,mY B6 aF ew hd js kX,mY ac,mY b2,p0,mY kU,mY p,mY ho,mY aP ks,mY iC iy dw kg Q jR aG,m2 (fun v aS=>iK.vs ew.dT ho v (jR v aS)),mY aJ,m2 (Acz B6.le aP _ iC iy dw kg aJ),mY dj];have dT:=ew.dT d kU;have avj:=ZI (ew.bx B6.le B6.ahF ï) ks (fun t cG=>by rw[m3 Ac (aTY (jR t cG)),mZ cG,s4,mW Ad j (pa ho) e]) (ł 1) (dT.bx B6.le) (aQ.bT kU);rw[m2 (dT.A'.1.bx B6.le),mY agZ,m1 (aRg=el _ (qs _)) (by rw[Do (fun j J=>š ew.dT ho) dT,show(p.au (nF (pF _)))=aRD p.au by rw[r.aeN];rfl,←aG.B3];rfl),mY amQ,ot (ew.An d kU) g_ kE,amQ,mZ amQ aJ aG jR ew dT kU B6 ho iy dw kg];generalize pF d.v=k at*;refine BV (RG z' (ac-(8*k.An+40)) d.v aP ks (xY ks.au) M aF _ agZ dj iC Q avj (m4 (oa A5 [z'.c2,↑k.dh] zC 20000 (b5+500) 20000 d5 400 e js (Bb kE))) (m4 (oa Am [z'.ak.z,k.dh] (ro S 4) 900000 (S+1600) 900000 (xr 4) (qQ 4 400) e kX (AM 4 kE))) (by rw[hd];simp only[bv.ha,Ex,Ey,Ez];exact A4 [↑k.An] (0+(iW.H 2 b5+1)+1) 60 (iW.H 2 b5) (iW.H 2 14) e (Vh 2 (Bb g_))) (m4 (aUO kE))) fun bz acm h2 h3 h4 h5=>?_;rw[rh (ac-(8*k.An+40)+8*k.An+40) ac (O9 (u.eI (u.adL (u.aiK 8 g_) 40) (u.eI nw b2)))]at h2;exact(nM Bx h2 h3 (h4.bx kE) h5)
def S':∀{a:aH}{M:pu}{W:nL}{al:n1}{ao:oB}(B6:hy a wa 1)(aF:dI wa M [])(ew:aTM)(hd:a.e4=0)(js:aQM 500)(kX:aSY 2000)(eE:ao.z≤a.ak.z+1)(ac:u)(b2:td 160)(d:aR)(kU:zG)(p:nL)(ho:aNS p)(aP:u)(fw:anZ a (p.au aR.v) aP ao),∃bz acm,bc T bo ac 94 [nQ,aOo,Ç] ð=c (n5 aRg,bz.F)∧dI bz acm []∧hy wa bz 401∧(∀o,(hA o M).eF=G→(hA o acm).eF=G):=by injections a M W al ao;intro B6 aF ew hd js kX eE;injections ac;intro b2;injections d;intro kU;injections p;intro ho;injections aP;intro fw;have aoP:=ew.bx B6.le B6.ahF ï;cases fw with|iv Q=>exact(Bx _ M (Tc aF aoP ac (m4 (Ag [ac] 6 S 160 S e b2)) d kU p ho Q) aF (m7 hy.fI) ï)|gB o Q h2 h3=>rw[uv h2,mZ h2];(rw[s4]);exact(Bx _ M (Tb B6.le aF aoP ew ac (m4 (Ag [ac] 6 S 160 S e b2)) d kU p ho j J h3) aF (m7 hy.fI) ï)|jh _ _ ks Q _ iC iy dw kg _ jR aG=>rw[mX BV (Ta B6 aF ew hd js (u.hO (u.adL eE _) (m4 (oa Ag [a.ak.z] (nm+1600) 900000 (S+2000) 900000 e kX))) ac b2 d kU p ho aP ks iC iy dw kg (oE (Q (jR 1 b))) jR aG) fun bz acm f g x aj=>?_,mW (nM Bx f g (rJ x.bx) aj)]
def W5:∀(a:aH)(M:pu)(al:n1)(aD:nL)(W:nL)(fw:vB)(hL:aVc)(aF:ĵ)(ew:aTM)(hd:a.e4=0)(js:aQM 500)(kX:aSY 2000)(ac:u)(b2:td 160)(b:nL)(fk:ry b zG)(aB:ud b.z)(n:u)(d:aR)(he:n9 b n d),∃z' fA,qf (aQf (ac+1) 49 [nQ,aNP,ye]) (n5 ý)∧dI z' fA []∧aNV 402∧aPm:=by injections a M al aD W;intro fw hL aF ew hd js kX;injections ac;intro b2;injections b;intro fk aB;injections n d;intro he;have kU:=fk d (r.lI he);have dT:=ew.dT d kU;rw[pv AC dT.A' agZ aJk aIu,mX AF agZ.gs fun alM arL aHr aKC=>?_,u8 ba he];(have fo:aVu aNP ye d.v:=by rw[Du,Gi,r.adf,he];rfl);generalize ho:aVR=p;(have arH:oG p (j∈b):=by rw[tr];rw[←ho]at J;rw[nt (r.aeP.1 J),ya,m9,ya,m8,mW r.aDP J,mW r.aDO J]);rw[m1 (ud p.z) (by rw[←ho];rw[r.gR,r.aiG,r.apu,mW Bu [b.z,n,ab7 n b.z,b.z-rU] (a8+eK) 6 S 6 a8 ai (eK+nN) S e aB (m7 u.alA) (q2 Az (Ag [b.z,n,ab7 n b.z,b.z-rU] (ai+1) S nN S e ba))]),mY ao8];(have aCR:rG n:=m4 (é (Am [b.z,n] (ai+1) 1000 S) 6 aB ba));let aEp:dv:=[px,c aNP,Ġ,ve,nn d.v,B,B];have t1:=pj (nI (nI K_ O T cf yn) f 1 g 2) l aEp w a.F b (ŝ b.au) e e aCR;have d2:=pj (nI (nI K9 O T cf yn) f 1 g 2) l aEp w a.F b (ŝ b.au) e e aCR;have iQ:=atk a.F (ŝ b.au) n (qm (by simp only[cS,r.hN]));(have aI8:(ŝ b.au).gu n++(ŝ b.au).cF rU=aUP:=by rw[←ho];simp only[cS,r.ahL,r.apz,r.ar6]);rw[aI8]at iQ;rw[m1 (ý=(p.dS (nF (yI&&ř))||(aUc&&(b1 (1<p.z)&&aRg)))) (by rw[aaX,he,ho]),mY aJ,m1 (p.dS (nF (yI&&ř))=p.dS (nF (ř&&yI))) (by rw[show(nF (yI&&ř))=(nF (ř&&yI))from funext (nF (m7 N.and_comm))]),mY ik,m1 (oG p (oD (bc T bo ac 94 [nQ,aOo,.m j.v] a.F) (n5 yI))) (by rw[tr];have arP:=š fk arH;have mQ:=ew.dT j arP;rw[pv AC mQ.A' lQ aeH P,m2 (nM (FY aF (ac-6) d.v j.v) agZ lQ aeH (ew.ajq d kU j arP)),m5];rw[rh (ac-6+6) ac (Br [ac,ac-6] (ai+6) S (ai+6) S e (s7 (Ag [ac,ac-6] 6 S 160 S e b2))),nv Cg aeH,←E6 mQ dT]at aa;exact aa),mY agA,n4 (W4 a ac d.v (nF (ř&&yI)) aNP ye p (by rw[tr,m2 (š fk arH),mY arP,m2 (MI a aF.aS al aD fw hL (ac-3) d j (ew.Av d kU) (ew.Av j arP)),mY aoV];rw[rh (ac-3+3) ac (Br [ac,ac-3] (ai+3) S (ai+3) S e (s7 (Ag [ac,ac-3] 3 S 160 S e b2)))]at aoV;exact(vU aoV (ql (pa agA) e))) B) alL kD];rw[←Gi]at kD;rw[aJ,ik,pI a_ (p.dS (nF (ř&&yI))) (by rw[a_]at kD;exact(Bx a M (nd Hd [j4.p fo,aZ t1,aZ d2,j4.p iQ,os kD]) aF aVC ï)) (by rw[a_]at kD;rw[N.ags];have avB:=sP _ alM arL;(have eb:(aUP).z=p.z:=rA cS);have ajG:=dT.AG arL;rw[←alM.Wh]at ajG;rw[pI amY d.e7.dD (by rw[amY]at ajG;exact(Bx a M (nd Hd [j4.p fo,aZ t1,aZ d2,j4.p iQ,os kD,j4.p avB,j4.p (Bo a.F alM),j4.p (AH ajG)]) aF aVC ï)) (by simp only[amY]at ajG;by_cases amX:1<p.z;(have t:xp<nc (aUP).z:=m4 (R.aa7.2 (u.k0 amX (u.fp eb.cq))));rw[m1 (qe (p.au aR.v)) (by rw[p0];rw[r.map_eq_nil_iff]at d;rw[d]at amX;simp at amX),mY ao9,s3 (Lo a M [] aF (ac-3) (p.au aR.v) ao9 (qm (by simp)) (iK.vs ew.dT fun j J=>š fk arH) (m4 (oa Ag [a.ak.z] S 900000 (S+2000) 900000 e kX))) aP ao cK eE ajx];rw[rh (ac-3+3) ac (Br [ac,ac-3] (ai+3) S (ai+3) S e (s7 (Ag [ac,ac-3] 3 S 160 S e b2)))]at cK;rw[rf (aF.Ah ao eE) ke adc lE];have aiX:=PL ao adc lE;rw[mX BV (S' aiX ke ew hd js kX lE ac b2 d kU p (fun j J=>š fk arH) aP ajx) fun bz acm Q h2 h3 h4=>?_,mX Bx bz acm ?_ h2 (rJ (aiX.ah h3).bx) h4,hZ amX,mW (nd Hd [j4.p fo,aZ t1,aZ d2,j4.p iQ,os kD,j4.p avB,j4.p (Bo a.F alM),j4.p (AH ajG),j4.p (Kw a.F aUP),j4.p (B' (hZ t)),aZ cK,aZ Q])];(replace t:¬(xp<nc (aUP).z):=m4 (fun dO=>B4 (E0 [↑p.z,↑(cS (r.au aR.v p)).z] 1 0 d5 b5 b5 1 (1+1) d5 e (Bb (Az eb)) (Bb (x8 amX)) dO)));rw[jq amX,N.aeu,N.an3,mW Bx a M (nd Hd [j4.p fo,aZ t1,aZ d2,j4.p iQ,os kD,j4.p avB,j4.p (Bo a.F alM),j4.p (AH ajG),j4.p (Kw a.F aUP),j4.p (B' (jq t))]) aF aVC ï])])]
def H5(a)(al)(aD)(g):ö (rD a.e' g):=⟨aQ2,fun aj a0 b=>(Ad (aaA al aD g aj a0) (by simp only[aH.e',r.agw,b,ap.ji]) e),aQ2⟩
def Oy(a:aH)(al)(aD)(g):yV o a0 (yU o→∃jx,zd (rD a.e' g).ds jx∧jx.cA=a0.cA):=fun aj a0 b=>(Ad (aaA al aD g aj a0) (by simp only[aH.e',r.agw,b,ap.ji]) e)
def Oz{a}{al}{aD}(hL:aQS):ajd z8 al aD:={ds:=fun o a0 b=>by rw[sB aH.e' r.agw];induction hd:a.ds[o]? using ap.ae with|B=>rw[pr hd,aPP]|c aqp=>rw[xi hd,sB ap.ji ap.c.fV,pq];rfl,cl:=hL.cl,c9:=hL.c9,adS:=aSf aH.e' r.avE hL.adS}
def OA(a)(al)(aD)(iD:yT):(a.ds.ad8 (rD aaA G)).ad8 (rD aaA Y)=a.ds:=by rw[aP0,mY q,r.agw,r.agw];induction hd:rS a.ds using ap.ae with|B=>rfl|c a0=>rw[m2 (iD q a0 hd),m5];dsimp only[ap.ji,ap.c.fV,aaA];clear hd;induction a0 using lr.ae;simp_all
def dI.e'{a}{M}{O}(aF:qG)(al)(aD)(g):dI (rD a.e' g) M O:=have b7:=w8 H5 g;{kh:=aF.kh,eX:=aF.eX,cO:=aF.cO,aS:=aF.aS,eM:=aF.eM,ey:=aF.ey,jX:=aF.jX,fO:=aF.fO,ks:=fun f bZ y d=>by rw[s3 (aF.ks f bZ y d) sa bh gd fJ cV,mW Au _ _ aSz aSA cV],jW:=aF.jW}
abbrev agW(al:n1)(n:u)(b:nL):nL:=if aQE&&ý then aVR else b
abbrev ad7(al:n1):u→nL→nL|0,b=>b|rU,b=>ad7 al n (agW al n b)
def WV(al):∀b,aO3 0=b:=rp
def WW(al):∀n b,ad7 al rU b=(ad7 al n (agW al n b)):=pS
structure af5(a:aH)(M:pu)(al:n1)(aD W:nL)(g:u):Prop where
 up:vB
 e':aQS
 un:yT
 aF:ĵ
 hx:aTM
 e4:a.e4=0
 cc:aQM g
 rw:a.ak.z+(g+g+g+g)<890000
def abK.B6{a z'}{al}{aD}{x:u}(b:aQS)(b7:yy)(cK:z'.fQ=a.fQ)(hc:z'.lZ=a.lZ)(hd:z'.ds=a.ds):abK z' al aD:={fQ:=cK.ah b.fQ,eY:=hc.ah b.eY,cl:=fun o d he=>m7 b7.ak (b.cl o d he),c9:=b.c9,adS:=nb hd b.adS,afW:=nb hd b.afW}
abbrev alw(aD:ar)(b:nL)(fe fi kL eA et:pl):dv:=[px,c aD,aUk,tx 25,xb,fe,fi,kL,eA,et,B]
abbrev aDA:cx:=oo atE (.s _ (ġ (nv .mn g))) g .C
def UT{W:aR4}(b:∀K,166≤K→W (K+4)):∀ac,td 170→W ac:=fun ac b2=>(s7 (show td 4 by exact Ag [ac] 4 S 170 S e b2))▸b (ac-4) (m4 (Am [ac,ac-4] 166 ai 170 S S (ai+4) e b2 (q2 AN (Ag [ac,ac-4] 4 S 170 S e b2))))
def W1:∀(a:aH)(M:pu)(al:n1)(aD W:nL)(g:u)(hW:aVr af5 W (Ō 402))(ac:u)(b2:td 170)(bl:ar)(b:nL)(fk:ry b zG)(aB:ud b.z)(n:u)(ba:n<b.z)(fe fi kL eA et:pl),∃z' fA adE ag1 ai1 ae7,f0 T yn aDA (alw bl b Ġ fi kL eA et) a.F=c (na,alw bl (agW al n b) (nn n) adE ag1 ai1 ae7,z'.F)∧af5 z' fA al aD W ń∧aNV 402:=by injections a M al aD W g;rw[mY hW,tC UT];injections K;intro b2;injections bl b;intro fk aB;injections n;intro ba;injections fe fi kL eA et;have he:n9 b n b[n]:=r.hV ba;have kU:=fk _ (r.aij ba);have iD:=hW.un;have aF:=hW.aF;rw[m2 (RH a iD (BN M ([]) aF) K b (tZ (hW.hx.dT d (xA fk))) n _ he),mY agA];have ais:=w8 H3 hW.up hW.e' (K+3) G;have js:=hW.cc;have kX:=hW.rw;rw[m1 ((z8).c2+500<20000) (yh (aQM 500) (Yg js)),mY aoT,m1 ((z8).ak.z+2000<900000) (yh (aSY 2000) (Yh kX)),mY agB,mX BV (W5 z8 M al aD W hW.up (Oz hW.e') (rD aF.e' G) (hW.hx.bx (w8 H5 G) (w8 Oy G) ï) hW.e4 aoT agB (K+3) (m4 (Ag [K] 160 wQ 166 S e b2)) b fk aB n _ he) fun bz acm ait gi mz aHK=>?_];have auN:bz.ds=a.ds.ad8 (rD aaA G):=mz.ds;rw[m1 (fR a bz) ((w8 H5 G).ah mz.le),mY aIC];have aHN:abK bz al aD:={fQ:=mz.fQ.ah hW.e'.fQ,eY:=mz.lZ.ah hW.e'.eY,cl:=fun o d he=>m7 aIC.ak (hW.e'.cl o d he),c9:=hW.e'.c9,adS:=tL auN r.avE hW.e'.adS,afW:=fun o a0 aG U=>by rw[auN,r.agw]at aG;induction hd:a.ds[o]? using ap.ae with|B=>rw[hd]at aG;injection aG|c aqp=>rw[hd]at aG;rw[p2 aG,pi];simp only[aaA,fU,U]};have ahy:=H3 bz al aD hW.up aHN (K+3) Y;(have arw:(aRX).ds=a.ds:=by rw[m6 (bz.ds.ad8 (rD aaA Y)=a.ds),auN,mW (w8 OA iD)]);have aa2:hy a aRX 402:={bs:=mz.bs,xs:=mz.xs,ds:=arw,dK:=mz.dK,iL:=mz.iL,bw:=mz.bw,gU:=mz.gU,e4:=mz.e4,abj:=mz.abj,fQ:=mz.fQ,lZ:=mz.lZ,cc:=mz.cc,gT:=mz.gT,ak:=mz.ak,ca:=mz.ca};rw[m1 ((aRX).c2+ob ń<20000) (q7 aa2.cc (oa A5 [a.c2,↑g,(rD bz.e' _).c2] (gY+(d5+200)) 20000 (b5+(402+d5+200)) 20000 gY (b5+402) e js aa)),mY auD,m1 ((aRX).ak.z+(ń+(g+200)+(g+200)+(g+200))<890000) (by rw[m2 aa2.gT,mY h4];generalize(aRX).ak.z=g1 at h4⊢;generalize a.ak.z=gW at h4 kX;exact Yj h4 kX),mY auE];have aCf:af5 aRX acm al aD W ń:={up:=hW.up,e':=hW.e'.B6 (x:=0) aa2.le aa2.fQ aa2.lZ aa2.ds,un:=fun aj a0 b=>by rw[pr arw,mW iD aj a0 b],aF:=rD gi.e' Y,hx:=hW.hx.bx aa2.le aa2.ahF aHK,e4:=aa2.e4.ah hW.e4,cc:=auD,rw:=auE};rw[m2 (Ow _ al hW.up aCf.e'.fQ (K+3) (m4 (Ag [K] 22 wQ 166 S e b2)) b n _ he (m4 (aUO aB)) (q7 (hW.hx.eo _ kU) (t8 u.eI aa)) (hW.hx.aaG _ kU)),mY adi,m2 (Ox aRX (K+3) b),mY alm];(have fo:pE aSi (eS b) ye=c (aN8 aY):=by unfold eS;rw[Du,r.adf,he];rfl);have jr:=Ch T (aA (K+4)) (rq 10) 10 ph (alw bl b Ġ fi kL eA et) a.F a.F (eS b) B b aR.aY (ol (ar.m d.v)) vP e e (fun j J=>qW [p (F1 a.F j)]);rw[←Gi]at jr;rw[mX Uk _ _ (c aNP) (ė aQE) (ė ý) (c (aN8 aY)) ?_ aCf aa2];have aV:=F2 aSi b[n];have cV:=EQ aSi b[n];(have abs:aQE=(b1 (0<aN8 cC)||(! aN8 e7.dD||aiW b)):=by simp only[ac5,he]);rw[m1 (ny (aA (K+4)) (.ady (.A 2) za) (alw bl b Ġ (c aNP) (ė aQE) (ė ý) (c (aN8 aY))) aSi=_) (K_ e e (m4 (é (Am [b.z,n] (ai+1) 1000 S) 6 aB ba))),mY st,m1 (ny (aA (K+4)) (.ahW (.A 2) (.dM _ za _)) (alw bl b Ġ (c aNP) (ė aQE) (ė ý) (c (aN8 aY))) aSi=_) (K9 e e (m4 (é (Am [b.z,n] (ai+1) 1000 S) 6 aB ba))),mY jw];have ad:=atk aSi (b.au aR.aY) n (nb r.hN (aUO aB));rw[←r.apz,←r.ar6,←r.ahL]at ad;rw[←r.apz]at st;rw[←r.ar6]at jw;rw[m1 (agW al n b=if aQE&&ý then b.gu n++b.cF _ else b) e,mY cW];revert agA ait adi st jw;rw[cW,mZ cW];generalize aQE=f at*;generalize ý=x at*;intro agA ait adi st jw;have g1:=R2 x aSi;by_cases bK:0<aN8 cC;clear g1;(have t:b1 (tM<nc (aN8 cC))=G:=o7 bK);rw[hZ bK]at abs;subst abs;rw[wE x,mW (pK [aOs,aUq,aUr,aUs,aUt,uo,aOu,.K,r0,.K,qa B' t,.K]),mW (pK [aOs,aUq,aUr,aUs,aUt,uo,aOu,.K,r0,.K,qa B' t,.K,aZ st,aZ jw,p ad])];(have t:b1 (tM<nc (aN8 cC))=Y:=o7 bK);rw[jq bK]at abs;rw[m2 (FP aSi (ack.fI (aN8 e7.dD))),mY gW];revert gW abs;generalize aN8 e7.dD=aj;rw[mY abs gW,wE aj,mZ g1];subst abs;rw[wE x,mW (pK [aOs,aUq,aUr,aUs,aUt,uo,aOu,.K,r0,.K,qa B' t,uP,p gW,.K]),mW (pK [aOs,aUq,aUr,aUs,aUt,uo,aOu,.K,r0,.K,qa B' t,uP,p gW,.K,aZ st,aZ jw,p ad])];subst abs;generalize aiW b=v at*;rw[wE v,mW (pK [aOs,aUq,aUr,aUs,aUt,uo,aOu,p g1,r0,.K,qa B' t,uP,p gW,aZ alm,.K]),mZ g1,wE x,mW (pK [aOs,aUq,aUr,aUs,aUt,uo,aOu,.K,r0,.K,qa B' t,uP,p gW,aZ alm,.K]),mW (pK [aOs,aUq,aUr,aUs,aUt,uo,aOu,.K,r0,.K,qa B' t,uP,p gW,aZ alm,.K,aZ st,aZ jw,p ad])]
def AbV(al)(n)(b):(ry (agW al n b) (d∈b))∧(n≤b.z→n≤(agW al n b).z)∧(agW al n b).z≤b.z:=by unfold agW;split;rw[mX AE ?_ ?_ ?_,mY d he,nt (r.aeP.1 he)];rintro he;rw[m9];rintro he;rw[m8,mW r.aDP he,mW r.aDO he,mY ba,r.gR,r.aiG,u.anh ba];exact u.acK ..;rw[mW Li b n,mW (aQr (AE ï (oE b)))]
def WY:∀(al)(aD W)(ac)(b2:td 170)(bl),∀(H)(a)(M)(g)(b)(fe fi kL eA et),aVr af5 W (Ō (402*H))→(ry b zG)→ud b.z→H≤b.z→∃z' fA akk adE ag1 ai1 ae7,fZ (ó yn aDA) 5 B (k5 aOM (-1) H) (alw bl b fe fi kL eA et) a.F=c (na,alw bl (aO3 H) akk adE ag1 ai1 ae7,z'.F)∧af5 z' fA al aD W ń∧hy a z' (402*H):=by rw[mY al aD W ac,mY b2,mY bl,mY H];induction H with|hf=>rw[mY a M g b fe fi kL eA et hW fk aB bK,mW (n7 (Ng a M _ _) Ĝ (o7 hW) aVC)]|gk H ih=>rw[mY a M g b fe fi kL eA et hW fk aB bK,mX UB (aVr W1 W (402*H+g) (nb (rh (402+(402*H+g)+200) (Ō (402*(H+1))) (BI [H,g] (402+(tB S+ai)+200) (zI+ai+200) e)) hW) ac b2 bl b fk aB H n_ (nn H) fi kL eA et) fun z1 afe adE ag1 ai1 ae7 Q h2 h3=>?_,rf (AbV al H b) s1 BS Cd,mX Nu (ih z1 afe g (agW al H b) (nn H) adE ag1 ai1 ae7 h2 (tZ (fk d (xA s1))) n_ (rJ BS)) fun bz acm x5 cp cZ d' ez h4 h5 h6=>?_,mX (nM Ng x5 cp cZ d' ez ?_ h5 ((h3.ah h6).bx (m4 (AJ [H] (Ñ 402) zI e)))),m1 (k5 (ob (H+1)-1) (-1) (H+1)=.m H::k5 aOM (-1) H) (by simp only[GH,GI];rw[aU3 (ob (H+1)-1) (nc H)];rfl),mY aHe,aHe,mW (zt Q).ah h4]
def Aah(H:u)(b:rG H):acb [pe aOM,us,us]=c (k5 aOM (-1) H):=by rw[m1 (g2 aOM=G) (by unfold g2;simp only[N.c3,kR];exact YC b),mY hs,m1 (g2 (-1)=G) (by unfold g2;simp only[N.c3,kR];decide),mY alj,m1 (acb [xl,us,xl]=nK (g2 aOM&&(g2 _&&aP9==-1)) nJ) e,p0,d,hs,alj];rw[show(aOM-(-1)).es=H by exact YF H];rfl
def W0:∀(a)(M)(al)(aD W)(g)(hW:aVr af5 W (Ō 2412))(ac)(b2:td 170)(adD aki)(b)(fk:ry b zG)(aB:ud b.z),∃z' fA,qf (aQf (ac+1) 84 [nQ,nE [wq,xW,adD,aki],eS b]) (eS (aO3 b.z))∧af5 z' fA al aD W ń∧aNV 2412:=by injections a M al aD W g;intro hW;injections ac;intro b2;injections adD aki b;rw[mY fk aB,m2 hW.cc,mY au8,m2 hW.rw,mY aM3];(have cG:aVe+(g+(2412-aVe))+200=Ō 2412:=m4 (XX aB));rw[m1 (aVr af5 W (aVe+(g+(2412-aVe))+200)) (nb cG hW),mY aHS,m3 Nu (WY al aD W ac b2 (nE [wq,xW,adD,aki]) b.z a M (g+(2412-aVe)) b B B B B B aHS fk aB yk)];rintro z' fA x5 cp cZ d' ez Q h2 h3;rw[m2 h2.cc,mY aIS,m2 h2.rw,mY au9,m1 (z'.c2+ob ń<20000) (m4 (Yf aIS)),mY aIT,m1 (z'.ak.z+(ń+(g+200)+(g+200)+(g+200))<890000) (by rw[m1 (ń≤g+(2412-aVe)+200) (u.adL (m7 u.acK) _),mY J];generalize g+(2412-aVe)+200=j at J au9;generalize z'.ak.z=g1 at au9⊢;exact t5 [g,j,g1] (a8+(S+200+(S+200)+(S+200)+(S+200))) 890000 (tz 4 (S+200)) (xr 4) (a8+(ai+ai+ai+ai)+1) 890000 e (AM 4 J) au9),mY aIU,mX Au z' fA ?_ ({h2 with cc:=aIT,rw:=aIU}) (h3.bx (m4 (Ag [b.z] (su 402) 2412 (su 402) (qQ 402 6) e (AM 402 aB))))];have arB:rm (ui acN (eS b)) b.z:=CX (i:=b.au aR.aY) e (by rw[vO]);exact nd SC [.K,.K,p arB,p (Io [] b.z),os (K5 (Aah b.z (m4 (aUO aB))) Q)]
abbrev jv(b:nL)(n:u):nL:=aVR
def C0(b)(n q):rS í=if q<n then rS b else b[q+1]?:=by unfold jv;rw[←r.auc,mW r.getElem?_eraseIdx]
def Fh(b)(n)(j):j∈í↔∃q,sU n∧op b j:=by rw[r.ajU];constructor;rw[mY J,ri Al,ng];rintro q Ab;rw[C0]at Ab;rw[y7 Q n];rw[c0 Q]at Ab;exact(Ad q (m4 (u.ahM Q)) Ab);rw[cH Q]at Ab;rw[mW Ad (q+1) (m4 (yQ (é (Am [n,q] 1 0 S) ai (x8 Q) (Az dO)))) Ab,mY J,sE,ng];rintro q Q Ab;rw[y7 h2 n,mW ⟨q,tL C0 (c0 h2) Ab⟩,y1 (q-1),C0,cH (m4 (XR Q h2)),rh (q-1+1) q (XS Q h2),mW Ab]
def Zx(b)(n)(ba:n<b.z):qp jv b n+1=b.z:=by unfold jv;rw[←r.auc,r.length_eraseIdx_of_lt ba,s7 (u.eI (u.awB _) ba)]
def J3(al:n1)(b:nL)(n:u)(d:aR)(he:n9 b n d):ý=((í).dS (nF (yI&&ř))||(aUc&&(b1 (1<qp jv b n)&&iY d í))):=by simp only[aaX,he,jv];rfl
def Zw(b)(n):qp jv b n≤b.z:=Li b n
def Jq(d)(p)(b:p.dS (iE d)=G):iY d p=G:=by rw[yd d];simp only[FS,b,N.asA]
def U4(al)(b)(n)(d)(he:n9 b n d)(hg:ý=G):iY d í=G:=by rw[J3 al b n d he]at hg;rw[nt (N.anq.1 hg)];rintro hg;rw[m9];rintro hg;rw[m8];apply Jq;rw[r.gZ]at hg⊢;rw[oz hg j J h2,mW Ad j J ((aT5 h2).1),mW (aOE (aOE hg).2).2]
def Tm:∀{a}(al)(b)(adu:ry b vy)(n)(d)(he:n9 b n d)(hg:ý=G){ab}(py:iK a ab)(hc:iY ab b=G),iY ab í=G:=by rw[vj al b,mY adu];injections n d;rw[mY he hg,mY ab,mY py hc];(have po:oG í (iK a j):=fun j J=>by rw[nD ((Fh b n j).1 J) q P Ab,mW adu j (r.lI Ab)]);rw[Do po py];rw[Do adu py]at hc;refine Acm (hs:=b.au (nF (pF _))) ?_ ?_ py.A'.1 hc;rw[mY k hs,uv hs,mZ hs,s4,aP1 q Ab (r.apA.1 J),nH aCB q n];subst aCB;rw[m1 (b[q]=d) (by rw[r.hV Ab]at he;exact ap.c.dB he),mY aa,aa,←Do po (adu d (r.lI he)),mW U4 al b q d he hg,m2 ((Fh b n _).2 (Ad q aCB (r.hV Ab))),mY bK];have lQ:=(adu _ J).A';rw[mW (sb Ir (Ń (zn bK)) _ (Fs lQ.1 (nj lQ))),mY k hs,uv hs,mZ hs,s4];have lQ:=(adu j J).A';exact qd (nj lQ) (Ad j.v lQ.1 (nW lQ))
def S_{a}{d}(dT:vy):iY d []=Y:=by induction dT with|cl=>rfl|bY v n g bh i ed _ _ _ _ _ h5 _ _ _ _ _ ih=>rw[mZ a_5 a_6 a_7 a_9,ñ (by rw[aRV h5]) j (by simp[FS,MP,MQ,aUN ih])]
abbrev agi(al:n1)(b:nL)(t:u):N:=ac5 b t&&aaX al b t
def Pk(b)(n t)(apd:n≤t):jv í t=jv (jv b (t+1)) n:=by rw[aP0,mY q];simp only[C0,C0,C0,C0,C0,C0];rw[y7 Q n,rJ c0,c0 Q,c0 Q,c0 (m4 (aQO (Am [n,t,q] pR nN S) apd Q)),y7 h2 t,c0 h2,cH Q,cH Q,rJ c0];rw[cH h2,cH (m4 (yQ (Am [n,q] 1 0 S ai (nN+1) S e (x8 Q) dO))),cH Q,cH (m4 (yQ (Am [t,q] 1 0 S ai (nN+1) nm e (x8 h2) dO)))]
def RR:∀{a}(al)(b)(adu:ry b vy)(n t)(apd:n≤t)(U:agi al í t=G),agi al b (t+1)=G:=by rw[vj al b,mY adu];injections n t;intro apd U;unfold agi at U⊢;rw[ot (aOE U) a_ hg];(have cG:í[t]?=b[t+1]?:=tg C0 (rJ cH));induction he:b[t+1]? using ap.ae with|B=>simp only[ac5,cG,he]at a_;rw[wO a_]|c d=>simp only[he]at cG;(have aph:oG (jv í t) (j∈jv b (t+1)):=by rw[tr];rw[Pk b n t apd]at J;rw[nD ((Fh _ n j).1 J) q P Ab,mW r.lI Ab]);(have aJd:oG í (j∈b):=fun j J=>by rw[so (Fh b n j).1 J,mY q _ Ab,mW r.lI Ab]);rw[m1 ((jv í t).z≤(jv b (t+1)).z) (nb (Pk b n t apd) (m7 Zw)),mY eb,N.fY];constructor;simp only[ac5,cG,he,N.acR]at a_⊢;rcases a_ with Q|Q|Q;rw[mW aQ.bT Q,mW (aOq aQ.bF Q),mX aQ.bF (aQ.bF ?_)];simp only[aiW,r.gZ]at Q⊢;rw[p4 Q,mY j J h2,mW Ad j (pa aJd) h2];rw[J3 al _ t d cG]at hg;rw[J3 al _ _ d he];rw[N.anq]at hg⊢;rw[nY hg hg];rintro hg;rw[m9];rintro hg;rw[m8];left;simp only[r.gZ]at hg⊢;rw[p4 hg,mY j J h2,mW Ad j (pa aph) h2];right;rw[m3 Ai (aT5 hg),mY Q h2,ot (aOE h2) h3 h4];have dT:=adu d (r.lI he);(have aCc:oG (jv b (t+1)) (j∈b):=fun j J=>by rw[so (Fh b _ j).1 J,mY q _ Ab,mW r.lI Ab]);rw[Do (fun j J=>adu j (aCc j (pa aph))) dT]at h4;rw[Q,N.ace,N.fY,y1 (qm (by simp only[kR]at h3⊢)),Do (fun j J=>š adu aCc) dT,mX Acn ?_ _ h4,mY H bK,uv bK,mZ bK,s4,mW (aT8 (Ad j (pa aph) e))]
def WX{a:aH}(al:n1)(W:nL)(avZ:ry W vy):∀(H:u)(b:nL),(ry b zG)→H≤b.z→(∀ab∈W,iY ab b=G)→(∀t,H≤t→t<b.z→agi al b t=Y)→(ry (aO3 H) zG)∧(∀ab∈W,iY ab (aO3 H)=G)∧(∀t,t<(aO3 H).z→agi al (aO3 H) t=Y):=by intro H;induction H with|hf=>rw[mY b Q _ h2 h3,mW ⟨Q,h2,fun t cG=>h3 t (m4 (AJ [t] 0 S e)) cG⟩]|gk H ih=>intro b Q bK h2 h3;have cU:agW al H b=if agi al b H then jv b H else b:=e;simp only[WV,WW];induction U:agi al b H using N.ae with|Y=>rw[cU,U,mX ih b Q n_ h2 (fun t cG ava=>?_),nH aIV t H,aIV,mW U,mW h3 t n_ ava]|G=>rw[cU,U,m1 (n9 b H b[H]) (rJ r.hV),mY he,m2 (aOE U).2,mY hg];have eb:=Zx b H n_;refine ih (jv b H) (tZ (by rw[nD ((Fh b H d).1 he) q P Ab,mW Q d (r.lI Ab)])) (m4 (Am [H,b.z,qp jv b H] S a8 nm ai ai pR e bK (AN eb))) (aOf (Tm al b (tZ (avZ d (xA Q))) H _ he hg (wZ avZ) (h2 ab b0))) (fun t cG ava=>?_);induction aH4:agi al (jv b H) t using N.ae with|Y=>rfl|G=>rw[m2 (RR al b (tZ (avZ d (xA Q))) H t cG aH4),m5,o6 (h3 (t+1) n_ (m4 (t5 [b.z,qp jv b H,t] pR S nN S (a8+1) ai e (Az eb) ava))),wO aa]
def Ub(H):b1 (0<H)=!(H==0):=by rw[ĉ H u.ae]
def SW(w:ch){i:nL}{g:N}(b:i.dD=g):f1 w .eq (wt i.au aR.aY) ps=c qA:=by rw[pq,ĉ i r.ae]
def SV(w:ch){i:nL}(b:qe i):f1 w .eq İ wM=c oX:=by induction i using r.ae with|C=>exact ej e b|s=>rfl
def AcU:∀(a:aH)(al)(fw:vB)(hz:aN9)(ac)(b2:td 30)(V)(i)(aB:i.z<100)(hd:ry i (d.eo≤20∧xf d.eu))(U:∀t,t<i.z→agi al i t=Y),∀(H o)(eN eQ fe),o+H=i.z→∃aki ahY akk,fZ (aO6 yn (pH (sG 4 (r_ 2 qx)) (sG 5 (xM (on eq (rZ (r_ 4 nG) nG) nr) (on eq (r_ 4 uN) yl))) (ts (xM (.bp 83 (pH pn ph qx)) (.or (.s (.ir za) (nA (aPT 81 ph))))) (.s wA .C)))) 3 B (k5 uQ 1 H) [xb,c V,c İ,eN,eQ,fe,B] a.F=c (na,[xb,c V,c İ,aki,ahY,akk,B],a.F):=by rw[aP2 al,mY fw hz];injections ac;intro b2;injections V i;rw[mY aB hd U,mY H];induction H with|hf=>rw[mY o eN eQ fe _,mW ⟨eN,eQ,fe,Ĝ⟩]|gk H ih=>intro o eN eQ fe aG;have he:zd i i[o]:=aUI (Ag [i.z,o,H] (ai+1) S (ai+pR) S e (Az aG));have auQ:=r.aij (show o<i.z by exact Ag [i.z,o,H] (ai+1) S (ai+pR) S e (Az aG));rw[mX JM (ih pY tE (c (aPF aY)) (ė (aPF cC==0&&aPF e7.dD)) (m4 (Br [i.z,o,H] (nN+a8) S (ai+pR) S e aG))) fun aki ahY akk b=>?_,mX Nc aki ahY akk ?_,GJ,mX (zt ?_).ah b,m2 (Ow a al fw hz ti (m4 (Am [ac,ti] 22 ai 30 S S nN e b2 (q2 AN (Ag [ac,ti] 1 S 30 S e b2)))) i o _ he aB (hd _ auQ).1 (hd _ auQ).2),mY adi,m2 (Ox a ti i),mY alm];have ak9:td 1:=u.eI nw b2;rw[u.e8 ak9]at adi alm;(have fo:pE a.F İ qw=c (aPF aY):=by unfold eS;rw[Du,r.adf,he];rfl);rw[xF aV F2 i[o],xF cV EQ i[o],m1 ((aaX al i o&&(!(aPF cC==0)||(! aPF e7.dD||aiW i)))=Y) (by rw[←Ub,m2 (U o (m4 (Ag [i.z,o,H] (ai+1) S (ai+pR) S e (Az aG)))),m5];simp only[agi,ac5,he]at aa;rw[N.and_comm,mW aa]),mY ahv];have A1:=AH (DN (aPF cC) 0);have kI:=SW a.F (ack.fI (aPF e7.dD));clear b ih auQ hd U he aB fw b2 ak9;generalize aaX al i o=K at adi ahv;generalize(aPF cC==0)=t at A1 ahv⊢;generalize aPF e7.dD=aP at kI ahv⊢;generalize aiW i=v at alm ahv;rw[u9 K (by(rw[u9 t (by exact pK [uo,r0,.K,p A1,aOu]) (by exact pK [uo,r0,.K,p A1,uP,p kI,aOu])])) (by rw[u9 t (by rw[qT ahv]) (by rw[u9 aP (by rw[qT ahv]) (by rw[u9 v (by exact pK [uo,r0,.K,p A1,uP,p kI,aOu,aZ alm]) (by rw[qT ahv])])])])]
def AcV:∀(a:aH)(al:n1)(fw:vB)(hz:aN9)(ac:u)(b2:td 30)(gJ:u)(W i:nL)(mt:qh gJ v9)(aB:i.z<100)(dw:qe i)(hd:ry i (d.eo≤20∧xf d.eu))(aCt:ry W (d.eo≤20))(hc:∀ab∈W,iY ab i=G)(U:∀t,t<i.z→agi al i t=Y),oD (aQf (ac+1) 85 [xW,.D gJ,İ]) pg:=by rw[mY a al,mY fw hz,mY ac,mY b2,mY gJ W i,mY mt aB dw hd aCt hc U,m2 (Il mt),mY lA,m1 (AY (aOG gJ) a.F=G) (y9 AY mt),mY cU];have jr:=aRJ yn (s8 79 6 ph) 6 qc [xb,tx gJ,c İ,B,B,B,B] (.D gJ) _ W aR.aY (x9 (ar.aO (iY ab i))) vP lA cU (aOf (by have:=Ov a (ac-(ab.eo+1)) ab i;rw[u.la,s7 (show td (ab.eo+1)by rw[m2 (wZ aCt),m5,mW Am [ac,ab.eo] (ai+1) S 30 S ai 20 e b2 aa])]at aa;exact qW [aZ aa]));have iO:=w3 GX yn a.F a.F _ _ jr (m7 CP);rw[IU,r.hp.2 hc]at iO;refine JM (AcU a al fw hz ac b2 (.D gJ) i aB hd U i.z 0 B B B (u.aaa _)) fun aki ahY akk kD=>?_;have amV:rm (acN a.F (eS i)) i.z:=CX (i:=ſ) e (by rw[r.hN]at⊢);rw[xF cG SV dw];have br:=ű Fk i.z;exact nd SD [p cG,aZ iO,p amV,os (K5 br kD)]
def FI(w)(p)(q aq):lY w p n' Ė=alo p q aq:=e
def Vc(q aq):alo .alD q aq=nK ((g2 q&&g2 aq)=G) (w6 (q*aq)):=e
def NQ(q aq):alo .abo q aq=nK ((g2 q&&(b1 (0<aq)&&g2 aq))=G) (c (.m (q.abo aq))):=e
def NR(q aq):alo .kS q aq=nK ((b1 (0<aq)&&g2 aq)=G) (c (.m (q.kS aq))):=e
def B7{O}{cf}{p}{f g}{l}{w a4 dm}{j ab y}(Q:o5 (o0 aU f) j)(h2:aNL g=c (ab,dm))(h3:lY dm p j ab=c y):oC (.dM p f g)=c (y,dm):=by rw[rc (pk ta Q),aPW ap.eO h2 h3];rfl
def AX{O}{cf}{p}{f g}{l}{w a4 dm}{j ab y}(Q:o5 (o0 aU f) j)(h2:aNL g=c (ab,dm))(h3:f1 dm p j ab=c y):oC (.aX p f g)=c (y,dm):=by rw[rc (pk ta Q),aPW ap.eO h2 h3];rfl
def Go{O}{cf}{x f g}{l}{w a4}(Q:o5 (o0 aU x) pg):oC aOa=aNL f:=by rw[rc (pk ta Q)];rfl
def E8{O}{cf}{x f g}{l}{w a4}(Q:o5 (o0 aU x) oX):oC aOa=aNL g:=by rw[rc (pk ta Q)];rfl
def D3{O}{cf}{x}{f g}{l}{w a4}(Q:o5 (o0 aU x) pg):pU dP aOa=b4 O cf f l a4:=sg IE Q
def D2{O}{cf}{x}{f g}{l}{w a4}(Q:o5 (o0 aU x) oX):pU dP aOa=b4 O cf g l a4:=sg IE Q
def Bh{O}{cf}{q}{d}{l}{w a4}{y}(Q:uw y):pU dP (.ci q d)=c (na,Ż qv,a4):=sg QA Q
def Dh{O}{cf}{d}{l}{w a4}{y}(Q:uw y):pU dP (s6 d)=c (rO,l,a4):=sg QD Q
def BX{O}{cf}{d}{l}{w a4}{y}(Q:uw y):pU dP (.f_ d)=c (na,l,a4):=sg QC Q
def AW{O}{cf}{ac}{Aa}{l}{w a4}{vs}(Q:o5 aN3 vs):oC (.bp ac Aa)=cf ac vs a4:=sg Qv Q
def Ae{O}{cf}{d}{Aa}{l}{w a4 dm}{y}{vs}(Q:uw y)(h2:h0 O cf Aa l a4=c (vs,dm)):pU h0 u6=c (y::vs,dm):=by rw[rc (pk ta Q)];simp only[ap.eO,h2];rfl
def A3{O}{cf}{Aa}{l}{w a4}{vs}(Q:o5 aN3 vs):o5 (oC (nE Aa)) (nE vs):=sg IC Q
def CC{O}{cf}{Aa}{l}{w a4}{vs}(Q:o5 aN3 vs):o5 (oC (oh Aa)) (oh vs):=sg Qy Q
def Bm{O}{cf}{f g}{l}{w a4 dm}{j ab y}(Q:o5 (o0 aU f) j)(h2:aNL g=c (ab,dm))(h3:eC dm j ab=c y):oC (.aT f g)=c (y,dm):=by rw[rc (pk ta Q),aPW ap.eO h2 h3];rfl
def Aj{O:mD}{cf:iV}{q:u}{l:dv}{w:ch}{y:ar}(b:pO l qv):oC ę=c (y,w):=sg Bl b
def AO{O}{cf}{k}{g}{l bW}{w a4}(b:o0 dP k=c (na,bW,a4)):pU b4 (.s k g)=b4 O cf g bW a4:=sg Eo b
def CJ{O}{cf}{k}{g}{l bW}{w a4}{y}(b:o0 dP k=c (rO,bW,a4)):pU b4 (.s k g)=c (rO,bW,a4):=sg Eo b
def Gs{O}{cf}{d}{h}{Aa}{l}{w a4 dm}{y}{ac}{vs}(Q:uw y)(h2:my O a4 y h=c ac)(h3:h0 O cf Aa l a4=c (vs,dm)):oC (.eT d h Aa)=cf ac (y::vs) dm:=by simp only[Lv,Q];rw[m6 (((my O a4 y h).bP fun ac=>(h0 O _ _ l a4).bP fun t=>cf ac (y::ox) _)=_),h2,m6 (((h0 O _ _ l _).bP fun t=>cf ac _ _)=_),h3];rfl
structure aL7(a:aH):Prop where
 aF:aPD
 xs:aVT
 bs:a.bs<100000
def P1(n:u)(b:n<1000000):g2 (nc n)=G:=by unfold g2;simp only[N.c3,kR];exact t8 KN b
def Aca:∀(a:aH)(J:aVT)(ba:a.bs<100000)(o h)(cu:0<h)(ahA:rG h),∃l:u,l<h∧aQf pY 68 [Ę,.m h]=c (.m l,yu bs wp):=by rw[ug,mY J ba,ē o,mY cu ahA,uy J cL arr];have am1:aVu Ę nr a.bs:=Cq _ 0 [.m a.bs,aSo] 0 (BH a);have aav:eC (yu bs wp) Ę nG=c aSo:=Cq _ 0 [vl wp,aSo] 1 (BH (oP bs wp));have ad:lY [] .e_ (.m a.bs) nG=c (pe (aUo+1)):=e;(have lf:lm a.F 0 nr (pe (aUo+1))=c (yu bs wp):=by unfold lm;rw[BH a,mW cr c (s0 a wp)]);have arB:rm (acN (yu bs wp) aSo) a.xs.z:=CX (i:=a.xs) e e;have arE:tM<nc h:=R.aa7.gS cu;(have cW:∀j:R,lY [] .kS Ŭ (.m h)=c (.m ((R.kS j h).es:u)):=nF (by rw[FI,NR,c0 (by rw[hZ arE,ű P1 h]at⊢;rfl),R.awI (R.aHl _ arE)]));have aBM:∀j:R,(R.kS j h).es<h:=nF ((R.aEW (R.aHl _ arE)).gS (R.fmod_lt_of_pos _ arE));by_cases jf:a.bs<a.xs.z;(have aIF:a.bs<cL.z:=by simp only[arr,r.hN]at jf;exact jf);(have aJO:rm (pE [] aSo (.m a.bs)) cL[a.bs]:=by rw[Du,arr,r.adf,r.hV aIF];rfl);exact(Ad _ (aBM cL[a.bs]) (nd MB [p am1,p ad,aaF lf,Ů,p arB,p (Cz (hZ (R.aa7.gS jf))),Ů,p aJO,qa cW cL[a.bs]]));(have aKp:lY [] .alD (.m a.bs) (.m 101)=c (pe (aUo*101)):=by rw[FI,Vc,c0 (by rw[ű P1 a.bs]at⊢;decide)]);have aGo:lY [] .e_ (pe (aUo*101)) (.m 7)=c (pe (aUo*101+7)):=e;exact(Ad _ (aBM (aUo*101+7)) (nd MB [p am1,p ad,aaF lf,Ů,p arB,sZ Cz jq (oE (pQ jf R.aa7.mp)),p aKp,p aGo,p (cW (aUo*101+7))]))
abbrev kp:u→a9|0=>aUG|1=>q8 "null"|2=>.aO 1 0|3=>aUz|4=>rx|5=>og "b"|6=>aSt|7=>.mN|_=>aSu
abbrev mc:sf u|0=>1|1=>2|2=>4|3=>24|4=>16|5=>32|6=>120|7=>128|_=>384
def H8{W:aR4}(b:W 0∧W 1∧W 2∧W 3∧W 4∧W 5∧W 6∧W 7∧W 8):∀q,q<9→W q:=BJ od (BJ rB (BJ tO (BJ vr (BJ x_ (BJ (nj oH) (BJ (oj oH) (BJ (ou oH) (BJ (qk oH) KA))))))))
def PM(a:aH)(h q:u)(Ab:q<9):qM 69 [n'] (tY q):=by have fo:pE a.F (oh [tY 0,tY 1,tY 2,tY 3,tY 4,tY 5,tY 6,tY 7,tY 8]) n'=c (tY q):=(Du ..).ah (H8 (W:=fun q=>op ([tY 0,tY 1,tY 2,tY 3,tY 4,tY 5,tY 6,tY 7,tY 8]:nC) (tY q)) (u7 Hs e e e e e) q Ab);exact nd St [.K,uo]
def I7(a:aH)(h q:u)(Ab:q<9):qM 70 [n'] (.m (mc q)):=by have fo:pE a.F (oh [nG,rn,È,.m 24,.m 16,.m 32,.m 120,.m 128,.m 384]) n'=c (.m (mc q)):=(Du ..).ah (H8 (W:=fun q=>pO ([nG,rn,È,.m 24,.m 16,.m 32,.m 120,.m 128,.m 384]:nC) (.m (mc q))) (u7 Hs e e e e e) q Ab);exact nd Su [uo]
noncomputable abbrev i_:=ap (nq×N)
abbrev ahb:i_→Prop|B=>abh|c (i,_)=>qe i∧wr 2∧∀q∈i,q<9
abbrev mG:i_→ar|B=>ps|zl i=>nE [v2 i,aON]
def JV(w)(f g:u)(U:0<g)(a_:rG f)(agB:rG g):lY w .abo th y_=c (vl (f/g)):=by rw[m1 (g2 vn=G) (ű DG _),mY Q,m2 (ű DG _),mY h2,m1 (b1 (tM<g)=G) (qm (by simp)),mY h3];rw[FI,NQ,c0 (by rw[Q,h2,h3]at⊢;rfl),R.aKB]at⊢
def HH(w)(f g:u)(U:0<g)(agB:rG g):lY w .kS th y_=c (vl (f%g)):=by rw[m1 (g2 (nc g)=G) (ű DG _),mY h2,m1 (b1 (tM<g)=G) (qm (by simp)),mY h3,FI,NR,c0 (qZ h2 h3),R.ofNat_fmod]
def KF:∀(w:ch)(h x:u)(hc:x<486),∃H,ahb H∧bc T bo nB 71 [.m x] w=c (mG H,w):=by injections w h x;rw[mY hc,m2 (oQ (HH w x 3 nw)),mY afR,m2 (JV w x 243 nw (m4 (Ĺ hc)) nw),mY aGU,m2 (oQ (HH w (x/243) 2 nw)),mY c4,m2 (JV w x 27 nw (m4 (Ĺ hc)) nw),mY aGV,m2 (oQ (HH w (x/27) 9 nw)),mY aKg,m2 (JV w x 3 nw (m4 (Ĺ hc)) nw),mY akM,m2 (oQ (HH w (x/3) 9 nw)),mY aKh];(have ae3:∀gd,ny nT pn [nn x,gd] w=c (.m x,w):=by rw[mY gd,mW nz]);have cV:∀gd,ny nT (rk kS pn uN) [nn x,gd] w=c (vl (x%3),w):=fun gd=>B7 (ae3 gd) nU afR;rw[nH bf (x%3) 0,mX Ad B jC ?_,m1 ((ob (x%3)==0)=G) (Gr (x%3) 0 bf),mY t];have auK:ny nT (on eq (rk kS pn uN) nr) [nn x,B] w=c (pg,w):=AX (cV B) nU (by simp only[f1,kz,jp,abN,acr,kC,aar,r.adn,fU,t,ap.ji]);rw[MD,aqK,Eo,D3 auK];rfl;rw[m1 ((ob (x%3)==0)=Y) (C_ (x%3) 0 bf),mY t];have auK:ny nT (on eq (rk kS pn uN) nr) [nn x,B] w=c (oX,w):=AX (cV B) nU (by simp only[f1,kz,jp,abN,acr,kC,aar,r.adn,fU,t,ap.ji]);have az0:ny nT (rk kS (rk abo pn (.m 243)) rn) [nn x,B] w=c (vl (x/243%2),w):=B7 (B7 (ae3 B) nU aGU) nU c4;rw[m1 (ny nT (rk kS (rk abo pn (.m 27)) É) [nn x,B] w=c (vl (x/27%9),w)) (B7 (B7 (ae3 B) nU aGV) nU aKg),mY aG2,m1 (∀gd,ny nT (rk kS (rk abo pn uN) É) [nn x,gd] w=c (vl (x/3%9),w)) (fun gd=>B7 (B7 (ae3 gd) nU akM) nU aKh),mY aot,m1 (∃afS:nq,afS.z≤1∧(∀q∈afS,q<9)∧ny nT (.bC (on eq (rk kS (rk abo pn (.m 243)) rn) nG) (.bm (nA (rk kS (rk abo pn (.m 27)) É))) ţ) [nn x,B] w=c (v2 afS,w)) (by rw[nH Q (x/243%2) 1,mX AP ([x/27%9]) qg (aP8 (t8 u.aDR _)) ?_,m1 ((ob (x/243%2)==1)=G) (Gr _ 1 Q),mY cG,mW (Go (AX az0 nU (by simp only[f1,kz,jp,abN,acr,kC,aar,r.adn,fU,cG,ap.ji]))).ah (CC (Ae aG2 oy)),mX AP ([]) qg qg ?_,m1 ((ob (x/243%2)==1)=Y) (C_ _ 1 Q),mY cG,mW (E8 (AX az0 nU (by simp only[f1,kz,jp,abN,acr,kC,aar,r.adn,fU,cG,ap.ji]))).ah aTj]),mY ao9,mX AF ao9 fun afS ao5 au0 ao9=>?_,mX Ad (c ((x/3%9)::afS,b1 (x%3=2))) (AE qg (aP8 ao5) ?_) ?_,mY q Ab,nt (r.gA.1 Ab),n8,m9];rintro Ab;rw[m8,mW (t8 u.aDR _),mW au0 q Ab,m1 (ny nT (rk eZ (rk kS pn uN) nG) [nn x,c (v2 afS)] w=c (aeR (b1 (x%3=2)),w)) (by rw[mX B7 (cV _) nU ?_,m1 (x%3=1∨x%3=2) (m4 (Yl bf)),m5];(rw[nY aa aa,oe,m9,oe,m8])<;>rw[b]<;>rfl),mY aph,m1 (aU _ _ (m7 .dM qc) _ w=c (.bm (cS ((x/3%9)::afS)),w)) (by rw[m1 (Á (rH cS [x/3%9]+rH cS _)) (by simp[cS,du];exact Ag [afS.z] (1+S) 1048576 S 1 e ao5),mY aB,m1 (lY w .e_ (oh [xl]) (oh _)=c _) (by simp only[lY,jp,alo,j7];exact c0 aB),mY U,mW B7 (CC (Ae (aot _) oy)) nz U]),mY auy,m1 (dP _ _ (.bC _ (nA (.bu yl)) _) _ w=c (na,[nJ,B],w)) (pX D2 auK sV),mY s1,MD,aqK,AO s1,AO (Bh ao9)];rw[sr (([nJ,B]:dv).b6 1 _) [nJ,nJ] e];rw[CJ (Dh (A3 (Ae auy (Ae aph oy))))];rfl
abbrev hB:sf i_|B=>2047|zl i=>adq p (i.au mc)
def OJ:∀(a:aH)(h)(H)(bK:ahb H),pG 2 72 [mG H] (.m (hB H)):=by rw[ē a,mY H bK,tm H (by rw[oq FO [.K]]) f (by induction f using fK.ae with|mk i g=>rw[pv AC bK Q h2 h3,mZ bK,oS i (by rw[aRV Q]) q i (by clear Q;have Ab:=I7 a h q (h3 q tG);rw[oS i (by rw[m1 (hB (c ([q],g))=(t_ g 513)|||mc q) (cr (nF ((t_ g 513)|||j)) (u.or_zero _)),p0,d,mZ d h2 h3,wE g,mW (nd FO [.K,.K,.K,.K,vh,aZ Ab,sZ (C' [] 0) mc q]),mW (nd FO [.K,.K,.K,.K,vh,aZ Ab,sZ (C' [] 513) mc q])]) aq i (by have cQ:=I7 a h aq (h3 aq (r.lH _ tG));induction i using r.ae with|s o i=>exact ej h2 (yg r.kZ (yQ (Ag [i.z] 1 0 (nm+1+1) 2 e dO)))|C=>rw[m1 (hB (c ([q,aq],g))=(t_ g 513)|||mc q|||mc aq) ((cr (nF ((t_ g 513)|||(mc q|||j))) (u.or_zero _)).ah (rz (u.or_assoc ..))),p0,d,mZ d h2 h3,wE g,mW (nd FO [.K,.K,.K,.K,vh,aZ Ab,sZ (C' [] 0) mc q,aZ cQ,sZ (C' [] (0|||mc q)) mc aq]),mW (nd FO [.K,.K,.K,.K,vh,aZ Ab,sZ (C' [] 513) mc q,aZ cQ,sZ (C' [] (513|||mc q)) mc aq])])])])]
def dI.As{a}{M}{O}(aF:qG)(p):dI (a.As p) M O:=u7 aF.le (D_ a p aF.aS) aF.eM aF.ey aF.jX e aF.jW
def E1(ao)(cO:ao.fF)(o)(l)(b:zd ao l):gG ao l=o:=OZ cO _ _ l (pQ (HR ao l) r.lI) b
def E2(ao)(l)(U:yV q l (op kv l→op ao l))(br:l∉kv):xe (gG ao l):=by rw[m2 (qJ (m7 U) (n9 kv 15 _) e),mY akZ,u8 aB akZ,aPd l ao,m2 (HR ao l bK),nR];by_cases jf:gG ao l<16;rw[m1 (∃r',n9 kv (gG ao l) r') (qo (aUI jf)),mY bj,uy bj r' bj,m2 (nv U bj),mY aa,o6 b,nf aa,mZ aa,mY aa,uM,mW ej (r.lI bj) br];omega;rw[E3 ao l bK];omega
def QY(ao)(cO:ao.fF)(U:yV q l (op kv l→op ao l)):∀q,q<9→hm (gG ao (kp q)) (kp q) (mc q):=by rw[m2 (E1 ao cO 4 _ (U 4 _ e)),mY ek,m2 (E1 ao cO 5 _ (U 5 _ e)),mY dY,m2 (E1 ao cO 6 _ (U 6 _ e)),mY dZ,m2 (E1 ao cO 7 _ (U 7 _ e)),mY d0,m2 (E1 ao cO 9 _ (U 9 _ e)),mY d1];apply H8;rw[mX Hs ?_ ?_ ?_ ?_ ?_ ?_ ?_ ?_ ?_,m6 (hm (aNK (q8 _)) _ _),ek,mW .un,m6 (hm (aNK (q8 _)) _ _),dY,mW .nl,m6 (hm (aNK (.aO 1 0)) _ _),d1,mW .Ap,mW .f _ (E2 ao _ U nw),mW .d _ (E2 ao _ U nw),mW .g _ (E2 ao _ U nw),m6 (hm (aNK (q8 _)) _ _),dZ,mW .st,mW .a _ (E2 ao _ U nw),m6 (hm (aNK (q8 _)) _ _),d0,mW .avV]
def G3:∀q,q<9→∀n,kp q≠v4:=by apply H8;refine(Hs ?_ ?_ ?_ ?_ ?_ ?_ ?_ ?_ ?_)<;>intro n b<;>injection b
def PC(a)(M)(O)(aF:qG)(h q)(Ab:q<9)(fT:aSQ):∃(v:u)(ao:oB),ś 88 [oW,tY q]=c (oF,ð)∧ao=eL a.ak (kp q)∧ie ao v (mc q):=by rw[mX (sb Au (rJ (GG a h _ aF.kh)) e (ql (m7 D') ?_)),mW QY _ aF.cO aF.eX q Ab]
def I6{ao}{v g}(n:aNY v):agl ao v=g:=by rw[←(hH.gB v g n).agk.2];simp[iT]
def WH:∀(a)(aF:aPD)(h)(i)(p)(aB:ahb (zl i))(fT:Š 800000)(l)(avb:Ň nZ)(arK:∃j,n9 l 6 j)(alt)(fo:oD (aU T pc alt l a.F) (v2 i)),∃(aP:u)(ao:oB),ny pc (s8 8 0 (.go aRI 6 alt .C)) l a.F=c (Ç,ð)∧aTm wa∧aRe∧ao.z≤a.ak.z+3∧aV1∧∃l' g7,hH ao aP l' g7∧l'.z≤2∧iT g7=iT (i.au mc):=by rw[ug,mY aF,yb i p,mY aB fT];injections l;intro avb arK;injections alt;rw[mY fo,pv AC aB Q h2 h3,mZ aB,uy arK cp arK,m1 (6<l.z) (r.gF.1 arK).1,mY aIW];(have auP:∀(a:aH)(aF:aPD)(q:u)(Ab:q<9)(fT:aSQ),∃(v:u)(ao:oB),ago T pc aRI (l.b6 6 (nn q)) a.F=c (oF,ð)∧ao=eL a.ak (kp q)∧ie ao v (mc q):=by rw[mY a aF q Ab fT,s3 (PC a [] [] aF (h+2) q Ab fT) v ao aV bj cV,mX Au v ao ?_ bj cV,m2 (PM a (h+2) q Ab),mY iC,m1 (nX (l.b6 6 (nn q)) 0 nZ) (nb (oQ r.agx) avb),mY ae3,m1 (nX (l.b6 6 (nn q)) 6 (nn q)) (by rw[r.akX aIW]),mY fi,mW (Gs (Aj ae3) (Fa a) (vx ((xZ (Aj fi) oy).ah iC))).ah aV]);(have aCz:∀w l,ahC T pc .C l w=c (G,w):=fun w l=>tg HQ Qw);(have jr:∀(i:nq)(a:aH),oD (aU T pc alt l a.F) (v2 i)→∀vs dm,abk (ago T pc aRI) (ahC T pc .C) 6 B (cS i) l a.F=c (vs,dm)→ny pc (.go aRI 6 alt .C) l a.F=c (oh vs,dm):=by rw[mY i a fo vs dm hc,Iy,fo,m6 ((ow (nM abk 6 B (cS i) l a.F) V (ar.bm V.1,V.2))=_),hc];rfl);(have iD:∀(a':nq)(z1:aH),ny pc (.go aRI 6 alt .C) l a.F=c (v2 a',z1.F)→∀V,aOc 3 8 [oW,v2 a'] z1.F=c V→ny pc (s8 8 0 (.go aRI 6 alt .C)) l a.F=c V:=by rw[mY a' z1 hc V eh,mW (xZ (Aj avb) (aST hc)).ah eh]);rw[ñ (by rw[aRV Q]) q (by rw[ñ (by have Ab:=h3 q (by simp);rw[s3 (rJ (auP a aF q Ab)) v ao aV bj cV,rf (aF.Ah ao (aQ.bF (qo bj))) ke adc lE,m1 (abk (ago T pc aRI) (ahC T pc .C) 6 B (cS [q]) l a.F=c (cS qU,ð)) (by simp[cS,FQ,FR,AY,aCz,aV]),mY hc];(obtain⟨aP,gO,gE,f2,fn,l',g7,i2,aet,aoz⟩:=Ln wa [] [] ke h (v2 qU) qU aUu ra ra (fun j J=>nb aQK (m7 BN (.gB v _ cV))) (by rw[m2 (HO ao qU [] 1 (fun j J=>by rw[aQK,(hH.gB v _ cV).e7];simp)),m5];simp at aa;rw[m6 ((fj ao [] qU).z≤3)];omega) (by rw[m6 (ao.z<900000),mW (aNZ a.ak.z ao.z 900000 800000 ai nm e fT lE)]));rw[rf (ke.Ah gO f2) gi adV acM,m1 ((fj ao [] qU).z≤1) (wy (HO ao qU [] 1 (fun j J=>by rw[aQK,(hH.gB v _ cV).e7];simp))),mY ajz,m1 (gO.z≤ao.z+1) acM,mY ad3,m1 aV1 (nb bj (m7 Dl (G3 q Ab))),mY akS,mX Dp aP gO (iD qU _ (jr [q] a fo _ _ hc) _ gE) gi (fun q l b=>adV q l (adc q l b)) (m4 (Am (aR2 ao.z gO.z) a8 wQ ai nm a8 nN e lE ad3)) (akS.ah fn) (Au l' g7 i2 ?_ ?_),m1 ((fj (s9 ao ak) [] qU).z≤1) ajz,mY aa,mW Am [l'.z,(fj (s9 ao ak) [] qU).z] S 2 S ai ai 1 e aet aa,aoz,m6 (iT [agl ao v]=_),I6 cV];rfl) aq (by induction i using r.ae with|s o i=>exact ej h2 (yg r.kZ (yQ (Ag [i.z] 1 0 (nm+1+1) 2 e dO)))|C=>have Ab:=h3 q (by simp);have cQ:=h3 aq (by simp);rw[s3 (rJ (auP a aF q Ab)) v ao aV bj cV,rf (aF.Ah ao (aQ.bF (qo bj))) ke adc lE,s3 (auP wa ke aq cQ (by rw[m6 (ao.z<900000),mW (aNZ a.ak.z ao.z 900000 800000 ai nm e fT lE)])) iu iA aos azZ aot,rf (ke.Ah iA (aQ.bF (qo azZ))) azj az6 aJ4];have at4:ie iA v (mc q):=cV.bx az6;rw[m1 (abk (ago T pc aRI) (ahC T pc .C) 6 B (cS [q,aq]) l a.F=c (cS [v,iu],(tA ao Ah iA).F)) (by simp[cS,FQ,FR,AY,aCz,aV,aos]),mY hc,m1 (oG [v,iu] (∃i bq,À (tA ao Ah iA).ak j)) (by rw[tr,mZ aV cV hc,nt (r.gA.1 J),n8,m9,ya,m8,mW (m7 BN (nv .gB at4)),aQK,mW (m7 BN (nv .gB aot))]),mY ew];(have ajz:(fj iA [] [v,iu]).z≤2:=by have:=HO iA [v,iu] [] 1 (fun j J=>by rw[mZ aV cV hc ew,nt (r.gA.1 J),n8,m9,ya,m8,(nv hH.gB at4).e7];simp;rw[aQK,(nv hH.gB aot).e7];simp);rw[Ą]);have ale:iA.z≤ao.z+1:=aJ4;obtain⟨aP,gO,gE,f2,fn,l',g7,i2,aet,aoz⟩:=Ln (tA ao Ah iA) [] [] azj h (v2 [v,iu]) [v,iu] aUu ra ra ew (qm (by rw[m6 ((fj iA _ _).z≤3)])) (by rw[m6 (iA.z<900000),mW Bu (aR2 ao.z iA.z) (a8+1) 900000 nm 800000 ai nm a8 nN e fT lE ale]);rw[rf (azj.Ah gO f2) gi adV acM,m1 (gO.z≤iA.z+1) acM,mY ad3,m1 (aae _ ao) (nb bj (m7 Dl (G3 q Ab))),mY akS,m1 (aae ao iA) (nb azZ (m7 Dl (G3 aq cQ))),mY auj,mX Dp aP _ (iD _ _ (jr _ a fo _ _ hc) _ gE) gi (fun q l b=>adV q l (az6 q l (adc q l b))) (m4 (Bu [a.ak.z,ao.z,iA.z,gO.z] eK wQ ai nm a8 nN eK pR e lE ale ad3)) ((akS.ah auj).ah fn) (Au _ _ i2 ?_ ?_),m1 ((fj (tA ao Ah _).ak _ _).z≤2) ajz,mY aa];omega;rw[aoz,m6 (iT [agl iA v,agl iA _]=_),I6 at4,I6 aot];rfl)])]
abbrev eV(g:i_×i_):ar:=nE [mG g.1,mG g.2]
abbrev l7(a:aH)(anH:ar)(eN eQ fe:pl):dv:=[nZ,c anH,sS,eN,eQ,fe,B]
abbrev ash:cx:=oo aqL (.s _ (ġ (nv .mn g))) g .C
def Pd:∀(a)(aF:aPD)(h)(g)(cE:N)(H)(bK:H=if cE then g.2 else g.1)(acE:ahb H)(aaH)(aaZ:aaH.z<10)(fT:Š 800000)(eN eQ fe:pl),∃(ao:oB)(n:o4)(ahY:pl),f0 T pc ash (aRG eQ) (uI zc)=c (na,aRG ahY,(s9 ao As (.aw (aaH++e5 (lL cE) n))).F)∧aTm wa∧aRe∧ao.z≤a.ak.z+3∧aV1∧eH ao n (hB H):=by rw[ug,mY aF,yb g cE,mY H bK acE aaH aaZ fT eN eQ fe,m1 (ash=nA (ts (on ne aSL yl) (.s (sG 4 (s8 8 0 (aRl aRI 6 (rZ aSL nr)))) (nA (.f_ (aOW 2 (qL (.s (rZ (og "pq") qx) (pH p6 (rZ aSL nG) nr))))))))) e,mY aIM,m1 (∀w,pE w vJ (pe (t_ cE 1))=c (mG H)) (by rw[mZ acE,mY w];subst bK;rw[wE cE,mW aR1];exact D4 ..),mY acF,mZ bK,m1 (∀eQ fe(w:ch),ny pc aSL (l7 a _ _ eQ fe) w=c _) (fun eQ fe w=>Bm nz nz (acF w)),mY abf,mZ acF];simp only[DM,aIM,Eo];induction H using ap.ae with|B=>rw[mX (nM Cn eQ ?_ ?_ aQ2 n_ (aae.fI _) (.no)),m1 (aU _ _ (.aX .ne _ _) (l7 a _ _ eQ fe) _=c (oX,uI zc)) (AX (abf ..) ŧ e),mY hc,D2 hc,Bg,Kl,Bg,Ea a aF.kh];simp[e5];rw[Ea a aF.kh,mW aF]|c f=>obtain⟨i,p⟩:=f;rw[m2 (aF.As zc),mY aGT,m1 (ny pc (rZ aSL nr) (aRG eQ) (uI zc)=c (v2 i,uI zc)) (aTz (abf ..) aR1),mY fo];obtain⟨aP,ao,aV,aGS,aaW,c9,aoH,l',g7,pt,ad3,amO⟩:=WH (a.As zc) aGT h i p acE fT (aRG eQ) e (qS B) _ fo;rw[m1 (((a.As zc).Ah ao)=(s9 ao As zc)) e,mY cU,y4 cU];have aS:=aF.aS;rw[mX Cn ao (zl aP) (nn aP) ?_ ?_ aaW c9 aoH ?_,m1 (ny pc (on ne aSL yl) (aRG eQ) (uI zc)=c (pg,uI zc)) (AX (abf ..) ŧ e),mY hc,m1 (∀w,pE w (og "pq") (pe (t_ cE 1))=c aWb) (by rw[mY w,mZ abf fo aV hc];induction cE using N.ae<;>rfl),mY aJc];have iC:ny pc (qL (.s (rZ (og "pq") qx) (pH p6 (rZ aSL nG) nr))) (aRG (nn aP)) (s9 ao As zc).F=c (nE [aWb,Ç,aON,nr],(s9 ao As zc).F):=A3 (o2 (Bm (DI ..) nz (aJc _)) nz (o2 (aTz (abf ..) (D4 ..)) nU oy));have hg:=GE wa zc aS;rw[m1 (ny pc (aOW 2 (qL (.s (rZ (og "pq") qx) (.s p6 (.s (rZ aSL nG) (nA nr)))))) (aRG (nn aP)) (s9 ao As zc).F=c (.B,(s9 ao As (.aw (aaH++[nE [aWb,Ç,aON,nr]]))).F)) (by rw[nM (p5 (w3 CG pc) a.ad) aaH aaH nz hg iC hg (qm (by simp[du]))];rw[sr a.ad (s9 ao ad) e,KX wa _ _ aS]),mY auA,D3 hc,AO (Bh aV)];rw[sr ((aRG eQ).b6 4 (nn aP)) (aRG (nn aP)) e,AO (BX auA),Bg,Kl,Bg];rfl;rw[mW (u7 aGS.le aS aF.eM aF.ey aF.jX e aF.jW),m1 (adq p g7=hB (zl i)) (by simp only[hB,adq,amO]),m5,←aa,mW .abF aP p l' g7 pt ad3]
abbrev aKz:aQH|vE=>n.mL&&t.mL|_=>G
def YJ{n t:o4}(b:a9.D n t∈kv):n=B∧t=B:=let v:=N.fY.mp (r.hp.mp (show kv.de aKz=G by kernel_rfl) _ b);gL.lh (ap.am5.mp v.1) (ap.am5.mp v.2)
def Pe:∀(a:aH)(aF:aPD)(h:u)(g:i_×i_)(Q:ahb g.1)(h2:ahb g.2)(fT:Š 700000),∃(v:u)(ao:oB)(n t:o4),rE 4 73 [oW,vJ]=c (nE [oF,nE [pe vI,.m (hB g.1),.m (hB g.2)]],ð)∧aTm wa∧(aRM a.ak ao)∧ao.z≤a.ak.z+7∧aV1∧nX ao v vE∧(v=11∨xe v)∧eH ao n (hB g.1)∧eH ao t (hB g.2):=by rw[ug,mY aF];injections h g;intro Q h2 fT;have aS:=aF.aS;refine Co (Pd a aF h g Y g.1 e Q [] qg n_ B B B) fun fB n ahY aV ke adc lE akS cC=>?_;(have ale:s9 fB ak.z<800000:=yh (fB.z<800000) (aNZ a.ak.z fB.z 800000 700000 ai wQ e fT lE));rw[mX Co (Pd (a.Ah fB) ke h g G g.2 e h2 ([]++e5 (lL Y) n) (ū n (by decide) f (by rw[mZ aV cC,aPJ,mW yL])) ale B ahY B) fun gO t akj bj gi adV acM auj c4=>?_,m1 (gO.z≤fB.z+3) acM,mY aIB];have avc:(tA fB Ah gO)=a.Ah gO:=e;rw[avc]at bj gi;rw[m1 (a9.aY vE=nE _) e,mY iC,mZ iC,m2 (gi.As aRU),mY azk,m2 (GG _ (h+2) vE azk.kh (by rw[m6 (gO.z<1000000),mW (aNZ (s9 _ ak.z) gO.z 1000000 800000 ai wQ e ale acM)])),mY lf,mZ azk,m1 ((s9 _ As aRU).ak=gO) e,mY abu];rw[abu]at lf;rw[mZ abu,m1 ((tA gO As _).Ah (eL gO _)=(a.Ah (eL _ vE)).As aRU) e,mY kW];rw[kW]at lf;rw[mZ kW,rf (gi.Ah (sy gO vE) (aQ.bF u0)) aaV aq9 ar1,m1 (tA gO Ah _=a.Ah (eL gO vE)) e,mY aC0];rw[aC0]at aaV;clear aC0;have ahr:aRM gO (sy gO vE):=aq9;rw[mZ aq9,m1 ((m7 eL).z≤gO.z+1) ar1,mY apt,mZ ar1,mX (nM Ui n t ?_ aaV (fun q l b=>ahr q l (adV q l (adc q l b))) (m4 (Bu [a.ak.z,fB.z,gO.z,(m7 eL).z] eK (S+7) ai wQ a8 (ai+3) eK pR e lE aIB apt)) (pX akS.ah auj (m7 Dl (fun n b=>Æ))) (m7 D') ?_ ((cC.bx adV).bx ahr) (c4.bx ahr)),mZ cC c4 aaV ahr apt,m1 (dP _ _ (.ci 2 _) _ _=c (na,l7 a _ _ _ _,(a.As _).F)) (by rw[m1 (aU T pc _ [nZ,xm,B,B,B,B,B] a.F=c _) (by rw[C7,Ar,m6 (c (ar.D a.F.z,tD aTZ)=_),Bj,Ð Cc _]),mY cu,Bh cu];rfl),mY s1,m1 (acb [rn]=c [nr,nG]) e,mY afG,m1 (h0 T pc (ġ rn) (l7 a vJ B B B) (uI m_)=c _) (vx nU),mY ak8];have kD:fZ (ó pc ash) 3 B [nr,nG] (l7 a vJ B B B) (uI m_)=c (na,l7 a vJ (nn 1) akj B,yK):=(zt aV).ah ((zt bj).ah (BG ..));rw[mZ aV bj,m1 (aqL=.s _ (ġ (.mn 3 _ ash))) e,mY iO,m2 (GE (a.Ah gO) aRU aS),mY hg];have auV:nX yK a.ad aRU:=hg;rw[mZ hg,m2 (OJ (s9 gO As aRU) nB _ Q),mY aDJ,m2 (OJ (s9 gO As aRU) nB _ h2),mY aDK,m1 (ny pc (.bC (ķ ţ) (.m 508) nr) (l7 a vJ (nn 1) akj B) yK=c (pe vI,yK)) (by clear lf kD aDJ aDK;(have cG:kz yK aP5 wM=c (aRS).dD:=by simp only[kz,jp,abN,acr,kC,aar,r.adn,fU,auV]);clear auV;have air:∀w,ny pc ţ (l7 a vJ (nn 1) akj B) w=c (wM,w):=fun w=>aTj;rw[nt (FE n t),mY J,Ö,ng];rintro e e d;rw[m9,mY J,nV,ng];rintro dw d;rw[m8,d,mW (Go (AX nz (air _) (sg f1 cG))).ah nU,d,mZ d,mX (E8 (AX nz (air _) ?_)).ah nU,aR0 f1 cG,mZ cG,m1 ((e5 _ n++e5 _ t).dD=Y) (by rw[KW];induction n using ap.ae with|B=>(induction t using ap.ae with|B=>simp at dw|c x=>rfl)|c x=>rfl),m5,tf]),mY aHy,m1 (dP _ _ (.ci 5 _) _ _=c (na,l7 a _ _ _ _,((a.Ah _).As _).F)) (by have A_:ny pc (aPT 72 (rq 1)) (l7 a vJ (nn 1) akj B) yK=c (.m (hB g.1),yK):=(xZ (aTz nz aR1) oy).ah aDJ;have Bw:ny pc (aPT 72 (x2 nG)) (l7 a vJ (nn 1) akj B) yK=c (.m (hB g.2),yK):=(xZ (aTz nz (D4 ..)) oy).ah aDK;rw[Bh (A3 (Ae aHy (Ae A_ (Ae Bw oy))))];rfl),mY Cd,m2 (PA n t),mY aaZ,m1 ((e5 _ n++e5 _ t).z≤16384) (qm (by rw[KW,r.hN])),mY aIP,m1 (aU _ _ (.af3 _) _ _=c (qL aRS,yK)) (by rw[m1 (ny pc ph (l7 a vJ (nn 1) akj aNI) yK=c _) nz,mY aJ,rc (pk ta aJ),m1 (j7 yK aP5=c aRS) (by simp only[j7,auV]),mY auZ];simp only[ap.eO,awN,auZ,aIP,fU,ap.ji]),mY agK];have aHY:ny pc (qL (.s (.m 8) (.s (.af3 ph) (.s yl (.s yl (pH yl yl nr)))))) (l7 a vJ (nn 1) akj aNI) yK=c (zO,yK):=aVv (Ae agK (o2 ŧ ŧ (Ae ŧ (o2 ŧ nU oy))));rw[m1 (Ķ aU=c _) (by rw[m1 (ny pc pn (l7 a vJ (nn 1) akj aNI) yK=c _) nz,mY ae3,Qo,ae3,m6 (î (my _ ((a.Ah _).As _).F oW _)=_),Fa,m6 (î (Ķ h0)=_),aST aHY,mW lf]),mY bK,Sv,iO,AO s1,AO ((nM (qn G0) ak8 afG).ah kD),AO Cd,CJ (Dh (A3 (Ae bK (vx nz)))),mW Ny a aS _ _ _ e _];by_cases U:n=B∧t=B;rw[m3 Ai U,mZ aV cC bj c4 lf aaV ahr apt U,oc e];left;exact E1 gO gi.cO _ _ (nv gi.eX e);right;apply E2 gO _ gi.eX;rw[mY bK,mW U (YJ bK)]
abbrev aH.b9(a:aH)(n:u):aH:=oP bs n
def Cf(a:aH)(J:aVT)(n)(ba:n<100000)(o h)(cu:0<h)(ahA:rG h):∃l:u,l<h∧bc T bo pY 68 [Ę,.m h] wb=c (.m l,zq):=Aca (a.b9 n) J ba o h cu ahA
def C9(a:aH):a.b9 a.bs=a:=e
def dI.b9{a}{M}{O}(aF:qG)(n):dI (a.b9 n) M O:=u7 aF.le aF.aS aF.eM aF.ey aF.jX e aF.jW
abbrev al5(g:i_×i_):Prop:=ahb g.1∧ahb g.2
def Fp{a:aH}{n cw}{o h l:u}{cy}{aom}(b:bc T bo o 68 [Ę,.m h] wb=c (.m l,aT0 cw))(br:nX cy aom sc):ny (aA o) (s8 68 aom (.m h)) cy wb=c (.m l,aT0 cw):=zh (o2 (Aj br) nU oy) b
def Xy{a:aH}{cf}{y}{cy}(i)(hg:qh 23 rj)(br:nX cy y wx):oD (aRb aU (on ne (.A y) ţ) cy) (n5 (! i.dD)):=by rw[aQN (Aj br) aTj,m1 (kz a.F w7 wM=c i.dD) (by simp only[kz,jp,abN,acr,kC,aar,r.adn,fU,hg]),m5,aR0 f1 aa]
def FF{O}{cf}{d a5}{Aa}{l}{w a4}(b:uw pg):pU ada (.s d (.s a5 Aa))=ada O cf (.s a5 Aa) l a4:=sg Ls b
def LU{O}{cf}{d a5}{Aa}{l}{w a4}(b:uw oX):o5 (pU ada (.s d (.s a5 Aa))) oX:=sg Ls b
def az5{O}{cf}{d}{l}{w a4}{f:u}(o:u)(b:uw th):o5 (oC (.aX .eq d qw)) (n5 (f==o)):=by refine AX b nU ?_;simp only[f1,kz,jp,abN,acr,kC,aar,r.adn,fU,DN,ap.ji]
def Mc:∀(a:aH)(J:aVT)(b3:aTx)(auq:a.abj=b3.au eV)(acE:∀g∈b3,al5 g)(aB:b3.z<10)(n:u)(ba:n+10<100000)(h:u),∃(g:i_×i_)(cw:u),al5 g∧cw≤n+3∧aOc 2 74 [Ę,w7] wb=c (vJ,aT0 cw):=by rw[ug,mY J];injections b3;intro auq acE aB;injections n;rw[mY ba,aR7];have K:∀n,nX wb 23 (uE b3.au eV):=w5 ((HJ (a.b9 n)).ah (pk (nF aQW) auq));rw[mZ auq,m1 (∀n,lN wb w7=c (b3.au eV)) (w5 (aP4 lN K)),mY acG,m3 Ac (Cf a J n (m4 (oa Ag [n] S 100000 (S+10) 100000 e ba)) h 4 nw nw)];rintro jS eh aV;rw[m1 (dP T n0 (sG 2 (tX È)) [sc,wx,B,B,B] wb=c (na,aRu,zq)) (Bh (Fp (h:=4) aV e)),mY s1];have dw:∀n fJ eN eQ,ny n0 aVF [sc,wx,fJ,eN,eQ] wb=c (n5 (!(b3.au eV).dD),wb):=fun n fJ eN eQ=>Xy _ (K n) e;have auR:∀o:u,∀n eN eQ,ny n0 (ķ qw) [sc,wx,nn jS,eN,eQ] wb=c (n5 (jS==o),wb):=fun o n eN eQ=>az5 o nz;have auS:∀n eN eQ,ny n0 (ķ nr) [sc,wx,nn jS,eN,eQ] wb=c (n5 (jS==0),wb):=fun n eN eQ=>auR 0 n eN eQ;rw[m1 (∀n eN eQ,ny n0 (ķ nG) [sc,wx,nn jS,eN,eQ] wb=c (n5 (jS==1),wb)) (fun n eN eQ=>auR 1 n eN eQ),mY aIi,m1 (∀n eN eQ,ny n0 (ķ uN) [sc,wx,nn jS,eN,eQ] wb=c (n5 (jS==3),wb)) (fun n eN eQ=>auR 3 n eN eQ),mY aIj];simp only[Sw,atC,AO s1];by_cases ak7:jS=0∧qe b3;rw[wH ak7];rintro bf aCn;rw[mZ ak7,m1 ((b3.au eV).dD=Y) (by rw[mZ acE aB K acG dw,aRk b3 aCn]),mY auG,m1 (0<b3.z) (r.avF.2 aCn),mY eb,m3 Ac (Cf a J rU (m4 (oa Ag [n] nm 100000 (S+10) 100000 e ba)) h b3.z eb n_)];rintro q Ab bj;rw[m1 (ny n0 (xM (ķ nr) aVF) aRu zq=c (pg,zq)) (by rw[En,FF ((sF auS).ah (sh bf)),GY,dw,auG];rfl),mY hc,m1 (ny n0 (sW qc) aRu zq=c (.m b3.z,zq)) (by simp only[Dk,Bl];rw[m6 (((lN zq w7).au _)=_),acG];simp),mY ahz];have amP:ny n0 (tX (sW qc)) aRu zq=c (n',z2 (n+2)):=aQY (aST ahz) bj;rw[m1 (pE (z2 (n+2)) w7 n'=c (eV b3[q])) (by rw[Cq _ 23 _ q (K (n+2))];simp[Ab]),mY fo,mX Au (b3[q]) (n+2) (acE _ (r.aij Ab)) (m4 (AJ [n] wK wQ e)) ?_,m1 (ny n0 (x2 (tX (sW qc))) aRu zq=c (eV b3[q],z2 (n+2))) (Bm nz amP fo),mY aIY,CJ (pX D3 hc (CJ (Dh aIY)))];rfl;rw[mZ aB acG,m1 (ny n0 (xM (ķ nr) aVF) aRu zq=c (oX,zq)) (by rw[mZ acE K,nH bf jS 0,m1 (b3=[]) (by rw[mZ dw,oS b3 (by rfl) g b3 (by exact ej ⟨bf,qg⟩ ak7)]),mY aas,En,FF ((sF auS).ah (sh bf)),GY,dw,aas];rfl;rw[m1 ((jS==0)=Y) (o7 bf),mY cG,En,LU ((sF auS).ah (Ĕ cG))]),mY hc,mZ ak7,m3 Ac (Cf a J rU (m4 (oa Ag [n] nm 100000 (S+10) 100000 e ba)) h 486 nw nw)];rintro A_ aH6 bj;rw[m3 Ac (Cf a J (n+2) (m4 (oa Ag [n] wK 100000 (S+10) 100000 e ba)) h 486 nw nw)];rintro Bw aeB cV;rw[m3 Ac (KF (z2 (n+2)) h A_ aH6)];rintro cC ao5 gp;rw[m3 Ac (KF ı h Bw aeB)];rintro c4 au0 ky;rw[m1 (dP T n0 (ts (xM (ķ nr) aVF) (nA (.bu (x2 (tX (sW qc)))))) aRu zq=c (na,aRu,zq)) (pX D2 hc sV),mY BS];have Cd:dP T n0 (sG 3 (aPT 71 (tX (.m 486)))) aRu zq=c (na,[sc,wx,nn jS,aSZ,B],z2 (n+2)):=Bh ((xZ (Fp (h:=486) bj e) oy).ah gp);have aeV:dP T n0 (sG 4 (aPT 71 (tX (.m 486)))) [sc,wx,nn jS,aSZ,B] (z2 (n+2))=c (na,[sc,wx,nn jS,aSZ,c (mG c4)],ı):=Bh ((xZ (Fp (h:=486) cV e) oy).ah ky);(have arx:∃ac:i_,ahb ac∧ny n0 (.bC (xM aVF (ķ nG)) (.aT (x2 (.ju nG)) nr) qx) [sc,wx,nn jS,aSZ,c (mG c4)] ı=c (mG ac,ı):=by rw[nH aas b3 [],mX Ad cC ao5 ?_,m1 (ny n0 (xM aVF (ķ nG)) [sc,wx,nn jS,aSZ,c (mG c4)] ı=c (oX,ı)) (tg En (LU ((ni dw).ah (sh aas)))),mY afB,mW (pX E8 afB (Aj e)),m1 ((b3.au eV).dD=Y) (by rw[mZ acE K dw,aRk b3 aas]),mY auG];(have afB:ny n0 (xM aVF (ķ nG)) [sc,wx,nn jS,aSZ,c (mG c4)] ı=c (n5 (jS==1),ı):=by rw[En,FF ((ni dw).ah (sh auG)),GY,mW (sF aIi)]);induction Q:(jS==1)using N.ae with|Y=>rw[Q]at afB;exact(Ad cC ao5 (pX E8 afB (Aj e)))|G=>rw[Q]at afB;(obtain⟨g,afz⟩:∃g,b3.arj=c g:=by induction hg:b3.arj using ap.ae with|B=>exact ej (r.getLast?_eq_none_iff.1 hg) aas|c g=>exact qS g);rw[m1 (g∈b3) (r.mem_of_getLast? afz),mY aH3,m1 (pE ı w7 us=c vJ) (by rw[m2 (Wr ı (b3.au eV) vJ (qZ r.getLast?_map afz)),nR,mW (Oj (K (n+3))).ah b]),mY fo,mX Ad g.1 ((acE g aH3).1) (pX Go afB ?_),mW (aTz (Bm nz (Iz ..) fo) aR1)]);rw[p4 arx,mZ arx];rintro ac b2 arx;rw[m1 (∃k:i_,ahb k∧ny n0 (.bC (ķ uN) yl p6) [sc,wx,nn jS,aSZ,c (mG c4)] ı=c (mG k,ı)) (by have afB:=aIj (n+3) aSZ (c (mG c4));rw[pI h3 (jS==3) (by rw[h3]at afB;exact(Ad B jC (pX Go afB ŧ))) (by rw[h3]at afB;exact(Ad c4 au0 (pX E8 afB (Aj e))))]),mY arM,p4 arM,mZ arM];rintro k hs arM;rw[mX Au (ac,k) (n+3) ⟨b2,hs⟩ n_ ?_,AO BS,AO Cd,AO aeV,CJ (Dh (A3 (Ae arx (Ae arM oy))))];rfl
def Ce(cf:iV)(w:ch)(fs:aUT)(h:ea)(y:ar)(j:dz)(l:dv)(J:aU T cf j l (w++[qI 1 fs])=c (y,w++[qI 1 fs]))(bf:Ň (tx w.z))(b2:T.abp 1 h=G)(aB:fs.z<200):dP T cf (.dU pn h j) l (w++[qI 1 fs])=c (na,l,w++[.bS 1 aS8]):=by simp only[qn Ep _ y _ 1 _ J (Aj bf) ra b2 aB];simp
def M6(h)(w:ch)(aq5 cA)(cB):bc T bo nB 89 [.D w.z,aq5,cA,og cB] (w++[rv 1])=c (.B,w++[qI 1 [("did",aq5),("kind",cA),("name",og cB),("params",ps),("body",us),("bases",ps),("static",us),vG "extends_class",("abstract",oX),("members",wM),("variances",wM),vG "busy",ź,("file",og ""),vG "nid"]]):=by have aeL:∀w l,ny nT ţ l w=c (wM,w):=fun w l=>aTj;rw[SF,ats,AO (n7 (ni Ce) nz e e nw),zL nz,zL nz,zL ŧ,zL (Iz ..),zL ŧ,zL (Iz ..),zL nU,zL (Fv ..),zL (aeL ..),zL (aeL ..),zL nU,zL nU,zL (DI ..),zL nU,Bg];rfl
abbrev aH.AT(a:aH)(a0:lr):aH:=oP ds (a.ds++[a0])
def T0(o)(i)(a0):ii o (i++[a0])=ii o i++[jM (o+i.z) a0.cA "C" a0.bD a0.mi]:=by induction i generalizing o with|C=>rfl|s f i ih=>simp only[r.aoe,Hp,Hq,ih];rw[show pY+i.z=o+(f::i).z by simp only[r.kZ];exact BI (rV i.z) zr tS e]
def Q7(f h):agd f nB=agd f h++[wk (f+h)]:=by induction h generalizing f with|hf=>rfl|gk h ih=>rw[m2 (ih (f+1)),nR,m6 (ar.D f::m7 agd=(ar.D f::agd _ h)++[vT]),b,rh (f+1+h) (f+nB) (BI [f,h] zr tS e)];rfl
def Z2:∀(a:aH)(Q:a.ca=[])(h2:Û)(a0)(U:aUF)(p:c_),((tD p).b6 4 (.aw (a.l0++[qV]))).b6 qR (jM aWu a0.cA "C" a0.bD [])=(a.AT a0).F:=by rw[ug,mY Q h2];injections a0;intro U;injections p;(have iN:a.gl=16:=y9 aH.gl h2);(have arl:(a.AT a0).gl=16:=by simp[aH.gl,aH.AT,h2]);rw[m1 (a.F=(m7 a.g8.b6)++ii 2 _) (by unfold aH.F;rw[iN,Q,r.afl,aNG (qm (by simp only[Bs]))]),mY aV,m1 ((a.AT a0).F=((a.AT a0).g8.b6 _ (oU a.eM))++(xS++[Ķ jM])) (by rw[aPY,arl,show(a.AT a0).ca=[]from Q,r.afl,aNG (qm (by simp only[Bs])),m6 (_++ii 2 (a.ds++[a0])=_),T0,U];rfl),mY bj,m1 ((a.AT a0).g8=a.g8.b6 4 _) (by unfold aH.g8;rw[iN,arl,m1 ((a.AT a0).l0=a.l0++[qV]) (by simp only[aH.l0,aH.AT,r.gR,r.lF,Q7,r.aoe]),m5,aa];rfl),mY cV];(have aB:(a.g8.b6 16 (oU a.eM)).z=26:=sh r.apv);rw[aV,bj,cV];rw[r.abO,aNG (yo aB)];(have ad3:((a.g8.b6 16 (oU a.eM)).b6 4 (.aw (a.l0++[qV]))).z=26:=nb r.apv aB);rw[m7 r.ake (yo ad3),ad3,show qR-26=qp ii 2 _ by simp only[Ca];exact q2 (Br [qR-26,a.ds.z] S ai (S+26) (26+ai) e) (AJ [qR-26,a.ds.z] 26 (26+ai) e),aQr (m7 r.ake),u.aEM,r.aEz,uh]
def XE:∀(a:aH)(Q:a.ca=[])(h2:Û)(h)(cA:u)(aB:rG a.ds.z),rE 2 1 [oW,.m cA,og "C"]=c (qV,(aOR).b6 4 (.aw (a.l0++[qV]))):=by rw[ug,mY Q h2];injections h cA;rw[mY aB,m1 (a.F.z=qR) (by rw[CI,Q];kernel_rfl!),mY eb];(have adh:a.l0.z=z6:=y9 aH.l0 LN);rw[m1 (ui lN (.D 4)=c a.l0) (aP4 lN CW),mY afD,m1 (∀eN,oD (ny n0 à [nZ,wJ,aSO,eN] a.F) (.D 4)) (fun eN=>aQp),mY a_,m1 (oD (ny n0 (sW à) [nZ,wJ,aSO,B] a.F) (vl z6)) (by rw[Dk,a_,m6 (((ui lN (.D 4)).au _)=_),afD,←adh];rfl),mY ahz];have ak8:oD (h0 T n0 (pH (sW à) qc ph) [nZ,wJ,aSO,B] a.F) [vl z6,.m cA,og "C"]:=Ae ahz aNM;rw[m2 (M6 h a.F (vl z6) (.m cA) "C"),mY Ab,m1 ((c_.bS 1 [sM "did" (ob z6),sM "kind" cA,("name",og "C"),("params",ps),("body",us),("bases",ps),("static",us),vG "extends_class",("abstract",oX),("members",wM),("variances",wM),vG "busy",ź,("file",og ""),vG "nid"])=aT3) (sh (aU3 z6 aWu)),mY ho];rw[ho]at Ab;rw[m1 (ny n0 (.lJ 1 (pH (sW à) qc ph)) [nZ,wJ,aSO,B] a.F=c (qV,aOR)) (by rw[rc (pk ta ak8),ap.eO,m6 (î (aA nB 89 (.D a.F.z::[vl z6,.m cA,og "C"]) (tD (rv 1)))=_),show aA nB 89 (.D a.F.z::[vl z6,.m cA,og "C"]) (tD (rv 1))=_ from Ab,ap.eO,vp];rw[eb]),mY aII];(have aBQ:nX aOR 4 (oU a.l0):=nb (r.jP (nb CI (AJ [a.ds.z,a.ca.z] (4+1) (zg+ai) e))) (CW a));rw[m1 (aU T n0 à [nZ,wJ,aSO,aOp] aOR=c (.D 4,aOR)) (by rw[m1 (gz T aOR oW "decls"=c (.D 4)) (Ba _ 1 0 _ _ _ (nb (r.jP (nb CI (AJ [a.ds.z,a.ca.z] (1+1) (zg+ai) e))) (A1 a)) e e),m5,Di,Bl,m6 ((gz T aOR oW "decls").au _=_),aa];rfl),mY gj];have auA:aU T n0 (.hq à qx) [nZ,wJ,aSO,aOp] aOR=c (.B,(aOR).b6 4 (.aw (a.l0++[qV]))):=nM (p5 (w3 CG n0) 4) a.l0 a.l0 gj aBQ nz aBQ (by rw[adh];simp only[du];exact Ag [a.ds.z] (wK+1) 1048576 nm 1000 e aB);rw[m1 (dP T n0 (sG 3 (.lJ 1 (pH (sW à) qc ph))) [nZ,wJ,aSO,B] a.F=c (na,[nZ,wJ,aSO,aOp],aOR)) (Bh aII),mY s1,A_,aqO,AO s1,AO (BX auA),CJ (Dh (Aj e))];rfl
def fR.AT(a)(a0):fR a (a.AT a0):=⟨aQ2,fun aj jx b=>(Ad jx (by rw[aUf hd,m6 (n9 (a.ds++[a0]) aj jx),r.jP hd,mW b]) e),aQ2⟩
def dI.AT{a}{M}{O}(aF:qG)(a0):dI (a.AT a0) M O:={kh:=aF.kh,eX:=aF.eX,cO:=aF.cO,aS:=aF.aS,eM:=aF.eM,ey:=aF.ey,jX:=aF.jX,fO:=aF.fO,ks:=fun f g y d=>by rw[s3 (aF.ks f g y d) sa bh gd fJ cV,mW Au _ _ (gd.bx (fR.AT a a0)) (fJ.bx (fR.AT a a0)) cV],jW:=aF.jW}
def M7:∀(a:aH)(aF:aPD)(Q:a.ca=[])(h2:Û)(h cA eu:u)(g:i_×i_)(U:al5 g)(fT:Š 600000)(aB:rG a.ds.z),∃(v:u)(ao:oB)(d:aR),rE 5 75 [oW,.m cA,vJ,.m eu]=c (d.aY,(tA ao AT xa).F)∧aTm (tA ao AT xa)∧(aRM a.ak ao)∧ao.z≤a.ak.z+8∧aV1∧d.eu=eu∧d.e7=[]∧nX ao d.v yv∧c1 (tA ao AT xa) d.v (pf d.v d.m0 d.cC d.c4):=by rw[ug,mY aF Q h2];injections h cA eu g;intro U fT aB;rcases(Pe a aF h g U.1 U.2 n_)with(⟨v,fB,n,t,aV,ke,adc,lE,akS,iC,aJg,cC,c4⟩);rw[m2 (XE (a.Ah fB) Q h2 (h+2) cA aB),mY abY];have aCw:s9 fB ds.z=a.ds.z:=e;rw[aCw]at abY;rw[m2 (Z2 (a.Ah fB) Q h2 xa e aT3),mY aCV];rw[aCw]at aCV;have gi:=ke.AT xa;rw[m2 (GG (tA fB AT xa) (h+3) yv gi.kh (by rw[m6 (fB.z<1000000),mW (aNZ a.ak.z fB.z 1000000 600000 ai (S+7) e fT lE)])),mY lf];have avc:(tA fB AT xa).ak=fB:=e;rw[avc]at lf;rw[m3 AC (gi.Ah (sy fB yv) (aQ.bF u0))];rintro aaV aq9 ar1;have ahr:aRM fB (sy fB yv):=aq9;rw[m1 ((sy fB yv).z≤fB.z+1) ar1,mY apt];have cU:(tA fB AT xa).Ah (sy fB yv)=(a.Ah (eL fB yv)).AT xa:=e;rw[cU]at lf aaV;have aCy:nX (sy fB yv) (gG fB yv) yv:=m7 D';rw[m1 (xe (gG fB yv)) (E2 fB _ gi.eX qg),mY iy,mX Ug v (sy fB yv) (.mk (gG fB yv) vI (hB g.1) (hB g.2) eu []) ?_ aaV (fun q l b=>ahr q l (adc q l b)) (m4 (Am (aR2 fB.z (sy fB (a9.bI z6)).z) a8 (S+8) ai (S+7) a8 nN e lE apt)) (akS.ah (m7 Dl (fun n b=>Æ))) e e aCy ?_];have aJl:dP T wL (.acf [4,5] (s8 73 0 ph)) [nZ,wJ,xm,aQc,B,B,B] a.F=c (na,[nZ,wJ,xm,aQc,pZ,aNI,B],ċ fB):=ni (oM G1 T) _ (zh aNM aV) e;have amP:dP T wL (sG 6 (.bp 1 (pH pn qc (og "C")))) [nZ,wJ,xm,aQc,pZ,aNI,B] (ċ fB)=c (na,[nZ,wJ,xm,aQc,pZ,aNI,aOp],(ċ fB++[aT3]).b6 4 (.aw (s9 fB l0++[qV]))):=Bh ((xZ nz (z7 (DI ..))).ah abY);(have eb:s9 fB F.z=qR:=qZ CI (show s9 fB ca=[]from Q));rw[m1 (nX ((ċ fB++[aT3]).b6 4 (.aw (s9 fB l0++[qV]))) qR aT3) (by rw[r.agx (m4 (yQ (Ag [a.ds.z] 1 0 zg 4 e (AN dO)))),r.aih (yo eb),eb,u.aEM];rfl),mY au6,m1 (dP T wL (.dU sw "body" p6) [nZ,wJ,xm,aQc,pZ,aNI,aOp] ((ċ fB++[aT3]).b6 4 (.aw (s9 fB l0++[qV])))=c (na,[nZ,wJ,xm,aQc,pZ,aNI,aOp],aQb)) (by rw[ni (w3 Ep wL) _ oF qR 1 _ nz nz au6 e qg];rw[←aCV];rfl),mY afH,m1 (n9 (tA fB AT xa).ds a.ds.z xa) (by rw[m6 ((a.ds++[(xa:lr)])[a.ds.z]?=_)];simp),mY aIa,m1 (rm (gz T aQb qV "did") (ob aWu)) (p5 Ba 1 _ _ (n7 EZ aIa) e e),mY aIc,m1 (ny wL (ī sw "did") [nZ,wJ,xm,aQc,pZ,aNI,aOp] aQb=c (vl z6,aQb)) (by simp only[Di,Bl];rw[m6 ((gz T aQb qV "did").au _=_),aIc,aU3 aWu z6];rfl),mY aId];(have bK:ny wL (.eT pn "put" (nA (qL (pH É (ī sw "did") yl)))) [nZ,wJ,xm,aQc,pZ,aNI,aOp] aQb=c (pe (gG fB yv),((a.Ah (eL fB yv)).AT xa).F):=by rw[m1 (ny wL pn [nZ,wJ,xm,aQc,pZ,aNI,aOp] aQb=c (oW,aQb)) nz,mY ae3,Qo,ae3,m6 (î (my T aQb oW "put")=_),Fa,m6 (î (h0 T wL _ _ _)=_),vx (aVv (Ae aId (vx ŧ))),mW lf]);rw[Sx,atD,AO aJl,AO amP,AO afH,CJ (Dh (A3 (Ae bK (Ae nz (z7 ŧ)))))];rfl;rw[mX .bI _ a.ds.z xa n t _ _ aCy iy ?_ (nv ahr iC) aJg (cC.bx ahr) (c4.bx ahr),m6 ((a.ds++[(xa:lr)])[a.ds.z]?=_)];simp
structure aky(a:aH)(b3:aTx)(al:n1)(aD:nL)(o:u):Prop where
 aF:aPD
 ca:a.ca=[]
 Ap:Û
 xs:aVT
 adN:a.abj=b3.au eV
 fQ:aN9
 eY:a.lZ=aD.au aR.aY
 jK:b3.z=o
 ul:al.z=o
 adQ:aD.z=o
 dl:a.ds.z=o
 adO:∀g∈b3,al5 g
 up:∀(aq:u)(aP:R),p7 al aP→aP<aq∧-1≤aP
 cl:∀(aq:u)(d:aR),p7 aD d→q_ d.v (z5 (aq+2))∧d.eu=xk∧d.e7=[]∧sl d.v (pf d.v d.m0 d.cC d.c4)
 aap:∀(aq:u)(a0:lr),p7 a.ds a0→a0.cA=1∧aUF
 cc:a.c2=0
 eo:a.e4=0
 abB:Ú
 bd:a.dK=[]∧a.iL=[]∧a.bw=[]∧a.xs.z≤63
 bN:a.bs≤20*o+1
 np:∀(q n:u),rS a.ak≠c v4
 gT:a.ak.z≤16+8*o
abbrev aH.iI(a:aH)(i:nC):aH:=oP abj i
abbrev aH.aqb(a:aH)(i:nC):aH:=oP fQ i
abbrev aH.asF(a:aH)(i:nC):aH:=oP lZ i
def AaE(a:aH)(i):tI 23 rj=(a.iI i).F:=AaD a i
def AaG(a:aH)(i):tI 24 rj=(a.aqb i).F:=AaF a i
def AaI(a:aH)(i):tI 25 rj=(a.asF i).F:=AaH a i
def KC{cg:Type}(ac:cg→ar)(i)(j):i.au ac++[ac j]=(i++[j]).au ac:=ra
abbrev asJ:cx:=oo aqN (.s _ (ġ (nv .mn g))) g .C
abbrev lR(fe fi kL:pl):dv:=[sc,nZ,wx,xb,tx 25,fe,fi,kL,B]
def sub_int{O}{cf}{d}{l}{w a4}{f}(o)(b:uw th):o5 (oC (.dM .eZ d qw)) (pe (f-o)):=B7 b nU e
def ath{O}{cf}{d}{l}{w a4}{f}(o)(b:uw th):o5 (oC (.dM .e_ d qw)) (pe (f+o)):=B7 b nU e
def Ac1:∀(a:aH)(b3:aTx)(al:n1)(aD:nL)(o:u)(V:aky a b3 al aD o)(aG:o<4)(h:u)(fi kL:pl),∃z' asP atb asQ adE ag1,f0 T oR asJ (lR tE fi kL) a.F=c (na,lR tE adE ag1,z'.F)∧aky z' asP atb asQ pY:=by injections a b3 al aD o;rw[mY V aG,yb fi kL];have kW:=V.bN;have fT:=V.gT;(have aB3:b3.z<10:=nb V.jK (Ĺ aG));rw[nD (Cf a V.xs a.bs (aPs (wX a.bs 100000 ys) (qQ 20 4) (su 20+1)) wI pY (m4 (u.awB _)) (m4 (Ag ub (nm+1) 1000 nm 4 e aG))) l br aV,aVL];have arN:ny oR (rk eZ (tX (aQZ za)) nG) (lR tE fi kL) a.F=c (pe uK,u1):=sub_int 1 (zh (z7 (ath 1 nz)) aV);rw[m1 (dP T oR (sG 6 (rk eZ (tX (aQZ za)) nG)) (lR tE fi kL) a.F=c (na,lR tE (w6 uK) kL,u1)) (Bh arN),mY s1];(have agC:∃(g:i_×i_)(cw:u),al5 g∧cw≤a.bs+6∧dP T oR (.bC (on lt sw nr) (nA (sG 7 (s8 74 0 ph))) (.s (sG 7 (r_ 2 sw)) (nA (ts (on eq (tX rn) nG) (nA (sG 7 (qL (.s (rq 7) (nA (aPT 71 (tX (.m 486)))))))))))) (lR tE (w6 uK) kL) u1=c (na,aRL xm,aT0 cw):=by have aeC:ny oR (on lt sw nr) (lR tE (w6 uK) kL) u1=c (n5 (b1 (uK<0)),u1):=uB;rw[nH bf l 0,m3 At (Mc a V.xs b3 V.adN V.adO aB3 wp (aPs (t5 (rV a.bs) (nN+10) 100000 ys) (qQ 20 4) (su 20+1)) (h+3)),mY g cw U dg bj,mX Au g cw U (m4 (yw Ag [a.bs,cw] (S+6) (nm+3) e dg)) ?_,m1 (b1 (uK<0)=G) (aP8 (A4 [↑l] (b5-1+1) 0 b5 0 e (Bb (Az bf)))),mY hd];rw[hd]at aeC;rw[D3 aeC,AO (Bh ((AW aNM).ah bj)),Bg];rfl;(replace hd:b1 (uK<0)=Y:=aP8 (aOi (u.ahT bf)));rw[hd]at aeC;(have aCX:l-1<b3.z:=nb V.jK (t5 [o,l,l-1] a8 S nN nm (a8+1) ai e br (q2 Az (aQG [o,l,l-1] ai 0 ai e (u.ahT bf)))));rw[m1 (pE u1 w7 (pe uK)=c (eV aVU)) (by rw[m1 (nX u1 23 (uE b3.au eV)) ((HJ (a.b9 wp)).ah (pk (nF aQW) V.adN)),mY K,rh uK (ob (l-1)) (ww Pa bf),Cq _ 23 _ _ K];simp[aCX]),mY fo];have t1:dP T oR (sG 7 (r_ 2 sw)) (lR tE (w6 uK) kL) u1=c (na,aRL (c (eV aVU)),u1):=Bh (Bm nz nz fo);rw[m3 Ac (Cf a V.xs wp (aPs (t5 (rV a.bs) nN 100000 ys) (qQ 20 4) (su 20+1)) wI 2 nw nw),mY t cG bj];have aeB:ny oR (on eq (tX rn) nG) (aRL (c (eV aVU))) u1=c (n5 (t==1),z2 (a.bs+2)):=az5 1 (Fp (h:=2) bj e);have ahv:=V.adO _ (r.aij aCX);rw[pI au8 (t==1) (by rw[au8]at aeB;rw[nD (Cf a V.xs (a.bs+2) (aPs (t5 (rV a.bs) (ai+2) 100000 ys) (qQ 20 4) (su 20+1)) wI 486 nw nw) x hc cV,nD (KF (z2 (a.bs+3)) wI x hc) H bK gp,mX Au ((aVU).1,H) (a.bs+3) ⟨ahv.1,bK⟩ (m4 (AJ [a.bs] wQ (S+6) e)) ?_];have d2:dP T oR (sG 7 (qL (.s (rq 7) (nA (aPT 71 (tX (.m 486))))))) (aRL (c (eV aVU))) (z2 (a.bs+2))=c (na,aRL (c (eV ((aVU).1,H))),z2 (a.bs+3)):=Bh (A3 (o2 (aTz nz aR1) ((xZ (Fp (h:=486) cV e) oy).ah gp) oy));rw[D2 aeC,AO t1,AO (pX D3 aeB (pX AO d2 sV)),Bg]) (by rw[au8]at aeB;rw[mX Au aVU (a.bs+2) ahv (m4 (AJ [a.bs] wK (S+6) e)) ?_,D2 aeC,AO t1,AO (pX D2 aeB sV),Bg])]);rw[m3 At agC,mZ agC,mY g cw U dg agC];have aBR:nX (aT0 cw) 23 (uE b3.au eV):=(HJ (a.b9 cw)).ah (pk (nF aQW) V.adN);rw[m1 (ny oR (aOW 2 uj) (aRL xm) (aT0 cw)=c (.B,(aWm).F)) (by rw[ni (p5 (w3 CG oR) 23) nz aBR nz aBR (by simp[du];exact Ĺ aB3),KC,AaE]),mY a1];have aBT:nX ((aWm).F) 24 (uE al.au .m):=pX HK _ (pk (nF aQW) V.fQ);rw[m1 (aU T oR (aOW 3 sw) (aRL xm) ((aWm).F)=c (.B,((aWm).aqb ((al++[uK]).au .m)).F)) (by rw[ni (p5 (w3 CG oR) 24) nz aBT nz aBT (by simp[du,V.ul];exact Ĺ aG),KC,AaG]),mY a2,m1 (aTm ((aWm).aqb ((al++[uK]).au .m))) (V.aF.le e e e e V.aF.aS V.aF.eM V.aF.ey V.aF.jX e V.aF.jW),mY gi,mX Nt (M7 _ gi V.ca V.Ap h 1 pY g U (yh (Š 600000) (wX a.ak.z 600000 ys (qQ 20 4) ai (rg 16 8) e (AM 20 aG) fT)) (by rw[m6 (rG a.ds.z),V.dl,mW (Ĺ aG)])) fun v ao d i0 aaV aaW c9 aoH ep at6 aoy auf=>?_,m1 (nX (((aWm).aqb ((al++[uK]).au .m)).F) 25 (Ć aD.au)) (pX EY _ (pk (nF aQW) V.eY)),mY aun];generalize ad5:((aWm).aqb ((al++[uK]).au .m))=bz at*;(have aw2:bz.ak=a.ak:=by rw[y6];rfl);(have aw1:bz.ds=a.ds:=by rw[y6];rfl);rw[m1 (nX ((bz.Ah ao).AT ⟨1,v,[]⟩).F 25 (Ć aD.au)) (pX EY _ (cr (nF aQW) (by rw[m6 (bz.lZ=_),y6,mW V.eY]))),mY aHt,m1 (ny oR (aOW 4 (.bp 75 (.s (.A 1) (pH nG uj (aQZ za))))) (aRL xm) bz.F=c (.B,(((bz.Ah ao).AT ⟨1,v,[]⟩).asF ((aD++[d]).au aR.aY)).F)) (by(replace hc:ny oR (.bp 75 (.s (.A 1) (pH nG uj (aQZ za)))) (aRL xm) bz.F=c (d.aY,((bz.Ah ao).AT ⟨1,v,[]⟩).F):=by rw[m3 ack.ah (AW (o2 nz nU (z7 (ath 1 nz)))),mW i0]);rw[ni (p5 (w3 CG oR) 25) nz aun hc aHt (by simp[du,V.adQ];exact Ĺ aG),KC,AaI]),mY a3,mX Hx (((bz.Ah ao).AT ⟨1,v,[]⟩).asF ((aD++[d]).au aR.aY)) (b3++[g]) (al++[uK]) (aD++[d]) (w6 uK) xm ?_ ?_,m1 (asJ=.s (sG 6 (rk eZ (tX (aQZ za)) nG)) (.s (.bC (on lt sw nr) (nA (sG 7 (s8 74 0 ph))) (.s (sG 7 (r_ 2 sw)) (nA (ts (on eq (tX rn) nG) (nA (sG 7 (qL (.s (rq 7) (nA (aPT 71 (tX (.m 486)))))))))))) (pH (.f_ (aOW 2 uj)) (.f_ (aOW 3 sw)) (.f_ (aOW 4 (.bp 75 (.s (.A 1) (pH nG uj (aQZ za))))))))) e,mY iO,DM,iO,AO s1,AO agC,AO (BX a1),AO (BX a2),AO (BX a3),Bg,m1 (fR a bz) (fp (Ĕ aw2) aw1 (by rw[y6];rfl)),mY mK,m1 (fR bz ((bz.Ah ao).AT ⟨1,v,[]⟩)) ((GM bz ao aaW).ah (m7 fR.AT)),mY amU];have aCJ:fR ((bz.Ah ao).AT ⟨1,v,[]⟩) (((bz.Ah ao).AT ⟨1,v,[]⟩).asF ((aD++[d]).au aR.aY)):=tW;have b7:=(mK.ah amU).ah aCJ;(have aFi:bz.ds.z=o:=tg aw1 V.dl);exact{aF:=u7 aaV.le aaV.aS aaV.eM aaV.ey aaV.jX e aaV.jW,ca:=by rw[m6 (bz.ca=[]),y6,mW V.ca],Ap:=by rw[m6 (bz.Ap=0),y6,mW V.Ap],xs:=by rw[m6 (∃cL:n1,bz.xs=cL.au .m),y6,mW V.xs],adN:=by rw[m6 (bz.abj=_),y6];rfl,fQ:=by rw[m6 (bz.fQ=_),y6];rfl,eY:=e,jK:=qZ r.gR V.jK,ul:=qZ r.gR V.ul,adQ:=qZ r.gR V.adQ,dl:=by rw[m6 ((bz.ds++[_]).z=_),r.gR,aFi];rfl,adO:=fun j J=>by rw[nt (r.aeP.1 J),ya,m9,ya,m8,mW (pa V.adO),aQK,mW U],up:=fun aq aP cQ=>by by_cases adk:aq<al.z;rw[r.jP adk]at cQ;rw[mW V.up aq aP cQ,m1 (aq=al.z) (by rw[u8 b cQ,sB r.gR r.lF,mW (y' (Ag [al.z,aq] ai S nN nm e b) (Ag [al.z,aq] S ai S ai e (x8 adk)))]),mY alc,mZ adk];subst alc;rw[aOl r.akW cQ];subst cQ;rw[V.ul,mW Ym br],cl:=fun aq j cQ=>by by_cases adk:aq<aD.z;rw[r.jP adk]at cQ;rw[yr (V.cl aq j cQ) d6 da fC ahU,mW By (ĥ d6) da fC (ahU.bx b7),m1 (aq=aD.z) (by rw[u8 b cQ,sB r.gR r.lF,mW (y' (Ag [aD.z,aq] ai S nN nm e b) (Ag [aD.z,aq] S ai S ai e (x8 adk)))]),mY alc,mZ adk];subst alc;rw[aOl r.akW cQ];subst cQ;rw[V.adQ];rw[aFi]at aoy;exact(By aoy ep at6 (auf.bx aCJ)),aap:=fun aq a0 cQ=>by(have adj:p7 (a.ds++[(⟨1,v,[]⟩:lr)]) a0:=uq aw1 cQ);clear cQ;by_cases adk:aq<a.ds.z;rw[r.jP adk]at adj;rw[mW V.aap aq a0 adj,m1 (aq=a.ds.z) (by rw[u8 b adj,sB r.gR r.lF,mW (y' (Ag [a.ds.z,aq] ai S nN nm e b) (Ag [a.ds.z,aq] S ai S ai e (x8 adk)))]),mY alc,mZ adk];subst alc;rw[aOl r.akW adj];subst adj;exact zm,cc:=by rw[m6 (bz.c2=0),y6,mW V.cc],eo:=by rw[m6 (bz.e4=0),y6,mW V.eo],abB:=by rw[m6 (bz.gU=[]),y6,mW V.abB],bd:=by rw[m6 (bz.dK=[]∧bz.iL=[]∧bz.bw=[]∧bz.xs.z≤63),y6,mW V.bd],bN:=by rw[m6 (bz.bs≤_),y6,m6 (cw≤_),mW Am [o,a.bs,cw] a8 (ys+1) ai (su 20+1) a8 (ai+6) e kW dg],np:=fun q n b=>by rw[m2 (aoH q n b),m5,o6 aw2,mW V.np q n aa],gT:=by rw[m6 (ao.z≤_)];rw[aw2]at c9;exact Am [o,a.ak.z,ao.z] a8 (16+(vc 8)) ai (rg 16 8) a8 (ai+8) e fT c9}
def AcZ(h):∀(H o)(a)(b3)(al)(aD)(fe fi kL),aky a b3 al aD o→o+H≤4→∃z' asP atb asQ akk adE ag1,fZ (ó oR asJ) 5 B (k5 uQ 1 H) (lR fe fi kL) a.F=c (na,lR akk adE ag1,z'.F)∧aky z' asP atb asQ (o+H):=by intro H;induction H with|hf=>rw[mY o a b3 al aD fe fi kL V _,mW ⟨a,b3,al,aD,fe,fi,kL,Ĝ,V⟩]|gk H ih=>rw[mY o a b3 al aD fe fi kL V aG,mX HE (Ac1 a b3 al aD o V (m4 (Ag (rV H) (S+1) 4 tS 4 e aG)) h fi kL) fun z1 aFr aGg aFs adE ag1 Q h2=>?_,mX F7 (ih pY z1 aFr aGg aFs tE adE ag1 h2 (m4 (Ag (rV H) zr 4 tS 4 e aG))) fun bz aMb aMC aMc x5 cp cZ h3 h4=>?_,mX (ni Nf x5 cp cZ ?_ (nb (rh (o+(H+1)) (pY+H) (BI (rV H) tS zr e)) h4)),GJ,mW (zt Q).ah h3]
structure akx(a:aH)(al:n1)(aD:nL)(b3:aTx)(bV:aR):Prop where
 aF:aPD
 Ap:Û
 xs:aVT
 adN:a.abj=b3.au eV
 fQ:aN9
 eY:a.lZ=aD.au aR.aY
 ul:xf 1
 anx:vB
 jK:b3.z=al.z
 adQ:aD.z=al.z
 dl:a.ds.z=al.z+1
 adO:∀g∈b3,al5 g
 cl:∀(aq:u)(d:aR),p7 aD d→q_ d.v (z5 (aq+2))∧d.eu=xk∧d.e7=[]∧sl d.v (pf d.v d.m0 d.cC d.c4)
 AV:q_ bV.v (z5 (al.z+2))∧bV.eu=0∧bV.e7=[]∧sl bV.v (pf bV.v bV.m0 bV.cC bV.c4)
 aap:∀(aq:u)(a0:lr),p7 a.ds a0→aUF∧(aUU→a0.cA=1)∧(aq=al.z→a0.cA=2)
 cc:a.c2=0
 eo:a.e4=0
 abB:Ú
def Ac0:∀(adH:ch)(gm:aH)(air:adH.z=23)(aDc:adH++[aTZ,aTZ,aTZ]=gm.F)(aaM:aky gm [] [] [] 0)(De:gm.bs=0)(h:u),∃a al aD b3 bV,oD (aOc 6 76 [Ę,oW] adH) xd∧akx a al aD b3 bV∧a.ca=[]∧(a.dK=[]∧a.iL=[]∧a.bw=[]∧a.xs.z≤63)∧a.bs≤100∧(∀(q n:u),rS a.ak≠c v4)∧a.ak.z≤60:=by rw[mY adH gm,mY air aDc aaM De,mY h,m1 (gm.bs≤1) aaM.bN,mY aIR,m1 (∀l,ny oR ň l adH=c (w7,aU8)) (fun l=>by rw[C7,Ar,m6 (c (ar.D adH.z,_)=_),air]),mY g1,m1 (∀l,aU T oR ň l aU8=c (xW,z9 aU8)) (fun l=>by rw[C7,Ar,m6 (c (ar.D (aU8).z,_)=_),r.gR,air];rfl),mY gW];(have kI:∀l,aU T oR ň l (z9 aU8)=c (wq,gm.F):=fun l=>by rw[C7,Ar,m6 (c (ar.D (z9 aU8).z,z9 (z9 aU8))=_),r.gR,r.gR,air,←aDc];simp);have s1:dP T oR (.acf [2,3,4] (qL (pH ň ň ň))) [sc,nZ,B,B,B,B,B,B,B] adH=c (na,lR B B B,gm.F):=ni (oM G1 T) _ (A3 (Ae (g1 _) (o2 (gW _) (kI _) oy))) e;rw[nD (Cf gm aaM.xs gm.bs (m4 (aUO aIR)) wI 4 nw nw) l br aV,aVL];have jm:aky (gm.b9 (gm.bs+1)) [] [] [] 0:={aF:=aaM.aF.b9 _,ca:=aaM.ca,Ap:=aaM.Ap,xs:=aaM.xs,adN:=aaM.adN,fQ:=aaM.fQ,eY:=aaM.eY,jK:=e,ul:=e,adQ:=e,dl:=aaM.dl,adO:=aaM.adO,up:=aaM.up,cl:=fun aq d b=>by rw[Ē],aap:=aaM.aap,cc:=aaM.cc,eo:=aaM.eo,abB:=aaM.abB,bd:=aaM.bd,bN:=by rw[m6 (gm.bs+1≤_),mW Ag [gm.bs] nm (qQ 20 0+1) S 0 e (Az De)],np:=aaM.np,gT:=aaM.gT};refine F7 (AcZ h (l+1) 0 (gm.b9 (gm.bs+1)) [] [] [] B B B jm (m4 (Ag [l] (0+nm) 4 nm 4 e br))) fun z1 b3 al aD x5 cp cZ kD V=>?_;simp only[u.aaa]at V;rw[m1 (h0 T oR (nA (rk e_ nG (tX È))) (lR B B B) gm.F=c ([vl (l+1)],(gm.b9 (gm.bs+1)).F)) (by rw[mX (vx (B7 nU (nI Fp h 4 n gm.bs (nb C9 aV) e) ?_)),m6 (c (ar.m (1+nc l))=_),rh (xp+nc l) (ob (l+1)) (R.amp 1 _)]),mY ak8];have kW:=V.bN;have fT:=V.gT;rw[m1 (0<b3.z) (nb V.jK (u.awB _)),mY aHB,m1 (b3.z<10) (nb V.jK (Ag [l] (nm+1) 10 nm 4 e br)),mY aHC,nD (Cf z1 V.xs z1.bs (m4 (t5 [l,z1.bs] ai 100000 ys (qQ 20 4) ai (ys+1) e (AM 20 br) kW)) wI b3.z aHB (m4 (Ĺ aHC))) q Ab bj];simp only[C9]at bj;have K:∀n,nX (z1.b9 n).F 23 (uE b3.au eV):=w5 ((HJ (z1.b9 n)).ah (pk (nF aQW) V.adN));rw[m1 (ny oR (sW ph) (s5 lR) z1.F=c (.m b3.z,z1.F)) (by rw[m1 (lN z1.F w7=c (b3.au eV)) (K7 (K z1.bs)),mY hs,Dk,Bl,m6 (((lN z1.F w7).au _)=_),hs];simp),mY ahz,m1 (pE (z1.b9 (z1.bs+1)).F w7 n'=c (eV b3[q])) (by rw[Cq _ 23 _ q (K _)];simp[Ab]),mY fo];have aH2:ny oR (r_ 2 (tX (sW ph))) (s5 lR) z1.F=c (eV b3[q],(z1.b9 (z1.bs+1)).F):=Bm nz (aQY (aST ahz) bj) fo;refine Nt (M7 (z1.b9 (z1.bs+1)) (V.aF.b9 _) V.ca V.Ap h 2 0 b3[q] (V.adO _ (r.aij Ab)) (yh (z1.ak.z<600000) (t5 [l,z1.ak.z] ai 600000 ys (qQ 20 4) ai (16+(vc 8)) e (AM 20 br) fT)) (by rw[m6 (rG z1.ds.z),V.dl,mW Ag [l] (nm+1) 1000 nm 4 e br])) fun v ao bV i0 aaV aaW c9 aoH ep at6 aoy auf=>?_;have aIk:ny oR (.bp 75 (.s qc (.s rn (.s (r_ 2 (tX (sW ph))) (nA nr))))) (s5 lR) z1.F=c (bV.aY,(((z1.b9 (z1.bs+1)).Ah ao).AT ⟨2,v,[]⟩).F):=zh (o2 nz nU (Ae aH2 (vx nU))) i0;rw[m1 (aqN=.s (.acf [2,3,4] (qL (pH ň ň ň))) (.s (.mn 5 (nA (rk e_ nG (tX È))) asJ) (.s (sG 8 (.bp 75 (.s (.A 1) (pH rn (r_ 2 (tX (sW ph))) nr)))) (nA (.bu (qL (.s (.A 4) (pH qx ph (.A 8))))))))) e,mY iO];have b7:fR z1 (((z1.b9 (z1.bs+1)).Ah ao).AT ⟨2,v,[]⟩):=((tW:fR z1 (z1.b9 (z1.bs+1))).ah (GM _ ao aaW)).ah (m7 fR.AT);rw[mX (aRt Ne (((z1.b9 (z1.bs+1)).Ah ao).AT ⟨2,v,[]⟩) bV ?_ ?_ V.ca V.bd ?_ (fun q n b=>V.np q n (aoH q n b)) ?_),Sy,iO,AO s1,AO ((nM (qn G0) ak8 (Fk (l+1) (m4 (Ag [l] (nm+1) 2000 nm 4 e br)))).ah kD),AO (Bh aIk),CJ (Dh (A3 (o2 nz nz aNM)))];rfl;have abZ:=V.ul;have adh:z1.ds.z=l+1:=V.dl;rw[mW {aF:=aaV,Ap:=V.Ap,xs:=V.xs,adN:=V.adN,fQ:=V.fQ,eY:=V.eY,ul:=m4 (Ag [l,al.z] 1 ai nm ai e (AN abZ)),anx:=⟨m4 (Am [l,al.z] ai 4 nm 4 ai nm e br (Az abZ)),V.up⟩,jK:=tg V.jK V.ul,adQ:=tg V.adQ V.ul,dl:=by rw[m6 ((z1.ds++[_]).z=_),r.gR,adh,abZ];rfl,adO:=V.adO,cl:=fun aq d b=>by rw[yr (V.cl aq d b) d6 da fC ahU,mW By (ĥ d6) da fC (ahU.bx b7)],AV:=by rw[m1 ((z1.b9 (z1.bs+1)).ds.z=al.z) (by rw[m6 (z1.ds.z=_),mW OB [l,al.z,z1.ds.z] a8 ai nm ai a8 nm e abZ.cq adh]),mY h'];rw[h']at aoy;exact(By aoy ep at6 auf),aap:=fun aq a0 cQ=>by have adj:p7 (z1.ds++[(⟨2,v,[]⟩:lr)]) a0:=cQ;clear cQ;by_cases adk:aq<z1.ds.z;rw[r.jP adk]at adj;rw[ot (V.aap aq a0 adj) d6 da,mW AE da (nO d6) (oE n_),m1 (aq=z1.ds.z) (by rw[u8 b adj,sB r.gR r.lF,mW (y' (Ag [z1.ds.z,aq] ai S nN nm e b) (Ag [z1.ds.z,aq] S ai S ai e (x8 adk)))]),mY alc,mZ adk];subst alc;rw[aOl r.akW adj];subst adj;exact(AE e (oE n_) (nO e)),cc:=V.cc,eo:=V.eo,abB:=V.abB},m6 (z1.bs+1≤100),mW (t5 [l,z1.bs] ai 100 ys (qQ 20 4) ai (ys+1) e (AM 20 br) kW),m1 ((z1.b9 (z1.bs+1)).ak.z=z1.ak.z) e,m5,m6 (ao.z≤60),mW Yn br fT c9]
def Lj(a:aH)(b:Û)(aq):a.F[aN0]?=Ä a.ca:=by rw[m1 (a.gl=16) (by simp[aH.gl,b]),mY iN,aPY,iN,r.agx (m4 (yQ (Ag [a.ds.z,aq] 1 0 (zg+ai) 16 e (AN dO)))),r.aih (by simp[Bs,Ca]),uh,aUb Bs Ca,mW (q2 (Br [aN0-qR,aq,a.ds.z] S ai (S+Ĥ) (Ĥ+ai) e) (AJ [aN0-qR,aq,a.ds.z] Ĥ (Ĥ+ai) e))]
def Acg:∀(a:aH)(b:Û)(aq)(p),a.F.b6 aN0 p=aH.F (oP ca (a.ca.b6 aq p)):=by rw[mY a,nR,mY aq p,m1 (a.gl=16) (y9 aH.gl b),mY iN,m1 (aH.gl (oP ca (a.ca.b6 aq p))=16) (by simp[aH.gl,b]),mY arl,aPY,iN,arl,m7 r.awi (m4 (yQ (Ag [a.ds.z,aq] 1 0 (zg+ai) 16 e (AN dO)))),m7 r.ake (by simp[Bs,Ca]),m1 (aN0-(a.g8++ii 2 _).z=aq) (by rw[aUb Bs Ca,mW (q2 (Br [aN0-qR,aq,a.ds.z] S ai (S+Ĥ) (Ĥ+ai) e) (AJ [aN0-qR,aq,a.ds.z] Ĥ (Ĥ+ai) e))]),p0,d];rfl
abbrev iI:sf u|0=>17|pY=>19*2^o
structure j_(a:aH)(al:n1)(W:nL)(d:aR)(am:u):Prop where
 dT:vy
 Av:zy d
 aaG:xf d.eu
 eo:d.eo≤am+2
 An:sd d.v≤4+2*am
 dh:v5 d.v≤iI am
 eZ:oG d.e7 (j∈W∨j.v=1)
def Lp(am):17≤iI am:=by rw[uL am (by decide) o (by rw[m1 (1≤2^o) u.one_le_two_pow,m5,m6 (17≤19*2^o),mW Ag [2^o] 17 (tB S) (tB 1) (tB S) e (AM 19 aa)])]
def j_.bx{a z'}{al}{W ahf}{d}{am}(b:j_ a al W d am)(b7:yy)(aG:yV o a0 (yU o→∃jx,zd z'.ds jx∧jx.cA=a0.cA))(ew:oG W (j∈ahf)):j_ z' al ahf d am:=have y:=b.dT.A'.1;have aV:=Be (y.bx b7);{dT:=b.dT.bx b7,Av:=b.Av.bx b7 aG,aaG:=b.aaG,eo:=b.eo,An:=nb aV b.An,dh:=nb aV b.dh,eZ:=fun j J=>by rw[nt (pa b.eZ),oe,m9,oe,m8,mW aQ.bT (ew j b),mW aUp]}
def DK(a)(al)(W)(am v f g x Av)(y:sl v (pf v f g x))(aaZ:aag a al (q' v f g x Av []))(aIO:xf Av):j_ a al W (q' v f g x Av []) am:={dT:=.cl v f g x Av y,Av:=aaZ,aaG:=aIO,eo:=qg,An:=by simp only[aR.v,Be y,Ci,Cj,Ck];split<;>omega,dh:=by rw[m2 (Lp am),m5];simp only[aR.v,Be y,EA,EB,EC];omega,eZ:=fun j J=>by cases J}
structure hi(a:aH)(al:n1)(aD:nL)(b3:aTx)(bV:aR)(W:nL)(o:u):Prop where
 eg:akx a al aD b3 bV
 ca:∃g9,a.ca=v9::g9
 aca:∀(q n:u),pO a.ak v4→n<a.dK.z
 jK:a.dK.z≤o
 ac8:a.iL.z≤o
 adr:a.bw.z≤o
 bN:a.bs≤100+20*o
 gT:a.ak.z≤60+10*o
 hx:∀(q:u)(d:aR),op W d→j_ a al W d q
 cO:(W.au aR.v).fF
 Av:W.z≤o
def akx.bx{a z'}{al}{aD}{b3}{bV}(V:akx a al aD b3 bV)(aF:dI z' [] [])(b7:yy)(Q:z'.Ap=a.Ap)(h2:z'.xs=a.xs)(h3:z'.abj=a.abj)(h4:z'.fQ=a.fQ)(h5:z'.lZ=a.lZ)(h6:z'.ds=a.ds)(h7:z'.c2=a.c2)(h8:z'.e4=a.e4)(h9:z'.gU=a.gU):akx z' al aD b3 bV:={aF:=aF,Ap:=Q.ah V.Ap,xs:=nb h2 V.xs,adN:=h3.ah V.adN,fQ:=h4.ah V.fQ,eY:=h5.ah V.eY,ul:=V.ul,anx:=V.anx,jK:=V.jK,adQ:=V.adQ,dl:=nb h6 V.dl,adO:=V.adO,cl:=fun aq d b=>by rw[yr (V.cl aq d b) d6 da fC ahU,mW By (ĥ d6) da fC (ahU.bx b7)],AV:=(By (ĥ V.AV.1) (nj V.AV) (oj V.AV) ((Ċ V.AV).bx b7)),aap:=nb h6 V.aap,cc:=h7.ah V.cc,eo:=h8.ah V.eo,abB:=h9.ah V.abB}
def LJ:∀{a}{al}{aD}{b3}{bV}(V:akx a al aD b3 bV)(aq:u)(d)(b:p7 aD d),zy d∧xf d.eu:=by rw[mY a al aD b3 bV,mY V,mY aq d,mY b,yr (V.cl aq d b) d6 da fC ahU,aUf cQ];(have arz:aUU:=uq V.adQ cQ);have adh:=V.dl;rw[m1 (nX a.ds aq (a.ds[aq]'(m4 (Am [aq,al.z,a.ds.z] nm a8 nm ai nN a8 e arz (AN adh))))) ų,mY hD,vi ⟨fun o aG=>?_,fun bf=>m4 (BZ (Am [d.eu,aq] 1 0 nN S S 0 e (AN da) (Az bf)))⟩ (m4 (Am [d.eu,aq,al.z] S a8 S nN (ai+1) a8 e (Az da) arz)),m1 (o=aq) (m4 (aV8 (OB [d.eu,aq,o] a8 ai S) da aG.cq)),m5,mZ b da cQ h_1,uM,mW AE arz d6 (vU hD (nj (V.aap o _ hD) arz))]
def LK:∀{a}{al}{aD}{b3}{bV}(V:akx a al aD b3 bV),zy bV∧xf bV.eu:=by rw[mY a al aD b3 bV,mY V,mX Bq V.AV fun d6 da fC ahU=>?_];have adh:=V.dl;have hD:nX a.ds al.z (a.ds[al.z]'(m4 (Ag [a.ds.z,al.z] (ai+1) S nN S e (AN adh)))):=ų;rw[vi ⟨fun o aG=>m4 ⟨aV7 [bV.eu,al.z,o] 0 (a8+1) S e (Az da) (AN aG),⟨BZ (é (Am [bV.eu,o] 1 0 S) 0 (Az da) (AN aG)),BZ (Am [bV.eu,o] 1 0 S 0 nN S e (Az da) (AN aG))⟩⟩,fun bf=>(vU d6 (fun aj hd=>?_))⟩ (m4 (Ag [bV.eu,al.z] S ai S 0 e (Az da))),p2 hd,pi,mW Au al.z _ e hD (nW (nv V.aap hD) e)]
def Ew{a}{al}(v f g x)(i)(l)(b:aOO)(br:∀aj,l≠nP aj):aag a al (q' v f g x 0 i):=⟨fun o aG=>by simp[aR.eu]at aG,nO (Ad l b (fun aj hd=>ej hd (br aj)))⟩
abbrev aH.ahZ(a:aH)(i:n1):aH:=oP dK i
abbrev aH.akl(a:aH)(i:nC):aH:=oP iL i
abbrev aH.asG(a:aH)(i:nC):aH:=oP bw i
def AaJ(a:aH)(i):tI 5 (uE i.au .m)=(a.ahZ i).F:=Eb a i
def AaK(a:aH)(i):tI 6 rj=(a.akl i).F:=Ec a i
def AaL(a:aH)(i):tI 7 rj=(a.asG i).F:=Ed a i
abbrev aH.BM(a:aH)(g:R):aH:=((a.ahZ aSJ).akl (a.iL++[us])).asG (a.bw++[aUA])
def G'(a:aH)(cf)(cE)(y)(l)(b:w_ oW cE=c y)(bf:Ň nZ):oD (aVl T (sO cE)) y:=by simp only[Di,Bl,bf];rw[m6 ((w_ oW cE).au _=_),b];rfl
def Rl(a:aH)(cf)(q)(g)(l)(bf:Ň nZ)(Ab:pO l (nn g))(aB:rG a.dK.z):aVl T (aQ4 hq "bounds" ę)=c (.B,(a.ahZ aSJ).F):=by rw[ni (ni CG l _ 5 _) (G' a _ _ _ _ (I2 a) bf) (Dt a) (Aj Ab) (Dt a) (qm (by simp[du]))];rw[show a.dK.au _++[ar.m g]=(aSJ).au ar.m by simp,AaJ]
def Rm(a:aH)(cf)(q)(g)(l)(bf:Ň nZ)(Ab:pO l (c g))(aB:rG a.iL.z):aVl T (aQ4 hq "defaults" ę)=c (.B,(a.akl (a.iL++[g])).F):=tg (sk (ni CG l _ 6 _) g (G' a _ _ _ _ (L8 a) bf) (NI a) (Aj Ab) (NI a) (qm (by simp[du]))) AaK
def Rn(a:aH)(cf)(q)(g)(l)(bf:Ň nZ)(Ab:pO l (c g))(aB:rG a.bw.z):aVl T (aQ4 hq "names" ę)=c (.B,(a.asG (a.bw++[g])).F):=tg (ni CG l _ 7 _ _ g _ _ (G' a _ _ _ _ (L9 a) bf) (NJ a) (Aj Ab) (NJ a) (qm (by simp[du]))) AaL
def OY:∀(a:aH)(aF:aPD)(h:u)(g:R)(U:rG a.dK.z)(hd:rG a.iL.z)(cu:rG a.bw.z)(fT:aSQ),rE 2 0 [oW,aUA,y_,us]=c (pe (aUY uc),((a.BM g).Ah (sy a.ak uc)).F):=by rw[mY a,mY aF,mY h g,mY U hd cu fT,m1 (∀eQ(a:aH),oD (ny n0 pn [nZ,č "T",nn g,ß,eQ] a.F) oW) (fun eQ a=>nz),mY ae3,m1 (oD (ny n0 (sW (sO "bounds")) [nZ,č "T",nn g,ß,B] a.F) (.m a.dK.z)) (by rw[m1 (oD (ny n0 (sO "bounds") [nZ,č "T",nn g,ß,B] a.F) (.D 5)) (G' a _ _ _ _ (I2 a) e),mY a_,m1 (ui lN (.D 5)=c (a.dK.au .m)) (aP4 lN Dt),mY hs,Dk,a_,m6 (((ui lN (.D 5)).au _)=_),hs];simp),mY air,m2 (Rl a n0 2 g [nZ,č "T",nn g,ß,nn a.dK.z] e e U),mY a1,m2 (Rm (a.ahZ aSJ) n0 3 us [nZ,č "T",nn g,ß,nn a.dK.z] e e hd),mY a2,m2 (Rn ((a.ahZ aSJ).akl (a.iL++[us])) n0 1 aUA [nZ,č "T",nn g,ß,nn a.dK.z] e e cu),mY a3];have gi:aTm (a.BM g):={kh:=aF.kh,eX:=aF.eX,cO:=aF.cO,aS:=aF.aS,eM:=aF.eM,ey:=aF.ey,jX:=aF.jX,fO:=aF.fO,ks:=fun f g y d=>aQA d,jW:=aF.jW};rw[m2 (GG _ h uc gi.kh (qm (by rw[m6 (Š 1000000)]))),mY lf,m1 (aU _ _ (m7 .eT (ġ (qL (.s (.bL "Y_PARAM" _) (ġ p6))))) _ _=c (pe (gG a.ak _),((a.BM g).Ah (eL a.ak _)).F)) (m4 ((Gs (m7 ae3) (Fa _) (vx (A3 (o2 (Dj ..) nz oy)))).ah lf)),mY bK,m1 (Ķ dP=c (s6 _,[nJ,nJ,nJ,nJ,nJ],((a.BM g).Ah _).F)) (Dh bK),mY aeD,m2 (Bh (q:=4) air),mY aV,m2 (BX a1),mY bj,m2 (BX a2),mY cV,m2 (BX a3),mY gp];simp only[I9,atG,AO aV];simp only[r.aEy,r.aEz];rw[AO bj,AO cV];rw[Ŧ (((a.ahZ _).akl ((a.ahZ aSJ).iL++[ar.m _]))=(a.ahZ _).akl (a.iL++[xl])),AO gp];rw[sr (((a.ahZ _).akl _).asG (((a.ahZ aSJ).akl _).bw++[uW])) (a.BM g) e];rw[CJ aeD];rfl
abbrev mU:sf u|0=>0|nB=>mU h+iI h
def AcM(am)(b:1≤am):mU am+2=iI am:=by induction am with|hf=>exact B4 (A4 [] 1 0 1 0 e (Bb b))|gk o ih=>rw[om,uL o (by rfl) o (by rw[m2 (rJ ih),m5,m6 (mU pY+iI pY+2=iI (o+2)),m1 (iI pY=19*2^o) e,mY aV,m1 (iI (o+2)=19*2^pY) e,mY bj];simp only[u.pow_succ]at bj;exact y' (yw (Os [mU o.gk,iI o.gk,2^o,iI (o+2)] (S+ai+2) eK wK) ai (qQ 19 a8) (qQ 19 a8) (tz 19 (a6.l a8 2)) eK e (Az aa) (Az aV) (Az aV) (AN bj)) (Os [mU o.gk,iI o.gk,2^o,iI (o+2)] eK (S+ai+2) ai wK (qQ 19 a8) ai (qQ 19 a8) ai eK (tz 19 (a6.l a8 2)) e (AN aa) (AN aV) (AN aV) (Az bj)))]
def AcL(q am:u)(b:q<am):iI q≤mU am:=by induction am with|hf=>omega|gk o ih=>rw[m6 (iI q≤mU o+iI o),nH aG q o,mZ ih b];subst aG;omega;rw[m2 (rJ ih),m5,mW Ag [iI q,mU o,iI o] S (ai+a8) S ai e aa]
def Ab1{cg:Type}(ac:sf cg)(i:Ì):∀k,(∀(q:u)(d:cg),op i d→ac d≤iI (q+k))→(i.au ac).aaL+mU k≤mU (i.z+k):=qb i (by intro k _;simp) f i (by rw[mY k b,m2 (b 0 f e),mY bf,m2 (ih _ (fun q d Ab=>by rw[m2 (Ô (b (q+1) d) Ab),m5,rh (q+(k+1)) (q+1+k) (BI [q,k] tS zr e),mW aa])),mY Q,m1 (mU (k+1)=mU k+iI k) e,mY h2];dsimp only[r.gI,r.ans,r.kZ];rw[u.aaa]at bf;rw[rh (i.z+1+k) (i.z+(k+1)) (BI [i.z,k] zr tS e),mW Bu [ac f,iI k,(r.au ac i).aaL,mU (k+1),mU (i.z+(k+1)),mU k] (S+a8+amn) ahk S ai (a8+eK) ahk (amn+ai) eK e bf Q (AN h2)])
def Xw(K:sf u)(f:u)(ks:nq)(b:ks.fF):(ks.au K).aaL≤K f+((ks.afu (nF (b1 (j≠f)))).au K).aaL:=qb ks (by rw[qz]) g ks (by rw[ot (r.l6.1 b) U cu,nH d g f,mZ ih,oT];(have:ks.afu (nF (b1 (j≠g)))=ks:=r.aHj.2 fun j J=>by simp only[kR];rw[p0,mW U (d▸J)]);rw[m1 (b1 (vd g)=Y) ra,mY a5];simp only[r.aoE,a5,N.aev,abv,aa,r.gI,r.ans];omega;rw[m2 (ih cu),m5,m1 (b1 (vd f)=G) (o7 d),mY a5];simp only[r.aoE,a5,fU,r.gI,r.ans];exact Ag [(r.au K _).aaL,K f,(r.au K (r.afu (nF (b1 _)) _)).aaL,K g] (eK+S) (ai+(eK+a8)) S (ai+a8) e aa)
def OU(K:sf u)(a':nq):∀ks:nq,ks.fF→(∀o∈ks,o∈a')→(ks.au K).aaL≤(a'.au K).aaL:=qb a' (by intro ks _ b;(rw[oS ks (by rw[qz]) o ks (by exact ej (b o tG) r.aaE)])) f a' (by rw[mY ks cu b,m2 (Xw K f _ cu),mY Q];have h2:=ih (ks.afu (nF (b1 (j≠f)))) (cu.afu _) (fun o aG=>by rw[ot (r.ane.1 aG) aau ahx,nt (r.gA.1 (b o aau)),y2,m9,y2,m8,mW ej d (by simpa using ahx),mW d]);simp only[r.gI,r.ans];exact Am [(r.au K ks).aaL,K f,(r.au K (r.afu (nF (b1 (j≠f))) ks)).aaL,(r.au K a').aaL] S (ai+eK) S (ai+a8) a8 eK e Q h2)
def Aar(dr:tK)(g:u)(b:∀k∈dr,k.An≤g):sx≤g:=qb dr (by simp[G4,G5]) f dr (by simp only[G4,G5];rw[m2 (b f tG),mY t0,m2 (ih fun k hs=>b k (Č hs)),m5,mW (rW u.aDN.2 t0 aa)])
abbrev asI:aR:=q' 1 511 2047 2047 0 []
def LI:∀{a z1}{al}{W}(aIQ:∀(q)(d),op W d→j_ a al W d q)(b7:fR a z1)(i)(aB:qe i)(lz:oG i (iK z1 j∧(j∈W∨j.v=1)∧j.eo≤W.z+1))(v n g)(bh)(iC:nX z1.ak v v4)(iy:xe v)(U:abQ z1 n=c g)(dw:vd v)(aef:c1 z1 g bh)(ed)(iQ:i.au (nF (cN z1 j.v))=ed)(afy:al6 bh ed)(cU:g=1∨(∃j∈i,g=j.v)∨(∃H,nX z1.ak g (qs H)∧∀t∈H,∃j∈i,t=j.v))(g_:aUj≤4+2*W.z)(kE:bh.dh+1≤iI W.z),j_ z1 al W (q' v 0 0 0 0 i) W.z:=by rw[mY a z1 al W,mY aIQ b7,mY i,mY aB lz,mY v n g bh,mY iC iy U dw aef,mY ed,mY iQ afy cU g_ kE];have y:c1 z1 v (z_ v):=.bY v n g bh iC iy U dw aef;rw[mX {dT:=.bY v n g _ i _ iC iy U dw aef aB (by rw[←iQ];simp) (fun j J=>(pa lz).1) ?_ afy cU,Av:=Ew v 0 0 0 i _ iC (fun aj b=>Æ),aaG:=rA aR.eu,eo:=?_,An:=by simp only[aR.v,Be y,Ci,Cj,Ck];exact g_,dh:=by simp only[aR.v,Be y,EA,EB,EC];exact kE,eZ:=fun j J=>nj (pa lz)},mY aq j k Q h2];simp only[←iQ,r.adf,Q]at h2;rw[aOl ap.ji h2];subst h2;rw[mW ((lz j (r.lI Q)).1.A').1,m1 (aR.aeq i≤W.z+1) (by clear aB iQ cU;induction i with|C=>simp[IO,IP]|s j i ih=>simp only[IO,IP];rw[m2 (nW (aUN lz)),mY t0,m2 (ih (aRq lz)),m5,mW (rW u.aDN.2 t0 aa)]),m5];simp only[QH];exact u.awA aa
def Px(a)(g)(ao)(b:aRe):ö ((a.BM g).Ah ao):=⟨b,fun aj a0 d=>(Ad a0 d e),fun n x d=>by unfold abQ at d⊢;induction ba:a.dK[n]? using ap.ae with|B=>rw[ba]at d;rw[yc]|c j=>rw[u8 aB ba,m1 (n9 ((a.BM g).Ah ao).dK n j) (by rw[m6 (n9 aSJ n j),r.jP aB,mW ba]),m5,tf];rw[ba]at d;exact d⟩
def dI.BM{a}(aF:aPD)(g):aTm (a.BM g):={kh:=aF.kh,eX:=aF.eX,cO:=aF.cO,aS:=aF.aS,eM:=aF.eM,ey:=aF.ey,jX:=aF.jX,fO:=aF.fO,ks:=fun f g y d=>aQA d,jW:=aF.jW}
def Zg:∀(a)(al)(aD)(b3)(bV)(W)(o)(dJ:w1)(aG:o<100)(h),∃d z',qf (rE 2 0 [oW,aUA,us,us]) aOo∧d.m0=0∧d.cC=0∧d.c4=0∧d.eu=0∧d.e7=[asI]∧aWs∧hi z' al aD b3 bV W pY:=by injections a al aD b3 bV W o;rw[mY dJ aG,aR7];(have amW:a9.bY a.dK.z∉a.ak:=by rw[mY bK,n4 (r.ajU.1 bK) q Ab,m2 (dJ.aca q _ Ab),m5,mW u.i8 _ (Ag [a.dK.z] 1 0 nm S e aa)]);have aF:=dJ.eg.aF;have afz:=dJ.jK;have adh:=dJ.ac8;have aiu:=dJ.adr;have fT:=dJ.gT;rw[m2 (OY a aF h (-1) (m4 (wX a.dK.z 1000 nm 100 ai S e aG afz)) (m4 (wX a.iL.z 1000 nm 100 ai S e aG adh)) (m4 (wX a.bw.z 1000 nm 100 ai S e aG aiu)) (m4 (wX a.ak.z 900000 zI (tB 100) ai (Ñ 60) e (AM 10 aG) fT))),mY adm];have amS:aUY uc=a.ak.z:=nv E3 amW;rw[m1 (m7 eL=a.ak++[.bY _]) (by unfold eL;rw[cH amW]),mY eE];have b7:=Px a (-1) (sy a.ak uc) (fun q l b=>uF Ih b);rw[rf ((aF.BM (-1)).Ah (sy a.ak uc) (aQ.bF u0)) gi adV acM];have iC:nX ((a.BM (-1)).Ah (sy a.ak uc)).ak (aUY uc) uc:=m7 D';rw[m2 (qJ (m7 aF.eX) (n9 kv 15 _) e),mY akZ,u8 ao4 akZ,m1 (m7 abQ=c 1) (by unfold abQ;rw[m1 (nX ((a.BM _).Ah (eL a.ak uc)).dK a.dK.z (-1)) (by rw[m6 ((a.dK++[aP9])[a.dK.z]?=_)];simp),m5,tf];rfl),mY auI];have aqa:c1 ((a.BM (-1)).Ah (sy a.ak uc)) 1 acY:=.iv (gi.eX 1 _ e);rw[m1 (iK _ asI) (.cl 1 _ _ _ 0 aqa),mY amY,m2 (Lp W.z),mY afI];have aoW:=LI (z1:=(a.BM (-1)).Ah (sy a.ak uc)) dJ.hx b7 [asI] qg (fun j J=>nb aQK (AE amY aUu qg)) (aUY uc) a.dK.z 1 acY iC (m4 (Am [a.ak.z,m7 gG] 16 ai S ai (15+1) S e (AN amS) ao4)) auI (m4 (yQ (Bu [a.ak.z,m7 gG] 1 0 S ai (15+1) S ai 1 e (AN amS) ao4 (AN dO)))) aqa [acY] (by rw[m6 ([cN _ 1]=_),Be aqa]) (LH ra (fun k hs=>sh (ŵ hs))) aQd (Ū acY Ci Cj Ck) (qm (by simp[acY,EA,EB,EC]));rw[mX Hu (q' _ 0 0 0 0 _) _ adm e e e e e aoW ?_,mW {eg:=u7 (dJ.eg.bx gi b7 e e) e e e,ca:=dJ.ca,aca:=fun q t Ab=>by(have ms:pO (a.ak++[a9.bY a.dK.z]) (.bY t):=uq eE Ab);rw[m6 (t<(a.dK++[aP9]).z),aVK,y7 aaY a.ak.z];rw[r.jP aaY]at ms;rw[m2 (dJ.aca q t ms),mY aa,mW Ag [a.dK.z,t] nN nm nN S e aa,u8 kf ms,mZ h_1];simp only[r.gR,r.lF]at kf;rw[m1 (q=a.ak.z) (m4 (y' (Ag [a.ak.z,q] ai S nN nm e kf) (Ag [a.ak.z,q] S ai S ai e (x8 aaY)))),m5,mZ aaY kf,uM];simp only[r.akW,ap.c.fV,a9.bY.fV]at ms;exact Ag [a.dK.z,t] nN nm ai S e (AN ms),jK:=by rw[m6 ((a.dK++[aP9]).z≤_),aVK];omega,ac8:=by rw[m6 ((a.iL++[_]).z≤_),aVK];omega,adr:=by rw[m6 ((a.bw++[_]).z≤_),aVK];omega,bN:=by rw[m2 dJ.bN,m5,m6 (a.bs≤_),mW (yw Ag (rV a.bs) (100+zI) (Ñ 100) e aa)],gT:=by rw[m1 ((m7 eL).z≤a.ak.z+1) acM,mY ad3,m6 ((m7 eL).z≤_),mW Am [o,a.ak.z,(m7 eL).z] a8 (60+zI) ai (Ñ 60) a8 nN e fT ad3],hx:=fun q d Ab=>(aTf dJ.hx).bx b7 aWf aQF,cO:=dJ.cO,Av:=q7 dJ.Av (yw Ag (rV W.z) nm S e aa)}]
def Zc:∀(a)(al)(aD)(b3)(bV)(W)(o)(dJ:w1)(aG:o<100)(i)(aB:qe i)(alf:wr 8)(lz:aNS i)(h),∃(aP:u)(ao:oB)(d:aR)(z':aH),rE 3 8 [oW,aOe i.au]=c (Ç,ð)∧qf (aOc 3 0 [oW,aUA,Ç,us] ð) aOo∧d.m0=0∧d.cC=0∧d.c4=0∧d.eu=0∧d.e7=i∧aWs∧hi z' al aD b3 bV W pY∧z'.ca=a.ca∧z'.ds=a.ds:=by injections a al aD b3 bV W o;intro dJ aG;injections i;rw[mY aB alf lz,aR7];have aF:=dJ.eg.aF;have afz:=dJ.jK;have adh:=dJ.ac8;have aiu:=dJ.adr;have fT:=dJ.gT;(have ajA:oG W (∃q,q<W.z∧op W j∧j_ a al W j q):=by rw[tr,m3 Al (r.ajU.1 J),mY q Ab,u8 aB Ab,mW AP q aB Ab (dJ.hx q j Ab)]);(have hL:1≤W.z:=by rw[m3 Al (aUm aB),tr,mW r.avF.2 (r.ne_nil_of_mem (lz j J))]);rw[s3 (Lo a [] [] aF h (i.au aR.v) (o7 aB) (o7 alf) (fun v aS=>by rw[uv aS,mZ aS,s4,aTF,mY q _ _ dt,mW (ql dt.dT.A'.1 (nj dt.dT.A'))]) (m4 (wX a.ak.z 900000 zI (tB 100) ai (Ñ 60) e (AM 10 aG) fT))) aP ao cK eE ajx,rf (aF.Ah ao eE) ke adc lE,m2 (GM a ao adc),mY ad4,mZ adc,m2 lE,mY aIA,mZ aIA,m1 (∀q,rS a.ak≠c (a9.bY a.dK.z)) (fun q Ab=>q7 (dJ.aca q _ Ab) (u.i8 _ (Ag [a.dK.z] 1 0 nm S e aa))),mY aIL];(have au7:∀(q n:u),pO ao v4→pO a.ak v4:=by rw[mZ cK ke lE ad4,mY q n Ab,nY eE eE,n8,m9,mY J,ri Al,ng];rintro j J;rw[m8,mW Ab,m1 (ao=a.ak∨∃ks,ao=sy a.ak aSr) (by clear Ab;generalize hz:a.ak=aMF at ajx J;rw[ng];cases ajx with|iv=>exact aQ.bT hz|gB=>exact aQ.bT hz|jh _ _ ks _ br=>exact aQ.bF ⟨ks,by rw[hz]at br;exact br⟩),mY aCd,mZ ajx J,nY aCd aCd,n8,m9,mY J,ri Al,ng,oc ks,m8,mW Ab];unfold eL at Ab;split at Ab;rw[mW Ab,y7 aaY a.ak.z];rw[r.jP aaY]at Ab;rw[mW Ab,u8 kf Ab,mZ b];simp only[r.gR,r.lF]at kf;rw[m1 (q=a.ak.z) (m4 (y' (Ag [a.ak.z,q] ai S nN nm e kf) (Ag [a.ak.z,q] S ai S ai e (x8 aaY)))),mY auX,mZ aaY kf];subst auX;simp at Ab);clear eE;(have amW:a9.bY a.dK.z∉ao:=by rw[mY bK,m3 Al (r.ajU.1 bK),mY q Ab,mW aIL q (au7 q _ Ab)]);have amS:aNK uc=ao.z:=nv E3 amW;rw[m1 (eL ao _=ao++[.bY _]) (by unfold eL;rw[cH amW]),mY aCe,mZ amW,m2 (OY _ ke nB aP (yh (rG a.dK.z) (wX a.dK.z 1000 nm 100 ai S e aG afz)) (yh (rG a.iL.z) (wX a.iL.z 1000 nm 100 ai S e aG adh)) (yh (rG a.bw.z) (wX a.bw.z 1000 nm 100 ai S e aG aiu)) (yh (ao.z<900000) (Bu [o,a.ak.z,ao.z] (a8+1) 900000 zI (tB 100) ai (Ñ 60) a8 nN e (AM 10 aG) fT lE))),mY adm,m1 (m7 (sb bc (h+3) 0)=c (pe (aNK uc),(aWk).F)) adm,mY aC4,mZ adm];have mK:fR wa aWk:=Px wa aP (sy ao uc) (fun q l b=>uF Ih b);have b7:=ad4.ah mK;rw[mZ ad4,rf ((ke.BM aP).Ah (sy ao uc) (aQ.bF u0)) gi adV acM,mZ adV,m1 (qp eL ao _≤ao.z+1) acM,mY aDy,mZ acM];have iC:nX (aWk).ak (aNK uc) uc:=m7 D';rw[m2 (qJ (m7 ke.eX) (n9 kv 15 _) e),mY akZ,mZ ke];have ao4:15<ao.z:=(r.gF.1 akZ).1;rw[mZ akZ,m1 (i.au (nF (m7 cN))=aRD i.au) (by rw[r.aeN];apply r.aDL;rw[tr,aTF,mY q _ _ dt,mW Be (dt.dT.A'.1.bx b7)]),mY iQ,m1 (∀ks:r _,ks.fF→(∀t∈ks,t∈i.au aR.v)→(ks.au (ue (v5 t))).aaL≤mU _) (by intro ks cu jR;have Q:=OU (ue (v5 t)) aSU ks cu (fun t cG=>by rw[m3 Ac (aTY (jR t cG)),mZ cG,s4,mW (Ń (Ad j (pa lz) e))]);rw[m2 (Ab1 (fun d:aR=>v5 _) W 0 (fun q d Ab=>(aTf dJ.hx).dh)),mY h2];rw[r.aeN]at Q;rw[m1 (mU 0=0) e,mY h3];simp only[u.aqI]at h2;rw[m1 ((W.au ((ue (v5 t))∘aR.v)).aaL=(W.au (ol (v5 _))).aaL) e,mY h4,mW Bu [(r.au (ue (v5 t)) _).aaL,(r.au ((ue (v5 t))∘aR.v) W).aaL,(r.au (ol (v5 _)) W).aaL,mU 0,mU _] S ahk S ai (a8+eK) ahk ai a8 e Q h2 (Az h4)]),mY aJe];have all:=AcM W.z hL;(have ao1:∃bh,c1 aWk aP bh∧al6 bh (aRD i.au)∧aP<ao.z∧1≤aP∧(aP=1∨(∃j∈i,aP=j.v)∨(∃H,nX (aWk).ak aP (qs H)∧∀t∈H,∃j∈i,t=j.v))∧aUj≤4+2*W.z∧bh.dh+1≤iI W.z:=by clear cK lE au7 amS aCe aC4 gi aDy iC iQ;have aC7:ty 1 acY:=.iv (ł 1);rw[m1 (∀k∈aRD i.au,hb k acY=G) (by intro k hs;rw[r.aeN]at hs;rw[uv hs,mZ hs,s4,aTF,mY q _ _ dt,mW GT dt.dT.A'.1]),mY aJo,m2 (Lp W.z),mY afI];cases ajx with|iv Q=>rw[mX JF _ (aC7.bx b7) (LH (Ń (Ad 1 Q (Be aC7))) aJo) (m4 (oa Ag [a.ak.z] 1 S 15 S e ao4)) n_ aQd (Ū acY Ci Cj Ck) (qm (by simp[acY,EA,EB,EC]))]|gB t Q cG ald=>rw[mZ mK,uv cG,mZ cG];(rw[s4]);rw[aTF,mY q Ab _ dt,pv AC dt.dT.A' lQ aeH P,m3 AF lQ.gs,mY l br _ ok,m2 (AcL q _ Ab),mY aJp,m2 dt.An,mY g_,m2 dt.dh,mY kE,mX JF _ (lQ.bx b7) (QG ald) ((r.gF.1 br).1) (q7 ok.1 (aQG [j.v] S 0 S e (u.ahT aa))) (aOB aQ.bT (Ad j J e)) (m4 (Am [W.z,q,sd _] pR (rg 4 2) (x6 2) Ļ a8 (ro 4 2) e (AM 2 Ab) g_)) (m4 (Bu [mU _,iI _,iI q,v5 _] (eK+1) ai wK ai a8 S eK a8 e (Az all) aJp kE))]|jh _ _ ks Q aHR apf iy ajB kg ao3 jR ald=>rw[m1 (c1 _ aP (.un (ks.au _))) (by rw[m3 (.un aP _ _ (nv mK.ak apf) iy ajB kg ra) ?_,mY aq f k aV bj];simp only[r.adf,aV]at bj;rw[aOl ap.ji bj];subst bj;rw[m3 Ac (aTY (jR f (r.lI aV))),mZ aV,s4,aTF,mY q _ _ dt,mW dt.dT.A'.1.bx b7,mY k hs,uv hs,mZ hs];rintro f a_ e;rw[m3 Ac (aTY (jR f a_)),mZ a_,s4,aTF,mY q _ _ dt,mW (nj dt.dT.A')]),mY dj,mX JF _ dj (QF ald) ((r.gF.1 apf).1) (m4 (Ag [aP] 1 S 16 S e iy)) (aOB aQ.bF (Ad ks (nv mK.ak apf) (fun t cG=>?_))) ?_ ?_,m3 Ac (aTY (jR t cG)),mZ cG,s4,mW Ad j J e,m1 (bv.fz (ks.au _)≤4+2*(W.z-1)) (by apply Aar;rw[mY k hs,uv hs,mZ hs];rintro f a_ e;rw[m3 Ac (aTY (jR f a_)),mZ a_,s4,aTF,mY q Ab _ dt,m2 dt.An,m5,mW Bu [W.z,q,sd _,W.z-1] a8 (sn 4 2 eK) (x6 2) Ļ a8 (ro 4 2) Ļ (tz 2 (eK+1)) e (AM 2 Ab) aa (AM 2 (q2 AN (Ag [W.z,q,sd j.v,W.z-1] 1 S 1 S e hL)))]),m5];simp only[Ci,Cj,Ck];rw[mW Am [W.z,vo,W.z-1] (nN+1) (rg 4 2) ai (sn 4 2 a8) (tz 2 pR) Ļ e aa (AM 2 (q2 Az (Ag [W.z,bv.fz (r.au (cN a) ks),W.z-1] 1 S 1 S e hL))),m2 (aJe _ ao3 jR),mY h2];rw[show(ks.au fun t=>v5 t)=(xY ks.au).au bv.dh by rw[r.aeN];rfl,←Qt]at h2;simp only[EA,EB,EC];exact t5 [mU _,iI _,bv.ag3 _] pR ai wK ai a8 S e (Az all) h2);rw[m3 Ux ao1,mY bh aLB afy abZ avi cU g_ kE,m1 (m7 abQ=c aP) (by unfold abQ;rw[m1 (n9 (aWk).dK a.dK.z ě) (by rw[m6 ((a.dK++[ě])[a.dK.z]?=_)];simp),mY aa,tf,m1 (¬(ě≤0)) (m4 (fun dO=>B4 (A5 [↑aP] 1 0 1 b5 b5 0 e (Bb avi) dO))),mY bf,m6 (c (if ě≤0 then 1 else(ě).es)=c aP),cH bf,R.akg]),mY auI];have aoW:=LI (z1:=aWk) dJ.hx b7 i aB (fun j J=>by rw[aTF,mY q Ab _ dt,mW AE (dt.dT.bx b7) (aQ.bT (lz j J)) (q7 dt.eo (Am [W.z,q,j.eo] a8 nm nN S a8 (ai+2) e Ab aa))]) (aNK uc) a.dK.z aP bh iC (m4 (Am [ao.z,gG ao _] 16 ai S ai (15+1) S e (AN amS) ao4)) auI (m4 (yQ (Bu [ao.z,gG ao _,aP] 1 0 S ai (a8+1) S ai a8 e (AN amS) abZ (AN dO)))) aLB (aRD i.au) iQ afy cU g_ kE;rw[mX Uh aP ao (q' _ 0 0 0 0 i) _ cK aC4 e e e e e aoW ?_ e e,mW {eg:=u7 (dJ.eg.bx gi b7 e e) e e e,ca:=dJ.ca,aca:=fun q t Ab=>by(have ms:pO (ao++[a9.bY a.dK.z]) (.bY t):=uq aCe Ab);rw[m6 (t<(a.dK++[ě]).z)];simp only[r.gR,r.lF];rw[y7 aaY ao.z];rw[r.jP aaY]at ms;rw[m2 (dJ.aca q t (au7 q t ms)),m5,mW Ag [a.dK.z,t] nN nm nN S e aa,u8 kf ms,om];simp only[r.gR,r.lF]at kf;rw[m1 (q=ao.z) (m4 (y' (Ag [ao.z,q] ai S nN nm e kf) (Ag [ao.z,q] S ai S ai e (x8 aaY)))),mY aa,mZ aaY kf,uM];simp only[r.akW,ap.c.fV,a9.bY.fV]at ms;exact Ag [a.dK.z,t] nN nm ai S e (AN ms),jK:=by rw[m6 ((a.dK++[ě]).z≤_),aVK];omega,ac8:=by rw[m6 ((a.iL++[_]).z≤_),aVK];omega,adr:=by rw[m6 ((a.bw++[_]).z≤_),aVK];omega,bN:=by rw[m2 dJ.bN,m5,m6 (a.bs≤_),mW (yw Ag (rV a.bs) (100+zI) (Ñ 100) e aa)],gT:=by rw[m6 (qp eL ao _≤_),mW Bu [o,a.ak.z,ao.z,qp eL ao _] eK (60+zI) ai (Ñ 60) a8 nN eK pR e fT lE aDy],hx:=fun q d Ab=>(aTf dJ.hx).bx b7 aWf aQF,cO:=dJ.cO,Av:=q7 dJ.Av (yw Ag (rV W.z) nm S e aa)}]
def BQ{O}{cf}{x}{f g}{l}{w a4}{cL}(b:o5 (o0 aU x) oX)(o:b4 O cf g l a4=cL):pU b4 (.s (.bC x f .C) g)=cL:=(AO (pX D2 b sV)).ah o
def Fr{O}{cf}{x}{f dE g}{l bW}{w a4 dm}{y}(b:o5 (o0 aU x) pg)(o:b4 O cf f l a4=c (rO,bW,dm)):pU b4 (.s (.bC x f dE) g)=c (rO,bW,dm):=CJ (pX D3 b o)
def AB{O}{cf}{k}{g}{l bW}{w a4}{cL}(b:o0 dP k=c (na,bW,a4))(o:b4 O cf g bW a4=cL):pU b4 (.s k g)=cL:=(AO b).ah o
def C3{O}{cf}{d}{g}{l}{w a4}{y}(b:uw y):pU b4 (.s (s6 d) g)=c (rO,l,a4):=pQ CJ Dh
def hi.up{a}{al}{aD}{b3}{bV}{W}{o aax}(t:w1)(b:o≤aax):w8 hi b3 bV W aax:={eg:=t.eg,ca:=t.ca,aca:=t.aca,jK:=u.eI t.jK b,ac8:=u.eI t.ac8 b,adr:=u.eI t.adr b,bN:=q7 t.bN (Am [o,aax,a.bs] a8 (ro 100 20) (su 20) (xr 20) a8 (rg 100 20) e (AM 20 b) aa),gT:=q7 t.gT (Am [o,aax,a.ak.z] a8 (ro 60 10) (su 10) (xr 10) a8 (rg 60 10) e (AM 10 b) aa),hx:=t.hx,cO:=t.cO,Av:=u.eI t.Av b}
def hi.b9{a}{al}{aD}{b3}{bV}{W}{o}(t:w1)(n)(b:n≤a.bs+20):aRt hi (a.b9 n) bV W pY:=have b7:fR a (a.b9 n):=tW;{eg:=u7 (t.eg.bx (t.eg.aF.b9 n) b7 e e) e e e,ca:=t.ca,aca:=t.aca,jK:=u.ahH t.jK,ac8:=u.ahH t.ac8,adr:=u.ahH t.adr,bN:=by rw[m2 t.bN,m5,m6 (n≤_),mW Am [n,a.bs,o] S (100+(tz 20 pR)) S (ai+20) ai (sn 100 20 a8) e b aa],gT:=by rw[m2 t.gT,m5,m6 (a.ak.z≤_),mW Ag [a.ak.z,o] S (60+(x6 10)) S (ro 60 10) e aa],hx:=fun q d Ab=>(aTf t.hx).bx b7 aWf aQF,cO:=t.cO,Av:=u.ahH t.Av}
def hi.gs{a}{al}{aD}{b3}{bV}{W}{o}(t:w1)(ao)(aF:aTm wa)(aaW:aRe)(c9:ao.z≤a.ak.z+10)(np:aV1):aRt hi wa bV W pY:=have b7:=GM a ao aaW;{eg:=u7 (t.eg.bx aF b7 e e) e e e,ca:=t.ca,aca:=fun q n b=>t.aca q n (np q n b),jK:=u.ahH t.jK,ac8:=u.ahH t.ac8,adr:=u.ahH t.adr,bN:=by rw[m2 t.bN,m5,m6 (a.bs≤_),mW Ag [a.bs,o] S (100+(x6 20)) S (ro 100 20) e aa],gT:=by rw[m2 t.gT,m5,m6 (ao.z≤_),mW Am [ao.z,a.ak.z,o] S (60+(tz 10 pR)) S (ai+10) ai (sn 60 10 a8) e c9 aa],hx:=fun q d Ab=>(aTf t.hx).bx b7 aWf aQF,cO:=t.cO,Av:=u.ahH t.Av}
def hi.As{a}{al}{aD}{b3}{bV}{W}{o}(t:w1)(p):aRt hi (a.As p) bV W o:=have b7:fR a (a.As p):=tW;{eg:=u7 (t.eg.bx (t.eg.aF.As p) b7 e e) e e e,ca:=by obtain⟨g9,b⟩:=t.ca;exact⟨g9++[p],by rw[m6 (a.ca++[p]=_),b];rfl⟩,aca:=t.aca,jK:=t.jK,ac8:=t.ac8,adr:=t.adr,bN:=t.bN,gT:=t.gT,hx:=fun q d Ab=>(aTf t.hx).bx b7 aWf aQF,cO:=t.cO,Av:=t.Av}
abbrev k3(ac:ar)(gJ:u)(eA et jY hF mA abf adC acg:pl):dv:=[sc,nZ,c (nE [wq,xW,w7,ac]),tx gJ,tx 25,xb,wx,c ac,eA,et,jY,hF,mA,abf,adC,acg,B]
abbrev aiN:cx:=oo aqM (.s _ (.s _ l)) l .C
def Lh{a:aH}{o h l:u}{cy}{aom}(b:bc T bo o 68 [Ę,.m h] a.F=c (.m l,u1))(br:nX cy aom sc):ny (aA o) (s8 68 aom (.m h)) cy a.F=c (.m l,u1):=zh (o2 (Aj br) nU oy) b
def Zd:∀(a)(al)(aD)(b3)(bV)(W)(o)(dJ:w1)(aG:o<100)(h gJ),aTH (b4 T oR aiN (k3 bV.aY gJ (nn 0) B B B B B B B) a.F) aVp:=by rw[mY a al aD b3 bV W o,mY dJ aG,mY h gJ,m2 dJ.bN,mY kW,m2 dJ.gT,mY fT,nD (Cf a dJ.eg.xs a.bs (aPs (wX a.bs 100000 zI) (tB 100) (Ñ 100)) wI 9 nw nw) l br aV,aVL];have d6:=dJ.b9 wp (m4 (AJ [a.bs] nm (S+20) e));rw[s3 (PC aRy [] [] d6.eg.aF wI l br (yh (Š _) (wX a.ak.z 900000 zI (tB 100) ai (Ñ 60) e (AM 20 aG) fT))) v ao lf eE abu,rf (d6.eg.aF.Ah ao (aQ.bF (qo eE))) gi aaW c9,m2 (d6.gs ao gi aaW (m4 (Ag [ao.z,(a.b9 _).ak.z] S (ai+10) S (ai+1) e c9)) (nb eE (m7 Dl (G3 l br)))),mY da];have y:c1 ((aRy).Ah ao) v (.cl v (mc l) 0 0):=.i9 v _ abu;rw[m2 (PM aRy wI l br),mY iC,m2 (I7 ((aRy).Ah ao) wI l br),mY amO,mX AF y.gs fun gs kX P P=>?_,mZ P,m1 (∀aj,gs≠nP aj) (by rw[mZ lf y,mY aj hd];subst hd;rw[oz abu cy Q h2,mZ abu,m2 (Q.cq.ah kX),mY h3,mZ kX Q,nf h3,mZ h3,mY h3];subst h3;cases h2),mY aIK,mX CA (q' v _ 0 0 0 _) _ _ (Fr uB (AB (Bh (Lh (h:=9) aV e)) (C3 (A3 (o2 ((Gs nz (Fa _) (vx (aQY oy iC))).ah lf) (A3 (Ae (aQY oy amO) aVd)) (o2 nU (A3 oy) oy)))))) (oM (DK _ al W _) v 0 y (nM (oM Ew v) kX aIK) (m4 (AJ [al.z] 0 S e))) (da.up (m4 (AJ ub (nm+1) wQ e)))]
def Pi:∀(a)(al)(aD)(b3)(bV)(W)(o)(dJ:w1)(aG:o<100)(h gJ)(b)(amK:b=1∨b=2),aTH (aVh oR aiN aQ8) aVp:=by injections a al aD b3 bV W o;rw[mY dJ aG,yb gJ b,mY amK,m2 dJ.bN,mY kW,m2 dJ.gT,mY fT,m2 dJ.eg.anx.1,mY abZ,m3 At (Mc a dJ.eg.xs b3 dJ.eg.adN dJ.eg.adO (q7 dJ.eg.jK (Am [al.z,b3.z] (ai+1) 10 S 4 ai S e abZ (Az aa))) a.bs (aPs (t5 (rV a.bs) (ai+10) 100000 ys) (qQ 20 100) (rg 100 20)) (h+3))];rintro g cw U dg aV;rw[aVL];have d6:=dJ.b9 cw (m4 (yw Ag [a.bs,cw] (S+20) wQ e dg));rcases(Pe (a.b9 cw) d6.eg.aF nB g U.1 U.2 (yh (Š _) (wX a.ak.z 700000 ys (qQ 20 100) ai (rg 60 10) e (AM 20 aG) fT)))with(⟨v,ao,n,t,bj,gi,aaW,c9,np,iC,aS,cC,c4⟩);rw[m2 (d6.gs ao gi aaW (m4 (Ag [ao.z,(a.b9 cw).ak.z] S (ai+10) S (ai+7) e c9)) np),mY da,m1 (c1 ((a.b9 cw).Ah ao) v (.cl v vI (hB g.1) (hB g.2))) (.D v n t _ _ iC aS cC c4),mY y];have hc:ny oR (s8 73 1 (s8 74 0 sw)) aQ8 a.F=c (nE [oF,nE [pe vI,.m (hB g.1),.m (hB g.2)]],((a.b9 cw).Ah ao).F):=zh (z7 (zh aNM aV)) bj;rw[m1 (∀w,ny oR (on eq (.A 8) nr) aQ8 w=c (oX,w)) (fun w=>by clear hc;(rw[aRF amK amK])<;>exact uB),mY A_,m1 (∀w,ny oR (on lt (.A 8) uN) aQ8 w=c (pg,w)) (fun w=>by clear hc A_;(rw[aRF amK amK])<;>exact uB),mY Bw,mW CA (q' v vI (hB g.1) (hB g.2) 0 []) _ _ (BQ (A_ _) (Fr (Bw _) (AB (ni (oM G1 T) _ hc e) (C3 (A3 (o2 nz nz (o2 nU (A3 oy) oy))))))) (oM (DK _ al W _) v 0 y (oM Ew v [] _ iC (fun aj b=>Æ)) (m4 (AJ [al.z] 0 S e))) (da.up (m4 (AJ ub (nm+1) wQ e)))]
def Ph:∀(a)(al)(aD)(b3)(bV)(W)(o)(dJ:w1)(aG:o<100)(h gJ)(b)(ak0:b=3∨b=4),aTH (aVh oR aiN aQ8) aVp:=by injections a al aD b3 bV W o;rw[mY dJ aG,yb gJ b,mY ak0,m2 dJ.bN,mY kW,m2 dJ.eg.anx.1,mY abZ,m2 dJ.eg.ul,mY avi];have afC:=dJ.eg.adQ;rw[nD (Cf a dJ.eg.xs a.bs (aPs (wX a.bs 100000 ys) (qQ 20 100) (rg 100 20)) wI aD.z (m4 (Am [al.z,aD.z] (0+1) ai 1 S S ai e avi (AN afC))) (m4 (Am [al.z,aD.z] (ai+1) 1000 S 4 ai S e abZ (Az afC)))) q Ab aV,aVL];have d6:=dJ.b9 wp (m4 (AJ [a.bs] nm (S+20) e));have K:∀n,nX wb 25 (Ć aD.au):=w5 ((EY (a.b9 n)).ah (pk (nF aQW) dJ.eg.eY));rw[m1 (oD (ny oR (sW p6) aQ8 a.F) (.m aD.z)) (by rw[m1 (ui lN wq=c (aD.au aR.aY)) (K7 (K a.bs)),mY hs];simp only[Dk,Bl];rw[m6 (((ui lN wq).au _)=_),hs];simp),mY ahz,m1 (pE u1 wq n'=c aD[q].aY) (by rw[Cq _ 25 _ q (K _)];simp[Ab]),mY fo,m1 (∀w,ny oR (on eq (.A 8) nr) aQ8 w=c (oX,w)) (fun w=>by clear ahz;(rw[aRF ak0 ak0])<;>exact uB),mY A_,m1 (∀w,ny oR (on lt (.A 8) uN) aQ8 w=c (oX,w)) (fun w=>by clear ahz A_;(rw[aRF ak0 ak0])<;>exact uB),mY Bw,m1 (∀w,ny oR (on lt (.A 8) (.m 5)) aQ8 w=c (pg,w)) (fun w=>by clear ahz A_ Bw;(rw[aRF ak0 ak0])<;>exact uB),mY CQ,ot (LJ d6.eg q aD[q] (rA Ab)) Av aaG,yr (d6.eg.cl q aD[q] (rA Ab)) P P mt aJ,mX CA (aD[q]) aRy _ (BQ (A_ _) (BQ (Bw _) (Fr (CQ _) (C3 (Bm nz (aQY (aST ahz) aV) fo))))) ?_ (d6.up (m4 (AJ ub nm wQ e)))];revert Av aaG mt aJ;generalize aD[q]=d;rw[mY Av aaG mt aJ,yd d];subst mt;exact ni (DK _ al W _) _ aJ Av aaG
def Zb:∀(a)(al)(aD)(b3)(bV)(W)(o)(dJ:w1)(h gJ),aTH (aVh oR aiN (k3 bV.aY gJ (nn 5) B B B B B B B)) aVp:=by rw[mY a al aD b3 bV W o,mY dJ,mY h gJ,ot (LK dJ.eg) Av aaG,mX Bq dJ.eg.AV fun P P mt aJ=>?_,mX CA _ a _ (BQ uB (BQ uB (BQ uB (Fr uB (C3 (Aj e)))))) ?_ (rJ dJ.up),mZ dJ];revert Av aaG mt aJ;generalize bV=d;rw[mY Av aaG mt aJ,yd d];subst mt;exact ni (DK _ al W _) _ aJ Av aaG
abbrev alX:ar:=nE [nG,nE [.m 511,.m 2047,.m 2047],nr,ps]
def Xc{W:aR4}(b:W 0∧W 1∧W 2∧W 3∧W 4):∀q,q<5→W q:=BJ od (BJ rB (BJ tO (BJ vr (BJ oH KA))))
def Zf:∀(a)(al)(aD)(b3)(bV)(W)(o)(dJ:w1)(aG:o<100)(h gJ),aTH (aVh oR aiN (k3 bV.aY gJ (nn 6) B B B B B B B)) aVp:=by injections a al aD b3 bV W o;intro dJ aG;injections h gJ;rw[m2 dJ.bN,mY kW,m3 Ac (Cf a dJ.eg.xs a.bs (aPs (wX a.bs 100000 zI) (tB 100) (Ñ 100)) wI 5 nw nw)];rintro q Ab aV;rw[aVL];have d6:=dJ.b9 wp (m4 (AJ [a.bs] nm (S+20) e));have c6:=d6.eg.aF.eX 1 _ e;have ev:=d6.eg.aF.eX 10 _ e;have fg:=d6.eg.aF.eX 11 _ e;rw[m1 (j_ _ al W asI W.z) (oM (DK _ al W _) 1 0 (.iv c6) (nM (oM Ew 1) c6 (fun aj b=>Æ)) (m4 (AJ [al.z] 0 S e))),mY jm];have lp:j_ aRy al W (q' 10 0 2047 2047 0 []) W.z:=DK _ al W _ 10 0 2047 2047 0 (.lk ev) (oM Ew 10 [] _ ev (fun aj b=>Æ)) (m4 (AJ [al.z] 0 S e));have jD:j_ aRy al W (q' 11 508 2047 2047 0 []) W.z:=DK _ al W _ 11 508 2047 2047 0 (.D 11 B B 2047 2047 fg aQd .no .no) (oM Ew 11 [] _ fg (fun aj b=>Æ)) (m4 (AJ [al.z] 0 S e));have dx:∀q:u,q<5→∃(aq:R)(d:aR),rm (pE u1 (nE [nr,nG,nr,nG,rn]) n') aq∧pE u1 (nE [nE [.m 11,nE [.m 508,.m 2047,.m 2047],nr,ps],nE [ŭ,nE [nr,.m 2047,.m 2047],nr,ps],alX]) Ė=c d.aY∧j_ aRy al W d W.z:=Xc (JD (Au 0 _ e e jD) (Au 1 _ e e lp) (Au 0 _ e e jD) (Au 1 _ e e lp) (Au 2 _ e e jm));rw[m3 At (dx q Ab)];rintro aq d j6 hM dt;rw[m1 (oD (aU T oR _ (k3 bV.aY gJ (nn 6) B B B B B B B) _) alX) (A3 (o2 nU (aVv aVd) (o2 nU (A3 oy) oy))),mY eh,mW CA d _ _ (BQ uB (BQ uB (BQ uB (BQ uB (AB (Bh eh) (Fr uB (AB (Bh (A3 (o2 (A3 (o2 nU (A3 (o2 nU nU (vx nU))) (o2 nU (A3 oy) oy))) (A3 (o2 nU (aVv aVd) (o2 nU (A3 oy) oy))) (vx nz)))) (C3 (Bm nz (Bm (A3 (o2 nU nU (Ae nU aVd))) (Lh (h:=5) aV e) j6) hM))))))))) dt (d6.up (m4 (AJ ub nm wQ e)))]
def KJ(cf)(l)(w):aNW (.ju nG)=c (us,w):=Iz ..
def OV{w}{cf}{y f}{cy}(i)(hg:aPf rj)(br:nX cy y (tx f)):aU T cf (on ne (.A y) ţ) cy w=c (n5 (! i.dD),w):=by rw[aQN (Aj br) aTj,m1 (kz w rY wM=c i.dD) (by simp only[kz,jp,abN,acr,kC,aar,r.adn,fU,hg]),m5,aR0 f1 aa]
def Nl{w:ch}{cf:iV}{y f:u}{cy:dv}(i:nC)(hg:aPf rj)(br:nX cy y (tx f)):aU T cf (on eq (.A y) ţ) cy w=c (qP i.dD,w):=by rw[aQN (Aj br) aTj,m1 (kz w rY wM=c i.dD) (by simp only[kz,jp,abN,acr,kC,aar,r.adn,fU,hg]),m5,aR0 f1 aa]
def W2{w}{cf}{y f}{cy}(i)(hg:aPf rj)(br:nX cy y (tx f)):aU T cf (sW (.A y)) cy w=c (.m i.z,w):=by rw[m1 (lN w rY=c i) (K7 hg),mY hs,Dk,Aj br,m6 (((lN w rY).au _)=_),hs];rfl
abbrev kw(a:aH)(n:u)(i:nL):aH:=(a.b9 n).As (Ć i.au)
def FU(a)(b:Û)(n)(i):nX ğ a.ad (Ć i.au):=GE (a.b9 n) _ (by rw[m6 (a.Ap≤a.ca.z),mW Ag [a.Ap,a.ca.z] S ai S 0 e (Az b)])
def Hj(a)(b:Û)(n)(i)(W:nL)(g9)(aS:a.ca=v9::g9):nX ğ qR v9:=by rw[m2 (Lj (kw a n i) b 0),m5,tC aa.ah,m6 ((a.ca++[_])[0]?=_),aS];rfl
abbrev aGN:cx:=nA (.f_ (.hq aP7 (.aT qx (tX (sW qx)))))
def SX:∀(a:aH)(J:aVT)(i4:Û)(W:nL)(g9:r c_)(aS:a.ca=v9::g9)(ew:qe W)(aHO:W.z<100)(h:u)(ac V:ar),∀(H f n:u)(i:nL)(acg:pl),H≤4→n+H<10000→i.z+H<1000→(aNS i)→∃kG fJ,fZ (ó oR aGN) 15 B (k5 vn 1 H) (aPl ac B B (c V) B sS acg) ğ=c (na,aPl ac B B (c V) B sS fJ,(kw a (n+H) kG).F)∧kG.z=i.z+H∧(aNS kG):=by rw[ug,mY J i4];injections W g9;rw[mY aS ew aHO,yb ac V,mY H];induction H with|hf=>rw[mY f n i acg _ _ _ b,mW ⟨i,acg,Ĝ,e,b⟩]|gk H ih=>rw[mY f n i acg bK ba aB b,m1 (0<W.z) (r.avF.2 ew),mY abr,nD (Cf (kw a n i) J n (m4 (oa Ag [H,n] ai 100000 aOZ 10000 e ba)) wI W.z abr n_) q Ab aV,m1 (aOc 5 68 [Ę,.m W.z] ğ=c (n',(kw a rU i).F)) aV,mY aos];have eb:ny oR (sW qx) (aPl ac B B (c V) B sS (nn f)) ğ=c (.m W.z,ğ):=(W2 _ (Hj a i4 n i W g9 aS) e).ah (by rw[vO]);rw[m1 (pE (kw a rU i).F qV n'=c W[q].aY) (by rw[n7 Cq q (Hj a i4 rU i W g9 aS)];simp[Ab]),mY fo,m2 (CG T oR aP7 (r_ 3 (tX (sW qx))) (aPl ac B B (c V) B sS (nn f)) ğ a.ad ğ (kw a rU i).F W[q].aY _ _ nz (FU a i4 n i) (Bm nz (aQY (aST eb) aos) fo) (FU a i4 rU i) (by rw[vO,xh,mW (oa Ag [H,i.z] ai 1048576 aOZ 1000 e aB)])),mY acB,m1 ((kw a rU i).F.b6 a.ad (.aw (ſ++[W[q].aY]))=(kw a rU (i++[W[q]])).F) (nb (show ſ++[W[q].aY]=(i++[W[q]]).au aR.aY by simp) (KX (a.b9 rU) _ _ (by rw[m6 (a.Ap≤a.ca.z),mW Ag [a.Ap,a.ca.z] S ai S 0 e (Az i4)]))),mY afH];rw[afH]at acB;rw[s3 (ih (f+1) rU (i++[W[q]]) (nn f) n_ (m4 (oa Ag [H,n] (nN+S) 10000 aOZ 10000 e ba)) (tL r.gR r.lF (oa Ag [H,i.z] (nN+S) 1000 aOZ 1000 e aB)) (fun j J=>by rw[nt (r.aeP.1 J)];rintro h';rw[m9];rintro h';rw[m8,mW b j h',ŵ h',mW r.aij Ab])) kG fJ Q h2 h3,mX Au kG fJ ?_ (by rw[h2,r.gR,r.lF,mW BI [H,i.z] (nN+S) aOZ e]) h3,GJ,rh (n+(H+1)) (rU+H) (BI [H,n] aOZ (nN+S) e),mW (qn BO (AB (BX acB) sV)).ah Q]
def Ze:∀(a:aH)(al:n1)(aD:nL)(b3:aTx)(bV:aR)(W:nL)(o:u)(dJ:w1)(aG:o<90)(ew:W.z<10)(h:u),∃d z' r',aVh oR aiN (aPl bV.aY B B B B B B)=c (s6 d.aY,r',z'.F)∧aWs∧aVp∧z'.ds.z=a.ds.z:=by injections a al aD b3 bV W o;rw[mY dJ aG ew,aR7];have kW:=dJ.bN;have i4:=dJ.eg.Ap;rw[uy dJ.ca g9 aS,m1 (oD (aU T oR _ (aPl bV.aY B B B B B B) _) alX) (A3 (o2 nU (aVv aVd) (o2 nU (A3 oy) oy))),mY eh,m1 (aU T oR _ (aPl bV.aY B B (c alX) B B B) a.F=c (vT,(kw a _ []).F)) (by rw[C7,Ar,m6 (c (ar.D a.F.z,tD aTZ)=_),Bj,Cc a _ (m4 (Ag [a.Ap,a.ca.z] S ai S 0 e (Az i4)))];rfl),mY aiu,m1 (∃i y n,dP _ (aA _) (.mn _ (ġ (.bC (.aX _ qx _) (.bp _ (.s (.A 0) (ġ È))) nr)) _) _ _=c (na,qn k3 _ y,ğ)∧wr 3∧(aNS i)∧n≤a.bs+20) (by rw[nH bf W [],mX (rJ (CU ([]) B a.bs ?_ qg (fun j J=>by cases J))),mX (qn G0 _ _ (vx ((E8 ((OV _ (Hj a i4 _ _ W _ aS) e).ah (sh bf))).ah nU)) (ű Fk 0)).ah Ĝ,m1 ((W.au aR.aY).dD=Y) (by rw[mZ dJ ew aS,aRk W bf]),mY dw,nD (Cf (kw a a.bs []) dJ.eg.xs a.bs (aPs (wX a.bs 100000 zI) (tB 90) (Ñ 100)) wI 4 nw nw) H bK aV,m1 (sb bc (h+5) _ _ (kw a _ _).F=c (.m H,(kw a _ _).F)) aV,mY aos,s3 (SX a dJ.eg.xs i4 W g9 aS bf n_ h bV.aY alX H 0 (a.bs+1) [] B n_ (m4 (Bu [o,a.bs,H] (nN+a8+1) 10000 zI (tB 90) ai (Ñ 100) pR 4 e (AM 20 aG) kW bK)) (qm (by simp)) (fun j J=>by cases J)) kG fJ Q h2 h3,mX CU _ fJ (wp+H) ?_ (by rw[h2];simp;omega) h3 (m4 (Ag [a.bs,H] zr (S+20) nN 4 e bK)),mX (qn G0 _ _ (vx ((Go ((OV _ (Hj a i4 _ _ W _ aS) e).ah (sh dw))).ah ((AW (z7 nU)).ah aos))) (ű Fk H)).ah Q]),mY kD,mX DX kD fun i y n aB alf lz ba=>?_];have d6:aRt hi (kw a n i) bV W pY:=(dJ.b9 n ba).As _;(have aeD:∃d z' r',b4 T oR (.s (ts (on eq aP7 ţ) (nA (.bu (qL (.s (.bp 0 (.s (.A 1) (pH aUA (.ju nG) (.ju nG)))) (pH (qL (pH nr nr nr)) nr (qL (nA (.A 12))))))))) (nA (.bu (qL (.s (.bp 0 (.s (.A 1) (pH aUA (s8 8 1 (aRl (rq 16) 16 aP7)) (.ju nG)))) (pH (qL (pH nr nr nr)) nr (.af3 aP7))))))) (aPl bV.aY B B (c alX) B sS y) ğ=c (s6 d.aY,r',z'.F)∧aWs∧aVp∧z'.ds.z=a.ds.z:=by rw[mZ aB,nH bf i [],mZ alf lz];subst bf;rw[mX Uy (aTP (aRt Zg (kw a n [])) (aTg 90) (h+3)) fun d z' Q m0 cC c4 mp apD dt da=>?_,m1 (z'.ds.z=a.ds.z) (tg da.eg.dl dJ.eg.dl),mY hd,mX CU d _ _ (Fr (Nl [] (FU a i4 n _) e) (C3 ((A3 (o2 (zh (o2 nz (DI ..) (o2 (KJ ..) (KJ ..) oy)) Q) (A3 (o2 nU nU (vx nU))) (o2 nU (A3 (Ae nz oy)) oy))).ah ?_))) dt (da.up (m4 (AJ ub (nm+1) wQ e))) hd,mZ dt Q,yd d];simp only[aR.m0,aR.cC,aR.c4,aR.eu,aR.e7]at m0 cC c4 mp apD;subst m0 cC c4 mp apD;rfl;rw[m1 ((i.au aR.aY).dD=Y) (by rw[mZ alf lz d6,aRk i bf]),mY dw,mX Uz (aTP (aRt Zc (kw a n i)) (aTg 90) i bf n_ lz (h+2)) fun aP ao d z' Q h2 m0 cC c4 mp apD dt da agK afD=>?_,m1 (z'.ds.z=a.ds.z) (tg da.eg.dl dJ.eg.dl),mY hd,m1 (aU _ _ (.go (rq 16) 16 aP7 _) (aPl bV.aY B B (c alX) B _ y) _=c (aOe i.au,ğ)) (by have hg:=FU a i4 n i;rw[m1 (kn ğ aP5=c (ſ,c (a.ad,ſ))) (by simp only[kn,hg]),mY lA,rc (nM (ni (w3 Ch oR)) i aR.aY (nF (.m j.v)) nz lA (by simp only[AY,hg];kernel_rfl!) (fun j P=>?_)),mZ P,mX Bm nz nU ?_,yd j,mW (sF B5)];unfold cS;rw[r.aeN];rfl),mY jr,m1 (nX z'.F a.ad (Ć i.au)) (by rw[m2 (Lj _ da.eg.Ap a.ca.z),m5];rw[agK,afD]at aa;rw[tC aa.ah,m6 ((a.ca++[_])[a.ca.z]?=_)];simp),mY aoV,m1 (∀l:dv,nX l 14 nJ→qf (aU T oR _ l z'.F) (nE _)) (by rw[mY l br,m1 (j7 z'.F aP5=c ſ) (aP4 j7 aoV),mY hs,Qz,Aj br,m6 ((î (j7 z'.F vT))=_),hs,m6 ((if rH i.au _≤16384 then _ else _)=_),c0 (qm (by rw[vO]))]),mY aa2,mX CU d _ _ (BQ ((Nl _ (FU a i4 n i) e).ah (Ĕ dw)) (C3 ((A3 (Ae (zh (o2 nz (DI ..) (o2 (aQY (aST jr) Q) (KJ ..) oy)) h2) (o2 (aVv aVd) nU (vx (aa2 _ e))))).ah ?_))) dt (da.up (m4 (AJ ub (nm+1) wQ e))) hd,mZ dt Q h2,yd d];simp only[aR.m0,aR.cC,aR.c4,aR.eu,aR.e7]at m0 cC c4 mp apD;clear alf lz d6 bf dw agK afD jr aoV aa2;subst m0 cC c4 mp apD;rw[←Nj];rfl);rw[mX DX aeD fun d z' r' l1 aoW cG hd=>?_,mW CU d _ _ (BQ uB (BQ uB (BQ uB (BQ uB (AB (Bh eh) (BQ uB (AB (Bh aiu) (AB aB l1)))))))) aoW cG hd]
def Xd{W:aR4}(b:W 0∧W 1∧W 2∧W 3∧W 4∧W 5∧W 6∧W 7):∀q,q<8→W q:=BJ od (BJ rB (BJ tO (BJ vr (BJ x_ (BJ (nj oH) (BJ (oj oH) (BJ (Ċ oH) KA)))))))
def WL:∀(a)(al)(aD)(b3)(bV)(W)(o)(dJ:w1)(aG:o<80)(ew:W.z<10)(h),∃d z',qf (rE 6 77 [Ę,oW,xd,qV]) d.aY∧aWs∧hi z' al aD b3 bV W (o+4):=by injections a al aD b3 bV W o;rw[mY dJ aG ew,aR7,m2 dJ.bN,mY kW,nD (Cf a dJ.eg.xs a.bs (aPs (wX a.bs 100000 ys) (qQ 20 80) (rg 100 20)) wI 8 nw nw) l br aV,aVL];have d6:=dJ.b9 wp (m4 (AJ [a.bs] nm (S+20) e));rw[m1 (∃b:R,rm (pE u1 (nE [nr,nG,uN,È,.m 5,rn,.m 6,.m 7]) (.m l)) b∧aTH (b4 T oR aiN (k3 bV.aY qR (nn b) B B B B B B B) u1) (hi z' al aD b3 bV W (o+4))) (by rw[m1 (aTH (b4 T oR aiN (aPl bV.aY B B B B B B) u1) (hi z' al aD b3 bV W (o+4))) (by rw[m3 DX (aTP (aRt Ze aRy) (m4 (Ag ub (nm+1) 90 nm 80 e aG)) ew h),mY d z' r' Q h2 h3 _,mW CA d z' r' Q h2 h3]),mY h7];revert l;intro l br _;exact Xd (W:=fun l:u=>∃b:R,rm (pE u1 (nE [nr,nG,uN,È,.m 5,rn,.m 6,.m 7]) (.m l)) b∧aTH (b4 T oR aiN (k3 bV.aY qR (nn b) B B B B B B B) u1) (hi z' al aD b3 bV W (o+4))) (JE (Ad 0 e (aTP (Zd _ al aD b3) (aTg 80) h _)) (Ad 1 e (aOq (aTP (Pi _ al aD b3) (aTg 80) h _ 1) e)) (Ad 3 e (aOq (aTP (Ph _ al aD b3) (aTg 80) h _ 3) e)) (Ad 4 e (Ph _ al aD b3 bV W (o+1) d6 (aTg 80) h _ 4 aUu)) (Ad 5 e (Zb _ al aD b3 bV W pY d6 h _)) (Ad 2 e (Ê (aTP (Pi _ al aD b3) (aTg 80) h _ 2) e)) (Ad 6 e (aTP (Zf _ al aD b3) (aTg 80) h _)) (Ad 7 e h7)) l br),mY aix];obtain⟨b,fo,d,z',r',l1,dt,da⟩:=aix;rw[mX Au d z' ?_ dt da];have aHH:b4 T oR aqM [sc,nZ,c xd,aOp,B,B,B,B,B,B,B,B,B,B,B,B,B] a.F=c (s6 d.aY,r',z'.F):=AB (ni (oM G1 T) _ nz e) (AB (Bh (Bm (aVv (o2 nU nU (o2 nU nU (Ae nU aVd)))) (Lh (h:=8) aV e) fo)) l1);simp only[Sz,aHH];rfl
abbrev iq(bl gJ:ar)(eA et jY hF mA abf adC acg:pl)(aE gT:ar):dv:=[c aE,sc,nZ,c gT,c bl,tx 25,xb,c gJ,eA,et,jY,hF,mA,abf,adC,acg,B,B,B,B]
abbrev aEf:cx:=(.s (sG 9 (.bp 77 (.s (.A 1) (pH ph p6 uj)))) (nA (ts (on lM (rq 9) (aRl (rq 18) 18 uj)) (nA (.f_ (aOW 7 (.A 9)))))))
def ZU(a:aH)(b:Û)(W:nL)(g9)(aS:a.ca=v9::g9):qh qR v9:=by rw[rc (Lj a b 0),aS];rfl
def hi.asv:∀{a}{al}{aD}{b3}{bV}{W}{o}(t:w1)(d)(dt:j_ a al W d W.z)(cu:d.v∉aSU)(ew:W.z+1≤o),∃z',a.F.b6 qR (.aw (aPS++[d.aY]))=z'.F∧hi z' al aD b3 bV (W++[d]) o:=by injections a al aD b3 bV W o;intro t;injections d;rw[mY dt cu ew,uy t.ca g9 aS];have b7:fR a (oP ca (a.ca.b6 0 (Ć (W++[d]).au))):=tW;have aH8:dI (oP ca (a.ca.b6 0 (Ć (W++[d]).au))) [] []:=u7 t.eg.aF.le (by rw[m6 (a.Ap≤_)];simp only[t.eg.Ap];omega) t.eg.aF.eM t.eg.aF.ey t.eg.aF.jX e t.eg.aF.jW;rw[mX Ad (oP ca (a.ca.b6 0 (Ć (W++[d]).au))) ?_ ?_,m2 (Acg a t.eg.Ap 0 (Ć (W++[d]).au)),m5,←aa,r.ahL];rfl;exact{eg:=u7 (t.eg.bx aH8 b7 e e) e e e,ca:=⟨g9,by rw[m6 (a.ca.b6 0 _=_),aS];rfl⟩,aca:=t.aca,jK:=t.jK,ac8:=t.ac8,adr:=t.adr,bN:=t.bN,gT:=t.gT,hx:=fun q j Ab=>by have eZ:oG W (j∈W++[d]):=fun j J=>r.alz _ J;rw[y7 aaY W.z];rw[r.jP aaY]at Ab;rw[mW (t.hx q j Ab).bx b7 aWf eZ,u8 kf Ab,mZ b];simp only[r.gR,r.lF]at kf;rw[m1 (q=W.z) (m4 (y' (Ag [W.z,q] ai S nN nm e kf) (Ag [W.z,q] S ai S ai e (x8 aaY)))),mY aa,mZ aaY kf,uM,aOl r.akW Ab];subst Ab;exact dt.bx b7 aWf eZ,cO:=nb r.ahL (r.anl.2 (AE t.cO qg (fun f a_ g U=>by rw[r.map_singleton,r.i7]at U;rw[n8,mW cu (U▸a_)]))),Av:=tL r.gR r.lF ew}
def Ry(h)(i):ar.kP h (cS i)=G:=qb i (by induction h using u.ae<;>rfl) f i (by rw[m6 ((ar.i6 h th&&ar.kP h (cS i))=G),ih,mZ ih];induction h using u.ae<;>rfl)
def ZT:∀(a:aH)(al:n1)(aD:nL)(b3:aTx)(bV:aR)(W:nL)(o:u)(dJ:w1)(aG:o<80)(ew:W.z<10)(h K:u)(aE gT:ar)(et:pl),∃ahf z' ae7,aVh Ħ aEf (aTN (iq xd qV (nn K) et))=c (na,aTN (iq xd qV (nn K) ae7),z'.F)∧hi z' al aD b3 bV ahf (o+4)∧ahf.z≤W.z+1∧(qe ahf):=by injections a al aD b3 bV W o;intro dJ aG ew;injections h K aE gT et;rw[s3 (w8 WL b3 bV W o dJ aG ew h) d z1 Q dt d6];(have hd:z1.ds.z=a.ds.z:=tg d6.eg.dl dJ.eg.dl);rw[uy d6.ca g9 aS];have hg:=ZU z1 d6.eg.Ap W g9 aS;rw[m1 (ny Ħ (aRl (rq 18) 18 uj) (aTN (iq xd qV (nn K) aR9)) z1.F=c (aOe W.au,z1.F)) (by rw[hd]at hg;rw[m1 (kn z1.F qV=c (aPS,aOG qR)) (by simp only[kn,hg]),mY lA,rc (nM (ni (w3 Ch Ħ)) W aR.aY (nF (.m j.v)) nz lA (by simp only[AY,hg];kernel_rfl!) (fun j P=>?_)),mZ P,mX Bm nz nU ?_,yd j,mW (sF B5)];unfold cS;rw[r.aeN];rfl),mY jr];(have aeC:ny Ħ (on lM (rq 9) (aRl (rq 18) 18 uj)) (aTN (iq xd qV (nn K) aR9)) z1.F=c (n5 (! b1 (d.v∈aSU)),z1.F):=by rw[mX AX (aTq (y:=aOo) (by rw[mZ Q dt jr,yd d,mW (sF B5)])) jr ?_,m1 (jT z1.F aOo (aOe W.au)=c (b1 (d.v∈aSU))) (by rw[m1 ((ŝ W.au).z≤du) (by unfold cS;simp only[r.hN];rw[xh,mW Ag [W.z] S 1048576 nm 10 e ew]),mY aB,m6 ((if((ar.m d.v).i6 ja&&ar.kP ja (ŝ W.au)&&b1 ((ŝ W.au).z≤du))=G then _ else _)=_),Ry,hZ aB,c0 (by rfl),uh,mW aon.2 (m7 OL)]),mY il,m6 ((jT z1.F aOo (aOe W.au)).au _=_),il];rfl);have amP:ny Ħ (.bp 77 (.s (.A 1) (pH ph p6 uj))) (aTN (iq xd qV (nn K) et)) a.F=c (d.aY,z1.F):=zh (o2 nz nz aNM) Q;rw[aPd d.v aSU];rw[hZ bK]at aeC;rw[mX CU W z1 aR9 (AB (Bh amP) (BQ aeC sV)) d6 n_ ?_,mZ dJ ew dt d6 aS hg jr,n8];cases bK;rw[jq bK]at aeC;rw[m2 dJ.Av,mY aaZ,nD (d6.asv d dt bK (m4 (Ag (rV W.z) nN (S+4) ai S e aaZ))) bz h2 da,m1 (ny Ħ (aOW 7 (.A 9)) (aTN (iq xd qV (nn K) aR9)) z1.F=c (.B,bz.F)) (by rw[←h2,hd];rw[hd]at hg;exact qn (oM CG T) nz hg nz hg (by rw[vO,xh];omega)),mY acB,mW CU (W++[d]) bz aR9 (AB (Bh amP) (AB (pX D3 aeC (AB (BX acB) sV)) sV)) da (qm (by simp only[r.gR,r.lF])) ra]
def ZS(h)(aE gT):∀(H f:u)(a)(al)(aD)(b3)(bV)(W)(o)(eA et),w1→o+4*H<80→W.z+H<10→∃ahf z' ai1 ae7,fZ (ó Ħ aEf) 8 B (k5 vn 1 H) (aTN (iq xd qV eA et)) a.F=c (na,aTN (iq xd qV ai1 ae7),z'.F)∧hi z' al aD b3 bV ahf (o+4*H)∧ahf.z≤W.z+H∧(H≠0∨qe W→qe ahf):=by intro H;induction H with|hf=>rw[mY f a al aD b3 bV W o eA et t _ _,mW ⟨W,a,eA,et,Ĝ,t,n_,oE (b.aEs (oE (b e)))⟩]|gk H ih=>rw[mY f a al aD b3 bV W o eA et t aG ew,mX DX (w8 ZT b3 bV W o t (m4 (oa Ag (rV H) S 80 (aSC 4) 80 e aG)) (m4 (oa Ag [H,W.z] ai 10 aOZ 10 e ew)) h f aE gT et) fun as4 z1 ae7 Q d6 aB dw=>?_];(have hd:z1.ds.z=a.ds.z:=tg d6.eg.dl t.eg.dl);refine ES (ih (f+1) z1 al aD b3 bV as4 (o+4) (nn f) ae7 d6 (m4 (oa Ag (rV H) (ro (S+4) 4) 80 (aSC 4) 80 e aG)) (m4 (oa Am [H,W.z,as4.z] (a8+S) 10 aOZ 10 a8 nN e ew aB))) fun aF7 bz d' ez h2 da ad3 aIH=>?_;rw[hd]at h2;refine(nM EO d' ez ?_ (da.up (m4 (AJ (rV H) (ro (S+4) 4) (aSC 4) e))) (m4 (Am [H,W.z,as4.z,aF7.z] eK aOZ a8 nN eK (a8+S) e aB ad3)) (nO (Ê aIH dw)));simp only[GJ];exact(zt Q).ah h2
def Dx(cf)(l)(w):aNW ň=c (.D w.z,w++[m_]):=by simp only[C7,Ar]at⊢;rfl
def XJ(cf)(l)(w):aNW (.hw (nA .B))=c (.D w.z,w++[wV]):=qZ C7 (vx (IB ..))
def Fc(cf)(l)(w):aNW (.lK Y)=c (.D w.z,w++[nS]):=by simp only[IA]at⊢;rfl
def Xv(cf)(l)(w):aNW (.lK G)=c (.D w.z,w++[sj]):=by rw[IA]at⊢;rfl
def sa{cf}{h}{j}{l}{w a4}{y}{q x}{fs}(J:o5 (aQ1 j) y)(bf:Ň (tx q))(Ab:pO a4 (qI x fs))(b2:T.abp x h=G)(aB:fs.z<200):dP T cf (.dU pn h j) l w=c (na,l,a4.b6 q (.bS x aS8)):=ni (Ep T cf _ _) _ y q x fs J (Aj bf) Ab b2 aB
abbrev abD(p:c_)(ak:oB):ch:=[p,acd,aSw ak.au,.bE (aaw 0 ak),wV,m_,m_,m_,nS,nS]
def C8{cf}{cE}{y}{l}{w}{f}(b:gz T w f cE=c y)(bf:Ň (c f)):aNW (sO cE)=c (y,w):=by simp only[Di,Bl,bf];rw[m6 ((gz _ w f _).au _=_),b];rfl
def Z_:∀(p)(ak)(h)(l)(br:l∉ak)(aB:rG ak.z),bc T bo nB 88 [oW,l.aY] (abD p ak)=c (.m ak.z,abD p (Õ ak)):=by injections p ak h l;rw[mY br aB,m1 (gz _ (abD p ak) _ "index"=c _) (Ba _ 1 0 _ _ _ e e e),mY a3];have a2:gz T (abD p ak) oW "rows"=c (.D 2):=Ba _ 1 0 _ _ _ e e e;rw[m1 (aU _ nT (.aX .gH qc _) [nJ,nJ,B] _=c (vq,abD p _)) (by rw[aQN nz (C8 a3 e),m1 (jT (abD p _) _ (.D 3)=c Y) (by rw[m6 ((nK ((l4 _&&l.aY.im _)=G) nJ)=_),F6,F4,c0 (by rfl),JB,cH br];rfl),m5,m6 ((sF jT).au _=_),aa];rfl),mY A_,m1 (aU _ nT _ [nJ,c l.aY,B] _=c _) (by rw[Dk,C8 a2 e,m6 (c (ar.m _,abD p _)=_),vO]),mY ip,m2 (sk (CG _ nT _ qc [nJ,nJ,nn ak.z] _ 2 _) l.aY (C8 a2 e) e nz e (by rw[vO,xh];omega)),mY lw,m1 ((abD p ak).b6 2 (.aw (ak.au _++[l.aY]))=[p,acd,aSw (Õ ak).au,n6,nx,nx,nx,nx,n6,n6]) (sh r.ahL),mY auv];rw[auv]at lw;rw[m1 (dP T nT (.jl _ (.A 1) ph) [nJ,c l.aY,nn _] [p,acd,nx,n6,nx,nx,nx,nx,n6,n6]=c (na,[nJ,nJ,nJ],abD p _)) (by rw[m1 (gz _ [p,acd,aSw (Õ ak).au,.bE (aaw 0 ak),wV,m_,m_,m_,nS,nS] _ "index"=c _) (Ba _ 1 0 _ _ _ e e e),mY aGn,Ly,nz];simp only[ap.eO];rw[C8 aGn e];simp only[ap.eO];simp only[aak];rw[nz,m6 (ap.au _ (if(l4 l.aY&&(l.aY.im _&&b1 (qp aaw 0 _<du)))=G then _ else _)=_),F6,F4,Ok,hZ (qm (by rw[xh])),c0 (by rfl),m6 (c (ls.bU,_,r.b6 _ 3 (c_.bE (abn l.aY _ _)))=_),m2 (M9 l _ 0 br),m5,o6 u.aaa,aa];rfl),mY aeX];have l1:b4 T nT atx [nZ,c l.aY,B] (abD p ak)=c (.bu (.m ak.z),[nZ,c l.aY,nn ak.z],abD p (Õ ak)):=BQ A_ (AB (Bh ip) (AB (BX lw) (AB aeX (C3 (Aj e)))));rw[Jl,l1];rfl
def Z'(p)(h):∀(i ak)(y),(ak++i).fF→ak.z+i.z<1000→∃V,fZ (aO6 n0 (nA (.f_ (.eT pn "put" (nA qc))))) 1 B (i.au a9.aY) [nZ,y] (abD p ak)=c (na,[nZ,V],abD p (ak++i)):=tV i i (by rw[mY ak y _ _,mW ⟨y,nb r.afl Ĝ⟩]) l i (by intro ak y b aB;simp only[r.kZ]at aB;rw[m1 (l∉ak) (fun bK=>nW (r.anl.1 b) l bK l tG e),mY br,m1 (my T (abD p ak) oW "put"=c 88) (CY _ 1 0 88 _ _ e e e),mY bK];obtain⟨V,eh⟩:=ih (Õ ak) (c l.aY) (yg r.abO b) (tL r.gR r.lF (oa Ag [ak.z,i.z] zr 1000 tS 1000 e aB));rw[r.abO]at eh;exact⟨V,(qn BO (AB (BX ((Gs nz bK (Ae nz oy)).ah (Z_ p ak h l br (m4 (oa Ag [ak.z,i.z] S 1000 tS 1000 e aB))))) sV)).ah eh⟩)
def Acs:∀(p:c_)(h:u),aOc 2 87 [oW] [p,rv 0]=c (.B,abD p kv):=by rw[mY p h,m1 (dP _ n0 _ _ [p,rT 0]=c (na,[nJ,B],[p,qI 0 [oV "rows" 2],nx])) (oQ (pj sa q 1 x 0 fs [] (Dx ..) e e e)),mY s0,m1 (dP _ n0 (.dU _ "index" _) _ [p,rT 0,m_]=c (na,[nJ,B],[p,qI 0 [vu,wg],nx,n6])) (oQ (nI (sa (q:=1)) x 0 fs [vu] (Fc ..) e e e)),mY s1,m1 (dP _ n0 (.dU _ "decls" _) _ [p,rT 0,m_,n6]=c (na,[nJ,B],[p,qI 0 [vu,wg,xO],nx,nS,nx])) (oQ (pj sa q 1 x 0 fs [vu,wg] (XJ ..) e e e)),mY BS,m1 (dP _ n0 (.dU _ "bounds" _) _ [p,rT 0,m_,n6,nx]=c (na,[nJ,B],[p,qI 0 [vu,wg,xO,zM],nx,nS,wV,nx])) (oQ (pj sa q 1 x 0 fs [vu,wg,xO] (Dx ..) e e e)),mY Cd,m1 (dP _ n0 (.dU _ "defaults" _) _ [p,rT 0,nx,n6,nx,m_]=c (na,[nJ,B],[p,qI 0 [vu,wg,xO,zM,œ],m_,nS,wV,nx,nx])) (oQ (pj sa q 1 x 0 fs [vu,wg,xO,zM] (Dx ..) e e e)),mY aeV,m1 (dP _ n0 (.dU _ "names" _) _ [p,rT 0,nx,nS,nx,m_,nx]=c (na,[nJ,B],[p,qI 0 [vu,wg,xO,zM,œ,aPx],m_,n6,wV,nx,m_,nx])) (oQ (pj sa q 1 x 0 fs [vu,wg,xO,zM,œ] (Dx ..) e e e)),mY Eb,m1 (dP _ n0 (.dU _ "origins" _) _ [p,rT 0,m_,nS,nx,m_,nx,m_]=c (na,[nJ,B],[p,qI 0 [vu,wg,xO,zM,œ,aPx,oV "origins" 8],nx,n6,wV,nx,m_,nx,n6])) (oQ (pj sa q 1 x 0 fs [vu,wg,xO,zM,œ,aPx] (Fc ..) e e e)),mY Ec,m1 (dP _ n0 (.dU _ "renamed" _) _ [p,rT 0,m_,nS,nx,nx,nx,m_,nS]=c (na,[nJ,B],[p,qI 0 [vu,wg,xO,zM,œ,aPx,oV "origins" 8,oV "renamed" 9],nx,n6,wV,m_,m_,nx,n6,n6])) (oQ (pj sa q 1 x 0 fs [vu,wg,xO,zM,œ,aPx,oV "origins" 8] (Fc ..) e e e)),mY Ed,m1 (dP _ n0 (.dU _ "shaping" _) _ [p,rT 0,nx,nS,wV,nx,nx,m_,nS,nS]=c (na,[nJ,B],[p,qI 0 [vu,wg,xO,zM,œ,aPx,oV "origins" 8,oV "renamed" 9,vG "shaping"],m_,n6,nx,m_,m_,nx,n6,n6])) (oQ (pj sa q 1 x 0 fs [vu,wg,xO,zM,œ,aPx,oV "origins" 8,oV "renamed" 9] nU e e e)),mY ap2,m1 (dP _ n0 (.dU _ "putting" _) _ [p,rT 0,nx,nS,wV,nx,nx,m_,nS,nS]=c (na,[nJ,B],[p,qI 0 [vu,wg,xO,zM,œ,aPx,oV "origins" 8,oV "renamed" 9,vG "shaping",vG "putting"],m_,n6,nx,m_,m_,nx,n6,n6])) (oQ (pj sa q 1 x 0 fs [vu,wg,xO,zM,œ,aPx,oV "origins" 8,oV "renamed" 9,vG "shaping"] nU e e e)),mY awf,n4 (oQ (t8 (Z' p h kv []) B)) V eh,m1 (b4 _ _ atw _ _=c (na,[nJ,V],abD p kv)) (AB s0 (AB s1 (AB BS (AB Cd (AB aeV (AB Eb (AB Ec (AB Ed (AB ap2 (AB awf (AB ((ni (p5 DJ 1) _ _ _ (Dj ..) e).ah eh) sV))))))))))),mY l1,SE,l1];rfl
def Gt{cf}{x ac}{Aa}{l}{w a4 dm}{vs}(b:o5 (h0 T cf Aa l w) vs)(Ab:T.ahD x=c (c ac))(hc:cf ac (.D a4.z::vs) (a4++[rv x])=c (.B,dm)):aNW (.lJ x Aa)=c (.D a4.z,dm):=by rw[rc (pk ta b)];simp only[ap.eO,Ab,hc,fU]
def KK{cf}{x}{l}{w}(Ab:T.ahD x=c B):aNW (.lJ x .C)=c (.D w.z,w++[rv x]):=by rw[aRB oy];simp only[ap.eO,Ab,r.adn,fU]
def K8:∀{cf}{f o j}{l}{w a4}{y}{q}{aq}{i}(J:o5 (aQ1 j) y)(a_:o5 (ç f a4) n3)(aG:o5 (ç o a4) Ė)(Ab:pO a4 uH)(aB:rG i.z),dP T cf (.jl f o j) l w=c (na,l,a4.b6 q aUS):=by rw[mY cf f o j l w a4 y q aq i,mY J a_ aG Ab aB];simp only[Ly,J];simp only[ap.eO];rw[a_];simp only[ap.eO];simp only[aak];rw[aG];simp only[ap.eO];rw[show lm a4 q Ė y=c (a4.b6 q aUS)by delta lm;rw[Ab,mW c0 (qm (by rw[xh]))]];rfl
def XC(p dn dA dY dZ d0 d9 d1)(h):aOc 2 1 [oW,.m 5,og "E"] [p,acd,dn,dA,wV,dY,dZ,d0,d9,d1]=c (.D 10,[p,acd,dn,dA,oU [.B,.D 10],dY,dZ,d0,d9,d1,jM 1 5 "E" (-1) []]):=by rw[m1 (∀eN,aU _ n0 (.be _ "decls") [nJ,nn 5,č "E",eN] _=c (.D 4,[p,acd,dn,dA,wV,dY,dZ,d0,d9,d1])) (fun eN=>C8 (nv (Ba _ 1 0 _) e e e) e),mY a_,m1 (∀eN cL,aU _ n0 (.be _ "decls") [nJ,nn 5,č "E",eN] _=c (.D 4,[p,acd,dn,dA,wV,dY,dZ,d0,d9,d1,cL])) (fun eN cL=>C8 (Ba _ 1 0 _ _ _ e e e) e),mY ak5,m1 (aU _ _ _ [nJ,nJ,nJ,B] _=c (nG,[p,acd,dn,dA,nx,dY,dZ,d0,d9,d1])) (qZ Dk a_),mY aB,m2 (M6 h [p,acd,dn,dA,wV,dY,dZ,d0,d9,d1] nG (.m 5) "E"),mY Ab];have cu:ny n0 (.lJ 1 (pH (sW à) qc ph)) [nZ,nn 5,č "E",B] [p,acd,dn,dA,wV,dY,dZ,d0,d9,d1]=c (.D 10,[p,acd,dn,dA,wV,dY,dZ,d0,d9,d1,jM 1 5 "E" (-1) []]):=Gt (Ae aB aNM) e Ab;rw[m2 (oQ (sk (n7 CG qx _ [p,acd,dn,dA,nx,dY,dZ,d0,d9,d1,jM 1 5 "E" (-1) []] 4 _) (.D 10) (m7 ak5) e nz e)),mY lw];have l1:b4 T n0 aqO [nZ,nn 5,č "E",B] [p,acd,dn,dA,wV,dY,dZ,d0,d9,d1]=c (.bu (.D 10),[nZ,nn 5,č "E",tx 10],[p,acd,dn,dA,oU [.B,.D 10],dY,dZ,d0,d9,d1,jM 1 5 "E" (-1) []]):=AB (Bh cu) (AB (BX lw) (C3 (Aj e)));simp only[A_,l1];rfl
def Acf:∀(df c6 dn dA ek dY dZ d0 d9 d1 ev)(h),bc T bo nB 90 [tJ,oW] [df,c6,dn,dA,ek,dY,dZ,d0,d9,d1,ev,rv 2]=c (.B,[df,c6,dn,dA,ek,dY,dZ,d0,d9,d1,ev,arI]):=by rw[mY df c6 dn dA ek dY dZ d0 d9 d1 ev h,m1 (dP _ nT (m7 .dU qc) _ [df,c6,dn,dA,ek,dY,dZ,d0,d9,d1,ev,rT 2]=c (na,[nJ,nJ],[df,c6,dn,dA,ek,dY,dZ,d0,d9,d1,ev,qI 2 [aPy]])) (oQ (pj sa q 11 x 2 fs [] nz e e e)),mY s0,m1 (dP _ nT (.dU _ "deep" _) _ [df,c6,dn,dA,ek,dY,dZ,d0,d9,d1,ev,rT 2]=c (na,[nJ,nZ],[df,c6,dn,dA,ek,dY,dZ,d0,d9,d1,ev,qI 2 [aPy,sI]])) (oQ (pj sa q 11 x 2 fs [aPy] nU e e e)),mY s1,m1 (dP _ nT (.dU _ "most_rounds" (.bL "MOST_ROUNDS" _)) _ [df,c6,dn,dA,ek,dY,dZ,d0,d9,d1,ev,rT 2]=c (na,[nJ,nZ],[df,c6,dn,dA,ek,dY,dZ,d0,d9,d1,ev,qI 2 [aPy,sI,sM "most_rounds" 200]])) (oQ (pj sa q 11 x 2 fs [aPy,sI] (Dj ..) e e e)),mY BS,m1 (dP _ nT (.dU _ "most_deep" (.bL "MOST_SHAPES" _)) _ [df,c6,dn,dA,ek,dY,dZ,d0,d9,d1,ev,rT 2]=c (na,[nJ,nZ],[df,c6,dn,dA,ek,dY,dZ,d0,d9,d1,ev,qI 2 [aPy,sI,sM "most_rounds" _,sM "most_deep" 40]])) (oQ (nI (sa (q:=11)) x 2 fs [aPy,sI,sM "most_rounds" 200] (Dj ..) e e e)),mY Cd,m1 (dP _ nT (.dU _ "lib" _) _ [df,c6,dn,dA,ek,dY,dZ,d0,d9,d1,ev,rT 2]=c (na,[nJ,nZ],[df,c6,dn,dA,ek,dY,dZ,d0,d9,d1,ev,qI 2 [aPy,sI,sM "most_rounds" _,sM "most_deep" _,("lib",.B)]])) (oQ (pj sa q 11 x 2 fs [aPy,sI,sM "most_rounds" 200,sM "most_deep" 40] (IB ..) e e e)),mY aeV,m1 (b4 _ _ atv _ _=c (na,[nJ,nJ],[df,c6,dn,dA,ek,dY,dZ,d0,d9,d1,ev,arI])) (AB s0 (AB s1 (AB BS (AB Cd (AB aeV sV))))),mY l1];simp only[SH,l1];rfl
def Aan:∀(df c6 dn dA ek dY dZ d0 d9 d1 ev fg:c_)(h:u),aOc 2 93 [nQ,tJ,È] [df,c6,dn,dA,ek,dY,dZ,d0,d9,d1,ev,fg,rv 3]=c (.B,[df,c6,dn,dA,ek,dY,dZ,d0,d9,d1,ev,fg,vW [sL,qH,vC,wh,w2,Ŋ,yH,sI,ym,Ŕ,y0 pg,Ő,aQV "",ź],sj,nS,nS,m_,m_,tw,m_]):=by rw[mY df c6 dn dA ek dY dZ d0 d9 d1 ev fg h,m1 (dP T n0 (.dU pn "host" qc) [px,ve,nn 4] [df,c6,dn,dA,ek,dY,dZ,d0,d9,d1,ev,fg,rv 3]=c (na,[px,ve,nn 4],[df,c6,dn,dA,ek,dY,dZ,d0,d9,d1,ev,fg,qI 3 [sL]])) (oQ (pj sa q 12 x 3 fs [] nz e e e)),mY s0,m1 (dP T n0 (.dU pn "mode" ph) [px,ve,nn 4] [df,c6,dn,dA,ek,dY,dZ,d0,d9,d1,ev,fg,qI 3 [sL]]=c (na,[px,ve,nn 4],[df,c6,dn,dA,ek,dY,dZ,d0,d9,d1,ev,fg,vW [sL,qH]])) (oQ (pj sa q 12 x 3 fs [sL] nz e e e)),mY s1,m1 (dP T n0 (.dU pn "rules" (.lK G)) [px,ve,nn 4] [df,c6,dn,dA,ek,dY,dZ,d0,d9,d1,ev,fg,vW [sL,qH]]=c (na,[px,ve,nn 4],[df,c6,dn,dA,ek,dY,dZ,d0,d9,d1,ev,fg,vW [sL,qH,vC],sj])) (oQ (pj sa q 12 x 3 fs [sL,qH] (Xv ..) e e e)),mY BS,m1 (aO9 "assumed" [df,c6,dn,dA,ek,dY,dZ,d0,d9,d1,ev,fg,xC,r1] [df,c6,dn,dA,ek,dY,dZ,d0,d9,d1,ev,fg,vW [Į,qH,į,wh],sj,n6]) (oQ (pj sa q 12 x 3 fs [sL,qH,vC] (Fc ..) e e e)),mY Cd,m1 (aO9 "known" [df,c6,dn,dA,ek,dY,dZ,d0,d9,d1,ev,fg,xC,sj,nS] [df,c6,dn,dA,ek,dY,dZ,d0,d9,d1,ev,fg,vW [Į,qH,į,Ź,w2],r1,n6,n6]) (oQ (pj sa q 12 x 3 fs [sL,qH,vC,wh] (Fc ..) e e e)),mY aeV,m1 (aO9 "trail" [df,c6,dn,dA,ek,dY,dZ,d0,d9,d1,ev,fg,xC,sj,nS,nS] [df,c6,dn,dA,ek,dY,dZ,d0,d9,d1,ev,fg,vW [Į,qH,į,Ź,aOH,Ŋ],r1,n6,n6,nx]) (oQ (pj sa q 12 x 3 fs [sL,qH,vC,wh,w2] (Dx ..) e e e)),mY Eb,m1 (aO9 "road" [df,c6,dn,dA,ek,dY,dZ,d0,d9,d1,ev,fg,xC,sj,nS,n6,nx] [df,c6,dn,dA,ek,dY,dZ,d0,d9,d1,ev,fg,vW [Į,qH,į,Ź,aOH,aQm,yH],r1,n6,nS,m_,nx]) (oQ (pj sa q 12 x 3 fs [sL,qH,vC,wh,w2,Ŋ] (Dx ..) e e e)),mY Ec,m1 (aO9 "deep" [df,c6,dn,dA,ek,dY,dZ,d0,d9,d1,ev,fg,xC,sj,n6,n6,nx,nx] [df,c6,dn,dA,ek,dY,dZ,d0,d9,d1,ev,fg,vW [Į,qH,į,Ź,aOH,aQm,aSs,sI],r1,nS,nS,m_,m_]) (oQ (pj sa q 12 x 3 fs [sL,qH,vC,wh,w2,Ŋ,yH] nU e e e)),mY Ed,m1 (aO9 "looks" [df,c6,dn,dA,ek,dY,dZ,d0,d9,d1,ev,fg,xC,sj,n6,n6,nx,nx] [df,c6,dn,dA,ek,dY,dZ,d0,d9,d1,ev,fg,vW [Į,qH,į,Ź,aOH,aQm,aSs,sI,ym],r1,nS,nS,m_,m_]) (oQ (nI (sa (q:=12)) x 3 fs [sL,qH,vC,wh,w2,Ŋ,yH,sI] nU e e e)),mY ap2,m1 (dP _ nT _ _ [df,c6,dn,dA,ek,dY,dZ,d0,d9,d1,ev,fg,xC,sj,n6,n6,nx,nx,xD]=c (na,[nJ],[df,c6,dn,dA,ek,dY,dZ,d0,d9,d1,ev,fg,vW [sL,qH,vC,wh,w2,Ŋ,yH,sI,ym],r1,nS,nS,m_,m_,tw,nx])) (oQ (pj sa q 18 x 4 fs [] (Dx ..) e e e)),mY aKv,m1 (m7 (ni bc)=c (.B,[df,c6,dn,dA,ek,dY,dZ,d0,d9,d1,ev,fg,xC,r1,n6,n6,nx,nx,xD,nx])) (by rw[m1 (b4 _ _ att _ _=c (na,[nJ],[df,c6,dn,dA,ek,dY,dZ,d0,d9,d1,ev,fg,xC,r1,n6,n6,nx,nx,xD,nx])) (AB aKv sV),mY l1,SN,l1];rfl),mY ad9,m1 (dP _ (aA _) (.dU _ "notes" _) _ _=c (na,[nJ,ve,nn 4],[df,c6,dn,dA,ek,dY,dZ,d0,d9,d1,ev,fg,vW [Į,qH,į,Ź,aOH,aQm,aSs,sI,ym,Ŕ],r1,n6,n6,nx,nx,xD,nx])) (oQ (pj sa q 12 x 3 fs [Į,qH,į,Ź,aOH,aQm,aSs,sI,ym] (nI Gt a4 [df,c6,dn,dA,ek,dY,dZ,d0,d9,d1,ev,fg,xC,r1,n6,n6,nx,nx] dm [df,c6,dn,dA,ek,dY,dZ,d0,d9,d1,ev,fg,xC,r1,n6,n6,nx,nx,xD,nx] oy e ad9) e e e)),mY awf,m1 (aO9 "telling" [df,c6,dn,dA,ek,dY,dZ,d0,d9,d1,ev,fg,xC,sj,nS,nS,nx,nx,xD,nx] [df,c6,dn,dA,ek,dY,dZ,d0,d9,d1,ev,fg,vW [Į,qH,į,Ź,aOH,aQm,aSs,sI,ym,oV "notes" _,y0 pg],r1,n6,n6,m_,m_,tw,m_]) (oQ (pj sa q 12 x 3 fs [sL,qH,vC,wh,w2,Ŋ,yH,sI,ym,Ŕ] (Fv ..) e e e)),mY aKW,m1 (aO9 "twin" [df,c6,dn,dA,ek,dY,dZ,d0,d9,d1,ev,fg,xC,sj,nS,nS,m_,nx,xD,nx] [df,c6,dn,dA,ek,dY,dZ,d0,d9,d1,ev,fg,vW [Į,qH,į,Ź,aOH,aQm,aSs,sI,ym,oV "notes" _,y0 vq,Ő],r1,n6,n6,nx,m_,tw,m_]) (oQ (pj sa q 12 x 3 fs [sL,qH,vC,wh,w2,Ŋ,yH,sI,ym,Ŕ,y0 pg] (IB ..) e e e)),mY aKX,m1 (aO9 "missing" [df,c6,dn,dA,ek,dY,dZ,d0,d9,d1,ev,fg,xC,sj,nS,nS,nx,nx,xD,nx] [df,c6,dn,dA,ek,dY,dZ,d0,d9,d1,ev,fg,vW [Į,qH,į,Ź,aOH,aQm,aSs,sI,ym,oV "notes" _,y0 vq,Ő,aQV ""],r1,n6,n6,m_,m_,tw,m_]) (oQ (pj sa q 12 x 3 fs [sL,qH,vC,wh,w2,Ŋ,yH,sI,ym,Ŕ,y0 pg,Ő] (DI ..) e e e)),mY Fl,m1 (aO9 "at" [df,c6,dn,dA,ek,dY,dZ,d0,d9,d1,ev,fg,xC,sj,nS,nS,nx,nx,xD,nx] [df,c6,dn,dA,ek,dY,dZ,d0,d9,d1,ev,fg,vW [Į,qH,į,Ź,aOH,aQm,aSs,sI,ym,oV "notes" _,y0 vq,Ő,("missing",uW),ź],r1,n6,n6,m_,m_,tw,m_]) (oQ (pj sa q 12 x 3 fs [sL,qH,vC,wh,w2,Ŋ,yH,sI,ym,Ŕ,y0 pg,Ő,aQV ""] nU e e e)),mY ap1,m1 (b4 _ _ atu _ _=c (na,[nJ,nJ,nJ],[df,c6,dn,dA,ek,dY,dZ,d0,d9,d1,ev,fg,xC,r1,n6,n6,nx,nx,xD,nx])) (AB s0 (AB s1 (AB BS (AB Cd (AB aeV (AB Eb (AB Ec (AB Ed (AB ap2 (AB awf (AB aKW (AB aKX (AB Fl (AB ap1 sV)))))))))))))),mY l1];simp only[SK,l1];rfl
def Ace(df c6 dn dA ek dY dZ d0 d9 d1 ev fg:c_)(cf:iV)(l:dv)(b:nX l 3 px):dP T cf (.dU qx "telling" oX) l [df,c6,dn,dA,ek,dY,dZ,d0,d9,d1,ev,fg,vW [sL,qH,vC,wh,w2,Ŋ,yH,sI,ym,Ŕ,y0 pg,Ő,aQV "",ź],sj,nS,nS,m_,m_,tw,m_]=c (na,l,[df,c6,dn,dA,ek,dY,dZ,d0,d9,d1,ev,fg,zW,sj,nS,nS,m_,m_,tw,m_]):=oQ (ni (Ep T cf _ _ _) oX 12 3 [sL,qH,vC,wh,w2,Ŋ,yH,sI,ym,Ŕ,y0 pg,Ő,aQV "",ź] (Fv ..) (Aj b) e e)
def Aaw(df c6 dn dA ek dY dZ d0 d9 d1 ev fg)(h):bc T bo nB 52 [nQ] [df,c6,dn,dA,ek,dY,dZ,d0,d9,d1,ev,fg,zW,sj,nS,nS,m_,m_,tw,m_]=c (.B,[df,c6,dn,dA,ek,dY,dZ,d0,d9,d1,ev,fg,zW,u_ [yG],nS,nS,m_,m_,tw,m_,æ]):=by rw[m1 (dP _ nT (.jl (.be _ "rules") (.bL "RULE_DEFERRED" _) _) _ [df,c6,dn,dA,ek,dY,dZ,d0,d9,d1,ev,fg,k6 _ 0 0 _,r1,n6,n6,m_,m_,xD,nx]=c (na,[nJ],[df,c6,dn,dA,ek,dY,dZ,d0,d9,d1,ev,fg,zW,u_ [yG],n6,n6,nx,nx,xD,nx,rT 5])) (oQ (nI (nI K8 q 13 aq 2) i [] a4 [df,c6,dn,dA,ek,dY,dZ,d0,d9,d1,ev,fg,k6 _ 0 0 _,r1,nS,nS,nx,nx,tw,m_,rT 5] (KK e) (C8 (Ba _ 12 3 _ _ _ e e e) e) (Dj ..) e)),mY k,m1 (b4 _ _ atA _ _=c (na,[nJ],[df,c6,dn,dA,ek,dY,dZ,d0,d9,d1,ev,fg,k6 _ 0 0 _,r1,n6,n6,nx,nx,xD,nx,rT 5])) (AB k sV),mY l1];simp only[Sk,l1];rfl
def Aax(df c6 dn dA ek dY dZ d0 d9 d1 ev fg)(h):bc T bo nB 67 [nQ] [df,c6,dn,dA,ek,dY,dZ,d0,d9,d1,ev,fg,zW,u_ [yG],nS,nS,m_,m_,tw,m_,æ]=c (.B,[df,c6,dn,dA,ek,dY,dZ,d0,d9,d1,ev,fg,zW,u_ [yG,Œ],nS,nS,m_,m_,tw,m_,æ,rv 6]):=by rw[m1 (dP _ nT (.jl (.be _ "rules") (.bL "RULE_OBJECT" _) _) _ [df,c6,dn,dA,ek,dY,dZ,d0,d9,d1,ev,fg,k6 _ 0 0 _,r1,n6,n6,nx,nx,xD,nx,æ]=c (na,[nJ],[df,c6,dn,dA,ek,dY,dZ,d0,d9,d1,ev,fg,zW,u_ [oV 2 _,Œ],n6,n6,nx,nx,tw,nx,rT 5,rT 6])) (oQ (nI (nI K8 q 13 aq 5) i [yG] a4 [df,c6,dn,dA,ek,dY,dZ,d0,d9,d1,ev,fg,k6 _ 0 0 _,r1,nS,nS,m_,m_,xD,m_,rT 5,rT 6] (KK e) (C8 (Ba _ 12 3 _ _ _ e e e) e) (Dj ..) e)),mY k,m1 (b4 _ _ atz _ _=c (na,[nJ],[df,c6,dn,dA,ek,dY,dZ,d0,d9,d1,ev,fg,k6 _ 0 0 _,r1,n6,n6,nx,nx,xD,nx,rT 5,rT 6])) (AB k sV),mY l1];simp only[Ss,l1];rfl
def Aav(df c6 dn dA ek dY dZ d0 d9 d1 ev fg)(h):bc T bo nB 66 [nQ] [df,c6,dn,dA,ek,dY,dZ,d0,d9,d1,ev,fg,zW,u_ [yG,Œ],nS,nS,m_,m_,tw,m_,æ,rv 6]=c (.B,[df,c6,dn,dA,ek,dY,dZ,d0,d9,d1,ev,fg,zW,u_ [yG,Œ,oV 14 22],nS,nS,m_,m_,tw,m_,æ,rv 6,rv 7]):=by rw[m1 (dP T nT (.jl (sO "rules") (.bL "RULE_WORD" (.m 14)) (.lJ 7 .C)) [px] [df,c6,dn,dA,ek,dY,dZ,d0,d9,d1,ev,fg,zW,u_ [yG,Œ],nS,nS,m_,m_,tw,m_,æ,rv 6]=c (na,[px],[df,c6,dn,dA,ek,dY,dZ,d0,d9,d1,ev,fg,zW,u_ [yG,Œ,oV 14 22],nS,nS,m_,m_,tw,m_,æ,rv 6,rv 7])) (oQ (nI (nI K8 q 13 aq 14) i [yG,Œ] a4 [df,c6,dn,dA,ek,dY,dZ,d0,d9,d1,ev,fg,zW,u_ [yG,Œ],nS,nS,m_,m_,tw,m_,æ,rv 6,rv 7] (KK e) (C8 (Ba _ 12 3 _ _ _ e e e) e) (Dj ..) e)),mY k,m1 (b4 T nT atB [px] [df,c6,dn,dA,ek,dY,dZ,d0,d9,d1,ev,fg,zW,u_ [yG,Œ],nS,nS,m_,m_,tw,m_,æ,rv 6]=c (na,[px],[df,c6,dn,dA,ek,dY,dZ,d0,d9,d1,ev,fg,zW,u_ [yG,Œ,oV 14 22],nS,nS,m_,m_,tw,m_,æ,rv 6,rv 7])) (AB k sV),mY l1];simp only[Sr,l1];rfl
def AbR{cf:iV}{d o:dz}{l:dv}{w a4 dm:ch}{p:ar}{q:R}{i:nC}(Q:o5 (aQ1 d) p)(h2:ç o a4=c (n',dm))(h3:j7 dm p=c i)(h4:(b1 ļ&&g2 q)=G):aNW (.ady d o)=c (u' i.gu q.es,dm):=by rw[rc (pk ta Q)];simp only[ap.eO,h2,asu,ED,h3,h4,fU,ap.ji]
abbrev al1(xs:nC):aH:={bs:=0,xs:=xs,ak:=kv,afK:=aaw 0 kv,ds:=[],dK:=[],iL:=[],bw:=[],ey:=[],fO:=[],eM:=[],apL:=[],gU:=[],e4:=0,c2:=0,k1:="",abj:=[],fQ:=[],lZ:=[],Ap:=0,ca:=[]}
abbrev afj(aE:ar)(gd fJ eN:pl):dv:=[c aE,gd,fJ,eN,B,B,B,B,B,B,B,B,B,B,B,B,B,B,B,B]
abbrev aEh:cx→cx→cx|.s s1 (.s BS (.s Cd (.s aeV (.s Eb (.s Ec (.s Ed (.s ap2 _))))))),g=>.s s1 (.s BS (.s Cd (.s aeV (.s Eb (.s Ec (.s Ed (.s ap2 g)))))))|f,_=>f
def ZY:∀(cL:n1)(h:u)(g:cx),b4 T wL (aEh agh g) (afj r7 B B B) []=b4 T wL g (afj r7 sc nZ px) ((al1 ((cL.gu 63).au .m)).g8.gu 23):=by intro cL h g;(have hc:ny wL (aRl (.A 19) 19 (.ady (.A 0) (.m 63))) (afj r7 B B B) []=c (u' (cL.gu 63).au .m,[]):=by rw[m1 (ny wL (.ady (.A 0) (.m 63)) (afj r7 B B B) []=c (u' (cL.gu 63).au .m,[])) (by rw[m2 (ű DG 63),mY aHz,r.apz,mW AbR nz nU e (qZ (sr (nc 63) (ob 63) e) aHz)]),mY hs,mW (sb (ni (oM Ch T)) (cL.gu 63) ar.m ar.m hs e e (fun j P=>nz))]);rw[m1 (ny wL (.hw (.s nr (nA (aRl (.A 19) 19 (.ady (.A 0) (.m 63)))))) (afj r7 B B B) []=c (Ę,[oU [nr,u' (cL.gu 63).au .m]])) (qZ C7 (Ae nU (aST hc))),mY aV];generalize avo:(cL.gu 63).au ar.m=xs at aV⊢;rw[m1 (ny wL (.lJ 0 .C) (afj r7 sc B B) [oU [nr,oh xs]]=c (oW,abD (oU [nr,oh xs]) kv)) (Gt oy e (Acs _ (h+2))),mY bj,m1 (aU T wL (.bp 1 (pH ph (.m 5) (og "E"))) (afj r7 sc nZ B) (abD (oU [nr,oh xs]) kv)=c (.D 10,(al1 xs).g8.gu 11)) ((xZ nz (o2 nU (DI ..) oy)).ah (qn XC (h+2))),mY cV,m1 (aU T wL (.lJ 2 (nA ph)) (afj r7 sc nZ B) ((al1 xs).g8.gu 11)=c (tJ,(al1 xs).g8.gu 12)) (Gt (vx nz) e (n7 (qn Acf) (h+3))),mY aG3,m2 (Gt (x:=3) (Ae aG3 (vx (Ao T wL 4 _ _))) e (ni (qn Aan) (h+2))),mY gp,mW AB (Bh aV) (AB (Bh bj) (AB (BX cV) (AB (Bh gp) (AB (nv (ni (qn Ace)) e) (AB (BX ((xZ nz oy).ah (ni (qn Aaw) (h+3)))) (AB (BX ((xZ nz oy).ah (ni (qn Aax) (h+3)))) (AB (BX ((xZ nz oy).ah (n7 (ni (Ķ Aav)) (h+3)))) e)))))))]
abbrev aor:u→cx→cx|0,g=>g|nB,.s _ g=>aor h g|_+1,.C=>.C
def AcW(cL:n1)(arr:cL.z≤63):aky (al1 (cL.au .m)) [] [] [] 0:={aF:={kh:=e,eX:=fun q l b=>b,cO:=by rw[m6 kv.fF];decide,aS:=aOw,eM:=e,ey:=e,jX:=r.ahO,fO:=e,ks:=fun f g y d=>aQA d,jW:=R.kH _},ca:=e,Ap:=e,xs:=qS cL,adN:=e,fQ:=e,eY:=e,jK:=e,ul:=e,adQ:=e,dl:=e,adO:=fun g b=>aQA b,up:=fun aq aP b=>by rw[Ē],cl:=fun aq d b=>by rw[Ē],aap:=fun aq a0 b=>by rw[m1 (p7 ([]:r lr) a0) b,mY h'];simp at h',cc:=e,eo:=e,abB:=e,bd:=(By e e e (by rw[m6 (rH cL.au ar.m≤63)];rw[r.hN]at⊢;exact arr)),bN:=qm (by rw[m6 (0≤_)]),np:=fun q n b=>by rw[m1 (pO kv v4) b,mY h',m2 (r.lI h'),m5];revert aa;unfold kv;exact yL,gT:=by rw[m6 (kv.z≤_)];decide}
def Q6(f g:u)(w):lY w .e_ th y_=c (vl (f+g)):=by rw[m6 (nJ=_)];simp only[R.aDT]at⊢
def AcH:∀(cL:n1)(h),∃(a:aH)(al:n1)(aD:nL)(b3:aTx)(bV:aR)(W:nL)(o:u)(eA et:pl),b4 T Ħ agh (afj r7 B B B) []=b4 T Ħ (aor 12 agh) (iq xd qV eA et B B B B B B r7 nQ) a.F∧w1∧o≤40∧ud W.z∧qe W:=by rw[ē cL];rcases(Ac0 ((al1 ((cL.gu 63).au .m)).g8.gu 23) (al1 ((cL.gu 63).au .m)) e e (AcW _ (by rw[r.aiG]at⊢;exact Ag [m7 ab7] S 63 S 63 e (m7 u.alA))) e h)with(⟨z1,al,aD,b3,bV,eh,eg,agK,⟨aoT,agB,auD,auE⟩,kW,aIJ,fT⟩);rw[m2 eg.Ap,mY i4,m1 (z1.ad=aT7) (by unfold aH.ad;rw[agK]at⊢;rfl),mY aHX];have hk:aRt hi (z1.As m_) bV [] 0:=have b7:fR z1 (z1.As m_):=tW;{eg:=u7 (eg.bx (eg.aF.As _) b7 e e) e e e,ca:=⟨[],by rw[m6 (z1.ca++[_]=_)];rw[agK]at⊢;rfl⟩,aca:=fun q n b=>ej b (aIJ q n),jK:=by rw[m6 (z1.dK.z≤_)];rw[aoT]at⊢;decide,ac8:=by rw[m6 (z1.iL.z≤_)];rw[agB]at⊢;decide,adr:=by rw[m6 (z1.bw.z≤_)];rw[auD]at⊢;decide,bN:=by rw[m6 (z1.bs≤_),mW kW],gT:=by rw[m6 (z1.ak.z≤_),mW fT],hx:=fun q d b=>by rw[Ē],cO:=r.ahO,Av:=ra};rw[m1 (∃ael:r _,(z1.As m_).xs=ael.au _) eg.xs,mY avo,o8 avo,mZ avo];rintro ael aMZ;rw[m1 (aU _ Ħ _ (iq xd Ę B B B B B B B B r7 nQ) _=c _) (by rw[Dx,Bj,Cc z1 _ (m4 (Ag [z1.Ap,z1.ca.z] S ai S 0 e (Az i4))),aHX]at⊢),mY aiu,m1 (nX (z1.As m_).F 0 (oU [.m z1.bs,oh z1.xs])) (BH _),mY BH,m1 (rm (lY (z1.As m_).F _ _ ŭ) (ob (z1.xs.z/10))) (by rw[m2 (DG z1.xs.z (m4 (aUO auE))),mY s1,m1 (g2 (nc 10)=G) nw,mY BS];rw[FI,NQ,c0 (by rw[s1,BS]at⊢;rfl),R.aKB]at⊢;rfl),mY aIe,m1 (∃t:u,t≤3∧∀l:dv,nX l 1 sc→ny Ħ (.ang (rk abo (sW (x2 nG)) ŭ) uN) l (z1.As m_).F=c (.m t,(z1.As m_).F)) (by rw[mX Ad (if nc 3<ob (z1.xs.z/10)then 3 else z1.xs.z/10) (by split;rw[mW u.kH 3,mW R.ads.1 (aOy R.aa6.1)]) (fun l br=>?_),m1 (ny Ħ (sW (.aT _ nG)) l (z1.As m_).F=c (xl,(z1.As _).F)) (by rw[Dk,Bm (Aj br) nU (y:=oh z1.xs) (pX Oj BH e)]at⊢;rfl),mY aB,aRB (B7 aB nU aIe)];simp only[ap.eO,ED,Ao];split<;>rfl),mY arC,p4 arC,mZ arC];rintro t cG arC;rw[m3 ES (n7 (ZS h r7 nQ (3+t) 0 _ al aD) 0 B B hk (m4 (Ag [t] (0+(tz 4 (3+S))+1) 80 (su 4) (qQ 4 3) e (AM 4 cG))) (by simp;exact Ag [t] (3+S+1) 10 S 3 e cG))];rintro W bz ai1 ae7 kD da aB dw;rw[m1 (bz.ds.z=z1.ds.z) (by simp only[da.eg.dl,eg.dl]at⊢),mY hd,mX Ul _ al aD _ _ W _ ai1 ae7 ?_ da (m4 (Ag [t] (0+(tz 4 (3+S))) 40 (su 4) (qQ 4 3) e (AM 4 cG))) (by simp at aB;exact Am [t,W.z] ai 6 S 3 ai (3+S) e cG aB) (dw (aQ.bT (m4 (yQ (Ag [t] 1 0 (3+S) 0 e (Az dO)))))),m1 (ny (aA _) (.bp _ (.s (.A 1) (ġ ph))) (m7 (afj r7) px) _=c _) (zh aNM eh),mY aV,m1 (agh=aEh agh (aor 8 agh)) e,mY U];rw[U,ZY cL (h+2) (aor 8 agh)]at⊢;rw[mX AB (Bh aV) (AB (qn G1 _ (A3 (o2 (aTz nz aR1) (aTz nz (D4 ..)) oy)) e) (AB (Bh aiu) (AB ((qn G0 _ _ (vx (B7 nU (arC _ e) (Q6 3 t _))) (Fk _ (m4 (Ag [t] (3+S+1) 2000 S 3 e cG)))).ah kD) ?_)))];rw[hd]at⊢;rfl
def Ip(a:aH)(aq)(b:xk≠a.Ap):a.F[aN0]?=Ä a.ca:=by rw[m1 (a.gl≠aN0) (by unfold aH.gl;split<;>omega),mY iN,aPY,r.agx iN,r.aih (qm (by rw[aUb Bs Ca])),uh,aUb Bs Ca,mW (q2 (Br [aN0-qR,aq,a.ds.z] S ai (S+Ĥ) (Ĥ+ai) e) (AJ [aN0-qR,aq,a.ds.z] Ĥ (Ĥ+ai) e))]
structure abM(a:aH)(M:pu)(al:n1)(W:nL)(x:u):Prop where
 aF:ĵ
 un:yT
 abB:Ú
 eo:a.e4=0
 cc:aQM x
 rw:a.ak.z+(x+x+x+x)<890000
 hx:∀(q:u)(d:aR),op W d→j_ a al W d q
 Av:ud W.z
 t0:nX a.ca 0 v9
 t1:1≠a.Ap
def abM.i3{a}{M}{al}{W}{x}(n:abM a M al W x):qh qR v9:=(Ip a 0 n.t1).ah n.t0
def Qn(q)(b:q≤5):iI q≤304:=by rw[m1 (q=0∨q=1∨q=2∨q=3∨q=4∨q=5) (m4 (Yo q b)),m5,om];rcases aa with e|e|e|e|e|e<;>decide
def Acu(k:bv):k.Bf≤4:=by induction k using bv.ae<;>simp only[Ex,Ey,Ez]<;>(try split)<;>omega
def RE:∀{a}{M}{al}{W}{x}(n:abM a M al W (x+304))(k v)(hs:k∈W)(aS:v∈W)(ac)(b2:td 152),∃z' fA,qf (bc T bo ac 94 [nQ,.m k.v,.m v.v] a.F) (n5 (iE k v))∧abM z' fA al W x∧abg z' fA k.v v.v∧aNV 304∧aPm:=by injections a M al W x;intro n;injections k v;intro hs aS;injections ac;rw[mY b2,n4 (r.ajU.1 hs) q Ab,n4 (r.ajU.1 aS) aq cQ,u8 kf Ab,u8 aM1 cQ];have Aa:=n.hx q k Ab;have akR:=n.hx aq v cQ;have aaZ:=n.Av;rw[pv AC Aa.dT.A' vs asC P,pv AC akR.dT.A' dj aE6 P];have g_:=Aa.An;have kE:=Aa.dh;have afI:=Qn q (m4 (Am [q,W.z] S 5 nm ai ai 6 e kf aaZ));rw[m2 (Acu (cN a v.v)),mY aJi];have js:=n.cc;have kX:=n.rw;refine Dr (RF a (ac-8*sd k.v-40) k.v v.v M n.aF _ _ vs dj aE6 n.un n.abB (m4 (Yp (u.eI kE afI) js)) (m4 (Yq (u.eI kE afI) kX)) (by rw[n.eo];unfold bv.ha;exact Yr g_ kf aaZ aJi) (m4 (Am [v5 k.v,iI q] (S+1) 3980 S ai ai 304 e kE afI))) fun z' fA Q h2 h3 h4 h5=>?_;rw[rh (ac-8*sd k.v-40+8*sd k.v+40) ac (Yk (u.eI (u.adL (u.aiK 8 (O' g_ kf aaZ)) 40) b2)),nv Cg aE6,←E6 akR.dT Aa.dT]at Q;have amM:=h3.bx (h:=304) (m4 (u.eI kE afI));rw[m2 h3.le,mY b7,ot (h3.ca 0 _ n.t1 n.t0) d6 da,m2 amM.cc,mY ad3,m2 amM.gT,mY afG,mX BU z' fA Q ?_ h5 amM h4,mW {aF:=h2,un:=fun aj a0 b=>n.un aj a0 (uq h3.ds b),abB:=h3.gU.ah n.abB,eo:=h3.e4.ah n.eo,cc:=m4 (oa A5 [a.c2,↑x,z'.c2] (gY+d5) 20000 (b5+(d5+304)) 20000 gY (b5+304) e js ad3),rw:=m4 (oa Am (aR2 x z'.ak.z) (a8+(ai+ai+ai+ai)) 890000 (S+(ai+304+(ai+304)+(ai+304)+(ai+304))) 890000 a8 (sn S 4 304) e kX afG),hx:=fun q d b=>(n.hx q d b).bx b7 h3.ahF aQF,Av:=n.Av,t0:=d6,t1:=da}]
def abM.asH{a}{M}{al}{W}{x c'}(n:abM a M al W x)(b:c'≤x):abM a M al W c':={aF:=n.aF,un:=n.un,abB:=n.abB,eo:=n.eo,cc:=q7 n.cc (A5 [↑c',↑x,a.c2] (gY+b5+1) 20000 b5 d5 (gY+d5+1) 20000 e (Bb b) aa),rw:=q7 n.rw (t5 [c',x,a.ak.z] (a8+(S+S+S+S)) 890000 (su 4) (xr 4) (a8+(ai+ai+ai+ai)+1) 890000 e (AM 4 b) aa),hx:=n.hx,Av:=n.Av,t0:=n.t0,t1:=n.t1}
def abM.AY{a}{M}{al}{W}{x}(n:abM a M al W x)(aj)(hd:a.ds.z=aj):AY (aOG w9) a.F=G:=by subst hd;rw[m2 n.i3,m5];simp only[j4.AY,aa];simp
def NB(g:aTb)(k)(x)(j)(xs)(l)(w)(bW)(a4)(hs:AY x w=G)(b:g (aNQ k) w=c (na,bW,a4)):fZ g k x qi l w=fZ g k x xs bW a4:=qZ (n7 (ni HF) hs) b
def Ud{a}{M}{al}{W}{x}(n:abM a M al W x){d}(b:zG):d.eo≤7:=by rw[n4 (r.ajU.1 b) q Ab,u8 kf Ab,m2 (aTf n.hx).eo,mY t0,m2 n.Av,m5,mW u.eI t0 (u.adL (u.aps (u.k0 kf aa)) 2)]
abbrev avu:cx:=(nA (ts (on ne (.eT qx "ask" (.s (rq 10) (nA (rq 11)))) (s8 78 10 (.A 11))) (.s wA .C)))
def EP(d:aR)(w):rm (eC w d.aY nr) d.v:=by rw[yd d,mW (sF B5)]
def Vp:∀(bl)(aE)(ac aj)(b2:td 152)(eA et){al}{W}(k)(hs:k∈W)(j)(J:j∈W)(a)(M)(x)(hd:a.ds.z=aj)(n:abM a M al W (x+304)),∃z' fA,f0 T yn avu (iq bl zk eA et xj (c j.aY) B B B B aE nQ) a.F=c (na,Ř (aPL zk xj (c j.aY) B B),z'.F)∧abM z' fA al W x∧abg z' fA k.v j.v∧aNV 304∧aPm:=by rw[mY bl aE ac aj,mY b2,mY eA et al W k,mY hs,mY j,mY J,mY a M x,mY hd n,mX Dr (RE n k j hs J ac b2) fun z1 afe Q dN i0 t1 j6=>?_,m2 (Ud n hs),mY auM,m2 (Kv z1 (ac-k.eo) k j),mY h2];rw[rh (ac-k.eo+k.eo) ac (Br [ac,k.eo,ac-k.eo] (a8+ai) S (a8+ai) S e (s7 (Am [ac,k.eo,ac-k.eo] ai S 152 S ai 7 e b2 auM)))]at h2;refine(nM BU ?_ dN i0 t1 j6);refine BQ (a4:=z1.F) ?_ sV;rw[aQN ((Gs nz (OP _) (o2 (aTq (EP k _)) (aTq (EP j _)) oy)).ah Q) (zh aNM h2),m6 (c (ar.aO _)=_)];rw[aaU]at⊢;rfl
def Vn:∀(bl:ar)(aE:ar)(ac aj:u)(b2:td 152)(eA et:pl){al:n1}{W:nL}(k:aR)(hs:k∈W),∀(i:nL),(aNS i)→∀(a:aH)(M:pu)(x:u)(hF:pl),a.ds.z=aj→abM a M al W (x+304*i.z)→∃z' fA jD,fZ (ó yn avu) 11 (aOG w9) ſ (Ř (aPL zk xj hF B B)) a.F=c (na,Ř (aPL zk xj jD B B),z'.F)∧abM z' fA al W x∧(oG i (abg z' fA k.v j.v))∧hy a z' (304*i.z)∧aPm:=by injections bl aE ac aj;intro b2;injections eA et al W k;rw[mY hs,mY i];induction i with|C=>intro _ a M x hF hd n;exact⟨a,M,hF,ni F9 _ (n.AY aj hd),n.asH (by simp),fun j b=>aQA b,m7 hy.fI,ï⟩|s j i ih=>intro aB a M x hF hd n;simp only[r.kZ]at n⊢;rw[mX Dr (Vp bl aE ac aj b2 eA et k hs j (aUN aB) a M (x+304*i.z) hd (n.asH (m4 (AJ [x,i.z] (ro S 304+304) (aSC 304) e)))) fun z1 afe Q dN i0 t1 j6=>?_,mX BW (ih (aRq aB) z1 afe x (c j.aY) (nb t1.ds hd) dN) fun bz acm jD h2 dG aao d2 hM=>?_,mX CH bz acm jD ((qn NB _ (n.AY aj hd) Q).ah h2) dG ?_ ((t1.ah d2).bx (m4 (AJ [i.z] (rg 304 304) (vc 304) e))) (fun o b=>hM o (j6 o b)),mY ab b0,mZ aB Q h2,nt (r.gA.1 b0),n8,m9];rintro b0;rw[m8,mW (i0.ak d2.ak).KG hM,mW (wZ aao)]
abbrev aKF:cx:=(nA (.jd 11 uj avu))
def Zy:∀(bl:ar)(aE:ar)(ac aj:u)(b2:td 152)(eA et:pl){al:n1}{W:nL},∀(i:nL),(aNS i)→∀(a:aH)(M:pu)(x:u)(jY hF:pl),a.ds.z=aj→abM a M al W (x+1824*i.z)→∃z' fA lp jD,fZ (ó yn aKF) 10 (aOG w9) ſ (Ř (aPL zk jY hF B B)) a.F=c (na,Ř (aPL zk lp jD B B),z'.F)∧abM z' fA al W x∧(∀k∈i,oG W (abg z' fA k.v j.v))∧hy a z' (1824*i.z)∧aPm:=by injections bl aE ac aj;intro b2;injections eA et al W;intro i;induction i with|C=>intro _ a M x jY hF hd n;exact⟨a,M,jY,hF,ni F9 _ (n.AY aj hd),n.asH (by simp),fun j b=>aQA b,m7 hy.fI,ï⟩|s k i ih=>intro aB a M x jY hF hd n;simp only[r.kZ]at n⊢;have aaZ:=n.Av;rw[mX BW (Vn bl aE ac aj b2 eA et k (aB k tG) W aQF a M (x+1824*i.z) hF hd (n.asH (m4 (Ag [W.z,x,i.z] (rg (sn ai 1824 a8) 304) (ai+(tz 1824 pR)) (su 304) (qQ 304 6) e (AM 304 aaZ))))) fun z1 afe jD Q dN i0 t1 j6=>?_,mX Dc (ih (aRq aB) z1 afe x xj jD (nb t1.ds hd) dN) fun bz acm lp mV h2 dG aao d2 hM=>?_,m1 (qh w9 v9) (uq hd n.i3),mY hg,m1 (ui kn zk=c (aPS,aOG w9)) (aP4 kn hg),mY lA,mX JG bz acm lp mV ((qn NB _ (n.AY aj hd) (AB ((ni (DJ T _ 11 _) _ _ _ nz lA).ah Q) sV)).ah h2) dG ?_ ((t1.ah d2).bx (m4 (Ag [W.z,i.z] (ro (su 304) 1824) (x6 1824) (su 304) (qQ 304 6) e (AM 304 aaZ)))) (fun o b=>hM o (j6 o b)),mY ab b0 j J,mZ aB Q h2,nt (r.gA.1 b0),n8,m9];rintro b0;rw[m8,mW ((pa i0).ak d2.ak).KG hM,mW aao ab b0 j J]
def Ha{cf}{q}{cE}{y}{l}{w}{f}(b:gz T w f cE=c y)(bf:pO l (c f)):aNW (ī ę cE)=c (y,w):=by simp only[Di,Bl,bf]at⊢;rw[m6 ((gz _ w f _).au _=_)];rw[b]at⊢;rfl
abbrev ato:cx:=(nA (ts (on ne (.bp 47 (pH (ī qx "host") (rq 10) (rq 11))) (.bp 80 (pH sw (.A 10) (.A 11)))) (.s wA .C)))
def Ri(a)(aS:pN)(al)(aD)(fw:vB)(hL:aVc)(hz:aN9)(h)(bl gJ aE)(eA et mA)(k v)(bN:zy k)(pt:zy v)(hs:xf k.eu):f0 T pc ato (Ř (iq bl gJ eA et xj aSa mA B)) a.F=c (na,iq bl gJ eA et xj aSa mA B B B aE nQ,a.F):=by rw[m2 (MI a aS al aD fw hL h k v bN pt),mY Q,m2 (Ou a al fw hz (h+2) k v hs),mY h2];refine BQ (a4:=a.F) ?_ sV;rw[aQN ((xZ (Ha (L1 a) e) (o2 (aTq (EP k _)) (aTq (EP v _)) oy)).ah Q) (aQY aNM h2),m6 (c (ar.aO _)=_)];rw[aaU]at⊢;rfl
def Rg(a)(aS:pN)(al)(aD)(fw:vB)(hL:aVc)(hz:aN9)(h)(bl gJ aE)(eA et mA)(k)(bN:zy k)(hs:xf k.eu):∀(i:nL),(oG i (zy j))→∀hF,∃jD,fZ (ó pc ato) 11 B ſ (Ř (iq bl gJ eA et xj hF mA B)) a.F=c (na,Ř (iq bl gJ eA et xj jD mA B),a.F):=tV i i (by intro _ hF;exact⟨hF,Ĝ⟩) j i (by rw[mY aB hF,n4 (ih (aRq aB) (c j.aY)) V eh,mW ⟨V,(qn BO (nM (oM (Ri a aS al aD fw hL hz h) bl) k j bN (aUN aB) hs)).ah eh⟩])
abbrev axG:cx:=(nA (.jd 11 (.A 12) ato))
def Rh:∀(a)(aS:pN)(al)(aD)(fw:vB)(hL:aVc)(hz:aN9)(h)(bl gJ aE)(eA et)(bb)(aik:oG bb (zy j∧xf j.eu)),∀(i:nL),(oG i (j∈bb))→∀jY hF,∃lp jD,fZ (ó pc axG) 10 B ſ (Ř (iq bl gJ eA et jY hF (aQv bb) B)) a.F=c (na,Ř (iq bl gJ eA et lp jD (aQv bb) B),a.F):=by rw[ug,mY aS];injections al aD;intro fw hL hz;injections h bl gJ aE eA et bb;rw[mY aik,mY i];induction i with|C=>intro _ jY hF;exact⟨jY,hF,Ĝ⟩|s j i ih=>rw[mY aB jY hF,ot (aik j (aB j tG)) mQ J,n4 (Rg a aS al aD fw hL hz h bl gJ aE eA et (aQv bb) j mQ J bb (aOf (wZ aik).1) hF) jD Q,Ĩ (ih (aRq aB) (c j.aY) jD) lp mV h2,mW BN lp mV ((n7 (Ķ BO) (AB ((ni (sk (DJ T) 11) _ B nz e).ah Q) sV)).ah h2)]
def WN(a)(al)(aD)(iD:yT):rD (z8).e' Y=a:=by rw[m6 ((oP ds ((a.ds.ad8 _).ad8 _):aH)=a),w8 OA iD]
def WK:∀(a:aH)(M:pu)(al:n1)(aD W:nL)(bV ab9:aR)(aF:ĵ)(un:yT)(fw:vB)(hL:abK a al aD)(aik:oG (aD++[bV,ab9]) (zy j∧xf j.eu))(De:n9 W 0 ab9)(mt:qh qR v9)(apa:nX aOv qR v9)(h:u)(aE dA:ar)(eA et jY hF:pl)(hQ:cx),∃lp jD,b4 T pc (.s (.f_ (.bp 82 (.s (.A 2) (pH za sw pg)))) (.s (sG 12 (rk e_ za (.bm (.s (r_ 4 uN) (nA (rq 7)))))) (.s (.jd 10 (.A 12) axG) (.s (.f_ (.bp 82 (.s (.A 2) (pH za sw oX)))) hQ)))) (Ř (iq (aWx dA) qV eA et jY hF B B)) a.F=aVh pc hQ (Ř (iq (aWx dA) qV eA et lp jD (c (eS (aD++[bV,ab9]))) B)):=by rw[mY a M al aD W bV ab9,mY aF un fw hL aik De mt apa,mY h aE dA eA et jY hF hQ,m2 (w8 H3 fw hL (h+2) G),mY ais,m2 (w8 H5 G),mY b7];have aHM:abK z8 al aD:={fQ:=hL.fQ,eY:=hL.eY,cl:=hL.cl,c9:=hL.c9,adS:=by rw[m6 (al.z≤(a.ds.ad8 (rD aaA G)).z),r.avE,mW hL.adS],afW:=fun o a0 aG U=>by have ad2:n9 (a.ds.ad8 (rD aaA G)) o a0:=aG;rw[r.agw]at ad2;induction hd:a.ds[o]? using ap.ae with|B=>rw[hd]at ad2;injection ad2|c aqp=>rw[hd]at ad2;rw[aOl ap.ji ad2,mZ aG];subst ad2;simp only[aaA,fU,U]};rw[m2 (H3 z8 al aD fw aHM (h+2) Y),mY ahy];rw[w8 WN un]at ahy;rw[m1 (oG (aD++[bV,ab9]) (aag z8 al j∧xf j.eu)) (fun j J=>⟨(pa aik).1.bx b7 (w8 Oy G),(pa aik).2⟩),mY aHG,Ĩ (Rh z8 (rD aF.e' G).aS al aD fw (Oz hL) hL.fQ h (aWx dA) qV aE eA et (aD++[bV,ab9]) aHG (aD++[bV,ab9]) aQF jY hF) lp jD kD,m1 (nX aOv 25 (Ć aD.au)) ((EY z8).ah (pk (nF aQW) hL.eY)),mY afC,m2 hL.c9,mY eb,m2 fw.c9,mY abZ,m1 (lY aOv .e_ wq (oh [bV.aY,ab9.aY])=c (eS (aD++[bV,ab9]))) (by rw[m1 (j7 aOv wq=c (aD.au aR.aY)) (by simp only[j7,afC]),mY Q,m1 (j7 aOv (oh [bV.aY,ab9.aY])=c [bV.aY,ab9.aY]) e,mY h2];simp only[sr (lY aOv .e_ wq (oh [bV.aY,ab9.aY])) (amo aOv wq (oh [bV.aY,ab9.aY])) e,amo,Q,h2,ap.eO,ap.eO];rw[c0 (by rw[vO,m6 (aD.z+2≤du),xh,mW Am [aD.z,al.z] wK 1048576 S ai ai 4 e (Az eb) abZ])];unfold eS;rw[r.ahL];rfl),mY auy,m1 (pE aOv qV nr=c ab9.aY) (by rw[m2 (Cq aOv qR aPS 0 apa),m5];simp only[r.adf,De]at aa;exact aa),mY amT,mW BN lp jD (AB (BX ((AW (o2 nz nz (z7 (Fv ..)))).ah ais)) (AB (Bh (B7 nz (CC (o2 (aTq (y:=bV.aY) e) (Bm nz nU amT) oy)) auy)) (AB ((ni (DJ T _ 10 _) _ _ B nz e).ah kD) (AB (BX ((AW (o2 nz nz (z7 (Fv ..)))).ah ahy)) e))))]
def Op:∀{a}{W:nL}(dT:ry W vy){ks:nq}(b:adJ (xY ks.au) (aRD W.au)),∀ab∈W,∃o∈ks,hb (pF ab.v) (pF o)=G:=by rw[aP2 W,mY dT];injections ks;rw[mY b,mY ab b0,rf (dT ab b0).A' y aP P,nt (qK _ (Ń (ql (aT8 (Ad ab b0 e)) e)))];rintro h';rw[m9,mY J];rcases J with(⟨q,f,g,x,V,_,eh,_,aS⟩);rw[m8,nD (r.fq.1 h') o aG d,mW Ad o aG (nb d (Fs y aP)),nD (r.fq.1 eh) o aG d,mW Ad o aG (nb d aS)]
def AbT:∀(a)(M)(aF:ĵ)(W)(dT:ry W vy)(dw:qe W)(aB:ud W.z)(fT:aSQ)(h),∃(aP:u)(ao:oB)(ks:nq)(l:a9),rE 3 8 [oW,aOe W.au]=c (Ç,ð)∧(ao=a.ak∨∃j,ao=t6 eL j)∧n9 (s9 ao ak) aP l∧aP≠2∧l.e7 aP=ks∧ud ks.z∧(∀o∈ks,o∈aSU)∧(∀ab∈W,∃o∈ks,hb (pF ab.v) (pF o)=G):=by rw[aP2 M,mY aF];injections W;rw[mY dT dw aB fT,aR7,s3 (Lo a M [] aF h aSU (o7 dw) (qm (by simp)) (fun v aS=>by rw[uv aS,mZ aS,s4,mW Ad _ ((dT j J).A'.1) (nj (dT j J).A')]) fT) aP ao cK eE ajx,mX BN aP ao ?_];cases ajx with|iv Q=>rw[mX Hu ([1]) (q8 "unknown") cK eE (ł 1) n_ e qg (fun o aG=>nb (ŵ aG) Q) (aOf (Ad 1 (r.i7.2 e) ?_)),m1 (ty 1 acY) (.iv (ł 1)),mY aqa,Be aqa,mW GT (dT ab b0).A'.1]|gB o Q aG ald=>rw[uv aG];(rw[s4]);rw[rf (dT j J).A' y fw P,mX AF y.gs fun l br P ok=>?_,mZ P,m2 (y.CZ l br).1,mY ba];simp only[fw]at ba;exact(Hu ([j.v]) l cK eE br (nj ok) (by rw[mZ br,y8 l a9.ae (by rw[qT ba])]) qg (fun o ad2=>nb (ŵ ad2) aG) (Op dT (ks:=[j.v]) ald))|jh _ _ ks Q aHR apf iy ajB kg ao3 jR ald=>rw[mX Hu ks _ cK eE apf (vD [aP] 2 iy) e ?_ jR (Op dT ald),m2 (OU (nO 1) _ _ ao3 jR),m5];(have aV:∀i:nq,(i.au (nO 1)).aaL=i.z:=tV i i (by rfl) f i (by simp only[r.gI,r.ans,r.kZ,ih];omega));simp only[aV,aV,r.hN]at aa;omega
abbrev aEE:cx:=(nA (sG 13 (rk e_ (.A 13) (.go (.A 17) 17 uj (nA (on eq (rq 17) aP7))))))
abbrev ade(W:nL)(t:u):nL:=W.afu fun d=>d.v==t
def UK(W:nL)(cO:(W.au aR.v).fF)(t:u):(ade W t).z≤1:=by unfold ade;induction W with|C=>simp|s d W ih=>simp only[r.gI]at cO;rw[ot (r.l6.1 cO) Q h2,nH he d.v t];have:W.afu (ol (d.v==t))=[]:=r.aHi.2 fun j J cG=>Q (by rw[he,←lb.1 cG,mW (aT8 (Ad j J e))]);rw[r.aoE,Ô c0 he,aa,mW yL,r.aoE,Ô cH he,mW ih h2]
abbrev abb(W:nL):nq→nL|[]=>[]|t::ks=>ade W t++abb W ks
def Ld(W):abb W []=([]):=e
def P5(W):∀t ks,abb W (t::ks)=(ade W t++abb W ks):=pS
def AbP(W)(cO:(W.au aR.v).fF)(ks):qp abb W ks≤ks.z:=qb ks (by simp[Ld,P5]) t ks (by rw[m2 (UK W cO t),m5];simp only[Ld,P5,r.gR,r.kZ];exact Am [qp abb W ks,ks.z,(ade W t).z] (a8+S) nN S ai a8 1 e ih aa)
def P6(W:nL)(ks:nq):ry (abb W ks) zG:=qb ks (by intro d b;cases b) t ks (by rw[mY d b,nt (r.aeP.1 b),oe,m9,oe,m8,mW (r.ane.1 b).1,mW ih d b])
def AbO(W)(ks)(o)(aG:o∈ks)(ew:o∈aSU):∃d∈abb W ks,d.v=o:=qb ks (by cases aG) t ks (by rw[nH cG o t,mZ aG];subst cG;rw[nD (r.fq.1 ew) d he aS,mW Ad d (r.alz _ (rW r.ane.2 he (o7 aS))) aS,nD (ih ((r.gA.1 aG).aEs cG)) d he aS,mW Ad d (r.ar7 _ he) aS])
def AbS:∀(a:aH)(W bX:nL)(t f:u)(mt:qh f v9)(ew:ud W.z)(hW:rG bX.z)(cf:iV)(bl aE:ar)(eA et jY hF mA acg:pl),f0 T cf aEE (aPL rY jY hF mA (aQv bX) (nn t) acg aE nQ) a.F=c (na,aPL rY jY hF mA (c (eS (bX++ade W t))) (nn t) acg aE nQ,a.F):=by rw[mY a W bX t f,mY mt ew hW,mY cf bl aE eA et jY hF mA acg,m1 (ui kn rY=c (aPS,aOG f)) (aP4 kn mt),mY lA,m1 (AY (aOG f) a.F=G) (by simp only[AY,mt];simp),mY cU,m1 (oD (aRb aU (.go (.A 17) 17 uj (nA (on eq (rq 17) aP7))) (aPL rY jY hF mA (aQv bX) (nn t) acg aE nQ)) (eS (ade W t))) (by rw[Iy,nz]at⊢;simp only[ap.eO,lA];rw[Jp (ago T cf (.A 17)) (ahC T cf (nA (on eq (rq 17) aP7))) 17 _ _ a.F cU aR.aY (ol (d.v==t)) aR.aY W (fun j P=>?_) (fun j P P=>nz)]at⊢;rfl;rw[HQ,Lu,AX (aTq (EP j _)) nz (y:=n5 (j.v==t)) (by rw[m6 (c (ar.aO (nc j.v==nc t))=_)];rw[DN]at⊢)]at⊢;rfl),mY hc,m1 ((ade W t).z≤W.z) (r.ar2 ..),mY aB,mX AB (Bh (B7 nz hc (y:=eS (bX++ade W t)) ?_)) sV,m6 ((nK (Á (rH bX.au aR.aY+((ade W t).au aR.aY).z)) (c (ar.bm (bX.au aR.aY++(ade W t).au aR.aY))))=_)];rw[c0 (by simp only[r.hN,r.hN]at⊢;rw[xh,mW Bu [W.z,bX.z,(ade W t).z] (ai+a8) 1048576 S 6 (ai+1) 1000 a8 S e ew hW aB]),←r.ahL]at⊢;rfl
def AbQ:∀(a:aH)(W)(f)(mt:qh f v9)(ew:ud W.z)(cf)(bl aE)(eA et jY hF mA acg),∀(ks)(bX)(adC),bX.z+6*ks.z<1000→∃akh,fZ (f0 T cf aEE) 14 B (cS ks) (aPL rY jY hF mA (aQv bX) adC acg aE nQ) a.F=c (na,aPL rY jY hF mA (c (eS (bX++abb W ks))) akh acg aE nQ,a.F):=by rw[mY a W f,mY mt ew,mY cf bl aE eA et jY hF mA acg,mY ks];induction ks with|C=>rw[mY bX adC _,mW ⟨adC,tL Ld r.afl Ĝ⟩]|s t ks ih=>rw[mY bX adC b,xi r.kZ,m1 ((ade W t).z≤W.z) (r.ar2 ..),mY aB];obtain⟨V,eh⟩:=ih (bX++ade W t) (nn t) (nb r.gR (Bu [W.z,bX.z,ks.z,(ade W t).z] (sn (ai+eK) 6 a8+1) 1000 S 6 (ai+(tz 6 pR)+1) 1000 eK S e ew b aB));rw[r.abO]at eh;exact⟨V,(qn BO (Ķ (sk (AbS a W bX t f mt ew (m4 (oa Ag [bX.z,ks.z] S 1000 (aSC 6) 1000 e b))) bl))).ah eh⟩
abbrev aCs:cx:=(nA (ts (.ir (.bp 85 (pH sw uj (.bp 84 (pH qx p6 (.A 15)))))) (.s wA .C)))
def XN{O}{cf}{d}{l}{w a4}(b:uw pg):o5 (oC (.ir d)) oX:=by rw[rc (pk ta b)];rfl
def NN:∀(a)(M)(al)(aD W)(g)(hW:aVr af5 W (Ō 2412))(t0:nX a.ca 0 v9)(t1:1≠a.Ap)(ac)(b2:td 171)(b)(fk:ry b zG)(aB:ud b.z)(hc:∀ab∈W,iY ab b=G)(ak2:qe W)(dA AV aE)(eA et jY hF mA abf adC),∃z' fA,f0 T yn aCs (iq (nE [wq,xW,dA,AV]) qV eA et jY hF mA abf adC aUk aE nQ) a.F=c (na,iq (nE [wq,xW,dA,AV]) qV eA et jY hF mA abf adC aUk aE nQ,z'.F)∧af5 z' fA al aD W ń∧aNV 2412:=by rw[mY a M al aD W g,mY hW t0 t1,mY ac,mY b2,mY b,mY fk aB hc ak2,mY dA AV aE eA et jY hF mA abf adC,s3 (aVr W0 W g hW ti (m4 (Am [ac,ti] 170 ai 171 S S nN e b2 (q2 AN (Ag [ac,ti] 1 S 171 S e b2)))) dA AV b fk aB) z' fA Q h2 h3];rw[rh (ti+1) ac (Br [ac,ti] (ai+1) S nN S e (s7 (Ag [ac,ti] 1 S 171 S e b2)))]at Q;rw[rf (WX al W (tZ (xA h2.hx.dT)) b.z b fk yk hc (fun t Q h2=>m4 (BZ (é (Am [b.z,t] 1 0 S) ai Q h2)))) a1 a2 a3,m1 (qe (aO3 _)) (by rw[mY bf,n4 (aUm ak2) ab b0,m2 (wZ a2),m5];rw[bf,S_ (h2.hx.dT ab b0)]at aa;rw[wO aa]),mY dw,ot (h3.ca 0 _ t1 t0) d6 da,m1 (n9 z'.F qR _) (by rw[m2 (Ip _ 0 da),m5,o6 h3.ds,mW aa.ah d6]),mY mt,m1 ((aO3 b.z).z<100) (by rw[m1 (∀(H:u)(i:nL),(ad7 al H i).z≤i.z) (by intro H;induction H with|hf=>rw[mY i,mW yk]|gk H ih=>rw[mY i,m3 u.eI (ih _)];unfold agW;split;rw[aUb r.aiG r.apu,mW (m7 XQ),mW yk]),m5,m2 (aa b.z b),m5,mW Am [b.z,(aO3 _).z] (ai+1) 100 S 6 ai S e aB aa]),mY eb,m2 (AcV _ al h2.up h2.e'.fQ ti (m4 (Am [ac,ti] 30 ai 171 S S nN e b2 (q2 AN (Ag [ac,ti] 1 S 171 S e b2)))) _ W _ mt eb dw (tZ ⟨xn (h2.hx.eo d (xA a1)) nw,h2.hx.aaG d (xA a1)⟩) (tZ (xn (xA h2.hx.eo) nw)) a2 a3),mY eh];rw[rh (ti+1) ac (Br [ac,ti] (ai+1) S nN S e (s7 (Ag [ac,ti] 1 S 171 S e b2)))]at eh;rw[mX Au _ _ ?_ h2 h3,mW BQ (XN ((xZ nz (z7 (aQY aNM Q))).ah eh)) sV]
def RL{cf}{d}{cE}{y f}{l}{w}(b:aQ1 d=c (f,w))(bf:gz T w f cE=c y):aNW (.be d cE)=c (y,w):=by simp only[Di,b];rw[m6 ((gz T w f cE).au _=_),bf];rfl
def WQ{a:aH}{al}{aD W:nL}(t0:nX a.ca 0 v9)(t1:1≠a.Ap):nX aOv qR v9:=by rw[m2 (Ip z8 0 t1),m5,o6 (sr (z8).ds.z a.ds.z r.avE),mW aa.ah t0]
abbrev aG8:cx:=(nA (.bu (.eB (pH (on eq (ī (ī qx "notes") "rows") ţ) (on eq (ī qx "trail") ţ) (on eq (ī qx "assumed") (.lK Y))))))
def Uo(a)(M)(aF:ĵ)(cf)(l)(h3:nX l 3 px):∃w,aPC b4 aG8=c (aOU,l,w):=by rw[m1 (oD (aU _ cf (.aX .eq _ _) l _) vq) (by rw[aQN (RL (Ha (L2 a) h3) (LT a)) aTj,m1 (kz a.F (.D 19) wM=c G) (by simp only[kz,jp,abN,acr,kC,aar,r.adn,fU,Gc]),m5,m6 ((sF kz).au _=_),aa];rfl),mY A_,m1 (qh a.gl m_) (by rw[m1 (a.gl<a.F.z) (nb Bj (Qg a aF.aS)),mY jf];unfold aH.F at jf⊢;rw[r.apv]at jf;rw[r.akX jf,aF.eM];rfl),mY i4,m1 (oD (aU _ cf (.aX .eq _ _) l _) vq) (by rw[aQN (Ha (L3 a) h3) aTj,m1 (kz a.F (.D a.gl) wM=c G) (by simp only[kz,jp,abN,acr,kC,aar,r.adn,fU,i4]),m5,m6 ((sF kz).au _=_),aa];rfl),mY Bw,m1 (aU _ cf (.aX .eq _ _) l _=c (vq,tD n6)) (by rw[aQN (Ha (L0 a) h3) (Fc ..),m1 (14<a.F.z) (by simp only[Bj];unfold aH.ad;exact AJ [a.ds.z,a.ca.z] (14+1) (zg+ai) e),mY jf,m1 (nX (tD (c_.bE [])) 14 nS) (Ŵ (r.jP jf) EW aF.ey),mY aV,m1 (nX (tD (c_.bE [])) a.F.z nS) ra,mY bj,m1 (kz (tD (c_.bE [])) (.D 14) (.D a.F.z)=c G) (by simp only[kz,jp,abN,acr,kC,aar,r.adn,N.aen,fU,aV,bj]),m5,m6 ((sF kz).au _=_),aa];rfl),mY CQ,vi (tD nS) (C3 ?_),En,FF A_,FF Bw,GY,mW CQ]
def WM:∀(cL:n1)(h:u),∃l w,b4 T aQg agh (afj r7 B B B) []=c (aOU,l,w):=by rw[ē cL,mX UC (AcH cL (h+194)) fun a al aD b3 bV W o eA et arN dJ aG ajw ak2=>?_];have eg:=dJ.eg;rw[m2 eg.Ap,mY i4,uy dJ.ca g9 agK,m2 dJ.gT,mY fT];have fw:=eg.anx;rw[m1 yT (fun aj a0 b=>(eg.aap aj a0 b).1),mY aLy];have aEb:abM a [] al W (5100+1824*W.z):={aF:=eg.aF,un:=aLy,abB:=eg.abB,eo:=eg.eo,cc:=nb eg.cc (Ys ajw),rw:=m4 (Bu [o,W.z,a.ak.z] (a8+(ro 5100 1824+(ro 5100 1824)+(ro 5100 1824)+(ro 5100 1824))+1) 890000 (su 10) (qQ 10 40) (xr 7296) (qQ 7296 6) a8 (rg 60 10) e (AM 10 aG) (AM 7296 ajw) fT),hx:=dJ.hx,Av:=ajw,t0:=sh agK,t1:=aU7 i4};refine Dc (Zy xd r7 (h+200) a.ds.z (m4 (xn nw (u.alv 200 h))) eA et W aQF a [] 5100 B B e aEb) fun z1 afe aLW aLX arJ acT ail aiX P=>?_;have aCv:=aiX.ds;have ad4:=aiX.le;rw[m1 (ui kn qV=c (aPS,aOG qR)) (by rw[m2 aEb.i3,m5];simp only[kn,aa]),mY aJa];(have ajD:ry W (∃q,q≤5∧j_ z1 al W d q):=by rw[mY d he,n4 (r.ajU.1 he) q Ab,u8 kf Ab,mW Ad q (m4 (é (Am [W.z,q] ai 5 S) 6 ajw kf)) (aTf acT.hx)]);have ahS:afh z1 afe W al:={dT:=tZ (by rw[nD (xA ajD) q P dt,mW dt.dT]),Av:=tZ (by rw[nD (xA ajD) q P dt,mW dt.Av]),aaG:=tZ (by rw[nD (xA ajD) q P dt,mW dt.aaG]),eo:=tZ (by rw[nD (xA ajD) q Ab dt,m2 dt.eo,m5,mW Am [q,d.eo] ai 10 S 5 ai wK e Ab aa]),ajq:=fun d he j J=>ail d he j J,An:=tZ (by rw[nD (xA ajD) q Ab dt,m2 dt.An,mY t0,m2 dt.dh,mY t1,m2 (Qn q Ab),m5,mW ⟨u.eI t0 (u.abi (u.aiK 2 Ab) 4),u.eI t1 (t8 u.eI aa)⟩]),eZ:=tZ (by rw[nD (xA ajD) q P dt,mW dt.eZ]),c9:=ajw,cO:=dJ.cO};have aJ0:aQS:={fQ:=eg.fQ,eY:=eg.eY,cl:=fun aq d b=>(eg.cl aq d b).1,c9:=eg.adQ,adS:=nb eg.dl (u.avD _),afW:=fun aq a0 b P=>(eg.aap aq a0 b).1};have aDx:abK z1 al aD:=aJ0.B6 (x:=0) ad4 aiX.fQ aiX.lZ aCv;have abr:0<W.z:=r.avF.2 ak2;rw[m1 (nX W 0 (W[0]' abr)) (r.hV abr),mY De,m1 (oG (aD++[bV,W[0]' abr]) (aag z1 al j∧xf j.eu)) (by rw[tr,nt (r.aeP.1 J),ya,m9,ya,m8,n4 (r.ajU.1 J) aq cQ,ot (LJ eg aq j cQ) d6 da,mW ⟨d6.bx ad4 aiX.ahF,da⟩,mZ arN dJ arJ,nt (r.gA.1 J),n8,m9,ya,m8,ot (LK eg) d6 da,mW ⟨d6.bx ad4 aiX.ahF,da⟩,aQK,mW ⟨ahS.Av _ (r.aij abr),ahS.aaG _ (r.aij abr)⟩]),mY aik,Ĩ (WK z1 afe al aD W bV (W[0]' abr) acT.aF acT.un fw aDx aik De acT.i3 (WQ acT.t0 acT.t1) (h+197) r7 w7 eA et aLW aLX (aor 17 agh)) lp jD aIz,mX ET (AbT z1 afe acT.aF W ahS.dT ak2 ajw (q7 acT.rw (u.mM (u.hO (m7 u.acK) aa) nw)) (h+197)) fun aP ao ks l cK eE iC aC6 ajG aCI aIx aIy=>?_,rf (acT.aF.Ah ao eE) gi adV acM];have mz:=PL ao adV acM;have mK:=mz.le;rw[m2 (GD (z1.Ah ao) (h+199) aP l iC aC6),mY aCU];rw[ajG]at aCU;have apa:=acT.i3;rw[ot (mz.ca 0 _ acT.t1 acT.t0) av8 av9];have aCS:nX (z1.Ah ao).F aT7 v9:=(Ip (z1.Ah ao) 0 av9).ah av8;rw[m1 (ud (qp abb W ks)) (u.eI (AbP W dJ.cO ks) aCI),mY aHU,m1 (∀ab∈W,iY ab (abb W ks)=G) (by rw[mY ab b0,nD (wZ aIy) o aG aS,nD (AbO W ks o aG (aIx o aG)) d he aIg,mX Jq ab _ (r.gZ.2 (Ad d he ?_)),E6 (ahS.dT d (P6 W ks d he)) (wZ ahS.dT),aIg,mW aS]),mY aHT,m1 (∀ab∈W,iY ab W.aba=G) (by rw[mY ab b0,mX Jq ab _ (r.gZ.2 (Ad ab (r.aKl.2 b0) ?_)),E6 (wZ ahS.dT) (wZ ahS.dT),mW Fs (ahS.dT ab b0).A'.1 (nj (ahS.dT ab b0).A')]),mY aHQ,m2 acT.cc,mY aID,m2 acT.rw,mY aI3];have aKa:af5 (z1.Ah ao) afe al aD W (2412+(2412+0)+200):={up:=fw,e':=aDx.B6 (x:=0) mK e e e,un:=fun aj a0 b=>acT.un aj a0 b,aF:=gi,hx:=ahS.bx mK mz.ahF ï,e4:=acT.eo,cc:=yh (z1.c2+_<20000) (oa A4 [z1.c2] (b5+(2412+(2412+0)+200)) 20000 (b5+5100) 20000 e aID),rw:=by rw[m1 ((z1.Ah ao).ak.z≤z1.ak.z+1) acM,m5,mW Yt aI3 aa]};rw[n4 (AbQ (z1.Ah ao) W aT7 aCS ajw aQg xd r7 eA et lp jD aPt B ks [] B (aP8 (Ag [ks.z] (su 6+1) 1000 (su 10) (qQ 10 6) e (AM 10 aCI)))) akh cU];simp only[r.avS]at cU;rw[s3 (NN (z1.Ah ao) afe al aD W (2412+0) aKa av8 av9 (h+200) (m4 (xn nw (u.alv 200 h))) (abb W ks) (P6 W ks) aHU aHT ak2 w7 bV.aY r7 eA et lp jD aPt (c aWg) akh) e2 aFQ h3 aKb aEZ,ot (aEZ.ca 0 _ av9 av8) aKM aKN,m1 (e2.ds.z=z1.ds.z) (sh aEZ.ds),mY arw,s3 (NN e2 aFQ al aD W 0 aKb aKM aKN (h+200) (m4 (xn nw (u.alv 200 h))) W.aba (tZ (r.aKl.1 he)) (nb r.length_reverse ajw) aHQ ak2 w7 bV.aY r7 eA et lp jD aPt (c aWg) akh) l_ aFR h4 aKc aNz];rw[arw]at h4;have aIm:fZ (ó aQg aCs) 15 B [aWg,eS W.aba] (aVG lp jD aPt (c aWg) akh B r7 nQ) (z1.Ah ao).F=c (na,aVG lp jD aPt (c aWg) akh (aQv W.aba) r7 nQ,l_.F):=(zt h3).ah ((zt h4).ah Ĝ);rw[n4 (Uo l_ aFR aKc.aF aQg (aVG lp jD aPt (c aWg) akh (aQv W.aba) r7 nQ) e) axf aIh,m1 (∀abf,ny aQg (aRl (rq 16) 16 uj) (aVG lp jD aPt abf B B r7 nQ) z1.F=c (aOe W.au,z1.F)) (by rw[mY abf,m1 (kn z1.F (wk aT7)=c (aPS,aOG aT7)) (by simp only[kn,apa]),mY lA,rc (nM (ni (w3 Ch aQg)) W aR.aY (nF (.m j.v)) nz lA (by simp only[AY,apa];simp) (fun j P=>aTq (EP j _)))];unfold cS;rw[r.aeN];rfl),mY jr,m1 (∀abf adC,ny aQg (.rev uj) (aVG lp jD aPt abf adC B r7 nQ) (z1.Ah ao).F=c (eS W.aba,(z1.Ah ao).F)) (by rw[mY abf adC,m1 (j7 (z1.Ah ao).F (wk aT7)=c aPS) (by simp only[j7,aCS]),mY auZ,aRB nz,aR0 ap.eO auZ];unfold eS;rw[r.map_reverse]),mY aIZ,m1 (b4 T aQg agh (afj r7 B B B) []=c (aOU,aVG lp jD aPt (c aWg) akh (aQv W.aba) r7 nQ,axf)) (by rw[mX arN.ah (AB ((ni (DJ T _ 10 _) _ _ _ nz aJa).ah arJ) ?_),←aCv,tC aIz.ah];have ave:ny aQg (s8 2 2 (s8 8 2 (aRl (rq 16) 16 uj))) (aVG lp jD aPt (c (eS [])) B B r7 nQ) z1.F=c (zz ks,(z1.Ah ao).F):=zh (z7 (zh (z7 (jr _)) cK)) aCU;exact AB (Bh (CC oy)) (AB ((ni (DJ T _ 14 _) _ _ B ave e).ah cU) (AB ((ni (DJ T _ 15 _) _ _ B (A3 (z7 (m7 aIZ))) e).ah aIm) aIh))),mY l1,mW BN _ axf l1]
set_option backward.match.sparseCases true
set_option tactic.hygienic true
def allAt{i:r N}(b:i.de id=G)(q:u):(rS i).ld G=G:=by induction d:rS i using ap.ae with|B=>rfl|c g=>exact r.hp.mp b g (r.lI d)
def S6{M}{cd}{t}(b:aqY M cd t=G):codeIn M cd t=G:=by induction cd using af.ck.ae with|bI x=>replace b:(oo (M.cm x) (c ⟨_,_,.ajs vs,_⟩) (oo vs.e0 (_::.bi h _::_) (af.bl.fv.sEq h t) Y) Y)=G:=b;show(oo (M.cm x) (c ⟨_,_,.ajs vs,_⟩) (oo vs.e0 (_::.bi h _::_) (h==t) Y) Y)=G;generalize M.cm x=p at b;(rw[tm p (by rw[sT]) cR (by induction cR using af.k_.ae with|mk x aj fS ed=>induction fS using af.akq.ae with|ajs vs=>replace b:(oo vs.e0 (_::.bi h _::_) (af.bl.fv.sEq h t) Y)=G:=b;show(oo vs.e0 (_::.bi h _::_) (h==t) Y)=G;generalize vs.e0=i at b;(rw[ñ (by rw[sT]) j (by rw[ñ (by rw[sT]) ab (by rw[aVj ab af.ck.ae bi h v (by exact pQ lb.2 af.bl.fv.ass.1)])])])|_=>rw[sT])])|_=>rw[sT]
def T8{M}{y}(b:aq4 M y=G):y=.B∨∃O p eD o,y=nP O∧M.cm O=c p∧p.fS=.ia eD o:=by induction y using af.ck.ae with|B=>exact qN|bI O=>replace b:(match M.cm O with|c p=>aDl p.fS|B=>Y)=G:=b;(induction d:M.cm O using ap.ae with|B=>rw[pr d,mW N.cs b]|c cR=>rw[xi d];induction cR using af.k_.ae with|mk x aj fS ed=>rw[aVj fS af.akq.ae ia xs o (by exact rt (Hw O ⟨x,aj,.ia xs o,ed⟩ xs o e d e))])|_=>rw[sT]
def UP{E}{f}{fn}{n}{g}{aE}(b:amF E.M f=c (n,g,aE))(h2:avY E.K fn n g aE=G):ah4 E f fn:=by rw[Å amF];generalize d:E.M.cm f=t at b;rw[tm t (by rw[tb]) cR (by induction cR using af.k_.ae with|mk eY bE fS ed=>induction fS using af.akq.ae with|akV ac=>(induction ac using af.amb.ae with|mk cB jV dX aqX d_ aoK at0 dV kV mm pm an jL ac7 lc=>induction aqX using af.aFG.ae with|stmts bD=>(rw[oS at0 (by replace b:(match aqY E.M jL jV&&(aoK==lG&&(lc==an8&&aq4 E.M dV))with|G=>c (dX,bD,d_)|Y=>B)=c (n,g,aE):=b;(induction hc:aqY E.M jL jV&&(aoK==lG&&(lc==an8&&aq4 E.M dV))using N.ae with|Y=>rw[pr hc,mW Aq b]|G=>rw[pr hc,nf b,om,nR,uT b,om,mY b L,pq,uT L,mZ L,mY L L,qD,qD];have aI:=allAt h2;clear h2;(rw[yr (by simpa only[N.c3]using hc) I9 A_ Bw CQ]);rw[m2 (acz A_),mY bj,m2 (acz Bw),mY cV];subst bj cV;exact⟨cB,jV,dX,bD,d_,dV,kV,mm,pm,jL,ac7,eY,an,bE,ed,d,S6 I9,r.alq.mp (aI 0),ap.am5.mp (aI 1),r.alq.mp (aI 2),ap.am5.mp (aI 3),cD (aI 4),cD (aI 5),cD (aI 6),fun j J=>cD (r.hp.mp (aI 7) j J),cD (aI 8),fun j J=>cD (r.hp.mp (aI 9) j J),N.alG _▸aI 10,N.alG _▸aI 11,cD (aI 12),T8 CQ,aI 13⟩)) _ _ (by rw[tb])])|_=>rw[tb])|_=>rw[tb])]
def Act{M:j2}{f:d8}{i:nC}(b:ajl M o9 si=G):∃p xs h,M.cm f=c p∧p.eY=p3 "tuple"∧p.fS=.ia xs h∧tU∧aoa M i xs.e0=G:=by rw[m1 ((oo (M.cm f) (c ⟨p3 v,_,.ia xs _,_⟩) (b1 (v="tuple")&&(b1 tU&&aoa M i xs.e0)) Y)=G) b,om,nR];generalize M.cm f=t at b;rw[tm t (by rw[sT]) cR (by induction cR using af.k_.ae with|mk eY bE fS ed=>induction eY using af.ck.ae with|hl v=>(rw[aVj fS af.akq.ae ia xs h (by have Q:=N.fY.mp b;have h2:=N.fY.mp Q.2;exact(CH _ xs h e (cr ck.hl (cD Q.1)) e (cD h2.1) h2.2))])|_=>rw[sT])]
def SO{M:j2}{bf:b8}(cL:M.abJ bf){b:b8}{X:eW}(hs:tc bf.bg v1)(ho:∀g,bf.bg g≠B→ka X g)(hJ:ar):∀y,ajl M hJ y=G→db b X hJ y:=by rw[mX (ss (nI ar.jB fW (fun hJ=>∀y,ajl M hJ y=G→db b X hJ y) hv (te (∀vs,aoa M i vs=G→yB))) ?_ hJ),mY y d];induction y using af.ck.ae<;>exact N.cs d;intro g y d;induction y using af.ck.ae<;>exact N.cs d;intro q y d;(induction y using af.ck.ae with|m aq v=>rw[m3 Db (sr q aq (cD d)),oA,mY hz];subst hz;exact qS v|_=>rw[wT]);intro k y d;(induction y using af.ck.ae with|bi aP v=>rw[m3 Db (show aP=_ from cD d),oA,mY hz];subst hz;exact qS v|_=>rw[wT]);intro i ih y d;(induction y using af.ck.ae with|bI f=>refine BW (Act d) fun p xs h aG hc hd aB br=>?_;have hg:=cL f p aG;exact(Cs f p _ h e (ho f (nb hg (rb (C4 a)))) (hs f p hg) hc hd aB (ih _ br))|_=>rw[wT]);intro i _ y d;induction y using af.ck.ae<;>exact N.cs d;intro q y d;induction y using af.ck.ae<;>exact N.cs d;intro vs d;(rw[oS vs (by rfl) y vs (by rw[wT])]);rw[mY j xs aav avr vs d,oS vs (by rw[wT]) y vs (by have a5:=N.fY.mp d;exact(Au y _ e (aav y a5.1) (avr _ a5.2)))]
def SP{M:j2}{bf:b8}(cL:M.abJ bf){b:b8}{X:eW}(hs:tc bf.bg v1)(ho:∀g,bf.bg g≠B→ka X g)(hJ:ar)(y:ck)(d:ajl M hJ y=G):db b X hJ y:=SO cL hs ho hJ y d
abbrev ajb(b':aej)(V:kc)(M:j2)(n:aej)(li:r af.bH)(aaD:vH axb ck)(mg mb:r8)(bf:b8):iJ:={b',V,M,n,li,aaD,mg,mb,bf,K:=gt,eR,ij,O:=T,hU:=bo}
def NC:∀x j,aui x j=G→(x,j)∈aoG:=by rw[mY x j b,nD (r.gZ.1 b) t cG d,ot (aOE d) aV bj,oA,aUa g t,←u.aox aV,←lb.1 bj,mW cG]
def OM:∀x j ac,aDQ x j=c ac→(x,j,ac)∈anf:=fun P P P b=>Lg _ b
def KD{gn:Type}{j}{aj}:∀{i:rC u gn},rR i.cm aj→(j,aj)∈i|(ab,d)::l,b=>by rw[xi r.aa5,pI t (j==ab) (by rw[pr t,nf b,om,nR,pq,lb.1 t,mW uA]) (by rw[pr t,mW (aQX (KD b))])]
abbrev ajP:r ag7→rC R ck|[]=>[]|d::l=>((oo d.dx (.m o _) o 0),d.lP)::ajP l
def AdP:ajP []=([]):=e
def WI:∀d l,ajP (d::l)=(((oo d.dx (.m o _) o 0),d.lP)::ajP l):=pS
def Vv{d}{n}(b:aDk d n=G):∃v iu,d=⟨auB nk,u2 nk,.m nh iu⟩:=by obtain⟨hs,dx,lP⟩:=d;rw[aVj dx af.ck.ae m o v (by(rw[aVj lP af.ck.ae m y iu (by rw[ot Ž f g,ot (aT5 g) g x,←cD f,←cD g,mW BN v _ (Ĕ (show hs=auB o from cD x))])]))]
def Ps(b')(V):∀(Aa)(ard),apR Aa ard=G→aMw aVB Aa (ajP Aa)∧(ry Aa (∃o,(mu b' V).is o d.dx=G∧d.ajy=(aVB).ajy o))∧(ajP Aa).au (·.1)=ard.au (·.1)∧∀o,(∃y v,aew o ard=c y∧aiZ (ajP Aa) o=c (u2 y))∨(aew o ard=B∧aiZ (ajP Aa) o=B)|[],[],_=>(By (.C) (fun d b=>aQA b) e (fun o=>.bF zm))|[],tq,b=>N.cs b|tq,[],b=>N.cs b|d::l,(o,y)::k,b=>by rw[ot Ž Q h2,yr (Ps b' V l k h2) dN dG fH aiP,m3 BF (Vv Q),mZ b Q];rintro v iu e;(have Ab:(mu b' V).is o (u2 o)=G:=by show ck.arS o (u2 o)=G;simp[ck.arS]);rw[mX By (.s Ab e dN) (rW r.aul.2 (Ad o Ab e) dG) (cr (o::·) fH) (fun aq=>?_)];unfold aiZ;simp only[JT,WI];rw[pI hd (b1 (o=aq)) (by exact .bT (AI y iu (rA (cD hd)) (rA (cD hd)))) (by rw[r.aBL,hd,cH (of_decide_eq_false hd),mW aiP aq])]
def WG{M}(b:arW M=G){E:Prop}(o:∀Aa ep,M.cm 151=c ⟨p3 "dict",B,.bE Aa ep,#[]⟩→apR Aa.e0 T.aay=G→E):E:=by replace b:(oo (M.cm 151) (c ⟨p3 v,B,.bE Aa _,ed⟩) (b1 (v="dict")&&(b1 (ed.c5=0)&&apR Aa.e0 T.aay)) Y)=G:=b;generalize d:M.cm 151=t at b o;rw[tm t (by rw[sT]) cR (by induction cR using af.k_.ae with|mk x aj fS ed=>induction x using af.ck.ae with|hl v=>(induction aj using ap.ae with|B=>(rw[aVj fS af.akq.ae bE Aa ep (by have Q:=N.fY.mp b;have h2:=N.fY.mp Q.2;rw[mZ b d,m3 Db (sr v "dict" (cD Q.1)),mZ Q,mY hz];subst hz;cases fE.aHd (cD h2.1);exact o Aa ep e h2.2)])|c _=>rw[sT])|_=>rw[sT])]
def boot_len:∀h,h∈["len","any","all","sorted","min","isinstance"]→Ï≠"__name__"∧xK aGD=c (.acy h):=by simp only[r.aul];exact(Ue aRw aRw aRw aRw aRw aRw (fun P b=>aOk))
def aGE:∀h,h∈["tuple","range","str"]→Ï≠"__name__"∧xK aGD=c (p3 h):=by simp only[r.aul];exact(By aRw aRw aRw (fun P b=>aOk))
def OK{gn:Type}{j}{aj}:∀{i:rC ea gn},rR i.cm aj→(j,aj)∈i|(ab,d)::l,b=>by rw[xi r.aa5,pI t (j==ab) (by rw[pr t,nf b,om,nR,pq,lb.1 t,mW uA]) (by rw[pr t,mW (aQX (OK b))])]
def Kj{y}{f}(b:afM y f=G):y=si:=by induction y using af.ck.ae with|bI g=>exact uU (u.aox b)|_=>rw[sT]
abbrev apk(x:u)(h:af.bH):N:=(dC.k8 amj).dS fun t=>u.acv oI x&&af.bl.fv.sEq ox h
def HS{x}{h}(b:apk x h=G):(h,x)∈dC.k8 amj:=by obtain⟨⟨f,g⟩,H,d⟩:=r.gZ.1 b;rw[ot (aOE d) aV bj,←af.bl.fv.ass.1 bj,←u.aox aV,mW H]
abbrev aEa(h:af.bH):N:=dC.de fun o=>!(af.bl.fv.sEq o h)
def Zz{h}(b:aEa h=G):h∉dC:=fun H=>by have:=Â b h H;rw[o6 (af.bl.fv.ass.2 e),mW (yX aa)]
def AdH:(r.adw 87).de (fun q=>apk (q+1) (af.bH.dF (arb.ld q "")))=G:=ĕ
def AdF:(r.adw 8).de (fun q=>apk (q+88) (af.bH.dF (aqU.ld q "")))=G:=ĕ
def AdG:amv.zipIdx.de (ue (apk (oI+96) (af.bH.dF (ox).1)))=G:=ĕ
def AdI:apk 166 "KEY_FAMILIES"=G:=ĕ
def AdJ:["len","any","all","sorted","min","isinstance","tuple","range","str"].de (fun h=>xK aEa)=G:=ĕ
def HL{cg:Type}{i:Ì}{q}{j aj}(b:op i j):i.ld q aj=j∧q<i.z:=by obtain⟨aB,d⟩:=r.gF.1 b;exact⟨qZ r.aBW b,aB⟩
def AcR{b'}{V}{M}{n}{li}{aaD}{mg mb}{bf}(O:ata n li aaD mg mb bf)(cL:M.abJ bf)(hs:xL bf.bg asy)(x:aw8 M mg):hT (aTX bf):=by have aDV:∀h,h∈["len","any","all","sorted","min","isinstance","tuple","range","str"]→xK mg=B:=fun h b=>x.hP _ (Zz (Â AdJ h b));rw[m1 (∀x j,aui x j=G→x<8) (by rw[mY x j b,m1 (aoG.de (ue (u.aam ox 7))=G) uJ,mY aB,mW u.avI (u.afQ (Â aB _ (NC x j b)))]),mY aH7,mX {adB:=O,cL:=cL,aEQ:=hs,const:=?_,fn:=?_,eY:=?_,ay3:=?_,abp:=?_,eT:=?_,arV:=?_,aqT:=?_},mY h hJ b];obtain⟨aq,cQ,d⟩:=pQ r.aBZ OK;have a5:Ä amv=c (h,hJ):=rW r.gF.2 cQ d;have H:((h,hJ),aq)∈amv.zipIdx:=r.mk_mem_zipIdx_iff_getElem?.2 a5;rw[nD (m7 x.b9 (HS (Â AdG _ H))) y Q h2];(have h3:akf M (aq+96) y=ajl M hJ y:=by show(match u.aam 87 (aq+95)with|Y=>afM y (ij (aq+95))|G=>match u.aam 95 (aq+95)with|Y=>afM y (eR (aq+95-87))|G=>match u.aam 165 (aq+95)with|Y=>(match amv[aq+95-95]? with|c t=>ajl M oI y|B=>Y)|G=>afM y 151)=_;have adj:aq<70:=cQ;rw[u.aqP (show 87≤aq+95 by exact xn nw (u.alv 95 aq)),qJ u.aqP (95≤aq+95) (u.alv 95 aq),show u.aam 165 (aq+95)=Y by rw[N.amB,mY a];have:=u.afQ a;exact u.aj3 aa (u.agc adj 95),u.axB,a5]);rw[mW Ad y Q fun b X hs ho=>SP cL hs ho _ y (h3▸h2),mY ac h b,ot (qJ (HL (aj:="")) (n9 arb ac h) b) d aB];have aB:ac<87:=aB;rw[m2 (CN AdH ac aB),m5,o6 d,nD (m7 x.b9 (HS aa)) y Q h2];(have h3:akf M (ac+1) y=afM y (ij ac):=by show(match u.aam 87 ac with|Y=>afM y (ij ac)|G=>_)=_;rw[show u.aam 87 ac=Y by rw[N.amB,mY a];have:=u.afQ a;exact u.aj3 aa aB]);rw[mW Q.ah (uU (Kj (h3▸h2))),mY o h b,ot (qJ (HL (aj:="")) (zd aqU h) b) d aB];have aB:o<8:=aB;rw[m2 (CN AdF o aB),mY aa,o6 d,nD (m7 x.b9 (HS aa)) y Q h2];(have h3:akf M (o+88) y=afM y (eR o):=by show(match u.aam 87 (o+87)with|Y=>afM y (ij (o+87))|G=>match u.aam 95 (o+87)with|Y=>afM y (eR (o+87-87))|G=>_)=_;rw[u.aqP (show 87≤o+87 by exact u.alv 87 o),show u.aam 95 (o+87)=Y by rw[N.amB,mY a];have:=u.afQ a;exact u.aj3 aa (u.agc aB 87),u.axB]);rw[mW Q.ah (uU (Kj (h3▸h2))),mY h b,ot (boot_len h b) c6 dn,mW ⟨aDV h (r.alz _ b),(O.aza _ c6).ah dn⟩,mY o j b,mW ⟨CN x.bS o (aH7 o j b),lb.1 (Â x.abp _ (NC o j b))⟩,mY o j ac b];have bK:=OM o j ac b;rw[m2 (Â x.eT _ bK),mY hc,ot (aOE hc) A_ Bw,m1 (anf.de (ue (u.aam ox 7))=G) uJ,mY aB,mW AE (CN x.bS o (u.avI (u.afQ (Â aB _ bK)))) (lb.1 A_) (lb.1 Bw),mX WG x.arV fun Aa ep aG avz=>?_];(have j6:mg "KEY_FAMILIES"=c (nP 151):=by rw[nD (m7 x.b9 (HS AdI)) y Q h2,mW Q.ah (uU (Kj h2))]);rw[yr (Ps b' V Aa.e0 T.aay avz) dN dG fH aiP,mX (nM Bx j6 (n7 Cn (nv cL aG) (AE e e e) e (tZ (dG d (fE.mem_toList_iff.2 he))) dN (aU7 fH)) nw aiP),mY h b,ot (aGE h b) c6 dn,mW ⟨aDV h (r.ar7 ["len","any","all","sorted","min","isinstance"] b),(O.aza _ c6).ah dn⟩]
def XA{b'}{V}{M}{n}{li}{aaD}{mg mb}{bf}(x:aw9 M):akw (aTX bf):=by rw[m1 (∀o h,zd aqU h→o<8) (fun o h b=>(HL (aj:="") b).2),mY jf,mX ⟨fun o h b=>aT5 (CN x.fx o (jf o h b)),fun o h b d=>?_,fun o h ac b d=>?_⟩];(have aG:o∈[5,6,7]:=by rw[m1 (apl.de (ue ((oI).eF||[5,6,7].elem ox))=G) uJ,mY aB,mW r.elem_iff.1 (Â aB _ (qJ KD (apl.cm o=c _) d))]);exact lb.1 (Â x.av0 o aG);(have aG:(o,ac)∈[(0,87),(1,89),(2,90),(3,93),(4,97)]:=by rw[m1 (apl.de (ue ((oI).mL||[(0,87),(1,89),(2,90),(3,93),(4,97)].elem (ox,(oI).ld 0)))=G) uJ,mY aB,mW r.elem_iff.1 (Â aB _ (qJ KD (apl.cm o=c _) d))]);obtain⟨A_,Bw⟩:=aT5 (Â x.ahD _ aG);exact⟨lb.1 A_,lb.1 Bw⟩
def UQ(h):bo (h+101)=B:=e
def Za{b'}{V}{M}{n}{li}{aaD}{mg mb}{bf}(x:∀ac,ac<101→aD5 M ac):amh (aTX bf):=by(have de:∀ac fn,aVb bo→ah4 (aTX bf) (ij ac) fn:=by intro ac fn b;by_cases b2:ac<101;exact AD (x ac b2 _ b) fun n g k Q h2=>UP Q h2;obtain⟨h,e⟩:∃h,ac=h+101:=⟨ac-101,m4 (rz (u.e8 (u.aa6.1 b2)))⟩;rw[xi UQ,aR5]);rw[m1 (∀ac cE,n9 arb ac cE→∃fn,bo ac=c _) (by rw[mY ac cE b,m2 (HL (aj:="") b).2,mY b2,m1 (∀ac,ac<87→(bo ac).eF=G) (CN (n:=fun ac=>(bo ac).eF) (by rfl)),mY aa,mW ap.alr.1 (aa ac b2)]),mY aLc,mX ⟨fun ac cE b=>?_,fun o j ac b=>?_,de⟩,n4 (aLc ac cE b) fn d,mW (vU d (de ac _ d)),m2 (OM o j ac b),mY bK,m1 (anf.de (ue (bo (nW t)).eF)=G) uJ,mY aB,m2 (ap.alr.1 (Â aB _ bK)),mY aa,uy aa fn d,mW (vU d (de ac _ d))]
def MH:amt.i1=301:=e
def SZ:amt.ib=4:=e
def Up{E}(bl:p9){h}{fn}{fa}{p}{k}{cB}{dX}{bD}{d_}{pm cd mm}{vs}{fM}{y}{r'}{bJ}{ao}(hs:k.aK=E.bf)(ho:aUB fa)(hd:p.fS=.akV (at2 cB dX bD d_ pm cd mm))(hcd:k.aK.aFw cd cB)(ok:ah4 E fa fn)(bh:p_ adK fn.bD)(cu:3*h<680)(auH:ay5 (at2 cB dX bD d_ pm cd mm) (yY fM)=km ((dX.ec.au (·.iX)).k8 fM))(aoR:vs.z=fn.c8)(ft:d4 k.aK (yY []) vs fM)(av:b4 E.O aWv fn.bD (aTL fn.dc fn.c8) []=c (rO,r',bJ))(av2:∀cM h' tk cv am H,akt k.aK am h' H→db h' cv y cM→ao (.ok (s6 cM)) (yS h')):amu wo amt (.bp (nP fa) (yY fM)) ao k:=by rw[mX HC ok fun aNf aNp aiQ aGB ahV aMO aM8 aMQ aNm aMK aMM aNi aMH aNj aNk lW=>?_,m2 (nv bl.cL lW.ho),mY aG];rw[←hs,ho]at aG;rw[nf aG,mZ aG,mY aG];subst aG;have amR:=akq.akV.dB hd;obtain e:aiQ=dX:=cr amb.dX amR;obtain e:ahV=d_:=cr amb.d_ amR;(obtain e:aGB=bD:=q7 (cr amb.bD amR) (aFG.stmts.dB aa));clear amR;have agb:ata E.n E.li E.aaD E.mg E.mb k.aK:=hs▸bl.adB;have afC:fM.z=vs.z:=ft.z;(have art:rH aiQ.ec.au (·.iX)=fM.z:=by rw[lW.ec,r.aiG,r.hN,afC,aoR,m2 lW.atp,m5,mW u.anh aa]);(have abY:(aiQ.ec.au (·.iX)).fF:=nb lW.ec (r.axq.nodup (r.aLi ..) lW.cO));(have aat:(((aiQ.ec.au (·.iX)).k8 fM).au (·.1))=aiQ.ec.au (·.iX):=nb r.aKi (u.fp art));have aj1:∀j,ahV.bw.cm j≠c .ht:=fun j d=>lW.aj1 _ (abz d) e;rw[mX call_cellsN (aU7 MH) ho hd agb.nolimit hcd auH (fun j J=>?_) lW.aze (fun Q tk hr aN gg ael=>?_) lW.co lW.gen lW.cA,m2 (r.avX J).1,mY bK,nt (lW.ahF _ bK),wC,m9,wC,m8,mW (pp a),mW .bF ⟨a,n7 azf (pp a)⟩];generalize hL:k.aK.eU.c5=am at aN gg ael⊢;(have akU:∀g,am≤g→k.aK.bg g=B:=fun g U=>by rw[vz d (k.aK.bg g) (by rw[m1 (g<k.aK.eU.c5) (b8.anc d),mY h9];rw[hL]at h9;exact ej h9 (u.aj3 U))]);refine B8 agb.K fun ann aHf aHa aif atU P=>?_;have fx:tc k.aK.bg (w4 Q.bg):=we (sq aN.fx);have jn:gb lG k.aK Q (yY []) (yY []):=⟨fun g p d P P=>sq fx,we (vK (sq fx)),fun g p a d=>by rw[uf];rw[aif]at d;rw[nf d,mZ d,mY d,oT];(have t:hK ann=Y:=ĺ hK atU);exact⟨t,aN6 (by rw[rl (nv fx aif),yW,zS t])⟩,(Ad ([]) (by kernel_rfl!) (fun g⟨n,ba,_⟩=>aT1)),e⟩;have bQ:cT E k.aK am (akE (abR cB ahV am fa cd).h_ ((aiQ.ec.au (·.iX)).k8 fM) (nO B)) Q (yY []) []:=⟨aN,⟨e,fun q p n d P=>by simp at d,.C⟩,fun g⟨n,ba,_⟩=>aT1,fun g U=>(nomatch U)⟩;have cl:=oa Hh ahV.bw am [] am yk (fun n ba=>aT1) .C;have agF:∀j x,(abR cB ahV am fa cd).hr.cm j=c x→am+1≤x:=fun j x d=>cl.1 (j,x) (abz d);(have iM:ma (abR cB ahV am fa cd) ahV:=by rw[mX ⟨lW.cA,e,e,fun j d=>d,fun j d=>d,fun j d=>d,fun j d=>?_⟩,nY d d,y2,m9,y2,m8,mW ap.alr.mp (azf _ (am+1) _ (pp d)),mW (aj1 j d).az]);have avT:∀g,¬g6 ([]:rC d8 d8) g:=fun g⟨n,ba,_⟩=>aT1;rw[m1 (ah3 E _ am _ _ (yY []) _ (ajW fn)) (by rw[mX ⟨iM,e,akU am yk,⟨ann,aif⟩,avT _,fun j x d=>(AE (akU x (u.ajQ aVn)) (u.alE aVn) (akU x (u.ajQ aVn))),fun j ab x aV bj=>Pr cl.2 (abz aV) (abz bj),fun j ab q aV bj=>?_⟩,m2 (Fb aV),mY z1,m2 (Fb bj),mY bz];rw[z1]at bz;exact ap.c.dB bz),mY cJ,m1 (gV E h (amt.deeper (abR cB ahV am fa cd)) k.aK am) (by rw[mX ⟨e,we (nb hs d),(ni EO (below_caller _) (lT.aHq e) e lW.cA),?_,?_⟩,m2 MH,m5];show amt.i1+1+3*h+10<1000;rw[mW X0 aa cu,m2 SZ,m5];show amt.ib+3+12*h+400<9900;exact X1 aa cu),mY asT];(have aoc:∀j x,(abR cB ahV am fa cd).hr.cm j=c x→∃p,Q.bg x=c p∧p.fS=.gh (an6 (abR cB ahV am fa cd).h_ ((aiQ.ec.au (·.iX)).k8 fM) (nO B) j):=fun j x d=>by rw[nD (MG ael d) p a1 a2,mW Ad p ((gg _ a1).1) a2]);rw[m1 (jJ E _ am _ _ _ (abR _ _ am _ _) (ajW _) (akE _ ((aiQ.ec.au (·.iX)).k8 _) (nO B)) _ _ (aTL fn.dc fn.c8) _) (by refine⟨bQ,fun j q hJ J aG br=>?_,jn,fun j x d=>?_⟩;(have Ab:q<vs.z:=by rw[y7 a vs.z,mW a];rw[Ô r.aih a]at br;rw[r.aHv]at br;split at br<;>cases br);rw[Ô r.jP Ab,r.adf]at br;rw[nD (ap.avK.mp br) dE gj a5,mZ br,nf a5,yR,mY a5,vL,nD (ft.i3 gj) fD ab0 awd,m2 (Fb J),mY abt];(have afz:((aiQ.ec.au (·.iX)).k8 fM).cm j=c fD:=by rw[mX QE abY ?_ ab0,lW.ec,r.aBY (m4 (u.k0 Ab (u.fp aoR))),mW abt]);refine(vU ?_ (awd.bx jn));rcases aG with aG|aG|aG;rw[mW (zj aG (pp (wz (I5 aG _ _ (nb aat abY) afz)))),n4 (iM.hr j (pp aG)) x hc,nD (aoc j x hc) p j8 k2,m1 ((abR _ _ am _ _).h_ j≠c yZ) (rb (by rw[aG]at a;rw[nf a,mZ a,mY a];injection a)),mY nl];rw[I4 nl _ _ (nb aat abY) afz]at k2;rw[mW .bF (qd (pp aG) (BU x p hc (u.alE (agF j x hc)) (avT _) j8 k2)),mW (aj1 j aG).az,nD (aoc j x d) p j8 k2,mW AE (avT _) (fun U=>(nomatch U)) (AI _ p j8 k2)]),mY e3,mX aqe (pj bh k (yS Q) aW (fun ac s'=>ao (.ok (.bu (oo ac rO y .B))) s') bb (wW aks) asT cJ lW.bD e3 av fun cf h2 d2 g5 c4 f9 P f2=>?_) (wc j j) (wc j j.az),p4 f2,mZ f2];rintro cM e cy;exact oM av2 cM am _ f9.f3.fr cy
set_option genSizeOf true
set_option genSizeOfSpec true
set_option genInjectivity true
set_option backward.dsimp.useDefEqAttr true
set_option backward.match.sparseCases false
def PN{b:b8}{X:eW}:∀{vs:vm}{ns:n1},asV vs ns→d4 b X (ns.au .m) vs|_,_,.C=>by unfold d4;rfl|_,_,.s h v l=>by unfold d4;exact⟨_,_,e,by unfold db;exact qS v,PN l⟩
set_option maxRecDepth 100000 in
def Tp:ml.cB=af.bH.dF "law":=ĕ
set_option maxRecDepth 100000 in
def Js:(ml.dX.iL=[])∧aeK=[]:=⟨ĕ,ĕ⟩
set_option maxRecDepth 100000 in
def To(pm cd mm:ck)(y:ck):ay5 (aw7.at2 ml.cB ml.dX ml.bD ml.d_ pm cd mm) (yY [y])=km ((ml.dX.ec.au (·.iX)).k8 [y]):=ĕ
def walked{b':aej}{V:kc}{n:aej}{li:r af.bH}{aaD:vH axb ck}{mg mb:r8}{k:en}{fa:d8}{p:k_}{pm cd mm dV kV:ck}{sa:d8}{eD:vm}{ns:n1}{ao:t7 aGb}{M:j2}(O:ata n li aaD mg mb k.aK)(il:aJy n=G)(ael:axw M k.aK)(ho:aUB fa)(hd:p.fS=.akV {aw7.at2 ml.cB ml.dX ml.bD ml.d_ pm cd mm with iL:=dV,kwdefaults:=kV})(hcd:k.aK.aFw cd ml.cB)(hD:axa mg k.aK ml.dX aeK dV kV)(hmg:mg ml.cB=c (nP fa))(hL:k.aK.ajc sa eD.mT)(hI:asV eD ns)(eb:ns.z≤63)(av2:∀h' tk am H,akt k.aK am h' H→ao (.ok aOU) (yS h')):amu (fP b' V) amt (.bp (nP fa) (yY [nP sa])) ao k:=by(have avf:xL k.aK.bg asy:=by obtain⟨_,⟨p,_,_,ho,_⟩,_⟩:=(O.seer il).apC;exact vK ho);obtain⟨cL,gv,ach,ai2⟩:=ael;obtain⟨aD,aFu⟩:=W9 cL gv ach;have aG7:mg=k.aK.anm lG:=O.K.eq_nsMap;rw[←aG7]at aD;have bl:hT (aTX k.aK):=AcR O cL avf aD;have aaP:akw (aTX k.aK):=XA aFu;have abL:amh (aTX k.aK):=Za (fun ac b2=>Y_ ai2 b2);(have acD:fa=ij 86:=by have Q:=bl.fn 86 "law" e;rw[Tp]at hmg;have h2:aWr mg "law"=c (Ò ij 86):=Q;rw[hmg]at h2;cases h2;rfl);rw[pD (axa.B (by rw[Js.2]at hD;exact hD) Js.1)];have aG:kV=.B:=axa.noKw (by rw[Js.2]at hD;exact hD);subst aG;obtain⟨r',bJ,av⟩:=WM ns 0;refine nI (nI (nI (Up (E:=aTX k.aK) bl) h 200 fn arc) vs [u' ns.au .m] y pg) r' r' bJ bJ e ho (fd_plain hd) hcd (acD▸abL.de 86 arc e) (LQ bl aaP abL (fun ac=>(Q' bl aaP abL 200 ac).2) arc.bD) nw (To ..) e ?_ av ?_;(·obtain⟨j8,a1,a2,g1,a3⟩:=hL;unfold d4;refine⟨_,_,e,?_,by unfold d4;rfl⟩;unfold db;exact⟨sa,j8,eD.mT,g1,e,⟨fun⟨n,ba,_⟩=>aT1,fun U=>(nomatch U)⟩,a1,a2,a3,by rw[vO,xh];omega,PN hI⟩);·intro cM h' tk cv am H aN l;unfold db at l;rw[tF,mW av2 h' tk am H aN]
set_option maxRecDepth 100000 in
def in0:aJy hk=G:=ĕ
end
end Mine
open PySem PySem.W PyProof.Rows
set_option maxRecDepth 100000 in
theorem PySem.Challenge.cw_up0030_01_holds : PySem.Challenge.rw_up0030_01.Holds := by
  refine Mine.hd ?_
  intro w s₀ s₁ mg mb G Y fa o pm cd doc dV kV ho hd hcd hD hmg hg args vals as hpre hlay hrd hwl hlo
  obtain ⟨K, KX⟩ := Y
  have T := G.T
  clear G
  refine enter_call ?_
  wrow_args hpre hlay hrd hwl hlo
  rename_i ns h1 h2 h3 h4 h5 a1 a2 sa items a3 hL h6 h7 h8 hI h9 hlen h10
  refine codeAny_mono (Mine.walked T Mine.in0 KX ho hd hcd hD hmg hL hI (by omega) (fun h' tk L m F => ?_)) (fun _ _ x => GoodW.toG x)
  refine goodW_bool F hg (raisesW_false ?_) ?_
  · wrow_none_raised
  · wrow_post
