import PyProof.Rows.All
import OpenK.KLine
import Wide.Seal
import PyProof.DictRoadsH
import KE.KSlice
import KE.KRevSl
import KE.IntBitsLaws
import KE.KEqDict
import KE.KDictSum
import KE.LcSums
import KE.KDeep
import PyProof.Rows.KernelRfl
import PyProof.WalksMore
import PyProof.RangeIter
import KE.KAssignIn
import KE.KItem
import PyProof.TableCode
import Open.Fast
import Lean
import PySem.Challenge.RW_up0030_01
set_option Elab.async false
set_option linter.all false
set_option compiler.extract_closed false
set_option compiler.reuse false
set_option compiler.small 0
/- up0030-01. The two blocks `mutual open .. end` below hold the proof in short writing. The one local rule
above them writes it out, syntax to syntax, before Lean elaborates it: the first line of a block says which
short name stands for which name; the inner `mutual .. end` holds abbreviations of terms and of tactic steps,
with their parameters α, β, ..; in what follows `def` is short for `theorem`, `abbrev` for `noncomputable def`,
a nested `mutual variable .. end` for a section, `rw` and `omega` for the steps zqL, zqR, zqE, omega given
there. The lemmas' names come out as omega_N. Every lemma is elaborated by Lean and checked by the kernel.
The theorem of the challenge stands in plain writing at the end. -/
namespace Mine
open Lean Syntax
def Zl {A B:Type} (f:B → A → B) (b:B) (l:List A):B:=l.foldl f b
def Zr (f:Syntax → Syntax) (s:Syntax):Syntax:=s.rewriteBottomUp f
def Ze (s:Syntax) (i:Nat):Syntax:=s[i]
def Zo (a:Array Syntax:=#[]):Syntax:=mkNullNode a
def Zh (s:Syntax) (k:String):Bool:=s.getKind.getString! == k
def Zc (s:Syntax):Nat:=s.getNumArgs
def Zk (s:Syntax):String:=s.getKind.getString!
def Zm (c k:String) (a:Array Syntax):Syntax:=.node .none (.str (.str (Name.mkStr2 "Lean" "Parser") c) k) a
def Za (s:String):Syntax:=.atom .none s
def Zp (x:Syntax):Syntax:=Zm "Tactic" "paren" #[Za "(",x,Za ")"]
def Zt (x:Syntax):Syntax :=
 let x:=if Zh x "paren" then (Ze x 1) else x
 if Zh x "byTactic" then Zp (Ze x 1) else Zm "Tactic" "show" #[Za "show",x]
def Zw (f:Syntax) (xs:Array Syntax):Syntax:=Zm "Term" "app" #[f,Zo xs]
def Zf (s:Syntax):Syntax :=
 let f:=(Ze s 0)
 let f:=if Zh f "paren" && Zh (Ze f 1) "app" then (Ze f 1) else f
 if Zh f "app" then Zw (Ze f 0) ((Ze f 1).getArgs ++ (Ze s 1).getArgs) else s
def Zg (s:Syntax):Syntax:=if Zh s "app" then Zf s
 else if (Zh s "intro" || Zh s "clear") && Zh (Ze (Ze s 1) 0) "app" then s.setArg 1 (Zo (#[(Ze (Ze (Ze s 1) 0) 0)] ++ (Ze (Ze (Ze s 1) 0) 1).getArgs))
 else if Zh s "show" && Zc s == 2 then Zt (Ze s 1)
 else s
def Zi (d:Syntax) (xs:Array Syntax):Syntax :=
 Zr (fun s=>if s.isIdent then
   let z:=s.getId.toString
   let c:=z.front.toNat
   xs.getD (if z.length == 1 && 944 < c then if c > 955 then c - 946 else c - 945 else 99) s
  else Zg s) (Ze (Ze d 3) 1)
def Zv (t:Data.Trie Syntax) (n:String) (xs:Array Syntax) (s:Syntax):Syntax:=match t.find? n with
 | some d=>Zt (Zi d xs)
 | none=>s
def Zs (a:Array Syntax):Syntax:=Zp (Zm "Tactic" "tacticSeq" #[Zm "Tactic" "tacticSeq1Indented" #[Zo (mkSepArray a Zo)]])
def Zd (d:Data.Trie String) (n:Name):Name:=Zl (fun m c =>
 let s:=c.getString!
 m.str ((d.find? s).getD (if s.length > 1 && s.front.isUpper then "omega_" ++ toString (Zl (fun n (c:Char)=>n * 128 + c.toNat) 0 s.toList) else s))) .anonymous n.components
def Zx (d:Data.Trie String) (t:Data.Trie Syntax) (s:Syntax):Syntax :=
 match s with
 | .atom _ v=>Za v
 | .ident _ r n _=>match t.find? r.toString with
  | some d=>if Zc (Ze (Ze d 2) 0) == 0 then (Ze (Ze d 3) 1) else mkIdent n
  | none=>if n.isAnonymous then .ident .none r n [] else mkIdent (Zd d n)
 | .node _ k a =>
  let s:=Syntax.node .none k a
  let b:=(Ze s 1)
  if Zh s "app" then
   let xs:=b.getArgs
   match t.find? (if (Ze s 0).isIdent then (Ze s 0).getId.toString else "") with
   | some d =>
    let n:=Zc (Ze (Ze d 2) 0)
    let xs:=if 0 < n && n < xs.size && Zh (Ze (Ze d 3) 1) "byTactic" then (xs.extract 0 (n - 1)).push (Zw xs[n - 1]! (xs.extract n xs.size)) else xs
    let b:=Zi d xs
    if n < xs.size then Zf (Zw b (xs.extract n xs.size)) else b
   | none=>Zf s
  else if Zh s "show" && a.size == 2 then Zt b
  else if Zh s "omega" && Zc (Ze b 0) == 0 then Zv t "omega" #[] s
  else if Zh s "injections" then Zv t ("zqI" ++ toString (Zc b)) b.getArgs s
  else if Zh s "rwSeq" && Zc (Ze s 3) == 0 then
    let r:=Zl (fun (p:Array Syntax × Bool) x =>
     let y:=if Zh (Ze x 1) "paren" then (Ze (Ze x 1) 1) else (Ze x 1)
     if Zh y "byTactic" then ((if p.2 then p.1.push (Zv t "zqE" #[] s) else p.1).push (Zt y),false)
     else (p.1.push (Zv t (if Zc (Ze x 0) == 0 then "zqL" else "zqR") #[(Ze x 1)] s),true)) (#[],false) (Ze (Ze s 2) 1).getSepArgs.toList
    Zs (if r.2 then r.1.push (Zv t "zqE" #[] s) else r.1)
  else if Zh s "declaration" && (Ze s 0).getHeadInfo?.isNone then
    if Zh b "definition" then .node .none k #[(Ze s 0),Zm "Command" "theorem" #[Za "theorem",(Ze b 1),Zm "Command" "declSig" #[(Ze (Ze b 2) 0),(Ze (Ze (Ze b 2) 1) 0)],(Ze b 3)]]
    else if Zh b "abbrev" then (t.find? "in").get!.setArg 2 (.node .none k #[(Ze s 0).setArg 4 (Zo #[Zm "Command" "noncomputable" #[Za "noncomputable"]]),Zm "Command" "definition" #[Za "def",(Ze b 1),(Ze b 2),(Ze b 3),Zo]])
    else s
  else if Zh s "mutual" then if !Zh (Ze b 0) "variable" then s.setArg 1 (Zo (Zl (fun a c=>a.push (if Zh c "in" then Ze c 2 else c)) #[] b.getArgs.toList)) else Zo ((#[Zm "Command" "section" #[Zm "Command" "sectionHeader" #[Zo,Zo,Zo,Zo],Za "section",Zo]] ++ b.getArgs).push (Zm "Command" "end" #[Za "end",Zo]))
  else s
 | s=>s
def Zq (c:Syntax):MacroM Syntax :=
 if Zk (Ze (Ze c 1) 0) != "open" then Macro.throwUnsupported else
 let d:=(Zl (fun (p:Data.Trie String × String) x =>
  let x:=x.getId.toString
  if p.2 == "" then (p.1,x) else (p.1.insert p.2 x,"")) (.empty,"") (Ze (Ze (Ze (Ze c 1) 0) 1) 0).getArgs.toList).1
 let t:=Zl (fun t c =>
  let s:=Zr (Zx d t) c
  t.insert (Ze (Ze (Ze s 1) 1) 0).getId.toString (Ze s 1)) (Data.Trie.empty.insert "in" (Zr (Zx d .empty) (Ze (Ze c 1) 2))) (Ze (Ze (Ze c 1) 1) 1).getArgs.toList
 return Zo (Zl (fun a c=>a.push (Zr (Zx d t) c)) #[] ((Ze c 1).getArgs.toList.drop 3))
local macro_rules (kind:=Lean.Parser.Command.mutual) | s=>Zq s
mutual open a z b h c some d e e rfl f a g b h n i l j x k s l r m int n p o k p o q i r List s cons t q u Nat v t w H x c y v z length A var B none C nil D obj E G F true H m I x1 K g L x2 M K N Bool O T P z0a Q h1 R Int T z0c U z0d V w W P Y false aa this ab y ac f ae casesOn af PySem ag M ah trans aj d am L ao R ap Option aq j au map aw list ay tup az elim aD C aK heap aO bool aP u aQ Or aT item aX cmp be attr bg get? bi str bl W bm lst bp call bs pos bu ret bw names bA Expr bC ite bD body bE dict bF inr bH Str bI ref bL glob bS inst bT inl bX S b1 decide b8 Heap b9 at_ b' prog ce toks cg φ ci assign ck Value cm lookup cq symm cr congrArg cs noConfusion cA kind cB name cD of_decide_eq_true cF drop cH if_neg cL X c0 if_pos c3 and_eq_true c5 size c8 arity c9 len db all dc slots dx key dy stuck dB inj dD isEmpty dF ofString dM bin dS any dU setAttr dX params d7 Addr d_ scope ea String eb args ee Stmt eh absurd en Shared eB and eF isSome eG le_trans eH slot eP ctorIdx eU objs eZ sub e0 toList e2 sub_add_cancel e_ add fv Fast fx keep fE Array fF Nodup fK Prod fS data fV injEq fW motive_1 fY and_eq_true_iff f_ expr gc N gh cell gn χ go comp gs row gu take gA mem_cons gH isin gL And gM Builtin gN Nonempty gP ifs g0 keeps g3 tail g' push hl type hp all_eq_true hq append ht free hv motive_2 hw newList hO lt_of_le_of_lt hP off hV getElem?_eq_getElem hZ decide_eq_true ia seq ir not ix alive iG line iX arg i3 get i7 mem_singleton jl setItem ju neg jB rec jC trivial jG Call jZ Challenge j2 Frag kc World kq Scope kF iter kH le_refl kM Name kS fmod kZ length_cons k0 lt_of_lt_of_le k8 zip k_ Obj la add_assoc lb beq_iff_eq ld getD li loose lu PyProof lv Slice lG mainGlobals lJ new lK newDict lP val l6 nodup_cons me Rows mr head mF abs mG boot_heap mM isNone mO not_lt aac zero_add aaf Attribute aak Subscript aao ble aaE main aaJ pw_up0030_01 aaV beq_self_eq_true aaX ext aa4 isStr aa6 lookup_cons abh True abi add_le_add_left abl cont abo fdiv abp field abH Eq abK In abU findIn abV function ab7 life acf true_and acg unpack acs add_le_add acu band acv beq acy builtin acK le_add_right acL le_of_not_lt acR or_eq_true acU range ac3 Pos ac5 Tuple adg getElem?_map adw pop ady sliceTo adL add_le_add_right adW filterMap aeh Assign aej Program aeP mem_append afc Const aff ListComp afn bor afo contains aft extend afQ le_of_ble_eq_true af9 SharedT agp endLine agu fnX agM kernel agP le_of_lt agV slice ag6 BoolOp ag7 DictEntry ahe OsState ahj UnaryOp ahD init ahM ne_of_lt ahW sliceFrom ah0 Constant ah1 Decidable ah2 Dict aib and_true aiI lt_succ_self aiJ motive ai9 Delete ajc For ajl beq_eq_false_iff_ne aju fields ajA hash ajN imp ajS le_of_succ_le aj4 not_lt_of_le akc rw_up0030_01 akp BT akq Compare akr Data akt False akC absHeap akG blt akH clsName akJ contains_iff_mem akW func all z0j alt isTrue alw le_add_left alA mem_append_left alE mul alF ne_of_gt alJ openGood alK pass al4 Arguments al5 AugAssign amf IfExp amn While amq add_comm amC eq_false_iff amE find? amH fnName amK globalImplicit am4 instOk anh min2 ann nsMap any z0k anI BinOp anJ Continue anO If anS NotIn anT Operator anU Pass an8 builtinsNs aoe cons_append aoD filterMap_cons apn isNs apr kwonlyargs aps le_of_lt_succ apx look_both apy lt_irrefl apC mods apJ nsKeys aqc withFollow aqn CmpOp aqq DecidableEq aqw Params aqz Return aqB Thread aqH add_left_comm aqP ble_eq_true_of_le aqW cellsFrom aq6 dite arZ kwarg ar4 lt_of_le_of_ne ar5 makesIn ar6 mapR asn posonlyargs ast sEq_iff asC tw2368527892694137696 asE vararg asM ω asN Add atd USub atk add_right_comm atI boot_drawn atJ boot_toks atL clsIn atM consts atS z0l atT z0m atZ defOf at0 denote auC hashInt avu importedModules avz isFalse avJ lt_succ_of_le avL map_eq_some_iff avP namesBound avT nil_append avY of_mem_zip av1 plain aww stepOk awx stepT awA sub_le awB succ_le_succ awM treeTable awQ tw821141287760084731 aw8 Calls axh Inhabited axi IsNot axl Life axm Not axq Sub axC add_sub_cancel axE and_assoc azU default aBM find?_cons aBW gensDone aBX getD_eq_getElem?_getD aDs keepIn aDx laidKept aEH startupNames aEJ staticsOk aEW toList_inj aEZ topFrom aE3 tw3399658132070893891 aE4 tw5923862056798008813 aE5 typeIn aFp BitAnd aFq BitOr aFF FloorDiv aFJ Gt aFK GtE aFO Is aFU Keyword aFV LeftO aFX Lt aFY LtE aF1 Mod aF3 Mult aF5 NotEq aGz behindInMarks aGG boundNames aGS constantsAlone aHi fenceModules? aHo foldedForSure aHp followText aJH isCoroutine aJI isGenerator aKe lt_of_succ_lt_succ aKl mem_range aKL plainOver aKM plainProg aLt tw10156331382660048174 aLu tw11892475500146522536 aLv tw14364793385576792824 aLw tw6613529449190102663 aMf ClassDef aMg Comprehension aMi DefRec aMj FunctionDef aMm Holds aMy RowW aME WalkO
mutual
def zqL α:=by first|refine AaC α ?_|rewrite[α]
def zqR α:=by first|refine AaD α ?_|rewrite[←α]
def zqE:=by try with_reducible rfl
def zqA:=by assumption
def zqD:=by decide
def omega:=by first|(with_reducible assumption)|decide|(with_reducible exact u.kH _)|(with_reducible exact u.agP zqA)|(with_reducible exact u.e2 zqA)|(with_reducible exact u.k0 zqA zqA)|(with_reducible exact u.hO zqA zqA)|(with_reducible exact u.eG zqA zqA)|(with_reducible exact u.k0 zqA zqD)|(with_reducible exact u.eG zqA zqD)|(with_reducible exact u.hO zqA zqD)|(with_reducible exact u.k0 zqD zqA)|(with_reducible exact u.eG zqD zqA)|(with_reducible exact u.awB zqA)|(with_reducible exact u.le_of_succ_le_succ zqA)|(with_reducible exact u.ajS zqA)|(with_reducible exact u.succ_le_of_lt zqA)|(with_reducible exact u.lt_of_succ_le zqA)|(with_reducible exact u.aps zqA)|(with_reducible exact u.avJ zqA)|(with_reducible exact u.aKe zqA)|(with_reducible exact u.succ_lt_succ zqA)|(with_reducible exact u.lt_of_succ_lt zqA)|(with_reducible exact u.lt_of_not_le zqA)|(with_reducible exact u.acL zqA)|(with_reducible exact u.aj4 zqA)|(with_reducible exact u.not_le_of_lt zqA)|(with_reducible exact u.alF zqA)|(with_reducible exact u.ahM zqA)|(with_reducible exact u.acK _ _)|(with_reducible exact u.alw _ _)|(with_reducible exact u.zero_lt_succ _)|(with_reducible exact u.succ_ne_zero _)|(with_reducible exact u.aiI _)|(with_reducible exact u.amq _ _)|(with_reducible exact u.la _ _ _)|(with_reducible exact u.atk _ _ _)|(with_reducible exact u.aqH _ _ _)|(with_reducible exact u.axC)|(with_reducible exact u.add_sub_cancel_left)|(with_reducible exact u.add_lt_add_left zqA _)|(with_reducible exact u.abi zqA _)|(with_reducible exact u.adL zqA _)|(with_reducible exact u.acs zqA zqA)|(with_reducible exact u.awA _ _)|(with_reducible exact u.ar4 zqA zqA)|(with_reducible exact eh zqA zqA)|(with_reducible exact u.apy _ zqA)|(with_reducible exact e)|lia|omega+splitDisjunctions
def mW α:=by exact α
def mX α:=by refine α
def mY α:=by intro α
def mZ α:=by clear α
def m1 α β:=.s α β
def m2 α:=.s α .C
def na:=.A 0
def nu α β:=.aT α β
def m8 α β γ:=.aX .α β γ
def nm α β:=m2 (.α β)
def m4:=.A 1
def m9:=.m 0
def nc:=.m 1
def nQ α β:=.bL α β
def m3:=.A 2
def m5 α:=nm bu α
def ni α β:=.bp α β
def nd α β:=.bC α β .C
def nb α β:=m8 eq α β
def nf α:=.be na α
def nh α β:=nQ α (.m β)
def nI α:=.ay α
def m6:=.A 3
def m7 α β:=.ci α β
def m_:=.A 4
def nC α:=nu α m9
def nD α β:=.be α β
def n9:=.s .dy .C
def nk α:=.bi α
def nN α β γ:=α mp aE β γ
def nJ α β γ:=nb α (nh β γ)
def n_ α:=fun ψ=>α
def nB:=.m 2
def nF α:=nu α nc
def ng:=.A 5
def nj α:=nd α n9
def nr α β γ:=.dM .α β γ
def nx α β:=.dU na α β
def nn α β:=(α,(.m β))
def nq:=.A 6
def nt:=nI .C
def nE:=.m 3
def n0 α β:=nN b_ α β
def nv α:=.ay α
def nw:=n_ Y
def nK α β:=ni α (m2 β)
def nG α β γ δ:=ni α (m1 β (m1 γ (m2 δ)))
def ny α:=d.eP=α
def nO α β:=ni α (m1 na (m2 β))
def nz α β:=.eB (m1 α (m2 β))
def nA α β γ:=m7 α (nu β γ)
def nT α:=af.bH.dF α
def nX α:=nu α nB
def n' α:=n0 f α
def nH α:=.f_ α
def n1 α β:=.eT na α β
def nL:=.m 4
def nM:=by kernel_rfl
def ox α β:=b_ K mp aE α β
def nP α:=nI [nc,nk α]
def nR:=.m 5
def o9:=nf "mode"
def nS α β γ:=nJ (nC α) β γ
def on:=nD (nf "host") "tab"
def nU:=.A 7
def nV α:=nQ α nc
def nW α:=nd α (m5 (.aO Y))
def oy:=.m 8
def nY α:=.c9 α
def nZ α β:=.or (m1 α (m2 β))
def n2 α:=nu α nE
def n3 α β:=α (fW:=fun P=>N) d b β
def n4:=.ju nc
def n5 α β γ:=.go α β γ .C
def n6:=r af.bA
def o_ α:=nD α "rows"
def pq α:=nD (nf α) "rows"
def n7 α β γ:=m8 gH α (nQ β (nI γ))
def o0:=.hw .C
def n8 α β γ:=.jd α β (m2 γ)
def oa α:=.ir α
def pp:=N.cs b
def ob α β γ:=m8 ne α (nh β γ)
def oc α:=nd α (m5 (.aO F))
def od α:=(mG W).α
def oe α β:=nu (nf α) β
def og α β:=nJ m4 α β
def oh α β:=nJ o9 α β
def oi:=.m 10
def oj α β:=nC (nu α β)
def ol α β:=.ay (m1 α (m2 β))
def om:=.bm .C
def oo:=.m 16
def op α β:=ni α (m1 β (m2 m4))
def oq:=nF m4
def ot α:=nO 68 α
def ou α:=ox f α
def ov:=pq "tab"
def ow α:=nG α na m4 m3
def oz:=.m 6
def oA:=.m 18
def oB:=.m 14
def oC:=.m 15
def oD:=.m 19
def oE:=.m 17
def oF:=nI []
def oG α:=nC (.A α)
def oH:=r af.ee
def oI:=nF m6
def oJ α:=nx α m9
def oK α β:=α (hv:=fun P=>N) d b β
def oL:=n' j
def oM:=iS j
def oN α:=α V os
def oO α:=(r.acU α).db
def oP:=.m 2047
def oQ:=nC m3
def oR α β:=(α,(nI β))
def oS:=n_ N
def oT:=nF m_
def oU:=nT "law"
def oV:=by exact pp
def oW:=o_ on
def oX:=.s .dy n9
def oY:=r (af.bH×u)
def oZ α:=nN jj Aa α
def o1 α β γ:=by obtain⟨α,β⟩:=γ b
def o2:=nf "rows"
def o3 α β:=nI [nB,α,β]
def o4:=nF na
def o5 α:=nx α o0
def o6 α:=nK α m3
def o7 α β:=aE.bw.cm α==c .β
def o8:=nI [oy,.m 9]
def pa α:=fK.mk.dB α
def pb α:=α af.jZ.aaJ.aaE.bD
def pc:=@ar.ae
def pd α:=[α,"t"]
def pe:=nC m6
def pf α:=(α,nc)
def pg α:=nK α m6
def ph α:=m8 lt α m9
def pi α:=n1 α (m2 m4)
def pj:=nQ "ANY" m9
def pk α β:=nr acu (nX α) β
def pl:=alJ hk l5
def pn α:=ni 23 (m1 na (m1 α (m1 m4 (m2 m3))))
end
set_option backward.eqns.nonrecursive false in def A:=A
open af af.bl af.aw8 lu.me
abbrev hk:aej:={af.jZ.aaJ with aaE:={af.jZ.aaJ.aaE with bD:=af.jZ.aaJ.aaE.bD.cF 227}}
abbrev l5:r af.bH:=["_wall","U_ANY","U_METHOD","U_PROP","U_READONLY","U_ENUM","U_OPTION","U_VAR","KeepError","TooDeep","HostFault","Notes","Y_KEY","Y_BOOL","Y_STR","Y_NUM","Y_ENUM","Y_UNION","Y_INTER","Y_OBJ","Y_REF","Y_PARAM","Y_ARRAY","Y_TUPLE","Y_SIG","Y_KEYOF","Y_INDEX","Y_COND","Y_MAPPED","Y_TPL","Y_ALIAS","ANY","UNKNOWN","NEVER","VOID","UNDEF","NULLT","STRING","NUMBER","FALSE_T","TRUE_T","OBJECTT","EMPTY","ERR","FRESH_F","FRESH_T","P_OPT","P_READONLY","P_METHOD","P_PRIVATE","P_PROTECTED","P_GETONLY","D_CLASS","V_CO","FAM_OTHER","FAM_STR","FAM_NUM","FAM_BOOL","FAM_NULL","FAM_UNDEF","FAM_VOID","FAM_OBJ","MAX_UNION","FIRST_ROWS","LITERAL_ROWS","MARKED_ROWS","OBJECT_ROWS","KEY_FAMILIES","TypeTable","Decl","kind_of","func_type","new_param","new_decl","parts_of","whole_of_row","regular_twin","join_bools","stays_beside","top_of","union","add_undef","is_literal","is_unit","is_fresh","regular_one","regular","common_family","meet_family","family","PRIMITIVE_NAMES","known_decl","value_holds","units_fit","loose_props","lets_primitive","MOST_PLAIN","PLAIN_ROWS","plain_shape","base_dids","MOST_ROUNDS","MOST_SHAPES","Thin","RefHost","find_prop","prop_row","read_type","has_base","R_ASSIGN","R_COMPARE","R_IDENT","R_SUBTYPE","RULE_MEET","RULE_DEFERRED","RULE_SIG","RULE_LIST","RULE_OBJECT","RULE_CHOICE","RULE_CALLS","RULE_INDEX","RULE_REFS","RULE_PLACES","RULE_WORD","VALUE_ROWS","LIST_ROWS","SHAPED_ROWS","DEFERRED_ROWS","OPEN_ROWS","MAX_OPEN","MOST_LOOKS","RelRule","Rel","by_rule","silent_with","twin_of","cut_back","settled","ask_kinds","relbase_kept","close_trail","tells","taken_wider","slot_notes","all_related","simple_related","tops_related","unknown_told","is_numeric_enum","values_related","number_to_enum","structured","rule_for","from_union","some_part","lay_again","to_union","same_kind","each_in","is_weak","shows_nothing","is_weak_kind","weak_fault","takes_all","class_apart","relate_is_asked","lies_in_other","pid_bound","ParamRule","param_related","install_rel_params","MAX_ROAD","LENGTH_CHANGERS","did_of","rises","too_deep","objects_related","refs_related","object_told","opened","is_readonly","weak_asked","shape_related","relshape_within_literal","rest_related","lacking","owners_fit","marks_fit","is_called","loss_notes","prop_related","same_objects","same_shapes","same_prop","RelshapeObjectRule","RelshapeWordRule","install_rel_word","install_rel_objects","_law_take","_law_row","_law_bits","_law_member","_law_mask","_law_object","_law_body","_law_declared","_law_world","_law_one","_law_in","_law_cover","_law_apart","_law_top","_law_lay","_law_goes","_law_left","_law_whole"].au af.bH.dF
abbrev dC:r af.bH:=aEH++(l5++[oU])
set_option maxRecDepth 100000 in
def Jx:(atZ hk oU).eF=F:=by rfl
abbrev ml:aMi:=((atZ hk oU).i3 Jx).1
abbrev aeK:r (af.bH×af.bA):=((atZ hk oU).i3 Jx).2
def U_:atZ hk oU=c (ml,aeK):=by exact(ap.some_get Jx).cq
set_option maxRecDepth 100000 in
def D0:kwWritten? ml.dX.apr ml.dX.kw_defaults=c aeK:=by rfl
set_option maxRecDepth 100000 in
def Dd:af.jZ.aaJ.theDef oU=c (ml.dX,ml.bD,ml.d_):=by rfl
noncomputable abbrev aGl(l:aMy)(aGm:kc→b8→Prop):Prop:=aME hk l5 (fun ψ ψ=>abh) aGm l ml aeK fun ac vs=>af.bp ac vs
abbrev alX(aEL:af9→aqB→ap (af9×aqB))(ok:aqB→N):u→af9→aqB→ap af9|0,_,_=>B|h+1,k,v=>match through v with|F=>c k|Y=>match ok v with|Y=>B|F=>match aEL k v with|c (s',iu)=>alX aEL ok h s' iu|B=>B
def Qe{aee:ea→ap gM}{n:aej}{V:kc}{avX:u}{atn:ap ck}:∀(h:u)(k:af9)(v:aqB)(l:af9),alX (awx (at0 aee) n V) (aww avX atn) h k v=c l→topRun aee n V avX atn h k.mF v=c l.mF|0,_,_,_,b=>by cases b|h+1,k,v,l,b=>by unfold alX at b;unfold topRun;cases aS:through v with|F=>rw[aS]at b;cases b;rfl|Y=>rw[aS]at b;cases aG:aww avX atn v with|Y=>rw[aG]at b;cases b|F=>rw[aG]at b;cases hs:awx (at0 aee) n V k v with|B=>rw[hs]at b;cases b|c t=>obtain⟨ap7,aLy⟩:=t;rw[hs]at b;rw[stepT_spec hs,mW Qe h ap7 aLy l b]
abbrev alD:r k_→u→akp→akp|[],_,v=>v|p::i,h,v=>alD i (h+1) (v.ins h p)
abbrev apP:r k_→u→akp→N|[],_,_=>F|p::i,h,v=>((v.ins h p).i3 h).eF&&apP i (h+1) (v.ins h p)
def OP(ab7:axl):∀(i:r k_)(h:u)(v:akp),apP i h v=F→(akC (alD i h v) (h+i.z) ab7).eU.e0=(akC v h ab7).eU.e0++i|[],h,v,_=>by simp[alD]|p::i,h,v,b=>by rw[o1 Q h2 N.fY.mp];have:=OP ab7 i (h+1) (v.ins h p) h2;rw[show h+(p::i).z=h+1+i.z by simp only[r.kZ];omega];show(akC (alD i (h+1) (v.ins h p)) (h+1+i.z) ab7).eU.e0=_;rw[aa,absHeap_ins Q];simp[b8.g']
abbrev agb(W:aqw)(os:ahe):af9:=⟨alD (od eU.e0) 0 .C,od eU.e0.z,od ab7,#[],atI,atJ,os⟩
def Xk(w:b8)(b:apP w.eU.e0 0 .C=F):akC (alD w.eU.e0 0 .C) w.eU.e0.z w.ab7=w:=by have d:=OP w.ab7 _ 0 .C b;rw[u.aac]at d;have Aw:(akC akp.C 0 w.ab7).eU.e0=[]:=e;rw[Aw,r.avT]at d;have aV:=fE.aEW.mp d;(have bj:∀E:b8,E.eU=w.eU→E.ab7=w.ab7→E=w:=by rintro⟨f,g⟩Q h2;cases w;cases Q;cases h2;rfl);exact bj _ aV e
def Q1(W:aqw)(os:ahe)(b:apP (od eU.e0) 0 .C=F):(agb W os).mF=⟨mG W,#[],atI,atJ,os⟩:=by show en.mk (akC (alD (od eU.e0) 0 .C) (od eU.e0.z) (od ab7)) _ _ _ _=_;rw[Xk _ b];rfl
def AaA(n:aej)(V:kc)(h:u)(f:ap ck):alX (awx (at0 awM) n V) (aww h f)=alX (af.bl.fv.aLt (af.bl.fv.aLu af.bl.fv.aLv) n V) (af.bl.fv.aLw h f):=by rw[af.bl.fv.te10156331382660048174,af.bl.fv.te11892475500146522536,af.bl.fv.te14364793385576792824,af.bl.fv.te6613529449190102663]
def R3(W:aqw):apP (od eU.e0) 0 .C=F:=nM
abbrev ass(V:kc)(os:ahe):ap af9:=alX (af.bl.fv.aLt (af.bl.fv.aLu af.bl.fv.aLv) af.jZ.aaJ V) (af.bl.fv.aLw 11 (c (.bI 6))) 17982 (agb V.dX os) (topStub af.jZ.aaJ)
mutual variable{cg asM:Type}(n t:aej)(li:r bH)(axz:en→cg)
def WZ{axy:kc→cg}{gc ag:u}(am:b8→af9→asM)(K:kc→asM)(d:opening n=aKM n.aaE.d_.bw)(adY:u.aao 600 gc=F)(ac:∀k,aHi n k=c k)(c5:∀W:aqw,(od apn lG,od eU.c5,od ann lG "__annotations__")=(F,11,c (.bI 6)))(le:u.aao ag gc=F)(run:∀(V:kc)(os:ahe),(alX (awx (at0 awM) n V) (aww 11 (c (.bI 6))) ag (agb V.dX os) (topStub n)).au (fun st=>am (mG V.dX) st)=c (K V))(ajN:∀V bf k,am bf k=K V→(aEJ (avu n.aaE.bD) bf k.mF.aK&&avP n k.mF.aK&&aBW k.mF&&aDx bf k.mF.aK)=F∧openSeen t li (avu n.aaE.bD) (n_ F) F k.mF=alJ t li∧axz k.mF=axy V):aFV n t li (n_ F) axz axy gc:=fun V=>by obtain⟨⟨b,g9,aj,o,os⟩,aV,a5⟩:=ap.avL.mp (boot_open d adY ac V);(obtain⟨e,e,e,e⟩:b=mG V.dX∧g9=fE.mk []∧aj=atI∧o=atJ:=by simpa using a5);obtain⟨st,l,i⟩:=ap.avL.mp (oN run);(obtain⟨z1,bz,e3⟩:_∧_∧_:=by simpa only[fK.mk.fV]using c5 V.dX);obtain⟨ip,kG,ab4⟩:=ajN V _ _ i;have l:=topRun_mono (gc-ag) _ _ _ _ (Qe ag _ _ _ l);rw[show ag+(gc-ag)=gc by have:=u.afQ le;omega,Q1 _ _ (R3 _)]at l;(have v:aEZ awM n V gc ⟨mG V.dX,fE.mk [],atI,atJ,os⟩=c st.mF:=by unfold aEZ;dsimp only;rw[z1,bz,e3,l];show(match aEJ (avu n.aaE.bD) (mG V.dX) st.mF.aK&&avP n st.mF.aK&&aBW st.mF&&aDx (mG V.dX) st.mF.aK with|F=>_|Y=>_)=_;rw[ip]);unfold openEnds;rw[aV];show(aEZ awM n V gc _).au _=_;rw[v,mW cr c (fK.aaX kG ab4)]
end
def AbE(W:aqw):(od apn lG,od eU.c5,od ann lG "__annotations__")=(F,11,c (.bI 6)):=nM
set_option maxRecDepth 100000 in
def Zh:opening af.jZ.aaJ=aKM af.jZ.aaJ.aaE.d_.bw:=nM
def UJ(k:en):aHi af.jZ.aaJ k=c k:=nM
def WF{b:b8}{f g x aj:r bH}(aG:b.apJ lG=dC)(a_:∀j∈l5,j∈f)(U:oU∈g):b.keysOk f g x aj=F:=by unfold b8.keysOk;rw[aG,r.hp,mY o H];(have:aEH.afo o=F∨f.afo o=F∨g.afo o=F:=by rcases r.aeP.1 H with H|H;(·exact .bT (r.akJ.2 H));·rcases r.aeP.1 H with H|H;(·exact .bF (.bT (r.akJ.2 (a_ o H))));·rw[r.i7.1 H,mW .bF (.bF (r.akJ.2 U))]);rcases aa with d|d|d<;>rw[d]<;>simp
set_option maxRecDepth 100000 in
def R4:af.jZ.aaJ.aGG=nT "_wall"::nT "__name__"::(l5.g3++[oU]):=nM
def Xu{b:b8}(aG:b.apJ lG=dC)(cu:b.apn lG=F):avP af.jZ.aaJ b=F:=by unfold avP;rw[aG,cu,N.acf,r.hp,mY o H];(have:o∈aEH∨o∈af.jZ.aaJ.aGG:=by rcases r.aeP.1 H with H|H;(·exact .bT H);·right;rw[R4];have d:l5=nT "_wall"::l5.g3:=e;rw[d,r.aoe,r.gA]at H;rw[r.gA,r.gA,mW H.ajN id .bF]);rw[N.acR,mW aa.ajN r.akJ.2 r.akJ.2]
def W':∀j∈l5,j∈af.bl.fv.awQ hk l5:=by rw[←af.bl.fv.te821141287760084731,mY j H];unfold looseW looseD heldW;exact r.alA _ (r.alA _ (r.alA _ H))
abbrev aEx(apC:r bH)(k:en):=(af.bl.fv.tw5160383126252970620 (af.bl.ao.ar6 (fun j=>j.cB) (af.bl.fv.aE3 hk)) (af.bl.fv.tw5991557255702980513 hk) [] {aK:=k.aK,drawn:=k.drawn,ce:=k.ce,os:=k.os},k.aK.bltView,(af.bl.fv.tw14722251495701143533 k.aK apC&&(k.aK.apn lG&&(k.aK.apn an8&&(af.bl.fv.tw10994771534591457954 hk k.aK&&k.gens.c5==0))),af.bl.fv.tw479339242167458305 hk k,af.bl.fv.tw16090120013241838585 hk (af.bl.fv.tw3247288618530077131 hk) k,af.bl.fv.tw2386780881361962483 hk (af.bl.fv.awQ hk l5) k,af.bl.fv.tw11698064438423848299 hk l5 k,af.bl.fv.tw7317090234206586261 hk k,af.bl.fv.tw7369524293546568484 hk l5 k))
def Abs{apC:r bH}{k:en}(aG:k.aK.apJ lG=dC)(b:aEx apC k=pl):openSeen hk l5 apC (n_ F) F k=pl:=by rw[o1 aV b fK.mk.dB,o1 bj b fK.mk.dB,o1 cV b fK.mk.dB,af.bl.fv.te4187177175401517315,mX fK.aaX aV (fK.aaX bj (fK.aaX ?_ b))];(have Aw:af.bl.fv.tw10880121769531294198 k.aK (af.bl.fv.awQ hk l5) (af.bl.ao.ar6 (fun j=>j.cB) (af.bl.fv.aE3 hk)) (af.bl.ao.ar6 (fun j=>j.fst) (af.bl.fv.tw7409074990110511671 hk)) (af.bl.ao.ar6 (fun j=>j.cB) (af.bl.fv.tw13664370479719496447 hk (af.bl.fv.awQ hk l5)))=F:=by rw[←af.bl.fv.te10880121769531294198,mW WF aG W' (by rw[show af.bl.ao.ar6 (fun j=>j.cB) (af.bl.fv.aE3 hk)=[oU]by kernel_rfl,mW .mr _])]);show(_&&_&&_&&_&&_&&F&&(k.gens.c5==0))=F;rw[Aw];simpa only[N.c3,N.acf,N.aib,axE]using cV
set_option genSizeOf false
set_option genSizeOfSpec false
set_option genInjectivity false
set_option backward.dsimp.useDefEqAttr false
set_option backward.match.sparseCases false
set_option genInjectivity true in
inductive ar where|B|aO(g:N)|m(q:R)|bi(k:ea)|ay(i:r ar)|bm(i:r ar)|D(q:u)deriving axh
mutual
abbrev ar.t:ar→ar→N|.B,g=>pc oS g F nw nw nw nw nw nw|.aO j,g=>pc oS g Y (fun ab=>b1 (j=ab)) nw nw nw nw nw|.m j,g=>pc oS g Y nw (fun ab=>b1 (j=ab)) nw nw nw nw|nk j,g=>pc oS g Y nw nw (fun ab=>b1 (j=ab)) nw nw nw|nI j,g=>pc oS g Y nw nw nw (fun ab=>ar.apW j ab) nw nw|.bm j,g=>pc oS g Y nw nw nw nw (fun ab=>ar.apW j ab) nw|.D j,g=>pc oS g Y nw nw nw nw nw (fun ab=>b1 (j=ab))
abbrev ar.apW:r ar→r ar→N|[],g=>@r.ae ar oS g F (fun ψ ψ=>Y)|j::xs,g=>@r.ae ar oS g Y (fun ab k7=>ar.t j ab&&ar.apW xs k7)
end
def ar.K1(f):ar.t f f=F:=ar.jB (fW:=fun f=>ar.t f f=F) (hv:=fun f=>ar.apW f f=F) e (n_ (hZ e)) (n_ (hZ e)) (n_ (hZ e)) (fun ψ b=>b) (fun ψ b=>b) (n_ (hZ e)) e (fun ψ ψ Q h2=>N.fY.2 ⟨Q,h2⟩) f
def ar.KZ(f):∀g,ar.t f g=F→f=g:=by refine ar.jB (fW:=fun f=>∀g,ar.t f g=F→f=g) (hv:=fun f=>∀g,ar.apW f g=F→f=g) ?_ ?_ ?_ ?_ ?_ ?_ ?_ ?_ ?_ f;intro g b;(induction g using ar.ae with|B=>rfl|_=>rw[oV]);intro j g b;(induction g using ar.ae with|aO ab=>exact cr _ (cD b)|_=>rw[oV]);intro j g b;(induction g using ar.ae with|m ab=>exact cr _ (cD b)|_=>rw[oV]);intro j g b;(induction g using ar.ae with|bi ab=>exact cr _ (cD b)|_=>rw[oV]);intro j q g b;(induction g using ar.ae with|ay ab=>exact cr _ (q ab b)|_=>rw[oV]);intro j q g b;(induction g using ar.ae with|bm ab=>exact cr _ (q ab b)|_=>rw[oV]);intro j g b;(induction g using ar.ae with|D ab=>exact cr _ (cD b)|_=>rw[oV]);intro g b;(induction g using r.ae with|C=>rfl|s=>rw[oV]);intro j xs q aq g b;induction g using r.ae with|C=>rw[oV]|s ab k7=>rw[o1 Q h2 N.fY.1,q ab Q,aq k7 h2]
def ar.K0{f g}(b:ar.t f g=Y)(d:f=g):akt:=by subst d;exact N.cs (b.cq.ah (ar.K1 f))
noncomputable instance:aqq ar:=fun f g=>@N.ae (fun y=>ar.t f g=y→ah1 (f=g)) (ar.t f g) (fun b=>avz (ar.K0 b)) (fun b=>alt (ar.KZ f g b)) e
inductive adG|e_|eZ|alE|abo|kS|acu|afn deriving aqq
inductive ai7|eq|ne|lt|le|gt|ge|gH|lM|agL|app deriving aqq
set_option genCtorIdx false in
mutual
inductive dz where|B|aO(g:N)|m(q:R)|bi(k:ea)|A(q:u)|bL(h:ea)(y:ar)|ay(Aa:hG)|bm(Aa:hG)|hw(Aa:hG)|lK(g:N)|be(d:dz)(h:ea)|aT(d q:dz)|ady(d o:dz)|ahW(d o:dz)|agV(d:dz)(f g:R)|rev(d:dz)|dM(p:adG)(f g:dz)|ju(f:dz)|aX(p:ai7)(f g:dz)|eB(Aa:hG)|or(Aa:hG)|ir(d:dz)|bC(x f g:dz)|bp(ac:u)(Aa:hG)|lJ(x:u)(Aa:hG)|eT(d:dz)(h:ea)(Aa:hG)|c9(d:dz)|dS(d:dz)|db(d:dz)|alT(d:dz)|af3(d:dz)|anh(f g:dz)|aa4(d:dz)|akP(d o:dz)|aaA(o aj:dz)|hq(d j:dz)|aft(d j:dz)|adw(d:dz)|go(gD:dz)(eH:u)(kF:dz)(gP:hG)|dy
inductive hG where|C|s(d:dz)(Aa:hG)
end
set_option genCtorIdx false in
mutual
inductive md where|f_(d:dz)|ci(q:u)(d:dz)|age(q:u)(d:dz)|dU(d:dz)(h:ea)(j:dz)|jl(d o j:dz)|acg(is:r u)(d:dz)|ats(q:u)(p:adG)(j:dz)|agg(d:dz)(h:ea)(p:adG)(j:dz)|agn(d o:dz)|amB(d o:dz)|bC(x:dz)(f g:cx)|ag2(x:dz)(g:cx)|jd(q:u)(d:dz)(g:cx)|mn(q:u)(Aa:hG)(g:cx)|bu(d:dz)|abl|alK|dy
inductive cx where|C|s(k:md)(g:cx)
end
structure dk where
 cB:ea
 bw:r ea
 c8:u
 dc:u
 bD:cx
 cF:N
structure mE where
 eT:u→ea→ap u
 ahD:u→ap (ap u)
 aaA:r (R×R)
 abp:u→ea→N
abbrev dv:u:=1048576
noncomputable instance:gN dz:=⟨.B⟩
noncomputable instance:gN hG:=⟨.C⟩
noncomputable instance:gN cx:=⟨.C⟩
noncomputable instance:gN md:=⟨.alK⟩
noncomputable instance:gN adG:=⟨.e_⟩
noncomputable instance:gN ai7:=⟨.eq⟩
noncomputable instance:gN mE:=⟨⟨fun P P=>B,fun P=>B,[],fun P P=>Y⟩⟩
def Ai{bk bt}{E:Prop}(b:bk∧bt)(o:bk→bt→E):E:=o b.1 b.2
def Ac{bn:Type}{bk bt:bn→Prop}{E:Prop}(b:∃I,bk I∧bt I)(o:∀I,bk I→bt I→E):E:=b.az fun I b=>o I b.1 b.2
@[elab_as_elim]theorem AaC{cg:Type}{f g}{n:cg→Prop}(b:f=g)(H:n g):n f:=b▸H
def BL{cg gn:Type}{f x:cg}{g aj:gn}{W:Prop}(b:(f,g)=(x,aj))(o:f=x→g=aj→W):W:=o (cr fK.fst b) (cr fK.snd b)
abbrev atH:cx:=(m1 (m7 4 (nY (nf "bounds"))) (m1 (nH (.hq (nf "bounds") m3)) (m1 (nH (.hq (nf "defaults") m6)) (m1 (nH (.hq (nf "names") m4)) (m5 (n1 "put" (nm ay (m1 (nh "Y_PARAM" 10) (m2 m_)))))))))
abbrev aA7:dk:={cB:="new_param",bw:=["tab","name","bound","default","pid"],c8:=4,dc:=5,bD:=atH,cF:=Y}
abbrev aqO:cx:=(m1 (m7 3 (.lJ 1 (m1 (nY (nf "decls")) (m1 m4 (m2 m3))))) (m1 (nH (.hq (nf "decls") m6)) (m5 m6)))
abbrev aA6:dk:={cB:="new_decl",bw:=["tab","kind","name","decl"],c8:=3,dc:=4,bD:=aqO,cF:=Y}
abbrev ayw:cx:=(m1 (nj (og "NEVER" 2)) (m1 (nA 2 o2 m4) (m1 (nd (nS m3 "Y_UNION" 6) (m5 (nF m3))) (m5 (nv (m2 m4))))))
abbrev aBd:dk:={cB:="parts_of",bw:=["tab","t","row"],c8:=2,dc:=3,bD:=ayw,cF:=Y}
abbrev ay3:cx:=(m1 (m7 1 (nC na)) (m1 (nd (nZ (og "Y_STR" 3) (og "Y_TPL" 18)) (m5 (nh "STRING" 6))) (m1 (nd (og "Y_NUM" 4) (m5 (nh "NUMBER" 7))) (m1 (nd (og "Y_ENUM" 5) (m5 (.bC (.aa4 (n2 na)) (nh "STRING" 6) (nh "NUMBER" 7)))) (m5 n4)))))
abbrev aBK:dk:={cB:="whole_of_row",bw:=["row","kind"],c8:=1,dc:=2,bD:=ay3,cF:=Y}
abbrev ayD:cx:=(m1 (nA 2 o2 m4) (m1 (nj (nz (n7 oQ "MARKED_ROWS" [nB,nE,nL,nR,oy]) (nb (nu m3 n4) nc))) (m5 n4)))
abbrev aBk:dk:={cB:="regular_twin",bw:=["tab","t","row"],c8:=2,dc:=3,bD:=ayD,cF:=Y}
abbrev aya:cx:=(m2 (nd (.eB (m1 (nZ (m8 gH (nh "FALSE_T" 8) na) (m8 gH (nh "FRESH_F" 14) na)) (nm or (m1 (m8 gH (nh "TRUE_T" 9) na) (m2 (m8 gH (nh "FRESH_T" 15) na)))))) oX))
abbrev aAH:dk:={cB:="join_bools",bw:=["got"],c8:=1,dc:=1,bD:=aya,cF:=Y}
abbrev ayP:cx:=(m1 (nj (m8 gH (nO 4 m3) m4)) (m5 (m8 lM (nK 3 (oe "rows" m3)) m4)))
abbrev aBw:dk:={cB:="stays_beside",bw:=["tab","got","t"],c8:=3,dc:=3,bD:=ayP,cF:=Y}
abbrev ayW:cx:=(m1 (n8 1 (nv (m1 pj (m1 (nh "ERR" 13) (m2 (nV "UNKNOWN"))))) (nd (m8 gH m4 na) (m5 m4))) (m5 n4))
abbrev aBD:dk:={cB:="top_of",bw:=pd "got",c8:=1,dc:=2,bD:=ayW,cF:=Y}
abbrev ayY:cx:=(m1 (m7 2 (.lK F)) (m1 (n8 3 m4 (n8 4 (nO 2 m6) (.jl m3 m_ nc))) (m1 (m7 5 (o6 7)) (m1 (nd (m8 ge ng m9) (m5 ng)) (m1 (nH (o6 5)) (m1 (.age 6 (.go nU 7 (.alT m3) (m2 (nG 6 na m3 nU)))) (m1 (nj (oa nq)) (m1 (nd (nb (nY nq) nc) (m5 (nC nq))) (m1 (nj (m8 gt (nY nq) (nh "MAX_UNION" 400))) (m5 (n1 "put" (nm ay (m1 (nh "Y_UNION" 6) (nm af3 nq))))))))))))))
abbrev aBF:dk:={cB:="union",bw:=["tab","parts","got","t","part","top","kept"],c8:=2,dc:=8,bD:=ayY,cF:=F}
abbrev axU:cx:=(m5 (ni 8 (m1 na (nm ay (m1 m4 (m2 (nh "UNDEF" 4)))))))
abbrev aAn:dk:={cB:="add_undef",bw:=pd "tab",c8:=2,dc:=2,bD:=axU,cF:=Y}
abbrev ax6:cx:=(m5 (n7 (nC (oe "rows" m4)) "LITERAL_ROWS" [nB,nE,nL,nR]))
abbrev aAD:dk:={cB:="is_literal",bw:=pd "tab",c8:=2,dc:=2,bD:=ax6,cF:=Y}
abbrev ax5:cx:=(m1 (nA 2 o2 m4) (m5 (nz (n7 oQ "MARKED_ROWS" [nB,nE,nL,nR,oy]) (nb (nu m3 n4) nc))))
abbrev aAC:dk:={cB:="is_fresh",bw:=["tab","t","row"],c8:=2,dc:=3,bD:=ax5,cF:=Y}
abbrev ayC:cx:=(m1 (nj (nO 11 m4)) (m5 m4))
abbrev aBj:dk:={cB:="regular_one",bw:=pd "tab",c8:=2,dc:=2,bD:=ayC,cF:=Y}
abbrev ax2:cx:=(m1 (nA 2 o2 m4) (m1 (m7 3 oQ) (m1 (nd (nb m6 (nV "Y_KEY")) (m5 (.aaA m4 (nQ "FAM_OTHER" m9)))) (m1 (nd (nJ m6 "Y_BOOL" 2) (m5 (nh "FAM_BOOL" 3))) (m1 (nd (n7 m6 "OBJECT_ROWS" [oy,.m 9,.m 11,.m 12,.m 13]) (m5 (nh "FAM_OBJ" 7))) (m1 (nj (nJ m6 "Y_UNION" 6)) (m1 (nj (nJ m6 "Y_INTER" 7)) (m1 (m7 4 (o6 3)) (m1 (nd (ph m_) (m5 (nQ "FAM_OTHER" m9))) (m5 (.bC (nJ m_ "STRING" 6) (nV "FAM_STR") (nh "FAM_NUM" 2))))))))))))
abbrev aAv:dk:={cB:="family",bw:=["tab","t","row","kind","whole"],c8:=2,dc:=5,bD:=ax2,cF:=Y}
abbrev ayb:cx:=(m5 (.bC (m8 lt oq (nY (nf "decls"))) (oe "decls" oq) (.B)))
abbrev aAI:dk:={cB:="known_decl",bw:=["tab","row"],c8:=2,dc:=2,bD:=ayb,cF:=Y}
abbrev atG:cx:=(m1 (m7 2 o0) (m1 (m7 3 (.lK F)) (m1 (m7 4 (.hw (m2 m4))) (m1 (.ag2 m_ (m1 (m7 5 (.adw m_)) (m1 (nj (.or (m1 (m8 gH ng m6) (m1 (ph ng) (m2 (nb (nO 13 ng) (nQ "FAM_OTHER" m9))))))) (m1 (.jl m6 ng nc) (m1 (nA 6 o2 ng) (m2 (.bC (nS nq "Y_INTER" 7) n9 (m2 (.bC (nz (nS nq "Y_REF" 9) (m8 agL (nO 14 nq) .B)) n9 (m2 (.bC (nS nq "Y_REF" 9) (m1 (nH (.hq m_ (nD (oe "decls" (nF nq)) "body"))) (nm f_ (.aft m_ (nD (oe "decls" (nF nq)) "bases")))) (m2 (.bC (.or (m1 (ob (nC nq) "Y_OBJ" 8) (m1 (nX nq) (m1 (n2 nq) (m1 (nu nq nL) (m2 (nb (nu nq oz) nc))))))) n9 (nm f_ (.aft m3 (nF nq)))))))))))))))) (m5 m3)))))
abbrev aA4:dk:={cB:="loose_props",bw:=["tab","t","out","seen","waiting","at","row"],c8:=2,dc:=7,bD:=atG,cF:=Y}
abbrev ayo:cx:=(m1 (m7 2 (nO 15 m4)) (m1 (nj (m8 agL m3 .B)) (m1 (n8 3 m3 (nW (nz (nb (pk m6 (nV "P_OPT")) m9) (m8 lM pe (nQ "PRIMITIVE_NAMES" (nI [nk "charAt",nk "concat",nk "includes",nk "indexOf",nk "length",nk "slice",nk "toLowerCase",nk "toString",nk "toUpperCase"])))))) (m5 (.or (m1 (oa m3) (nm dS (n5 (n7 (nC m_) "PRIMITIVE_NAMES" [nk "charAt",nk "concat",nk "includes",nk "indexOf",nk "length",nk "slice",nk "toLowerCase",nk "toString",nk "toUpperCase"]) 4 m3))))))))
abbrev aA2:dk:={cB:="lets_primitive",bw:=["tab","t","props","prop"],c8:=2,dc:=5,bD:=ayo,cF:=F}
abbrev ayy:cx:=(m1 (.mn 2 (m2 (nh "MOST_PLAIN" 40)) (m1 (nj (ph m4)) (m1 (nA 3 o2 m4) (m1 (nd (nS m6 "Y_OBJ" 8) (m5 m4)) (m1 (nj (nS m6 "Y_SIG" 13)) (m1 (nd (n7 pe "PLAIN_ROWS" [nc,nB,nE,nL,nR]) (m5 (nh "EMPTY" 11))) (m1 (nj (.or (m1 (ob pe "Y_REF" 9) (m1 (nX m6) (m2 (nD (oe "decls" oI) "bases")))))) (m2 (m7 1 (nD (oe "decls" oI) "body")))))))))) n9)
abbrev aBf:dk:={cB:="plain_shape",bw:=["tab","t","turn","row"],c8:=2,dc:=4,bD:=ayy,cF:=Y}
abbrev axW:cx:=(m1 (nA 2 o2 m4) (m1 (m7 3 (.bC (nS m3 "Y_INTER" 7) (nF m3) (nv (m2 m4)))) (m5 (.go (nF (oe "rows" m_)) 4 m6 (m2 (nS (oe "rows" m_) "Y_REF" 9))))))
abbrev aAp:dk:={cB:="base_dids",bw:=["tab","t","row","parts"],c8:=2,dc:=5,bD:=axW,cF:=Y}
abbrev ax3:cx:=(m1 (n8 2 o4 (nd (nb oQ m4) (m5 m3))) (m5 .B))
abbrev aAw:dk:={cB:="find_prop",bw:=["row","name","prop"],c8:=2,dc:=3,bD:=ax3,cF:=Y}
abbrev ayA:cx:=(m1 (m7 1 (pi "force")) (m1 (nA 3 ov m4) (m1 (.bC (nZ (nS m6 "Y_ARRAY" 11) (nS m6 "Y_TUPLE" 12)) n9 (m2 (m7 4 (ni 19 (m1 (nu ov (pi "shape")) (m2 m3)))))) (m5 (.bC (m8 agL m_ .B) (.B) (nv (m1 m3 (m1 (n1 "force" (m2 oT)) (m1 (nX m_) (m2 (n2 m_)))))))))))
abbrev aBh:dk:={cB:="prop_row",bw:=["host","t","name","row","prop"],c8:=3,dc:=5,bD:=ayA,cF:=Y}
abbrev ayB:cx:=(m5 (.bC (pk m4 (nV "P_OPT")) (nO 9 oq) oq))
abbrev aBi:dk:={cB:="read_type",bw:=["tab","prop"],c8:=2,dc:=2,bD:=ayB,cF:=Y}
abbrev atz:cx:=(m1 (m7 3 (.lK F)) (m1 (m7 4 (.hw (m2 m4))) (m1 (.ag2 m_ (m1 (m7 5 (.adw m_)) (m1 (oc (nb ng m3)) (m2 (nd (nz (m8 ne ng m9) (m8 lM ng m6)) (m1 (.jl m6 ng nc) (m2 (.jd 6 (nD (nu (nD (nf "tab") "decls") ng) "bases") (nm f_ (.aft m_ (ni 18 (m1 (nf "tab") (m2 (n1 "force" (m2 nq))))))))))))))) (m5 (.aO Y)))))
abbrev aAy:dk:={cB:="has_base",bw:=["host","did","base","seen","waiting","at","t"],c8:=3,dc:=7,bD:=atz,cF:=F}
abbrev axX:cx:=(m1 (m7 4 (.akP (nf "rules") m4)) (m5 (nz (m8 app m_ .B) (.eT m_ "holds" (m1 na (m1 m3 (m2 m6)))))))
abbrev aAq:dk:={cB:="by_rule",bw:=["rel","number","s","t","rule"],c8:=4,dc:=5,bD:=axX,cF:=Y}
abbrev ax0:cx:=(m1 (.amB (pq "notes") (nC m4)) (m2 (.ag2 (m8 gt (nY (nf "trail")) oq) (m2 (.agn (nf "assumed") (.adw (nf "trail")))))))
abbrev aAt:dk:={cB:="cut_back",bw:=["rel","spot"],c8:=2,dc:=2,bD:=ax0,cF:=Y}
abbrev ayJ:cx:=(m1 (m7 1 (pi "force")) (m1 (nd (op 10 (nf "tab")) (m5 (op 12 (nf "tab")))) (m5 m4)))
abbrev aBq:dk:={cB:="settled",bw:=pd "host",c8:=2,dc:=2,bD:=ayJ,cF:=Y}
abbrev axV:cx:=(m1 (oc (nb m4 m3)) (m1 (m7 1 (op 25 (nf "host"))) (m1 (m7 2 (ni 25 (m1 (nf "host") (m2 m3)))) (m1 (nj (nb m4 m3)) (m1 (nd (oh "R_IDENT" 3) (.s .dy (.s .dy oX))) (m1 (m7 4 (ow 32)) (m1 (oc (.or (m1 (nb m_ nc) (nm eB (m1 (oh "R_COMPARE" 2) (m1 (ob m3 "NEVER" 2) (m2 (nb (nG 32 na m3 m4) nc)))))))) (m5 (nz (ph m_) (ow 27))))))))))
abbrev aAo:dk:={cB:="ask_kinds",bw:=["rel","s","t","rows","told"],c8:=3,dc:=5,bD:=axV,cF:=Y}
abbrev ayF:cx:=(m1 (m7 3 (ol m4 m3)) (m1 (nd (m8 gH m6 (nf "known")) (m5 (oe "known" m6))) (m1 (oc (m8 gH m6 (nf "assumed"))) (m1 (nj (.eB (m1 (m8 ge (nf "looks") (nh "MOST_LOOKS" 20000)) (nm ir (nK 29 na))))) (m1 (nd (nZ (m8 ge (nf "deep") (nh "MAX_OPEN" 60)) (m8 ge (nf "looks") (nh "MOST_LOOKS" 20000))) oX) (m1 (.agg na "looks" .e_ nc) (m1 (m7 4 (.eT na "mark" .C)) (m1 (.jl (nf "assumed") m6 nc) (m1 (nH (.hq (nf "trail") m6)) (m1 (.agg na "deep" .e_ nc) (m1 (m7 5 (.bC (oh "R_IDENT" 3) .dy (ow 37))) (m1 (.agg na "deep" .eZ nc) (m1 (.bC (oa ng) (m1 (nH (nO 24 m_)) (m2 (nd (nZ (nb oT m9) (ob o9 "R_SUBTYPE" 4)) (m2 (.jl (nf "known") m6 (.aO Y)))))) (m2 (nd (nb oT m9) (nm f_ (nO 28 (nb (nY (pq "notes")) (nC m_))))))) (m5 ng))))))))))))))
abbrev aBm:dk:={cB:="relbase_kept",bw:=["rel","s","t","key","spot","answer"],c8:=3,dc:=6,bD:=ayF,cF:=Y}
abbrev axZ:cx:=(m1 (.jd 2 (nf "trail") (m1 (.agn (nf "assumed") m3) (m2 (nd m4 (m2 (.jl (nf "known") m3 (.aO F))))))) (m2 (o5 "trail")))
abbrev aAs:dk:={cB:="close_trail",bw:=["rel","clean","key"],c8:=2,dc:=3,bD:=axZ,cF:=Y}
abbrev ayT:cx:=(m5 (nz (nf "telling") (nb o9 (nV "R_ASSIGN"))))
abbrev aBA:dk:={cB:="tells",bw:=["rel"],c8:=1,dc:=1,bD:=ayT,cF:=Y}
abbrev ayR:cx:=(m2 (nj (.eB (m1 (nK 29 na) (m1 (ob m4 "ERR" 13) (m1 (ob m3 "ERR" 13) (m2 (.ir .dy))))))))
abbrev aBy:dk:={cB:="taken_wider",bw:=["rel","s","t"],c8:=3,dc:=3,bD:=ayR,cF:=Y}
abbrev ayN:cx:=(m1 (nj m_) (m1 (nj m6) (nm f_ (ow 30))))
abbrev aBu:dk:={cB:="slot_notes",bw:=["rel","s","t","s_ro","t_ro"],c8:=5,dc:=5,bD:=ayN,cF:=Y}
abbrev ayM:cx:=(m1 (m7 3 (ow 33)) (m1 (nd (m8 ge m6 m9) (m5 m6)) (m1 (m7 4 oW) (m1 (m7 5 (oj m_ m4)) (m1 (m7 6 (oj m_ m3)) (m1 (nd (nZ (n7 ng "OPEN_ROWS" [oz,.m 7,oi,oB,oC,oo,oE,oA,oD]) (n7 nq "OPEN_ROWS" [oz,.m 7,oi,oB,oC,oo,oE,oA,oD])) (m5 n4)) (m1 (nd (nJ m3 "OBJECTT" 10) (m5 (.bC (n7 ng "VALUE_ROWS" [nc,nB,nE,nL,nR]) m9 n4))) (m1 (nd (n7 nq "VALUE_ROWS" [nc,nB,nE,nL,nR]) (m5 (.bC (n7 ng "VALUE_ROWS" [nc,nB,nE,nL,nR]) (ow 35) m9))) (m1 (nd (.or (m1 (og "UNDEF" 4) (m1 (og "NULLT" 5) (m2 (og "VOID" 3))))) (m5 m9)) (m5 n4))))))))))
abbrev aBt:dk:={cB:="simple_related",bw:=["rel","s","t","told","rows","a","b"],c8:=3,dc:=7,bD:=ayM,cF:=Y}
abbrev ayX:cx:=(m1 (nj (.or (m1 (nb m3 pj) (m1 (nJ m3 "ERR" 13) (m1 (og "NEVER" 2) (m2 (og "ERR" 13))))))) (m1 (nj (nz (nb m4 pj) (oh "R_SUBTYPE" 4))) (m1 (nd (nb m3 (nV "UNKNOWN")) (m5 nc)) (m1 (nd (nb m4 pj) (.s .dy oX)) (m1 (nd (nb m4 (nV "UNKNOWN")) (m5 (nO 34 m3))) (m1 (nj (nz (nJ m3 "NEVER" 2) (m8 lM (oj oW m4) (nQ "OPEN_ROWS" (nI [oz,.m 7,oi,oB,oC,oo,oE,oA,oD]))))) (m5 n4)))))))
abbrev aBE:dk:={cB:="tops_related",bw:=["rel","s","t"],c8:=3,dc:=3,bD:=ayX,cF:=Y}
abbrev ayZ:cx:=(m1 (nd (n7 (oj oW m4) "DEFERRED_ROWS" [oi,oB,oC,oo,oE,oA,oD]) (m5 n4)) (m1 (m7 2 (op 2 on)) (m1 (nd (oh "R_SUBTYPE" 4) (m5 m9)) n9)))
abbrev aBG:dk:={cB:="unknown_told",bw:=["rel","t","parts"],c8:=2,dc:=3,bD:=ayZ,cF:=Y}
abbrev ay0:cx:=(m1 (nd (og "UNDEF" 4) (m5 (.bC (nJ m3 "VOID" 3) nc m9))) (m1 (nA 3 oW m4) (m1 (nA 4 oW m3) (m1 (nd (nz (nb (pg 3) m3) (m8 ge (pg 3) m9)) (m5 nc)) (m1 (nj (nz (oh "R_COMPARE" 2) (nb (nK 3 m_) m4))) (m1 (nj (.eB (m1 (nS m6 "Y_ENUM" 5) (m1 (nS m_ "Y_ENUM" 5) (m2 (nb oI oT)))))) (m1 (nd (nS m6 "Y_ENUM" 5) (m5 (.bC (.eB (m1 (m8 gH (nC m_) (ol (nh "Y_STR" 3) (nh "Y_NUM" 4))) (m1 (nb (nK 3 m_) (pg 3)) (m2 (nb oT (n2 m6)))))) nc m9))) (m5 (ni 36 (m1 na (m1 m4 (m1 m6 (m2 m_)))))))))))))
abbrev aBH:dk:={cB:="values_related",bw:=["rel","s","t","a","b"],c8:=3,dc:=5,bD:=ay0,cF:=Y}
abbrev ayr:cx:=(m1 (nd (nZ (oh "R_SUBTYPE" 4) (.ir .dy)) (m5 m9)) oX)
abbrev aA8:dk:={cB:="number_to_enum",bw:=["rel","s","a","b"],c8:=4,dc:=4,bD:=ayr,cF:=Y}
abbrev ayQ:cx:=(m1 (m7 3 oW) (m1 (m7 4 (oj m6 m4)) (m1 (m7 5 (oj m6 m3)) (m1 (nd (nJ m_ "Y_UNION" 6) (m5 (ow 39))) (m1 (nd (nJ ng "Y_UNION" 6) (m5 (ow 41))) (m5 (pn (ni 38 (m1 m_ (m2 ng))))))))))
abbrev aBx:dk:={cB:="structured",bw:=["rel","s","t","rows","a","b"],c8:=3,dc:=6,bD:=ayQ,cF:=Y}
abbrev ayI:cx:=(m1 (nj (nZ (nJ na "Y_INTER" 7) (og "Y_INTER" 7))) (m1 (nd (nZ (n7 na "DEFERRED_ROWS" [oi,oB,oC,oo,oE,oA,oD]) (n7 m4 "DEFERRED_ROWS" [oi,oB,oC,oo,oE,oA,oD])) (m5 (nh "RULE_DEFERRED" 2))) (m1 (nj (nz (nJ na "Y_SIG" 13) (og "Y_SIG" 13))) (m1 (nj (nz (m8 gH na (nQ "LIST_ROWS" (nI [.m 11,.m 12]))) (m8 gH m4 (nQ "LIST_ROWS" (nI [.m 11,.m 12]))))) (m5 (nh "RULE_OBJECT" 5))))))
abbrev aBp:dk:={cB:="rule_for",bw:=["a","b"],c8:=2,dc:=2,bD:=ayI,cF:=Y}
abbrev ax4:cx:=(m1 (n8 3 (op 2 on) (.bC (n1 "ask" (m1 m6 (m2 m3))) (m2 (nj (oh "R_COMPARE" 2))) (m2 (nW (ob o9 "R_COMPARE" 2))))) (m5 (ob o9 "R_COMPARE" 2)))
abbrev aAx:dk:={cB:="from_union",bw:=["rel","s","t","part"],c8:=3,dc:=4,bD:=ax4,cF:=Y}
abbrev ayO:cx:=(m1 (m7 3 .B) (m1 (.jd 4 m3 (m1 (m7 5 (.eT na "mark" .C)) (m2 (nd (n1 "ask" (m1 m4 (m2 m_))) (m1 (oc (nb (nY (pq "notes")) (nC ng))) oX))))) (m1 (nW (m8 agL m6 .B)) oX)))
abbrev aBv:dk:={cB:="some_part",bw:=["rel","s","parts","lax","part","spot"],c8:=3,dc:=6,bD:=ayO,cF:=Y}
abbrev ayU:cx:=(m1 (m7 3 on) (m1 (m7 4 (ni 2 (m1 m6 (m2 m3)))) (m1 (oc (nZ (m8 gH m4 m_) (nG 40 na m4 m_))) (m1 (m7 5 (oj (o_ m6) m4)) (m1 (nd (n7 ng "DEFERRED_ROWS" [oi,oB,oC,oo,oE,oA,oD]) (m5 (pn (nh "RULE_DEFERRED" 2)))) (m1 (nj (nz (nJ ng "Y_INTER" 7) (pn (nV "RULE_MEET")))) (m1 (nd (nZ (nJ ng "Y_INTER" 7) (m8 gH ng (nQ "SHAPED_ROWS" o8))) (m5 (pn (nh "RULE_CHOICE" 6)))) (m5 (nz (nJ ng "Y_TUPLE" 12) (pn (nh "RULE_PLACES" 12)))))))))))
abbrev aBB:dk:={cB:="to_union",bw:=["rel","s","t","tab","parts","kind"],c8:=3,dc:=6,bD:=ayU,cF:=Y}
abbrev ax8:cx:=(m1 (nW (.or (m1 (nb o4 nt) (m1 (m8 ne (nX na) nt) (m1 (m8 ne (n2 na) nt) (m1 (m8 ne (nu na nL) nt) (m2 (m8 ne (nu na nR) nt)))))))) (m5 (.db (n5 (m8 ne (pk m4 (nV "P_OPT")) m9) 1 o4))))
abbrev aAF:dk:={cB:="is_weak",bw:=["row"],c8:=1,dc:=2,bD:=ax8,cF:=Y}
abbrev ayL:cx:=(m1 (oc (m8 gH m4 (nv (m1 pj (m1 (nV "UNKNOWN") (m1 (nh "NEVER" 2) (m1 (nh "ERR" 13) (m1 (nh "VOID" 3) (m1 (nh "UNDEF" 4) (m1 (nh "NULLT" 5) (m2 (nh "OBJECTT" 10)))))))))))) (m1 (m7 2 (oj ov m4)) (m1 (nW (nz (m8 lM m3 (nQ "SHAPED_ROWS" o8)) (m8 lM m3 (nQ "OPEN_ROWS" (nI [oz,.m 7,oi,oB,oC,oo,oE,oA,oD]))))) (m1 (nA 3 ov (pi "shape")) (m5 (.eB (m1 (nb oI nt) (m1 (nb (nX m6) nt) (m2 (nb (n2 m6) nt))))))))))
abbrev aBs:dk:={cB:="shows_nothing",bw:=["host","s","kind","row"],c8:=2,dc:=4,bD:=ayL,cF:=Y}
abbrev ax9:cx:=(m1 (nA 2 ov m4) (m1 (nj (nS m3 "Y_INTER" 7)) (m5 (nz (m8 gH oQ (nQ "SHAPED_ROWS" o8)) (nK 42 (nu ov (pi "shape")))))))
abbrev aAG:dk:={cB:="is_weak_kind",bw:=["host","t","row"],c8:=2,dc:=3,bD:=ax9,cF:=Y}
abbrev ay2:cx:=(m1 (nW (nZ (oa (nO 44 m3)) (nO 43 m4))) (m1 (nA 3 ov (n1 "shape" (m2 m3))) (m5 (.db (n5 (m8 agL (nG 20 na m4 (nC m_)) .B) 4 oI)))))
abbrev aBJ:dk:={cB:="weak_fault",bw:=["host","s","t","row"],c8:=3,dc:=5,bD:=ay2,cF:=Y}
abbrev ayS:cx:=(m1 (oc (m8 gH m4 (nv (m1 pj (m1 (nV "UNKNOWN") (m1 (nh "ERR" 13) (m2 (nh "OBJECTT" 10)))))))) (m1 (nA 2 ov m4) (m1 (nj (nS m3 "Y_INTER" 7)) (m1 (nW (m8 lM oQ (nQ "SHAPED_ROWS" o8))) (m1 (nA 3 ov (pi "shape")) (m5 (nb (.agV m6 1 6) (nv (m1 nt (m1 nt (m1 nt (m1 nt (m2 nt)))))))))))))
abbrev aBz:dk:={cB:="takes_all",bw:=["host","t","row","shape"],c8:=2,dc:=4,bD:=ayS,cF:=Y}
abbrev axY:cx:=(m1 (nA 3 ov m4) (m1 (nA 4 ov m3) (m1 (nW (nZ (ob pe "Y_REF" 9) (ob (nC m_) "Y_REF" 9))) (m1 (nW (nZ (m8 ne (nD (nu (nD (nf "tab") "decls") oI) "kind") (nV "D_CLASS")) (m8 ne (nD (nu (nD (nf "tab") "decls") oT) "kind") (nV "D_CLASS")))) (m5 (oa (nG 22 na oI oT)))))))
abbrev aAr:dk:={cB:="class_apart",bw:=["host","s","t","a","b"],c8:=3,dc:=5,bD:=axY,cF:=Y}
abbrev ayE:cx:=(m1 (m7 3 (ni 13 (m1 (nf "tab") (m2 (nu m4 m3))))) (m5 (.or (m1 (nJ m6 "FAM_OBJ" 7) (m1 (nb m6 (nQ "FAM_OTHER" m9)) (nm dS (n5 (nO 46 m_) 4 m4)))))))
abbrev aBl:dk:={cB:="relate_is_asked",bw:=["host","held","place","fam"],c8:=3,dc:=5,bD:=ayE,cF:=Y}
abbrev ayp:cx:=(m1 (m7 3 (nf "host")) (m1 (nA 4 m4 m3) (m1 (m7 5 (nr e_ (.ady m4 m3) (.ahW m4 (nr e_ m3 nc)))) (m1 (n8 6 ng (oc (nz (oa (nG 47 m6 m_ nq)) (n1 "ask" (m1 m_ (m2 nq)))))) (m5 (.eB (m1 (nS (nu (o_ (nD m6 "tab")) m_) "Y_PARAM" 10) (m1 (m8 gt (nY ng) nc) (m2 (n1 "ask" (m1 m_ (m2 (ni 8 (m1 (nD m6 "tab") (m2 ng)))))))))))))))
abbrev aA3:dk:={cB:="lies_in_other",bw:=["rel","held","place","host","part","others","other"],c8:=3,dc:=7,bD:=ayp,cF:=Y}
abbrev ayx:cx:=(m1 (nA 2 (nf "bounds") m4) (m5 (.bC (nZ (ph m3) (nb m3 pj)) (nV "UNKNOWN") m3)))
abbrev aBe:dk:={cB:="pid_bound",bw:=["tab","pid","bound"],c8:=2,dc:=3,bD:=ayx,cF:=Y}
abbrev ayv:cx:=(m1 (nA 3 oW m4) (m1 (nW (ob pe "Y_PARAM" 10)) (m1 (m7 4 (ni 50 (m1 on (m2 oI)))) (m5 (nz (m8 ne m_ m4) (n1 "ask" (m1 m_ (m2 m3))))))))
abbrev aBc:dk:={cB:="param_related",bw:=["rel","s","t","row","bound"],c8:=3,dc:=5,bD:=ayv,cF:=Y}
abbrev atB:cx:=(m2 (.jl (nf "rules") (nh "RULE_DEFERRED" 2) (.lJ 5 .C)))
abbrev aAA:dk:={cB:="install_rel_params",bw:=["rel"],c8:=1,dc:=1,bD:=atB,cF:=Y}
abbrev ax1:cx:=(m5 (.bC (nS na "Y_REF" 9) o4 m9))
abbrev aAu:dk:={cB:="did_of",bw:=["row"],c8:=1,dc:=1,bD:=ax1,cF:=Y}
abbrev ayH:cx:=(m1 (m7 4 n4) (m1 (m7 5 m9) (m1 (.jd 6 na n9) (m5 (.eB (m1 (m8 gt m3 m9) (m1 (m8 ge ng nE) (m2 (m8 gt m6 m_)))))))))
abbrev aBo:dk:={cB:="rises",bw:=["road","side","did","number","last","count","step"],c8:=4,dc:=7,bD:=ayH,cF:=Y}
abbrev ayV:cx:=(m1 (nj (m8 ge (nY (nf "road")) (nh "MAX_ROAD" 24))) (m1 (m7 3 oW) (m1 (nW (oa (ni 54 (m1 (nf "road") (m1 m9 (m1 (nK 53 (nu m6 m4)) (m2 m4))))))) n9)))
abbrev aBC:dk:={cB:="too_deep",bw:=["rel","s","t","rows"],c8:=3,dc:=4,bD:=ayV,cF:=Y}
abbrev ayt:cx:=(m1 (m7 4 on) (m1 (nA 5 (o_ m_) m4) (m1 (nA 6 (o_ m_) m3) (m1 (nd (nJ m3 "OBJECTT" 10) (m5 (pn (nh "RULE_WORD" 14)))) (m1 (nj (m8 lM (nC nq) (nQ "SHAPED_ROWS" o8))) (m1 (nj (.eB (m1 (nS ng "Y_REF" 9) (m1 (nS nq "Y_REF" 9) (m1 (nb (nF ng) (nF nq)) (m2 (nD (nu (nD m_ "decls") (nF ng)) "variances"))))))) (m5 (ni 58 (m1 na (m1 m4 (m1 m3 (m2 m6))))))))))))
abbrev aBa:dk:={cB:="objects_related",bw:=["rel","s","t","weak","tab","a","b"],c8:=4,dc:=7,bD:=ayt,cF:=Y}
abbrev ays:cx:=(m1 (oc (oa (op 16 on))) (m1 (nH (n1 "note" (m2 (nh "U_OPTION" 11)))) (m5 (ob o9 "R_SUBTYPE" 4))))
abbrev aA9:dk:={cB:="object_told",bw:=["rel","s"],c8:=2,dc:=2,bD:=ays,cF:=Y}
abbrev ayu:cx:=(m1 (nd (ow 55) oX) (m1 (m7 4 oW) (m1 (nH (.hq (nf "road") (nv (m1 (nK 53 (nu m_ m4)) (m1 m4 (m1 (nK 53 (nu m_ m3)) (m2 m3))))))) (m1 (.bC (oh "R_IDENT" 3) n9 (m2 (m7 5 (ni 61 (m1 na (m1 m4 (m1 m3 (m2 m6)))))))) (m1 (nH (.adw (nf "road"))) (m5 ng))))))
abbrev aBb:dk:={cB:="opened",bw:=["rel","s","t","weak","rows","answer"],c8:=4,dc:=6,bD:=ayu,cF:=Y}
abbrev ax7:cx:=(m5 (m8 ne (pk na (nr afn (nh "P_READONLY" 2) (nh "P_GETONLY" 32))) m9))
abbrev aAE:dk:={cB:="is_readonly",bw:=["prop"],c8:=1,dc:=1,bD:=ax7,cF:=Y}
abbrev ay1:cx:=(m5 (.or (m1 (ob o9 "R_COMPARE" 2) n9)))
abbrev aBI:dk:={cB:="weak_asked",bw:=["rel","s"],c8:=2,dc:=2,bD:=ay1,cF:=Y}
abbrev ayK:cx:=(m1 (m7 4 (nf "host")) (m1 (nA 5 (o_ (nD m_ "tab")) (.eT m_ "shape" (m2 m3))) (m1 (nW (.eB (m1 m6 (m1 (nO 60 m4) (m2 (nG 45 m_ m4 m3)))))) (m1 (nj (.eB (m1 (oh "R_SUBTYPE" 4) (m1 (ni 11 (m1 (nD m_ "tab") (m2 m3))) (m2 (.ir .dy)))))) (m1 (n8 6 (nF ng) (nW (oa (nG 65 na m4 nq)))) (m5 (ni 62 (m1 na (m1 m4 (m1 m3 (m2 ng)))))))))))
abbrev aBr:dk:={cB:="shape_related",bw:=["rel","s","t","weak","host","row","prop"],c8:=4,dc:=7,bD:=ayK,cF:=Y}
abbrev ayG:cx:=(m1 (nj (.eB (m1 (nZ (m8 ne (nu m6 nL) nt) (m8 ne (nu m6 nR) nt)) (nm ir (pn (nh "RULE_INDEX" 10)))))) (m1 (oc (nz (nb (nX m6) nt) (nb (n2 m6) nt))) n9))
abbrev aBn:dk:={cB:="rest_related",bw:=["rel","s","t","row"],c8:=4,dc:=4,bD:=ayG,cF:=Y}
abbrev ayc:cx:=(m1 (nd (nb (pk m3 (nV "P_OPT")) m9) (m1 (nd (nz (nb (nf "missing") (nk "")) (nb (nY (nf "road")) nc)) (m2 (nx "missing" oQ))) (m5 (.aO Y)))) (m1 (nj (op 11 on)) (m1 (nW (oh "R_SUBTYPE" 4)) oX)))
abbrev aAJ:dk:={cB:="lacking",bw:=["rel","s","prop"],c8:=3,dc:=3,bD:=ayc,cF:=Y}
abbrev ayq:cx:=(m1 (nj (nz (nr acu (nr afn (nX m3) (nX m6)) (nr afn (nh "P_PRIVATE" 8) (nh "P_PROTECTED" 16))) (.ir .dy))) (m1 (nj (.eB (m1 (oh "R_SUBTYPE" 4) (m1 (o6 59) (nm ir (pg 59)))))) (m5 (.or (m1 (oh "R_COMPARE" 2) (m1 (nb (pk m3 (nV "P_OPT")) m9) (m2 (m8 ne (pk m6 (nV "P_OPT")) m9))))))))
abbrev aA5:dk:={cB:="marks_fit",bw:=["rel","s","found","want"],c8:=4,dc:=4,bD:=ayq,cF:=Y}
abbrev ayz:cx:=(m1 (m7 3 on) (m1 (m7 4 (nG 20 (nf "host") m4 oQ)) (m1 (nd (m8 agL m_ .B) (m5 (ow 63))) (m1 (nW (oa (ni 64 (m1 na (m1 m4 (m1 m_ (m2 m3))))))) (m1 (m7 5 (ni 21 (m1 m6 (m2 m_)))) (m1 (m7 6 (ni 21 (m1 m6 (m2 m3)))) (m1 (nW (oa (n1 "ask" (m1 ng (m2 nq))))) (m1 (nj (nK 29 na)) (m1 (.bC (oa (op 11 m6)) (nm f_ (ni 31 (m1 na (m1 ng (m1 nq (m1 (nK 59 m_) (m2 (o6 59)))))))) n9) (m5 (.aO F)))))))))))
abbrev aBg:dk:={cB:="prop_related",bw:=["rel","s","prop","tab","found","have","want"],c8:=3,dc:=7,bD:=ayz,cF:=Y}
abbrev atC:cx:=(m2 (.jl (nf "rules") (nh "RULE_WORD" 14) (.lJ 7 .C)))
abbrev aAB:dk:={cB:="install_rel_word",bw:=["rel"],c8:=1,dc:=1,bD:=atC,cF:=Y}
abbrev atA:cx:=(m2 (.jl (nf "rules") (nh "RULE_OBJECT" 5) (.lJ 6 .C)))
abbrev aAz:dk:={cB:="install_rel_objects",bw:=["rel"],c8:=1,dc:=1,bD:=atA,cF:=Y}
abbrev ayl:cx:=(m1 (m7 2 (nC na)) (m1 (.jl na m9 (nr e_ m3 nc)) (m1 (m7 3 (.bC (m8 lt m3 (nY o4)) (nu o4 m3) (nr e_ (nr alE m3 (.m 101)) (.m 7)))) (m5 (nr kS m6 m4)))))
abbrev aAY:dk:={cB:="_law_take",bw:=["d","n","at","x"],c8:=2,dc:=4,bD:=ayl,cF:=Y}
abbrev ayk:cx:=(m1 (m7 1 (.bm (m1 (ol nc (nk "undefined")) (m1 (ol nc (nk "null")) (m1 (nv (m1 nB (m1 nc (m2 m9)))) (m1 (nv (m1 nE (m1 (nk "a") (m2 m9)))) (m1 (nv (m1 nR (m1 nc (m1 (nk "E") (m1 (nk "a") (m2 m9)))))) (nm ay (m1 nE (m1 (nk "b") (m2 m9))))))))))) (m5 (nu (nr e_ m4 (.bm (m1 (ol nc (nk "string")) (m1 (nv (m1 nL (m1 m9 (m2 m9)))) (nm ay (m1 nc (m2 (nk "number")))))))) na)))
abbrev aAX:dk:={cB:="_law_row",bw:=["one","rows"],c8:=1,dc:=2,bD:=ayk,cF:=Y}
abbrev aye:cx:=(m5 (nu (.bm (m1 nc (m1 nB (m1 nL (m1 (.m 24) (m1 oo (m1 (.m 32) (m1 (.m 120) (m1 (.m 128) (m2 (.m 384))))))))))) na))
abbrev aAL:dk:={cB:="_law_bits",bw:=["one"],c8:=1,dc:=1,bD:=aye,cF:=Y}
abbrev aqK:cx:=(m1 (nd (nb (nr kS na nE) m9) (m5 nt)) (m1 (m7 1 (.bC (nb (nr kS (nr abo na (.m 243)) nB) nc) (.bm (m2 (nr kS (nr abo na (.m 27)) (.m 9)))) om)) (m5 (ol (nr e_ (.bm (m2 (nr kS (nr abo na nE) (.m 9)))) m4) (nr eZ (nr kS na nE) nc)))))
abbrev aAU:dk:={cB:="_law_member",bw:=["code","more"],c8:=1,dc:=2,bD:=aqK,cF:=Y}
abbrev ayj:cx:=(m1 (nd (nb na nt) (m5 oP)) (m1 (m7 1 (.bC (nb o4 nc) (.m 513) m9)) (m1 (n8 2 (nC na) (m7 1 (nr afn m4 (o6 70)))) (m5 m4))))
abbrev aAT:dk:={cB:="_law_mask",bw:=["member","bits","one"],c8:=1,dc:=3,bD:=ayj,cF:=Y}
abbrev aqL:cx:=(m1 (m7 2 o0) (m1 (.mn 3 (m2 nB) (m2 (nd (m8 ne (nu m4 m6) nt) (m1 (m7 4 (nO 8 (n5 (n1 "put" (m2 (nK 69 nq))) 6 (oj m4 m6)))) (nm f_ (.hq m3 (nv (m1 (nu (nk "pq") m6) (m1 m_ (m1 (nF (nu m4 m6)) (m2 m9))))))))))) (m1 (m7 5 (nv (m1 (.bC (nb m3 om) (.m 508) m9) (m1 (nK 72 (nC m4)) (m2 (nK 72 oq)))))) (m5 (ol (n1 "put" (nm ay (m1 oy (m1 (.af3 m3) (m1 nt (m1 nt (m1 nt (m1 nt (m2 m9))))))))) ng)))))
abbrev aAV:dk:={cB:="_law_object",bw:=["tab","body","props","k","kind","mask"],c8:=2,dc:=7,bD:=aqL,cF:=F}
abbrev atD:cx:=(m1 (m7 2 (ot nL)) (m1 (nd (nz (nb m3 m9) (m8 ne m4 om)) (m5 (nu m4 (ni 68 (m1 na (nm c9 m4)))))) (m1 (m7 3 (nK 71 (ot (.m 486)))) (m1 (m7 4 (nK 71 (ot (.m 486)))) (m5 (ol (.bC (nz (m8 ne m4 om) (nb m3 nc)) (oj m4 n4) m6) (.bC (nb m3 nE) nt m_)))))))
abbrev aAM:dk:={cB:="_law_body",bw:=["d","bodies","how","first","second"],c8:=2,dc:=5,bD:=atD,cF:=Y}
abbrev atE:cx:=(m1 (.acg [4,5] (nO 73 m3)) (m1 (m7 6 (nG 1 na m4 (nk "C"))) (m1 (.dU nq "body" m_) (m5 (nv (m1 (n1 "put" (nm ay (m1 (.m 9) (m1 (nD nq "did") (m2 nt))))) (m1 ng (m1 m6 (m2 nt)))))))))
abbrev aAO:dk:={cB:="_law_declared",bw:=["tab","kind","body","place","t","mask","decl"],c8:=4,dc:=7,bD:=atE,cF:=Y}
abbrev aqN:cx:=(m1 (.acg [2,3,4] (nv (m1 o0 (m1 o0 (m2 o0))))) (m1 (.mn 5 (m2 (nr e_ nc (ot nL))) (m1 (m7 6 (nr eZ (ot (nr e_ ng nc)) nc)) (m1 (.bC (ph nq) (m2 (m7 7 (nO 74 m3))) (m1 (nA 7 m3 nq) (m2 (nd (nb (ot nB) nc) (m2 (m7 7 (ol (nC nU) (nK 71 (ot (.m 486)))))))))) (m1 (nH (.hq m3 nU)) (m1 (nH (.hq m6 nq)) (nm f_ (.hq m_ (ni 75 (m1 m4 (m1 nc (m1 nU (m2 (nr e_ ng nc))))))))))))) (m1 (m7 8 (ni 75 (m1 m4 (m1 nB (m1 (nu m3 (ni 68 (m1 na (nm c9 m3)))) (m2 m9)))))) (m5 (nv (m1 m_ (m1 m6 (m1 m3 (m2 (.A 8))))))))))
abbrev aA1:dk:={cB:="_law_world",bw:=["d","tab","bodies","ups","classes","k","up","body","face"],c8:=2,dc:=9,bD:=aqN,cF:=Y}
abbrev aqM:cx:=(m1 (.acg [4,5,6,7] m3) (m1 (nA 8 (nv (m1 m9 (m1 nc (m1 nE (m1 nL (m1 nR (m1 nB (m1 oz (m2 (.m 7)))))))))) (ot oy)) (m1 (nd (nb (.A 8) m9) (m1 (m7 9 (ot (.m 9))) (m5 (nv (m1 (.eT m4 "put" (m2 (nK 69 (.A 9)))) (m1 (nv (m1 (nK 70 (.A 9)) (m1 m9 (m2 m9)))) (m1 m9 (m2 nt)))))))) (m1 (nd (m8 lt (.A 8) nE) (m1 (.acg [10,11] (ni 73 (m1 m4 (m2 (nO 74 nq))))) (m5 (nv (m1 (.A 10) (m1 (.A 11) (m1 m9 (m2 nt)))))))) (m1 (nd (m8 lt (.A 8) nR) (m5 (nu m_ (ni 68 (m1 na (nm c9 m_)))))) (m1 (nd (nb (.A 8) nR) (m5 nU)) (m1 (m7 12 (nv (m1 nc (m1 (nv (m1 (.m 511) (m1 oP (m2 oP)))) (m1 m9 (m2 nt)))))) (m1 (nd (nb (.A 8) oz) (m1 (m7 13 (nv (m1 (nv (m1 (.m 11) (m1 (nv (m1 (.m 508) (m1 oP (m2 oP)))) (m1 m9 (m2 nt))))) (m1 (nv (m1 oi (m1 (nv (m1 m9 (m1 oP (m2 oP)))) (m1 m9 (m2 nt))))) (m2 (.A 12)))))) (m5 (nu (.A 13) (nu (nv (m1 m9 (m1 nc (m1 m9 (m1 nc (m2 nB)))))) (ot nR)))))) (m1 (m7 14 o0) (m1 (.mn 15 (m2 (.bC (m8 ne m6 om) (ot nL) m9)) (nm f_ (.hq (.A 14) (nu m6 (ni 68 (m1 na (nm c9 m6))))))) (m1 (nd (nb (.A 14) om) (m5 (nv (m1 (ni 0 (m1 m4 (m1 (nk "T") (m1 n4 (nm ju nc))))) (m1 (nv (m1 m9 (m1 m9 (m2 m9)))) (m1 m9 (nm ay (m2 (.A 12))))))))) (m5 (nv (m1 (ni 0 (m1 m4 (m1 (nk "T") (m1 (ni 8 (m1 m4 (m2 (n5 (oG 16) 16 (.A 14))))) (nm ju nc))))) (m1 (nv (m1 m9 (m1 m9 (m2 m9)))) (m1 m9 (nm af3 (.A 14))))))))))))))))))
abbrev aAW:dk:={cB:="_law_one",bw:=["d","tab","world","pool","classes","ups","bodies","face","how","one","t","mask","whole","tops","chosen","go"],c8:=4,dc:=17,bD:=aqM,cF:=Y}
abbrev ayh:cx:=(m1 (oc (nb (nC na) (nC m4))) (m1 (nd (m8 ne (n2 na) nt) (m5 (.db (n5 (op 78 m_) 4 (n2 na))))) (m1 (nW (m8 ne (n2 m4) nt)) (m1 (.acg [2,3] (ol o4 oq)) (m5 (.eB (m1 (nb (nr afn oQ pe) pe) (nm or (m1 (nb (nF m3) m9) (nm eB (m1 (nb (nr afn (nF m3) oI) oI) (m2 (nb (nr afn (nX m3) (nX m6)) (nX m6))))))))))))))
abbrev aAQ:dk:={cB:="_law_in",bw:=["s","t","a","b"],c8:=2,dc:=5,bD:=ayh,cF:=Y}
abbrev ayf:cx:=(m1 (oc (.dS (n5 (nO 78 m6) 3 m4))) (m5 (.eB (m1 (m8 ne (n2 na) nt) (nm db (n5 (op 79 m3) 2 (n2 na)))))))
abbrev aAN:dk:={cB:="_law_cover",bw:=["s","others"],c8:=2,dc:=4,bD:=ayf,cF:=Y}
abbrev ayd:cx:=(m1 (nW (nZ (nb (nX m4) m9) (nb (nX m3) m9))) (m1 (m7 3 (nr eZ (nX m4) nc)) (m1 (.ag2 (nz (m8 ge m6 m9) (m8 ne m6 (nr eZ (nX m3) nc))) (m2 (nA 3 na m6))) (m5 (ph m6)))))
abbrev aAK:dk:={cB:="_law_apart",bw:=["ups","s","t","at"],c8:=3,dc:=4,bD:=ayd,cF:=Y}
abbrev aym:cx:=(m5 (.dS (n5 (nz (nb (nF oq) oP) (nb (nX oq) oP)) 1 na)))
abbrev aAZ:dk:={cB:="_law_top",bw:=["held"],c8:=1,dc:=2,bD:=aym,cF:=Y}
abbrev ayi:cx:=(m2 (.mn 4 (nm c9 m3) (m2 (nd (m8 ge (nu m3 m_) m9) (m2 (.dU (oe "decls" (nF (oe "rows" (oj m4 m_)))) "bases" (.bC m6 (nv (m2 (oj m4 (nu m3 m_)))) nt)))))))
abbrev aAR:dk:={cB:="_law_lay",bw:=["tab","classes","ups","there","k"],c8:=4,dc:=5,bD:=ayi,cF:=Y}
abbrev ayg:cx:=(m1 (nA 3 m4 m3) (m1 (m7 4 (nr e_ (.ady m4 m3) (.ahW m4 (nr e_ m3 nc)))) (m1 (oc (.dS (n5 (.eB (m1 (ni 78 (m1 m6 (m2 ng))) (nm ir (nG 80 na m6 ng)))) 5 m_))) (m5 (.eB (m1 (m8 ne (n2 m6) nt) (m1 (m8 gt (nY m_) nc) (m2 (ni 79 (m1 m6 (m2 m_)))))))))))
abbrev aAP:dk:={cB:="_law_goes",bw:=["ups","held","place","part","others"],c8:=3,dc:=6,bD:=ayg,cF:=Y}
abbrev atF:cx:=(m1 (.acg [3,4] (ol (nC m4) oq)) (m1 (.mn 5 (m1 (nr eZ (nY m3) nc) (m1 n4 (nm ju nc))) (m1 (.age 6 (n5 (oG 10) 10 m3)) (m1 (m7 7 (nG 48 (nf "host") nq ng)) (m1 (nH (ni 82 (m1 on (m1 m6 (m1 m_ (m2 (.aO F))))))) (m1 (m7 8 (nG 49 na nq ng)) (m1 (nH (ni 82 (m1 on (m1 m6 (m1 m_ (m2 (.aO Y))))))) (m1 (nA 9 m3 ng) (m1 (nj (m8 ne (.A 8) (nG 83 m_ m3 ng))) (m1 (nj (m8 ne nU (.or (m1 (m8 gt (nF (nF (.A 9))) m9) (m1 (m8 ne (n2 (.A 9)) nt) (m2 (o6 81))))))) (m2 (nd (nz nU (.A 8)) (m2 (m7 2 (nr e_ (.ady m3 ng) (.ahW m3 (nr e_ ng nc)))))))))))))))) (m5 m3)))
abbrev aAS:dk:={cB:="_law_left",bw:=["rel","world","held","classes","ups","place","kinds","asked","lies","part"],c8:=3,dc:=11,bD:=atF,cF:=Y}
abbrev ayn:cx:=(m1 (nj (.or (m1 (nb m3 om) (nm ir (.db (n5 (ni 79 (m1 nq (m2 m3))) 6 m4)))))) (m1 (.mn 3 (nm c9 m3) (m1 (nA 4 m3 m6) (m1 (m7 5 (nz (nb (nF oT) m9) (nb (n2 m_) nt))) (m2 (nj (.eB (m1 (nG 83 na m3 m6) (nm or (m1 (oa ng) (m2 (o6 81))))))))))) (m5 (.aO F))))
abbrev aA0:dk:={cB:="_law_whole",bw:=["ups","pool","left","place","part","plain"],c8:=3,dc:=7,bD:=ayn,cF:=Y}
abbrev agh:cx:=(m1 (m7 1 (.hw (m1 m9 (m2 (n5 (.A 19) 19 (.ady na (.m 63))))))) (m1 (m7 2 (.lJ 0 .C)) (m1 (nH (nG 1 m3 nR (nk "E"))) (m1 (m7 3 (.lJ 3 (m1 (.lJ 2 (m2 m3)) (m2 nL)))) (m1 (.dU m6 "telling" (.aO Y)) (m1 (nH (pg 52)) (m1 (nH (pg 67)) (m1 (nH (pg 66)) (m1 (m7 4 (ni 76 (m1 m4 (m2 m3)))) (m1 (.acg [5,6] (ol (nC m_) oT)) (m1 (m7 7 o0) (m1 (.mn 8 (m2 (nr e_ nE (.anh (nr abo (nY oq) oi) nE))) (m1 (m7 9 (ni 77 (m1 m4 (m1 m3 (m1 m_ (m2 nU)))))) (m2 (nd (m8 lM (oG 9) (n5 (oG 18) 18 nU)) (nm f_ (.hq nU (.A 9))))))) (m1 (n8 10 nU (n8 11 nU (nj (m8 ne (.eT m6 "ask" (m1 (oG 10) (m2 (oG 11)))) (ni 78 (m1 (.A 10) (m2 (.A 11)))))))) (m1 (nH (ni 82 (m1 m3 (m1 ng (m1 nq (m2 (.aO F))))))) (m1 (m7 12 (nr e_ ng (.bm (m1 (n2 m_) (m2 (nC nU)))))) (m1 (n8 10 (.A 12) (n8 11 (.A 12) (nj (m8 ne (nG 47 (nD m6 "host") (oG 10) (oG 11)) (nG 80 nq (.A 10) (.A 11)))))) (m1 (nH (ni 82 (m1 m3 (m1 ng (m1 nq (m2 (.aO Y))))))) (m1 (m7 13 om) (m1 (n8 14 (ni 2 (m1 m3 (m2 (ni 8 (m1 m3 (m2 (n5 (oG 16) 16 nU))))))) (m7 13 (nr e_ (.A 13) (.go (.A 17) 17 nU (m2 (nb (oG 17) (.A 14))))))) (m1 (n8 15 (nv (m1 (.A 13) (nm rev nU))) (nj (oa (nG 85 nq nU (nG 84 m6 m_ (.A 15)))))) (m5 (.eB (m1 (nb (o_ (nD m6 "notes")) om) (m1 (nb (nD m6 "trail") om) (m2 (nb (nD m6 "assumed") (.lK Y)))))))))))))))))))))))))))
abbrev ard:dk:={cB:="law",bw:=["script","d","tab","rel","world","classes","ups","pool","go","one","s","t","every","start","part","held"],c8:=1,dc:=20,bD:=agh,cF:=Y}
abbrev atx:cx:=(m1 (o5 "rows") (m1 (nx "index" (.lK Y)) (m1 (nx "decls" (.hw (m2 .B))) (m1 (o5 "bounds") (m1 (o5 "defaults") (m1 (o5 "names") (m1 (nx "origins" (.lK Y)) (m1 (nx "renamed" (.lK Y)) (m1 (oJ "shaping") (m1 (oJ "putting") (m2 (.jd 1 (nQ "FIRST_ROWS" (nI [nP "any",nP "unknown",nP "never",nP "void",nP "undefined",nP "null",nP "string",nP "number",o3 m9 m9,o3 nc m9,nP "object",nI [oy,oF,oF,oF,oF,oF,m9],nI [oz,o8],nP "error",o3 m9 nc,o3 nc nc])) (nm f_ (pi "put"))))))))))))))
abbrev aAl:dk:={cB:="TypeTable.__init__",bw:=["self","row"],c8:=1,dc:=2,bD:=atx,cF:=Y}
abbrev aty:cx:=(m1 (nd (m8 gH m4 (nf "index")) (m5 (oe "index" m4))) (m1 (m7 2 (nY o2)) (m1 (nH (.hq (nf "rows") m4)) (m1 (.jl (nf "index") m4 m3) (m5 m3)))))
abbrev aAm:dk:={cB:="TypeTable.put",bw:=["self","row","t"],c8:=2,dc:=3,bD:=aty,cF:=Y}
abbrev att:cx:=(m1 (nx "did" m4) (m1 (nx "kind" m3) (m1 (nx "name" m6) (m1 (nx "params" nt) (m1 (nx "body" n4) (m1 (nx "bases" nt) (m1 (nx "static" n4) (m1 (oJ "extends_class") (m1 (nx "abstract" (.aO Y)) (m1 (nx "members" om) (m1 (nx "variances" om) (m1 (oJ "busy") (m1 (oJ "at") (m1 (nx "file" (nk "")) (m2 (oJ "nid"))))))))))))))))
abbrev az9:dk:={cB:="Decl.__init__",bw:=["self","did","kind","name"],c8:=4,dc:=4,bD:=att,cF:=Y}
abbrev atw:cx:=(m1 (nx "tab" m4) (m1 (oJ "deep") (m1 (nx "most_rounds" (nh "MOST_ROUNDS" 200)) (m1 (nx "most_deep" (nh "MOST_SHAPES" 40)) (m2 (nx "lib" .B))))))
abbrev aAk:dk:={cB:="Thin.__init__",bw:=["self","tab"],c8:=2,dc:=2,bD:=atw,cF:=Y}
abbrev axT:cx:=(m5 m4)
abbrev aAj:dk:={cB:="Thin.force",bw:=pd "self",c8:=2,dc:=2,bD:=axT,cF:=Y}
abbrev axN:cx:=(m5 (op 17 (nf "tab")))
abbrev aAc:dk:={cB:="RefHost.shape",bw:=pd "self",c8:=2,dc:=2,bD:=axN,cF:=Y}
abbrev atv:cx:=(m1 (nx "host" m4) (m1 (nx "mode" m3) (m1 (nx "rules" (.lK F)) (m1 (nx "assumed" (.lK Y)) (m1 (nx "known" (.lK Y)) (m1 (o5 "trail") (m1 (o5 "road") (m1 (oJ "deep") (m1 (oJ "looks") (m1 (nx "notes" (.lJ 4 .C)) (m1 (nx "telling" (.aO F)) (m1 (nx "twin" .B) (m1 (nx "missing" (nk "")) (m2 (oJ "at")))))))))))))))
abbrev aAe:dk:={cB:="Rel.__init__",bw:=["self","host","mode"],c8:=3,dc:=3,bD:=atv,cF:=Y}
abbrev axO:cx:=(m5 (ow 26))
abbrev aAd:dk:={cB:="Rel.ask",bw:=["self","s","t"],c8:=3,dc:=3,bD:=axO,cF:=Y}
abbrev axP:cx:=(m5 (nv (m1 (nY (pq "notes")) (nm c9 (nf "trail")))))
abbrev aAf:dk:={cB:="Rel.mark",bw:=["self"],c8:=1,dc:=1,bD:=axP,cF:=Y}
abbrev axQ:cx:=(m2 (nj (nf "telling")))
abbrev aAg:dk:={cB:="Rel.note",bw:=["self","code"],c8:=2,dc:=2,bD:=axQ,cF:=Y}
abbrev atu:cx:=(m2 (o5 "rows"))
abbrev aAa:dk:={cB:="Notes.__init__",bw:=["self"],c8:=1,dc:=1,bD:=atu,cF:=Y}
abbrev axM:cx:=(m5 (nz (ob (nD m4 "mode") "R_IDENT" 3) (nG 51 m4 m3 m6)))
abbrev aAb:dk:={cB:="ParamRule.holds",bw:=["self","rel","s","t"],c8:=4,dc:=4,bD:=axM,cF:=Y}
abbrev axR:cx:=(m1 (nj (nJ (nD m4 "mode") "R_IDENT" 3)) (m5 (ni 56 (m1 m4 (m1 m3 (m1 m6 (m2 (.aO F))))))))
abbrev aAh:dk:={cB:="RelshapeObjectRule.holds",bw:=["self","rel","s","t"],c8:=4,dc:=4,bD:=axR,cF:=Y}
abbrev axS:cx:=(m5 (ni 57 (m1 m4 (m2 m3))))
abbrev aAi:dk:={cB:="RelshapeWordRule.holds",bw:=["self","rel","s","t"],c8:=4,dc:=4,bD:=axS,cF:=Y}
abbrev aHn:r dk:=[aA7,aA6,aBd,aBK,aBk,aAH,aBw,aBD,aBF,aAn,aAD,aAC,aBj,aAv,aAI,aA4,aA2,aBf,aAp,aAw,aBh,aBi,aAy,aAq,aAt,aBq,aAo,aBm,aAs,aBA,aBy,aBu,aBt,aBE,aBG,aBH,aA8,aBx,aBp,aAx,aBv,aBB,aAF,aBs,aAG,aBJ,aBz,aAr,aBl,aA3,aBe,aBc,aAA,aAu,aBo,aBC,aBa,aA9,aBb,aAE,aBI,aBr,aBn,aAJ,aA5,aBg,aAB,aAz,aAY,aAX,aAL,aAU,aAT,aAV,aAM,aAO,aA1,aAW,aAQ,aAN,aAK,aAZ,aAR,aAP,aAS,aA0,ard,aAl,aAm,az9,aAk,aAj,aAc,aAe,aAd,aAf,aAg,aAa,aAb,aAh,aAi]
abbrev bo(h:u):ap dk:=aHn[h]?
abbrev ant{gn:Type}(i:r (u×ea×gn))(x:u)(j:ea):ap gn:=@r.jB (u×ea×gn) (n_ (ap gn)) B (fun t ψ l=>@N.ae (n_ (ap gn)) (u.acv t.1 x&&t.2.1==j) l (c t.2.2)) i
abbrev ang:r (u×ea×u):=[(0,"put",88),(2,"force",91),(2,"shape",92),(3,"ask",94),(3,"mark",95),(3,"note",96),(5,"holds",98),(6,"holds",99),(7,"holds",100)]
abbrev aDR:u→ea→ap u:=ant ang
abbrev apl:r (u×ap u):=[(0,c 87),(1,c 89),(2,c 90),(3,c 93),(4,c 97),(5,B),(6,B),(7,B)]
abbrev aJC(x:u):ap (ap u):=apl.cm x
abbrev aoG:r (u×ea):=[(0,"rows"),(0,"index"),(0,"decls"),(0,"bounds"),(0,"defaults"),(0,"names"),(0,"origins"),(0,"renamed"),(0,"shaping"),(0,"putting"),(1,"did"),(1,"kind"),(1,"name"),(1,"params"),(1,"body"),(1,"bases"),(1,"static"),(1,"extends_class"),(1,"abstract"),(1,"members"),(1,"variances"),(1,"busy"),(1,"at"),(1,"file"),(1,"nid"),(2,"tab"),(2,"deep"),(2,"most_rounds"),(2,"most_deep"),(2,"lib"),(3,"host"),(3,"mode"),(3,"rules"),(3,"assumed"),(3,"known"),(3,"trail"),(3,"road"),(3,"deep"),(3,"looks"),(3,"notes"),(3,"telling"),(3,"twin"),(3,"missing"),(3,"at"),(4,"rows")]
abbrev auj(x:u)(j:ea):N:=aoG.dS fun t=>u.acv t.1 x&&t.2==j
abbrev T:mE:={abp:=auj,eT:=aDR,ahD:=aJC,aaA:=[(3,6),(4,5),(5,4),(6,1),(7,2),(10,7)]}
set_option tactic.hygienic false
noncomputable instance:gN dk:=⟨⟨"",[],0,0,.C,Y⟩⟩
set_option tactic.hygienic true
structure anM where
 atM:r (ea×ar)
 amH:u→ap ea
 akH:u→ap ea deriving gN
abbrev aJJ:dz→N|.B=>F|_=>Y
abbrev aoh(d:af.bA)(o:afc→N):N:=if b:ny 19 then n3 af.bA.ah0.az (fun x P P=>o x)else Y
abbrev amA(d:af.bA)(o:af.bH→ac3→N):N:=if b:ny 23 then n3 af.bA.kM.az (fun j n=>o j n)else Y
abbrev atY(d:af.bA)(o:n6→N):N:=if b:ny 25 then n3 af.bA.ac5.az (fun i P P=>o i)else Y
abbrev atW(d:af.bA)(o:n6→N):N:=if b:ny 24 then n3 af.bA.r.az (fun i P=>o i)else Y
abbrev azA(d:af.bA)(o:(r (ap af.bA))→n6→N):N:=if b:ny 6 then n3 af.bA.ah2.az (fun ks vs P=>o ks vs)else Y
abbrev aog(d:af.bA)(o:af.bA→af.bH→ac3→N):N:=if b:ny 20 then n3 af.bA.aaf.az (fun y k n=>o y k n)else Y
abbrev ajr(d:af.bA)(o:af.bA→af.bA→N):N:=if b:ny 21 then n3 af.bA.aak.az (fun y k P=>o y k)else Y
abbrev aok(d:af.bA)(o:(ap af.bA)→(ap af.bA)→(ap af.bA)→N):N:=if b:ny 26 then n3 af.bA.lv.az (fun i aP v P=>o i aP v)else Y
abbrev aq1(d:af.bA)(o:ahj→af.bA→N):N:=if b:ny 3 then n3 af.bA.ahj.az (fun p j P=>o p j)else Y
abbrev azr(d:af.bA)(o:af.bA→anT→af.bA→N):N:=if b:ny 2 then n3 af.bA.anI.az (fun i p l P=>o i p l)else Y
abbrev azt(d:af.bA)(o:af.bA→(r aqn)→n6→N):N:=if b:ny 15 then n3 af.bA.akq.az (fun i p l P=>o i p l)else Y
abbrev atQ(d:af.bA)(o:ag6→n6→N):N:=if b:ny 0 then n3 af.bA.ag6.az (fun p i P=>o p i)else Y
abbrev azE(d:af.bA)(o:af.bA→af.bA→af.bA→N):N:=if b:ny 5 then n3 af.bA.amf.az (fun v j ab P=>o v j ab)else Y
abbrev atS(d:af.bA)(o:af.bA→n6→(r aFU)→ac3→N):N:=if b:ny 16 then n3 af.bA.jG.az (fun ac as ks n=>o ac as ks n)else Y
abbrev azv(d:af.bA)(o:af.bA→(r aMg)→kq→N):N:=if b:ny 8 then n3 af.bA.aff.az (fun f g9 x P=>o f g9 x)else Y
abbrev azB(d:af.ee)(o:af.bA→N):N:=if b:ny 24 then oK af.ee.bA.az (fun y P=>o y)else Y
abbrev azm(d:af.ee)(o:n6→af.bA→N):N:=if b:ny 5 then oK af.ee.aeh.az (fun i y P=>o i y)else Y
abbrev atP(d:af.ee)(o:af.bA→anT→af.bA→N):N:=if b:ny 7 then oK af.ee.al5.az (fun v p y P=>o v p y)else Y
abbrev atT(d:af.ee)(o:n6→N):N:=if b:ny 4 then oK af.ee.ai9.az (fun i P=>o i)else Y
abbrev azF(d:af.ee)(o:af.bA→oH→oH→N):N:=if b:ny 12 then oK af.ee.anO.az (fun v j ab P=>o v j ab)else Y
abbrev azR(d:af.ee)(o:af.bA→oH→oH→N):N:=if b:ny 11 then oK af.ee.amn.az (fun v j ab P=>o v j ab)else Y
abbrev azD(d:af.ee)(o:af.bA→af.bA→oH→oH→N):N:=if b:ny 9 then oK af.ee.ajc.az (fun v q j ab P=>o v q j ab)else Y
abbrev azL(d:af.ee)(o:(ap af.bA)→N):N:=if b:ny 3 then oK af.ee.aqz.az (fun y P=>o y)else Y
abbrev azx(d:af.ee)(o:N):N:=if b:ny 27 then oK af.ee.anJ.az (fun P=>o)else Y
abbrev azK(d:af.ee)(o:N):N:=if b:ny 25 then oK af.ee.anU.az (fun P=>o)else Y
abbrev ahm{cg:Type}(i:r cg)(g:N):N:=match i with|[]=>g|_=>Y
abbrev aoi{cg:Type}(i:r cg)(o:cg→r cg→N):N:=match i with|j::xs=>o j xs|_=>Y
abbrev i0{cg:Type}(i:r cg)(o:cg→N):N:=aoi i fun j xs=>ahm xs (o j)
abbrev aaq{cg:Type}(i:r cg)(o:cg→cg→N):N:=aoi i fun j xs=>i0 xs fun ab=>o j ab
abbrev ajq{cg:Type}(p:ap cg)(o:cg→N):N:=match p with|c j=>o j|_=>Y
abbrev ajp{cg:Type}(p:ap cg)(g:N):N:=match p with|B=>g|_=>Y
abbrev azG(x:afc)(o:R→N):N:=if b:x.eP=2 then afc.m.az (aiJ:=fun P=>N) x b o else Y
abbrev azM(x:afc)(o:af.bH→N):N:=if b:x.eP=5 then afc.bi.az (aiJ:=fun P=>N) x b o else Y
abbrev azs(x:afc)(o:N→N):N:=if b:x.eP=1 then afc.aO.az (aiJ:=fun P=>N) x b o else Y
abbrev akO(d:af.bA)(o:af.bA→n6→ac3→N):N:=atS d fun ac as ks n=>ahm ks (o ac as n)
abbrev aoj(d:af.bA)(o:af.bA→af.bH→ac3→n6→ac3→N):N:=akO d fun ac as n=>aog ac fun p k lw=>o p k lw as n
abbrev azP(d:af.bA)(o:af.bA→af.bA→N):N:=ajr d fun y k=>aok k fun i aP v=>ajp i (ajq aP fun aP=>ajp v (o y aP))
abbrev atX(d:af.bA)(o:af.bA→af.bA→N):N:=ajr d fun y k=>aok k fun i aP v=>ajq i fun i=>ajp aP (ajp v (o y i))
abbrev azN(d:af.bA)(o:af.bA→af.bA→af.bA→N):N:=ajr d fun y k=>aok k fun i aP v=>ajq i fun i=>ajq aP fun aP=>ajp v (o y i aP)
abbrev azO(d:af.bA)(o:af.bA→af.bA→N):N:=ajr d fun y k=>aok k fun i aP v=>ajp i (ajp aP (ajq v fun v=>o y v))
abbrev azu(d:af.bA)(o:af.bA→aqn→af.bA→N):N:=azt d fun i os aKU=>i0 os fun f'=>i0 aKU fun l=>o i f' l
abbrev amz(d:af.bA)(o:af.bA→af.bA→N):N:=akO d fun ac as P=>i0 as fun j=>o ac j
abbrev atR(d:af.bA)(o:af.bA→af.bA→af.bA→N):N:=akO d fun ac as P=>aaq as fun j ab=>o ac j ab
abbrev azI(d:af.bA)(o:af.bA→af.bH→ac3→ac3→N):N:=aoj d fun p k lw as n=>ahm as (o p k lw n)
abbrev aq0(d:af.bA)(o:af.bA→af.bH→ac3→af.bA→ac3→N):N:=aoj d fun p k lw as n=>i0 as fun j=>o p k lw j n
abbrev azJ(d:af.bA)(o:af.bA→af.bH→ac3→af.bA→af.bA→ac3→N):N:=aoj d fun p k lw as n=>aaq as fun j ab=>o p k lw j ab n
abbrev azw(d:af.bA)(o:af.bA→af.bH→af.bA→n6→kq→N):N:=azv d fun jN g9 x=>i0 g9 fun t=>amA t.target fun j P=>b1 (t.is_async=0)&&o jN j t.kF t.gP x
abbrev amy(d:af.ee)(o:af.bA→af.bA→N):N:=azm d fun a' y=>i0 a' fun v=>o v y
abbrev azn(d:af.ee)(o:af.bA→af.bH→af.bA→N):N:=amy d fun v y=>aog v fun p h P=>o p h y
abbrev azo(d:af.ee)(o:af.bA→af.bA→af.bA→N):N:=amy d fun v y=>ajr v fun p q=>o p q y
abbrev azp(d:af.ee)(o:n6→af.bA→N):N:=amy d fun v y=>atY v fun a'=>o a' y
abbrev aGX(d:af.ee)(o:af.bH→ac3→anT→af.bA→N):N:=atP d fun v f' y=>amA v fun j n=>o j n f' y
abbrev azq(d:af.ee)(o:af.bA→af.bH→anT→af.bA→N):N:=atP d fun v f' y=>aog v fun p h P=>o p h f' y
abbrev azz(d:af.ee)(o:af.bA→af.bA→N):N:=atT d fun a'=>i0 a' fun v=>ajr v o
abbrev azy(d:af.ee)(o:af.bA→af.bA→N):N:=atT d fun a'=>i0 a' fun v=>atX v o
abbrev azQ(d:af.ee)(o:af.bA→oH→N):N:=azR d fun v j ab=>ahm ab (o v j)
abbrev atU(d:af.ee)(o:af.bA→af.bA→oH→N):N:=azD d fun v q j ab=>ahm ab (o v q j)
abbrev azC(d:af.ee)(o:af.bA→af.bA→n6→oH→N):N:=atU d fun v gQ j=>akO gQ fun ac as P=>o v ac as j
abbrev ki(aE:kq)(ac:af.bA)(h:ea):N:=amA ac fun id P=>id==nT h&&(o7 id amK&&id !=("__debug__":af.bH))
abbrev aeS(d:af.bA):N:=!(atS d fun P as ks P=>as.dD&&ks.dD)
abbrev iS(d:af.bA):N:=!(b1 (ny 22))
abbrev ahP(d:af.bA):N:=!(b1 (ny 8)||(b1 (ny 9)||b1 (ny 10)))
abbrev aj3(d:af.bA):N:=!(b1 (ny 26))
abbrev amt(p:adG)(n:anT):N:=b1 (n=match p with|.e_=>.asN|.eZ=>.axq|.alE=>.aF3|.abo=>.aFF|.kS=>.aF1|.acu=>.aFp|.afn=>.aFq)
abbrev atN(p:ai7)(n:aqn):N:=b1 (n=match p with|.eq=>.abH|.ne=>.aF5|.lt=>.aFX|.le=>.aFY|.gt=>.aFJ|.ge=>.aFK|.gH=>.abK|.lM=>.anS|.agL=>.aFO|.app=>.axi)
abbrev akI(q:R)(d:af.bA):N:=aoh d fun x=>azG x fun aq=>b1 (aq=q)
abbrev avR(d:af.bA):N:=aq1 d fun p j=>b1 (p=.atd)&&akI 1 j
abbrev apo(mp:oY)(aE:kq)(q:u)(id:af.bH):N:=mp.cm id==c q&&((o7 id «local»||o7 id gh||o7 id ht)&&(id !=("__debug__":af.bH)&&id !=("__classdict__":af.bH)))
abbrev aod(mp:oY)(aE:kq)(j:af.bH)(eH:u)(x:kq):N:=x.cA==.abV&&(x.bw.cm j==c .local&&(mp.db (fun h=>h.2 !=eH)&&(x.bw.db fun h=>h.2 !=.gh&&((h.2 !=.local||(x.bw.cm h.1==c .local&&(h.1==j||(mp.cm h.1).mM)))&&(h.2 !=.ht||(o7 h.1 gh||o7 h.1 ht))))))
mutual variable(K:anM)
mutual
abbrev b_(mp:oY)(aE:kq):dz→af.bA→N|.B,d=>aoh d fun x=>b1 (x=.B)|.aO g,d=>aoh d fun x=>azs x fun j=>g==j|.m q,d=>akI q d|nk k,d=>aoh d fun x=>azM x fun j=>j==nT k|.A q,d=>amA d fun id P=>nN apo q id|.bL h y,d=>ki aE d h&&b1 (K.atM.cm h=c y)|nI Aa,d=>atY d fun i=>b1 (i.z≤1000)&&oZ i|.bm Aa,d=>atW d fun i=>b1 (i.z≤1000)&&oZ i|.hw Aa,d=>atW d fun i=>b1 (i.z≤1000)&&oZ i|.lK _,d=>azA d fun ks vs=>ahm ks (ahm vs F)|.be f h,d=>aog d fun y k P=>k==nT h&&(aeS y&&n' y)|.aT f o,d=>ajr d fun y k=>aj3 k&&(n' y&&n0 o k)|.ady f o,d=>azP d fun y aP=>n' y&&n0 o aP|.ahW f o,d=>atX d fun y aP=>n' y&&n0 o aP|.agV f q aq,d=>azN d fun y i aP=>n' y&&(akI q i&&akI aq aP)|.rev f,d=>azO d fun y aP=>n' y&&avR aP|.dM p f g,d=>azr d fun i f' l=>amt p f'&&(n' i&&n0 g l)|.ju f,d=>aq1 d fun p j=>b1 (p=.atd)&&oL|.aX p f g,d=>azu d fun i f' l=>atN p f'&&(! aGz f' l&&(n' i&&n0 g l))|.eB Aa,d=>atQ d fun p i=>b1 (p=.gL)&&oZ i|.or Aa,d=>atQ d fun p i=>b1 (p=.aQ)&&oZ i|.ir f,d=>aq1 d fun p j=>b1 (p=.axm)&&oL|.bC x f g,d=>azE d fun v j ab=>n0 x v&&(oL&&n0 g ab)|.bp ac Aa,d=>akO d fun fn eb P=>ajq (K.amH ac) fun h=>ki aE fn h&&(b1 (eb.z≤20)&&oZ eb)|.lJ x Aa,d=>akO d fun fn eb P=>ajq (K.akH x) fun h=>ki aE fn h&&(b1 (eb.z≤20)&&oZ eb)|.eT f h Aa,d=>aoj d fun p k iB eb bs=>k==nT h&&(aeS p&&(iB.agp==bs.iG&&(b1 (eb.z≤20)&&(n' p&&oZ eb))))|.c9 f,d=>amz d fun fn j=>ki aE fn "len"&&(oM&&oL)|.dS f,d=>amz d fun fn j=>ki aE fn "any"&&(oM&&oL)|.db f,d=>amz d fun fn j=>ki aE fn "all"&&(oM&&oL)|.alT f,d=>amz d fun fn j=>ki aE fn "sorted"&&(oM&&oL)|.af3 f,d=>amz d fun fn j=>ki aE fn "tuple"&&(oM&&oL)|.anh f g,d=>atR d fun fn j ab=>ki aE fn "min"&&(oM&&(iS ab&&(oL&&n0 g ab)))|.aa4 f,d=>atR d fun fn j ab=>ki aE fn "isinstance"&&(oM&&(ki aE ab "str"&&oL))|.akP f o,d=>aq0 d fun p k iB j bs=>k==nT "get"&&(aeS p&&(iB.agp==bs.iG&&(oM&&(n' p&&n0 o j))))|.aaA o aj,d=>azJ d fun p k iB j ab bs=>k==nT "get"&&(ki aE p "KEY_FAMILIES"&&(iB.agp==bs.iG&&(oM&&(iS ab&&(n0 o j&&n0 aj ab)))))|.hq f j,d=>aq0 d fun p k iB ab bs=>k==nT "append"&&(aeS p&&(iB.agp==bs.iG&&(iS ab&&(n' p&&n0 j ab))))|.aft f j,d=>aq0 d fun p k iB ab bs=>k==nT "extend"&&(aeS p&&(iB.agp==bs.iG&&(iS ab&&(n' p&&n0 j ab))))|.adw f,d=>azI d fun p k iB bs=>k==nT "pop"&&(aeS p&&(iB.agp==bs.iG&&n' p))|.go gD eH kF gP,d=>azw d fun jN j gQ fs x=>nN aod j eH x&&(n0 kF gQ&&(b_ ((j,eH)::mp) x gD jN&&jj ((j,eH)::mp) x gP fs))|.dy,_=>F
abbrev jj(mp:oY)(aE:kq):hG→n6→N|.C,i=>ahm i F|.s d Aa,i=>aoi i fun j xs=>oM&&(n0 d j&&oZ xs)
end
abbrev aeJ(mp:oY)(aE:kq)(q:u)(d:af.bA):N:=amA d fun id P=>mp.cm id==c q&&(o7 id «local»||o7 id gh)
abbrev alV(mp:oY)(aE:kq):r u→n6→N|[],[]=>F|q::is,j::xs=>nN aeJ q j&&nN alV is xs|_,_=>Y
abbrev awD(d:af.bA):N:=if b:ny 25 then n3 af.bA.ac5.az (fun vs P P=>!(vs.db (aGS 8))&&!(vs.db (aHo 8)))else F
mutual
abbrev aby(mp:oY)(aE:kq):md→af.ee→N|.f_ f,k=>azB k fun y=>ahP y&&ou y|.ci q f,k=>amy k fun v y=>nN aeJ q v&&(ahP y&&ou y)|.age q f,k=>amy k fun v y=>nN aeJ q v&&(b1 (y.eP=8)&&ou y)|.dU f h j,k=>azn k fun p v y=>v==nT h&&(ahP y&&(ou p&&ox j y))|.jl f o j,k=>azo k fun p q y=>aj3 q&&(ahP y&&(ou p&&(ox o q&&ox j y)))|.acg is f,k=>azp k fun a' y=>nN alV is a'&&(ahP y&&(awD y&&(b1 is.fF&&ou y)))|.ats q p j,k=>aGX k fun id n f' y=>nN aeJ q (.kM id n)&&(nN apo q id&&(amt p f'&&ox j y))|.agg f h p j,k=>azq k fun d v f' y=>v==nT h&&(amt p f'&&(ou d&&ox j y))|.agn f o,k=>azz k fun p q=>aj3 q&&(ou p&&ox o q)|.amB f o,k=>azy k fun p i=>ou p&&ox o i|.bC x f g,k=>azF k fun v j ab=>ox x v&&(nN acO f j&&nN acO g ab)|.ag2 x g,k=>azQ k fun v j=>ox x v&&nN acO g j|.jd q f g,k=>atU k fun v gQ j=>nN aeJ q v&&(ou gQ&&nN acO g j)|.mn q Aa g,k=>azC k fun v fn eb j=>nN aeJ q v&&(ki aE fn "range"&&(jj K mp aE Aa eb&&nN acO g j))|.bu f,k=>(azL k fun p=>match p with|c y=>ou y|B=>aJJ f)|.abl,k=>azx k F|.alK,k=>azK k F|.dy,_=>F
abbrev acO(mp:oY)(aE:kq):cx→oH→N|.C,i=>ahm i F|.s k g,i=>aoi i fun j xs=>nN aby k j&&nN acO g xs
end
end
set_option tactic.hygienic false
abbrev am4(M:j2)(aD:d7):N:=abU M (.bI aD) "__getattribute__"==c (c (.acy "object.__getattribute__"))&&(abU M (.bI aD) "__getattr__"==c B&&(abU M (.bI aD) "__setattr__"==c (c (.acy "object.__setattr__"))&&(aKL M aD&&((atL M aD).dS (·.hasDict)&&(abU M (.bI aD) "__bool__"==c B&&(abU M (.bI aD) "__len__"==c B&&ar5 M aD))))))
set_option backward.match.sparseCases true
abbrev ajX(fn:dk):oY:=(fn.bw.au af.bH.dF).k8 (r.acU fn.bw.z)
set_option tactic.hygienic true
abbrev aDm:akr→N|.ia _ _=>F|_=>Y
abbrev aq4(M:j2):ck→N|.B=>F|.bI O=>(match M.cm O with|c p=>aDm p.fS|B=>Y)|_=>Y
abbrev aqY(M:j2)(cd:ck)(t:af.bH):N:=match cd with|.bI x=>(match M.cm x with|c ⟨_,_,.aju vs,_⟩=>(match vs.e0 with|_::.bi h _::_=>af.bl.fv.sEq h t|_=>Y)|_=>Y)|_=>Y
abbrev amG(M:j2)(f:d7):ap (al4×r ee×kq):=match M.cm f with|c ⟨_,_,.akW ⟨_,jV,dX,.stmts bD,d_,aoK,[],dV,_,_,_,_,jL,_,lc⟩,_⟩=>(match aqY M jL jV&&(aoK==lG&&(lc==an8&&aq4 M dV))with|F=>c (dX,bD,d_)|Y=>B)|_=>B
abbrev avZ(K:anM)(fn:dk)(dX:al4)(bD:r ee)(d_:kq):N:=[dX.asn.dD,dX.asE.mM,dX.apr.dD,dX.arZ.mM,b1 (dX.eb.au (·.iX)=(fn.bw.au af.bH.dF).gu fn.c8),b1 (fn.c8≤fn.bw.z),b1 (fn.bw.au af.bH.dF).fF,(dX.eb.au (·.iX)).db (fun j=>b1 (d_.bw.cm j=c .local∨d_.bw.cm j=c .gh)),b1 ((aqW 0 d_.bw []).au (·.1)).fF,d_.bw.db (fun j=>b1 (j.2≠.ht)),! d_.aJH,! d_.aJI,b1 (d_.cA=.abV),acO K (ajX fn) d_ fn.bD bD].db id
mutual
abbrev ajn(M:j2):ar→ck→N|.m q,.m aq _=>b1 (q=aq)|nk k,.bi aP _=>b1 (aP=nT k)|nI i,.bI f=>(match M.cm f with|c ⟨.hl v,_,.ia xs _,_⟩=>b1 (v="tuple")&&(b1 (i.z≤dv)&&aoa M i xs.e0)|_=>Y)|_,_=>Y
abbrev aoa(M:j2):r ar→r ck→N|[],[]=>F|j::xs,y::vs=>ajn M j y&&aoa M xs vs|_,_=>Y
end
abbrev aBL(M:j2)(x:d7)(j:ea):N:=abU M (.bI x) (nT j)==c B
abbrev ar9(M:j2)(x:d7)(j:ea)(ac:d7):N:=abU M (.bI x) (nT j)==c (c (.bI ac))&&aE5 M (.bI ac)==c (.hl "function")
abbrev aoA:r d7:=[229,236,243,250,257,264,271,278,283,290,297,311,318,342,350,371,376,384,389,576,583,590,597,722,743,750,757,764,771,778,785,792,806,813,820,834,841,848,855,862,869,883,902,909,914,919,924,931,936,943,950,976,983,991,998,1005,1012,1026,1033,1040,1047,1054,1066,1073,1087,1106,1179,1186,1193,1200,1207,1214,1221,1226,1233,1240,1247,1252,1257,1262,1269,1274,1281,1286,1291,1296,1301,165,179,200,403,410,550,666,673,694,680,96,964,1141,1167]
abbrev arc:r ea:=["new_param","new_decl","parts_of","whole_of_row","regular_twin","join_bools","stays_beside","top_of","union","add_undef","is_literal","is_fresh","regular_one","family","known_decl","loose_props","lets_primitive","plain_shape","base_dids","find_prop","prop_row","read_type","has_base","by_rule","cut_back","settled","ask_kinds","relbase_kept","close_trail","tells","taken_wider","slot_notes","simple_related","tops_related","unknown_told","values_related","number_to_enum","structured","rule_for","from_union","some_part","to_union","is_weak","shows_nothing","is_weak_kind","weak_fault","takes_all","class_apart","relate_is_asked","lies_in_other","pid_bound","param_related","install_rel_params","did_of","rises","too_deep","objects_related","object_told","opened","is_readonly","weak_asked","shape_related","rest_related","lacking","marks_fit","prop_related","install_rel_word","install_rel_objects","_law_take","_law_row","_law_bits","_law_member","_law_mask","_law_object","_law_body","_law_declared","_law_world","_law_one","_law_in","_law_cover","_law_apart","_law_top","_law_lay","_law_goes","_law_left","_law_whole","law"]
abbrev aGJ:r d7:=[182,203,567,711,120,967,1151,1170]
abbrev aqU:r ea:=["TypeTable","Decl","RefHost","Rel","Notes","ParamRule","RelshapeObjectRule","RelshapeWordRule"]
abbrev amw:r (ea×ar):=[("ANY",m9),oR "DEFERRED_ROWS" [oi,oB,oC,oo,oE,oA,oD],pf "D_CLASS",nn "EMPTY" 11,nn "ERR" 13,nn "FALSE_T" 8,nn "FAM_BOOL" 3,("FAM_NUM",nB),nn "FAM_OBJ" 7,("FAM_OTHER",m9),pf "FAM_STR",oR "FIRST_ROWS" [nP "any",nP "unknown",nP "never",nP "void",nP "undefined",nP "null",nP "string",nP "number",o3 m9 m9,o3 nc m9,nP "object",nI [oy,oF,oF,oF,oF,oF,m9],nI [oz,o8],nP "error",o3 m9 nc,o3 nc nc],nn "FRESH_F" 14,nn "FRESH_T" 15,("LIST_ROWS",(nI [.m 11,.m 12])),oR "LITERAL_ROWS" [nB,nE,nL,nR],oR "MARKED_ROWS" [nB,nE,nL,nR,oy],nn "MAX_OPEN" 60,nn "MAX_ROAD" 24,nn "MAX_UNION" 400,nn "MOST_LOOKS" 20000,nn "MOST_PLAIN" 40,nn "MOST_ROUNDS" 200,nn "MOST_SHAPES" 40,("NEVER",nB),nn "NULLT" 5,nn "NUMBER" 7,nn "OBJECTT" 10,oR "OBJECT_ROWS" [oy,.m 9,.m 11,.m 12,.m 13],oR "OPEN_ROWS" [oz,.m 7,oi,oB,oC,oo,oE,oA,oD],oR "PLAIN_ROWS" [nc,nB,nE,nL,nR],oR "PRIMITIVE_NAMES" [nk "charAt",nk "concat",nk "includes",nk "indexOf",nk "length",nk "slice",nk "toLowerCase",nk "toString",nk "toUpperCase"],nn "P_GETONLY" 32,pf "P_OPT",nn "P_PRIVATE" 8,nn "P_PROTECTED" 16,("P_READONLY",nB),nn "RULE_CHOICE" 6,("RULE_DEFERRED",nB),nn "RULE_INDEX" 10,pf "RULE_MEET",nn "RULE_OBJECT" 5,nn "RULE_PLACES" 12,nn "RULE_WORD" 14,pf "R_ASSIGN",("R_COMPARE",nB),nn "R_IDENT" 3,nn "R_SUBTYPE" 4,("SHAPED_ROWS",o8),nn "STRING" 6,nn "TRUE_T" 9,nn "UNDEF" 4,pf "UNKNOWN",nn "U_OPTION" 11,oR "VALUE_ROWS" [nc,nB,nE,nL,nR],nn "VOID" 3,nn "Y_ARRAY" 11,("Y_BOOL",nB),nn "Y_ENUM" 5,nn "Y_INTER" 7,pf "Y_KEY",nn "Y_NUM" 4,nn "Y_OBJ" 8,nn "Y_PARAM" 10,nn "Y_REF" 9,nn "Y_SIG" 13,nn "Y_STR" 3,nn "Y_TPL" 18,nn "Y_TUPLE" 12,nn "Y_UNION" 6]
abbrev ij(ac:u):d7:=aoA.ld ac 0
abbrev eR(x:u):d7:=aGJ.ld x 0
abbrev gt:anM:={atM:=amw,amH:=fun ac=>arc[ac]?,akH:=fun x=>aqU[x]?}
def Dm{n}{h}(b:oO h n=F):∀ac,ac<h→n ac=F:=fun ac b2=>r.hp.1 b ac (r.aKl.2 b2)
abbrev aDl(d:ag7)(n:R×R):N:=match d.dx with|.m o _=>(match d.lP with|.m y _=>b1 (o=n.1)&&(b1 (y=n.2)&&b1 (d.ajA=auC o))|_=>Y)|_=>Y
abbrev apR:r ag7→r (R×R)→N|[],[]=>F|d::l,n::k=>aDl d n&&apR l k|_,_=>Y
abbrev arX(M:j2):N:=match M.cm 151 with|c ⟨.hl v,B,.bE Aa _,ec⟩=>b1 (v="dict")&&(b1 (ec.c5=0)&&apR Aa.e0 T.aaA)|_=>Y
abbrev amk:r u:=[0,0,0,0,0,0,0,0,0,0,0,0,0,0,0,149,0,0,0,0,92,156,153,162,157,154,165,155,158,160,159,152,164,161,0,0,0,0,163,0,96,148,120,151,147,121,145,122,101,146,123,99,100,108,109,129,132,0,130,131,128,98,0,105,106,103,102,0,0,0,104,115,107,111,112,124,166,88,89,0,0,1,2,3,4,5,6,7,8,9,10,11,0,12,13,0,0,0,14,127,15,0,0,16,17,117,126,18,19,118,119,0,90,20,21,22,23,140,141,142,143,136,134,0,0,137,133,0,135,0,138,139,150,110,144,97,125,113,116,0,91,24,0,0,25,26,27,28,29,30,31,32,0,33,34,35,0,36,37,38,39,40,41,0,42,0,0,43,44,45,46,47,48,49,50,51,93,52,53,114,0,54,55,56,57,0,58,59,60,61,62,0,63,64,0,65,0,0,66,0,0,0,94,95,67,68,69,70,71,72,73,74,75,76,77,78,79,80,81,82,83,84,85,86,87]
abbrev afM(y:ck)(f:d7):N:=match y with|.bI g=>u.acv g f|_=>Y
abbrev akg(M:j2)(x:u)(y:ck):N:=match x with|0=>F|h+1=>match u.aao 87 h with|Y=>afM y (ij h)|F=>match u.aao 95 h with|Y=>afM y (eR (h-87))|F=>match u.aao 165 h with|Y=>(match amw[h-95]? with|c t=>ajn M t.2 y|B=>Y)|F=>afM y 151
abbrev alZ(M:j2):r ag7→r af.bH→r u→N|[],[],_=>F|d::Aa,h::ns,x::kd=>(match d.dx with|.bi o _=>af.bl.fv.sEq o h|_=>Y)&&(akg M x d.lP&&alZ M Aa ns kd)|_,_,_=>Y
def Qr{M}{d}{Aa}{h}{ns}{x}{kd}(b:alZ M (d::Aa) (h::ns) (x::kd)=F):(∃v,d.dx=.bi h v)∧akg M x d.lP=F∧alZ M Aa ns kd=F:=by rw[mX Ai (N.fY.1 b) fun Q h2=>?_,mX Ai (N.fY.1 h2) fun h2 h3=>?_,mX ⟨?_,h2,h3⟩,mZ b h2 h3];generalize d.dx=y at Q;induction y using af.ck.ae with|bi o v=>exact⟨v,by rw[af.bl.fv.ast.1 Q]⟩|_=>exact N.cs Q
def Qq{M}:∀(Aa)(am)(bX),alZ M Aa am bX=F→Aa.adW (fun d=>match d.dx with|.bi h _=>c h|_=>B)=am|[],[],_,_=>e|[],_::_,_,b=>pp|_::_,[],_,b=>pp|_::_,_::_,[],b=>pp|d::Aa,h::ns,x::kd,b=>by obtain⟨⟨v,Q⟩,_,h3⟩:=Qr b;rw[r.aoD,Q,mW cr (h::·) (Qq Aa ns kd h3)]
def Qp{M}:∀(Aa)(am)(bX),alZ M Aa am bX=F→am.fF→∀h x,(h,x)∈am.k8 bX→∃d,Aa.amE (fun d=>d.dx.aa4 h)=c d∧akg M x d.lP=F|_,[],_,_,_,_,_,H=>nomatch H|[],_::_,_,b,_,_,_,_=>pp|_::_,_::_,[],b,_,_,_,_=>pp|d::Aa,h::ns,x::kd,b,aj,j,ab,H=>by obtain⟨⟨v,Q⟩,h2,h3⟩:=Qr b;refine aQ.az (r.gA.1 H) ?_ ?_;rintro t;rotate_left 1;rintro H;rotate_right 1;(with_reducible refine BL t ?_);rw[mZ t,mY t L];subst t;subst L;rw[mX ⟨d,?_,h2⟩,r.aBM,Q];show(match j==j with|F=>c d|Y=>_)=_;rw[aaV,mX Ai (r.l6.1 aj) fun i0 aaq=>?_,mX Ac (Qp Aa ns kd h3 aaq j ab H) fun a5 f g=>?_,mX ⟨a5,?_,g⟩,r.aBM,Q];show(match h==j with|F=>c d|Y=>_)=_;have:(h==j)=Y:=ajl.2 fun a=>i0 (a▸(r.avY H).1);rw[aa,mW f]
structure aw9(M:j2)(mg:af.bH→ap ck):Prop where
 b9:∀h x,(h,x)∈dC.k8 amk→∃y,mg h=c y∧akg M x y=F
 hP:∀h,h∉dC→mg h=B
 bS:oO 8 (fun q=>am4 M (eR q))=F
 abp:aoG.db (fun t=>aBL M (eR t.1) t.2)=F
 eT:ang.db (fun t=>ar9 M (eR t.1) t.2.1 (ij t.2.2))=F
 arW:arX M=F
structure axa(M:j2):Prop where
 fx:oO 8 (fun q=>aDs M (.bI (eR q))&&ar5 M (eR q))=F
 av1:[5,6,7].db (fun q=>abU M (.bI (eR q)) "__init__"==c (c (.acy "object.__init__")))=F
 ahD:[(0,87),(1,89),(2,90),(3,93),(4,97)].db (fun t=>ar9 M (eR t.1) "__init__" (ij t.2))=F
abbrev aD6(M:j2)(ac:u):Prop:=∀fn,bo ac=c fn→∃n g k,amG M (ij ac)=c (n,g,k)∧avZ gt fn n g k=F
set_option genSizeOf true
set_option genSizeOfSpec true
set_option genInjectivity true
set_option backward.dsimp.useDefEqAttr true
abbrev aBO:ee→r (al4×r ee×kq)|.aMj _ n g _ _ _ k _ _ _=>[(n,g,k)]|_=>[]
abbrev amJ:r ee→r (al4×r ee×kq)|[]=>[]|.aMf _ _ _ i _ _ _ _ _ _ _::l=>i.flatMap aBO++amJ l|st::l=>aBO st++amJ l
abbrev afY(b:b8):r u→j2|[]=>[]|f::i=>match b.bg f with|c p=>(f,p)::afY b i|B=>afY b i
def U3(v:akp)(h:u)(ab7:axl)(f:u):(akC v h ab7).bg f=if f<h then ix ((v.i3 f).ld azU)else B:=by unfold b8.bg;rw[absHeap_at];by_cases b:f<h;(·rw[c0 b,c0 b];generalize(v.i3 f).ld azU=p;obtain⟨x,aj,aG0,ec⟩:=p;cases aG0<;>rfl);·rw[cH b,cH b]
abbrev akb(v:akp)(h:u):r u→j2|[]=>[]|f::i=>match u.akG f h with|F=>(match ix ((v.i3 f).ld azU)with|c p=>(f,p)::akb v h i|B=>akb v h i)|Y=>akb v h i
def Pv(v:akp)(h:u)(ab7:axl):∀i,akb v h i=afY (akC v h ab7) i|[]=>e|f::i=>by unfold akb afY;rw[U3,Pv v h ab7 i];by_cases b:f<h;(·rw[c0 b,show u.akG f h=F from u.aqP b]);·rw[cH b,show u.akG f h=Y by rw[N.amC,mW fun a=>b (u.afQ a)]]
def Ie(b:b8):∀i,(afY b i).abK b|[]=>fun f p d=>by cases d|g::i=>fun f p d=>by unfold afY at d;cases t:b.bg g with|B=>rw[t]at d;exact Ie b i f p d|c j=>rw[t]at d;rw[r.aa6]at d;cases a:f==g with|F=>rw[a]at d;cases d;rw[lb.1 a,mW t]|Y=>rw[a]at d;exact Ie b i f p d
abbrev alz(M:j2):N:=match M.cm lG with|c ⟨_,_,.bE Aa _,_⟩=>alZ M Aa.e0 dC amk|_=>Y
abbrev at2:r af.bH→N|[]=>F|f::i=>i.db (fun g=>!(af.bl.fv.sEq f g))&&at2 i
def O1:∀{i:r af.bH},at2 i=F→i.fF|[],_=>.C|f::i,b=>by rw[o1 Q h2 N.fY.1,mX r.l6.2 ⟨fun H=>?_,O1 h2⟩];have:=r.hp.1 Q f H;rw[af.bl.fv.ast.2 e]at aa;exact N.cs aa
set_option maxRecDepth 100000 in
def T_:at2 dC=F:=nM
def OG{M:j2}{b:b8}(cL:M.abK b)(d:alz M=F):b.apJ lG=dC∧(∀h x,(h,x)∈dC.k8 amk→∃y,b.ann lG h=c y∧akg M x y=F)∧∀h,h∉dC→b.ann lG h=B:=by unfold alz at d;generalize t:M.cm lG=p at d;induction p using ap.ae with|B=>exact N.cs d|c cR=>induction cR using af.k_.ae with|mk x aj fS ec=>induction fS using af.akr.ae with|bE Aa ep=>have d:alZ M Aa.e0 dC amk=F:=d;have K:=cL _ _ t;(have aG:b.apJ lG=dC:=by unfold b8.apJ;rw[K,mW Qq _ _ _ d]);refine⟨aG,fun h x H=>?_,fun h H=>b8.nsMap_none (aG▸H)⟩;(obtain⟨j,f,g⟩:=Qp _ _ _ d (O1 T_) h x H);refine⟨j.lP,?_,g⟩;unfold b8.ann;rw[K];show(Aa.amE fun d=>d.dx.aa4 h).au (·.lP)=_;rw[←fE.find?_toList,f];rfl|_=>exact N.cs d
abbrev amg(M:j2):N:=oO 8 (fun q=>am4 M (eR q))&&(aoG.db (fun t=>aBL M (eR t.1) t.2)&&(ang.db (fun t=>ar9 M (eR t.1) t.2.1 (ij t.2.2))&&(arX M&&(oO 8 (fun q=>aDs M (.bI (eR q))&&ar5 M (eR q))&&([5,6,7].db (fun q=>abU M (.bI (eR q)) "__init__"==c (c (.acy "object.__init__")))&&[(0,87),(1,89),(2,90),(3,93),(4,97)].db (fun t=>ar9 M (eR t.1) "__init__" (ij t.2)))))))
def W9{M:j2}{b:b8}(cL:M.abK b)(d:alz M=F)(i:amg M=F):aw9 M (b.ann lG)∧axa M:=by obtain⟨_,cC,c4⟩:=OG cL d;unfold amg at i;simp only[N.c3 (f:=r.db _ _),N.c3 (f:=arX M)]at i;obtain⟨Q,h2,h3,h4,h5,h6,h7⟩:=i;exact⟨⟨cC,c4,Q,h2,h3,h4⟩,⟨h5,h6,h7⟩⟩
abbrev aoB:r u:=[14,15,16,17,18,19,20,21,22,23,24,26,27,31,32,35,36,37,38,61,62,63,64,77,80,81,82,83,84,85,86,87,89,90,91,93,94,95,96,97,98,100,103,104,105,106,107,108,109,110,111,113,114,115,116,117,118,120,121,122,123,124,126,127,129,132,139,140,141,142,143,144,145,146,147,148,149,150,151,152,153,154,155,156,157,158,159,8,10,11,39,40,58,70,71,74,72,4,112,136,138]
abbrev aiQ(ac:u):N:=match bo ac with|c fn=>(match(pb amJ)[(aoB.ld ac 0)]? with|c (n,g,k)=>avZ gt fn n g k|B=>Y)|B=>F
abbrev ahN:r u:=[3,119,120,125,126,127,128,129,130,131,132,133,134,135,136,137,138,139,140,141,142,143,144,145,146,147,148,149,150,151,181,182,202,203,222,343,377,531,532,566,567,598,599,600,601,603,647,648,710,711,966,967,1150,1151,1169,1170]++aoA.flatMap fun f=>[f,f-1]
noncomputable abbrev axe:=ap (al4×r ee×kq)
abbrev akU(M:j2):r axe:=aoA.au (amG M)
abbrev agu:r axe:=aoB.au fun q=>(pb amJ)[q]?
set_option backward.match.sparseCases false
abbrev aDE(bf:b8)(st:af9):=(aEJ (pb af.bl.fv.aE4) bf st.mF.aK&&aBW st.mF&&aDx bf st.mF.aK,aEx (pb af.bl.fv.aE4) st.mF)
abbrev aDF(st:af9):=(alz (akb st.tree st.h ahN)&&amg (akb st.tree st.h ahN),akU (akb st.tree st.h ahN))
abbrev aov(V:kc)(os:ahe):=(oN ass).au fun st=>aDE (mG V.dX) st
abbrev aow(V:kc)(os:ahe):=(oN ass).au aDF
set_option maxRecDepth 100000 in
def Q3(V:kc)(os:ahe):aov (V.aqc "special-get-raises" Y) os=c (F,pl):=nM
set_option maxRecDepth 100000 in
def Q4(V:kc)(os:ahe):aov (V.aqc "special-get-raises" F) os=c (F,pl):=nM
set_option maxRecDepth 100000 in
def RP(V:kc)(os:ahe):aow (V.aqc "special-get-raises" Y) os=c (F,agu):=nM
set_option maxRecDepth 100000 in
def RQ(V:kc)(os:ahe):aow (V.aqc "special-get-raises" F) os=c (F,agu):=nM
def Mn{W:kc→Prop}(ac:∀V:kc,W (V.aqc "special-get-raises" Y))(v:∀V:kc,W (V.aqc "special-get-raises" F))(V:kc):W V:=by have d:=kc.withFollow_self V "special-get-raises";cases U:V.dX.aHp "special-get-raises"<;>rw[U]at d;(·rw[←d,mW ac V]);·rw[←d,mW v V]
abbrev aDG(bf:b8)(st:af9):=(aDE bf st,aDF st)
def Un(V:kc)(os:ahe):(oN ass).au (aDG (mG V.dX))=c ((F,pl),F,agu):=by have f:oN aov=_:=Mn (W:=fun V=>oN aov=c (F,pl)) (fun V=>Q3 V os) (fun V=>Q4 V os) V;have g:oN aow=_:=Mn (W:=fun V=>oN aow=c (F,agu)) (fun V=>RP V os) (fun V=>RQ V os) V;unfold aov at f;unfold aow at g;generalize oN ass=p at f g;cases p with|B=>cases f|c st=>exact cr c (fK.aaX (ap.c.dB f) (ap.c.dB g))
abbrev axx(M:j2)(b:b8):Prop:=M.abK b∧alz M=F∧amg M=F∧akU M=agu
abbrev aGn(_:kc)(b:b8):Prop:=∃M,axx M b
def WU:aFV af.jZ.aaJ hk l5 (n_ F) (fun k=>(alz (afY k.aK ahN)&&amg (afY k.aK ahN),akU (afY k.aK ahN))) (n_ (F,agu)) 17982:=by refine WZ (ag:=17982) _ _ _ _ aDG (n_ ((F,pl),F,agu)) Zh e UJ AbE e (fun V os=>?_) (fun V bf st b=>?_);(·rw[AaA,mW (oN Un)]);·rw[o1 Q b fK.mk.dB];obtain⟨aV,bj⟩:=pa Q;rw[o1 cV gp fK.mk.dB];rw[Pv st.tree st.h st.ab7]at cV gp;revert cV gp;show(alz (afY st.mF.aK ahN)&&amg (afY st.mF.aK ahN))=F→akU (afY st.mF.aK ahN)=agu→_;intro cV gp;generalize st.mF=k at aV bj cV gp⊢;have aG:=(OG (Ie k.aK ahN) (N.fY.1 cV).1).1;have cu:k.aK.apn lG=F:=(N.fY.1 (N.fY.1 (pa (pa (pa bj).2).2).1).2).1;have Aw:avu af.jZ.aaJ.aaE.bD=pb af.bl.fv.aE4:=congrFun af.bl.fv.te5923862056798008813 _;rw[Aw,mX ⟨?_,Abs aG bj,fK.aaX cV gp⟩,Xu aG cu];simpa only[N.aib]using aV
set_option maxRecDepth 100000 in
def Ac4:fv.tw8377067652309620493 (fv.asC af.jZ.akc).b'=F:=nM
set_option maxRecDepth 100000 in
def Ac5:fv.tw17119622794617984870 (fv.asC af.jZ.akc).b' (fv.asC af.jZ.akc).b'.aaE.bD (fun ψ h=>fv.tw17868728402115742887 h)=F:=nM
set_option maxRecDepth 100000 in
set_option maxHeartbeats 0 in
def Ac6:fv.tw12908688711261696721 (fv.asC af.jZ.akc).b'=F:=apx (apx (apx (apx nM Ac4) nM) nM) Ac5
set_option maxRecDepth 100000 in
set_option maxHeartbeats 0 in
def Ac7:fv.tw17960256430627541270 (fv.asC af.jZ.akc)=F:=by(iterate 15 refine apx ?_ nM);exact Ac6
set_option maxRecDepth 100000 in
set_option maxHeartbeats 0 in
def Ac3:af.jZ.akc.wellSaid=F:=by refine(congrFun fv.te9446332074065402090 _).ah ?_;(iterate 18 refine apx ?_ nM);exact Ac7
set_option maxRecDepth 100000 in
set_option maxHeartbeats 0 in
def hd(bp:aGl af.jZ.akc.gs.toRowW aGn):af.jZ.akc.aMm:=by refine holds_law Ac3 fun aNu=>?_;exact holds_open (l:=af.jZ.akc.gs) (t:=hk) (li:=l5) (aj:=ml) (kwd:=aeK) WU (fun V k d=>⟨_,Ie _ _,(N.fY.1 (pa d).1).1,(N.fY.1 (pa d).1).2,(pa d).2⟩) (fun V b h'⟨M,j,ab⟩o=>⟨M,j.g0 o,ab⟩) (fun ψ ψ=>jC) (fun ψ ψ ψ ψ ψ=>jC) U_ Dd D0 (fun ψ ψ=>recFacts_nil e) e (by assumption) (by decide+agM) ⟨e,e,e,e,e,by decide+agM⟩ ⟨[.aw []],by decide+agM,by decide+agM⟩ bp
set_option maxRecDepth 100000 in
def Aaa:oO 26 aiQ=F:=nM
set_option maxRecDepth 100000 in
def Aac:oO 25 (fun q=>aiQ (q+26))=F:=nM
set_option maxRecDepth 100000 in
def Aad:oO 25 (fun q=>aiQ (q+51))=F:=nM
set_option maxRecDepth 100000 in
def Aae:oO 25 (fun q=>aiQ (q+76))=F:=nM
def K2{h f ac:u}(t:oO h (fun q=>aiQ (q+f))=F)(Q:¬ac<f)(h2:ac<h+f):aiQ ac=F:=abH.subst (aiJ:=fun j=>aiQ j=F) (u.e2 (u.mO.1 Q)) (Dm t (ac-f) (u.sub_lt_right_of_lt_add (u.mO.1 Q) h2))
def Aab{ac:u}(b:ac<101):aiQ ac=F:=aq6 (ac<26) (fun o=>Dm Aaa ac o) fun Q=>aq6 (ac<51) (fun o=>K2 Aac Q o) fun h2=>aq6 (ac<76) (fun o=>K2 Aad h2 o) fun h3=>K2 Aae h3 b
def Y_{M:j2}(b:akU M=agu){ac:u}(b2:ac<101):aD6 M ac:=by intro fn d;have t:=Aab b2;unfold aiQ at t;rw[d]at t;(have aV:(akU M)[ac]?=c (amG M (ij ac)):=by unfold akU;have aC:ac<aoA.z:=b2;rw[r.adg,r.hV aC];show c _=c (amG M (aoA.ld ac 0));rw[r.aBX,r.hV aC];rfl);(have bj:agu[ac]?=c ((pb amJ)[(aoB.ld ac 0)]?):=by unfold agu;have aC:ac<aoB.z:=b2;rw[r.adg,r.hV aC,r.aBX,r.hV aC];rfl);rw[b,bj]at aV;have cV:=ap.c.dB aV;clear aV bj;generalize(pb amJ)[(aoB.ld ac 0)]?=p at cV t;cases p with|B=>exact N.cs t|c j=>obtain⟨n,g,k⟩:=j;exact⟨n,g,k,cV.cq,t⟩
end
mutual open a z b h c some d e e rfl f a g b h n i l j x k s l r m int n p o k p o q i r List s cons t q u Nat v t w H x c y v z length A var B none C nil D obj E G F true G mk' H m I x1 J hx K g L x2 M K N Bool O T P z0a Q h1 R Int S z0b T z0c U z0d V w W P X ρ Y false Z x3 aa this ab y ac f ae casesOn af PySem ag M ah trans aj d ak rows al U am L ao R ap Option aq j au map av V aw list ay tup az elim aB I aD C aH St aI A aK heap aL env aN F aO bool aP u aQ Or aT item aW Q aX cmp aY enc a0 D a4 H1 bb E be attr bg get? bi str bl W bm lst bp call bs pos bu ret bv Sem bw names bx mono bA Expr bC ite bD body bE dict bF inr bH Str bI ref bJ H' bL glob bP bind bS inst bT inl bU next bX S bY par b1 decide b6 set b8 Heap b9 at_ b' prog ce toks cg φ ci assign ck Value cm lookup cq symm cr congrArg cs noConfusion cz O cA kind cB name cD of_decide_eq_true cF drop cH if_neg cI σ cL X cT Inv cW fin cX ρ1 c0 if_pos c3 and_eq_true c5 size c8 arity c9 len db all dc slots dm H2 du Env dx key dy stuck dB inj dD isEmpty dF ofString dH wpAny_bind dK bounds dM bin dS any dU setAttr dX params d3 wpAny d7 Addr d9 hlen d_ scope ea String eb args ee Stmt eh absurd en Shared es toNat eu place eB and eD items eF isSome eG le_trans eH slot eJ under eM trail eO bind_some eP ctorIdx eU objs eX base eY cls eZ sub e0 toList e1 kvs e2 sub_add_cancel e5 deep e8 parts e_ add e' lay fp le_of_eq fq mem_map fv Fast fx keep fE Array fF Nodup fI refl fK Prod fL ban fO known fP model fQ ups fS data fU if_true fV injEq fW motive_1 fX wpAny_pure fY and_eq_true_iff f3 inv f6 seen f_ expr gc N gh cell gk succ gn χ go comp gq ofNat gs row gu take gw Classical gA mem_cons gB one gF getElem?_eq_some_iff gG idOf gH isin gI map_cons gL And gM Builtin gN Nonempty gP ifs gR length_append gS mpr gU road gZ any_eq_true g0 keeps g2 small g3 tail g' push ha rank hf zero hl type hp all_eq_true hq append hr cells ht free hv motive_2 hw newList hx z0e hC rel hN length_map hO lt_of_le_of_lt hP off hU fns hV getElem?_eq_getElem hZ decide_eq_true h1 z0f h_ kindOf ia seq ib units im isKey ir not ix alive iG line iL defaults iU step iX arg i1 depth i3 get i6 isData i7 mem_singleton i8 not_succ_le_zero i9 prim je fresh jh many ji map_some jl setItem jq decide_eq_false ju neg jz PyData jB rec jC trivial jE whole jG Call jP getElem?_append_left j2 Frag j4 Mine ka Off kc World kh idx kk mem_cons_self km pure kq Scope kr SeqAt kB h10 kF iter kH le_refl kK s₀ kM Name kN NameKind kR decide_eq_true_eq kS fmod kZ length_cons k0 lt_of_lt_of_le k1 missing k8 zip k_ Obj la add_assoc lb beq_iff_eq ld getD lh intro li loose ln testBit lu PyProof lv Slice lx bad lF length_singleton lG mainGlobals lH mem_cons_of_mem lI mem_of_getElem? lJ new lK newDict lP val lT Around lZ classes l6 nodup_cons l7 objE me Rows mi bases mj cLine mm doc mr head mt z0g mu intKind mx less mz not_mem_nil mH encM mJ foldl mM isNone mN lt_trans mO not_lt mP num mV toArray aac zero_add aaf Attribute aak Subscript aao ble aaE main aaF mean aaM sum aaR SameBut aaV beq_self_eq_true aaX ext aa4 isStr aa6 lookup_cons aa7 ofNat_lt aba reverse abh True abi add_le_add_left abl cont abo fdiv abp field abs z0h abv if_false abz mem_of_lookup abC set_append_left abF yes abH Eq abK In abP append_assoc abQ areKeys abS envOfC abU findIn abV function ab6 le_antisymm ab8 min ab9 natCast_nonneg acf true_and acg unpack acs add_le_add act backTo acu band acv beq acw beq_false_of_ne acy builtin acz eq_of_beq acC headD acI isVal acK le_add_right acL le_of_not_lt acR or_eq_true acU range acV setB ac3 Pos ac5 Tuple ada eq_iff_iff adc eval add z0i adg getElem?_map ado isEmpty_nil adt ofNat_le adw pop adx right ady sliceTo adB top adJ Kept adL add_le_add_right adP byContradiction adT epsilon adU epsilon_spec adW filterMap ad8 mapIdx aeb reach aec starEach aeh Assign aej Program ael Y aem all_cons aen and_self aeu false_and aev false_eq_true aex get?_push_size aey grow aeM loc aeN map_map aeP mem_append aeQ negSucc ae1 typeIs ae2 update ae9 wpAny_holding afc Const aff ListComp afl append_nil afn bor afo contains aft extend afu filter afK index afO join afQ le_of_ble_eq_true af0 sizeLine af4 zero_le af7 Ns af8 Run agc add_lt_add_right agd addrs agf atKey agk bits agp endLine ags false_or agv getElem?_cons_succ agw getElem?_mapIdx agx getElem?_set_ne agM kernel agP le_of_lt agT own agV slice ag6 BoolOp ag7 DictEntry ag8 IO ahc Ne ahg Pairwise ahh Range ahj UnaryOp ahl brk ahp eqv ahD init ahF kinds ahH le_succ_of_le ahJ live ahK look ahL map_append ahM ne_of_lt ahO nodup_nil ahR or_true ahT pos_of_ne_zero ahW sliceFrom ah0 Constant ah1 Decidable ah2 Dict ah6 RcAt aib and_true aig ext_getElem? aih getElem?_append_right aii getElem?_eq_none aij getElem_mem aiC ih1 aiD ih2 aiG length_take aiI lt_succ_self aiJ motive aiL mul_le_mul_left aiP ofNat_eq_natCast aiU put ai1 valueAt ai6 AutoSeq1 ai8 Code ai9 Delete ajc For aje IsList ajf Laid ajg RcNeAt ajl beq_eq_false_iff_ne ajm bitNot ajo compEnvC ajs dec aju fields ajA hash ajN imp ajR kvsOf ajS le_of_succ_le ajT lists ajV map_nil ajW mem_iff_getElem? aj1 news aj4 not_lt_of_le aj5 not_or akf set_append_right akh toNat_natCast akq Compare akr Data aks DictOf akt False aku Fr akA a_1 akD any_cons akE apart akF bindL akG blt akH clsName akJ contains_iff_mem akW func akX getElem?_concat_length akY getElem?_set_self akZ getItem all z0j alr isEmpty_iff als isSome_iff_exists alt isTrue alw le_add_left aly lookIn alA mem_append_left alB min_le_left alE mul alF ne_of_gt alH not_eq_true' alI one_mul alK pass alO recursionLimit alP replicate al4 Arguments al5 AugAssign al8 Char al9 ExtBut ama Flow amb ForInStep amc FuncData amf IfExp amn While amq add_comm amr apart2 ams assignEach amu callerA amv codeAny amC eq_false_iff amD exists_mem_of_ne_nil amE find? amF find?_cons_of_neg amH fnName amI fnOf amK globalImplicit am4 instOk am6 isNone_iff_eq_none ana length_nil anb length_toList and lt_size ane mapOf anf mem_filter anh min2 ani min_eq_left anj mul_add anm nodup_append ann nsMap anq or_eq_true_iff ans sum_cons anv testBit_or anw tuple any z0k anB wpAny_newObj_type anC yield anH B anI BinOp anJ Continue anO If anR Look anS NotIn anT Operator anU Pass an2 alloc an3 and_false an6 bindC an8 builtinsNs aoe cons_append aon decide_eq_decide aoo decide_eq_false_iff_not aop dictOf aox eq_of_beq_eq_true aoC false_ne_true aoD filterMap_cons aoE filter_cons aoJ getElem?_cons_zero apm instDecidableEqProd apr kwonlyargs aps le_of_lt_succ apu length_drop apv length_set apw locals apy lt_irrefl apz map_take apA mem_iff_getElem apB min_le_right apC mods apG not_and apH not_exists apI not_le apQ or_false apS pairwise_cons apV propext apX rangeSize apY reverse_cons apZ room ap4 stack ap5 stored ap6 s₁ aqd wpAny_field aqe wpAny_mono aqf wpAny_standAt aqm Call_ aqn CmpOp aqq DecidableEq aqr Hend aqs IsSliceOf aqt J aqz Return aqA Subscript_ aqC TypeIs aqG add_add_add_comm aqH add_left_comm aqI add_zero aqP ble_eq_true_of_le aqV canLay0 aqW cellsFrom aqX code aq6 dite arf forIn arg forIn_cons arj getElem?_toList ark getLast? arl grown arT isInt arV keys arZ kwarg ar3 length_filter_le ar4 lt_of_le_of_ne ar5 makesIn ar7 map_drop ar8 mem_append_right asj ofNat_inj asn posonlyargs asp putAt ast sEq_iff asw snoc asz sysModules asB true_or asE vararg asI weak asL wpAny_mkInt asM ω asN Add asT DictOfH asW IntsAre asX IsL asY IsPart asZ IsTup as0 IsTuple as3 News as7 Perm atb Top atd USub atg above ati add_int atj add_mul atk add_right_comm atl add_sl atm all_map ato any_eq_false atK callWith_method1 atL clsIn atM consts atS z0l atT z0m at3 docDef at4 draws at8 eqIsQuiet_byValue at9 eq_ofNat_of_zero_le aua eq_of_testBit_eq aub eraseIdx auc eraseIdxIfInBounds aud eraseIdx_eq_take_drop_succ aul foldl_cons aum forall_mem_cons aun frames aup get?_push_of_some auA handled auC hashInt avt iff_of_false avw instObj avx instOk_parts avy inst_at avz isFalse avE le_succ avF length_mapIdx avG length_pos_iff avH listTooLong avJ lt_succ_of_le avK mapSeq avL map_eq_some_iff avN mul_assoc avS neg_mul avT nil_append avY of_mem_zip av1 plain av2 plain1 av7 pyHash av8 pyNext awc rawInt awd refKey awi seqIndex_of awj set_comm awk singleton awl sizeLine_eq awm size_toArray awo slicePick awp slicePlaces awq slot_dict_get awr slot_list_getitem aws slot_tuple_getitem awt spliced awu spliced_more awy storedH awz strongRecOn awA sub_le awB succ_le_succ awC succ_pos awG tail_any awJ toNat_of_nonneg awN trees awU wpAny_Call_method_late awV wpAny_assign_Name awW wpAny_call_entry awX wpAny_loadPart' aw6 zero_mul aw8 Calls axb Dflts axc ExcName axh Inhabited axi IsNot axk LSm axm Not axq Sub axr Sublist axt UnaryOp_ axC add_sub_cancel axE and_assoc axG any_map axI assignInOrder ay5 binaryOp ay6 bindArgs ay9 bne_iff_ne azb builtins azc canLayAll0 aze cellOf azg cellsFrom_some azW depthAll azY dif_pos azZ dropLast az3 ediv_one az5 eq_comm az6 eq_int az8 extBut aBM find?_cons aBX getD_eq_getElem?_getD aBY getElem?_modify aBZ getElem?_take_of_lt aB0 getElem_of_mem aCm hashesW aCR holding aDn isTrue_and aDo isTrue_or aDp item_list aDs keepIn aDA length_eq_zero_iff aDD loadGlobal aDI lt_add_of_pos_right aDM map_congr_left aDN map_id aDO max_le aDP mem_of_mem_drop aDQ mem_of_mem_take aDS mod_lt aDT modify aDU natCast_add aDX not_lt_zero aDY not_true aD3 ofNat_sub aEa operate aEe plainAttrs_list aEo pure_bind aEt resolve_left aEz set_cons_succ aEA set_cons_zero aEB sliceAdjust aED sortedHeap aEE spliced_none aEG standAt aEK storeName aEM str_str aEN sub_self aEO subscripted aEP swappedStores aEQ swapsWith aEU take_left' aEW toList_inj aEX toNat_lt aEY toNat_of_nonpos aE1 truthy aE5 typeIn aFb wpAny_call aFc wpAny_execs_nil aFd wpAny_listPart aFe wpAny_nsGet aFf wpAny_seqItems aFg wpAny_updateSeq aFn Below aFo BindsTo aFp BitAnd aFq BitOr aFr BoolOp_one aFx CodeRec aFE EqAt aFF FloorDiv aFH FuncBody aFJ Gt aFK GtE aFM IfExp_ aFO Is aFP IsRangeIter aFQ IsiPair aFU Keyword aFW List_ aFX Lt aFY LtE aF1 Mod aF2 Model aF3 Mult aF5 NotEq aF7 OfNat aGa Reads aGb ReadsAll aGc Result aGg Tok aGi UInt32 aGj Unit aGk WData aGr add_lt_add_of_le_of_lt aGs add_sub_of_le aGv append_at aGx attributeBase aGz behindInMarks aGA bind_fun_some aGB blockKind aGD bool_bool aGE bootBuiltins aGF boot_type aGK callWith_function aGL callWith_type1 aGM call_meets aGN call_meetsIn aGP closureFor aGQ compareOp aGR comprehension aGS constantsAlone aGY data_mapDictKeys aGZ decide_true aHa entry_dict_get aHd eqIsQuiet aHe eq_empty_of_size_eq_zero aHj filter_eq_nil_iff aHk filter_eq_self aHl find_spec aHm fmod_nonneg_of_pos aHo foldedForSure aHp followText aHq forIn_toList aHr frames_deeper aHw getElem?_replicate aHx getLast?_eq_getElem? aJz importsNone aJA in1_units aJB inferInstance aJD intBits_le aJE interactive aJH isCoroutine aJI isGenerator aJK isNone_none aJM isTrue_IfExp aJY kmk_pick_nat aJ2 le_max_left aJ3 le_max_right aJ4 le_of_add_le_add_right aJ7 listItems aJ8 listSubscript? aJ9 lists_lengths aKe lt_of_succ_lt_succ aKj map_fst_zip aKk max_eq_right aKl mem_range aKm mem_reverse aKn methodCallForm aKo methodCallPos aKp min_eq_right aKu noPylong_small aKC ofNat_fdiv aKE or_eq_false_iff aKF or_lt_two_pow aKH pairwise_append aKI pairwise_singleton aKK plainAttrs_dict aKL plainOver aKQ rangeFitsLong aKZ seqIndex? aK0 singleton_append aK1 size_of_entries aK2 size_push aK4 sliceApplied aK5 sliceBounds aK6 slicePart_int aK7 slot_dict_delitem aK8 slot_dict_getitem aK9 slot_list_delitem aLa slot_list_extend aLb slot_list_pop aLe sub_le_sub_left aLf sub_le_sub_right aLg sub_lt_self aLh sub_nonpos_of_le aLj take_sublist aLl testBit_two_pow aLo toArray_toList aLp toList_append aLq toList_eraseIdx aLr toList_push aLs tupleItemsOf aLx type_dict_get aLD wpAny_Assign_Name aLE wpAny_Delete aLF wpAny_For aLG wpAny_Name aLH wpAny_delItem_slot aLI wpAny_deleteEach_cons aLJ wpAny_deleteEach_nil aLK wpAny_delete_Subscript aLL wpAny_execs_cons aLM wpAny_letGo aLN wpAny_loadName_local aLO wpAny_of_eq aLP wpAny_rule aLQ wpAny_specialOf aLR wpAny_storeName_local aLS wpAny_truthy_bool aLT wpAny_typeOf aL3 zip_cons_cons aL6 Arg aL7 Attribute_any_ aL9 BoolOp_and aMa BoolOp_or aMb BoolsAre aMe CellsAre aMl HeapKind aMn InstAt aMo IntMulOk aMp IsCell aMq IsListIter aMr IsRange aMs IsTupleIter aMt Meets aMu MeetsSeq aMv Neg aMw PUnit aMx Pairs aMz Set aMA StrKeys aMC Tuple_ aMG Z
mutual
def zqL α:=by first|refine AaC α ?_|rewrite[α]
def zqR α:=by first|refine AaD α ?_|rewrite[←α]
def zqE:=by try with_reducible rfl
def zqA:=by assumption
def zqD:=by decide
def omega:=by first|(with_reducible assumption)|decide|(with_reducible exact u.kH _)|(with_reducible exact u.agP zqA)|(with_reducible exact u.e2 zqA)|(with_reducible exact u.k0 zqA zqA)|(with_reducible exact u.hO zqA zqA)|(with_reducible exact u.eG zqA zqA)|(with_reducible exact u.k0 zqA zqD)|(with_reducible exact u.eG zqA zqD)|(with_reducible exact u.hO zqA zqD)|(with_reducible exact u.k0 zqD zqA)|(with_reducible exact u.eG zqD zqA)|(with_reducible exact u.awB zqA)|(with_reducible exact u.le_of_succ_le_succ zqA)|(with_reducible exact u.ajS zqA)|(with_reducible exact u.succ_le_of_lt zqA)|(with_reducible exact u.lt_of_succ_le zqA)|(with_reducible exact u.aps zqA)|(with_reducible exact u.avJ zqA)|(with_reducible exact u.aKe zqA)|(with_reducible exact u.succ_lt_succ zqA)|(with_reducible exact u.lt_of_succ_lt zqA)|(with_reducible exact u.lt_of_not_le zqA)|(with_reducible exact u.acL zqA)|(with_reducible exact u.aj4 zqA)|(with_reducible exact u.not_le_of_lt zqA)|(with_reducible exact u.alF zqA)|(with_reducible exact u.ahM zqA)|(with_reducible exact u.acK _ _)|(with_reducible exact u.alw _ _)|(with_reducible exact u.zero_lt_succ _)|(with_reducible exact u.succ_ne_zero _)|(with_reducible exact u.aiI _)|(with_reducible exact u.amq _ _)|(with_reducible exact u.la _ _ _)|(with_reducible exact u.atk _ _ _)|(with_reducible exact u.aqH _ _ _)|(with_reducible exact u.axC)|(with_reducible exact u.add_sub_cancel_left)|(with_reducible exact u.add_lt_add_left zqA _)|(with_reducible exact u.abi zqA _)|(with_reducible exact u.adL zqA _)|(with_reducible exact u.acs zqA zqA)|(with_reducible exact u.awA _ _)|(with_reducible exact u.ar4 zqA zqA)|(with_reducible exact eh zqA zqA)|(with_reducible exact u.apy _ zqA)|(with_reducible exact e)|lia|omega+splitDisjunctions
def zqI1 α:=by refine@QK _ _ _ ?_;generalize aDt _ _=α
def zqI2 α β:=by refine@QQ _ _ _ _ ?_;generalize(arY _ _).1=α,(arY _ _).2=β
def zqI3 α β γ:=by refine@QR _ _ _ _ _ ?_;generalize(am8 _ _).1=α,((am8 _ _).2).1=β,((am8 _ _).2).2=γ
def zqI4 α β γ δ:=by refine@QS _ _ _ _ _ _ ?_;generalize(ajP _ _).1=α,((ajP _ _).2).1=β,(((ajP _ _).2).2).1=γ,(((ajP _ _).2).2).2=δ
def zqI5 α β γ δ ε:=by refine@QT _ _ _ _ _ _ _ ?_;generalize(ahG _ _).1=α,((ahG _ _).2).1=β,(((ahG _ _).2).2).1=γ,((((ahG _ _).2).2).2).1=δ,((((ahG _ _).2).2).2).2=ε
def zqI6 α β γ δ ε ζ:=by refine@QU _ _ _ _ _ _ _ _ ?_;generalize(afP _ _).1=α,((afP _ _).2).1=β,(((afP _ _).2).2).1=γ,((((afP _ _).2).2).2).1=δ,(((((afP _ _).2).2).2).2).1=ε,(((((afP _ _).2).2).2).2).2=ζ
def zqI7 α β γ δ ε ζ η:=by refine@QV _ _ _ _ _ _ _ _ _ ?_;generalize(ad6 _ _).1=α,((ad6 _ _).2).1=β,(((ad6 _ _).2).2).1=γ,((((ad6 _ _).2).2).2).1=δ,(((((ad6 _ _).2).2).2).2).1=ε,((((((ad6 _ _).2).2).2).2).2).1=ζ,((((((ad6 _ _).2).2).2).2).2).2=η
def zqI8 α β γ δ ε ζ η θ:=by refine@QW _ _ _ _ _ _ _ _ _ _ ?_;generalize(acJ _ _).1=α,((acJ _ _).2).1=β,(((acJ _ _).2).2).1=γ,((((acJ _ _).2).2).2).1=δ,(((((acJ _ _).2).2).2).2).1=ε,((((((acJ _ _).2).2).2).2).2).1=ζ,(((((((acJ _ _).2).2).2).2).2).2).1=η,(((((((acJ _ _).2).2).2).2).2).2).2=θ
def zqI9 α β γ δ ε ζ η θ ι:=by refine@QX _ _ _ _ _ _ _ _ _ _ _ ?_;generalize(abx _ _).1=α,((abx _ _).2).1=β,(((abx _ _).2).2).1=γ,((((abx _ _).2).2).2).1=δ,(((((abx _ _).2).2).2).2).1=ε,((((((abx _ _).2).2).2).2).2).1=ζ,(((((((abx _ _).2).2).2).2).2).2).1=η,((((((((abx _ _).2).2).2).2).2).2).2).1=θ,((((((((abx _ _).2).2).2).2).2).2).2).2=ι
def zqI10 α β γ δ ε ζ η θ ι κ:=by refine@QL _ _ _ _ _ _ _ _ _ _ _ _ ?_;generalize(aaB _ _).1=α,((aaB _ _).2).1=β,(((aaB _ _).2).2).1=γ,((((aaB _ _).2).2).2).1=δ,(((((aaB _ _).2).2).2).2).1=ε,((((((aaB _ _).2).2).2).2).2).1=ζ,(((((((aaB _ _).2).2).2).2).2).2).1=η,((((((((aaB _ _).2).2).2).2).2).2).2).1=θ,(((((((((aaB _ _).2).2).2).2).2).2).2).2).1=ι,(((((((((aaB _ _).2).2).2).2).2).2).2).2).2=κ
def zqI11 α β γ δ ε ζ η θ ι κ μ:=by refine@QM _ _ _ _ _ _ _ _ _ _ _ _ _ ?_;generalize(mv _ _).1=α,((mv _ _).2).1=β,(((mv _ _).2).2).1=γ,((((mv _ _).2).2).2).1=δ,(((((mv _ _).2).2).2).2).1=ε,((((((mv _ _).2).2).2).2).2).1=ζ,(((((((mv _ _).2).2).2).2).2).2).1=η,((((((((mv _ _).2).2).2).2).2).2).2).1=θ,(((((((((mv _ _).2).2).2).2).2).2).2).2).1=ι,((((((((((mv _ _).2).2).2).2).2).2).2).2).2).1=κ,((((((((((mv _ _).2).2).2).2).2).2).2).2).2).2=μ
def zqI12 α β γ δ ε ζ η θ ι κ μ ν:=by refine@QN _ _ _ _ _ _ _ _ _ _ _ _ _ _ ?_;generalize(lD _ _).1=α,((lD _ _).2).1=β,(((lD _ _).2).2).1=γ,((((lD _ _).2).2).2).1=δ,(((((lD _ _).2).2).2).2).1=ε,((((((lD _ _).2).2).2).2).2).1=ζ,(((((((lD _ _).2).2).2).2).2).2).1=η,((((((((lD _ _).2).2).2).2).2).2).2).1=θ,(((((((((lD _ _).2).2).2).2).2).2).2).2).1=ι,((((((((((lD _ _).2).2).2).2).2).2).2).2).2).1=κ,(((((((((((lD _ _).2).2).2).2).2).2).2).2).2).2).1=μ,(((((((((((lD _ _).2).2).2).2).2).2).2).2).2).2).2=ν
def zqI13 α β γ δ ε ζ η θ ι κ μ ν ξ:=by refine@QO _ _ _ _ _ _ _ _ _ _ _ _ _ _ _ ?_;generalize(kY _ _).1=α,((kY _ _).2).1=β,(((kY _ _).2).2).1=γ,((((kY _ _).2).2).2).1=δ,(((((kY _ _).2).2).2).2).1=ε,((((((kY _ _).2).2).2).2).2).1=ζ,(((((((kY _ _).2).2).2).2).2).2).1=η,((((((((kY _ _).2).2).2).2).2).2).2).1=θ,(((((((((kY _ _).2).2).2).2).2).2).2).2).1=ι,((((((((((kY _ _).2).2).2).2).2).2).2).2).2).1=κ,(((((((((((kY _ _).2).2).2).2).2).2).2).2).2).2).1=μ,((((((((((((kY _ _).2).2).2).2).2).2).2).2).2).2).2).1=ν,((((((((((((kY _ _).2).2).2).2).2).2).2).2).2).2).2).2=ξ
def zqI14 α β γ δ ε ζ η θ ι κ μ ν ξ ο:=by refine@QP _ _ _ _ _ _ _ _ _ _ _ _ _ _ _ _ ?_;generalize(kj _ _).1=α,((kj _ _).2).1=β,(((kj _ _).2).2).1=γ,((((kj _ _).2).2).2).1=δ,(((((kj _ _).2).2).2).2).1=ε,((((((kj _ _).2).2).2).2).2).1=ζ,(((((((kj _ _).2).2).2).2).2).2).1=η,((((((((kj _ _).2).2).2).2).2).2).2).1=θ,(((((((((kj _ _).2).2).2).2).2).2).2).2).1=ι,((((((((((kj _ _).2).2).2).2).2).2).2).2).2).1=κ,(((((((((((kj _ _).2).2).2).2).2).2).2).2).2).2).1=μ,((((((((((((kj _ _).2).2).2).2).2).2).2).2).2).2).2).1=ν,(((((((((((((kj _ _).2).2).2).2).2).2).2).2).2).2).2).2).1=ξ,(((((((((((((kj _ _).2).2).2).2).2).2).2).2).2).2).2).2).2=ο
def mW α:=by exact α
def mX α:=by refine α
def mY α:=by intro α
def mZ α:=by clear α
def nW α:=(α).2.2
def m3 α β:=by refine α β ?_
def m1 α β:=by refine(?_:α→_) β
def m2 α:=by refine(?_:_→_) α
def nM α β γ:=α _ _ β γ
def qk α:=nW (nW α)
def n7 α β:=nM α _ β
def oU α:=.aw α
def nc α:=(α:R)
def m4 α:=by exact α
def ni α:=n7 α _
def oV α β:=(α,.D β)
def n9 α β γ:=α[β]?=c γ
def tx α:=c (.D α)
def nB:=h+1
def nj α:=(α).2.1
def m5:=by intro aa
def rQ α:=α I L Z x4
def aWp α β:=α β (by kernel_rfl)
def nn α:=c (.m α)
def nE α:=.ay α
def m6 α:=by refine(?_:α)
def nX α β γ:=α[β]?=c γ
def nT:=aA h
def zW α:=by(with_reducible show α)
def qP α:=.aO α
def m7 α:=α _ _
def nA α:=.s α .C
def nr:=.m 0
def nm:=S+1
def m8:=by rotate_right 1
def m9:=by rotate_left 1
def nd α β:=(α ..).ah (aWp Af β)
def nI α β γ δ ε:=α (β:=γ) (δ:=ε)
def nh:=(n).2
def m_:=oU []
def nw:=by decide
def na:=.bU
def qI α β:=.bS α β
def ng:=by clear J
def nz:=Aj e
def nf α:=by rw[zW (by rw[m3 Ak α])]
def ri α:=by rw[m3 α J]
def qQ α β:=a6.H α β
def nv α β:=α _ _ β
def nb α β:=by rw[α,mW β]
def zX α:=aA (h+α)
def rC α β:=r (α×β)
def p_ α β:=α E h β
def zY α:=α I L Z
def nk:=(n).1
def og α:=.bi α
def pf α:=.m α
def nQ:=.D 12
def oh α:=.bm α
def nU:=Ao ..
def nN:=ai+1
def oD α β:=α=c (β,a.G)
def o0 α β:=α O cf β l w
def nt α:=by refine aQ.az α ?_ ?_
def oj α:=(nW α).1
def oy:=Ar ..
def nu:=by clear av
def nq:=r u
def pB:=qk f
def nP α:=.bI α
def nx:=oU _
def op α β:=n9 α q β
def ny α β γ δ:=aU T α β γ δ
def oN α:=α q W
def nO α:=fun P=>α
def pv α β γ δ ε:=by refine α β fun γ δ ε=>?_
def pn:=.A 0
def nD α β γ δ:=by refine Ac α fun β γ δ=>?_
def u_ α:=.bM α
def nG:=.m 1
def qr α:=.un α
def oO:=c aM
def nH α β γ:=by by_cases α:β=γ
def oF:=.m v
def nJ:=c _
def t3:=cT E U am H
def nC:=r ar
def ov α:=nj (nW α)
def nY α β:=by refine aQ.az α ?_ ?_<;>clear β
def nF α:=fun j=>α
def pw α β:=by rw[m3 α (β ag)]
def o1:=(k,v)
def qR:=26+a.ds.z
def pU α β:=α O cf β l w
def ob α:=nc (α:u)
def nK α β:=if α then β else B
def pp α:=.bT α
def pV:=.m k
def nZ:=tx 1
def nV:=by rw[ri Ai]
def oc α:=by rintro α e
def nL:=r aR
def sn α β γ:=α+(qQ β γ)
def yK:=cD (by kernel_rfl!)
def n0:=aA nB
def n8:=by rintro e
def pC:=c a1
def pg α β γ δ:=.cl α β γ δ
def nR:=by intro b
def aRO α β:=by rcases J with(⟨α,β⟩)
def n1:=r R
def nS:=.bE []
def n5 α:=.aO α
def ty α β:=c1 a α β
def pO α β:=nX α q β
def aOa α β γ δ:=bc T bo (h+α) β γ δ
def p' α:=fun ψ=>α
def t4 α β:=α→β→Prop
def pD α:=by obtain e:=α
def wj α:=.D α
def r_ α β:=.aT (.A α) β
def on α β γ:=.aX .α β γ
def tz α β:=a6.H α β
def oi:=by rw[m3 Ay av]
def o2 α β γ:=Ae α (Ae β γ)
def yL α β:=by with_reducible exact α β
def aRP:=[aM,a1]
def ol α:=fun d=>α
def n2:=by clear l
def qa α β:=p (α β)
def pW α:=p_ dp α
def w4 α:=α g=c p
def wk α β:=t3 α β w
def ow α β γ δ:=if α=β then γ else δ
def n3:=.D q
def ox α β γ:=(α).au fun β=>γ
def rD α β:=α al aD β
def n4 α β γ:=by refine Al α fun β γ=>?_
def wl α β γ:=α (k:={k with aK:=β,ce:=γ})
def oo α β γ δ:=match α with|β=>γ|_=>δ
def oA:=by clear d
def oG α β:=∀j∈α,β
def n6:=.bE _
def rE α β γ:=aOa α β γ a.G
def so α β:=by rw[m3 Ac (α β)]
def vG α:=(α,nr)
def oH:=qk b
def o5 α β:=α=c (β,a4)
def rR α β:=α j=c β
def qS α:=⟨α,e⟩
def oP α β:={a with α:=β}
def n_:=by omega
def n':=.m q
def oa α β γ δ ε:=α β (γ+1) δ (ε+1)
def od:=(b).1
def oe:=by rintro b
def q9 α:=.dx α
def rt α:=.bF α
def ql α β:=Ad _ α β
def o_ α β:=by rw[m3 α (β bG)]
def sp α:=.bM (dq α)
def u' α β:=.bm (α β)
def pa α:=α j J
def zZ:=o0 aU d
def w5 α:=fun n=>α
def pb:=qP F
def oT α β γ δ ε:=by induction α using r.ae with|C=>show β|s γ δ=>show ε
def oI:=(t).2
def om:=by clear b
def rS α:=α[q]?
def oQ:=by subst d
def oJ:=ni t
def oq:=(t).1
def sM α β:=(α,.m β)
def s6 α:=.bu α
def ot α β:=by exact nd α β
def px:=tx 12
def oR α:=α (by decide)
def rT α:=qI α _
def ou α β γ:=by refine Ai α fun β γ=>?_
def q_ α β:=b_ K mp aE α β
def vH α β:=α→ap β
def oW:=.D 1
def oX:=qP Y
def z0 α:=(a.b9 α).G
def sq α:=α g p d
def qb α β γ δ ε:=by induction α with|C=>show β|s γ δ ih=>show ε
def ph:=.A 2
def uE α β:=.aw (α β)
def oz α β γ δ:=by rw[pv Ac α β γ δ]
def qs α:=qk (oN α)
def s7 α:=u.e2 α
def w6 α:=c (pf α)
def oB:=r a9
def rj:=oU i
def qT α:=by exact N.cs α
def oC α:=pU aU α
def sN α β:=α aN M β aB
def oE α:=fun b=>α
def yM α:=fun ag=>α
def t5 α β γ δ:=Am α (β+1) γ δ
def pP α:=by rw[aRO α a4]
def sO α:=.be pn α
def sr α β γ:=show α=β from γ
def oK:=by clear ag
def sP α β γ:=AK a α β γ
def oL:=rQ bk
def oM α β:=α β _ _ _
def wm α:=ni α _ b
def ā α:=[nQ,pV,α]
def xU α:=α I L Z x4 x5
def qC α:=by show α;omega
def oS:=zX 5
def rU:=n+1
def t6 α β:=α a.ak β
def oY:=rQ bt
def ru α:=α a aS
def oZ α:=α d o=F
def wn:=fP E.b' E.V
def pE α β γ:=eC α β γ
def pF α:=cN a α
def o3:=by rintro ct av
def o4:=ap (u×N)
def qU:=[v]
def o6 α:=by rw[α]at aa
def o7 α:=by simpa using α
def o8 α:=by rw[m3 Al α]
def pQ α β:=α (β b)
def pX α β:=(α β).ah
def o9:=nE i
def yN α β:=eI a.ak α β
def vI:=gC n t
def pc:=c a2
def pY:=o+1
def pZ:=nn v
def pd:=zX 3
def pe α:=by rw[yL Aq α]
def pi:=by subst I
def pj α β γ δ ε ζ η:=nI α β γ δ ε (ζ:=η)
def wo:=a.bs+1
def pk α β:=cr α β
def va α:=h+8*α
def pl:=ap ar
def uF α β:=α _ _ _ _ β
def s8 α β γ:=.bp α (.s (.A β) (nA γ))
def pq:=by subst b
def pr α:=by rw[α]at b
def rV α:=[o,α]
def qc:=.A 1
def ps:=nE []
def q' α β:=nX a.ak α β
def Ř α β:=bc T bo nB α β a.G
def ss α:=α ?_ ?_ ?_ ?_ ?_ ?_ ?_ ?_
def qt:=by simp only[N.c3]at ag
def pu:=rC (u×u) N
def qu:=c y
def qv:=.m o
def qw:=.A 3
def pz:=qk pB
def pA:=gV E h aI U am
def qx α β:=⟨(t α).1,β⟩
def qJ α β γ:=α (show β from γ)
def wp:=.D 25
def qm α:=ni (ni α)
def rv α:=qI α []
def vJ:=eV g
def pG α β γ δ:=oD (rE α β γ) δ
def t7 α:=t4 α en
def qV:=wj qR
def pH α β γ:=.s α (.s β (nA γ))
def pI α β γ δ:=by induction α:β using N.ae with|F=>show γ|Y=>show δ
def qW α:=fun a=>α
def ra:=.mk
def rb:=by simp
def pJ:=rQ bO
def pK α:=aWp AZ α
def qX α:=aWp A0 α
def pL α:=yM (α ag)
def pM:=ā oF
def pN:=a.Ap≤a.ca.z
def vK α:=⟨p,α⟩
def sQ α:=by injection α
def pR:=a8+1
def xV:=.D 24
def tA α β:=α β (by decide)
def rc α:=by refine(α).ah ?_
def pS:=fun ψ ψ=>e
def pT α:=α x5 cp cZ d' ez
def wq α:=i.z≤α
def p0:=by intro d
def p1:=by clear t
def p2 α:=by injection α with I
def p3 α:=.hl α
def p4 α:=by rw[m3 Ac α]
def p5 α β:=nM α β _
def p6:=.A 4
def p7 α β:=n9 α aq β
def rk α β γ:=.dM .α β γ
def p8 α:=dp E h α
def p9:=hT E
def qd α β:=⟨α,β⟩
def sR α:=⟨α,b⟩
def qe α:=α≠[]
def w7:=.D 23
def qf α β:=α=c (β,z'.G)
def s9 α β:=(a.Ah α).β
def qg:=m4 yK
def qh α β:=nX a.G α β
def sb α β γ:=α _ _ β γ
def qi:=j::xs
def qj α β:=b_ K mp aE α d=F→β
def qn α:=⟨_,α⟩
def rl α:=by rw[α]at a5
def rm α β:=α=c (.m β)
def qo α β γ:=(α β γ).z
def su α:=qQ α S
def tB α β γ:=(a.Ah α).β γ
def ř α β:=de k.aK X α β
def qp α:=wl α Q t1
def Ś α:=cS (α aR.v)
def qq:=n9 a.ak k f
def Ă:=by simpa using aa
def qy:=by exact yK
def vb α:=oU [α]
def qz:=qP g
def rF α β γ δ ε:=α→β→γ→δ→ε→Prop
def qA:=pW f
def aOb α:=α E U am dC bf ej aL mp
def qB α:=fun l a i f M b=>α
def sv:=by intro aN M bG aB cz av t
def qD:=by subst L
def qE:=by clear aJ
def tC α:=a6.H _ α
def sc:=tx 0
def qF α:=Ax T nT α aRP w e e
def t8 α β γ:=bc T bo nB α aRP w=cW (b4 T nT β γ w)
def sd α:=(cN a α).An
def qG:=dI a M O
def qH:=sM "mode" 4
def qK:=(b).2
def qL α:=.ay α
def sw:=.A 6
def qM α β γ:=oD (Ř α β) γ
def se:=qr cj
def qN:=pp e
def vc α:=tz α nm
def qO α β γ δ ε:=by induction α using ar.ae with|β γ=>show δ|_=>show ε
def s_:=rS w
def sx:=bv.fz dr
def yO α:=c (nE α)
def uG α:=.bM α
def qY:=rQ cb
def qZ:=a7.dh-1
def q0 α β:=by rw[α,β];rfl
def q1:=zY bk
def q2:=oh i
def uH:=u_ i
def q3 α β:=α (s7 β)
def q4:=wk k.aK X
def q5:=rC u u
def yP α:=fun dO=>u.i8 _ α
def q6 α:=d3 wn aI α aW bb k
def q7:=fun P P P b=>Av b
def w8 α β:=α a al aD β
def q8 α β:=by rw[m2 α,m5,mW β]
def tD α:=by refine α ?_
def vL:=by subst a5
def rd:=by rintro t
def sy α β:=eL α β
def re:=p gr
def sS:=tx a.ad
def tE α:=a.G++[α]
def rf α β γ δ:=by refine AC α fun β γ δ=>?_
def rg α β:=sn α β S
def rh α β γ:=show α=β by exact γ
def z2:=nc f+2
def ta:=fun p=>ap.bP p _
def wr α β γ:=sN α β cz ct γ
def rn:=.m 2
def ws α β:=.ay (α β)
def tF:=nn o
def ro α β:=sn α β ai
def sT:=by exact N.cs b
def tb:=by exact Aq b
def rp:=p' e
def rq α:=r_ α nr
def rr α:=(zZ).bP fun n=>α
def vM α:=rt (rt α)
def wt:=I.ah L
def rs α β γ:=by induction α using N.ae with|F=>show β|Y=>show γ
def wu:=(k,v)::ks
def rx:=.jc
def t9 α β:=if α then β else 0
def ry α β:=∀d∈α,β
def rz α:=(α).cq
def rA α:=by simp[α]
def t_ α β:=(α β).az
def rB:=nj b
def w9:=26+aj
def uI α:=(a.As α).G
def ă α β γ:=p (sP α β γ)
def Ą α:=uE α aR.aY
def t' α β:=c (α,l,β)
def ą α:=bn→bB→α
def tc α β:=∀g p,w4 α→β
def aRQ:=e6 "p" n++e6 "q" t
def rG α:=α<1000
def vd α:=g≠α
def ua:=[o]
def tG:=r.kk ..
def ub:=by subst l
def uJ:=by rfl
def rH α β:=(α β).z
def ve:=tx 11
def rI:=rQ cP
def rJ α:=α (by omega)
def rK:=qP y
def rL:=zY bt
def rM:=bk I L
def rN α:=qa AH α
def rO:=s6 y
def uK:=nc l-1
def w_ α β:=gz T a.G α β
def z3 α:=α nh nk
def rP α β γ:=by rw[pD (sr α β γ)]
def rW α β γ:=α ⟨β,γ⟩
def rX:=(ag).1
def aTW:=(r.fq).1
def yQ:=by clear a5
def rY:=.D f
def rZ α β:=.aT α β
def z4 α:=.bI α
def r0:=p aV
def z5:=a.ds.z+2
def yR α:={k with aK:=α,ce:=tk}
def r1:=u_ _
def r2:=qr i
def r3 α:=Ax T nT α [aM,a1,a2] w e e
def r4 α β γ:=bc T bo nB α [aM,a1,a2] w=cW (b4 T nT β γ w)
def r5 α:=by rw[pw AD α]
def uc:=.bY a.dK.z
def r6:=n9 a.ak v g
def r7:=u' cL.au .m
def r8:=vH af.bH ck
def r9:=by rintro _ _ _ e ag
def sf α:=α→u
def w' α:=by(with_reducible exact α)
def sg α β:=by simp only[α,β];rfl
def sh α:=by rw[α];rfl
def si:=nP f
def sj:=u_ []
def sk α β:=α _ β _ _
def sl α β:=c1 a α β
def sm:=fj a.ak [] a'
def uL α β γ δ:=by induction α using u.ae with|hf=>show β|gk γ=>show δ
def sz:=(j).1
def sA:=by subst t
def sB α β:=by simp only[α,β]at b
def Ć α β:=by induction α using u.ae<;>exact β
def ć α β:=by induction α using β<;>rfl
def sC:=p jb
def wv α β:=(α β).cq
def ww:=tx 23
def sD α β γ δ:=α→β→γ→δ→E
def vf:=f+2
def sE:=by rw[ri Ac]
def sF α:=nv α _
def yS:=ku a
def sG α β:=.ci α β
def sH α:=α f g
def sI:=vG "deep"
def sJ α β:=p (Bn α β)
def aTX:=c_.aw []
def sK:=by(rw[oc v])
def aWx α:=nE [wp,xV,α,bV.aY]
def vg α:=(aU d l w).bP fun n=>α
def yT α:=n9 a.ds α a0
def ś α β:=α x≤β x
def xW:=by intro aW bb
def sL:=oV "host" 11
def Ĉ α:=(nW α).2
def sU α:=q≠α
def sV:=Bg ..
def sW α:=.c9 α
def sX:=zY bO
def sY:=bt I L
def sZ α β γ:=p (α (β γ))
def aRR α:=ap (α×ch)
def ĉ α:=(a.Ah α).G
def aTY α:=(a.b9 α).G
def s2:=wk b X
def xa:=⟨cA,v,[]⟩
def s3 α β γ δ ε ζ:=by refine At α fun β γ δ ε ζ=>?_
def wx α:=by rw[m2 α,m5,Ă]
def vN α:=ni AQ b (w5 α)
def s4:=by rintro j J e
def s5 α:=α x5 cp cZ
def td α:=α≤ac
def te α:=fun i=>α
def tf:=by rw[aa]
def tg α β:=by rw[α,β]
def th:=.m f
def xb:=tx 24
def ti:=ac-1
def tj α:=nv α d
def tl α:=by rw[so α av]
def tm α β γ δ:=by induction α using ap.ae with|B=>show β|c γ=>show δ
def tn α:=w.b6 q α
def z6 α:=o2 nz α oy
def xX α:=α (cN a)
def tp α:=by rw[m9,mY J];show α;rw[ng]
def tq:=_::_
def xY α β:=AW (Ae α β)
def tr:=by intro j J
def ts α β:=.bC α β .C
def tu α:=wm Bk (w5 α)
def tv:=ty k a7
def tw:=qI 4 [oV "rows" 19]
def tH:=(bh).2
def yU α β γ:=∀(α:u)(β),γ
def tI α β:=a.G.b6 α β
def tJ:=.D 11
def Ŝ α β:=α (ap.c.dB β)
def tK:=r bv
def tL α β γ:=by rw[α,β,mW γ]
def tM:=nc 0
def xZ α:=p_ α d
def tN α:=b.bg α=c p
def tO:=oj b
def x0:=cz.bx I
def tP:=t.to d
def tQ α:=by rw[aRO α dm]
def x1 α:=r_ 1 α
def x2 α β:=α aN M β bQ
def x3 α:=tz α nN
def tR:=by rw[m3 At l]
def aRS:=.aw aRQ
def tS:=S+nN
def tT:=(t dN).2
def xc:=vK d
def tU:=wq dv
def tV α β γ δ ε ζ:=by intro α;induction β with|C=>show γ|s δ ε ih=>show ζ
def tW:=fp e e e
def tX α:=s8 68 0 α
def z7:=rD a.e' F
def xd:=aWx w7
def tY α:=(kp α).aY
def tZ α:=fun d he=>α
def t2 α:=BK a α nw nw
def ud α:=α≤6
def ue α:=fun t=>α
def uf:=by subst a
def aPN:=by injection b
def ug:=by injections a
def uh:=by congr 1
def ui α β:=α a.G β
def aWq α β:=α (af.bH.dF β)
def uj:=.A 7
def uk:=r jF
def um α:=qk (qs α)
def uo:=p fo
def uq α β:=by rw[←α,mW β]
def x6:=.bE i
def ur:=og k
def us:=pf (-1)
def ut α β γ:=d=α∧o β γ=F
def uu α:=ty α k
def uv α:=by rw[so aTW α]
def uw α:=o5 zZ α
def ux:=t7 ck
def uy α β γ:=by refine Al α fun β γ=>?_
def uz:=AL a O o1
def uA:=.mr _
def uB:=AX nz nU e
def uC α:=α I L Z x4 x5 cp
def uD:=fun ψ ψ ψ=>e
def uM:=by subst aa
def uN:=.m 3
def Ċ α:=r.lH _ α
def uO:=p jk
def uP:=p cV
def uQ:=nc o
def uR:=rQ d6
def uS α:=by rw[zW (by rw[m3 gf.of α])]
def uT α:=by rw[zW (by rw[m3 BL α])]
def uU α:=cr _ α
def yV:=by rw[nf a5]
def uV:=zY cb
def uW:=og _
def uX:=bO I L
def uY:=bk I
def uZ α:=rR aL.hr.cm α
def u0:=qS _
def u1:=z0 wo
def u2 α:=.m α v
def u3:=aOb jJ
def aOc α:=.bm (Ś α)
def aPO α β γ:=Ba _ α β _ _ _ (γ a) e e
def u4:=el a7 st
def u5:=hn a k di n t
def u6:=.s d Aa
def aWu:=2+a.ds.z
def u7 α:=α e e e e
def u8 α β:=by obtain⟨α,_⟩:=(r.gF).1 β
def u9 α β γ:=by induction α using N.ae with|Y=>show β|F=>show γ
def aWv:=bc E.O E.hU h
def vh:=.aP
def vi α β:=by refine⟨α,β⟩
def vj α β:=by injections a α β
def vk:=b5+1
def vl α:=.m (ob α)
def ċ α:=c (og α)
def vm:=r ck
def vn:=nc f
def vo:=bv.fz _
def vp:=c0 e
def z8 α:=α++[aTX]
def vq:=qP _
def vr:=ov b
def vt:=fm o
def z9 α:=.bY α bh
def vu:=oV "rows" 2
def Č α:=α a h k v
def vv α:=qb i (by rfl) f i (by show α)
def vw:=kJ k v f g
def vx α:=Ae α oy
def vy:=iK a d
def vz α β γ:=by induction α:β using ap.ae with|B=>rfl|c p=>show γ
def vA:=bn→bB→bR→cn→Prop
def vB:=aaS al
def vC:=oV "rules" 13
def z_ α β:=hH α β i bq
def vD α β γ:=m4 (yP (Am α 1 0 16 S S β e γ (Az dO)))
def vE:=.D n t
def vF α:=.cl α vI mp cY
def ŝ α:=a.ak.z<α
def vO:=Bl ..
def vP:=by subst aJ
def vQ:=a.c2+1
def vR:=a.ad+1
def vS:=.D _
def vT α:=Ad _ α
def vU:=B1 _
def vV α:=qI 3 α
def vW:=by rw[ri At]
def vX:=zX 2
def aPP:=aah g
def vY:=bt I
def vZ α:=Ax T nT α [aM] w e e
def v0:=w4 b.bg
def v1 α:=u' cS α
def v2 α:=d3 ag aI α aW bb k
def v3:=.bY n
def v4 α:=(cN a α).dh
def v5:=(t n).2
def Ş α β:=α j (pa β)
def v6 α:=va a7.An+α
def aPQ:=W.au aR.aY
def ş α:=α g p a d
def v7:=by intro _ f
def č α β:=ă α _ β
def v8:=Ą W.au
def v9:=ą (bR→Prop)
def v_:=(f,y)::l
def Ď:=B2 fun P P P P P=>e
def v':=a.Ah ao
def wa:=aTY n
def wb α β:=fun P P α=>β
def wc:=op X.bN n
def wd α:=fun g p d=>α
def aOd α:=fun ab b0=>α
def we α:=wl α h2 d2
def wf:=oV "index" 3
def wg:=oV "assumed" 14
def wh:=yN n mp
def wi α:=∃I L Z x4,α
def wy α:=⟨e,α⟩
def wz:=.dy
def wA α β γ:=if α=F then β else γ
def wB:=by rintro a
def wC α β:=∀{i}{α},β
def wD α:=by induction α using N.ae
def wE:=c a3
def wF α β:=α→β→N
def wG α:=by rw[m3 Ai α]
def wH:=h+4
def wI:=nn cA
def wJ:=S+2
def wK:=zX 4
def wL:=oh []
def Š:=oh .C
def aPR α β:=.bp α (nA β)
def wM:=j::i
def wN α:=by rw[yL BD α]
def wO:=by rintro gx av
def wP:=S+3
def wQ α:=mf E h α
def wR α β:=eI ao α β
def wS:=by rw[qT d]
def wT α:=qC (by rw[α])
def wU:=rC af.bH u
def wV:=vb .B
def wW α:=fun P P=>α
def wX α β γ:=t5 (rV α) ai β γ
def wY α:=hS cf α
def wZ α:=α ab b0
def w0:=aRR ar
def w1:=w8 hi b3 bV W o
def w2:=oV "known" 15
def w3 α β:=α T β _ _
def xe α:=16≤α
def xf α:=α≤al.z
def xg:=by subst dg
def xh α:=by simp only[α]at b
def xi:=c k.aY
def xj:=aq+1
def xk:=.m _
def xl:=c vJ
def xm α β:=u.eG α β
def xn:=p dt
def xo:=nc 1
def aWw α:=oV "trail" α
def xp:=rQ ff
def xq α:=qQ α ai
def xr:=zY cP
def xt:=j.aj x
def xu:=cb I L
def xv:=bO I
def xw:=by rw[m3 AU av]
def xx α:=Ax T nT α [aM,a1,a2,a3] w e e
def xy α β γ:=bc T bo nB α [aM,a1,a2,a3] w=cW (b4 T nT β γ w)
def xz α:=α d he
def xA:=fy n t
def xB:=rT 3
def xC:=rT 4
def xD:=bW.bx L
def aTZ:=E.ij ac
def xE α β γ:=by have α:=β a.G γ
def xF:=by rw[sQ b]
def xG:=z3 iH
def xH:=x.acC 0
def xI:=t6 io a'
def xJ α:=aWq α h
def xK α β:=∃p,α β=c p
def xL α β:=.eB (.s α (nA β))
def xM:=ma aL aE
def xN:=oV "decls" 4
def xO:=ty v st
def xP:=t4 bn bB
def xQ:=yN t cY
def xR:=ii 2 a.ds
def xS α β:=α E.O aWv β l w
def xT α:=∃I L Z,α
def aT0:=jM aWu cA "C" (-1) []
def aPS:=W (f).1 (nj f) (oj f) (ov f)
def x7 α:=u.acL α
def x8 α:=fun ab=>α
def x9:=(oH).1
def x_:=(ag).2
def aWr:=nomatch ba
def x':=by rintro J
def ya:=by unfold dv
def yb α β:=by injections h α β
def yc:=by injection d
def yd α:=by induction α using aR.ae
def aT1 α:=by cases α<;>rfl
def ye:=.m n
def yf:=by exact b.az
def yg α β:=by simp only[α];exact β
def yh α β:=by rw[m6 α,mW β]
def yi α β:=α id=c β
def yj:=rQ o
def yk:=u.kH _
def yl:=nE .C
def ym:=vG "looks"
def aRT:=sp qU
def yn:=aA ac
def yo:=.bF e
def yp:=pO w rj
def yq α β γ δ ε:=by refine Bq α fun β γ δ ε=>?_
def yr:=vc 20
def ys:=rC ar ar
def yt α β:=aH.G (oP α β)
def yu:=z4 z5
def yv α β γ:=α β ai γ ai
def yw:=(fC n).2
def yx:=fR a z'
def yy:=ql e b
def yz:=O++[o1]
def aRU:=rD bz.e' Y
def yA:=ed b X i vs
def yB:=hS cf d
def yC:=by rintro _ e ag
def yD α:=[oO,pC,α]
def yE α:=wr sa α (fun co Q t1 cX I bQ bW=>?_)
def yF:=oV 2 20
def yG:=oV "road" 17
def yH:=iE d j
def yI α β:=aby K mp aE α k=F→β
def yJ:=(s9 gO As aRS).G
def yW α:=N.cs α
def aT2:=(N.fY).1
def yX α:=⟨α,[]⟩
def yY:=.local
def yZ α:=("telling",α)
def y0 α:=by refine⟨α,?_⟩
def y1:=by rintro d
def y2 α:=by rw[aJ]at α
def y3 α:=by rw[α]at aV
def y4:=by simp[Bj]
def aRV:=by rw[←ad5]
def y5 α β:=by by_cases α:q<β
def y6 α β γ:=by induction α using β<;>first|rfl|show γ
def y7 α:=by rw[α]
def y8 α β:=by simp[α,β]
def y9:=.m g
def y_ α β:=u.ab6 α β
def y':=.A 5
def za:=p bj
def zb:=oU aaI
def zc α β:=n9 α o β
def zd α β:=by rw[m3 At (α β)]
def ze:=nn k
def zf:=26+S
def zg α β:=(AW α).ah β
def zh α β:=ie a.ak α β
def zi α β:=pp ⟨α,β⟩
def zj:=wj w9
def zk α:=c (α,p)
def zl:=qS e
def zm α:=ql α e
def zn α:=by refine dH (α ?_)
def zo:=nc g+2
def zp:=z0 rU
def zq:=nm+ai
def zr α:=uF (ni BO) α
def zt α:=aW α (yR h')
def zu:=O++wu
def zv α:=.g3 _ α
def aT3 α:=gb am α h' X cv
def zw:=b8.aex _ e
def zx α:=aai a al α
def zy α:=ws cS α
def zz α:=pg α 0 2047 2047
def zA α:=pg α 511 2047 2047
def zB:=b5+d4
def zC:=(fy n t).dD
def zD:=i.z<dv
def zE α:=by refine AA (wm g) fun α z1 ip a1 b t=>?_
def zF:=d∈W
def zG α:=fun l w=>α
def zH:=a6.H _ nm
def zI α β:=aam α fun q=>β
def zJ:=kb ao i bq
def zK α:=AO (n7 (ni Ce) α e e (cD (by kernel_rfl)))
def zL:=oV "bounds" 5
def zM α:=gN (bn×α)
def zN:=(a9.D n t).aY
def zO α β:=t8 α β [oO,pC]
def zP α β γ δ ε ζ:=have(sR x):=Bp b;α (fW:=ol (∀x:d.eP=β,γ (fW:=nO N) d x δ=F→ε)) d x ζ x b
def zQ:=by rw[ć l a9.ae]
def zR α:=by rw[yQ,mY a5,vL,mW α]
def zS:=hm q l g
def zT:=by rw[Ć h (N.cs o)]
def zU:=adI E aI k bb
def zV:=k6 16 0 0 ""
def À α:=α≤dv
def Á:=(r.hp).1
def Â α:=α≠am
def Ã α:=α[aq]?
def Ä α:=by unfold α at b
def Å:=by rw[aPN]
def Æ:=.m aP
def Ç:=.m 4
def È:=.m 9
def É α β:=α (aQ.bF β)
def Ê:=g.iF=F
def Ë:=r cg
def Ì:=p BH
def Í:=aQ.bT b
def Î:=af.bH.dF h
def Ï α β:=α a β aS
def Ð α:=α+(tC S)
def Ñ α β:=.bI (α β)
def Ò:=aZ br
def Ó α β:=α (by simpa using β)
def Ô α:=α++[l]
def aT4:=26+z1.ds.z
def Õ:=by rw[ri AC]
def Ö α β:=p (α▸β)
def Ø:=by rw[m3 Bt l]
def Ù:=a.gU=[]
def Ú:=a.Ap=0
def Û α:=vH α cg
def Ü:=sq ne
def Ý α β γ δ ε:=α β (nj γ) (oj δ) (Ĉ ε)
def Þ:=w6 (-1)
def ß:=sO "decls"
def à α:=.m (adR α)
def á:=pO w uH
def â:=by rw[a_]at d
def ã α β:=q' α (q9 β)
def ä:=rv 5
def å α β:=aU T cf α l β
def æ:=16≤q
def ç α β:=α β (ai+1) S e
def è:=v≠1
def é:=k≠1
def ê α:=de b X y α
def ë:=jv b n
def ì α:=(α).bP _
def í:=fun P b=>b
def î:=ĉ ao
def ï α β γ:=by rw[oT i (by show α) β i (by show γ)]
def ð α β γ:=w_ α β=c (.D γ)
def ñ α β:=f0 T α β
def ò α β:=de k.aK X α β
def ó:=fE ck
def ô α:=fR a α
def õ α β γ:=.aT α (.aT β γ)
def ö:=by rintro n ba e
def ø α:=by simp only[N.c3,kR]at α
def ù:=fj ao [] a'
def ú α β γ δ:=by rw[mW α,mW β,mW γ,mW δ]
def û:=aaY al b n
def ü α:=@gw.adT _ q fun f=>¬α
def ý α β γ:=gw.adP fun h=>gw.adU (n:=fun f:α=>¬β) ⟨γ,h⟩ b
def þ:=g|||bZ==bZ
def aWs:=j_ z' al W d W.z
def ÿ:=(_,_)::_
def Ā α:=Cu a α nw nw _
def ď:=bn→Prop
def Đ:=by simp at b
def đ α:=by injections α h
def Ē:=by kernel_rfl
def ē:=.m aq
def Ĕ α:=c (n5 α)
def ĕ:=.D 0
def Ė:=.A q
def ė:=p Aw
def Ę:=nc aP
def ę:=ni BG
def Ě:=rQ hh
def ě α:=by(with_reducible exact Aq α)
def Ĝ:=(kw a n i).G
def ĝ:=nn n
def Ğ α:=.s α _
def ğ:=a.Ap-1
def Ġ:=aj+2
def ġ:=26+a8
def Ģ α:=nv b7.ak α
def ģ:=zX 6
def Ĥ:=zY d6
def ĥ α β γ δ:=by refine BF α fun β γ δ=>?_
def Ħ:=cP I L
def ħ:=cb I
def aWt α:=hj.fI α _
def Ĩ α β:=.be α β
def ĩ α β γ:=α (k:={s1 with aK:=β,ce:=γ})
def Ī:=w4 h'.bg
def ī:=oV "host" _
def Ĭ:=oV "rules" _
def ĭ:=eS i
def Į:=z0 (n+3)
def į:=sq o
def İ:=xU bk
def ı:=xU bt
def Ĳ:=dI a M []
def ĳ α:=uF α _
def Ĵ α:=on eq ph α
def ĵ α:=tA u.mN α
def Ķ α:=lO k α
def ķ α β:=by unfold α;rw[β]
def ĸ:=su 2
def Ĺ:=0≤q
def ĺ:=AL a [] o1
def Ļ:=O++ks
def ļ α:=rR aL.h_ .α
def Ľ:=yT aj
def ľ:=aB.lx g t
def Ŀ α:=aF.eX α _ e
def ŀ α:=(r.fq).2 α
def Ł:=g+200
def ł:=by rintro e ag
def Ń:=.gq h
def ń α:=nX l 0 α
def Ņ:=.hw .C
def ņ:=by cases f
def Ň:=aWw 16
def ň α β:=α E h p β
def ŉ α:=α+g+200
def Ŋ:=g6 X.bN g
def ŋ:=k≠v
def Ō α:=by rw[m2 (Ŝ α av)]
def ō:=("twin",.B)
def Ŏ α:=by rw[m6 (sb d3 α _ _ k)]
def ŏ:=oV 5 21
def Ő:=oV "defaults" 6
def ő:=oV "notes" 18
def Œ:=by rw[nY b b]
def œ α:=yS→∃di,α
def Ŕ α:=b.az fun I b=>b.az fun L b=>b.az fun Z b=>α
def ŕ α:=α B B aE nQ
def Ŗ:=!(lX al d j)
def ŗ:=aPO 12 3 BY
def š:=(aG).1
def Ţ:=(j.h).2
def ţ α:=show α from e
def Ť:=CL ..
def ť α:=ru α ..
def Ŧ:=by kernel_rfl!
def ŧ α β γ δ:=by simp[α,β,γ,δ]
def Ũ α β γ δ:=by induction α using ap.ae with|B=>show β|c γ=>show δ
def ũ:=.m j
def Ū:=.m 10
def ū:=p aax
def Ŭ:=oU V
def ŭ:=ih b
def Ů α β:=α β (by omega)
def ů:=aZ l3
def Ű:=r.hV _
def ű α β γ:=by rw[α,β,γ];rfl
def Ų α:=(r.i7).1 α
def ų:=aP::i
def Ŵ:=p' Y
def ŵ α:=c (α,w)
def Ŷ:=oV "assumed" _
def ŷ:=vG "at"
def Ÿ α:=l.b6 q α
def Ź:=w6 z2
def ź:=(N.fY).1 b
def Ż α:=b.bg α=B
def ż:=i.au aR.aY
def Ž α:=by rw[α];simp
def ž α:=m7 r.abC α
def ſ α:=α ao a'
def aNG:=yO [pf vI,.m (hB (g).1),.m (hB (g).2)]
def aNH α:=by rw[w' (gL.lh jC α)]
def aNI α:=gG ao α
def aNJ α:=aU O cf α l a4
def aNK:=z6 nz
def aNL α:=(α (·.1)).fF
def aNM α:=.kM α n
def aNN:=aOc b.au
def aNO α:=l.b6 α (c j)
def aNP α:={k with ce:=α}
def aNQ α:=oG α (j∈W)
def aNR:=gb am b h' X X
def aNS:=p_ ac4 Aa
def aNT α:=hy a z' α
def aNU α:=aU T cf α l w
def aNV α:=oo s_ (c rj) α B
def aNW α:=ie ao α g
def aNX α β γ:=t5 [α,β] ai γ nm
def aNY:=qR+aq
def aNZ:=by rw[ba]at dg
def aN0 α:=fun{aW}t=>α
def aN1:=o0 h0 Aa
def aN2 α:=i.db fun n=>α
def aN3 α β:=by rw[xW,sv,o_ α β,mZ bG]
def aN4 α:=fun o' a5=>α
def aN5:=ř y cM
def aN6 α:=(b[n]).α
def aN7:=a.fQ=al.au .m
def aN8:=.bC x f g
def aN9 α β:=α∧(dE→f∧β)
def aOe:=-1073741824
def aOf:=(j.h).1
def aOg:=(R.adt).2
def aOh α:=⟨o',α⟩
def aOi:=nomatch b
def aOj α β:=by simp only[α,ap.c.fV]at β
def aOk α β:=by induction α using N.ae<;>exact β
def aOl α β γ:=my T a.G α β=c γ
def aOm:=.m d.v
def aOn:=c qV
def aOo α β:=α (aQ.bT β)
def aOp:=aZ jm
def aOq:=aZ jr
def aOr:=aZ ik
def aOs:=aZ adj
def aOt:=(z7).G
def aOu:=u.af4 _
def aOv:=l.je=Y
def aOw α:=α (by assumption)
def aOx α:=rC af.bH α
def aOy:=ap cg
def aOz α β:=aQ.bF (α β)
def aOA α:=(r.gF.mp α).1
def aOB:=ab.aj x
def aOC α:=(N.fY).1 α
def aOD:=by exact hX.az b
def aOE α:=c (α,aPQ)
def aOF:=oV "known" _
def aOG:=sp f6
def aOH α:=dm.b6 q α
def aOI:=sO "rows"
def aOJ:=ru C0
def aOK:=nc H-1
def aOL:=aeR p
def aOM:=n9 a.ak v l
def aON:=q_ f j
def aOO:=q_ f y
def aOP:=tE aT0
def aOQ:=uI (sp E)
def aOR:=vd am
def aOS:=.bu pb
def aOT:=(f,g)::l
def aOU α β:=.hq (.A α) β
def aOV α:=rR aE.bw.cm .α
def aOW:=(fy n t).au
def aOX:=ai+nm
def aOY α:=α=c (y,bJ)
def aOZ α:=α ab x d
def aO0 α β:=by rw[mY J,nV,ng];rintro α β
def aO1 α:=ad7 al α b
def aO2 α:=¬g6 cI.bN α
def aO3:=(j,aas)
def aO4 α β:=f0 T α β
def aO5 α:=b5+(α+1)
def aO6 α β:=bc T bo nB α [aM] w=cW (b4 T nT β [oO] w)
def aO7 α β γ:=dP _ n0 (.dU _ α _) _ β=c (na,[nJ,ve,nn 4],γ)
def aO8:=(aaT f).k
def aO9:=p (Bo a.G f)
def aPa α:=CU (q:=α)
def aPb α β:=by by_cases bK:α∈β
def aPc α:=∀g∈α,aPP
def aPd α:=nX w f α
def aPe α:=i' cf d l a i f α
def aWy:=b.cF rU
def aPf:={k with aK:=Q,ce:=t1}
def aPg α:=ra α f g x n i
def aPh:=by rintro y cy e f g
def aPi:=iz cL b h' X cv
def aPj α:=k3 α qR (nn 7) B
def aPk:=∀o,(hA o M).eF=F→(hA o fA).eF=F
def aPl:=by rw[zW (by rw[tD C1])]
def aPm α β:=α→du→ch→β
def aPn:=j0 b X i e1
def aPo:=jy b X i xs
def aPp:=j1 b h' X cv
def aPq α β γ:=m4 (α β ai γ e (AM 20 aG) kW)
def aPr:=c (eS (aD++[bV,W[0]' abr]))
def aPs:=Ad ([]) rb (fun g⟨n,ba,_⟩=>aWr)
def aPt α:=jI V b X α Aa
def aPu:=by rintro _ _ _ _ e ag
def aPv:=oV "names" 7
def aPw:=oV "tab" 1
def aPx:=hK p=Y
def aPy α:=b.az fun I b=>b.az fun L b=>α
def aPz:=(da dG).2
def aPA α β:=α T cf β l a.G
def aPB:=dI a [] []
def aPC:=ř j aF
def aPD α:=(i[o]).α
def aPE:=lX al k v
def aPF α β γ:=by rw[m3 α (β bQ bW γ)]
def aPG:=by intro _ _ f g
def aPH:=by obtain⟨a1,a2⟩:=f
def aPI α:=M α a i f
def aPJ α:=iq bl α eA et
def aPK α:=fb a ao α (cc+1) cj
def aPL:=(mp|||f4==f4)&&(cY|||f5==f5)
def aPM:=abS jV d_ jH aTZ jL
def aPT:=@r.jB
def aPU α β γ:=by simp only[α,β,ap.eO,γ]
def aPV:=! i.dD
def aPW:=by unfold aH.G
def aPX α:=by with_reducible exact α
def aPY:=by apply r.aig
def aPZ α β γ:=by obtain⟨α,β,e⟩:=γ
def aP0 α:=by injections a α
def aP1:=c .gh
def aP2 α β:=by simp only[α,β]
def aP3:=.D a.ad
def aP4 α β γ:=α E.K mp aE β γ=F
def aP5:=.A 14
def aP6 α:=by simp;exact α
def aP7:=nc (-1)
def aP8:=nj ag
def aP9:=(tB fB AT xa).G
def aQa:=nn eu
def aQb:=aQ.bT e
def aQc:=a7.jg=Y
def aQd α β γ:=bc T bo α β γ a.G
def aQe:=zX 200
def aQf α:=pf (nc α+2)
def aQg:=pf z2
def aQh:=ap ch
def aQi:=E.eR x
def aQj:=ob (cc+1)
def aQk:=oV "trail" _
def aQl:=sq j.ix
def aQm α β:=ed k.aK X α β
def aQn α β:=qW (α (a▸β))
def aQo:=qX []
def aQp α:=α (u.kH _)
def aQq α:=va bh.An+α
def aQr α:=U.bg α=B
def aQs α:=!(u.acv q α)
def aQt α:=c (eS α)
def aQu α β:=(aU O cf α l nh).bP fun t=>β
def aQv α β:=(aU α l nh).bP fun t=>β
def aQw:=q_ f p
def aQx α:=afg cf α
def aQy α:=t_ r.mz α
def aQz:=bv.ha a7 st
def aQA:=.bu oX
def aQB α β γ:={a with α:=β,ey:=γ}
def aQC:=ac6 b n
def aQD:=fun j b=>b
def aQE α β γ:=Ag α 1 β (γ+1)
def aQF:=a9→N
def aQG:=[oW,oF]
def aQH:=by exact Aq aJ
def aQI:=(r.i7).1 J
def aQJ α:=ox α y (y,oI)
def aQK α:=a.c2+α<20000
def aQL α β:=by refine AX α β ?_
def aQM α:=α ai (a8+1) S e
def aQN α β γ:=f1 [] .α (.m l.o) β=c γ
def aQO α β:=by show α;rw[oi,mY J,pP β]
def aQP:=by rw[pD (acz dQ)]
def aQQ:=abL a al aD
def aQR:=t' na w
def aQS:=f≤g
def aQT α:=("missing",og α)
def aQU:=c (c_.aw j)
def aQV α:=.g3 _ α
def aQW α β:=(xY nz α).ah β
def aQX α:=rk e_ α nG
def aQY α:=α (aB.eZ aN)
def aQZ α:=aU T cf α l w
def aQ0:=fun P P b=>b
def aQ1:=acS t0
def aQ2 α β γ:=.α (sO β) γ
def aQ3:=p_ adK g
def aQ4:=qa Cv f
def aQ5 α β γ:=by rw[o_ α β,mZ bG];show γ;rw[qt]
def aQ6:=k3 bV.aY gJ (nn b) B B B B B B B
def aQ7:=gY+acq
def aQ8:=sx-sd n
def aQ9 α β γ:=α T cf β γ a.G
def aRa:=gG i l
def aRb α:=qJ Aq (B=c _) α
def aRc:=yU q l (op a.ak l→op ao l)
def aRd:=f0 O cf g
def aRe:=iY d p
def aRf α β γ δ:=by rw[nf α,mZ β,mY γ];subst δ
def aRg α β:=α g p d β no
def aRh α:=ki aE fn α
def aRi α β:=by induction α using r.ae with|C=>exact eh e β|s=>rfl
def aRj α β γ:=.go α β γ .C
def aRk:=by exact BZ (Ag [] 1 0 16 1 e b)
def aRl:=wv ap.c.dB b
def aRm:=o v j ab
def aRn:=a.fH f g x
def aRo α:=aOd (α ab (Ċ b0))
def aRp α:=by rw[oA,mY d,oQ,mW α]
def aRq:=AP _ d hc ⟨o,hd⟩
def aRr α β:=α β al aD b3
def aRs:=[sc,ww,nn jS,B,B]
def aRt:=hj a z1 M O hY aD
def aRu:=⟨nw,uJ⟩
def aRv:=[px,yO [nr,.m O.z]]
def aRw:=a.b9 wo
def aRx α β:=α a aj a0 β
def aRy:=fun h ψ=>aT1 h
def aRz α:=by rw[rc (cr ta α)]
def aRA:=ś j.aj ab.aj
def aRB α:=xX (α aR.v).au
def aRC α:=[oO,pC,α,B]
def aRD α β:=by rw[nY α β,n8,m9,n8,m8]
def aRE α:=l7 a vJ (w6 (t9 cE 1)) α fe
def aRF:=(bv.un cj).Bf
def aRG:=.eT pn "put" (nA (aPR 69 sw))
def aRH α β γ δ ε:=Ch T α β γ δ ε a.G a.G
def aRI α:=α x5 cp cZ d'
def aRJ α:=lR tF (w6 uK) α
def aRK α β:=∀(q:u)(l:a9),op α l→op β l
def aRL α β:=fb α ao β cc cj
def aRM:=pX bX.Aa I (e4.Aa L)
def aRN:=fun P P P P P b=>(ni AQ e b)
def aRW:=-4294967296
def aRX α:=show α by decide
def aRY α β:=by simp only[α,β,ap.ji]
def aRZ:=B5 ..
def aR0 α β:=[a.ak.z,α,β]
def aR1:=by rewrite[b]
def aR2:=u→Prop
def aR3:=by with_reducible rw[tb]
def aR4 α β γ:=by simp only[α,β,N.c3]at γ
def aR5:=by injections h
def aR6 α β γ:=by generalize α=β at γ⊢
def aR7:=c d.aY
def aR8:=c v.aY
def aR9 α β:=Č afb α β
def aSa:=f.iF=F
def aSb:=p aj6
def aSc:=p ad0
def aSd α β γ:=by simp only[α,β];exact γ
def aSe:=rQ aad
def aSf:=aZ agI
def aSg:=(aRU).G
def aSh:=nE agO
def aSi:=f.je=Y
def aSj:=by rw[ub];rfl
def aSk:=zY ff
def aSl:=zY hh
def aSm:=oh a.xs
def aSn:=d6 I L
def aSo:=by rw[nt ((r.gA).1 b)]
def aSp:=qr ks
def aSq:=oV "road" _
def aSr:=q9 "string"
def aSs:=q9 "number"
def aSt:=oR cH
def aSu α:=uE α a9.aY
def aSv:=xU bO
def aSw:=xU cb
def aSx:=gd.bx b7
def aSy:=fJ.bx b7
def aSz α:=pQ aQ.bF α
def aSA α:=S+(x3 α)
def aSB:=pO w (qI x fs)
def aSC α:=d3 (fP b' V) aI α aW bb k
def aSD α:=Q.bg α=B
def aSE:=aq::l
def aSF:=fun cM Q t1 cX I bQ bW=>?_
def aSG:=Cr aC
def aSH:=a.dK++[g]
def aSI:=xZ mh
def aSJ:=x1 qw
def aSK:=by rw[pw Ac C']
def aSL:=by rw[pw Ai aT2]
def aSM:=ċ "C"
def aSN α:=α=c (fl,r',z'.G)
def aSO:=ŝ 900000
def aSP:=ş j.xs
def aSQ:=iT bq
def aSR α:=Ae α oy
def aSS:=W.au aR.v
def aST α β:=α a aS m_ β
def aSU α β:=ow f o α ((f,g)::β)
def aSV:=v≠10
def aSW α:=a.ak.z+α<900000
def aSX:=c (mH cC)
def aSY:=aT3 k.aK
def aSZ:=el a7 se
def aS0:=fy cw er
def aS1:=acA h fs
def aS2 α:=(a.fH m_ aRT α).G
def aS3:=b8.aaR aj b h'
def aS4 α:=by rw[nD (aB.hC.at Ab) cw dg α]
def aS5 α:=[px,c pb,α]
def aS6:=abq h y fs
def aS7 α:=[nZ,pZ,sS,α,B]
def aS8:=mC mp aL am H l k.aK X
def aS9:=du→ch→lV
def aTa:=∀q g,a7≠.bY q g
def aTb:=lL cE
def aTc:=(wt).ah Z
def aTd α:=α q d Ab
def aTe α:=m4 (Ag ua (nm+1) 100 nm α e aG)
def aTf:=by injection hs with I L Z x4
def aTg α:=by replace aJ:α:=aJ
def aTh:=CC oy
def aTi α β:=dq (fN α β)
def aTj:=(Cb ba).1
def aTk α:=dI α [] []
def aTl α β:=x2 bh α x0 gx fun β h2 d2 g5 L c7 fh=>?_
def aTm α β:=by(have α:xs.c5=i.z:=wx β)
def aTn α:=nE [og cE,qv,α,nr]
def aTo:=Bm nz nU
def aTp:=aaK is vs l
def aTq:=ag9 cI X
def aTr α:=by rw[pv AC ag dQ α f8]
def aTs α:=adM U α am (nO Y)
def aTt:=ajo x cl aD aL
def aTu:=(Q.g' (afN O ax)).eU.c5
def aTv:=rC i_ i_
def aTw α:=by refine(nM AI ?_ α)
def aTx α β:=Bm α nU β
def aTy α:=iH α y=c g
def aTz α β:=α h' cv i β
def aTA α:=(α).eJ X.bN.z
def aTB α:=ow f o qu (α o l)
def aTC:=by rw[m3 AF (Ş ajC lz)]
def aTD:=(j,eH)::mp
def aTE:=ni AQ e ag
def aTF α β:=∃d z' r',α=c (s6 d.aY,r',z'.G)∧aWs∧β
def aTG:=t _ _ _ I bQ
def aTH:=fun P P P P b=>(A9 _ _ _ e b)
def aTI:=bX.iU cJ I bQ
def aTJ α β:=vs.au c++r.alP (α-β) B
def aTK:=afh a M W al
def aTL α:=α B B B B B B aE gT
def aTM α:=[nZ,tx 25,xb,c (qP hE),α]
def aTN α:=α bV W pY d5
def aTO α:=bn→bB→bR→cn→α
def aTP α:=b.az fun I b=>b.az fun L b=>b.az fun Z b=>b.az fun x4 b=>α
def aTQ α:=bn×bB×bR×cn×dd×dR×ex×fu×α
def aTR α:=bB×bR×cn×dd×dR×ex×fu×f7×α
def aTS:=rF bn bB bR cn dd
def aTT:=aPS (pB).1 (nj pB) (oj pB) (ov pB)
def aTU α:=bn×bB×bR×cn×dd×dR×α
def aTV α:=ajd b' V M n li aaF mg mb α
def aT5:=(r.fq).2
def aT6 α:=(α:af.bH)
def aT7 α β:=by obtain⟨f,α⟩:=β
def aT8 α β:=by simp only[r.gR,α,β]
def aT9:=! d.e8.dD
def aUa α:=by with_reducible exact α b
def aUb α β:=by replace α:=(N.c3 ..).mp β
def aUc α:=by obtain⟨α,_⟩:=(r.gF).1 b
def aUd α:=Prop→α→Prop
def aUe:=by assumption
def aUf α β:=by rw[uL h (by rw[qT α]) h (by show β)]
def aUg:=bh.An+1
def aUh:=c (eS b)
def aUi α:=by(rintro α _ _ _ e _)
def aUj α:=r.amD _ α
def aUk α β γ δ ε:=by simp only[α,β,γ,δ];exact ε
def aUl:=nc a.bs
def aUm:=aQ.bF b
def aUn:=aZ agA
def aUo:=aZ ais
def aUp:=aZ ait
def aUq:=aZ ahy
def aUr:=aQ.bF e
def aUs:=k.jg=Y
def aUt:=a.ad+2
def aUu α β:=by rw[α β];rfl
def aUv α:=(α g V).2
def aUw:=og "a"
def aUx:=og "T"
def aUy α:=k.aK.bg α=c p
def aUz α:=(a9.DF α).1
def aUA:=b1 (k∈i)
def aUB:=bX.Aa I
def aUC:=a0.mi=[]
def aUD:=q9 "undefined"
def aUE:=sp acd
def aUF α:=r.hV (m4 α)
def aUG:=vs.bx b7
def aUH:=dj.bx b7
def aUI:=pF j.v
def aUJ:=pO w x6
def aUK α:=α j tG
def aUL α:=tA u.hO α
def aUM:=Ś p.au
def aUN:=aOb ah3
def aUO α:=(lB o α).eF
def aUP:=uG (ab3 aq y i)
def aUQ:=rC ea ar
def aUR:=aq<al.z
def aUS α:=tc b.bg α
def aUT:=D7 fun P P P P P=>e
def aUU α:=vg (ox α y (y,nh))
def aUV α:=gG a.ak α
def aUW α:=vN (have dG:=(fC n).1;have dN:=(da dG).1;qx dN α)
def aUX:=(da n).2
def aUY:=t6 abe a'
def aUZ α β:=α aN cJ.iM β e4.f3
def aU0 α β:=show α=β by omega
def aU1:=by rw[pw Ac DU]
def aU2:=by rw[pw Ai DT]
def aU3 α:=abn α y i
def aU4 α:=by rw[α];decide
def aU5:=z8 adH
def aU6 α:={k with aK:=α}
def aU7:=gb am k.aK h' X X
def aU8 α:=α ac=c fn
def aU9:=ajf a al aD
def aVa:=o2 nU nU oy
def aVb α:=[i.z,α,aq]
def aVc:=402*b.z
def aVd α:=el (z9 k) α
def aVe α:=α (fX ?_)
def aVf α β γ:=b4 T α β γ a.G
def aVg α:=oJ wt c7 α
def aVh α β γ δ ε ζ:=by induction α using β with|γ δ ε=>show ζ|_=>rw[sT]
def aVi α:=by rw[mX AD α fun p P P d P=>?_,mW xc]
def aVj α β:=aU α cf β l a.G
def aVk:=aWt K.aF
def aVl:=agF j x d
def aVm:=z_ ao o
def aVn:=hi z' al aD b3 bV W (o+3)
def aVo α:=∀v∈a',α
def aVp α:=α a M al aD
def aVq:=hb k v
def aVr:=ah5 cf Aa
def aVs α β γ:=rm (pE a.G α β) γ
def aVt α:=A3 (Ae nU α)
def aVu:=by rw[nH t g aj]
def aVv:=b.bg g=c cR
def aVw:=(a.dG (uG (dq (fN f6 vf))) m_).G
def aVx:=(dX.eb.au (·.iX)).k8 fM
def aVy α β γ:=α β (γ+1) 9223372036854775808 b5
def aVz:=mu b' V
def aVA:=hy.fI a _
def aVB α β:=by rw[m6 α,aRV,mW β]
def aVC α β γ δ:=by rw[mZ α,mY β];subst γ;exact δ
def aVD α:=H.dS fun t=>α
def aVE:=on ne qc Š
def aVF:=iq xd (wj aT4) eA et
def aVG:=j7 w p
def aVH:=mw o F M
def aVI α:=af.bA.jG fn α [] z1
def aVJ:=by rw[r.gR,r.lF]
def aVK:=by simp only[C8]at aV
def aVL α:=by rw[zW (by rw[m3 gf.of (α f.k)])]
def aVM:=aeW i bq
def aVN:=fun P P P P=>Ď
def aVO α:=(#[]:α).c5
def aVP:=t3 h' cv bJ
def aVQ:=b.gu n++aWy
def aVR:=if hE then rD aaU o else[]
def aVS:=∃cL:n1,a.xs=cL.au .m
def aVT:=b3[l-1]
def aVU:=[j,ab]
def aVV α:=α E.b' E.V
def aVW α:=α f.k g.k
def aVX α:=(a.dG α x).G
def aVY:=p_ ahi ac
def aVZ:={k with aK:=h2,ce:=d2}
def aV0:=t6 aag ao
def aV1:=ř ab iZ
def aV2:=pg v c6 0 0
def aV3:=pg k df 0 0
def aV4:=ś n.aj t.aj
def aV5:=č k hs
def aV6 α:=Am α (a8+1) ai S
def aV7 α:=α nN (a8+1) S e
def aV8 α:=by rw[oi,nu,mY J,pP α]
def aV9 α:=[oO,pC,α,B,B,B,B]
def aWa:=.bi (lL cE)
def aWb:=lU a k a7
def aWc α:=t5 α a8 ai nm
def aWd:=alS cE n t
def aWe:=fun o a0 b=>(Ad a0 b e)
def aWf:=eS (abb W ks)
def aWg α:=(by decide+agM:oG aiT α)
def aWh:=by rw[rl d,oA,yV]
def aWi α:=abk gD gP α x
def aWj:=(tB ao BM aP).Ah (sy ao uc)
def aWk α:=by simp only[A6,A7,A8,r.gZ]at α⊢
def aWl:=(a.b9 cw).iI ((b3++[g]).au eV)
def aWm α:=fun Q t1 cX I bQ=>α
def aWn α:=bB×bR×cn×dd×dR×ex×α
def aWo:=amI cB jV dX bD d_ dV kV mm pm an jL ac8
end
set_option backward.eqns.nonrecursive false in def A:=A
open af af.bl af.aw8 lu.me
set_option backward.match.sparseCases true
set_option maxRecDepth 100000 in
def AdN:chainsOk hk=F:=uJ
set_option genSizeOf false
set_option backward.dsimp.useDefEqAttr false
set_option tactic.hygienic false
def XQ(H h:u):ab8 H h+(h-(H+1))≤h:=(u.le_total H h).az (oE (xm (u.acs (u.alB H h) (u.aLe (u.avE H) h)) (pQ u.fp u.aGs))) (oE (xm (u.acs (u.apB H h) (u.fp (pQ u.sub_eq_zero_of_le u.ahH))) (u.kH h)))
def XX{g h:u}(b:ud h):402*h+(g+(2412-402*h))+200=ŉ 2412:=cr (·+200) ((u.aqH _ g _).ah ((cr (g+·) (u.aGs (u.aiL 402 b))).ah (u.amq g 2412)))
def X3{q:R}(b:aOe<q∧q<1073741824):q.natAbs<1073741824:=by induction q using R.ae with|gq h=>exact R.aa7.1 qK|aeQ h=>exact R.aa7.1 (R.lt_of_neg_lt_neg od)
def O_{ac l:u}(b:td (8*l+40)):ac-(8*l+40)+8*l+40=ac:=pQ (sF u.la).ah u.e2
def Yk{ac l:u}(b:td (8*l+40)):ac-8*l-40+8*l+40=ac:=pQ (cr (·+8*l+40) (u.sub_sub ac (8*l) 40)).ah O_
def Pb{l:u}(b:¬l=0):ob (l-1)=uK:=pQ R.aD3 u.ahT
def YF(H:u):(aOK-(-1)).es=H:=cr R.es (R.e2 (nc H) 1)
def KN{n o:u}(b:n<o)(aG:o≤1073741824):aOe<nc n∧nc n<1073741824:=⟨R.k0 nw (R.ab9 n),R.aa7.2 (u.k0 b aG)⟩
def YC{H:u}(b:rG H):aOe<aOK∧aOK<1073741824:=⟨R.k0 (nw:aOe<nc 0-1) (R.aLf (R.ab9 H) 1),R.mN (tA R.aLg _) (tA KN b).2⟩
def XR{q n:u}(Q:sU n)(h2:¬q<n):¬q-1<n:=u.aj4 (u.le_sub_one_of_lt (u.ar4 (u.mO.1 h2) (ahc.cq Q)))
def XS{q n:u}(Q:sU n)(h2:¬q<n):q-1+1=q:=s7 (u.hO (u.af4 n) (u.ar4 (u.mO.1 h2) (ahc.cq Q)))
def XT{q aj v:u}(b:¬v=0)(Ab:q<26):25+aj+v≠q:=ol (u.aj4 (u.acs (u.acK 25 aj) (u.ahT b)) (u.hO (u.fp d) Ab))
def O4{aj i:u}:16<w9+i:=u.k0 nw (u.eG (u.acK 26 aj) (u.acK _ i))
def O5{aj v i:u}(b:v≤i):25+aj+v<w9+i:=u.hO (u.abi b (25+aj)) (u.agc (u.agc nw aj) i)
def XU{aj:u}:16≠w9:=u.ahM (u.k0 nw (u.acK 26 aj))
def XV{aj i v:u}(b:aj<i)(bf:¬v=0):25+i+v≠w9:=u.alF (u.hO (xm (u.fp (u.atk 25 1 aj)) (u.abi b 25)) (u.aDI (u.ahT bf)))
def XW{j ab K n:u}(f:j≤ab+n)(g:ab≤K+1):j≤K+rU:=u.eG f (xm (u.adL g n) (u.fp (u.atk K 1 n)))
def O6(l:u):-1+ob (l+1)=l:=(m7 R.amq).ah (R.add_neg_cancel_right (nc l) 1)
def XY(l:u):tM≤-1+ob (l+1):=R.eG (R.ab9 l) (R.fp (wv O6 l))
def XZ(l:u):(-1+ob (l+1)).es=l:=cr R.es (O6 l)
def X0{aj h:u}(b:aj=301)(cu:3*h<680):aj+1+3*h+10<1000:=u.mN (u.agc (u.aGr (u.fp (cr (·+1) b)) cu) 10) nw
def X1{aP h:u}(b:aP=4)(cu:3*h<680):aP+3+12*h+400<9900:=u.mN (u.agc (u.aGr (u.fp (cr (·+3) b)) (u.hO (u.fp (u.avN 4 3 h)) (tA u.mul_lt_mul_of_pos_left cu))) 400) nw
def O7{f g:u}{i:R}(b:ob (f+g)≤i)(aC:i<20000):f<1048576:=u.hO (sH u.acK) (u.mN (R.aa7.1 (R.hO b aC)) (nw:20000<1048576))
def O8{f g:u}{i:R}(b:ob (f+g)≤i+1)(aC:i<900000):g+f<1000000:=u.hO (u.fp (u.amq g f)) (u.mN (R.aa7.1 (R.hO b (R.agc aC 1))) (nw:900001<1000000))
def X2{f g:u}{i:R}(b:ob (f+g)≤i+1)(aC:i<900000):g<1048576:=u.hO (u.acK g f) (u.mN (O8 b aC) nw)
def O9(f:R)(g:u):f+1+nc g=f+ob (g+1):=(R.atk f 1 g).ah (R.la f g 1)
def X4{g:R}(bf:¬g<0)(Q:¬g=0):¬g≤0:=ol (Q (R.ab6 d (R.mO.1 bf)))
def X6{f o:R}{x:u}(b:f+ob (x+1)<o):f+nc x<o:=R.hO (R.abi (aOg (u.avE x)) f) b
def X5{V:R}{v:u}(ei:V=6∨V=7∨V=-1)(b:xe v):V=nc v↔V=ob 16:=(fun t:V<16=>avt (ol (R.mO.2 (aOg b) (R.hO (R.fp d.cq) t))) (R.ahM t)) (ei.az (ol (d.cq▸(nw:nc 6<16))) (ol (d.az (ol (d.cq▸(nw:nc 7<16))) (ol (d.cq▸(nw:aP7<16))))))
def X7{k:u}(b:k=11∨xe k):é:=ol (tA eh (d▸b:1=11∨xe 1))
def X8{k:u}(b:k=11∨xe k):k≠10:=ol (tA eh (d▸b:10=11∨xe 10))
def X9{q:u}(b:æ):¬(q=4∨q=5):=nF (u.aj4 b (j.az (ol (d.cq▸(nw:4<16))) (ol (d.cq▸(nw:5<16)))))
def X_{f g x:R}{H h:u}(b:g≤f+H)(o:x≤g+h):x≤f+ob (H+h):=R.eG o (R.eG (R.adL b h) (R.fp (R.la f H h)))
def X'{f g x H h:u}(b:g≤f+4*H)(o:x≤g+4*h):x≤f+4*(H+h):=u.eG o (xm (u.adL b _) (u.fp ((u.la f (4*H) (4*h)).ah (cr (f+·) (rz (u.anj 4 H h))))))
def Ya{v aq:u}(b:xj≠v)(bf:¬v=0):v-1≠aq:=ol (b (d▸u.e2 (u.ahT bf)))
def Yb{j o cc:u}{i:R}(b:j≤pY)(h2:uQ≤i):nc j≤i+aQj:=R.eG (aOg b) (R.acs h2 (R.adt.2 (u.awB (u.af4 cc))))
def Ia{i o:R}{V:u}(b:i+nc V<o)(ei:1≤V):i+ob (V-1)+1<o:=R.hO (R.fp ((R.la i _ 1).ah (cr (fun j:u=>i+nc j) (u.e2 ei)))) b
def O'{aj o:R}{l H:u}(b:aj+nc l<o)(bK:H<l):aj+1+nc H<o:=R.hO (R.eG (R.fp (O9 aj H)) (R.abi (aOg bK) aj)) b
def Yc{f n:u}(b:0<n)(d:f=n-1):vn=nc n-1:=pQ (cr u.cast d).ah R.aD3
def Yd{f n:u}(b:0<n)(d:¬f=n-1):vn≠nc n-1:=qW (d (R.asj.1 (a.ah (wv R.aD3 b))))
def Ye{o q h:u}(b:o+0=h):¬(o≤q∧q<h):=nF (u.aj4 sz (u.k0 j.2 (u.fp b.cq)))
def Yf{i o:R}{g x:u}(b:i+ob (g+x+200)<o):i+ob Ł<o:=R.hO (R.abi (R.adt.2 (u.adL (u.acK g x) 200)) i) b
def Yg{i o:R}{g:u}(b:i+ob (ŉ 402)<o):i+500<o:=R.hO (R.abi (aOg (u.eG (nw:500≤402+0+200) (u.adL (u.abi (u.af4 g) 402) 200))) i) b
def Yh{l k:u}(b:l+k<890000):l+2000<900000:=u.k0 (u.agc (u.hO (u.acK l k) b) 2000) nw
def Yi{j ab:u}(d:j+402=ab):j+j+j+j+4*402=ab+ab+ab+ab:=d▸rz ((cr (·+(j+402)) ((cr (·+(j+402)) (u.aqG j 402 j 402)).ah (u.aqG (j+j) 804 j 402))).ah (u.aqG (j+j+j) 1206 j 402))
def Yj{g1 gW g:u}(b:g1≤gW+4*402)(o:gW+(ŉ 402+(ŉ 402)+(ŉ 402)+(ŉ 402))<890000):g1+(Ł+(g+200)+(g+200)+(g+200))<890000:=u.hO (xm (u.adL b _) (u.fp ((u.la gW _ _).ah (cr (gW+·) ((m7 u.amq).ah (Yi ((u.amq _ 402).ah (rz (u.la 402 g 200))))))))) o
def Yl{x:u}(b:¬x%3=0):x%3=1∨x%3=2:=(u.lt_or_eq_of_le (u.aps (u.aDS x (nw:3>0)))).ajN (ue (y_ (u.aps t) (u.ahT b))) id
def Ym{l o:u}(b:l<pY):uK<o∧-1≤uK:=⟨R.k0 (tA R.aLg (nc l)) (pQ aOg u.aps),R.aLf (R.ab9 l) 1⟩
def Yn{l f x:u}(b:l<4)(Q:f≤16+8*(l+1))(h2:x≤f+8):x≤60:=u.eG h2 (xm (u.adL (u.eG Q (u.abi (u.aiL 8 b) 16)) 8) nw)
def Yo:∀q:u,q≤5→q=0∨q=1∨q=2∨q=3∨q=4∨q=5:=nw
def Yp{i o:R}{V x:u}(b:V≤304)(aC:i+ob (x+304)<o):i+nc V<o:=R.hO (R.abi (aOg (u.eG b (u.alw 304 x))) i) aC
def Yq{l k V:u}(b:V≤304)(br:l+k<890000):l+4*V<900000:=u.k0 (u.add_lt_add_of_lt_of_le (u.hO (u.acK l k) br) (u.aiL 4 b)) nw
def Pa{f q h:u}(Q:f≤4+2*q)(h2:q<h)(h3:ud h):f≤14:=u.eG Q (u.abi (u.aiL 2 (u.aps (u.k0 h2 h3))) 4)
def Yr{f g q h:u}(Q:f≤4+2*q)(h2:q<h)(h3:ud h)(h4:g≤4):tM+ob (2*f+g)<60:=R.hO (R.fp (R.aac _)) (R.aa7.2 (u.hO (u.acs (u.aiL 2 (Pa Q h2 h3)) h4) nw))
def Ys{h:u}(b:ud h):tM+ob (5100+1824*h)<20000:=R.hO (R.fp (R.aac _)) (R.aa7.2 (u.hO (u.abi (u.aiL 1824 b) 5100) nw))
def Yt{l k:u}(b:l+(5100+5100+5100+5100)<890000)(h2:k≤l+1):k+(2412+(2412+0)+200+(2412+(2412+0)+200)+(2412+(2412+0)+200)+(2412+(2412+0)+200))<890000:=u.hO (u.eG (u.adL h2 _) (u.eG (u.fp (u.la l 1 20096)) (u.abi nw l))) b
def Yu(f g x aj:R):f+g-(x+aj)=f+-1*x+(g+-1*aj):=by simp only[R.avS,R.avS,R.alI,R.alI,R.sub_eq_add_neg,R.neg_add,R.la,R.la,R.aqH g]
def Yv(f g:R):-(f+g)=-1*f+-1*g:=by simp only[R.avS,R.avS,R.alI,R.alI,R.neg_add]
def Yw{aP H x:u}(b:ud H)(cK:aP+100<x):aP+1+H<x:=u.hO (xm (u.abi b (aP+1)) (u.abi (nw:7≤100) aP)) cK
def Yx(o:R)(aq:u):o-ob xj=o-aq-1:=rz (R.sub_sub o aq 1)
def Yy{h:R}(b:0<h):h-0-1+1=nc h.es:=((R.e2 (h-0) 1).ah (R.sub_zero h)).ah (rz (pQ R.awJ R.agP))
def Yz{h:R}(b:¬0<h):tM=nc h.es:=cr u.cast (rz (pQ R.aEY R.mO.1))
def Pc{h:R}(b:h≤4294967296):aRW≤nc h.es∧nc h.es≤4294967296:=⟨R.eG nw (R.ab9 _),pQ aOg R.toNat_le.2⟩
def YA{f g:R}(b:f>g):f-g-1+1=nc (f-g).es:=(R.e2 (f-g) 1).ah (rz (R.awJ (pQ R.sub_nonneg_of_le R.agP)))
def YB{f g:R}(b:¬f>g):tM=nc (f-g).es:=cr u.cast (rz (R.aEY (pQ R.aLh R.mO.1)))
def YD{aP x:u}(b:aP+100<x):aP+6+2<x:=u.hO (u.abi (nw:8≤100) aP) b
def Pd{q:R}{h:u}(bf:¬Ĺ):q+h<h:=R.k0 (R.agc (R.apI.1 bf) (nc h)) (R.fp (R.aac _))
def YE{q:R}{h:u}(b:0≤q+h):-nc h≤q:=R.le_of_sub_nonneg (R.eG b (R.fp (R.sub_neg q h).cq))
set_option genSizeOfSpec false
set_option genInjectivity false
set_option backward.dsimp.useDefEqAttr true
set_option tactic.hygienic true
set_option genCtorIdx false
inductive a6|y(q:u)|o(h:u)|f(j ab:a6)|H(h:u)(j:a6)|l(j:a6)(h:u)
noncomputable instance:asN a6:=⟨.f⟩
noncomputable instance(h:u):aF7 a6 h:=⟨.o h⟩
abbrev a6.aj(x:nq)(j:a6):u:=@a6.jB (p' u) (fun q=>x.ld q 0) (fun h=>h) (fun ψ ψ n t=>n+t) (fun h ψ n=>h*n) (fun ψ h n=>n*h) j
abbrev ar0(i:nq):nq→nq:=aPT u (p' (nq→nq)) (fun l=>l) (fun aP ψ ac l=>@r.ae u (p' nq) l (aP::ac []) (fun V k=>(aP+V)::ac k)) i
abbrev avD(h:u):nq:=@u.jB (p' nq) [1] (fun ψ i=>0::i) h
abbrev am9(h:u)(i:nq):nq:=aPT u (p' nq) [] (fun aP ψ l=>(h*aP)::l) i
abbrev aa5(i:nq):sf nq:=aPT u (p' (sf nq)) (p' 0) (fun aP ψ ac x=>aP*xH+ac x.g3) i
abbrev a6.h(j:a6):u×nq:=@a6.jB (p' (u×nq)) (fun q=>(0,avD q)) (fun h=>(h,[])) (fun ψ ψ n t=>(nk+oq,ar0 nh oI)) (fun h ψ n=>(h*nk,am9 h nh)) (fun ψ h n=>(h*nk,am9 h nh)) j
abbrev aDw(i:nq):nq→N:=aPT u (p' (nq→N)) (p' F) (fun aP ψ ac l=>@r.ae u (p' N) l (u.acv aP 0&&ac []) (fun V k=>u.aao aP V&&ac k)) i
def Kr:∀(i l x),aa5 (ar0 i l) x=aa5 i x+aa5 l x|[],l,x=>wv u.aac _|ų,[],x=>(cr (aP*x.acC 0+·) (Kr i [] x.g3)).ah e|ų,V::l,x=>by show(aP+V)*xH+aa5 (ar0 i l) x.g3=aP*xH+aa5 i x.g3+(V*xH+aa5 l x.g3);rw[Kr i l x.g3,u.atj,mW (ni u.aqG)]
def Ku:∀(h)(x),aa5 (avD h) x=x.ld h 0|0,[]=>e|0,f::_=>(u.alI f)|nB,[]=>pX u.aac _ ((Ku h []).ah e)|nB,f::x=>by show 0*f+aa5 (avD h) x=x.ld h 0;rw[u.aw6,u.aac,mW Ku h x]
def Kt(h):∀(i x),aa5 (am9 h i) x=h*aa5 i x|[],_=>e|ų,x=>by show h*aP*xH+aa5 (am9 h i) x.g3=h*(aP*xH+aa5 i x.g3);rw[Kt h i,u.anj,u.avN]
def a6.H'(x)(j:a6):xt=aOf+aa5 Ţ x:=by induction j with|y q=>exact(Ku q x).cq.ah (wv u.aac _)|o h=>rfl|f j ab Q h2=>show xt+aOB=aOf+ab.h.1+aa5 (ar0 Ţ ab.h.2) x;rw[Q,h2,Kr,mW (ni u.aqG)]|H h j b=>show h*xt=h*aOf+aa5 (am9 h Ţ) x;rw[b,Kt,u.anj]|l j h b=>show xt*h=h*aOf+aa5 (am9 h Ţ) x;rw[b,Kt,u.mul_comm,u.anj]
def Ks:∀(i l x),aDw i l=F→aa5 i x≤aa5 l x|[],_,_,_=>aOu|ų,[],x,b=>by(obtain⟨Q,h2⟩:=ź);show aP*xH+aa5 i x.g3≤0;rw[u.aox Q,u.aw6,u.aac,mW Ks i [] x.g3 h2]|ų,V::l,x,b=>by obtain⟨Q,h2⟩:=ź;exact u.acs (u.mul_le_mul_right _ (u.afQ Q)) (Ks i l x.g3 h2)
abbrev a6.le(j ab:a6):N:=u.aao aOf ab.h.1&&aDw Ţ ab.h.2
def AJ(x)(j ab:a6)(b:j.le ab=F):aRA:=by obtain⟨Q,h2⟩:=ź;rw[j.H',ab.H',mW u.acs (u.afQ Q) (nM Ks x h2)]
def Ag(x)(n t j ab:a6)(b:(n+ab).le (t+j)=F)(a:aRA):aV4:=u.aJ4 (u.eG (show n.aj x+aOB≤t.aj x+xt from AJ x _ _ b) (u.abi a _))
def Am(x)(n t j ab g4 lS:a6)(b:(n+(ab+lS)).le (t+(j+g4))=F)(a:aRA)(z':ś g4.aj lS.aj):aV4:=Ag x n t (j+g4) (ab+lS) b (u.acs a z')
def Bu(x)(n t j ab g4 lS k v:a6)(b:(n+(ab+lS+v)).le (t+(j+g4+k))=F)(a:aRA)(z':ś g4.aj lS.aj)(bz:ś k.aj v.aj):aV4:=Ag x n t (j+g4+k) (ab+lS+v) b (u.acs (u.acs a z') bz)
def Ot(x)(n t j ab g4 lS k v s' iu:a6)(b:(n+(ab+lS+(v+iu))).le (t+(j+g4+(k+s')))=F)(a:aRA)(z':ś g4.aj lS.aj)(bz:ś k.aj v.aj)(e3:ś s'.aj iu.aj):aV4:=Ag x n t (j+g4+(k+s')) (ab+lS+(v+iu)) b (u.acs (u.acs a z') (u.acs bz e3))
abbrev a6.eq(j ab:a6):N:=j.le ab&&ab.le j
def BI(x)(j ab:a6)(b:j.eq ab=F):xt=aOB:=y_ (AJ x j ab (ź).1) (AJ x ab j (ź).2)
def Br(x)(n t j ab:a6)(b:(n+ab).eq (t+j)=F)(a:xt=aOB):n.aj x=t.aj x:=u.add_right_cancel ((sr (n.aj x+aOB) (t.aj x+xt) (BI x _ _ b)).ah (cr (t.aj x+·) a))
def OC(x)(n t j ab g4 lS:a6)(b:(n+(ab+lS)).eq (t+(j+g4))=F)(a:xt=aOB)(z':g4.aj x=lS.aj x):n.aj x=t.aj x:=Br x n t (j+g4) (ab+lS) b (show xt+g4.aj x=aOB+lS.aj x by rw[a,z'])
def AM(h){f g:u}(b:aQS):h*f≤h*g:=u.aiL h b
def Az{f g:u}(b:f=g):aQS:=u.fp b
def AN{f g:u}(b:f=g):g≤f:=u.fp b.cq
abbrev S:a6:=.y 0
abbrev ai:a6:=.y 1
abbrev a8:a6:=.y 2
abbrev eK:a6:=.y 3
abbrev ahk:a6:=.y 4
abbrev amo:a6:=.y 5
inductive iW|y(q:u)|o(h:u)|f(j ab:iW)|k(j ab:iW)|H(h:u)(j:iW)|K(j:iW)
noncomputable instance:asN iW:=⟨.f⟩
noncomputable instance:axq iW:=⟨.k⟩
noncomputable instance:aMv iW:=⟨.K⟩
noncomputable instance(h:u):aF7 iW h:=⟨.o h⟩
abbrev iW.aj(x:n1)(j:iW):R:=@iW.jB (p' R) (fun q=>x.ld q 0) (fun h=>Ń) (fun ψ ψ n t=>n+t) (fun ψ ψ n t=>n-t) (fun h ψ n=>Ń*n) (fun ψ n=>-n) j
abbrev afJ(h:R)(i:n1):n1→n1:=aPT R (p' (n1→n1)) (fun l=>aPT R (p' n1) [] (fun V ψ k=>(h*V)::k) l) (fun aP i ac l=>@r.ae R (p' n1) l ų (fun V k=>(aP+h*V)::ac k)) i
abbrev arR(h:u):n1:=@u.jB (p' n1) [1] (fun ψ i=>0::i) h
abbrev lg(i:n1):n1→R:=aPT R (p' (n1→R)) (p' 0) (fun aP ψ ac x=>aP*xH+ac x.g3) i
abbrev iW.h(j:iW):R×n1:=@iW.jB (p' (R×n1)) (fun q=>(0,arR q)) (fun h=>(Ń,[])) (fun ψ ψ n t=>(nk+oq,afJ 1 nh oI)) (fun ψ ψ n t=>(nk+-1*oq,afJ (-1) nh oI)) (fun h ψ n=>(Ń*nk,afJ Ń [] nh)) (fun ψ n=>(-1*nk,afJ (-1) [] nh)) j
def HP(h):∀(l x),lg (afJ h [] l) x=h*lg l x|[],x=>wv R.mul_zero h|V::l,x=>by show h*V*xH+lg (afJ h [] l) x.g3=h*(V*xH+lg l x.g3);simp only[HP h l,R.anj,R.avN]
def J7(h):∀(i l x),lg (afJ h i l) x=lg i x+h*lg l x|[],l,x=>(HP h l x).ah (wv R.aac _)|ų,[],x=>by show lg ų x=lg ų x+h*0;simp only[R.mul_zero,R.aqI]|ų,V::l,x=>by show(aP+h*V)*xH+lg (afJ h i l) x.g3=aP*xH+lg i x.g3+h*(V*xH+lg l x.g3);simp only[J7 h i l x.g3,R.atj,R.anj,R.avN];generalize aP*xH=f;generalize h*(V*xH)=g;generalize lg i x.g3=aj;generalize h*lg l x.g3=d;simp only[R.la,R.la,R.aqH g aj d]
def J8:∀(h)(x),lg (arR h) x=x.ld h 0|0,[]=>e|0,f::_=>pX R.aqI _ (R.alI f)|nB,[]=>by show 0*0+lg (arR h) []=0;rw[J8 h []];rfl|nB,f::x=>by show 0*f+lg (arR h) x=x.ld h 0;simp only[R.aw6,R.aac];exact J8 h x
def iW.H'(x)(j:iW):xt=aOf+lg Ţ x:=by induction j with|y q=>exact(J8 q x).cq.ah (wv R.aac _)|o h=>exact wv R.aqI _|f j ab Q h2=>show xt+aOB=aOf+ab.h.1+lg (afJ 1 Ţ ab.h.2) x;simp only[Q,h2,J7,R.alI,R.la,R.la,R.aqH (lg Ţ x)]|k j ab Q h2=>show xt-aOB=aOf+-1*ab.h.1+lg (afJ (-1) Ţ ab.h.2) x;simp only[Q,h2,J7];exact Yu ..|H h j b=>show Ń*xt=Ń*aOf+lg (afJ Ń [] Ţ) x;simp only[b,HP,R.anj]|K j b=>show-xt=-1*aOf+lg (afJ (-1) [] Ţ) x;simp only[b,HP];exact Yv ..
abbrev aDi(q:R):N:=@R.jB (p' N) (fun h=>u.acv h 0) Ŵ q
abbrev aDh(q:R):N:=@R.jB (p' N) (p' F) Ŵ q
abbrev aDg(i:n1):N:=aPT R (p' N) F (fun aP ψ ac=>aDi aP&&ac) i
def Va:∀{q},aDi q=F→q=0|Ń,b=>cr R.gq (u.aox b)
def U':∀{q},aDh q=F→Ĺ|Ń,_=>R.ab9 h
def NP:∀(i x),aDg i=F→lg i x=0|[],_,_=>e|ų,x,b=>by obtain⟨Q,h2⟩:=ź;show aP*xH+lg i x.g3=0;simp only[Va Q,NP i x.g3 h2,R.aw6];rfl
abbrev iW.ok(j ab:iW):N:=aDh (iW.k ab j).h.1&&aDg (iW.k ab j).h.2
def D1(x)(j ab:iW)(b:j.ok ab=F):aRA:=by obtain⟨Q,h2⟩:=ź;refine R.sub_nonneg.1 (show 0≤(iW.k ab j).aj x from ?_);simp only[iW.H',NP _ x h2,R.aqI];exact U' Q
def A4(x)(n t j ab:iW)(b:(n+ab).ok (t+j)=F)(a:aRA):aV4:=R.aJ4 (R.eG (show n.aj x+aOB≤t.aj x+xt from D1 x _ _ b) (R.abi a _))
def A5(x)(n t j ab g4 lS:iW)(b:(n+(ab+lS)).ok (t+(j+g4))=F)(a:aRA)(z':ś g4.aj lS.aj):aV4:=A4 x n t (j+g4) (ab+lS) b (R.acs a z')
def E0(x)(n t j ab g4 lS k v:iW)(b:(n+(ab+lS+v)).ok (t+(j+g4+k))=F)(a:aRA)(z':ś g4.aj lS.aj)(bz:ś k.aj v.aj):aV4:=A4 x n t (j+g4+k) (ab+lS+v) b (R.acs (R.acs a z') bz)
def Vh(h){f g}(b:aQS):R.gq h*f≤R.gq h*g:=R.mul_le_mul_of_nonneg_left b (R.ab9 h)
def B4{n:Prop}(b:xo≤0):n:=tA eh b
def B1(h:u):tM≤nc h:=R.ab9 h
def Bb{f g:u}(b:aQS):vn≤nc g:=aOg b
def BZ{n:Prop}(b:1≤0):n:=tA eh b
abbrev b5:iW:=.y 0
abbrev d4:iW:=.y 1
abbrev gY:iW:=.y 2
abbrev acq:iW:=.y 3
abbrev aqD:iW:=.y 4
set_option backward.dsimp.useDefEqAttr false
set_option backward.match.sparseCases false
set_option genCtorIdx true
inductive c_ where|aw(i:nC)|bE(i:ys)|bM(i:rC R ar)|bS(eY:u)(fs:aUQ)deriving axh
abbrev c_.t(f g:c_):N:=@c_.ae (p' N) f (nF (@c_.ae (p' N) g (x8 (b1 (j=ab))) Ŵ Ŵ (fun ψ ψ=>Y))) (nF (@c_.ae (p' N) g Ŵ (x8 (b1 (j=ab))) Ŵ (fun ψ ψ=>Y))) (nF (@c_.ae (p' N) g Ŵ Ŵ (x8 (b1 (j=ab))) (fun ψ ψ=>Y))) (fun x j=>@c_.ae (p' N) g Ŵ Ŵ Ŵ (fun aj ab=>b1 (x=aj)&&b1 (j=ab)))
def c_.K1(f):c_.t f f=F:=@c_.ae (fun f=>c_.t f f=F) f (p' (hZ e)) (p' (hZ e)) (p' (hZ e)) (fun ψ ψ=>rW N.fY.2 (hZ e) (hZ e))
def c_.KZ(f g)(b:c_.t f g=F):f=g:=by induction f using c_.ae with|aw j=>(induction g using c_.ae with|aw ab=>exact uU (cD b)|_=>rw[sT])|bE j=>(induction g using c_.ae with|bE ab=>exact uU (cD b)|_=>rw[sT])|bM j=>(induction g using c_.ae with|bM ab=>exact uU (cD b)|_=>rw[sT])|bS x j=>rw[aVh g c_.ae bS aj ab (by have a:=ź;exact congr (uU (cD a.1)) (cD a.2))]
def c_.K0{f g}(b:sH c_.t=Y)(d:f=g):akt:=by rw[oQ,mW N.cs (b.cq.ah (c_.K1 f))]
noncomputable instance:aqq c_:=fun f g=>@N.ae (fun y=>sH c_.t=y→ah1 (f=g)) (sH c_.t) (oE (pQ avz c_.K0)) (oE (alt (c_.KZ f g b))) e
noncomputable abbrev ch:=r c_
mutual
abbrev ar.i6:wF u ar|_,xk=>F|_,uW=>F|nB,o9=>ar.kP h i|nB,q2=>ar.kP h i|_,_=>Y
abbrev ar.kP:wF u nC|_,[]=>F|h,qi=>ar.i6 h j&&ar.kP h xs
end
def IF:∀h q,ar.i6 h n'=F:=aRy
def IG:∀h q,ar.i6 h (og q)=F:=aRy
def IH:∀h i,ar.i6 nB o9=ar.kP h i:=pS
def II:∀h i,ar.i6 nB q2=ar.kP h i:=pS
def IJ:∀h,ar.i6 h .B=Y:=fun h=>aT1 h
def IK:∀h g,ar.i6 h qz=Y:=aRy
def IL:∀h g,ar.i6 h (.D g)=Y:=aRy
def IM:∀i,ar.i6 0 o9=Y:=rp
def IN:∀i,ar.i6 0 q2=Y:=rp
def Eq:∀gv,ar.kP gv []=F:=rp
def Er:∀h j xs,ar.kP h qi=(ar.i6 h j&&ar.kP h xs):=uD
mutual
abbrev ar.im:wF u ar|_,xk=>F|_,uW=>F|nB,o9=>ar.abQ h i|_,_=>Y
abbrev ar.abQ:wF u nC|_,[]=>F|h,qi=>ar.im h j&&ar.abQ h xs
end
def LA:∀h q,ar.im h n'=F:=aRy
def LB:∀h q,ar.im h (og q)=F:=aRy
def LC:∀h i,ar.im nB o9=ar.abQ h i:=pS
def LD:∀h i,ar.im h q2=Y:=aRy
def LE:∀h,ar.im h .B=Y:=fun h=>aT1 h
def LF:∀h g,ar.im h qz=Y:=aRy
def LG:∀h g,ar.im h (.D g)=Y:=aRy
def LH:∀i,ar.im 0 o9=Y:=rp
def Es:∀gv,ar.abQ gv []=F:=rp
def Et:∀h j xs,ar.abQ h qi=(ar.im h j&&ar.abQ h xs):=uD
inductive ls where|bU|ahl|abl|bu(y:ar)
noncomputable abbrev du:=r (ap ar)
noncomputable abbrev iV:=u→nC→ch→w0
abbrev kx(o:ar):vH ys ar|[]=>B|v_=>aTB kx
def EM(o):kx o []=B:=e
def EN(o):∀f y l,kx o v_=(aTB kx):=uD
abbrev abn(o y:ar):ys→ys|[]=>[(o,y)]|aOT=>aSU v_ (abn o y l)
def FZ(o y):abn o y []=([(o,y)]):=e
def F0(o y):∀f g l,abn o y aOT=(aSU v_ (abn o y l)):=uD
abbrev aep(o:ar):ys→ys|[]=>[]|aOT=>aSU l (aep o l)
def AdO(o):aep o []=[]:=e
def EL(o)(f g)(l):aep o aOT=(aSU l (aep o l)):=e
abbrev lB(o:R):vH (rC R ar) ar|[]=>B|v_=>aTB lB
def E4(o):lB o []=B:=e
def E5(o):∀f y l,lB o v_=(aTB lB):=uD
abbrev ab3(o:R)(y:ar):rC R ar→rC R ar|[]=>[(o,y)]|aOT=>aSU v_ (ab3 o y l)
def Kg(o)(y):ab3 o y []=([(o,y)]):=e
def Kh(o)(y):∀f g l,ab3 o y aOT=(aSU v_ (ab3 o y l)):=uD
abbrev l4:ar→N|nE _=>F|_=>Y
abbrev acA(h:ea):vH aUQ ar|[]=>B|v_=>ow f h qu (acA h l)
def JX(h):acA h []=B:=e
def JY(h):∀f y l,acA h v_=(ow f h qu (acA h l)):=uD
abbrev abq(h:ea)(y:ar):aUQ→aUQ|[]=>[(h,y)]|aOT=>ow f h v_ ((f,g)::abq h y l)
def F'(h)(y):abq h y []=([(h,y)]):=e
def Ga(h)(y):∀f g l,abq h y aOT=(ow f h v_ ((f,g)::abq h y l)):=uD
abbrev jA:u:=6
abbrev ja:u:=6
abbrev iH(w:ch):vH ar N|.B=>c Y|qz=>c g|n'=>c (q !=0)|uW=>B|o9=>c aPV|q2=>c aPV|n3=>aNV (c aPV)
abbrev lN(w:ch):ar→ap (r ar)|o9=>c i|q2=>c i|n3=>(aNV (c i))|_=>B
abbrev j7(w:ch):ar→ap (r ar)|q2=>c i|n3=>(aNV (c i))|_=>B
abbrev ab2(h:u)(q:R):ap u:=if Ĺ then(nK (q<h) (c q.es))else(nK (0≤q+h) (c (q+h).es))
abbrev eC(w:ch)(p o:ar):pl:=match p,o with|o9,n'=>(ab2 i.z q).bP fun aq=>Ã i|q2,n'=>(ab2 i.z q).bP fun aq=>Ã i|ur,n'=>nK (k.z≤1000) ((ab2 k.z q).bP fun aq=>ox (Ã k.e0) x (.bi (ea.awk x)))|rY,o=>(match w[f]? with|c rj=>(oo o n' ((ab2 i.z q).bP fun aq=>Ã i) B)|c x6=>nK (l4 o&&o.im jA) (kx o i)|c uH=>(oo o n' (lB q i) B)|_=>B)|_,_=>B
abbrev g2(q:R):N:=aOe<q&&q<1073741824
abbrev ay8(f g:R):ap R:=match f,g with|.gq H,Ń=>c (.gq (H|||h))|_,_=>B
abbrev ay7(f g:R):ap R:=match f,g with|.gq H,Ń=>c (.gq (H&&&h))|_,_=>B
abbrev jp{cg:Type}(y:ar)(o:Û R):aOy:=oo y n' (o q) B
abbrev aam{cg:Type}(y:ar)(o:Û u):aOy:=oo y n3 (o q) B
abbrev acr{cg:Type}(y:ar)(o:Û nC):aOy:=oo y o9 (o i) B
abbrev abO{cg:Type}(y:ar)(o:Û nC):aOy:=oo y q2 (o i) B
abbrev agz{cg:Type}(w:ch)(q:u)(o:u→aUQ→aOy):aOy:=oo s_ (c (qI x fs)) (o x fs) B
abbrev kC{cg:Type}(w:ch)(q:u)(o:Û nC):aOy:=aNV (o i)
abbrev aat{cg:Type}(w:ch)(q:u)(o:Û ys):aOy:=oo s_ (c x6) (o i) B
abbrev ajx{cg:Type}(w:ch)(q:u)(o:Û (rC R ar)):aOy:=oo s_ (c uH) (o i) B
abbrev alp(p:adG)(f g:R):pl:=match p with|.e_=>w6 (f+g)|.eZ=>w6 (f-g)|.alE=>nK (g2 f&&g2 g) (w6 (f*g))|.abo=>nK (g2 f&&(0<g&&g2 g)) (c (.m (f.abo g)))|.kS=>nK (0<g&&g2 g) (c (.m (f.kS g)))|.acu=>(sH ay7).au .m|.afn=>(sH ay8).au .m
abbrev amp(w:ch)(f g:ar):pl:=(j7 w f).bP fun i=>(j7 w g).bP fun H=>nK (À (i.z+H.z)) (c (.bm (i++H)))
abbrev arS:adG→N|.e_=>F|_=>Y
abbrev lY(w:ch)(p:adG)(f g:ar):pl:=match f with|th=>jp g (alp p f)|f=>nK (arS p) (amp w f g)
abbrev kz(w:ch)(f g:ar):ap N:=match f with|qP j=>(oo g (qP ab) (c (j==ab)) B)|ũ=>jp g (x8 (c (j==ab)))|og j=>(oo g (og ab) (c (j==ab)) B)|o9=>acr g fun H=>if H.dD then c i.dD else nK ((ar.ay i).i6 ja&&(ar.ay H).i6 ja) (c (b1 (i=H)))|q2=>abO g fun H=>nK H.dD (c i.dD)|n3=>(match g with|oh H=>nK H.dD (kC w q (te (c i.dD)))|.D aq=>aat w q (te (aat w aq fun H=>nK (i.dD&&H.dD) (c F)))|_=>B)|.B=>B
abbrev jT(w:ch)(j x:ar):ap N:=match x with|o9=>nK (j.i6 ja&&ar.kP ja i&&tU) (c (b1 (j∈i)))|q2=>nK (j.i6 ja&&ar.kP ja i&&tU) (c (b1 (j∈i)))|n3=>(match s_ with|c x6=>nK (l4 j&&j.im jA) (c (kx j i).eF)|c uH=>(oo j n' (c (lB q i).eF) B)|_=>B)|_=>B
abbrev f1(w:ch)(p:ai7)(f g:ar):pl:=match p with|.eq=>(kz w f g).au .aO|.ne=>(match f,g with|vS,vS=>B|_,_=>ox (kz w f g) j (n5 (! j)))|.lt=>(match f,g with|ũ,.m ab=>Ĕ (b1 (j<ab))|_,_=>B)|.le=>(match f,g with|ũ,.m ab=>Ĕ (b1 (j≤ab))|_,_=>B)|.gt=>(match f,g with|ũ,.m ab=>Ĕ (b1 (ab<j))|_,_=>B)|.ge=>(match f,g with|ũ,.m ab=>Ĕ (b1 (ab≤j))|_,_=>B)|.gH=>(jT w f g).au .aO|.lM=>(oo g n3 (oo s_ (c r1) (ox (jT w f g) j (n5 (! j))) B) (ox (jT w f g) j (n5 (! j))))|.agL=>(oo g .B (Ĕ (b1 (f=.B))) B)|.app=>oo g .B (c (n5 (! b1 (f=.B)))) B
abbrev acx:nC→ap (r N)|[]=>c []|qz::xs=>(match acx xs with|c bq=>c (g::bq)|B=>B)|_=>B
def Me:acx []=c []:=e
def Mf:∀g xs,acx (qz::xs)=(match acx xs with|c bq=>c (g::bq)|B=>B):=pS
def Mg:∀g xs,acx (y9::xs)=B:=pS
def Mh:∀g xs,acx (og g::xs)=B:=pS
def Mi:∀g xs,acx (nE g::xs)=B:=pS
def Mj:∀g xs,acx (oh g::xs)=B:=pS
def Mk:∀g xs,acx (.D g::xs)=B:=pS
def Ml:∀xs,acx (.B::xs)=B:=rp
abbrev aiE(q:R):n1→n1|[]=>[q]|aSE=>if q≤aq then q::aSE else aq::aiE q l
def Kb(q):aiE q []=([q]):=e
def Kc(q):∀aq l,aiE q aSE=(if q≤aq then q::aSE else aq::aiE q l):=pS
abbrev aeY:n1→n1|[]=>[]|q::l=>aiE q (aeY l)
def AdR:aeY []=([]):=e
def AbJ:∀q l,aeY (q::l)=(aiE q (aeY l)):=pS
abbrev aew(o:R):vH (rC R R) R|[]=>B|v_=>aTB aew
def Nx(o):aew o []=B:=e
def JT(o):∀f y l,aew o v_=(aTB aew):=uD
abbrev kn(w:ch):ar→ap (nC×ap (u×nC))|o9=>c (i,B)|q2=>c (i,B)|n3=>(aNV (c (i,c (q,i))))|_=>B
abbrev asu:ar→ap (r ar)|o9=>c i|q2=>c i|_=>B
abbrev afL(w:ch)(q:u):N:=oo s_ (c nx) F Y
abbrev am5(w:ch)(q:u):N:=oo s_ (c r1) F Y
abbrev AY(x:ap (u×nC))(w:ch):N:=match x with|B=>F|c (q,i)=>b1 yp
abbrev gz(O:mE)(w:ch)(p:ar)(h:ea):pl:=zI p (agz w q fun x fs=>nK (O.abp x h) aS1)
abbrev my(O:mE)(w:ch)(p:ar)(h:ea):ap u:=zI p (agz w q fun x fs=>(O.eT x h).bP fun ac=>nK (acA h fs).mM (c ac))
abbrev asv(w:ch)(p o:ar):pl:=jp o fun q=>(aVG).bP fun i=>nK (Ĺ&&g2 q) (c (u' i.gu q.es))
abbrev awn(w:ch)(p o:ar):pl:=jp o fun q=>(aVG).bP fun i=>nK (Ĺ&&g2 q) (c (u' i.cF q.es))
abbrev aK3(p:ar)(f g:R):pl:=acr p fun i=>nK (1≤f&&(aQS&&g≤i.z)) (c (ws (i.gu g.es).cF f.es))
abbrev aEC(w:ch)(p:ar):pl:=zI p (ajx w q (te (nK (i.z<64) (c (u' (aeY (i.au (·.1))).au .m)))))
abbrev awO(w:ch)(p:ar):pl:=(aVG).bP fun i=>nK (wq 16384) (c o9)
abbrev aJL:vH ar N|uW=>c F|xk=>c Y|_=>B
abbrev acN(w:ch)(y:ar):pl:=ox (lN w y) i (.m i.z)
abbrev axF(y:ar):pl:=abO y fun i=>ox (acx i) bq (.aO (bq.dS id))
abbrev aGu(y:ar):pl:=abO y fun i=>ox (acx i) bq (.aO (bq.db id))
abbrev afk(a4 dm:ch)(q:u)(y:ar):aQh:=nK (afL a4 q) (kC dm q (te (nK zD (c (aOH (.aw (i++[y])))))))
abbrev auh(a4 dm:ch)(q:u)(y:ar):aQh:=nK (afL a4 q) ((asu y).bP fun H=>kC dm q (te (nK (i.z+H.z<dv) (c (aOH (.aw (i++H)))))))
abbrev alL(w:ch)(q:u):w0:=kC w q (te (i.ark.au fun y=>(y,tn (oU i.azZ))))
abbrev ari(a4 dm:ch)(q:u)(o:ar):pl:=nK (am5 a4 q) (jp o (nF (ajx dm q (te (c ((lB j i).ld .B))))))
abbrev lm(w:ch)(q:u)(e7 y:ar):aQh:=match s_ with|c x6=>nK (l4 e7&&(e7.im jA&&zD)) (c (tn (.bE (aU3 e7))))|c uH=>jp e7 fun aq=>nK zD (c (tn aUP))|c rj=>jp e7 fun aq=>nK (0≤aq&&aq<i.z) (c (tn (.aw (i.b6 aq.es y))))|_=>B
abbrev aEy(O:mE)(w:ch)(q:u)(h:ea)(y:ar):aQh:=agz w q fun x fs=>nK (O.abp x h&&fs.z<200) (c (tn (.bS x aS6)))
abbrev aq3(w:ch)(q:u)(e7:ar):aQh:=aat w q (te (nK (l4 e7&&(e7.im jA&&(kx e7 i).eF)) (c (tn (.bE (aep e7 i))))))
abbrev azV(w:ch)(q:u)(e7:ar):aQh:=jp e7 fun aq=>kC w q (te (nK (i.dD&&(0≤aq&&g2 aq)) (c w)))
abbrev abk(gD:du→ch→w0)(gP:du→ch→aRR N)(eH:u)(x:ap (u×nC)):aPm nC (aRR nC)|[],_,w=>nK (AY x w) (ŵ [])|qi,l,w=>nK (AY x w) ((gP (aNO eH) w).bP fun n=>wA nk ((gD (aNO eH) nh).bP fun t=>ox (aWi eH xs l oI) V (oq::V.1,V.2)) (aWi eH xs l nh))
def FQ(gD)(gP)(eH)(x):∀gv w,aWi eH [] gv w=(nK (AY x w) (ŵ [])):=pS
def FR(gD)(gP)(eH)(x):∀j xs l w,aWi eH qi l w=(nK (AY x w) ((gP (aNO eH) w).bP fun n=>wA nk ((gD (aNO eH) nh).bP fun t=>ox (aWi eH xs l oI) V (oq::V.1,V.2)) (aWi eH xs l nh))):=fun ψ ψ ψ ψ=>e
mutual variable(O:mE)(cf:iV)
mutual
abbrev aU:aPm dz w0|.B,_,w=>ŵ .B|qz,_,w=>ŵ qz|n',_,w=>ŵ n'|ur,_,w=>ŵ ur|Ė,l,w=>(rS l).afO.au fun y=>(y,w)|.bL _ y,_,w=>ŵ y|nE Aa,l,w=>ox (h0 Aa l w) n (nE nk,nh)|oh Aa,l,w=>ox (h0 Aa l w) n (oh nk,nh)|.hw Aa,l,w=>ox (h0 Aa l w) n (.D (nh).z,nh++[oU nk])|.lK g,_,w=>c (.D w.z,w++[if g then sj else nS])|.be d h,l,w=>aUU (gz O nh nk h)|.aT d o,l,w=>vg (aQv o (aQJ (eC oI nk oq)))|.ady d o,l,w=>vg (aQv o (aQJ (asv oI nk oq)))|.ahW d o,l,w=>vg (aQv o (aQJ (awn oI nk oq)))|.agV d f g,l,w=>aUU (aK3 nk f g)|.rev d,l,w=>vg (ox (z3 j7) i (oh i.aba,nh))|.dM p d o,l,w=>vg (aQv o (aQJ (lY oI p nk oq)))|.ju d,l,w=>vg (jp nk fun q=>c (pf (-q),nh))|.aX p d o,l,w=>vg (aQv o (aQJ (f1 oI p nk oq)))|.eB Aa,l,w=>adb Aa l w|.or Aa,l,w=>afs Aa l w|.ir d,l,w=>vg (ox xG g (n5 (! g),nh))|aN8,l,w=>(aU x l w).bP fun n=>(xG).bP fun bZ=>wA bZ (aU f l nh) (aU g l nh)|.bp ac Aa,l,w=>(h0 Aa l w).bP fun n=>cf ac nk nh|.lJ x Aa,l,w=>((h0 Aa l w).bP fun n=>(O.ahD x).bP fun p=>match p with|B=>nK (nk).dD (c (.D (nh).z,nh++[rv x]))|c ac=>(cf ac (.D (nh).z::nk) (nh++[rv x])).bP fun t=>nK (oq=.B) (c (.D (nh).z,oI)))|.eT d h Aa,l,w=>vg ((my O nh nk h).bP fun ac=>(h0 Aa l nh).bP fun t=>cf ac (nk::oq) oI)|.c9 d,l,w=>aUU (z3 acN)|.dS d,l,w=>aUU (axF nk)|.db d,l,w=>aUU (aGu nk)|.alT d,l,w=>aUU (z3 aEC)|.af3 d,l,w=>aUU (z3 awO)|.anh f g,l,w=>(aU f l w).bP fun n=>jp nk (nF (aQv g (jp oq fun ab=>c (pf (if ab<j then ab else j),oI))))|.aa4 d,l,w=>vg (ox (aJL nk) g (qz,nh))|.akP d o,l,w=>vg (zI nk (aQv o (aQJ (ari nh oI q oq))))|.aaA o aj,l,w=>(aU o l w).bP fun n=>jp nk (nF (ox (aU aj l nh) t (((aew j O.aaA).au .m).ld oq,oI)))|.hq d j,l,w=>vg (zI nk (aQv j (ox (afk nh oI q oq) bJ (.B,bJ))))|.aft d j,l,w=>vg (zI nk (aQv j (ox (auh nh oI q oq) bJ (.B,bJ))))|.adw d,l,w=>vg (zI nk (alL nh q))|.go gD k kF gP,l,w=>(aU kF l w).bP fun n=>(z3 kn).bP fun t=>ox (abk (zG (aU gD l w)) (zG (ahq gP l w)) k oI oq l nh) V (oh V.1,V.2)|wz,_,_=>B
abbrev h0:aPm hG (aRR nC)|.C,_,w=>ŵ []|u6,l,w=>vg (ox (h0 Aa l nh) t (nk::oq,oI))
abbrev adb:aPm hG w0|.C,_,_=>B|u6,l,w=>vg (match Aa with|.C=>c n|m7 .s=>(xG).bP fun g=>wA g (adb Aa l nh) (c n))
abbrev afs:aPm hG w0|.C,_,_=>B|u6,l,w=>vg (match Aa with|.C=>c n|m7 .s=>(xG).bP fun g=>wA g (c n) (afs Aa l nh))
abbrev ahq:aPm hG (aRR N)|.C,_,w=>ŵ F|u6,l,w=>vg ((xG).bP fun g=>wA g (ahq Aa l nh) (c (Y,nh)))
end
def Uu(l)(w):o0 h0 .C=c ([],w):=e
def Us(d)(Aa)(l)(w):pU adb u6=rr (match Aa with|.C=>c n|m7 .s=>(xG).bP fun g=>wA g (adb O cf Aa l nh) (c n)):=e
def Uv(d)(Aa)(l)(w):pU afs u6=rr (match Aa with|.C=>c n|m7 .s=>(xG).bP fun g=>wA g (c n) (afs O cf Aa l nh)):=e
abbrev ath:adG→R→R→ap R|.e_,f,g=>c (f+g)|.eZ,f,g=>c (f-g)|_,_,_=>B
noncomputable abbrev lV:=ap (ls×du×ch)
abbrev aaK:nq→nC→du→ap du|[],[],l=>c l|q::is,y::vs,l=>aaK is vs (Ÿ qu)|_,_,_=>B
abbrev aGy(w:ch)(q x:u)(h:ea)(y:R):aQh:=agz w q fun c' fs=>nK (c'=x&&b1 (fs.z<200)) (c (tn (.bS c' (abq h (.m y) fs))))
abbrev aqZ(p:lV)(o:aS9):lV:=match p with|aQR=>o l w|j=>j
abbrev afw(p:lV)(o:aS9):lV:=match p with|aQR=>o l w|t' .abl w=>o l w|t' .ahl w=>aQR|t' rO w=>t' rO w|B=>B
abbrev fZ(bD:aS9)(eH:u)(x:ap (u×nC)):aPm nC lV|[],l,w=>nK (AY x w) aQR|qi,l,w=>nK (AY x w) (afw (bD (aNO eH) w) (fZ bD eH x xs))
def NF(bD)(eH)(x):∀l w,fZ bD eH x [] l w=(nK (AY x w) aQR):=pS
def NG(bD)(eH)(x):∀j xs l w,fZ bD eH x qi l w=(nK (AY x w) (afw (bD (aNO eH) w) (fZ bD eH x xs))):=fun ψ ψ ψ ψ=>e
abbrev ae8(adz:du→ch→aRR N)(bD:aS9):aPm u lV|0,_,_=>B|nB,l,w=>(adz l w).bP fun n=>wA nk (afw (bD l nh) (ae8 adz bD h)) (t' na nh)
def AdS(adz)(bD):∀gv aci,ae8 adz bD 0 gv aci=B:=pS
def Lr(adz)(bD):∀h l w,ae8 adz bD nB l w=((adz l w).bP fun n=>wA nk (afw (bD l nh) (ae8 adz bD h)) (t' na nh)):=uD
abbrev adA(d:dz)(l:du)(w:ch):aRR N:=rr (ox xG g (g,nh))
abbrev k5(f:R)(k:R):u→nC|0=>[]|nB=>th::k5 (f+k) k h
def GH(f)(k):k5 f k 0=([]):=e
def GI(f)(k):∀h,k5 f k nB=(th::k5 (f+k) k h):=rp
abbrev acc:nC→ap (r ar)|[.m h]=>nK (g2 h) (c (k5 0 1 h.es))|[th,.m g,pV]=>nK (g2 f&&(g2 g&&k==-1)) (c (k5 f (-1) (f-g).es))|_=>B
abbrev al0:u:=4096
mutual
abbrev dP:aPm md lV|.f_ d,l,w=>rr (t' na nh)|.ci q d,l,w=>rr (c (na,Ÿ (c nk),nh))|.age q d,l,w=>rr (c (na,Ÿ (c nk),nh))|.dU d h j,l,w=>(o0 aU j).bP fun n=>aQu d (zI oq (ox (aEy O oI q h nk) bJ (na,l,bJ)))|.jl d o j,l,w=>(o0 aU j).bP fun n=>aQu d (zI oq ((aU O cf o l oI).bP fun V=>ox (lm V.2 q V.1 nk) bJ (na,l,bJ)))|.acg is d,l,w=>rr (acr nk fun i=>ox (aaK is i l) bW (na,bW,nh))|sF .ats,_,_=>B|.agg d h p j,l,w=>rr (zI nk (agz nh q fun x fs=>nK (O.abp x h) ((aS1).bP fun f=>jp f fun f=>aQu j (jp oq fun g=>(ath p f g).bP fun y=>ox (aGy oI q x h y) bJ (na,l,bJ)))))|.agn d o,l,w=>rr (zI nk (aQu o (ox (aq3 oI q oq) bJ (na,l,bJ))))|.amB d o,l,w=>rr (zI nk (aQu o (ox (azV oI q oq) bJ (na,l,bJ))))|aN8,l,w=>(o0 aU x).bP fun n=>(xG).bP fun bZ=>wA bZ (b4 f l nh) (b4 g l nh)|.ag2 x g,l,w=>ae8 (adA O cf x) (zG (b4 g l w)) al0 l w|.jd q d g,l,w=>rr ((z3 kn).bP fun t=>fZ (zG (b4 g l w)) q oI oq l nh)|.mn q Aa g,l,w=>(aN1).bP fun n=>(acc nk).bP fun i=>fZ (zG (b4 g l w)) q B i l nh|s6 d,l,w=>rr (t' (s6 nk) nh)|.abl,l,w=>t' .abl w|.alK,l,w=>aQR|wz,_,_=>B
abbrev b4:aPm cx lV|.C,l,w=>aQR|.s k g,l,w=>aqZ (dP k l w) fun bW a4=>b4 g bW a4
end
end
mutual
abbrev ar.eJ(h:u):ar→N|n3=>b1 (q<h)|o9=>ar.abd h i|q2=>ar.abd h i|_=>F
abbrev ar.abd(h:u):nC→N|[]=>F|qi=>ar.eJ h j&&ar.abd h xs
end
def Fx:∀h q,ar.eJ h n'=F:=pS
def Fy:∀h q,ar.eJ h (og q)=F:=pS
def Fz:∀h i,ar.eJ h o9=ar.abd h i:=pS
def FA:∀h i,ar.eJ h q2=ar.abd h i:=pS
def FB:∀h,ar.eJ h .B=F:=rp
def FC:∀h g,ar.eJ h qz=F:=pS
def FD:∀h g,ar.eJ h (.D g)=b1 (g<h):=pS
def Eu(h):ar.abd h []=F:=e
def Ev(h):∀j xs,ar.abd h qi=(ar.eJ h j&&ar.abd h xs):=pS
abbrev c_.eJ(h:u):c_→N|rj=>ar.abd h i|x6=>aN2 ((nk).eJ h&&(nh).eJ h)|uH=>aN2 ((nh).eJ h)|.bS _ fs=>fs.db fun n=>(nh).eJ h
abbrev adu(h:u):wF ch ch|[],_=>F|tq,[]=>Y|f::w,g::a4=>(b1 (f=g)||g.eJ h)&&adu h w a4
def Gz(h):∀gv,adu h [] gv=F:=rp
def GA(h):∀gv aci,adu h (gv::aci) []=Y:=pS
def GB(h):∀f w g a4,adu h (f::w) (g::a4)=((b1 (f=g)||g.eJ h)&&adu h w a4):=fun ψ ψ ψ ψ=>e
abbrev aht(fl:ls):ar:=oo fl rO y .B
abbrev cW(p:lV):w0:=p.au fun V=>(aht V.1,nW V)
abbrev afv(h:u)(w:ch)(p:lV):w0:=p.bP fun V=>nK (adu h w (nW V)&&(aht V.1).eJ h) (c (aht V.1,(nW V).gu h))
abbrev aiV(O:mE)(cf:iV)(ac:dk)(vs:nC)(w:ch):w0:=nK (vs.z=ac.c8) (match ac.cF with|F=>afv w.z w (b4 O cf ac.bD (aTJ ac.dc ac.c8) w)|Y=>cW (b4 O cf ac.bD (aTJ ac.dc ac.c8) w))
abbrev bc(O:mE)(hU:vH u dk):u→iV|0=>wb P B|nB=>fun ac vs w=>match hU ac with|c fn=>aiV O (bc O hU h) fn vs w|B=>B
def SS(O)(hU):bc O hU 0=(wb P B):=e
def ST(O)(hU):∀h,bc O hU nB=(fun ac vs w=>match hU ac with|c fn=>aiV O (bc O hU h) fn vs w|B=>B):=rp
def IR{cg}(q)(o:Û u):aam n3 o=o q:=e
def ED{cg}(q)(o:Û R):jp n' o=o q:=e
def Q2{cg}(i)(o:Û nC):abO q2 o=o i:=e
def NA(y):aht rO=y:=e
def J5{cg}{w:ch}{q:u}{i}{o:Û nC}(b:yp):kC w q o=o i:=by delta kC;rw[aR1];rfl
def NM{cg}{w:ch}{q:u}{i}{o:Û (rC R ar)}(b:á):ajx w q o=o i:=by delta ajx;rw[aR1];rfl
def Ob{w:ch}{q:u}{i}(b:á):am5 w q=F:=by delta am5;rw[aR1];rfl
def Wg{w:ch}{q:u}{i}(b:yp):afL w q=F:=by delta afL;rw[aR1];rfl
def K8{w:ch}{q:u}{i}(b:yp):lN w n3=c i:=by show(aNV (c i))=_;rw[aR1];rfl
def Ok{w:ch}{f:u}{i}{q}(b:aPd rj):pE w rY n'=pE w o9 n':=by show(match w[f]? with|c rj=>(ab2 i.z q).bP (fun aq=>Ã i)|c x6=>nK (l4 n'&&(ar.m q).im jA) (kx n' i)|c uH=>lB q i|_=>B)=_;rw[aR1];rfl
abbrev aDt{bn:Type}(q:gN bn)(W:ď):bn:=ü (W f)
def QK{bn}[q:gN bn]{W:ď}(b:W (aDt q W))(I):W I:=ý bn (W f) I
abbrev arY{bn bB:Type}(q:zM bB)(W:xP):bn×bB:=@gw.adT _ q fun f=>¬W f.1 f.2
def QQ{bn bB}[q:zM bB]{W:xP}(b:W (oN arY).1 (oN arY).2)(I)(L):W I L:=gw.adP fun h=>gw.adU (n:=fun f:bn×bB=>¬W f.1 f.2) ⟨(I,L),h⟩ b
abbrev am8{bn bB bR:Type}(q:gN (bn×bB×bR))(W:v9):bn×bB×bR:=ü (W f.1 (nj f) (nW f))
def QR{bn bB bR}[q:gN (bn×bB×bR)]{W:v9}(b:W (oN am8).1 (nj (oN am8)) (nW (oN am8)))(I)(L)(Z):zY W:=ý (bn×bB×bR) (W f.1 (nj f) (nW f)) (I,L,Z)
abbrev ajP{bn bB bR cn:Type}(q:zM (bB×bR×cn))(W:vA):bn×bB×bR×cn:=ü (Ý W f.1 f f f)
def QS{bn bB bR cn}[q:zM (bB×bR×cn)]{W:vA}(b:Ý W (oN ajP).1 (oN ajP) (oN ajP) (oN ajP))(I)(L)(Z)(x4):rQ W:=ý (bn×bB×bR×cn) (Ý W f.1 f f f) (I,L,Z,x4)
abbrev ahG{bn bB bR cn dd:Type}(q:gN (bn×bB×bR×cn×dd))(W:aTS):bn×bB×bR×cn×dd:=ü (W f.1 (nj f) (oj f) (ov f) pB)
def QT{bn bB bR cn dd}[q:gN (bn×bB×bR×cn×dd)]{W:aTS}(b:W (oN ahG).1 (nj (oN ahG)) (oj (oN ahG)) (ov (oN ahG)) (qs ahG))(I)(L)(Z)(x4)(x5):xU W:=ý (bn×bB×bR×cn×dd) (W f.1 (nj f) (oj f) (ov f) pB) (I,L,Z,x4,x5)
abbrev afP{bn bB bR cn dd dR:Type}(q:zM (bB×bR×cn×dd×dR))(W:bn→rF bB bR cn dd dR):bn×bB×bR×cn×dd×dR:=ü (W f.1 (nj f) (oj f) (ov f) (pB).1 (pB).2)
def QU{bn bB bR cn dd dR}[q:zM (bB×bR×cn×dd×dR)]{W:ą (bR→cn→dd→dR→Prop)}(b:W (oN afP).1 (nj (oN afP)) (oj (oN afP)) (ov (oN afP)) (qs afP).1 (qs afP).2)(I)(L)(Z)(x4)(x5)(cp):uC W:=ý (bn×bB×bR×cn×dd×dR) (W f.1 (nj f) (oj f) (ov f) (pB).1 (pB).2) (I,L,Z,x4,x5,cp)
abbrev ad6{bn bB bR cn dd dR ex:Type}(q:gN (aTU ex))(W:ą (rF bR cn dd dR ex)):aTU ex:=ü (aPS (pB).1 (nj pB) (nW pB))
def QV{bn bB bR cn dd dR ex}[q:gN (aTU ex)]{W:ą (rF bR cn dd dR ex)}(b:W (oN ad6).1 (nj (oN ad6)) (oj (oN ad6)) (ov (oN ad6)) (qs ad6).1 (nj (qs ad6)) (nW (qs ad6)))(I)(L)(Z)(x4)(x5)(cp)(cZ):s5 (rQ W):=ý (aTU ex) (aPS (pB).1 (nj pB) (nW pB)) (I,L,Z,x4,x5,cp,cZ)
abbrev acJ{bn bB bR cn dd dR ex fu:Type}(q:zM (aWn fu))(W:bn→bB→bR→rF cn dd dR ex fu):bn×aWn fu:=ü (Ý aPS (pB).1 pB pB pB)
def QW{bn bB bR cn dd dR ex fu}[q:zM (aWn fu)]{W:bn→bB→bR→rF cn dd dR ex fu}(b:Ý (W (oN acJ).1 (nj (oN acJ)) (oj (oN acJ)) (ov (oN acJ))) (qs acJ).1 (qs acJ) (qs acJ) (qs acJ))(I)(L)(Z)(x4)(x5)(cp)(cZ)(d'):aRI (rQ W):=ý (bn×aWn fu) (Ý aPS (pB).1 pB pB pB) (I,L,Z,x4,x5,cp,cZ,d')
abbrev abx{bn bB bR cn dd dR ex fu f7:Type}(q:gN (aTQ f7))(W:aTO (rF dd dR ex fu f7)):aTQ f7:=ü (aPS (pB).1 (nj pB) (oj pB) (ov pB) pz)
def QX{bn bB bR cn dd dR ex fu f7}[q:gN (aTQ f7)]{W:aTO (rF dd dR ex fu f7)}(b:W (oN abx).1 (nj (oN abx)) (oj (oN abx)) (ov (oN abx)) (qs abx).1 (nj (qs abx)) (oj (qs abx)) (ov (qs abx)) (um abx))(I)(L)(Z)(x4)(x5)(cp)(cZ)(d')(ez):pT (rQ W):=ý (aTQ f7) (aPS (pB).1 (nj pB) (oj pB) (ov pB) pz) (I,L,Z,x4,x5,cp,cZ,d',ez)
abbrev aaB{bn bB bR cn dd dR ex fu f7 hR:Type}(q:zM (aTR hR))(W:bn→bB→bR→cn→dd→rF dR ex fu f7 hR):bn×aTR hR:=ü (aPS (pB).1 (nj pB) (oj pB) (ov pB) (pz).1 (pz).2)
def QL{bn bB bR cn dd dR ex fu f7 hR}[q:zM (aTR hR)]{W:bn→bB→bR→cn→dd→rF dR ex fu f7 hR}(b:W (oN aaB).1 (nj (oN aaB)) (oj (oN aaB)) (ov (oN aaB)) (qs aaB).1 (nj (qs aaB)) (oj (qs aaB)) (ov (qs aaB)) (um aaB).1 (um aaB).2)(I)(L)(Z)(x4)(x5)(cp)(cZ)(d')(ez)(aaO):rQ W x5 cp cZ d' ez aaO:=ý (bn×aTR hR) (aPS (pB).1 (nj pB) (oj pB) (ov pB) (pz).1 (pz).2) (I,L,Z,x4,x5,cp,cZ,d',ez,aaO)
abbrev mv{bn bB bR cn dd dR ex fu f7 hR jo:Type}(q:gN (aTU (ex×fu×f7×hR×jo)))(W:ą (bR→cn→dd→dR→rF ex fu f7 hR jo)):aTU (ex×fu×f7×hR×jo):=ü (aTT (pz).1 (nj pz) (nW pz))
def QM{bn bB bR cn dd dR ex fu f7 hR jo}[q:gN (aTU (ex×fu×f7×hR×jo))]{W:ą (bR→cn→dd→dR→rF ex fu f7 hR jo)}(b:W (oN mv).1 (nj (oN mv)) (oj (oN mv)) (ov (oN mv)) (qs mv).1 (nj (qs mv)) (oj (qs mv)) (ov (qs mv)) (um mv).1 (nj (um mv)) (nW (um mv)))(I)(L)(Z)(x4)(x5)(cp)(cZ)(d')(ez)(aaO)(aab):aRI (rQ W) ez aaO aab:=ý (bn×bB×bR×cn×dd×dR×ex×fu×f7×hR×jo) (aTT (pz).1 (nj pz) (nW pz)) (I,L,Z,x4,x5,cp,cZ,d',ez,aaO,aab)
abbrev lD{bn bB bR cn dd dR ex fu f7 hR jo lq:Type}(q:zM (aWn (fu×f7×hR×jo×lq)))(W:bn→bB→bR→cn→dd→dR→ex→rF fu f7 hR jo lq):bn×aWn (fu×f7×hR×jo×lq):=ü (Ý aTT (pz).1 pz pz pz)
def QN{bn bB bR cn dd dR ex fu f7 hR jo lq}[q:zM (aWn (fu×f7×hR×jo×lq))]{W:bn→bB→bR→cn→dd→dR→ex→rF fu f7 hR jo lq}(b:Ý (W (oN lD).1 (nj (oN lD)) (oj (oN lD)) (ov (oN lD)) (qs lD).1 (nj (qs lD)) (oj (qs lD)) (ov (qs lD))) (um lD).1 (um lD) (um lD) (um lD))(I)(L)(Z)(x4)(x5)(cp)(cZ)(d')(ez)(aaO)(aab)(aeg):aRI (rQ W) ez aaO aab aeg:=ý (aTU (ex×fu×f7×hR×jo×lq)) (Ý aTT (pz).1 pz pz pz) (I,L,Z,x4,x5,cp,cZ,d',ez,aaO,aab,aeg)
abbrev kY{bn bB bR cn dd dR ex fu f7 hR jo lq ack:Type}(q:gN (aTQ (f7×hR×jo×lq×ack)))(W:aTO (dd→dR→ex→fu→rF f7 hR jo lq ack)):aTQ (f7×hR×jo×lq×ack):=ü (aTT (pz).1 (nj pz) (oj pz) (ov pz) (qk pz))
def QO{bn bB bR cn dd dR ex fu f7 hR jo lq ack}[q:gN (aTQ (f7×hR×jo×lq×ack))]{W:aTO (dd→dR→ex→fu→rF f7 hR jo lq ack)}(b:W (oN kY).1 (nj (oN kY)) (oj (oN kY)) (ov (oN kY)) (qs kY).1 (nj (qs kY)) (oj (qs kY)) (ov (qs kY)) (um kY).1 (nj (um kY)) (oj (um kY)) (ov (um kY)) (qk (um kY)))(I)(L)(Z)(x4)(x5)(cp)(cZ)(d')(ez)(aaO)(aab)(aeg)(ag4):aRI (rQ W) ez aaO aab aeg ag4:=ý (aTQ (f7×hR×jo×lq×ack)) (aTT (pz).1 (nj pz) (oj pz) (ov pz) (qk pz)) (I,L,Z,x4,x5,cp,cZ,d',ez,aaO,aab,aeg,ag4)
abbrev kj{bn bB bR cn dd dR ex fu f7 hR jo lq ack ai5:Type}(q:zM (aTR (hR×jo×lq×ack×ai5)))(W:bn→bB→bR→cn→dd→dR→ex→fu→f7→rF hR jo lq ack ai5):bn×aTR (hR×jo×lq×ack×ai5):=ü (aTT (pz).1 (nj pz) (oj pz) (ov pz) (qk pz).1 (qk pz).2)
def QP{bn bB bR cn dd dR ex fu f7 hR jo lq ack ai5}[q:zM (aTR (hR×jo×lq×ack×ai5))]{W:bn→bB→bR→cn→dd→dR→ex→fu→f7→rF hR jo lq ack ai5}(b:W (oN kj).1 (nj (oN kj)) (oj (oN kj)) (ov (oN kj)) (qs kj).1 (nj (qs kj)) (oj (qs kj)) (ov (qs kj)) (um kj).1 (nj (um kj)) (oj (um kj)) (ov (um kj)) (qk (um kj)).1 (qk (um kj)).2)(I)(L)(Z)(x4)(x5)(cp)(cZ)(d')(ez)(aaO)(aab)(aeg)(ag4)(ako):aRI (rQ W) ez aaO aab aeg ag4 ako:=ý (bn×aTR (hR×jo×lq×ack×ai5)) (aTT (pz).1 (nj pz) (oj pz) (ov pz) (qk pz).1 (qk pz).2) (I,L,Z,x4,x5,cp,cZ,d',ez,aaO,aab,aeg,ag4,ako)
abbrev aJX{cg:Type}(q:gN cg)(n:cg→Prop):cg:=@gw.adT cg q n
def AdP{cg}[q:gN cg]{n:cg→Prop}{E:Prop}(b:∃ab,n ab)(o:n (aJX q n)→E):E:=pQ o gw.adU
def AC{bk bt bO}{E:Prop}(b:bk∧bt∧bO)(o:bk→bt→bO→E):E:=o od rB (nW b)
def Bq{bk bt bO cb}{E:Prop}(b:bk∧bt∧bO∧cb)(o:sD bk bt bO cb):E:=Ý o od b b b
def Hz{bk bt bO cb cP}{E:Prop}(b:bk∧bt∧bO∧cb∧cP)(o:bk→sD bt bO cb cP):E:=o od rB tO vr oH
def HA{bk bt bO cb cP d6}{E:Prop}(b:bk∧bt∧bO∧cb∧cP∧d6)(o:bk→bt→sD bO cb cP d6):E:=o od rB tO vr x9 (oH).2
def Uw{bk bt bO cb cP d6 ff}{E:Prop}(b:bk∧bt∧bO∧cb∧cP∧d6∧ff)(o:bk→bt→bO→sD cb cP d6 ff):E:=o od (nj b) (oj b) (ov b) x9 (nj oH) (nW oH)
def HB{bk bt bO cb cP d6 ff hh}{E:Prop}(b:bk∧bt∧bO∧cb∧cP∧d6∧ff∧hh)(o:bk→bt→bO→cb→sD cP d6 ff hh):E:=Ý (o od (nj b) (oj b) (ov b)) x9 oH oH oH
def Al{bn:Type}{bk:ď}{E:Prop}(b:∃I,uY)(o:∀I,uY→E):E:=b.az fun I b=>o I b
def AF{bn:Type}{bk bt bO:ď}{E:Prop}(b:∃I,uY∧vY∧xv)(o:∀I,uY→vY→xv→E):E:=b.az fun I b=>o I od rB (nW b)
def Ns{bn:Type}{bk bt bO cb:ď}{E:Prop}(b:∃I,uY∧vY∧xv∧ħ)(o:∀I,sD uY vY xv ħ):E:=b.az fun I b=>o I od rB tO (Ĉ b)
def HD{bn:Type}{bk bt bO cb cP:ď}{E:Prop}(b:∃I,uY∧vY∧xv∧ħ∧cP I)(o:∀I,uY→sD vY xv ħ (cP I)):E:=b.az fun I b=>o I od rB tO vr oH
def Ux{bn:Type}{bk bt bO cb cP d6 ff:ď}{E:Prop}(b:∃I,uY∧vY∧xv∧ħ∧cP I∧d6 I∧ff I)(o:∀I,uY→vY→xv→sD ħ (cP I) (d6 I) (ff I)):E:=b.az fun I b=>o I od rB tO vr x9 (nj oH) (nW oH)
def BF{bn bB:Type}{bk:xP}{E:Prop}(b:∃I L,rM)(o:∀I L,rM→E):E:=aPy (o I L b)
def AR{bn bB:Type}{bk bt:xP}{E:Prop}(b:∃I L,rM∧sY)(o:∀I L,rM→sY→E):E:=aPy (o I L od qK)
def At{bn bB:Type}{bk bt bO:xP}{E:Prop}(b:∃I L,rM∧sY∧uX)(o:∀I L,rM→sY→uX→E):E:=aPy (o I L od rB (nW b))
def BV{bn bB:Type}{bk bt bO cb:xP}{E:Prop}(b:∃I L,rM∧sY∧uX∧xu)(o:∀I L,sD rM sY uX xu):E:=aPy (o I L od rB tO (Ĉ b))
def Dr{bn bB:Type}{bk bt bO cb cP:xP}{E:Prop}(b:∃I L,rM∧sY∧uX∧xu∧Ħ)(o:∀I L,rM→sD sY uX xu Ħ):E:=aPy (o I L od rB tO vr oH)
def Nt{bn bB:Type}{bk bt bO cb cP d6:xP}{E:Prop}(b:∃I L,rM∧sY∧uX∧xu∧Ħ∧aSn)(o:∀I L,rM→sY→sD uX xu Ħ aSn):E:=aPy (o I L od rB tO vr x9 (oH).2)
def Uy{bn bB:Type}{bk bt bO cb cP d6 ff hh:xP}{E:Prop}(b:∃I L,rM∧sY∧uX∧xu∧Ħ∧aSn∧ff I L∧hh I L)(o:∀I L,rM→sY→uX→xu→sD Ħ aSn (ff I L) (hh I L)):E:=aPy (o I L od rB tO vr x9 (nj oH) (oj oH) (Ĉ oH))
def JM{bn bB bR:Type}{bk:v9}{E:Prop}(b:xT q1)(o:∀I L Z,q1→E):E:=Ŕ (o I L Z b)
def AD{bn bB bR:Type}{bk bt:v9}{E:Prop}(b:xT (q1∧rL))(o:∀I L Z,q1→rL→E):E:=Ŕ (o I L Z od qK)
def B8{bn bB bR:Type}{bk bt bO:v9}{E:Prop}(b:xT (q1∧rL∧sX))(o:∀I L Z,q1→rL→sX→E):E:=Ŕ (o I L Z od rB (nW b))
def DX{bn bB bR:Type}{bk bt bO cb:v9}{E:Prop}(b:xT (q1∧rL∧sX∧uV))(o:∀I L Z,sD q1 rL sX uV):E:=Ŕ (o I L Z od rB tO (Ĉ b))
def BW{bn bB bR:Type}{bk bt bO cb cP:v9}{E:Prop}(b:xT (q1∧rL∧sX∧uV∧xr))(o:∀I L Z,q1→sD rL sX uV xr):E:=Ŕ (o I L Z od rB tO vr oH)
def Co{bn bB bR:Type}{bk bt bO cb cP d6:v9}{E:Prop}(b:xT (q1∧rL∧sX∧uV∧xr∧Ĥ))(o:∀I L Z,q1→rL→sD sX uV xr Ĥ):E:=Ŕ (o I L Z od rB tO vr x9 (oH).2)
def JN{bn bB bR:Type}{bk bt bO cb cP d6 ff hh:v9}{E:Prop}(b:xT (q1∧rL∧sX∧uV∧xr∧Ĥ∧aSk∧aSl))(o:∀I L Z,q1→rL→sX→uV→sD xr Ĥ aSk aSl):E:=Ŕ (o I L Z od rB tO vr x9 (nj oH) (oj oH) (Ĉ oH))
def Nu{bn bB bR:Type}{bk bt bO cb cP d6 ff hh aad:v9}{E:Prop}(b:xT (q1∧rL∧sX∧uV∧xr∧Ĥ∧aSk∧aSl∧zY aad))(o:∀I L Z,q1→rL→sX→uV→xr→sD Ĥ aSk aSl (zY aad)):E:=Ŕ (o I L Z od rB tO vr x9 (nj oH) (oj oH) (ov oH) (qk oH))
def AA{bn bB bR cn:Type}{bk bt:vA}{E:Prop}(b:wi (oL∧oY))(o:∀I L Z x4,oL→oY→E):E:=aTP (o I L Z x4 od qK)
def JO{bn bB bR cn:Type}{bk bt bO:vA}{E:Prop}(b:wi (oL∧oY∧pJ))(o:∀I L Z x4,oL→oY→pJ→E):E:=aTP (yj od rB (nW b))
def ES{bn bB bR cn:Type}{bk bt bO cb:vA}{E:Prop}(b:wi (oL∧oY∧pJ∧qY))(o:∀I L Z x4,sD oL oY pJ qY):E:=aTP (Ý yj od b b b)
def Db{bn bB bR cn:Type}{bk bt bO cb cP:vA}{E:Prop}(b:wi (oL∧oY∧pJ∧qY∧rI))(o:∀I L Z x4,oL→sD oY pJ qY rI):E:=aTP (yj od rB tO vr oH)
def Dc{bn bB bR cn:Type}{bk bt bO cb cP d6:vA}{E:Prop}(b:wi (oL∧oY∧pJ∧qY∧rI∧uR))(o:∀I L Z x4,oL→oY→sD pJ qY rI uR):E:=aTP (yj od rB tO vr x9 (oH).2)
def Bt{bn bB bR cn:Type}{bk bt bO cb cP d6 ff:vA}{E:Prop}(b:wi (oL∧oY∧pJ∧qY∧rI∧uR∧xp))(o:∀I L Z x4,oL→oY→pJ→sD qY rI uR xp):E:=aTP (yj od (nj b) (oj b) (ov b) x9 (nj oH) (nW oH))
def ET{bn bB bR cn:Type}{bk bt bO cb cP d6 ff hh:vA}{E:Prop}(b:wi (oL∧oY∧pJ∧qY∧rI∧uR∧xp∧Ě))(o:∀I L Z x4,oL→oY→pJ→qY→sD rI uR xp Ě):E:=aTP (Ý (yj od (nj b) (oj b) (ov b)) x9 oH oH oH)
def Uz{bn bB bR cn:Type}{bk bt bO cb cP d6 ff hh aad anE anF:vA}{E:Prop}(b:wi (oL∧oY∧pJ∧qY∧rI∧uR∧xp∧Ě∧aSe∧rQ anE∧rQ anF))(o:∀I L Z x4,oL→oY→pJ→qY→rI→uR→xp→sD Ě aSe (rQ anE) (rQ anF)):E:=aTP (yj od (nj b) (oj b) (ov b) (oH).1 (nj oH) (oj oH) (ov oH) (qk oH).1 (nj (qk oH)) (nW (qk oH)))
def Bz{bn bB bR cn dd:Type}{bk bt:aTS}{E:Prop}(b:∃I L Z x4 x5,İ∧ı)(o:∀I L Z x4 x5,İ→ı→E):E:=b.az fun I b=>b.az fun L b=>b.az fun Z b=>b.az fun x4 b=>b.az fun x5 b=>yj x5 od qK
def UA{bn bB bR cn dd:Type}{bk bt bO cb cP:aTS}{E:Prop}(b:∃I L Z x4 x5,İ∧ı∧aSv∧aSw∧xU cP)(o:∀I L Z x4 x5,İ→sD ı aSv aSw (xU cP)):E:=aPy (b.az fun Z b=>b.az fun x4 b=>b.az fun x5 b=>yj x5 od rB tO vr oH)
def HE{bn bB bR cn dd dR:Type}{bk bt:bn→rF bB bR cn dd dR}{E:Prop}(b:∃I L Z x4 x5 cp,uC bk∧uC bt)(o:∀I L Z x4 x5 cp,uC bk→uC bt→E):E:=aPy (b.az fun Z b=>b.az fun x4 b=>b.az fun x5 b=>b.az fun cp b=>yj x5 cp od qK)
def UB{bn bB bR cn dd dR:Type}{bk bt bO:ą (bR→cn→dd→dR→Prop)}{E:Prop}(b:∃I L Z x4 x5 cp,uC bk∧uC bt∧uC bO)(o:∀I L Z x4 x5 cp,uC bk→uC bt→uC bO→E):E:=aPy (b.az fun Z b=>b.az fun x4 b=>b.az fun x5 b=>b.az fun cp b=>yj x5 cp od rB (nW b))
def F7{bn bB bR cn dd dR ex:Type}{bk bt:ą (rF bR cn dd dR ex)}{E:Prop}(b:∃I L Z x4 x5 cp cZ,s5 oL∧s5 oY)(o:∀I L Z x4 x5 cp cZ,s5 oL→s5 oY→E):E:=Ŕ (b.az fun x4 b=>b.az fun x5 b=>b.az fun cp b=>b.az fun cZ b=>yj x5 cp cZ od qK)
def Nv{bn bB bR cn dd dR ex:Type}{bk bt bO:aTO (dd→dR→ex→Prop)}{E:Prop}(b:∃I L Z x4 x5 cp cZ,s5 oL∧s5 oY∧s5 pJ)(o:∀I L Z x4 x5 cp cZ,s5 oL→s5 oY→s5 pJ→E):E:=Ŕ (b.az fun x4 b=>b.az fun x5 b=>b.az fun cp b=>b.az fun cZ b=>yj x5 cp cZ od rB (nW b))
def UC{bn bB bR cn dd dR ex fu f7:Type}{bk bt bO cb cP:aTO (rF dd dR ex fu f7)}{E:Prop}(b:∃I L Z x4 x5 cp cZ d' ez,pT oL∧pT oY∧pT pJ∧pT qY∧pT rI)(o:∀I L Z x4 x5 cp cZ d' ez,pT oL→sD (pT oY) (pT pJ) (pT qY) (pT rI)):E:=Ŕ (b.az fun x4 b=>b.az fun x5 b=>b.az fun cp b=>b.az fun cZ b=>b.az fun d' b=>b.az fun ez b=>aRI yj ez od rB tO vr oH)
def HC{bn bB bR cn dd dR ex fu f7 hR jo lq ack ai5 aL4:Type}{bk:ą (bR→cn→dd→dR→ex→fu→f7→hR→rF jo lq ack ai5 aL4)}{E:Prop}(b:∃I L Z x4 x5 cp cZ d' ez aaO aab aeg ag4 ako aqh,aRI oL ez aaO aab aeg ag4 ako aqh)(o:∀I L Z x4 x5 cp cZ d' ez aaO aab aeg ag4 ako aqh,aRI oL ez aaO aab aeg ag4 ako aqh→E):E:=Ŕ (b.az fun x4 b=>b.az fun x5 b=>b.az fun cp b=>b.az fun cZ b=>b.az fun d' b=>b.az fun ez b=>b.az fun aaO b=>b.az fun aab b=>b.az fun aeg b=>b.az fun ag4 b=>b.az fun ako b=>b.az fun aqh b=>aRI yj ez aaO aab aeg ag4 ako aqh b)
@[elab_as_elim]theorem AaD{cg:Type}{f g}{n:cg→Prop}(b:f=g)(H:n f):n g:=b▸H
def Aq{cg:Type}{j:cg}{W:Prop}(b:B=c j):W:=aOi
def C3{cg:Type}{j:cg}{W:Prop}(b:c j=B):W:=aOi
def GR{W:Prop}(b:F=Y):W:=aOi
def BD{W:Prop}(b:Y=F):W:=aOi
def Ak{cg:Type}{j ab:cg}{W:Prop}(b:c j=c ab)(o:j=ab→W):W:=pQ o ap.c.dB
def BJ{h}{W:aR2}(b:W 0)(o:∀q,q<h→W (q+1)):∀q,q<nB→W q:=fun q=>u.ae q (nO b) (fun q Ab=>o q (u.aKe Ab))
def KA{W:aR2}:∀q,q<0→W q:=fun q Ab=>eh Ab (u.aDX q)
def C1{cg}{f:cg}{W:Prop}(o:W)(b:f=f):W:=o
def Da{aI W:Prop}(b:aI)(o:aI→W):W:=o b
set_option genSizeOfSpec true
set_option genInjectivity true
set_option backward.dsimp.useDefEqAttr true
def AE{bk bt bO}(Q:bk)(h2:bt)(h3:bO):bk∧bt∧bO:=⟨Q,h2,h3⟩
def By{bk bt bO cb}(Q:bk)(h2:bt)(h3:bO)(h4:cb):bk∧bt∧bO∧cb:=⟨Q,h2,h3,h4⟩
def JD{bk bt bO cb cP}(Q:bk)(h2:bt)(h3:bO)(h4:cb)(h5:cP):bk∧bt∧bO∧cb∧cP:=⟨Q,h2,h3,h4,h5⟩
def Nb{bk bt bO cb cP d6}(Q:bk)(h2:bt)(h3:bO)(h4:cb)(h5:cP)(h6:d6):bk∧bt∧bO∧cb∧cP∧d6:=⟨Q,h2,h3,h4,h5,h6⟩
def Ue{bk bt bO cb cP d6 ff}(Q:bk)(h2:bt)(h3:bO)(h4:cb)(h5:cP)(h6:d6)(h7:ff):bk∧bt∧bO∧cb∧cP∧d6∧ff:=⟨Q,h2,h3,h4,h5,h6,h7⟩
def JE{bk bt bO cb cP d6 ff hh}(Q:bk)(h2:bt)(h3:bO)(h4:cb)(h5:cP)(h6:d6)(h7:ff)(h8:hh):bk∧bt∧bO∧cb∧cP∧d6∧ff∧hh:=⟨Q,h2,h3,h4,h5,h6,h7,h8⟩
def Hs{bk bt bO cb cP d6 ff hh aad}(Q:bk)(h2:bt)(h3:bO)(h4:cb)(h5:cP)(h6:d6)(h7:ff)(h8:hh)(h9:aad):bk∧bt∧bO∧cb∧cP∧d6∧ff∧hh∧aad:=⟨Q,h2,h3,h4,h5,h6,h7,h8,h9⟩
def Ad{bn:Type}{bk bt:ď}(I)(Q:uY)(h2:vY):∃I,uY∧vY:=⟨I,Q,h2⟩
def AP{bn:Type}{bk bt bO:ď}(I)(Q:uY)(h2:vY)(h3:xv):∃I,uY∧vY∧xv:=⟨I,Q,h2,h3⟩
def Nc{bn:Type}{bk bt bO cb:ď}(I)(Q:uY)(h2:vY)(h3:xv)(h4:ħ):∃I,uY∧vY∧xv∧ħ:=⟨I,Q,h2,h3,h4⟩
def Ht{bn:Type}{bk bt bO cb cP:ď}(I)(Q:uY)(h2:vY)(h3:xv)(h4:ħ)(h5:cP I):∃I,uY∧vY∧xv∧ħ∧cP I:=⟨I,Q,h2,h3,h4,h5⟩
def JF{bn:Type}{bk bt bO cb cP d6 ff:ď}(I)(Q:uY)(h2:vY)(h3:xv)(h4:ħ)(h5:cP I)(h6:d6 I)(h7:ff I):∃I,uY∧vY∧xv∧ħ∧cP I∧d6 I∧ff I:=⟨I,Q,h2,h3,h4,h5,h6,h7⟩
def BN{bn bB:Type}{bk:xP}(I)(L)(Q:rM):∃I L,rM:=⟨I,L,Q⟩
def AI{bn bB:Type}{bk bt:xP}(I)(L)(Q:rM)(h2:sY):∃I L,rM∧sY:=⟨I,L,Q,h2⟩
def Au{bn bB:Type}{bk bt bO:xP}(I)(L)(Q:rM)(h2:sY)(h3:uX):∃I L,rM∧sY∧uX:=⟨I,L,Q,h2,h3⟩
def Bx{bn bB:Type}{bk bt bO cb:xP}(I)(L)(Q:rM)(h2:sY)(h3:uX)(h4:xu):∃I L,rM∧sY∧uX∧xu:=⟨I,L,Q,h2,h3,h4⟩
def BU{bn bB:Type}{bk bt bO cb cP:xP}(I)(L)(Q:rM)(h2:sY)(h3:uX)(h4:xu)(h5:Ħ):∃I L,rM∧sY∧uX∧xu∧Ħ:=⟨I,L,Q,h2,h3,h4,h5⟩
def Dp{bn bB:Type}{bk bt bO cb cP d6:xP}(I)(L)(Q:rM)(h2:sY)(h3:uX)(h4:xu)(h5:Ħ)(h6:aSn):∃I L,rM∧sY∧uX∧xu∧Ħ∧aSn:=⟨I,L,Q,h2,h3,h4,h5,h6⟩
def Hu{bn bB:Type}{bk bt bO cb cP d6 ff hh:xP}(I)(L)(Q:rM)(h2:sY)(h3:uX)(h4:xu)(h5:Ħ)(h6:aSn)(h7:ff I L)(h8:hh I L):∃I L,rM∧sY∧uX∧xu∧Ħ∧aSn∧ff I L∧hh I L:=⟨I,L,Q,h2,h3,h4,h5,h6,h7,h8⟩
def Nd{bn bB bR:Type}{bk:v9}(I)(L)(Z)(Q:q1):xT q1:=⟨I,L,Z,Q⟩
def A9{bn bB bR:Type}{bk bt:v9}(I)(L)(Z)(Q:q1)(h2:rL):xT (q1∧rL):=⟨I,L,Z,Q,h2⟩
def CA{bn bB bR:Type}{bk bt bO:v9}(I)(L)(Z)(Q:q1)(h2:rL)(h3:sX):xT (q1∧rL∧sX):=⟨I,L,Z,Q,h2,h3⟩
def CT{bn bB bR:Type}{bk bt bO cb:v9}(I)(L)(Z)(Q:q1)(h2:rL)(h3:sX)(h4:uV):xT (q1∧rL∧sX∧uV):=⟨I,L,Z,Q,h2,h3,h4⟩
def CH{bn bB bR:Type}{bk bt bO cb cP:v9}(I)(L)(Z)(Q:q1)(h2:rL)(h3:sX)(h4:uV)(h5:xr):xT (q1∧rL∧sX∧uV∧xr):=⟨I,L,Z,Q,h2,h3,h4,h5⟩
def Cn{bn bB bR:Type}{bk bt bO cb cP d6:v9}(I)(L)(Z)(Q:q1)(h2:rL)(h3:sX)(h4:uV)(h5:xr)(h6:Ĥ):xT (q1∧rL∧sX∧uV∧xr∧Ĥ):=⟨I,L,Z,Q,h2,h3,h4,h5,h6⟩
def Uf{bn bB bR:Type}{bk bt bO cb cP d6 ff hh:v9}(I)(L)(Z)(Q:q1)(h2:rL)(h3:sX)(h4:uV)(h5:xr)(h6:Ĥ)(h7:aSk)(h8:aSl):xT (q1∧rL∧sX∧uV∧xr∧Ĥ∧aSk∧aSl):=⟨I,L,Z,Q,h2,h3,h4,h5,h6,h7,h8⟩
def Ug{bn bB bR:Type}{bk bt bO cb cP d6 ff hh aad:v9}(I)(L)(Z)(Q:q1)(h2:rL)(h3:sX)(h4:uV)(h5:xr)(h6:Ĥ)(h7:aSk)(h8:aSl)(h9:zY aad):xT (q1∧rL∧sX∧uV∧xr∧Ĥ∧aSk∧aSl∧zY aad):=⟨I,L,Z,Q,h2,h3,h4,h5,h6,h7,h8,h9⟩
def Hv{bn bB bR cn:Type}{bk:vA}(I)(L)(Z)(x4)(Q:oL):wi oL:=⟨I,L,Z,x4,Q⟩
def AQ{bn bB bR cn:Type}{bk bt:vA}(I)(L)(Z)(x4)(Q:oL)(h2:oY):wi (oL∧oY):=⟨I,L,Z,x4,Q,h2⟩
def Hw{bn bB bR cn:Type}{bk bt bO:vA}(I)(L)(Z)(x4)(Q:oL)(h2:oY)(h3:pJ):wi (oL∧oY∧pJ):=⟨I,L,Z,x4,Q,h2,h3⟩
def EO{bn bB bR cn:Type}{bk bt bO cb:ą (t4 bR cn)}(I)(L)(Z)(x4)(Q:oL)(h2:oY)(h3:pJ)(h4:qY):wi (oL∧oY∧pJ∧qY):=⟨I,L,Z,x4,Q,h2,h3,h4⟩
def JG{bn bB bR cn:Type}{bk bt bO cb cP:vA}(I)(L)(Z)(x4)(Q:oL)(h2:oY)(h3:pJ)(h4:qY)(h5:rI):wi (oL∧oY∧pJ∧qY∧rI):=⟨I,L,Z,x4,Q,h2,h3,h4,h5⟩
def JH{bn bB bR cn:Type}{bk bt bO cb cP d6:vA}(I)(L)(Z)(x4)(Q:oL)(h2:oY)(h3:pJ)(h4:qY)(h5:rI)(h6:uR):wi (oL∧oY∧pJ∧qY∧rI∧uR):=⟨I,L,Z,x4,Q,h2,h3,h4,h5,h6⟩
def Cs{bn bB bR cn:Type}{bk bt bO cb cP d6 ff:vA}(I)(L)(Z)(x4)(Q:oL)(h2:oY)(h3:pJ)(h4:qY)(h5:rI)(h6:uR)(h7:xp):wi (oL∧oY∧pJ∧qY∧rI∧uR∧xp):=⟨I,L,Z,x4,Q,h2,h3,h4,h5,h6,h7⟩
def Dq{bn bB bR cn:Type}{bk bt bO cb cP d6 ff hh:vA}(I)(L)(Z)(x4)(Q:oL)(h2:oY)(h3:pJ)(h4:qY)(h5:rI)(h6:uR)(h7:xp)(h8:Ě):wi (oL∧oY∧pJ∧qY∧rI∧uR∧xp∧Ě):=⟨I,L,Z,x4,Q,h2,h3,h4,h5,h6,h7,h8⟩
def Ui{bn bB bR cn:Type}{bk bt bO cb cP d6 ff hh aad:vA}(I)(L)(Z)(x4)(Q:oL)(h2:oY)(h3:pJ)(h4:qY)(h5:rI)(h6:uR)(h7:xp)(h8:Ě)(h9:aSe):wi (oL∧oY∧pJ∧qY∧rI∧uR∧xp∧Ě∧aSe):=⟨I,L,Z,x4,Q,h2,h3,h4,h5,h6,h7,h8,h9⟩
def Uh{bn bB bR cn:Type}{bk bt bO cb cP d6 ff hh aad anE anF:vA}(I)(L)(Z)(x4)(Q:oL)(h2:oY)(h3:pJ)(h4:qY)(h5:rI)(h6:uR)(h7:xp)(h8:Ě)(h9:aSe)(kB:rQ anE)(aB3:rQ anF):wi (oL∧oY∧pJ∧qY∧rI∧uR∧xp∧Ě∧aSe∧rQ anE∧rQ anF):=⟨I,L,Z,x4,Q,h2,h3,h4,h5,h6,h7,h8,h9,kB,aB3⟩
def Bk{bn bB bR cn dd:Type}{bk bt:aTS}(I)(L)(Z)(x4)(x5)(Q:İ)(h2:ı):∃I L Z x4 x5,İ∧ı:=⟨I,L,Z,x4,x5,Q,h2⟩
def Ne{bn bB bR cn dd:Type}{bk bt bO cb:aTS}(I)(L)(Z)(x4)(x5)(Q:İ)(h2:ı)(h3:aSv)(h4:aSw):∃I L Z x4 x5,İ∧ı∧aSv∧aSw:=⟨I,L,Z,x4,x5,Q,h2,h3,h4⟩
def Uj{bn bB bR cn dd:Type}{bk bt bO cb cP:aTS}(I)(L)(Z)(x4)(x5)(Q:İ)(h2:ı)(h3:aSv)(h4:aSw)(h5:xU cP):∃I L Z x4 x5,İ∧ı∧aSv∧aSw∧xU cP:=⟨I,L,Z,x4,x5,Q,h2,h3,h4,h5⟩
def Nf{bn bB bR cn dd:Type}{bk bt bO cb cP d6 ff:aTS}(I)(L)(Z)(x4)(x5)(Q:İ)(h2:ı)(h3:aSv)(h4:aSw)(h5:xU cP)(h6:xU d6)(h7:xU ff):∃I L Z x4 x5,İ∧ı∧aSv∧aSw∧xU cP∧xU d6∧xU ff:=⟨I,L,Z,x4,x5,Q,h2,h3,h4,h5,h6,h7⟩
def Hx{bn bB bR cn dd dR:Type}{bk bt:bn→rF bB bR cn dd dR}(I)(L)(Z)(x4)(x5)(cp)(Q:uC bk)(h2:uC bt):∃I L Z x4 x5 cp,uC bk∧uC bt:=⟨I,L,Z,x4,x5,cp,Q,h2⟩
def Uk{bn bB bR cn dd dR:Type}{bk bt bO:bn→rF bB bR cn dd dR}(I)(L)(Z)(x4)(x5)(cp)(Q:uC bk)(h2:uC bt)(h3:uC bO):∃I L Z x4 x5 cp,uC bk∧uC bt∧uC bO:=⟨I,L,Z,x4,x5,cp,Q,h2,h3⟩
def Ng{bn bB bR cn dd dR ex:Type}{bk bt:ą (rF bR cn dd dR ex)}(I)(L)(Z)(x4)(x5)(cp)(cZ)(Q:s5 oL)(h2:s5 oY):∃I L Z x4 x5 cp cZ,s5 oL∧s5 oY:=⟨I,L,Z,x4,x5,cp,cZ,Q,h2⟩
def Nh{bn bB bR cn dd dR ex:Type}{bk bt bO:ą (rF bR cn dd dR ex)}(I)(L)(Z)(x4)(x5)(cp)(cZ)(Q:s5 oL)(h2:s5 oY)(h3:s5 pJ):∃I L Z x4 x5 cp cZ,s5 oL∧s5 oY∧s5 pJ:=⟨I,L,Z,x4,x5,cp,cZ,Q,h2,h3⟩
def Ul{bn bB bR cn dd dR ex fu f7:Type}{bk bt bO cb cP:aTO (rF dd dR ex fu f7)}(I)(L)(Z)(x4)(x5)(cp)(cZ)(d')(ez)(Q:pT oL)(h2:pT oY)(h3:pT pJ)(h4:pT qY)(h5:pT rI):∃I L Z x4 x5 cp cZ d' ez,pT oL∧pT oY∧pT pJ∧pT qY∧pT rI:=⟨I,L,Z,x4,x5,cp,cZ,d',ez,Q,h2,h3,h4,h5⟩
def JI{bn bB bR cn dd dR ex fu f7:Type}{bk bt bO cb cP d6 ff hh aad:aTO (rF dd dR ex fu f7)}(I)(L)(Z)(x4)(x5)(cp)(cZ)(d')(ez)(Q:pT oL)(h2:pT oY)(h3:pT pJ)(h4:pT qY)(h5:pT rI)(h6:pT uR)(h7:pT xp)(h8:pT Ě)(h9:pT aSe):∃I L Z x4 x5 cp cZ d' ez,pT oL∧pT oY∧pT pJ∧pT qY∧pT rI∧pT uR∧pT xp∧pT Ě∧pT aSe:=⟨I,L,Z,x4,x5,cp,cZ,d',ez,Q,h2,h3,h4,h5,h6,h7,h8,h9⟩
set_option genSizeOfSpec false
set_option genInjectivity false
set_option backward.dsimp.useDefEqAttr false
def Lh{gn}{x}{j}{ac}(i:r (u×ea×gn)):ant i x j=c ac→(x,j,ac)∈i:=by refine aPT (u×ea×gn) (te (ant i x j=c ac→(x,j,ac)∈i)) (oE aOi) (fun t i ih=>?_) i;show@N.ae (p' (ap gn)) (u.acv oq x&&nj t==j) (ant i x j) (c (nW t))=c ac→_;rw[pI d (u.acv oq x&&nj t==j) (by rw[nR];have a:=aOC d;simp only[←ap.c.dB b,←u.aox a.1,←acz a.2];exact uA) (by exact oE (aQV ŭ))]
set_option tactic.hygienic false
structure eW where
 bN:rC d7 d7
 fL:r d7 deriving gN
noncomputable instance:gN lT:=⟨{}⟩
noncomputable instance:gN en:=⟨{}⟩
noncomputable instance:gN kc:=⟨⟨wW 0,{strHash:=nO 0,shareClass:=nO 0,mergeTok:=id,gG:=nO 0,idOfShared:=wW 0,aHp:=nO Y,idOfImm:=nO 0}⟩⟩
noncomputable instance:gN aF2:=⟨fP (gw.choice aJB) (gw.choice aJB)⟩
abbrev eW.e_(X:eW)(n:d7×d7):eW:=⟨X.bN++[n],X.fL⟩
abbrev g6(X:rC d7 d7)(g:d7):Prop:=∃n∈X,g=nk∨g=nh
abbrev ka(X:eW)(g:d7):Prop:=¬Ŋ∧g∉X.fL
def Dz:∀{X d}{g},g6 (X++d) g↔g6 X g∨g6 d g:=by injections X d g;unfold g6;constructor;rw[mY J,sE,ng];rintro n ba b;rw[nt (r.aeP.mp ba),rd,m9,rd,m8,mW .bT (Ad n t b),mW (rt (Ad n t b))];rintro(⟨n,ba,b⟩|⟨n,ba,b⟩);rw[mW Ad n (r.alA _ ba) b,mW Ad n (r.ar8 _ ba) b]
mutual
abbrev de(b:b8)(X:eW):t4 ar ck|.B,y=>y=.B|qz,y=>y=qz|n',y=>∃v,y=u2 q|ur,y=>∃v,y=.bi (af.bH.dF k) v|o9,y=>∃f p xs h,y=si∧ka X f∧tN f∧p.eY=p3 "tuple"∧p.fS=.ia xs h∧tU∧ed b X i xs.e0|q2,y=>∃f p xs h,y=si∧ka X f∧tN f∧p.eY=p3 "list"∧p.fS=.ia xs h∧tU∧ed b X i xs.e0|n3,y=>∃n,wc∧y=nP nk
abbrev ed(b:b8)(X:eW):t4 nC vm|[],vs=>vs=[]|qi,vs=>∃y l,vs=y::l∧de b X j y∧ed b X xs l
end
abbrev hK(p:k_):N:=oo p.fS (.ia ..) F Y
structure j1(b h':b8)(X cv:eW):Prop where
 ia:∀g p,v0→hK p=F→ka X g→Ī∧ka cv g
 i3:∀(q:u)(n:d7×d7),wc→op cv.bN n
structure iz(cL:d7→Prop)(b h':b8)(X cv:eW):Prop where
 fx:∀g p,v0→¬cL g→¬Ŋ→Ī
 ix:aUS (∃o',h'.bg g=c o')
 xs:∀g p,cL g→v0→aPx∧∀o',h'.bg g=c o'→hK o'=Y
 aey:∃d,cv.bN=X.bN++d∧∀g,g6 d g→b.bg g=B
 fL:cv.fL=X.fL
def iz.fI{cL}{b}{X}(J:∀g p,cL g→v0→aPx):iz cL b b X X:=⟨fun P P d P P=>d,fun P p d=>xc,fun g p j d=>⟨J g p j d,aN4 (J g o' j a5)⟩,aPs,e⟩
def iz.ah{cL}{b Q h2}{X cX g5}(f:iz cL b Q X cX)(g:iz cL Q h2 cX g5):iz cL b h2 X g5:=by rw[oz f.aey aV A1 gE,oz g.aey bj BR f2,mX ⟨fun x p d j V=>?_,fun x p d=>?_,fun x p j d=>?_,(Ad (aV++bj) (by rw[BR,A1,r.abP]) (fun x hc=>?_)),g.fL.ah f.fL⟩,mX g.fx x p (f.fx x p d j V) j fun t=>?_];rw[A1]at t;rw[nt (Dz.mp t),rd,m9,rd,m8,mW V t];rw[gE x t]at d;rw[ě d,n4 (f.ix x p d) j8 aV,mW g.ix x _ aV,vi (f.xs x p j d).1 (fun o' a5=>?_),n4 (f.ix x p d) j8 d5,mW (g.xs x _ j d5).2 _ a5,nt (Dz.mp hc),rd,m9,rd,m8,mW gE x t,vz cG (b.bg x) (by rw[n4 (f.ix x p cG) j8 d5];rw[f2 x t]at d5;rw[pe d5])]
def iz.i3{cL}{b h'}{X cv}(j:aPi){q:u}{n}(d:wc):op cv.bN n:=by rw[oz j.aey aV A1 P,A1,r.jP (aOA d),mW d]
def iz.Cw{cL}{b h'}{X cv}(j:aPi){f}{p}(d:tN f)(h:¬g6 X.bN f):¬g6 cv.bN f:=by rw[oz j.aey aV A1 ac,mY t];rw[A1]at t;rw[nt (Dz.mp t),rd,m9,rd,m8,mW h t];rw[ac f t]at d;rw[pe d]
def iz.hP{cL}{b h'}{X cv}(j:aPi){f}{p}(d:tN f)(h:ka X f):ka cv f:=⟨j.Cw d h.1,nb j.fL h.2⟩
def iz.Aw{cL}{b h'}{X cv}(j:aPi):aPp:=by rw[vi (fun g p d hs no=>⟨j.fx g p d (fun t=>?_) no.1,j.hP d no⟩) (fun q n=>j.i3)];rw[(j.xs g p t d).1]at hs;rw[wN hs]
mutual variable{cL:d7→Prop}{b h':b8}{X cv:eW}
mutual
def de.AS(j:aPp):∀{f:ar}{y:ck},de b X f y→de h' cv f y|.B,_,l=>l|vq,_,l=>l|xk,_,l=>l|uW,_,l=>l|o9,_,l=>by rw[Ø,n2];(rintro f p xs h e no d hc hd aC t);rw[ou (j.ia f p d (ķ hK hd) no) a5 alG,mW Cs f p _ h e alG a5 hc hd aC (ed.AS j t)]|q2,_,l=>by rw[Ø,n2];(rintro f p xs h e no d hc hd aC t);rw[ou (j.ia f p d (ķ hK hd) no) a5 alG,mW Cs f p _ h e alG a5 hc hd aC (ed.AS j t)]|n3,_,l=>by rw[m3 Ac l,n2];rintro n d e;exact(Ad n (tj j.i3) e)
def ed.AS(j:aPp):∀{i:nC}{vs:vm},yA→aTz ed vs|[],_,l=>l|tq,_,l=>by rw[tR,n2,aPh,mW Au y _ e (de.AS j f) (ed.AS j g)]
end
def de.bx(j:aPi){f}{y}(l:de b X f y):de h' cv f y:=de.AS j.Aw l
def ed.bx(j:aPi){i}{vs}(l:yA):aTz ed vs:=ed.AS j.Aw l
end
def ed.z{b}{X}:wC vs (yA→vs.z=i.z)|[],_,l=>aSj|tq,_,l=>by rw[tR,n2];rintro y cy e _ g;simp[g.z]
def ed.i3{b}{X}:∀{i}{vs}{q:u}{f},yA→op i f→∃y,op vs y∧de b X f y|[],_,_,_,_,d=>by simp at d|tq,_,0,_,l,d=>by rw[tR,n2];(rintro y cy e t g);simp at d;rw[oQ,mW Ad y e t]|tq,_,q+1,_,l,d=>by rw[tR,n2];rintro y cy e t g;simp only[r.agv]at d⊢;exact g.i3 d
def ed.hq{b}{X}:∀{i H}{vs asD},yA→ed b X H asD→ed b X (i++H) (vs++asD)|[],_,_,_,l,t=>by rw[ub,mW t]|tq,_,_,_,l,t=>by rw[tR,n2,aPh,mW Au y (cy++_) e f (g.hq t)]
def ed.gu{b}{X}:∀{i}{vs}(h),yA→ed b X (i.gu h) (vs.gu h)|_,_,0,_=>uJ|[],_,_+1,l=>aSj|tq,_,nB,l=>by rw[tR,n2,aPh,mW Au y _ e f (g.gu h)]
def ed.cF{b}{X}:∀{i}{vs}(h),yA→ed b X (i.cF h) (vs.cF h)|_,_,0,l=>o7 l|[],_,_+1,l=>aSj|tq,_,nB,l=>by rw[tR,n2,aPh];simpa using g.cF h
def ed.aba{b}{X}:wC vs (yA→ed b X i.aba vs.aba)|[],_,l=>aSj|tq,_,l=>by rw[tR,n2,aPh];simp only[r.apY,r.apY];exact g.aba.hq (Au y _ e f e)
def ed.b6{b}{X}{f}{y}(t:de b X f y):∀{i}{vs}(q),yA→ed b X (i.b6 q f) (vs.b6 q y)|[],_,_,l=>aSj|tq,_,0,l=>by rw[tR,n2];(rintro fD cy e _ g);exact(Au y _ e t g)|tq,_,q+1,l=>by rw[tR,n2];rintro fD cy e f g;exact(nM Au e f (ed.b6 t q g))
mutual
abbrev awL:ar→aGk|n'=>n'|ur=>.bi (af.bH.dF k)|o9=>.anw (alW i)|q2=>uE alW i|_=>.B
abbrev alW:nC→r aGk|[]=>[]|qi=>awL j::alW xs
end
def Aci:alW []=[]:=e
def Acj(j)(xs):alW qi=awL j::alW xs:=e
abbrev auD(V:kc)(o:ar):R:=hashW V.dX (awL o)
def Fg(k):(af.bH.dF k).cps=(k.e0.au al8.es).mV:=sh bH.ofString_eq_byList
def SY{f g:al8}(b:f.es=g.es):f=g:=by apply al8.aaX;exact aGi.toNat_inj.mp b
def OH:∀{i H:r al8},i.au al8.es=H.au al8.es→i=H|[],[],_=>e|[],tq,b=>by rw[Đ]|tq,[],b=>by rw[Đ]|f::i,g::H,b=>by rw[sB r.gI r.s.fV,SY od,OH qK]
def Gx{k v}(b:af.bH.dF k=af.bH.dF v):k=v:=by rw[m1 ((k.e0.au _).mV=(v.e0.au _).mV) (by rw[←Fg,←Fg,b]),mY t,m2 (o7 t),mY da,mW ea.aEW.mp (OH da)]
def AbX(k):aWq jz.strOk k=F:=by unfold jz.strOk;rw[Fg];rw[←fE.all_toList,r.hp,mY x hc,so r.fq.mp hc,mZ hc];rintro aj _ e;rw[m2 aj.valid,m5,m1 (aj.es<0x110000) (by unfold al8.es;(rw[nY aa aa,rd,m9,mY J,nV,ng];rintro _ t;rw[m8])<;>(simp only[aGi.es]at*;omega)),mY h2];simpa using h2
mutual
abbrev ko:ar→jz|n'=>n'|ur=>.bi (af.bH.dF k)|o9=>.anw (abc i)|q2=>uE abc i|_=>.B
abbrev abc:nC→r jz|[]=>[]|qi=>ko j::abc xs
end
def Ef:∀q,ko n'=n':=rp
def Eg:∀k,ko ur=.bi (af.bH.dF k):=rp
def Eh:∀i,ko o9=.anw (abc i):=rp
def Ei:∀i,ko q2=uE abc i:=rp
def Ej:ko .B=.B:=e
def Ek:∀g,ko qz=.B:=rp
def El:∀g,ko (.D g)=.B:=rp
def Qc:abc []=([]):=e
def Qd:∀j xs,abc qi=(ko j::abc xs):=pS
mutual
def GL{b:b8}{X:eW}:∀{f:ar}{y:ck}(h:u),de b X f y→f.i6 h=F→∃as,aGa b y (ko f) as|n',_,_,l,_=>by rw[m3 Al l,n2,sK,mW (qn (u2 q))]|ur,_,_,l,_=>by rw[m3 Al l,n2,sK,mW (qn (.bi _ v))]|o9,_,h,l,o=>(aUf o (by rw[Ø,n2];rintro f p xs H e _ d hc hd _ t;rw[n4 (GK h t (m4 o)) as a,mW (qn (.anw d hc hd a))]))|q2,_,h,l,o=>(aUf o (by rw[Ø,n2];rintro f p xs H e _ d hc hd _ t;rw[n4 (GK h t (m4 o)) as a,mW (qn (.aw d hc hd a))]))|.B,_,h,_,o=>zT|vq,_,h,_,o=>zT|vS,_,h,_,o=>zT
def GK{b:b8}{X:eW}:∀{i:nC}{vs:vm}(h:u),yA→ar.kP h i=F→∃as,aGb b vs (abc i) as|[],_,_,l,_=>by rw[ub,mW (qn .C)]|qi,_,h,l,o=>by rw[tR,n2,aPh,aR4 Eq Er o,n4 (GL h f o.1) as aw4,n4 (GK h g o.2) bq aw5,mW (qn (.s aw4 aw5))]
end
mutual
def D6:∀{f:ar}(h:u),f.i6 h=F→jz.aqV (ko f)=F∧(ko f).i1≤h|n',_,_=>qg|ur,_,_=>by simp[Ef,Eg,Eh,Ei,Ej,Ek,El,jz.aqV,jz.i1,AbX]|o9,h,o=>(aUf o (by have t:=H4 h (i:=i) (m4 o);rw[m2 oI,mY da];simp only[Ef,Eg,Eh,Ei,Ej,Ek,El,jz.aqV,jz.i1,oq,acf];omega))|q2,h,o=>(aUf o (by have t:=H4 h (i:=i) (m4 o);rw[m2 oI,mY da];simp only[Ef,Eg,Eh,Ei,Ej,Ek,El,jz.aqV,jz.i1,oq,acf];omega))|.B,h,o=>zT|vq,h,o=>zT|vS,h,o=>zT
def H4:∀{i:nC}(h:u),ar.kP h i=F→jz.azc (abc i)=F∧jz.azW (abc i)≤h|[],_,_=>qg|qi,h,o=>by rw[aR4 Eq Er o];have f:=D6 h o.1;have g:=H4 h o.2;rw[m2 f.2,mY a2,m2 g.2,mY dn];simp only[Qc,Qd,jz.azc,jz.azW,f.1,g.1,N.aen,acf];exact rW u.aDO.2 a2 dn
end
mutual
def JL:∀{f g:ar}(h o:u),f.i6 h=F→g.i6 o=F→(jz.ahp (ko f) (ko g)=F↔f=g)|n',g,h,o,_,U=>(by induction g using ar.ae with|m aq=>simp[Ef,Eg,Eh,Ei,Ej,Ek,El,jz.ahp]|bi v=>rw[qy]|ay H=>rw[qy]|bm H=>rw[qy]|_=>rw[Ć o (yW U)])|ur,g,h,o,_,U=>(by induction g using ar.ae with|m aq=>rw[qy]|bi v=>simp only[Ef,Eg,Eh,Ei,Ej,Ek,El,jz.ahp,ar.bi.fV,lb];exact⟨oE (Gx b),oE (by rw[b])⟩|ay H=>rw[qy]|bm H=>rw[qy]|_=>rw[Ć o (yW U)])|o9,g,h,o,a_,U=>(by induction g using ar.ae with|m aq=>rw[qy]|bi v=>rw[qy]|ay H=>(rw[uL h (by rw[qT a_]) h (by rw[uL o (by rw[qT U]) o (by simp only[Ef,Eg,Eh,Ei,Ej,Ek,El,jz.ahp,ar.ay.fV];exact JK h o (m4 a_) (m4 U))])])|bm H=>rw[qy]|_=>rw[Ć o (yW U)])|q2,g,h,o,a_,U=>(by induction g using ar.ae with|m aq=>rw[qy]|bi v=>rw[qy]|bm H=>(rw[uL h (by rw[qT a_]) h (by rw[uL o (by rw[qT U]) o (by simp only[Ef,Eg,Eh,Ei,Ej,Ek,El,jz.ahp,ar.bm.fV];exact JK h o (m4 a_) (m4 U))])])|ay H=>rw[qy]|_=>rw[Ć o (yW U)])|.B,_,h,_,b,_=>by rw[Ć h (N.cs b)]|vq,_,h,_,b,_=>by rw[Ć h (N.cs b)]|vS,_,h,_,b,_=>by rw[Ć h (N.cs b)]
def JK:∀{i H:nC}(h o:u),ar.kP h i=F→ar.kP o H=F→(jz.eqvAll (abc i) (abc H)=F↔i=H)|[],H,_,_,_,_=>by induction H using r.ae<;>(rw[qy])|qi,H,h,o,a_,U=>by rw[oT H (by rw[qy]) ab k7 (by simp only[Eq,Er,N.c3]at a_ U;rw[m2 (JL h o a_.1 U.1),mY d5,m2 (JK h o a_.2 U.2),mY da];simp only[Qc,Qd,jz.eqvAll,N.c3,d5,da,r.s.fV])]
end
mutual
def FX:∀{f:ar}(h:u),f.im h=F→f.i6 h=F|xk,h,_=>by rw[ć h u.ae]|uW,h,_=>by rw[ć h u.ae]|o9,h,o=>(aUf o (by exact M1 h (by simpa[LA,LB,LC,LD,LE,LF,LG,LH]using o)))|oh _,h,o=>zT|.B,h,o=>zT|vq,h,o=>zT|vS,h,o=>zT
def M1:∀{i:nC}(h:u),ar.abQ h i=F→ar.kP h i=F|[],_,_=>uJ|qi,h,o=>by rw[aR4 Es Et o];simp only[Eq,Er,N.c3];exact⟨FX h o.1,M1 h o.2⟩
end
mutual
abbrev acn(b:b8):t4 ar ck|n',y=>∃v,y=u2 q|ur,y=>∃v,y=.bi (af.bH.dF k) v|o9,y=>∃f p xs h,y=si∧tN f∧p.eY=p3 "tuple"∧p.fS=.ia xs h∧aco b i xs.e0|_,_=>akt
abbrev aco(b:b8):t4 nC vm|[],vs=>vs=[]|qi,vs=>∃y l,vs=y::l∧acn b j y∧aco b xs l
end
mutual
def acn.dB{b:b8}:∀{j ab:ar}{y:ck},acn b j y→acn b ab y→j=ab|n',ab,y,f,g=>(by rw[o8 f,mZ f,oc v];induction ab using ar.ae with|m aq=>rw[uy g aP d,mZ g];injection d with I L;rw[pi,qD];rfl|bi k=>rw[o8 g,mY aP d,yc]|ay i=>rw[m3 AA g];intro _ _ _ _ d _;rw[yc]|_=>cases g)|ur,ab,y,f,g=>(by rw[o8 f,mZ f,oc v];induction ab using ar.ae with|m aq=>rw[o8 g,mY aP d,yc]|bi s'=>rw[o8 g,mY aP d];injection d with aV _;rw[Gx aV]|ay i=>rw[m3 AA g];intro _ _ _ _ d _;rw[yc]|_=>cases g)|o9,ab,y,f,g=>(by rw[m3 Db f,mZ f];rintro ad p xs h e d _ hd t;induction ab using ar.ae with|m aq=>rw[o8 g,oA,mY aP d,yc]|bi s'=>rw[o8 g,oA,mY aP d,yc]|ay H=>rw[m3 Db g,mY aMH o' aqi aiM aV bj _ ad1 er,mZ akA,p2 aV,pi];rw[d]at bj;rw[nf bj,mZ bj,mY bj];subst bj;rw[hd]at ad1;injection ad1 with I L;rw[pi,qD,aco.dB t er]|_=>cases g)|.B,_,_,f,_=>ņ|vq,_,_,f,_=>ņ|oh _,_,_,f,_=>ņ|vS,_,_,f,_=>ņ
def aco.dB{b:b8}:∀{j ab:nC}{y:vm},aco b j y→aco b ab y→j=ab|[],[],_,_,_=>e|[],tq,_,f,g=>by subst f;rw[mX AR g fun P P d P=>?_,yc]|tq,[],_,f,g=>by subst g;rw[m3 AR f];intro _ _ d _;rw[yc]|qi,ab::k7,_,f,g=>by rw[m3 At f,mZ f];rintro y l e a1 a2;rw[m3 At g,mY fD r' d c6 dn];injection d with I L;rw[pi,qD,acn.dB a1 c6,aco.dB a2 dn]
end
mutual
def acn.g0{b h':b8}{aj:d7}{acQ:k_}{Aa:fE ag7}{ep:u}(ho:b.bg aj=c acQ)(hd:acQ.fS=.bE Aa ep)(hs:aS3):∀{j:ar}{y:ck},acn b j y→acn h' j y|xk,_,f=>f|uW,_,f=>f|o9,_,f=>by rw[m3 Db f,mZ f];(rintro ad p xs h e d hc cG t);(have dw:ad≠aj:=qW (by rw[mZ hs,uf];rw[ho]at d;rw[mZ hc,nf d,mZ d,mY d,oQ];rw[hd]at cG;injection cG));exact(JG _ p _ h e ((hs.2 _ dw).ah d) hc cG (aco.g0 ho hd hs t))|.B,_,f=>ņ|vq,_,f=>ņ|oh _,_,f=>ņ|vS,_,f=>ņ
def aco.g0{b h':b8}{aj:d7}{acQ:k_}{Aa:fE ag7}{ep:u}(ho:b.bg aj=c acQ)(hd:acQ.fS=.bE Aa ep)(hs:aS3):∀{j:nC}{y:vm},aco b j y→aco h' j y|[],_,f=>f|tq,_,f=>by rw[m3 At f,mZ f];rintro y l e a1 a2;exact(Au y l e (acn.g0 ho hd hs a1) (aco.g0 ho hd hs a2))
end
mutual
def K5{b:b8}:∀{f:ar}{y:ck},acn b f y→∃as,aGa b y (ko f) as|n',_,l=>by rw[m3 Al l,n2,sK,mW (qn (u2 q))]|ur,_,l=>by rw[m3 Al l,n2,sK,mW (qn (.bi _ v))]|o9,_,l=>by rw[m3 Db l,n2];(rintro f p xs H e d hc hd t);rw[n4 (PK t) as a,mW (qn (.anw d hc hd a))]|.B,_,f=>ņ|vq,_,f=>ņ|oh _,_,f=>ņ|vS,_,f=>ņ
def PK{b:b8}:∀{i:nC}{vs:vm},aco b i vs→∃as,aGb b vs (abc i) as|[],_,l=>by rw[ub,mW (qn .C)]|qi,_,l=>by rw[tR,n2,aPh,n4 (K5 f) as aw4,n4 (PK g) bq aw5,mW (qn (.s aw4 aw5))]
end
mutual
def de.dx{b:b8}{X:eW}:∀{f:ar}{y:ck}(h:u),de b X f y→f.im h=F→acn b f y|xk,_,_,l,_=>l|uW,_,_,l,_=>l|o9,_,h,l,o=>(aUf o (by rw[Ø,n2];rintro f p xs H e _ d hc hd _ t;exact(JG f p _ H e d hc hd (ed.dx h t (m4 o)))))|.B,_,h,_,o=>zT|vq,_,h,_,o=>zT|oh _,_,h,_,o=>zT|vS,_,h,_,o=>zT
def ed.dx{b:b8}{X:eW}:∀{i:nC}{vs:vm}(h:u),yA→ar.abQ h i=F→aco b i vs|[],_,_,l,_=>l|qi,_,h,l,o=>by rw[tR,n2,aPh,aR4 Es Et o,mW Au y _ e (de.dx h f o.1) (ed.dx h g o.2)]
end
mutual
abbrev aq8:sf ar|o9=>aoq i+1|_=>1
abbrev aoq:sf nC|[]=>0|qi=>aq8 j+aoq xs
end
def Ua(j)(xs):aoq qi=aq8 j+aoq xs:=e
mutual variable{b':aej}{V:kc}{bb:ux}
set_option maxRecDepth 100000 in
mutual
def PE:∀(o:ar)(y:ck)(aI:lT)(k:en)(h:u)(aW:t7 R),o.im h=F→acn k.aK o y→aI.ib+h+2<mj→aW (auD V o) (aNP (k.ce+aq8 o))→aSC (av7 y)|n',_,aI,k,h,aW,_,j,_,b=>by rw[o8 j,mZ j,sK,tD wpAny_pyHash_int,m1 (auD V n'=auC q) (hashW_int _ q),mY d,←d,mW b]|og ab,_,aI,k,h,aW,_,j,_,b=>by rw[o8 j,mZ j,sK,mW wpAny_pyHash_str b]|nE xs,_,aI,k,h,aW,aG,j,cK,b=>(aUf aG (by rw[m3 Db j,mZ j];rintro f p vs H e hg hc hd ei;refine pyHash_slot (O:="tuple") (ql hg hc) aN.slot_tuple_hash aN.entry_tuple_hash (aN.args_tuple_hash_1 _) (beq_builtin_none _) (rt (m4 (oa Ag [aI.ib,h,mj] S a8 (tS+2) a8 e cK))) ?_;rw[Ŏ (gM.ac5.aLs _>>=_),mX dH (wpAny_tupleItemsOf hg hd ?_),tD dH,←fE.aHq,mX NN xs vs.e0 aI.in1 k #[] h _ (m4 aG) ei (yg lT.aJA (oa Ag [aI.ib,h,mj] (zq+2) a8 (tS+2) a8 e cK)) fun g U=>?_,m6 (m7 (sb d3 (retInt _) _)),U,mX dH (asL (fX (nM AI e ?_))),mW b]))|.B,_,aI,k,h,aW,aG,_,_,_=>by rw[Ć h (yW aG)]|vq,_,aI,k,h,aW,aG,_,_,_=>by rw[Ć h (yW aG)]|oh _,_,aI,k,h,aW,aG,_,_,_=>by rw[Ć h (yW aG)]|vS,_,aI,k,h,aW,aG,_,_,_=>by rw[Ć h (yW aG)]
def NN:∀(xs:nC)(vs:vm)(aI:lT)(k:en)(g:fE R)(h:u)(aW:t7 (fE R)),ar.abQ h xs=F→aco k.aK xs vs→aI.ib+h+2<mj→(∀bZ,bZ.e0=g.e0++aCm V.dX (alW xs)→aW bZ (aNP (k.ce+aoq xs)))→aSC (arf vs g fun j l=>do let b←av7 j;km aMw.unit;km (pQ amb.anC l.g'))|[],_,aI,k,g,h,aW,_,j,_,b=>by subst j;exact fX (b g (by simp[Aci,aCm]))|o::xs,_,aI,k,g,h,aW,aG,j,cK,b=>by rw[m3 At j,mZ j];rintro y l e I L;rw[aR4 Es Et aG,r.arg,mX dH (dH (PE o _ aI k h _ š I cK ?_)),mX dH (aVe fX),mX NN xs _ aI _ _ h aW aG.2 L cK fun bZ U=>?_,m2 (b bZ (by simp[U,Acj,aCm];rfl)),m5];simpa[Ua,u.la]using aa
end
def Aaf:∀(h)(o)(y)(aI)(k)(H)(aW),o.im h=F→h<H→acn k.aK o y→aW F k→aSC (aHd H y):=by rw[aR5];induction h with|hf=>intro o y aI k H aW aG bK j b;(induction o using ar.ae with|m q=>rw[o8 j,mZ j,sK,at8 _ e,mW fX b]|bi ab=>rw[o8 j,mZ j,sK,at8 _ e,mW fX b]|_=>rw[qT aG])|gk h ih=>intro o y aI k H aW aG bK j b;induction o using ar.ae with|m q=>rw[o8 j,mZ j,sK,at8 _ e,mW fX b]|bi ab=>rw[o8 j,mZ j,sK,at8 _ e,mW fX b]|ay xs=>rw[m3 Db j,mZ j];(rintro f p vs t e hg hc hd ei);have h1:k.aqC si "tuple":=(ql hg hc);(rw[uL H (by omega) H (by unfold aHd;rw[mX dH (aLQ h1 aN.slot_tuple_eq.cm ?_),Ŏ (m7 isInstance>>=_),mX dH (wpAny_isInstance h1 isSubtype_tuple_tuple ?_)];dsimp only[N.aDY,N.aev,abv];rw[mX dH (aFf hg hd ?_),tD dH,Ŏ (arf vs _ _),←fE.aHq,mX wpAny_forIn_list _ (fun hQ l s'=>l.1=B∧s'=k∧∃ks,ar.abQ h ks=F∧aco _ ks hQ) _ ?_ ?_ _ _ (AE e e (ql (m4 aG) ei)),mZ b hg ei h1];rintro y hQ l s';intro J;rcases J with(⟨br,e,ks,jR,iO⟩);(rw[oT ks (by rw[sQ iO]) o ks (by refine At iO fun fD r' d gv aci=>?_;injection d with I L;rw[pi,qD,aR4 Es Et jR,mX dH (ih o _ aI _ H _ jR.1 n_ gv ?_)];simp only[N.aDY,N.aev,abv];exact fX (AE e e (ql jR.2 aci)))]);rw[mZ hg ei h1,mY J,aRO bW fh];rintro s';rw[mY J,Õ,ng];rintro br e _;simp only at br;subst br;exact fX b)])|_=>rw[qT aG]
end
abbrev ac7(b':aej)(V:kc):aMl b' V ar where is:=fun b o f=>l4 o=F∧o.im jA=F∧acn b o si;ajA:=auD V;at4:=aq8;apZ:=fun aI=>aI.ib+100<mj;dB:=fun J b0=>acn.dB (nW J) (nW b0);g0:=fun j ho hd hs=>(AE sz (nj j) (acn.g0 ho hd hs (nW j)));av7:=fun cK aG b=>ni PE jA _ (nj aG) (nW aG) (by unfold jA;exact YD cK) b;eqBool:=(fun{aI bb k j ab f g aW}cK J b0 b=>by rw[n4 (K5 (nW J)) as gr,n4 (K5 (nW b0)) bq jk];have alv:=D6 jA (FX _ (nj J));rw[m2 (D6 _ (FX _ (nj b0))),mY ar1,m1 (m7 jz.ahp=b1 _) (by have:=JL jA jA (FX _ (nj J)) (FX _ (nj b0));rw[nH t j ab,hZ t,mW aa.gS t,jq t,mW N.amC.gS fun a=>t (aa.mp a)]),p0,mX (ni (qm kr.eqBoolOverData) gr jk alv.1 ar1.1 ?_ (nb d b)),m2 (u.alB (ko j).i1 (ko ab).i1),mY aa,m2 alv.2,m5];unfold jA at*;exact oa Bu [aI.ib,mj,(ko j).i1,m7 ab8] (S+eK) ai (S+100) ai a8 6 eK a8 e cK alv.2 (m7 u.alB));quiet:=fun aG b=>oM Aaf jA _ 8 _ (nj aG) nw (nW aG) b
noncomputable abbrev ahI(xs:ó)(h:u):k_:={eY:=p3 "list",fS:=.ia xs h}
mutual variable(b':aej)(V:kc)(eR:u→d7)
abbrev j0(b:b8)(X:eW):t4 (rC R ar) (rC R ck)|[],e1=>e1=[]|(o,y)::i,e1=>∃j l,e1=(o,j)::l∧ê j∧j0 b X i l
abbrev jy(b:b8)(X:eW):t4 ys (r (ar×d7×ck))|[],xs=>xs=[]|(o,y)::i,xs=>∃f j l,xs=(o,f,j)::l∧l4 o=F∧o.im jA=F∧de b X o si∧ê j∧jy b X i l
abbrev jI(b:b8)(X:eW):t4 aUQ (r ag7)|[],Aa=>Aa=[]|(h,y)::i,Aa=>∃d l v,Aa=d::l∧d.ajA=jz.keyHash V.dX Î∧d.dx=.bi Î v∧ê d.lP∧jI b X i l
abbrev mD(b:b8)(X:eW):t4 c_ (d7×d7)|rj,n=>nh=nk∧∃xs h,b.bg nk=c (ahI xs h)∧tU∧ed b X i xs.e0|x6,n=>nh=nk∧tU∧∃xs,b.asT (ac7 b' V) nk xs∧aPo|uH,n=>nh=nk∧tU∧∃e1,b.aks aVz nk e1∧aPn|qI x fs,n=>b.bg nk=c (avw (eR x) nh)∧∃Aa h,b.bg nh=c (aop Aa h)∧fs.z≤300∧aPt fs∧aNL fs.au
abbrev amr(n t:d7×d7):Prop:=nk≠oq∧nk≠oI∧nh≠oq∧nh≠oI
structure aaj(b:b8)(X:eW)(w:ch):Prop where
 c9:X.bN.z=w.z
 D:∀(q:u)p n,op w p→wc→mD b' V eR b X p n
 akE:X.bN.ahg amr
end
mutual variable{b':aej}{V:kc}{eR:u→d7}{cL:d7→Prop}{b h':b8}{X cv:eW}
def j0.AS(j:aPp):wC e1 (aPn→aTz j0 e1)|[],_,l=>l|ÿ,_,l=>by rw[tR,n2];rintro ab cy e g x;exact(Au ab _ e (g.AS j) (j0.AS j x))
def jy.AS(j:aPp):wC xs (aPo→aTz jy xs)|[],_,l=>l|ÿ,_,l=>by rw[m3 Co l,n2];rintro f ab cy e g x aj d ac;exact(Cn f ab _ e g x (aj.AS j) (d.AS j) (jy.AS j ac))
def jy.is(b')(V):wC xs (aPo→oG xs ((ac7 b' V).is b sz (nj j)))|[],_,l,j,J=>by rw[ub];cases J|ÿ,_,l,j,J=>by rw[m3 Co l,n2];rintro f ab cy e g x aj _ ac;rw[nt (r.gA.mp J),n8,m9,x',m8,mW AE g x (aj.dx jA x),mW jy.is b' V ac j J]
def jI.AS(j:aPp):wC Aa (aPt i→jI V h' cv i Aa)|[],_,l=>l|ÿ,_,l=>by rw[m3 BW l,n2];rintro d cy v e f g x aj;exact(CH d _ v e f g (x.AS j) (jI.AS j aj))
def mD.AS:∀(j:aPp){p}{n}(o:∀g cR,g=nk∨g=nh→aVv→h'.bg g=c cR)(l:mD b' V eR b X p n),mD b' V eR h' cv p n:=by rw[mY j,mY p n,mY o l];induction p using c_.ae with|aw i=>(obtain⟨f,xs,h,d,aC,t⟩:=l);exact qd f (Au _ h (sb o qN d) aC (t.AS j))|bE i=>(obtain⟨f,aC,xs,⟨p,Aa,ep,ho,Q,h2,h3,h4,h5⟩,aj⟩:=l);exact(AE f aC (Ad _ (Cn p _ _ (sb o qN ho) Q h2 h3 ((aj.AS j).is _ V) h5) (aj.AS j)))|bM i=>(obtain⟨f,aC,e1,⟨p,Aa,ep,ho,l⟩,aj⟩:=l);exact(AE f aC (Ad _ (A9 p _ _ (sb o qN ho) l) (aj.AS j)))|bS x fs=>obtain⟨f,Aa,h,d,aC,t,cO⟩:=l;exact qd (sb o qN f) (Bx _ h (sb o yo d) aC (t.AS j) cO)
def j0.bx(j:aPi){i}{e1}(l:aPn):aTz j0 e1:=l.AS j.Aw
def jy.bx(j:aPi){i}{xs}(l:aPo):aTz jy xs:=l.AS j.Aw
def jI.bx(j:aPi){i}{Aa}(l:aPt i):jI V h' cv i Aa:=l.AS j.Aw
def mD.bx(j:aPi){p}{n}(o:∀g cR,g=nk∨g=nh→aVv→h'.bg g=c cR)(l:mD b' V eR b X p n):mD b' V eR h' cv p n:=l.AS j.Aw o
def Cb{bN}{q:u}{n}(d:op bN n):g6 bN nk∧g6 bN nh:=qd (Ad n (r.lI d) qN) (Ad n (r.lI d) yo)
def aaj.E9{w}(ao:aaj b' V eR b X w)(j:aPp)(ba:cv.bN=X.bN)(o:∀g p,Ŋ→v0→Ī):aaj b' V eR h' cv w:=⟨nb ba ao.c9,fun q p n f g=>by rw[ba]at g;exact(ao.D q p n f g).AS j fun x cR hc d=>o x _ (Ad n (r.lI g) hc) d,nb ba ao.akE⟩
def aaj.g0{w}(ao:aaj b' V eR b X w)(j:iz cL b h' X X)(o:∀g p,Ŋ→v0→Ī):aaj b' V eR h' X w:=ao.E9 j.Aw e o
def amr.cq{n t}(f:amr n t):amr t n:=(By (ahc.cq f.1) (ahc.cq (oj f)) (ahc.cq (nj f)) (ahc.cq (Ĉ f)))
def ZG{bN:rC d7 d7}(W:bN.ahg amr){q aq:u}{n t}(Ab:op bN n)(cQ:p7 bN t)(h:sU aq):amr n t:=by rw[r.pairwise_iff_getElem]at W;obtain⟨aJ6,e⟩:=r.gF.mp Ab;obtain⟨aKa,e⟩:=r.gF.mp cQ;rw[nt (u.lt_or_ge q aq),rd,m9,rd,m8,mW W q aq _ _ t,mW (rz (W aq q aKa aJ6 (u.ar4 t (ahc.cq h))))]
def aaj.an2:∀{w}{n}{p}(ao:aaj b' V eR b X w)(j:iz cL b h' X (X.e_ n))(o:∀g cR,Ŋ→aVv→h'.bg g=c cR)(l:mD b' V eR h' (X.e_ n) p n)(gE:Ż nk)(f2:Ż nh)(ahJ:∀g,Ŋ→∃cR,aVv),aaj b' V eR h' (X.e_ n) (w++[p]):=by rw[mY w n p,mY ao j o l gE f2 ahJ,mX ⟨y8 eW.e_ ao.c9,fun q o' cw f g=>?_,?_⟩];replace g:op (X.bN++[n]) cw:=g;rw[nt (u.lt_or_ge q w.z),rd,m9,rd,m8];rw[r.jP t]at f;(have er:q<X.bN.z:=nb ao.c9 t);rw[r.jP er]at g;exact(ao.D q _ _ f g).bx j fun x cR hc d=>o x _ (ql (r.lI g) hc) d;rw[r.aih t]at f;rw[r.aih (nb ao.c9 t),ao.c9]at g;(induction Ab:q-w.z using u.ae with|hf=>rw[Ab]at f g;simp at f g;subst f g;exact l|gk aq=>rw[Ab]at f;simp at f);rw[m6 ((X.bN++[n]).ahg _),r.aKH,mX AE ao.akE (m7 r.aKI) (fun t cG cw dg=>?_)];rw[r.i7]at dg;rw[mZ j l,xg,n4 (ahJ oq (Ad t cG qN)) j8 aV,n4 (ahJ oI (Ad t cG yo)) k2 bj];refine(By ?_ ?_ ?_ ?_)<;>intro a;rw[a,gE]at aV;rw[ě aV];rw[a,f2]at aV;rw[ě aV];rw[a,gE]at bj;rw[ě bj];rw[a,f2]at bj;rw[pe bj]
def mD.ahJ:∀{p}{n}(l:mD b' V eR b X p n),(∃cR,b.bg nk=c cR)∧∃cR,b.bg nh=c cR:=by rw[mY p n,mY l];induction p using c_.ae with|aw i=>(obtain⟨f,xs,h,d,t⟩:=l);exact⟨qn d,qn (f▸d)⟩|bE i=>(obtain⟨f,aC,xs,⟨p,Aa,ep,d,l⟩,aj⟩:=l);exact⟨qn d,qn (f▸d)⟩|bM i=>(obtain⟨f,aC,xs,⟨p,Aa,ep,d,l⟩,aj⟩:=l);exact⟨qn d,qn (f▸d)⟩|bS x fs=>obtain⟨f,Aa,h,d,t,cO⟩:=l;exact⟨qn f,qn d⟩
def aaj.ahJ{w}(ao:aaj b' V eR b X w):∀g,Ŋ→∃cR,aVv:=by rintro g;rw[mY J,sE,ng];rintro n ba U;rw[aPZ q Ab (r.aB0 ba)];(have ms:q<w.z:=uq ao.c9 Ab);have:=(ao.D q w[q] X.bN[q] (rA ms) (by simp[Ab])).ahJ;rw[nY U U,n8,m9,n8,m8,mW aa.1,mW aa.2]
def aaj.Aap{w}(ao:aaj b' V eR b X w){q:u}{p}(d:op w p):∃n,wc:=by(have:q<X.bN.z:=by simp only[ao.c9]at⊢;exact aOA d);exact⟨X.bN[q],rA aa⟩
def aaj.at{w}(ao:aaj b' V eR b X w){q:u}{p}(d:op w p):∃n,wc∧mD b' V eR b X p n:=by rw[n4 (ao.Aap d) n ba,mW Ad n ba (ao.D q p n d ba)]
def aaj.aiU:∀{w}{q}{n}{o'}(ao:aaj b' V eR b X w)(j:iz cL b h' X X)(ba:wc)(o:∀g cR,vd nk→vd nh→aVv→Ŋ→h'.bg g=c cR)(l:mD b' V eR h' X o' n),aaj b' V eR h' X (w.b6 q o'):=by rw[mY w q n o',mY ao j ba o l,mX ⟨rA ao.c9,fun aq p t f g=>?_,ao.akE⟩,nH cQ q aq];subst cQ;rw[ba]at g;rw[nf g,mZ g,mY g];subst g;rw[m2 (wx (aOA f)),mY jf];rw[r.akY jf]at f;rw[aRf f f f f,mW l];rw[r.agx cQ]at f;have aj:=ZG ao.akE ba g cQ;exact(ao.D aq p t f g).bx j fun x cR hc d=>by rw[nY hc hc,n8,m9,n8,m8,mW o _ _ (ahc.cq aj.1) (ahc.cq (oj aj)) d (Cb g).1,mW o _ _ (ahc.cq (nj aj)) (ahc.cq (Ĉ aj)) d (Cb g).2]
end
abbrev adM(U b:b8)(am:d7)(no:d7→N):rC d7 k_:=(r.acU b.eU.c5).adW fun g=>match b.bg g with|c p=>if g=am∨(U.bg g).eF=F∨no g=F then B else zk g|B=>B
set_option tactic.hygienic true in
def CM:∀{U b}{am}{no}{g}{p},(g,p)∈adM U b am no↔v0∧aOR∧U.bg g=B∧no g=Y:=by injections U b am no g p;unfold adM;rw[r.mem_filterMap];constructor;rw[mY J,sE,ng];rintro x _ hc;split at hc;rename_i o' d;split at hc;rw[ě hc];rename_i h;rw[nf hc,mZ hc,mY hc,uT hc,mZ hc,mY hc L];subst hc;rw[qD];rw[aj5,aj5]at h;rw[mW By d h.1 (o7 (nj h)) (o7 (nW h)),ě hc,mY J,ri Bq,ng];rintro d h t a;rw[mX Ad g (r.aKl.gS (b8.and d)) ?_,d];dsimp only;rw[cH (by simp[h,t,a])]
def Dl:∀{U b}{am}{no},as3 U am b (adM U b am no):=by rw[mY U b am no n,mY ba,yq (CM.mp ba) f g x P,mW AE f g x]
set_option tactic.hygienic true
def Bp{x}[aj:ah1 x]{ac}(b:aq6 x ac (nO Y)=F):∃hc,ac hc=F:=by induction aj using ah1.ae with|alt hc=>exact sR hc|avz _=>rw[sT]
def Hl{d}{o}(b:oZ aoh):∃x dN dG,d=.ah0 x dN dG∧o x=F:=zP af.bA.ah0.az 19 af.bA.ah0.az (fun x P P=>o x) (∃x dN dG,d=.ah0 x dN dG∧o x=F) aTH
def Hn{d}{o}(b:oZ amA):∃j n,ut (aNM j) j n:=zP af.bA.kM.az 23 af.bA.kM.az (fun j n=>o j n) (∃j n,ut (aNM j) j n) (fun P P P b=>(nM AI e b))
def M0{d}{o}(b:oZ atY):∃i dN dG,d=.ac5 i dN dG∧o i=F:=zP af.bA.ac5.az 25 af.bA.ac5.az (fun i P P=>o i) (∃i dN dG,d=.ac5 i dN dG∧o i=F) aTH
def MY{d}{o}(b:oZ atW):∃i n,d=.r i n∧o i=F:=zP af.bA.r.az 24 af.bA.r.az (fun i P=>o i) (∃i n,d=.r i n∧o i=F) (fun P P P b=>(nM AI e b))
def TG{d}{o}(b:oZ azA):∃ks vs n,ut (.ah2 ks vs n) ks vs:=zP af.bA.ah2.az 6 af.bA.ah2.az (fun ks vs P=>o ks vs) (∃ks vs n,ut (.ah2 ks vs n) ks vs) aTH
def Hk{d}{o}(b:oZ aog):∃y k n,d=.aaf y k n∧o y k n=F:=zP af.bA.aaf.az 20 af.bA.aaf.az (fun y k n=>o y k n) (∃y k n,d=.aaf y k n∧o y k n=F) aTH
def DV{d}{o}(b:oZ ajr):∃y k n,ut (.aak y k n) y k:=zP af.bA.aak.az 21 af.bA.aak.az (fun y k P=>o y k) (∃y k n,ut (.aak y k n) y k) aTH
def Ho{d}{o}(b:oZ aok):∃i aP v n,d=.lv i aP v n∧o i aP v=F:=zP af.bA.lv.az 26 af.bA.lv.az (fun i aP v P=>o i aP v) (∃i aP v n,d=.lv i aP v n∧o i aP v=F) aRN
def Jv{d}{o}(b:oZ aq1):∃p j n,ut (.ahj p j n) p j:=zP af.bA.ahj.az 3 af.bA.ahj.az (fun p j P=>o p j) (∃p j n,ut (.ahj p j n) p j) aTH
def Tw{d}{o}(b:oZ azr):∃i p l n,d=.anI i p l n∧o i p l=F:=zP af.bA.anI.az 2 af.bA.anI.az (fun i p l P=>o i p l) (∃i p l n,d=.anI i p l n∧o i p l=F) aRN
def TA{d}{o}(b:oZ azt):∃i p l n,d=.akq i p l n∧o i p l=F:=zP af.bA.akq.az 15 af.bA.akq.az (fun i p l P=>o i p l) (∃i p l n,d=.akq i p l n∧o i p l=F) aRN
def MU{d}{o}(b:oZ atQ):∃p i n,ut (.ag6 p i n) p i:=have(sR x):=Bp b;af.bA.ag6.az (fW:=ol (∀x:d.eP=0,af.bA.ag6.az (fW:=nO N) d x (fun p i P=>o p i)=F→∃p i n,ut (.ag6 p i n) p i)) d x aTH x b
def TL{d}{o}(b:oZ azE):∃v j ab n,d=.amf v j ab n∧aRm=F:=zP af.bA.amf.az 5 af.bA.amf.az (fun v j ab P=>aRm) (∃v j ab n,d=.amf v j ab n∧aRm=F) aRN
def Ty{d}{o}(b:oZ atS):∃ac as ks n,d=.jG ac as ks n∧o ac as ks n=F:=zP af.bA.jG.az 16 af.bA.jG.az (fun ac as ks n=>o ac as ks n) (∃ac as ks n,d=.jG ac as ks n∧o ac as ks n=F) aRN
def TC{d}{o}(b:oZ azv):∃f g9 x n,d=.aff f g9 x n∧o f g9 x=F:=zP af.bA.aff.az 8 af.bA.aff.az (fun f g9 x P=>o f g9 x) (∃f g9 x n,d=.aff f g9 x n∧o f g9 x=F) aRN
def TH{d}{o}(b:oZ azB):∃y n,d=.bA y n∧o y=F:=have(sR x):=Bp b;af.ee.bA.az (hv:=ol (∀x:d.eP=24,af.ee.bA.az (hv:=nO N) d x (fun y P=>o y)=F→∃y n,d=.bA y n∧o y=F)) d x (fun P P P b=>(nM AI e b)) x b
def Tt{d}{o}(b:oZ azm):∃i y n,ut (.aeh i y n) i y:=have(sR x):=Bp b;af.ee.aeh.az (hv:=ol (∀x:d.eP=5,af.ee.aeh.az (hv:=nO N) d x (fun i y P=>o i y)=F→∃i y n,ut (.aeh i y n) i y)) d x aTH x b
def Tv{d}{o}(b:oZ atP):∃v p y n,d=.al5 v p y n∧o v p y=F:=have(sR x):=Bp b;af.ee.al5.az (hv:=ol (∀x:d.eP=7,af.ee.al5.az (hv:=nO N) d x (fun v p y P=>o v p y)=F→∃v p y n,d=.al5 v p y n∧o v p y=F)) d x aRN x b
def MW{d}{o}(b:oZ atT):∃i n,d=.ai9 i n∧o i=F:=have(sR x):=Bp b;af.ee.ai9.az (hv:=ol (∀x:d.eP=4,af.ee.ai9.az (hv:=nO N) d x (fun i P=>o i)=F→∃i n,d=.ai9 i n∧o i=F)) d x (fun P P P b=>(nM AI e b)) x b
def TK{d}{o}(b:oZ azF):∃v j ab n,d=.anO v j ab n∧aRm=F:=have(sR x):=Bp b;af.ee.anO.az (hv:=ol (∀x:d.eP=12,af.ee.anO.az (hv:=nO N) d x (fun v j ab P=>aRm)=F→∃v j ab n,d=.anO v j ab n∧aRm=F)) d x aRN x b
def TW{d}{o}(b:oZ azR):∃v j ab n,d=.amn v j ab n∧aRm=F:=have(sR x):=Bp b;af.ee.amn.az (hv:=ol (∀x:d.eP=11,af.ee.amn.az (hv:=nO N) d x (fun v j ab P=>aRm)=F→∃v j ab n,d=.amn v j ab n∧aRm=F)) d x aRN x b
def TJ{d}{o}(b:oZ azD):∃v q j ab n,d=.ajc v q j ab n∧o v q j ab=F:=have(sR x):=Bp b;af.ee.ajc.az (hv:=ol (∀x:d.eP=9,af.ee.ajc.az (hv:=nO N) d x (fun v q j ab P=>o v q j ab)=F→∃v q j ab n,d=.ajc v q j ab n∧o v q j ab=F)) d x (fun P P P P P P b=>(ni Bk _ e b)) x b
def TQ{d}{o}(b:oZ azL):∃y n,d=.aqz y n∧o y=F:=have(sR x):=Bp b;af.ee.aqz.az (hv:=ol (∀x:d.eP=3,af.ee.aqz.az (hv:=nO N) d x (fun y P=>o y)=F→∃y n,d=.aqz y n∧o y=F)) d x (fun P P P b=>(nM AI e b)) x b
def TD{d}{o}(b:oZ azx):∃n,d=.anJ n∧o=F:=have(sR x):=Bp b;af.ee.anJ.az (hv:=ol (∀x:d.eP=27,af.ee.anJ.az (hv:=nO N) d x (nO o)=F→∃n,d=.anJ n∧o=F)) d x (fun P P b=>yy) x b
def TP{d}{o}(b:oZ azK):∃n,d=.anU n∧o=F:=have(sR x):=Bp b;af.ee.anU.az (hv:=ol (∀x:d.eP=25,af.ee.anU.az (hv:=nO N) d x (nO o)=F→∃n,d=.anU n∧o=F)) d x (fun P P b=>yy) x b
def DS{cg}{i:Ë}{g}(b:ahm i g=F):i=[]∧g=F:=by rw[oT i (by exact sR e) _ _ (by rw[sT])]
def Jt{cg}{i}{o:wF cg Ë}(b:aoi i o=F):∃j xs,i=qi∧o j xs=F:=by rw[oT i (by rw[sT]) _ _ (by exact(nM AI e b))]
def C'{cg}{i}{o:cg→N}(b:i0 i o=F):∃j,i=[j]∧o j=F:=have⟨_,_,d,b⟩:=Jt b;have(sR a5):=DS b;(ql (a5▸d) b)
def MT{cg}{i}{o:wF cg cg}(b:aaq i o=F):∃j ab,i=aVU∧o j ab=F:=have⟨_,_,d,b⟩:=Jt b;have⟨_,a5,b⟩:=C' b;(sb AI (a5▸d) b)
def DU{cg}{p}{o:cg→N}(b:ajq p o=F):∃j,p=c j∧o j=F:=Ũ p (by rw[sT]) _ (by exact yy)
def DT{cg}{p:aOy}{g}(b:ajp p g=F):p=B∧g=F:=Ũ p (by exact sR e) _ (by rw[sT])
def TM{x}{o}(b:azG x o=F):∃q,x=n'∧o q=F:=have(sR t):=Bp b;afc.m.az (aiJ:=fun x=>∀t:x.eP=2,afc.m.az (aiJ:=nO N) x t o=F→∃q,x=n'∧o q=F) x t (fun P P b=>yy) t b
def TR{x}{o}(b:azM x o=F):∃q,x=og q∧o q=F:=have(sR t):=Bp b;afc.bi.az (aiJ:=fun x=>∀t:x.eP=5,afc.bi.az (aiJ:=nO N) x t o=F→∃q,x=og q∧o q=F) x t (fun P P b=>yy) t b
def Tx{x}{o}(b:azs x o=F):∃q,x=qP q∧o q=F:=have(sR t):=Bp b;afc.aO.az (aiJ:=fun x=>∀t:x.eP=1,afc.aO.az (aiJ:=nO N) x t o=F→∃q,x=qP q∧o q=F) x t (fun P P b=>yy) t b
def EK{d}{o}(b:oZ akO):∃ac as n,d=.jG ac as [] n∧o ac as n=F:=have⟨_,_,_,_,d,b⟩:=Ty b;have(sR a5):=DS b;(A9 _ _ _ (a5▸d) b)
def Hm{d}{o}(b:oZ aoj):∃p k lw as n,d=.jG (.aaf p k lw) as [] n∧o p k lw as n=F:=have⟨_,_,_,d,b⟩:=EK b;have⟨_,_,_,a5,b⟩:=Hk b;(ni Bk _ (a5▸d) b)
def TU{d}{o}(ag:oZ azP):∃y aP z1 bz,ut (.aak y (.lv B (c aP) B z1) bz) y aP:=by rw[r5 DV,mZ ag,r9,pw AA Ho,oK,aPu,aU2,mZ ag,ł,aU1,mZ ag,yC,aU2,oK,ł,mW aTE]
def MZ{d}{o}(ag:oZ atX):∃y aP z1 bz,ut (.aak y (.lv (c aP) B B z1) bz) y aP:=by rw[r5 DV,mZ ag,r9,pw AA Ho,oK,aPu,aU1,mZ ag,yC,aU2,mZ ag,ł,aU2,oK,ł,mW aTE]
def TS{d}{o}(ag:oZ azN):∃y i aP z1 bz,d=.aak y (.lv (c i) (c aP) B z1) bz∧o y i aP=F:=by rw[r5 DV,mZ ag,r9,pw AA Ho,oK,aPu,aU1,mZ ag,yC,aU1,mZ ag,yC,aU2,oK,ł,mW (ni Bk _ e ag)]
def TT{d}{o}(ag:oZ azO):∃y aP z1 bz,ut (.aak y (.lv B B (c aP) z1) bz) y aP:=by rw[r5 DV,mZ ag,r9,pw AA Ho,oK,aPu,aU2,mZ ag,ł,aU2,mZ ag,ł,aU1,oK,yC,mW aTE]
def Tz{d}{o}(ag:oZ azu):∃i f' l z1,d=.akq i [f'] [l] z1∧o i f' l=F:=by rw[pw AA TA,oK,aPu,aSK,mZ ag,yC,aSK,oK,yC,mW aTE]
def FW{d}{o}(ag:oZ amz):∃ac j z1,ut (.jG ac [j] [] z1) ac j:=by rw[r5 EK,oK,r9,aSK,oK,yC,mW A9 _ _ _ e ag]
def MV{d}{o}(ag:oZ atR):∃ac j ab z1,d=.jG ac aVU [] z1∧o ac j ab=F:=by rw[r5 EK,oK,r9,pw AR MT,oK];rintro _ _ e ag;exact aTE
def TN{d}{o}(ag:oZ azI):∃p k lw n,d=.jG (.aaf p k lw) [] [] n∧o p k lw n=F:=by rw[pw Bz Hm,oK];rintro _ _ _ _ _ e ag;rw[pw Ai DS,oK,ł,mW aTE]
def Ju{d}{o}(ag:oZ aq0):∃p k lw j n,d=.jG (.aaf p k lw) [j] [] n∧o p k lw j n=F:=by rw[pw Bz Hm,oK];rintro _ _ _ _ _ e ag;rw[aSK,oK,yC,mW (ni Bk _ e ag)]
def TO{d}{o}(ag:oZ azJ):∃p k lw j ab n,d=.jG (.aaf p k lw) aVU [] n∧o p k lw j ab n=F:=by rw[pw Bz Hm,oK];rintro _ _ _ _ _ e ag;rw[pw AR MT,oK];rintro _ _ e ag;exact(nM (ni Hx) e ag)
def TB{d}{o}(ag:oZ azw):∃jN j z1 gQ fs x bz,d=.aff jN [⟨.kM j z1,gQ,fs,0⟩] x bz∧o jN j gQ fs x=F:=by rw[pw AA TC,oK,aPu,aSK,mZ ag,mY J];rcases J with(⟨_,_,_,_⟩);rw[ł,pw AR Hn,oK];intro _ _ d ag;rw[aSL,mZ ag,mY dQ ag,pD d,pD (cD dQ),mW (ni Ng _ _ _ e ag)]
def FV{d}{o}(ag:oZ amy):∃v y z1,ut (.aeh qU y z1) v y:=by rw[r5 Tt,oK,r9,aSK,oK,yC,mW A9 _ _ _ e ag]
def Tq{d}{o}(ag:oZ azn):∃p v z1 y bz,d=.aeh [.aaf p v z1] y bz∧o p v y=F:=by rw[r5 FV,oK,r9,r5 Hk,oK,r9,mW (ni Bk _ e ag)]
def Tr{d}{o}(ag:oZ azo):∃p q z1 y bz,d=.aeh [.aak p q z1] y bz∧o p q y=F:=by rw[r5 FV,oK,r9,r5 DV,oK,r9,mW (ni Bk _ e ag)]
def Ts{d}{o}(ag:oZ azp):∃a' z1 bz y e3,ut (.aeh [.ac5 a' z1 bz] y e3) a' y:=by rw[r5 FV,oK,r9,r5 M0,oK,r9,mW (ni Bk _ e ag)]
def Tu{d}{o}(ag:oZ azq):∃p v z1 f' y bz,d=.al5 (.aaf p v z1) f' y bz∧o p v f' y=F:=by rw[pw AA Tv,oK,aPu,r5 Hk,oK,r9,mW (nM (ni Hx) e ag)]
def TF{d}{o}(ag:oZ azz):∃p q z1 bz,ut (.ai9 [.aak p q z1] bz) p q:=by rw[pw AR MW,oK];rintro _ _ e ag;rw[aSK,mZ ag,yC,r5 DV,oK,r9,mW aTE]
def TE{d}{o}(ag:oZ azy):∃p i z1 bz e3,ut (.ai9 [.aak p (.lv (c i) B B z1) bz] e3) p i:=by rw[pw AR MW,oK];rintro _ _ e ag;rw[aSK,mZ ag,yC,pw AA MZ,oK,aPu,mW (ni Bk _ e ag)]
def TV{d}{o}(ag:oZ azQ):∃v j z1,ut (.amn v j [] z1) v j:=by rw[pw AA TW,oK,aPu,pw Ai DS,oK,ł,mW A9 _ _ _ e ag]
def MX{d}{o}(ag:oZ atU):∃v gQ j z1,d=.ajc v gQ j [] z1∧o v gQ j=F:=by rw[pw Bz TJ,oK];rintro _ _ _ _ _ e ag;rw[pw Ai DS,oK,ł,mW aTE]
def TI{d}{o}(ag:oZ azC):∃v fn eb z1 j bz,d=.ajc v (.jG fn eb [] z1) j [] bz∧o v fn eb j=F:=by rw[pw AA MX,oK,aPu,r5 EK,oK,r9,mW (nM (ni Hx) e ag)]
mutual variable{K:anM}{mp:wU}{aE:kq}
def V5{d}:qj dz.B (∃z1 bz,d=af.bA.ah0 .B z1 bz):=yM (by rw[r5 Hl,r9,pD (cD ag),mW (nv BN e)])
def VQ{g}{d}:qj (dz.aO g) (∃x z1 bz,d=af.bA.ah0 (qP x) z1 bz∧(g==x)=F):=yM (by rw[r5 Hl,r9,pw Ac Tx,yC,mW A9 _ _ _ e ag])
def Wa{k}{d}:qj (dz.bi k) (∃j z1 bz,d=af.bA.ah0 (og j) z1 bz∧(j==af.bH.dF k)=F):=yM (by rw[r5 Hl,r9,pw Ac TR,yC,mW A9 _ _ _ e ag])
def Wd{q}{d}:qj (dz.A q) (∃id z1,d=af.bA.kM id z1∧(apo mp aE q id)=F):=pL Hn
def Wb{Aa}{d}:qj (dz.ay Aa) (∃i z1 bz,d=af.bA.ac5 i z1 bz∧(b1 (wq 1000)&&jj K mp aE Aa i)=F):=pL M0
def VY{Aa}{d}:qj (dz.bm Aa) (∃i z1,d=af.bA.r i z1∧(b1 (wq 1000)&&jj K mp aE Aa i)=F):=pL MY
def V4{Aa}{d}:qj (dz.hw Aa) (∃i z1,d=af.bA.r i z1∧(b1 (wq 1000)&&jj K mp aE Aa i)=F):=pL MY
def V3{aic}{d}:qj (dz.lK aic) (∃z1,d=af.bA.ah2 [] [] z1):=yM (by rw[r5 TG,r9,pw Ai DS,ł,pw Ai DS];rintro e _;exact u0)
def VO{f}{h}{d}:qj (dz.be f h) (∃y k z1,d=af.bA.aaf y k z1∧(k==Î&&(aeS y&&aOO))=F):=pL Hk
def V_{f}{o}{d}:qj (dz.ady f o) (∃y aP z1 bz,d=af.bA.aak y (.lv B (c aP) B z1) bz∧(aOO&&q_ o aP)=F):=pL TU
def V9{f}{o}{d}:qj (dz.ahW f o) (∃y aP z1 bz,d=af.bA.aak y (.lv (c aP) B B z1) bz∧(aOO&&q_ o aP)=F):=pL MZ
def V8{f}{q}{aq}{d}:qj (dz.agV f q aq) (∃y i aP z1 bz,d=af.bA.aak y (.lv (c i) (c aP) B z1) bz∧(aOO&&(akI q i&&akI aq aP))=F):=pL TS
def V7{f}{d}:qj (dz.rev f) (∃y aP z1 bz,d=af.bA.aak y (.lv B B (c aP) z1) bz∧(aOO&&avR aP)=F):=pL TT
def VP{p}{f}{g}{d}:qj (dz.dM p f g) (∃i f' l z1,d=af.bA.anI i f' l z1∧(amt p f'&&(q_ f i&&q_ g l))=F):=pL Tw
def N9{f}{d}:qj (dz.ju f) (∃j z1,d=af.bA.ahj .atd j z1∧aON=F):=yM (by rw[r5 Jv,r9,aSL];rintro dQ ag;rw[pD (cD dQ),mW (nM AI e ag)])
def N7{p}{f}{g}{d}:qj (dz.aX p f g) (∃i f' l z1,d=af.bA.akq i [f'] [l] z1∧(atN p f'&&(! aGz f' l&&(q_ f i&&q_ g l)))=F):=pL Tz
def N6{Aa}{d}:qj (dz.eB Aa) (∃i z1,d=af.bA.ag6 .gL i z1∧(jj K mp aE Aa i)=F):=yM (by rw[r5 MU,r9,aSL];rintro dQ ag;rw[pD (cD dQ),mW (nM AI e ag)])
def N'{Aa}{d}:qj (dz.or Aa) (∃i z1,d=af.bA.ag6 .aQ i z1∧(jj K mp aE Aa i)=F):=yM (by rw[r5 MU,r9,aSL];rintro dQ ag;rw[pD (cD dQ),mW (nM AI e ag)])
def N_{f}{d}:qj (dz.ir f) (∃j z1,d=af.bA.ahj .axm j z1∧aON=F):=yM (by rw[r5 Jv,r9,aSL];rintro dQ ag;rw[pD (cD dQ),mW (nM AI e ag)])
def N8{x}{f}{g}{d}:qj (dz.bC x f g) (∃v j ab z1,d=af.bA.amf v j ab z1∧(q_ x v&&(aON&&q_ g ab))=F):=pL TL
def VZ{f}{h}{Aa}{d}:qj (dz.eT f h Aa) (∃p k iB eb bs,d=af.bA.jG (.aaf p k iB) eb [] bs∧(k==Î&&(aeS p&&(iB.agp==bs.iG&&(b1 (eb.z≤20)&&(aQw&&jj K mp aE Aa eb)))))=F):=pL Hm
def VX{f}{d}:qj (dz.c9 f) (∃fn j z1,d=aVI [j]∧(aRh "len"&&(iS j&&aON))=F):=pL FW
def VM{f}{d}:qj (dz.dS f) (∃fn j z1,d=aVI [j]∧(aRh "any"&&(iS j&&aON))=F):=pL FW
def VL{f}{d}:qj (dz.db f) (∃fn j z1,d=aVI [j]∧(aRh "all"&&(iS j&&aON))=F):=pL FW
def V'{f}{d}:qj (dz.alT f) (∃fn j z1,d=aVI [j]∧(aRh "sorted"&&(iS j&&aON))=F):=pL FW
def Wc{f}{d}:qj (dz.af3 f) (∃fn j z1,d=aVI [j]∧(aRh "tuple"&&(iS j&&aON))=F):=pL FW
def V0{f}{g}{d}:qj (sH dz.anh) (∃fn j ab z1,d=aVI aVU∧(aRh "min"&&(iS j&&(iS ab&&(aON&&q_ g ab))))=F):=pL MV
def VU{f}{d}:qj (dz.aa4 f) (∃fn j ab z1,d=aVI aVU∧(aRh "isinstance"&&(iS j&&(ki aE ab "str"&&aON)))=F):=pL MV
def VS{f}{o}{d}:qj (dz.akP f o) (∃p k iB j bs,d=af.bA.jG (.aaf p k iB) [j] [] bs∧(k==af.bH.dF "get"&&(aeS p&&(iB.agp==bs.iG&&(iS j&&(aQw&&q_ o j)))))=F):=pL Ju
def VW{o}{aj}{d}:qj (dz.aaA o aj) (∃p k iB j ab bs,d=af.bA.jG (.aaf p k iB) aVU [] bs∧(k==af.bH.dF "get"&&(ki aE p "KEY_FAMILIES"&&(iB.agp==bs.iG&&(iS j&&(iS ab&&(q_ o j&&q_ aj ab))))))=F):=pL TO
def VN{f}{j}{d}:qj (dz.hq f j) (∃p k iB ab bs,d=af.bA.jG (.aaf p k iB) [ab] [] bs∧(k==af.bH.dF "append"&&(aeS p&&(iB.agp==bs.iG&&(iS ab&&(aQw&&q_ j ab)))))=F):=pL Ju
def VT{f}{j}{d}:qj (dz.aft f j) (∃p k iB ab bs,d=af.bA.jG (.aaf p k iB) [ab] [] bs∧(k==af.bH.dF "extend"&&(aeS p&&(iB.agp==bs.iG&&(iS ab&&(aQw&&q_ j ab)))))=F):=pL Ju
def V6{f}{d}:qj (dz.adw f) (∃p k iB bs,d=af.bA.jG (.aaf p k iB) [] [] bs∧(k==af.bH.dF "pop"&&(aeS p&&(iB.agp==bs.iG&&aQw)))=F):=pL TN
def Kf{gD}{eH}{kF}{gP}{d}:qj (dz.go gD eH kF gP) (∃jN j z1 gQ fs x bz,d=af.bA.aff jN [⟨.kM j z1,gQ,fs,0⟩] x bz∧(aod mp aE j eH x&&(q_ kF gQ&&(b_ K aTD x gD jN&&jj K aTD x gP fs)))=F):=pL TB
def VC{f}{k}:yI (md.f_ f) (∃y z1,k=af.ee.bA y z1∧(ahP y&&aOO)=F):=pL TH
def Vx{q}{f}{k}:yI (md.ci q f) (∃v y z1,k=af.ee.aeh qU y z1∧(aeJ mp aE q v&&(ahP y&&aOO))=F):=pL FV
def N5{q}{f}{k}:yI (md.age q f) (∃v y z1,k=af.ee.aeh qU y z1∧(aeJ mp aE q v&&(b1 (y.eP=8)&&aOO))=F):=pL FV
def VH{f}{h}{j}{k}:yI (md.dU f h j) (∃p v z1 y bz,k=af.ee.aeh [.aaf p v z1] y bz∧(v==Î&&(ahP y&&(aQw&&q_ j y)))=F):=pL Tq
def VJ{is}{f}{k}:yI (md.acg is f) (∃a' z1 bz y e3,k=af.ee.aeh [.ac5 a' z1 bz] y e3∧(alV mp aE is a'&&(ahP y&&(awD y&&(b1 is.fF&&aOO))))=F):=pL Ts
def Vy{f}{h}{p}{j}{k}:yI (md.agg f h p j) (∃d v z1 f' y bz,k=af.ee.al5 (.aaf d v z1) f' y bz∧(v==Î&&(amt p f'&&(q_ f d&&q_ j y)))=F):=pL Tu
def VA{f}{o}{k}:yI (md.amB f o) (∃p i z1 bz e3,k=af.ee.ai9 [.aak p (.lv (c i) B B z1) bz] e3∧(aQw&&q_ o i)=F):=pL TE
def VF{x}{f}{g}{k}:yI (md.bC x f g) (∃v j ab z1,k=af.ee.anO v j ab z1∧(q_ x v&&(acO K mp aE f j&&acO K mp aE g ab))=F):=pL TK
def VK{x}{g}{k}:yI (md.ag2 x g) (∃v j z1,k=af.ee.amn v j [] z1∧(q_ x v&&acO K mp aE g j)=F):=pL TV
def VE{q}{f}{g}{k}:yI (md.jd q f g) (∃v gQ j z1,k=af.ee.ajc v gQ j [] z1∧(aeJ mp aE q v&&(q_ f gQ&&acO K mp aE g j))=F):=pL MX
def VD{q}{Aa}{g}{k}:yI (md.mn q Aa g) (∃v fn eb z1 j bz,k=af.ee.ajc v (.jG fn eb [] z1) j [] bz∧(aeJ mp aE q v&&(aRh "range"&&(jj K mp aE Aa eb&&acO K mp aE g j)))=F):=pL TI
def Vz{k}:yI md.abl (∃z1,k=af.ee.anJ z1):=yM (by rw[pw Ac TD];rintro _ e _;exact u0)
def VG{k}:yI md.alK (∃z1,k=af.ee.anU z1):=yM (by rw[pw Ac TP];rintro _ e _;exact u0)
def VV{f o}{d}:qj (dz.aT f o) (∃y k a,d=af.bA.aak y k a∧(aj3 k&&(aOO&&q_ o k))=F):=pL DV
def VR{ac}{Aa}{d}:qj (dz.bp ac Aa) (∃fn as a h,d=af.bA.jG fn as [] a∧K.amH ac=c h∧(ki aE fn h&&(b1 (as.z≤20)&&jj K mp aE Aa as))=F):=yM (by rw[r5 EK,r9,aU1];rintro _ d ag;exact(ni Hw e d ag))
def V2{ac}{Aa}{d}:qj (dz.lJ ac Aa) (∃fn as a h,d=af.bA.jG fn as [] a∧K.akH ac=c h∧(ki aE fn h&&(b1 (as.z≤20)&&jj K mp aE Aa as))=F):=yM (by rw[r5 EK,r9,aU1];rintro _ d ag;exact(ni Hw e d ag))
def VI{f o j}{k}:yI (md.jl f o j) (∃p q z1 y bz,k=af.ee.aeh [.aak p q z1] y bz∧(aj3 q&&(ahP y&&(aQw&&(q_ o q&&q_ j y))))=F):=pL Tr
def VB{f o}{k}:yI (md.agn f o) (∃p q z1 bz,k=af.ee.ai9 [.aak p q z1] bz∧(aj3 q&&(aQw&&q_ o q))=F):=pL TF
def CB{d}{Aa}{i}:jj K mp aE u6 i=F→∃j xs,i=qi∧iS j=F∧q_ d j=F∧jj K mp aE Aa xs=F:=yM (by rw[pw AR Jt];rintro _ _ d ag;rw[aSL];rintro dQ ag;rw[aSL];rintro dW ag;exact(nM Bx d dQ dW ag))
end
set_option tactic.hygienic false
def Cm{cg gn:Type}{p}{ac:vH cg gn}{j}(b:p.bP ac=c j):∃f,p=c f∧ac f=c j:=Ũ p (by rw[xF]) f (by exact(Ad f e b))
def H9{cg gn:Type}{p}{ac:cg→gn}{j}(b:p.au ac=c j):∃f,p=c f∧ac f=j:=Ũ p (by rw[xF]) f (by exact(pQ (Ad f e) ap.c.dB))
def Cl{cg}{y}{o}{j:cg}(b:jp y o=c j):∃q,y=n'∧o q=c j:=by rw[qO y m q (by exact yy) (by rw[xF])]
def Cx{cg}{y}{o}{j:cg}(b:aam y o=c j):∃q,y=n3∧o q=c j:=by rw[qO y D q (by exact yy) (by rw[xF])]
def IS{cg}{y}{o}{j:cg}(b:acr y o=c j):∃q,y=nE q∧o q=c j:=by rw[qO y ay q (by exact yy) (by rw[xF])]
def IQ{cg}{y}{o}{j:cg}(b:abO y o=c j):∃q,y=oh q∧o q=c j:=by rw[qO y bm q (by exact yy) (by rw[xF])]
def Ge{cg}{w}{q}{o}{j:cg}(b:agz w q o=c j):∃x fs,aSB∧o x fs=c j:=by revert b;delta agz;generalize s_=p;rw[nR,tm p (by rw[tb]) f (by induction f using c_.ae with|bS x fs=>exact nM AI e b|_=>rw[tb])]
def Gf{cg}{w}{q}{o}{j:cg}(b:kC w q o=c j):∃i,yp∧o i=c j:=by revert b;delta kC;generalize s_=p;rw[nR,tm p (by rw[tb]) f (by induction f using c_.ae with|aw i=>exact yy|_=>rw[tb])]
def J4{cg}{w}{q}{o}{j:cg}(b:aat w q o=c j):∃i,aUJ∧o i=c j:=by revert b;delta aat;generalize s_=p;rw[nR,tm p (by rw[tb]) f (by induction f using c_.ae with|bE i=>exact yy|_=>rw[tb])]
def NL{cg}{w}{q}{o}{j:cg}(b:ajx w q o=c j):∃i,á∧o i=c j:=by revert b;delta ajx;generalize s_=p;rw[nR,tm p (by rw[tb]) f (by induction f using c_.ae with|bM i=>exact yy|_=>rw[tb])]
def Ct{cg:Type}{x}[aj:ah1 x]{p}{j:cg}(b:(nK x p)=c j):x∧p=c j:=by induction aj using ah1.ae with|alt hc=>exact sR hc|avz _=>rw[xF]
def Ay{cg gn:Type}{p}{ac:vH cg gn}{j}{E:Prop}(b:p.bP ac=c j)(o:∀f,p=c f→ac f=c j→E):E:=(Cm b).az fun f t=>o f oq oI
def AU{cg gn:Type}{p}{ac:cg→gn}{j}{E:Prop}(b:p.au ac=c j)(o:∀f,p=c f→ac f=j→E):E:=(H9 b).az fun f t=>o f oq oI
def Bc{cg:Type}{x}[aj:ah1 x]{p}{j:cg}{E:Prop}(b:(nK x p)=c j)(o:x→p=c j→E):E:=o (Ct b).1 (Ct b).2
structure iJ where
 b':aej
 V:kc
 M:j2
 n:aej
 li:r af.bH
 aaF:vH axc ck
 mg:r8
 mb:r8
 bf:b8
 K:anM
 eR:u→d7
 ij:u→d7
 O:mE
 hU:vH u dk deriving gN
structure aFN(M:j2)(aD:d7):Prop where
 ga:abU M (nP aD) "__getattribute__"=c (c (.acy "object.__getattribute__"))
 gt:abU M (nP aD) "__getattr__"=c B
 sa:abU M (nP aD) "__setattr__"=c (c (.acy "object.__setattr__"))
 po:aKL M aD=F
 hd:(atL M aD).dS (·.hasDict)=F
 aid:abU M (nP aD) "__bool__"=c B
 aNd:abU M (nP aD) "__len__"=c B
 aNf:ar5 M aD=F
def avx:∀{M}{aD}(b:am4 M aD=F),aFN M aD:=by rw[mY M aD,nR,Ä am4,sB N.c3 lb,mX HB b fun f g x aj d ac K q=>?_,mW ⟨f,g,x,aj,d,ac,K,q⟩]
structure hT(E:iJ):Prop where
 adB:atb E.n E.li E.aaF E.mg E.mb E.bf
 cL:E.M.abK E.bf
 aER:xK E.bf.bg asz
 const:∀h hJ,E.K.atM.cm h=c hJ→∃y,xJ E.mg=c y∧∀(b:b8)(X:eW),(tc E.bf.bg v0)→(∀g,E.bf.bg g≠B→ka X g)→de b X hJ y
 fn:∀ac h,E.K.amH ac=c h→xJ E.mg=c (Ñ E.ij ac)
 eY:∀x h,E.K.akH x=c h→xJ E.mg=c (Ñ E.eR x)
 ay4:∀h:ea,h∈["len","any","all","sorted","min","isinstance"]→xJ E.mg=B∧xJ E.mb=c (.acy h)
 abp:∀x j,E.O.abp x j=F→am4 E.M aQi=F∧aWq (abU E.M (Ñ E.eR x)) j=c B
 eT:∀x j ac,E.O.eT x j=c ac→am4 E.M aQi=F∧aWq (abU E.M (Ñ E.eR x)) j=c (c (Ñ E.ij ac))∧aE5 E.M (Ñ E.ij ac)=c (p3 "function")
 arW:∃f e1,E.mg "KEY_FAMILIES"=c si∧E.bf.aks (aVV mu) f e1∧(f==asz)=Y∧∀o,(∃y v,aew o E.O.aaA=c y∧ai1 e1 o=c (u2 y))∨(aew o E.O.aaA=B∧ai1 e1 o=B)
 aqT:∀h:ea,h∈["tuple","range","str"]→xJ E.mg=B∧xJ E.mb=c (p3 h)
structure gV(E:iJ)(h:u)(aI:lT)(U:b8)(am:d7):Prop where
 fk:aI.auA=B
 eZ:tc E.bf.bg (w4 U.bg)
 ap4:∃anG eX ahs aka,aFn anG eX aka U∧aI.aun=c (ahs::aka)∧ahs.frame=c am∧ahs.d_.cA=.abV
 i1:aI.i1+3*h+10<alO
 ib:aI.ib+12*h+400<mj
structure ma(aL:af.du)(aE:kq):Prop where
 cA:aL.d_.cA=.abV
 bL:aL.globals=lG
 akG:aL.azb=an8
 aeM:∀j,aOV «local»→ļ «local»
 cf:∀j,(aOV gh∨aOV ht)→(ļ gh∨ļ ht)
 aHy:∀j,aOV amK→ļ amK
 hr:∀j,(ļ gh∨ļ ht)→∃x,uZ x
structure cT(E:iJ)(U:b8)(am:d7)(H:r8)(b:b8)(X:eW)(w:ch):Prop where
 fr:aku U am b H
 hC:aaj E.b' E.V E.eR b X w
 hP:∀g,Ŋ→U.bg g=B∧aOR
 lx:∀g,g∈X.fL→E.bf.bg g=B∧∃p,v0
noncomputable abbrev gb(am:d7):=iz (fun g=>g=am)
abbrev anR(aL:af.du)(am:d7)(H:r8)(b:b8)(X:eW)(j:af.bH)(y:ck):Prop:=(ļ «local»∧((aL.apw=am∧rR H y)∨(Â aL.apw∧¬g6 X.bN aL.apw∧∃p Aa h,tN aL.apw∧p.fS=.bE Aa h∧aMA Aa∧nsFind Aa j=c y)))∨((ļ gh∨ļ ht)∧∃x p,uZ x∧Â x∧¬g6 X.bN x∧tN x∧p.fS=.gh qu)
abbrev mC(mp:wU)(aL:af.du)(am:d7)(H:r8)(l:du)(b:b8)(X:eW):Prop:=∀j q hJ,rR mp.cm q→(ļ «local»∨ļ gh∨ļ ht)→pO l (c hJ)→∃y,anR aL am H b X j y∧de b X hJ y
def anR.bx:∀{am}{H}{b h'}{X cv}{aL}{j}{y}(d:aT3 b)(i:anR aL am H b X j y),anR aL am H h' cv j y:=by injections am H b h' X cv aL j y;rw[mY d i,nY i i,mY J,nV,ng];rintro f g;rw[m9,mY J];rcases J with(⟨f,x,p,g,h,V,K,aj⟩);rw[m8,mX (pp ⟨f,?_⟩),nY g g];rintro g;rw[m9,mY J];rcases J with(⟨h,V,p,Aa,o,K,aj⟩);rw[m8,mW (pp g),mW (rt (AE h (d.Cw K V) (A9 p _ o (d.fx _ _ K h V) aj))),mW .bF (qd f (BU x p g h (d.Cw K V) (d.fx _ _ K h V) aj))]
def mC.bx{am}{H}{b h'}{X cv}{mp}{aL}{l}(j:aT3 b)(d:mC mp aL am H l b X):mC mp aL am H l h' cv:=fun ab q hJ f o g=>by rw[nD (d ab q hJ f o g) y i t,mW Ad y (i.bx j) (t.bx j)]
def cT.Bd:∀{E}{U}{am}{H}{b}{X}{w}(aB:s2),∀g p,g=am→v0→aPx:=by rw[mY E U am H b X w,mY aB];rintro g p e d;rw[mX B8 aB.fr.ns fun o' Aa ep a5 aj P=>?_,rl d,nf a5,mZ a5,mY a5,vL];unfold hK;rw[aj]
def cT.fI{E}{U}{am}{H}{b}{X}{w}(aB:s2):gb am b b X X:=iz.fI aB.Bd
def cT.B0{E}{U}{am}{H}{b h'}{X}{w}(aB:s2)(o:aUS Ī):aNR:=⟨fun g p d P P=>į,wd (vK į),fun g p j d=>⟨aB.Bd g p j d,aN4 (by rw[rl į,yV,zR (aB.Bd g p j d)])⟩,aPs,e⟩
def cT.g0{E}{U}{am}{H}{b h'}{X}{w}(aB:s2)(o:aUS Ī):wk h' X:=by rw[mX ⟨?_,aB.hC.g0 (aB.B0 o) fun g p P d=>į,aB.hP,fun g t=>⟨(ľ).1,let(xc):=(ľ).2;vK į⟩⟩,mX AD aB.fr.ns fun p Aa ep d l=>?_,mW ⟨(A9 p _ _ (tj o) l),wd (o g p (sq aB.fr.fx)),aB.fr.atg⟩]
def cT.eZ{E}{U}{am}{H}{b}{X}{w}{h}{aI}(aB:s2)(aN:pA):tc E.bf.bg v0:=wd (aB.fr.fx g p (sq aN.eZ))
def cT.Y7{E}{U}{am}{H}{b}{X}{w}{h}{aI}(aB:s2)(aN:pA):∀g,Ŋ→E.bf.bg g=B:=fun g t=>by rw[vz d (E.bf.bg g) (by rw[m2 (aB.hP g t).1,m5,o6 (sq aN.eZ),yL C3 aa])]
def cT.Ff{E}{U}{am}{H}{b}{X}{w}(bl:p9){h}{aI}(aB:s2)(aN:pA){g}(t:Ŋ):(g==asz)=Y:=by rw[mX ajl.gS fun d=>?_,oQ,uy bl.aER p d];rw[aB.Y7 aN _ t]at d;rw[pe d]
def cT.M{E}{U}{am}{H}{b}{X}{w}{h}{aI}(bl:p9)(aB:s2)(aN:pA):E.M.abK b:=fun f p d=>aB.eZ aN f p (bl.cL f p d)
def Bv{b:b8}{p}:∀g cR,aVv→(b.g' p).bg g=c cR:=fun P P d=>b8.aup _ d
def B9{b:b8}:Ż b.eU.c5:=by rw[vz d (b.bg b.eU.c5) (by exact eh (b8.and d) (u.apy _))]
def cT.DY{E}{U}{am}{H}{b}{X}{w}(aB:s2){g}(ac:b.bg g=B):ka X g:=by rw[vi (fun t=>?_) (fun t=>?_)];obtain⟨p,d⟩:=aB.hC.ahJ _ t;rw[ac]at d;rw[ě d];obtain⟨_,p,d⟩:=aB.lx _ t;rw[ac]at d;rw[pe d]
def cT.Dy{E}{U}{am}{H}{b}{X}{w}(aB:s2):ka X b.eU.c5:=aB.DY B9
def cT.Y8{E}{U}{am}{H}{b}{X}{w}{h}{aI}(aB:s2)(aN:pA):∀g,E.bf.bg g≠B→ka X g:=fun g t=>by induction d:E.bf.bg g using ap.ae with|B=>exact t_ t d|c p=>rw[m2 (sq aN.eZ),mY a,vi (fun V=>?_) (fun V=>?_)];rw[(aB.hP g V).1]at a;rw[ě a];rw[(aB.lx g V).1]at d;rw[pe d]
abbrev anW(E:iJ)(U:b8)(am:d7)(H:r8)(k:en)(X:eW)(aW:ux)(bJ:ch)(y:ar):Prop:=∀cM h' tk cv,aSY→aVP→de h' cv y cM→zt cM
abbrev amj(E:iJ)(U:b8)(am:d7)(H:r8)(k:en)(X:eW)(aW:t7 N)(bJ:ch)(g:N):Prop:=∀h' tk cv,aSY→aVP→aW g (yR h')
abbrev aqx(E:iJ)(U:b8)(am:d7)(H:r8)(k:en)(X:eW)(aW:t7 vm)(h:u)(bJ:ch)(vs:nC):Prop:=∀fM h' tk cv,aSY→aVP→ed h' cv vs fM→vs.z=h→zt fM
def Ll{cg gn:Type}{W:t4 gn cg}{f x}{g aj}(t:W aj x)(d:(f,g)=(x,aj)):W g f:=by rw[uT d,oA,mY d L,oQ,qD,mW t]
def anW.to{E}{U}{am}{H}{k}{X}{aW}{w bJ}{f y}(t:anW E U am H k X aW bJ y)(d:(f,w)=(y,bJ)):anW E U am H k X aW w f:=Ll t d
def aqx.to{E}{U}{am}{H}{k}{X}{aW}{h}{w bJ}{f y}(t:aqx E U am H k X aW h bJ y)(d:(f,w)=(y,bJ)):aqx E U am H k X aW h w f:=Ll t d
def amj.to{E}{U}{am}{H}{k}{X}{aW}{w bJ}{f g}(t:amj E U am H k X aW bJ g)(d:(f,w)=(g,bJ)):amj E U am H k X aW w f:=Ll t d
abbrev dp(E:iJ)(h:u)(aeO:dz):Prop:=∀{aI:lT}{U:b8}{am:d7}{aL:af.du}{aE:kq}{H:r8}{mp:wU}{d:af.bA}{l:du}{w bJ:ch}{y:ar}{k:en}{X:eW}{aW:ux}{bb:ux},pA→xM→aP4 b_ aeO d→q4→aS8→aOY (xS aU aeO)→anW E U am H k X aW bJ y→q6 (adc d aL)
abbrev mh(E:iJ)(h:u)(aeO:dz):Prop:=∀{aI:lT}{U:b8}{am:d7}{aL:af.du}{aE:kq}{H:r8}{mp:wU}{d:af.bA}{l:du}{w bJ:ch}{y:ar}{g:N}{k:en}{X:eW}{aW:t7 N}{bb:ux},pA→xM→aP4 b_ aeO d→q4→aS8→aOY (xS aU aeO)→aTy bJ→amj E U am H k X aW bJ g→q6 (alt d aL (adc d aL))
abbrev ac4(E:iJ)(h:u)(Aa:hG):Prop:=∀{aI:lT}{U:b8}{am:d7}{aL:af.du}{aE:kq}{H:r8}{mp:wU}{i:r af.bA}{bs:ac3}{l:du}{w bJ:ch}{vs:nC}{k:en}{X:eW}{aW:t7 vm}{bb:ux},pA→xM→aP4 jj Aa i→q4→aS8→xS h0 Aa=c (vs,bJ)→aqx E U am H k X aW i.z bJ vs→q6 (awt (act bs (aec i aL)))
def Abe:∀{E}{h},pW .B:=by rw[mY E h aI U am aL aE H mp d l w bJ y,mY k X aW bb,sv,o_ BF V5,mZ bG];rintro _ _ e;rw[Ō fK.mk.dB,nu,mY av,wG av,nu,oc e,mW fX (oJ aB.fI aB e)]
def AaV{E}{h}{g}:p8 qz:=fun{aI U am aL aE H mp d l w bJ y k X aW bb}aN M bG aB cz av t=>by rw[o_ AD VQ,mZ bG];rintro x _ _ e ag;rw[Ō fK.mk.dB,nu,mY av,m3 Ai av,nu,oc e];rw[lb]at ag;subst ag;exact fX (oJ aB.fI aB e)
def HV:∀{q}{d}(ag:akI q d=F),∃o n,d=.ah0 n' o n:=by rw[mY q d,mY ag,r5 Hl,oK,r9,pw Ac TM,oK,yC,mW (m7 BN (by rw[cD ag]))]
def Aa1{E}{h}{q}:p8 n':=fun{aI U am aL aE H mp d l w bJ y k X aW bb}aN M bG aB cz av t=>by rw[o_ BF HV,mZ bG];rintro _ _ e;rw[Ō fK.mk.dB,nu,mY av,wG av,nu,oc e,mW asL (oJ aB.fI aB u0)]
def Abn:∀{E}{h}{j},p8 (og j):=by rw[mY E h j aI U am aL aE H mp d l w bJ,mY y k X aW bb,sv,o_ AD Wa,mZ bG];rintro ab _ _ e ag;rw[Ō fK.mk.dB,nu,mY av,m3 Ai av,nu,oc e,pD (acz ag),mW wpAny_mkText (oJ aB.fI aB u0)]
def W_:∀{aE}{ag}{aI}{bb}{k}{aL}{U}{am}{H}{X}{j}{y}{aW}(M:xM)(aN:aku U am k.aK H)(i:anR aL am H k.aK X j y)(hc:(j==aT6 "__classdict__")=Y)(b:aW y k),v2 (loadName aL j):=by injections aE ag aI bb k aL U am H X j y aW;rw[mY M aN i hc b,nY i i,mY J,nV,ng];rintro f g;rw[m9,mY J];rcases J with(⟨f,x,p,g,afT,V,K,aj⟩);rw[m8,nY g g,mY J,nV,ng];rintro e g;rw[m9,mY J];rcases J with(⟨_,_,p,Aa,o,K,aj,aaL,ac⟩);rw[m8,mW aLN M.cA f aN.ns g b,mW aLN M.cA f (CT p _ o K aj aaL (nO e)) ac b,nY f f];rintro f;rw[m9];rintro f;rw[m8,mW wpAny_loadName_cell M.cA f g (Ad p K aj) b,mW wpAny_loadName_free M.cA f g (Ad p K aj) b hc]
def Wj:∀{mp}{aE}{q}{j}(ag:apo mp aE q j=F),rR mp.cm q∧(aOV «local»∨aOV gh∨aOV ht)∧(j==aT6 "__debug__")=Y∧(j==aT6 "__classdict__")=Y:=by rw[mY mp aE q j,mY ag];unfold apo at ag;simp only[N.c3,N.acR,lb,ay9]at ag;rw[mX Bq ag fun f g x aj=>?_,mW By f (g.az (·.az .bT fun t=>.bF (.bT t)) fun t=>rt (.bF t)) (ajl.gS x) (ajl.gS aj)]
def Abr:∀{E}{h}{q},p8 Ė:=by rw[mY E h q aI U am aL aE H mp d l w bJ,mY y k X aW bb,sv,o_ AR Wd,mZ bG];rintro j _ e ag;rw[yq (Wj ag) Ab aG hd hc,pv AU av fD aJ d,nu,uT d,oA,mY d L,oQ,qD,m1 (op l _) (by induction br:rS l using ap.ae with|B=>rw[br]at aJ;injection aJ|c p=>rw[br]at aJ;rw[show p=c _ from aJ]),mY ab1,nD (cz j q fD Ab (aG.az (qW (.bT (M.aeM j a))) (qW (rt (M.cf j a)))) ab1) cM i ft,mW aLG (W_ M aB.fr i hc (oJ aB.fI aB ft)) hd]
def De:∀{aE}{ac}{j}(ag:ki aE ac j=F),∃n,ac=.kM (af.bH.dF j) n∧aWq aE.bw.cm j=c .amK∧(af.bH.dF j==aT6 "__debug__")=Y:=by injections aE ac j;rw[mY ag,pw AR Hn,mZ ag];rintro id n e akv;simp only[N.c3,ay9]at akv;rw[pv AC akv f g x,mZ akv,pD (acz f),mW AP _ e (o7 g) (ajl.gS x)]
def OD:∀{aE}{ag}{aI}{bb}{k}{aL}{j}{n}{aW}(M:xM)(J:aOV amK)(hd:(j==aT6 "__debug__")=Y)(b:v2 (aDD aL j)),v2 (adc (aNM j) aL):=by injections aE ag aI bb k aL j n aW;rw[mY M J hd b,mX aLG ?_ hd];unfold loadName;(have aV:aL.d_.cA.isAnnotationScope=Y:=sh M.cA);rw[aV];rw[N.aeu,N.aeu,cH N.aoC]at⊢;rw[zn fX,m1 (aL.aGB=.abV) (by unfold du.aGB;rw[aV];simp[M.cA]),mY bj,m2 (pa M.aHy),mY cV,bj,cV,mW b]
def HN{aE}{ag}{aI}{bb}{k}{aL}{j}{n}{y}{mg}{aW}(M:xM)(J:aOV amK)(hd:(j==aT6 "__debug__")=Y)(hg:k.aK.af7 lG mg)(aJ:rR mg y)(b:aW y k):v2 (adc (aNM j) aL):=by refine OD M J hd ?_;unfold aDD;rw[M.bL,mW dH (aFe hg (nb aJ (fX b)))]
def HM{aE}{ag}{aI}{bb}{k}{aL}{j}{n}{y}{mg mb}{aW}(M:xM)(J:aOV amK)(hd:(j==aT6 "__debug__")=Y)(hg:k.aK.af7 lG mg)(bK:mg j=B)(U:k.aK.af7 an8 mb)(aJ:rR mb y)(b:aW y k):v2 (adc (aNM j) aL):=by refine OD M J hd ?_;unfold aDD;rw[M.bL,M.akG,mW dH (aFe hg (nb bK (dH (aFe U (nb aJ (fX b))))))]
def Aa0:∀{E}{h}(bl:p9){j}{hJ},p8 (.bL j hJ):=by rw[mY E h,mY bl,mY j hJ aI U am aL aE H mp d l w bJ y,mY k X aW bb,sv,m1 ((ki _ d j&&b1 _)=F) bG,mY ag,ø ag,m3 Ai ag,oK,mY ag hc,pw AF De,mZ bG ag];rintro n e J hd;rw[Ō fK.mk.dB,nu,mY av,m3 Ai av,nu,oc e,nD (bl.const j hJ hc) cM aJ br,mX HN M J hd (aQY bl.adB.K.g0) aJ (oJ aB.fI aB (br _ _ (aB.eZ aN) (aB.Y8 aN)))]
def BT{d}{hQ}{aL}(b:iS d=F):aec (d::hQ) aL=(Y,adc d aL)::aec hQ aL:=by rw[y6 d af.bA.ae (by rw[xF])]
def AbO:∀{E}{h},p_ ac4 .C:=by rw[mY E h aI U am aL aE H mp i bs l w bJ,mY vs k X aW bb,sv];induction i using r.ae with|s _ _=>rw[sQ bG]|C=>rw[m3 Ak (show ŵ []=c (vs,bJ)from av),nu,mY av,m3 BL av,nu,oc e,mW aEE (oJ aB.fI aB e e)]
def AbN:∀{E}{h}{d}{Aa}(l8:pW d)(it:aNS),ac4 E h u6:=by rw[mY E h d Aa,mY l8 it,mY aI U am aL aE H mp i bs l w bJ vs k,mY X aW bb,sv,o_ BV CB,mZ bG,aQO (by rintro j xs e hs dQ dW) y,o3,xw,mY J,tQ asD];rintro gx d;rw[nu,m2 tP,mZ t,mY t,mX awu (wr l8 dQ (fun cM h' tk cv I bQ bW=>?_)) (BT hs),mX (x2 it dW x0 gx fun fM aoL ap8 aFk L c7 fh aC=>?_),mW (oJ wt c7 (Au _ _ e xD fh) (rA aC))]
def cT.JP{E}{U}{am}{H}{b h'}{X}{w}(aB:s2){n}(o:aUS Ī)(gE:Ż nk)(f2:Ż nh):gb am b h' X (X.e_ n):=⟨fun g p d P P=>į,wd (vK į),fun g p j d=>⟨aB.Bd g p j d,aN4 (by rw[rl į,yV,zR (aB.Bd g p j d)])⟩,(Ad ([n]) e (fun g⟨t,cG,fk⟩=>by rw[r.i7]at cG;subst cG;rw[nY fk fk,n8,m9,n8,m8,mW gE,mW f2])),e⟩
def cT.an2{E}{U}{am}{H}{b h'}{X}{w}(aB:cT E U am H b X w){n}{p}(o:aUS Ī)(gE:Ż nk)(f2:Ż nh)(l:mD E.b' E.V E.eR h' (X.e_ n) p n):t3 h' (X.e_ n) (w++[p]):=by rw[mX ⟨(aB.g0 o).fr,aB.hC.an2 (aB.JP o gE f2) (fun g cR P d=>o g cR d) l gE f2 aB.hC.ahJ,fun g t=>?_,(aB.g0 o).lx⟩,nt (Dz.mp t),rd,m9,mY J,sE,ng];rintro t cG fk;rw[m8,mW aB.hP g t];simp only[r.i7]at cG;clear l;subst cG;(have cu:b.bg g=B:=by rw[p1,nY fk fk,n8,m9,n8,m8,mW gE,mW f2]);refine⟨?_,fun a=>?_⟩;(rw[vz d (U.bg g) (by rw[sq aB.fr.fx]at cu;rw[yL C3 cu])]);rw[uf,m3 AD aB.fr.ns,mZ p,mY p _ _ d _];rw[cu]at d;rw[pe d]
def Cr{o}(b:À o):o≤af0:=by rw[Ä dv,awl];omega
def XG:∀{E}{aI}{U}{am}{H}{w}{vs}{fM}{k}{X}{aW}{bb}(aB:q4)(l:aQm vs fM)(aC:À vs.z)(t:∀cM h' tk cv,aSY→wk h' cv→de h' cv (nE vs) cM→zt cM),q6 (newTuple fM):=by rw[mY E aI U am H w vs fM k X aW bb,mY aB l aC t];have j:=aB.B0 (h':=k.aK.g' {eY:=p3 "tuple",fS:=.ia fM.mV}) Bv;rw[mX anB (oJ j (aB.g0 Bv) ?_) (by rw[m6 (fM.mV.c5≤af0),r.awm,l.z,mW aSG]),mW (ni Cs e aB.Dy zw e e aC (o7 (l.bx j)))]
def XF{E}{aI}{U}{am}{H}{w}{vs}{fM}{k}{X}{aW}{bb}(aB:q4)(l:aQm vs fM)(aC:À vs.z)(t:∀cM h' tk cv,aSY→wk h' cv→de h' cv (oh vs) cM→zt cM):q6 (hw fM):=by have j:=aB.B0 (h':=k.aK.g' {eY:=p3 "list",fS:=.ia fM.mV}) Bv;rw[mX anB (oJ j (aB.g0 Bv) ?_) (by rw[m6 (fM.mV.c5≤af0),r.awm,l.z,mW aSG]),mW (ni Cs e aB.Dy zw e e aC (o7 (l.bx j)))]
def Abp:∀{E}{h}{Aa}(it:aNS),p8 (nE Aa):=by rw[mY E h Aa,mY it,mY aI U am aL aE H mp d l w bJ y k X,aN3 AD Wb];rintro i _ _ e ag;rw[ø ag,xw,mY J,pP vs];rintro ct d;rw[nu,m2 tP,p1,mY t,mX aMC (wr it x_ (fun fM h' tk cv j bQ bW aC=>?_)),mW XG bQ bW (by rw[m2 rX,m5,ya,mW Am [i.z,vs.z] ai 1048576 S 1000 ai S e rX (Az aC)]) fun cM aoL ap8 aFk L c7 fh=>oJ (j.ah L) c7 fh]
def Aa7{E}{h}{Aa}(it:aNS):p8 (oh Aa):=fun{aI U am aL aE H mp d l w bJ y k X aW bb}aN M bG aB cz av t=>by rw[o_ AR VY,mZ bG];rintro i _ e ag;rw[ø ag,xw,mY J,pP vs];rintro ct d;rw[nu,m2 tP,p1,mY t,mX aFW (wr it x_ (fun fM h' tk cv j bQ bW aC=>?_)),mW XF bQ bW (by rw[m2 rX,m5,ya,mW Am [i.z,vs.z] ai 1048576 S 1000 ai S e rX (Az aC)]) fun cM aoL ap8 aFk L c7 fh=>oJ (j.ah L) c7 fh]
def Abd:∀{E}{h}{Aa}(it:aNS),p8 (.hw Aa):=by rw[mY E h Aa,mY it,mY aI U am aL aE H mp d l w bJ y k X,xW,sv,o_ AR V4,mZ bG];rintro i _ e ag;rw[ø ag,xw,mY J,pP vs];rintro ct d;rw[nu,m2 tP,p1,mY t,mX aFW (wr it x_ (fun fM h' tk cv j bQ bW aC=>?_))];(have d9:À vs.z:=by rw[m2 rX,m5,ya,mW Am [i.z,vs.z] ai 1048576 S 1000 ai S e rX (Az aC)]);have L:=nI bQ.JP h' (h'.g' {eY:=p3 "list",fS:=.ia fM.mV}) n (h'.eU.c5,h'.eU.c5) Bv B9 B9;have c7:=pj bQ.an2 h' (h'.g' {eY:=p3 "list",fS:=.ia fM.mV}) n (h'.eU.c5,h'.eU.c5) p (oU vs) Bv B9 B9 (qd e (Ó (Au _ 0 zw d9) xD));refine anB (oJ (j.ah L) c7 (Ad (h'.eU.c5,h'.eU.c5) ?_ e)) (by rw[m6 (fM.mV.c5≤af0),r.awm,bW.z,mW Cr d9]);change(_++_)[_]?=_;rw[←bQ.hC.c9,aQp r.aih];simp
def T9{aL}{bs}:adc (.ah2 [] [] bs) aL=(aEG bs>>=nO lK):=e
def Abc:∀{E}{h}{g},p8 (.lK g):=by rw[mY E h g aI U am aL aE H mp d l w bJ,mY y k X aW bb,sv,o_ Al V3,mZ bG];rintro _ e;rw[Ō fK.mk.dB,mZ av,mY av,wG av,nu,oc e];simp only[T9];rw[zn aqf,m2 (nI aB.JP h' (k.aK.g' {eY:=p3 "dict",fS:=.bE #[]}) n (k.aK.eU.c5,k.aK.eU.c5) Bv B9 B9),mY L,m1 (mD E.b' E.V E.eR (k.aK.g' {eY:=p3 "dict",fS:=.bE #[]}) (X.e_ (k.aK.eU.c5,k.aK.eU.c5)) (if g then sj else nS) (k.aK.eU.c5,k.aK.eU.c5)) (by rw[p1,wD g,mW AE e aOu (ql (b8.asT.lJ _) e),mW AE e aOu (ql (nM Cn 0 zw (AE e e e) e (tZ (by simp at he)) (.C) r.ahO) e)]),mY ef,m2 (nI aB.an2 h' (k.aK.g' _) n (k.aK.eU.c5,k.aK.eU.c5) Bv B9 B9 ef),mY c7,mX anB (oJ L c7 (Ad (k.aK.eU.c5,k.aK.eU.c5) ?_ e)) (by rw[m6 (aVO (fE _)≤af0+1),mW yK])];change(_++_)[_]?=_;rw[←aB.hC.c9,aQp r.aih];simp
def awi:∀{h}{q}{aq}(b:ab2 h q=c aq),aKZ q h=c aq∧-nc h≤q∧q<h∧aq<h:=by rw[yb q aq,mY b,Ä ab2];unfold aKZ;by_cases bf:Ĺ;rw[c0 bf]at b;split at b;rw[nf b,mZ b,nR,pq,m1 (¬q<0) (m4 (fun dO=>B4 (A5 [q] 1 0 0 b5 (b5+1) 0 e bf dO))),mY d,cH d,mX By ?_ (m4 (A5 [q,↑h] (-d4) b5 0 b5 0 d4 e bf vU)) aUe (m4 (aOw (R.aEX bf).2)),c0 (by simp;exact⟨bf,aUe⟩)];(with_reducible rw[tb]);rw[pr (cH bf)];split at b;rw[nf b,mZ b,nR,pq,m1 (q<0) (m4 (oa A4 [q] b5 0 b5 0 e (R.apI.1 bf))),mY d,c0 d,mX By ?_ (m4 (aOw YE)) (m4 (oa A5 [q,↑h] b5 d4 b5 0 0 d4 e (R.apI.1 bf) vU)) (m4 ((aOw R.aEX).2 (Pd bf))),c0 (by simp;exact⟨aUe,Pd bf⟩),aR3]
def Vf:∀{h}{q}{aq}(b:ab2 h q=c aq)(bf:Ĺ),aq=q.es:=by rw[mY h q aq,mY b bf,Ä ab2];rw[c0 bf]at b;rw[y5 t h];rw[c0 t]at b;rw[nf b,om,mY b,pq];rfl;rw[pr (cH t),aR3]
def Ve{h}{q}{aq}(b:ab2 h q=c aq)(bf:¬Ĺ):aq=(q+h).es:=by rw[Ä ab2,pr (cH bf)];by_cases t:0≤q+h;rw[c0 t]at b;rw[nf b,om,mY b,pq];rfl;rw[pr (cH t),aR3]
def AbZ(j):rH af.bH.dF j=j.z:=by unfold af.bH.z;rw[Fg]at⊢;simp[ea.anb]
def AbD(x):af.bH.dF (ea.awk x)=⟨#[x.es]⟩:=by rw[m2 (Fg (ea.awk x)),m5];induction b:af.bH.dF (ea.awk x)using af.bH.ae with|mk cps=>rw[o6 b];simp only at aa;rw[tf];simp
def j0.ahK{b}{X}:∀{i}{e1}(o),aPn→(lB o i=B∧ai1 e1 o=B)∨∃y j,lB o i=c y∧ai1 e1 o=c j∧ê j:=tV lj lj (by intro _ o l;rw[ub,mW (pp zl)]) ll i (by induction ll using fK.ae with|mk f y=>intro _ o l;rw[tR,n2];rintro j cy e g x;rw[nH d f o,mW (rt (Au y j (by simp[E4,E5,d]) (y8 ai1 d) g)),nt (ih o x),aO0 ab a,tp (by rw[vW])];rintro fD g4 ab a t;rw[m8,mW (zi (ŧ E4 E5 d ab) (by unfold ai1 at a⊢;rw[Ó r.amF d,mW a])),mW (rt (Au _ _ (ŧ E4 E5 d ab) (by unfold ai1 at a⊢;rw[Ó r.amF d,mW a]) t))])
def jy.ahK{b}{X}:∀{i}{xs}(o),aPo→(kx o i=B∧agf xs o=B)∨∃y f j,kx o i=c y∧agf xs o=c (f,j)∧ê j:=tV lj lj (by intro _ o l;rw[ub,mW (pp zl)]) ll i (by induction ll using fK.ae with|mk f y=>intro _ o l;rw[m3 Co l,n2];rintro ad j cy e _ _ _ g x;rw[nH d f o,mW (rt (CA y ad j (by simp[EM,EN,d]) (y8 agf d) g)),nt (ih o x),aO0 ab a,tp (by rw[ri B8])];rintro fD dE g4 ab a t;rw[m8,mW (zi (ŧ EM EN d ab) (by unfold agf at a⊢;rw[Ó r.amF d,mW a])),mW (rt (n7 CA (ŧ EM EN d ab) (by unfold agf at a⊢;rw[Ó r.amF d,mW a]) t))])
def gV.apZ{E}{h}{aI}{U}{am}(aN:pA):aI.in1.ib+100<mj:=by rw[m2 aN.ib,m5];simp only[lT.aJA];exact oa Ag [aI.ib,h,mj] (nm+100) a8 (S+(tC ai)+400) a8 e aa
set_option tactic.hygienic true in
def Df:∀{E}{U}{am}{H}{w}{k:en}{X}(aB:q4){p}{co}{i}(ef:ř p co)(b:aVG=c i),∃f cR xs o,co=si∧k.aK.bg f=c cR∧cR.eY=p3 "list"∧cR.fS=.ia xs o∧tU∧aQm i xs.e0:=by injections E U am H w k X;intro aB;injections p co i;intro ef b;induction p using ar.ae with|bm l'=>rw[sB j7 ap.c.fV,pq,m3 Bt ef,mZ ef];(rintro f cR xs o e _ d hc hd aC t);exact(JH f _ _ o e d hc hd aC t)|D q=>replace b:(aNV (c i))=c i:=b;generalize d:s_=aa8 at b;(rw[tm aa8 (by rw[aR3]) cR (by induction cR using c_.ae with|aw l'=>rw[nf b,om,nR,pq,p4 ef,mZ ef];(rw[ö]);rw[nD (aB.hC.at d) cw dg l,aNZ,nf dg,mZ dg,mY dg,xg];(obtain⟨_,xs,o,a5,aC,t⟩:=l);exact(n7 JH o e a5 e e aC t)|_=>rw[aR3])])|_=>rw[tb]
def aDp:∀{E:iJ}{aI}{k}{X}{bb}{f}{cR}{xs}{o}{i}{q}{v}{aq}{y}{aW}(d:k.aK.bg f=c cR)(hc:cR.eY=p3 "list")(hd:cR.fS=.ia xs o)(aC:tU)(t:aQm i xs.e0)(cQ:ab2 i.z q=c aq)(aJ:p7 i y)(b:∀cM tk,aN5→aW cM (aNP tk)),q6 (akZ si (u2 q)):=by rw[mY E aI k X bb f cR,mY xs o i q v aq y aW d hc hd aC t cQ aJ b];have hL:k.aK.aje f xs:=(AP cR d hc ⟨o,hd⟩);rw[aTm d9 t.z,so t.i3 aJ,mY cM K l,yq (awi cQ) Q h2 h3 h4];(have arh:p7 xs cM:=uq fE.arj K);unfold dv at aC;by_cases bf:Ĺ;rw[m2 (Vf cQ bf),mY akQ,mW wpAny_getItem_list hL bf (m4 (aVy A5 [↑i.z,q] d4 1048576 (d4+1) b5 e (Bb aC) h3)) (akQ▸arh) (nv b l),m2 (Ve cQ bf),mY akQ,mW wpAny_getItem_list_neg hL (m4 (oa A4 [q] b5 0 b5 0 e (R.apI.1 bf))) (m4 (A5 [↑i.z,↑xs.c5,q] (-d4) gY b5 d4 (-b5) gY e (Bb (AN d9)) h2)) (m4 (A5 [↑i.z,q] (-9223372036854775808) d4 b5 1048576 (-b5) d4 e (Bb aC) h2)) (nb d9 (akQ▸arh)) (nv b l)]
set_option tactic.hygienic true in
def Wt:∀{E}{h}{aI}{U}{am}{H}{w}{k}{X}{bb}(aN:pA)(aB:q4){p o y}{co kQ}(ef:ř p co)(An:ř o kQ)(aJ:eC w p o=c y),(∃O id,k.aqC co O∧typeLookup (p3 O) "__getitem__"=km (c (.acy id)))∧∀{aW},(∀cM tk,aN5→aW cM (aNP tk))→q6 (akZ co kQ):=by injections E h aI U am H w k X bb;intro aN aB;injections p o y co kQ;intro ef An aJ;induction p using ar.ae with|ay i=>(rw[qO o m q (by rw[m3 Ay aJ,qE,mY aq cQ aJ,m3 Bt ef,mZ ef];(rintro f cR xs aiM e _ d hc hd aC t);rw[o8 An,mZ An,sK,m1 (asZ _ f _) (AP _ d hc ⟨aiM,hd⟩),mY h1,vi (AI ("tuple") ("tuple.__getitem__") (Ad cR d hc) aws.cm) (fun{aW}b=>?_),m2 (wx t.z),mY d9,so t.i3 aJ,mY cM K l,yq (awi cQ) Q h2 h3 h4];unfold dv at aC;refine getItem_tuple h1 (m4 (A5 [↑i.z,q] (-9223372036854775808) d4 b5 1048576 (-b5) d4 e (Bb aC) h2)) (m4 (aVy A5 [↑i.z,q] d4 1048576 (d4+1) b5 e (Bb aC) h3)) (nb d9 Q) (uq fE.arj K) (nv b l)) (by rw[aQH])])|bm i=>(rw[qO o m q (by rw[m3 Ay aJ,qE,mY aq cQ aJ,m3 Bt ef,mZ ef];(rintro f cR xs aiM e _ d hc hd aC t);rw[o8 An,mZ An,sK,mW ⟨(sb AI (ql d hc) awr.cm),fun{aW}b=>aDp d hc hd aC t cQ aJ b⟩]) (by rw[aQH])])|bi j=>(rw[qO o m q (by rw[m3 Bc aJ,qE,mY hs aJ,m3 Ay aJ,mZ aJ,mY aq cQ aJ,m3 AU aJ,qE];(rintro x hc e);rw[o8 ef,mZ ef,sK,o8 An,mZ An];(rw[oc aP]);rw[vi (AI ("str") ("str.__getitem__") (typeIs_str k _ v) slot_str_getitem.cm) (fun{aW}b=>?_),m3 Bq (awi cQ),mY Q h2 h3 h4];refine lu.me.getItem_str (x:=x.es) ?_ ?_ (nv b ⟨k.ce,y7 AbD⟩);rw[N.aKE,mW ⟨jq (m4 (fun dO=>B4 (E0 [↑j.z,q] 1 0 b5 1000 (-b5) d4 (d4+1) (-9223372036854775808) e (Bb hs) h2 dO))),jq (m4 (fun dO=>B4 (E0 [↑j.z,q] 1 0 b5 1000 (d4+1) b5 9223372036854775808 d4 e (Bb hs) h3 dO)))⟩,aPU AbZ Q Fg];simp[hc]) (by rw[aQH])])|D f=>delta eC at aJ;dsimp only at aJ;generalize d:w[f]?=aa8 at aJ;(induction aa8 using ap.ae with|B=>rw[aQH]|c V=>(induction V using c_.ae with|aw i=>(rw[qO o m q (by rw[so ap.bind_eq_some_iff.mp aJ,qE,mY aq cQ aJ,p4 ef,mZ ef];(rw[ö]);rw[so aB.hC.at d,mY cw dg l,aNZ,nf dg,mZ dg,mY dg,xg];(obtain⟨_,xs,aaz,a5,aC,t⟩:=l);rw[o8 An,mZ An,sK,mW ⟨(sb AI (zm a5) awr.cm),fun{aW}b=>aDp a5 e e aC t cQ aJ b⟩]) (by rw[aQH])])|bE i=>rw[m3 Bc aJ,mZ aJ,mY aG aJ];simp only[N.c3]at aG;rw[p4 ef,mZ ef];(rw[ö]);rw[so aB.hC.at d,mY cw dg l,aNZ,nf dg,mZ dg,mY dg,xg];(obtain⟨_,aC,xs,hD,t⟩:=l);rw[m2 (An.dx _ aG.2),mY e7,mZ An,vi (AI ("dict") ("dict.__getitem__") hD.ae1 aK8.cm) (fun{aW}b=>?_)];(rw[qO o ay agO (by rw[m3 AA (id e7),aUi aiF,nt (t.ahK aSh),mY J,nV,ng];(rintro a _);rw[m9,mY J,ri B8,ng];(rintro fD dE g4 ab a l);rw[m8];rw[a]at aJ;rw[ě aJ];rw[ab]at aJ;rw[mZ ab,nf aJ,qE,mY aJ,vP];exact wpAny_getItem_heap (knd:=m7 ac7) aN.apZ (AE š aG.2 e7) hD a (nv b l)) (by simp[l4]at aG)])|bM i=>(rw[qO o m q (by rw[aTg (lB q i=c y),p4 ef,mZ ef];(rw[ö]);rw[so aB.hC.at d,mY cw dg l,aNZ,nf dg,mZ dg,mY dg,xg];(obtain⟨_,aC,e1,hD,t⟩:=l);rw[o8 An,mZ An,sK,vi (AI ("dict") ("dict.__getitem__") hD.ae1 aK8.cm) (fun{aW}b=>?_),nt (t.ahK q),mY J,nV,ng];(rintro a _);rw[m9,mY J,vW,ng];(rintro fD g4 ab a l);rw[m8];rw[a]at aJ;rw[ě aJ];rw[ab]at aJ;rw[mZ ab,nf aJ,qE,mY aJ,vP];exact wpAny_getItem_of (o:=q) (y8 mu ck.arT) hD.ane a (nv b l)) (by rw[aQH])])|bS=>rw[aQH]))|_=>rw[aQH]
def DL:∀{y}(b:aeS y=F)(j)(aL)(v),aGx y j aL v=v:=by intro y;induction y using af.bA.ae with|jG ac as ks n=>(rw[oT as (by(rw[oT ks (by rw[nR,mW N.cs b]) o ks (by rw[mY b j aL v,om];induction ac using af.bA.ae<;>rfl)])) f as (by rw[mY b j aL v,om];induction ac using af.bA.ae<;>rfl)])|_=>intro b j aL v;rfl
def Ab1{ec}(b:aj3 ec=F)(p q):aEO ec Y p q=aEa [p,q] (akZ p q):=by rw[y6 ec af.bA.ae (by rw[xF])]
def S0(o h:u):max tM (ab8 uQ (nc h))=ob (ab8 o h):=by by_cases b:o≤h;rw[u.ani b,pQ R.ani R.adt.gS,R.aKk (R.ab9 _)];have b:=u.le_of_not_le b;rw[u.aKp b,pQ R.aKp R.adt.gS,R.aKk (R.ab9 _)]
def MK(o h:u):(if xo>0 then max tM (ab8 (if uQ<0 then uQ+h else o) (nc h))else max (-1) (ab8 (if uQ<0 then uQ+h else o) (nc h-1)))=ob (ab8 o h):=by rw[oR c0,cH (R.mO.gS (R.ab9 o)),S0]
def ZL(eD){ab}(b:0≤ab):awo eD B (c ab) B=(eD.e0.gu ab.es).mV:=by rw[m3 Al (R.at9 b),om,oc o,m1 (aK5 B nJ B eD.c5=(ob 0,ob (ab8 o _),1)) (cr (nF (tM,j,xo)) (MK o _)),p0];simp only[aJY _ d,r.drop_zero,u.sub_zero,←fE.anb,kmk_take_min,R.akh]
def ZJ(eD){j}(b:0≤j):awo eD (c j) B B=(eD.e0.cF j.es).mV:=by rw[m3 Al (R.at9 b),om,oc o,m1 (aK5 nJ B B _=(ob (ab8 o _),ob eD.c5,1)) (cr (nF (j,nc eD.c5,xo)) (MK o _)),mY d];simp only[aJY _ d,←fE.anb,kmk_drop_min,R.akh];exact uU (r.take_of_length_le (nb r.apu (u.aLe (u.alB ..) _)))
noncomputable abbrev af1(i aP o:ck):k_:={eY:=p3 "slice",fS:=.aju #[i,aP,o]}
def GO{E}{aI}{U}{am}{H}{w}{k}{X}{bb}(aB:q4){abE ae6 ae5}{aW}(b:∀s',s'.aK=k.aK.g' (af1 abE ae6 ae5)→s'=aU6 (k.aK.g' (af1 abE ae6 ae5))→gb am k.aK s'.aK X X→wk s'.aK X→aW (nP k.aK.eU.c5) s'):q6 (newFields "slice" [abE,ae6,ae5]):=by rw[m3 anB (b _ e e (aB.B0 Bv) (aB.g0 Bv)),m6 ((#[abE,ae6,ae5]:fE _).c5≤af0+2),mW yK]
def Kx:∀{E}{aI}{U}{am}{H}{w}{X}{bb}{aFa agV}{co}{p}{i}{abE ae6 ae5}{lo Ab st}{zs}{kK:en}{aW}(aB:wk kK.aK X)(ef:de kK.aK X p co)(aC:aVG=c i)(Av:asY abE lo)(aEn:asY ae6 Ab)(aEd:asY ae5 st)(bf:st≠c 0)(ba:∀(xs),ed kK.aK X i xs.e0→ed kK.aK X zs (awo xs lo Ab st).e0)(hz:À zs.z)(hs:∀f g,aEO agV Y si (nP g)=aEa [si,nP g] (akZ si (nP g))∨aEO agV Y si (nP g)=aEa [nP g,si] (akZ si (nP g)))(t:∀cM h' tk cv,aT3 kK.aK→wk h' cv→de h' cv (oh zs) cM→aW cM {kK with aK:=h',ce:=tk}),d3 wn aI (subscriptTail aFa agV co (nP kK.aK.eU.c5)) aW bb {kK with aK:=kK.aK.g' (af1 abE ae6 ae5)}:=by rw[mY E aI U am H w X bb aFa agV co p i abE,mY ae6 ae5 lo Ab st zs kK aW,mY aB ef aC Av aEn aEd bf ba hz hs t,m3 Dc (Df aB ef aC),mZ ef];rintro f cR xs o e d hc hd jt l;have hL:kK.aK.aje f xs:=(AP cR d hc ⟨o,hd⟩);have j6:tc kK.aK.bg (((kK.aK.g' (af1 abE ae6 ae5)).g' {eY:=p3 "list",fS:=.ia (awo xs lo Ab st)}).bg g=c p):=fun g p a=>m7 Bv (nv Bv a);rw[m2 (aB.g0 (Bv (p:=af1 abE ae6 ae5))),mY bQ];(have K:d3 wn aI (akZ si (nP kK.aK.eU.c5)) aW bb {kK with aK:=kK.aK.g' (af1 abE ae6 ae5)}:=by rw[m1 (b8.aje (en.aK {kK with aK:=kK.aK.g' (af1 abE ae6 ae5)}) f _) (hL.g' _),mY aHM];refine wpAny_getItem_list_slice (k:={kK with aK:=kK.aK.g' _}) aHM (b8.aqs.lJ ..) Av aEn aEd bf (p5 t kK.ce (aB.B0 j6) (aB.g0 j6) ?_) (by rw[m2 l.z,m5];simp only[fE.anb]at aa;rw[aa,mW Cr jt]);exact(ni Cs e bQ.Dy zw e e hz ((ba _ l).bx (aB.B0 j6))));have h1:en.aqC {kK with aK:=kK.aK.g' (af1 abE ae6 ae5)} si "list":=(hL.g' _).ae1;rw[nt (hs f kK.aK.eU.c5),wB,m9,wB,m8,mW awG h1 awr.cm K a,mW awG h1 awr.cm K a]
def Aa4:∀{E}{h}{f o}(sa:qA)(aaL:pW o),p8 (.aT f o):=by injections E h f o;intro sa aaL;injections aI U am aL aE H mp d l w bJ y k X;rw[xW,sv,o_ AD VV,mZ bG];rintro ac0 ec bs e ag;rw[aQO (by(have iQ:aj3 ec=F∧aP4 b_ f ac0∧aP4 b_ o ec:=by simp only[N.c3,N.c3]at ag;exact ag)) p,o3,oi,mY J,tQ q,wO,pv AU av fD aJ d,nu];replace t:=tP;rw[mX aqA (wr sa (nj iQ) (fun co Q t1 cX I bQ bW=>x2 aaL (nW iQ) x0 gx fun kQ h2 d2 g5 L c7 fh=>?_)),wG (pj Wt k aVZ bb bb aI aI aN c7 xD fh aJ),mY J,ri AR,ng];rintro O id h1 aC;rintro K;exact awG h1 aC (K fun cM tk ft=>sk t h2 wt c7 ft) (Ab1 iQ.1 _ _)
def Abl{E}{h}{f o}(sa:qA)(aaL:pW o):p8 (.ady f o):=fun{aI U am aL aE H mp d l w bJ y k X aW bb}aN M bG aB cz av t=>by rw[o_ AA V_,mZ bG];rintro ac0 aP _ _ e ag;rw[qt,oi,mZ av,mY J,pP p,o3,oi,nu,mY J,tQ q,wO,xw,nu,mY V e9 d,m2 tP,p1,mY t,so Cl e9,mZ e9,oA,mY aq d gy,m3 Da (sr q ē d),mZ d,mY hz];subst hz;rw[pv Ay gy i aC aal,m3 Bc aal,mY Ab d,ø Ab,mZ gy aal,nf d,oA,mY d,oQ,mX aqA (yE rX),mX dH (fX (dH (ae9 (x2 aaL x_ x0 gx fun kQ h2 d2 g5 L c7 fh=>dH (ae9 (fX ?_)))))),o8 fh,mZ fh,oc v,mX (we GO c7 fun s' P Aa P P=>?_),mZ P];subst Aa;rw[m1 tU (by rw[mX Dc (we Df c7 xD aC) fun P P P P P P P P a P=>?_,mW a]),mY d9,mX (nI Kx zs (i.gu aq.es) kK aVZ c7 xD aC .B (u2 aq) .B rb (fun xs cy=>?_) (nb r.aiG (u.eG (u.apB ..) d9)) (wW yo) fun cM h3 j9 abG Z ic k4=>t cM h3 j9 abG aTc ic k4),ZL _ Ab.1,mW cy.gu _]
def Abk:∀{E}{h}{f o}(sa:qA)(aaL:pW o),p8 (.ahW f o):=by rw[mY E h f o,mY sa aaL,mY aI U am aL aE H mp d l w bJ y k X,aN3 AA V9];rintro ac0 aP _ _ e ag;rw[qt,oi,mZ av,mY J,pP p,o3,oi,nu,mY J,tQ q,wO,xw,nu,mY V e9 d,m2 tP,p1,mY t,so Cl e9,mZ e9,oA,mY aq d gy,m3 Da (sr q ē d),mZ d,mY hz];subst hz;rw[pv Ay gy i aC aal,m3 Bc aal,mY Ab d,ø Ab,mZ gy aal,nf d,oA,mY d,oQ,mX aqA (yE rX),mX dH (x2 aaL x_ x0 gx fun kQ h2 d2 g5 L c7 fh=>dH (ae9 (fX (dH (aVe ae9))))),o8 fh,mZ fh,oc v,mX (we GO c7 fun s' P Aa P P=>?_),mZ P];subst Aa;rw[m1 tU (by rw[mX Dc (we Df c7 xD aC) fun P P P P P P P P a P=>?_,mW a]),mY d9,mX (nI Kx zs (i.cF aq.es) kK aVZ c7 xD aC (u2 aq) .B .B qg (fun xs cy=>?_) (nb r.apu (u.eG (u.awA ..) d9)) (wW yo) fun cM h3 j9 abG Z ic k4=>t cM h3 j9 abG aTc ic k4),ZJ _ Ab.1,mW cy.cF _]
def cT.FJ:∀{E}{U}{am}{H}{w}{X}{b h'}{aj1}(aB:s2)(aN:aku U am h' H)(gc:as3 U am h' aj1)(eZ:∀n∈aTs b,n∈aj1),wk h' X∧aNR∧∀g p,v0→aOR→Ī:=by rw[mY E U am H w X b h' aj1,mY aB aN gc eZ];(have o:∀g p,v0→aOR→Ī:=fun g p d afT=>by induction t:U.bg g using ap.ae with|c o'=>rw[m2 (aB.fr.fx g _ t),m5,o6 d,nf aa,mZ aa,m5,uM,mW aN.fx g p t]|B=>exact(gc _ (eZ _ (CM.gS (By d afT t e)))).1);(have jH:∃p,h'.bg am=c p∧aPx:=by rw[m3 B8 aN.ns,mY p Aa ep d aj _,mW Ad p d (ķ hK aj)]);have j:aNR:=⟨fun g p d afT P=>o g p d afT,wd (by rw[nH t g am,mZ aB aN gc eZ o,sA,p4 jH,mY o' a5 _,mW (aOh a5),mW (vK (o g p d t))]),fun g p t d=>⟨aB.Bd g p t d,aN4 (by rw[mZ aB aN gc eZ o,sA,oz jH k2 bj a,rl bj,mZ bj,yV,zR a])⟩,aPs,e⟩;exact(AE ⟨aN,aB.hC.g0 j fun g p t d=>o g p d (aB.hP g t).2,aB.hP,fun g t=>⟨(ľ).1,let(xc):=(ľ).2;aQl⟩⟩ j o)
def R5{f g:R}{h:u}(Q:1≤f)(h2:aQS)(h3:g≤h):gM.lv.aEB (c f) (c g) 1 (nc h)=(f,g):=by unfold gM.lv.aEB;(have h4:¬(xo<0):=n_);rw[m1 (¬(f<0)) (m4 (fun dO=>B4 (A5 [f] 1 0 1 b5 (b5+1) 0 e Q dO))),mY h5,m1 (¬(g<0)) (m4 (fun dO=>B4 (E0 [f,g] 1 0 1 b5 b5 d4 (d4+1) 0 e Q h2 dO))),mY h6];simp only[h4,h5,h6,abv];rw[uh,mW R.ani (R.eG h2 h3),mW R.ani h3]
def ZN{f g}(Q:1≤f)(h2:aQS):gM.lv.awp f g 1=(g-f).es:=by unfold gM.lv.awp;rw[m1 (xo>0) n_,mY h3];simp only[h3,fU,R.az3];split;rw[mW cr R.es (R.e2 _ 1),mW (rz (R.aEY (R.aLh (aOw R.mO.1))))]
def ZK(xs:ó){f g:R}(Q:1≤f)(h2:aQS)(h3:g≤xs.c5):((r.acU (g-f).es).adW fun(o:u)=>xs[(f+uQ*1).es]?).mV=((xs.e0.gu g.es).cF f.es).mV:=by rw[mZ h3,m3 Al (R.at9 (R.eG nw Q)),mZ Q,oc h,m3 Al (R.at9 (R.eG (R.ab9 h) h2)),mZ h2,oc H,m1 ((fun(o:u)=>xs[(nc h+uQ*1).es]?)=fun o=>xs[h+o]?) (by funext o;rw[R.mul_one];rfl),mY d];simp only[d,R.toNat_sub,R.akh,R.akh];rw[m2 (pick_run xs h (H-h)),mY aa,o6 r.filterMap_map,m1 (((nF xs[j]?)∘nF (h+j))=fun o=>xs[h+o]?) e,mY bj,o6 bj,aa,r.drop_take]
def U2:∀{E:iJ}{aI:lT}{k:en}{bb:ux}{v ec:d7}{eD:ó}{f g:R}{aP awR:aGg}{aW:ux}(aS:asZ k.aK v eD)(hs:k.aK.aqs ec (.m f aP) (.m g awR) .B)(Q:1≤f)(h2:aQS)(h3:g≤eD.c5)(b:aW (nP k.aK.eU.c5) (aU6 (k.aK.g' {eY:=p3 "tuple",fS:=.ia ((eD.e0.gu g.es).cF f.es).mV})))(acH:eD.c5≤af0),q6 (akZ (nP v) (nP ec)):=by injections E aI k bb v ec;rw[mY eD f g aP awR aW aS hs Q h2 h3 b acH,m1 (sizeOk (.ia ((eD.e0.gu g.es).cF f.es).mV)) (by rw[m6 (((eD.e0.gu g.es).cF f.es).mV.c5≤af0),r.awm,r.apu,r.aiG,fE.anb,mW (xm (u.awA ..) (u.eG (u.apB ..) acH))]),mY aIg,mX AF (id hs) fun os aiv auM afD=>?_,m1 (k.aqC (nP ec) "slice") (Ad os aiv auM),mY arq];delta akZ;rw[zW (by rw[tD ae9]),mX dH (wpAny_sequenceKey aS.ae1 nw ?_),mX dH (wpAny_callSpecial?_slot (cB:=bH.dF "__getitem__") aS.ae1 aws (awW aws aS.ae1 entry_tuple_getitem ?_ (m7 args_tuple_getitem))),Ŏ (gM.ac5.aLs (nP v)>>=_),mX dH (tupleItemsOf_ aS ?_),mX dH (aLT arq ?_),oR c0,m1 (∀{aW:t7 (R×R×u)}{bb:ux}{aI:lT},aW (f,1,(g-f).es) k→q6 (gM.lv.aK4 (nP ec) (km (nc eD.c5)))) (by intro aW bb aI b;delta gM.lv.aK4 gM.lv.sliceFields;rw[mX dH (dH (aqd aiv afD (j:=.m f aP) e (dH (aqd aiv afD (j:=.m g awR) e (dH (aqd aiv afD (j:=.B) e (fX ?_))))))),zn slicePart_none,Ŏ (if(xo==0)=F then _ else _),aSt,mX dH (aK6 (dH (aK6 (aVe dH)))),Ŏ (match gM.lv.aEB (c f) (c g) 1 (nc eD.c5)with|(lo,Ab)=>km (lo,xo,gM.lv.awp lo Ab 1)),R5 Q h2 h3,Ŏ (km (f,xo,gM.lv.awp f g 1)),ZN Q h2,mW fX b]),mY sa,zn sa,m1 (¬((f==0&&xo==1&&((g-f).es==eD.c5))=F)) (by rw[m1 ((f==0)=Y) (wT ajl),m5,tf,mW yK]),mY ajH,Ŏ (if(f==0&&xo==1&&((g-f).es==eD.c5))=F then _ else _),cH ajH,ZK eD Q h2 h3];exact dH (H:=gM.ac5.tupleExact _) (anB (fX (pQ (Ad _ e) fX)) aIg)
def V1{d}(b:avR d=F):∃o n t,d=.ahj .atd (.ah0 nG o n) t:=by rw[m3 AD (Jv b),om];rintro _ _ _ e h';rw[ou (aOC h') f g,mZ h',m3 BF (HV g),mZ g];rintro _ _ e;rw[pD (cD f),mW (n7 Nd e)]
def Abi:∀{E}{h}{f}(sa:qA),p8 (.rev f):=by rw[mY E h f,mY sa,mY aI U am aL aE H mp d l w bJ y k X,xW,sv,aQ5 AA V7 (by rintro ac0 aP _ _ e ag),m3 JM (V1 x_)];rintro _ _ _ e;rw[oi,mY J,pP p,o3,pv AU av i aC d,mZ av,m2 tP,p1,mY t,mX aqA (yE rX),mX dH (fX (dH (ae9 (fX (dH (ae9 ?_)))))),mX axt (asL (neg_int ?_)),m2 bQ,mY c7,mX (wl GO Q (t1+1+1) bQ fun s' P Aa P P=>?_),mZ P];subst Aa;rw[m1 tU (by rw[mX Dc (qp Df bQ bW aC) fun P P P P P P P P a P=>?_,mW a]),mY d9,mX (nI Kx zs i.aba kK {k with aK:=Q,ce:=t1+1+1} bQ bW aC .B .B (.m (-1) _) qg (fun xs cy=>?_) (o7 d9) (wW qN) fun cM h3 j9 abG Z ic k4=>t cM h3 j9 abG (I.ah Z) ic k4)];simp only[krv_pick]at⊢;exact cy.aba
def Abj:∀{E}{h}{f}{q aq}(sa:qA),p8 (.agV f q aq):=by injections E h f q aq;intro sa;injections aI U am aL aE H mp d l w bJ y k X;rw[xW,sv,aQ5 Bz V8 (by rintro ac0 i aP _ _ e ag),m3 AC ag,mZ ag];rintro ag dQ dW;rw[m3 BF (HV dQ),mZ dQ];rintro _ _ e;obtain⟨_,_,e⟩:=HV dW;rw[tl Cm,mY J,pP p];rintro ct e9;rw[so H9 e9];rintro V gy d;rw[mZ e9,m2 tP,mZ t,mY t,oA,so IS gy];rintro i d aal;rw[mZ gy,m3 Da (sr p o9 d),oA,mY hz];subst hz;rw[m3 Ai (Ct aal)];rintro Ab d;rw[ø Ab,mZ aal av,nf d,oA,mY d,oQ,mX aqA (yE ag),m3 Bt bW,mZ bW];rintro ad cR xs o e no d hc hd jt l;rw[mX dH (asL (dH (ae9 (asL (dH (aVe ae9)))))),mX (wl GO Q (t1+1+1) bQ fun s' P Aa L c7=>?_),mZ P];subst Aa;rw[m1 (sF asZ) aRq,mY h1];have aCh:asZ (Q.g' (af1 (.m q t1) (.m aq (t1+1)) .B)) ad xs:=(AP cR (tj Bv) hc ⟨o,hd⟩);rw[aTm d9 l.z,m1 (d3 (fP _ E.V) aI _ aW bb _) (by have Z:=c7.B0 (h':=(Q.g' (af1 (.m q t1) (.m aq (t1+1)) .B)).g' {eY:=p3 "tuple",fS:=.ia ((xs.e0.gu aq.es).cF q.es).mV}) Bv;rw[mX (wl U2 (Q.g' _) (t1+1+1) aCh (b8.aqs.lJ ..) Ab.1 (nj Ab) (m4 (A5 [aq,↑i.z,↑xs.c5] b5 gY b5 d4 d4 gY e (nW Ab) (Bb (AN d9)))) (sb t (t1+1+1) _ (I.ah (L.ah Z)) (c7.g0 Bv) ?_) (nb d9 (Cr jt))),mW (ni Cs e c7.Dy zw e e (tL r.apu r.aiG (Bu [i.z,dv,m7 ab8-q.es,m7 ab8] a8 ai S ai a8 eK eK S e jt (m7 u.awA) (m7 u.apB))) (yg r.toList_toArray (((l.gu _).cF _).bx (L.ah Z))))]),mY K,mW (wl awG (Q.g' (af1 (.m q t1) (.m aq (t1+1)) _)) (t1+1+1) aCh.ae1 aws.cm K e)]
def HW(f g)(v):(ck.bi f v).aa4 g=(f==g):=e
def jI.ahK{V}{b}{X}(h):∀{fs}{Aa},aPt fs→(aS1=B∧Aa.amE (ol (xJ d.dx.aa4))=B)∨∃y d,aS1=c y∧Aa.amE (ol (xJ d.dx.aa4))=c d∧ê d.lP:=tV lj lj (by intro _ l;rw[ub,mW (pp zl)]) ll fs (by induction ll using fK.ae with|mk f y=>intro _ l;rw[m3 BW l,mZ l];rintro d cy v e fk aG aJ br;rw[nH t f h,mZ ih,sA,mX .bF (Au y d (y8 JX JY) ?_ aJ),r.find?_cons_of_pos];rw[aG,HW,mW aaV _];(have a:¬(xJ d.dx.aa4=F):=by rw[aG,HW,mY a,mW t (Gx (acz a))]);rw[nt (ih br),aO0 j ab,tp (by rw[vW])];rintro fD a5 j ab z';rw[m8,mW (zi (ŧ JX JY t j) (nb (r.amF (n:=fun d:ag7=>d.dx.aa4 _) a) ab)),mW (rt (Au _ _ (ŧ JX JY t j) (nb (r.amF (n:=fun d:ag7=>d.dx.aa4 _) a) ab) z'))])
def jI.arV{V}{b}{X}:∀{fs}{Aa},aPt fs→Aa.dS (·.awd)=Y:=tV lj lj (by intro _ l;rw[ub];rfl) ll fs (by induction ll using fK.ae with|mk f y=>intro _ l;rw[m3 BW l,n2];rintro d cy v e fk aG aJ br;simp only[r.akD,ih br,N.apQ];unfold ag7.awd;rw[aG])
def jI.aly:∀{V}{b}{X}{fs}{Aa}{h}{o}(l:aPt fs),(aS1=B∧aly Î (aop Aa o)=c B)∨∃y j,aS1=c y∧aly Î (aop Aa o)=c (c j)∧ê j:=by rw[mY V b X fs Aa h o,mY l,nt (l.ahK h),mY J,nV,ng];rintro f g;rw[m9,mY J,vW,ng];rintro y d f g x;rw[m8,mX (pp ⟨f,?_⟩),m6 ((match Aa.amE (ol (xJ d.dx.aa4))with|c d=>nJ|B=>if Aa.dS (·.awd)then B else nJ)=_),g,l.arV];rfl;rw[mX .bF (Au y _ f ?_ x),m6 ((match Aa.amE (ol (xJ d.dx.aa4))with|c d=>nJ|B=>if Aa.dS (·.awd)then B else nJ)=_),g]
def de.handed:∀{b}{X}{y}{j}(l:ê j),handedIn j=F:=by rw[mY b X y j,mY l];induction y using ar.ae with|B=>rw[ub];rfl|aO g=>rw[ub];rfl|m q=>rw[m3 Al l,n2,sK];rfl|bi k=>rw[m3 Al l,n2,sK];rfl|ay i=>rw[m3 AA l,n2,aUi f];rfl|bm i=>rw[m3 AA l,n2,aUi f];rfl|D q=>rw[m3 Ac l,n2];rintro n _ e;rfl
def avy:∀{E}{U}{am}{H}{w}{k:en}{X}(aB:q4){q x}{fs}{co}(ef:ò n3 co)(d:aSB),∃n Aa o,wc∧co=nP nk∧k.aK.bg nk=c (avw aQi nh)∧k.aK.bg nh=c (aop Aa o)∧jI E.V k.aK X fs Aa∧aNL fs.au∧fs.z≤300∧aMn k.aK nk (avw aQi nh) aQi (c (aop Aa o)):=by injections E U am H w k X;intro aB;injections q x fs co;rw[mY ef d,p4 ef,mZ ef,ö,nD (aB.hC.at d) cw dg l,aNZ,nf dg,mZ dg,mY dg,xg];obtain⟨aV,Aa,o,bj,aC,b2,cO⟩:=l;exact(Uf n _ o ba e aV bj b2 cO aC ⟨aV,e,e,bj⟩)
def Ma:∀{E}{h}{aI}{U}{am}{H}{w}{k}{X}{bb}(bl:p9)(aN:pA)(aB:q4){q x}{fs}{co}{j}{y}{f_}{aW}(ef:ò n3 co)(d:aSB)(b2:E.O.abp x j=F)(aJ:acA j fs=c y)(t:∀cM tk,aN5→aW cM (aNP tk)),q6 (getAttr co (af.bH.dF j) f_):=by rw[mY E h aI U am H w k X bb,mY bl aN aB,mY q x fs co j y f_ aW,mY ef d b2 aJ t,m3 JN (avy aB ef d),mZ ef];rintro n Aa o ba e aV bj alQ cO _ anN;rw[ou (bl.abp x j b2) ok cu];have ag8:=avx ok;rw[nt (nI alQ.aly h j o o),mY J,nV,ng];rintro a _;rw[m9,mY J,vW,ng];rintro fD aFi ab a l;rw[m8];rw[a]at aJ;rw[ě aJ];rw[ab]at aJ;rw[mZ ab,nf aJ,qE,mY aJ,vP];(obtain⟨cd,hcd⟩:∃cd,atL E.M aQi=c cd:=by induction cG:atL E.M aQi using ap.ae with|B=>rw[m2 ag8.hd,m5,o6 cG];injection aa|c cd=>exact qS cd);rw[m2 (by rw[m2 ag8.hd,m5,o6 hcd,Ă]),mY hd,mX get_value (aB.M bl aN) anN ag8.ga ?_ l.handed (nv t l)];unfold findObj;rw[hcd,ap.eO,cu,ap.eO];rw[ap.eO];unfold af.bl.ownOf;rw[c0 hd,m6 ((ì (m7 aly))=_),a];rfl
def AaT:∀{E}{h}{f}{j}(bl:p9)(sa:qA),p8 (.be f j):=by rw[mY E h f j,mY bl sa,mY aI U am aL aE H mp d l w bJ y k X,aN3 AD VO];rintro ac0 ahX _ e ag;rw[qt,aTr dW,mZ ag,aQO (by rw[aQP]) p];rintro ct e9;rw[m3 AU e9,mY fD gy d,m2 tP,p1,mY t,so Cx gy,oA,mY q d aal,mZ gy av e9,m3 Da (sr p n3 d),mZ d,mY hz];subst hz;rw[mX AR (Ge aal) fun x fs he ate=>?_,mX Bc ate fun b2 aJ=>?_,m3 aL7 (yE f8),mW (qp Ma bl aN bQ bW he b2 aJ fun cM tk ft=>sk t Q I bQ ft),m6 ((do let p←ni aGx;aEG _;let l←m7 aCR;letTemporaryGo _ p l;km l)=_)];simp only[DL dW]at⊢
def R0{f g}{x}(b:sH ay7=c x):sH gM.bitAnd=x:=by revert b;(induction f using R.ae with|gq j=>(induction g using R.ae with|gq ab=>rw[nR,m3 Ak b,om,nR,pq];rfl|_=>rw[nR,mW Aq b])|_=>rw[nR,mW Aq b])
set_option tactic.hygienic true in
def R1{f g}{x}(b:sH ay8=c x):sH gM.bitOr=x:=by revert b;(induction f using R.ae with|gq j=>(induction g using R.ae with|gq ab=>rw[nR,m3 Ak b,om,mY b,pq];(have d:∀a:u,gM.ajm (R.gq a)=R.aeQ a:=qW (by unfold gM.ajm;rw[m6 (-ob a-1=R.aeQ a)];omega));(have bj:∀a:u,gM.ajm (R.aeQ a)=R.gq a:=qW (by unfold gM.ajm;rw[m6 (-(R.aeQ a)-1=ob a)];omega));rw[m6 (gM.ajm _=_)];simp only[d,d];rw[m6 (gM.ajm (gM.ajm _)=_)];simp only[bj,bj];rw[m6 (gM.ajm (gM.ajm (R.gq (j|||ab)))=_)];simp only[d,bj]|_=>rw[nR,mW Aq b])|_=>rw[nR,mW Aq b])
def La{q}(b:g2 q=F):q.natAbs<1073741824:=by rw[Ä g2,sB N.c3 kR,mW X3 b]
abbrev aqQ:adG→anT|.e_=>.asN|.eZ=>.axq|.alE=>.aF3|.abo=>.aFF|.kS=>.aF1|.acu=>.aFp|.afn=>.aFq
def Mm{p}{f'}(b:amt p f'=F):f'=aqQ p:=pX cD b (by rw[om,ć p adG.ae])
def RW:∀{E:iJ}{aI}{k}{X}{bb}{p}{q aq}{v aP}{y}{aW}(aJ:alp p q aq=c y)(aea:∀tk cM,aN5→aW cM (aNP tk)),q6 (ay5 (aqQ p) (u2 q) (.m aq aP)):=by injections E aI k X bb p q aq;intro v aP y aW aJ aea;induction p using adG.ae with|e_=>rw[p2 aJ,pi,mW ati (nv aea u0)]|eZ=>rw[p2 aJ,pi,mW sub_int' (nv aea u0)]|alE=>rw[mX Bc aJ fun hs d=>?_,qE,nf d,mZ d,mY d,oQ];simp only[N.c3]at hs;exact lu.me.mul_int (nv aea u0) (rJ (nI aMo.of_le H 30 h 30 (aJD (La hs.1)) (aJD (La hs.2))))|abo=>rw[m3 Bc aJ,mY hs d,qE,nf d,mZ d,mY d,oQ,ø hs,mW floordiv_int n_ (nv aea u0) (.bT (lu.aKu (La (nW hs))))]|kS=>rw[m3 Bc aJ,mY hs d,qE,nf d,mZ d,mY d,oQ,ø hs,mW mod_int' n_ (nv aea u0)]|acu=>rw[m3 AU aJ,qE];(rintro x hc e);exact and_int (nv aea ⟨k.ce,by rw[R0 hc]⟩)|afn=>rw[m3 AU aJ,qE];rintro x hc e;exact or_int (nv aea ⟨k.ce,by rw[R1 hc]⟩)
def RV:∀{E}{aI}{U}{am}{H}{w}{k}{X}{bb}(aB:q4){p}{j ab y}{aF iZ}{aW}(fc:aPC)(gK:aV1)(aJ:(nK (arS p=F) (amp w j ab))=c y)(t:∀cM h' tk,aU7→wk h' X→de h' X y cM→zt cM),q6 (ay5 (aqQ p) aF iZ):=by rw[mY E aI U am H w k X bb,mY aB,mY p j ab y aF iZ aW,mY fc gK aJ t,m3 Bc aJ,mZ aJ,mY ho aJ];(obtain e:p=.e_:=by rw[y6 p adG.ae (by rw[sQ ho])]);rw[pv Ay aJ i aC av,oi,nu,mY o aG av,mX Bc av fun d9 d=>?_,mZ aJ av,nf d,oA,mY d,oQ,m3 Dc (Df aB fc aC),mZ fc,mZ ho];rintro a1;intro J;rcases J with(⟨eY,aol,fS,ec⟩);rintro xs j6 e ho hc hd _ bW;rw[m3 Dc (Df aB gK aG),mZ gK];rintro a2;intro J;rcases J with(⟨aMM,aMQ,data2,aNw⟩);rintro k7 hM e aCQ aeB aCs _ fh;simp only at hc hd aeB aCs;subst hc hd aeB aCs;rw[m2 (wx bW.z),mY aV,m2 (wx fh.z),mY bj,mX concat_meets (zm ho) (zm aCQ) noFill_list_add seq_list_add af.aN.slot_list_add af.aN.entry_list_add (m7 af.aN.args_list_add_2) (m7 (qm list_addW) (tL aV bj (Cr d9))) (AE ho aCQ ?_)];replace j:=aB.B0 (h':=k.aK.g' {eY:=p3 "list",fS:=.ia (xs++k7)}) Bv;refine n7 t j (aB.g0 Bv) (ni Cs e aB.Dy zw e e (o7 d9) ?_);simp only[fE.aLp];exact(bW.hq fh).bx j
def RX{E}{aI}{U}{am}{H}{w}{k}{X}{bb}(aB:q4){p}{j ab y}{aF iZ}{aW}(fc:aPC)(gK:aV1)(aJ:lY w p j ab=c y)(t:∀cM h' tk,aU7→wk h' X→de h' X y cM→zt cM):q6 (ay5 (aqQ p) aF iZ):=by rw[qO j m q (by rw[so Cl aJ];(rintro aq e aJ);rw[m3 Al fc,mZ fc,sK,m3 Al gK,mZ gK];(rw[oc aP]);exact RW aJ fun tk cM l=>t cM k.aK tk aB.fI aB l) (by exact RV aB fc gK aJ t)]
def AaU:∀{E}{h}{p}{f g}(sa:qA)(bh:pW g),p8 (.dM p f g):=by rw[mY E h p f g,mY sa bh,mY aI U am aL aE H mp d l w bJ y k X,xW,sv,aQ5 AA VP (by rintro i f' cy _ e ag),aQO (by rw[pD (Mm rX)]) j,o3,oi,mY J,tQ ab,wO,pv AU av fD aJ d,nu,m2 tP,p1,mY t,mX wpAny_BinOp (wr sa aP8 (fun aob Q t1 cX I bQ bW=>aTl (nW ag) azd)),mW (we RX c7 xD fh aJ fun cM h3 j9 Z ic k4=>oJ aTc ic k4)]
def Aba:∀{E}{h}{f}(sa:qA),p8 (.ju f):=by rw[mY E h f,mY sa,mY aI U am aL aE H mp d l w bJ y k X,aN3 AR N9,aQO (by rintro ac0 _ e ag) p];rintro ct e9;rw[nD (Cl e9) q d gy,m2 (Ŝ t.to gy),mZ t,mY t,mZ gy,mZ av e9,m3 Da (sr p n' d),oA,mY hz];subst hz;rw[mX axt (wr sa ag (fun aob Q t1 cX I bQ bW=>?_)),o8 bW,mZ bW,oc v,mW neg_int (sk t Q I bQ u0)]
set_option tactic.hygienic true in
def Ft:∀{E}{aI}{U}{am}{H}{w}{k}{X}{bb}(aB:q4){y}{cM}{g}{aW}(l:aN5)(aJ:aTy w)(t:∀tk,aW g (aNP tk)),q6 (aE1 cM):=by injections E aI U am H w k X bb;intro aB;injections y cM g aW;intro l aJ t;have aea:aW g k:=t k.ce;(have ajT:∀{f:d7}{cR:k_}{xs:ó}{o:u}{i:nC},k.aK.bg f=c cR→cR.eY=p3 "list"→cR.fS=.ia xs o→tU→aQm i xs.e0→c aPV=c g→q6 (aE1 si):=by rw[mY f cR xs o i d hc hd aC cy dL,aTm aV cy.z,m1 (xs.dD=i.dD) (by unfold fE.dD;rw[aV,mZ aC cy dL aV];induction i using r.ae<;>(rw[Ŧ])),mY bj];unfold dv at aC;rw[mX wpAny_truthy_list aRq (nb aV (aVy A4 [↑i.z] b5 1048576 e (Bb aC))) ?_,bj,mZ aJ aea,nf dL,aVC dL dL dL (t _)]);induction y using ar.ae with|B=>rw[ub,aTg (nJ=c g),nf aJ,mZ aJ,mY aJ,mZ t ajT,vP,mW truthy_none aea]|aO x=>rw[ub,aTg (nJ=c g),nf aJ,mZ aJ,mY aJ,mZ t ajT,vP,mW aLS aea]|m q=>rw[m3 Al l,n2,sK,aTg (nJ=c g),nf aJ,mZ aJ,mY aJ,mZ t ajT,vP,mW lu.me.truthy_int aea]|bi j=>rw[aQH]|ay i=>rw[Ø,mZ l];(rintro f cR xs o e _ d hc hd aC cy);rw[aTm aV cy.z,m1 (xs.dD=i.dD) (by unfold fE.dD;rw[aV,mZ aJ aC cy aV];induction i using r.ae<;>(rw[Ŧ])),mY bj];unfold dv at aC;rw[mX truthy_tuple aRq (nb aV (aVy A4 [↑i.z] b5 1048576 e (Bb aC))) ?_,bj,aTg (nJ=c g),nf aJ,mZ aJ,mY aJ,mZ aea ajT,vP,mW t _]|bm i=>rw[Ø,n2];(rintro f cR xs o e _ d hc hd aC cy);exact ajT d hc hd aC cy (m4 aJ)|D q=>rw[aTg ((aNV (c aPV))=c g)];generalize d:s_=aa8 at aJ;rw[tm aa8 (by rw[pe aJ]) aKB (by induction aKB using c_.ae with|aw i=>rw[m3 Ac l,n2,ö,nD (aB.hC.at d) cw dg ef,aNZ,nf dg,mZ dg,mY dg,xg];(obtain⟨_,xs,aaz,a5,aC,cy⟩:=ef);exact ajT a5 e e aC cy aJ|_=>rw[pe aJ])]
abbrev apT:af.bA→N|.ahj .axm _ _|.ag6 ..|.amf ..|.akq ..=>Y|_=>F
set_option tactic.hygienic true in
def ZQ{d}(b:apT d=F)(aL)(jE):alt d aL jE=(do let y←jE;aEG d.bs;aCR [y] (aE1 y)):=by(induction d using af.bA.ae<;>first|rfl|rw[aPN];done|skip);rename_i f' _ _;rw[y6 f' af.ahj.ae (by rw[xF])]
def Ab9{E}{h}{aeO}(l8:pW aeO)(ba:∀mp aE d,b_ E.K mp aE aeO d=F→apT d=F):p_ mh aeO:=fun{aI U am aL aE H mp d l w bJ y g k X aW bb}aN M bG aB cz av O t=>by rw[mX isTrue_plain (sN l8 bG cz av fun cM h' tk cv j j3 r'=>?_) (ZQ (n7 ba bG) _ _),mW (wl Ft h' tk j3 r' O fun ap8=>t h' _ _ j j3)]
def Abf:∀{E}{h}{f}(aed:qA),p8 (.ir f):=by rw[mY E h f,mY aed,mY aI U am aL aE H mp d l w bJ y k X,aN3 AR N_,aQO (by rintro ac0 _ e ag) j,o3,pv AU av g dL d,nu,m2 tP,p1,mY t,mX axt (wr aed ag (fun aob Q t1 cX I bQ bW=>not_of ?_)),mW (qp Ft bQ bW dL fun tk=>sk t Q I bQ e)]
def Ab7{E}{h}{f}(aed:p_ mh f):mh E h (.ir f):=fun{aI U am aL aE H mp d l w bJ y g k X aW bb}aN M bG aB cz av O t=>by rw[o_ AR N_,mZ bG];rintro ac0 _ e ag;rw[aV8 j,o3,xw,mY bZ dL d,mZ av,uT d,mZ d,mY d L,oQ,qD,aOj iH O];subst O;exact isTrue_not (sN aed ag cz ct dL (aWm aTG))
def Aa3:∀{E}{h}{x f g}(l9:p_ mh x)(sa:qA)(bh:pW g),p8 aN8:=by rw[mY E h x f g,mY l9 sa bh,mY aI U am aL aE H mp d l w bJ y k X,aN3 AA N8];rintro v j ab _ e ag;rw[qt,oi,mY J,pP cM,o3,pv Ay av bZ hc av,rs bZ (by rw[mX aFM (sN l9 rX cz ct hc fun Q t1 cX I bQ=>?_),mW (x2 sa aP8 x0 av fun cM h2 d2 g5 L c7 fh=>aVg fh)]) (by rw[mX aFM (sN l9 rX cz ct hc fun Q t1 cX I bQ=>?_),mW (x2 bh (nW ag) x0 av fun cM h2 d2 g5 L c7 fh=>aVg fh)])]
def Ab6:∀{E}{h}{x f g}(l9:p_ mh x)(aed:p_ mh f)(aee:p_ mh g),mh E h aN8:=by rw[mY E h x f g,mY l9 aed aee,mY aI U am aL aE H mp d l w bJ y aic k,mY X aW bb,mY aN M bG aB cz av O t,o_ AA N8,mZ bG];rintro v j ab _ e ag;rw[qt,oi,mY J,pP cM,o3,pv Ay av bZ hc av,rs bZ (by rw[mX aJM (sN l9 rX cz ct hc fun Q t1 cX I bQ=>?_),mW (x2 aed aP8 x0 av O fun h2 d2 g5 L c7=>t _ _ _ wt c7)]) (by rw[mX aJM (sN l9 rX cz ct hc fun Q t1 cX I bQ=>?_),mW (x2 aee (nW ag) x0 av O fun h2 d2 g5 L c7=>t _ _ _ wt c7)])]
abbrev ah7(E:iJ)(h:u)(p:N)(Aa:hG):Prop:=∀{aI:lT}{U:b8}{am:d7}{aL:af.du}{aE:kq}{H:r8}{mp:wU}{i:r af.bA}{bs:ac3}{l:du}{w bJ:ch}{y:ar}{k:en}{X:eW}{aW:ux}{bb:ux},pA→xM→aP4 jj Aa i→q4→aS8→aOY (if p then xS adb Aa else xS afs Aa)→anW E U am H k X aW bJ y→q6 (adc (.ag6 (if p then .gL else .aQ) i bs) aL)
abbrev ah8(E:iJ)(h:u)(p:N)(Aa:hG):Prop:=∀{aI:lT}{U:b8}{am:d7}{aL:af.du}{aE:kq}{H:r8}{mp:wU}{i:r af.bA}{bs:ac3}{jE:bv ck}{l:du}{w bJ:ch}{y:ar}{g:N}{k:en}{X:eW}{aW:t7 N}{bb:ux},pA→xM→aP4 jj Aa i→q4→aS8→aOY (if p then xS adb Aa else xS afs Aa)→aTy bJ→amj E U am H k X aW bJ g→q6 (alt (.ag6 (if p then .gL else .aQ) i bs) aL jE)
def Re:∀{E}{h}{p},ň ah7 .C:=by rw[mY E h p aI U am aL aE H mp i bs l w,mY bJ y k X aW bb,sv,aOk p (Aq av)]
def Rf{E}{h}{p}:ň ah8 .C:=fun{aI U am aL aE H mp i bs jE l w bJ y g k X aW bb}aN M bG aB cz av O t=>by rw[aOk p (Aq av)]
def Dw{K}{mp}{aE}{i}(ag:jj K mp aE .C i=F):i=[]:=by rw[oT i (by rfl) _ _ (by rw[sQ ag])]
def Rc:∀{E}{h}{p}{d}{Aa}(l8:pW d)(it:ň ah7 Aa),ah7 E h p u6:=by rw[mY E h p d Aa,mY l8 it,mY aI U am aL aE H mp i bs l w bJ y k,mY X aW bb,sv,o_ BV CB,mZ bG];rintro j xs e hs dQ dW;rw[rs p (by simp only[fU]at av⊢;rw[oi,nu,mY J];(rw[pP aP]);(rw[o3]);(induction Aa using hG.ae with|C=>(rw[pD (Dw dW)]);rw[Ō t.to,p1,mY t,mW aFr (sN l8 dQ cz ct t)]|s bj aue=>rw[m3 AR (CB dW)];rintro L awY e _;rw[mX aL9 (wr l8 dQ aSF),oi,nu,mY bZ aS av,rs bZ (by refine qp Ft bQ bW aS fun tk=>?_;dsimp only[fU];exact x2 (wl it Q tk) dW x0 (o7 av) fun cM h2 d2 g5 L c7 fh=>aVg fh) (by rw[mZ ct,Ō t.to,p1,mY t,mX (qp Ft bQ bW aS ?_),mY tk];dsimp only[N.aev,abv];exact oJ I bQ bW)])) (by simp only[N.aev,abv]at av⊢;rw[oi,nu,mY J,pP aP,o3];induction Aa using hG.ae with|C=>(rw[pD (Dw dW)]);rw[Ō t.to,p1,mY t,mW aFr (sN l8 dQ cz ct t)]|s bj aue=>rw[m3 AR (CB dW)];rintro L awY e _;rw[mX aMa (wr l8 dQ aSF),oi,nu,mY bZ aS av,u9 bZ (by rw[mX (qp Ft bQ bW aS ?_),mY tk];dsimp only[N.aev,abv];exact x2 (wl it Q tk) dW x0 (o7 av) fun cM h2 d2 g5 L c7 fh=>aVg fh) (by rw[mZ ct,Ō t.to,p1,mY t,mX (qp Ft bQ bW aS ?_),mY tk];dsimp only[fU];exact oJ I bQ bW)])]
def Rd:∀{E}{h}{p}{d}{Aa}(aeZ:aSI)(anu:ň ah8 Aa),ah8 E h p u6:=by injections E h p d Aa;rw[mY aeZ anu,mY aI U am aL aE H mp i bs,mY jE l w bJ y g k X aW bb aN M bG aB cz av O t,o_ BV CB,mZ bG];rintro j xs e hs dQ dW;rw[rs p (by dsimp only[fU,Us]at av⊢;rw[oi,nu,mY J];(rw[pP aP]);(rw[o3]);(induction Aa using hG.ae with|C=>(rw[pD (Dw dW)]);rw[nf av,nu,mY av,uT av,nu,mY av L];subst av;rw[qD,mX aDn (sN aeZ dQ cz ct O fun Q t1 cX I bQ=>?_),mZ O];(rw[rs g (by exact isTrue_and_nil aTG) (by exact aTG)])|s bj aue=>rw[m3 AR (CB dW)];rintro L awY e _;rw[oi,nu,mY bZ aS av,rs bZ (by refine aDn (sN aeZ dQ cz ct aS fun Q t1 cX I bQ=>?_);simp only[fU];exact x2 (qp anu) dW x0 (o7 av) O fun h2 d2 g5 L c7=>t _ _ _ wt c7) (by rw[p2 av,uT I,mZ I,mY I L,pi,qD];rw[aS]at O;rw[nf O,aVC O O O (aDn (sN aeZ dQ cz ct aS (aWm aTG)))])])) (by dsimp only[N.aev,abv,Uv]at av⊢;rw[oi,nu,mY J,pP aP,o3];induction Aa using hG.ae with|C=>(rw[pD (Dw dW)]);rw[nf av,nu,mY av,uT av,nu,mY av L];subst av;rw[qD,mX aDo (sN aeZ dQ cz ct O fun Q t1 cX I bQ=>?_),mZ O];(rw[rs g (by exact aTG) (by exact isTrue_or_nil aTG)])|s bj aue=>rw[m3 AR (CB dW)];rintro L awY e _;rw[oi,nu,mY bZ aS av,u9 bZ (by refine aDo (sN aeZ dQ cz ct aS fun Q t1 cX I bQ=>?_);simp only[N.aev,abv];exact x2 (qp anu) dW x0 (o7 av) O fun h2 d2 g5 L c7=>t _ _ _ wt c7) (by rw[p2 av,uT I,mZ I,mY I L,pi,qD];rw[aS]at O;rw[nf O,aVC O O O (aDo (sN aeZ dQ cz ct aS (aWm aTG)))])])]
def AaQ{E}{h}{Aa}(it:ah7 E h F Aa):p8 (.eB Aa):=fun{aI U am aL aE H mp d l w bJ y k X aW bb}aN M bG aB cz av t=>by rw[o_ AR N6,mZ bG];rintro i _ e ag;exact sN it ag cz av t
def Abg{E}{h}{Aa}(it:ah7 E h Y Aa):p8 (.or Aa):=fun{aI U am aL aE H mp d l w bJ y k X aW bb}aN M bG aB cz av t=>by rw[o_ AR N',mZ bG];rintro i _ e ag;exact sN it ag cz av t
def Ab4{E}{h}{Aa}(it:ah8 E h F Aa):mh E h (.eB Aa):=fun{aI U am aL aE H mp d l w bJ y g k X aW bb}aN M bG aB cz av O t=>by rw[o_ AR N6,mZ bG];rintro i _ e ag;exact sN it ag cz av O t
def Ab8:∀{E}{h}{Aa}(it:ah8 E h Y Aa),mh E h (.or Aa):=by rw[mY E h Aa,mY it,mY aI U am aL aE H mp d l w bJ y g k,mY X aW bb,mY aN M bG aB cz av O t,o_ AR N',mZ bG];rintro i _ e ag;exact sN it ag cz av O t
abbrev azi:ai7→aqn|.eq=>.abH|.ne=>.aF5|.lt=>.aFX|.le=>.aFY|.gt=>.aFJ|.ge=>.aFK|.gH=>.abK|.lM=>.anS|.agL=>.aFO|.app=>.axi
def MO{p}{f'}(b:atN p f'=F):f'=azi p:=pX cD b (by rw[om,ć p ai7.ae])
def gV.iG{E}{h}{aI}{U}{am}(aN:pA):aI.ib+100<mj:=q8 aN.ib (oa Ag [aI.ib,h,mj] (S+100) a8 (S+(tC ai)+400) a8 e aa)
abbrev aql(aI:lT)(k:en)(j ab:ck)(g:N):Prop:=kr.ah6 aI k j ab g∧kr.ajg aI k j ab (! g)
def No{j ab}(J:j.i6 ja=F)(b0:ab.i6 ja=F):jz.ahp (ko j) (ko ab)=b1 (j=ab):=by have:=JL ja ja J b0;rw[nH t j ab,hZ t,mW aa.gS t,jq t,mW N.amC.gS fun a=>t (aa.mp a)]
def OO{E}{h}{aI}{U}{am}(aN:pA)(f g)(b:ud f∨ud g):aI.ib+1+sH ab8<mj:=by rw[m2 (sH u.alB),m5,m2 (sH u.apB),m5,m2 aN.iG,m5,mW Yw (b.az (u.eG (u.alB ..)) (u.eG (u.apB ..))) aa]
def eq_data:∀{E}{h}{aI}{U}{am}{k}{X}(aN:pA){j ab}{aF iZ}{g}(fc:aPC)(gK:aV1)(J:j.i6 ja=F)(b0:ab.i6 ja=F)(U:b1 (j=ab)=g),aql aI k aF iZ g:=by rw[mY E h aI U am k X,mY aN,mY j ab aF iZ g,mY fc gK J b0 U,n4 (GL ja fc J) as gr,n4 (GL ja gK b0) bq jk];have alv:=D6 ja J;have ar1:=D6 ja b0;rw[m2 ((No J b0).ah U),mY d];have am1:aI.ib+ab8 (ko j).i1 (ko ab).i1<mj:=u.hO (u.adL (u.avE _) _) (OO aN (ko j).i1 (ko ab).i1 (pp alv.2));rw[mZ U,oQ,mW ⟨fun b' V bb aW b=>kr.compareEq_reads gr jk alv.1 ar1.1 am1 b,fun b' V bb aW b=>kr.compareNe_reads gr jk alv.1 ar1.1 am1 b⟩]
def Nl{aI}{k}{X}(cK:aI.ib<mj){f dE}{xs}{i}(J:k.aK.aje f xs)(l:aQm i xs.e0)(b0:k.aK.aje dE #[]):aql aI k si (nP dE) i.dD:=by rw[m2 (wx l.z),mY aV,n2,oT i (by have he:∀aq(Q:aq<xs.c5)(h2:aq<aVO ó),kr.aFE aI.in1 k xs[aq] (#[]:ó)[aq] F:=fun aq P h2=>eh h2 (u.aDX aq);(have bz:(r.acU xs.c5).db (nO F)=F:=sh aV);rw[m2 (kr.ah6.ajT (d:=nO F) J b0 aV cK he),mY dN,m2 (kr.ajg.ajT (d:=nO F) J b0 aV cK he),mY dG];rw[bz]at dN dG;exact⟨dN,dG⟩) aP i (by(have a:(xs.c5 !=aVO ó)=F:=sh aV);exact⟨kr.ah6.aJ9 J b0 a cK,kr.ajg.aJ9 J b0 a cK⟩)]
def IY{X}{b}{xs}(l:ed b X [] xs.e0):xs=#[]:=q8 l.z (fE.aHe (by rw[Ă]))
def Ur{aI}{k}{X}(cK:aI.ib<mj){f dE}{xs}{i}(J:k.aK.as0 f xs)(l:aQm i xs.e0)(b0:k.aK.as0 dE #[]):aql aI k si (nP dE) i.dD:=by rw[m2 (wx l.z),mY aV];have he:∀aq(Q:aq<xs.c5)(h2:aq<aVO ó),kr.aFE aI.in1 k xs[aq] (#[]:ó)[aq] F:=fun aq P h2=>eh h2 (u.aDX aq);(have a:((r.acU (ab8 xs.c5 (aVO ó))).db (nO F)&&xs.c5==aVO ó)=i.dD:=by rw[aV,ţ (aVO (fE _)=0),u.min_zero,mZ l aV];induction i using r.ae<;>rfl);rw[m2 (kr.ah6.tuples (d:=nO F) J b0 cK he),mY dN,m2 (kr.ajg.tuples (d:=nO F) J b0 cK he),mY dG];rw[a]at dN dG;exact⟨dN,dG⟩
def AbY(n t):(af.bH.dF n==af.bH.dF t)=(n==t):=by rw[nH a n t,uf];simp only[aaV,aaV];rw[ajl.gS fun z'=>a (Gx z'),ajl.gS a]
def Uq:∀{E}{h}{aI}{U}{am}{H}{w}{k}{X}(bl:p9)(aN:pA)(aB:q4){q aq}{aF iZ}(fc:ò n3 aF)(gK:ò (.D aq) iZ)(Ab:pO w nS)(cQ:nX w aq nS),kr.ah6 aI k aF iZ F:=by injections E h aI U am H w k X;intro bl aN aB;injections q aq aF iZ;rw[mY fc gK Ab cQ,m2 (u.hO (u.acK ..) aN.iG),mY cK,p4 fc,mZ fc,ö,aS4 ef];cases ba.cq.ah dg;rw[p4 gK,mZ gK];rintro t cG e;rw[nD (aB.hC.at cQ) er am0 aLc];cases cG.cq.ah am0;obtain⟨_,_,xs,⟨p,Aa,ep,ho,Q,h2,h3,h4,h5⟩,aj⟩:=ef;obtain⟨_,_,k7,⟨o',afr,aMV,au6,A1,BR,Cp,CV,Dt⟩,aap⟩:=aLc;clear h4 h5;subst aj;clear CV Dt;subst aap;have az4:∀{Aa:fE ag7},Aa.e0=([]:r (ar×d7×ck)).au (entryOfKey (ac7 E.b' E.V))→Aa=#[]:=qW (fE.ext' a);rw[pD (az4 h3),pD (az4 Cp),m1 (∀b' V,k.aK.aks aVz _ _) (fun b' V=>(Cn p _ _ ho Q h2 (tZ (nomatch he)) (.C) r.ahO)),mY aFB,m1 (∀b' V,k.aK.aks aVz _ _) (fun b' V=>(n7 Cn au6 A1 BR (tZ (nomatch he)) (.C) r.ahO)),mY aFC,mW fun b' V bb aW b=>nI keq_eq knd (mu _ V) l F (aB.Ff bl aN aTj) (aB.Ff bl aN (Cb cG).1) (aFB _ V) (aFC _ V) cK (nO .C) b]
def Kz{X}{j}{aF}{b}(l:de b X (oh j) aF):∃f xs,aF=si∧b.aje f xs∧ed b X j xs.e0:=by rw[Ø,n2];rintro f cR xs o e _ d hc hd _ l;exact(Au f _ e aRq l)
def Qj:∀{X}{j}{aF}{b}(l:de b X (nE j) aF),∃f xs,aF=si∧b.as0 f xs∧ed b X j xs.e0:=by rw[mY X j aF b,mY l,Ø,n2];rintro f cR xs o e _ d hc hd _ l;exact(Au f _ e aRq l)
def Nn:∀{E}{h}{aI}{U}{am}{H}{w}{k}{X}(bl:p9)(aN:pA)(aB:q4){j ab}{aF iZ}{g}(fc:aPC)(gK:aV1)(aJ:kz w j ab=c g),kr.ah6 aI k aF iZ g∧((∃q aq,j=n3∧ab=.D aq)∨kr.ajg aI k aF iZ (! g)):=by injections E h aI U am H w k X;intro bl aN aB;injections j ab aF iZ g;intro fc gK aJ;have cK:aI.ib<mj:=u.hO (u.acK ..) aN.iG;rw[m1 (aql aI k aF _ g→kr.ah6 aI k _ _ g∧((∃q aq,j=n3∧ab=.D aq)∨kr.ajg aI k _ iZ _)) (ue ⟨oq,.bF oI⟩),mY aid];induction j using ar.ae with|B=>rw[sQ aJ]|aO n=>(rw[qO ab aO t (by subst fc;subst gK;rw[p2 aJ,pi,mW (rW aid (m7 kr.ah6.aGD) (m7 kr.ajg.aGD))]) (by rw[sQ aJ])])|m q=>rw[so Cl aJ];(rintro aq e aJ);rw[o8 fc,mZ fc,sK,o8 gK,mZ gK];(rw[oc aP]);rw[nf aJ,qE,mY aJ,vP,mW (rW aid (ni kr.ah6.int_int) (ni kr.ajg.int_int))]|bi n=>(rw[qO ab bi t (by rw[o8 fc,mZ fc,sK,o8 gK,mZ gK];(rw[oc aP]);rw[p2 aJ,pi,m2 (nI kr.ah6.aEM aI aI k k (af.bH.dF n) v (af.bH.dF t) aP),mY dN,m2 (nI kr.ajg.aEM aI aI k k (af.bH.dF n) v (af.bH.dF t) aP),mY dG];rw[AbY]at dN dG;exact rW aid dN dG) (by rw[sQ aJ])])|ay i=>rw[so IS aJ];(rintro H e aJ);(rw[oT H (by(rw[pD (qJ ap.c.dB (c i.dD=c g) aJ)]);rw[zd Qj fc,mZ fc];(rintro f xs e J l);rw[zd Qj gK,mZ gK];(rintro dE k7 e b0 r');(rw[pD (IY r')]);exact aid (Ur cK J l b0)) aP H (by rw[ou (qJ Ct ((nK ((ar.ay i).i6 ja&&(ar.ay (aP::H)).i6 ja) (c (b1 (i=aP::H))))=c g) aJ) hd aJ];have hd:=(N.c3 ..).mp hd;exact aid (eq_data aN fc gK hd.1 hd.2 (Ŝ (pX aon.gS ⟨ar.ay.dB,cr _⟩) aJ)))])|bm i=>rw[so IQ aJ];(rintro H e aJ);(rw[oT H (by(rw[pD (qJ ap.c.dB (c i.dD=c g) aJ)]);rw[zd Kz fc,mZ fc];(rintro f xs e J l);rw[zd Kz gK,mZ gK];(rintro dE k7 e b0 r');(rw[pD (IY r')]);exact aid (Nl cK J l b0)) aP H (by exact qJ Aq (B=c g) aJ)])|D q=>induction ab using ar.ae with|bm H=>(rw[oT H (by rw[nD (qJ Gf ((kC w q (te (c i.dD)))=c g) aJ) i Ab aJ,nf aJ,qE,mY aJ,vP,p4 fc,mZ fc];(rw[ö]);rw[aS4 ef];cases ba.cq.ah dg;(obtain⟨_,xs,o,d,_,l⟩:=ef);rw[zd Kz gK,mZ gK];(rintro dE k7 e b0 r');(rw[pD (IY r')]);exact aid (Nl cK (AP _ d e (qS o)) l b0)) aP H (by exact qJ Aq (B=c g) aJ)])|D aq=>rw[nD (qJ J4 ((aat w q (te (aat w aq fun H=>nK (i.dD&&H.dD) (c F))))=c g) aJ) i Ab aJ,nD (J4 aJ) H cQ aJ,mX Bc aJ fun he aJ=>?_,mZ aid,nf aJ,qE,mY aJ,vP,mZ aJ,qE];have he:=(N.c3 ..).mp he;(rw[pD (r.alr.mp he.1)]);rw[qE];(rw[pD (r.alr.mp he.2)]);exact⟨Uq bl aN aB fc gK Ab cQ,.bT (nM AI e e)⟩|_=>rw[sQ aJ]
def LX{j}(J:j.i6 ja=F):∀{i},ar.kP ja i=F→((abc i).dS fun ab=>jz.ahp ab (ko j))=b1 (j∈i)|[],_=>e|ab::i,aC=>by rw[aUb aC aC,m6 ((m7 jz.ahp||(abc i).dS fun ab=>jz.ahp ab _)=_),LX J aC.2,No aC.1 J,←N.decide_or,mW (rW aon.gS (oE (b.az (ol (d▸r.kk)) (r.lH _))) (oE ((r.gA.mp b).ajN abH.cq id)))]
def NZ{E}{h}{aI}{U}{am}(aN:pA){j}{i}(J:j.i6 ja=F)(aC:ar.kP ja i=F):jz.azc (abc i)=F∧(ko j).aqV=F∧aI.ib+1+ab8 (jz.azW (abc i)) (ko j).i1<mj∧((abc i).dS fun ab=>jz.ahp ab (ko j))=b1 (j∈i):=(By ((H4 ja aC).1) ((D6 ja J).1) (OO aN _ _ (.bF (D6 ja J).2)) (LX J aC))
abbrev adI(E:iJ)(aI:lT)(k:en)(bb:ux)(f':aqn)(aF ig:ck)(g:N):Prop:=∀{aW:ux},(∀tk,aW qz (aNP tk))→q6 (aGQ f' aF ig)
def Vq{E}{h}{aI}{U}{am}{w}{k}{X}{bb}(aN:pA){j}{i}{aF ig}{g}(fc:aPC)(aa9:ò o9 ig)(aJ:jT w j o9=c g):zU .abK aF ig g∧zU .anS aF ig (! g):=by rw[wG (qJ Ct ((nK (j.i6 _&&ar.kP _ i&&tU) nJ)=c g) aJ),qE,mY hd aJ,nf aJ,qE,mY aJ,vP,aUb hd ((N.c3 ..).mp hd).1,n4 (GL ja fc hd.1) as gr,m3 Bt aa9,mZ aa9];rintro f cR xs o e _ d hc ahw _ l;rw[n4 (GK ja l hd.2) bq jk,yq (NZ aN hd.1 hd.2) i0 aaq akN aof,mW ⟨aN0 (kr.in_tuple_reads (.anw d hc ahw jk) gr i0 aaq akN (nb aof (t _))),aN0 (kr.notIn_tuple_reads (.anw d hc ahw jk) gr i0 aaq akN (nb aof (t _)))⟩]
def Vo:∀{E}{h}{aI}{U}{am}{w}{k}{X}{bb}(aN:pA){j}{i}{aF ig}{g}(fc:aPC)(aa9:ò q2 ig)(aJ:jT w j q2=c g),zU .abK aF ig g∧zU .anS aF ig (! g):=by injections E h aI U am w k X bb;intro aN;injections j i aF ig g;rw[mY fc aa9 aJ,wG (qJ Ct ((nK (j.i6 _&&ar.kP _ i&&tU) nJ)=c g) aJ),mZ aJ,mY hd aJ,nf aJ,qE,mY aJ,vP,aUb hd ((N.c3 ..).mp hd).1,n4 (GL ja fc hd.1) as gr,m3 Bt aa9,mZ aa9];rintro f cR xs o e _ d hc ahw _ l;rw[n4 (GK ja l hd.2) bq jk,yq (NZ aN hd.1 hd.2) i0 aaq akN aof,mW ⟨aN0 (kr.in_list_reads (.aw d hc ahw jk) gr i0 aaq akN (nb aof (t _))),aN0 (kr.notIn_list_reads (.aw d hc ahw jk) gr i0 aaq akN (nb aof (t _)))⟩]
def in_dict:∀{E}{h}{aI}{U}{am}{H}{w}{k}{X}{bb}(bl:p9)(aN:pA)(aB:q4){j}{q}{aF ig}{g}{i}(fc:aPC)(aa9:ò n3 ig)(Ab:aUJ)(aJ:(nK (l4 j&&j.im jA) (c (kx j i).eF))=c g),zU .abK aF ig g:=by injections E h aI U am H w k X bb;intro bl aN aB;injections j q aF ig g i;intro fc aa9 Ab aJ;obtain⟨aG,aJ⟩:=Ct aJ;rw[nf aJ,qE,mY aJ,vP,qE,aUb aG aG,aPZ n ba aa9];obtain⟨cw,dg,ef⟩:=aB.hC.at Ab;cases ba.cq.ah dg;obtain⟨_,_,xs,hD,aj⟩:=ef;have e7:=fc.dx jA aG.2;rw[mZ fc,qO j ay agO (by(obtain⟨aiF,_,_,_,e,_⟩:=id e7);rw[mX (aN0 (wpAny_in_heap (knd:=aVV ac7) aN.apZ (AE š aG.2 e7) (aB.Ff bl aN aTj) hD ?_)),nt (aj.ahK aSh),mY J,nV,ng];(rintro ab a);rw[tp (by rw[ri B8])];(rintro fD dE g4 ab a _);rw[m8];rw[ab]at t;rw[a,mW t _];rw[ab]at t;rw[a,mW t _]) (by cases š)]
def Vm:∀{E}{h}{aI}{U}{am}{H}{w}{k}{X}{bb}(bl:p9)(aN:pA)(aB:q4){o}{q}{aF ig}{i}(fc:ò qv aF)(aa9:ò n3 ig)(Ab:á),zU .abK aF ig (aUO i)∧zU .anS aF ig (! aUO i):=by injections E h aI U am H w k X bb;intro bl aN aB;injections o q aF ig i;rw[mY fc aa9 Ab,p4 aa9,mZ aa9,ö,aS4 ef];cases ba.cq.ah dg;obtain⟨_,_,e1,hD,aj⟩:=ef;rw[o8 fc,mZ fc,oc v];have ns:=aB.Ff bl aN aTj;have aG:(mu E.b' E.V).is o (u2 o)=F:=hZ (e:o=o);rw[vi (aN0 (wpAny_in_of aG ns hD.ane ?_)) (aN0 (wpAny_notIn_of aG ns hD.ane ?_)),nt (aj.ahK o),mY J,nV,ng];rintro ab a;rw[m9,mY J,vW,ng];rintro fD g4 ab a _;rw[m8];rw[ab]at t;rw[a,mW t _];rw[ab]at t;rw[a,mW t _,nt (aj.ahK o),aO0 ab a,tp (by rw[vW])];rintro fD g4 ab a _;rw[m8];rw[ab]at t;rw[a,mW t _];rw[ab]at t;rw[a,mW t _]
def Vi:∀{w}{j}{q}{g}(aJ:jT w j n3=c g),(∃i,aUJ∧(nK (l4 j&&j.im jA) (c (kx j i).eF))=c g)∨∃i o,á∧j=qv∧aUO i=g:=by injections w j q g;rw[mY aJ,aTg ((match(generalizing:=false)s_ with|c x6=>(nK (l4 j&&j.im jA) (c (kx j i).eF))|c uH=>(match(generalizing:=false)j with|n'=>c (lB q i).eF|_=>B)|_=>B)=c g)];induction d:s_ using ap.ae with|B=>rw[d]at aJ;rw[pe aJ]|c p=>rw[d]at aJ;rw[oA];induction p using c_.ae with|bE i=>exact .bT (Ad i e aJ)|bM i=>(rw[qO j m o (by exact rt (Ŝ (Au i o e e) aJ)) (by rw[pe aJ])])|_=>rw[pe aJ]
def N0:∀{E}{h}{aI}{U}{am}{H}{w}{k}{X}{bb}(bl:p9)(aN:pA)(aB:q4){j x}{aF ig}{g}(fc:aPC)(aa9:ř x ig)(aJ:jT w j x=c g),zU .abK aF ig g∧((∀q,x=n3→∃i,á)→zU .anS aF ig (! g)):=by injections E h aI U am H w k X bb;intro bl aN aB;injections j x aF ig g;intro fc aa9 aJ;induction x using ar.ae with|ay i=>exact(Vq aN fc aa9 aJ).ajN id fun b P=>b|bm i=>exact(Vo aN fc aa9 aJ).ajN id fun b P=>b|D q=>rw[nt (Vi aJ),mY J,sE,ng];(rintro i Ab b);rw[m9,mY J,vW,ng];(rintro i o Ab e e);rw[m8,vi (in_dict bl aN aB fc aa9 Ab b) (fun a=>?_),m3 Al (a _ e)];(rintro l' z');cases Ab.cq.ah z';exact(Vm bl aN aB fc aa9 Ab).ajN id fun b P=>b|_=>rw[sQ aJ]
def Od{k:en}{X}{y}{cM}(l:aN5):(cM==ck.B)=b1 (y=.B):=by induction y using ar.ae with|B=>rw[ub];rfl|aO g=>rw[ub];rfl|m q=>rw[m3 Al l,n2,sK];rfl|bi k=>rw[m3 Al l,n2,sK];rfl|ay i=>rw[m3 AA l,n2,aUi f];rfl|bm i=>rw[m3 AA l,n2,aUi f];rfl|D q=>rw[m3 Ac l,n2];rintro n _ e;rfl
def Wn{aI}{k}{bb}{ag}{y}{aW}(b:aW (n5 (!(y==.B))) k):v2 (aGQ .axi y .B):=by rw[m6 (v2 (do return ck.aO (!(←isSame y _))))];rw[isSame_none]at⊢;exact dH (pQ fX fX)
def HU:∀{E}{aI}{k}{X}{bb}{ac:wF R R}{j ab y}{aF iZ}{f'}(fc:aPC)(gK:aV1)(aJ:(match(generalizing:=false)j,ab with|ũ,.m ab=>c (ar.aO (ac j ab))|_,_=>B)=c y)(o:∀f v g aP,zU f' (u2 f) (.m g aP) (sH ac)),∃g,y=qz∧zU f' aF iZ g:=by rw[mY E aI k X bb ac j ab y aF iZ,mY f' fc gK aJ o,qO j m f (by(rw[qO ab m g (by rw[nf aJ,qE,mY aJ,vP];(obtain⟨v,e⟩:=fc);(obtain⟨aP,e⟩:=gK);exact(Ad _ e (o f v g aP))) (by rw[pe aJ])])) (by rw[pe aJ])]
def O2:∀{E}{aI}{k}{X}{bb}{ac:N→N}{j ab y:ar}{aF iZ}{f'}(gK:aV1)(aJ:(match(generalizing:=false)ab with|.B=>c (ar.aO (ac (b1 (j=.B))))|_=>B)=c y)(o:zU f' aF .B (ac (b1 (j=.B)))),∃g,y=qz∧zU f' aF iZ g:=by rw[mY E aI k X bb ac j ab y aF iZ,mY f' gK aJ o];induction ab using ar.ae with|B=>rw[nf aJ,qE,mY aJ,vP];subst gK;exact(ql e o)|_=>rw[pe aJ]
def Xz:∀{w}{j ab y}(aJ:f1 w .ne j ab=c y),∃g,kz w j ab=c g∧y=n5 (! g)∧¬∃q aq,j=n3∧ab=.D aq:=by injections w j ab y;intro aJ;by_cases b:∃q aq,j=n3∧ab=.D aq;rw[m3 AR b,om];rintro q aq e e;cases aJ;rw[m1 (f1 w .ne j ab=ox (kz w j ab) j (n5 (! j))) (by rw[qE,qO j D q (by(rw[qO ab D aq (by exact eh (AI q aq e e) b) (by rfl)])) (by rfl)]),mY d,m3 AU (d▸aJ),qE];rintro g dL e;exact(AP g dL e b)
def XP:∀{w}{j ab y}(aJ:f1 w .lM j ab=c y),∃g,jT w j ab=c g∧y=n5 (! g)∧∀q,ab=n3→∃i,á:=by injections w j ab y;intro aJ;by_cases b:∃q,ab=n3;rw[o8 b,mZ b,oc q,aTg ((match(generalizing:=false)s_ with|c r1=>ox (jT w j n3) j (ar.aO (! j))|_=>B)=c y)];(induction d:s_ using ap.ae with|B=>rw[d]at aJ;rw[pe aJ]|c p=>rw[d]at aJ;induction p using c_.ae with|bM i=>rw[m3 AU aJ,qE];(rintro g dL e);exact(AP g dL e (fun aq cQ=>by rw[p2 cQ,pi,mW ⟨i,d⟩]))|_=>rw[pe aJ]);rw[m1 (f1 w .lM j ab=ox (jT w j ab) j (n5 (! j))) (by rw[qE,qO ab D q (by exact eh (qS q) b) (by rfl)]),mY d,m3 AU (d▸aJ),qE];rintro g dL e;exact(AP g dL e (fun aq cQ=>eh ⟨aq,cQ⟩ b))
def MM:∀{E}{h}{aI}{U}{am}{H}{w}{k}{X}{bb}(bl:p9)(aN:pA)(aB:q4){p}{j ab y}{aF iZ}(fc:aPC)(gK:aV1)(aJ:f1 w p j ab=c y),∃g,y=qz∧zU (azi p) aF iZ g:=by rw[mY E h aI U am H w k X bb,mY bl aN aB,mY p j ab y aF iZ,mY fc gK aJ];induction p using ai7.ae with|eq=>rw[m3 AU aJ,qE];(rintro g dL e);exact(Ad g e (aN0 (ni (Nn bl aN aB fc gK dL).1 (t _))))|ne=>rw[m3 AF (Xz aJ),qE];(rintro g dL e ajH);exact(Nn bl aN aB fc gK dL).2.az (oE (eh b ajH)) (w5 (Ad _ e (aN0 (ni n (t _)))))|lt=>exact HU fc gK aJ fun P P P P{aW}t=>lu.me.lt_int (t _)|le=>exact HU fc gK aJ fun P P P P{aW}t=>lu.me.le_int (t _)|gt=>exact HU fc gK aJ fun P P P P{aW}t=>lu.me.gt_int (t _)|ge=>exact HU fc gK aJ fun P P P P{aW}t=>lu.me.ge_int (t _)|gH=>rw[m3 AU aJ,qE];(rintro g dL e);exact(Ad g e ((N0 bl aN aB fc gK dL).1))|lM=>rw[m3 AF (XP aJ),qE];(rintro g dL e hd);exact(Ad _ e ((N0 bl aN aB fc gK dL).2 hd))|agL=>exact O2 (ac:=id) gK aJ (aN0 (af.is_none (nb (Od fc) (t _))))|app=>exact O2 (ac:=ir) gK aJ (aN0 (Wn (nb (Od fc) (t _))))
def AaX:∀{E}{h}(bl:p9){p}{f g}(sa:qA)(bh:pW g),p8 (.aX p f g):=by rw[mY E h,mY bl,mY p f g,mY sa bh,mY aI U am aL aE H mp d l w bJ y k X,xW,sv,aQ5 AA N7 (by rintro i f' cy _ e ag),mX Bq ag fun dQ dW f8 iw=>?_,mZ ag,pD (MO dQ),oi,nu,mY J,pP j,o3,oi,nu,mY J,tQ ab,wO,xw,nu,mY fD aJ av,m2 (t.to av),p1,mY t,mX wpAny_Compare1 (wr sa f8 (fun aob Q t1 cX I bQ bW=>aTl iw azd)) (o7 dW),m3 Ac (nI MM k aVZ bb bb bl aN c7 xD fh aJ),mZ aJ av];rintro g e K;exact K fun tk=>sk t h2 wt c7 e
def Ab5:∀{E}{h}(bl:p9){p}{f g}(sa:qA)(bh:pW g),mh E h (.aX p f g):=by rw[đ E,mY bl];injections p f g;intro sa bh;injections aI U am aL aE H mp d l w bJ y aic k;rw[mY X aW bb,mY aN M bG aB cz av O t,o_ AA N7,mZ bG];rintro i f' cy _ e ag;rw[qt,mX Bq ag fun dQ dW f8 iw=>?_,oK,pD (MO dQ),oi,mY J,pP j,o3,oi,mY J,tQ ab,wO,pv AU av fD aJ av,uT av,nu,mY av L];subst av;rw[qD,mX wpAny_isTrue_Compare1 (wr sa f8 (fun aob Q t1 cX I bQ bW=>aTl iw azd)) (o7 dW),m3 Ac (nI MM k aVZ bb bb bl aN c7 xD fh aJ),mZ aJ av,mZ av,nu];rintro g e K;rw[pD (qJ ap.c.dB (c g=c aic) O),mW K fun tk=>aLS (t h2 _ _ wt c7)]
def EF:∀{E}{h}{aI}{U}{am}{aL}{aE}{H}{w}{k}{X}{bb}(bl:p9)(aN:pA)(M:xM)(aB:q4){fn j}{xs}{cE}{bs}{aW}(cu:cE∈["len","any","all","sorted","min","isinstance"])(ag:aRh cE=F)(J:iS j=F)(ba:(act bs (aec xs aL)).dS (·.1)=Y)(b:d3 wn aI (awt (act bs (aec qi aL))) (fun vs ap6=>d3 wn aI (bp (.acy cE) vs) aW bb ap6) bb k),q6 (adc (.jG fn qi [] bs) aL):=by rw[mY E h aI U am aL aE H w k X bb,mY bl aN M aB,mY fn j xs cE bs aW,mY cu ag J ba b,pw AF De,mZ ag];rintro n e aG hd;rw[ou (bl.ay4 cE cu) Q h2,mX lu.me.aqm (HM M aG hd (aQY bl.adB.K.g0) Q (aQY bl.adB.g.g0) h2 ?_),mW lu.me.callWith_builtin1 b (BT J) ba]
def Dn{aI}{aL}{k}{bb}{j}{bs}{aW}{ag}(J:iS j=F)(b:d3 ag aI (adc j aL) (fun y ap6=>aW [y] ap6) bb k):v2 (awt (act bs (aec [j] aL))):=awu (aqe b (wb a (aEE a)) (wb a a)) (BT J)
def IW{aI}{aL}{k}{bb}{j ab}{bs}{aW}{ag}(J:iS j=F)(b0:iS ab=F)(b:d3 ag aI (adc j aL) (fun y ap6=>d3 ag aI (adc ab aL) (fun aP ap7=>aW [y,aP] ap7) bb ap6) bb k):v2 (awt (act bs (aec aVU aL))):=awu (aqe b (wb a (awu (aqe a (wb a (aEE a)) (wb a a)) (BT b0))) (wb a a)) (BT J)
def av2{aL}{ab}{bs}(b0:iS ab=F):(act bs (aec [ab] aL)).dS (·.1)=Y:=aUu BT b0
def PS:∀{E}{U}{am}{H}{w}{k:en}{X}(aB:q4){p}{co}{i}(ef:ř p co)(b:lN w p=c i),∃f cR xs o,co=si∧k.aK.bg f=c cR∧(cR.eY=p3 "list"∨cR.eY=p3 "tuple")∧cR.fS=.ia xs o∧tU∧aQm i xs.e0:=by rw[mY E U am H w k X,mY aB,mY p co i,mY ef b];induction p using ar.ae with|ay l'=>rw[sB lN ap.c.fV,pq,m3 Bt ef,mZ ef];(rintro f cR xs o e _ d hc hd aC t);exact(JH f _ _ o e d (.bF hc) hd aC t)|bm l'=>rw[mX ES (Df (p:=oh l') aB ef b) fun f cR xs o Q h2 h3 h4=>?_,mW EO f _ _ o Q h2 (pp h3) h4]|D q=>rw[mX ES (Df (p:=n3) aB ef b) fun f cR xs o Q h2 h3 h4=>?_,mW EO f _ _ o Q h2 (pp h3) h4]|_=>rw[tb]
set_option tactic.hygienic true in
def I8{b}{X}:∀{i}{vs}{bq},yA→acx i=c bq→axk.aMb vs bq|[],_,_,l,d=>by rw[ub,p2 d,pi,mW .C]|qz::xs,_,_,l,d=>by rw[tR,n2];(rintro y cy e aJ br);rw[vP];simp only[Me,Mf,Mg,Mh,Mi,Mj,Mk,Ml]at d;split at d;rename_i g7 a5;rw[nf d,mZ d,mY d,oQ,mW .s g (I8 br a5),pe d]|.B::_,_,_,_,d=>m4 (Aq d)|xk::_,_,_,_,d=>m4 (Aq d)|uW::_,_,_,_,d=>m4 (Aq d)|nE _::_,_,_,_,d=>m4 (Aq d)|oh _::_,_,_,_,d=>m4 (Aq d)|vS::_,_,_,_,d=>m4 (Aq d)
def Aa6{E}{h}(bl:p9){f}(sa:qA):p8 (.c9 f):=fun{aI U am aL aE H mp d l w bJ y k X aW bb}aN M bG aB cz av t=>by rw[o_ AD VX,mZ bG];rintro fn j _ e ag;rw[qt,aTr dW,aV8 p,o3,xw,mY fD e9 d,m2 tP,p1,mY t,oA,m3 AU e9,mZ e9 av];rintro i aC e;rw[mX EF bl aN M aB qg dQ dW e (Dn dW (yE f8)),aPF Dc (qp PS) aC,mZ bW];rintro f cR xs o e d hc hd jt cy;rw[aTm aV cy.z];unfold dv at jt;(have cW:aW (.m xs.c5 (t1+1)) {k with aK:=Q,ce:=t1+1+1}:=nb aV (oJ I bQ u0));rw[nY hc hc];rintro hc;rw[m9];rintro hc;rw[m8,mW (qp len_list aRq (nb aV (aVy A4 [↑i.z] b5 1048576 e (Bb jt))) cW),mW (qp lu.me.len_tuple aRq (nb aV (aVy A4 [↑i.z] b5 1048576 e (Bb jt))) cW)]
def AaP{E}{h}(bl:p9){f}(sa:qA):p8 (.db f):=fun{aI U am aL aE H mp d l w bJ y k X aW bb}aN M bG aB cz av t=>by rw[aQ5 AD VL (by rintro fn j _ e ag),aQO (by rw[aTr dW]) i,o3,pv AU av fD e9 d,nu,m2 tP,p1,mY t,oA,nD (IQ e9) l' jN gy,mZ e9,rP i (oh l') jN,m3 AU gy,mZ gy av];rintro bq aC e;rw[mX EF bl aN M aB qg dQ dW e (Dn dW (yE f8)),m3 Bt bW,mZ bW];rintro f cR xs o e _ d hc hd jt cy;rw[mX (nI axk.all_bools k aPf vs xs.e0 bQ.fr (Dl (no:=nO Y)) aN.fk (AP cR d hc (qd o (yg fE.aLo hd))) (I8 cy aC) fun h2 d2 anK af6=>?_),rf (bQ.FJ anK af6 fun P a=>a) c7 L P,mW (aVg e)]
def AaR{E}{h}(bl:p9){f}(sa:qA):p8 (.dS f):=fun{aI U am aL aE H mp d l w bJ y k X aW bb}aN M bG aB cz av t=>by rw[aQ5 AD VM (by rintro fn j _ e ag),aQO (by rw[aTr dW]) i,o3,pv AU av fD e9 d,nu,m2 tP,p1,mY t,oA,nD (IQ e9) l' jN gy,mZ e9,rP i (oh l') jN,m3 AU gy,mZ gy av];rintro bq aC e;rw[mX EF bl aN M aB qg dQ dW e (Dn dW (yE f8)),m3 Bt bW,mZ bW];rintro f cR xs o e _ d hc hd jt cy;rw[mX (nI axk.any_bools k aPf vs xs.e0 bQ.fr (Dl (no:=nO Y)) aN.fk (AP cR d hc (qd o (by simp only[fE.aLo]at⊢;exact hd))) (I8 cy aC) fun h2 d2 anK af6=>?_),rf (bQ.FJ anK af6 fun P a=>a) c7 L P,mW (aVg e)]
def Aa9:∀{E}{h}(bl:p9){f g}(sa:qA)(bh:pW g),p8 (.anh f g):=by rw[mY E h,mY bl,mY f g,mY sa bh,mY aI U am aL aE H mp d l w bJ y k X,xW,sv,o_ AA V0,mZ bG];rintro fn j ab _ e ag;rw[qt,mX Hz ag fun dQ dW f8 iw aaP=>?_,aV8 Iw,o3,tl Cl,nu,mY q at6 av,rP Iw n' at6,oi,nu,mY J,tQ aLB,wO,tl Cl,mZ av,mY aq akQ av,rP aLB ē akQ];replace t:=Ŝ t.to av;rw[mX EF bl aN M aB qg dQ dW (av2 f8) (IW dW f8 (wr sa iw (fun co Q t1 cX I bQ bW=>aTl aaP kQ))),o8 bW,mZ bW,oc v,o8 fh,mZ fh,oc aP,pv (we min_two_ints) aN.fk h3 j9 ajO];by_cases hc:aq<q;rw[c0 hc,mW (oJ (pX I.ah L (c7.B0 ajO)) (c7.g0 ajO) ⟨aP,by rw[c0 hc]⟩),cH hc,mW (oJ (pX I.ah L (c7.B0 ajO)) (c7.g0 ajO) ⟨v,by rw[cH hc]⟩)]
def Aa2:∀{E}{h}(bl:p9){f}(sa:qA),p8 (.aa4 f):=by rw[mY E h,mY bl,mY f,mY sa,mY aI U am aL aE H mp d l w bJ y k X,aN3 AA VU];rintro fn j ab _ e ag;rw[qt,mX Bq ag fun dQ dW f8 iw=>?_];(have b0:iS ab=F:=by rw[so De f8,mZ ag f8];rintro n e _;rfl);rw[aQO (by(have aKf:∀{s':en}{cv:eW}{axf:ch}{anV:ux},t3 s'.aK cv axf→anV (p3 "str") s'→d3 wn aI (adc ab aL) anV bb s':=fun{s' cv axf anV}j3 er=>by rw[m3 AF (De f8),mZ ag f8 b0];rintro n e aG hd;rw[ou (bl.aqT "str" qg) Q h2,mW HM M aG hd (bl.adB.K.g0 (j3.eZ aN)) Q (bl.adB.g.g0 (j3.eZ aN)) h2 er])) p,o3,pv AU av aic e9 d,nu,m2 tP,p1,mY t,oA,mX EF bl aN M aB qg dQ dW (av2 b0) (IW dW b0 (wr sa iw (fun co Q t1 cX I bQ bW=>aKf (s':=aPf) bQ ?_))),mZ ct];induction p using ar.ae with|bi a=>rw[nu,p2 e9,pi,o8 bW,mZ bW,sK,mW af.aFQ.aEM (oJ I bQ e)]|m a=>rw[nu,p2 e9,pi,o8 bW,mZ bW,sK,mW af.aFQ.int_str (sk t Q I bQ e)]|_=>rw[sQ e9]
def Abq:∀{E}{h}(bl:p9){f}(sa:qA),p8 (.af3 f):=by rw[mY E h,mY bl,mY f,mY sa,mY aI U am aL aE H mp d l w bJ y k X,xW,sv,aQ5 AD Wc (by rintro fn j _ e ag),aTr dW,oi,nu,mY J,pP p,o3,xw,mY fD e9 d,m2 tP,p1,mY t,pv Ay e9 i aC gy,m3 Bc gy,mZ d,mY d9 d,mZ e9 av gy,nf d,oA,mY d,oQ,m3 AF (De dQ),mZ ag dQ];rintro n e aG hd;rw[ou (bl.aqT "tuple" qg) A1 BR,mX lu.me.aqm (HM M aG hd (aQY bl.adB.K.g0) A1 (aQY bl.adB.g.g0) BR ?_),mX lu.me.aGL (Dn dW (yE f8)) (BT dW),aPF Dc (qp Df) aC,mZ bW];rintro f cR xs o e d hc ahw jt cy;rw[m2 (wx cy.z),mY aV,mX (qp call_tuple_list (AP cR d hc ⟨o,ahw⟩) (fun h2 hM=>?_) (qC (by rw[awl,aV])))];have c7:=bQ.g0 hM;have L:=bQ.B0 hM;have Z:=c7.B0 (h':=h2.g' {eY:=p3 "tuple",fS:=.ia xs}) Bv;exact oJ aTc (c7.g0 Bv) (ni Cs e c7.Dy zw e e jt (cy.bx (L.ah Z)))
def cT.Ig:∀{E}{U}{am}{H}{b h'}{w}{X}(aB:s2){q}{n}{aj}{o'}(ba:wc)(hd:aj=nk∨aj=nh)(bh:aS3)(aan:xK h'.bg aj)(l:aNR→mD E.b' E.V E.eR h' X o' n),aNR∧t3 h' X (w.b6 q o'):=by rw[mY E U am H b h' w X,mY aB,mY q n aj o',mY ba hd bh aan l];(have agT:g6 X.bN aj:=by rw[mZ bh aan,nY hd hd,n8,m9,n8,m8,mW aTj,mW (Cb ba).2]);rw[wG (aB.hP aj agT)];rintro cu hL;have j:aNR:=⟨fun g p d P V=>(tH g (aQn V agT)).ah d,wd (by rw[aVu,mZ hd bh agT cu hL,sA,mW aan,mW (vK ((tH g t).ah d))]),fun g p a d=>⟨ş aB.Bd,fun k2 bj=>by rw[n2,uf];simp only[tH g hL.cq,d]at bj;rw[nf bj,aVC bj bj bj (aB.Bd g p e d)]⟩,aPs,e⟩;rw[mX ⟨j,aB.fr.change bh hL cu,aB.hC.aiU j ba (fun g cR g1 gW d P=>(tH g ?_).ah d) (l j),aB.hP,fun g t=>⟨(ľ).1,let(xc):=(ľ).2;aQl⟩⟩,mZ bh aan agT cu hL,n8,nY hd hd,wB,m9,wB,m8,mW g1 a,mW gW a]
def cT.GF:∀{E}{U}{am}{H}{b h'}{w}{X}(aB:s2){q}{n}{i l'}{xs}{o}(Ab:yp)(ba:wc)(bh:b8.aaR nk b h')(K:h'.bg nk=c (ahI xs o))(aC:À l'.z)(l:aNR→ed h' X l' xs.e0),aNR∧t3 h' X (tn (oU l')):=by rw[mY E U am H b h' w X,mY aB,mY q n i l',mY xs o Ab ba bh K aC l,aS4 ef,aNZ,nf dg,mZ dg,mY dg,xg,mW aB.Ig ba qN bh (qn K) (nF (qd ef.1 (Au _ o K aC (l j))))]
def Dv:∀{E}{U}{am}{H}{b}{w}{X}(aB:s2){q}{i}{co}(ef:de b X n3 co)(Ab:yp),∃n xs o,wc∧co=nP nk∧b.bg nk=c (ahI xs o)∧tU∧ed b X i xs.e0:=by rw[mY E U am H b w X,mY aB,mY q i co,mY ef Ab,p4 ef,mZ ef,ö,aS4 l,aNZ,nf dg,mZ dg,mY dg,xg];obtain⟨_,xs,o,K,aC,cy⟩:=l;exact(CH n _ o ba e K aC cy)
def Jz:∀{E}{U}{am}{H}{b}{w}{X}(aB:s2){q}{i}{co}(ef:de b X n3 co)(Ab:á),∃n e1,wc∧co=nP nk∧nh=nk∧b.aks (aVV mu) nk e1∧aPn∧tU:=by rw[mY E U am H b w X,mY aB,mY q i co,mY ef Ab,p4 ef,mZ ef,ö,aS4 l,aNZ,nf dg,mZ dg,mY dg,xg];obtain⟨d,aC,e1,hD,aj⟩:=l;exact(Dp n _ ba e d hD aj aC)
def j0.z{b}{X}:wC e1 (aPn→e1.z=i.z)|[],_,l=>aSj|ÿ,_,l=>by rw[tR,n2];rintro j cy e _ x;simp[j0.z x]
def j0.arV{b}{X}:wC e1 (aPn→e1.au (·.1)=i.au (·.1))|[],_,l=>aSj|ÿ,_,l=>by rw[tR,n2];rintro j cy e _ x;simp[j0.arV x]
def Kd(q):∀i,(aiE q i).as7 (q::i)|[]=>.fI _|aq::i=>by simp only[Kb,Kc];split;rw[mW .fI _,mW ((Kd q i).s aq).ah (.swap ..)]
def Lb:∀i,(aeY i).as7 i|[]=>.fI _|q::i=>(Kd q _).ah ((Lb i).s q)
set_option tactic.hygienic true in
def N1(q):∀i,i.ahg (·≤·)→(aiE q i).ahg (·≤·)|[],_=>m7 r.aKI|aq::i,b=>by rw[pr r.apS];simp only[Kb,Kc];split;rename_i aip;rw[r.apS,vi (fun a hz=>?_) (r.apS.gS b),nt (r.gA.mp hz),n8,m9];rintro hz;rw[m8,mW aip,mW R.eG aip (od a hz)];rename_i aip;rw[r.apS,vi (fun a hz=>?_) (N1 q i qK),nt (r.gA.mp ((Kd q i).mem_iff.mp hz)),n8,m9];rintro hz;rw[m8];omega;exact od a hz
def P2:∀i,(aeY i).ahg (·≤·)|[]=>.C|q::i=>N1 q _ (P2 i)
def AbL{f g:n1}(n:f.as7 g)(a_:f.ahg (·≤·))(U:g.ahg (·≤·)):f=g:=r.as7.eq_of_pairwise (fun j ab P P Q h2=>R.ab6 Q h2) a_ U n
def Vw{b}{X}{vs}{ns}(l:asW vs ns):ed b X (ns.au .m) vs:=by induction l with|C=>rfl|s h v _ ih=>exact(Au _ _ e (qS v) ih)
def WE{b'}{V}:∀(vs){e1:rC R ck},vs.z=e1.z→(yU aq y (p7 vs y→∃o j,Ã e1=c (o,j)∧(mu b' V).is o y=F))→asW vs (e1.au (·.1)):=tV vs vs (by intro e1 d b;(rw[oT e1 (by exact .C) f i (by exact u.cs d)])) y vs (by rw[mY e1 d b,oT e1 (by exact u.cs d) n e1 (by rw[m2 (ih (u.gk.dB d) fun aq aP aJ=>b xj aP aJ),mY br,mX AR (b 0 y e) fun aaz g4 aV bj=>?_,mZ d b ih,p2 aV,pi];induction y using af.ck.ae with|m q v=>cases(qJ lb.mp ((q==aaz)=F) bj);exact .s _ v br|_=>rw[qT bj])])
def Rk:∀{a4 dm bJ}{q}{y}(b:afk a4 dm q y=c bJ),afL a4 q=F∧∃i,pO dm rj∧zD∧bJ=aOH (.aw (i++[y])):=by injections a4 dm bJ q y;rw[nR,mX Bc b fun f b=>?_,nD (Gf b) i g b,mX Bc b fun x b=>?_,mW (qd f (AP i g x aRl))]
def UG:∀{a4 dm bJ}{q}{y}(b:auh a4 dm q y=c bJ),afL a4 q=F∧∃H i,asu y=c H∧pO dm rj∧i.z+H.z<dv∧bJ=aOH (.aw (i++H)):=by injections a4 dm bJ q y;rw[nR,mX Bc b fun f b=>?_,pv Ay b H aj b,nD (Gf b) i g b,mX Bc b fun x b=>?_,mW (qd f (Bx H i aj g x aRl))]
def ZV{w}{q}{n}(b:alL w q=c n):∃i y,yp∧i.ark=c y∧n=(y,tn (oU i.azZ)):=by rw[nD (Gf b) i g b,pv AU b y x b,mW Au i y g x b.cq]
def U1:∀{a4 dm}{q}{o y}(b:ari a4 dm q o=c y),am5 a4 q=F∧∃j i,o=ũ∧pO dm uH∧y=(lB j i).ld .B:=by rw[mY a4 dm q o y,nR,mX Bc b fun f b=>?_,nD (Cl b) j g b,nD (NL b) i x b,mW (qd f (Au j i g x aRl))]
def AbM{w}{p y}(b:aEC w p=c y):∃q i,p=n3∧á∧i.z<64∧y=u' (aeY (i.au (·.1))).au .m:=by rw[nD (Cx b) q f b,nD (NL b) i g b,mX Bc b fun x b=>?_,mW Bx q i f g x aRl]
def Abm:∀{E}{h}(bl:p9){f}(sa:qA),p8 (.alT f):=by rw[mY E h,mY bl,mY f,mY sa,mY aI U am aL aE H mp d l w bJ y k X,aN3 AD V'];rintro fn j _ e ag;rw[qt,aTr dW,oi,mY J,pP p,o3,pv AU av fD e9 d,m2 tP,p1,mY t,oA,m3 BV (AbM e9),mZ e9];rintro q i mI Ab aHB e;rw[mZ av,rP p n3 mI,mX EF bl aN M aB qg dQ dW e (Dn dW (yE f8)),aPF Nt Jz Ab,mZ bW];rintro n e1 ba e bj hD aj aC;rw[uy hD.dictAt ep ak7];(have d9:e1.z<64:=nb aj.z aHB);rw[mX (nI kdu_sorted k aPf aj1 (aTs Q) (pj kdl_dict knd (aVV mu) e1 e1 ep ep (bQ.Ff bl aN aTj)) aN.fk bQ.fr Dl ak7 (nb awl (u.eG (u.agP d9) nw)) fun a0 h2 d2 vs anK af6 kG aC9 aJ=>?_),m2 (WE _ aC9 aJ),mY aIt];have arH:=(af6 (a0,listOf vs.mV 0) uA).1;rw[rf (bQ.FJ anK af6 fun P a=>zv a) c7 L P];(have auv:aSD a0:=by rw[vz t (Q.bg a0) (by exfalso;rw[nH a a0 am,mW (nj (af6 _ uA) a)];induction bz:U.bg a0 using ap.ae with|c o'=>rw[m2 (nW (af6 _ uA)),m5,o6 bz,yL C3 aa]|B=>exact eh (kG _ (CM.gS (By t a bz e))) (u.apy _))]);rw[m2 (bQ.DY auv),mY aCP,mX awW slot_list_sort (zm arH) entry_list_sort (we list_sort_tree arH aIt (nb aC9 d9) fun out aKv a1 a2 a3=>(ql e ?_)) (args_list_sort _),n4 (nI (nI sortedHeap_at b h2 vs vs) h 0 out out arH) aMU aCy];have lC:∀g p,vd a0→w4 h2.bg→(aED h2 a0 vs out).bg g=c p:=fun g p acP d=>(sortedHeap_old acP (b8.and d)).ah d;rw[m1 (am≠a0) (qW (nj (af6 _ uA) a.cq)),mY aCc,m1 (gb am h2 (aED h2 a0 vs out) cX cX→abh) (nO jC),mY Z,m1 (aku _ am _ H) (by rw[mX AD c7.fr.ns fun p Aa aHc aes cy=>?_,mX ⟨(A9 p Aa aHc (nM lC aCc aes) cy),wd (lC g p ?_ (sq c7.fr.fx)),c7.fr.atg⟩,mZ kG arH auv aCP aCy lC aCc Z,n8,m2 (nW (af6 _ uA)),m5,o6 d,yL C3 aa]),mY aFI,rf (nI bQ.FJ h' (aED h2 a0 vs out) aj1 (aTs Q) aFI (fun a hz=>by rw[yq (CM.mp hz) d5 da fC P,mX AE (nM lC ?_ (af6 a (zv hz)).1) da fC,y1];rw[d,auv]at d5;rw[pe d5]) fun P a=>a) ic x4 ψ,m1 (aKv=aeY (i.au (·.1))) (by rw[mX AbL ?_ a3 (P2 _),←aj.arV,mW a2.ah (wv Lb _)]),mY Aa,mX (p5 t d2 (I.ah x4) ic (oM Cs a0 e aCP aCy e e ?_ ?_)),r.hN,(Lb _).length_eq,r.hN,mW aC,←Aa,mW Vw a1]
set_option tactic.hygienic true in
def Oc:∀{E}{U}{am}{H}{b}{w}{X}(aB:s2){q}{co}(ef:de b X n3 co)(Ab:afL w q=F),∃n xs o,wc∧co=nP nk∧b.bg nk=c (ahI xs o):=by rw[mY E U am H b w X,mY aB,mY q co,mY ef Ab];delta afL at Ab;generalize d:s_=aa8 at Ab;rw[tm aa8 (by rw[wN Ab]) cR (by induction cR using c_.ae with|aw i=>rw[mX DX (Dv aB ef d) fun n xs o f g x P=>?_,mW CA n _ o f g x]|_=>rw[wN Ab])]
set_option tactic.hygienic true in
def Wf:∀{E}{U}{am}{H}{b}{w}{X}(aB:s2){q}{co}(ef:de b X n3 co)(Ab:am5 w q=F),∃n e1,wc∧co=nP nk∧b.aks (aVV mu) nk e1:=by injections E U am H b w X;intro aB;injections q co;intro ef Ab;delta am5 at Ab;generalize d:s_=p at Ab;rw[tm p (by rw[wN Ab]) cR (by induction cR using c_.ae with|bM i=>rw[mX Dr (Jz aB ef d) fun n e1 f g P x P=>?_,mW Au n _ f g x]|_=>rw[wN Ab])]
def AaS{E}{h}{f g}(sa:qA)(bh:pW g):p8 (.hq f g):=fun{aI U am aL aE H mp d l w bJ y k X aW bb}aN M bG aB cz av t=>by rw[aQ5 Bz VN (by rintro afX acd iB ab bs e ag),mX HA ag fun dQ dW f8 iw aaP aha=>?_,mZ ag,aQP,oi,nu,mY J,pP p,o3,tl Cx,nu,mY q mI av,rP p n3 mI,oi,nu,mY J,tQ j,wO,xw,mY acl e9 d,m2 tP,p1,mY t,oA];obtain⟨hL,i,Ab,d9,e⟩:=Rk e9;refine awU (awN:=act bs (aec [ab] aL)) (oM DL dW) (aUu BT iw) f8 e (yE aaP);rw[aPF B8 Oc hL];rintro n aLW aeK ba e ho;rw[mX (nM Dp af.aN.aEe af.aN.slot_list_append af.aN.type_list_append (zm ho) (fun f d=>by rw[p2 d,pi,mW (zm ho)]) ?_),mX lu.me.atK (Dn iw (aTl aha aF)) (BT iw),m3 BW (Dv c7 xD Ab),mY cw xs o dg d K aC cy,mZ d];rw[L.i3 ba]at dg;rw[nf dg,mZ dg,mY dg,xg,mX (we aGv K (fun h3 awh Cp=>?_) (nb (show xs.c5=i.z by rw[m2 cy.z,m5,Ă]) aSG)),ou (c7.GF (l':=i++[j]) Ab (L.i3 ba) awh Cp (aP6 d9) (fun Z=>nb fE.aLr ((qJ cy.hq (p5 ed [j]) (Au _ _ e fh e)).bx Z))) Z ic,mW (p5 t d2 aTc ic e)]
set_option maxHeartbeats 0 in
def W6:∀(O)(h1:O="list"∨O="tuple")(i)(eD)(h)(g)(am7)(gW)(aol)(ec)(aI5:¬(! eD.dD&&gM.r.avH (eD.c5+am7.c5))=F)(iP:eD.c5≤af0)(alk:eD.c5+am7.c5≤af0+1),aMt (rW gM.«list.extend» [nP i,nP g] []) (fun P ao k=>k.aK.bg i=c {eY:=p3 "list",bE:=B,fS:=.ia eD h,dc:=#[]}∧k.aK.bg g=c {eY:=p3 O,bE:=aol,fS:=.ia am7 gW,dc:=ec}∧ao (.ok (s6 ck.B)) {k with aK:=k.aK.ae2 i (k_.avK (nF (j++am7))),ce:=k.ce}):=by injections O;intro h1;injections i;rw[mY eD h g am7 gW aol ec aI5 iP alk,mW .of_wp fun b' V aI ao k b=>by obtain⟨ba,K,aj,tk,os⟩:=k;obtain⟨aC,U,b⟩:=b;rw[m2 af.ai6.idx_int,mY gE,m2 af.ai6.sub_tuple_tuple,mY f2,m2 af.ai6.sub_list_list,mY i2,m2 af.ai6.sub_tuple_list,mY aet,m2 af.ai6.sub_list_tuple,mY aoz];(have aDc:(eD++am7).c5≤af0+1:=nb fE.size_append alk);rw[nY h1 h1,n8,m9,n8,m8];wp_walk using(nI (aFg aC e) hz iP _hz' aDc),af.ai6.awX aC,af.ai6.awX U;exact yy;wp_walk using(nI (aFg aC e) hz iP _hz' aDc),af.ai6.awX aC,af.ai6.awX U;exact yy]
def Abw{w}{y}{i}(b:asu y=c i):lN w y=c i:=by induction y using ar.ae<;>first|exact b|rw[xF]
def AaZ:∀{E}{h}{f g}(sa:qA)(bh:pW g),p8 (.aft f g):=by injections E h f g;intro sa bh;injections aI U am aL aE H mp d l w bJ y k X;rw[aN3 Bz VT];rintro afX acd iB ab bs e ag;rw[qt,mX HA ag fun dQ dW f8 iw aaP aha=>?_,mZ ag,aQP,oi,nu,mY J,pP p,o3,tl Cx,mZ av,mY q mI av,rP p n3 mI,oi,mZ av,mY J,tQ aDJ,wO,xw,mY acl e9 d,m2 tP,p1,mY t,oA];obtain⟨hL,aDC,i,bK,Ab,d9,e⟩:=UG e9;refine awU (awN:=act bs (aec [ab] aL)) (oM DL dW) (aUu BT iw) f8 e (yE aaP);rw[aPF B8 Oc hL];rintro n aLW aeK ba e ho;rw[mX (nM Dp af.aN.aEe af.aN.aLa af.aN.type_list_extend (zm ho) (fun f d=>by rw[p2 d,pi,mW (zm ho)]) ?_),mX lu.me.atK (Dn iw (aTl aha aF)) (BT iw),m3 BW (Dv c7 xD Ab),mY cw xs o dg d K aC cy,mZ d];simp only[L.i3 ba]at dg;rw[nf dg,mZ dg,mY dg,xg,m3 Dc (we PS c7 fh (Abw bK)),mZ fh];rintro aed;intro J;rcases J with(⟨aLk,aNz,aNy,aNB⟩);rintro k7 hM e aeZ awH aEV ca Ap;(obtain⟨O,h1,l9⟩:∃O,(O="list"∨O="tuple")∧aLk=p3 O:=by rw[nY awH awH,wB,m9,wB,m8,mW (ql qN a),mW (ql yo a)]);clear awH;simp only at l9 aEV;subst l9 aEV;rw[aTm aV cy.z];(have bj:k7.c5=aDC.z:=wx Ap.z);rw[m1 (¬(! xs.dD&&gM.r.avH _)=F) (by rw[m1 (gM.r.avH (xs.c5+k7.c5)=Y) (by unfold dv at d9;unfold gM.r.avH;rw[aV,bj,awl];simp;exact u.eG (u.agP d9) nw),m5,tf];simp),mY agK,mX aGM af.aN.aLa (zm K) af.aN.entry_list_extend (m7 af.aN.args_list_extend_2) (nM (oM (W6 O h1 _ _) o) agK (nb aV aSG) (by rw[aV,bj,m2 (Cr (u.agP d9)),m5];omega)) (AE K aeZ ?_),ou (nI c7.GF l' (i++aDC) h' (h2.ae2 nk (k_.avK (nF (j++k7)))) Ab (L.i3 ba) (b8.aaR.ae2 ..) (af.asX.ae2 K _) (aP6 (u.agP d9)) (fun Z=>nb fE.aLp ((cy.hq Ap).bx Z))) Z ic,mW (p5 t d2 aTc ic e)]
def Abh:∀{E}{h}{f}(sa:qA),p8 (.adw f):=by rw[mY E h f,mY sa,mY aI U am aL aE H mp d l w bJ y k X,aN3 AA V6];rintro afX acd iB bs e ag;rw[qt,mX Bq ag fun dQ dW f8 iw=>?_,mZ ag,aQP,oi,nu,mY J,pP p,o3,tl Cx,mZ av,mY q mI av,rP p n3 mI,zd ZV av,mZ av,mY i fD Ab aJ d,uT d,mZ d,mY d L,oQ,qD,mX wpAny_Call_method0_late (oM DL dW) f8 (yE iw),aPF BW Dv Ab,mZ bW];rintro n xs o ba e K aC cy;rw[mX (nM Dp af.aN.aEe af.aN.aLb af.aN.type_list_pop (zm K) (fun f d=>by rw[p2 d,pi,mW (zm K)]) ?_),tD (lu.me.callWith_method0 (aL:=aL)),aTm aV cy.z];(have ab1:n9 i (i.z-1) y:=uq r.aHx aJ);rw[nD (cy.i3 ab1) ab b0 gK,m1 (n9 xs (xs.c5-1) ab) (by rw[aV,←fE.arj,mW b0]),mY aJu,mX (qp aGM af.aN.aLb (zm K) af.aN.entry_list_pop (af.aN.args_list_pop_1 _) (nM af.aMu.list_pop_last o ab aJu (nb aV aSG)) ⟨K,?_⟩),ou (nI bQ.GF l' i.azZ h' (Q.ae2 nk (k_.avK fun aqi=>aqi.auc (xs.c5-1))) Ab ba (b8.aaR.ae2 ..) (af.asX.ae2 K _) (aP6 (u.ahH aC)) (fun Z=>by rw[m1 ((xs.auc (xs.c5-1)).e0=xs.e0.gu (i.z-1)) (by rw[aV];(have apc:i.z-1<xs.c5:=by rw[m2 (r.gF.mp ab1),m5];obtain⟨a,_⟩:=aa;exact u.k0 a (u.fp aV.cq));rw[fE.auc,azY apc,fE.aLq,r.aud,r.drop_eq_nil_of_le (by simp only[fE.anb];exact u.eG (u.fp aV) (aQp u.sub_le_iff_le_add.1)),r.afl]),mY bj,bj,r.dropLast_eq_take,mW (cy.gu _).bx Z])) Z ic,mW t ab _ t1 _ (I.ah Z) ic (gK.bx Z)]
def AaY:∀{E}{h}(bl:p9){f g}(sa:qA)(bh:pW g),p8 (.akP f g):=by rw[đ E,mY bl];injections f g;intro sa bh;injections aI U am aL aE H mp d l w bJ y k X;rw[xW,sv,o_ Bz VS,mZ bG];rintro afX acd iB ab bs e ag;rw[qt,mX HA ag fun dQ dW f8 iw aaP aha=>?_,mZ ag,aQP,aV8 p,o3,tl Cx,nu,mY q mI av,rP p n3 mI,oi,nu,mY J,tQ aFi,wO,xw,mY fD e9 d,m2 tP,p1,mY t,oA];obtain⟨hL,j,i,aHh,Ab,e⟩:=U1 e9;rw[mZ e9 av,rP aFi ũ aHh];refine awU (awN:=act bs (aec [ab] aL)) (oM DL dW) (aUu BT iw) f8 e (yE aaP);rw[aPF At Wf hL];rintro n aNb ba e ajw;rw[mX (nM Dp af.aN.aKK af.aN.awq af.aN.aLx ajw.ae1 ajw.ane.noDict ?_),mX lu.me.atK (Dn iw (aTl aha aF)) (BT iw),m3 Nt (Jz c7 xD Ab),mY cw e1 dg d _ hD aj aC,mZ akA];rw[L.i3 ba]at dg;rw[oA,nf dg,mZ dg,mY dg,xg,o8 fh,mZ fh,oc v,m1 ((mu E.b' E.V).is j (u2 j)=F) (y8 mu ck.arT),mY aG,mX (we aGN af.aN.awq hD.ae1 af.aN.aHa (m7 af.aN.args_dict_get_2) (nM meets_dict_get aG (c7.Ff bl aN (Cb (L.i3 ba)).1)) (ql hD.ane ?_)),nt (aj.ahK j),aO0 z1 bz,tp (by rw[vW])];rintro fD g4 z1 bz ft;rw[m8,bz];rw[z1]at t;rw[mW t .B h2 _ _ wt c7 e,bz];rw[z1]at t;exact t g4 h2 _ _ wt c7 ft
def Aa5:∀{E}{h}(bl:p9){f g}(sa:qA)(bh:pW g),p8 (.aaA f g):=by rw[đ E,mY bl];injections f g;intro sa bh;injections aI U am aL aE H mp d l w bJ y k X;rw[xW,sv,o_ HE VW,mZ bG];rintro afX acd iB j ab bs e ag;rw[qt,mX Uw ag fun dQ dW f8 iw aaP aha aF0=>?_,oK,aQP,m3 AF (De dW),mZ dW];rintro po e aG hd;rw[oi,nu,mY J,pP apq,o3,tl Cl,mZ av,mY q at6 av,rP apq n' at6,xw,mY J,tQ aMS];rintro gx d;rw[nu];replace t:=tP;refine BV bl.arW fun ad e1 hg ajw avg aIF=>?_;refine awU (awN:=m7 act) (oM DL e) (q0 (BT iw) (BT aaP)) f8 e (HN M aG hd (aQY bl.adB.K.g0) hg ?_);have hD:=aQY (ajw.fx (h':=k.aK));rw[mX (nM Dp af.aN.aKK af.aN.awq af.aN.aLx hD.ae1 hD.ane.noDict ?_),mX lu.me.atK (IW iw aaP (wr sa aha (fun aF Q t1 cX I bQ bW=>aTl aF0 iZ))) (BT iw) (av2 aaP),o8 bW,mZ bW,oc v];(have ahx:(mu E.b' E.V).is q (u2 q)=F:=y8 mu ck.arT);have aB8:=ajw.fx (h':=h2) (c7.eZ aN);rw[mX (we aGN af.aN.awq aB8.ae1 af.aN.aHa (sF af.aN.args_dict_get_3) (meets_dict_get_default _ _ ahx avg _) (ql aB8.ane ?_)),nt (aIF q),mY J,ri AR,ng];rintro fD iu z1 bz;rw[tp (by rw[nV])];rintro z1 bz;rw[m8,bz];rw[z1]at t;rw[mW (sk t h2 wt c7 (qS iu)),bz];rw[z1]at t;exact t iZ h2 _ _ wt c7 fh
def Jo(aL):∀(bw:aOx kN)(kd),(∀h∈bw,h.2=.ht→∃x,aL.hr.cm h.1=c x)→(∀j x,rR kd.cm x→uZ x)→∃cl,(arf bw kd (fun j __s=>if(j.snd==kN.ht)=F then do let __do_lift←aze aL j.fst;km (amb.anC ((j.fst,__do_lift)::__s))else km (amb.anC __s)):bv (aOx d7))=km cl∧(∀j x,rR cl.cm x→uZ x)∧∀j,((kd.cm j).eF∨(j,kN.ht)∈bw)→(cl.cm j).eF|[],kd,_,o=>(AP kd (by kernel_rfl!) o (fun j t=>t.az id fun t=>nomatch t))|(h,A2)::bw,kd,b,o=>by simp only[r.arg];rw[nH b2 A2 .ht];subst b2;rw[n4 (b (h,.ht) uA e) x hc,m1 (aze _ h=km x) (ķ aze hc),mY d,mX AF (Jo aL bw ((h,x)::kd) (fun a hz=>b a (zv hz)) fun j aj hd=>by rw[nH t j h,mZ b d,sA];simp at hd;subst hd;rw[mW hc,m1 ((j==h)=Y) (o7 t),mY aeT];simp only[r.aa6,aeT]at hd;exact o j aj hd) fun cl aV bj cV=>?_,mZ b hc,mX AP cl ?_ bj (fun j t=>cV j ?_)];simp only[aaV,fU,d,aEo];rw[mW aV,mZ d aV cV,nH a j h,mZ t,uf];left;simp;rw[nY t t,rd,m9,rd,m8];left;rw[m1 ((j==h)=Y) (o7 a),mY aeT];simp only[r.aa6,aeT];rw[mW t,nt (r.gA.mp t),rd,m9,rd,m8,uT t,mZ t,mY t L,sA];revert L;rw[aPl,mW (t_ a e),mW .bF t,m1 ((A2==kN.ht)=Y) (o7 b2),mY U,mX AF (Jo aL bw kd (fun a hz=>b a (zv hz)) o) fun cl aV bj cV=>?_,mX AP cl ?_ bj (fun j t=>cV j ?_)];simp only[U,N.aev,abv,aEo];rw[mW aV,nY t t,rd,m9,rd,m8,mW (pp t),nt (r.gA.mp t),rd,m9,rd,m8,mZ b U,uT t,mZ t,mY t L,sA,qD,mW (t_ b2 e),mW .bF t]
def S1:∀(aE)(aL)(b:∀h∈aE.bw,h.2=.ht→∃x,aL.hr.cm h.1=c x),∃cl,aGP aE aL=km cl∧(∀j x,rR cl.cm x→uZ x)∧∀j,(j,kN.ht)∈aE.bw→(cl.cm j).eF:=by rw[mY aE aL,nR,mX AF (Jo aL aE.bw [] b (fun j x t=>by simp at t)) fun cl aV bj cV=>?_,mX AP _ ?_ bj (fun j t=>cV j (.bF t)),aGP];rw[aV,aEo]
def abz{cg:Type}{j}{o}:∀{i:aOx cg},rR i.cm o→(j,o)∈i|(ab,aq)::i,b=>by rw[nH t j ab,sA,Đ,pq,mW uA];(have:(j==ab)=Y:=o7 t);rw[sB r.aa6 aa,mW (aQV (abz b))]
def Ky(aL:af.du):∀(bw:aOx kN)(j),(bw.au fun(h,o)=>if(o==kN.ht&&aL.d_.cA==.abV&&aL.h_ h==aP1)then(h,kN.gh)else(h,o)).cm j=ox (bw.cm j) o (if(o==kN.ht&&aL.d_.cA==.abV&&aL.h_ j==aP1)then kN.gh else o)|[],j=>e|(h,o)::l,j=>by have ih:=Ky aL l j;rw[m6 (r.cm j ((if(o==kN.ht&&aL.d_.cA==.abV&&aL.h_ h==nJ)=F then(h,kN.gh)else(h,o))::_)=_),nH t j h,sA];by_cases hc:(o==kN.ht&&aL.d_.cA==.abV&&aL.h_ j==aP1)=F;rw[c0 hc,aRY r.aa6 aaV,c0 hc];rw[cH hc,aRY r.aa6 aaV,cH hc];(have J:(j==h)=Y:=o7 t);by_cases hc:(o==kN.ht&&aL.d_.cA==.abV&&aL.h_ h==aP1)=F;rw[c0 hc];simp only[r.aa6,J];rw[mW ih,cH hc];simp only[r.aa6,J];exact ih
structure aqo(mp:wU)(aE:kq)(j:af.bH)(eH:u)(x:kq):Prop where
 cA:x.cA=.abV
 A:rR x.bw.cm .local
 eH:∀h∈mp,h.2≠eH
 asb:∀h∈x.bw,h.2≠.gh
 aeM:∀h∈x.bw,h.2=yY→x.bw.cm h.1=c yY
 agT:∀h∈x.bw,h.2=yY→h.1=j∨mp.cm h.1=B
 ht:∀h∈x.bw,h.2=.ht→aE.bw.cm h.1=c .gh∨aE.bw.cm h.1=c .ht
def S7:∀{mp}{aE}{j}{eH}{x}(b:aod mp aE j eH x=F),aqo mp aE j eH x:=by injections mp aE j eH x;rw[nR,Ä aod];simp only[N.c3,lb,r.hp]at b;rw[mX Bq b fun Q h2 bf h3=>?_,mX ⟨Q,h2,fun h cu=>o7 (bf h cu),fun h cu=>?_,fun h cu aC=>?_,fun h cu aC=>?_,fun h cu b2=>?_⟩,m2 (h3 h cu).1,m5,Ă,m2 (nj (h3 h cu)),mY aa,o6 aC];simp at aa;rw[mW aa.1,m2 (nj (h3 h cu)),m5,o6 aC];simp only[bne_self_eq_false,N.ags,N.c3,N.acR,lb,ap.am6]at aa;rw[mW aa.2,m2 (nW (h3 h cu)),m5,o6 b2,Ă]
def ma.go:∀{aL}{mp}{eH}{aE}(M:xM){j}{x}(hc:aqo mp aE j eH x){cl}(aD)(h2:∀j c',rR cl.cm c'→uZ c')(h3:∀ab,(ab,kN.ht)∈x.bw→(cl.cm ab).eF),ma aTt x:=by rw[mY aL mp eH aE,mY M,mY j x,mY hc,mY cl aD,mY h2 h3];have A2:∀ab,(aTt).h_ ab=ox (x.bw.cm ab) o (if(o==kN.ht&&aL.d_.cA==.abV&&aL.h_ ab==aP1)then kN.gh else o):=x8 (Ky aL x.bw ab);rw[mX ⟨hc.cA,M.bL,M.akG,fun ab b0=>?_,fun ab b0=>?_,fun ab b0=>?_,fun ab b0=>?_⟩,A2,b0];rfl;rw[nY b0 b0];rintro b0;rw[m9];rintro b0;rw[m8,mW (hc.asb _ (abz b0) e).az,A2,b0,ap.ji];by_cases t:(kN.ht==kN.ht&&aL.d_.cA==.abV&&aL.h_ ab==aP1)=F;rw[c0 t,mW qN,cH t,mW yo,A2,b0];rfl;rw[A2]at b0;rw[m1 (x.bw.cm ab=c _) (by induction t:x.bw.cm ab using ap.ae with|B=>rw[t]at b0;simp at b0|c o=>rw[t]at b0;induction o using af.kN.ae with|ht=>rfl|gh=>exact(hc.asb _ (abz t) e).az|_=>simp at b0),mY b2,mW ap.als.mp (h3 ab (abz b2))]
abbrev aml(O:ea)(b:b8)(ax:d7)(eD:ó):Prop:=(O="list"∧b.aje ax eD)∨(O="tuple"∧b.as0 ax eD)
abbrev aei(O:ea)(b:b8)(aB ax:d7)(q:u):Prop:=(O="list"∧b.aMq aB ax q)∨(O="tuple"∧b.aMs aB ax q)
abbrev afN(O:ea)(ax:d7):k_:={eY:=.hl (ow O "list" "list_iterator" "tuple_iterator"),fS:=.aju #[nP ax,.m 0 0]}
def Oj{b'}{V}{aI}{bb}{k}{O}{ax}{eD}{aW}(hs:aml O k.aK ax eD)(t:aW (nP k.aK.eU.c5) (aU6 (k.aK.g' (afN O ax)))):aSC (pyIter (nP ax)):=by rw[nY hs hs,mY J,nV,ng];rintro e b;rw[tp (by rw[nV])];rintro e b;rw[m8,mW wpAny_pyIter_list b t,mW wpAny_pyIter_tuple b t]
def Og{O}{ax aB}{b}{o:ea}(h1:O="list"∨O="tuple")(d:b.bg aB=c (afN O ax)):aei O b aB ax 0:=by rw[nY h1 h1,n8,m9,n8,m8,mW (pp (qd e (AP _ d e e))),mW .bF (qd e (AP _ d e e))]
def Oi:∀{b'}{V}{aI}{bb}{k}{O}{ax aB}{q}{eD}{j}{aW}(Ab:aei O k.aK aB ax q)(hs:aml O k.aK ax eD)(J:op eD j)(t:∀h',aei O h' aB ax (q+1)→b8.aaR aB k.aK h'→aW (c j) (aU6 h')),aSC (av8 (nP aB)):=by rw[mY b' V aI bb k O ax aB q,mY eD j aW Ab hs J t,nY hs hs,mY J,nV,ng];rintro e b;rw[tp (by rw[nV])];rintro e b;rw[m8,nY Ab Ab,mY J,nV,ng];rintro _ Ab;rw[m9,mY J,nV,ng];rintro d _;rw[m8,mW wpAny_pyNext_list_item Ab b J fun h' f g=>t _ (pp (wy f)) g,mW (tA eh d),nY Ab Ab,mY J,nV,ng];rintro d _;rw[tp (by rw[nV])];rintro _ Ab;rw[m8,mW (tA eh d),mW wpAny_pyNext_tuple_item Ab b J fun h' f g=>t _ (.bF (wy f)) g]
def Oh{b'}{V}{aI}{bb}{k}{O}{ax aB}{q}{eD}{aW}(fk:aI.auA=B)(Ab:aei O k.aK aB ax q)(hs:aml O k.aK ax eD)(J:rS eD=B)(t:∀h',b8.al9 aB k.aK h'→aW B (aU6 h')):aSC (av8 (nP aB)):=by rw[nY hs hs,mY J,nV,ng];rintro e b;rw[tp (by rw[nV])];rintro e b;rw[m8,nY Ab Ab,mY J,nV,ng];rintro _ Ab;rw[m9,mY J,nV,ng];rintro d _;rw[m8,mW wpAny_pyNext_list_end fk Ab b J t,mW (tA eh d),nY Ab Ab,mY J,nV,ng];rintro d _;rw[tp (by rw[nV])];rintro _ Ab;rw[m8,mW (tA eh d),mW wpAny_pyNext_tuple_end fk Ab b J t]
def aei.fx{O}{ax aB}{q}{b h'}(j:aei O b aB ax q)(o:∀p,tN aB→h'.bg aB=c p):aei O h' aB ax q:=by rw[nY j j,mY J];rcases J with(⟨d,p,f,g⟩);rw[m9,mY J];rcases J with(⟨d,p,f,g⟩);rw[m8,mW (pp (qd d (Ad p (o p f) g))),mW .bF (qd d (Ad p (o p f) g))]
def aei.ix:∀{O}{ax aB}{q}{b}(j:aei O b aB ax q),∃p,tN aB∧aPx:=by injections O ax aB q b;intro j;rcases j with(⟨_,p,f,_,g⟩|⟨_,p,f,_,g⟩)<;>exact(Ad p f (by unfold hK;rw[g]at⊢))
set_option tactic.hygienic true in
def P4:∀{E}{U}{am}{H}{b}{w}{X}(aB:s2){y}{co}{i}{x}(ef:ê co)(hs:kn w y=c (i,x)),∃O ax,(O="list"∨O="tuple")∧co=nP ax∧tU∧(∃p,tN ax)∧∀h' cv bJ m',aPp→cT E U am m' h' cv bJ→AY x bJ=F→∃eD,aml O h' ax eD∧aTz ed eD.e0:=by injections E U am H b w X;intro aB;injections y co i x;intro ef hs;induction y using ar.ae with|ay l'=>simp only[kn,ap.c.fV,fK.mk.fV]at hs;rw[m3 Ai hs,mZ hs];(rw[oc e]);rw[m3 Bt (id ef)];(rintro f p xs h e no d hc hd aC t);rw[mX BU ("tuple") f yo e aC xc (fun h' cv bJ m' j j3 P=>?_),mX Bt (ef.AS j) fun dE o' aqi aiM aV alG a5 agD ad1 aiq er=>?_,mZ alG,p2 aV,pi,mW (ql (.bF (qd e (AP _ a5 agD ⟨aiM,ad1⟩))) er)]|bm l'=>simp only[kn,ap.c.fV,fK.mk.fV]at hs;rw[m3 Ai hs,mZ hs];(rw[oc e]);rw[m3 Bt (id ef)];(rintro f p xs h e no d hc hd aC t);rw[mX BU ("list") f qN e aC xc (fun h' cv bJ m' j j3 P=>?_),mX Bt (ef.AS j) fun dE o' aqi aiM aV alG a5 agD ad1 aiq er=>?_,mZ alG,p2 aV,pi,mW (ql (pp (qd e (AP _ a5 agD ⟨aiM,ad1⟩))) er)]|D q=>replace hs:(aNV (c (i,c (q,i))))=c (i,x):=hs;generalize Ab:s_=aa8 at hs;(rw[tm aa8 (by rw[pe hs]) cR (by induction cR using c_.ae with|aw aeL=>rw[ap.c.fV,fK.mk.fV]at hs;rw[m3 Ai hs,mZ hs];(rw[oc e]);rw[m3 BW (Dv aB ef Ab)];(rintro n xs o ba e K aC cy);rw[mX BU ("list") nk qN e aC (qn K) (fun h' cv bJ m' j j3 cU=>?_)];unfold AY at cU;rw[kR]at cU;refine BW (Dv j3 (ef.AS j) cU) fun cw aqi aaz dg d arh aiq aKT=>?_;rw[nv j.i3 ba]at dg;rw[mZ d,nf dg,mZ dg,mY dg,xg,mW (ql (pp (qd e (AP _ arh e (qS aaz)))) aKT)]|_=>rw[pe hs])])|_=>exact Aq hs
abbrev eW.agj(X:eW)(a0:d7):eW:=⟨X.bN,a0::X.fL⟩
def JQ{b}{X}{a0}(ac:Ż a0):j1 b b X (X.agj a0):=⟨fun g p d P no=>(AE d no.1 (ue (by rw[nt (r.gA.mp t),n8,m9,rd,m8];rw[ac]at d;rw[ě d,mW no.2 t]))),fun P P d=>d⟩
def j1.ah{b Q h2}{X cX g5}(j:j1 b Q X cX)(ab:j1 Q h2 cX g5):j1 b h2 X g5:=⟨fun g p d hs no=>let⟨aV,g1⟩:=aRg j.ia hs;ab.ia g p aV hs g1,fun q n d=>ab.i3 q n (j.i3 q n d)⟩
def Nw{b h'}{X cv}{fL}(j:aPp)(o:∀g,g∈fL→g∈cv.fL):j1 b h' X ⟨cv.bN,fL⟩:=⟨fun g p d hs no=>let⟨aV,g1⟩:=aRg j.ia hs;(AE aV g1.1 (ue (g1.2 (o g t)))),j.i3⟩
noncomputable abbrev asA(i:r af.bA)(aL:af.du)(g:N):bv N:=arf i g fun x l=>if l=F then do let ok←alt x aL (adc x aL);km (amb.anC ok)else km (amb.anC l)
abbrev aga(E:iJ)(h:u)(Aa:hG):Prop:=∀{aI:lT}{U:b8}{am:d7}{aL:af.du}{aE:kq}{H:r8}{mp:wU}{i:r af.bA}{l:du}{w bJ:ch}{g:N}{k:en}{X:eW}{aW:t7 N}{bb:ux},pA→xM→aP4 jj Aa i→q4→aS8→xS ahq Aa=c (g,bJ)→amj E U am H k X aW bJ g→q6 (asA i aL F)
def Qb{ag}{aI}{bb}{k}{aL}{aW}:∀i,aW Y k→v2 (asA i aL Y)|[],b=>fX b|_::i,b=>by unfold asA;rw[r.arg]at⊢;exact dH (fX (Qb i b))
def Acr:∀{E}{h},p_ aga .C:=by rw[mY E h aI U am aL aE H mp i l w bJ g,mY k X aW bb,sv,pD (Dw bG),Ō t.to,p1,mY t,mW fX (t _ _ _ aB.fI aB)]
def Acq:∀{E}{h}{d}{Aa}(aeZ:aSI)(anu:p_ aga Aa),aga E h u6:=by rw[mY E h d Aa,mY aeZ anu,mY aI U am aL aE H mp i l w bJ g k X,xW,sv,o_ BV CB,mZ bG];rintro j xs e hs dQ dW;rw[oi,mY J,pP y,o3,pv Ay av aic aS av];unfold asA;rw[r.arg]at⊢;simp only[fU];rw[rs aic (by rw[mX dH (dH (sN aeZ dQ cz ct aS (aWm (fX ?_)))),mW (x2 anu dW x0 av fun h2 d2 g5 L c7=>t _ _ _ wt c7)]) (by rw[Ō t.to,p1,mY t,mX dH (dH (sN aeZ dQ cz ct aS (aWm (fX ?_)))),mW Qb _ aTG])]
def Ds{b h'}{cI}{aj}(bh:aS3)(hd:∀p,tN aj→hK p=F→¬ka cI aj):j1 b h' cI cI:=⟨fun g p d hs no=>by rw[aVu,mZ bh,sA,mW (hd p d hs no).az,mW ⟨(tH g t).ah d,no⟩],fun P P d=>d⟩
def cT.GN{E}{U}{am}{H}{b h'}{w}{cI}{aj}(aB:wk b cI)(bh:aS3)(hd:∀p,tN aj→hK p=F→¬ka cI aj)(g1:aO2 aj)(gW:Â aj)(kI:aQr aj)(aan:xK h'.bg aj):wk h' cI:=by rw[mX ⟨aB.fr.change bh gW kI,aB.hC.E9 (Ds bh hd) e fun g p t d=>(tH g (aQn g1 t)).ah d,aB.hP,fun g t=>⟨(ľ).1,?_⟩⟩,nH a g aj,mZ bh hd g1 gW kI,uf,mW aan,n4 (ľ).2 p d,mW (vK ((tH g a).ah d))]
def EU{am}{b h'}{cI}{Q}{cX}{aj}(j:gb am Q b cX cI)(ac:aSD aj)(bh:aS3):gb am Q h' cX cI:=by(have ne:tc Q.bg (vd aj):=fun g p d a=>by simp only[a,ac]at d;rw[pe d]);exact⟨fun g p d fb no=>(tH g Ü).ah (aRg j.fx fb),fun g p d=>let(aOh a5):=aQl;aOh ((tH g Ü).ah a5),fun g p a d=>⟨(aSP).1,aN4 ((aSP).2 _ (uq (tH g Ü) a5))⟩,j.aey,j.fL⟩
def UE{am}{b h'}{cI}{Q}{cX}{aj}(j:gb am Q b cX cI)(ac:aSD aj)(bh:b8.al9 aj b h')(hL:am≠aj)(Bd:∀p,tN am→aPx)(aC:∃p,tN am):gb am Q h' cX cI:=by(have ne:tc Q.bg (vd aj):=fun g p d a=>by rw[a,ac]at d;rw[pe d]);exact⟨fun g p d fb no=>bh g p Ü (aRg j.fx fb),fun g p d=>let(aOh a5):=aQl;aOh (bh g _ Ü a5),fun g p a d=>⟨(aSP).1,aN4 (by rw[mZ j,uf,uy aC k2 bj,rl (bh g k2 hL bj),yV,zR (Bd _ bj)])⟩,j.aey,j.fL⟩
def cT.arl:∀{E}{U}{am}{H}{b h'}{w}{cI}{aj}(aB:wk b cI)(bh:b8.al9 aj b h')(hd:∀p,tN aj→hK p=F→¬ka cI aj)(g1:aO2 aj)(gW:Â aj)(kI:aQr aj)(ank:aj∉cI.fL),wk h' cI:=by rw[mY E U am H b h' w cI aj,mY aB bh hd g1 gW kI ank];have jn:j1 b h' cI cI:=⟨fun g p d hs no=>by rw[aVu,mZ bh g1 gW kI ank,sA,mW (hd p d hs no).az,mW ⟨bh g p t d,no⟩],fun P P d=>d⟩;rw[mX ⟨?_,aB.hC.E9 jn e fun g p t d=>bh g p (aQn g1 t) d,aB.hP,fun g t=>⟨(ľ).1,let(xc):=(ľ).2;vK (bh g p (aQn ank t) d)⟩⟩,mX AD aB.fr.ns fun p Aa ep d cy=>?_,mX ⟨(A9 p Aa ep (nM bh gW.cq d) cy),wd (bh g p ?_ (sq aB.fr.fx)),aB.fr.atg⟩,mZ bh hd g1 gW ank,n8];rw[kI]at d;rw[pe d]
def cT.start{E}{U}{am}{H}{b h'}{w}{X}{h}{aI}(aN:pA){a0}(aB:s2)(o:aUS Ī)(ac:Ż a0)(aan:xK h'.bg a0):t3 h' (X.agj a0) w:=by have aqt:=aB.g0 o;rw[mX ⟨aqt.fr,aB.hC.E9 (pX JQ ac (iz.Aw (cL:=fun g=>g=am) ⟨fun g p d P P=>į,wd (vK į),fun g p a d=>⟨ş aB.Bd,aN4 (by rw[rl į,yV,zR (ş aB.Bd)])⟩,aPs,e⟩)) e fun g p P d=>į,aB.hP,fun g t=>?_⟩,nt (r.gA.mp t),n8,m9,rd,m8,mX ⟨?_,aan⟩];(rw[vz d (E.bf.bg g) (by rw[aB.eZ aN g p d]at ac;rw[yL C3 ac])]);exact aqt.lx g t
def cT.stop{E}{U}{am}{H}{b}{w}{cI}{fL}(aB:wk b cI)(o:∀g,g∈fL→g∈cI.fL):wk b ⟨cI.bN,fL⟩:=⟨aB.fr,aB.hC.E9 (Nw (iz.Aw aB.fI) o) e fun P P P d=>d,aB.hP,fun g t=>aB.lx g (o g t)⟩
def UF{am}{b}{cI}{Q}{cX}{a0}(j:gb am Q b (cX.agj a0) cI):gb am Q b cX ⟨cI.bN,cX.fL⟩:=⟨j.fx,j.ix,j.xs,j.aey,e⟩
def mC.fL{am}{H}{b}{X}{mp}{aL}{l}{a0}(cz:mC mp aL am H l b X)(ac:Ż a0):mC mp aL am H l b (X.agj a0):=fun ab q hJ f o g=>by rw[nD (cz ab q hJ f o g) y i t,mW Ad y i (t.AS (JQ ac))]
def mC.go:∀{am}{H}{b}{cI}{mp}{aL}{aE x}{j}{eH}{l}{cl}{aD}{aaD}{hJ}{y}(hc:aqo mp aE j eH x)(M:xM)(cz:mC mp aL am H l b cI)(h2:∀j c',rR cl.cm c'→uZ c')(h3:∀ab,(ab,kN.ht)∈x.bw→(cl.cm ab).eF)(ak2:Â aD)(aB7:aO2 aD)(cu:b.af7 aD aaD)(aJ:rR aaD y)(ft:de b cI hJ y),mC aTD aTt am H (l.b6 eH (c hJ)) b cI:=by injections am H b cI mp aL aE x j eH l cl aD aaD;injections hJ y;intro hc M cz h2 h3 ak2 aB7 cu aJ ft;injections ab q f;intro b0 aG br;have A2:(aTt).h_ ab=ox (x.bw.cm ab) o (if(o==kN.ht&&aL.d_.cA==.abV&&aL.h_ ab==aP1)then kN.gh else o):=Ky aL x.bw ab;rw[nH t ab j,sA];simp only[r.aa6,aaV,ap.c.fV]at b0;subst b0;(have jf:eH<l.z:=wx (aOA br));rw[r.akY jf]at br;simp only[ap.c.fV]at br;subst br;rw[mX Ad y (zi (q0 A2 hc.A) (rt (AE ak2 aB7 ?_))) ft,mX DX cu fun p Aa ep d aj aaL hs=>?_,mW CT p _ _ d aj aaL (nb hs aJ)];(have aeT:(ab==j)=Y:=o7 t);simp only[r.aa6,aeT]at b0;rw[m1 (sU eH) (hc.eH _ (abz b0)),mY Ab];rw[r.agx Ab.cq]at br;(have b2:x.bw.cm ab=c .ht:=by induction a:x.bw.cm ab using ap.ae with|B=>rw[A2,a]at aG;simp at aG|c o=>induction o using af.kN.ae with|ht=>rfl|gh=>exact(hc.asb _ (abz a) e).az|«local»=>rw[nt (hc.agT _ (abz a) e)];(rintro V);rw[m9];(rintro V);rw[m8,mW (t_ t V)];rw[b0]at V;rw[yL C3 V]|_=>rw[A2,a]at aG;simp at aG);have ahx:aL.h_ ab=c .gh∨aL.h_ ab=c .ht:=M.cf ab (hc.ht _ (abz b2) e);rw[nD (cz ab q f b0 (.bF ahx) br) aP i aeU,mX Ad aP ?_ aeU,nY i i,mY J,nV,ng];rintro V _;rw[m9,mY J];rcases J with(⟨_,aob,p,aV,bj,cV,gp,ky⟩);rw[m8];(rw[nY ahx ahx,wB,m9,wB,m8])<;>(rw[a]at V;rw[nf V,mZ V,mY V];injection V);rw[mX .bF ⟨?_,(BU _ p ?_ bj cV gp ky)⟩,A2,b2,ap.ji];by_cases t:(kN.ht==kN.ht&&aL.d_.cA==.abV&&aL.h_ ab==aP1)=F;rw[c0 t,mW qN,cH t,mW yo,n4 (ap.als.mp (h3 ab (abz b2))) c' agD,m2 (nv h2 agD),m5,o6 aV,nf aa,mZ aa,m5,uM,mW agD]
inductive as8(E:iJ)(U:b8)(am:d7)(H:r8)(k:en)(X:eW)(aB a0 aD:d7)(O:ea)(ax:d7)(i vs:nC)(ao:nC→ch→nC→Prop):t7 u|mk(hQ:nC)(b:b8)(tk:u)(cI:eW)(abJ:ch)(aaD:r8)(k7:ó)(o:u)(abm ai2 anA:nC)(j:gb am k.aK b (X.agj a0) cI)(hI:t3 b cI abJ)(mQ:aO2 aB)(aj8:aO2 a0)(ahQ:aO2 aD)(cu:b.af7 aD aaD)(fo:aei O b aB ax abm.z)(hD:b.bg a0=c (ahI k7 o))(br:ed b cI ai2 k7.e0)(aC:i=abm++hQ)(aJ:vs=ai2++anA)(b7:ai2.z≤abm.z)(y:ao hQ abJ anA):as8 E U am H k X aB a0 aD O ax i vs ao hQ.z (yR b)
set_option maxHeartbeats 4000000 in
def S8:∀{E}{h}{gD}{gP}{eH}(l8:pW gD)(a':p_ aga gP){aI}{U}{am}{aL}{aE x}{H}{mp}{j}{mS}{jN gQ}{fs}{bs}{l}{aqr}{i}{co}{s1}{cX}{ao}{vs}{cl}{aD a0 aB ax}{O}(aN:pA)(M:xM)(hc:aqo mp aE j eH x)(dQ:b_ E.K aTD x gD jN=F)(dW:jj E.K aTD x gP fs=F)(h2:∀j c',rR cl.cm c'→uZ c')(h3:∀ab,(ab,kN.ht)∈x.bw→(cl.cm ab).eF)(axn:mC mp aL am H l s1.aK (cX.agj a0))(afT:xK s1.aK.bg am)(abT:s1.aK.bg aB=B)(agr:s1.aK.bg a0=B)(agq:s1.aK.bg aD=B)(anl:aB≠a0)(apE:aB≠aD)(avO:a0≠aD)(aqJ:aQr aB)(axL:aQr a0)(axK:aQr aD)(aoI:aB∉cX.fL)(auo:aD∉cX.fL)(d9:tU)(af2:∀h' cv bJ,gb am s1.aK h' (cX.agj a0) cv→aVP→AY co bJ=F→∃eD,aml O h' ax eD∧aTz ed eD.e0)(eE:∀h' tk cI k7 o aaD,gb am s1.aK h' (cX.agj a0) cI→t3 h' cI aqr→aO2 a0→aO2 aD→h'.bg a0=c (ahI k7 o)→À vs.z→ed h' cI vs k7.e0→h'.af7 aD aaD→ao (.ok na) {s1 with aK:=h',ce:=tk}),∀(o)(k),(as8 E U am H s1 cX aB a0 aD O ax i vs fun hQ abJ anA=>abk (zG (xS aU gD)) (zG (xS ahq gP)) eH co hQ l abJ=c (anA,aqr)) o k→amv wn aI (.compLoop (.aff jN [⟨.kM j mS,gQ,fs,0⟩] x bs) 0 (nP aB) (nP a0) aTt) ao k:=by injections E h gD gP eH;intro l8 a';injections aI U am aL aE x H mp j mS jN gQ fs bs;injections l aqr i co s1 cX ao vs cl aD a0 aB ax O;intro aN M hc dQ dW h2 h3 axn afT abT agr agq anl apE avO aqJ axL axK aoI auo d9 af2 eE;(have adh:Â aB:=qW (by rw[uy afT p d];rw[←a,abT]at d;rw[pe d]));(have aut:Â a0:=qW (by rw[uy afT p d];rw[←a,agr]at d;rw[pe d]));(have ak2:Â aD:=qW (by rw[uy afT p d];rw[←a,agq]at d;rw[pe d]));have anQ:ma aTt x:=M.go hc aD h2 h3;rw[mY o k V,mX codeAny_compLoop_tests (nM (as8 E _ am H) aB a0 aD O _ i _ fun hQ abJ anA=>abk (zG (aU _ _ _ l w)) (zG (ahq _ _ _ l w)) _ _ _ l _=c _) ?_ o V,mZ V k o,mY ad9 k V];induction V with|mk hQ b tk cI abJ aaD k7 o abm ai2 anA J hI mQ aj8 ahQ cu fo hD br aC aJ b7 av=>(have Ak:∀p,tN aB→hK p=F→¬ka cI aB:=fun p d a=>by rw[oz fo.ix o' a5 z',rl d,nf a5,mZ a5,mY a5,vL];rw[a]at z';rw[yL GR z']);rw[m1 (aB∉cI.fL) (by rw[J.fL,mY t,nt (r.gA.mp t),rd,m9,rd,m8,mW anl t,mW aoI t]),mY aDV];(have ajw:a0∈cI.fL:=nb J.fL uA);rw[m1 (∀{b:b8}{p:k_},tN a0→hK p=F→¬ka _ a0) (wb a (a.2 ajw)),mY aNt,oT hQ (by rw[m3 Bc av,nu,mY cU av,wG (Ŝ fK.mk.dB av),mZ av];(rw[oc e]);rw[m3 Ac (af2 b _ _ J hI cU),mY eD acG alj];(have aV:eD.c5=i.z:=wx alj.z);rw[m1 (eD[abm.z]?=B) (by rw[fE.aii];rw[aV,aC];simp),mY bj,mX (ĩ Oh b tk aN.fk fo acG bj fun h6 dt=>?_),m1 (∀g p,vd aB→v0→w4 h6.bg) (fun g p h d=>dt g p h d),mY aEw,m2 (UE J abT dt adh.cq (fun p d=>hI.Bd am p e d) (aVi hI.fr.ns)),mY avn,m2 (hI.arl dt Ak mQ adh aqJ aDV),mY aux];have jn:j1 b h6 cI cI:=⟨fun g p d hs no=>by rw[nH t g aB,mZ abT anl apE aqJ aoI adh mQ fo aDV dt aEw,sA,mW (Ak p d hs no).az,mW ⟨dt g p t d,no⟩],fun P P d=>d⟩;rw[r.afl]at aJ;rw[vP,mX (sk eE tk o _ avn aux aj8 ahQ (aEw a0 _ anl.cq hD) ?_ (br.AS jn) (cu.az8 dt apE.cq))];rw[aC]at d9;simp at d9;omega) f hQ (by rw[m3 Bc av,nu,mY cU av,m3 Ac (af2 b _ _ J hI cU),mY eD acG alj,m1 (n9 i abm.z f) (Ž aC),mY bj,nD (alj.i3 bj) y aJo ft,m1 (n9 eD abm.z y) (uq fE.arj aJo),mY cV,mX (ĩ Oi b tk fo acG cV ?_),mY h6 aCE afZ,m2 (EU J abT afZ),mY avn,m2 (hI.GN afZ Ak mQ adh aqJ (by rw[oz aCE.ix p d P,mW xc])),mY aux];have aqg:j1 b h6 cI cI:=Ds afZ Ak;have aCN:h6.af7 aD aaD:=cu.sameBut afZ apE.cq;rw[m2 ((afZ.2 a0 anl.cq).ah hD),mY aHF,mX awV (aLR (aL:=aTt) (anQ.aeM j hc.A) aCN (fun h7 ajG alR=>?_) (sh anQ.cA))];replace ajG:h7.af7 aD (x8 (ow ab j qu (aaD ab))):=ajG;replace alR:b8.aaR aD h6 h7:=alR;(have agU:∀p,h6.bg aD=c p→hK p=F→¬ka cI aD:=fun p d a=>by rw[m3 B8 aCN,mY o' Aa ep a5 aj _,rl d];cases a5;unfold hK at a;rw[aj]at a;rw[wN a]);have avo:=EU avn agq alR;have aCb:=aux.GN alR agU ahQ ak2 axK (aVi ajG);have aFh:j1 h6 h7 cI cI:=Ds alR agU;have amU:aei O h7 aB ax (abm.z+1):=aCE.fx fun p d=>(alR.2 aB apE).ah d;have arn:h7.bg a0=c (ahI k7 o):=(alR.2 a0 avO).ah aHF;rw[m2 ((ft.AS aqg).AS aFh),mY aKW];have aCX:ed h7 cI ai2 k7.e0:=(br.AS aqg).AS aFh;have as4:mC aTD aTt am H (l.b6 eH (c f)) h7 cI:=mC.go hc M (axn.bx avo) h2 h3 ak2 ahQ ajG rb aKW;rw[oi,mZ av,mY J,pP aic,o3,rs aic (by rw[oi,nu,mY J];(rw[tQ V]);(rw[wO]);rw[xw,mY J];(rw[aRO asF acl]);(rintro e9 d);rw[m3 Ai (fK.mk.dB d),mZ eE av d];(rw[oc e]);refine ĩ a' h7 (tk+1) aN anQ dW aCb as4 ct fun h8 aES aL5 d' asV=>?_;dsimp only[fU];refine ĩ l8 h8 aES aN anQ dQ asV (as4.bx d') gx fun aMO h9 aET aw7 ez aFL aKP=>?_;have al1:=d'.ah ez;rw[m1 (xK h7.bg aB) (by rw[oz amU.ix p d P,mW xc]),mY aia,o8 aia,mZ aia,mY aD5 aia];have lC:∀g p,aOR→¬g6 cI.bN g→w4 h7.bg→w4 h9.bg:=fun g p acP no d=>aRg al1.fx acP;rw[m2 (lC a0 _ aut aj8 arn),mY aHG,m2 (amU.fx fun p d=>lC aB p adh mQ d),mY aIu,m1 (h9.af7 aD (x8 (ow ab j qu (aaD ab)))) (by rw[m3 AD ajG,mY p Aa ep d cy,mW A9 p _ _ (lC aD p ak2 ahQ d) cy]),mY aIH,m2 (aCX.bx al1),mY aIY];(have gp:k7.c5=ai2.z:=wx br.z);refine ĩ aGv h9 aET aHG (fun kB ap3 aBQ=>?_) (by rw[gp,tD Cr];rw[aC]at d9;simp at d9;exact Am [ai2.z,abm.z,hQ.z,dv] S eK S ai (ai+pR) eK e b7 d9);have aDZ:¬g6 aw7.bN a0:=al1.Cw arn aj8;rw[m2 (al1.Cw aia mQ),mY aKy,m1 (¬g6 _ aD) (by rw[mX AD ajG fun p P P d P=>?_,mW al1.Cw d ahQ]),mY aKx,m1 (a0∈aw7.fL) (nb al1.fL ajw),mY aHE];have aEu:∀p,h9.bg a0=c p→hK p=F→¬ka aw7 a0:=fun p d a V=>V.2 aHE;rw[m2 (EU (avo.ah al1) agr ap3),mY aJt,m2 (aFL.GN ap3 aEu aDZ aut axL (qn aBQ)),mY aHJ,m1 (oM j1 h9) (Ds ap3 aEu),mY aLV,mX Ad _ (u.aiI _) (ni (p5 ra aET) (abm++[f]) (ai2++[V]) _ aJt aHJ aKy aDZ aKx (aIH.sameBut ap3 avO.cq) ?_ aBQ ?_ (Ž aC) (Ž aJ) (qC (by simp)) e9),r.gR,mW aIu.fx fun p d=>(ap3.2 aB anl).ah d,fE.aLr,mW (qJ aIY.hq (p5 ed [V]) (Au _ _ e aKP e)).AS aLV]) (by rw[mX (ĩ a' h7 (tk+1) aN anQ dW aCb as4 ct ?_),mY h8 aES aL5 d' asV];dsimp only[N.aev,abv];rw[m1 (xK h7.bg aB) (by rw[oz amU.ix p d P,mW xc]),mY aia,o8 aia,mZ aia,mY aD5 aia];replace lC:∀g p,aOR→¬g6 cI.bN g→w4 h7.bg→w4 h8.bg:=fun g p acP no d=>aRg d'.fx acP;rw[mX Ad _ (u.aiI _) (ni ra _ (x8 (ow ab j qu (aaD ab))) _ o (abm++[f]) _ _ (avo.ah d') asV (d'.Cw aia mQ) (d'.Cw arn aj8) (by obtain⟨p,_,_,d,_⟩:=ajG;exact d'.Cw d ahQ) ?_ ?_ (lC a0 _ aut aj8 arn) (aCX.bx d') (Ž aC) aJ (aP6 (Ag [ai2.z,abm.z] S nN S ai e b7)) av),m3 AD ajG,mY p Aa ep d cy,mW A9 p _ _ (lC aD p ak2 ahQ d) cy,r.gR,mW amU.fx fun p d=>lC aB p adh mQ d])])]
def JZ{d}(b:d.eP≠7)(aL)(j):foldedSetIterable d aL j=km j:=by rw[y6 d af.bA.ae (by exact eh e b)]
def MN:∀{E}{h}{gD kF}{gP}{eH}(aeX:pW kF)(l8:pW gD)(a':p_ aga gP){aI}{U}{am}{aL}{aE x}{H}{mp}{j}{mS}{jN gQ}{fs}{bs aEh}{l}{w bJ}{y}{k}{X}{use}{aW}{bb}(aN:pA)(M:xM)(ag:(aod mp aE j eH x&&(b_ E.K mp aE kF gQ&&(b_ E.K aTD x gD jN&&jj E.K aTD x gP fs)))=F)(afH:gQ.eP≠7)(aB:q4)(cz:aS8)(av:aOY (aU E.O aWv (.go gD eH kF gP) l w))(t:∀a0 aD h' tk cv aaD,aSY→aVP→de h' cv y (nP a0)→h'.af7 aD aaD→k.aK.bg aD=B→¬g6 cv.bN aD→Â aD→aQr aD→compPost wn aI bb use aW (nP a0) aD (.ok na) (yR h')),q6 (aGR (.aff jN [⟨.kM j mS,gQ,fs,0⟩] x bs) x aL aEh (hw []) Y (adc gQ aL) use):=by injections E h gD kF gP eH;intro aeX l8 a';injections aI U am aL aE x H mp j mS jN gQ fs bs;injections aEh l w bJ y k X use aW bb;rw[mY aN M ag afH aB cz av t,qt,mX Bq ag fun bG dQ dW f8=>?_];have hc:=S7 bG;rw[oi,nu,mY J,pP apq,o3,oi,mZ av,mY J,aRO i co];rintro lA av;rw[xw,nu,mY J,tQ vs];rintro gx d;rw[m3 Ai (fK.mk.dB d),mZ d,oc e,mX AF (S1 x aL fun cO cu b2=>M.hr _ (M.cf _ (hc.ht cO cu b2))) fun cl aV bj cV=>?_,mX wpAny_comprehension_free e (JZ afH aL) aV hc.cA hc.aeM (wr aeX dQ aSF),aPF Dr P4 lA,mZ lA,mZ bW];rintro O ax h1 e d9;rw[mY J,ri Al,ng];rintro aNi aM1;rintro af2;(obtain⟨aJO,ave,_⟩:∃eD,aml O Q ax eD∧ed Q cX i eD.e0:=by rw[mZ d9,mX (n7 af2 H (iz.Aw bQ.fI) bQ ?_),mZ af2,oT i (by exact(Ct gx).1) f i (by exact(Ct gx).1)]);rw[m3 (qp Oj) ave,mX anB (wpAny_newFunctionEnv hc.asb (by intro ab b0;simp at b0) (fun h4 au5 apg=>?_) hc.cA) aOu];dsimp only at au5 apg⊢;generalize arp:(Q.g' (afN O ax)).g' {eY:=p3 "list",bE:=B,fS:=.ia ([]:vm).mV}=amd at au5 apg⊢;have aqk:aTu=Q.eU.c5+1:=b8.aK2 ..;(have anD:amd.eU.c5=Q.eU.c5+2:=by rw[←arp,b8.aK2,aqk]);(have fr:∀f,Q.eU.c5≤f→Q.bg f=B:=fun f a_=>by induction d:Q.bg f using ap.ae with|B=>rfl|c o'=>exact eh (b8.and d) (u.mO.gS a_));(have asl:tc Q.bg (w4 h4.bg):=wd (by rw[m2 (b8.and d),mY jf,rc (apg.2 g (nb anD (u.ahM (u.k0 jf (m7 u.acK))))),mW b8.aup _ (arp▸m7 Bv (tj Bv))]));rw[m1 (h4.bg _=c _) (by rw[rc (apg.2 _ (nb anD (u.ahM (oR u.aDI)))),mW b8.aup _ (arp▸m7 Bv zw)]),mY aoI];(have aBT:h4.bg aTu=c (ahI #[] 0):=by rw[rc (apg.2 _ (tL anD aqk (u.ahM (u.aiI _)))),mW b8.aup _ (arp▸zw)]);have agr:aSD aTu:=fr _ (wT aqk);have agq:aSD amd.eU.c5:=fr _ (wT anD);have abT:aSD Q.eU.c5:=fr _ yk;(have aav:∀f,Q.bg f=B→U.bg f=B:=fun f d=>by rw[vz a (U.bg f) (by rw[bQ.fr.fx f p a]at d;rw[yL C3 d])]);have avQ:∀f,Q.bg f=B→f∉cX.fL:=fun f d=>(bQ.DY d).2;have avV:∀f,Q.bg f=B→¬g6 cX.bN f:=fun f d=>(bQ.DY d).1;(have afT:xK Q.bg am:=aVi bQ.fr.ns);rw[m2 (cT.start aN bQ asl agr (qn aBT)),mY ame];have x4:gb am Q h4 (cX.agj aTu) (cX.agj aTu):=⟨fun g p d P P=>sq asl,wd (vK (sq asl)),fun g p a d=>⟨ş bQ.Bd,aN4 (by rw[rl (sq asl),yV,zR (ş bQ.Bd)])⟩,aPs,e⟩;have B5:aei O h4 Q.eU.c5 ax 0:=Og (o:="") h1 aoI;(have avI:∀aeV:en,aeV={k with aK:=h4,ce:=t1+([]:aOx ck).z}→amv wn aI (.compLoop (.aff jN [⟨.kM j mS,gQ,fs,0⟩] x bs) 0 (nP Q.eU.c5) (nP aTu) (ajo x cl amd.eU.c5 aL)) (compPost wn aI bb use aW (nP aTu) amd.eU.c5) aeV:=by rw[oc aeV,mX (pj (nI (nI (nI S8 l l s1 aPf) cX cX co co) vs vs aqr dm) i i O O ax ax l8 a' aN M hc dW f8 bj cV ((cz.bx I).fL agr) afT abT agr agq (nb aqk (u.ahM (u.aiI _))) (nb anD (u.ahM (oR u.aDI))) (tL aqk anD (u.ahM (u.aiI _))) (aav _ abT) (aav _ agr) (aav _ agq) (avQ _ abT) (avQ _ agq) d9 (fun h' cv bJ j j3 st=>?_) (fun h' tk cI k7 o aaD j j3 aj8 ahQ aHv aiq cy cu=>?_) _ _ (ra i h4 _ (cX.agj aTu) a4 _ #[] 0 [] [] vs x4 ame (avV _ abT) (avV _ agr) (avV _ agq) au5 B5 aBT e e e yk gx)),mW (n7 af2 H ((JQ agr).ah j.Aw) j3 st),m2 (UF j),mY xs,m2 (j3.stop (fL:=cX.fL) fun g dL=>nb j.fL (zv dL)),mY aqt,m2 (Nw (iz.Aw j3.fI) fun g dL=>nb j.fL (zv dL)),mY g8,mX (sb oJ (I.ah xs) aqt (n7 Cs o e ⟨aj8,avQ _ agr⟩ aHv e e aiq (cy.AS g8)) cu ?_ ahQ ?_ (aav _ agq))];(rw[vz a (k.aK.bg amd.eU.c5) (by rw[m3 Al (I.ix _ p a),mY o' a5,rl agq,pe a5])]);rw[mY a,o8 afT,mY p d];rw[←a,agq]at d;rw[pe d]);rw[m3 codeAny_compStart_list (avI _ e),nY B5 B5,mY J,nV,ng];rintro _ Ab;rw[tp (by rw[nV])];rintro _ Ab;rw[m8,mW wpAny_pyIter_listiter Ab (avI _ e),mW wpAny_pyIter_tupleiter Ab (avI _ e)]
def KM{K}{mp}{aE}{aeO}{d}(ag:q_ aeO d=F)(b:aeO≠wz):d.eP≠7:=by intro t;revert ag;refine af.bA.aMz.az (fW:=ol (b_ K _ _ _ d=F→akt)) d t ?_;intro _ _ _ ag;induction aeO using dz.ae<;>first|exact b e|rw[qT ag]|rw[qT (aT2 ag).1]
def PR:∀{E}{h}{gD kF}{gP}{eH}(aeX:pW kF)(l8:pW gD)(a':p_ aga gP),p8 (.go gD eH kF gP):=by rw[mY E h gD kF gP eH,mY aeX l8 a',mY aI U am aL aE H mp d l w bJ y k X,aN3 F7 Kf];rintro jN j mS gQ fs x bs e ag;rw[m1 (kF≠wz) (qW (by rw[mZ aeX ag,uf,pv Ay av P b P,mW (aRb b)])),mY cU,m2 (by rw[qt,mW aP8]),mY as2];simp only[eval_ListComp];refine MN (use:=B) aeX l8 a' aN M ag (KM as2 cU) aB cz av fun a0 aD h' tk cv aaD j j3 r' cu gE f2 i2 aet=>?_;rw[mX Ad aaD cu (fun aoL bh=>?_)];(have agU:∀p,h'.bg aD=c p→hK p=F→¬ka cv aD:=fun p d a=>by rw[mX B8 cu fun o' Aa ep a5 aj P=>?_,rl d,nf a5,yQ,mY a5,vL];unfold hK at a;rw[aj]at a;rw[wN a]);rw[m1 (aD∉cv.fL) (nb j.fL (aB.DY gE).2),mY ank,mW (p5 t tk (EU j gE bh) (j3.arl bh.az8 agU f2 i2 aet ank) (r'.AS (Ds bh agU)))]
def XM{aL}(b:aL.d_.cA=.abV):aJE aL=Y:=by unfold aJE;rw[b];rfl
structure ah3(E:iJ)(U:b8)(am dC:d7)(bf:b8)(ej:eW)(aL:af.du)(mp:wU):Prop where
 iM:ma aL aL.d_
 aeM:aL.apw=am
 je:bf.bg am=B
 aeL:xK bf.bg dC
 asa:¬g6 ej.bN dC
 hr:∀j x,uZ x→bf.bg x=B∧Â x∧U.bg x=B
 akE:∀j ab x,uZ x→aL.hr.cm ab=c x→j=ab
 dB:∀j ab q,rR mp.cm q→mp.cm ab=c q→j=ab
structure jJ(E:iJ)(U:b8)(am dC:d7)(bf:b8)(ej:eW)(aL:af.du)(mp:wU)(H:r8)(b:b8)(X:eW)(l:du)(w:ch):Prop where
 f3:s2
 ok:mC mp aL am H l b X
 eX:gb dC bf b ej X
 gh:∀j x,uZ x→¬g6 X.bN x∧x∉X.fL∧∃y,b.aMp x y
abbrev axd(b:b8)(X:eW):t4 ls ama|na,ac=>ac=na|.ahl,ac=>ac=.ahl|.abl,ac=>ac=.abl|rO,ac=>∃cM,ac=s6 cM∧ê cM
def UD:∀{am dC}{bf b h'}{ej X cv}(j:gb dC bf b ej X)(ac:bf.bg am=B)(aeL:xK bf.bg dC)(asa:¬g6 ej.bN dC)(ab:aT3 b),gb dC bf h' ej cv:=by rw[mY am dC bf b h' ej X cv,mY j ac aeL asa ab];(have ne:tc bf.bg aOR:=fun g p d a=>by rw[a,ac]at d;rw[pe d]);rw[oz j.aey aV A1 gE,oz ab.aey bj BR f2,mX ⟨fun g p d fb no=>ab.fx g p (aRg j.fx fb) Ü (j.Cw d no),fun g p d=>let(aOh a5):=aQl;ab.ix g o' a5,fun g p a d=>⟨(aSP).1,fun o' a5=>?_⟩,(Ad (aV++bj) (by rw[BR,A1,r.abP]) (fun g U=>?_)),ab.fL.ah j.fL⟩,mZ aeL,uf,n4 aQl j8 d5,m2 (ab.fx g _ d5 Ü (j.Cw d asa)),mY aa,o6 a5,nf aa,mZ aa,mY aa,uM,mW (j.xs g p e d).2 _ d5,nt (Dz.mp U),rd,m9,rd,m8,mW gE g t,vz cG (bf.bg g) (by rw[n4 (j.ix g p cG) j8 d5];rw[f2 g t]at d5;rw[pe d5])]
noncomputable abbrev afd(aL:af.du)(am:d7):=iz (fun g=>g=am∨∃j,uZ g)
def jJ.Bd:∀{E}{U}{am dC}{bf b}{ej X}{aL}{mp}{H}{l}{w}(bX:u3 H b X l w),∀g p,(g=am∨∃j,uZ g)→v0→aPx:=by rw[mY E U am dC bf b ej X aL mp H l w,mY bX];rintro g p(e|⟨j,J⟩)d;exact bX.f3.Bd g p e d;obtain⟨_,_,y,o',K,aj⟩:=bX.gh j g J;rw[d]at K;rw[nf K,mZ K,mY K];subst K;unfold hK;rw[aj]
def jJ.ER{E}{U}{am dC}{bf b}{ej X}{aL}{mp}{H}{l}{w}(bX:u3 H b X l w):afd aL am b b X X:=iz.fI bX.Bd
def jJ.Aa{E}{U}{am dC}{bf b h'}{ej X cv}{aL}{mp}{H}{l}{w}(bX:u3 H b X l w)(j:aT3 b):afd aL am b h' X cv:=by rw[mX ⟨fun g p d fb no=>j.fx g p d (qW (fb (pp a))) no,j.ix,fun g p a d=>⟨ş bX.Bd,fun o' a5=>?_⟩,j.aey,j.fL⟩,nH t g am,mW (j.xs g p t d).2 _ a5];refine aQ.az a ?_ ?_<;>clear a;rw[wB,tp (by rw[ri Al])];rintro ab b0;rw[m8,mW (t_ t a)];have:=j.fx g p d t (bX.gh ab g b0).1;rw[o6 a5,yQ];cases aa;exact bX.Bd g p (.bF ⟨ab,b0⟩) d
def Nq:∀{E}{U}{am dC}{bf b h'}{ej X}{aL}{mp}{H}{l}{w}{aj}(bX:u3 H b X l w)(bh:aS3)(hd:aj=am∨∃j,uZ aj)(aan:∃p,h'.bg aj=c p∧aPx),afd aL am b h' X X:=by rw[mY E U am dC bf b h' ej X aL mp H l w,mY aj,mY bX bh hd aan,m1 (∀g,¬(g=am∨∃j,uZ g)→vd aj) (fun g h a=>h (a▸hd)),mY ne,m3 Ac aan,mZ aan];rintro acQ az2 aL2;rw[mX ⟨fun g p d fb no=>(tH g (ne g fb)).ah d,fun g p d=>?_,fun g p a d=>⟨ş bX.Bd,fun o' a5=>?_⟩,aPs,e⟩,aVu,mZ bh hd ne,sA,mW ⟨acQ,az2⟩,mW (vK ((tH g t).ah d)),aVu,mZ bh hd ne,sA,rl az2,nf a5,yQ,mY a5,vL,mW aL2];rw[tH g t,d]at a5;rw[yV,zR (ş bX.Bd)]
def jJ.iU{E}{U}{am dC}{bf b h'}{ej X cv}{aL}{mp}{H}{l}{w bJ}(bX:u3 H b X l w)(cJ:aUN)(j:aT3 b)(aB:aVP):u3 H h' cv l bJ:=by refine⟨aB,bX.ok.bx j,UD bX.eX cJ.je cJ.aeL cJ.asa j,fun ab x d=>?_⟩;obtain⟨f,g,y,p,K,aj⟩:=aOZ bX.gh;exact(AE (j.Cw K f) (nb j.fL g) (AI y p (j.fx x p K (nj (aOZ cJ.hr)) f) aj))
def GQ:∀{E}{U}{am dC}{bf}{ej X}{aL}{mp}{H}{l}{w}{ag}{aI}{bb}{k}{q}{id}{hJ}{y}{aW}(cJ:aUN)(bX:u3 H k.aK X l w)(Ab:yi mp.cm q)(aG:yi aL.h_ yY∨yi aL.h_ .gh)(ft:ř hJ y)(t:∀h' tk m',u3 m' h' X (Ÿ (c hJ)) w→afd aL am k.aK h' X X→zt ()),v2 (aEK aL id y):=by injections E U am dC bf ej X aL mp H l w ag aI;injections bb k q id hJ y aW;intro cJ bX Ab aG ft t;have fn:=cJ.iM.cA;rw[nY aG aG];rintro aG;rw[m9];rintro aG;rw[m8,m1 (k.aK.af7 aL.apw H) (nb cJ.aeM bX.f3.fr.ns),mY cu,mX aLR aG cu (fun h' ao7 bh=>?_) (sh fn)];rw[cJ.aeM]at ao7 bh;rw[m1 (∀p,aUy am→hK p=F→¬ka X am) (fun p d a=>by rw[bX.f3.Bd am p e d]at a;rw[wN a]),mY aEv];have jn:j1 k.aK h' X X:=Ds bh aEv;rw[m1 (∃p,h'.bg am=c p∧aPx) (by rw[m3 B8 ao7,mY p Aa ep d aj _,mW ⟨p,d,ķ hK aj⟩]),mY aan,oz aan anp aes aL1];have j3:cT E U am (nF (ow j id qu (H j))) h' X w:=⟨bX.f3.fr.b6 ao7 bh,bX.f3.hC.E9 jn e fun g p V d=>(tH g (aUv bX.f3.hP)).ah d,bX.f3.hP,fun g V=>⟨(bX.f3.lx g V).1,by rw[nH a g am,mZ cJ bX t ao7 bh aEv aan,uf,mW ⟨anp,aes⟩,m3 Al (aUv bX.f3.lx),mY p d,mW (vK ((tH g a).ah d))]⟩⟩;rw[mX t h' _ _ ⟨j3,fun ab aq f b0 aiB br=>?_,EU bX.eX cJ.je bh,fun ab x d=>?_⟩ (Nq bX bh qN (Ad anp aes aL1)),nH a ab id,mZ ao7 j3,uf];rw[Ab]at b0;rw[aRf b0 b0 b0 b0,m2 (wx (aOA br)),mY jf];rw[r.akY jf]at br;simp only[ap.c.fV]at br;subst br;rw[mW Ad y (zi aG (zi cJ.aeM rb)) (ft.AS jn),m1 (sU aq) (fun V=>a (cJ.dB ab _ aq b0 (V▸Ab))),mY aip];rw[r.agx aip]at br;rw[nD (bX.ok ab aq f b0 aiB br) aP i aeU,mX Ad aP ?_ (aeU.AS jn),nY i i,aO0 V i,m9,mY J];rcases J with(⟨V,x,p,aV,bj,cV,gp,ky⟩);rw[m8,nY i i,mY J,nV,ng];rintro jm adD;rw[m9,mY J,nV,ng];rintro jm _;rw[m8,mW (zi V (zi jm (y8 a adD))),mW (t_ jm cJ.aeM),mW .bF (qd V (BU x p aV bj cV ((tH x bj).ah gp) ky))];obtain⟨f,g,V,p,K,aj⟩:=aOZ bX.gh;rw[mW AE f g (AI V p ((tH x (nj (aOZ cJ.hr))).ah K) aj),m3 Al (cJ.iM.hr _ (pp aG)),mY x hc];obtain⟨aZ,aKs,ae3,alo⟩:=bX.gh id x hc;rw[rf (cJ.hr id x hc) gE f2 i2,mX wpAny_storeName_cell fn aG hc alo ?_,mY h' agD bh];(have agU:∀p,aUy x→hK p=F→¬ka X x:=fun p d a=>by rw[p4 alo,mY o' a5 aj,rl d,nf a5,yQ,mY a5,vL];unfold hK at a;rw[aj]at a;rw[wN a]);replace jn:j1 k.aK h' X X:=Ds bh agU;rw[p4 agD,mY j8 aV i0,m2 (bX.f3.GN bh agU aZ f2 i2 ⟨j8,aV⟩),mY j3,mX t h' k.ce H ⟨j3,fun ab aq f b0 aiB br=>?_,EU bX.eX gE bh,fun ab c' d=>?_⟩ (Nq bX bh (.bF ⟨id,hc⟩) (Ad j8 aV (ķ hK i0))),nH a ab id,uf];rw[Ab]at b0;rw[aRf b0 b0 b0 b0,m2 (wx (aOA br)),mY jf];rw[r.akY jf]at br;simp only[ap.c.fV]at br;subst br;rw[mW Ad y (.bF (qd (pp aG) (BU x _ hc f2 aZ aV i0))) (ft.AS jn),m1 (sU aq) (fun V=>a (cJ.dB ab _ aq b0 (V▸Ab))),mY aip];rw[r.agx aip]at br;rw[m3 Ac (bX.ok ab aq f b0 aiB br),mY aP i aeU,mX Ad aP ?_ (aeU.AS jn),nY i i,mY J,nV,ng];rintro V i;rw[m9,mY J];rcases J with(⟨V,c',p,A1,BR,Cp,CV,Dt⟩);rw[m8,nY i i];rintro i;rw[m9,mY J,nV,ng];rintro jm _;rw[m8,mW (zi V (pp i)),mW (t_ jm cJ.aeM),m1 (c'≠x) (fun V=>a (cJ.akE ab _ _ A1 (V▸hc))),mY ne,mW .bF (qd V (BU _ p A1 BR Cp ((tH _ ne).ah CV) Dt))];obtain⟨f,g,V,p,K,aj⟩:=bX.gh ab c' d;rw[nH a c' x,mZ hc aZ aKs alo gE f2 i2 agD bh agU,uf,mW AE f g (nM AI aV i0),mW AE f g (AI V p ((tH _ a).ah K) aj)]
abbrev anX(E:iJ)(U:b8)(am dC:d7)(bf:b8)(ej:eW)(aL:af.du)(mp:wU)(k:en)(X:eW)(aW:t7 ama)(r':du)(bJ:ch)(fl:ls):Prop:=∀cf h' tk cv m',u3 m' h' cv r' bJ→afd aL am k.aK h' X cv→axd h' cv fl cf→aW cf (yR h')
def anX.to{E}{U}{am dC}{bf}{ej}{aL}{mp}{k}{X}{aW}{l r'}{w bJ}{ac fl}(t:aOb anX k X aW r' bJ fl)(d:(t' ac w:lV)=c (fl,r',bJ)):aOb anX k X aW l w ac:=by rw[nf d,oA,mY d,uT d,oA,mY d L,oQ,uT L,mZ L,mY L L,qD,qD,mW t]
abbrev mf(E:iJ)(h:u)(cj:md):Prop:=∀{aI:lT}{U:b8}{am dC:d7}{bf:b8}{ej:eW}{aL:af.du}{H:r8}{mp:wU}{st:af.ee}{l r':du}{w bJ:ch}{fl:ls}{k:en}{X:eW}{aW:t7 ama}{bb:ux},pA→aUN→aby E.K mp aL.d_ cj st=F→u3 H k.aK X l w→xS dP cj=c (fl,r',bJ)→aOb anX k X aW r' bJ fl→q6 (exec st aL)
abbrev adK(E:iJ)(h:u)(cj:cx):Prop:=∀{aI:lT}{U:b8}{am dC:d7}{bf:b8}{ej:eW}{aL:af.du}{H:r8}{mp:wU}{st:r af.ee}{l r':du}{w bJ:ch}{fl:ls}{k:en}{X:eW}{aW:t7 ama}{bb:ux},pA→aUN→acO E.K mp aL.d_ cj st=F→u3 H k.aK X l w→xS b4 cj=c (fl,r',bJ)→aOb anX k X aW r' bJ fl→q6 (execs st aL)
def D8{f j}{g ab}{x a}(b:(c (f,g,x):lV)=c (j,ab,a)):f=j∧g=ab∧x=a:=by rw[nf b,om,mY b,uT b,om,mY b L,pq,uT L,mZ L,mY L L,qD,qD,mW AE e e e]
def S9{p}{o}{V}(b:aqZ p o=c V):(∃bW a4,p=c (na,bW,a4)∧o bW a4=c V)∨(p=c V∧V.1≠na):=Ũ p (by rw[xF]) n (by obtain⟨fl,l,w⟩:=n;induction fl using ls.ae with|bU=>exact .bT (AI l w e b)|_=>exact .bF ⟨b,ol (by rw[p2 b,pi,yc])⟩)
def NE{p}{o}{V}(b:afw p o=c V):(∃ac bW a4,(ac=na∨ac=.abl)∧p=c (ac,bW,a4)∧o bW a4=c V)∨(p=c (.ahl,V.2)∧V.1=na)∨∃y,p=c (rO,V.2)∧V.1=rO:=Ũ p (by rw[xF]) n (by obtain⟨fl,l,w⟩:=n;induction fl using ls.ae with|bU=>exact .bT (CA _ l w qN e b)|abl=>exact .bT (CA _ l w yo e b)|ahl=>rw[p2 b,pi,mW (rt (pp zl))]|bu y=>rw[p2 b,pi,mW (vM (Ad y e e))])
def AdC:∀{E}{h},p_ adK .C:=by rw[mY E h aI U am dC bf ej aL H mp st l r',mY w bJ,mY fl k X aW bb aN cJ bG bX av t];induction st using r.ae with|s _ _=>rw[sQ bG]|C=>rw[m2 (t.to av),p1,mY t,mW aFc (oJ _ bX bX.ER e)]
def AdA:∀{E}{h}{f}{g}(sa:p_ mf f)(bh:aQ3),adK E h (sH .s):=by rw[mY E h f g,mY sa bh,mY aI U am dC bf ej aL H mp st l r' w bJ,mY fl k X aW bb aN cJ bG bX av t,oT st (by rw[sQ bG]) j xs (by have ag:(aby E.K mp aL.d_ f j&&acO E.K mp aL.d_ g xs)=F:=bG;rw[qt,nt (S9 av),mY J,ri AR,ng];rintro bW a4 ct av;rw[m9,mY J,nV,ng];rintro av aJr;rw[m8,mX aLL (sa aN cJ rX bX ct fun cf Q t1 cX cC e4 I gE=>?_)];subst gE;rw[mW (qp bh aN cJ x_ e4 av fun cf h2 d2 g5 c4 f9 L f2=>oJ _ f9 wt f2),mX aLL (sa aN cJ rX bX av fun cf Q t1 cX cC e4 I gE=>?_),mZ av,nu];have cW:=t cf Q t1 cX cC e4 I gE;rw[p1];induction fl using ls.ae with|bU=>exact t_ aJr e|ahl=>subst gE;exact cW|abl=>subst gE;exact cW|bu y=>rw[p4 gE,mZ gE];rintro cM e _;exact cW)]
def Fq:∀{mp}{aE}{q}{v}(ag:aeJ mp aE q v=F),∃id n,v=aNM id∧yi mp.cm q∧(yi aE.bw.cm yY∨yi aE.bw.cm .gh):=by rw[mY mp aE q v,mY ag,pw AR Hn,oK];rintro _ _ e akv;simp only[N.c3,N.acR,lb]at akv;exact(Au _ _ e akv.1 akv.2)
def Adi:∀{E}{h}{f}(sa:qA),wQ (.f_ f):=by rw[mY E h f,mY sa,mY aI U am dC bf ej aL H mp st l r' w bJ,mY fl k X aW bb aN cJ bG bX av t,o_ AR VC,mZ bG];rintro y z1 e ag;rw[qt,oi,mY J,pP aP,o3,m2 (t.to av),p1,mY t,mX wpAny_Expr_any (sa aN cJ.iM x_ bX.f3 bX.ok ct fun cM Q t1 cX I bQ bW=>oJ H aTI aUB e) (XM cJ.iM.cA) ?_,y6 y af.bA.ae (by rw[qT rX])]
def Ac8:∀{E}{h}{q}{f}(sa:qA),wQ (.ci q f):=by rw[mY E h q f,mY sa,mY aI U am dC bf ej aL H mp st l r' w bJ,mY fl k X aW bb aN cJ bG bX av t,o_ AD Vx,mZ bG];rintro v y z1 e ag;rw[qt,zd Fq rX];rintro id n e Ab aG;rw[oi,nu,mY J,pP aP,o3,m2 (t.to av),p1,mY t,m3 aLD (sa aN cJ.iM (nW ag) bX.f3 bX.ok ct aSF),m2 aTI,mY e4,mW (qp GQ cJ e4 Ab aG bW fun h2 d2 c4 f9 L=>oJ _ f9 ((aUB).ah L) e),y6 y af.bA.ae (by rw[qT aP8])]
def Adt:∀{E}{h}{f}(sa:qA),wQ (s6 f):=by rw[mY E h f,mY sa,mY aI U am dC bf ej aL H mp st l r' w bJ,mY fl k X aW bb aN cJ bG bX av t,o_ AR TQ];rintro p a e ag;rw[oK,oi,nu,mY J,pP aP,o3];replace t:=t.to av;induction p using ap.ae with|c y=>exact wpAny_Return_some (sa aN cJ.iM bG bX.f3 bX.ok ct fun cM Q t1 cX I bQ bW=>oJ H aTI aUB (ql e bW))|B=>clear sa;induction f using dz.ae with|B=>rw[wG (Ŝ fK.mk.dB ct),mZ ct av];(rw[oc e]);exact wpAny_Return_none (oJ H bX bX.ER (ql e e))|_=>rw[qT bG]
def Adf{E}{h}:p_ mf .abl:=fun{aI U am dC bf ej aL H mp st l r' w bJ fl k X aW bb}aN cJ bG bX av t=>by rw[o_ Al Vz,mZ bG,oc z1,m2 (t.to av),p1,mY t,mW wpAny_Continue (oJ _ bX bX.ER e)]
def Adr:∀{E}{h},p_ mf .alK:=by rw[mY E h aI U am dC bf ej aL H mp st l r',mY w bJ,mY fl k X aW bb aN cJ bG bX av t,o_ Al VG,mZ bG,oc z1,m2 (t.to av),p1,mY t,mW wpAny_Pass (oJ _ bX bX.ER e)]
def Adx{E}{h}:p_ mf wz:=fun{aI U am dC bf ej aL H mp st l r' w bJ fl k X aW bb}aN cJ bG bX av t=>m4 (aRb av)
def AdB:∀{E}{h}{x}{f g}(l9:p_ mh x)(sa:p_ adK f)(bh:aQ3),wQ aN8:=by rw[mY E h x f g,mY l9 sa bh,mY aI U am dC bf ej aL H mp st l r' w bJ,mY fl k X aW bb aN cJ bG bX av t,o_ AA VF,mZ bG];rintro v j ab z1 e ag;rw[qt,oi,mY J,pP y,o3,pv Ay av bZ gx av,rs bZ (by exact wpAny_If (l9 aN cJ.iM rX bX.f3 bX.ok ct gx (aWm (qp sa aN cJ aP8 aTI av fun cf h2 d2 g5 c4 f9 L f2=>oJ _ f9 ((aUB).ah L) f2)))) (by exact wpAny_If (l9 aN cJ.iM rX bX.f3 bX.ok ct gx (aWm (qp bh aN cJ (nW ag) aTI av fun cf h2 d2 g5 c4 f9 L f2=>oJ _ f9 ((aUB).ah L) f2))))]
inductive axo(E:iJ)(U:b8)(am dC:d7)(bf:b8)(ej:eW)(aL:af.du)(mp:wU)(k:en)(X:eW)(ao:u→du→ch→Prop)(o:u):en→Prop|mk(b:b8)(tk:u)(cI:eW)(H:r8)(l:du)(w:ch)(bX:u3 H b cI l w)(j:afd aL am k.aK b X cI)(y:ao o l w):aOb axo k X ao o (yR b)
def Adz:∀{E}{h}{x}{g}(l9:p_ mh x)(bh:aQ3),wQ (.ag2 x g):=by injections E h x g;intro l9 bh;injections aI U am dC bf ej aL H mp st l r' w bJ;rw[mY fl k X aW bb aN cJ bG bX av t,aQ5 AD VK (by rintro v j z1 e ag),mX wpAny_While (codeAny_whileLoop (ni (axo E _ am _) k _ fun o bW a4=>ae8 _ (zG (b4 _ _ g l w)) o bW a4=c _) ?_ _ (n7 ra H l w bX bX.ER av)),nu,mY o s' V];induction V with|mk b tk cv m' bW a4 e4 I ct=>rw[uL o (by rw[sQ ct]) o (by rw[m3 Ay ct,mZ ct,mY J,tQ c6];rintro an0 ct;rw[m3 Ay an0,mZ an0,mY J,aRO y amd];rintro gx an0;rw[pv AU an0 dn e9 d,mZ an0,m3 Ai (fK.mk.dB d),oA,oc e,u9 dn (by rw[m2 (t.to ct),p1,mY t,mW (aUZ (wl l9 b tk) rX e4.ok gx e9 fun h2 d2 g5 L c7=>aFc (oJ _ (e4.iU cJ L c7) (I.ah (e4.Aa L)) e))]) (by rw[mX (aUZ (wl l9 b tk) rX e4.ok gx e9 ?_),mY h2 d2 g5 L c7];have f9:=e4.iU cJ L c7;replace L:=I.ah (e4.Aa L);rcases NE ct with⟨ac,k4,acl,b2,gy,ct⟩|⟨gy,d⟩|⟨eN,gy,d⟩;rw[mX (we bh aN cJ x_ f9 gy fun cf h3 j9 abG afR k' Z i2=>?_),mZ gy];(rw[aRD b2 b2])<;>subst i2<;>exact(Ad o (u.aiI _) (ni ra _ _ k' (L.ah Z) ct));rw[mZ ct,rP fl na d,m3 (we bh aN cJ x_ f9) gy,mY cf h3 j9 abG afR k' Z i2];subst i2;rw[mW (oJ _ k' (L.ah Z) e),mZ ct,rP fl (s6 eN) d,m3 (we bh aN cJ x_ f9) gy,mY cf h3 j9 abG afR k' Z i2,p4 i2,mZ i2];rintro cM e ft;exact oJ _ k' (L.ah Z) (ql e ft))])]
def JS{cL}{Q b h'}{cX cI}{aj}(j:iz cL Q b cX cI)(ac:aSD aj)(bh:aS3):iz cL Q h' cX cI:=by(have ne:tc Q.bg (vd aj):=fun g p d a=>by rw[a,ac]at d;rw[pe d]);exact⟨fun g p d fb no=>(tH g Ü).ah (aRg j.fx fb),fun g p d=>let(aOh a5):=aQl;aOh ((tH g Ü).ah a5),fun g p a d=>⟨(aSP).1,aN4 ((aSP).2 _ (uq (tH g Ü) a5))⟩,j.aey,j.fL⟩
def JR{cL}{Q b h'}{cX cI}{aj}(j:iz cL Q b cX cI)(ac:aSD aj)(bh:b8.al9 aj b h'):iz cL Q h' cX cI:=by(have ne:tc Q.bg (vd aj):=fun g p d a=>by rw[a,ac]at d;rw[pe d]);exact⟨fun g p d fb no=>bh g p Ü (aRg j.fx fb),fun g p d=>let(aOh a5):=aQl;aOh (bh g _ Ü a5),fun g p a d=>⟨(aSP).1,aN4 (by rw[n4 aQl k2 bj,rl (bh g k2 Ü bj),yV,zR ((aSP).2 _ bj)])⟩,j.aey,j.fL⟩
structure axj(E:iJ)(aI:lT)(U:b8)(am:d7)(Q:b8)(cX:eW)(aB:d7)(i:nC)(co:ap (u×nC))(W:t4 b8 u):Prop where
 fx:∀b h' aq,W b aq→(∀p,tN aB→h'.bg aB=c p)→W h' aq
 ix:∀b aq,W b aq→∃p,tN aB∧aPx
 aT:∀{k:en}{cI:eW}{abJ:ch}{H:r8}{aq:u}{f:ar}{bb:ux}{aW:t7 (ap ck)},j1 Q k.aK cX cI→t3 k.aK cI abJ→AY co abJ=F→W k.aK aq→p7 i f→(∀y h' tk,de k.aK cI f y→W h' xj→b8.aaR aB k.aK h'→aW qu (yR h'))→q6 (av8 (nP aB))
 cW:∀{k:en}{cI:eW}{abJ:ch}{H:r8}{bb:ux}{aW:t7 (ap ck)},j1 Q k.aK cX cI→t3 k.aK cI abJ→AY co abJ=F→W k.aK i.z→(∀h',b8.al9 aB k.aK h'→aW B (aU6 h'))→q6 (av8 (nP aB))
inductive aqy(E:iJ)(U:b8)(am dC:d7)(bf:b8)(ej:eW)(aL:af.du)(mp:wU)(k:en)(X:eW)(aB:d7)(W:t4 b8 u)(i:nC)(ao:nC→du→ch→Prop):t7 u|mk(hQ abm:nC)(b:b8)(tk:u)(cI:eW)(H:r8)(l:du)(w:ch)(bX:u3 H b cI l w)(j:afd aL am k.aK b X cI)(p:aO2 aB)(n:W b abm.z)(d:i=abm++hQ)(y:ao hQ l w):aOb aqy k X aB W i ao hQ.z (yR b)
def NH:∀{E}{h}{g}{q}(bh:aQ3){aI}{U}{am dC}{bf}{ej}{aL}{mp}{id}{n}{bD}{r'}{bJ}{fl}{s1}{cX}{ao}{i}{co}{aB}{W}(aN:pA)(cJ:aUN)(Ab:yi mp.cm q)(aG:yi aL.d_.bw.cm yY∨yi aL.d_.bw.cm .gh)(ag:acO E.K mp aL.d_ g bD=F)(gQ:axj E aI U am s1.aK cX aB i co W)(abT:s1.aK.bg aB=B)(axB:xK s1.aK.bg am)(axA:∀j x,uZ x→xK s1.aK.bg x)(kA:bf.bg aB=B)(ajt:aQr aB)(aui:aB∉cX.fL)(t:∀cf h' tk cv m',u3 m' h' cv r' bJ→afd aL am s1.aK h' cX cv→axd h' cv fl cf→ao (.ok cf) {s1 with aK:=h',ce:=tk}),∀(o)(k),(aOb aqy s1 cX aB W i fun hQ l w=>fZ (zG (xS b4 g)) q co hQ l w=c (fl,r',bJ)) o k→amv wn aI (.forLoop (aNM id) (nP aB) bD [] aL) ao k:=by injections E h g q;intro bh;injections aI U am dC bf ej aL mp id n bD r' bJ;intro fl s1 cX ao i co aB W aN cJ Ab aG ag gQ abT axB axA kA ajt aui t;(have adh:Â aB:=qW (by rw[uy axB p d];rw[←a,abT]at d;rw[pe d]));(have agy:∀j x,uZ x→x≠aB:=fun j x d a=>by rw[n4 (axA j x d) p a5];rw[a,abT]at a5;rw[pe a5]);rw[mY o k V,mX codeAny_forLoop (nM (ni (aqy E _ am _)) aB W i fun hQ l w=>fZ (zG (b4 _ _ g l w)) q _ _ l w=c _) ?_ o V,mZ V k o,mY o s' V];induction V with|mk hQ abm b tk cI H l w bX xs mQ ew aC av=>(have Ak:∀p,tN aB→hK p=F→¬ka cI aB:=fun p d a=>by rw[m3 Ac (nv gQ.ix ew),mY o' a5 z',rl d,nf a5,mZ a5,mY a5,vL];rw[a]at z';rw[yL GR z']);rw[m1 (aB∉cI.fL) (nb xs.fL aui),mY acP,oT hQ (by rw[m3 Bc av,nu,mY cU av,m3 AC (D8 av),nu];(rintro e e e);rw[r.afl]at aC;refine ĩ gQ.cW b tk xs.Aw bX.f3 cU (nb aC ew) fun h6 dt=>?_;have jn:j1 b h6 cI cI:=⟨fun g p d hs no=>by rw[nH t g aB,mZ gQ abT kA ajt aui adh agy mQ acP dt,sA,mW (Ak p d hs no).az,mW ⟨dt g p t d,no⟩],fun P P d=>d⟩;rw[m1 (nM (jJ E _ am _) aL mp H _ _ l w) (by rw[mX ⟨bX.f3.arl dt Ak mQ adh ajt acP,fun ab aq f b0 aiB br=>?_,JR bX.eX kA dt,fun ab x d=>?_⟩,nD (bX.ok ab aq f b0 aiB br) aP cc aeU,mX Ad aP ?_ (aeU.AS jn),nY cc cc,mY J,nV,ng];rintro V cc;rw[m9,mY J];rcases J with(⟨V,x,p,aV,bj,cV,gp,ky⟩);rw[m8,nY cc cc];rintro cc;rw[m9,mY J,nV,ng];rintro jm _;rw[m8,mW (zi V (pp cc)),mW (t_ jm cJ.aeM),mW .bF (qd V (BU x p aV bj cV (dt x p (agy ab x aV) gp) ky))];obtain⟨f,bZ,V,p,K,aj⟩:=aOZ bX.gh;exact(AE f bZ (AI V p (dt x p (aOZ agy) K) aj))),mY as9,mW aFc (p5 t tk H as9 (JR xs abT dt) e)]) f hQ (by rw[m3 Bc av,nu,mY cU av,m1 (n9 i abm.z f) (Ž aC),mY bj,m3 (ĩ gQ.aT b tk xs.Aw bX.f3 cU ew) bj,mY y h6 aLi ft as6 afZ];have aqg:j1 b h6 cI cI:=Ds afZ Ak;rw[m1 (jJ E _ am _ _ _ aL mp H _ _ l w) (by rw[mX ⟨bX.f3.GN afZ Ak mQ adh ajt (by rw[nD (nv gQ.ix as6) p d P,mW xc]),fun ab aq f b0 aiB br=>?_,JS bX.eX kA afZ,fun ab x d=>?_⟩,m3 Ac (bX.ok ab aq f b0 aiB br),mY aP cc aeU,mX Ad aP ?_ (aeU.AS aqg),nY cc cc,mY J,nV,ng];rintro V cc;rw[m9,mY J];rcases J with(⟨V,x,p,aV,bj,cV,gp,ky⟩);rw[m8,nY cc cc];rintro cc;rw[m9,mY J,nV,ng];rintro jm _;rw[m8,mW (zi V (pp cc)),mW (t_ jm cJ.aeM),mW .bF (qd V (BU x p aV bj cV ((afZ.2 x (agy ab x aV)).ah gp) ky))];obtain⟨f,bZ,V,p,K,aj⟩:=aOZ bX.gh;exact(AE f bZ (AI V p ((afZ.2 x (aOZ agy)).ah K) aj))),mY as9,mX awV (ĩ GQ h6 aLi cJ as9 Ab aG (ft.AS aqg) fun h7 awF aNe ata cZ=>?_),m1 (xK h6.bg aB) (by rw[nD (nv gQ.ix as6) p d P,mW xc]),mY aqF];have apF:¬(aB=am∨∃j,uZ aB):=qW (a.az adh fun⟨j,J⟩=>agy j aB J e);rw[m2 (gQ.fx _ _ _ as6 fun p d=>cZ.fx aB p d apF mQ),mY aF9,o8 aqF,mZ aqF,mY aD5 aqF,m2 mQ,mY aNh,m2 (cZ.fx aB _ aqF apF mQ),mY aGq];have awZ:afd aL am s1.aK h7 cX cI:=(JS xs abT afZ).ah cZ;(have afS:∀{k4:du}{acl:ch},fZ (zG (xS b4 g)) q co hQ k4 acl=c (fl,r',bJ)→∀{h3:b8}{j9:u}{abG:eW}{afR:r8},u3 afR h3 abG k4 acl→afd aL am h7 h3 cI abG→∃o,o<(f::hQ).z∧(aOb aqy s1 cX aB W i fun hQ l w=>fZ (zG (xS b4 g)) q co hQ l w=c (fl,r',bJ)) o {s1 with aK:=h3,ce:=j9}:=by rw[mY k4 acl e9 h3 j9 abG afR k' Z,mX Ad _ (u.aiI _) (ni (sk ra (abm++[f])) k' (awZ.ah Z) (Z.Cw aGq mQ) ?_ (Ž aC) e9),r.gR,mW gQ.fx _ _ _ aF9 fun p d=>Z.fx aB p d apF mQ]);rcases NE av with⟨ac,k4,acl,b2,gy,av⟩|⟨gy,d⟩|⟨eN,gy,d⟩;rw[m3 (ĩ bh h7 awF aN cJ ag ata) gy,mY cf h3 j9 abG afR k' Z i2,mZ gy];(rw[aRD b2 b2])<;>subst i2<;>exact afS av k' Z;rw[mZ av afS,rP fl na d,m3 (ĩ bh h7 awF aN cJ ag ata) gy,mY cf h3 j9 abG afR k' Z i2];subst i2;rw[mW (oJ _ k' (awZ.ah Z) e),mZ av afS,rP fl (s6 eN) d,m3 (ĩ bh h7 awF aN cJ ag ata) gy,mY cf h3 j9 abG afR k' Z i2,p4 i2,mZ i2];rintro cM e aKV;exact oJ _ k' (awZ.ah Z) (ql e aKV))]
def Adj:∀{E}{h}{q}{f}{g}(sa:qA)(bh:aQ3),wQ (.jd q f g):=by injections E h q f g;intro sa bh;injections aI U am dC bf ej aL H mp st l r' w bJ;rw[mY fl k X aW bb aN cJ bG bX av t,o_ AA VE,mZ bG];rintro v gQ j z1 e ag;rw[qt,zd Fq rX];rintro id n e Ab aG;rw[oi,nu,mY J,pP y,o3,oi,nu,mY J,aRO i co];rintro lA av;rw[m1 (f≠wz) (qW (by rw[mZ sa ag,uf,mW (aRb ct)])),mY cU,mX aLF (sa aN cJ.iM aP8 bX.f3 bX.ok ct aSF) (JZ (KM aP8 cU) aL)];have e4:=bX.iU cJ I bQ;rw[aPF Dr P4 lA,mZ lA,mZ bW];rintro O ax h1 e d9 _ af2;rw[mZ d9,m1 (AY co a4=F) (by rw[mZ af2,oT i (by exact(Ct av).1) f i (by exact(Ct av).1)]),mY avf,nD (af2 Q cX a4 H (iz.Aw bQ.fI) bQ avf) aJO ave P,m3 (qp Oj) ave];have hM:tc Q.bg ((Q.g' (afN O ax)).bg g=c p):=Bv;have L:=bQ.B0 hM;rw[m2 (e4.iU cJ L (bQ.g0 hM)),mY f9];have hP:=bQ.Dy;(have aav:aQr Q.eU.c5:=by rw[vz a (U.bg Q.eU.c5) (by rw[m2 (bQ.fr.fx _ p a),m5,o6 B9,pe aa])]);rw[m1 (bf.bg _=B) (by rw[vz a (bf.bg Q.eU.c5) (by rw[n4 (e4.eX.ix _ p a) o' a5,rl B9,pe a5])]),mY aoM,mX (pj (nI (nI (nI NH s1 aPf cX cX) aB Q.eU.c5 i i) co co W (fun b aq=>aei O b _ _ aq)) r' r' bJ bJ fl fl bh aN cJ Ab aG (nW ag) ⟨fun b h' aq a o=>a.fx o,fun b aq a=>a.ix,?_,?_⟩ B9 (aVi bQ.fr.ns) (fun j x d=>by obtain⟨_,_,V,p,K,_⟩:=e4.gh j x d;exact vK K) aoM aav hP.2 (fun cf h' tk cv m' anY g4 ade=>oJ _ anY ((aUB).ah g4) ade) _ _ (ra i [] (Q.g' _) t1 _ H l _ f9 (e4.Aa L) hP.1 (Og (o:="") h1 zw) e av)),mY s' cI abJ m' aq dE aFD anV jn j3 asy cQ a_ awb,nD (af2 s'.aK cI abJ m' jn j3 asy) eD acG alj,nD (alj.i3 a_) aP cK aeU,mW Oi cQ acG (uq fE.arj cK) fun h' f g=>awb aP _ _ aeU f g,mY s' cI abJ m' aFD anV jn j3 asy cQ awb,m3 Ac (ni af2 jn j3 asy),mY eD acG alj,mX Oh aN.fk cQ acG ?_ awb,m2 alj.z,m5,fE.aii,o6 fE.anb,mW Ag [eD.c5,i.z] S ai S ai e (Az aa)]
def Pw{K}{mp}{aE}{aL}{bs}:∀{Aa}{i},jj K mp aE Aa i=F→(act bs (aec i aL)).dS (·.1)=Y|.C,i,ag=>aUu Dw ag|u6,i,ag=>by rw[pw BV CB,oK];rintro j xs e hs dQ dW;rw[BT hs,m6 ((Y||(m7 act).dS (·.1))=Y),Pw dW];rfl
def PF{f x}:∀{h aq},aq<h→nX (k5 f x h) aq (pf (f+aq*x))∧abh|0,_,b=>n_|nB,0,_=>y8 GH GI|nB,xj,b=>by refine⟨?_,jC⟩;simp only[GH,GI,r.agv];rw[(rJ (PF (f:=f+x))).1];congr 2;simp only[R.aDU,R.atj];omega
def K3{f x}:∀h,(k5 f x h).z=h|0=>e|nB=>by simp[GH,GI,K3]
def CU{q}(b:aRW≤q∧q≤4294967296):gM.ahh.aKQ q=F:=by unfold gM.ahh.aKQ;simp only[N.c3,kR];exact⟨A4 [q] (-9223372036854775808) b5 aRW b5 e od,aVy A4 [q] b5 4294967296 e qK⟩
def Aai{E}{aI}{U}{am}{Q}{cX}{aB}{f x}{o}(fk:aI.auA=B):axj E aI U am Q cX aB (k5 f x o) B (fun b aq=>aq≤o∧aFP b aB (f+aq*x) (uQ-aq) x)where fx:=fun b h' aq a lC=>⟨a.1,lC _ a.2⟩;ix:=fun b aq a=>(zm a.2);aT:=(fun{k cI abJ H aq hJ bb aW}P P P a d t=>by(have cQ:aq<o:=by rw[m2 (aOA d),m5];simp only[K3]at aa;exact aa);rw[(PF cQ).1]at d;simp only[ap.c.fV]at d;rw[oQ,mX wpAny_pyNext_range_item a.2 (m4 (R.sub_pos_of_lt (R.aa7.2 cQ))) fun h' aJN bh=>t _ h' _ u0 ⟨cQ,?_⟩ bh,m1 (f+ob xj*x=f+nc aq*x+x) (by simp only[R.aDU,R.atj,←R.la];exact uU (R.alI x)),mY aV,m1 (uQ-ob xj=uQ-aq-1) (m4 (m7 Yx)),mY bj,aV,bj,mW aJN]);cW:=fun{k cI abJ H bb aW}P P P a t=>by rw[K3]at a;exact wpAny_pyNext_range_end fk a.2 (m4 (D1 [↑o] (b5-b5) 0 e)) t
def Aag:∀{vs i}(b:acc vs=c i),(∃o,vs=[qv]∧g2 o=F∧i=k5 0 1 o.es)∨∃f g,vs=[th,.m g,us]∧g2 f=F∧g2 g=F∧i=k5 f (-1) (f-g).es:=by rw[mY vs i b,oT vs (by rw[tb]) j vs (by rw[qO j m o (by(rw[oT vs (by rw[m3 Bc b,om,mY f b,mW .bT (AP _ e f aRl)]) ab vs (by rw[qO ab m g (by(rw[oT vs (by rw[tb]) a vs (by rw[qO a m x (by(rw[oT vs (by rw[mX Bc b fun aj h2=>?_,aUb aj aj];have aaq:=(N.c3 ..).mp aj.2;rw[om];(rw[pD (acz aaq.2)]);exact rt (Bx o g e aj.1 aaq.1 (wv ap.c.dB h2))) _ _ (by rw[tb])])) (by rw[tb])])])) (by rw[oT vs (by rw[tb]) _ vs (by induction vs using r.ae<;>exact Aq b)])])])) (by rw[oT vs (by rw[tb]) _ vs (by rw[oT vs (by rw[tb]) _ vs (by induction vs using r.ae<;>exact Aq b)])])])]
def Adk:∀{E}{h}{q}{Aa}{g}(bl:p9)(it:aNS)(bh:aQ3),wQ (.mn q Aa g):=by injections E h q Aa g;intro bl it bh;injections aI U am dC bf ej aL H mp st l r' w bJ;rw[mY fl k X aW bb aN cJ bG bX av t,o_ HE VD,mZ bG];rintro v fn eb z1 j bz e ag;rw[qt,mX Bq ag fun dQ dW f8 iw=>?_,mZ ag,zd Fq dQ,mZ dQ];rintro id n e Ab aG;rw[oi,nu,mY J,pP vs,o3,oi,nu,mY i aC av,m3 AF (De dW),mZ dW];rintro aNm e ao3 hd;rw[ou (bl.aqT "range" qg) A1 BR];(have aaE:∀(Q:b8)(t1:u)(cX:eW)(ao:d7)(f bZ x:R)(aed aee l9:aGg)(o:u),u3 H Q cX l a4→afd aL am k.aK Q X cX→aMr Q ao f bZ x aed aee l9→gM.ahh.g2 f bZ x=F→gM.ahh.apX f bZ x=uQ→i=k5 f x o→d3 wn aI (pyIter (nP ao)) (fun gQ ap7=>amv wn aI (.forLoop (aNM id) gQ j [] aL) (fun l s'=>match l with|.ok ac=>aW ac s'|.error d=>cameBackBy wn aI aL bb d s') ap7) bb aPf:=by rw[mY Q t1 cX ao f bZ x aed aee l9 o e4 I eE aeE acH js,mZ aC];subst js;have bQ:=e4.f3;refine qp wpAny_pyIter_range eE aeE ?_;have hM:tc Q.bg ((Q.g' {eY:=p3 "range_iterator",fS:=.aju #[awc f,awc (gM.ahh.apX f bZ x),awc x]}).bg g=c p):=Bv;have L:=bQ.B0 hM;rw[m2 (e4.iU cJ L (bQ.g0 hM)),mY f9];have hP:=bQ.Dy;rw[m1 (U.bg _=B) (by rw[vz a (U.bg Q.eU.c5) (by rw[m2 (bQ.fr.fx _ p a),m5,o6 B9,pe aa])]),mY aav,m1 (bf.bg _=B) (by rw[vz a (bf.bg Q.eU.c5) (by rw[n4 (e4.eX.ix _ p a) o' a5,rl B9,pe a5])]),mY aoM,mX (nI (nI (nI (nI NH s1 aPf cX cX) aB Q.eU.c5 i (k5 f x o)) co B r' r') bJ bJ fl fl bh aN cJ Ab aG iw (Aai aN.fk) B9 (aVi bQ.fr.ns) (fun j x d=>by obtain⟨_,_,V,p,K,_⟩:=e4.gh j x d;exact vK K) aoM aav hP.2 (fun cf h' tk cv m' anY g4 ade=>oJ _ anY (I.ah g4) ade) _ _ (ra _ [] _ t1 _ H l _ f9 (e4.Aa L) hP.1 ⟨aOu,?_⟩ e av)),m1 (f+ob 0*x=f) rb,mY aV,m1 (uQ-ob 0=o) (by kernel_rfl!),mY bj,m6 (uF aFP x),r.ana,aV,bj,←acH,mW zw]);rw[nu,mX aLF ?_ (JZ (by rw[m6 ((16:u)≠7)];decide) _),mX lu.me.aqm (HM cJ.iM ao3 hd (bl.adB.K.g0 (bX.f3.eZ aN)) A1 (bl.adB.g.g0 (bX.f3.eZ aN)) BR ?_)];induction Aa using hG.ae with|C=>rw[wG (Ŝ fK.mk.dB ct),mZ aaE ct];(rw[oc e]);exact qJ Aq (B=c i) aC|s aV aMX=>rw[m3 BV (CB f8)];rintro aNE aNF e hs _ aFZ;refine lu.me.aGL (it aN cJ.iM f8 bX.f3 bX.ok ct fun fM Q t1 cX I bQ bW d9=>?_) (BT hs) (Pw aFZ);replace e4:=aTI;rw[nt (Aag aC),mY J,ri AF,ng];rintro ad9 auf aeE e;rw[m9,mY J,ri BV,ng];rintro f bZ auf sa akd e;rw[m8,mZ ct d9 aC,rP vs [.m ad9] auf,m3 At bW,mZ bW];rintro y cy e;rw[mY J,ri Al,ng,oc aLn,y1,oQ];unfold g2 at aeE;rw[ø aeE,tD (qp call_range_1)];replace hM:tc Q.bg ((Q.g' {eY:=p3 "range",fS:=.aju #[.m 0 t1,.m ad9 aLn,.m 1 (t1+1)]}).bg g=c p):=Bv;replace L:=bQ.B0 hM;(replace acH:gM.ahh.apX 0 ad9 1=nc ad9.es:=by unfold gM.ahh.apX;simp only[aRX (xo>0),fU,R.az3];split;rw[mW (aOw Yy),mW (aOw Yz)]);refine ni aaE 0 _ 1 t1 _ (t1+1) _ (e4.iU cJ L (bQ.g0 hM)) aRM zw ?_ acH e;unfold gM.ahh.g2;rw[acH];simp only[oR (aPa 0),aPa ad9 (m4 ⟨A4 [ad9] aRW b5 (aOe+1) b5 e aeE.1,A4 [ad9] b5 4294967296 vk 1073741824 e aeE.2⟩),oR (aPa 1),aPa (nc ad9.es) (Pc (R.eG (R.agP aeE.2) nw)),N.aen,N.acf,aRX (xo>0),fU,aPa (ad9+(1-1)) (m4 ⟨A4 [ad9] aRW (b5+(1-1)) (aOe+1) b5 e aeE.1,A4 [ad9] (b5+(1-1)) 4294967296 vk 1073741824 e aeE.2⟩),N.ahR];rw[mZ ct d9 aC,rP vs [th,.m bZ,us] auf];obtain⟨y,cy,e,⟨aed,e⟩,fJ,aNr,e,⟨aee,e⟩,eN,aNs,e,⟨l9,e⟩,d⟩:=bW;rw[oQ];unfold g2 at sa akd;simp only[N.c3,kR]at sa akd;refine qp call_range_3 nw ?_ (.bT (oR lu.aKu));replace hM:tc Q.bg ((Q.g' {eY:=p3 "range",fS:=.aju #[.m f aed,.m bZ aee,.m (-1) l9]}).bg g=c p):=Bv;replace L:=bQ.B0 hM;(replace acH:gM.ahh.apX f bZ (-1)=nc (f-bZ).es:=by unfold gM.ahh.apX;simp only[aRX (¬(aP7>0)),abv,R.neg_neg,R.az3];split;rw[mW (aOw YA),mW (aOw YB)]);refine n7 (oM (ni aaE) f) (e4.iU cJ L (bQ.g0 hM)) aRM zw ?_ acH e;unfold gM.ahh.g2;rw[acH];simp only[aPa f (m4 ⟨A4 [f] aRW b5 (aOe+1) b5 e sa.1,A4 [f] b5 4294967296 vk 1073741824 e sa.2⟩),aPa bZ (m4 ⟨A4 [bZ] aRW b5 (aOe+1) b5 e akd.1,A4 [bZ] b5 4294967296 vk 1073741824 e akd.2⟩),oR (aPa (-1)),aPa (nc (f-bZ).es) (Pc (R.eG (R.sub_le_sub (R.agP sa.2) (R.agP akd.1)) nw)),N.aen,N.acf,aRX (¬(aP7>0)),abv,aPa (bZ+(-1+1)) (m4 ⟨A4 [bZ] aRW (aO5 (-1)) (aOe+1) b5 e akd.1,A4 [bZ] (aO5 (-1)) 4294967296 vk 1073741824 e akd.2⟩),N.ahR]
def jI.aiU{V}{b}{X}{h}{y}{cM}{tk}(ft:ê cM):∀{fs}{Aa},aPt fs→jI V b X aS6 (putL Î (jz.keyHash V.dX Î) (.bi Î tk) cM Aa):=tV lj lj (by intro _ l;rw[ub,mW (n7 CH e e e ft e)]) ll fs (by induction ll using fK.ae with|mk f aP=>intro _ l;rw[m3 BW l,mZ l];rintro d cy v e fk aG aJ br;unfold putL;simp only[F',Ga];rw[nH t f h,mZ ih,sA,m1 (d.dx.aa4 _=F) (tL aG HW (aaV _)),m5,vp,c0 aa,mW (nM CH v e fk aG ft br),m1 (¬(d.dx.aa4 _=F)) (by rw[aG,HW,mY a,mW t (Gx (acz a))]),mY a,cH t,cH a,mW CH d _ v e fk aG aJ (ih br)])
def jI.c9{V}{b}{X}:∀{fs}{Aa},aPt fs→Aa.z=fs.z:=tV lj lj (by intro _ l;rw[ub];rfl) ll fs (by induction ll using fK.ae with|mk f aP=>intro _ l;rw[m3 BW l,n2];rintro d cy v e fk aG aJ br;simp[ih br])
def NI{h}{y}:∀{fs},(aS6).z≤fs.z+1:=tV lj lj (by rw[qy]) ll fs (by induction ll using fK.ae with|mk f aP=>simp only[F',Ga];split;simp;rw[m2 ih,m5];simp;omega)
def UU{h j}{y}:∀{fs},j∈(aS6).au (·.1)→j=h∨j∈fs.au (·.1):=tV lj lj (by rw[nR];simp[F',Ga]at b;exact pp b) ll fs (by induction ll using fK.ae with|mk f aP=>rw[nR,sB F' Ga];split at b;exact .bF b;rw[r.gI,r.gA]at b;rw[Œ,oe,m9,oe,m8,mW (rt (by rw[b];simp)),nt ŭ,rd,m9,rd,m8,mW (pp t),mW (rt (nb r.gI (zv t)))])
set_option tactic.hygienic true in
def UV{h}{y}:∀{fs},aNL fs.au→((aS6).au (·.1)).fF:=tV lj lj (by rw[mY _,mW yK]) ll fs (by induction ll using fK.ae with|mk f aP=>rw[nR];rw[r.gI,r.l6]at b;simp only[F',Ga];split;rw[r.gI,r.l6,mW b];rename_i t;rw[r.gI,r.l6,mW ⟨qW (t_ UU a t od),ih qK⟩])
def cT.put2:∀{E}{U}{am}{H}{w}{X}{b h'}(aB:s2){q}{n}{aj}{o'}(ba:wc)(hd:aj=nk∨aj=nh)(abI:aku U am h' H)(lC:∀g p,v0→vd aj→aOR→Ī)(aan:xK h'.bg aj)(l:aNR→mD E.b' E.V E.eR h' X o' n),aNR∧t3 h' X (w.b6 q o'):=by rw[mY E U am H w X b h',mY aB,mY q n aj o',mY ba hd abI lC aan l];(have agT:g6 X.bN aj:=by rw[mZ lC aan,nY hd hd,n8,m9,n8,m8,mW aTj,mW (Cb ba).2]);rw[ou (aB.hP aj agT) cu hL,mX B8 abI.ns fun anp Aa ep aes azH P=>?_];(have axD:aUS (∃o',h'.bg g=c o'):=wd (by rw[aVu,mZ hd lC agT cu hL,sA,mW aan,nH da g am,mZ aB abI lC l hL];subst da;rw[mW ⟨anp,aes⟩,mW (vK (lC g p d t da))]));have j:aNR:=⟨fun g p d nl V=>lC g p d (aQn V agT) nl,axD,fun g p a d=>⟨ş aB.Bd,fun k2 bj=>by rw[mZ aB abI lC l hL,uf];rw[aes]at bj;rw[nf bj,mZ bj,mY bj];subst bj;unfold hK;rw[azH]⟩,aPs,e⟩;rw[mX ⟨j,abI,aB.hC.aiU j ba (fun g cR g1 gW d V=>lC g cR d ?_ (aUv aB.hP)) (l j),aB.hP,fun g t=>⟨(ľ).1,let(xc):=(ľ).2;sq axD⟩⟩,mZ lC aan agT cu hL,n8,nY hd hd,wB,m9,wB,m8,mW g1 a,mW gW a]
def PX:∀{E}{h}{aI}{U}{am}{H}{w}{k}{X}{bb}(bl:p9)(aN:pA)(aB:q4){q x}{fs}{co cM}{j}{y}{aW}(ef:ò n3 co)(d:aSB)(ft:aN5)(b2:E.O.abp x j=F)(aC:fs.z<200)(t:∀h' tk,aU7→t3 h' X (tn (.bS x (abq j y fs)))→zt ()),q6 (dU co (af.bH.dF j) cM):=by injections E h aI U am H w k X bb;intro bl aN aB;injections q x fs co cM j y aW;rw[mY ef d ft b2 aC t,m3 JN (avy aB ef d),mZ ef];rintro n Aa o ba e aV bj alQ cO alg anN;rw[ou (bl.abp x j b2) ok cu];have ag8:=avx ok;rw[m1 (E.M.abK _) (fun f p a=>aN.eZ f p (bl.cL f p a)),mY atf,m1 (sF takerIn=c _) (by unfold takerIn;rw[cu];rfl),mY aiA,m1 ((m7 getL).eF=F) (by(rw[nt (nI alQ.aly h j o o),mY J,nV,ng];rintro _ a;rw[m9,mY J,vW,ng];rintro _ _ _ a _;rw[m8])<;>(simp only[lookIn_dict]at a;rw[a];rfl)),mY ajB,m1 ((ĳ putL).z≤1000) (by rw[m2 (nI jI.aiU h j tk (k.ce+1) ft alQ).c9,mY bW,m2 (pj NI h j y y fs fs),mY fh,bW,mW Am [fs.z,(abq j y _).z] ai 1000 nm 200 ai nm e aC fh]),mY hz];have aD2:U.bg nh=B∧Â nh:=aB.hP _ (Cb ba).2;(have aF4:as3 U am k.aK ((nh,aop Aa o)::adM U k.aK am (fun g=>g==nh)):=fun a hz=>by rw[nt (r.gA.mp hz),n8,m9];rintro hz;rw[m8,mW AE bj aD2.2 aD2.1,mW Dl a hz]);rw[pv (set_dict aB.fr atf aF4 anN e ag8.sa ag8.po aiA ag8.hd ajB e (.mr fun a hz=>?_)) hz h' abI gg,m2 (Ĉ (CM.mp hz)),mY aa,Ă];have aBV:=(gg _ uA).1;rw[ou (nI aB.put2 aj nh o' (.bS x (abq j y fs)) ba yo abI (fun g p a g1 gW=>by induction e3:U.bg g using ap.ae with|c k2=>rw[m2 (aB.fr.fx g _ e3),m5,o6 a,nf aa,mZ aa,m5,uM,mW abI.fx g p e3]|B=>exact(gg _ (aQV (CM.gS (By a gW e3 (o7 g1))))).1) (qn aBV) fun L=>by rw[mX ⟨?_,(nM Bx aBV (by rw[m2 (pj NI h j y y fs fs),mY fh,mW Am [fs.z,(abq j y _).z] ai 300 nm 200 ai nm e aC fh]) ((nI jI.aiU h j tk (k.ce+1) ft alQ).bx L) (UV cO))⟩,m1 (nk≠nh) (qW (by simp only[a,bj]at aV;cases aV)),mY aKr];induction e3:U.bg nk using ap.ae with|c k2=>rw[(aB.hP _ aTj).1]at e3;rw[pe e3]|B=>exact(gg _ (aQV (CM.gS (By aV ((aB.hP _ aTj).2) e3 (o7 aKr))))).1) L c7,mW (nM t L c7)]
def Adu:∀{E}{h}(bl:p9){f j}{cE}(sa:qA)(ahX:pW j),wQ (.dU f cE j):=by rw[đ E,mY bl];injections f j cE;intro sa ahX;injections aI U am dC bf ej aL H mp st l r' w bJ;rw[mY fl k X aW bb aN cJ bG bX av t,o_ Bz VH,mZ bG];rintro p v z1 ag0 bz e ag;rw[qt,m3 Bq ag,mZ ag];rintro dQ dW f8 iw;rw[aQP,tl Cm,mY J,pP y,o3,tl Cm,mY J,tQ afX,wO,tl Cx];rintro q mI av;rw[rP afX n3 mI,tl H9];rintro acl e9 d;rw[mZ av,nu,m3 AC (D8 (cr _ d)),mZ d];rintro e e e;rw[m3 AR (Ge e9)];rintro x fs he gy;rw[m3 Ai (Ct gy)];rintro hc aal;rw[mZ e9 av gy,pD (ap.c.dB aal),ø hc,m1 (aEQ ag0 (c (.aaf p (af.bH.dF cE) z1)) bz.iG aL=km Y) (by clear dW iw;induction ag0 using af.bA.ae<;>(rfl)),mY hs,oM plainObj_exec_Assign_Attribute p _ hs,mX dH (aqf (dH (ahX aN cJ.iM iw bX.f3 bX.ok ct aSF)))];have e4:=bX.iU cJ I bQ;refine dH (kas_attr (aUZ (qp sa) f8 e4.ok gx fun afX h2 d2 g5 L c7 fh=>?_));have f9:=e4.iU cJ L c7;rw[mX (we PX bl aN c7 fh he xD hc.1 hc.2 fun h3 j9 Z ic=>?_),mW fX (oJ H (f9.iU cJ Z ic) ((aRM).ah (f9.Aa Z)) e)]
def j0.aiU{b}{X}{aq}{y}{cM}(ft:ê cM):wC e1 (aPn→aNL e1.au→j0 b X (ab3 aq y i) (ap5 e1 aq cM)):=tV lj lj (by intro _ l _;rw[mZ f,ub,mW Au _ _ e ft e]) ll i (by induction ll using fK.ae with|mk f aP=>intro _ l cO;rw[tR,mZ l];rintro j cy e g x;rw[r.gI,r.l6]at cO;simp only[Kg,Kh];rw[nH t f aq,mZ ih,sA,vp,m1 (ap5 _ f _=(f,cM)::cy) (by unfold ap5;rw[m1 ((((f,j)::cy).dS fun e7=>b1 (e7.1=f))=F) rb,mY Q,c0 Q];simp only[r.gI,fU];rw[uh];(have:∀a∈cy,(ow a.1 f (a.1,cM) a)=a:=fun a hz=>by rw[cH,p0,mW cO.1 (r.fq.gS (Ad a hz d))]);exact abH.ah (g:=cy.au id) (r.aDM aa) (r.aDN _)),mY d,d,mW Au _ _ e ft x,cH t,m2 (ih x cO.2),mY ih,m1 (ap5 _ aq cM=(f,j)::ap5 cy aq _) (by unfold ap5;rw[m1 ((((f,j)::cy).dS fun e7=>b1 (e7.1=aq))=cy.dS fun e7=>b1 (e7.1=aq)) (rA t),mY Q,Q];by_cases a:(cy.dS fun e7=>b1 (e7.1=aq))=F;rw[c0 a,c0 a,r.gI,cH t];rw[cH a,cH a];rfl),p0,d,mW Au j _ e g ih])
def Oa{aq}{y}:∀{i},(ab3 aq y i).z≤i.z+1|[]=>qg|(f,aP)::i=>by simp only[Kg,Kh];split;simp;rw[m2 (pj Oa aq aq y y i i),m5];simp;omega
def M'{o y}:∀{i},(aU3 o).z≤i.z+1|[]=>qg|(f,aP)::i=>by simp only[FZ,F0];split;simp;rw[m2 (pj M' o o y y i i),m5];simp;omega
def jy.c9{b}{X}:wC xs (aPo→xs.z=i.z)|[],_,l=>aSj|ÿ,_,l=>by rw[m3 Co l,n2];rintro f j cy e _ _ _ _ ac;simp[jy.c9 ac]
def jy.aiU{b}{X}{o y}{aiF}{cM}(j6:l4 o=F)(hM:o.im jA=F)(An:de b X o (nP aiF))(ft:ê cM):wC xs (aPo→aNL xs.au→jy b X (aU3 o) (awy xs o aiF cM)):=tV lj lj (by intro _ l _;rw[mZ f,ub,mW (n7 Cn e j6 hM An ft e)]) ll i (by induction ll using fK.ae with|mk f aP=>intro _ l cO;rw[m3 Co l,n2];rintro akB j cy e c6 dn dA ek x;rw[r.gI,r.l6]at cO;simp only[FZ,F0];rw[nH t f o,mZ ih,mZ j6 hM An,sA,vp,m1 (agf ((f,akB,j)::cy) f=c (akB,j)) (rA agf),mY Q,storedH_old Q,m1 (((f,akB,j)::cy).au (asp f cM)=(f,akB,cM)::cy) (by rw[r.gI,uh];simp[asp];(have:∀a∈cy,asp f cM a=a:=fun a hz=>by unfold asp;rw[cH,p0,mW cO.1 (r.fq.gS (Ad a hz d))]);exact abH.ah (g:=cy.au id) (r.aDM aa) (r.aDN _)),mY d,d,mW (n7 Cn e c6 dn dA ft x),cH t,m2 (ih x cO.2),mY ih,m1 (agf ((f,akB,j)::cy) o=agf cy o) (ķ agf (Ó r.amF t)),mY Aw,m1 (awy _ o _ cM=(f,akB,j)::awy cy o aiF _) (by unfold awy;rw[Aw];by_cases a:(agf cy o).eF=F;rw[c0 a,c0 a,r.gI];unfold asp;rw[cH t];rw[cH a,cH a];rfl),p0,d,mW Cn _ j _ e c6 dn dA ek ih])
def XK:∀{b'}{V}{b:b8}{f}{e1}(j:b.aks aVz f e1),aNL e1.au:=by rw[mY b' V b f e1,mY j,mX Co j fun P P P P P P P P cO=>?_,mW cO]
def Q_{b'}{V}{b:b8}{f}{e1}(j:b.aks aVz f e1):∃p,tN f:=by rw[m3 AD j,mY p _ _ d _,mW xc]
def Z3:∀{w bJ}{q}{e7 y}(b:lm w q e7 y=c bJ),(∃i,aUJ∧(l4 e7=F∧e7.im jA=F∧zD)∧bJ=tn (.bE (aU3 e7)))∨(∃i aq,á∧e7=ē∧zD∧bJ=tn aUP)∨∃i aq,yp∧e7=ē∧0≤aq∧aq<i.z∧bJ=tn (.aw (i.b6 aq.es y)):=by injections w bJ q e7 y;rw[nR,Ä lm];induction d:s_ using ap.ae with|B=>rw[pr d,aR3]|c p=>rw[pr d,oA];induction p using c_.ae with|bE i=>rw[ou (qJ Ct ((nK (l4 e7&&(e7.im jA&&zD)) (c (tn (.bE (aU3 e7)))))=c bJ) b) aG b];have aG:=(N.c3 ..).mp aG;have ahx:=(N.c3 ..).mp aG.2;exact .bT (AP i e (AE š ahx.1 (cD ahx.2)) aRl)|bM i=>rw[nD (qJ Cl ((jp e7 fun aq=>nK zD (c (tn aUP)))=c bJ) b) aq f b,mX Bc b fun g b=>?_,mW (rt (.bT (Bx i aq e f g aRl)))]|aw i=>rw[nD (qJ Cl ((jp e7 fun aq=>nK (0≤aq&&aq<i.z) (c (tn (.aw (i.b6 aq.es y)))))=c bJ) b) aq f b,mX Bc b fun g b=>?_];have g:=(N.c3 ..).mp g;exact vM (BU i aq e f (cD g.1) (cD g.2) aRl)|bS=>rw[aR3]
def Z6:∀{E}{h}{aI}{U}{am}{H}{w}{k}{X}{bb}(aN:pA)(aB:q4){q}{e7 y}{n}{kQ cM}{i}{aW}(ba:wc)(An:ř e7 kQ)(ft:aN5)(Ab:aUJ)(aG:l4 e7=F∧e7.im jA=F∧zD)(t:∀h' tk,aU7→t3 h' X (tn (.bE (aU3 e7)))→zt ()),q6 (jl (nP nk) kQ cM):=by rw[mY E h aI U am H w k X bb,mY aN aB,mY q e7 y n kQ cM i aW,mY ba An ft Ab aG t,aS4 l];cases ba.cq.ah dg;obtain⟨bj,aC,xs,hD,aj⟩:=l;rw[m2 (An.dx _ (nj aG)),mY agN,qO e7 ay agO (by rw[m3 AA (id agN),aUi aiF,m1 (aNL xs.au) (by rw[mX Co hD fun P P P P P P P P cO=>?_,mW cO]),mY cO];refine wpAny_setItem_heap (knd:=aVV ac7) aN.apZ (AE š (nj aG) agN) hD (fun h' ajv bh=>?_) (by rw[aj.c9]at⊢;exact aSG);(obtain⟨Z,ic⟩:=aB.Ig (o':=.bE (abn aSh y i)) ba qN bh (aVi ajv) fun Z=>(AE bj (q8 (pj M' o aSh y y i i) (Am [i.z,dv,(abn _ y i).z] a8 ai nm ai a8 nm e (nW aG) aa)) (vT ajv ((jy.aiU š (nj aG) An ft aj cO).bx Z))));exact nM t Z ic) (by cases š)]
def Z7:∀{E}{h}{aI}{U}{am}{H}{w}{k}{X}{bb}(aN:pA)(aB:q4){q}{aq}{y}{n}{kQ cM}{i}{aW}(ba:wc)(An:ò ē kQ)(ft:aN5)(Ab:á)(d9:zD)(t:∀h' tk,aU7→t3 h' X (tn aUP)→zt ()),q6 (jl (nP nk) kQ cM):=by rw[mY E h aI U am H w k X bb,mY aN aB,mY q aq y n kQ cM i aW,mY ba An ft Ab d9 t,aS4 l];cases ba.cq.ah dg;obtain⟨bj,aC,e1,hD,aj⟩:=l;rw[o8 An,mZ An,oc v,m1 ((mu E.b' E.V).is aq (u2 aq)=F) (hZ (e:aq=aq)),mY aG];refine wpAny_setItem_pairs (knd:=aVV mu) aG hD (fun h' ajv bh=>?_) (nb aj.z aSG);rw[ou (aB.Ig (o':=aUP) ba qN bh (Q_ ajv) fun Z=>(AE bj (q8 (pj Oa aq aq y y i i) (Am [i.z,dv,(ab3 aq y i).z] a8 ai nm ai a8 nm e d9 aa)) (vT ajv ((j0.aiU ft aj (XK hD)).bx Z)))) Z ic,mW (nM t Z ic)]
def Z9:∀{E}{h}{aI}{U}{am}{H}{w}{k}{X}{bb}(aN:pA)(aB:q4){q}{aq}{y}{n}{kQ cM}{i}{aW}(ba:wc)(An:ò ē kQ)(ft:aN5)(Ab:yp)(cQ:0≤aq∧aq<i.z)(t:∀h' tk,aU7→t3 h' X (tn (.aw (i.b6 aq.es y)))→zt ()),q6 (jl (nP nk) kQ cM):=by rw[mY E h aI U am H w k X bb,mY aN aB,mY q aq y n kQ cM i aW,mY ba An ft Ab cQ t,mX BW (Dv aB (Ad n ba e) Ab) fun cw xs o dg d K aC cy=>?_,aNZ,mZ d,nf dg,mZ dg,mY dg,xg,o8 An,mZ An,oc v,m2 (wx cy.z),mY aV];unfold dv at aC;rw[mX ki_setAt K cQ.1 (m4 (oa A5 [aq,↑i.z] b5 9223372036854775808 b5 d4 d4 1048576 e cQ.2 (Bb aC))) (nb aV cQ.2) ?_,ou (nI aB.GF l' (i.b6 aq.es y) h' (k.aK.ae2 nk (k_.avK (·.setIfInBounds aq.es cM))) Ab ba (b8.aaR.ae2 ..) (af.asX.ae2 K _) (by rw[r.apv,ya];omega) (fun Z=>nb fE.toList_setIfInBounds ((ed.b6 ft _ cy).bx Z))) Z ic,mW (nM t Z ic)]
def Ws:∀{E}{h}(bl:p9){aI}{U}{am}{H}{w}{k}{X}{bb}(aN:pA)(aB:q4){q}{e7 y}{co kQ cM}{bJ}{aW}(ef:ò n3 co)(An:ř e7 kQ)(ft:aN5)(aJ:lm w q e7 y=c bJ)(t:∀h' tk,aU7→t3 h' X bJ→zt ()),q6 (jl co kQ cM):=by rw[đ E,mY bl];injections aI U am H w k X bb;intro aN aB;injections q e7 y co kQ cM bJ aW;rw[mY ef An ft aJ t,p4 ef,mZ ef,ö];rcases Z3 aJ with⟨i,Ab,aG,e⟩|⟨i,aq,Ab,e,aG,e⟩|⟨i,aq,Ab,e,bf,Q,e⟩;rw[mW Z6 aN aB ba An ft Ab aG t,mW Z7 aN aB ba An ft Ab aG t,mW Z9 aN aB ba An ft Ab ⟨bf,Q⟩ t]
def Adv:∀{E}{h}(bl:p9){f o j}(sa:qA)(aaL:pW o)(ahX:pW j),wQ (.jl f o j):=by rw[đ E,mY bl];injections f o j;intro sa aaL ahX;injections aI U am dC bf ej aL H mp st l r' w bJ;rw[mY fl k X aW bb aN cJ bG bX av t,o_ Bz VI,mZ bG];rintro p q z1 ag0 bz e ag;rw[qt,m3 Hz ag,oK];rintro dQ dW f8 iw aaP;rw[tl Cm,mY J,pP y,o3,tl Cm,mY J,tQ aa8,wO,tl Cx];rintro am3 mI av;rw[rP aa8 (.D am3) mI,tl Cm,mY J,aRO e7 acl];rintro e9 av;rw[tl H9];rintro aMk gy d;rw[mZ av,nu,nu,aPZ e e (D8 (cr c d)),m1 (aEQ ag0 (c (.aak p q z1)) bz.iG aL=km Y) (by clear dW aaP;induction ag0 using af.bA.ae<;>(rfl)),mY hs,mX wpAny_Assign_Subscript (ahX aN cJ.iM aaP bX.f3 bX.ok ct aSF) hs];have e4:=bX.iU cJ I bQ;refine aUZ (qp sa) f8 e4.ok gx fun afX h2 d2 g5 L c7 fh=>?_;have f9:=e4.iU cJ L c7;refine we aaL aN cJ.iM iw f9.f3 f9.ok e9 fun kQ h3 j9 abG Z ic k4=>?_;have k':=f9.iU cJ Z ic;exact wl Ws h3 j9 bl aN ic (fh.bx Z) k4 ((bW.bx L).bx Z) gy fun h4 aNx x4 ame=>oJ H (k'.iU cJ x4 ame) (((aRM).ah (f9.Aa Z)).ah (k'.Aa x4)) e
def Adb:∀{E}{h}(bl:p9){f j}{cE}{p}(sa:qA)(ahX:pW j),wQ (.agg f cE p j):=by rw[đ E,mY bl];injections f j cE p;intro sa ahX;injections aI U am dC bf ej aL H mp st l r' w bJ;rw[mY fl k X aW bb aN cJ bG bX av t,o_ HE Vy];rintro cR v z1 f' ag0 bz e ag;rw[qt,mX Bq ag fun dQ dW f8 iw=>?_,aQP,pD (Mm dW),oi,nu,mY J,pP aa8,o3,tl Cx,mZ av,mY q mI av,rP aa8 n3 mI,m3 AR (Ge av),mZ av,mY x fs he av,m3 Bc av,nu,mY b2 av,oi,nu,mY hJ aC av,tl Cl,nu,mY aJv jb av,rP hJ (.m aJv) jb,oi,nu,mY J,tQ aGI,wO,tl Cl,nu,mY aJw dt av,rP aGI (.m aJw) dt,oi,nu,mY apq ahB av,pv AU av acl e9 d,m3 AC (D8 (cr _ d))];rintro e e e;rw[mX AR (Ge e9) fun c' aMZ auP gy=>?_,mX Bc gy fun hc aal=>?_,pD (ap.c.dB aal),aUb hc hc,pD (cD hc.1)];have d9:=cD hc.2;refine wpAny_AugAssign_AttributeAny (sa aN cJ.iM f8 bX.f3 bX.ok ct fun afX Q t1 cX I bQ bW=>?_);have e4:=bX.iU cJ I bQ;rw[mX (qp Ma bl aN bQ bW he b2 aC fun co d2 ef=>?_),o8 ef,mZ ef,oc aed,mX (aUZ (wl ahX Q d2) iw e4.ok gx fun aF h2 j9 g5 L c7 fh=>?_),o8 fh,mZ fh,oc aee];have f9:=e4.iU cJ L c7;have cW:∀tk awP,d3 wn aI (dU afX (af.bH.dF cE) (.m apq awP)) (nO (aW na)) bb (yR h2):=fun tk awP=>nI PX y (.m apq) k (yR h2) bl aN c7 xD auP (qS awP) b2 d9 fun h3 j9 Z ic=>t _ h3 j9 g5 H (f9.iU cJ Z ic) ((aRM).ah (f9.Aa Z)) e;clear dW bG ag;(induction p using adG.ae<;>simp only[ath,ap.c.fV]at ahB<;>first|clear t d aal e9 gy cW av;cases ahB;done|skip);clear t d aal e9 gy av;subst ahB;rw[mW iadd_int (m7 cW),mZ t d aal e9 gy av];subst ahB;exact isub_int (m7 cW)
def jJ.gone:∀{E}{U}{am dC}{bf b h'}{ej cI}{aL}{mp}{H}{l}{w}{aj}(cJ:aUN)(bX:u3 H b cI l w)(dt:b8.al9 aj b h')(Ak:∀p,tN aj→hK p=F→¬ka cI aj)(mQ:aO2 aj)(adh:Â aj)(ajt:aQr aj)(acP:aj∉cI.fL)(kA:bf.bg aj=B)(agy:∀j x,uZ x→x≠aj),u3 H h' cI l w:=by rw[mY E U am dC bf b h' ej cI aL mp H l w,mY aj,mY cJ bX dt Ak mQ adh ajt acP kA agy];have jn:j1 b h' cI cI:=⟨fun g p d hs no=>by rw[aVu,mZ dt mQ adh ajt acP kA agy,sA,mW (Ak p d hs no).az,mW ⟨dt g p t d,no⟩],fun P P d=>d⟩;rw[mX ⟨bX.f3.arl dt Ak mQ adh ajt acP,fun ab aq f b0 aiB br=>?_,JR bX.eX kA dt,fun ab x d=>?_⟩,nD (bX.ok ab aq f b0 aiB br) aP cc aeU,mX Ad aP ?_ (aeU.AS jn),nY cc cc,mY J,nV,ng];rintro V cc;rw[m9,mY J];rcases J with(⟨V,x,p,aV,bj,cV,gp,ky⟩);rw[m8,nY cc cc];rintro cc;rw[m9,mY J,nV,ng];rintro jm _;rw[m8,mW (zi V (pp cc)),mW (t_ jm cJ.aeM),mW .bF (qd V (BU x p aV bj cV (dt x p (agy ab x aV) gp) ky))];obtain⟨f,bZ,V,p,K,aol⟩:=aOZ bX.gh;exact(AE f bZ (AI V p (dt x p (aOZ agy) K) aol))
def Ada:∀{E}{h}{q}{gD kF}{gP}{eH}(aeX:pW kF)(l8:pW gD)(a':p_ aga gP),wQ (.age q (.go gD eH kF gP)):=by injections E h q gD kF gP eH;intro aeX l8 a';injections aI U am dC bf ej aL H mp st l r' w bJ;rw[mY fl k X aW bb aN cJ bG bX av t,o_ AD N5,mZ bG];rintro v V z1 e ag;rw[qt,pv AC ag dQ P dW,mZ P,mZ ag];(obtain⟨jN,g9,x,n,e⟩:∃jN g9 x n,V=.aff jN g9 x n:=by rw[mX F7 (Kf dW) fun P P P P P P P d P=>?_,mW (uF Hv d)]);rw[zd Fq dQ,mZ dQ];rintro id pt e Ab aG;rw[aV8 y,o3];replace t:=t.to av;obtain⟨aGH,alm⟩:∃g,aEQ (.aff jN g9 x n) (c (.kM id pt)) z1.iG aL=km g:=u0;rw[u9 aGH (by rw[mX aLD (PR aeX l8 a' aN cJ.iM dW bX.f3 bX.ok ct aSF) alm,mW (qp GQ cJ aTI Ab aG bW fun h2 d2 c4 f9 L=>oJ _ f9 ((aUB).ah L) e)]) (by rw[m3 F7 (Kf dW),mZ dW,mY aMT j mS gQ fs c' aNo d ag];injection d with I L Z x4;rw[pi,qD];subst Z;subst x4;rw[m1 (kF≠wz) (qW (by rw[mZ aeX ag,uf,pv Ay ct P b P,mW (aRb b)])),mY cU,m2 (by rw[qt,mW aP8]),mY as2,uF exec_Assign_Name_used alm,mX dH (aqf (dH ?_)),m6 (d3 _ aI (do let _←sk aGR x _ Y (m7 adc) _) _ _ k),mX dH (aqe (nI MN use (c (ci (.kM id pt) aL)) aW (fun P s'=>aW na s') aeX l8 a' aN cJ.iM ag (KM as2 cU) bX.f3 bX.ok ct fun a0 aD h' tk cv aaD g4 j3 r' cu gE f2 i2 aet=>?_) (fun P s' cG=>fX (fX cG)) fun P P d=>d),m2 (bX.iU cJ g4 j3),mY e4];(have aB5:∀ab ig,aL.hr.cm ab=c ig→ig≠aD:=fun ab ig d a=>by obtain⟨_,_,V,p,K,_⟩:=bX.gh ab ig d;rw[a,gE]at K;rw[pe K]);rw[m6 (m7 (sk d3 aI)),mX awV (wl GQ h' tk cJ e4 Ab aG r' fun h2 d2 c4 f9 L=>?_),m1 (¬(aD=am∨∃j,uZ aD)) (qW (a.az i2 fun⟨j,J⟩=>aB5 j aD J e)),mY apF];(have ahA:h2.af7 aD aaD:=by rw[m3 AD cu,mY p Aa ep d cy,mW A9 p _ _ (L.fx aD p d apF f2) cy]);rw[mX Ad aaD ahA (fun h3 bh=>?_),m1 (bf.bg aD=B) (by rw[vz a (bf.bg aD) (by rw[n4 (bX.eX.ix _ p a) o' a5,rl gE,pe a5])]),mY aoM,m1 (aD∉cv.fL) (nb g4.fL (bX.f3.DY gE).2),mY acP];(have agU:∀p,h2.bg aD=c p→hK p=F→¬ka cv aD:=fun p d a=>by rw[m3 B8 ahA,mY o' Aa ep a5 aj _,rl d,nf a5,yQ,mY a5,vL];unfold hK at a;rw[aj]at a;rw[wN a]);rw[m2 (jJ.gone cJ f9 bh.az8 agU f2 i2 aet acP aoM aB5),mY k',mW (p5 t d2 _ k' (JS ((bX.Aa g4).ah L) gE bh) e)])]
set_option backward.match.sparseCases true
abbrev ah9(aL:af.du)(mp:wU):t4 nq (r (ck→bv aGj))|[],a'=>a'=[]|q::is,a'=>∃v hQ id,a'=v::hQ∧yi mp.cm q∧(yi aL.h_ yY∨yi aL.h_ .gh)∧(∀(ag:aF2)(aI:lT)(bb:ux)(aW:t7 aGj)(k:en)(y:ck),v2 (aEK aL id y)→v2 (v y))∧ah9 aL mp is hQ
def ah9.asw{aL}{mp}{q}{v}{id}(Q:yi mp.cm q)(h2:yi aL.h_ yY∨yi aL.h_ .gh)(h3:∀(ag)(aI)(bb)(aW)(k)(y),v2 (aEK aL id y)→v2 (v y)):∀{is}{a'},ah9 aL mp is a'→ah9 aL mp (is++[q]) (a'++[v])|[],_,b=>by rw[pq,mW CH v _ _ e Q h2 h3 e]|aq::is,_,b=>by rw[m3 BW b,om];rintro iu hQ aM6 e f g x aj;exact(CH _ (hQ++[v]) _ e f g x (ah9.asw Q h2 h3 aj))
def PW{q}{y}:∀{is}{vs}{l},aaK (is++[q]) (vs++[y]) l=(aTp).au (ue (t.b6 q qu))|[],[],l=>e|[],aP::vs,l=>(by rw[oT vs (by rfl) V vs (by rfl)])|aq::is,[],l=>by induction is using r.ae<;>rfl|aq::is,aP::vs,l=>by rw[m6 (aaK (is++[q]) (vs++[y]) _=_),PW];rfl
def PV{q}{y}:∀{is}{vs}{l},q∉is→aaK is vs (Ÿ qu)=(aTp).au (ue (t.b6 q qu))|[],[],l,_=>e|[],tq,l,_=>e|tq,[],l,_=>e|aq::is,aP::vs,l,b=>by rw[m1 (sU aq) (aQn b uA),mY Q,m6 (aaK _ vs _=(aaK _ vs _).au _),nv r.awj Q,PV fun a=>b (zv a)]
def PU:∀{is}{vs}{l},is.fF→is.z=vs.z→aaK is.aba vs.aba l=aTp|[],[],l,_,_=>e|aq::is,aP::vs,l,cO,aC=>by simp only[r.l6]at cO;rw[r.apY,r.apY,PW,PU cO.2 (by simpa using aC),m6 (_=aaK _ vs _),PV cO.1]
def PT:∀{is}{vs}{l r'},aTp=c r'→is.z=vs.z|[],[],_,_,_=>e|_::is,_::vs,l,r',b=>by rw[m2 (nI PT is is vs vs b),m5];simp[aa]
def jh{E}{U}{am dC}{bf}{ej}{aL}{mp}{X}{w}{ag}{aI}{bb}{r'}{s0:en}(cJ:aUN):∀(is)(a')(ajj)(vs)(H)(b)(tk)(l)(aW),ah9 aL mp is a'→u3 H b X l w→ed b X ajj vs→aaK is ajj l=c r'→(∀h' tk m',u3 m' h' X r' w→afd aL am b h' X X→aW () {s0 with aK:=h',ce:=tk})→d3 ag aI (axI a' vs) aW bb {s0 with aK:=b,ce:=tk}|[],a',ajj,vs,H,b,tk,l,aW,st,bX,ft,d,t=>(by subst st;induction ajj using r.ae with|s _ _=>rw[sQ d]|C=>subst ft;rw[p2 d,pi,mW fX (t b _ H bX bX.ER)])|q::is,a',ajj,vs,H,b,tk,l,aW,st,bX,ft,d,t=>by rw[m3 BW st,mZ st];rintro v hQ id e Q h2 h3 h4;rw[oT ajj (by rw[sQ d]) f ajj (by rw[m3 At ft,mZ ft];rintro y CK e gr cy;rw[m1 (aaK is _ _=c _) d,mZ d,mY d,m6 (d3 ag aI (m7 aCR>>=nO (m7 axI)) aW bb _),mX dH (ae9 (m7 (ni h3) (GQ (k:={s0 with aK:=b,ce:=tk}) cJ bX Q h2 gr fun h' ap8 m' anY g4=>?_))),mW jh cJ is hQ ajj CK m' h' ap8 _ aW h4 anY (cy.bx g4) d fun aoL aLm aKg aGd aLU=>t aoL aLm aKg aGd (g4.ah aLU)])]
def P_{aL}{mp}:∀{is}{a'},alV mp aL.d_ is a'=F→ah9 aL mp is ((ams a' aL).au (·.2))∧qo ams a' aL=is.z∧(ams a' aL).findIdx? (·.1)=B|[],[],_=>(AE e e e)|q::is,v::a',ag=>by replace ag:(aeJ mp aL.d_ q v&&alV mp aL.d_ is a')=F:=ag;rw[qt,zd Fq rX];rintro id n e Q h2;rw[rf (P_ x_) f g x,m1 (ams (aNM id::a') aL=(Y,m7 ci)::m7 ams) e,mY d,d,mX AE (n7 CH e Q h2 (fun ag aI bb aW k y V=>awV V) f) (rA g) ?_,r.findIdx?_cons,cH (by simp),x];rfl
abbrev aiN(aL:af.du)(iG:u)(d:af.bA):ap af.bH:=if b:d.eP=23 then af.bA.kM.az (fW:=p' (ap af.bH)) d b (fun id bs=>nK (aL.h_ id==c yY&&bs.iG==iG) (c id))else B
def OT{aL}{mp}(iG):∀{is}{a'},alV mp aL.d_ is a'=F→(a'.adW (aiN aL iG)).z=a'.z→ah9 aL mp is.aba ((a'.adW (aiN aL iG)).aba.au fun h=>bindName aL h)|[],[],_,_=>e|q::is,v::a',ag,aC=>by replace ag:(aeJ mp aL.d_ q v&&alV mp aL.d_ is a')=F:=ag;rw[qt,zd Fq rX];rintro id n e Q h2;by_cases a:(aL.h_ id==c yY&&n.iG==iG)=F;(have d:(af.bA.kM id n::a').adW (aiN aL iG)=id::a'.adW (aiN aL iG):=by simp only[r.aoD,show aiN aL iG (aNM id)=c id from c0 a]at⊢);simp only[d]at aC⊢;simp only[r.apY,r.apY,r.ahL];refine ah9.asw Q h2 (fun ag aI bb aW k y V=>wpAny_bindName V) (OT iG x_ ?_);simpa using aC;rw[m1 ((af.bA.kM _ n::a').adW (m7 aiN)=a'.adW _) (by rw[r.aoD,show aiN aL iG (aNM id)=B from cH a]at⊢),mY d];simp only[d]at aC;rw[m2 (r.length_filterMap_le (aiN aL iG) a'),m5];simp only[r.kZ]at aC;exact BZ (Am [(m7 r.adW).z,a'.z] 1 0 nN S S ai e (AN aC) aa)
set_option tactic.hygienic true in
def Lg{cg gn asM:Type}{x}[ah1 x]{g h}{ac:gn→cg}{ao:t4 gn asM}(o:¬x→(g=h∨∃j ab,g=ac j∧ao j ab)):(if x then h else g)=h∨∃j ab,(if x then h else g)=ac j∧ao j ab:=by by_cases b:x;rw[mW .bT (c0 b),cH b,mW o b]
def Ab3:∀{y}(b:awD y=F)(a')(o)(n)(aL),aEP [.ac5 a' o n] y aL=km B∨∃bw iG,aEP [.ac5 a' o n] y aL=km (c bw)∧bw.z=a'.z∧bw=a'.adW (aiN aL iG):=by injections y;rw[nR];injections a' o n aL;induction y using af.bA.ae with|ac5 vs hM dG=>replace b:(!(vs.db (aGS 8))&&!(vs.db (aHo 8)))=F:=b;rw[sB N.c3 N.alH];delta aEP;dsimp only;rw[mX Lg fun ψ=>Lg fun ψ=>Lg fun cu=>?_,od,qK,mX .bF ⟨_,_,e,?_,cr (fun ac=>a'.adW ac) (funext (nF (by induction j using af.bA.ae<;>rfl)))⟩,mW ah1.adP fun t=>cu (N.anq.2 (.bT (ay9.2 t)))]|_=>exact qN
def Ady:∀{E}{h}{is}{f}(sa:qA),wQ (.acg is f):=by rw[mY E h is f,mY sa,mY aI U am dC bf ej aL H mp st l r' w bJ,mY fl k X aW bb aN cJ bG bX av t,o_ Bz VJ,mZ bG];rintro a' z1 bz ag0 e3 e ag;rw[ø ag,mX Hz ag fun dQ dW f8 iw aaP=>?_,aV8 aDJ,o3,tl IS,nu,mY i jN av,rP aDJ o9 jN,pv AU av bW aiw d,m3 AC (D8 (cr _ d)),mZ av d];rintro e e e;rw[m1 (swapsWithSole [.ac5 a' z1 bz] ag0 e3.iG aL=km Y) (by clear ag dW f8 aaP;induction ag0 using af.bA.ae<;>(rfl)),mY hs];simp only[exec_Assign_arm];rw[zn aqf,hs,zn fX,aSt,mX dH (sa aN cJ.iM aaP bX.f3 bX.ok ct fun cM Q t1 cX I bQ ft=>?_)];have e4:=bX.iU cJ I bQ;rw[m3 Bt ft,mZ ft];rintro ad cR xs o e no d hc hd aC cy;rw[aTm aV cy.z,rf (P_ (mp:=mp) dQ) a1 a2 a3];have d9:=PT aiw;have aDr:∀{h2:b8},b8.al9 Q.eU.c5 Q h2→tc Q.bg (w4 h2.bg):=fun dt g p d=>dt g p (qW (by simp only[a,B9]at d;rw[pe d])) d;rw[nt (Ab3 f8 a' z1 bz aL)];rintro ei;rw[m9,mY J,vW,ng];rintro bw iG ei au3 ahA;rw[m8,ei,zn fX,m6 (m7 (sb d3 (do assignAll _ [m7 ci];km _) _)),tD dH,m6 (m7 (sb d3 (sF ci) _))];simp only[arm_assign_Tuple];rw[zn aqf,mX (qp af.wpAny_unpack_tuple aN.fk aRq (by rw[a2,d9,aV]) a3 ?_),mY h2 dt];have agN:=aDr dt;have L:=bQ.B0 agN;rw[m2 (e4.iU cJ L (bQ.g0 agN)),mY f9];exact jh (s0:=k) cJ _ _ i _ H _ t1 l _ a1 f9 (cy.bx L) aiw fun h3 j9 afR k' Z=>fX (oJ _ k' ((aRM).ah Z) e);rw[ei,zn fX,m1 (bw.z=xs.c5) (by rw[au3,aV,←d9,←a2,mZ au3 ahA ei a1 a3 aiw d9];(have:∀(a':r af.bA),qo ams a' aL=a'.z:=fun a'=>qb a' (by rfl) v a' (by induction v using af.bA.ae<;>(rw[m6 ((_::m7 ams).z=_)];simp[ih])));exact wv aa _),mY aiu,m6 (m7 (sb d3 (do rule _;let eD←sF unpackItems;axI (bw.aba.au fun h=>bindName _ h) _;km _) _)),mX dH (aLP (dH ?_)),aiu,mX (qp af.wpAny_unpackItems_tuple aN.fk aRq ?_),mY h2 dt];replace agN:=aDr dt;replace L:=bQ.B0 agN;rw[m2 (e4.iU cJ L (bQ.g0 agN)),mY f9,m2 (OT (mp:=mp) _ dQ (by rw[←ahA,mW au3])),mY st];rw[←ahA]at st;refine dH (oM (jh (s0:=k)) cJ _ H _ t1 l _ st f9 (cy.bx L).aba (nb (PU iw d9) aiw) fun h3 j9 afR k' Z=>fX (oJ _ k' ((aRM).ah Z) e))
set_option backward.match.sparseCases false
def Np{cg gn:Type}(ac:cg→gn):∀(i:Ë)(aq),(i.au ac).aub aq=(i.aub aq).au ac|[],_=>e|tq,0=>e|wM,xj=>rA (Np ac i aq)
def jy.del{b}{X}{o}{n}:∀{i}{xs}{aq},aPo→aNL xs.au→Ã xs=c (o,n)→jy b X (aep o i) (xs.aub aq):=tV lj lj (by intro _ aq l _ d;rw[mZ f,ub];simp at d) ll i (by induction ll using fK.ae with|mk f aP=>intro _ aq l cO d;rw[m3 Co l,n2];rintro akB j cy e c6 dn dA ek x;rw[r.gI,r.l6]at cO;rw[uL aq (by clear ih;simp only[r.aoJ,ap.c.fV,fK.mk.fV]at d;rw[m3 Ai d,oA];(rintro e _);rw[EL,vp,mW x]) aq (by simp only[r.agv]at d;have dw:f≠o:=qW (cO.1 (r.fq.gS (Ad (o,n) (r.lI d) a.cq)));simp only[EL,cH dw,r.eraseIdx_cons_succ];exact(Cn _ j _ e c6 dn dA ek (ih x cO.2 d)))])
def TZ{o}:∀{i},qo aep o i≤i.z:=tV lj lj (by exact yk) ll i (by induction ll using fK.ae with|mk f aP=>simp only[EL];split;simp;rw[m2 ih,m5];simp;omega)
def T6:∀{b'}{V}{aI}{bb}{k}{aj f}{o}{xs}{aW}(cK:aI.in1.ib+100<mj)(ao1:(ac7 b' V).is k.aK o f)(bK:k.aK.asT (ac7 b' V) aj xs)(avh:(agf xs o).eF=F)(acH:xs.z≤af0)(t:∀aq n h' tk,Ã xs=c (o,n)→h'.asT (ac7 b' V) aj (xs.aub aq)→b8.aaR aj k.aK h'→zt ()),aSC (delItem (nP aj) si):=by injections b' V aI bb k aj f o xs aW;intro cK ao1 bK avh acH t;have h1:=bK.ae1;rw[mX Co bK fun p Aa ep ho hc hd he aCD cu=>?_,mX aLH h1 nw af.aN.aK7 (awW af.aN.aK7 h1 af.aN.entry_dict_delitem ?_ (m7 af.aN.args_dict_delitem_2))];unfold gM.«dict.__delitem__»;rw[tD dH];unfold gM.ah2.dictSlotArgs;rw[mX dH (wpAny_notOrdered_dict h1 ?_),Ŏ (km _),tD fX,Ŏ (gM.ah2.takeOut aj _>>=_)];unfold gM.ah2.takeOut;rw[zn ae9,mX dH ((ac7 _ V).av7 cK ao1 ?_),mX dH (nI wpAny_dictFind_heap knd (ac7 _ V) k (aNP (k.ce+(ac7 _ V).at4 o)) cK ao1 ho hd he aCD cu ?_ ?_),mY ajH];rw[atKey_none_of_get ajH]at avh;cases avh;rw[mY aq n cQ,mX dH (wpAny_dictEntries (k:=aNP (k.ce+(ac7 _ V).at4 o)) ho hd ?_),entry_at he aq,cQ,m1 (Aa.c5≤af0) (nb (aK1 he) acH),mY ak9,mX dH (aVe (nI wpAny_updateDictKeys hz ak9 k (aNP (k.ce+(ac7 _ V).at4 o)) ho hd)),mX dH (aLM (fX (Ad _ e (t aq n _ _ cQ (n7 Cn (b8.get?_update_self _ ho (k_.isFreed_of_dict (k_.aGY hd _))) (hc.mapDictKeys _) (k_.aGY hd _) ?_ ?_ ?_) (b8.aaR.ae2 ..)))))];(have ao0:aq<Aa.c5:=nb (aK1 he) (aOA cQ));rw[fE.auc,azY ao0,fE.aLq,he,Np,tr,mW (ac7 _ V).g0 (aCD j (r.mem_of_mem_eraseIdx J)) ho hd (b8.aaR.ae2 ..),mW (r.axr.au _ (r.eraseIdx_sublist ..)).nodup cu]
def T7:∀{b'}{V}{aI}{bb}{k}{i ec}{abE}{lo}{o}{aW}(aC:k.aK.bg i=c (ahI #[] o))(hs:k.aK.aqs ec abE .B .B)(Av:asY abE lo)(t:∀h',b8.aaR i k.aK h'→h'.bg i=c (ahI #[] o)→aW () (aU6 h')),aSC (delItem (nP i) (nP ec)):=by injections b' V aI bb k i ec abE lo o aW;intro aC hs Av t;have hL:k.aK.aje i #[]:=(AP _ aC e (qS o));refine AF (id hs) fun os aiv auM afD=>?_;have arq:k.aqC (nP ec) "slice":=(Ad os aiv auM);rw[mX aLH hL.ae1 nw af.aN.aK9 (awW af.aN.aK9 hL.ae1 af.aN.entry_list_delitem ?_ (m7 af.aN.args_list_delitem_2)),Ŏ (gM.r.aJ8 _>>=_),tD dH];unfold gM.r.aJ8;refine dH (aLQ arq slice_no_index ?_);dsimp only[ap.aJK,fU];rw[tD fX,Ŏ (typeOf _>>=_),mX dH (aLT arq ?_),aSt];rw[listSliceParts_eq,mX dH (dH (aqd aiv afD (j:=.B) e (dH (aFd .B ?_)))),qJ cH (¬((rawPart B==awc 0)=F)) N.aoC,mX dH (aqd aiv afD (j:=abE) e (dH (aFd Av ?_))),mX dH (aqd aiv afD (j:=.B) e (dH (aFd .B (fX ?_)))),tD (dH (H:=gM.r.aJ7 _))];unfold gM.r.aJ7;rw[mX dH (aVe (aFf aC e)),mX dH (aLO (sliceIndices_raw _ B B _ (by simp)) ?_),zn aLP,tD dH,m6 (m7 (sb d3 (updateSeq i _) _)),mX aFg aC e ?_ aOu aOu,mX dH (aLM (fX (Ad _ e (t _ (b8.aaR.ae2 ..) ?_)))),mW af.asX.ae2 aC _]
def T5:∀{w bJ}{q}{o}(b:aq3 w q o=c bJ),∃i,aUJ∧(l4 o=F∧o.im jA=F∧(kx o i).eF=F)∧bJ=tn (.bE (aep o i)):=by rw[mY w bJ q o,nR,nD (J4 b) i f b,mX Bc b fun g b=>?_];have g:=(N.c3 ..).mp g;exact(AP i f ⟨g.1,(N.c3 ..).mp g.2⟩ aRl)
def Adh:∀{E}{h}{f o}(sa:qA)(aaL:pW o),wQ (.agn f o):=by injections E h f o;intro sa aaL;injections aI U am dC bf ej aL H mp st l r' w bJ;rw[mY fl k X aW bb aN cJ bG bX av t,o_ AA VB,mZ bG];rintro p q z1 bz e ag;rw[aSL,mZ ag];intro _ ag;rw[qt,aV8 aa8,o3,tl Cx,nu,mY am3 mI av,rP aa8 (.D am3) mI,oi,nu,mY J,tQ e7,wO,pv AU av acl e9 d,mZ av,m3 AC (D8 (cr _ d)),mZ d];rintro e e e;rw[m3 AF (T5 e9),mZ e9];rintro i Ab aG e;refine aLE (aLI (aLK (sa aN cJ.iM rX bX.f3 bX.ok ct fun afX Q t1 cX I bQ bW=>?_)));have e4:=aTI;rw[mX (aUZ (qp aaL) x_ e4.ok gx fun kQ h2 d2 g5 L c7 fh=>?_),mZ gx];have f9:=e4.iU cJ L c7;rw[so bW.bx L,mZ bW,ö,nD (c7.hC.at Ab) cw dg ef,mZ Ab,aNZ,nf dg,mZ dg,mY dg,xg];obtain⟨bj,aC,xs,hD,aj⟩:=ef;have agN:=fh.dx jA (nj aG);rw[qO e7 ay agO (by rw[m3 AA (id agN),mZ fh,aUi aiF];(have cO:aNL xs.au:=by rw[mX Co hD fun P P P P P P P P cO=>?_,mW cO]);rw[mX (nI T6 k aVZ o aSh aN.apZ (AE š (nj aG) agN) hD ?_ (nb aj.c9 aSG) fun aq aNp h3 j9 cQ aB9 awh=>?_),nt (aj.ahK aSh),mY J,nV,ng];(rintro a _);rw[m9,mY J,ri B8,ng];(rintro fD dE g4 _ a _);rw[m8];have:=nW aG;rw[o6 a];cases aa;rw[a];rfl;(rw[ou (c7.Ig (o':=.bE (aep aSh i)) ba qN awh (aVi aB9) fun Z=>(AE bj (qC (by have:=nI TZ o aSh i i)) (vT aB9 ((aj.del cO cQ).bx Z)))) Z ic]);exact aLJ (oJ H (f9.iU cJ Z ic) ((aRM).ah (f9.Aa Z)) e)) (by cases š)]
def Adg:∀{E}{h}{f o}(sa:qA)(aaL:pW o),wQ (.amB f o):=by rw[mY E h f o,mY sa aaL,mY aI U am dC bf ej aL H mp st l r' w bJ,mY fl k X aW bb aN cJ bG bX av t,o_ Bz VA,mZ bG];rintro p lo z1 bz e3 e ag;rw[qt,oi,nu,mY J,pP aa8,o3,tl Cx,nu,mY am3 mI av,rP aa8 (.D am3) mI,oi,nu,mY J,tQ aJQ,wO,pv AU av acl e9 d,nu,m3 AC (D8 (cr _ d)),oA];rintro e e e;rw[nD (Cl e9) aq akQ gy,mZ e9,rP aJQ ē akQ,nD (Gf gy) i Ab aal,mX Bc aal fun aG ate=>?_,mZ aal,mZ gy,pD (ap.c.dB ate),aUb aG aG,pD (r.alr.mp š),mX aLE (aLI (aLK (sa aN cJ.iM rX bX.f3 bX.ok ct fun afX Q t1 cX I bQ bW=>?_)))];have e4:=bX.iU cJ I bQ;refine dH (aUZ (qp aaL) x_ e4.ok gx fun kQ h2 d2 g5 L c7 fh=>dH (ae9 (fX (dH (aVe ae9)))));have f9:=e4.iU cJ L c7;rw[o8 fh,mZ fh,oc v,mX (we GO c7 fun s' P Aa Z ic=>?_),mZ P];subst Aa;have k':=f9.iU cJ Z ic;rw[m3 BW (Dv ic ((bW.bx L).bx Z) Ab),mZ bW];rintro n xs aNa ba e K aC cy;rw[m1 (xs=#[]) (by rw[m2 cy.z,m5];apply fE.aEW.mp;exact r.eq_nil_of_length_eq_zero aa),mY aJs];subst aJs;rw[mX (wl T7 (h2.g' (af1 (u2 aq) .B .B)) d2 K (b8.aqs.lJ ..) (u2 aq) fun h4 bh CV=>?_),wG (ic.GF (l':=[]) Ab ba bh CV aOu fun x4=>cy.bx x4),mY x4 ame,m1 (dm.b6 _ nx=dm) (by rw[mX r.aig fun a=>?_,nH t am3 a,sA,m2 (aOA Ab),mY jf,r.akY jf,Ab];rw[r.agx t]),mY auw];simp only[auw]at ame;exact aLJ (p5 t d2 H (k'.iU cJ x4 ame) (((aRM).ah (f9.Aa Z)).ah (k'.Aa x4)) e)
def W8{gn:Type}{h f}{y}{i:aOx gn}(b:(h==f)=F):((f,y)::i).cm h=c y:=tg (ţ (((f,y)::i).cm h=(match h==f with|F=>qu|Y=>i.cm h))) b
def W7{gn:Type}{h f}{y}{i:aOx gn}(b:(h==f)=Y):((f,y)::i).cm h=i.cm h:=tg (ţ (((f,y)::i).cm h=(match h==f with|F=>qu|Y=>i.cm h))) b
def AdL{bw:r af.bH}:∀{vs:vm},bw.fF→bw.z=vs.z→∀h∈bw,((bw.k8 vs).cm h).eF=F:=qb bw (by rw[mY vs _ _ h b,mW eh b r.mz]) f bw (by rw[mY vs cO aC h b,oT vs (by exact u.cs aC) y vs (by rw[nH t h f,mW (uU (W8 (lb.gS t))),mW (uU (W7 (acw t))).ah (ih (r.l6.mp cO).2 (u.gk.dB aC) h ((r.gA.mp b).aEt t))])])
def UO{cg gn:Type}{ac K:vH cg gn}:∀i:Ë,(∀h∈i,ac h=K h)→i.adW ac=i.adW K:=tV i i (by intro _;rfl) j i (by rw[nR,r.aoD,r.aoD,b j uA,ih fun h cu=>b h (zv cu)])
def AdM:∀{bw:r af.bH}{vs:vm},bw.fF→bw.z=vs.z→bw.adW (fun h=>((bw.k8 vs).cm h).au (h,·))=bw.k8 vs:=tV bw bw (by intro vs _ b;(rw[oT vs (by rfl) _ _ (by exact u.cs b)])) f bw (by rw[mY vs cO aC,oT vs (by exact u.cs aC) y vs (by rw[r.l6]at cO;rw[m2 (ih (vs:=vs) cO.2 (u.gk.dB aC)),mY ih];simp only[r.aL3,r.aoD];rw[aRY r.aa6 aaV,mX (uU (abH.ah (UO _ fun h cu=>?_) ih)),m1 ((h==f)=Y) (acw fun a=>cO.1 (a▸cu)),mY aeT,aeT])])
def Abx:∀{ag}{aI}{bb}{k}{aj}(hd:aj=.B∨∃O p eD o,aj=nP O∧aUy O∧p.fS=.ia eD o),d3 ag aI (seqItems? aj) (fun P s'=>s'=k) bb k:=by rw[mY ag aI bb k aj,mY hd,nY hd hd,n8,tp (by rw[ri JO])];rintro O p eD o e d a;rw[m8,mW fX e,mW aFf d a e]
def OE{ag}{aI}{bb}{k}{dc}{aW}:∀(i:aOx ck),(oG i ((dc.cm sz).eF=F))→aW dc k→v2 (arf i dc (fun j l=>wA (r.cm sz l).mM (km (amb.anC (l++[(sz,j.2)]))) (km (amb.anC l))))|[],_,t=>fX t|wM,b,t=>by rw[r.arg,m2 (b j uA),mY J,m1 (¬((m7 r.cm).mM=F)) (by rw[ap.am6,mY a];rw[a]at J;injection J),mY cu,cH cu,mW dH (fX (OE i (aOd (b ab (zv b0))) t))]
def Kk{ag}{aI}{gn}{g}{j ab}{aW:t7 gn}{bb}{k}(b:g=Y)(o:d3 ag aI ab aW bb k):v2 (wA g j ab):=nb (cH (qW (N.cs (b.cq.ah a)))) o
abbrev aEf(fd:amc):amc:={fd with dX:={fd.dX with asn:=[],asE:=B,apr:=[],arZ:=B}}
def ZO{fd}(Q:fd.dX.asn=[])(h2:fd.dX.asE=B)(h3:fd.dX.apr=[])(h4:fd.dX.arZ=B):aEf fd=fd:=by induction fd using amc.ae with|mk cB jV dX aqX d_ aoK at1 dV kV mm pm an jL ac8 lc=>induction dX using al4.ae with|mk po atq ac0 aJZ A2 aJ0 ds=>rw[m1 (po=[]) Q,mZ Q,mY Q,m1 (ac0=B) h2,mZ h2,mY h2,m1 (aJZ=[]) h3,mZ h3,mY h3,m1 (aJ0=B) h4,mZ h4,mY h4];subst Q h2 h3 h4;rfl
def RZ:∀{k}{fd}{vs}{ag}{aI}{bb}{aW}(cO:(fd.dX.eb.au (·.iX)).fF)(aC:rH fd.dX.eb.au (·.iX)=vs.z)(hd:fd.iL=.B∨∃O p eD o,fd.iL=nP O∧aUy O∧p.fS=.ia eD o)(cG:aW ((fd.dX.eb.au (·.iX)).k8 vs) k),v2 (ay6 (aEf fd) (yX vs)):=by injections k fd vs ag aI bb aW;intro cO aC hd cG;have hE:=AdL cO aC;rw[zn fX,mX dH (aqe (Abx hd) (fun at1 s' d=>?_) (wb j j)),mZ hd,oQ];(have gW:∀o,(r.afu (fun h=>(r.cm h ((r.au (nF j.iX) fd.dX.eb).k8 vs)).mM) (r.gu o (r.au (nF j.iX) fd.dX.eb)))=[]:=fun o=>by rw[mX r.aHj.gS fun h cu a=>?_,m2 (hE h (r.aDQ cu)),mY v];rw[ap.am6.mp a]at v;exact yW v);rw[m1 ((b1 (vs.z>(r.au (nF j.iX) fd.dX.eb).z)&&(B:ap aL6).mM)=Y) (q0 (sr (r.au (nF j.iX) fd.dX.eb).z vs.z aC) (jq (u.apy _))),mY g1,m3 Kk g1,m3 Kk (cr (fun i:r _=>aPV) (gW _)),mX dH (OE _ (fun j J=>hE _ (r.aDP (r.avY J).1)) ?_),zn fX,m3 Kk e,mW fX (abH.gS (cr (te (aW i _)) ((uU (r.afl _)).ah (AdM cO aC))) cG)]
def RY:∀{k}{fd}{vs}(Q:fd.dX.asn=[])(h2:fd.dX.asE=B)(h3:fd.dX.apr=[])(h4:fd.dX.arZ=B)(cO:(fd.dX.eb.au (·.iX)).fF)(aC:rH fd.dX.eb.au (·.iX)=vs.z)(hd:fd.iL=.B∨∃O p eD o,fd.iL=nP O∧aUy O∧p.fS=.ia eD o),aFo k fd (yX vs) ((fd.dX.eb.au (·.iX)).k8 vs):=by intro k fd vs Q h2 h3 h4 cO aC hd ag aI bb aW cG;rw[←ZO Q h2 h3 h4]at⊢;exact RZ cO aC hd cG
def Hh:∀(bw)(h)(ajh:aOx d7)(lo:u),lo≤h→(∀n∈ajh,lo≤nh∧nh<h)→ajh.ahg (fun j ab=>j.2≠ab.2)→(∀n∈aqW h bw ajh,lo≤nh)∧(aqW h bw ajh).ahg (fun j ab=>j.2≠ab.2)|[],h,ajh,lo,_,b,ba=>⟨fun n cG=>(b n cG).1,ba⟩|(j,A2)::bw,h,ajh,lo,aC,b,ba=>by unfold aqW;split;rw[mX Hh bw nB ((j,h)::ajh) lo (u.ahH aC) (fun n cG=>?_) ?_,nt (r.gA.mp cG),n8,m9];rintro cG;rw[m8,mW ⟨aC,u.aiI _⟩,mW ⟨(b n cG).1,u.lt_succ_of_lt (b n cG).2⟩];simp only[r.apS];rw[mW ⟨fun n cG=>wv u.ahM (b n cG).2,ba⟩,mW Hh bw h ajh lo aC b ba]
def Ps{kd:aOx d7}(ba:kd.ahg (fun j ab=>j.2≠ab.2)){j ab}{x}(J:(j,x)∈kd)(b0:(ab,x)∈kd):j=ab:=qb kd (by cases J) n kd (by simp only[r.apS]at ba;rw[nt (r.gA.mp J)];rintro aV;rw[m9];rintro Q;rw[m8,nt (r.gA.mp b0)];rintro bj;rw[m9];rintro h2;rw[m8];simp only[←aV]at bj;rw[mW (rz (fK.mk.dB bj).1),m2 (ba.1 _ h2),mY aa];rw[←aV]at aa;rw[mW (t_ aa e),nt (r.gA.mp b0)];rintro bj;rw[m9];rintro h2;rw[m8,m2 (ba.1 _ Q),m5];rw[←bj]at aa;rw[mW (t_ aa e),mW ih ba.2 Q h2])
def MH{azh}:∀{kd}{hr}{j}{x},aMe azh kd hr→rR kd.cm x→∃p,(x,p)∈hr∧p.fS=.gh (azh j):=by intro kd hr j x l;induction l with|C=>rw[nR,mW Aq b]|@s h c' p kd hr hd l ih=>rw[nR,xh r.aa6,nH t j h,mZ ih,sA,pr aaV,nf b,om,mY b,pq,mW Ad p uA hd];rw[acw t]at b;rw[nD ŭ o' f g,mW (ql (zv f) g)]
def Mc{A2}{j}:∀(bq)(H),j∉bq.au (·.1)→akF A2 bq H j=H j|[],_,_=>e|(h,y)::bq,H,b=>by unfold akF;rw[Mc bq _ (qW (b (zv a))),m1 (j≠h) (aQn b uA),mY t];split;simp[t];rfl
def Mb{A2}{j}:∀(bq)(H),j∉bq.au (·.1)→an6 A2 bq H j=H j|[],_,_=>e|(h,y)::bq,H,b=>by unfold an6;rw[Mb bq _ (qW (b (zv a))),m1 (j≠h) (aQn b uA),mY t];split;rfl;simp[t]
def I5{A2}{j}{y}(aG:rR A2 .local):∀(bq)(H),aNL bq.au→rR bq.cm y→akF A2 bq H j=c y|(h,aP)::bq,H,cO,b=>by simp only[r.gI,r.l6]at cO;unfold akF;rw[nH t j h,sA];simp only[r.aa6,aaV,ap.c.fV]at b;rw[pq,nv Mc cO.1,c0 aG];simp;rw[m1 ((j==h)=Y) (o7 t),mY aeT,sB r.aa6 aeT,mW I5 aG bq _ cO.2 b]
def I4{A2}{j}{y}(aG:A2 j≠c yY):∀(bq)(H),aNL bq.au→rR bq.cm y→an6 A2 bq H j=c y|(h,aP)::bq,H,cO,b=>by simp only[r.gI,r.l6]at cO;unfold an6;rw[nH t j h,sA];simp only[r.aa6,aaV,ap.c.fV]at b;rw[pq,nv Mb cO.1,cH aG];simp;rw[m1 ((j==h)=Y) (o7 t),mY aeT,sB r.aa6 aeT,mW I4 aG bq _ cO.2 b]
def QE{bw:r af.bH}{vs}:∀{q:u}{j}{y:ck},bw.fF→op bw j→op vs y→(bw.k8 vs).cm j=c y:=by induction bw generalizing vs with|C=>rw[mY q j y _ b,Đ]|s f bw ih=>intro q j y cO Q h2;simp only[r.l6]at cO;rw[oT vs (by simp at h2) aP vs (by simp only[r.aL3];rw[uL q (by simp only[r.aoJ,ap.c.fV]at Q h2;subst Q h2;simp) q (by simp only[r.agv]at Q h2;rw[m1 (j≠f) (aQn cO.1 (r.lI Q)),mY t,m1 ((j==f)=Y) (o7 t),mY aeT];simp only[r.aa6,aeT];exact ih cO.2 Q h2)])]
mutual
def de.eJ{b:b8}{X:eW}:∀{f:ar}{y:ck},de b X f y→f.eJ X.bN.z=F|.B,_,_=>e|vq,_,_=>e|xk,_,_=>e|uW,_,_=>e|o9,_,l=>by rw[Ø,n2];(rintro f p xs h e no d hc hd aC t);rw[m6 (ar.abd _ i=F),mW ed.eJ t]|q2,_,l=>by rw[Ø,n2];(rintro f p xs h e no d hc hd aC t);rw[m6 (ar.abd _ i=F),mW ed.eJ t]|n3,_,l=>by rw[m3 Ac l,n2];rintro n d e;simpa[Fx,Fy,Fz,FA,FB,FC,FD]using aOA d
def ed.eJ{b:b8}{X:eW}:∀{i:nC}{vs:vm},yA→ar.abd X.bN.z i=F|[],_,_=>e|qi,_,l=>by rw[tR,n2,aPh];simp only[Eu,Ev,N.c3];exact⟨de.eJ f,ed.eJ g⟩
end
structure ag9(cI X:eW):Prop where
 bN:∃d,cI.bN=X.bN++d
 fL:X.fL=cI.fL
def ag9.hP{X cI}(j:aTq){f}(b:ka cI f):ka X f:=by rw[uy j.bN d he,mW ⟨ue (od (nb he (Dz.gS (pp t)))),nb j.fL qK⟩]
mutual
def de.mx{b:b8}{X cI:eW}(j:aTq):∀{f:ar}{y:ck},f.eJ X.bN.z=F→de b cI f y→de b X f y|.B,_,_,l=>l|vq,_,_,l=>l|xk,_,_,l=>l|uW,_,_,l=>l|o9,_,aP,l=>by rw[Ø,n2];(rintro f p xs h e no d hc hd aC t);exact(Cs f p _ h e (j.hP no) d hc hd aC (ed.mx j aP t))|q2,_,aP,l=>by rw[Ø,n2];(rintro f p xs h e no d hc hd aC t);exact(Cs f p _ h e (j.hP no) d hc hd aC (ed.mx j aP t))|n3,_,aP,l=>by rw[m3 Ac l,mZ l];rintro n d e;rw[uy j.bN bj he,m2 (by simpa[Fx,Fy,Fz,FA,FB,FC,FD]using aP),mY Ab];rw[he,r.jP Ab]at d;exact(Ad n d e)
def ed.mx{b:b8}{X cI:eW}(j:aTq):∀{i:nC}{vs:vm},ar.abd X.bN.z i=F→ed b cI i vs→yA|[],_,_,l=>l|tq,_,aP,l=>by rw[tR,n2,aPh,aR4 Eu Ev aP,mW Au y _ e (de.mx j aP.1 f) (ed.mx j aP.2 g)]
end
def j0.eJ{b}{X}:wC e1 (aPn→(aN2 (aTA nh))=F)|[],_,_=>e|ÿ,_,l=>by rw[m3 At l,n2];rintro j cy e g x;simp only[r.aem,j0.eJ x,g.eJ];rfl
def j0.mx{b}{X cI}(j:aTq):wC e1 ((aN2 (aTA nh))=F→j0 b cI i e1→aPn)|[],_,_,l=>l|ÿ,_,aP,l=>by rw[tR,n2];rintro ab cy e g x;simp only[r.aem,N.c3]at aP;exact(Au ab _ e (g.mx j aP.1) (j0.mx j aP.2 x))
def jy.eJ{b}{X}:wC xs (aPo→(aN2 (aTA nk&&aTA nh))=F)|[],_,_=>e|ÿ,_,l=>by rw[m3 Co l,n2];rintro f ab cy e g x aj d ac;simp only[r.aem,jy.eJ ac];simp[aj.eJ,d.eJ]
def jy.mx{b}{X cI}(j:aTq):wC xs ((aN2 (aTA nk&&aTA nh))=F→jy b cI i xs→aPo)|[],_,_,l=>l|ÿ,_,aP,l=>by rw[m3 Co l,n2];rintro f ab cy e g x aj d ac;rw[aR4 r.aem N.c3 aP,mW Cn f ab _ e g x (aj.mx j aP.1.1) (d.mx j aP.1.2) (jy.mx j aP.2 ac)]
def jI.eJ{b}{X}{V}:wC Aa (aPt i→(aN2 (aTA nh))=F)|[],_,_=>e|ÿ,_,l=>by rw[m3 BW l,n2];rintro d cy v e f g x aj;simp only[r.aem,jI.eJ aj,x.eJ];rfl
def jI.mx{b}{X cI}{V}(j:aTq):wC Aa ((aN2 (aTA nh))=F→jI V b cI i Aa→aPt i)|[],_,_,l=>l|ÿ,_,aP,l=>by rw[m3 BW l,n2];rintro d cy v e f g x aj;simp only[r.aem,N.c3]at aP;exact(CH d _ v e f g (x.mx j aP.1) (jI.mx j aP.2 aj))
def mD.eJ:∀{b}{X}{b'}{V}{eR}{p}{n}(l:mD b' V eR b X p n),p.eJ X.bN.z=F:=by rw[mY b X b' V eR p n,mY l];induction p using c_.ae with|aw i=>(obtain⟨_,_,_,_,_,t⟩:=l);exact t.eJ|bE i=>(obtain⟨_,_,_,_,t⟩:=l);exact t.eJ|bM i=>(obtain⟨_,_,_,_,t⟩:=l);exact t.eJ|bS x fs=>obtain⟨_,_,_,_,_,t,_⟩:=l;exact t.eJ
def mD.mx:∀{b}{X cI}{b'}{V}{eR}(j:aTq){p}{n}(aP:p.eJ X.bN.z=F)(l:mD b' V eR b cI p n),mD b' V eR b X p n:=by injections b X cI b' V eR;intro j;injections p n;intro aP l;induction p using c_.ae with|aw i=>(obtain⟨f,xs,h,d,aC,t⟩:=l);exact qd f (Au _ h d aC (t.mx j aP))|bE i=>(obtain⟨f,aC,xs,hD,t⟩:=l);exact(AE f aC (vT hD (t.mx j aP)))|bM i=>(obtain⟨f,aC,e1,hD,t⟩:=l);exact(AE f aC (vT hD (t.mx j aP)))|bS x fs=>obtain⟨f,Aa,h,d,aC,t,cO⟩:=l;exact qd f (Bx _ h d aC (t.mx j aP) cO)
def Y'{h}:∀{w a4}{q:u}{f g},adu h w a4=F→op w f→op a4 g→f=g∨g.eJ h=F:=tV w w (by rw[mY a4 q f g _ aV,mW Aq aV]) j w (by rw[mY a4 q f g b aV bj,oT a4 (by rw[sT]) ab a4 (by replace b:=N.fY.mp b;rw[uL q (by rw[p2 aV,pi,p2 bj,pi,mW (N.anq.mp od).imp_left cD]) q (by exact ih qK aV bj)])])
def Pg{h}:∀{w a4},adu h w a4=F→w.z≤a4.z|[],_,_=>aOu|_::w,_::a4,b=>by simp only[Gz,GA,GB,N.c3]at b;rw[m2 (Pg qK),m5];simp;omega
def cT.cF{E}{U}{am}{H}{b bf}{X cI}{w a4}(axp:aaj E.b' E.V E.eR bf X w)(aB:t3 b cI a4)(j:aTq)(ok:adu w.z w a4=F):cT E U am H b X (a4.gu w.z):=by rw[uy j.bN d he];have d9:X.bN.z=w.z:=axp.c9;rw[m2 (Pg ok),mY b7,mX ⟨aB.fr,⟨?_,fun q p n f g=>?_,?_⟩,fun g t=>aB.hP g (nb he (Dz.gS (pp t))),fun g t=>aB.lx g (uq j.fL t)⟩,d9,r.aiG];omega;(have Ab:q<w.z:=q8 (r.gF.mp g).1 (aQM (aV6 [X.bN.z,r.z w,q]) (Az d9) aa));rw[r.aBZ Ab]at f;rw[m1 (op cI.bN n) (tL he (r.jP (m4 (Am [X.bN.z,r.z w,q] (a8+1) S ai S (a8+1) ai e (AN d9) Ab))) g),mY bZ,m2 (aB.hC.D q p n f bZ),mY l];(have aM:op w w[q]:=rA Ab);rw[m1 (p.eJ _=F) (by rw[nt (Y' ok aM f),wB,m9,wB,m8,←a,mW (axp.D q _ n aM g).eJ,d9,mW a]),mY aP,mW l.mx j aP,m2 aB.hC.akE,m5];rw[he,r.aKH]at aa;exact aa.1
set_option backward.match.sparseCases true
structure aFG(E:iJ)(f:d7)(fn:dk)(cB jV:af.bH)(dX:al4)(bD:r af.ee)(d_:kq)(dV kV mm pm jL ac8 aZ:ck)(an acQ:ap d7)(aj9:fE (ap ck)):Prop where
 ho:E.M.cm f=c ⟨aZ,acQ,.akW aWo,aj9⟩
 aqX:codeIn E.M jL jV=F
 dN:dX.asn=[]
 dG:dX.asE=B
 fH:dX.apr=[]
 aiR:dX.arZ=B
 eb:dX.eb.au (·.iX)=(fn.bw.au af.bH.dF).gu fn.c8
 atq:fn.c8≤fn.bw.z
 cO:(fn.bw.au af.bH.dF).fF
 ahF:oG (dX.eb.au (·.iX)) (rR d_.bw.cm .local∨rR d_.bw.cm .gh)
 azf:((aqW 0 d_.bw []).au (·.1)).fF
 aj2:oG d_.bw (j.2≠.ht)
 co:d_.aJH=Y
 gen:d_.aJI=Y
 cA:d_.cA=.abV
 dflt:dV=.B∨∃O p eD o,dV=nP O∧E.M.cm O=c p∧p.fS=.ia eD o
 bD:acO E.K (ajX fn) d_ fn.bD bD=F
abbrev ah4(E:iJ)(f:d7)(fn:dk):Prop:=∃cB jV dX bD d_ dV kV mm pm jL ac8 aZ an acQ aj9,aFG E f fn cB jV dX bD d_ dV kV mm pm jL ac8 aZ an acQ aj9
def Fb:∀{fn}{j}{q}(b:(ajX fn).cm j=c q),op (fn.bw.au af.bH.dF) j:=by injections fn j q;rw[nR,m2 (abz b),mY bK];unfold ajX at bK;obtain⟨aq,cQ,d⟩:=r.aB0 bK;rw[r.getElem_zip]at d;rw[ou (fK.mk.dB d) aV bj];rw[r.getElem_range]at bj;clear b bK d;subst bj;rw[←aV];(have adk:aq<fn.bw.z:=by simp at cQ;exact cQ);simp[adk]
structure ajb(E:iJ)(h:u)(aI:lT)(U:b8)(am:d7):Prop where
 fk:aI.auA=B
 eZ:tc E.bf.bg (w4 U.bg)
 ap4:∃anG eX ahs aka,aFn anG eX aka U∧aI.aun=c (ahs::aka)∧ahs.frame=c am∧ahs.d_.cA=.abV
 i1:aI.i1+3*h+8<alO
 ib:aI.ib+12*h+391<mj
def gV.x{E}{h}{aI}{U}{am}(aN:pA):ajb E h aI U am:=⟨aN.fk,aN.eZ,aN.ap4,q8 aN.i1 (oa Ag [aI.i1,h,alO] (ro S 3+8) a8 (ro S 3+10) a8 e aa),q8 aN.ib (oa Ag [aI.ib,h,mj] (S+(tC ai)+391) a8 (S+(tC ai)+400) a8 e aa)⟩
def ajb.j{E}{h}{aI}{U}{am}(aN:ajb E nB aI U am):pA:=⟨aN.fk,aN.eZ,aN.ap4,q8 aN.i1 (oa Ag [aI.i1,h,alO] (ro S 3+10) a8 (S+(x3 3)+8) a8 e aa),q8 aN.ib (oa Ag [aI.ib,h,mj] (S+(tC ai)+400) a8 (S+(a6.H _ nN)+391) a8 e aa)⟩
abbrev ahi(E:iJ)(h:u)(ac:u):Prop:=∀{aI:lT}{U:b8}{am:d7}{H:r8}{w bJ:ch}{vs:nC}{fM:vm}{y:ar}{k:en}{X:eW}{lW:t7 aGc},ajb E h aI U am→q4→aQm vs fM→aOY (bc E.O E.hU h ac vs w)→(∀cM h' tk cv,aSY→aVP→de h' cv y cM→lW (.ok (s6 cM)) (yR h'))→amv wn aI (.bp (Ñ E.ij ac) (yX fM)) lW k
def Aaz:∀{O}{cf}{fn}{vs}{w bJ}{y}(b:aOY (aiV O cf fn vs w)),vs.z=fn.c8∧∃fl bW a4,b4 O cf fn.bD (aTJ fn.dc fn.c8) w=c (fl,bW,a4)∧aOY (if fn.cF then(nK (adu w.z w a4&&(aht fl).eJ w.z) (c (aht fl,a4.gu w.z)))else c (aht fl,a4)):=by injections O cf fn vs w bJ y;rw[nR,mX Bc b fun f b=>?_,y0 f,pI aj fn.cF (by rw[pr aj,m3 Ay b,mY J];(rcases J with(⟨fl,bW,a4⟩));(rintro g b);exact(A9 _ _ _ g b)) (by rw[pr aj,m3 AU b,mY J];rcases J with(⟨fl,bW,a4⟩);rintro g b;exact(n7 A9 g (cr c b)))]
def SU:∀{E:iJ}(bl:p9){h:u}{ac:u}{fn:dk}(b2:aU8 E.hU)(ok:ah4 E aTZ fn)(bh:p_ adK fn.bD),ahi E nB ac:=by injections E;rw[mY bl,yb ac fn,mY b2 ok bh];injections aI U am H w bJ vs fM y k X lW;rw[mY aN aB ft av t,m2 aN.j,mY anL,mX HC ok fun cB jV dX bD d_ dV kV mm pm jL ac8 aZ an acQ aj9 ao=>?_,m1 (aOY (aiV E.O aWv fn vs w)) (by rw[m1 (aOY (match(generalizing:=false)E.hU ac with|c fn=>aiV E.O aWv fn vs w|B=>B)) av,m5,o6 b2,mW aa]),nu,mY av];obtain⟨aoR,fl,bW,a4,ct,av⟩:=Aaz av;rw[mX ES aN.ap4 fun anG eX ahs aka anH iN abX auV=>?_,m1 (E.M.abK U) (fun f p a=>aN.eZ f p (bl.cL f p a)),mY atf,m2 (bl.adB.g0 aN.eZ),mY agb];have afC:fM.z=vs.z:=ft.z;(have aru:rH dX.eb.au (·.iX)=fM.z:=by rw[ao.eb,r.aiG,r.hN,afC,aoR,m2 ao.atq,m5,mW u.ani aa]);(have abZ:(dX.eb.au (·.iX)).fF:=nb ao.eb (r.axr.nodup (r.aLj ..) ao.cO));rw[m1 (aFo k aWo (yX fM) aVx) (by refine RY (fd:=aWo) ao.dN ao.dG ao.fH ao.aiR abZ aru ?_;rcases ao.dflt with(a|⟨O,p,eD,o,f,g,x⟩);rw[mW (pp a),mW (rt (Hw O p eD o f (nv (aB.M bl anL) g) x))]),mY auI];(have aav:((aVx).au (·.1))=dX.eb.au (·.iX):=nb r.aKj (u.fp aru));rw[m1 (((aVx).db fun ab=>d_.bw.cm ab.1==c yY||d_.bw.cm ab.1==aP1)=F) (by rw[r.hp,mY ab b0,m1 (ab.1∈dX.eb.au (·.iX)) (r.avY b0).1,mY bK];(rw[nt (ao.ahF ab.1 bK),wB,m9,wB,m8])<;>simp[a]),mY aIx,m1 (aI.i1<alO) (q8 aN.i1 (oa Ag [aI.i1,h,alO] S a8 (S+(x3 3)+8) a8 e aa)),mY aI3,mX (pj (nI (nI code_defC M E.M n E.n) li E.li aaF E.aaF) mg E.mg mb E.mb aj1 (aTs k.aK) anH aB.fr atf Dl agb iN abX auV ao.ho ao.aqX aI3 auI aIx ao.azf ?_ ao.co ao.gen ao.cA),mY K jH Q tk hr aja abI gg ael aFm aMF aMB lt];have aB1:tc U.bg (w4 K.bg):=aja.fx;rw[mX B8 aB.fr.ns fun anp aMY aMW aes azH P=>?_,mX B8 aja.ns fun ano aHg aHb aif atV P=>?_];have auq:tc K.bg (g<jH):=wd (u.k0 (b8.and d) abI.atg);(replace alU:tc k.aK.bg (g<jH∧(aOR→w4 Q.bg)):=wd (by induction a:U.bg g using ap.ae with|c k2=>rw[m2 (aB.fr.fx g k2 a),m5,o6 d,nf aa,mZ aa,m5,uM,mW ⟨auq g p (aja.fx g p a),nO (abI.fx g p (aja.fx g p a))⟩]|B=>rw[nH da g am,mZ aN aB t anL abX aja gg lt aes];subst da;exact⟨auq g _ aif,fun V=>t_ V e⟩;replace bK:(g,p)∈aTs k.aK:=CM.gS (By d da a e);exact⟨lt _ bK,nO (gg _ (r.ar8 _ bK)).1⟩));have as1:Q.bg am=c ano:=abI.fx am ano aif;(have jn:gb am k.aK Q X X:=by rw[mX ⟨fun g p d acP P=>(sq alU).2 acP,fun g p d=>?_,fun g p a d=>⟨ş aB.Bd,fun o' a5=>?_⟩,aPs,e⟩,nH da g am,mZ aN aB t anL abX aja gg lt aes aif alU];subst da;rw[mW ⟨ano,as1⟩,mW (vK ((sq alU).2 da)),mZ aN aB t anL abX aja gg lt aes aif alU,uf,rl as1,nf a5,mZ a5,mY a5,vL];unfold hK;rw[atV]);(have aIs:∀g,Ŋ→K.bg g=B∧vd jH:=fun g V=>by rw[m3 Al (aB.hC.ahJ g V),mY p d,ou (aB.hP g V) jm adD];have:=gg (g,p) (r.ar8 _ (CM.gS (By d adD jm e)));exact⟨nW aa,nj aa⟩);have bQ:cT E K jH (akF (aPM).h_ aVx (nO B)) Q X w:=⟨abI,aB.hC.g0 jn fun g p V d=>jn.fx g p d (aUv aB.hP)|>qW ((sq alU).2 (aUv aB.hP)),aIs,fun g V=>⟨(aB.lx g V).1,let(xc):=aUv aB.lx;sq jn.ix⟩⟩;(have akV:∀g,jH≤g→k.aK.bg g=B:=fun g aoU=>by rw[vz d (k.aK.bg g) (by exact eh (sq alU).1 (u.mO.gS aoU))]);(have aHt:∀g,jH≤g→K.bg g=B:=fun g aoU=>by rw[vz d (K.bg g) (by exact eh (sq auq) (u.mO.gS aoU))]);have aD4:∀g,jH≤g→ka X g:=fun g aoU=>aB.DY (akV g aoU);have cl:=oa Hh d_.bw jH [] jH yk (fun n ba=>aWr) .C;have agF:∀j x,(aPM).hr.cm j=c x→jH+1≤x:=fun j x d=>cl.1 (j,x) (abz d);have aj2:∀j,d_.bw.cm j≠c .ht:=fun j d=>ao.aj2 _ (abz d) e;(have iM:ma aPM d_:=by rw[mX ⟨ao.cA,e,e,fun j d=>d,fun j d=>d,fun j d=>d,fun j d=>?_⟩,nY d d,y1,m9,y1,m8,mW ap.als.mp (azg d_.bw (jH+1) [] (pp d)),mW (aj2 j d).az]);rw[m1 (ah3 E K jH am k.aK X aPM (ajX fn)) (by rw[mX ⟨iM,e,akV jH yk,⟨anp,aes⟩,fun V=>(aB.hP am V).2 e,fun j x d=>(AE (akV x (u.ajS aVl)) (u.alF aVl) (aHt x (u.ajS aVl))),fun j ab x aV bj=>Ps cl.2 (abz aV) (abz bj),fun j ab q aV bj=>?_⟩,m2 (Fb aV),mY z1,m2 (Fb bj),mY bz];rw[z1]at bz;exact ap.c.dB bz),mY cJ,m1 (gV E h (aI.deeper aPM) K jH) (by rw[mX ⟨aN.fk,wd (aB1 g p (sq aN.eZ)),(EO aI eX _ (ahs::aka) aFm (lT.aHr iN) e ao.cA),?_,?_⟩,m2 aN.i1,m5,m6 (aI.i1+1+3*h+10<_),mW (oa Ag [aI.i1,alO,h] (sn nm 3 a8+10) ai (S+(tz 3 pR)+8) ai e aa),m2 aN.ib,m5,m6 (aI.ib+3+12*h+400<_),mW (oa Ag [aI.ib,h,mj] (ro wP 12+400) a8 (S+(x3 12)+391) a8 e aa)]),mY asU];(have aoc:∀j x,(aPM).hr.cm j=c x→∃p,Q.bg x=c p∧p.fS=.gh (an6 (aPM).h_ aVx (nO B) j):=fun j x d=>by rw[m3 Ac (MH ael d),mY p a1 a2,mW Ad p ((gg _ (r.alA _ a1)).1) a2]);rw[m1 (jJ E K jH am k.aK X aPM (ajX fn) (akF (aPM).h_ aVx (nO B)) Q X (aTJ fn.dc fn.c8) w) (by refine⟨bQ,fun j q hJ J aG br=>?_,jn,fun j x d=>?_⟩;(have Ab:q<vs.z:=by rw[y5 a vs.z,mW a];rw[Ó r.aih a]at br;rw[r.aHw]at br;split at br<;>cases br);rw[Ó r.jP Ab,r.adg]at br;rw[so ap.avL.mp br,mZ br,mY dE gj a5,nf a5,yQ,mY a5,vL,nD (ft.i3 gj) fD ab1 awe,m2 (Fb J),mY abt];(have afz:(aVx).cm j=c fD:=by rw[mX QE abZ ?_ ab1,ao.eb,r.aBZ (m4 (aQM (aV6 [vs.z,fn.c8,q]) (Az aoR) Ab)),mW abt]);rw[mX Ad fD ?_ (awe.bx jn)];rcases aG with aG|aG|aG;rw[mW (zi aG (pp (wy (I5 aG _ _ (nb aav abZ) afz)))),m3 Al (iM.hr j (pp aG)),mY x hc,m3 Ac (aoc j x hc),mY p j8 k2,m1 ((aPM).h_ j≠c yY) (qW (by rw[aG]at a;rw[nf a,mZ a,mY a];injection a)),mY nl];rw[I4 nl _ _ (nb aav abZ) afz]at k2;rw[mW .bF (qd (pp aG) (BU x p hc (u.alF (agF j x hc)) ((aD4 x (u.ajS (agF j x hc))).1) j8 k2)),mW (aj2 j aG).az,m3 Ac (aoc j x d),mY p j8 k2];have:=aD4 x (u.ajS aVl);exact(AE aa.1 aa.2 (AI _ p j8 k2))),mY e4,mX (wl bh Q tk asU cJ ao.bD e4 ct fun cf h2 d2 g5 c4 f9 P f2=>?_),mZ ct,mX CA jH c4 (adM K h2 jH (nO Y)) f9.f3.fr Dl (fun ajb P=>?_),mZ P];(have c7:t3 h2 g5 a4:=by refine⟨ajb,f9.f3.hC,fun g V=>?_,f9.f3.lx⟩;replace a:=(f9.f3.hP g V).1;refine⟨?_,?_⟩;(rw[vz d (U.bg g) (by rw[sq aB1]at a;rw[yL C3 a])]);rw[mZ aN aB t anL abX aja gg lt aes alU as1 jn cJ e4 f9 ajb,n8];rw[aif]at a;rw[yL C3 a]);rw[m1 (de h2 g5 (match(generalizing:=false)fl with|rO=>y|_=>.B) (match(generalizing:=false)cf with|rO=>y|_=>.B)) (by rw[nu];induction fl using ls.ae with|bu y=>rw[p4 f2,mZ f2];(rintro cM e l);exact l|bU=>rw[m1 (cf=ama.bU) f2,mY a,mZ f2,uf,mW (e:ck.B=ck.B)]|ahl=>rw[m1 (cf=ama.ahl) f2,mY a,mZ f2,uf,mW (e:ck.B=ck.B)]|abl=>rw[m1 (cf=ama.abl) f2,mY a,mZ f2,uf,mW (e:ck.B=ck.B)]),mY ap0];(have cW:∀cM,de h2 g5 y cM→a4=bJ→lW (.ok (s6 cM)) aVZ:=fun cM l d=>by rw[nu,nu,oQ,mW t _ h2 d2 g5 f9.eX c7 l]);(replace ap0:de h2 g5 (aht fl) (match(generalizing:=false)cf with|rO=>y|_=>.B):=by clear av f2;induction fl using ls.ae<;>exact ap0);generalize aht fl=ag0 at av ap0;rw[m6 (m7 lW)];by_cases aCv:fn.cF=F;rw[c0 aCv]at av;by_cases hd:(adu w.z w a4&&ag0.eJ w.z)=F;(case ju=>rw[cH hd]at av;rw[pe av]);rw[c0 hd]at av;simp only[N.c3]at hd;simp only[ap.c.fV,fK.mk.fV]at av;rw[m3 Ai av,mZ cW av,nu,oc e,p4 f9.eX.aey,mY d he _];have dr:ag9 g5 X:=⟨⟨d,he⟩,f9.eX.fL.cq⟩;rw[mX t _ h2 d2 X ⟨f9.eX.fx,f9.eX.ix,f9.eX.xs,aPs,e⟩ (cT.cF aB.hC c7 dr hd.1) (ap0.mx dr ?_),aB.hC.c9,mW hd.2];rw[cH aCv]at av;simp only[ap.c.fV,fK.mk.fV]at av;rw[m3 Ai av,mZ t av,nu];rintro e d;exact cW _ ap0 d
def IX:∀{E}{h}{Aa}{aI}{U}{am}{aL}{aE}{H}{mp}{eb}{bs}{aBP}{l}{w a4}{vs}{k}{X}{aW}{bb}(aN:pA)(M:xM)(ag:aP4 jj Aa eb)(aB:q4)(cz:aS8)(it:aNS)(av:o5 (xS h0 Aa) vs)(t:∀fM h' tk cv,aSY→t3 h' cv a4→ed h' cv vs fM→zt (yX fM)),q6 (evalArgs aBP F (act bs (aec eb aL)) []):=by rw[mY E h Aa aI U am aL aE H mp eb bs aBP l,mY w a4 vs k X aW bb,mY aN M ag aB cz it av t];induction Aa using hG.ae with|C=>rw[Dw ag];simp only[Uu,ap.c.fV,fK.mk.fV]at av;rw[m3 Ai av,nu];(rw[oc e]);exact lu.me.evalArgs_none (oJ aB.fI aB e)|s d Aa=>rw[pw BV CB];rintro j xs e hs _ _;rw[m2 (sN (pj it bs bs bb bb aW (fun vs s'=>aW _ s')) ag cz av fun fM h' tk cv j j3 r' P=>oJ j j3 r'),mY b];rw[BT hs]at b⊢;exact evalArgs_plain b
def AaW:∀{E}{h}{ac}{Aa}(bl:p9)(aD7:∀cE,E.K.amH ac=c cE→∃fn,aU8 E.hU∧ah4 E aTZ fn)(it:aNS)(ake:aVY),p8 (.bp ac Aa):=by rw[mY E h ac Aa,mY bl aD7 it ake,mY aI U am aL aE H mp d l w bJ y k X,xW,sv,o_ JO VR,mZ bG];rintro fn eb bs cE e abt ag;rw[qt,aTr P,m3 AF (De dQ),mZ ag dQ];rintro n e aG hd;rw[oi,mY J,pP vs,o3,nD (aD7 cE abt) fd amS ok,mX HC ok fun cB jV dX bD d_ dV kV mm pm jL ac8 aZ an acQ aj9 ao=>?_,mX lu.me.aqm (HN M aG hd (aQY bl.adB.K.g0) (bl.fn ac _ abt) ?_),mX (nI aGK p ⟨aZ,acQ,.akW aWo,aj9⟩ fd aWo (sN IX f8 cz it ct fun fM Q t1 cX I bQ bW=>⟨qS (nv (bQ.M bl aN) ao.ho),?_⟩)),mX aFb (qp ake aN.x bQ bW av fun cM h2 d2 g5 L c7 fh=>aVg fh)]
def JW{K}{mp}{aE}{aL}{bs}:∀{Aa}{i},jj K mp aE Aa i=F→(act bs (aec i aL)).db (nF (! sz))=F|.C,i,ag=>aUu Dw ag|u6,i,ag=>by rw[pw BV CB,oK];rintro j xs e hs dQ dW;rw[BT hs,m6 ((F&&(m7 act).db (nF (! sz)))=F),JW dW];rfl
def Xh:∀{O}{w}{p}{j}{ac}(b:my O w p j=c ac),∃q x fs,p=n3∧aSB∧O.eT x j=c ac∧(acA j fs).mM=F:=by injections O w p j ac;rw[mY b,m3 Ac (Cx b),om,mY q f b,m3 AR (Ge b),mZ b,mY x fs g b,m3 Ay b,mZ b,mY ade aj b,m3 Bc b,om,mY d b,pD (ap.c.dB b),mW CT q x _ f g aj d]
def Aa8:∀{E}{h}{f}{j}{Aa}(bl:p9)(aD9:∀x ac,E.O.eT x j=c ac→∃fn,aU8 E.hU∧ah4 E aTZ fn)(sa:qA)(it:aNS)(ake:∀ac,aVY),p8 (.eT f j Aa):=by rw[mY E h f j Aa,mY bl aD9 sa it ake,mY aI U am aL aE H mp d l w bJ y k X,xW,sv,o_ Bz VZ,mZ bG];rintro p ahX iB eb bs e ag;rw[ø ag,mX HA ag fun dQ dW f8 iw aaP aha=>?_,mZ ag,aQP,oi,nu,mY J,pP aa8,o3,oi,nu,mY ac axw av,m3 DX (Xh axw),mY q x fs mI he b2 ajH,mZ axw,rP aa8 n3 mI,oi,nu,mY J,tQ vs,wO,nD (aD9 x ac b2) fd amS ok,mX HC ok fun cB jV dX bD d_ dV kV mm pm jL ac8 aZ an acQ aj9 ao=>?_,rf (bl.eT x j ac b2) aJF auU avi];have ag8:=avx aJF;simp only[arm_eval_Call,DL dW];rw[mX dH (yE aaP),zn aqf,m1 (aKn (eb.z+([]:r aFU).z) (act bs (aec _ aL)) (m7 backToKw)=F) (by unfold aKn;rw[JW aha];rw[ţ (backToKw bs (keywordEach [] aL)=[])]at⊢;simp;omega),mY aIo,m1 (aKo F p aL iB bs=km bs) (by unfold aKo;simp[f8]),mY apc];unfold methodCall;rw[aIo,aPF JN (qp avy) he];rintro n afr o ba e aV bj alQ cO _ anN;rw[m1 (shadowIn nJ _=c _) (by rw[nt (nI alQ.aly h j o o),mY J,nV,ng];rintro _ a;rw[m9,mY J,vW,ng];rintro fD _ z' a _;rw[m8,m6 ((m7 aly).au (·.eF)=c _),a];rfl;rw[z']at ajH;injection ajH),mY fG,mX dH (ae9 (qp method_fn (bQ.M bl aN) anN ag8.ga ag8.gt auU avi fG ?_)),mX dH (aLO apc ?_),mX (nI aGK p ⟨aZ,acQ,.akW aWo,aj9⟩ fd aWo (x2 (qp IX) aha x0 it gx fun fM h2 d2 g5 L c7 fh=>⟨qS (nv (c7.M bl aN) ao.ho),?_⟩)),mX aFb (we (ake ac) aN.x c7 (show ed h2 _ (n3::vs) (nP _::fM)from(Au _ _ e xD fh)) av fun cM h3 j9 abG Z ic k4=>oJ aTc ic k4)]
structure akx(E:iJ):Prop where
 eY:∀x cE,E.K.akH x=c cE→aDs E.M (Ñ E.eR x)=F∧ar5 E.M aQi=F
 av1:∀x cE,E.K.akH x=c cE→E.O.ahD x=c B→abU E.M (Ñ E.eR x) "__init__"=c (c (.acy "object.__init__"))
 ahD:∀x cE ac,E.K.akH x=c cE→E.O.ahD x=c (c ac)→abU E.M (Ñ E.eR x) "__init__"=c (c (Ñ E.ij ac))∧aE5 E.M (Ñ E.ij ac)=c (p3 "function")
def Qk(eb):(ai8.acy "type.__call__" eb).aun=0:=Ē
def AcB:∀{E}{h}{aI}{U}{am}(aN:pA)(eb),ajb E h (aI.eJ (.acy "type.__call__" eb)) U am:=by rw[mY E h aI U am,mY aN eb,m1 ((aI.eJ _).i1≤aI.i1+2) (by rw[m6 (aI.i1+ai8.weight _≤aI.i1+2)];unfold ai8.weight;rw[Qk,m1 (ai8.isGuard (.acy "type.__call__" eb)=Y) (by rw[m6 (guardIds.afo "type.__call__"=Y)];decide+agM),mY Q,m1 (ai8.isCaller (.acy "type.__call__" eb)=Y) (by unfold ai8.isCaller;kernel_rfl!),mY h2,Q,h2];split<;>(simp)),mY aV,m1 ((aI.eJ _).ib≤aI.ib+9) (by rw[m6 (aI.ib+ai8.cUnits _≤aI.ib+9),m1 (ai8.cUnits (m7 .acy)=1+3*(ai8.acy "type.__call__" eb).aun) e,m5,aa,Qk,mW AJ [aI.ib] (S+(sn 1 3 0)) (S+9) e]),mY bj,mX ⟨aN.fk,aN.eZ,?_,q8 aN.i1 (Am [(aI.eJ _).i1,aI.i1,h,alO] (sn S 3 a8+8+1) eK S (ai+2) (sn ai 3 a8+10+1) eK e aV aa),q8 aN.ib (Am [(aI.eJ _).ib,aI.ib,h,mj] (S+(tC a8)+391+1) eK S (ai+9) (ai+(tC a8)+400+1) eK e bj aa)⟩,mX ES aN.ap4 fun anG eX ahs aka anH iN abX auV=>?_,mW (ni EO anH iN abX auV)]
def cT.made:∀{E}{U}{am}{H}{b h'}{X}{w}{x}{j aas}(aB:s2)(aN:aku U am h' H)(gc:as3 U am h' ((j,avw aQi aas)::(aas,emptyDict)::aTs b))(lt:∀n∈aTs b,nk<aas)(Bd:aas<j),t3 h' (X.e_ aO3) (w++[rv x])∧gb am b h' X (X.e_ aO3):=by injections E U am H b h' X w x j aas;rw[mY aB aN gc lt Bd,rf (aB.FJ aN gc fun P a=>aQV (zv a)) c7 L o];have fb:=gc _ uA;have cO:=gc _ (aQV uA);(have je:∀g,U.bg g=B→aOR→(¬g<aas)→b.bg g=B:=fun g d h V=>by rw[vz t (b.bg g) (by exact(V (lt _ (CM.gS (By t h d e)))).az)]);have gE:b.bg j=B:=je j (nW fb) (nj fb) (u.mO.gS (u.agP Bd));have f2:Ż aas:=je aas (nW cO) (nj cO) (u.apy _);have Z:gb am b h' X (X.e_ aO3):=⟨L.fx,L.ix,L.xs,(Ad ([aO3]) e (fun g⟨t,cG,fk⟩=>by rw[r.i7]at cG;subst cG;rw[mZ gc lt Bd fb cO je,nY fk fk,n8,m9,n8,m8,mW gE,mW f2])),e⟩;rw[vi ⟨aN,aB.hC.an2 Z (fun g cR V d=>o g cR d (aUv aB.hP)) (qd fb.1 (Bx ([]) 0 cO.1 rb e (by simp))) gE f2 aB.hC.ahJ,fun g t=>?_,c7.lx⟩ Z,nt (Dz.mp t),rd,m9,mY J,sE,ng];rintro t cG fk;rw[m8,mW aB.hP g t];rw[r.i7]at cG;subst cG;rw[mZ gc lt Bd je gE f2 Z t,nY fk fk,n8,m9,n8,m8,mW ⟨nW fb,nj fb⟩,mW ⟨nW cO,nj cO⟩]
def Abb:∀{E}{h}{x}{Aa}(bl:p9)(aaQ:akx E)(it:aNS)(ake:∀ac,aVY),p8 (.lJ x Aa):=by rw[mY E h x Aa,mY bl aaQ it ake,mY aI U am aL aE H mp d l w bJ y k X,xW,sv,o_ JO V2,mZ bG];rintro fn eb bs cE e abt ag;rw[qt,aTr P,m3 AF (De dQ),mZ ag dQ];rintro n e aG hd;rw[oi,nu,mY J,pP vs,o3];have asS:=aaQ.eY x cE abt;rw[mX lu.me.aqm (HN M aG hd (aQY bl.adB.K.g0) (bl.eY x _ abt) ?_),m1 ((((m7 act).dS (·.1))||([]:rC (ap af.bH) (bv ck)).dS (·.1.mM))=Y) (by rw[m2 (nI JW aL aL bs bs f8),m5,o6 r.hp,r.any_nil,N.apQ,r.ato,mY a hz,m2 (aa a hz),m5,Ă]),mY fa,mX callWith_of fa (keeps_K asS.1) (sN IX f8 cz it ct fun fM Q t1 cX I bQ bW=>⟨bQ.M bl aN,?_⟩),tD aFb,oi,nu,mY p Ab av];induction p using ap.ae with|B=>rw[m3 Bc (show(nK (vs.dD=F) (c (ar.D a4.z,a4++[rT x])))=c _ from av),nu,mY alo d,mZ ct];(rw[pD (r.alr.mp alo)]);rw[m2 (Ŝ t.to d),p1,mY t,m1 (fM=[]) bW,mY hc,mZ bW];subst hc;rw[mX (nI make_K0 k aPf aj1 (aTs Q) bQ.fr Dl (bQ.M bl aN) asS.2 (aaQ.av1 x cE abt Ab) fun j aas h' abI gg lt Bd=>?_),ou (bQ.made abI gg lt Bd) c7 L,mX (oJ wt c7 (Ad aO3 ?_ e)),m6 ((cX.bN++[aO3])[a4.z]?=_),←bQ.hC.c9];simp|c ac=>rw[oi,mY J,tQ aP];rintro gx e9;rw[m3 Bc e9,mZ e9,mY cK d,rP aP .B cK,nu,m2 (Ŝ t.to d),p1,mY t,ou (aaQ.ahD x cE ac abt Ab) auU avi,mX (nI make_K k aPf aj1 (adM _ Q am (nO Y)) bQ.fr Dl (bQ.M bl aN) asS.2 auU avi ?_),mY j aas h' abI gg lt Bd,wG (bQ.made abI gg lt Bd),mY c7 L];(have fc:de h' (cX.e_ aO3) (.D a4.z) (nP j):=by rw[mX Ad aO3 ?_ e,m6 ((cX.bN++[aO3])[a4.z]?=_),←bQ.hC.c9];simp);rw[mX (wl (ake ac) h' t1 (AcB aN _) c7 (show ed h' (cX.e_ aO3) (.D a4.z::vs) (nP j::fM)from(nM Au e fc (bW.bx L))) gx fun cM h3 j9 abG Z ic k4=>?_),mW ⟨k4,oJ aTc ic (fc.bx Z)⟩]
structure ami(E:iJ):Prop where
 fn:∀ac cE,E.K.amH ac=c cE→∃fn,aU8 E.hU∧ah4 E aTZ fn
 eT:∀x j ac,E.O.eT x j=c ac→∃fn,aU8 E.hU∧ah4 E aTZ fn
 db:∀ac fn,aU8 E.hU→ah4 E aTZ fn
def ZP(d)(b:((d.eP==0||d.eP==3)||(d.eP==5||d.eP==15))=Y):apT d=F:=by rw[y6 d af.bA.ae (by rw[sT])]
def Av{d}{h}{ac}(b:aq6 (d.eP=h) ac (nO Y)=F)(cu:((h==0||h==3)||(h==5||h==15))=Y:=by rfl):apT d=F:=ZP d ((Bp b).1▸cu)
def Abo{E}{h}:pW wz:=fun{aI U am aL aE H mp d l w bJ y k X aW bb}aN M bG aB cz av t=>m4 (aRb av)
def Aca{E}{h}:p_ mh wz:=fun{aI U am aL aE H mp d l w bJ y g k X aW bb}aN M bG aB cz av O t=>m4 (aRb av)
abbrev gf(E:iJ)(h:u)(d:dz):Prop:=pW d∧aSI
abbrev aae(E:iJ)(h:u)(Aa:hG):Prop:=aNS∧(∀p,ň ah7 Aa)∧(∀p,ň ah8 Aa)∧p_ aga Aa
def gf.mk{E}{h}{d}(k:pW d)(v:aSI):xZ gf:=@gL.lh (pW d) aSI @k @v
def gf.k{E}{h}{d}(f:xZ gf):pW d:=@gL.left (pW d) aSI f
def gf.v{E}{h}{d}(f:xZ gf):aSI:=@gL.adx (pW d) aSI f
def aae.mk{E}{h}{Aa}(k:aNS)(f:∀p,ň ah7 Aa)(g:∀p,ň ah8 Aa)(v:p_ aga Aa):p_ aae Aa:=(By (@k) (@f) (@g) (@v))
def aae.k{E}{h}{d}(f:xZ aae):xZ ac4:=@gL.left (xZ ac4) _ f
def aae.f{E}{h}{d}(b:xZ aae)(p):ň ah7 d:=@gL.left (∀p,ň ah7 d) _ (gL.adx b) p
def aae.b9{E}{h}{d}(b:xZ aae)(p):ň ah8 d:=@gL.left (∀p,ň ah8 d) _ (pQ gL.adx gL.adx) p
def aae.tt{E}{h}{d}(b:xZ aae):xZ aga:=@gL.adx _ (xZ aga) (pQ gL.adx gL.adx)
def gf.of{E}{h}{d}(k:pW d)(ba:∀mp aE j,b_ E.K mp aE d j=F→apT j=F):xZ gf:=by rw[aPX (gf.mk k (Ab9 k ba))]
def IV{E}{h}:p_ aae .C:=by rw[aPX (aae.mk AbO (fun p=>Re) (fun p=>Rf) Acr)]
def aem{E}{h}{d}{Aa}(f:xZ gf)(g:p_ aae Aa):aae E h u6:=by rw[aPX (aae.mk (aVW AbN) (fun p=>Rc f.k (g.f p)) (fun p=>Rd f.v (g.b9 p)) (Acq f.v g.tt))]
def G6{E}{h}(bl:p9)(aaQ:akx E)(abM:ami E)(aE:∀ac,aVY)(d):xZ gf:=by rw[mX (ss (ss (ss (ss (ss (nI dz.jB fW (gf E h) hv (aae E h)))))) ?_ ?_ d),zW (by rw[m3 gf.of Abe]),mW q7,mY _,zW (by rw[m3 gf.of AaV]),mW q7,mY _,zW (by rw[m3 gf.of Aa1]),mW q7,mY _,zW (by rw[m3 gf.of Abn]),mW q7,mY _,zW (by rw[m3 gf.of Abr]),mW q7];intro _ _;rw[zW (by rw[m3 gf.of (Aa0 bl)]),mW fun P P P b=>Av (ź).1,v7,aVL Abp,mW q7,v7,aVL Aa7,mW q7,v7,aVL Abd,mW q7,mY _,zW (by rw[m3 gf.of Abc]),mW q7];intro _ _ f;rw[uS (AaT bl f.k),mW q7,aPG,uS (aVW Aa4),mW q7,aPG,uS (aVW Abl),mW q7,aPG,uS (aVW Abk),mW q7];intro _ _ _ f;rw[aVL Abj,mW q7,v7,aVL Abi,mW q7];intro _ _ _ f g;rw[uS (aVW AaU),mW q7,v7,aVL Aba];(exact fun P P P b=>by rw[m3 AR (N9 b),om];rintro _ _ e _;rfl);intro _ _ _ f g;rw[w' (gf.mk (AaX bl f.k g.k) (Ab5 bl f.k g.k)),v7,w' (gf.mk (AaQ (f.f _)) (Ab4 (f.b9 _))),v7,w' (gf.mk (Abg (f.f _)) (Ab8 (f.b9 _))),v7,w' (gf.mk (Abf f.k) (Ab7 f.v))];intro _ _ _ f g x;rw[w' (gf.mk (Aa3 f.v g.k x.k) (Ab6 f.v g.v x.v)),mY ac _ f,uS (AaW bl (abM.fn ac) f.k (aE ac)),mW q7];intro _ _ f;rw[uS (Abb bl aaQ f.k aE),mW q7];intro _ j _ f g;rw[uS (Aa8 bl (fun x ac=>abM.eT x j ac) f.k g.k aE),mW q7,v7,uS (Aa6 bl f.k),mW q7,v7,uS (AaR bl f.k),mW q7,v7,uS (AaP bl f.k),mW q7,v7,uS (Abm bl f.k),mW q7,v7,uS (Abq bl f.k),mW q7,aPG,uS (Aa9 bl f.k g.k),mW q7,v7,uS (Aa2 bl f.k),mW q7,aPG,uS (AaY bl f.k g.k),mW q7,aPG,uS (Aa5 bl f.k g.k),mW q7,aPG,uS (aVW AaS),mW q7,aPG,uS (aVW AaZ),mW q7,v7,aVL Abh,mW q7];intro _ _ _ _ f g x;rw[uS (PR g.k f.k x.tt),mW q7,w' (gf.mk Abo Aca),w' IV,aPG,aPX (sH aem)]
def Adc{E}{h}{q}{p}{f}:wQ (.ats q p f):=fun{aI U am dC bf ej aL H mp st l r' w bJ fl k X aW bb}aN cJ bG bX av t=>m4 (aRb av)
def Ac9:∀{E}{h}(bl:p9)(aaQ:akx E)(abM:ami E)(aE:∀ac,aVY){q}(f),wQ (.age q f):=by rw[mY E h,mY bl aaQ abM aE,mY q f];rcases(gw.em (∃gD eH kF gP,f=.go gD eH kF gP))with(b|b);obtain⟨gD,eH,kF,gP,e⟩:=b;(have t:p_ aae gP:=by refine ss (ss (ss (ss (ss (nI hG.jB fW (nO abh) hv (aae E h)))))) IV (fun d P P g=>aem (G6 bl aaQ abM aE d) g) _<;>intros<;>trivial);(have a:abh∧wQ (.age q (.go gD eH kF gP)):=by rw[aPX (gL.lh jC (Ada (G6 bl aaQ abM aE _).k (G6 bl aaQ abM aE _).k t.tt))]);obtain⟨_,a⟩:=a;rw[mW @a,mY aI U am dC bf ej aL H mp st l r' w bJ fl k X aW bb aN cJ bG bX av t];obtain⟨v,y,a,e,ag⟩:=N5 bG;rw[qt];obtain⟨_,dQ,dW⟩:=ag;replace dQ:=cD dQ;revert dW;refine af.bA.aff.az (fW:=fun y=>b_ _ _ _ f y=F→_) y dQ ?_;intro jN g9 x n dW;exfalso;clear bG;induction f using dz.ae<;>first|exact BD dW|exact aRb av|(obtain⟨_,axu,_⟩:=Cm av);(first|exact aRb axu|rw[m3 Da (show B=c _ from axu),mY hz];cases hz);done|exact b (uF Hv e)|skip
def LR{E}{h}(bl:p9)(aaQ:akx E)(abM:ami E)(aE:∀ac,aVY)(g):aQ3:=by have aaT:=G6 bl aaQ abM aE;(have aGt:∀Aa,p_ aae Aa:=fun Aa=>by refine ss (ss (ss (ss (ss (nI hG.jB fW (nO abh) hv (aae E h)))))) IV (fun d P P g=>aem (aaT d) g) _<;>intros<;>trivial);(have a:abh∧aQ3:=by rw[mX (ss (ss (nI cx.jB fW (fun f=>abh∧p_ mf f) hv (fun g=>abh∧aQ3))) ?_ ?_ ?_ ?_ g),mY f,w' (gL.lh jC (Adi aO8)),v7,w' (gL.lh jC (Ac8 aO8)),v7,aNH (Ac9 bl aaQ abM aE f),mY f _ j,aNH (Adu bl aO8 (aaT j).k),mY f o j,aNH (Adv bl aO8 (aaT o).k (aaT j).k),v7,w' (gL.lh jC (Ady aO8))];intro _ _ _;rw[aNH Adc,mY f _ _ j,aNH (Adb bl aO8 (aaT j).k),mY f o,w' (gL.lh jC (Adh aO8 (aaT o).k)),mY f o,w' (gL.lh jC (Adg aO8 (aaT o).k)),mY x _ _ f g,aNH (AdB (aaT x).v (gL.adx f) (gL.adx g)),mY x _ g,w' (gL.lh jC (Adz (aaT x).v (gL.adx g)))];intro _ f _ g;rw[w' (gL.lh jC (Adj aO8 (gL.adx g)))];intro _ Aa _ g;rw[aNH (Adk bl (aGt _).k (gL.adx g)),mY f,w' (gL.lh jC (Adt aO8)),aNH Adf,aNH Adr,aNH Adx,aNH AdC,aPG,aPX (gL.lh jC (AdA (gL.adx f) (gL.adx g)))]);obtain⟨_,a⟩:=a;exact@a
def SR{E}{ac}:ahi E 0 ac:=by intro aI U am H w bJ vs fM y k X lW aN aB ft av t;injection av
def SQ{E}{h}{ac}(b2:E.hU ac=B):ahi E nB ac:=by intro aI U am H w bJ vs fM y k X lW aN aB ft av t;simp[SS,ST,b2]at av
def Q'{E}(bl:p9)(aaQ:akx E)(abM:ami E)(h):∀ac,abh∧aVY:=by induction h with|hf=>rw[mY ac,aPX (gL.lh jC SR)]|gk h ih=>intro ac;induction b2:E.hU ac using ap.ae with|B=>rw[aPX (gL.lh jC (SQ b2))]|c fn=>rw[aPX (gL.lh jC (SU bl b2 (abM.db ac _ b2) (LR bl aaQ abM (fun ac=>gL.adx (ih ac)) _)))]
set_option backward.match.sparseCases false
set_option tactic.hygienic true
set_option genInjectivity true in
inductive a9 where|dx(k:ea)|aO(y ac:R)|bi(k:ea)|mP|jc|D(n t:o4)|bI(aj:u)|bY(n:u)|un(i:nq)deriving axh
abbrev a9.cd(v:a9):(u×ea×R×R×o4×o4×nq):=@a9.ae (p' _) v (fun k=>(0,k,0,0,B,B,[])) (fun y ac=>(1,"",y,ac,B,B,[])) (fun k=>(2,k,0,0,B,B,[])) (3,"",0,0,B,B,[]) (4,"",0,0,B,B,[]) (fun n t=>(5,"",0,0,n,t,[])) (fun aj=>(6,"",aj,0,B,B,[])) (w5 (7,"",n,0,B,B,[])) (te (8,"",0,0,B,B,i))
abbrev a9.azS(j:(u×ea×R×R×o4×o4×nq)):a9:=[a9.dx (nj j),.aO (oj j) (ov j),og (nj j),.mP,rx,.D (qk j).1 (nj (qk j)),nP (oj j).es,.bY (oj j).es,qr (nW (qk j))].ld sz .mP
def a9.M3(v:a9):a9.azS v.cd=v:=by induction v using a9.ae<;>rfl
noncomputable instance:aqq a9:=fun f g=>@decidable_of_iff _ (f.cd=g.cd) ⟨oE ((a9.M3 f).cq.ah ((cr a9.azS b).ah (a9.M3 g))),cr a9.cd⟩ (n7 @apm (n7 @apm (n7 @apm (n7 @apm (n7 @apm (ni @apm))))) f.cd g.cd)
abbrev aeR(p:N):ar:=pf (t9 p 1)
abbrev e6(h:ea):o4→nC|B=>[]|zk o=>[nE [og h,qv,aOL,nr]]
abbrev cS(i:nq):nC:=i.au fun(q:u)=>ar.m q
abbrev a9.aY:a9→ar|q9 k=>nE [nG,ur]|.aO y ac=>nE [rn,.m y,.m ac]|ur=>nE [uN,ur,nr]|.mP=>nE [Ç,nr,nr]|rx=>nE [.m 5,nG,og "E",aUw,nr]|vE=>nE [.m 8,qL aRQ,ps,ps,ps,ps,nr]|nP aj=>nE [È,.m aj,ps]|v3=>nE [Ū,.m n]|r2=>nE [.m 6,zy i]
structure lr where
 cA:u
 bD:u
 mi:nq deriving gN
set_option genInjectivity true in
structure aH where
 bs:u
 xs:nC
 ak:oB
 afK:ys
 ds:r lr
 dK:n1
 iL:nC
 bw:nC
 ey:ys
 fO:ys
 eM:nC
 apL:nC
 gU:nC
 e5:R
 c2:R
 k1:ea
 abj:nC
 fQ:nC
 lZ:nC
 Ap:u
 ca:r c_ deriving gN
abbrev ace:c_:=qI 0 [vu,wf,xN,zL,Ő,aPv,oV "origins" 8,oV "renamed" 9,vG "shaping",vG "putting"]
abbrev jM(aq5 cA:u)(cB:ea)(bD:R)(mi:nq):c_:=qI 1 [sM "did" aq5,sM "kind" cA,("name",og cB),("params",ps),sM "body" bD,("bases",zy mi),("static",us),vG "extends_class",("abstract",oX),("members",wL),("variances",wL),vG "busy",ŷ,("file",og ""),vG "nid"]
abbrev arJ:c_:=qI 2 [aPw,sI,sM "most_rounds" 200,sM "most_deep" 40,("lib",.B)]
abbrev k6(Ap:u)(e5 c2:R)(k1:ea):c_:=vV [sL,qH,vC,wg,w2,aWw Ap,yG,sM "deep" e5,sM "looks" c2,ő,yZ oX,ō,aQT k1,ŷ]
abbrev ii:u→r lr→r c_|_,[]=>[]|o,aj::l=>jM o aj.cA "C" aj.bD aj.mi::ii pY l
def Hp:∀gv,ii gv []=([]):=rp
def Hq:∀o aj l,ii o (aj::l)=(jM o aj.cA "C" aj.bD aj.mi::ii pY l):=uD
abbrev agd:u→u→nC|_,0=>[]|f,nB=>rY::agd (f+1) h
def LM:∀gv,agd gv 0=([]):=rp
def LN:∀f h,agd f nB=(rY::agd (f+1) h):=pS
abbrev aH.gl(a:aH):u:=ow a.Ap 0 16 (25+a.ds.z+a.Ap)
abbrev aH.l0(a:aH):nC:=.B::.D 10::agd 26 a.ds.z
abbrev aH.g8(a:aH):ch:=[oU [.m a.bs,aSm],ace,aSu a.ak.au,.bE a.afK,oU a.l0,uE a.dK.au .m,oU a.iL,oU a.bw,nS,nS,jM 1 5 "E" (-1) [],arJ,k6 a.gl a.e5 a.c2 a.k1,u_ [yF,ŏ,oV 14 22],.bE a.ey,.bE a.fO,oU a.apL,oU a.gU,tw,m_,ä,rv 6,rv 7,oU a.abj,oU a.fQ,oU a.lZ]
abbrev aH.G(a:aH):ch:=((a.g8++xR)++a.ca).b6 a.gl (oU a.eM)
def Ca(o)(i):qo ii o i=i.z:=by induction i generalizing o with|C=>rfl|s aj l ih=>simp[Hp,Hq,ih]
def LO(f h):qo agd f h=h:=by induction h generalizing f with|hf=>rfl|gk h ih=>simp[LM,LN,ih]
def Qh(a:aH)(q)(b:q<26)(iy:sU 16):a.gl≠q:=by unfold aH.gl;split;rw[mW (ol (iy d.cq)),mW XT aUe b]
def Bs(a:aH):a.g8.z=26:=e
def CI(a:aH):a.G.z=qR+a.ca.z:=ŧ aH.G Bs Ca u.la
def BK(a:aH)(q)(b:q<26)(iy:sU 16):rS a.G=rS a.g8:=by unfold aH.G;rw[r.agx (Qh a q b iy),r.abP,r.jP (by simp only[Bs];exact b)]
def Cu(a:aH)(q)(b:q<26)(iy:sU 16)(p):a.G.b6 q p=(((a.g8.b6 q p)++xR)++a.ca).b6 a.gl (oU a.eM):=by unfold aH.G;rw[m7 r.awj (Qh a q b iy),r.abP,ž (yg Bs b),r.abP]
mutual variable(a:aH)
def BH:qh 0 (oU [.m a.bs,aSm]):=t2 0
def A1:n9 a.G 1 ace:=t2 1
def BR:qh 2 (aSu a.ak.au):=t2 2
def Cp:qh 3 (.bE a.afK):=t2 3
def CV:qh 4 (oU a.l0):=t2 4
def Dt:qh 5 (uE a.dK.au .m):=t2 5
def NJ:qh 6 (oU a.iL):=t2 6
def NK:qh 7 (oU a.bw):=t2 7
def J2:n9 a.G 11 arJ:=t2 11
def BY:qh 12 (k6 a.gl a.e5 a.c2 a.k1):=t2 12
def HI:qh 13 (u_ [yF,ŏ,oV 14 22]):=t2 13
def EW:qh 14 (.bE a.ey):=t2 14
def EX:qh 15 (.bE a.fO):=t2 15
def Gb:qh 17 (oU a.gU):=t2 17
def UX:qh 18 tw:=t2 18
def Gc:qh 19 m_:=t2 19
def UY:qh 20 ä:=t2 20
def UZ:qh 21 (rv 6):=t2 21
def U0:qh 22 (rv 7):=t2 22
def HJ:qh 23 (oU a.abj):=t2 23
def HK:qh 24 (oU a.fQ):=t2 24
def EY:qh 25 (oU a.lZ):=t2 25
def DZ(b:pN):qh a.gl (oU a.eM):=by rw[m1 (a.gl<((a.g8++xR)++a.ca).z) (by rw[aT8 Bs Ca];unfold aH.gl;split;rw[mW O4,mW O5 b]),p0,aPW,r.akY d]
def PQ(i):tI a.gl rj=aH.G (oP eM i):=by unfold aH.G;simp only[r.set_set]at⊢;rfl
def s0(n:u):tI 0 (oU [ye,aSm])=aH.G (oP bs n):=Ā 0
def BS(i):tI 2 (aSu i.au)=aH.G (oP ak i):=Ā 2
def Cd(i):tI 3 x6=aH.G (oP afK i):=Ā 3
def Eb(i):tI 5 (uE i.au .m)=aH.G (oP dK i):=Ā 5
def Ec(i):tI 6 rj=aH.G (oP iL i):=Ā 6
def Ed(i:nC):tI 7 rj=aH.G (oP bw i):=Ā 7
def Fl(aj o)(H):tI 12 (k6 a.gl aj o H)=aH.G {a with e5:=aj,c2:=o,k1:=H}:=Ā 12
def K7(i):tI 14 x6=aH.G (oP ey i):=Ā 14
def PO(i):tI 15 x6=aH.G (oP fO i):=Ā 15
def PP(i):tI 17 rj=aH.G (oP gU i):=Ā 17
def AaE(i):tI 23 rj=aH.G (oP abj i):=Ā 23
def AaG(i):tI 24 rj=aH.G (oP fQ i):=Ā 24
def AaI(i):tI 25 rj=aH.G (oP lZ i):=Ā 25
end
def NU(h q:u):ab2 h (nc q)=nK (q<h) (c q):=by unfold ab2;simp only[R.ab9,fU,R.aa7,R.akh]
def AK(a:aH)(q:u)(l)(b:op a.ak l):pE a.G (.D 2) n'=c l.aY:=by obtain⟨aC,he⟩:=r.gF.1 b;simp[eC,BR,NU,aC,he]
def Ax(O)(cf)(ac)(vs)(w)(a_:vs.z=ac.c8)(hd:ac.cF=Y):aiV O cf ac vs w=cW (b4 O cf ac.bD (aTJ ac.dc ac.c8) w):=by unfold aiV;rw[c0 a_,hd]
def Ii(O)(cf)(ac)(vs)(w)(a_:vs.z=ac.c8)(hd:ac.cF=F):aiV O cf ac vs w=afv w.z w (b4 O cf ac.bD (aTJ ac.dc ac.c8) w):=by unfold aiV;rw[c0 a_,hd]
noncomputable abbrev aA(h:u):iV:=bc T bo h
def I9(h)(aM a1 a2 a3)(w):xy 0 atH [oO,pC,pc,wE,B]:=xx aA7
def A_(h)(aM a1 a2)(w):r4 1 aqO (aRC pc):=r3 aA6
def Bw(h)(aM a1)(w):t8 2 ayw (yD B):=qF aBd
def CP(h)(aM)(w):bc T bo nB 3 [aM] w=cW (b4 T nT ay3 [oO,B] w):=vZ aBK
def Jc(h)(aM a1)(w):t8 4 ayD (yD B):=qF aBk
def Sj(h)(aM)(w):aO6 5 aya:=vZ aAH
def So(h)(aM a1 a2)(w):r4 6 ayP (yD pc):=r3 aBw
def MD(h)(aM)(w):bc T bo nB 7 [aM] w=cW (b4 T nT ayW [oO,B] w):=vZ aBD
def Jj(h)(aM a1)(w):bc T bo nB 8 aRP w=afv w.z w (b4 T nT ayY [oO,pC,B,B,B,B,B,B] w):=Ii T nT aBF aRP w e e
def SG(h)(aM a1)(w):zO 9 axU:=qF aAn
def R7(h)(aM a1)(w):zO 10 ax6:=qF aAD
def Mo(h)(aM a1)(w):t8 11 ax5 (yD B):=qF aAC
def R9(h)(aM a1)(w):zO 12 ayC:=qF aBj
def DO(h)(aM a1)(w):t8 13 ax2 [oO,pC,B,B,B]:=qF aAv
def R_(h)(aM a1)(w):zO 14 ayb:=qF aAI
def Mp(h)(aM a1)(w):t8 15 atG (aV9 B):=qF aA4
def R'(h)(aM a1)(w):bc T bo nB 16 aRP w=afv w.z w (b4 T nT ayo [oO,pC,B,B,B] w):=Ii T nT aA2 aRP w e e
def I_(h)(aM a1)(w):t8 17 ayy (aRC B):=qF aBf
def Sa(h)(aM a1)(w):t8 18 axW [oO,pC,B,B,B]:=qF aAp
def FL(h)(aM a1)(w):t8 19 ax3 (yD B):=qF aAw
def Mq(h)(aM a1 a2)(w):r4 20 ayA [oO,pC,pc,B,B]:=r3 aBh
def Mr(h)(aM a1)(w):zO 21 ayB:=qF aBi
def Sb(h)(aM a1 a2)(w):bc T bo nB 22 [aM,a1,a2] w=afv w.z w (b4 T nT atz (aV9 pc) w):=Ii T nT aAy [aM,a1,a2] w e e
def Hb(h)(aM a1 a2 a3)(w):xy 23 axX [oO,pC,pc,wE,B]:=xx aAq
def Sc(h)(aM a1)(w):zO 24 ax0:=qF aAt
def Ms(h)(aM a1)(w):zO 25 ayJ:=qF aBq
def Hc(h)(aM a1 a2)(w):r4 26 axV [oO,pC,pc,B,B]:=r3 aAo
def EG(h)(aM a1 a2)(w):r4 27 ayF [oO,pC,pc,B,B,B]:=r3 aBm
def Sd(h)(aM a1)(w):t8 28 axZ (yD B):=qF aAs
def Se(h)(aM)(w):aO6 29 ayT:=vZ aBA
def Sf(h)(aM a1 a2)(w):r4 30 ayR (yD pc):=r3 aBy
def Sg(h)(aM a1 a2 a3 aqE)(w):bc T bo nB 31 [aM,a1,a2,a3,aqE] w=cW (b4 T nT ayN [oO,pC,pc,wE,c aqE] w):=Ax T nT aBu [aM,a1,a2,a3,aqE] w e e
def CQ(h)(aM a1 a2)(w):r4 32 ayM (aV9 pc):=r3 aBt
def I'(h)(aM a1 a2)(w):r4 33 ayX (yD pc):=r3 aBE
def Mt(h)(aM a1)(w):t8 34 ayZ (yD B):=qF aBG
def DP(h)(aM a1 a2)(w):r4 35 ay0 [oO,pC,pc,B,B]:=r3 aBH
def Sh(h)(aM a1 a2 a3)(w):xy 36 ayr [oO,pC,pc,wE]:=xx aA8
def Ja(h)(aM a1 a2)(w):r4 37 ayQ [oO,pC,pc,B,B,B]:=r3 aBx
def Jb(h)(aM a1)(w):zO 38 ayI:=qF aBp
def Mu(h)(aM a1 a2)(w):r4 39 ax4 (aRC pc):=r3 aAx
def Mv(h)(aM a1 a2)(w):r4 40 ayO [oO,pC,pc,B,B,B]:=r3 aBv
def FM(h)(aM a1 a2)(w):r4 41 ayU [oO,pC,pc,B,B,B]:=r3 aBB
def Mw(h)(aM)(w):bc T bo nB 42 [aM] w=cW (b4 T nT ax8 [oO,B] w):=vZ aAF
def EH(h)(aM a1)(w):t8 43 ayL (aRC B):=qF aBs
def Si(h)(aM a1)(w):t8 44 ax9 (yD B):=qF aAG
def Jd(h)(aM a1 a2)(w):r4 45 ay2 [oO,pC,pc,B,B]:=r3 aBJ
def Je(h)(aM a1)(w):t8 46 ayS (aRC B):=qF aBz
def FN(h)(aM a1 a2)(w):r4 47 axY [oO,pC,pc,B,B]:=r3 aAr
def Jf(h)(aM a1 a2)(w):r4 48 ayE [oO,pC,pc,B,B]:=r3 aBl
def Hd(h)(aM a1 a2)(w):r4 49 ayp (aV9 pc):=r3 aA3
def Jg(h)(aM a1)(w):t8 50 ayx (yD B):=qF aBe
def Mx(h)(aM a1 a2)(w):r4 51 ayv [oO,pC,pc,B,B]:=r3 aBc
def Sk(h)(aM)(w):aO6 52 atB:=vZ aAA
def My(h)(aM)(w):aO6 53 ax1:=vZ aAu
def Mz(h)(aM a1 a2 a3)(w):xy 54 ayH [oO,pC,pc,wE,B,B,B]:=xx aBo
def Sl(h)(aM a1 a2)(w):r4 55 ayV (aRC pc):=r3 aBC
def EI(h)(aM a1 a2 a3)(w):xy 56 ayt [oO,pC,pc,wE,B,B,B]:=xx aBa
def MA(h)(aM a1)(w):zO 57 ays:=qF aA9
def Sm(h)(aM a1 a2 a3)(w):xy 58 ayu [oO,pC,pc,wE,B,B]:=xx aBb
def Sn(h)(aM)(w):aO6 59 ax7:=vZ aAE
def Sp(h)(aM a1)(w):zO 60 ay1:=qF aBI
def Jh(h)(aM a1 a2 a3)(w):xy 61 ayK [oO,pC,pc,wE,B,B,B]:=xx aBr
def Sq(h)(aM a1 a2 a3)(w):xy 62 ayG [oO,pC,pc,wE]:=xx aBn
def He(h)(aM a1 a2)(w):r4 63 ayc (yD pc):=r3 aAJ
def MB(h)(aM a1 a2 a3)(w):xy 64 ayq [oO,pC,pc,wE]:=xx aA5
def Hf(h)(aM a1 a2)(w):r4 65 ayz (aV9 pc):=r3 aBg
def Sr(h)(aM)(w):aO6 66 atC:=vZ aAB
def Ss(h)(aM)(w):aO6 67 atA:=vZ aAz
def MC(h)(aM a1)(w):t8 68 ayl (aRC B):=qF aAY
def St(h)(aM)(w):bc T bo nB 69 [aM] w=cW (b4 T nT ayk [oO,B] w):=vZ aAX
def Su(h)(aM)(w):aO6 70 aye:=vZ aAL
def ME(h)(aM)(w):bc T bo nB 71 [aM] w=cW (b4 T nT aqK [oO,B] w):=vZ aAU
def FO(h)(aM)(w):bc T bo nB 72 [aM] w=cW (b4 T nT ayj [oO,B,B] w):=vZ aAT
def Sv(h)(aM a1)(w):bc T bo nB 73 aRP w=afv w.z w (b4 T nT aqL (aV9 B) w):=Ii T nT aAV aRP w e e
def Sw(h)(aM a1)(w):t8 74 atD [oO,pC,B,B,B]:=qF aAM
def Sx(h)(aM a1 a2 a3)(w):xy 75 atE [oO,pC,pc,wE,B,B,B]:=xx aAO
def Sy(h)(aM a1)(w):t8 76 aqN [oO,pC,B,B,B,B,B,B,B]:=qF aA1
def Sz(h)(aM a1 a2 a3)(w):xy 77 aqM [oO,pC,pc,wE,B,B,B,B,B,B,B,B,B,B,B,B,B]:=xx aAW
def DQ(h)(aM a1)(w):t8 78 ayh [oO,pC,B,B,B]:=qF aAQ
def Ji(h)(aM a1)(w):t8 79 ayf (aRC B):=qF aAN
def Jk(h)(aM a1 a2)(w):r4 80 ayd (aRC pc):=r3 aAK
def SA(h)(aM)(w):bc T bo nB 81 [aM] w=cW (b4 T nT aym [oO,B] w):=vZ aAZ
def SB(h)(aM a1 a2 a3)(w):xy 82 ayi [oO,pC,pc,wE,B]:=xx aAR
def Hg(h)(aM a1 a2)(w):r4 83 ayg [oO,pC,pc,B,B,B]:=r3 aAP
def SC(h)(aM a1 a2)(w):r4 84 atF [oO,pC,pc,B,B,B,B,B,B,B,B]:=r3 aAS
def SD(h)(aM a1 a2)(w):r4 85 ayn (aV9 pc):=r3 aA0
def SE(h)(aM)(w):bc T bo nB 87 [aM] w=cW (b4 T nT atx [oO,B] w):=vZ aAl
def Jl(h)(aM a1)(w):t8 88 aty (yD B):=qF aAm
def SF(h)(aM a1 a2 a3)(w):xy 89 att [oO,pC,pc,wE]:=xx az9
def SH(h)(aM a1)(w):zO 90 atw:=qF aAk
def SI(h)(aM a1)(w):zO 91 axT:=qF aAj
def SJ(h)(aM a1)(w):zO 92 axN:=qF aAc
def SK(h)(aM a1 a2)(w):r4 93 atv (yD pc):=r3 aAe
def Jm(h)(aM a1 a2)(w):r4 94 axO (yD pc):=r3 aAd
def SL(h)(aM)(w):aO6 95 axP:=vZ aAf
def SM(h)(aM a1)(w):zO 96 axQ:=qF aAg
def SN(h)(aM)(w):aO6 97 atu:=vZ aAa
def MF(h)(aM a1 a2 a3)(w):xy 98 axM [oO,pC,pc,wE]:=xx aAb
def MG(h)(aM a1 a2 a3)(w):xy 99 axR [oO,pC,pc,wE]:=xx aAh
def R8(h)(aM a1 a2 a3)(w):xy 100 axS [oO,pC,pc,wE]:=xx aAi
def Dh(O)(cf)(d)(h)(l)(w):oC (.be d h)=rr (ox (gz O nh nk h) y (y,nh)):=e
def Adl(O)(cf)(d o)(l)(w):oC (.aT d o)=rr (aQu o (aQJ (eC oI nk oq))):=e
def Add(O)(cf)(p)(d o)(l)(w):oC (.aX p d o)=rr (aQu o (aQJ (f1 oI p nk oq))):=e
def Qu(O)(cf)(p)(d o)(l)(w):oC (.dM p d o)=rr (aQu o (aQJ (lY oI p nk oq))):=e
def Qv(O)(cf)(ac)(Aa)(l)(w):oC (.bp ac Aa)=(aN1).bP fun n=>cf ac nk nh:=e
def Lw(O)(cf)(d)(h)(Aa)(l)(w):oC (.eT d h Aa)=rr ((my O nh nk h).bP fun ac=>(h0 O cf Aa l nh).bP fun t=>cf ac (nk::oq) oI):=e
def Adn(O)(cf)(d)(l)(w):oC (.ir d)=rr (ox xG g (n5 (! g),nh)):=e
def Iz(O)(cf)(q)(l)(w):oC (.ju n')=c (pf (-q),w):=e
def Qx(O)(cf)(x f g)(l)(w):oC aN8=(o0 aU x).bP fun n=>(xG).bP fun bZ=>wA bZ (aU O cf f l nh) (aU O cf g l nh):=e
def Dj(O)(cf)(d)(l)(w):oC (.c9 d)=rr (ox (z3 lN) i (.m i.z,nh)):=by show(zZ).bP (w5 (ox (z3 acN) y (y,nh)))=_;unfold acN;simp only[ap.aeN];rfl
def Ar(O)(cf)(l)(w):o0 h0 .C=c ([],w):=e
def Ade(O)(cf)(d)(Aa)(l)(w):pU h0 u6=rr (ox (h0 O cf Aa l nh) t (nk::oq,oI)):=e
def IC(O)(cf)(Aa)(l)(w):oC (nE Aa)=ox aN1 n (nE nk,nh):=e
def Qy(O)(cf)(Aa)(l)(w):oC (oh Aa)=ox aN1 n (oh nk,nh):=e
def GY(O)(cf)(d)(l)(w):pU adb (.s d .C)=zZ:=by show(zZ).bP c=_;exact ap.aGA _
def Lt(O)(cf)(d a5)(Aa)(l)(w):pU adb (.s d (.s a5 Aa))=rr ((xG).bP fun g=>wA g (adb O cf (.s a5 Aa) l nh) (c n)):=e
def Adp(O)(cf)(d)(l)(w):pU afs (.s d .C)=zZ:=by show(zZ).bP c=_;exact ap.aGA _
def Adq(O)(cf)(d a5)(Aa)(l)(w):pU afs (.s d (.s a5 Aa))=rr ((xG).bP fun g=>wA g (c n) (afs O cf (.s a5 Aa) l nh)):=e
def En(O)(cf)(Aa)(l)(w):oC (.eB Aa)=o0 adb Aa:=e
def Ado(O)(cf)(Aa)(l)(w):oC (.or Aa)=o0 afs Aa:=e
def Bl(O)(cf)(q)(l)(w):oC Ė=(rS l).afO.au fun y=>(y,w):=e
def Di(O)(cf)(h)(y)(l)(w):oC (.bL h y)=c (y,w):=e
def Ao(O)(cf)(y)(l)(w):oC (.m y)=c (.m y,w):=e
def DI(O)(cf)(y)(l)(w):oC (og y)=c (og y,w):=e
def Fv(O)(cf)(y)(l)(w):oC rK=c (rK,w):=e
def IB(O)(cf)(l)(w):o0 aU .B=c (.B,w):=e
def Bg(O)(cf)(l)(w):o0 b4 .C=c (na,l,w):=e
def Eo(O)(cf)(k)(g)(l)(w):pU b4 (.s k g)=aqZ (o0 dP k) fun bW a4=>b4 O cf g bW a4:=e
def Kl(l)(w)(o):aqZ aQR o=o l w:=e
def QC(O)(cf)(d)(l)(w):pU dP (.f_ d)=rr (t' na nh):=e
def QA(O)(cf)(q)(d)(l)(w):pU dP (.ci q d)=rr (c (na,Ÿ (c nk),nh)):=e
def AdD(O)(cf)(q)(d)(l)(w):pU dP (.age q d)=rr (c (na,Ÿ (c nk),nh)):=e
def QD(O)(cf)(d)(l)(w):pU dP (s6 d)=rr (t' (s6 nk) nh):=e
def IE(O)(cf)(x)(f g)(l)(w):pU dP aN8=(o0 aU x).bP fun n=>(xG).bP fun bZ=>wA bZ (b4 O cf f l nh) (b4 O cf g l nh):=e
def AdE(O)(cf)(l)(w):o0 dP .alK=c (na,l,w):=e
def J_(i:nC)(q:u):((ab2 i.z (nc q)).bP fun aq=>Ã i)=rS i:=by rw[NU];split;rfl;rename_i b;rw[r.aii (m4 (u.mO.1 b))];rfl
def E7(w)(i)(q:u):pE w o9 (.m (nc q))=rS i:=J_ i q
def Du(w)(i)(q:u):pE w q2 (.m (nc q))=rS i:=J_ i q
def Cq(w)(f)(i)(q:u)(b:aPd rj):pE w rY (.m (nc q))=rS i:=aSd eC b (J_ i q)
def B5(w)(f)(i):pE w (qL (f::i)) nr=c f:=E7 w _ 0
def D4(w)(f g)(i):pE w (qL (f::g::i)) nG=c g:=E7 w _ 1
def Oe(w)(f g x)(i):pE w (qL (f::g::x::i)) rn=c x:=E7 w _ 2
def Of(w)(f g x aj)(i):pE w (qL (f::g::x::aj::i)) uN=c aj:=E7 w _ 3
def Wo(w)(f g x aj d)(i):pE w (qL (f::g::x::aj::d::i)) Ç=c d:=E7 w _ 4
def Wp(w)(f g x aj d ac)(i):pE w (qL (f::g::x::aj::d::ac::i)) (.m 5)=c ac:=E7 w _ 5
def Wr(w)(i)(f)(b:i.ark=c f):pE w o9 us=c f:=by rw[oT i (by rw[xF]) j l (by rw[m1 (ab2 (j::l).z (-1)=c l.z) (by rw[m1 (¬tM≤-1) nw,mY t1,m1 (tM≤-1+nc (j::l).z) (yg r.kZ (XY _)),mY d2,m1 ((-1+nc (j::l).z).es=l.z) (yg r.kZ (XZ _)),mY j9];unfold ab2;rw[cH t1,c0 d2,j9]),mY d];simp only[eC,d,ap.eO];rw[pr r.aHx];simpa using b)]
abbrev av4(w:ch)(y:ar):ar×ch:=(y,w)
abbrev avB(O:mE)(h:ea)(n:ar×ch):w0:=(gz O nh nk h).au (av4 nh)
def Ww(O)(h)(y)(w):avB O h (y,w)=(gz O w y h).au (av4 w):=e
def AcO(O)(cf)(d)(h)(l)(w):oC (.be d h)=(zZ).bP (avB O h):=Dh O cf d h l w
abbrev aJV(cf:iV)(ac:u)(y:ar)(t:nC×ch):w0:=cf ac (y::oq) oI
abbrev aJU(O:mE)(cf:iV)(Aa:hG)(l:du)(y:ar)(w:ch)(ac:u):w0:=(aN1).bP (aJV cf ac y)
abbrev aJT(O:mE)(cf:iV)(h:ea)(Aa:hG)(l:du)(n:ar×ch):w0:=(my O nh nk h).bP (aJU O cf Aa l nk nh)
def Qo(O)(cf)(d)(h)(Aa)(l)(w):oC (.eT d h Aa)=(zZ).bP (aJT O cf h Aa l):=Lw O cf d h Aa l w
def w_var(O)(cf)(q)(l)(w):oC Ė=(rS l).afO.au (av4 w):=o0 Bl q
def Ba(w)(q x)(fs)(h)(y)(b:aSB)(b2:T.abp x h=F)(aJ:aS1=c y):gz T w n3 h=c y:=by simp only[gz,aam,agz,b,b2,aJ,fU]
def CX(w)(q x ac)(fs)(h)(b:aSB)(b2:T.eT x h=c ac)(aJ:aS1=B):my T w n3 h=c ac:=by simp only[my,aam,agz,b,b2,aJ,ap.eO,ap.aJK,fU]
mutual variable(a:aH)
def RK:ð oW "rows" 2:=aPO 1 0 A1
def RJ:ð oW "index" 3:=aPO 1 0 A1
def RI:ð oW "decls" 4:=aPO 1 0 A1
def I2:ð oW "bounds" 5:=aPO 1 0 A1
def L9:ð oW "defaults" 6:=aPO 1 0 A1
def L_:ð oW "names" 7:=aPO 1 0 A1
def Q9:w_ tJ "tab"=c oW:=aPO 11 2 J2
def L2:w_ nQ "host"=c tJ:=ŗ
def Rt:rm (w_ nQ "mode") 4:=ŗ
def Rv:ð nQ "rules" 13:=ŗ
def L1:ð nQ "assumed" 14:=ŗ
def Rq:ð nQ "known" 15:=ŗ
def L4:ð nQ "trail" a.gl:=ŗ
def Ru:ð nQ "road" 17:=ŗ
def Rp:rm (w_ nQ "deep") a.e5:=ŗ
def Rr:rm (w_ nQ "looks") a.c2:=ŗ
def L3:ð nQ "notes" 18:=ŗ
def Rw:w_ nQ "telling"=c oX:=ŗ
def Rs:w_ nQ "missing"=c (og a.k1):=ŗ
def LU:ð (.D 18) "rows" 19:=aPO 18 4 UX
def Fa:aOl oW "put" 88:=CX _ 1 0 88 _ _ (A1 a) e e
def Xl:aOl tJ "force" 91:=CX _ 11 2 91 _ _ (J2 a) e e
def Xm:aOl tJ "shape" 92:=CX _ 11 2 92 _ _ (J2 a) e e
def OQ:aOl nQ "ask" 94:=CX _ 12 3 94 _ _ (BY a) e e
def Xn:aOl nQ "mark" 95:=CX _ 12 3 95 _ _ (BY a) e e
def Xo:aOl nQ "note" 96:=CX _ 12 3 96 _ _ (BY a) e e
def Xp:aOl (.D 20) "holds" 98:=CX _ 20 5 98 _ _ (UY a) e e
def Xq:aOl (.D 21) "holds" 99:=CX _ 21 6 99 _ _ (UZ a) e e
def Xr:aOl (.D 22) "holds" 100:=CX _ 22 7 100 _ _ (U0 a) e e
end
abbrev f0(O:mE)(cf:iV)(g:cx)(l:du)(w:ch):lV:=o0 b4 g
def DM(O)(cf)(g)(l)(w):o0 f0 g=o0 b4 g:=e
def ID(O)(cf)(q)(d)(g)(l)(w):pU dP (.jd q d g)=rr ((z3 kn).bP fun t=>fZ aRd q oI oq l nh):=e
def Ly(O)(cf)(q)(Aa)(g)(l)(w):pU dP (.mn q Aa g)=(aN1).bP fun n=>(acc nk).bP fun i=>fZ aRd q B i l nh:=e
def Fw(O)(cf)(x)(g)(l)(w):pU dP (.ag2 x g)=ae8 (adA O cf x) aRd al0 l w:=e
def Lz(O)(cf)(d o j)(l)(w):pU dP (.jl d o j)=(o0 aU j).bP fun n=>aQu d (zI oq ((aU O cf o l oI).bP fun V=>ox (lm V.2 q V.1 nk) bJ (na,l,bJ))):=e
def CG(O)(cf)(d j)(l)(w)(q)(a4 dm)(y)(i aeL)(Q:uw n3)(bf:pO a4 (oU aeL))(h2:aNJ j=c (y,dm))(h3:pO dm rj)(h4:zD):oC (.hq d j)=c (.B,aOH (.aw (i++[y]))):=by show ì zZ=_;rw[Q];show ì (aNJ j)=_;rw[h2];show(afk a4 dm q y).au _=_;delta afk;rw[c0 (Wg bf),J5 h3,c0 h4];rfl
def C6(O)(cf)(Aa)(l)(w):oC (.hw Aa)=ox aN1 n (.D (nh).z,nh++[oU nk]):=e
def IA(O)(cf)(g)(l)(w):oC (.lK g)=c (.D w.z,w++[if g then sj else nS]):=e
def BG(g)(k)(l)(w):fZ g k B [] l w=c (na,l,w):=by simp only[NF]at⊢;rfl
def EV(g)(k)(j)(xs)(l)(w):fZ g k B qi l w=afw (g (aNO k) w) (fZ g k B xs):=by simp only[NG]at⊢;kernel_rfl!
def NB(l)(w)(o):afw aQR o=o l w:=e
def UN(y)(l)(w)(o):afw (t' rO w) o=c (rO,l,w):=e
def BO(g:aS9)(k)(j)(xs)(l)(w)(bW)(a4)(b:g (aNO k) w=c (na,bW,a4)):fZ g k B qi l w=fZ g k B xs bW a4:=q0 EV b
def HF(g)(k)(x)(j)(xs)(l)(w)(b:AY x w=F):fZ g k x qi l w=afw (g (aNO k) w) (fZ g k x xs):=by simp only[NG]at⊢;simp only[b,fU]
def F9(g)(k)(x)(l)(w)(b:AY x w=F):fZ g k x [] l w=c (na,l,w):=by simp only[NF]at⊢;simp only[b,fU]
abbrev ago(O:mE)(cf:iV)(d:dz)(l:du)(w:ch):w0:=zZ
abbrev ahC(O:mE)(cf:iV)(d:hG)(l:du)(w:ch):aRR N:=o0 ahq d
def Uc(O)(cf)(d)(l)(w):o0 ago d=zZ:=e
def HQ(O)(cf)(d)(l)(w):o0 ahC d=o0 ahq d:=e
def Iy(O)(cf)(gD)(k)(gQ)(gP)(l)(w):oC (.go gD k gQ gP)=(o0 aU gQ).bP fun n=>(z3 kn).bP fun t=>ox (abk (ago O cf gD) (ahC O cf gP) k oI oq l nh) V (oh V.1,V.2):=e
def Qw(O)(cf)(l)(w):o0 ahq .C=c (F,w):=e
def Lv(O)(cf)(d)(l)(w):pU ahq (.s d .C)=rr (ox xG g (g,nh)):=by show ì zZ=_;rw[uh];funext n;rw[tm xG (by rfl) g (by rw[ć g N.ae])]
def Jp{cg:Type}(gD)(gP)(k)(x)(l)(w)(hc:AY x w=F)(d)(n)(ac)(i:Ë)(ba:oG i (gP (l.b6 k (c (d j))) w=c (n j,w)))(b2:oG i (n j=F→gD (l.b6 k (c (d j))) w=c (ac j,w))):aWi k (i.au d) l w=c ((i.afu n).au ac,w):=qb i (by simp[FQ,FR,hc]) j i (by have aDk:=ih (aRo ba) (aRo b2);simp only[r.gI,FQ,FR,hc,fU,aUK ba];induction J:n j using N.ae with|Y=>simp[aDk,r.aoE,J]|F=>simp[b2 j tG J,aDk,r.aoE,J])
inductive jF where|K|aP|y(j:ar)|b(j:ar)(a:aH)|k(fl:ls)(l:du)(a:aH)
abbrev axJ(a:aH)(q:u)(h:ea):pl:=ant [(1,"rows",.D 2),(1,"index",.D 3),(1,"decls",.D 4),(1,"bounds",.D 5),(1,"defaults",.D 6),(1,"names",.D 7),(11,"tab",oW),(12,"host",tJ),(12,"mode",Ç),(12,"rules",.D 13),(12,"assumed",.D 14),(12,"known",.D 15),(12,"trail",.D a.gl),(12,"road",.D 17),(12,"deep",.m a.e5),(12,"looks",.m a.c2),(12,"notes",.D 18),(12,"telling",oX),(12,"missing",og a.k1),(18,"rows",.D 19)] q h
abbrev aEI(h:ea):N:=["rows","index","decls","bounds","defaults","names","tab","host","mode","rules","assumed","known","trail","road","deep","looks","notes","telling","missing"].afo h
abbrev avM(q:u)(h:ea):ap u:=ant [(1,"put",88),(11,"force",91),(11,"shape",92),(12,"ask",94),(12,"mark",95),(12,"note",96),(20,"holds",98),(21,"holds",99),(22,"holds",100)] q h
inductive hX{cg:Type}(j:cg):Prop
def hX.az{cg}{j:cg}{W:Prop}(b:hX j):W:=aOi
noncomputable abbrev aqu:=ar→aH→uk→Prop→Prop
noncomputable abbrev aFT:=nC→aH→uk→Prop→Prop
noncomputable abbrev anP:=ls→du→aH→uk→Prop→Prop
abbrev aE2(y:ar)(a:aH)(i:uk)(f:Prop)(o:N→uk→Prop→Prop):Prop:=oo i (.y qz::i) (o g i (f∧aTy a.G)) (hX (iH a.G y))
abbrev ap9(y:ar)(a:aH)(i:uk)(f:Prop)(o:N→uk→Prop→Prop):Prop:=match y with|qz=>o g i f|.B=>o Y i f|y=>aE2 y a i f o
abbrev ask(p:pl)(a:aH)(i:uk)(f:Prop)(M:aqu):Prop:=match i with|.y j::i=>M j a i (f∧p=c j)|.K::i=>(match p with|c j=>M j a i f|B=>hX p)|_=>hX p
abbrev an4(p:w0)(a:aH)(i:uk)(f:Prop)(M:aqu):Prop:=match i with|.y j::i=>M j a i (f∧oD p j)|.b j z'::i=>M j z' i (f∧qf p j)|_=>hX p
abbrev atr(p:aQh)(i:uk)(f:Prop)(M:aH→uk→Prop→Prop):Prop:=oo i (.b _ z'::i) (M z' i (f∧p=c z'.G)) (hX p)
abbrev akM(bD:du→aH→uk→aUd anP)(q:u):nC→du→aH→uk→aUd anP|[],l,a,i,f,M=>M na l a i f|qi,l,a,i,f,M=>bD (Ÿ (c j)) a i f fun fl l a i f=>match fl with|na=>akM bD q xs l a i f M|.abl=>akM bD q xs l a i f M|.ahl=>M na l a i f|rO=>M rO l a i f
mutual variable(cf:iV)
mutual
abbrev i':dz→du→aH→uk→aUd aqu|.B,_,a,i,f,M=>M .B a i f|qz,_,a,i,f,M=>aPI qz|n',_,a,i,f,M=>aPI n'|ur,_,a,i,f,M=>aPI ur|Ė,l,a,i,f,M=>(match(rS l).afO with|qu=>M y a i f|B=>hX q)|.bL _ y,_,a,i,f,M=>M y a i f|nE Aa,l,a,i,f,M=>akL Aa l a i f fun vs a i f=>aPI (nE vs)|oh Aa,l,a,i,f,M=>akL Aa l a i f fun vs a i f=>aPI (oh vs)|.be d h,l,a,i,f,M=>(i' d l a i f fun p a i f=>match aEI h with|F=>(oo p n3 (match axJ a q h with|qu=>M y a i f|B=>hX h) (hX h))|Y=>ask (gz T a.G p h) a i f M)|.aT d o,l,a,i,f,M=>i' d l a i f fun p a i f=>i' o l a i f fun q a i f=>ask (eC a.G p q) a i f M|.dM p j ab,l,a,i,f,M=>i' j l a i f fun j a i f=>i' ab l a i f fun ab a i f=>ask (lY a.G p j ab) a i f M|.ju d,l,a,i,f,M=>(i' d l a i f fun y a i f=>oo y n' (aPI (pf (-q))) (hX y))|.aX p j ab,l,a,i,f,M=>i' j l a i f fun j a i f=>i' ab l a i f fun ab a i f=>ask (f1 a.G p j ab) a i f M|.eB Aa,l,a,i,f,M=>amx F Aa l a i f M|.or Aa,l,a,i,f,M=>amx Y Aa l a i f M|.ir d,l,a,i,f,M=>i' d l a i f fun y a i f=>ap9 y a i f fun g i f=>aPI (n5 (! g))|.bC x j ab,l,a,i,f,M=>(i' x l a i f fun y a i f=>ap9 y a i f fun g i f=>match g with|F=>i' j l a i f M|Y=>i' ab l a i f M)|.bp ac Aa,l,a,i,f,M=>akL Aa l a i f fun vs a i f=>an4 (cf ac vs a.G) a i f M|.eT d h Aa,l,a,i,f,M=>(i' d l a i f fun p a i f=>oo p n3 (match avM q h with|c ac=>akL Aa l a i f fun vs a i f=>an4 (cf ac (n3::vs) a.G) a i f M|B=>hX h) (hX h))|.c9 d,l,a,i,f,M=>i' d l a i f fun y a i f=>ask (acN a.G y) a i f M|.hq d j,l,a,i,f,M=>(i' d l a i f fun p z1 i f=>i' j l z1 i f fun y a i f=>oo p n3 (atr (afk z1.G a.G q y) i f fun a i f=>M .B a i f) (hX p))|.aa4 d,l,a,i,f,M=>(i' d l a i f fun y a i f=>match y with|uW=>aPI pb|xk=>aPI oX|_=>hX y)|d,l,a,i,f,M=>an4 (å d a.G) a i f M
abbrev akL:hG→du→aH→uk→aUd aFT|.C,_,a,i,f,M=>M [] a i f|u6,l,a,i,f,M=>i' d l a i f fun y a i f=>akL Aa l a i f fun vs a i f=>aPI (y::vs)
abbrev amx(p:N):hG→du→aH→uk→aUd aqu|.C,_,_,_,_,_=>hX p|u6,l,a,i,f,M=>i' d l a i f fun y a i f=>match Aa with|.C=>M y a i f|m7 .s=>ap9 y a i f fun g i f=>match g,p with|F,F=>amx p Aa l a i f M|Y,Y=>amx p Aa l a i f M|_,_=>M y a i f
end
mutual
abbrev atO:md→du→aH→uk→aUd anP|.f_ d,l,a,i,f,M=>aPe (fun P a i f=>M na l a i f)|.ci q d,l,a,i,f,M=>aPe (fun y a i f=>M na (Ÿ qu) a i f)|.age q d,l,a,i,f,M=>aPe (fun y a i f=>M na (Ÿ qu) a i f)|.acg is d,l,a,i,f,M=>(aPe (fun y a i f=>oo y (nE vs) (match aTp with|c bW=>M na bW a i f|B=>hX y) (hX y)))|.bC x j ab,l,a,i,f,M=>(i' cf x l a i f fun y a i f=>ap9 y a i f fun g i f=>match g with|F=>agm j l a i f M|Y=>agm ab l a i f M)|s6 d,l,a,i,f,M=>aPe (fun y a i f=>M rO l a i f)|.abl,l,a,i,f,M=>M .abl l a i f|.jd q d g,l,a,i,f,M=>(aPe (fun y a i f=>match i with|.k fl r' z'::i=>M fl r' z' i (f∧aSN ((kn a.G y).bP fun t=>fZ (f0 T cf g) q oI oq l a.G))|vh::i=>(match y with|nE vs=>akM (fun l a i f M=>agm g l a i f M) q vs l a i f M|oh vs=>akM (fun l a i f M=>agm g l a i f M) q vs l a i f M|_=>hX y)|_=>hX (kn a.G y)))|.alK,l,a,i,f,M=>M na l a i f|.mn q Aa g,l,a,i,f,M=>(akL cf Aa l a i f fun vs a i f=>match i with|.k fl r' z'::i=>M fl r' z' i (f∧aSN ((acc vs).bP fun t=>fZ (f0 T cf g) q B t l a.G))|vh::i=>(match acc vs with|c t=>akM (fun l a i f M=>agm g l a i f M) q t l a i f M|B=>hX vs)|_=>hX (acc vs))|.jl d o j,l,a,i,f,M=>(i' cf j l a i f fun y a i f=>aPe (fun p a i f=>oo p n3 (i' cf o l a i f fun e7 a i f=>atr (lm a.G q e7 y) i f fun a i f=>M na l a i f) (hX p)))|st,l,a,i,f,M=>oo i (.k fl r' z'::i) (M fl r' z' i (f∧aSN (aPA dP st))) (hX (aPA dP st))
abbrev agm:cx→du→aH→uk→aUd anP|.C,l,a,i,f,M=>M na l a i f|.s k g,l,a,i,f,M=>atO k l a i f fun fl l a i f=>match fl with|na=>agm g l a i f M|fl=>M fl l a i f
end
end
def Xg{gn:Type}{j}{aj}:∀{i:rC ea gn},rR i.cm aj→(j,aj)∈i|(ab,d)::l,b=>by rw[xh r.aa6];split at b;rename_i t;rw[nf b,om,mY b,pq,lb.1 t,mW uA,mW (aQV (Xg b))]
def AV{cg:Type}{W:cg→Prop}{f}{i}(b:W f)(h2:∀t∈i,W t):∀t∈f::i,W t:=rW r.aum.2 b h2
def L'(a)(q)(h)(y)(b:axJ a q h=c y):w_ n3 h=c y:=(AV (W:=fun t:u×ea×ar=>w_ (.D oq) (nj t)=c (nW t)) (RK a) (AV (RJ a) (AV (RI a) (AV (I2 a) (AV (L9 a) (AV (L_ a) (AV (Q9 a) (AV (L2 a) (AV (Rt a) (AV (Rv a) (AV (L1 a) (AV (Rq a) (AV (L4 a) (AV (Ru a) (AV (Rp a) (AV (Rr a) (AV (L3 a) (AV (Rw a) (AV (Rs a) (AV (LU a) (fun ψ b=>aQy b))))))))))))))))))))) _ (Lh (gn:=ar) _ b)
def Xi(a:aH)(q)(h)(ac)(b:avM q h=c ac):my T a.G n3 h=c ac:=(AV (W:=fun t:u×ea×u=>aOl (.D oq) (nj t) (nW t)) (Fa a) (AV (Xl a) (AV (Xm a) (AV (OQ a) (AV (Xn a) (AV (Xo a) (AV (Xp a) (AV (Xq a) (AV (Xr a) (fun ψ b=>aQy b)))))))))) _ (Lh (gn:=u) _ b)
def FH{p}{a}{i}{f}{M}(b:ask p a i f M):∃j l' dE,aN9 (M j a l' dE) (p=c j):=by rw[ï (by rw[aOD]) j (by induction j using jF.ae with|y j=>exact(A9 _ _ _ b id)|K=>(induction p using ap.ae with|c j=>exact(n7 A9 b (w5 (qS n)))|B=>rw[aOD])|_=>rw[aOD])]
def IZ{p}{a}{i}{f}{M}(b:an4 p a i f M):∃j z' l' dE,aN9 (M j z' l' dE) (qf p j):=by rw[ï (by rw[aOD]) j (by induction j using jF.ae with|y j=>exact(ni AQ b id)|b j z'=>exact(ni AQ b id)|_=>rw[aOD])]
def Acs{y:ar}{a:aH}{i:uk}{f:Prop}{o:N→uk→Prop→Prop}(b:aE2 y a i f o):∃g l' dE,aN9 (o g l' dE) (aTy a.G):=by rw[ï (by rw[aOD]) j (by induction j using jF.ae with|y j=>(rw[qO j aO g (by exact(A9 _ _ _ b id)) (by rw[aOD])])|_=>rw[aOD])]
def Iv{y}{a}{i}{f}{o}(b:ap9 y a i f o):∃g l' dE,aN9 (o g l' dE) (aTy a.G):=by induction y using ar.ae with|aO g=>exact(n7 A9 b (fun f=>qS f))|B=>exact(n7 A9 b (fun f=>qS f))|_=>exact Acs b
abbrev hS(cf:iV)(d:dz):Prop:=∀l a i f M,aPe M→∃j z' l' dE,aN9 (M j z' l' dE) (qf (å d a.G) j)
abbrev ah5(cf:iV)(Aa:hG):Prop:=∀l a i f M,akL cf Aa l a i f M→∃j z' l' dE,aN9 (M j z' l' dE) (qf (aPA h0 Aa) j)
abbrev aq9(cf:iV)(p:N)(Aa:hG)(l:du)(w:ch):w0:=match p with|F=>adb T cf Aa l w|Y=>afs T cf Aa l w
abbrev amh(cf:iV)(Aa:hG):Prop:=∀p l a i f M,amx cf p Aa l a i f M→∃j z' l' dE,aN9 (M j z' l' dE) (qf (aq9 cf p Aa l a.G) j)
mutual variable{cf:iV}
def B2{d}(aj:∀l a i f M,aPe M=an4 (å d a.G) a i f M):yB:=qB (IZ (aj l a i f M▸b))
def Gw{d}{y}(aj:∀l a i f M,aPe M=M y a i f)(t:∀l w,aQZ d=c (y,w)):yB:=qB (AQ y a i f (aj l a i f M▸b) (fun f=>⟨f,m7 t⟩))
def Y4(q):wY Ė:=qB (by replace b:(match(rS l).afO with|qu=>M y a i f|B=>hX q):=b;induction d:(rS l).afO using ap.ae with|c y=>rw[pr d,mW (ni AQ b (fun f=>⟨f,sg Bl d⟩))]|B=>rw[xh d,mW b.az])
def Y3{Aa}(g:aVr):wY (nE Aa):=qB (by rw[zE vs,mW (vN (qx n (sg IC v5)))])
def YY{Aa}(g:aVr):wY (oh Aa):=qB (by rw[zE vs,mW (vN (qx n (sg Qy v5)))])
def YQ{d}{h}(g:yB):wY (.be d h):=qB (by rw[zE p,pI hs (aEI h) (by rw[pr hs];dsimp only at b;(rw[qO p D q (by dsimp only at b;split at b;rename_i y d;rw[mW (vN (qx n (by rw[aPU Dh v5 (L' z1 q h y d)];rfl))),mW b.az]) (by rw[yf])])) (by rw[pr hs,mX AD (FH b) fun j kG a2 b da=>?_,mW (vN (qx (da n).1 (by rw[aPU Dh (t (da n).1).2 aUX];rfl)))])])
def YW{d o}(g:yB)(x:hS cf o):wY (.aT d o):=qB (by rw[zE p,mX AA (wm x) fun q bz kG a2 b da=>?_,mX AD (FH b) fun j ab4 a3 b fC=>?_,mW (aUW (by simp only[Adl,tT,ap.eO,aPz,ap.eO,yw];rfl))])
def YR{p}{d o}(g:yB)(x:hS cf o):wY (.dM p d o):=qB (by rw[zE P,mX AA (wm x) fun q bz kG a2 b da=>?_,mX AD (FH b) fun j ab4 a3 b fC=>?_,mW (aUW (by simp only[Qu,tT,ap.eO,aPz,ap.eO,yw];rfl))])
def YT{p:ai7}{d o:dz}(g:yB)(x:hS cf o):wY (.aX p d o):=qB (by rw[zE P,mX AA (wm x) fun q bz kG a2 b da=>?_,mX AD (FH b) fun j ab4 a3 b fC=>?_,mW (aUW (by simp only[Add,tT,ap.eO,aPz,ap.eO,yw];rfl))])
def Y0{d}(g:yB):wY (.ju d):=qB (by rw[zE y,qO y m q (by exact(vN (qx n (by rw[aRz v5];rfl)))) (by rw[yf])])
def Y1{d}(g:yB):wY (.ir d):=qB (by rw[zE y,mX AD (Iv b) fun v kG a2 b da=>?_,mW (vN (have dN:=(da n).1;qx dN (by rw[aPU Adn tT aUX];rfl)))])
def YV{x j ab}(g:hS cf x)(aj:hS cf j)(d:hS cf ab):wY (.bC x j ab):=qB (by rw[zE y,mX AD (Iv b) fun v kG a2 b da=>?_,rs v (by rw[mX AA (wm aj) fun j e3 ab4 a3 b fC=>?_,mW (aUW (by rw[Qx,tT,ap.eO,aPz,mW yw]))]) (by rw[mX AA (wm d) fun j e3 ab4 a3 b fC=>?_,mW (aUW (by rw[Qx,tT,ap.eO,aPz,mW yw]))])])
def YS{ac}{Aa}(g:aVr):wY (.bp ac Aa):=qB (by rw[zE vs,mX AA (IZ b) fun j bz kG a2 b da=>?_,mW (vN (have dN:=(da n).1;qx dN (by simp only[Qv,tT,ap.eO];exact aUX)))])
def YZ{d}{h}{Aa}(aj:yB)(g:aVr):wY (.eT d h Aa):=qB (by rw[mX AA (wm aj) fun p gm aeL aM b hk=>?_,qO p D q (by dsimp only at b;split at b;rename_i ac b2;rw[zE vs,mX AA (IZ b) fun j bz kG a2 b da=>?_,mW (vN (have dN:=(da n).1;have aca:=(t dN).1;⟨(hk aca).1,by simp only[Lw,(hk aca).2,ap.eO,Xi gm q h ac b2,ap.eO,tT,ap.eO];exact aUX⟩)),mW b.az]) (by rw[yf])])
def YX{d}(g:yB):wY (.c9 d):=qB (by rw[zE y,mX AD (FH b) fun j kG a2 b da=>?_,mW (vN (have dN:=(da n).1;qx dN (by rw[aRz tT];simp only[ap.eO,aUX];rfl)))])
def L7{p}{i}{f}{M}(b:atr p i f M):∃z' l' dE,aN9 (M z' l' dE) (p=c z'.G):=by rw[ï (by rw[aOD]) j (by induction j using jF.ae with|b j z'=>exact(A9 _ _ _ b id)|_=>rw[aOD])]
def YP{d j}(g:yB)(x:hS cf j):wY (.hq d j):=qB (by rw[m3 AA (wm g),om,mY p z1 ip a1 b t,m3 AA (wm x),om,mY y bz kG a2 b da,qO p D q (by rw[m3 AD (L7 b),om,mY e3 ab4 a3 b fC,mW (aUW (by rw[aRz tT];show ì (å j z1.G)=_;simp only[aPz,ap.eO,yw];rfl))]) (by rw[yf])])
def YU{d}(g:yB):wY (.aa4 d):=qB (by rw[zE y];induction y using ar.ae with|bi k=>exact(vN (qx n (by rw[aRz v5];rfl)))|m k=>exact(vN (qx n (by rw[aRz v5];rfl)))|_=>rw[yf])
def Y6:ah5 cf .C:=qB (vN ⟨n,oy⟩)
def Y5{d}{Aa}(g:yB)(x:aVr):ah5 cf u6:=qB (by rw[zE y,mX AA (wm x) fun vs bz kG a2 b da=>?_,mW (vN (have dN:=(da n).1;qx dN (by rw[aPU Ade tT aUX];rfl)))])
def Ut(p)(d)(l)(w):aq9 cf p (.s d .C) l w=aQZ d:=by rw[wD p];exact Adp ..;exact GY ..
def Nr(p)(d a5)(Aa)(l)(w a4)(y)(g)(b:o5 (aQZ d) y)(v:aTy a4):aq9 cf p (.s d (.s a5 Aa)) l w=ow g p (aq9 cf p (.s a5 Aa) l a4) (c (y,a4)):=by rw[wD p];show afs T cf _ l w=_;rw[Adq,b,ap.eO,v,mZ v];induction g using N.ae<;>rfl;show adb T cf _ l w=_;rw[Lt,b,ap.eO,v,mZ v];induction g using N.ae<;>rfl
def YL:amh cf .C:=fun p l a i f M b=>(b:hX p).az
def YK{d}{Aa}(g:yB)(x:amh cf Aa):amh cf u6:=fun p l a i f M b=>by rw[m3 AA (wm g),om,mY y z1 ip a1 b t];induction Aa using hG.ae with|C=>exact(vN (qx n (nb Ut v5)))|s a5 Aa=>rw[m3 AD (Iv b),mZ b,mY v kG a2 b da,nH ho v p];subst ho;rw[m1 (amx cf v (.s a5 Aa) l z1 kG a2 M) (by rw[mZ da,aOk v b]),om,mY b,m3 AA (nv (ni x) b),mZ b,mY j e3 ab4 a3 b fC,mW (aUW (tL (ni (Nr v d _ _) _ tT aPz) vp yw)),m1 (M y z1 kG a2) (by clear da;induction v using N.ae<;>induction p using N.ae<;>first|exact b|exact t_ ho e),om,nR,mW (vN (have dN:=(da n).1;qx dN (tg (ni (Nr p d _ _) _ tT aUX) (cH ho))))]
def YO{Aa}(x:amh cf Aa):wY (.eB Aa):=qB (by rw[mX AA (nv (ni x) b) fun j z' l' dE b t=>?_,mW (vN (qx n (by simp only[En]at⊢;exact v5)))])
def Y2{Aa}(x:amh cf Aa):wY (.or Aa):=qB (by rw[mX AA (nv (ni x) b) fun j z' l' dE b t=>?_,mW (vN (qx n (by simp only[Ado]at⊢;exact v5)))])
abbrev aF6(cf:iV)(Aa:hG):Prop:=aVr∧amh cf Aa
def Cy(d):yB:=by rw[mX (ss (ss (ss (ss (ss (nI dz.jB fW (hS cf) hv (aF6 cf)))))) ?_ ?_ d),mW Gw (fun P P P P P=>e) (IB T cf),mW fun g=>Gw (fun P P P P P=>e) (Fv T cf g),ú (fun g=>Gw (fun P P P P P=>e) (Ao T cf g)) (fun g=>Gw (fun P P P P P=>e) (DI T cf g)) Y4 (fun h y=>Gw (fun P P P P P=>e) (Di T cf h y)),ú (fun P g=>Y3 g.1) (fun P g=>YY g.1) (wW Ď) (nO Ď),ú (wb g (YQ g)) (fun P P g x=>YW g x) aVN aVN,ú aVN (wW Ď) (fun P P P g x=>YR g x) (fun P g=>Y0 g),ú (fun P P P g x=>YT g x) (fun P g=>YO g.2) (fun P g=>Y2 g.2) (fun P g=>Y1 g),ú (fun P P P g x aj=>YV g x aj) (wb g (YS g.1)) (wb P Ď) (fun P P P g x=>YZ g x.1),ú (fun P g=>YX g) (wW Ď) (wW Ď) (wW Ď),ú (wW Ď) aVN (fun P g=>YU g) aVN,ú aVN (fun P P g x=>YP g x) aVN (wW Ď),mW fun P P P P P P P=>Ď,mW Ď,mW ⟨Y6,YL⟩,mW fun P P g x=>⟨Y5 g x.1,YK g x.2⟩]
def Ra(Aa):aVr:=by rw[mY l a i f M b,mX AA (Cy (nE Aa) l a i f (fun y a i f=>oo y (nE vs) (M vs a i f) akt) b) fun j z' l' dE b t=>?_,qO j ay vs (by rw[mX AQ vs z' l' dE b (w5 ⟨(t n).1,?_⟩)];have d:=v5;simp only[IC]at d;(induction Q:aPA h0 Aa using ap.ae with|B=>rw[Q]at d;rw[yc]|c V=>rw[Q]at d;have aV:=ap.c.dB d;rw[m2 (ar.ay.dB (cr fK.fst aV)),mY a1,m2 (cr fK.snd aV),mY a2,mW cr c (fK.aaX a1 a2)])) (by rw[yf])]
end
abbrev afg(cf:iV)(k:md):Prop:=∀l a i f M,atO cf k l a i f M→∃fl r' z' l' dE,aN9 (M fl r' z' l' dE) (aSN (aPA dP k))
abbrev ahd(cf:iV)(k:cx):Prop:=∀l a i f M,agm cf k l a i f M→∃fl r' z' l' dE,aN9 (M fl r' z' l' dE) (aSN (aPA b4 k))
mutual variable{cf:iV}
abbrev aGw(p:lV)(i:uk)(f:Prop)(M:anP):Prop:=oo i (.k fl r' z'::i) (M fl r' z' i (f∧aSN p)) (hX p)
def D7{k}(aj:∀l a i f M,atO cf k l a i f M=aGw (aPA dP k) i f M):afg cf k:=qB (by rw[pr aj,ï (by rw[yf]) j (by induction j using jF.ae with|k fl r' z'=>exact(ni Bk _ b id)|_=>rw[yf])])
def Zo(d):aQx (.f_ d):=qB (by rw[mX AA (nv (oM Cy d) b) fun y z1 ip a1 b t=>?_,mW (tu (qx n (sg QC v5)))])
def Zl(q)(d):aQx (.ci q d):=qB (by rw[mX AA (nv (oM Cy d) b) fun y z1 ip a1 b t=>?_,mW (tu (qx n (sg QA v5)))])
def Zm(q)(d):aQx (.age q d):=qB (by rw[mX AA (nv (oM Cy d) b) fun y z1 ip a1 b t=>?_,mW (tu (qx n (by simp only[AdD,v5]at⊢;rfl)))])
def Zt(d):aQx (s6 d):=qB (by rw[mX AA (nv (oM Cy d) b) fun y z1 ip a1 b t=>?_,mW (tu (qx n (sg QD v5)))])
def Zv(is:nq)(d:dz):aQx (.acg is d):=qB (by rw[m3 AA (nv (oM Cy d) b),om,mY y z1 ip a1 b t,qO y ay vs (by replace b:(match aTp with|c bW=>M na bW z1 ip a1|B=>hX (ar.ay vs)):=b;(induction hs:aTp using ap.ae with|B=>rw[xh hs,mW b.az]|c bW=>rw[pr hs,mW (tu (qx n (by show ap.bP (å _ a.G) _=_;rw[v5];show(aTp).au _=_;rw[hs];rfl)))])) (by rw[yf])])
def Zq(x:dz){j ab:cx}(aj:ahd cf j)(d:ahd cf ab):aQx (.bC x j ab):=qB (by rw[m3 AA (nv (oM Cy x) b),om,mY y z1 ip a1 b t,m3 AD (Iv b),om,mY v kG a2 b da,rs v (by rw[m3 Bz (wm aj),om,mY fl r' e3 ab4 a3 b fC,mW (tu (have dG:=(fC n).1;have dN:=(da dG).1;qx dN (by rw[IE,tT,ap.eO,aPz,mW yw])))]) (by rw[m3 Bz (wm d),om,mY fl r' e3 ab4 a3 b fC,mW (tu (have dG:=(fC n).1;have dN:=(da dG).1;qx dN (by rw[IE,tT,ap.eO,aPz,mW yw])))])])
def FT{g}(aj:ahd cf g)(q):∀(vs)(l)(a)(i)(f)(M),akM (fun l a i f M=>agm cf g l a i f M) q vs l a i f M→∃fl r' z' l' dE,aN9 (M fl r' z' l' dE) (aSN (fZ (f0 T cf g) q B vs l a.G))|[],l,a,i,f,M,b=>(tu ⟨n,BG ..⟩)|qi,l,a,i,f,M,b=>by rw[m3 Bz (wm aj),om,mY fl bW z1 ip a1 b t];induction fl using ls.ae with|bU=>rw[m3 Bz (uF (FT aj q xs _) b),om,mY fl r' e3 ab4 a3 b fC,mW (tu (have dN:=(fC n).1;qx dN (by rw[EV,DM,tT,mW yw])))]|abl=>rw[m3 Bz (uF (FT aj q xs _) b),om,mY fl r' e3 ab4 a3 b fC,mW (tu (have dN:=(fC n).1;qx dN (by rw[EV,DM,tT,mW yw])))]|ahl=>exact(tu (qx n (by simp only[EV,DM,v5];rfl)))|bu y=>exact(tu (qx n (by simp only[EV,DM,v5];rfl)))
def Zp(q)(d){g}(aj:ahd cf g):aQx (.jd q d g):=qB (by rw[m3 AA (nv (oM Cy d) b),om,mY y z1 ip a1 b t,oT ip (by rw[yf]) j ip (by induction j using jF.ae with|k fl r' z'=>exact(tu (qx nk (tL ID (t nk).2 nh)))|aP=>(induction y using ar.ae with|ay vs=>rw[m3 Bz (uF (FT aj q vs _) b),om,mY fl r' e3 ab4 a3 b fC,mW (tu (have dN:=(fC n).1;qx dN (tL ID tT yw)))]|bm vs=>rw[m3 Bz (uF (FT aj q vs _) b),om,mY fl r' e3 ab4 a3 b fC,mW (tu (have dN:=(fC n).1;qx dN (tL ID tT yw)))]|_=>rw[yf])|_=>rw[yf])])
def Zs(q)(Aa){g}(aj:ahd cf g):aQx (.mn q Aa g):=qB (by rw[mX AA (nv (oM Ra Aa) b) fun vs z1 ip a1 b t=>?_,oT ip (by rw[yf]) j ip (by induction j using jF.ae with|k fl r' z'=>exact(tu (qx nk (tL Ly (t nk).2 nh)))|aP=>replace b:(match acc vs with|c t=>akM (fun l a i f M=>agm cf g l a i f M) q t l z1 ip a1 M|B=>hX vs):=b;(induction br:acc vs using ap.ae with|B=>rw[xh br,mW b.az]|c V=>rw[pr br,mX Bz (uF (FT aj q V _) b) fun fl r' e3 ab4 a3 b fC=>?_,mW (tu (have dN:=(fC n).1;qx dN (by rw[aPU Ly tT br,mW yw])))])|_=>rw[yf])])
def AdF{cf}{d o j}{l}{w a4 dm}{q}{e7 y}(Q:o5 (aQZ j) y)(h2:å d a4=c (n3,dm)){acl}(h3:å o dm=c (e7,acl)):dP T cf (.jl d o j) l w=ox (lm acl q e7 y) w (na,l,w):=by simp only[Lz,Q,ap.eO,h2,ap.eO];show ì (å o dm)=_;rw[h3];rfl
def Zu(d o j):aQx (.jl d o j):=qB (by rw[mX AA (nv (oM Cy j) b) fun y z1 ip a1 b t=>?_,mX AA (nv (oM Cy d) b) fun p bz kG a2 b da=>?_,qO p D q (by rw[mX AA (nv (oM Cy o) b) fun e7 e3 ab4 a3 b fC=>?_,mX AD (L7 b) fun l_ aNc aqE b ahU=>?_,mW (tu (have fH:=(ahU n).1;have dG:=(fC fH).1;have dN:=(da dG).1;qx dN (q0 (AdF tT aPz (fC fH).2) (ahU n).2)))]) (by rw[yf])])
def Zr:ahd cf .C:=qB (tu ⟨n,sV⟩)
def Zn{k}{g}(aj:afg cf k)(d:ahd cf g):ahd cf (.s k g):=qB (by refine Bz (wm aj) fun fl bW z1 ip a1 b t=>?_;induction fl using ls.ae with|bU=>rw[mX Bz (wm d) fun fl r' e3 ab4 a3 b fC=>?_,mW (tu (have dN:=(fC n).1;qx dN (tL Eo tT yw)))]|_=>exact(tu (qx n (sg Eo v5))))
def LQ(g):ahd cf g:=by rw[mX (ss (ss (nI cx.jB fW (afg cf) hv (ahd cf))) ?_ ?_ ?_ ?_ g),ú Zo Zl Zm (wb P aUT),ú Zu Zv (wb P aUT) (fun P P P P=>aUT),ú (wW aUT) (wW aUT) (fun x P P aj d=>Zq x aj d) (wb P aUT),ú (fun q d P aj=>Zp q d aj) (fun q Aa P aj=>Zs q _ aj) Zt (qB (tu (qS n))),mW (qB (tu ⟨n,AdE ..⟩)),mW aUT,mW Zr,mW fun P P aj d=>Zn aj d]
inductive ac1 where|K|aP|n(W:Prop)(b:W)(f:jF)
abbrev ac1.an:ac1→jF|K=>.K|aP=>vh|nv n f=>f
abbrev apO:r ac1→Prop→Prop|[],f=>f|.K::i,f=>apO i f|vh::i,f=>apO i f|.n W _ _::i,f=>apO i (f∧W)
def Ib:∀(i)(f),f→apO i f|[],_,b=>b|.K::i,f,b=>Ib i f b|vh::i,f,b=>Ib i f b|.n _ t _::i,_,b=>Ib i _ ⟨b,t⟩
abbrev p{t:pl}{j:ar}(b:t=c j):ac1:=.n _ b (.y j)
abbrev aZ{t:w0}{j:ar}{a:aH}(b:oD t j):ac1:=.n _ b (.b j a)
abbrev os{t:lV}{fl:ls}{l:du}{a:aH}(b:t=c (fl,l,a.G)):ac1:=.n _ b (.k fl l a)
abbrev aaG{t:aQh}{a:aH}(b:t=c a.G):ac1:=.n _ b (.b .B a)
abbrev acS{t:ap N}{g:N}(b:t=c g):ac1:=.n _ b (.y qz)
abbrev aqv{gn:Type}(i:r ac1)(j:gn):Prop:=apO i abh∧j=j
def KP{gn}(i)(j:gn):aqv i j:=qS (Ib i _ jC)
noncomputable abbrev aFy(cf:iV)(g:cx)(l r':du)(a z':aH)(fl:ls)(i:r ac1):Prop:=aqv i (fl,r',z')=agm cf g l a (i.au ac1.an) abh fun aoF bW z1 ψ f=>f∧(aoF,bW,z1)=(fl,r',z')
noncomputable abbrev aFA(cf:iV)(g:cx)(l:du)(a z':aH)(y:ar)(i:r ac1):Prop:=aqv i (y,z')=agm cf g l a (i.au ac1.an) abh fun aoF ψ z1 ψ f=>f∧(aht aoF,z1)=(y,z')
noncomputable abbrev aFz(cf:iV)(j:dz)(l:du)(a z':aH)(y:ar)(i:r ac1):Prop:=aqv i (y,z')=i' cf j l a (i.au ac1.an) abh fun gd z1 ψ f=>f∧(gd,z1)=(y,z')
def AZ{g}{l r'}{a z'}{fl}(i)(d:aFy cf g l r' a z' fl i):aSN (aPA b4 g):=by rw[m3 Bz (LQ g l a _ abh _ (abH.mp d (KP i (fl,r',z')))),mY aoF bW z1 l' dE b t];cases qK;exact(t od).2
def Af{g}{l}{a z'}{y}(i)(d:aFA cf g l a z' y i):qf (cW (aPA b4 g)) y:=by rw[mX Bz (LQ g l a _ abh _ (abH.mp d (KP i (y,z')))) fun aoF bW z1 l' dE b t=>?_,(t od).2,mZ d t];cases qK;rfl
def A0{j}{l}{a z'}{y}(i)(d:aFz cf j l a z' y i):qf (å j a.G) y:=by refine AA (Cy j l a _ abh _ (abH.mp d (KP i (y,z')))) fun gd z1 l' dE b t=>?_;cases qK;exact(t od).2
end
set_option tactic.hygienic false
abbrev a9.lit:aQF|m7 .aO|uW|.mP|rx=>F|_=>Y
abbrev a9.je:aQF|.aO _ ac=>ac==1|_=>Y
abbrev a9.o:a9→R|q9 _=>1|m7 .aO=>2|uW=>3|.mP=>4|rx=>5|qr _=>6|m7 .D=>8|nP _=>9|.bY _=>10
abbrev a9.jE:a9→R|uW|rx=>6|.mP=>7|_=>-1
def Bo(w)(l:a9):rm (eC w l.aY nr) l.o:=by induction l using a9.ae<;>exact sF B5
abbrev aH.ad(a:aH):u:=qR+a.ca.z
abbrev aH.As(a:aH)(p:c_):aH:=oP ca (a.ca++[p])
def Bj(a:aH):a.G.z=a.ad:=CI a
def Qg(a:aH)(b:pN):a.gl<a.ad:=by delta aH.gl aH.ad;split;rw[mW O4,mW O5 b]
def Cc(a:aH)(p)(b:pN):tE p=(a.As p).G:=by rw[aPW,sr (a.As p).gl a.gl e,sr (a.As p).g8 a.g8 e,m6 (_=((a.g8++xR)++(a.ca++[p])).b6 _ (oU a.eM)),m1 (a.gl<((a.g8++ii 2 _)++a.ca).z) (by rw[aT8 Bs Ca,mW Qg a b]),p0,←r.abP,tj (r.abC (k:=(a.g8++ii 2 _)++a.ca))]
def GE(a:aH)(p)(b:pN):n9 (a.As p).G a.ad p:=by rw[←Cc a p b,←Bj];simp
def KX(a:aH)(p o')(b:pN):(a.As p).G.b6 a.ad o'=(a.As o').G:=by rw[←Cc a p b,←Cc a _ b,←Bj];simp
def D_(a:aH)(p)(b:pN):(a.As p).Ap≤(a.As p).ca.z:=by simp[aH.As];exact Ag [a.Ap,a.ca.z] S nN S ai e b
def Fm{w}{q}{i}(b:yp):lN w n3=c i:=by rw[m6 ((aNV (c i))=c i),b]
def Il{w}{q}{i}(b:yp):kn w n3=c (i,c (q,i)):=by rw[m6 ((aNV (c (i,c (q,i))))=c (i,c (q,i))),b]
def CW{w}{y}{i}{h}(b:lN w y=c i)(d:nc i.z=h):rm (acN w y) h:=by rw[oQ,mW (pk (ap.au fun i:r _=>ar.m _) b)]
def AH{f g}{x}(b:(f==g)=x):f1 [] .eq th y9=c (qP x):=by rw[pq];rfl
def EJ{f g}{x}(b:(!(f==g))=x):f1 [] .ne th y9=c (qP x):=by rw[pq];rfl
def CR{f g}{x}(b:b1 (g≤f)=x):f1 [] .ge th y9=c (qP x):=by rw[pq];rfl
def B'{f g}{x}(b:b1 (g<f)=x):f1 [] .gt th y9=c (qP x):=by rw[pq];rfl
def Cz{f g}{x}(b:b1 (f<g)=x):f1 [] .lt th y9=c (qP x):=by rw[pq];rfl
def N4:∀i:n1,ar.kP 6 (i.au .m)=F|[]=>e|wM=>(N.c3 ..).gS (wy (N4 i))
def Jn(o)(i:n1){x}(b:i.afo o=x)(aC:u.aao i.z 1000=F:=by rfl):f1 [] .gH qv (ws i.au .m)=c (qP x):=by rw[m1 (((ar.m o).i6 6&&ar.kP 6 (i.au _)&&b1 (À (rH i.au ar.m)))=F) (ű N4 r.hN (hZ (u.eG (u.afQ aC) (nw:À 1000)))),p0,m6 ((nK (((ar.m o).i6 6&&ar.kP 6 _&&b1 (À (rH i.au _)))=F) nJ).au _=_),c0 d,ap.ji,show b1 (ar.m o∈i.au ar.m)=x by rw[oA,pq,N.ada,decide_eq_true_iff,r.akJ,r.fq,mW ⟨fun⟨j,J,d⟩=>by rw[p2 d,pi,mW J],oE ⟨o,b,e⟩⟩]]
def H6{w}{q}{i}(b:yp):rm (acN w n3) i.z:=by simp only[acN,lN,b];rfl
def Kw(w)(i):rm (acN w q2) i.z:=e
def CS{w}{j x}{g}(b:jT w j x=c g):f1 w .gH j x=c qz:=pk (ap.au ar.aO) b
def S5{w}{j}{f}{i}{g}(K:aPd uH)(b:jT w j rY=c g):f1 w .lM j rY=c (n5 (! g)):=by simp only[f1,K,b,ap.ji]
def XD{cf}{l}(a:aH)(aS:pN)(g):aVj T (.lK g)=c (.D a.ad,uI (if g then sj else nS)):=by simp only[IA,Ï Cc _,Bj]
def Vg{cf}{d}{l}{w bJ}{g}(b:aQZ d=c (qz,bJ)):ahq T cf (.s d .C) l w=c (g,bJ):=q0 Lv b
def CK{O}{cf}{q}{l}{w}{y}(b:(rS l).afO=c y):oC Ė=c (y,w):=sg Bl b
def L0{w}{q}{i}(y)(b:yp)(aC:zD):afk w w q y=c (tn (.aw (i++[y]))):=by simp only[afk,kC,afL,b,aC,fU]
def KY{w}{q}{i}(o y)(b:aUJ)(v:l4 o=F)(t:o.im jA=F)(aC:zD):lm w q o y=c (tn (.bE (aU3 o))):=by simp only[lm,b,v,t,aC,aGZ,N.aen,fU]
def Z8{w}{q}{i}(o)(y)(b:á)(aC:zD):lm w q qv y=c (tn (uG (ab3 o y i))):=by simp only[lm,jp,b,aC,fU]
def Wx(l:a9):[2,3,4,5].afo l.o=l.lit:=zQ
def Wk(a:aH)(h v:u)(l)(b:aOM):qM 10 aQG (qP l.lit):=nd R7 [ă v l b,p (Bo a.G l),sZ (Jn l.o [2,3,4,5]) Wx l]
def HX(a:aH)(h v:u)(l)(b:aOM):qM 11 aQG (qP l.je):=by rw[m2 (sP v l b),om,nR];induction l using a9.ae with|dx|un|bI|bY=>rw[ot Mo [p b,.K,.K]]|_=>rw[ot Mo [p b,.K,.K,.K,.K]]
def Aal(a:aH)(h v:u)(l)(b:aOM)(b2:aOv):pG 2 12 aQG oF:=nd R9 [aZ (b2▸HX a h v l b)]
def F_(a:aH)(h)(y):qM 91 [tJ,y] y:=nd SI []
def Ij(a:aH)(h v:u)(l)(b:aOM)(b2:aOv):pG 3 25 [tJ,oF] oF:=by have Q:=F_ a nB oF;have h2:=Wk a nB v l b;induction aC:l.lit using N.ae with|Y=>rw[ot Ms [aZ Q,aZ (aC▸h2)]]|F=>rw[ot Ms [aZ Q,aZ (aC▸h2),aZ (Aal a h v l b b2)]]
abbrev a9.e8(v:u):a9→nq|r2=>i|_=>qU
def Ke{v:u}(f:u)(b:v≠f):(nc v==vn)=Y:=acw fun d=>b (R.gq.dB d)
def GD:∀(a:aH)(h v:u)(l:a9)(b:aOM)(h2:v≠2),qM 2 aQG (qL (cS (l.e8 v))):=by injections a h v l;rw[mY b h2,m2 (sP v l b),om,nR];induction l using a9.ae with|un i=>rw[ot Bw [p (AH (Ke 2 h2)),p b,.K,.K,.K]]|_=>rw[ot Bw [p (AH (Ke 2 h2)),p b,.K,.K]]
def Em(a:aH)(h)(l:a9):qM 3 [l.aY] (.m l.jE):=by induction l using a9.ae with|bi k=>rw[ot CP [.K,.K]]|mP=>rw[ot CP [.K,.K,.K,.K]]|jc=>rw[ot CP [.K,.K,.K,.K,.K,.K]]|_=>rw[ot CP [.K,.K,.K,.K,.K]]
def Aam(a:aH)(h v:u)(l)(b:aOM)(b2:aOv):qM 4 aQG us:=by rw[m2 (sP v l b),om,nR];induction l using a9.ae with|aO y ac=>rw[ot Jc [p b,.K,.K,.K,rN b2]]|dx|un|bI|bY=>rw[ot Jc [p b,.K,.K]]|_=>rw[ot Jc [p b,.K,.K,.K,.K]]
def OJ(a:aH)(h)(aS:pN):qM 95 [nQ] (nE [nr,.m a.eM.z]):=nd SL [p (H6 (Gc a)),p (H6 (DZ a aS))]
def Qa(a:aH)(h):qM 29 [nQ] oX:=nd Se []
def XO(a:aH)(h)(y):qM 96 [nQ,y] .B:=nd SM []
abbrev aay:u→oB→ys|_,[]=>[]|o,l::i=>(l.aY,qv)::aay pY i
def HY:∀gv,aay gv []=([]):=rp
def HZ:∀o l i,aay o (l::i)=((l.aY,qv)::aay pY i):=uD
abbrev gG:oB→a9→u|[],_=>0|f::i,l=>ow f l 0 (aRa+1)
def Gg:∀gv,gG [] gv=(0):=rp
def Gh:∀f i l,gG (f::i) l=(ow f l 0 (aRa+1)):=uD
abbrev eL(i:oB)(l:a9):oB:=if l∈i then i else Ô i
abbrev afm:u→ar→ar|q,o9=>i.ld q .B|_,_=>.B
abbrev aiX:ar→R|n'=>q|_=>0
abbrev awK:ar→ea|ur=>k|_=>""
abbrev awI:ar→nC|o9=>i|_=>[]
abbrev azT(h:ea)(i:nC):o4:=ox (i.amE fun y=>awK (afm 0 y)==h) y ((aiX (afm 1 y)).es,aiX (afm 2 y)==1)
abbrev a9.ajs(y:ar):R→a9|1=>.dx (awK (afm 1 y))|2=>.aO (aiX (afm 1 y)) (aiX (afm 2 y))|3=>.bi (awK (afm 1 y))|4=>.mP|5=>rx|8=>.D (azT "p" (awI (afm 1 y))) (azT "q" (awI (afm 1 y)))|9=>nP (aiX (afm 1 y)).es|10=>.bY (aiX (afm 1 y)).es|_=>.un ((awI (afm 1 y)).au (nF (aiX j).es))
def M5(l):a9.ajs l.aY l.o=l:=by induction l using a9.ae with|D n t=>(rcases n with(_|⟨o,_|_⟩))<;>(rcases t with(_|⟨aaz,_|_⟩))<;>rfl|un i=>rw[m6 (a9.un ((cS i).au (nF (aiX j).es))=_),show(cS i).au (nF (aiX j).es)=i by unfold cS;rw[r.aeN,mW r.aDN i]]|_=>rfl
def Ni(l k:a9)(b:l.aY=k.aY):l=k:=by rw[m2 (by rw[m2 (Bo [] l),mY Q];rw[b,Bo]at Q;exact rz (Ŝ ar.m.dB Q)),mY aG,←M5 l,←M5 k,b,aG]
def JB(l)(i)(o):kx l.aY (aay o i)=nK (l∈i) (nn (o+aRa:u)):=by induction i generalizing o with|C=>rfl|s f i ih=>simp only[HY,HZ,EM,EN];rw[nH d f l,mZ ih,oQ];simp[Gg,Gh];rw[m1 (¬f.aY=l.aY) (oE (d (nv Ni b))),mY aa,cH aa,ih,m1 (¬l=f) (oE (d b.cq)),mY a5];simp only[r.gA,a5,ags,Gg,Gh,cH d];rw[rh (pY+aRa) (o+(aRa+1)) (BI (rV aRa) zq tS e)]
def M_(l)(i)(o)(b:l∉i):abn l.aY (.m (o+i.z:u)) (aay o i)=aay o (Ô i):=by induction i generalizing o with|C=>rfl|s f i ih=>rw[sB r.gA aj5];have:¬f.aY=l.aY:=ol (b.1 (rz (tj Ni)));simp only[HY,HZ,FZ,F0,cH aa,r.aoe];rw[show o+(f::i).z=pY+i.z by simp only[r.kZ];exact BI (rV i.z) tS zq e,ih pY qK]
def Ol(o)(i):qo aay o i=i.z:=by induction i generalizing o with|C=>rfl|s f i ih=>simp[HY,HZ,ih]
def E3(i)(l)(b:l∉i):aRa=i.z:=vv (by rw[r.gA,aj5]at b;have:¬f=l:=ol (b.1 d.cq);simp[Gg,Gh,aa,ih qK])
def HR(i)(l)(b:l∈i):n9 i aRa l:=qb i (by cases b) f i (by rw[nH d f l,mZ ih b,oQ];simp[Gg,Gh];rw[m1 (¬l=f) (oE (d b.cq)),mY a5];simp only[r.gA,a5,ags]at b;simp[Gg,Gh,d,ŭ])
set_option tactic.hygienic true in
def D'(i)(l):n9 (eL i l) aRa l:=by unfold eL;split;rename_i b;exact HR i l b;rename_i b;rw[E3 i l b];simp
def RA(h)(i):ar.abQ h (cS i)=F:=vv (by dsimp only[cS,r.gI,Es,Et,LA,LB,LC,LD,LE,LF,LG,LH,N.acf];exact ih)
def Rz(h)(i H):ar.abQ h (i++H)=(ar.abQ h i&&ar.abQ h H):=vv (by simp[Es,Et,ih,N.axE])
def L5(h)(n):ar.abQ 4 (e6 h n)=F:=by(rcases n with(_|⟨_,_|_⟩))<;>rfl
def F4(l:a9):l.aY.im jA=F:=by induction l using a9.ae with|un i=>rw[m6 ((F&&(ar.abQ 4 _&&F))=F)];rw[RA]at⊢;rfl|D n t=>rw[m6 ((F&&(ar.abQ 4 _&&F))=F)];simp only[Rz,L5,L5]at⊢;rfl|_=>rfl
def F6(l:a9):l4 l.aY=F:=zQ
abbrev aH.aiW(a:aH):Prop:=a.afK=aay 0 a.ak
abbrev aH.Ah(a:aH)(i:oB):aH:={a with ak:=i,afK:=aay 0 i}
def Vl{a:aH}(b:a.aiW)(l):jT a.G l.aY (.D 3)=c (b1 (l∈a.ak)):=by rw[Ä aH.aiW];simp only[jT,Cp,F6,F4,N.aen,fU,b,JB];by_cases bK:l∈a.ak<;>simp[bK]
def GG:∀(a:aH)(h)(l)(b:a.aiW)(aC:ŝ 1000000),Ř 88 [oW,l.aY]=c (pf (t6 gG l),(a.Ah (eL a.ak l)).G):=by rw[vj h l,mY b aC];have il:=Vl b l;have h':a.afK=aay 0 a.ak:=b;rw[aPb l a.ak];rw[hZ bK]at il;(have fo:eC a.G (.D 3) l.aY=c (pf (t6 gG l)):=by simp only[eC,Cp,F6,F4,N.aen,fU,h',JB,bK,u.aac]);rw[show a.Ah _=a by delta aH.Ah eL;rw[c0 bK,←h'],mW (nd Jl [p (show sk f1 .gH=_ from pk (ap.au _) il),uo])];rw[jq bK]at il;rw[sr (gG _ l) a.ak.z (nv E3 bK),sr (eL _ l) (Ô a.ak) (cH bK)];have h2:=H6 (BR a);rw[r.hN]at h2;have a_:=L0 l.aY (BR a) (by rw[r.hN,ya];omega);rw[show a.ak.au a9.aY++[l.aY]=(Ô a.ak).au a9.aY by rw[r.ahL];rfl,BS]at a_;rw[m1 (nv abn a.afK=aay 0 _) (by rw[m2 (M_ l _ 0 bK),m5,o6 u.aac,h',aa]),mY d,m2 (KY _ (.m a.ak.z) (Cp (oP ak (Ô a.ak))) (F6 l) (F4 l) (by rw[m6 (a.afK.z<_),h',Ol,ya];omega)),mY hs];have hs:lm _ 3 l.aY (.m a.ak.z)=c (a.Ah (Ô a.ak)).G:=hs.ah (cr c ((pk (fun aj=>(aH.G (oP ak (Ô a.ak))).b6 3 (.bE aj)) d).ah (Cd (oP ak (Ô a.ak)) _)));exact nd Jl [p (show sk f1 .gH=_ from pk (ap.au _) il),p h2,aaG a_,aaG hs]
set_option backward.match.sparseCases true
abbrev fN(i:nq)(o:u):nq:=if o∈i then i else i++[o]
abbrev kl(ak:oB)(v:u):nq:=match ak[v]? with|c l=>l.e8 v|B=>qU
abbrev fj(ak:oB)(K:nq)(a':nq):nq:=a'.mJ (fun K v=>(kl ak v).mJ fN K) K
abbrev dq(K:nq):rC R ar:=K.au fun(o:u)=>(uQ,ar.m 1)
def Ki(K)(o:u):ab3 o nG (dq K)=aTi K o:=qb K (by rfl) f K (by simp only[dq,r.gI,Kg,Kh];rw[nH d f o,mZ ih,oQ];simp[fN];rw[m1 (¬(vn=o)) n_,mY aV];have bj:¬(o=f):=oE (d b.cq);rw[cH aV,m1 (ab3 uQ (ar.m 1) (dq K)=aTi K o) ih,m5];unfold dq at aa;rw[tf];by_cases b:o∈K<;>simp[fN,b,bj])
def NV(K)(o):(lB o (dq K)).eF=b1 (o∈K.au R.gq):=qb K (by rfl) f K (by simp only[dq,r.gI,E4,E5];rw[nH d vn o,mZ ih,oQ];simp;rw[cH d,m1 (¬(o=R.gq f)) (oE (d b.cq)),mY bj,m1 ((lB o (dq K)).eF=_) ih,mY aa];unfold dq at aa;rw[tf,m1 (¬(o=vn)) (oE (d b.cq)),mY cV];simp[r.gA,cV])
def Ka(K)(o:u):(lB uQ (dq K)).eF=b1 (o∈K):=by rw[NV]at⊢;rw[uh];simp only[r.fq,R.aiP,ada];constructor;rw[mY J,sE,ng];rintro f a_ d;rw[m1 (f=o) n_,m5,mW (aa▸a_),nR,mW ⟨o,b,e⟩]
def HT(K)(o):qo fN K o≤K.z+1:=by unfold fN;split<;>simp
def J0(bN K:nq):qo bN.mJ fN K≤K.z+bN.z:=by induction bN generalizing K with|C=>simp|s f bN ih=>rw[m2 (ih (fN K f)),m5,m2 (HT K f),m5];simp only[r.aul,r.kZ];exact XW aUe aa
def Acw:∀(a:aH)(aS:pN)(cf)(f g eN ajY ajZ aj0)(bN),∀K eQ,K.z+bN.z<1000→∃agY,fZ (f0 T cf (nA (.jl (.A 2) p6 nG))) 4 B (cS bN) [f,g,sS,eN,eQ,ajY,ajZ,aj0] (uI (sp K))=c (na,[f,g,sS,eN,agY,ajY,ajZ,aj0],uI (uG (dq (bN.mJ fN K)))):=by rw[ug,mY aS,mY cf f g eN ajY ajZ aj0 bN];induction bN with|C=>rw[mY K eQ _,mW ⟨eQ,by simp only[cS,r.ajV,BG];rfl⟩]|s n bN ih=>intro K eQ aC;simp only[r.kZ]at aC;rw[m2 (HT K n),mY aiq,n4 (ih (fN K n) ĝ (m4 (oa Am [K.z,bN.z,qo fN K n] (a8+ai) 1000 tS 1000 a8 nm e aC aiq))) agY b,m1 (rH dq K<1048576) (aSd dq r.hN (oa Ag [K.z,bN.z] S 1048576 tS 1000 e aC)),mY t1,vi agY ((zr ?_).ah b)];have hs:=Z8 n nG (Ï GE (sp K)) t1;rw[Ki,KX a _ _ aS]at hs;exact pK [aaG hs]
def HO(ak:oB)(a' K:nq)(H:u)(bK:aVo (qo kl ak v≤H)):(fj ak K a').z≤K.z+a'.z*H:=by induction a' generalizing K with|C=>simp[fj]|s v a' ih=>rw[m2 (ih ((kl ak v).mJ fN K) (fun j J=>bK j (Ċ J))),mY Q,m2 (J0 (kl ak v) K),mY h2,m2 (bK v tG),mY h3];simp only[fj,r.aul,r.kZ]at*;simp only[u.succ_mul]at⊢;exact Bu [(r.mJ (fun K v=>r.mJ fN K (kl ak v)) (r.mJ fN K (kl ak v)) a').z,(r.mJ fN K (kl ak v)).z,a'.z*H,K.z,qo kl ak v,H] S (eK+(a8+amo)) S (ai+a8) ai (eK+ahk) ahk amo e Q h2 h3
def Acx:∀(a:aH)(aS:pN)(h:u)(g ajY ajZ aj0:pl)(a':nq),∀K eN eQ,K.z+a'.z*60<1000→(aVo (v≠2∧(a.ak[v]?).eF∧qo kl a.ak v≤60))→∃aE8 agY,fZ (aO4 n0 (nA (.jd 4 (s8 2 0 qw) (nA (.jl (.A 2) p6 nG))))) 3 B (cS a') [nZ,g,sS,eN,eQ,ajY,ajZ,aj0] (uI (sp K))=c (na,[nZ,g,sS,aE8,agY,ajY,ajZ,aj0],uI (uG (dq (fj a.ak K a')))):=by rw[ug,mY aS];injections h g ajY ajZ aj0 a';induction a' with|C=>rw[mY K eN eQ _ _,mW ⟨eN,eQ,by simp only[cS,r.ajV,BG];rfl⟩]|s v a' ih=>rw[mY K eN eQ aC aJ,rf (aJ v tG) h2 br ba,n4 (ap.als.1 br) l br];(have amZ:t6 kl v=l.e8 v:=ķ kl br);simp only[r.kZ,u.succ_mul]at aC;rw[m2 (J0 (t6 kl v) K),mY aiq,n4 (Acw a aS n0 nZ g pZ ajY ajZ aj0 (t6 kl v) K eQ (m4 (Am [(kl _ v).z,K.z,a'.z] (ai+S+1) 1000 S 60 (ai+(a6.l a8 _+60)+1) 1000 e ba aC))) ahY ei,ĥ (ih ((kl a.ak v).mJ fN K) pZ ahY (m4 (Bu [(kl _ v).z,K.z,a'.z,(r.mJ _ K _).z] (eK+(a6.l a8 _)+1) 1000 S 60 (ai+(a6.l a8 _+60)+1) 1000 eK (ai+S) e ba aC aiq)) (fun j J=>aJ j (Ċ J))) aE8 agY b];have agI:=GD (a.As (sp K)) h v l br h2;refine(pQ (m7 BN) (zr ?_).ah);rw[←amZ]at agI;exact pK [aSf,os ei]
abbrev ahE(q:u):nq→nq|[]=>[q]|aSE=>if q≤aq then q::aSE else aq::ahE q l
def Gm(q):ahE q []=([q]):=e
def Gn(q):∀aq l,ahE q aSE=(if q≤aq then q::aSE else aq::ahE q l):=pS
abbrev acW:nq→nq|[]=>[]|q::l=>ahE q (acW l)
def P3:acW []=([]):=e
def Lc:∀q l,acW (q::l)=(ahE q (acW l)):=pS
def Vr(q:u)(i):aiE (nc q) (i.au R.gq)=(ahE q i).au R.gq:=vv (by simp only[r.gI,Kb,Kc,Gm,Gn];by_cases d:q≤f;rw[m1 (nc q≤R.gq f) (yg R.aiP (A4 [↑q,↑f] b5 d4 b5 d4 e (Bb d))),m5,c0 d,c0 aa];rfl;rw[m1 (¬nc q≤R.gq f) (yg R.aiP (qW (d (R.adt.1 a)))),m5,cH d,cH aa,ih];rfl)
def AbI(i):aeY (i.au R.gq)=(acW i).au R.gq:=vv (by simp only[r.gI,AbJ,ih,Lc];exact Vr f (acW i))
def N3(q j)(i):j∈ahE q i↔j=q∨j∈i:=qb i (by simp[Gm,Gn]) f i (by simp only[Gm,Gn];split;simp;simp only[r.gA,ih];constructor;rintro(b|b|b);rw[mW (aSz aQ.bT),mW Í,mW (aSz aQ.bF)];rintro(b|b|b);rw[mW (aSz aQ.bT),mW Í,mW (aSz aQ.bF)])
def Fo(j)(i):j∈acW i↔j∈i:=vv (by simp[P3,Lc,N3,ih])
def Vt(q)(i):qo ahE q i=i.z+1:=vv (by simp only[Gm,Gn];split<;>(first|rw[Ŧ]|rw[qy]|simp[ih]))
def Ld(i:nq):rH acW i=i.z:=vv (by simp[P3,Lc,Vt,ih])
set_option backward.match.sparseCases false
def U6{cg}{w:ch}{q:u}{i}(b:á)(o:Û _):ajx w q o=o i:=by delta ajx;rw[b]
def Adw(O)(cf)(d)(l)(w a4)(q)(i)(b:uw n3)(Q:pO a4 uH)(h2:i.z<64):o5 (oC (.alT d)) (u' (aeY (i.au (·.1))).au .m):=by rw[rc (pk ta b),mW cr (ap.au fun y=>(y,a4)) ((U6 Q (te (nK (i.z<64) (c (ar.bm ((aeY (i.au (·.1))).au .m)))))).ah (c0 h2))]
def Qz(O)(cf)(d)(l)(w):oC (.af3 d)=rr ((z3 j7).bP fun i=>nK (wq 16384) (c (o9,nh))):=by rw[m6 (ì (aU O _ d l w)=_),uh];funext n;unfold awO;induction z3 j7 using ap.ae with|B=>rfl|c i=>simp only[ap.eO];split<;>rfl
def KQ(h)(w O):adu h w (w++O)=F:=qb w (by rfl) f w (by simp[Gz,GA,GB,ih])
def Ph(h)(w a4)(b:adu h w a4=F)(q)(p)(ho:p.eJ h=F):adu h w (a4.b6 q p)=F:=by induction w generalizing a4 q with|C=>rfl|s f w ih=>rw[oT a4 (by rw[sT]) g a4 (by simp only[Gz,GA,GB,N.c3,N.acR]at b;rw[uL q (by simp only[r.aEA,Gz,GA,GB,ho,qK,N.ahR,N.aen]) q (by simp only[r.aEz,Gz,GA,GB,ih a4 qK q,N.aib,N.acR];exact od)])]
def AcE(h)(i)(b:oG i (j.eJ h=F)):ar.abd h i=F:=vv (by simp[Eu,Ev,b f tG,ih (fun j J=>b j (Ċ J))])
def AcC(h)(i H):ar.abd h (i++H)=(ar.abd h i&&ar.abd h H):=vv (by simp[Eu,Ev,ih,N.axE])
def AcD(h)(i):ar.abd h (cS i)=F:=vv (by dsimp only[cS,r.gI,Eu,Ev,Fx,Fy,Fz,FA,FB,FC,FD,N.acf];exact ih)
def Nj(h)(l:a9):l.aY.eJ h=F:=by(have ba:∀cE n,ar.abd h (e6 cE n)=F:=by intro cE n;induction n using ap.ae with|B=>rfl|c f=>rw[aPH];rfl);induction l using a9.ae<;>(first|rw[Ŧ]|rw[qy]|simp[a9.aY,Fx,Fy,Fz,FA,FB,FC,FD,Eu,Ev,AcC,ba,AcD])
def Aau(h)(i:oB):(c_.aw (i.au a9.aY)).eJ h=F:=by simp only[c_.eJ];apply AcE;rw[tr,uv J,ng];rintro l _ e;exact Nj h l
def Wu(h o)(i):(c_.bE (aay o i)).eJ h=F:=by simp only[c_.eJ];induction i generalizing o with|C=>rfl|s f i ih=>simp[HY,HZ,Nj,Fx,Fy,Fz,FA,FB,FC,FD];simpa using ih pY
def Aat(a:aH)(i):ĉ i=(tI 2 (aSu i.au)).b6 3 (.bE (aay 0 i)):=by rw[BS,Cd]at⊢;rfl
def Nz(a:aH)(aS:pN)(i)(p)(y)(aJ:y.eJ a.ad=F)(l):afv a.G.z a.G (t' rO (tB i As p).G)=c (y,ĉ i):=by have d:(tB i As p).G=ĉ i++[p]:=rz (Cc (a.Ah i) p aS);rw[m1 ((a.G.b6 2 _).b6 3 _++[p]=((tE p).b6 2 (aSu i.au)).b6 3 (.bE (aay 0 i))) (tg (m7 (r.abC (k:=a.G)) (yg CI (AJ [a.ca.z,a.ds.z] (2+1) (26+ai+S) e))) (ž (tL r.apv CI (AJ [a.ca.z,a.ds.z] (3+1) (26+ai+S) e)))),mY gp,m1 (adu a.G.z _ (tB i As p).G=F) (by rw[d,Aat,gp,mW (m7 (n7 Ph (m7 (n7 Ph (sF KQ)) (m7 Aau))) (sF Wu))]),mY bj,m1 ((tB i As p).G.gu a.G.z=ĉ i) (nb d (r.aEU (sg Bj Bj))),mY cV,m1 (y.eJ a.G.z=F) (nb Bj aJ),mY ab1,mW (c0 (N.fY.2 ⟨bj,ab1⟩)).ah (pk (fun v=>c (y,v)) cV)]
def Ea(a:aH)(b:a.aiW):a.Ah a.ak=a:=by unfold aH.Ah;rw[←b]
abbrev mU(ak:oB)(K:nq)(v:u):N:=match ak[v]? with|c l=>!(b1 (l.jE∈K.au R.gq))|B=>Y
abbrev io(ak:oB)(a':nq):nq:=(acW (fj ak [] a')).afu (mU ak (fj ak [] a'))
abbrev abe(ak:oB)(a':nq):u×oB:=if 1∈fj ak [] a' then(1,ak)else match io ak a' with|ua=>(o,ak)|ks=>(gG ak aSp,sy ak aSp)
def Gj(w)(f)(K)(b:aPd (sp K))(o:u):jT w qv rY=c (b1 (o∈K)):=by simp only[jT,b,Ka]
def NW(w)(f)(K)(b:aPd (sp K))(o):jT w qv rY=c (b1 (o∈K.au R.gq)):=by simp only[jT,b,NV]
def Acl(a:aH)(f h)(K)(b:qh f (sp K))(bf:0∉K)(amM:13∉K):qM 7 [rY] (pf (if 1∈K then 1 else-1)):=by have am2:=CS (Gj a.G f K b 0);rw[jq bf]at am2;have avr:=CS (Gj a.G f K b 13);rw[jq amM]at avr;have aax:=CS (Gj a.G f K b 1);rw[aPb 1 K];rw[hZ bK]at aax;rw[c0 bK,mW (nd MD [vh,p am2,p avr,ū])];rw[jq bK]at aax;rw[cH bK,mW (nd MD [vh,p am2,p avr,ū])]
def Wv(a:aH)(f h)(K)(b:qh f (sp K))(h8:8∉K)(aoN:14∉K):qM 5 [rY] .B:=by have aDf:=CS (Gj a.G f K b 8);rw[jq h8]at aDf;have aDe:=CS (Gj a.G f K b 14);rw[jq aoN]at aDe;exact nd Sj [p aDf,p aDe]
def AbV(a:aH)(h f v:u)(K)(l)(a_:qh f (sp K))(b:aOM)(b2:aOv):pG 2 6 [oW,rY,oF] (n5 (mU a.ak K v)):=by have aax:=CS (NW a.G f K a_ (-1));(have d:b1 (aP7∈K.au R.gq)=Y:=by simp only[aoo,r.fq,R.aiP,apH,apG];rw[mY j _,mW fun dO=>B4 (A5 [↑j] 1 0 b5 (-1) 0 b5 e (R.fp dO) vU)]);rw[d]at aax;have avs:=S5 a_ (NW a.G f K a_ l.jE);rw[show mU _ K v=!(b1 _)by unfold mU;rw[b],mW (nd So [aZ (Aam a h v l b b2),ū,ă v l b,aZ (Em a h l),p avs])]
def Kn(ak:oB)(a':nq)(j:u)(b:j∈io ak a'):j∈fj ak [] a':=by rw[Ä io,mW (m7 Fo).1 (r.anf.1 b).1]
def Acz{ak:oB}{a' k9:nq}(bK:1∉fj ak [] a')(aG:io ak a'=k9)(b:¬k9.z=1):abe ak a'=(gG ak (qr k9),sy ak (qr k9)):=by unfold abe;rw[cH bK,aG];match k9,b with|[],_=>rfl|[_],b=>exact t_ b e|_::tq,_=>rfl
def Qm:∀(a:aH)(h)(J:a.aiW)(aC:ŝ 1000000)(aS:pN)(y)(a')(aJ:y=zy a'∨y=v1 a')(Q:a'.z≤16)(ajJ:aVo (v≠2∧(a.ak[v]?).eF∧qo kl a.ak v≤60))(hg:(sm).z<64)(br:∀v∈sm,∃l,aOM∧aOv)(bf:0∉sm)(amM:13∉sm)(h8:8∉sm)(aoN:14∉sm)(aG:1∉sm→qe xI),rE 3 8 [oW,y]=c (.m (aUY).1,ĉ (aUY).2):=by rw[đ a,mY J aC aS];injections y a';rw[mY aJ Q ajJ hg br bf amM h8 aoN aG,m3 BF (Acx a aS nB qu B B B _ [] B B (yg r.ana (Ag [a'.z] (0+(a6.l S _)+1) 1000 (tC S) (tC 16) e (AM 60 Q))) ajJ)];rintro eN eQ cK;generalize aro:sm=E at*;have acG:nX aOQ a.ad (sp E):=Ï GE _;have jQ:=nI XD cf vX l [nZ,qu,B,B,B,B,B,B] a aS F;(have am1:((kn (uI sj) y).bP fun t=>fZ (aO4 vX (nA (.jd 4 (s8 2 0 qw) (nA (.jl (.A 2) p6 nG))))) 3 oI oq [nZ,qu,sS,B,B,B,B,B] (uI sj))=c (na,[nZ,qu,sS,eN,eQ,B,B,B],aOQ):=nb (show kn _ y=c (cS a',B)by clear cK jQ;(rw[aRD aJ aJ])<;>rfl) cK);(have adX:xI=(acW E).afu (mU a.ak E):=ķ io aro);generalize D0:xI=k9 at*;have d9:rH cS k9=k9.z:=r.hN ..;have aa3:=Acl (a.As (sp E)) a.ad nB _ acG bf amM;have aCF:=Wv (a.As (sp E)) a.ad nB _ acG h8 aoN;have aeD:∀(i:oB)(V:ar)(l:du),V.eJ a.ad=F→afv a.G.z a.G (t' (s6 V) (s9 i As (sp E)).G)=c (V,ĉ i):=fun i V l ei=>Nz a aS i (sp E) V ei l;rw[aPb 1 E];rw[c0 bK]at aa3;rw[m2 (aeD a.ak nG [nZ,qu,sS,eN,eQ,nn 1,B,B] e),mY hz];rw[Ea a J]at hz;rw[show m7 abe=(1,a.ak)by unfold abe;rw[aro,c0 bK],Ea a J,mW (Jj ..).ah ((uU (pK [aZ jQ,os am1,aZ aa3,.K])).ah hz)];rw[cH bK]at aa3;rw[m2 (aG bK),mY ad2,mZ aG];(have aeC:abk (ago T vX uj) (ahC T vX (nA (.bp 6 (pH pn ph uj)))) 7 B (cS (acW E)) [nZ,qu,sS,eN,eQ,Þ,B,B] aOQ=c (cS k9,aOQ):=by rw[adX,mX (ni (nI (nI Jp d (fun(q:u)=>ar.m q) ac (fun(q:u)=>ar.m q)) n (mU _ E) hc e) _ _ _ ?_ ?_),tr,m3 Ac (br j ((m7 Fo).1 J))];rintro l aiw afG;rw[mW Vg (qX [aZ (AbV _ h _ j E l acG aiw afG)]),mY j _ _,Uc,mW CK e]);(have jr:ny vX (.go uj 7 (.alT ph) (nA (.bp 6 (pH pn ph uj)))) [nZ,qu,sS,eN,eQ,Þ,B,B] aOQ=c (v1 k9,aOQ):=by rw[m1 (aeY ((dq E).au (·.1))=(acW E).au _) (by rw[←AbI,uh];unfold dq;rw[r.aeN];rfl),mY aJa,m2 (ni (Adw T vX ph [nZ,qu,nJ,eN,eQ,Þ,B,B]) (CK e) acG (nb (sr (rH dq E) E.z (r.hN _)) hg)),mY hs];rw[aJa,r.aeN]at hs;rw[Iy,hs,ap.eO,m6 ((nM abk 7 B (cS _) _ _).au _=_),aeC];rfl);clear aeC;(have i4:iH aOQ (v1 k9)=c F:=by clear D0 adX d9 jr;induction k9 using r.ae with|C=>exact t_ ad2 e|s=>rfl);(have b7:k9.z<64:=by rw[m2 (r.ar3 (t6 mU E) (acW E)),m5];simp only[Ld]at aa;rw[adX];omega);have jt:=Kw aOQ (cS k9);rw[d9]at jt;rw[nH Q k9.z 1,mZ adX d9 ad2 b7,m3 Al (r.length_eq_one_iff.1 Q),oc o,m2 (aeD a.ak qv [nZ,qu,sS,eN,eQ,Þ,c (oh [qv]),B] e),mY hz];rw[Ea a J]at hz;rw[show m7 abe=(o,a.ak)by unfold abe;rw[aro,cH bK,D0],Ea a J,mW (Jj ..).ah ((uU (pK [aZ jQ,os am1,aZ aa3,.K,aZ aCF,aOq,acS i4,p jt,.K,.K])).ah hz)];have ba:=GG (a.As (sp E)) nB (qr k9) J aC;have aV:(nc k9.z==1)=Y:=acw fun d=>Q (R.gq.dB d);have bj:b1 (nc 400<nc k9.z)=Y:=jq (m4 (fun dO=>B4 (A5 [↑k9.z] 1 0 vk 64 (400+1) b5 e (Bb b7) dO)));(have aJi:ny vX (.af3 sw) [nZ,qu,sS,eN,eQ,Þ,c (v1 k9),B] aOQ=c (zy k9,aOQ):=by rw[Qz,CK e,m6 ((if rH cS _≤16384 then _ else _)=_),c0 (m4 (Am [rH cS _,k9.z] S 16384 S ai (ai+1) 64 e (Az d9) b7))]);rw[m2 (aeD (sy a.ak (qr k9)) (pf (aUV (qr k9))) [nZ,qu,sS,eN,eQ,Þ,c (v1 k9),B] e),mY hz,Acz (aro▸bK) D0 Q,mW (Jj ..).ah ((uU (pK [aZ jQ,os am1,aZ aa3,.K,aZ aCF,aOq,acS i4,p jt,rN aV,p jt,qa B' bj,aZ aJi,aZ ba])).ah hz)]
set_option genInjectivity true in
inductive bv where|cl(q f g x:u)|bY(q:u)(k:bv)|un(i:tK)deriving gN
abbrev gX(f g x dE bZ c':u):N:=(f|||dE==dE)&&(g==0||(þ&&x|||c'==c'))
mutual
abbrev hb:wF bv bv|.cl _ f g x,v=>(oo v (.cl _ dE bZ c') (gX f g x dE bZ c') Y)|.bY q k,v=>(oo v (.bY aq _) (q==aq) Y)||aVq|r2,v=>agX i v
abbrev agX:wF tK bv|[],_=>F|k::i,v=>aVq&&agX i v
end
def BA:∀q f g x v,hb (pg q f g x) v=(oo v (.cl _ dE bZ c') (gX f g x dE bZ c') Y):=fun ψ ψ ψ ψ ψ=>e
def BB:∀q k v,hb (.bY q k) v=((oo v (.bY aq _) (q==aq) Y)||aVq):=uD
def BC:∀i v,hb r2 v=agX i v:=pS
def It:∀gv,agX [] gv=F:=rp
def Iu:∀k i v,agX (k::i) v=(aVq&&agX i v):=uD
mutual
abbrev lO:wF bv tK|pg q f g x,H=>H.dS (hb (pg q f g x))|.bY q k,H=>H.dS (hb (.bY q k))||Ķ H|r2,H=>ae0 i H
abbrev ae0:wF tK tK|[],_=>F|k::i,H=>Ķ H&&ae0 i H
end
def A6:∀q f g x H,lO (pg q f g x) H=(H.dS (hb (pg q f g x))):=fun ψ ψ ψ ψ ψ=>e
def A7:∀q k H,lO (.bY q k) H=(H.dS (hb (.bY q k))||Ķ H):=uD
def A8:∀i H,lO r2 H=(ae0 i H):=pS
def GV:∀gv,ae0 [] gv=F:=rp
def GW:∀k i H,ae0 (k::i) H=(Ķ H&&ae0 i H):=uD
abbrev el(k v:bv):N:=match v with|qr H=>Ķ H|v=>aVq
def Is(i)(v):agX i v=i.db fun k=>aVq:=vv (by simp[It,Iu,ih])
def GU(i H):ae0 i H=i.db fun k=>Ķ H:=vv (by simp[GV,GW,ih])
mutual
abbrev bv.An:sf bv|p5 .cl g=>ow g 0 0 3|.bY _ k=>k.An+1|r2=>bv.fz i+1
abbrev bv.fz:sf tK|[]=>0|k::i=>max k.An (bv.fz i)
end
def G4:bv.fz []=(0):=e
def G5:∀k i,bv.fz (k::i)=(max k.An (bv.fz i)):=pS
def Ci:∀gv aci g ai4,bv.An (pg gv aci g ai4)=(ow g 0 0 3):=fun ψ ψ ψ ψ=>e
def Cj:∀gv k,bv.An (.bY gv k)=(k.An+1):=pS
def Ck:∀i,bv.An r2=(bv.fz i+1):=rp
mutual
abbrev bv.dh:sf bv|ni .cl=>16|.bY _ k=>k.dh+1|r2=>bv.ag3 i+1
abbrev bv.ag3:sf tK|[]=>0|k::i=>k.dh+bv.ag3 i
end
def QZ:bv.ag3 []=(0):=e
def Q0:∀k i,bv.ag3 (k::i)=(k.dh+bv.ag3 i):=pS
def EA:∀gv aci ai4 aw0,bv.dh (pg gv aci ai4 aw0)=(16):=fun ψ ψ ψ ψ=>e
def EB:∀gv k,bv.dh (.bY gv k)=(k.dh+1):=pS
def EC:∀i,bv.dh r2=(bv.ag3 i+1):=rp
abbrev bv.jg:bv→N|qr _=>F|_=>Y
abbrev bv.Bf:sf bv|p5 .cl g=>ow g 0 0 4|m7 .bY=>2|qr _=>1
def Ex:∀gv aci g ai4,bv.Bf (pg gv aci g ai4)=(ow g 0 0 4):=fun ψ ψ ψ ψ=>e
def Ey:∀gv aci,bv.Bf (.bY gv aci)=(2):=pS
def Ez:∀gv,bv.Bf (qr gv)=(1):=rp
abbrev bv.ha(k v:bv):u:=2*k.An+v.Bf
inductive hm:u→a9→aR2|un:hm 4 aUD 1|nl:hm 5 (q9 "null") 2|st:hm 6 aSr 120|avW:hm 7 aSs 384|Ap:hm 9 (.aO 1 0) 4|f(q:u)(b:æ):hm q aUw 24|g(q:u)(b:æ):hm q (og "b") 32|a(q:u)(b:æ):hm q .mP 128|d(q:u)(b:æ):hm q rx 16
abbrev ie(ak:oB)(q g:u):Prop:=∃l,op ak l∧zS
abbrev iT(i:nq):u:=i.foldr (fun f g=>f|||g) 0
inductive kb(ak:oB):t4 nq nq|C:kb ak [] []|s(q g:u)(i bq:nq):ie ak q g→kb ak i bq→kb ak (q::i) (g::bq)
inductive hH(ak:oB):u→nq→nq→Prop|gB(q g:u):ie ak q g→hH ak q [q] [g]|jh(q:u)(i bq:nq):pO ak r2→æ→qe i→wq 3→kb ak i bq→z_ ak q
abbrev adr(p:N)(bq:nq):u:=(t9 p 513)|||aSQ
inductive eI(ak:oB):t4 o4 u|no:eI ak B 2047|abF(o:u)(p:N)(i bq:nq):z_ ak o→wq 2→eI ak (zk o) (adr p bq)
abbrev gC(n t:o4):u:=t9 (n.mM&&t.mM) 508
abbrev abR(a:aH)(n:u):ap u:=ox a.dK[n]? g (if g≤0 then 1 else g.es)
inductive c1(a:aH):t4 u bv|i9(q g:u):zh q g→sl q (pg q g 0 0)|iv:ã 1 "unknown"→sl 1 (zA 1)|lk:ã 10 "object"→sl 10 (zz 10)|D(q:u)(n t:o4)(mp cY:u):pO a.ak vE→(q=11∨æ)→wh→xQ→sl q (vF q)|bI(q aj:u)(a0:lr)(n t:o4)(mp cY:u):pO a.ak (z4 Ġ)→æ→Ľ→q' a0.bD vE→(a0.bD=11∨xe a0.bD)→wh→xQ→sl q (vF q)|bY(q n g:u)(k:bv):pO a.ak v3→æ→abR a n=c g→vd q→uu g→sl q (.bY q k)|un(q:u)(i:nq)(dr:tK):pO a.ak r2→æ→qe i→wq 8→i.z=dr.z→(∀(aq f:u)(k:bv),p7 i f→p7 dr k→uu f)→(∀k∈dr,aUs)→sl q (qr dr)
structure fR(a z':aH):Prop where
 ak:aRK a.ak z'.ak
 ds:∀(aj:u)(a0:lr),Ľ→∃jx,n9 z'.ds aj jx∧jx.bD=a0.bD
 Cm:∀(n g:u),abR a n=c g→abR z' n=c g
def fR.ah{f g x}(b:sH fR)(o:fR g x):fR f x:=⟨fun q l d=>o.ak q l (b.ak q l d),fun aj a0 d=>by rw[nD (b.ds aj a0 d) jx aV bj,nD (o.ds aj jx aV) aMh cV gp,mW (vT cV (gp.ah bj))],fun n g d=>o.Cm n g (b.Cm n g d)⟩
def ie.bx{ao iA}(b:yU q l (op ao l→op iA l)){q g}(n:aNW q):ie iA q g:=by rw[oz n l d n,mW Ad l (tj b) n]
def kb.bx{ao iA}(b:yU q l (op ao l→op iA l)){i bq}(n:zJ):kb iA i bq:=by induction n with|C=>exact .C|s q g i bq n _ ih=>exact .s q g i _ (n.bx b) ih
def hH.bx{ao iA}(b:yU q l (op ao l→op iA l)){o}{i bq}(n:aVm):z_ iA o:=by cases n with|gB g n=>exact pQ (.gB o g) n.bx|jh _ _ d iy Q h2 n=>exact .jh o i _ (tj b) iy Q h2 (n.bx b)
def eI.bx{ao iA}(b:yU q l (op ao l→op iA l)){n}{H}(y:wR n H):eI iA n H:=by cases y with|no=>exact .no|abF o p i bq y aC=>exact .abF o p i _ (y.bx b) aC
def c1.bx{a z'}(b:yx){q}{k}(y:uu q):c1 z' q k:=by induction y with|i9 q g n=>exact .i9 q g (n.bx b.ak)|iv d=>exact .iv (tj b.ak)|lk d=>exact .lk (tj b.ak)|D q n t mp cY d Ab cC c4=>exact .D q n t _ _ (tj b.ak) Ab (cC.bx b.ak) (c4.bx b.ak)|bI q aj a0 n t mp cY d Ab hd dt U cC c4=>rw[nD (b.ds aj a0 hd) jx aV bj,mW .bI q aj _ n t _ _ (tj b.ak) Ab aV (nb bj (nv b.ak dt)) (nb bj U) (cC.bx b.ak) (c4.bx b.ak)]|bY q n g k d Ab U cu _ ih=>exact .bY q n g k (tj b.ak) Ab (nv b.Cm U) cu ih|un q i dr d Ab Q h2 h3 _ h5 ih=>exact .un q i _ (tj b.ak) Ab Q h2 h3 ih h5
abbrev an7:sf a9|q9 k=>ow k "undefined" 1 (ow k "null" 2 (ow k "string" 120 384))|m7 .aO=>4|ur=>ow k "a" 24 32|.mP=>128|rx=>16|_=>0
def hm.agk{q}{l}{g}(n:zS):g=an7 l:=aT1 n
def hm.fn{q}{l}{g bZ}(n:zS)(t:hm q l bZ):g=bZ:=tg n.agk t.agk
def ie.fn{ao}{q g bZ}(n:aNW q)(t:ie ao q bZ):g=bZ:=by rw[oz n l d n,oz t r' a5 t,rl d,yV,zR (n.fn t)]
def kb.fn{ao}{i bq g7}(n:zJ)(t:kb ao i g7):bq=g7:=by induction n generalizing g7 with|C=>cases t;rfl|s q g i bq n _ ih=>cases t with|s _ bZ _ aMK cw t=>rw[n.fn cw,ih t]
def hm.Gv{q}{i}{g}(n:hm q r2 g):akt:=by cases n
def hH.fn:∀{ao}{o}{i bq l' g7}(n:aVm)(t:hH ao o l' g7),i=l'∧bq=g7:=by injections ao o i bq l' g7;intro n t;cases n with|gB g n=>(cases t with|gB bZ t=>exact wy (by rw[n.fn t])|jh _ _ d=>rw[oz n l aV n,y3 d,nf aV,aVC aV aV aV n.Gv.az])|jh _ _ d iy Q h2 n=>cases t with|gB g t=>rw[oz t l aV t,y3 d,nf aV,aVC aV aV aV t.Gv.az]|jh _ _ a5 _ _ _ t=>rw[rl d,mZ akA a_2,nf a5,mZ a5,mY a5,p2 a5,pi,mW (wy (n.fn t))]
def eI.fn{ao:oB}{n:o4}{H m':u}(y:wR n H)(V:wR n m'):H=m':=by cases y with|no=>cases V;rfl|abF o p i bq y=>cases V with|abF _ _ l' g7 V=>rw[(y.fn V).2]
abbrev axv(a:aH)(q:u)(k:bv):a9→Prop|r2=>∃dr,k=qr dr∧i.z=dr.z∧∀(aq f:u)(k:bv),p7 i f→p7 dr k→uu f|v3=>∃g bh,k=.bY q bh∧abR a n=c g∧ty g bh|nP aj=>∃a0 n t mp cY,yT (aj-2)∧q' a0.bD vE∧wh∧xQ∧k=vF q|vE=>∃mp cY,wh∧xQ∧k=vF q|q9 "unknown"=>k=zA 1|q9 "object"=>k=zz 10|l=>∃g,zS∧k=pg q g 0 0
def hm.Iw{a}{q g}{l}(n:zS){k}:axv a q k l=∃g,zS∧k=pg q g 0 0:=aT1 n
def c1.f3:∀{a}{q}{k}(y:uu q){l}(d:op a.ak l),axv a q k l:=by rw[vj q k,mY y];injections l;rw[p0];cases y with|i9 _ g n=>rw[oz n r' a5 n,rl d,nf a5,mZ a5,mY a5,vL,n.Iw,mW Ad g n e]|iv a5=>rw[aWh,zR e]|lk a5=>rw[aWh,zR e]|D _ n t mp cY a5 Ab cC c4=>rw[aWh,yQ,mY a5,vL,mW Au _ _ cC c4 e]|bI _ aj a0 n t mp cY a5 Ab hd dt U cC c4=>rw[aWh,yQ,mY a5,vL,mW Uj a0 n t _ _ hd dt cC c4 e]|bY _ n g k a5 Ab U cu y=>rw[aWh,yQ,mY a5,vL,mW Au g k e U y]|un _ i dr a5 Ab Q h2 h3 V h5=>rw[aWh,yQ,mY a5,vL,mW AP _ e h3 V]
def UH{i:nq}{dr anc:tK}(b:i.z=dr.z)(h':i.z=anc.z)(ih:∀(aq f:u)(k s'),p7 i f→p7 dr k→p7 anc s'→k=s'):dr=anc:=by rw[aPY,mY aq];by_cases cQ:aq<i.z;rw[m2 (r.hV cQ),mY a1];have a2:nX dr aq (dr[aq]'(b▸cQ)):=Ű;have a3:nX anc aq (anc[aq]'(h'▸cQ)):=Ű;simp only[a2,a3,oM ih aq a1 a2 a3];have cQ:=u.acL cQ;rw[r.aii (b▸cQ),r.aii (h'▸cQ)]
def c1.fn{a:aH}{q:u}{k s':bv}(y:uu q)(V:ty q s'):k=s':=by induction y generalizing s' with|i9 q g n=>rw[p4 n,mZ n,mY l d n,m2 (V.f3 d),mY V];rw[n.Iw]at V;rw[p4 V,mZ V,mZ V];(rintro bZ cw e);rw[n.fn cw]|iv d=>exact wv V.f3 d|lk d=>exact wv V.f3 d|D q n t mp cY d Ab cC c4=>rw[zd V.f3 d,mZ V];(rintro f4 f5 g1 gW e);rw[cC.fn g1,c4.fn gW]|bI q aj a0 n t mp cY d Ab hd dt U cC c4=>rw[m3 UA (V.f3 d),mZ V];(rintro jx cw er f4 f5 ad1 aG6 g1 gW e);cases ap.c.dB (hd.cq.ah ad1);cases ap.c.dB (dt.cq.ah aG6);rw[cC.fn g1,c4.fn gW]|bY q n g k d Ab U cu _ ih=>rw[zd V.f3 d,mZ V];(rintro bZ bh e dL V);cases ap.c.dB (U.cq.ah dL);rw[ih V]|un q i dr d Ab Q h2 h3 _ h5 ih=>rw[m3 AF (V.f3 d),mZ V];rintro anc e amN V;rw[UH h3 amN fun aq f k s' a1 a2 a3=>ih aq f k a1 a2 (V aq f _ a1 a3)]
abbrev mR(q:u):Prop:=sU 0∧sU 2∧sU 3∧sU 8∧sU 12∧sU 13∧sU 14∧sU 15
def Gy{q}(b:æ):mR q:=have ac(o:u)(aG:u.akG o 16=F):sU o:=u.alF (u.k0 (u.afQ aG) b);(JE (ac 0 e) (ac 2 e) (ac 3 e) (ac 8 e) (ac 12 e) (ac 13 e) (ac 14 e) (ac 15 e))
abbrev aD8(q:u):N:=aQs 0&&(aQs 2&&(aQs 3&&(aQs 8&&(aQs 12&&(aQs 13&&(aQs 14&&aQs 15))))))
def Ic{q}(b:aD8 q=F):mR q:=by(have ac(o:u)(aG:(aQs o)=F):sU o:=ol (by rw[oQ];rw[u.beq_refl]at aG;injection aG));rw[sB aD8 N.c3,mW JE (ac 0 od) (ac 2 rB) (ac 3 tO) (ac 8 vr) (ac 12 x9) (ac 13 (nj oH)) (ac 14 (oj oH)) (ac 15 (Ĉ oH))]
def hm.ok{q}{l}{g}(n:zS):mR q∧aOv:=by cases n with|f _ b|g _ b|a _ b|d _ b=>exact qS (Gy b)|_=>exact qS (Ic e)
def Y9{q}(b:q=11∨æ):mR q:=b.az (ol (d▸Ic e)) Gy
def c1.gs:∀{a}{q}{k}(y:uu q),∃l,op a.ak l∧aOv∧mR q:=by rw[vj q k,mY y];cases y with|i9 _ g n=>rw[oz n l d n,mW AP l d n.ok.2 n.ok.1]|iv d=>exact(AP _ d e (Ic e))|lk d=>exact(AP _ d e (Ic e))|D _ n t mp cY d Ab=>exact(AP _ d e (Y9 Ab))|bI _ aj a0 n t mp cY d Ab=>exact(AP _ d e (Gy Ab))|bY _ n g k d Ab=>exact(AP _ d e (Gy Ab))|un _ i dr d Ab=>exact(AP _ d e (Gy Ab))
abbrev a9.AG:aQF|.bY _=>F|_=>Y
abbrev a9.adp:aQF|qr _=>F|_=>Y
abbrev a9.acI:aQF|q9 _|m7 .aO|uW|.mP|rx=>F|_=>Y
abbrev a9.abA:aQF|qr _|.bY _=>F|_=>Y
abbrev a9.iF:aQF|m7 .D|nP _=>F|_=>Y
abbrev acX(k v:u)(g:a9):R:=ow v 1 1 (ow k 1 (t9 g.AG (-1)) (-1))
abbrev ae4(k v:u)(f g:a9):R:=ow k 4 0 (ow f.jE v 1 (ow f rx (ow g aUw 1 0) 0))
abbrev kJ(k v:u)(f g:a9):R:=if acX k v g≥0 then acX k v g else if f.abA||g.abA then-1 else ow v 10 (if f.acI then 0 else-1) (if g.acI then(t9 f.acI (ae4 k v f g))else if k=4∨k=5 then 0 else-1)
def C9(f g:u)(b:f≠g):(vn==nc g)=Y:=wT ajl
def DN(f g:u):(vn==nc g)=(f==g):=by rw[nH b f g,pq];simp;rw[C9 f g b];simp[b]
def Gr(v o:u)(b:v=o):(nc v==uQ)=F:=by rw[pq];simp
def Bn{f}(o:u)(b:f≠o):f1 [] .eq th qv=c oX:=AH (Ke o b)
def E_(l:a9)(i:n1){x}(b:i.afo l.o=x)(aC:u.aao i.z 1000=F:=by rfl):aQN gH (ws i.au .m) (qP x):=Jn l.o i b aC
def NQ(l:a9):[6,7,10,14,15,16,17,18,19].afo l.o=l.abA:=zQ
def Vb(l:a9):[10,14,15,16,17,18,19].afo l.o=l.AG:=zQ
def J9(l:a9):[1,2,3,4,5].afo l.o=l.acI:=zQ
def AcH(a:aH)(h v)(g:a9)(U:r6)(aS:mR v):pG 2 34 [nQ,oF] (pf (t9 g.AG (-1))):=by have b:=E_ g [10,14,15,16,17,18,19] (Vb g);rw[pI ba g.AG (by rw[ot Mt [ă v g U,p (Bo a.G g),Ö ba b]]) (by rw[ot Mt [ă v g U,p (Bo a.G g),Ö ba b,aZ (GD a h v g U (nj aS)),.K]])]
def Acm:∀(a:aH)(h k v)(g)(U:r6)(hs:mR k)(aS:mR v),pG 3 33 pM (pf (acX k v g)):=by injections a h k v g;intro U hs aS;have cK:=AcH a h v g U aS;rw[mX HB hs fun s0 BS P P P ap1 P P=>?_,mX HB aS fun t0 d2 P P P awE P P=>?_,mZ P,nH a1 v 1,mZ U aS cK t0 d2 awE];subst a1;rw[mW (nd I' [.K,.K,sJ 2 BS,sJ 13 ap1,sJ 0 s0,.K]),nH a2 k 1,mZ hs s0 BS ap1];subst a2;rw[show acX 1 v g=t9 g.AG (-1)by unfold acX;rw[cH a1,vp],mW (nd I' [sJ 0 t0,sJ 13 awE,.K,.K,.K,sJ 1 a1,.K,.K,aZ cK]),show acX k v g=-1 by unfold acX;rw[cH a1,cH a2],mW (nd I' [sJ 0 t0,sJ 13 awE,sJ 2 BS,sJ 13 ap1,sJ 0 s0,sJ 1 a1,sJ 0 s0,sJ 1 a2,sJ 2 d2])]
def YG(a:aH)(h:u)(f g x:ar):qM 36 [nQ,f,g,x] nr:=nd Sh [.K]
def AcK:∀(a:aH)(h k v:u)(f g)(a_:qq)(U:r6)(aS:mR v)(abs:f.acI=F)(aeA:g.acI=F)(dw:¬(f=rx∧g=rx)),pG 2 35 pM (pf (ae4 k v f g)):=by injections a h k v f g;rw[mY a_ U aS abs aeA dw,m2 (oj aS),mY h3,nH a1 k 4,mZ a_];subst a1;exact nd DP [.K,sJ 3 h3];have gr:=sP k f a_;have jk:=sP v g U;clear U;have jm:=Em a h f;rw[nH a2 f.jE v,show ae4 k v f g=1 by unfold ae4;rw[cH a1,c0 a2],mW (nd DP [sJ 4 a1,re,uO,aOp,p (AH (show(f.jE==nc v)=F from lb.gS a2)),aOp,p (CR (hZ (show 0≤f.jE by exact A5 [f.jE,↑v] 0 b5 d4 b5 0 d4 e (R.fp a2.cq) vU)))])];have bj:=AH (acw a2);rw[nH a3 f rx,mZ a_ abs];subst a3;rw[show ae4 k v _ g=ow g uW 1 0 by unfold ae4;rw[cH a1,cH a2,vp],m2 (Em a h g),mY adD];(induction g using a9.ae with|jc=>exact t_ dw zl|bi y=>have Aa:f1 [] .eq (og y) aUw=c (n5 (y=="a")):=e;rw[nH aJ y "a",mZ aeA dw Aa,vP,mW (nd DP [sJ 4 a1,re,uO,aOp,za,.K,.K,.K,.K,.K,.K,.K,.K,.K,aZ adD,aOp,.K,.K,.K,.K])];rw[show(y=="a")=Y from acw aJ]at Aa;rw[cH (ol (aJ (a9.bi.dB d))),mW (nd DP [sJ 4 a1,re,uO,aOp,za,.K,.K,.K,.K,.K,.K,.K,.K,.K,aZ adD,aOp,.K,.K,.K,p Aa])]|mP=>rw[ot DP [sJ 4 a1,re,uO,aOp,za,.K,.K,.K,.K,.K,.K,.K,.K,.K,aZ adD,aOp,.K]]|dx|aO=>rw[ot DP [sJ 4 a1,re,uO,aOp,za,.K,.K,.K,.K,.K,.K,.K,.K,.K]]|_=>rw[sQ aeA]);rw[show ae4 k v f g=0 by unfold ae4;rw[cH a1,cH a2,cH a3]];(have aG:(f.o==5)=Y:=by rw[mZ a_ abs dw gr jm a2 bj,y6 f a9.ae (by exact t_ a3 e)]);rw[xE jb Bo f,mW (nd DP [sJ 4 a1,re,uO,aOp,za,.K,sC,rN aG,sC,rN aG,aZ (YG a h pV f.aY g.aY)])]
def P0:∀(a:aH)(h k v:u)(f g:a9)(a_:qq)(U:r6)(hs:mR k)(aS:mR v)(dw:¬(f=rx∧g=rx)),pG 4 32 pM (pf vw):=by injections a h k v f g;intro a_ U hs aS dw;have l3:=Č Acm g U hs aS;have gr:=sP k f a_;have jk:=sP v g U;rw[xE jb Bo f];have dt:=Bo a.G g;by_cases bf:0≤acX k v g;rw[sr vw (acX k v g) (c0 bf),mW (nd CQ [ů,sZ CR hZ bf])];have BH:=CR (jq bf);rw[show vw=_ from cH bf];have jU:=E_ f [6,7,10,14,15,16,17,18,19] (NQ f);have cR:=E_ g [6,7,10,14,15,16,17,18,19] (NQ g);rw[pI aCk f.abA (by rw[ot CQ [ů,Ì,re,sC,uO,xn,Ö aCk jU]]) (by rw[aCk]at jU;rw[pI arv g.abA (by rw[ot CQ [ů,Ì,re,sC,uO,xn,p jU,Ö arv cR]]) (by rw[arv]at cR;have ac0:=E_ f [1,2,3,4,5] (J9 f);have aef:=E_ g [1,2,3,4,5] (J9 g);rw[cH (nw:¬(Y||Y)=F),nH kB v 10,mZ U aS bf];subst kB;rw[vp];(rw[pI abs f.acI (by rw[ot CQ [ů,Ì,re,sC,uO,xn,p jU,p cR,.K,Ö abs ac0]]) (by rw[ot CQ [ů,Ì,re,sC,uO,xn,p jU,p cR,.K,Ö abs ac0]])]);rw[cH kB,pI aeA g.acI (by rw[vp];(rw[pI abs f.acI (by rw[ot CQ [ů,Ì,re,sC,uO,xn,p jU,p cR,p (Bn _ kB),Ö aeA aef,Ö abs ac0,aZ (AcK a nB k v f g a_ U aS abs aeA dw)]]) (by rw[ot CQ [ů,Ì,re,sC,uO,xn,p jU,p cR,p (Bn _ kB),Ö aeA aef,Ö abs ac0]])])) (by rw[aSt,nH h4 k 4,mZ a_ hs bf];subst h4;rw[mW (nd CQ [ů,Ì,re,sC,uO,xn,p jU,p cR,p (Bn _ kB),Ö aeA aef,.K]),nH h5 k 5,mZ a_ hs bf h4];subst h5;rw[mW (nd CQ [ů,Ì,re,sC,uO,xn,p jU,p cR,p (Bn _ kB),Ö aeA aef,.K,.K]),cH (ol (d.az h4 h5)),mW (nd CQ [ů,Ì,re,sC,uO,xn,p jU,p cR,p (Bn _ kB),Ö aeA aef,sJ 4 h4,sJ 5 h5,sJ 3 (oj hs)])])])])]
abbrev fm(o:u×u):ar:=nE [.m o.1,.m o.2]
def F3(f g)(b:fm f=fm g):f=g:=by rw[aPH];obtain⟨c6,dn⟩:=g;simp only[fm,ar.ay.fV,r.s.fV,ar.m.fV,aib]at b;rw[R.gq.dB od,R.gq.dB qK]
def DW(o):(fm o).im jA=F:=uJ
def Hy(o):l4 (fm o)=F:=e
abbrev hA(o:u×u):vH pu N|[]=>B|v_=>aTB hA
def H0(o):hA o []=B:=e
def H1(o):∀f y l,hA o v_=(aTB hA):=uD
abbrev mw(o:u×u)(y:N):pu→pu|[]=>[(o,y)]|aOT=>aSU v_ (mw o y l)
def Gp(o)(y):mw o y []=([(o,y)]):=e
def Gq(o)(y):∀f g l,mw o y aOT=(aSU v_ (mw o y l)):=uD
abbrev iR(M:pu):ys:=M.au fun d=>(fm d.1,qP d.2)
abbrev hu(O:q5):ys:=O.au fun o=>(vt,nG)
def JC(o)(M):kx vt (iR M)=(hA o M).au .aO:=qb M (by rfl) d M (by rw[aT7 y d];simp only[iR,r.gI,EM,EN,H0,H1];rw[nH b f o,mZ ih,pq];simp;rw[m1 (¬fm f=fm o) (ol (b (tj F3))),m5,cH aa,cH b,mW ih])
def Na(o)(y)(M):abn vt rK (iR M)=iR (mw o y M):=qb M (by rfl) d M (by rw[aT7 V d];simp only[iR,r.gI,FZ,F0,Gp,Gq];rw[nH b f o,mZ ih,pq];simp;rw[m1 (¬fm f=fm o) (ol (b (tj F3))),m5,cH aa,cH b,r.gI,uh])
set_option tactic.hygienic true in
def Or(o)(y)(M)(d)(b:d∈mw o y M):d∈M∨d=(o,y):=qb M (by simp only[Gp,Gq,r.i7]at b;exact aQ.bF b) j M (by rw[aT7 V j,sB Gp Gq];split at b;rename_i he;clear ih;subst he;rw[aSo,oe,m9,oe,m8,mW aUm,mW aQ.bT (r.lH _ b),aSo,oe,m9,oe,m8,mW aQ.bT (b▸tG),nt ŭ,oe,m9,oe,m8,mW aQ.bT (r.lH _ b),mW aUm])
set_option tactic.hygienic true in
def H2(o aaz)(y)(M):hA aaz (mw o y M)=ow o aaz qu (hA aaz M):=qb M (by rfl) j M (by rw[aT7 V j];simp only[Gp,Gq];split;rename_i he;clear ih;subst he;simp only[H0,H1];split<;>rfl;rename_i he;simp only[H0,H1,ih];split;rename_i h2;clear ih;subst h2;rw[cH (oE (he b.cq))]at⊢;rfl)
def Kq(o)(y)(M):(mw o y M).z≤M.z+1:=qb M (by rw[qy]) j M (by rw[aT7 V j];simp only[Gp,Gq];split<;>(simp only[r.kZ])<;>omega)
set_option tactic.hygienic true in
def Kp(o)(M)(y)(b:hA o M=c y):(o,y)∈M:=qb M (by rw[xF]) j M (by rw[aT7 V j,sB H0 H1];split at b;rename_i he;clear ih;subst he;rw[nf b,mZ b,nR,pq,mW tG,mW r.lH _ ŭ])
def Hr(o)(O):(kx vt (hu O)).eF=b1 (o∈O):=qb O (by rfl) f O (by simp only[hu,r.gI,EM,EN];rw[nH b f o,mZ ih,pq];simp;rw[m1 (¬fm f=fm o) (ol (b (tj F3))),mY aa,m1 (¬o=f) (ol (b d.cq)),mY h',cH aa,m2 ih,m5];unfold hu at aa;rw[tf];simp[h'])
def T'(o)(O)(b:o∉O):abn vt nG (hu O)=hu (O++[o]):=qb O (by rfl) f O (by rw[sB r.gA aj5];have:¬fm f=fm o:=ol (b.1 (rz (tj F3)));simp only[hu,r.gI,FZ,F0,cH aa,r.aoe];rw[uh,mW ih qK])
def TY(o)(O)(b:o∉O):aep vt (hu (O++[o]))=hu O:=qb O (by simp[hu,EL]) f O (by rw[r.gA,aj5]at b;have:¬fm f=fm o:=ol (b.1 (rz (tj F3)));simp only[hu,r.gI,EL,cH aa,r.aoe];rw[uh,mW ih qK])
def CN{cg gn:Type}{p}{f}{ac:vH cg gn}{l}(b:p=c f)(o:ac f=l):p.bP ac=l:=nb b o
def J6{gn}{w}{q x}{fs}{ac}{l:ap gn}(b:aSB)(o:ac x fs=l):agz w q ac=l:=by unfold agz;rw[b,mW o]
def J'{gn:Type}{x}[ah1 x]{j l:ap gn}(b:x)(o:j=l):(nK x j)=l:=(c0 b).ah o
def Ep:∀(O)(cf)(d)(h)(j)(l)(w a4 dm)(y)(q x)(fs)(Q:o5 (o0 aU j) y)(h2:aNJ d=c (n3,dm))(h3:pO dm (qI x fs))(h4:O.abp x h=F)(h5:fs.z<200),pU dP (.dU d h j)=c (na,l,aOH (.bS x aS6)):=by rw[mY O cf d h j l w a4 dm y q x fs,mY Q h2 h3 h4 h5,mX CN Q (CN h2 ?_),mX (cr (ap.au _) (show aEy O _ q h y=c (dm.b6 q _)from J6 h3 (J' (q0 h4 (hZ h5)) e))).ah e]
def I3:∀(a:aH)(cf)(l)(b:ń px)(h)(f)(p)(g V)(b2:T.abp 3 h=F)(aC:rm (acA h [sL,qH,vC,wg,w2,aWw a.gl,yG,sM "deep" a.e5,sM "looks" a.c2,ő,yZ oX,ō,aQT a.k1,ŷ]) f)(ei:ath p f g=c V),dP T cf (.agg pn h p y9) l a.G=c (na,l,tI 12 (.bS 3 (abq h (.m V) [sL,qH,vC,wg,w2,aWw a.gl,yG,sM "deep" a.e5,sM "looks" a.c2,ő,yZ oX,ō,aQT a.k1,ŷ]))):=by rw[mY a cf l,mY b,mY h f p g V,mY b2 aC ei,m1 (oD (å _ _) vS) (q0 Bl b),mY d,mX CN d (J6 (BY a) (J' b2 (CN aC (CN ei ?_)))),mW (uU (J6 (BY a) e)).ah e]
def RO(a:aH)(cf)(l)(b:ń px):dP T cf (.agg pn "looks" .e_ nG) l a.G=c (na,l,yt c2 vQ):=nb (n7 (I3 a _ l b) 1 _ e e e) (cr (nF (t' ls.bU j)) (Fl a _ _ _))
def RM(a:aH)(cf)(l)(b:ń px):dP T cf (.agg pn "deep" .e_ nG) l a.G=c (na,l,yt e5 (a.e5+1)):=nb (n7 (I3 a _ l b) 1 _ e e e) (cr (nF (t' ls.bU j)) (Fl a _ _ _))
def RN(a:aH)(cf)(l)(b:ń px):dP T cf (.agg pn "deep" .eZ nG) l a.G=c (na,l,yt e5 (a.e5-1)):=nb (n7 (I3 a _ l b) 1 _ e e e) (cr (nF (t' ls.bU j)) (Fl a _ _ _))
def QB(O)(cf)(d o)(l)(w a4 dm)(q)(e7)(i)(Q:uw n3)(h2:aNJ o=c (e7,dm))(h3:pO dm x6)(h4:l4 e7=F)(h5:e7.im jA=F)(h6:(kx e7 i).eF=F):pU dP (.agn d o)=c (na,l,aOH (.bE (aep e7 i))):=by rw[mX CN Q (CN h2 ?_),mX (cr (ap.au _) (show aq3 dm q e7=c (aOH (.bE (aep e7 i)))from ?_)).ah e];delta aq3 aat;rw[h3,mW c0 (ű h4 h5 h6)]
def Lx(O)(cf)(d)(l)(w a4)(q)(i)(y)(Q:uw n3)(h2:pO a4 (.aw (i++[y]))):oC (.adw d)=c (y,a4.b6 q rj):=by rw[rc (pk ta Q)];show alL a4 q=_;delta alL;rw[J5 h2];rw[r.getLast?_concat,r.dropLast_concat,ap.ji]
def DH(adz)(bD:aS9)(h)(l)(w a4 dm)(bW)(b:o5 (adz l w) F)(U:bD l a4=c (na,bW,dm)):ae8 adz bD nB l w=ae8 adz bD h bW dm:=by simp only[Lr,b];simp only[ap.eO,fU,U];rfl
def Fu(adz)(bD)(h)(l)(w a4)(b:o5 (adz l w) Y):ae8 adz bD nB l w=c (na,l,a4):=sg Lr b
def Ace{O}{cf}{x}{l}{w a4}{g}(b:o5 (o0 aU x) qz):o5 (o0 adA x) g:=by unfold adA;rw[b];rfl
def Tn:∀(a:aH)(aS:pN)(h)(O ks)(cu:(Ļ).fF)(aC:ks.z<4000)(Q:a.eM=(Ļ).au fm)(h2:a.ey=hu Ļ),Ř 24 [nQ,nE [nr,.m O.z]]=c (.B,aH.G (aQB eM (O.au fm) (hu O))):=by rw[ug,mY aS,yb O ks,mY cu aC Q h2];(have Aw:dP T nT (.amB (Ĩ (sO "notes") "rows") (.aT qc nr)) aRv a.G=c (na,aRv,a.G):=by rw[m1 (oD (aU _ nT (Ĩ (sO "notes") "rows") aRv a.G) (.D 19)) aQo,mY jb,m1 (oD (aU _ nT (rq 1) aRv a.G) nr) (qX [.K]),mY dt,rc (pk ta jb)];simp only[ap.eO,IR,dt,azV,ED,J5 (Gc a),g2];rfl);(have akS:∀(z':aH)(aS:z'.Ap≤z'.ca.z),qf (adA T nT (on gt (sW (sO "trail")) (x1 nG)) aRv z'.G) (b1 (O.z<z'.eM.z)):=by intro z' aJg;have aC:rm (acN z'.G (.D z'.gl)) z'.eM.z:=CW (Fm (DZ z' aJg)) e;exact Ace (qX [p aC,.K,p (B' (sr (b1 _) (b1 (O.z<z'.eM.z)) (aon.gS R.aa7)))]));(have kD:∀(H:u)(ks:q5)(a:aH)(aS:pN),ks.z=H→(Ļ).fF→a.eM=(Ļ).au fm→a.ey=hu Ļ→∀gc,H<gc→ae8 (adA T nT (on gt (sW (sO "trail")) (x1 nG))) (aO4 nT (nA (aQ2 agn "assumed" (.adw (sO "trail"))))) gc aRv a.G=c (na,aRv,aH.G (aQB eM (O.au fm) (hu O))):=by intro H;induction H with|hf=>rw[mY ks a aS aG cu Q h2 gc adY,mZ cu,m2 (r.aDA.1 aG),m5,mZ aG,uM];rw[r.afl]at Q h2;(obtain⟨gg,e⟩:∃gg,gc=gg+1:=⟨gc-1,m4 (Br _ S nN S nN e (rz (s7 (aQE [gc,gc-1] _ 0 S e adY))))⟩);rw[p5 Fu gg _ a.G,m1 ((aQB eM (O.au _) (hu O):aH)=a) (by rw[←Q,←h2]),m5,tf,ru akS,Q];simp|gk H ih=>intro ks a aS aG cu Q h2 gc adY;obtain⟨gg,e⟩:∃gg,gc=gg+1:=⟨gc-1,m4 (Br _ ai pR ai pR e (rz (s7 (aQE [H,gc,gc-1] _ nm ai e adY))))⟩;rw[nt (r.eq_nil_or_concat ks)];rintro D0;rw[m9,mY J,ri BF,ng];rintro ajQ o e;rw[m8,mZ cu,mZ Q h2];subst D0;simp at aG;rw[r.concat_eq_append]at aG cu Q h2;rw[←r.abP]at cu Q h2;simp only[r.gR,r.lF]at aG;rw[m1 (o∉O++ajQ) (by rw[r.anm]at cu;rw[nR,mW (nW cu o b o (r.i7.2 e) e)]),mY aaw,m1 (aU _ _ (.adw (sO "trail")) aRv a.G=c (vt,m7 a.G.b6)) (by apply Lx T nT _ _ _ a.G a.gl ((O++ajQ).au fm) vt aQo;rw[ru DZ,Q];simp),mY ep,p5 DH gg _ a.G (aH.G (aQB eM ((O++ajQ).au fm) (hu (O++ajQ)))) aRv,mW (rJ (ih _ (aQB eM ((O++ajQ).au _) (hu _)) aS (m4 (Br [H,ajQ.z] ai S nN nm e aG)) (r.anm.1 cu).1 e e _)),ru akS,Q];simp;rw[DM,Eo];rw[PQ]at ep;rw[qm QB _ _ (hu _) aQo ep (uq h2 (EW _)) e (DW o) (Ž Hr)];rw[Kl,Bg,TY o _ aaw,K7]);exact nd Sc [os Aw,os ((Fw ..).ah (nM kD a aS e cu Q h2 _ (qC (by unfold al0))))]
abbrev aH.BP(a:aH):aH:={a with eM:=[],apL:=(ow a.Ap 0 a.eM a.apL),ca:=z8 (ow a.Ap 0 a.ca (a.ca.b6 ğ (c_.aw a.eM))),Ap:=a.ca.z+1}
def Ou(ael:ch)(p:c_)(h)(b:h=ael.z):(ael++[p]).b6 h p=ael++[p]:=by rw[pq,aQp (m7 r.akf),u.aEN];rfl
def OX{a:aH}(b:Ú):a.BP={a with eM:=[],apL:=a.eM,ca:=z8 a.ca,Ap:=a.ca.z+1}:=by unfold aH.BP;rw[c0 b,c0 b]
def OY{a:aH}(b:¬Ú):a.BP={a with eM:=[],ca:=z8 (a.ca.b6 ğ (c_.aw a.eM)),Ap:=a.ca.z+1}:=by unfold aH.BP;rw[cH b,cH b]
def XB:∀(a:aH)(aS:pN),(tE aTX).b6 12 (k6 a.G.z a.e5 a.c2 a.k1)=a.BP.G:=by rw[mY a,mY aS];(have iN:a.BP.gl=a.G.z:=by rw[CI];simp only[aH.gl,aH.BP];exact BI [a.ca.z,a.ds.z] (25+ai+nm) (26+ai+S) e);rw[nH bf a.Ap 0,m1 (a.BP.g8=(a.g8.b6 16 (c_.aw a.eM)).b6 12 (k6 a.G.z a.e5 a.c2 a.k1)) (by rw[←iN];rw[OX bf];rfl),mY aoX,m1 (a.G=((a.g8.b6 16 (c_.aw a.eM))++xR)++a.ca) (by unfold aH.G;rw[show a.gl=16 by simp[aH.gl,bf],r.abP,ž (wT Bs),r.abP]),mY aV,m1 (a.BP.G=((a.BP.g8++xR)++(z8 a.ca)).b6 a.G.z (c_.aw [])) (by rw[←iN,OX bf];rfl),mY bj,bj,←r.abP,n7 Ou (by rw[CI];simp[Bs,Ca,u.la]),aoX];rw[aV];rw[ž (by simp[Bs];exact AJ [a.ca.z,qo ii 2 a.ds] (12+1) (26+(ai+S)) e),ž (by simp[Bs];exact AJ [qo ii 2 a.ds] (12+1) zf e),m7 r.abC (by simp[Bs]),m1 (a.BP.g8=a.g8.b6 12 (k6 a.G.z a.e5 a.c2 a.k1)) (by rw[←iN];rw[OY bf];rfl),mY aoX,m1 (a.G=(a.g8++xR)++a.ca.b6 ğ (c_.aw a.eM)) (by rw[aPW,show a.gl=(a.g8++xR).z+ğ by simp[aH.gl,bf,Bs,Ca];exact Br [a.Ap,a.ds.z,ğ] (25+ai+S) (26+ai+a8) S pR e (rz (s7 (aQE [a.Ap,a.ds.z,ğ] S 0 S e (u.ahT bf)))),rJ (m7 r.akf)];congr 2;exact q3 (Br [r.z (a.g8++xR)+ğ-r.z (a.g8++xR),ğ,r.z (a.g8++xR)] S ai (S+a8) (a8+ai) e) (AJ [r.z (a.g8++xR)+ğ-r.z (a.g8++xR),ğ,r.z (a.g8++xR)] a8 (a8+ai) e)),mY aV,m1 (a.BP.G=((a.BP.g8++xR)++(z8 (a.ca.b6 ğ (c_.aw a.eM)))).b6 a.G.z (c_.aw [])) (by rw[←iN,OY bf];rfl),mY bj,bj,←r.abP,n7 Ou (by rw[CI];simp[Bs,Ca,u.la]),aoX];rw[aV];rw[ž (by simp[Bs];exact AJ [a.ca.z,qo ii 2 a.ds] (12+1) (26+(ai+S)) e),ž (by simp[Bs];exact AJ [qo ii 2 a.ds] (12+1) zf e),m7 r.abC (by simp[Bs])]
abbrev abw(O:q5)(M:pu):pu:=O.mJ (fun M o=>aVH) M
def Wy(O)(M):qo abw O M≤M.z+O.z:=by induction O generalizing M with|C=>simp[abw]|s o O ih=>rw[m2 (ih (mw o F M)),mY Q,m2 (Kq o F M),mY h2];simp only[abw,r.aul,r.kZ]at*;exact Am [(r.mJ (fun M o=>aVH) aVH O).z,(aVH).z,O.z,M.z] S (eK+pR) S (ai+a8) ai (eK+1) e Q h2
def Wz(O)(M)(d)(b:d∈abw O M):d∈M∨(d.1∈O∧d.2=F):=by induction O generalizing M with|C=>exact aQ.bT b|s o O ih=>rw[nt (ih aVH b),oe,m9,oe,m8,nt (Or o F M d b),oe,m9,oe,m8,mW Í,mW (rW aQ.bF (nb b tG) (by rw[b])),mW (rW aQ.bF (Ċ od) qK)]
def Om(O)(M)(o)(b:(hA o M).eF=F∨o∈O):(hA o (abw O M)).eF=F:=by induction O generalizing M with|C=>rw[Œ];(rw[oe]);rw[m9];(rw[oe]);rw[m8,mW b];cases b|s f O ih=>apply ih;rw[nY b b,oe,m9,oe,m8];left;rw[H2]at⊢;split;rfl;rw[mW b,aSo,oe,m9,oe,m8];left;rw[H2,c0 b.cq]at⊢;rfl;exact aUm
def S2(cf)(agb:q5)(a'):∀(a:aH)(aS:pN)(M)(fJ),a.eM=agb.au fm→a.ey=hu a'→a.fO=iR M→M.z+a'.z<1000000→∃any,fZ (f0 T cf (.s (aQ2 agn "assumed" ph) (nA (ts qc (nA (.jl (sO "known") ph pb)))))) 2 (c (a.gl,agb.au fm)) (a'.au fm) (aS5 fJ) a.G=c (na,aS5 any,aH.G {a with ey:=[],fO:=iR (abw a' M)}):=qb a' (by rw[mY a aS M fJ Q h2 h3 h4,y0 fJ,r.ajV,ni F9 _ (by simp[AY,ru DZ,Q]),m1 (({a with ey:=[],fO:=iR (abw [] M)}:aH)=a) (by rw[m6 (({a with ey:=[],fO:=iR M}:aH)=a),←h3,m1 (a.ey=[]) h2,mY kT,←kT]),m5,tf]) o a' (by intro a aS M fJ Q h2 h3 h4;simp only[r.kZ]at h4;rw[m2 (Kq o F M),mY aG];obtain⟨any,fk⟩:=ih {a with ey:=hu a',fO:=iR (mw o F M)} aS aVH (c vt) Q e e (m4 (oa Am [M.z,a'.z,(aVH).z] (a8+ai) 1000000 tS 1000000 a8 nm e h4 aG));rw[y0 any,r.gI,n7 (ni HF) (by simp[AY,ru DZ,Q])];(have aV:aQ9 dP (aQ2 agn "assumed" ph) (aS5 (c vt))=c (na,aS5 (c vt),yt ey (hu a')):=by rw[nM (QB T cf _ _) a.G a.G 14 vt (hu (o::a')) aQo aQo (tg EW h2) e (DW o) (Ž Hr),m1 (aep vt (hu (o::a'))=hu a') (by simp[hu,EL]),m5,aa,K7]);rw[m1 (rH iR M<1048576) (aSd iR r.hN (oa Ag [M.z,a'.z] S 1048576 tS 1000000 e h4)),mY aC];(have bj:aQ9 f0 (.s (aQ2 agn "assumed" ph) (nA (ts qc (nA (.jl (sO "known") ph pb))))) ((aS5 fJ).b6 2 (c vt))=c (na,aS5 (c vt),aH.G {a with ey:=hu a',fO:=iR (mw o F M)}):=by rw[m2 (pX EX (oP ey (hu a')) (pk (nF nJ) h3)),mY K];(have lf:lm (yt ey (hu a')) 15 vt pb=c (aH.G {a with ey:=hu a',fO:=iR (mw o F M)}):=by unfold lm;rw[K,m6 ((nK ((l4 _&&((fm o).im _&&b1 (rH iR M<dv)))=F) nJ)=_),c0 (q0 DW (qJ hZ (rH iR M<dv) aC)),Na,mW cr c (m7 PO)]);exact pK [os aV,aaG lf]);rw[bj,NB,mW fk])
def F8{O}{cf}{g}{q}{l}{w}{y}{i}{x}{V}(hs:kn w y=c (i,x))(b:fZ aRd q x i l w=V):((kn w y).bP fun t=>fZ aRd q oI oq l w)=V:=nb hs b
def S3:∀(a:aH)(aS:pN)(h:u)(O:q5)(M:pu)(Q:a.eM=O.au fm)(h2:a.ey=hu O)(h3:a.fO=iR M)(h4:M.z+O.z<1000000),Ř 28 [nQ,pb]=c (.B,({a with ey:=[],fO:=iR (abw O M)}:aH).BP.G):=by rw[mY a,mY aS,mY h O M,mY Q h2 h3 h4,n4 (S2 nT O O a aS M B Q h2 h3 h4) any aC];have hs:=Il (Q▸ru DZ);rw[m2 (XB {a with ey:=[],fO:=iR (abw O M)} aS),mY cu];(have afH:dP T nT (.dU pn "trail" Ņ) (aS5 any) (aH.G {a with ey:=[],fO:=iR (abw O M)})=c (na,aS5 any,({a with ey:=[],fO:=iR (abw O M)}:aH).BP.G):=by rw[n7 (Ep T nT _ _) (z8 (aH.G {a with ey:=[],fO:=iR (abw O M)})) (z8 (aH.G {a with ey:=[],fO:=iR (abw O M)})) (.D (rH aH.G {a with ey:=[],fO:=iR (abw O M)})) 12 3 [sL,qH,vC,wg,w2,aWw a.gl,yG,sM "deep" a.e5,sM "looks" a.c2,ő,yZ oX,ō,aQT a.k1,ŷ] (sg C6 Ar) (by simp only[Bl];rfl) (nb (r.jP (qC (by simp only[CI]))) (BY {a with ey:=[],fO:=iR (abw O M)})) e (aRX (14<200)),←cu];rfl);exact nd Sd [os (F8 hs aC),os afH]
abbrev kv:oB:=[q9 "any",q9 "unknown",q9 "never",q9 "void",aUD,q9 "null",aSr,aSs,.aO 0 0,.aO 1 0,q9 "object",.D B B,qr [8,9],q9 "error",.aO 0 1,.aO 1 1]
structure dI(a:aH)(M:pu)(O:q5):Prop where
 kh:a.aiW
 eX:aRK kv a.ak
 cO:a.ak.fF
 aS:pN
 eM:a.eM=O.au fm
 ey:a.ey=hu O
 jX:O.fF
 fO:a.fO=iR M
 ks:∀(f g:u)(y:N),((f,g),y)∈M→∃sa bh,ty f sa∧ty g bh∧y=el sa bh
 jW:ob (O.z+M.z)≤a.c2
abbrev amm(a:aH)(o:u×u):Prop:=∃sa bh,ty o.1 sa∧ty o.2 bh∧el sa bh=F
abbrev fb(a:aH)(ao:oB)(O:q5)(cc:u)(cj:ea):aH:={a with ak:=ao,afK:=aay 0 ao,eM:=O.au fm,ey:=hu O,c2:=a.c2+cc,k1:=cj}
abbrev hj(a z':aH)(M:pu)(O kt:q5)(x:u):Prop:=∃(ao:oB)(ks:q5)(cc:u)(cj:ea),z'=fb a ao kt cc cj∧kt=Ļ∧dI z' M kt∧(aRK a.ak ao)∧(∀o∈ks,amm z' o)∧ks.z≤cc∧cc≤x∧ao.z≤a.ak.z+4*x
def KO(a)(ao)(O)(cc)(cj)(b:aRc):ô (fb a ao O cc cj):=⟨b,fun aj a0 d=>(Ad a0 d e),fun n g d=>d⟩
def hj.le{a z'}{M}{O kt}{x}(b:hj a z' M O kt x):yx:=by rw[m3 Db b,om];rintro ao ks cc cj e _ _ eE _;exact KO a ao _ _ _ eE
def YH(a)(ao iA)(O kt)(cc ajU)(cj aiK):fb (fb a ao O cc cj) iA kt ajU aiK=fb a iA kt (cc+ajU) aiK:=by rw[m1 (a.c2+nc cc+nc ajU=a.c2+ob (cc+ajU)) (m4 (R.ab6 (D1 [a.c2,↑cc,↑ajU] (b5+d4+gY) (b5+(d4+gY)) e) (D1 [a.c2,↑cc,↑ajU] (b5+(d4+gY)) (b5+d4+gY) e))),p0];simp only[fb,d]
def amm.bx{a z'}(b:yx){o}(v:amm a o):amm z' o:=by rw[mX At v fun sa bh gd fJ d=>?_,mW Au _ _ (gd.bx b) (fJ.bx b) d]
def YI{a}{M}{O}(aF:qG):fb a a.ak O 0 a.k1=a:=by rw[m2 aF.eM,mY Q,m2 aF.ey,mY h2,m2 aF.kh,mY h3];unfold aH.aiW at h3;unfold fb;rw[←Q,←h2,←h3];simp
def hj.fI:∀{a}{M}{O}(aF:qG)(x),hj a a M O O x:=by rw[mY a M O,mY aF,mY x,mW (p5 Dq 0 (by rw[YI aF]) (by simp only[r.afl]) aF aQ0 (fun o aG=>eh aG r.mz) rb (m4 (AJ [x] 0 S e)) n_)]
def hj.bx:∀{a z'}{M}{O kt}{x c'}(b:hj a z' M O kt x)(hc:x≤c'),hj a z' M O kt c':=by rw[mY a z' M O kt x c',mY b hc,mX ET b fun ao ks cc cj Q h2 h3 h4 h5 h6 h7 h8=>?_,mW (oM Dq ao Q h2 h3 h4 h5 h6 n_ (m4 (Am [x,c',ao.z,a.ak.z] a8 (ro eK 4) (su 4) (xq 4) a8 (rg eK 4) e (AM 4 hc) h8)))]
def hj.ah:∀{a z1 bz}{M}{O hY kO}{x c'}(b:hj a z1 M O hY x)(o:hj z1 bz M hY kO c'),hj a bz M O kO (x+c'):=by rw[mY a z1 bz M O hY kO x c',mY b o,m2 o.le,mY b7,m3 ET b,om];rintro ao ks cc cj e e h3 h4 h5 h6 h7 h8;rw[m3 ET o,mZ o];rintro iA ajQ ajU aiK e e ajO avA aJR aM7 aM8 aJS;rw[m1 ((fb a ao Ļ cc cj).ak.z=ao.z) e,mY d,mX Dq iA (ks++ajQ) (cc+ajU) aiK (YH ..) (y7 r.abP) ajO (fun q l Ab=>avA q l (h4 q l Ab)) ?_ (wT r.gR) n_ (m4 (Bu [x,ao.z,a.ak.z,c',iA.z,(fb a ao Ļ cc cj).ak.z] ahk (a8+(tz 4 (S+eK))) ai (rg a8 4) ahk (sn amo 4 eK) amo ai e h8 aJS (Az d))),tr,nt (r.aeP.1 J),x',m9,x',m8,mW (pa h5).bx b7,mW (pa aJR)]
def Gl{w}{f}{i}(o)(K:aPd x6){g}(b:(kx vt i).eF=g):f1 w .gH (nE [.m o.1,.m o.2]) rY=c qz:=by rw[pq,mX CS (?_:jT w vt _=_)];simp only[jT,K,Hy,DW,N.aen,fU]
def Wq{w:ch}{f:u}{i:ys}(o:u×u)(K:aPd x6){y:ar}(b:kx vt i=c y):pE w rY (nE [.m o.1,.m o.2])=c y:=by rw[m6 (eC w _ (fm o)=_)];simp only[eC,K,Hy,DW,N.aen,fU,b]
def Ko(a:aH)(h k v)(M)(adX:a.fO=iR M)(y)(b:hA o1 M=c y):qM 27 pM rK:=by(have hd:kx (fm o1) a.fO=c rK:=ű adX JC b);exact nd EG [p (Gl o1 (EX a) (cr ap.eF hd)),p (Wq o1 (EX a) hd)]
def WB(a:aH)(h k v)(M)(O)(adX:a.fO=iR M)(h1:a.ey=hu O)(b:hA o1 M=B)(h':o1∈O):qM 27 pM pb:=by(have hd:kx (fm o1) a.fO=B:=ű adX JC b);(have a_:(kx (fm o1) a.ey).eF=F:=tL h1 Hr (hZ h'));exact nd EG [p (Gl _ (EX a) (cr _ hd)),p (Gl _ (EW a) a_)]
abbrev AL(a:aH)(O:q5)(o:u×u):aH:={a with c2:=vQ,e5:=a.e5+1,ey:=hu (O++[o]),eM:=(O++[o]).au fm}
abbrev ahu(a:aH)(M:pu)(O:q5)(o:u×u)(ks:q5)(ao:oB)(cc:u)(cj:ea)(y:N):aH:=if y then(ow O [] ({aPK (o::ks)with ey:=[],fO:=iR (abw (o::ks) M)}:aH).BP (aPK (O++o::ks)))else(ow O [] {fb a ao [] (cc+1) cj with fO:=iR (mw o Y M)} (fb a ao O (cc+1) cj))
def Oo:∀(a:aH)(h k v:u)(M:pu)(O ks:q5)(aF:qG)(b:hA o1 M=B)(h':o1∉O)(aC:a.c2<20000)(hd:a.e5<60)(ao:oB)(cc:u)(cj:ea)(y:N)(kg:ks.z<3990)(abZ:(zu).fF)(js:a.c2+cc<900000)(jR:ob ((zu).z+M.z)≤a.c2+cc+1)(adm:bc T bo nB 37 pM (uz).G=c (rK,(aRL uz zu).G)),rE 2 27 pM=c (rK,(ahu a M O o1 ks ao cc cj y).G):=by injections a h k v M O ks;intro aF b h' aC hd;injections ao cc cj y;intro kg abZ js jR adm;have aS:=aF.aS;rw[m1 (kx _ a.fO=B) (ű aF.fO JC b),mY aIa,m1 ((kx _ a.ey).eF=Y) (tL aF.ey Hr (jq h')),mY art];have acH:=aF.jW;(have aHW:rH hu O<dv:=by delta hu dv;rw[r.hN,mW O7 acH aC]);(have aHX:rH O.au fm<dv:=by rw[ya,r.hN,mW O7 acH aC]);rw[m1 (rH iR M<dv) (by delta iR dv;rw[r.hN,mW X2 jR js]),mY aHK];have j8:=Gl o1 (EX a) (cr ap.eF aIa);have k2:=Gl o1 (EW a) art;have aj6:=CR (jq (show¬(nc 20000≤a.c2)by exact fun dO=>B4 (A5 [a.c2] 1 0 vk 20000 20000 b5 e aC dO)));have asc:=CR (jq (show¬(nc 60≤a.e5)by exact fun dO=>B4 (A5 [a.e5] 1 0 vk 60 60 b5 e hd dO)));have asd:=RO a n0 [px,ze,pZ,c (fm o1),B,B] e;have apM:=OJ (oP c2 vQ) h aS;rw[show(oP c2 vQ:aH).eM.z=O.z by rw[show(oP c2 vQ:aH).eM=_ from aF.eM,r.hN]]at apM;(have ase:lm (yt c2 vQ) 14 (fm o1) nG=c (aH.G (aQB c2 vQ (hu yz))):=by rw[KY _ _ (pX EW (oP c2 vQ) (pk (nF nJ) aF.ey)) (Hy _) (DW _) aHW,nv T' h',K7]);(have asf:afk (aH.G (aQB c2 vQ (hu yz))) (aH.G (aQB c2 vQ (hu yz))) a.gl (fm o1)=c (aH.G {a with c2:=vQ,ey:=hu yz,eM:=(yz).au fm}):=by rw[rc (L0 _ ((DZ (aQB c2 vQ (hu _)) aS).ah (pk (nF nJ) aF.eM)) aHX),r.ahL,mW cr c (m7 PQ)]);have asg:=RM {a with c2:=vQ,ey:=hu yz,eM:=(yz).au fm} n0 [px,ze,pZ,c (fm o1),yO [nr,.m O.z],B] e;rw[m2 (RN (aRL uz zu) n0 [nJ,ze,pZ,c (fm o1),yO [nr,.m O.z],c rK] e),mY apN];rw[show({aRL uz zu with e5:=(aRL uz zu).e5-1}:aH)=aPK zu by rw[m1 (a.e5+1-1=a.e5) (m4 (R.ab6 (D1 [a.e5] (vk-1) b5 e) (D1 [a.e5] b5 (vk-1) e))),mY aV];(have bj:vQ+nc cc=a.c2+aQj:=m4 (m7 O9));simp only[fb,AL,aV,bj]]at apN;rw[u9 y (by have aCr:bc T bo nB 24 [nQ,nE [nr,.m O.z]] (aPK zu).G=c (.B,(fb a ao O (cc+1) cj).G):=Tn (aPK zu) aS h O wu abZ (yg r.kZ (Ag [ks.z] (nm+1) 4000 nm 3990 e kg)) e e;rw[nH ak5 O []];subst ak5;(have f':lm (fb a ao [] (cc+1) cj).G 15 (fm o1) oX=c (ahu a M [] o1 ks ao cc cj Y).G:=ű (KY _ _ ((EX (fb a ao _ _ _)).ah (pk (nF nJ) aF.fO)) (Hy _) (DW _) aHK) Na PO);exact nd EG [p j8,p k2,aSb,p asc,aSb,os asd,aZ apM,aaG ase,aaG asf,os asg,.K,aZ adm,os apN,aZ aCr,.K,.K,aaG f'];have auy:(nc O.z==0)=Y:=acw fun d=>ak5 (r.aDA.mp (R.gq.dB d));rw[show ahu a M O _ _ ao _ _ _=fb a ao O _ _ by unfold ahu;rw[aSt,cH ak5],mW (nd EG [p j8,p k2,aSb,p asc,aSb,os asd,aZ apM,aaG ase,aaG asf,os asg,.K,aZ adm,os apN,aZ aCr,.K,rN auy,.K])]) (by rw[nH ak5 O []];subst ak5;have afC:=S3 (aPK ([]++wu)) aS h wu M e e aF.fO (by simp only[r.avT]at jR;exact O8 jR js);exact nd EG [p j8,p k2,aSb,p asc,aSb,os asd,aZ apM,aaG ase,aaG asf,os asg,.K,aZ adm,os apN,.K,.K,p (H6 (Gc (aPK ([]++wu)))),.K,.K,aZ afC];replace auy:(nc O.z==0)=Y:=acw fun d=>ak5 (r.aDA.mp (R.gq.dB d));rw[show ahu a M O _ _ ao _ _ _=fb a ao _ _ _ by unfold ahu;rw[vp,cH ak5],mW (nd EG [p j8,p k2,aSb,p asc,aSb,os asd,aZ apM,aaG ase,aaG asf,os asg,.K,aZ adm,os apN,.K,rN auy])])]
abbrev af8(ac q:u)(eb:nC)(y:N)(x:u)(a:aH)(M:pu)(O:q5):Prop:=∃z' kt,qf (bc T bo ac q eb a.G) rK∧hj a z' M O kt x∧(y=Y→kt=O)
abbrev afi(ac q:u)(eb:nC)(y:N)(x:u)(a:aH)(M:pu)(O:q5):Prop:=∃z' kt,qf (bc T bo ac q eb a.G) rK∧hj a z' M O kt x
def FG(a:aH)(h k:u):pG 2 94 (ā pV) pb:=by have d:qM 26 (ā pV) pb:=nd Hc [sZ AH aaV (nc k)];exact nd Jm [aZ d]
def G_(a:aH)(h k v)(f g)(cU:ŋ)(a_:qq)(U:r6)(acD:aSi)(afE:g.je=Y)(hs:mR k)(aS:mR v)(dw:¬(f=rx∧g=rx))(y:N)(b:vw=t9 y 1):pG 6 94 pM rK:=by have Q:=Ij a nB k f a_ acD;have h2:=Ij a nB v g U afE;rw[m2 (Č P0 f g a_ U hs aS dw),mY h3];have h4:=AH (C9 k v cU);rw[b]at h3;rw[om];(have d:pG 5 26 pM rK:=by rw[rs y (by rw[ot Hc [p h4,aZ Q,aZ h2,p h4,.K,aZ h3,.K]]) (by rw[ot Hc [p h4,aZ Q,aZ h2,p h4,.K,aZ h3,.K,.K,.K]])]);exact nd Jm [aZ d]
def G8(a z':aH)(h k v)(f g)(cU:ŋ)(a_:qq)(U:r6)(acD:aSi)(afE:g.je=Y)(hs:mR k)(aS:mR v)(dw:¬(f=rx∧g=rx))(y)(b:vw=-1)(aG:qf (rE 4 27 pM) rK):qf (rE 6 94 pM) rK:=by have Q:=Ij a nB k f a_ acD;have h2:=Ij a nB v g U afE;have h3:=Č P0 f g a_ U hs aS dw;have h4:=AH (C9 k v cU);rw[b]at h3;have d:qf (rE 5 26 pM) rK:=nd Hc [p h4,aZ Q,aZ h2,p h4,.K,aZ h3,.K,.K,.K,aZ aG];exact nd Jm [aZ d]
def O0{cg:Type}{i:Ë}(b:i.fF):∀(q aq:u)(f),op i f→p7 i f→q=aq:=qb i (by intro q aq f Q;simp at Q) j i (by obtain⟨J,aC⟩:=r.l6.1 b;rw[mY q aq f Q h2,uL q (by(rw[uL aq (by rfl) aq (by simp only[r.aoJ,ap.c.fV,r.agv]at Q h2;subst Q;exact eh (r.lI h2) J)])) q (by rw[uL aq (by simp only[r.aoJ,ap.c.fV,r.agv]at Q h2;subst h2;exact eh (r.lI Q) J) aq (by simp only[r.agv]at Q h2;rw[ih aC q aq f Q h2]at⊢)])])
def Fe{a}{M}{O}(aF:qG){k v:u}{f}(hs:qq)(aS:n9 a.ak v f):k=v:=O0 aF.cO k v f hs aS
def fp{a z'}(Q:z'.ak=a.ak)(h2:z'.ds=a.ds)(h3:z'.dK=a.dK):yx:=⟨fun q l b=>nb Q b,fun aj a0 b=>(Ad a0 (nb h2 b) e),fun n g b=>by unfold abR at*;rw[h3,mW b]⟩
def dI.AL{a}{M}{O}(aF:qG)(o)(b:o∉O):dI (AL a O o) M (O++[o]):={kh:=aF.kh,eX:=aF.eX,cO:=aF.cO,aS:=aF.aS,eM:=e,ey:=e,jX:=nb r.anm (AE aF.jX (rW r.l6.2 r.mz r.ahO) (fun f a_ g U=>by rw[Ų U,p0,mW b (d▸a_)])),fO:=aF.fO,ks:=fun f g y d=>by rw[s3 (aF.ks f g y d) sa bh gd fJ cV];have b7:ô (j4.AL a O o):=tW;exact(Au sa bh aSx aSy cV),jW:=by rw[m2 aF.jW,m5];simp only[j4.AL,r.gR,r.lF];exact A4 [↑O.z,↑M.z,a.c2] (vk+d4) (gY+1) zB gY e aa}
def dI.le{a z'}{M}{O kt}(aF:qG)(Q:z'.ak=a.ak)(h2:z'.afK=a.afK)(h3:z'.ds=a.ds)(h4:z'.dK=a.dK)(h5:z'.Ap≤z'.ca.z)(h6:z'.eM=kt.au fm)(h7:z'.ey=hu kt)(h8:kt.fF)(h9:z'.fO=a.fO)(kB:ob (kt.z+M.z)≤z'.c2):dI z' M kt:={kh:=by rw[m2 aF.kh,m5];unfold aH.aiW at*;rw[Q,h2,mW aa],eX:=nb Q aF.eX,cO:=nb Q aF.cO,aS:=h5,eM:=h6,ey:=h7,jX:=h8,fO:=nb h9 aF.fO,ks:=fun f g y d=>by rw[s3 (aF.ks f g y d) sa bh gd fJ cV];have b7:yx:=fp Q h3 h4;exact(Au _ _ aSx aSy cV),jW:=kB}
def WD:∀(a:aH)(h k v x:u)(M:pu)(O:q5)(aF:qG)(h1:qe O)(a7 st:bv)(vs:tv)(dj:xO)(aCi:o1∈O→el a7 st=F)(aC:aQK x)(hc:x<3980)(hd:a.e5<60)(adm:dI uz M yz→o1∉O→afi nB 37 pM u4 x uz M yz),af8 (h+2) 27 pM u4 (x+1) a M O:=by injections a h k v x M O;intro aF h1;injections a7 st;intro vs dj aCi aC hc hd adm;induction aG:hA o1 M using ap.ae with|c y=>rw[m3 At (aF.ks k v y (n7 Kp aG))];(rintro sa bh gd fJ d);simp only[gd.fn vs,fJ.fn dj]at d;rw[oQ,mW Au a O (Ko a _ k v M aF.fO _ aG) (aWt aF) (nO e)]|B=>by_cases h':o1∈O;rw[aCi h',mW Au a O (WB a _ k v M O aF.fO aF.ey aG h') (aWt aF) (nO e)];obtain⟨bz,kO,br,ao,ks,cc,cj,e,e,gi,eE,aiA,kg,js,fT⟩:=adm (aF.AL o1 h') h';rw[m1 (ô uz) tW,mY ad4,m2 (ad4.ah (KO _ ao (yz++ks) cc cj eE)),mY b7];rw[r.abP]at gi br b7 aiA;simp only[r.aK0]at gi br b7 aiA;have aiz:=gi.jW;have hlo:(aRL uz zu).c2=vQ+cc:=e;simp only[hlo]at aiz;have g_:=Č Oo M O ks aF aG h' (m4 (oa A5 [a.c2,↑x] b5 20000 zB 20000 0 d4 e aC vU)) hd ao cc cj u4 (m4 (Bu [x,ks.z,cc] (ai+1) 3990 nm 3980 ai a8 a8 S e hc kg js)) gi.jX (m4 (oa A5 [a.c2,↑x,↑cc] (b5+gY) 900000 zB 20000 gY d4 e aC (Bb js))) (m4 (A4 [a.c2,↑cc,↑(zu).z,↑M.z] aQ7 (zB+1) aQ7 (vk+d4) e aiz)) br;(have ape:ao.z≤a.ak.z+4*(x+1):=by rw[m1 ((uz).ak.z=a.ak.z) e,m5,mW (yv Am [x,ao.z,(AL a O _).ak.z,a.ak.z] (eK+(vc 4)) (rg a8 4) a8 eK e fT (Az aa))]);rw[pI aJ u4 (by rw[y2 g_];simp only[ahu,h1,fU,abv]at g_;have mL:fR (aRL uz zu) (aPK zu):=tW;rw[mX (nM Au g_ (oM Dq ao e e ?_ eE ?_ (qC (by simp only[r.kZ])) n_ ape) (m4 yK)),mW (u7 gi.le aF.aS e e gi.jX e (yh (_≤a.c2+aQj) (A4 [a.c2,↑cc,↑(zu).z,↑M.z] aQ7 (aO5 d4) aQ7 (vk+d4) e aiz))),mY o aG,nt (r.gA.1 aG)];(rw[n8]);rw[m9];(rintro aG);rw[m8,mW amm.bx (b7.ah mL) (Au _ _ vs dj aJ),mW (aiA o aG).bx mL]) (by rw[y2 g_];simp only[ahu,h1,abv,N.aev]at g_;rw[mX Au _ O g_ (oM Dq ao e (by simp only[r.afl]) ?_ eE (fun o aG=>eh aG r.mz) qg n_ ape) (nO e),mW (u7 gi.le aF.aS e e aF.jX e (by rw[m2 aF.jW,m5,m6 (_≤a.c2+aQj),mW A5 [a.c2,↑cc,↑M.z,↑O.z] (acq+gY) (aO5 d4) (acq+gY) b5 0 d4 e aa vU]))])]
def HG(g:aS9)(k)(j)(xs)(l)(w)(y)(bW)(a4)(b:g (aNO k) w=c (rO,bW,a4)):fZ g k B qi l w=c (rO,bW,a4):=q0 EV b
def DJ(O)(cf)(q)(d)(g)(l)(w a4)(y)(i)(x)(b:uw y)(hs:kn a4 y=c (i,x)):pU dP (.jd q d g)=fZ aRd q x i l a4:=by simp only[ID,b];simp only[ap.eO,hs]
abbrev aeo(x:sf u)(i:nq):u:=(i.au x).aaM
def UW:∀(h k v:u)(M)(O)(a)(y)(x)(acY)(bN:nq)(ba:∀n∈bN,∀z1 hY aD,aRt→aD+x n≤acY→af8 nB 94 [nQ,ye,oF] (y n) (x n) z1 M hY),∀z1 hY aD eN,aRt→aD+aeo x bN≤acY→∃bz kO r',fZ (aO4 n0 (nA (.bC (.eT pn "ask" (.s (.A 3) (nA ph))) (nA (ts (on eq (sO "mode") (.bL "R_COMPARE" rn)) (.s wz .C))) (nA (ts (on ne (sO "mode") (.bL "R_COMPARE" rn)) (nA aQA)))))) 3 B (cS bN) [px,ze,pZ,eN] z1.G=c (if bN.db y then na else aQA,[px,ze,pZ,r'],bz.G)∧hj a bz M O kO acY:=by injections h k v M O a y x acY bN;intro ba;induction bN with|C=>rw[mY z1 hY aD eN eE mo,mW (n7 A9 (ű cS r.ajV BG) (eE.bx (qC (by simp[aeo]at mo))))]|s n bN ih=>intro z1 hY aD eN eE mo;(have aus:aD+(x n+aeo x bN)≤acY:=m4 mo);rw[m3 At (ba n tG _ _ aD eE (m4 (Ag [aD,acY,x n,aeo x _] (S+a8) ai (S+(a8+eK)) ai e aus))),mY bz kO br ak4 _,pI aJ (y n) (by rw[y2 br,m3 AD (ih (fun t cG=>ba t (Ċ cG)) _ _ _ ĝ (eE.ah ak4) (m4 (Ag [aD,acY,x n,aeo x _] (S+a8+eK) ai (S+(a8+eK)) ai e aus))),mY e3 axs r' h3 aoQ,mX A9 _ _ r' ?_ aoQ,cS,r.gI,mX (zr ?_).ah (h3.ah (by simp[aJ])),mW (pK [Ò,.K])]) (by rw[y2 br,mX (sb A9 ĝ ?_ ((eE.ah ak4).bx (m4 (Ag [aD,acY,x n,aeo x _] (S+a8) ai (S+(a8+eK)) ai e aus)))),cS,r.gI,mX (ni HG _ _ oX _ bz.G ?_).ah (by simp[aJ];rfl),mW (pK [Ò,.K])])]
def J1:∀(h k v:u)(M)(O)(a)(aF:qG)(i)(hs:q' k r2)(h2:k≠2)(y)(x)(ba:∀n∈i,∀z1 hY aD,aRt→aD+x n≤aeo x i→af8 nB 94 [nQ,ye,oF] (y n) (x n) z1 M hY),afi (h+2) 39 pM (i.db y) (aeo x i) a M O:=by rw[mY h k v M O a,mY aF,mY i,mY hs h2,mY y x,mY ba,mX AD (UW h k v M O a y x (aeo x i) i ba a O 0 B (hj.fI aF 0) (m4 (AJ [aeo x i] (0+S) S e))) fun bz kO r' b eE=>?_,aTw eE];have agI:=GD a h k r2 hs h2;rw[pI aJ (i.db y) (by rw[pr aJ,mW (nd Mu [aSf,os b,.K])]) (by rw[pr aJ,mW (nd Mu [aSf,os b])])]
def AbH:∀(h k:u)(a:aH)(aS:pN)(i:nq)(y)(ba:∀t∈i,qM 94 (ā (.m t)) (.aO (y t))),pG 2 40 (ā (zy i)) (.aO (i.dS y)):=by rw[yb k a,mY aS];injections i y;intro ba;have bK:=Ï OJ h;(have aC:∀(bN:nq)(eQ fe:pl),(∀t∈bN,t∈i)→∃asq asr,fZ (aO4 n0 (.s (sG 5 (.eT pn "mark" .C)) (nA (ts (.eT pn "ask" (.s (.A 1) (nA p6))) (.s (ts (on eq (sW (Ĩ (sO "notes") "rows")) (rq 5)) (nA aOS)) (.s wz (.s wz .C))))))) 4 B (cS bN) [px,ze,c (zy i),c .B,eQ,fe] a.G=c (if bN.dS y then aOS else na,[px,ze,c (zy i),c .B,asq,asr],a.G):=tV bN bN (by rw[mY eQ fe _,mW ⟨eQ,fe,ű cS r.ajV BG⟩]) t bN (by intro eQ fe ajE;have br:=ba t (ajE t tG);have g9:=CW (Fm (Gc a)) e;rw[pI aJ (y t) (by rw[y2 br,mX BN (nn t) (yO [nr,.m a.eM.z]) ?_,cS,r.gI,mX (ni HG _ _ pb _ a.G ?_).ah (by simp[aJ];rfl),mW (pK [aZ bK,Ò,p g9,.K,.K])]) (by rw[y2 br,ĥ (ih (nn t) (yO [nr,.m a.eM.z]) (fun j J=>ajE j (Ċ J))) asq asr b,mX BN asq asr ?_,cS,r.gI,mX (ni BO _ _ _ a.G ?_).ah (b.ah (by simp[aJ])),mW (pK [aZ bK,Ò])])]));rw[ĥ (aC i B B (fun t cG=>cG)) asq asr b,pI aJ (i.dS y) (by rw[pr aJ,mW (nd Mv [os b])]) (by rw[pr aJ,mW (nd Mv [os b,.K])])]
def R6:∀(h:u)(a:aH)(o:R)(aG:o≠2∧o≠5∧o≠14)(k v:ar),qM 23 [nQ,qv,k,v] oX:=by rw[mY h a o,mY aG,mY k v];(have d:oD (ny nT (aQ2 akP "rules" qc) [px,tF,c k,c v,B] a.G) .B:=by rw[m1 (oD (aU _ nT (sO "rules") [px,tF,c k,c v,B] a.G) (.D 13)) aQo,mY aV,m1 (oD (ny nT qc [px,nJ,c k,c v,B] _) qv) vO,mY bj,pv AC aG Q h2 h3,rc (pk ta aV)];simp[IR,ari,ED,NM (HI a),Ob (HI a),bj,E4,E5,Q.cq,h2.cq,h3.cq]);exact nd Hb [aZ d,.K]
def FK(h)(a z':aH)(o)(f ac)(k v)(y)(aG:lB o [(2,ar.D 20),(5,ar.D 21),(14,ar.D 22)]=c rY)(bK:avM f "holds"=c ac)(b:qf (bc T bo h ac [rY,nQ,k,v] a.G) rK):qf (Ř 23 [nQ,qv,k,v]) rK:=by(have d:oD (ny nT (aQ2 akP "rules" qc) [px,tF,c k,c v,B] a.G) rY:=by rw[m1 (oD (aU _ nT (sO "rules") [px,tF,c k,c v,B] a.G) (.D 13)) aQo,mY aV,m1 (oD (ny nT qc [px,nJ,c k,c v,B] _) qv) vO,mY bj,rc (pk ta aV)];simp[IR,ari,ED,NM (HI a),Ob (HI a),bj,aG]);rw[m1 (f=20∧ac=98∨f=21∧ac=99∨f=22∧ac=100) (by clear d b;simp only[E4,E5]at aG;split at aG;rw[nf aG,mZ aG,mY aG,p2 aG,pi,p2 bK,pi,mW (pp zl)];split at aG;rw[nf aG,mZ aG,mY aG,p2 aG,pi,p2 bK,pi,mW (rt (pp zl))];split at aG;rw[nf aG,mZ aG,mY aG,p2 aG,pi,p2 bK,pi,mW (rt (.bF zl)),pe aG]),mY a_,mZ aG bK];rcases a_ with⟨e,e⟩|⟨e,e⟩|⟨e,e⟩;rw[mW (nd Hb [aZ d,.K,aZ b]),mW (nd Hb [aZ d,.K,aZ b]),mW (nd Hb [aZ d,.K,aZ b])]
def ZM:∀(h n g)(a)(b:abR a n=c g),qM 50 [oW,.m n] y9:=by injections h n g a;rw[nR,Ä abR];induction U:a.dK[n]? using ap.ae with|B=>rw[pr U,aPN]|c an5=>rw[pr U,sB ap.ji ap.c.fV];(have d:aVs (.D 5) ye an5:=by rw[Cq _ 5 _ n (Dt a)];simp[U]);by_cases bf:an5<0;(have:g=1:=by rw[←b,c0 (m4 (A4 [an5] b5 0 vk 0 e bf))]);rw[mZ b,uM,mW (nd Jg [p d,sZ Cz hZ bf]),nH Q an5 0,mZ U bf];subst Q;(have:g=1:=by rw[←b,rJ c0]);rw[mZ b,uM,mW (nd Jg [p d,.K,.K]),pr (cH (m4 (X4 bf Q))),rh (nc g) an5 (b▸R.awJ (R.mO.1 bf)),mW (nd Jg [p d,sZ Cz jq bf,sZ AH acw Q])]
def Pu(h k v n g:u)(a z':aH)(y)(hs:q' k v3)(U:abR a n=c g)(dw:vd k)(b:qf (Ř 94 [nQ,y9,oF]) rK):qf (rE 4 23 [nQ,rn,pV,oF]) rK:=by have d:qf (rE 2 51 pM) rK:=nd Mx [aV5,.K,.K,.K,aZ (ZM h n g a U),p (show f1 a.G .ne y9 pV=c pb from EJ (sh (C9 g k dw))),aZ b];exact FK (h+3) a z' 2 20 98 _ _ y e e (nd MF [.K,aZ d])
def ZH(h k:u)(v)(f)(a:aH)(hs:qq)(a_:f.AG=Y):pG 3 23 [nQ,rn,pV,v] oX:=by(have h2:f1 a.G .ne (.m f.o) Ū=c pb:=by rw[mZ hs,y6 f a9.ae (by rw[sQ a_])]);have d:qM 51 (ā v) oX:=nd Mx [aV5,aO9,p h2];exact sk (FK _ a a 2) 98 _ e e (nd MF [.K,aZ d])
def Lf(h k v:u)(a z':aH)(i)(g)(y)(hs:q' k r2)(aS:r6)(b:qf (bc T bo h 39 pM a.G) rK):qf (Ř 37 pM) rK:=m4 (nd Ja [aV5,.K,č v aS,p (Bo a.G g),.K,aZ b])
def Km(l:a9)(b:l.adp=Y):(l.o==6)=Y:=by induction l using a9.ae<;>simp[a9.adp]at b<;>rfl
def In(h k v:u)(a z':aH)(i)(f)(y)(hs:qq)(a_:f.adp=Y)(aS:q' v r2)(b:qf (bc T bo h 41 pM a.G) rK):qf (Ř 37 pM) rK:=m4 (nd Ja [aV5,aO9,č v aS,.K,p (AH (Km f a_)),.K,aZ b])
def Jy(l:a9):aQN gH (nE [Ū,.m 14,.m 15,.m 16,.m 17,.m 18,.m 19]) (qP l.AG):=zQ
def Cv(l:a9):aQN eq (.m 7) oX:=zQ
def XI(l:a9):aQN eq (.m 13) oX:=zQ
def XH(l:a9):aQN gH (nE [.m 11,.m 12]) oX:=zQ
def Aay(a:aH)(h)(f g:a9):qM 38 [.m f.o,.m g.o] (pf (if f.AG||g.AG then 2 else 5)):=by rw[m2 (Jy f),mY aq2,m2 (Jy g),mY aie];generalize f.AG=j at aq2⊢;generalize g.AG=ab at aie⊢;rw[rs j (by rw[ot Jb [aQ4,qa Cv g,p aq2]]) (by rw[rs ab (by rw[ot Jb [aQ4,qa Cv g,p aq2,p aie]]) (by rw[ot Jb [aQ4,qa Cv g,p aq2,p aie,qa XI f,qa XH f]])])]
def Im(h k v:u)(a z':aH)(f g)(y)(hs:qq)(a_:f.adp=Y)(aS:r6)(U:g.adp=Y)(b:qf (Ř 23 [nQ,pf (if f.AG||g.AG then 2 else 5),pV,oF]) rK):qf (rE 2 37 pM) rK:=by have br:=Aay a h f g;generalize(if f.AG||g.AG then nc 2 else 5)=o at b br;exact nd Ja [aV5,aO9,č v aS,p (Bo a.G g),p (AH (Km f a_)),p (AH (Km g U)),Ò,aZ b]
def OM(k:u)(i):(ar.m (nc k)∈cS i)↔k∈i:=by simp only[cS,r.fq,ar.m.fV];constructor;rw[mY J,sE,ng];rintro f a_ d;rw[m1 (f=k) n_,m5,mW (aa▸a_),nR,mW ⟨k,b,e⟩]
def Rx(h)(i):ar.kP h (cS i)=F:=vv (by dsimp only[cS,r.gI,Eq,Er,IF,IG,IH,II,IJ,IK,IL,IM,IN,N.acf];exact ih)
def PZ(l:a9):aQN gH (nE [.m 8,.m 9]) (qP l.iF):=zQ
def Xx(l:a9):aQN eq (.m 12) oX:=zQ
def Iq:∀(h k v:u)(a z':aH)(aS:pN)(f)(i)(hs:qq)(api:q' v r2)(h2:v≠2)(jt:rG i.z)(y)(V)(ba:∀t∈i,qM 94 (ā (.m t)) (.aO (y t)))(aCZ:(aUA||i.dS y)=Y→f.AG=F→qf (rE 2 23 [nQ,rn,pV,oF]) (qP V))(hz:(aUA||i.dS y)=F∨f.AG=Y→z'=a)(mK:f.adp=Y),qf (rE 3 41 pM) (n5 (aUA||i.dS y||(f.AG&&V))):=by injections h k v a z';intro aS;injections f i;intro hs api h2 jt;injections y V;intro ba aCZ hz mK;have agI:=GD a nB v r2 api h2;have adn:=AbH h k a aS i y ba;rw[m1 (rH cS i≤1048576) (aSd cS r.hN (Ag [i.z] S 1048576 nm 1000 e jt)),mY d9,m1 (jT a.G pV (zy i)=c aUA) (by simp only[jT,IF,IG,IH,II,IJ,IK,IL,IM,IN,ja,Rx,dv,d9,aGZ,N.aen,fU,OM]),mY il];have ad0:=CS il;have gr:=sP k f hs;have agG:=Jy f;have fG:=PZ f;rw[pI bK (aUA||i.dS y) (by rw[aOo hz bK];(rw[pI iQ aUA (by rw[iQ]at ad0;exact nd FM [aSf,aSc]) (by rw[iQ]at ad0;rw[iQ,N.ags]at bK;rw[bK]at adn;exact nd FM [aSf,aSc,aZ adn])])) (by rw[ou (N.aKE.1 bK) iQ ik];rw[ik]at adn;rw[iQ]at ad0;rw[pI acB f.AG (by rw[acB]at agG;exact nd FM [aSf,aSc,aZ adn,re,aO9,p agG,aZ (aCZ bK acB)]) (by rw[acB]at agG;rw[É hz acB,pI alk f.iF (by rw[alk]at fG;exact nd FM [aSf,aSc,aZ adn,re,aO9,p agG,aQ4,aQ4,p fG,aZ (R6 nB a 6 nw pV oF)]) (by rw[alk]at fG;exact nd FM [aSf,aSc,aZ adn,re,aO9,p agG,aQ4,aQ4,p fG,qa Xx f])])])]
def KI{q o}(b:æ)(aG:u.akG o 16=F):sU o:=u.alF (u.k0 (u.afQ aG) b)
def hm.ge{q}{l}{g}(n:zS):q≠1∧sU 10∧l.abA=Y∧l.acI=F∧l.AG=Y∧l.adp=Y:=by cases n with|f _ b|g _ b|a _ b|d _ b=>exact(Nb (KI b e) (KI b e) e e e e)|_=>exact(Nb nw nw e e e e)
abbrev aDj:sf a9|aSr=>6|aSs=>7|aUD=>4|q9 "null"=>5|m7 .aO=>9|_=>16
abbrev av5:oB:=[aUD,q9 "null",aSr,aSs,.aO 1 0,aUw,og "b",.mP,rx]
abbrev aE9(f g:a9):R:=ow f aUD 0 (ow f.jE (aDj g) 1 (ow f rx (ow g aUw 1 0) 0))
def AcJ:(av5.db fun f=>av5.db fun g=>(f==g)||(sH aE9==t9 (an7 f|||an7 g==an7 g) 1))=F:=Ē
def hm.NY{q:u}{l:a9}{g:u}(n:zS):l∈av5:=r.akJ.mp (by cases n<;>rfl)
def hm.We{q:u}{l:a9}{g:u}(n:zS):(q=4)=(l=aUD):=by cases n with|un=>exact apV (iff_of_true e e)|f _ b|g _ b|a _ b|d _ b=>exact apV (avt (KI b e) nofun)|_=>exact apV (avt nw nw)
def Vd{V:R}{v:u}(ei:V=6∨V=7∨V=-1)(b:xe v):(V=nc v)=(V=ob 16):=apV (m4 (X5 ei b))
def hm.Wi{q:u}{l:a9}{g:u}(n:zS){V:R}(ei:V=6∨V=7∨V=-1):(V=nc q)=(V=nc (aDj l)):=by cases n with|f _ b|g _ b|a _ b|d _ b=>exact Vd ei b|_=>rfl
def AcT(l:a9):l.jE=6∨l.jE=7∨l.jE=-1:=by induction l using a9.ae with|bi|jc=>exact qN|mP=>exact rt qN|_=>exact rt yo
def Px(k v:u)(f g:a9)(bq lc:u)(n:hm k f bq)(t:hm v g lc)(abW:f≠g):ae4 k v f g=t9 (bq|||lc==lc) 1:=by rw[m2 (r.hp.mp (r.hp.mp AcJ f n.NY) g t.NY),nR,sB (acw abW) N.ags,n.agk,t.agk,←lb.mp b];simp only[ae4,aE9,n.We,t.Wi (AcT f)]
def I0:∀(a:aH)(M:pu)(O:q5)(aF:qG)(h k v bq lc:u)(n:zh k bq)(t:zh v lc),pG 6 94 pM (n5 (bq|||lc==lc)):=by rw[vj M O,mY aF];injections h k v bq lc;rw[mY n t,nH cU k v];subst cU;rw[n.fn t,show(lc|||lc==lc)=F by simp,mW FG a wH k,p4 n,mZ n];rintro f a_ n;rw[p4 t,mZ t];rintro g U t;(have abW:f≠g:=by rw[p0,p1,oQ,mW cU (Fe aF a_ U)]);have Q:=n.ge;have h2:=t.ge;rw[m3 (G_ a h k v f g cU a_ U n.ok.2 t.ok.2 n.ok.1 t.ok.1 (by rw[mZ a_ n U t Q h2,mY J,nV,ng,oc e,mW abW e])) _];simp only[kJ,acX,Q.1,h2.1,abv,oj Q,oj h2,ov Q,ov h2,nj h2,N.or_self,N.aev,fU];rw[aSt,mW Px k v f g bq lc n t abW]
abbrev aeW:nq→nq→tK|q::i,g::bq=>pg q g 0 0::aVM|_,_=>[]
def DC:∀q i g bq,aeW (q::i) (g::bq)=pg q g 0 0::aVM:=fun ψ ψ ψ ψ=>e
def DD:∀i,aeW [] i=[]:=te (aT1 i)
def DE:∀i,aeW i []=[]:=te (aT1 i)
abbrev ab5(bq lc:nq):N:=bq.db fun g=>lc.dS fun bZ=>þ
def Abv{ao}{i bq}(n:zJ):i.z=qo aeW i bq:=by induction n with|C=>rfl|s q g i bq _ _ ih=>simp[DC,DD,DE,ih]
def Abt{a}{i bq}(n:kb a.ak i bq):∀(aq f:u)(k),p7 i f→p7 aVM k→uu f:=by induction n with|C=>rw[mY aq f k b,Đ]|s q g i bq n _ ih=>rw[mY aq f k Q h2,uL aq (by simp only[DC,DD,DE,r.aoJ,ap.c.fV]at Q h2;subst Q;subst h2;exact .i9 q g n) aq (by simp only[DC,DD,DE,r.agv]at Q h2;exact ih aq f k Q h2)]
def Abu(i bq):∀k∈aVM,aUs:=by induction i generalizing bq with|C=>intro k b;simp[DC,DD,DE]at b|s q i ih=>rw[oT bq (by intro k b;simp[DC,DD,DE]at b) g bq (by rw[mY k b,nt (r.gA.1 b),n8,m9,oe,m8];rfl;exact ih _ k b)]
inductive ac2:u→nq→nq→bv→Prop|gB(o g:u):ac2 o ua [g] (pg o g 0 0)|jh(o:u)(i bq:nq):ac2 o i bq (.un aVM)
def hH.A'{a}{o}{i bq}(n:z_ a.ak o):∃k,uu o∧ac2 o i bq k∧(aUs→t6 ie o (iT bq))∧(k.jg=F→q' o r2):=by cases n with|gB g n=>exact(Nc _ (.i9 o g n) (.gB o g) (nO (by simpa[iT]using n)) (oE (by simp[bv.jg]at b)))|jh _ _ d iy Q h2 n=>exact(Nc _ (.un o i _ d iy Q n_ (Abv n) (Abt n) (Abu i _)) (.jh o i _) (oE (by simp[bv.jg]at b)) (nO d))
def hH.B_{ao}{o}{i bq}(n:aVm):zJ:=by cases n with|gB g n=>exact ni .s n .C|jh _ _ _ _ _ _ n=>exact n
def hH.c9{ao}{o}{i bq}(n:aVm):wq 3:=by cases n with|gB=>rw[qy]|jh _ _ _ _ _ b=>exact b
def Lm(q g o bZ):hb (pg q g 0 0) (pg o bZ 0 0)=þ:=ŧ BA BB BC gX
def LY{ao}{i bq}(n:zJ)(q g):(aVM).dS (hb (pg q g 0 0))=bq.dS fun bZ=>þ:=by induction n with|C=>rfl|s aq x i bq _ _ ih=>simp only[DC,DD,DE,r.akD,Lm,ih]
def LS{ao}{i bq}(n:zJ)(ac)(K)(b:∀q g,ac (pg q g 0 0)=K g):(aVM).db ac=bq.db K:=by induction n with|C=>rfl|s aq x i bq _ _ ih=>simp only[DC,DD,DE,r.aem,b,ih]
def ac2.Ap:∀{ao}{o aaz}{i bq l' g7}{k s'}(n:ac2 o i bq k)(t:ac2 aaz l' g7 s')(ba:zJ)(cG:kb ao l' g7),el k s'=ab5 bq g7:=by injections ao o aaz i bq l' g7 k s';intro n t ba cG;cases n with|gB g=>(cases t with|gB bZ=>simp[el,Lm,ab5]|jh=>simp[el,A6,A7,A8,LY cG,ab5])|jh=>cases t with|gB bZ=>simp only[el,BA,BB,BC,Is,ab5];rw[LS ba _ (fun g=>þ) (fun q g=>Lm ..)];simp|jh=>simp only[el,A6,A7,A8,GU,ab5];rw[LS ba _ (fun g=>g7.dS fun bZ=>þ) (fun q g=>yg A6 (LY cG q g))]
abbrev aFl(a:aH)(O:q5)(H:u):Prop:=∀o∈O,amm a o∨∃sa bh,ty o.1 sa∧ty o.2 bh∧H≤bv.ha sa bh
structure j'(a:aH)(M:pu)(O:q5)(H x:u):Prop where
 aF:qG
 ne:qe O
 aji:aFl a O (H+1)
 cc:aQK x
 rw:aSW (4*x)
 eo:a.e5+H<60
 ig:x<3980
def j'.AL:∀{a}{M}{O}{H x m' c' k v}{a7 st}(K:j' a M O H x)(vs:tv)(dj:xO)(bK:H=aQz)(ajE:m'<H)(hc:c'+1≤x)(b:o1∉O),j' uz M yz m' c':=by rw[mY a M O H x m' c' k v a7 st,mY K vs dj bK ajE hc b,mW ({aF:=K.aF.AL _ b,ne:=rb,aji:=by have b7:ô (j4.AL a O o1):=tW;rw[mY o aG,nt (r.aeP.1 aG)];rintro aG;rw[m9];rintro aG;rw[m8,nt (K.aji o aG),oe,m9,mY J,vW,ng];rintro sa bh gd fJ b;rw[m8,mW aQ.bT (b.bx b7),mW (aOz (Au sa bh aSx aSy) (m4 (t5 [H,m',sa.ha bh] ai a8 nN S (S+1) a8 e ajE b)))];rw[Ų aG]at⊢;exact aOz (Au a7 st aUG aUH) (m4 (aQM (aV6 [H,a7.ha st,m']) (Az bK) ajE)),cc:=by rw[m2 K.cc,m5,m6 (vQ+nc c'<20000),mW (oa A5 [↑c',↑x,a.c2] (gY+1+b5) 20000 b5 d4 (gY+d4+1) 20000 e (Bb hc) aa)],rw:=by rw[m2 K.rw,m5,m6 (aSW (4*c')),mW (t5 [c',x,a.ak.z] (rg a8 4) 900000 (vc 4) (xq 4) (ro a8 4+1) 900000 e (AM 4 hc) aa)],eo:=by rw[m2 K.eo,m5,m6 (a.e5+1+nc m'<60),mW (oa A5 [↑H,↑m',a.e5] (gY+1+d4) 60 d4 b5 (gY+b5+1) 60 e (Bb ajE) aa)],ig:=q8 K.ig (t5 [c',x] S 3980 nm ai (ai+1) 3980 e hc aa)})]
def j'.CE:∀{a z1}{M}{O hY}{H x aD m' c'}(K:j' a M O H x)(l:aRt)(bK:m'≤H)(hc:aD+c'≤x),j' z1 M hY m' c':=by rw[mY a z1 M O hY H x aD m' c',mY K l bK hc,m2 l.le,mY b7,m3 ET l,n2];rintro ao ks cc cj e e h3 h4 h5 h6 h7 h8;exact{aF:=h3,ne:=rA K.ne,aji:=by rw[mY o aG,nt (r.aeP.1 aG)];rintro aG;rw[m9];rintro aG;rw[m8,nt (K.aji o aG),oe,m9,mY J,vW,ng];rintro sa bh gd fJ b;rw[m8,mW aQ.bT (b.bx b7),mW (aOz (Au sa bh aSx aSy) (m4 (Am [m',H,sa.ha bh] (S+1) a8 S ai (ai+1) a8 e bK b))),mW aQ.bT (h5 o aG)],cc:=by rw[m2 K.cc,m5,m6 (a.c2+nc cc+nc c'<20000),mW E0 [↑aD,↑c',↑x,↑cc,a.c2] (aqD+acq+d4+1) 20000 zB gY acq b5 (aqD+gY+1) 20000 e (Bb hc) (Bb h7) aa],rw:=by rw[m2 K.rw,m5,m6 (ao.z+4*c'<900000),mW Bu [aD,c',x,ao.z,a.ak.z] (ro eK 4+1) 900000 (tz 4 (S+ai)) (qQ 4 a8) eK (rg ahk 4) (sn ahk 4 a8+1) 900000 e (AM 4 hc) h8 aa],eo:=by rw[m2 K.eo,m5,m6 (a.e5+nc m'<60),mW A5 [↑m',↑H,a.e5] (gY+b5+1) 60 b5 d4 (gY+d4+1) 60 e (Bb bK) aa],ig:=q8 K.ig (t5 [aD,c',x] ai 3980 (S+ai) a8 (a8+1) 3980 e hc aa)}
def j'.mem{a}{M}{O}{x k v}{a7 st}(K:j' a M O aQz x)(vs:tv)(dj:xO)(b:o1∈O):el a7 st=F:=by rw[nt (K.aji _ b),mY J,vW,ng];rintro sa bh gd fJ d;rw[m9,mY J,vW,ng];rintro sa bh gd fJ d;rw[m8,←gd.fn vs,←fJ.fn dj,mW d];simp only[gd.fn vs,fJ.fn dj]at d;exact BZ (Ag [a7.ha st] 1 0 nm S e d)
def G9:∀(a)(h k v x)(M)(O)(a7 st)(K:j' a M O aQz (x+1))(vs:tv)(dj:xO)(f g)(cU:ŋ)(a_:qq)(U:r6)(b:vw=-1)(adm:o1∉O→abh→afi (h+3) 37 pM u4 x uz M yz),af8 (h+6) 94 pM u4 (x+1) a M O:=by injections a h k v x M O a7 st;rw[mY K vs dj,mY f g,mY cU a_ U b adm,m2 K.cc,mY js,m2 K.eo,mY auN,m2 K.ig,mY afB,m3 At (WD a (h+2) k v x M O K.aF K.ne a7 st vs dj (K.mem vs dj) (m4 (X6 js)) n_ (m4 (oa A5 [a.e5,↑(a7.ha _)] b5 60 zB 60 0 d4 e auN vU)) (fun P cu=>adm cu jC))];rintro z' kt Q h2 h3;rw[m3 AF vs.gs];rintro dE gj fa jU;rw[m3 AF dj.gs];rintro bZ dL ly cR;rw[a_]at gj;rw[U]at dL;rw[nf gj,mZ gj,mY gj];subst gj;rw[nf dL,mZ dL,mY dL];subst dL;rw[mX Au _ _ (G8 a _ h k v f g cU a_ U fa ly jU cR ?_ _ b Q) h2 h3,mZ b fa ly,mY J,nV,ng,oc e,mW cU (Fe K.aF a_ U)]
def af8.bx:∀{ac q}{eb}{y}{x c'}{a}{M}{O}(b:af8 ac q eb y x a M O)(hc:x≤c'),af8 ac q eb y c' a M O:=by rw[mY ac q eb y x c' a M O,mY b hc,mX At b fun z' kt Q h2 h3=>?_,mW Au _ _ Q (h2.bx hc) h3]
def Ik(k v)(f g)(Q:é)(h2:è)(b:(f.abA||g.abA)=F):vw=-1:=by simp only[kJ,acX,Q,h2,abv];rw[aSt];simp only[b,fU]
def ac2.ha{o}{i bq}{k}(n:ac2 o i bq k)(ao)(b:zJ):k.An≤1:=by rw[m1 (∀i bq,zJ→bv.fz (aeW i bq)=0) (by intro i bq b;induction b with|C=>rfl|s q g i bq _ _ ih=>simp[DC,DD,DE,G4,G5,Ci,Cj,Ck,ih]),m5];cases n with|gB=>rw[qy]|jh=>simp[Ci,Cj,Ck,nv aa b]
def ac2.Bf{o}{i bq}{k}(n:ac2 o i bq k):k.Bf≤1:=by cases n<;>simp[Ex,Ey,Ez]
def LW{ao}{i bq}(n:zJ)(g)(y)(b:∀q bZ,ie ao q bZ→y q=þ):i.dS y=bq.dS fun bZ=>þ:=by induction n with|C=>rfl|s q bZ i bq n _ ih=>simp only[r.akD,b q bZ n,ih]
def Rb{ao}{i bq}(n:zJ)(y)(K)(b:∀q g,aNW q→y q=K g):i.db y=bq.db K:=by induction n with|C=>rfl|s q bZ i bq n _ ih=>simp only[r.aem,b q bZ n,ih]
def kb.mem{ao}{i bq}(n:zJ){q}(b:q∈i):∃g,aNW q:=by induction n with|C=>cases b|s aq g i bq n _ ih=>rw[aSo,n8,m9,oe,m8,mW ⟨g,n⟩,mW ŭ]
abbrev Bi(ao:oB)(q:u):u:=match rS ao with|c l=>an7 l|B=>0
def ie.Bi{ao}{q g}(n:aNW q):j4.Bi ao q=g:=by rw[oz n l d n];unfold j4.Bi;rw[d,mW n.agk.cq]
def L8:∀(a)(h k v g)(i bq)(M)(O)(st)(n:zh k g)(t:z_ a.ak v)(dj:xO)(pt:ac2 v i bq st)(K:j' a M O (bv.ha (pg k g 0 0) st) 1),af8 (h+12) 94 pM (bq.dS fun bZ=>þ) 1 a M O:=by injections a h k v g i bq M O st;rw[mY n t dj pt K,m1 (ty k _) (.i9 k g n),mY vs,m2 t,mY hk];cases t with|gB bZ t=>exact(Au a O (o7 (I0 a M O K.aF (h+6) k v g bZ n t)) aVk (nO e))|jh _ _ d iy dw b7 t=>have i4:=(ac2.gB k g).Ap pt (ni .s n .C) t;have ba:=n;rw[p4 n,mZ n];rintro f a_ cw;have abY:=cw.ge;rw[m1 ŋ (by rw[mZ dj pt hk iy,n8,â,mZ a_ abY,nf d,aRp cw.Gv]),mY cU];(have aCL:ab5 [g] bq=bq.dS fun bZ=>þ:=rA ab5);rw[←aCL,←i4,mX G9 a _ k v 0 M O _ _ K vs dj f _ cU a_ d (Ik k v f _ abY.1 (vD qU 1 iy) (N.ahR _)) ?_,mY cu _];have ke:=K.aF.AL o1 cu;rw[aTw (hj.fI ke 0)];have l3:=Iq (h+5) k v uz uz ke.aS f i a_ d (vD qU 2 iy) n_ (fun q=>g|||t6 Bi q==t6 Bi q) Y (fun er am0=>by rw[m3 Al (t.mem am0)];rintro bZ dL;rw[m2 (I0 _ M _ ke h k _ g _ ba dL),m5,dL.Bi,mW aa]) (fun P b=>by rw[pr (qk abY).1,aUa BD]) (nO e) (qk abY).2;rw[m1 ((aUA||i.dS (fun q=>g|||Bi _ q==Bi _ q)||(f.AG&&Y))=m7 el) (by rw[i4,aCL,N.an3,N.apQ,LW t g _ (fun q bZ b=>y7 b.Bi)];by_cases bK:k∈i;(have:(bq.dS fun bZ=>þ)=F:=by rw[←LW t g (fun q=>g|||Bi _ q==Bi _ q) (fun q bZ b=>y7 b.Bi)];rw[r.gZ,mW Ad k bK (Ž ba.Bi)]);simp[aa];simp[bK]),mY i5];rw[i5]at l3;exact In _ k v _ _ i f _ a_ (qk abY).2 d l3
def WT(bq):ab5 bq bq=F:=by simp only[ab5,r.hp,r.gZ];rw[mY g U,mW ⟨g,U,rb⟩]
def MS(i):aeo (nO 1) i=i.z:=vv (by dsimp only[aeo,r.gI,r.ans,r.kZ]at*;exact Br [(r.au (nO 1) i).aaM,i.z] (1+S) nN S ai e ih)
def RD:∀(a)(h k v)(i bq l' g7)(M)(O)(a7 st)(n:z_ a.ak k)(t:hH a.ak v l' g7)(vs:tv)(bN:ac2 k i bq a7)(dj:xO)(pt:ac2 v l' g7 st)(K:j' a M O aQz 4),af8 (h+17) 94 pM (ab5 bq g7) 4 a M O:=by injections a h k v i bq l' g7 M O a7 st;rw[mY n t vs bN dj pt K,nH cU k v,mZ pt,mZ dj];subst cU;rw[m3 Ai (n.fn t),mZ t,oc e,WT,mW Au a O (FG a (h+15) k) aVk (oE (by rw[aUa GR]))];cases n with|gB g n=>clear cU;(cases bN with|gB=>rw[m2 (L8 a (h+5) k v g l' g7 M O st n t dj pt (rJ (K.CE (hj.fI K.aF 0) yk))),m5,m1 (ab5 [g] g7=g7.dS fun bZ=>þ) (rA ab5),mY d,d,mW (rJ aa.bx)]|jh=>rw[mZ K,p4 n,mZ n,mY l d n];cases vs with|un _ _ _ a5=>rw[aWh,zR n.Gv.az])|jh _ _ d iy dw b7 n=>clear dw;cases bN with|gB g=>rw[mZ cU,mZ iy b7 n K];(cases vs with|i9 _ _ cw=>rw[p4 cw,mZ cw,mY l a5 cw,rl d,yV,zR cw.Gv.az]|D _ _ _ _ _ a5=>rw[rl d,yV,yQ,mY a5];injection a5|bI _ _ _ _ _ _ _ a5=>rw[rl d,yV,yQ,mY a5];injection a5)|jh=>have i4:=(ac2.jh k i bq).Ap pt n t.B_;rw[←i4,mX AF dj.gs fun df aau ly cR=>?_,m1 è (by rw[mZ pt i4,mZ dj cU aau cR,n8];cases t with|gB bZ t=>rw[p4 t,p1,mY l a5 t,m2 t.ge,m5,mW aa.1 e]|jh _ _ _ b=>exact u.i8 _ (Ag [] 1 0 16 1 e b)),mY aa2,mX (nM (G9 a _ k v i.z M O _ _ (K.CE (hj.fI K.aF 0) yk (m4 (Ag [i.z] (0+nm) 4 S 3 e b7))) vs dj) cU d aau (Ik k v _ _ (vD [k] 1 iy) aa2 (by rfl)) ?_).bx n_,mY cu _,m2 (K.aF.AL _ cu),mY ke,m1 (bv.ha (qr _) _=2*(bv.fz (aeW i bq)+1)+st.Bf) uJ,mY g_,m1 (j' _ M _ st.Bf 3) (K.AL vs dj e (nb g_ (AJ [vo,st.Bf] nN (vc 2+ai) e)) n_ cu),mY A1,m1 (ô uz) tW,mY ad4,mX AR (J1 (h+11) k v M yz uz ke i d (vD [k] 2 iy) (fun q=>g7.dS fun bZ=>t6 Bi q|||bZ==bZ) (nO 1) (by intro cw dg z1 hY aD eE mo;rw[MS]at mo;rw[m3 Al (n.mem dg),mY bZ dL];have mL:=ad4.ah eE.le;rw[m2 (dL.bx mL.ak),mY aoT,m2 (nI (A1.CE eE) m' (bv.ha (pg cw bZ 0 0) st) c' 1 (ŧ bv.ha Ci Cj Ck) n_),mY BR,m2 (nM (n7 (L8 _ h _ v) M) aoT (t.bx mL.ak) (dj.bx mL) pt BR),m5,dL.Bi,mW aa])) fun bz kO Q h2=>?_,m1 ((i.db fun q=>g7.dS fun bZ=>t6 Bi q|||bZ==bZ)=m7 el) (tL i4 ab5 (Rb n _ _ (fun q g b=>y7 b.Bi))),mY i5];rw[i5]at Q;simp only[MS]at h2;exact(sb AI (sk (Lf _ k v _) i d aau Q) h2)
def Q8(f h aj)(b:aj<h):nX (agd f h) aj (wj (f+aj)):=by induction h generalizing f aj with|hf=>exact BZ (Ag [aj] 1 0 nm 0 e b)|gk h ih=>rw[uL aj (by rfl) aj (by simp only[LM,LN,r.agv];rw[rJ (ih _ aj)];congr 2;exact BI [aj,f] (nN+S) aOX e)]
def T1(o)(i)(aj):(ii o i)[aj]?=ox i[aj]? a0 (jM (o+aj) a0.cA "C" a0.bD a0.mi):=by induction i generalizing o aj with|C=>rfl|s a0 i ih=>rw[uL aj (by rfl) aj (by simp only[Hp,Hq,r.agv];rw[ih pY aj,uh];funext a0;rw[uh,mW BI (rV aj) zq tS e])]
def EZ(a:aH)(aj)(a0)(b:Ľ):qh w9 (jM (2+aj) a0.cA "C" a0.bD a0.mi):=by rw[aUc hd,aPW,r.agx (by unfold aH.gl;split;rw[mW XU,mW XV hd (by assumption)]),r.abP,r.aih (qC (by simp only[Bs])),Bs,r.jP (by simp only[Ca];exact aWc [aj,a.ds.z,w9-26] ai (a8+26) zf e hd (q3 Az (AJ [aj,a.ds.z,w9-26] 26 zf e)))];simp only[rh (w9-26) aj (q3 (Br [aj,w9-26] ai S (ai+26) zf e) (AJ [aj,w9-26] 26 zf e)),T1,b];rfl
def D5(a:aH)(aj:u)(a0)(b:Ľ):pE a.G (.D 4) (aQf aj)=c zj:=by rw[aU0 (nc aj+2) (ob Ġ),aUc hd,sk Cq 4 (CV a)];simp only[aH.l0,r.agv];exact nM Q8 aj hd
def M4(a:aH)(aj)(a0)(b:Ľ):rm (w_ zj "body") a0.bD:=p5 Ba 1 _ _ (aRx EZ b) e e
def Jw(a:aH)(aj)(a0)(b:Ľ):w_ zj "bases"=c (zy a0.mi):=p5 Ba 1 _ _ (aRx EZ b) e e
def M6(a:aH)(aj)(a0)(b:Ľ):rm (w_ zj "kind") a0.cA:=p5 Ba 1 _ _ (aRx EZ b) e e
def T3(a:aH)(aj)(a0)(b:Ľ):w_ zj "variances"=c wL:=p5 Ba 1 _ _ (aRx EZ b) e e
inductive hn(a:aH):u→u→o4→o4→Prop|lP(k:u)(f:a9):qq→f.acI=F→q' 11 (.D B B)→hn a k 11 B B|D(k:u)(n t:o4):q' k vE→hn a k k n t|bI(k aj:u)(a0:lr)(n t:o4):q' k (z4 Ġ)→Ľ→aUC→q' a0.bD vE→hn a k a0.bD n t
def hn.gs:∀{a}{k di}{n t}(b:u5),q' di vE:=by injections a k di n t;rw[nR];cases b with|lP _ _ _ b=>exact b|D _ _ b=>exact b|bI _ _ _ _ _ _ _ b=>exact b
def Os{l:a9}(b:l.acI=F):(l.o==nc 8)=Y∧(l.o==nc 13)=Y:=by induction l using a9.ae<;>first|exact zl|rw[xF]
def H7(k:u):b1 (nc k<0)=Y:=jq (R.mO.2 (R.ab9 k))
def ZR:∀(a)(h k di)(n t)(b:u5),qM 17 [oW,pV] (.m di):=by injections a h k di n t;rw[nR];cases b with|lP f hs a_ aB3=>have d:=ă k f hs;have Aw:=aO9;exact nd I_ [vh,sZ Cz H7 k,d,Aw,rN (Os a_).1,Aw,rN (Os a_).2,Aw,sZ (E_ f [1,2,3,4,5]) (pX J9 f) a_]|D _ _ hs=>have d:=aV5;exact nd I_ [vh,sZ Cz H7 k,d,.K,.K]|bI aj a0 _ _ hs hd U br=>have d:=aV5;have afp:=p (aRx D5 hd);have g:=U▸aRx Jw hd;have t0:ui iH ps=c Y:=e;exact nd I_ [vh,sZ Cz H7 k,d,.K,.K,.K,.K,.K,.K,.K,.K,.K,aQ1,.K,afp,p g,aQ1,.K,afp,p (aRx M4 hd),sZ Cz H7 a0.bD,č _ br,.K,.K]
def C4(a)(h k di)(n t)(b:u5):pG 2 92 [tJ,pV] (.m di):=nd SJ [aZ (ZR a h k di n t b)]
abbrev apU(cE:ea):o4→ar|B=>.B|zk o=>aTn aOL
abbrev alS(cE:N)(n t:o4):o4:=if cE then t else n
abbrev lL(cE:N):ea:=if cE then"q"else"p"
def aHl(a:aH)(h)(n t)(cE):qM 19 [zN,aWa] (apU (lL cE) aWd):=by rw[tm n (by(rw[tm t (by rw[aOk cE (nd FL [.K,vh])]) g (by rw[aOk cE (nd FL [.K,vh,.K,.K])])])) f (by rw[tm t (by rw[aOk cE (nd FL [.K,vh,.K,.K])]) g (by rw[u9 cE (by rw[ot FL [.K,vh,.K,.K]]) (by rw[ot FL [.K,vh,.K,.K,.K,.K]])])])]
def hn.at{a}{k di}{n t}(b:u5):∃f,qq∧(f.o==nc 11)=Y∧(f.o==nc 12)=Y:=by cases b with|lP f Q a_ _=>clear a_;induction f using a9.ae<;>(exact(AP _ Q e e))|D _ _ Q=>exact(AP _ Q e e)|bI aj a0 _ _ Q=>exact(AP _ Q e e)
def Pz:∀(a)(h k di)(n t)(b:u5)(cE),pG 3 20 [tJ,pV,aWa] (apU (lL cE) aWd):=by injections a h k di n t;intro b;injections cE;refine AF b.at fun f a_ j6 hM=>?_;have Aw:=aO9;have b2:=aHl a nB n t cE;have hs:=aZ (C4 a h k di n t b);have br:=č di b.gs;induction aJ:aWd using ap.ae with|B=>rw[ot Mq [aZ (F_ a nB pV),ă k f a_,Aw,rN j6,Aw,rN hM,hs,br,aZ (aJ▸b2),.K]]|c g=>rw[ot Mq [aZ (F_ a nB pV),ă k f a_,Aw,rN j6,Aw,rN hM,hs,br,aZ (aJ▸b2),.K,.K,aZ (F_ a nB (.m g.1)),.K,.K]]
def K4(a:aH)(h)(cE)(o:u)(p):qM 59 [aTn aOL] oX:=by rw[aOk p (nd Sn [.K,.K,.K,.K])]
def Xf(a:aH)(h k:u)(cE aKt)(o aaz:u)(p o'):pG 2 64 [nQ,pV,aTn aOL,nE [og aKt,.m aaz,aeR o',nr]] (n5 (! p||o')):=by have t0:ui iH nr=c Y:=e;rw[m2 (K4 a h cE o p),mY l,u9 p (by rw[aOk o' (nd MB [.K,.K,.K,.K,.K,aQ1,aQ1,.K,aZ l,.K,.K,.K,.K])]) (by rw[aOk o' (nd MB [.K,.K,.K,.K,.K,aQ1,aQ1,.K,aZ l,.K,.K,.K,.K,.K,.K,.K])])]
def AcY(a:aH)(h:u)(f g:ar):pG 2 30 [nQ,f,g] .B:=nd Sf [aZ (Qa a h)]
def AbG(a:aH)(h)(f g):pG 3 31 [nQ,f,g,oX,oX] .B:=nd Sg [aZ (AcY a h f g)]
def CD(i)(q):(iT i).ln q=i.dS fun g=>g.ln q:=qb i (by simp[iT]) f i (by rw[m1 (iT (f::i)=f|||iT i) e,m5];simp only[aa,u.anv,ih,r.akD])
def Ih(i:oB)(j:a9)(q:u)(l:a9)(b:op i l):op (eL i j) l:=by unfold eL;split;rw[mW b,aUc Ab,r.jP Ab,mW b]
set_option tactic.hygienic true in
def Z5(i:oB)(j:a9)(b:i.fF):(eL i j).fF:=by unfold eL;split;exact b;rename_i J;rw[r.anm,mW AE b (rW r.l6.2 r.mz r.ahO) (fun f a_ g U=>by rw[Ų U,p0,mW J (d▸a_)])]
def Z4(i:oB)(j:a9):qo eL i j≤i.z+1∧wq (qo eL i j):=by unfold eL;split<;>simp
set_option tactic.hygienic true in
def N2(K)(o j):j∈fN K o↔j∈K∨j=o:=by unfold fN;split;rename_i b;constructor;exact aQ.bT;rintro(h'|e);rw[mW h',mW b];simp
set_option tactic.hygienic true in
def Vs(K)(o)(b:K.fF):(fN K o).fF:=by unfold fN;split;exact b;rename_i J;rw[r.anm,mW AE b (rW r.l6.2 r.mz r.ahO) (fun f a_ g U=>by rw[Ų U,p0,mW J (d▸a_)])]
def UR(bN K:nq)(j):j∈bN.mJ fN K↔j∈K∨j∈bN:=by induction bN generalizing K with|C=>simp|s f bN ih=>rw[r.aul,ih,N2,r.gA];constructor;rintro((b|b)|b);rw[mW Í,mW (aSz aQ.bT),mW (aSz aQ.bF)];rintro(b|b|b);rw[mW (pQ aQ.bT aQ.bT),mW (pQ aQ.bT aQ.bF),mW aUm]
def US(bN K:nq)(b:K.fF):(bN.mJ fN K).fF:=by induction bN generalizing K with|C=>exact b|s f bN ih=>exact ih _ (Vs K f b)
def Gd(ao)(a' K)(j):j∈fj ao K a'↔j∈K∨∃v∈a',j∈kl ao v:=by induction a' generalizing K with|C=>simp[fj]|s v a' ih=>have:fj ao K (v::a')=fj ao ((kl ao v).mJ fN K) a':=e;rw[aa,ih,UR]at⊢;constructor;rintro((b|b)|⟨iu,Q,h2⟩);rw[mW Í,mW aQ.bF (Ad v tG b),mW aQ.bF (Ad iu (Ċ Q) h2)];rintro(b|⟨iu,Q,h2⟩);rw[mW (pQ aQ.bT aQ.bT),nt (r.gA.1 Q),n8,m9];rintro Q;rw[m8,mW (É aQ.bT h2),mW aQ.bF (ql Q h2)]
def U5(ao)(a' K)(b:K.fF):(fj ao K a').fF:=by induction a' generalizing K with|C=>exact b|s v a' ih=>exact ih _ (nv US b)
abbrev agl(ao:oB)(v:u):u:=iT ((kl ao v).au (Bi ao))
def kb.agk{ao:oB}{i bq:nq}(n:zJ):bq=i.au (Bi ao):=by induction n with|C=>rfl|s q g i bq n _ ih=>rw[r.gI,n.Bi,←ih]
def Z1(ao:oB)(i:nq)(b:oG i (∃g,aNW j)):kb ao i (i.au (Bi ao)):=qb i (by exact .C) f i (by rw[n4 (b f tG) g U,r.gI,U.Bi,mW .s f g i _ U (ih fun j J=>b j (Ċ J))])
def hH.e8{ao}{o}{i bq}(n:aVm):kl ao o=i:=by cases n with|gB g n=>rw[oz n l d n,m2 (qk n.ge).2,mY aa];unfold kl;rw[d];simp only[];clear d n;(rw[y6 l a9.ae (by rw[qT aa])])|jh _ _ d=>unfold kl;rw[d];rfl
def hH.agk{ao}{o}{i bq}(n:aVm):bq=i.au (Bi ao)∧aSQ=agl ao o:=by have:=n.B_.agk;exact⟨aa,by unfold agl;rw[n.e8,←aa]⟩
def hH.KH:∀{ao}{o}{i bq}(n:aVm),o≠1∧o≠2∧o≠10∧(∃l,zc ao l)∧qe i:=by rw[mY ao o i bq,mY n];cases n with|gB g n=>rw[oz n l d n,m2 n.ge,m5,m2 n.ok.1,m5,mW JD n.ge.1 (nj n.ok.1) (nj n.ge) ⟨l,d⟩ (m4 yK)]|jh _ _ d b h'=>exact(JD (vD ua 1 b) (vD ua 2 b) (vD ua 10 b) (qn d) h')
def AcU{q}{l}{g}(n:zS):(l.jE=6∧g|||120=120)∨(l.jE=7∧g|||384=384)∨l.jE=-1:=by cases n<;>decide
def KS{f g:u}(b:f|||g=g)(q)(a_:f.ln q=F):g.ln q=F:=by rw[←b,u.anv,a_];rfl
def P7(ao)(K)(j g)(n:aNW j)(h6:6∈K→∃g,aNW 6):mU ao K j=F∨(6∈K∧g|||120=120)∨(7∈K∧g|||384=384):=by rw[oz n l d n];unfold mU;rw[d];simp only[];rcases AcU n with⟨b,U⟩|⟨b,U⟩|b;rw[b,aPb 6 K,mW (aOo aQ.bF ⟨bK,U⟩)];left;simp only[N.alH,aoo,r.fq,apH,apG,R.aiP];rw[mY ab b0 d,mW bK (by rw[m1 (ab=6) n_,m5,mW (aa▸b0)]),b,aPb 7 K,mW (É aQ.bF ⟨bK,U⟩)];left;simp only[N.alH,aoo,r.fq,apH,apG,R.aiP];rw[mY ab b0 d,mW bK (by rw[m1 (ab=7) n_,m5,mW (aa▸b0)]),b];left;simp only[N.alH,aoo,r.fq,apH,apG,R.aiP];rw[mY ab b0 d,mW B4 (A5 [↑ab] 1 0 b5 (-1) 0 b5 e (R.fp d) vU)]
def GP(ao)(K)(o)(aG:o=6∨o=7)(h6:nX ao 6 aSr)(h7:nX ao 7 aSs):mU ao K o=F:=by(have:∃k,nX ao o (q9 k):=by rw[nY aG aG,n8,m9,n8,m8,mW (qn h6),mW (qn h7)]);rw[m3 Al aa,mZ aa];rintro k d;unfold mU;rw[d];simp only[a9.jE,N.alH,aoo,r.fq,apH,apG,R.aiP];rw[mY ab b0 d,mW B4 (A5 [↑ab] 1 0 b5 (-1) 0 b5 e (R.fp d) vU)]
def WC:∀(ao)(a')(h6:nX ao 6 aSr)(h7:nX ao 7 aSs)(ba:oG ù (∃g,aNW j)),iT ((io ao a').au (Bi ao))=iT ((ù).au (Bi ao)):=by injections ao a';intro h6 h7 ba;apply u.aua;rw[mY q,CD,CD,N.ada,r.gZ,r.gZ,m1 (Bi ao 6=120) (by unfold Bi;rw[h6];rfl),mY aH0,m1 (Bi ao 7=384) (by unfold Bi;rw[h7];rfl),mY aH1];constructor;rw[mY J,sE,ng];rintro g U Ab;rw[uv U,mZ U,s4,mW (ql (ŀ (Ad j (Kn ao _ j J) e)) Ab),mY J,sE,ng];rintro g U Ab;rw[uv U,mZ U,s4,n4 (pa ba) g dL];rw[dL.Bi]at Ab;(have aG:∀ab,ab∈ù→mU ao ù ab=F→ab∈ſ io:=by intro ab b0 hs;unfold io;exact rW r.anf.2 ((m7 Fo).2 b0) hs);rcases P7 ao ù j g dL (oE (ba 6 b))with b|⟨b,U⟩|⟨b,U⟩;rw[mW Ad _ (ŀ (Ad j (aG j J b) e)) (nb dL.Bi Ab),mW Ad _ (ŀ (Ad 6 (aG 6 b (GP ao _ 6 aQb h6 h7)) e)) (nb aH0 (KS U q Ab)),mW Ad _ (ŀ (Ad 7 (aG 7 b (GP ao _ 7 aUr h6 h7)) e)) (nb aH1 (KS U q Ab))]
def On(ao:oB)(a':nq)(h6:nX ao 6 aSr)(h7:nX ao 7 aSs)(ba:oG ù (∃l,n9 ao j l∧(l.jE=6∨l.jE=7∨l.jE=-1)))(dw:qe ù):qe (ſ io):=by rw[n4 (aUj dw) j J];(have aG:∀ab,ab∈ù→mU ao ù ab=F→qe (ſ io):=by intro ab b0 hs b;(have:ab∈ſ io:=by unfold io;exact rW r.anf.2 ((m7 Fo).2 b0) hs);rw[o6 b];cases aa);rw[pI hs (mU ao ù j) (by exact aG j J hs) (by rw[nD (pa ba) l d ei];unfold mU at hs;rw[d]at hs;simp only[N.not_eq_false',kR,r.fq,R.aiP]at hs;rw[oz hs ab b0 avq];rcases ei with b|b|b;rw[m1 (ab=6) n_,mY aa,mZ avq,uM,mW aG 6 b0 (GP ao _ 6 aQb h6 h7),m1 (ab=7) n_,mY aa,mZ avq,uM,mW aG 7 b0 (GP ao _ 7 aUr h6 h7),mW B4 (E0 [↑ab,l.jE] 1 0 b5 d4 d4 (-1) 0 b5 e (R.fp avq) (R.fp b) vU)])]
def Qs(l:a9):l.jE=6∨l.jE=7∨l.jE=-1:=by induction l using a9.ae<;>(rw[qy])
abbrev aLA:aQF|r2=>i.afo 8|_=>F
def Acy(i)(b:a9.un i∈kv):8∈i:=r.akJ.mp (r.hp.mp (show kv.db aLA=F by kernel_rfl) _ b)
def NT(ao)(i)(U:yU q l (op kv l→op ao l))(h8:8∉i):xe (aNI r2):=by rw[aPb (a9.un i) ao,m2 (HR ao _ bK),mY b];by_cases jf:aNI r2<16;rw[m1 (∀q,q<16→op ao _→akt) (by rw[mY q Ab d,m1 (∃l,op kv l) (qn (aUF Ab)),mY bj,uy bj l bj,m2 (U q l bj),mY aa,o6 d,oA,nf aa,mZ aa,m5,uM];(have hd:∀q,q<16→pO kv r2→8∈i:=fun q Ab d=>m4 (Acy _ (r.lI d)));exact h8 (hd q Ab bj)),m5,mW (aa _ jf b).az];omega;rw[nv E3 bK,m2 (qJ (m7 U) (n9 kv 15 _) e),m5,u8 b aa];omega
def GM(a)(ao)(b:aRc):fR a (a.Ah ao):=⟨b,fun aj a0 d=>(Ad a0 d e),fun n g d=>d⟩
def dI.Ah:∀{a}{M}{O}(aF:qG)(ao)(b:ao=a.ak∨∃j,ao=t6 eL j),dI v' M O∧aRc∧ao.z≤a.ak.z+1:=by rw[mY a M O,mY aF,mY ao,mY b];(have aim:aRK a.ak ao:=by rw[Œ,n8,tp (by rw[ri Al]),oc j,m8,mW aQ0,mW fun q l b=>uF Ih b]);rw[m1 ao.fF (by rw[mZ aim,Œ,n8,tp (by rw[ri Al]),oc j,m8,mW aF.cO,mW (nv Z5 aF.cO)]),mY abZ];have b7:=GM a ao aim;rw[mX ⟨{kh:=e,eX:=fun q l d=>aim q l (aF.eX q l d),cO:=abZ,aS:=aF.aS,eM:=aF.eM,ey:=aF.ey,jX:=aF.jX,fO:=aF.fO,ks:=fun f g y d=>by rw[s3 (aF.ks f g y d) sa bh gd fJ cV,mW ⟨sa,bh,aSx,aSy,cV⟩],jW:=aF.jW},aim,?_⟩,mZ aim abZ b7,Œ,n8,tp (by rw[ri Al]),oc j,m8];omega;exact(m7 Z4).1
def dI.PG:∀{a}{M}{O}(aF:qG)(ao)(azj:dI v' M O)(b:aRc)(aC:ao.z≤a.ak.z+1),hj a v' M O O 1:=by rw[mY a M O,mY aF,mY ao,mY azj b aC,mX Dq ao _ 0 a.k1 ?_ (by simp only[r.afl]) azj b (fun o aG=>eh aG r.mz) rb n_ (m4 (Ag [ao.z,a.ak.z] S (sn ai 4 1) S nN e aC)),m2 aF.eM,mY Q,m2 aF.ey,mY h2];delta fb aH.Ah;rw[←Q,←h2];simp
abbrev aag(ao iA:oB):Prop:=∀(q n:u),pO iA v3→pO ao v3
def aag.fI(ao):aag ao ao:=aQ0
def aag.ah{f g x}(b:sH aag)(o:aag g x):aag f x:=fun q n d=>b q n (o q n d)
def Dk(ao)(j)(J:∀n,j≠v3):aag ao (eL ao j):=by intro q n Ab;unfold eL at Ab;split at Ab;rw[mW Ab,y5 aaZ ao.z];rw[r.jP aaZ]at Ab;rw[mW Ab,u8 kf Ab];simp only[r.gR,r.lF]at kf;rw[m1 (q=ao.z) (m4 (y_ (Ag [ao.z,q] ai S nN nm e kf) (Ag [ao.z,q] S ai S ai e (x7 aaZ)))),mY auY,mZ aaZ b kf,mZ kf];subst auY;rw[aOj r.akX Ab,mW eh Ab (J n)]
def AcF(ao)(a'):aag ao (ſ abe).2:=by delta abe;by_cases b:1∈ù;rw[c0 b,mW aag.fI _,cH b];generalize ſ io=p;rw[oT p (by exact m7 Dk (fun n b=>Å)) o i (by(induction i using r.ae with|C=>exact aag.fI _|s=>exact m7 Dk (fun n b=>Å)))]
def Ql:∀(ao)(a'),(ſ abe).2=ao∨∃j,(ſ abe).2=eL ao j:=by injections ao a';by_cases b:1∈ù;rw[show ſ abe=_ from c0 b,mW qN,show ſ abe=_ from cH b];generalize ſ io=i;rw[ï (by exact .bF u0) j (by rw[oT i (by exact qN) ab i (by exact .bF u0)])]
set_option tactic.hygienic true in
def Lo:∀(a:aH)(M:pu)(O:q5)(aF:qG)(h:u)(y:ar)(a':nq)(aJ:y=zy a'∨y=v1 a')(dw:qe a')(Q:a'.z≤16)(ew:aVo (∃i bq,z_ a.ak v))(hg:(sm).z≤3)(fT:aSO),∃(aP:u)(ao:oB),rE 3 8 [oW,y]=c (Æ,î)∧(ao=a.ak∨∃j,ao=t6 eL j)∧aV0∧∃i bq,z_ ao aP∧wq (sm).z∧aSQ=iT (a'.au (agl a.ak)):=by rw[vj M O,mY aF,yb y a',mY aJ dw Q ew hg fT];have h6:ã 6 "string":=Ŀ 6;have h7:ã 7 "number":=Ŀ 7;(have arz:oG sm (∃g,zh j g):=by rw[tr,nt ((ni Gd).1 J),x',m9,mY J,sE,ng];rintro v aS J;rw[m8];cases J;rw[ĥ (ew v aS) i bq n];rw[n.e8]at J;exact n.B_.mem J);(have alc:oG sm (∃l,n9 a.ak j l∧aOv):=by rw[tr,mX AR (pa arz) fun g l d n=>?_,mW Ad l d n.ok.2]);(have aoY:oG sm (mR j∧j≠1):=by rw[tr,mX AR (pa arz) fun g l d n=>?_,mW ⟨n.ok.1,n.ge.1⟩]);rw[m1 (qe (sF fj)) (by rw[n4 (aUj dw) v aS,ĥ (ew v aS) i bq n,n4 (aUj (qk n.KH)) j J,nR];have:j∈sm:=(ni Gd).2 (aQ.bF (Ad v aS (nb n.e8 J)));rw[o6 b];cases aa),mY auX];have ajD:qe xI:=nM On h6 h7 (fun j J=>by rw[nD (pa alc) l d P,mW Ad l d (Qs l)]) auX;have aoO:1∉sm:=oE ((aoY 1 b).2 e);have adn:=Qm a h aF.kh n_ aF.aS y a' aJ Q (fun v aS=>by rw[ĥ (ew v aS) i bq n,m3 Hz n.KH];rintro _ h2 _;rw[mY J,ri Al,ng];rintro l d;rintro _;exact(AE h2 (by rw[d];rfl) (by rw[n.e8,m2 n.c9,m5];omega))) n_ alc (oE ((aoY 0 b).1.1 e)) (oE (nj (qk (aoY 13 b).1) e)) (oE (ov (aoY 8 b).1 e)) (oE (oj (qk (aoY 14 b).1) e)) (nO ajD);refine(nM Bx adn (m7 Ql) (m7 AcF) ?_);have auZ:oG xI (∃g,zh j g):=fun j J=>arz j (n7 Kn J);(have kg:qo io a.ak a'≤(sm).z:=by rw[m2 (r.ar3 (mU a.ak sm) (acW sm)),m5];simp only[Ld]at aa;unfold io;exact aa);(have amP:iT ((io a.ak a').au (Bi a.ak))=iT (a'.au (agl a.ak)):=by rw[WC _ _ h6 h7 arz];apply u.aua;rw[mY q,CD,CD,N.ada,r.gZ,r.gZ];constructor;rw[mY J,sE,ng];rintro g U Ab;rw[uv U,mZ U,s4,nt ((ni Gd).1 J),x',m9,mY J,sE,ng];rintro v aS J;rw[m8];cases J;refine(ql (aT5 (Ad v aS e)) ?_);unfold agl;rw[CD,r.gZ,mW (ql (aT5 (Ad j J e)) Ab),mY J,sE,ng];rintro g U Ab;rw[uv U,mZ U];rintro v aS e;unfold agl at Ab;rw[CD,r.gZ]at Ab;rw[oz Ab bZ dL Ab,uv dL,mZ dL,s4,mW (ql (ŀ (Ad j ((ni Gd).2 (aQ.bF (Ad v aS J))) e)) Ab)]);by_cases aaw:∃o,xI=ua;rw[uy aaw o aaw,m1 (aUY=(o,a.ak)) (pX cH aoO (by rewrite[aaw];rfl)),mY d,d,n4 (auZ o (nb aaw (r.i7.2 e))) g U,mX Au _ _ (.gB o g U) (by rw[aaw]at kg;exact kg) ?_,←amP,aaw,r.gI,r.ajV,U.Bi,m1 (aUY=(aUV (.un xI),sy a.ak (.un xI))) (pX cH aoO (by generalize xI=i at aaw;rw[ï (by rfl) j (by rw[oT i (by exact eh (qS j) aaw) ab i (by rfl)])])),mY d,d,mX Au _ _ (n7 .jh (m7 D') (nM NT aF.eX ?_) ajD n_ ((nv Z1 auZ).bx (fun q l b=>uF Ih b))) kg amP,mY h8,mX AR (auZ 8 h8) fun g l d n=>?_,mW (ov n.ok.1 e)]
abbrev aj7(p:N):u:=t9 p 1
def PJ:∀(a:aH)(M:pu)(O:q5)(aF:qG)(h:u)(cE:ea)(o:u)(p:N)(i bq:nq)(n:z_ a.ak o)(aC:wq 2)(fT:aSO),∃(aP:u)(ao:oB),rE 5 21 [oW,aTn aOL]=c (Æ,î)∧(ao=a.ak∨∃j,ao=t6 eL j)∧∃l' g7,hH ao aP l' g7∧iT g7=aSQ|||aj7 p:=by rw[vj M O,mY aF];injections h cE o p i bq;rw[mY n aC fT,u9 p (by rw[mX Au o a.ak ?_ aQb (AI i bq n (rA aj7)),Ea a aF.kh,mW (nd Mr [.K,.K,qJ acS (ui iH nr=c Y) e,.K])]) (by have aiR:zh 4 1:=(Ad _ (Ŀ 4) (.un));rw[m1 (∀v∈rV 4,∃i bq,z_ a.ak v) (by rw[mY v aS,nt (r.gA.1 aS),n8,m9];rintro aS;rw[m8,mW BN i bq n,Ų aS,mW (m7 BN (.gB 4 1 aiR))]),mY ajJ,m1 ((fj a.ak [] (rV 4)).z≤3) (by rw[m1 (fj a.ak [] (rV 4)=fN (i.mJ fN []) 4) (by rw[m6 ((kl a.ak 4).mJ fN ((kl a.ak o).mJ fN [])=_),n.e8,(hH.gB 4 1 aiR).e8];rfl),p0,d,m2 (HT (i.mJ fN []) 4),mY Q,m2 (J0 i []),mY h2];simp only[r.ana]at h2;exact Bu [i.z,(fN (r.mJ fN [] i) 4).z,(r.mJ fN [] i).z] ai 3 S 2 ai pR a8 (0+S) e aC Q h2),mY ajB];rcases(Lo a M O aF h (zy (rV 4)) (rV 4) aQb qg qg ajJ ajB fT)with(⟨aP,ao,Q,h2,_,l',g7,h3,h4,h5⟩);rw[mX Au aP ao ?_ h2 (AI l' g7 h3 ?_)];have aer:rE 4 9 [oW,qv]=c (Æ,î):=nd SG [aZ Q];rw[mW (nd Mr [.K,.K,qJ acS (ui iH nG=c F) e,.K,aZ aer]),h5,m1 (t6 agl 4=1) (by rw[←(hH.gB 4 1 aiR).agk.2];rfl),mY gp,m2 n.agk.2,mY iM];simp only[r.gI,r.ajV,gp,←iM,aj7];rfl)]
abbrev aah(g:u):Prop:=g=1∨g=2∨g=4∨g=24∨g=16∨g=32∨g=120∨g=128∨g=384
abbrev aie(g:u):u:=ow g 1 0 (ow g 2 1 (ow g 4 2 (ow g 24 3 (ow g 16 4 (ow g 32 5 (ow g 120 6 (ow g 128 7 8)))))))
def hm.BE{q}{l}{g}(n:zS):aPP:=by cases n<;>first|exact qN|exact rt qN|exact vM qN|exact rt (vM qN)|exact vM (vM qN)|exact rt (vM (vM qN))|exact vM (vM (vM qN))|exact rt (vM (vM (vM qN)))|exact vM (vM (vM (vM e)))
def kb.BE{ao}{i bq}(n:zJ):aPc bq:=by induction n with|C=>intro g b;cases b|s q g i bq n _ ih=>rw[mY bZ b,aSo,n8,m9,oe,m8,p4 n,mZ n,mY l _ n,mW n.BE,mW ih _ b]
abbrev aiT:nq:=[1,2,4,24,16,32,120,128,384]
def DA{g:u}(b:aPP):g∈aiT:=by rcases b with e|e|e|e|e|e|e|e|e<;>decide
def TX(g bZ:u)(b:aPP)(h':aah bZ):þ=bZ.ln (aie g):=aWg (∀ab∈aiT,(j|||ab==ab)=ab.ln (aie j)) g (DA b) bZ (DA h')
def M2(g:u)(b:aPP):g.ln (aie g)=F:=aWg (j.ln (aie j)=F) g (DA b)
def Ee(f g:u):(f|||g==g)=F↔∀q,f.ln q=F→g.ln q=F:=by rw[lb]at⊢;constructor;rw[mY b q a_,mW KS b q a_,mY b];apply u.aua;intro q;rw[u.anv]at⊢;induction a_:f.ln q using N.ae with|Y=>rw[Ŧ]|F=>simp[b q a_]
def WS(bq lc:nq)(b:aPc bq)(h':aPc lc):ab5 bq lc=(aSQ|||iT lc==iT lc):=by rw[N.ada,Ee];simp only[ab5,r.hp,r.gZ];constructor;intro aC q Ab;simp only[CD,r.gZ]at Ab⊢;rw[oz Ab g U Ab,nD (aC g U) bZ dL d,mW (vT dL ((Ee g _).1 d q Ab)),mY hs g U,m1 ((iT _).ln _=F) (by rw[CD,r.gZ,mW Ad g U (M2 g (b g U))]),mY Q,m2 (hs _ Q),mY h2];rw[CD,r.gZ]at h2;rw[oz h2 bZ dL d,mW (vT dL (nb (TX g _ (b g U) (h' _ dL)) d))]
def aah.Ab{g}(b:aPP):g.ln 9=Y:=aWg (j.ln 9=Y) g (DA b)
def Pk(bq)(b:aPc bq):(iT bq).ln 9=Y:=by rw[CD,r.ato,mY g U,(b g U).Ab,mW yK]
def P'(p:N)(q):(t9 p 513:u).ln q=(p&&(b1 (q=0)||b1 (q=9))):=by rw[wD p];simp;rw[m1 ((513:u)=2^0|||2^9) nw,m5];simp only[fU,aa,u.anv,u.aLl,N.acf];rw[uh];rw[aon]at⊢;exact az5;rw[aon]at⊢;exact az5
def Acd(p)(q):(aj7 p).ln q=(p&&b1 (q=0)):=by rw[wD p];simp[aj7];rw[m1 ((1:u)=2^0) e,m5];dsimp only[aj7,fU];rw[ţ ((1:u).ln q=(2^0:u).ln q),u.aLl];simp[az5]
def Xe:∀(p o')(bq g7 U dL)(Q:aPc bq)(h2:aPc g7)(h3:aPc U)(h4:aPc dL)(d:iT U=aSQ|||aj7 p)(a5:iT dL=iT g7|||aj7 o'),((! p||o')&&ab5 U dL)=(adr p bq|||adr o' g7==adr o' g7):=by injections p o' bq g7 U dL;rw[mY Q h2 h3 h4 d a5,nM WS h3 h4,N.ada,N.c3,Ee,Ee,d,a5,mZ d,m2 (Pk _ Q),mY fk,m2 (Pk _ h2),mY aIp];simp only[adr,u.anv,P',Acd];constructor;rw[mY J,nV,ng];rintro ho hs;rintro q Ab;(rw[u9 p (by rw[N.aeu,N.ags]at Ab;rw[m2 (hs q (by simp[Ab])),m5];simp only[N.acR,N.c3,kR]at aa⊢;rw[nY aa aa];(rw[oe]);rw[tp (by rw[nV])];(rintro b h');rw[m8,mW aUm,mW (rW aQ.bT b (aQ.bT h'))]) (by rw[m2 (o7 ho),mY au6,mZ a5 ho];subst au6;simp only[N.acf,N.acR,kR]at Ab hs⊢;rw[nY Ab Ab];rintro Ab;rw[m9];rintro Ab;rw[m8,mW aQ.bT Ab,nt (hs q (aQ.bT Ab)),oe,m9,oe,m8,mW aUm,mW (pQ aQ.bT aQ.bT)])]);intro hs;constructor;(rw[u9 p (by rfl) (by rw[m2 (hs 9 (by kernel_rfl!)),m5,o6 aIp,Ă])]);intro q Ab;simp only[N.acR,N.c3,kR]at Ab hs⊢;rw[nY Ab Ab];rintro Ab;rw[m9,aO0 Ab aIq,m8,m1 (sU 9) (by rw[n8];rw[fk]at Ab;rw[wN Ab]),mY dw];rcases hs q (aQ.bF Ab)with(⟨b,h'|h'⟩|b);rw[mW (rW aQ.bF b h'),mW eh h' dw,mW Í];subst aIq;rcases hs 0 (aQ.bT ⟨Ab,aQb⟩)with(⟨b,h'|h'⟩|b);exact aQ.bF (qS b);cases h';exact Í
def Xj:∀{a}{M}{O}(aF:qG)(cj),hj a (oP k1 cj) M O O 0:=by rw[mY a M O,mY aF,mY cj,m2 aF.eM,mY Q,m2 aF.ey,mY h2,m2 aF.kh,mY h3];unfold aH.aiW at h3;refine(nM Dq 0 cj ?_ (y7 r.afl) (u7 aF.le aF.aS aF.eM aF.ey aF.jX e aF.jW) aQ0 (fun o aG=>eh aG r.mz) rb n_ n_);unfold fb;rw[←Q,←h2,←h3];simp
def WJ:∀(a:aH)(h k:u)(f)(cE)(o:u)(p)(hs:qq)(b2:aSi),∃cj,rE 2 63 (ā (aTn aOL))=c (oX,yt k1 cj):=by injections a h k f cE o p;intro hs b2;have abX:=HX a h k f hs;rw[b2]at abX;rw[rs p (by exact⟨a.k1,(He ..).ah (aWp (Af (z':=a)) [.K,.K,.K,aZ abX,.K])⟩) (by have g9:=CW (Fm (Gb a)) e;have A_:f1 a.G .eq (og a.k1) (og "")=c (n5 (a.k1=="")):=e;induction Q:a.k1==""using N.ae with|Y=>rw[Q]at A_;exact⟨a.k1,(He ..).ah (aWp (Af (z':=a)) [.K,.K,.K,p A_])⟩|F=>rw[Q]at A_;induction h2:(nc a.gU.z==1)using N.ae with|Y=>exact⟨a.k1,(He ..).ah (aWp (Af (z':=a)) [.K,.K,.K,p A_,p g9,rN h2])⟩|F=>rw[y0 cE];(have afH:dP T n0 (.dU pn "missing" (rq 2)) [px,ze,c (aTn nr)] a.G=c (na,[px,ze,c (aTn nr)],yt k1 cE):=nb (nM (w3 Ep n0) a.G a.G a.G (og cE) 12 3 _ (qX [.K]) vO (BY a) e qg) (cr (nF (c (ls.bU,([px,ze,c (aTn nr)]:du),j))) (Fl a a.e5 a.c2 cE)));exact nd He [.K,.K,.K,p A_,p g9,rN h2,os afH])]
def E'(p:N)(bq:nq)(b:aPc bq):(adr p bq).ln 10=Y:=by rw[m1 ((iT bq).ln 10=Y) (by rw[CD,r.ato]at⊢;rw[mY g U,mW N.amC.mp (aWg (j.ln 10=Y) g (DA (b g U)))]),mY kB];simp only[adr,u.anv,P',kB];induction p using N.ae<;>(rw[Ŧ])
def Gu(H)(b:H.ln 10=Y):(2047|||H==H)=Y:=by induction U:(2047|||H==H)using N.ae with|Y=>rfl|F=>rw[m2 ((Ee _ H).1 U 10 nw),m5,o6 b,wN aa]
def PA:∀(a)(h k di)(M)(O)(K:j' a M O 3 6)(f)(hs:qq)(b2:aSi)(n t)(fG:u5)(cE)(cj)(afF:eI a.ak aWd cj)(o)(p)(i bq)(ba:z_ a.ak o)(aC:wq 2),afi (h+18) 65 (ā (nE [aWa,qv,aOL,nr])) (cj|||adr p bq==adr p bq) 6 a M O:=by injections a h k di M O;rw[mY K,mY f,mY hs b2];injections n t;intro fG;injections cE cj;intro afF;injections o p i bq;intro ba aC;have abu:=Pz a (h+14) k di n t fG cE;(have fT:aSO:=q8 K.rw (oa Ag [a.ak.z] S 900000 (sn S 4 6) 900000 e aa));induction acF:aWd using ap.ae with|B=>rw[acF]at afF abu;cases afF;rw[Gu _ (E' p _ ba.B_.BE),n4 (WJ a (h+15) k f aTb o p hs b2) cj js,mX AI _ O ?_ ((Xj K.aF cj).bx n_)];simp only[apU]at abu;exact nd Hf [.K,aZ abu,.K,aZ js]|c d=>obtain⟨j6,j8⟩:=d;rw[acF]at afF abu;cases afF with|abF _ _ ip aza dN alf=>simp only[apU]at abu;have ao6:=Xf a (h+15) k aTb aTb j6 o j8 p;obtain⟨aP,fB,aiw,aHQ,aDu,aqR,aEk,aV⟩:=PJ a M O K.aF (h+12) aTb j6 j8 ip aza dN alf fT;rw[rf (K.aF.Ah fB aHQ) ke add lE,m2 (K.aF.PG _ ke add lE),mY aKR];obtain⟨V,gO,afG,ak4,aDv,aqS,aEl,bj⟩:=PJ (a.Ah fB) M O ke (h+12) aTb o p i bq (ba.bx add) aC (by rw[m6 (fB.z<900000),m2 K.rw,m5,mW Am [a.ak.z,fB.z] (ai+1) 900000 ai nm (sn S 4 6+1) 900000 e lE aa]);rw[rf (ke.Ah gO ak4) gi adV acM,m2 (ke.PG _ gi adV acM),mY aKS];have aEr:=aKR.ah aKS;have i5:=Xe j8 p aza bq aqR aqS dN.B_.BE ba.B_.BE aEk.B_.BE aEl.B_.BE aV bj;induction bK:(! j8||p)using N.ae with|Y=>rw[bK]at i5 ao6;simp only[N.aeu]at i5;rw[←i5,mX AI a O ?_ aVk,mW (nd Hf [.K,aZ abu,.K,aZ ao6])]|F=>rw[bK]at i5 ao6;simp only[N.acf]at i5;rw[←i5];have av6:hH (tB fB Ah gO).ak aP aDu aqR:=aEk.bx adV;have aEm:hH (tB fB Ah gO).ak V aDv aqS:=aEl;rw[mX Ns av6.A' fun a7 vs bN P P=>?_,mX Ns aEm.A' fun st dj aEj P P=>?_,m1 (m7 bv.ha≤3) (by rw[m2 (bN.ha _ av6.B_),mY Q,m2 aEj.Bf,mY h2];unfold bv.ha;exact Am [a7.An,st.Bf] (ĸ+ai) 3 ĸ (qQ 2 1) ai 1 e (AM 2 Q) h2),mY g_,s3 (RD _ h aP V aDu aqR aDv aqS M O a7 st av6 aEm vs bN dj aEj (K.CE aEr g_ n_)) e3 axs a_ aoQ P];have aEs:=aEr.ah aoQ;rw[aTw aEs,m2 (aEs.le.ak k f hs),mY aI7];have abX:=HX e3 (h+16) k f aI7;rw[b2]at abX;have aI1:=K4 e3 (h+16) aTb j6 j8;have aI2:=K4 e3 (h+16) aTb o p;have iQ:=AbG e3 (h+14) Æ (.m V);induction aJ:ab5 aqR aqS using N.ae with|Y=>rw[y2 a_,mW (nd Hf [.K,aZ abu,.K,aZ ao6,aZ aiw,aZ afG,aZ a_])]|F=>rw[y2 a_,mW (nd Hf [.K,aZ abu,.K,aZ ao6,aZ aiw,aZ afG,aZ a_,aZ (Qa e3 (h+16)),aZ abX,aZ aI1,aZ aI2,aZ iQ])]
def GX(O)(cf)(d)(l)(w a4)(i)(bq)(b:uw q2)(U:acx i=c bq):o5 (oC (.db d)) (.aO (bq.db id)):=by rw[rc (pk ta b),mW (pk (fun p=>ox (ap.au (fun bq=>ar.aO (r.db bq id)) p) y (y,a4)) U)]
def GZ(O)(cf)(d)(l)(w a4)(i)(bq)(b:uw q2)(U:acx i=c bq):o5 (oC (.dS d)) (.aO (bq.dS id)):=by rw[rc (pk ta b)];simp only[ap.eO,axF,Q2,U,ap.ji]
def CO{cg:Type}(i:Ë)(ac):acx (i.au (nF (ar.aO (ac j))))=c (i.au ac):=vv (by simp[Me,Mf,Mg,Mh,Mi,Mj,Mk,Ml,ih])
def Ch{cg:Type}(O)(cf)(gD)(k)(gQ)(l)(w a4)(y)(x)(i:Ë)(d ac)(b:o5 (o0 aU gQ) y)(hs:kn a4 y=c (i.au d,x))(hc:AY x a4=F)(b2:oG i (o5 (aU O cf gD (l.b6 k (c (d j))) a4) (ac j))):o5 (oC (.go gD k gQ .C)) (u' i.au ac):=by simp only[Iy,b];simp only[ap.eO,hs];rw[Jp (ago O _ _) _ k x l _ hc d (nO F) ac i (fun j P=>aP2 HQ Qw) (fun j J P=>pa b2)];rw[r.aHk.2 (wW e)];rfl
abbrev akn(n t:o4):N:=match n,t with|B,B=>Y|zk _,B=>p|B,zk _=>p|zk _,c (_,o')=>p&&o'
abbrev fy(n t:o4):r (ea×u×N):=(match n with|B=>[]|zk o=>[("p",o,p)])++(match t with|B=>[]|zk o=>[("q",o,p)])
abbrev jO(j:ea×u×N):ar:=nE [og sz,.m (nj j),aeR (nW j),nr]
def KW(n t):aRQ=(xA).au jO:=Ũ n (by(induction t using ap.ae with|B=>rfl|c g=>obtain⟨c6,dn⟩:=g;rfl)) f (by rw[aPH];induction t using ap.ae with|B=>rfl|c g=>obtain⟨c6,dn⟩:=g;rfl)
def Um(w)(j):pE w (jO j) nr=c (og sz):=aRZ
def F5(w:ch)(n t:o4):eC w zN nG=c (ws aOW jO):=by rw[←KW]at⊢;exact D4 ..
def PC(w:ch)(n t:o4):f1 w .eq (ws aOW jO) ps=c (qP zC):=by induction xA using r.ae<;>rfl
def AcP(n t:o4)(dw:qe xA):(ox xA j (nW j)).db id=akn n t:=Ũ n (by(induction t using ap.ae with|B=>exact eh e dw|c g=>clear dw;obtain⟨c6,dn⟩:=g;simp[fy,akn])) f (by rw[mZ dw,aPH];induction t using ap.ae with|B=>simp[fy,akn]|c g=>obtain⟨c6,dn⟩:=g;simp[fy,akn])
def AcR(n t:o4)(aa:xA=[]):akn n t=Y:=Ũ n (by(induction t using ap.ae with|B=>rfl|c g=>obtain⟨c6,dn⟩:=g;simp[fy]at aa)) f (by rw[aPH];induction t using ap.ae<;>simp[fy]at aa)
def Wm:∀(a:aH)(h:u)(n t:o4),qM 42 [zN] (n5 (akn n t)):=by injections a h n t;have Q:=F5 a.G n t;have agE:=PC a.G n t;rw[pI he zC (by rw[he]at agE;rw[AcR n t (r.alr.1 he),mW (nd Mw [p Q,p agE])]) (by rw[he]at agE;have hc:=aRH nT (on ne (rk acu (x1 rn) (.bL "P_OPT" nG)) nr) 1 (r_ 0 nG) [c zN,B] (ws aOW jO) B xA jO (nF (ar.aO (nW j))) (qX [p Q]) e e (by rw[mY j _,mZ f];obtain⟨I,L,Z⟩:=j;rw[aOk Z (qX [.K,.K,.K])]);have iO:=GX T nT _ _ a.G a.G _ _ hc (m7 CO);rw[AcP n t (ol (by rw[d]at he;injection he))]at iO;exact nd Mw [p Q,p agE,.K,.K,.K,.K,.K,.K,.K,.K,aZ iO])]
def Wl(a:aH)(h v di:u)(n t:o4)(b:hn a v di n t)(g:a9)(U:r6)(fG:Ê):pG 3 44 [tJ,oF] (n5 (akn n t)):=by have aC6:=PZ g;rw[fG]at aC6;have dt:=Bo a.G g;exact nd Si [ă v g U,xn,qa Cv g,xn,p aC6,aZ (C4 a h v di n t b),č di b.gs,aZ (Wm a nB n t)]
def O3(l:a9):aQN lM (nE [.m 8,.m 9]) (n5 (! l.iF)):=zQ
def XL(l:a9):aQN lM (nE [.m 6,.m 7,Ū,.m 14,.m 15,.m 16,.m 17,.m 18,.m 19]) (n5 (! l.abA)):=zQ
def AbC:∀(a:aH)(h k di:u)(n t:o4)(b:u5),∃g,pG 3 43 [tJ,pV] qz:=by rw[mY a h k di n t,nR,m2 (C4 a h k di n t b),mY hs,mZ hs,m2 (sP di _ b.gs),mY br,mZ br,m1 (∃f,qq) (by cases b with|lP f Q=>exact⟨f,Q⟩|D _ _ Q=>exact qn Q|bI aj a0 _ _ Q=>exact qn Q),mY a_,o8 a_,mZ a_];rintro f a_;have il:=Jn k [0,1,2,13,3,4,5,10] e;have Q:=F5 a.G n t;have agE:=PC a.G n t;have gr:=sP k f a_;rw[xE jb Bo f];have aV:=O3 f;have bj:=XL f;rw[pI U ([0,1,2,13,3,4,5,10].afo (nc k)) (by rw[U]at il;exact⟨F,nd EH [p il]⟩) (by rw[U]at il;(have cW:(f.iF=Y→f.abA=F)→∃g,pG 3 43 [tJ,pV] qz:=fun ahB=>by rw[pI he zC (by rw[he]at agE;(rw[pI hs f.iF (by rw[y3 hs,mW ⟨F,nd EH [p il,re,sC,r0,aZ (C4 a h k _ n t b),č _ b.gs,p Q,p agE,.K,.K,.K,.K]⟩]) (by rw[y3 hs];rw[ahB hs]at bj;exact⟨F,nd EH [p il,re,sC,r0,za,aZ (C4 a h k _ n t b),č _ b.gs,p Q,p agE,.K,.K,.K,.K]⟩)])) (by rw[he]at agE;rw[pI hs f.iF (by rw[y3 hs,mW ⟨Y,nd EH [p il,re,sC,r0,aZ (C4 a h k _ n t b),č _ b.gs,p Q,p agE]⟩]) (by rw[y3 hs];rw[ahB hs]at bj;exact⟨Y,nd EH [p il,re,sC,r0,za,aZ (C4 a h k _ n t b),č _ b.gs,p Q,p agE]⟩)])]);rw[pI fG f.iF (by exact cW (ol (by rw[fG]at d;rw[yL GR d]))) (by rw[pI ahB f.abA (by exact cW (nO ahB)) (by rw[y3 fG];rw[ahB]at bj;exact⟨Y,nd EH [p il,re,sC,r0,za]⟩)])])]
def If:∀(n t:o4)(j:ea×u×N)(b:j∈xA),∃cE,sz=aTb∧aWd=c (nj j,nW j):=by injections n t j;rw[nR,Ä fy,nt (r.aeP.1 b),oe,m9,oe,m8];(induction n using ap.ae with|B=>cases b|c f=>rw[aPH,xh r.i7,pq,mW Ad Y e e]);induction t using ap.ae with|B=>cases b|c f=>rw[aPH,xh r.i7,pq,mW Ad F e e]
abbrev alC(n t:o4)(cE:ea):N:=ow cE "p" n.mM t.mM
def AcQ:∀(a:aH)(h k v di mT:u)(n t cw er:o4)(hs:u5)(aS:hn a v mT cw er)(g:a9)(U:r6)(fG:Ê),∃V,pG 4 45 [tJ,pV,oF] (qP V)∧(V=F→qe aS0∧oG aS0 (alC n t sz=F)):=by injections a h k v di mT n t cw er;rw[mY hs aS,mY g,mY U fG];have ajL:=Wl a h v mT cw er aS g U fG;rw[m3 Al (AbC a h k di n t hs),mY V aC4];have cU:=C4 a nB v mT cw er aS;have br:=sP mT _ aS.gs;clear aS;have Q:=F5 a.G cw er;induction afI:akn cw er using N.ae with|Y=>rw[afI]at ajL;exact(Ad Y (nd Jd [aZ ajL]) (oE (by rw[aUa BD])))|F=>rw[afI]at ajL;rw[rs V (by exact(Ad Y (nd Jd [aZ ajL,aZ aC4]) (oE (by rw[aUa BD])))) (by have hc:=aRH pd (on agL (.bp 20 (pH pn qc (rq 4))) .B) 4 (r_ 3 nG) [ve,ze,pZ,c (a9.D cw er).aY,B] (ws (fy cw er).au jO) B aS0 jO (nF (ar.aO (alC n t sz))) (qX [p Q]) e e (by rw[tr,nD (If cw er j J) cE cu P,mZ P];have abu:=Pz a h k di n t hs cE;rw[m1 (b1 (apU (lL cE) aWd=.B)=alC n t sz) (by rw[mZ hs abu,cu,mZ cu,wD cE];(induction n using ap.ae with|B=>rfl|c f=>rw[aPH];rfl);induction t using ap.ae with|B=>rfl|c f=>rw[aPH];rfl),mY bK,←bK];have Aw:pE [] (jO j) nr=c aWa:=(Um [] j).ah (pk (x8 (c (ar.bi ab))) cu);exact qX [ė,aZ abu,.K]);clear Q;have iO:=w3 GX pd a.G a.G _ _ hc (m7 CO);rw[mZ hc,mX Ad ((ox aS0 j (alC n t sz)).db id) (nd Jd [aZ ajL,aZ aC4,aZ cU,p br,aZ iO]) ?_,mZ br iO,mY b,mX ⟨?_,?_⟩,om,mY d];(induction cw using ap.ae with|B=>(induction er using ap.ae with|B=>rw[qT afI]|c x=>clear afI;obtain⟨A_,Bw⟩:=x;simp[fy]at d)|c x=>clear afI;obtain⟨A_,Bw⟩:=x;induction er using ap.ae<;>simp[fy]at d);rw[tr,m2 (Á b _ (aT5 (Ad j J e))),m5,mW aa])]
def hn.CE:∀{a z1}{M}{O hY}{aD k di}{n t}(b:u5)(l:aRt),hn z1 k di n t:=by injections a z1 M O hY aD k di n t;rw[mY b l,m2 l.le,mY b7,m3 AA l,n2];rintro ao ks cc cj e _;cases b with|lP f Q h2 h3=>exact .lP k f (Ģ Q) h2 (Ģ h3)|D _ _ Q=>exact .D k n t (Ģ Q)|bI aj a0 _ _ Q h2 h3 h4=>exact .bI k aj a0 n t (Ģ Q) h2 h3 (Ģ h4)
def Zk(bq)(b:aPc bq):aSQ<2^9:=qb bq (by decide) g bq (by rw[m1 (iT (g::bq)=g|||aSQ) e,p0,d];apply u.aKF;rw[mW (aWg (j<2^9) g (DA (b g tG))),mW ih fun j J=>b j (Ċ J)])
def eI.lt{ao}{n}{H}(b:wR n H):H<2^11:=by cases b with|no=>decide|abF o p i bq n _=>apply u.aKF;induction p using N.ae<;>decide;exact u.k0 (Zk bq n.B_.BE) nw
def CF(H)(b:H<2^11):(H|||2047==2047)=F:=by rw[Ee,mY q Ab,m1 ((2047:u)=2^11-1) nw,m5,aa,u.testBit_two_pow_sub_one,y5 aIr 11];simp[aIr];rw[m1 (H.ln q=Y) (u.testBit_lt_two_pow (u.k0 b (u.pow_le_pow_right nw n_))),m5];rw[aa]at Ab;rw[wN Ab]
def Z0:∀(h k v:u)(M)(O)(a)(y)(awf)(xs:r (ea×u×N))(acY)(ba:oG xs (∀z1 hY aD,aRt→aD+6≤acY→afi (h+18) 65 (ā (jO j)) (y j) 6 z1 M hY)),∀z1 hY aD fi,aRt→aD+6*xs.z≤acY→∃bz kO alM,fZ (aO4 (zX 18) (nA (ts (.ir (.bp 65 (pH pn qc sw))) (nA aQA)))) 6 B (xs.au jO) [px,ze,pZ,c pb,ve,c awf,fi] z1.G=c (if xs.db y then na else aQA,[px,ze,pZ,c pb,ve,c awf,alM],bz.G)∧hj a bz M O kO acY:=by injections h k v M O a y awf xs acY;intro ba;induction xs with|C=>rw[mY z1 hY aD fi eE mo,mW A9 z1 hY fi (q0 r.ajV BG) (eE.bx mo)]|s j xs ih=>intro z1 hY aD fi eE mo;simp only[r.kZ]at mo;rw[mX AR (ba j tG z1 hY aD eE (m4 (Ag [aD,xs.z,acY] (S+6) a8 (aSA 6) a8 e mo))) fun bz kO br ak4=>?_,pI aJ (y j) (by rw[y2 br,mX AD (ih (fun t cG=>ba t (Ċ cG)) bz kO (aD+6) (c (jO j)) (eE.ah ak4) (m4 (Ag [aD,xs.z,acY] (ro (S+6) 6) a8 (aSA 6) a8 e mo))) fun e3 axs r' h3 aoQ=>?_,mX A9 _ _ r' ?_ aoQ,r.gI,mX (zr ?_).ah (h3.ah (by rw[r.aem,aJ,N.acf])),mW (pK [Ò])]) (by rw[y2 br,mX (sb A9 (c (jO j)) ?_ ((eE.ah ak4).bx (m4 (Ag [aD,xs.z,acY] (S+6) a8 (aSA 6) a8 e mo)))),r.gI,mX (qm HG _ ?_).ah (ű r.aem aJ N.aeu),mW (pK [Ò])])]
def Aao(a:aH)(h)(k v)(n t):qM 62 [nQ,k,v,zN] pb:=by have h2:eC a.G zN rn=c ps:=Oe ..;have h3:eC a.G zN uN=c ps:=Of ..;have h4:eC a.G zN Ç=c ps:=Wo ..;have h5:eC a.G zN (.m 5)=c ps:=Wp ..;exact nd Sq [p h4,.K,p h5,.K,p h2,.K,p h3,.K]
def PY{ao:oB}{n t cw er:o4}{mp cY f4 f5:u}(Q:wR n mp)(h2:wR t cY)(jQ:wR cw f4)(kT:wR er f5):(aS0).db (nF (ow sz "p" (mp|||f4==f4) (cY|||f5==f5)))=aPL:=by cases jQ with|no=>(cases kT with|no=>simp[fy,CF mp Q.lt,CF cY h2.lt]|abF o p i bq=>simp[fy,CF mp Q.lt])|abF o p i bq=>cases kT with|no=>simp[fy,CF cY h2.lt]|abF o p i bq=>simp[fy]
def AbB{ao:oB}{n t cw er:o4}{mp cY f4 f5:u}(Q:wR n mp)(h2:wR t cY)(jQ:wR cw f4)(kT:wR er f5)(dw:qe aS0)(iO:oG aS0 (alC n t sz=F)):aPL=Y:=by rw[m2 (PY Q h2 jQ kT),mY i5,←i5,mZ i5,n4 (aUj dw) j J,m2 (pa iO),mY bK,mZ iO,r.all_eq_false,mX Ad j J ?_,nD (If cw er j J) cE cu acF];rw[cu]at bK⊢;rw[mZ cu,wD cE,m2 (by simpa[alC,lL]using bK),mY ba,mZ bK];subst ba;cases Q;rw[m1 (cw=c _) acF,mY all,mZ dw J acF];subst all;(cases jQ with|abF _ _ i bq pt _=>simp[lL,Gu _ (nv E' pt.B_.BE)]);rw[m2 (by simpa[alC,lL]using bK),mY cG,mZ bK];subst cG;cases h2;rw[m1 (er=c _) acF,mY all,mZ dw J acF];subst all;cases kT with|abF _ _ i bq pt _=>simp[lL,Gu _ (nv E' pt.B_.BE)]
def AbA:∀(a:aH)(h k v di mT:u)(M:pu)(O:q5)(K:j' a M O 3 12)(f g:a9)(a_:qq)(acD:aSi)(U:r6)(afE:g.je=Y)(mq:Ê)(n t cw er:o4)(hs:u5)(aS:hn a v mT cw er)(mp cY f4 f5:u)(Q:wh)(h2:xQ)(jQ:yN cw f4)(kT:yN er f5),afi (h+19) 61 [nQ,pV,oF,pb] aPL 12 a M O:=by injections a h k v di mT M O;rw[mY K,mY f g,mY a_ acD U afE mq];injections n t cw er;intro hs aS;injections mp cY f4 f5;rw[mY Q h2 jQ kT,nD (AcQ a (h+14) k v di mT n t cw er hs aS g U mq) V avm ei];have cU:=C4 a (h+16) v mT cw er aS;have br:=sP mT _ aS.gs;clear aS;have abX:=HX a (h+17) v g U;rw[afE]at abX;have aoZ:=F5 a.G cw er;have avl:pG 18 60 [nQ,pV] pb:=nd Sp [.K];have i5:=PY Q h2 jQ kT;rw[rs V (by rw[ou (ei e) dw iO,AbB Q h2 jQ kT dw iO,mW AI a O (nd Jh [aZ cU,p br,aZ avl,aZ avm]) aVk]) (by refine AD (Z0 h k v M O a (nF (ow sz "p" (mp|||f4==f4) (cY|||f5==f5))) (a9.D cw er).aY aS0 12 (by rw[mZ i5,mY j J z1 hY aD eE mo,nD (If cw er j J) cE cu acF,ng];have b7:=eE.le;have A1:=nI (K.CE eE) m' 3 c' 6 yk n_;have art:=b7.ak k f a_;have iP:=hs.CE eE;obtain⟨I,L,Z⟩:=j;simp only at cu acF;subst cu;rw[wD cE,m1 (cw=c _) acF,mY all,mZ br aoZ ei acF];subst all;(cases jQ with|abF _ _ i bq pt aC=>exact PA _ h k _ M _ A1 f art acD n t iP Y _ (Q.bx b7.ak) L Z i _ (pt.bx b7.ak) aC);rw[m1 (er=c _) acF,mY all,mZ br aoZ ei acF];subst all;cases kT with|abF _ _ i bq pt aC=>exact PA _ h k _ M _ A1 f art acD n t iP F _ (h2.bx b7.ak) L Z i _ (pt.bx b7.ak) aC) a O 0 B (hj.fI K.aF 0) (by rw[mZ i5,mZ jQ kT br aoZ ei,tm cw (by(induction er using ap.ae with|B=>decide|c x=>rw[qy])) x (by induction er using ap.ae with|B=>rw[qy]|c x=>rw[qy])])) fun bz kO alM aC eE=>?_;rw[i5]at aC;rw[aTw eE,pI aJ aPL (by rw[y2 aC,mW (nd Jh [aZ cU,p br,aZ avl,aZ avm,.K,aZ abX,p aoZ,os aC,aZ (Aao bz (h+17) pV oF cw er)])]) (by rw[y2 aC,mW (nd Jh [aZ cU,p br,aZ avl,aZ avm,.K,aZ abX,p aoZ,os aC])])])]
def j'.gU:∀{a}{M}{O}{H x}(K:j' a M O H x)(l),j' (oP gU l) M O H x:=by rw[mY a M O H x,mY K,mY l,mW (have b7:fR a (oP gU l):=tW;{aF:=u7 K.aF.le K.aF.aS K.aF.eM K.aF.ey K.aF.jX e K.aF.jW,ne:=K.ne,aji:=fun o aG=>by rw[nt (K.aji o aG),oe,tp (by rw[vW])];rintro sa bh gd fJ d;rw[m8,mW aQ.bT (b.bx b7),mW aQ.bF (Au _ _ aSx aSy d)],cc:=K.cc,rw:=K.rw,eo:=K.eo,ig:=K.ig})]
def hn.gU:∀{a}{k di}{n t}(b:u5)(l),hn (oP gU l) k di n t:=by injections a k di n t;rw[nR];injections l;cases b with|lP f Q h2 h3=>exact .lP k f Q h2 h3|D _ _ Q=>exact .D k n t Q|bI aj a0 _ _ Q h2 h3 h4=>exact .bI k aj a0 n t Q h2 h3 h4
abbrev adR(l:a9):R:=oo l (nP aj) aj 0
def JA(a:aH)(h)(l):qM 53 [l.aY] (à l):=by induction l using a9.ae with|bI aj=>rw[ot My [.K,.K,.K]]|_=>rw[ot My [.K,.K]]
def Aaq(a:aH)(h)(br:Ù)(aj mP):qM 54 [.D 17,nr,.m aj,.m mP] oX:=by have K:qh 17 m_:=br▸Gb a;rw[m2 (Il K),mY hs,m1 (AY (c (17,[])) _=F) (hZ K),mY cU];have b2:=(DJ T nT 6 pn (.s wz .C) [tx 17,nn 0,nn aj,nn mP,Þ,nn 0,B] a.G a.G (.D 17) [] (c (17,[])) vO hs).ah (ni F9 _ cU);rw[pI hd (b1 (0<aj)) (by rw[ot Mz [os b2,qa B' hd,.K]]) (by rw[ot Mz [os b2,qa B' hd]])]
def Ack(a:aH)(h k:u)(v)(f)(a_:qq)(br:Ù):pG 2 55 (ā v) oX:=by have g9:ui acN (.D 17)=c nr:=CW (Fm (Gb a)) (sh br);exact nd Sl [p g9,.K,ă k f a_,aZ (JA a h f),aZ (Aaq a h br (adR f) k)]
def Ads(O:mE)(cf:iV)(d:dz)(l:du)(w:ch):oC (.adw d)=rr (zI nk (alL nh q)):=e
def Ro(a:aH)(j:ar)(br:Ù):afk a.G a.G 17 j=c (yt gU [j]):=by rw[m1 (qh 17 m_) (br▸Gb a),mY K];delta afk afL kC;rw[K,mW cr c (PP a [j])]
def ZW(a:aH)(j:ar)(br:a.gU=[j]):alL a.G 17=c (j,yt gU []):=by rw[m1 (qh 17 (vb j)) (br▸Gb a),mY K];delta alL kC;rw[K,mW cr (fun w=>ŵ j) (PP a [])]
def Zj:∀(a:aH)(h k v di mT:u)(M:pu)(O:q5)(K:j' a M O 3 12)(alh:Ù)(f g:a9)(a_:qq)(acD:aSi)(U:r6)(afE:g.je=Y)(mq:Ê)(n t cw er:o4)(hs:u5)(aS:hn a v mT cw er)(mp cY f4 f5:u)(Q:wh)(h2:xQ)(jQ:yN cw f4)(kT:yN er f5),afi (h+20) 58 [nQ,pV,oF,pb] aPL 12 a M O:=by injections a h k v di mT M O;intro K alh;injections f g;intro a_ acD U afE mq;injections n t cw er;rw[mY hs aS,mY mp cY f4 f5,mY Q h2 jQ kT,m3 AR (AbA (oP gU [nE [à f,pV,à g,oF]]) h k v di mT M O (K.gU _) f g a_ acD U afE mq n t cw er (hs.gU _) (aS.gU _) mp cY f4 f5 Q h2 jQ kT)];rintro bz kO br eE;rw[m1 (bz.gU=[nE [à f,pV,à g,oF]]) (by rw[mZ br,m3 AA eE,mZ eE];rintro ao ks cc cj e _;rfl),mY aC0,mX AI ({bz with gU:=[]}) kO ?_ ?_,aR6 aPL y br];have gr:=sP k f a_;(have apb:ny (zX 19) (.adw (sO "road")) [px,ze,pZ,c pb,tx 2,c rK] bz.G=c (nE [à f,pV,à g,oF],aH.G {bz with gU:=[]}):=by simp only[Ads,AcO,w_var];rw[m6 (ap.bP (nv avB (vS,bz.G)) _=_),Ww,L' _ _ _ vS e,mW (nv ZW aC0)]);rw[mW (nd Sm [aZ (Ack a (h+17) k oF f a_ alh),re,aZ (JA a (h+18) f),ă v g U,aZ (JA a (h+18) g),aaG (Ro a (nE [à f,pV,à g,oF]) alh),.K,Ò,aZ apb]),mZ br aC0,m3 ET eE,mZ eE];rintro ao ks cc cj e e h3 h4 h5 h6 h7 h8;rw[m1 (({fb (oP gU [nE [à f,pV,à g,oF]]) ao _ _ _ with gU:=[]}:aH)=fb a ao Ļ cc cj) (by unfold fb;rw[←alh]),mY d,d,m1 (fR (fb (oP gU [nE [à f,pV,à g,oF]]) ao Ļ cc cj) (fb a ao Ļ cc cj)) tW,mY b7,mW (oM Dq ao e e (u7 h3.le h3.aS e e h3.jX e h3.jW) h4 (fun o aG=>(h5 o aG).bx b7) h6 h7 h8)]
def YM:∀(a bz:aH)(h k v:u)(f g:a9){y:ar}(a_:qq)(U:r6)(mq:Ê)(l2:aSV)(hd:∀aj,f=nP aj→∃aap a0,aj=aap+2∧yT aap)(br:rE 20 58 [nQ,pV,oF,pb]=c (y,bz.G)),rE 21 56 [nQ,pV,oF,pb]=c (y,bz.G):=by injections a bz h k v f g y;intro a_ U mq l2 hd br;have gr:=sP k f a_;clear a_;have jk:=sP v g U;clear U;have aV:=Bn 10 l2;induction h9:(nc f.o==9)using N.ae with|Y=>have aer:f1 a.G .eq (.m f.o) È=c oX:=AH h9;(induction g using a9.ae with|D cw er=>rw[ot EI [re,uO,r0,.K,.K,aO9,p aer,Ò]]|bI aap=>rw[ot EI [re,uO,r0,.K,.K,aO9,p aer,Ò]]|_=>rw[sQ mq])|F=>induction f using a9.ae with|bI aj=>(induction g using a9.ae with|D cw er=>rw[ot EI [re,uO,r0,.K,.K,.K,.K,.K,.K,Ò]]|bI aap=>(induction ahw:(nc aj==aap)using N.ae with|Y=>rw[ot EI [re,uO,r0,.K,.K,.K,.K,.K,.K,.K,.K,rN ahw,Ò]]|F=>rw[m3 AR (hd aj e),mZ hd h9];rintro i0 a0 e hD;exact nd EI [re,uO,r0,.K,.K,.K,.K,.K,.K,.K,.K,rN ahw,.K,p (D5 a _ a0 hD),p (T3 a _ a0 hD),qJ acS (ui iH wL=c Y) e,Ò])|_=>rw[sQ mq])|_=>rw[sQ h9]
def YN:∀(a:aH)(h k v di mT:u)(M:pu)(O:q5)(K:j' a M O 3 12)(alh:Ù)(f g:a9)(a_:qq)(acD:aSi)(U:r6)(afE:g.je=Y)(mq:Ê)(l2:aSV)(n t cw er:o4)(hs:u5)(aS:hn a v mT cw er)(mp cY f4 f5:u)(Q:wh)(h2:xQ)(jQ:yN cw f4)(kT:yN er f5),afi (h+23) 23 [nQ,.m 5,pV,oF] aPL 12 a M O:=by rw[mY a h k v di mT M O,mY K alh,mY f g,mY a_ acD U afE mq l2,mY n t cw er,mY hs aS,mY mp cY f4 f5,mY Q h2 jQ kT,mX AR (Č Zj di mT M O K alh f g a_ acD U afE mq n t cw er hs aS mp cY f4 f5 Q h2 jQ kT) fun bz kO br eE=>?_,mZ acD Q h2,aTw eE,aR6 aPL y br];have b:=YM a bz h k v f g a_ U mq l2 (fun aj d=>by rw[oQ];cases hs with|bI aj a0 _ _ b hd=>rw[pr a_,mZ a_,nf b,mZ b,nR,p2 b,pi,mW (nM AI e hd)]|lP _ b aJ=>rw[pr a_,nf b,om,nR,pq];injection aJ|D _ _ b=>rw[pr a_,nf b,om,nR,aPN]) br;exact sk (FK _ a _ 5) 99 y e e (nd MG [.K,aZ b])
def Adm(O)(cf)(o aj)(l)(w a4 dm)(j)(ab)(b:o5 (o0 aU o) ũ)(h2:aNJ aj=c (ab,dm)):oC (.aaA o aj)=c (match aew j O.aaA with|qu=>.m y|B=>ab,dm):=by rw[rc (pk ta b)];simp only[ap.eO,ED,h2,ap.ji];induction aew j O.aaA using ap.ae<;>rfl
abbrev agt(v:u):a9→R|q9 _=>(aew v T.aaA).ld 0|m7 .aO=>3|m7 .D|nP _=>7|uW|rx=>1|.mP=>2|_=>0
def JU:∀(a:aH)(h v:u)(l)(b:aOM)(cK:l.adp=Y),pG 2 13 aQG (pf (agt v l)):=by rw[mY a h v l,mY b cK,m2 (sP v l b),p0,om];induction l using a9.ae with|un i=>rw[sQ cK]|dx k=>(have aG:oD (ny n0 (.aaA (.A 1) (.bL "FAM_OTHER" nr)) [nZ,pZ,c (a9.dx k).aY,nn 1,B] a.G) (pf (agt v (q9 k))):=by rw[qm Adm v _ vO (Di ..)];unfold agt;induction aew v T.aaA using ap.ae<;>rfl);exact nd DO [p d,.K,.K,aZ aG]|aO y ac=>rw[ot DO [p d,.K,.K,.K]]|D|bI=>rw[ot DO [p d,.K,.K,.K,.K]]|bY n=>rw[ot DO [p d,.K,.K,.K,.K,.K,.K,aZ (Em a h v3),.K]]|bi k=>rw[ot DO [p d,.K,.K,.K,.K,.K,.K,aZ (Em a h ur),.K,.K]]|mP=>rw[ot DO [p d,.K,.K,.K,.K,.K,.K,aZ (Em a h .mP),.K,.K]]|jc=>rw[ot DO [p d,.K,.K,.K,.K,.K,.K,aZ (Em a h rx),.K,.K]]
abbrev aH.fH(a:aH)(f g x:c_):aH:=((a.As f).As g).As x
mutual variable(a:aH)(aS:pN)(f g x aj:c_)
include aS
def C0:(aRn).G=((tE f)++[g])++[x]:=by have Q:=Ï D_ f;rw[m2 (D_ _ g Q),mY h2];unfold aH.fH;simp only[←Cc _ x h2,←Cc _ g Q,←Ï Cc f]at⊢
def KU:n9 (aRn).G a.ad f:=by rw[aOJ,r.jP (by rw[y4]),r.jP (by rw[y4]),←Bj]at⊢;simp
def Po:n9 (aRn).G vR g:=by rw[aOJ,r.jP (by rw[y4])]at⊢;simp only[show vR=(tE f).z by rw[y4]]at⊢;simp
def GC:n9 (aRn).G aUt x:=by simp only[aOJ,show aUt=((tE f)++[g]).z by rw[y4]]at⊢;simp
def ZE:(aRn).G.b6 a.ad aj=(a.fH aj g x).G:=by rw[aOJ,aOJ,m7 r.abC (by rw[y4]),m7 r.abC (by rw[y4]),←Bj]at⊢;simp
def ZF:(aRn).G.b6 vR aj=(a.fH f aj x).G:=by rw[aOJ,aOJ,m7 r.abC (by rw[y4])]at⊢;rw[show vR=(tE f).z by rw[y4],aQp (m7 r.akf)]at⊢;simp
def KV:(aRn).G.b6 aUt aj=(a.fH f g aj).G:=by simp only[aOJ,aOJ,show aUt=((tE f)++[g]).z by rw[y4],aQp (m7 r.akf)]at⊢;simp
end
def Lu(O:mE)(cf:iV)(d j:dz)(l:du)(w:ch)(q:u)(a4 dm:ch)(y:ar)(H i aeL:nC)(Q:uw n3)(bf:pO a4 (oU aeL))(h2:aNJ j=c (y,dm))(bK:asu y=c H)(h3:pO dm rj)(h4:i.z+H.z<dv):oC (.aft d j)=c (.B,aOH (.aw (i++H))):=by rw[mX CN Q (CN h2 ?_),mX (cr (ap.au _) (show auh a4 dm q y=c (aOH (.aw (i++H)))from J' (ķ afL bf) (CN bK ?_))).ah e];unfold kC;rw[h3,mW c0 h4]
abbrev aDH:cx:=oo atG (.s _ (.s _ (.s _ (Ğ (.ag2 _ g))))) g .C
abbrev aiH(a:aH)(v:u)(fe fi:pl):du:=[nZ,pZ,sS,c (wj vR),c (wj aUt),fe,fi]
def PB(n t:o4):(fy n t).z≤2:=by rw[tm n (by(induction t using ap.ae with|B=>decide|c x=>rw[qy])) x (by induction t using ap.ae with|B=>rw[qy]|c x=>rw[qy])]
mutual variable(a:aH)(aS:pN)
include aS
def Pq(f g:c_)(y:ar)(O:mE)(cf:iV)(l:du)(b:(l[4]?).afO=c (wj aUt)):aU O cf (.adw p6) l (a.fH f g (vb y)).G=c (y,(a.fH f g m_).G):=tg (oM Lx O _ (a.fH f g (vb y)).G _ [] y (CK b) (ť GC)) (ru KV)
def Pp(f x)(i)(o){g}(b:aUO i=g):f1 (a.fH f uH x).G .gH qv (wj vR)=c qz:=by rw[tD CS,m6 ((match(a.fH f uH x).G[vR]? with|c (.bE H)=>(nK (Y&&(ar.m o).im jA) (c (kx qv H).eF))|c (u_ H)=>c (aUO H)|_=>B)=c g),ru Po,←b]
def Pr(f x)(i)(o:u)(b:i.z<10):lm (a.fH f (sp i) x).G vR qv nG=c (a.fH f (uG (aTi i o)) x).G:=by unfold lm;rw[ru Po,m6 ((nK (rH dq i<dv) nJ)=_),c0 (by unfold dq;rw[r.hN,mW (ĵ b)]),Ki,ru ZF]
def ZD(f g)(y):afk (a.fH f g m_).G (a.fH f g m_).G aUt y=c (a.fH f g (vb y)).G:=by delta afk afL kC;rw[ru GC]at⊢;exact cr c (ť KV)
end
def OF:∀(a:aH)(aS:pN)(h v b9:u)(n t:o4)(b:q' b9 vE)(f6:nq)(hs:b9∉f6)(iQ:f6.z<10)(fe fi:pl),∃anz,b4 T vX aDH (aiH a v fe fi) (a.fH m_ aOG (vb (.m b9))).G=c (na,aiH a v (nn b9) anz,(a.fH (uE aOW jO) (uG (aTi f6 b9)) m_).G):=by rw[mY a,mY aS,mY h v b9 n t,nR,mY f6,mY hs iQ,mY fe fi,y0 (c zN)];have apb:=aST Pq aOG (.m b9) T vX (aiH a v fe fi) e;have alb:=JU (a.fH m_ aOG m_) h b9 vE b e;have il:=aST Pp m_ (dq f6) b9 ((Ka ..).ah (jq hs));have au4:b1 (nc b9<0)=Y:=jq (R.mO.gS (R.ab9 _));have br:=AK (a.fH m_ (uG (aTi f6 b9)) m_) b9 vE b;have Aw:∀w,rm (eC w zN nr) 8:=fun w=>m7 Bo;have aV:=fun w=>F5 w n t;have t0:iH [] ps=c Y:=e;rw[m2 (PB n t),mY aa0];(have aim:ny vX (.aft ph (.aT sw nG)) (aiH a v (nn b9) (c zN)) (a.fH m_ (uG (aTi f6 b9)) m_).G=c (.B,(a.fH (uE aOW jO) (uG (aTi f6 b9)) m_).G):=q0 (qm Lu (a.fH _ (uG (aTi f6 b9)) m_).G (ws aOW jO) _ [] _ vO (ť KU) (qX [qa aV []]) e (ť KU) (by simp only[r.hN,r.ana,u.aac];exact aUL aa0)) (ru ZE));have lf:=aST Pr m_ f6 b9 iQ;exact pK [aZ apb,p il,qa Cz au4,aZ alb,.K,aaG lf,p br,qa Aw [],.K,qa Aw [],.K,qa Aw [],.K,qa Aw [],.K,.K,aQ1,.K,aQ1,.K,aQ1,.K,.K,aZ aim]
def Xb:∀(a:aH)(aS:pN)(h v aj:u)(a0:lr)(b:q' v (z4 Ġ))(hd:Ľ)(U:aUC),∃anz,b4 T vX aDH (aiH a v B B) (a.fH m_ (sp []) (vb oF)).G=c (na,aiH a v pZ anz,aS2 (vb (.m a0.bD))):=by rw[ug,mY aS];injections h v aj a0;rw[mY b hd U,y0 (c (a9.bI Ġ).aY)];have apb:=aST Pq (sp []) oF T vX (aiH a v B B) e;have alb:=JU (a.fH m_ (sp []) m_) h v (z4 Ġ) b e;have il:=aST Pp m_ (dq []) v (g:=Y) e;have au4:b1 (nc v<0)=Y:=jq (R.mO.gS (R.ab9 _));have lf:lm (a.fH m_ (sp []) m_).G vR oF nG=c (aS2 m_):=aST Pr m_ [] v nw;have br:=AK (a.fH m_ aRT m_) v (z4 Ġ) b;have adi:acN (aS2 m_) (.D 4)=c (aQf a.ds.z):=CW (Fm (CV (a.fH m_ aRT m_))) (by rw[m6 (ob a.l0.z=_),show a.l0.z=z5 by simp only[aH.l0,r.kZ,LO]];rfl);have jf:b1 ((nc aj+2)<(nc a.ds.z+2))=F:=hZ (R.agc (R.aa7.gS (r.gF.1 hd).1) 2);have afp:=fun V=>D5 (a.fH m_ aRT Ŭ) aj a0 hd;have Aw:rm (eC [] (a9.bI Ġ).aY nr) 9:=m7 Bo;have aax:eC [] (a9.bI Ġ).aY nG=c (aQf aj):=e;have aIw:aOa 2 14 [oW,(a9.bI Ġ).aY] (aS2 m_)=c (zj,aS2 m_):=nd R_ [ū,p adi,qa Cz jf,ū,qa afp []];have agC:=fun V=>M4 (a.fH m_ aRT Ŭ) aj a0 hd;(have aH2:gz T (aS2 (vb (.m a0.bD))) zj "bases"=c ps:=by rw[m2 (Jw (a.fH m_ aRT (vb (.m a0.bD))) aj a0 hd),m5,o6 U,mW aa]);(have aim:ny vX (.aft (.A 4) (Ĩ (õ ß sw nG) "bases")) (aiH a v pZ (c (a9.bI Ġ).aY)) (aS2 (vb (.m a0.bD)))=c (.B,aS2 (vb (.m a0.bD))):=q0 (qm Lu (a.fH m_ aRT _).G (nE _) [] [.m a0.bD] _ vO (ť GC) (qX [ū,qa afp [.m a0.bD],p aH2]) e (ť GC) (aRX (1<dv))) (ru KV));exact pK [aZ apb,p il,qa Cz au4,aZ alb,.K,aaG lf,p br,ė,.K,ė,.K,aZ aIw,.K,ė,.K,ū,qa afp [],qa agC [],aaG (aST ZD aRT (.m a0.bD)),aZ aim]
def IT(a:aH)(f):(a.As f).ad=vR:=by simp[aH.ad,aH.As,u.la]
def KL(a:aH)(aS:pN){O}{cf}{Aa}{l}{vs}(b:oD (h0 O cf Aa l a.G) vs):aVj O (.hw Aa)=c (.D a.ad,uI (oU vs)):=by simp only[C6,b,←Ï Cc _,←Bj];rfl
def OU(a:aH)(aS:pN){O}{cf}{l}:aVj O (.lK F)=c (.D a.ad,uI sj):=by rw[IA,←Ï Cc _,←Bj];rfl
def Qf{O}{cf}{x}{l}{w a4}{y}{g}(b:o5 (o0 aU x) y)(U:aTy a4):o5 (o0 adA x) g:=by unfold adA;rw[b,ap.eO,U];rfl
def Ln{w}{q}{i}(b:yp):iH w n3=c aPV:=aP2 iH b
def Xa:∀(a)(aS:pN)(h v di)(n t)(b:hn a v di n t)(g)(U:r6)(mq:Ê),∃acd,rE 3 15 aQG=c (.D a.ad,(a.fH (uE aOW jO) aUE m_).G):=by rw[ug,mY aS];injections h v di n t;rw[nR,mY g,mY U mq];have Q:=Ï D_ m_;have g1:ny vX Ņ [nZ,pZ,B,B,B,B,B] a.G=_:=KL a aS e;have gW:ny vX (.lK F) [nZ,pZ,sS,B,B,B,B] (uI m_)=_:=OU _ Q;have kI:ny vX (.hw (nA qc)) [nZ,pZ,sS,c (wj vR),B,B,B] ((a.As m_).As sj).G=_:=KL _ (nv D_ Q) (vs:=[oF]) e;rw[IT]at gW kI;rw[IT]at kI;have aeF:∀fe fi f k(V:nC),adA T vX p6 (aiH a v fe fi) (a.fH f k Ŭ).G=c (! V.dD,(a.fH f k Ŭ).G):=fun fe fi f k V=>Qf vO (Ln (ť GC));cases b with|lP f Q h2 _=>rw[U]at Q;rw[nf Q,mZ Q,mY Q];subst Q;clear U g1 gW kI aeF;(induction g using a9.ae<;>first|rw[qT mq]|rw[qT h2])|D _ _ Q=>rw[n4 (OF a aS h v v n t Q [] r.mz nw B B) anz he,mW ⟨qU,nd Mp [aZ g1,aZ gW,aZ kI,os ((Fw ..).ah ((ni (p5 DH 4095) (uF aeF [oF]) he).ah (m7 (ni Fu) (ĳ aeF))))]⟩]|bI aj a0 _ _ Q hd aH6 br=>rw[n4 (Xb a aS h v aj a0 Q hd aH6) anz he,m1 (a0.bD∉qU) (by intro bK;rw[Ų bK,Q]at br;rw[nf br,mZ br,mY br];injection br),mY dw,n4 (OF a aS h v a0.bD n t br qU dw (aRX (1<10)) pZ anz) aND auP,mW ⟨fN qU a0.bD,nd Mp [aZ g1,aZ gW,aZ kI,os ((Fw ..).ah ((ni (p5 DH 4095) (uF aeF [oF]) he).ah ((qm DH (ĳ aeF) auP).ah (m7 (ni Fu) (ĳ aeF)))))]⟩]
def UL(a:aH)(aS:pN)(f g x)(y)(aJ:y.eJ a.ad=F)(l):oD (afv a.G.z a.G (t' rO (aRn).G)) y:=by rw[m1 ((aRn).G=a.G++[f,g,x]) (by rw[aOJ]at⊢;simp),mY d,m1 (y.eJ a.G.z=F) (by rw[Bj]at⊢;exact aJ),mY ab1];rw[d]at⊢;simp only[afv,ap.eO,NA,KQ,ab1,N.aen,fU,r.aEU]
abbrev aso:ar:=nE [og "charAt",og "concat",og "includes",og "indexOf",og "length",og "slice",og "toLowerCase",og "toString",og "toUpperCase"]
def W3:∀(a)(aS:pN)(h v di)(n t)(b:hn a v di n t)(g)(U:r6)(mq:Ê),pG 4 16 aQG (qP zC):=by rw[ug,mY aS];injections h v di n t;rw[mY b,mY g,mY U mq,n4 (Xa a aS h v di n t b g U mq) acd aC,m2 (fun y l=>UL a aS (uE aOW jO) aUE m_ rK e l),mY aeD];have hg:=KU a aS (uE aOW jO) aUE m_;clear b U mq;generalize a.fH (uE aOW jO) aUE m_=z1 at aC aeD hg;have lA:=Il hg;(have cU:AY (c (a.ad,(xA).au jO)) z1.G=F:=y8 AY hg);(have abt:oG xA (sz="p"∨sz="q"):=fun j J=>by rw[nD (If n t j J) cE cu P,mZ P,cu,mZ cu lA cU hg aeD aC J,wD cE,mW qN,mW yo]);(have kD:∀xs:r (ea×u×N),(oG xs (sz="p"∨sz="q"))→∀eN,∃k4,fZ (aO4 pd (nA (ts (xL (on eq (rk acu (r_ 3 rn) (.bL "P_OPT" nG)) nr) (on lM (rq 3) (.bL "PRIMITIVE_NAMES" aso))) (nA aQA)))) 3 (c (a.ad,(xA).au jO)) (xs.au jO) (aS7 eN) z1.G=c (if xs.db (nF (nW j))then na else aQA,aS7 k4,z1.G):=tV xs xs (by intro _ eN;exact⟨eN,ni F9 _ cU⟩) j xs (by rw[mY J eN,n4 (ih (aRo J) (c (jO j))) k4 br,m2 (aUK J),mY apj,ng];obtain⟨I,L,Z⟩:=j;rw[rs Z (by rw[vi k4 ((n7 (ni HF) cU).ah ?_)];have:f0 T pd (nA (ts (xL (on eq (rk acu (r_ 3 rn) (.bL "P_OPT" nG)) nr) (on lM (rq 3) (.bL "PRIMITIVE_NAMES" aso))) (nA aQA))) (aS7 (c (jO (I,L,F)))) z1.G=c (na,aS7 (c (jO (I,L,F))),z1.G):=pK [.K,.K,.K];exact((pk (fun p=>afw p _) aa).ah (NB ..)).ah br) (by rw[vi (c (jO (I,L,Y))) ((n7 (ni HF) cU).ah ?_),m1 (f0 T pd (nA (ts (xL (on eq (rk acu (r_ 3 rn) (.bL "P_OPT" nG)) nr) (on lM (rq 3) (.bL "PRIMITIVE_NAMES" aso))) (nA aQA))) (aS7 (c (jO (I,L,Y)))) z1.G=c (aQA,aS7 (c (jO (I,L,Y))),z1.G)) (by clear br ih abt;(rw[nY apj apj,y1,m9,y1,m8])<;>(rw[m1 (I=_) d,aRp (pK [.K,.K,.K,.K,.K])])),m5,mW (pk (fun p=>afw p _) aa).ah (UN ..)])]));rw[n4 (kD xA abt B) k4 aix];have jr:=Ch T pd (on gH (rq 4) (.bL "PRIMITIVE_NAMES" aso)) 4 ph (aS7 k4) z1.G z1.G aP3 _ xA jO (nF (ar.aO Y)) vO lA cU (fun j J=>by rw[m2 (pa abt),mY apj,mZ J aix abt kD];obtain⟨I,L,Z⟩:=j;(rw[nY apj apj,y1,m9,y1,m8])<;>(rw[m1 (I=_) d,aRp (qX [.K,.K])]));have ik:=w3 GZ pd z1.G z1.G _ _ jr (CO _ (nO Y));(have aCj:(ox xA P Y).dS id=Y:=by clear jr aix kD abt cU lA aeD aC hg ik;generalize xA=i;induction i with|C=>rfl|s j i ih=>exact ih);rw[aCj]at ik;have i4:iH z1.G aP3=c (! zC):=pX Ln hg (by rw[r.isEmpty_map]);rw[m1 (zC=F→(xA).db (nF (nW j))=F) (ol (aUu r.alr.mp d)),mY iO];simp only[R'];rw[mX abH.ah (cr _ ?_) (aeD _ (aS7 k4)),mZ jr aCj kD abt cU hg aeD aS];revert aix;generalize(xA).db (nF (nW j))=f at iO⊢;generalize zC=d at iO i4⊢;rw[mY aix,rs f (by(rw[rs d (by exact pK [aZ aC,.K,os (F8 lA aix),acS i4]) (by exact pK [aZ aC,.K,os (F8 lA aix),acS i4,aOr])])) (by rw[rs d (by exact N.cs (iO e)) (by exact pK [aZ aC,.K,os (F8 lA aix)])])]
abbrev ku(a:aH):Prop:=∀(aj:u)(a0:lr),Ľ→aUC
inductive lU(a:aH)(k:u):bv→Prop|i9(g:u):zh k g→lU a k (pg k g 0 0)|iv:k=1→ã k "unknown"→lU a k (zA k)|lk:k=10→ã k "object"→lU a k (zz k)|di(n t:o4)(mp cY:u)(f:a9):qq→aSa→é→k≠10→wh→xQ→(œ u5)→lU a k (vF k)
def c1.A2:∀{a}{k}{a7}(y:tv)(Q:aQc)(h2:aTa),aWb:=by rw[mY a k a7,mY y Q h2];cases y with|i9 _ g n=>exact .i9 g n|iv d=>exact .iv e d|lk d=>exact .lk e d|D _ n t mp cY d Ab cC c4=>exact .di n t mp cY _ d e (m4 (X7 Ab)) (m4 (X8 Ab)) cC c4 (nO ⟨k,.D k n t d⟩)|bI _ aj a0 n t mp cY d Ab hd dt U cC c4=>exact .di n t _ _ _ d e (vD [k] 1 Ab) (vD [k] 10 Ab) cC c4 (fun cK=>qn (.bI k aj a0 n t d hd (cK aj a0 hd) dt))|bY _ n g s'=>exact eh e (m7 h2)|un _ i dr=>rw[qT Q]
def eI.Fd{ao}{n}{H}(b:wR n H):(H==0)=Y∧(H|||0==0)=Y:=by(have:H≠0:=by cases b with|no=>decide|abF o p i bq pt _=>rw[mZ f,p0];have dw:=qk pt.KH;have U:=pt.B_;clear pt;cases U with|C=>exact dw e|s q g i bq gJ _=>rw[m1 aPP (by rw[oz gJ l P gJ,mW gJ.BE]),mY aIO,m1 ((adr p (g::bq)).ln (aie g)=F) (by simp only[adr,u.anv,CD,r.akD,M2 g aIO,N.asB,N.ahR]),mY aS];rw[d]at aS;simp at aS);simp[aa]
def a9.DF{l:a9}(b:l.iF=F):l.acI=Y∧l.abA=Y∧l.AG=Y∧l.adp=Y∧l≠rx∧aOv:=by induction l using a9.ae<;>simp[a9.iF]at b<;>(rw[qy])
def lU.gs:∀{a}{k}{a7}(o:aWb),∃f,qq∧f.abA=Y∧f.AG=Y∧f.adp=Y∧(k=1∨é):=by rw[vj k a7,mY o];cases o with|i9 g n=>rw[oz n l d n];have:=n.ge;exact(Ht l d (oj aa) (qk aa).1 (qk aa).2 (aQ.bF aa.1))|iv b d=>exact(Ht _ d e e e Í)|lk b d=>exact(Ht _ d e e e (aQ.bF (m4 (yP (Am [k] 1 0 10 S S 1 e (AN b) (Az dO))))))|di n t mp cY f d hs Q kB=>have:=a9.DF hs;exact(Ht f d (nj aa) (oj aa) (ov aa) (aQ.bF Q))
def Fi:∀(g)(b:aPP),(g|||511==511)=F∧(511|||g==g)=Y∧(g|||0==0)=Y:=by rw[mY g b,mW (aWg ((j|||511==511)=F∧(511|||j==j)=Y∧(j|||0==0)=Y) g (DA b))]
def ie.BE{ao}{q g}(n:aNW q):aPP:=by rw[oz n l P n,mW n.BE]
def FE(n t):(n=B∧t=B∧vI=508)∨((n≠B∨t≠B)∧vI=0):=by induction n using ap.ae<;>induction t using ap.ae<;>(rw[qy])
abbrev aGe(a:aH)(k v:u):Prop:=∀f g,qq→r6→ŋ→vw≠-1
abbrev aGf(a:aH)(k v:u):Prop:=∃f g,qq∧r6∧vw=-1
abbrev aFu(a:aH)(k v:u)(a7 st:bv):Prop:=∃n t mp cY f,qq∧aSa∧a7=vF k∧wh∧xQ∧st=zz v∧(œ u5)
abbrev aFw(a:aH)(k v:u)(a7 st:bv):Prop:=∃n t mp cY cw er f4 f5 g,r6∧Ê∧wh∧xQ∧yN cw f4∧yN er f5∧(œ u5)∧(œ (hn a v di cw er))∧u4=aPL
abbrev afb(a:aH)(h k v:u)(a7 st:bv):Prop:=(aGe a k v∧pG 6 94 pM (n5 u4))∨(ŋ∧aGf a k v∧((v=10∧aFu a k v a7 st)∨(aSV∧aFw a k v a7 st)))
def AaN{k v}{f g}(b:v=1):vw=1:=by delta kJ acX;rw[c0 b];rfl
def AaO{k v}{f g}(aS:è)(hs:k=1)(U:g.AG=Y):vw=0:=by delta kJ acX;rw[cH aS,c0 hs,U];rfl
def DB{k v}{f g}(aS:è)(hs:é)(a_:f.abA=Y)(U:g.abA=Y):vw=ow v 10 (if f.acI then 0 else-1) (if g.acI then(t9 f.acI (ae4 k v f g))else if k=4∨k=5 then 0 else-1):=by delta kJ acX;rw[cH aS,cH hs,aSt,a_,U];rfl
structure aek(a:aH)(k v:u)(a7 st:bv)(f g:a9):Prop where
 ne:ŋ
 a_:qq
 U:r6
 fa:aSi
 ly:g.je=Y
 jU:mR k
 cR:mR v
 afU:f.abA=Y
 afV:g.abA=Y
 BE:g.AG=Y
 abW:f≠g
def aek.Fn{a}{k v}{a7 st}{f g}(V:aek a k v a7 st f g)(h)(y:N)(Q:vw=t9 y 1)(h2:u4=y):afb a h k v a7 st:=by refine aQ.bT ⟨fun dE bZ gj dL P=>?_,?_⟩;cases(V.a_.cq.ah gj);cases(V.U.cq.ah dL);rw[Q,mZ Q h2];induction y using N.ae<;>decide;rw[h2,mW (Č G_ f g V.ne V.a_ V.U V.fa V.ly V.jU V.cR (oE (V.abW ((od).ah (qK).cq))) y Q)]
def EE(n t):vI=508∧n=B∧t=B∨vI=0∧(n≠B∨t≠B):=by rw[nt (FE n t),mY J,Õ,ng];rintro j ab d;rw[tp (by rw[nV])];rintro b d;rw[m8,mW .bT (AE d j ab),mW .bF (sR d)]
def OS{ao}{n t}{mp cY}(Q:wR n mp)(h2:wR t cY)(b:n≠B∨t≠B):((2047|||mp==mp)&&(2047|||cY==cY))=Y:=by rw[Œ,oe,m9,oe,m8];(cases Q with|no=>exact eh e b|abF o p i bq pt=>rw[Gu _ (nv E' pt.B_.BE),N.aeu]);cases h2 with|no=>exact eh e b|abF o p i bq pt=>rw[Gu _ (nv E' pt.B_.BE),N.an3]
def H_{ao}{H}(b:wR B H):H=2047:=by cases b;rfl
def Tl:∀{a}{h k v}{a7}{f g}(V:aek a k v a7 (zA v) f g)(ks:aWb)(aS:v=1),Č afb a7 (zA v):=by rw[mY a h k v a7 f g,mY V ks aS,mX V.Fn h F (AaN aS) ?_,mZ V aS];induction ks using lU.ae with|i9 df n=>rw[m6 (gX df 0 0 511 2047 2047=F)];unfold gX;rw[(Fi df n.BE).1];rfl|iv b _=>rw[m6 (gX 511 2047 2047 511 2047 2047=F)];decide|lk=>rw[m6 (gX 0 2047 2047 511 2047 2047=F)];decide|di n t mp cY aM _ _ _ _ cC c4=>rw[m6 (gX vI mp cY 511 2047 2047=F)];unfold gX;simp only[CF mp cC.lt,CF cY c4.lt,N.aib,N.ahR,N.aib];(rw[nt (EE n t),mY J,nV,ng];rintro d _;rw[m9,mY J,nV,ng];rintro d _;rw[m8])<;>rw[d]<;>decide
def Jr:∀{a}{h k v}{st}{f g}(V:aek a k v (zA k) st f g)(adq:lU a v st)(hs:k=1)(aS:è),Č afb (zA k) st:=by rw[mY a h k v st f g,mY V adq hs aS,mX V.Fn h Y (AaO aS hs V.BE) ?_,mZ V];induction adq using lU.ae with|i9 df n=>rw[m6 (ni gX 0 0=Y)];unfold gX;rw[nj (Fi _ n.BE),N.aeu]|iv b _=>exact eh b aS|lk=>rw[m6 (gX 511 2047 2047 0 2047 2047=Y)];decide|di n t mp cY aM _ _ _ _ cC c4=>rw[m6 (gX 511 2047 2047 vI mp cY=Y)];unfold gX;(rw[nt (EE n t),mY J,nV,ng];rintro d _;rw[m9,mY J,nV,ng];rintro d _;rw[m8])<;>rw[d]<;>exact N.aeu _
def Tk:∀{a}{M}{O}{h k v df c6}{f g}(aF:qG)(V:aek a k v aV3 aV2 f g)(bN:zh k df)(pt:zh v c6),aR9 aV3 aV2:=by injections a M O h k v df c6 f g;rw[mY aF V bN pt,m1 (el aV3 aV2=(df|||c6==c6)) (N.aib _),mY aJ,mX (rW aQ.bT (fun dE bZ gj dL P=>?_) (nb aJ (I0 a M O aF h k v df c6 bN pt))),mZ aF aJ,oz bN l d n,oz pt r' a5 cw];cases(V.a_.cq.ah gj);cases(V.U.cq.ah dL);cases(V.a_.cq.ah d);cases(V.U.cq.ah a5);have Q:=n.ge;have h2:=cw.ge;rw[DB h2.1 Q.1 V.afU V.afV,cH (nj h2),ov h2,ov Q,vp,vp,Px k v f g df c6 n cw V.abW];split<;>decide
def Tj:∀{a}{h k v df}{f g}(V:aek a k v aV3 (zz v) f g)(bN:zh k df)(b:v=10),aR9 aV3 (zz v):=by rw[mY a h k v df f g,mY V bN b,oz bN l d n];cases(V.a_.cq.ah d);have Q:=n.ge;rw[mX V.Fn h Y ?_ ?_,DB (show è by rw[b];decide) Q.1 V.afU V.afV,c0 b,ov Q];rfl;rw[m6 (m7 (gX _ 0 0 0)=Y)];unfold gX;rw[nW (Fi _ bN.BE),N.aeu]
def ZX{q g}{l}(n:zS):(q=4∨q=5)↔(g=1∨g=2):=by cases n with|un|nl|st|avW|Ap=>decide|f b|g b|a b|d b=>exact avt (aOw X9) nw
def Ti:∀{a}{M}{O}{h k v df mp cY}{n t}{f g}(aF:qG)(V:aek a k v aV3 (vF v) f g)(bN:zh k df)(fG:Ê)(aa2:è)(l2:aSV)(cC:wh)(c4:xQ)(iD:œ (hn a v di n t)),aR9 aV3 (vF v):=by injections a M O h k v df mp cY;injections n t f g;rw[mY aF V bN fG aa2 l2 cC c4 iD,oz bN l d anr];cases(V.a_.cq.ah d);have Q:=anr.ge;have aeA:=aUz fG;have jw:=DB aa2 Q.1 V.afU V.afV;rw[cH l2,aeA,cH N.aoC]at jw;have asm:=ZX anr;by_cases amO:k=4∨k=5;rw[c0 amO]at jw;rw[mX V.Fn h Y jw ?_,m6 (m7 (gX _ 0 0 _)=Y)];have U:=asm.mp amO;clear asm amO jw V aF bN iD d anr Q;(rw[nt (EE n t),mY J,nV,ng];rintro d _;rw[m9,mY J,nV,ng];rintro d _;rw[m8])<;>rw[d]<;>(rw[aRD U U])<;>rfl;rw[cH amO]at jw;rw[mX aQ.bF (É (AE V.ne (Au f g V.a_ V.U jw)) (qd l2 (ni JI n t _ _ g V.U fG (.no) (.no) cC c4 (nO ⟨11,.lP k f V.a_ (ov Q) (nv aF.eX e)⟩) iD ?_))),m6 (m7 (gX _ 0 0 _)=_),m1 (¬(df=1∨df=2)) (nF (amO (asm.gS j))),mY U];have ba:=bN.BE;rw[mZ asm amO jw V aF iD d anr Q aeA fG,nt (EE n t),mY J,Õ,ng];rintro d e e;rw[m9,aO0 d dw,m8];cases H_ cC;cases H_ c4;rw[d,mW (aWg (¬(j=1∨j=2)→m7 (gX j 0 0 _)=F) _ (DA ba) U),d,OS cC c4 dw];unfold gX;rw[nW (Fi _ ba),N.aeu]
def Th:∀{a:aH}{h k v c6:u}{g:a9}(V:aek a k v (zz k) aV2 (q9 "object") g)(hs:k=10)(pt:zh v c6),aR9 (zz k) aV2:=by injections a h k v c6 g;rw[mY V hs pt,oz pt l d n];cases(V.U.cq.ah d);have Q:=n.ge;rw[mX V.Fn h Y ?_ (N.an3 _),DB Q.1 (show é by rw[hs];decide) V.afU V.afV,cH (nj Q),ov Q,vp,m6 (ae4 k v _ g=0)];unfold ae4;rw[cH (aU4 hs),cH (by rw[m6 (¬(aP7=nc v)),mW fun dO=>B4 (A5 [↑v] 1 0 b5 (-1) 0 b5 e (R.fp dO.cq) vU)]),cH (oE aOi)]
def Tg:∀{a:aH}{M:pu}{O:q5}{h k v mp cY:u}{n t:o4}{g:a9}(aF:qG)(V:aek a k v (zz k) (vF v) (q9 "object") g)(hs:k=10)(fG:Ê)(aa2:è)(l2:aSV)(cC:wh)(c4:xQ)(iD:œ (hn a v di n t)),aR9 (zz k) (vF v):=by rw[mY a M O h k v mp cY,mY n t g,mY aF V hs fG aa2 l2 cC c4 iD,m2 (DB aa2 (show é by rw[hs];decide) V.afU V.afV),mY jw];rw[cH l2,aUz fG,cH N.aoC,cH (aU4 hs)]at jw;rw[mX aQ.bF (É (AE V.ne (Au _ g V.a_ V.U jw)) (qd l2 (ni JI n t _ _ g V.U fG (.no) (.no) cC c4 (nO ⟨11,.lP k _ V.a_ e (nv aF.eX e)⟩) iD ?_))),m6 (gX 0 2047 2047 vI mp cY=_)];unfold gX;simp only[u.zero_or,aaV,N.acf];rfl
def Tf:∀{a:aH}{h k v c6 mp cY:u}{n t:o4}{f g:a9}(V:aek a k v (vF k) aV2 f g)(fG:aSa)(iP:é)(cC:wh)(pt:zh v c6),aR9 (vF k) aV2:=by rw[mY a h k v c6 mp cY,mY n t f g,mY V fG iP cC pt,oz pt l d anr];cases(V.U.cq.ah d);have Q:=anr.ge;rw[mX V.Fn h Y ?_ ?_,DB Q.1 iP V.afU V.afV,cH (nj Q),ov Q,vp,aUz fG];rfl;rw[m6 (gX vI mp cY c6 0 0=Y)];unfold gX;simp only[cC.Fd.1,cC.Fd.2,N.ags,N.aeu,N.an3]
def Te:∀{a}{h k v mp cY}{n t}{f g}(V:aek a k v (vF k) (zz v) f g)(fG:aSa)(iP:é)(cC:wh)(c4:xQ)(iD:œ u5)(b:v=10),aR9 (vF k) (zz v):=by rw[mY a h k v mp cY,mY n t f g,mY V fG iP cC c4 iD b,m2 (DB (show è by rw[b];decide) iP V.afU V.afV),mY jw];rw[c0 b,aUz fG,cH N.aoC]at jw;exact aQ.bF (AE V.ne (Au f g V.a_ V.U jw) (aQ.bT (qd b (Nf n t mp cY f V.a_ fG e cC c4 e iD))))
def Td:∀{a:aH}{M:pu}{O:q5}{h k v mp cY f4 f5:u}{n t cw er:o4}{f g:a9}(aF:qG)(V:aek a k v (vF k) (.cl v (gC cw er) f4 f5) f g)(fG:aSa)(iP:é)(cC:wh)(c4:xQ)(iD:œ u5)(agJ:Ê)(aa2:è)(l2:aSV)(agQ:yN cw f4)(agR:yN er f5)(ajK:œ (hn a v di cw er)),aR9 (vF k) (.cl v (gC cw er) f4 f5):=by rw[mY a M O h k v mp cY f4 f5,mY n t cw er f g,mY aF V fG iP cC c4 iD agJ aa2 l2 agQ agR ajK,m2 (DB aa2 iP V.afU V.afV),mY jw,mZ iP];(have aC2:¬(k=4∨k=5):=nF (by clear iD jw;have aJ:=aUz fG;rw[mZ fG,nY j j,n8,m9,n8,m8];cases((Ŀ 4).cq.ah V.a_);cases aJ;cases((Ŀ 5).cq.ah V.a_);injection aJ));rw[cH l2,aUz agJ,cH N.aoC,cH aC2]at jw;rw[mX aQ.bF (É (AE V.ne (Au f g V.a_ V.U jw)) (qd l2 (JI n t mp cY cw er f4 f5 g V.U agJ cC c4 agQ agR iD ajK ?_))),m6 (gX vI mp cY (gC cw er) f4 f5=_)];unfold gX;rw[cC.Fd.1,N.ags,mZ jw aC2 V iD ajK fG agJ aF aa2 l2,nt (EE n t),mY J,Õ,ng];rintro d e e;rw[m9,aO0 d dw,m8];cases H_ cC;cases H_ c4;rw[d,nt (EE cw er),mY J,nV,ng];rintro a5 _;rw[m9,mY J,nV,ng];rintro a5 aCO;rw[m8,a5];rfl;rw[a5,OS agQ agR aCO];rfl;simp only[d,u.zero_or,aaV,N.acf]
def ML:∀{a}{M}{O}(aF:qG)(h k v)(a7 st)(ks:aWb)(adq:lU a v st)(vs:tv)(dj:xO),afb a h k v a7 st:=by rw[vj M O,mY aF];injections h k v a7 st;rw[mY ks adq vs dj,nH cU k v,mZ adq];subst cU;cases vs.fn dj;rw[m1 (el a7 a7=F) (by clear vs dj;cases ks<;>(first|rw[Ŧ]|rw[qy]|simp[el,BA,BB,BC,gX])),m5,tD aQ.bT,tf,mW ⟨fun P P P P b=>eh e b,FG a _ k⟩,mX AF vs.gs fun f a_ fa jU=>?_,mX AF dj.gs fun g U ly cR=>?_,mZ vs dj,m1 (f≠g) (by rw[mZ ly,mY d,oQ,mW cU (Fe aF a_ U)]),mY abW,mX HD ks.gs fun dE gj afU P P P=>?_,mX HD adq.gs fun bZ dL afV ash P P=>?_];cases(a_.cq.ah gj);rw[mZ P,mZ gj];cases(U.cq.ah dL);rw[m1 (aek a k v a7 st f g) ⟨cU,a_,U,fa,ly,jU,cR,afU,afV,ash,abW⟩,mY V,mZ cU fa ly jU cR afU afV ash abW];revert V;induction adq using lU.ae with|iv aS _=>exact fun V=>Tl V ks aS|i9 c6 pt=>rw[m2 (pt.az fun l n=>(nh).ge.1),mY aS];(induction ks using lU.ae with|iv hs _=>exact fun V=>Jr V (.i9 _ pt) hs aS|i9 df bN=>exact fun V=>Tk aF V bN pt|lk hs d=>cases(a_.cq.ah d);exact fun V=>Th V hs pt|di n t mp cY aM d fG iP _ cC c4 iD=>cases(a_.cq.ah d);exact fun V=>Tf V fG iP cC pt)|lk aS akS=>rw[m1 è (aU4 aS),mY aa2];(induction ks using lU.ae with|iv hs _=>exact fun V=>Jr V (.lk aS akS) hs aa2|i9 df bN=>exact fun V=>Tj V bN aS|lk hs d=>exact fun V=>eh (hs.ah aS.cq) V.ne|di n t mp cY aM d fG iP _ cC c4 iD=>cases(a_.cq.ah d);exact fun V=>Te V fG iP cC c4 iD aS)|di cw er f4 f5 aMJ a5 agJ aa2 l2 agQ agR ajK=>cases(U.cq.ah a5);induction ks using lU.ae with|iv hs _=>exact fun V=>Jr V (ni .di _ a5 agJ aa2 l2 agQ agR ajK) hs aa2|i9 df bN=>exact fun V=>Ti aF V bN agJ aa2 l2 agQ agR ajK|lk hs d=>cases(a_.cq.ah d);exact fun V=>Tg aF V hs agJ aa2 l2 agQ agR ajK|di n t mp cY aM d fG iP _ cC c4 iD=>cases(a_.cq.ah d);exact fun V=>Td aF V fG iP cC c4 iD agJ aa2 l2 agQ agR ajK
def AcZ:∀(a)(aS:pN)(h k di)(n t)(b:u5)(f)(a_:qq)(aCl:aSa)(kB:ã 10 "object"),pG 10 23 [nQ,.m 5,pV,vl 10] (n5 (! zC)):=by rw[mY a,mY aS,mY h k di n t,nR,mY f,mY a_ aCl kB];have aC:=W3 a aS h k di n t b f a_ aCl;(have l3:pG 5 57 [nQ,pV] (n5 (! zC)):=by rw[pI he zC (by rw[he]at aC;exact nd MA [aZ aC,aZ (XO a (h+3) (.m 11)),.K]) (by rw[he]at aC;exact nd MA [aZ aC])]);have ei:pG 7 23 [nQ,.m 14,pV,Ū] (n5 (! zC)):=FK (h+6) a a 14 22 100 _ _ _ e e (nd R8 [ů]);have afq:pE a.G (.D 2) Ū=c (a9.dx "object").aY:=sP 10 _ kB;have aG5:pG 8 56 [nQ,pV,Ū,pb] (n5 (! zC)):=nd EI [ă k f a_,p afq,.K,aZ ei];exact FK (h+9) a a 5 21 99 _ _ _ e e (nd MG [.K,aZ aG5])
def ZZ(n t):(vI|||0==0)=! zC:=by rw[tm n (by(rw[tm t (by rfl) g (by kernel_rfl!)])) f (by rw[tm t (by rw[Ŧ]) g (by kernel_rfl!)])]
def ku.CE:∀{a z1}{M}{O hY}{aD}(b:yS)(l:aRt),ku z1:=by rw[mY a z1 M O hY aD,mY b l,m3 AA l,n2];rintro ao ks cc cj e _;exact b
def Aas{a z1}{M}{O hY}{aD}(b:Ù)(l:aRt):z1.gU=[]:=by rw[m3 AA l,n2];rintro ao ks cc cj e _;exact b
def lU.Xt{a}{k}{a7}(o:aWb):aQc∧a7.dh=16∧aTa:=by cases o<;>exact(AE e (by rfl) (fun q g=>rb))
def S4:∀(a)(h k v)(M)(O)(K:j' a M O 3 12)(a7 st)(ks:aWb)(adq:lU a v st)(vs:tv)(dj:xO)(cK:yS)(br:Ù)(b:((v=10∧∃n t mp cY f,qq∧aSa∧a7=vF k∧wh∧xQ∧st=zz v∧(œ u5))∨(aSV∧∃n t mp cY cw er f4 f5 g,r6∧Ê∧wh∧xQ∧yN cw f4∧yN er f5∧(œ (hn a k di n t))∧(œ (hn a v di cw er))∧u4=aPL))),afi (h+24) 37 pM u4 12 a M O:=by injections a h k v M O;intro K;injections a7 st;rw[mY ks adq vs dj cK br b,m3 HD ks.gs,mY f a_ afU aD0 aD1 _,m3 HD adq.gs,mZ adq,mY g U afV ash aKz _,mZ a_2,mZ ks,Œ,mY J];rcases J with(⟨kB,n,t,mp,cY,dE,gj,ajA,e,cC,c4,e,iD⟩);rw[m9,mY J];rcases J with(⟨kB,n,t,mp,cY,cw,er,f4,f5,bZ,dL,auK,cC,c4,agQ,agR,hs,aS,aJ⟩);rw[m8];rw[a_]at gj;rw[aRf gj gj gj gj,m3 Al (iD cK),mY di fG,mZ U dj];subst kB;have aB2:=K.aF.eX 10 _ e;rw[m2 (AcZ a K.aF.aS (h+13) k _ n t fG f a_ ajA aB2),mY ei,mX AI a O ?_ aVk,m1 (el (vF k) (zz 10)=! zC) (by rw[←ZZ];simp only[el,BA,BB,BC,gX,CF mp cC.lt,CF cY c4.lt,N.aen,N.ahR,N.aib]),mY i5,i5,mW Im _ k _ a a f _ _ a_ aD1 aB2 e (by rw[m1 ((f.AG||(a9.dx "object").AG)=Y) (sh aD0),m5,tf,mW ei])];rw[U]at dL;rw[nf dL,mZ dL,mY dL];subst dL;rw[m3 Al (hs cK),mY di fG,n4 (aS cK) mT agJ,mX AF vs.gs fun a2 ak6 fa jU=>?_,mX AF dj.gs fun dn agB ly cR=>?_];rw[a_]at ak6;rw[nf ak6,mZ ak6,mY ak6];subst ak6;rw[U]at agB;rw[aRf agB agB agB agB,mX AR (Č YN di mT M O K br f g a_ fa U ly auK kB n t cw er fG agJ mp cY f4 f5 cC c4 agQ agR) fun bz kO Q h2=>?_,aTw h2,aJ,mW Im _ k v a _ f g _ a_ aD1 U aKz (by rw[m1 ((f.AG||g.AG)=Y) (q0 aD0 ash),m5,tf,mW Q])]
open gw in
abbrev cN(a:aH)(n:u):bv:=if b:∃k,uu n then gw.choose b else qr []
def Be{a}{n}{k}(y:uu n):pF n=k:=by have b:∃k,uu n:=⟨k,y⟩;unfold cN;rw[azY b,mW (gw.choose_spec b).fn y]
def KB{a}{i:nq}{dr}(aC:i.z=dr.z)(b:∀(aq f:u)(k),p7 i f→p7 dr k→uu f):xX i.au=dr:=by rw[aPY,mY aq,r.adg];by_cases cQ:aq<i.z;have a1:p7 i i[aq]:=r.hV cQ;have a2:nX dr aq (dr[aq]'(m4 (aQM (aV6 (aVb dr.z)) (Az aC) cQ))):=Ű;simp only[a1,a2,ap.ji,Be (b aq _ _ a1 a2)];rw[rJ r.aii,r.aii (m4 (Am (aVb dr.z) ai a8 ai S S a8 e (AN aC) (x7 cQ)))];rfl
def KE{a}{i:nq}{dr:tK}(aC:i.z=dr.z)(b:∀(aq f:u)(k),p7 i f→p7 dr k→uu f){n}(ba:n∈i):sl n (pF n)∧pF n∈dr:=by rw[aPZ aq cQ (r.apA.1 ba),m1 (p7 i i[aq]) (r.hV cQ),mY a1,m1 (nX dr aq (dr[aq]'(m4 (aQM (aV6 (aVb dr.z)) (Az aC) cQ)))) Ű,mY a2];have y:=b aq _ _ a1 a2;rw[Be y,mW ⟨y,r.aij _⟩]
def PL(dr)(k)(b:k∈dr):k.An≤sx:=qb dr (by cases b) f dr (by simp only[G4,G5];rw[aSo,n8,m9,oe,m8];exact u.aJ2 ..;rw[m2 ŭ,m5,mW u.eG aa (u.aJ3 ..)])
def Qt(dr):bv.ag3 dr=(dr.au bv.dh).aaM:=qb dr (by rfl) f dr (by simp only[QZ,Q0,r.gI,r.ans,ih])
def Hi{a}{i}{dr}(b:xX i.au=dr):aeo (w5 (v4 n)) i=bv.ag3 dr:=by simp only[Qt,←b,r.aeN];rfl
def LT{a}{i:nq}{dr}(b:xX i.au=dr)(ac):(aN2 (ac (cN a n)))=dr.db ac:=by rw[←b,r.atm];rfl
def c1.CY:∀{a}{k}{a7}(y:tv)(g)(U:n9 a.ak k g),(g.adp=a7.jg)∧(g.AG=F↔∃q j,a7=.bY q j):=by rw[mY a k a7,mY y,mY g,mY U];cases y with|i9 _ df n=>rw[oz n l d n];rw[U]at d;rw[nf d,mZ d,mY d,oQ];have:=n.ge;exact⟨sh (qk aa).2,Ž (qk aa).1⟩|iv d=>rw[U]at d;rw[mZ U,nf d,aRp (wy (rA a9.AG))]|lk d=>rw[U]at d;rw[mZ U,nf d,aRp (wy (rA a9.AG))]|D _ _ _ _ _ d=>rw[U]at d;rw[mZ U,nf d,aRp (wy (rA a9.AG))]|bI _ _ _ _ _ _ _ d=>rw[U]at d;rw[mZ U,nf d,aRp (wy (rA a9.AG))]|bY _ n bZ s' d=>rw[U]at d;rw[mZ U,nf d,aRp (wy (rA a9.AG))]|un _ i dr d=>rw[U]at d;rw[mZ U,nf d,aRp (wy (rA a9.AG))]
def bv.DR(a7:bv):(aQc∧aTa)∨(∃q g,a7=.bY q g)∨(∃i,a7=r2):=by induction a7 using bv.ae with|cl=>exact aQ.bT (wy rb)|bY q g=>exact aOz aQ.bT (BN q g e)|un i=>exact É aQ.bF (qS i)
def lU.An:∀{a}{k}{a7}(o:aWb),(∃n t mp cY f,qq∧aSa∧wh∧a7=vF k)→a7.An=3∧a7.Bf=4:=by rw[vj k a7,mY o,mZ o,mY J];rcases J with(⟨n,t,mp,cY,f,_,_,cC,e⟩);(have:mp≠0:=wx cC.Fd.1);simp[Ci,Cj,Ck,Ex,Ey,Ez,aa]
def Cg(k v)(b:v.jg=Y):el k v=aVq:=by induction v using bv.ae<;>simp[bv.jg]at b<;>rfl
def GT{a}{k}{a7}(y:tv):hb a7 (zA 1)=F:=by induction y with|i9 q g n=>simp only[BA,BB,BC,gX,(Fi g n.BE).1];rfl|iv=>rfl|lk=>rfl|D q n t mp cY _ _ cC c4=>(rw[nt (FE n t),mY J,Õ,ng];rintro _ _ d;rw[m9,mY J,nV,ng];rintro _ d;rw[m8])<;>rw[d]<;>simp only[BA,BB,BC,gX,CF mp cC.lt,CF cY c4.lt,N.aib,N.ahR]<;>decide|bI q aj a0 n t mp cY _ _ _ _ _ cC c4=>(rw[nt (FE n t),mY J,Õ,ng];rintro _ _ d;rw[m9,mY J,nV,ng];rintro _ d;rw[m8])<;>rw[d]<;>simp only[BA,BB,BC,gX,CF mp cC.lt,CF cY c4.lt,N.aib,N.ahR]<;>decide|bY q n g k _ _ _ _ _ ih=>simp only[BA,BB,BC,ih,N.ahR]|un q i dr _ _ _ _ aC b _ ih=>simp only[BA,BB,BC,Is,r.hp];rw[mY k hs,aPZ aq cQ (r.apA.1 hs),mW ih aq _ _ (aUF (Am (aVb dr.z) (a8+1) S ai S (a8+1) ai e (AN aC) cQ)) (r.hV _)]
abbrev asO(o:u):Prop:=∀(a:aH)(h k v:u)(a7 st:bv)(M:pu)(O:q5),a7.An<o→tv→xO→st.jg=Y→yS→Ù→j' a M O aQz a7.dh→af8 (v6 40) 94 pM u4 a7.dh a M O
def P8:∀(a)(h k v)(a7 st)(M)(O)(iN:asO a7.An)(aF:qG)(vs:tv)(dj:xO)(cK:st.jg=Y)(un:yS)(br:Ù)(cU:ŋ)(f g)(a_:qq)(U:r6)(aa1:vw=-1)(K:∀H,H<aQz→j' a M O H qZ),afi (v6 37) 37 pM u4 qZ a M O:=by injections a h k v a7 st M O;intro iN aF vs dj cK un br cU;injections f g;intro a_ U aa1 K;have mK:=vs.CY f a_;have afA:=dj.CY g U;rw[cK]at afA;rcases a7.DR with⟨Q,h2⟩|⟨q,bh,e⟩|⟨dr,e⟩;clear iN;have ks:=vs.A2 Q h2;have kE:=nj ks.Xt;rw[m1 (f.AG=Y) (by induction ba:f.AG using N.ae with|Y=>rfl|F=>rw[ĥ (nj mK ba) q j d,mW eh d (h2 q j)]),mY acB];rcases st.DR with⟨jQ,kT⟩|⟨aq,aee,e⟩|⟨lt,e⟩;clear cK afA;have adq:=dj.A2 jQ kT;rw[mZ jQ kT,nt (nM (ML aF 0 k v) ks adq vs dj),mY J,nV,ng];rintro b _;rw[m9,mY J,Õ,ng];rintro _ _ b;rw[m8,mW eh aa1 (b f g a_ U cU)];(have h3:3<aQz:=by rw[mZ dj K,Œ,mY J];rcases J with(⟨_,n,t,mp,cY,dE,gj,ajA,d,cC,c4,_⟩);rw[m9,mY J];rcases J with(⟨_,n,t,mp,cY,cw,er,f4,f5,bZ,dL,auK,cC,c4,agQ,agR,_,_,_⟩);rw[m8,m2 (ks.An (Ne n t _ _ _ gj ajA cC d)),m5];simp only[bv.ha];rw[mW Ag [a7.An,st.Bf] (3+1) (ĸ+ai) (qQ 2 3) ĸ e (AM 2 (AN aa.1)),mZ adx,m1 (st.Bf=4) (by cases adq with|i9 _ pt=>rw[oz pt l d pt];rw[dL]at d;rw[nf d,oA,mY d,oQ,m2 (ov pt.ge),m5,o6 (aUz auK),wN aa]|iv=>rfl|lk=>rfl|di n t mp cY f cC c4 h4 h5 H h6 aC7=>rw[m2 H.Fd.1,m5];simp only[Ex,Ey,Ez];rw[m1 (mp≠0) (o7 aa),mY dw,cH dw]),m5];simp only[bv.ha];exact Ag [st.Bf,a7.An] (3+1) (xq 2+S) 4 S e (AN aa));have hg:=K 3 h3;rw[kE]at hg⊢;rw[mX AR (S4 a (v6 13) k v M O (rJ (hg.CE (hj.fI hg.aF 0) yk)) a7 st ks adq vs dj un br b) fun bz kO aV bj=>?_,mW (nM AI aV (rJ bj.bx)),mZ vs ks kE,m2 (nW afA (BN aq _ e)),mY arw,m2 (K 0 (by simp[bv.ha,Ex,Ey,Ez])),mY hg,mZ K,mX AI a O ?_ (aWt hg.aF),mZ hg,m1 (el a7 (.bY aq aee)=Y) (by clear mK;induction a7 using bv.ae with|cl=>rfl|bY q j=>exact eh e (h2 q j)|un i=>rw[qT Q]),mY i5,i5,mW Im _ k v a a f g _ a_ (tg mK.1 Q) U (y7 afA.1) (by rw[arw,N.ahR,vp,mW ZH _ k _ f a a_ acB]),mW (yW cK),mZ mK,mZ aa1];(cases vs with|bY _ n bZ _ d Ab afy aav aef=>rw[â,nf d,oA,mY d,oQ,m2 (K (m7 bv.ha) (aUk bv.ha Ci Cj Ck (AJ [bh.An,st.Bf] (ĸ+ai+1) (vc 2+ai) e))),mY hg,mZ K];(have kE:(bv.bY k bh).dh-1=bh.dh:=uJ);rw[kE]at hg⊢;rw[s3 (iN a nB bZ v bh st M O (by simp[Ci,Cj,Ck]) aef dj cK un br hg) bz kO Q h2 P,mZ P,m1 (el (z9 k) st=el bh st) (by rw[mZ U afA hg Q,nv Cg cK,nv Cg cK];induction st using bv.ae with|cl=>rfl|un i=>rw[qT cK]|bY aq j=>clear cK;cases dj;simp only[BA,BB,BC];rw[m1 ((k==v)=Y) (o7 cU),m5,aa,N.ags]),mY i5,i5,aTw h2,m1 ((bv.bY k _).An=aUg) uJ,mY g_,g_,rh (va aUg+37) ((aQq 43)+2) (BI [bh.An,h] (ai+(vc 8)+37) (rg ai 8+43+2) e),mX (p5 (Im _ k v a) g a_ e U (y7 afA.1) ?_),ţ (((a9.bY n).AG||g.AG)=F),vp,aU0 (aQq 43+1) ((aQq 40)+4),mX (sk (Pu _ k v n) a a_ afy aav ?_),rh (aQq 40+1) (nB+8*bh.An+40) (BI [bh.An,h] (rg ai 8+40+1) (rg nN 8+40) e),mW Q]);rw[mZ aa1,mZ cU];cases vs with|un _ i _ d Ab dw aC jt aJ agH=>rw[â,mZ mK,nf d,oA,mY d,oQ];have hg:=K (bv.ha (qr dr) st-1) (aUk bv.ha Ci Cj Ck (Ag [2*(vo+1)+st.Bf-1,vo,st.Bf] nm (x3 2+a8) nm (x3 2+a8) e (q3 Az (AJ [2*(sx+1)+st.Bf-1,vo,st.Bf] 1 (x3 2+a8) e))));have afF:=KB jt aJ;(have kE:(bv.un dr).dh-1=bv.ag3 dr:=uJ);simp only[kE]at hg⊢;(have g_:(bv.un dr).An=sx+1:=uJ);refine AR (J1 (va sx+42) k v M O a hg.aF i a_ (vD [k] 2 Ab) (w5 (el (pF n) st)) (w5 (v4 n)) (by rw[mY n ba z1 hY aD eE mo,ou (KE jt aJ ba) awS bK];rw[Hi afF]at mo;have b7:=eE.le;have ali:=PL dr _ bK;rw[m2 (nI (hg.CE eE) m' (m7 bv.ha) c' (v4 n) (by dsimp only[bv.ha,g_];exact Am [vo,sd n,st.Bf,2*(vo+1)+st.Bf-1] (xq 2+a8) eK (xq 2) ĸ (vc 2+a8) (eK+1) e (AM 2 ali) (q3 AN (AJ [vo,sd n,st.Bf,2*(sx+1)+st.Bf-1] 1 (vc 2+a8) e))) mo),mY ain,m2 (p5 (iN _ (va aQ8+3) n v) M (wT g_) (awS.bx b7) aUH cK (un.CE eE) (Aas br eE) ain),m5,rh (va vo+42+1) (va (vo-sd n)+3+8*sd n+40) (y_ (Ag [vo,sd n,h,vo-sd n] (rg a8 8+42+1) (ro (sn a8 8 eK+3) 8+40) (su 8) (tz 8 (eK+ai)) e (AM 8 (q3 AN (Ag [vo,sd n,h,aQ8] ai S ai S e ali)))) (Ag [vo,sd n,h,vo-sd n] (ro (sn a8 8 eK+3) 8+40) (rg a8 8+42+1) (tz 8 (eK+ai)) (su 8) e (AM 8 (q3 Az (Ag [vo,sd n,h,aQ8] ai S ai S e ali))))),mW aa])) fun bz kO Q h2=>?_;simp only[Hi afF]at h2;rw[m1 ((aN2 (m7 el))=el (qr _) _) (by rw[LT afF (fun k=>el k _),nv Cg cK];simp only[BA,BB,BC,Is];rw[uh];funext k;exact Cg k _ cK),mY i5];rw[i5]at Q;rw[aTw h2,g_,rh (va (vo+1)+37) ((va vo+42+2)+1) (BI [vo,h] (ai+(vc 8)+37) (rg ai 8+42+2+1) e),mW Lf _ k v a _ i g _ a_ U Q]
def bv.Ix(k:bv):1≤k.dh:=by induction k using bv.ae<;>simp[EA,EB,EC]
def Zi:∀{a}{k v}{a7 st}(vs:tv)(dj:xO)(f g)(a_:qq)(U:r6)(cU:ŋ)(cK:st.jg=Y)(hc:¬(aQc∧aTa)∨¬(∀q g,st≠.bY q g)),vw=-1∨(v=1∧el a7 st=F∧vw=1):=by injections a k v a7 st;intro vs dj;injections f g;rw[mY a_ U cU cK hc,m2 (vs.CY f a_),mY mK];have afA:=dj.CY g U;rw[nH aS v 1,mZ cK hc afA];right;clear U cU;subst aS;rw[mX AE e ?_ uJ,m1 (st=zA 1) (by cases dj with|i9 _ df n=>rw[p4 n,mZ n,mY l _ n,mW eh e n.ge.1]|iv=>rfl|D _ _ _ _ _ _ b=>omega|bI _ _ _ _ _ _ _ _ b=>rw[aRk]|bY _ _ _ _ _ b=>rw[aRk]|un _ _ _ _ b=>rw[aRk]),m5,mZ dj,uM,nv Cg e,mW GT vs,mZ dj];left;rw[nH hs k 1,mZ mK,mZ a_ cU];subst hs;rw[m1 (a7=zA 1) (by clear hc;cases vs with|i9 _ df n=>rw[p4 n,mZ n,mY l _ n,mW eh e n.ge.1]|iv=>rfl|D _ _ _ _ _ _ b=>omega|bI _ _ _ _ _ _ _ _ b=>rw[aRk]|bY _ _ _ _ _ b=>rw[aRk]|un _ _ _ _ b=>rw[aRk]),mY aJc,mZ vs];subst aJc;(have arw:g.AG=F:=by rw[nY hc hc,oe,m9,oe,m8,mW eh (wy rb) b];induction st using bv.ae with|bY q j=>exact nW afA (BN q j e)|cl=>exact eh rb b|un=>rw[qT cK]);rw[m1 (g.abA=F) (by clear U afA;induction g using a9.ae<;>simp[a9.AG]at arw<;>rfl),mY arv];simp[kJ,acX,aS,arw,arv];clear vs;apply Ik k v f g hs aS;rw[nY hc hc,oe,m9,oe,m8,m1 (f.adp=F∨f.AG=F) (by induction a7 using bv.ae with|cl=>exact eh (wy rb) b|bY q j=>exact aOz (nW mK) (BN q j e)|un i=>left;rw[mK.1];rfl),m5];(rw[nY aa aa,oe,m9,oe,m8])<;>(clear a_ mK;induction f using a9.ae)<;>simp[a9.adp,a9.AG]at b<;>rfl;induction st using bv.ae with|bY q j=>rw[m2 (nW afA (BN q j e)),nR,mZ U afA];induction g using a9.ae<;>simp[a9.AG]at b;exact N.anq.2 yo|cl=>exact eh rb b|un=>rw[qT cK]
def I1:∀{a:aH}{M:pu}{O:q5}(aF:qG)(h k v:u)(a7 st:bv)(vs:tv)(dj:xO)(cK:st.jg=Y),(∃f g,qq∧r6∧(k=v∨vw≠-1)∧pG 6 94 pM (n5 u4))∨(ŋ∧∃f g,qq∧r6∧vw=-1):=by rw[vj M O,mY aF];injections h k v a7 st;rw[mY vs dj cK,mX AF vs.gs fun f a_ fa jU=>?_,mX AF dj.gs fun g U ly cR=>?_,nH cU k v];left;clear cR;subst cU;rw[mX Bx f g a_ U aQb ?_,m1 (el a7 st=F) (by rw[vs.fn dj];rcases st.DR with⟨Q,h2⟩|⟨q,j,e⟩|⟨i,e⟩;clear cK;cases dj.A2 Q h2<;>(first|rw[Ŧ]|rw[qy]|simp[el,BA,BB,BC,gX]);simp[el,BA,BB,BC];exact yW cK),m5,tf,mW FG a _ k];by_cases hc:(aQc∧aTa)∧(∀q g,st≠.bY q g);rw[nt (ML aF h k v _ _ (vs.A2 hc.1.1 hc.1.2) (dj.A2 cK hc.2) vs dj),mY J,nV,ng];rintro Q h2;rw[m9,mY J,Õ,ng];rintro _;rw[mY J,vW,ng];rintro dE bZ gj dL h3;rintro _;rw[m8,mW aQ.bT (Bx f g a_ U (aQ.bF (Q f g a_ U cU)) h2),mW aQ.bF (qd cU (Au _ _ gj dL h3)),m1 (¬(aQc∧aTa)∨¬(∀q g,st≠.bY q g)) (by rw[nt (gw.em (aQc∧aTa)),oe,m9,oe,m8,mW aQ.bF fun h'=>rW hc b h',mW Í]),mY agD,nt (Zi vs dj f g a_ U cU cK agD),oe,m9,mY J,Õ,ng];rintro _ Q h2;rw[m8,mW aQ.bF (qd cU (Au f g a_ U b))];left;rw[mX Bx f g a_ U (aQ.bF (aU4 h2)) ?_,Q,mX (Č G_ f g cU a_ U fa ly jU cR ?_ _ h2),mZ fa ly h2,mY J,nV,ng,oc e,mW cU (Fe aF a_ U)]
def RB(o:u):asO o:=by induction o with|hf=>rw[mY a h k v a7 st M O b,mW BZ (Ag [a7.An] 1 0 nm 0 e b)]|gk o ih=>rw[mY a h k v a7 st M O aG vs dj cK un br K,m1 (asO _) (fun z' aiM s' iu awv asy fA kt b=>qm ih (m4 (aV7 (aWc [a7.An,o,awv.An]) aG b))),mY iN,nt (I1 K.aF (v6 34) k v _ _ vs dj cK),mY J,ri BV,ng];rintro f g _ _ _ b;rw[m9,mY J];rcases J with(⟨cU,f,g,a_,U,aa1⟩);rw[m8,mW Au a O b aVk rp,m2 a7.Ix,mY ei];(have d:a7.dh=qZ+1:=m4 (Br _ S nN _ nN e (rz (s7 (Ag [a7.dh,qZ] 1 S 1 S e ei)))));have b7:ô uz:=tW;have:=G9 a (v6 34) k v qZ M O a7 st (uq d K) vs dj f g cU a_ U aa1 (fun cu ψ=>P8 uz h k v a7 st M yz iN (K.aF.AL _ cu) aUG aUH cK un br cU f g a_ U aa1 (fun H bK=>K.AL vs dj e bK (m4 (Ag [a7.dh,qZ] (ai+1) S nN S e (AN d))) cu));simp only[←d]at aa;exact aa
structure hy(a z':aH)(x:u):Prop where
 bs:z'.bs=a.bs
 xs:z'.xs=a.xs
 ds:z'.ds=a.ds
 dK:z'.dK=a.dK
 iL:z'.iL=a.iL
 bw:z'.bw=a.bw
 gU:z'.gU=a.gU
 e5:z'.e5=a.e5
 abj:z'.abj=a.abj
 fQ:z'.fQ=a.fQ
 lZ:z'.lZ=a.lZ
 cc:z'.c2≤a.c2+x
 gT:z'.ak.z≤a.ak.z+4*x
 ak:aRK a.ak z'.ak
 ca:∀(aq:u)(p:c_),xj≠a.Ap→p7 a.ca p→p7 z'.ca p∧xj≠z'.Ap
def hy.fI(a)(x):hy a a x:=⟨e,e,e,e,e,e,e,e,e,e,e,m4 (A4 [a.c2,↑x] b5 zB 0 d4 e vU),n_,fun ψ ψ b=>b,fun ψ ψ b h'=>sR h'⟩
def hy.ah{f g x}{H h}(b:hy f g H)(o:hy g x h):hy f x (H+h):=⟨o.bs.ah b.bs,o.xs.ah b.xs,o.ds.ah b.ds,o.dK.ah b.dK,o.iL.ah b.iL,o.bw.ah b.bw,o.gU.ah b.gU,o.e5.ah b.e5,o.abj.ah b.abj,o.fQ.ah b.fQ,o.lZ.ah b.lZ,by rw[m2 b.cc,m5,m2 o.cc,m5,mW X_ aUe aa],by rw[m2 b.gT,m5,m2 o.gT,m5,mW X' aUe aa],fun q l d=>o.ak q l (b.ak q l d),fun aq p d a5=>by rw[ou (b.ca aq p d a5) aV bj,mW o.ca aq p bj aV]⟩
def hy.bx{f g}{H h}(b:hy f g H)(o:H≤h):hy f g h:={b with cc:=q8 b.cc (A5 [↑H,↑h,g.c2,f.c2] gY (acq+d4) b5 d4 gY (acq+b5) e (Bb o) aa),gT:=q8 b.gT (Am [H,h,g.ak.z,f.ak.z] a8 (ro eK 4) (su 4) (xq 4) a8 (rg eK 4) e (AM 4 o) aa)}
def hy.le{a z'}{x}(b:aNT x):yx:=⟨b.ak,fun aj a0 d=>(Ad a0 (nb b.ds d) e),fun n g d=>by unfold abR at*;rw[b.dK,mW d]⟩
def dI.Fj{a}{M}(aF:Ĳ)(o):dI (j4.AL a [] o) M ua:=aF.AL o r.mz
def j'.Fj{a:aH}{M:pu}{m' c' k v:u}{a7 st:bv}(aF:Ĳ)(vs:tv)(dj:xO)(ajE:m'<aQz)(aC:a.c2+c'+1<20000)(br:aSW (4*c'))(hd:a.e5+1+m'<60)(hc:c'<3980):j' (j4.AL a [] o1) M [o1] m' c':={aF:=aF.Fj _,ne:=rb,aji:=by have b7:ô (j4.AL a [] o1):=tW;rw[mY o aG,Ų aG,mW aQ.bF (rJ (Au a7 st aUG aUH))],cc:=yh (vQ+nc c'<20000) (oa A4 [a.c2,↑c'] (vk+d4) 20000 (zB+1) 20000 e aC),rw:=br,eo:=hd,ig:=hc}
def dI.BP:∀{a:aH}{M fA:pu}{O:q5}(aF:qG)(aG:∀(f g:u)(y:N),((f,g),y)∈fA→∃sa bh,ty f sa∧ty g bh∧y=el sa bh)(hs:ob fA.z≤a.c2),dI ({a with ey:=[],fO:=iR fA}:aH).BP fA []:=by rw[mY a M fA O,mY aF aG hs,mW (have b7:fR a ({a with ey:=[],fO:=iR fA}:aH).BP:=tW;{kh:=aF.kh,eX:=aF.eX,cO:=aF.cO,aS:=by dsimp only[aH.BP];split<;>simp,eM:=e,ey:=e,jX:=r.ahO,fO:=e,ks:=fun f g y d=>by rw[s3 (aG f g y d) sa bh gd fJ cV,mW Au sa bh aSx aSy cV],jW:=aSd r.ana u.aac hs})]
def Op:∀(a:aH)(h k v x:u)(M:pu)(aF:Ĳ)(a7 st:bv)(vs:tv)(dj:xO)(aC:a.c2+x+1<20000)(hc:x<3980)(hd:a.e5<60)(adm:hA o1 M=B→afi nB 37 pM u4 x ĺ M [o1]),∃z' fA,qf (rE 2 27 pM) (n5 u4)∧dI z' fA []∧hy a z' (x+1)∧aPk∧(hA o1 fA).eF=F:=by injections a h k v x M;intro aF;injections a7 st;intro vs dj aC hc hd adm;induction aG:hA o1 M using ap.ae with|c y=>rw[s3 (aF.ks k v y (n7 Kp aG)) sa bh gd fJ d];simp only[gd.fn vs,fJ.fn dj]at d;rw[oQ,mW BU a M (Ko a nB k v M aF.fO _ aG) aF aVA (fun ψ b=>b) (by rw[aG]at⊢;rfl)]|B=>obtain⟨bz,kO,br,ao,ks,cc,cj,e,e,gi,eE,aiA,kg,js,fT⟩:=adm aG;rw[mZ adm,m1 (ô ĺ) tW,mY ad4];have b7:=ad4.ah (KO ĺ ao ([o1]++ks) cc cj eE);clear ad4;simp only[r.aK0]at gi br b7 aiA;have aiz:=gi.jW;have hlo:(aRL ĺ wu).c2=vQ+cc:=e;simp only[hlo]at aiz;clear hlo;have g_:=Č Oo M [] ks aF aG r.mz (m4 (oa A5 [a.c2,↑x] b5 20000 (zB+1) 20000 0 d4 e aC vU)) hd ao cc cj u4 (m4 (Bu [x,ks.z,cc] (ai+1) 3990 nm 3980 ai a8 a8 S e hc kg js)) gi.jX (m4 (oa A5 [a.c2,↑x,↑cc] (b5+gY) 900000 (zB+1) 20000 gY d4 e aC (Bb js))) (by simp only[r.avT]at⊢;exact A4 [a.c2,↑cc,↑(wu).z,↑M.z] aQ7 (zB+1) aQ7 (vk+d4) e aiz) br;clear aG br;have mL:fR (aRL ĺ wu) (aPK wu):=tW;(have ape:ao.z≤a.ak.z+4*(x+1):=by rw[m1 ((ĺ).ak.z=a.ak.z) e,m5,mW (yv Am [x,ao.z,(ĺ).ak.z,a.ak.z] (eK+(vc 4)) (rg a8 4) a8 eK e fT (Az aa))]);rw[mZ fT,pI aJ u4 (by rw[y2 g_];simp only[ahu,fU]at g_;have aaW:dI (aPK wu) M wu:=u7 gi.le aF.aS e e gi.jX e (yh (_≤a.c2+aQj) (A4 [a.c2,↑cc,↑(wu).z,↑M.z] aQ7 (aO5 d4) aQ7 (vk+d4) e aiz));rw[m2 (Wy wu M),mZ kg,mY kg,mX BU _ (abw wu M) g_ (aaW.BP ?_ ?_) ?_ (fun o b=>n7 Om Í) (n7 Om (aQ.bF tG)),mY f g y d,nt (n7 Wz d)];(rw[oe]);rw[tp (by rw[nV])];(rintro b h');rw[m8,mW aaW.ks f g y b,mZ d];simp only at b h';subst h';rw[aSo];(rw[oe]);rw[m9];(rw[oe]);rw[m8];cases b;rw[mW Au a7 st ((vs.bx b7).bx mL) ((dj.bx b7).bx mL) aJ.cq,m3 At ((aiA _ b).bx mL),mY sa bh gd fJ d,mW Au sa bh gd fJ d.cq,m6 (_≤a.c2+aQj),mW A5 [a.c2,↑cc,↑(wu).z,↑M.z,↑(abw wu M).z] aqD (aO5 d4) aQ7 (vk+d4) aqD (acq+gY) e aiz (Bb kg),mX ⟨e,e,e,e,e,e,e,e,e,e,e,?_,ape,eE,?_⟩,m6 (a.c2+aQj≤_),mW A4 [a.c2,↑x,↑cc] (aO5 gY) (aO5 d4) gY d4 e (Bb js),mY aq p cQ ho];(rw[u8 ao0 ho]);rw[mX ⟨?_,?_⟩,m6 (p7 ((ow a.Ap 0 a.ca (a.ca.b6 ğ _))++[_]) p)];split;rw[r.jP ao0]at⊢;exact ho;rw[r.jP (by simp only[r.apv]at⊢;exact ao0),r.agx (m4 (Ya cQ (by assumption)))]at⊢;rw[mW ho,m6 (xj≠a.ca.z+1),mW (yP (Am [aq,a.ca.z] 1 0 nm ai nN nm e ao0 (AN dO)))]) (by rw[mZ aiA aiz mL,y2 g_];simp only[ahu,fU,N.aev,abv]at g_;rw[m2 (Kq o1 Y M),mZ kg,mY kg];have amV:fR (aRL ĺ wu) ({fb a ao [] (cc+1) cj with fO:=iR (mw o1 Y M)}:aH):=tW;rw[mX BU _ (mw o1 Y M) g_ ?_ ?_ ?_ ?_,mZ eE g_,mW {kh:=e,eX:=gi.eX,cO:=gi.cO,aS:=aF.aS,eM:=e,ey:=e,jX:=r.ahO,fO:=e,ks:=fun f g y d=>by rw[mZ kg,nt (uF Or d),oe,m9,oe,m8,m3 At (gi.ks f g y b),mZ d,mY sa bh gd fJ d,mW Au sa bh (gd.bx amV) (fJ.bx amV) d,mZ gi,oA,uT b,mZ b,mY b L,uT b,mZ b,mY b L,pq,qD,qD,mW Au a7 st ((vs.bx b7).bx amV) ((dj.bx b7).bx amV) aJ.cq],jW:=by rw[m2 aF.jW,m5];simp only[r.ana,u.aac]at aa⊢;rw[m6 (_≤a.c2+aQj),mW Yb kg aa]},mX ⟨e,e,e,e,e,e,e,e,e,e,e,?_,ape,eE,fun aq p cQ ho=>⟨ho,cQ⟩⟩,m6 (a.c2+aQj≤_),mW A4 [a.c2,↑x,↑cc] (aO5 gY) (aO5 d4) gY d4 e (Bb js),mY o b];rw[H2]at⊢;split;rfl;exact b;rw[H2,vp]at⊢;rfl)]
abbrev abg(a:aH)(M:pu)(k v:u):Prop:=∃f g,qq∧r6∧(k=v∨vw≠-1∨(hA o1 M).eF=F)
def RF:∀(a:aH)(h k v:u)(M:pu)(aF:Ĳ)(a7 st:bv)(vs:tv)(dj:xO)(cK:st.jg=Y)(un:yS)(br:Ù)(aC:aQK a7.dh)(kX:aSW (4*a7.dh))(hd:a.e5+aQz<60)(ei:a7.dh<3980),∃z' fA,qf (aQd (v6 40) 94 pM) (n5 u4)∧dI z' fA []∧aNT a7.dh∧aPk∧abg z' fA k v:=by injections a h k v M;intro aF;injections a7 st;intro vs dj cK un br aC kX hd ei;have aeI:=a7.Ix;rw[nt (I1 aF (v6 34) k v a7 st vs dj cK),mY J,ri BV,ng];rintro f g a_ U h' b;rw[m9,mY J];rcases J with(⟨cU,f,g,a_,U,aa1⟩);rw[m8,mW ⟨a,M,b,aF,aVA,fun ψ b=>b,f,g,a_,U,by rw[nY h' h'];rintro h';rw[m9];rintro h';rw[m8,mW aQ.bT h',mW (aOo aQ.bF h')]⟩,mX AF vs.gs fun dE gj fa jU=>?_,mX AF dj.gs fun bZ dL ly cR=>?_];rw[a_]at gj;rw[U]at dL;rw[nf gj,mZ gj,mY gj];subst gj;rw[nf dL,mZ dL,mY dL];subst dL;have b7:ô ĺ:=tW;rw[mX Dr (Op a (v6 36) k v qZ M aF a7 st vs dj (m4 (Ia aC aeI)) (m4 (ç (aNX a7.dh qZ 3980) 3980 ei (q3 Az (Ag [a7.dh,qZ] 1 S 1 S e aeI)))) (m4 (oa A5 [a.e5,↑(a7.ha _)] b5 60 zB 60 0 d4 e hd vU)) (p' (P8 ĺ h k v a7 st M [o1] (RB _) (aF.Fj _) aUG aUH cK un br cU f g a_ U aa1 (fun H bK=>j'.Fj (c':=qZ) aF vs dj bK (m4 (Ia aC aeI)) (m4 (oa Am (aR0 a7.dh qZ) (sn S 4 a8) 900000 (ro S 4) 900000 (tz 4 pR) (xq 4) e kX (AM 4 (q3 Az (Ag (aR0 a7.dh qZ) 1 ai 1 ai e aeI))))) (m4 (O' hd bK)) (m4 (ç (aNX a7.dh qZ 3980) 3980 ei (q3 Az (Ag [a7.dh,qZ] 1 S 1 S e aeI)))))))) fun z' fA Q h2 h3 h4 h5=>?_,m1 (¬(f=rx∧g=rx)) (by rw[mZ aa1 fa ly,mY J,nV,ng,oc e,mW cU (Fe aF a_ U)]),mY dw,mX ⟨z',fA,G8 a _ _ k v f g cU a_ U fa ly jU cR dw _ aa1 Q,h2,h3.bx (m4 (Ag [a7.dh,qZ] (ai+1) S nN S e (q3 Az (Ag [a7.dh,qZ] 1 S 1 S e aeI)))),h4,f,g,nv h3.ak a_,nv h3.ak U,É aQ.bF h5⟩]
def abg.ak{a z'}{M}{k v}(b:abg a M k v)(br:yU q l (op a.ak l→op z'.ak l)):abg z' M k v:=by rw[mX At b fun f g a_ U b=>?_,mW Au f g (nv br a_) (nv br U) b]
def FY:∀{a}{M}{O}(aF:qG)(h k v)(a7 st)(vs:tv)(dj:xO)(cK:st.jg=Y)(hd:abg a M k v),pG 6 94 pM (n5 u4):=by rw[vj M O,mY aF];injections h k v a7 st;rw[mY vs dj cK hd,mX At hd fun f g a_ U hd=>?_,nt (I1 aF h k v _ _ vs dj cK),mY J,ri BV,ng];rintro _ _ _ _ _ b;rw[m9,mY J];rcases J with(⟨cU,dE,bZ,gj,dL,aa1⟩);rw[m8,mW b];rw[a_]at gj;rw[U]at dL;rw[nf gj,mZ gj,mY gj];subst gj;rw[nf dL,mZ dL,mY dL];subst dL;rcases hd with b|b|b;rw[mW eh b cU,mW eh aa1 b,n4 (ap.als.1 b) y aJ,s3 (aF.ks k v y (n7 Kp aJ)) sa bh gd fJ d];simp only[gd.fn vs,fJ.fn dj]at d;rw[oQ,mX AF vs.gs fun dE gj fa jU=>?_,mX AF dj.gs fun bZ dL ly cR=>?_];rw[a_]at gj;rw[U]at dL;rw[nf gj,mZ gj,mY gj];subst gj;rw[nf dL,mZ dL,mY dL];subst dL;rw[m1 (¬(f=rx∧g=rx)) (by rw[mZ aa1 fa ly,mY J,nV,ng,oc e,mW cU (Fe aF a_ U)]),mY dw,mW G8 a a h k v f g cU a_ U fa ly jU cR dw _ aa1 (Ko a _ k v M aF.fO _ aJ)]
inductive acp(a:aH)(M:pu)(H:nq):aR2|gB:ã 1 "unknown"→acp a M H 1|cl(k:u)(f:a9):qq→f.adp=Y→f.AG=Y→é→(∀t∈H,abg a M k t)→acp a M H k|bY(k n g:u):q' k v3→abR a n=c g→(∀t∈H,abg a M k t)→acp a M H g→acp a M H k|un(k:u)(i:nq):q' k r2→(∀n∈i,acp a M H n)→acp a M H k
def acp.bx{a z'}{M}{H}{k}(b:acp a M H k)(b7:yx):acp z' M H k:=by induction b with|gB d=>exact .gB (tj b7.ak)|cl k f d Q h2 h3 h4=>exact .cl k f (tj b7.ak) Q h2 h3 (fun t cG=>(h4 t cG).ak b7.ak)|bY k n g d Q h2 _ ih=>exact .bY k n g (tj b7.ak) (nv b7.Cm Q) (fun t cG=>(h2 t cG).ak b7.ak) ih|un k i d _ ih=>exact .un k i (tj b7.ak) ih
def c1.gB:∀{a}{a7}(vs:ty 1 a7),a7=zA 1:=by rw[mY a a7,mY vs];cases vs with|i9 _ df n=>rw[p4 n,mZ n,mY l _ n,mW eh e n.ge.1]|iv=>rfl|D _ _ _ _ _ _ b=>omega|bI _ _ _ _ _ _ _ _ b=>rw[aRk]|bY _ _ _ _ _ b=>rw[aRk]|un _ _ _ _ b=>rw[aRk]
def Fs:∀{a}{k}{a7}(y:tv)(b:aQc),hb a7 a7=F:=by rw[vj k a7,mY y b];rcases a7.DR with⟨Q,h2⟩|⟨q,j,e⟩|⟨i,e⟩;rw[om];cases y.A2 Q h2<;>(first|rw[Ŧ]|rw[qy]|simp[BA,BB,BC,gX]);simp[BA,BB,BC];exact N.cs b
def AcG{a}{t}{asx}(y:ty t asx)(b:t≠1)(cK:asx.jg=Y):hb (zA 1) asx=Y:=by rcases asx.DR with⟨Q,h2⟩|⟨q,j,e⟩|⟨i,e⟩;clear cK;(cases y.A2 Q h2 with|i9 df n=>simp only[BA,BB,BC,gX,nj (Fi df n.BE),N.aeu]|iv h'=>exact eh h' b|lk=>rfl|di n t mp cY aM _ _ _ _ cC c4=>(rw[nt (FE n t),mY J,Õ,ng];rintro _ _ d;rw[m9,mY J,nV,ng];rintro _ d;rw[m8])<;>rw[d]<;>rfl);rfl;exact yW cK
def LZ{a:aH}{i:nq}{dr:tK}(b:xX i.au=dr)(ac:bv→N):(i.dS fun n=>ac (cN a n))=dr.dS ac:=by rw[←b,r.axG];rfl
def Qi(a7:bv)(Q:aQc)(h2:aTa)(H:tK):lO a7 H=H.dS (hb a7):=by induction a7 using bv.ae with|cl=>rfl|bY q g=>exact eh e (h2 q g)|un i=>rw[qT Q]
abbrev asP(o:u):Prop:=∀(a:aH)(h k v:u)(a7:bv)(H:nq)(cj:tK)(M:pu)(O:q5),a7.An<o→tv→sl v se→q' v (qr H)→1∉H→acp a M H k→j' a M O (bv.ha a7 se) a7.dh→af8 (v6 40) 94 pM aSZ a7.dh a M O
def P9:∀(a:aH)(h k v:u)(a7:bv)(H:nq)(cj:tK)(M:pu)(O:q5)(iN:asP a7.An)(aF:qG)(vs:tv)(dj:sl v se)(j5:q' v (qr H))(aez:1∉H)(iP:é)(ai0:acp a M H k)(cU:ŋ)(K:∀o,o<bv.ha a7 se→j' a M O o qZ),afi (v6 37) 37 pM aSZ qZ a M O:=by injections a h k v a7 H cj M O;rw[mY iN aF vs dj j5 aez iP ai0 cU K,mZ cU,mX AF vs.gs fun f a_ fa jU=>?_,mZ jU];have mK:=vs.CY f a_;cases dj with|un _ m' _ d Ab dw aC jt aJ agH=>rw[j5]at d;rw[nf d,oA,mY d,p2 d,pi];have afF:=KB jt aJ;(have arE:∀t∈H,sl t (pF t)∧(cN a t).jg=Y:=by rw[mY t cG,ou (KE jt aJ cG) y bK,mW ⟨y,agH _ bK⟩]);rcases a7.DR with⟨Q,h2⟩|⟨q,bh,e⟩|⟨dr,e⟩;rw[m1 (∀t∈H,abg a M k t) (by clear vs;cases ai0 with|gB=>exact eh e iP|cl _ _ _ _ _ _ b=>exact b|bY _ n g d=>rw[â,mZ a_ fa,nf d,oA,mY d,oQ,m3 BF (nj mK e),mY q j d,mW eh d (h2 q j)]|un _ i d=>rw[â,mZ a_ fa,nf d,mZ d,mY d,oQ];rw[Q]at mK;exact eh mK.1 qg),mY ail,m1 (f.AG=Y) (by induction ba:f.AG using N.ae with|Y=>rfl|F=>rw[m3 BF (nj mK ba),mY q j d,mW eh d (h2 q j)]),mY acB];have l3:=Iq (v6 33) k v a a aF.aS f H a_ j5 (vD qU 2 Ab) n_ (ue (el a7 (pF t))) Y (fun t cG=>FY aF (v6 28) k t a7 _ vs (arE t cG).1 (arE t cG).2 (ail t cG)) (fun P b=>by rw[pr acB,aUa BD]) (nO e) (tg mK.1 Q);rw[mX AI a O ?_ (aWt aF)];(have i5:(b1 (k∈H)||(aVD (el a7 (pF t)))||(f.AG&&Y))=aSZ:=by simp only[N.an3,N.apQ];(have aV:(aVD (el a7 (pF t)))=aSZ:=by rw[LZ afF (ue (el a7 t)),m1 (aSZ=cj.dS (hb a7)) (Qi a7 Q h2 cj),mY Aw,Aw];rw[N.ada,r.gZ,r.gZ];constructor;rw[mY J,sE,ng];rintro t cG d;rw[mW ⟨t,cG,uq (m7 Cg (agH t cG)) d⟩,mY J,sE,ng];rintro t cG d;exact⟨t,cG,by rw[←m7 Cg (agH t cG)]at d;exact d⟩);rw[aPb k H,m1 ((aVD (el a7 (pF t)))=F) (by rw[r.gZ,mX Ad k bK ?_,Be vs,nv Cg Q,mW Fs vs Q]),m5,←aV,aa];simp;simp[bK,aV]);rw[←i5,mW In (v6 36) k v a a H f _ a_ (tg mK.1 Q) j5 l3,mZ mK];(cases vs with|bY _ n bZ _ d ms afy aav aef=>rw[â,mZ fa,nf d,oA,mY d,oQ];(replace ail:(∀t∈H,abg a M k t)∧acp a M H bZ:=by clear ms aav iN K;cases ai0 with|gB=>exact eh e iP|cl _ _ d _ b=>rw[â,mZ akA,nf d,oA,p0,oQ,aPN]|bY _ cw ajk d aoS b h'=>rw[â,nf d,oA,mY d,p2 d,pi];rw[afy]at aoS;rw[nf aoS,aVC aoS aoS aoS ⟨b,h'⟩]|un _ i d=>rw[â,nf d,oA,p0,yc]);have asF:sl k (z9 k):=.bY k n bZ bh a_ ms afy aav aef;(have g_:(bv.bY k bh).An=aUg:=uJ);(have kE:(bv.bY k bh).dh-1=bh.dh:=uJ);rw[m2 (K (bv.ha bh se) (aUk bv.ha Ci Cj Ck (AJ [bh.An,aRF] (ĸ+ai+1) (vc 2+ai) e))),mY hg];rw[kE]at hg⊢;rw[m1 (sl v se) (.un v H cj j5 Ab dw aC jt aJ agH),mY awT];replace ba:∀t∈H,oD (aQd (aQq 41+1) 94 (ā (.m t))) (n5 (aVd (pF t))):=fun t cG=>nM (FY aF (aQq 36) k t) asF (arE t cG).1 (arE t cG).2 (ail.1 t cG);rw[m1 ((aVD (aVd (pF t)))=cj.dS (hb (z9 k))) (by rw[LZ afF (ue (el (z9 k) t))];rw[N.ada,r.gZ,r.gZ];constructor;rw[mY J,sE,ng];rintro t cG d;rw[mW ⟨t,cG,uq (m7 Cg (agH t cG)) d⟩,mY J,sE,ng];rintro t cG d;exact⟨t,cG,by rw[←m7 Cg (agH t cG)]at d;exact d⟩),mY aV,m1 (k∈H→(aVD (aVd (pF t)))=F) (by rw[mY bK,r.gZ,mX Ad k bK ?_,Be asF,nv Cg e,mW Fs asF e]),mY ajF];(replace i5:(b1 (k∈H)||(aVD (aVd (pF t)))||((a9.bY n).AG&&el bh se))=aVd se:=by rw[m1 (aVd se=(cj.dS (hb (z9 k))||el bh se)) (by kernel_rfl!),m5,aa,←aV,aPb k H,ajF bK];simp;simp[bK,a9.AG]);rw[pI aau (b1 (k∈H)||(aVD (aVd (pF t)))) (by rw[m2 (Iq (aQq 41) k v a a aF.aS _ H a_ j5 (vD qU 2 Ab) n_ _ (el bh se) ba (oE (by rw[pr aau,aUa GR])) (nO e) e),mY l3];rw[i5]at l3;rw[mX AI a O ?_ (aWt aF),g_,rh (va aUg+37) (va bh.An+41+3+1) (BI [bh.An,h] (ai+(vc 8)+37) (rg ai 8+41+3+1) e),mW In _ k v a a H _ _ a_ e j5 l3]) (by rw[m3 At (iN a h bZ v bh H cj M O (wT g_) aef awT j5 aez ail.2 hg),mY bz kO Q h2 _,m2 (Pu (aQq 39) k v n bZ a bz _ a_ afy aav Q),mY arK];replace l3:=Iq (aQq 41) k v a bz aF.aS _ H a_ j5 (vD qU 2 Ab) n_ _ (el bh se) ba (wW arK) (oE (by rw[Œ,oe,m9,oe,m8,pr aau];(with_reducible exact BD b);rw[aPN])) e;rw[i5]at l3;rw[mX AI bz kO ?_ h2,g_,rh (va aUg+37) (va bh.An+41+3+1) (BI [bh.An,h] (ai+(vc 8)+37) (rg ai 8+41+3+1) e),mW In _ k v a bz H _ _ a_ e j5 l3])]);cases vs with|un _ i _ d ms aCO aiq aCM ab1 aM3=>rw[â,mZ fa mK,nf d,oA,mY d,oQ,m1 (sl v se) (.un v H cj j5 Ab dw aC jt aJ agH),mY awT,m1 (∀n∈i,acp a M H n) (by clear ms;cases ai0 with|gB=>exact eh e iP|cl _ _ d b=>rw[â,mZ akA,nf d,oA,p0,oQ,aPN]|bY _ cw ajk d=>rw[â,nf d,oA,p0,yc]|un _ l' d b=>rw[â,nf d,oA,mY d,p2 d,pi,mW b]),mY avk];replace hg:=K (bv.ha (qr dr) se-1) (aUk bv.ha Ci Cj Ck (Ag [2*(sx+1)+aRF-1,sx,aRF] nm (x3 2+a8) nm (x3 2+a8) e (q3 Az (AJ [2*(sx+1)+aRF-1,sx,aRF] 1 (x3 2+a8) e))));have au2:=KB aCM ab1;(replace kE:(bv.un dr).dh-1=bv.ag3 dr:=uJ);simp only[kE]at hg⊢;(replace g_:(bv.un dr).An=sx+1:=uJ);refine AR (J1 (va sx+42) k v M O a hg.aF i a_ (vD [k] 2 ms) (w5 (el (pF n) se)) (w5 (v4 n)) (by rw[mY n ba z1 hY aD eE mo,wG (KE aCM ab1 ba),mY awS bK];rw[Hi au2]at mo;have b7:=eE.le;have ali:=PL dr _ bK;rw[m2 (nI (hg.CE eE) m' (bv.ha (pF n) se) c' (v4 n) (by dsimp only[bv.ha,g_];exact Am [sx,sd n,aRF,2*(sx+1)+aRF-1] (xq 2+a8) eK (xq 2) ĸ (vc 2+a8) (eK+1) e (AM 2 ali) (q3 AN (AJ [sx,sd n,aRF,2*(sx+1)+aRF-1] 1 (vc 2+a8) e))) mo),mY ain,m2 (iN z1 (va aQ8+3) n v (pF n) H cj M hY (wT g_) (awS.bx b7) (awT.bx b7) (Ģ j5) aez ((avk n ba).bx b7) ain),m5,rh (va sx+42+1) (va aQ8+3+8*sd n+40) (y_ (Ag [sx,sd n,h,aQ8] (rg a8 8+42+1) (ro (sn a8 8 eK+3) 8+40) (su 8) (tz 8 (eK+ai)) e (AM 8 (q3 AN (Ag [sx,sd n,h,aQ8] ai S ai S e ali)))) (Ag [sx,sd n,h,aQ8] (ro (sn a8 8 eK+3) 8+40) (rg a8 8+42+1) (tz 8 (eK+ai)) (su 8) e (AM 8 (q3 Az (Ag [sx,sd n,h,aQ8] ai S ai S e ali))))),mW aa])) fun bz kO Q h2=>?_;simp only[Hi au2]at h2;rw[m1 ((aN2 (el (pF n) se))=el (qr dr) se) (by rw[LT au2 (fun k=>el k se)];simp only[el,A6,A7,A8,GU]),mY i5];rw[i5]at Q;rw[mX AI bz kO ?_ h2,g_,rh (va (sx+1)+37) ((va sx+42+2)+1) (BI [sx,h] (ai+(vc 8)+37) (rg ai 8+42+2+1) e),mW Lf _ k v a bz i _ _ a_ j5 Q]
def L6:∀{a:aH}{M:pu}{O:q5}(aF:qG)(h k v:u)(a7:bv)(H:nq)(cj:tK)(vs:tv)(dj:sl v se)(j5:q' v (qr H))(aez:1∉H),pG 6 94 pM (n5 aSZ)∨(ŋ∧é∧∃f,qq∧kJ k v f (qr H)=-1):=by rw[vj M O,mY aF];injections h k v a7 H cj;rw[mY vs dj j5 aez,mX AF vs.gs fun f a_ fa jU=>?_,mX AF dj.gs fun g U ly cR=>?_];rw[j5]at U;rw[mZ ly,nf U,mZ U,mY U];subst U;have alo:=dj;cases dj with|un _ m' _ d Ab dw aC jt aJ agH=>rw[j5]at d;rw[mZ dw aC,nf d,mZ d,mY d,p2 d,pi,nH cU k v];left;clear j5 cR Ab;subst cU;rw[m1 (aSZ=F) (by rw[vs.fn alo];simp only[el,A6,A7,A8,GU,r.hp];rw[tr,aPZ aq cQ (r.apA.1 J),m2 (aJ aq _ _ (aUF (Am [H.z,cj.z,aq] (a8+1) S ai S (a8+1) ai e (AN jt) cQ)) (r.hV cQ)),mY lQ];have aeH:=agH _ J;rw[m2 (Fs lQ aeH),mY br];(have ik:cj.dS (hb cj[aq])=F:=nb r.gZ (ql J br));rcases(cj[aq]).DR with⟨Q,h2⟩|⟨q,ab,d⟩|⟨i,d⟩;rw[Qi _ Q h2,mW ik];rw[d]at ik⊢;simp only[A6,A7,A8,ik,N.asB];rw[d]at aeH;exact yW aeH),m5,tf,mW FG a wH k,nH hs k 1];left;subst hs;rw[vs.gB,m1 (el (zA 1) se=Y) (by simp only[el,A6,A7,A8];rw[r.ato,tr,aPZ aq cQ (r.apA.1 J),m1 (H[aq]'(m4 (Am [H.z,cj.z,aq] (a8+1) S ai S (a8+1) ai e (AN jt) cQ))∈H) (r.aij _),mY bK,m2 (aJ aq _ _ (aUF (Am [H.z,cj.z,aq] (a8+1) S ai S (a8+1) ai e (AN jt) cQ)) (r.hV cQ)),mY lQ,AcG lQ (ol (aez (d▸bK))) (agH _ J)];simp),m5,tf,mX G_ a h 1 v f (qr H) cU a_ j5 fa e jU cR ?_ Y ?_,mY J,nV,ng];rintro _ b;cases b;(have:è:=vD qU 1 Ab);simp[kJ,acX,aa,a9.AG];right;exact(AE cU hs (Ad f a_ (Ik k v f _ hs (vD qU 1 Ab) (N.anq.2 yo))))
def RC(o):asP o:=by induction o with|hf=>rw[mY a h k v a7 H cj M O b,mW BZ (Ag [a7.An] 1 0 nm 0 e b)]|gk o ih=>rw[mY a h k v a7 H cj M O aG vs dj j5 aez ai0 K,m1 (asP _) (fun z' aiM s' iu awv m' aiK fA kt b=>qm ih _ (m4 (aV7 (aWc [a7.An,o,awv.An]) aG b))),mY iN,nt (L6 K.aF (v6 34) k v _ H _ vs dj j5 aez),oe,m9,mY J];rcases J with(⟨cU,iP,f,a_,aa1⟩);rw[m8,mW Au a O b aVk (nO e),m2 a7.Ix,mY ei];(have d:a7.dh=qZ+1:=m4 (Br _ S nN _ nN e (rz (s7 (Ag [a7.dh,qZ] 1 S 1 S e ei)))));have b7:ô uz:=tW;have:=G9 a (v6 34) k v qZ M O a7 se (uq d K) vs dj f _ cU a_ j5 aa1 (fun cu P=>P9 uz h k v a7 H cj M yz iN (K.aF.AL _ cu) aUG aUH j5 aez iP (ai0.bx b7) cU (fun H bK=>K.AL vs dj e bK (m4 (Ag [a7.dh,qZ] (ai+1) S nN S e (AN d))) cu));rw[←d]at aa;exact aa
def RG:∀(a)(h k v)(H)(cj)(M)(aF:Ĳ)(a7)(vs:tv)(dj:sl v se)(j5:q' v (qr H))(aez:1∉H)(ai0:acp a M H k)(aC:aQK a7.dh)(kX:aSW (4*a7.dh))(hd:a.e5+bv.ha a7 se<60)(ei:a7.dh<3980),∃z' fA,qf (aQd (v6 40) 94 pM) (n5 aSZ)∧dI z' fA []∧aNT a7.dh∧aPk:=by injections a h k v H cj M;intro aF;injections a7;intro vs dj j5 aez ai0 aC kX hd ei;have aeI:=a7.Ix;rw[nt (L6 aF (v6 34) k v _ H _ vs dj j5 aez),oe,m9,mY J];rcases J with(⟨cU,iP,f,a_,aa1⟩);rw[m8,mW Bx a M b aF aVA í,mX AF vs.gs fun dE gj fa jU=>?_,mX AF dj.gs fun bZ dL ly cR=>?_];rw[a_]at gj;rw[j5]at dL;rw[aRf gj gj gj gj,mZ ly,nf dL,mZ dL,mY dL];subst dL;have b7:ô ĺ:=tW;rw[mX Dr (Op a (v6 36) k v qZ M aF a7 se vs dj (m4 (Ia aC aeI)) (m4 (ç (aNX a7.dh qZ 3980) 3980 ei (q3 Az (Ag [a7.dh,qZ] 1 S 1 S e aeI)))) (m4 (oa A5 [a.e5,↑(a7.ha _)] b5 60 zB 60 0 d4 e hd vU)) (nO (P9 ĺ h k v a7 H cj M [o1] (RC _) (aF.Fj _) aUG aUH j5 aez iP (ai0.bx b7) cU (fun H bK=>j'.Fj (c':=qZ) aF vs dj bK (m4 (Ia aC aeI)) (m4 (oa Am (aR0 a7.dh qZ) (sn S 4 a8) 900000 (ro S 4) 900000 (tz 4 pR) (xq 4) e kX (AM 4 (q3 Az (Ag (aR0 a7.dh qZ) 1 ai 1 ai e aeI))))) (m4 (O' hd bK)) (m4 (ç (aNX a7.dh qZ 3980) 3980 ei (q3 Az (Ag [a7.dh,qZ] 1 S 1 S e aeI)))))))) fun z' fA Q h2 h3 h4 h5=>?_,mX (sb Bx (G8 a _ _ k v f _ cU a_ j5 fa e jU cR (by rw[mY J,nV,ng];rintro _ b;rw[aPN]) _ aa1 Q) h2 (h3.bx (m4 (Ag [a7.dh,qZ] (ai+1) S nN S e (q3 Az (Ag [a7.dh,qZ] 1 S 1 S e aeI))))) h4)]
inductive aR where|mk(v m0 cC c4 eu:u)(e8:nL)deriving gN
abbrev aR.v:sf aR|m7 (.mk v _ _ _)=>v
abbrev aR.m0:sf aR|m7 (sk ra H)=>H
abbrev aR.cC:sf aR|m7 (p5 ra H)=>H
abbrev aR.c4:sf aR|m7 (n7 ra H)=>H
abbrev aR.eu:sf aR|ni ra n _=>n
abbrev aR.e8:aR→nL|ni ra _ i=>i
mutual
abbrev aR.aY:aR→ar|aPg v=>nE [oF,nE [th,.m g,.m x],ye,ws aR.akR i]
abbrev aR.akR:nL→nC|[]=>[]|d::i=>d.aY::aR.akR i
end
def G2:∀v f g x n i,aR.aY (aPg v)=(nE [oF,nE [th,.m g,.m x],ye,ws aR.akR i]):=fun ψ ψ ψ ψ ψ ψ=>e
def QI:aR.akR []=([]):=e
def QJ:∀d i,aR.akR (d::i)=(d.aY::aR.akR i):=pS
mutual
abbrev aR.eo:sf aR|ni ra _ i=>aR.aeq i+1
abbrev aR.aeq:sf nL|[]=>0|d::i=>max d.eo (aR.aeq i)
end
def IO:aR.aeq []=(0):=e
def IP:∀d i,aR.aeq (d::i)=(max d.eo (aR.aeq i)):=pS
def QH:∀gv aci ai4 aw0 aLZ i,aR.eo (ra gv aci ai4 aw0 aLZ i)=(aR.aeq i+1):=fun ψ ψ ψ ψ ψ ψ=>e
def Nk(i):aR.akR i=i.au aR.aY:=vv (by simp[QI,QJ,ih])
def M9(i)(d)(b:d∈i):d.eo≤aR.aeq i:=qb i (by cases b) f i (by simp only[IO,IP];rw[aSo,n8,m9,oe,m8];exact u.aJ2 ..;rw[m2 ŭ,m5,mW u.eG aa (u.aJ3 ..)])
mutual
abbrev iE:wF aR aR|.mk v f g x _ i,d=>v==d.v||(if i.dD then(if d.e8.dD then gX f g x d.m0 d.cC d.c4 else Y)else alq i d)
abbrev alq:wF nL aR|[],_=>F|wM,d=>iE j d&&alq i d
end
def Vj:∀gv,alq [] gv=F:=rp
def Vk:∀j i d,alq wM d=(iE j d&&alq i d):=uD
def Gk:∀v f g x gv i d,iE (ra v f g x gv i) d=(v==d.v||(if i.dD then(if d.e8.dD then gX f g x d.m0 d.cC d.c4 else Y)else alq i d)):=fun ψ ψ ψ ψ ψ ψ ψ=>e
def NX(i)(d):alq i d=i.db (nF (iE j d)):=vv (by simp[Vj,Vk,ih])
mutual
abbrev iY:wF aR nL|aPg v,p=>p.dS (iE (aPg v))||(aPV&&akK i p)
abbrev akK:wF nL nL|[],_=>F|wM,p=>iY j p&&akK i p
end
def FS:∀v f g x n i p,iY (aPg v) p=(p.dS (iE (aPg v))||(aPV&&akK i p)):=fun ψ ψ ψ ψ ψ ψ ψ=>e
def MQ:∀gv,akK [] gv=F:=rp
def MR:∀j i p,akK wM p=(iY j p&&akK i p):=uD
def MP(i p):akK i p=i.db (nF (iY j p)):=vv (by simp[MQ,MR,ih])
def F1(w)(d:aR):rm (eC w d.aY nr) d.v:=by rw[yd d];simp only[G2];exact aRZ
def F2(w)(d:aR):eC w d.aY nG=c (nE [.m d.m0,.m d.cC,.m d.c4]):=by rw[yd d];simp only[G2];exact D4 ..
def JJ(w)(d:aR):rm (eC w d.aY rn) d.eu:=by rw[yd d];simp only[G2];exact Oe ..
def EQ(w)(d:aR):eC w d.aY uN=c (ws d.e8.au aR.aY):=by rw[yd d];simp only[G2,Nk];exact Of ..
def CL(O)(cf)(l)(w):oC yl=c (ps,w):=by simp only[IC,Ar]at⊢;rfl
def G1(O)(cf)(is)(d)(l bW)(w a4)(i)(b:uw o9)(hs:aaK is i l=c bW):pU dP (.acg is d)=c (na,bW,a4):=by rw[rc (pk ta b),mW (pk (ap.au fun bW=>(ls.bU,bW,a4)) hs)]
def KR(f g):((ob (f|||g))==nc g)=(f|||g==g):=m7 DN
def IU{cg:Type}(i:Ë)(ac):(i.au ac).db id=i.db ac:=rA r.atm
def R2(g)(w):f1 w .ne qz qz=c oX:=by rw[ć g N.ae]
def FP(w){i:nL}{g}(b:i.dD=g):f1 w .ne (ws i.au aR.aY) ps=c (qP (! g)):=by rw[pq,ć i r.ae]
def C_(w)(j ab:u):lY w .afn ũ (.m ab)=c (vl (j|||ab)):=e
def Kv:∀(a:aH)(h)(k v),pG k.eo 78 [k.aY,v.aY] (n5 (iE k v)):=by injections a h k v;(suffices b:∀aj(k:aR),k.eo=aj→∀h,oD (bc _ _ (h+aj) _ [k.aY,v.aY] _) (n5 (iE k v))by exact b _ k e h);intro aj;induction aj using u.awz with|ind aj ih=>intro k hd h;induction k using aR.ae with|mk a' f g x n i=>have Aw:=ui F1 (aPg a');rw[m2 (ui F2 (aPg a')),mY aV,m2 (ui EQ (aPg a')),mY cV,xE kA F1 v,xE gE F2 v,xE i2 EQ v];have ad1:aR.aeq i+1=aj:=hd;rw[mZ hd,nH cU a' v.v,m1 (iE (aPg a') v=F) (by simp only[Gk,lb.gS cU,N.asB]),mY aJ,aJ,←ad1,mW (nd DQ [ė,p kA,p (AH (nv Gr cU))])];have I:(nc a'==nc v.v)=Y:=nv C9 cU;have ajJ:(a'==v.v)=Y:=acw cU;induction i using r.ae with|s j i=>rw[m1 (iE (.mk a' f g x n wM) v=(wM).db (x8 (iE ab v))) (by simp[Gk,ajJ,NX]),mY aJ];have hc:=aRH (zX (aR.aeq wM)) (s8 78 4 qc) 4 (r_ 0 uN) [c (aR.mk a' f g x n wM).aY,aR8,B,B,B] (ws (wM).au aR.aY) B wM aR.aY (x8 (ar.aO (iE ab v))) (qX [uP]) e e (aOd (by have ajM:=nv M9 b0;have:=ih ab.eo (ad1▸u.avJ ajM) ab e (h+(aR.aeq wM-ab.eo));rw[u.la,u.e2 ajM]at aa;exact qX [aZ aa]));have iO:=w3 GX (zX (aR.aeq wM)) a.G a.G _ _ hc (m7 CO);rw[IU]at iO;rw[aJ,←ad1];generalize(wM).db (x8 (iE ab v))=y at iO⊢;exact nd DQ [ė,p kA,rN I,uP,qa (FP a.G (i:=wM)) e,aZ iO]|C=>rw[←ad1,mZ ad1 ih,m2 (FP a.G (abH.fI v.e8.dD)),mY aet,m1 (iE (ra a' f g x n []) v=if v.e8.dD then gX f g x v.m0 v.cC v.c4 else Y) (by induction ba:v.e8 using r.ae<;>(simp[Gk,ajJ,ba])),mY aJ,aJ];generalize v.e8.dD=y at aet⊢;rw[u9 y (by rw[ot DQ [ė,p kA,rN I,uP,.K,p i2,p aet]]) (by rw[m1 ((nc g==0)=(g==0)) (DN g 0),mY gm,m2 (AH (KR f v.m0)),mY BH,m2 (AH (KR g v.cC)),mY A1];have BR:=AH (KR x v.c4);rw[m2 (AH gm),mY Cp];have aeK:=C_ a.G f v.m0;have j6:=C_ a.G g v.cC;have hM:=C_ a.G x v.c4;rw[m1 (m7 (gX f g x _)=((f|||v.m0==v.m0)&&(g==0||((g|||v.cC==v.cC)&&(x|||v.c4==v.c4))))) e,mY hs,hs,aR6 (f|||v.m0==v.m0) hk BH,aR6 (g|||v.cC==v.cC) d5 A1,aR6 (x|||v.c4==v.c4) da BR,aR6 (g==0) fC Cp,mZ hs gm aJ ajJ cU];have arb:f1 a.G .ne (ws v.e8.au aR.aY) ps=c oX:=aet;have jn:=I;rw[u9 hk (by rw[ot DQ [ė,p kA,rN jn,uP,.K,p i2,p arb,r0,p gE,.K,.K,p aeK,.K,Ì]]) (by rw[rs fC (by rw[ot DQ [ė,p kA,rN jn,uP,.K,p i2,p arb,r0,p gE,.K,.K,p aeK,.K,Ì,.K,p Cp]]) (by rw[u9 d5 (by rw[ot DQ [ė,p kA,rN jn,uP,.K,p i2,p arb,r0,p gE,.K,.K,p aeK,.K,Ì,.K,p Cp,.K,.K,p j6,.K,p A1]]) (by rw[ot DQ [ė,p kA,rN jn,uP,.K,p i2,p arb,r0,p gE,.K,.K,p aeK,.K,Ì,.K,p Cp,.K,.K,p j6,.K,p A1,.K,.K,p hM,.K,p BR]])])])])]
abbrev eS(i:nL):ar:=u' i.au aR.aY
def G7{cg:Type}(i:Ë)(ac):(i.au ac).dS id=i.dS ac:=rA r.axG
def Ow:∀(a:aH)(h)(k)(p),oD (aQd (h+k.eo+1) 79 [k.aY,eS p]) (n5 (iY k p)):=by injections a h k i;(suffices b:∀aj(k:aR),k.eo=aj→∀h,oD (bc _ _ (h+aj+1) _ [k.aY,ĭ] _) (n5 (iY k i))by exact b _ k e h);intro aj;induction aj using u.awz with|ind aj ih=>rw[mY k hd h,xE cV EQ k];have hc:=aRH (zX aj) (s8 78 0 qw) 3 qc [xi,c ĭ,B,B] ĭ B i aR.aY (x8 (ar.aO (iE k ab))) vO e e (aOd (by have:=Kv a h k ab;rw[o6 hd,mW (qX [aZ aa])]));rw[m2 (qm GZ hc (m7 CO)),mY ik];rw[G7]at ik;have aeB:=aRH (zX aj) (s8 79 2 qc) 2 (r_ 0 uN) [xi,c ĭ,B,B] (ws k.e8.au aR.aY) B k.e8 aR.aY (x8 (ar.aO (iY ab i))) (qX [uP]) e e (aOd (by rw[m2 (nv M9 b0),mY ajM,m1 (k.eo=aR.aeq k.e8+1) (by rw[mZ ih cV hc ik b0 ajM hd,yd k];rfl),mY aC3];rw[hd]at aC3;have ajM:ab.eo+1≤aj:=aC3▸u.awB ajM;have:=ih ab.eo ajM ab e (h+(aj-(ab.eo+1)));rw[u.la,u.la,u.e2 ajM]at aa;exact qX [aZ aa]));have iO:=w3 GX (zX aj) a.G a.G _ _ aeB (m7 CO);rw[IU]at iO;rw[m1 (iY k i=(i.dS (iE k)||(! k.e8.dD&&k.e8.db fun ab=>iY ab i))) (by rw[mZ ih cV hc ik aeB iO hd,yd k];simp[FS,MP,aR.e8]),mY aJ,aJ,m2 (FP a.G (abH.fI k.e8.dD)),mY kI,mZ hc aeB aJ ih hd];generalize i.dS (iE k)=y at ik⊢;rw[aR6 (k.e8.db fun ab=>iY ab i) V iO];generalize k.e8.dD=aP at kI⊢;rw[rs y (by rw[ot Ji [aOr]]) (by rw[rs aP (by rw[ot Ji [aOr,uP,p kI]]) (by rw[ot Ji [aOr,uP,p kI,aZ iO]])])]
abbrev aiY(b:nL):N:=b.dS fun d=>d.cC==2047&&d.c4==2047
def Oy(a:aH)(h)(b):qM 81 [eS b] (.aO (aiY b)):=by have hc:=aRH nT (xL (on eq (rZ (x1 nG) nG) (.m 2047)) (on eq (rZ (x1 nG) rn) (.m 2047))) 1 pn [aUh,B] (eS b) B b aR.aY (ol (ar.aO (d.cC==2047&&d.c4==2047))) vO e e (aOd (by rw[xE aV F2 ab,m2 (AH (DN ab.cC 2047)),mY d5];have da:=AH (DN ab.c4 2047);rw[mZ b0,aR6 (ab.cC==2047) y d5,u9 y (by exact qX [r0,.K,p d5]) (by exact qX [r0,.K,p d5,r0,.K,p da])]));have ik:=GZ T nT _ _ a.G a.G _ _ hc (m7 CO);rw[G7]at ik;exact nd SA [aOr]
abbrev aeb(al:n1)(B3:u):wF u u|0,_=>Y|ac+1,f=>ow f B3 F (oo al[f]? (c (.gq aP)) (aeb al B3 ac aP) Y)
def Aaj{al:n1}{B3 ac f aP}(h:¬f=B3)(b:nX al f (.gq aP)):aeb al B3 (ac+1) f=aeb al B3 ac aP:=pX cH h (by rw[aR1];rfl)
def Aak{al:n1}{B3 ac f aP}(h:¬f=B3)(b:nX al f (.aeQ aP)):aeb al B3 (ac+1) f=Y:=pX cH h (by rw[aR1];rfl)
def PH(al)(B3):∀gv,aeb al B3 0 gv=Y:=rp
def PI(al)(B3):∀ac f,aeb al B3 (ac+1) f=(ow f B3 F (oo al[f]? (c (.gq aP)) (aeb al B3 ac aP) Y)):=pS
structure aaS(al:n1):Prop where
 c9:al.z≤4
 up:∀(o:u)(aP:R),zc al aP→aP<o∧-1≤aP
abbrev lX(al:n1)(k v:aR):N:=if k.eu=0∨v.eu=0 then Y else !(aeb al (v.eu-1) k.eu (k.eu-1))
def Ls{O}{cf}{x}{l}{w a4}{g}(b:o5 (o0 aU x) qz):o5 (o0 adA x) g:=by unfold adA;rw[b];rfl
def Io(w)(q):lY w .eZ n' nG=c (pf (q-1)):=e
def Rj:∀(a:aH)(al)(fw:vB)(hz:aN7)(cf)(k v:aR)(aS:0<v.eu),∀(f ac gc),f<ac→vf<gc→f<al.z→∃l,ae8 (adA T cf (xL (on ge qw nr) (on ne qw (rk eZ (r_ 2 rn) nG)))) (f0 T cf (nA (sG 3 (r_ 0 qw)))) gc [xb,xi,aR8,nn f] a.G=c (na,[xb,xi,aR8,nn l],a.G)∧b1 (l<0)=!(aeb al (v.eu-1) ac f):=by rw[aP0 al,mY fw hz];injections cf k v;rw[mY aS,mY f];induction f using u.awz with|ind f ih=>intro ac gc b2 adY a_;obtain⟨ade,e⟩:∃ade,ac=ade+1:=⟨ti,m4 (yv Br [f,ac,ti] pR pR e (rz (s7 (Ag [f,ac,ti] 1 ai nm ai e b2))))⟩;obtain⟨gg,e⟩:∃gg,gc=gg+1:=⟨gc-1,m4 (yv Br [f,gc,gc-1] pR pR e (rz (s7 (aQE [f,gc,gc-1] ai wJ ai e adY))))⟩;have bj:=JJ a.G v;(have abY:tM≤vn:=m4 (A4 [↑f] 0 b5 0 b5 e vU));rw[nH ak7 f (v.eu-1),mX Ad f ?_ ?_,p5 Fu gg _ a.G];(have d5:(!(vn==nc v.eu-1))=Y:=q0 (rh vn (nc v.eu-1) (Yc aS ak7)) aaV);rw[mW Ls (qX [sZ CR hZ abY,za,p (Io a.G v.eu),qa EJ d5]),show aeb al (v.eu-1) (ade+1) f=F from c0 ak7];kernel_rfl!;have afx:n9 al f al[f]:=r.hV a_;rw[wG (fw.up f _ afx)];rintro Q h2;(have fo:aVs xV th al[f]:=by rw[Cq _ 24 _ f (HK a),hz];simp[afx]);(replace d5:(!(vn==nc v.eu-1))=F:=sh (acw (show vn≠nc v.eu-1 by exact Yd aS ak7)));(have aeF:oD (aQ9 adA (xL (on ge qw nr) (on ne qw (rk eZ (r_ 2 rn) nG))) [xb,xi,aR8,nn f]) F:=m4 (Ls (qX [sZ CR hZ abY,za,p (Io a.G v.eu),qa EJ d5])));(have agC:aQ9 f0 (nA (sG 3 (r_ 0 qw))) [xb,xi,aR8,nn f]=c (na,[xb,xi,aR8,nn al[f]],a.G):=m4 (pK [uo]));induction cK:al[f]using R.ae with|gq aP=>rw[cK]at Q agC;(have aeG:aP<f:=by have jQ:Ę<vn:=Q;exact R.aa7.1 jQ);rw[m3 Ac (ih aP aeG ade gg (m4 (aV7 (aWc [f,ade,aP]) b2 aeG)) (m4 (aV7 (oa Am [f,gg,aP] (a8+2) ai wJ) adY aeG)) (m4 (aQM (aWc [f,al.z,aP]) a_ aeG)))];(rintro l br afG);rw[mX Ad l ?_ ?_,sk (p5 DH gg) a.G aeF agC,mW br,afG];rw[Aaj ak7 (afx.ah (cr c cK))]|aeQ aP=>rw[cK]at h2 agC;(have arG:¬(tM≤R.aeQ aP):=m4 (R.apI.2 (R.negSucc_lt_zero aP)));rw[mX Ad (R.aeQ aP) ?_ ?_,sk (p5 DH gg) a.G aeF agC];obtain⟨akw,e⟩:∃akw,gg=akw+1:=⟨gg-1,m4 (yv Br [f,gg,gg-1] pR pR e (rz (s7 (aQE [f,gg,gg-1] ai wJ nN e adY))))⟩;rw[p5 Fu akw _ a.G,mW Ls (qX [sZ CR jq arG])];(have:R.aeQ aP<0:=m4 (oa A4 [R.aeQ aP] b5 0 b5 0 e (R.apI.1 arG)));rw[Aak ak7 (afx.ah (cr c cK)),mW hZ aa]
def Ov:∀(a:aH)(al)(fw:vB)(hz:aN7)(h)(k v)(hs:xf k.eu),qM 80 [xV,k.aY,v.aY] (n5 aPE):=by rw[aP0 al,mY fw hz,yb k v,mY hs,xE bj JJ k,xE f2 JJ v,nH Q k.eu 0,m1 (aPE=Y) (c0 (pp Q)),mY aJ,aJ,mW (nd Jk [za,p (AH (Gr _ 0 Q))])];have d5:(nc k.eu==0)=Y:=C9 _ 0 Q;rw[nH h2 v.eu 0,m1 (aPE=Y) (c0 (.bF h2)),mY aJ,aJ,mW (nd Jk [za,rN d5,p f2,p (AH (Gr _ 0 h2))])];have da:(nc v.eu==0)=Y:=C9 _ 0 h2;have iP:k.eu-1<k.eu:=u.sub_one_lt Q;rw[nD (Rj a al fw hz nT k v (u.ahT h2) (k.eu-1) k.eu al0 iP (by unfold al0;rw[m2 fw.c9,m5,mW Bu [k.eu,al.z,k.eu-1] (a8+2+1) 4096 S ai (a8+1) S ai 4 e hs iP aa]) (u.k0 iP hs)) l br afG];replace aJ:aPE=b1 (l<0):=(cH (aj5.gS ⟨Q,h2⟩)).ah afG.cq;(have aG7:ob (k.eu-1)=nc k.eu-1:=m4 (Pb Q));rw[aG7]at br;rw[aJ,mW (nd Jk [za,rN d5,p f2,rN da,za,p (Io a.G k.eu),os ((Fw ..).ah br),qa (nI Cz f l g 0) e])]
def DG(n:u)(b:n<2000):g2 (nc n)=F:=by unfold g2;simp only[N.c3,kR];exact tA KN b
def AbF(w)(p)(q):asv w p n'=(aVG).bP fun i=>nK ((b1 Ĺ&&g2 q)=F) (c (u' i.gu q.es)):=e
def Abz(w)(p)(q):awn w p n'=(aVG).bP fun i=>nK ((b1 Ĺ&&g2 q)=F) (c (u' i.cF q.es)):=e
def K'{b}{O}{cf}{f g}{l}{w}{n:u}(Q:(l[f]?).afO=c (oh b))(h2:rm (l[g]?).afO n)(ba:rG n):oC (.ady (.A f) (.A g))=c (u' b.gu n,w):=by rw[m2 (Ů DG n),mY s1,m1 (asv w (oh b) ye=c (u' b.gu n)) (by rw[m1 ((b1 (tM≤nc n)&&g2 (nc n))=F) (q0 s1 (hZ (R.ab9 n))),mY x,AbF,ţ (j7 w (oh b)=c b),ap.eO,c0 x,R.akh]),p0,rc (cr ta (CK Q)),ap.eO,CK h2,ap.eO,d];rfl
def K_:∀{b:nC}{O:mE}{cf:iV}{f g:u}{l:du}{w:ch}{n:u}(Q:(l[f]?).afO=c (oh b))(h2:rm (l[g]?).afO n)(ba:rG n),oC (.ahW (.A f) (aQX (.A g)))=c (.bm aWy,w):=by rw[mY b O cf f g l w n,mY Q h2 ba,m1 (oC (aQX (.A g))=c (vl rU,w)) (q0 Qu (CK h2)),mY eN,m2 (DG rU (m4 (Ag [n] (nm+1) 2000 nm 1000 e ba))),mY s1,m1 (awn w (oh b) (vl rU)=c (.bm aWy)) (by rw[m1 ((b1 (tM≤ob rU)&&g2 (ob rU))=F) (q0 s1 (hZ (R.ab9 rU))),mY x,Abz,ţ (j7 w (oh b)=c b),ap.eO,c0 x,R.akh]),p0,rc (cr ta (CK Q)),ap.eO,eN,ap.eO,d];rfl
def Q5(w){f g}(b:u.aao (f.z+g.z) dv=F):lY w .e_ (oh f) (oh g)=c (.bm (f++g)):=by rw[m1 (lY w .e_ (oh f) (oh g)=nK (arS .e_) (amp w _ _)) e,p0,d,qJ c0 (arS _=F) e,amp,ţ (j7 w _=c f),ţ (j7 w _=c g),ap.eO,ap.eO,pQ c0 u.afQ]
def Lj{cg:Type}(i:Ë)(n:u):(i.gu n++i.cF rU).z≤i.z:=uq r.aud (r.length_eraseIdx_le ..)
def atl(w)(b:nC)(n)(aC:rG b.z):lY w .e_ (u' b.gu n) (.bm aWy)=c (.bm aVQ):=Q5 w (u.aqP (by rw[←r.gR,mW (xm (Lj b n) (u.agP (ĵ aC)))]))
abbrev aaY(al:n1)(b:nL)(n:u):N:=match b[n]? with|B=>Y|c d=>let p:=aVQ;p.dS (nF (yH&&Ŗ))||(aT9&&(b1 (1<p.z)&&aRe))
def Ox:∀(a:aH)(al)(fw:vB)(hz:aN7)(ac)(b2:td 22)(b)(n:u)(d)(he:n9 b n d)(aC:b.z<100)(hd:d.eo≤20)(aa0:xf d.eu),oD (aQd (ac+1) 83 [xV,eS b,ye]) (n5 û):=by rw[aP0 al,mY fw hz];injections ac;intro b2;injections b n d;intro he aC hd aa0;have ba:n<b.z:=(r.gF.1 he).1;(have fo:pE a.G (eS b) ye=c d.aY:=by unfold eS;rw[Du,r.adg,he];rfl);have st:ny yn (.ady (.A 1) ph) [xb,aUh,ĝ,aR7,B,B] a.G=_:=K' e e (m4 (ç (aNX b.z n 1000) 100 aC ba));have jw:ny yn (.ahW (.A 1) (aQX ph)) [xb,aUh,ĝ,aR7,B,B] a.G=_:=K_ e e (m4 (ç (aNX b.z n 1000) 100 aC ba));have ad:=atl a.G (b.au aR.aY) n (wT r.hN);(have aJ:∀i,aVQ=i→û=(i.dS (nF (yH&&Ŗ))||(aT9&&(b1 (1<i.z)&&iY d i))):=fun i aC=>by subst aC;simp only[aaY,he]);rw[←r.apz,←r.ar7,←r.ahL]at ad;rw[←r.apz]at st;rw[←r.ar7]at jw;revert aJ ad;generalize aVQ=i;rw[mY ad aJ,aJ i e,mZ aJ];(have ala:td (d.eo+1):=m4 (Am [ac,d.eo] (ai+1) S 22 S ai 20 e b2 hd));have hc:=aRH yn (xL (s8 78 3 y') (.ir (.bp 80 (pH pn qw y')))) 5 p6 [xb,aUh,ĝ,aR7,c ĭ,B] ĭ B i aR.aY (nF (ar.aO (yH&&Ŗ))) vO e e (fun j J=>by rw[m2 (Kv a (ac-d.eo) d j),mY il];rw[u.e2 (u.ajS ala)]at il;have acB:=Ov a al fw hz ti d j aa0;rw[s7 (u.eG (u.awC _) ala)]at acB;clear J st jw ad fo he;generalize yH=y at il⊢;rw[u9 y (by exact qX [aZ il]) (by exact qX [aZ il,aZ acB])]);rw[m2 (qm GZ hc (m7 CO)),mY ik];rw[G7]at ik;rw[xE cV EQ d];have aCq:=Ow a (ac-(d.eo+1)) d i;rw[u.la,u.e2 ala]at aCq;rw[m2 (FP a.G (abH.fI d.e8.dD)),mY kI];have amW:rm (acN a.G (eS i)) i.z:=CW (i:=ż) e (by rw[r.hN]);clear hc he aC hd aa0 ba b2 ala;generalize i.dS (nF (yH&&Ŗ))=y at ik⊢;generalize d.e8.dD=aP at kI⊢;rw[rs y (by rw[ot Hg [uo,aZ st,aZ jw,p ad,aOr]]) (by rw[rs aP (by rw[ot Hg [uo,aZ st,aZ jw,p ad,aOr,uP,p kI]]) (by by_cases ao8:1<i.z;rw[hZ ao8,mW (nd Hg [uo,aZ st,aZ jw,p ad,aOr,uP,p kI,p amW,p (B' (hZ (R.aa7.gS ao8))),aZ aCq]),jq ao8,mW (nd Hg [uo,aZ st,aZ jw,p ad,aOr,uP,p kI,p amW,p (B' (jq (oE (pQ ao8 R.aa7.mp))))])])])]
abbrev aH.dG(a:aH)(f g:c_):aH:=(a.As f).As g
mutual variable(a:aH)(aS:pN)(f g aj:c_)
include aS
def D9:(sH a.dG).G=(tE f)++[g]:=by unfold aH.dG;rw[←Cc _ g (Ï D_ f),←Ï Cc f]
def KT:n9 (sH a.dG).G a.ad f:=by rw[ru D9,r.jP (by rw[y4]),←Bj];simp
def Id:n9 (sH a.dG).G vR g:=by simp only[ru D9,show vR=(tE f).z by rw[y4]];simp
def ZC:(a.dG f g).G.b6 a.ad aj=(a.dG aj g).G:=by rw[ru D9,ru D9,m7 r.abC (by rw[y4]),←Bj];simp
def Pn:(a.dG f g).G.b6 vR aj=(a.dG f aj).G:=by simp only[ru D9,ru D9,show vR=(tE f).z by rw[y4],aQp (m7 r.akf)];simp
end
def Ny(a:aH)(aS:pN)(f g)(y)(aJ:y.eJ a.ad=F)(l):oD (afv a.G.z a.G (t' rO (sH a.dG).G)) y:=by rw[m1 ((sH a.dG).G=a.G++[f,g]) (Ž (ru D9)),mY d,m1 (y.eJ a.G.z=F) (nb Bj aJ),mY ab1,d];simp only[afv,ap.eO,NA,KQ,ab1,N.aen,fU,r.aEU]
def RS:∀(a:aH)(h v aj:u)(b:q' v (nP aj)),qM 18 aQG (oh [.m aj]):=by injections a h v aj;intro b;have d:=sP v _ b;simp only[a9.aY]at d;rw[m1 (oD (abk (ago T nT (rZ (rZ aOI p6) nG)) (ahC T nT (nA (on eq (rZ (rZ aOI p6) nr) (.bL "Y_REF" È)))) 4 B [oF] [nZ,pZ,yO [È,.m aj,ps],yO [oF],B] a.G) [.m aj]) (by rw[m1 (oD (aU _ nT (on eq (rZ (rZ aOI p6) nr) (.bL "Y_REF" È)) [nZ,pZ,yO [È,.m aj,ps],yO [oF],pZ] a.G) pb) (qX [p d,.K,.K]),mY A_,m1 (oD (ĳ ahC) F) (by rw[HQ,Lv,A_]at⊢;rfl),mY Q,m1 (oD (ago _ nT (rZ (rZ aOI p6) nG) [nZ,pZ,yO [È,.m aj,ps],yO [oF],pZ] a.G) (.m aj)) (qX [p d,.K]),mY h2];simp[FQ,FR,AY,Q,h2]),mY hc];have jr:oD (ny nT (.go (rZ (rZ aOI p6) nG) 4 qw (nA (on eq (rZ (rZ aOI p6) nr) (.bL "Y_REF" È)))) [nZ,pZ,yO [È,.m aj,ps],yO [oF],B] a.G) (oh [.m aj]):=pk (ap.au fun V:nC×ch=>(ar.bm V.1,V.2)) hc;exact nd Sa [p d,.K,.K,aOq]
abbrev aaU(al:n1)(aD:nL)(o:u):nq:=oo al[o]? (c (.gq aP)) (match aD[aP]? with|c d=>[d.v]|B=>[]) []
structure ajf(a:aH)(al:n1)(aD:nL):Prop where
 ds:∀(o:u)(a0:lr),yT o→a0.mi=rD aaU o
 cl:∀(o:u)(d:aR),zc aD d→q' d.v (z4 (o+2))
 c9:aD.z=al.z
 adS:al.z≤a.ds.z
abbrev auG:cx:=oo atz (.s _ (.s _ (Ğ (.ag2 _ g)))) g .C
abbrev adZ(a:aH)(f g:R)(fe fi:pl):du:=[ve,nn f,nn g,sS,c (wj vR),fe,fi]
mutual variable(a:aH)(aS:pN)
include aS
def Pm(f)(y)(O)(cf)(l)(b:(l[4]?).afO=c (wj vR)):aU O cf (.adw p6) l (a.dG f (vb y)).G=c (y,(a.dG f m_).G):=tg (oM Lx O _ (a.dG f (vb y)).G _ [] y (CK b) (ť Id)) (ru Pn)
def ZA(x)(i)(o){g}(b:aUO i=g):f1 (aVX uH) .lM qv aP3=c (qP (! g)):=by rw[m1 (jT (aVX uH) qv aP3=c g) (by rw[m6 ((match(aVX uH)[a.ad]? with|c (.bE H)=>(nK (Y&&(ar.m o).im jA) (c (kx qv H).eF))|c (u_ H)=>c (aUO H)|_=>B)=c g),ru KT,←b]),mY Ab,m6 ((oo (aVX uH)[a.ad]? (c r1) (ox (jT (aVX uH) qv aP3) j (ar.aO (! j))) B)=_),Ab,ru KT];rfl
def ZB(x)(i)(o:u)(b:i.z<10):lm (aVX (sp i)) a.ad (aQf o) nG=c (aVX (uG (dq (fN i (o+2))))):=by unfold lm;rw[ru KT,m6 ((nK (rH dq i<dv) nJ)=_),c0 (by unfold dq;rw[r.hN,mW (ĵ b)]),sr (nc o+2) (ob (o+2)) e,Ki,ru ZC]
end
abbrev aCn:cx:=(nA (.f_ (.aft (.A 4) (.bp 18 (.s (sO "tab") (nA (.eT pn "force" (nA sw))))))))
def U8:∀(a)(aS:pN)(h)(aM)(f g:u)(abW:f≠g)(a0)(bq)(hD:yT f)(U:a0.mi=bq)(f6)(il:vf∉f6)(iQ:f6.z<10)(fe fi adE)(V)(abY:fZ (ñ n0 aCn) 6 B (cS bq) (adZ a aM zo Ź fi) aVw=c (na,adZ a aM zo Ź adE,(a.dG (uG (dq (fN f6 vf))) Ŭ).G)),f0 T n0 auG (adZ a aM zo fe fi) (a.dG aOG (vb aQg)).G=c (na,adZ a aM zo Ź adE,(a.dG (uG (dq (fN f6 vf))) Ŭ).G):=by rw[mY a,mY aS,mY h aM f g,mY abW,mY a0 bq,mY hD U,mY f6,mY il iQ,mY fe fi adE V,mY abY];have ba:=Pm a aS aOG aQg T n0 (adZ a aM zo fe fi) e;have d5:(z2==zo)=Y:=rJ acw;(have fC:(!(z2==0))=F:=sh (acw (show z2≠0 by omega)));have Ab:=aST ZA (dq f6) z2 ((Ka f6 vf).ah (jq il));have lf:=ZB a aS m_ f6 f iQ;have aIc:pE aVw (.D 4) aQg=c (wj (26+f)):=D5 (a.dG (uG (dq (fN f6 vf))) m_) f _ hD;(have mq:gz T aVw (wj (26+f)) "bases"=c (zy bq):=by rw[m2 (Jw (a.dG (uG (dq (fN f6 vf))) m_) f _ hD),m5,o6 U,mW aa]);exact pK [aZ ba,rN d5,qa EJ fC,p Ab,aaG lf,p aIc,p mq,os (pj F8 y (zy bq) i (cS bq) x B e abY)]
def U9:∀(a:aH)(aS:pN)(al:n1)(aD:nL)(fw:vB)(hL:aU9)(h:u)(aM:R)(g:u),∀(f ac gc:u)(f6:nq)(fe fi:pl),f<ac→vf<gc→f<al.z→f6.z+f<10→(oG f6 (vf<j))→∃fl l acd V,ae8 (adA T n0 p6) (ñ n0 auG) gc (adZ a aM zo fe fi) (a.dG aOG (vb aQg)).G=c (fl,l,(a.dG aUE Ŭ).G)∧((aeb al g ac f=F∧fl=aOS)∨(aeb al g ac f=Y∧fl=na)):=by rw[ug,mY aS];injections al aD;rw[mY fw hL,yb aM g];have aeF:∀fe fi k(V:nC),adA T n0 p6 (adZ a aM zo fe fi) (a.dG k Ŭ).G=c (! V.dD,(a.dG k Ŭ).G):=fun fe fi k V=>Qf vO (Ln (ť Id));intro f;induction f using u.awz with|ind f ih=>intro ac gc f6 fe fi b2 adY a_ iQ aeE;obtain⟨ade,e⟩:∃ade,ac=ade+1:=⟨ti,m4 (yv Br [f,ac,ti] pR pR e (rz (s7 (Ag [f,ac,ti] 1 ai nm ai e b2))))⟩;obtain⟨gg,e⟩:∃gg,gc=gg+1:=⟨gc-1,m4 (yv Br [f,gc,gc-1] pR pR e (rz (s7 (aQE [f,gc,gc-1] ai wJ ai e adY))))⟩;have h1:=aeF fe fi aOG [aQg];rw[nH abW f g,mZ ih aeE iQ adY b2 aeF];subst abW;rw[mX AQ _ (adZ a aM z2 Ź fi) f6 ([]) ?_ (aQ.bT (qS vp))];have ba:=Pm a aS aOG aQg T n0 (adZ a aM z2 fe fi) e;have:f0 T n0 auG (adZ a aM z2 fe fi) (a.dG aOG (vb aQg)).G=c (aOS,adZ a aM z2 Ź fi,(a.dG aOG m_).G):=pK [aZ ba,p (nI AH f z2 g z2 (aaV _))];simp only[Lr,h1];rw[m6 (m7 afw=_),tf];rfl;have hD:nX a.ds f (a.ds[f]'(u.k0 a_ hL.adS)):=Ű;have aCa:=hL.ds f _ hD;have afx:n9 al f al[f]:=r.hV a_;rw[ou (fw.up f _ afx) aE6 aNC,m1 (vf∉f6) (fun bK=>u.apy _ (aeE _ bK)),mY il,m1 (f6.z<10) (u.hO (m7 u.acK) iQ),mY aI6];have bD:=fun bq Q=>U8 a aS h aM f g abW _ bq hD Q f6 il aI6 fe fi;clear hD;induction cK:al[f]using R.ae with|aeQ aP=>rw[cK]at afx;(obtain⟨akw,e⟩:∃akw,gg=akw+1:=⟨gg-1,m4 (yv Br [f,gg,gg-1] pR pR e (rz (s7 (aQE [f,gg,gg-1] ai wJ nN e adY))))⟩);rw[m1 (rD aaU f=[]) (ķ aaU afx),mY aau,mX AQ na _ (fN f6 vf) ([]) ((qm DH h1 (bD [] (aCa.ah aau) fi [] (BG ..))).ah (m7 (p5 Fu akw) (n7 aeF []))) (aQ.bF (qS (by simp only[PH,PI,cH abW,afx])))]|gq aP=>rw[cK]at aE6 afx;have aeG:aP<f:=R.aa7.mp aE6;(have aJk:aP<aD.z:=nb hL.c9 (u.mN aeG a_));have mo:n9 aD aP aD[aP]:=r.hV aJk;rw[m1 (rD aaU f=[aD[aP].v]) (by unfold aaU;rw[afx,m6 ((match aD[aP]? with|c d=>[d.v]|B=>[])=_),mo]),mY aau,m2 (hL.cl aP _ mo),mY iC];revert aau iC;generalize aD[aP].v=v;intro aau iC;have afy:=RS (a.dG (uG (dq (fN f6 vf))) m_) h _ _ iC;have aIm:=F_ (a.dG (uG (dq (fN f6 vf))) m_) h oF;(have J:ny n0 (.aft (.A 4) (.bp 18 (.s (sO "tab") (nA (.eT pn "force" (nA sw)))))) (adZ a aM zo Ź pZ) aVw=c (.B,(a.dG (uG (dq (fN f6 vf))) (vb (aQf aP))).G):=q0 (sb (w3 Lu n0) vR aVw aVw (oh [aQf aP]) [aQf aP] [] [] vO (ť Id) (qX [aZ aIm,aZ afy]) e (ť Id) (aRX (1<dv))) (ru Pn));rw[m2 ((BO (ñ n0 aCn) 6 oF [] (adZ a aM zo Ź fi) aVw _ _ (pK [aZ J])).ah (BG _ 6 (adZ a aM zo Ź pZ) (a.dG (uG (dq (fN f6 vf))) (vb (aQf aP))).G)),mY abY,mX AA (ih aP aeG ade gg (fN f6 vf) Ź pZ (m4 (aV7 (aWc [f,ade,aP]) b2 aeG)) (m4 (aV7 (oa Am [f,gg,aP] (a8+2) ai wJ) adY aeG)) (m4 (aQM (aWc [f,al.z,aP]) a_ aeG)) (q8 (HT f6 vf) (oa Bu [f,f6.z,aP,(fN f6 vf).z] (eK+a8) 10 (ai+S) 10 (a8+1) S eK nN e iQ aeG aa)) (fun j J=>by rw[nt ((sF N2).1 J),x',m9,n8,m8,mW u.mN (u.agc aeG 2) (pa aeE),mW u.agc aeG 2])) fun fl l acd V Q h2=>?_,mW AQ fl l acd V ((ni (p5 DH gg) h1 (bD _ (aCa.ah aau) _ _ abY)).ah Q) (aUk PH PI (cH abW) afx h2)]
def U7:∀(a:aH)(aS:pN)(al:n1)(aD:nL)(fw:vB)(hL:aU9)(h f g:u)(a_:f<al.z),pG 2 22 [tJ,aQg,pf zo] (n5 (aeb al g (f+1) f)):=by rw[ug,mY aS];injections al aD;rw[mY fw hL,yb f g,mY a_];have ab0:=fw.c9;refine AA (U9 a aS al aD fw hL h z2 g f (f+1) al0 [] B B (u.aiI _) (by unfold al0;exact t5 [f,al.z] wJ 4096 nm ai ai 4 e a_ ab0) a_ (show 0+f<10 by exact t5 [f,al.z] (0+S) 10 nm ai ai 4 e a_ ab0) (fun P b=>aOi)) fun fl l acd V Q h2=>?_;have g1:ny n0 (.lK F) [ve,Ź,w6 zo,B,B,B,B] a.G=_:=ru OU;have gW:ny n0 (.hw (nA qc)) [ve,Ź,w6 zo,sS,B,B,B] (uI sj)=_:=KL _ (Ï D_ _) (vs:=[aQg]) e;rw[IT]at gW;simp only[Sb];rw[mZ ab0 a_,nY h2 h2,mY J,nV,ng,oc h2,m9,mY J,nV,ng,oc h2,m8,h2,mW (uU (pK [aZ g1,aZ gW,os ((Fw ..).ah Q)])).ah (Ny a aS aUE Ŭ _ e l),h2,mW (uU (pK [aZ g1,aZ gW,os ((Fw ..).ah Q)])).ah (Ny a aS aUE Ŭ _ e l)]
structure aai(a:aH)(al:n1)(d:aR):Prop where
 eY:∀o,d.eu=pY→o<al.z∧q' d.v (z4 (o+2))∧∃a0,yT o∧a0.cA=1
 afW:d.eu=0→∃l,n9 a.ak d.v l∧(∀aj,l=nP aj→∃aap a0,aj=aap+2∧yT aap∧a0.cA=2)
set_option tactic.hygienic true in
def MJ:∀(a)(aS:pN)(al)(aD)(fw:vB)(hL:aU9)(h)(k v)(bN:zx k)(pt:zx v),pG 3 47 [tJ,.m k.v,.m v.v] (n5 aPE):=by rw[ug,mY aS];injections al aD;rw[mY fw hL,yb k v,mY bN pt];(have cA:∀(j:aR),zx j→∃l,n9 a.ak j.v l∧((l.o=9∧∃aj a0,l=z4 Ġ∧Ľ∧((j.eu=aj+1∧a0.cA=1∧aj<al.z)∨(j.eu=0∧a0.cA=2)))∨(l.o≠9∧j.eu=0)):=by intro j mS;induction J:j.eu using u.ae with|gk o=>(obtain⟨Q,h2,a0,h3,h4⟩:=mS.eY o J);exact(aOo (vT h2) (qd e (Au o a0 e h3 (aQ.bT (AE e h4 Q)))))|hf=>rw[so mS.afW J,mY l Q h2,mX Ad l Q ?_,mZ Q,nH aG l.o 9];left;rw[y0 aG];induction l using a9.ae<;>simp[a9.o]at aG;rename_i aj;rw[m3 At (h2 aj e),mZ h2];rintro aap a0 e h3 h4;rw[mW (É (Au aap a0 e h3) (wy h4)),mW aQ.bF (qS aG)]);rw[nD (cA k bN) f a_ aCG,nD (cA v pt) g U aCH];have jb:=sP _ f a_;have dt:=sP _ g U;have aiF:=Bo a.G f;have aJW:=Bo a.G g;rw[mZ a_,nY aCG aCG,mY J];rcases J with(⟨aG,aj,a0,e,hD,ak8⟩);rw[m9,mY J,nV,ng];rintro aG ba;rw[m8,mZ U,nY aCH aCH,mY J];rcases J with(⟨ad2,aap,jx,e,ajv,aCp⟩);rw[m9,aO0 ad2 dg,m8];have afp:=aRx D5 hD;have azX:=D5 a aap jx ajv;have aar:=aRx M6 hD;have aq7:=M6 a aap jx ajv;rw[nY ak8 ak8,mY J,Õ,ng];rintro Q h2 h3;rw[m9,mY J,nV,ng];rintro Q h2;rw[m8];rw[h2]at aar;rw[nY aCp aCp,mY J,Õ,ng];rintro jQ kT amN;rw[m9,mY J,nV,ng];rintro jQ kT;rw[m8];rw[kT]at aq7;have aau:=U7 a aS al aD fw hL h aj aap h3;rw[show aPE=!(aeb al aap (aj+1) aj)by simp[lX,Q,jQ],mW (nd FN [sC,xn,.K,.K,.K,.K,.K,p afp,p aar,.K,.K,p azX,p aq7,.K,.K,.K,aZ aau])];rw[kT]at aq7;rw[show aPE=Y from É c0 jQ,mW (nd FN [sC,xn,.K,.K,.K,.K,.K,p afp,p aar,.K,.K,p azX,p aq7,.K])];rw[h2]at aar;rw[show aPE=Y from aOo c0 Q,mW (nd FN [sC,xn,.K,.K,.K,.K,.K,p afp,p aar,.K])];(have t:(g.o==9)=Y:=o7 ad2);rw[show aPE=Y from É c0 dg,mW (nd FN [sC,xn,.K,.K,p aJW,p (EJ (by rw[t]))])];(replace t:(f.o==9)=Y:=o7 aG);rw[show aPE=Y from aOo c0 ba,mW (nd FN [sC,xn,p aiF,p (EJ (by rw[t]))])]
abbrev aaC(al:n1)(aD:nL)(hE:N)(o:u)(a0:lr):lr:={a0 with mi:=aVR}
abbrev aH.e'(a:aH)(al:n1)(aD:nL)(hE:N):aH:=oP ds (a.ds.ad8 (rD aaC hE))
abbrev aH.acV(a:aH)(o:u)(g:nq):aH:=oP ds (a.ds.aDT o fun a0=>{a0 with mi:=g})
def T2(aq)(i)(o)(g)(a0)(b:n9 i o a0):ii aq (i.aDT o fun a0=>{a0 with mi:=g})=(ii aq i).b6 o (jM (aq+o) a0.cA "C" a0.bD g):=by induction i generalizing aq o with|C=>rw[Đ]|s f i ih=>rw[uL o (by rw[sB r.aoJ ap.c.fV,mZ ih,pq];rfl) o (by rw[xh r.agv];simp only[r.modify_succ_cons,Hp,Hq,r.aEz];rw[ih xj o b,rh (xj+o) (aq+pY) (BI [aq,o] zq tS e)])]
def Aby:∀(a:aH)(o)(g)(a0)(b:yT o),a.G.b6 (26+o) (jM (2+o) a0.cA "C" a0.bD g)=(a.acV o g).G:=by injections a o g a0;rw[nR,aUc aG];(have aC:(a.acV o g).ds.z=a.ds.z:=rA aH.acV);(have iN:(a.acV o g).gl=a.gl:=by unfold aH.gl;rw[aC];rfl);rw[m1 ((a.acV o g).g8=a.g8) (by unfold aH.g8;rw[iN];rw[aH.l0,aC];rfl),mY aoX,m1 (a.gl≠26+o) (by unfold aH.gl;split<;>omega),mY dw,m1 (∀p,((a.g8++ii 2 _)++a.ca).b6 (26+o) p=(a.g8++(ii 2 _).b6 o p)++a.ca) (by rw[mY p,ž (qC (by simp[Bs,Ca])),m7 r.akf (qC (by simp only[Bs])),Bs,rh (26+o-26) o (q3 (Br (rV (26+o-26)) ai S (ai+26) zf e) (AJ (rV (26+o-26)) 26 zf e))]),p0,aPW,iN,aoX,nv r.awj dw,d,←T2 2 _ o g a0 b];rfl
def Xs(i:r lr)(o:u)(g:nq)(b:∀a0,n9 i o a0→a0.mi=g):i.aDT o (fun a0=>{a0 with mi:=g})=i:=by rw[aPY,mY q];rw[r.aBY]at⊢;rw[nH aCB o q];subst aCB;(induction aC:i[o]? using ap.ae with|B=>rw[Ŧ]|c a0=>rw[m2 (b a0 aC),m5];simp;induction a0 using lr.ae;simp_all);simp[aCB]
structure abL(a:aH)(al:n1)(aD:nL):Prop where
 fQ:aN7
 eY:a.lZ=aD.au aR.aY
 cl:∀(o:u)(d:aR),zc aD d→q' d.v (z4 (o+2))
 c9:aD.z=al.z
 adS:al.z≤a.ds.z
 afW:∀(o:u)(a0:lr),yT o→rD aaU o=[]→aUC
def RU{al}{aD}(fw:vB)(aC:aD.z=al.z)(o aP)(b:nX al o (.gq aP)):∃d,n9 aD aP d∧rD aaU o=[d.v]:=by rw[aUc aG,m2 (fw.up o _ b).1,mY cK];(have jf:aP<aD.z:=by rw[m1 (Ę<o) cK,mY h',mW u.k0 (u.mN (R.aa7.1 h') aG) (u.fp aC.cq)]);exact(Ad (aD[aP]) (r.hV jf) (by simp only[aaU,b,r.hV jf]))
def WR:∀(a)(al)(aD)(fw:vB)(hL:aQQ)(cf)(hE)(o)(aG:o<al.z)(eQ:pl),aQ9 f0 (nA (ts (on ge (r_ 2 p6) nr) (nA (.dU (õ ß (õ aOI (x1 p6) nr) nG) "bases" (.bC (.A 3) (qL (nA (rZ (õ qc ph p6) nr))) yl))))) (aTM tF)=c (na,aTM tF,(a.acV o aVR).G):=by rw[vj al aD,mY fw hL];injections cf hE o;intro aG eQ;have arr:zc al al[o]:=r.hV aG;(have arU:aVs xV qv al[o]:=by rw[Cq _ 24 _ o (HK a),hL.fQ];simp[arr]);have auu:nX a.ds o (a.ds[o]'(by rw[m2 hL.adS,m5];omega)):=Ű;induction cK:al[o]using R.ae with|aeQ aP=>rw[cK]at arU;(have arG:¬(tM≤R.aeQ aP):=n_);(have U:rD aaU o=[]:=by simp only[aaU,arr,cK]);rw[m1 (a.acV o aVR=a) (by rw[U];unfold aH.acV;rw[show(if hE then([]:nq)else[])=[]by split<;>rfl,Xs a.ds o [] (fun a0 hD=>hL.afW o a0 hD U)]),mY hs,hs,mW (pK [p arU,sZ CR jq arG])]|gq aP=>rw[cK]at arU arr;have aDq:aVs xV qv Ę:=arU;rw[nD (RU fw hL.c9 o aP arr) d he U];have aB6:nX aD o (aD[o]'(wT hL.c9)):=Ű;(have aJx:pE a.G wp qv=c (aD[o]'(wT hL.c9)).aY:=by rw[n7 Cq o (EY a),hL.eY];simp[aB6]);(have aJy:pE a.G wp (.m Ę)=c d.aY:=by rw[Cq _ 25 _ aP (EY a),hL.eY];simp[he]);rw[m2 (hL.cl o _ aB6),mY iC];(have apc:tM≤Ę:=m4 (A4 [↑aP] 0 b5 0 b5 e vU));have Aw:=ui F1 (aD[o]'(wT hL.c9));rw[xE aG1 F1 d];have aJG:=sP _ _ iC;have aax:eC a.G (a9.bI (o+2)).aY nG=c (aQf o):=D4 ..;have afp:=D5 a o _ auu;rw[m1 (oD (aU _ cf (.bC (.A 3) (qL (nA (rZ (õ qc ph p6) nr))) yl) (aTM tF) a.G) (qL (cS aVR))) (by rw[rs hE (by rw[U,mW (qX [p aDq,p aJy,p aG1])]) (by exact aQo)]),mY i5];have au7:oD (aQ9 aU (õ ß (õ aOI (x1 p6) nr) nG) (aTM tF)) (wj (26+o)):=qX [p aJx,ė,p aJG,ū,p afp];(have afH:aQ9 dP (.dU (õ ß (õ aOI (x1 p6) nr) nG) "bases" (.bC (.A 3) (qL (nA (rZ (õ qc ph p6) nr))) yl)) (aTM tF)=c (na,aTM tF,(a.acV o aVR).G):=nb (n7 (qm Ep) 1 _ i5 au7 (EZ a o _ auu) e qg) (cr (nF (c (ls.bU,([nJ,nJ,nJ,nJ,nJ]:du),j))) (Aby a o _ _ auu)));exact pK [p aDq,sZ CR hZ apc,os afH]
def GJ(f h:u):k5 vn 1 nB=th::k5 (ob (f+1)) 1 h:=sg GH GI
def abL.acV{a:aH}{al:n1}{aD:nL}(hL:aQQ)(o:u)(hE:N):abL (a.acV o aVR) al aD:={fQ:=hL.fQ,eY:=hL.eY,cl:=hL.cl,c9:=hL.c9,adS:=aSd aH.acV r.length_modify hL.adS,afW:=fun aq a0 b U=>by rw[sB aH.acV r.aBY];induction hd:Ã a.ds using ap.ae with|B=>rw[xh hd,Đ]|c aqp=>rw[xh hd,m2 (hL.afW aq aqp hd U),mY bf,nH aCI o aq,mZ hd];subst aCI;rw[Đ,pq,U];simp;simp[aCI]at b;rw[pq,mW bf]}
def WP:∀(al)(aD)(fw:vB)(cf)(hE),∀(H o)(a)(eQ),aQQ→o+H=al.z→∃agY,fZ (f0 T cf (nA (ts (on ge (r_ 2 p6) nr) (nA (.dU (õ ß (õ aOI (x1 p6) nr) nG) "bases" (.bC (.A 3) (qL (nA (rZ (õ qc ph p6) nr))) yl)))))) 4 B (k5 uQ 1 H) (aTM eQ) a.G=c (na,aTM agY,yt ds (a.ds.ad8 fun aq a0=>if o≤aq∧aUR then aaC al aD hE aq a0 else a0)):=by injections al aD;intro fw;injections cf hE;intro H;induction H with|hf=>rw[mY o a eQ hL aG,y0 eQ];(have:(oP ds (a.ds.ad8 fun aq a0=>if o≤aq∧aUR then aaC al aD hE aq a0 else a0):aH)=a:=by rw[m1 ((a.ds.ad8 fun aq a0=>if o≤aq∧aUR then aaC al aD hE aq a0 else a0)=a.ds) (by rw[aPY,mY q,r.agw,m1 (¬(o≤q∧q<al.z)) (m4 (Ye aG)),m5];simp[aa]),m5,tf]);rw[aa,mW ę]|gk H ih=>rw[mY o a eQ hL aG,n4 (ih pY _ tF (hL.acV o hE) (m4 (Br [o,H,al.z] zq a8 tS a8 e aG))) agY b,y0 agY,GJ,m2 (w8 WR fw hL cf hE o (m4 (Ag [o,H,al.z] (S+1) a8 tS a8 e (Az aG))) eQ),mY cU,mX (zr cU).ah (b.ah ?_)];congr 3;rw[m6 ((({a.acV o aVR with ds:=_}:aH)).G=_),uh];unfold aH.acV;rw[m3 cr (fun aj=>(oP ds aj:aH)),aPY,mY q];simp only[r.agw,r.agw,r.aBY];induction rS a.ds using ap.ae with|B=>rfl|c a0=>simp only[ap.ji,ap.c.fV];rw[nH arB o q];subst arB;rw[m1 (¬(pY≤o∧o<al.z)) (m4 (nF (u.not_succ_le_self o sz))),mY Q,m1 (o≤o∧o<al.z) (m4 ⟨AJ ua S S e,Ag [o,H,al.z] (S+1) a8 tS a8 e (Az aG)⟩),mY h2,c0 h2];simp[aaC];by_cases h2:o≤q∧q<al.z;rw[m1 (pY≤q∧q<al.z) (m4 ⟨u.ar4 h2.1 arB,h2.2⟩),mY Q];simp only[c0 Q,c0 h2];simp[arB];rw[m1 (¬(pY≤q∧q<al.z)) (m4 (nF (rW h2 (u.ajS sz) j.2))),mY Q];simp only[cH Q,cH h2];simp[arB]
def RT(al)(aD)(o)(b:al.z≤o):rD aaU o=[]:=aP2 aaU (r.aii b)
def Fk(H:u)(b:H<2000):acc [.m H]=c (k5 (ob 0) 1 H):=by rw[m2 (DG H b),mY hs,m1 (acc [.m (nc H)]=nK (g2 (nc H)=F) (c (k5 0 1 (nc H).es))) e,m5,aa,c0 hs,R.akh];rfl
def WO(a:aH)(al:n1)(aD:nL)(hL:aQQ)(hE:N):(oP ds (a.ds.ad8 fun aq a0=>if 0≤aq∧aUR then aaC al aD hE aq a0 else a0):aH)=rD a.e' hE:=by rw[m1 ((a.ds.ad8 fun aq a0=>if 0≤aq∧aUR then aaC al aD hE aq a0 else a0)=a.ds.ad8 (rD aaC hE)) (by rw[aPY,mY q,r.agw,r.agw];induction hd:rS a.ds using ap.ae with|B=>rfl|c a0=>simp only[ap.ji,ap.c.fV];rw[y5 Ab al.z,c0 ⟨m4 (AJ [q] 0 S e),Ab⟩];rw[cH (m4 (nF (Ab j.2)))];have U:=RT al aD q (m4 (u.mO.1 Ab));rw[m2 (hL.afW q a0 hd U),mY aa];dsimp only[aaC,U];clear hd;induction a0 using lr.ae;simp_all),m5];unfold aH.e';rw[tf]
def G0(O:mE)(cf:iV)(q:u)(Aa:hG)(g:cx)(l:du)(w a4:ch)(vs i:nC)(b:o5 aN1 vs)(br:acc vs=c i):pU dP (.mn q Aa g)=fZ aRd q B i l a4:=by simp only[Ly,b];rw[m6 ((acc vs).bP _=_),br];rfl
def K6{O}{cf}{g}{q}{l}{w}{vs t}{V}(br:acc vs=c t)(b:fZ aRd q B t l w=V):((acc vs).bP fun t=>fZ aRd q B t l w)=V:=nb br b
def H3(a)(al)(aD)(fw:vB)(hL:aQQ)(h)(hE):Ř 82 [oW,wp,xV,qP hE]=c (.B,(rD a.e' hE).G):=by rw[n4 (WP al aD fw nT hE al.z 0 a B hL (m4 (BI [al.z] (0+S) S e))) agY b,pr (WO a al aD hL hE)];have ab0:=fw.c9;have amW:rm (ui acN xV) al.z:=CW (Fm (hL.fQ▸HK a)) (y7 r.hN);exact nd SB [p amW,os (K6 (Ů Fk _) b)]
def Ab0:∀{f g x dE bZ c' an1 ajk an9}(b:gX f g x dE bZ c'=F)(o:gX dE bZ c' an1 ajk an9=F),gX f g x an1 ajk an9=F:=by injections f g x dE bZ c' an1 ajk an9;intro b o;simp only[gX,N.c3,N.acR,Ee]at b o⊢;rw[wG b,mZ b];rintro Q h2;rw[wG o,mZ o];rintro j6 hM;rw[y0 (fun q Ab=>j6 q (Q q Ab)),nY h2 h2];rintro h2;rw[m9,mY J,nV,ng];rintro h2 h3;rw[m8,mW aQ.bT h2,nY hM hM];rintro hM;rw[m9,mY J,nV,ng];rintro hM ajO;rw[m8];left;rw[m1 (bZ=0) (o7 hM),mY aa,mZ hM,uM,m1 (g=0) (by apply u.aua;intro q;induction U:g.ln q using N.ae with|Y=>simp|F=>rw[m2 (h2 q U),m5];simp at aa),m5];simp[aa];exact rW aQ.bF (fun q Ab=>hM q (h2 q Ab)) (fun q Ab=>ajO q (h3 q Ab))
set_option tactic.hygienic true in
def C5(q f g x:u)(v:bv)(aG:hb (pg q f g x) v=F):∀k:bv,hb k (pg q f g x)=F→hb k v=F:=by intro k;induction k using bv.jB (hv:=te (agX i (pg q f g x)=F→agX i v=F))with|cl aq dE bZ c'=>rw[nR];(induction v using bv.ae with|cl o an1 ajk an9=>exact Ab0 (show gX dE bZ c' f g x=F from b) (show gX f g x an1 ajk an9=F from aG)|bY=>rw[qT aG]|un=>rw[qT aG])|bY aq k ih=>rw[nR,mW N.anq.2 (.bF (ih b))]|un i ih=>rw[nR,mW ŭ]|C=>rfl|s k i aiC aiD=>rename_i b;simp only[It,Iu,N.c3]at b⊢;exact⟨aiC od,aiD qK⟩
set_option tactic.hygienic true in
def Ir(H:bv)(cj:tK)(bK:H∈cj):∀k:bv,hb k H=F→lO k cj=F:=by intro k;induction k using bv.jB (hv:=te (agX i H=F→ae0 i cj=F))with|cl aq dE bZ c'=>rw[nR];simp only[A6,A7,A8,r.gZ];exact⟨H,bK,b⟩|bY aq k ih=>rw[nR];simp only[A6,A7,A8,N.acR,r.gZ];exact aQ.bT ⟨H,bK,b⟩|un i ih=>rw[nR];simp only[BA,BB,BC]at b;simp only[A6,A7,A8];exact ŭ|C=>rfl|s k i aiC aiD=>rename_i b;simp only[It,Iu,GV,GW,N.c3]at b⊢;exact⟨aiC od,aiD qK⟩
abbrev al7(bh:bv)(ec:tK):Prop:=(∀st,hb bh st=ec.db fun k=>hb k st)∧(∀cj,lO bh cj=ec.db fun k=>Ķ cj)
abbrev adJ(ks ec:tK):Prop:=(∀o∈ks,o∈ec)∧(∀k∈ec,k∈ks∨∃q f g x V,V=bv.cl q f g x∧V∈ks∧(∃aq dE bZ c',k=pg aq dE bZ c')∧hb k V=F)
def adJ.all1{ks ec}(b:adJ ks ec)(st):(ks.db fun k=>hb k st)=ec.db fun k=>hb k st:=by rw[N.ada,r.hp,r.hp];constructor;rw[mY aG k hs,nt (qK k hs)];rintro h';rw[m9,mY J];rcases J with(⟨q,f,g,x,V,e,ei,_,aS⟩);rw[m8,mW aG k h',mW C5 q f g x st (aG _ ei) k aS,mY hs o aG,mW hs o (od o aG)]
def adJ.LP{ks ec}(b:adJ ks ec)(cj):(ks.db fun k=>Ķ cj)=ec.db fun k=>Ķ cj:=by rw[N.ada,r.hp,r.hp];constructor;rw[mY aG k hs,nt (qK k hs)];rintro h';rw[m9,mY J];rcases J with(⟨q,f,g,x,V,e,ei,⟨aq,dE,bZ,c',e⟩,aS⟩);rw[m8,mW aG k h',m2 (aG _ ei),mY aa,aWk aa,oz aa H bK d,mW Ad H bK (C5 q f g x H d _ aS),mY hs o aG,mW hs o (od o aG)]
def QF{ks ec}(b:adJ ks ec):al7 aSp ec:=⟨fun st=>aUk BA BB BC Is (b.all1 _),fun cj=>aUk A6 A7 A8 GU (b.LP _)⟩
def QG{o}{ec}(b:adJ ua ec):al7 o ec:=⟨fun st=>by rw[←b.all1 st];simp,fun cj=>by rw[←b.LP cj];simp⟩
abbrev acZ:bv:=zA 1
def LI{ec}(b:acZ∈ec)(aJ:∀k∈ec,hb k acZ=F):al7 acZ ec:=by constructor;intro st;rw[N.ada,r.hp]at⊢;constructor;rw[mY aG k hs,mW (ni C5 st aG k (aJ k hs)),mY hs,mW hs _ b,mY cj];rw[N.ada,r.hp]at⊢;constructor;intro aG k hs;simp only[acZ,A6,A7,A8,r.gZ]at aG;rw[oz aG H bK d,mW Ir H cj bK k (ni C5 H d k (aJ k hs)),mY hs,mW hs _ b]
def adJ.B3{ks ec}(b:adJ ks ec):∀k,Ķ ks=Ķ ec:=by(have Q:∀k:bv,ks.dS (hb k)=ec.dS (hb k):=by rw[mY k,N.ada,r.gZ,r.gZ];constructor;rw[mY J,sE,ng];rintro o aG d;rw[mW ⟨o,od o aG,d⟩,mY J,sE,ng];rintro j J d;rw[nt (pa qK)];rintro h';rw[m9,mY J];rcases J with(⟨q,f,g,x,V,e,ei,⟨aq,dE,bZ,c',e⟩,aS⟩);rw[m8,mW Ad j h' d,mW (vT ei (oM C5 aq _ aS k d))]);intro k;induction k using bv.jB (hv:=te (ae0 i ks=ae0 i ec))with|cl aq dE bZ c'=>simp only[A6,A7,A8];exact Q _|bY aq k ih=>simp only[A6,A7,A8,Q,ih]|un i ih=>simp only[A6,A7,A8];exact ih|C=>rfl|s k i aiC aiD=>simp only[GV,GW,aiC,aiD]
def Acp(o)(aG:o.jg=Y):∀k,Ķ ua=hb k o:=by intro k;induction k using bv.jB (hv:=te (ae0 i ua=agX i o))with|cl aq dE bZ c'=>simp[A6,A7,A8]|bY aq k ih=>simp only[A6,A7,A8,ih,r.akD,r.any_nil,N.apQ];exact m7 (nw:∀ag j:N,((ag||j)||j)=(ag||j))|un i ih=>simp only[A6,A7,A8,BA,BB,BC];exact ih|C=>rfl|s k i aiC aiD=>simp only[GV,GW,It,Iu,aiC,aiD]
set_option tactic.hygienic true in
def Aco{cj aiK}(b:∀H∈cj,H∈aiK):∀k,lO k cj=F→lO k aiK=F:=by intro k;induction k using bv.jB (hv:=te (ae0 i cj=F→ae0 i aiK=F))with|cl aq dE bZ c'=>rw[mY hs,aWk hs,oz hs H bK d,mW Ad H (b H bK) d]|bY aq k ih=>intro hs;simp only[A6,A7,A8,N.acR,r.gZ]at hs⊢;rw[nY hs hs,mY J,sE,ng];(rintro H bK d);rw[m9];(rintro hs);rw[m8,mW aQ.bT (Ad H (b H bK) d),mW aQ.bF (ih hs)]|un i ih=>intro hs;simp only[A6,A7,A8]at hs⊢;exact ih hs|C=>rfl|s k i aiC aiD=>rename_i hs;simp only[GV,GW,N.c3]at hs⊢;exact⟨aiC hs.1,aiD hs.2⟩
def Acn:∀{a:aH}{hs os:tK}(hc:oG hs (lO j os=F))(aJ:oG hs (j.jg=Y∧∃q,ty q j∧∀aq ab,j=.bY aq ab→aq=q)),∀{q:u}{k:bv},uu q→lO k hs=F→lO k os=F:=by rw[vj hs os,mY hc aJ,mY q k y];induction y with|i9 q g n=>rw[nR,aWk b,oz b j J d,m2 (pa hc),m5];(induction j using bv.ae with|cl aq dE bZ c'=>simp only[A6,A7,A8,r.gZ]at aa;rw[oz aa H bK a5,mW Ad H bK (oM C5 aq H a5 _ d)]|bY=>rw[wS]|un=>rw[wS])|iv=>rw[nR,aWk b,oz b j J d,m2 (pa hc),m5];(induction j using bv.ae with|cl aq dE bZ c'=>simp only[A6,A7,A8,r.gZ]at aa;rw[oz aa H bK a5,mW Ad H bK (oM C5 aq H a5 _ d)]|bY=>rw[wS]|un=>rw[wS])|lk=>rw[nR,aWk b,oz b j J d,m2 (pa hc),m5];(induction j using bv.ae with|cl aq dE bZ c'=>simp only[A6,A7,A8,r.gZ]at aa;rw[oz aa H bK a5,mW Ad H bK (oM C5 aq H a5 _ d)]|bY=>rw[wS]|un=>rw[wS])|D=>rw[nR,aWk b,oz b j J d,m2 (pa hc),m5];(induction j using bv.ae with|cl aq dE bZ c'=>simp only[A6,A7,A8,r.gZ]at aa;rw[oz aa H bK a5,mW Ad H bK (oM C5 aq H a5 _ d)]|bY=>rw[wS]|un=>rw[wS])|bI=>rw[nR,aWk b,oz b j J d,m2 (pa hc),m5];(induction j using bv.ae with|cl aq dE bZ c'=>simp only[A6,A7,A8,r.gZ]at aa;rw[oz aa H bK a5,mW Ad H bK (oM C5 aq H a5 _ d)]|bY=>rw[wS]|un=>rw[wS])|bY q n g k aV bj cV gp y ih=>rw[nR,m1 (ty q _) (.bY q n g k aV bj cV gp y),mY fD];simp only[A6,A7,A8,N.acR,r.gZ]at b;rw[Œ,mY J,sE,ng];(rintro j J d);rw[m9];(rw[oe]);rw[m8];simp only[BA,BB,BC,N.acR]at d;rw[nY d d];(rw[y1]);rw[m9];(rw[y1]);rw[m8];(induction j using bv.ae with|cl=>rw[wS]|un=>rw[wS]|bY aq ab=>rw[m2 (o7 d),mY aip,oA];subst aip;obtain⟨_,aM5,lQ,ms⟩:=aJ _ J;rw[m2 (ms q ab e),mY aa,mZ ms,uM];rw[fD.fn lQ]at⊢;exact hc _ J);rw[m2 (Ir j _ J k d),mY aa];simp only[A6,A7,A8,N.acR];exact aQ.bF (ih aa);simp only[A6,A7,A8,N.acR];exact aSz ih|un q i dr _ _ _ _ aC _ _ ih=>rw[nR];simp only[A6,A7,A8,GU,r.hp]at b⊢;rw[tr,aPZ aq cQ (r.apA.1 J),mW ih aq _ _ (aUF (Am (aVb dr.z) (a8+1) S ai S (a8+1) ai e (AN aC) cQ)) Ű (b _ J)]
inductive iK(a:aH):aR→Prop|cl(v f g x Av:u):sl v (pg v f g x)→iK a (ra v f g x Av [])|bY(v n g:u)(bh:bv)(i:nL)(ec:tK):q' v v3→xe v→abR a n=c g→vd v→ty g bh→qe i→i.z=ec.z→(oG i (iK a j))→(∀(aq:u)(j:aR)(k:bv),p7 i j→p7 ec k→uu j.v)→al7 bh ec→(g=1∨(∃j∈i,g=j.v)∨(∃H,q' g (qr H)∧∀t∈H,∃j∈i,t=j.v))→iK a (ra v 0 0 0 0 i)
def iK.bx{a z'}(b:yx){d}(n:vy):iK z' d:=by induction n with|cl v f g x Av y=>exact pg v f g x _ (y.bx b)|bY v n g bh i ec aV bj cV gp y ky ahn _ aho aer afq ih=>exact .bY v n g _ i _ (nv b.ak aV) bj (nv b.Cm cV) gp (y.bx b) ky ahn ih (fun aq j k Q h2=>(aho aq j k Q h2).bx b) aer (by rcases afq with Q|Q|⟨H,Q,h2⟩;rw[mW aQ.bT Q,mW (aOo aQ.bF Q),mW (aOz aQ.bF (Ad H (nv b.ak Q) h2))])
def iK.A'{a}{d}(n:vy):sl d.v (pF d.v)∧(cN a d.v).jg=Y∧(∀aq ab,pF d.v=.bY aq ab→aq=d.v):=by cases n with|cl v f g x Av y=>have:pF v=pg v f g x:=Be y;simp only[aR.v,aa];exact(AE y e (fun aq ab b=>Å))|bY v n g bh i ec aV bj cV gp y ky ahn _ aho aer _=>have fD:sl v (z9 v):=.bY v n g bh aV bj cV gp y;have:pF v=z9 v:=Be fD;simp only[aR.v,aa];exact(AE fD e (fun aq ab b=>by injection b with I L;rw[pi,qD];rfl))
def OI{a}{i:nL}{ec}(aC:i.z=ec.z)(b:∀(aq:u)(j)(k),p7 i j→p7 ec k→uu j.v):i.au (nF aUI)=ec:=by rw[aPY,mY aq,r.adg];by_cases cQ:aq<i.z;have a1:p7 i i[aq]:=r.hV cQ;have a2:nX ec aq (ec[aq]'(m4 (aQM (aV6 (aVb ec.z)) (Az aC) cQ))):=Ű;simp only[a1,a2,ap.ji,Be (b aq _ _ a1 a2)];rw[rJ r.aii,r.aii (m4 (Am (aVb ec.z) ai a8 ai S S a8 e (AN aC) (x7 cQ)))];rfl
def E6:∀{a}{j}(mS:iK a j){d}(dT:vy),yH=hb (pF d.v) aUI:=by rw[aP0 j,mY mS,p0,mY dT,m2 mS.A',mY lQ];induction dT with|cl v f g x Av y=>rw[mZ lQ,m1 (pF v=pg v f g x) (Be y),mY Aa];simp only[aR.v,Aa,Gk,r.ado,fU];(cases mS with|cl iu dE bZ c' aKJ fD=>rw[m2 (Be fD),mY afr];simp only[aR.v,aR.e8,aR.m0,aR.cC,aR.c4,afr,BA,BB,BC,r.ado,fU];rw[mZ afr,nH api v iu];subst api;rw[m2 (y.fn fD),m5,mZ fD];injection aa with I L Z x4;revert I;rw[aPl,qD];subst Z;subst x4;simp[gX];rw[m1 ((v==iu)=Y) (o7 api),m5,aa,N.ags]|bY iu n bZ bh i ec aV bj cV gp fD ky=>clear akA a_2 a_3 a_5;have fJ:sl iu (z9 iu):=.bY iu n bZ bh aV bj cV gp fD;rw[m2 (Be fJ),mY afr];(have dw:(v==iu)=Y:=by rw[m1 (v≠iu) (by rw[mZ aV bj gp afr,n8,m2 (y.fn fJ),m5];injection aa),m5,Ă]);rw[m1 (i.dD=Y) (by rw[aRi i ky]),mY aC];simp[aR.v,aR.e8,afr,BA,BB,BC,dw,aC])|bY v n g bh i ec aV bj cV gp y ky ahn aou aho aer afq ih=>rw[mZ lQ,mZ aou afq];have fJ:sl v (z9 v):=.bY v n g bh aV bj cV gp y;rw[m2 (Be fJ),mY Aa,m1 (i.dD=Y) (by rw[mZ ahn aho ih,aRi i ky]),mY aC];simp only[aR.v,Aa,Gk,aC,NX,N.aev,abv,BA,BB,BC];rw[m2 (OI ahn aho),mY bK,m1 ((i.db fun ab=>iE ab j)=m7 hb) (by rw[aer.1,←bK,r.atm];apply N.ada.2;rw[r.hp,r.hp];constructor;rw[mY b ab b0,m2 (wZ b),mY aa,o6 (wZ ih),mW aa,mY b ab b0,wZ ih,mW (wZ b)]),mY h2,mZ ih,h2,mZ h2,uh];cases mS with|cl iu dE bZ c' aKJ fD=>rw[m2 (Be fD),mY afr];(have dw:(v==iu)=Y:=by rw[m1 (v≠iu) (by rw[mZ afr,n8,m2 (fJ.fn fD),m5];injection aa),m5,Ă]);simp only[aR.v,afr,dw]|bY iu cw ajk akd l' aNv gE f2 i2 aet fD aoz=>rw[m1 (ty _ _) (ni .bY gE f2 i2 aet fD),mY eN,m2 (Be eN),mY afr];simp only[aR.v,afr]
def Do:∀{a:aH}{p:nL}(po:oG p (iK a j)){d:aR}(dT:vy),aRe=lO (pF d.v) (p.au (nF aUI)):=by rw[aP0 p,mY po,mY d,mY dT];(have ik:∀d,vy→p.dS (iE d)=(p.au (nF aUI)).dS (hb (cN a d.v)):=by rw[mY d dT,r.axG];apply N.ada.2;rw[r.gZ,r.gZ];constructor;rw[mY J,sE,ng];rintro j J b;rw[mW ⟨j,J,by rw[pr (E6 (pa po) dT),mW b]⟩,mY J,sE,ng];rintro j J b;exact⟨j,J,nb (E6 (pa po) dT) b⟩);induction dT with|cl v f g x Av y=>have Aa:pF v=pg v f g x:=Be y;rw[m2 (ik _ (.cl v f g x Av y)),m5];simp only[aR.v,Aa]at aa;simp only[FS,aa,aR.v,Aa,A6,A7,A8,r.ado,N.aDY,N.aeu,N.apQ]|bY v n g bh i ec aV bj cV gp y ky ahn aou aho aer afq ih=>rw[m1 (sl v (z9 v)) (.bY v n g bh aV bj cV gp y),mY fJ];have Aa:pF v=z9 v:=Be fJ;rw[m1 (i.dD=Y) (by rw[mZ ahn aou aho afq ih,aRi i ky]),mY aC,m2 (ik _ (.bY v n g _ i _ aV bj cV gp y ky ahn aou aho aer afq)),mY aa];simp only[aR.v,Aa]at aa;simp only[FS,aa,aR.v,Aa,A6,A7,A8,aC,MP,N.not_false,N.acf];rw[uh,m2 (OI ahn aho),mY bK,aer.2,←bK,r.atm];apply N.ada.2;rw[r.hp,r.hp];constructor;rw[mY b ab b0,m2 (wZ b),mY aa,o6 (wZ ih),mW aa,mY b ab b0,wZ ih,mW (wZ b)]
def T4(ao)(a')(b:aVo (kl ao v=qU))(j):j∈ù↔j∈a':=by rw[Gd];constructor;rintro(h'|⟨v,aS,J⟩);cases h';rw[b v aS]at J;rw[aQI,mW aS,mY J,mW aQ.bF ⟨j,J,nb (pa b) (r.i7.2 e)⟩]
def AcL:∀{a}{j}{k}(y:uu j)(cK:aUs)(K)(h6:ã 6 "string")(h7:ã 7 "number"),mU a.ak K j=F∨∃V g,(V=6∧g=120∨V=7∧g=384)∧V∈K∧(∃aq dE bZ c',k=pg aq dE bZ c')∧hb k (pg V g 0 0)=F:=by rw[vj j k,mY y cK];injections K;intro h6 h7;(have apK:∀l:a9,n9 a.ak j l→l.jE=-1→mU a.ak K j=F:=by intro l d ei;unfold mU;rw[d];simp only[ei,N.alH,aoo,r.fq,apH,apG,R.aiP];rw[mY ab b0 d,mW B4 (A5 [↑ab] 1 0 b5 (-1) 0 b5 e (R.fp d) vU)]);cases y with|i9 _ g n=>(rcases P7 a.ak K j g n (nO (AI 120 _ h6 (.st)))with b|⟨b,U⟩|⟨b,U⟩);rw[mW Í,mW aQ.bF (Bx 6 _ (aQ.bT zl) b (uF Hv e) (by simp[BA,BB,BC,gX,U])),mW aQ.bF (Bx 7 _ (aQ.bF zl) b (uF Hv e) (by simp[BA,BB,BC,gX,U]))]|iv d=>exact aQ.bT (apK _ d e)|lk d=>exact aQ.bT (apK _ d e)|D _ _ _ _ _ d=>exact aQ.bT (apK _ d e)|bI _ _ _ _ _ _ _ d=>exact aQ.bT (apK _ d e)|bY _ _ _ _ d=>exact aQ.bT (apK _ d e)|un _ _ _ _=>rw[qT cK]
inductive anZ(a:aH)(a':nq):t4 u oB|iv:1∈a'→anZ a a' 1 a.ak|gB(o:u):1∉a'→o∈a'→adJ [pF o] (xX a'.au)→anZ a a' o a.ak|jh(aP:u)(ao:oB)(ks:nq):1∉a'→ao=sy a.ak aSp→nX ao aP aSp→xe aP→qe ks→ks.z≤8→ks.fF→(∀o∈ks,o∈a')→adJ (xX ks.au) (xX a'.au)→anZ a a' aP ao
def Vu(q)(i)(b:i.fF)(Ab:q∉i):(ahE q i).fF:=qb i (by rw[qy]) f i (by rw[ou (r.l6.1 b) a_ aC];simp only[r.gA,aj5]at Ab;simp only[Gm,Gn];split;rw[mW r.l6.2 (sR (aSd r.gA aj5 Ab)),mX r.l6.2 ⟨?_,ih aC Ab.2⟩];rw[N3]at⊢;rintro(d|d);rw[mW Ab.1 d.cq,mW a_ d])
def AbK(i)(b:i.fF):(acW i).fF:=qb i (by exact b) f i (by rw[ou (r.l6.1 b) a_ aC,mW Vu f _ (ih aC) (fun bK=>a_ ((m7 Fo).1 bK))])
def WA(ao)(a'):(io ao a').fF:=(AbK _ (U5 ao a' [] r.ahO)).afu _
set_option tactic.hygienic true in
def Lp:∀(a)(M)(O)(aF:qG)(h)(a')(dw:qe a')(Q:a'.z≤8)(aJ:aVo (∃k,uu v∧aUs))(fT:aSO),∃(aP:u)(ao:oB),rE 3 8 [oW,v1 a']=c (Æ,î)∧(ao=a.ak∨∃j,ao=t6 eL j)∧anZ a a' aP ao:=by rw[vj M O,mY aF];injections h a';intro dw Q aJ fT;have h6:ã 6 "string":=Ŀ 6;have h7:ã 7 "number":=Ŀ 7;(have ba:aVo (t6 kl v=qU):=by rw[mY v aS,m3 Ac (aJ v aS),mY k y cK,oz y.gs l d P,mZ P,m2 (y.CY l d).1,m5];simp only[cK]at aa;unfold kl;rw[d];simp only[];rw[oA,y6 l a9.ae (by rw[qT aa])]);have aio:=T4 a.ak a' ba;(have ajB:(sm).z≤8:=by rw[m2 (nM HO [] 1 (fun v aS=>nb (ba v aS) yK)),m5];simp only[r.ana,u.aac,u.mul_one]at aa;omega);(have alc:oG sm (∃l,n9 a.ak j l∧aOv∧mR j):=by rw[tr,m3 Ac (aJ j ((aio j).1 J)),mY k y _,mW y.gs]);rw[m1 (qe (sF fj)) (by rw[m3 Al (aUj dw),mY v aS,nR];have:=(aio v).2 aS;rw[o6 b];cases aa),mY auX];have ajD:qe xI:=nM On h6 h7 (fun j J=>by rw[m3 Ac (pa alc),mY l d _,mW ⟨l,d,Qs l⟩]) auX;(have acE:∀j,j∈sm→mR j:=fun j J=>by rw[mX AF (pa alc) fun P P P b=>?_,mW b]);have adn:=Qm a h aF.kh n_ aF.aS (v1 a') a' aUr n_ (fun v aS=>by rw[m3 AF (alc v ((aio v).2 aS)),mY l d _ ho,mW AE (nj ho) (by rw[d];rfl) (nb (ba v aS) yK)]) n_ (fun j J=>by rw[mX AF (pa alc) fun l d ac P=>?_,mW Ad l d ac]) (oE ((acE 0 b).1 e)) (oE (nj (qk (acE 13 b)) e)) (oE (ov (acE 8 b) e)) (oE (oj (qk (acE 14 b)) e)) (nO ajD);rw[mX Au _ _ adn (m7 Ql) ?_];by_cases ain:1∈sm;rw[m1 (aUY=(1,a.ak)) (c0 ain),mY d,d,mW .iv ((aio 1).1 ain)];have aoO:1∉a':=oE (pQ ain (aio 1).2);have ao2:∀o∈xI,o∈a':=fun o aG=>(aio o).1 (n7 Kn aG);rw[m1 ((m7 io).z≤8) (by rw[m2 (r.ar3 (mU a.ak sm) (acW sm)),m5];simp only[Ld]at aa;unfold io;omega),mY kg];(have jR:∀ab,ab∈a'→mU a.ak sm ab=F→ab∈xI:=by intro ab b0 hs;unfold io;exact rW r.anf.2 ((m7 Fo).2 ((aio ab).2 b0)) hs);(have adX:adJ (xX (io a.ak a').au) (xX a'.au):=by constructor;rw[mY o aG,uv aG,mZ aG,s4,mW (ŀ (Ad j (pa ao2) e)),mY k hs,uv hs,mZ hs,s4,m3 Ac (pa aJ),mY k y cK,Be y,nt (AcL y cK sm h6 h7),oe,m9,mY J,ri BV,ng];rintro V g ei aDb afC aS;rw[m8];left;exact ŀ (Ad j (jR j J b) (Be y));right;rw[m1 (V=6∨V=7) (by(rw[nY ei ei,mY J,nV,ng];rintro b _;rw[m9,mY J,nV,ng];rintro b _;rw[m8])<;>(simp[b])),mY aDa,m2 (jR V ((aio V).1 aDb) (nM GP V aDa h6 h7)),mY ajL,m1 (pF V=pg V g 0 0) (by rw[mZ aDb aS aDa ajL,nY ei ei,mY J,nV,ng,oc e,tp (by rw[nV]),oc e,m8,mW Be (.i9 6 _ (vT h6 (.st))),mW Be (.i9 7 _ (vT h7 (.avW)))]),mY alm,mW Ne V g 0 0 _ e (aT5 (Ad V ajL alm)) afC aS]);by_cases aaw:∃o,xI=ua;rw[o8 aaw,mZ aaw,mY o aaw,m1 (aUY=(o,a.ak)) (pX cH ain (by rewrite[aaw];rfl)),mY d,d];rw[aaw]at adX ao2;rw[mW .gB o aoO (ao2 o (r.i7.2 e)) adX,m1 (aUY=(aUV (.un xI),sy a.ak (.un xI))) (pX cH ain (by generalize xI=i at aaw;rw[ï (by rfl) j (by rw[oT i (by exact eh (qS j) aaw) ab i (by rfl)])])),mY d,d,mW (n7 .jh aoO e (m7 D') (nM NT aF.eX (oE (ov (acE 8 ((aio 8).2 (ao2 8 b))) e))) ajD kg (m7 WA) ao2 adX)]
def UM(w:ch)(n t:o4):f1 w .eq (nE [qL aRQ,ps,ps,ps,ps]) (nE [ps,ps,ps,ps,ps])=c (n5 (n.mM&&t.mM)):=Ũ n (by(induction t using ap.ae with|B=>rfl|c x=>obtain⟨A_,Bw⟩:=x;rw[ć Bw N.ae])) x (by obtain⟨A_,Bw⟩:=x;induction t using ap.ae with|B=>rw[ć Bw N.ae]|c aj=>obtain⟨i0,aaq⟩:=aj;induction Bw using N.ae<;>induction aaq using N.ae<;>rfl)
def GS:∀(a:aH)(h v di:u)(f:a9)(a_:n9 a.ak v f)(ho:mR v)(n t:o4)(hs:f.iF=F→hn a v di n t),pG 3 46 [tJ,oF] (n5 (b1 (v=1)||b1 (v=10)||(f.iF&&(n.mM&&t.mM)))):=by injections a h v di f;intro a_ ho;injections n t;rw[mY hs,m1 (jT a.G oF (nE [nr,nG,.m 13,Ū])=c (b1 (v=1)||b1 (v=10))) (by rw[mX HB ho fun bf h2 h3 h8 amL amM aoN ak0=>?_,m1 (¬(nc v=0)) (m4 (ol (bf (R.asj.1 d)))),mY Aw,m1 (¬(nc v=13)) (m4 (ol (amM (R.asj.1 d)))),mY aG2,m1 ((nc v=1)=(v=1)) (apV R.asj),mY aV,m1 ((nc v=10)=(v=10)) (apV R.asj),mY afq];simp[jT,IF,IG,IH,II,IJ,IK,IL,IM,IN,Eq,Er,ja,dv,Aw,aG2,aV,afq,bf]),mY il];have ad0:=CS il;have gr:=sP v f a_;rw[xE jb Bo f];have cu:=O3 f;rw[pI hd (b1 (v=1)||b1 (v=10)) (by rw[hd]at ad0;exact nd Je [aSc]) (by rw[hd]at ad0;induction fG:f.iF using N.ae with|Y=>rw[fG]at cu;exact nd Je [aSc,re,sC,aQ4,sC,p cu]|F=>rw[fG]at cu;(have aV:oD (ny vX (.agV qw 1 6) [ve,pZ,c f.aY,c zN] a.G) (nE [qL aRQ,ps,ps,ps,ps]):=by rw[aRz vO];rfl);exact nd Je [aSc,re,sC,aQ4,sC,p cu,aZ (C4 a h v _ n t (hs fG)),č _ (hs fG).gs,aZ aV,p (UM a.G n t)])]
abbrev ac6(b:nL)(n:u):N:=match b[n]? with|c d=>b1 (0<d.cC)||(aT9||aiY b)|B=>Y
def OR{ao}{n}{H}(b:wR n H):(H==2047)=n.mM:=by cases b with|no=>rfl|abF o p i bq pt _=>rw[m2 (E' p _ pt.B_.BE),m5,m1 (adr p _≠2047) (by rw[p0,o6 d];revert aa;decide),mY dw];simpa using dw
def Acc:∀{a}(un:yS)(aF:∃M O,qG){d}(dT:vy)(h),pG 3 46 [tJ,.m d.v] (n5 (d.cC==2047&&d.c4==2047)):=by rw[ug,mY un aF];injections d;rw[mY dT,aR5,m3 BF aF,mZ aF];rintro M O aF;rw[m3 AC dT.A'];rintro y cK cQ;rw[m3 AF y.gs];rintro l Aw kA agS;cases dT with|cl v f g x Av fD=>have Aa:pF v=pg v f g x:=Be fD;clear fD;simp only[aR.v,Aa]at y cK cQ Aw agS⊢;clear Aa;have A2:=y.A2 e (by simp);clear y;generalize hs:bv.cl v f g x=k at A2;(cases A2 with|i9 df n=>rw[aTf];revert I;rw[aPl,qD];subst Z;subst x4;rw[m3 Ac n,mZ n];(rintro r' a5 n);rw[rl Aw,nf a5,mZ a5,mY a5,vL];have abY:=n.ge;(have fG:l.iF=Y:=by clear kA Aw agS cK cQ abY;cases n<;>rfl);rw[m2 (GS a h v 0 l Aw agS B B (oE (by rw[pr fG,aUa BD]))),m5];simp only[aa];simp[aR.cC,aR.c4,abY.1,nj abY,fG]|iv Q aV=>rw[mZ cK cQ,aTf];revert I;rw[aPl,qD];subst Z;subst x4;rw[y3 Aw,mZ kA,aRf aV aV aV aV,m2 (GS a h v 0 _ Aw agS B B (oE Å)),m5,tf];simp[aR.cC,aR.c4,Q]|lk Q aV=>rw[mZ cK cQ,aTf];revert I;rw[aPl,qD];subst Z;subst x4;rw[y3 Aw,mZ kA,aRf aV aV aV aV,m2 (GS a h v 0 _ Aw agS B B (oE Å)),m5,tf];simp[aR.cC,aR.c4,Q]|di n t mp cY aM aV fG Q kB cC c4 iD=>rw[mZ cK cQ,aTf];revert I;rw[aPl,qD];subst Z;subst x4;rw[y3 Aw,nf aV,mZ aV,mY aV];subst aV;rw[m3 Al (iD un)];rintro di hs;rw[m2 (GS a h v _ l Aw agS n t (nO hs)),m5];simp only[aa];simp[aR.cC,aR.c4,Q,kB,fG,OR cC,OR c4])|bY v n g bh i ec aV bj cV gp fD ky=>simp only[aR.v]at Aw agS⊢;rw[aV]at Aw;rw[mZ kA,aRf Aw Aw Aw Aw,m2 (GS a h v 0 _ aV agS B B (oE Å)),m5];simp only[aa];rw[m1 è (vD qU 1 bj),mY Q,m1 aSV (vD qU 10 bj),mY kB];simp[aR.cC,aR.c4,Q,kB,a9.iF]
def UI:∀{a:aH}{d:aR}(dT:vy),∃l,n9 a.ak d.v l∧l.adp=Y∧(b1 (agt d.v l=7)||b1 (agt d.v l=0))=(b1 (0<d.cC)||aT9):=by rw[aP0 d,mY dT,m3 AC dT.A'];rintro y cK cQ;rw[m3 AF y.gs];rintro l Aw kA agS;rw[m2 (y.CY l Aw).1,mY aiy];simp only[cK]at aiy;rw[mX AP l Aw aiy ?_];cases dT with|cl v f g x Av fD=>have Aa:pF v=pg v f g x:=Be fD;clear fD;simp only[aR.v,Aa]at y cK cQ Aw agS⊢;clear Aa;have A2:=y.A2 e (by simp);clear y;generalize hs:bv.cl v f g x=k at A2;(cases A2 with|i9 df n=>rw[aTf];revert I;rw[aPl,qD];subst Z;subst x4;rw[m3 Ac n,mZ n];(rintro r' a5 n);rw[rl Aw,nf a5,mZ a5,mY a5,vL,mZ kA aiy Aw agS cK cQ];cases n<;>rfl|iv Q aV=>rw[mZ cK cQ,aTf];revert I;rw[aPl,qD];subst Z;subst x4;rw[y3 Aw,mZ kA aiy Aw,nf aV,mZ aV,mY aV];subst aV;simp[aR.cC,aR.e8,agt,T,Nx,JT,Q]|lk Q aV=>rw[mZ cK cQ,aTf];revert I;rw[aPl,qD];subst Z;subst x4;rw[y3 Aw,mZ kA aiy Aw,nf aV,mZ aV,mY aV];subst aV;simp[aR.cC,aR.e8,agt,T,Nx,JT,Q]|di n t mp cY aM aV fG Q kB cC c4 iD=>rw[mZ cK cQ c4,aTf];revert I;rw[aPl,qD];subst Z;subst x4;rw[y3 Aw,nf aV,mZ aV,mY aV];subst aV;(have U:0<g:=by rw[m2 cC.Fd.1,m5,m1 (vd 0) (o7 aa),m5,mW (oa Ag [g] 0 S 0 S e (u.ahT aa))]);clear kA aiy Aw;induction l using a9.ae<;>simp[a9.iF]at fG<;>simp[aR.cC,aR.e8,agt,U])|bY v n g bh i ec aV bj cV gp fD ky=>rw[mZ y,mZ f akA a_2 a_4];simp only[aR.v]at Aw⊢;rw[aV]at Aw;rw[mZ kA aiy,nf Aw,mZ Aw,mY Aw];subst Aw;rw[m1 (i.dD=Y) (by rw[aRi i ky]),mY aC];simp[aR.cC,aR.e8,agt,aC]
def Gi(b:nL):Ś b.au=b.au (ol (ar.m d.v)):=rA cS
def RH:∀(a)(un:yS)(aF:∃M O,qG)(h)(b)(adv:ry b vy)(n:u)(d)(he:n9 b n d),pG 4 48 [tJ,aNN,ye] (n5 aQC):=by rw[ug,mY un aF];injections h b;intro adv;injections n d;rw[mY he,m3 AF (UI (adv d (r.lI he)))];rintro l br aiy b2;have alb:=JU a nB d.v l br aiy;(have fo:aVs aNN ye d.v:=by rw[Du,Gi,r.adg,he];rfl);have hc:=aRH pd (s8 46 0 p6) 4 qc [ve,c aNN,ĝ,w6 (agt d.v l),B] aNN B b (ol (ar.m d.v)) (ol (ar.aO (d.cC==2047&&d.c4==2047))) vO (sh Gi) e (by rw[tr,mW (qX [aZ (Acc un aF (pa adv) h)])]);have ik:=w3 GZ pd a.G a.G _ _ hc (m7 CO);rw[G7]at ik;rw[m1 (aQC=((b1 _||b1 _)||aiY b)) (by rw[b2];simp only[ac6,he,N.or_assoc]),mY aJ];have aS:aiY b=b.dS (ol (d.cC==2047&&d.c4==2047)):=e;rw[←aS]at ik;rw[aJ];generalize agt d.v l=ac at*;rw[nH h7 ac 7,mZ b2 hc ik aJ];subst h7;exact nd Jf [uo,aZ alb,.K];have aEp:=acw h7;rw[jq h7,nH bf ac 0,mZ b2 hc ik aJ h7];subst bf;rw[mW (nd Jf [uo,aZ alb,rN aEp,.K]),jq bf,mW (nd Jf [uo,aZ alb,rN aEp,sZ AH acw bf,aOr])]
structure afh(a:aH)(M:pu)(W:nL)(al:n1):Prop where
 dT:ry W vy
 Av:ry W (zx d)
 aaH:ry W (xf d.eu)
 eo:ry W (d.eo≤10)
 ajs:ry W (oG W (abg a M d.v j.v))
 An:ry W (sd d.v≤14∧v4 d.v≤400)
 eZ:ry W (oG d.e8 (j∈W∨j.v=1))
 c9:ud W.z
 cO:(W.au aR.v).fF
def abg.KG:∀{a}{M fA}{k v}(b:abg a M k v)(aG:aPk),abg a fA k v:=by rw[mY a M fA k v,mY b aG,mX At b fun f g a_ U b=>?_,mX Au f g a_ U ?_];rcases b with b|b|b;rw[mW Í,mW (aSz aQ.bT),mW (aOz aQ.bF (aG _ b))]
def aai.bx:∀{a z':aH}{al:n1}{d:aR}(b:zx d)(b7:yx)(aG:∀(o:u)(a0:lr),yT o→∃jx,zc z'.ds jx∧jx.cA=a0.cA),aai z' al d:=by rw[mY a z' al d,mY b b7 aG,mW (⟨fun o aV=>by obtain⟨Q,h2,a0,h3,h4⟩:=b.eY o aV;rw[m3 Ac (aG o a0 h3),mY jx h5 h6,mW AE Q (Ģ h2) (Ad jx h5 (h6.ah h4))],fun aV=>by rw[so b.afW aV,mY l Q h2,mX Ad l (Ģ Q) (fun aj hd=>?_),m3 At (h2 aj hd),mY aap a0 h3 h4 h5,m3 Ac (aG aap a0 h4),mY jx h6 h7,mW Au aap jx h3 h6 (h7.ah h5)]⟩)]
def afh.bx{a z'}{M fA}{W}{al}(b:aTK)(b7:yx)(aG:yU o a0 (yT o→∃jx,zc z'.ds jx∧jx.cA=a0.cA))(adX:aPk):afh z' fA W al:={dT:=tZ ((xz b.dT).bx b7),Av:=tZ ((b.Av d he).bx b7 aG),aaH:=b.aaH,eo:=b.eo,ajs:=fun d he j J=>((b.ajs d he j J).ak b7.ak).KG adX,An:=tZ (by rw[m2 (b.dT d he).A'.1,mY y,Be (y.bx b7),mW (xz b.An)]),eZ:=b.eZ,c9:=b.c9,cO:=b.cO}
def ZI{a}{M}{W}{al}(ew:aTK)(H)(bK:∀t∈H,∃j∈W,t=j.v)(Q:ã 1 "unknown"){d}(dT:vy):zF∨d.v=1→acp a M H d.v:=by(have ail:ry W (∀t∈H,abg a M d.v t):=by rw[mY d he t cG,m3 Ac (bK t cG),mZ cG,s4,mW ew.ajs d he j J]);induction dT with|cl v f g x Av y=>rw[nR,nH aS v 1];simp only[aR.v,aS];rw[mW .gB Q,Œ];(rw[oe]);rw[m9];(rw[oe]);rw[m8,oz y.gs l Aw P];have cu:=y.CY l Aw;refine .cl v l Aw (sh cu.1) ?_ aS (ail _ b);(induction ba:l.AG using N.ae with|Y=>rfl|F=>rw[ĥ (nj cu ba) q j d,yc]);exact eh b aS|bY v n g bh i ec aV bj cV gp y ky ahn aou aho aer afq ih=>rw[nR];(have il:aR.mk v 0 0 0 0 i∈W:=by rw[Œ,oe,m9,oe,m8,mW b,m1 (v=1) b,m5,mW BZ (Am qU 1 0 16 S S 1 e bj (Az aa))]);have aCU:oG i (acp a M H j.v):=fun j J=>ih j J (ew.eZ _ il j J);rw[mX .bY v n g aV cV (ail _ il) ?_,mZ cV gp y];rcases afq with e|⟨j,J,e⟩|⟨o,aG,cG⟩;rw[mW .gB Q,mW (pa aCU),mX .un g o aG (fun t am0=>?_),m3 Ac (cG t am0),mZ am0,s4,mW (pa aCU)]
def PM{a}(ao)(b:aRc)(aC:ao.z≤a.ak.z+1):hy a v' 1:=⟨e,e,e,e,e,e,e,e,e,e,e,by rw[m6 (a.c2≤_),mW D1 [a.c2] b5 vk e],by rw[m6 (ao.z≤_),mW Ag [ao.z,a.ak.z] S (sn ai 4 1) S nN e aC],b,fun aq p d a5=>⟨a5,d⟩⟩
def hy.ahF{a z'}{x}(b:aNT x):yU o a0 (yT o→∃jx,zc z'.ds jx∧jx.cA=a0.cA):=fun o a0 d=>⟨a0,by rw[b.ds]at⊢;exact d,e⟩
def W4:∀(a:aH)(ac)(pt:u)(y)(jm adD)(p:nL)(Q:oG p (∃g,oD (bc T bo ac 47 [tJ,.m pt,.m j.v] a.G) qz∧∃x,oD (bc T bo ac 94 [nQ,.m pt,.m j.v] a.G) (qP x)∧y j=(! g&&x))),∀fi,∃alM,fZ (aO4 yn (nA (ts (xL (.ir (.bp 47 (pH qw p6 sw))) (.eT pn "ask" (.s (.A 4) (nA sw)))) (nA aOS)))) 6 B (p.au (nF (ar.m j.v))) [px,c jm,c adD,ve,nn pt,c (aOc p.au),fi] a.G=c (if p.dS y then aOS else na,[px,c jm,c adD,ve,nn pt,c (aOc p.au),alM],a.G):=by injections a ac pt y jm adD p;intro Q;generalize hL:ar.bm aUM=am;clear hL;induction p with|C=>rw[mY fi,mW ⟨fi,q0 r.ajV BG⟩]|s j p ih=>intro fi;obtain⟨g,U,x,hc,aJ⟩:=aUK Q;rw[m3 Al (ih (aRo Q) (nn j.v))];rintro alM br;rw[pI arP (y j) (by rw[y0 (nn j.v)];rw[arP]at aJ;(obtain⟨e,e⟩:g=Y∧x=F:=by clear U hc;induction g using N.ae<;>induction x using N.ae<;>first|exact zl|rw[sQ aJ]);rw[r.gI,mW (qm HG _ (pK [aZ U,aZ hc])).ah (ű r.akD arP N.asB)]) (by rw[y0 alM];rw[arP]at aJ;rw[r.gI,mX (zr ?_).ah (br.ah (by rw[r.akD,arP,N.ags])),rs g (by exact pK [aZ U]) (by(obtain e:x=Y:=by rw[mZ hc,y6 x N.ae (by rw[sQ aJ])]);exact pK [aZ U,aZ hc])])]
def a9.Wh(l:a9):(l.o==nc 10)=l.AG:=zQ
def iK.AG{a}{d}(dT:vy){l}(b:n9 a.ak d.v l):l.AG=aT9:=by cases dT with|cl v f g x Av y=>(induction ba:l.AG using N.ae with|Y=>rfl|F=>rw[ĥ (nj (y.CY l b) ba) q j d,yc])|bY v n g bh i ec aV bj cV gp fD ky=>rw[mZ f akA a_2 a_4,mZ bj cV gp fD,m2 (pQ ap.c.dB aV.cq.ah),m5,om,uM,aRi i ky]
def Tc:∀{a}{M}{W}{al}(aF:Ĳ)(ew:aTK)(ac)(b2:td 6)(d)(kU:zF)(p)(ho:aNQ p)(Q:1∈p.au aR.v),oD (bc T bo ac 94 [nQ,aOm,nG] a.G) (n5 aRe):=by rw[mY a M W al,mY aF ew,mY ac,mY b2,p0,mY kU,mY p,mY ho Q];have dT:=ew.dT d kU;rw[pv AC dT.A' agZ aJl aIv,mX AF agZ.gs fun alN arM aHs aKD=>?_];have gd:=Ŀ 1;rw[m1 (pF 1=acZ) (Be (.iv gd)),mY aI8,m1 (iY d p=F) (nb (Do (fun j J=>Ş ew.dT ho) dT) (Ir acZ _ (by rw[nD (r.fq.1 Q) j J d,mW (ŀ (Ad j J (nb d aI8)))]) _ (GT agZ))),mY amR];have agG:=FY aF (ac-6) d.v 1 _ _ agZ (.iv gd) e (Au alN _ arM gd (by rw[nH b d.v 1,mW Í,mW (aOz aQ.bT qg)]));rw[aU0 (ac-6+6) ac,nv Cg e,GT agZ]at agG;rw[amR,mW agG]
def Tb:∀{a z'}{M}{W}{al}(b7:yx)(aF:dI z' M [])(aoP:afh z' M W al)(ew:aTK)(ac)(b2:td 6)(d)(kU:zF)(p)(ho:aNQ p)(j)(J:j∈p)(aG:adJ [aUI] (aRB p.au)),qf (bc T bo ac 94 [nQ,aOm,.m j.v] z'.G) (n5 aRe):=by rw[mY a z' M W al,mY b7 aF aoP ew,mY ac,mY b2,p0,mY kU,mY p,mY ho,mY j,mY J aG,rf (ew.dT d kU).A' agZ P P,rf (Ş ew.dT ho).A' lQ aeH P,m2 (FY aF (ac-6) _ _ _ _ (agZ.bx b7) (lQ.bx b7) aeH (aoP.ajs d kU j (pa ho))),mY agG];rw[aU0 (ac-6+6) ac,nv Cg aeH]at agG;rw[m1 (aRe=hb (pF d.v) aUI) (by rw[Do (fun j J=>Ş ew.dT ho) (ew.dT d kU),show(p.au (nF aUI))=aRB p.au by rw[r.aeN];rfl,←aG.B3,Acp _ aeH]),mY amR,amR,mW agG]
def AcA{a z'}(b7:yx)(aP)(ks)(br:nX z'.ak aP aSp)(iy:xe aP)(dw:qe ks)(aC:ks.z≤8)(aJ:∀v∈ks,∃k,uu v∧aUs):c1 z' aP (.un (xX ks.au)):=by rw[m3 (.un aP _ _ br iy dw aC (wv r.hN _)) ?_,mY aq f k aV bj];simp only[r.adg,aV]at bj;rw[pD (ap.c.dB bj),m3 Ac (aJ f (r.lI aV)),mY k vs _,Be vs,mW aUG,mY k hs,uv hs,mZ hs];rintro f a_ e;rw[m3 Ac (aJ f a_),mY k vs aJn,Be vs,mW aJn]
def iK.vs{a}{W:nL}(ew:ry W vy){p:nL}(ho:aNQ p):∀v∈p.au aR.v,∃k,uu v∧aUs:=by rw[mY v aS,uv aS,mZ aS,s4,rf (Ş ew ho).A' lQ aeH P,mW (ql lQ aeH)]
def Ta:∀{a z'}{M}{W}{al}(B6:aNT 1)(aF:dI z' M [])(ew:aTK)(hd:z'.e5=0)(js:z'.c2+500<20000)(kX:z'.ak.z+1600<900000)(ac)(b2:td 160)(d)(kU:zF)(p)(ho:aNQ p)(aP:u)(ks)(iC:nX z'.ak aP aSp)(iy:xe aP)(dw:qe ks)(kg:ks.z≤8)(Q:1∉ks)(jR:∀o∈ks,o∈p.au aR.v)(aG:adJ (xX ks.au) (aRB p.au)),∃bz acm,bc T bo ac 94 [nQ,aOm,Æ] z'.G=c (n5 aRe,bz.G)∧dI bz acm []∧hy z' bz 400∧(∀o,(hA o M).eF=F→(hA o acm).eF=F):=by rw[mY a z' M W al,mY B6 aF ew hd js kX,mY ac,mY b2,p0,mY kU,mY p,mY ho,mY aP ks,mY iC iy dw kg Q jR aG,m2 (fun v aS=>iK.vs ew.dT ho v (jR v aS)),mY aJ,m2 (AcA B6.le aP _ iC iy dw kg aJ),mY dj];have dT:=ew.dT d kU;have avk:=ZI (ew.bx B6.le B6.ahF í) ks (fun t cG=>by rw[m3 Ac (aTW (jR t cG)),mZ cG,s4,mW Ad j (pa ho) e]) (Ŀ 1) (dT.bx B6.le) (aQ.bT kU);rw[m2 (dT.A'.1.bx B6.le),mY agZ,m1 (aRe=el _ (qr _)) (by rw[Do (fun j J=>Ş ew.dT ho) dT,show(p.au (nF (pF _)))=aRB p.au by rw[r.aeN];rfl,←aG.B3];rfl),mY amR,ou (ew.An d kU) g_ kE,amR,mZ amR aJ aG jR ew dT kU B6 ho iy dw kg];generalize pF d.v=k at*;refine BV (RG z' (ac-(8*k.An+40)) d.v aP ks (xX ks.au) M aF _ agZ dj iC Q avk (m4 (oa A5 [z'.c2,↑k.dh] zB 20000 (b5+500) 20000 d4 400 e js (Bb kE))) (m4 (oa Am [z'.ak.z,k.dh] (ro S 4) 900000 (S+1600) 900000 (xq 4) (qQ 4 400) e kX (AM 4 kE))) (by rw[hd];simp only[bv.ha,Ex,Ey,Ez];exact A4 [↑k.An] (0+(iW.H 2 b5+1)+1) 60 (iW.H 2 b5) (iW.H 2 14) e (Vh 2 (Bb g_))) (m4 (aUL kE))) fun bz acm h2 h3 h4 h5=>?_;rw[rh (ac-(8*k.An+40)+8*k.An+40) ac (O_ (u.eG (u.adL (u.aiL 8 g_) 40) (u.eG nw b2)))]at h2;exact(nM Bx h2 h3 (h4.bx kE) h5)
def S':∀{a:aH}{M:pu}{W:nL}{al:n1}{ao:oB}(B6:hy a v' 1)(aF:dI v' M [])(ew:aTK)(hd:a.e5=0)(js:aQK 500)(kX:aSW 2000)(eE:ao.z≤a.ak.z+1)(ac:u)(b2:td 160)(d:aR)(kU:zF)(p:nL)(ho:aNQ p)(aP:u)(fw:anZ a (p.au aR.v) aP ao),∃bz acm,bc T bo ac 94 [nQ,aOm,Æ] î=c (n5 aRe,bz.G)∧dI bz acm []∧hy v' bz 401∧(∀o,(hA o M).eF=F→(hA o acm).eF=F):=by injections a M W al ao;intro B6 aF ew hd js kX eE;injections ac;intro b2;injections d;intro kU;injections p;intro ho;injections aP;intro fw;have aoP:=ew.bx B6.le B6.ahF í;cases fw with|iv Q=>exact(Bx _ M (Tc aF aoP ac (m4 (Ag [ac] 6 S 160 S e b2)) d kU p ho Q) aF (m7 hy.fI) í)|gB o Q h2 h3=>rw[uv h2,mZ h2];(rw[s4]);exact(Bx _ M (Tb B6.le aF aoP ew ac (m4 (Ag [ac] 6 S 160 S e b2)) d kU p ho j J h3) aF (m7 hy.fI) í)|jh _ _ ks Q _ iC iy dw kg _ jR aG=>rw[mX BV (Ta B6 aF ew hd js (u.hO (u.adL eE _) (m4 (oa Ag [a.ak.z] (nm+1600) 900000 (S+2000) 900000 e kX))) ac b2 d kU p ho aP ks iC iy dw kg (oE (Q (jR 1 b))) jR aG) fun bz acm f g x aj=>?_,mW (nM Bx f g (rJ x.bx) aj)]
def W5:∀(a:aH)(M:pu)(al:n1)(aD:nL)(W:nL)(fw:vB)(hL:aU9)(aF:Ĳ)(ew:aTK)(hd:a.e5=0)(js:aQK 500)(kX:aSW 2000)(ac:u)(b2:td 160)(b:nL)(fk:ry b zF)(aC:ud b.z)(n:u)(d:aR)(he:n9 b n d),∃z' fA,qf (aQd (ac+1) 49 [nQ,aNN,ye]) (n5 û)∧dI z' fA []∧aNT 402∧aPk:=by injections a M al aD W;intro fw hL aF ew hd js kX;injections ac;intro b2;injections b;intro fk aC;injections n d;intro he;have kU:=fk d (r.lI he);have dT:=ew.dT d kU;rw[pv AC dT.A' agZ aJl aIv,mX AF agZ.gs fun alN arM aHs aKD=>?_,u8 ba he];(have fo:aVs aNN ye d.v:=by rw[Du,Gi,r.adg,he];rfl);generalize ho:aVQ=p;(have arI:oG p (j∈b):=by rw[tr];rw[←ho]at J;rw[nt (r.aeP.1 J),x',m9,x',m8,mW r.aDQ J,mW r.aDP J]);rw[m1 (ud p.z) (by rw[←ho];rw[r.gR,r.aiG,r.apu,mW Bu [b.z,n,ab8 n b.z,b.z-rU] (a8+eK) 6 S 6 a8 ai (eK+nN) S e aC (m7 u.alB) (q3 Az (Ag [b.z,n,ab8 n b.z,b.z-rU] (ai+1) S nN S e ba))]),mY ao8];(have aCS:rG n:=m4 (ç (Am [b.z,n] (ai+1) 1000 S) 6 aC ba));let aEq:du:=[px,c aNN,ĝ,ve,nn d.v,B,B];have t1:=pj (nI (nI K' O T cf yn) f 1 g 2) l aEq w a.G b (Ś b.au) e e aCS;have d2:=pj (nI (nI K_ O T cf yn) f 1 g 2) l aEq w a.G b (Ś b.au) e e aCS;have iQ:=atl a.G (Ś b.au) n (qC (by simp only[cS,r.hN]));(have aI9:(Ś b.au).gu n++(Ś b.au).cF rU=aUM:=by rw[←ho];simp only[cS,r.ahL,r.apz,r.ar7]);rw[aI9]at iQ;rw[m1 (û=(p.dS (nF (yH&&Ŗ))||(aT9&&(b1 (1<p.z)&&aRe)))) (by rw[aaY,he,ho]),mY aJ,m1 (p.dS (nF (yH&&Ŗ))=p.dS (nF (Ŗ&&yH))) (by rw[show(nF (yH&&Ŗ))=(nF (Ŗ&&yH))from funext (nF (m7 N.and_comm))]),mY ik,m1 (oG p (oD (bc T bo ac 94 [nQ,aOm,.m j.v] a.G) (n5 yH))) (by rw[tr];have arQ:=Ş fk arI;have mS:=ew.dT j arQ;rw[pv AC mS.A' lQ aeH P,m2 (nM (FY aF (ac-6) d.v j.v) agZ lQ aeH (ew.ajs d kU j arQ)),m5];rw[rh (ac-6+6) ac (Br [ac,ac-6] (ai+6) S (ai+6) S e (s7 (Ag [ac,ac-6] 6 S 160 S e b2))),nv Cg aeH,←E6 mS dT]at aa;exact aa),mY agA,n4 (W4 a ac d.v (nF (Ŗ&&yH)) aNN ye p (by rw[tr,m2 (Ş fk arI),mY arQ,m2 (MJ a aF.aS al aD fw hL (ac-3) d j (ew.Av d kU) (ew.Av j arQ)),mY aoV];rw[rh (ac-3+3) ac (Br [ac,ac-3] (ai+3) S (ai+3) S e (s7 (Ag [ac,ac-3] 3 S 160 S e b2)))]at aoV;exact(vT aoV (ql (pa agA) e))) B) alM kD];rw[←Gi]at kD;rw[aJ,ik,pI a_ (p.dS (nF (Ŗ&&yH))) (by rw[a_]at kD;exact(Bx a M (nd Hd [j4.p fo,aZ t1,aZ d2,j4.p iQ,os kD]) aF aVA í)) (by rw[a_]at kD;rw[N.ags];have avC:=sP _ alN arM;(have d9:(aUM).z=p.z:=rA cS);have ajI:=dT.AG arM;rw[←alN.Wh]at ajI;rw[pI amZ d.e8.dD (by rw[amZ]at ajI;exact(Bx a M (nd Hd [j4.p fo,aZ t1,aZ d2,j4.p iQ,os kD,j4.p avC,j4.p (Bo a.G alN),j4.p (AH ajI)]) aF aVA í)) (by simp only[amZ]at ajI;by_cases amY:1<p.z;(have t:xo<nc (aUM).z:=m4 (R.aa7.2 (u.k0 amY (u.fp d9.cq))));rw[m1 (qe (p.au aR.v)) (by rw[p0];rw[r.map_eq_nil_iff]at d;rw[d]at amY;simp at amY),mY ao9,s3 (Lp a M [] aF (ac-3) (p.au aR.v) ao9 (qC (by simp)) (iK.vs ew.dT fun j J=>Ş fk arI) (m4 (oa Ag [a.ak.z] S 900000 (S+2000) 900000 e kX))) aP ao cK eE ajz];rw[rh (ac-3+3) ac (Br [ac,ac-3] (ai+3) S (ai+3) S e (s7 (Ag [ac,ac-3] 3 S 160 S e b2)))]at cK;rw[rf (aF.Ah ao eE) ke add lE];have aiZ:=PM ao add lE;rw[mX BV (S' aiZ ke ew hd js kX lE ac b2 d kU p (fun j J=>Ş fk arI) aP ajz) fun bz acm Q h2 h3 h4=>?_,mX Bx bz acm ?_ h2 (rJ (aiZ.ah h3).bx) h4,hZ amY,mW (nd Hd [j4.p fo,aZ t1,aZ d2,j4.p iQ,os kD,j4.p avC,j4.p (Bo a.G alN),j4.p (AH ajI),j4.p (Kw a.G aUM),j4.p (B' (hZ t)),aZ cK,aZ Q])];(replace t:¬(xo<nc (aUM).z):=m4 (fun dO=>B4 (E0 [↑p.z,↑(cS (r.au aR.v p)).z] 1 0 d4 b5 b5 1 (1+1) d4 e (Bb (Az d9)) (Bb (x7 amY)) dO)));rw[jq amY,N.aeu,N.an3,mW Bx a M (nd Hd [j4.p fo,aZ t1,aZ d2,j4.p iQ,os kD,j4.p avC,j4.p (Bo a.G alN),j4.p (AH ajI),j4.p (Kw a.G aUM),j4.p (B' (jq t))]) aF aVA í])])]
def H5(a)(al)(aD)(g):ô (rD a.e' g):=⟨aQ0,fun aj a0 b=>(Ad (aaC al aD g aj a0) (by simp only[aH.e',r.agw,b,ap.ji]) e),aQ0⟩
def Oz(a:aH)(al)(aD)(g):yU o a0 (yT o→∃jx,zc (rD a.e' g).ds jx∧jx.cA=a0.cA):=fun aj a0 b=>(Ad (aaC al aD g aj a0) (by simp only[aH.e',r.agw,b,ap.ji]) e)
def OA{a}{al}{aD}(hL:aQQ):ajf z7 al aD:={ds:=fun o a0 b=>by rw[sB aH.e' r.agw];induction hd:a.ds[o]? using ap.ae with|B=>rw[pr hd,aPN]|c aqp=>rw[xh hd,sB ap.ji ap.c.fV,pq];rfl,cl:=hL.cl,c9:=hL.c9,adS:=aSd aH.e' r.avF hL.adS}
def OB(a)(al)(aD)(iD:yS):(a.ds.ad8 (rD aaC F)).ad8 (rD aaC Y)=a.ds:=by rw[aPY,mY q,r.agw,r.agw];induction hd:rS a.ds using ap.ae with|B=>rfl|c a0=>rw[m2 (iD q a0 hd),m5];dsimp only[ap.ji,ap.c.fV,aaC];clear hd;induction a0 using lr.ae;simp_all
def dI.e'{a}{M}{O}(aF:qG)(al)(aD)(g):dI (rD a.e' g) M O:=have b7:=w8 H5 g;{kh:=aF.kh,eX:=aF.eX,cO:=aF.cO,aS:=aF.aS,eM:=aF.eM,ey:=aF.ey,jX:=aF.jX,fO:=aF.fO,ks:=fun f bZ y d=>by rw[s3 (aF.ks f bZ y d) sa bh gd fJ cV,mW Au _ _ aSx aSy cV],jW:=aF.jW}
abbrev agW(al:n1)(n:u)(b:nL):nL:=if aQC&&û then aVQ else b
abbrev ad7(al:n1):u→nL→nL|0,b=>b|rU,b=>ad7 al n (agW al n b)
def WV(al):∀b,aO1 0=b:=rp
def WW(al):∀n b,ad7 al rU b=(ad7 al n (agW al n b)):=pS
structure af5(a:aH)(M:pu)(al:n1)(aD W:nL)(g:u):Prop where
 up:vB
 e':aQQ
 un:yS
 aF:Ĳ
 hx:aTK
 e5:a.e5=0
 cc:aQK g
 rw:a.ak.z+(g+g+g+g)<890000
def abL.B6{a z'}{al}{aD}{x:u}(b:aQQ)(b7:yx)(cK:z'.fQ=a.fQ)(hc:z'.lZ=a.lZ)(hd:z'.ds=a.ds):abL z' al aD:={fQ:=cK.ah b.fQ,eY:=hc.ah b.eY,cl:=fun o d he=>m7 b7.ak (b.cl o d he),c9:=b.c9,adS:=nb hd b.adS,afW:=nb hd b.afW}
abbrev alx(aD:ar)(b:nL)(fe fi kL eA et:pl):du:=[px,c aD,aUh,tx 25,xb,fe,fi,kL,eA,et,B]
abbrev aDB:cx:=oo atF (.s _ (Ğ (nv .mn g))) g .C
def UT{W:aR2}(b:∀K,166≤K→W (K+4)):∀ac,td 170→W ac:=fun ac b2=>(s7 (show td 4 by exact Ag [ac] 4 S 170 S e b2))▸b (ac-4) (m4 (Am [ac,ac-4] 166 ai 170 S S (ai+4) e b2 (q3 AN (Ag [ac,ac-4] 4 S 170 S e b2))))
def W1:∀(a:aH)(M:pu)(al:n1)(aD W:nL)(g:u)(hW:aVp af5 W (ŉ 402))(ac:u)(b2:td 170)(bl:ar)(b:nL)(fk:ry b zF)(aC:ud b.z)(n:u)(ba:n<b.z)(fe fi kL eA et:pl),∃z' fA adE ag1 ai3 ae7,f0 T yn aDB (alx bl b ĝ fi kL eA et) a.G=c (na,alx bl (agW al n b) (nn n) adE ag1 ai3 ae7,z'.G)∧af5 z' fA al aD W Ł∧aNT 402:=by injections a M al aD W g;rw[mY hW,tD UT];injections K;intro b2;injections bl b;intro fk aC;injections n;intro ba;injections fe fi kL eA et;have he:n9 b n b[n]:=r.hV ba;have kU:=fk _ (r.aij ba);have iD:=hW.un;have aF:=hW.aF;rw[m2 (RH a iD (BN M ([]) aF) K b (tZ (hW.hx.dT d (xz fk))) n _ he),mY agA];have ais:=w8 H3 hW.up hW.e' (K+3) F;have js:=hW.cc;have kX:=hW.rw;rw[m1 ((z7).c2+500<20000) (yh (aQK 500) (Yg js)),mY aoT,m1 ((z7).ak.z+2000<900000) (yh (aSW 2000) (Yh kX)),mY agB,mX BV (W5 z7 M al aD W hW.up (OA hW.e') (rD aF.e' F) (hW.hx.bx (w8 H5 F) (w8 Oz F) í) hW.e5 aoT agB (K+3) (m4 (Ag [K] 160 wP 166 S e b2)) b fk aC n _ he) fun bz acm ait gi mA aHL=>?_];have auO:bz.ds=a.ds.ad8 (rD aaC F):=mA.ds;rw[m1 (fR a bz) ((w8 H5 F).ah mA.le),mY aID];have aHO:abL bz al aD:={fQ:=mA.fQ.ah hW.e'.fQ,eY:=mA.lZ.ah hW.e'.eY,cl:=fun o d he=>m7 aID.ak (hW.e'.cl o d he),c9:=hW.e'.c9,adS:=tL auO r.avF hW.e'.adS,afW:=fun o a0 aG U=>by rw[auO,r.agw]at aG;induction hd:a.ds[o]? using ap.ae with|B=>rw[hd]at aG;injection aG|c aqp=>rw[hd]at aG;rw[p2 aG,pi];simp only[aaC,fU,U]};have ahy:=H3 bz al aD hW.up aHO (K+3) Y;(have arx:(aRU).ds=a.ds:=by rw[m6 (bz.ds.ad8 (rD aaC Y)=a.ds),auO,mW (w8 OB iD)]);have aa3:hy a aRU 402:={bs:=mA.bs,xs:=mA.xs,ds:=arx,dK:=mA.dK,iL:=mA.iL,bw:=mA.bw,gU:=mA.gU,e5:=mA.e5,abj:=mA.abj,fQ:=mA.fQ,lZ:=mA.lZ,cc:=mA.cc,gT:=mA.gT,ak:=mA.ak,ca:=mA.ca};rw[m1 ((aRU).c2+ob Ł<20000) (q8 aa3.cc (oa A5 [a.c2,↑g,(rD bz.e' _).c2] (gY+(d4+200)) 20000 (b5+(402+d4+200)) 20000 gY (b5+402) e js aa)),mY auE,m1 ((aRU).ak.z+(Ł+(g+200)+(g+200)+(g+200))<890000) (by rw[m2 aa3.gT,mY h4];generalize(aRU).ak.z=g1 at h4⊢;generalize a.ak.z=gW at h4 kX;exact Yj h4 kX),mY auF];have aCg:af5 aRU acm al aD W Ł:={up:=hW.up,e':=hW.e'.B6 (x:=0) aa3.le aa3.fQ aa3.lZ aa3.ds,un:=fun aj a0 b=>by rw[pr arx,mW iD aj a0 b],aF:=rD gi.e' Y,hx:=hW.hx.bx aa3.le aa3.ahF aHL,e5:=aa3.e5.ah hW.e5,cc:=auE,rw:=auF};rw[m2 (Ox _ al hW.up aCg.e'.fQ (K+3) (m4 (Ag [K] 22 wP 166 S e b2)) b n _ he (m4 (aUL aC)) (q8 (hW.hx.eo _ kU) (tA u.eG aa)) (hW.hx.aaH _ kU)),mY adj,m2 (Oy aRU (K+3) b),mY aln];(have fo:pE aSg (eS b) ye=c (aN6 aY):=by unfold eS;rw[Du,r.adg,he];rfl);have jr:=Ch T (aA (K+4)) (rq 10) 10 ph (alx bl b ĝ fi kL eA et) a.G a.G (eS b) B b aR.aY (ol (ar.m d.v)) vO e e (fun j J=>qX [p (F1 a.G j)]);rw[←Gi]at jr;rw[mX Uk _ _ (c aNN) (Ĕ aQC) (Ĕ û) (c (aN6 aY)) ?_ aCg aa3];have aV:=F2 aSg b[n];have cV:=EQ aSg b[n];(have abs:aQC=(b1 (0<aN6 cC)||(! aN6 e8.dD||aiY b)):=by simp only[ac6,he]);rw[m1 (ny (aA (K+4)) (.ady (.A 2) y') (alx bl b ĝ (c aNN) (Ĕ aQC) (Ĕ û) (c (aN6 aY))) aSg=_) (K' e e (m4 (ç (Am [b.z,n] (ai+1) 1000 S) 6 aC ba))),mY st,m1 (ny (aA (K+4)) (.ahW (.A 2) (.dM _ y' _)) (alx bl b ĝ (c aNN) (Ĕ aQC) (Ĕ û) (c (aN6 aY))) aSg=_) (K_ e e (m4 (ç (Am [b.z,n] (ai+1) 1000 S) 6 aC ba))),mY jw];have ad:=atl aSg (b.au aR.aY) n (nb r.hN (aUL aC));rw[←r.apz,←r.ar7,←r.ahL]at ad;rw[←r.apz]at st;rw[←r.ar7]at jw;rw[m1 (agW al n b=if aQC&&û then b.gu n++b.cF _ else b) e,mY cW];revert agA ait adj st jw;rw[cW,mZ cW];generalize aQC=f at*;generalize û=x at*;intro agA ait adj st jw;have g1:=R2 x aSg;by_cases bK:0<aN6 cC;clear g1;(have t:b1 (tM<nc (aN6 cC))=F:=o7 bK);rw[hZ bK]at abs;subst abs;rw[wD x,mW (pK [aOq,aUn,aUo,aUp,aUq,uo,aOs,.K,r0,.K,qa B' t,.K]),mW (pK [aOq,aUn,aUo,aUp,aUq,uo,aOs,.K,r0,.K,qa B' t,.K,aZ st,aZ jw,p ad])];(have t:b1 (tM<nc (aN6 cC))=Y:=o7 bK);rw[jq bK]at abs;rw[m2 (FP aSg (abH.fI (aN6 e8.dD))),mY gW];revert gW abs;generalize aN6 e8.dD=aj;rw[mY abs gW,wD aj,mZ g1];subst abs;rw[wD x,mW (pK [aOq,aUn,aUo,aUp,aUq,uo,aOs,.K,r0,.K,qa B' t,uP,p gW,.K]),mW (pK [aOq,aUn,aUo,aUp,aUq,uo,aOs,.K,r0,.K,qa B' t,uP,p gW,.K,aZ st,aZ jw,p ad])];subst abs;generalize aiY b=v at*;rw[wD v,mW (pK [aOq,aUn,aUo,aUp,aUq,uo,aOs,p g1,r0,.K,qa B' t,uP,p gW,aZ aln,.K]),mZ g1,wD x,mW (pK [aOq,aUn,aUo,aUp,aUq,uo,aOs,.K,r0,.K,qa B' t,uP,p gW,aZ aln,.K]),mW (pK [aOq,aUn,aUo,aUp,aUq,uo,aOs,.K,r0,.K,qa B' t,uP,p gW,aZ aln,.K,aZ st,aZ jw,p ad])]
def AbW(al)(n)(b):(ry (agW al n b) (d∈b))∧(n≤b.z→n≤(agW al n b).z)∧(agW al n b).z≤b.z:=by unfold agW;split;rw[mX AE ?_ ?_ ?_,mY d he,nt (r.aeP.1 he)];rintro he;rw[m9];rintro he;rw[m8,mW r.aDQ he,mW r.aDP he,mY ba,r.gR,r.aiG,u.ani ba];exact u.acK ..;rw[mW Lj b n,mW (aQp (AE í (oE b)))]
def WY:∀(al)(aD W)(ac)(b2:td 170)(bl),∀(H)(a)(M)(g)(b)(fe fi kL eA et),aVp af5 W (ŉ (402*H))→(ry b zF)→ud b.z→H≤b.z→∃z' fA akl adE ag1 ai3 ae7,fZ (ñ yn aDB) 5 B (k5 aOK (-1) H) (alx bl b fe fi kL eA et) a.G=c (na,alx bl (aO1 H) akl adE ag1 ai3 ae7,z'.G)∧af5 z' fA al aD W Ł∧hy a z' (402*H):=by rw[mY al aD W ac,mY b2,mY bl,mY H];induction H with|hf=>rw[mY a M g b fe fi kL eA et hW fk aC bK,mW (n7 (Nh a M _ _) ę (o7 hW) aVA)]|gk H ih=>rw[mY a M g b fe fi kL eA et hW fk aC bK,mX UB (aVp W1 W (402*H+g) (nb (rh (402+(402*H+g)+200) (ŉ (402*(H+1))) (BI [H,g] (402+(tC S+ai)+200) (zH+ai+200) e)) hW) ac b2 bl b fk aC H n_ (nn H) fi kL eA et) fun z1 afe adE ag1 ai3 ae7 Q h2 h3=>?_,rf (AbW al H b) s1 BS Cd,mX Nv (ih z1 afe g (agW al H b) (nn H) adE ag1 ai3 ae7 h2 (tZ (fk d (xz s1))) n_ (rJ BS)) fun bz acm x5 cp cZ d' ez h4 h5 h6=>?_,mX (nM Nh x5 cp cZ d' ez ?_ h5 ((h3.ah h6).bx (m4 (AJ [H] (Ð 402) zH e)))),m1 (k5 (ob (H+1)-1) (-1) (H+1)=.m H::k5 aOK (-1) H) (by simp only[GH,GI];rw[aU0 (ob (H+1)-1) (nc H)];rfl),mY aHf,aHf,mW (zr Q).ah h4]
def Aah(H:u)(b:rG H):acc [pf aOK,us,us]=c (k5 aOK (-1) H):=by rw[m1 (g2 aOK=F) (by unfold g2;simp only[N.c3,kR];exact YC b),mY hs,m1 (g2 (-1)=F) (by unfold g2;simp only[N.c3,kR];decide),mY alk,m1 (acc [xk,us,xk]=nK (g2 aOK&&(g2 _&&aP7==-1)) nJ) e,p0,d,hs,alk];rw[show(aOK-(-1)).es=H by exact YF H];rfl
def W0:∀(a)(M)(al)(aD W)(g)(hW:aVp af5 W (ŉ 2412))(ac)(b2:td 170)(adD akj)(b)(fk:ry b zF)(aC:ud b.z),∃z' fA,qf (aQd (ac+1) 84 [nQ,nE [wp,xV,adD,akj],eS b]) (eS (aO1 b.z))∧af5 z' fA al aD W Ł∧aNT 2412:=by injections a M al aD W g;intro hW;injections ac;intro b2;injections adD akj b;rw[mY fk aC,m2 hW.cc,mY au9,m2 hW.rw,mY aM4];(have cG:aVc+(g+(2412-aVc))+200=ŉ 2412:=m4 (XX aC));rw[m1 (aVp af5 W (aVc+(g+(2412-aVc))+200)) (nb cG hW),mY aHT,m3 Nv (WY al aD W ac b2 (nE [wp,xV,adD,akj]) b.z a M (g+(2412-aVc)) b B B B B B aHT fk aC yk)];rintro z' fA x5 cp cZ d' ez Q h2 h3;rw[m2 h2.cc,mY aIT,m2 h2.rw,mY ava,m1 (z'.c2+ob Ł<20000) (m4 (Yf aIT)),mY aIU,m1 (z'.ak.z+(Ł+(g+200)+(g+200)+(g+200))<890000) (by rw[m1 (Ł≤g+(2412-aVc)+200) (u.adL (m7 u.acK) _),mY J];generalize g+(2412-aVc)+200=j at J ava;generalize z'.ak.z=g1 at ava⊢;exact t5 [g,j,g1] (a8+(S+200+(S+200)+(S+200)+(S+200))) 890000 (tz 4 (S+200)) (xq 4) (a8+(ai+ai+ai+ai)+1) 890000 e (AM 4 J) ava),mY aIV,mX Au z' fA ?_ ({h2 with cc:=aIU,rw:=aIV}) (h3.bx (m4 (Ag [b.z] (su 402) 2412 (su 402) (qQ 402 6) e (AM 402 aC))))];have arC:rm (ui acN (eS b)) b.z:=CW (i:=b.au aR.aY) e (by rw[r.hN]);exact nd SC [.K,.K,p arC,p (Io [] b.z),os (K6 (Aah b.z (m4 (aUL aC))) Q)]
abbrev jv(b:nL)(n:u):nL:=aVQ
def CZ(b)(n q):rS ë=if q<n then rS b else b[q+1]?:=by unfold jv;rw[←r.aud,mW r.getElem?_eraseIdx]
def Fh(b)(n)(j):j∈ë↔∃q,sU n∧op b j:=by rw[r.ajW];constructor;rw[mY J,ri Al,ng];rintro q Ab;rw[CZ]at Ab;rw[y5 Q n];rw[c0 Q]at Ab;exact(Ad q (m4 (u.ahM Q)) Ab);rw[cH Q]at Ab;rw[mW Ad (q+1) (m4 (yP (ç (Am [n,q] 1 0 S) ai (x7 Q) (Az dO)))) Ab,mY J,sE,ng];rintro q Q Ab;rw[y5 h2 n,mW ⟨q,tL CZ (c0 h2) Ab⟩,y0 (q-1),CZ,cH (m4 (XR Q h2)),rh (q-1+1) q (XS Q h2),mW Ab]
def Zx(b)(n)(ba:n<b.z):qo jv b n+1=b.z:=by unfold jv;rw[←r.aud,r.length_eraseIdx_of_lt ba,s7 (u.eG (u.awC _) ba)]
def J3(al:n1)(b:nL)(n:u)(d:aR)(he:n9 b n d):û=((ë).dS (nF (yH&&Ŗ))||(aT9&&(b1 (1<qo jv b n)&&iY d ë))):=by simp only[aaY,he,jv];rfl
def Zw(b)(n):qo jv b n≤b.z:=Lj b n
def Jq(d)(p)(b:p.dS (iE d)=F):iY d p=F:=by rw[yd d];simp only[FS,b,N.asB]
def U4(al)(b)(n)(d)(he:n9 b n d)(hg:û=F):iY d ë=F:=by rw[J3 al b n d he]at hg;rw[nt (N.anq.1 hg)];rintro hg;rw[m9];rintro hg;rw[m8];apply Jq;rw[r.gZ]at hg⊢;rw[oz hg j J h2,mW Ad j J ((aT2 h2).1),mW (aOC (aOC hg).2).2]
def Tm:∀{a}(al)(b)(adv:ry b vy)(n)(d)(he:n9 b n d)(hg:û=F){ab}(py:iK a ab)(hc:iY ab b=F),iY ab ë=F:=by rw[vj al b,mY adv];injections n d;rw[mY he hg,mY ab,mY py hc];(have po:oG ë (iK a j):=fun j J=>by rw[nD ((Fh b n j).1 J) q P Ab,mW adv j (r.lI Ab)]);rw[Do po py];rw[Do adv py]at hc;refine Acn (hs:=b.au (nF (pF _))) ?_ ?_ py.A'.1 hc;rw[mY k hs,uv hs,mZ hs,s4,aPZ q Ab (r.apA.1 J),nH aCC q n];subst aCC;rw[m1 (b[q]=d) (by rw[r.hV Ab]at he;exact ap.c.dB he),mY aa,aa,←Do po (adv d (r.lI he)),mW U4 al b q d he hg,m2 ((Fh b n _).2 (Ad q aCC (r.hV Ab))),mY bK];have lQ:=(adv _ J).A';rw[mW (sb Ir (ŀ (zm bK)) _ (Fs lQ.1 (nj lQ))),mY k hs,uv hs,mZ hs,s4];have lQ:=(adv j J).A';exact qd (nj lQ) (Ad j.v lQ.1 (nW lQ))
def S_{a}{d}(dT:vy):iY d []=Y:=by induction dT with|cl=>rfl|bY v n g bh i ec _ _ _ _ _ h5 _ _ _ _ _ ih=>rw[mZ a_5 a_6 a_7 a_9,ï (by exact eh e h5) j (by simp[FS,MQ,MR,aUK ih])]
abbrev agi(al:n1)(b:nL)(t:u):N:=ac6 b t&&aaY al b t
def Pl(b)(n t)(apd:n≤t):jv ë t=jv (jv b (t+1)) n:=by rw[aPY,mY q];simp only[CZ,CZ,CZ,CZ,CZ,CZ];rw[y5 Q n,rJ c0,c0 Q,c0 Q,c0 (m4 (aQM (Am [n,t,q] pR nN S) apd Q)),y5 h2 t,c0 h2,cH Q,cH Q,rJ c0];rw[cH h2,cH (m4 (yP (Am [n,q] 1 0 S ai (nN+1) S e (x7 Q) dO))),cH Q,cH (m4 (yP (Am [t,q] 1 0 S ai (nN+1) nm e (x7 h2) dO)))]
def RR:∀{a}(al)(b)(adv:ry b vy)(n t)(apd:n≤t)(U:agi al ë t=F),agi al b (t+1)=F:=by rw[vj al b,mY adv];injections n t;intro apd U;unfold agi at U⊢;rw[ou (aOC U) a_ hg];(have cG:ë[t]?=b[t+1]?:=tg CZ (rJ cH));induction he:b[t+1]? using ap.ae with|B=>simp only[ac6,cG,he]at a_;rw[wN a_]|c d=>simp only[he]at cG;(have aph:oG (jv ë t) (j∈jv b (t+1)):=by rw[tr];rw[Pl b n t apd]at J;rw[nD ((Fh _ n j).1 J) q P Ab,mW r.lI Ab]);(have aJe:oG ë (j∈b):=fun j J=>by rw[so (Fh b n j).1 J,mY q _ Ab,mW r.lI Ab]);rw[m1 ((jv ë t).z≤(jv b (t+1)).z) (nb (Pl b n t apd) (m7 Zw)),mY d9,N.fY];constructor;simp only[ac6,cG,he,N.acR]at a_⊢;rcases a_ with Q|Q|Q;rw[mW aQ.bT Q,mW (aOo aQ.bF Q),mX aQ.bF (aQ.bF ?_)];simp only[aiY,r.gZ]at Q⊢;rw[p4 Q,mY j J h2,mW Ad j (pa aJe) h2];rw[J3 al _ t d cG]at hg;rw[J3 al _ _ d he];rw[N.anq]at hg⊢;rw[nY hg hg];rintro hg;rw[m9];rintro hg;rw[m8];left;simp only[r.gZ]at hg⊢;rw[p4 hg,mY j J h2,mW Ad j (pa aph) h2];right;rw[m3 Ai (aT2 hg),mY Q h2,ou (aOC h2) h3 h4];have dT:=adv d (r.lI he);(have aCd:oG (jv b (t+1)) (j∈b):=fun j J=>by rw[so (Fh b _ j).1 J,mY q _ Ab,mW r.lI Ab]);rw[Do (fun j J=>adv j (aCd j (pa aph))) dT]at h4;rw[Q,N.acf,N.fY,y0 (qC (by simp only[kR]at h3⊢)),Do (fun j J=>Ş adv aCd) dT,mX Aco ?_ _ h4,mY H bK,uv bK,mZ bK,s4,mW (aT5 (Ad j (pa aph) e))]
def WX{a:aH}(al:n1)(W:nL)(av0:ry W vy):∀(H:u)(b:nL),(ry b zF)→H≤b.z→(∀ab∈W,iY ab b=F)→(∀t,H≤t→t<b.z→agi al b t=Y)→(ry (aO1 H) zF)∧(∀ab∈W,iY ab (aO1 H)=F)∧(∀t,t<(aO1 H).z→agi al (aO1 H) t=Y):=by intro H;induction H with|hf=>rw[mY b Q _ h2 h3,mW ⟨Q,h2,fun t cG=>h3 t (m4 (AJ [t] 0 S e)) cG⟩]|gk H ih=>intro b Q bK h2 h3;have cU:agW al H b=if agi al b H then jv b H else b:=e;simp only[WV,WW];induction U:agi al b H using N.ae with|Y=>rw[cU,U,mX ih b Q n_ h2 (fun t cG avb=>?_),nH aIW t H,aIW,mW U,mW h3 t n_ avb]|F=>rw[cU,U,m1 (n9 b H b[H]) (rJ r.hV),mY he,m2 (aOC U).2,mY hg];have d9:=Zx b H n_;refine ih (jv b H) (tZ (by rw[nD ((Fh b H d).1 he) q P Ab,mW Q d (r.lI Ab)])) (m4 (Am [H,b.z,qo jv b H] S a8 nm ai ai pR e bK (AN d9))) (aOd (Tm al b (tZ (av0 d (xz Q))) H _ he hg (wZ av0) (h2 ab b0))) (fun t cG avb=>?_);induction aH5:agi al (jv b H) t using N.ae with|Y=>rfl|F=>rw[m2 (RR al b (tZ (av0 d (xz Q))) H t cG aH5),m5,o6 (h3 (t+1) n_ (m4 (t5 [b.z,qo jv b H,t] pR S nN S (a8+1) ai e (Az d9) avb))),wN aa]
def Ub(H):b1 (0<H)=!(H==0):=by rw[ć H u.ae]
def SW(w:ch){i:nL}{g:N}(b:i.dD=g):f1 w .eq (ws i.au aR.aY) ps=c qz:=by rw[pq,ć i r.ae]
def SV(w:ch){i:nL}(b:qe i):f1 w .eq ĭ wL=c oX:=by induction i using r.ae with|C=>exact eh e b|s=>rfl
def AcV:∀(a:aH)(al)(fw:vB)(hz:aN7)(ac)(b2:td 30)(V)(i)(aC:i.z<100)(hd:ry i (d.eo≤20∧xf d.eu))(U:∀t,t<i.z→agi al i t=Y),∀(H o)(eN eQ fe),o+H=i.z→∃akj ahY akl,fZ (aO4 yn (pH (sG 4 (r_ 2 qw)) (sG 5 (xL (on eq (rZ (r_ 4 nG) nG) nr) (on eq (r_ 4 uN) yl))) (ts (xL (.bp 83 (pH pn ph qw)) (.or (.s (.ir y') (nA (aPR 81 ph))))) (.s wz .C)))) 3 B (k5 uQ 1 H) [xb,c V,c ĭ,eN,eQ,fe,B] a.G=c (na,[xb,c V,c ĭ,akj,ahY,akl,B],a.G):=by rw[aP0 al,mY fw hz];injections ac;intro b2;injections V i;rw[mY aC hd U,mY H];induction H with|hf=>rw[mY o eN eQ fe _,mW ⟨eN,eQ,fe,ę⟩]|gk H ih=>intro o eN eQ fe aG;have he:zc i i[o]:=aUF (Ag [i.z,o,H] (ai+1) S (ai+pR) S e (Az aG));have auR:=r.aij (show o<i.z by exact Ag [i.z,o,H] (ai+1) S (ai+pR) S e (Az aG));rw[mX JM (ih pY tF (c (aPD aY)) (Ĕ (aPD cC==0&&aPD e8.dD)) (m4 (Br [i.z,o,H] (nN+a8) S (ai+pR) S e aG))) fun akj ahY akl b=>?_,mX Nd akj ahY akl ?_,GJ,mX (zr ?_).ah b,m2 (Ox a al fw hz ti (m4 (Am [ac,ti] 22 ai 30 S S nN e b2 (q3 AN (Ag [ac,ti] 1 S 30 S e b2)))) i o _ he aC (hd _ auR).1 (hd _ auR).2),mY adj,m2 (Oy a ti i),mY aln];have ala:td 1:=u.eG nw b2;rw[u.e2 ala]at adj aln;(have fo:pE a.G ĭ qv=c (aPD aY):=by unfold eS;rw[Du,r.adg,he];rfl);rw[xE aV F2 i[o],xE cV EQ i[o],m1 ((aaY al i o&&(!(aPD cC==0)||(! aPD e8.dD||aiY i)))=Y) (by rw[←Ub,m2 (U o (m4 (Ag [i.z,o,H] (ai+1) S (ai+pR) S e (Az aG)))),m5];simp only[agi,ac6,he]at aa;rw[N.and_comm,mW aa]),mY ahv];have A1:=AH (DN (aPD cC) 0);have kI:=SW a.G (abH.fI (aPD e8.dD));clear b ih auR hd U he aC fw b2 ala;generalize aaY al i o=K at adj ahv;generalize(aPD cC==0)=t at A1 ahv⊢;generalize aPD e8.dD=aP at kI ahv⊢;generalize aiY i=v at aln ahv;rw[u9 K (by(rw[u9 t (by exact pK [uo,r0,.K,p A1,aOs]) (by exact pK [uo,r0,.K,p A1,uP,p kI,aOs])])) (by rw[u9 t (by rw[qT ahv]) (by rw[u9 aP (by rw[qT ahv]) (by rw[u9 v (by exact pK [uo,r0,.K,p A1,uP,p kI,aOs,aZ aln]) (by rw[qT ahv])])])])]
def AcW:∀(a:aH)(al:n1)(fw:vB)(hz:aN7)(ac:u)(b2:td 30)(gJ:u)(W i:nL)(mt:qh gJ v8)(aC:i.z<100)(dw:qe i)(hd:ry i (d.eo≤20∧xf d.eu))(aCu:ry W (d.eo≤20))(hc:∀ab∈W,iY ab i=F)(U:∀t,t<i.z→agi al i t=Y),oD (aQd (ac+1) 85 [xV,.D gJ,ĭ]) pb:=by rw[mY a al,mY fw hz,mY ac,mY b2,mY gJ W i,mY mt aC dw hd aCu hc U,m2 (Il mt),mY lA,m1 (AY (aOE gJ) a.G=F) (y8 AY mt),mY cU];have jr:=aRH yn (s8 79 6 ph) 6 qc [xb,tx gJ,c ĭ,B,B,B,B] (.D gJ) _ W aR.aY (x8 (ar.aO (iY ab i))) vO lA cU (aOd (by have:=Ow a (ac-(ab.eo+1)) ab i;rw[u.la,s7 (show td (ab.eo+1)by rw[m2 (wZ aCu),m5,mW Am [ac,ab.eo] (ai+1) S 30 S ai 20 e b2 aa])]at aa;exact qX [aZ aa]));have iO:=w3 GX yn a.G a.G _ _ jr (m7 CO);rw[IU,r.hp.2 hc]at iO;refine JM (AcV a al fw hz ac b2 (.D gJ) i aC hd U i.z 0 B B B (u.aac _)) fun akj ahY akl kD=>?_;have amW:rm (acN a.G (eS i)) i.z:=CW (i:=ż) e (by rw[r.hN]at⊢);rw[xE cG SV dw];have br:=Ů Fk i.z;exact nd SD [p cG,aZ iO,p amW,os (K6 br kD)]
def FI(w)(p)(q aq):lY w p n' ē=alp p q aq:=e
def Vc(q aq):alp .alE q aq=nK ((g2 q&&g2 aq)=F) (w6 (q*aq)):=e
def NR(q aq):alp .abo q aq=nK ((g2 q&&(b1 (0<aq)&&g2 aq))=F) (c (.m (q.abo aq))):=e
def NS(q aq):alp .kS q aq=nK ((b1 (0<aq)&&g2 aq)=F) (c (.m (q.kS aq))):=e
def B7{O}{cf}{p}{f g}{l}{w a4 dm}{j ab y}(Q:o5 (o0 aU f) j)(h2:aNJ g=c (ab,dm))(h3:lY dm p j ab=c y):oC (.dM p f g)=c (y,dm):=by rw[rc (pk ta Q),aPU ap.eO h2 h3];rfl
def AX{O}{cf}{p}{f g}{l}{w a4 dm}{j ab y}(Q:o5 (o0 aU f) j)(h2:aNJ g=c (ab,dm))(h3:f1 dm p j ab=c y):oC (.aX p f g)=c (y,dm):=by rw[rc (pk ta Q),aPU ap.eO h2 h3];rfl
def Go{O}{cf}{x f g}{l}{w a4}(Q:o5 (o0 aU x) pb):oC aN8=aNJ f:=by rw[rc (pk ta Q)];rfl
def E8{O}{cf}{x f g}{l}{w a4}(Q:o5 (o0 aU x) oX):oC aN8=aNJ g:=by rw[rc (pk ta Q)];rfl
def D3{O}{cf}{x}{f g}{l}{w a4}(Q:o5 (o0 aU x) pb):pU dP aN8=b4 O cf f l a4:=sg IE Q
def D2{O}{cf}{x}{f g}{l}{w a4}(Q:o5 (o0 aU x) oX):pU dP aN8=b4 O cf g l a4:=sg IE Q
def Bh{O}{cf}{q}{d}{l}{w a4}{y}(Q:uw y):pU dP (.ci q d)=c (na,Ÿ qu,a4):=sg QA Q
def Dg{O}{cf}{d}{l}{w a4}{y}(Q:uw y):pU dP (s6 d)=c (rO,l,a4):=sg QD Q
def BX{O}{cf}{d}{l}{w a4}{y}(Q:uw y):pU dP (.f_ d)=c (na,l,a4):=sg QC Q
def AW{O}{cf}{ac}{Aa}{l}{w a4}{vs}(Q:o5 aN1 vs):oC (.bp ac Aa)=cf ac vs a4:=sg Qv Q
def Ae{O}{cf}{d}{Aa}{l}{w a4 dm}{y}{vs}(Q:uw y)(h2:h0 O cf Aa l a4=c (vs,dm)):pU h0 u6=c (y::vs,dm):=by rw[rc (pk ta Q)];simp only[ap.eO,h2];rfl
def A3{O}{cf}{Aa}{l}{w a4}{vs}(Q:o5 aN1 vs):o5 (oC (nE Aa)) (nE vs):=sg IC Q
def CC{O}{cf}{Aa}{l}{w a4}{vs}(Q:o5 aN1 vs):o5 (oC (oh Aa)) (oh vs):=sg Qy Q
def Bm{O}{cf}{f g}{l}{w a4 dm}{j ab y}(Q:o5 (o0 aU f) j)(h2:aNJ g=c (ab,dm))(h3:eC dm j ab=c y):oC (.aT f g)=c (y,dm):=by rw[rc (pk ta Q),aPU ap.eO h2 h3];rfl
def Aj{O:mE}{cf:iV}{q:u}{l:du}{w:ch}{y:ar}(b:pO l qu):oC Ė=c (y,w):=sg Bl b
def AO{O}{cf}{k}{g}{l bW}{w a4}(b:o0 dP k=c (na,bW,a4)):pU b4 (.s k g)=b4 O cf g bW a4:=sg Eo b
def CJ{O}{cf}{k}{g}{l bW}{w a4}{y}(b:o0 dP k=c (rO,bW,a4)):pU b4 (.s k g)=c (rO,bW,a4):=sg Eo b
def Gs{O}{cf}{d}{h}{Aa}{l}{w a4 dm}{y}{ac}{vs}(Q:uw y)(h2:my O a4 y h=c ac)(h3:h0 O cf Aa l a4=c (vs,dm)):oC (.eT d h Aa)=cf ac (y::vs) dm:=by simp only[Lw,Q];rw[m6 (((my O a4 y h).bP fun ac=>(h0 O _ _ l a4).bP fun t=>cf ac (y::oq) _)=_),h2,m6 (((h0 O _ _ l _).bP fun t=>cf ac _ _)=_),h3];rfl
structure aL8(a:aH):Prop where
 aF:aPB
 xs:aVS
 bs:a.bs<100000
def P1(n:u)(b:n<1000000):g2 (nc n)=F:=by unfold g2;simp only[N.c3,kR];exact tA KN b
def Acb:∀(a:aH)(J:aVS)(ba:a.bs<100000)(o h)(cu:0<h)(ahA:rG h),∃l:u,l<h∧aQd pY 68 [ĕ,.m h]=c (.m l,yt bs wo):=by rw[ug,mY J ba,đ o,mY cu ahA,uy J cL ars];have am2:aVs ĕ nr a.bs:=Cq _ 0 [.m a.bs,aSm] 0 (BH a);have aax:eC (yt bs wo) ĕ nG=c aSm:=Cq _ 0 [vl wo,aSm] 1 (BH (oP bs wo));have ad:lY [] .e_ (.m a.bs) nG=c (pf (aUl+1)):=e;(have lf:lm a.G 0 nr (pf (aUl+1))=c (yt bs wo):=by unfold lm;rw[BH a,mW cr c (s0 a wo)]);have arC:rm (acN (yt bs wo) aSm) a.xs.z:=CW (i:=a.xs) e e;have arF:tM<nc h:=R.aa7.gS cu;(have cW:∀j:R,lY [] .kS ũ (.m h)=c (.m ((R.kS j h).es:u)):=nF (by rw[FI,NS,c0 (by rw[hZ arF,Ů P1 h]at⊢;rfl),R.awJ (R.aHm _ arF)]));have aBN:∀j:R,(R.kS j h).es<h:=nF ((R.aEX (R.aHm _ arF)).gS (R.fmod_lt_of_pos _ arF));by_cases jf:a.bs<a.xs.z;(have aIG:a.bs<cL.z:=by simp only[ars,r.hN]at jf;exact jf);(have aJP:rm (pE [] aSm (.m a.bs)) cL[a.bs]:=by rw[Du,ars,r.adg,r.hV aIG];rfl);exact(Ad _ (aBN cL[a.bs]) (nd MC [p am2,p ad,aaG lf,ū,p arC,p (Cz (hZ (R.aa7.gS jf))),ū,p aJP,qa cW cL[a.bs]]));(have aKq:lY [] .alE (.m a.bs) (.m 101)=c (pf (aUl*101)):=by rw[FI,Vc,c0 (by rw[Ů P1 a.bs]at⊢;decide)]);have aGp:lY [] .e_ (pf (aUl*101)) (.m 7)=c (pf (aUl*101+7)):=e;exact(Ad _ (aBN (aUl*101+7)) (nd MC [p am2,p ad,aaG lf,ū,p arC,sZ Cz jq (oE (pQ jf R.aa7.mp)),p aKq,p aGp,p (cW (aUl*101+7))]))
abbrev kp:u→a9|0=>aUD|1=>q9 "null"|2=>.aO 1 0|3=>aUw|4=>rx|5=>og "b"|6=>aSr|7=>.mP|_=>aSs
abbrev mc:sf u|0=>1|1=>2|2=>4|3=>24|4=>16|5=>32|6=>120|7=>128|_=>384
def H8{W:aR2}(b:W 0∧W 1∧W 2∧W 3∧W 4∧W 5∧W 6∧W 7∧W 8):∀q,q<9→W q:=BJ od (BJ rB (BJ tO (BJ vr (BJ x9 (BJ (nj oH) (BJ (oj oH) (BJ (ov oH) (BJ (qk oH) KA))))))))
def PN(a:aH)(h q:u)(Ab:q<9):qM 69 [n'] (tY q):=by have fo:pE a.G (oh [tY 0,tY 1,tY 2,tY 3,tY 4,tY 5,tY 6,tY 7,tY 8]) n'=c (tY q):=(Du ..).ah (H8 (W:=fun q=>op ([tY 0,tY 1,tY 2,tY 3,tY 4,tY 5,tY 6,tY 7,tY 8]:nC) (tY q)) (u7 Hs e e e e e) q Ab);exact nd St [.K,uo]
def I7(a:aH)(h q:u)(Ab:q<9):qM 70 [n'] (.m (mc q)):=by have fo:pE a.G (oh [nG,rn,Ç,.m 24,.m 16,.m 32,.m 120,.m 128,.m 384]) n'=c (.m (mc q)):=(Du ..).ah (H8 (W:=fun q=>pO ([nG,rn,Ç,.m 24,.m 16,.m 32,.m 120,.m 128,.m 384]:nC) (.m (mc q))) (u7 Hs e e e e e) q Ab);exact nd Su [uo]
noncomputable abbrev i_:=ap (nq×N)
abbrev ahb:i_→Prop|B=>abh|c (i,_)=>qe i∧wq 2∧∀q∈i,q<9
abbrev mH:i_→ar|B=>ps|zk i=>nE [v1 i,aOL]
def JV(w)(f g:u)(U:0<g)(a_:rG f)(agB:rG g):lY w .abo th y9=c (vl (f/g)):=by rw[m1 (g2 vn=F) (Ů DG _),mY Q,m2 (Ů DG _),mY h2,m1 (b1 (tM<g)=F) (qC (by simp)),mY h3];rw[FI,NR,c0 (by rw[Q,h2,h3]at⊢;rfl),R.aKC]at⊢
def HH(w)(f g:u)(U:0<g)(agB:rG g):lY w .kS th y9=c (vl (f%g)):=by rw[m1 (g2 (nc g)=F) (Ů DG _),mY h2,m1 (b1 (tM<g)=F) (qC (by simp)),mY h3,FI,NS,c0 (q0 h2 h3),R.ofNat_fmod]
def KF:∀(w:ch)(h x:u)(hc:x<486),∃H,ahb H∧bc T bo nB 71 [.m x] w=c (mH H,w):=by injections w h x;rw[mY hc,m2 (oR (HH w x 3 nw)),mY afR,m2 (JV w x 243 nw (m4 (ĵ hc)) nw),mY aGV,m2 (oR (HH w (x/243) 2 nw)),mY c4,m2 (JV w x 27 nw (m4 (ĵ hc)) nw),mY aGW,m2 (oR (HH w (x/27) 9 nw)),mY aKh,m2 (JV w x 3 nw (m4 (ĵ hc)) nw),mY akN,m2 (oR (HH w (x/3) 9 nw)),mY aKi];(have ae3:∀gd,ny nT pn [nn x,gd] w=c (.m x,w):=by rw[mY gd,mW nz]);have cV:∀gd,ny nT (rk kS pn uN) [nn x,gd] w=c (vl (x%3),w):=fun gd=>B7 (ae3 gd) nU afR;rw[nH bf (x%3) 0,mX Ad B jC ?_,m1 ((ob (x%3)==0)=F) (Gr (x%3) 0 bf),mY t];have auL:ny nT (on eq (rk kS pn uN) nr) [nn x,B] w=c (pb,w):=AX (cV B) nU (by simp only[f1,kz,jp,abO,acr,kC,aat,r.ado,fU,t,ap.ji]);rw[ME,aqK,Eo,D3 auL];rfl;rw[m1 ((ob (x%3)==0)=Y) (C9 (x%3) 0 bf),mY t];have auL:ny nT (on eq (rk kS pn uN) nr) [nn x,B] w=c (oX,w):=AX (cV B) nU (by simp only[f1,kz,jp,abO,acr,kC,aat,r.ado,fU,t,ap.ji]);have az1:ny nT (rk kS (rk abo pn (.m 243)) rn) [nn x,B] w=c (vl (x/243%2),w):=B7 (B7 (ae3 B) nU aGV) nU c4;rw[m1 (ny nT (rk kS (rk abo pn (.m 27)) È) [nn x,B] w=c (vl (x/27%9),w)) (B7 (B7 (ae3 B) nU aGW) nU aKh),mY aG3,m1 (∀gd,ny nT (rk kS (rk abo pn uN) È) [nn x,gd] w=c (vl (x/3%9),w)) (fun gd=>B7 (B7 (ae3 gd) nU akN) nU aKi),mY aot,m1 (∃afS:nq,afS.z≤1∧(∀q∈afS,q<9)∧ny nT (.bC (on eq (rk kS (rk abo pn (.m 243)) rn) nG) (.bm (nA (rk kS (rk abo pn (.m 27)) È))) Š) [nn x,B] w=c (v1 afS,w)) (by rw[nH Q (x/243%2) 1,mX AP ([x/27%9]) qg (aP6 (tA u.aDS _)) ?_,m1 ((ob (x/243%2)==1)=F) (Gr _ 1 Q),mY cG,mW (Go (AX az1 nU (by simp only[f1,kz,jp,abO,acr,kC,aat,r.ado,fU,cG,ap.ji]))).ah (CC (Ae aG3 oy)),mX AP ([]) qg qg ?_,m1 ((ob (x/243%2)==1)=Y) (C9 _ 1 Q),mY cG,mW (E8 (AX az1 nU (by simp only[f1,kz,jp,abO,acr,kC,aat,r.ado,fU,cG,ap.ji]))).ah aTh]),mY ao9,mX AF ao9 fun afS ao5 au1 ao9=>?_,mX Ad (c ((x/3%9)::afS,b1 (x%3=2))) (AE qg (aP6 ao5) ?_) ?_,mY q Ab,nt (r.gA.1 Ab),n8,m9];rintro Ab;rw[m8,mW (tA u.aDS _),mW au1 q Ab,m1 (ny nT (rk eZ (rk kS pn uN) nG) [nn x,c (v1 afS)] w=c (aeR (b1 (x%3=2)),w)) (by rw[mX B7 (cV _) nU ?_,m1 (x%3=1∨x%3=2) (m4 (Yl bf)),m5];(rw[nY aa aa,oe,m9,oe,m8])<;>rw[b]<;>rfl),mY aph,m1 (aU _ _ (m7 .dM qc) _ w=c (.bm (cS ((x/3%9)::afS)),w)) (by rw[m1 (À (rH cS [x/3%9]+rH cS _)) (by simp[cS,dv];exact Ag [afS.z] (1+S) 1048576 S 1 e ao5),mY aC,m1 (lY w .e_ (oh [xk]) (oh _)=c _) (by simp only[lY,jp,alp,j7];exact c0 aC),mY U,mW B7 (CC (Ae (aot _) oy)) nz U]),mY auz,m1 (dP _ _ (.bC _ (nA (.bu yl)) _) _ w=c (na,[nJ,B],w)) (pX D2 auL sV),mY s1,ME,aqK,AO s1,AO (Bh ao9)];rw[sr (([nJ,B]:du).b6 1 _) [nJ,nJ] e];rw[CJ (Dg (A3 (Ae auz (Ae aph oy))))];rfl
abbrev hB:sf i_|B=>2047|zk i=>adr p (i.au mc)
def OK:∀(a:aH)(h)(H)(bK:ahb H),pG 2 72 [mH H] (.m (hB H)):=by rw[đ a,mY H bK,tm H (by rw[ot FO [.K]]) f (by induction f using fK.ae with|mk i g=>rw[pv AC bK Q h2 h3,mZ bK,oT i (by exact eh e Q) q i (by clear Q;have Ab:=I7 a h q (h3 q tG);rw[oT i (by rw[m1 (hB (c ([q],g))=(t9 g 513)|||mc q) (cr (nF ((t9 g 513)|||j)) (u.or_zero _)),p0,d,mZ d h2 h3,wD g,mW (nd FO [.K,.K,.K,.K,vh,aZ Ab,sZ (C_ [] 0) mc q]),mW (nd FO [.K,.K,.K,.K,vh,aZ Ab,sZ (C_ [] 513) mc q])]) aq i (by have cQ:=I7 a h aq (h3 aq (r.lH _ tG));induction i using r.ae with|s o i=>exact eh h2 (yg r.kZ (yP (Ag [i.z] 1 0 (nm+1+1) 2 e dO)))|C=>rw[m1 (hB (c ([q,aq],g))=(t9 g 513)|||mc q|||mc aq) ((cr (nF ((t9 g 513)|||(mc q|||j))) (u.or_zero _)).ah (rz (u.or_assoc ..))),p0,d,mZ d h2 h3,wD g,mW (nd FO [.K,.K,.K,.K,vh,aZ Ab,sZ (C_ [] 0) mc q,aZ cQ,sZ (C_ [] (0|||mc q)) mc aq]),mW (nd FO [.K,.K,.K,.K,vh,aZ Ab,sZ (C_ [] 513) mc q,aZ cQ,sZ (C_ [] (513|||mc q)) mc aq])])])])]
def dI.As{a}{M}{O}(aF:qG)(p):dI (a.As p) M O:=u7 aF.le (D_ a p aF.aS) aF.eM aF.ey aF.jX e aF.jW
def E1(ao)(cO:ao.fF)(o)(l)(b:zc ao l):gG ao l=o:=O0 cO _ _ l (pQ (HR ao l) r.lI) b
def E2(ao)(l)(U:yU q l (op kv l→op ao l))(br:l∉kv):xe (gG ao l):=by rw[m2 (qJ (m7 U) (n9 kv 15 _) e),mY ak0,u8 aC ak0,aPb l ao,m2 (HR ao l bK),nR];by_cases jf:gG ao l<16;rw[m1 (∃r',n9 kv (gG ao l) r') (qn (aUF jf)),mY bj,uy bj r' bj,m2 (nv U bj),mY aa,o6 b,nf aa,mZ aa,mY aa,uM,mW eh (r.lI bj) br];omega;rw[E3 ao l bK];omega
def QY(ao)(cO:ao.fF)(U:yU q l (op kv l→op ao l)):∀q,q<9→hm (gG ao (kp q)) (kp q) (mc q):=by rw[m2 (E1 ao cO 4 _ (U 4 _ e)),mY ek,m2 (E1 ao cO 5 _ (U 5 _ e)),mY dY,m2 (E1 ao cO 6 _ (U 6 _ e)),mY dZ,m2 (E1 ao cO 7 _ (U 7 _ e)),mY d0,m2 (E1 ao cO 9 _ (U 9 _ e)),mY d1];apply H8;rw[mX Hs ?_ ?_ ?_ ?_ ?_ ?_ ?_ ?_ ?_,m6 (hm (aNI (q9 _)) _ _),ek,mW .un,m6 (hm (aNI (q9 _)) _ _),dY,mW .nl,m6 (hm (aNI (.aO 1 0)) _ _),d1,mW .Ap,mW .f _ (E2 ao _ U nw),mW .d _ (E2 ao _ U nw),mW .g _ (E2 ao _ U nw),m6 (hm (aNI (q9 _)) _ _),dZ,mW .st,mW .a _ (E2 ao _ U nw),m6 (hm (aNI (q9 _)) _ _),d0,mW .avW]
def G3:∀q,q<9→∀n,kp q≠v3:=by apply H8;refine(Hs ?_ ?_ ?_ ?_ ?_ ?_ ?_ ?_ ?_)<;>intro n b<;>injection b
def PD(a)(M)(O)(aF:qG)(h q)(Ab:q<9)(fT:aSO):∃(v:u)(ao:oB),Ř 88 [oW,tY q]=c (oF,î)∧ao=eL a.ak (kp q)∧ie ao v (mc q):=by rw[mX (sb Au (rJ (GG a h _ aF.kh)) e (ql (m7 D') ?_)),mW QY _ aF.cO aF.eX q Ab]
def I6{ao}{v g}(n:aNW v):agl ao v=g:=by rw[←(hH.gB v g n).agk.2];simp[iT]
def WH:∀(a)(aF:aPB)(h)(i)(p)(aC:ahb (zk i))(fT:ŝ 800000)(l)(avc:ń nZ)(arL:∃j,n9 l 6 j)(alu)(fo:oD (aU T pd alu l a.G) (v1 i)),∃(aP:u)(ao:oB),ny pd (s8 8 0 (.go aRG 6 alu .C)) l a.G=c (Æ,î)∧aTk v'∧aRc∧ao.z≤a.ak.z+3∧aV0∧∃l' g7,hH ao aP l' g7∧l'.z≤2∧iT g7=iT (i.au mc):=by rw[ug,mY aF,yb i p,mY aC fT];injections l;intro avc arL;injections alu;rw[mY fo,pv AC aC Q h2 h3,mZ aC,uy arL cp arL,m1 (6<l.z) (r.gF.1 arL).1,mY aIX];(have auQ:∀(a:aH)(aF:aPB)(q:u)(Ab:q<9)(fT:aSO),∃(v:u)(ao:oB),ago T pd aRG (l.b6 6 (nn q)) a.G=c (oF,î)∧ao=eL a.ak (kp q)∧ie ao v (mc q):=by rw[mY a aF q Ab fT,s3 (PD a [] [] aF (h+2) q Ab fT) v ao aV bj cV,mX Au v ao ?_ bj cV,m2 (PN a (h+2) q Ab),mY iC,m1 (nX (l.b6 6 (nn q)) 0 nZ) (nb (oR r.agx) avc),mY ae3,m1 (nX (l.b6 6 (nn q)) 6 (nn q)) (by rw[r.akY aIX]),mY fi,mW (Gs (Aj ae3) (Fa a) (vx ((xY (Aj fi) oy).ah iC))).ah aV]);(have aCA:∀w l,ahC T pd .C l w=c (F,w):=fun w l=>tg HQ Qw);(have jr:∀(i:nq)(a:aH),oD (aU T pd alu l a.G) (v1 i)→∀vs dm,abk (ago T pd aRG) (ahC T pd .C) 6 B (cS i) l a.G=c (vs,dm)→ny pd (.go aRG 6 alu .C) l a.G=c (oh vs,dm):=by rw[mY i a fo vs dm hc,Iy,fo,m6 ((ox (nM abk 6 B (cS i) l a.G) V (ar.bm V.1,V.2))=_),hc];rfl);(have iD:∀(a':nq)(z1:aH),ny pd (.go aRG 6 alu .C) l a.G=c (v1 a',z1.G)→∀V,aOa 3 8 [oW,v1 a'] z1.G=c V→ny pd (s8 8 0 (.go aRG 6 alu .C)) l a.G=c V:=by rw[mY a' z1 hc V ei,mW (xY (Aj avc) (aSR hc)).ah ei]);rw[ï (by exact eh e Q) q (by rw[ï (by have Ab:=h3 q (by simp);rw[s3 (rJ (auQ a aF q Ab)) v ao aV bj cV,rf (aF.Ah ao (aQ.bF (qn bj))) ke add lE,m1 (abk (ago T pd aRG) (ahC T pd .C) 6 B (cS [q]) l a.G=c (cS qU,î)) (by simp[cS,FQ,FR,AY,aCA,aV]),mY hc];(obtain⟨aP,gO,gE,f2,fn,l',g7,i2,aet,aoz⟩:=Lo v' [] [] ke h (v1 qU) qU aUr rb rb (fun j J=>nb aQI (m7 BN (.gB v _ cV))) (by rw[m2 (HO ao qU [] 1 (fun j J=>by rw[aQI,(hH.gB v _ cV).e8];simp)),m5];simp at aa;rw[m6 ((fj ao [] qU).z≤3)];omega) (by rw[m6 (ao.z<900000),mW (aNX a.ak.z ao.z 900000 800000 ai nm e fT lE)]));rw[rf (ke.Ah gO f2) gi adV acM,m1 ((fj ao [] qU).z≤1) (wx (HO ao qU [] 1 (fun j J=>by rw[aQI,(hH.gB v _ cV).e8];simp))),mY ajB,m1 (gO.z≤ao.z+1) acM,mY ad3,m1 aV0 (nb bj (m7 Dk (G3 q Ab))),mY akT,mX Dp aP gO (iD qU _ (jr [q] a fo _ _ hc) _ gE) gi (fun q l b=>adV q l (add q l b)) (m4 (Am (aR0 ao.z gO.z) a8 wP ai nm a8 nN e lE ad3)) (akT.ah fn) (Au l' g7 i2 ?_ ?_),m1 ((fj (s9 ao ak) [] qU).z≤1) ajB,mY aa,mW Am [l'.z,(fj (s9 ao ak) [] qU).z] S 2 S ai ai 1 e aet aa,aoz,m6 (iT [agl ao v]=_),I6 cV];rfl) aq (by induction i using r.ae with|s o i=>exact eh h2 (yg r.kZ (yP (Ag [i.z] 1 0 (nm+1+1) 2 e dO)))|C=>have Ab:=h3 q (by simp);have cQ:=h3 aq (by simp);rw[s3 (rJ (auQ a aF q Ab)) v ao aV bj cV,rf (aF.Ah ao (aQ.bF (qn bj))) ke add lE,s3 (auQ v' ke aq cQ (by rw[m6 (ao.z<900000),mW (aNX a.ak.z ao.z 900000 800000 ai nm e fT lE)])) iu iA aos az0 aot,rf (ke.Ah iA (aQ.bF (qn az0))) azk az7 aJ5];have at5:ie iA v (mc q):=cV.bx az7;rw[m1 (abk (ago T pd aRG) (ahC T pd .C) 6 B (cS [q,aq]) l a.G=c (cS [v,iu],(tB ao Ah iA).G)) (by simp[cS,FQ,FR,AY,aCA,aV,aos]),mY hc,m1 (oG [v,iu] (∃i bq,z_ (tB ao Ah iA).ak j)) (by rw[tr,mZ aV cV hc,nt (r.gA.1 J),n8,m9,x',m8,mW (m7 BN (nv .gB at5)),aQI,mW (m7 BN (nv .gB aot))]),mY ew];(have ajB:(fj iA [] [v,iu]).z≤2:=by have:=HO iA [v,iu] [] 1 (fun j J=>by rw[mZ aV cV hc ew,nt (r.gA.1 J),n8,m9,x',m8,(nv hH.gB at5).e8];simp;rw[aQI,(nv hH.gB aot).e8];simp);rw[Ă]);have alf:iA.z≤ao.z+1:=aJ5;obtain⟨aP,gO,gE,f2,fn,l',g7,i2,aet,aoz⟩:=Lo (tB ao Ah iA) [] [] azk h (v1 [v,iu]) [v,iu] aUr rb rb ew (qC (by rw[m6 ((fj iA _ _).z≤3)])) (by rw[m6 (iA.z<900000),mW Bu (aR0 ao.z iA.z) (a8+1) 900000 nm 800000 ai nm a8 nN e fT lE alf]);rw[rf (azk.Ah gO f2) gi adV acM,m1 (gO.z≤iA.z+1) acM,mY ad3,m1 (aag _ ao) (nb bj (m7 Dk (G3 q Ab))),mY akT,m1 (aag ao iA) (nb az0 (m7 Dk (G3 aq cQ))),mY auk,mX Dp aP _ (iD _ _ (jr _ a fo _ _ hc) _ gE) gi (fun q l b=>adV q l (az7 q l (add q l b))) (m4 (Bu [a.ak.z,ao.z,iA.z,gO.z] eK wP ai nm a8 nN eK pR e lE alf ad3)) ((akT.ah auk).ah fn) (Au _ _ i2 ?_ ?_),m1 ((fj (tB ao Ah _).ak _ _).z≤2) ajB,mY aa];omega;rw[aoz,m6 (iT [agl iA v,agl iA _]=_),I6 at5,I6 aot];rfl)])]
abbrev eV(g:i_×i_):ar:=nE [mH g.1,mH g.2]
abbrev l7(a:aH)(anH:ar)(eN eQ fe:pl):du:=[nZ,c anH,sS,eN,eQ,fe,B]
abbrev asi:cx:=oo aqL (.s _ (Ğ (nv .mn g))) g .C
def Pe:∀(a)(aF:aPB)(h)(g)(cE:N)(H)(bK:H=if cE then g.2 else g.1)(acE:ahb H)(aaI)(aa0:aaI.z<10)(fT:ŝ 800000)(eN eQ fe:pl),∃(ao:oB)(n:o4)(ahY:pl),f0 T pd asi (aRE eQ) (uI zb)=c (na,aRE ahY,(s9 ao As (.aw (aaI++e6 (lL cE) n))).G)∧aTk v'∧aRc∧ao.z≤a.ak.z+3∧aV0∧eI ao n (hB H):=by rw[ug,mY aF,yb g cE,mY H bK acE aaI aa0 fT eN eQ fe,m1 (asi=nA (ts (on ne aSJ yl) (.s (sG 4 (s8 8 0 (aRj aRG 6 (rZ aSJ nr)))) (nA (.f_ (aOU 2 (qL (.s (rZ (og "pq") qw) (pH p6 (rZ aSJ nG) nr))))))))) e,mY aIN,m1 (∀w,pE w vJ (pf (t9 cE 1))=c (mH H)) (by rw[mZ acE,mY w];subst bK;rw[wD cE,mW aRZ];exact D4 ..),mY acF,mZ bK,m1 (∀eQ fe(w:ch),ny pd aSJ (l7 a _ _ eQ fe) w=c _) (fun eQ fe w=>Bm nz nz (acF w)),mY abf,mZ acF];simp only[DM,aIN,Eo];induction H using ap.ae with|B=>rw[mX (nM Cn eQ ?_ ?_ aQ0 n_ (aag.fI _) (.no)),m1 (aU _ _ (.aX .ne _ _) (l7 a _ _ eQ fe) _=c (oX,uI zb)) (AX (abf ..) Ť e),mY hc,D2 hc,Bg,Kl,Bg,Ea a aF.kh];simp[e6];rw[Ea a aF.kh,mW aF]|c f=>obtain⟨i,p⟩:=f;rw[m2 (aF.As zb),mY aGU,m1 (ny pd (rZ aSJ nr) (aRE eQ) (uI zb)=c (v1 i,uI zb)) (aTx (abf ..) aRZ),mY fo];obtain⟨aP,ao,aV,aGT,aaX,c9,aoH,l',g7,pt,ad3,amP⟩:=WH (a.As zb) aGU h i p acE fT (aRE eQ) e (qS B) _ fo;rw[m1 (((a.As zb).Ah ao)=(s9 ao As zb)) e,mY cU,y3 cU];have aS:=aF.aS;rw[mX Cn ao (zk aP) (nn aP) ?_ ?_ aaX c9 aoH ?_,m1 (ny pd (on ne aSJ yl) (aRE eQ) (uI zb)=c (pb,uI zb)) (AX (abf ..) Ť e),mY hc,m1 (∀w,pE w (og "pq") (pf (t9 cE 1))=c aWa) (by rw[mY w,mZ abf fo aV hc];induction cE using N.ae<;>rfl),mY aJd];have iC:ny pd (qL (.s (rZ (og "pq") qw) (pH p6 (rZ aSJ nG) nr))) (aRE (nn aP)) (s9 ao As zb).G=c (nE [aWa,Æ,aOL,nr],(s9 ao As zb).G):=A3 (o2 (Bm (DI ..) nz (aJd _)) nz (o2 (aTx (abf ..) (D4 ..)) nU oy));have hg:=GE v' zb aS;rw[m1 (ny pd (aOU 2 (qL (.s (rZ (og "pq") qw) (.s p6 (.s (rZ aSJ nG) (nA nr)))))) (aRE (nn aP)) (s9 ao As zb).G=c (.B,(s9 ao As (.aw (aaI++[nE [aWa,Æ,aOL,nr]]))).G)) (by rw[nM (p5 (w3 CG pd) a.ad) aaI aaI nz hg iC hg (qC (by simp[dv]))];rw[sr a.ad (s9 ao ad) e,KX v' _ _ aS]),mY auB,D3 hc,AO (Bh aV)];rw[sr ((aRE eQ).b6 4 (nn aP)) (aRE (nn aP)) e,AO (BX auB),Bg,Kl,Bg];rfl;rw[mW (u7 aGT.le aS aF.eM aF.ey aF.jX e aF.jW),m1 (adr p g7=hB (zk i)) (by simp only[hB,adr,amP]),m5,←aa,mW .abF aP p l' g7 pt ad3]
abbrev aKA:aQF|vE=>n.mM&&t.mM|_=>F
def YJ{n t:o4}(b:a9.D n t∈kv):n=B∧t=B:=let v:=N.fY.mp (r.hp.mp (show kv.db aKA=F by kernel_rfl) _ b);gL.lh (ap.am6.mp v.1) (ap.am6.mp v.2)
def Pf:∀(a:aH)(aF:aPB)(h:u)(g:i_×i_)(Q:ahb g.1)(h2:ahb g.2)(fT:ŝ 700000),∃(v:u)(ao:oB)(n t:o4),rE 4 73 [oW,vJ]=c (nE [oF,nE [pf vI,.m (hB g.1),.m (hB g.2)]],î)∧aTk v'∧(aRK a.ak ao)∧ao.z≤a.ak.z+7∧aV0∧nX ao v vE∧(v=11∨xe v)∧eI ao n (hB g.1)∧eI ao t (hB g.2):=by rw[ug,mY aF];injections h g;intro Q h2 fT;have aS:=aF.aS;refine Co (Pe a aF h g Y g.1 e Q [] qg n_ B B B) fun fB n ahY aV ke add lE akT cC=>?_;(have alf:s9 fB ak.z<800000:=yh (fB.z<800000) (aNX a.ak.z fB.z 800000 700000 ai wP e fT lE));rw[mX Co (Pe (a.Ah fB) ke h g F g.2 e h2 ([]++e6 (lL Y) n) (Ũ n (by decide) f (by rw[mZ aV cC,aPH,mW yK])) alf B ahY B) fun gO t akk bj gi adV acM auk c4=>?_,m1 (gO.z≤fB.z+3) acM,mY aIC];have avd:(tB fB Ah gO)=a.Ah gO:=e;rw[avd]at bj gi;rw[m1 (a9.aY vE=nE _) e,mY iC,mZ iC,m2 (gi.As aRS),mY azl,m2 (GG _ (h+2) vE azl.kh (by rw[m6 (gO.z<1000000),mW (aNX (s9 _ ak.z) gO.z 1000000 800000 ai wP e alf acM)])),mY lf,mZ azl,m1 ((s9 _ As aRS).ak=gO) e,mY abu];rw[abu]at lf;rw[mZ abu,m1 ((tB gO As _).Ah (eL gO _)=(a.Ah (eL _ vE)).As aRS) e,mY kW];rw[kW]at lf;rw[mZ kW,rf (gi.Ah (sy gO vE) (aQ.bF u0)) aaW ara ar2,m1 (tB gO Ah _=a.Ah (eL gO vE)) e,mY aC1];rw[aC1]at aaW;clear aC1;have ahr:aRK gO (sy gO vE):=ara;rw[mZ ara,m1 ((m7 eL).z≤gO.z+1) ar2,mY apt,mZ ar2,mX (nM Ui n t ?_ aaW (fun q l b=>ahr q l (adV q l (add q l b))) (m4 (Bu [a.ak.z,fB.z,gO.z,(m7 eL).z] eK (S+7) ai wP a8 (ai+3) eK pR e lE aIC apt)) (pX akT.ah auk (m7 Dk (fun n b=>Å))) (m7 D') ?_ ((cC.bx adV).bx ahr) (c4.bx ahr)),mZ cC c4 aaW ahr apt,m1 (dP _ _ (.ci 2 _) _ _=c (na,l7 a _ _ _ _,(a.As _).G)) (by rw[m1 (aU T pd _ [nZ,xl,B,B,B,B,B] a.G=c _) (by rw[C6,Ar,m6 (c (ar.D a.G.z,tE aTX)=_),Bj,Ï Cc _]),mY cu,Bh cu];rfl),mY s1,m1 (acc [rn]=c [nr,nG]) e,mY afG,m1 (h0 T pd (Ğ rn) (l7 a vJ B B B) (uI m_)=c _) (vx nU),mY ak9];have kD:fZ (ñ pd asi) 3 B [nr,nG] (l7 a vJ B B B) (uI m_)=c (na,l7 a vJ (nn 1) akk B,yJ):=(zr aV).ah ((zr bj).ah (BG ..));rw[mZ aV bj,m1 (aqL=.s _ (Ğ (.mn 3 _ asi))) e,mY iO,m2 (GE (a.Ah gO) aRS aS),mY hg];have auW:nX yJ a.ad aRS:=hg;rw[mZ hg,m2 (OK (s9 gO As aRS) nB _ Q),mY aDK,m2 (OK (s9 gO As aRS) nB _ h2),mY aDL,m1 (ny pd (.bC (Ĵ Š) (.m 508) nr) (l7 a vJ (nn 1) akk B) yJ=c (pf vI,yJ)) (by clear lf kD aDK aDL;(have cG:kz yJ aP3 wL=c (aRQ).dD:=by simp only[kz,jp,abO,acr,kC,aat,r.ado,fU,auW]);clear auW;have air:∀w,ny pd Š (l7 a vJ (nn 1) akk B) w=c (wL,w):=fun w=>aTh;rw[nt (FE n t),mY J,Õ,ng];rintro e e d;rw[m9,mY J,nV,ng];rintro dw d;rw[m8,d,mW (Go (AX nz (air _) (sg f1 cG))).ah nU,d,mZ d,mX (E8 (AX nz (air _) ?_)).ah nU,aRY f1 cG,mZ cG,m1 ((e6 _ n++e6 _ t).dD=Y) (by rw[KW];induction n using ap.ae with|B=>(induction t using ap.ae with|B=>simp at dw|c x=>rfl)|c x=>rfl),m5,tf]),mY aHz,m1 (dP _ _ (.ci 5 _) _ _=c (na,l7 a _ _ _ _,((a.Ah _).As _).G)) (by have A_:ny pd (aPR 72 (rq 1)) (l7 a vJ (nn 1) akk B) yJ=c (.m (hB g.1),yJ):=(xY (aTx nz aRZ) oy).ah aDK;have Bw:ny pd (aPR 72 (x1 nG)) (l7 a vJ (nn 1) akk B) yJ=c (.m (hB g.2),yJ):=(xY (aTx nz (D4 ..)) oy).ah aDL;rw[Bh (A3 (Ae aHz (Ae A_ (Ae Bw oy))))];rfl),mY Cd,m2 (PB n t),mY aa0,m1 ((e6 _ n++e6 _ t).z≤16384) (qC (by rw[KW,r.hN])),mY aIQ,m1 (aU _ _ (.af3 _) _ _=c (qL aRQ,yJ)) (by rw[m1 (ny pd ph (l7 a vJ (nn 1) akk aNG) yJ=c _) nz,mY aJ,rc (pk ta aJ),m1 (j7 yJ aP3=c aRQ) (by simp only[j7,auW]),mY au0];simp only[ap.eO,awO,au0,aIQ,fU,ap.ji]),mY agK];have aHZ:ny pd (qL (.s (.m 8) (.s (.af3 ph) (.s yl (.s yl (pH yl yl nr)))))) (l7 a vJ (nn 1) akk aNG) yJ=c (zN,yJ):=aVt (Ae agK (o2 Ť Ť (Ae Ť (o2 Ť nU oy))));rw[m1 (ĳ aU=c _) (by rw[m1 (ny pd pn (l7 a vJ (nn 1) akk aNG) yJ=c _) nz,mY ae3,Qo,ae3,m6 (ì (my _ ((a.Ah _).As _).G oW _)=_),Fa,m6 (ì (ĳ h0)=_),aSR aHZ,mW lf]),mY bK,Sv,iO,AO s1,AO ((nM (qm G0) ak9 afG).ah kD),AO Cd,CJ (Dg (A3 (Ae bK (vx nz)))),mW Nz a aS _ _ _ e _];by_cases U:n=B∧t=B;rw[m3 Ai U,mZ aV cC bj c4 lf aaW ahr apt U,oc e];left;exact E1 gO gi.cO _ _ (nv gi.eX e);right;apply E2 gO _ gi.eX;rw[mY bK,mW U (YJ bK)]
abbrev aH.b9(a:aH)(n:u):aH:=oP bs n
def Cf(a:aH)(J:aVS)(n)(ba:n<100000)(o h)(cu:0<h)(ahA:rG h):∃l:u,l<h∧bc T bo pY 68 [ĕ,.m h] wa=c (.m l,zp):=Acb (a.b9 n) J ba o h cu ahA
def C8(a:aH):a.b9 a.bs=a:=e
def dI.b9{a}{M}{O}(aF:qG)(n):dI (a.b9 n) M O:=u7 aF.le aF.aS aF.eM aF.ey aF.jX e aF.jW
abbrev al6(g:i_×i_):Prop:=ahb g.1∧ahb g.2
def Fp{a:aH}{n cw}{o h l:u}{cy}{aom}(b:bc T bo o 68 [ĕ,.m h] wa=c (.m l,aTY cw))(br:nX cy aom sc):ny (aA o) (s8 68 aom (.m h)) cy wa=c (.m l,aTY cw):=zg (o2 (Aj br) nU oy) b
def Xy{a:aH}{cf}{y}{cy}(i)(hg:qh 23 rj)(br:nX cy y ww):oD (aQ9 aU (on ne (.A y) Š) cy) (n5 (! i.dD)):=by rw[aQL (Aj br) aTh,m1 (kz a.G w7 wL=c i.dD) (by simp only[kz,jp,abO,acr,kC,aat,r.ado,fU,hg]),m5,aRY f1 aa]
def FF{O}{cf}{d a5}{Aa}{l}{w a4}(b:uw pb):pU adb (.s d (.s a5 Aa))=adb O cf (.s a5 Aa) l a4:=sg Lt b
def LV{O}{cf}{d a5}{Aa}{l}{w a4}(b:uw oX):o5 (pU adb (.s d (.s a5 Aa))) oX:=sg Lt b
def az6{O}{cf}{d}{l}{w a4}{f:u}(o:u)(b:uw th):o5 (oC (.aX .eq d qv)) (n5 (f==o)):=by refine AX b nU ?_;simp only[f1,kz,jp,abO,acr,kC,aat,r.ado,fU,DN,ap.ji]
def Md:∀(a:aH)(J:aVS)(b3:aTv)(aur:a.abj=b3.au eV)(acE:∀g∈b3,al6 g)(aC:b3.z<10)(n:u)(ba:n+10<100000)(h:u),∃(g:i_×i_)(cw:u),al6 g∧cw≤n+3∧aOa 2 74 [ĕ,w7] wa=c (vJ,aTY cw):=by rw[ug,mY J];injections b3;intro aur acE aC;injections n;rw[mY ba,aR5];have K:∀n,nX wa 23 (uE b3.au eV):=w5 ((HJ (a.b9 n)).ah (pk (nF aQU) aur));rw[mZ aur,m1 (∀n,lN wa w7=c (b3.au eV)) (w5 (aP2 lN K)),mY acG,m3 Ac (Cf a J n (m4 (oa Ag [n] S 100000 (S+10) 100000 e ba)) h 4 nw nw)];rintro jS ei aV;rw[m1 (dP T n0 (sG 2 (tX Ç)) [sc,ww,B,B,B] wa=c (na,aRs,zp)) (Bh (Fp (h:=4) aV e)),mY s1];have dw:∀n fJ eN eQ,ny n0 aVE [sc,ww,fJ,eN,eQ] wa=c (n5 (!(b3.au eV).dD),wa):=fun n fJ eN eQ=>Xy _ (K n) e;have auS:∀o:u,∀n eN eQ,ny n0 (Ĵ qv) [sc,ww,nn jS,eN,eQ] wa=c (n5 (jS==o),wa):=fun o n eN eQ=>az6 o nz;have auT:∀n eN eQ,ny n0 (Ĵ nr) [sc,ww,nn jS,eN,eQ] wa=c (n5 (jS==0),wa):=fun n eN eQ=>auS 0 n eN eQ;rw[m1 (∀n eN eQ,ny n0 (Ĵ nG) [sc,ww,nn jS,eN,eQ] wa=c (n5 (jS==1),wa)) (fun n eN eQ=>auS 1 n eN eQ),mY aIj,m1 (∀n eN eQ,ny n0 (Ĵ uN) [sc,ww,nn jS,eN,eQ] wa=c (n5 (jS==3),wa)) (fun n eN eQ=>auS 3 n eN eQ),mY aIk];simp only[Sw,atD,AO s1];by_cases ak8:jS=0∧qe b3;rw[wG ak8];rintro bf aCo;rw[mZ ak8,m1 ((b3.au eV).dD=Y) (by rw[mZ acE aC K acG dw,aRi b3 aCo]),mY auH,m1 (0<b3.z) (r.avG.2 aCo),mY d9,m3 Ac (Cf a J rU (m4 (oa Ag [n] nm 100000 (S+10) 100000 e ba)) h b3.z d9 n_)];rintro q Ab bj;rw[m1 (ny n0 (xL (Ĵ nr) aVE) aRs zp=c (pb,zp)) (by rw[En,FF ((sF auT).ah (sh bf)),GY,dw,auH];rfl),mY hc,m1 (ny n0 (sW qc) aRs zp=c (.m b3.z,zp)) (by simp only[Dj,Bl];rw[m6 (((lN zp w7).au _)=_),acG];simp),mY ahz];have amQ:ny n0 (tX (sW qc)) aRs zp=c (n',z0 (n+2)):=aQW (aSR ahz) bj;rw[m1 (pE (z0 (n+2)) w7 n'=c (eV b3[q])) (by rw[Cq _ 23 _ q (K (n+2))];simp[Ab]),mY fo,mX Au (b3[q]) (n+2) (acE _ (r.aij Ab)) (m4 (AJ [n] wJ wP e)) ?_,m1 (ny n0 (x1 (tX (sW qc))) aRs zp=c (eV b3[q],z0 (n+2))) (Bm nz amQ fo),mY aIZ,CJ (pX D3 hc (CJ (Dg aIZ)))];rfl;rw[mZ aC acG,m1 (ny n0 (xL (Ĵ nr) aVE) aRs zp=c (oX,zp)) (by rw[mZ acE K,nH bf jS 0,m1 (b3=[]) (by rw[mZ dw,oT b3 (by rfl) g b3 (by exact eh ⟨bf,qg⟩ ak8)]),mY aau,En,FF ((sF auT).ah (sh bf)),GY,dw,aau];rfl;rw[m1 ((jS==0)=Y) (o7 bf),mY cG,En,LV ((sF auT).ah (y7 cG))]),mY hc,mZ ak8,m3 Ac (Cf a J rU (m4 (oa Ag [n] nm 100000 (S+10) 100000 e ba)) h 486 nw nw)];rintro A_ aH7 bj;rw[m3 Ac (Cf a J (n+2) (m4 (oa Ag [n] wJ 100000 (S+10) 100000 e ba)) h 486 nw nw)];rintro Bw aeB cV;rw[m3 Ac (KF (z0 (n+2)) h A_ aH7)];rintro cC ao5 gp;rw[m3 Ac (KF Į h Bw aeB)];rintro c4 au1 ky;rw[m1 (dP T n0 (ts (xL (Ĵ nr) aVE) (nA (.bu (x1 (tX (sW qc)))))) aRs zp=c (na,aRs,zp)) (pX D2 hc sV),mY BS];have Cd:dP T n0 (sG 3 (aPR 71 (tX (.m 486)))) aRs zp=c (na,[sc,ww,nn jS,aSX,B],z0 (n+2)):=Bh ((xY (Fp (h:=486) bj e) oy).ah gp);have aeV:dP T n0 (sG 4 (aPR 71 (tX (.m 486)))) [sc,ww,nn jS,aSX,B] (z0 (n+2))=c (na,[sc,ww,nn jS,aSX,c (mH c4)],Į):=Bh ((xY (Fp (h:=486) cV e) oy).ah ky);(have ary:∃ac:i_,ahb ac∧ny n0 (.bC (xL aVE (Ĵ nG)) (.aT (x1 (.ju nG)) nr) qw) [sc,ww,nn jS,aSX,c (mH c4)] Į=c (mH ac,Į):=by rw[nH aau b3 [],mX Ad cC ao5 ?_,m1 (ny n0 (xL aVE (Ĵ nG)) [sc,ww,nn jS,aSX,c (mH c4)] Į=c (oX,Į)) (tg En (LV ((ni dw).ah (sh aau)))),mY afB,mW (pX E8 afB (Aj e)),m1 ((b3.au eV).dD=Y) (by rw[mZ acE K dw,aRi b3 aau]),mY auH];(have afB:ny n0 (xL aVE (Ĵ nG)) [sc,ww,nn jS,aSX,c (mH c4)] Į=c (n5 (jS==1),Į):=by rw[En,FF ((ni dw).ah (sh auH)),GY,mW (sF aIj)]);induction Q:(jS==1)using N.ae with|Y=>rw[Q]at afB;exact(Ad cC ao5 (pX E8 afB (Aj e)))|F=>rw[Q]at afB;(obtain⟨g,afz⟩:∃g,b3.ark=c g:=by induction hg:b3.ark using ap.ae with|B=>exact eh (r.getLast?_eq_none_iff.1 hg) aau|c g=>exact qS g);rw[m1 (g∈b3) (r.mem_of_getLast? afz),mY aH4,m1 (pE Į w7 us=c vJ) (by rw[m2 (Wr Į (b3.au eV) vJ (q0 r.getLast?_map afz)),nR,mW (Ok (K (n+3))).ah b]),mY fo,mX Ad g.1 ((acE g aH4).1) (pX Go afB ?_),mW (aTx (Bm nz (Iz ..) fo) aRZ)]);rw[p4 ary,mZ ary];rintro ac b2 ary;rw[m1 (∃k:i_,ahb k∧ny n0 (.bC (Ĵ uN) yl p6) [sc,ww,nn jS,aSX,c (mH c4)] Į=c (mH k,Į)) (by have afB:=aIk (n+3) aSX (c (mH c4));rw[pI h3 (jS==3) (by rw[h3]at afB;exact(Ad B jC (pX Go afB Ť))) (by rw[h3]at afB;exact(Ad c4 au1 (pX E8 afB (Aj e))))]),mY arN,p4 arN,mZ arN];rintro k hs arN;rw[mX Au (ac,k) (n+3) ⟨b2,hs⟩ n_ ?_,AO BS,AO Cd,AO aeV,CJ (Dg (A3 (Ae ary (Ae arN oy))))];rfl
def Ce(cf:iV)(w:ch)(fs:aUQ)(h:ea)(y:ar)(j:dz)(l:du)(J:aU T cf j l (w++[qI 1 fs])=c (y,w++[qI 1 fs]))(bf:ń (tx w.z))(b2:T.abp 1 h=F)(aC:fs.z<200):dP T cf (.dU pn h j) l (w++[qI 1 fs])=c (na,l,w++[.bS 1 aS6]):=by simp only[qm Ep _ y _ 1 _ J (Aj bf) rb b2 aC];simp
def M7(h)(w:ch)(aq5 cA)(cB):bc T bo nB 89 [.D w.z,aq5,cA,og cB] (w++[rv 1])=c (.B,w++[qI 1 [("did",aq5),("kind",cA),("name",og cB),("params",ps),("body",us),("bases",ps),("static",us),vG "extends_class",("abstract",oX),("members",wL),("variances",wL),vG "busy",ŷ,("file",og ""),vG "nid"]]):=by have aeL:∀w l,ny nT Š l w=c (wL,w):=fun w l=>aTh;rw[SF,att,AO (n7 (ni Ce) nz e e nw),zK nz,zK nz,zK Ť,zK (Iz ..),zK Ť,zK (Iz ..),zK nU,zK (Fv ..),zK (aeL ..),zK (aeL ..),zK nU,zK nU,zK (DI ..),zK nU,Bg];rfl
abbrev aH.AT(a:aH)(a0:lr):aH:=oP ds (a.ds++[a0])
def T0(o)(i)(a0):ii o (i++[a0])=ii o i++[jM (o+i.z) a0.cA "C" a0.bD a0.mi]:=by induction i generalizing o with|C=>rfl|s f i ih=>simp only[r.aoe,Hp,Hq,ih];rw[show pY+i.z=o+(f::i).z by simp only[r.kZ];exact BI (rV i.z) zq tS e]
def Q7(f h):agd f nB=agd f h++[wj (f+h)]:=by induction h generalizing f with|hf=>rfl|gk h ih=>rw[m2 (ih (f+1)),nR,m6 (ar.D f::m7 agd=(ar.D f::agd _ h)++[vS]),b,rh (f+1+h) (f+nB) (BI [f,h] zq tS e)];rfl
def Z2:∀(a:aH)(Q:a.ca=[])(h2:Ú)(a0)(U:aUC)(p:c_),((tE p).b6 4 (.aw (a.l0++[qV]))).b6 qR (jM aWu a0.cA "C" a0.bD [])=(a.AT a0).G:=by rw[ug,mY Q h2];injections a0;intro U;injections p;(have iN:a.gl=16:=y8 aH.gl h2);(have arm:(a.AT a0).gl=16:=by simp[aH.gl,aH.AT,h2]);rw[m1 (a.G=(m7 a.g8.b6)++ii 2 _) (by unfold aH.G;rw[iN,Q,r.afl,ž (qC (by simp only[Bs]))]),mY aV,m1 ((a.AT a0).G=((a.AT a0).g8.b6 _ (oU a.eM))++(xR++[ĳ jM])) (by rw[aPW,arm,show(a.AT a0).ca=[]from Q,r.afl,ž (qC (by simp only[Bs])),m6 (_++ii 2 (a.ds++[a0])=_),T0,U];rfl),mY bj,m1 ((a.AT a0).g8=a.g8.b6 4 _) (by unfold aH.g8;rw[iN,arm,m1 ((a.AT a0).l0=a.l0++[qV]) (by simp only[aH.l0,aH.AT,r.gR,r.lF,Q7,r.aoe]),m5,aa];rfl),mY cV];(have aC:(a.g8.b6 16 (oU a.eM)).z=26:=sh r.apv);rw[aV,bj,cV];rw[r.abP,ž (wT aC)];(have ad3:((a.g8.b6 16 (oU a.eM)).b6 4 (.aw (a.l0++[qV]))).z=26:=nb r.apv aC);rw[m7 r.akf (wT ad3),ad3,show qR-26=qo ii 2 _ by simp only[Ca];exact q3 (Br [qR-26,a.ds.z] S ai (S+26) (26+ai) e) (AJ [qR-26,a.ds.z] 26 (26+ai) e),aQp (m7 r.akf),u.aEN,r.aEA,uh]
def XE:∀(a:aH)(Q:a.ca=[])(h2:Ú)(h)(cA:u)(aC:rG a.ds.z),rE 2 1 [oW,.m cA,og "C"]=c (qV,(aOP).b6 4 (.aw (a.l0++[qV]))):=by rw[ug,mY Q h2];injections h cA;rw[mY aC,m1 (a.G.z=qR) (by rw[CI,Q];kernel_rfl!),mY d9];(have adi:a.l0.z=z5:=y8 aH.l0 LO);rw[m1 (ui lN (.D 4)=c a.l0) (aP2 lN CV),mY afD,m1 (∀eN,oD (ny n0 ß [nZ,wI,aSM,eN] a.G) (.D 4)) (fun eN=>aQo),mY a_,m1 (oD (ny n0 (sW ß) [nZ,wI,aSM,B] a.G) (vl z5)) (by rw[Dj,a_,m6 (((ui lN (.D 4)).au _)=_),afD,←adi];rfl),mY ahz];have ak9:oD (h0 T n0 (pH (sW ß) qc ph) [nZ,wI,aSM,B] a.G) [vl z5,.m cA,og "C"]:=Ae ahz aNK;rw[m2 (M7 h a.G (vl z5) (.m cA) "C"),mY Ab,m1 ((c_.bS 1 [sM "did" (ob z5),sM "kind" cA,("name",og "C"),("params",ps),("body",us),("bases",ps),("static",us),vG "extends_class",("abstract",oX),("members",wL),("variances",wL),vG "busy",ŷ,("file",og ""),vG "nid"])=aT0) (sh (aU0 z5 aWu)),mY ho];rw[ho]at Ab;rw[m1 (ny n0 (.lJ 1 (pH (sW ß) qc ph)) [nZ,wI,aSM,B] a.G=c (qV,aOP)) (by rw[rc (pk ta ak9),ap.eO,m6 (ì (aA nB 89 (.D a.G.z::[vl z5,.m cA,og "C"]) (tE (rv 1)))=_),show aA nB 89 (.D a.G.z::[vl z5,.m cA,og "C"]) (tE (rv 1))=_ from Ab,ap.eO,vp];rw[d9]),mY aIJ];(have aBR:nX aOP 4 (oU a.l0):=nb (r.jP (nb CI (AJ [a.ds.z,a.ca.z] (4+1) (zf+ai) e))) (CV a));rw[m1 (aU T n0 ß [nZ,wI,aSM,aOn] aOP=c (.D 4,aOP)) (by rw[m1 (gz T aOP oW "decls"=c (.D 4)) (Ba _ 1 0 _ _ _ (nb (r.jP (nb CI (AJ [a.ds.z,a.ca.z] (1+1) (zf+ai) e))) (A1 a)) e e),m5,Dh,Bl,m6 ((gz T aOP oW "decls").au _=_),aa];rfl),mY gj];have auB:aU T n0 (.hq ß qw) [nZ,wI,aSM,aOn] aOP=c (.B,(aOP).b6 4 (.aw (a.l0++[qV]))):=nM (p5 (w3 CG n0) 4) a.l0 a.l0 gj aBR nz aBR (by rw[adi];simp only[dv];exact Ag [a.ds.z] (wJ+1) 1048576 nm 1000 e aC);rw[m1 (dP T n0 (sG 3 (.lJ 1 (pH (sW ß) qc ph))) [nZ,wI,aSM,B] a.G=c (na,[nZ,wI,aSM,aOn],aOP)) (Bh aIJ),mY s1,A_,aqO,AO s1,AO (BX auB),CJ (Dg (Aj e))];rfl
def fR.AT(a)(a0):fR a (a.AT a0):=⟨aQ0,fun aj jx b=>(Ad jx (by rw[aUc hd,m6 (n9 (a.ds++[a0]) aj jx),r.jP hd,mW b]) e),aQ0⟩
def dI.AT{a}{M}{O}(aF:qG)(a0):dI (a.AT a0) M O:={kh:=aF.kh,eX:=aF.eX,cO:=aF.cO,aS:=aF.aS,eM:=aF.eM,ey:=aF.ey,jX:=aF.jX,fO:=aF.fO,ks:=fun f g y d=>by rw[s3 (aF.ks f g y d) sa bh gd fJ cV,mW Au _ _ (gd.bx (fR.AT a a0)) (fJ.bx (fR.AT a a0)) cV],jW:=aF.jW}
def M8:∀(a:aH)(aF:aPB)(Q:a.ca=[])(h2:Ú)(h cA eu:u)(g:i_×i_)(U:al6 g)(fT:ŝ 600000)(aC:rG a.ds.z),∃(v:u)(ao:oB)(d:aR),rE 5 75 [oW,.m cA,vJ,.m eu]=c (d.aY,(tB ao AT xa).G)∧aTk (tB ao AT xa)∧(aRK a.ak ao)∧ao.z≤a.ak.z+8∧aV0∧d.eu=eu∧d.e8=[]∧nX ao d.v yu∧c1 (tB ao AT xa) d.v (pg d.v d.m0 d.cC d.c4):=by rw[ug,mY aF Q h2];injections h cA eu g;intro U fT aC;rcases(Pf a aF h g U.1 U.2 n_)with(⟨v,fB,n,t,aV,ke,add,lE,akT,iC,aJh,cC,c4⟩);rw[m2 (XE (a.Ah fB) Q h2 (h+2) cA aC),mY abZ];have aCx:s9 fB ds.z=a.ds.z:=e;rw[aCx]at abZ;rw[m2 (Z2 (a.Ah fB) Q h2 xa e aT0),mY aCW];rw[aCx]at aCW;have gi:=ke.AT xa;rw[m2 (GG (tB fB AT xa) (h+3) yu gi.kh (by rw[m6 (fB.z<1000000),mW (aNX a.ak.z fB.z 1000000 600000 ai (S+7) e fT lE)])),mY lf];have avd:(tB fB AT xa).ak=fB:=e;rw[avd]at lf;rw[m3 AC (gi.Ah (sy fB yu) (aQ.bF u0))];rintro aaW ara ar2;have ahr:aRK fB (sy fB yu):=ara;rw[m1 ((sy fB yu).z≤fB.z+1) ar2,mY apt];have cU:(tB fB AT xa).Ah (sy fB yu)=(a.Ah (eL fB yu)).AT xa:=e;rw[cU]at lf aaW;have aCz:nX (sy fB yu) (gG fB yu) yu:=m7 D';rw[m1 (xe (gG fB yu)) (E2 fB _ gi.eX qg),mY iy,mX Ug v (sy fB yu) (.mk (gG fB yu) vI (hB g.1) (hB g.2) eu []) ?_ aaW (fun q l b=>ahr q l (add q l b)) (m4 (Am (aR0 fB.z (sy fB (a9.bI z5)).z) a8 (S+8) ai (S+7) a8 nN e lE apt)) (akT.ah (m7 Dk (fun n b=>Å))) e e aCz ?_];have aJm:dP T wK (.acg [4,5] (s8 73 0 ph)) [nZ,wI,xl,aQa,B,B,B] a.G=c (na,[nZ,wI,xl,aQa,pZ,aNG,B],ĉ fB):=ni (oM G1 T) _ (zg aNK aV) e;have amQ:dP T wK (sG 6 (.bp 1 (pH pn qc (og "C")))) [nZ,wI,xl,aQa,pZ,aNG,B] (ĉ fB)=c (na,[nZ,wI,xl,aQa,pZ,aNG,aOn],(ĉ fB++[aT0]).b6 4 (.aw (s9 fB l0++[qV]))):=Bh ((xY nz (z6 (DI ..))).ah abZ);(have d9:s9 fB G.z=qR:=q0 CI (show s9 fB ca=[]from Q));rw[m1 (nX ((ĉ fB++[aT0]).b6 4 (.aw (s9 fB l0++[qV]))) qR aT0) (by rw[r.agx (m4 (yP (Ag [a.ds.z] 1 0 zf 4 e (AN dO)))),r.aih (wT d9),d9,u.aEN];rfl),mY au7,m1 (dP T wK (.dU sw "body" p6) [nZ,wI,xl,aQa,pZ,aNG,aOn] ((ĉ fB++[aT0]).b6 4 (.aw (s9 fB l0++[qV])))=c (na,[nZ,wI,xl,aQa,pZ,aNG,aOn],aP9)) (by rw[ni (w3 Ep wK) _ oF qR 1 _ nz nz au7 e qg];rw[←aCW];rfl),mY afH,m1 (n9 (tB fB AT xa).ds a.ds.z xa) (by rw[m6 ((a.ds++[(xa:lr)])[a.ds.z]?=_)];simp),mY aIb,m1 (rm (gz T aP9 qV "did") (ob aWu)) (p5 Ba 1 _ _ (n7 EZ aIb) e e),mY aId,m1 (ny wK (Ĩ sw "did") [nZ,wI,xl,aQa,pZ,aNG,aOn] aP9=c (vl z5,aP9)) (by simp only[Dh,Bl];rw[m6 ((gz T aP9 qV "did").au _=_),aId,aU0 aWu z5];rfl),mY aIe];(have bK:ny wK (.eT pn "put" (nA (qL (pH È (Ĩ sw "did") yl)))) [nZ,wI,xl,aQa,pZ,aNG,aOn] aP9=c (pf (gG fB yu),((a.Ah (eL fB yu)).AT xa).G):=by rw[m1 (ny wK pn [nZ,wI,xl,aQa,pZ,aNG,aOn] aP9=c (oW,aP9)) nz,mY ae3,Qo,ae3,m6 (ì (my T aP9 oW "put")=_),Fa,m6 (ì (h0 T wK _ _ _)=_),vx (aVt (Ae aIe (vx Ť))),mW lf]);rw[Sx,atE,AO aJm,AO amQ,AO afH,CJ (Dg (A3 (Ae bK (Ae nz (z6 Ť)))))];rfl;rw[mX .bI _ a.ds.z xa n t _ _ aCz iy ?_ (nv ahr iC) aJh (cC.bx ahr) (c4.bx ahr),m6 ((a.ds++[(xa:lr)])[a.ds.z]?=_)];simp
structure akz(a:aH)(b3:aTv)(al:n1)(aD:nL)(o:u):Prop where
 aF:aPB
 ca:a.ca=[]
 Ap:Ú
 xs:aVS
 adN:a.abj=b3.au eV
 fQ:aN7
 eY:a.lZ=aD.au aR.aY
 jK:b3.z=o
 ul:al.z=o
 adQ:aD.z=o
 dl:a.ds.z=o
 adO:∀g∈b3,al6 g
 up:∀(aq:u)(aP:R),p7 al aP→aP<aq∧-1≤aP
 cl:∀(aq:u)(d:aR),p7 aD d→q' d.v (z4 (aq+2))∧d.eu=xj∧d.e8=[]∧sl d.v (pg d.v d.m0 d.cC d.c4)
 aar:∀(aq:u)(a0:lr),p7 a.ds a0→a0.cA=1∧aUC
 cc:a.c2=0
 eo:a.e5=0
 abB:Ù
 bd:a.dK=[]∧a.iL=[]∧a.bw=[]∧a.xs.z≤63
 bN:a.bs≤20*o+1
 np:∀(q n:u),rS a.ak≠c v3
 gT:a.ak.z≤16+8*o
abbrev aH.iI(a:aH)(i:nC):aH:=oP abj i
abbrev aH.aqb(a:aH)(i:nC):aH:=oP fQ i
abbrev aH.asG(a:aH)(i:nC):aH:=oP lZ i
def AaF(a:aH)(i):tI 23 rj=(a.iI i).G:=AaE a i
def AaH(a:aH)(i):tI 24 rj=(a.aqb i).G:=AaG a i
def AaJ(a:aH)(i):tI 25 rj=(a.asG i).G:=AaI a i
def KC{cg:Type}(ac:cg→ar)(i)(j):i.au ac++[ac j]=(i++[j]).au ac:=rb
abbrev asK:cx:=oo aqN (.s _ (Ğ (nv .mn g))) g .C
abbrev lR(fe fi kL:pl):du:=[sc,nZ,ww,xb,tx 25,fe,fi,kL,B]
def sub_int{O}{cf}{d}{l}{w a4}{f}(o)(b:uw th):o5 (oC (.dM .eZ d qv)) (pf (f-o)):=B7 b nU e
def ati{O}{cf}{d}{l}{w a4}{f}(o)(b:uw th):o5 (oC (.dM .e_ d qv)) (pf (f+o)):=B7 b nU e
def Ac2:∀(a:aH)(b3:aTv)(al:n1)(aD:nL)(o:u)(V:akz a b3 al aD o)(aG:o<4)(h:u)(fi kL:pl),∃z' asQ atc asR adE ag1,f0 T oS asK (lR tF fi kL) a.G=c (na,lR tF adE ag1,z'.G)∧akz z' asQ atc asR pY:=by injections a b3 al aD o;rw[mY V aG,yb fi kL];have kW:=V.bN;have fT:=V.gT;(have aB4:b3.z<10:=nb V.jK (ĵ aG));rw[nD (Cf a V.xs a.bs (aPq (wX a.bs 100000 yr) (qQ 20 4) (su 20+1)) wH pY (m4 (u.awC _)) (m4 (Ag ua (nm+1) 1000 nm 4 e aG))) l br aV,aVK];have arO:ny oS (rk eZ (tX (aQX y')) nG) (lR tF fi kL) a.G=c (pf uK,u1):=sub_int 1 (zg (z6 (ati 1 nz)) aV);rw[m1 (dP T oS (sG 6 (rk eZ (tX (aQX y')) nG)) (lR tF fi kL) a.G=c (na,lR tF (w6 uK) kL,u1)) (Bh arO),mY s1];(have agC:∃(g:i_×i_)(cw:u),al6 g∧cw≤a.bs+6∧dP T oS (.bC (on lt sw nr) (nA (sG 7 (s8 74 0 ph))) (.s (sG 7 (r_ 2 sw)) (nA (ts (on eq (tX rn) nG) (nA (sG 7 (qL (.s (rq 7) (nA (aPR 71 (tX (.m 486)))))))))))) (lR tF (w6 uK) kL) u1=c (na,aRJ xl,aTY cw):=by have aeC:ny oS (on lt sw nr) (lR tF (w6 uK) kL) u1=c (n5 (b1 (uK<0)),u1):=uB;rw[nH bf l 0,m3 At (Md a V.xs b3 V.adN V.adO aB4 wo (aPq (t5 (rV a.bs) (nN+10) 100000 yr) (qQ 20 4) (su 20+1)) (h+3)),mY g cw U dg bj,mX Au g cw U (m4 (yv Ag [a.bs,cw] (S+6) (nm+3) e dg)) ?_,m1 (b1 (uK<0)=F) (aP6 (A4 [↑l] (b5-1+1) 0 b5 0 e (Bb (Az bf)))),mY hd];rw[hd]at aeC;rw[D3 aeC,AO (Bh ((AW aNK).ah bj)),Bg];rfl;(replace hd:b1 (uK<0)=Y:=aP6 (aOg (u.ahT bf)));rw[hd]at aeC;(have aCY:l-1<b3.z:=nb V.jK (t5 [o,l,l-1] a8 S nN nm (a8+1) ai e br (q3 Az (aQE [o,l,l-1] ai 0 ai e (u.ahT bf)))));rw[m1 (pE u1 w7 (pf uK)=c (eV aVT)) (by rw[m1 (nX u1 23 (uE b3.au eV)) ((HJ (a.b9 wo)).ah (pk (nF aQU) V.adN)),mY K,rh uK (ob (l-1)) (wv Pb bf),Cq _ 23 _ _ K];simp[aCY]),mY fo];have t1:dP T oS (sG 7 (r_ 2 sw)) (lR tF (w6 uK) kL) u1=c (na,aRJ (c (eV aVT)),u1):=Bh (Bm nz nz fo);rw[m3 Ac (Cf a V.xs wo (aPq (t5 (rV a.bs) nN 100000 yr) (qQ 20 4) (su 20+1)) wH 2 nw nw),mY t cG bj];have aeB:ny oS (on eq (tX rn) nG) (aRJ (c (eV aVT))) u1=c (n5 (t==1),z0 (a.bs+2)):=az6 1 (Fp (h:=2) bj e);have ahv:=V.adO _ (r.aij aCY);rw[pI au9 (t==1) (by rw[au9]at aeB;rw[nD (Cf a V.xs (a.bs+2) (aPq (t5 (rV a.bs) (ai+2) 100000 yr) (qQ 20 4) (su 20+1)) wH 486 nw nw) x hc cV,nD (KF (z0 (a.bs+3)) wH x hc) H bK gp,mX Au ((aVT).1,H) (a.bs+3) ⟨ahv.1,bK⟩ (m4 (AJ [a.bs] wP (S+6) e)) ?_];have d2:dP T oS (sG 7 (qL (.s (rq 7) (nA (aPR 71 (tX (.m 486))))))) (aRJ (c (eV aVT))) (z0 (a.bs+2))=c (na,aRJ (c (eV ((aVT).1,H))),z0 (a.bs+3)):=Bh (A3 (o2 (aTx nz aRZ) ((xY (Fp (h:=486) cV e) oy).ah gp) oy));rw[D2 aeC,AO t1,AO (pX D3 aeB (pX AO d2 sV)),Bg]) (by rw[au9]at aeB;rw[mX Au aVT (a.bs+2) ahv (m4 (AJ [a.bs] wJ (S+6) e)) ?_,D2 aeC,AO t1,AO (pX D2 aeB sV),Bg])]);rw[m3 At agC,mZ agC,mY g cw U dg agC];have aBS:nX (aTY cw) 23 (uE b3.au eV):=(HJ (a.b9 cw)).ah (pk (nF aQU) V.adN);rw[m1 (ny oS (aOU 2 uj) (aRJ xl) (aTY cw)=c (.B,(aWl).G)) (by rw[ni (p5 (w3 CG oS) 23) nz aBS nz aBS (by simp[dv];exact ĵ aB4),KC,AaF]),mY a1];have aBU:nX ((aWl).G) 24 (uE al.au .m):=pX HK _ (pk (nF aQU) V.fQ);rw[m1 (aU T oS (aOU 3 sw) (aRJ xl) ((aWl).G)=c (.B,((aWl).aqb ((al++[uK]).au .m)).G)) (by rw[ni (p5 (w3 CG oS) 24) nz aBU nz aBU (by simp[dv,V.ul];exact ĵ aG),KC,AaH]),mY a2,m1 (aTk ((aWl).aqb ((al++[uK]).au .m))) (V.aF.le e e e e V.aF.aS V.aF.eM V.aF.ey V.aF.jX e V.aF.jW),mY gi,mX Nu (M8 _ gi V.ca V.Ap h 1 pY g U (yh (ŝ 600000) (wX a.ak.z 600000 yr (qQ 20 4) ai (rg 16 8) e (AM 20 aG) fT)) (by rw[m6 (rG a.ds.z),V.dl,mW (ĵ aG)])) fun v ao d i0 aaW aaX c9 aoH ep at7 aoy aug=>?_,m1 (nX (((aWl).aqb ((al++[uK]).au .m)).G) 25 (Ą aD.au)) (pX EY _ (pk (nF aQU) V.eY)),mY auo];generalize ad5:((aWl).aqb ((al++[uK]).au .m))=bz at*;(have aw3:bz.ak=a.ak:=by rw[aRV];rfl);(have aw2:bz.ds=a.ds:=by rw[aRV];rfl);rw[m1 (nX ((bz.Ah ao).AT ⟨1,v,[]⟩).G 25 (Ą aD.au)) (pX EY _ (cr (nF aQU) (by rw[m6 (bz.lZ=_),aRV,mW V.eY]))),mY aHu,m1 (ny oS (aOU 4 (.bp 75 (.s (.A 1) (pH nG uj (aQX y'))))) (aRJ xl) bz.G=c (.B,(((bz.Ah ao).AT ⟨1,v,[]⟩).asG ((aD++[d]).au aR.aY)).G)) (by(replace hc:ny oS (.bp 75 (.s (.A 1) (pH nG uj (aQX y')))) (aRJ xl) bz.G=c (d.aY,((bz.Ah ao).AT ⟨1,v,[]⟩).G):=by rw[m3 abH.ah (AW (o2 nz nU (z6 (ati 1 nz)))),mW i0]);rw[ni (p5 (w3 CG oS) 25) nz auo hc aHu (by simp[dv,V.adQ];exact ĵ aG),KC,AaJ]),mY a3,mX Hx (((bz.Ah ao).AT ⟨1,v,[]⟩).asG ((aD++[d]).au aR.aY)) (b3++[g]) (al++[uK]) (aD++[d]) (w6 uK) xl ?_ ?_,m1 (asK=.s (sG 6 (rk eZ (tX (aQX y')) nG)) (.s (.bC (on lt sw nr) (nA (sG 7 (s8 74 0 ph))) (.s (sG 7 (r_ 2 sw)) (nA (ts (on eq (tX rn) nG) (nA (sG 7 (qL (.s (rq 7) (nA (aPR 71 (tX (.m 486)))))))))))) (pH (.f_ (aOU 2 uj)) (.f_ (aOU 3 sw)) (.f_ (aOU 4 (.bp 75 (.s (.A 1) (pH nG uj (aQX y'))))))))) e,mY iO,DM,iO,AO s1,AO agC,AO (BX a1),AO (BX a2),AO (BX a3),Bg,m1 (fR a bz) (fp (y7 aw3) aw2 (by rw[aRV];rfl)),mY mL,m1 (fR bz ((bz.Ah ao).AT ⟨1,v,[]⟩)) ((GM bz ao aaX).ah (m7 fR.AT)),mY amV];have aCK:fR ((bz.Ah ao).AT ⟨1,v,[]⟩) (((bz.Ah ao).AT ⟨1,v,[]⟩).asG ((aD++[d]).au aR.aY)):=tW;have b7:=(mL.ah amV).ah aCK;(have aFj:bz.ds.z=o:=tg aw2 V.dl);exact{aF:=u7 aaW.le aaW.aS aaW.eM aaW.ey aaW.jX e aaW.jW,ca:=aVB (bz.ca=[]) V.ca,Ap:=aVB (bz.Ap=0) V.Ap,xs:=aVB (∃cL:n1,bz.xs=cL.au .m) V.xs,adN:=by rw[m6 (bz.abj=_),aRV];rfl,fQ:=by rw[m6 (bz.fQ=_),aRV];rfl,eY:=e,jK:=q0 r.gR V.jK,ul:=q0 r.gR V.ul,adQ:=q0 r.gR V.adQ,dl:=by rw[m6 ((bz.ds++[_]).z=_),r.gR,aFj];rfl,adO:=fun j J=>by rw[nt (r.aeP.1 J),x',m9,x',m8,mW (pa V.adO),aQI,mW U],up:=fun aq aP cQ=>by by_cases adl:aq<al.z;rw[r.jP adl]at cQ;rw[mW V.up aq aP cQ,m1 (aq=al.z) (by rw[u8 b cQ,sB r.gR r.lF,mW (y_ (Ag [al.z,aq] ai S nN nm e b) (Ag [al.z,aq] S ai S ai e (x7 adl)))]),mY ald,mZ adl];subst ald;rw[aOj r.akX cQ];subst cQ;rw[V.ul,mW Ym br],cl:=fun aq j cQ=>by by_cases adl:aq<aD.z;rw[r.jP adl]at cQ;rw[yq (V.cl aq j cQ) d5 da fC ahU,mW By (Ģ d5) da fC (ahU.bx b7),m1 (aq=aD.z) (by rw[u8 b cQ,sB r.gR r.lF,mW (y_ (Ag [aD.z,aq] ai S nN nm e b) (Ag [aD.z,aq] S ai S ai e (x7 adl)))]),mY ald,mZ adl];subst ald;rw[aOj r.akX cQ];subst cQ;rw[V.adQ];rw[aFj]at aoy;exact(By aoy ep at7 (aug.bx aCK)),aar:=fun aq a0 cQ=>by(have adk:p7 (a.ds++[(⟨1,v,[]⟩:lr)]) a0:=uq aw2 cQ);clear cQ;by_cases adl:aq<a.ds.z;rw[r.jP adl]at adk;rw[mW V.aar aq a0 adk,m1 (aq=a.ds.z) (by rw[u8 b adk,sB r.gR r.lF,mW (y_ (Ag [a.ds.z,aq] ai S nN nm e b) (Ag [a.ds.z,aq] S ai S ai e (x7 adl)))]),mY ald,mZ adl];subst ald;rw[aOj r.akX adk];subst adk;exact zl,cc:=aVB (bz.c2=0) V.cc,eo:=aVB (bz.e5=0) V.eo,abB:=aVB (bz.gU=[]) V.abB,bd:=aVB (bz.dK=[]∧bz.iL=[]∧bz.bw=[]∧bz.xs.z≤63) V.bd,bN:=by rw[m6 (bz.bs≤_),aRV,m6 (cw≤_),mW Am [o,a.bs,cw] a8 (yr+1) ai (su 20+1) a8 (ai+6) e kW dg],np:=fun q n b=>by rw[m2 (aoH q n b),m5,o6 aw3,mW V.np q n aa],gT:=by rw[m6 (ao.z≤_)];rw[aw3]at c9;exact Am [o,a.ak.z,ao.z] a8 (16+(vc 8)) ai (rg 16 8) a8 (ai+8) e fT c9}
def Ac0(h):∀(H o)(a)(b3)(al)(aD)(fe fi kL),akz a b3 al aD o→o+H≤4→∃z' asQ atc asR akl adE ag1,fZ (ñ oS asK) 5 B (k5 uQ 1 H) (lR fe fi kL) a.G=c (na,lR akl adE ag1,z'.G)∧akz z' asQ atc asR (o+H):=by intro H;induction H with|hf=>rw[mY o a b3 al aD fe fi kL V _,mW ⟨a,b3,al,aD,fe,fi,kL,ę,V⟩]|gk H ih=>rw[mY o a b3 al aD fe fi kL V aG,mX HE (Ac2 a b3 al aD o V (m4 (Ag (rV H) (S+1) 4 tS 4 e aG)) h fi kL) fun z1 aFs aGh aFt adE ag1 Q h2=>?_,mX F7 (ih pY z1 aFs aGh aFt tF adE ag1 h2 (m4 (Ag (rV H) zq 4 tS 4 e aG))) fun bz aMc aMD aMd x5 cp cZ h3 h4=>?_,mX (ni Ng x5 cp cZ ?_ (nb (rh (o+(H+1)) (pY+H) (BI (rV H) tS zq e)) h4)),GJ,mW (zr Q).ah h3]
structure aky(a:aH)(al:n1)(aD:nL)(b3:aTv)(bV:aR):Prop where
 aF:aPB
 Ap:Ú
 xs:aVS
 adN:a.abj=b3.au eV
 fQ:aN7
 eY:a.lZ=aD.au aR.aY
 ul:xf 1
 anx:vB
 jK:b3.z=al.z
 adQ:aD.z=al.z
 dl:a.ds.z=al.z+1
 adO:∀g∈b3,al6 g
 cl:∀(aq:u)(d:aR),p7 aD d→q' d.v (z4 (aq+2))∧d.eu=xj∧d.e8=[]∧sl d.v (pg d.v d.m0 d.cC d.c4)
 AV:q' bV.v (z4 (al.z+2))∧bV.eu=0∧bV.e8=[]∧sl bV.v (pg bV.v bV.m0 bV.cC bV.c4)
 aar:∀(aq:u)(a0:lr),p7 a.ds a0→aUC∧(aUR→a0.cA=1)∧(aq=al.z→a0.cA=2)
 cc:a.c2=0
 eo:a.e5=0
 abB:Ù
def Ac1:∀(adH:ch)(gm:aH)(air:adH.z=23)(aDd:adH++[aTX,aTX,aTX]=gm.G)(aaN:akz gm [] [] [] 0)(Dd:gm.bs=0)(h:u),∃a al aD b3 bV,oD (aOa 6 76 [ĕ,oW] adH) xd∧aky a al aD b3 bV∧a.ca=[]∧(a.dK=[]∧a.iL=[]∧a.bw=[]∧a.xs.z≤63)∧a.bs≤100∧(∀(q n:u),rS a.ak≠c v3)∧a.ak.z≤60:=by rw[mY adH gm,mY air aDd aaN Dd,mY h,m1 (gm.bs≤1) aaN.bN,mY aIS,m1 (∀l,ny oS Ņ l adH=c (w7,aU5)) (fun l=>by rw[C6,Ar,m6 (c (ar.D adH.z,_)=_),air]),mY g1,m1 (∀l,aU T oS Ņ l aU5=c (xV,z8 aU5)) (fun l=>by rw[C6,Ar,m6 (c (ar.D (aU5).z,_)=_),r.gR,air];rfl),mY gW];(have kI:∀l,aU T oS Ņ l (z8 aU5)=c (wp,gm.G):=fun l=>by rw[C6,Ar,m6 (c (ar.D (z8 aU5).z,z8 (z8 aU5))=_),r.gR,r.gR,air,←aDd];simp);have s1:dP T oS (.acg [2,3,4] (qL (pH Ņ Ņ Ņ))) [sc,nZ,B,B,B,B,B,B,B] adH=c (na,lR B B B,gm.G):=ni (oM G1 T) _ (A3 (Ae (g1 _) (o2 (gW _) (kI _) oy))) e;rw[nD (Cf gm aaN.xs gm.bs (m4 (aUL aIS)) wH 4 nw nw) l br aV,aVK];have jm:akz (gm.b9 (gm.bs+1)) [] [] [] 0:={aF:=aaN.aF.b9 _,ca:=aaN.ca,Ap:=aaN.Ap,xs:=aaN.xs,adN:=aaN.adN,fQ:=aaN.fQ,eY:=aaN.eY,jK:=e,ul:=e,adQ:=e,dl:=aaN.dl,adO:=aaN.adO,up:=aaN.up,cl:=fun aq d b=>by rw[Đ],aar:=aaN.aar,cc:=aaN.cc,eo:=aaN.eo,abB:=aaN.abB,bd:=aaN.bd,bN:=by rw[m6 (gm.bs+1≤_),mW Ag [gm.bs] nm (qQ 20 0+1) S 0 e (Az Dd)],np:=aaN.np,gT:=aaN.gT};refine F7 (Ac0 h (l+1) 0 (gm.b9 (gm.bs+1)) [] [] [] B B B jm (m4 (Ag [l] (0+nm) 4 nm 4 e br))) fun z1 b3 al aD x5 cp cZ kD V=>?_;simp only[u.aac]at V;rw[m1 (h0 T oS (nA (rk e_ nG (tX Ç))) (lR B B B) gm.G=c ([vl (l+1)],(gm.b9 (gm.bs+1)).G)) (by rw[mX (vx (B7 nU (nI Fp h 4 n gm.bs (nb C8 aV) e) ?_)),m6 (c (ar.m (1+nc l))=_),rh (xo+nc l) (ob (l+1)) (R.amq 1 _)]),mY ak9];have kW:=V.bN;have fT:=V.gT;rw[m1 (0<b3.z) (nb V.jK (u.awC _)),mY aHC,m1 (b3.z<10) (nb V.jK (Ag [l] (nm+1) 10 nm 4 e br)),mY aHD,nD (Cf z1 V.xs z1.bs (m4 (t5 [l,z1.bs] ai 100000 yr (qQ 20 4) ai (yr+1) e (AM 20 br) kW)) wH b3.z aHC (m4 (ĵ aHD))) q Ab bj];simp only[C8]at bj;have K:∀n,nX (z1.b9 n).G 23 (uE b3.au eV):=w5 ((HJ (z1.b9 n)).ah (pk (nF aQU) V.adN));rw[m1 (ny oS (sW ph) (s5 lR) z1.G=c (.m b3.z,z1.G)) (by rw[m1 (lN z1.G w7=c (b3.au eV)) (K8 (K z1.bs)),mY hs,Dj,Bl,m6 (((lN z1.G w7).au _)=_),hs];simp),mY ahz,m1 (pE (z1.b9 (z1.bs+1)).G w7 n'=c (eV b3[q])) (by rw[Cq _ 23 _ q (K _)];simp[Ab]),mY fo];have aH3:ny oS (r_ 2 (tX (sW ph))) (s5 lR) z1.G=c (eV b3[q],(z1.b9 (z1.bs+1)).G):=Bm nz (aQW (aSR ahz) bj) fo;refine Nu (M8 (z1.b9 (z1.bs+1)) (V.aF.b9 _) V.ca V.Ap h 2 0 b3[q] (V.adO _ (r.aij Ab)) (yh (z1.ak.z<600000) (t5 [l,z1.ak.z] ai 600000 yr (qQ 20 4) ai (16+(vc 8)) e (AM 20 br) fT)) (by rw[m6 (rG z1.ds.z),V.dl,mW Ag [l] (nm+1) 1000 nm 4 e br])) fun v ao bV i0 aaW aaX c9 aoH ep at7 aoy aug=>?_;have aIl:ny oS (.bp 75 (.s qc (.s rn (.s (r_ 2 (tX (sW ph))) (nA nr))))) (s5 lR) z1.G=c (bV.aY,(((z1.b9 (z1.bs+1)).Ah ao).AT ⟨2,v,[]⟩).G):=zg (o2 nz nU (Ae aH3 (vx nU))) i0;rw[m1 (aqN=.s (.acg [2,3,4] (qL (pH Ņ Ņ Ņ))) (.s (.mn 5 (nA (rk e_ nG (tX Ç))) asK) (.s (sG 8 (.bp 75 (.s (.A 1) (pH rn (r_ 2 (tX (sW ph))) nr)))) (nA (.bu (qL (.s (.A 4) (pH qw ph (.A 8))))))))) e,mY iO];have b7:fR z1 (((z1.b9 (z1.bs+1)).Ah ao).AT ⟨2,v,[]⟩):=((tW:fR z1 (z1.b9 (z1.bs+1))).ah (GM _ ao aaX)).ah (m7 fR.AT);rw[mX (aRr Nf (((z1.b9 (z1.bs+1)).Ah ao).AT ⟨2,v,[]⟩) bV ?_ ?_ V.ca V.bd ?_ (fun q n b=>V.np q n (aoH q n b)) ?_),Sy,iO,AO s1,AO ((nM (qm G0) ak9 (Fk (l+1) (m4 (Ag [l] (nm+1) 2000 nm 4 e br)))).ah kD),AO (Bh aIl),CJ (Dg (A3 (o2 nz nz aNK)))];rfl;have ab0:=V.ul;have adi:z1.ds.z=l+1:=V.dl;rw[mW {aF:=aaW,Ap:=V.Ap,xs:=V.xs,adN:=V.adN,fQ:=V.fQ,eY:=V.eY,ul:=m4 (Ag [l,al.z] 1 ai nm ai e (AN ab0)),anx:=⟨m4 (Am [l,al.z] ai 4 nm 4 ai nm e br (Az ab0)),V.up⟩,jK:=tg V.jK V.ul,adQ:=tg V.adQ V.ul,dl:=by rw[m6 ((z1.ds++[_]).z=_),r.gR,adi,ab0];rfl,adO:=V.adO,cl:=fun aq d b=>by rw[yq (V.cl aq d b) d5 da fC ahU,mW By (Ģ d5) da fC (ahU.bx b7)],AV:=by rw[m1 ((z1.b9 (z1.bs+1)).ds.z=al.z) (by rw[m6 (z1.ds.z=_),mW OC [l,al.z,z1.ds.z] a8 ai nm ai a8 nm e ab0.cq adi]),mY h'];rw[h']at aoy;exact(By aoy ep at7 aug),aar:=fun aq a0 cQ=>by have adk:p7 (z1.ds++[(⟨2,v,[]⟩:lr)]) a0:=cQ;clear cQ;by_cases adl:aq<z1.ds.z;rw[r.jP adl]at adk;rw[ou (V.aar aq a0 adk) d5 da,mW AE da (nO d5) (oE n_),m1 (aq=z1.ds.z) (by rw[u8 b adk,sB r.gR r.lF,mW (y_ (Ag [z1.ds.z,aq] ai S nN nm e b) (Ag [z1.ds.z,aq] S ai S ai e (x7 adl)))]),mY ald,mZ adl];subst ald;rw[aOj r.akX adk];subst adk;exact(AE e (oE n_) (nO e)),cc:=V.cc,eo:=V.eo,abB:=V.abB},m6 (z1.bs+1≤100),mW (t5 [l,z1.bs] ai 100 yr (qQ 20 4) ai (yr+1) e (AM 20 br) kW),m1 ((z1.b9 (z1.bs+1)).ak.z=z1.ak.z) e,m5,m6 (ao.z≤60),mW Yn br fT c9]
def Lk(a:aH)(b:Ú)(aq):a.G[aNY]?=Ã a.ca:=by rw[m1 (a.gl=16) (by simp[aH.gl,b]),mY iN,aPW,iN,r.agx (m4 (yP (Ag [a.ds.z,aq] 1 0 (zf+ai) 16 e (AN dO)))),r.aih (by simp[Bs,Ca]),uh,aT8 Bs Ca,mW (q3 (Br [aNY-qR,aq,a.ds.z] S ai (S+ġ) (ġ+ai) e) (AJ [aNY-qR,aq,a.ds.z] ġ (ġ+ai) e))]
def Ach:∀(a:aH)(b:Ú)(aq)(p),a.G.b6 aNY p=aH.G (oP ca (a.ca.b6 aq p)):=by rw[mY a,nR,mY aq p,m1 (a.gl=16) (y8 aH.gl b),mY iN,m1 (aH.gl (oP ca (a.ca.b6 aq p))=16) (by simp[aH.gl,b]),mY arm,aPW,iN,arm,m7 r.awj (m4 (yP (Ag [a.ds.z,aq] 1 0 (zf+ai) 16 e (AN dO)))),m7 r.akf (by simp[Bs,Ca]),m1 (aNY-(a.g8++ii 2 _).z=aq) (by rw[aT8 Bs Ca,mW (q3 (Br [aNY-qR,aq,a.ds.z] S ai (S+ġ) (ġ+ai) e) (AJ [aNY-qR,aq,a.ds.z] ġ (ġ+ai) e))]),p0,d];rfl
abbrev iI:sf u|0=>17|pY=>19*2^o
structure j_(a:aH)(al:n1)(W:nL)(d:aR)(am:u):Prop where
 dT:vy
 Av:zx d
 aaH:xf d.eu
 eo:d.eo≤am+2
 An:sd d.v≤4+2*am
 dh:v4 d.v≤iI am
 eZ:oG d.e8 (j∈W∨j.v=1)
def Lq(am):17≤iI am:=by rw[uL am (by decide) o (by rw[m1 (1≤2^o) u.one_le_two_pow,m5,m6 (17≤19*2^o),mW Ag [2^o] 17 (tC S) (tC 1) (tC S) e (AM 19 aa)])]
def j_.bx{a z'}{al}{W ahf}{d}{am}(b:j_ a al W d am)(b7:yx)(aG:yU o a0 (yT o→∃jx,zc z'.ds jx∧jx.cA=a0.cA))(ew:oG W (j∈ahf)):j_ z' al ahf d am:=have y:=b.dT.A'.1;have aV:=Be (y.bx b7);{dT:=b.dT.bx b7,Av:=b.Av.bx b7 aG,aaH:=b.aaH,eo:=b.eo,An:=nb aV b.An,dh:=nb aV b.dh,eZ:=fun j J=>by rw[nt (pa b.eZ),oe,m9,oe,m8,mW aQ.bT (ew j b),mW aUm]}
def DK(a)(al)(W)(am v f g x Av)(y:sl v (pg v f g x))(aa0:aai a al (ra v f g x Av []))(aIP:xf Av):j_ a al W (ra v f g x Av []) am:={dT:=.cl v f g x Av y,Av:=aa0,aaH:=aIP,eo:=qg,An:=by simp only[aR.v,Be y,Ci,Cj,Ck];split<;>omega,dh:=by rw[m2 (Lq am),m5];simp only[aR.v,Be y,EA,EB,EC];omega,eZ:=fun j J=>by cases J}
structure hi(a:aH)(al:n1)(aD:nL)(b3:aTv)(bV:aR)(W:nL)(o:u):Prop where
 eg:aky a al aD b3 bV
 ca:∃g9,a.ca=v8::g9
 acb:∀(q n:u),pO a.ak v3→n<a.dK.z
 jK:a.dK.z≤o
 ac9:a.iL.z≤o
 ads:a.bw.z≤o
 bN:a.bs≤100+20*o
 gT:a.ak.z≤60+10*o
 hx:∀(q:u)(d:aR),op W d→j_ a al W d q
 cO:(W.au aR.v).fF
 Av:W.z≤o
def aky.bx{a z'}{al}{aD}{b3}{bV}(V:aky a al aD b3 bV)(aF:dI z' [] [])(b7:yx)(Q:z'.Ap=a.Ap)(h2:z'.xs=a.xs)(h3:z'.abj=a.abj)(h4:z'.fQ=a.fQ)(h5:z'.lZ=a.lZ)(h6:z'.ds=a.ds)(h7:z'.c2=a.c2)(h8:z'.e5=a.e5)(h9:z'.gU=a.gU):aky z' al aD b3 bV:={aF:=aF,Ap:=Q.ah V.Ap,xs:=nb h2 V.xs,adN:=h3.ah V.adN,fQ:=h4.ah V.fQ,eY:=h5.ah V.eY,ul:=V.ul,anx:=V.anx,jK:=V.jK,adQ:=V.adQ,dl:=nb h6 V.dl,adO:=V.adO,cl:=fun aq d b=>by rw[yq (V.cl aq d b) d5 da fC ahU,mW By (Ģ d5) da fC (ahU.bx b7)],AV:=(By (Ģ V.AV.1) (nj V.AV) (oj V.AV) ((Ĉ V.AV).bx b7)),aar:=nb h6 V.aar,cc:=h7.ah V.cc,eo:=h8.ah V.eo,abB:=h9.ah V.abB}
def LK:∀{a}{al}{aD}{b3}{bV}(V:aky a al aD b3 bV)(aq:u)(d)(b:p7 aD d),zx d∧xf d.eu:=by rw[mY a al aD b3 bV,mY V,mY aq d,mY b,yq (V.cl aq d b) d5 da fC ahU,aUc cQ];(have arA:aUR:=uq V.adQ cQ);have adi:=V.dl;rw[m1 (nX a.ds aq (a.ds[aq]'(m4 (Am [aq,al.z,a.ds.z] nm a8 nm ai nN a8 e arA (AN adi))))) Ű,mY hD,vi ⟨fun o aG=>?_,fun bf=>m4 (BZ (Am [d.eu,aq] 1 0 nN S S 0 e (AN da) (Az bf)))⟩ (m4 (Am [d.eu,aq,al.z] S a8 S nN (ai+1) a8 e (Az da) arA)),m1 (o=aq) (m4 (aV7 (OC [d.eu,aq,o] a8 ai S) da aG.cq)),m5,mZ b da cQ h_1,uM,mW AE arA d5 (vT hD (nj (V.aar o _ hD) arA))]
def LL:∀{a}{al}{aD}{b3}{bV}(V:aky a al aD b3 bV),zx bV∧xf bV.eu:=by rw[mY a al aD b3 bV,mY V,mX Bq V.AV fun d5 da fC ahU=>?_];have adi:=V.dl;have hD:nX a.ds al.z (a.ds[al.z]'(m4 (Ag [a.ds.z,al.z] (ai+1) S nN S e (AN adi)))):=Ű;rw[vi ⟨fun o aG=>m4 ⟨aV6 [bV.eu,al.z,o] 0 (a8+1) S e (Az da) (AN aG),⟨BZ (ç (Am [bV.eu,o] 1 0 S) 0 (Az da) (AN aG)),BZ (Am [bV.eu,o] 1 0 S 0 nN S e (Az da) (AN aG))⟩⟩,fun bf=>(vT d5 (fun aj hd=>?_))⟩ (m4 (Ag [bV.eu,al.z] S ai S 0 e (Az da))),p2 hd,pi,mW Au al.z _ e hD (nW (nv V.aar hD) e)]
def Ew{a}{al}(v f g x)(i)(l)(b:aOM)(br:∀aj,l≠nP aj):aai a al (ra v f g x 0 i):=⟨fun o aG=>by simp[aR.eu]at aG,nO (Ad l b (fun aj hd=>eh hd (br aj)))⟩
abbrev aH.ahZ(a:aH)(i:n1):aH:=oP dK i
abbrev aH.akm(a:aH)(i:nC):aH:=oP iL i
abbrev aH.asH(a:aH)(i:nC):aH:=oP bw i
def AaK(a:aH)(i):tI 5 (uE i.au .m)=(a.ahZ i).G:=Eb a i
def AaL(a:aH)(i):tI 6 rj=(a.akm i).G:=Ec a i
def AaM(a:aH)(i):tI 7 rj=(a.asH i).G:=Ed a i
abbrev aH.BM(a:aH)(g:R):aH:=((a.ahZ aSH).akm (a.iL++[us])).asH (a.bw++[aUx])
def G'(a:aH)(cf)(cE)(y)(l)(b:w_ oW cE=c y)(bf:ń nZ):oD (aVj T (sO cE)) y:=by simp only[Dh,Bl,bf];rw[m6 ((w_ oW cE).au _=_),b];rfl
def Rl(a:aH)(cf)(q)(g)(l)(bf:ń nZ)(Ab:pO l (nn g))(aC:rG a.dK.z):aVj T (aQ2 hq "bounds" Ė)=c (.B,(a.ahZ aSH).G):=by rw[ni (ni CG l _ 5 _) (G' a _ _ _ _ (I2 a) bf) (Dt a) (Aj Ab) (Dt a) (qC (by simp[dv]))];rw[show a.dK.au _++[ar.m g]=(aSH).au ar.m by simp,AaK]
def Rm(a:aH)(cf)(q)(g)(l)(bf:ń nZ)(Ab:pO l (c g))(aC:rG a.iL.z):aVj T (aQ2 hq "defaults" Ė)=c (.B,(a.akm (a.iL++[g])).G):=tg (sk (ni CG l _ 6 _) g (G' a _ _ _ _ (L9 a) bf) (NJ a) (Aj Ab) (NJ a) (qC (by simp[dv]))) AaL
def Rn(a:aH)(cf)(q)(g)(l)(bf:ń nZ)(Ab:pO l (c g))(aC:rG a.bw.z):aVj T (aQ2 hq "names" Ė)=c (.B,(a.asH (a.bw++[g])).G):=tg (ni CG l _ 7 _ _ g _ _ (G' a _ _ _ _ (L_ a) bf) (NK a) (Aj Ab) (NK a) (qC (by simp[dv]))) AaM
def OZ:∀(a:aH)(aF:aPB)(h:u)(g:R)(U:rG a.dK.z)(hd:rG a.iL.z)(cu:rG a.bw.z)(fT:aSO),rE 2 0 [oW,aUx,y9,us]=c (pf (aUV uc),((a.BM g).Ah (sy a.ak uc)).G):=by rw[mY a,mY aF,mY h g,mY U hd cu fT,m1 (∀eQ(a:aH),oD (ny n0 pn [nZ,ċ "T",nn g,Þ,eQ] a.G) oW) (fun eQ a=>nz),mY ae3,m1 (oD (ny n0 (sW (sO "bounds")) [nZ,ċ "T",nn g,Þ,B] a.G) (.m a.dK.z)) (by rw[m1 (oD (ny n0 (sO "bounds") [nZ,ċ "T",nn g,Þ,B] a.G) (.D 5)) (G' a _ _ _ _ (I2 a) e),mY a_,m1 (ui lN (.D 5)=c (a.dK.au .m)) (aP2 lN Dt),mY hs,Dj,a_,m6 (((ui lN (.D 5)).au _)=_),hs];simp),mY air,m2 (Rl a n0 2 g [nZ,ċ "T",nn g,Þ,nn a.dK.z] e e U),mY a1,m2 (Rm (a.ahZ aSH) n0 3 us [nZ,ċ "T",nn g,Þ,nn a.dK.z] e e hd),mY a2,m2 (Rn ((a.ahZ aSH).akm (a.iL++[us])) n0 1 aUx [nZ,ċ "T",nn g,Þ,nn a.dK.z] e e cu),mY a3];have gi:aTk (a.BM g):={kh:=aF.kh,eX:=aF.eX,cO:=aF.cO,aS:=aF.aS,eM:=aF.eM,ey:=aF.ey,jX:=aF.jX,fO:=aF.fO,ks:=fun f g y d=>aQy d,jW:=aF.jW};rw[m2 (GG _ h uc gi.kh (qC (by rw[m6 (ŝ 1000000)]))),mY lf,m1 (aU _ _ (m7 .eT (Ğ (qL (.s (.bL "Y_PARAM" _) (Ğ p6))))) _ _=c (pf (gG a.ak _),((a.BM g).Ah (eL a.ak _)).G)) (m4 ((Gs (m7 ae3) (Fa _) (vx (A3 (o2 (Di ..) nz oy)))).ah lf)),mY bK,m1 (ĳ dP=c (s6 _,[nJ,nJ,nJ,nJ,nJ],((a.BM g).Ah _).G)) (Dg bK),mY aeD,m2 (Bh (q:=4) air),mY aV,m2 (BX a1),mY bj,m2 (BX a2),mY cV,m2 (BX a3),mY gp];simp only[I9,atH,AO aV];simp only[r.aEz,r.aEA];rw[AO bj,AO cV];rw[ţ (((a.ahZ _).akm ((a.ahZ aSH).iL++[ar.m _]))=(a.ahZ _).akm (a.iL++[xk])),AO gp];rw[sr (((a.ahZ _).akm _).asH (((a.ahZ aSH).akm _).bw++[uW])) (a.BM g) e];rw[CJ aeD];rfl
abbrev aaa:sf u|0=>0|nB=>aaa h+iI h
def AcN(am)(b:1≤am):aaa am+2=iI am:=by induction am with|hf=>exact B4 (A4 [] 1 0 1 0 e (Bb b))|gk o ih=>rw[om,uL o (by rfl) o (by rw[m2 (rJ ih),m5,m6 (aaa pY+iI pY+2=iI (o+2)),m1 (iI pY=19*2^o) e,mY aV,m1 (iI (o+2)=19*2^pY) e,mY bj];simp only[u.pow_succ]at bj;exact y_ (yv (Ot [aaa o.gk,iI o.gk,2^o,iI (o+2)] (S+ai+2) eK wJ) ai (qQ 19 a8) (qQ 19 a8) (tz 19 (a6.l a8 2)) eK e (Az aa) (Az aV) (Az aV) (AN bj)) (Ot [aaa o.gk,iI o.gk,2^o,iI (o+2)] eK (S+ai+2) ai wJ (qQ 19 a8) ai (qQ 19 a8) ai eK (tz 19 (a6.l a8 2)) e (AN aa) (AN aV) (AN aV) (Az bj)))]
def AcM(q am:u)(b:q<am):iI q≤aaa am:=by induction am with|hf=>omega|gk o ih=>rw[m6 (iI q≤aaa o+iI o),nH aG q o,mZ ih b];subst aG;omega;rw[m2 (rJ ih),m5,mW Ag [iI q,aaa o,iI o] S (ai+a8) S ai e aa]
def Ab2{cg:Type}(ac:sf cg)(i:Ë):∀k,(∀(q:u)(d:cg),op i d→ac d≤iI (q+k))→(i.au ac).aaM+aaa k≤aaa (i.z+k):=qb i (by intro k _;simp) f i (by rw[mY k b,m2 (b 0 f e),mY bf,m2 (ih _ (fun q d Ab=>by rw[m2 (Ó (b (q+1) d) Ab),m5,rh (q+(k+1)) (q+1+k) (BI [q,k] tS zq e),mW aa])),mY Q,m1 (aaa (k+1)=aaa k+iI k) e,mY h2];dsimp only[r.gI,r.ans,r.kZ];rw[u.aac]at bf;rw[rh (i.z+1+k) (i.z+(k+1)) (BI [i.z,k] zq tS e),mW Bu [ac f,iI k,(r.au ac i).aaM,aaa (k+1),aaa (i.z+(k+1)),aaa k] (S+a8+amo) ahk S ai (a8+eK) ahk (amo+ai) eK e bf Q (AN h2)])
def Xw(K:sf u)(f:u)(ks:nq)(b:ks.fF):(ks.au K).aaM≤K f+((ks.afu (nF (b1 (j≠f)))).au K).aaM:=qb ks (by rw[qy]) g ks (by rw[ou (r.l6.1 b) U cu,nH d g f,mZ ih,oQ];(have:ks.afu (nF (b1 (j≠g)))=ks:=r.aHk.2 fun j J=>by simp only[kR];rw[p0,mW U (d▸J)]);rw[m1 (b1 (vd g)=Y) rb,mY a5];simp only[r.aoE,a5,N.aev,abv,aa,r.gI,r.ans];omega;rw[m2 (ih cu),m5,m1 (b1 (vd f)=F) (o7 d),mY a5];simp only[r.aoE,a5,fU,r.gI,r.ans];exact Ag [(r.au K _).aaM,K f,(r.au K (r.afu (nF (b1 _)) _)).aaM,K g] (eK+S) (ai+(eK+a8)) S (ai+a8) e aa)
def OV(K:sf u)(a':nq):∀ks:nq,ks.fF→(∀o∈ks,o∈a')→(ks.au K).aaM≤(a'.au K).aaM:=qb a' (by intro ks _ b;(rw[oT ks (by rw[qy]) o ks (by exact eh (b o tG) r.mz)])) f a' (by rw[mY ks cu b,m2 (Xw K f _ cu),mY Q];have h2:=ih (ks.afu (nF (b1 (j≠f)))) (cu.afu _) (fun o aG=>by rw[ou (r.anf.1 aG) aaw ahx,nt (r.gA.1 (b o aaw)),y1,m9,y1,m8,mW eh d (by simpa using ahx),mW d]);simp only[r.gI,r.ans];exact Am [(r.au K ks).aaM,K f,(r.au K (r.afu (nF (b1 (j≠f))) ks)).aaM,(r.au K a').aaM] S (ai+eK) S (ai+a8) a8 eK e Q h2)
def Aar(dr:tK)(g:u)(b:∀k∈dr,k.An≤g):sx≤g:=qb dr (by simp[G4,G5]) f dr (by simp only[G4,G5];rw[m2 (b f tG),mY t0,m2 (ih fun k hs=>b k (Ċ hs)),m5,mW (rW u.aDO.2 t0 aa)])
abbrev asJ:aR:=ra 1 511 2047 2047 0 []
def LJ:∀{a z1}{al}{W}(aIR:∀(q)(d),op W d→j_ a al W d q)(b7:fR a z1)(i)(aC:qe i)(lz:oG i (iK z1 j∧(j∈W∨j.v=1)∧j.eo≤W.z+1))(v n g)(bh)(iC:nX z1.ak v v3)(iy:xe v)(U:abR z1 n=c g)(dw:vd v)(aef:c1 z1 g bh)(ec)(iQ:i.au (nF (cN z1 j.v))=ec)(afy:al7 bh ec)(cU:g=1∨(∃j∈i,g=j.v)∨(∃H,nX z1.ak g (qr H)∧∀t∈H,∃j∈i,t=j.v))(g_:aUg≤4+2*W.z)(kE:bh.dh+1≤iI W.z),j_ z1 al W (ra v 0 0 0 0 i) W.z:=by rw[mY a z1 al W,mY aIR b7,mY i,mY aC lz,mY v n g bh,mY iC iy U dw aef,mY ec,mY iQ afy cU g_ kE];have y:c1 z1 v (z9 v):=.bY v n g bh iC iy U dw aef;rw[mX {dT:=.bY v n g _ i _ iC iy U dw aef aC (by rw[←iQ];simp) (fun j J=>(pa lz).1) ?_ afy cU,Av:=Ew v 0 0 0 i _ iC (fun aj b=>Å),aaH:=rA aR.eu,eo:=?_,An:=by simp only[aR.v,Be y,Ci,Cj,Ck];exact g_,dh:=by simp only[aR.v,Be y,EA,EB,EC];exact kE,eZ:=fun j J=>nj (pa lz)},mY aq j k Q h2];simp only[←iQ,r.adg,Q]at h2;rw[aOj ap.ji h2];subst h2;rw[mW ((lz j (r.lI Q)).1.A').1,m1 (aR.aeq i≤W.z+1) (by clear aC iQ cU;induction i with|C=>simp[IO,IP]|s j i ih=>simp only[IO,IP];rw[m2 (nW (aUK lz)),mY t0,m2 (ih (aRo lz)),m5,mW (rW u.aDO.2 t0 aa)]),m5];simp only[QH];exact u.awB aa
def Py(a)(g)(ao)(b:aRc):ô ((a.BM g).Ah ao):=⟨b,fun aj a0 d=>(Ad a0 d e),fun n x d=>by unfold abR at d⊢;induction ba:a.dK[n]? using ap.ae with|B=>rw[ba]at d;rw[yc]|c j=>rw[u8 aC ba,m1 (n9 ((a.BM g).Ah ao).dK n j) (by rw[m6 (n9 aSH n j),r.jP aC,mW ba]),m5,tf];rw[ba]at d;exact d⟩
def dI.BM{a}(aF:aPB)(g):aTk (a.BM g):={kh:=aF.kh,eX:=aF.eX,cO:=aF.cO,aS:=aF.aS,eM:=aF.eM,ey:=aF.ey,jX:=aF.jX,fO:=aF.fO,ks:=fun f g y d=>aQy d,jW:=aF.jW}
def Zg:∀(a)(al)(aD)(b3)(bV)(W)(o)(dJ:w1)(aG:o<100)(h),∃d z',qf (rE 2 0 [oW,aUx,us,us]) aOm∧d.m0=0∧d.cC=0∧d.c4=0∧d.eu=0∧d.e8=[asJ]∧aWs∧hi z' al aD b3 bV W pY:=by injections a al aD b3 bV W o;rw[mY dJ aG,aR5];(have amX:a9.bY a.dK.z∉a.ak:=by rw[mY bK,n4 (r.ajW.1 bK) q Ab,m2 (dJ.acb q _ Ab),m5,mW u.i8 _ (Ag [a.dK.z] 1 0 nm S e aa)]);have aF:=dJ.eg.aF;have afz:=dJ.jK;have adi:=dJ.ac9;have aiu:=dJ.ads;have fT:=dJ.gT;rw[m2 (OZ a aF h (-1) (m4 (wX a.dK.z 1000 nm 100 ai S e aG afz)) (m4 (wX a.iL.z 1000 nm 100 ai S e aG adi)) (m4 (wX a.bw.z 1000 nm 100 ai S e aG aiu)) (m4 (wX a.ak.z 900000 zH (tC 100) ai (Ð 60) e (AM 10 aG) fT))),mY adn];have amT:aUV uc=a.ak.z:=nv E3 amX;rw[m1 (m7 eL=a.ak++[.bY _]) (by unfold eL;rw[cH amX]),mY eE];have b7:=Py a (-1) (sy a.ak uc) (fun q l b=>uF Ih b);rw[rf ((aF.BM (-1)).Ah (sy a.ak uc) (aQ.bF u0)) gi adV acM];have iC:nX ((a.BM (-1)).Ah (sy a.ak uc)).ak (aUV uc) uc:=m7 D';rw[m2 (qJ (m7 aF.eX) (n9 kv 15 _) e),mY ak0,u8 ao4 ak0,m1 (m7 abR=c 1) (by unfold abR;rw[m1 (nX ((a.BM _).Ah (eL a.ak uc)).dK a.dK.z (-1)) (by rw[m6 ((a.dK++[aP7])[a.dK.z]?=_)];simp),m5,tf];rfl),mY auJ];have aqa:c1 ((a.BM (-1)).Ah (sy a.ak uc)) 1 acZ:=.iv (gi.eX 1 _ e);rw[m1 (iK _ asJ) (.cl 1 _ _ _ 0 aqa),mY amZ,m2 (Lq W.z),mY afI];have aoW:=LJ (z1:=(a.BM (-1)).Ah (sy a.ak uc)) dJ.hx b7 [asJ] qg (fun j J=>nb aQI (AE amZ aUr qg)) (aUV uc) a.dK.z 1 acZ iC (m4 (Am [a.ak.z,m7 gG] 16 ai S ai (15+1) S e (AN amT) ao4)) auJ (m4 (yP (Bu [a.ak.z,m7 gG] 1 0 S ai (15+1) S ai 1 e (AN amT) ao4 (AN dO)))) aqa [acZ] (by rw[m6 ([cN _ 1]=_),Be aqa]) (LI rb (fun k hs=>sh (Ų hs))) aQb (ŧ acZ Ci Cj Ck) (qC (by simp[acZ,EA,EB,EC]));rw[mX Hu (ra _ 0 0 0 0 _) _ adn e e e e e aoW ?_,mW {eg:=u7 (dJ.eg.bx gi b7 e e) e e e,ca:=dJ.ca,acb:=fun q t Ab=>by(have ms:pO (a.ak++[a9.bY a.dK.z]) (.bY t):=uq eE Ab);rw[m6 (t<(a.dK++[aP7]).z),aVJ,y5 aaZ a.ak.z];rw[r.jP aaZ]at ms;rw[m2 (dJ.acb q t ms),mY aa,mW Ag [a.dK.z,t] nN nm nN S e aa,u8 kf ms,mZ h_1];simp only[r.gR,r.lF]at kf;rw[m1 (q=a.ak.z) (m4 (y_ (Ag [a.ak.z,q] ai S nN nm e kf) (Ag [a.ak.z,q] S ai S ai e (x7 aaZ)))),m5,mZ aaZ kf,uM];simp only[r.akX,ap.c.fV,a9.bY.fV]at ms;exact Ag [a.dK.z,t] nN nm ai S e (AN ms),jK:=by rw[m6 ((a.dK++[aP7]).z≤_),aVJ];omega,ac9:=by rw[m6 ((a.iL++[_]).z≤_),aVJ];omega,ads:=by rw[m6 ((a.bw++[_]).z≤_),aVJ];omega,bN:=by rw[m2 dJ.bN,m5,m6 (a.bs≤_),mW (yv Ag (rV a.bs) (100+zH) (Ð 100) e aa)],gT:=by rw[m1 ((m7 eL).z≤a.ak.z+1) acM,mY ad3,m6 ((m7 eL).z≤_),mW Am [o,a.ak.z,(m7 eL).z] a8 (60+zH) ai (Ð 60) a8 nN e fT ad3],hx:=fun q d Ab=>(aTd dJ.hx).bx b7 aWe aQD,cO:=dJ.cO,Av:=q8 dJ.Av (yv Ag (rV W.z) nm S e aa)}]
def Zc:∀(a)(al)(aD)(b3)(bV)(W)(o)(dJ:w1)(aG:o<100)(i)(aC:qe i)(alg:wq 8)(lz:aNQ i)(h),∃(aP:u)(ao:oB)(d:aR)(z':aH),rE 3 8 [oW,aOc i.au]=c (Æ,î)∧qf (aOa 3 0 [oW,aUx,Æ,us] î) aOm∧d.m0=0∧d.cC=0∧d.c4=0∧d.eu=0∧d.e8=i∧aWs∧hi z' al aD b3 bV W pY∧z'.ca=a.ca∧z'.ds=a.ds:=by injections a al aD b3 bV W o;intro dJ aG;injections i;rw[mY aC alg lz,aR5];have aF:=dJ.eg.aF;have afz:=dJ.jK;have adi:=dJ.ac9;have aiu:=dJ.ads;have fT:=dJ.gT;(have ajC:oG W (∃q,q<W.z∧op W j∧j_ a al W j q):=by rw[tr,m3 Al (r.ajW.1 J),mY q Ab,u8 aC Ab,mW AP q aC Ab (dJ.hx q j Ab)]);(have hL:1≤W.z:=by rw[m3 Al (aUj aC),tr,mW r.avG.2 (r.ne_nil_of_mem (lz j J))]);rw[s3 (Lp a [] [] aF h (i.au aR.v) (o7 aC) (o7 alg) (fun v aS=>by rw[uv aS,mZ aS,s4,aTC,mY q _ _ dt,mW (ql dt.dT.A'.1 (nj dt.dT.A'))]) (m4 (wX a.ak.z 900000 zH (tC 100) ai (Ð 60) e (AM 10 aG) fT))) aP ao cK eE ajz,rf (aF.Ah ao eE) ke add lE,m2 (GM a ao add),mY ad4,mZ add,m2 lE,mY aIB,mZ aIB,m1 (∀q,rS a.ak≠c (a9.bY a.dK.z)) (fun q Ab=>q8 (dJ.acb q _ Ab) (u.i8 _ (Ag [a.dK.z] 1 0 nm S e aa))),mY aIM];(have au8:∀(q n:u),pO ao v3→pO a.ak v3:=by rw[mZ cK ke lE ad4,mY q n Ab,nY eE eE,n8,m9,mY J,ri Al,ng];rintro j J;rw[m8,mW Ab,m1 (ao=a.ak∨∃ks,ao=sy a.ak aSp) (by clear Ab;generalize hz:a.ak=aMG at ajz J;rw[ng];cases ajz with|iv=>exact aQ.bT hz|gB=>exact aQ.bT hz|jh _ _ ks _ br=>exact aQ.bF ⟨ks,by rw[hz]at br;exact br⟩),mY aCe,mZ ajz J,nY aCe aCe,n8,m9,mY J,ri Al,ng,oc ks,m8,mW Ab];unfold eL at Ab;split at Ab;rw[mW Ab,y5 aaZ a.ak.z];rw[r.jP aaZ]at Ab;rw[mW Ab,u8 kf Ab,mZ b];simp only[r.gR,r.lF]at kf;rw[m1 (q=a.ak.z) (m4 (y_ (Ag [a.ak.z,q] ai S nN nm e kf) (Ag [a.ak.z,q] S ai S ai e (x7 aaZ)))),mY auY,mZ aaZ kf];subst auY;simp at Ab);clear eE;(have amX:a9.bY a.dK.z∉ao:=by rw[mY bK,m3 Al (r.ajW.1 bK),mY q Ab,mW aIM q (au8 q _ Ab)]);have amT:aNI uc=ao.z:=nv E3 amX;rw[m1 (eL ao _=ao++[.bY _]) (by unfold eL;rw[cH amX]),mY aCf,mZ amX,m2 (OZ _ ke nB aP (yh (rG a.dK.z) (wX a.dK.z 1000 nm 100 ai S e aG afz)) (yh (rG a.iL.z) (wX a.iL.z 1000 nm 100 ai S e aG adi)) (yh (rG a.bw.z) (wX a.bw.z 1000 nm 100 ai S e aG aiu)) (yh (ao.z<900000) (Bu [o,a.ak.z,ao.z] (a8+1) 900000 zH (tC 100) ai (Ð 60) a8 nN e (AM 10 aG) fT lE))),mY adn,m1 (m7 (sb bc (h+3) 0)=c (pf (aNI uc),(aWj).G)) adn,mY aC5,mZ adn];have mL:fR v' aWj:=Py v' aP (sy ao uc) (fun q l b=>uF Ih b);have b7:=ad4.ah mL;rw[mZ ad4,rf ((ke.BM aP).Ah (sy ao uc) (aQ.bF u0)) gi adV acM,mZ adV,m1 (qo eL ao _≤ao.z+1) acM,mY aDz,mZ acM];have iC:nX (aWj).ak (aNI uc) uc:=m7 D';rw[m2 (qJ (m7 ke.eX) (n9 kv 15 _) e),mY ak0,mZ ke];have ao4:15<ao.z:=(r.gF.1 ak0).1;rw[mZ ak0,m1 (i.au (nF (m7 cN))=aRB i.au) (by rw[r.aeN];apply r.aDM;rw[tr,aTC,mY q _ _ dt,mW Be (dt.dT.A'.1.bx b7)]),mY iQ,m1 (∀ks:r _,ks.fF→(∀t∈ks,t∈i.au aR.v)→(ks.au (ue (v4 t))).aaM≤aaa _) (by intro ks cu jR;have Q:=OV (ue (v4 t)) aSS ks cu (fun t cG=>by rw[m3 Ac (aTW (jR t cG)),mZ cG,s4,mW (ŀ (Ad j (pa lz) e))]);rw[m2 (Ab2 (fun d:aR=>v4 _) W 0 (fun q d Ab=>(aTd dJ.hx).dh)),mY h2];rw[r.aeN]at Q;rw[m1 (aaa 0=0) e,mY h3];simp only[u.aqI]at h2;rw[m1 ((W.au ((ue (v4 t))∘aR.v)).aaM=(W.au (ol (v4 _))).aaM) e,mY h4,mW Bu [(r.au (ue (v4 t)) _).aaM,(r.au ((ue (v4 t))∘aR.v) W).aaM,(r.au (ol (v4 _)) W).aaM,aaa 0,aaa _] S ahk S ai (a8+eK) ahk ai a8 e Q h2 (Az h4)]),mY aJf];have alm:=AcN W.z hL;(have ao1:∃bh,c1 aWj aP bh∧al7 bh (aRB i.au)∧aP<ao.z∧1≤aP∧(aP=1∨(∃j∈i,aP=j.v)∨(∃H,nX (aWj).ak aP (qr H)∧∀t∈H,∃j∈i,t=j.v))∧aUg≤4+2*W.z∧bh.dh+1≤iI W.z:=by clear cK lE au8 amT aCf aC5 gi aDz iC iQ;have aC8:ty 1 acZ:=.iv (Ŀ 1);rw[m1 (∀k∈aRB i.au,hb k acZ=F) (by intro k hs;rw[r.aeN]at hs;rw[uv hs,mZ hs,s4,aTC,mY q _ _ dt,mW GT dt.dT.A'.1]),mY aJp,m2 (Lq W.z),mY afI];cases ajz with|iv Q=>rw[mX JF _ (aC8.bx b7) (LI (ŀ (Ad 1 Q (Be aC8))) aJp) (m4 (oa Ag [a.ak.z] 1 S 15 S e ao4)) n_ aQb (ŧ acZ Ci Cj Ck) (qC (by simp[acZ,EA,EB,EC]))]|gB t Q cG ale=>rw[mZ mL,uv cG,mZ cG];(rw[s4]);rw[aTC,mY q Ab _ dt,pv AC dt.dT.A' lQ aeH P,m3 AF lQ.gs,mY l br _ ok,m2 (AcM q _ Ab),mY aJq,m2 dt.An,mY g_,m2 dt.dh,mY kE,mX JF _ (lQ.bx b7) (QG ale) ((r.gF.1 br).1) (q8 ok.1 (aQE [j.v] S 0 S e (u.ahT aa))) (aOz aQ.bT (Ad j J e)) (m4 (Am [W.z,q,sd _] pR (rg 4 2) (x3 2) ĸ a8 (ro 4 2) e (AM 2 Ab) g_)) (m4 (Bu [aaa _,iI _,iI q,v4 _] (eK+1) ai wJ ai a8 S eK a8 e (Az alm) aJq kE))]|jh _ _ ks Q aHS apf iy ajD kg ao3 jR ale=>rw[m1 (c1 _ aP (.un (ks.au _))) (by rw[m3 (.un aP _ _ (nv mL.ak apf) iy ajD kg rb) ?_,mY aq f k aV bj];simp only[r.adg,aV]at bj;rw[aOj ap.ji bj];subst bj;rw[m3 Ac (aTW (jR f (r.lI aV))),mZ aV,s4,aTC,mY q _ _ dt,mW dt.dT.A'.1.bx b7,mY k hs,uv hs,mZ hs];rintro f a_ e;rw[m3 Ac (aTW (jR f a_)),mZ a_,s4,aTC,mY q _ _ dt,mW (nj dt.dT.A')]),mY dj,mX JF _ dj (QF ale) ((r.gF.1 apf).1) (m4 (Ag [aP] 1 S 16 S e iy)) (aOz aQ.bF (Ad ks (nv mL.ak apf) (fun t cG=>?_))) ?_ ?_,m3 Ac (aTW (jR t cG)),mZ cG,s4,mW Ad j J e,m1 (bv.fz (ks.au _)≤4+2*(W.z-1)) (by apply Aar;rw[mY k hs,uv hs,mZ hs];rintro f a_ e;rw[m3 Ac (aTW (jR f a_)),mZ a_,s4,aTC,mY q Ab _ dt,m2 dt.An,m5,mW Bu [W.z,q,sd _,W.z-1] a8 (sn 4 2 eK) (x3 2) ĸ a8 (ro 4 2) ĸ (tz 2 (eK+1)) e (AM 2 Ab) aa (AM 2 (q3 AN (Ag [W.z,q,sd j.v,W.z-1] 1 S 1 S e hL)))]),m5];simp only[Ci,Cj,Ck];rw[mW Am [W.z,vo,W.z-1] (nN+1) (rg 4 2) ai (sn 4 2 a8) (tz 2 pR) ĸ e aa (AM 2 (q3 Az (Ag [W.z,bv.fz (r.au (cN a) ks),W.z-1] 1 S 1 S e hL))),m2 (aJf _ ao3 jR),mY h2];rw[show(ks.au fun t=>v4 t)=(xX ks.au).au bv.dh by rw[r.aeN];rfl,←Qt]at h2;simp only[EA,EB,EC];exact t5 [aaa _,iI _,bv.ag3 _] pR ai wJ ai a8 S e (Az alm) h2);rw[m3 Ux ao1,mY bh aLC afy ab0 avj cU g_ kE,m1 (m7 abR=c aP) (by unfold abR;rw[m1 (n9 (aWj).dK a.dK.z Ę) (by rw[m6 ((a.dK++[Ę])[a.dK.z]?=_)];simp),mY aa,tf,m1 (¬(Ę≤0)) (m4 (fun dO=>B4 (A5 [↑aP] 1 0 1 b5 b5 0 e (Bb avj) dO))),mY bf,m6 (c (if Ę≤0 then 1 else(Ę).es)=c aP),cH bf,R.akh]),mY auJ];have aoW:=LJ (z1:=aWj) dJ.hx b7 i aC (fun j J=>by rw[aTC,mY q Ab _ dt,mW AE (dt.dT.bx b7) (aQ.bT (lz j J)) (q8 dt.eo (Am [W.z,q,j.eo] a8 nm nN S a8 (ai+2) e Ab aa))]) (aNI uc) a.dK.z aP bh iC (m4 (Am [ao.z,gG ao _] 16 ai S ai (15+1) S e (AN amT) ao4)) auJ (m4 (yP (Bu [ao.z,gG ao _,aP] 1 0 S ai (a8+1) S ai a8 e (AN amT) ab0 (AN dO)))) aLC (aRB i.au) iQ afy cU g_ kE;rw[mX Uh aP ao (ra _ 0 0 0 0 i) _ cK aC5 e e e e e aoW ?_ e e,mW {eg:=u7 (dJ.eg.bx gi b7 e e) e e e,ca:=dJ.ca,acb:=fun q t Ab=>by(have ms:pO (ao++[a9.bY a.dK.z]) (.bY t):=uq aCf Ab);rw[m6 (t<(a.dK++[Ę]).z)];simp only[r.gR,r.lF];rw[y5 aaZ ao.z];rw[r.jP aaZ]at ms;rw[m2 (dJ.acb q t (au8 q t ms)),m5,mW Ag [a.dK.z,t] nN nm nN S e aa,u8 kf ms,om];simp only[r.gR,r.lF]at kf;rw[m1 (q=ao.z) (m4 (y_ (Ag [ao.z,q] ai S nN nm e kf) (Ag [ao.z,q] S ai S ai e (x7 aaZ)))),mY aa,mZ aaZ kf,uM];simp only[r.akX,ap.c.fV,a9.bY.fV]at ms;exact Ag [a.dK.z,t] nN nm ai S e (AN ms),jK:=by rw[m6 ((a.dK++[Ę]).z≤_),aVJ];omega,ac9:=by rw[m6 ((a.iL++[_]).z≤_),aVJ];omega,ads:=by rw[m6 ((a.bw++[_]).z≤_),aVJ];omega,bN:=by rw[m2 dJ.bN,m5,m6 (a.bs≤_),mW (yv Ag (rV a.bs) (100+zH) (Ð 100) e aa)],gT:=by rw[m6 (qo eL ao _≤_),mW Bu [o,a.ak.z,ao.z,qo eL ao _] eK (60+zH) ai (Ð 60) a8 nN eK pR e fT lE aDz],hx:=fun q d Ab=>(aTd dJ.hx).bx b7 aWe aQD,cO:=dJ.cO,Av:=q8 dJ.Av (yv Ag (rV W.z) nm S e aa)}]
def BQ{O}{cf}{x}{f g}{l}{w a4}{cL}(b:o5 (o0 aU x) oX)(o:b4 O cf g l a4=cL):pU b4 (.s (.bC x f .C) g)=cL:=(AO (pX D2 b sV)).ah o
def Fr{O}{cf}{x}{f dE g}{l bW}{w a4 dm}{y}(b:o5 (o0 aU x) pb)(o:b4 O cf f l a4=c (rO,bW,dm)):pU b4 (.s (.bC x f dE) g)=c (rO,bW,dm):=CJ (pX D3 b o)
def AB{O}{cf}{k}{g}{l bW}{w a4}{cL}(b:o0 dP k=c (na,bW,a4))(o:b4 O cf g bW a4=cL):pU b4 (.s k g)=cL:=(AO b).ah o
def C2{O}{cf}{d}{g}{l}{w a4}{y}(b:uw y):pU b4 (.s (s6 d) g)=c (rO,l,a4):=pQ CJ Dg
def hi.up{a}{al}{aD}{b3}{bV}{W}{o aaz}(t:w1)(b:o≤aaz):w8 hi b3 bV W aaz:={eg:=t.eg,ca:=t.ca,acb:=t.acb,jK:=u.eG t.jK b,ac9:=u.eG t.ac9 b,ads:=u.eG t.ads b,bN:=q8 t.bN (Am [o,aaz,a.bs] a8 (ro 100 20) (su 20) (xq 20) a8 (rg 100 20) e (AM 20 b) aa),gT:=q8 t.gT (Am [o,aaz,a.ak.z] a8 (ro 60 10) (su 10) (xq 10) a8 (rg 60 10) e (AM 10 b) aa),hx:=t.hx,cO:=t.cO,Av:=u.eG t.Av b}
def hi.b9{a}{al}{aD}{b3}{bV}{W}{o}(t:w1)(n)(b:n≤a.bs+20):aRr hi (a.b9 n) bV W pY:=have b7:fR a (a.b9 n):=tW;{eg:=u7 (t.eg.bx (t.eg.aF.b9 n) b7 e e) e e e,ca:=t.ca,acb:=t.acb,jK:=u.ahH t.jK,ac9:=u.ahH t.ac9,ads:=u.ahH t.ads,bN:=by rw[m2 t.bN,m5,m6 (n≤_),mW Am [n,a.bs,o] S (100+(tz 20 pR)) S (ai+20) ai (sn 100 20 a8) e b aa],gT:=by rw[m2 t.gT,m5,m6 (a.ak.z≤_),mW Ag [a.ak.z,o] S (60+(x3 10)) S (ro 60 10) e aa],hx:=fun q d Ab=>(aTd t.hx).bx b7 aWe aQD,cO:=t.cO,Av:=u.ahH t.Av}
def hi.gs{a}{al}{aD}{b3}{bV}{W}{o}(t:w1)(ao)(aF:aTk v')(aaX:aRc)(c9:ao.z≤a.ak.z+10)(np:aV0):aRr hi v' bV W pY:=have b7:=GM a ao aaX;{eg:=u7 (t.eg.bx aF b7 e e) e e e,ca:=t.ca,acb:=fun q n b=>t.acb q n (np q n b),jK:=u.ahH t.jK,ac9:=u.ahH t.ac9,ads:=u.ahH t.ads,bN:=by rw[m2 t.bN,m5,m6 (a.bs≤_),mW Ag [a.bs,o] S (100+(x3 20)) S (ro 100 20) e aa],gT:=by rw[m2 t.gT,m5,m6 (ao.z≤_),mW Am [ao.z,a.ak.z,o] S (60+(tz 10 pR)) S (ai+10) ai (sn 60 10 a8) e c9 aa],hx:=fun q d Ab=>(aTd t.hx).bx b7 aWe aQD,cO:=t.cO,Av:=u.ahH t.Av}
def hi.As{a}{al}{aD}{b3}{bV}{W}{o}(t:w1)(p):aRr hi (a.As p) bV W o:=have b7:fR a (a.As p):=tW;{eg:=u7 (t.eg.bx (t.eg.aF.As p) b7 e e) e e e,ca:=by obtain⟨g9,b⟩:=t.ca;exact⟨g9++[p],by rw[m6 (a.ca++[p]=_),b];rfl⟩,acb:=t.acb,jK:=t.jK,ac9:=t.ac9,ads:=t.ads,bN:=t.bN,gT:=t.gT,hx:=fun q d Ab=>(aTd t.hx).bx b7 aWe aQD,cO:=t.cO,Av:=t.Av}
abbrev k3(ac:ar)(gJ:u)(eA et jY hF mB abf adC ach:pl):du:=[sc,nZ,c (nE [wp,xV,w7,ac]),tx gJ,tx 25,xb,ww,c ac,eA,et,jY,hF,mB,abf,adC,ach,B]
abbrev aiO:cx:=oo aqM (.s _ (.s _ l)) l .C
def Li{a:aH}{o h l:u}{cy}{aom}(b:bc T bo o 68 [ĕ,.m h] a.G=c (.m l,u1))(br:nX cy aom sc):ny (aA o) (s8 68 aom (.m h)) cy a.G=c (.m l,u1):=zg (o2 (Aj br) nU oy) b
def Zd:∀(a)(al)(aD)(b3)(bV)(W)(o)(dJ:w1)(aG:o<100)(h gJ),aTF (b4 T oS aiO (k3 bV.aY gJ (nn 0) B B B B B B B) a.G) aVn:=by rw[mY a al aD b3 bV W o,mY dJ aG,mY h gJ,m2 dJ.bN,mY kW,m2 dJ.gT,mY fT,nD (Cf a dJ.eg.xs a.bs (aPq (wX a.bs 100000 zH) (tC 100) (Ð 100)) wH 9 nw nw) l br aV,aVK];have d5:=dJ.b9 wo (m4 (AJ [a.bs] nm (S+20) e));rw[s3 (PD aRw [] [] d5.eg.aF wH l br (yh (ŝ _) (wX a.ak.z 900000 zH (tC 100) ai (Ð 60) e (AM 20 aG) fT))) v ao lf eE abu,rf (d5.eg.aF.Ah ao (aQ.bF (qn eE))) gi aaX c9,m2 (d5.gs ao gi aaX (m4 (Ag [ao.z,(a.b9 _).ak.z] S (ai+10) S (ai+1) e c9)) (nb eE (m7 Dk (G3 l br)))),mY da];have y:c1 ((aRw).Ah ao) v (.cl v (mc l) 0 0):=.i9 v _ abu;rw[m2 (PN aRw wH l br),mY iC,m2 (I7 ((aRw).Ah ao) wH l br),mY amP,mX AF y.gs fun gs kX P P=>?_,mZ P,m1 (∀aj,gs≠nP aj) (by rw[mZ lf y,mY aj hd];subst hd;rw[oz abu cy Q h2,mZ abu,m2 (Q.cq.ah kX),mY h3,mZ kX Q,nf h3,mZ h3,mY h3];subst h3;cases h2),mY aIL,mX CA (ra v _ 0 0 0 _) _ _ (Fr uB (AB (Bh (Li (h:=9) aV e)) (C2 (A3 (o2 ((Gs nz (Fa _) (vx (aQW oy iC))).ah lf) (A3 (Ae (aQW oy amP) aVa)) (o2 nU (A3 oy) oy)))))) (oM (DK _ al W _) v 0 y (nM (oM Ew v) kX aIL) (m4 (AJ [al.z] 0 S e))) (da.up (m4 (AJ ua (nm+1) wP e)))]
def Pj:∀(a)(al)(aD)(b3)(bV)(W)(o)(dJ:w1)(aG:o<100)(h gJ)(b)(amL:b=1∨b=2),aTF (aVf oS aiO aQ6) aVn:=by injections a al aD b3 bV W o;rw[mY dJ aG,yb gJ b,mY amL,m2 dJ.bN,mY kW,m2 dJ.gT,mY fT,m2 dJ.eg.anx.1,mY ab0,m3 At (Md a dJ.eg.xs b3 dJ.eg.adN dJ.eg.adO (q8 dJ.eg.jK (Am [al.z,b3.z] (ai+1) 10 S 4 ai S e ab0 (Az aa))) a.bs (aPq (t5 (rV a.bs) (ai+10) 100000 yr) (qQ 20 100) (rg 100 20)) (h+3))];rintro g cw U dg aV;rw[aVK];have d5:=dJ.b9 cw (m4 (yv Ag [a.bs,cw] (S+20) wP e dg));rcases(Pf (a.b9 cw) d5.eg.aF nB g U.1 U.2 (yh (ŝ _) (wX a.ak.z 700000 yr (qQ 20 100) ai (rg 60 10) e (AM 20 aG) fT)))with(⟨v,ao,n,t,bj,gi,aaX,c9,np,iC,aS,cC,c4⟩);rw[m2 (d5.gs ao gi aaX (m4 (Ag [ao.z,(a.b9 cw).ak.z] S (ai+10) S (ai+7) e c9)) np),mY da,m1 (c1 ((a.b9 cw).Ah ao) v (.cl v vI (hB g.1) (hB g.2))) (.D v n t _ _ iC aS cC c4),mY y];have hc:ny oS (s8 73 1 (s8 74 0 sw)) aQ6 a.G=c (nE [oF,nE [pf vI,.m (hB g.1),.m (hB g.2)]],((a.b9 cw).Ah ao).G):=zg (z6 (zg aNK aV)) bj;rw[m1 (∀w,ny oS (on eq (.A 8) nr) aQ6 w=c (oX,w)) (fun w=>by clear hc;(rw[aRD amL amL])<;>exact uB),mY A_,m1 (∀w,ny oS (on lt (.A 8) uN) aQ6 w=c (pb,w)) (fun w=>by clear hc A_;(rw[aRD amL amL])<;>exact uB),mY Bw,mW CA (ra v vI (hB g.1) (hB g.2) 0 []) _ _ (BQ (A_ _) (Fr (Bw _) (AB (ni (oM G1 T) _ hc e) (C2 (A3 (o2 nz nz (o2 nU (A3 oy) oy))))))) (oM (DK _ al W _) v 0 y (oM Ew v [] _ iC (fun aj b=>Å)) (m4 (AJ [al.z] 0 S e))) (da.up (m4 (AJ ua (nm+1) wP e)))]
def Pi:∀(a)(al)(aD)(b3)(bV)(W)(o)(dJ:w1)(aG:o<100)(h gJ)(b)(ak1:b=3∨b=4),aTF (aVf oS aiO aQ6) aVn:=by injections a al aD b3 bV W o;rw[mY dJ aG,yb gJ b,mY ak1,m2 dJ.bN,mY kW,m2 dJ.eg.anx.1,mY ab0,m2 dJ.eg.ul,mY avj];have afC:=dJ.eg.adQ;rw[nD (Cf a dJ.eg.xs a.bs (aPq (wX a.bs 100000 yr) (qQ 20 100) (rg 100 20)) wH aD.z (m4 (Am [al.z,aD.z] (0+1) ai 1 S S ai e avj (AN afC))) (m4 (Am [al.z,aD.z] (ai+1) 1000 S 4 ai S e ab0 (Az afC)))) q Ab aV,aVK];have d5:=dJ.b9 wo (m4 (AJ [a.bs] nm (S+20) e));have K:∀n,nX wa 25 (Ą aD.au):=w5 ((EY (a.b9 n)).ah (pk (nF aQU) dJ.eg.eY));rw[m1 (oD (ny oS (sW p6) aQ6 a.G) (.m aD.z)) (by rw[m1 (ui lN wp=c (aD.au aR.aY)) (K8 (K a.bs)),mY hs];simp only[Dj,Bl];rw[m6 (((ui lN wp).au _)=_),hs];simp),mY ahz,m1 (pE u1 wp n'=c aD[q].aY) (by rw[Cq _ 25 _ q (K _)];simp[Ab]),mY fo,m1 (∀w,ny oS (on eq (.A 8) nr) aQ6 w=c (oX,w)) (fun w=>by clear ahz;(rw[aRD ak1 ak1])<;>exact uB),mY A_,m1 (∀w,ny oS (on lt (.A 8) uN) aQ6 w=c (oX,w)) (fun w=>by clear ahz A_;(rw[aRD ak1 ak1])<;>exact uB),mY Bw,m1 (∀w,ny oS (on lt (.A 8) (.m 5)) aQ6 w=c (pb,w)) (fun w=>by clear ahz A_ Bw;(rw[aRD ak1 ak1])<;>exact uB),mY CP,ou (LK d5.eg q aD[q] (rA Ab)) Av aaH,yq (d5.eg.cl q aD[q] (rA Ab)) P P mt aJ,mX CA (aD[q]) aRw _ (BQ (A_ _) (BQ (Bw _) (Fr (CP _) (C2 (Bm nz (aQW (aSR ahz) aV) fo))))) ?_ (d5.up (m4 (AJ ua nm wP e)))];revert Av aaH mt aJ;generalize aD[q]=d;rw[mY Av aaH mt aJ,yd d];subst mt;exact ni (DK _ al W _) _ aJ Av aaH
def Zb:∀(a)(al)(aD)(b3)(bV)(W)(o)(dJ:w1)(h gJ),aTF (aVf oS aiO (k3 bV.aY gJ (nn 5) B B B B B B B)) aVn:=by rw[mY a al aD b3 bV W o,mY dJ,mY h gJ,ou (LL dJ.eg) Av aaH,mX Bq dJ.eg.AV fun P P mt aJ=>?_,mX CA _ a _ (BQ uB (BQ uB (BQ uB (Fr uB (C2 (Aj e)))))) ?_ (rJ dJ.up),mZ dJ];revert Av aaH mt aJ;generalize bV=d;rw[mY Av aaH mt aJ,yd d];subst mt;exact ni (DK _ al W _) _ aJ Av aaH
abbrev alY:ar:=nE [nG,nE [.m 511,.m 2047,.m 2047],nr,ps]
def Xc{W:aR2}(b:W 0∧W 1∧W 2∧W 3∧W 4):∀q,q<5→W q:=BJ od (BJ rB (BJ tO (BJ vr (BJ oH KA))))
def Zf:∀(a)(al)(aD)(b3)(bV)(W)(o)(dJ:w1)(aG:o<100)(h gJ),aTF (aVf oS aiO (k3 bV.aY gJ (nn 6) B B B B B B B)) aVn:=by injections a al aD b3 bV W o;intro dJ aG;injections h gJ;rw[m2 dJ.bN,mY kW,m3 Ac (Cf a dJ.eg.xs a.bs (aPq (wX a.bs 100000 zH) (tC 100) (Ð 100)) wH 5 nw nw)];rintro q Ab aV;rw[aVK];have d5:=dJ.b9 wo (m4 (AJ [a.bs] nm (S+20) e));have c6:=d5.eg.aF.eX 1 _ e;have ev:=d5.eg.aF.eX 10 _ e;have fg:=d5.eg.aF.eX 11 _ e;rw[m1 (j_ _ al W asJ W.z) (oM (DK _ al W _) 1 0 (.iv c6) (nM (oM Ew 1) c6 (fun aj b=>Å)) (m4 (AJ [al.z] 0 S e))),mY jm];have lp:j_ aRw al W (ra 10 0 2047 2047 0 []) W.z:=DK _ al W _ 10 0 2047 2047 0 (.lk ev) (oM Ew 10 [] _ ev (fun aj b=>Å)) (m4 (AJ [al.z] 0 S e));have jD:j_ aRw al W (ra 11 508 2047 2047 0 []) W.z:=DK _ al W _ 11 508 2047 2047 0 (.D 11 B B 2047 2047 fg aQb .no .no) (oM Ew 11 [] _ fg (fun aj b=>Å)) (m4 (AJ [al.z] 0 S e));have dx:∀q:u,q<5→∃(aq:R)(d:aR),rm (pE u1 (nE [nr,nG,nr,nG,rn]) n') aq∧pE u1 (nE [nE [.m 11,nE [.m 508,.m 2047,.m 2047],nr,ps],nE [Ū,nE [nr,.m 2047,.m 2047],nr,ps],alY]) ē=c d.aY∧j_ aRw al W d W.z:=Xc (JD (Au 0 _ e e jD) (Au 1 _ e e lp) (Au 0 _ e e jD) (Au 1 _ e e lp) (Au 2 _ e e jm));rw[m3 At (dx q Ab)];rintro aq d j6 hM dt;rw[m1 (oD (aU T oS _ (k3 bV.aY gJ (nn 6) B B B B B B B) _) alY) (A3 (o2 nU (aVt aVa) (o2 nU (A3 oy) oy))),mY ei,mW CA d _ _ (BQ uB (BQ uB (BQ uB (BQ uB (AB (Bh ei) (Fr uB (AB (Bh (A3 (o2 (A3 (o2 nU (A3 (o2 nU nU (vx nU))) (o2 nU (A3 oy) oy))) (A3 (o2 nU (aVt aVa) (o2 nU (A3 oy) oy))) (vx nz)))) (C2 (Bm nz (Bm (A3 (o2 nU nU (Ae nU aVa))) (Li (h:=5) aV e) j6) hM))))))))) dt (d5.up (m4 (AJ ua nm wP e)))]
def KJ(cf)(l)(w):aNU (.ju nG)=c (us,w):=Iz ..
def OW{w}{cf}{y f}{cy}(i)(hg:aPd rj)(br:nX cy y (tx f)):aU T cf (on ne (.A y) Š) cy w=c (n5 (! i.dD),w):=by rw[aQL (Aj br) aTh,m1 (kz w rY wL=c i.dD) (by simp only[kz,jp,abO,acr,kC,aat,r.ado,fU,hg]),m5,aRY f1 aa]
def Nm{w:ch}{cf:iV}{y f:u}{cy:du}(i:nC)(hg:aPd rj)(br:nX cy y (tx f)):aU T cf (on eq (.A y) Š) cy w=c (qP i.dD,w):=by rw[aQL (Aj br) aTh,m1 (kz w rY wL=c i.dD) (by simp only[kz,jp,abO,acr,kC,aat,r.ado,fU,hg]),m5,aRY f1 aa]
def W2{w}{cf}{y f}{cy}(i)(hg:aPd rj)(br:nX cy y (tx f)):aU T cf (sW (.A y)) cy w=c (.m i.z,w):=by rw[m1 (lN w rY=c i) (K8 hg),mY hs,Dj,Aj br,m6 (((lN w rY).au _)=_),hs];rfl
abbrev kw(a:aH)(n:u)(i:nL):aH:=(a.b9 n).As (Ą i.au)
def FU(a)(b:Ú)(n)(i):nX Ĝ a.ad (Ą i.au):=GE (a.b9 n) _ (by rw[m6 (a.Ap≤a.ca.z),mW Ag [a.Ap,a.ca.z] S ai S 0 e (Az b)])
def Hj(a)(b:Ú)(n)(i)(W:nL)(g9)(aS:a.ca=v8::g9):nX Ĝ qR v8:=by rw[m2 (Lk (kw a n i) b 0),m5,tD aa.ah,m6 ((a.ca++[_])[0]?=_),aS];rfl
abbrev aGO:cx:=nA (.f_ (.hq aP5 (.aT qw (tX (sW qw)))))
def SX:∀(a:aH)(J:aVS)(i4:Ú)(W:nL)(g9:r c_)(aS:a.ca=v8::g9)(ew:qe W)(aHP:W.z<100)(h:u)(ac V:ar),∀(H f n:u)(i:nL)(ach:pl),H≤4→n+H<10000→i.z+H<1000→(aNQ i)→∃kG fJ,fZ (ñ oS aGO) 15 B (k5 vn 1 H) (aPj ac B B (c V) B sS ach) Ĝ=c (na,aPj ac B B (c V) B sS fJ,(kw a (n+H) kG).G)∧kG.z=i.z+H∧(aNQ kG):=by rw[ug,mY J i4];injections W g9;rw[mY aS ew aHP,yb ac V,mY H];induction H with|hf=>rw[mY f n i ach _ _ _ b,mW ⟨i,ach,ę,e,b⟩]|gk H ih=>rw[mY f n i ach bK ba aC b,m1 (0<W.z) (r.avG.2 ew),mY abr,nD (Cf (kw a n i) J n (m4 (oa Ag [H,n] ai 100000 aOX 10000 e ba)) wH W.z abr n_) q Ab aV,m1 (aOa 5 68 [ĕ,.m W.z] Ĝ=c (n',(kw a rU i).G)) aV,mY aos];have d9:ny oS (sW qw) (aPj ac B B (c V) B sS (nn f)) Ĝ=c (.m W.z,Ĝ):=(W2 _ (Hj a i4 n i W g9 aS) e).ah (y7 r.hN);rw[m1 (pE (kw a rU i).G qV n'=c W[q].aY) (by rw[n7 Cq q (Hj a i4 rU i W g9 aS)];simp[Ab]),mY fo,m2 (CG T oS aP5 (r_ 3 (tX (sW qw))) (aPj ac B B (c V) B sS (nn f)) Ĝ a.ad Ĝ (kw a rU i).G W[q].aY _ _ nz (FU a i4 n i) (Bm nz (aQW (aSR d9) aos) fo) (FU a i4 rU i) (by rw[r.hN,ya,mW (oa Ag [H,i.z] ai 1048576 aOX 1000 e aC)])),mY acB,m1 ((kw a rU i).G.b6 a.ad (.aw (ż++[W[q].aY]))=(kw a rU (i++[W[q]])).G) (nb (show ż++[W[q].aY]=(i++[W[q]]).au aR.aY by simp) (KX (a.b9 rU) _ _ (by rw[m6 (a.Ap≤a.ca.z),mW Ag [a.Ap,a.ca.z] S ai S 0 e (Az i4)]))),mY afH];rw[afH]at acB;rw[s3 (ih (f+1) rU (i++[W[q]]) (nn f) n_ (m4 (oa Ag [H,n] (nN+S) 10000 aOX 10000 e ba)) (tL r.gR r.lF (oa Ag [H,i.z] (nN+S) 1000 aOX 1000 e aC)) (fun j J=>by rw[nt (r.aeP.1 J)];rintro h';rw[m9];rintro h';rw[m8,mW b j h',Ų h',mW r.aij Ab])) kG fJ Q h2 h3,mX Au kG fJ ?_ (by rw[h2,r.gR,r.lF,mW BI [H,i.z] (nN+S) aOX e]) h3,GJ,rh (n+(H+1)) (rU+H) (BI [H,n] aOX (nN+S) e),mW (qm BO (AB (BX acB) sV)).ah Q]
def Ze:∀(a:aH)(al:n1)(aD:nL)(b3:aTv)(bV:aR)(W:nL)(o:u)(dJ:w1)(aG:o<90)(ew:W.z<10)(h:u),∃d z' r',aVf oS aiO (aPj bV.aY B B B B B B)=c (s6 d.aY,r',z'.G)∧aWs∧aVn∧z'.ds.z=a.ds.z:=by injections a al aD b3 bV W o;rw[mY dJ aG ew,aR5];have kW:=dJ.bN;have i4:=dJ.eg.Ap;rw[uy dJ.ca g9 aS,m1 (oD (aU T oS _ (aPj bV.aY B B B B B B) _) alY) (A3 (o2 nU (aVt aVa) (o2 nU (A3 oy) oy))),mY ei,m1 (aU T oS _ (aPj bV.aY B B (c alY) B B B) a.G=c (vS,(kw a _ []).G)) (by rw[C6,Ar,m6 (c (ar.D a.G.z,tE aTX)=_),Bj,Cc a _ (m4 (Ag [a.Ap,a.ca.z] S ai S 0 e (Az i4)))];rfl),mY aiu,m1 (∃i y n,dP _ (aA _) (.mn _ (Ğ (.bC (.aX _ qw _) (.bp _ (.s (.A 0) (Ğ Ç))) nr)) _) _ _=c (na,qm k3 _ y,Ĝ)∧wq 3∧(aNQ i)∧n≤a.bs+20) (by rw[nH bf W [],mX (rJ (CT ([]) B a.bs ?_ qg (fun j J=>by cases J))),mX (qm G0 _ _ (vx ((E8 ((OW _ (Hj a i4 _ _ W _ aS) e).ah (sh bf))).ah nU)) (Ů Fk 0)).ah ę,m1 ((W.au aR.aY).dD=Y) (by rw[mZ dJ ew aS,aRi W bf]),mY dw,nD (Cf (kw a a.bs []) dJ.eg.xs a.bs (aPq (wX a.bs 100000 zH) (tC 90) (Ð 100)) wH 4 nw nw) H bK aV,m1 (sb bc (h+5) _ _ (kw a _ _).G=c (.m H,(kw a _ _).G)) aV,mY aos,s3 (SX a dJ.eg.xs i4 W g9 aS bf n_ h bV.aY alY H 0 (a.bs+1) [] B n_ (m4 (Bu [o,a.bs,H] (nN+a8+1) 10000 zH (tC 90) ai (Ð 100) pR 4 e (AM 20 aG) kW bK)) (qC (by simp)) (fun j J=>by cases J)) kG fJ Q h2 h3,mX CT _ fJ (wo+H) ?_ (by rw[h2];simp;omega) h3 (m4 (Ag [a.bs,H] zq (S+20) nN 4 e bK)),mX (qm G0 _ _ (vx ((Go ((OW _ (Hj a i4 _ _ W _ aS) e).ah (sh dw))).ah ((AW (z6 nU)).ah aos))) (Ů Fk H)).ah Q]),mY kD,mX DX kD fun i y n aC alg lz ba=>?_];have d5:aRr hi (kw a n i) bV W pY:=(dJ.b9 n ba).As _;(have aeD:∃d z' r',b4 T oS (.s (ts (on eq aP5 Š) (nA (.bu (qL (.s (.bp 0 (.s (.A 1) (pH aUx (.ju nG) (.ju nG)))) (pH (qL (pH nr nr nr)) nr (qL (nA (.A 12))))))))) (nA (.bu (qL (.s (.bp 0 (.s (.A 1) (pH aUx (s8 8 1 (aRj (rq 16) 16 aP5)) (.ju nG)))) (pH (qL (pH nr nr nr)) nr (.af3 aP5))))))) (aPj bV.aY B B (c alY) B sS y) Ĝ=c (s6 d.aY,r',z'.G)∧aWs∧aVn∧z'.ds.z=a.ds.z:=by rw[mZ aC,nH bf i [],mZ alg lz];subst bf;rw[mX Uy (aTN (aRr Zg (kw a n [])) (aTe 90) (h+3)) fun d z' Q m0 cC c4 mp apD dt da=>?_,m1 (z'.ds.z=a.ds.z) (tg da.eg.dl dJ.eg.dl),mY hd,mX CT d _ _ (Fr (Nm [] (FU a i4 n _) e) (C2 ((A3 (o2 (zg (o2 nz (DI ..) (o2 (KJ ..) (KJ ..) oy)) Q) (A3 (o2 nU nU (vx nU))) (o2 nU (A3 (Ae nz oy)) oy))).ah ?_))) dt (da.up (m4 (AJ ua (nm+1) wP e))) hd,mZ dt Q,yd d];simp only[aR.m0,aR.cC,aR.c4,aR.eu,aR.e8]at m0 cC c4 mp apD;subst m0 cC c4 mp apD;rfl;rw[m1 ((i.au aR.aY).dD=Y) (by rw[mZ alg lz d5,aRi i bf]),mY dw,mX Uz (aTN (aRr Zc (kw a n i)) (aTe 90) i bf n_ lz (h+2)) fun aP ao d z' Q h2 m0 cC c4 mp apD dt da agK afD=>?_,m1 (z'.ds.z=a.ds.z) (tg da.eg.dl dJ.eg.dl),mY hd,m1 (aU _ _ (.go (rq 16) 16 aP5 _) (aPj bV.aY B B (c alY) B _ y) _=c (aOc i.au,Ĝ)) (by have hg:=FU a i4 n i;rw[m1 (kn Ĝ aP3=c (ż,c (a.ad,ż))) (by simp only[kn,hg]),mY lA,rc (nM (ni (w3 Ch oS)) i aR.aY (nF (.m j.v)) nz lA (by simp only[AY,hg];kernel_rfl!) (fun j P=>?_)),mZ P,mX Bm nz nU ?_,yd j,mW (sF B5)];unfold cS;rw[r.aeN];rfl),mY jr,m1 (nX z'.G a.ad (Ą i.au)) (by rw[m2 (Lk _ da.eg.Ap a.ca.z),m5];rw[agK,afD]at aa;rw[tD aa.ah,m6 ((a.ca++[_])[a.ca.z]?=_)];simp),mY aoV,m1 (∀l:du,nX l 14 nJ→qf (aU T oS _ l z'.G) (nE _)) (by rw[mY l br,m1 (j7 z'.G aP3=c ż) (aP2 j7 aoV),mY hs,Qz,Aj br,m6 ((ì (j7 z'.G vS))=_),hs,m6 ((if rH i.au _≤16384 then _ else _)=_),c0 (wT r.hN)]),mY aa3,mX CT d _ _ (BQ ((Nm _ (FU a i4 n i) e).ah (y7 dw)) (C2 ((A3 (Ae (zg (o2 nz (DI ..) (o2 (aQW (aSR jr) Q) (KJ ..) oy)) h2) (o2 (aVt aVa) nU (vx (aa3 _ e))))).ah ?_))) dt (da.up (m4 (AJ ua (nm+1) wP e))) hd,mZ dt Q h2,yd d];simp only[aR.m0,aR.cC,aR.c4,aR.eu,aR.e8]at m0 cC c4 mp apD;clear alg lz d5 bf dw agK afD jr aoV aa3;subst m0 cC c4 mp apD;rw[←Nk];rfl);rw[mX DX aeD fun d z' r' l1 aoW cG hd=>?_,mW CT d _ _ (BQ uB (BQ uB (BQ uB (BQ uB (AB (Bh ei) (BQ uB (AB (Bh aiu) (AB aC l1)))))))) aoW cG hd]
def Xd{W:aR2}(b:W 0∧W 1∧W 2∧W 3∧W 4∧W 5∧W 6∧W 7):∀q,q<8→W q:=BJ od (BJ rB (BJ tO (BJ vr (BJ x9 (BJ (nj oH) (BJ (oj oH) (BJ (Ĉ oH) KA)))))))
def WL:∀(a)(al)(aD)(b3)(bV)(W)(o)(dJ:w1)(aG:o<80)(ew:W.z<10)(h),∃d z',qf (rE 6 77 [ĕ,oW,xd,qV]) d.aY∧aWs∧hi z' al aD b3 bV W (o+4):=by injections a al aD b3 bV W o;rw[mY dJ aG ew,aR5,m2 dJ.bN,mY kW,nD (Cf a dJ.eg.xs a.bs (aPq (wX a.bs 100000 yr) (qQ 20 80) (rg 100 20)) wH 8 nw nw) l br aV,aVK];have d5:=dJ.b9 wo (m4 (AJ [a.bs] nm (S+20) e));rw[m1 (∃b:R,rm (pE u1 (nE [nr,nG,uN,Ç,.m 5,rn,.m 6,.m 7]) (.m l)) b∧aTF (b4 T oS aiO (k3 bV.aY qR (nn b) B B B B B B B) u1) (hi z' al aD b3 bV W (o+4))) (by rw[m1 (aTF (b4 T oS aiO (aPj bV.aY B B B B B B) u1) (hi z' al aD b3 bV W (o+4))) (by rw[m3 DX (aTN (aRr Ze aRw) (m4 (Ag ua (nm+1) 90 nm 80 e aG)) ew h),mY d z' r' Q h2 h3 _,mW CA d z' r' Q h2 h3]),mY h7];revert l;intro l br _;exact Xd (W:=fun l:u=>∃b:R,rm (pE u1 (nE [nr,nG,uN,Ç,.m 5,rn,.m 6,.m 7]) (.m l)) b∧aTF (b4 T oS aiO (k3 bV.aY qR (nn b) B B B B B B B) u1) (hi z' al aD b3 bV W (o+4))) (JE (Ad 0 e (aTN (Zd _ al aD b3) (aTe 80) h _)) (Ad 1 e (aOo (aTN (Pj _ al aD b3) (aTe 80) h _ 1) e)) (Ad 3 e (aOo (aTN (Pi _ al aD b3) (aTe 80) h _ 3) e)) (Ad 4 e (Pi _ al aD b3 bV W (o+1) d5 (aTe 80) h _ 4 aUr)) (Ad 5 e (Zb _ al aD b3 bV W pY d5 h _)) (Ad 2 e (É (aTN (Pj _ al aD b3) (aTe 80) h _ 2) e)) (Ad 6 e (aTN (Zf _ al aD b3) (aTe 80) h _)) (Ad 7 e h7)) l br),mY aix];obtain⟨b,fo,d,z',r',l1,dt,da⟩:=aix;rw[mX Au d z' ?_ dt da];have aHI:b4 T oS aqM [sc,nZ,c xd,aOn,B,B,B,B,B,B,B,B,B,B,B,B,B] a.G=c (s6 d.aY,r',z'.G):=AB (ni (oM G1 T) _ nz e) (AB (Bh (Bm (aVt (o2 nU nU (o2 nU nU (Ae nU aVa)))) (Li (h:=8) aV e) fo)) l1);simp only[Sz,aHI];rfl
abbrev iq(bl gJ:ar)(eA et jY hF mB abf adC ach:pl)(aE gT:ar):du:=[c aE,sc,nZ,c gT,c bl,tx 25,xb,c gJ,eA,et,jY,hF,mB,abf,adC,ach,B,B,B,B]
abbrev aEg:cx:=(.s (sG 9 (.bp 77 (.s (.A 1) (pH ph p6 uj)))) (nA (ts (on lM (rq 9) (aRj (rq 18) 18 uj)) (nA (.f_ (aOU 7 (.A 9)))))))
def ZU(a:aH)(b:Ú)(W:nL)(g9)(aS:a.ca=v8::g9):qh qR v8:=by rw[rc (Lk a b 0),aS];rfl
def hi.asw:∀{a}{al}{aD}{b3}{bV}{W}{o}(t:w1)(d)(dt:j_ a al W d W.z)(cu:d.v∉aSS)(ew:W.z+1≤o),∃z',a.G.b6 qR (.aw (aPQ++[d.aY]))=z'.G∧hi z' al aD b3 bV (W++[d]) o:=by injections a al aD b3 bV W o;intro t;injections d;rw[mY dt cu ew,uy t.ca g9 aS];have b7:fR a (oP ca (a.ca.b6 0 (Ą (W++[d]).au))):=tW;have aH9:dI (oP ca (a.ca.b6 0 (Ą (W++[d]).au))) [] []:=u7 t.eg.aF.le (by rw[m6 (a.Ap≤_)];simp only[t.eg.Ap];omega) t.eg.aF.eM t.eg.aF.ey t.eg.aF.jX e t.eg.aF.jW;rw[mX Ad (oP ca (a.ca.b6 0 (Ą (W++[d]).au))) ?_ ?_,m2 (Ach a t.eg.Ap 0 (Ą (W++[d]).au)),m5,←aa,r.ahL];rfl;exact{eg:=u7 (t.eg.bx aH9 b7 e e) e e e,ca:=⟨g9,by rw[m6 (a.ca.b6 0 _=_),aS];rfl⟩,acb:=t.acb,jK:=t.jK,ac9:=t.ac9,ads:=t.ads,bN:=t.bN,gT:=t.gT,hx:=fun q j Ab=>by have eZ:oG W (j∈W++[d]):=fun j J=>r.alA _ J;rw[y5 aaZ W.z];rw[r.jP aaZ]at Ab;rw[mW (t.hx q j Ab).bx b7 aWe eZ,u8 kf Ab,mZ b];simp only[r.gR,r.lF]at kf;rw[m1 (q=W.z) (m4 (y_ (Ag [W.z,q] ai S nN nm e kf) (Ag [W.z,q] S ai S ai e (x7 aaZ)))),mY aa,mZ aaZ kf,uM,aOj r.akX Ab];subst Ab;exact dt.bx b7 aWe eZ,cO:=nb r.ahL (r.anm.2 (AE t.cO qg (fun f a_ g U=>by rw[r.map_singleton,r.i7]at U;rw[n8,mW cu (U▸a_)]))),Av:=tL r.gR r.lF ew}
def Ry(h)(i):ar.kP h (cS i)=F:=qb i (by induction h using u.ae<;>rfl) f i (by rw[m6 ((ar.i6 h th&&ar.kP h (cS i))=F),ih,mZ ih];induction h using u.ae<;>rfl)
def ZT:∀(a:aH)(al:n1)(aD:nL)(b3:aTv)(bV:aR)(W:nL)(o:u)(dJ:w1)(aG:o<80)(ew:W.z<10)(h K:u)(aE gT:ar)(et:pl),∃ahf z' ae7,aVf ģ aEg (aTL (iq xd qV (nn K) et))=c (na,aTL (iq xd qV (nn K) ae7),z'.G)∧hi z' al aD b3 bV ahf (o+4)∧ahf.z≤W.z+1∧(qe ahf):=by injections a al aD b3 bV W o;intro dJ aG ew;injections h K aE gT et;rw[s3 (w8 WL b3 bV W o dJ aG ew h) d z1 Q dt d5];(have hd:z1.ds.z=a.ds.z:=tg d5.eg.dl dJ.eg.dl);rw[uy d5.ca g9 aS];have hg:=ZU z1 d5.eg.Ap W g9 aS;rw[m1 (ny ģ (aRj (rq 18) 18 uj) (aTL (iq xd qV (nn K) aR7)) z1.G=c (aOc W.au,z1.G)) (by rw[hd]at hg;rw[m1 (kn z1.G qV=c (aPQ,aOE qR)) (by simp only[kn,hg]),mY lA,rc (nM (ni (w3 Ch ģ)) W aR.aY (nF (.m j.v)) nz lA (by simp only[AY,hg];kernel_rfl!) (fun j P=>?_)),mZ P,mX Bm nz nU ?_,yd j,mW (sF B5)];unfold cS;rw[r.aeN];rfl),mY jr];(have aeC:ny ģ (on lM (rq 9) (aRj (rq 18) 18 uj)) (aTL (iq xd qV (nn K) aR7)) z1.G=c (n5 (! b1 (d.v∈aSS)),z1.G):=by rw[mX AX (aTo (y:=aOm) (by rw[mZ Q dt jr,yd d,mW (sF B5)])) jr ?_,m1 (jT z1.G aOm (aOc W.au)=c (b1 (d.v∈aSS))) (by rw[m1 ((Ś W.au).z≤dv) (by unfold cS;simp only[r.hN];rw[ya,mW Ag [W.z] S 1048576 nm 10 e ew]),mY aC,m6 ((if((ar.m d.v).i6 ja&&ar.kP ja (Ś W.au)&&b1 ((Ś W.au).z≤dv))=F then _ else _)=_),Ry,hZ aC,c0 (by rfl),uh,mW aon.2 (m7 OM)]),mY il,m6 ((jT z1.G aOm (aOc W.au)).au _=_),il];rfl);have amQ:ny ģ (.bp 77 (.s (.A 1) (pH ph p6 uj))) (aTL (iq xd qV (nn K) et)) a.G=c (d.aY,z1.G):=zg (o2 nz nz aNK) Q;rw[aPb d.v aSS];rw[hZ bK]at aeC;rw[mX CT W z1 aR7 (AB (Bh amQ) (BQ aeC sV)) d5 n_ ?_,mZ dJ ew dt d5 aS hg jr,n8];cases bK;rw[jq bK]at aeC;rw[m2 dJ.Av,mY aa0,nD (d5.asw d dt bK (m4 (Ag (rV W.z) nN (S+4) ai S e aa0))) bz h2 da,m1 (ny ģ (aOU 7 (.A 9)) (aTL (iq xd qV (nn K) aR7)) z1.G=c (.B,bz.G)) (by rw[←h2,hd];rw[hd]at hg;exact qm (oM CG T) nz hg nz hg (by rw[r.hN,ya];omega)),mY acB,mW CT (W++[d]) bz aR7 (AB (Bh amQ) (AB (pX D3 aeC (AB (BX acB) sV)) sV)) da (qC (by simp only[r.gR,r.lF])) rb]
def ZS(h)(aE gT):∀(H f:u)(a)(al)(aD)(b3)(bV)(W)(o)(eA et),w1→o+4*H<80→W.z+H<10→∃ahf z' ai3 ae7,fZ (ñ ģ aEg) 8 B (k5 vn 1 H) (aTL (iq xd qV eA et)) a.G=c (na,aTL (iq xd qV ai3 ae7),z'.G)∧hi z' al aD b3 bV ahf (o+4*H)∧ahf.z≤W.z+H∧(H≠0∨qe W→qe ahf):=by intro H;induction H with|hf=>rw[mY f a al aD b3 bV W o eA et t _ _,mW ⟨W,a,eA,et,ę,t,n_,oE (b.aEt (oE (b e)))⟩]|gk H ih=>rw[mY f a al aD b3 bV W o eA et t aG ew,mX DX (w8 ZT b3 bV W o t (m4 (oa Ag (rV H) S 80 (aSA 4) 80 e aG)) (m4 (oa Ag [H,W.z] ai 10 aOX 10 e ew)) h f aE gT et) fun as5 z1 ae7 Q d5 aC dw=>?_];(have hd:z1.ds.z=a.ds.z:=tg d5.eg.dl t.eg.dl);refine ES (ih (f+1) z1 al aD b3 bV as5 (o+4) (nn f) ae7 d5 (m4 (oa Ag (rV H) (ro (S+4) 4) 80 (aSA 4) 80 e aG)) (m4 (oa Am [H,W.z,as5.z] (a8+S) 10 aOX 10 a8 nN e ew aC))) fun aF8 bz d' ez h2 da ad3 aII=>?_;rw[hd]at h2;refine(nM EO d' ez ?_ (da.up (m4 (AJ (rV H) (ro (S+4) 4) (aSA 4) e))) (m4 (Am [H,W.z,as5.z,aF8.z] eK aOX a8 nN eK (a8+S) e aC ad3)) (nO (É aII dw)));simp only[GJ];exact(zr Q).ah h2
def Dx(cf)(l)(w):aNU Ņ=c (.D w.z,w++[m_]):=by simp only[C6,Ar]at⊢;rfl
def XJ(cf)(l)(w):aNU (.hw (nA .B))=c (.D w.z,w++[wV]):=q0 C6 (vx (IB ..))
def Fc(cf)(l)(w):aNU (.lK Y)=c (.D w.z,w++[nS]):=by simp only[IA]at⊢;rfl
def Xv(cf)(l)(w):aNU (.lK F)=c (.D w.z,w++[sj]):=by rw[IA]at⊢;rfl
def sa{cf}{h}{j}{l}{w a4}{y}{q x}{fs}(J:o5 (aQZ j) y)(bf:ń (tx q))(Ab:pO a4 (qI x fs))(b2:T.abp x h=F)(aC:fs.z<200):dP T cf (.dU pn h j) l w=c (na,l,a4.b6 q (.bS x aS6)):=ni (Ep T cf _ _) _ y q x fs J (Aj bf) Ab b2 aC
abbrev abD(p:c_)(ak:oB):ch:=[p,ace,aSu ak.au,.bE (aay 0 ak),wV,m_,m_,m_,nS,nS]
def C7{cf}{cE}{y}{l}{w}{f}(b:gz T w f cE=c y)(bf:ń (c f)):aNU (sO cE)=c (y,w):=by simp only[Dh,Bl,bf];rw[m6 ((gz _ w f _).au _=_),b];rfl
def Z_:∀(p)(ak)(h)(l)(br:l∉ak)(aC:rG ak.z),bc T bo nB 88 [oW,l.aY] (abD p ak)=c (.m ak.z,abD p (Ô ak)):=by injections p ak h l;rw[mY br aC,m1 (gz _ (abD p ak) _ "index"=c _) (Ba _ 1 0 _ _ _ e e e),mY a3];have a2:gz T (abD p ak) oW "rows"=c (.D 2):=Ba _ 1 0 _ _ _ e e e;rw[m1 (aU _ nT (.aX .gH qc _) [nJ,nJ,B] _=c (vq,abD p _)) (by rw[aQL nz (C7 a3 e),m1 (jT (abD p _) _ (.D 3)=c Y) (by rw[m6 ((nK ((l4 _&&l.aY.im _)=F) nJ)=_),F6,F4,c0 (by rfl),JB,cH br];rfl),m5,m6 ((sF jT).au _=_),aa];rfl),mY A_,m1 (aU _ nT _ [nJ,c l.aY,B] _=c _) (by rw[Dj,C7 a2 e,m6 (c (ar.m _,abD p _)=_),r.hN]),mY ip,m2 (sk (CG _ nT _ qc [nJ,nJ,nn ak.z] _ 2 _) l.aY (C7 a2 e) e nz e (by rw[r.hN,ya];omega)),mY lw,m1 ((abD p ak).b6 2 (.aw (ak.au _++[l.aY]))=[p,ace,aSu (Ô ak).au,n6,nx,nx,nx,nx,n6,n6]) (sh r.ahL),mY auw];rw[auw]at lw;rw[m1 (dP T nT (.jl _ (.A 1) ph) [nJ,c l.aY,nn _] [p,ace,nx,n6,nx,nx,nx,nx,n6,n6]=c (na,[nJ,nJ,nJ],abD p _)) (by rw[m1 (gz _ [p,ace,aSu (Ô ak).au,.bE (aay 0 ak),wV,m_,m_,m_,nS,nS] _ "index"=c _) (Ba _ 1 0 _ _ _ e e e),mY aGo,Lz,nz];simp only[ap.eO];rw[C7 aGo e];simp only[ap.eO];simp only[aam];rw[nz,m6 (ap.au _ (if(l4 l.aY&&(l.aY.im _&&b1 (qo aay 0 _<dv)))=F then _ else _)=_),F6,F4,Ol,hZ (qC (by rw[ya])),c0 (by rfl),m6 (c (ls.bU,_,r.b6 _ 3 (c_.bE (abn l.aY _ _)))=_),m2 (M_ l _ 0 br),m5,o6 u.aac,aa];rfl),mY aeX];have l1:b4 T nT aty [nZ,c l.aY,B] (abD p ak)=c (.bu (.m ak.z),[nZ,c l.aY,nn ak.z],abD p (Ô ak)):=BQ A_ (AB (Bh ip) (AB (BX lw) (AB aeX (C2 (Aj e)))));rw[Jl,l1];rfl
def Z'(p)(h):∀(i ak)(y),(ak++i).fF→ak.z+i.z<1000→∃V,fZ (aO4 n0 (nA (.f_ (.eT pn "put" (nA qc))))) 1 B (i.au a9.aY) [nZ,y] (abD p ak)=c (na,[nZ,V],abD p (ak++i)):=tV i i (by rw[mY ak y _ _,mW ⟨y,nb r.afl ę⟩]) l i (by intro ak y b aC;simp only[r.kZ]at aC;rw[m1 (l∉ak) (fun bK=>nW (r.anm.1 b) l bK l tG e),mY br,m1 (my T (abD p ak) oW "put"=c 88) (CX _ 1 0 88 _ _ e e e),mY bK];obtain⟨V,ei⟩:=ih (Ô ak) (c l.aY) (yg r.abP b) (tL r.gR r.lF (oa Ag [ak.z,i.z] zq 1000 tS 1000 e aC));rw[r.abP]at ei;exact⟨V,(qm BO (AB (BX ((Gs nz bK (Ae nz oy)).ah (Z_ p ak h l br (m4 (oa Ag [ak.z,i.z] S 1000 tS 1000 e aC))))) sV)).ah ei⟩)
def Act:∀(p:c_)(h:u),aOa 2 87 [oW] [p,rv 0]=c (.B,abD p kv):=by rw[mY p h,m1 (dP _ n0 _ _ [p,rT 0]=c (na,[nJ,B],[p,qI 0 [oV "rows" 2],nx])) (oR (pj sa q 1 x 0 fs [] (Dx ..) e e e)),mY s0,m1 (dP _ n0 (.dU _ "index" _) _ [p,rT 0,m_]=c (na,[nJ,B],[p,qI 0 [vu,wf],nx,n6])) (oR (nI (sa (q:=1)) x 0 fs [vu] (Fc ..) e e e)),mY s1,m1 (dP _ n0 (.dU _ "decls" _) _ [p,rT 0,m_,n6]=c (na,[nJ,B],[p,qI 0 [vu,wf,xN],nx,nS,nx])) (oR (pj sa q 1 x 0 fs [vu,wf] (XJ ..) e e e)),mY BS,m1 (dP _ n0 (.dU _ "bounds" _) _ [p,rT 0,m_,n6,nx]=c (na,[nJ,B],[p,qI 0 [vu,wf,xN,zL],nx,nS,wV,nx])) (oR (pj sa q 1 x 0 fs [vu,wf,xN] (Dx ..) e e e)),mY Cd,m1 (dP _ n0 (.dU _ "defaults" _) _ [p,rT 0,nx,n6,nx,m_]=c (na,[nJ,B],[p,qI 0 [vu,wf,xN,zL,Ő],m_,nS,wV,nx,nx])) (oR (pj sa q 1 x 0 fs [vu,wf,xN,zL] (Dx ..) e e e)),mY aeV,m1 (dP _ n0 (.dU _ "names" _) _ [p,rT 0,nx,nS,nx,m_,nx]=c (na,[nJ,B],[p,qI 0 [vu,wf,xN,zL,Ő,aPv],m_,n6,wV,nx,m_,nx])) (oR (pj sa q 1 x 0 fs [vu,wf,xN,zL,Ő] (Dx ..) e e e)),mY Eb,m1 (dP _ n0 (.dU _ "origins" _) _ [p,rT 0,m_,nS,nx,m_,nx,m_]=c (na,[nJ,B],[p,qI 0 [vu,wf,xN,zL,Ő,aPv,oV "origins" 8],nx,n6,wV,nx,m_,nx,n6])) (oR (pj sa q 1 x 0 fs [vu,wf,xN,zL,Ő,aPv] (Fc ..) e e e)),mY Ec,m1 (dP _ n0 (.dU _ "renamed" _) _ [p,rT 0,m_,nS,nx,nx,nx,m_,nS]=c (na,[nJ,B],[p,qI 0 [vu,wf,xN,zL,Ő,aPv,oV "origins" 8,oV "renamed" 9],nx,n6,wV,m_,m_,nx,n6,n6])) (oR (pj sa q 1 x 0 fs [vu,wf,xN,zL,Ő,aPv,oV "origins" 8] (Fc ..) e e e)),mY Ed,m1 (dP _ n0 (.dU _ "shaping" _) _ [p,rT 0,nx,nS,wV,nx,nx,m_,nS,nS]=c (na,[nJ,B],[p,qI 0 [vu,wf,xN,zL,Ő,aPv,oV "origins" 8,oV "renamed" 9,vG "shaping"],m_,n6,nx,m_,m_,nx,n6,n6])) (oR (pj sa q 1 x 0 fs [vu,wf,xN,zL,Ő,aPv,oV "origins" 8,oV "renamed" 9] nU e e e)),mY ap2,m1 (dP _ n0 (.dU _ "putting" _) _ [p,rT 0,nx,nS,wV,nx,nx,m_,nS,nS]=c (na,[nJ,B],[p,qI 0 [vu,wf,xN,zL,Ő,aPv,oV "origins" 8,oV "renamed" 9,vG "shaping",vG "putting"],m_,n6,nx,m_,m_,nx,n6,n6])) (oR (pj sa q 1 x 0 fs [vu,wf,xN,zL,Ő,aPv,oV "origins" 8,oV "renamed" 9,vG "shaping"] nU e e e)),mY awg,n4 (oR (tA (Z' p h kv []) B)) V ei,m1 (b4 _ _ atx _ _=c (na,[nJ,V],abD p kv)) (AB s0 (AB s1 (AB BS (AB Cd (AB aeV (AB Eb (AB Ec (AB Ed (AB ap2 (AB awg (AB ((ni (p5 DJ 1) _ _ _ (Di ..) e).ah ei) sV))))))))))),mY l1,SE,l1];rfl
def Gt{cf}{x ac}{Aa}{l}{w a4 dm}{vs}(b:o5 (h0 T cf Aa l w) vs)(Ab:T.ahD x=c (c ac))(hc:cf ac (.D a4.z::vs) (a4++[rv x])=c (.B,dm)):aNU (.lJ x Aa)=c (.D a4.z,dm):=by rw[rc (pk ta b)];simp only[ap.eO,Ab,hc,fU]
def KK{cf}{x}{l}{w}(Ab:T.ahD x=c B):aNU (.lJ x .C)=c (.D w.z,w++[rv x]):=by rw[aRz oy];simp only[ap.eO,Ab,r.ado,fU]
def K9:∀{cf}{f o j}{l}{w a4}{y}{q}{aq}{i}(J:o5 (aQZ j) y)(a_:o5 (å f a4) n3)(aG:o5 (å o a4) ē)(Ab:pO a4 uH)(aC:rG i.z),dP T cf (.jl f o j) l w=c (na,l,a4.b6 q aUP):=by rw[mY cf f o j l w a4 y q aq i,mY J a_ aG Ab aC];simp only[Lz,J];simp only[ap.eO];rw[a_];simp only[ap.eO];simp only[aam];rw[aG];simp only[ap.eO];rw[show lm a4 q ē y=c (a4.b6 q aUP)by delta lm;rw[Ab,mW c0 (qC (by rw[ya]))]];rfl
def XC(p dn dA dY dZ d0 d8 d1)(h):aOa 2 1 [oW,.m 5,og "E"] [p,ace,dn,dA,wV,dY,dZ,d0,d8,d1]=c (.D 10,[p,ace,dn,dA,oU [.B,.D 10],dY,dZ,d0,d8,d1,jM 1 5 "E" (-1) []]):=by rw[m1 (∀eN,aU _ n0 (.be _ "decls") [nJ,nn 5,ċ "E",eN] _=c (.D 4,[p,ace,dn,dA,wV,dY,dZ,d0,d8,d1])) (fun eN=>C7 (nv (Ba _ 1 0 _) e e e) e),mY a_,m1 (∀eN cL,aU _ n0 (.be _ "decls") [nJ,nn 5,ċ "E",eN] _=c (.D 4,[p,ace,dn,dA,wV,dY,dZ,d0,d8,d1,cL])) (fun eN cL=>C7 (Ba _ 1 0 _ _ _ e e e) e),mY ak6,m1 (aU _ _ _ [nJ,nJ,nJ,B] _=c (nG,[p,ace,dn,dA,nx,dY,dZ,d0,d8,d1])) (q0 Dj a_),mY aC,m2 (M7 h [p,ace,dn,dA,wV,dY,dZ,d0,d8,d1] nG (.m 5) "E"),mY Ab];have cu:ny n0 (.lJ 1 (pH (sW ß) qc ph)) [nZ,nn 5,ċ "E",B] [p,ace,dn,dA,wV,dY,dZ,d0,d8,d1]=c (.D 10,[p,ace,dn,dA,wV,dY,dZ,d0,d8,d1,jM 1 5 "E" (-1) []]):=Gt (Ae aC aNK) e Ab;rw[m2 (oR (sk (n7 CG qw _ [p,ace,dn,dA,nx,dY,dZ,d0,d8,d1,jM 1 5 "E" (-1) []] 4 _) (.D 10) (m7 ak6) e nz e)),mY lw];have l1:b4 T n0 aqO [nZ,nn 5,ċ "E",B] [p,ace,dn,dA,wV,dY,dZ,d0,d8,d1]=c (.bu (.D 10),[nZ,nn 5,ċ "E",tx 10],[p,ace,dn,dA,oU [.B,.D 10],dY,dZ,d0,d8,d1,jM 1 5 "E" (-1) []]):=AB (Bh cu) (AB (BX lw) (C2 (Aj e)));simp only[A_,l1];rfl
def Acg:∀(df c6 dn dA ek dY dZ d0 d8 d1 ev)(h),bc T bo nB 90 [tJ,oW] [df,c6,dn,dA,ek,dY,dZ,d0,d8,d1,ev,rv 2]=c (.B,[df,c6,dn,dA,ek,dY,dZ,d0,d8,d1,ev,arJ]):=by rw[mY df c6 dn dA ek dY dZ d0 d8 d1 ev h,m1 (dP _ nT (m7 .dU qc) _ [df,c6,dn,dA,ek,dY,dZ,d0,d8,d1,ev,rT 2]=c (na,[nJ,nJ],[df,c6,dn,dA,ek,dY,dZ,d0,d8,d1,ev,qI 2 [aPw]])) (oR (pj sa q 11 x 2 fs [] nz e e e)),mY s0,m1 (dP _ nT (.dU _ "deep" _) _ [df,c6,dn,dA,ek,dY,dZ,d0,d8,d1,ev,rT 2]=c (na,[nJ,nZ],[df,c6,dn,dA,ek,dY,dZ,d0,d8,d1,ev,qI 2 [aPw,sI]])) (oR (pj sa q 11 x 2 fs [aPw] nU e e e)),mY s1,m1 (dP _ nT (.dU _ "most_rounds" (.bL "MOST_ROUNDS" _)) _ [df,c6,dn,dA,ek,dY,dZ,d0,d8,d1,ev,rT 2]=c (na,[nJ,nZ],[df,c6,dn,dA,ek,dY,dZ,d0,d8,d1,ev,qI 2 [aPw,sI,sM "most_rounds" 200]])) (oR (pj sa q 11 x 2 fs [aPw,sI] (Di ..) e e e)),mY BS,m1 (dP _ nT (.dU _ "most_deep" (.bL "MOST_SHAPES" _)) _ [df,c6,dn,dA,ek,dY,dZ,d0,d8,d1,ev,rT 2]=c (na,[nJ,nZ],[df,c6,dn,dA,ek,dY,dZ,d0,d8,d1,ev,qI 2 [aPw,sI,sM "most_rounds" _,sM "most_deep" 40]])) (oR (nI (sa (q:=11)) x 2 fs [aPw,sI,sM "most_rounds" 200] (Di ..) e e e)),mY Cd,m1 (dP _ nT (.dU _ "lib" _) _ [df,c6,dn,dA,ek,dY,dZ,d0,d8,d1,ev,rT 2]=c (na,[nJ,nZ],[df,c6,dn,dA,ek,dY,dZ,d0,d8,d1,ev,qI 2 [aPw,sI,sM "most_rounds" _,sM "most_deep" _,("lib",.B)]])) (oR (pj sa q 11 x 2 fs [aPw,sI,sM "most_rounds" 200,sM "most_deep" 40] (IB ..) e e e)),mY aeV,m1 (b4 _ _ atw _ _=c (na,[nJ,nJ],[df,c6,dn,dA,ek,dY,dZ,d0,d8,d1,ev,arJ])) (AB s0 (AB s1 (AB BS (AB Cd (AB aeV sV))))),mY l1];simp only[SH,l1];rfl
def Aan:∀(df c6 dn dA ek dY dZ d0 d8 d1 ev fg:c_)(h:u),aOa 2 93 [nQ,tJ,Ç] [df,c6,dn,dA,ek,dY,dZ,d0,d8,d1,ev,fg,rv 3]=c (.B,[df,c6,dn,dA,ek,dY,dZ,d0,d8,d1,ev,fg,vV [sL,qH,vC,wg,w2,Ň,yG,sI,ym,ő,yZ pb,ō,aQT "",ŷ],sj,nS,nS,m_,m_,tw,m_]):=by rw[mY df c6 dn dA ek dY dZ d0 d8 d1 ev fg h,m1 (dP T n0 (.dU pn "host" qc) [px,ve,nn 4] [df,c6,dn,dA,ek,dY,dZ,d0,d8,d1,ev,fg,rv 3]=c (na,[px,ve,nn 4],[df,c6,dn,dA,ek,dY,dZ,d0,d8,d1,ev,fg,qI 3 [sL]])) (oR (pj sa q 12 x 3 fs [] nz e e e)),mY s0,m1 (dP T n0 (.dU pn "mode" ph) [px,ve,nn 4] [df,c6,dn,dA,ek,dY,dZ,d0,d8,d1,ev,fg,qI 3 [sL]]=c (na,[px,ve,nn 4],[df,c6,dn,dA,ek,dY,dZ,d0,d8,d1,ev,fg,vV [sL,qH]])) (oR (pj sa q 12 x 3 fs [sL] nz e e e)),mY s1,m1 (dP T n0 (.dU pn "rules" (.lK F)) [px,ve,nn 4] [df,c6,dn,dA,ek,dY,dZ,d0,d8,d1,ev,fg,vV [sL,qH]]=c (na,[px,ve,nn 4],[df,c6,dn,dA,ek,dY,dZ,d0,d8,d1,ev,fg,vV [sL,qH,vC],sj])) (oR (pj sa q 12 x 3 fs [sL,qH] (Xv ..) e e e)),mY BS,m1 (aO7 "assumed" [df,c6,dn,dA,ek,dY,dZ,d0,d8,d1,ev,fg,xB,r1] [df,c6,dn,dA,ek,dY,dZ,d0,d8,d1,ev,fg,vV [ī,qH,Ĭ,wg],sj,n6]) (oR (pj sa q 12 x 3 fs [sL,qH,vC] (Fc ..) e e e)),mY Cd,m1 (aO7 "known" [df,c6,dn,dA,ek,dY,dZ,d0,d8,d1,ev,fg,xB,sj,nS] [df,c6,dn,dA,ek,dY,dZ,d0,d8,d1,ev,fg,vV [ī,qH,Ĭ,Ŷ,w2],r1,n6,n6]) (oR (pj sa q 12 x 3 fs [sL,qH,vC,wg] (Fc ..) e e e)),mY aeV,m1 (aO7 "trail" [df,c6,dn,dA,ek,dY,dZ,d0,d8,d1,ev,fg,xB,sj,nS,nS] [df,c6,dn,dA,ek,dY,dZ,d0,d8,d1,ev,fg,vV [ī,qH,Ĭ,Ŷ,aOF,Ň],r1,n6,n6,nx]) (oR (pj sa q 12 x 3 fs [sL,qH,vC,wg,w2] (Dx ..) e e e)),mY Eb,m1 (aO7 "road" [df,c6,dn,dA,ek,dY,dZ,d0,d8,d1,ev,fg,xB,sj,nS,n6,nx] [df,c6,dn,dA,ek,dY,dZ,d0,d8,d1,ev,fg,vV [ī,qH,Ĭ,Ŷ,aOF,aQk,yG],r1,n6,nS,m_,nx]) (oR (pj sa q 12 x 3 fs [sL,qH,vC,wg,w2,Ň] (Dx ..) e e e)),mY Ec,m1 (aO7 "deep" [df,c6,dn,dA,ek,dY,dZ,d0,d8,d1,ev,fg,xB,sj,n6,n6,nx,nx] [df,c6,dn,dA,ek,dY,dZ,d0,d8,d1,ev,fg,vV [ī,qH,Ĭ,Ŷ,aOF,aQk,aSq,sI],r1,nS,nS,m_,m_]) (oR (pj sa q 12 x 3 fs [sL,qH,vC,wg,w2,Ň,yG] nU e e e)),mY Ed,m1 (aO7 "looks" [df,c6,dn,dA,ek,dY,dZ,d0,d8,d1,ev,fg,xB,sj,n6,n6,nx,nx] [df,c6,dn,dA,ek,dY,dZ,d0,d8,d1,ev,fg,vV [ī,qH,Ĭ,Ŷ,aOF,aQk,aSq,sI,ym],r1,nS,nS,m_,m_]) (oR (nI (sa (q:=12)) x 3 fs [sL,qH,vC,wg,w2,Ň,yG,sI] nU e e e)),mY ap2,m1 (dP _ nT _ _ [df,c6,dn,dA,ek,dY,dZ,d0,d8,d1,ev,fg,xB,sj,n6,n6,nx,nx,xC]=c (na,[nJ],[df,c6,dn,dA,ek,dY,dZ,d0,d8,d1,ev,fg,vV [sL,qH,vC,wg,w2,Ň,yG,sI,ym],r1,nS,nS,m_,m_,tw,nx])) (oR (pj sa q 18 x 4 fs [] (Dx ..) e e e)),mY aKw,m1 (m7 (ni bc)=c (.B,[df,c6,dn,dA,ek,dY,dZ,d0,d8,d1,ev,fg,xB,r1,n6,n6,nx,nx,xC,nx])) (by rw[m1 (b4 _ _ atu _ _=c (na,[nJ],[df,c6,dn,dA,ek,dY,dZ,d0,d8,d1,ev,fg,xB,r1,n6,n6,nx,nx,xC,nx])) (AB aKw sV),mY l1,SN,l1];rfl),mY ad9,m1 (dP _ (aA _) (.dU _ "notes" _) _ _=c (na,[nJ,ve,nn 4],[df,c6,dn,dA,ek,dY,dZ,d0,d8,d1,ev,fg,vV [ī,qH,Ĭ,Ŷ,aOF,aQk,aSq,sI,ym,ő],r1,n6,n6,nx,nx,xC,nx])) (oR (pj sa q 12 x 3 fs [ī,qH,Ĭ,Ŷ,aOF,aQk,aSq,sI,ym] (nI Gt a4 [df,c6,dn,dA,ek,dY,dZ,d0,d8,d1,ev,fg,xB,r1,n6,n6,nx,nx] dm [df,c6,dn,dA,ek,dY,dZ,d0,d8,d1,ev,fg,xB,r1,n6,n6,nx,nx,xC,nx] oy e ad9) e e e)),mY awg,m1 (aO7 "telling" [df,c6,dn,dA,ek,dY,dZ,d0,d8,d1,ev,fg,xB,sj,nS,nS,nx,nx,xC,nx] [df,c6,dn,dA,ek,dY,dZ,d0,d8,d1,ev,fg,vV [ī,qH,Ĭ,Ŷ,aOF,aQk,aSq,sI,ym,oV "notes" _,yZ pb],r1,n6,n6,m_,m_,tw,m_]) (oR (pj sa q 12 x 3 fs [sL,qH,vC,wg,w2,Ň,yG,sI,ym,ő] (Fv ..) e e e)),mY aKX,m1 (aO7 "twin" [df,c6,dn,dA,ek,dY,dZ,d0,d8,d1,ev,fg,xB,sj,nS,nS,m_,nx,xC,nx] [df,c6,dn,dA,ek,dY,dZ,d0,d8,d1,ev,fg,vV [ī,qH,Ĭ,Ŷ,aOF,aQk,aSq,sI,ym,oV "notes" _,yZ vq,ō],r1,n6,n6,nx,m_,tw,m_]) (oR (pj sa q 12 x 3 fs [sL,qH,vC,wg,w2,Ň,yG,sI,ym,ő,yZ pb] (IB ..) e e e)),mY aKY,m1 (aO7 "missing" [df,c6,dn,dA,ek,dY,dZ,d0,d8,d1,ev,fg,xB,sj,nS,nS,nx,nx,xC,nx] [df,c6,dn,dA,ek,dY,dZ,d0,d8,d1,ev,fg,vV [ī,qH,Ĭ,Ŷ,aOF,aQk,aSq,sI,ym,oV "notes" _,yZ vq,ō,aQT ""],r1,n6,n6,m_,m_,tw,m_]) (oR (pj sa q 12 x 3 fs [sL,qH,vC,wg,w2,Ň,yG,sI,ym,ő,yZ pb,ō] (DI ..) e e e)),mY Fl,m1 (aO7 "at" [df,c6,dn,dA,ek,dY,dZ,d0,d8,d1,ev,fg,xB,sj,nS,nS,nx,nx,xC,nx] [df,c6,dn,dA,ek,dY,dZ,d0,d8,d1,ev,fg,vV [ī,qH,Ĭ,Ŷ,aOF,aQk,aSq,sI,ym,oV "notes" _,yZ vq,ō,("missing",uW),ŷ],r1,n6,n6,m_,m_,tw,m_]) (oR (pj sa q 12 x 3 fs [sL,qH,vC,wg,w2,Ň,yG,sI,ym,ő,yZ pb,ō,aQT ""] nU e e e)),mY ap1,m1 (b4 _ _ atv _ _=c (na,[nJ,nJ,nJ],[df,c6,dn,dA,ek,dY,dZ,d0,d8,d1,ev,fg,xB,r1,n6,n6,nx,nx,xC,nx])) (AB s0 (AB s1 (AB BS (AB Cd (AB aeV (AB Eb (AB Ec (AB Ed (AB ap2 (AB awg (AB aKX (AB aKY (AB Fl (AB ap1 sV)))))))))))))),mY l1];simp only[SK,l1];rfl
def Acf(df c6 dn dA ek dY dZ d0 d8 d1 ev fg:c_)(cf:iV)(l:du)(b:nX l 3 px):dP T cf (.dU qw "telling" oX) l [df,c6,dn,dA,ek,dY,dZ,d0,d8,d1,ev,fg,vV [sL,qH,vC,wg,w2,Ň,yG,sI,ym,ő,yZ pb,ō,aQT "",ŷ],sj,nS,nS,m_,m_,tw,m_]=c (na,l,[df,c6,dn,dA,ek,dY,dZ,d0,d8,d1,ev,fg,zV,sj,nS,nS,m_,m_,tw,m_]):=oR (ni (Ep T cf _ _ _) oX 12 3 [sL,qH,vC,wg,w2,Ň,yG,sI,ym,ő,yZ pb,ō,aQT "",ŷ] (Fv ..) (Aj b) e e)
def Aaw(df c6 dn dA ek dY dZ d0 d8 d1 ev fg)(h):bc T bo nB 52 [nQ] [df,c6,dn,dA,ek,dY,dZ,d0,d8,d1,ev,fg,zV,sj,nS,nS,m_,m_,tw,m_]=c (.B,[df,c6,dn,dA,ek,dY,dZ,d0,d8,d1,ev,fg,zV,u_ [yF],nS,nS,m_,m_,tw,m_,ä]):=by rw[m1 (dP _ nT (.jl (.be _ "rules") (.bL "RULE_DEFERRED" _) _) _ [df,c6,dn,dA,ek,dY,dZ,d0,d8,d1,ev,fg,k6 _ 0 0 _,r1,n6,n6,m_,m_,xC,nx]=c (na,[nJ],[df,c6,dn,dA,ek,dY,dZ,d0,d8,d1,ev,fg,zV,u_ [yF],n6,n6,nx,nx,xC,nx,rT 5])) (oR (nI (nI K9 q 13 aq 2) i [] a4 [df,c6,dn,dA,ek,dY,dZ,d0,d8,d1,ev,fg,k6 _ 0 0 _,r1,nS,nS,nx,nx,tw,m_,rT 5] (KK e) (C7 (Ba _ 12 3 _ _ _ e e e) e) (Di ..) e)),mY k,m1 (b4 _ _ atB _ _=c (na,[nJ],[df,c6,dn,dA,ek,dY,dZ,d0,d8,d1,ev,fg,k6 _ 0 0 _,r1,n6,n6,nx,nx,xC,nx,rT 5])) (AB k sV),mY l1];simp only[Sk,l1];rfl
def Aax(df c6 dn dA ek dY dZ d0 d8 d1 ev fg)(h):bc T bo nB 67 [nQ] [df,c6,dn,dA,ek,dY,dZ,d0,d8,d1,ev,fg,zV,u_ [yF],nS,nS,m_,m_,tw,m_,ä]=c (.B,[df,c6,dn,dA,ek,dY,dZ,d0,d8,d1,ev,fg,zV,u_ [yF,ŏ],nS,nS,m_,m_,tw,m_,ä,rv 6]):=by rw[m1 (dP _ nT (.jl (.be _ "rules") (.bL "RULE_OBJECT" _) _) _ [df,c6,dn,dA,ek,dY,dZ,d0,d8,d1,ev,fg,k6 _ 0 0 _,r1,n6,n6,nx,nx,xC,nx,ä]=c (na,[nJ],[df,c6,dn,dA,ek,dY,dZ,d0,d8,d1,ev,fg,zV,u_ [oV 2 _,ŏ],n6,n6,nx,nx,tw,nx,rT 5,rT 6])) (oR (nI (nI K9 q 13 aq 5) i [yF] a4 [df,c6,dn,dA,ek,dY,dZ,d0,d8,d1,ev,fg,k6 _ 0 0 _,r1,nS,nS,m_,m_,xC,m_,rT 5,rT 6] (KK e) (C7 (Ba _ 12 3 _ _ _ e e e) e) (Di ..) e)),mY k,m1 (b4 _ _ atA _ _=c (na,[nJ],[df,c6,dn,dA,ek,dY,dZ,d0,d8,d1,ev,fg,k6 _ 0 0 _,r1,n6,n6,nx,nx,xC,nx,rT 5,rT 6])) (AB k sV),mY l1];simp only[Ss,l1];rfl
def Aav(df c6 dn dA ek dY dZ d0 d8 d1 ev fg)(h):bc T bo nB 66 [nQ] [df,c6,dn,dA,ek,dY,dZ,d0,d8,d1,ev,fg,zV,u_ [yF,ŏ],nS,nS,m_,m_,tw,m_,ä,rv 6]=c (.B,[df,c6,dn,dA,ek,dY,dZ,d0,d8,d1,ev,fg,zV,u_ [yF,ŏ,oV 14 22],nS,nS,m_,m_,tw,m_,ä,rv 6,rv 7]):=by rw[m1 (dP T nT (.jl (sO "rules") (.bL "RULE_WORD" (.m 14)) (.lJ 7 .C)) [px] [df,c6,dn,dA,ek,dY,dZ,d0,d8,d1,ev,fg,zV,u_ [yF,ŏ],nS,nS,m_,m_,tw,m_,ä,rv 6]=c (na,[px],[df,c6,dn,dA,ek,dY,dZ,d0,d8,d1,ev,fg,zV,u_ [yF,ŏ,oV 14 22],nS,nS,m_,m_,tw,m_,ä,rv 6,rv 7])) (oR (nI (nI K9 q 13 aq 14) i [yF,ŏ] a4 [df,c6,dn,dA,ek,dY,dZ,d0,d8,d1,ev,fg,zV,u_ [yF,ŏ],nS,nS,m_,m_,tw,m_,ä,rv 6,rv 7] (KK e) (C7 (Ba _ 12 3 _ _ _ e e e) e) (Di ..) e)),mY k,m1 (b4 T nT atC [px] [df,c6,dn,dA,ek,dY,dZ,d0,d8,d1,ev,fg,zV,u_ [yF,ŏ],nS,nS,m_,m_,tw,m_,ä,rv 6]=c (na,[px],[df,c6,dn,dA,ek,dY,dZ,d0,d8,d1,ev,fg,zV,u_ [yF,ŏ,oV 14 22],nS,nS,m_,m_,tw,m_,ä,rv 6,rv 7])) (AB k sV),mY l1];simp only[Sr,l1];rfl
def AbS{cf:iV}{d o:dz}{l:du}{w a4 dm:ch}{p:ar}{q:R}{i:nC}(Q:o5 (aQZ d) p)(h2:å o a4=c (n',dm))(h3:j7 dm p=c i)(h4:(b1 Ĺ&&g2 q)=F):aNU (.ady d o)=c (u' i.gu q.es,dm):=by rw[rc (pk ta Q)];simp only[ap.eO,h2,asv,ED,h3,h4,fU,ap.ji]
abbrev al2(xs:nC):aH:={bs:=0,xs:=xs,ak:=kv,afK:=aay 0 kv,ds:=[],dK:=[],iL:=[],bw:=[],ey:=[],fO:=[],eM:=[],apL:=[],gU:=[],e5:=0,c2:=0,k1:="",abj:=[],fQ:=[],lZ:=[],Ap:=0,ca:=[]}
abbrev afj(aE:ar)(gd fJ eN:pl):du:=[c aE,gd,fJ,eN,B,B,B,B,B,B,B,B,B,B,B,B,B,B,B,B]
abbrev aEi:cx→cx→cx|.s s1 (.s BS (.s Cd (.s aeV (.s Eb (.s Ec (.s Ed (.s ap2 _))))))),g=>.s s1 (.s BS (.s Cd (.s aeV (.s Eb (.s Ec (.s Ed (.s ap2 g)))))))|f,_=>f
def ZY:∀(cL:n1)(h:u)(g:cx),b4 T wK (aEi agh g) (afj r7 B B B) []=b4 T wK g (afj r7 sc nZ px) ((al2 ((cL.gu 63).au .m)).g8.gu 23):=by intro cL h g;(have hc:ny wK (aRj (.A 19) 19 (.ady (.A 0) (.m 63))) (afj r7 B B B) []=c (u' (cL.gu 63).au .m,[]):=by rw[m1 (ny wK (.ady (.A 0) (.m 63)) (afj r7 B B B) []=c (u' (cL.gu 63).au .m,[])) (by rw[m2 (Ů DG 63),mY aHA,r.apz,mW AbS nz nU e (q0 (sr (nc 63) (ob 63) e) aHA)]),mY hs,mW (sb (ni (oM Ch T)) (cL.gu 63) ar.m ar.m hs e e (fun j P=>nz))]);rw[m1 (ny wK (.hw (.s nr (nA (aRj (.A 19) 19 (.ady (.A 0) (.m 63)))))) (afj r7 B B B) []=c (ĕ,[oU [nr,u' (cL.gu 63).au .m]])) (q0 C6 (Ae nU (aSR hc))),mY aV];generalize avp:(cL.gu 63).au ar.m=xs at aV⊢;rw[m1 (ny wK (.lJ 0 .C) (afj r7 sc B B) [oU [nr,oh xs]]=c (oW,abD (oU [nr,oh xs]) kv)) (Gt oy e (Act _ (h+2))),mY bj,m1 (aU T wK (.bp 1 (pH ph (.m 5) (og "E"))) (afj r7 sc nZ B) (abD (oU [nr,oh xs]) kv)=c (.D 10,(al2 xs).g8.gu 11)) ((xY nz (o2 nU (DI ..) oy)).ah (qm XC (h+2))),mY cV,m1 (aU T wK (.lJ 2 (nA ph)) (afj r7 sc nZ B) ((al2 xs).g8.gu 11)=c (tJ,(al2 xs).g8.gu 12)) (Gt (vx nz) e (n7 (qm Acg) (h+3))),mY aG4,m2 (Gt (x:=3) (Ae aG4 (vx (Ao T wK 4 _ _))) e (ni (qm Aan) (h+2))),mY gp,mW AB (Bh aV) (AB (Bh bj) (AB (BX cV) (AB (Bh gp) (AB (nv (ni (qm Acf)) e) (AB (BX ((xY nz oy).ah (ni (qm Aaw) (h+3)))) (AB (BX ((xY nz oy).ah (ni (qm Aax) (h+3)))) (AB (BX ((xY nz oy).ah (n7 (ni (ĳ Aav)) (h+3)))) e)))))))]
abbrev aor:u→cx→cx|0,g=>g|nB,.s _ g=>aor h g|_+1,.C=>.C
def AcX(cL:n1)(ars:cL.z≤63):akz (al2 (cL.au .m)) [] [] [] 0:={aF:={kh:=e,eX:=fun q l b=>b,cO:=by rw[m6 kv.fF];decide,aS:=aOu,eM:=e,ey:=e,jX:=r.ahO,fO:=e,ks:=fun f g y d=>aQy d,jW:=R.kH _},ca:=e,Ap:=e,xs:=qS cL,adN:=e,fQ:=e,eY:=e,jK:=e,ul:=e,adQ:=e,dl:=e,adO:=fun g b=>aQy b,up:=fun aq aP b=>by rw[Đ],cl:=fun aq d b=>by rw[Đ],aar:=fun aq a0 b=>by rw[m1 (p7 ([]:r lr) a0) b,mY h'];simp at h',cc:=e,eo:=e,abB:=e,bd:=(By e e e (by rw[m6 (rH cL.au ar.m≤63)];rw[r.hN]at⊢;exact ars)),bN:=qC (by rw[m6 (0≤_)]),np:=fun q n b=>by rw[m1 (pO kv v3) b,mY h',m2 (r.lI h'),m5];revert aa;unfold kv;exact yK,gT:=by rw[m6 (kv.z≤_)];decide}
def Q6(f g:u)(w):lY w .e_ th y9=c (vl (f+g)):=by rw[m6 (nJ=_)];simp only[R.aDU]at⊢
def AcI:∀(cL:n1)(h),∃(a:aH)(al:n1)(aD:nL)(b3:aTv)(bV:aR)(W:nL)(o:u)(eA et:pl),b4 T ģ agh (afj r7 B B B) []=b4 T ģ (aor 12 agh) (iq xd qV eA et B B B B B B r7 nQ) a.G∧w1∧o≤40∧ud W.z∧qe W:=by rw[đ cL];rcases(Ac1 ((al2 ((cL.gu 63).au .m)).g8.gu 23) (al2 ((cL.gu 63).au .m)) e e (AcX _ (by rw[r.aiG]at⊢;exact Ag [m7 ab8] S 63 S 63 e (m7 u.alB))) e h)with(⟨z1,al,aD,b3,bV,ei,eg,agK,⟨aoT,agB,auE,auF⟩,kW,aIK,fT⟩);rw[m2 eg.Ap,mY i4,m1 (z1.ad=aT4) (by unfold aH.ad;rw[agK]at⊢;rfl),mY aHY];have hk:aRr hi (z1.As m_) bV [] 0:=have b7:fR z1 (z1.As m_):=tW;{eg:=u7 (eg.bx (eg.aF.As _) b7 e e) e e e,ca:=⟨[],by rw[m6 (z1.ca++[_]=_)];rw[agK]at⊢;rfl⟩,acb:=fun q n b=>eh b (aIK q n),jK:=by rw[m6 (z1.dK.z≤_)];rw[aoT]at⊢;decide,ac9:=by rw[m6 (z1.iL.z≤_)];rw[agB]at⊢;decide,ads:=by rw[m6 (z1.bw.z≤_)];rw[auE]at⊢;decide,bN:=by rw[m6 (z1.bs≤_),mW kW],gT:=by rw[m6 (z1.ak.z≤_),mW fT],hx:=fun q d b=>by rw[Đ],cO:=r.ahO,Av:=rb};rw[m1 (∃ael:r _,(z1.As m_).xs=ael.au _) eg.xs,mY avp,o8 avp,mZ avp];rintro ael aM0;rw[m1 (aU _ ģ _ (iq xd ĕ B B B B B B B B r7 nQ) _=c _) (by rw[Dx,Bj,Cc z1 _ (m4 (Ag [z1.Ap,z1.ca.z] S ai S 0 e (Az i4))),aHY]at⊢),mY aiu,m1 (nX (z1.As m_).G 0 (oU [.m z1.bs,oh z1.xs])) (BH _),mY BH,m1 (rm (lY (z1.As m_).G _ _ Ū) (ob (z1.xs.z/10))) (by rw[m2 (DG z1.xs.z (m4 (aUL auF))),mY s1,m1 (g2 (nc 10)=F) nw,mY BS];rw[FI,NR,c0 (by rw[s1,BS]at⊢;rfl),R.aKC]at⊢;rfl),mY aIf,m1 (∃t:u,t≤3∧∀l:du,nX l 1 sc→ny ģ (.anh (rk abo (sW (x1 nG)) Ū) uN) l (z1.As m_).G=c (.m t,(z1.As m_).G)) (by rw[mX Ad (if nc 3<ob (z1.xs.z/10)then 3 else z1.xs.z/10) (by split;rw[mW u.kH 3,mW R.adt.1 (aOw R.mO.1)]) (fun l br=>?_),m1 (ny ģ (sW (.aT _ nG)) l (z1.As m_).G=c (xk,(z1.As _).G)) (by rw[Dj,Bm (Aj br) nU (y:=oh z1.xs) (pX Ok BH e)]at⊢;rfl),mY aC,aRz (B7 aC nU aIf)];simp only[ap.eO,ED,Ao];split<;>rfl),mY arD,p4 arD,mZ arD];rintro t cG arD;rw[m3 ES (n7 (ZS h r7 nQ (3+t) 0 _ al aD) 0 B B hk (m4 (Ag [t] (0+(tz 4 (3+S))+1) 80 (su 4) (qQ 4 3) e (AM 4 cG))) (by simp;exact Ag [t] (3+S+1) 10 S 3 e cG))];rintro W bz ai3 ae7 kD da aC dw;rw[m1 (bz.ds.z=z1.ds.z) (by simp only[da.eg.dl,eg.dl]at⊢),mY hd,mX Ul _ al aD _ _ W _ ai3 ae7 ?_ da (m4 (Ag [t] (0+(tz 4 (3+S))) 40 (su 4) (qQ 4 3) e (AM 4 cG))) (by simp at aC;exact Am [t,W.z] ai 6 S 3 ai (3+S) e cG aC) (dw (aQ.bT (m4 (yP (Ag [t] 1 0 (3+S) 0 e (Az dO)))))),m1 (ny (aA _) (.bp _ (.s (.A 1) (Ğ ph))) (m7 (afj r7) px) _=c _) (zg aNK ei),mY aV,m1 (agh=aEi agh (aor 8 agh)) e,mY U];rw[U,ZY cL (h+2) (aor 8 agh)]at⊢;rw[mX AB (Bh aV) (AB (qm G1 _ (A3 (o2 (aTx nz aRZ) (aTx nz (D4 ..)) oy)) e) (AB (Bh aiu) (AB ((qm G0 _ _ (vx (B7 nU (arD _ e) (Q6 3 t _))) (Fk _ (m4 (Ag [t] (3+S+1) 2000 S 3 e cG)))).ah kD) ?_)))];rw[hd]at⊢;rfl
def Ip(a:aH)(aq)(b:xj≠a.Ap):a.G[aNY]?=Ã a.ca:=by rw[m1 (a.gl≠aNY) (by unfold aH.gl;split<;>omega),mY iN,aPW,r.agx iN,r.aih (qC (by rw[aT8 Bs Ca])),uh,aT8 Bs Ca,mW (q3 (Br [aNY-qR,aq,a.ds.z] S ai (S+ġ) (ġ+ai) e) (AJ [aNY-qR,aq,a.ds.z] ġ (ġ+ai) e))]
structure abN(a:aH)(M:pu)(al:n1)(W:nL)(x:u):Prop where
 aF:Ĳ
 un:yS
 abB:Ù
 eo:a.e5=0
 cc:aQK x
 rw:a.ak.z+(x+x+x+x)<890000
 hx:∀(q:u)(d:aR),op W d→j_ a al W d q
 Av:ud W.z
 t0:nX a.ca 0 v8
 t1:1≠a.Ap
def abN.i3{a}{M}{al}{W}{x}(n:abN a M al W x):qh qR v8:=(Ip a 0 n.t1).ah n.t0
def Qn(q)(b:q≤5):iI q≤304:=by rw[m1 (q=0∨q=1∨q=2∨q=3∨q=4∨q=5) (m4 (Yo q b)),m5,om];rcases aa with e|e|e|e|e|e<;>decide
def Acv(k:bv):k.Bf≤4:=by induction k using bv.ae<;>simp only[Ex,Ey,Ez]<;>(try split)<;>omega
def RE:∀{a}{M}{al}{W}{x}(n:abN a M al W (x+304))(k v)(hs:k∈W)(aS:v∈W)(ac)(b2:td 152),∃z' fA,qf (bc T bo ac 94 [nQ,.m k.v,.m v.v] a.G) (n5 (iE k v))∧abN z' fA al W x∧abg z' fA k.v v.v∧aNT 304∧aPk:=by injections a M al W x;intro n;injections k v;intro hs aS;injections ac;rw[mY b2,n4 (r.ajW.1 hs) q Ab,n4 (r.ajW.1 aS) aq cQ,u8 kf Ab,u8 aM2 cQ];have Aa:=n.hx q k Ab;have akS:=n.hx aq v cQ;have aa0:=n.Av;rw[pv AC Aa.dT.A' vs asD P,pv AC akS.dT.A' dj aE7 P];have g_:=Aa.An;have kE:=Aa.dh;have afI:=Qn q (m4 (Am [q,W.z] S 5 nm ai ai 6 e kf aa0));rw[m2 (Acv (cN a v.v)),mY aJj];have js:=n.cc;have kX:=n.rw;refine Dr (RF a (ac-8*sd k.v-40) k.v v.v M n.aF _ _ vs dj aE7 n.un n.abB (m4 (Yp (u.eG kE afI) js)) (m4 (Yq (u.eG kE afI) kX)) (by rw[n.eo];unfold bv.ha;exact Yr g_ kf aa0 aJj) (m4 (Am [v4 k.v,iI q] (S+1) 3980 S ai ai 304 e kE afI))) fun z' fA Q h2 h3 h4 h5=>?_;rw[rh (ac-8*sd k.v-40+8*sd k.v+40) ac (Yk (u.eG (u.adL (u.aiL 8 (Pa g_ kf aa0)) 40) b2)),nv Cg aE7,←E6 akS.dT Aa.dT]at Q;have amN:=h3.bx (h:=304) (m4 (u.eG kE afI));rw[m2 h3.le,mY b7,ou (h3.ca 0 _ n.t1 n.t0) d5 da,m2 amN.cc,mY ad3,m2 amN.gT,mY afG,mX BU z' fA Q ?_ h5 amN h4,mW {aF:=h2,un:=fun aj a0 b=>n.un aj a0 (uq h3.ds b),abB:=h3.gU.ah n.abB,eo:=h3.e5.ah n.eo,cc:=m4 (oa A5 [a.c2,↑x,z'.c2] (gY+d4) 20000 (b5+(d4+304)) 20000 gY (b5+304) e js ad3),rw:=m4 (oa Am (aR0 x z'.ak.z) (a8+(ai+ai+ai+ai)) 890000 (S+(ai+304+(ai+304)+(ai+304)+(ai+304))) 890000 a8 (sn S 4 304) e kX afG),hx:=fun q d b=>(n.hx q d b).bx b7 h3.ahF aQD,Av:=n.Av,t0:=d5,t1:=da}]
def abN.asI{a}{M}{al}{W}{x c'}(n:abN a M al W x)(b:c'≤x):abN a M al W c':={aF:=n.aF,un:=n.un,abB:=n.abB,eo:=n.eo,cc:=q8 n.cc (A5 [↑c',↑x,a.c2] (gY+b5+1) 20000 b5 d4 (gY+d4+1) 20000 e (Bb b) aa),rw:=q8 n.rw (t5 [c',x,a.ak.z] (a8+(S+S+S+S)) 890000 (su 4) (xq 4) (a8+(ai+ai+ai+ai)+1) 890000 e (AM 4 b) aa),hx:=n.hx,Av:=n.Av,t0:=n.t0,t1:=n.t1}
def abN.AY{a}{M}{al}{W}{x}(n:abN a M al W x)(aj)(hd:a.ds.z=aj):AY (aOE w9) a.G=F:=by subst hd;rw[m2 n.i3,m5];simp only[j4.AY,aa];simp
def NC(g:aS9)(k)(x)(j)(xs)(l)(w)(bW)(a4)(hs:AY x w=F)(b:g (aNO k) w=c (na,bW,a4)):fZ g k x qi l w=fZ g k x xs bW a4:=q0 (n7 (ni HF) hs) b
def Ud{a}{M}{al}{W}{x}(n:abN a M al W x){d}(b:zF):d.eo≤7:=by rw[n4 (r.ajW.1 b) q Ab,u8 kf Ab,m2 (aTd n.hx).eo,mY t0,m2 n.Av,m5,mW u.eG t0 (u.adL (u.aps (u.k0 kf aa)) 2)]
abbrev avv:cx:=(nA (ts (on ne (.eT qw "ask" (.s (rq 10) (nA (rq 11)))) (s8 78 10 (.A 11))) (.s wz .C)))
def EP(d:aR)(w):rm (eC w d.aY nr) d.v:=by rw[yd d,mW (sF B5)]
def Vp:∀(bl)(aE)(ac aj)(b2:td 152)(eA et){al}{W}(k)(hs:k∈W)(j)(J:j∈W)(a)(M)(x)(hd:a.ds.z=aj)(n:abN a M al W (x+304)),∃z' fA,f0 T yn avv (iq bl zj eA et xi (c j.aY) B B B B aE nQ) a.G=c (na,ŕ (aPJ zj xi (c j.aY) B B),z'.G)∧abN z' fA al W x∧abg z' fA k.v j.v∧aNT 304∧aPk:=by rw[mY bl aE ac aj,mY b2,mY eA et al W k,mY hs,mY j,mY J,mY a M x,mY hd n,mX Dr (RE n k j hs J ac b2) fun z1 afe Q dN i0 t1 j6=>?_,m2 (Ud n hs),mY auN,m2 (Kv z1 (ac-k.eo) k j),mY h2];rw[rh (ac-k.eo+k.eo) ac (Br [ac,k.eo,ac-k.eo] (a8+ai) S (a8+ai) S e (s7 (Am [ac,k.eo,ac-k.eo] ai S 152 S ai 7 e b2 auN)))]at h2;refine(nM BU ?_ dN i0 t1 j6);refine BQ (a4:=z1.G) ?_ sV;rw[aQL ((Gs nz (OQ _) (o2 (aTo (EP k _)) (aTo (EP j _)) oy)).ah Q) (zg aNK h2),m6 (c (ar.aO _)=_)];rw[aaV]at⊢;rfl
def Vn:∀(bl:ar)(aE:ar)(ac aj:u)(b2:td 152)(eA et:pl){al:n1}{W:nL}(k:aR)(hs:k∈W),∀(i:nL),(aNQ i)→∀(a:aH)(M:pu)(x:u)(hF:pl),a.ds.z=aj→abN a M al W (x+304*i.z)→∃z' fA jD,fZ (ñ yn avv) 11 (aOE w9) ż (ŕ (aPJ zj xi hF B B)) a.G=c (na,ŕ (aPJ zj xi jD B B),z'.G)∧abN z' fA al W x∧(oG i (abg z' fA k.v j.v))∧hy a z' (304*i.z)∧aPk:=by injections bl aE ac aj;intro b2;injections eA et al W k;rw[mY hs,mY i];induction i with|C=>intro _ a M x hF hd n;exact⟨a,M,hF,ni F9 _ (n.AY aj hd),n.asI (by simp),fun j b=>aQy b,m7 hy.fI,í⟩|s j i ih=>intro aC a M x hF hd n;simp only[r.kZ]at n⊢;rw[mX Dr (Vp bl aE ac aj b2 eA et k hs j (aUK aC) a M (x+304*i.z) hd (n.asI (m4 (AJ [x,i.z] (ro S 304+304) (aSA 304) e)))) fun z1 afe Q dN i0 t1 j6=>?_,mX BW (ih (aRo aC) z1 afe x (c j.aY) (nb t1.ds hd) dN) fun bz acm jD h2 dG aaq d2 hM=>?_,mX CH bz acm jD ((qm NC _ (n.AY aj hd) Q).ah h2) dG ?_ ((t1.ah d2).bx (m4 (AJ [i.z] (rg 304 304) (vc 304) e))) (fun o b=>hM o (j6 o b)),mY ab b0,mZ aC Q h2,nt (r.gA.1 b0),n8,m9];rintro b0;rw[m8,mW (i0.ak d2.ak).KG hM,mW (wZ aaq)]
abbrev aKG:cx:=(nA (.jd 11 uj avv))
def Zy:∀(bl:ar)(aE:ar)(ac aj:u)(b2:td 152)(eA et:pl){al:n1}{W:nL},∀(i:nL),(aNQ i)→∀(a:aH)(M:pu)(x:u)(jY hF:pl),a.ds.z=aj→abN a M al W (x+1824*i.z)→∃z' fA lp jD,fZ (ñ yn aKG) 10 (aOE w9) ż (ŕ (aPJ zj jY hF B B)) a.G=c (na,ŕ (aPJ zj lp jD B B),z'.G)∧abN z' fA al W x∧(∀k∈i,oG W (abg z' fA k.v j.v))∧hy a z' (1824*i.z)∧aPk:=by injections bl aE ac aj;intro b2;injections eA et al W;intro i;induction i with|C=>intro _ a M x jY hF hd n;exact⟨a,M,jY,hF,ni F9 _ (n.AY aj hd),n.asI (by simp),fun j b=>aQy b,m7 hy.fI,í⟩|s k i ih=>intro aC a M x jY hF hd n;simp only[r.kZ]at n⊢;have aa0:=n.Av;rw[mX BW (Vn bl aE ac aj b2 eA et k (aC k tG) W aQD a M (x+1824*i.z) hF hd (n.asI (m4 (Ag [W.z,x,i.z] (rg (sn ai 1824 a8) 304) (ai+(tz 1824 pR)) (su 304) (qQ 304 6) e (AM 304 aa0))))) fun z1 afe jD Q dN i0 t1 j6=>?_,mX Db (ih (aRo aC) z1 afe x xi jD (nb t1.ds hd) dN) fun bz acm lp aab h2 dG aaq d2 hM=>?_,m1 (qh w9 v8) (uq hd n.i3),mY hg,m1 (ui kn zj=c (aPQ,aOE w9)) (aP2 kn hg),mY lA,mX JG bz acm lp aab ((qm NC _ (n.AY aj hd) (AB ((ni (DJ T _ 11 _) _ _ _ nz lA).ah Q) sV)).ah h2) dG ?_ ((t1.ah d2).bx (m4 (Ag [W.z,i.z] (ro (su 304) 1824) (x3 1824) (su 304) (qQ 304 6) e (AM 304 aa0)))) (fun o b=>hM o (j6 o b)),mY ab b0 j J,mZ aC Q h2,nt (r.gA.1 b0),n8,m9];rintro b0;rw[m8,mW ((pa i0).ak d2.ak).KG hM,mW aaq ab b0 j J]
def Ha{cf}{q}{cE}{y}{l}{w}{f}(b:gz T w f cE=c y)(bf:pO l (c f)):aNU (Ĩ Ė cE)=c (y,w):=by simp only[Dh,Bl,bf]at⊢;rw[m6 ((gz _ w f _).au _=_)];rw[b]at⊢;rfl
abbrev atp:cx:=(nA (ts (on ne (.bp 47 (pH (Ĩ qw "host") (rq 10) (rq 11))) (.bp 80 (pH sw (.A 10) (.A 11)))) (.s wz .C)))
def Ri(a)(aS:pN)(al)(aD)(fw:vB)(hL:aU9)(hz:aN7)(h)(bl gJ aE)(eA et mB)(k v)(bN:zx k)(pt:zx v)(hs:xf k.eu):f0 T pd atp (ŕ (iq bl gJ eA et xi aR8 mB B)) a.G=c (na,iq bl gJ eA et xi aR8 mB B B B aE nQ,a.G):=by rw[m2 (MJ a aS al aD fw hL h k v bN pt),mY Q,m2 (Ov a al fw hz (h+2) k v hs),mY h2];refine BQ (a4:=a.G) ?_ sV;rw[aQL ((xY (Ha (L2 a) e) (o2 (aTo (EP k _)) (aTo (EP v _)) oy)).ah Q) (aQW aNK h2),m6 (c (ar.aO _)=_)];rw[aaV]at⊢;rfl
def Rg(a)(aS:pN)(al)(aD)(fw:vB)(hL:aU9)(hz:aN7)(h)(bl gJ aE)(eA et mB)(k)(bN:zx k)(hs:xf k.eu):∀(i:nL),(oG i (zx j))→∀hF,∃jD,fZ (ñ pd atp) 11 B ż (ŕ (iq bl gJ eA et xi hF mB B)) a.G=c (na,ŕ (iq bl gJ eA et xi jD mB B),a.G):=tV i i (by intro _ hF;exact⟨hF,ę⟩) j i (by rw[mY aC hF,n4 (ih (aRo aC) (c j.aY)) V ei,mW ⟨V,(qm BO (nM (oM (Ri a aS al aD fw hL hz h) bl) k j bN (aUK aC) hs)).ah ei⟩])
abbrev axH:cx:=(nA (.jd 11 (.A 12) atp))
def Rh:∀(a)(aS:pN)(al)(aD)(fw:vB)(hL:aU9)(hz:aN7)(h)(bl gJ aE)(eA et)(bb)(aik:oG bb (zx j∧xf j.eu)),∀(i:nL),(oG i (j∈bb))→∀jY hF,∃lp jD,fZ (ñ pd axH) 10 B ż (ŕ (iq bl gJ eA et jY hF (aQt bb) B)) a.G=c (na,ŕ (iq bl gJ eA et lp jD (aQt bb) B),a.G):=by rw[ug,mY aS];injections al aD;intro fw hL hz;injections h bl gJ aE eA et bb;rw[mY aik,mY i];induction i with|C=>intro _ jY hF;exact⟨jY,hF,ę⟩|s j i ih=>rw[mY aC jY hF,ou (aik j (aC j tG)) mS J,n4 (Rg a aS al aD fw hL hz h bl gJ aE eA et (aQt bb) j mS J bb (aOd (wZ aik).1) hF) jD Q,ĥ (ih (aRo aC) (c j.aY) jD) lp aab h2,mW BN lp aab ((n7 (ĳ BO) (AB ((ni (sk (DJ T) 11) _ B nz e).ah Q) sV)).ah h2)]
def WN(a)(al)(aD)(iD:yS):rD (z7).e' Y=a:=by rw[m6 ((oP ds ((a.ds.ad8 _).ad8 _):aH)=a),w8 OB iD]
def WK:∀(a:aH)(M:pu)(al:n1)(aD W:nL)(bV aca:aR)(aF:Ĳ)(un:yS)(fw:vB)(hL:abL a al aD)(aik:oG (aD++[bV,aca]) (zx j∧xf j.eu))(Dd:n9 W 0 aca)(mt:qh qR v8)(apa:nX aOt qR v8)(h:u)(aE dA:ar)(eA et jY hF:pl)(hQ:cx),∃lp jD,b4 T pd (.s (.f_ (.bp 82 (.s (.A 2) (pH y' sw pb)))) (.s (sG 12 (rk e_ y' (.bm (.s (r_ 4 uN) (nA (rq 7)))))) (.s (.jd 10 (.A 12) axH) (.s (.f_ (.bp 82 (.s (.A 2) (pH y' sw oX)))) hQ)))) (ŕ (iq (aWx dA) qV eA et jY hF B B)) a.G=aVf pd hQ (ŕ (iq (aWx dA) qV eA et lp jD (c (eS (aD++[bV,aca]))) B)):=by rw[mY a M al aD W bV aca,mY aF un fw hL aik Dd mt apa,mY h aE dA eA et jY hF hQ,m2 (w8 H3 fw hL (h+2) F),mY ais,m2 (w8 H5 F),mY b7];have aHN:abL z7 al aD:={fQ:=hL.fQ,eY:=hL.eY,cl:=hL.cl,c9:=hL.c9,adS:=by rw[m6 (al.z≤(a.ds.ad8 (rD aaC F)).z),r.avF,mW hL.adS],afW:=fun o a0 aG U=>by have ad2:n9 (a.ds.ad8 (rD aaC F)) o a0:=aG;rw[r.agw]at ad2;induction hd:a.ds[o]? using ap.ae with|B=>rw[hd]at ad2;injection ad2|c aqp=>rw[hd]at ad2;rw[aOj ap.ji ad2,mZ aG];subst ad2;simp only[aaC,fU,U]};rw[m2 (H3 z7 al aD fw aHN (h+2) Y),mY ahy];rw[w8 WN un]at ahy;rw[m1 (oG (aD++[bV,aca]) (aai z7 al j∧xf j.eu)) (fun j J=>⟨(pa aik).1.bx b7 (w8 Oz F),(pa aik).2⟩),mY aHH,ĥ (Rh z7 (rD aF.e' F).aS al aD fw (OA hL) hL.fQ h (aWx dA) qV aE eA et (aD++[bV,aca]) aHH (aD++[bV,aca]) aQD jY hF) lp jD kD,m1 (nX aOt 25 (Ą aD.au)) ((EY z7).ah (pk (nF aQU) hL.eY)),mY afC,m2 hL.c9,mY d9,m2 fw.c9,mY ab0,m1 (lY aOt .e_ wp (oh [bV.aY,aca.aY])=c (eS (aD++[bV,aca]))) (by rw[m1 (j7 aOt wp=c (aD.au aR.aY)) (by simp only[j7,afC]),mY Q,m1 (j7 aOt (oh [bV.aY,aca.aY])=c [bV.aY,aca.aY]) e,mY h2];simp only[sr (lY aOt .e_ wp (oh [bV.aY,aca.aY])) (amp aOt wp (oh [bV.aY,aca.aY])) e,amp,Q,h2,ap.eO,ap.eO];rw[c0 (by rw[r.hN,m6 (aD.z+2≤dv),ya,mW Am [aD.z,al.z] wJ 1048576 S ai ai 4 e (Az d9) ab0])];unfold eS;rw[r.ahL];rfl),mY auz,m1 (pE aOt qV nr=c aca.aY) (by rw[m2 (Cq aOt qR aPQ 0 apa),m5];simp only[r.adg,Dd]at aa;exact aa),mY amU,mW BN lp jD (AB (BX ((AW (o2 nz nz (z6 (Fv ..)))).ah ais)) (AB (Bh (B7 nz (CC (o2 (aTo (y:=bV.aY) e) (Bm nz nU amU) oy)) auz)) (AB ((ni (DJ T _ 10 _) _ _ B nz e).ah kD) (AB (BX ((AW (o2 nz nz (z6 (Fv ..)))).ah ahy)) e))))]
def Oq:∀{a}{W:nL}(dT:ry W vy){ks:nq}(b:adJ (xX ks.au) (aRB W.au)),∀ab∈W,∃o∈ks,hb (pF ab.v) (pF o)=F:=by rw[aP0 W,mY dT];injections ks;rw[mY b,mY ab b0,rf (dT ab b0).A' y aP P,nt (qK _ (ŀ (ql (aT5 (Ad ab b0 e)) e)))];rintro h';rw[m9,mY J];rcases J with(⟨q,f,g,x,V,_,ei,_,aS⟩);rw[m8,nD (r.fq.1 h') o aG d,mW Ad o aG (nb d (Fs y aP)),nD (r.fq.1 ei) o aG d,mW Ad o aG (nb d aS)]
def AbU:∀(a)(M)(aF:Ĳ)(W)(dT:ry W vy)(dw:qe W)(aC:ud W.z)(fT:aSO)(h),∃(aP:u)(ao:oB)(ks:nq)(l:a9),rE 3 8 [oW,aOc W.au]=c (Æ,î)∧(ao=a.ak∨∃j,ao=t6 eL j)∧n9 (s9 ao ak) aP l∧aP≠2∧l.e8 aP=ks∧ud ks.z∧(∀o∈ks,o∈aSS)∧(∀ab∈W,∃o∈ks,hb (pF ab.v) (pF o)=F):=by rw[aP0 M,mY aF];injections W;rw[mY dT dw aC fT,aR5,s3 (Lp a M [] aF h aSS (o7 dw) (qC (by simp)) (fun v aS=>by rw[uv aS,mZ aS,s4,mW Ad _ ((dT j J).A'.1) (nj (dT j J).A')]) fT) aP ao cK eE ajz,mX BN aP ao ?_];cases ajz with|iv Q=>rw[mX Hu ([1]) (q9 "unknown") cK eE (Ŀ 1) n_ e qg (fun o aG=>nb (Ų aG) Q) (aOd (Ad 1 (r.i7.2 e) ?_)),m1 (ty 1 acZ) (.iv (Ŀ 1)),mY aqa,Be aqa,mW GT (dT ab b0).A'.1]|gB o Q aG ale=>rw[uv aG];(rw[s4]);rw[rf (dT j J).A' y fw P,mX AF y.gs fun l br P ok=>?_,mZ P,m2 (y.CY l br).1,mY ba];simp only[fw]at ba;exact(Hu ([j.v]) l cK eE br (nj ok) (by rw[mZ br,y6 l a9.ae (by rw[qT ba])]) qg (fun o ad2=>nb (Ų ad2) aG) (Oq dT (ks:=[j.v]) ale))|jh _ _ ks Q aHS apf iy ajD kg ao3 jR ale=>rw[mX Hu ks _ cK eE apf (vD [aP] 2 iy) e ?_ jR (Oq dT ale),m2 (OV (nO 1) _ _ ao3 jR),m5];(have aV:∀i:nq,(i.au (nO 1)).aaM=i.z:=tV i i (by rfl) f i (by simp only[r.gI,r.ans,r.kZ,ih];omega));simp only[aV,aV,r.hN]at aa;omega
abbrev aEF:cx:=(nA (sG 13 (rk e_ (.A 13) (.go (.A 17) 17 uj (nA (on eq (rq 17) aP5))))))
abbrev adf(W:nL)(t:u):nL:=W.afu fun d=>d.v==t
def UK(W:nL)(cO:(W.au aR.v).fF)(t:u):(adf W t).z≤1:=by unfold adf;induction W with|C=>simp|s d W ih=>simp only[r.gI]at cO;rw[ou (r.l6.1 cO) Q h2,nH he d.v t];have:W.afu (ol (d.v==t))=[]:=r.aHj.2 fun j J cG=>Q (by rw[he,←lb.1 cG,mW (aT5 (Ad j J e))]);rw[r.aoE,Ó c0 he,aa,mW yK,r.aoE,Ó cH he,mW ih h2]
abbrev abb(W:nL):nq→nL|[]=>[]|t::ks=>adf W t++abb W ks
def Le(W):abb W []=([]):=e
def P5(W):∀t ks,abb W (t::ks)=(adf W t++abb W ks):=pS
def AbQ(W)(cO:(W.au aR.v).fF)(ks):qo abb W ks≤ks.z:=qb ks (by simp[Le,P5]) t ks (by rw[m2 (UK W cO t),m5];simp only[Le,P5,r.gR,r.kZ];exact Am [qo abb W ks,ks.z,(adf W t).z] (a8+S) nN S ai a8 1 e ih aa)
def P6(W:nL)(ks:nq):ry (abb W ks) zF:=qb ks (by intro d b;cases b) t ks (by rw[mY d b,nt (r.aeP.1 b),oe,m9,oe,m8,mW (r.anf.1 b).1,mW ih d b])
def AbP(W)(ks)(o)(aG:o∈ks)(ew:o∈aSS):∃d∈abb W ks,d.v=o:=qb ks (by cases aG) t ks (by rw[nH cG o t,mZ aG];subst cG;rw[nD (r.fq.1 ew) d he aS,mW Ad d (r.alA _ (rW r.anf.2 he (o7 aS))) aS,nD (ih ((r.gA.1 aG).aEt cG)) d he aS,mW Ad d (r.ar8 _ he) aS])
def AbT:∀(a:aH)(W bX:nL)(t f:u)(mt:qh f v8)(ew:ud W.z)(hW:rG bX.z)(cf:iV)(bl aE:ar)(eA et jY hF mB ach:pl),f0 T cf aEF (aPJ rY jY hF mB (aQt bX) (nn t) ach aE nQ) a.G=c (na,aPJ rY jY hF mB (c (eS (bX++adf W t))) (nn t) ach aE nQ,a.G):=by rw[mY a W bX t f,mY mt ew hW,mY cf bl aE eA et jY hF mB ach,m1 (ui kn rY=c (aPQ,aOE f)) (aP2 kn mt),mY lA,m1 (AY (aOE f) a.G=F) (by simp only[AY,mt];simp),mY cU,m1 (oD (aQ9 aU (.go (.A 17) 17 uj (nA (on eq (rq 17) aP5))) (aPJ rY jY hF mB (aQt bX) (nn t) ach aE nQ)) (eS (adf W t))) (by rw[Iy,nz]at⊢;simp only[ap.eO,lA];rw[Jp (ago T cf (.A 17)) (ahC T cf (nA (on eq (rq 17) aP5))) 17 _ _ a.G cU aR.aY (ol (d.v==t)) aR.aY W (fun j P=>?_) (fun j P P=>nz)]at⊢;rfl;rw[HQ,Lv,AX (aTo (EP j _)) nz (y:=n5 (j.v==t)) (by rw[m6 (c (ar.aO (nc j.v==nc t))=_)];rw[DN]at⊢)]at⊢;rfl),mY hc,m1 ((adf W t).z≤W.z) (r.ar3 ..),mY aC,mX AB (Bh (B7 nz hc (y:=eS (bX++adf W t)) ?_)) sV,m6 ((nK (À (rH bX.au aR.aY+((adf W t).au aR.aY).z)) (c (ar.bm (bX.au aR.aY++(adf W t).au aR.aY))))=_)];rw[c0 (by simp only[r.hN,r.hN]at⊢;rw[ya,mW Bu [W.z,bX.z,(adf W t).z] (ai+a8) 1048576 S 6 (ai+1) 1000 a8 S e ew hW aC]),←r.ahL]at⊢;rfl
def AbR:∀(a:aH)(W)(f)(mt:qh f v8)(ew:ud W.z)(cf)(bl aE)(eA et jY hF mB ach),∀(ks)(bX)(adC),bX.z+6*ks.z<1000→∃aki,fZ (f0 T cf aEF) 14 B (cS ks) (aPJ rY jY hF mB (aQt bX) adC ach aE nQ) a.G=c (na,aPJ rY jY hF mB (c (eS (bX++abb W ks))) aki ach aE nQ,a.G):=by rw[mY a W f,mY mt ew,mY cf bl aE eA et jY hF mB ach,mY ks];induction ks with|C=>rw[mY bX adC _,mW ⟨adC,tL Le r.afl ę⟩]|s t ks ih=>rw[mY bX adC b,xh r.kZ,m1 ((adf W t).z≤W.z) (r.ar3 ..),mY aC];obtain⟨V,ei⟩:=ih (bX++adf W t) (nn t) (nb r.gR (Bu [W.z,bX.z,ks.z,(adf W t).z] (sn (ai+eK) 6 a8+1) 1000 S 6 (ai+(tz 6 pR)+1) 1000 eK S e ew b aC));rw[r.abP]at ei;exact⟨V,(qm BO (ĳ (sk (AbT a W bX t f mt ew (m4 (oa Ag [bX.z,ks.z] S 1000 (aSA 6) 1000 e b))) bl))).ah ei⟩
abbrev aCt:cx:=(nA (ts (.ir (.bp 85 (pH sw uj (.bp 84 (pH qw p6 (.A 15)))))) (.s wz .C)))
def XN{O}{cf}{d}{l}{w a4}(b:uw pb):o5 (oC (.ir d)) oX:=by rw[rc (pk ta b)];rfl
def NO:∀(a)(M)(al)(aD W)(g)(hW:aVp af5 W (ŉ 2412))(t0:nX a.ca 0 v8)(t1:1≠a.Ap)(ac)(b2:td 171)(b)(fk:ry b zF)(aC:ud b.z)(hc:∀ab∈W,iY ab b=F)(ak3:qe W)(dA AV aE)(eA et jY hF mB abf adC),∃z' fA,f0 T yn aCt (iq (nE [wp,xV,dA,AV]) qV eA et jY hF mB abf adC aUh aE nQ) a.G=c (na,iq (nE [wp,xV,dA,AV]) qV eA et jY hF mB abf adC aUh aE nQ,z'.G)∧af5 z' fA al aD W Ł∧aNT 2412:=by rw[mY a M al aD W g,mY hW t0 t1,mY ac,mY b2,mY b,mY fk aC hc ak3,mY dA AV aE eA et jY hF mB abf adC,s3 (aVp W0 W g hW ti (m4 (Am [ac,ti] 170 ai 171 S S nN e b2 (q3 AN (Ag [ac,ti] 1 S 171 S e b2)))) dA AV b fk aC) z' fA Q h2 h3];rw[rh (ti+1) ac (Br [ac,ti] (ai+1) S nN S e (s7 (Ag [ac,ti] 1 S 171 S e b2)))]at Q;rw[rf (WX al W (tZ (xz h2.hx.dT)) b.z b fk yk hc (fun t Q h2=>m4 (BZ (ç (Am [b.z,t] 1 0 S) ai Q h2)))) a1 a2 a3,m1 (qe (aO1 _)) (by rw[mY bf,n4 (aUj ak3) ab b0,m2 (wZ a2),m5];rw[bf,S_ (h2.hx.dT ab b0)]at aa;rw[wN aa]),mY dw,ou (h3.ca 0 _ t1 t0) d5 da,m1 (n9 z'.G qR _) (by rw[m2 (Ip _ 0 da),m5,o6 h3.ds,mW aa.ah d5]),mY mt,m1 ((aO1 b.z).z<100) (by rw[m1 (∀(H:u)(i:nL),(ad7 al H i).z≤i.z) (by intro H;induction H with|hf=>rw[mY i,mW yk]|gk H ih=>rw[mY i,m3 u.eG (ih _)];unfold agW;split;rw[aT8 r.aiG r.apu,mW (m7 XQ),mW yk]),m5,m2 (aa b.z b),m5,mW Am [b.z,(aO1 _).z] (ai+1) 100 S 6 ai S e aC aa]),mY d9,m2 (AcW _ al h2.up h2.e'.fQ ti (m4 (Am [ac,ti] 30 ai 171 S S nN e b2 (q3 AN (Ag [ac,ti] 1 S 171 S e b2)))) _ W _ mt d9 dw (tZ ⟨xm (h2.hx.eo d (xz a1)) nw,h2.hx.aaH d (xz a1)⟩) (tZ (xm (xz h2.hx.eo) nw)) a2 a3),mY ei];rw[rh (ti+1) ac (Br [ac,ti] (ai+1) S nN S e (s7 (Ag [ac,ti] 1 S 171 S e b2)))]at ei;rw[mX Au _ _ ?_ h2 h3,mW BQ (XN ((xY nz (z6 (aQW aNK Q))).ah ei)) sV]
def RL{cf}{d}{cE}{y f}{l}{w}(b:aQZ d=c (f,w))(bf:gz T w f cE=c y):aNU (.be d cE)=c (y,w):=by simp only[Dh,b];rw[m6 ((gz T w f cE).au _=_),bf];rfl
def WQ{a:aH}{al}{aD W:nL}(t0:nX a.ca 0 v8)(t1:1≠a.Ap):nX aOt qR v8:=by rw[m2 (Ip z7 0 t1),m5,o6 (sr (z7).ds.z a.ds.z r.avF),mW aa.ah t0]
abbrev aG9:cx:=(nA (.bu (.eB (pH (on eq (Ĩ (Ĩ qw "notes") "rows") Š) (on eq (Ĩ qw "trail") Š) (on eq (Ĩ qw "assumed") (.lK Y))))))
def Uo(a)(M)(aF:Ĳ)(cf)(l)(h3:nX l 3 px):∃w,aPA b4 aG9=c (aOS,l,w):=by rw[m1 (oD (aU _ cf (.aX .eq _ _) l _) vq) (by rw[aQL (RL (Ha (L3 a) h3) (LU a)) aTh,m1 (kz a.G (.D 19) wL=c F) (by simp only[kz,jp,abO,acr,kC,aat,r.ado,fU,Gc]),m5,m6 ((sF kz).au _=_),aa];rfl),mY A_,m1 (qh a.gl m_) (by rw[m1 (a.gl<a.G.z) (nb Bj (Qg a aF.aS)),mY jf];unfold aH.G at jf⊢;rw[r.apv]at jf;rw[r.akY jf,aF.eM];rfl),mY i4,m1 (oD (aU _ cf (.aX .eq _ _) l _) vq) (by rw[aQL (Ha (L4 a) h3) aTh,m1 (kz a.G (.D a.gl) wL=c F) (by simp only[kz,jp,abO,acr,kC,aat,r.ado,fU,i4]),m5,m6 ((sF kz).au _=_),aa];rfl),mY Bw,m1 (aU _ cf (.aX .eq _ _) l _=c (vq,tE n6)) (by rw[aQL (Ha (L1 a) h3) (Fc ..),m1 (14<a.G.z) (by simp only[Bj];unfold aH.ad;exact AJ [a.ds.z,a.ca.z] (14+1) (zf+ai) e),mY jf,m1 (nX (tE (c_.bE [])) 14 nS) (ű (r.jP jf) EW aF.ey),mY aV,m1 (nX (tE (c_.bE [])) a.G.z nS) rb,mY bj,m1 (kz (tE (c_.bE [])) (.D 14) (.D a.G.z)=c F) (by simp only[kz,jp,abO,acr,kC,aat,r.ado,N.aen,fU,aV,bj]),m5,m6 ((sF kz).au _=_),aa];rfl),mY CP,vi (tE nS) (C2 ?_),En,FF A_,FF Bw,GY,mW CP]
def WM:∀(cL:n1)(h:u),∃l w,b4 T aQe agh (afj r7 B B B) []=c (aOS,l,w):=by rw[đ cL,mX UC (AcI cL (h+194)) fun a al aD b3 bV W o eA et arO dJ aG ajy ak3=>?_];have eg:=dJ.eg;rw[m2 eg.Ap,mY i4,uy dJ.ca g9 agK,m2 dJ.gT,mY fT];have fw:=eg.anx;rw[m1 yS (fun aj a0 b=>(eg.aar aj a0 b).1),mY aLz];have aEc:abN a [] al W (5100+1824*W.z):={aF:=eg.aF,un:=aLz,abB:=eg.abB,eo:=eg.eo,cc:=nb eg.cc (Ys ajy),rw:=m4 (Bu [o,W.z,a.ak.z] (a8+(ro 5100 1824+(ro 5100 1824)+(ro 5100 1824)+(ro 5100 1824))+1) 890000 (su 10) (qQ 10 40) (xq 7296) (qQ 7296 6) a8 (rg 60 10) e (AM 10 aG) (AM 7296 ajy) fT),hx:=dJ.hx,Av:=ajy,t0:=sh agK,t1:=aU4 i4};refine Db (Zy xd r7 (h+200) a.ds.z (m4 (xm nw (u.alw 200 h))) eA et W aQD a [] 5100 B B e aEc) fun z1 afe aLX aLY arK acT ail aiZ P=>?_;have aCw:=aiZ.ds;have ad4:=aiZ.le;rw[m1 (ui kn qV=c (aPQ,aOE qR)) (by rw[m2 aEc.i3,m5];simp only[kn,aa]),mY aJb];(have ajF:ry W (∃q,q≤5∧j_ z1 al W d q):=by rw[mY d he,n4 (r.ajW.1 he) q Ab,u8 kf Ab,mW Ad q (m4 (ç (Am [W.z,q] ai 5 S) 6 ajy kf)) (aTd acT.hx)]);have ahS:afh z1 afe W al:={dT:=tZ (by rw[nD (xz ajF) q P dt,mW dt.dT]),Av:=tZ (by rw[nD (xz ajF) q P dt,mW dt.Av]),aaH:=tZ (by rw[nD (xz ajF) q P dt,mW dt.aaH]),eo:=tZ (by rw[nD (xz ajF) q Ab dt,m2 dt.eo,m5,mW Am [q,d.eo] ai 10 S 5 ai wJ e Ab aa]),ajs:=fun d he j J=>ail d he j J,An:=tZ (by rw[nD (xz ajF) q Ab dt,m2 dt.An,mY t0,m2 dt.dh,mY t1,m2 (Qn q Ab),m5,mW ⟨u.eG t0 (u.abi (u.aiL 2 Ab) 4),u.eG t1 (tA u.eG aa)⟩]),eZ:=tZ (by rw[nD (xz ajF) q P dt,mW dt.eZ]),c9:=ajy,cO:=dJ.cO};have aJ1:aQQ:={fQ:=eg.fQ,eY:=eg.eY,cl:=fun aq d b=>(eg.cl aq d b).1,c9:=eg.adQ,adS:=nb eg.dl (u.avE _),afW:=fun aq a0 b P=>(eg.aar aq a0 b).1};have aDy:abL z1 al aD:=aJ1.B6 (x:=0) ad4 aiZ.fQ aiZ.lZ aCw;have abr:0<W.z:=r.avG.2 ak3;rw[m1 (nX W 0 (W[0]' abr)) (r.hV abr),mY Dd,m1 (oG (aD++[bV,W[0]' abr]) (aai z1 al j∧xf j.eu)) (by rw[tr,nt (r.aeP.1 J),x',m9,x',m8,n4 (r.ajW.1 J) aq cQ,ou (LK eg aq j cQ) d5 da,mW ⟨d5.bx ad4 aiZ.ahF,da⟩,mZ arO dJ arK,nt (r.gA.1 J),n8,m9,x',m8,ou (LL eg) d5 da,mW ⟨d5.bx ad4 aiZ.ahF,da⟩,aQI,mW ⟨ahS.Av _ (r.aij abr),ahS.aaH _ (r.aij abr)⟩]),mY aik,ĥ (WK z1 afe al aD W bV (W[0]' abr) acT.aF acT.un fw aDy aik Dd acT.i3 (WQ acT.t0 acT.t1) (h+197) r7 w7 eA et aLX aLY (aor 17 agh)) lp jD aIA,mX ET (AbU z1 afe acT.aF W ahS.dT ak3 ajy (q8 acT.rw (u.mN (u.hO (m7 u.acK) aa) nw)) (h+197)) fun aP ao ks l cK eE iC aC7 ajI aCJ aIy aIz=>?_,rf (acT.aF.Ah ao eE) gi adV acM];have mA:=PM ao adV acM;have mL:=mA.le;rw[m2 (GD (z1.Ah ao) (h+199) aP l iC aC7),mY aCV];rw[ajI]at aCV;have apa:=acT.i3;rw[ou (mA.ca 0 _ acT.t1 acT.t0) av9 awa];have aCT:nX (z1.Ah ao).G aT4 v8:=(Ip (z1.Ah ao) 0 awa).ah av9;rw[m1 (ud (qo abb W ks)) (u.eG (AbQ W dJ.cO ks) aCJ),mY aHV,m1 (∀ab∈W,iY ab (abb W ks)=F) (by rw[mY ab b0,nD (wZ aIz) o aG aS,nD (AbP W ks o aG (aIy o aG)) d he aIh,mX Jq ab _ (r.gZ.2 (Ad d he ?_)),E6 (ahS.dT d (P6 W ks d he)) (wZ ahS.dT),aIh,mW aS]),mY aHU,m1 (∀ab∈W,iY ab W.aba=F) (by rw[mY ab b0,mX Jq ab _ (r.gZ.2 (Ad ab (r.aKm.2 b0) ?_)),E6 (wZ ahS.dT) (wZ ahS.dT),mW Fs (ahS.dT ab b0).A'.1 (nj (ahS.dT ab b0).A')]),mY aHR,m2 acT.cc,mY aIE,m2 acT.rw,mY aI4];have aKb:af5 (z1.Ah ao) afe al aD W (2412+(2412+0)+200):={up:=fw,e':=aDy.B6 (x:=0) mL e e e,un:=fun aj a0 b=>acT.un aj a0 b,aF:=gi,hx:=ahS.bx mL mA.ahF í,e5:=acT.eo,cc:=yh (z1.c2+_<20000) (oa A4 [z1.c2] (b5+(2412+(2412+0)+200)) 20000 (b5+5100) 20000 e aIE),rw:=by rw[m1 ((z1.Ah ao).ak.z≤z1.ak.z+1) acM,m5,mW Yt aI4 aa]};rw[n4 (AbR (z1.Ah ao) W aT4 aCT ajy aQe xd r7 eA et lp jD aPr B ks [] B (aP6 (Ag [ks.z] (su 6+1) 1000 (su 10) (qQ 10 6) e (AM 10 aCJ)))) aki cU];simp only[r.avT]at cU;rw[s3 (NO (z1.Ah ao) afe al aD W (2412+0) aKb av9 awa (h+200) (m4 (xm nw (u.alw 200 h))) (abb W ks) (P6 W ks) aHV aHU ak3 w7 bV.aY r7 eA et lp jD aPr (c aWf) aki) e3 aFR h3 aKc aE0,ou (aE0.ca 0 _ awa av9) aKN aKO,m1 (e3.ds.z=z1.ds.z) (sh aE0.ds),mY arx,s3 (NO e3 aFR al aD W 0 aKc aKN aKO (h+200) (m4 (xm nw (u.alw 200 h))) W.aba (tZ (r.aKm.1 he)) (nb r.length_reverse ajy) aHR ak3 w7 bV.aY r7 eA et lp jD aPr (c aWf) aki) l_ aFS h4 aKd aNA];rw[arx]at h4;have aIn:fZ (ñ aQe aCt) 15 B [aWf,eS W.aba] (aVF lp jD aPr (c aWf) aki B r7 nQ) (z1.Ah ao).G=c (na,aVF lp jD aPr (c aWf) aki (aQt W.aba) r7 nQ,l_.G):=(zr h3).ah ((zr h4).ah ę);rw[n4 (Uo l_ aFS aKd.aF aQe (aVF lp jD aPr (c aWf) aki (aQt W.aba) r7 nQ) e) axg aIi,m1 (∀abf,ny aQe (aRj (rq 16) 16 uj) (aVF lp jD aPr abf B B r7 nQ) z1.G=c (aOc W.au,z1.G)) (by rw[mY abf,m1 (kn z1.G (wj aT4)=c (aPQ,aOE aT4)) (by simp only[kn,apa]),mY lA,rc (nM (ni (w3 Ch aQe)) W aR.aY (nF (.m j.v)) nz lA (by simp only[AY,apa];simp) (fun j P=>aTo (EP j _)))];unfold cS;rw[r.aeN];rfl),mY jr,m1 (∀abf adC,ny aQe (.rev uj) (aVF lp jD aPr abf adC B r7 nQ) (z1.Ah ao).G=c (eS W.aba,(z1.Ah ao).G)) (by rw[mY abf adC,m1 (j7 (z1.Ah ao).G (wj aT4)=c aPQ) (by simp only[j7,aCT]),mY au0,aRz nz,aRY ap.eO au0];unfold eS;rw[r.map_reverse]),mY aI0,m1 (b4 T aQe agh (afj r7 B B B) []=c (aOS,aVF lp jD aPr (c aWf) aki (aQt W.aba) r7 nQ,axg)) (by rw[mX arO.ah (AB ((ni (DJ T _ 10 _) _ _ _ nz aJb).ah arK) ?_),←aCw,tD aIA.ah];have avf:ny aQe (s8 2 2 (s8 8 2 (aRj (rq 16) 16 uj))) (aVF lp jD aPr (c (eS [])) B B r7 nQ) z1.G=c (zy ks,(z1.Ah ao).G):=zg (z6 (zg (z6 (jr _)) cK)) aCV;exact AB (Bh (CC oy)) (AB ((ni (DJ T _ 14 _) _ _ B avf e).ah cU) (AB ((ni (DJ T _ 15 _) _ _ B (A3 (z6 (m7 aI0))) e).ah aIn) aIi))),mY l1,mW BN _ axg l1]
set_option backward.match.sparseCases true
set_option tactic.hygienic true
def allAt{i:r N}(b:i.db id=F)(q:u):(rS i).ld F=F:=by induction d:rS i using ap.ae with|B=>rfl|c g=>exact r.hp.mp b g (r.lI d)
def S6{M}{cd}{t}(b:aqY M cd t=F):codeIn M cd t=F:=by induction cd using af.ck.ae with|bI x=>replace b:(oo (M.cm x) (c ⟨_,_,.aju vs,_⟩) (oo vs.e0 (_::.bi h _::_) (af.bl.fv.sEq h t) Y) Y)=F:=b;show(oo (M.cm x) (c ⟨_,_,.aju vs,_⟩) (oo vs.e0 (_::.bi h _::_) (h==t) Y) Y)=F;generalize M.cm x=p at b;(rw[tm p (by rw[sT]) cR (by induction cR using af.k_.ae with|mk x aj fS ec=>induction fS using af.akr.ae with|aju vs=>replace b:(oo vs.e0 (_::.bi h _::_) (af.bl.fv.sEq h t) Y)=F:=b;show(oo vs.e0 (_::.bi h _::_) (h==t) Y)=F;generalize vs.e0=i at b;(rw[ï (by rw[sT]) j (by rw[ï (by rw[sT]) ab (by rw[aVh ab af.ck.ae bi h v (by exact pQ lb.2 af.bl.fv.ast.1)])])])|_=>rw[sT])])|_=>rw[sT]
def T8{M}{y}(b:aq4 M y=F):y=.B∨∃O p eD o,y=nP O∧M.cm O=c p∧p.fS=.ia eD o:=by induction y using af.ck.ae with|B=>exact qN|bI O=>replace b:(match M.cm O with|c p=>aDm p.fS|B=>Y)=F:=b;(induction d:M.cm O using ap.ae with|B=>rw[pr d,mW N.cs b]|c cR=>rw[xh d];induction cR using af.k_.ae with|mk x aj fS ec=>rw[aVh fS af.akr.ae ia xs o (by exact rt (Hw O ⟨x,aj,.ia xs o,ec⟩ xs o e d e))])|_=>rw[sT]
def UP{E}{f}{fn}{n}{g}{aE}(b:amG E.M f=c (n,g,aE))(h2:avZ E.K fn n g aE=F):ah4 E f fn:=by rw[Ä amG];generalize d:E.M.cm f=t at b;rw[tm t (by rw[tb]) cR (by induction cR using af.k_.ae with|mk eY bE fS ec=>induction fS using af.akr.ae with|akW ac=>(induction ac using af.amc.ae with|mk cB jV dX aqX d_ aoK at1 dV kV mm pm an jL ac8 lc=>induction aqX using af.aFH.ae with|stmts bD=>(rw[oT at1 (by replace b:(match aqY E.M jL jV&&(aoK==lG&&(lc==an8&&aq4 E.M dV))with|F=>c (dX,bD,d_)|Y=>B)=c (n,g,aE):=b;(induction hc:aqY E.M jL jV&&(aoK==lG&&(lc==an8&&aq4 E.M dV))using N.ae with|Y=>rw[pr hc,mW Aq b]|F=>rw[pr hc,nf b,om,nR,uT b,om,mY b L,pq,uT L,mZ L,mY L L,qD,qD];have aI:=allAt h2;clear h2;(rw[yq (by simpa only[N.c3]using hc) I9 A_ Bw CP]);rw[m2 (acz A_),mY bj,m2 (acz Bw),mY cV];subst bj cV;exact⟨cB,jV,dX,bD,d_,dV,kV,mm,pm,jL,ac8,eY,an,bE,ec,d,S6 I9,r.alr.mp (aI 0),ap.am6.mp (aI 1),r.alr.mp (aI 2),ap.am6.mp (aI 3),cD (aI 4),cD (aI 5),cD (aI 6),fun j J=>cD (r.hp.mp (aI 7) j J),cD (aI 8),fun j J=>cD (r.hp.mp (aI 9) j J),N.alH _▸aI 10,N.alH _▸aI 11,cD (aI 12),T8 CP,aI 13⟩)) _ _ (by rw[tb])])|_=>rw[tb])|_=>rw[tb])]
def Acu{M:j2}{f:d7}{i:nC}(b:ajn M o9 si=F):∃p xs h,M.cm f=c p∧p.eY=p3 "tuple"∧p.fS=.ia xs h∧tU∧aoa M i xs.e0=F:=by rw[m1 ((oo (M.cm f) (c ⟨p3 v,_,.ia xs _,_⟩) (b1 (v="tuple")&&(b1 tU&&aoa M i xs.e0)) Y)=F) b,om,nR];generalize M.cm f=t at b;rw[tm t (by rw[sT]) cR (by induction cR using af.k_.ae with|mk eY bE fS ec=>induction eY using af.ck.ae with|hl v=>(rw[aVh fS af.akr.ae ia xs h (by have Q:=N.fY.mp b;have h2:=N.fY.mp Q.2;exact(CH _ xs h e (cr ck.hl (cD Q.1)) e (cD h2.1) h2.2))])|_=>rw[sT])]
def SO{M:j2}{bf:b8}(cL:M.abK bf){b:b8}{X:eW}(hs:tc bf.bg v0)(ho:∀g,bf.bg g≠B→ka X g)(hJ:ar):∀y,ajn M hJ y=F→de b X hJ y:=by rw[mX (ss (nI ar.jB fW (fun hJ=>∀y,ajn M hJ y=F→de b X hJ y) hv (te (∀vs,aoa M i vs=F→yA))) ?_ hJ),mY y d];induction y using af.ck.ae<;>exact N.cs d;intro g y d;induction y using af.ck.ae<;>exact N.cs d;intro q y d;(induction y using af.ck.ae with|m aq v=>rw[m3 Da (sr q aq (cD d)),oA,mY hz];subst hz;exact qS v|_=>rw[wS]);intro k y d;(induction y using af.ck.ae with|bi aP v=>rw[m3 Da (show aP=_ from cD d),oA,mY hz];subst hz;exact qS v|_=>rw[wS]);intro i ih y d;(induction y using af.ck.ae with|bI f=>refine BW (Acu d) fun p xs h aG hc hd aC br=>?_;have hg:=cL f p aG;exact(Cs f p _ h e (ho f (nb hg (qW (C3 a)))) (hs f p hg) hc hd aC (ih _ br))|_=>rw[wS]);intro i _ y d;induction y using af.ck.ae<;>exact N.cs d;intro q y d;induction y using af.ck.ae<;>exact N.cs d;intro vs d;(rw[oT vs (by rfl) y vs (by rw[wS])]);rw[mY j xs aax avs vs d,oT vs (by rw[wS]) y vs (by have a5:=N.fY.mp d;exact(Au y _ e (aax y a5.1) (avs _ a5.2)))]
def SP{M:j2}{bf:b8}(cL:M.abK bf){b:b8}{X:eW}(hs:tc bf.bg v0)(ho:∀g,bf.bg g≠B→ka X g)(hJ:ar)(y:ck)(d:ajn M hJ y=F):de b X hJ y:=SO cL hs ho hJ y d
abbrev ajd(b':aej)(V:kc)(M:j2)(n:aej)(li:r af.bH)(aaF:vH axc ck)(mg mb:r8)(bf:b8):iJ:={b',V,M,n,li,aaF,mg,mb,bf,K:=gt,eR,ij,O:=T,hU:=bo}
def ND:∀x j,auj x j=F→(x,j)∈aoG:=by rw[mY x j b,nD (r.gZ.1 b) t cG d,ou (aOC d) aV bj,oA,aT7 g t,←u.aox aV,←lb.1 bj,mW cG]
def ON:∀x j ac,aDR x j=c ac→(x,j,ac)∈ang:=fun P P P b=>Lh _ b
def KD{gn:Type}{j}{aj}:∀{i:rC u gn},rR i.cm aj→(j,aj)∈i|(ab,d)::l,b=>by rw[xh r.aa6,pI t (j==ab) (by rw[pr t,nf b,om,nR,pq,lb.1 t,mW uA]) (by rw[pr t,mW (aQV (KD b))])]
abbrev ajR:r ag7→rC R ck|[]=>[]|d::l=>((oo d.dx (.m o _) o 0),d.lP)::ajR l
def AdQ:ajR []=([]):=e
def WI:∀d l,ajR (d::l)=(((oo d.dx (.m o _) o 0),d.lP)::ajR l):=pS
def Vv{d}{n}(b:aDl d n=F):∃v iu,d=⟨auC nk,u2 nk,.m nh iu⟩:=by obtain⟨hs,dx,lP⟩:=d;rw[aVh dx af.ck.ae m o v (by(rw[aVh lP af.ck.ae m y iu (by rw[ou ź f g,ou (aT2 g) g x,←cD f,←cD g,mW BN v _ (y7 (show hs=auC o from cD x))])]))]
def Pt(b')(V):∀(Aa)(are),apR Aa are=F→aMx aVz Aa (ajR Aa)∧(ry Aa (∃o,(mu b' V).is o d.dx=F∧d.ajA=(aVz).ajA o))∧(ajR Aa).au (·.1)=are.au (·.1)∧∀o,(∃y v,aew o are=c y∧ai1 (ajR Aa) o=c (u2 y))∨(aew o are=B∧ai1 (ajR Aa) o=B)|[],[],_=>(By (.C) (fun d b=>aQy b) e (fun o=>.bF zl))|[],tq,b=>N.cs b|tq,[],b=>N.cs b|d::l,(o,y)::k,b=>by rw[ou ź Q h2,yq (Pt b' V l k h2) dN dG fH aiR,m3 BF (Vv Q),mZ b Q];rintro v iu e;(have Ab:(mu b' V).is o (u2 o)=F:=by show ck.arT o (u2 o)=F;simp[ck.arT]);rw[mX By (.s Ab e dN) (rW r.aum.2 (Ad o Ab e) dG) (cr (o::·) fH) (fun aq=>?_)];unfold ai1;simp only[JT,WI];rw[pI hd (b1 (o=aq)) (by exact .bT (AI y iu (rA (cD hd)) (rA (cD hd)))) (by rw[r.aBM,hd,cH (of_decide_eq_false hd),mW aiR aq])]
def WG{M}(b:arX M=F){E:Prop}(o:∀Aa ep,M.cm 151=c ⟨p3 "dict",B,.bE Aa ep,#[]⟩→apR Aa.e0 T.aaA=F→E):E:=by replace b:(oo (M.cm 151) (c ⟨p3 v,B,.bE Aa _,ec⟩) (b1 (v="dict")&&(b1 (ec.c5=0)&&apR Aa.e0 T.aaA)) Y)=F:=b;generalize d:M.cm 151=t at b o;rw[tm t (by rw[sT]) cR (by induction cR using af.k_.ae with|mk x aj fS ec=>induction x using af.ck.ae with|hl v=>(induction aj using ap.ae with|B=>(rw[aVh fS af.akr.ae bE Aa ep (by have Q:=N.fY.mp b;have h2:=N.fY.mp Q.2;rw[mZ b d,m3 Da (sr v "dict" (cD Q.1)),mZ Q,mY hz];subst hz;cases fE.aHe (cD h2.1);exact o Aa ep e h2.2)])|c _=>rw[sT])|_=>rw[sT])]
def boot_len:∀h,h∈["len","any","all","sorted","min","isinstance"]→Î≠"__name__"∧xJ aGE=c (.acy h):=by simp only[r.aum];exact(Ue aRu aRu aRu aRu aRu aRu (fun P b=>aOi))
def aGF:∀h,h∈["tuple","range","str"]→Î≠"__name__"∧xJ aGE=c (p3 h):=by simp only[r.aum];exact(By aRu aRu aRu (fun P b=>aOi))
def OL{gn:Type}{j}{aj}:∀{i:rC ea gn},rR i.cm aj→(j,aj)∈i|(ab,d)::l,b=>by rw[xh r.aa6,pI t (j==ab) (by rw[pr t,nf b,om,nR,pq,lb.1 t,mW uA]) (by rw[pr t,mW (aQV (OL b))])]
def Kj{y}{f}(b:afM y f=F):y=si:=by induction y using af.ck.ae with|bI g=>exact uU (u.aox b)|_=>rw[sT]
abbrev apk(x:u)(h:af.bH):N:=(dC.k8 amk).dS fun t=>u.acv oI x&&af.bl.fv.sEq oq h
def HS{x}{h}(b:apk x h=F):(h,x)∈dC.k8 amk:=by obtain⟨⟨f,g⟩,H,d⟩:=r.gZ.1 b;rw[ou (aOC d) aV bj,←af.bl.fv.ast.1 bj,←u.aox aV,mW H]
abbrev aEb(h:af.bH):N:=dC.db fun o=>!(af.bl.fv.sEq o h)
def Zz{h}(b:aEb h=F):h∉dC:=fun H=>by have:=Á b h H;rw[o6 (af.bl.fv.ast.2 e),mW (yW aa)]
def AdI:(r.acU 87).db (fun q=>apk (q+1) (af.bH.dF (arc.ld q "")))=F:=Ē
def AdG:(r.acU 8).db (fun q=>apk (q+88) (af.bH.dF (aqU.ld q "")))=F:=Ē
def AdH:amw.zipIdx.db (ue (apk (oI+96) (af.bH.dF (oq).1)))=F:=Ē
def AdJ:apk 166 "KEY_FAMILIES"=F:=Ē
def AdK:["len","any","all","sorted","min","isinstance","tuple","range","str"].db (fun h=>xJ aEb)=F:=Ē
def HL{cg:Type}{i:Ë}{q}{j aj}(b:op i j):i.ld q aj=j∧q<i.z:=by obtain⟨aC,d⟩:=r.gF.1 b;exact⟨q0 r.aBX b,aC⟩
def AcS{b'}{V}{M}{n}{li}{aaF}{mg mb}{bf}(O:atb n li aaF mg mb bf)(cL:M.abK bf)(hs:xK bf.bg asz)(x:aw9 M mg):hT (aTV bf):=by have aDW:∀h,h∈["len","any","all","sorted","min","isinstance","tuple","range","str"]→xJ mg=B:=fun h b=>x.hP _ (Zz (Á AdK h b));rw[m1 (∀x j,auj x j=F→x<8) (by rw[mY x j b,m1 (aoG.db (ue (u.aao oq 7))=F) uJ,mY aC,mW u.avJ (u.afQ (Á aC _ (ND x j b)))]),mY aH8,mX {adB:=O,cL:=cL,aER:=hs,const:=?_,fn:=?_,eY:=?_,ay4:=?_,abp:=?_,eT:=?_,arW:=?_,aqT:=?_},mY h hJ b];obtain⟨aq,cQ,d⟩:=pQ r.aB0 OL;have a5:Ã amw=c (h,hJ):=rW r.gF.2 cQ d;have H:((h,hJ),aq)∈amw.zipIdx:=r.mk_mem_zipIdx_iff_getElem?.2 a5;rw[nD (m7 x.b9 (HS (Á AdH _ H))) y Q h2];(have h3:akg M (aq+96) y=ajn M hJ y:=by show(match u.aao 87 (aq+95)with|Y=>afM y (ij (aq+95))|F=>match u.aao 95 (aq+95)with|Y=>afM y (eR (aq+95-87))|F=>match u.aao 165 (aq+95)with|Y=>(match amw[aq+95-95]? with|c t=>ajn M oI y|B=>Y)|F=>afM y 151)=_;have adk:aq<70:=cQ;rw[u.aqP (show 87≤aq+95 by exact xm nw (u.alw 95 aq)),qJ u.aqP (95≤aq+95) (u.alw 95 aq),show u.aao 165 (aq+95)=Y by rw[N.amC,mY a];have:=u.afQ a;exact u.aj4 aa (u.agc adk 95),u.axC,a5]);rw[mW Ad y Q fun b X hs ho=>SP cL hs ho _ y (h3▸h2),mY ac h b,ou (qJ (HL (aj:="")) (n9 arc ac h) b) d aC];have aC:ac<87:=aC;rw[m2 (Dm AdI ac aC),m5,o6 d,nD (m7 x.b9 (HS aa)) y Q h2];(have h3:akg M (ac+1) y=afM y (ij ac):=by show(match u.aao 87 ac with|Y=>afM y (ij ac)|F=>_)=_;rw[show u.aao 87 ac=Y by rw[N.amC,mY a];have:=u.afQ a;exact u.aj4 aa aC]);rw[mW Q.ah (uU (Kj (h3▸h2))),mY o h b,ou (qJ (HL (aj:="")) (zc aqU h) b) d aC];have aC:o<8:=aC;rw[m2 (Dm AdG o aC),mY aa,o6 d,nD (m7 x.b9 (HS aa)) y Q h2];(have h3:akg M (o+88) y=afM y (eR o):=by show(match u.aao 87 (o+87)with|Y=>afM y (ij (o+87))|F=>match u.aao 95 (o+87)with|Y=>afM y (eR (o+87-87))|F=>_)=_;rw[u.aqP (show 87≤o+87 by exact u.alw 87 o),show u.aao 95 (o+87)=Y by rw[N.amC,mY a];have:=u.afQ a;exact u.aj4 aa (u.agc aC 87),u.axC]);rw[mW Q.ah (uU (Kj (h3▸h2))),mY h b,ou (boot_len h b) c6 dn,mW ⟨aDW h (r.alA _ b),(O.azb _ c6).ah dn⟩,mY o j b,mW ⟨Dm x.bS o (aH8 o j b),lb.1 (Á x.abp _ (ND o j b))⟩,mY o j ac b];have bK:=ON o j ac b;rw[m2 (Á x.eT _ bK),mY hc,ou (aOC hc) A_ Bw,m1 (ang.db (ue (u.aao oq 7))=F) uJ,mY aC,mW AE (Dm x.bS o (u.avJ (u.afQ (Á aC _ bK)))) (lb.1 A_) (lb.1 Bw),mX WG x.arW fun Aa ep aG avA=>?_];(have j6:mg "KEY_FAMILIES"=c (nP 151):=by rw[nD (m7 x.b9 (HS AdJ)) y Q h2,mW Q.ah (uU (Kj h2))]);rw[yq (Pt b' V Aa.e0 T.aaA avA) dN dG fH aiR,mX (nM Bx j6 (n7 Cn (nv cL aG) (AE e e e) e (tZ (dG d (fE.mem_toList_iff.2 he))) dN (aU4 fH)) nw aiR),mY h b,ou (aGF h b) c6 dn,mW ⟨aDW h (r.ar8 ["len","any","all","sorted","min","isinstance"] b),(O.azb _ c6).ah dn⟩]
def XA{b'}{V}{M}{n}{li}{aaF}{mg mb}{bf}(x:axa M):akx (aTV bf):=by rw[m1 (∀o h,zc aqU h→o<8) (fun o h b=>(HL (aj:="") b).2),mY jf,mX ⟨fun o h b=>aT2 (Dm x.fx o (jf o h b)),fun o h b d=>?_,fun o h ac b d=>?_⟩];(have aG:o∈[5,6,7]:=by rw[m1 (apl.db (ue ((oI).eF||[5,6,7].elem oq))=F) uJ,mY aC,mW r.elem_iff.1 (Á aC _ (qJ KD (apl.cm o=c _) d))]);exact lb.1 (Á x.av1 o aG);(have aG:(o,ac)∈[(0,87),(1,89),(2,90),(3,93),(4,97)]:=by rw[m1 (apl.db (ue ((oI).mM||[(0,87),(1,89),(2,90),(3,93),(4,97)].elem (oq,(oI).ld 0)))=F) uJ,mY aC,mW r.elem_iff.1 (Á aC _ (qJ KD (apl.cm o=c _) d))]);obtain⟨A_,Bw⟩:=aT2 (Á x.ahD _ aG);exact⟨lb.1 A_,lb.1 Bw⟩
def UQ(h):bo (h+101)=B:=e
def Za{b'}{V}{M}{n}{li}{aaF}{mg mb}{bf}(x:∀ac,ac<101→aD6 M ac):ami (aTV bf):=by(have db:∀ac fn,aU8 bo→ah4 (aTV bf) (ij ac) fn:=by intro ac fn b;by_cases b2:ac<101;exact AD (x ac b2 _ b) fun n g k Q h2=>UP Q h2;obtain⟨h,e⟩:∃h,ac=h+101:=⟨ac-101,m4 (rz (u.e2 (u.mO.1 b2)))⟩;rw[xh UQ,aR3]);rw[m1 (∀ac cE,n9 arc ac cE→∃fn,bo ac=c _) (by rw[mY ac cE b,m2 (HL (aj:="") b).2,mY b2,m1 (∀ac,ac<87→(bo ac).eF=F) (Dm (n:=fun ac=>(bo ac).eF) (by rfl)),mY aa,mW ap.als.1 (aa ac b2)]),mY aLd,mX ⟨fun ac cE b=>?_,fun o j ac b=>?_,db⟩,n4 (aLd ac cE b) fn d,mW (vT d (db ac _ d)),m2 (ON o j ac b),mY bK,m1 (ang.db (ue (bo (nW t)).eF)=F) uJ,mY aC,m2 (ap.als.1 (Á aC _ bK)),mY aa,uy aa fn d,mW (vT d (db ac _ d))]
def MI:amu.i1=301:=e
def SZ:amu.ib=4:=e
def Up{E}(bl:p9){h}{fn}{fa}{p}{k}{cB}{dX}{bD}{d_}{pm cd mm}{vs}{fM}{y}{r'}{bJ}{ao}(hs:k.aK=E.bf)(ho:aUy fa)(hd:p.fS=.akW (at3 cB dX bD d_ pm cd mm))(hcd:k.aK.aFx cd cB)(ok:ah4 E fa fn)(bh:p_ adK fn.bD)(cu:3*h<680)(auI:ay6 (at3 cB dX bD d_ pm cd mm) (yX fM)=km ((dX.eb.au (·.iX)).k8 fM))(aoR:vs.z=fn.c8)(ft:ed k.aK (yX []) vs fM)(av:b4 E.O aWv fn.bD (aTJ fn.dc fn.c8) []=c (rO,r',bJ))(av3:∀cM h' tk cv am H,aku k.aK am h' H→de h' cv y cM→ao (.ok (s6 cM)) (yR h')):amv wn amu (.bp (nP fa) (yX fM)) ao k:=by rw[mX HC ok fun aNg aNq aiS aGC ahV aMP aM9 aMR aNn aML aMN aNj aMI aNk aNl lW=>?_,m2 (nv bl.cL lW.ho),mY aG];rw[←hs,ho]at aG;rw[nf aG,mZ aG,mY aG];subst aG;have amS:=akr.akW.dB hd;obtain e:aiS=dX:=cr amc.dX amS;obtain e:ahV=d_:=cr amc.d_ amS;(obtain e:aGC=bD:=q8 (cr amc.bD amS) (aFH.stmts.dB aa));clear amS;have agb:atb E.n E.li E.aaF E.mg E.mb k.aK:=hs▸bl.adB;have afC:fM.z=vs.z:=ft.z;(have aru:rH aiS.eb.au (·.iX)=fM.z:=by rw[lW.eb,r.aiG,r.hN,afC,aoR,m2 lW.atq,m5,mW u.ani aa]);(have abZ:(aiS.eb.au (·.iX)).fF:=nb lW.eb (r.axr.nodup (r.aLj ..) lW.cO));(have aav:(((aiS.eb.au (·.iX)).k8 fM).au (·.1))=aiS.eb.au (·.iX):=nb r.aKj (u.fp aru));have aj2:∀j,ahV.bw.cm j≠c .ht:=fun j d=>lW.aj2 _ (abz d) e;rw[mX call_cellsN (aU4 MI) ho hd agb.nolimit hcd auI (fun j J=>?_) lW.azf (fun Q tk hr aN gg ael=>?_) lW.co lW.gen lW.cA,m2 (r.avY J).1,mY bK,nt (lW.ahF _ bK),wB,m9,wB,m8,mW (pp a),mW .bF ⟨a,n7 azg (pp a)⟩];generalize hL:k.aK.eU.c5=am at aN gg ael⊢;(have akV:∀g,am≤g→k.aK.bg g=B:=fun g U=>by rw[vz d (k.aK.bg g) (by rw[m1 (g<k.aK.eU.c5) (b8.and d),mY h9];rw[hL]at h9;exact eh h9 (u.aj4 U))]);refine B8 agb.K fun ano aHg aHb aif atV P=>?_;have fx:tc k.aK.bg (w4 Q.bg):=wd (sq aN.fx);have jn:gb lG k.aK Q (yX []) (yX []):=⟨fun g p d P P=>sq fx,wd (vK (sq fx)),fun g p a d=>by rw[uf];rw[aif]at d;rw[nf d,mZ d,mY d,oQ];(have t:hK ano=Y:=ķ hK atV);exact⟨t,aN4 (by rw[rl (nv fx aif),yV,zR t])⟩,(Ad ([]) (by kernel_rfl!) (fun g⟨n,ba,_⟩=>aWr)),e⟩;have bQ:cT E k.aK am (akF (abS cB ahV am fa cd).h_ ((aiS.eb.au (·.iX)).k8 fM) (nO B)) Q (yX []) []:=⟨aN,⟨e,fun q p n d P=>by simp at d,.C⟩,fun g⟨n,ba,_⟩=>aWr,fun g U=>(nomatch U)⟩;have cl:=oa Hh ahV.bw am [] am yk (fun n ba=>aWr) .C;have agF:∀j x,(abS cB ahV am fa cd).hr.cm j=c x→am+1≤x:=fun j x d=>cl.1 (j,x) (abz d);(have iM:ma (abS cB ahV am fa cd) ahV:=by rw[mX ⟨lW.cA,e,e,fun j d=>d,fun j d=>d,fun j d=>d,fun j d=>?_⟩,nY d d,y1,m9,y1,m8,mW ap.als.mp (azg _ (am+1) _ (pp d)),mW (aj2 j d).az]);have avU:∀g,¬g6 ([]:rC d7 d7) g:=fun g⟨n,ba,_⟩=>aWr;rw[m1 (ah3 E _ am _ _ (yX []) _ (ajX fn)) (by rw[mX ⟨iM,e,akV am yk,⟨ano,aif⟩,avU _,fun j x d=>(AE (akV x (u.ajS aVl)) (u.alF aVl) (akV x (u.ajS aVl))),fun j ab x aV bj=>Ps cl.2 (abz aV) (abz bj),fun j ab q aV bj=>?_⟩,m2 (Fb aV),mY z1,m2 (Fb bj),mY bz];rw[z1]at bz;exact ap.c.dB bz),mY cJ,m1 (gV E h (amu.deeper (abS cB ahV am fa cd)) k.aK am) (by rw[mX ⟨e,wd (nb hs d),(ni EO (below_caller _) (lT.aHr e) e lW.cA),?_,?_⟩,m2 MI,m5];show amu.i1+1+3*h+10<1000;rw[mW X0 aa cu,m2 SZ,m5];show amu.ib+3+12*h+400<9900;exact X1 aa cu),mY asU];(have aoc:∀j x,(abS cB ahV am fa cd).hr.cm j=c x→∃p,Q.bg x=c p∧p.fS=.gh (an6 (abS cB ahV am fa cd).h_ ((aiS.eb.au (·.iX)).k8 fM) (nO B) j):=fun j x d=>by rw[nD (MH ael d) p a1 a2,mW Ad p ((gg _ a1).1) a2]);rw[m1 (jJ E _ am _ _ _ (abS _ _ am _ _) (ajX _) (akF _ ((aiS.eb.au (·.iX)).k8 _) (nO B)) _ _ (aTJ fn.dc fn.c8) _) (by refine⟨bQ,fun j q hJ J aG br=>?_,jn,fun j x d=>?_⟩;(have Ab:q<vs.z:=by rw[y5 a vs.z,mW a];rw[Ó r.aih a]at br;rw[r.aHw]at br;split at br<;>cases br);rw[Ó r.jP Ab,r.adg]at br;rw[nD (ap.avL.mp br) dE gj a5,mZ br,nf a5,yQ,mY a5,vL,nD (ft.i3 gj) fD ab1 awe,m2 (Fb J),mY abt];(have afz:((aiS.eb.au (·.iX)).k8 fM).cm j=c fD:=by rw[mX QE abZ ?_ ab1,lW.eb,r.aBZ (m4 (u.k0 Ab (u.fp aoR))),mW abt]);refine(vT ?_ (awe.bx jn));rcases aG with aG|aG|aG;rw[mW (zi aG (pp (wy (I5 aG _ _ (nb aav abZ) afz)))),n4 (iM.hr j (pp aG)) x hc,nD (aoc j x hc) p j8 k2,m1 ((abS _ _ am _ _).h_ j≠c yY) (qW (by rw[aG]at a;rw[nf a,mZ a,mY a];injection a)),mY nl];rw[I4 nl _ _ (nb aav abZ) afz]at k2;rw[mW .bF (qd (pp aG) (BU x p hc (u.alF (agF j x hc)) (avU _) j8 k2)),mW (aj2 j aG).az,nD (aoc j x d) p j8 k2,mW AE (avU _) (fun U=>(nomatch U)) (AI _ p j8 k2)]),mY e4,mX aqe (pj bh k (yR Q) aW (fun ac s'=>ao (.ok (.bu (oo ac rO y .B))) s') bb (wW akt) asU cJ lW.bD e4 av fun cf h2 d2 g5 c4 f9 P f2=>?_) (wb j j) (wb j j.az),p4 f2,mZ f2];rintro cM e cy;exact oM av3 cM am _ f9.f3.fr cy
set_option genSizeOf true
set_option genSizeOfSpec true
set_option genInjectivity true
set_option backward.dsimp.useDefEqAttr true
set_option backward.match.sparseCases false
def AaB{b:b8}{X:eW}{vs:vm}{ns:n1}(aB:asW vs ns):ed b X (ns.au .m) vs:=by induction aB with|C=>exact e|s h v l ih=>exact⟨_,_,e,qS v,ih⟩
set_option maxRecDepth 100000 in
def Tp:ml.cB=af.bH.dF "law":=Ē
set_option maxRecDepth 100000 in
def Js:(ml.dX.iL=[])∧aeK=[]:=⟨Ē,Ē⟩
set_option maxRecDepth 100000 in
def To(pm cd mm:ck)(y:ck):ay6 (aw8.at3 ml.cB ml.dX ml.bD ml.d_ pm cd mm) (yX [y])=km ((ml.dX.eb.au (·.iX)).k8 [y]):=Ē
def walked{b':aej}{V:kc}{n:aej}{li:r af.bH}{aaF:vH axc ck}{mg mb:r8}{k:en}{fa:d7}{p:k_}{pm cd mm dV kV:ck}{sa:d7}{eD:vm}{ns:n1}{ao:t7 aGc}{M:j2}(O:atb n li aaF mg mb k.aK)(il:aJz n=F)(ael:axx M k.aK)(ho:aUy fa)(hd:p.fS=.akW {aw8.at3 ml.cB ml.dX ml.bD ml.d_ pm cd mm with iL:=dV,kwdefaults:=kV})(hcd:k.aK.aFx cd ml.cB)(hD:axb mg k.aK ml.dX aeK dV kV)(hmg:mg ml.cB=c (nP fa))(hL:k.aK.aje sa eD.mV)(hI:asW eD ns)(d9:ns.z≤63)(av3:∀h' tk am H,aku k.aK am h' H→ao (.ok aOS) (yR h')):amv (fP b' V) amu (.bp (nP fa) (yX [nP sa])) ao k:=by(have avg:xK k.aK.bg asz:=by obtain⟨_,⟨p,_,_,ho,_⟩,_⟩:=(O.seer il).apC;exact vK ho);obtain⟨cL,gv,aci,ai4⟩:=ael;obtain⟨aD,aFv⟩:=W9 cL gv aci;have aG8:mg=k.aK.ann lG:=O.K.eq_nsMap;rw[←aG8]at aD;have bl:hT (aTV k.aK):=AcS O cL avg aD;have aaQ:akx (aTV k.aK):=XA aFv;have abM:ami (aTV k.aK):=Za (fun ac b2=>Y_ ai4 b2);(have acD:fa=ij 86:=by have Q:=bl.fn 86 "law" e;rw[Tp]at hmg;have h2:aWq mg "law"=c (Ñ ij 86):=Q;rw[hmg]at h2;cases h2;rfl);rw[pD (axb.B (by rw[Js.2]at hD;exact hD) Js.1)];have aG:kV=.B:=axb.noKw (by rw[Js.2]at hD;exact hD);subst aG;obtain⟨r',bJ,av⟩:=WM ns 0;refine nI (nI (nI (Up (E:=aTV k.aK) bl) h 200 fn ard) vs [u' ns.au .m] y pb) r' r' bJ bJ e ho (fd_plain hd) hcd (acD▸abM.db 86 ard e) (LR bl aaQ abM (fun ac=>(Q' bl aaQ abM 200 ac).2) ard.bD) nw (To ..) e ?_ av ?_;(·obtain⟨j8,a1,a2,g1,a3⟩:=hL;exact⟨_,_,e,⟨sa,j8,eD.mV,g1,e,⟨qW (a.az fun n t=>eh oq r.mz),fun U=>eh U r.mz⟩,a1,a2,a3,nb r.hN (tA u.eG d9),AaB hI⟩,e⟩);·intro cM h' tk cv am H aN l;have d:cM=pb:=l;rw[oQ,mW av3 h' tk am H aN]
set_option maxRecDepth 100000 in
def in0:aJz hk=F:=Ē
end
end Mine
open PySem PySem.W PyProof.Rows
set_option maxRecDepth 100000 in
theorem PySem.Challenge.cw_up0030_01_holds : PySem.Challenge.rw_up0030_01.Holds := by
  refine Mine.hd ?_
  intro w s₀ s₁ mg mb G Y fa o pm cd doc dV kV ho hd hcd hD hmg hg args vals as hpre hlay hrd hwl hlo
  obtain ⟨K, KX⟩ := Y
  have T := G.T
  clear G
  refine enter_call ?_
  wrow_args hpre hlay hrd hwl hlo
  rename_i ns h1 h2 h3 h4 h5 a1 a2 sa items a3 hL h6 h7 h8 hI h9 hlen h10
  refine codeAny_mono (Mine.walked T Mine.in0 KX ho hd hcd hD hmg hL hI (by omega) (fun h' tk L m F => ?_)) (fun _ _ x => GoodW.toG x)
  refine goodW_bool F hg (raisesW_false ?_) ?_
  · wrow_none_raised
  · wrow_post
