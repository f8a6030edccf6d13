import PyProof.Rows.All
import Wide.All
import OpenK.AllK
import Wide.FinOn
import KE.KTryDeep
import Lean
import PySem.Challenge.RW_nn0100_01
set_option Elab.async false
set_option maxRecDepth 100000
set_option maxHeartbeats 0
set_option linter.all false
set_option compiler.extract_closed false
set_option bootstrap.genMatcherCode false
set_option genSizeOf false
set_option genInjectivity false
namespace MQ
open Lean
def sk(s:String):Name:=match s.splitOn "." with|[""]=>.anonymous|"T"::r=>r.foldl .mkStr `Lean.Parser.Tactic|"M"::r=>r.foldl .mkStr `Lean.Parser.Term|r=>r.foldl .mkStr .anonymous
def aq(f:Syntax)(x:Array Syntax):Syntax:=.node .none `Lean.Parser.Term.app #[f,mkNullNode x]
def pu(x:Syntax)(l:List (Array Syntax)):List (Array Syntax):=(l.head!.push x)::l.tail
def lf(a:Array Syntax)(t:String):Syntax:=if t.front=='$' then a[t.back.toNat-48]! else if t.front=='\'' then let u:="'".intercalate (t.splitOn "'").tail;if u.isNat then Syntax.mkNatLit u.toNat! else mkIdent (if u=="" then .anonymous else (u.splitOn ".").foldl .mkStr .anonymous) else .atom .none t
def sy(a:Array Syntax)(s:String):Array Syntax:=((s.splitOn " ").foldl (λst t=>
 let x:=st.head!
 let y:=x.extract 1
 if t=="{"||t=="<" then #[]::st else if t=="}" then pu (.node .none (sk x[0]!.getAtomVal) y) st.tail else if t==">" then pu (aq x[0]! y) st.tail else pu (lf a t) st) [#[]]).head!
def sx(a:Array Syntax)(s:String):Syntax:=(sy a s)[0]!
def mp(f:Syntax->Syntax)(a:Array Syntax):Array Syntax:=a.map f
def mn(f:Nat->Syntax)(n:Nat):Array Syntax:=(Array.range n).map f
def sp(t:Array Syntax)(s:String):Syntax:=Syntax.mkSep t (.atom .none s)
def sq(t:Array Syntax):Syntax:=sx #[sp t ";"] "{ T.tacticSeq { T.tacticSeq1Indented $0 } }"
def pq(t:Array Syntax):Syntax:=sx #[sq t] "{ T.paren ( $0 ) }"
def hq(s:String:="{ M.syntheticHole ? _ }"):Syntax:=sx #[] s
def fa(t:Array Syntax):Syntax:=sx #[mkNullNode (mp (λt=>sx #[sq #[t]] "{ group | $0 }") t)] "{ T.first first $0 }"
def fq(t:Array Syntax):Syntax:=fa (t.push (hq "{ T.fail fail { null } }"))
def iq(s:String)(n:Nat):Syntax:=mkIdent (.mkSimple (s++toString n))
def nq(x:Syntax):Syntax:=sx #[x] "{ T.intro intro { null $0 } }"
def kq(x:Syntax):Syntax:=sx #[x] "{ T.clear clear { null $0 } }"
def oq(p h:Syntax):Syntax:=sx #[p,h] "{ T.obtain obtain { null $0 } { null } { null := { null $1 } } }"
def zk:Syntax:=hq "{ T.skip skip }"
def cq(h:Syntax):Syntax:=if h.isIdent then sx #[sq #[kq h]] "{ T.tacticTry_ try $0 }" else zk
def mq(p:Syntax):Syntax:=sx #[p] "{ T.rcasesPatMed { null $0 } }"
def ml(p:Syntax):Syntax:=sx #[p] "{ T.rcasesPatLo $0 { null } }"
def rq(e:Syntax):Syntax:=sx #[e] "{ T.refine refine { M.noImplicitLambda no_implicit_lambda% $0 } }"
def wq(t:Syntax):Syntax:=sx #[sq #[t]] "{ T.withReducible with_reducible $0 }"
def yq(x t:Syntax):Syntax:=sx #[x,t] "{ T.replace replace { M.letDecl { M.letIdDecl { M.letId $0 } { null } { null } := $1 } } }"
def gq(e:Syntax):Syntax:=sx #[e] "< 'Eq.symm $0 >"
def bq(t:Syntax):Syntax:=sx #[sq #[t]] "{ M.byTactic by $0 }"
def lk:Syntax:=bq (hq "{ tacticKernel_rfl kernel_rfl }")
def lq(p:Syntax):Bool:=p.getKind==`Lean.Parser.Tactic.rcasesPat.one&&p[0].getId != `rfl
def zq(b:Bool)(s:Unit->Syntax):MacroM Syntax:=if b then pure (s .unit) else Macro.throwUnsupported
def oc(s:Syntax):Syntax:=
 let n:=s[1][0][0][0][1].getSepArgs
 let h:=s[3][1][0]
 let ps:=if n.size>7 then (n.extract 0 6).push (ml (mq (sx #[sp (n.extract 6 n.size) ","] "{ T.rcasesPat.tuple ⟨ $0 ⟩ }"))) else n
 let m:=ps.size
 let p:=λi=>ps[i]![0]
 let c:=λi=>let p:=p i;if p[0].getNumArgs==1&&lq p[0][0] then 0 else if p[0][0].getKind==`Lean.Parser.Tactic.rcasesPat.ignore then 1 else if (p.find? (·.isToken "|")).isSome||i==6&&n.size>7 then 3 else 2
 fq #[pq (#[fq (mn (λi=>rq (aq (iq ("el"++toString (m-1-i)) (i+1)) #[h,hq])) m)]++#[cq h]
  ++mn (λi=>let x:=iq "zp" i;if c i==0 then nq (p i)[0][0][0] else if c i==2 then pq #[nq x,oq (p i) x] else nq x) m
  ++mn (λi=>if c i==3 then oq (p i) (iq "zp" i) else zk) m)]
def cc(s:Syntax):Syntax:=
 let h:=s[1][0][1]
 let sb:=λx=>sx #[x] "{ T.subst subst { null $0 } }"
 let ij:=λx:Array Syntax=>sx #[h,if x.isEmpty then mkNullNode else sx #[mkNullNode x] "{ null with $0 }"] "{ T.injection injection $0 $1 }"
 let go:=λx=>fq #[sb x,pq #[wq (yq x (sx #[x] "< 'Internal.trq1 $0 'rfl >")),kq x],sx #[x] "{ T.cases cases { null { T.elimTarget { null } $0 } } { null } { null } }"]
 fq ((if s[3].getNumArgs>0||s[1][0][0].getNumArgs>0||!h.isIdent then #[] else #[sx #[h] "{ T.exact exact < 'False.elim $0 > }",pq #[yq h (gq h),sb h],pq #[ij #[],hq "{ T.done done }"]]++mn (λi=>let xs:=mn (iq "zq") (5-i);pq (#[ij xs]++mp go xs)) 5)
  ++mp (λt=>sx #[s[1][0],t,s[3]] "{ T.induction induction { null $0 } { null using $1 } { null } $2 }") (sy #[] "'Bool.casesOn 'List.casesOn 'Option.casesOn 'Or.casesOn 'And.casesOn 'Prod.casesOn 'Exists.casesOn 'Internal.T.casesOn 'Internal.V.casesOn 'PySem.Expr.casesOn 'PySem.Obj.casesOn 'Internal.L.Tm.casesOn 'Internal.Mt.casesOn 'Internal.L.SS.casesOn 'Internal.C.casesOn 'PySem.Value.casesOn 'Array.casesOn 'PySem.Str.casesOn 'Internal.L.Sz.casesOn 'PySem.NameKind.casesOn 'Internal.L.Tk.casesOn 'PySem.Data.casesOn 'PySem.Shared.casesOn 'Internal.L.Pt.casesOn 'PySem.Operator.casesOn 'PySem.Flow.casesOn 'Internal.GB.casesOn 'Except.casesOn 'Internal.L.It.casesOn 'PySem.ExceptHandler.casesOn 'PySem.Fin.casesOn 'PySem.Sem.casesOn 'PySem.UnaryOp.casesOn 'PySem.Comprehension.casesOn 'PySem.Frame.casesOn 'PySem.Arguments.casesOn 'PySem.DictEntry.casesOn 'PySem.FuncBody.casesOn 'PySem.Const.casesOn 'PySem.W.WData.casesOn 'PySem.InCall.casesOn 'PySem.FuncData.casesOn 'PySem.InCallC.casesOn 'Internal.MK.casesOn 'PySem.ScopeKind.casesOn 'Internal.Tr.casesOn 'Internal.An.casesOn 'PySem.CmpOp.casesOn 'Internal.Fx.casesOn 'PySem.W.CFound.casesOn 'PySem.Stmt.casesOn 'Nat.casesAuxOn"))
def rc(s:Syntax)(n:Nat):Syntax:=
 let h:=s[1][0][1]
 let p:=s[2][1]
 let a:=p[0][0].getSepArgs
 if a.size==1 then oq p[0] h else
 let x:=iq "zo" 0
 let f:=λq=>if lq q then pq #[cq h,nq q[0]] else pq #[cq h,nq x,oq (mq q) x]
 let u:=iq "u" n
 let v:=iq "v" n
 let g:=λu t=>pq #[sx #[u,sq #[t]] "{ T.case' case' { null { T.caseArg { Lean.binderIdent $0 } { null } } } => $1 }"]
 fq #[pq #[rq (sx #[h,u,v] "< 'Or.elim $0 { M.syntheticHole ? $1 } { M.syntheticHole ? $2 } >"),g v (if a.size==2 then f a[1]! else pq #[cq h,nq x,sx #[x,ml (sx #[sp (a.extract 1 a.size) "|"] "{ T.rcasesPatMed $0 }")] "{ T.rcases rcases { null { T.elimTarget { null } $0 } } { null with $1 } }"]),g u (f a[0]!)]]
def rw(s:Syntax):Syntax:=
 let l:=s[3]
 if s[1][0].getNumArgs>0||l.getNumArgs>0&&(l[0][1][0].getNumArgs != 1||!l[0][1][0][0].isIdent) then s else
 let x:=l[0][1][0][0]
 pq ((mp (λr=>
  let e:=r[1]
  let y:=λe=>if r[0].getNumArgs>0 then gq e else e
  let es:=if (r.find? λq=>["byTactic","byTactic'","fun","subst","cdot","tuple"].contains q.getKind.getString!).isSome then #[] else #[e]++mn (λi=>aq e (Array.replicate (i+1) (hq "{ M.hole _ }"))) 3
  fq ((mp (λe=>if l.getNumArgs>0 then pq #[wq (sx #[y e,x] "{ T.refine refine < { M.typeAscription { M.hygienicLParen ( { hygieneInfo ' } } { M.syntheticHole ? 'f } : { null { M.arrow { M.hole _ } -> { M.hole _ } } } ) } { M.paren { M.hygienicLParen ( { hygieneInfo ' } } { M.subst $0 ▸ { null $1 } } ) } > }"),kq x,nq x] else wq (rq (sx #[y e,hq] "< 'Eq.substr $0 $1 >"))) es).push (sx #[r,l] "{ T.rewriteSeq rewrite { T.optConfig { null } } { T.rwRuleSeq [ { null $0 } ] } $1 }"))) s[2][1].getSepArgs).push (hq "{ T.tacticTry_ try { T.tacticSeq { T.tacticSeq1Indented { null { T.withReducible with_reducible { T.tacticSeq { T.tacticSeq1Indented { null { T.tacticRfl rfl } } } } } } } } }"))
def xc(s:Syntax):Syntax:=
 let ts:=s[1][1].getSepArgs
 if !s[1].isOfKind `Lean.Parser.Term.anonymousCtor||ts.size<2 then s else
 let us:=if ts.size>7 then (ts.extract 0 6).push (sx #[sp (ts.extract 6 ts.size) ","] "{ M.anonymousCtor ⟨ $0 ⟩ }") else ts
 fa ((mn (λi=>s.setArg 1 (aq (iq ("in"++toString (us.size-1-i)) (i+1)) us)) (us.size-1)).push s)
def om(s:Syntax):Syntax:=
 let le:=hq "{ term‹_› ‹ { term_≤_ { M.hole _ } ≤ { M.hole _ } } › }"
 let sp:=hq "{ T.simp simp { T.optConfig { null { T.configItem { T.posConfigItem + 'arith } } } } { null } { null only } { null } { null } }"
 let d:=hq "{ T.done done }"
 let re:=rq (sx #[le,hq] "< 'ar1 $0 $1 >")
 let rp:=λl=>sx #[sq #[fq #[pq l] ]] "{ T.tacticRepeat_ repeat $0 }"
 fa #[wq (hq "{ T.assumption assumption }"),pq #[sp,d],pq #[rp #[re,sp,d],d],pq #[rp #[re,kq le,rp #[re,sp,d],d],d],pq #[hq "{ T.failIfSuccess fail_if_success { T.tacticSeq { T.tacticSeq1Indented { null { T.simp simp { T.optConfig { null } } { null } { null only } { null [ { null { T.simpLemma { null } { null } 'Internal.nsub } , { T.simpLemma { null } { null } 'Internal.nmin } } ] } { null { T.location at { T.locationWildcard * } } } } } } } }",hq "{ T.lia lia { T.optConfig { null } } }"],s]
def vh(s:Syntax):Syntax:=s.setArgs (mp (λy=>if y.isOfKind `Lean.Parser.Term.hole then mkIdent `ξ else y) s.getArgs)
def pl:List String:="a < 'wpAny < 'model 'prog 'w > >|b < 'Ak 'w 'X 'σ 'env 've 'cs >|c < 'Z3 'c0 'lt 'p 'fo 'q >|d < 'Z4 'c0 'lt 'p 'rest >|e < 'B0 'w 'prog 'K 'n 'an 'r.ev >|f < 'EY 'w 'prog 'K 'n 'an 'r.tr >|g < 'AB 'K 'n 'X 'cx 'env >|h < 'codeAny < 'model 'prog 'w > >|i < 'Ar 'b 'ix 'sc 'w 'z 'sg >|j < 'AN 'w 'X 'σ 'env 've 'cs 'h 'm 'ml 'oss >|k < 'AD 'w 'X 'σ 'env 've 'ke 'an 'E >|l < 'A6 'w 'X 'σ 'env 've 'k 'an 'Q >|m 's.heap.objs.size|n < 'AZ 'w 'X 'σ 'env 've 'cs >|o < 'Z4 'c0 'lt 'p >|p < 'AM 'F0 'N0 'GT >|q < 'Cn 'w 'X 'σ 'env 'kn 'an 'Q >|r < 'Bb 'b 'ix 'sc 'w 'z 'sg 'n' 'l 'tail >|s < 'Bool.and_eq_true { M.hole _ } { M.hole _ } >|t < 'model 'prog 'w >|u < 'AQ 'ds >|v < 'ha { M.hole _ } 'h >|w < 'Ar 'b 'ix 'sc 'w 'z < 'AC 'ah > 'n' >|x < 'Aa 'toks >|y < 'Ab 'i 'ch >|z < 'bs 'nb >|A < 'Aq 'X 'σ 'oss >|B < 'Av 'zz 'e >|C < 'Az < 'BC 'false 's' 'sc > >|D < 'hE.mono 'l1 >|E < 'ZW < 'ns.map 'T.int > >|F < 'PyData.keyHash 'w.params 'name >|G < 'Z4 'c0 'lt 'p' 'rest >|H < 'TQ 'b 'ix 'sc 'w 'n' >|I < 'Nat.le_add_right { M.hole _ } { M.hole _ } >|J < 'ns.map 'T.int >|K < 'AH 's 'kd 'i 'zz >|L < 'hQ.mono 'l1 >|M < 'Nat.le_refl { M.hole _ } >|N < 'ih { M.hole _ } { M.hole _ } { M.hole _ } { M.hole _ } { M.hole _ } { M.hole _ } { M.hole _ } >|O < 'He 'C 'none 'h.objs.size >|P < 'BC 'false 's' 'sc >|Q < 'AJ 'zz 'e >|R < 'hE 've >|S < 'ZW < 'tms.map 'Ce > >|T < 'Option.some.inj 'h >|U < 'Aa < 'Ab 'i1 'h1 > >|V < 'Nat.ble 'l.length 'Af >|W < 'List.Sublist.refl { M.hole _ } >|X < 'ns.take '48 >|Y < 'Di '1642 '1 >|Z < 'AC 'ah >|aa < 'Nat.lt_of_lt_of_le 'hib < 'hb 'b0 'hb0 > >|ab < 'List.mem_cons_of_mem { M.hole _ } 'hu >|ac < 'Int.ofNat_lt.mp 'h >|ad < 'AH 's 'Bm 'k < 'CP 'zz > >|ae < 'intKind 'prog 'w >|af < 'R.toks { M.hole _ } >|ag < 'l1.trans 'l2 >|ah < 'r.bd 'b 'hb >|ai < 'Cc 'z < 'CP 'zz > >|aj < 'Nat.le_succ { M.hole _ } >|ak < 'Aa < 'Ab 'i2 'h2 > >|al < 'tms.map 'Ce >|am < 'q.bd 'b 'hb >|an < 'l2.trans 'l3 >|ao < 'h.ro { M.hole _ } >|ap < 'denote 'tb >|aq < 'Go.ret { M.byTactic by { T.tacticSeq { T.tacticSeq1Indented { null { tacticKernel_rfl kernel_rfl } } } } } >|ar < 'C8 'm 'n >|as < 'List.Perm.swap { M.hole _ } { M.hole _ } { M.hole _ } >|at < 'frz 'BN >|au < 'Fe 'script 'great 'state 'tail >|av < 'iA 'hn >|aw < 'Bool.not_eq_true' { M.hole _ } >|ax < 'Aa 'AY >|ay < 'List.cons.inj 'h >|az < 'σ.le_addC { M.hole _ } >|aA < 'Nat.eq_of_beq_eq_true 'h >|aB < 'ZW 'ts >|aC < 'IT 'st 'pl >|aD < 'Z1 'c0 'lt 'p 'fo 'q 'S 'l 'g >|aE < 'σ.addC 'p >|aF < 'ZV '1336 '1 >|aG < 'R1.toks { M.hole _ } >|aH < 'Gp 'cs0 >|aI < 'eval 'e 'env >|aJ ~__module__|aK ~__firstlineno__|aL ~__static_attributes__|aM ~__dict__|aN ~__weakref__|aO ~__doc__|aP ~MintError|aQ ~ReadError|aR ~OperandError|aS ~SymbolError|aT ~mask|aU ~wrap|aV ~signed|aW ~fits_signed|aX ~fits_unsigned|aY ~fits_either|aZ ~is_fixed|ba ~octetmint.forms|bb ~is_immediate|bc ~is_relative|bd ~takes_memory|be ~kind_size|bf ~slot_of|bg ~takes_register|bh ~takes_worth|bi ~takes_distance|bj ~takes|bk ~memory_size|bl ~pairs_of|bm ~octetmint.iset|bn ~canonical|bo ~codes_of|bp ~find|bq ~octetmint.operands|br ~symbol|bs ~registers|bt ~Operand|bu ~memory|bv ~is_address_register|bw ~check_base|bx ~check_index|by ~check_mem|bz ~sized|bA ~octetmint.att|bB ~is_branch|bC ~is_general|bD ~read_head|bE ~plain_part|bF ~goal_of|bG ~checked_mem|bH ~plain_operands|bI ~telling|bJ ~check_registers|bK ~could_take|bL ~only_size|bM ~complete|bN ~octetmint.expressions|bO ~Expr|bP ~left_spine|bQ ~level_of|bR ~binary_level|bS ~read_part|bT ~read_level|bU ~read_expr|bV ~places|bW ~affine_of|bX ~quotient|bY ~shifted|bZ ~reckoned|ca ~combined|cb ~turned|cc ~evaluate|cd ~names_in|ce ~octetmint.registers|cf ~early_names|cg ~late_ending|ch ~high|ci ~xmm|cj ~rip|ck ~segment|cl ~late_register|cm ~find_register|cn ~word_size|co ~octetmint.intel|cp ~small_name|cq ~read_size|cr ~read_segment|cs ~register_of|ct ~names_register|cu ~read_memory|cv ~read_plain|cw ~read_operand|cx ~read_operands|cy ~read_intel|cz ~octetmint.tokens|cA ~is_sign|cB ~ahead|cC ~name|cD ~_law_box|cE ~law_nn0100_01|cF ~_law_draw|cG ~_law_set|cH ~_law_plain|cI ~_law_number|cJ ~_law_size|cK ~_law_words|cL ~_law_place|cM ~_law_terms|cN ~_law_case|cO ~_law_bracketed|cP ~_law_outside|cQ ~_law_laid|cR ~_law_tokens|cS ~_law_heard|cT ~_law_line|cU ~_law_sized|cV ~_law_spoiled|cW ~law|cX ~self|cY ~size|cZ ~number|da ~kind|db ~worth|dc ~base|dd ~index|de ~scale|df ~prefix|dg ~word|dh ~sign|di ~left|dj ~plus|dk ~minus|dl ~scope|dm ~cursor|dn ~rax|do ~rcx|dp ~rdx|dq ~rbx|dr ~eax|ds ~near|dt ~beta|du ~part|dv ~is_minus|dw ~mem|dx ~reg|dy ~lea|dz ~movzx|dA ~jmp|dB ~read|dC ~terms|dD ~box|dE ~shift|dF ~count|dG ~xmm3|dH ~expected ]|dI ~a register that can't stand there|dJ ~cell|dK ~script|dL ~cells|dM ~great".splitOn "|"
def st(l:String):Syntax:=sx #[sp (mp (λx=>x) (l.toList.map λc=>Syntax.mkNatLit c.toNat).toArray) ","] "< 'PySem.Str.mk < 'Array.mk { term[_] [ $0 ] } > >"
def ph(k:String):Syntax:=match pl.find? (·.startsWith (k++" ")) with|some l=>(match l.splitOn " ~" with|[_,s]=>st s|_=>(sy #[] l)[1]!)|_=>.missing
def tl:List String:="AT:List A8:length A9:some Be:false Bj:true Bl:Value Bq:Option BF:Nat BH:none Ch:wpAny_bind Cs:rfl CL:env CV:Bool CW:Shared CX:trans C9:ref Dc:cons Dd:builtin De:wpAny_pure Df:rest Dg:lst Dk:elim Dn:heap Do:tail Dp:toks Dq:str Dr:Str Ds:type Dt:Int DE:length_append DG:and_eq_true DH:call DV:Params DW:length_cons D4:int D7:get? D8:PySem D9:stop Ev:Heap Ew:params Ex:DictEntry Ey:mono Ez:Expr EA:Addr EB:get?_push_of_some EC:le_of_ble_eq_true EM:ret E5:ctorIdx E6:toArray FN:cel FW:map FX:World FY:congrArg FZ:prog F3:drop F4:this F6:name F7:append_assoc F8:withB Gk:take GO:decide_eq_true GZ:mem_cons G0:body G1:cs1 G2:oss G3:bind G4:inr G5:le_refl G6:bool Hl:symm Ho:wpAny_mono HU:nil HV:Aaj HW:pos HX:inl HZ:ble_eq_true_of_le H5:decide_eq_false H6:lookup H7:append_nil H8:flatten H9:mem_singleton Ia:reverse Ib:mem_map_of_mem Ic:wpAny Id:size IQ:Stmt Jm:scope Jn:head JM:size_toArray JS:map_cons JT:noConfusion JU:Attribute JV:Name JW:get?_push_size JX:mem_append JY:getElem?_eq_some_iff J2:cells J3:natAbs J5:fields J6:locals J7:nth J8:map_append J9:outer Ka:setIfInBounds Kb:take_append_drop Kc:mem_append_right Ke:Around Kf:and_eq_true_iff Kg:cs' Kh:wpAny_holding Ki:false_ne_true Kj:Builtin Kl:compareOp Km:obj Kn:eq_of_beq_eq_true Ko:if_neg Kp:pure Kq:sizeLine_eq Kr:non Ks:absurd Kt:Program Ku:get?_update_self Kv:nodup_cons Kw:beq_iff_eq Kx:wpAny_standAt Ky:inj Kz:mainGlobals KA:data KC:length_nil KG:rows KH:seq KJ:Obj KK:flatMap KL:objs KM:cs2 KO:update KP:Constant KQ:isSome KS:mem_cons_self KU:Array KW:code KY:mem_map KZ:frames K0:noteFrame K7:fin La:contains Lb:names Lc:length_map Ld:tup Le:append Lg:wpAny_field Lh:ExceptHandler Li:fenv Lj:nodup_append Lk:env' Ll:Looks Lm:sysModules Ln:NameKind Lo:Frag Lp:mem_flatMap Lq:mpr Lr:push Ls:ble Lu:if_pos Lv:builtinsNs Lw:ListComp Lx:ble_eq Ly:items Lz:nodup_iff LD:beq_eq_false_iff_ne LE:unsupported LF:length_drop LG:dict LH:alloc LI:Unit LJ:ins LK:function LL:units LM:wpAny_execs_cons LN:le_of_succ_le_succ LO:int_inv LP:qualname LS:motive_1 LU:toNat MP:get?_update_ne N4:lt_of_le_of_lt N6:mapFields N7:take_of_length_le N8:gens N9:hlen Oa:len Ob:toList Oc:eval Od:str_inv Oe:PyProof Of:findIn Og:Sublist Oh:extBut Oi:Tuple Oj:exc Ok:length_take Ol:not_mem_nil Om:PassesOwn On:le_trans Oo:ellipsis Op:subclasses Oq:Nodup Os:rawInt Ot:wpAny_seqItems Ou:casesOn Ov:cls Ow:found Ox:mem_append_left Oy:setFlight Oz:Pos OA:handled OC:hasDict OD:all_eq_true OE:Scope OF:mem_iff OG:starEach OH:succ_le_succ OI:not_eq_true' OJ:getMethod_builtin OK:bne_self_eq_false Pp:cs0 Pq:Comprehension Pz:News PA:SmallTypes PD:slot_tuple_iterator_next PE:new PF:put PG:plainObj_wpAny_Assign_Attribute PH:mem PI:step PJ:lt_of_lt_of_le PK:Operator PL:Internal PM:partValue PN:assign PO:great PP:DecidableEq PQ:kindOf PR:wpAny_noteFrame_againW PS:andThen PU:fmod_eq_emod_of_nonneg PV:or_eq_false_iff PW:get?_none_of_le PX:zero_add PY:wpAny_execs_nil PZ:reverse_reverse P0:UpToSlots P1:subscriptTail P2:false_eq_true P3:Aam P4:qual P5:target P6:here P7:of_decide_eq_true P8:hideAll P9:wpAny_newObj_type Qa:isIns Qc:cell Qd:base Qe:unit Qf:String Qg:perm_middle Qh:min_eq_left Qj:underTheClaimsCaller Qk:ve' Ql:hideAll_get Qm:cons_append Qn:wpAny_call Qp:Env Qq:SameBut Qr:fmod Qs:Subscript Qt:key Qw:oss' Qx:tup_inv Qy:holding Qz:spliced_cons QA:leaving QB:reverse_cons QC:beq QD:plain QE:WData QF:model QG:kernel QH:keep QI:Call QJ:Return QK:le_of_eq QL:or_false QM:cenv QN:state QO:KtsTurn QP:mem_of_mem_drop QQ:letOwnedTupleGo QR:plainAttrs_list QS:Assign QU:le_add_right_of_le QV:forIn_cons QW:assignInOrder_cons QX:wpAny_setField_rec QY:length_eq_zero_iff QZ:fmod_nonneg_of_pos Q2:cur Q3:filterMap Q4:not_lt_zero Q5:take_length Q6:ForInStep Q7:unpackItems Q8:wpAny_callSpecial?_slot Q9:looks_mroIn Ra:tail' Rb:Flow Rc:h'' Rd:OsState Re:False Rg:globalImplicit Rh:instObj Ri:way Rj:wpAny_truthy_bool Rk:compareChain Rl:backTo Rm:map_nil Rn:hideAll_none Rp:deeper Rq:exec Rr:sub_add_cancel Rt:StrsAre Ru:wpAny_loadPart Rv:dct Rw:oss2 Rx:error Ry:treeTable RB:drop_drop RC:boot_heap RD:add_assoc RE:insert RF:ops RG:beq_self_eq_true RH:seqItems? RI:of_hideAll RJ:getM RK:isInstance RL:lt_size RM:isEmpty RO:isStrOf_shape RP:assignInOrder RQ:cStatics RS:any_eq_true RT:getD RU:all_cons RV:dropLast RW:depth RX:slicePicked RY:lookup_cons RZ:succ_add_eq_add_succ R9:codeAny_call_builtin Sa:hpre Sb:motive Sc:mem_cons_of_mem Sd:Raise Se:cs3 Sf:closureTuple Sh:iter Si:le_addC Sj:entryPlaceOf Sk:s'' Sl:kvs Sn:tupleKind So:testChain Sp:getMethod U7:isSubtype U8:Sem U9:FuncData Va:add_comm Vb:ind Vc:le_add Vd:lt_of_succ_lt_succ Ve:markedEach Vf:setField Vg:behindIsImport Vh:compEnvC Vi:wpAny_setField Vj:data_mapFields Vk:ObjectAttr Vl:zip Vm:hash Vn:hout Vo:hne Vp:isFreed Vq:annotations Vr:decide_eq_true_eq Vs:dflts Vt:non_inv Vu:isInt_shape Vv:isSome_iff_exists Vw:slot_list_getitem Vx:field Vy:wpAny_Return_some Vz:wpAny_pyIter_list VA:assign_Name VB:isFreed_of_fields VC:wpAny_loadPart_at VD:isEmpty_iff VE:mainNs VF:denote VG:all VH:Prod VI:lstrip VJ:BoolOp VK:typeIs VL:attributeBase VM:swappedStores VN:methodCallPos VO:natAbs_sub_le VP:and_eq_false_iff VQ:defaults VR:pers VS:addC VT:bool_inv VU:lt_trans VV:cLine VW:wpAny_eqBool_str VX:Model VY:if_false VZ:wpAny_call_entry V0:loc V1:Aai V2:knd V3:oC' V4:globals V5:kwdefaults V6:callerA V7:elt V8:Perm V9:entryOfKey Wa:standAt Wb:clipAt Wc:eq_iff_iff Wd:of_mem_zip We:le_add_right Wf:flatMap_cons Wg:dxs Wh:or_eq_true Wi:succ_ne_zero Wj:call_meets Wk:looks_findIn Wl:putName_dict Wm:find Wn:ahv Wo:fresh Wp:frame Wq:lower Wr:upper Wt:ifs Wu:isStr Wv:hsm Ww:succ Wx:mro Wy:app Wz:kind WA:Rows WC:frz WD:unmarked WE:Data WF:bases WG:globalOf WH:ofString WI:NotIn WJ:binaryOp WK:IsList WM:evalEach WN:tail_any WO:sizeLine WP:bindName WR:keepIn WS:bumpAt WT:FuncBody WU:script WV:Challenge WW:Arguments WX:nodup_nil WY:UnaryOp WZ:valueAt W0:drop_zero W1:cdv W2:cellsFrom W3:get W4:val W5:Frame W6:acc W7:index W8:other W9:alpha Xa:any Xb:zero Xc:toRowW Xd:RcNeAt Xe:oss1 Xf:typeIn Xg:TypeIs Xh:typeOf Xi:tms Xj:hb1 Xk:Code Xl:refl Xm:cur' Xn:hns Xo:init Xp:fdiv Xq:bump Xr:sign Xs:sub".splitOn " "
def tb(c:Name):String:=let s:=c.getString!;if s.length>3 then s else match tl.find? (·.startsWith (s++":")) with|some w=>(w.splitOn ":").getLast!|_=>s
def vq(s:Syntax):Syntax:=match s with
 |.node _ k a=>
  let s:=.node .none k a
  let b:=a.getD 1 .missing
  let t:=k.toString (escape:=false)
  if t=="Lean.Parser.Tactic.cases" then s.setArg 0 (.atom .none "!") else
  if t=="Lean.Parser.Tactic.show" then fa #[rq (sx #[b] "{ M.typeAscription { M.hygienicLParen ( { hygieneInfo ' } } { M.syntheticHole ? _ } : { null $0 } ) }"),s] else
  if t=="Lean.Parser.Tactic.exact"||t=="Lean.Parser.Tactic.refine" then xc s else
  if t=="Lean.Parser.Tactic.rwSeq" then fa #[rw s,s] else
  if t=="Lean.Parser.Tactic.omega" then om s else
  if t=="Lean.Parser.Term.arrow" then sx a "{ M.depArrow { M.explicitBinder ( { null 'ξ } { null : $0 } { null } ) } -> $2 }" else
  if t=="Lean.Parser.Term.basicFun" then s.setArg 0 (vh s[0]) else
  if t=="Lean.Parser.Term.forall"||t=="Lean.Parser.Term.explicitBinder" then s.setArg 1 (vh b) else
  if t=="PySem.W.tacticLk" then fa #[hq "{ tacticKernel_rfl kernel_rfl }",s] else
  if t=="Lean.Parser.Term.tuple" then if b.getNumArgs==0 then lk else s else
  if t=="Lean.Parser.Term.paren" then if b.isOfKind `Lean.Parser.Term.cdot then bq (om (hq "{ T.omega omega { T.optConfig { null } } }")) else s else
  if t=="PySem.Flt.tacticF_two_,_" then rq (sx #[b,s[3],lk,hq] "< 'Go.call $0 $1 $2 $3 >") else
  if t=="termS!_" then match b[0].isInterpolatedStrLit? with
   |some l=>st l
   |_=>s else
  if t=="Lean.Parser.Term.quotedName" then ph ("".intercalate (s[0][0].getAtomVal.splitOn "`")) else
  if t=="Lean.Parser.Command.declaration" then
   if b.isOfKind `Lean.Parser.Command.definition||b.isOfKind `Lean.Parser.Command.abbrev then s.setArg 0 (a[0]!.setArg 4 (hq "{ null { Lean.Parser.Command.noncomputable noncomputable } }")) else s else s
 |.ident _ r n p=>.ident .none r (if n.hasMacroScopes then n else n.components.foldl (λm c=>.mkStr m (tb c)) .anonymous) p
 |_=>s.setInfo .none
end MQ
local macro_rules (kind:=Lean.Parser.Tactic.obtain)|s=>MQ.zq (s[1][0][0][0].getKind==`Lean.Parser.Tactic.rcasesPat.tuple&&s[1][0][0].getNumArgs==1&&s[2].getNumArgs==0&&s[3].getNumArgs>0&&s[1][0][0][0][1].getSepArgs.size>1) λ_=>MQ.oc s
local macro_rules (kind:=Lean.Parser.Tactic.cases)|s=>MQ.zq ((s[0].isToken "!"||s[1][0][1].getId.toString.startsWith "zq")&&s[1].getNumArgs==1&&s[2].getNumArgs==0) λ_=>MQ.cc s
local macro_rules (kind:=Lean.Parser.Tactic.rcases)|s=>λc=>MQ.zq (s[1].getNumArgs==1&&s[1][0][0].getNumArgs==0&&s[2].getNumArgs>0&&(s[2][1][0][0].getNumArgs>1||s[2][1][0][0][0].getKind==`Lean.Parser.Tactic.rcasesPat.tuple)) (λ_=>MQ.rc s c.currMacroScope) c
local macro_rules (kind:=Lean.Parser.Command.variable)|s=>MQ.zq s.getPos?.isSome λ_=>s.rewriteBottomUp MQ.vq
local macro_rules (kind:=Lean.Parser.Command.mutual)|s=>MQ.zq s.getPos?.isSome λ_=>s.rewriteBottomUp MQ.vq
local macro_rules (kind:=Lean.Parser.Command.declaration)|s=>MQ.zq (s.getPos?.isSome&&s[1][1][0].getId.getRoot != `PySem) λ_=>s.rewriteBottomUp MQ.vq
namespace Internal
theorem el11{q:Prop}{A:α->Prop}(h:∃ a,A a)(l:∀ a,A a->q):q:=h.Dk λa h=>l a h
theorem el02{q A B:Prop}(h:A∧B)(l:A->B->q):q:=l h.1 h.2
theorem el21{q:Prop}{A:α->β->Prop}(h:∃ a b,A a b)(l:∀ a b,A a b->q):q:=h.Dk λa h=>h.Dk λb h=>l a b h
theorem el12{q:Prop}{A B:α->Prop}(h:∃ a,A a∧B a)(l:∀ a,A a->B a->q):q:=h.Dk λa h=>l a h.1 h.2
theorem el03{q A B C:Prop}(h:A∧B∧C)(l:A->B->C->q):q:=l h.1 h.2.1 h.2.2
theorem el31{q:Prop}{A:α->β->γ->Prop}(h:∃ a b c,A a b c)(l:∀ a b c,A a b c->q):q:=h.Dk λa h=>h.Dk λb h=>h.Dk λc h=>l a b c h
theorem el22{q:Prop}{A B:α->β->Prop}(h:∃ a b,A a b∧B a b)(l:∀ a b,A a b->B a b->q):q:=h.Dk λa h=>h.Dk λb h=>l a b h.1 h.2
theorem el13{q:Prop}{A B C:α->Prop}(h:∃ a,A a∧B a∧C a)(l:∀ a,A a->B a->C a->q):q:=h.Dk λa h=>l a h.1 h.2.1 h.2.2
theorem el04{q A B C D:Prop}(h:A∧B∧C∧D)(l:A->B->C->D->q):q:=l h.1 h.2.1 h.2.2.1 h.2.2.2
theorem el41{q:Prop}{A:α->β->γ->δ->Prop}(h:∃ a b c d,A a b c d)(l:∀ a b c d,A a b c d->q):q:=h.Dk λa h=>h.Dk λb h=>h.Dk λc h=>h.Dk λd h=>l a b c d h
theorem el32{q:Prop}{A B:α->β->γ->Prop}(h:∃ a b c,A a b c∧B a b c)(l:∀ a b c,A a b c->B a b c->q):q:=h.Dk λa h=>h.Dk λb h=>h.Dk λc h=>l a b c h.1 h.2
theorem el23{q:Prop}{A B C:α->β->Prop}(h:∃ a b,A a b∧B a b∧C a b)(l:∀ a b,A a b->B a b->C a b->q):q:=h.Dk λa h=>h.Dk λb h=>l a b h.1 h.2.1 h.2.2
theorem el14{q:Prop}{A B C D:α->Prop}(h:∃ a,A a∧B a∧C a∧D a)(l:∀ a,A a->B a->C a->D a->q):q:=h.Dk λa h=>l a h.1 h.2.1 h.2.2.1 h.2.2.2
theorem el05{q A B C D E:Prop}(h:A∧B∧C∧D∧E)(l:A->B->C->D->E->q):q:=l h.1 h.2.1 h.2.2.1 h.2.2.2.1 h.2.2.2.2
theorem el51{q:Prop}{A:α->β->γ->δ->ε->Prop}(h:∃ a b c d e,A a b c d e)(l:∀ a b c d e,A a b c d e->q):q:=h.Dk λa h=>h.Dk λb h=>h.Dk λc h=>h.Dk λd h=>h.Dk λe h=>l a b c d e h
theorem el42{q:Prop}{A B:α->β->γ->δ->Prop}(h:∃ a b c d,A a b c d∧B a b c d)(l:∀ a b c d,A a b c d->B a b c d->q):q:=h.Dk λa h=>h.Dk λb h=>h.Dk λc h=>h.Dk λd h=>l a b c d h.1 h.2
theorem el33{q:Prop}{A B C:α->β->γ->Prop}(h:∃ a b c,A a b c∧B a b c∧C a b c)(l:∀ a b c,A a b c->B a b c->C a b c->q):q:=h.Dk λa h=>h.Dk λb h=>h.Dk λc h=>l a b c h.1 h.2.1 h.2.2
theorem el24{q:Prop}{A B C D:α->β->Prop}(h:∃ a b,A a b∧B a b∧C a b∧D a b)(l:∀ a b,A a b->B a b->C a b->D a b->q):q:=h.Dk λa h=>h.Dk λb h=>l a b h.1 h.2.1 h.2.2.1 h.2.2.2
theorem el15{q:Prop}{A B C D E:α->Prop}(h:∃ a,A a∧B a∧C a∧D a∧E a)(l:∀ a,A a->B a->C a->D a->E a->q):q:=h.Dk λa h=>l a h.1 h.2.1 h.2.2.1 h.2.2.2.1 h.2.2.2.2
theorem el06{q A B C D E F:Prop}(h:A∧B∧C∧D∧E∧F)(l:A->B->C->D->E->F->q):q:=l h.1 h.2.1 h.2.2.1 h.2.2.2.1 h.2.2.2.2.1 h.2.2.2.2.2
theorem el61{q:Prop}{A:α->β->γ->δ->ε->ζ->Prop}(h:∃ a b c d e f,A a b c d e f)(l:∀ a b c d e f,A a b c d e f->q):q:=h.Dk λa h=>h.Dk λb h=>h.Dk λc h=>h.Dk λd h=>h.Dk λe h=>h.Dk λf h=>l a b c d e f h
theorem el52{q:Prop}{A B:α->β->γ->δ->ε->Prop}(h:∃ a b c d e,A a b c d e∧B a b c d e)(l:∀ a b c d e,A a b c d e->B a b c d e->q):q:=h.Dk λa h=>h.Dk λb h=>h.Dk λc h=>h.Dk λd h=>h.Dk λe h=>l a b c d e h.1 h.2
theorem el43{q:Prop}{A B C:α->β->γ->δ->Prop}(h:∃ a b c d,A a b c d∧B a b c d∧C a b c d)(l:∀ a b c d,A a b c d->B a b c d->C a b c d->q):q:=h.Dk λa h=>h.Dk λb h=>h.Dk λc h=>h.Dk λd h=>l a b c d h.1 h.2.1 h.2.2
theorem el34{q:Prop}{A B C D:α->β->γ->Prop}(h:∃ a b c,A a b c∧B a b c∧C a b c∧D a b c)(l:∀ a b c,A a b c->B a b c->C a b c->D a b c->q):q:=h.Dk λa h=>h.Dk λb h=>h.Dk λc h=>l a b c h.1 h.2.1 h.2.2.1 h.2.2.2
theorem el25{q:Prop}{A B C D E:α->β->Prop}(h:∃ a b,A a b∧B a b∧C a b∧D a b∧E a b)(l:∀ a b,A a b->B a b->C a b->D a b->E a b->q):q:=h.Dk λa h=>h.Dk λb h=>l a b h.1 h.2.1 h.2.2.1 h.2.2.2.1 h.2.2.2.2
theorem el16{q:Prop}{A B C D E F:α->Prop}(h:∃ a,A a∧B a∧C a∧D a∧E a∧F a)(l:∀ a,A a->B a->C a->D a->E a->F a->q):q:=h.Dk λa h=>l a h.1 h.2.1 h.2.2.1 h.2.2.2.1 h.2.2.2.2.1 h.2.2.2.2.2
theorem el07{q A B C D E F G:Prop}(h:A∧B∧C∧D∧E∧F∧G)(l:A->B->C->D->E->F->G->q):q:=l h.1 h.2.1 h.2.2.1 h.2.2.2.1 h.2.2.2.2.1 h.2.2.2.2.2.1 h.2.2.2.2.2.2
theorem in11{A:α->Prop}(a)(h0:A a):∃ a,A a:=⟨a,h0⟩
theorem in12{A B:α->Prop}(a)(h0:A a)(h1:B a):∃ a,A a∧B a:=⟨a,h0,h1⟩
theorem in21{A:α->β->Prop}(a b)(h0:A a b):∃ a b,A a b:=⟨a,b,h0⟩
theorem in13{A B C:α->Prop}(a)(h0:A a)(h1:B a)(h2:C a):∃ a,A a∧B a∧C a:=⟨a,h0,h1,h2⟩
theorem in22{A B:α->β->Prop}(a b)(h0:A a b)(h1:B a b):∃ a b,A a b∧B a b:=⟨a,b,h0,h1⟩
theorem in31{A:α->β->γ->Prop}(a b c)(h0:A a b c):∃ a b c,A a b c:=⟨a,b,c,h0⟩
theorem in14{A B C D:α->Prop}(a)(h0:A a)(h1:B a)(h2:C a)(h3:D a):∃ a,A a∧B a∧C a∧D a:=⟨a,h0,h1,h2,h3⟩
theorem in23{A B C:α->β->Prop}(a b)(h0:A a b)(h1:B a b)(h2:C a b):∃ a b,A a b∧B a b∧C a b:=⟨a,b,h0,h1,h2⟩
theorem in32{A B:α->β->γ->Prop}(a b c)(h0:A a b c)(h1:B a b c):∃ a b c,A a b c∧B a b c:=⟨a,b,c,h0,h1⟩
theorem in41{A:α->β->γ->δ->Prop}(a b c d)(h0:A a b c d):∃ a b c d,A a b c d:=⟨a,b,c,d,h0⟩
theorem in15{A B C D E:α->Prop}(a)(h0:A a)(h1:B a)(h2:C a)(h3:D a)(h4:E a):∃ a,A a∧B a∧C a∧D a∧E a:=⟨a,h0,h1,h2,h3,h4⟩
theorem in24{A B C D:α->β->Prop}(a b)(h0:A a b)(h1:B a b)(h2:C a b)(h3:D a b):∃ a b,A a b∧B a b∧C a b∧D a b:=⟨a,b,h0,h1,h2,h3⟩
theorem in33{A B C:α->β->γ->Prop}(a b c)(h0:A a b c)(h1:B a b c)(h2:C a b c):∃ a b c,A a b c∧B a b c∧C a b c:=⟨a,b,c,h0,h1,h2⟩
theorem in42{A B:α->β->γ->δ->Prop}(a b c d)(h0:A a b c d)(h1:B a b c d):∃ a b c d,A a b c d∧B a b c d:=⟨a,b,c,d,h0,h1⟩
theorem in51{A:α->β->γ->δ->ε->Prop}(a b c d e)(h0:A a b c d e):∃ a b c d e,A a b c d e:=⟨a,b,c,d,e,h0⟩
theorem in16{A B C D E F:α->Prop}(a)(h0:A a)(h1:B a)(h2:C a)(h3:D a)(h4:E a)(h5:F a):∃ a,A a∧B a∧C a∧D a∧E a∧F a:=⟨a,h0,h1,h2,h3,h4,h5⟩
theorem in25{A B C D E:α->β->Prop}(a b)(h0:A a b)(h1:B a b)(h2:C a b)(h3:D a b)(h4:E a b):∃ a b,A a b∧B a b∧C a b∧D a b∧E a b:=⟨a,b,h0,h1,h2,h3,h4⟩
theorem in34{A B C D:α->β->γ->Prop}(a b c)(h0:A a b c)(h1:B a b c)(h2:C a b c)(h3:D a b c):∃ a b c,A a b c∧B a b c∧C a b c∧D a b c:=⟨a,b,c,h0,h1,h2,h3⟩
theorem in43{A B C:α->β->γ->δ->Prop}(a b c d)(h0:A a b c d)(h1:B a b c d)(h2:C a b c d):∃ a b c d,A a b c d∧B a b c d∧C a b c d:=⟨a,b,c,d,h0,h1,h2⟩
theorem in52{A B:α->β->γ->δ->ε->Prop}(a b c d e)(h0:A a b c d e)(h1:B a b c d e):∃ a b c d e,A a b c d e∧B a b c d e:=⟨a,b,c,d,e,h0,h1⟩
theorem in61{A:α->β->γ->δ->ε->ζ->Prop}(a b c d e f)(h0:A a b c d e f):∃ a b c d e f,A a b c d e f:=⟨a,b,c,d,e,f,h0⟩
theorem nsub(a b:BF):a-b=BF.Xs a b:=rfl
theorem nmin(a b:BF):min a b=BF.min a b:=rfl
theorem trq1{p:Prop}(_:p)(_:p):True:=.intro
theorem ar1{a b c d:BF}(h:c<=d)(k:a+d<=b+c):a<=b:=BF.le_of_add_le_add_right (BF.On k (BF.add_le_add_left h b))
end Internal
namespace Internal
open PySem PySem.W
abbrev A4:=AT (EA×KJ)
def lk:A4->EA->Bq KJ
 |[],_=>BH
 |p::l,a=>match BF.QC p.1 a with
  |Bj=>A9 p.2
  |Be=>lk l a
def ED (o:KJ):Bq KJ:=match o with
 |⟨c,d,dt,sl⟩=>match dt with
  | .freed=>BH
  | .QD=>A9 ⟨c,d,.QD,sl⟩
  | .prim v=>A9 ⟨c,d,.prim v,sl⟩
  | .KH xs n=>A9 ⟨c,d,.KH xs n,sl⟩
  | .LG es n=>A9 ⟨c,d,.LG es n,sl⟩
  | .set es n t=>A9 ⟨c,d,.set es n t,sl⟩
  | .bytearray b n=>A9 ⟨c,d,.bytearray b n,sl⟩
  | .Qc v=>A9 ⟨c,d,.Qc v,sl⟩
  | .func f=>A9 ⟨c,d,.func f,sl⟩
  | .Ov x=>A9 ⟨c,d,.Ov x,sl⟩
  | .J5 vs=>A9 ⟨c,d,.J5 vs,sl⟩
theorem hZ {o o':KJ} (h:ED o=A9 o'):o'=o/\o.Vp=Be:=by
 obtain⟨c,d,dt,sl⟩:=o;cases dt<;>first|exact⟨(Bq.A9.Ky h).Hl,Cs⟩|exact nomatch (show(BH:Bq KJ)=A9 _ from h)
def up:A4->EA->KJ->A4
 |[],_,_=>[]
 |p::l,a,o=>match BF.QC p.1 a with
  |Bj=>(a,o)::l
  |Be=>p::up l a o
theorem jb (p:EA×KJ) (l:A4) (a:EA):lk (p::l) a=match BF.QC p.1 a with|Bj=>A9 p.2|Be=>lk l a:=rfl
theorem tY (p:EA×KJ) (l:A4) (a:EA) (o:KJ):up (p::l) a o=match BF.QC p.1 a with|Bj=>(a,o)::l|Be=>p::up l a o:=rfl
theorem cG (a b:BF):BF.QC a b=decide (a=b):=by
 by_cases h:a=b
 .subst h;simp[BF.beq_refl]
 .rw[H5 h]
  cases q:BF.QC a b with
  |Be=>rfl
  |Bj=>exact Ks (BF.Kn q) h
theorem zF (T:A4) (a:EA) (o:KJ) (b:EA) (h:(lk T a).KQ=Bj):lk (up T a o) b=if b=a then A9 o else lk T b:=by
 induction T with
 |HU=>cases h
 |Dc p l ih=>
  rw[tY]
  by_cases hp:p.1=a
  .have e:BF.QC p.1 a=Bj:=by rw[cG,GO hp]
   rw[e]
   show(match BF.QC a b with|Bj=>A9 o|Be=>lk l b)=if b=a then A9 o else(match BF.QC p.1 b with|Bj=>A9 p.2|Be=>lk l b)
   rw[cG,cG,hp]
   by_cases hb:b=a
   .subst hb;simp
   .have:¬a=b:=λq=>hb q.Hl
    simp[hb,F4]
  .have e:BF.QC p.1 a=Be:=by rw[cG,H5 hp]
   rw[e];have h':(lk l a).KQ=Bj:=by
    rw[jb,e] at h;exact h
   show(match BF.QC p.1 b with|Bj=>A9 p.2|Be=>lk (up l a o) b)=if b=a then A9 o else(match BF.QC p.1 b with|Bj=>A9 p.2|Be=>lk l b)
   rw[ih h',cG]
   by_cases hb:p.1=b
   .have:¬b=a:=λq=>hp (hb.CX q)
    simp[hb,F4]
   .simp[hb]
structure FL (s:CW) (T:A4) (m i:BF):Prop where
 Id:`m=m
 at_:∀a o,lk T a=A9 o->s.Dn.D7 a=A9 o
 N8:s.N8= #[]
 Dp:s.Dp=i
theorem FL.LH {s:CW} {T:A4} {m i:BF} (R:FL s T m i) {o:KJ} (hf:o.Vp=Be):FL {s with Dn:=s.Dn.Lr o} ((m,o)::T) (m+1) i:=by
 refine⟨by show(s.Dn.Lr o).KL.Id=m+1;rw[Ev.size_push,R.Id],λa o' e=> ?_,R.N8,R.Dp⟩
 show(s.Dn.Lr o).D7 a=A9 o'
 rw[jb,cG] at e
 by_cases h:m=a
 .subst h
  simp at e
  subst e;rw[<-R.Id];exact Ev.JW _ hf
 .simp[h] at e
  exact Ev.EB _ (R.at_ a o' e)
theorem FL.KO {s:CW} {T:A4} {m i:BF} (R:FL s T m i) {a:EA} {o o':KJ} {f:KJ->KJ} (e:lk T a=A9 o) (hf:f o=o') (hn:o'.Vp=Be):FL {s with Dn:=s.Dn.KO a f} (up T a o') m i:=by
 have hs:Ev.Qq a s.Dn (s.Dn.KO a f):=Ev.Qq.KO ..;have ho:=R.at_ _ _ e;refine⟨hs.1.CX R.Id,λb x q=> ?_,R.N8,R.Dp⟩;rw[zF T a o' b (by rw[e];rfl)] at q
 by_cases hb:b=a
 .subst hb
  rw[Lu rfl] at q;cases q
  have:=Ev.Ku f ho (by rw[hf];exact hn)
  rw[hf] at F4;exact F4
 .rw[Ko hb] at q
  exact(hs.2 b hb).CX (R.at_ b x q)
abbrev X6:=Bq (Rb×A4×BF×BF×Xk×Oz)
def EL (W:AT EA) (m₀:BF) (h h':Ev):Prop:=∀b o,b<m₀->b∉W->h.D7 b=A9 o->h'.D7 b=A9 o
def UT (W:AT EA) (m₀:BF) (a:EA):CV:=match BF.Ls m₀ a with
 |Bj=>Bj
 |Be=>W.Xa λb=>BF.QC b a
def Ha (a:EA):CV:=match BF.Ls 11 a with
 |Bj=>Bj
 |Be=>match BF.QC a VE with
  |Bj=>Bj
  |Be=>BF.QC a RQ
def Ci (den:Xk->U8 Fin) (p:Kt) (w:FX) (W:AT EA) (m₀:BF):BF->U8 Fin->Xk->Oz->AT W5->A4->BF->BF->X6
 |0=>λ_ _ _ _ _ _ _=>BH
 |n+1=>λQ2 KW HW st T m i=>match Q2 with
  | .Kp K7=>match K7 with
   | .done f=>match st with
    |[]=>BH
    |fr::Df=>match Df with
     |[]=>A9 (f,T,m,i,KW,HW)
     |_::_=>match fr with
      | .EM k _ _ _ c p' _=>Ci den p w W m₀ n (k (.ok f)) c p' Df T m i
      | .gen .. =>BH
   | .again c=>match c.quiet with
    |Be=>BH
    |Bj=>
     let st:=match KW,c,st with
      | .Dd ..,.DH f a,.EM k h g l cd p kept::Df=> .EM k h g l cd p (kept++WD (f::a.refs))::Df
      | .DH f _,.DH ..,.EM k h g l cd p kept::Df=> .EM k h g l cd p (kept++ .Oo::WD [f])::Df
      | .DH f a,.Dd ..,.EM k h g l cd p kept::Df=>
       .EM k h g l cd p (if l.La borrowed then kept.takeWhile (· != .Oo)++WD a.refs else WD (kept++f::a.refs))::Df
      | .DH ..,_,.EM k h g l cd p kept::Df=> .EM k h g l cd p (kept.takeWhile (· != .Oo))::Df
      |_,_,_=>st
     Ci den p w W m₀ n (den c) c HW st T m i
  | .raise e=>match st with
   |[]=>BH
   |fr::Df=>match fr with
    | .EM k _ _ _ c p' _=>Ci den p w W m₀ n (k (.Rx e)) c p' Df T m i
    | .gen .. =>BH
  | .rule _ k=>Ci den p w W m₀ n (k LI.Qe) KW HW st T m i
  | .at q k=>Ci den p w W m₀ n (k LI.Qe) KW q st T m i
  | .load a _ k=>match lk T a with
   |A9 o=>Ci den p w W m₀ n (k o) KW HW st T m i
   |BH=>BH
  | .KO a _ f k=>match UT W m₀ a with
   |Be=>BH
   |Bj=>match Ha a with
    |Be=>BH
    |Bj=>match lk T a with
     |BH=>BH
     |A9 o=>match ED (f o) with
      |BH=>BH
      |A9 o'=>Ci den p w W m₀ n (k LI.Qe) KW HW st (up T a o') m i
  | .LH o k=>match ED o with
   |BH=>BH
   |A9 o'=>Ci den p w W m₀ n (k m) KW HW st ((m,o')::T) (m+1) i
  | .loadIfAlive a k=>match lk T a with
   |A9 o=>Ci den p w W m₀ n (k (A9 o)) KW HW st T m i
   |BH=>BH
  | .point _ k=>Ci den p w W m₀ n (k LI.Qe) KW HW st T m i
  | .Wo k=>Ci den p w W m₀ n (k i) KW HW st T m (i+1)
  | .ask k=>Ci den p w W m₀ n (k ⟨p,w.Ew⟩) KW HW st T m i
  | .DH c h g l k=>
   let kept:=match c,KW with
    | .Dd _ a,_=>WD a.refs
    | .DH f a,.Dd .. | .DH f a,.DH .. =>WD (if l.La borrowed then a.refs else f::a.refs)
    |_,_=>[]
   Ci den p w W m₀ n (den c) c HW (.EM k h g l KW HW kept::st) T m i
  | .OA own k=>Ci den p w W m₀ n (k (topHandled (if own then(match splitAtGen st with|A9 (fs,_,_)=>fs|BH=>st) else st))) KW HW st T m i
  | .stack k=>Ci den p w W m₀ n (k ((KW,HW)::st.FW W5.where_)) KW HW st T m i
  |_=>BH
theorem EL.Xl (W:AT EA) (m₀:BF) (h:Ev):EL W m₀ h h:=λ_ _ _ _ e=>e
theorem EL.CX {W:AT EA} {m₀:BF} {h h' Rc:Ev} (a:EL W m₀ h h') (b:EL W m₀ h' Rc):EL W m₀ h Rc:=λx o hx hw e=>b x o hx hw (a x o hx hw e)
theorem EL.Lr {W:AT EA} {m₀:BF} {h:Ev} (o:KJ):EL W m₀ h (h.Lr o):=λ_ _ _ _ e=>Ev.EB _ e
theorem EL.KO {W:AT EA} {m₀:BF} {h:Ev} {a:EA} {f:KJ->KJ} (hm:UT W m₀ a=Bj):EL W m₀ h (h.KO a f):=λb o hb hw e=>by
 have hs:Ev.Qq a h (h.KO a f):=Ev.Qq.KO ..
 refine(hs.2 b λq=> ?_).CX e
 subst q;unfold UT at hm
 have:BF.Ls m₀ b=Be:=by
  cases z:BF.Ls m₀ b with
  |Be=>rfl
  |Bj=>exact Ks (BF.EC z) (BF.not_le_of_lt hb)
 rw[F4] at hm;obtain⟨x,hx,he⟩:=AT.RS.mp hm;exact hw ((BF.Kn he)▸hx)
theorem oA {a:EA} (h:Ha a=Bj) (ann:Bq Bl):(BF.Ls 11 a||a==VE||a==RQ||ann==A9 (.C9 a))=Bj:=by
 unfold Ha at h;cases z:BF.Ls 11 a with
 |Bj=>simp
 |Be=>
  rw[z] at h;cases y:BF.QC a VE with
  |Bj=>have:a=VE:=BF.Kn y;simp[F4]
  |Be=>
   rw[y] at h
   have:a=RQ:=BF.Kn h
   simp[F4]
section
variable {tb:Qf->Bq Kj} {p:Kt} {w:FX} {W:AT EA} {m₀:BF} {ann:Bq Bl}
theorem qx {n:BF} {s s₂ s':CW} {t t₂:Thread} {r:Rb} {c':Xk} {p':Oz} (he:endAt 1 t=BH) (hk:stepOk 11 ann t=Bj) (hs:PI (VF tb) p w s t= .go s₂ t₂)
  (h:segRun tb p w 11 ann 1 n s₂ t₂=A9 (r,s',c',p')):segRun tb p w 11 ann 1 (n+1) s t=A9 (r,s',c',p'):=by
 unfold segRun;rw[he,hk,hs];exact h
theorem aX {Q2:U8 Fin} {KW:Xk} {HW:Oz} {st:AT W5} (h:∀f,Q2≠.Kp (.done f)):endAt 1 ⟨Q2,KW,HW,st⟩=BH:=by
 unfold endAt;dsimp only;cases q:st.A8==1 with
 |Be=>rfl
 |Bj=>
  cases Q2 with
  |Kp K7=>cases K7 with
   |done f=>exact Ks rfl (h f)
   |again c=>rfl
  |_=>rfl
def SQ (tb:Qf->Bq Kj) (p:Kt) (w:FX) (W:AT EA) (m₀:BF) (ann:Bq Bl) (n:BF) (Q2:U8 Fin) (KW:Xk) (HW:Oz) (st:AT W5) (T:A4) (m i:BF):Prop:=
 ∀f T' m' i' c' p',Ci `ap p w W m₀ n Q2 KW HW st T m i=A9 (f,T',m',i',c',p')->m₀<=m->∀s,FL s T m i->
  ∃s',segRun tb p w 11 ann 1 n s ⟨Q2,KW,HW,st⟩=A9 (f,s',c',p')/\FL s' T' m' i'/\EL W m₀ s.Dn s'.Dn
section
variable {n:BF} {Q2 cur2:U8 Fin} {KW code2:Xk} {HW pos2:Oz} {st st2:AT W5} {T T2:A4} {m i m2 i2:BF}
theorem SQ.no (h:Ci (VF tb) p w W m₀ n Q2 KW HW st T m i=BH):SQ tb p w W m₀ ann n Q2 KW HW st T m i:=
 λ_ _ _ _ _ _ e=>nomatch h.Hl.CX e
theorem SQ.go (q:SQ tb p w W m₀ ann n cur2 code2 pos2 st2 T2 m2 i2) (hm:m<=m2) (e:Ci (VF tb) p w W m₀ (n+1) Q2 KW HW st T m i=Ci (VF tb) p w W m₀ n cur2 code2 pos2 st2 T2 m2 i2)
  (he:endAt 1 ⟨Q2,KW,HW,st⟩=BH) (hk:stepOk 11 ann ⟨Q2,KW,HW,st⟩=Bj)
  (g:∀s,FL s T m i->∃s2,PI `ap p w s ⟨Q2,KW,HW,st⟩= .go s2 ⟨cur2,code2,pos2,st2⟩/\FL s2 T2 m2 i2/\EL W m₀ s.Dn s2.Dn):SQ tb p w W m₀ ann (n+1) Q2 KW HW st T m i:=by
 intro f T' m' i' c' p' h h0 s R;obtain⟨s2,hs,R2,L2⟩:=g s R;obtain⟨s',e',R',L'⟩:=q f T' m' i' c' p' (e▸h) (BF.On h0 hm) s2 R2;exact⟨s',qx he hk hs e',R',L2.CX L'⟩
theorem SQ.go0' (q:SQ tb p w W m₀ ann n cur2 code2 pos2 st2 T m i) (e:Ci (VF tb) p w W m₀ (n+1) Q2 KW HW st T m i=Ci (VF tb) p w W m₀ n cur2 code2 pos2 st2 T m i)
  (he:endAt 1 ⟨Q2,KW,HW,st⟩=BH) (hk:stepOk 11 ann ⟨Q2,KW,HW,st⟩=Bj)
  (g:∀s,FL s T m i->PI `ap p w s ⟨Q2,KW,HW,st⟩= .go s ⟨cur2,code2,pos2,st2⟩):SQ tb p w W m₀ ann (n+1) Q2 KW HW st T m i:=
 SQ.go q `M e he hk λs R=>⟨s,g s R,R,λ_ _ _ _ x=>x⟩
theorem SQ.go0 (q:SQ tb p w W m₀ ann n cur2 code2 pos2 st2 T m i) (e:Ci (VF tb) p w W m₀ (n+1) Q2 KW HW st T m i=Ci (VF tb) p w W m₀ n cur2 code2 pos2 st2 T m i)
  (he:endAt 1 ⟨Q2,KW,HW,st⟩=BH) (hk:stepOk 11 ann ⟨Q2,KW,HW,st⟩=Bj)
  (g:∀s,PI `ap p w s ⟨Q2,KW,HW,st⟩= .go s ⟨cur2,code2,pos2,st2⟩):SQ tb p w W m₀ ann (n+1) Q2 KW HW st T m i:=
 SQ.go0' q e he hk λs _=>g s
theorem SQ.bn {b:CV} {k:X6} (e:b=Be) (h:Ci (VF tb) p w W m₀ n Q2 KW HW st T m i=match(generalizing:=false) b with|Be=>BH|Bj=>k):SQ tb p w W m₀ ann n Q2 KW HW st T m i:=
 .no (by rw[h,e])
theorem bm {b:CV} (e:b=Bj) (k:X6):(match(generalizing:=false) b with|Be=>BH|Bj=>k)=k:=by rw[e]
theorem yE {x:W5} {l:AT W5} {y:W5}:endAt 1 ⟨Q2,KW,HW,x::y::l⟩=BH:=by
 unfold endAt;simp
end
theorem qK {c KW:Xk} {HW:Oz} {st:AT W5} (hq:c.quiet=Bj):stepOk 11 ann ⟨.Kp (.again c),KW,HW,st⟩=Bj:=by
 have z:=Thread.loud_again c KW HW st;rw[hq] at z
 show(Thread.calm _&&Bj)=Bj
 rw[CV.and_true];simp only[CV.not_true,Thread.loud,CV.PV,CV.VP] at z;unfold Thread.calm;rw[z.2];rcases z.1 with ZT|ZT
 .rw[ZT];rfl
 .have:Thread.atExit ⟨.Kp (.again c),KW,HW,st⟩=Bj:=by simpa using ZT
  rw[F4];simp
theorem lj:∀(n:BF) (Q2:U8 Fin) (KW:Xk) (HW:Oz) (st:AT W5) (T:A4) (m i:BF),SQ tb p w W m₀ ann n Q2 KW HW st T m i:=by
 intro n
 induction n with
 |Xb=>exactλ_ _ _ _ _ _ _=> .no rfl
 |Ww n ih=>
  intro Q2 KW HW st T m i;cases Q2 with
  |Kp K7=>
   cases K7 with
   |done g=>
    cases st with
    |HU=>exact .no rfl
    |Dc fr Df=>
     cases Df with
     |HU=>
      intro f T' m' i' c' p' h hm s R;cases h;exact⟨s,Cs,R,λ_ _ _ _ e=>e⟩
     |Dc fr2 Df=>
      cases fr with
      |EM k hd gd l c q kept=>exact .go0 `N rfl yE rfl λ_=>rfl
      |gen=>exact .no rfl
   |again c=>
    cases hq:c.quiet with
    |Be=>exact .bn hq rfl
    |Bj=>exact .go0 `N (bm hq _) (aX λ_ h=>by cases h) (qK hq) λ_=>rfl
  |raise e=>
   cases st with
   |HU=>exact .no rfl
   |Dc fr Df=>
    cases fr with
    |EM k hd gd l c q kept=>exact .go0 `N rfl (aX λ_=>nofun) rfl λ_=>rfl
    |gen=>exact .no rfl
  |load a q k=>
   have e0:Ci `ap p w W m₀ (n+1) (.load a q k) KW HW st T m i=match lk T a with|A9 o=>Ci `ap p w W m₀ n (k o) KW HW st T m i|BH=>BH:=rfl
   cases e:lk T a with
   |BH=>exact .no (e0.CX (by rw[e]))
   |A9 o=>exact .go0' (ih (k o) KW HW st _ _ _) (e0.CX (by rw[e])) (aX λ_=>nofun) rfl λs R=>by simp only[PI,R.at_ _ _ e]
  |loadIfAlive a k=>
   have e0:Ci `ap p w W m₀ (n+1) (.loadIfAlive a k) KW HW st T m i=match lk T a with|A9 o=>Ci `ap p w W m₀ n (k (A9 o)) KW HW st T m i|BH=>BH:=rfl
   cases e:lk T a with
   |BH=>exact .no (e0.CX (by rw[e]))
   |A9 o=>exact .go0' (ih (k (A9 o)) KW HW st _ _ _) (e0.CX (by rw[e])) (aX λ_=>nofun) rfl λs R=>by simp only[PI,R.at_ _ _ e]
  |KO a q g k=>
   cases e1:UT W m₀ a with
   |Be=>exact .bn e1 rfl
   |Bj=>
    cases e2:Ha a with
    |Be=>exact .bn e2 (bm e1 _)
    |Bj=>
     have e0:Ci `ap p w W m₀ (n+1) (.KO a q g k) KW HW st T m i=match lk T a with|BH=>BH|A9 o=>match ED (g o) with|BH=>BH|A9 o'=>Ci `ap p w W m₀ n (k LI.Qe) KW HW st (up T a o') m i:=(bm e1 _).CX (bm e2 _)
     cases e:lk T a with
     |BH=>exact .no (e0.CX (by rw[e]))
     |A9 o=>
      rw[e] at e0;cases e3:ED (g o) with
      |BH=>exact .no (e0.CX (by dsimp only;rw[e3]))
      |A9 o'=>
       dsimp only at e0;rw[e3] at e0;have z:=hZ e3;refine .go (ih (k LI.Qe) KW HW st (up T a o') m i) `M e0 (aX λ_=>nofun) ?_ λs R=>⟨{s with Dn:=s.Dn.KO a g},?_,R.KO e z.1.Hl (z.1▸z.2),EL.KO e1⟩
       .show(Thread.calm _&&(BF.Ls 11 a||a==VE||a==RQ||ann==A9 (.C9 a)))=Bj
        rw[oA e2];rfl
       .simp only[PI,R.at_ _ _ e];rfl
  |LH o k=>
   have e0:Ci `ap p w W m₀ (n+1) (.LH o k) KW HW st T m i=match ED o with|BH=>BH|A9 o'=>Ci `ap p w W m₀ n (k m) KW HW st ((m,o')::T) (m+1) i:=rfl
   cases e3:ED o with
   |BH=>exact .no (e0.CX (by rw[e3]))
   |A9 o'=>
    rw[e3] at e0;have z:=hZ e3;refine .go (ih (k m) KW HW st ((m,o')::T) (m+1) i) `aj e0 (aX λ_=>nofun) rfl λs R=>⟨{s with Dn:=s.Dn.Lr o},?_,?_,EL.Lr _⟩
    .simp only[PI,R.Id]
    .rw[z.1];exact R.LH z.2
  |Wo k=>exact .go (ih (k i) KW HW st T m (i+1)) `M rfl (aX λ_=>nofun) rfl λs R=>⟨{s with Dp:=s.Dp+1},by cases R.Dp;rfl,⟨R.Id,R.at_,R.N8,FY (· +1) R.Dp⟩,λ_ _ _ _ x=>x⟩
  |rule tag k=>exact .go0 `N rfl (aX λ_=>nofun) rfl λ_=>rfl
  |«at» q k=>exact .go0 `N rfl (aX λ_=>nofun) rfl λ_=>rfl
  |point l k=>exact .go0 `N rfl (aX λ_=>nofun) rfl λ_=>rfl
  |ask k=>exact .go0 `N rfl (aX λ_=>nofun) rfl λ_=>rfl
  |DH c hd g l k=>exact .go0 `N rfl (aX λ_=>nofun) rfl λ_=>rfl
  |OA own k=>exact .go0 `N rfl (aX λ_=>nofun) rfl λ_=>rfl
  |stack k=>exact .go0 `N rfl (aX λ_=>nofun) rfl λ_=>rfl
  |_=>exact .no rfl
end
def Es:Kt:=by
 refine(?f:(q:Kt)->D8.WV.pw_nn0100_01=q->Kt) ?q ?h
 case f=>exactλq _=>q
 case h=>conv=>lhs;reduce
theorem xK:D8.WV.pw_nn0100_01=Es:=by lk
def Nf:Xk->U8 D8.Fin:=D8.W.Fast.tw11892475500146522536 D8.W.Fast.tw14364793385576792824
theorem wb:VF Ry=Nf:=(congrFun D8.W.Fast.te11892475500146522536 Ry).CX (FY D8.W.Fast.tw11892475500146522536 D8.W.Fast.te14364793385576792824)
def bd:AT IQ:=Es.main.G0
def Bn (i:BF):IQ:=bd.RT i (.Pass default)
def BE (i j:BF):IQ:=if h:(Bn i).E5=2 then IQ.ClassDef.Dk (Bn i) h λ_ _ _ b _ _ _ _ _ _ _=>b.RT j (.Pass default) else Bn i
def HV (P:DV) (x:Dr) (t:BF) (v:Bl):Ex:=⟨PyData.keyHash P x,.Dq x t,v⟩
def UY (st:IQ) (P4:Dr) (dV pm cd:Bl):WE:=if h:st.E5=0 then IQ.FunctionDef.Dk st h λF6 args G0 _ _ _ Jm _ _ _=> .func {F6,LP:=P4,Ew:=args,G0:= .stmts G0,Jm,V4:=VE,closure:=[],VQ:=dV,V5:= .BH,doc:= .BH,pyModule:=pm,Vq:=BH,KW:=cd,Sf:= .BH,builtins:=Lv} else .QD
def BO:Qp:={Jm:=Es.main.Jm,J6:=VE,V4:=VE,J2:=[],KW:= .C9 13,Wp:=A9 14}
def C0:Xk:= .G0 bd BO
def B1:AT W5:=[topFrame ⟨0,0,0,0⟩]
def Z6 (ks:AT BF) (r:Rb×A4×BF×BF×Xk×Oz):Rb×BF×BF×Xk×Oz×AT (Bq KJ):=(r.1,r.2.2.1,r.2.2.2.1,r.2.2.2.2.1,r.2.2.2.2.2,ks.FW (lk r.2.1))
def ZU:=s!"__main__"
def ZT:=s!"_wall"
def ZS:=s!"/claim/cut.py"
def ZR:=s!"__init__"
def ZQ:=s!"Place.__init__"
def ZP:=s!"octetmint.basics"
def ZO:=s!"told"
def ZN:=s!"Place.told"
def Ae:Dr:=⟨⟨[]⟩⟩
def AL:=s!"add"
def Bm:=s!"gpr"
def DI:=s!"."
def TN:AT (Dr×BF×Bl):=[(`aO,166,.BH),(s!"__package__",167,.BH),(s!"__loader__",168,.Dd "__main__.__loader__#opaque"),(s!"__spec__",169,.BH),(s!"__annotations__",170,.C9 6),(s!"__builtins__",171,.C9 4),(s!"__file__",173,.Dq ZS 172),(s!"__cached__",174,.BH),(ZT,193,.C9 21),(s!"Place",233,.C9 45),(`aP,271,.C9 74),(`aQ,287,.C9 87),(`aR,303,.C9 99),(`aS,319,.C9 111),(`aT,326,.C9 120),(`aU,334,.C9 127),(`aV,343,.C9 134),(`aW,352,.C9 141),(`aX,360,.C9 148),(`aY,368,.C9 155),(`aZ,377,.C9 162),(`bb,384,.C9 169),(`bc,391,.C9 176),(`bd,398,.C9 183),(`be,405,.C9 190),(`bf,412,.C9 197),(`bg,420,.C9 204),(`bh,430,.C9 211),(`bi,438,.C9 218),(`bj,447,.C9 225),(s!"Form",530,.C9 283),(s!"ALIASES",534,.Dq s!"c:b nae:b nb:ae nc:ae z:e nz:ne na:be nbe:a pe:p po:np nge:l nl:ge ng:le nle:g" 533),(s!"OTHER_NAMES",536,.Dq s!"sal:shl loopz:loope loopnz:loopne repe:rep repz:rep repnz:repne" 535),(`bl,547,.C9 294),(`bn,557,.C9 301),(`bo,563,.C9 306),(s!"InstructionSet",657,.C9 375),(s!"MEMORY_SIZES",661,.Dq s!"0 8 16 32 64 128" 660),(s!"SCALES",663,.Dq s!"1 2 4 8" 662),(`bt,713,.C9 417),(s!"Reg",752,.C9 452),(s!"Imm",794,.C9 486),(s!"Rel",844,.C9 527),(s!"Mem",920,.C9 580),(s!"Instruction",992,.C9 631),(`bv,999,.C9 642),(`bw,1006,.C9 649),(`bx,1013,.C9 656),(`by,1020,.C9 663),(`bz,1028,.C9 670),(s!"PREFIX_WORDS",1032,.Dq s!"lock rep repe repz repne repnz" 1031),(s!"COUNTED",1034,.Dq s!"rol ror rcl rcr shl shr sar shld shrd" 1033),(s!"TURNS",1036,.Dq s!"rol ror rcl rcr shl shr sar" 1035),(s!"WIDENED",1038,.Dq s!"movzx movsx movsxd" 1037),(s!"WIDE_ALONE",1040,.Dq s!"push pop jmp call" 1039),(s!"POINT_att",1042,.Dq DI 1041),(s!"Head",1082,.C9 694),(`bB,1089,.C9 705),(`bC,1096,.C9 712),(`bD,1106,.C9 719),(`bE,1114,.C9 726),(`bF,1122,.C9 733),(`bG,1131,.C9 740),(`bH,1139,.C9 747),(`bI,1147,.C9 754),(`bJ,1161,.C9 761),(`bK,1171,.C9 768),(`bL,1184,.C9 775),(`bk,1197,.C9 782),(`bM,1203,.C9 787),(s!"MOST_DEPTH",1207,.D4 (10) 1206),(s!"MOST_SHIFT",1209,.D4 (63) 1208),(`bO,1245,.C9 811),(s!"Number",1278,.C9 839),(s!"Symbol",1311,.C9 865),(s!"Here",1335,.C9 884),(s!"Unary",1370,.C9 910),(s!"Binary",1411,.C9 936),(`bP,1420,.C9 945),(`bQ,1427,.C9 952),(`bR,1434,.C9 959),(`bS,1444,.C9 966),(`bT,1456,.C9 973),(`bU,1463,.C9 980),(s!"Affine",1544,.C9 1040),(`bW,1550,.C9 1049),(s!"Scope",1606,.C9 1088),(`bX,1614,.C9 1099),(`bY,1623,.C9 1106),(`bZ,1632,.C9 1113),(`ca,1641,.C9 1120),(`cb,1649,.C9 1127),(`cc,1663,.C9 1135),(`cd,1673,.C9 1142),(s!"NAMES_8",1677,.Dq s!"al cl dl bl spl bpl sil dil" 1676),(s!"NAMES_16",1679,.Dq s!"ax cx dx bx sp bp si di" 1678),(s!"NAMES_32",1681,.Dq s!"eax ecx edx ebx esp ebp esi edi" 1680),(s!"NAMES_64",1683,.Dq s!"rax rcx rdx rbx rsp rbp rsi rdi" 1682),(s!"HIGH_NAMES",1685,.Dq s!"ah ch dh bh" 1684),(s!"LATE_NUMBERS",1687,.Dq s!"8 9 10 11 12 13 14 15" 1686),(s!"XMM_NUMBERS",1689,.Dq s!"0 1 2 3 4 5 6 7 8 9 10 11 12 13 14 15" 1688),(s!"SEGMENT_NAMES",1691,.Dq s!"es cs ss ds fs gs" 1690),(s!"Register",1761,.C9 1194),(`cf,1768,.C9 1205),(`cg,1775,.C9 1212),(Bm,1784,.C9 1219),(`ch,1791,.C9 1226),(`ci,1798,.C9 1233),(`cj,1804,.C9 1240),(`ck,1812,.C9 1247),(`cl,1822,.C9 1254),(`cm,1831,.C9 1261),(s!"POINT_intel",1835,.Dq DI 1834),(s!"SEGMENTS",1837,.Dq s!"fs gs ds" 1836),(`cn,1844,.C9 1268),(`cp,1851,.C9 1275),(`cq,1859,.C9 1282),(`cr,1867,.C9 1289),(`cs,1874,.C9 1296),(`ct,1880,.C9 1301),(s!"Sum",1985,.C9 1367),(`cu,1997,.C9 1378),(`cv,2012,.C9 1385),(`cw,2028,.C9 1392),(`cx,2038,.C9 1399),(`cy,2049,.C9 1406),(s!"Token",2108,.C9 1444),(s!"Cursor",2222,.C9 1542),(`cD,2230,.C9 1551),(`cF,2240,.C9 1558),(`cG,2248,.C9 1565),(`cH,2255,.C9 1572),(`cI,2264,.C9 1579),(`cJ,2271,.C9 1586),(`cK,2280,.C9 1593),(`cL,2296,.C9 1600),(`cM,2309,.C9 1607),(`cN,2317,.C9 1614),(`cO,2328,.C9 1621),(`cP,2337,.C9 1628),(`cQ,2350,.C9 1635),(`cR,2360,.C9 1642),(`cS,2369,.C9 1649),(`cT,2385,.C9 1656),(`cU,2393,.C9 1663),(`cV,2409,.C9 1670),(`cW,2426,.C9 1677)]
def A7 (P:DV) (Z8:Bl) (j n:BF):KJ:=⟨.Ds "dict",BH,.LG (.mk (HV P s!"__name__" 165 Z8::(TN.Gk j).FW λe=>HV P e.1 e.2.1 e.2.2)) n,.mk []⟩
def OO:AT Bl:=([(1,20),(5,27),(13,55),(24,83),(26,95),(28,107),(30,119),(32,126),(34,133),(39,140),(42,147),(44,154),(47,161),(49,168),(51,175),(53,182),(55,189),(63,196),(73,203),(83,210),(94,217),(98,224),(110,231),(144,293),(150,300),(159,305),(163,312),(206,385),(219,427),(230,460),(242,494),(257,535),(285,588),(310,641),(312,648),(320,655),(328,662),(338,669),(347,676),(356,704),(358,711),(360,718),(370,725),(374,732),(380,739),(386,746),(396,753),(400,760),(406,767),(416,774),(425,781),(437,786),(455,793),(462,821),(470,847),(478,873),(482,892),(491,918),(505,944),(513,951),(521,958),(525,965),(546,972),(554,979),(556,986),(588,1048),(599,1055),(622,1098),(628,1105),(634,1112),(648,1119),(656,1126),(664,1134),(679,1141),(701,1148),(723,1204),(733,1211),(741,1218),(748,1225),(752,1232),(756,1239),(758,1246),(763,1253),(772,1260),(789,1267),(791,1274),(793,1281),(800,1288),(807,1295),(809,1300),(811,1307),(881,1377),(889,1384),(904,1391),(924,1398),(933,1405),(940,1412),(956,1454),(1009,1550),(1018,1557),(1029,1564),(1042,1571),(1046,1578),(1057,1585),(1059,1592),(1066,1599),(1085,1606),(1115,1613),(1117,1620),(1125,1627),(1130,1634),(1144,1641),(1150,1648),(1160,1655),(1182,1662),(1184,1669),(1213,1676)]:AT (Dt×BF)).KK λp=>[.D4 p.1 0,.D4 (0) 0,.C9 p.2]
def B7 (j:BF):KJ:=⟨.BH,BH,.J5 (.mk (OO.Gk j)),.mk []⟩
def Ax (a:Dr) (b:BF) (c:Dr) (d e:Dt) (f:BF) (g:Dt) (h:BF):KJ:=⟨.Ds "code",BH,.J5 (.mk [.Dq a b,.Dq c (b+1),.Dq ZS (b+2),.D4 (d) 0,.D4 (e) 0,.D4 (0) 0,.D4 (0) 0,.D4 (3) 0,.C9 f,.G6 Bj,.D4 (181) 0,.C9 (f+1),.BH,.C9 (f+2),.C9 (f+3),.C9 (f+4),.D4 (g) 0,.D4 (d) 0,.Dq ZS h]),.mk []⟩
def Ek:KJ:=⟨.Ds "type",BH,.Ov {F6:=`aP,WF:=[.Ds "Exception"],Wx:=[.C9 74,.Ds "Exception",.Ds "BaseException",.Ds "object"],ns:=73,LP:=`aP,OC:=Bj,Op:=[.C9 87,.C9 99,.C9 111]},.mk [A9 (.C9 50),BH,A9 (.Dq `aP 234),A9 (.Dq `aP 242),A9 (.Dd "Exception.__new__"),A9 (.G6 Bj)]⟩
def Zc (P:DV):KJ:=⟨.Ds "dict",BH,.LG (.mk [HV P s!"__name__" 1 (.Dq s!"builtins" 160),HV P `aO 2 (.Dd "builtins.__doc__:str#opaque"),HV P s!"__package__" 3 (.Dd "builtins.__package__:str#opaque"),HV P s!"__loader__" 4 (.Dd "builtins.__loader__:shared#opaque"),HV P s!"__spec__" 5 (.Dd "builtins.__spec__#opaque"),HV P s!"__build_class__" 6 (.Dd "__build_class__"),HV P s!"__import__" 7 (.Dd "__import__"),HV P s!"abs" 8 (.Dd "abs"),HV P s!"all" 9 (.Dd "all"),HV P s!"any" 10 (.Dd "any"),HV P s!"ascii" 11 (.Dd "ascii"),HV P s!"bin" 12 (.Dd "bin"),HV P s!"breakpoint" 13 (.Dd "breakpoint"),HV P s!"callable" 14 (.Dd "callable"),HV P s!"chr" 15 (.Dd "chr"),HV P s!"compile" 16 (.Dd "compile"),HV P s!"delattr" 17 (.Dd "delattr"),HV P s!"dir" 18 (.Dd "dir"),HV P s!"divmod" 19 (.Dd "divmod"),HV P s!"eval" 20 (.Dd "eval"),HV P s!"exec" 21 (.Dd "exec"),HV P s!"format" 22 (.Dd "format"),HV P s!"getattr" 23 (.Dd "getattr"),HV P s!"globals" 24 (.Dd "globals"),HV P s!"hasattr" 25 (.Dd "hasattr"),HV P s!"hash" 26 (.Dd "hash"),HV P s!"hex" 27 (.Dd "hex"),HV P s!"id" 28 (.Dd "id"),HV P s!"input" 29 (.Dd "input"),HV P s!"isinstance" 30 (.Dd "isinstance"),HV P s!"issubclass" 31 (.Dd "issubclass"),HV P s!"iter" 32 (.Dd "iter"),HV P s!"aiter" 33 (.Dd "aiter"),HV P s!"len" 34 (.Dd "len"),HV P s!"locals" 35 (.Dd "locals"),HV P s!"max" 36 (.Dd "max"),HV P s!"min" 37 (.Dd "min"),HV P s!"next" 38 (.Dd "next"),HV P s!"anext" 39 (.Dd "anext"),HV P s!"oct" 40 (.Dd "oct"),HV P s!"ord" 41 (.Dd "ord"),HV P s!"pow" 42 (.Dd "pow"),HV P s!"print" 43 (.Dd "print"),HV P s!"repr" 44 (.Dd "repr"),HV P s!"round" 45 (.Dd "round"),HV P s!"setattr" 46 (.Dd "setattr"),HV P s!"sorted" 47 (.Dd "sorted"),HV P s!"sum" 48 (.Dd "sum"),HV P s!"vars" 49 (.Dd "vars"),HV P s!"None" 50 (.BH),HV P s!"Ellipsis" 51 (.Oo),HV P s!"NotImplemented" 52 (.notImplemented),HV P s!"False" 53 (.G6 Be),HV P s!"True" 54 (.G6 Bj),HV P s!"bool" 55 (.Ds "bool"),HV P s!"memoryview" 56 (.Ds "memoryview"),HV P s!"bytearray" 57 (.Ds "bytearray"),HV P s!"bytes" 58 (.Ds "bytes"),HV P s!"classmethod" 59 (.Ds "classmethod"),HV P s!"complex" 60 (.Ds "complex"),HV P s!"dict" 61 (.Ds "dict"),HV P s!"enumerate" 62 (.Ds "enumerate"),HV P s!"filter" 63 (.Ds "filter"),HV P s!"float" 64 (.Ds "float"),HV P s!"frozenset" 65 (.Ds "frozenset"),HV P s!"property" 66 (.Ds "property"),HV P s!"int" 67 (.Ds "int"),HV P s!"list" 68 (.Ds "list"),HV P s!"map" 69 (.Ds "map"),HV P s!"object" 70 (.Ds "object"),HV P s!"range" 71 (.Ds "range"),HV P s!"reversed" 72 (.Ds "reversed"),HV P s!"set" 73 (.Ds "set"),HV P s!"slice" 74 (.Ds "slice"),HV P s!"staticmethod" 75 (.Ds "staticmethod"),HV P s!"str" 76 (.Ds "str"),HV P s!"super" 77 (.Ds "super"),HV P s!"tuple" 78 (.Ds "tuple"),HV P s!"type" 79 (.Ds "type"),HV P s!"zip" 80 (.Ds "zip"),HV P s!"__debug__" 81 (.G6 Bj),HV P s!"BaseException" 82 (.Ds "BaseException"),HV P s!"BaseExceptionGroup" 83 (.Ds "BaseExceptionGroup"),HV P s!"Exception" 84 (.Ds "Exception"),HV P s!"GeneratorExit" 85 (.Ds "GeneratorExit"),HV P s!"KeyboardInterrupt" 86 (.Ds "KeyboardInterrupt"),HV P s!"SystemExit" 87 (.Ds "SystemExit"),HV P s!"ArithmeticError" 88 (.Ds "ArithmeticError"),HV P s!"AssertionError" 89 (.Ds "AssertionError"),HV P s!"AttributeError" 90 (.Ds "AttributeError"),HV P s!"BufferError" 91 (.Ds "BufferError"),HV P s!"EOFError" 92 (.Ds "EOFError"),HV P s!"ImportError" 93 (.Ds "ImportError"),HV P s!"LookupError" 94 (.Ds "LookupError"),HV P s!"MemoryError" 95 (.Ds "MemoryError"),HV P s!"NameError" 96 (.Ds "NameError"),HV P s!"OSError" 97 (.Ds "OSError"),HV P s!"ReferenceError" 98 (.Ds "ReferenceError"),HV P s!"RuntimeError" 99 (.Ds "RuntimeError"),HV P s!"StopAsyncIteration" 100 (.Ds "StopAsyncIteration"),HV P s!"StopIteration" 101 (.Ds "StopIteration"),HV P s!"SyntaxError" 102 (.Ds "SyntaxError"),HV P s!"SystemError" 103 (.Ds "SystemError"),HV P s!"TypeError" 104 (.Ds "TypeError"),HV P s!"ValueError" 105 (.Ds "ValueError"),HV P s!"Warning" 106 (.Ds "Warning"),HV P s!"FloatingPointError" 107 (.Ds "FloatingPointError"),HV P s!"OverflowError" 108 (.Ds "OverflowError"),HV P s!"ZeroDivisionError" 109 (.Ds "ZeroDivisionError"),HV P s!"BytesWarning" 110 (.Ds "BytesWarning"),HV P s!"DeprecationWarning" 111 (.Ds "DeprecationWarning"),HV P s!"EncodingWarning" 112 (.Ds "EncodingWarning"),HV P s!"FutureWarning" 113 (.Ds "FutureWarning"),HV P s!"ImportWarning" 114 (.Ds "ImportWarning"),HV P s!"PendingDeprecationWarning" 115 (.Ds "PendingDeprecationWarning"),HV P s!"ResourceWarning" 116 (.Ds "ResourceWarning"),HV P s!"RuntimeWarning" 117 (.Ds "RuntimeWarning"),HV P s!"SyntaxWarning" 118 (.Ds "SyntaxWarning"),HV P s!"UnicodeWarning" 119 (.Ds "UnicodeWarning"),HV P s!"UserWarning" 120 (.Ds "UserWarning"),HV P s!"BlockingIOError" 121 (.Ds "BlockingIOError"),HV P s!"ChildProcessError" 122 (.Ds "ChildProcessError"),HV P s!"ConnectionError" 123 (.Ds "ConnectionError"),HV P s!"FileExistsError" 124 (.Ds "FileExistsError"),HV P s!"FileNotFoundError" 125 (.Ds "FileNotFoundError"),HV P s!"InterruptedError" 126 (.Ds "InterruptedError"),HV P s!"IsADirectoryError" 127 (.Ds "IsADirectoryError"),HV P s!"NotADirectoryError" 128 (.Ds "NotADirectoryError"),HV P s!"PermissionError" 129 (.Ds "PermissionError"),HV P s!"ProcessLookupError" 130 (.Ds "ProcessLookupError"),HV P s!"TimeoutError" 131 (.Ds "TimeoutError"),HV P s!"IndentationError" 132 (.Ds "IndentationError"),HV P s!"_IncompleteInputError" 133 (.Ds "_IncompleteInputError"),HV P s!"IndexError" 134 (.Ds "IndexError"),HV P s!"KeyError" 135 (.Ds "KeyError"),HV P s!"ModuleNotFoundError" 136 (.Ds "ModuleNotFoundError"),HV P s!"NotImplementedError" 137 (.Ds "NotImplementedError"),HV P s!"PythonFinalizationError" 138 (.Ds "PythonFinalizationError"),HV P s!"RecursionError" 139 (.Ds "RecursionError"),HV P s!"UnboundLocalError" 140 (.Ds "UnboundLocalError"),HV P s!"UnicodeError" 141 (.Ds "UnicodeError"),HV P s!"BrokenPipeError" 142 (.Ds "BrokenPipeError"),HV P s!"ConnectionAbortedError" 143 (.Ds "ConnectionAbortedError"),HV P s!"ConnectionRefusedError" 144 (.Ds "ConnectionRefusedError"),HV P s!"ConnectionResetError" 145 (.Ds "ConnectionResetError"),HV P s!"TabError" 146 (.Ds "TabError"),HV P s!"UnicodeDecodeError" 147 (.Ds "UnicodeDecodeError"),HV P s!"UnicodeEncodeError" 148 (.Ds "UnicodeEncodeError"),HV P s!"UnicodeTranslateError" 149 (.Ds "UnicodeTranslateError"),HV P s!"ExceptionGroup" 150 (.Ds "ExceptionGroup"),HV P s!"EnvironmentError" 151 (.Ds "OSError"),HV P s!"IOError" 152 (.Ds "OSError"),HV P s!"open" 153 (.Dd "open"),HV P s!"quit" 154 (.Dd "builtins.quit#opaque"),HV P s!"exit" 155 (.Dd "builtins.exit#opaque"),HV P s!"copyright" 156 (.Dd "builtins.copyright#opaque"),HV P s!"credits" 157 (.Dd "builtins.credits#opaque"),HV P s!"license" 158 (.Dd "builtins.license#opaque"),HV P s!"help" 159 (.Dd "builtins.help#opaque")]) 159,.mk []⟩
def FH (a:Dr) (b c d e f g h:BF):KJ:=⟨.Ds "type",BH,.Ov {F6:=a,WF:=[.Ds "object"],Wx:=[.C9 b,.Ds "object"],ns:=c,LP:=a,OC:=Bj,Op:=[.C9 d,.C9 e,.C9 f,.C9 g]},.mk [BH,BH,A9 (.Dq a h),A9 (.Dq a (h+8)),A9 (.Dd "object.__new__"),A9 (.G6 Bj)]⟩
def Bz (a b:BF) (c d:Dr) (e f:BF):KJ:=⟨.Ds "function",BH,UY (BE a b) c (.BH) (.Dq d e) (.C9 f),.mk []⟩
def BA (a:BF) (b c:Dr) (d e:BF):KJ:=⟨.Ds "function",BH,UY (Bn a) b (.BH) (.Dq c d) (.C9 e),.mk []⟩
def I5:KJ:=⟨.Ds "type",BH,.Ov {F6:=`bO,WF:=[.Ds "object"],Wx:=[.C9 811,.Ds "object"],ns:=810,LP:=`bO,OC:=Bj,Op:=[.C9 839,.C9 865,.C9 884,.C9 910,.C9 936]},.mk [BH,BH,A9 (.Dq `bO 1210),A9 (.Dq `bO 1218),A9 (.Dd "object.__new__"),A9 (.G6 Bj)]⟩
def Jx (a:Dr) (b c d:BF):KJ:=⟨.Ds "type",BH,.Ov {F6:=a,WF:=[.Ds "object"],Wx:=[.C9 b,.Ds "object"],ns:=c,LP:=a,OC:=Bj,Op:=[]},.mk [BH,BH,A9 (.Dq a d),A9 (.Dq a (d+8)),A9 (.Dd "object.__new__"),A9 (.G6 Bj)]⟩
def D0 (P:DV):KJ:=⟨.BH,BH,.LG (.mk [HV P s!"type.__subclasses__.Exception.0" 268 (.D4 (74) 0),HV P s!"type.__subclasses__.Exception.n" 269 (.D4 (1) 0)]) 2,.mk []⟩
def Mm (a:Dr) (b:BF) (c:Dr) (d e:Dt) (f:BF) (g:Dt):KJ:=⟨.Ds "code",BH,.J5 (.mk [.Dq a b,.Dq c (b+1),.Dq ZS (b+2),.D4 (d) 0,.D4 (e) 0,.D4 (0) 0,.D4 (0) 0,.D4 (3) 0,.C9 f,.G6 Bj,.D4 (181) 0,.C9 (f+1),.BH,.BH,.BH,.C9 (f+2),.D4 (g) 0,.D4 (d) 0,.Dq ZS (b+4)]),.mk []⟩
def Hb (a:Dr) (b c d e f:BF):KJ:=⟨.Ds "type",BH,.Ov {F6:=a,WF:=[.C9 b],Wx:=[.C9 c,.C9 b,.Ds "object"],ns:=d,LP:=a,OC:=Bj,Op:=[]},.mk [A9 (.C9 e),BH,A9 (.Dq a f),A9 (.Dq a (f+8)),A9 (.Dd "object.__new__"),A9 (.G6 Bj)]⟩
def Fb (a b:BF):KJ:=⟨.Ds "getset_descriptor",BH,.J5 (.mk [.Dq `aM a,.C9 b,.Dd "function.__dict__",.Dd "function.__dict__#set"]),.mk []⟩
def ER (a b:BF):KJ:=⟨.Ds "getset_descriptor",BH,.J5 (.mk [.Dq `aN a,.C9 b,.Dd "ExceptionGroup.__weakref__",.BH]),.mk []⟩
def M6 (P:DV) (a:BF) (b:Dr) (c:BF) (d:Dt) (e f:BF) (g:Dr) (h:BF) (i:Dr) (j:BF) (k:Dr) (l m:BF) (n:Dr) (o p:BF) (q:Dr) (r s:BF) (t:Dr) (u v:BF):KJ:=⟨.Ds "dict",BH,.LG (.mk [HV P `aJ a (.Dq b c),HV P `aK (a+4) (.D4 (d) (a+3)),HV P ZR e (.C9 f),HV P g h (.C9 (f+7)),HV P i j (.C9 (f+14)),HV P k l (.C9 m),HV P n o (.C9 p),HV P q r (.C9 s),HV P t u (.C9 (s+1)),HV P `aO (u+1) (.BH)]) v,.mk []⟩
def O0 (a:Dr) (b c d e:BF):KJ:=⟨.Ds "type",BH,.Ov {F6:=a,WF:=[.C9 74],Wx:=[.C9 b,.C9 74,.Ds "Exception",.Ds "BaseException",.Ds "object"],ns:=c,LP:=a,OC:=Bj,Op:=[]},.mk [A9 (.C9 d),BH,A9 (.Dq a e),A9 (.Dq a (e+8)),A9 (.Dd "Exception.__new__"),A9 (.G6 Bj)]⟩
def M5 (a b:BF) (c:Dt):KJ:=⟨.Ds "code",BH,.J5 (.mk [.Dq s!"<module>" a,.Dq s!"<module>" (a+1),.Dq ZS (a+2),.D4 (1) 0,.D4 (0) 0,.D4 (0) 0,.D4 (0) 0,.D4 (0) 0,.C9 b,.G6 Be,.D4 (c) 0,.C9 (b+1),.BH,.BH,.BH,.BH,.D4 ((c+4)) 0,.D4 (1) 0,.Dq ZS (a+4)]),.mk []⟩
def M4 (P:DV) (a:BF) (b:Dr) (c:BF) (d:Dt) (e f:BF) (g:Dr) (h i:BF) (j:Dr) (k l:BF) (m:Dr) (n o:BF):KJ:=⟨.Ds "dict",BH,.LG (.mk [HV P `aJ a (.Dq b c),HV P `aK (a+4) (.D4 (d) (a+3)),HV P ZR e (.C9 f),HV P ZO (e+7) (.C9 (f+7)),HV P g h (.C9 i),HV P j k (.C9 l),HV P m n (.C9 (l+1)),HV P `aO (n+1) (.BH)]) o,.mk []⟩
def M3 (P:DV) (a:BF) (b:Dt) (c d e f:BF):KJ:=⟨.Ds "dict",BH,.LG (.mk [HV P `aJ a (.Dq `bN 1204),HV P `aK (a+4) (.D4 (b) (a+3)),HV P ZR c (.C9 d),HV P ZO e (.C9 (d+7)),HV P `aL f (.C9 (d+8)),HV P `aO (f+1) (.BH)]) 2,.mk []⟩
def Hy (a:BF) (b:Dr) (c:BF) (d:Dr) (e f:BF):KJ:=⟨.Ds "function",BH,UY (BE a 0) b (.C9 c) (.Dq d e) (.C9 f),.mk []⟩
def TC (P:DV) (a:BF) (b:Dr) (c:BF) (d:Dt) (e f:BF) (g h i j:Dr) (k:BF) (l:Dr) (m n:BF):KJ:=⟨.Ds "dict",BH,.LG (.mk [HV P `aJ a (.Dq b c),HV P `aK (a+4) (.D4 (d) (a+3)),HV P ZR e (.C9 f),HV P ZO (e+7) (.C9 (f+7)),HV P g (e+14) (.C9 (f+14)),HV P h (e+21) (.C9 (f+21)),HV P i (e+28) (.C9 (f+28)),HV P j k (.C9 (f+35)),HV P l m (.C9 (f+42)),HV P `aL n (.C9 (f+43)),HV P `aM (n+2) (.C9 (f+46)),HV P `aN (n+4) (.C9 (f+47)),HV P `aO (n+5) (.BH)]) 4,.mk []⟩
def TA (a:Dr) (b c d e f g:BF):KJ:=⟨.Ds "type",BH,.Ov {F6:=a,WF:=[.Ds "object"],Wx:=[.C9 b,.Ds "object"],ns:=c,LP:=a,OC:=Bj,Op:=[.C9 d,.C9 e,.C9 f]},.mk [BH,BH,A9 (.Dq a g),A9 (.Dq a (g+8)),A9 (.Dd "object.__new__"),A9 (.G6 Bj)]⟩
def Tz (a:Dr) (b c d e f:BF):KJ:=⟨.Ds "type",BH,.Ov {F6:=a,WF:=[.Ds "object"],Wx:=[.C9 b,.Ds "object"],ns:=c,LP:=a,OC:=Bj,Op:=[.C9 d,.C9 e]},.mk [BH,BH,A9 (.Dq a f),A9 (.Dq a (f+8)),A9 (.Dd "object.__new__"),A9 (.G6 Bj)]⟩
def Ty (P:DV) (a:BF) (b:Dr) (c:BF) (d:Dt) (e:BF) (f:Dr) (g h:BF) (i:Dr) (j:BF) (k:Dr) (l:BF) (m:Dr) (n:BF) (o:Dr) (p:BF):KJ:=⟨.Ds "dict",BH,.LG (.mk [HV P `aJ a (.Dq b c),HV P `aK (a+4) (.D4 (d) (a+3)),HV P ZR (a+15) (.C9 e),HV P f g (.C9 h),HV P i j (.C9 (h+7)),HV P k l (.C9 (h+14)),HV P m (j+14) (.C9 n),HV P o p (.C9 (n+7)),HV P `aL (l+19) (.C9 (n+8)),HV P `aM (l+21) (.C9 (n+11)),HV P `aN (l+23) (.C9 (n+12)),HV P `aO (l+24) (.BH)]) 4,.mk []⟩
def OZ (P:DV) (a:BF) (b:Dr) (c:BF) (d:Dt) (e f:BF) (g:Dr) (h i:BF) (j:Dr) (k l m:BF):KJ:=⟨.Ds "dict",BH,.LG (.mk [HV P `aJ a (.Dq b c),HV P `aK (a+4) (.D4 (d) (a+3)),HV P ZR e (.C9 f),HV P ZO (e+7) (.C9 (f+7)),HV P g h (.C9 i),HV P j k (.C9 l),HV P `aO (k+1) (.BH)]) m,.mk []⟩
def Tx (a:Dr) (b c d e:BF):KJ:=⟨.Ds "type",BH,.Ov {F6:=a,WF:=[.Ds "object"],Wx:=[.C9 b,.Ds "object"],ns:=c,LP:=a,OC:=Bj,Op:=[.C9 d]},.mk [BH,BH,A9 (.Dq a e),A9 (.Dq a (e+8)),A9 (.Dd "object.__new__"),A9 (.G6 Bj)]⟩
def M2 (a:BF):KJ:=⟨.Ds "frame",BH,.QD,.mk [A9 (.C9 a),A9 (.C9 3),A9 (.C9 3),BH,A9 (.Dq ZU 164),BH,A9 (.C9 0)]⟩
def OY (P:DV) (a:BF) (b:Dt) (c:BF):KJ:=⟨.Ds "dict",BH,.LG (.mk [HV P `aJ a (.Dq ZP 194),HV P `aK (a+4) (.D4 (b) (a+3)),HV P `aL (a+5) (.C9 c),HV P `aO (a+6) (.BH)]) 2,.mk []⟩
def M1 (a:BF):KJ:=⟨.Ds "tuple",BH,.KH (.mk [.Dq Ae a]) 0,.mk []⟩
def Tw (P:DV):KJ:=⟨.Ds "dict",BH,.LG (.mk [HV P s!"builtins" 162 (.C9 4),HV P ZU 163 (.C9 5)]) 2,.mk []⟩
def M0 (a:BF):KJ:=⟨.Ds "module",A9 a,.QD,.mk []⟩
def OX:KJ:=⟨.BH,BH,.LG (.mk []) 0,.mk []⟩
def CU (P:DV):A4:=[(13,M5 182 11 181),
 (14,M2 13),
 (0,Zc P),
 (1,Tw P),
 (4,M0 0),
 (5,M0 3),
 (6,⟨.Ds "dict",BH,.LG (.mk []) 0,.mk []⟩),
 (9,M5 176 7 175),
 (10,M2 9)]
def XL (P:DV):AT KJ:=[Zc P,
 Tw P,
 OX,
 ⟨.Ds "dict",BH,.LG (.mk [HV P s!"__name__" 165 (.Dq ZU 164),HV P `aO 166 (.BH),HV P s!"__package__" 167 (.BH),HV P s!"__loader__" 168 (.Dd "__main__.__loader__#opaque"),HV P s!"__spec__" 169 (.BH),HV P s!"__annotations__" 170 (.C9 6),HV P s!"__builtins__" 171 (.C9 4),HV P s!"__file__" 173 (.Dq ZS 172),HV P s!"__cached__" 174 (.BH)]) 9,.mk []⟩,
 M0 0,
 M0 3,
 ⟨.Ds "dict",BH,.LG (.mk []) 0,.mk []⟩,
 ⟨.Ds "tuple",BH,.KH (.mk []) 0,.mk []⟩,
 ⟨.BH,BH,.J5 (.mk []),.mk []⟩,
 M5 176 7 175,
 M2 9,
 ⟨.Ds "tuple",BH,.KH (.mk []) 0,.mk []⟩,
 ⟨.BH,BH,.J5 (.mk []),.mk []⟩,
 M5 182 11 181,
 M2 13]
def Uq (P:DV):A4:=[(2,OX),(3,A7 P (.Dq ZU 164) 8 9),(12,B7 0)]
def Zm (P:DV):A4:=[(2,OX),(3,A7 P (.Dq ZP 194) 10 11),(12,B7 6)]
def Zb (P:DV):A4:=[(20,Ax ZT 187 ZT 1 1 15 191 192),
 (21,BA 0 ZT ZU 164 20),
 (34,Ax ZR 208 ZQ 7 3 29 214 215),
 (35,Bz 2 0 ZQ ZP 194 34),
 (41,Ax ZO 217 ZN 11 1 36 221 222),
 (42,Bz 2 1 ZN ZP 194 41),
 (44,M4 P 203 ZP 194 5 216 35 `aL 226 43 `aM 228 46 `aN 230 4),
 (45,Jx s!"Place" 45 44 196),
 (46,Fb 227 45),
 (47,ER 229 45)]
def Fu (_:DV):A4:=[]
def Jt (c:BF) (o:DV->KJ) (P:DV):A4:=[(c,o P)]
def BY (w:FX) (W:AT EA) (N a b m i:BF) (HW:Oz) (Q2 ns:DV->A4) (m' i':BF) (pos':Oz) (Xm ka:DV->A4):Prop:=
 (Ci Nf Es w W m N (piecesOf ((bd.F3 a).Gk b) BO C0 HW B1).Q2 C0 HW B1 (Q2 w.Ew++(ns w.Ew++CU w.Ew)) m i).FW (Z6 ((Xm w.Ew++ka w.Ew).FW (·.1)))=A9 (.next,m',i',C0,pos',(Xm w.Ew++ka w.Ew).FW λx=>A9 x.2)
theorem aO {w:FX} {W:AT EA} {N a b m i:BF} {HW:Oz} {Q2 ns:DV->A4} {m' i':BF} {pos':Oz} {Xm ka:DV->A4}
  (h:(Ci Nf Es w W m N (piecesOf ((bd.F3 a).Gk b) BO C0 HW B1).Q2 C0 HW B1 (Q2 w.Ew++(ns w.Ew++CU w.Ew)) m i).FW (Z6 ((Xm w.Ew++ka w.Ew).FW (·.1)))=A9 (.next,m',i',C0,pos',(Xm w.Ew++ka w.Ew).FW λx=>A9 x.2)):BY w W N a b m i HW Q2 ns m' i' pos' Xm ka:=h
theorem gr1 (w:FX):BY w [3,12] 294 0 3 15 187 ⟨0,0,0,0⟩ Uq Fu 50 234 ⟨5,0,12,39⟩ Zm Zb:=aO ()
def UR (P:DV):KJ:=OZ P 241 ZP 194 13 254 64 `aL 264 72 `aN 266 75 3
def Zl (P:DV):A4:=[(2,D0 P),(3,A7 P (.Dq ZP 194) 11 12),(12,B7 9),(74,⟨.Ds "type",BH,.Ov {F6:=`aP,WF:=[.Ds "Exception"],Wx:=[.C9 74,.Ds "Exception",.Ds "BaseException",.Ds "object"],ns:=73,LP:=`aP,OC:=Bj,Op:=[]},.mk [A9 (.C9 50),BH,A9 (.Dq `aP 234),A9 (.Dq `aP 242),A9 (.Dd "Exception.__new__"),A9 (.G6 Bj)]⟩)]
def Za (P:DV):A4:=[(57,⟨.Ds "tuple",BH,.KH (.mk [.BH]) 0,.mk []⟩),
 (63,Ax ZR 246 s!"MintError.__init__" 15 3 58 252 253),
 (64,Hy 3 s!"MintError.__init__" 57 ZP 194 63),
 (70,Ax ZO 255 s!"MintError.told" 20 1 65 259 260),
 (71,Bz 3 1 s!"MintError.told" ZP 194 70),
 (73,UR P),
 (75,ER 265 74)]
theorem gr2 (w:FX):BY w [2,3,12] 263 3 1 50 234 ⟨5,0,12,39⟩ Zm Fu 78 272 ⟨13,0,23,29⟩ Zl Za:=aO ()
def Zk (P:DV):A4:=[(2,D0 P),(3,A7 P (.Dq ZP 194) 12 13),(12,B7 12),(74,⟨.Ds "type",BH,.Ov {F6:=`aP,WF:=[.Ds "Exception"],Wx:=[.C9 74,.Ds "Exception",.Ds "BaseException",.Ds "object"],ns:=73,LP:=`aP,OC:=Bj,Op:=[.C9 87]},.mk [A9 (.C9 50),BH,A9 (.Dq `aP 234),A9 (.Dq `aP 242),A9 (.Dd "Exception.__new__"),A9 (.G6 Bj)]⟩)]
def Y9 (P:DV):A4:=[(86,OY P 279 24 85),
 (87,O0 `aQ 87 86 78 272)]
theorem gr3 (w:FX):BY w [3,12,74] 214 4 1 78 272 ⟨13,0,23,29⟩ Zl (Jt 73 UR) 90 288 ⟨24,0,25,8⟩ Zk Y9:=aO ()
def Zj (P:DV):A4:=[(2,D0 P),(3,A7 P (.Dq ZP 194) 13 14),(12,B7 15),(74,⟨.Ds "type",BH,.Ov {F6:=`aP,WF:=[.Ds "Exception"],Wx:=[.C9 74,.Ds "Exception",.Ds "BaseException",.Ds "object"],ns:=73,LP:=`aP,OC:=Bj,Op:=[.C9 87,.C9 99]},.mk [A9 (.C9 50),BH,A9 (.Dq `aP 234),A9 (.Dq `aP 242),A9 (.Dd "Exception.__new__"),A9 (.G6 Bj)]⟩)]
def Y8 (P:DV):A4:=[(98,OY P 295 26 97),
 (99,O0 `aR 99 98 90 288)]
theorem gr4 (w:FX):BY w [3,12,74] 214 5 1 90 288 ⟨24,0,25,8⟩ Zk (Jt 73 UR) 102 304 ⟨26,0,27,8⟩ Zj Y8:=aO ()
def Zi (P:DV):A4:=[(2,D0 P),(3,A7 P (.Dq ZP 194) 20 21),(12,B7 36),(74,Ek)]
def Y7 (P:DV):A4:=[(110,OY P 311 28 109),
 (111,O0 `aS 111 110 102 304),
 (119,Ax `aT 320 `aT 30 1 114 324 325),
 (120,BA 7 `aT ZP 194 119),
 (126,Ax `aU 327 `aU 32 2 121 332 333),
 (127,BA 8 `aU ZP 194 126),
 (133,Ax `aV 335 `aV 34 2 128 341 342),
 (134,BA 9 `aV ZP 194 133),
 (140,Ax `aW 344 `aW 39 2 135 350 351),
 (141,BA 10 `aW ZP 194 140),
 (147,Ax `aX 353 `aX 42 2 142 358 359),
 (148,BA 11 `aX ZP 194 147),
 (154,Ax `aY 361 `aY 44 2 149 366 367),
 (155,BA 12 `aY ZP 194 154)]
theorem gr5 (w:FX):BY w [3,12,74] 395 6 7 102 304 ⟨26,0,27,8⟩ Zj (Jt 73 UR) 156 369 ⟨44,0,45,50⟩ Zi Y7:=aO ()
def Zh (P:DV):A4:=[(2,D0 P),(3,A7 P (.Dq `ba 369) 30 31),(12,B7 66),(74,Ek)]
def Y6 (P:DV):A4:=[(161,Ax `aZ 371 `aZ 47 1 156 375 376),
 (162,BA 14 `aZ `ba 369 161),
 (168,Ax `bb 378 `bb 49 1 163 382 383),
 (169,BA 15 `bb `ba 369 168),
 (175,Ax `bc 385 `bc 51 1 170 389 390),
 (176,BA 16 `bc `ba 369 175),
 (182,Ax `bd 392 `bd 53 1 177 396 397),
 (183,BA 17 `bd `ba 369 182),
 (189,Ax `be 399 `be 55 1 184 403 404),
 (190,BA 18 `be `ba 369 189),
 (196,Ax `bf 406 `bf 63 1 191 410 411),
 (197,BA 19 `bf `ba 369 196),
 (203,Ax `bg 413 `bg 73 2 198 418 419),
 (204,BA 20 `bg `ba 369 203),
 (210,Ax `bh 421 `bh 83 3 205 428 429),
 (211,BA 21 `bh `ba 369 210),
 (217,Ax `bi 431 `bi 94 2 212 436 437),
 (218,BA 22 `bi `ba 369 217),
 (224,Ax `bj 439 `bj 98 3 219 445 446),
 (225,BA 23 `bj `ba 369 224)]
theorem gr6 (w:FX):BY w [3,12] 307 13 11 156 369 ⟨44,0,45,50⟩ Zi Fu 226 448 ⟨98,0,109,49⟩ Zh Y6:=aO ()
def Zg (P:DV):A4:=[(2,D0 P),(3,A7 P (.Dq `ba 369) 31 32),(12,B7 69),(74,Ek)]
def Y5 (P:DV):A4:=[(233,⟨.Ds "tuple",BH,.KH (.mk [.D4 (0) 460,.D4 (-1) 462,.D4 (0) 463,.D4 (0) 464,.G6 Be]) 0,.mk []⟩),
 (237,Mm ZR 465 s!"Form.__init__" 112 9 234 468),
 (238,Hy 24 s!"Form.__init__" 233 `ba 369 237),
 (244,Ax ZO 471 s!"Form.told" 124 1 239 475 476),
 (245,Bz 24 1 s!"Form.told" `ba 369 244),
 (251,Ax s!"slots" 478 s!"Form.slots" 127 1 246 482 483),
 (252,Bz 24 2 s!"Form.slots" `ba 369 251),
 (258,Ax s!"has_modrm" 485 s!"Form.has_modrm" 130 1 253 489 490),
 (259,Bz 24 3 s!"Form.has_modrm" `ba 369 258),
 (265,Ax s!"has_plus" 492 s!"Form.has_plus" 133 1 260 496 497),
 (266,Bz 24 4 s!"Form.has_plus" `ba 369 265),
 (272,Ax `bk 499 s!"Form.memory_size" 136 1 267 503 504),
 (273,Bz 24 5 s!"Form.memory_size" `ba 369 272),
 (279,Ax s!"needs_memory" 506 s!"Form.needs_memory" 139 1 274 510 511),
 (280,Bz 24 6 s!"Form.needs_memory" `ba 369 279),
 (282,TC P 455 `ba 369 110 470 238 s!"slots" s!"has_modrm" s!"has_plus" `bk 505 s!"needs_memory" 512 523),
 (283,Jx s!"Form" 283 282 448),
 (284,Fb 524 283),
 (285,ER 526 283)]
theorem gr7 (w:FX):BY w [3,12] 424 24 1 226 448 ⟨98,0,109,49⟩ Zh Fu 288 531 ⟨110,0,140,16⟩ Zg Y5:=aO ()
def Zf (P:DV):A4:=[(2,D0 P),(3,A7 P (.Dq `bm 531) 36 37),(12,B7 78),(74,Ek)]
def Y4 (P:DV):A4:=[(293,Ax `bl 537 `bl 144 1 288 545 546),
 (294,BA 28 `bl `bm 531 293),
 (300,Ax `bn 548 `bn 150 1 295 555 556),
 (301,BA 29 `bn `bm 531 300),
 (305,Mm `bo 558 `bo 159 1 302 561),
 (306,BA 30 `bo `bm 531 305)]
theorem gr8 (w:FX):BY w [3,12] 119 25 6 288 531 ⟨110,0,140,16⟩ Zg Fu 307 564 ⟨159,0,162,82⟩ Zf Y4:=aO ()
def Ze (P:DV):A4:=[(2,D0 P),(3,A7 P (.Dq `bm 531) 37 38),(12,B7 81),(74,Ek)]
def Y3 (P:DV):A4:=[(319,Ax ZR 576 s!"InstructionSet.__init__" 165 2 314 584 585),
 (320,Bz 31 0 s!"InstructionSet.__init__" `bm 531 319),
 (324,Mm ZO 587 s!"InstructionSet.told" 180 1 321 590),
 (325,Bz 31 1 s!"InstructionSet.told" `bm 531 324),
 (331,Ax `bp 593 s!"InstructionSet.find" 183 2 326 598 599),
 (332,Bz 31 2 s!"InstructionSet.find" `bm 531 331),
 (338,Ax s!"has" 601 s!"InstructionSet.has" 186 2 333 606 607),
 (339,Bz 31 3 s!"InstructionSet.has" `bm 531 338),
 (345,Ax s!"at" 609 s!"InstructionSet.at" 189 4 340 616 617),
 (346,Bz 31 4 s!"InstructionSet.at" `bm 531 345),
 (352,Ax s!"names" 619 s!"InstructionSet.names" 192 1 347 623 624),
 (353,Bz 31 5 s!"InstructionSet.names" `bm 531 352),
 (359,Ax s!"codes" 626 s!"InstructionSet.codes" 195 1 354 630 631),
 (360,Bz 31 6 s!"InstructionSet.codes" `bm 531 359),
 (364,Mm s!"counts" 633 s!"InstructionSet.counts" 198 2 361 636),
 (365,Bz 31 7 s!"InstructionSet.counts" `bm 531 364),
 (371,Ax s!"memory_sizes" 639 s!"InstructionSet.memory_sizes" 201 2 366 644 645),
 (372,Bz 31 8 s!"InstructionSet.memory_sizes" `bm 531 371),
 (374,⟨.Ds "dict",BH,.LG (.mk [HV P `aJ 571 (.Dq `bm 531),HV P `aK 575 (.D4 (163) 574),HV P ZR 586 (.C9 320),HV P ZO 592 (.C9 325),HV P `bp 600 (.C9 332),HV P s!"has" 608 (.C9 339),HV P s!"at" 618 (.C9 346),HV P s!"names" 625 (.C9 353),HV P s!"codes" 632 (.C9 360),HV P s!"counts" 638 (.C9 365),HV P s!"memory_sizes" 646 (.C9 372),HV P `aL 650 (.C9 373),HV P `aM 652 (.C9 376),HV P `aN 654 (.C9 377),HV P `aO 655 (.BH)]) 4,.mk []⟩),
 (375,Jx s!"InstructionSet" 375 374 564),
 (376,Fb 651 375),
 (377,ER 653 375)]
theorem gr9 (w:FX):BY w [3,12] 476 31 1 307 564 ⟨159,0,162,82⟩ Zf Fu 380 658 ⟨163,0,202,16⟩ Ze Y3:=aO ()
def Me (P:DV):KJ:=M6 P 671 `bq 658 206 683 393 ZO 690 `br 697 `bs 704 414 `aL 706 415 `aM 708 418 `aN 710 4
def Up (P:DV):A4:=[(2,D0 P),(3,A7 P (.Dq `bq 658) 40 41),(12,B7 84),(74,Ek),(417,Jx `bt 417 416 664)]
def Tv (P:DV):A4:=[(392,Ax ZR 676 s!"Operand.__init__" 208 2 387 681 682),
 (393,Bz 35 0 s!"Operand.__init__" `bq 658 392),
 (399,Ax ZO 684 s!"Operand.told" 211 1 394 688 689),
 (400,Bz 35 1 s!"Operand.told" `bq 658 399),
 (406,Ax `br 691 s!"Operand.symbol" 214 1 401 695 696),
 (407,Bz 35 2 s!"Operand.symbol" `bq 658 406),
 (413,Ax `bs 698 s!"Operand.registers" 217 1 408 702 703),
 (414,Bz 35 3 s!"Operand.registers" `bq 658 413),
 (416,Me P),
 (418,Fb 707 417),
 (419,ER 709 417)]
theorem abf (w:FX):BY w [3,12] 343 32 4 380 658 ⟨163,0,202,16⟩ Ze Fu 422 714 ⟨206,0,218,17⟩ Up Tv:=aO ()
def Uo (P:DV):A4:=[(2,D0 P),(3,A7 P (.Dq `bq 658) 41 42),(12,B7 87),(74,Ek),(417,Tx `bt 417 416 452 664)]
def Tu (P:DV):A4:=[(434,Ax ZR 726 s!"Reg.__init__" 221 2 429 731 732),
 (435,Bz 36 0 s!"Reg.__init__" `bq 658 434),
 (441,Ax ZO 734 s!"Reg.told" 225 1 436 738 739),
 (442,Bz 36 1 s!"Reg.told" `bq 658 441),
 (448,Ax `bs 741 s!"Reg.registers" 228 1 443 745 746),
 (449,Bz 36 2 s!"Reg.registers" `bq 658 448),
 (451,OZ P 721 `bq 658 219 733 435 `bs 747 449 `aL 749 450 2),
 (452,Hb s!"Reg" 417 452 451 422 714)]
theorem abe (w:FX):BY w [3,12,417] 308 36 1 422 714 ⟨206,0,218,17⟩ Up (Jt 416 Me) 455 753 ⟨219,0,229,30⟩ Uo Tu:=aO ()
def Un (P:DV):A4:=[(2,D0 P),(3,A7 P (.Dq `bq 658) 42 43),(12,B7 90),(74,Ek),(417,Tz `bt 417 416 452 486 664)]
def Tt (P:DV):A4:=[(462,M1 765),
 (468,Ax ZR 766 s!"Imm.__init__" 232 3 463 772 773),
 (469,Hy 37 s!"Imm.__init__" 462 `bq 658 468),
 (475,Ax ZO 775 s!"Imm.told" 237 1 470 779 780),
 (476,Bz 37 1 s!"Imm.told" `bq 658 475),
 (482,Ax `br 782 s!"Imm.symbol" 240 1 477 786 787),
 (483,Bz 37 2 s!"Imm.symbol" `bq 658 482),
 (485,OZ P 760 `bq 658 230 774 469 `br 788 483 `aL 791 484 2),
 (486,Hb s!"Imm" 417 486 485 455 753)]
theorem abd (w:FX):BY w [3,12,417] 312 37 1 455 753 ⟨219,0,229,30⟩ Uo (Jt 416 Me) 489 795 ⟨230,0,241,24⟩ Un Tt:=aO ()
def Um (P:DV):A4:=[(2,D0 P),(3,A7 P (.Dq `bq 658) 43 44),(12,B7 93),(74,Ek),(417,TA `bt 417 416 452 486 527 664)]
def Ts (P:DV):A4:=[(496,M1 807),
 (502,Ax ZR 808 s!"Rel.__init__" 244 3 497 814 815),
 (503,Hy 38 s!"Rel.__init__" 496 `bq 658 502),
 (509,Ax ZO 817 s!"Rel.told" 249 1 504 821 822),
 (510,Bz 38 1 s!"Rel.told" `bq 658 509),
 (516,Ax `br 824 s!"Rel.symbol" 252 1 511 828 829),
 (517,Bz 38 2 s!"Rel.symbol" `bq 658 516),
 (523,Ax s!"target" 831 s!"Rel.target" 255 2 518 836 837),
 (524,Bz 38 3 s!"Rel.target" `bq 658 523),
 (526,M4 P 802 `bq 658 242 816 503 `br 830 517 s!"target" 838 524 `aL 841 2),
 (527,Hb s!"Rel" 417 527 526 489 795)]
theorem abc (w:FX):BY w [3,12,417] 344 38 1 489 795 ⟨230,0,241,24⟩ Un (Jt 416 Me) 530 845 ⟨242,0,256,44⟩ Um Ts:=aO ()
def Ul (P:DV):A4:=[(2,D0 P),(3,A7 P (.Dq `bq 658) 44 45),(12,B7 96),(74,Ek),(417,FH `bt 417 416 452 486 527 580 664)]
def Tq (P:DV):A4:=[(537,⟨.Ds "tuple",BH,.KH (.mk [.D4 (0) 857,.Dq Ae 858,.Dq Ae 859]) 0,.mk []⟩),
 (543,Ax ZR 860 s!"Mem.__init__" 259 8 538 871 872),
 (544,Hy 39 s!"Mem.__init__" 537 `bq 658 543),
 (550,Ax ZO 874 s!"Mem.told" 269 1 545 880 881),
 (551,Bz 39 1 s!"Mem.told" `bq 658 550),
 (557,Ax `br 883 s!"Mem.symbol" 274 1 552 887 888),
 (558,Bz 39 2 s!"Mem.symbol" `bq 658 557),
 (562,Mm `bs 890 s!"Mem.registers" 277 1 559 893),
 (563,Bz 39 3 s!"Mem.registers" `bq 658 562),
 (569,Ax s!"is_rip" 896 s!"Mem.is_rip" 280 1 564 900 901),
 (570,Bz 39 4 s!"Mem.is_rip" `bq 658 569),
 (576,Ax s!"is_absolute" 903 s!"Mem.is_absolute" 283 1 571 907 908),
 (577,Bz 39 5 s!"Mem.is_absolute" `bq 658 576),
 (579,M6 P 852 `bq 658 257 873 544 ZO 882 `br 889 `bs 895 563 s!"is_rip" 902 570 s!"is_absolute" 909 577 `aL 917 2),
 (580,Hb s!"Mem" 417 580 579 530 845)]
theorem abb (w:FX):BY w [3,12,417] 416 39 1 530 845 ⟨242,0,256,44⟩ Um (Jt 416 Me) 583 921 ⟨257,0,284,16⟩ Ul Tq:=aO ()
def Uk (P:DV):A4:=[(2,D0 P),(3,A7 P (.Dq `bq 658) 45 46),(12,B7 99),(74,Ek),(417,FH `bt 417 416 452 486 527 580 664)]
def Tp (P:DV):A4:=[(590,M1 933),
 (596,Ax ZR 934 s!"Instruction.__init__" 287 4 591 941 942),
 (597,Hy 40 s!"Instruction.__init__" 590 `bq 658 596),
 (601,Mm ZO 944 s!"Instruction.told" 292 1 598 947),
 (602,Bz 40 1 s!"Instruction.told" `bq 658 601),
 (608,Ax s!"memory_at" 950 s!"Instruction.memory_at" 295 1 603 956 957),
 (609,Bz 40 2 s!"Instruction.memory_at" `bq 658 608),
 (615,Ax `bu 959 s!"Instruction.memory" 301 1 610 964 965),
 (616,Bz 40 3 s!"Instruction.memory" `bq 658 615),
 (620,Mm s!"symbols" 967 s!"Instruction.symbols" 305 1 617 970),
 (621,Bz 40 4 s!"Instruction.symbols" `bq 658 620),
 (627,Ax s!"replaced" 973 s!"Instruction.replaced" 308 3 622 979 980),
 (628,Bz 40 5 s!"Instruction.replaced" `bq 658 627),
 (630,Ty P 928 `bq 658 285 597 ZO 949 602 s!"memory_at" 958 `bu 966 s!"symbols" 621 s!"replaced" 981),
 (631,Jx s!"Instruction" 631 630 921),
 (632,Fb 986 631),
 (633,ER 988 631)]
theorem aba (w:FX):BY w [3,12] 383 40 1 583 921 ⟨257,0,284,16⟩ Ul Fu 636 993 ⟨285,0,309,16⟩ Uk Tp:=aO ()
def Uj (P:DV):A4:=[(2,D0 P),(3,A7 P (.Dq `bA 1029) 56 57),(12,B7 114),(74,Ek),(417,FH `bt 417 416 452 486 527 580 664)]
def To (P:DV):A4:=[(641,Ax `bv 993 `bv 310 1 636 997 998),
 (642,BA 41 `bv `bq 658 641),
 (648,Ax `bw 1000 `bw 312 1 643 1004 1005),
 (649,BA 42 `bw `bq 658 648),
 (655,Ax `bx 1007 `bx 320 1 650 1011 1012),
 (656,BA 43 `bx `bq 658 655),
 (662,Ax `by 1014 `by 328 1 657 1018 1019),
 (663,BA 44 `by `bq 658 662),
 (669,Ax `bz 1021 `bz 338 2 664 1026 1027),
 (670,BA 45 `bz `bq 658 669)]
theorem aa9 (w:FX):BY w [3,12] 210 41 12 636 993 ⟨285,0,309,16⟩ Uk Fu 671 1043 ⟨346,0,346,9⟩ Uj To:=aO ()
def Ui (P:DV):A4:=[(2,D0 P),(3,A7 P (.Dq `bA 1029) 61 62),(12,B7 129),(74,Ek),(417,FH `bt 417 416 452 486 527 580 664)]
def Tn (P:DV):A4:=[(683,Ax ZR 1055 s!"Head.__init__" 349 4 678 1062 1063),
 (684,Bz 53 0 s!"Head.__init__" `bA 1029 683),
 (690,Ax ZO 1065 s!"Head.told" 354 1 685 1069 1070),
 (691,Bz 53 1 s!"Head.told" `bA 1029 690),
 (693,M4 P 1050 `bA 1029 347 1064 684 `aL 1075 692 `aM 1077 695 `aN 1079 4),
 (694,Jx s!"Head" 694 693 1043),
 (695,Fb 1076 694),
 (696,ER 1078 694),
 (704,Ax `bB 1083 `bB 356 1 699 1087 1088),
 (705,BA 54 `bB `bA 1029 704),
 (711,Ax `bC 1090 `bC 358 1 706 1094 1095),
 (712,BA 55 `bC `bA 1029 711),
 (718,Ax `bD 1097 `bD 360 1 713 1104 1105),
 (719,BA 56 `bD `bA 1029 718),
 (725,Ax `bE 1107 `bE 370 2 720 1112 1113),
 (726,BA 57 `bE `bA 1029 725)]
theorem aa8 (w:FX):BY w [3,12] 378 53 5 671 1043 ⟨346,0,346,9⟩ Uj Fu 727 1115 ⟨370,0,373,38⟩ Ui Tn:=aO ()
def Uh (P:DV):A4:=[(2,D0 P),(3,A7 P (.Dq `bN 1204) 72 73),(12,B7 156),(74,Ek),(417,FH `bt 417 416 452 486 527 580 664)]
def Tl (P:DV):A4:=[(732,Ax `bF 1115 `bF 374 2 727 1120 1121),
 (733,BA 58 `bF `bA 1029 732),
 (739,Ax `bG 1123 `bG 380 2 734 1129 1130),
 (740,BA 59 `bG `bA 1029 739),
 (746,Ax `bH 1132 `bH 386 2 741 1137 1138),
 (747,BA 60 `bH `bA 1029 746),
 (753,Ax `bI 1140 `bI 396 2 748 1145 1146),
 (754,BA 61 `bI `bA 1029 753),
 (760,Ax `bJ 1148 `bJ 400 5 755 1159 1160),
 (761,BA 62 `bJ `bA 1029 760),
 (767,Ax `bK 1162 `bK 406 2 762 1169 1170),
 (768,BA 63 `bK `bA 1029 767),
 (774,Ax `bL 1172 `bL 416 4 769 1182 1183),
 (775,BA 64 `bL `bA 1029 774),
 (781,Ax `bk 1185 `bk 425 6 776 1195 1196),
 (782,BA 65 `bk `bA 1029 781),
 (786,Mm `bM 1198 `bM 437 6 783 1201),
 (787,BA 66 `bM `bA 1029 786)]
theorem aa7 (w:FX):BY w [3,12] 313 58 12 727 1115 ⟨370,0,373,38⟩ Ui Fu 788 1210 ⟨454,0,454,10⟩ Uh Tl:=aO ()
def Js (P:DV):KJ:=M4 P 1217 `bN 1204 455 1229 801 `aL 1238 809 `aM 1240 812 `aN 1242 4
def Ug (P:DV):A4:=[(2,D0 P),(3,A7 P (.Dq `bN 1204) 73 74),(12,B7 159),(74,Ek),(417,FH `bt 417 416 452 486 527 580 664),(811,Jx `bO 811 810 1210)]
def Tj (P:DV):A4:=[(800,Ax ZR 1222 s!"Expr.__init__" 457 2 795 1227 1228),
 (801,Bz 70 0 s!"Expr.__init__" `bN 1204 800),
 (807,Ax ZO 1230 s!"Expr.told" 460 1 802 1234 1235),
 (808,Bz 70 1 s!"Expr.told" `bN 1204 807),
 (810,Js P),
 (812,Fb 1239 811),
 (813,ER 1241 811)]
theorem aa6 (w:FX):BY w [3,12] 254 70 1 788 1210 ⟨454,0,454,10⟩ Uh Fu 816 1246 ⟨455,0,461,27⟩ Ug Tj:=aO ()
def Uf (P:DV):A4:=[(2,D0 P),(3,A7 P (.Dq `bN 1204) 74 75),(12,B7 162),(74,Ek),(417,FH `bt 417 416 452 486 527 580 664),(811,Tx `bO 811 810 839 1210)]
def Ti (P:DV):A4:=[(828,Ax ZR 1258 s!"Number.__init__" 464 2 823 1263 1264),
 (829,Bz 71 0 s!"Number.__init__" `bN 1204 828),
 (835,Ax ZO 1266 s!"Number.told" 468 1 830 1270 1271),
 (836,Bz 71 1 s!"Number.told" `bN 1204 835),
 (838,M3 P 1253 462 1265 829 1272 1275),
 (839,Hb s!"Number" 811 839 838 816 1246)]
theorem aa5 (w:FX):BY w [3,12,811] 278 71 1 816 1246 ⟨455,0,461,27⟩ Ug (Jt 810 Js) 842 1279 ⟨462,0,469,37⟩ Uf Ti:=aO ()
def Ue (P:DV):A4:=[(2,D0 P),(3,A7 P (.Dq `bN 1204) 75 76),(12,B7 165),(74,Ek),(417,FH `bt 417 416 452 486 527 580 664),(811,Tz `bO 811 810 839 865 1210)]
def Th (P:DV):A4:=[(854,Ax ZR 1291 s!"Symbol.__init__" 472 2 849 1296 1297),
 (855,Bz 72 0 s!"Symbol.__init__" `bN 1204 854),
 (861,Ax ZO 1299 s!"Symbol.told" 476 1 856 1303 1304),
 (862,Bz 72 1 s!"Symbol.told" `bN 1204 861),
 (864,M3 P 1286 470 1298 855 1305 1308),
 (865,Hb s!"Symbol" 811 865 864 842 1279)]
theorem aa4 (w:FX):BY w [3,12,811] 278 72 1 842 1279 ⟨462,0,469,37⟩ Uf (Jt 810 Js) 868 1312 ⟨470,0,477,36⟩ Ue Th:=aO ()
def Ud (P:DV):A4:=[(2,D0 P),(3,A7 P (.Dq `bN 1204) 76 77),(12,B7 168),(74,Ek),(417,FH `bt 417 416 452 486 527 580 664),(811,TA `bO 811 810 839 865 884 1210)]
def Tg (P:DV):A4:=[(880,Ax ZR 1324 s!"Here.__init__" 480 1 875 1328 1329),
 (881,Bz 73 0 s!"Here.__init__" `bN 1204 880),
 (883,⟨.Ds "dict",BH,.LG (.mk [HV P `aJ 1319 (.Dq `bN 1204),HV P `aK 1323 (.D4 (478) 1322),HV P ZR 1330 (.C9 881),HV P `aL 1332 (.C9 882),HV P `aO 1333 (.BH)]) 2,.mk []⟩),
 (884,Hb s!"Here" 811 884 883 868 1312)]
theorem aa3 (w:FX):BY w [3,12,811] 245 73 1 868 1312 ⟨470,0,477,36⟩ Ue (Jt 810 Js) 887 1336 ⟨478,0,481,26⟩ Ud Tg:=aO ()
def Uc (P:DV):A4:=[(2,D0 P),(3,A7 P (.Dq `bN 1204) 77 78),(12,B7 171),(74,Ek),(417,FH `bt 417 416 452 486 527 580 664),(811,FH `bO 811 810 839 865 884 910 1210)]
def Tf (P:DV):A4:=[(899,Ax ZR 1348 s!"Unary.__init__" 484 3 894 1354 1355),
 (900,Bz 74 0 s!"Unary.__init__" `bN 1204 899),
 (906,Ax ZO 1357 s!"Unary.told" 489 1 901 1361 1362),
 (907,Bz 74 1 s!"Unary.told" `bN 1204 906),
 (909,M3 P 1343 482 1356 900 1363 1367),
 (910,Hb s!"Unary" 811 910 909 887 1336)]
theorem aa2 (w:FX):BY w [3,12,811] 280 74 1 887 1336 ⟨478,0,481,26⟩ Ud (Jt 810 Js) 913 1371 ⟨482,0,490,53⟩ Uc Tf:=aO ()
def Ub (P:DV):A4:=[(2,D0 P),(3,A7 P (.Dq `bN 1204) 81 82),(12,B7 183),(74,Ek),(417,FH `bt 417 416 452 486 527 580 664),(811,I5)]
def Te (P:DV):A4:=[(925,Ax ZR 1383 s!"Binary.__init__" 493 4 920 1390 1391),
 (926,Bz 75 0 s!"Binary.__init__" `bN 1204 925),
 (932,Ax ZO 1393 s!"Binary.told" 499 1 927 1401 1402),
 (933,Bz 75 1 s!"Binary.told" `bN 1204 932),
 (935,M3 P 1378 491 1392 926 1403 1408),
 (936,Hb s!"Binary" 811 936 935 913 1371),
 (944,Ax `bP 1412 `bP 505 1 939 1418 1419),
 (945,BA 76 `bP `bN 1204 944),
 (951,Ax `bQ 1421 `bQ 513 1 946 1425 1426),
 (952,BA 77 `bQ `bN 1204 951),
 (958,Ax `bR 1428 `bR 521 1 953 1432 1433),
 (959,BA 78 `bR `bN 1204 958)]
theorem aa1 (w:FX):BY w [3,12,811] 375 75 4 913 1371 ⟨482,0,490,53⟩ Uc (Jt 810 Js) 960 1435 ⟨521,0,524,31⟩ Ub Te:=aO ()
def Ua (P:DV):A4:=[(2,D0 P),(3,A7 P (.Dq `bN 1204) 84 85),(12,B7 192),(74,Ek),(417,FH `bt 417 416 452 486 527 580 664),(811,I5)]
def Td (P:DV):A4:=[(965,Ax `bS 1435 `bS 525 2 960 1442 1443),
 (966,BA 79 `bS `bN 1204 965),
 (972,Ax `bT 1445 `bT 546 3 967 1454 1455),
 (973,BA 80 `bT `bN 1204 972),
 (979,Ax `bU 1457 `bU 554 1 974 1461 1462),
 (980,BA 81 `bU `bN 1204 979)]
theorem aa0 (w:FX):BY w [3,12] 96 79 3 960 1435 ⟨521,0,524,31⟩ Ub Fu 981 1464 ⟨554,0,555,35⟩ Ua Td:=aO ()
def T9 (P:DV):A4:=[(2,D0 P),(3,A7 P (.Dq `bN 1204) 85 86),(12,B7 195),(74,Ek),(417,FH `bt 417 416 452 486 527 580 664),(811,I5)]
def Tc (P:DV):A4:=[(988,⟨.Ds "tuple",BH,.KH (.mk [.Dq Ae 1476,.Dq Ae 1477]) 0,.mk []⟩),
 (994,Ax ZR 1478 s!"Affine.__init__" 558 4 989 1485 1486),
 (995,Hy 82 s!"Affine.__init__" 988 `bN 1204 994),
 (1001,Ax ZO 1488 s!"Affine.told" 563 1 996 1492 1493),
 (1002,Bz 82 1 s!"Affine.told" `bN 1204 1001),
 (1008,Ax s!"is_number" 1495 s!"Affine.is_number" 566 1 1003 1499 1500),
 (1009,Bz 82 2 s!"Affine.is_number" `bN 1204 1008),
 (1015,Ax s!"is_symbol" 1502 s!"Affine.is_symbol" 569 1 1010 1506 1507),
 (1016,Bz 82 3 s!"Affine.is_symbol" `bN 1204 1015),
 (1022,Ax s!"negate" 1509 s!"Affine.negate" 572 1 1017 1513 1514),
 (1023,Bz 82 4 s!"Affine.negate" `bN 1204 1022),
 (1029,Ax AL 1516 s!"Affine.add" 575 2 1024 1521 1522),
 (1030,Bz 82 5 s!"Affine.add" `bN 1204 1029),
 (1036,Ax `bV 1524 s!"Affine.places" 578 2 1031 1531 1532),
 (1037,Bz 82 6 s!"Affine.places" `bN 1204 1036),
 (1039,TC P 1471 `bN 1204 556 1487 995 s!"is_number" s!"is_symbol" s!"negate" AL 1523 `bV 1533 1537),
 (1040,Jx s!"Affine" 1040 1039 1464),
 (1041,Fb 1538 1040),
 (1042,ER 1540 1040)]
theorem aaZ (w:FX):BY w [3,12] 420 82 1 981 1464 ⟨554,0,555,35⟩ Ua Fu 1045 1545 ⟨556,0,587,20⟩ T9 Tc:=aO ()
def T8 (P:DV):A4:=[(2,D0 P),(3,A7 P (.Dq `bN 1204) 88 89),(12,B7 204),(74,Ek),(417,FH `bt 417 416 452 486 527 580 664),(811,I5)]
def Tb (P:DV):A4:=[(1048,Mm `bW 1545 `bW 588 3 1045 1548),
 (1049,BA 83 `bW `bN 1204 1048),
 (1057,⟨.Ds "tuple",BH,.KH (.mk [.BH]) 0,.mk []⟩),
 (1063,Ax ZR 1563 s!"Scope.__init__" 601 2 1058 1568 1569),
 (1064,Hy 84 s!"Scope.__init__" 1057 `bN 1204 1063),
 (1070,Ax s!"put" 1571 s!"Scope.put" 604 3 1065 1577 1578),
 (1071,Bz 84 1 s!"Scope.put" `bN 1204 1070),
 (1077,Ax `bp 1580 s!"Scope.find" 607 2 1072 1585 1586),
 (1078,Bz 84 2 s!"Scope.find" `bN 1204 1077),
 (1084,Ax s!"settled" 1588 s!"Scope.settled" 610 2 1079 1595 1596),
 (1085,Bz 84 3 s!"Scope.settled" `bN 1204 1084),
 (1087,M6 P 1558 `bN 1204 599 1570 1064 s!"put" 1579 `bp 1587 s!"settled" 1597 1085 `aL 1599 1086 `aM 1601 1089 `aN 1603 4),
 (1088,Jx s!"Scope" 1088 1087 1551),
 (1089,Fb 1600 1088),
 (1090,ER 1602 1088),
 (1098,Ax `bX 1607 `bX 622 2 1093 1612 1613),
 (1099,BA 85 `bX `bN 1204 1098)]
theorem aaY (w:FX):BY w [3,12] 379 83 3 1045 1545 ⟨556,0,587,20⟩ T9 Fu 1100 1615 ⟨622,0,627,33⟩ T8 Tb:=aO ()
def T7 (P:DV):A4:=[(2,D0 P),(3,A7 P (.Dq `ce 1674) 102 103),(12,B7 222),(74,Ek),(417,FH `bt 417 416 452 486 527 580 664),(811,I5)]
def Ta (P:DV):A4:=[(1105,Ax `bY 1615 `bY 628 3 1100 1621 1622),
 (1106,BA 86 `bY `bN 1204 1105),
 (1112,Ax `bZ 1624 `bZ 634 3 1107 1630 1631),
 (1113,BA 87 `bZ `bN 1204 1112),
 (1119,Ax `ca 1633 `ca 648 3 1114 1639 1640),
 (1120,BA 88 `ca `bN 1204 1119),
 (1126,Ax `cb 1642 `cb 656 2 1121 1647 1648),
 (1127,BA 89 `cb `bN 1204 1126),
 (1128,M1 1650),
 (1134,Ax `cc 1651 `cc 664 3 1129 1661 1662),
 (1135,⟨.Ds "function",BH,UY (Bn 90) `cc (.C9 1128) (.Dq `bN 1204) (.C9 1134),.mk []⟩),
 (1141,Ax `cd 1664 `cd 679 1 1136 1671 1672),
 (1142,BA 91 `cd `bN 1204 1141)]
theorem aaX (w:FX):BY w [3,12] 274 86 15 1100 1615 ⟨622,0,627,33⟩ T8 Fu 1143 1692 ⟨700,0,700,13⟩ T7 Ta:=aO ()
def T4 (P:DV):A4:=[(2,D0 P),(3,A7 P (.Dq `ce 1674) 103 104),(12,B7 225),(74,Ek),(417,FH `bt 417 416 452 486 527 580 664),(811,I5)]
def S9 (P:DV):A4:=[(1155,Ax ZR 1704 s!"Register.__init__" 703 5 1150 1712 1713),
 (1156,Bz 101 0 s!"Register.__init__" `ce 1674 1155),
 (1162,Ax s!"code" 1715 s!"Register.code" 709 1 1157 1719 1720),
 (1163,Bz 101 1 s!"Register.code" `ce 1674 1162),
 (1169,Ax s!"is_extended" 1722 s!"Register.is_extended" 712 1 1164 1726 1727),
 (1170,Bz 101 2 s!"Register.is_extended" `ce 1674 1169),
 (1176,Ax s!"is_high" 1729 s!"Register.is_high" 715 1 1171 1733 1734),
 (1177,Bz 101 3 s!"Register.is_high" `ce 1674 1176),
 (1183,Ax s!"needs_rex" 1736 s!"Register.needs_rex" 718 1 1178 1740 1741),
 (1184,Bz 101 4 s!"Register.needs_rex" `ce 1674 1183),
 (1190,Ax ZO 1743 s!"Register.told" 721 1 1185 1747 1748),
 (1191,Bz 101 5 s!"Register.told" `ce 1674 1190),
 (1193,Ty P 1699 `ce 1674 701 1156 s!"code" 1721 1163 s!"is_extended" 1728 s!"is_high" 1735 s!"needs_rex" 1184 ZO 1749),
 (1194,Jx s!"Register" 1194 1193 1692),
 (1195,Fb 1755 1194),
 (1196,ER 1757 1194)]
theorem aaW (w:FX):BY w [3,12] 384 101 1 1143 1692 ⟨700,0,700,13⟩ T7 Fu 1199 1762 ⟨701,0,722,24⟩ T4 S9:=aO ()
def T3 (P:DV):A4:=[(2,D0 P),(3,A7 P (.Dq `co 1832) 117 118),(12,B7 261),(74,Ek),(417,FH `bt 417 416 452 486 527 580 664),(811,I5)]
def S8 (P:DV):A4:=[(1204,Ax `cf 1762 `cf 723 1 1199 1766 1767),
 (1205,BA 102 `cf `ce 1674 1204),
 (1211,Ax `cg 1769 `cg 733 1 1206 1773 1774),
 (1212,BA 103 `cg `ce 1674 1211),
 (1218,Ax Bm 1776 Bm 741 2 1213 1782 1783),
 (1219,BA 104 Bm `ce 1674 1218),
 (1225,Ax `ch 1785 `ch 748 1 1220 1789 1790),
 (1226,BA 105 `ch `ce 1674 1225),
 (1232,Ax `ci 1792 `ci 752 1 1227 1796 1797),
 (1233,BA 106 `ci `ce 1674 1232),
 (1239,Ax `cj 1799 `cj 756 0 1234 1802 1803),
 (1240,BA 107 `cj `ce 1674 1239),
 (1246,Ax `ck 1805 `ck 758 1 1241 1810 1811),
 (1247,BA 108 `ck `ce 1674 1246),
 (1253,Ax `cl 1813 `cl 763 1 1248 1820 1821),
 (1254,BA 109 `cl `ce 1674 1253),
 (1260,Ax `cm 1823 `cm 772 1 1255 1829 1830),
 (1261,BA 110 `cm `ce 1674 1260),
 (1267,Ax `cn 1838 `cn 789 1 1262 1842 1843),
 (1268,BA 114 `cn `co 1832 1267),
 (1274,Ax `cp 1845 `cp 791 1 1269 1849 1850),
 (1275,BA 115 `cp `co 1832 1274),
 (1281,Ax `cq 1852 `cq 793 1 1276 1857 1858),
 (1282,BA 116 `cq `co 1832 1281)]
theorem aaV (w:FX):BY w [3,12] 384 102 15 1199 1762 ⟨701,0,722,24⟩ T4 Fu 1283 1860 ⟨793,0,799,15⟩ T3 S8:=aO ()
def T0 (P:DV):A4:=[(2,D0 P),(3,A7 P (.Dq `co 1832) 120 121),(12,B7 270),(74,Ek),(417,FH `bt 417 416 452 486 527 580 664),(811,I5)]
def S7 (P:DV):A4:=[(1288,Ax `cr 1860 `cr 800 1 1283 1865 1866),
 (1289,BA 117 `cr `co 1832 1288),
 (1295,Ax `cs 1868 `cs 807 1 1290 1872 1873),
 (1296,BA 118 `cs `co 1832 1295),
 (1300,Mm `ct 1875 `ct 809 1 1297 1878),
 (1301,BA 119 `ct `co 1832 1300)]
theorem aaU (w:FX):BY w [3,12] 86 117 3 1283 1860 ⟨793,0,799,15⟩ T3 Fu 1302 1881 ⟨809,0,810,84⟩ T0 S7:=aO ()
def TZ (P:DV):A4:=[(2,D0 P),(3,A7 P (.Dq `co 1832) 121 122),(12,B7 273),(74,Ek),(417,FH `bt 417 416 452 486 527 580 664),(811,I5)]
def S6 (P:DV):A4:=[(1314,Ax ZR 1893 s!"Sum.__init__" 813 3 1309 1899 1900),
 (1315,Bz 120 0 s!"Sum.__init__" `co 1832 1314),
 (1321,Ax s!"worth_of" 1902 s!"Sum.worth_of" 821 2 1316 1907 1908),
 (1322,Bz 120 1 s!"Sum.worth_of" `co 1832 1321),
 (1328,Ax s!"add_outside" 1910 s!"Sum.add_outside" 826 2 1323 1915 1916),
 (1329,Bz 120 2 s!"Sum.add_outside" `co 1832 1328),
 (1335,Ax AL 1918 s!"Sum.add" 829 2 1330 1926 1927),
 (1336,Bz 120 3 s!"Sum.add" `co 1832 1335),
 (1342,Ax s!"add_term" 1929 s!"Sum.add_term" 839 3 1337 1935 1936),
 (1343,Bz 120 4 s!"Sum.add_term" `co 1832 1342),
 (1349,Ax s!"add_register" 1938 s!"Sum.add_register" 849 3 1344 1944 1945),
 (1350,Bz 120 5 s!"Sum.add_register" `co 1832 1349),
 (1356,Ax s!"add_scaled" 1947 s!"Sum.add_scaled" 854 3 1351 1956 1957),
 (1357,Bz 120 6 s!"Sum.add_scaled" `co 1832 1356),
 (1363,Ax `bu 1959 s!"Sum.memory" 868 3 1358 1969 1970),
 (1364,Bz 120 7 s!"Sum.memory" `co 1832 1363),
 (1366,⟨.Ds "dict",BH,.LG (.mk [HV P `aJ 1888 (.Dq `co 1832),HV P `aK 1892 (.D4 (811) 1891),HV P ZR 1901 (.C9 1315),HV P s!"worth_of" 1909 (.C9 1322),HV P s!"add_outside" 1917 (.C9 1329),HV P AL 1928 (.C9 1336),HV P s!"add_term" 1937 (.C9 1343),HV P s!"add_register" 1946 (.C9 1350),HV P s!"add_scaled" 1958 (.C9 1357),HV P `bu 1971 (.C9 1364),HV P `aL 1978 (.C9 1365),HV P `aM 1980 (.C9 1368),HV P `aN 1982 (.C9 1369),HV P `aO 1983 (.BH)]) 4,.mk []⟩),
 (1367,Jx s!"Sum" 1367 1366 1881),
 (1368,Fb 1979 1367),
 (1369,ER 1981 1367)]
theorem aaT (w:FX):BY w [3,12] 467 120 1 1302 1881 ⟨809,0,810,84⟩ T0 Fu 1372 1986 ⟨811,0,880,93⟩ TZ S6:=aO ()
def TY (P:DV):A4:=[(2,D0 P),(3,A7 P (.Dq `cz 2050) 126 127),(12,B7 288),(74,Ek),(417,FH `bt 417 416 452 486 527 580 664),(811,I5)]
def S5 (P:DV):A4:=[(1377,Ax `cu 1986 `cu 881 5 1372 1995 1996),
 (1378,BA 121 `cu `co 1832 1377),
 (1384,Ax `cv 1998 `cv 889 4 1379 2010 2011),
 (1385,BA 122 `cv `co 1832 1384),
 (1391,Ax `cw 2013 `cw 904 3 1386 2026 2027),
 (1392,BA 123 `cw `co 1832 1391),
 (1398,Ax `cx 2029 `cx 924 3 1393 2036 2037),
 (1399,BA 124 `cx `co 1832 1398),
 (1405,Ax `cy 2039 `cy 933 3 1400 2047 2048),
 (1406,BA 125 `cy `co 1832 1405)]
theorem aaS (w:FX):BY w [3,12] 184 121 6 1372 1986 ⟨811,0,880,93⟩ TZ Fu 1407 2052 ⟨939,0,939,8⟩ TY S5:=aO ()
def TX (P:DV):A4:=[(2,D0 P),(3,A7 P (.Dq `cz 2050) 127 128),(12,B7 291),(74,Ek),(417,FH `bt 417 416 452 486 527 580 664),(811,I5)]
def S4 (P:DV):A4:=[(1419,Ax ZR 2064 s!"Token.__init__" 942 5 1414 2072 2073),
 (1420,Bz 127 0 s!"Token.__init__" `cz 2050 1419),
 (1426,Ax `cA 2075 s!"Token.is_sign" 948 2 1421 2080 2081),
 (1427,Bz 127 1 s!"Token.is_sign" `cz 2050 1426),
 (1433,Ax s!"is_backward" 2083 s!"Token.is_backward" 951 1 1428 2087 2088),
 (1434,Bz 127 2 s!"Token.is_backward" `cz 2050 1433),
 (1440,Ax ZO 2090 s!"Token.told" 954 1 1435 2094 2095),
 (1441,Bz 127 3 s!"Token.told" `cz 2050 1440),
 (1443,M6 P 2059 `cz 2050 940 2074 1420 `cA 2082 s!"is_backward" 2089 ZO 2096 1441 `aL 2101 1442 `aM 2103 1445 `aN 2105 4),
 (1444,Jx s!"Token" 1444 1443 2052),
 (1445,Fb 2102 1444),
 (1446,ER 2104 1444)]
theorem aaR (w:FX):BY w [3,12] 323 127 1 1407 2052 ⟨939,0,939,8⟩ TY Fu 1449 2109 ⟨940,0,955,38⟩ TX S4:=aO ()
def TW (P:DV):A4:=[(2,D0 P),(3,A7 P (.Dq `cz 2050) 128 129),(12,B7 294),(74,Ek),(417,FH `bt 417 416 452 486 527 580 664),(811,I5)]
def S3 (P:DV):A4:=[(1461,Ax ZR 2121 s!"Cursor.__init__" 958 2 1456 2126 2127),
 (1462,Bz 128 0 s!"Cursor.__init__" `cz 2050 1461),
 (1468,Ax s!"peek" 2129 s!"Cursor.peek" 962 1 1463 2133 2134),
 (1469,Bz 128 1 s!"Cursor.peek" `cz 2050 1468),
 (1475,Ax `cB 2136 s!"Cursor.ahead" 965 2 1470 2141 2142),
 (1476,Bz 128 2 s!"Cursor.ahead" `cz 2050 1475),
 (1482,Ax s!"take" 2144 s!"Cursor.take" 970 1 1477 2149 2150),
 (1483,Bz 128 3 s!"Cursor.take" `cz 2050 1482),
 (1489,Ax `cA 2152 s!"Cursor.is_sign" 976 2 1484 2157 2158),
 (1490,Bz 128 4 s!"Cursor.is_sign" `cz 2050 1489),
 (1496,Ax s!"is_end" 2160 s!"Cursor.is_end" 979 1 1491 2164 2165),
 (1497,Bz 128 5 s!"Cursor.is_end" `cz 2050 1496),
 (1503,Ax s!"skip" 2167 s!"Cursor.skip" 982 2 1498 2172 2173),
 (1504,Bz 128 6 s!"Cursor.skip" `cz 2050 1503),
 (1510,Ax s!"skip_name" 2175 s!"Cursor.skip_name" 988 2 1505 2180 2181),
 (1511,Bz 128 7 s!"Cursor.skip_name" `cz 2050 1510),
 (1517,Ax s!"need" 2183 s!"Cursor.need" 991 2 1512 2188 2189),
 (1518,Bz 128 8 s!"Cursor.need" `cz 2050 1517),
 (1524,Ax s!"need_end" 2191 s!"Cursor.need_end" 995 1 1519 2195 2196),
 (1525,Bz 128 9 s!"Cursor.need_end" `cz 2050 1524),
 (1531,Ax `cC 2198 s!"Cursor.name" 999 1 1526 2203 2204),
 (1532,Bz 128 10 s!"Cursor.name" `cz 2050 1531),
 (1538,Ax s!"rest_place" 2206 s!"Cursor.rest_place" 1006 1 1533 2210 2211),
 (1539,Bz 128 11 s!"Cursor.rest_place" `cz 2050 1538),
 (1541,⟨.Ds "dict",BH,.LG (.mk [HV P `aJ 2116 (.Dq `cz 2050),HV P `aK 2120 (.D4 (956) 2119),HV P ZR 2128 (.C9 1462),HV P s!"peek" 2135 (.C9 1469),HV P `cB 2143 (.C9 1476),HV P s!"take" 2151 (.C9 1483),HV P `cA 2159 (.C9 1490),HV P s!"is_end" 2166 (.C9 1497),HV P s!"skip" 2174 (.C9 1504),HV P s!"skip_name" 2182 (.C9 1511),HV P s!"need" 2190 (.C9 1518),HV P s!"need_end" 2197 (.C9 1525),HV P `cC 2205 (.C9 1532),HV P s!"rest_place" 2212 (.C9 1539),HV P `aL 2215 (.C9 1540),HV P `aM 2217 (.C9 1543),HV P `aN 2219 (.C9 1544),HV P `aO 2220 (.BH)]) 4,.mk []⟩),
 (1542,Jx s!"Cursor" 1542 1541 2109),
 (1543,Fb 2216 1542),
 (1544,ER 2218 1542)]
theorem aaQ (w:FX):BY w [3,12] 572 128 1 1449 2109 ⟨940,0,955,38⟩ TX Fu 1547 2223 ⟨956,0,1007,38⟩ TW S3:=aO ()
def TV (P:DV):A4:=[(2,D0 P),(3,A7 P (.Dq `cE 2223) 140 141),(12,B7 330),(74,Ek),(417,FH `bt 417 416 452 486 527 580 664),(811,I5)]
def S0 (P:DV):A4:=[(1550,Mm `cD 2225 `cD 1009 1 1547 2228),
 (1551,BA 130 `cD `cE 2223 1550),
 (1557,Ax `cF 2231 `cF 1018 2 1552 2238 2239),
 (1558,BA 131 `cF `cE 2223 1557),
 (1564,Ax `cG 2241 `cG 1029 0 1559 2246 2247),
 (1565,BA 132 `cG `cE 2223 1564),
 (1571,Ax `cH 2249 `cH 1042 1 1566 2253 2254),
 (1572,BA 133 `cH `cE 2223 1571),
 (1578,Ax `cI 2256 `cI 1046 2 1573 2262 2263),
 (1579,BA 134 `cI `cE 2223 1578),
 (1585,Ax `cJ 2265 `cJ 1057 1 1580 2269 2270),
 (1586,BA 135 `cJ `cE 2223 1585),
 (1592,Ax `cK 2272 `cK 1059 2 1587 2278 2279),
 (1593,BA 136 `cK `cE 2223 1592),
 (1599,Ax `cL 2281 `cL 1066 2 1594 2294 2295),
 (1600,BA 137 `cL `cE 2223 1599),
 (1606,Ax `cM 2297 `cM 1085 2 1601 2307 2308),
 (1607,BA 138 `cM `cE 2223 1606),
 (1613,Ax `cN 2310 `cN 1115 2 1608 2315 2316),
 (1614,BA 139 `cN `cE 2223 1613),
 (1620,Ax `cO 2318 `cO 1117 1 1615 2326 2327),
 (1621,BA 140 `cO `cE 2223 1620),
 (1627,Ax `cP 2329 `cP 1125 1 1622 2335 2336),
 (1628,BA 141 `cP `cE 2223 1627)]
theorem aaP (w:FX):BY w [3,12] 385 129 13 1547 2223 ⟨956,0,1007,38⟩ TW Fu 1629 2338 ⟨1125,0,1129,16⟩ TV S0:=aO ()
def Eo (P:DV):A4:=[(2,D0 P),(3,A7 P (.Dq `cE 2223) 147 148),(12,B7 351),(74,Ek),(417,FH `bt 417 416 452 486 527 580 664),(811,I5)]
def SZ (P:DV):A4:=[(1634,Ax `cQ 2338 `cQ 1130 3 1629 2348 2349),
 (1635,BA 142 `cQ `cE 2223 1634),
 (1641,Ax `cR 2351 `cR 1144 1 1636 2358 2359),
 (1642,BA 143 `cR `cE 2223 1641),
 (1648,Ax `cS 2361 `cS 1150 2 1643 2367 2368),
 (1649,BA 144 `cS `cE 2223 1648),
 (1655,Ax `cT 2370 `cT 1160 1 1650 2383 2384),
 (1656,BA 145 `cT `cE 2223 1655),
 (1662,Ax `cU 2386 `cU 1182 2 1657 2391 2392),
 (1663,BA 146 `cU `cE 2223 1662),
 (1669,Ax `cV 2394 `cV 1184 1 1664 2407 2408),
 (1670,BA 147 `cV `cE 2223 1669),
 (1676,Ax `cW 2410 `cW 1213 1 1671 2424 2425),
 (1677,BA 148 `cW `cE 2223 1676)]
theorem aaO (w:FX):BY w [3,12] 244 142 7 1629 2338 ⟨1125,0,1129,16⟩ TV Fu 1678 2427 ⟨1213,0,1229,153⟩ Eo SZ:=aO ()
def Bv (l:A4) (h:Ev):Prop:=∀p∈l,h.D7 p.1=A9 p.2
theorem Bv.Wy {l l':A4} {h:Ev} (a:Bv l h) (b:Bv l' h):Bv (l++l') h:=λp hp=>(AT.JX.mp hp).Dk (a p) (b p)
theorem eI {T:A4} {a:EA} {o:KJ} (e:lk T a=A9 o):(a,o)∈T:=by
 induction T with
 |HU=>cases e
 |Dc p l ih=>
  rw[jb,cG] at e
  by_cases h:p.1=a
  .simp[h] at e
   subst e;subst h;exact .Jn _
  .simp[h] at e
   exact .Do _ (ih e)
theorem Bv.rep {T:A4} {s:CW} {m i:BF} (hT:Bv T s.Dn) (h1:`m=m) (h2:s.N8= #[]) (h3:s.Dp=i):FL s T m i:=
 ⟨h1,λ_ _ e=>hT _ (eI e),h2,h3⟩
theorem xX {T l:A4} (h:l.FW (λx=>lk T x.1)=l.FW (λx=>A9 x.2)) (p:EA×KJ) (hp:p∈l):lk T p.1=A9 p.2:=by
 induction l with
 |HU=>cases hp
 |Dc x l ih=>
  rw[AT.JS,AT.JS] at h;cases AT.GZ.mp hp with
  |HX q=>subst q;exact(AT.Dc.Ky h).1
  |G4 q=>exact ih (AT.Dc.Ky h).2 q
def C3 (l:A4):CV:=l.VG λp=>match [2,3,12,74,417,811].Xa (λb=>BF.QC b p.1) with|Bj=>Be|Be=>Bj
theorem Bv.left {l:A4} {W:AT EA} {m:BF} {h h':Ev} (a:Bv l h) (o:C3 l=Bj) (hW:W.VG (λx=>[2,3,12,74,417,811].Xa λb=>BF.QC b x)=Bj) (hm:h.KL.Id=m) (L:EL W m h h'):Bv l h':=λp hp=>by
 refine L p.1 p.2 (hm▸Ev.RL (a p hp)) (λq=> ?_) (a p hp);have z:=AT.OD.mp o p hp;have y:[2,3,12,74,417,811].Xa (λb=>BF.QC b p.1)=Bj:=AT.OD.mp hW p.1 q;rw[y] at z;cases z
structure E4 (w:FX) (s:CW) (m i:BF) (Q2 VR:A4):Prop where
 Id:`m=m
 N8:s.N8= #[]
 Dp:s.Dp=i
 Q2:Bv Q2 s.Dn
 Qd:Bv (CU w.Ew) s.Dn
 VR:Bv VR s.Dn
def Jg (w:FX) (s0:CW) (Df:AT IQ) (s:CW) (HW:Oz):Prop:=
 ∀N r,topRun Ry Es w 11 (A9 (.C9 6)) N s (restOf Df BO C0 HW B1)=A9 r->∃M,topRun Ry Es w 11 (A9 (.C9 6)) M s0 (restOf bd BO C0 ⟨0,0,0,0⟩ B1)=A9 r
theorem j0 {l l':A4} (a:C3 l=Bj) (b:C3 l'=Bj):C3 (l++l')=Bj:=by
 unfold C3 at*;rw[AT.all_append,a,b];rfl
theorem iZ (P:DV):C3 (CU P)=Bj:=by lk
theorem grp {w:FX} {s0 s:CW} {W:AT EA} {m N a b i m' i':BF} {HW pos':Oz} {keys:AT BF} {Q2 Xm ka VR ns:A4}
  (g:(Ci Nf Es w W m N (piecesOf ((bd.F3 a).Gk b) BO C0 HW B1).Q2 C0 HW B1 (Q2++(ns++CU w.Ew)) m i).FW (Z6 keys)=A9 (.next,m',i',C0,pos',(Xm++ka).FW λx=>A9 x.2))
  (hk:keys=(Xm++ka).FW (·.1)) (hW:W.VG (λx=>[2,3,12,74,417,811].Xa λb=>BF.QC b x)=Bj)
  (hp:C3 VR=Bj) (Xn:Bv VR s.Dn->Bv ns s.Dn)
  (R:Jg w s0 (bd.F3 a) s HW) (I:E4 w s m i Q2 VR):
  ∃s',Jg w s0 (bd.F3 (a+b)) s' pos'/\E4 w s' m' i' Xm (ka++VR):=by
 obtain⟨⟨f,T',m2,i2,c2,p2⟩,h1,h2⟩:=Bq.map_eq_some_iff.mp g;simp only[Z6,VH.mk.injEq] at h2;obtain⟨Cs,Cs,Cs,Cs,Cs,h2⟩:=h2;rw[<-wb] at h1;have hT:Bv (Q2++(ns++CU w.Ew)) s.Dn:=I.Q2.Wy ((Xn I.VR).Wy I.Qd);obtain⟨s',e,R',L⟩:=lj (ann:=A9 (.C9 6)) _ _ _ _ _ _ _ _ _ _ _ _ _ _ h1 `M s (hT.rep I.Id I.N8 I.Dp);subst hk;rw[AT.map_map] at h2;have hl:=xX (T:=T') h2;have hc:Bv (Xm++ka) s'.Dn:=λp hp=>R'.at_ _ _ (hl p hp);refine⟨s',λN' r hr=> ?_,R'.Id,R'.N8,R'.Dp,λp hp=>hc p (AT.Ox _ hp),I.Qd.left (iZ _) hW I.Id L,?_⟩
 .have e2:bd.F3 a=(bd.F3 a).Gk b++bd.F3 (a+b):=by
   rw[<-AT.RB];exact(AT.Kb _ _).Hl
  have z:=piece_app (q:=⟨0,0,0,0⟩) (Df:=bd.F3 (a+b)) e hr;rw[<-e2] at z;exact R _ _ z
 .exact Bv.Wy (λp hp=>hc p (AT.Kc _ hp)) (I.VR.left hp hW I.Id L)
def Zx (_:DV):A4:=[]
def UQ (l:AT (DV->A4)) (P:DV):A4:=l.foldr (λf r=>f P++r) []
def Hw:DV->A4:=UQ [SZ,S0,S3,S4,S5,S6,S7,S8,S9,Ta,Tb,Tc,Td,Te,Tf,Tg,Th,Ti,Tj,Tl,Tn,To,Tp,Tq,Ts,Tt,Tu,Tv,Y3,Y4,Y5,Y6,Y7,Y8,Y9,Za,Zb]
theorem fc {VR:A4} {h:Ev} {P:DV}:Bv VR h->Bv (Fu P) h:=λ_ p (hp:p∈([]:A4))=>nomatch hp
theorem pL {VR:A4} {h:Ev} {P:DV} {c:EA} {o:DV->KJ} (e:lk VR c=A9 (o P)):Bv VR h->Bv (Jt c o P) h:=λH p (hp:p∈[(c,o P)])=>by
 cases AT.H9.mp hp;exact H _ (eI e)
def U3 (w:FX) (s0:CW) (a:BF) (HW:Oz) (m i:BF) (Q2:DV->A4) (l:AT (DV->A4)):Prop:=
 (∃s,Jg w s0 (bd.F3 a) s HW/\E4 w s m i (Q2 w.Ew) (UQ l w.Ew))/\C3 (UQ l w.Ew)=Bj
theorem U3.go {w:FX} {s0:CW} {W:AT EA} {N a b m i:BF} {HW:Oz} {Q2 ns:DV->A4} {m' i':BF} {pos':Oz} {Xm ka:DV->A4} {l:AT (DV->A4)}
  (h:U3 w s0 a HW m i Q2 l) (g:BY w W N a b m i HW Q2 ns m' i' pos' Xm ka) (ok:C3 (ka w.Ew)=Bj) (hW:W.VG (λx=>[2,3,12,74,417,811].Xa λb=>BF.QC b x)=Bj)
  (Xn:∀{h:Ev},Bv (UQ l w.Ew) h->Bv (ns w.Ew) h):U3 w s0 (a+b) pos' m' i' Xm (ka::l):=by
 obtain⟨⟨s,R,I⟩,o⟩:=h;obtain⟨s',R',I'⟩:=grp g rfl hW o Xn R I;exact⟨⟨s',R',I'⟩,j0 ok o⟩
def Iq (w:FX) (os:Rd):CW:=⟨.mk (.mk (XL w.Ew)) (RC w.Ew).life,.mk [],boot_drawn,187,os⟩
def Ft (w:FX) (os:Rd):CW:=⟨RC w.Ew,.mk [],boot_drawn,boot_toks,os⟩
theorem yj (w:FX) (os:Rd):topGo Ry Es w 11 (A9 (.C9 6)) 12 (Ft w os) (topStub Es)=A9 (Iq w os,⟨VF Ry C0,C0,⟨0,0,0,0⟩,B1⟩):=by lk
theorem tC (w:FX) (s:CW):segRun Ry Es w 11 (A9 (.C9 6)) 1 1 s (blockOf bd BO C0 ⟨0,0,0,0⟩ B1)=A9 (.next,s,C0,⟨0,0,0,0⟩):=by lk
theorem uC (w:FX) (os:Rd):E4 w (Iq w os) 15 187 (Uq w.Ew) (Zx w.Ew):=by
 refine⟨(),Cs,Cs,?_,?_,λp hp=>nomatch hp⟩
 .have:(Uq w.Ew).FW (λx=>(Iq w os).Dn.D7 x.1)=(Uq w.Ew).FW (λx=>A9 x.2):=by lk
  intro p hp;exact AT.map_inj_left.mp F4 p hp
 .have:(CU w.Ew).FW (λx=>(Iq w os).Dn.D7 x.1)=(CU w.Ew).FW (λx=>A9 x.2):=by lk
  intro p hp;exact AT.map_inj_left.mp F4 p hp
theorem v9 (w:FX) (s:CW) (HW:Oz):topRun Ry Es w 11 (A9 (.C9 6)) 2 s ⟨doneF .next,C0,HW,B1⟩=A9 s:=by lk
theorem yX:bd.F3 149=[]:=by lk
theorem yL (w:FX) (os:Rd):∃s,Jg w (Iq w os) (bd.F3 149) s ⟨1213,0,1229,153⟩/\E4 w s 1678 2427 (Eo w.Ew) (Hw w.Ew):=by
 have h:U3 w (Iq w os) 0 ⟨0,0,0,0⟩ 15 187 Uq []:=⟨⟨_,λN r h=>⟨N,h⟩,uC w os⟩,Cs⟩;have h:=h.go (gr1 w) () () fc;have h:=h.go (gr2 w) () () fc;have h:=h.go (gr3 w) () () (pL ());have h:=h.go (gr4 w) () () (pL ());have h:=h.go (gr5 w) () () (pL ());have h:=h.go (gr6 w) () () fc;have h:=h.go (gr7 w) () () fc;have h:=h.go (gr8 w) () () fc;have h:=h.go (gr9 w) () () fc;have h:=h.go (abf w) () () fc;have h:=h.go (abe w) () () (pL ());have h:=h.go (abd w) () () (pL ());have h:=h.go (abc w) () () (pL ());have h:=h.go (abb w) () () (pL ());have h:=h.go (aba w) () () fc;have h:=h.go (aa9 w) () () fc;have h:=h.go (aa8 w) () () fc
 have h:=h.go (aa7 w) () () fc;have h:=h.go (aa6 w) () () fc;have h:=h.go (aa5 w) () () (pL ());have h:=h.go (aa4 w) () () (pL ());have h:=h.go (aa3 w) () () (pL ());have h:=h.go (aa2 w) () () (pL ());have h:=h.go (aa1 w) () () (pL ());have h:=h.go (aa0 w) () () fc;have h:=h.go (aaZ w) () () fc;have h:=h.go (aaY w) () () fc;have h:=h.go (aaX w) () () fc;have h:=h.go (aaW w) () () fc;have h:=h.go (aaV w) () () fc;have h:=h.go (aaU w) () () fc;have h:=h.go (aaT w) () () fc;have h:=h.go (aaS w) () () fc;have h:=h.go (aaR w) () () fc;have h:=h.go (aaQ w) () () fc;have h:=h.go (aaP w) () () fc;have h:=h.go (aaO w) () () fc
 exact h.1
theorem pZ (w:FX) (os:Rd):∃s M,topRun table Es w 11 (A9 (.C9 6)) M (Ft w os) (topStub Es)=A9 s/\E4 w s 1678 2427 (Eo w.Ew) (Hw w.Ew):=by
 obtain⟨s,R,I⟩:=yL w os;rw[yX] at R;obtain⟨M,h⟩:=R 2 s (piece_nil (q:=⟨0,0,0,0⟩) (v9 w s _));have h1:=piece_block (q:=⟨0,0,0,0⟩) (tC w (Iq w os)) h;have h2:=go_top (yj w os) h1;exact⟨s,_,table_eq_tree▸h2,I⟩
end Internal
namespace Internal
open PySem PySem.W PyProof.Rows
def MO (l:A4) (a:EA):KJ:=match lk l a with|A9 o=>o|BH=>default
def Aaf (P:DV):Ev:= .mk (.mk [MO (CU P) 0,MO (CU P) 1,MO (Eo P) 2,MO (Eo P) 3,MO (CU P) 4]) (RC P).life
theorem lG:opening Es=plainProg Es.main.Jm.Lb:=by lk
theorem sR (s:CW):fenceModules? Es s=A9 s:=by lk
theorem mQ:importedModules Es.main.G0=[]:=by lk
theorem E4.at_cur {w:FX} {s:CW} {m i:BF} {Q2 VR:A4} (I:E4 w s m i Q2 VR) {a:EA} {o:KJ} (h:lk Q2 a=A9 o):s.Dn.D7 a=A9 o:=I.Q2 _ (eI h)
theorem E4.at_base {w:FX} {s:CW} {m i:BF} {Q2 VR:A4} (I:E4 w s m i Q2 VR) {a:EA} {o:KJ} (h:lk (CU w.Ew) a=A9 o):s.Dn.D7 a=A9 o:=I.Qd _ (eI h)
section
variable {w:FX} {s:CW} (I:E4 w s 1678 2427 (Eo w.Ew) (Hw w.Ew))
include I
theorem y9:s.Dn.D7 0=(Aaf w.Ew).D7 0:=(I.at_base (a:=0) (o:=MO (CU w.Ew) 0) ()).CX ()
theorem sr:s.Dn.D7 2=(Aaf w.Ew).D7 2:=(I.at_cur (a:=2) (o:=MO (Eo w.Ew) 2) ()).CX ()
theorem hx3:s.Dn.D7 3=(Aaf w.Ew).D7 3:=(I.at_cur (a:=3) (o:=MO (Eo w.Ew) 3) ()).CX ()
theorem hx4:s.Dn.D7 4=(Aaf w.Ew).D7 4:=(I.at_base (a:=4) (o:=MO (CU w.Ew) 4) ()).CX ()
theorem hV (k:Dr):staticOf s.Dn k=staticOf (Aaf w.Ew) k:=by unfold staticOf RQ;rw[sr I]
theorem de (k:Dr):WG s.Dn k=WG (Aaf w.Ew) k:=by unfold WG VE;rw[hx3 I]
theorem ma (k:Dr):builtinOf s.Dn k=builtinOf (Aaf w.Ew) k:=by unfold builtinOf Lv;rw[y9 I]
end
theorem zc (P:DV):(Aaf P).accountedOkI []=Bj:=by lk
theorem pQ (P:DV):(Aaf P).isNs Kz=Bj:=by lk
theorem wH (P:DV):(Aaf P).isNs Lv=Bj:=by lk
theorem zb (P:DV):(Aaf P).bltView=bltViewBooted:=by lk
theorem xa (P:DV):staticsOk [] (RC P) (Aaf P)=Bj:=by lk
theorem tU (P:DV):namesBound Es (Aaf P)=Bj:=by lk
theorem xb (P:DV):laidKept (RC P) (Aaf P)=Bj:=by lk
theorem za (P:DV):(WG (Aaf P) "__builtins__"=A9 (.C9 4))/\(Aaf P).D7 4=A9 ⟨.Ds "module",A9 0,.QD,.mk []⟩:=⟨(),()⟩
def CB:Dr:= .mk (.mk [108,97,119])
theorem rR:(Dr.WH "law")=CB:=by decide+QG
def Md {α:Type} (s:IQ) (d:α) (f:WW->AT IQ->OE->α):α:=if h:s.E5=0 then IQ.FunctionDef.Dk s h λ_ a b _ _ _ c _ _ _=>f a b c else d
def Jd (s:IQ):WW:=Md s ⟨[],[],BH,[],[],BH,[]⟩ λa _ _=>a
def Jc (s:IQ):AT IQ:=Md s [] λ_ b _=>b
def HE (s:IQ):OE:=Md s {Wz:= .module,Lb:=[],isGenerator:=Be,isCoroutine:=Be,more:=[]} λ_ _ c=>c
theorem ub:Es.theDef CB=A9 (Jd (Bn 148),Jc (Bn 148),HE (Bn 148)):=by lk
def NC:U9:={F6:=CB,LP:=CB,Ew:=Jd (Bn 148),G0:= .stmts (Jc (Bn 148)),Jm:=HE (Bn 148),V4:=VE,closure:=[],VQ:= .BH,V5:= .BH,doc:= .BH,pyModule:= .Dq `cE 2223,Vq:=BH,KW:= .C9 1676,Sf:= .BH,builtins:=Lv}
theorem t9 {w:FX} {os:Rd} {s:CW} {M:BF} (h:topRun table Es w 11 (A9 (.C9 6)) M (Ft w os) (topStub Es)=A9 s) (I:E4 w s 1678 2427 (Eo w.Ew) (Hw w.Ew)) (hz:(Ft w os).asleep):
  TopRan Es w (Ft w os) s/\s.asleep:=by
 obtain⟨a,l,o,fr⟩:=topRun_spec _ _ _ _ hz h;have hX0:=y9 I;refine⟨⟨a,l,CW.rest_eq o,λb x hb hn=> ?_,?_,?_,?_,?_,?_,?_,?_,?_⟩,CW.asleep_of_life l hz⟩
 .have hlt:b<11:=by
   have e:(Ft w os).Dn.KL.Id=11:=by lk
   exact e▸Ev.RL hb
  refine fr b x hlt (λq=>hn (.HX q)) (λq=>hn (.G4 (.HX q))) (λq=>hn (.G4 (.G4 ?_))) hb;rw[<-q];show WG (RC w.Ew) _=_
  lk
 .rw[mQ]
  have z:staticsAccountedI (Aaf w.Ew) []:=Ev.accountedI_of_ok (zc w.Ew);unfold staticsAccountedI at z⊢;simp only[hV I];exact z
 .rw[mQ]
  have z:staticsBehindTheTop [] (RC w.Ew) (Aaf w.Ew):=statics_of_ok (xa w.Ew);intro k;rw[hV I];exact z k
 .obtain⟨o,es,n,e,d,ks⟩:=Pin.keysAreStrs_of (pQ w.Ew)
  exact⟨o,es,n,(hx3 I).CX e,d,ks⟩
 .intro x hx
  rw[ma I];exact(Pin.builtinOf_eq (wH w.Ew) x).CX (Ev.of_bltView (wH w.Ew) (zb w.Ew) x hx)
 .exact⟨4,_,(de I _).CX (za w.Ew).1,(hx4 I).CX (za w.Ew).2,Cs,Cs⟩
 .rw[I.N8];intro g hg;simp at hg
 .intro x v hv
  rw[de I] at hv;exact names_of_bound (tU w.Ew) x v hv
 .intro n hn
  rw[de I];exact laid_of_kept (xb w.Ew) n hn
theorem vg {w:FX} {s:CW} (I:E4 w s 1678 2427 (Eo w.Ew) (Hw w.Ew)):isTheDefsW Es s.Dn CB:=by
 have h1:WG s.Dn CB=A9 (.C9 1677):=(de I _).CX ();have h2:s.Dn.D7 1677=A9 ⟨.Ds "function",BH,.func NC,.mk []⟩:=I.VR (1677,_) (eI (a:=1677) ());refine⟨1677,_,NC,_,_,_,h1,h2,Cs,ub,Cs,Cs,Cs,Cs,Cs,Cs,Cs,Cs,.HX ⟨(),Cs⟩,[],(),.HX ⟨Cs,Cs⟩⟩
def BT:AT Dt->BF->AT Bl
 |[],_=>[]
 |n::r,t=> .D4 n t::BT r (t+1)
theorem kY:∀(ns:AT Dt) (t:BF),(BT ns t).A8=ns.A8
 |[],_=>rfl
 |_::r,t=>FY BF.Ww (kY r (t+1))
theorem rQ {R:WRecords} {cl:Dr->Bq EA} {P:DV} {ord:AT Ex->AT Ex} (ns:AT Dt) (s:CW):layAllW R cl P ord (ns.FW .D4) s=A9 (BT ns s.Dp,{s with Dp:=s.Dp+ns.A8}):=by
 induction ns generalizing s with
 |HU=>rfl
 |Dc n r ih=>
  rw[AT.JS]
  show(match layAllW R cl P ord (r.FW .D4) {s with Dp:=s.Dp+1} with
   |A9 q=>A9 (Bl.D4 n s.Dp::q.1,q.2)
   |Bq.BH=>Bq.BH)=_
  rw[ih];show A9 (Bl.D4 n s.Dp::BT r (s.Dp+1),_)=A9 (Bl.D4 n s.Dp::BT r (s.Dp+1),_);rw[AT.DW,BF.RD,BF.Va 1]
theorem vx {R:WRecords} {xs:AT QE}:WShape.hasItems R xs .D4=Bj->∃ns:AT Dt,xs=ns.FW .D4:=by
 induction xs with
 |HU=>exactλ_=>⟨[],Cs⟩
 |Dc x r ih=>
  intro h;have h:(WShape.has R x .D4&&WShape.hasItems R r .D4)=Bj:=h;have h:=CV.Kf.mp h;obtain⟨ns,e⟩:=ih h.2;subst e;have hx:=h.1;cases x with
  |D4 n=>exact⟨n::ns,Cs⟩
  |_=>exact CV.JT (hx:Be=Bj)
def FU:Prop:=∀(w:FX) (s:CW) (ns:AT Dt) (t:BF),Bv (Eo w.Ew) s.Dn->Bv (CU w.Ew) s.Dn->Bv (Hw w.Ew) s.Dn->
 s.Dn.D7 1678=A9 {Ov:= .Ds "list",KA:= .KH (BT ns t).E6}->ns.A8<=63->(∀n∈ns,n.J3.log2<2^20)->s.N8= #[]->
 Ic (QF Es w) V6 (DH (.C9 1677) [.C9 1678]) (λv s'=>v= .G6 Bj/\(∀b o,s.Dn.D7 b=A9 o->s'.Dn.D7 b=A9 o)/\s'.N8= #[]/\s'.os=s.os) (λ_ _=>Re) s
def FE:OpenLaw:={FZ:=Es,F6:=CB,about:=[(D8.Dr.WH "read_intel")],foot:=19,most:=A9 63,bound:=BH,writes:=Be}
theorem xD:D8.WV.rw_nn0100_01=FE:=by
 unfold D8.WV.rw_nn0100_01 FE;rw[xK,rR]
theorem kO (w:FX) (os:Rd):(Ft w os).asleep:=⟨(),()⟩
theorem uK {w:FX} {s:CW} (h:Bv (Eo w.Ew) s.Dn):s.Dn.Ns Kz ((Aaf w.Ew).nsMap Kz):=by
 obtain⟨o,es,ep,a,b⟩:=Ev.Ns.of_isNs (pQ w.Ew);have e:s.Dn.D7 3=(Aaf w.Ew).D7 3:=(h (3,MO (Eo w.Ew) 3) (eI ())).CX ();exact⟨o,es,ep,e.CX a,b⟩
theorem oK (P:DV):(Aaf P).nsMap Kz CB=A9 (.C9 1677):=by lk
theorem mo:FE.row.Xc.claim.pre [.list []]=Bj:=by decide+QG
theorem xf:(QE.layableAll [.list []]&&FE.row.Xc.returnsAt [.list []])=Bj:=by decide+QG
theorem tX:QE.layableAll [.list []]=Bj:=by decide+QG
theorem uE (args:AT QE):FE.row.Xc.claim.post args (.G6 Bj) args=Bj:=by lk
theorem oJ (ns:AT Dt) (n:Dt) (h:n∈ns):n.J3.log2<QE.weightAll (ns.FW .D4):=by
 induction ns with
 |HU=>exact nomatch h
 |Dc m r ih=>
  rw[AT.JS,QE.weightAll];rcases AT.GZ.mp h with rfl|h
  .refine BF.PJ ?_ `I
   rw[QE.weight];split
   .rename_i e;exact(FY (λz:Dt=>BF.log2 z.J3) (P7 e))▸BF.lt_succ_self _
   .exact BF.lt_succ_of_lt (BF.lt_succ_self _)
  .exact BF.PJ (ih h) (BF.le_add_left _ _)
theorem qN {args:AT QE} (h:FE.row.Xc.claim.pre args=Bj) (hl:QE.layableAll args=Bj):∃ns:AT Dt,args=[.list (ns.FW .D4)]/\ns.A8<=63/\∀n∈ns,n.J3.log2<2^20:=by
 obtain⟨h1,h2⟩:=pre_splitW h;obtain⟨d,r,Cs,a,b⟩:=hasAllW_cons h1;cases r with
 |Dc=>simp[WShape.hasAll] at b
 |HU=>
  obtain⟨xs,Cs,q⟩:=hasW_list a;obtain⟨ns,Cs⟩:=vx q;refine⟨ns,Cs,?_,λn hn=> ?_⟩
  .change (match(match(match(less? (QE.D4 63) (QE.D4 ↑(ns.FW QE.D4).A8)).FW QE.G6 with|A9 (QE.G6 b)=>A9 (QE.G6 !b)|_=>BH) with|A9 (QE.G6 Be)=>A9 (QE.G6 Be)|A9 (QE.G6 Bj)=>A9 (QE.G6 Bj)|_=>BH) with|A9 (QE.G6 Bj)=>Bj|_=>Be)=Bj at h2
   rw[AT.Lc,less?,Num.less?] at h2;cases e:decide ((63:Dt)<(ns.A8:BF)) with
   |Bj=>rw[e] at h2;cases h2
   |Be=>exact Dt.ofNat_le.mp (Dt.not_lt.mp (of_decide_eq_false e))
  .simp only[QE.layableAll,QE.layable,AT.RU,AT.all_nil,CV.and_true,CV.DG,Vr,QE.weight] at hl
   exact BF.PJ (oJ ns n hn) (P7 hl.2)
theorem qz {w:FX} {s:CW} {vs:AT Bl} {Q:D8.Fin->CW->Prop} {E:Bl->CW->Prop} (hg:Bv (Eo w.Ew) s.Dn)
  (h:Ic (QF Es w) V6 (DH (.C9 1677) vs) (λv s'=>Q (.done (.EM v)) s') E s):
  Ic (QF Es w) V6 (do match <-nsGet VE CB with
   |A9 f=>do EM (<-D8.DH f vs)
   |BH=>LE "claim.caller:no-such-global") Q E s:=
 Ch (wpAny_nsGet (uK hg) (by rw[oK];exact Ch (Ho h (λ_ _ x=>De x) λ_ _ x=>x)))
theorem su (tw:Es.tablesWhole=Bj) (ow:opensWell Es=Bj) (goal:FU) (k1:FE.row.wellSaid=Bj):FE.row.Holds:=by
 refine⟨k1,⟨_,mo,xf⟩,⟨⟨Cs,Cs,Cs,Cs,Cs,tw⟩,ow,Cs⟩,⟨_,mo,tX⟩,λw=> ?_⟩;obtain⟨s₀,h0,hv⟩:=Bq.map_eq_some_iff.mp (boot_open lG (by decide:BF.Ls 600 600=Bj) sR w);obtain⟨hp,gs,dr,tk,os⟩:=s₀;obtain⟨Cs,Cs,Cs,Cs⟩:hp=RC w.Ew/\gs= .mk []/\dr=boot_drawn/\tk=boot_toks:=by simpa using hv
 rw[<-table_eq_tree] at h0;obtain⟨s,h4,h5⟩:=Bq.bind_eq_some_iff.mp h0;have A:=AfterImport.of_importEnds h4;refine⟨⟨s,A⟩,λs' hs'=> ?_⟩
 obtain rfl:s'=s:=AfterImport.unique hs' A
 obtain⟨s₁,M,hrun,I⟩:=pZ w os;obtain⟨T,hz⟩:=t9 hrun I (kO w os);refine⟨Ft w os,h5,Cs,s₁,T,λn hn=> ?_,λx hx=>(nomatch hx),λx hx=>(nomatch hx),?_⟩
 .obtain rfl:n=CB:=by
   have:n∈[CB]:=hn
   simpa using F4
  exact vg I
 .refine ClaimW.callFrom_of_specG (c:=FE.row.Xc.claim) hz I.N8 λargs Sa hlay ord hord=> ?_
  obtain⟨ns,Cs,N9,hbits⟩:=qN Sa hlay;have hlaid:layAllW FE.row.Xc.claim.records (classAt s₁.Dn) w.Ew ord [.list (ns.FW .D4)] s₁=A9 ([.C9 1678],{s₁ with Dp:=s₁.Dp+ns.A8,Dn:=s₁.Dn.Lr {Ov:= .Ds "list",KA:= .KH (BT ns s₁.Dp).E6}}):=by
   show(match(match layAllW _ _ _ _ (ns.FW .D4) s₁ with
    |A9 r=>A9 (Bl.C9 r.2.Dn.KL.Id,{r.2 with Dn:=r.2.Dn.Lr {Ov:= .Ds "list",KA:= .KH r.1.E6}})
    |Bq.BH=>Bq.BH) with
    |A9 a=>(match A9 (([]:AT Bl),a.2) with
     |A9 r=>A9 (a.1::r.1,r.2)
     |Bq.BH=>Bq.BH)
    |Bq.BH=>Bq.BH)=_
   rw[rQ];dsimp only;rw[I.Id]
  refine⟨_,_,hlaid,qz (λp hp=>Ev.EB _ (I.Q2 p hp)) ?_⟩;have QH:∀b o,s₁.Dn.D7 b=A9 o->(s₁.Dn.Lr {Ov:= .Ds "list",KA:= .KH (BT ns s₁.Dp).E6}).D7 b=A9 o:=λb o e=>Ev.EB _ e;have hl:(s₁.Dn.Lr {Ov:= .Ds "list",KA:= .KH (BT ns s₁.Dp).E6}).D7 1678=A9 {Ov:= .Ds "list",KA:= .KH (BT ns s₁.Dp).E6}:=by
   rw[<-I.Id];exact Ev.JW _ rfl
  refine Ho (goal w _ ns s₁.Dp (λp hp=>QH _ _ (I.Q2 p hp)) (λp hp=>QH _ _ (I.Qd p hp)) (λp hp=>QH _ _ (I.VR p hp)) hl N9 hbits I.N8) (λv s' hq=> ?_) λ_ _ x=>x.Dk;obtain⟨Cs,hk,hg,hos⟩:=hq;have g:GoodW FE.row.Xc.claim (classAt s₁.Dn) (ExcName.means s₁.Dn) [.list (ns.FW .D4)] _ (.ok (.EM (.G6 Bj))) s':=
   ⟨.HX ⟨.G6 Bj,.G6 Bj,[],Cs,λ_=>rfl,.G6 Bj,uE _,λ_=>⟨AT.WX,λa ha=>nomatch ha⟩⟩,hk,hos,hg⟩
  obtain⟨e1,e2,e3⟩:=GoodW.ends (c:=FE.row.Xc.claim) rfl (ident_freeW rfl rfl rfl) hord hlaid hlay g;refine⟨_,Cs,e1,e2,?_,λhw=>by cases hw⟩;rw[e3];intro g hg;simp at hg
end Internal
namespace Internal
open PySem
set_option backward.match.sparseCases false
theorem ob {α β:Type} {o:Bq α} {f:α->Bq β} {b:β} {q:Prop} (h:o.G3 f=A9 b) (k:∀a,o=A9 a->f a=A9 b->q):q:=by
 cases o with
 |BH=>cases h
 |A9 a=>exact k a rfl h
def Dw {α:Type} (i j:BF) (f:i=j->Bq α):Bq α:=if h:i=j then f h else BH
theorem aP {α:Type} {i j:BF} {f:i=j->Bq α} {a:α} {q:Prop} (h:Dw i j f=A9 a) (k:∀e,f e=A9 a->q):q:=by
 unfold Dw at h
 by_cases e:i=j
 .rw[dif_pos e] at h;exact k e h
 .rw[dif_neg e] at h;cases h
def BJ (e:Ez):Bq Dr:=Dw e.E5 23 λh=>Ez.JV.Dk e h λx _=>A9 x
theorem aZ {e:Ez} {x:Dr} {q:Ez->Prop} (h:BJ e=A9 x) (k:∀p,q (.JV x p)):q e:=
 aP h λi=>Ez.JV.Dk (LS:=λe=>(i:e.E5=23)->Ez.JV.Dk e i (λx _=>A9 x)=A9 x->q e) e i (λy p _ h=>(Bq.A9.Ky h:y=x)▸k p) i
def Gf (e:Ez):Bq (AT Ez):=Dw e.E5 25 λh=>Ez.Oi.Dk e h λx _ _=>A9 x
theorem fM {e:Ez} {x:AT Ez} {q:Ez->Prop} (h:Gf e=A9 x) (k:∀n p,q (.Oi x n p)):q e:=
 aP h λi=>Ez.Oi.Dk (LS:=λe=>(i:e.E5=25)->Ez.Oi.Dk e i (λx _ _=>A9 x)=A9 x->q e) e i (λy n p _ h=>(Bq.A9.Ky h:y=x)▸k n p) i
def Il (c:Const):Bq Dr:=Dw c.E5 5 λh=>Const.Dq.Dk c h A9
theorem nY {c:Const} {x:Dr} {q:Const->Prop} (h:Il c=A9 x) (k:q (.Dq x)):q c:=
 aP h λi=>Const.Dq.Dk (Sb:=λc=>(i:c.E5=5)->Const.Dq.Dk c i A9=A9 x->q c) c i (λy _ h=>(Bq.A9.Ky h:y=x)▸k) i
def IU (e:Ez):Bq Dr:=Dw e.E5 19 λh=>Ez.KP.Dk e h λc _ _=>Il c
theorem jR {e:Ez} {x:Dr} {q:Ez->Prop} (h:IU e=A9 x) (k:∀n p,q (.KP (.Dq x) n p)):q e:=
 aP h λi=>Ez.KP.Dk (LS:=λe=>(i:e.E5=19)->Ez.KP.Dk e i (λc _ _=>Il c)=A9 x->q e) e i (λc n p _ h=>nY (q:=λc=>q (.KP c n p)) h (k n p)) i
def Ma (e:Ez):Bq (Ez×Dr):=Dw e.E5 20 λh=>Ez.JU.Dk e h λo x _=>A9 (o,x)
theorem n8 {e o:Ez} {x:Dr} {q:Ez->Prop} (h:Ma e=A9 (o,x)) (k:∀p,q (.JU o x p)):q e:=
 aP h λi=>Ez.JU.Dk (LS:=λe=>(i:e.E5=20)->Ez.JU.Dk e i (λo x _=>A9 (o,x))=A9 (o,x)->q e) e i (λa b p _ h=>by cases h;exact k p) i
def IY (e:Ez):Bq (Ez×Dr×Oz):=Dw e.E5 20 λh=>Ez.JU.Dk e h λo x p=>A9 (o,x,p)
theorem xz {e:Ez} {r:Ez×Dr×Oz} {q:Ez->Prop} (h:IY e=A9 r) (k:q (.JU r.1 r.2.1 r.2.2)):q e:=
 aP h λi=>Ez.JU.Dk (LS:=λe=>(i:e.E5=20)->Ez.JU.Dk e i (λo x p=>A9 (o,x,p))=A9 r->q e) e i (λa b p _ h=>by cases h;exact k) i
def L6 (e:Ez):Bq (Bq Ez×Bq Ez):=Dw e.E5 26 λh=>Ez.Slice.Dk e h λa b c _=>match c with
 |BH=>A9 (a,b)
 |A9 _=>BH
theorem qt {e:Ez} {r:Bq Ez×Bq Ez} {q:Ez->Prop} (h:L6 e=A9 r) (k:∀p,q (.Slice r.1 r.2 BH p)):q e:=
 aP h λi=>Ez.Slice.Dk (LS:=λe=>(i:e.E5=26)->Ez.Slice.Dk e i (λa b c _=>match c with|BH=>A9 (a,b)|A9 _=>BH)=A9 r->q e) e i (λa b c p _ h=>by
  cases c with
  |BH=>cases h;exact k p
  |A9 _=>cases h) i
def G9 (e:Ez):Bq (Ez×AT Ez):=Dw e.E5 16 λh=>Ez.QI.Dk e h λf as ks _=>match ks with
 |[]=>A9 (f,as)
 |_::_=>BH
theorem ia {e f:Ez} {as:AT Ez} {q:Ez->Prop} (h:G9 e=A9 (f,as)) (k:∀p,q (.QI f as [] p)):q e:=
 aP h λi=>Ez.QI.Dk (LS:=λe=>(i:e.E5=16)->Ez.QI.Dk e i (λf as ks _=>match ks with|[]=>A9 (f,as)|_::_=>BH)=A9 (f,as)->q e) e i (λa b ks p _ h=>by
  cases ks with
  |HU=>cases h;exact k p
  |Dc _ _=>cases h) i
def IV (s:IQ):Bq Ez:=Dw s.E5 3 λh=>IQ.QJ.Dk s h λx _=>x
theorem jS {s:IQ} {e:Ez} {q:IQ->Prop} (h:IV s=A9 e) (k:∀p,q (.QJ (A9 e) p)):q s:=
 aP h λi=>IQ.QJ.Dk (motive_2:=λs=>(i:s.E5=3)->IQ.QJ.Dk s i (λx _=>x)=A9 e->q s) s i (λy p _ h=>by cases(show y=A9 e from h);exact k p) i
def IW (s:IQ):Bq Ez:=Dw s.E5 16 λh=>IQ.Sd.Dk s h λx c _=>match c with
 |BH=>x
 |A9 _=>BH
theorem li {s:IQ} {e:Ez} {q:IQ->Prop} (h:IW s=A9 e) (k:∀p,q (.Sd (A9 e) BH p)):q s:=
 aP h λi=>IQ.Sd.Dk (motive_2:=λs=>(i:s.E5=16)->IQ.Sd.Dk s i (λx c _=>match c with|BH=>x|A9 _=>BH)=A9 e->q s) s i (λy c p _ h=>by
  cases c with
  |BH=>cases h;exact k p
  |A9 _=>cases h) i
def CR {α:Type}:AT α->Bq α
 |[]=>BH
 |a::r=>match r with
  |[]=>A9 a
  |_::_=>BH
theorem bQ {α:Type} {l:AT α} {a:α} {q:AT α->Prop} (h:CR l=A9 a) (k:q [a]):q l:=by
 cases l with
 |HU=>cases h
 |Dc b r=>cases r with
  |HU=>cases h;exact k
  |Dc _ _=>cases h
def E9 {α:Type}:AT α->Bq (α×α)
 |[]=>BH
 |a::r=>match CR r with
  |A9 b=>A9 (a,b)
  |BH=>BH
theorem da {α:Type} {l:AT α} {p:α×α} {q:AT α->Prop} (h:E9 l=A9 p) (k:q [p.1,p.2]):q l:=by
 cases l with
 |HU=>cases h
 |Dc b r=>cases r with
  |HU=>cases h
  |Dc c r=>cases r with
   |HU=>cases h;exact k
   |Dc _ _=>cases h
def MT (e:Ez):Bq ((Ez×AT Pq)×OE):=Dw e.E5 8 λh=>Ez.Lw.Dk e h λa b c _=>A9 ((a,b),c)
theorem ul {e:Ez} {r:(Ez×AT Pq)×OE} {q:Ez->Prop} (h:MT e=A9 r) (k:∀p,q (.Lw r.1.1 r.1.2 r.2 p)):q e:=
 aP h λi=>Ez.Lw.Dk (LS:=λe=>(i:e.E5=8)->Ez.Lw.Dk e i (λa b c _=>A9 ((a,b),c))=A9 r->q e) e i (λa b c p _ h=>by cases h;exact k p) i
def Im (s:IQ):Bq Ez:=Dw s.E5 24 λh=>IQ.Ez.Dk s h λx _=>A9 x
theorem n6 {s:IQ} {e:Ez} {q:IQ->Prop} (h:Im s=A9 e) (k:∀p,q (.Ez e p)):q s:=
 aP h λi=>IQ.Ez.Dk (motive_2:=λs=>(i:s.E5=24)->IQ.Ez.Dk s i (λx _=>A9 x)=A9 e->q s) s i (λy p _ h=>(Bq.A9.Ky h:y=e)▸k p) i
def L8 (e:Ez):Bq (Dr×AT Ez):=(G9 e).G3 λc=>(BJ c.1).G3 λx=>A9 (x,c.2)
theorem iK {e:Ez} {r:Dr×AT Ez} {q:Ez->Prop} (h:L8 e=A9 r) (k:∀p1 p2,q (.QI (.JV r.1 p1) r.2 [] p2)):q e:=
 ob h λc h1 h=>ia h1 λp2=>ob h λx h2 h=>aZ (q:=λf=>q (.QI f c.2 [] p2)) h2 λp1=>by cases h;exact k p1 p2
def IZ (b:AT IQ):Bq (Dr×Dr):=(CR b).G3 λs=>(IV s).G3 λe=>(Gf e).G3 λes=>(E9 es).G3 λp=>(IU p.1).G3 λu=>(IU p.2).G3 λv=>A9 (u,v)
theorem lu {b:AT IQ} {p:Dr×Dr} {q:AT IQ->Prop} (h:IZ b=A9 p) (k:∀k1 p1 k2 p2 k3 p3 p4,q [.QJ (A9 (.Oi [.KP (.Dq p.1) k1 p1,.KP (.Dq p.2) k2 p2] k3 p3)) p4]):q b:=
 ob h λs h1 h=>bQ h1 (ob h λe h2 h=>jS (q:=λs=>q [s]) h2 λp4=>ob h λes h3 h=>fM (q:=λe=>q [.QJ (A9 e) p4]) h3 λk3 p3=>ob h λt h4 h=>
  da (q:=λes=>q [.QJ (A9 (.Oi es k3 p3)) p4]) h4 (ob h λu h5 h=>jR (q:=λe=>q [.QJ (A9 (.Oi [e,t.2] k3 p3)) p4]) h5 λk1 p1=>ob h λv h6 h=>
   jR (q:=λe=>q [.QJ (A9 (.Oi [.KP (.Dq u) k1 p1,e] k3 p3)) p4]) h6 λk2 p2=>by cases h;exact k _ _ _ _ _ _ _))
def Ht (b:AT IQ):Bq ((Dr×Dr)×Dr×Dr):=(CR b).G3 λs=>(IW s).G3 λe=>(G9 e).G3 λc=>(BJ c.1).G3 λy=>(E9 c.2).G3 λp=>(Ma p.1).G3 λa=>(BJ a.1).G3 λz=>(BJ p.2).G3 λt=>A9 ((y,z),a.2,t)
theorem jU {b:AT IQ} {r:(Dr×Dr)×Dr×Dr} {q:AT IQ->Prop} (h:Ht b=A9 r) (k:∀p1 p2 p3 p4 p5 p6,q [.Sd (A9 (.QI (.JV r.1.1 p1) [.JU (.JV r.1.2 p2) r.2.1 p3,.JV r.2.2 p4] [] p5)) BH p6]):q b:=
 ob h λs h1 h=>bQ h1 (ob h λe h2 h=>li (q:=λs=>q [s]) h2 λp6=>ob h λc h3 h=>ia (q:=λe=>q [.Sd (A9 e) BH p6]) h3 λp5=>ob h λy h4 h=>
  aZ (q:=λe=>q [.Sd (A9 (.QI e c.2 [] p5)) BH p6]) h4 λp1=>ob h λt h5 h=>da (q:=λl=>q [.Sd (A9 (.QI (.JV y p1) l [] p5)) BH p6]) h5 (ob h λa h6 h=>
   n8 (q:=λe=>q [.Sd (A9 (.QI (.JV y p1) [e,t.2] [] p5)) BH p6]) h6 λp3=>ob h λz h7 h=>aZ (q:=λe=>q [.Sd (A9 (.QI (.JV y p1) [.JU e a.2 p3,t.2] [] p5)) BH p6]) h7 λp2=>ob h λu h8 h=>
    aZ (q:=λe=>q [.Sd (A9 (.QI (.JV y p1) [.JU (.JV z p2) a.2 p3,e] [] p5)) BH p6]) h8 λp4=>by cases h;exact k _ _ _ _ _ _))
set_option genInjectivity true in
inductive T where
 |Kr|G6 (b:CV)|D4 (n:Dt)|Dq (s:Dr)
 |Ld (ts:AT T)|Dg (ts:AT T)|Rv (es:AT (T×T))|LJ (c:BF) (fs:AT (Dr×T))|Km (x:Bl)
 deriving Inhabited
inductive V where
 |t (x:T)|FN (i:BF)
 deriving Inhabited
inductive C where
 |Dg (vs:AT V)|Rv (es:AT (T×V))|LJ (c:BF) (fs:AT (Dr×V))|fz (x:T)
 deriving Inhabited
def L7 (x:Bl):Bq BF:=Dw x.E5 10 λh=>Bl.C9.Dk x h A9
def GP (x:T):Bq Bl:=Dw x.E5 8 λh=>T.Km.Dk x h A9
def Gg (v:V):Bq BF:=match v with
 | .t x=>(GP x).G3 L7
 | .FN _=>BH
theorem nZ {x:Bl} {d:BF} {q:Bl->Prop} (h:L7 x=A9 d) (k:q (.C9 d)):q x:=
 aP h λi=>Bl.C9.Dk (Sb:=λx=>(i:x.E5=10)->Bl.C9.Dk x i A9=A9 d->q x) x i (λy _ h=>(Bq.A9.Ky h:y=d)▸k) i
theorem fN {x:T} {y:Bl} {q:T->Prop} (h:GP x=A9 y) (k:q (.Km y)):q x:=
 aP h λi=>T.Km.Dk (LS:=λx=>(i:x.E5=8)->T.Km.Dk x i A9=A9 y->q x) x i (λz _ h=>(Bq.A9.Ky h:z=y)▸k) i
theorem dP {v:V} {d:BF} {q:V->Prop} (h:Gg v=A9 d) (k:q (.t (.Km (.C9 d)))):q v:=by
 cases v with
 |t x=>exact ob h λy h1 h2=>fN (q:=λx=>q (.t x)) h1 (nZ (q:=λy=>q (.t (.Km y))) h2 k)
 |FN _=>cases h
def Gd (x:Bl):Bq Qf:=Dw x.E5 8 λh=>Bl.Ds.Dk x h A9
theorem eC {x:Bl} {d:Qf} {q:Bl->Prop} (h:Gd x=A9 d) (k:q (.Ds d)):q x:=
 aP h λi=>Bl.Ds.Dk (Sb:=λx=>(i:x.E5=8)->Bl.Ds.Dk x i A9=A9 d->q x) x i (λy _ h=>(Bq.A9.Ky h:y=d)▸k) i
def Hz (s:Qf) (o:Bq V):CV:=match o with
 |BH=>Be
 |A9 v=>match v with
  | .FN _=>Be
  | .t x=>match(GP x).G3 Gd with
   |BH=>Be
   |A9 u=>decide (u=s)
theorem kq {s:Qf} {o:Bq V} (h:Hz s o=Bj):o=A9 (.t (.Km (.Ds s))):=by
 cases o with
 |BH=>cases h
 |A9 v=>cases v with
  |FN _=>cases h
  |t x=>
   have h:(match(GP x).G3 Gd with|BH=>Be|A9 u=>decide (u=s))=Bj:=h;cases e:(GP x).G3 Gd with
   |BH=>rw[e] at h;cases h
   |A9 u=>
    rw[e] at h;exact ob e λy h1 h2=>fN (q:=λx=>A9 (V.t x)=A9 (.t (.Km (.Ds s)))) h1 (eC (q:=λy=>A9 (V.t (.Km y))=A9 (.t (.Km (.Ds s)))) h2 (by rw[P7 h]))
def Z7 {α β:Type} (o:Bq α) (f:α->β) (g:β):β:=match o with
 |A9 a=>f a
 |BH=>g
theorem aF {α β:Type} {o:Bq α} {f:α->β} {g:β} {P:β->Prop} {q:Prop} (h:P (Z7 o f g)) (k1:∀a,o=A9 a->P (f a)->q) (k2:P g->q):q:=by
 cases o with
 |BH=>exact k2 h
 |A9 a=>exact k1 a rfl h
def Ef (x:T):Bq Dt:=Dw x.E5 2 λh=>T.D4.Dk x h A9
theorem ba {x:T} {y:Dt} {q:T->Prop} (h:Ef x=A9 y) (k:q (.D4 y)):q x:=
 aP h λi=>T.D4.Dk (LS:=λx=>(i:x.E5=2)->T.D4.Dk x i A9=A9 y->q x) x i (λz _ h=>(Bq.A9.Ky h:z=y)▸k) i
def Dv (x:T):Bq Dr:=Dw x.E5 3 λh=>T.Dq.Dk x h A9
theorem bp {x:T} {y:Dr} {q:T->Prop} (h:Dv x=A9 y) (k:q (.Dq y)):q x:=
 aP h λi=>T.Dq.Dk (LS:=λx=>(i:x.E5=3)->T.Dq.Dk x i A9=A9 y->q x) x i (λz _ h=>(Bq.A9.Ky h:z=y)▸k) i
def Ge (x:T):Bq (AT T):=Dw x.E5 4 λh=>T.Ld.Dk x h A9
theorem c6 {x:T} {y:AT T} {q:T->Prop} (h:Ge x=A9 y) (k:q (.Ld y)):q x:=
 aP h λi=>T.Ld.Dk (LS:=λx=>(i:x.E5=4)->T.Ld.Dk x i A9=A9 y->q x) x i (λz _ h=>(Bq.A9.Ky h:z=y)▸k) i
def Io (x:T):Bq CV:=Dw x.E5 1 λh=>T.G6.Dk x h A9
theorem ib {x:T} {y:CV} {q:T->Prop} (h:Io x=A9 y) (k:q (.G6 y)):q x:=
 aP h λi=>T.G6.Dk (LS:=λx=>(i:x.E5=1)->T.G6.Dk x i A9=A9 y->q x) x i (λz _ h=>(Bq.A9.Ky h:z=y)▸k) i
def Gh (x:T):Bq (AT T):=Dw x.E5 5 λh=>T.Dg.Dk x h A9
theorem n5 {x:T} {y:(AT T)} {q:T->Prop} (h:Gh x=A9 y) (k:q (.Dg y)):q x:=
 aP h λi=>T.Dg.Dk (LS:=λx=>(i:x.E5=5)->T.Dg.Dk x i A9=A9 y->q x) x i (λz _ h=>(Bq.A9.Ky h:z=y)▸k) i
def G8 (x:T):Bq (AT (T×T)):=Dw x.E5 6 λh=>T.Rv.Dk x h A9
theorem n7 {x:T} {y:(AT (T×T))} {q:T->Prop} (h:G8 x=A9 y) (k:q (.Rv y)):q x:=
 aP h λi=>T.Rv.Dk (LS:=λx=>(i:x.E5=6)->T.Rv.Dk x i A9=A9 y->q x) x i (λz _ h=>(Bq.A9.Ky h:z=y)▸k) i
def IX (x:T):Bq (BF×AT (Dr×T)):=Dw x.E5 7 λh=>T.LJ.Dk x h λc fs=>A9 (c,fs)
theorem qu {x:T} {y:BF×AT (Dr×T)} {q:T->Prop} (h:IX x=A9 y) (k:q (.LJ y.1 y.2)):q x:=
 aP h λi=>T.LJ.Dk (LS:=λx=>(i:x.E5=7)->T.LJ.Dk x i (λc fs=>A9 (c,fs))=A9 y->q x) x i (λc fs _ h=>by cases(Bq.A9.Ky h:(c,fs)=y);exact k) i
def Gq (x:T):CV:=BF.QC x.E5 0
theorem cj {x:T} {q:T->Prop} (h:Gq x=Bj) (k:q .Kr):q x:=T.Kr.Dk (LS:=q) x `aA k
def wh {α:Type} (b:CV) (x:α):Bq α:=match b with
 |Bj=>A9 x
 |Be=>BH
theorem dj {α:Type} {b:CV} {x c:α} {q:Prop} (h:wh b x=A9 c) (k:b=Bj->x=c->q):q:=by
 cases b with
 |Bj=>exact k rfl `T
 |Be=>cases h
def Ps {α:Type} (v:V) (f:T->Bq α):Bq α:=match v with
 | .t x=>f x
 | .FN _=>BH
theorem fW {α:Type} {v:V} {f:T->Bq α} {a:α} {q:V->Prop} (h:Ps v f=A9 a) (k:∀x,f x=A9 a->q (.t x)):q v:=by
 cases v with
 |t x=>exact k x h
 |FN _=>cases h
def ZY (v:V):Bq Dt:=Ps v Ef
def ZX (v:V):Bq Dr:=Ps v Dv
def MQ (v:V):Bq (AT T):=Ps v Ge
def ZZ (v:V):Bq CV:=Ps v Io
theorem pW {v:V} {n:CV} {q:V->Prop} (h:ZZ v=A9 n) (k:q (.t (.G6 n))):q v:=fW h λ_ e=>ib (q:=λx=>q (.t x)) e k
theorem zg {v:V} {n:Dt} {q:V->Prop} (h:ZY v=A9 n) (k:q (.t (.D4 n))):q v:=fW h λ_ e=>ba (q:=λx=>q (.t x)) e k
theorem pV {v:V} {n:Dr} {q:V->Prop} (h:ZX v=A9 n) (k:q (.t (.Dq n))):q v:=fW h λ_ e=>bp (q:=λx=>q (.t x)) e k
theorem mq {v:V} {n:AT T} {q:V->Prop} (h:MQ v=A9 n) (k:q (.t (.Ld n))):q v:=fW h λ_ e=>c6 (q:=λx=>q (.t x)) e k
def CZ {α:Type} (l:AT α):CV:=match l with
 |[]=>Bj
 |_::_=>Be
theorem dY {α:Type} {l:AT α} {q:AT α->Prop} (h:CZ l=Bj) (k:q []):q l:=by
 cases l with
 |HU=>exact k
 |Dc _ _=>cases h
def Jo (v:V):Bq BF:=match v with
 | .t _=>BH
 | .FN i=>A9 i
theorem dI {v:V} {i:BF} {q:V->Prop} (h:Jo v=A9 i) (k:q (.FN i)):q v:=by
 cases v with
 |t _=>cases h
 |FN _=>cases h;exact k
def I6 (v:V):Bq T:=match v with
 | .t x=>A9 x
 | .FN _=>BH
theorem bB {v:V} {x:T} {q:V->Prop} (h:I6 v=A9 x) (k:q (.t x)):q v:=by
 cases v with
 |t _=>cases h;exact k
 |FN _=>cases h
def Ut (c:C):Bq T:=match c with
 | .Dg _=>BH
 | .Rv _=>BH
 | .LJ _ _=>BH
 | .fz x=>A9 x
theorem l9 {c:C} {l:T} {q:C->Prop} (h:Ut c=A9 l) (k:q (.fz l)):q c:=by
 cases c with
 |Dg _=>cases h
 |Rv _=>cases h
 |LJ _ _=>cases h
 |fz _=>cases h;exact k
def Pa (c:C):Bq (AT (T×V)):=match c with
 | .Dg _=>BH
 | .Rv l=>A9 l
 | .LJ _ _=>BH
 | .fz _=>BH
theorem nH {c:C} {l:AT (T×V)} {q:C->Prop} (h:Pa c=A9 l) (k:q (.Rv l)):q c:=by
 cases c with
 |Dg _=>cases h
 |Rv _=>cases h;exact k
 |LJ _ _=>cases h
 |fz _=>cases h
def O9 (c:C):Bq (BF×AT (Dr×V)):=match c with
 | .Dg _=>BH
 | .Rv _=>BH
 | .LJ c l=>A9 (c,l)
 | .fz _=>BH
theorem nG {c:C} {l:BF×AT (Dr×V)} {q:C->Prop} (h:O9 c=A9 l) (k:q (.LJ l.1 l.2)):q c:=by
 cases c with
 |Dg _=>cases h
 |Rv _=>cases h
 |LJ _ _=>cases h;exact k
 |fz _=>cases h
def Ni (c:C):Bq (AT V):=match c with
 | .Dg l=>A9 l
 | .Rv _=>BH
 | .LJ _ _=>BH
 | .fz _=>BH
theorem nF {c:C} {l:AT V} {q:C->Prop} (h:Ni c=A9 l) (k:q (.Dg l)):q c:=by
 cases c with
 |Dg _=>cases h;exact k
 |Rv _=>cases h
 |LJ _ _=>cases h
 |fz _=>cases h
def L9 (x:Bl):Bq Qf:=Dw x.E5 9 λh=>Bl.Dd.Dk x h A9
theorem ic {x:Bl} {d:Qf} {q:Bl->Prop} (h:L9 x=A9 d) (k:q (.Dd d)):q x:=
 aP h λi=>Bl.Dd.Dk (Sb:=λx=>(i:x.E5=9)->Bl.Dd.Dk x i A9=A9 d->q x) x i (λy _ h=>(Bq.A9.Ky h:y=d)▸k) i
abbrev St:=AT C
abbrev Ag:=AT (Dr×V)
set_option genInjectivity true in
inductive An where
 |EM (v:V) (cs:St)|Oj (c:BF) (what:V) (at_:V) (cs:St)|stop (why:BF)
 |DH (f:BF) (vs:AT V) (cs:St) (k:V->St->An) (ke:BF->V->V->St->An)
 |PE (c b:BF) (vs:AT V) (cs:St) (k:V->St->An) (ke:BF->V->V->St->An)
 deriving Inhabited
abbrev KV:=V->St->An
abbrev KB:=CV->St->An
abbrev KX:=BF->V->V->St->An
abbrev KN:=Ag->St->An
structure Hj where
 Ew:AT Dr
 Vs:AT T
 G0:AT IQ
 Jm:OE
structure ML where
 Xo:BF
 QH:CV
structure DM where
 glob:Dr->Bq T
 fn:BF->Bq Hj
 Ov:BF->Bq ML
 Oj:BF->CV
 Xs:BF->BF->CV
 meth:BF->Dr->Bq BF
 fld:BF->Dr->CV
def UV:AT BF->AT BF->CV
 |[],l=>match l with
  |[]=>Bj
  |_::_=>Be
 |a::r,l=>match l with
  |[]=>Be
  |b::r'=>match BF.QC a b with
   |Bj=>UV r r'
   |Be=>Be
def KH (a b:Dr):CV:=match a,b with
 |⟨⟨x⟩⟩,⟨⟨y⟩⟩=>UV x y
def br (b:CV) (x y:An):An:=match b with
 |Bj=>x
 |Be=>y
def AA {α:Type} (o:Bq α) (why:BF) (f:α->An):An:=match o with
 |A9 a=>f a
 |BH=> .D9 why
def BU {α:Type}:AT (Dr×α)->Dr->Bq α
 |[],_=>BH
 |(k,v)::r,x=>match KH k x with
  |Bj=>A9 v
  |Be=>BU r x
def IA:AT (Dr×Ln)->Dr->Bq Ln
 |[],_=>BH
 |(k,v)::r,x=>match KH k x with
  |Bj=>A9 v
  |Be=>IA r x
def Cr {α:Type}:AT (Dr×α)->Dr->α->AT (Dr×α)
 |[],x,v=>[(x,v)]
 |(k,w)::r,x,v=>match KH k x with
  |Bj=>(k,v)::r
  |Be=>(k,w)::Cr r x v
def J7 {α:Type}:AT α->BF->Bq α
 |[],_=>BH
 |a::_,0=>A9 a
 |_::r,n+1=>J7 r n
def PF {α:Type}:AT α->BF->α->AT α
 |[],_,_=>[]
 |_::r,0,b=>b::r
 |a::r,n+1,b=>a::PF r n b
def ZW (ts:AT T):AT V:=ts.FW .t
def Ng (cs:St) (v:V):Bq C:=(Jo v).G3 (J7 cs)
def AX (cs:St) (v:V):Bq (AT V):=
 Z7 (I6 v) (λx=>(Gh x).G3 λts=>A9 `aB) ((Ng cs v).G3 λc=>Z7 (Ni c) A9 ((Ut c).G3 λx=>(Gh x).G3 λts=>A9 `aB))
def BW (cs:St) (v:V):Bq (AT V):=Z7 (MQ v) (λts=>A9 `aB) (AX cs v)
def Aak (es:AT (T×T)):AT (T×V):=es.FW λp=>(p.1,.t p.2)
def Aah (es:AT (Dr×T)):AT (Dr×V):=es.FW λp=>(p.1,.t p.2)
def Dm (cs:St) (v:V):Bq (AT (T×V)):=
 Z7 (I6 v) (λx=>(G8 x).G3 λes=>A9 (Aak es)) ((Ng cs v).G3 λc=>Z7 (Pa c) A9 ((Ut c).G3 λx=>(G8 x).G3 λes=>A9 (Aak es)))
def GU (cs:St) (v:V):Bq (BF×AT (Dr×V)):=
 Z7 (I6 v) (λx=>(IX x).G3 λp=>A9 (p.1,Aah p.2)) ((Ng cs v).G3 λc=>Z7 (O9 c) A9 ((Ut c).G3 λx=>(IX x).G3 λp=>A9 (p.1,Aah p.2)))
def EU (cs:St) (i:BF):Bq (AT V):=(J7 cs i).G3 Ni
theorem fx {cs:St} {i:BF} {l:AT V} (h:EU cs i=A9 l):J7 cs i=A9 (.Dg l):=
 ob h λ_ e h=>nF (q:=λc=>J7 cs i=A9 c->J7 cs i=A9 (.Dg l)) h id e
def Us (cs:St) (i:BF):Bq (AT (T×V)):=(J7 cs i).G3 Pa
theorem wk {cs:St} {i:BF} {l:AT (T×V)} (h:Us cs i=A9 l):J7 cs i=A9 (.Rv l):=
 ob h λ_ e h=>nH (q:=λc=>J7 cs i=A9 c->J7 cs i=A9 (.Rv l)) h id e
def JE (cs:St) (i:BF):Bq (BF×AT (Dr×V)):=(J7 cs i).G3 O9
theorem wj {cs:St} {i:BF} {l:BF×AT (Dr×V)} (h:JE cs i=A9 l):J7 cs i=A9 (.LJ l.1 l.2):=
 ob h λ_ e h=>nG (q:=λc=>J7 cs i=A9 c->J7 cs i=A9 (.LJ l.1 l.2)) h id e
def AU {α β:Type} (f:St->α->Bq (β×St)):St->AT α->Bq (AT β×St)
 |cs,[]=>A9 ([],cs)
 |cs,a::r=>(f cs a).G3 λp=>(AU f p.2 r).G3 λq=>A9 (p.1::q.1,q.2)
def Ik {α:Type} (f:St->V->Bq (T×St)) (cs:St) (p:α×V):Bq ((α×T)×St):=(f cs p.2).G3 λq=>A9 ((p.1,q.1),q.2)
def O4 (f:St->V->Bq (T×St)) (cs:St) (i:BF) (c:C):Bq (T×St):=match c with
 | .fz x=>A9 (x,cs)
 | .Dg vs=>(AU f cs vs).G3 λp=>(EU p.2 i).G3 λ_=>A9 (.Dg p.1,PF p.2 i (.fz (.Dg p.1)))
 | .Rv es=>(AU (Ik f) cs es).G3 λp=>(Us p.2 i).G3 λ_=>A9 (.Rv p.1,PF p.2 i (.fz (.Rv p.1)))
 | .LJ c fs=>(AU (Ik f) cs fs).G3 λp=>(JE p.2 i).G3 λ_=>A9 (.LJ c p.1,PF p.2 i (.fz (.LJ c p.1)))
def WC:BF->St->V->Bq (T×St)
 |0,cs,v=>(I6 v).G3 λx=>A9 (x,cs)
 |n+1,cs,v=>Z7 (I6 v) (λx=>A9 (x,cs)) ((Jo v).G3 λi=>(J7 cs i).G3 λc=>O4 (WC n) cs i c)
def BN:BF:=12
def Hd (cs:St) (v:V):Bq (V×St):=
 Z7 (I6 v) (λx=>A9 (.t x,cs)) ((Jo v).G3 λi=>Z7 (JE cs i) (λ_=>A9 (v,cs)) ((WC BN cs v).G3 λp=>A9 (.t p.1,p.2)))
def SE (b:BF) (v:V) (i:BF) (cs:St):Bq (V×St):=
 Z7 (EU cs i) (λvs=>(AU `at cs vs).G3 λp=>(EU p.2 i).G3 λ_=>A9 (.FN b,p.2.Gk b++[.Dg (ZW p.1)])) ((WC BN cs v).G3 λp=>A9 (.t p.1,p.2.Gk b))
def FF (b:BF) (v:V) (cs:St):Bq (V×St):=
 Z7 (I6 v) (λx=>A9 (.t x,cs.Gk b)) ((Jo v).G3 λi=>match BF.Ls b i with
  |Be=>A9 (.FN i,cs.Gk b)
  |Bj=>SE b v i cs)
def Af:BF:=5000
def F9 (cs:St) (v:V):Bq CV:=
 Z7 (ZZ v) A9 ((AX cs v).G3 λl=>match l with
  |[]=>A9 Be
  |_::r=>wh (BF.Ls r.A8 Af) Bj)
def HS (a b:Dt):CV:=decide (a=b)
def CQ (a b:Dt):CV:=decide (a<b)
def CF (a b:Dt):CV:=decide (a<=b)
def Hf:CV->CV->CV
 |Bj,b=>b
 |Be,Bj=>Be
 |Be,Be=>Bj
def FB (f:T->T->Bq CV):AT T->AT T->Bq CV
 |[],l=>match l with
  |[]=>A9 Bj
  |_::_=>BH
 |a::r,l=>match l with
  |[]=>BH
  |b::r'=>(f a b).G3 λx=>(FB f r r').G3 λy=>A9 (x&&y)
def GV:BF->T->T->Bq CV
 |0,_,_=>BH
 |n+1,a,b=>Z7 (Ef a) (λx=>(Ef b).G3 λy=>A9 (HS x y)) (Z7 (Dv a) (λx=>(Dv b).G3 λy=>A9 (KH x y))
   (Z7 (Ge a) (λx=>(Ge b).G3 λy=>FB (GV n) x y) (wh (Gq a&&Gq b) Bj)))
def TM:BF:=8
def Iy (x:T):AT T->Bq CV
 |[]=>A9 Be
 |y::r=>(GV TM y x).G3 λb=>(Iy x r).G3 λc=>A9 (b||c)
def EI:AT V->Bq (AT T)
 |[]=>A9 []
 |v::r=>(I6 v).G3 λx=>(EI r).G3 λts=>A9 (x::ts)
def Dh {α:Type} (x:T):AT (T×α)->Bq (Bq α)
 |[]=>A9 BH
 |p::r=>(GV TM p.1 x).G3 λb=>(Dh x r).G3 λq=>A9 (match b with
  |Bj=>A9 p.2
  |Be=>q)
def CS:AT T->Bq (AT Dt)
 |[]=>A9 []
 |t::r=>(Ef t).G3 λn=>(CS r).G3 λl=>A9 (n::l)
def OW (x:T):CV:=Z7 (Dv x) (λ_=>Bj) (Z7 (Ef x) (λ_=>Bj) Be)
def Ml (x:T):CV:=Z7 (Dv x) (λ_=>Bj) (Z7 (Ef x) (λ_=>Bj) (Z7 (Ge x) (λts=>Z7 (CS ts) (λ_=>Bj) Be) Be))
def DR {α:Type} (x:T) (es:AT (T×α)):Bq (Bq α):=match Ml x with
 |Bj=>Dh x es
 |Be=>BH
def Aj (s:Dr):AT BF:=s.cps.Ob
def GQ (l:AT BF):Dr:=⟨⟨l⟩⟩
def XP (cs:St) (x c:V):Bq CV:=(I6 x).G3 λa=>
 Z7 (ZX c) (λs=>(Dv a).G3 λu=>A9 !(Kj.Dr.occurrences s u 0 s.A8 1).RM)
  (Z7 (BW cs c) (λvs=>(EI vs).G3 λts=>(wh (OW a) ts).G3 λts=>Iy a ts) ((Dm cs c).G3 λes=>(DR a es).G3 λq=>A9 q.KQ))
def I7 (v:V):Bq CV:=match v with
 | .FN _=>A9 Be
 | .t x=>match BF.QC x.E5 0 with
  |Bj=>A9 Bj
  |Be=>match BF.QC x.E5 8 with
   |Bj=>BH
   |Be=>A9 Be
def NB (u v:AT V):Bq CV:=match v with
 |[]=>A9 (CZ u)
 |_::_=>BH
def Nd (cs:St) (a b:V):Bq CV:=
 Z7 (AX cs a) (λu=>(AX cs b).G3 λv=>NB u v) (Z7 (ZZ a) (λx=>(ZZ b).G3 λy=>A9 (Hf x y)) ((I6 a).G3 λx=>(I6 b).G3 λy=>GV TM x y))
def Mp (f:Dt->Dt->CV) (a b:V):Bq CV:=(ZY a).G3 λx=>(ZY b).G3 λy=>A9 (f x y)
def O2 (b:V):CV:=Z7 (I6 b) Gq Be
def Ej (cs:St) (op:CmpOp) (a b:V):Bq CV:=match op with
 | .Eq=>Nd cs a b
 | .NotEq=>(Nd cs a b).G3 λc=>A9 (!c)
 | .In=>XP cs a b
 | .WI=>(XP cs a b).G3 λc=>A9 (!c)
 | .Is=>(wh (O2 b) a).G3 I7
 | .IsNot=>((wh (O2 b) a).G3 I7).G3 λc=>A9 (!c)
 | .Lt=>Mp CQ a b
 | .LtE=>Mp CF a b
 | .Gt=>Mp (λx y=>CQ y x) a b
 | .GtE=>Mp (λx y=>CF y x) a b
def Ed (n:Dt):CV:=CF 0 n&&CF n 1000
def B9 (n:Dt):CV:=BF.blt n.J3 18446744073709551616
def Uv (op:PK) (x y:Dt):Bq T:=match op with
 | .Add=>A9 (.D4 (x+y))
 | .Sub=>A9 (.D4 (x - y))
 | .Mult=>match B9 x with
  |Bj=>A9 (.D4 (x*y))
  |Be=>BH
 | .FloorDiv=>match CQ 0 y&&B9 y with
  |Bj=>A9 (.D4 (x.Xp y))
  |Be=>BH
 | .Mod=>match CQ 0 y with
  |Bj=>A9 (.D4 (x.Qr y))
  |Be=>BH
 | .Pow=>match Ed y&&B9 x with
  |Bj=>A9 (.D4 (x^y.LU))
  |Be=>BH
 | .LShift=>match Ed y&&B9 x with
  |Bj=>A9 (.D4 (x*2^y.LU))
  |Be=>BH
 |_=>BH
def Uu (op:PK) (x y:Dr):Bq T:=match op with
 | .Add=>match BF.Ls ((Aj x).A8+(Aj y).A8) Af with
  |Bj=>A9 (.Dq (x++y))
  |Be=>BH
 |_=>BH
def JG (op:PK) (a b:T):Bq T:=match a with
 | .D4 x=>match b with
  | .D4 y=>Uv op x y
  |_=>BH
 | .Dq x=>match b with
  | .Dq y=>Uu op x y
  |_=>BH
 |_=>BH
def Nk (a b:AT V):Bq (AT V):=match BF.Ls (a.A8+b.A8) Af with
 |Bj=>A9 (a++b)
 |Be=>BH
def EG (Oa:BF) (i:Dt):Bq BF:=match CQ i 0 with
 |Be=>A9 i.LU
 |Bj=>match CF 0 (i+Oa) with
  |Bj=>A9 (i+Oa).LU
  |Be=>BH
def Fh (Oa:BF) (i:Dt):BF:=match CQ i 0 with
 |Be=>BF.min i.LU Oa
 |Bj=>(i+Oa).LU
def cut {α:Type} (l:AT α) (a b:BF):AT α:=(l.Gk b).F3 a
def IE (v:V):Bq (Bq Dt):=Ps v λx=>Z7 (Ef x) (λn=>A9 (A9 n)) (wh (Gq x) BH)
def ES (c:BF):CV:=BF.Ls 48 c&&BF.Ls c 57
def O7:AT BF->BF->Bq BF
 |[],n=>A9 n
 |c::r,n=>match ES c with
  |Bj=>O7 r (n*10+(c - 48))
  |Be=>BH
def Mo (s:Dr):Bq Dt:=match Aj s with
 |[]=>BH
 |a::r=>match r with
  |[]=>wh (ES a) ((a - 48:BF):Dt)
  |b::q=>wh (CZ q&&(ES a&&ES b)) (((a - 48)*10+(b - 48):BF):Dt)
def Ij (n:Dt):Dr:=Dr.WH (toString n)
def NJ (c:BF):CV:=BF.Ls c 126&&BF.Ls 32 c
def HG (s:Dr):CV:=(Aj s).VG NJ
def Sq (c:BF):BF:=match BF.Ls 97 c&&BF.Ls c 122 with
 |Bj=>c - 32
 |Be=>c
def UU (c:BF):BF:=match BF.Ls 65 c&&BF.Ls c 90 with
 |Bj=>c+32
 |Be=>c
def Co (c:BF):AT BF->AT BF->AT (AT BF)
 |W6,[]=>[W6.Ia]
 |W6,x::r=>match BF.QC x c with
  |Bj=>W6.Ia::Co c [] r
  |Be=>Co c (x::W6) r
def Ff (l:AT BF):AT BF->AT BF
 |[]=>[]
 |x::r=>match l.Xa (BF.QC x) with
  |Bj=>Ff l r
  |Be=>x::r
def MN:AT BF->AT BF->CV
 |[],l=> !CZ l
 |a::r,l=>match l with
  |[]=>Be
  |b::r'=>BF.blt a b||(BF.QC a b&&MN r r')
def E7:AT V->Bq (AT Dr)
 |[]=>A9 []
 |v::r=>(ZX v).G3 λs=>(E7 r).G3 λl=>A9 (s::l)
def Nj:AT V->Bq CV
 |[]=>A9 Be
 |v::r=>(ZZ v).G3 λb=>(Nj r).G3 λc=>A9 (b||c)
def MY (cs:St) (v:V):Bq BF:=
 Z7 (ZX v) (λs=>A9 (Aj s).A8) (Z7 (BW cs v) (λvs=>A9 vs.A8) ((Dm cs v).G3 λes=>(Dh (.Dq (GQ [95,95,100])) es).G3 λ_=>A9 es.A8))
def LH (c:C) (cs:St) (k:KV):An:=k (.FN cs.A8) (cs++[c])
def NS (vs:AT V) (cs:St) (k:KV):An:=AA (CR vs) 12 λv=>Z7 (ZY v) (λn=>k (.t (.D4 n)) cs) (AA (ZX v) 12 λs=>AA (Mo s) 11 λn=>k (.t (.D4 n)) cs)
def NQ (vs:AT V) (cs:St) (k:KV):An:=AA (CR vs) 14 λv=>Z7 (ZY v) (λn=>br (BF.blt n.J3 (10^300)) (k (.t (.Dq (Ij n))) cs) (.D9 13)) (AA (ZX v) 14 λs=>k (.t (.Dq s)) cs)
def Mz (vs:AT V) (cs:St) (k:KV):An:=AA (CR vs) 16 λv=>AA (BW cs v) 15 λl=>br (BF.Ls l.A8 Af) (LH (.Dg l) cs k) (.D9 11)
def NP (vs:AT V) (cs:St) (k:KV):An:=AA (CR vs) 19 λv=>Z7 (MQ v) (λts=>k (.t (.Ld ts)) cs) (AA (AX cs v) 17 λl=>AA (AU (WC BN) cs l) 18 λp=>br (BF.Ls p.1.A8 Af) (k (.t (.Ld p.1)) p.2) (.D9 10))
def NU (vs:AT V) (cs:St) (k:KV):An:=AA (CR vs) 20 λv=>AA (ZY v) 20 λn=>k (.t (.D4 n.J3)) cs
def NR (vs:AT V) (cs:St) (k:KV):An:=AA (CR vs) 22 λv=>AA (MY cs v) 21 λn=>br (BF.Ls n Af) (k (.t (.D4 n)) cs) (.D9 9)
def NT (vs:AT V) (cs:St) (k:KV):An:=AA (CR vs) 25 λv=>AA (AX cs v) 23 λl=>AA (Nj l) 24 λb=>k (.t (.G6 b)) cs
def Nw (l:AT Dr):Bq (AT Dr):=match l with
 |[]=>A9 []
 |a::r=>match r with
  |[]=>A9 [a]
  |b::q=>match q with
   |[]=>A9 (match MN (Aj b) (Aj a) with|Bj=>[b,a]|Be=>[a,b])
   |_::_=>BH
def My (vs:AT V) (cs:St) (k:KV):An:=AA (CR vs) 28 λv=>AA (AX cs v) 26 λl=>AA (E7 l) 27 λss=>AA (Nw ss) 27 λus=>LH (.Dg (us.FW λs=> .t (.Dq s))) cs k
def M8 (s u:Qf):CV:=decide (s=u)
def U1 (f:Bl) (vs:AT V) (cs:St) (k:KV):An:=
 Z7 (Gd f) (λs=>br (M8 s "int") (NS vs cs k) (br (M8 s "str") (NQ vs cs k) (br (M8 s "list") (Mz vs cs k) (br (M8 s "tuple") (NP vs cs k) (.D9 29)))))
  (AA (L9 f) 29 λs=>br (M8 s "len") (NR vs cs k) (br (M8 s "abs") (NU vs cs k) (br (M8 s "any") (NT vs cs k) (br (M8 s "sorted") (My vs cs k) (.D9 29)))))
inductive Mt where
 |split|Wq|Wr|VI|Le|pop|RE|Ia|W7|W3|W8
 deriving PP
def Z8 (l:AT BF):Dr:=⟨⟨l⟩⟩
def Cb:=s!"line"
def BI:=s!"-"
def Bk:=s!"+"
def AE:=s!"*"
def Ba:=s!"]"
def Au:=s!","
def Ao:=s!"["
def J4:=s!"r8"
def Ai:=s!"alpha"
def D6:=s!"ptr"
def DF:=s!":"
def Db:=s!"offset"
def A3:=s!"neg"
def Ca:=s!"lock"
def J1:=s!"rm8"
def J0:=s!"rm16"
def JZ:=s!"rm64"
def A0:=s!"rows"
def Da:=s!"row"
def D5:=s!"dword"
def Br:=s!"turn"
def DD:=s!"due"
def Ju (x:Dr):AT (AT BF×Mt)->Mt
 |[]=> .W8
 |p::r=>match KH x (Z8 p.1) with
  |Bj=>p.2
  |Be=>Ju x r
def Y1:AT (AT BF×Mt):=[([115,112,108,105,116],.split),([108,111,119,101,114],.Wq),([117,112,112,101,114],.Wr),([108,115,116,114,105,112],.VI),([97,112,112,101,110,100],.Le),([112,111,112],.pop),([105,110,115,101,114,116],.RE),([114,101,118,101,114,115,101],.Ia),([105,110,100,101,120],.W7),([103,101,116],.W3)]
def EP (x:Dr):Mt:=Ju x Y1
def HC (s:Dr):AT Dr->BF->Bq BF
 |[],_=>BH
 |u::r,n=>match KH u s with
  |Bj=>A9 n
  |Be=>HC s r (n+1)
def El (b i:BF) (v:V):CV:=match v with
 | .t _=>Bj
 | .FN _=>BF.Ls b i
def IR (ss:AT (AT BF)):AT V:=ss.FW λl=> .t (.Dq (GQ l))
def Pu (l:AT BF):CV:=match l with|[]=>Be|_=>Bj
def OL (s:Dr):AT V:=IR ((Co 32 [] (Aj s)).filter Pu)
def Mb (s:Dr) (vs:AT V) (cs:St) (k:KV):An:=
 Z7 (CR vs) (λv=>AA (ZX v) 30 λu=>AA (CR (Aj u)) 30 λc=>LH (.Dg (IR (Co c [] (Aj s)))) cs k) (br (CZ vs) (LH (.Dg (OL s)) cs k) (.D9 31))
def Nu (s:Dr) (m:Mt) (vs:AT V) (cs:St) (k:KV):An:=match m with
 | .split=>Mb s vs cs k
 | .Wq=>br (CZ vs) (k (.t (.Dq (GQ ((Aj s).FW UU)))) cs) (.D9 31)
 | .Wr=>br (CZ vs) (k (.t (.Dq (GQ ((Aj s).FW Sq)))) cs) (.D9 31)
 | .VI=>AA (CR vs) 31 λv=>AA (ZX v) 31 λu=>k (.t (.Dq (GQ (Ff (Aj u) (Aj s))))) cs
 |_=> .D9 31
def Sw (s:Dr) (m:Mt) (vs:AT V) (cs:St) (k:KV):An:=
 br (HG s&&BF.Ls (Aj s).A8 Af) (Nu s m vs cs k) (.D9 32)
def SV (l:AT V) (vs:AT V) (cs:St) (k:KV):An:=AA (CR vs) 31 λv=>AA (ZX v) 31 λs=>AA (E7 l) 32 λss=>br (BF.Ls l.A8 Af) (AA (HC s ss 0) 33 λn=>k (.t (.D4 n)) cs) (.D9 31)
def SY (b i:BF) (l:AT V) (vs:AT V) (cs:St) (k:KV):An:=AA (CR vs) 34 λv=>br (El b i v&&BF.Ls l.A8 Af) (k (.t .Kr) (PF cs i (.Dg (l++[v])))) (.D9 34)
def ST (i:BF) (l:AT V) (vs:AT V) (cs:St) (k:KV):An:=br (CZ vs) (AA l.getLast? 35 λv=>br (BF.Ls l.A8 Af) (k v (PF cs i (.Dg l.RV))) (.D9 41)) (.D9 35)
def SU (b i:BF) (l:AT V) (vs:AT V) (cs:St) (k:KV):An:=AA (E9 vs) 36 λp=>AA (ZY p.1) 36 λn=>
 br (El b i p.2&&BF.Ls l.A8 Af&&CF 0 n&&CF n l.A8) (k (.t .Kr) (PF cs i (.Dg (l.Gk n.LU++p.2::l.F3 n.LU)))) (.D9 36)
def SM (i:BF) (l:AT V) (vs:AT V) (cs:St) (k:KV):An:=br (CZ vs) (br (BF.Ls l.A8 Af) (k (.t .Kr) (PF cs i (.Dg l.Ia))) (.D9 42)) (.D9 42)
def NA (b i:BF) (l:AT V) (m:Mt) (vs:AT V) (cs:St) (k:KV):An:=match m with
 | .Le=>SY b i l vs cs k
 | .pop=>ST i l vs cs k
 | .RE=>SU b i l vs cs k
 | .Ia=>SM i l vs cs k
 |_=> .D9 37
def NH (m:Mt):CV:=match m with
 | .W7=>Bj
 |_=>Be
def Mh (b:BF) (o:V) (l:AT V) (m:Mt) (vs:AT V) (cs:St) (k:KV):An:=
 br (NH m) (SV l vs cs k) (AA (Jo o) 39 λi=>AA (EU cs i) 38 λl=>NA b i l m vs cs k)
def TU (es:AT (T×V)) (vs:AT V) (cs:St) (k:KV):An:=AA (E9 vs) 41 λp=>AA (I6 p.1) 41 λx=>AA (DR x es) 40 λr=>Z7 r (λv=>k v cs) (k p.2 cs)
def Bh (e:Ez):CV:= !(BF.QC e.E5 22)
def Hg (e:Ez):CV:=match L8 e with
 |BH=>Bj
 |A9 p=>match p.2 with
  |[]=>Be
  |_::_=>Bj
def E8:V->CV
 | .t (.Km _)=>Be
 |_=>Bj
def Nh (op:PK) (a b:V) (cs:St) (k:KV):An:=match op with
 | .Add=>AA (AX cs a) 86 λu=>AA (AX cs b) 87 λw=>br (BF.Ls (u.A8+w.A8) Af) (LH (.Dg (u++w)) cs k) (.D9 88)
 |_=> .D9 89
def TD (op:PK) (x y:Dt) (cs:St) (k:KV):An:=match op with
 | .Add=>k (.t (.D4 (x+y))) cs
 | .Sub=>k (.t (.D4 (x - y))) cs
 | .Mult=>br (B9 x) (k (.t (.D4 (x*y))) cs) (.D9 85)
 | .FloorDiv=>br (CQ 0 y&&B9 y) (k (.t (.D4 (x.Xp y))) cs) (.D9 85)
 | .Mod=>br (CQ 0 y) (k (.t (.D4 (x.Qr y))) cs) (.D9 85)
 | .Pow=>br (Ed y&&B9 x) (k (.t (.D4 (x^y.LU))) cs) (.D9 85)
 | .LShift=>br (Ed y&&B9 x) (k (.t (.D4 (x*2^y.LU))) cs) (.D9 85)
 |_=> .D9 85
def FJ (op:PK) (a b:V) (cs:St) (k:KV):An:=match a,b with
 | .t x,.t y=>match x with
  | .Dg _=>Nh op a b cs k
  | .D4 m=>match y with
   | .D4 n=>TD op m n cs k
   |_=>AA (JG op x y) 85 λz=>k (.t z) cs
  |_=>AA (JG op x y) 85 λz=>k (.t z) cs
 |_,_=>Nh op a b cs k
structure Cx where
 sc:OE
 b:BF
 top:CV
structure IL where
 ev:Cx->Ez->Ag->St->KV->KX->An
 tr:Cx->Ez->Ag->St->KB->KX->An
 ex:Cx->AT IQ->Ag->St->KN->KV->KX->An
 fn:BF->AT V->St->KV->KX->An
 nw:BF->BF->AT V->St->KV->KX->An
 wh:Cx->Ez->AT IQ->Ag->St->KN->KV->KX->An
 fo:Cx->Ez->AT IQ->V->BF->Ag->St->KN->KV->KX->An
 fr:Cx->Dr->AT IQ->Dt->Dt->Ag->St->KN->KV->KX->An
 fp:Cx->Ez->AT IQ->AT T->V->BF->Ag->St->KN->KV->KX->An
section
variable (G:DM) (r:IL)
def Ms (cx:Cx):AT Ez->Ag->St->(AT V->St->An)->KX->An
 |[],_,cs,k,_=>k [] cs
 |e::es,CL,cs,k,ke=>br (Bh e) (r.ev cx e CL cs (λv G1=>Ms cx es CL G1 (λvs KM=>k (v::vs) KM) ke) ke) (.D9 43)
def TK (cx:Cx):Bq Ez->Ag->St->KV->KX->An
 |BH,_,cs,k,_=>k (.t .Kr) cs
 |A9 e,CL,cs,k,ke=>r.ev cx e CL cs k ke
def IS:AT (T×V)->Bq (AT Dr)
 |[]=>A9 []
 |p::r=>(Dv p.1).G3 λs=>(IS r).G3 λl=>A9 (s::l)
def I9:AT (T×V)->Bq (AT Dt)
 |[]=>A9 []
 |p::r=>(Ef p.1).G3 λs=>(I9 r).G3 λl=>A9 (s::l)
def XQ {α:Type} (f:α->α->CV) (x:α):AT α->CV
 |[]=>Be
 |y::r=>f x y||XQ f x r
def I2 {α:Type} (f:α->α->CV):AT α->CV
 |[]=>Bj
 |x::r=> !XQ f x r&&I2 f r
def MW:AT (Bq Ez)->AT Ez->CV
 |[],l=>CZ l
 |k::ks,l=>match l with
  |[]=>Be
  |_::es=>k.KQ&&MW ks es
def XJ (e:Bq Ez):CV:=(e.G3 IU).KQ
def YZ (ps:AT (T×V)):CV:=Z7 (IS ps) (I2 KH) Be
def Y0 (ps:AT (T×V)):CV:=Z7 (I9 ps) (I2 HS) Be
def U0 (cx:Cx):AT (Bq Ez)->AT Ez->AT (T×V)->Ag->St->(AT (T×V)->St->An)->KX->An
 |[],[],ps,_,cs,k,_=>k ps cs
 |A9 a::ks,e::es,ps,CL,cs,k,ke=>r.ev cx a CL cs (λka G1=>r.ev cx e CL G1 (λv KM=>match ka with
  | .t x=>U0 cx ks es (ps++[(x,v)]) CL KM k ke
  |_=> .D9 44) ke) ke
 |_,_,_,_,_,_,_=> .D9 51
def Mw:Dr:=s!"__debug__"
def Gj (e:Ez):CV:= !(BF.QC e.E5 7)
def Bi (cx:Cx) (x:Dr) (CL:Ag):Bq V:=match KH x Mw with
 |Bj=>BH
 |Be=>match BU CL x with
  |A9 v=>A9 v
  |BH=>match IA cx.sc.Lb x with
   |A9 .Rg=>match G.glob x with
    |A9 t=>A9 (.t t)
    |BH=>BH
   |_=>BH
def I3 (cx:Cx) (x:Dr) (CL:Ag) (cs:St) (k:KV):An:=AA (Bi G cx x CL) 49 λv=>k v cs
def Mr (a:BF):CV:=BF.QC a 1649||BF.QC a 1621||BF.QC a 1628
set_option backward.match.sparseCases true in
def Wy (cx:Cx) (f:V) (vs:AT V) (cs:St) (k:KV) (ke:KX):An:=match f with
 | .t (.Km (.C9 a))=>match G.fn a with
  |A9 _=>match Mr a with
   |Bj=>AA (AU `at cs vs) 53 λp=>r.fn a (ZW p.1) p.2 k ke
   |Be=>r.fn a vs cs k ke
  |BH=>match G.Ov a with
   |A9 ci=>r.nw a cx.b vs cs k ke
   |BH=> .D9 54
 | .t (.Km x)=>U1 x vs cs k
 |_=> .D9 55
inductive MK where
 |Dq (s:Dr) (m:Mt)|Dg (m:Mt)|Rv (m:Mt)|fn (f:BF) (self:CV)
def L5 (m:Mt):Bq Mt:=match m with
 | .split=>A9 .split
 | .Wq=>A9 .Wq
 | .Wr=>A9 .Wr
 | .VI=>A9 .VI
 |_=>BH
def GR (m:Mt):Bq Mt:=match m with
 | .Le=>A9 .Le
 | .pop=>A9 .pop
 | .RE=>A9 .RE
 | .Ia=>A9 .Ia
 | .W7=>A9 .W7
 |_=>BH
def Mv (m:Mt):Bq Mt:=match m with
 | .W3=>A9 .W3
 |_=>BH
def Gm (cs:St) (o:V) (F6:Dr):Bq MK:=match ZX o with
 |A9 s=>(L5 (EP F6)).FW (.Dq s)
 |BH=>match Gg o with
 |A9 a=>(G.meth a F6).FW λf=> .fn f Be
 |BH=>match AX cs o with
 |A9 _=>(GR (EP F6)).FW .Dg
 |BH=>match Dm cs o with
 |A9 _=>(Mv (EP F6)).FW .Rv
 |BH=>(GU cs o).G3 λp=>match BU p.2 F6 with
  |A9 _=>BH
  |BH=>(G.meth p.1 F6).FW λf=> .fn f Bj
def Nz (cx:Cx) (m:MK) (o:V) (vs:AT V) (cs:St) (k:KV) (ke:KX):An:=match m with
 | .Dq s m=>Sw s m vs cs k
 | .Dg m=>AA (AX cs o) 56 λl=>Mh cx.b o l m vs cs k
 | .Rv _=>AA (Dm cs o) 57 λes=>TU es vs cs k
 | .fn f Bj=>r.fn f (o::vs) cs k ke
 | .fn f Be=>r.fn f vs cs k ke
def HF (cx:Cx) (l:V):AT CmpOp->AT Ez->Ag->St->KB->KX->An
 |[op],[e],CL,cs,k,ke=>br (Gj e) (r.ev cx e CL cs (λv G1=>AA (Ej G1 op l v) 59 λb=>k b G1) ke) (.D9 48)
 |op::op2::RF,e::e2::es,CL,cs,k,ke=>r.ev cx e CL cs (λv G1=>AA (Ej G1 op l v) 60 λb=>br b (HF cx v (op2::RF) (e2::es) CL G1 k ke) (k Be G1)) ke
 |_,_,_,_,_,_=> .D9 61
def Iz (Oa:BF):Bq Dt->BF
 |A9 n=>Fh Oa n
 |BH=>0
def Ja (Oa:BF):Bq Dt->BF
 |A9 n=>Fh Oa n
 |BH=>Oa
def EE (o:V) (lo hi:V) (cs:St) (k:KV):An:=
 AA (IE lo) 62 λa=>AA (IE hi) 63 λb=>match o with
  | .t (.Dq s)=>br (BF.Ls (Aj s).A8 Af) (k (.t (.Dq (GQ (cut (Aj s) (Iz (Aj s).A8 a) (Ja (Aj s).A8 b))))) cs) (.D9 39)
  |_=>AA (AX cs o) 64 λl=>br `V (LH (.Dg (cut l (Iz l.A8 a) (Ja l.A8 b))) cs k) (.D9 40)
def Fw (o i:V) (cs:St) (k:KV):An:=match i with
 | .t (.D4 n)=>match BW cs o with
  |A9 l=>br (CF n 5000&&CF (-5000) n) (AA (EG l.A8 n) 65 λj=>AA (J7 l j) 66 λv=>k v cs) (.D9 45)
  |BH=>AA (Dm cs o) 67 λes=>AA (DR (.D4 n) es) 68 λq=>AA q 69 λv=>k v cs
 | .t x=>AA (Dm cs o) 70 λes=>AA (DR x es) 71 λq=>AA q 72 λv=>k v cs
 |_=> .D9 73
def Je (cx:Cx) (op:VJ):AT Ez->Ag->St->KV->KX->An
 |[],_,_,_,_=> .D9 74
 |[e],CL,cs,k,ke=>r.ev cx e CL cs k ke
 |e::es,CL,cs,k,ke=>r.ev cx e CL cs (λv G1=>AA (F9 G1 v) 75 λb=>match op with
  | .And=>br b (Je cx op es CL G1 k ke) (k v G1)
  | .Or=>br b (k v G1) (Je cx op es CL G1 k ke)) ke
def Ga (cx:Cx) (op:VJ):AT Ez->Ag->St->KB->KX->An
 |[],_,cs,k,_=>k (match op with| .And=>Bj| .Or=>Be) cs
 |e::es,CL,cs,k,ke=>r.tr cx e CL cs (λb G1=>match op with
  | .And=>br b (Ga cx op es CL G1 k ke) (k Be G1)
  | .Or=>br b (k Bj G1) (Ga cx op es CL G1 k ke)) ke
def OT:KX:=λ_ _ _ _=> .D9 76
def Mj:Ln->CV
 | .local=>Bj
 | .Rg=>Bj
 |_=>Be
def Et:Bq Ln->CV
 |A9 .local=>Bj
 |_=>Be
def I8:ScopeKind->CV
 | .LK=>Bj
 |_=>Be
def Jr (sc:OE) (x:Dr):CV:=I8 sc.Wz&&sc.Lb.VG (λp=>Mj p.2&&(match p.2 with
 | .local=>Et (IA sc.Lb p.1)
 |_=>Bj))&&Et (IA sc.Lb x)
def Ei (cx:Cx) (x:Dr) (Wt:AT Ez) (V7:Ez) (l:V):BF->AT V->St->(AT T->St->An)->An
 |j,[],cs,k=>AA (BW cs l) 98 λvs=>match J7 vs j with
  |BH=>k [] cs
  |A9 _=> .D9 97
 |j,_::Df,cs,k=>AA (BW cs l) 96 λvs=>AA (J7 vs j) 95 λv=>Ga r cx .And Wt [(x,v)] cs (λb G1=>br b
   (r.ev cx V7 [(x,v)] G1 (λy KM=>match y with
    | .t y=>Ei cx x Wt V7 l (j+1) Df KM λys Se=>k (y::ys) Se
    | .FN _=> .D9 77) OT)
   (Ei cx x Wt V7 l (j+1) Df G1 k)) OT
def Gr:Ln->CV
 | .Qc=>Bj
 |_=>Be
def Iv (sc:OE):CV:=sc.Lb.VG λp=> !Gr p.2
def Pv (cx:Cx) (V7:Ez) (N8:AT Pq) (sc:OE) (CL:Ag) (cs:St) (k:KV) (ke:KX):An:=match CR N8 with
 |BH=> .D9 100
 |A9 g=>match BJ g.P5 with
  |BH=> .D9 100
  |A9 x=>br (HS g.is_async 0&&(cx.top&&Gj g.Sh&&Jr sc x&&Iv cx.sc)) (r.ev cx g.Sh CL cs (λl G1=>AA (BW G1 l) 99 λvs=>
   br (BF.Ls vs.A8 Af) (Ei r ⟨sc,cx.b,Be⟩ x g.Wt V7 l 0 vs G1 λys KM=>LH (.Dg (ZW ys)) KM k) (.D9 94)) ke) (.D9 47)
def HR (cx:Cx) (e:Ez) (CL:Ag) (cs:St) (k:KV) (ke:KX):An:=match e with
 | .KP c _ _=>match c with
  | .BH=>k (.t .Kr) cs
  | .G6 b=>k (.t (.G6 b)) cs
  | .D4 n=>k (.t (.D4 n)) cs
  | .Dq s=>k (.t (.Dq s)) cs
  |_=> .D9 80
 | .JV x _=>I3 G cx x CL cs k
 | .BinOp l op rr _=>r.ev cx l CL cs (λa G1=>r.ev cx rr CL G1 (λb KM=>FJ op a b KM k) ke) ke
 | .WY op x _=>match op with
  | .Not=>r.ev cx x CL cs (λv G1=>AA (F9 G1 v) 90 λb=>k (.t (.G6 (!b))) G1) ke
  | .USub=>r.ev cx x CL cs (λv G1=>match v with
   | .t (.D4 n)=>k (.t (.D4 (-n))) G1
   |_=> .D9 91) ke
  |_=> .D9 92
 | .VJ op es _=>Je r cx op es CL cs k ke
 | .IfExp t a b _=>r.tr cx t CL cs (λc G1=>br c (r.ev cx a CL G1 k ke) (r.ev cx b CL G1 k ke)) ke
 | .Compare l RF es _=>r.ev cx l CL cs (λv G1=>HF r cx v RF es CL G1 (λb KM=>k (.t (.G6 b)) KM) ke) ke
 | .QI f args kws HW=>match kws with
  |_::_=> .D9 93
  |[]=>match IY f with
   |A9 p=>br (Hg p.1&&args.VG Bh&&BF.QC p.2.2.endLine HW.line&&BF.blt args.A8 20) (r.ev cx p.1 CL cs (λov G1=>AA (Gm G G1 ov p.2.1) 58 λm=>Ms r cx args CL G1 (λvs KM=>Nz r cx m ov vs KM k ke) ke) ke) (.D9 144)
   |BH=>match BJ f with
   |A9 x=>br (args.VG Bh) (I3 G cx x CL cs λfv G1=>Ms r cx args CL G1 (λvs KM=>Wy G r cx fv vs KM k ke) ke) (.D9 145)
   |BH=> .D9 94
 | .JU o F6 _=>br (Hg o) (r.ev cx o CL cs (λov G1=>AA (GU G1 ov) 95 λp=>br (G.fld p.1 F6) (AA (BU p.2 F6) 96 λv=>br (E8 v) (k v G1) (.D9 38)) (.D9 37)) ke) (.D9 36)
 | .Qs o i _=>r.ev cx o CL cs (λov G1=>match L6 i with
  |A9 p=>TK r cx p.1 CL G1 (λa KM=>TK r cx p.2 CL KM (λb Se=>EE ov a b Se k) ke) ke
  |BH=>r.ev cx i CL G1 (λiv KM=>Fw ov iv KM k) ke) ke
 | .AT es _=>Ms r cx es CL cs (λvs G1=>AA (AU Hd G1 vs) 97 λp=>br (BF.Ls p.1.A8 Af) (LH (.Dg p.1) p.2 k) (.D9 41)) ke
 | .Oi es _ _=>Ms r cx es CL cs (λvs G1=>AA (AU `at G1 vs) 98 λp=>br (BF.Ls p.1.A8 Af) (k (.t (.Ld p.1)) p.2) (.D9 42)) ke
 | .Dict ks es _=>br (cx.top&&MW ks es&&BF.Ls ks.A8 15) (br (ks.VG XJ)
   (U0 r cx ks es [] CL cs (λps G1=>br (YZ ps) (LH (.Rv ps) G1 k) (.D9 50)) ke)
   (U0 r cx ks es [] CL cs (λps G1=>br (Y0 ps) (LH (.Rv ps) G1 k) (.D9 52)) ke)) (.D9 93)
 | .Lw V7 N8 sc _=>Pv r cx V7 N8 sc CL cs k ke
 |_=> .D9 101
def YW (cx:Cx) (e:Ez) (CL:Ag) (cs:St) (k:KB) (ke:KX):An:=match e with
 | .WY .Not x _=>r.tr cx x CL cs (λb G1=>k (!b) G1) ke
 | .VJ op es _=>Ga r cx op es CL cs k ke
 | .Compare l RF es _=>r.ev cx l CL cs (λv G1=>HF r cx v RF es CL G1 k ke) ke
 | .IfExp .. => .D9 102
 |e=>r.ev cx e CL cs (λv G1=>AA (F9 G1 v) 103 λb=>k b G1) ke
def FD (cx:Cx) (x:Dr) (v:V) (CL:Ag) (cs:St) (kn:KN):An:=match Et (IA cx.sc.Lb x) with
 |Bj=>kn (Cr CL x v) cs
 |Be=> .D9 126
def LZ (cx:Cx) (x y:Dr) (v:V) (CL:Ag) (cs:St) (kn:KN):An:=match KH x y with
 |Bj=> .D9 109
 |Be=>(AA (BW cs v) 110 λl=>AA (E9 l) 111 λp=>FD cx x p.1 CL cs λBO G1=>FD cx y p.2 BO G1 kn)
def G7 (cx:Cx) (a b:Ez) (v:V) (CL:Ag) (cs:St) (kn:KN):An:=match BJ a with
 |BH=> .D9 112
 |A9 x=>match BJ b with
  |BH=> .D9 112
  |A9 y=>LZ cx x y v CL cs kn
def CA (e:Ez):CV:= !(BF.QC e.E5 8)&& !(BF.QC e.E5 9)&& !(BF.QC e.E5 10)
def EN (e:Ez):CV:=match Gf e with
 |BH=>CA e
 |A9 es=>match es with
  |[]=>Be
  |a::_=>match BJ a with
   |BH=>Be
   |A9 x=> !(KH x Mw)
def SI (e:Ez):CV:=match Gf e with
 |BH=>BF.QC e.E5 20||BF.QC e.E5 21
 |A9 es=>(E9 es).KQ
def Ii (cx:Cx) (t:Ez) (v:V) (CL:Ag) (cs:St) (kn:KN):An:=match BJ t with
 |A9 x=>FD cx x v CL cs kn
 |BH=>match Gf t with
  |BH=> .D9 128
  |A9 es=>match E9 es with
   |BH=> .D9 127
   |A9 p=>G7 cx p.1 p.2 v CL cs kn
def X1 (cx:Cx) (t:Ez) (v:V) (CL:Ag) (cs:St) (kn:KN) (ke:KX):An:=match t with
 | .JV x _=>FD cx x v CL cs kn
 | .Oi es _ _=>match es with
  |[a,b]=>G7 cx a b v CL cs kn
  |_=> .D9 113
 | .JU o F6 _=>r.ev cx o CL cs (λov G1=>match ov with
  | .FN i=>match J7 G1 i with
   |A9 (.LJ c fs)=>br (El cx.b i v&&G.fld c F6&&BF.Ls fs.A8 900) (kn CL (PF G1 i (.LJ c (Cr fs F6 v)))) (.D9 114)
   |_=> .D9 115
  |_=> .D9 116) ke
 | .Qs o i _=>r.ev cx o CL cs (λov G1=>r.ev cx i CL G1 (λiv KM=>match ov,iv with
  | .FN j,.t x=>match J7 KM j with
   |A9 (.Dg l)=>match x with
    | .D4 n=>AA (EG l.A8 n) 117 λm=>br (BF.blt m l.A8&&El cx.b j v&&CF n 5000&&CF (-5000) n) (kn CL (PF KM j (.Dg (PF l m v)))) (.D9 118)
    |_=> .D9 119
   |A9 (.Rv es)=>AA (DR x es) 120 λq=>match q with
    |BH=>br (El cx.b j v&&BF.Ls es.A8 Af) (kn CL (PF KM j (.Rv (es++[(x,v)])))) (.D9 121)
    |A9 _=> .D9 122
   |_=> .D9 123
  |_,_=> .D9 124) ke) ke
 |_=> .D9 125
def Em:BF:=1000000000
def En (c:BF):BF:=match BF.blt c Em with
 |Bj=>c
 |Be=>c - Em
def Na (cx:Cx) (c:BF) (w a:V) (F6:Bq Dr) (G0:AT IQ) (CL:Ag) (cs:St) (kr:KV) (ke:KX):An:=match F6 with
 |BH=>AA (IZ G0) 137 λp=>kr (.t (.Ld [.Dq p.1,.Dq p.2])) cs
 |A9 z=>AA (Ht G0) 137 λp=>
  br (KH z p.1.2&&KH p.2.1 s!"what"&&BF.blt c Em&& !(KH z Mw)&& !(KH p.1.1 z)&& !(KH p.2.2 z)&&Et (IA cx.sc.Lb z)) (AA (Bi G cx p.1.1 CL) 131 λv=>AA (Gg v) 135 λd=>
   br (G.Oj d) (AA (Bi G cx p.2.2 CL) 132 λav=>br (E8 w) (ke (d+Em) w av cs) (.D9 133)) (.D9 134)) (.D9 136)
def ID (cx:Cx) (c:BF) (w a:V) (hs:AT Lh) (CL:Ag) (cs:St) (kr:KV) (ke:KX):An:=match hs with
 |[]=> .D9 142
 | .Lh t F6 G0 _::Df=>match t with
  |BH=> .D9 142
  |A9 te=>match BJ te with
   |BH=> .D9 142
   |A9 x=>AA (Bi G cx x CL) 138 λv=>AA (Gg v) 140 λd=>
    br (G.Oj (En c)&&G.Oj d) (match G.Xs (En c) d with
     |Be=>ID cx c w a Df CL cs kr ke
     |Bj=>Na G cx c w a F6 G0 CL cs kr ke) (.D9 139)
def IB (e:Ez):CV:=BF.QC e.E5 25
def Ip (cx:Cx) (t it:Ez) (G0:AT IQ) (CL:Ag) (cs:St) (kn:KN) (kr:KV) (ke:KX):An:=
 br (Gj it) (r.ev cx it CL cs (λv G1=>AA (BW G1 v) 159 λ_=>r.fo cx t G0 v 0 CL G1 kn kr ke) ke) (.D9 46)
def O5 (cx:Cx) (t it:Ez) (G0:AT IQ) (CL:Ag) (cs:St) (kn:KN) (kr:KV) (ke:KX):An:=match L8 it with
 |BH=>Ip r cx t it G0 CL cs kn kr ke
 |A9 p=>match Hz "range" (Bi G cx p.1 CL) with
  |Bj=>match CR p.2 with
   |BH=>Ip r cx t it G0 CL cs kn kr ke
   |A9 a=>br (Bh a) (AA (BJ t) 155 λy=>r.ev cx a CL cs (λv G1=>match v with
     | .t (.D4 n)=>br (CF n 1000&&CF 0 n) (r.fr cx y G0 0 n CL G1 kn kr ke) (.D9 153)
     |_=> .D9 154) ke) (.D9 146)
  |Be=>match Hz "zip" (Bi G cx p.1 CL) with
   |Bj=>match E9 p.2 with
    |BH=>Ip r cx t it G0 CL cs kn kr ke
    |A9 q=>br (IB t&&Bh q.1&&Bh q.2) (r.ev cx q.1 CL cs (λu G1=>r.ev cx q.2 CL G1 (λw KM=>match u with
      | .t (.Ld ts)=>AA (AX KM w) 156 λ_=>r.fp cx t G0 ts w 0 CL KM kn kr ke
      |_=> .D9 158) ke) ke) (.D9 147)
   |Be=>Ip r cx t it G0 CL cs kn kr ke
def SH (cx:Cx) (x:Dr) (args:AT Ez) (CL:Ag) (cs:St) (ke:KX):An:=
 br (args.VG Bh) (I3 G cx x CL cs λfv G1=>AA (Gg fv) 162 λd=>br (G.Oj d) (Ms r cx args CL G1 (λvs KM=>match vs with
  |[]=> .D9 160
  |w::q=>match q with
   |[]=>ke d w (.t .Kr) KM
   |a::q2=>match q2 with
    |[]=>ke d w a KM
    |_::_=> .D9 160) ke) (.D9 161)) (.D9 165)
def Gw (cx:Cx) (s:IQ) (CL:Ag) (cs:St) (kn:KN) (kr:KV) (ke:KX):An:=match s with
 | .Ez e _=>br (CA e) (r.ev cx e CL cs (λ_ G1=>kn CL G1) ke) (.D9 149)
 | .Pass _=>kn CL cs
 | .QJ e _=>match e with
  |BH=>kr (.t .Kr) cs
  |A9 e=>r.ev cx e CL cs kr ke
 | .QS ts e _=>AA (CR ts) 150 λt=>match BJ t with
  |A9 x=>match MT e with
   |A9 p=>Pv r cx p.1.1 p.1.2 p.2 CL cs (λv G1=>FD cx x v CL G1 kn) ke
   |BH=>br (CA e) (r.ev cx e CL cs (λv G1=>FD cx x v CL G1 kn) ke) (.D9 147)
  |BH=>br (EN e&&SI t) (r.ev cx e CL cs (λv G1=>X1 G r cx t v CL G1 kn ke) ke) (.D9 148)
 | .If t a b _=>r.tr cx t CL cs (λc G1=>br c (r.ex cx a CL G1 kn kr ke) (r.ex cx b CL G1 kn kr ke)) ke
 | .While t G0 els _=>match els with
  |[]=>r.wh cx t G0 CL cs kn kr ke
  |_=> .D9 151
 | .For t it G0 els _=>match els with
  |_::_=> .D9 152
  |[]=>O5 G r cx t it G0 CL cs kn kr ke
 | .Sd e c _=>match c with
  |A9 _=> .D9 164
  |BH=>AA (e.G3 L8) 164 λp=>SH G r cx p.1 p.2 CL cs ke
 | .Try G0 hs els K7 _=>match els with
  |_::_=> .D9 163
  |[]=>match K7 with
   |_::_=> .D9 163
   |[]=>br (!CZ hs) (AA (CR G0) 162 λs=>match IV s with
    |A9 e=>r.ev cx e CL cs kr λc w a G1=>ID G cx c w a hs CL G1 kr ke
    |BH=>AA (Im s) 162 λe=>br (CA e) (r.ev cx e CL cs (λ_ G1=>kn CL G1) λc w a G1=>ID G cx c w a hs CL G1 kr ke) (.D9 166)) (.D9 162)
 |_=> .D9 164
def Zd (cx:Cx) (ss:AT IQ) (CL:Ag) (cs:St) (kn:KN) (kr:KV) (ke:KX):An:=match ss with
 |[]=>kn CL cs
 |s::Df=>Gw G r cx s CL cs (λBO G1=>r.ex cx Df BO G1 kn kr ke) kr ke
def FA:AT Dr->AT V->AT T->Bq Ag
 |xs,[],ds=>wh (BF.Ls xs.A8 ds.A8) (xs.Vl ((ds.F3 (ds.A8 - xs.A8)).FW .t))
 |xs,v::vs,ds=>match xs with
  |[]=>BH
  |x::xs=>(FA xs vs ds).G3 λl=>A9 ((x,v)::l)
termination_by structural _ vs=>vs
def Mi (p:V×St) (cs:St) (k:KV):An:=match p.1,p.2 with
 | .t x,[]=>k (.t x) cs
 | .FN 0,[.Dg vs]=>match EI vs with
  |A9 ts=>k (.FN cs.A8) (cs++[.Dg `aB])
  |BH=> .D9 174
 |_,_=> .D9 181
def UZ (f:BF) (vs:AT V) (cs:St) (k:KV) (ke:KX):An:=AA (G.fn f) 170 λfi=>AA (FA fi.Ew vs fi.Vs) 171 λCL=>match EI vs with
 |A9 _=>r.ex ⟨fi.Jm,0,Bj⟩ fi.G0 CL [] (λ_ _=>k (.t .Kr) cs)
  (λv G1=>AA (FF 0 v G1) 172 λp=>Mi p cs k)
  (λc w a _=>match w,a with
   | .t _,.t _=>ke c w a cs
   |_,_=> .D9 173)
 |BH=>r.ex ⟨fi.Jm,cs.A8,Bj⟩ fi.G0 CL cs (λ_ G1=>k (.t .Kr) (G1.Gk cs.A8))
  (λv G1=>AA (FF cs.A8 v G1) 172 λp=>k p.1 p.2)
  (λc w a G1=>match w,a with
   | .t _,.t _=>ke c w a (G1.Gk cs.A8)
   |_,_=> .D9 173)
def US (c b:BF) (vs:AT V) (cs:St) (k:KV) (ke:KX):An:=AA (G.Ov c) 175 λci=>AA (G.fn ci.Xo) 176 λfi=>
 AA (FA fi.Ew (.FN cs.A8::vs) fi.Vs) 177 λCL=>
 r.ex ⟨fi.Jm,match ci.QH with
   |Bj=>b
   |Be=>cs.A8,Bj⟩ fi.G0 CL (cs++[.LJ c []]) (λ_ G1=>match ci.QH with
   |Bj=>k (.FN cs.A8) G1
   |Be=>AA (WC BN G1 (.FN cs.A8)) 178 λp=>k (.t p.1) (p.2.Gk cs.A8))
  (λ_ _=> .D9 179) (λ_ _ _ _=> .D9 180)
def YU (cx:Cx) (t:Ez) (G0:AT IQ) (CL:Ag) (cs:St) (kn:KN) (kr:KV) (ke:KX):An:=
 r.tr cx t CL cs (λb G1=>br b (r.ex cx G0 CL G1 (λBO KM=>r.wh cx t G0 BO KM kn kr ke) kr ke) (kn CL G1)) ke
def XT (cx:Cx) (t:Ez) (G0:AT IQ) (l:V) (j:BF) (CL:Ag) (cs:St) (kn:KN) (kr:KV) (ke:KX):An:=
 AA (BW cs l) 190 λvs=>match J7 vs j with
  |BH=>kn CL cs
  |A9 v=>Ii cx t v CL cs λBO G1=>r.ex cx G0 BO G1 (λenv2 KM=>r.fo cx t G0 l (j+1) env2 KM kn kr ke) kr ke
def XR (cx:Cx) (x:Dr) (G0:AT IQ) (j n:Dt) (CL:Ag) (cs:St) (kn:KN) (kr:KV) (ke:KX):An:=
 br (CQ j n) (FD cx x (.t (.D4 j)) CL cs λBO G1=>r.ex cx G0 BO G1 (λenv2 KM=>r.fr cx x G0 (j+1) n env2 KM kn kr ke) kr ke) (kn CL cs)
def XS (cx:Cx) (t:Ez) (G0:AT IQ) (ts:AT T) (l:V) (j:BF) (CL:Ag) (cs:St) (kn:KN) (kr:KV) (ke:KX):An:=
 AA (AX cs l) 191 λvs=>match J7 ts j with
  |BH=>kn CL cs
  |A9 x=>match J7 vs j with
   |BH=>kn CL cs
   |A9 (.t y)=>Ii cx t (.t (.Ld [x,y])) CL cs λBO G1=>r.ex cx G0 BO G1 (λenv2 KM=>r.fp cx t G0 ts l (j+1) env2 KM kn kr ke) kr ke
   |A9 (.FN _)=> .D9 192
end
def MH:IL where
 ev:=λ_ _ _ _ _ _=> .D9 2
 tr:=λ_ _ _ _ _ _=> .D9 3
 ex:=λ_ _ _ _ _ _ _=> .D9 4
 fn:=λ_ _ _ _ _=> .D9 5
 nw:=λ_ _ _ _ _ _=> .D9 6
 wh:=λ_ _ _ _ _ _ _ _=> .D9 7
 fo:=λ_ _ _ _ _ _ _ _ _ _=> .D9 8
 fr:=λ_ _ _ _ _ _ _ _ _ _=> .D9 9
 fp:=λ_ _ _ _ _ _ _ _ _ _ _=> .D9 10
abbrev Pj:=BF->AT V->St->KV->KX->An
abbrev Pd:=BF->BF->AT V->St->KV->KX->An
def X7 (F:Pj) (N:Pd) (G:DM) (r:IL):IL where
 ev:=HR G r
 tr:=YW r
 ex:=Zd G r
 fn:=F
 nw:=N
 wh:=YU r
 fo:=XT r
 fr:=XR r
 fp:=XS r
def AM (F:Pj) (N:Pd) (G:DM):BF->IL
 |0=>{MH with fn:=F,nw:=N}
 |n+1=>X7 F N G (AM F N G n)
def Cm (F:Pj) (N:Pd) (k:KV) (ke:KX):An->An
 | .EM v cs=>k v cs
 | .Oj c w a cs=>ke c w a cs
 | .D9 n=> .D9 n
 | .DH f vs cs κ κe=>F f vs cs (λv G1=>Cm F N k ke (κ v G1)) (λc w a G1=>Cm F N k ke (κe c w a G1))
 | .PE c b vs cs κ κe=>N c b vs cs (λv G1=>Cm F N k ke (κ v G1)) (λc w a G1=>Cm F N k ke (κe c w a G1))
def F0:Pj:=λf vs cs k ke=> .DH f vs cs k ke
def N0:Pd:=λc b vs cs k ke=> .PE c b vs cs k ke
def Eu (G:DM):BF->Pj×Pd
 |0=>(MH.fn,MH.nw)
 |n+1=>(λf vs cs k ke=>Cm (Eu G n).1 (Eu G n).2 k ke (UZ G (AM F0 N0 G 400) f vs cs .EM .Oj),λc b vs cs k ke=>Cm (Eu G n).1 (Eu G n).2 k ke (US G (AM F0 N0 G 400) c b vs cs .EM .Oj))
end Internal
namespace Internal
open PySem PySem.W PyProof.Rows PySem.Calls PySem.SeqAt
set_option backward.match.sparseCases true
variable {w:FX} {FZ:Kt} {K:Lo} {G:DM} {r:IL} {n:BF} {X:Fx} {cx:Cx} {CL:Qp} {σ:Sg} {ve:Ag} {cs:St} {s:CW} {k:KV} {ke:PL.KX} {an:An->Prop} {E:Bl->CW->Prop} {kn:KN} {kr:KV} {h:Ev} {h':Ev} {m:Dr->Bq Bl} {ml:Dr->Bq Bl} {G2:AT BR} {A:Ke}
theorem nbF {a b:BF} (h:a≠b):BF.QC a b=Be:=CV.eq_false_iff.Lq λe=>h (BF.Kn e)
theorem u8 {a b:AT BF}:UV a b=Bj↔a=b:=by
 induction a generalizing b with
 |HU=>cases b with
  |HU=>exact⟨λ_=>rfl,λ_=>rfl⟩
  |Dc _ _=>exact⟨λh=>CV.JT h,λh=>Ks h.Hl (AT.cons_ne_nil _ _)⟩
 |Dc a r ih=>cases b with
  |HU=>exact⟨λh=>CV.JT h,λh=>Ks h (AT.cons_ne_nil _ _)⟩
  |Dc b r'=>
   show(match BF.QC a b with|Bj=>UV r r'|Be=>Be)=Bj↔_
   rw[AT.Dc.injEq,<-ih];cases h:BF.QC a b with
   |Bj=>exact⟨λe=>⟨BF.Kn h,e⟩,λe=>e.2⟩
   |Be=>exact⟨λe=>CV.JT e,λe=>Ks e.1 (BF.ne_of_beq_eq_false h)⟩
theorem aB {a b:Dr}:KH a b=Bj↔a=b:=by
 obtain⟨⟨x⟩⟩:=a;obtain⟨⟨y⟩⟩:=b;unfold KH;simp[u8]
theorem bz {a b:Dr}:KH a b=Be↔a≠b:=by rw[Ne,<-aB];simp
abbrev BR:=AT (EA×KJ)
def AO (xs:AT Bl) (n:BF):KJ:={Ov:= .Ds "list",KA:= .KH xs.E6 n}
def DX (xs:AT Bl):KJ:={Ov:= .Ds "tuple",KA:= .KH xs.E6 0}
def AK (es:AT Ex) (n:BF):KJ:={Ov:= .Ds "dict",KA:= .LG es.E6 n}
def Aag (w:FX):T->Dt
 | .Dq s=>hashStr w s
 | .D4 n=>hashInt n
 | .Ld ts=>match CS ts with
  |A9 ns=>reduceHash (Kj.Oi.tupleHashOf (ns.FW hashInt))
  |BH=>0
 |_=>0
section
variable (w:FX) (fz:BR)
mutual
def Ah:T->Bl->Prop
 | .Kr,x=>x= .BH
 | .G6 b,x=>x= .G6 b
 | .D4 n,x=>∃t,x= .D4 n t
 | .Dq s,x=>∃t,x= .Dq s t
 | .Km y,x=>x=y
 | .Ld ts,x=>∃a xs,x= .C9 a/\(a,DX xs)∈fz/\Am ts xs
 | .Dg ts,x=>∃a xs n,x= .C9 a/\(a,AO xs n)∈fz/\Am ts xs
 | .Rv es,x=>∃a ds n,x= .C9 a/\(a,AK ds n)∈fz/\C2 es ds
 | .LJ c fs,x=>∃a d ds n,x= .C9 a/\(a,Rh c d)∈fz/\(d,AK ds n)∈fz/\C1 fs ds
def Am:AT T->AT Bl->Prop
 |[],xs=>xs=[]
 |t::ts,xs=>∃y ys,xs=y::ys/\Ah t y/\Am ts ys
def C2:AT (T×T)->AT Ex->Prop
 |[],xs=>xs=[]
 |(k,v)::r,xs=>∃e es,xs=e::es/\Ah k e.Qt/\(e.Vm=Aag w k/\∀p∈r,p.1≠k)/\Ah v e.W4/\C2 r es
def C1:AT (Dr×T)->AT Ex->Prop
 |[],xs=>xs=[]
 |(k,v)::r,xs=>∃e es,xs=e::es/\(∃t,e.Qt= .Dq k t)/\Ah v e.W4/\C1 r es
end
end
section
variable {fz fz':BR}
theorem Am.Dc {t:T} {ts:AT T} {x:Bl} {xs:AT Bl} (a:Ah w fz t x) (b:Am w fz ts xs):Am w fz (t::ts) (x::xs):=⟨x,xs,Cs,a,b⟩
theorem Am.el {t:T} {ts:AT T} {q:AT Bl->Prop} {xs:AT Bl} (h:Am w fz (t::ts) xs) (k:∀y ys,Ah w fz t y->Am w fz ts ys->q (y::ys)):q xs:=by
 obtain⟨y,ys,Cs,a,b⟩:=h;exact k y ys a b
theorem Am.Vb {P:AT T->AT Bl->Prop} (n:P [] []) (c:∀t ts y ys,Ah w fz t y->Am w fz ts ys->P ts ys->P (t::ts) (y::ys)) {ts:AT T}:∀{xs:AT Bl},Am w fz ts xs->P ts xs:=by
 induction ts with
 |HU=>exactλh=>(h:_=[])▸n
 |Dc t ts ih=>exactλh=>Am.el (q:=P (t::ts)) h λy ys a b=>c t ts y ys a b (ih b)
theorem Ah.Ey (h:∀p∈fz,p∈fz') {t:T}:∀{x:Bl},Ah w fz t x->Ah w fz' t x:=
 λ{x} e=>T.rec (LS:=λt=>∀x,Ah w fz t x->Ah w fz' t x) (motive_2:=λt=>∀x,Am w fz t x->Am w fz' t x) (motive_3:=λt=>∀x,C2 w fz t x->C2 w fz' t x)
  (motive_4:=λt=>∀x,C1 w fz t x->C1 w fz' t x) (motive_5:=λp=>(∀x,Ah w fz p.1 x->Ah w fz' p.1 x)/\∀x,Ah w fz p.2 x->Ah w fz' p.2 x) (motive_6:=λp=>∀x,Ah w fz p.2 x->Ah w fz' p.2 x)
  (λ_ e=>e) (λ_ _ e=>e) (λ_ _ e=>e) (λ_ _ e=>e)
  (λts ih x (e:∃a xs,x= .C9 a/\(a,DX xs)∈fz/\Am w fz ts xs)=>by obtain⟨a,xs,e1,e2,e3⟩:=e;exact⟨a,xs,e1,h _ e2,ih _ e3⟩)
  (λts ih x (e:∃a xs n,x= .C9 a/\(a,AO xs n)∈fz/\Am w fz ts xs)=>by obtain⟨a,xs,n,e1,e2,e3⟩:=e;exact⟨a,xs,n,e1,h _ e2,ih _ e3⟩)
  (λes ih x (e:∃a ds n,x= .C9 a/\(a,AK ds n)∈fz/\C2 w fz es ds)=>by obtain⟨a,xs,n,e1,e2,e3⟩:=e;exact⟨a,xs,n,e1,h _ e2,ih _ e3⟩)
  (λc fs ih x (e:∃a d ds n,x= .C9 a/\(a,Rh c d)∈fz/\(d,AK ds n)∈fz/\C1 w fz fs ds)=>by obtain⟨a,d,xs,n,e1,e2,e3,e4⟩:=e;exact⟨a,d,xs,n,e1,h _ e2,h _ e3,ih _ e4⟩)
  (λ_ _ e=>e) (λ_ e=>e)
  (λt ts ih1 ih2 x e=>Am.el (q:=Am w fz' (t::ts)) e λy ys a b=>Am.Dc (ih1 y a) (ih2 ys b)) (λ_ e=>e)
  (λp r ih1 ih2 x (e:∃e es,x=e::es/\Ah w fz p.1 e.Qt/\(e.Vm=Aag w p.1/\∀q∈r,q.1≠p.1)/\Ah w fz p.2 e.W4/\C2 w fz r es)=>by obtain⟨y,ys,e1,e2,e3,e4,e5⟩:=e;exact⟨y,ys,e1,ih1.1 _ e2,e3,ih1.2 _ e4,ih2 _ e5⟩) (λ_ e=>e)
  (λp r ih1 ih2 x (e:∃e es,x=e::es/\(∃t,e.Qt= .Dq p.1 t)/\Ah w fz p.2 e.W4/\C1 w fz r es)=>by obtain⟨y,ys,e1,e2,e3,e4⟩:=e;exact⟨y,ys,e1,e2,ih1 _ e3,ih2 _ e4⟩)
  (λ_ _ a b=>⟨a,b⟩) (λ_ _ b=>b) t x e
theorem Am.Ey (h:∀p∈fz,p∈fz') {ts:AT T} {xs:AT Bl} (e:Am w fz ts xs):Am w fz' ts xs:=Am.Vb (P:=Am w fz') rfl (λ_ _ _ _ a _ ih=> .Dc (a.Ey h) ih) e
theorem C2.Ey (h:∀p∈fz,p∈fz') {ts:AT (T×T)}:∀{xs:AT Ex},C2 w fz ts xs->C2 w fz' ts xs:=by
 induction ts with
 |HU=>exactλe=>e
 |Dc p r ih=>
  intro x e;have e:∃e es,x=e::es/\Ah w fz p.1 e.Qt/\(e.Vm=Aag w p.1/\∀q∈r,q.1≠p.1)/\Ah w fz p.2 e.W4/\C2 w fz r es:=e;obtain⟨y,ys,e1,e2,e3,e4,e5⟩:=e;exact⟨y,ys,e1,e2.Ey h,e3,e4.Ey h,ih e5⟩
theorem C1.Ey (h:∀p∈fz,p∈fz') {ts:AT (Dr×T)}:∀{xs:AT Ex},C1 w fz ts xs->C1 w fz' ts xs:=by
 induction ts with
 |HU=>exactλe=>e
 |Dc p r ih=>
  intro x e;have e:∃e es,x=e::es/\(∃t,e.Qt= .Dq p.1 t)/\Ah w fz p.2 e.W4/\C1 w fz r es:=e;obtain⟨y,ys,e1,e2,e3,e4⟩:=e;exact⟨y,ys,e1,e2,e3.Ey h,ih e4⟩
end
structure Sg where
 gr:Ev
 fz:BR
 ca:AT (EA×EA)
def Sg.le (a b:Sg):Prop:=(∀p∈a.fz,p∈b.fz)/\∃l,b.ca=a.ca++l
theorem Sg.G5 (a:Sg):a.le a:=⟨λ_ h=>h,[],by simp⟩
theorem Sg.le.CX {a b c:Sg} (x:a.le b) (y:b.le c):a.le c:=by
 obtain⟨x1,l,x2⟩:=x;obtain⟨y1,l',y2⟩:=y;exact⟨λp h=>y1 p (x1 p h),l++l',by rw[y2,x2,AT.F7]⟩
def Ad (w:FX) (σ:Sg):V->Bl->Prop
 | .t x,y=>Ah w σ.fz x y
 | .FN i,y=>∃p,J7 σ.ca i=A9 p/\y= .C9 p.1
theorem bi {α:Type} {l:AT α}:∀{i:BF},J7 l i=l[i]?:=by
 induction l with
 |HU=>exactλ{_}=>rfl
 |Dc a r ih=>exactλ{i}=>BF.Ou i rfl λi=>ih
theorem mN {α:Type} {l l':AT α} {i:BF} {a:α} (h:J7 l i=A9 a):J7 (l++l') i=A9 a:=
 have h:=bi.Hl.CX h
 bi.CX ((AT.getElem?_append_left (AT.JY.mp h).1).CX h)
theorem Ad.Ey {w:FX} {σ σ':Sg} (h:σ.le σ') {v:V} {x:Bl} (e:Ad w σ v x):Ad w σ' v x:=by
 cases v with
 |t y=>exact Ah.Ey h.1 e
 |FN i=>
  obtain⟨p,e1,e2⟩:=e;exact h.2.Dk λl hl=>⟨p,hl▸mN e1,e2⟩
def Ac (w:FX) (σ:Sg):AT V->AT Bl->Prop
 |[],xs=>xs=[]
 |v::vs,xs=>∃y ys,xs=y::ys/\Ad w σ v y/\Ac w σ vs ys
def AV (w:FX) (σ:Sg):AT (T×V)->AT Ex->Prop
 |[],xs=>xs=[]
 |(k,v)::r,xs=>∃e es,xs=e::es/\Ah w σ.fz k e.Qt/\(e.Vm=Aag w k/\∀p∈r,p.1≠k)/\Ad w σ v e.W4/\AV w σ r es
def AI (w:FX) (σ:Sg):AT (Dr×V)->AT Ex->Prop
 |[],xs=>xs=[]
 |(k,v)::r,xs=>∃e es,xs=e::es/\(∃t,e.Qt= .Dq k t)/\Ad w σ v e.W4/\AI w σ r es
section
variable {σ':Sg}
theorem Ac.Dc {v:V} {vs:AT V} {x:Bl} {xs:AT Bl} (a:Ad w σ v x) (b:Ac w σ vs xs):Ac w σ (v::vs) (x::xs):=⟨x,xs,Cs,a,b⟩
theorem Ac.el {v:V} {vs:AT V} {q:AT Bl->Prop} {xs:AT Bl} (h:Ac w σ (v::vs) xs) (k:∀y ys,Ad w σ v y->Ac w σ vs ys->q (y::ys)):q xs:=by
 obtain⟨y,ys,Cs,a,b⟩:=h;exact k y ys a b
theorem Ac.un {v:V} {vs:AT V} {x:Bl} {xs:AT Bl} (h:Ac w σ (v::vs) (x::xs)):Ad w σ v x/\Ac w σ vs xs:=by
 obtain⟨y,ys,e,a,b⟩:=h;cases e;exact⟨a,b⟩
theorem Ac.Vb {P:AT V->AT Bl->Prop} (n:P [] []) (c:∀v vs y ys,Ad w σ v y->Ac w σ vs ys->P vs ys->P (v::vs) (y::ys)) {vs:AT V}:∀{xs:AT Bl},Ac w σ vs xs->P vs xs:=by
 induction vs with
 |HU=>exactλh=>(h:_=[])▸n
 |Dc v vs ih=>exactλh=>Ac.el (q:=P (v::vs)) h λy ys a b=>c v vs y ys a b (ih b)
theorem AV.Dc {p:T×V} {r:AT (T×V)} {e:Ex} {es:AT Ex} (a:Ah w σ.fz p.1 e.Qt) (b:e.Vm=Aag w p.1/\∀q∈r,q.1≠p.1) (c:Ad w σ p.2 e.W4) (d:AV w σ r es):AV w σ (p::r) (e::es):=⟨e,es,Cs,a,b,c,d⟩
theorem AV.el {p:T×V} {r:AT (T×V)} {q:AT Ex->Prop} {xs:AT Ex} (h:AV w σ (p::r) xs) (k:∀e es,Ah w σ.fz p.1 e.Qt->(e.Vm=Aag w p.1/\∀q∈r,q.1≠p.1)->Ad w σ p.2 e.W4->AV w σ r es->q (e::es)):q xs:=by
 obtain⟨y,ys,Cs,a,b,c,d⟩:=h;exact k y ys a b c d
theorem AV.Vb {P:AT (T×V)->AT Ex->Prop} (n:P [] []) (c:∀p r e es,Ah w σ.fz p.1 e.Qt->(e.Vm=Aag w p.1/\∀q∈r,q.1≠p.1)->Ad w σ p.2 e.W4->AV w σ r es->P r es->P (p::r) (e::es)) {vs:AT (T×V)}:∀{xs:AT Ex},AV w σ vs xs->P vs xs:=by
 induction vs with
 |HU=>exactλh=>(h:_=[])▸n
 |Dc v vs ih=>exactλh=>AV.el (q:=P (v::vs)) h λy ys a b d e=>c v vs y ys a b d e (ih e)
theorem AI.Dc {p:Dr×V} {r:AT (Dr×V)} {e:Ex} {es:AT Ex} (a:∃t,e.Qt= .Dq p.1 t) (c:Ad w σ p.2 e.W4) (d:AI w σ r es):AI w σ (p::r) (e::es):=⟨e,es,Cs,a,c,d⟩
theorem AI.el {p:Dr×V} {r:AT (Dr×V)} {q:AT Ex->Prop} {xs:AT Ex} (h:AI w σ (p::r) xs) (k:∀e es,(∃t,e.Qt= .Dq p.1 t)->Ad w σ p.2 e.W4->AI w σ r es->q (e::es)):q xs:=by
 obtain⟨y,ys,Cs,a,c,d⟩:=h;exact k y ys a c d
theorem AI.Vb {P:AT (Dr×V)->AT Ex->Prop} (n:P [] []) (c:∀p r e es,(∃t,e.Qt= .Dq p.1 t)->Ad w σ p.2 e.W4->AI w σ r es->P r es->P (p::r) (e::es)) {vs:AT (Dr×V)}:∀{xs:AT Ex},AI w σ vs xs->P vs xs:=by
 induction vs with
 |HU=>exactλh=>(h:_=[])▸n
 |Dc v vs ih=>exactλh=>AI.el (q:=P (v::vs)) h λy ys a d e=>c v vs y ys a d e (ih e)
theorem Ac.Ey (h:σ.le σ') {vs:AT V} {xs:AT Bl} (e:Ac w σ vs xs):Ac w σ' vs xs:=Ac.Vb (P:=Ac w σ') rfl (λ_ _ _ _ a _ ih=> .Dc (a.Ey h) ih) e
theorem AV.Ey (h:σ.le σ') {vs:AT (T×V)} {xs:AT Ex} (e:AV w σ vs xs):AV w σ' vs xs:=AV.Vb (P:=AV w σ') rfl (λ_ _ _ _ a b c _ ih=> .Dc (a.Ey h.1) b (c.Ey h) ih) e
theorem AI.Ey (h:σ.le σ') {vs:AT (Dr×V)} {xs:AT Ex} (e:AI w σ vs xs):AI w σ' vs xs:=AI.Vb (P:=AI w σ') rfl (λ_ _ _ _ a c _ ih=> .Dc a (c.Ey h) ih) e
end
def Bf (w:FX) (σ:Sg) (p:EA×EA):C->BR->Prop
 | .Dg vs,os=>∃xs n,os=[(p.1,AO xs n)]/\Ac w σ vs xs
 | .Rv es,os=>∃ds n,os=[(p.1,AK ds n)]/\AV w σ es ds
 | .LJ c fs,os=>∃ds n,os=[(p.1,Rh c p.2),(p.2,AK ds n)]/\AI w σ fs ds
 | .fz x,os=>os=[]/\Ah w σ.fz x (.C9 p.1)
theorem Bf.Ey {w:FX} {σ σ':Sg} (h:σ.le σ') {p:EA×EA} {c:C} {os:BR} (e:Bf w σ p c os):Bf w σ' p c os:=by
 cases c with
 |Dg _=>exact e.Dk λxs e=>e.Dk λn e=>⟨xs,n,e.1,e.2.Ey h⟩
 |Rv _=>exact e.Dk λxs e=>e.Dk λn e=>⟨xs,n,e.1,e.2.Ey h⟩
 |LJ _ _=>exact e.Dk λxs e=>e.Dk λn e=>⟨xs,n,e.1,e.2.Ey h⟩
 |fz _=>exact⟨e.1,Ah.Ey h.1 e.2⟩
def Ap (w:FX) (σ:Sg):AT (EA×EA)->St->AT BR->Prop
 |[],cs,G2=>cs=[]/\G2=[]
 |p::ps,cs,G2=>∃c Kg os Qw,cs=c::Kg/\G2=os::Qw/\Bf w σ p c os/\Ap w σ ps Kg Qw
section
variable {σ':Sg}
theorem Ap.Dc {p:EA×EA} {ps:AT (EA×EA)} {c:C} {cs:St} {o:BR} {G2:AT BR} (a:Bf w σ p c o) (b:Ap w σ ps cs G2):Ap w σ (p::ps) (c::cs) (o::G2):=⟨c,cs,o,G2,Cs,Cs,a,b⟩
theorem Ap.Vb {P:AT (EA×EA)->St->AT BR->Prop} (n:P [] [] []) (k:∀p ps c cs o G2,Bf w σ p c o->Ap w σ ps cs G2->P ps cs G2->P (p::ps) (c::cs) (o::G2)) {ps:AT (EA×EA)}:∀{cs:St} {G2:AT BR},Ap w σ ps cs G2->P ps cs G2:=by
 induction ps with
 |HU=>
  intro cs G2 h;obtain⟨Cs,Cs⟩:=(h:cs=[]/\G2=[]);exact n
 |Dc p ps ih=>
  intro cs G2 h;obtain⟨c,Kg,o,Qw,Cs,Cs,a,b⟩:=h;exact k _ _ _ _ _ _ a b (ih b)
theorem Ap.Ey (h:σ.le σ') {ps:AT (EA×EA)} {cs:St} {G2:AT BR} (e:Ap w σ ps cs G2):Ap w σ' ps cs G2:=Ap.Vb (P:=Ap w σ') ⟨Cs,Cs⟩ (λ_ _ _ _ _ _ a _ ih=> .Dc (a.Ey h) ih) e
theorem Ap.A8 {ps:AT (EA×EA)} {cs:St} {G2:AT BR} (e:Ap w σ ps cs G2):cs.A8=ps.A8:=Ap.Vb (P:=λps cs _=>cs.A8=ps.A8) rfl (λ_ _ _ _ _ _ _ _ ih=>FY (· +1) ih) e
theorem Ap.Wy {p:EA×EA} {c:C} {os:BR} (hc:Bf w σ p c os) {ps:AT (EA×EA)} {cs:St} {G2:AT BR} (e:Ap w σ ps cs G2):Ap w σ (ps++[p]) (cs++[c]) (G2++[os]):=
 Ap.Vb (P:=λps cs G2=>Ap w σ (ps++[p]) (cs++[c]) (G2++[os])) (.Dc hc ⟨Cs,Cs⟩) (λ_ _ _ _ _ _ a _ ih=> .Dc a ih) e
theorem Ap.Gk {ps:AT (EA×EA)} {cs:St} {G2:AT BR} (n:BF) (e:Ap w σ ps cs G2):Ap w σ (ps.Gk n) (cs.Gk n) (G2.Gk n):=
 Ap.Vb (P:=λps cs G2=>∀n,Ap w σ (ps.Gk n) (cs.Gk n) (G2.Gk n)) (λn=>BF.Ou n ⟨Cs,Cs⟩ λ_=>⟨Cs,Cs⟩) (λ_ _ _ _ _ _ a _ ih n=>BF.Ou n ⟨Cs,Cs⟩ λn=> .Dc a (ih n)) e n
def Pb (w:FX) (σ:Sg) (i:BF) (c:C) (ps:AT (EA×EA)) (cs:St) (G2:AT BR):Prop:=
 ∃p os l l',J7 ps i=A9 p/\G2=l++os::l'/\Bf w σ p c os/\∀σ',σ.le σ'->∀c' os',Bf w σ' p c' os'->Ap w σ' ps (PF cs i c') (l++os'::l')
theorem Ap.split {ps:AT (EA×EA)} {cs:St} {G2:AT BR} {i:BF} {c:C} (e:Ap w σ ps cs G2):J7 cs i=A9 c->Pb w σ i c ps cs G2:=
 Ap.Vb (P:=λps cs G2=>∀i,J7 cs i=A9 c->Pb w σ i c ps cs G2) (λi h=>BF.Ou (Sb:=λi=>J7 [] i=A9 c->_) i (λh=>nomatch h) (λ_ h=>nomatch h) h)
  (λp ps d cs o G2 a b ih i=>BF.Ou (Sb:=λi=>J7 (d::cs) i=A9 c->Pb w σ i c (p::ps) (d::cs) (o::G2)) i
   (λh=>⟨p,o,[],G2,Cs,Cs,(Bq.A9.Ky h:d=c)▸a,λσ' le d od hd=> .Dc hd (b.Ey le)⟩)
   λi h=>by
    obtain⟨q,os,l,l',h1,h2,h3,h4⟩:=ih i h;exact⟨q,os,o::l,l',h1,h2▸rfl,h3,λσ' le d od hd=> .Dc (a.Ey le) (h4 σ' le d od hd)⟩) e i
end
theorem Ap.J7 {w:FX} {σ:Sg} {ps:AT (EA×EA)} {cs:St} {G2:AT BR} {i:BF} {c:C} (e:Ap w σ ps cs G2) (h:J7 cs i=A9 c):
  ∃p os,PL.J7 ps i=A9 p/\Bf w σ p c os/\(∀q∈os,q∈G2.H8):=by
 obtain⟨p,os,l,l',h1,h2,h3,_⟩:=e.split h;exact⟨p,os,h1,h3,λq hq=>by rw[h2];simp[hq]⟩
theorem Ap.Qc {w:FX} {σ:Sg} {ps:AT (EA×EA)} {cs:St} {G2:AT BR} {i:BF} {p:EA×EA} (e:Ap w σ ps cs G2) (h:PL.J7 ps i=A9 p):∃c,PL.J7 cs i=A9 c:=
 have h:=(AT.JY.mp (bi.Hl.CX h)).1
 ⟨_,bi.CX (AT.getElem?_eq_getElem (e.A8▸h))⟩
def Bx:V->AT BF
 | .t _=>[]
 | .FN i=>[i]
def CH:C->AT BF
 | .Dg vs=>vs.KK Bx
 | .Rv es=>es.KK λp=>Bx p.2
 | .LJ _ fs=>fs.KK λp=>Bx p.2
 | .fz _=>[]
def Bd (b:BF) (cs:St):Prop:=∀i c,J7 cs i=A9 c->i<b->∀j∈CH c,j<b
structure Fx where
 A:Ke
 Qd:Ev
 J9:AT Qp
 Li:Qp
 h₀:Ev
 L:EA
 os:Rd
 bl:BR
 bs:AT BF
 ol:Ag
def Bo (X:Fx):AT EA:=X.J9.Q3 (·.Wp)
def HK (w:FX) (σ:Sg) (CL:Qp) (ve:Ag) (ml:Dr->Bq Bl):Prop:=∀x v,BU ve x=A9 v->
 (∃y,ml x=A9 y/\Ad w σ v y/\CL.PQ x=A9 .local)\/(∃y c o,CL.PQ x=A9 .Qc/\CL.J2.H6 x=A9 c/\(c,o)∈σ.fz/\o.KA= .Qc (A9 y)/\Ad w σ v y)
theorem HK.Ey {w:FX} {σ σ':Sg} {CL:Qp} {ve:Ag} {ml:Dr->Bq Bl} (h:σ.le σ') (r:HK w σ CL ve ml):HK w σ' CL ve ml:=λx v e=>by
 rcases r x v e with⟨y,a,b,c⟩|⟨y,c,o,a,b,d,f,g⟩
 .exact .HX ⟨y,a,b.Ey h,c⟩
 .exact .G4 ⟨y,c,o,a,b,h.1 _ d,f,g.Ey h⟩
def Aq (X:Fx) (σ:Sg) (G2:AT BR):BR:=G2.H8++(X.bl++σ.fz)
def Ya (w:FX) (X:Fx) (σ:Sg) (m:Dr->Bq Bl):Prop:=∀x v,BU X.ol x=A9 v->∃y,m x=A9 y/\Ad w σ v y
def U5 (w:FX) (X:Fx) (σ:Sg) (CL:Qp) (m:Dr->Bq Bl):Prop:=CL.J6=X.L\/(CL.J6∈X.bl.FW (·.1)/\Ya w X σ m)
theorem U5.Ey {w:FX} {X:Fx} {σ σ':Sg} {CL:Qp} {m:Dr->Bq Bl} (h:σ.le σ') (r:U5 w X σ CL m):U5 w X σ' CL m:=by
 rcases r with r|⟨r,k⟩
 .exact .HX r
 .exact .G4 ⟨r,λx v e=>let⟨y,a,b⟩:=k x v e;⟨y,a,b.Ey h⟩⟩
structure AN (w:FX) (X:Fx) (σ:Sg) (CL:Qp) (ve:Ag) (cs:St) (h:Ev) (m ml:Dr->Bq Bl) (G2:AT BR):Prop where
 F:Fr σ.gr X.L h m
 ns:h.Ns CL.J6 ml
 V0:HK w σ CL ve ml
 J2:Ap w σ σ.ca cs G2
 N:Pz σ.gr X.L h `A
 nd:((Aq X σ G2).FW (·.1)).Oq
 bd:∀b∈X.bs,b<=cs.A8/\Bd b cs
 lo:U5 w X σ CL m
 T:QO (Bo X) X.h₀ σ.gr
def AZ (w:FX) (X:Fx) (σ:Sg) (CL:Qp) (ve:Ag) (cs:St) (h:Ev):Prop:=∃m ml G2,`j
def Ak (w:FX) (X:Fx) (σ:Sg) (CL:Qp) (ve:Ag) (cs:St) (s:CW):Prop:=`n s.Dn/\s.N8= #[]/\s.os=X.os
theorem eH {α:Type} [PP α] {β:Type} {A B C:AT (α×β)} {a:α} {o:β} (f:a∉(A++(B++C)).FW (·.1)) (nd:((A++(B++C)).FW (·.1)).Oq):((A++(B++(a,o)::C)).FW (·.1)).Oq:=by
 rw[<-AT.F7] at f nd⊢;rw[AT.J8] at f nd⊢;rw[AT.JS];exact(AT.Qg (a:=a)).Lz.Lq (AT.Kv.Lq ⟨f,nd⟩)
section
theorem Fr.kp {h₀ h h':Ev} {L:EA} {m:Dr->Bq Bl} (F:Fr h₀ L h m) (k:∀b o,h.D7 b=A9 o->h'.D7 b=A9 o):Fr h₀ L h' m:=
 ⟨F.ns.at' λo e=>k _ o e,λb o e=>k _ _ (F.QH b o e),F.above⟩
theorem Pz.kp {h₀ h h':Ev} {L:EA} {news:BR} (N:Pz h₀ L h news) (k:∀b o,h.D7 b=A9 o->h'.D7 b=A9 o):Pz h₀ L h' news:=
 λp hp=>⟨k _ _ (N p hp).1,(N p hp).2⟩
theorem AZ.QH (R:`n h) (k:∀b o,h.D7 b=A9 o->h'.D7 b=A9 o):`n h':=by
 obtain⟨m,ml,G2,r⟩:=R;exact⟨m,ml,G2,Fr.kp r.F k,r.ns.at' λo e=>k _ o e,r.V0,r.J2,Pz.kp r.N k,r.nd,r.bd,r.lo,r.T⟩
theorem AZ.Lr (R:`n h) (o:KJ):`n (h.Lr o):=R.QH λ_ _ e=>Ev.EB _ e
theorem Ak.Dp (R:`b s) (n:BF):`b {s with Dp:=n}:=R
theorem Ak.QH (R:`b s) (k:∀b o,s.Dn.D7 b=A9 o->h'.D7 b=A9 o) (n:BF):`b {s with Dn:=h',Dp:=n}:=⟨R.1.QH k,R.2⟩
theorem AN.Wo {m ml:Dr->Bq Bl} {G2:AT BR} (r:`j) {a:EA} (hn:h.D7 a=BH):a∉(Aq X σ G2).FW (·.1)/\a≠X.L/\σ.gr.D7 a=BH:=by
 refine⟨λq=> ?_,λq=> ?_,?_⟩
 .obtain⟨p,hp,Cs⟩:=AT.KY.mp q
  rw[(r.N p hp).1] at hn;cases hn
 .obtain⟨o,_,_,e,_⟩:=r.F.ns
  rw[q,e] at hn;cases hn
 .cases e:σ.gr.D7 a with
  |BH=>rfl
  |A9 o=>rw[r.F.QH a o e] at hn;cases hn
def Sg.add (σ:Sg) (p:EA×KJ):Sg:={σ with fz:=p::σ.fz}
theorem Sg.Vc (σ:Sg) (p:EA×KJ):σ.le (σ.add p):=⟨λ_ h=> .Do _ h,[],by simp[Sg.add]⟩
def Sg.VS (σ:Sg) (p:EA×EA):Sg:={σ with ca:=σ.ca++[p]}
theorem Sg.Si (σ:Sg) (p:EA×EA):σ.le (σ.VS p):=⟨λ_ h=>h,[p],Cs⟩
theorem AZ.add (R:`n h) (k:∀b o,h.D7 b=A9 o->h'.D7 b=A9 o) {a:EA} {o:KJ} (ha:h'.D7 a=A9 o) (hn:h.D7 a=BH):AZ w X (σ.add (a,o)) CL ve cs h':=by
 obtain⟨m,ml,G2,r⟩:=R;obtain⟨f1,V1,f3⟩:=r.Wo hn;have e:Aq X (σ.add (a,o)) G2=G2.H8++(X.bl++(a,o)::σ.fz):=rfl;have PH:∀p,p∈Aq X (σ.add (a,o)) G2->p=(a,o)\/p∈Aq X σ G2:=λp hp=>by
  rw[e] at hp;unfold Aq;simp only[AT.JX,AT.GZ] at hp⊢;rcases hp with q|q|q|q<;>simp[q]
 refine⟨m,ml,G2,Fr.kp r.F k,r.ns.at' λo e=>k _ o e,r.V0.Ey (σ.Vc _),r.J2.Ey (σ.Vc _),λp hp=> ?_,?_,r.bd,r.lo.Ey (σ.Vc _),r.T⟩
 .rcases PH p hp with rfl|q
  .exact⟨ha,V1,f3⟩
  .exact Pz.kp r.N k p q
 .exact eH f1 r.nd
theorem Ap.VS {w:FX} {σ:Sg} {cs:St} {G2:AT BR} {p:EA×EA} {c:C} {os:BR} (hc:Bf w (σ.VS p) p c os) (r:Ap w σ σ.ca cs G2):Ap w (σ.VS p) (σ.VS p).ca (cs++[c]) (G2++[os]):=
 Ap.Wy hc (r.Ey (σ.Si p))
theorem lH {α:Type} {l:AT α} {i:BF} {a:α} (h:J7 l i=A9 a):i<l.A8:=(AT.JY.mp (bi.Hl.CX h)).1
theorem cC {α:Type} {l l':AT α} {i:BF} (h:i<l.A8):J7 (l++l') i=J7 l i:=bi.CX ((AT.getElem?_append_left h).CX bi.Hl)
theorem Bd.Wy {b:BF} {cs:St} (h:Bd b cs) (hb:b<=cs.A8) (l:St):Bd b (cs++l):=λi c e hi=>by
 rw[cC (BF.PJ hi hb)] at e;exact h i c e hi
theorem aC {G2:AT BR} {q:EA×KJ}:q∈Aq X σ G2↔q∈G2.H8\/q∈X.bl\/q∈σ.fz:=by
 unfold Aq;simp only[AT.JX]
theorem AZ.addCell (R:`n h) (k:∀b o,h.D7 b=A9 o->h'.D7 b=A9 o) {p:EA×EA} {c:C} {os:BR} (ho:∀q∈os,h'.D7 q.1=A9 q.2/\h.D7 q.1=BH) (hnd:(os.FW (·.1)).Oq)
  (hc:Bf w `aE p c os):AZ w X `aE CL ve (cs++[c]) h':=by
 obtain⟨m,ml,G2,r⟩:=R;have e:Aq X `aE (G2++[os])=G2.H8++(os++(X.bl++σ.fz)):=by unfold Aq Sg.VS;simp[AT.F7]
 refine⟨m,ml,G2++[os],Fr.kp r.F k,r.ns.at' λo e=>k _ o e,r.V0.Ey `az,Ap.VS hc r.J2,λq hq=> ?_,?_,λb hb=>⟨by rw[AT.DE];exact BF.QU (r.bd b hb).1,(r.bd b hb).2.Wy (r.bd b hb).1 _⟩,r.lo.Ey `az,r.T⟩
 .rw[e] at hq
  simp only[AT.JX] at hq
  have:q∈os\/q∈Aq X σ G2:=by rw[aC];rcases hq with q1|q1|q1|q1<;>simp[q1]
  rcases F4 with q1|q1
  .obtain⟨f1,V1,f3⟩:=r.Wo (ho q q1).2
   exact⟨(ho q q1).1,V1,f3⟩
  .exact Pz.kp r.N k q q1
 .rw[e]
  have nd:=r.nd;unfold Aq at nd;have dis:∀a∈os.FW (·.1),a∉(G2.H8++(X.bl++σ.fz)).FW (·.1):=λa ha=>by
   obtain⟨q,hq,Cs⟩:=AT.KY.mp ha;exact(r.Wo (ho q hq).2).1
  rw[AT.J8] at nd dis⊢;rw[AT.J8 (l₁:=os)];rw[AT.Lj] at nd⊢;obtain⟨n1,n2,n3⟩:=nd;refine⟨n1,AT.Lj.Lq ⟨hnd,n2,λa ha b hb q=>dis a ha (AT.Kc _ (q▸hb))⟩,λa ha b hb q=> ?_⟩;rcases AT.JX.mp hb with hb|hb
  .exact dis b hb (AT.Ox _ (q▸ha))
  .exact n3 a ha b hb q
theorem lA {α:Type} {l:AT α} {b:α}:∀{i:BF},PF l i b=l.set i b:=by
 induction l with
 |HU=>exactλ{_}=>rfl
 |Dc a r ih=>exactλ{i}=>BF.Ou i rfl λ_=>FY (a:: ·) ih
theorem cA {α:Type} {l:AT α} {i:BF} {b:α}:(PF l i b).A8=l.A8:=lA▸AT.length_set
theorem mL {α:Type} {l:AT α} {i j:BF} {a b:α} (h:J7 (PF l i b) j=A9 a):(j=i/\a=b)\/(j≠i/\J7 l j=A9 a):=by
 rw[bi,lA] at h
 by_cases e:i=j
 .subst e
  exact .HX ⟨Cs,Bq.A9.Ky (h.Hl.CX (AT.getElem?_set_self (AT.length_set▸(AT.JY.mp h).1)))⟩
 .exact .G4 ⟨Ne.Hl e,bi.CX ((AT.getElem?_set_ne e).Hl.CX h)⟩
theorem Bd.PF {b i:BF} {c:C} (hb:Bd b cs) (hr:i<b->∀j∈CH c,j<b):Bd b (PL.PF cs i c):=λj d e hj=>by
 rcases mL e with⟨Cs,Cs⟩|⟨_,q⟩
 .exact hr hj
 .exact hb j d q hj
theorem AZ.upd {i:BF} {c:C} (R:`n h) (hi:J7 cs i=A9 c):∃p os,J7 σ.ca i=A9 p/\Bf w σ p c os/\(∀q∈os,h.D7 q.1=A9 q.2)/\(os.FW (·.1)).Oq/\
  ∀c' (os':BR) h',os'.FW (·.1)=os.FW (·.1)->(∀b o,b∉os.FW (·.1)->h.D7 b=A9 o->h'.D7 b=A9 o)->(∀q∈os',h'.D7 q.1=A9 q.2)->Bf w σ p c' os'->(∀b∈X.bs,i<b->∀j∈CH c',j<b)->
   AZ w X σ CL ve (PF cs i c') h':=by
 obtain⟨m,ml,G2,r⟩:=R;obtain⟨p,os,l,l',h1,Cs,h3,h4⟩:=r.J2.split hi;have e:∀os,Aq X σ (l++os::l')=(l.H8++os)++(l'.H8++(X.bl++σ.fz)):=λos=>by unfold Aq;simp[AT.F7]
 have e2:∀os:BR,(((l.H8++os)++(l'.H8++(X.bl++σ.fz))).FW (·.1))=(l.H8.FW (·.1)++os.FW (·.1))++((l'.H8++(X.bl++σ.fz)).FW (·.1)):=λos=>by simp only[AT.J8]
 have mos:∀q∈os,q∈Aq X σ (l++os::l'):=λq hq=>by rw[e];simp[hq]
 have nd:=r.nd;rw[e,e2] at nd;have ndo:(os.FW (·.1)).Oq:=(AT.Lj.mp (AT.Lj.mp nd).1).2.1;refine⟨p,os,h1,h3,λq hq=>(r.N q (mos q hq)).1,ndo,λc' os' h' hm k ho hc hr=> ?_⟩;have kL:∀b o,b∉os.FW (·.1)->h.D7 b=A9 o->h'.D7 b=A9 o:=k;have Z9:X.L∉os.FW (·.1):=λq=>by
  obtain⟨z,hz,hz2⟩:=AT.KY.mp q;exact(r.N z (mos z hz)).2.1 hz2
 have n0:∀b o,σ.gr.D7 b=A9 o->b∉os.FW (·.1):=λb o q z=>by
  obtain⟨y,hy,Cs⟩:=AT.KY.mp z;rw[(r.N y (mos y hy)).2.2] at q;cases q
 have nl:CL.J6∉os.FW (·.1):=λq=>by
  rcases r.lo with z|⟨z,_⟩
  .exact Z9 (z▸q)
  .exact(AT.Lj.mp nd).2.2 _ (AT.Kc _ q) _ (by rw[AT.J8,AT.J8];exact AT.Kc _ (AT.Ox _ z)) rfl
 refine⟨m,ml,l++os'::l',⟨r.F.ns.at' λo q=>k _ o Z9 q,λb o q=>k b o (n0 b o q) (r.F.QH b o q),r.F.above⟩,r.ns.at' λo q=>k _ o nl q,r.V0,h4 σ (Sg.G5 σ) c' os' hc,λq hq=> ?_,?_,
  λb hb=>⟨by rw[cA];exact(r.bd b hb).1,(r.bd b hb).2.PF (hr b hb)⟩,r.lo,r.T⟩
 .by_cases hq':q∈os'
  .have:q.1∈os.FW (·.1):=hm▸AT.Ib hq'
   obtain⟨y,hy,hy2⟩:=AT.KY.mp F4;exact⟨ho q hq',hy2▸(r.N y (mos y hy)).2.1,hy2▸(r.N y (mos y hy)).2.2⟩
  .have hq2:q∈Aq X σ (l++os::l')/\q.1∉os.FW (·.1):=by
    rw[e] at hq⊢;simp only[AT.JX] at hq⊢;obtain⟨nd1,nd2,nd3⟩:=AT.Lj.mp nd;obtain⟨nd4,nd5,nd6⟩:=AT.Lj.mp nd1;rcases hq with(q1|q1)|q1
    .exact⟨.HX (.HX q1),λz=>nd6 _ (AT.Ib q1) _ z rfl⟩
    .exact Ks q1 hq'
    .refine⟨.G4 q1,λz=>nd3 _ (AT.Kc _ z) _ ?_ rfl⟩
     rw[<-AT.JX,<-AT.JX] at q1;exact AT.Ib q1
   have P:=r.N q hq2.1;exact⟨k _ _ hq2.2 P.1,P.2⟩
 .rw[e,e2,hm];exact nd
theorem AZ.freeze {i:BF} {c:C} {x:T} (R:`n h) (hi:J7 cs i=A9 c) (hx:∀p os,J7 σ.ca i=A9 p->Bf w σ p c os->(∀q∈os,h.D7 q.1=A9 q.2)->Ah w (os++σ.fz) x (.C9 p.1)):
  ∃σ',σ.le σ'/\σ'.ca=σ.ca/\AZ w X σ' CL ve (PF cs i (.fz x)) h/\∀p,J7 σ.ca i=A9 p->Ah w σ'.fz x (.C9 p.1):=by
 obtain⟨m,ml,G2,r⟩:=R;obtain⟨p,os,l,l',h1,Cs,h3,h4⟩:=r.J2.split hi;have le:σ.le {σ with fz:=os++σ.fz}:=⟨λq hq=>AT.Kc _ hq,[],by simp⟩;have e:Aq X {σ with fz:=os++σ.fz} (l++[]::l')=l.H8++(l'.H8++(X.bl++(os++σ.fz))):=by unfold Aq;simp[AT.F7]
 have e0:Aq X σ (l++os::l')=l.H8++(os++(l'.H8++(X.bl++σ.fz))):=by unfold Aq;simp[AT.F7]
 have pm:(Aq X {σ with fz:=os++σ.fz} (l++[]::l')).V8 (Aq X σ (l++os::l')):=by
  rw[e,e0];refine AT.V8.append_left _ ?_
  have:=AT.perm_append_comm_assoc (l'.H8++X.bl) os σ.fz
  simpa only[AT.F7] using F4
 have ho:∀q∈os,h.D7 q.1=A9 q.2:=λq hq=>(r.N q (by rw[e0];simp[hq])).1;refine⟨_,le,Cs,⟨m,ml,l++[]::l',r.F,r.ns,r.V0.Ey le,h4 _ le _ _ ⟨Cs,hx p os h1 h3 ho⟩,λq hq=>r.N q (pm.OF.mp hq),(pm.FW (·.1)).Lz.Lq r.nd,λb hb=>⟨by rw[cA];exact(r.bd b hb).1,(r.bd b hb).2.PF λ_ j hj=>by simp[CH] at hj⟩,r.lo.Ey le,r.T⟩,λp' hp'=>by
  obtain rfl:p=p':=Bq.A9.Ky (h1.Hl.CX hp')
  exact hx p os h1 h3 ho⟩
section
variable {α:Type} {p:Dr×α} {r:AT (Dr×α)} {x:Dr} {v:α}
theorem bw (e:KH p.1 x=Bj):BU (p::r) x=A9 p.2:=by
 show(match KH p.1 x with|Bj=>A9 p.2|Be=>BU r x)=_
 rw[e]
theorem bj (e:KH p.1 x=Be):BU (p::r) x=BU r x:=by
 show(match KH p.1 x with|Bj=>A9 p.2|Be=>BU r x)=_
 rw[e]
theorem iL (e:KH p.1 x=Bj):Cr (p::r) x v=(p.1,v)::r:=by
 show(match KH p.1 x with|Bj=>(p.1,v)::r|Be=>p::Cr r x v)=_
 rw[e]
theorem iM (e:KH p.1 x=Be):Cr (p::r) x v=p::Cr r x v:=by
 show(match KH p.1 x with|Bj=>(p.1,v)::r|Be=>p::Cr r x v)=_
 rw[e]
end
theorem sC {α:Type} {l:AT (Dr×α)} {x:Dr} {v:α} {y:Dr} {u:α}:BU (Cr l x v) y=A9 u->(y=x/\u=v)\/(y≠x/\BU l y=A9 u):=by
 induction l with
 |HU=>
  intro h;cases e:KH x y with
  |Bj=>exact .HX ⟨(aB.mp e).Hl,(Bq.A9.Ky ((bw (p:=(x,v)) e).Hl.CX h)).Hl⟩
  |Be=>exact nomatch (bj (p:=(x,v)) (r:=[]) e).Hl.CX h
 |Dc p r ih=>
  intro h;cases e:KH p.1 x with
  |Bj=>
   rw[iL e] at h;cases e2:KH p.1 y with
   |Bj=>exact .HX ⟨(aB.mp e2).Hl.CX (aB.mp e),(Bq.A9.Ky ((bw (p:=(p.1,v)) e2).Hl.CX h)).Hl⟩
   |Be=>exact .G4 ⟨λq=>bz.mp e2 ((aB.mp e).CX q.Hl),(bj e2).CX ((bj (p:=(p.1,v)) e2).Hl.CX h)⟩
  |Be=>
   rw[iM e] at h;cases e2:KH p.1 y with
   |Bj=>exact .G4 ⟨λq=>bz.mp e ((aB.mp e2).CX q),(bw e2).CX ((bw e2).Hl.CX h)⟩
   |Be=>exact(bj e2).Hl▸ih ((bj e2).Hl.CX h)
theorem mn {x:Dr} {v:V} {y:Bl} {ml:Dr->Bq Bl} (R:`n h) (hv:Ad w σ v y) (hk:CL.PQ x=A9 .local) (hn:∀ml,h.Ns CL.J6 ml->h'.Ns CL.J6 (λz=>if z=x then A9 y else ml z)) (hs:Ev.Qq CL.J6 h h')
  (hl:CL.J6=X.L):AZ w X σ CL (Cr ve x v) cs h':=by
 obtain⟨m,ml,G2,r⟩:=R;have hn':=hn _ (hl▸r.F.ns:h.Ns CL.J6 m);refine⟨_,_,G2,Fr.set r.F (hl▸hn') (hl▸hs),hn _ r.ns,λz u e=> ?_,r.J2,Pz.set r.N (hl▸hs),r.nd,r.bd,.HX hl,r.T⟩;rcases sC e with⟨Cs,Cs⟩|⟨a,b⟩
 .exact .HX ⟨y,by simp,hv,hk⟩
 .rcases r.V0 z u b with⟨y',c1,c2,c3⟩|c
  .exact .HX ⟨y',by simp[a,c1],c2,c3⟩
  .exact .G4 c
end
def An.ok:An->Prop
 | .D9 _=>Re
 |_=>True
def BZ (an:An->Prop):Prop:=∀n,¬an (.D9 n)
theorem xN {α:Type} {o:Bq α} {n:BF} {f:α->An} {an:An->Prop} (ha:BZ an) (h:an (AA o n f)):∃a,o=A9 a/\an (f a):=by
 cases o with
 |BH=>exact(ha _ h).Dk
 |A9 a=>exact⟨a,Cs,h⟩
theorem bP {b:CV} {x y:An} {an:An->Prop} (h:an (br b x y)):(b=Bj/\an (x))\/(b=Be/\an (y)):=by
 cases b
 .exact .G4 ⟨Cs,h⟩
 .exact .HX ⟨Cs,h⟩
theorem aaf {b:CV} {x:An} {an:An->Prop} {n:BF} (ha:BZ an) (h:an (br b x (.D9 n))):b=Bj/\an (x):=by
 rcases bP h with q|⟨_,q⟩
 .exact q
 .exact(ha _ q).Dk
theorem ab {α:Type} {o:Bq α} {n:BF} {f:α->An} {an:An->Prop} {q:Prop} (ha:BZ an) (h:an (AA o n f)) (k:∀a,o=A9 a->an (f a)->q):q:=
 let⟨a,e,h⟩:=xN ha h;k a e h
theorem am {b:CV} {x:An} {an:An->Prop} {n:BF} {q:Prop} (ha:BZ an) (h:an (br b x (.D9 n))) (k:b=Bj->an x->q):q:=
 let⟨e,h⟩:=aaf ha h;k e h
theorem aag {b:CV} {x:An} {an:An->Prop} {n:BF} (ha:BZ an) (h:an (br b (.D9 n) x)):b=Be/\an (x):=by
 rcases bP h with⟨_,q⟩|q
 .exact(ha _ q).Dk
 .exact q
structure C5 (K:Lo) (X:Fx):Prop where
 B:∃A₀,Below A₀ X.Qd X.J9 X.h₀
 fr:X.A.KZ=A9 (X.Li::X.J9)
 ff:X.Li.Wp=A9 X.L
 fk:X.Li.Jm.Wz= .LK
 fl:X.Li.J6=X.L
 hh:X.A.OA=BH
 lim:X.Qd.NoLimit
 KX:K.In X.Qd
 gn:∃mg,X.Qd.Ns Kz mg
 bn:∃mb,X.Qd.Ns Lv mb
theorem C5.turn {K:Lo} {X:Fx} (H:C5 K X) {g:Ev} (T:QO (Bo X) X.h₀ g) {b:EA} {o:KJ} (e:X.Qd.D7 b=A9 o):g.D7 b=A9 o:=by
 obtain⟨A₀,B⟩:=H.B;refine T.W8 b o (B.stays b o e) λhm=> ?_;rw[(B.KZ.PH hm).1] at e;cases e
theorem C5.below {K:Lo} {X:Fx} (H:C5 K X) {g:Ev} (T:QO (Bo X) X.h₀ g):∃A₀,Below A₀ X.Qd X.J9 g:=by
 have t:= @C5.turn K X H g T;obtain⟨A₀,B⟩:=H.B;refine⟨A₀,B.stack,λb o e=>t e,B.KZ.of_keeps λb o e _=> ?_⟩;obtain⟨sl,hs⟩:=T.up e;exact⟨_,hs,Cs⟩
theorem AN.Qd {w:FX} {K:Lo} {X:Fx} {σ:Sg} {CL:Qp} {ve:Ag} {cs:St} {h:Ev} {m ml:Dr->Bq Bl} {G2:AT BR} (H:C5 K X) (r:`j) {b:EA} {o:KJ} (e:X.Qd.D7 b=A9 o):h.D7 b=A9 o:=
 r.F.QH b o (H.turn r.T e)
theorem AZ.Qd {w:FX} {K:Lo} {X:Fx} {σ:Sg} {CL:Qp} {ve:Ag} {cs:St} {h:Ev} (H:C5 K X) (R:`n h) {b:EA} {o:KJ} (e:X.Qd.D7 b=A9 o):h.D7 b=A9 o:=by
 obtain⟨m,ml,G2,r⟩:=R;exact r.Qd H e
def IK (n:BF) (X:Fx):Prop:=X.A.RW+2*n<900/\X.A.LL+20*n<9000
structure UL (X:Fx) (cx:Cx) (CL:Qp):Prop where
 hk:CL.Jm.Wz= .LK
 hg:CL.V4=Kz
 hb:CL.builtins=Lv
 hf:CL.Wp=A9 X.L
 hn:∀x,CL.PQ x=cx.sc.Lb.H6 x
 bs:∀b∈X.bs,b<=cx.b
 own:cx.top=Bj->CL.J6=X.L
def Gu (K:Lo) (x:Dr) (t:T):Prop:=
 ∃v,(nsIn K Kz x=A9 (A9 v)\/(nsIn K Kz x=A9 BH/\nsIn K Lv x=A9 (A9 v)))/\match t with
  | .Km y=>v=y
  | .D4 n=>∃tk,v= .D4 n tk
  | .Dq s=>∃tk,v= .Dq s tk
  |_=>Re
structure Jk (K:Lo) (G:DM):Prop where
 glob:∀x t,G.glob x=A9 t->Gu K x t
section
variable (w:FX) (FZ:Kt)
def AF:Dr:=s!"what"
def Cw:Dr:=s!"at"
def V1 (o:KJ):Bq Bl:=match o.KA with
 | .J5 vs=>vs[2]?
 |_=>BH
structure Fj (X:Fx) (σ:Sg) (CL:Qp) (ve:Ag) (c:BF) (wv av:V) (cs:St) (ea:EA) (s:CW) (d:EA) (ds:AT Ex) (nn:BF) (G2:AT BR) (m:Dr->Bq Bl):Prop where
 J2:Ap w σ σ.ca cs G2
 nd:((Aq X σ G2).FW (·.1)).Oq
 dm:(d,AK ds nn)∈σ.fz
 df:AI w σ [(AF,wv),(Cw,av)] ds
 bd:∀b∈X.bs,b<=cs.A8/\Bd b cs
 V0:CL.J6=X.L->HK w σ CL ve m
 T:QO (Bo X) X.h₀ σ.gr
 N8:s.N8= #[]
 os:s.os=X.os
 LG:∃Z7,s.Dn.D7 ea=A9 Z7/\Z7.LG=A9 d/\(BF.blt c Em=Bj->V1 Z7=A9 .BH)
 Ri:(∃vs sl a0,s.Dn.D7 ea=A9 ⟨.C9 (En c),A9 d,.J5 vs,sl⟩/\vs[1]?=A9 .BH/\vs[0]?=A9 a0/\Fr σ.gr X.L s.Dn m/\Pz σ.gr X.L s.Dn `A/\ea∉(Aq X σ G2).FW (·.1)/\σ.gr.D7 ea=BH)\/
  (∃B a0 h,(∀b o,σ.gr.D7 b=A9 o->b∉Bo X->B.D7 b=A9 o)/\(∀q∈Aq X σ G2,B.D7 q.1=A9 q.2)/\Ev.FlyingW B (X.Li::X.J9) ea (.C9 (En c)) a0 s.Dn/\Fr σ.gr X.L h m/\Pz σ.gr X.L h `A/\h.P0 s.Dn)\/
  (∃B a0,(∀b o,σ.gr.D7 b=A9 o->b∉Bo X->B.D7 b=A9 o)/\(∀q∈Aq X σ G2,B.D7 q.1=A9 q.2)/\Ev.HeldW B (X.Li::X.J9) ea (.C9 (En c)) a0 X.L s.Dn/\Fr σ.gr X.L s.Dn m/\Pz σ.gr X.L s.Dn `A)
def Ep (X:Fx) (σ:Sg) (CL:Qp) (ve:Ag) (c:BF) (wv av:V) (cs:St) (e:Bl) (s:CW):Prop:=
 ∃ea d ds nn G2 m,e= .C9 ea/\Fj w X σ CL ve c wv av cs ea s d ds nn G2 m
def A6 (X:Fx) (σ:Sg) (CL:Qp) (ve:Ag) (k:KV) (an:An->Prop) (Q:Bl->CW->Prop):Prop:=
 ∀σ' v x Kg s',σ.le σ'->Ak w X σ' CL ve Kg s'->Ad w σ' v x->an (k v Kg)->Q x s'
def AD (X:Fx) (σ:Sg) (CL:Qp) (ve:Ag) (ke:KX) (an:An->Prop) (E:Bl->CW->Prop):Prop:=
 ∀σ' c wv av Kg e s',σ.le σ'->Ep w X σ' CL ve c wv av Kg e s'->an (ke c wv av Kg)->E e s'
structure AB (K:Lo) (n:BF) (X:Fx) (cx:Cx) (CL:Qp):Prop where
 x:C5 K X
 e:UL X cx CL
 r:IK n X
def B0 (K:Lo) (n:BF) (an:An->Prop) (ev:Cx->Ez->Ag->St->KV->KX->An):Prop:=
 ∀X cx CL e σ ve cs s k ke Q E,`g->`b s->BZ an->an (ev cx e ve cs k ke)->`l->`k->
  `a X.A `aI Q E s
def GA (X:Fx) (σ:Sg) (CL:Qp) (ve:Ag) (k:KB) (an:An->Prop) (Q:CV->CW->Prop):Prop:=
 ∀σ' b Kg s',σ.le σ'->Ak w X σ' CL ve Kg s'->an (k b Kg)->Q b s'
def EY (K:Lo) (n:BF) (an:An->Prop) (tr:Cx->Ez->Ag->St->KB->KX->An):Prop:=
 ∀X cx CL e σ ve cs s k ke Q E,`g->`b s->BZ an->an (tr cx e ve cs k ke)->GA w X σ CL ve k an Q->`k->
  `a X.A (isTrue e CL `aI) Q E s
end
section
variable {Q:Bl->CW->Prop}
theorem AD.Ey {σ':Sg} (h:σ.le σ') (p:`k):AD w X σ' CL ve ke an E:=λσ2 c wv av Kg e s' l=>p σ2 c wv av Kg e s' (h.CX l)
theorem A6.Ey {σ':Sg} (h:σ.le σ') (p:`l):A6 w X σ' CL ve k an Q:=λσ2 v x Kg s' l=>p σ2 v x Kg s' (h.CX l)
theorem GA.Ey {σ':Sg} {k:KB} {Q:CV->CW->Prop} (h:σ.le σ') (p:GA w X σ CL ve k an Q):GA w X σ' CL ve k an Q:=λσ2 b Kg s' l=>p σ2 b Kg s' (h.CX l)
theorem vb (H:C5 K X) {h:Ev} (R:`n h):∃mg,h.Ns Kz mg/\∀x v,nsIn K Kz x=A9 v->mg x=v:=by
 obtain⟨mg,hg⟩:=H.gn;refine⟨mg,hg.at' λo e=>R.Qd H e,λx v e=> ?_⟩;cases v with
 |BH=>exact mg_none_of H.KX hg e
 |A9 v=>exact mg_of H.KX hg e
theorem zy {K:Lo} {h:Ev} {a:EA} {mg:Dr->Bq Bl} {x:Dr} {v:Bq Bl} (X:K.In h) (G:h.Ns a mg) (e:nsIn K a x=A9 v):mg x=v:=by
 obtain⟨o,es,ep,ho,hd,_,hf⟩:=G;unfold nsIn at e;cases q:K.H6 a with
 |BH=>rw[q] at e;cases e
 |A9 o'=>
  obtain rfl:o=o':=Bq.A9.Ky (ho.Hl.CX (X _ _ q))
  rw[q] at e;obtain⟨c,d,dt,sl⟩:=o
  obtain rfl:dt= .LG es ep:=hd
  dsimp only at e;rw[<-hf];unfold nsFind findBy;rw[<-KU.find?_toList];cases he:es.Ob.find? (·.Qt.Wu x) with
  |A9 HV=>rw[he] at e;cases e<;>rfl
  |BH=>
   rw[he] at e;dsimp only at e;split at e
   .cases e
   .cases e<;>rfl
theorem vc (H:C5 K X) {h:Ev} (R:`n h):∃mg,h.Ns Lv mg/\∀x v,nsIn K Lv x=A9 v->mg x=v:=by
 obtain⟨mg,hg⟩:=H.bn;exact⟨mg,hg.at' λo e=>R.Qd H e,λx v e=>zy H.KX hg e⟩
theorem qE {t:T} {v:Bl} (h:match t with
  | .Km y=>v=y
  | .D4 n=>∃tk,v= .D4 n tk
  | .Dq s=>∃tk,v= .Dq s tk
  |_=>Re):Ah w σ.fz t v:=by
 cases t with
 |Km _=>exact h
 |D4 _=>exact h
 |Dq _=>exact h
 |_=>exact h.Dk
theorem cF {l:AT (Dr×Ln)} {x:Dr}:IA l x=l.H6 x:=by
 induction l with
 |HU=>rfl
 |Dc p r ih=>
  show(match KH p.1 x with|Bj=>A9 p.2|Be=>IA r x)=match x==p.1 with|Bj=>A9 p.2|Be=>r.H6 x
  rw[ih];cases e:KH p.1 x with
  |Bj=>rw[show(x==p.1)=Bj from Kw.Lq (aB.mp e).Hl]
  |Be=>rw[show(x==p.1)=Be from LD.Lq (Ne.Hl (bz.mp e))]
theorem qZ {x:Dr} {v:V} {q:V->Prop} (hv:Bi G cx x ve=A9 v) (k1:KH x Mw=Be->BU ve x=A9 v->q v) (k2:∀t,KH x Mw=Be->IA cx.sc.Lb x=A9 .Rg->G.glob x=A9 t->q (.t t)):q v:=by
 unfold Bi at hv;cases hd:KH x Mw with
 |Bj=>rw[hd] at hv;cases hv
 |Be=>
  rw[hd] at hv;cases e1:BU ve x with
  |A9 u=>rw[e1] at hv;exact k1 hd (e1.CX hv)
  |BH=>
   rw[e1] at hv;cases e2:IA cx.sc.Lb x with
   |BH=>rw[e2] at hv;cases hv
   |A9 k=>
    rw[e2] at hv;cases k with
    |Rg=>
     cases e3:G.glob x with
     |BH=>rw[e3] at hv;cases hv
     |A9 t=>rw[e3] at hv;exact Bq.A9.Ky hv▸k2 t hd e2 e3
    |_=>cases hv
theorem aS (GK:Jk K G) (H:`g) (R:`b s) {A:Ke} {x:Dr} {HW:Oz} {v:V} (hv:Bi G cx x ve=A9 v) (hQ:∀y,Ad w σ v y->Q y s):
  `a A (Oc (.JV x HW) CL) Q E s:=by
 have nd:KH x Mw=Be->(x==("__debug__":Dr))=Be:=λh=>by
  have d:Mw=("__debug__":Dr):=by decide+QG
  exact LD.Lq (d▸bz.mp h)
 refine qZ (q:=λv=>(∀y,Ad w σ v y->Q y s)->`a A (Oc (.JV x HW) CL) Q E s) hv (λhd hv hQ=> ?_) (λt hd hl ht hQ=> ?_) hQ
 .obtain⟨m,ml,G2,q⟩:=R.1
  rcases q.V0 x v hv with⟨y,h1,h2,h3⟩|⟨y,c,o,h1,h2,h3,h4,h5⟩
  .exact wpAny_Name (wpAny_loadName_local H.e.hk h3 q.ns h1 (hQ y h2)) (nd hd)
  .exact wpAny_Name (wpAny_loadName_cell H.e.hk h1 h2 ⟨o,(q.N _ (aC.Lq (.G4 (.G4 h3)))).1,h4⟩ (hQ y h5)) (nd hd)
 .obtain⟨v,hv,hr⟩:=GK.glob x t ht
  obtain⟨mg,hg,hgl⟩:=vb H.x R.1;have K7:=hQ v (qE hr);refine Name_function_global H.e.hk ((H.e.hn x).CX (cF.Hl.CX hl)) ?_ (nd hd);rcases hv with e|⟨e1,e2⟩
  .exact loadGlobal_global (H.e.hg▸hg) (hgl _ _ e) K7
  .obtain⟨mb,hb,hbl⟩:=vc H.x R.1
   exact loadGlobal_builtin (H.e.hg▸hg) (hgl _ _ e1) (H.e.hb▸hb) (hbl _ _ e2) K7
theorem vV (GK:Jk K G) (H:`g) (R:`b s) {x:Dr} {HW:Oz} (ha:BZ an) (h:an (I3 G cx x ve cs k)) (hQ:`l):
  `a X.A (Oc (.JV x HW) CL) Q E s:=by
 refine ab ha h λv hv h=> ?_;exact aS GK H R hv λy hy=>hQ σ v y cs s σ.G5 R hy h
end
section
variable {fz:BR} {Q:Bl->CW->Prop}
theorem cP {a b:Dt}:CQ a b=Bj↔a<b:=by unfold CQ;simp
theorem bF {a b:Dt}:CF a b=Bj↔a<=b:=by unfold CF;simp
theorem lZ {a b:Dt}:HS a b=Bj↔a=b:=by unfold HS;simp
theorem d6 {a:Dt} (h:B9 a=Bj):a.J3<2^64:=by
 unfold B9 at h
 have:=BF.blt_eq.mp h
 simpa using F4
theorem Ah.D4 {n:Dt} {t:Tok}:Ah w fz (.D4 n) (.D4 n t):=⟨t,Cs⟩
theorem Ah.Dq {x:Dr} {t:Tok}:Ah w fz (.Dq x) (.Dq x t):=⟨t,Cs⟩
theorem Ah.G6 {b:CV}:Ah w fz (.G6 b) (.G6 b):=rfl
theorem Ah.Kr:Ah w fz .Kr .BH:=rfl
theorem Ah.Ld {ts:AT T} {a:EA} {xs:AT Bl} (m:(a,DX xs)∈fz) (r:Am w fz ts xs):Ah w fz (.Ld ts) (.C9 a):=(⟨_,_,Cs,m,r⟩:∃b ys,Bl.C9 a= .C9 b/\(b,DX ys)∈fz/\Am w fz ts ys)
theorem Am.one {t:T} {y:Bl} (r:Ah w fz t y):Am w fz [t] [y]:=(⟨_,_,Cs,r,Cs⟩:∃z zs,[y]=z::zs/\Ah w fz t z/\zs=[])
theorem pJ {t u:T} {y z:Bl} (r:Ah w fz t y) (q:Ah w fz u z):Am w fz [t,u] [y,z]:=(⟨_,_,Cs,r,.one q⟩:∃x zs,[y,z]=x::zs/\Ah w fz t x/\Am w fz [u] zs)
theorem Ah.LO {n:Dt} {x:Bl} (h:Ah w fz (.D4 n) x):∃t,x= .D4 n t:=h
theorem Ah.Od {n:Dr} {x:Bl} (h:Ah w fz (.Dq n) x):∃t,x= .Dq n t:=h
theorem Ah.VT {b:CV} {x:Bl} (h:Ah w fz (.G6 b) x):x= .G6 b:=h
theorem Ah.Vt {x:Bl} (h:Ah w fz .Kr x):x= .BH:=h
theorem aR {y x:Bl} (h:Ah w fz (.Km y) x):x=y:=h
theorem Ah.Qx {ts:AT T} {x:Bl} (h:Ah w fz (.Ld ts) x):∃a xs,x= .C9 a/\(a,DX xs)∈fz/\Am w fz ts xs:=h
theorem Ah.lst_inv {ts:AT T} {x:Bl} (h:Ah w fz (.Dg ts) x):∃a xs n,x= .C9 a/\(a,AO xs n)∈fz/\Am w fz ts xs:=h
theorem Ah.dct_inv {ts:AT (T×T)} {x:Bl} (h:Ah w fz (.Rv ts) x):∃a xs n,x= .C9 a/\(a,AK xs n)∈fz/\C2 w fz ts xs:=h
theorem Ah.ins_inv {c:BF} {fs:AT (Dr×T)} {x:Bl} (h:Ah w fz (.LJ c fs) x):∃a d ds n,x= .C9 a/\(a,Rh c d)∈fz/\(d,AK ds n)∈fz/\C1 w fz fs ds:=h
theorem oH {y:Dt} (h0:0<y) (h1:y.J3<2^64):y.J3.log2<9000:=by
 have:y.J3≠0:=Dt.natAbs_ne_zero.Lq (Dt.ne_of_gt h0)
 exact BF.VU ((BF.log2_lt F4).Lq h1) (by decide)
theorem mt {b:CV} {x c:T} {q:Prop} (h:(match b with|Bj=>A9 x|Be=>BH)=A9 c) (k:b=Bj->x=c->q):q:=by
 cases b with
 |Bj=>exact k rfl `T
 |Be=>cases h
theorem wy {op:PK} {m p:Dt} {t u:Tok} {c:T} (h:Uv op m p=A9 c) (hQ:∀z tk,Ah w fz c z->Q z {s with Dp:=tk}):`a A (WJ op (.D4 m t) (.D4 p u)) Q E s:=by
 cases op with
 |Add=>cases h;exact Oe.WA.add_int (hQ _ _ .D4)
 |Sub=>cases h;exact Oe.WA.sub_int (hQ _ _ .D4)
 |Mult=>exact mt h λhf e=>Oe.WA.mul_int (hQ _ _ (e▸.D4)) (IntMulOk.of_left (intBits_le (d6 hf)))
 |FloorDiv=>
  exact mt h λhf e=>by
   rw[CV.DG] at hf;have h0:=cP.mp hf.1;exact Oe.WA.floordiv_int (·) (hQ _ _ (e▸.D4)) (.HX (Oe.noPylong_of_log2 (oH h0 (d6 hf.2))))
 |Mod=>exact mt h λhf e=>Oe.WA.mod_int (by have:=cP.mp hf;omega) (hQ _ _ (e▸.D4))
 |Pow=>
  exact mt h λhf e=>by
   simp only[CV.DG,Ed] at hf;exact Oe.WA.pow_int_small (bF.mp hf.1.1) (by have:=bF.mp hf.1.2;omega) (d6 hf.2) (hQ _ _ (e▸.D4))
 |LShift=>
  exact mt h λhf e=>by
   simp only[CV.DG,Ed] at hf;exact Oe.WA.lshift_int_small (bF.mp hf.1.1) (by have:=bF.mp hf.1.2;omega) (d6 hf.2) (hQ _ _ (e▸.D4))
 |_=>cases h
theorem wu {op:PK} {m p:Dr} {t u:Tok} {c:T} (h:Uu op m p=A9 c) (hQ:∀z tk,Ah w fz c z->Q z {s with Dp:=tk}):`a A (WJ op (.Dq m t) (.Dq p u)) Q E s:=by
 cases op with
 |Add=>
  refine mt h λhf e=>Oe.WA.add_str (λt' tk=>hQ _ _ (e▸.Dq)) ?_
  have:=BF.Lx.mp hf
  simp only[Aj,KU.length_toList,Af] at F4;rw[Kq];unfold Dr.A8;omega
 |_=>cases h
theorem wr {op:PK} {a b c:T} {x y:Bl} (hx:Ah w fz a x) (hy:Ah w fz b y) (h:JG op a b=A9 c) (hQ:∀z tk,Ah w fz c z->Q z {s with Dp:=tk}):
  `a A (WJ op x y) Q E s:=by
 cases a with
 |D4 m=>cases b with
  |D4 p=>
   obtain⟨t,Cs⟩:=hx.LO;obtain⟨u,Cs⟩:=hy.LO;exact wy h hQ
  |_=>cases h
 |Dq m=>cases b with
  |Dq p=>
   obtain⟨t,Cs⟩:=hx.Od;obtain⟨u,Cs⟩:=hy.Od;exact wu h hQ
  |_=>cases h
 |_=>cases h
theorem Am.A8 {ts:AT T}:∀{xs:AT Bl},Am w fz ts xs->xs.A8=ts.A8:=by
 induction ts with
 |HU=>intro xs h;rw[show xs=[] from h];rfl
 |Dc t ts ih=>intro xs h;exact h.Dk λy h=>h.Dk λys h=>h.1▸FY (· +1) (ih h.2.2)
theorem Ac.A8 {σ:Sg} {ts:AT V}:∀{xs:AT Bl},Ac w σ ts xs->xs.A8=ts.A8:=by
 induction ts with
 |HU=>intro xs h;rw[show xs=[] from h];rfl
 |Dc t ts ih=>intro xs h;exact h.Dk λy h=>h.Dk λys h=>h.1▸FY (· +1) (ih h.2.2)
theorem Am.vs {σ:Sg} {ts:AT T}:∀{xs:AT Bl},Am w σ.fz ts xs->Ac w σ (ZW ts) xs:=by
 induction ts with
 |HU=>exact id
 |Dc t ts ih=>intro xs h;exact h.Dk λy h=>h.Dk λys h=>⟨y,ys,h.1,h.2.1,ih h.2.2⟩
theorem Ac.ts {σ:Sg} {vs:AT V}:∀{ts:AT T} {xs:AT Bl},Ac w σ vs xs->EI vs=A9 ts->Am w σ.fz ts xs:=by
 induction vs with
 |HU=>intro ts xs h e;exact Bq.A9.Ky e▸h
 |Dc v vs ih=>
  intro ts xs h e;refine ob e λt e1 e=>ob e λts' e2 e=>Bq.A9.Ky e▸h.Dk λy h=>h.Dk λys h=>⟨y,ys,h.1,?_,ih h.2.2 e2⟩;exact bB (q:=λv=>Ad w σ v y->Ah w σ.fz t y) e1 id h.2.1
theorem l8 {X:Fx} {σ:Sg} {CL:Qp} {ve:Ag} {cs:St} {h:Ev} {v:V} {c:C} {x:Bl} (R:`n h) (hv:Ad w σ v x) (e:Ng cs v=A9 c) {q:Prop}
  (k:∀p os,x= .C9 p.1->Bf w σ p c os->(∀o∈os,h.D7 o.1=A9 o.2/\σ.gr.D7 o.1=BH)->q):q:=by
 obtain⟨m,ml,G2,r⟩:=R;refine ob e λi e1 e=>dI (q:=λv=>Ad w σ v x->q) e1 (λhv=> ?_) hv;obtain⟨p,hp,hx⟩:=hv;obtain⟨p',os,hp',hr,hm⟩:=r.J2.J7 e;cases hp.Hl.CX hp';exact k p os hx hr λo ho=>⟨(r.N _ (aC.Lq (.HX (hm _ ho)))).1,(r.N _ (aC.Lq (.HX (hm _ ho)))).2.2⟩
theorem AZ.WC {X:Fx} {σ:Sg} {CL:Qp} {ve:Ag} {cs:St} {h:Ev} (R:`n h) {a:EA} {o:KJ} (hm:(a,o)∈σ.fz):h.D7 a=A9 o/\σ.gr.D7 a=BH:=by
 obtain⟨m,ml,G2,r⟩:=R;exact⟨(r.N _ (aC.Lq (.G4 (.G4 hm)))).1,(r.N _ (aC.Lq (.G4 (.G4 hm)))).2.2⟩
def FC (w:FX) (σ:Sg) (h:Ev) (vs:AT V) (x:Bl):Prop:=∃a xs n,x= .C9 a/\h.D7 a=A9 (AO xs n)/\Ac w σ vs xs
theorem bv {X:Fx} {σ:Sg} {CL:Qp} {ve:Ag} {cs:St} {h:Ev} {v:V} {vs:AT V} {x:Bl} (R:`n h) (hv:Ad w σ v x) (e:AX cs v=A9 vs):
  FC w σ h vs x:=by
 have ofT:∀{t:T} {ts},Ah w σ.fz t x->Gh t=A9 ts->FC w σ h `aB x:=λ{t ts} hr e=>n5 (q:=λt=>Ah w σ.fz t x->FC w σ h `aB x) e (λhr=>by
  obtain⟨a,xs,n,e1,e2,e3⟩:=hr.lst_inv;exact⟨a,xs,n,e1,(R.WC e2).1,e3.vs⟩) hr
 refine aF (P:=(· =A9 vs)) e (λt e1 e=>bB (q:=λv=>Ad w σ v x->FC w σ h vs x) e1 (λhv=>ob e λts e2 e=>Bq.A9.Ky e▸ofT hv e2) hv) λe=>ob e λc e1 e=>l8 R hv e1 λp os hx hr hm=> ?_;refine aF (P:=(· =A9 vs)) e (λl e3 e=>nF (q:=λc=>Bf w σ p c os->FC w σ h vs x) e3 (λhr=> ?_) hr) λe=>ob e λt e3 e=>ob e λts e4 e=>l9 (q:=λc=>Bf w σ p c os->FC w σ h vs x) e3 (λhr=>Bq.A9.Ky e▸ofT (hx▸hr.2) e4) hr;obtain⟨xs,n,e1,e2⟩:=hr;exact⟨_,xs,n,hx,(hm _ (by rewrite [e1];exact .Jn _)).1,Bq.A9.Ky e▸e2⟩
theorem ae {h:Ev} {a:EA} {xs:AT Bl} {n:BF} (e:h.D7 a=A9 (AO xs n)):h.WK a xs.E6:=⟨_,e,Cs,n,Cs⟩
theorem cq {X:Fx} {σ:Sg} {CL:Qp} {ve:Ag} {cs:St} {v:V} {b:CV} {x:Bl} {Q:CV->CW->Prop} (R:`b s) (hv:Ad w σ v x) (e:F9 cs v=A9 b) (hQ:∀tk,Q b {s with Dp:=tk}):
  `a A (truthy x) Q E s:=by
 refine aF (P:=(· =A9 b)) e (λc e1 e=>pW (q:=λv=>Ad w σ v x->`a A (truthy x) Q E s) e1 (λhv=> ?_) hv) λe=>ob e λvs hl e=> ?_
 .rw[Ah.VT (w:=w) (fz:=σ.fz) hv,Bq.A9.Ky e]
  exact Rj (hQ s.Dp)
 .obtain⟨a,xs,n,hx,ha,hr⟩:=bv R.1 hv hl
  rw[hx];have N9:=hr.A8;cases vs with
  |HU=>
   cases e
   obtain rfl:xs=[]:=hr
   exact wpAny_truthy_list (ae ha) (by decide) (hQ _)
  |Dc v r=>
   refine dj e λhb e=> ?_;have hb:r.A8<=5000:=BF.Lx.mp hb;obtain⟨y,ys,e3,_,_⟩:=hr;subst e3;have N9:ys.A8+1=r.A8+1:=N9;subst e;exact wpAny_truthy_list (ae ha) (by rw[AT.JM,AT.DW];omega) (hQ _)
end
section
theorem jy {vs:AT V} {xs:AT Bl} {v:V} (rv:Ac w σ vs xs) (e:CR vs=A9 v) {q:AT Bl->Prop} (k:∀y,Ad w σ v y->q [y]):q xs:=by
 refine bQ (q:=λvs=>Ac w σ vs xs->q xs) e (λrv=> ?_) rv;obtain⟨y,ys,Cs,r1,r2⟩:=rv
 obtain rfl:ys=[]:=r2
 exact k y r1
section
variable {v:V} {y:Bl} {q:Bl->Prop}
theorem y8 (r:Ad w σ v y) {n:Dt} (e:ZY v=A9 n) (k:∀t,q (.D4 n t)):q y:=by
 refine zg (q:=λv=>Ad w σ v y->q y) e (λr=> ?_) r;obtain⟨t,Cs⟩:=Ah.LO (w:=w) (fz:=σ.fz) r;exact k t
theorem xB (r:Ad w σ v y) {n:Dr} (e:ZX v=A9 n) (k:∀t,q (.Dq n t)):q y:=by
 refine pV (q:=λv=>Ad w σ v y->q y) e (λr=> ?_) r;obtain⟨t,Cs⟩:=Ah.Od (w:=w) (fz:=σ.fz) r;exact k t
theorem rvB (r:Ad w σ v y) {n:CV} (e:ZZ v=A9 n) (k:q (.G6 n)):q y:=by
 refine pW (q:=λv=>Ad w σ v y->q y) e (λr=> ?_) r;rw[Ah.VT (w:=w) (fz:=σ.fz) r];exact k
end
theorem zt {vs:AT V} {xs:AT Bl} (rv:Ac w σ vs xs) (e:CZ vs=Bj) {q:AT Bl->Prop} (k:q []):q xs:=by
 refine dY (q:=λvs=>Ac w σ vs xs->q xs) e (λrv=> ?_) rv
 obtain rfl:xs=[]:=rv
 exact k
theorem xC {vs:AT V} {xs:AT Bl} {p:V×V} (rv:Ac w σ vs xs) (e:E9 vs=A9 p) {q:AT Bl->Prop} (k:∀y z,Ad w σ p.1 y->Ad w σ p.2 z->q [y,z]):q xs:=by
 refine da (q:=λvs=>Ac w σ vs xs->q xs) e (λrv=> ?_) rv;obtain⟨y,ys,Cs,r1,z,zs,Cs,r2,r3⟩:=rv
 obtain rfl:zs=[]:=r3
 exact k y z r1 r2
end
def X8 (fz:BR):Prop:=∀a o o',(a,o)∈fz->(a,o')∈fz->o=o'
section
variable {fz:BR}
theorem bV {n:BF} {a b:T} {c:CV} (h:GV (n+1) a b=A9 c) {q:T->T->CV->Prop} (k1:∀x y,q (.D4 x) (.D4 y) (HS x y)) (k2:∀x y,q (.Dq x) (.Dq y) (KH x y))
  (k3:∀x y,FB (GV n) x y=A9 c->q (.Ld x) (.Ld y) c) (k4:q .Kr .Kr Bj):q a b c:=
 aF (P:=(· =A9 c)) h (λx e h=>ob h λy e2 h=>Bq.A9.Ky h▸ba (q:=λa=>q a b (HS x y)) e (ba (q:=λb=>q (.D4 x) b (HS x y)) e2 (k1 x y))) λh=>
 aF (P:=(· =A9 c)) h (λx e h=>ob h λy e2 h=>Bq.A9.Ky h▸bp (q:=λa=>q a b (KH x y)) e (bp (q:=λb=>q (.Dq x) b (KH x y)) e2 (k2 x y))) λh=>
 aF (P:=(· =A9 c)) h (λx e h=>ob h λy e2 h=>c6 (q:=λa=>q a b c) e (c6 (q:=λb=>q (.Ld x) b c) e2 (k3 x y h))) λh=>
 dj h λe h=>h▸cj (q:=λa=>q a b Bj) (CV.Kf.mp e).1 (cj (q:=λb=>q .Kr b Bj) (CV.Kf.mp e).2 k4)
theorem jE {xs ys:AT Bl} (h:DX xs=DX ys):xs=ys:=by
 have:xs.E6=ys.E6:=by
  have:=FY KJ.KA h
  simpa [DX] using F4
 simpa using F4
theorem gN {f:T->T->Bq CV} (hf:∀{a b:T} {x:Bl} {c:CV},Ah w fz a x->Ah w fz b x->f a b=A9 c->c=Bj) {as:AT T}:
  ∀{bs:AT T} {xs:AT Bl} {c:CV},Am w fz as xs->Am w fz bs xs->FB f as bs=A9 c->c=Bj:=by
 induction as with
 |HU=>intro b xs c _ _ h;cases b with
  |HU=>exact(Bq.A9.Ky h).Hl
  |Dc _ _=>cases h
 |Dc a as ih=>intro b xs c r1 r2 h;cases b with
  |HU=>cases h
  |Dc b bs=>
   refine ob h λx q1 h=>ob h λy q2 h=> ?_;obtain⟨y,ys,Cs,h1,h2⟩:=r1;obtain⟨y',ys',e,h3,h4⟩:=r2;cases e;rw[<-Bq.A9.Ky h,hf h1 h3 q1,ih h2 h4 q2];rfl
theorem th (one:X8 fz) (n:BF):∀{a b:T} {x:Bl} {c:CV},Ah w fz a x->Ah w fz b x->GV n a b=A9 c->c=Bj:=by
 induction n with
 |Xb=>intro _ _ _ _ _ _ h;cases h
 |Ww n ih=>
  intro a b x c ha hb h;refine bV (q:=λa b c=>Ah w fz a x->Ah w fz b x->c=Bj) h (λm k ha hb=> ?_) (λm k ha hb=> ?_) (λas bs h ha hb=> ?_) (λ_ _=>rfl) ha hb
  .obtain⟨t,e1⟩:=ha.LO;obtain⟨u,e⟩:=hb.LO;cases e1.Hl.CX e;exact lZ.Lq rfl
  .obtain⟨t,e1⟩:=ha.Od;obtain⟨u,e⟩:=hb.Od;cases e1.Hl.CX e;exact aB.Lq rfl
  .obtain⟨p,xs,e1,m1,r1⟩:=ha.Qx
   obtain⟨q,ys,e,m2,r2⟩:=hb.Qx;cases e1.Hl.CX e;exact gN ih r1 (jE (one _ _ _ m1 m2)▸r2) h
def Uz (A:Ke) (s:CW) (xs ys:AT Bl) (c:CV):Prop:=
 ∃e:BF->CV,(∀j (h1:j<xs.A8) (h2:j<ys.A8),EqAt A s xs[j] ys[j] (e j))/\c=(AT.range xs.A8).VG e/\xs.A8=ys.A8
theorem iC {f:T->T->Bq CV} {A:Ke} (hf:∀{a b:T} {x y:Bl} {c:CV},Ah w fz a x->Ah w fz b y->f a b=A9 c->EqAt A s x y c) {as:AT T}:
  ∀{bs:AT T} {xs ys:AT Bl} {c:CV},Am w fz as xs->Am w fz bs ys->FB f as bs=A9 c->Uz A s xs ys c:=by
 induction as with
 |HU=>intro b xs ys c r1 r2 h;cases b with
  |HU=>
   obtain rfl:xs=[]:=r1
   obtain rfl:ys=[]:=r2
   exact⟨λ_=>Bj,λj h1=>Ks h1 (BF.Q4 _),(Bq.A9.Ky h).Hl,Cs⟩
  |Dc _ _=>cases h
 |Dc a as ih=>intro b xs ys c r1 r2 h;cases b with
  |HU=>cases h
  |Dc b bs=>
   refine ob h λc1 q1 h=>ob h λc2 q2 h=> ?_;obtain⟨x,xs,Cs,h1,h2⟩:=r1;obtain⟨y,ys,Cs,h3,h4⟩:=r2;obtain⟨e,e1,e2,e3⟩:=ih h2 h4 q2;refine⟨λj=>match j with|0=>c1|j+1=>e j,λj g1 g2=> ?_,?_,FY (· +1) e3⟩
   .cases j with
    |Xb=>exact hf h1 h3 q1
    |Ww j=>exact e1 j (BF.Vd g1) (BF.Vd g2)
   .rw[AT.DW,AT.range_succ_eq_map,AT.RU,AT.all_map,<-Bq.A9.Ky h,e2]
    rfl
theorem qA {A:Ke} {xs ys:AT Bl} {c:CV} (r:Uz A.in1 s xs ys c) {q:Prop} (k:∀e,(∀j (g1:j<xs.E6.Id) (g2:j<ys.E6.Id),EqAt A.in1 s xs.E6[j] ys.E6[j] (e j))->
  c=((AT.range (min xs.E6.Id ys.E6.Id)).VG e&&xs.E6.Id==ys.E6.Id)->q):q:=by
 obtain⟨e,e1,e2,e3⟩:=r;exact k e (λj g1 g2=>e1 j g1 g2) (by rw[e2];simp[e3])
theorem iO (p q:Dr):KH p q=decide (p=q):=by
 by_cases e:p=q
 .rw[GO e];exact aB.Lq e
 .rw[H5 e];exact bz.Lq e
theorem jo (a b:Dt):HS a b=(a==b):=by unfold HS;by_cases h:a=b<;>simp[h]
theorem yD (one:X8 fz) (W3:∀p∈fz,s.Dn.D7 p.1=A9 p.2) (n:BF):∀{A:Ke} {a b:T} {x y:Bl} {c:CV},Ah w fz a x->Ah w fz b y->GV n a b=A9 c->A.LL+n<VV->EqAt A s x y c:=by
 induction n with
 |Xb=>intro _ _ _ _ _ _ _ _ h;cases h
 |Ww n ih=>
  intro A a b x y c ha hb h hu;refine bV (q:=λa b c=>Ah w fz a x->Ah w fz b y->EqAt A s x y c) h (λm k ha hb=> ?_) (λm k ha hb=> ?_) (λas bs h ha hb=> ?_) (λha hb=>by rw[ha.Vt,hb.Vt];exact EqAt.same _) ha hb
  .obtain⟨t,e1⟩:=ha.LO;obtain⟨u,e2⟩:=hb.LO
   rw[e1,e2,jo];exact(MeetsSeq.EqGives.D4 m k t u).at A s
  .obtain⟨t,e1⟩:=ha.Od;obtain⟨u,e2⟩:=hb.Od
   rw[e1,e2,iO]
   exactλFZ w' E Q hq=>VW hq
  .obtain⟨p,xs,e1,m1,r1⟩:=ha.Qx
   obtain⟨q,ys,e2,m2,r2⟩:=hb.Qx;rw[e1,e2]
   by_cases hpq:p=q
   .subst hpq
    rw[gN (th one n) r1 (jE (one _ _ _ m1 m2)▸r2) h];exact EqAt.same _
   .refine qA (iC (λh1 h3 q1=>ih (A:=A.in1) h1 h3 q1 (by show A.LL+1+n<VV;omega)) r1 r2 h) λe hj ec=> ?_
    rw[ec];exact EqAt.of_refs hpq (RcAt.tuples ⟨_,W3 _ m1,Cs,0,Cs⟩ ⟨_,W3 _ m2,Cs,0,Cs⟩ (·) hj)
end
section
theorem AZ.W3 {h:Ev} (R:`n h):∀p∈σ.fz,h.D7 p.1=A9 p.2:=by
 obtain⟨m,ml,G2,r⟩:=R
 exactλp hp=>(r.N p (aC.Lq (.G4 (.G4 hp)))).1
theorem AZ.one {h:Ev} (R:`n h):X8 σ.fz:=λa o o' h1 h2=>by
 have e1:=R.W3 _ h1;have e2:=R.W3 _ h2;exact Bq.A9.Ky (e1.Hl.CX e2)
theorem mD (a b:Dr):KH a b=(a==b):=by
 by_cases e:a=b
 .subst e;rw[aB.Lq rfl];simp
 .rw[bz.Lq e];simp[e]
theorem mf (a b:CV):Hf a b=(a==b):=by cases a<;>cases b<;>rfl
def NX (A:Ke) (s:CW) (x y:Bl) (c:CV):Prop:=RcAt A s x y c/\Xd A s x y (!c)
theorem yC (R:`b s) {n:BF} {a b:T} {x y:Bl} {c:CV} (ha:Ah w σ.fz a x) (hb:Ah w σ.fz b y) (h:GV (n+1) a b=A9 c) (hu:A.LL+(n+1)<VV):NX A s x y c:=by
 refine bV (q:=λa b c=>Ah w σ.fz a x->Ah w σ.fz b y->NX A s x y c) h (λm k ha hb=> ?_) (λm k ha hb=> ?_) (λas bs h ha hb=> ?_) (λha hb=>by rw[ha.Vt,hb.Vt];exact⟨RcAt.none_none,Xd.none_none⟩) ha hb
 .obtain⟨t,e1⟩:=ha.LO;obtain⟨u,e2⟩:=hb.LO
  rw[e1,e2,jo];exact⟨RcAt.int_int _ _ _ _,Xd.int_int _ _ _ _⟩
 .obtain⟨t,e1⟩:=ha.Od;obtain⟨u,e2⟩:=hb.Od
  rw[e1,e2,mD];exact⟨RcAt.str_str _ _ _ _,Xd.str_str _ _ _ _⟩
 .obtain⟨p,xs,e1,m1,r1⟩:=ha.Qx
  obtain⟨q,ys,e2,m2,r2⟩:=hb.Qx;rw[e1,e2];refine qA (iC (λh1 h3 q1=>yD R.1.one R.1.W3 n (A:=A.in1) h1 h3 q1 (by show A.LL+1+n<VV;omega)) r1 r2 h) λe hj ec=> ?_;rw[ec];exact⟨RcAt.tuples ⟨_,R.1.W3 _ m1,Cs,0,Cs⟩ ⟨_,R.1.W3 _ m2,Cs,0,Cs⟩ (·) hj,Xd.tuples ⟨_,R.1.W3 _ m1,Cs,0,Cs⟩ ⟨_,R.1.W3 _ m2,Cs,0,Cs⟩ (·) hj⟩
theorem rF {u v:AT V} {x y:Bl} {c:CV} (h1:FC w σ s.Dn u x) (h2:FC w σ s.Dn v y) (h:NB u v=A9 c) (hu:A.LL+20<VV):NX A s x y c:=by
 obtain⟨p,xs,n,e1,h1,r1⟩:=h1;obtain⟨q,ys,m,e2,h3,r2⟩:=h2;rw[e1,e2];cases v with
 |Dc _ _=>cases h
 |HU=>
  cases h
  obtain rfl:ys=[]:=r2
  cases u with
  |HU=>
   obtain rfl:xs=[]:=r1
   exact⟨RcAt.lists (e:=λ_=>Bj) (ae h1) (ae h3) rfl (·) λj g=>Ks g (BF.Q4 _),Xd.lists (e:=λ_=>Bj) (ae h1) (ae h3) rfl (·) λj g=>Ks g (BF.Q4 _)⟩
  |Dc _ _=>
   obtain⟨z,zs,Cs,_,_⟩:=r1;exact⟨RcAt.lists_lengths (ae h1) (ae h3) (by simp) (·),Xd.lists_lengths (ae h1) (ae h3) (by simp) (·)⟩
theorem tg (R:`b s) {a b:V} {x y:Bl} {c:CV} (ha:Ad w σ a x) (hb:Ad w σ b y) (h:Nd cs a b=A9 c) (hu:A.LL+20<VV):NX A s x y c:=
 aF (P:=(· =A9 c)) h (λu e h=>ob h λv e2 h=>rF (bv R.1 ha e) (bv R.1 hb e2) h hu) λh=>
 aF (P:=(· =A9 c)) h (λu e h=>ob h λv e2 h=>rvB (q:=λx=>NX A s x y c) ha e (rvB (q:=λy=>NX A s (.G6 u) y c) hb e2 (by
  rw[<-Bq.A9.Ky h,mf];exact⟨RcAt.bool_bool _ _,Xd.bool_bool _ _⟩))) λh=>
 ob h λu e h=>ob h λv e2 h=>bB (q:=λa=>Ad w σ a x->NX A s x y c) e (λha=>bB (q:=λb=>Ad w σ b y->NX A s x y c) e2 (λhb=>yC R ha hb h (·)) hb) ha
def isInt (n:Dt):Bl->CV
 | .D4 m _=>m==n
 |_=>Be
def EF (u:Dr):Bl->CV
 | .Dq m _=>m==u
 |_=>Be
def EK (A:Ke) (s:CW) (x:Bl) (f:Bl->CV) (xs:AT Bl) (b:CV):Prop:=(∀y∈xs,EqAt A s y x (f y))/\b=xs.Xa f
theorem iD {fz:BR} {A:Ke} {a:T} {x:Bl} {f:Bl->CV} (hf:∀{t y c},Ah w fz t y->GV TM t a=A9 c->EqAt A s y x c/\c=f y) {ts:AT T}:∀{xs:AT Bl} {b:CV},Am w fz ts xs->Iy a ts=A9 b->EK A s x f xs b:=by
 induction ts with
 |HU=>intro xs b r h;rw[show xs=[] from r];exact⟨λy hy=>(nomatch hy),(Bq.A9.Ky h).Hl⟩
 |Dc t ts ih=>
  intro xs b r h;refine ob h λc1 q1 h=>ob h λc2 q2 h=> ?_;obtain⟨y,ys,Cs,h1,h2⟩:=r;have g:=ih h2 q2;have f1:=hf h1 q1;refine⟨λz hz=> ?_,by rw[AT.any_cons,<-g.2,<-f1.2,Bq.A9.Ky h]⟩;rcases AT.GZ.mp hz with e|hz
  .rw[e,<-f1.2];exact f1.1
  .exact g.1 z hz
theorem rn {fz:BR} {n:Dt} {t:Tok} {A:Ke} {ts:AT T} {xs:AT Bl} {b:CV} (r:Am w fz ts xs) (h:Iy (.D4 n) ts=A9 b):EK A s (.D4 n t) (isInt n) xs b:=by
 refine iD (λ{t' y c} r h=> ?_) r h;refine bV (q:=λa b c=>Ah w fz a y->b= .D4 n->EqAt A s y (.D4 n t) c/\c=isInt n y) h (λm k r e=> ?_) (λ_ _ _ e=>by cases e) (λ_ _ _ _ e=>by cases e) (λ_ e=>by cases e) r rfl
 obtain rfl:=(T.D4.Ky e).Hl
 obtain⟨u,e⟩:=r.LO;rw[e,jo];exact⟨(MeetsSeq.EqGives.D4 m n u t).at A s,Cs⟩
theorem rm {fz:BR} {n:Dr} {t:Tok} {A:Ke} {ts:AT T} {xs:AT Bl} {b:CV} (r:Am w fz ts xs) (h:Iy (.Dq n) ts=A9 b):EK A s (.Dq n t) (EF n) xs b:=by
 refine iD (λ{t' y c} r h=> ?_) r h;refine bV (q:=λa b c=>Ah w fz a y->b= .Dq n->EqAt A s y (.Dq n t) c/\c=EF n y) h (λ_ _ _ e=>by cases e) (λm k r e=> ?_) (λ_ _ _ _ e=>by cases e) (λ_ e=>by cases e) r rfl
 obtain rfl:=(T.Dq.Ky e).Hl
 obtain⟨u,e⟩:=r.Od;rw[e];refine⟨?_,mD m n⟩;rw[iO]
 exactλFZ w' E Q hq=>VW hq
def ME (w:FX) (σ:Sg) (h:Ev) (cs:St) (v:V) (vs:AT V) (x:Bl):Prop:=
 ∃a xs,x= .C9 a/\Ac w σ vs xs/\((∃ts,v= .t (.Ld ts)/\vs=ZW ts/\h.D7 a=A9 (DX xs))\/(AX cs v=A9 vs/\∃n,h.D7 a=A9 (AO xs n)))
theorem cJ {h:Ev} {v:V} {vs:AT V} {x:Bl} (R:`n h) (hv:Ad w σ v x) (e:BW cs v=A9 vs):ME w σ h cs v vs x:=by
 refine aF (P:=(· =A9 vs)) e (λts e1 e=>mq (q:=λv=>Ad w σ v x->ME w σ h cs v vs x) e1 (λhv=> ?_) hv) λe=> ?_
 .obtain⟨a,xs,e1,m1,r1⟩:=Ah.Qx (w:=w) (fz:=σ.fz) hv
  cases e;exact⟨a,xs,e1,r1.vs,.HX ⟨_,Cs,Cs,R.W3 _ m1⟩⟩
 .obtain⟨a,xs,n,e1,h1,h2⟩:=bv R hv e
  exact⟨a,xs,e1,h2,.G4 ⟨e,n,h1⟩⟩
theorem vr {a:T} (h:OW a=Bj) {q:T->Prop} (k1:∀x,q (.Dq x)) (k2:∀x,q (.D4 x)):q a:=
 aF (P:=(· =Bj)) h (λx e _=>bp e (k1 x)) λh=>aF (P:=(· =Bj)) h (λx e _=>ba e (k2 x)) λh=>by cases h
theorem sn {neg:CV} (R:`b s) {a:T} {cv:V} {x y:Bl} {b:CV} {vs:AT V} {ts:AT T} (ha:Ah w σ.fz a x) (hc:Ad w σ cv y) (e1:BW cs cv=A9 vs) (e2:EI vs=A9 ts)
  (hk:OW a=Bj) (h:Iy a ts=A9 b) {Q:Bl->CW->Prop} (hQ:Q (.G6 (if neg then !b else b)) s):
  `a A (Kl (if neg then .WI else .In) x y) Q E s:=by
 obtain⟨p,xs,Cs,r1,r2⟩:=cJ R.1 hc e1;have rt:=r1.ts e2;have K7:∀e:Bl->CV,EK A.in1 s x e xs b->`a A (Kl (if neg then .WI else .In) x (.C9 p)) Q E s:=λe g=>by
  have g3:b=xs.E6.Xa e:=by rw[g.2];simp
  have g4:∀z∈xs.E6,EqAt A.in1 s z x (e z):=λz hz=>g.1 z (by simpa using hz);rcases r2 with⟨_,_,_,q⟩|⟨_,n,q⟩
  .have t1:s.Dn.IsTuple p xs.E6:=⟨_,q,Cs,0,Cs⟩
   cases neg with
   |Be=>exact in_tupleAt e t1 g4 (by rw[<-g3];simpa using hQ)
   |Bj=>exact notIn_tupleAt e t1 g4 (by rw[<-g3];simpa using hQ)
  .cases neg with
   |Be=>exact in_listAt e (ae q) g4 (by rw[<-g3];simpa using hQ)
   |Bj=>exact notIn_listAt e (ae q) g4 (by rw[<-g3];simpa using hQ)
 refine vr (q:=λa=>Ah w σ.fz a x->Iy a ts=A9 b->`a A (Kl (if neg then .WI else .In) x (.C9 p)) Q E s) hk (λu ha h=> ?_) (λu ha h=> ?_) ha h
 .obtain⟨t,Cs⟩:=ha.Od
  exact K7 _ (rm rt h)
 .obtain⟨t,Cs⟩:=ha.LO
  exact K7 _ (rn rt h)
theorem r8 {v:V} {x:Bl} {b:CV} (hv:Ad w σ v x) (h:I7 v=A9 b):plainIs x .BH=Bj/\(x== .BH)=b:=by
 cases v with
 |FN i=>obtain⟨p,_,Cs⟩:=hv;cases h;exact⟨Cs,Cs⟩
 |t t=>
  have hv:Ah w σ.fz t x:=hv;cases t with
  |Kr=>rw[hv.Vt];cases h;exact⟨Cs,Cs⟩
  |G6=>rw[hv.VT];cases h;exact⟨Cs,Cs⟩
  |D4=>obtain⟨t,Cs⟩:=hv.LO;cases h;exact⟨Cs,Cs⟩
  |Dq=>obtain⟨t,Cs⟩:=hv.Od;cases h;exact⟨Cs,Cs⟩
  |Ld=>obtain⟨a,xs,Cs,_⟩:=hv.Qx;cases h;exact⟨Cs,Cs⟩
  |Dg=>obtain⟨a,xs,n,Cs,_⟩:=hv.lst_inv;cases h;exact⟨Cs,Cs⟩
  |Rv=>obtain⟨a,xs,n,Cs,_⟩:=hv.dct_inv;cases h;exact⟨Cs,Cs⟩
  |LJ=>obtain⟨a,d,xs,n,Cs,_⟩:=hv.ins_inv;cases h;exact⟨Cs,Cs⟩
  |Km y=>cases h
end
structure GD (FZ:Kt) (w:FX) (Kk:Type) [PP Kk] where
 V2:KeyKind FZ w Kk
 tk:Kk->T
 rep:∀{fz:BR} {k:Kk} {x:Bl},Ah w fz (tk k) x↔V2.is k x=Bj
 Vm:∀k,Aag w (tk k)=V2.Vm k
 eq:∀{t:T} {k:Kk} {b:CV},GV TM t (tk k)=A9 b->∃k',t=tk k'/\b=decide (k'=k)
 Ky:∀{a b:Kk},tk a=tk b->a=b
def Fn (FZ:Kt) (w:FX):GD FZ w Dr where
 V2:=strKind FZ w
 tk:= .Dq
 rep:=by
  intro fz k x
  constructor
  .intro h;obtain⟨t,Cs⟩:=h.Od;exact strKind_is FZ w k t
  .intro h;obtain⟨t,Cs⟩:=Bl.RO h;exact .Dq
 Vm:=λk=>rfl
 eq:=by
  intro t k b h;exact bV (q:=λt u b=>u= .Dq k->∃k',t= .Dq k'/\b=decide (k'=k)) h (λ_ _ e=>by cases e) (λx y e=>by obtain rfl:=T.Dq.Ky e;exact⟨x,Cs,iO x y⟩) (λ_ _ _ e=>by cases e) (λe=>by cases e) rfl
 Ky:=λh=>by cases h<;>rfl
def Gs (FZ:Kt) (w:FX):GD FZ w Dt where
 V2:=intKind FZ w
 tk:= .D4
 rep:=by
  intro fz k x
  constructor
  .intro h;obtain⟨t,Cs⟩:=h.LO;exact intKind_is FZ w k t
  .intro h;obtain⟨t,Cs⟩:=Bl.Vu h;exact .D4
 Vm:=λk=>rfl
 eq:=by
  intro t k b h;exact bV (q:=λt u b=>u= .D4 k->∃k',t= .D4 k'/\b=decide (k'=k)) h (λx y e=>by obtain rfl:=T.D4.Ky e;exact⟨x,Cs,Cs⟩) (λ_ _ e=>by cases e) (λ_ _ _ e=>by cases e) (λe=>by cases e) rfl
 Ky:=λh=>by cases h<;>rfl
section
variable {Kk:Type} [PP Kk]
theorem C2.toV {es:AT (T×T)}:∀{ds:AT Ex},C2 w σ.fz es ds->AV w σ (Aak es) ds:=by
 induction es with
 |HU=>exact id
 |Dc p es ih=>
  intro ds h;obtain⟨e,es',e1,e2,⟨e3,e4⟩,e5,e6⟩:=h;exact⟨e,es',e1,e2,⟨e3,λq hq=>(AT.KY.mp hq).Dk λq' z=>z.2▸e4 q' z.1⟩,e5,ih e6⟩
def GY (w:FX) (σ:Sg) (h:Ev) (es:AT (T×V)) (x:Bl):Prop:=∃a ds n,x= .C9 a/\h.D7 a=A9 (AK ds n)/\AV w σ es ds/\σ.gr.D7 a=BH
theorem jp {h:Ev} {v:V} {es:AT (T×V)} {x:Bl} (R:`n h) (hv:Ad w σ v x) (e:Dm cs v=A9 es):GY w σ h es x:=by
 have ofT:∀{t:T} {ts},Ah w σ.fz t x->G8 t=A9 ts->GY w σ h (Aak ts) x:=λ{t ts} hr e=>n7 (q:=λt=>Ah w σ.fz t x->GY w σ h (Aak ts) x) e (λhr=>by
  obtain⟨a,xs,n,e1,e2,e3⟩:=hr.dct_inv;exact⟨a,xs,n,e1,(R.WC e2).1,e3.toV,(R.WC e2).2⟩) hr
 refine aF (P:=(· =A9 es)) e (λt e1 e=>bB (q:=λv=>Ad w σ v x->GY w σ h es x) e1 (λhv=>ob e λts e2 e=>Bq.A9.Ky e▸ofT hv e2) hv) λe=>ob e λc e1 e=>l8 R hv e1 λp os hx hr hm=> ?_;refine aF (P:=(· =A9 es)) e (λl e3 e=>nH (q:=λc=>Bf w σ p c os->GY w σ h es x) e3 (λhr=> ?_) hr) λe=>ob e λt e3 e=>ob e λts e4 e=>l9 (q:=λc=>Bf w σ p c os->GY w σ h es x) e3 (λhr=>Bq.A9.Ky e▸ofT (hx▸hr.2) e4) hr;obtain⟨xs,n,e1,e2⟩:=hr;have g:=hm _ (by rewrite [e1];exact .Jn _);exact⟨_,xs,n,hx,g.1,Bq.A9.Ky e▸e2,g.2⟩
def Zq (w:FX) (σ:Sg) (q:Bq V) (o:Bq Bl):Prop:=match q with
 |BH=>o=BH
 |A9 v=>∃y,o=A9 y/\Ad w σ v y
def Ye (KT:GD FZ w Kk) (σ:Sg) (es:AT (T×V)) (ds:AT Ex) (u:Kk) (q:Bq V):Prop:=
 ∃Sl:AT (Kk×Bl),(∀e∈ds,∃k,KT.V2.is k e.Qt=Bj/\e.Vm=KT.V2.Vm k)/\Pairs KT.V2 ds Sl/\Sl.FW (λp=>KT.tk p.1)=es.FW (·.1)/\(Sl.FW (·.1)).Oq/\Zq w σ q (WZ Sl u)
theorem yG (KT:GD FZ w Kk) {es:AT (T×V)} {u:Kk}:∀{ds:AT Ex} {q:Bq V},AV w σ es ds->Dh (KT.tk u) es=A9 q->Ye KT σ es ds u q:=by
 induction es with
 |HU=>
  intro ds q r h;rw[show ds=[] from r,<-Bq.A9.Ky h];exact⟨[],λe he=>(nomatch he),.HU,Cs,.HU,Cs⟩
 |Dc p es ih=>
  intro ds q r h;obtain⟨e,ds,Cs,e2,⟨e3,e4⟩,e5,e6⟩:=r;refine ob h λb q1 h=>ob h λq' q2 h=> ?_;obtain⟨k',hk',hb⟩:=KT.eq q1;obtain⟨Sl,g1,g2,g3,g4,g5⟩:=ih e6 q2;have hk:=KT.rep.mp (hk'▸e2);have hn:k'∉Sl.FW (·.1):=λhm=>by
   obtain⟨z,hz,hz2⟩:=AT.KY.mp hm
   have:KT.tk z.1∈es.FW (·.1):=g3▸AT.Ib (f:=λp:Kk×Bl=>KT.tk p.1) hz
   exact(AT.KY.mp F4).Dk λy hy=>e4 y hy.1 (by rw[hy.2,hz2,hk'])
  refine⟨(k',e.W4)::Sl,λd hd=> ?_,.Dc hk rfl g2,by rw[AT.JS,AT.JS,g3,hk'],by rw[AT.JS];exact AT.Kv.Lq ⟨hn,g4⟩,?_⟩
  .rcases AT.GZ.mp hd with rfl|hd
   .exact⟨k',hk,by rw[e3,hk',KT.Vm]⟩
   .exact g1 d hd
  .unfold WZ at g5⊢
   rw[AT.find?_cons,<-Bq.A9.Ky h]
   by_cases hku:k'=u
   .rw[hb,GO hku]
    exact⟨e.W4,Cs,e5⟩
   .rw[hb,H5 hku]
    exact g5
theorem cS {h:Ev} {a:EA} {ds:AT Ex} {n:BF} {KT:GD FZ w Kk} {Sl:AT (Kk×Bl)} (e:h.D7 a=A9 (AK ds n)) (g1:∀e∈ds,∃k,KT.V2.is k e.Qt=Bj/\e.Vm=KT.V2.Vm k) (g2:Pairs KT.V2 ds Sl) (g4:(Sl.FW (·.1)).Oq):
  h.DictOf KT.V2 a Sl:=⟨_,ds.E6,n,e,⟨Cs,Cs,Cs⟩,Cs,λe he=>g1 e (by simpa using he),g2,g4⟩
theorem zq {K:Lo} (H:C5 K X) (T:QO (Bo X) X.h₀ σ.gr) (hs:(K.H6 Lm).KQ=Bj) {a:EA} (e:σ.gr.D7 a=BH):(a==Lm)=Be:=by
 obtain⟨o,ho⟩:=Bq.Vv.mp hs
 have:=H.turn T (H.KX _ _ ho)
 simp only[LD];intro q;rw[q,F4] at e;cases e
theorem ku {fz:BR} {ts:AT T}:∀{ns:AT Dt} {xs:AT Bl},CS ts=A9 ns->Am w fz ts xs->ItemsAre (intKind FZ w) ns xs:=by
 induction ts with
 |HU=>intro ns xs h r;rw[<-Bq.A9.Ky h,show xs=[] from r];exact .HU
 |Dc t ts ih=>
  intro ns xs h r;refine ob h λn e h=>ob h λl q h=> ?_;obtain⟨y,ys,e1,h1,h2⟩:=r;refine ba (q:=λt=>Ah w fz t y->_) e (λh1=> ?_) h1;obtain⟨t,e2⟩:=h1.LO;rw[<-Bq.A9.Ky h,e1,e2];exact .Dc (intKind_is FZ w n t) (ih q h2)
theorem iF (FZ:Kt) {fz:BR} {h:Ev} (W3:∀p∈fz,h.D7 p.1=A9 p.2) {ts:AT T} {ns:AT Dt} {x:Bl} (e:CS ts=A9 ns) (r:Ah w fz (.Ld ts) x):∃a,x= .C9 a/\IsTupleKey (intKind FZ w) h ns a:=by
 obtain⟨a,xs,Cs,m1,r1⟩:=r.Qx;exact⟨a,Cs,_,xs.E6,0,W3 _ m1,Cs,Cs,by simpa using ku e r1⟩
theorem oS {a:AT T}:∀{b:AT T} {ns:AT Dt},CS a=A9 ns->CS b=A9 ns->a=b:=by
 induction a with
 |HU=>
  intro b ns h1 h2;cases b with
  |HU=>rfl
  |Dc t b=>exact ob h2 λn e h=>ob h λl q h=>by cases Bq.A9.Ky (h1.CX h.Hl)
 |Dc t a ih=>
  intro b ns h1 h2;cases b with
  |HU=>exact ob h1 λn e h=>ob h λl q h=>by cases Bq.A9.Ky (h2.CX h.Hl)
  |Dc t' b=>
   refine ob h1 λn e1 h=>ob h λl q1 h=>ob h2 λn' e2 h'=>ob h' λl' q2 h'=> ?_;have e:=Bq.A9.Ky (h.CX h'.Hl)
   injection e with ea eb
   subst ea eb;rw[ih q1 q2,ba (q:=λt=>t= .D4 n) e1 rfl,ba (q:=λt=>t= .D4 n) e2 rfl]
theorem gO {f:T->T->Bq CV} (hf:∀a n b,f a (.D4 n)=A9 b->∃m,a= .D4 m/\b=decide (m=n)) {as:AT T}:∀{bs:AT T} {ns:AT Dt} {b:CV},CS bs=A9 ns->FB f as bs=A9 b->∃ms,CS as=A9 ms/\b=decide (ms=ns):=by
 induction as with
 |HU=>intro bs ns b h1 h2;cases bs with
  |HU=>cases h1;cases h2;exact⟨[],Cs,Cs⟩
  |Dc _ _=>cases h2
 |Dc a as ih=>intro bs ns b h1 h2;cases bs with
  |HU=>cases h2
  |Dc t bs=>
   refine ob h1 λn e1 h=>ob h λl q1 h=>ob h2 λc1 e2 h'=>ob h' λc2 q2 h'=> ?_;obtain⟨m,em,ec⟩:=hf a n c1 (ba (q:=λt=>f a t=A9 c1->f a (.D4 n)=A9 c1) e1 id e2);obtain⟨ms,g1,g2⟩:=ih q1 q2;refine⟨m::ms,by rw[em];unfold CS;rw[g1];rfl,?_⟩;rw[<-Bq.A9.Ky h',<-Bq.A9.Ky h,ec,g2]
   by_cases e1:m=n<;>by_cases e2:ms=l<;>simp[e1,e2]
def Yf (FZ:Kt) (w:FX) (σ:Sg) (h:Ev) (es:AT (T×V)) (ds:AT Ex) (ns:AT Dt) (q:Bq V):Prop:=
 ∃xs:AT (AT Dt×EA×Bl),ds=xs.FW (V9 (Sn `ae))/\(∀x∈xs,IsTupleKey `ae h x.1 x.2.1)/\(xs.FW (·.1)).Oq/\(∀x∈xs,∃ts,CS ts=A9 x.1/\T.Ld ts∈es.FW (·.1))/\
  (match q with
   |BH=>atKey xs ns=BH
   |A9 v=>∃a y,atKey xs ns=A9 (a,y)/\Ad w σ v y)
theorem aad (FZ:Kt) {h:Ev} (W3:∀p∈σ.fz,h.D7 p.1=A9 p.2) {u:AT T} {ns:AT Dt} (hu:CS u=A9 ns) {es:AT (T×V)}:∀{ds:AT Ex} {q:Bq V},AV w σ es ds->Dh (.Ld u) es=A9 q->Yf FZ w σ h es ds ns q:=by
 induction es with
 |HU=>
  intro ds q r h;rw[show ds=[] from r,<-Bq.A9.Ky h];exact⟨[],Cs,λx hx=>(nomatch hx),.HU,λx hx=>(nomatch hx),Cs⟩
 |Dc p es ih=>
  intro ds q r h;obtain⟨k,v⟩:=p;obtain⟨e,ds,Cs,e2,⟨e3,e4⟩,e5,e6⟩:=r;refine ob h λb q1 h=>ob h λq' q2 h=> ?_;obtain⟨xs,g1,g2,g3,g4,g5⟩:=ih e6 q2;have Qt:∃kt ms,k= .Ld kt/\CS kt=A9 ms/\b=decide (ms=ns):=
   bV (q:=λa c b=>c= .Ld u->∃kt ms,a= .Ld kt/\CS kt=A9 ms/\b=decide (ms=ns)) q1 (λ_ _ e=>by cases e) (λ_ _ e=>by cases e) (λx y h e=>by
    obtain rfl:=(T.Ld.Ky e).Hl
    obtain⟨ms,m1,m2⟩:=gO (f:=GV 7) (λa n b h=>bV (q:=λa c b=>c= .D4 n->∃m,a= .D4 m/\b=decide (m=n)) h (λx y e=>by obtain rfl:=T.D4.Ky e;exact⟨x,Cs,Cs⟩) (λ_ _ e=>by cases e) (λ_ _ _ e=>by cases e) (λe=>by cases e) rfl) hu h;exact⟨x,ms,Cs,m1,m2⟩) (λe=>by cases e) rfl
  obtain⟨kt,ms,Cs,m1,m2⟩:=Qt;obtain⟨a,ha,hkey⟩:=iF FZ W3 m1 e2;have hn:ms∉xs.FW (·.1):=λhm=>by
   obtain⟨z,hz,hz2⟩:=AT.KY.mp hm;obtain⟨ts,t1,t2⟩:=g4 z hz;exact(AT.KY.mp t2).Dk λy hy=>e4 y hy.1 (by rw[hy.2,oS t1 (hz2▸m1)])
  refine⟨(ms,a,e.W4)::xs,?_,λx hx=> ?_,by rw[AT.JS];exact AT.Kv.Lq ⟨hn,g3⟩,λx hx=> ?_,?_⟩
  .rw[AT.JS,g1]
   congr 1
   obtain⟨hh,kk,vv⟩:=e;dsimp only at ha e3⊢;subst ha;unfold V9;dsimp only;have e7:Aag w (.Ld kt)=reduceHash (Kj.Oi.tupleHashOf (ms.FW hashInt)):=by
    show(match CS kt with|A9 ns=>reduceHash (Kj.Oi.tupleHashOf (ns.FW hashInt))|BH=>0)=_
    rw[m1]
   rw[e3,e7];rfl
  .rcases AT.GZ.mp hx with rfl|hx
   .exact hkey
   .exact g2 x hx
  .rcases AT.GZ.mp hx with rfl|hx
   .exact⟨kt,m1,.Jn _⟩
   .exact(g4 x hx).Dk λts z=>⟨ts,z.1,.Do _ z.2⟩
  .unfold atKey at g5⊢
   rw[AT.find?_cons,<-Bq.A9.Ky h]
   by_cases hku:ms=ns
   .rw[m2,GO hku]
    exact⟨a,e.W4,Cs,e5⟩
   .rw[m2,H5 hku]
    exact g5
end
section
variable {Kk:Type} [PP Kk]
theorem j2 {x y:Bl} {Q:Bl->CW->Prop} (h:`a A (Kl .In x y) (λv s'=>∃b,v= .G6 b/\Q (.G6 (!b)) s') E s):`a A (Kl .WI x y) Q E s:=by
 intro Γ p hΓ;have h:=h Γ p hΓ;have e1:Kl .In x y=(La y x>>=λb=>Kp (.G6 b)):=rfl;have e2:Kl .WI x y=(La y x>>=λb=>Kp (.G6 (!b))):=rfl;rw[e1,U8.wp_bind'] at h;rw[e2,U8.wp_bind'];refine U8.wp_mono _ _ _ (λb p' s' hb=> ?_) (λ_ _ _ z=>z) _ _ h;rw[U8.wp_pure'] at hb⊢;obtain⟨b',e,q⟩:=hb;cases e;exact q
inductive GB (w:FX) (FZ:Kt) (σ:Sg) (h:Ev) (A:Ke) (d:EA) (x:Bl):Bq V->Prop
 |QD {Kk:Type} [PP Kk] (KT:GD FZ w Kk) (Sl:AT (Kk×Bl)) (k:Kk) {q:Bq V} (hd:h.DictOf KT.V2 d Sl) (hk:KT.V2.is k x=Bj) (hq:Zq w σ q (WZ Sl k)):GB w FZ σ h A d x q
 |Ld (xs:AT (AT Dt×EA×Bl)) (ns:AT Dt) (a:EA) {q:Bq V} (hd:h.DictOfH (Sn `ae) d xs) (hx:x= .C9 a) (hk:IsTupleKey `ae h ns a)
   (hq:match q with|BH=>atKey xs ns=BH|A9 v=>∃a y,atKey xs ns=A9 (a,y)/\Ad w σ v y):GB w FZ σ h A d x q
theorem kc (KT:GD FZ w Kk) {d:EA} {x:Bl} {es:AT (T×V)} {ds:AT Ex} {n:BF} {k:Kk} {q:Bq V} (h1:s.Dn.D7 d=A9 (AK ds n)) (r:AV w σ es ds) (hx:KT.V2.is k x=Bj) (h:Dh (KT.tk k) es=A9 q):GB w FZ σ s.Dn A d x q:=by
 obtain⟨Sl,g1,g2,g3,g4,g5⟩:=yG KT r h;exact .QD KT Sl k (cS h1 g1 g2 g4) hx g5
theorem kg {α:Type} {a:T} {es:AT (T×α)} {q:Bq α} (h:DR a es=A9 q) {P:T->Prop} (k1:∀u,Dh (.Dq u) es=A9 q->P (.Dq u)) (k2:∀n,Dh (.D4 n) es=A9 q->P (.D4 n))
  (k3:∀ts ns,CS ts=A9 ns->Dh (.Ld ts) es=A9 q->P (.Ld ts)):P a:=by
 have hk:Ml a=Bj/\Dh a es=A9 q:=by
  unfold DR at h;cases z:Ml a with
  |Bj=>rw[z] at h;exact⟨Cs,h⟩
  |Be=>rw[z] at h;cases h
 have h:=hk.2;have hk:=hk.1;exact aF (P:=(· =Bj)) hk (λu e _=>bp (q:=λa=>Dh a es=A9 q->P a) e (k1 u) h) λhk=>
  aF (P:=(· =Bj)) hk (λu e _=>ba (q:=λa=>Dh a es=A9 q->P a) e (k2 u) h) λhk=>
  aF (P:=(· =Bj)) hk (λu e hk=>c6 (q:=λa=>Dh a es=A9 q->P a) e (λh=>aF (P:=(· =Bj)) hk (λns Xn _=>k3 u ns Xn h) λhk=>by cases hk) h) λhk=>by cases hk
theorem ja (FZ:Kt) (R:`b s) {a:T} {cv:V} {x y:Bl} {es:AT (T×V)} {q:Bq V} (ha:Ah w σ.fz a x) (hc:Ad w σ cv y) (e1:Dm cs cv=A9 es) (h:DR a es=A9 q):
  ∃d,y= .C9 d/\σ.gr.D7 d=BH/\GB w FZ σ s.Dn A d x q:=by
 obtain⟨d,ds,n,e0,h1,r,hn⟩:=jp R.1 hc e1;refine⟨d,e0,hn,?_⟩;refine kg (P:=λa=>Ah w σ.fz a x->GB w FZ σ s.Dn A d x q) h (λu h ha=>kc (Fn FZ w) h1 r ((Fn FZ w).rep.mp ha) h) (λu h ha=>kc (Gs FZ w) h1 r ((Gs FZ w).rep.mp ha) h) (λts ns Xn h ha=> ?_) ha;obtain⟨xs,g1,g2,g3,g4,g5⟩:=aad FZ (h:=s.Dn) R.1.W3 Xn r h;obtain⟨b,e,hb⟩:=iF FZ (h:=s.Dn) R.1.W3 Xn ha;exact .Ld xs ns b ⟨_,ds.E6,n,h1,⟨Cs,Cs,Cs⟩,Cs,by simpa using g1,g2,g3⟩ e hb g5
theorem sq {neg:CV} (R:`b s) {a:T} {cv:V} {x y:Bl} {es:AT (T×V)} {q:Bq V} (ha:Ah w σ.fz a x) (hc:Ad w σ cv y) (e1:Dm cs cv=A9 es) (h:DR a es=A9 q)
  (Wv:∀a,σ.gr.D7 a=BH->(a==Lm)=Be) (hu:A.LL+1<VV) {Q:Bl->CW->Prop} (hQ:∀tk,Q (.G6 (if neg then !q.KQ else q.KQ)) {s with Dp:=tk}):
  `a A (Kl (if neg then .WI else .In) x y) Q E s:=by
 obtain⟨d,Cs,hn,lk⟩:=ja (A:=A) FZ R ha hc e1 h;have hd:=Wv d hn;have HW:∀{Q:Bl->CW->Prop},(∀tk,Q (.G6 q.KQ) {s with Dp:=tk})->`a A (Kl .In x (.C9 d)) Q E s:=λ{Q} hQ=>by
  cases lk with
  |QD KT Sl k hD hk hq=>
   refine wpAny_in_of hk hd hD.mapOf ?_
   have:(WZ Sl k).KQ=q.KQ:=by
    cases q with
    |BH=>rw[hq];rfl
    |A9 v=>obtain⟨y,e,_⟩:=hq;rw[e];rfl
   rw[F4];exact hQ _
  |Ld xs ns b hD hx hk hq=>
   subst hx;refine wpAny_in_heap (V2:=Sn `ae) hu hk hd hD ?_
   have:(atKey xs ns).KQ=q.KQ:=by
    cases q with
    |BH=>rw[hq];rfl
    |A9 v=>obtain⟨b,y,e,_⟩:=hq;rw[e];rfl
   rw[F4];exact hQ _
 cases neg with
 |Be=>exact HW hQ
 |Bj=>exact j2 (HW λtk=>⟨_,Cs,hQ tk⟩)
theorem o0 (R:`b s) {a:T} {cv v:V} {x y:Bl} {es:AT (T×V)} (ha:Ah w σ.fz a x) (hc:Ad w σ cv y) (e1:Dm cs cv=A9 es) (h:DR a es=A9 (A9 v))
  (hu:A.LL+1<VV) {Q:Bl->CW->Prop} (hQ:∀z tk,Ad w σ v z->Q z {s with Dp:=tk}):`a A (getItem y x) Q E s:=by
 obtain⟨d,Cs,hn,lk⟩:=ja (A:=A) FZ R ha hc e1 h;cases lk with
 |QD KT Sl k hD hk hq=>
  obtain⟨z,e,hz⟩:=hq;exact wpAny_getItem_of hk hD.mapOf e (hQ _ _ hz)
 |Ld xs ns b hD hx hk hq=>
  obtain⟨b',z,e,hz⟩:=hq;subst hx;exact wpAny_getItem_heap (V2:=Sn `ae) hu hk hD e (hQ _ _ hz)
theorem sk (neg:CV) (R:`b s) {a b:V} {x y:Bl} {c:CV} (ha:Ad w σ a x) (hb:Ad w σ b y) (h:XP cs a b=A9 c) (Wv:∀a,σ.gr.D7 a=BH->(a==Lm)=Be) (hu:A.LL+20<VV) {Q:Bl->CW->Prop}
  (hQ:∀tk,Q (.G6 (if neg then !c else c)) {s with Dp:=tk}):`a A (Kl (if neg then .WI else .In) x y) Q E s:=by
 refine ob h λu e h=>bB (q:=λa=>Ad w σ a x->`a A (Kl (if neg then .WI else .In) x y) Q E s) e (λha=> ?_) ha;refine aF (P:=(· =A9 c)) h (λl e h=>ob h λu' e2 h=> ?_) λh=>aF (P:=(· =A9 c)) h (λvs e h=>ob h λts e2 h=>ob h λts' e3 h=>dj e3 λhk e3=>sn R ha hb e e2 hk (e3▸h) (hQ s.Dp)) λh=>
  ob h λes e h=>ob h λq e2 h=>sq R ha hb e e2 Wv (·) (Bq.A9.Ky h▸hQ)
 refine bp (q:=λu=>Ah w σ.fz u x->`a A (Kl (if neg then .WI else .In) x y) Q E s) e2 (λha=>xB (q:=λy=>`a A (Kl (if neg then .WI else .In) x y) Q E s) hb e λ_=> ?_) ha;obtain⟨t,e5⟩:=ha.Od;rw[e5];have hQ:=hQ s.Dp;rw[<-Bq.A9.Ky h] at hQ;cases neg with
 |Be=>exact Oe.WA.in_str hQ
 |Bj=>exact Oe.WA.notIn_str hQ
theorem fu {f:Dt->Dt->CV} {op:CmpOp} {a b:V} {x y:Bl} {c:CV} (ha:Ad w σ a x) (hb:Ad w σ b y) (h:Mp f a b=A9 c) {Q:Bl->CW->Prop} (hQ:Q (.G6 c) s)
  (k:∀m n t u,Q (.G6 (f m n)) s->`a A (Kl op (.D4 m t) (.D4 n u)) Q E s):`a A (Kl op x y) Q E s:=
 ob h λm e h=>ob h λn e2 h=>y8 (q:=λx=>`a A (Kl op x y) Q E s) ha e λt=>y8 (q:=λy=>`a A (Kl op (.D4 m t) y) Q E s) hb e2 λu=>k m n t u (Bq.A9.Ky h▸hQ)
theorem r9 {a b:V} {x y:Bl} {c:CV} (ha:Ad w σ a x) (hb:Ad w σ b y) (h:(wh (O2 b) a).G3 I7=A9 c):y= .BH/\plainIs x .BH=Bj/\(x== .BH)=c:=
 ob h λa' e h=>dj e λe e1=>aF (P:=(· =Bj)) e (λt e2 e=>bB (q:=λb=>Ad w σ b y->_) e2 (λhb=>cj (q:=λt=>Ah w σ.fz t y->_) e (λhb=>⟨hb.Vt,r8 (e1▸ha) h⟩) hb) hb) λe=>by cases e
theorem nA (R:`b s) {op:CmpOp} {a b:V} {x y:Bl} {c:CV} (ha:Ad w σ a x) (hb:Ad w σ b y) (h:Ej cs op a b=A9 c) (Wv:∀a,σ.gr.D7 a=BH->(a==Lm)=Be) (hu:A.LL+20<VV) {Q:Bl->CW->Prop}
  (hQ:∀tk,Q (.G6 c) {s with Dp:=tk}):`a A (Kl op x y) Q E s:=by
 cases op with
 |Eq=>exact(tg (A:=A) R ha hb h hu).1 FZ w E Q (hQ s.Dp)
 |NotEq=>exact ob h λd h1 h2=>(tg (A:=A) R ha hb h1 hu).2 FZ w E Q (Bq.A9.Ky h2▸hQ s.Dp)
 |In=>exact sk Be R ha hb h Wv hu hQ
 |WI=>exact ob h λd h1 h2=>sk Bj R ha hb h1 Wv hu (Bq.A9.Ky h2▸hQ)
 |Is=>
  have g:=r9 ha hb h;rw[g.1];exact wpAny_is_plain g.2.1 (g.2.2▸hQ s.Dp)
 |IsNot=>
  refine ob h λd h1 h2=> ?_;have g:=r9 ha hb h1;rw[g.1];exact wpAny_isNot_plain g.2.1 (g.2.2▸Bq.A9.Ky h2▸hQ s.Dp)
 |Lt=>exact fu ha hb h (hQ s.Dp) λ_ _ _ _ q=>Oe.WA.lt_int q
 |LtE=>exact fu ha hb h (hQ s.Dp) λ_ _ _ _ q=>Oe.WA.le_int q
 |Gt=>exact fu ha hb h (hQ s.Dp) λ_ _ _ _ q=>Oe.WA.gt_int q
 |GtE=>exact fu ha hb h (hQ s.Dp) λ_ _ _ _ q=>Oe.WA.ge_int q
end
section
theorem bu {h:Ev} {a:EA} {m m':Dr->Bq Bl} (x:h.Ns a m) (y:h.Ns a m'):m=m':=by
 obtain⟨o,es,ep,e1,e2,_,e3⟩:=x;obtain⟨o',es',ep',e1',e2',_,e3'⟩:=y
 obtain rfl:o=o':=Bq.A9.Ky (e1.Hl.CX e1')
 rw[e2] at e2'
 injection e2' with a b
 subst a
 funext n
 rw[<-e3,e3']
theorem AN.on (r:`j) (F':Fr σ.gr X.L h' m) (N':Pz σ.gr X.L h' (Aq X σ G2)):AN w X σ CL ve cs h' m ml G2:=by
 refine⟨F',?_,r.V0,r.J2,N',r.nd,r.bd,r.lo,r.T⟩;rcases r.lo with e|⟨e,_⟩
 .rw[e]
  have:=bu r.F.ns (e▸r.ns)
  rw[<-F4];exact F'.ns
 .obtain⟨q,hq,hq2⟩:=AT.KY.mp e
  have hm:q∈Aq X σ G2:=aC.Lq (.G4 (.HX hq));have e1:=(r.N q hm).1;have e2:=(N' q hm).1;refine r.ns.at' λo ho=> ?_;rw[<-hq2] at ho⊢;rw[e1] at ho;rw[e2,ho]
theorem Pz.Do {h₀ h:Ev} {L:EA} {a b:BR} (N:Pz h₀ L h (a++b)):Pz h₀ L h b:=λp hp=>N p (AT.Kc _ hp)
theorem AN.Qc (r:`j) {p:EA×EA} {c:C} {os:BR} (F':Fr σ.gr X.L h' m) (N':Pz σ.gr X.L h' (os++Aq X σ G2)) (hf:∀q∈os,h.D7 q.1=BH) (hnd:(os.FW (·.1)).Oq)
  (hc:Bf w `aE p c os):AZ w X `aE CL ve (cs++[c]) h':=by
 have r':=r.on F' (Pz.Do N');have e:Aq X `aE (G2++[os])=G2.H8++(os++(X.bl++σ.fz)):=by unfold Aq Sg.VS;simp[AT.F7]
 refine⟨m,ml,G2++[os],F',r'.ns,r'.V0.Ey `az,Ap.VS hc r'.J2,λq hq=> ?_,?_,λb hb=>⟨by rw[AT.DE];exact BF.QU (r.bd b hb).1,(r.bd b hb).2.Wy (r.bd b hb).1 _⟩,r.lo.Ey `az,r.T⟩
 .rw[e] at hq
  refine N' q ?_;simp only[AT.JX] at hq⊢;rw[aC];rcases hq with q1|q1|q1|q1<;>simp[q1]
 .rw[e]
  have nd:=r.nd;unfold Aq at nd;have dis:∀a∈os.FW (·.1),a∉(G2.H8++(X.bl++σ.fz)).FW (·.1):=λa ha=>by
   obtain⟨q,hq,Cs⟩:=AT.KY.mp ha;exact(r.Wo (hf q hq)).1
  rw[AT.J8] at nd dis⊢;rw[AT.J8 (l₁:=os)];rw[AT.Lj] at nd⊢;obtain⟨n1,n2,n3⟩:=nd;refine⟨n1,AT.Lj.Lq ⟨hnd,n2,λa ha b hb q=>dis a ha (AT.Kc _ (q▸hb))⟩,λa ha b hb q=> ?_⟩;rcases AT.JX.mp hb with hb|hb
  .exact dis b hb (AT.Ox _ (q▸ha))
  .exact n3 a ha b hb q
theorem AN.froz (r:`j) {a:EA} {o:KJ} (F':Fr σ.gr X.L h' m) (N':Pz σ.gr X.L h' ((a,o)::Aq X σ G2)) (hf:h.D7 a=BH):AZ w X (σ.add (a,o)) CL ve cs h':=by
 have r':=r.on F' λp hp=>N' p (.Do _ hp);have e:Aq X (σ.add (a,o)) G2=G2.H8++(X.bl++(a,o)::σ.fz):=rfl;refine⟨m,ml,G2,F',r'.ns,r'.V0.Ey (σ.Vc _),r'.J2.Ey (σ.Vc _),λq hq=>N' q ?_,?_,r.bd,r.lo.Ey (σ.Vc _),r.T⟩
 .rw[e] at hq
  simp only[AT.JX,AT.GZ] at hq⊢;rw[aC];rcases hq with q1|q1|q1|q1<;>simp[q1]
 .rw[e];exact eH (r.Wo hf).1 r.nd
theorem cD {α:Type}:∀{l:AT α} {a:α},J7 (l++[a]) l.A8=A9 a
 |[],_=>rfl
 |_::r,a=>cD (l:=r) (a:=a)
theorem dh (r:Ap w σ σ.ca cs G2) (p:EA×EA):Ad w (σ.VS p) (.FN cs.A8) (.C9 p.1):=
 ⟨p,by rw[r.A8];exact cD,Cs⟩
theorem aq {h:Ev}:h.D7 h.KL.Id=BH:=Ev.PW `M
theorem Ak.list (R:`b s):∃m G2,Fr σ.gr X.L s.Dn m/\Pz σ.gr X.L s.Dn (Aq X σ G2)/\
  ∀h' a xs n vs tk,Fr σ.gr X.L h' m->Pz σ.gr X.L h' ((a,AO xs n)::Aq X σ G2)->s.Dn.D7 a=BH->Ac w σ vs xs->
   σ.le (σ.VS (a,a))/\Ak w X (σ.VS (a,a)) CL ve (cs++[.Dg vs]) {s with Dn:=h',Dp:=tk}/\Ad w (σ.VS (a,a)) (.FN cs.A8) (.C9 a):=by
 obtain⟨⟨m,ml,G2,r⟩,hg,ho⟩:=R;refine⟨m,G2,r.F,r.N,λh' a xs n vs tk F' N' hf hr=>⟨σ.Si _,⟨?_,hg,ho⟩,dh r.J2 (a,a)⟩⟩;exact r.Qc F' (os:=[(a,AO xs n)]) N' (λq hq=>by cases AT.H9.mp hq;exact hf) (by simp) ⟨xs,n,Cs,hr.Ey `az⟩
theorem Ak.froz (R:`b s):∃m G2,Fr σ.gr X.L s.Dn m/\Pz σ.gr X.L s.Dn (Aq X σ G2)/\
  ∀h' a o tk,Fr σ.gr X.L h' m->Pz σ.gr X.L h' ((a,o)::Aq X σ G2)->s.Dn.D7 a=BH->σ.le (σ.add (a,o))/\Ak w X (σ.add (a,o)) CL ve cs {s with Dn:=h',Dp:=tk}:=by
 obtain⟨⟨m,ml,G2,r⟩,hg,ho⟩:=R;exact⟨m,G2,r.F,r.N,λh' a o tk F' N' hf=>⟨σ.Vc _,r.froz F' N' hf,hg,ho⟩⟩
theorem Ac.Le {as bs:AT V} {xs ys:AT Bl} (h1:Ac w σ as xs) (h2:Ac w σ bs ys):Ac w σ (as++bs) (xs++ys):=by
 induction as generalizing xs with
 |HU=>obtain rfl:xs=[]:=h1;exact h2
 |Dc a as ih=>
  obtain⟨z,zs,Cs,g1,g2⟩:=h1;exact⟨z,zs++ys,Cs,g1,ih g2⟩
theorem wF (R:`b s) {a b:V} {x y:Bl} {u v l:AT V} {k:KV} {an:An->Prop} {Q:Bl->CW->Prop} (ha:Ad w σ a x) (hb:Ad w σ b y) (e1:AX cs a=A9 u) (e2:AX cs b=A9 v) (e3:Nk u v=A9 l)
  (h:an (LH (.Dg l) cs k)) (hQ:`l):`a A (WJ .Add x y) Q E s:=by
 obtain⟨p,xs,n,Cs,g1,g2⟩:=bv R.1 ha e1;obtain⟨q,ys,n',Cs,g3,g4⟩:=bv R.1 hb e2;obtain⟨m,G2,F,N,PI⟩:=R.list;unfold Nk at e3;split at e3
 .rename_i hb
  cases e3;have hb:=BF.Lx.mp hb;unfold Af at hb;refine add_lists F N (ae g1) (ae g3) (λh' F' N'=> ?_) (by rw[g2.A8,g4.A8,Kq];omega);obtain⟨l1,l2,l3⟩:=PI h' `m (xs++ys) 0 (u++v) s.Dp F' N' aq (g2.Le g4);exact hQ _ _ _ _ _ l1 l2 l3 h
 .cases e3
end
section
variable {Q:Bl->CW->Prop}
theorem jC {n:Dt} {t:Tok}:Ad w σ (.t (.D4 n)) (.D4 n t):=Ah.D4 (w:=w) (fz:=σ.fz)
theorem jA {x:Dr} {t:Tok}:Ad w σ (.t (.Dq x)) (.Dq x t):=Ah.Dq (w:=w) (fz:=σ.fz)
theorem mr {b:CV}:Ad w σ (.t (.G6 b)) (.G6 b):=Ah.G6 (w:=w) (fz:=σ.fz)
theorem jB:Ad w σ (.t .Kr) .BH:=Ah.Kr (w:=w) (fz:=σ.fz)
theorem cT:VV=9900:=rfl
theorem AB.LL (H:`g):X.A.LL<9000:=by have:=H.r.2;omega
theorem s9 (H:`g) (R:`b s) {c:Const} {kk:BF} {HW:Oz} (ha:BZ an) (h:an (HR G r cx (.KP c kk HW) ve cs k ke)) (hQ:`l):
  `a X.A (Oc (.KP c kk HW) CL) Q E s:=by
 cases c with
 |BH=>exact Oe.WA.Constant_none (hQ _ (.t .Kr) _ cs _ σ.G5 R jB h)
 |G6 b=>exact Oe.WA.Constant_bool (hQ _ (.t (.G6 b)) _ cs _ σ.G5 R mr h)
 |D4 n=>exact wpAny_Constant_int (hQ _ (.t (.D4 n)) _ cs _ σ.G5 `af jC h)
 |Dq x=>exact Constant_str (hQ _ (.t (.Dq x)) _ cs _ σ.G5 `af jA h)
 |_=>exact(ha 80 h).Dk
theorem vy {op:PK} {x y:Dt} (ha:BZ an) (h:an (TD op x y cs k)):∃z,JG op (.D4 x) (.D4 y)=A9 z/\an (k (.t z) cs):=by
 cases op with
 |Add=>exact⟨_,Cs,h⟩
 |Sub=>exact⟨_,Cs,h⟩
 |Mult=>exact am ha h λhb h=>⟨_,by show(match B9 x with|Bj=>A9 (T.D4 (x*y))|Be=>BH)=_;rw[hb],h⟩
 |FloorDiv=>exact am ha h λhb h=>⟨_,by show(match CQ 0 y&&B9 y with|Bj=>A9 (T.D4 (x.Xp y))|Be=>BH)=_;rw[hb],h⟩
 |Mod=>exact am ha h λhb h=>⟨_,by show(match CQ 0 y with|Bj=>A9 (T.D4 (x.Qr y))|Be=>BH)=_;rw[hb],h⟩
 |Pow=>exact am ha h λhb h=>⟨_,by show(match Ed y&&B9 x with|Bj=>A9 (T.D4 (x^y.LU))|Be=>BH)=_;rw[hb],h⟩
 |LShift=>exact am ha h λhb h=>⟨_,by show(match Ed y&&B9 x with|Bj=>A9 (T.D4 (x*2^y.LU))|Be=>BH)=_;rw[hb],h⟩
 |_=>exact(ha _ h).Dk
theorem ww {op:PK} {a b:V} {q:V->V->Prop} (ha:BZ an) (h:an (FJ op a b cs k)) (cat:an (Nh op a b cs k)->q a b) (gen:∀x y z,JG op x y=A9 z->an (k (.t z) cs)->q (.t x) (.t y)):q a b:=by
 cases a with
 |FN _=>exact cat h
 |t x=>cases b with
  |FN _=>exact cat h
  |t y=>
   have g:an (AA (JG op x y) 85 λz=>k (.t z) cs)->q (.t x) (.t y):=λh=>ab ha h λz e h=>gen x y z e h;cases x with
   |Dg _=>exact cat h
   |D4 m=>cases y with
    |D4 n=>exact(vy ha h).Dk λz h=>gen _ _ z h.1 h.2
    |_=>exact g h
   |_=>exact g h
theorem wm {op:PK} {a b:V} {q:PK->Prop} (ha:BZ an) (h:an (Nh op a b cs k)) (f:∀u v,AX cs a=A9 u->AX cs b=A9 v->BF.Ls (u.A8+v.A8) Af=Bj->an (LH (.Dg (u++v)) cs k)->q .Add):q op:=by
 cases op with
 |Add=>exact ab ha h λu e1 h=>ab ha h λv e2 h=>am ha h λhl h=>f u v e1 e2 hl h
 |_=>exact(ha 89 h).Dk
theorem tc (S:`e) (H:`g) (R:`b s) {l rr:D8.Ez} {op:PK} {HW:Oz} (ha:BZ an) (h:an (HR G r cx (.BinOp l op rr HW) ve cs k ke)) (hQ:`l) (hE:`k):
  `a X.A (Oc (.BinOp l op rr HW) CL) Q E s:=by
 refine wpAny_BinOp (S X cx CL l σ ve cs s _ ke _ E H R ha h ?_ hE);intro σ1 a x G1 s1 l1 R1 ra h;refine S X cx CL rr σ1 ve G1 s1 _ ke _ E H R1 ha h ?_ `D;intro σ2 b y KM s2 l2 R2 rb h;have ra:=ra.Ey l2;have hQ:=(hQ.Ey l1).Ey l2;clear hE S l1 l2 R R1;refine ww (q:=λa b=>Ad w σ2 a x->Ad w σ2 b y->`a X.A (WJ op x y) Q E s2) ha h (λh ra rb=> ?_) (λa b z e h ra rb=> ?_) ra rb
 .exact wm (q:=λop=>`a X.A (WJ op x y) Q E s2) ha h λu v e1 e2 hl h=>wF R2 ra rb e1 e2 (show Nk u v=A9 (u++v) by unfold Nk;rw[hl]) h hQ
 .exact wr ra rb e λv tk hv=>hQ _ (.t z) _ _ _ σ2.G5 (R2.Dp _) hv h
theorem vU (S:`e) (H:`g) (R:`b s) {l:D8.Ez} {op:WY} {HW:Oz} (ha:BZ an) (h:an (HR G r cx (.WY op l HW) ve cs k ke)) (hQ:`l) (hE:`k):
  `a X.A (Oc (.WY op l HW) CL) Q E s:=by
 refine UnaryOp_ ?_;cases op with
 |Not=>
  refine S X cx CL l σ ve cs s _ ke _ E H R ha h ?_ hE;intro σ1 a x G1 s1 l1 R1 ra h;refine ab ha h λb e h=> ?_;exact not_of (cq R1 ra e λtk=>hQ _ _ _ _ _ l1 `aG mr h)
 |USub=>
  refine S X cx CL l σ ve cs s _ ke _ E H R ha h ?_ hE;intro σ1 a x G1 s1 l1 R1 ra h;cases a with
  |FN _=>exact(ha 91 h).Dk
  |t a=>cases a with
   |D4 m=>
    obtain⟨t,Cs⟩:=Ah.LO (w:=w) (fz:=σ1.fz) ra;exact Oe.WA.neg_int (hQ _ (.t (.D4 (-m))) _ _ _ l1 `aG jC h)
   |_=>exact(ha 91 h).Dk
 |_=>exact(ha 92 h).Dk
theorem ta (S:`e) (H:`g) {op:VJ} {HW:Oz} (ha:BZ an) {es:AT D8.Ez} {σ:Sg} {cs:St} {s:CW} (R:`b s) (h:an (Je r cx op es ve cs k ke))
  (hQ:`l) (hE:`k):`a X.A (Oc (.VJ op es HW) CL) Q E s:=by
 induction es generalizing σ cs s with
 |HU=>exact(ha 74 h).Dk
 |Dc e es ih=>cases es with
  |HU=>exact BoolOp_one (S X cx CL e σ ve cs s k ke Q E H R ha h hQ hE)
  |Dc e2 es=>cases op with
   |And=>
    refine BoolOp_and (S X cx CL e σ ve cs s _ ke _ E H R ha h ?_ hE);intro σ1 a x G1 s1 l1 R1 ra h;refine ab ha h λb e h=>cq R1 ra e λtk=> ?_;rcases bP h with⟨Cs,h⟩|⟨Cs,h⟩
    .exact ih `aG h `L `D
    .exact hQ _ _ _ _ _ l1 `aG ra h
   |Or=>
    refine BoolOp_or (S X cx CL e σ ve cs s _ ke _ E H R ha h ?_ hE);intro σ1 a x G1 s1 l1 R1 ra h;refine ab ha h λb e h=>cq R1 ra e λtk=> ?_;rcases bP h with⟨Cs,h⟩|⟨Cs,h⟩
    .exact hQ _ _ _ _ _ l1 `aG ra h
    .exact ih `aG h `L `D
theorem s8 (S:`e) (St':`f) (H:`g) (R:`b s) {t a b:D8.Ez} {HW:Oz} (ha:BZ an) (h:an (HR G r cx (.IfExp t a b HW) ve cs k ke)) (hQ:`l) (hE:`k):
  `a X.A (Oc (.IfExp t a b HW) CL) Q E s:=by
 refine IfExp_ (St' X cx CL t σ ve cs s _ ke _ E H R ha h ?_ hE);intro σ1 c G1 s1 l1 R1 h;rcases bP h with⟨Cs,h⟩|⟨Cs,h⟩
 .exact S X cx CL a σ1 ve G1 s1 k ke Q E H R1 ha h `L `D
 .exact S X cx CL b σ1 ve G1 s1 k ke Q E H R1 ha h `L `D
theorem Ak.T (R:`b s):QO (Bo X) X.h₀ σ.gr:=by
 obtain⟨⟨m,ml,G2,q⟩,_⟩:=R;exact q.T
theorem AB.sm (H:`g) (R:`b s) (hs:(K.H6 Lm).KQ=Bj):∀a,σ.gr.D7 a=BH->(a==Lm)=Be:=λa e=>zq H.x R.T hs e
section
variable {m:U8 Bl} {ms:AT (U8 Bl)} {x:Bl} {HW:Oz} {op op2:CmpOp} {RF:AT CmpOp} {Qb:CV->CW->Prop}
theorem ud (h:`a A m (λy=>`a A (Kl op x y) (λv s=>∃b,v= .G6 b/\Qb b s) E) E s):`a A (So HW x [op] [m]) Qb E s:=by
 show Ic _ _ (do
  let rv <-Qy [x] m
  Wa HW
  let c <-operate [x,rv] (Kl op x rv)
  Qy [c] (truthy c)) _ _ _
 refine Ch (Kh (Ho h (λy s₁ h₁=> ?_) λ_ _ z=>z));refine Ch (Kx (Ch (wpAny_operate' (Ho h₁ (λv s₂ h₂=> ?_) λ_ _ z=>z))));obtain⟨b,Cs,q⟩:=h₂;exact Kh (Rj q)
theorem wl (h:`a A m (λy=>`a A (Kl op x y) (λv s=>∃c,v= .G6 c/\if c then Ic (QF FZ w) A (Rk HW y (op2::RF) ms) Q E s else Q (.G6 Be) s) E) E s):`a A (Rk HW x (op::op2::RF) (m::ms)) Q E s:=by
 show Ic _ _ (do
  let rv <-Qy [x] m
  Wa HW
  let c <-Qy [x,rv] (Kl op x rv)
  release [x,rv] [c]
  if <-Qy [c,rv] (truthy c) then Rk HW rv (op2::RF) ms else Kp c) _ _ _
 refine Ch (Kh (Ho h (λy s₁ h₁=> ?_) λ_ _ z=>z));refine Ch (Kx (Ch (Kh (Ho h₁ (λv s₂ h₂=>Ch (wpAny_release' ?_)) λ_ _ z=>z))));obtain⟨c,Cs,q⟩:=h₂;refine Ch (Kh (Rj ?_));cases c with
 |Bj=>exact q
 |Be=>exact De q
theorem uc (h:`a A m (λy=>`a A (Kl op x y) (λv s=>∃c,v= .G6 c/\if c then Ic (QF FZ w) A (So HW y (op2::RF) ms) Qb E s else Qb Be s) E) E s):`a A (So HW x (op::op2::RF) (m::ms)) Qb E s:=by
 show Ic _ _ (do
  let rv <-Qy [x] m
  Wa HW
  let c <-Qy [x,rv] (Kl op x rv)
  release [x,rv] [c]
  if <-Qy [c,rv] (truthy c) then So HW rv (op2::RF) ms else Kp Be) _ _ _
 refine Ch (Kh (Ho h (λy s₁ h₁=> ?_) λ_ _ z=>z));refine Ch (Kx (Ch (Kh (Ho h₁ (λv s₂ h₂=>Ch (wpAny_release' ?_)) λ_ _ z=>z))));obtain⟨c,Cs,q⟩:=h₂;refine Ch (Kh (Rj ?_));cases c with
 |Bj=>exact q
 |Be=>exact De q
end
def Yg (w:FX) (FZ:Kt) (X:Fx) (CL:Qp) (ve:Ag) (kb:KB) (an:An->Prop) (E:Bl->CW->Prop) (HW:Oz) (RF:AT CmpOp) (ms:AT (U8 Bl)) (σ:Sg) (x:Bl) (s:CW):Prop:=
 (∀{Q:Bl->CW->Prop},(∀σ' b Kg s',σ.le σ'->Ak w X σ' CL ve Kg s'->an (kb b Kg)->Q (.G6 b) s')->`a X.A (Rk HW x RF ms) Q E s)/\
  ∀{Q:CV->CW->Prop},GA w X σ CL ve kb an Q->`a X.A (So HW x RF ms) Q E s
theorem kG (hs:(K.H6 Lm).KQ=Bj) (S:`e) (H:`g) {HW:Oz} {kb:KB} (ha:BZ an) {RF:AT CmpOp} {es:AT D8.Ez} {l:V} {x:Bl} {σ:Sg} {cs:St} {s:CW} (R:`b s) (rl:Ad w σ l x)
  (h:an (HF r cx l RF es ve cs kb ke)) (hE:`k):Yg w FZ X CL ve kb an E HW RF (Ve RF es (WM es CL)) σ x s:=by
 induction RF generalizing es l x σ cs s with
 |HU=>cases es<;>exact(ha _ h).Dk
 |Dc op RF ih=>cases es with
  |HU=>cases RF<;>exact(ha _ h).Dk
  |Dc e es=>cases RF with
   |HU=>cases es with
    |Dc _ _=>exact(ha _ h).Dk
    |HU=>
     clear ih;refine am ha h λhn h=> ?_;have hm:Ve [op] [e] (WM [e] CL)=[Oc e CL]:=by
      show [markedBehindIn op e `aI]=_;rw[markedBehindIn_of_false];cases e<;>first|rfl|exact CV.JT (hn:Be=Bj)
     rw[hm];have Qt:∀Q:Bl->CW->Prop,(∀σ' b Kg s',σ.le σ'->Ak w X σ' CL ve Kg s'->an (kb b Kg)->Q (.G6 b) s')->`a X.A `aI (λy=>`a X.A (Kl op x y) Q E) E s:=λQ hQ=>by
      refine S X cx CL e σ ve cs s _ ke _ E H R ha h ?_ hE;intro σ1 b y G1 s1 l1 R1 rb h;refine ab ha h λc e h=> ?_;exact nA R1 (rl.Ey l1) rb e (H.sm R1 hs) (by have:=H.LL;rw[cT];omega) λtk=>hQ _ _ _ _ l1 `aG h
     exact⟨λhQ=>chain_last (Qt _ hQ),λhQ=>ud (Qt _ λσ' b Kg s' l' R' h'=>⟨b,Cs,hQ σ' b Kg s' l' R' h'⟩)⟩
   |Dc op2 RF=>cases es with
    |HU=>exact(ha _ h).Dk
    |Dc e2 es=>
     have Qt:∀(T:Bl->CW->Prop) (F:CW->Prop),(∀σ1 b y G1 s1 tk,σ.le σ1->Ak w X σ1 CL ve G1 s1->Ad w σ1 b y->an (HF r cx b (op2::RF) (e2::es) ve G1 kb ke)->T y {s1 with Dp:=tk})->
       (∀σ1 G1 s1,σ.le σ1->Ak w X σ1 CL ve G1 s1->an (kb Be G1)->F s1)->
       `a X.A `aI (λy=>`a X.A (Kl op x y) (λv s=>∃c,v= .G6 c/\if c then T y s else F s) E) E s:=λT F hT hF=>by
      refine S X cx CL e σ ve cs s _ ke _ E H R ha h ?_ hE;intro σ1 b y G1 s1 l1 R1 rb h;refine ab ha h λc e h=> ?_;refine nA R1 (rl.Ey l1) rb e (H.sm R1 hs) (by have:=H.LL;rw[cT];omega) λtk=>⟨c,Cs,?_⟩;rcases bP h with⟨Cs,h⟩|⟨Cs,h⟩
      .exact hT σ1 b y G1 s1 tk l1 R1 rb h
      .exact hF _ _ _ l1 (R1.Dp tk) h
     have hm:Ve (op::op2::RF) (e::e2::es) (WM (e::e2::es) CL)=Oc e CL::Ve (op2::RF) (e2::es) (WM (e2::es) CL):=rfl;rw[hm];exact⟨λ{Q} hQ=>wl (Qt (λy=>`a X.A (Rk HW y (op2::RF) _) Q E) (Q (.G6 Be)) (λσ1 b y G1 s1 tk l1 R1 rb h=>(ih (R1.Dp tk) rb h `D).1 λσ' c' Kg s' l'=>hQ σ' c' Kg s' (l1.CX l')) λσ1 G1 s1 l1=>hQ σ1 Be G1 s1 l1),
      λ{Q} hQ=>uc (Qt (λy=>`a X.A (So HW y (op2::RF) _) Q E) (Q Be) (λσ1 b y G1 s1 tk l1 R1 rb h=>(ih (R1.Dp tk) rb h `D).2 `L) λσ1 G1 s1 l1=>hQ σ1 Be G1 s1 l1)⟩
end
section
variable {Q:Bl->CW->Prop}
theorem lY (hs:(K.H6 Lm).KQ=Bj) (S:`e) (H:`g) (R:`b s) {l:D8.Ez} {RF:AT CmpOp} {es:AT D8.Ez} {HW:Oz} (ha:BZ an) (h:an (HR G r cx (.Compare l RF es HW) ve cs k ke)) (hQ:`l) (hE:`k):
  `a X.A (Oc (.Compare l RF es HW) CL) Q E s:=by
 show Ic _ _ (do Rk HW (<-Oc l CL) RF (Ve RF es (WM es CL))) _ _ _;refine Ch (S X cx CL l σ ve cs s _ ke _ E H R ha h ?_ hE);intro σ1 b y G1 s1 l1 R1 rb h;exact(kG hs S H ha R1 rb h `D).1 λσ' c Kg s' l' R' h'=>hQ _ _ _ _ _ (l1.CX l') R' mr h'
theorem xk (St':`f) (H:`g) {op:VJ} {kb:KB} (ha:BZ an) {Q:CV->CW->Prop} {es:AT D8.Ez} {σ:Sg} {cs:St} {s:CW} (R:`b s) (h:an (Ga r cx op es ve cs kb ke))
  (hQ:GA w X σ CL ve kb an Q) (hE:`k):`a X.A (allTrue op es CL) Q E s:=by
 induction es generalizing σ cs s with
 |HU=>
  show Ic _ _ (Kp (op== .And)) _ _ _;cases op with
  |And=>exact De (hQ _ _ _ _ σ.G5 R h)
  |Or=>exact De (hQ _ _ _ _ σ.G5 R h)
 |Dc e es ih=>
  show Ic _ _ (do
   match op,<-isTrue e CL `aI with
   | .And,Be=>Kp Be
   | .Or,Bj=>Kp Bj
   |_,_=>allTrue op es CL) _ _ _
  refine Ch (St' X cx CL e σ ve cs s _ ke _ E H R ha h ?_ hE);intro σ1 c G1 s1 l1 R1 h;have nx:=λh=>ih R1 h `L `D;clear hE;cases op with
  |And=>
   rcases bP h with⟨Cs,h⟩|⟨Cs,h⟩
   .exact nx h
   .exact De (hQ _ _ _ _ l1 R1 h)
  |Or=>
   rcases bP h with⟨Cs,h⟩|⟨Cs,h⟩
   .exact De (hQ _ _ _ _ l1 R1 h)
   .exact nx h
theorem zj (hs:(K.H6 Lm).KQ=Bj) (S:`e) (St':`f):EY w FZ K n an (YW r):=by
 intro X cx CL e σ ve cs s kb ke Q E H R ha h hQ hE;have QD:isTrue e CL `aI=(do let v <-Oc e CL;Wa e.HW;Qy [v] (truthy v))->an (r.ev cx e ve cs (λv G1=>AA (F9 G1 v) 103 λb=>kb b G1) ke)->`a X.A (isTrue e CL `aI) Q E s:=λhe h=>by
  refine isTrue_plain (S X cx CL e σ ve cs s _ ke _ E H R ha h ?_ hE) he;intro σ1 v x G1 s1 l1 R1 rv h;refine ab ha h λb e h=> ?_;exact cq R1 rv e λtk=>hQ _ _ _ _ l1 `aG h
 cases e with
 |WY op x HW=>
  cases op with
  |Not=>
   refine isTrue_not (St' X cx CL x σ ve cs s _ ke _ E H R ha h ?_ hE);intro σ1 c G1 s1 l1 R1 h;exact hQ _ _ _ _ l1 R1 h
  |_=>exact QD rfl h
 |VJ op es HW=>exact xk St' H ha R h hQ hE
 |Compare l RF es HW=>
  show Ic _ _ (do So HW (<-Oc l CL) RF (Ve RF es (WM es CL))) _ _ _;refine Ch (S X cx CL l σ ve cs s _ ke _ E H R ha h ?_ hE);intro σ1 b y G1 s1 l1 R1 rb h;exact(kG hs S H ha R1 rb h `D).2 `L
 |IfExp=>exact(ha _ h).Dk
 |_=>exact QD rfl h
theorem eB {e:D8.Ez} {es:AT D8.Ez} {HW:Oz} (h:Bh e=Bj):Rl HW (OG (e::es) CL)=(Be,Oc e CL)::Rl HW (OG es CL):=by
 cases e<;>first|rfl|exact CV.JT (h:Be=Bj)
theorem jl (S:`e) (H:`g) (ha:BZ an) {es:AT D8.Ez} {σ:Sg} {cs:St} {s:CW} {kk:AT V->St->An} {HW:Oz} {Q:AT Bl->CW->Prop} (R:`b s) (h:an (Ms r cx es ve cs kk ke))
  (hQ:∀σ' vs xs Kg s',σ.le σ'->Ak w X σ' CL ve Kg s'->Ac w σ' vs xs->an (kk vs Kg)->Q xs s') (hE:`k):`a X.A (spliced (Rl HW (OG es CL))) Q E s:=by
 induction es generalizing σ cs s kk Q with
 |HU=>exact spliced_nil (hQ σ [] [] cs s σ.G5 R rfl h)
 |Dc e es ih=>
  refine am ha h λhn h=> ?_;rw[eB hn];refine Qz (S X cx CL e σ ve cs s _ ke _ E H R ha h ?_ hE);intro σ1 v x G1 s1 l1 R1 rv h;exact ih R1 h (λσ2 vs xs KM s2 l2 R2 rvs h=>hQ σ2 (v::vs) (x::xs) KM s2 `ag R2 (.Dc (rv.Ey l2) rvs) h) `D
end
section
def Dj (cs Kg:St):Prop:=Kg.A8=cs.A8/\∀j c,J7 Kg j=A9 c->(∃x,c= .fz x)\/J7 cs j=A9 c
theorem Dj.Xl (cs:St):Dj cs cs:=⟨Cs,λ_ _ h=> .G4 h⟩
theorem Dj.CX {a b c:St} (x:Dj a b) (y:Dj b c):Dj a c:=⟨y.1.CX x.1,λj d h=>by
 rcases y.2 j d h with q|q
 .exact .HX q
 .exact x.2 j d q⟩
theorem Dj.PF {cs:St} {i:BF} {x:T}:Dj cs (PL.PF cs i (.fz x)):=⟨cA,λj d h=>by
 rcases mL h with⟨_,Cs⟩|⟨_,q⟩
 .exact .HX ⟨_,Cs⟩
 .exact .G4 q⟩
def HP (w:FX) (X:Fx) (CL:Qp) (ve:Ag) (h:Ev) (σ:Sg) (cs Kg:St) (P:BR->Prop):Prop:=
 ∃σ',σ.le σ'/\σ'.ca=σ.ca/\AZ w X σ' CL ve Kg h/\P σ'.fz/\Dj cs Kg
section
variable {σ1:Sg} {G1 KM:St} {P Q:BR->Prop}
theorem HP.el {q:Prop} (z:HP w X CL ve h σ cs G1 P) (k:∀σ',σ.le σ'->σ'.ca=σ.ca->AZ w X σ' CL ve G1 h->P σ'.fz->Dj cs G1->q):q:=
 Exists.Dk z λ_ z=>k _ z.1 z.2.1 z.2.2.1 z.2.2.2.1 z.2.2.2.2
theorem HP.PI (l1:σ.le σ1) (c1:σ1.ca=σ.ca) (o1:Dj cs G1) (z:HP w X CL ve h σ1 G1 KM P) (k:∀σ2,σ1.le σ2->P σ2.fz->Q σ2.fz):HP w X CL ve h σ cs KM Q:=
 z.el λσ2 l2 c2 R2 p o2=>⟨σ2,l1.CX l2,c2.CX c1,R2,k σ2 l2 p,o1.CX o2⟩
theorem HP.imp (z:HP w X CL ve h σ cs G1 P) (k:∀fz,P fz->Q fz):HP w X CL ve h σ cs G1 Q:=z.el λσ' a b c d e=>⟨σ',a,b,c,k _ d,e⟩
theorem HP.now (R:`n h) (p:P σ.fz):HP w X CL ve h σ cs cs P:=⟨σ,σ.G5,Cs,R,p,.Xl _⟩
theorem HP.Qc {i:BF} {c c':C} {x:T} {p0:EA×EA} (R:`n h) (hc:J7 cs i=A9 c) (hp:J7 σ.ca i=A9 p0) (hc1:J7 G1 i=A9 c') (hf:∀y,c'≠.fz y)
  (z:∀os,Bf w σ p0 c os->(∀q∈os,h.D7 q.1=A9 q.2)->HP w X CL ve h σ cs G1 P)
  (k:∀σ1 os2,P σ1.fz->Bf w σ1 p0 c os2->(∀q∈os2,h.D7 q.1=A9 q.2)->Ah w (os2++σ1.fz) x (.C9 p0.1)):HP w X CL ve h σ cs (PF G1 i (.fz x)) λfz=>Ah w fz x (.C9 p0.1):=by
 have R0:=R;obtain⟨m,ml,G2,q⟩:=R0;obtain⟨p',os,hp',hr,hm⟩:=q.J2.J7 hc;cases hp.Hl.CX hp'
 refine(z os hr λo ho=>(q.N _ (aC.Lq (.HX (hm _ ho)))).1).el λσ1 l1 c1 R1 pP o1=> ?_
 have e:c'=c:=by
  rcases o1.2 i _ hc1 with z|z
  .exact(z.Dk λy e=>(hf y e).Dk)
  .exact Bq.A9.Ky (z.Hl.CX hc)
 subst e;obtain⟨σ2,l2,c2,R2,K7⟩:=R1.freeze (x:=x) hc1 λp2 os2 g1 g2 g4=>by
  cases hp.Hl.CX (c1▸g1);exact k σ1 os2 pP g2 g4
 exact⟨σ2,l1.CX l2,c2.CX c1,R2,K7 p0 (c1▸hp),o1.CX .PF⟩
end
def HO (w:FX) (X:Fx) (CL:Qp) (ve:Ag) (h:Ev) (f:St->V->Bq (T×St)):Prop:=
 ∀{σ cs v p y},f cs v=A9 p->`n h->Ad w σ v y->HP w X CL ve h σ cs p.2 λfz=>Ah w fz p.1 y
theorem f5 {f:St->V->Bq (T×St)} (hf:HO w X CL ve h f) {vs:AT V}:∀{σ:Sg} {cs:St} {p:AT T×St} {xs:AT Bl},AU f cs vs=A9 p->`n h->Ac w σ vs xs->
  HP w X CL ve h σ cs p.2 λfz=>Am w fz p.1 xs:=by
 induction vs with
 |HU=>exactλe R r=>Bq.A9.Ky e▸.now R r
 |Dc v vs ih=>
  intro σ cs p xs e R r;obtain⟨y,ys,er,r1,r2⟩:=r;exact ob e λp1 e1 e=>ob e λp2 e2 e=>Bq.A9.Ky e▸(hf e1 R r1).el λσ1 l1 c1 R1 rt o1=> .PI l1 c1 o1 (ih (p:=p2) e2 R1 (r2.Ey l1)) λσ2 l2 rts=>⟨y,ys,er,rt.Ey l2.1,rts⟩
theorem lJ {α:Type} {f:St->V->Bq (T×St)} {vs:AT (α×V)}:∀{cs:St} {p:AT (α×T)×St},AU (Ik f) cs vs=A9 p->p.1.FW (·.1)=vs.FW (·.1):=by
 induction vs with
 |HU=>exactλe=>Bq.A9.Ky e▸rfl
 |Dc v vs ih=>exactλe=>ob e λp1 e1 e=>ob e λp2 e2 e=>ob e1 λq e3 e1=>by rw[<-Bq.A9.Ky e,<-Bq.A9.Ky e1];exact FY (v.1:: ·) (ih e2)
theorem rs {f:St->V->Bq (T×St)} (hf:HO w X CL ve h f) {vs:AT (T×V)}:∀{σ:Sg} {cs:St} {p:AT (T×T)×St} {xs:AT Ex},AU (Ik f) cs vs=A9 p->`n h->AV w σ vs xs->
  HP w X CL ve h σ cs p.2 λfz=>C2 w fz p.1 xs:=by
 induction vs with
 |HU=>exactλe R r=>Bq.A9.Ky e▸.now R r
 |Dc v vs ih=>
  intro σ cs p xs e R r;obtain⟨y,ys,er,r1,⟨r2,r3⟩,r4,r5⟩:=r;refine ob e λp1 e1 e=>ob e λp2 e2 e=>ob e1 λq e3 e1=>Bq.A9.Ky e▸Bq.A9.Ky e1▸(hf e3 R r4).el λσ1 l1 c1 R1 rt o1=> ?_;have ks:=lJ e2;rw[<-Bq.A9.Ky e1] at e2;exact .PI l1 c1 o1 (ih (p:=p2) e2 R1 (r5.Ey l1)) λσ2 l2 rts=>⟨y,ys,er,Ah.Ey (l1.CX l2).1 r1,⟨r2,λp hp=>(AT.KY.mp (ks▸AT.Ib hp:p.1∈vs.FW (·.1))).Dk λq hq=>hq.2▸r3 q hq.1⟩,rt.Ey l2.1,rts⟩
theorem rq {f:St->V->Bq (T×St)} (hf:HO w X CL ve h f) {vs:AT (Dr×V)}:∀{σ:Sg} {cs:St} {p:AT (Dr×T)×St} {xs:AT Ex},AU (Ik f) cs vs=A9 p->`n h->AI w σ vs xs->
  HP w X CL ve h σ cs p.2 λfz=>C1 w fz p.1 xs:=by
 induction vs with
 |HU=>exactλe R r=>Bq.A9.Ky e▸.now R r
 |Dc v vs ih=>
  intro σ cs p xs e R r;obtain⟨y,ys,er,r1,r4,r5⟩:=r;refine ob e λp1 e1 e=>ob e λp2 e2 e=>ob e1 λq e3 e1=>Bq.A9.Ky e▸Bq.A9.Ky e1▸(hf e3 R r4).el λσ1 l1 c1 R1 rt o1=> ?_;rw[<-Bq.A9.Ky e1] at e2;exact .PI l1 c1 o1 (ih (p:=p2) e2 R1 (r5.Ey l1)) λσ2 l2 rts=>⟨y,ys,er,r1,rt.Ey l2.1,rts⟩
theorem rB {xs ys:AT Bl} {n m:BF} (h:AO xs n=AO ys m):xs=ys:=by
 have:=FY KJ.KA h
 simp only[AO,WE.KH.injEq] at F4
 simpa using F4.1
theorem kJ {xs ys:AT Ex} {n m:BF} (h:AK xs n=AK ys m):xs=ys:=by
 have:=FY KJ.KA h
 simp only[AK,WE.LG.injEq] at F4
 simpa using F4.1
theorem dG (w:FX) (X:Fx) (CL:Qp) (ve:Ag) (h:Ev) (n:BF):HO w X CL ve h (WC n):=by
 induction n with
 |Xb=>
  intro σ cs v p y e R r;exact ob e λx e1 e=>Bq.A9.Ky e▸.now R (bB (q:=λv=>Ad w σ v y->Ah w σ.fz x y) e1 id r)
 |Ww n ih=>
  intro σ cs v p y e R r;refine aF (P:=(· =A9 p)) e (λx e1 e=>Bq.A9.Ky e▸.now R (bB (q:=λv=>Ad w σ v y->Ah w σ.fz x y) e1 id r)) λe=>ob e λi e1 e=>ob e λc hc e=> ?_;have r:Ad w σ (.FN i) y:=dI (q:=λv=>Ad w σ v y->Ad w σ (.FN i) y) e1 id r;obtain⟨p0,hp,hy⟩:=r;rw[hy];cases c with
  |fz x=>
   rw[<-Bq.A9.Ky e];have R0:=R;obtain⟨m,ml,G2,q⟩:=R0;obtain⟨p',os,hp',hr,hm⟩:=q.J2.J7 hc;cases hp.Hl.CX hp';exact .now R hr.2
  |Dg vs=>
   refine ob e λp1 e1 e=>ob e λvs' e2 e=>Bq.A9.Ky e▸.Qc (P:=λfz=>∃xs n,h.D7 p0.1=A9 (AO xs n)/\Am w fz p1.1 xs) R hc hp (fx e2) (λ_ z=>by cases z)
    (λos hr hh=>hr.Dk λxs hr=>hr.Dk λnn hr=>(f5 ih e1 R hr.2).imp λfz r=>⟨xs,nn,hh (p0.1,AO xs nn) (hr.1▸.Jn _),r⟩) λσ1 os2 z hr hh=> ?_
   obtain⟨xs,nn,g,rts⟩:=z;obtain⟨xs2,n2,eo,_⟩:=hr;subst eo;cases rB (Bq.A9.Ky (g.Hl.CX (hh _ (.Jn _))));exact⟨_,xs,n2,Cs,.Jn _,Am.Ey (λq hq=> .Do _ hq) rts⟩
  |Rv vs=>
   refine ob e λp1 e1 e=>ob e λvs' e2 e=>Bq.A9.Ky e▸.Qc (P:=λfz=>∃xs n,h.D7 p0.1=A9 (AK xs n)/\C2 w fz p1.1 xs) R hc hp (wk e2) (λ_ z=>by cases z)
    (λos hr hh=>hr.Dk λxs hr=>hr.Dk λnn hr=>(rs ih e1 R hr.2).imp λfz r=>⟨xs,nn,hh (p0.1,AK xs nn) (hr.1▸.Jn _),r⟩) λσ1 os2 z hr hh=> ?_
   obtain⟨xs,nn,g,rts⟩:=z;obtain⟨xs2,n2,eo,_⟩:=hr;subst eo;cases kJ (Bq.A9.Ky (g.Hl.CX (hh _ (.Jn _))));exact⟨_,xs,n2,Cs,.Jn _,C2.Ey (λq hq=> .Do _ hq) rts⟩
  |LJ c vs=>
   refine ob e λp1 e1 e=>ob e λvs' e2 e=>Bq.A9.Ky e▸.Qc (P:=λfz=>∃xs n,h.D7 p0.2=A9 (AK xs n)/\C1 w fz p1.1 xs) R hc hp (wj e2) (λ_ z=>by cases z)
    (λos hr hh=>hr.Dk λxs hr=>hr.Dk λnn hr=>(rq ih e1 R hr.2).imp λfz r=>⟨xs,nn,hh (p0.2,AK xs nn) (hr.1▸.Do _ (.Jn _)),r⟩) λσ1 os2 z hr hh=> ?_
   obtain⟨xs,nn,g,rts⟩:=z;obtain⟨xs2,n2,eo,_⟩:=hr;subst eo;cases kJ (Bq.A9.Ky (g.Hl.CX (hh _ (.Do _ (.Jn _)))));exact⟨_,_,xs,n2,Cs,.Jn _,.Do _ (.Jn _),C1.Ey (λq hq=> .Do _ (.Do _ hq)) rts⟩
end
section
variable {Q:Bl->CW->Prop}
theorem pI {ts:AT T} {xs:AT Bl} (h:Am w σ.fz ts xs):Ac w σ (ZW ts) xs:=h.vs
theorem tZ (R:`b s) {ts:AT T} {xs:AT Bl} (hr:Am w σ.fz ts xs) (hl:ts.A8<=5000) (h:an (k (.t (.Ld ts)) cs)) (hQ:`l):`a X.A (newTuple xs) Q E s:=by
 obtain⟨m,G2,F,N,PI⟩:=R.froz;refine newTuple_N F N (λh' F' N'=> ?_) (by rw[hr.A8,Kq];omega);obtain⟨l1,R1⟩:=PI h' `m _ s.Dp F' N' aq;refine hQ _ (.t (.Ld ts)) _ _ _ l1 R1 ?_ h;exact Ah.Ld (.Jn _) (Am.Ey l1.1 hr)
theorem u2 (R:`b s) {vs:AT V} {xs:AT Bl} (hr:Ac w σ vs xs) (hl:vs.A8<=5001) (h:an (LH (.Dg vs) cs k)) (hQ:`l):`a X.A (newList xs) Q E s:=by
 obtain⟨m,G2,F,N,PI⟩:=R.list;refine newList_N F N (λh' F' N'=> ?_) (by rw[hr.A8,Kq];omega);obtain⟨l1,R1,v1⟩:=PI h' `m xs 0 vs s.Dp F' N' aq hr;exact hQ _ _ _ _ _ l1 R1 v1 h
theorem jh {f:St->V->Bq (T×St)} (hf:∀h,HO w X CL ve h f) (R:`b s) {vs:AT V} {ts:AT T} {Kg:St} {xs:AT Bl} (e:AU f cs vs=A9 (ts,Kg)) (hr:Ac w σ vs xs):
  ∃σ',σ.le σ'/\Ak w X σ' CL ve Kg s/\Am w σ'.fz ts xs:=
 (f5 (hf s.Dn) e R.1 hr).el λσ' l _ R' r' _=>⟨σ',l,⟨R',R.2⟩,r'⟩
theorem sX (S:`e) (H:`g) (R:`b s) {es:AT D8.Ez} {kk:BF} {HW:Oz} (ha:BZ an) (h:an (HR G r cx (.Oi es kk HW) ve cs k ke)) (hQ:`l) (hE:`k):
  `a X.A (Oc (.Oi es kk HW) CL) Q E s:=by
 refine Tuple_ (jl S H ha R h ?_ hE);intro σ1 vs xs G1 s1 l1 R1 rv h;refine ab ha h λp e h=> ?_;refine am ha h λhb h=> ?_;obtain⟨σ2,l2,R2,r2⟩:=jh (dG w X CL ve · BN) R1 (Kg:=p.2) (ts:=p.1) e rv;exact tZ R2 r2 (by have:=BF.Lx.mp hb;unfold Af at F4;exact F4) h ((hQ.Ey l1).Ey l2)
def ZI (w:FX) (X:Fx) (CL:Qp) (ve:Ag) (h:Ev) (σ:Sg) (Kg:St) (P:Sg->Prop):Prop:=∃σ',σ.le σ'/\AZ w X σ' CL ve Kg h/\P σ'
theorem sI {v:V} {σ:Sg} {cs:St} {p:V×St} {y:Bl} {h:Ev} (e:Hd cs v=A9 p) (R:`n h) (r:Ad w σ v y):ZI w X CL ve h σ p.2 λσ'=>Ad w σ' p.1 y:=
 aF (P:=(· =A9 p)) e (λx e1 e=>Bq.A9.Ky e▸⟨σ,σ.G5,R,bB (q:=λv=>Ad w σ v y->Ad w σ (.t x) y) e1 id r⟩) λe=>ob e λi e1 e=>
  aF (P:=(· =A9 p)) e (λz _ e=>Bq.A9.Ky e▸⟨σ,σ.G5,R,r⟩) λe=>ob e λq e3 e=>Bq.A9.Ky e▸(dG w X CL ve h BN e3 R r).el λσ1 l1 _ R1 rt _=>⟨σ1,l1,R1,rt⟩
theorem vG {vs:AT V}:∀{σ:Sg} {cs Kg:St} {us:AT V} {xs:AT Bl} {h:Ev},AU Hd cs vs=A9 (us,Kg)->`n h->Ac w σ vs xs->
  ∃σ',σ.le σ'/\AZ w X σ' CL ve Kg h/\Ac w σ' us xs:=by
 induction vs with
 |HU=>intro σ cs Kg us xs h e R r;cases e;exact⟨σ,σ.G5,R,r⟩
 |Dc v vs ih=>
  intro σ cs Kg us xs h e R r;obtain⟨y,ys,er,r1,r2⟩:=r;refine ob e λp1 e1 e=>ob e λp2 e2 e=> ?_;cases e;obtain⟨σ1,l1,R1,rt⟩:=sI e1 R r1;obtain⟨σ2,l2,R2,rts⟩:=ih e2 R1 (r2.Ey l1);exact⟨σ2,l1.CX l2,R2,y,ys,er,rt.Ey l2,rts⟩
theorem vX (S:`e) (H:`g) (R:`b s) {es:AT D8.Ez} {HW:Oz} (ha:BZ an) (h:an (HR G r cx (.AT es HW) ve cs k ke)) (hQ:`l) (hE:`k):
  `a X.A (Oc (.AT es HW) CL) Q E s:=by
 refine List_ (jl S H ha R h ?_ hE);intro σ1 vs xs G1 s1 l1 R1 rv h;refine ab ha h λp e h=> ?_;refine am ha h λhb h=> ?_;obtain⟨σ2,l2,R2,r2⟩:=vG (Kg:=p.2) (us:=p.1) e R1.1 rv;exact u2 ⟨R2,R1.2⟩ r2 (by have:=BF.Lx.mp hb;unfold Af at F4;omega) h ((hQ.Ey l1).Ey l2)
theorem Ac.J7 {vs:AT V} {xs:AT Bl} {j:BF} {v:V} (r:Ac w σ vs xs) (h:PL.J7 vs j=A9 v):∃x,xs[j]?=A9 x/\Ad w σ v x:=
 Ac.Vb (P:=λvs xs=>∀j,PL.J7 vs j=A9 v->∃x,xs[j]?=A9 x/\Ad w σ v x) (λj h=>nomatch h)
  (λu us y ys a _ ih j=>BF.Ou (Sb:=λj=>PL.J7 (u::us) j=A9 v->∃x,(y::ys)[j]?=A9 x/\Ad w σ v x) j (λh=>⟨y,Cs,(Bq.A9.Ky h:u=v)▸a⟩) ih) r j h
theorem iP {m:Dt} {Oa:BF} (h0:0<=m) (h1:m<Oa):seqIndex? m Oa=A9 m.LU:=by
 unfold seqIndex?;dsimp only;have hn:¬m<0:=by omega
 rw[Ko hn]
 have:(decide (0<=m)&&decide (m<(Oa:Dt)))=Bj:=by simp;omega
 rw[Lu F4]
theorem iQ {m:Dt} {Oa:BF} (h0:m<0) (h1:0<=m+Oa):seqIndex? m Oa=A9 (m+Oa).LU:=by
 unfold seqIndex?;dsimp only;rw[Lu h0]
 have:(decide (0<=m+(Oa:Dt))&&decide (m+(Oa:Dt)<(Oa:Dt)))=Bj:=by simp;omega
 rw[Lu F4]
theorem m4 {m:Dt} {Oa j:BF} (e:EG Oa m=A9 j):(0<=m/\j=m.LU)\/(m<0/\0<=m+Oa/\j=(m+Oa).LU):=by
 unfold EG at e;cases q:CQ m 0 with
 |Be=>
  rw[q] at e;cases e;exact .HX ⟨Dt.not_lt.mp λz=>(by rw[cP.Lq z] at q;cases q),Cs⟩
 |Bj=>
  rw[q] at e;cases q2:CF 0 (m+Oa) with
  |Bj=>rw[q2] at e;cases e;exact .G4 ⟨cP.mp q,bF.mp q2,Cs⟩
  |Be=>rw[q2] at e;cases e
theorem v5 (S:`e) (H:`g) {o i:V} {x y:Bl} {value slice:D8.Ez} (R:`b s) (ro:Ad w σ o x) (ri:Ad w σ i y) (ha:BZ an) (h:an (Fw o i cs k)) (hQ:`l)
  (hs:∀o i,subscripted slice Be o i=operate [o,i] (getItem o i)):`a X.A (P1 value slice x y) Q E s:=by
 have Rv:∀{a:T} {es:AT (T×V)} {v:V},Ah w σ.fz a y->Dm cs o=A9 es->DR a es=A9 (A9 v)->an (k v cs)->`a X.A (P1 value slice x y) Q E s:=λ{a es v} ra e1 e2 h=>by
  obtain⟨d,ds,n,Cs,h1,r,hn⟩:=jp R.1 ro e1;refine WN (T:="dict") ⟨_,h1,Cs⟩ slot_dict_getitem.H6 (o0 (A:=X.A) R ra ro e1 e2 (by have:=H.LL;rw[cT];omega) λz tk hz=>hQ _ _ _ _ _ σ.G5 `af hz h) (hs _ _)
 unfold Fw at h;split at h
 .rename_i m
  obtain⟨t,Cs⟩:=Ah.LO (w:=w) (fz:=σ.fz) ri;split at h
  .rename_i l e1
   refine am ha h λhb h=> ?_;refine ab ha h λj e2 h=> ?_;refine ab ha h λv e3 h=> ?_;simp only[CV.DG] at hb;have b1:=bF.mp hb.1;have b2:=bF.mp hb.2;obtain⟨p,xs,Cs,r1,r2⟩:=cJ R.1 ro e1;obtain⟨z,g1,g2⟩:=r1.J7 e3;have Oa:=r1.A8;have K7:=hQ _ _ _ _ _ σ.G5 R g2 h;have jlt:j<xs.A8:=by rw[Oa];exact lH e3
   have hj:=m4 (Oa▸e2);rcases r2 with⟨ts,_,_,g⟩|⟨_,n',g⟩
   .have ht:IsTup s.Dn p xs.E6:=⟨_,g,Cs,0,Cs⟩
    refine WN ht.VK slot_tuple_getitem.H6 (getItem_tuple ht (·) (·) (j:=j) ?_ (by simpa using g1) K7) (hs _ _);rw[AT.JM];rcases hj with⟨h0,Cs⟩|⟨h0,h1,Cs⟩
    .exact iP h0 ((Dt.toNat_lt h0).mp jlt)
    .exact iQ h0 h1
   .have hl:=ae g
    rcases hj with⟨h0,Cs⟩|⟨h0,h1,Cs⟩
    .exact WN hl.VK Vw.H6 (wpAny_getItem_list hl h0 (·) (by simpa using g1) K7) (hs _ _)
    .exact WN hl.VK Vw.H6 (wpAny_getItem_list_neg hl h0 (by rw[AT.JM];omega) (·) (by simpa using g1) K7) (hs _ _)
  .refine ab ha h λes e1 h=> ?_
   refine ab ha h λq e2 h=> ?_;refine ab ha h λv e3 h=> ?_;subst e3;exact Rv ri e1 e2 h
 .refine ab ha h λes e1 h=> ?_
  refine ab ha h λq e2 h=> ?_;refine ab ha h λv e3 h=> ?_;subst e3;exact Rv ri e1 e2 h
 .exact(ha _ h).Dk
end
section
variable {Q:Bl->CW->Prop}
theorem nB (Oa:BF) (i:Dt):Fh Oa i=Wb Oa i:=by
 refine Dt.natCast_inj.mp (Eq.CX ?_ (clipAt_cast Oa i).Hl);cases q:CQ i 0 with
 |Bj=>
  have h:=cP.mp q;rw[Lu h,Dt.Qh (·),Dt.max_comm,<-Dt.toNat_eq_max]
  show((match CQ i 0 with|Be=>BF.min i.LU Oa|Bj=>(i+Oa).LU:BF):Dt)=_
  rw[q]
 |Be=>
  have h:¬i<0:=λz=>CV.Ki (q.Hl.CX (cP.Lq z));have h0:=Dt.not_lt.mp h;rw[Ko h,Dt.max_eq_right (Dt.le_min.Lq ⟨h0,Dt.natCast_nonneg _⟩)]
  show((match CQ i 0 with|Be=>BF.min i.LU Oa|Bj=>(i+Oa).LU:BF):Dt)=_
  rw[q];exact(Lean.Omega.Dt.ofNat_min ..).CX (FY (min · (Oa:Dt)) (Dt.toNat_of_nonneg h0))
theorem jq {α:Type} (l:AT α) (a b:BF):cut l a b=(l.F3 a).Gk (b - a):=by
 unfold cut;rw[AT.drop_take]
theorem lM (Oa:BF) (lo:Bq Dt):Iz Oa lo=lo.Dk 0 (Wb Oa):=by
 cases lo with
 |BH=>rfl
 |A9 i=>exact nB Oa i
theorem lR (Oa:BF) (lo:Bq Dt):Ja Oa lo=lo.Dk Oa (Wb Oa):=by
 cases lo with
 |BH=>rfl
 |A9 i=>exact nB Oa i
theorem wg (Oa:BF) (i:Dt):Wb Oa i<=Oa:=by
 have:=clipAt_cast Oa i
 omega
theorem nh {Oa d:BF} (o:Bq Dt) (h:d<=Oa):o.Dk d (Wb Oa)<=Oa:=by
 cases o with
 |BH=>exact h
 |A9 i=>exact wg Oa i
theorem nT {a b n:BF} (h:a - b=n) (ha:a<=n) (hb:b<=n):b=0:=by omega
theorem Ac.Gk {vs:AT V} {xs:AT Bl} (b:BF) (r:Ac w σ vs xs):Ac w σ (vs.Gk b) (xs.Gk b):=
 Ac.Vb (P:=λvs xs=>∀b,Ac w σ (vs.Gk b) (xs.Gk b)) (λb=>BF.Ou b rfl λ_=>rfl) (λ_ _ _ _ a _ ih b=>BF.Ou b rfl λb=> .Dc a (ih b)) r b
theorem Ac.F3 {vs:AT V} {xs:AT Bl} (b:BF) (r:Ac w σ vs xs):Ac w σ (vs.F3 b) (xs.F3 b):=
 Ac.Vb (P:=λvs xs=>∀b,Ac w σ (vs.F3 b) (xs.F3 b)) (λb=>BF.Ou b rfl λ_=>rfl) (λ_ _ _ _ a r ih b=>BF.Ou b (.Dc a r) ih) r b
theorem Ac.cut {vs:AT V} {xs:AT Bl} (a b:BF) (r:Ac w σ vs xs):Ac w σ (PL.cut vs a b) (PL.cut xs a b):=(r.Gk b).F3 a
theorem iB {v:V} {x:Bl} {lo:Bq Dt} (hv:Ad w σ v x) (h:IE v=A9 lo):IsPart x lo/\∃l,x=PM l/\l.FW (·.1)=lo:=by
 refine fW (q:=λv=>Ad w σ v x->IsPart x lo/\∃l,x=PM l/\l.FW (·.1)=lo) h (λt h=>aF (P:=(· =A9 lo)) h (λn e h=> ?_) λh=>dj h λe h=> ?_) hv
 .refine ba (q:=λt=>Ad w σ (.t t) x->_) e λhv=> ?_
  obtain⟨t,Cs⟩:=Ah.LO (w:=w) (fz:=σ.fz) hv;exact Bq.A9.Ky h▸⟨.D4 _ _,A9 (_,t),Cs,Cs⟩
 .exact cj (q:=λt=>Ad w σ (.t t) x->_) e λhv=>(Ah.Vt (w:=w) (fz:=σ.fz) hv)▸h▸⟨.BH,Bq.BH,Cs,Cs⟩
theorem xq {x:Dr} {lo hi:Bq Dt} {l u:Bq (Dt×Tok)} (hl:l.FW (·.1)=lo) (hu:u.FW (·.1)=hi):
  (RX x l u BH).Q3 (x.cps[·]?)=PL.cut (Aj x) (Iz (Aj x).A8 lo) (Ja (Aj x).A8 hi)/\((RX x l u BH).A8=x.A8->PL.cut (Aj x) (Iz (Aj x).A8 lo) (Ja (Aj x).A8 hi)=Aj x):=by
 have Oa:(Aj x).A8=x.A8:=by simp[Aj,Dr.A8]
 have e:RX x l u BH=(AT.range (Ja (Aj x).A8 hi - Iz (Aj x).A8 lo)).FW (Iz (Aj x).A8 lo+ ·):=by
  unfold RX;rw[hl,hu,lM,lR,Oa]
  have:Kj.Dr.strSliceIndices lo hi 1 x.A8=sliceRange ((lo.Dk 0 (Wb x.A8):BF):Dt) ((hi.Dk x.A8 (Wb x.A8):BF):Dt) 1:=by
   unfold Kj.Dr.strSliceIndices;cases lo<;>cases hi<;>simp[clipAt_cast]
  show Kj.Dr.strSliceIndices lo hi 1 x.A8=_;rw[F4,sliceRange_one]
 refine⟨by rw[e,pick_run,jq];rfl,λh=> ?_⟩;rw[e,AT.Lc,AT.length_range] at h;have h1:Ja (Aj x).A8 hi<=(Aj x).A8:=lR _ hi▸nh hi `M;have h2:Iz (Aj x).A8 lo<=(Aj x).A8:=lM _ lo▸nh lo (BF.zero_le _);rw[<-Oa] at h;rw[jq,show Ja (Aj x).A8 hi - Iz (Aj x).A8 lo=(Aj x).A8 from h,nT h h1 h2,AT.W0,AT.Q5]
theorem uX (x:Dr):GQ (Aj x)=x:=by
 obtain⟨⟨l⟩⟩:=x;rfl
section
variable {value:D8.Ez} {elo ehi:Bq D8.Ez} {p:Oz} {lo hi:Bq Dt} {l u:Bq (Dt×Tok)} {d:EA}
theorem nX (R:`b s) (hs:s.Dn.IsSliceOf d (PM l) (PM u) .BH) (p1:IsPart (PM l) lo) (p2:IsPart (PM u) hi) {o:V} {x:Bl} (ro:Ad w σ o x) {vs:AT V} (e:AX cs o=A9 vs) (hb:vs.A8<=5000)
  (h:an (LH (.Dg (PL.cut vs (Iz vs.A8 lo) (Ja vs.A8 hi))) cs k)) (hQ:`l):`a A (P1 value (.Slice elo ehi BH p) x (.C9 d)) Q E s:=by
 obtain⟨a,xs,nn,Cs,g1,g2⟩:=bv R.1 ro e;obtain⟨m,G2,F,N,PI⟩:=R.list;have Oa:=g2.A8;refine WN (T:="list") (ae g1).VK Vw.H6 (wpAny_getItem_list_slice (ae g1) hs p1 p2 .BH (by simp) ?_ (by rw[AT.JM,Oa,Kq];omega)) (RF:=[.C9 d,.C9 a]) rfl;rw[slicePick_plain];have ex:(AT.Gk (hi.Dk xs.E6.Id (Wb xs.E6.Id) - lo.Dk 0 (Wb xs.E6.Id)) (AT.F3 (lo.Dk 0 (Wb xs.E6.Id)) xs.E6.Ob)).E6=(PL.cut xs (Iz vs.A8 lo) (Ja vs.A8 hi)).E6:=by
  rw[jq,lM,lR,AT.JM,Oa]
 rw[ex];obtain⟨l3,R4,v4⟩:=PI _ _ (PL.cut xs (Iz vs.A8 lo) (Ja vs.A8 hi)) 0 _ s.Dp (F.Lr _) (N.Lr F _) aq (g2.cut _ _);exact hQ _ _ _ _ _ l3 R4 v4 h
theorem nW (R:`b s) (hs:∃o,s.Dn.D7 d=A9 o/\o.Ov= .Ds "slice"/\o.KA= .J5 #[PM l,PM u,.BH]) (hl:l.FW (·.1)=lo) (hu:u.FW (·.1)=hi) {y:Dr} {x:Bl} (rx:Ah w σ.fz (.Dq y) x) (N9:(Aj y).A8<=5000)
  (h:an (k (.t (.Dq (GQ (PL.cut (Aj y) (Iz (Aj y).A8 lo) (Ja (Aj y).A8 hi))))) cs)) (hQ:`l):`a A (P1 value (.Slice elo ehi BH p) x (.C9 d)) Q E s:=by
 obtain⟨t,Cs⟩:=rx.Od;have K7:∀z tk tk',z=GQ (PL.cut (Aj y) (Iz (Aj y).A8 lo) (Ja (Aj y).A8 hi))->Q (.Dq z tk) {s with Dp:=tk'}:=λz tk tk' e=>hQ _ (.t (.Dq z)) _ _ _ σ.G5 `af jA (by rw[e];exact h);refine WN (T:="str") rfl F.slot_str_getitem.H6 (wpAny_getItem_str_slice (l:=l) (u:=u) (st:=BH) hs rfl ?_) (RF:=[.C9 d,.Dq y t]) rfl;obtain⟨c1,c2⟩:=xq (x:=y) hl hu;unfold sliceMade;split
 .rename_i hc
  simp only[CV.DG] at hc;exact K7 y t _ (by rw[c2 (by simpa using hc.2),uX])
 .refine⟨?_,K7 ⟨((RX y l u BH).Q3 (y.cps[·]?)).E6⟩ _ _ (by rw[c1];rfl)⟩
  show((RX y l u BH).Q3 (y.cps[·]?)).E6.Id<=WO
  rw[c1,AT.JM,jq,Kq,AT.Ok,AT.LF];exact BF.On (BF.min_le_right _ _) (BF.On (BF.sub_le _ _) (BF.On N9 (by decide)))
end
theorem sY (S:`e) (H:`g) {o:V} {x:Bl} {value:D8.Ez} {lo hi:Bq D8.Ez} {p:Oz} (R:`b s) (ro:Ad w σ o x) (ha:BZ an)
  (h:an (TK r cx lo ve cs (λa KM=>TK r cx hi ve KM (λb Se=>EE o a b Se k) ke) ke)) (hQ:`l) (hE:`k):
  `a X.A (Oc (.Slice lo hi BH p) CL) (λi s₂=>`a X.A (P1 value (.Slice lo hi BH p) x i) Q E s₂) E s:=by
 have part:∀{e:Bq D8.Ez} {σ:Sg} {cs:St} {s:CW} {k:KV} {Q:Bl->CW->Prop},`b s->an (TK r cx e ve cs k ke)->`l->`k->`a X.A (evalPart e CL) Q E s:=λ{e σ cs s k Q} R h hQ hE=>by
  cases e with
  |BH=>exact De (hQ σ (.t .Kr) _ _ _ σ.G5 R jB h)
  |A9 e=>exact S X cx CL e σ ve cs s k ke Q E H R ha h hQ hE
 refine wpAny_Slice (part R h ?_ hE);intro σ1 a y G1 s1 l1 R1 ra h;refine part R1 h ?_ `D;intro σ2 b z KM s2 l2 R2 rb h;rw[evalPart_none];refine De ?_;refine ab ha h λlo' e1 h=>ab ha h λhi' e2 h=> ?_;obtain⟨p1,l,Cs,hl⟩:=iB (ra.Ey l2) e1;obtain⟨p2,u,Cs,hu⟩:=iB rb e2;have ro2:=(ro.Ey l1).Ey l2;have hQ2:=(hQ.Ey l1).Ey l2;have Rs:Ak w X σ2 CL ve KM {s2 with Dn:=s2.Dn.Lr {Ov:= .Ds "slice",KA:= .J5 #[PM l,PM u,.BH]}}:=⟨R2.1.Lr _,R2.2⟩;clear hE R R1 R2 S part hQ ra rb;have Dg:=λ(h:an (AA (AX KM o) 64 λl=>br `V (LH (.Dg (PL.cut l (Iz l.A8 lo') (Ja l.A8 hi'))) KM k) (.D9 40)))=>ab (q:=`a X.A (P1 value (.Slice lo hi BH p) x (.C9 s2.Dn.KL.Id)) Q E {s2 with Dn:=s2.Dn.Lr {Ov:= .Ds "slice",KA:= .J5 #[PM l,PM u,.BH]}}) ha h λvs e h=>am ha h λhb h=>
  nX Rs (Ev.IsSliceOf.PE ..) p1 p2 ro2 e (BF.Lx.mp hb:_<=5000) h hQ2
 cases o with
 |FN _=>exact Dg h
 |t o=>cases o with
  |Dq y=>exact am ha h λhb h=>nW Rs ⟨_,Ev.JW _ rfl,Cs,Cs⟩ hl hu ro2 (BF.Lx.mp hb) h hQ2
  |_=>exact Dg h
end
section
variable {Q:Bl->CW->Prop}
theorem jm (S:`e) (H:`g) (R:`b s) {o i:D8.Ez} {HW:Oz} (ha:BZ an) (h:an (HR G r cx (.Qs o i HW) ve cs k ke)) (hQ:`l) (hE:`k):
  `a X.A (Oc (.Qs o i HW) CL) Q E s:=by
 refine Subscript_ (S X cx CL o σ ve cs s _ ke _ E H R ha h ?_ hE);intro σ1 v x G1 s1 l1 R1 rv h;dsimp only at h;cases hi:L6 i with
 |A9 p=>
  rw[hi] at h;exact qt (q:=λi=>`a X.A (Oc i CL) (λi' s₂=>`a X.A (P1 o i x i') Q E s₂) E s1) hi λ_=>sY S H R1 rv ha h `L `D
 |BH=>
  rw[hi] at h;refine S X cx CL i σ1 ve G1 s1 _ ke _ E H R1 ha h ?_ `D;intro σ2 u y KM s2 l2 R2 ru h;refine v5 S H R2 (rv.Ey l2) ru ha h ((hQ.Ey l1).Ey l2) λa b=> ?_;cases i with
  |Slice lo up st p=>
   cases st with
   |BH=>cases hi
   |A9 st=>rfl
  |_=>rfl
theorem C1.toV {es:AT (Dr×T)}:∀{ds:AT Ex},C1 w σ.fz es ds->AI w σ (Aah es) ds:=by
 induction es with
 |HU=>exact id
 |Dc p es ih=>
  intro ds h;obtain⟨e,es',e1,e2,e5,e6⟩:=h;exact⟨e,es',e1,e2,e5,ih e6⟩
def GX (w:FX) (σ:Sg) (h:Ev) (c:BF) (fs:AT (Dr×V)) (x:Bl):Prop:=∃a d ds n,x= .C9 a/\h.D7 a=A9 (Rh c d)/\h.D7 d=A9 (AK ds n)/\AI w σ fs ds
theorem si {h:Ev} {v:V} {c:BF} {fs:AT (Dr×V)} {x:Bl} (R:`n h) (hv:Ad w σ v x) (e:GU cs v=A9 (c,fs)):GX w σ h c fs x:=by
 have ofT:∀{t:T} {p},Ah w σ.fz t x->IX t=A9 p->GX w σ h p.1 (Aah p.2) x:=λ{t p} hr e=>qu (q:=λt=>Ah w σ.fz t x->GX w σ h p.1 (Aah p.2) x) e (λhr=>by
  obtain⟨a,d,xs,n,e1,e2,e3,e4⟩:=hr.ins_inv;exact⟨a,d,xs,n,e1,(R.WC e2).1,(R.WC e3).1,e4.toV⟩) hr
 refine aF (P:=(· =A9 (c,fs))) e (λt e1 e=>bB (q:=λv=>Ad w σ v x->GX w σ h c fs x) e1 (λhv=>ob e λp e2 e=>by cases e;exact ofT hv e2) hv) λe=>ob e λcc e1 e=>l8 R hv e1 λp os hx hr hm=> ?_;refine aF (P:=(· =A9 (c,fs))) e (λl e3 e=>nG (q:=λc'=>Bf w σ p c' os->GX w σ h c fs x) e3 (λhr=> ?_) hr) λe=>ob e λt e3 e=>ob e λts e4 e=>l9 (q:=λc'=>Bf w σ p c' os->GX w σ h c fs x) e3 (λhr=>by cases e;exact ofT (hx▸hr.2) e4) hr;cases e;obtain⟨xs,n,e1,e2⟩:=hr;exact⟨_,_,xs,n,hx,(hm _ (by rewrite [e1];exact .Jn _)).1,(hm _ (by rewrite [e1];exact .Do _ (.Jn _))).1,e2⟩
def DL (K:Lo) (C:BF) (x:Dr):CV:=Z7 (clsIn K C) (·.OC) Be&&Of K (.C9 C) x==A9 BH&&Of K (.C9 C) "__getattribute__"==A9 (A9 (.Dd "object.__getattribute__"))
theorem gj {e:Ex} {k x:Dr} (h:∃t,e.Qt= .Dq k t):e.Qt.Wu x=KH k x:=by
 obtain⟨t,h⟩:=h;rw[h];exact CV.Wc.Lq (Kw.CX aB.Hl)
theorem f8 {fs:AT (Dr×V)} {x:Dr} {v:V} {ds:AT Ex} {n:BF} (r:AI w σ fs ds) (h:BU fs x=A9 v):∃y,lookIn x (AK ds n)=A9 (A9 y)/\Ad w σ v y:=by
 have:∃e,ds.find? (·.Qt.Wu x)=A9 e/\Ad w σ v e.W4:=AI.Vb (P:=λfs ds=>BU fs x=A9 v->∃e,ds.find? (·.Qt.Wu x)=A9 e/\Ad w σ v e.W4) (λh=>nomatch h)
  (λp fs e es hk a _ ih h=>by
   rw[AT.find?_cons,gj hk];cases q:KH p.1 x with
   |Bj=>exact⟨e,Cs,Bq.A9.Ky ((bw q).Hl.CX h)▸a⟩
   |Be=>exact ih ((bj q).Hl.CX h)) r h
 obtain⟨e,e1,e2⟩:=F4;refine⟨e.W4,?_,e2⟩;unfold lookIn AK
 show(match ds.find? (·.Qt.Wu x) with|A9 e=>_|BH=>_)=_
 rw[e1]
theorem sw {v:V} {y:Bl} (hv:Ad w σ v y) (h:E8 v=Bj):handedIn y=Bj:=by
 cases v with
 |FN i=>obtain⟨p,_,Cs⟩:=hv;rfl
 |t t=>
  have hv:Ah w σ.fz t y:=hv;cases t with
  |Kr=>rw[hv.Vt];rfl
  |G6=>rw[hv.VT];rfl
  |D4=>obtain⟨t,Cs⟩:=hv.LO;rfl
  |Dq=>obtain⟨t,Cs⟩:=hv.Od;rfl
  |Ld=>obtain⟨a,xs,Cs,_⟩:=hv.Qx;rfl
  |Dg=>obtain⟨a,xs,n,Cs,_⟩:=hv.lst_inv;rfl
  |Rv=>obtain⟨a,xs,n,Cs,_⟩:=hv.dct_inv;rfl
  |LJ=>obtain⟨a,d,xs,n,Cs,_⟩:=hv.ins_inv;rfl
  |Km y=>cases h
theorem Ak.KIn (H:C5 K X) (R:`b s):K.In s.Dn:=by
 exactλa o e=>R.1.Qd H (H.KX a o e)
theorem jf {h:Ev} {a d c:BF} {ds:AT Ex} {n:BF} (h1:h.D7 a=A9 (Rh c d)) (h2:h.D7 d=A9 (AK ds n)):InstAt h a (Rh c d) c (A9 (AK ds n)):=⟨h1,Cs,Cs,h2⟩
theorem oZ (H:C5 K X) (R:`b s) {v u:V} {c:BF} {fs:AT (Dr×V)} {x:Bl} {F6:Dr} {expr:CV} (hv:Ad w σ v x) (e:GU cs v=A9 (c,fs)) (hf:DL K c F6=Bj) (e2:BU fs F6=A9 u) (ho:E8 u=Bj)
  (hQ:∀y tk,Ad w σ u y->Q y {s with Dp:=tk}):`a X.A (getAttr x F6 expr) Q E s:=by
 obtain⟨a,d,ds,n,Cs,h1,h2,r⟩:=si R.1 hv e;obtain⟨y,g1,g2⟩:=f8 (n:=n) r e2;unfold DL at hf;simp only[CV.DG,Kw] at hf;obtain⟨⟨f1,V1⟩,f3⟩:=hf;refine get_value (R.KIn H) (jf h1 h2) f3 ?_ (sw g2 ho) (hQ y _ g2);refine aF (P:=(· =Bj)) f1 (λcd hc f1=> ?_) λh=>nomatch h;unfold findObj;rw[hc,V1];show Bq.G3 (if cd.OC=Bj then lookIn F6 (AK ds n) else _) _=_;rw[f1,Lu rfl,g1];rfl
theorem nJ {o:D8.Ez} {F6:Dr} {CL:Qp} {k:U8 Bl} (h:Hg o=Bj):VL o F6 CL k=k:=by
 cases o with
 |QI f as ks p=>cases f with
  |JV x px=>cases as with
   |HU=>cases ks with
    |HU=>exact CV.JT (h:Be=Bj)
    |Dc _ _=>rfl
   |Dc _ _=>rfl
  |_=>rfl
 |_=>rfl
theorem v7 (GF:∀c x,G.fld c x=Bj->DL K c x=Bj) (S:`e) (H:`g) (R:`b s) {o:D8.Ez} {F6:Dr} {HW:Oz} (ha:BZ an) (h:an (HR G r cx (.JU o F6 HW) ve cs k ke)) (hQ:`l) (hE:`k):
  `a X.A (Oc (.JU o F6 HW) CL) Q E s:=by
 unfold HR at h;dsimp only at h;refine am ha h λhb h=> ?_;have he:Oc (.JU o F6 HW) CL=(do
   let v <-Oc o CL
   Wa HW.atName
   let r <-Qy [v] (getAttr v F6 Bj)
   letTemporaryGo o v r
   Kp r):=by
  have:VL o F6 CL (Oc o CL)=Oc o CL:=nJ hb
  show(do
   let v <-VL o F6 CL (Oc o CL)
   Wa HW.atName
   let r <-Qy [v] (getAttr v F6 Bj)
   letTemporaryGo o v r
   Kp r)=_
  rw[F4]
 refine Attribute_any_ (S X cx CL o σ ve cs s _ ke _ E H R ha h ?_ hE) he;intro σ1 v x G1 s1 l1 R1 rv h;refine ab ha h λp e1 h=> ?_;refine am ha h λhf h=> ?_;refine ab ha h λu e2 h=> ?_;refine am ha h λho h=> ?_;exact oZ H.x R1 rv e1 (GF _ _ hf) e2 ho λy tk ry=>hQ _ _ _ _ _ l1 `aG ry h
end
theorem kf {n:Dr}:∀{r:AT (Dr×Bl)},n∈r.FW (·.1)->(r.H6 n).isNone=Be:=by
 intro r
 induction r with
 |HU=>intro h;cases h
 |Dc x r ih=>
  intro h;rw[AT.RY];cases e:n==x.1 with
  |Bj=>rfl
  |Be=>exact ih ((AT.GZ.mp h).Dk (λq=>Ks (Kw.Lq q) (by rw[e];exact CV.Ki)) id)
theorem u3 {n:Dr} {r:AT (Dr×Bl)} (h:n∉r.FW (·.1)):(r.H6 n).isNone=Bj:=by
 rewrite [AT.lookup_eq_none_iff.Lq λp hp=>bne_iff_ne.Lq λq=>h (by rewrite [q];exact AT.Ib hp)];rfl
theorem rJ:∀{z:AT (Dr×Bl)},(z.FW (·.1)).Oq->((z.FW (·.1)).Q3 λn=>(z.H6 n).FW λv=>(n,v))=z:=by
 have:∀(y z:AT (Dr×Bl)),(∀x∈y,z.H6 x.1=A9 x.2)->((y.FW (·.1)).Q3 λn=>(z.H6 n).FW λv=>(n,v))=y:=by
  intro y z
  induction y with
  |HU=>intro _;rfl
  |Dc x y ih=>
   intro h;rw[AT.JS,AT.filterMap_cons,h x (.Jn _)];exact FY (x:: ·) (ih λu hu=>h u (.Do _ hu))
 have at_:∀(z:AT (Dr×Bl)),(z.FW (·.1)).Oq->∀x∈z,z.H6 x.1=A9 x.2:=by
  intro z
  induction z with
  |HU=>intro _ x h;cases h
  |Dc y z ih=>
   intro nd x h;have nd:=AT.Kv.mp nd;rw[AT.RY];cases e:x.1==y.1 with
   |Bj=>exact(AT.GZ.mp h).Dk (λq=>by rw[q]) λq=>(nd.1 (show y.1∈_ by rewrite [<-Kw.mp e];exact AT.Ib q)).Dk
   |Be=>exact(AT.GZ.mp h).Dk (λq=>Ks (q▸RG y.1:(x.1==y.1)=Bj) (by rw[e];exact CV.Ki)) λq=>ih nd.2 x q
 exactλ{z} nd=>F4 z z (at_ z nd)
def Fz (r:AT (Dr×Bl)) (x:Dr×Bl):AT (Dr×Bl):=if(r.H6 x.1).isNone=Bj then r++[(x.1,x.2)] else r
theorem lT (L:AT (Dr×Bl)) (r:AT (Dr×Bl)):(forIn L r λ(x:Dr×Bl) (r:AT (Dr×Bl))=>
  (if(r.H6 x.1).isNone=Bj then Kp (Q6.yield (r++[(x.1,x.2)])) else Kp (Q6.yield r):U8 (Q6 (AT (Dr×Bl)))))=Kp (L.foldl Fz r):=by
 induction L generalizing r with
 |HU=>rfl
 |Dc x L ih=>
  rw[AT.QV,AT.foldl_cons];unfold Fz;split
  .rw[pure_bind];exact ih _
  .rw[pure_bind];exact ih _
theorem sO:∀(L r:AT (Dr×Bl)),(∀x∈L,x.1∈r.FW (·.1))->L.foldl Fz r=r:=by
 intro L
 induction L with
 |HU=>intro _ _;rfl
 |Dc x L ih=>exactλr h=>(FY (λr=>L.foldl Fz r) (Ko (by rw[kf (h x (.Jn _))];exact CV.Ki))).CX (ih r λy hy=>h y (.Do _ hy))
theorem sP:∀(L r:AT (Dr×Bl)),(∀x∈L,x.1∉r.FW (·.1))->(L.FW (·.1)).Oq->L.foldl Fz r=r++L:=by
 intro L
 induction L with
 |HU=>exactλr _ _=>(AT.H7 r).Hl
 |Dc x L ih=>
  intro r h nd;have nd:=AT.Kv.mp nd
  refine(FY (λr=>L.foldl Fz r) (Lu (u3 (h x (.Jn _))))).CX ((ih _ (λy hy hm=> ?_) nd.2).CX (AT.F7 r [x] L))
  rw[AT.J8] at hm;exact(AT.JX.mp hm).Dk (h y (.Do _ hy)) λq=>nd.1 ((AT.H9.mp q)▸AT.Ib hy)
theorem vP {A B C:AT Dr} {xs D1 D2:AT Bl} (hA:A.A8=xs.A8) (hC:∀n∈C,n∈A) (hCl:C.A8=D1.A8) (hB:B.A8=D2.A8) (nd:(A++B).Oq):
  ((C++B).Vl (D1++D2)).foldl Fz (A.Vl xs)=(A++B).Vl (xs++D2):=by
 have ka:(A.Vl xs).FW (·.1)=A:=AT.map_fst_zip (BF.QK hA);have kb:(B.Vl D2).FW (·.1)=B:=AT.map_fst_zip (BF.QK hB);have nd:=AT.Lj.mp nd;rw[AT.zip_append hCl,AT.zip_append hA,AT.foldl_append,sO (C.Vl D1) (A.Vl xs) λx hx=>by rewrite [ka];exact hC _ (AT.Wd hx).1];exact sP _ _ (λx hx h=>by rewrite [ka] at h;exact nd.2.2 _ h _ (AT.Wd hx).1 rfl) (by rewrite [kb];exact nd.2.1)
section
variable {P:AT Dr} {ds xs:AT Bl} (h1:xs.A8<=P.A8) (h2:P.A8<=xs.A8+ds.A8) (h3:ds.A8<=P.A8)
include h1 h2 h3
theorem qr:P.A8 - ds.A8+(xs.A8+ds.A8 - P.A8)=xs.A8:=(BF.Va _ _).CX ((BF.sub_add_sub_cancel h2 h3).CX (BF.add_sub_cancel ..))
theorem uj:(P.Gk (P.A8 - (ds.F3 (ds.A8 - P.A8)).A8)).filter (λn=>((P.Vl xs).H6 n).isNone)=[]:=by
 rw[BF.sub_eq_zero_of_le h3,AT.W0];refine AT.filter_eq_nil_iff.Lq λn hn=> ?_;have hA:(P.Gk xs.A8).A8=xs.A8:=AT.length_take_of_le h1;have ZU:=AT.zip_append (r₁:=P.F3 xs.A8) (r₂:=([]:AT Bl)) hA;rw[AT.Kb,AT.H7,AT.zip_nil_right,AT.H7] at ZU;rw[ZU,kf (by rewrite [AT.map_fst_zip (BF.QK hA)];exact AT.take_subset_take_left P (qr h1 h2 h3▸BF.We _ _) hn)];exact CV.Ki
theorem zr (nd:P.Oq):(P.Q3 λn=>(((((P.F3 (P.A8 - (ds.F3 (ds.A8 - P.A8)).A8)).Vl (ds.F3 (ds.A8 - P.A8))).foldl Fz (P.Vl xs)).H6 n).FW λv=>(n,v)))=P.Vl (xs++ds.F3 (xs.A8+ds.A8 - P.A8)):=by
 rw[BF.sub_eq_zero_of_le h3,AT.W0];have pf:=qr h1 h2 h3;have hA:(P.Gk xs.A8).A8=xs.A8:=AT.length_take_of_le h1;have hB:(P.F3 xs.A8).A8=(ds.F3 (xs.A8+ds.A8 - P.A8)).A8:=by
  rw[AT.LF,AT.LF];exact(BF.sub_eq_of_eq_add (((BF.add_sub_cancel_left _ _).Hl.CX (BF.sub_add_sub_cancel h2 h1).Hl).CX (BF.Va _ _))).Hl
 have ZU:=AT.zip_append (r₁:=P.F3 xs.A8) (r₂:=([]:AT Bl)) hA;rw[AT.Kb,AT.H7,AT.zip_nil_right,AT.H7] at ZU;have K7:=vP (A:=P.Gk xs.A8) (B:=P.F3 xs.A8) (C:=(P.F3 (P.A8 - ds.A8)).Gk (xs.A8+ds.A8 - P.A8)) (D1:=ds.Gk (xs.A8+ds.A8 - P.A8)) (D2:=ds.F3 (xs.A8+ds.A8 - P.A8)) hA
  (λn hn=>by rewrite [AT.take_drop,pf] at hn;exact AT.QP hn)
  (by rw[AT.Ok,AT.Ok,AT.LF,BF.sub_sub_self h3]) hB (by rewrite [AT.Kb];exact nd)
 rw[<-ZU,show P.F3 xs.A8=(P.F3 (P.A8 - ds.A8)).F3 (xs.A8+ds.A8 - P.A8) by rw[AT.RB,pf],AT.Kb,AT.Kb,AT.RB,pf,AT.Kb] at K7;rw[K7];have kp:(P.Vl (xs++ds.F3 (xs.A8+ds.A8 - P.A8))).FW (·.1)=P:=AT.map_fst_zip (by rw[AT.DE,<-hB,AT.LF,BF.add_sub_cancel' h1];exact BF.G5 _)
 have:=rJ (z:=P.Vl (xs++ds.F3 (xs.A8+ds.A8 - P.A8))) (kp.Hl▸nd)
 rw[kp] at F4;exact F4
end
theorem eW {s:CW} {fd:U9} {ns:AT Arg} {dl:AT D8.Ez} {ds xs:AT Bl} (hp:fd.Ew=⟨[],ns,BH,[],[],BH,dl⟩) (nd:(ns.FW (·.arg)).Oq)
  (hdef:∀(M:VX) (A:Ke) (E:Bl->CW->Prop) (Q:Bq (KU Bl)->CW->Prop),(∀r,(r.RT #[]).Ob=ds->Q r s)->Ic M A (RH fd.VQ) Q E s)
  (h1:xs.A8<=ns.A8) (h2:ns.A8<=xs.A8+ds.A8) (h3:ds.A8<=ns.A8):
  BindsTo s fd ⟨xs,[]⟩ ((ns.FW (·.arg)).Vl (xs++ds.F3 (xs.A8+ds.A8 - ns.A8))):=by
 intro M A E Q hQ;unfold bindArgs;refine Ch (De (Ch (hdef M A E _ λr hr=> ?_)));rw[hr];have hP:fd.Ew.posonlyargs.FW (·.arg)++fd.Ew.args.FW (·.arg)=ns.FW (·.arg):=by rw[hp];rfl
 have hN:(fd.Ew.posonlyargs.FW (·.arg)++fd.Ew.args.FW (·.arg)).A8=ns.A8:=by rw[hP];exact AT.Lc _
 rw[<-hP] at nd hQ;rw[<-hN] at h1 h2 h3 hQ;clear hN hdef hr;refine wpAny_ite_false (H5 λq=>Ks (P7 (CV.Kf.mp q).1) (BF.not_lt.Lq h1)) (wpAny_ite_false (H5 λq=>CV.Ki ((FY (λl=> !AT.RM l) (uj h1 h2 h3)).Hl.CX q)) ?_);dsimp only;rw[lT,pure_bind];simp only[hp,AT.Rm,AT.forIn_nil,pure_bind,AT.nil_append,AT.H7];refine De ?_;rw[hP] at h1 h2 h3 nd hQ;rw[zr h1 h2 h3 nd];exact hQ
def DK (h h':Ev):Prop:=∀b o,h.D7 b=A9 o->∃o',h'.D7 b=A9 o'/\o'.LG=o.LG/\V1 o'=V1 o
theorem DK.Xl (h:Ev):DK h h:=λb o e=>⟨o,e,Cs,Cs⟩
theorem DK.CX {a b c:Ev} (x:DK a b) (y:DK b c):DK a c:=λi o e=>
 let⟨o1,e1,d1⟩:=x i o e
 let⟨o2,e2,d2⟩:=y i o1 e1
 ⟨o2,e2,d2.1.CX d1.1,d2.2.CX d1.2⟩
structure KD {α:Type} (t:U8 α):Prop where
 out:∀(M:VX) (Γ:Ctx) (P:α->Oz->CW->Prop) (Ee:Bl->Oz->CW->Prop) (p:Oz) (s:CW),U8.wp M Γ t P Ee p s->
  U8.wp M Γ t (λa p' s'=>P a p' s'/\DK s.Dn s'.Dn) (λe p' s'=>Ee e p' s'/\DK s.Dn s'.Dn) p s
namespace KD
variable {α β:Type}
theorem Kp (a:α):KD (Pure.Kp a:U8 α):=⟨λM Γ P Ee p s h=>by rw[U8.wp_pure'] at h⊢;exact⟨h,.Xl _⟩⟩
theorem LE (w:Qf):KD (D8.LE w:U8 α):=⟨λ_ _ _ _ _ _ h=>by exact h.Dk⟩
theorem G3 {m:U8 α} {f:α->U8 β} (hm:KD m) (hf:∀a,KD (f a)):KD (m>>=f):=⟨λM Γ P Ee p s h=>by
 rw[U8.wp_bind'] at h⊢;refine U8.wp_mono M Γ m (λa p' s' h'=> ?_) (λ_ _ _ x=>x) p s (hm.out M Γ _ Ee p s h);exact U8.wp_mono M Γ (f a) (λb p2 s2 z=>⟨z.1,h'.2.CX z.2⟩) (λb p2 s2 z=>⟨z.1,h'.2.CX z.2⟩) p' s' ((hf a).out M Γ P Ee p' s' h'.1)⟩
theorem vu {c:Prop} [Decidable c] {t u:U8 α} (ht:KD t) (hu:KD u):KD (if c then t else u):=by split<;>assumption
theorem load (a:EA):KD (D8.load a):=⟨λM Γ P Ee p s h=>by
 obtain⟨o,ho,h⟩:=h;exact⟨o,ho,h,.Xl _⟩⟩
theorem stack:KD D8.stack:=⟨λM Γ P Ee p s h=>by
 unfold D8.stack at h⊢;rw[U8.wp_stack] at h⊢;rw[U8.wp_pure] at h⊢;exact⟨h,.Xl _⟩⟩
theorem LH (o:KJ):KD (D8.LH o):=⟨λM Γ P Ee p s h=>by
 unfold D8.LH at h⊢;rw[U8.wp_alloc] at h⊢;rw[U8.wp_pure] at h⊢;exact⟨h,λb o' e=>⟨o',Ev.EB _ e,Cs,Cs⟩⟩⟩
theorem KO (a:EA) (f:KJ->KJ) (hf:∀o,((f o).LG=o.LG/\V1 (f o)=V1 o)/\(f o).Vp=o.Vp):KD (D8.KO a f):=⟨λM Γ P Ee p s h=>by
 unfold D8.KO at h⊢;rw[U8.wp_update] at h⊢;rw[U8.wp_pure] at h⊢;refine⟨h.1,h.2,λb o e=> ?_⟩
 by_cases hb:b=a
 .subst hb
  have hfr:o.Vp=Be:=by
   obtain⟨c,d,dt,sl⟩:=o;cases dt<;>first|rfl|skip
   exact Ks ((Ev.get?_eq_some _ _ _).1 e).2 (by simp[KJ.alive])
  exact⟨f o,Ev.Ku _ e (by rw[(hf o).2,hfr]),(hf o).1⟩
 .exact⟨o,(Ev.MP _ _ _ _ hb).CX e,Cs,Cs⟩⟩
theorem fieldsOf (v:Bl):KD (D8.fieldsOf v):=by
 unfold D8.fieldsOf;cases v with
 |C9 a=>
  refine G3 (load _) λo=> ?_;obtain⟨c,d,dt,sl⟩:=o;cases dt<;>first|exact Kp _|exact LE _
 |_=>exact LE _
theorem Vx (v:Bl) (i:BF):KD (D8.Vx v i):=by
 unfold D8.Vx;refine G3 (fieldsOf v) λvs=> ?_;cases vs[i]?<;>first|exact Kp _|exact LE _
theorem f6 {f:KU Bl->KU Bl} (hf:∀vs,(f vs)[2]?=vs[2]?) (o:KJ):((o.N6 f).LG=o.LG/\V1 (o.N6 f)=V1 o)/\(o.N6 f).Vp=o.Vp:=by
 obtain⟨c,d,dt,sl⟩:=o;cases dt<;>first|exact⟨⟨Cs,Cs⟩,Cs⟩|exact⟨⟨Cs,hf _⟩,Cs⟩
theorem Vf (v:Bl) (i:BF) (x:Bl) (hi:i≠2):KD (D8.Vf v i x):=by
 unfold D8.Vf;cases v with
 |C9 a=>
  show KD (updateField a i x);unfold updateField;refine G3 (load _) λo=> ?_;obtain⟨c,d,dt,sl⟩:=o;cases dt<;>first|exact vu (KO _ _ (f6 λvs=>KU.getElem?_setIfInBounds_ne hi)) (LE _)|exact LE _
 |_=>exact LE _
theorem zA (vs:AT Bl):KD (newFields "traceback" vs):=by
 unfold newFields newObj;have last:KD (newObjAsIs (.Ds "traceback") (.J5 vs.E6)):=G3 (LH _) λa=>Kp _;dsimp only;exact vu (G3 (LE _) λ_=>last) last
theorem Vg (CL:Qp) (J9:AT Qp):KD (D8.Vg CL J9):=by
 unfold D8.Vg;refine vu (Kp _) (vu (Kp _) ?_);exact G3 (Vx _ _) λ_=>Kp _
theorem Qj:KD D8.Qj:=by
 unfold D8.Qj;exact G3 stack λ_=>Kp _
theorem keptBack (CL:Qp) (i:CV) (l:AT Qp):KD (D8.keptBack CL i l):=by
 cases l with
 |HU=>
  unfold D8.keptBack;exact vu (Kp _) (G3 Qj λ_=>Kp _)
 |Dc=>exact Kp _
theorem readyFrames (l:AT Qp):KD (D8.readyFrames l):=by
 induction l with
 |HU=>exact Kp _
 |Dc CL J9 ih=>
  unfold D8.readyFrames;cases CL.Wp with
  |A9 a=>
   refine G3 (load _) λo=>vu (Kp _) (G3 (Vg CL J9) λb=>G3 (keptBack CL b J9) λv=>G3 (KO _ _ λo=>⟨⟨Cs,Cs⟩,?_⟩) λ_=>ih);obtain⟨c,d,dt,sl⟩:=o;cases dt<;>rfl
  |BH=>exact LE _
theorem frameObject (l:AT Qp):KD (D8.frameObject l):=by
 cases l with
 |HU=>exact Kp _
 |Dc CL J9=>
  unfold D8.frameObject;exact G3 (readyFrames _) λ_=>Kp _
theorem frameEnvs:KD D8.frameEnvs:=by
 unfold D8.frameEnvs;exact G3 stack λ_=>Kp _
theorem frameOf (CL:Qp):KD (D8.frameOf CL):=by
 unfold D8.frameOf;refine G3 frameEnvs λl=>G3 (frameObject _) λr=> ?_;split
 .exact Kp _
 .exact LE _
theorem Sj (f:EA) (b:CV):KD (D8.Sj f b):=by
 unfold D8.Sj;refine G3 stack λl=> ?_;split
 .exact Kp _
 .exact Kp _
theorem K0 (e:Bl) (CL:Qp):KD (D8.K0 e CL):=by
 have Do:∀(f:EA) (Jn:Bl),KD (do D8.Vf e 1 (<-EntryCells.newEntry Jn (<-D8.frameOf CL) .BH (Os f) .BH (<-D8.Sj f (Jn != .BH)))):=λf Jn=>
  G3 (frameOf CL) λa=>G3 (Sj _ _) λb=>G3 (zA _) λc=>Vf _ _ _ (by decide)
 unfold D8.K0;split
 .rename_i f hf
  refine G3 (Vx _ _) λJn=> ?_;refine vu ?_ (Do f Jn);refine G3 (Vx _ _) λx=>vu (Kp _) ?_;exact G3 (Vf _ _ _ (by decide)) λ_=>Do f Jn
 .exact LE _
theorem Oy (e:Bl) (fr:Bq EA):KD (D8.Oy e fr):=by
 unfold D8.Oy;exact G3 (Vx _ _) λtb=>vu (Vf _ _ _ (by decide)) (Kp _)
theorem QA (CL:Qp) (e:Bl):KD (D8.QA CL e):=by
 unfold D8.QA;exact G3 (K0 e CL) λ_=>Oy e _
theorem Xa {α:Type} {t:U8 α} (h:KD t) {M:VX} {A:Ke} {Q:α->CW->Prop} {E:Bl->CW->Prop} {s:CW} (x:Ic M A t Q E s):Ic M A t (λa s'=>Q a s'/\DK s.Dn s'.Dn) (λe s'=>E e s'/\DK s.Dn s'.Dn) s:=
 λΓ p hΓ=>h.out M Γ _ _ p s (x Γ p hΓ)
end KD
section
variable {X':Fx} {σ':Sg} {Lk:Qp} {Qk:Ag} {Kg:St} {m' ml':Dr->Bq Bl} {Qw:AT BR}
theorem Ad.to {σ2:Sg} {v:V} {x:Bl} {b:BF} (hf:σ2.fz=σ'.fz) (hc:∀j p,j<b->J7 σ'.ca j=A9 p->J7 σ2.ca j=A9 p) (hv:Ad w σ' v x) (hr:∀j∈Bx v,j<b):Ad w σ2 v x:=by
 cases v with
 |t t=>show Ah w σ2.fz t x;rw[hf];exact hv
 |FN i=>
  obtain⟨p,e1,e2⟩:=hv;exact⟨p,hc i p (hr i (.Jn _)) e1,e2⟩
theorem zZ {α β:Type} {f:α->AT β} {a:α} {l:AT α} {P:β->Prop} (h:∀j∈(a::l).KK f,P j):(∀j∈f a,P j)/\∀j∈l.KK f,P j:=by
 rw[AT.Wf] at h;exact⟨λj hj=>h j (AT.Ox _ hj),λj hj=>h j (AT.Kc _ hj)⟩
theorem fmi {α β:Type} {f:α->AT β} {a:α} {l:AT α} {P:β->Prop} (h1:∀j∈f a,P j) (h2:∀j∈l.KK f,P j):∀j∈(a::l).KK f,P j:=λj hj=>by
 rw[AT.Wf] at hj;exact(AT.JX.mp hj).Dk (h1 j) (h2 j)
theorem Bf.to {σ2:Sg} {p:EA×EA} {c:C} {os:BR} {b:BF} (hf:σ2.fz=σ'.fz) (hc:∀j p,j<b->J7 σ'.ca j=A9 p->J7 σ2.ca j=A9 p) (hv:Bf w σ' p c os) (hr:∀j∈CH c,j<b):Bf w σ2 p c os:=by
 cases c with
 |Dg vs=>
  obtain⟨xs,n,e,r⟩:=hv;exact⟨xs,n,e,Ac.Vb (P:=λvs xs=>(∀j∈vs.KK Bx,j<b)->Ac w σ2 vs xs) (λ_=>rfl) (λ_ _ _ _ a _ ih h=> .Dc (a.to hf hc (zZ h).1) (ih (zZ h).2)) r hr⟩
 |Rv es=>
  obtain⟨xs,n,e,r⟩:=hv;exact⟨xs,n,e,AV.Vb (P:=λvs xs=>(∀j∈vs.KK (λp=>Bx p.2),j<b)->AV w σ2 vs xs) (λ_=>rfl) (λ_ _ _ _ k i a _ ih h=> .Dc (hf▸k) i (a.to hf hc (zZ h).1) (ih (zZ h).2)) r hr⟩
 |LJ cc es=>
  obtain⟨xs,n,e,r⟩:=hv;exact⟨xs,n,e,AI.Vb (P:=λvs xs=>(∀j∈CH (.LJ cc vs),j<b)->AI w σ2 vs xs) (λ_=>rfl) (λp _ _ _ k a _ ih h=>have h:=zZ (f:=λp:Dr×V=>Bx p.2) (a:=p) h;.Dc k (a.to hf hc h.1) (ih h.2)) r hr⟩
 |fz x=>exact⟨hv.1,hf▸hv.2⟩
theorem Ap.to {σ2:Sg} {b:BF} (hf:σ2.fz=σ'.fz) (hc:∀j p,j<b->PL.J7 σ'.ca j=A9 p->PL.J7 σ2.ca j=A9 p) {ps:AT (EA×EA)} {cs:St} {G2:AT BR} (r:Ap w σ' ps cs G2):(∀c∈cs,∀j∈CH c,j<b)->Ap w σ2 ps cs G2:=
 r.Vb (P:=λps cs G2=>(∀c∈cs,∀j∈CH c,j<b)->Ap w σ2 ps cs G2) (λ_=>⟨Cs,Cs⟩) λ_ _ _ _ _ _ a _ ih h=> .Dc (a.to hf hc (h _ (.Jn _))) (ih λd hd=>h d (.Do _ hd))
theorem Ap.Le {ps ps':AT (EA×EA)} {cs Kg:St} {G2 Qw:AT BR} (r:Ap w σ ps cs G2) (e':Ap w σ ps' Kg Qw):Ap w σ (ps++ps') (cs++Kg) (G2++Qw):=
 r.Vb (P:=λps cs G2=>Ap w σ (ps++ps') (cs++Kg) (G2++Qw)) e' λ_ _ _ _ _ _ a _ ih=> .Dc a ih
theorem uJ {α:Type} {l:AT α} {c:α} (h:c∈l):∃i,J7 l i=A9 c:=(AT.mem_iff_getElem?.mp h).Dk λi e=>⟨i,bi.CX e⟩
theorem eP {α:Type} {l:AT α} {i b:BF} (h:i<b):J7 (l.Gk b) i=J7 l i:=bi.CX ((AT.getElem?_take_of_lt h).CX bi.Hl)
theorem qV {α:Type} {l:AT α} {i b:BF} {c:α} (h:J7 (l.Gk b) i=A9 c):i<b/\J7 l i=A9 c:=
 have k:=BF.PJ (lH h) (AT.length_take_le b l)
 ⟨k,(eP k).Hl.CX h⟩
theorem iS {v:V} {x:Bl} (hv:Ad w σ v x):∀j∈Bx v,j<σ.ca.A8:=λj hj=>by
 cases v with
 |t t=>simp[Bx] at hj
 |FN k=>
  simp only[Bx,AT.H9] at hj;subst hj;obtain⟨p,e1,e2⟩:=hv;exact lH e1
theorem qG {vs:AT V} {xs:AT Bl}:Ac w σ vs xs->∀j∈vs.KK Bx,j<σ.ca.A8:=Ac.Vb (P:=λvs _=>∀j∈vs.KK Bx,j<σ.ca.A8) (λ_ h=>nomatch h) λ_ _ _ _ a _ ih=>fmi (iS a) ih
theorem qI {vs:AT (T×V)} {xs:AT Ex}:AV w σ vs xs->∀j∈vs.KK (λp=>Bx p.2),j<σ.ca.A8:=AV.Vb (P:=λvs _=>∀j∈vs.KK (λp=>Bx p.2),j<σ.ca.A8) (λ_ h=>nomatch h) λ_ _ _ _ _ _ a _ ih=>fmi (iS a) ih
theorem qH {vs:AT (Dr×V)} {xs:AT Ex}:AI w σ vs xs->∀j∈vs.KK (λp=>Bx p.2),j<σ.ca.A8:=AI.Vb (P:=λvs _=>∀j∈vs.KK (λp=>Bx p.2),j<σ.ca.A8) (λ_ h=>nomatch h) λ_ _ _ _ _ a _ ih=>fmi (iS a) ih
theorem Bd.Oa (r:Ap w σ σ.ca cs G2):Bd cs.A8 cs:=λi c e hi j hj=>by
 obtain⟨p,os,hp,hc,hm⟩:=r.J7 e;rw[r.A8];cases c with
 |Dg vs=>obtain⟨xs,n,_,rr⟩:=hc;exact qG rr j hj
 |Rv es=>obtain⟨xs,n,_,rr⟩:=hc;exact qI rr j hj
 |LJ cc es=>obtain⟨xs,n,_,rr⟩:=hc;exact qH rr j hj
 |fz x=>simp[CH] at hj
theorem Bd.Gk {b:BF} (h:Bd b cs):∀c∈cs.Gk b,∀j∈CH c,j<b:=λc hc j hj=>by
 obtain⟨i,hi⟩:=uJ hc;obtain⟨a,e⟩:=qV hi;exact h i c e a j hj
theorem bW {α:Type} {a b:AT (AT α)} (h:a.Og b):a.H8.Og b.H8:=by
 induction h with
 |slnil=>exact AT.Og.Xl _
 |Dc x _ ih=>exact ih.CX (AT.sublist_append_right _ _)
 |cons_cons x _ ih=>exact AT.Og.Le `W ih
theorem bM {K:Lo} (H:C5 K X) (q:`j) {g g':Ev} (Vn:X'.J9=X.Li::X.J9) (Fg:Fr σ.gr X.L g m) (T':QO (Bo X') g g') (hk:∀b o,g'.D7 b=A9 o->h'.D7 b=A9 o):
  ∃γ,QO (Bo X) X.h₀ γ/\Fr γ X.L h' m/\(∀b o,γ.D7 b=A9 o->g'.D7 b=A9 o)/\(∃o,g'.D7 X.L=A9 o):=by
 have hself:σ.gr.D7 X.L=BH:=kts_self q.F;have hfs:Bo X'=X.L::Bo X:=by
  unfold Bo;rw[Vn,AT.filterMap_cons,H.ff]
 obtain⟨A₀,B⟩:=H.below q.T;obtain⟨T,S⟩:=kts_turn_at (h:=g') (fs:=Bo X) (g:=σ.gr)
  (λb hb=>by
   obtain⟨_,o,ho,_⟩:=B.KZ.PH hb;exact⟨o,ho⟩)
  (λb o e Z8=>T'.W8 b o (Fg.QH b o e) (λhm=>by
   rw[hfs] at hm;rcases AT.GZ.mp hm with z|z
   .rw[z,hself] at e;cases e
   .exact Z8 z))
  (λb o e hm=>T'.Wp b o (Fg.QH b o e) (by rw[hfs];exact .Do _ hm))
 obtain⟨oL,es,ep,hL,hLd,hLk,hLf⟩:=Fg.ns;obtain⟨sl,hs⟩:=T'.up hL;exact⟨_,q.T.CX T,⟨⟨_,es,ep,hk _ _ hs,hLd,hLk,hLf⟩,λb o e=>hk b o (S b o e),by rw[T.Id];exact q.F.above⟩,S,_,hs⟩
theorem eL {γ:Ev} (hbl:X'.bl=X.bl) (hbs:X'.bs=cs.A8::X.bs) (q:`j) (q':AN w X' σ' Lk Qk Kg h' m' ml' Qw) (le:σ.le σ')
  {px:AT (EA×EA)} {cx:St} {ox:AT BR} (hx:Ap w ⟨γ,σ'.fz,σ.ca++px⟩ px cx ox) (Xs:ox.Og (Qw.F3 cs.A8)) (T2:QO (Bo X) X.h₀ γ) (F2:Fr γ X.L h' m) (N2:Pz γ X.L h' (Aq X ⟨γ,σ'.fz,σ.ca++px⟩ (Qw.Gk cs.A8++ox))):
  ∃ml2,AN w X ⟨γ,σ'.fz,σ.ca++px⟩ CL ve (Kg.Gk cs.A8++cx) h' m ml2 (Qw.Gk cs.A8++ox):=by
 have hb:=q'.bd cs.A8 (by rw[hbs];exact .Jn _);have N9:=q.J2.A8;obtain⟨lf,l,hl⟩:=le;have hca:σ'.ca.Gk cs.A8=σ.ca:=by rw[hl,N9,AT.take_left]
 have le2:σ.le ⟨γ,σ'.fz,σ.ca++px⟩:=⟨lf,px,Cs⟩;have hc1:Ap w ⟨γ,σ'.fz,σ.ca++px⟩ σ.ca (Kg.Gk cs.A8) (Qw.Gk cs.A8):=by
  have:=q'.J2.Gk cs.A8
  rw[hca] at F4;refine Ap.to (σ':=σ') (σ2:=⟨γ,σ'.fz,σ.ca++px⟩) (b:=cs.A8) rfl (λj p hj e=> ?_) F4 hb.2.Gk;rw[hl,cC (by rw[<-N9];exact hj)] at e;exact mN e
 have hsub:(Aq X ⟨γ,σ'.fz,σ.ca++px⟩ (Qw.Gk cs.A8++ox)).Og (Aq X' σ' Qw):=by
  unfold Aq;rw[hbl];refine AT.Og.Le ?_ `W
  have:(Qw.Gk cs.A8++ox).Og Qw:=by
   conv=>rhs;rw[<-AT.Kb cs.A8 Qw]
   exact AT.Og.Le `W Xs
  exact bW F4
 have Xn:∃ml2,h'.Ns CL.J6 ml2/\HK w σ CL ve ml2:=by
  rcases q.lo with e|⟨e,_⟩
  .rw[e]
   have:m=ml:=bu q.F.ns (e▸q.ns)
   exact⟨m,F2.ns,F4▸q.V0⟩
  .obtain⟨z,hz,hz2⟩:=AT.KY.mp e
   have e1:=(q.N z (aC.Lq (.G4 (.HX hz)))).1;have e2:=(N2 z (aC.Lq (.G4 (.HX hz)))).1;refine⟨ml,q.ns.at' λo ho=> ?_,q.V0⟩;rw[<-hz2] at ho⊢;rw[e1] at ho;rw[e2,ho]
 obtain⟨ml2,n1,n2⟩:=Xn;refine⟨ml2,F2,n1,n2.Ey le2,Ap.Le hc1 hx,N2,(hsub.FW (·.1)).nodup q'.nd,λb0 hb0=> ?_,q.lo.Ey le2,T2⟩;have h1:=q.bd b0 hb0;have h2:=q'.bd b0 (by rw[hbs];exact .Do _ hb0);have h3:cs.A8<=Kg.A8:=hb.1;refine⟨?_,λi c e hi j hj=> ?_⟩
 .rw[AT.DE,AT.Ok,BF.Qh h3];exact BF.On h1.1 `I
 .have hi3:=BF.PJ hi h1.1
  rw[cC (by rw[AT.Ok,BF.Qh h3];exact hi3),eP hi3] at e;exact h2.2 i c e hi j hj
end
section
variable {X':Fx} {σ':Sg} {Lk:Qp} {Qk:Ag} {Kg KM:St} {m' ml':Dr->Bq Bl} {Qw:AT BR}
theorem aap {ps:AT (EA×EA)} {cs:St} {G2:AT BR} (r:Ap w σ ps cs G2):G2.A8=ps.A8:=Ap.Vb (P:=λps _ G2=>G2.A8=ps.A8) rfl (λ_ _ _ _ _ _ _ _ ih=>FY (· +1) ih) r
theorem Ap.at_ {ps:AT (EA×EA)} {cs:St} {G2:AT BR} {i:BF} {c:C} (r:Ap w σ ps cs G2) (h:PL.J7 cs i=A9 c):∃p os,PL.J7 ps i=A9 p/\G2[i]?=A9 os/\Bf w σ p c os:=
 Ap.Vb (P:=λps cs G2=>∀i,PL.J7 cs i=A9 c->∃p os,PL.J7 ps i=A9 p/\G2[i]?=A9 os/\Bf w σ p c os) (λi h=>nomatch h)
  (λp ps d cs o G2 a _ ih i=>BF.Ou (Sb:=λi=>PL.J7 (d::cs) i=A9 c->∃q os,PL.J7 (p::ps) i=A9 q/\(o::G2)[i]?=A9 os/\Bf w σ q c os) i (λh=>⟨p,o,Cs,Cs,(Bq.A9.Ky h:d=c)▸a⟩) ih) r i h
def Pc (w:FX) (X:Fx) (CL:Qp) (ve:Ag) (h':Ev) (m:Dr->Bq Bl) (σ:Sg) (KM:St) (v':V) (x:Bl):Prop:=∃σ2 ml2 Rw,σ.le σ2/\AN w X σ2 CL ve KM h' m ml2 Rw/\Ad w σ2 v' x
theorem jx {K:Lo} (H:C5 K X) (hbl:X'.bl=X.bl) (hbs:X'.bs=cs.A8::X.bs) (Vn:X'.J9=X.Li::X.J9) (q:`j) (Fg:Fr σ.gr X.L X'.h₀ m) (R':AZ w X' σ' Lk Qk Kg h') (le:σ.le σ') {i:BF} {x:Bl} {vs vs':AT V} {p1:AT PL.T×St}
  (hi:cs.A8<=i) (hc:J7 Kg i=A9 (.Dg vs)) (hc1:J7 p1.2 i=A9 (.Dg vs')) (e1:AU `at Kg vs=A9 p1) (hv:Ad w σ' (.FN i) x):Pc w X CL ve h' m σ (p1.2.Gk cs.A8++[.Dg (ZW p1.1)]) (.FN cs.A8) x:=by
 have N9:=q.J2.A8;have R0:=R';obtain⟨m1,ml1,Xe,q1⟩:=R';obtain⟨p,hp,y9⟩:=hv;subst y9;obtain⟨p',os,hp',ho',⟨xs,ep,he,hr⟩⟩:=q1.J2.at_ hc
 obtain rfl:p=p':=Bq.A9.Ky (hp.Hl.CX hp')
 obtain⟨σ2,l2,c2,R2,rts,o2⟩:=f5 (dG w X' Lk Qk h' BN) e1 R0 hr;have hv':vs'=vs:=by
  rcases o2.2 i _ hc1 with⟨x,hx⟩|hx
  .cases hx
  .rw[hc] at hx;cases hx;rfl
 subst hv';have hg:=(q1.N _ (aC.Lq (.HX (AT.mem_flatten.Lq ⟨os,AT.mem_of_getElem? ho',by rewrite [he];exact .Jn _⟩)))).1;obtain⟨m2,ml2,Rw,q2⟩:=R2;obtain⟨p2,os2,hp2,ho2,⟨xs2,ep2,he2,hr2⟩⟩:=q2.J2.at_ hc1
 obtain rfl:p=p2:=Bq.A9.Ky (hp.Hl.CX (c2▸hp2))
 have hg2:=(q2.N _ (aC.Lq (.HX (AT.mem_flatten.Lq ⟨os2,AT.mem_of_getElem? ho2,by rewrite [he2];exact .Jn _⟩)))).1;have hx:xs=xs2:=by
  have:=FY KJ.KA (Bq.A9.Ky (hg.Hl.CX hg2))
  simp only[AO,WE.KH.injEq] at F4
  simpa using F4.1
 subst hx;have le2:=le.CX l2;have Xs:[os2].Og (Rw.F3 cs.A8):=by
  refine AT.singleton_sublist.Lq ?_
  have:(Rw.F3 cs.A8)[i - cs.A8]?=A9 os2:=by rw[AT.getElem?_drop,show cs.A8+(i - cs.A8)=i by omega];exact ho2
  exact AT.mem_of_getElem? F4
 obtain⟨γ,T2,F2,S2,oL,hL⟩:=bM H q Vn Fg q2.T q2.F.QH;have hx:Ap w ⟨γ,σ2.fz,σ.ca++[p]⟩ [p] [.Dg (ZW p1.1)] [os2]:=⟨_,[],os2,[],Cs,Cs,⟨xs,ep2,he2,Am.vs (σ:=⟨γ,σ2.fz,σ.ca++[p]⟩) rts⟩,Cs,Cs⟩;have N2:Pz γ X.L h' (Aq X ⟨γ,σ2.fz,σ.ca++[p]⟩ (Rw.Gk cs.A8++[os2])):=λz hz=>by
  have hz':z∈Aq X' σ2 Rw:=by
   unfold Aq at hz⊢;rw[hbl];have s2:(Rw.Gk cs.A8++[os2]).Og Rw:=by
    conv=>rhs;rw[<-AT.Kb cs.A8 Rw]
    exact AT.Og.Le `W Xs
   exact((AT.Og.Le (bW s2) `W).PH hz)
  obtain⟨n1,n2,n3⟩:=q2.N z hz';exact⟨n1,λy=>(by rw[y,hL] at n3;cases n3),kts_none S2 n3⟩
 obtain⟨ml3,r⟩:=eL hbl hbs q q2 le2 hx Xs T2 F2 N2;exact⟨⟨γ,σ2.fz,σ.ca++[p]⟩,_,_,⟨le2.1,[p],Cs⟩,r,⟨p,by rw[N9];exact cD,Cs⟩⟩
theorem ei {K:Lo} (H:C5 K X) (hbl:X'.bl=X.bl) (hbs:X'.bs=cs.A8::X.bs) (Vn:X'.J9=X.Li::X.J9) (q:`j) (Fg:Fr σ.gr X.L X'.h₀ m) (R':AZ w X' σ' Lk Qk Kg h') (le:σ.le σ') {v v':V} {x:Bl} (hv:Ad w σ' v x)
  (e:FF cs.A8 v Kg=A9 (v',KM)):Pc w X CL ve h' m σ KM v' x:=by
 have N9:=q.J2.A8;have QD:∀{σ1:Sg} {c1:St} {v':V},σ.le σ1->AZ w X' σ1 Lk Qk c1 h'->(∀σ2:Sg,σ2.fz=σ1.fz->σ2.ca=σ.ca->Ad w σ2 v' x)->Pc w X CL ve h' m σ (c1.Gk cs.A8) v' x:=λ{σ1 c1 v'} le1 R1 hv=>by
  obtain⟨m1,ml1,Xe,q1⟩:=R1;obtain⟨γ,T2,F2,S2,oL,hL⟩:=bM H q Vn Fg q1.T q1.F.QH;have Xs:(Xe.Gk cs.A8++[]).Og Xe:=by rw[AT.H7];exact AT.take_sublist _ _
  have N2:Pz γ X.L h' (Aq X ⟨γ,σ1.fz,σ.ca++[]⟩ (Xe.Gk cs.A8++[])):=λp hp=>by
   have hp':p∈Aq X' σ1 Xe:=by
    unfold Aq at hp⊢;rw[hbl];exact((AT.Og.Le (bW Xs) `W).PH hp)
   obtain⟨n1,n2,n3⟩:=q1.N p hp';exact⟨n1,λz=>(by rw[z,hL] at n3;cases n3),kts_none S2 n3⟩
  obtain⟨ml2,r⟩:=eL hbl hbs q q1 le1 (px:=[]) (cx:=[]) (ox:=[]) ⟨Cs,Cs⟩ (AT.nil_sublist _) T2 F2 N2;have r':AN w X ⟨γ,σ1.fz,σ.ca++[]⟩ CL ve (c1.Gk cs.A8) h' m ml2 (Xe.Gk cs.A8++[]):=by
   have z:c1.Gk cs.A8++[]=c1.Gk cs.A8:=AT.H7 _;exact z▸r
  exact⟨⟨γ,σ1.fz,σ.ca++[]⟩,_,_,⟨le1.1,[],Cs⟩,r',hv ⟨γ,σ1.fz,σ.ca++[]⟩ rfl (AT.H7 _)⟩
 refine aF (P:=(· =A9 (v',KM))) e (λt e1 e=> ?_) λe=>ob e λi e1 e=> ?_
 .cases e
  exact QD le R' λσ2 h1 h2=>bB (q:=λv=>Ad w σ' v x->Ah w σ2.fz t x) e1 (λhv=>h1▸hv) hv
 have hv:Ad w σ' (.FN i) x:=dI (q:=λv=>Ad w σ' v x->Ad w σ' (.FN i) x) e1 id hv;cases hb:BF.Ls cs.A8 i with
 |Be=>
  rw[hb] at e;cases e;have hi:i<cs.A8:=BF.lt_of_not_le λz=>by rw[BF.Lx.Lq z] at hb;cases hb
  refine QD le R' λσ2 h1 h2=> ?_;obtain⟨p,e1,e2⟩:=hv;obtain⟨_,l,hl⟩:=le;refine⟨p,?_,e2⟩;rw[hl,cC (·)] at e1;rw[h2];exact e1
 |Bj=>
  rw[hb] at e;have hi:cs.A8<=i:=BF.Lx.mp hb;refine aF (P:=(· =A9 (v',KM))) e (λvs hc e=>ob e λp1 e1 e=>ob e λvs' hc1 e=> ?_) λe=>ob e λp1 e2 e=> ?_
  .cases e
   exact jx H hbl hbs Vn q Fg R' le hi (fx hc) (fx hc1) e1 hv
  .cases e
   exact(dG w X' Lk Qk h' BN e2 R' (dI (q:=λv=>Ad w σ' (.FN i) x->Ad w σ' v x) e1 id hv)).el λσ2 l2 _ R2 rt _=>QD (le.CX l2) R2 λσ3 h1 h2=>(h1▸rt:Ah w σ3.fz p1.1 x)
theorem eX {K:Lo} (H:C5 K X) (hbl:X'.bl=X.bl) (hbs:X'.bs=cs.A8::X.bs) (Vn:X'.J9=X.Li::X.J9) (q:`j) (Fg:Fr σ.gr X.L X'.h₀ m) (R':AZ w X' σ' Lk Qk Kg h') (le:σ.le σ') {v v':V} {x:Bl} (hv:Ad w σ' v x)
  (e:FF cs.A8 v Kg=A9 (v',KM)):∃σ2,σ.le σ2/\AZ w X σ2 CL ve KM h'/\Ad w σ2 v' x:=by
 obtain⟨σ2,ml2,Rw,l,r,rv⟩:=ei H hbl hbs Vn q Fg R' le hv e;exact⟨σ2,l,⟨_,_,_,r⟩,rv⟩
end
section
variable {M:VX} {X':Fx} {σ':Sg} {Lk:Qp} {Qk:Ag} {Kg KM:St} {m' ml':Dr->Bq Bl} {Qw:AT BR} {s':CW}
theorem Fj.rel (H':C5 K X') {c:BF} {wv av:V} {ea d:EA} {ds:AT Ex} {nn:BF} (x:Fj w X' σ' Lk Qk c wv av Kg ea s' d ds nn Qw m') {h:Ev} (F:Fr σ'.gr X'.L h m') (N:Pz σ'.gr X'.L h (Aq X' σ' Qw)):
  AN w X' σ' X'.Li [] Kg h m' m' Qw:=
 ⟨F,by rw[H'.fl];exact F.ns,λy v e=>(by cases e),x.J2,N,x.nd,x.bd,.HX H'.fl,x.T⟩
theorem vF (Vn:X'.J9=X.Li::X.J9) (hf:X.Li.Wp=A9 X.L):Bo X'=X.L::Bo X:=by
 unfold Bo;rw[Vn,AT.filterMap_cons,hf]
theorem gB (H:C5 K X) (H':C5 K X') (hA:A.KZ=A9 (X'.Li::X'.J9)) (hbl:X'.bl=X.bl) (hbs:X'.bs=cs.A8::X.bs) (Vn:X'.J9=X.Li::X.J9) (hos:X'.os=X.os) (q:`j) (Fg:Fr σ.gr X.L X'.h₀ m)
  (le:σ.le σ') {c:BF} {x y:T} {e:Bl} (hx:Ep w X' σ' Lk Qk c (.t x) (.t y) Kg e s') {Q:LI->CW->Prop} {E:Bl->CW->Prop}
  (hQ:∀σ2 Sk ea d ds nn Rw,e= .C9 ea->σ.le σ2->Fj w X σ2 CL ve c (.t x) (.t y) (Kg.Gk cs.A8) ea Sk d ds nn Rw m->Q LI.Qe Sk):Ic M A (QA X'.Li e) Q E s':=by
 obtain⟨ea,d,ds,nn,Qw,m',Cs,xe⟩:=hx;have hfs:=vF Vn H.ff;have K7:∀(hp Rc:Ev) (B:Ev) (a0:Bl),Fr σ'.gr X'.L hp m'->Pz σ'.gr X'.L hp (Aq X' σ' Qw)->(∀b o,σ'.gr.D7 b=A9 o->b∉Bo X'->B.D7 b=A9 o)->(∀q∈Aq X' σ' Qw,B.D7 q.1=A9 q.2)->
   Ev.FlyingW B (X.Li::X.J9) ea (.C9 (En c)) a0 Rc->hp.P0 Rc->DK s'.Dn Rc->Q LI.Qe {s' with Dn:=Rc}:=λhp Rc B a0 Fp Np b1 b2 fl up dk=>by
  have q':=xe.rel H' Fp Np;obtain⟨γ,T2,F2,S2,oL,hL⟩:=bM H q Vn Fg xe.T Fp.QH;have Xs:(Qw.Gk cs.A8++[]).Og Qw:=by rw[AT.H7];exact AT.take_sublist _ _
  have lsub:∀p∈Aq X ⟨γ,σ'.fz,σ.ca++[]⟩ (Qw.Gk cs.A8++[]),p∈Aq X' σ' Qw:=λp hp=>by
   unfold Aq at hp⊢;rw[hbl];exact((AT.Og.Le (bW Xs) `W).PH hp)
  have N2:Pz γ X.L hp (Aq X ⟨γ,σ'.fz,σ.ca++[]⟩ (Qw.Gk cs.A8++[])):=λp hp=>by
   obtain⟨n1,n2,n3⟩:=q'.N p (lsub p hp);exact⟨n1,λz=>(by rw[z,hL] at n3;cases n3),kts_none S2 n3⟩
  obtain⟨ml2,r⟩:=eL hbl hbs q q' le (px:=[]) (cx:=[]) (ox:=[]) ⟨Cs,Cs⟩ (AT.nil_sublist _) T2 F2 N2;have r':AN w X ⟨γ,σ'.fz,σ.ca++[]⟩ CL ve (Kg.Gk cs.A8) hp m ml2 (Qw.Gk cs.A8++[]):=by
   have z:Kg.Gk cs.A8++[]=Kg.Gk cs.A8:=AT.H7 _;exact z▸r
  refine hQ ⟨γ,σ'.fz,σ.ca++[]⟩ _ ea d ds nn _ rfl ⟨le.1,[],Cs⟩ ⟨r'.J2,r'.nd,xe.dm,?_,r'.bd,λhl=> ?_,T2,xe.N8,xe.os.CX hos,?_,.G4 (.HX ⟨B,a0,hp,λb o e Z8=> ?_,λp hp=>b2 p (lsub p hp),fl,F2,N2,up⟩)⟩
  .have Qt:∀(l:AT (Dr×T)) (es:AT Ex),AI w σ' (l.FW λp=>(p.1,V.t p.2)) es->AI w ⟨γ,σ'.fz,σ.ca++[]⟩ (l.FW λp=>(p.1,V.t p.2)) es:=by
    intro l
    induction l with
    |HU=>intro es h;exact h
    |Dc p l ih=>
     intro es h;obtain⟨e,es',g1,g2,g3,g4⟩:=h;exact⟨e,es',g1,g2,g3,ih es' g4⟩
   exact Qt [(AF,x),(Cw,y)] ds xe.df
  .have:m=ml2:=bu r'.F.ns (hl▸r'.ns)
   rw[F4];exact r'.V0
  .obtain⟨Z7,g1,g2⟩:=xe.LG
   obtain⟨o',g3,g4⟩:=dk _ _ g1;exact⟨o',g3,g4.1.CX g2.1,λz=>g4.2.CX (g2.2 z)⟩
  .have e':=S2 b o e
   refine b1 b o e' λhm=> ?_;rw[hfs] at hm;rcases AT.GZ.mp hm with z|z
   .have:=kts_self F2
    rw[<-z,e] at F4;cases F4
   .exact Z8 z
 rcases xe.Ri with⟨vs,sl,a0,he,h1,h0,Fs,Ns',hn,hg⟩|⟨B,a0,hp,b1,b2,fl,Fp,Np,up⟩|⟨B,a0,b1,b2,hl,Fp,Np⟩
 .obtain⟨A₀,Bel⟩:=H'.below xe.T
  have Bp:=pushX Bel Fs H'.ff H'.fk;have hin:∀ev∈(X'.Li::X'.J9),∀b,ev.Wp=A9 b->b∈ea::X'.L::Bo X':=λev hev b hb=>by
   rcases AT.GZ.mp hev with rfl|hev
   .rw[H'.ff] at hb;cases hb;exact .Do _ (.Jn _)
   .exact .Do _ (.Do _ (AT.mem_filterMap.Lq ⟨ev,hev,hb⟩))
  have hen:(P8 s'.Dn (ea::X'.L::Bo X')).D7 ea=BH:=Rn _ (.Jn _);refine Ho (KD.Xa (KD.QA X'.Li (.C9 ea)) (wpAny_leaving_firstW (Qd:=P8 s'.Dn (ea::X'.L::Bo X')) (Q:=λ_ Sk=>∃Rc,Sk={s' with Dn:=Rc}/\Ev.LeftW (P8 s'.Dn (ea::X'.L::Bo X')) (X'.Li::X'.J9) ea (.C9 (En c)) a0 s'.Dn Rc) (E:=λ_ _=>Re)
   hA (funFrames_hide Bp.KZ hin) H'.ff he (λb o e=>RI _ e) hen rfl h1 h0 λRc hL=>⟨Rc,Cs,hL⟩)) (λ_ Sk hq=> ?_) λ_ _ z=>z.1.Dk
  obtain⟨⟨Rc,Cs,k1,k2,k3,k4⟩,dk⟩:=hq;rw[Vn] at k2;have nsm:∀b,b∈X'.L::Bo X'->∀q∈Aq X' σ' Qw,q.1≠b:=λb hb q hq e=>by
   rcases AT.GZ.mp hb with z|z
   .exact(Ns' q hq).2.1 (e.CX z)
   .obtain⟨o,ho,_⟩:=(Bel.KZ.PH z).2
    have:=(Ns' q hq).2.2
    rw[e,ho] at F4;cases F4
  refine K7 s'.Dn Rc _ a0 Fs Ns' (λb o e Z8=>Ql _ (Fs.QH b o e) λhm=> ?_) (λq hq=>Ql _ (Ns' q hq).1 λhm=> ?_) ⟨k1,hen,k2.2.2,k3⟩ k4 dk
  .rcases AT.GZ.mp hm with z|hm
   .rw[z,hg] at e;cases e
   .rcases AT.GZ.mp hm with z|hm
    .have:=kts_self Fs
     rw[<-z,e] at F4;cases F4
    .exact Z8 hm
  .rcases AT.GZ.mp hm with z|hm
   .exact hn (z▸AT.Ib hq)
   .exact nsm _ hm q hq rfl
 .refine Ho (KD.Xa (KD.QA X'.Li (.C9 ea)) (wpAny_leaves_onW (Q:=λ_ Sk=>∃Rc,Sk={s' with Dn:=Rc}/\Ev.FlyingW B X'.J9 ea (.C9 (En c)) a0 Rc/\s'.Dn.P0 Rc) (E:=λ_ _=>Re) hA H'.ff fl λRc x1 x2=>⟨Rc,Cs,x1,x2⟩)) (λ_ Sk hq=> ?_) λ_ _ z=>z.1.Dk
  obtain⟨⟨Rc,Cs,k1,k2⟩,dk⟩:=hq;rw[Vn] at k1;exact K7 hp Rc B a0 Fp Np b1 b2 k1 (up.CX k2) dk
 .have lv:Ic M A (QA X'.Li (.C9 ea)) (λ_ Sk=>∃Rc,Sk={s' with Dn:=Rc}/\Ev.FlyingW B X'.J9 ea (.C9 (En c)) a0 Rc/\s'.Dn.P0 Rc) (λ_ _=>Re) s':=by
   unfold QA;refine Ch (PR H'.ff hl.2.2.2 ?_);refine wpAny_landsW hl λRc hfl up=> ?_;obtain⟨k1,k2,⟨_,_,k3⟩,k4⟩:=hfl;exact⟨Rc,Cs,⟨k1,k2,k3,k4⟩,up⟩
  refine Ho (KD.Xa (KD.QA X'.Li (.C9 ea)) lv) (λ_ Sk hq=> ?_) λ_ _ z=>z.1.Dk;obtain⟨⟨Rc,Cs,k1,k2⟩,dk⟩:=hq;rw[Vn] at k1;exact K7 s'.Dn Rc B a0 Fp Np b1 b2 k1 k2 dk
theorem o8 (H:C5 K X) (H':C5 K X') (hA:A.KZ=A9 (X'.Li::X'.J9)) (hbl:X'.bl=X.bl) (hbs:X'.bs=cs.A8::X.bs) (Vn:X'.J9=X.Li::X.J9) (hos:X'.os=X.os) (q:`j) (Fg:Fr σ.gr X.L X'.h₀ m)
  (le:σ.le σ') {c:BF} {x y:T} {e:Bl} (hx:Ep w X' σ' Lk Qk c (.t x) (.t y) Kg e s') {Q:LI->CW->Prop} {E:Bl->CW->Prop}
  (hQ:∀σ2 Sk,σ.le σ2->Ep w X σ2 CL ve c (.t x) (.t y) (Kg.Gk cs.A8) e Sk->Q LI.Qe Sk):Ic M A (QA X'.Li e) Q E s':=
 gB H H' hA hbl hbs Vn hos q Fg le hx λσ2 Sk ea d ds nn Rw e0 l r=>hQ σ2 Sk l ⟨ea,d,ds,nn,Rw,m,e0,r⟩
end
section
theorem tS {us:AT V} {ys:AT Bl} {ps:AT Dr} {x:Dr} {v:V} (r:Ac w σ us ys) (h:BU (ps.Vl us) x=A9 v):∃y,(x,y)∈ps.Vl ys/\Ad w σ v y:=
 Ac.Vb (P:=λus ys=>∀ps:AT Dr,BU (ps.Vl us) x=A9 v->∃y,(x,y)∈ps.Vl ys/\Ad w σ v y) (λps h=>nomatch (AT.zip_nil_right (l:=ps)▸h:BU ([]:AT (Dr×V)) x=A9 v))
  (λu us y ys a _ ih ps=>by
   cases ps with
   |HU=>exactλh=>nomatch h
   |Dc p ps=>
    intro h;rw[AT.zip_cons_cons] at h;cases e:KH p x with
    |Bj=>exact⟨y,aB.mp e▸.Jn _,Bq.A9.Ky ((bw (p:=(p,u)) e).Hl.CX h)▸a⟩
    |Be=>exact(ih ps ((bj (p:=(p,u)) e).Hl.CX h)).Dk λz h=>⟨z,.Do _ h.1,h.2⟩) r ps h
theorem Am.F3 {fz:BR} {ts:AT T} {xs:AT Bl} (n:BF) (r:Am w fz ts xs):Am w fz (ts.F3 n) (xs.F3 n):=
 Am.Vb (P:=λts xs=>∀n,Am w fz (ts.F3 n) (xs.F3 n)) (λn=>BF.Ou n rfl λ_=>rfl) (λ_ _ _ _ a b ih n=>BF.Ou n (.Dc a b) ih) r n
def BP (w:FX) (σ:Sg) (Wg:AT Bl) (ps:AT Dr) (ve:Ag) (xs:AT Bl):Prop:=
 xs.A8<=ps.A8/\ps.A8<=xs.A8+Wg.A8/\∀x v,BU ve x=A9 v->∃y,(x,y)∈ps.Vl (xs++Wg.F3 (xs.A8+Wg.A8 - ps.A8))/\Ad w σ v y
theorem tD {ps:AT Dr} {vs:AT V} {ds:AT T} {ve:Ag} {xs Wg:AT Bl} (h:FA ps vs ds=A9 ve) (r:Ac w σ vs xs) (rd:Am w σ.fz ds Wg):BP w σ Wg ps ve xs:=
 Ac.Vb (P:=λvs xs=>∀ps ve,FA ps vs ds=A9 ve->BP w σ Wg ps ve xs) (λps ve h=>dj (show wh (BF.Ls ps.A8 ds.A8) (ps.Vl ((ds.F3 (ds.A8 - ps.A8)).FW .t))=A9 ve from h) λhb e=>by
   have l:=rd.A8;have z:([]:AT Bl).A8+Wg.A8=Wg.A8:=BF.PX _;refine⟨BF.zero_le _,BF.On (BF.Lx.mp hb) (BF.QK (l.Hl.CX z.Hl)),λx v h=> ?_⟩;rw[<-e,<-l] at h;rw[z];exact tS (Am.vs (σ:=σ) (rd.F3 _)) h)
  (λv vs y ys a _ ih ps ve=>by
   cases ps with
   |HU=>exactλh=>nomatch h
   |Dc p ps=>
    refineλh=>ob h λl e h=> ?_
    obtain rfl:=Bq.A9.Ky h
    obtain⟨h1,h2,h3⟩:=ih ps l e;have ed:(y::ys).A8+Wg.A8=ys.A8+Wg.A8+1:=BF.succ_add ..;refine⟨BF.OH h1,ed▸BF.OH h2,λx u h=> ?_⟩;rw[ed,show ys.A8+Wg.A8+1 - (p::ps).A8=ys.A8+Wg.A8 - ps.A8 from BF.succ_sub_succ ..,AT.Qm,AT.zip_cons_cons];cases e:KH p x with
    |Bj=>exact⟨y,aB.mp e▸.Jn _,Bq.A9.Ky ((bw (p:=(p,v)) e).Hl.CX h)▸a⟩
    |Be=>exact(h3 x u ((bj (p:=(p,v)) e).Hl.CX h)).Dk λz h=>⟨z,.Do _ h.1,h.2⟩) r ps ve h
theorem lL {l:AT (Dr×Bl)} {x:Dr} {y:Bl}:(l.FW (·.1)).Oq->(x,y)∈l->l.H6 x=A9 y:=by
 induction l with
 |HU=>exactλ_ h=>nomatch h
 |Dc p l ih=>
  intro nd h;have nd:=AT.Kv.mp nd;rcases AT.GZ.mp h with e|h
  .exact e▸AT.lookup_cons_self
  .have:(x==p.1)=Be:=LD.Lq λ(e:x=p.1)=>nd.1 (e▸AT.Ib (f:=(·.1)) h:p.1∈l.FW (·.1))
   show(match x==p.1 with|Bj=>A9 p.2|Be=>l.H6 x)=_
   rw[F4];exact ih nd.2 h
theorem nN {ps:AT Dr} (nd:ps.Oq) (xs:AT Bl):((ps.Vl xs).FW (·.1)).Oq:=by
 refine AT.Oq.sublist ?_ nd;clear nd
 induction ps generalizing xs with
 |HU=>exact AT.Og.Xl _
 |Dc p ps ih=>cases xs with
  |HU=>exact AT.nil_sublist _
  |Dc x xs=>exact(ih xs).cons_cons _
end
def Ji (fi:Hj):Prop:=((∀x∈fi.Ew,fi.Jm.Lb.H6 x=A9 .local)/\(∀x∈fi.Jm.Lb,x.2≠.Qc))\/
 (∃p Df,fi.Ew=[p]/\fi.Vs=[]/\fi.Jm.Lb=(p,.Qc)::Df/\∀x∈Df,x.2≠.Qc)
def IP (w:FX) (K:Lo) (f:BF) (fi:Hj):Prop:=
 ∃fo F6 P4 ns dl dV kV doc pm an0 W1 ct Wg,K.H6 f=A9 fo/\fo.KA= .func (fnX F6 P4 ⟨[],ns,BH,[],[],BH,dl⟩ fi.G0 fi.Jm [] dV kV doc pm an0 W1 ct)/\codeIn K W1 P4=Bj/\ns.FW (·.arg)=fi.Ew/\fi.Ew.Oq/\
  Ji fi/\fi.Jm.Wz= .LK/\fi.Jm.isCoroutine=Be/\fi.Jm.isGenerator=Be/\fi.Vs.A8<=fi.Ew.A8/\Am w [] fi.Vs Wg/\
  (dV= .BH/\Wg=[]\/∃a o n,dV= .C9 a/\K.H6 a=A9 o/\o.KA= .KH Wg.E6 n)
section
variable (w:FX) (FZ:Kt)
def Cn (X:Fx) (σ:Sg) (CL:Qp) (kn:KN) (an:An->Prop) (Q:Rb->CW->Prop):Prop:=
 ∀σ' Qk Kg s',σ.le σ'->Ak w X σ' CL Qk Kg s'->an (kn Qk Kg)->Q .next s'
def CD (X:Fx) (σ:Sg) (CL:Qp) (kr:KV) (an:An->Prop) (Q:Rb->CW->Prop):Prop:=
 ∀σ' Qk v x Kg s',σ.le σ'->Ak w X σ' CL Qk Kg s'->Ad w σ' v x->an (kr v Kg)->Q (.EM x) s'
structure DC (X:Fx) (CL:Qp):Prop where
 fe:CL=X.Li
 ll:CL.J6=X.L
def FM (K:Lo) (n:BF) (an:An->Prop) (ex:Cx->AT IQ->Ag->St->KN->KV->KX->An):Prop:=
 ∀X cx CL ss σ ve cs s kn kr ke Q E,`g->DC X CL->`b s->BZ an->an (ex cx ss ve cs kn kr ke)->`q->CD w X σ CL kr an Q->(∀ve,`k)->Om `t X.A CL E->
  `a X.A (execs ss CL) Q E s
def HQ (K:Lo) (n:BF) (an:An->Prop) (fn:BF->AT V->St->KV->KX->An):Prop:=
 ∀X f vs xs σ CL ve cs s k ke Q E A',C5 K X->IK n X->A'.KZ=X.A.KZ->A'.OA=BH->A'.RW<=X.A.RW+1->A'.LL<=X.A.LL+10->`b s->Ac w σ vs xs->BZ an->an (fn f vs cs k ke)->`l->`k->
  `h A' (.DH (.C9 f) ⟨xs,[]⟩) (λr s'=>match r with| .ok (.EM v)=>Q v s'| .ok _=>Re| .Rx e=>E e s') s
end
section
theorem wa {a x n c:BF} (h:a<=x+1) (k:x+2*(n+1)<c):a+1+2*n<c:=BF.N4 (by omega:a+1+2*n<=x+2*(n+1)) k
theorem zh {a x n c:BF} (h:a<=x+10) (k:x+20*(n+1)<c):a+3+20*n<c:=BF.N4 (by omega:a+3+20*n<=x+20*(n+1)) k
theorem kP {X:Fx} {f:BF} {fi:Hj} {vs:AT V} {xs:AT Bl} {σ:Sg} {CL:Qp} {ve ve0:Ag} {cs:St} {s:CW} {m ml:Dr->Bq Bl} {G2:AT BR} {A':Ke} {b':BF} {bs':AT BF}
  {R:Result->CW->Prop} (GF:IP w K f fi) (H:C5 K X) (room:IK (n+1) X) (hA:A'.KZ=X.A.KZ) (hd:A'.RW<=X.A.RW+1) (hu:A'.LL<=X.A.LL+10)
  (q:AN w X σ CL ve cs s.Dn m ml G2) (hg:s.N8= #[]) (ho:s.os=X.os) (hbs:∀b∈bs',b<=cs.A8/\Bd b cs/\b<=b') (rv:Ac w σ vs xs) (hb:FA fi.Ew vs fi.Vs=A9 ve0)
  (run:∀X' Lk σ' s',C5 K X'->DC X' Lk->AB K n X' ⟨fi.Jm,b',Bj⟩ Lk->X'.A={A'.Rp Lk with OA:=BH}->X'.bl=X.bl->X'.bs=bs'->X'.J9=X.Li::X.J9->X'.os=X.os->Fr σ.gr X.L X'.h₀ m->σ.le σ'->Ak w X' σ' Lk ve0 cs s'->
   `a (A'.Rp Lk) (execs fi.G0 Lk) (λfl s'=>R (.ok (.EM (match fl with| .EM v=>v|_=> .BH))) s')
    (λe s'=>`a (A'.Rp Lk) (QA Lk e) (λ_ Sk=>R (.Rx e) Sk) (λe' Sk=>R (.Rx e') Sk) s') s'):
  `h A' (.DH (.C9 f) ⟨xs,[]⟩) R s:=by
 obtain⟨fo,F6,P4,ns,dl,dV,kV,doc,pm,an',W1,ct,Wg,k1,k2,k3,k4,k5,k67,k8,k9,k10,k11,k12,k13⟩:=GF;obtain⟨A₀,B⟩:=H.below q.T;have hA':A'.KZ=A9 (X.Li::X.J9):=hA.CX H.fr;obtain⟨FG,BG,st, -⟩:=groundX (R:=λ_ _=>True) B q.F q.N hA' H.ff H.fk;obtain⟨b1,b2,b3⟩:=tD (σ:=σ) hb rv (Am.Ey (λ_ h=>by cases h) k12);have hdl:Wg.A8=fi.Vs.A8:=k12.A8;have hnl:ns.A8=fi.Ew.A8:=by rw[<-k4,AT.Lc]
 have KB:∀{a o},K.H6 a=A9 o->s.Dn.D7 a=A9 o:=λe=>q.Qd H (H.KX _ _ e);have hbind:BindsTo s (fnX F6 P4 ⟨[],ns,BH,[],[],BH,dl⟩ fi.G0 fi.Jm [] dV kV doc pm an' W1 ct) ⟨xs,[]⟩ (fi.Ew.Vl (xs++Wg.F3 (xs.A8+Wg.A8 - fi.Ew.A8))):=by
  intro M A E Q hq
  have:=eW (s:=s) (fd:=fnX F6 P4 ⟨[],ns,BH,[],[],BH,dl⟩ fi.G0 fi.Jm [] dV kV doc pm an' W1 ct) (ns:=ns) (dl:=dl) (ds:=Wg) (xs:=xs)
  rw[k4,hnl] at F4;refine F4 rfl k5 (λM A E Q hr=> ?_) b1 b2 (·) M A E Q hq;rcases k13 with⟨Cs,Cs⟩|⟨a,o,n',Cs,e1,e2⟩
  .show Ic M A (RH Bl.BH) Q E s
   unfold RH;refine Ch ?_;exact De (De (hr _ rfl))
  .show Ic M A (RH (Bl.C9 a)) Q E s
   have:=Ot (M:=M) (A:=A) (E:=E) (Q:=Q) (KB e1) e2 (hr (A9 Wg.E6) (by simp))
   exact F4
 rcases k67 with⟨k6,k7⟩|⟨p,Df,kp,kd,kn,kr⟩
 .refine codeAny_call_def (fd:=fnX F6 P4 ⟨[],ns,BH,[],[],BH,dl⟩ fi.G0 fi.Jm [] dV kV doc pm an' W1 ct) (G0:=fi.G0) (BF.N4 (BF.On `aj (BF.We _ (2*n))) (BF.VU (wa hd room.1) (by decide))) (KB k1) k2 (H.lim.keeps λb o e=>q.Qd H e) (codeRec_of (λa o e=>KB e) k3) rfl hbind k7
   (λy hy=>k6 _ (AT.Wd hy).1) (λh₁ Xn hk₁=> ?_) k9 k10 k8
  let Lk:Qp:=envX P4 fi.Jm `m f W1 []
  let X':Fx:=⟨{A'.Rp Lk with OA:=BH},X.Qd,X.Li::X.J9,Lk,P8 s.Dn ((Aq X σ G2).FW (·.1)),`m,X.os,X.bl,bs',[]⟩
  have H':C5 K X':=⟨⟨A',BG⟩,Ke.frames_deeper hA',Cs,k8,Cs,Cs,H.lim,H.KX,H.gn,H.bn⟩;have F':Fr X'.h₀ X'.L h₁ _:=⟨Xn,λb o e=>hk₁ b o (RI _ e),BF.QK (hideAll_size _ _)⟩;have le0:σ.le ⟨X'.h₀,σ.fz,σ.ca⟩:=⟨λ_ h=>h,[],by simp⟩;have nd0:((fi.Ew.Vl (xs++Wg.F3 (xs.A8+Wg.A8 - fi.Ew.A8))).FW (·.1)).Oq:=nN k5 _;have R':Ak w X' ⟨X'.h₀,σ.fz,σ.ca⟩ Lk ve0 cs {s with Dn:=h₁,Dp:=s.Dp+(fi.Ew.Vl (xs++Wg.F3 (xs.A8+Wg.A8 - fi.Ew.A8))).A8}:=by
   refine⟨⟨_,_,G2,F',Xn,λx v e=> .HX ?_,q.J2.Ey le0,λp hp=>⟨hk₁ _ _ (q.N p hp).1,BF.ne_of_lt (Ev.RL (q.N p hp).1),Rn _ (AT.Ib hp)⟩,q.nd,λb hb=>⟨(hbs b hb).1,(hbs b hb).2.1⟩,.HX rfl,QO.Xl⟩,hg,ho⟩;obtain⟨y,g1,g2⟩:=b3 x v e;refine⟨y,lL ?_ (AT.mem_reverse.Lq g1),g2.Ey le0,k6 _ (AT.Wd g1).1⟩;rw[AT.map_reverse];exact(AT.reverse_perm _).Lz.Lq nd0
  have P6:AB K n X' ⟨fi.Jm,b',Bj⟩ Lk:=⟨H',⟨k8,Cs,Cs,Cs,λx=>rfl,λb hb=>(hbs b hb).2.2,λ_=>rfl⟩,⟨wa hd room.1,zh hu room.2⟩⟩;exact run X' Lk _ _ H' ⟨Cs,Cs⟩ P6 rfl rfl rfl rfl rfl FG le0 R'
 .have hx1:xs.A8=1:=by
   have e1:Wg.A8=0:=by rw[hdl,kd];rfl
   rw[kp] at b1 b2;simp only[AT.DW,AT.KC] at b1 b2;omega
  obtain⟨xv,Cs⟩:∃xv,xs=[xv]:=by
   cases xs with
   |HU=>cases hx1
   |Dc a l=>cases l with
    |HU=>exact⟨a,Cs⟩
    |Dc _ _=>simp at hx1
  have hz:fi.Ew.Vl ([xv]++Wg.F3 ([xv].A8+Wg.A8 - fi.Ew.A8))=[(p,xv)]:=by
   rw[kp];rfl
  rw[hz] at hbind b3;have hcf:∀(l:AT (Dr×Ln)),(∀x∈l,x.2≠.Qc)->∀m W6,W2 m l W6=W6:=by
   intro l
   induction l with
   |HU=>intro _ m W6;rfl
   |Dc y l ih=>
    intro hy m W6;obtain⟨z,k⟩:=y;have hk:(k==Ln.Qc)=Be:=by
     have:=hy (z,k) (.Jn _)
     cases k<;>first|rfl|exact(F4 rfl).Dk
    show(if k== .Qc then _ else W2 m l W6)=W6
    rw[hk,Ko (by decide)];exact ih (λx hx=>hy x (.Do _ hx)) m W6
  have hcs:W2 (`m+1) fi.Jm.Lb []=[(p,`m+1)]:=by
   rw[kn];show W2 (`m+1+1) Df [(p,`m+1)]=_;exact hcf Df kr _ _
  have hlp:fi.Jm.Lb.H6 p=A9 .Qc:=by rw[kn,AT.RY];simp
  refine codeAny_call_function (fd:=fnX F6 P4 ⟨[],ns,BH,[],[],BH,dl⟩ fi.G0 fi.Jm [] dV kV doc pm an' W1 ct) (G0:=fi.G0) (BF.N4 (BF.On `aj (BF.We _ (2*n))) (BF.VU (wa hd room.1) (by decide))) (KB k1) k2 k9 k10 rfl (codeRec_of (λa o e=>KB e) k3) (hbind _ _ _ _ ?_);refine wpAny_newFunctionEnv_cells k8 (λy hy=> ?_) λBO he s1 hc=> ?_
  .have:y=(p,xv):=by simpa using hy
   subst F4;exact .G4 ⟨hlp,by show((W2 (`m+1) fi.Jm.Lb []).H6 p).KQ=Bj;rw[hcs];simp[AT.H6]⟩
  obtain⟨hic,hcell,_,_⟩:=hc;obtain⟨⟨h₁,tk,hs1⟩,Xn,hk₁,hfr⟩:=hic;subst hs1;refine⟨(H.lim.keeps λb o e=>q.Qd H e).keeps hk₁,codeAny_func ?_⟩;have hce:BO.J2=[(p,`m+1)]:=by rw[he];exact hcs
  have hkp:BO.PQ p=A9 .Qc:=by rw[he];exact hlp
  have hloc:BO.J6=`m:=by rw[he];rfl
  obtain⟨oc,hc1,hc2⟩:=hcell p (`m+1) (by rw[hce];simp[AT.H6]);have hc2:oc.KA= .Qc (A9 xv):=by
   rw[hc2];show WE.Qc (bindC BO.PQ [(p,xv)] (λ_=>BH) p)=_;simp[bindC,hkp]
  let X':Fx:=⟨{A'.Rp BO with OA:=BH},X.Qd,X.Li::X.J9,BO,P8 s.Dn ((Aq X σ G2).FW (·.1)),`m,X.os,X.bl,bs',[]⟩
  have k8':BO.Jm.Wz= .LK:=by rw[he];exact k8
  have hff:BO.Wp=A9 `m:=by rw[he];rfl
  have H':C5 K X':=⟨⟨A',BG⟩,Ke.frames_deeper hA',hff,k8',hloc,Cs,H.lim,H.KX,H.gn,H.bn⟩;rw[hloc] at Xn;have F':Fr X'.h₀ X'.L h₁ _:=⟨Xn,λb o e=>hk₁ b o (RI _ e),BF.QK (hideAll_size _ _)⟩;have le0:σ.le ⟨X'.h₀,(`m+1,oc)::σ.fz,σ.ca⟩:=⟨λ_ h=> .Do _ h,[],by simp⟩;have hnone:s.Dn.D7 (`m+1)=BH:=Ev.PW `aj;have lm:∀p',p'∈Aq X' ⟨X'.h₀,(`m+1,oc)::σ.fz,σ.ca⟩ G2->p'=(`m+1,oc)\/p'∈Aq X σ G2:=λp' hp=>by
   have hp:p'∈G2.H8++(X.bl++(`m+1,oc)::σ.fz):=hp;unfold Aq;simp only[AT.JX,AT.GZ] at hp⊢;rcases hp with q1|q1|q1|q1<;>simp[q1]
  have R':Ak w X' ⟨X'.h₀,(`m+1,oc)::σ.fz,σ.ca⟩ BO ve0 cs {s with Dn:=h₁,Dp:=tk}:=by
   refine⟨⟨_,_,G2,F',by rewrite [hloc];exact Xn,λx v e=> .G4 ?_,q.J2.Ey le0,λp' hp=> ?_,?_,λb hb=>⟨(hbs b hb).1,(hbs b hb).2.1⟩,.HX hloc,QO.Xl⟩,hg,ho⟩
   .obtain⟨y,g1,g2⟩:=b3 x v e
    have:(x,y)=(p,xv):=by simpa using g1
    obtain⟨Cs,Cs⟩:=VH.mk.Ky F4.Hl;exact⟨xv,`m+1,oc,hkp,by rw[hce];simp[AT.H6],.Jn _,hc2,g2.Ey le0⟩
   .rcases lm p' hp with rfl|hp
    .exact⟨hc1,BF.succ_ne_self _,by
      cases e:X'.h₀.D7 (`m+1) with
      |BH=>rfl
      |A9 o=>rw[RI _ e] at hnone;cases hnone⟩
    .exact⟨hk₁ _ _ (q.N p' hp).1,BF.ne_of_lt (Ev.RL (q.N p' hp).1),Rn _ (AT.Ib hp)⟩
   .refine eH (λhm=> ?_) q.nd
    obtain⟨z,hz,hz2⟩:=AT.KY.mp hm
    have:=(q.N z hz).1
    rw[hz2,hnone] at F4;cases F4
  have P6:AB K n X' ⟨fi.Jm,b',Bj⟩ BO:=⟨H',⟨k8',by rw[he];rfl,by rw[he];rfl,hff,λx=>by rw[he];rfl,λb hb=>(hbs b hb).2.2,λ_=>hloc⟩,⟨wa hd room.1,zh hu room.2⟩⟩;exact run X' BO _ _ H' ⟨Cs,hloc⟩ P6 rfl rfl rfl rfl rfl FG le0 R'
theorem fy (S:FM w FZ K n an r.ex) {X:Fx} {f:BF} {fi:Hj} {vs:AT V} {xs:AT Bl} {σ:Sg} {CL:Qp} {ve ve0:Ag} {cs:St} {s:CW} {m ml:Dr->Bq Bl} {G2:AT BR} {A':Ke} {b':BF} {bs':AT BF} {KN:KN} {KR:KV} {KE:KX}
  {R:Result->CW->Prop} (GF:IP w K f fi) (H:C5 K X) (room:IK (n+1) X) (hA:A'.KZ=X.A.KZ) (hh:A'.OA=BH) (hd:A'.RW<=X.A.RW+1) (hu:A'.LL<=X.A.LL+10)
  (q:AN w X σ CL ve cs s.Dn m ml G2) (hg:s.N8= #[]) (ho:s.os=X.os) (hbs:∀b∈bs',b<=cs.A8/\Bd b cs/\b<=b') (rv:Ac w σ vs xs) (hb:FA fi.Ew vs fi.Vs=A9 ve0) (ha:BZ an) (h:an (r.ex ⟨fi.Jm,b',Bj⟩ fi.G0 ve0 cs KN KR KE))
  (post:∀X' Lk,C5 K X'->DC X' Lk->X'.A=A'.Rp Lk->X'.bl=X.bl->X'.bs=bs'->X'.J9=X.Li::X.J9->X'.os=X.os->Fr σ.gr X.L X'.h₀ m->
   (∀σ' Qk G1 s',σ.le σ'->Ak w X' σ' Lk Qk G1 s'->an (KN Qk G1)->R (.ok (.EM .BH)) s')/\
   (∀σ' Qk v x G1 s',σ.le σ'->Ak w X' σ' Lk Qk G1 s'->Ad w σ' v x->an (KR v G1)->R (.ok (.EM x)) s')/\
   (∀σ' Qk c wv av G1 e s',σ.le σ'->Ep w X' σ' Lk Qk c wv av G1 e s'->an (KE c wv av G1)->`a (A'.Rp Lk) (QA Lk e) (λ_ Sk=>R (.Rx e) Sk) (λe' Sk=>R (.Rx e') Sk) s')):
  `h A' (.DH (.C9 f) ⟨xs,[]⟩) R s:=by
 refine kP (b':=b') (bs':=bs') GF H room hA hd hu q hg ho hbs rv hb λX' Lk σ1 s1 H' O P6 eA e1 e2 e3 e4 FG le0 R'=> ?_;have eA:X'.A=A'.Rp Lk:=eA.CX (by show({A'.Rp Lk with OA:=BH}:Ke)=_;rw[<-hh];rfl);obtain⟨pN,pR,pE⟩:=post X' Lk H' O eA e1 e2 e3 e4 FG;rw[<-eA];refine Ho (S X' ⟨fi.Jm,b',Bj⟩ Lk fi.G0 σ1 ve0 cs s1 _ _ _ (λfl s'=>R (.ok (.EM (match fl with| .EM v=>v|_=> .BH))) s')
  (λe s'=>`a X'.A (QA Lk e) (λ_ Sk=>R (.Rx e) Sk) (λe' Sk=>R (.Rx e') Sk) s') P6 O R' ha h ?_ ?_ ?_ Om.QA) (λfl s' z=>z) λe s' z=>z
 .intro σ' Qk G1 s' le R1 h
  exact pN σ' Qk G1 s' (le0.CX le) R1 h
 .intro σ' Qk v x G1 s' le R1 rv h
  exact pR σ' Qk v x G1 s' (le0.CX le) R1 rv h
 .intro ve1 σ' c wv av G1 e s' le hx h
  rw[eA];exact pE σ' ve1 c wv av G1 e s' (le0.CX le) hx h
def Fx.Kp (X:Fx) (G2:AT BR):Fx:={X with bl:=G2.H8++X.bl,bs:=[],ol:=[]}
def Sg.Kp (σ:Sg):Sg:=⟨σ.gr,σ.fz,[]⟩
section
variable {σ2:Sg} {KM:St} {ml2:Dr->Bq Bl} {Rw:AT BR}
theorem im:Aq (X.Kp G2) σ.Kp []=Aq X σ G2:=by unfold Aq Fx.Kp Sg.Kp;simp[AT.F7]
theorem dB:(Aq X ⟨σ2.gr,σ2.fz,σ.ca++σ2.ca⟩ (G2++Rw)).V8 (Aq (X.Kp G2) σ2 Rw):=by
 unfold Aq Fx.Kp
 show((G2++Rw).H8++(X.bl++σ2.fz)).V8 (Rw.H8++((G2.H8++X.bl)++σ2.fz))
 rw[AT.flatten_append,AT.F7 G2.H8 X.bl,<-AT.F7 Rw.H8];exact AT.V8.append_right _ AT.perm_append_comm
theorem AN.toPure (q:`j):AN w (X.Kp G2) σ.Kp CL [] [] h m ml []:=by
 refine⟨q.F,q.ns,λy v e=>(by cases e),⟨Cs,Cs⟩,?_,?_,λb hb=>(nomatch hb),?_,q.T⟩
 .rw[im];exact q.N
 .rw[im];exact q.nd
 .rcases q.lo with z|⟨z,_⟩
  .exact .HX z
  .refine .G4 ⟨?_,λx v e=>by simp[Fx.Kp,BU] at e⟩
   show CL.J6∈(G2.H8++X.bl).FW (·.1);rw[AT.J8];exact AT.Kc _ z
theorem pO (H:C5 K X):C5 K (X.Kp G2):=⟨H.B,H.fr,H.ff,H.fk,H.fl,H.hh,H.lim,H.KX,H.gn,H.bn⟩
theorem rK {h2:Ev} (q:`j) (le:∀p∈σ.fz,p∈σ2.fz) (F:h2.Ns X.L m) (N:∀p∈X.bl,h2.D7 p.1=A9 p.2):∃ml3,h2.Ns CL.J6 ml3/\HK w ⟨σ2.gr,σ2.fz,σ.ca++σ2.ca⟩ CL ve ml3:=by
 have l:σ.le ⟨σ2.gr,σ2.fz,σ.ca++σ2.ca⟩:=⟨le,σ2.ca,Cs⟩;rcases q.lo with e|⟨e,_⟩
 .have:m=ml:=bu q.F.ns (e▸q.ns)
  exact⟨m,e▸F,F4▸q.V0.Ey l⟩
 .obtain⟨z,hz,hz2⟩:=AT.KY.mp e
  have e1:=(q.N z (aC.Lq (.G4 (.HX hz)))).1;have e2:=N z hz;refine⟨ml,q.ns.at' λo ho=> ?_,q.V0.Ey l⟩;rw[<-hz2] at ho⊢;rw[e1] at ho;rw[e2,ho]
theorem eY (q:`j) (le:σ.Kp.le σ2) (r:AN w (X.Kp G2) σ2 CL [] KM h' m ml2 Rw) (hz:∀c∈KM,∀j∈CH c,j<0):
  ∃ml3,AN w X ⟨σ2.gr,σ2.fz,σ.ca++σ2.ca⟩ CL ve (cs++KM) h' m ml3 (G2++Rw):=by
 have l:σ.le ⟨σ2.gr,σ2.fz,σ.ca++σ2.ca⟩:=⟨le.1,σ2.ca,Cs⟩;obtain⟨ml3,n1,n2⟩:=rK q le.1 r.F.ns λp hp=>(r.N p (aC.Lq (.G4 (.HX (AT.Kc _ hp))))).1;refine⟨ml3,r.F,n1,n2,Ap.Le (q.J2.Ey l) (Ap.to (σ':=σ2) (σ2:=⟨σ2.gr,σ2.fz,σ.ca++σ2.ca⟩) (b:=0) rfl (λj p hj=>Ks hj (BF.Q4 j)) r.J2 hz),λp hp=>r.N p (dB.OF.mp hp),(dB.FW VH.fst).Lz.Lq r.nd,λb hb=> ?_,q.lo.Ey l,r.T⟩;exact⟨by rw[AT.DE];exact BF.QU (q.bd b hb).1,(q.bd b hb).2.Wy (q.bd b hb).1 _⟩
theorem kU (q:`j) (le:σ.Kp.le σ2) {c:BF} {x y:PL.T} {ea d:EA} {ds:AT Ex} {nn:BF} (r:Fj w (X.Kp G2) σ2 CL [] c (.t x) (.t y) [] ea s d ds nn Rw m):
  Fj w X ⟨σ2.gr,σ2.fz,σ.ca++σ2.ca⟩ CL ve c (.t x) (.t y) cs ea s d ds nn G2 m:=by
 have hca:σ2.ca=[]/\Rw=[]:=by
  have:=r.J2
  cases e:σ2.ca with
  |HU=>rw[e] at F4;exact⟨Cs,F4.2⟩
  |Dc p ps=>rw[e] at F4;obtain⟨_,_,_,_,z,_⟩:=F4;cases z
 obtain⟨hca,Cs⟩:=hca;have l:σ.le ⟨σ2.gr,σ2.fz,σ.ca++σ2.ca⟩:=⟨le.1,σ2.ca,Cs⟩;have l2:σ2.le ⟨σ2.gr,σ2.fz,σ.ca++σ2.ca⟩:=⟨λ_ h=>h,σ.ca,by rw[hca];simp⟩;have P:(Aq X ⟨σ2.gr,σ2.fz,σ.ca++σ2.ca⟩ G2).V8 (Aq (X.Kp G2) σ2 []):=by
  have:=dB (X:=X) (σ:=σ) (σ2:=σ2) (G2:=G2) (Rw:=[])
  rw[AT.H7] at F4;exact F4
 refine⟨by
  have c:=q.J2.Ey l;have e:(⟨σ2.gr,σ2.fz,σ.ca++σ2.ca⟩:Sg).ca=σ.ca:=by show σ.ca++σ2.ca=_;rw[hca,AT.H7]
  rw[e];exact c,(P.FW VH.fst).Lz.Lq r.nd,r.dm,r.df.Ey l2,λb hb=>q.bd b hb,λhl=> ?_,r.T,r.N8,r.os,r.LG,?_⟩
 .have:m=ml:=bu q.F.ns (hl▸q.ns)
  exact F4▸q.V0.Ey l
 .rcases r.Ri with⟨vs,sl,a0,he,h1,h0,Fs,Ns',hn,hg⟩|⟨B,a0,hp,b1,b2,fl,Fp,Np,up⟩|⟨B,a0,b1,b2,hl,Fp,Np⟩
  .exact .HX ⟨vs,sl,a0,he,h1,h0,Fs,λp hp=>Ns' p (P.OF.mp hp),λz=>hn ((P.FW VH.fst).OF.mp z),hg⟩
  .exact .G4 (.HX ⟨B,a0,hp,b1,λp hp=>b2 p (P.OF.mp hp),fl,Fp,λp hp=>Np p (P.OF.mp hp),up⟩)
  .exact .G4 (.G4 ⟨B,a0,b1,λp hp=>b2 p (P.OF.mp hp),hl,Fp,λp hp=>Np p (P.OF.mp hp)⟩)
theorem nM {vs:AT V} {ts:AT T}:EI vs=A9 ts->vs=ts.FW .t:=by
 induction vs generalizing ts with
 |HU=>exactλh=>Bq.A9.Ky h▸rfl
 |Dc v r ih=>exactλh=>ob h λx e h=>ob h λl q h=>Bq.A9.Ky h▸bB (q:=λv=>v::r=V.t x::l.FW .t) e (FY _ (ih q))
theorem u6 {an:An->Prop} {k:KV} {p:V×St} {q:V->St->Prop} (ha:BZ an) (h:an (Mi p cs k)) (f1:∀t,an (k (.t t) cs)->q (.t t) []) (V1:∀ts,an (k (.FN cs.A8) (cs++[.Dg (ZW ts)]))->q (.FN 0) [.Dg (ZW ts)]):q p.1 p.2:=by
 obtain⟨v,c⟩:=p;cases v with
 |t x=>cases c with
  |Dc _ _=>exact(ha _ h).Dk
  |HU=>exact f1 x h
 |FN i=>cases i with
  |Ww _=>cases c<;>exact(ha _ h).Dk
  |Xb=>cases c with
   |HU=>exact(ha _ h).Dk
   |Dc c l=>cases l with
    |Dc _ _=>cases c<;>exact(ha _ h).Dk
    |HU=>cases c with
     |Dg us=>
      have h:an (match EI us with|A9 ts=>k (.FN cs.A8) (cs++[.Dg `aB])|BH=> .D9 174):=h;cases e:EI us with
      |BH=>rw[e] at h;exact(ha _ h).Dk
      |A9 ts=>rw[e] at h;exact nM e▸V1 ts h
     |_=>exact(ha _ h).Dk
theorem Ac.Kp {ts:AT T} {xs:AT Bl} (r:Ac w σ (ts.FW .t) xs):Ac w σ.Kp (ts.FW .t) xs:=by
 induction ts generalizing xs with
 |HU=>exact r
 |Dc t ts ih=>exact Ac.el (q:=Ac w σ.Kp (V.t t::ts.FW .t)) r λy ys a b=> .Dc (v:= .t t) a (ih b)
end
theorem zY (GF:∀f fi,G.fn f=A9 fi->IP w K f fi) (S:FM w FZ K n an r.ex):HQ w FZ K (n+1) an (UZ G r):=by
 intro X f vs xs σ CL ve cs s k ke Q E A' H room hA hh hd hu R rv ha h hQ hE;unfold UZ at h;refine ab ha h λfi hfi h1=> ?_;clear h;refine ab ha h1 λve0 hb h=> ?_;clear h1;obtain⟨⟨m,ml,G2,q⟩,hg,ho⟩:=R;cases hall:EI vs with
 |BH=>
  rw[hall] at h;dsimp only at h;refine fy S (b':=cs.A8) (bs':=cs.A8::X.bs) (GF f fi hfi) H room hA hh hd hu q hg ho (λb hb=> ?_) rv hb ha h λX' Lk H' O eA e1 e2 e3 e4 FG=> ?_
  .rcases AT.GZ.mp hb with rfl|hb
   .exact⟨BF.G5 _,Bd.Oa q.J2,BF.G5 _⟩
   .exact⟨(q.bd b hb).1,(q.bd b hb).2,(q.bd b hb).1⟩
  have done:∀{σ':Sg} {Qk:Ag} {G1 KM:St} {s':CW} {v v':V} {x:Bl},σ.le σ'->Ak w X' σ' Lk Qk G1 s'->Ad w σ' v x->FF cs.A8 v G1=A9 (v',KM)->an (k v' KM)->Q x s':=λ{σ' Qk G1 KM s' v v' x} le R1 rv e h=>by
   obtain⟨σ2,l2,R2,r2⟩:=eX (X':=X') H e1 e2 e3 q FG R1.1 le rv e;exact hQ σ2 v' x KM s' l2 ⟨R2,R1.2.1,R1.2.2.CX e4⟩ r2 h
  refine⟨λσ' Qk G1 s' le R1 h=>done le R1 (v:= .t .Kr) jB rfl h,λσ' Qk v x G1 s' le R1 rv h=> ?_,λσ' ve1 c wv av G1 e s' le hx h=> ?_⟩
  .refine ab ha h λp e h=> ?_
   exact done le R1 rv (v':=p.1) (KM:=p.2) e h
  .cases wv with
   |FN _=>exact(ha _ h).Dk
   |t x=>cases av with
    |FN _=>exact(ha _ h).Dk
    |t y=>
     have hA':(A'.Rp Lk).KZ=A9 (X'.Li::X'.J9):=eA▸H'.fr;rw[O.fe];refine o8 (X':=X') (A:=A'.Rp X'.Li) H H' (O.fe▸hA') e1 e2 e3 e4 q FG le hx λσ2 Sk l2 sr=>hE σ2 c _ _ _ e Sk l2 sr h
 |A9 ts=>
  rw[hall] at h;dsimp only at h
  obtain rfl:=nM hall
  have H0:C5 K (X.Kp G2):=pO H;have q0:=q.toPure;refine fy S (X:=X.Kp G2) (b':=0) (bs':=[0]) (GF f fi hfi) H0 room hA hh hd hu q0 hg ho (λb hb=> ?_) (Ac.Kp rv) hb ha h λX' Lk H' O eA e1 e2 e3 e4 FG=> ?_
  .rcases AT.GZ.mp hb with rfl|hb
   .exact⟨BF.G5 _,λi c (e:BH=A9 c)=>(nomatch e),BF.G5 _⟩
   .cases hb
  have EM:∀{σ':Sg} {Qk:Ag} {G1:St} {s':CW} {v:V} {x:Bl} {p:V×St},σ.Kp.le σ'->Ak w X' σ' Lk Qk G1 s'->Ad w σ' v x->FF 0 v G1=A9 p->an (Mi p cs k)->Q x s':=λ{σ' Qk G1 s' v x p} le R1 rv e h=>by
   obtain⟨v',KM⟩:=p;obtain⟨σ2,ml2,Rw,l2,R2,r2⟩:=ei (X:=X.Kp G2) (cs:=[]) (X':=X') H0 e1 e2 e3 q0 FG R1.1 le rv e;have lift_:σ.le ⟨σ2.gr,σ2.fz,σ.ca++σ2.ca⟩:=⟨l2.1,σ2.ca,Cs⟩;refine u6 (p:=(v',KM)) (q:=λv' KM=>AN w (X.Kp G2) σ2 CL [] KM s'.Dn m ml2 Rw->Ad w σ2 v' x->Q x s') ha h (λt h R2 r2=> ?_) (λts h R2 r2=> ?_) R2 r2
   .obtain⟨ml3,R3⟩:=eY q l2 R2 (λc hc=>by cases hc)
    rw[AT.H7] at R3;exact hQ _ (.t t) _ _ _ lift_ ⟨⟨_,_,_,R3⟩,R1.2.1,R1.2.2.CX e4⟩ r2 h
   .obtain⟨ml3,R3⟩:=eY q l2 R2 (λc hc j hj=>by
     cases AT.H9.mp hc;obtain⟨v,hv,hj⟩:=AT.Lp.mp hj;obtain⟨t,_,Cs⟩:=AT.KY.mp hv;cases hj)
    refine hQ _ _ _ _ _ lift_ ⟨⟨_,_,_,R3⟩,R1.2.1,R1.2.2.CX e4⟩ ?_ h;obtain⟨pp,hp1,hp2⟩:=r2;refine⟨pp,?_,hp2⟩;cases hca:σ2.ca with
    |HU=>rw[hca] at hp1;cases hp1
    |Dc a l=>
     rw[hca] at hp1
     obtain rfl:a=pp:=Bq.A9.Ky hp1
     rw[q.J2.A8,bi];exact AT.getElem?_append_right `M▸(BF.sub_self σ.ca.A8).Hl▸rfl
  refine⟨λσ' Qk G1 s' le R1 h=>EM le R1 (v:= .t .Kr) (p:=(.t .Kr,G1.Gk 0)) jB rfl (by rw[AT.take_zero];exact h),λσ' Qk v x G1 s' le R1 rv h=> ?_,λσ' ve1 c wv av G1 e s' le hx h=> ?_⟩
  .refine ab ha h λp e h=> ?_
   exact EM le R1 rv e h
  .cases wv with
   |FN _=>exact(ha _ h).Dk
   |t x=>cases av with
    |FN _=>exact(ha _ h).Dk
    |t y=>
     have hA':(A'.Rp Lk).KZ=A9 (X'.Li::X'.J9):=eA▸H'.fr;rw[O.fe];refine gB (X:=X.Kp G2) (cs:=[]) (X':=X') (A:=A'.Rp X'.Li) H0 H' (O.fe▸hA') e1 e2 e3 e4 q0 FG le hx λσ2 Sk ea d ds nn Rw e0 l2 sr=> ?_;exact hE ⟨σ2.gr,σ2.fz,σ.ca++σ2.ca⟩ c _ _ _ e Sk ⟨l2.1,σ2.ca,Cs⟩ ⟨ea,d,ds,nn,G2,m,e0,kU q l2 sr⟩ h
end
section
variable {X':Fx} {σ':Sg} {Lk:Qp} {Qk:Ag} {Kg:St} {m' ml':Dr->Bq Bl} {Qw:AT BR}
theorem AN.cellD (r:`j) {p:EA×EA} {c:C} {os:BR} (F':Fr σ.gr X.L h' m) (N':Pz σ.gr X.L h' (os++Aq X σ G2)) (dis:∀a∈os.FW (·.1),a∉(Aq X σ G2).FW (·.1)) (hnd:(os.FW (·.1)).Oq)
  (hc:Bf w `aE p c os):∃ml',AN w X `aE CL ve (cs++[c]) h' m ml' (G2++[os]):=by
 have r':=r.on F' (Pz.Do N');have e:Aq X `aE (G2++[os])=G2.H8++(os++(X.bl++σ.fz)):=by unfold Aq Sg.VS;simp[AT.F7]
 refine⟨ml,F',r'.ns,r'.V0.Ey `az,Ap.VS hc r'.J2,λq hq=> ?_,?_,λb hb=>⟨by rw[AT.DE];exact BF.QU (r.bd b hb).1,(r.bd b hb).2.Wy (r.bd b hb).1 _⟩,r.lo.Ey `az,r.T⟩
 .rw[e] at hq
  refine N' q ?_;simp only[AT.JX] at hq⊢;rw[aC];rcases hq with q1|q1|q1|q1<;>simp[q1]
 .rw[e]
  have nd:=r.nd;unfold Aq at nd dis;rw[AT.J8] at nd dis⊢;rw[AT.J8 (l₁:=os)];rw[AT.Lj] at nd⊢;obtain⟨n1,n2,n3⟩:=nd;refine⟨n1,AT.Lj.Lq ⟨hnd,n2,λa ha b hb q=>dis a ha (AT.Kc _ (q▸hb))⟩,λa ha b hb q=> ?_⟩;rcases AT.JX.mp hb with hb|hb
  .exact dis b hb (AT.Ox _ (q▸ha))
  .exact n3 a ha b hb q
theorem hG {K:Lo} (H:C5 K X) (hbl:X'.bl=X.bl) (hbs:X'.bs=X.bs) (Vn:X'.J9=X.Li::X.J9) (q:`j) (Fg:Fr σ.gr X.L X'.h₀ m) (R':AZ w X' σ' Lk Qk Kg h') (le:σ.le σ') {v:V} {x:Bl} (hv:Ad w σ' v x):
  ∃σ2,σ.le σ2/\AZ w X σ2 CL ve Kg h'/\Ad w σ2 v x:=by
 obtain⟨m1,ml1,Xe,q1⟩:=R';obtain⟨γ,T2,F2,S2,oL,hL⟩:=bM H q Vn Fg q1.T q1.F.QH;have lsub:Aq X ⟨γ,σ'.fz,σ'.ca⟩ Xe=Aq X' σ' Xe:=by unfold Aq;rw[hbl]
 have N2:Pz γ X.L h' (Aq X ⟨γ,σ'.fz,σ'.ca⟩ Xe):=λp hp=>by
  obtain⟨n1,n2,n3⟩:=q1.N p (lsub▸hp);exact⟨n1,λz=>(by rw[z,hL] at n3;cases n3),kts_none S2 n3⟩
 have le1:σ'.le ⟨γ,σ'.fz,σ'.ca⟩:=⟨λ_ h=>h,[],by simp⟩;have Xn:∃ml2,h'.Ns CL.J6 ml2/\HK w σ CL ve ml2:=by
  rcases q.lo with e|⟨e,_⟩
  .rw[e]
   have:m=ml:=bu q.F.ns (e▸q.ns)
   exact⟨m,F2.ns,F4▸q.V0⟩
  .obtain⟨z,hz,hz2⟩:=AT.KY.mp e
   have e1:=(q.N z (aC.Lq (.G4 (.HX hz)))).1;have e2:=(N2 z (aC.Lq (.G4 (.HX hz)))).1;refine⟨ml,q.ns.at' λo ho=> ?_,q.V0⟩;rw[<-hz2] at ho⊢;rw[e1] at ho;rw[e2,ho]
 obtain⟨ml2,n1,n2⟩:=Xn;exact⟨⟨γ,σ'.fz,σ'.ca⟩,le.CX le1,⟨m,ml2,Xe,F2,n1,n2.Ey (le.CX le1),q1.J2.Ey le1,N2,lsub▸q1.nd,λb hb=>q1.bd b (hbs▸hb),q.lo.Ey (le.CX le1),T2⟩,hv.Ey le1⟩
end
def No (K:Lo) (c:BF) (ci:ML):Prop:=makesIn K c=Bj/\Of K (.C9 c) "__init__"=A9 (A9 (.C9 ci.Xo))/\Xf K (.C9 ci.Xo)=A9 (.Ds "function")
section
variable (w:FX) (FZ:Kt)
def IM (K:Lo) (n:BF) (an:An->Prop) (nw:BF->BF->AT V->St->KV->KX->An):Prop:=
 ∀X c b vs xs σ CL ve cs s k ke Q (E:Bl->CW->Prop) A',C5 K X->IK n X->A'.KZ=X.A.KZ->A'.OA=BH->A'.RW<=X.A.RW->A'.LL<=X.A.LL+5->(∀b0∈X.bs,b0<=b)->`b s->Ac w σ vs xs->BZ an->an (nw c b vs cs k ke)->`l->
  `h A' (.DH (.C9 c) ⟨xs,[]⟩) (λr s'=>match r with| .ok (.EM v)=>Q v s'| .ok _=>Re| .Rx e=>E e s') s
end
section
theorem zC (GF:∀f fi,G.fn f=A9 fi->IP w K f fi) (GC:∀c ci,G.Ov c=A9 ci->No K c ci) (S:FM w FZ K n an r.ex):IM w FZ K (n+1) an (US G r):=by
 intro X c b vs xs σ CL ve cs s k ke Q E A' H room hA hh hd hu hb0 R rv ha h hQ;unfold US at h;refine ab ha h λci hci h=> ?_;refine ab ha h λfi hfi h=> ?_;refine ab ha h λve0 hb h=> ?_;obtain⟨c1,c2,c3⟩:=GC c ci hci;have KI:K.In s.Dn:=R.KIn H;obtain⟨⟨m,ml,G2,q⟩,hg,ho⟩:=R;refine D8.W.make_K q.F q.N KI c1 c2 c3 λx dx h' F1 N1 lt1 lt2=> ?_;have q1:=AN.cellD q (p:=(x,dx)) (c:= .LJ c []) (os:=[(x,Rh c dx),(dx,AK [] 0)]) F1 N1 (λa ha hm=> ?_) ?_ ⟨[],0,Cs,Cs⟩
 case refine_1=>
  obtain⟨p,hp,Cs⟩:=AT.KY.mp hm;have l:=lt1 p hp;simp only[AT.JS,AT.Rm,AT.GZ,AT.Ol,QL] at ha;rcases ha with e|e
  .rw[e] at l;exact Ks (BF.VU l lt2) (BF.lt_irrefl _)
  .rw[e] at l;exact BF.lt_irrefl _ l
 case refine_2=>
  simp only[AT.JS,AT.Rm,AT.Kv,AT.GZ,AT.Ol,QL,not_false_eq_true,AT.WX,and_true];exact BF.ne_of_gt lt2
 obtain⟨ml1,q1⟩:=q1;have le1:=σ.Si (x,dx);have rself:Ad w (σ.VS (x,dx)) (.FN cs.A8) (.C9 x):=dh q.J2 (x,dx);have jy:Ac w (σ.VS (x,dx)) (.FN cs.A8::vs) (.C9 x::xs):=⟨_,_,Cs,rself,rv.Ey le1⟩;have K7:∀{σ2:Sg} {v:V} {KM:St} {s':CW},σ.le σ2->Ak w X σ2 CL ve KM s'->Ad w σ2 v (.C9 x)->an (k v KM)->Q (.C9 x) s':=λl R2 r2 h=>hQ _ _ _ _ _ l R2 r2 h;have hdp:(A'.under (.Dd "type.__call__" ⟨.C9 c::xs,[]⟩)).RW<=X.A.RW+1:=by
  exact BF.OH hd
 have hun:(A'.under (.Dd "type.__call__" ⟨.C9 c::xs,[]⟩)).LL<=X.A.LL+10:=by
  exact BF.On (BF.OH hu) (BF.add_le_add_left (by decide:6<=10) _)
 cases hk:ci.QH with
 |Bj=>
  rw[hk] at h;dsimp only at h;refine fy S (b':=b) (bs':=X.bs) (GF _ fi hfi) H room hA hh hdp hun q1 hg ho (λb1 Xj=>⟨(q1.bd b1 Xj).1,(q1.bd b1 Xj).2,hb0 b1 Xj⟩) jy hb ha h λX' Lk H' O eA e1 e2 e3 e4 FG=> ?_;refine⟨λσ' Qk G1 s' le R1 h=>⟨Cs,?_⟩,λ_ _ _ _ _ _ _ _ _ h=> ?_,λ_ _ _ _ _ _ _ _ _ _ h=> ?_⟩
  .obtain⟨σ2,l2,R2,r2⟩:=hG (X':=X') H e1 e2 e3 q1 FG R1.1 le (rself.Ey le)
   exact K7 (le1.CX l2) ⟨R2,R1.2.1,R1.2.2.CX e4⟩ r2 h
  .exact(ha _ h).Dk
  .exact(ha _ h).Dk
 |Be=>
  rw[hk] at h;dsimp only at h;refine fy S (b':=cs.A8) (bs':=cs.A8::X.bs) (GF _ fi hfi) H room hA hh hdp hun q1 hg ho (λb1 Xj=> ?_) jy hb ha h λX' Lk H' O eA e1 e2 e3 e4 FG=> ?_
  .rcases AT.GZ.mp Xj with rfl|Xj
   .exact⟨by rw[AT.DE];exact BF.We _ _,(Bd.Oa q.J2).Wy `M _,BF.G5 _⟩
   .exact⟨(q1.bd b1 Xj).1,(q1.bd b1 Xj).2,(q.bd b1 Xj).1⟩
  refine⟨λσ' Qk G1 s' le R1 h=>⟨Cs,?_⟩,λ_ _ _ _ _ _ _ _ _ h=> ?_,λ_ _ _ _ _ _ _ _ _ _ h=> ?_⟩
  .refine ab ha h λp e h=> ?_
   obtain⟨σ2,l2,_,R2,rt,_⟩:=dG w X' Lk Qk s'.Dn BN e R1.1 (rself.Ey le);have FG':Fr σ.gr X.L X'.h₀ m:=FG;obtain⟨σ3,l3,R3,r3⟩:=eX (X':=X') (v:= .t p.1) (v':= .t p.1) (KM:=p.2.Gk cs.A8) H e1 e2 e3 q FG' R2 (le1.CX (le.CX l2)) rt rfl;exact K7 l3 ⟨R3,R1.2.1,R1.2.2.CX e4⟩ r3 h
  .exact(ha _ h).Dk
  .exact(ha _ h).Dk
end
section
variable (w:FX) (FZ:Kt)
def Uy (K:Lo) (n:BF) (an:An->Prop) (ex:Cx->IQ->Ag->St->KN->KV->KX->An):Prop:=
 ∀X cx CL st σ ve cs s kn kr ke Q E,`g->DC X CL->`b s->BZ an->an (ex cx st ve cs kn kr ke)->`q->CD w X σ CL kr an Q->(∀ve,`k)->Om `t X.A CL E->
  `a X.A (Rq st CL) Q E s
def MD (K:Lo) (n:BF) (an:An->Prop) (wh:Cx->D8.Ez->AT IQ->Ag->St->KN->KV->KX->An):Prop:=
 ∀X cx CL t G0 σ ve cs s kn kr ke Q E,`g->DC X CL->`b s->BZ an->an (wh cx t G0 ve cs kn kr ke)->`q->CD w X σ CL kr an Q->(∀ve,`k)->Om `t X.A CL E->
  WhlRest FZ w X.A E CL t G0 [] Q 0 s
end
section
variable {Q:Rb->CW->Prop}
theorem Cn.Ey {σ':Sg} (h:σ.le σ') (p:`q):Cn w X σ' CL kn an Q:=λσ2 ve Kg s' l=>p σ2 ve Kg s' (h.CX l)
theorem CD.Ey {σ':Sg} (h:σ.le σ') (p:CD w X σ CL kr an Q):CD w X σ' CL kr an Q:=λσ2 ve v x Kg s' l=>p σ2 ve v x Kg s' (h.CX l)
theorem aab (S1:Uy w FZ K n an (Gw G r)) (S:FM w FZ K n an r.ex):FM w FZ K n an (Zd G r):=by
 intro X cx CL ss σ ve cs s kn kr ke Q E H O R ha h hN hR hE hP;cases ss with
 |HU=>exact PY (hN σ ve cs s σ.G5 R h)
 |Dc st Df=>
  refine LM ?_;have h:an (Gw G r cx st ve cs (λBO G1=>r.ex cx Df BO G1 kn kr ke) kr ke):=h;refine S1 X cx CL st σ ve cs s _ kr ke _ E H O R ha h ?_ ?_ hE hP
  .intro σ1 ve1 G1 s1 l1 R1 h
   exact S X cx CL Df σ1 ve1 G1 s1 kn kr ke Q E H O R1 ha h (hN.Ey l1) (hR.Ey l1) (λve=>(hE ve).Ey l1) hP
  .intro σ1 ve1 v x G1 s1 l1 R1 rv h
   exact hR σ1 ve1 v x G1 s1 l1 R1 rv h
theorem cR (H:`g):interactive CL=Be:=by
 unfold interactive;rw[H.e.hk];rfl
theorem uf {HW:Oz} (R:`b s) (h:an (kn ve cs)) (hN:`q):`a X.A (Rq (.Pass HW) CL) Q E s:=wpAny_Pass (hN σ ve cs s σ.G5 R h)
theorem nU (S:`e) (H:`g) (R:`b s) (ha:BZ an) {e:Bq D8.Ez} {HW:Oz} (h:an (Gw G r cx (.QJ e HW) ve cs kn kr ke)) (hR:CD w X σ CL kr an Q) (hE:∀ve,`k):
  `a X.A (Rq (.QJ e HW) CL) Q E s:=by
 cases e with
 |BH=>exact wpAny_Return_none (hR σ ve (.t .Kr) .BH cs s σ.G5 R jB h)
 |A9 e=>
  refine Vy (S X cx CL e σ ve cs s kr ke _ E H R ha h ?_ `R);intro σ1 v x G1 s1 l1 R1 rv h;exact hR σ1 ve v x G1 s1 l1 R1 rv h
theorem zp (S:`f) (SX:FM w FZ K n an r.ex) (H:`g) (O:DC X CL) (R:`b s) (ha:BZ an) {t:D8.Ez} {a b:AT IQ} {HW:Oz} (h:an (Gw G r cx (.If t a b HW) ve cs kn kr ke))
  (hN:`q) (hR:CD w X σ CL kr an Q) (hE:∀ve,`k) (hP:Om `t X.A CL E):`a X.A (Rq (.If t a b HW) CL) Q E s:=by
 refine wpAny_If (S X cx CL t σ ve cs s _ ke _ E H R ha h ?_ `R);intro σ1 c G1 s1 l1 R1 h;rcases bP h with⟨Cs,h⟩|⟨Cs,h⟩
 .exact SX X cx CL a σ1 ve G1 s1 kn kr ke Q E H O R1 ha h (hN.Ey l1) (hR.Ey l1) (λve=>(hE ve).Ey l1) hP
 .exact SX X cx CL b σ1 ve G1 s1 kn kr ke Q E H O R1 ha h (hN.Ey l1) (hR.Ey l1) (λve=>(hE ve).Ey l1) hP
theorem ze (S:`f) (SX:FM w FZ K n an r.ex) (SW:MD w FZ K n an r.wh):MD w FZ K n an (YU r):=by
 intro X cx CL t G0 σ ve cs s kn kr ke Q E H O R ha h hN hR hE hP;refine whl_turn (k:=0) hP ?_;refine S X cx CL t σ ve cs s _ ke _ E H R ha h ?_ `R;intro σ1 c G1 s1 l1 R1 h;rcases bP h with⟨Cs,h⟩|⟨Cs,h⟩
 .refine WhlIf.yes rfl ?_
  refine SX X cx CL G0 σ1 ve G1 s1 _ kr ke _ E H O R1 ha h ?_ ?_ (λve=>(hE ve).Ey l1) hP
  .intro σ2 ve2 KM s2 l2 R2 h
   exact SW X cx CL t G0 σ2 ve2 KM s2 kn kr ke Q E H O R2 ha h ((hN.Ey l1).Ey l2) ((hR.Ey l1).Ey l2) (λve=>((hE ve).Ey l1).Ey l2) hP
  .intro σ2 ve2 v x KM s2 l2 R2 rv h
   exact hR σ2 ve2 v x KM s2 `ag R2 rv h
 .refine WhlIf.no rfl ?_
  exact PY (hN σ1 ve G1 s1 l1 R1 h)
theorem ql (SW:MD w FZ K n an r.wh) (H:`g) (O:DC X CL) (R:`b s) (ha:BZ an) {t:D8.Ez} {G0 els:AT IQ} {HW:Oz} (h:an (Gw G r cx (.While t G0 els HW) ve cs kn kr ke))
  (hN:`q) (hR:CD w X σ CL kr an Q) (hE:∀ve,`k) (hP:Om `t X.A CL E):`a X.A (Rq (.While t G0 els HW) CL) Q E s:=by
 cases els with
 |HU=>exact whl_start 0 (SW X cx CL t G0 σ ve cs s kn kr ke Q E H O R ha h hN hR hE hP)
 |Dc=>exact(ha _ h).Dk
end
end Internal
namespace Internal
open PySem PySem.W PyProof.Rows PySem.Calls PySem.SeqAt
open Sem (wp)
variable {w:FX} {FZ:Kt} {K:Lo} {G:DM} {r:IL} {n:BF} {X:Fx} {cx:Cx} {CL:Qp} {σ:Sg} {ve:Ag} {cs:St} {s:CW} {k:KV} {ke:PL.KX} {an:An->Prop} {E:Bl->CW->Prop} {kn:KN} {kr:KV} {h:Ev} {h':Ev} {m:Dr->Bq Bl} {ml:Dr->Bq Bl} {G2:AT BR} {A:Ke}
section
theorem lB (H:`g):(CL.Jm.Wz== .class||(CL.Jm.Wz== .module&&CL.J6 !=CL.V4))=Be:=by
 rw[H.e.hk];rfl
theorem fj (H:`g) (O:DC X CL) (R:`b s) {x:Dr} {v:V} {y:Bl} {A:Ke} {Q:LI->CW->Prop} (rv:Ad w σ v y) (hl:cx.sc.Lb.H6 x=A9 .local)
  (hN:∀s',Ak w X σ CL (Cr ve x v) cs s'->Q LI.Qe s'):`a A (storeName CL x y) Q E s:=by
 have hk:CL.PQ x=A9 .local:=by rw[H.e.hn,hl]
 obtain⟨⟨m,ml,G2,q⟩,hg,ho⟩:=R;refine wpAny_storeName_local hk q.ns (λh' hn hs=> ?_) (lB H);refine hN _ ⟨mn (ml:=ml) ⟨m,ml,G2,q⟩ rv hk (λml2 h2=> ?_) hs O.ll,hg,ho⟩
 have:ml2=ml:=bu h2 q.ns
 rw[F4];exact hn
theorem dZ {o:Bq Ln} (h:Et o=Bj):o=A9 .local:=by
 cases o with
 |BH=>cases h
 |A9 k=>cases k<;>first|rfl|cases h
theorem dq (H:`g) (O:DC X CL) (R:`b s) (ha:BZ an) {x:Dr} {v:V} {y:Bl} {A:Ke} {Q:LI->CW->Prop} (rv:Ad w σ v y) (h:an (FD cx x v ve cs kn))
  (hN:∀σ' Qk Kg s',σ.le σ'->Ak w X σ' CL Qk Kg s'->an (kn Qk Kg)->Q LI.Qe s'):`a A (storeName CL x y) Q E s:=by
 exact am ha h λhl h=>fj H O R rv (cF▸dZ hl) λs' R'=>hN σ _ cs s' σ.G5 R' h
theorem Ak.ext (R:`b s) {h':Ev} {a:EA} (hk:Ev.ExtBut a s.Dn h') (ha:s.Dn.D7 a=BH) (tk:BF):`b {s with Dn:=h',Dp:=tk}:=
 R.QH (λb o e=>hk b o (λq=>by rw[q,ha] at e;cases e) e) tk
section
theorem pn {it t:EA} {Ly:KU Bl} (Vo:t≠it) {n i:BF} {s:CW} {Q:AT Bl->CW->Prop} (hit:s.Dn.IsListIter it t i) (ht:s.Dn.WK t Ly) (hle:i+n<=Ly.Id)
  (hQ:∀h',h'.IsListIter it t (i+n)->Ev.Qq it s.Dn h'->Q ((Ly.Ob.F3 i).Gk n) {s with Dn:=h'}):`a A (draw (.C9 it) n) Q E s:=by
 induction n generalizing i s Q with
 |Xb=>exact De (hQ s.Dn hit (Ev.Qq.Xl ..))
 |Ww n ih=>
  have hlt:i<Ly.Id:=by omega
  have e1:i+(n+1)=i+1+n:=by omega
  show Ic _ _ (pyNext (.C9 it)>>=_) Q E s;refine Ch (wpAny_pyNext_list_item hit ht (x:=Ly[i]) (by simp[hlt]) λh₁ hit₁ hs₁=> ?_);refine Ch (Kh (ih hit₁ (ht.Oh hs₁.Oh Vo) (e1▸hle) λh₂ hit₂ hs₂=>De ?_));have hd:Ly.Ob.F3 i=Ly[i]::Ly.Ob.F3 (i+1):=by simp[AT.drop_eq_getElem_cons,hlt]
  have:=hQ h₂ (e1▸hit₂) (hs₁.CX hs₂)
  rw[hd,AT.take_succ_cons] at F4;exact F4
theorem eZ {h:Ev} {l:EA} {Ly:KU Bl} (x:h.WK l Ly) (o:KJ):(h.Lr o).WK l Ly:=x.at λo' e=>Ev.EB _ e
theorem ej {t:EA} {Ly:KU Bl} {Q:AT Bl->CW->Prop} (hh:A.OA=BH) (ht:s.Dn.WK t Ly)
  (hQ:∀h',Ev.ExtBut `m s.Dn h'->Q Ly.Ob {s with Dn:=h'}):`a A (Q7 (.C9 t) Ly.Id BH) Q E s:=by
 have hlt:t≠`m:=by obtain⟨o,ho,_⟩:=ht;exact BF.ne_of_lt (Ev.RL ho)
 unfold Q7;refine Ch ?_
 .unfold notIterableAtAll
  refine Ch (wpAny_specialOf ht.VK slot_list_iter.H6 ?_);refine De ?_;simp only[CV.P2,VY];refine Ch (Kh (Vz ht ?_));refine Ch (Kh (pn hlt (n:=Ly.Id) (i:=0) ⟨_,Ev.JW _ rfl,Cs,Cs⟩ (eZ ht _) (·) λh₁ hit₁ hs₁=> ?_));have hall:AT.Gk Ly.Id (AT.F3 0 Ly.Ob)=Ly.Ob:=by
   rw[AT.W0];exact AT.N7 (by simp)
  rw[hall];rw[Ko (by simp)];have ht₁:h₁.WK t Ly:=(eZ ht _).Oh hs₁.Oh hlt;refine Ch (Kh (wpAny_pyNext_list_end hh hit₁ ht₁ (by simp) λh₂ he₂=> ?_));simp only[Bq.isSome_none,CV.P2,VY];refine De (hQ h₂ λb o hb e=>he₂ b o hb (hs₁.Oh b o hb (Ev.EB _ e)))
end
theorem lC (R:`b s) {A:Ke} (hh:A.OA=BH) {v u u':V} {x:Bl} (rv:Ad w σ v x) (e:BW cs v=A9 [u,u']) {Q:AT Bl->CW->Prop}
  (hQ:∀h' y y',`b {s with Dn:=h'}->Ad w σ u y->Ad w σ u' y'->Q [y,y'] {s with Dn:=h'}):`a A (Q7 x 2 BH) Q E s:=by
 obtain⟨p,xs,Cs,r1,r2⟩:=cJ R.1 rv e;obtain⟨y,l1,Cs,g1,r1⟩:=r1;obtain⟨y',l2,Cs,g2,r1⟩:=r1
 obtain rfl:l2=[]:=r1
 have K7:∀h',Ev.ExtBut `m s.Dn h'->Q [y,y'] {s with Dn:=h'}:=λh' he=>hQ h' y y' (R.ext he aq s.Dp) g1 g2;rcases r2 with⟨ts,_,_,g⟩|⟨_,n',g⟩
 .exact unpackItems_tuple (Ly:= #[y,y']) hh ⟨_,g,Cs,0,Cs⟩ K7
 .exact ej (Ly:= #[y,y']) hh (ae g) K7
end
end Internal
namespace Internal
open PySem PySem.W PyProof.Rows PySem.Calls PySem.SeqAt
variable {w:FX} {FZ:Kt} {K:Lo} {G:DM} {r:IL} {n:BF} {X:Fx} {cx:Cx} {CL:Qp} {σ:Sg} {ve:Ag} {cs:St} {s:CW} {k:KV} {ke:PL.KX} {an:An->Prop} {E:Bl->CW->Prop} {kn:KN} {kr:KV} {h:Ev} {h':Ev} {m:Dr->Bq Bl} {ml:Dr->Bq Bl} {G2:AT BR} {A:Ke}
section
variable {Q:Rb->CW->Prop}
theorem bq {e:D8.Ez} (h:CA e=Bj) (t:Bq D8.Ez) (line:BF) (CL:Qp):swapsWith e t line CL=Kp Be:=by
 cases e<;>first|rfl|exact CV.JT (h:Be=Bj)
theorem cB {e:D8.Ez} (h:EN e=Bj):CA e=Bj:=by
 cases e1:Gf e with
 |A9 es=>exact fM (q:=λe=>CA e=Bj) e1 λ_ _=>rfl
 |BH=>unfold EN at h;rw[e1] at h;exact h
theorem fm2 {f:D8.Ez->Bq Dr} {p q:D8.Ez} {a b:Dr} (ha:f p=A9 a\/f p=BH) (hb:f q=A9 b\/f q=BH) (h:([p,q].Q3 f).A8=2):[p,q].Q3 f=[a,b]:=by
 rcases ha with e|e
 .rw[AT.filterMap_cons_some e] at h⊢
  rcases hb with e2|e2
  .rw[AT.filterMap_cons_some e2];rfl
  .rw[AT.filterMap_cons_none e2] at h;cases h
 .rw[AT.filterMap_cons_none e] at h
  exact Ks (h▸AT.length_filterMap_le f [q]:2<=1) (by decide)
theorem rZ {c:Prop} [Decidable c] {a:Dr}:(if c then A9 a else BH)=A9 a\/(if c then A9 a else BH)=BH:=if h:c then .HX (Lu h) else .G4 (Ko h)
theorem iH {a b:Dr} {pa pb:Oz} {k:BF} {p:Oz} {e:D8.Ez} (h:EN e=Bj) (hab:a≠b):VM [.Oi [.JV a pa,.JV b pb] k p] e CL=Kp BH\/VM [.Oi [.JV a pa,.JV b pb] k p] e CL=Kp (A9 [a,b]):=by
 cases e with
 |Oi vs k2 p2=>
  cases vs with
  |HU=>exact CV.JT (h:Be=Bj)
  |Dc v vs=>
   cases v with
   |JV x px=>
    have hx:(x==("__debug__":Dr))=Be:=by
     have h:(!(KH x Mw))=Bj:=h;have d:Mw=("__debug__":Dr):=by decide+QG
     exact LD.Lq (d▸bz.mp ((CV.OI _).mp h))
    have hf:(D8.Ez.JV x px::vs).VG (foldedForSure 8)=Be:=rfl;have hc:(D8.Ez.JV x px::vs).VG (constantsAlone 8)=Be:=by
     show((x==("__debug__":Dr))&&_:CV)=Be
     rw[hx];rfl
    unfold VM;dsimp only;split
    .exact .HX rfl
    .split
     .exact .HX rfl
     .split
      .exact .HX rfl
      .rename_i c3
       rw[hf,hc,Ko CV.Ki,Ko CV.Ki];refine .G4 (FY (λl=>Kp (A9 l)) (fm2 rZ rZ ?_));exact bne_eq_false_iff_eq.mp (CV.PV.mp (CV.eq_false_iff.Lq c3)).1
   |_=>exact CV.JT (h:Be=Bj)
 |_=>exact .HX rfl
theorem uh (S:`e) (H:`g) (O:DC X CL) (R:`b s) (ha:BZ an) {x:Dr} {px:Oz} {e:D8.Ez} {HW:Oz} (hc:CA e=Bj)
  (h:an (r.ev cx e ve cs (λv G1=>FD cx x v ve G1 kn) ke)) (hN:`q) (hE:∀ve,`k):`a X.A (Rq (.QS [.JV x px] e HW) CL) Q E s:=by
 refine wpAny_Assign_Name (S X cx CL e σ ve cs s _ ke _ E H R ha h ?_ `R) (bq hc _ _ _);intro σ1 v y G1 s1 l1 R1 rv h;exact dq H O R1 ha rv h λσ2 ve2 KM s2 l2 R2 h=>hN σ2 ve2 KM s2 `ag R2 h
theorem bU {α:Type} {l:AT (Dr×α)} {x:Dr} {v:α} {z:Dr}:BU (Cr l x v) z=if z=x then A9 v else BU l z:=by
 induction l with
 |HU=>
  by_cases q:z=x
  .rw[Lu q];exact bw (p:=(x,v)) (aB.Lq q.Hl)
  .rw[Ko q];exact bj (p:=(x,v)) (bz.Lq (Ne.Hl q))
 |Dc p l ih=>
  cases e:KH p.1 x with
  |Bj=>
   rw[iL e,<-aB.mp e]
   by_cases q:z=p.1
   .rw[Lu q];exact bw (p:=(p.1,v)) (aB.Lq q.Hl)
   .have z:=bz.Lq (Ne.Hl q)
    rw[Ko q,bj z];exact bj (p:=(p.1,v)) z
  |Be=>
   rw[iM e];cases e2:KH p.1 z with
   |Bj=>rw[bw e2,bw e2,Ko (aB.mp e2▸bz.mp e)]
   |Be=>rw[bj e2,bj e2];exact ih
theorem n9 {x y:Dr} (h:x≠y) {α:Type} {l:AT (Dr×α)} {u v:α} {z:Dr}:BU (Cr (Cr l x u) y v) z=BU (Cr (Cr l y v) x u) z:=by
 rw[bU,bU,bU,bU]
 by_cases q:z=y
 .rw[Lu q,Ko λe=>h (e.Hl.CX q),Lu q]
 .rw[Ko q,Ko q]
theorem Ak.envEq (R:`b s) {Qk:Ag} (h:∀z,BU Qk z=BU ve z):Ak w X σ CL Qk cs s:=by
 obtain⟨⟨m,ml,G2,q⟩,hg,ho⟩:=R;exact⟨⟨m,ml,G2,q.F,q.ns,λx v e=>q.V0 x v (h x▸e),q.J2,q.N,q.nd,q.bd,q.lo,q.T⟩,hg,ho⟩
theorem jX (H:`g) (O:DC X CL) (ha:BZ an) {a b:Dr} {pa pb:Oz} {v:V} {x:Bl} (R:`b s) (rv:Ad w σ v x) (h:an (G7 cx (.JV a pa) (.JV b pb) v ve cs kn))
  {Qu:LI->CW->Prop} (hN:∀σ' Qk Kg s',σ.le σ'->Ak w X σ' CL Qk Kg s'->an (kn Qk Kg)->Qu LI.Qe s'):
  a≠b/\`a X.A (Q7 x 2 BH) (λLy s'=>`a X.A (RP [PN (.JV a pa) CL,PN (.JV b pb) CL] Ly) Qu E s'/\`a X.A (RP [WP CL b,WP CL a] Ly.Ia) Qu E s') E s:=by
 have h:an (LZ cx a b v ve cs kn):=h;obtain⟨hab,h⟩:=aag ha h;have hab:=bz.mp hab;refine ab ha h λl e h=>ab ha h λq e2 h=> ?_;refine⟨hab,lC R H.x.hh rv (da (q:=λl=>BW cs v=A9 l->BW cs v=A9 [q.1,q.2]) e2 id e) λh' y y' R1 r1 r2=>⟨?_,?_⟩⟩
 .refine QW (VA (dq H O R1 ha r1 h λσ2 ve2 KM s2 l2 R2 h=> ?_))
  refine QW (VA (dq H O R2 ha (r2.Ey l2) h λσ3 ve3 Se Z4 l3 R3 h=> ?_));exact assignInOrder_nil (hN σ3 ve3 Se Z4 `an R3 h)
 .refine am ha h λla h=>am ha h λlb h=> ?_
  refine QW (wpAny_bindName (fj H O R1 r2 (cF▸dZ lb) λs2 R2=> ?_));refine QW (wpAny_bindName (fj H O R2 r1 (cF▸dZ la) λZ4 R3=> ?_));exact assignInOrder_nil (hN σ _ cs Z4 σ.G5 (R3.envEq λz=>n9 hab) h)
theorem mu {a b:D8.Ez} {v:V} (ha:BZ an) (h:an (G7 cx a b v ve cs kn)) {q:D8.Ez->D8.Ez->Prop} (k:∀x y p p',an (LZ cx x y v ve cs kn)->q (.JV x p) (.JV y p')):q a b:=by
 unfold G7 at h;cases e1:BJ a with
 |BH=>rw[e1] at h;exact(ha _ h).Dk
 |A9 x=>
  rw[e1] at h;cases e2:BJ b with
  |BH=>rw[e2] at h;exact(ha _ h).Dk
  |A9 y=>
   rw[e2] at h;exact aZ (q:=λa=>q a b) e1 λp=>aZ (q:=λb=>q (.JV x p) b) e2 λp'=>k x y p p' h
theorem kR {a b:Dr} {pa pb:Oz} {k:BF} {p:Oz} {v:Bl}:PN (.Oi [.JV a pa,.JV b pb] k p) CL v=(do Wa p;unpack v [(Be,PN (.JV a pa) CL),(Be,PN (.JV b pb) CL)]):=rfl
theorem ug (S:`e) (H:`g) (O:DC X CL) (R:`b s) (ha:BZ an) {a b e:D8.Ez} {k:BF} {p:Oz} {HW:Oz} (hc:EN e=Bj)
  (h:an (r.ev cx e ve cs (λv G1=>G7 cx a b v ve G1 kn) ke)) (hN:`q) (hE:∀ve,`k):`a X.A (Rq (.QS [.Oi [a,b] k p] e HW) CL) Q E s:=by
 rw[arm_exec_Assign];refine Ch (Kx ?_);have hsw:swapsWithSole [.Oi [a,b] k p] e HW.line CL=Kp Be:=bq (cB hc) (A9 (.Oi [a,b] k p)) HW.line CL;rw[hsw];refine Ch (De ?_);rw[Ko (by simp)];refine Ch (S X cx CL e σ ve cs s _ ke _ E H R ha h ?_ `R);intro σ1 v x G1 s1 l1 R1 rv h;have h:an (G7 cx a b v ve G1 kn):=h;refine mu (q:=λa b=>`a X.A (do let l <-VM [.Oi [a,b] k p] e CL;assignStores CL x l ((assignEach [.Oi [a,b] k p] CL).FW (·.2))) Q E s1) ha h λna nb pa pb h=> ?_;have h:an (G7 cx (.JV na pa) (.JV nb pb) v ve G1 kn):=h
 .have h0:=h
  obtain⟨hab,Qt⟩:=jX (Qu:=λ_ s'=>Q .next s') (E:=E) H O ha R1 rv h0 λσ2 ve2 KM s2 l2 R2 h=>hN σ2 ve2 KM s2 `ag R2 h;rcases iH (CL:=CL) (pa:=pa) (pb:=pb) (k:=k) (p:=p) hc hab with e1|e1
  .rw[e1]
   refine Ch (De ?_);show Ic _ _ (do assignAll x ((assignEach [.Oi [.JV na pa,.JV nb pb] k p] CL).FW (·.2));Kp Rb.next) _ _ _;show Ic _ _ (do PN (.Oi [.JV na pa,.JV nb pb] k p) CL x;Kp Rb.next) _ _ _;rw[kR];refine Ch (Ch (Kx ?_));show Ic _ _ (do RP [PN (.JV na pa) CL,PN (.JV nb pb) CL] (<-Qy [x] (Q7 x 2 BH))) _ _ _;refine Ch (Kh (Ho Qt (λLy s2 h2=> ?_) λ_ _ z=>z));exact Ho h2.1 (λ_ Z4 h3=>De h3) λ_ _ z=>z
  .rw[e1]
   refine Ch (De ?_);show Ic _ _ (do rule "assign.swapped-stores";let Ly <-Q7 x 2 BH;RP [WP CL nb,WP CL na] Ly.Ia;Kp Rb.next) _ _ _;refine Ch (wpAny_rule (Ch (Ho Qt (λLy s2 h2=>Ch ?_) λ_ _ z=>z)));exact Ho h2.2 (λ_ Z4 h3=>De h3) λ_ _ z=>z
end
set_option backward.match.sparseCases false
section
variable {Q:Rb->CW->Prop}
theorem AN.updN (q:`j) {i:BF} {c:C} (hi:J7 cs i=A9 c):∃p os l l',J7 σ.ca i=A9 p/\G2=l++os::l'/\Bf w σ p c os/\
  ∀c' os' h',os'.FW (·.1)=os.FW (·.1)->Fr σ.gr X.L h' m->Pz σ.gr X.L h' (Aq X σ (l++os'::l'))->Bf w σ p c' os'->(∀b∈X.bs,i<b->∀j∈CH c',j<b)->AZ w X σ CL ve (PF cs i c') h':=by
 obtain⟨p,os,l,l',h1,Cs,h3,h4⟩:=q.J2.split hi;refine⟨p,os,l,l',h1,Cs,h3,λc' os' h' hm F' N' hc hr=> ?_⟩;have e:∀os,Aq X σ (l++os::l')=(l.H8++os)++(l'.H8++(X.bl++σ.fz)):=λos=>by unfold Aq;simp[AT.F7]
 have e2:∀os:BR,(((l.H8++os)++(l'.H8++(X.bl++σ.fz))).FW (·.1))=(l.H8.FW (·.1)++os.FW (·.1))++((l'.H8++(X.bl++σ.fz)).FW (·.1)):=λos=>by simp only[AT.J8]
 have nd:=q.nd;rw[e,e2] at nd;refine⟨m,ml,l++os'::l',F',?_,q.V0,h4 σ (Sg.G5 σ) c' os' hc,N',by rw[e,e2,hm];exact nd,λb hb=>⟨by rw[cA];exact(q.bd b hb).1,(q.bd b hb).2.PF (hr b hb)⟩,q.lo,q.T⟩;rcases q.lo with z|⟨z,_⟩
 .rw[z]
  have:m=ml:=bu q.F.ns (z▸q.ns)
  rw[<-F4];exact F'.ns
 .obtain⟨y,hy,hy2⟩:=AT.KY.mp z
  have e1:=(q.N y (aC.Lq (.G4 (.HX hy)))).1;have e2:=(N' y (aC.Lq (.G4 (.HX hy)))).1;refine q.ns.at' λo ho=> ?_;rw[<-hy2] at ho⊢;rw[e1] at ho;rw[e2,ho]
theorem xj {d:EA} {o o':KJ} {A B:BR} (hA:∀p∈A,p.1≠d) (hB:∀p∈B,p.1≠d):Upd d o o' (A++(d,o)::B) (A++(d,o')::B):=by
 induction A with
 |HU=>exact .Jn hB
 |Dc p A ih=>exact .Do (hA p (.Jn _)) (ih λq hq=>hA q (.Do _ hq))
def DJ (K:Lo) (C:BF) (x:Dr):CV:=Of K (.C9 C) "__setattr__"==A9 (A9 (.Dd "object.__setattr__"))&&plainOver K C&&takerIn K C x==A9 BH&&hasDictIn K C
theorem AI.noRef {fs:AT (Dr×V)} {ds:AT Ex} (r:AI w σ fs ds):ds.Xa (·.refKey)=Be:=AI.Vb (P:=λ_ ds=>ds.Xa (·.refKey)=Be) rfl (λp _ e ds hk _ _ ih=>by
 obtain⟨t,hk⟩:=hk
 show(e.refKey||ds.Xa (·.refKey))=Be
 rw[ih,CV.QL];unfold Ex.refKey;rw[hk]) r
theorem AI.getL {fs:AT (Dr×V)} {ds:AT Ex} (r:AI w σ fs ds) (x:Dr):(getL x ds).KQ=Bj:=by
 unfold D8.W.getL;split
 .rfl
 .rw[r.noRef];rfl
theorem AI.A8 {fs:AT (Dr×V)} {ds:AT Ex} (r:AI w σ fs ds):ds.A8=fs.A8:=AI.Vb (P:=λfs ds=>ds.A8=fs.A8) rfl (λ_ _ _ _ _ _ _ ih=>FY (· +1) ih) r
theorem AI.PF {x:Dr} {v:V} {y:Bl} {hh:Dt} {tk:Tok} (hv:Ad w σ v y) {fs:AT (Dr×V)} {ds:AT Ex} (r:AI w σ fs ds):AI w σ (Cr fs x v) (putL x hh (.Dq x tk) y ds):=
 AI.Vb (P:=λfs ds=>AI w σ (Cr fs x v) (putL x hh (.Dq x tk) y ds)) (.Dc ⟨tk,Cs⟩ hv rfl) (λp fs e es hk a b ih=>by
  show AI w σ _ (if e.Qt.Wu x then _ else _);rw[gj hk];cases q:KH p.1 x with
  |Bj=>rw[iL q];exact .Dc hk hv b
  |Be=>rw[iM q];exact .Dc hk a ih) r
theorem jV {x:Dr} {hh:Dt} {k v:Bl} {ds:AT Ex}:(putL x hh k v ds).A8<=ds.A8+1:=by
 induction ds with
 |HU=>exact BF.G5 _
 |Dc e ds ih=>
  show(if e.Qt.Wu x then _ else _:AT Ex).A8<=_
  cases e.Qt.Wu x with
  |Bj=>exact BF.le_succ _
  |Be=>exact BF.OH ih
theorem og {x:Dr} {v:V} {c:BF} {fs:AT (Dr×V)} {j:BF}:j∈CH (.LJ c (Cr fs x v))->j∈Bx v\/j∈CH (.LJ c fs):=by
 induction fs with
 |HU=>exactλh=> .HX (AT.H7 (Bx v)▸h)
 |Dc p fs ih=>
  have cut:∀{p:Dr×V} {l:AT (Dr×V)},j∈CH (.LJ c (p::l))↔j∈Bx p.2\/j∈CH (.LJ c l):=AT.JX;cases q:KH p.1 x with
  |Bj=>
   rw[iL q,cut,cut]
   exactλh=>h.imp_right .G4
  |Be=>
   rw[iM q,cut,cut]
   exactλh=>h.Dk (λh=> .G4 (.HX h)) λh=>(ih h).imp_right .G4
theorem cn {b i:BF} {v:V} (h:El b i v=Bj) (hi:i<b):∀j∈Bx v,Re:=λj hj=>by
 cases v with
 |t t=>cases hj
 |FN k=>
  exact BF.not_le.Lq hi (BF.Lx.mp h)
theorem tK (GF:∀c x,G.fld c x=Bj->DJ K c x=Bj) (H:C5 K X) (R:`b s) {i:BF} {c:BF} {fs:AT (Dr×V)} {F6:Dr} {v:V} {x y:Bl} {b:BF} (hb:∀b0∈X.bs,b0<=b) (ro:Ad w σ (.FN i) x) (rv:Ad w σ v y) (hi:J7 cs i=A9 (.LJ c fs))
  (hf:El b i v=Bj) (hl:fs.A8<=900) (hg:G.fld c F6=Bj) {A:Ke} {Qu:LI->CW->Prop} (hQ:∀s',Ak w X σ CL ve (PF cs i (.LJ c (Cr fs F6 v))) s'->Qu LI.Qe s'):`a A (setAttr x F6 y) Qu E s:=by
 have hst:=GF c F6 hg;unfold DJ at hst;simp only[CV.DG,Kw] at hst;obtain⟨⟨⟨t1,t2⟩,t3⟩,t4⟩:=hst;have KI:K.In σ.gr:=λa o e=>H.turn R.T (H.KX a o e);obtain⟨⟨m,ml,G2,q⟩,hgn,ho⟩:=R;obtain⟨p,os,l,l',h1,Cs,h3,up⟩:=q.updN hi;obtain⟨p',hp',Cs⟩:=ro
 obtain rfl:p=p':=Bq.A9.Ky (h1.Hl.CX hp')
 obtain⟨ds,nn,Cs,rf⟩:=h3;have e:∀o,Aq X σ (l++[(p.1,Rh c p.2),(p.2,o)]::l')=(l.H8++[(p.1,Rh c p.2)])++(p.2,o)::(l'.H8++(X.bl++σ.fz)):=λo=>by unfold Aq;simp[AT.F7]
 have nd:=q.nd;rw[e,AT.J8,AT.JS] at nd;obtain⟨nd1,nd2,nd3⟩:=AT.Lj.mp nd;rw[AT.Kv] at nd2;have N:=q.N;have hx:=(N (p.1,Rh c p.2) (by rw[e];simp)).1;have hd:=(N (p.2,AK ds nn) (by rw[e];simp)).1;rw[e] at N;refine set_dict (K:=K) (C:=c) (es:=ds) (n:=nn) (dx:=p.2) q.F KI N (jf hx hd) rfl t1 t2 t3 t4 (rf.getL F6) rfl (xj (λz hz=>nd3 _ (AT.Ib (f:=(·.1)) hz) _ (.Jn _)) (λz hz hz2=>nd2.1 (hz2▸AT.Ib (f:=(·.1)) hz))) ?_ λh' F' N'=> ?_
 .have:=jV (x:=F6) (hh:=PyData.keyHash w.Ew F6) (k:= .Dq F6 (s.Dp+1)) (v:=y) (ds:=ds)
  exact BF.On F4 (BF.On (BF.OH (rf.A8▸hl)) (by decide))
 .refine hQ _ ⟨up (.LJ c (Cr fs F6 v)) [(p.1,Rh c p.2),(p.2,AK (putL F6 `F (.Dq F6 (s.Dp+1)) y ds) (putN F6 ds nn))] h' rfl F' (by rw[e];exact N') ⟨_,_,Cs,rf.PF rv⟩ λb0 hb0 hib j hj=> ?_,hgn,ho⟩
  rcases og hj with z|z
  .exact(cn hf `aa j z).Dk
  .exact(q.bd b0 hb0).2 i _ hi hib j z
theorem ui (GF:∀c x,G.fld c x=Bj->DJ K c x=Bj) (S:`e) (H:`g) (O:DC X CL) (R:`b s) (ha:BZ an) {o e:D8.Ez} {F6:Dr} {p HW:Oz} (hc:CA e=Bj)
  (h:an (r.ev cx e ve cs (λv G1=>X1 G r cx (.JU o F6 p) v ve G1 kn ke) ke)) (hN:`q) (hE:∀ve,`k):`a X.A (Rq (.QS [.JU o F6 p] e HW) CL) Q E s:=by
 refine PG (S X cx CL e σ ve cs s _ ke _ E H R ha h ?_ `R) (bq hc _ _ _);intro σ1 v y G1 s1 l1 R1 rv h;have h:an (r.ev cx o ve G1 (λov G1=>match ov with
  | .FN i=>match J7 G1 i with
   |A9 (.LJ c fs)=>br (El cx.b i v&&G.fld c F6&&BF.Ls fs.A8 900) (kn ve (PF G1 i (.LJ c (Cr fs F6 v)))) (.D9 114)
   |_=> .D9 115
  |_=> .D9 116) ke):=h
 refine S X cx CL o σ1 ve G1 s1 _ ke _ E H R1 ha h ?_ ((hE ve).Ey l1);intro σ2 ov x KM s2 l2 R2 ro h;dsimp only at h;cases ov with
 |t _=>exact(ha _ h).Dk
 |FN i=>
  dsimp only at h;cases hi:J7 KM i with
  |BH=>rw[hi] at h;exact(ha _ h).Dk
  |A9 c=>
   rw[hi] at h;cases c with
   |LJ c fs=>
    refine am ha h λhb h=> ?_;have hb:=(CV.DG _ _).mp hb;have Xj:=(CV.DG _ _).mp hb.1;exact tK (b:=cx.b) GF H.x R2 H.e.bs ro (rv.Ey l2) hi Xj.1 (BF.Lx.mp hb.2) Xj.2 λs' R'=>hN σ2 ve _ s' `ag R' h
   |_=>exact(ha _ h).Dk
end
set_option backward.match.sparseCases true
section
variable {Q:Rb->CW->Prop}
theorem lK (f:KU Bl->KU Bl) (xs:AT Bl) (n:BF):∃n',KJ.mapSeq f (AO xs n)=AO (f xs.E6).Ob n':=⟨_,by
 show(⟨_,_,.KH (f xs.E6) _,_⟩:KJ)=_
 unfold AO;simp only[KU.toArray_toList];rfl⟩
theorem Ac.PF {vs:AT V} {xs:AT Bl} {j:BF} {v:V} {y:Bl} (r:Ac w σ vs xs) (hv:Ad w σ v y):Ac w σ (PL.PF vs j v) (xs.set j y):=
 Ac.Vb (P:=λvs xs=>∀j,Ac w σ (PL.PF vs j v) (xs.set j y)) (λ_=>rfl) (λ_ _ _ _ a b ih j=>BF.Ou j (.Dc hv b) λj=> .Dc a (ih j)) r j
theorem qF {vs:AT V} {j k:BF} {v:V} (h:k∈(PL.PF vs j v).KK Bx):k∈Bx v\/k∈vs.KK Bx:=
 (AT.Lp.mp h).Dk λu h=>(AT.mem_or_eq_of_mem_set (lA▸h.1)).Dk (λq=> .G4 (AT.Lp.Lq ⟨u,q,h.2⟩)) λ(q:u=v)=> .HX (q▸h.2:k∈Bx v)
theorem Ak.lstUpd (R:`b s) {i:BF} {vs:AT V} (hi:J7 cs i=A9 (.Dg vs)):∃p xs n,J7 σ.ca i=A9 p/\s.Dn.D7 p.1=A9 (AO xs n)/\Ac w σ vs xs/\
  ∀(f:KU Bl->KU Bl) (us:AT V) (ys:AT Bl) (tk:BF),f xs.E6=ys.E6->Ac w σ us ys->(∀b∈X.bs,i<b->∀j∈us.KK Bx,j<b)->Ak w X σ CL ve (PF cs i (.Dg us)) {s with Dn:=s.Dn.KO p.1 (KJ.mapSeq f),Dp:=tk}:=by
 obtain⟨R,hg,ho⟩:=R;obtain⟨p,os,h1,⟨xs,n,Cs,r⟩,h2,h3,up⟩:=R.upd hi;have hx:=h2 _ (.Jn _);refine⟨p,xs,n,h1,hx,r,λf us ys tk hf ru hb=>⟨?_,hg,ho⟩⟩;obtain⟨n',e⟩:=lK f xs n;rw[hf] at e;refine up (.Dg us) [(p.1,AO ys n')] _ rfl (λb o hb' e'=> ?_) (λq hq=> ?_) ⟨ys,n',Cs,ru⟩ hb
 .exact(Ev.MP _ _ _ _ (λz=>hb' (by rw[z];exact .Jn _))).CX e'
 .cases AT.H9.mp hq
  have:=Ev.Ku (KJ.mapSeq f) hx (by rw[e];rfl)
  rw[F4,e]
theorem jt (R:`b s) {i:BF} {c:C} (hi:J7 cs i=A9 c):∀b∈X.bs,i<b->∀j∈CH c,j<b:=by
 obtain⟨⟨m,ml,G2,q⟩,_⟩:=R
 exactλb hb hib j hj=>(q.bd b hb).2 i c hi hib j hj
theorem qv (R:`b s) {i:BF} {l:AT V} {k:Dt} {j:BF} {v:V} {x y z:Bl} {b:BF} (hb:∀b0∈X.bs,b0<=b) (ro:Ad w σ (.FN i) x) (ri:Ad w σ (.t (.D4 k)) z) (rv:Ad w σ v y) (hi:J7 cs i=A9 (.Dg l)) (e:EG l.A8 k=A9 j) (hj:j<l.A8)
  (hf:El b i v=Bj) (h1:k<=5000) (h2: -5000<=k) {A:Ke} {Qu:LI->CW->Prop} (hQ:∀s',Ak w X σ CL ve (PF cs i (.Dg (PF l j v))) s'->Qu LI.Qe s'):`a A (setItem x z y) Qu E s:=by
 have bd:=jt R hi;obtain⟨p,xs,nn,hp,hx,r,up⟩:=R.lstUpd hi;obtain⟨p',hp',Cs⟩:=ro
 obtain rfl:p=p':=Bq.A9.Ky (hp.Hl.CX hp')
 obtain⟨t,Cs⟩:=Ah.LO (w:=w) (fz:=σ.fz) ri;have Oa:=r.A8;have hj':=m4 (Oa▸e);have K7:∀tk,Qu LI.Qe {s with Dn:=s.Dn.KO p.1 (KJ.mapSeq (·.Ka j y)),Dp:=tk}:=λtk=>by
  refine hQ _ (up (·.Ka j y) (PF l j v) (xs.set j y) tk (by simp) (r.PF rv) λb0 hb0 hib a ha=> ?_);rcases qF ha with z|z
  .exact(cn hf `aa a z).Dk
  .exact bd b0 hb0 hib a z
 rcases hj' with⟨h0,Cs⟩|⟨h0,h01,Cs⟩
 .exact ki_setAt (n:=nn) (Ly:=xs.E6) hx h0 (·) (by rw[AT.JM];omega) (K7 s.Dp)
 .have:=ki_setBack (FZ:=FZ) (w:=w) (A:=A) (E:=E) (n:=nn) (Ly:=xs.E6) (k:=k) (t:=t) (v:=y) (Q:=Qu) hx h0 (by rw[AT.JM];omega) (·)
  exact F4 (by rw[AT.JM];exact K7 s.Dp)
section
variable {Kk:Type} [PP Kk]
theorem qS {k:D8.KeyKind FZ w Kk} {e:Ex} {es:AT Ex} {l:AT (Kk×Bl)} {q:AT (Kk×Bl)->Prop} (h:Pairs k (e::es) l) (f:∀kv r,k.is kv.1 e.Qt=Bj->e.W4=kv.2->Pairs k es r->q (kv::r)):q l:=by
 cases h with
 |Dc a b c=>exact f _ _ a b c
theorem zP (KT:GD FZ w Kk) {es:AT (T×V)} {ds:AT Ex} {Sl:AT (Kk×Bl)} (r:AV w σ es ds) (p:Pairs KT.V2 ds Sl):Ac w σ (es.FW (·.2)) (Sl.FW (·.2)):=
 AV.Vb (P:=λes ds=>∀Sl:AT (Kk×Bl),Pairs KT.V2 ds Sl->Ac w σ (es.FW (·.2)) (Sl.FW (·.2))) (λ_ p=>by cases p;exact rfl)
  (λq r e es _ _ c _ ih Sl p=>qS (q:=λSl=>Ac w σ ((q::r).FW (·.2)) (Sl.FW (·.2))) p λkv l _ hv hr=> .Dc (hv▸c:Ad w σ q.2 kv.2) (ih l hr)) r Sl p
theorem rX (KT:GD FZ w Kk) (uq:∀{k k':Kk} {x:Bl},KT.V2.is k x=Bj->KT.V2.is k' x=Bj->k=k') {es:AT (T×V)} {ds:AT Ex} {Sl:AT (Kk×Bl)} (h1:Sl.FW (λp=>KT.tk p.1)=es.FW (·.1)) (h2:Ac w σ (es.FW (·.2)) (Sl.FW (·.2)))
  (p:Pairs KT.V2 ds Sl) (hk:∀e∈ds,∃k,KT.V2.is k e.Qt=Bj/\e.Vm=KT.V2.Vm k) (nd:(Sl.FW (·.1)).Oq):AV w σ es ds:=by
 induction p generalizing es with
 |HU=>exact AT.map_eq_nil_iff.mp h1.Hl▸rfl
 | @Dc e kv ds' kvs' hi hv hr ih=>
  cases es with
  |HU=>exact nomatch h1
  |Dc p es=>
   have a1:KT.tk kv.1=p.1:=(AT.Dc.Ky h1).1;have a2:=(AT.Dc.Ky h1).2;have h2:=Ac.un h2;have nd:=AT.Kv.mp nd;obtain⟨k2,g1,g2⟩:=hk e (.Jn _);have g2:e.Vm=KT.V2.Vm kv.1:=uq g1 hi▸g2;refine .Dc (a1▸KT.rep.Lq hi) ⟨g2.CX ((KT.Vm ..).Hl.CX (FY (Aag w) a1)),λq hq e=>nd.1 ?_⟩ (hv▸h2.1) (ih a2 h2.2 (λe he=>hk e (.Do _ he)) nd.2);obtain⟨z,hz,hz2⟩:=AT.KY.mp (a2▸AT.Ib hq);exact((KT.Ky (hz2.CX (e.CX a1.Hl)):z.1=kv.1)▸AT.Ib (f:=(·.1)) hz:kv.1∈kvs'.FW (·.1))
theorem nv (KT:GD FZ w Kk) (uq:∀{k k':Kk} {x:Bl},KT.V2.is k x=Bj->KT.V2.is k' x=Bj->k=k') {A:Ke} {p:EA×EA} {es:AT (T×V)} {ds:AT Ex} {nn:BF} {u:Kk} {v:V} {x y:Bl} (hx:s.Dn.D7 p.1=A9 (AK ds nn)) (r:AV w σ es ds)
  (hl:Dh (KT.tk u) es=A9 BH) (hk:KT.V2.is u x=Bj) (rv:Ad w σ v y) (N9:es.A8<=5000) {Qu:LI->CW->Prop}
  (hQ:∀h' ds' n' tk,h'.D7 p.1=A9 (AK ds' n')->Ev.Qq p.1 s.Dn h'->AV w σ (es++[(KT.tk u,v)]) ds'->Qu LI.Qe {s with Dn:=h',Dp:=tk}):`a A (setItem (.C9 p.1) x y) Qu E s:=by
 obtain⟨Sl,g1,g2,g3,g4,g5⟩:=yG KT r hl;have kr:=zP KT r g2;have hlen':Sl.A8=es.A8:=by have:=FY AT.A8 g3;simpa using F4
 refine wpAny_setItem_pairs hk (cS hx g1 g2 g4) (λh' hD hs=> ?_) (by rw[Kq];omega);have hst:stored Sl u y=Sl++[(u,y)]:=by
  unfold stored;rw[Ko];intro h;have g5:WZ Sl u=BH:=g5;unfold WZ at g5;obtain⟨z,hz,hz2⟩:=AT.RS.mp h
  have:=AT.find?_isSome (p:=λkv:Kk×Bl=>decide (kv.1=u)) (xs:=Sl)|>.Lq ⟨z,hz,hz2⟩
  rw[Bq.map_eq_none_iff] at g5;rw[g5] at F4;cases F4
 rw[hst] at hD;obtain⟨o,es',ep,ho,⟨x1,x2,x3⟩,hd,hks,hp,hn⟩:=hD;obtain⟨oc,od,oda,osl⟩:=o;dsimp only at x1 x2 x3 hd;subst x1 x2 x3 hd;refine hQ h' es'.Ob ep _ ?_ hs (rX KT uq ?_ ?_ hp (λe he=>hks e (by simpa using he)) hn)
 .rw[ho];unfold AK;simp
 .simp[g3]
 .rw[AT.J8,AT.J8]
  exact kr.Le (.Dc rv rfl)
end
theorem qi {k k':Dr} {x:Bl} (h1:(Fn FZ w).V2.is k x=Bj) (h2:(Fn FZ w).V2.is k' x=Bj):k=k':=by
 have h1:Bl.isStrOf k x=Bj:=h1;have h2:Bl.isStrOf k' x=Bj:=h2;obtain⟨t,Cs⟩:=Bl.RO h1;obtain⟨t',e⟩:=Bl.RO h2;cases e<;>rfl
theorem sf {k k':Dt} {x:Bl} (h1:(Gs FZ w).V2.is k x=Bj) (h2:(Gs FZ w).V2.is k' x=Bj):k=k':=by
 have h1:Bl.isInt k x=Bj:=h1;have h2:Bl.isInt k' x=Bj:=h2;obtain⟨t,Cs⟩:=Bl.Vu h1;obtain⟨t',e⟩:=Bl.Vu h2;cases e<;>rfl
theorem AV.snoc {x:T} {v:V} {e:Ex} (h1:Ah w σ.fz x e.Qt) (h2:e.Vm=Aag w x) (h3:Ad w σ v e.W4) {es:AT (T×V)} {ds:AT Ex} (r:AV w σ es ds) (hn:∀p∈es,p.1≠x):AV w σ (es++[(x,v)]) (ds++[e]):=
 AV.Vb (P:=λes ds=>(∀p∈es,p.1≠x)->AV w σ (es++[(x,v)]) (ds++[e])) (λ_=> .Dc h1 ⟨h2,λ_ h=>nomatch h⟩ h3 rfl)
  (λp r e' es' a b c _ ih hn=> .Dc a ⟨b.1,λq hq=>(AT.JX.mp hq).Dk (b.2 q) λhq=>AT.H9.mp hq▸(hn _ (.Jn _)).Hl⟩ c (ih λq hq=>hn q (.Do _ hq))) r hn
theorem AV.A8 {es:AT (T×V)} {ds:AT Ex} (r:AV w σ es ds):ds.A8=es.A8:=AV.Vb (P:=λes ds=>ds.A8=es.A8) rfl (λ_ _ _ _ _ _ _ _ ih=>FY (· +1) ih) r
theorem oG {a:AT T} {ns:AT Dt} (ha:CS a=A9 ns) {es:AT (T×V)}:Dh (.Ld a) es=A9 BH->∀p∈es,p.1≠.Ld a:=by
 induction es with
 |HU=>intro _ p hp;cases hp
 |Dc z es ih=>
  intro h p hp;refine ob h λb q1 h=>ob h λq' q2 h=> ?_;cases b with
  |Bj=>cases h
  |Be=>
   cases h;rcases AT.GZ.mp hp with e|hp
   .intro q
    rw[<-e,q] at q1;refine CV.JT (bV (q:=λx y c=>x= .Ld a->y= .Ld a->c=Bj) q1 (λ_ _ e=>by cases e) (λ_ _ e=>by cases e) (λx y h e1 e2=> ?_) (λe=>by cases e) rfl rfl)
    obtain rfl:=(T.Ld.Ky e1).Hl;obtain rfl:=(T.Ld.Ky e2).Hl
    obtain⟨ms,m1,m2⟩:=gO (f:=GV 7) (λa n b h=>bV (q:=λa c b=>c= .D4 n->∃m,a= .D4 m/\b=decide (m=n)) h (λx y e=>by obtain rfl:=T.D4.Ky e;exact⟨x,Cs,Cs⟩) (λ_ _ e=>by cases e) (λ_ _ _ e=>by cases e) (λe=>by cases e) rfl) ha h;rw[m2,Bq.A9.Ky (m1.Hl.CX ha)];exact GO rfl
   .exact ih q2 p hp
def UK (w:FX) (σ:Sg) (s:CW) (p:EA) (es:AT (T×V)) (v:V) (Qu:LI->CW->Prop) (a:T):Prop:=
 ∀h' ds' n' tk,h'.D7 p=A9 (AK ds' n')->Ev.Qq p s.Dn h'->AV w σ (es++[(a,v)]) ds'->Qu LI.Qe {s with Dn:=h',Dp:=tk}
theorem um (R:`b s) {i:BF} {es:AT (T×V)} {a:T} {v:V} {x y z:Bl} {b:BF} (hb:∀b0∈X.bs,b0<=b) (ro:Ad w σ (.FN i) x) (ri:Ad w σ (.t a) z) (rv:Ad w σ v y) (hi:J7 cs i=A9 (.Rv es)) (hl:DR a es=A9 BH)
  (hf:El b i v=Bj) (N9:es.A8<=5000) {A:Ke} (hu:A.LL+1<VV) {Qu:LI->CW->Prop} (hQ:∀s',Ak w X σ CL ve (PF cs i (.Rv (es++[(a,v)]))) s'->Qu LI.Qe s'):`a A (setItem x z y) Qu E s:=by
 have bd:=jt R hi;have W3:=R.1.W3;obtain⟨R,hg,ho⟩:=R;obtain⟨p,os,h1,⟨ds,nn,Cs,r⟩,h2,h3,up⟩:=R.upd hi;have hx:=h2 _ (.Jn _);obtain⟨p',hp',Cs⟩:=ro
 obtain rfl:p=p':=Bq.A9.Ky (h1.Hl.CX hp')
 have K7:UK w σ s p.1 es v Qu a:=λh' ds' n' tk e hs rr=>by
  refine hQ _ ⟨up (.Rv (es++[(a,v)])) [(p.1,AK ds' n')] h' rfl (λb o hb' e'=> ?_) (λq hq=> ?_) ⟨ds',n',Cs,rr⟩ λb0 hb0 hib j hj=> ?_,hg,ho⟩
  .exact(hs.2 b (λz=>hb' (by rw[z];exact .Jn _))).CX e'
  .cases AT.H9.mp hq;exact e
  .simp only[CH,AT.flatMap_append,AT.Wf,AT.flatMap_nil,AT.H7,AT.JX] at hj
   rcases hj with z|z
   .exact bd b0 hb0 hib j z
   .exact(cn hf `aa j z).Dk
 refine kg (P:=λa=>Ad w σ (.t a) z->UK w σ s p.1 es v Qu a->`a A (setItem (.C9 p.1) z y) Qu E s) hl (λu hl ri K7=>nv (Fn FZ w) qi hx r hl ((Fn FZ w).rep (fz:=σ.fz).mp ri) rv N9 K7)
  (λu hl ri K7=>nv (Gs FZ w) sf hx r hl ((Gs FZ w).rep (fz:=σ.fz).mp ri) rv N9 K7) (λts ns Xn hl ri K7=> ?_) ri K7
 obtain⟨xs,g1,g2,g3,g4,g5⟩:=aad FZ (h:=s.Dn) W3 Xn r hl;obtain⟨ka,ez,hka⟩:=iF FZ (h:=s.Dn) W3 Xn ri;subst ez;have hxl:xs.A8=es.A8:=by rw[<-r.A8,g1,AT.Lc]
 refine wpAny_setItem_heap (V2:=Sn `ae) hu hka ⟨_,ds.E6,nn,hx,⟨Cs,Cs,Cs⟩,Cs,by simpa using g1,g2,g3⟩ (λh' hD hs=> ?_) (by rw[Kq];omega);rw[storedH_new g5] at hD;obtain⟨o,es',ep,ho',⟨x1,x2,x3⟩,hd,he',_⟩:=hD;obtain⟨oc,od,oda,osl⟩:=o;dsimp only at x1 x2 x3 hd;subst x1 x2 x3 hd;refine K7 h' es'.Ob ep _ (by rw[ho'];unfold AK;simp) hs ?_;rw[he',AT.J8,<-g1];refine AV.snoc (x:= .Ld ts) (e:=V9 (Sn `ae) (ns,ka,y)) (show Ah w σ.fz (.Ld ts) (.C9 ka) from ri) ?_ rv r (oG Xn hl)
 show(V9 _ (ns,ka,y)).Vm=_
 unfold V9;simp only[Aag,Xn];rfl
theorem xu (S:`e) (H:`g) (O:DC X CL) (R:`b s) (ha:BZ an) {o i e:D8.Ez} {p HW:Oz} (hc:CA e=Bj)
  (h:an (r.ev cx e ve cs (λv G1=>X1 G r cx (.Qs o i p) v ve G1 kn ke) ke)) (hN:`q) (hE:∀ve,`k):`a X.A (Rq (.QS [.Qs o i p] e HW) CL) Q E s:=by
 refine wpAny_Assign_Subscript (S X cx CL e σ ve cs s _ ke _ E H R ha h ?_ `R) (bq hc _ _ _);intro σ1 v y G1 s1 l1 R1 rv h;refine S X cx CL o σ1 ve G1 s1 _ ke _ E H R1 ha h ?_ ((hE ve).Ey l1);intro σ2 ov x KM s2 l2 R2 ro h;refine S X cx CL i σ2 ve KM s2 _ ke _ E H R2 ha h ?_ (((hE ve).Ey l1).Ey l2);intro σ3 iv z Se Z4 l3 R3 ri h;have ro:=ro.Ey l3;have rv:=(rv.Ey l2).Ey l3;have l:=(l1.CX l2).CX l3;dsimp only at h;cases ov with
 |t _=>exact(ha _ h).Dk
 |FN j=>cases iv with
  |FN _=>exact(ha _ h).Dk
  |t x0=>
   dsimp only at h;cases hj:J7 Se j with
   |BH=>rw[hj] at h;exact(ha _ h).Dk
   |A9 c=>
    rw[hj] at h;cases c with
    |LJ _ _=>exact(ha _ h).Dk
    |fz _=>exact(ha _ h).Dk
    |Rv es=>
     refine ab ha h λq e h=> ?_;cases q with
     |A9 _=>exact(ha _ h).Dk
     |BH=>
      refine am ha h λhb h=> ?_;rw[CV.DG] at hb;exact um R3 H.e.bs ro ri rv hj e hb.1 (BF.Lx.mp hb.2:_<=5000) (by have:=H.LL;rw[cT];omega) λs' R'=>hN σ3 ve _ s' l R' h
    |Dg Dg=>
     cases x0 with
     |D4 k=>
      refine ab ha h λm e h=>am ha h λhb h=> ?_;obtain⟨hb,b4⟩:=(CV.DG _ _).mp hb;obtain⟨hb,b3⟩:=(CV.DG _ _).mp hb;obtain⟨b1,b2⟩:=(CV.DG _ _).mp hb;exact qv R3 H.e.bs ro ri rv hj e (BF.Lx.mp b1) b2 (bF.mp b3) (bF.mp b4) λs' R'=>hN σ3 ve _ s' l R' h
     |_=>exact(ha _ h).Dk
end
section
variable {P5:D8.Ez} {it:Bl} {G0:AT IQ} {Q:Rb->CW->Prop}
def E2 (FZ:Kt) (w:FX) (A:Ke) (E:Bl->CW->Prop) (CL:Qp) (P5:D8.Ez) (it:Bl) (G0:AT IQ) (Q:Rb->CW->Prop) (s:CW):Prop:=
 `h A (.forLoop P5 it G0 [] CL) (λr s'=>match r with| .ok f=>Q f s'| .Rx e=>cameBackBy `t A CL E e s') s
def FV (FZ:Kt) (w:FX) (A:Ke) (E:Bl->CW->Prop) (CL:Qp) (P5:D8.Ez) (it:Bl) (G0:AT IQ) (Q:Rb->CW->Prop) (f:Rb) (s:CW):Prop:=
 match f with
 | .next| .cont=>E2 FZ w A E CL P5 it G0 Q s
 | .brk=>Q .next s
 | .EM v=>Q (.EM v) s
theorem d5 (hE:Om (QF FZ w) A CL E)
  (h:`a A (pyNext it) (λr s₁=>match r with
   |BH=>Q .next s₁
   |A9 v=>`a A (QQ P5 it v) (λ_ s₁'=>`a A (PN P5 CL v) (λ_ s₂=>`a A (execs G0 CL) (FV FZ w A E CL P5 it G0 Q) E s₂) E s₁') E s₁) E s):
  E2 FZ w A E CL P5 it G0 Q s:=by
 refine codeAny_of_tree ?_;show Ic _ A ((forTurn P5 it G0 [] CL).onRaise (λx=>do K0 x CL;theTreesLotGoes x)) _ _ s;refine wpAny_noted ?_;simp only[forTurn];refine Ch (Kx (Ch (wpAny_onRaise (Ho h (λr s₁ h₁=> ?_) λ_ _ h'=>Kx (hE _ _ h')))));cases r with
 |BH=>exact De ⟨Cs,codeAny_block (PY h₁)⟩
 |A9 v=>
  refine Ch (Ho h₁ (λ_ s₁' h₁'=> ?_) hE);refine Ch (Ho h₁' (λ_ s₂ h₂=>Ch (Ho h₂ (λf s₃ h₃=> ?_) hE)) hE);cases f with
  |next=>exact De ⟨Cs,h₃⟩
  |cont=>exact De ⟨Cs,h₃⟩
  |brk=>exact De h₃
  |EM v=>exact De h₃
end
def Fx.F8 (X:Fx) (q:EA×KJ):Fx:={X with bl:=q::X.bl}
section
variable {Q:Rb->CW->Prop} {q q':EA×KJ}
theorem cY (H:C5 K X) (q:EA×KJ):C5 K (X.F8 q):=⟨H.B,H.fr,H.ff,H.fk,H.fl,H.hh,H.lim,H.KX,H.gn,H.bn⟩
theorem AB.F8 (H:`g) (q:EA×KJ):AB K n (X.F8 q) cx CL:=⟨cY H.x q,⟨H.e.hk,H.e.hg,H.e.hb,H.e.hf,H.e.hn,H.e.bs,H.e.own⟩,H.r⟩
theorem DC.F8 (O:DC X CL) (q:EA×KJ):DC (X.F8 q) CL:=⟨O.fe,O.ll⟩
theorem gb:Aq (X.F8 q) σ G2=G2.H8++(q::(X.bl++σ.fz)):=rfl
theorem aM:(Aq (X.F8 q) σ G2).V8 (q::Aq X σ G2):=by
 rw[gb];exact AT.Qg
theorem wL:(Aq X σ G2).Og (Aq (X.F8 q) σ G2):=by
 rw[gb];exact AT.Og.Le `W (AT.sublist_cons_self _ _)
theorem mU:q∈Aq (X.F8 q) σ G2:=by rw[gb];simp
theorem AN.F3 (r:AN w (X.F8 q) σ CL ve cs h m ml G2) (hl:CL.J6=X.L) (hk:∀b o,b≠q.1->h.D7 b=A9 o->h'.D7 b=A9 o):AN w X σ CL ve cs h' m ml G2:=by
 have nd:(q.1::(Aq X σ G2).FW (·.1)).Oq:=((aM (X:=X) (σ:=σ) (G2:=G2) (q:=q)).FW VH.fst).Lz.mp r.nd;rw[AT.Kv] at nd;have nq:=r.N q mU;have Z9:X.L≠q.1:=λe=>nq.2.1 e.Hl;have hml:m=ml:=bu r.F.ns (hl▸r.ns);refine⟨⟨r.F.ns.at' λo e=>hk _ o Z9 e,λb o e=>hk b o (λz=> ?_) (r.F.QH b o e),r.F.above⟩,r.ns.at' λo e=>hk _ o (hl▸Z9) e,r.V0,r.J2,λp hp=> ?_,nd.2,r.bd,.HX hl,r.T⟩
 .rw[z,nq.2.2] at e;cases e
 .have P:=r.N p (wL.PH hp)
  exact⟨hk _ _ (λz=>nd.1 (z▸AT.Ib (f:=(·.1)) hp)) P.1,P.2⟩
theorem Ak.F3 (R:Ak w (X.F8 q) σ CL ve cs s) (hl:CL.J6=X.L) (hk:∀b o,b≠q.1->s.Dn.D7 b=A9 o->h'.D7 b=A9 o) (tk:BF):`b {s with Dn:=h',Dp:=tk}:=by
 obtain⟨⟨m,ml,G2,r⟩,hg,ho⟩:=R;exact⟨⟨m,ml,G2,r.F3 hl hk⟩,hg,ho⟩
theorem AN.Xq (r:AN w (X.F8 q) σ CL ve cs h m ml G2) (hl:CL.J6=X.L) (hq:q'.1=q.1) (hk:∀b o,b≠q.1->h.D7 b=A9 o->h'.D7 b=A9 o) (h2:h'.D7 q'.1=A9 q'.2):AN w (X.F8 q') σ CL ve cs h' m ml G2:=by
 have d:=r.F3 hl hk;have nq:=r.N q mU;refine⟨d.F,d.ns,d.V0,d.J2,λp hp=> ?_,?_,d.bd,.HX hl,d.T⟩
 .rcases AT.GZ.mp ((aM (X:=X) (σ:=σ) (G2:=G2) (q:=q')).OF.mp hp) with rfl|hp
  .exact⟨h2,hq▸nq.2.1,hq▸nq.2.2⟩
  .exact d.N p hp
 .have nd:(q.1::(Aq X σ G2).FW (·.1)).Oq:=((aM (X:=X) (σ:=σ) (G2:=G2) (q:=q)).FW VH.fst).Lz.mp r.nd
  exact((aM (X:=X) (σ:=σ) (G2:=G2) (q:=q')).FW VH.fst).Lz.Lq (by rw[AT.JS,hq];exact nd)
theorem Ak.Xq (R:Ak w (X.F8 q) σ CL ve cs s) (hl:CL.J6=X.L) (hq:q'.1=q.1) (hk:∀b o,b≠q.1->s.Dn.D7 b=A9 o->h'.D7 b=A9 o) (h2:h'.D7 q'.1=A9 q'.2) (tk:BF):Ak w (X.F8 q') σ CL ve cs {s with Dn:=h',Dp:=tk}:=by
 obtain⟨⟨m,ml,G2,r⟩,hg,ho⟩:=R;exact⟨⟨m,ml,G2,r.Xq hl hq hk h2⟩,hg,ho⟩
theorem Ak.Gk (R:`b s) (hk:∀b o,s.Dn.D7 b=A9 o->h'.D7 b=A9 o) (hn:s.Dn.D7 q.1=BH) (h2:h'.D7 q.1=A9 q.2) (tk:BF):Ak w (X.F8 q) σ CL ve cs {s with Dn:=h',Dp:=tk}:=by
 obtain⟨⟨m,ml,G2,r0⟩,hg,ho⟩:=R;have fr0:=r0.Wo hn;have hgr:σ.gr.D7 q.1=BH:=fr0.2.2;have hmem:q.1∉(Aq X σ G2).FW (·.1):=fr0.1;have r:AN w X σ CL ve cs h' m ml G2:=⟨Fr.kp r0.F hk,r0.ns.at' λo e=>hk _ o e,r0.V0,r0.J2,Pz.kp r0.N hk,r0.nd,r0.bd,r0.lo,r0.T⟩;refine⟨⟨m,ml,G2,r.F,r.ns,r.V0,r.J2,λp hp=> ?_,?_,r.bd,?_,r.T⟩,hg,ho⟩
 .rcases AT.GZ.mp ((aM (X:=X) (σ:=σ) (G2:=G2) (q:=q)).OF.mp hp) with rfl|hp
  .exact⟨h2,fr0.2.1,hgr⟩
  .exact r.N p hp
 .exact((aM (X:=X) (σ:=σ) (G2:=G2) (q:=q)).FW VH.fst).Lz.Lq (AT.Kv.Lq ⟨hmem,r.nd⟩)
 .rcases r.lo with e|⟨e,ke⟩
  .exact .HX e
  .exact .G4 ⟨.Do _ e,ke⟩
theorem d7 {c:BF} {wv av:V} {e:Bl} (x:Ep w (X.F8 q) σ CL ve c wv av cs e s):Ep w X σ CL ve c wv av cs e s:=by
 obtain⟨ea,d,ds,nn,G2,m,Cs,x⟩:=x;have nd:(q.1::(Aq X σ G2).FW (·.1)).Oq:=((aM (X:=X) (σ:=σ) (G2:=G2) (q:=q)).FW VH.fst).Lz.mp x.nd;have Xs:∀{p},p∈Aq X σ G2->p∈Aq (X.F8 q) σ G2:=λhp=>(wL (X:=X) (σ:=σ) (G2:=G2) (q:=q)).PH hp;refine⟨ea,d,ds,nn,G2,m,Cs,x.J2,(AT.Kv.mp nd).2,x.dm,x.df,x.bd,x.V0,x.T,x.N8,x.os,x.LG,?_⟩;rcases x.Ri with⟨vs,sl,a0,he,h1,h0,Fs,Ns',hn,hg⟩|⟨B,a0,hp,b1,b2,fl,Fp,Np,up⟩|⟨B,a0,b1,b2,hl,Fp,Np⟩
 .exact .HX ⟨vs,sl,a0,he,h1,h0,Fs,λp hp=>Ns' p (Xs hp),λhm=>hn (by
   obtain⟨p,hp,e⟩:=AT.KY.mp hm;exact e▸AT.Ib (f:=(·.1)) (Xs hp)),hg⟩
 .exact .G4 (.HX ⟨B,a0,hp,b1,λp hp=>b2 p (Xs hp),fl,Fp,λp hp=>Np p (Xs hp),up⟩)
 .exact .G4 (.G4 ⟨B,a0,b1,λp hp=>b2 p (Xs hp),hl,Fp,λp hp=>Np p (Xs hp)⟩)
end
def HL (Ld:CV) (o:KJ) (p:EA) (j:BF):Prop:=o.Ov= .Ds (if Ld then"tuple_iterator" else"list_iterator")/\o.KA= .J5 #[.C9 p,.D4 j 0]
def Cl:V->CV
 | .t (.Ld _)=>Bj
 |_=>Be
theorem dX {cs:St} {v:V} {vs:AT V} (h:AX cs v=A9 vs):Cl v=Be:=by
 cases v with
 |FN=>rfl
 |t t=>cases t<;>first|rfl|exact nomatch (h:(BH:Bq (AT V))=A9 vs)
theorem u1 {cs:St} {v:V} {vs:AT V} (h:AX cs v=A9 vs):BW cs v=A9 vs:=by
 cases v with
 |FN=>exact h
 |t t=>cases t<;>first|exact h|exact nomatch (h:(BH:Bq (AT V))=A9 vs)
section
variable (w:FX) (FZ:Kt)
def JL (K:Lo) (n:BF) (an:An->Prop) (fo:Cx->D8.Ez->AT IQ->V->BF->Ag->St->KN->KV->KX->An):Prop:=
 ∀X cx CL t G0 l p I o j σ ve cs s kn kr ke Q E,`g->DC X CL->Ak w (X.F8 (I,o)) σ CL ve cs s->Ad w σ l (.C9 p)->HL (Cl l) o p j->BZ an->an (fo cx t G0 l j ve cs kn kr ke)->`q->CD w X σ CL kr an Q->(∀ve,`k)->Om `t X.A CL E->
  E2 FZ w X.A E CL t (.C9 I) G0 Q s
end
section
variable {Q:Rb->CW->Prop}
theorem qc (H:`g) (O:DC X CL) (R:`b s) (ha:BZ an) {t:D8.Ez} {v:V} {y:Bl} {Qu:LI->CW->Prop} (rv:Ad w σ v y) (h:an (Ii cx t v ve cs kn))
  (hN:∀σ' Qk Kg s',σ.le σ'->Ak w X σ' CL Qk Kg s'->an (kn Qk Kg)->Qu LI.Qe s'):`a X.A (PN t CL y) Qu E s:=by
 unfold Ii at h;cases e0:BJ t with
 |A9 x=>rw[e0] at h;exact aZ (q:=λt=>`a X.A (PN t CL y) Qu E s) e0 λp=>VA (dq H O R ha rv h hN)
 |BH=>
 rw[e0] at h;cases e:Gf t with
 |BH=>rw[e] at h;exact(ha _ h).Dk
 |A9 es=>
 rw[e] at h;dsimp only at h;cases e2:E9 es with
 |BH=>rw[e2] at h;exact(ha _ h).Dk
 |A9 q=>
 rw[e2] at h;refine fM (q:=λt=>`a X.A (PN t CL y) Qu E s) e λk p=>da (q:=λes=>`a X.A (PN (.Oi es k p) CL y) Qu E s) e2 ?_;refine mu (q:=λa b=>`a X.A (PN (.Oi [a,b] k p) CL y) Qu E s) ha h λna nb pa pb h=> ?_;have h:an (G7 cx (.JV na pa) (.JV nb pb) v ve cs kn):=h;obtain⟨hab,Qt⟩:=jX (Qu:=Qu) (E:=E) H O ha R rv h hN;rw[kR];refine Ch (Kx ?_);show Ic _ _ (do RP [PN (.JV na pa) CL,PN (.JV nb pb) CL] (<-Qy [y] (Q7 y 2 BH))) _ _ _;exact Ch (Kh (Ho Qt (λLy s2 h2=>h2.1) λ_ _ z=>z))
theorem lD {t:D8.Ez} {I:EA} {o:KJ} {v:Bl} {A:Ke} {Qu:LI->CW->Prop} (h:s.Dn.D7 I=A9 o) (hc:∀n,o.Ov= .Ds n->(["enumerate","zip","dict_itemiterator","dict_reverseitemiterator","odict_iterator","itertools.zip_longest","itertools.pairwise"].La n)=Be)
  (hq:Qu LI.Qe s):`a A (QQ t (.C9 I) v) Qu E s:=by
 cases t<;>first|exact De hq|skip
 all_goals
  cases v<;>first|exact De hq|skip
  refine Ch (wpAny_load h ?_);obtain⟨c,d,dt,sl⟩:=o;cases c<;>first|exact De hq|skip
  cases dt<;>first|exact De hq|skip
  refine wpAny_ite_false (H5 λq=>CV.Ki ((hc _ rfl).Hl.CX (CV.Kf.mp q).1)) ?_;exact De hq
theorem vt {Ld:CV} {o:KJ} {p:EA} {j:BF} (h:HL Ld o p j):∀n,o.Ov= .Ds n->(["enumerate","zip","dict_itemiterator","dict_reverseitemiterator","odict_iterator","itertools.zip_longest","itertools.pairwise"].La n)=Be:=λn e=>by
 rw[h.1] at e;cases Ld<;>(cases e;decide)
theorem Ac.BH {vs:AT V} {xs:AT Bl} {j:BF} (r:Ac w σ vs xs) (h:PL.J7 vs j=Bq.BH):xs[j]?=Bq.BH:=
 Ac.Vb (P:=λvs xs=>∀j,PL.J7 vs j=Bq.BH->xs[j]?=Bq.BH) (λ_ _=>rfl) (λ_ _ _ _ _ _ ih j=>BF.Ou j (λh=>nomatch h) λj h=>ih j h) r j h
theorem Ak.getB {q:EA×KJ} (R:Ak w (X.F8 q) σ CL ve cs s):s.Dn.D7 q.1=A9 q.2:=by
 obtain⟨⟨m,ml,G2,r⟩,_⟩:=R;exact(r.N q mU).1
theorem ao {a:EA} {h h':Ev} (x:Ev.ExtBut a h h'):∀b o,b≠a->h.D7 b=A9 o->h'.D7 b=A9 o:=λb o hb e=>x b o hb e
theorem fY (H:`g) (hl:CL.J6=X.L) {I p:EA} {o:KJ} {l:V} {vs:AT V} {j:BF} (R:Ak w (X.F8 (I,o)) σ CL ve cs s) (rl:Ad w σ l (.C9 p)) (ho:HL (Cl l) o p j) (e:BW cs l=A9 vs) {Qo:Bq Bl->CW->Prop}
  (hN:J7 vs j=BH->∀s',`b s'->Qo BH s') (hS:∀v,J7 vs j=A9 v->∀y o' s',Ad w σ v y->Ak w (X.F8 (I,o')) σ CL ve cs s'->HL (Cl l) o' p (j+1)->Qo (A9 y) s'):
  `a X.A (pyNext (.C9 I)) Qo E s:=by
 obtain⟨p',xs,e1,r1,r2⟩:=cJ R.1 rl e;cases e1;have hI:=R.getB;rcases r2 with⟨ts,Cs,_,g⟩|⟨e3,n',g⟩
 .have ht:IsTup s.Dn p xs.E6:=⟨_,g,Cs,0,Cs⟩
  have hit:IsTupIter s.Dn I p j:=⟨o,hI,ho.1,ho.2⟩;cases hv:J7 vs j with
  |BH=>exact next_tuple_end H.x.hh hit ht (by simpa using r1.BH hv) λh' he=>hN hv _ (R.F3 hl (ao he) s.Dp)
  |A9 v=>
   obtain⟨y,g1,g2⟩:=r1.J7 hv;refine next_tuple_item hit ht (x:=y) (by simpa using g1) λh' hit' hs=> ?_;obtain⟨o',ho',hc,hd⟩:=hit';exact hS v hv y o' _ g2 (R.Xq (q':=(I,o')) hl rfl (ao hs.Oh) ho' s.Dp) ⟨hc,hd⟩
 .have hnt:Cl l=Be:=dX e3
  have ht:=ae g;rw[hnt] at ho;have hit:s.Dn.IsListIter I p j:=⟨o,hI,ho.1,ho.2⟩;cases hv:J7 vs j with
  |BH=>exact wpAny_pyNext_list_end H.x.hh hit ht (by simpa using r1.BH hv) λh' he=>hN hv _ (R.F3 hl (ao he) s.Dp)
  |A9 v=>
   obtain⟨y,g1,g2⟩:=r1.J7 hv;refine wpAny_pyNext_list_item hit ht (x:=y) (by simpa using g1) λh' hit' hs=> ?_;obtain⟨o',ho',hc,hd⟩:=hit';exact hS v hv y o' _ g2 (R.Xq (q':=(I,o')) hl rfl (ao hs.Oh) ho' s.Dp) (by rw[hnt];exact⟨hc,hd⟩)
theorem Ak.drop0 {q:EA×KJ} (R:Ak w (X.F8 q) σ CL ve cs s) (hl:CL.J6=X.L):`b s:=R.F3 hl (λb o _ e=>e) s.Dp
theorem zX (SX:FM w FZ K n an r.ex) (SF:JL w FZ K n an r.fo):JL w FZ K n an (XT r):=by
 intro X cx CL t G0 l p I o j σ ve cs s kn kr ke Q E H O R rl ho ha h hN hR hE hP;unfold XT at h;refine ab ha h λvs e h=> ?_;refine d5 hP (fY H O.ll R rl ho e (λhv s' R'=> ?_) λv hv y o' s' ry R' ho'=> ?_)
 .rw[hv] at h
  exact hN σ ve cs s' σ.G5 R' h
 .rw[hv] at h
  refine lD R'.getB (vt ho') ?_;have H1:=(H.F8 (I,o'));have O1:DC (X.F8 (I,o')) CL:=O.F8 _;refine qc (X:=X.F8 (I,o')) H1 O1 R' ha ry h λσ2 ve2 KM s2 l2 R2 h=> ?_;refine SX (X.F8 (I,o')) cx CL G0 σ2 ve2 KM s2 _ kr ke (FV FZ w X.A E CL t (.C9 I) G0 Q) E H1 O1 R2 ha h ?_ ?_ ?_ hP
  .intro σ3 ve3 Se Z4 l3 R3 h
   exact SF X cx CL t G0 l p I o' (j+1) σ3 ve3 Se Z4 kn kr ke Q E H O R3 ((rl.Ey l2).Ey l3) ho' ha h ((hN.Ey l2).Ey l3) ((hR.Ey l2).Ey l3) (λve=>((hE ve).Ey l2).Ey l3) hP
  .intro σ3 ve3 v3 x3 Se Z4 l3 R3 rv3 h
   exact hR σ3 ve3 v3 x3 Se Z4 `an (R3.drop0 O.ll) rv3 h
  .intro ve3 σ3 c wv av Se e3 Z4 l3 hx h
   exact hE ve3 σ3 c wv av Se e3 Z4 `an (d7 hx) h
end
section
theorem cy {es:AT D8.Ez} {HW:Oz}:es.VG Bh=Bj->(Rl HW (OG es CL)).Xa (·.1)=Be:=by
 induction es with
 |HU=>exactλ_=>rfl
 |Dc e es ih=>
  intro h;rw[AT.RU,CV.DG] at h;rw[eB h.1];exact ih h.2
def DN (FZ:Kt) (w:FX) (K:Lo) (f:Bl):Prop:=∀h,K.In h->∃k,(k=Keeper.Wp\/k=Keeper.machine\/k=Keeper.boundFrame)/\Ll (QF FZ w) h (keeperOf f) k
theorem dC {T:Qf}:DN FZ w K (.Ds T):=λh X=>⟨.machine,.G4 (.HX rfl),Ll.of_pure rfl⟩
theorem bJ {T:Qf}:DN FZ w K (.Dd T):=λh X=>⟨.machine,.G4 (.HX rfl),Ll.of_pure rfl⟩
theorem dc {f:Bl} (hk:WR K f=Bj):DN FZ w K f:=keeps_K hk
theorem nD (S:`e) (H:`g) (R:`b s) (ha:BZ an) {f:Bl} {first:AT Bl} {es:AT D8.Ez} {HW:Oz} {kk:AT V->St->An} {Q:Bl->CW->Prop} (hp:es.VG Bh=Bj) (h:an (Ms r cx es ve cs kk ke))
  (hQ:∀σ' vs xs Kg s',σ.le σ'->Ak w X σ' CL ve Kg s'->Ac w σ' vs xs->an (kk vs Kg)->DN FZ w K f/\`a X.A (DH f (first++xs)) Q E s') (hE:`k):
  `a X.A (callWith HW f first (Rl HW (OG es CL)) []) Q E s:=by
 refine callWith_of (P:=λh=>K.In h/\DN FZ w K f) (by rw[cy hp];rfl) (λh ph=>ph.2 h ph.1) ?_;have Qt:`a X.A (spliced (Rl HW (OG es CL))) (λxs s'=>(K.In s'.Dn/\DN FZ w K f)/\`a X.A (DH f (first++xs)) Q E s') E s:=
  jl S H ha R h (λσ' vs xs Kg s' l R' rv h=>⟨⟨R'.KIn H.x,(hQ σ' vs xs Kg s' l R' rv h).1⟩,(hQ σ' vs xs Kg s' l R' rv h).2⟩) hE
 cases es with
 |HU=>
  have h:an (kk [] cs):=h
  have:=hQ σ [] [] cs s σ.G5 R rfl h
  exact evalArgs_nil3 ⟨⟨R.KIn H.x,F4.1⟩,F4.2⟩
 |Dc e es=>
  rw[AT.RU,CV.DG] at hp;rw[eB hp.1] at Qt⊢;exact evalArgs_plain Qt
end
set_option backward.match.sparseCases false
def Hr (x left:Dt):KJ:={Ov:= .Ds "range_iterator",LG:=BH,KA:= .J5 #[Os x,Os left,Os 1],slots:= #[]}
section
variable (w:FX) (FZ:Kt)
def JJ (K:Lo) (n:BF) (an:An->Prop) (fr:Cx->Dr->AT IQ->Dt->Dt->Ag->St->KN->KV->KX->An):Prop:=
 ∀X cx CL y py G0 I j m σ ve cs s kn kr ke Q E,`g->DC X CL->Ak w (X.F8 (I,Hr j (m - j))) σ CL ve cs s->BZ an->an (fr cx y G0 j m ve cs kn kr ke)->`q->CD w X σ CL kr an Q->(∀ve,`k)->Om `t X.A CL E->
  E2 FZ w X.A E CL (.JV y py) (.C9 I) G0 Q s
end
section
variable {Q:Rb->CW->Prop}
theorem zU (SX:FM w FZ K n an r.ex) (SF:JJ w FZ K n an r.fr):JJ w FZ K n an (XR r):=by
 intro X cx CL y py G0 I j m σ ve cs s kn kr ke Q E H O R ha h hN hR hE hP;have hI:IsRangeIter s.Dn I j (m - j) 1:=R.getB;unfold XR at h;rcases bP h with⟨hj,h⟩|⟨hj,h⟩
 .have hj:=cP.mp hj
  refine d5 hP (wpAny_pyNext_range_item hI (·) λh' hI' hs=> ?_);have R':Ak w (X.F8 (I,Hr (j+1) (m - (j+1)))) σ CL ve cs {s with Dn:=h',Dp:=s.Dp+1}:=R.Xq (q':=(I,Hr (j+1) (m - (j+1)))) O.ll rfl (ao hs.Oh) (by rw[show m - (j+1)=m - j - 1 by omega];exact hI') _;show Ic _ _ (QQ (.JV y py) (.C9 I) (.D4 j s.Dp)) _ _ _;refine De ?_;have H1:=(H.F8 (I,Hr (j+1) (m - (j+1))));have O1:DC (X.F8 (I,Hr (j+1) (m - (j+1)))) CL:=O.F8 _;refine VA (dq (X:=X.F8 (I,Hr (j+1) (m - (j+1)))) H1 O1 R' ha jC h λσ2 ve2 KM s2 l2 R2 h=> ?_);refine SX (X.F8 (I,Hr (j+1) (m - (j+1)))) cx CL G0 σ2 ve2 KM s2 _ kr ke (FV FZ w X.A E CL (.JV y py) (.C9 I) G0 Q) E H1 O1 R2 ha h ?_ ?_ ?_ hP
  .intro σ3 ve3 Se Z4 l3 R3 h
   exact SF X cx CL y py G0 I (j+1) m σ3 ve3 Se Z4 kn kr ke Q E H O R3 ha h ((hN.Ey l2).Ey l3) ((hR.Ey l2).Ey l3) (λve=>((hE ve).Ey l2).Ey l3) hP
  .intro σ3 ve3 v3 x3 Se Z4 l3 R3 rv3 h
   exact hR σ3 ve3 v3 x3 Se Z4 `an (R3.drop0 O.ll) rv3 h
  .intro ve3 σ3 c wv av Se e3 Z4 l3 hx h
   exact hE ve3 σ3 c wv av Se e3 Z4 `an (d7 hx) h
 .have hj':¬j<m:=λz=>by rw[cP.Lq z] at hj;cases hj
  refine d5 hP (wpAny_pyNext_range_end H.x.hh hI (·) λh' he=> ?_);exact hN σ ve cs _ σ.G5 (R.F3 O.ll (ao he) s.Dp) h
theorem ko {A:Ke} (R:`b s) {v:V} {vs:AT V} {y:Bl} (rv:Ad w σ v y) (e:BW cs v=A9 vs) {Qi:Bl->CW->Prop}
  (hQ:∀p I o s',y= .C9 p->HL (Cl v) o p 0->Ak w (X.F8 (I,o)) σ CL ve cs s'->Qi (.C9 I) s'):`a A (pyIter y) Qi E s:=by
 obtain⟨p,xs,Cs,r1,r2⟩:=cJ R.1 rv e;rcases r2 with⟨ts,Cs,_,g⟩|⟨e3,n',g⟩
 .have ht:IsTup s.Dn p xs.E6:=⟨_,g,Cs,0,Cs⟩
  refine iter_tuple ht (hQ p `m {Ov:= .Ds "tuple_iterator",KA:= .J5 #[.C9 p,.D4 0 0]} _ rfl ⟨Cs,Cs⟩ ?_);exact R.Gk (q:=(`m,_)) (λb o e=>Ev.EB _ e) aq (Ev.JW _ rfl) s.Dp
 .have hnt:Cl v=Be:=dX e3
  refine Vz (ae g) (hQ p `m {Ov:= .Ds "list_iterator",KA:= .J5 #[.C9 p,.D4 0 0]} _ rfl (by rw[hnt];exact⟨Cs,Cs⟩) ?_);exact R.Gk (q:=(`m,_)) (λb o e=>Ev.EB _ e) aq (Ev.JW _ rfl) s.Dp
theorem gw {it:D8.Ez} (h:Gj it=Bj) (x:Bl):foldedSetIterable it CL x=Kp x:=by
 cases it<;>first|rfl|exact CV.JT (h:Be=Bj)
theorem ur (S:`e) (SF:JL w FZ K n an r.fo) (H:`g) (O:DC X CL) (R:`b s) (ha:BZ an) {t it:D8.Ez} {G0:AT IQ} {HW:Oz} (h:an (Ip r cx t it G0 ve cs kn kr ke))
  (hN:`q) (hR:CD w X σ CL kr an Q) (hE:∀ve,`k) (hP:Om `t X.A CL E):`a X.A (Rq (.For t it G0 [] HW) CL) Q E s:=by
 unfold Ip at h;refine am ha h λhs h=> ?_;refine wpAny_For (S X cx CL it σ ve cs s _ ke _ E H R ha h ?_ `R) (gw hs);intro σ1 v y G1 s1 l1 R1 rv h;refine ab ha h λvs e h=> ?_;refine ko R1 rv e λp I o s' hy ho R'=> ?_;subst hy;exact SF X cx CL t G0 v p I o 0 σ1 ve G1 s' kn kr ke Q E H O R' rv ho ha h (hN.Ey l1) (hR.Ey l1) (λve=>(hE ve).Ey l1) hP
theorem jO {n:Dt} (h0:0<=n) (h1:n<=1000):Kj.Range.small 0 n 1=Bj:=by
 unfold Kj.Range.small;rw[rangeSize_nat];unfold Kj.Range.rangeFitsLong;have e1:((0:Dt) - 0).LU=0:=rfl;simp only[CV.DG,CV.Wh,Vr];refine⟨⟨⟨⟨?_,?_⟩,?_⟩,?_⟩,.G4 ?_⟩
 .decide
 .constructor<;>omega (splitNatSub:=Bj)
 .decide
 .constructor<;>omega (splitNatSub:=Bj)
 .rw[Lu (by decide)]
  simp only[CV.DG,Vr]
  constructor<;>omega (splitNatSub:=Bj)
theorem uB (GK:Jk K G) (S:`e) (SF:JJ w FZ K n an r.fr) (H:`g) (O:DC X CL) (R:`b s) (ha:BZ an) {x y:Dr} {a:D8.Ez} {px py p:Oz} {G0:AT IQ} {HW:Oz} (hx:Bi G cx x ve=A9 (.t (.Km (.Ds "range")))) (hs:Bh a=Bj)
  (h:an (r.ev cx a ve cs (λv G1=>match v with
      | .t (.D4 n)=>br (CF n 1000&&CF 0 n) (r.fr cx y G0 0 n ve G1 kn kr ke) (.D9 153)
      |_=> .D9 154) ke))
  (hN:`q) (hR:CD w X σ CL kr an Q) (hE:∀ve,`k) (hP:Om `t X.A CL E):`a X.A (Rq (.For (.JV y py) (.QI (.JV x px) [a] [] p) G0 [] HW) CL) Q E s:=by
 refine wpAny_For (Call_Name rfl (aS GK H R hx λf hf=> ?_)) (gw rfl)
 obtain rfl:f= .Ds "range":=hf
 have hev:an (Ms r cx [a] ve cs (λvs G1=>AA (CR vs) 0 λv=>match v with
      | .t (.D4 n)=>br (CF n 1000&&CF 0 n) (r.fr cx y G0 0 n ve G1 kn kr ke) (.D9 153)
      |_=> .D9 154) ke):=by
  show an (br (Bh a) _ _);rw[hs];exact h
 refine nD S H R ha (by rw[AT.RU,hs];rfl) hev ?_ `R;intro σ1 vs xs G1 s1 l1 R1 rv h;refine ab ha h λv e h=> ?_;obtain⟨z,Cs,r1⟩:∃z,xs=[z]/\Ad w σ1 v z:=jy rv (q:=λxs=>∃z,xs=[z]/\Ad w σ1 v z) e λz r=>⟨z,Cs,r⟩;cases v with
 |FN _=>exact(ha _ h).Dk
 |t v=>cases v with
  |D4 m=>
   refine am ha h λhb h=> ?_;simp only[CV.DG] at hb;have b1:=bF.mp hb.1;have b2:=bF.mp hb.2;obtain⟨t,Cs⟩:=Ah.LO (w:=w) (fz:=σ1.fz) r1;obtain⟨⟨mm,ml,G2,q⟩,_⟩:=id R1;refine⟨dC,?_⟩;refine range1_rows q.F q.N λh' tk t₁ u₁ v₁ hr F' N' hk=> ?_;refine wpAny_pyIter_range hr (jO b2 b1) ?_;have R2:Ak w X σ1 CL ve G1 {s1 with Dn:=h',Dp:=tk}:=R1.QH hk tk;have e:Kj.Range.rangeSize 0 m 1=m:=by rw[rangeSize_nat];omega
   rw[e];refine SF X cx CL y py G0 h'.KL.Id 0 m σ1 ve G1 _ kn kr ke Q E H O ?_ ha h (hN.Ey l1) (hR.Ey l1) (λve=>(hE ve).Ey l1) hP;exact R2.Gk (q:=(h'.KL.Id,Hr 0 (m - 0))) (λb o e=>Ev.EB _ e) aq (by rw[show m - 0=m by omega];exact Ev.JW _ rfl) tk
  |_=>exact(ha _ h).Dk
end
set_option backward.match.sparseCases true
theorem it1:∀a,a<10->D8.intText? ⟨⟨[a+48]⟩⟩=A9 (a:Dt):=by decide+QG
theorem it2:∀a,a<10->∀b,b<10->D8.intText? ⟨⟨[a+48,b+48]⟩⟩=A9 ((a*10+b:BF):Dt):=by decide+QG
theorem gq {a:BF} (h:ES a=Bj):∃d,d<10/\a=d+48:=by
 unfold ES at h;simp only[CV.DG,BF.Lx] at h;exact⟨a - 48,BF.N4 (BF.sub_le_sub_right h.2 48) (by decide),(BF.Rr h.1).Hl⟩
theorem iq {s:Dr} {n:Dt} (h:Mo s=A9 n):D8.intText? s=A9 n/\s.A8<=640:=by
 obtain⟨⟨l⟩⟩:=s;cases l with
 |HU=>cases h
 |Dc a r=>cases r with
  |HU=>
   have h:wh (ES a) ((a - 48:BF):Dt)=A9 n:=h;refine dj h λhd e=> ?_;obtain⟨d,hd1,Cs⟩:=gq hd;exact e▸⟨it1 d hd1,BF.EC rfl⟩
  |Dc b q=>
   have h:wh (CZ q&&(ES a&&ES b)) (((a - 48)*10+(b - 48):BF):Dt)=A9 n:=h;refine dj h λhd e=> ?_;have hd:=(CV.DG _ _).mp hd;have h2:=(CV.DG _ _).mp hd.2;refine dY (q:=λq=>D8.intText? ⟨⟨a::b::q⟩⟩=A9 n/\(⟨⟨a::b::q⟩⟩:Dr).A8<=640) hd.1 ?_;obtain⟨d,hd1,Cs⟩:=gq h2.1;obtain⟨d',hd2,Cs⟩:=gq h2.2;exact e▸⟨it2 d hd1 d' hd2,BF.EC rfl⟩
section
theorem tz {l:AT V} {xs:AT Bl} {b:CV} (r:Ac w σ l xs) (h:Nj l=A9 b):∃bs,LSm.BoolsAre xs bs/\bs.Xa id=b:=
 Ac.Vb (P:=λl xs=>∀b,Nj l=A9 b->∃bs,LSm.BoolsAre xs bs/\bs.Xa id=b) (λb h=>⟨[],.HU,Bq.A9.Ky h⟩) (λv l y ys a _ ih b h=>ob h λc e h=>ob h λd e2 h=>
  pW (q:=λv=>Ad w σ v y->∃bs,LSm.BoolsAre (y::ys) bs/\bs.Xa id=b) e (λa=>by
   obtain⟨bs,h1,h2⟩:=ih d e2
   obtain rfl:=Ah.VT (w:=w) (fz:=σ.fz) a
   exact⟨c::bs,.Dc c h1,(FY (c|| ·) h2).CX `T⟩) a) r b h
theorem log2_lt {m:BF} (h:m<10^300):m.log2<1920:=by
 by_cases hm:m=0
 .subst hm;decide
 .rw[BF.log2_lt hm]
  refine BF.VU h ?_
  decide+QG
theorem rvT {v:V} {y:Bl} {q:Bl->Prop} (r:Ad w σ v y) {ts:AT T} (e:MQ v=A9 ts) (k:∀p xs,s.Dn.D7 p=A9 (DX xs)->Am w σ.fz ts xs->Ad w σ (.t (.Ld ts)) (.C9 p)->q (.C9 p)) (R:`b s):q y:=by
 refine mq (q:=λv=>Ad w σ v y->q y) e (λr=> ?_) r;obtain⟨p,xs,Cs,g,q1⟩:=Ah.Qx (w:=w) (fz:=σ.fz) r;exact k p xs (R.1.W3 _ g) q1 r
section
variable {vs:AT V} {xs:AT Bl} {Q:Bl->CW->Prop} (R:`b s) (rv:Ac w σ vs xs) (ha:BZ an) (hQ:`l)
include R rv ha hQ
theorem tH (h:an (NS vs cs k)):`a X.A (DH (.Ds "int") xs) Q E s:=
 ab ha h λ_ e h=>jy rv (q:=λxs=>`a X.A (DH (.Ds "int") xs) Q E s) e λ_ r=>
  aF h (λ_ e h=>y8 (q:=λy=>`a X.A (DH (.Ds "int") [y]) Q E s) r e λ_=>call_int_int (hQ _ _ _ _ _ σ.G5 R jC h)) λh=>
  ab ha h λ_ e h=>xB (q:=λy=>`a X.A (DH (.Ds "int") [y]) Q E s) r e λ_=>ab ha h λ_ e h=>
  KIN.call_text (iq e).1 (iq e).2 (hQ _ _ _ _ _ σ.G5 `af jC h)
theorem tF (h:an (NQ vs cs k)):`a X.A (DH (.Ds "str") xs) Q E s:=
 ab ha h λ_ e h=>jy rv (q:=λxs=>`a X.A (DH (.Ds "str") xs) Q E s) e λ_ r=>
  aF h (λ_ e h=>y8 (q:=λy=>`a X.A (DH (.Ds "str") [y]) Q E s) r e λ_=>am ha h λhb h=>
   P.str_of_int (log2_lt (BF.EC hb)) (hQ _ _ _ _ _ σ.G5 `af jA h)) λh=>
  ab ha h λ_ e h=>xB (q:=λy=>`a X.A (DH (.Ds "str") [y]) Q E s) r e λ_=>P.str_of_str (hQ _ _ _ _ _ σ.G5 R jA h)
theorem pD (h:an (Mz vs cs k)):`a X.A (DH (.Ds "list") xs) Q E s:=by
 refine ab ha h λv e h=>jy rv (q:=λxs=>`a X.A (DH (.Ds "list") xs) Q E s) e λy r=>ab ha h λl e h=>am ha h λhb h=> ?_;have hb:l.A8<=5000:=BF.Lx.mp hb;obtain⟨p,xs,Cs,q1,q2⟩:=cJ R.1 r e;have K7:∀h' c',(∀b o',s.Dn.D7 b=A9 o'->h'.D7 b=A9 o')->h'.D7 `m=A9 {Ov:= .Ds "list",LG:=BH,KA:= .KH xs.E6 c',slots:= #[]}->Q (.C9 `m) {s with Dn:=h'}:=λh' c' hk hn=>by
  obtain⟨m,G2,F,N,PI⟩:=R.list;obtain⟨l1,R1,v1⟩:=PI h' `m xs c' l s.Dp (Fr.kp F hk) (λq hq=>by
   rcases AT.GZ.mp hq with rfl|hq
   .refine⟨hn,λz=> ?_,?_⟩
    .obtain⟨o,_,_,e,_⟩:=F.ns
     have:=Ev.RL e
     rw[<-z] at F4;exact BF.lt_irrefl _ F4
    .exact Ev.PW (BF.On F.above (by
      obtain⟨o,_,_,e,_⟩:=F.ns;exact BF.le_of_lt (Ev.RL e)))
   .exact Pz.kp N hk q hq) aq q1
  exact hQ _ _ _ _ _ l1 R1 v1 h
 have hsz:xs.E6.Id<=WO:=by rw[AT.JM,q1.A8,Kq];omega
 rcases q2 with⟨ts,_,_,g⟩|⟨_,n',g⟩
 .exact call_list_seq p (.G4 rfl) g rfl rfl K7 hsz
 .exact call_list_seq p (.HX rfl) g rfl rfl K7 hsz
theorem tE (h:an (NP vs cs k)):`a X.A (DH (.Ds "tuple") xs) Q E s:=by
 refine ab ha h λv e h=>jy rv (q:=λxs=>`a X.A (DH (.Ds "tuple") xs) Q E s) e λy r=>
  aF h (λ_ e h=>rvT (q:=λy=>`a X.A (DH (.Ds "tuple") [y]) Q E s) r e (λp xs g _ r=>call_tuple_tup ⟨_,g,Cs,0,Cs⟩ (hQ _ _ _ _ _ σ.G5 R r h)) R) λh=>
  ab ha h λl e h=>ab ha h λpp e2 h=>am ha h λhb h=> ?_
 have hb:pp.1.A8<=5000:=BF.Lx.mp hb;obtain⟨p,xs,n',Cs,g,q1⟩:=bv R.1 r e;obtain⟨σ2,l2,R2,r3⟩:=jh (dG w X CL ve · BN) R (Kg:=pp.2) (ts:=pp.1) e2 q1;refine call_tuple_list (ae g) (λh' hk=> ?_) (by rw[AT.JM,Kq,r3.A8];omega);have R3:Ak w X σ2 CL ve pp.2 {s with Dn:=h'}:=R2.QH hk s.Dp;obtain⟨m,G2,F,N,PI⟩:=R3.froz;obtain⟨l4,R4⟩:=PI (h'.Lr {Ov:= .Ds "tuple",KA:= .KH xs.E6}) h'.KL.Id (DX xs) s.Dp (F.Lr _) (Pz.Lr F N _ rfl) aq;exact hQ _ (.t (.Ld pp.1)) _ _ _ (l2.CX l4) R4 ⟨_,xs,Cs,.Jn _,Am.Ey l4.1 r3⟩ h
theorem tJ (h:an (NU vs cs k)):`a X.A (DH (.Dd "abs") xs) Q E s:=by
 refine ab ha h λv e h=>jy rv (q:=λxs=>`a X.A (DH (.Dd "abs") xs) Q E s) e λy r=>ab ha h λm e h=>
  y8 (q:=λy=>`a X.A (DH (.Dd "abs") [y]) Q E s) r e λ_=>call_abs_int λu tk=> ?_
 have e:(if m<0 then -m else m)=(m.J3:Dt):=by
  by_cases h:m<0
  .rw[Lu h];exact(Dt.ofNat_natAbs_of_nonpos (Dt.le_of_lt h)).Hl
  .rw[Ko h];exact(Dt.natAbs_of_nonneg (Dt.not_lt.mp h)).Hl
 rw[e];exact hQ _ _ _ _ _ σ.G5 `af jC h
theorem tI (H:`g) (h:an (NT vs cs k)):`a X.A (DH (.Dd "any") xs) Q E s:=by
 refine ab ha h λv e h=>jy rv (q:=λxs=>`a X.A (DH (.Dd "any") xs) Q E s) e λy r=>ab ha h λl e h=>ab ha h λb e2 h=> ?_;obtain⟨p,xs,n',Cs,g,q1⟩:=bv R.1 r e;obtain⟨bs,h1,h2⟩:=tz q1 e2;obtain⟨⟨m,ml,G2,q⟩,hg,ho⟩:=R;refine LSm.any_bools q.F q.N H.x.hh (ae g) h1 λh' tk F' N'=> ?_;rw[h2];exact hQ σ (.t (.G6 b)) _ cs _ σ.G5 ⟨⟨m,ml,G2,q.on F' N'⟩,hg,ho⟩ mr h
theorem tG (H:`g) (Wv:(K.H6 Lm).KQ=Bj) (h:an (NR vs cs k)):`a X.A (DH (.Dd "len") xs) Q E s:=by
 refine ab ha h λv e h=>jy rv (q:=λxs=>`a X.A (DH (.Dd "len") xs) Q E s) e λy r=>ab ha h λm e h=>am ha h λhb h=> ?_;have hb:m<=5000:=BF.Lx.mp hb;have K7:∀tk u,Q (.D4 m u) {s with Dp:=tk}:=λtk u=>hQ _ _ _ _ _ σ.G5 `af jC h;refine aF (P:=(· =A9 m)) e (λu e2 e=> ?_) λe=>aF (P:=(· =A9 m)) e (λl e2 e=> ?_) λe=>ob e λes e2 e=>ob e λq e3 e=> ?_
 .refine xB (q:=λy=>`a X.A (DH (.Dd "len") [y]) Q E s) r e2 λt=> ?_
  cases e;have e1:u.A8=(Aj u).A8:=by simp[D8.Dr.A8,Aj]
  refine Oe.WA.len_str (by rw[e1];omega) ?_;rw[e1];exact K7 _ _
 .cases e
  obtain⟨p,xs,Cs,q1,q2⟩:=cJ R.1 r e2;have hl:=q1.A8;rcases q2 with⟨ts,_,_,g⟩|⟨_,n',g⟩
  .refine len_tuple (t:=p) (Ly:=xs.E6) ⟨_,g,Cs,0,Cs⟩ (by rw[AT.JM];omega) ?_
   rw[AT.JM,hl];exact K7 _ _
  .refine call_len_list (ae g) (by rw[AT.JM];omega) ?_
   rw[AT.JM,hl];exact K7 _ _
 .cases e
  obtain⟨d,ds,n',Cs,h1,r,hn⟩:=jp R.1 r e2;obtain⟨Sl,g1,g2,g3,g4,g5⟩:=yG (Fn FZ w) (u:=GQ [95,95,100]) r e3;have hl:Sl.A8=es.A8:=by have:=FY AT.A8 g3;simpa using F4
  refine call_len_dict (H.sm R Wv d hn) (cS h1 g1 g2 g4) (·) ?_;rw[hl];exact K7 _ _
end
end
end Internal
namespace Internal
open PySem PySem.W PyProof.Rows PySem.Calls PySem.SeqAt PySem.Spec
variable {w:FX} {FZ:Kt} {K:Lo} {G:DM} {r:IL} {n:BF} {X:Fx} {cx:Cx} {CL:Qp} {σ:Sg} {ve:Ag} {cs:St} {s:CW} {k:KV} {ke:PL.KX} {an:An->Prop} {E:Bl->CW->Prop} {kn:KN} {kr:KV} {h:Ev} {h':Ev} {m:Dr->Bq Bl} {ml:Dr->Bq Bl} {G2:AT BR} {A:Ke}
theorem xY {a:AT BF}:∀b:AT BF,MN a b=ltCps a b:=by
 induction a with
 |HU=>exactλb=>AT.Ou b rfl λ_ _=>rfl
 |Dc a r ih=>
  intro b;cases b with
  |HU=>rfl
  |Dc b r'=>
   show(BF.blt a b||(BF.QC a b&&MN r r'))=(decide (a<b)||(a==b&&ltCps r r'))
   rw[ih,show BF.blt a b=decide (a<b) from CV.Wc.Lq ((Iff.of_eq BF.blt_eq).CX decide_eq_true_iff.Hl),show BF.QC a b=(a==b) from CV.Wc.Lq ((Iff.of_eq BF.beq_eq).CX Kw.Hl)]
theorem mY {a:AT BF}:∀{b:AT BF},MN a b=Be->MN b a=Be->a=b:=by
 induction a with
 |HU=>exactλ{b}=>AT.Ou b (λ_ _=>rfl) λ_ _ h=>nomatch h
 |Dc a r ih=>
  intro b h1 h2;cases b with
  |HU=>cases h2
  |Dc b r'=>
   have h1:=CV.PV.mp h1;have h2:=CV.PV.mp h2;rcases BF.lt_trichotomy a b with e|e|e
   .exact(CV.Ki (h1.1.Hl.CX (BF.blt_eq.Lq e))).Dk
   .subst e
    have z:=BF.beq_refl a;have g1:MN r r'=Be:=by have:=h1.2;rw[z] at F4;exact F4
    have g2:MN r' r=Be:=by have:=h2.2;rw[z] at F4;exact F4
    exact FY _ (ih g1 g2)
   .exact(CV.Ki (h2.1.Hl.CX (BF.blt_eq.Lq e))).Dk
section
theorem mz {l:AT V} {xs:AT Bl} {ss:AT Dr} (r:Ac w σ l xs) (h:E7 l=A9 ss):Rt xs ss:=
 Ac.Vb (P:=λl xs=>∀ss,E7 l=A9 ss->Rt xs ss) (λss h=>Bq.A9.Ky h▸.HU) (λv l y ys a _ ih ss h=>ob h λc e h=>ob h λd e2 h=>
  pV (q:=λv=>Ad w σ v y->Rt (y::ys) ss) e (λa=>by
   obtain⟨t,Cs⟩:=Ah.Od (w:=w) (fz:=σ.fz) a;exact Bq.A9.Ky h▸.Dc _ _ (ih d e2)) a) r ss h
theorem qh:∀{xs:AT Bl} {ss:AT Dr},Rt xs ss->Ac w σ (ss.FW λs=>V.t (.Dq s)) xs:=by
 intro xs ss h
 induction h with
 |HU=>exact rfl
 |Dc y t _ ih=>exact⟨_,_,Cs,jA,ih⟩
theorem xM {u v:Dr} (hq:sortedS [u,v]=Bj):MN (Aj v) (Aj u)=Be:=by
 rw[xY]
 have:(!ltCps v.cps.Ob u.cps.Ob&&Bj)=Bj:=hq
 simpa [Aj] using F4
theorem ny {u v:Dr} (hq:Aj u=Aj v):u=v:=by
 obtain⟨⟨u⟩⟩:=u;obtain⟨⟨v⟩⟩:=v;exact FY GQ hq
theorem wQ {a b:Dr} {l:AT Dr} (h:l.V8 [a,b]):l=[a,b]\/l=[b,a]:=by
 cases l with
 |HU=>exact nomatch h.length_eq
 |Dc u l=>
  rcases AT.GZ.mp (h.OF.mp (.Jn _):u∈[a,b]) with e|e
  .subst e
   exact .HX (FY _ (AT.perm_singleton.mp ((AT.perm_cons u).mp h)))
  .cases AT.H9.mp e
   exact .G4 (FY _ (AT.perm_singleton.mp ((AT.perm_cons b).mp (h.CX `as))))
theorem jN {ss us:AT Dr} (e:Nw ss=A9 us):ss.A8<=2/\∀l,l.V8 ss->sortedS l=Bj->l=us:=by
 cases ss with
 |HU=>cases e;exact⟨by decide,λl h _=>AT.perm_nil.mp h⟩
 |Dc a r=>cases r with
  |HU=>cases e;exact⟨BF.le_succ 1,λl h _=>AT.perm_singleton.mp h⟩
  |Dc b r=>cases r with
   |Dc _ _=>cases e
   |HU=>
    refine⟨BF.G5 _,λl h so=> ?_⟩;have e:=Bq.A9.Ky e;cases hb:MN (Aj b) (Aj a) with
    |Bj=>
     rw[hb] at e;rcases wQ h with e3|e3
     .rw[e3] at so;rw[xM so] at hb;cases hb
     .exact e3.CX e
    |Be=>
     rw[hb] at e;rcases wQ h with e3|e3
     .exact e3.CX e
     .rw[e3] at so;rw[e3,ny (mY hb (xM so))];rw[ny (mY hb (xM so))] at e;exact e
theorem wC {xs:AT Bl} {ss:AT Dr} (h:Rt xs ss):xs.A8=ss.A8:=by
 induction h with
 |HU=>rfl
 |Dc _ _ _ ih=>exact FY (· +1) ih
theorem pC (R:`b s) {vs:AT V} {xs:AT Bl} (rv:Ac w σ vs xs) (ha:BZ an) (h:an (My vs cs k)) {Q:Bl->CW->Prop} (hQ:`l):
  `a X.A (DH (.Dd "sorted") xs) Q E s:=by
 refine ab ha h λv e h=>jy rv (q:=λxs=>`a X.A (DH (.Dd "sorted") xs) Q E s) e λy r=>ab ha h λl e h=>ab ha h λss e2 h=>ab ha h λus e3 h=> ?_;obtain⟨p,xs,n',Cs,g,q1⟩:=bv R.1 r e;have hs:=mz q1 e2;obtain⟨m,G2,F,N,PI⟩:=R.list;refine sorted_N_str F N (ae g) hs (BF.N4 (wC hs▸(jN e3).1) (by decide)) λh' vs' ss' e F' N' a1 a2 a3=> ?_;have hu:=(jN e3).2 _ a2 a3;obtain⟨l1,R1,v1⟩:=PI h' (`m+1) vs' e (us.FW λs=>V.t (.Dq s)) s.Dp F' N' (Ev.PW `aj) (qh (hu▸a1));exact hQ _ _ _ _ _ l1 R1 v1 h
theorem wX {s u:Qf} {x y:An} {q:Qf->Prop} (h:an (br (M8 s u) x y)) (k1:an x->q u) (k2:an y->q s):q s:=by
 rcases bP h with⟨e,h⟩|⟨_,h⟩
 .exact P7 e▸k1 h
 .exact k2 h
theorem yW (H:`g) (Wv:(K.H6 Lm).KQ=Bj) (R:`b s) {f:Bl} {vs:AT V} {xs:AT Bl} (rv:Ac w σ vs xs) (ha:BZ an) (h:an (U1 f vs cs k)) {Q:Bl->CW->Prop} (hQ:`l):
  `a X.A (DH f xs) Q E s:=
 aF h (λu e h=>eC (q:=λf=>`a X.A (DH f xs) Q E s) e<|
   wX (q:=λu=>`a X.A (DH (.Ds u) xs) Q E s) h (tH R rv ha hQ) λh=>
   wX (q:=λu=>`a X.A (DH (.Ds u) xs) Q E s) h (tF R rv ha hQ) λh=>
   wX (q:=λu=>`a X.A (DH (.Ds u) xs) Q E s) h (pD R rv ha hQ) λh=>
   wX (q:=λu=>`a X.A (DH (.Ds u) xs) Q E s) h (tE R rv ha hQ) λh=>(ha _ h).Dk)
  λh=>ab ha h λu e h=>ic (q:=λf=>`a X.A (DH f xs) Q E s) e<|
   wX (q:=λu=>`a X.A (DH (.Dd u) xs) Q E s) h (tG R rv ha hQ H Wv) λh=>
   wX (q:=λu=>`a X.A (DH (.Dd u) xs) Q E s) h (tJ R rv ha hQ) λh=>
   wX (q:=λu=>`a X.A (DH (.Dd u) xs) Q E s) h (tI R rv ha hQ H) λh=>
   wX (q:=λu=>`a X.A (DH (.Dd u) xs) Q E s) h (λh=>pC R rv ha h hQ) λh=>(ha _ h).Dk
theorem pF {f:Bl} {vs:AT V} (ha:BZ an) (h:an (U1 f vs cs k)):DN FZ w K f:=
 aF h (λ_ e _=>eC e dC) λh=>ab ha h λ_ e _=>ic e bJ
end
end Internal
namespace Internal
open PySem PySem.W PyProof.Rows PySem.Calls PySem.SeqAt PySem.Spec PySem.Builtin PySem.Builtin.Str
variable {w:FX} {FZ:Kt} {K:Lo} {G:DM} {r:IL} {n:BF} {X:Fx} {cx:Cx} {CL:Qp} {σ:Sg} {ve:Ag} {cs:St} {s:CW} {k:KV} {ke:PL.KX} {an:An->Prop} {E:Bl->CW->Prop} {kn:KN} {kr:KV} {h:Ev} {h':Ev} {m:Dr->Bq Bl} {ml:Dr->Bq Bl} {G2:AT BR} {A:Ke}
def Aae (c:BF):AT (AT BF)->AT BF
 |[]=>[]
 |[a]=>a
 |a::b::r=>a++c::Aae c (b::r)
theorem fJ (c:BF) (a W6 Df:AT BF) (h:c∉a):Co c W6 (a++Df)=Co c (a.Ia++W6) Df:=by
 induction a generalizing W6 with
 |HU=>rfl
 |Dc x a ih=>
  have hx:BF.QC x c=Be:=nbF λ(e:x=c)=>h (e▸.Jn _)
  show(match BF.QC x c with
   |Bj=>W6.Ia::Co c [] (a++Df)
   |Be=>Co c (x::W6) (a++Df))=_
  rw[hx,AT.QB,AT.F7];exact ih (x::W6) λq=>h (.Do _ q)
theorem nV (c:BF) {L:AT (AT BF)} (hn:L≠[]) (h:∀p∈L,c∉p):Co c [] (Aae c L)=L:=by
 induction L with
 |HU=>exact(hn rfl).Dk
 |Dc a r ih=>cases r with
  |HU=>
   have:=fJ c a [] [] (h a (.Jn _))
   rw[AT.H7,AT.H7] at F4;exact F4.CX (FY (· ::[]) (AT.PZ a))
  |Dc b r=>
   refine(fJ c a [] _ (h a (.Jn _))).CX ?_
   rw[AT.H7]
   show(match BF.QC c c with
    |Bj=>a.Ia.Ia::Co c [] (Aae c (b::r))
    |Be=>_)=_
   rw[BF.beq_refl,AT.PZ];exact FY _ (ih (AT.cons_ne_nil _ _) λp hp=>h p (.Do _ hp))
theorem km (c:BF) (L:AT Dr):Aj (Dr.join ⟨#[c]⟩ L)=Aae c (L.FW Aj):=by
 induction L with
 |HU=>rfl
 |Dc a r ih=>cases r with
  |HU=>rfl
  |Dc b r=>
   show(a++⟨#[c]⟩++Dr.join ⟨#[c]⟩ (b::r)).cps.Ob=Aj a++c::Aae c ((b::r).FW Aj)
   rw[<-ih,Dr.cps_append,Dr.cps_append,KU.toList_append,KU.toList_append,AT.F7];rfl
theorem qn (x:Dr) (c:BF):(Txt.split x ⟨#[c]⟩).FW Aj=Co c [] (Aj x):=by
 have h1:=StrLaws.join_split x ⟨#[c]⟩;have h2:=km c (Txt.split x ⟨#[c]⟩);rw[h1] at h2;rw[h2,nV]
 .intro e
  have:=split_pos x ⟨#[c]⟩
  have e2:=FY AT.A8 e;simp only[AT.Lc,AT.KC] at e2;omega
 .intro p hp
  obtain⟨q,hq,Cs⟩:=AT.KY.mp hp;exact StrLaws.split_free x c q hq
theorem ft (r:Dr):r.A8=(Aj r).A8:=by simp[D8.Dr.A8,Aj]
theorem lp (l:AT BF) (ws:AT Dr) (r:Dr) (h:∀c∈l,c<=126/\32<=c):(KWd.K7 (l.foldl KWd.PI (ws,r))).FW Aj=ws.FW Aj++(Co 32 (Aj r).Ia l).filter Pu:=by
 induction l generalizing ws r with
 |HU=>
  have hl:=ft r
  show(if r.A8=0 then ws else ws++[r]).FW Aj=ws.FW Aj++[(Aj r).Ia.Ia].filter Pu
  rw[AT.PZ];cases e:Aj r with
  |HU=>rw[e] at hl;have hl:r.A8=0:=hl;rw[Lu hl];exact(AT.H7 _).Hl
  |Dc a b=>
   rw[e] at hl;rw[Ko (by rw[hl];exact BF.Wi _),AT.J8,AT.JS,e];rfl
 |Dc c l ih=>
  have hc:=h c (.Jn _);have ih:=λws r=>ih ws r λc hc=>h c (.Do _ hc);rw[AT.foldl_cons];clear h
  by_cases h32:c=32
  .subst h32
   have hl:=ft r;have hsp:Unicode.isSpace 32=Bj:=by decide+QG
   show(KWd.K7 (l.foldl KWd.PI (KWd.PI (ws,r) 32))).FW Aj=ws.FW Aj++((Aj r).Ia.Ia::Co 32 [] l).filter Pu
   rw[AT.PZ];cases e:Aj r with
   |HU=>
    rw[e] at hl;have hl:(ws,r).2.A8=0:=hl;have st:KWd.PI (ws,r) 32=(ws,r):=by
     unfold KWd.PI;rw[Lu hsp,Lu hl]
    rw[st,ih,e];rfl
   |Dc a b=>
    rw[e] at hl;have st:KWd.PI (ws,r) 32=(ws++[r],Dr.empty):=by
     unfold KWd.PI;rw[Lu hsp,Ko (by rw[hl];exact BF.Wi _)]
    rw[st,ih,AT.J8,AT.JS,e,AT.F7];rfl
  .have hsp:Unicode.isSpace c=Be:=KXs.no_space c (·) (·)
   show(KWd.K7 (l.foldl KWd.PI (KWd.PI (ws,r) c))).FW Aj=ws.FW Aj++(match BF.QC c 32 with
    |Bj=>(Aj r).Ia.Ia::Co 32 [] l
    |Be=>Co 32 (c::(Aj r).Ia) l).filter Pu
   have st:KWd.PI (ws,r) c=(ws,r++⟨#[c]⟩):=by
    unfold KWd.PI;rw[Ko (hsp▸CV.Ki)]
   have e:(Aj (r++⟨#[c]⟩)).Ia=c::(Aj r).Ia:=by
    unfold Aj;rw[Dr.cps_append,KU.toList_append];exact AT.reverse_append
   rw[nbF h32,st,ih,e]
theorem pU (x:Dr) (h:∀c∈Aj x,c<=126/\32<=c):(Txt.words x).FW Aj=(Co 32 [] (Aj x)).filter Pu:=by
 have:=lp (Aj x) [] Dr.empty h
 rw[KWd.words_scan];exact F4
theorem mh {s:Dr} (h:HG s=Bj):∀c∈Aj s,c<=126/\32<=c:=λc hc=>by
 have:=AT.OD.mp h c hc
 unfold NJ at F4
 simpa [BF.Lx] using F4
theorem rH {s:Dr} (h:HG s=Bj):Txt.Wq s=GQ ((Aj s).FW UU):=by
 rw[lower_ascii λc hc=>by have:=mh h c hc;omega]
 have:lo1=UU:=by
  funext c
  unfold lo1 UU
  by_cases h:65<=c/\c<=90
  .rw[Lu h]
   have:(BF.Ls 65 c&&BF.Ls c 90)=Bj:=by simp[BF.Lx,h]
   rw[F4]
  .rw[Ko h]
   have:(BF.Ls 65 c&&BF.Ls c 90)=Be:=by
    rw[CV.VP]
    by_cases h1:65<=c
    .right
     cases q:BF.Ls c 90 with
     |Be=>rfl
     |Bj=>exact(h ⟨h1,BF.Lx.mp q⟩).Dk
    .left
     cases q:BF.Ls 65 c with
     |Be=>rfl
     |Bj=>exact(h1 (BF.Lx.mp q)).Dk
   rw[F4]
 rw[F4];obtain⟨⟨l⟩⟩:=s;simp[GQ,Aj]
theorem pX {s:Dr} (h:HG s=Bj):Txt.Wr s=GQ ((Aj s).FW Sq):=by
 rw[upper_ascii λc hc=>by have:=mh h c hc;omega]
 have:up1=Sq:=by
  funext c
  unfold up1 Sq
  by_cases h:97<=c/\c<=122
  .rw[Lu h]
   have:(BF.Ls 97 c&&BF.Ls c 122)=Bj:=by simp[BF.Lx,h]
   rw[F4]
  .rw[Ko h]
   have:(BF.Ls 97 c&&BF.Ls c 122)=Be:=by
    rw[CV.VP]
    by_cases h1:97<=c
    .right
     cases q:BF.Ls c 122 with
     |Be=>rfl
     |Bj=>exact(h ⟨h1,BF.Lx.mp q⟩).Dk
    .left
     cases q:BF.Ls 97 c with
     |Be=>rfl
     |Bj=>exact(h1 (BF.Lx.mp q)).Dk
   rw[F4]
 rw[F4];obtain⟨⟨l⟩⟩:=s;simp[GQ,Aj]
theorem pk (l:AT BF) (x:AT BF):Ff l x=x.F3 (x.takeWhile l.La).A8:=by
 induction x with
 |HU=>rfl
 |Dc a x ih=>
  have hc:l.La a=l.Xa (BF.QC a):=CV.Wc.Lq (AT.contains_iff_mem.CX ⟨λh=>AT.RS.Lq ⟨a,h,BF.beq_refl a⟩,λh=>(AT.RS.mp h).Dk λb h=>(BF.Kn h.2).Hl▸h.1⟩)
  show(match l.Xa (BF.QC a) with
   |Bj=>Ff l x
   |Be=>a::x)=_
  rw[AT.takeWhile_cons,hc];cases l.Xa (BF.QC a) with
  |Bj=>exact ih
  |Be=>rfl
theorem oB (x y:Dr):Txt.lstripChars x y=GQ (Ff (Aj y) (Aj x)):=by
 unfold Txt.lstripChars;rw[Oe.WA.stripBy_eq]
 have:(strSub x (stripLo y.cps.La Bj x) (stripHi y.cps.La Be x (stripLo y.cps.La Bj x))).cps.Ob=Ff (Aj y) (Aj x):=by
  rw[StrLaws.strSub_toList,pk];have e1:stripLo y.cps.La Bj x=(x.cps.Ob.takeWhile y.cps.La).A8:=by simp[stripLo]
  have e2:∀n,stripHi y.cps.La Be x n=x.A8:=λn=>by simp[stripHi]
  rw[e2,e1];have e3:(y.cps.La:BF->CV)=(Aj y).La:=by
   funext a
   unfold Aj
   simp
  rw[e3];show AT.Gk _ ((Aj x).F3 _)=_;rw[AT.N7]
  .rfl
  .rw[AT.LF,ft];exact BF.G5 _
 apply D8.Dr.ext'
 apply KU.toList_inj.mp
 rw[F4];rfl
end Internal
namespace Internal
open PySem PySem.W PyProof.Rows PySem.Calls PySem.SeqAt
variable {w:FX} {FZ:Kt} {K:Lo} {G:DM} {r:IL} {n:BF} {X:Fx} {cx:Cx} {CL:Qp} {σ:Sg} {ve:Ag} {cs:St} {s:CW} {k:KV} {ke:PL.KX} {an:An->Prop} {E:Bl->CW->Prop} {kn:KN} {kr:KV} {h:Ev} {h':Ev} {m:Dr->Bq Bl} {ml:Dr->Bq Bl} {G2:AT BR} {A:Ke}
def MX:Mt->Dr
 | .split=>"split"
 | .Wq=>"lower"
 | .Wr=>"upper"
 | .VI=>"lstrip"
 | .Le=>"append"
 | .pop=>"pop"
 | .RE=>"insert"
 | .Ia=>"reverse"
 | .W7=>"index"
 | .W3=>"get"
 | .W8=>""
theorem i4 {x:Dr} (h:EP x≠.W8):x=MX (EP x):=by
 have Qt:∀l:AT (AT BF×Mt),(∀p∈l,MX p.2=Z8 p.1)->Ju x l≠.W8->x=MX (Ju x l):=λl=>by
  induction l with
  |HU=>exactλ_ h=>Ks rfl h
  |Dc p r ih=>
   intro a h;have e1:Ju x (p::r)=match KH x (Z8 p.1) with|Bj=>p.2|Be=>Ju x r:=rfl
   cases e:KH x (Z8 p.1) with
   |Bj=>
    rw[e] at e1;exact(aB.mp e).CX ((a p (.Jn _)).Hl.CX (FY MX e1.Hl))
   |Be=>
    rw[e] at e1;rw[e1] at h⊢;exact ih (λq hq=>a q (.Do _ hq)) h
 exact Qt Y1 (by decide+QG) h
def Fo:Mt->Qf
 | .split=>"str.split"
 | .Wq=>"str.lower"
 | .Wr=>"str.upper"
 |_=>"str.lstrip"
def Hx:Mt->Qf
 | .Le=>"list.append"
 | .pop=>"list.pop"
 | .RE=>"list.insert"
 | .Ia=>"list.reverse"
 |_=>"list.index"
section
theorem yk {x F6:Dr} {t:Tok} {m:Mt} {pl:U8 CV} (h:L5 (EP F6)=A9 m) {Q:Bl×AT Bl->CW->Prop} (hq:Q (.Dd (Fo m),[.Dq x t]) s):`a A (Sp (.Dq x t) F6 pl) Q E s:=by
 rw[i4 (x:=F6) (λe=>by rw[e] at h;cases h)];generalize EP F6=m' at h;cases m' with
 |split=>cases h;exact GM.split hq
 |Wq=>cases h;exact GM.Wq hq
 |Wr=>cases h;exact GM.Wr hq
 |VI=>cases h;exact GM.VI hq
 |_=>cases h
theorem yl {F6:Dr} {p:EA} {xs:AT Bl} {nn:BF} {m:Mt} {pl:U8 CV} (hp:s.Dn.D7 p=A9 (AO xs nn)) (h:GR (EP F6)=A9 m) {Q:Bl×AT Bl->CW->Prop} (hq:Q (.Dd (Hx m),[.C9 p]) s):
  `a A (Sp (.C9 p) F6 pl) Q E s:=by
 have hT:s.Xg (.C9 p) "list":=⟨_,hp,Cs⟩;have hd:∀a,Bl.C9 p= .C9 a->∃o,s.Dn.D7 a=A9 o/\o.LG=BH:=λa e=>by cases e;exact⟨_,hp,Cs⟩
 rw[i4 (x:=F6) (λe=>by rw[e] at h;cases h)];generalize EP F6=m' at h;cases m' with
 |Le=>cases h;exact OJ hT F.QR F.slot_list_append F.type_list_append hd hq
 |pop=>cases h;exact OJ hT F.QR F.slot_list_pop F.type_list_pop hd hq
 |RE=>cases h;exact OJ hT F.QR F.slot_list_insert F.type_list_insert hd hq
 |Ia=>cases h;exact OJ hT F.QR F.slot_list_reverse F.type_list_reverse hd hq
 |W7=>cases h;exact OJ hT F.QR F.slot_list_index F.type_list_index hd hq
 |_=>cases h
theorem ym {F6:Dr} {p:EA} {ds:AT Ex} {nn:BF} {m:Mt} {pl:U8 CV} (hp:s.Dn.D7 p=A9 (AK ds nn)) (h:Mv (EP F6)=A9 m) {Q:Bl×AT Bl->CW->Prop} (hq:m= .W3->Q (.Dd "dict.get",[.C9 p]) s):
  `a A (Sp (.C9 p) F6 pl) Q E s:=by
 rw[i4 (x:=F6) (λe=>by rw[e] at h;cases h)];generalize EP F6=m' at h;cases m' with
 |W3=>exact OJ (⟨_,hp,Cs⟩:s.Xg (.C9 p) "dict") F.plainAttrs_dict F.slot_dict_get F.type_dict_get (λa e=>by cases e;exact⟨_,hp,Cs⟩) (hq (Bq.A9.Ky h).Hl)
 |_=>cases h
theorem hU {L:AT (AT BF)} {l:AT (Dr×Tok)} (h:(l.FW (·.1)).FW Aj=L):Ac w σ (IR L) (strValues l):=by
 induction l generalizing L with
 |HU=>subst h;exact rfl
 |Dc p l ih=>
  subst h;refine⟨_,_,Cs,?_,ih rfl⟩;show Ah w σ.fz (.Dq (GQ (Aj p.1))) (.Dq p.1 p.2)
  have:GQ (Aj p.1)=p.1:=by
   obtain⟨⟨⟨x⟩⟩,t⟩:=p;rfl
  rw[F4];exact Ah.Dq
section
variable {x:Dr} {t:Tok} {vs:AT V} {xs:AT Bl} {Q:Bl->CW->Prop} (R:`b s) (rv:Ac w σ vs xs) (ha:BZ an) (hl:x.A8<=5000) (hQ:`l)
include R rv ha hl hQ
theorem oa (hasc:HG x=Bj) (h:an (Mb x vs cs k)):`a A (DH (.Dd "str.split") ([Bl.Dq x t]++xs)) Q E s:=by
 have hz:x.A8+2<=WO:=by rw[Kq];omega
 obtain⟨mm,G2,F',N',PI⟩:=R.list;refine aF h (λv e h=>jy rv (q:=λxs=>`a A (DH (.Dd "str.split") (Bl.Dq x t::xs)) Q E s) e λy r=>ab ha h λu e h=>ab ha h λc e2 h=>
   xB (q:=λy=>`a A (DH (.Dd "str.split") (Bl.Dq x t::[y])) Q E s) r e λ_=> ?_)
  λh=>am ha h λe h=>zt rv (q:=λxs=>`a A (DH (.Dd "str.split") (Bl.Dq x t::xs)) Q E s) e ?_
 .have hu:u=⟨⟨[c]⟩⟩:=FY GQ (bQ (q:=λl=>l=[c]) e2 rfl:Aj u=[c])
  rw[hu];refine splitN1 F' N' rfl (λl h' tk e F2 N2=> ?_) hz;have e:AT.FW (λx=>x.1) l=Txt.split x ⟨#[c]⟩:=e
  have:=qn x c
  rw[<-e] at F4;obtain⟨l1,R1,v1⟩:=PI h' `m (strValues l) 0 _ tk F2 N2 aq (hU F4);exact hQ _ _ _ _ _ l1 R1 v1 h
 .refine splitN0 F' N' (λl h' tk e F2 N2=> ?_) hz
  have:=pU x (mh hasc)
  rw[<-e] at F4;obtain⟨l1,R1,v1⟩:=PI h' `m (strValues l) 0 _ tk F2 N2 aq (hU F4);exact hQ _ _ _ _ _ l1 R1 v1 h
theorem qj (hasc:HG x=Bj) {m:Mt} (h:an (Nu x m vs cs k)):`a A (DH (.Dd (Fo m)) ([Bl.Dq x t]++xs)) Q E s:=by
 cases m with
 |split=>exact oa R rv ha hl hQ hasc h
 |Wq=>
  refine am ha h λe h=>zt rv (q:=λxs=>`a A (DH (.Dd (Fo .Wq)) (Bl.Dq x t::xs)) Q E s) e ?_;refine SCL.Wq (·) λ_=> ?_;rw[rH hasc];exact hQ _ _ _ _ _ σ.G5 `af jA h
 |Wr=>
  refine am ha h λe h=>zt rv (q:=λxs=>`a A (DH (.Dd (Fo .Wr)) (Bl.Dq x t::xs)) Q E s) e ?_;refine SCL.Wr (·) λ_=> ?_;rw[pX hasc];exact hQ _ _ _ _ _ σ.G5 `af jA h
 |VI=>
  refine ab ha h λv e h=>jy rv (q:=λxs=>`a A (DH (.Dd (Fo .VI)) (Bl.Dq x t::xs)) Q E s) e λy r=>ab ha h λu e h=>
   xB (q:=λy=>`a A (DH (.Dd (Fo .VI)) (Bl.Dq x t::[y])) Q E s) r e λ_=> ?_
  refine SCL.lstripChars (λt2 kk _=> ?_) (by rw[Kq];omega);rw[oB];exact hQ _ _ _ _ _ σ.G5 `af jA h
 |_=>exact(ha _ h).Dk
end
theorem xp (R:`b s) {x:Dr} {t:Tok} {m:Mt} {vs:AT V} {xs:AT Bl} (rv:Ac w σ vs xs) (ha:BZ an) (h:an (Sw x m vs cs k)) {Q:Bl->CW->Prop} (hQ:`l):
  `a A (DH (.Dd (Fo m)) ([Bl.Dq x t]++xs)) Q E s:=
 am ha h λhb h=>qj R rv ha (ft x▸BF.EC (CV.Kf.mp hb).2) hQ (CV.Kf.mp hb).1 h
end
section
def Yc (s:Dr) (ss:AT Dr) (i j:BF):Prop:=∃m,j=i+m/\ss[m]?=A9 s/\∀q,q<m->∃u,ss[q]?=A9 u/\u≠s
theorem sM {s:Dr} {ss:AT Dr} {i j:BF}:HC s ss i=A9 j->Yc s ss i j:=by
 induction ss generalizing i with
 |HU=>exactλh=>nomatch h
 |Dc u r ih=>
  intro h;have h:(match KH u s with|Bj=>A9 i|Be=>HC s r (i+1))=A9 j:=h;cases e:KH u s with
  |Bj=>
   rw[e] at h;exact⟨0,(Bq.A9.Ky h).Hl,FY A9 (aB.mp e),λq hq=>(BF.Q4 q hq).Dk⟩
  |Be=>
   rw[e] at h;obtain⟨m,h1,h2,h3⟩:=ih h;exact⟨m+1,h1.CX (BF.RZ ..),h2,λq=>BF.Ou q (λ_=>⟨u,Cs,bz.mp e⟩) λq hq=>h3 q (BF.Vd hq)⟩
theorem Rt.J7 {xs:AT Bl} {ss:AT Dr} (h:Rt xs ss):∀{j:BF} {u:Dr},ss[j]?=A9 u->∃t,xs[j]?=A9 (.Dq u t):=by
 induction h with
 |HU=>intro j u e;simp at e
 |Dc y t _ ih=>
  intro j u e;cases j with
  |Xb=>simp at e;subst e;exact⟨t,Cs⟩
  |Ww j=>simpa using ih (by simpa using e)
theorem Rt.PH {xs:AT Bl} {ss:AT Dr} (h:Rt xs ss):∀y∈xs,∃u t,y= .Dq u t:=by
 induction h with
 |HU=>intro y hy;cases hy
 |Dc y t _ ih=>
  intro z hz;rcases AT.GZ.mp hz with rfl|hz
  .exact⟨_,_,Cs⟩
  .exact ih z hz
theorem sj (R:`b s) {o:V} {p:EA} {l:AT V} {ss:AT Dr} {u:Dr} {t:Tok} {j:BF} (ro:Ad w σ o (.C9 p)) (e:AX cs o=A9 l) (e2:E7 l=A9 ss) (hl:l.A8<=5000) (e3:HC u ss 0=A9 j) (ha:BZ an)
  (h:an (k (.t (.D4 j)) cs)) {Q:Bl->CW->Prop} (hQ:`l):`a A (DH (.Dd "list.index") ([.C9 p]++[.Dq u t])) Q E s:=by
 obtain⟨p',xs,n',e1,g,q1⟩:=bv R.1 ro e;cases e1;have hs:=mz q1 e2;obtain⟨m,Cs,h2,h3⟩:=sM e3;obtain⟨t',hx⟩:=Rt.J7 hs h2;have hm:m<xs.A8:=(AT.JY.mp hx).1;have N9:=q1.A8;have hxm:xs[m]= .Dq u t':=(AT.JY.mp hx).2;rw[BF.PX] at h;refine Wj F.slot_list_index (⟨_,g,Cs⟩:s.Xg (.C9 p) "list") F.entry_list_index (F.args_list_index_2 _ _)
  (MeetsSeq.list_index p xs.E6 n' (.Dq u t) (EF u) (λy hy=> ?_) m (by simpa using hm) (·) ?_ λq hq hqm=> ?_) ⟨g,hQ _ _ _ _ _ σ.G5 `af jC h⟩
 .obtain⟨v,t2,Cs⟩:=Rt.PH hs y (by simpa using hy)
  intro FZ w' A' E' s' Q' hq;refine VW ?_;exact(CV.Wc.Lq (decide_eq_true_iff.CX Kw.Hl):decide (v=u)=(v==u))▸hq
 .show EF u (xs.E6[m]'_)=Bj
  exact(FY (EF u) hxm).CX (RG u)
 .obtain⟨v,hv,Vo⟩:=h3 q hqm
  obtain⟨t2,sr⟩:=Rt.J7 hs hv
  have:=(AT.JY.mp sr).2
  show EF u (xs.E6[q]'_)=Be;exact(FY (EF u) F4).CX (LD.Lq Vo)
theorem Ac.snoc {vs:AT V} {xs:AT Bl} {v:V} {y:Bl} (h1:Ac w σ vs xs) (h2:Ad w σ v y):Ac w σ (vs++[v]) (xs++[y]):=h1.Le ⟨_,_,Cs,h2,Cs⟩
theorem Ac.rev {vs:AT V} {xs:AT Bl} (r:Ac w σ vs xs):Ac w σ vs.Ia xs.Ia:=
 Ac.Vb (P:=λvs xs=>Ac w σ vs.Ia xs.Ia) rfl (λu us y ys a _ ih=>(AT.QB (a:=u) (as:=us)).Hl▸(AT.QB (a:=y) (as:=ys)).Hl▸Ac.snoc ih a) r
theorem cX {vs:AT V} {xs:AT Bl} (n:BF) (r:Ac w σ vs xs):Ac w σ (vs.Gk n) (xs.Gk n)/\Ac w σ (vs.F3 n) (xs.F3 n):=⟨r.Gk n,r.F3 n⟩
theorem Ac.RV {vs:AT V} {xs:AT Bl} (h:Ac w σ vs xs):Ac w σ vs.RV xs.RV:=by
 rw[AT.dropLast_eq_take,AT.dropLast_eq_take,<-h.A8];exact(cX _ h).1
theorem Ac.last {vs:AT V} {xs:AT Bl} {v:V} (r:Ac w σ vs xs) (e:vs.getLast?=A9 v):∃y,xs[xs.A8 - 1]?=A9 y/\Ad w σ v y/\0<xs.A8:=by
 rw[AT.getLast?_eq_getElem?] at e;obtain⟨y,g1,g2⟩:=r.J7 (bi.CX e);rw[<-r.A8] at g1;exact⟨y,g1,g2,BF.N4 (BF.zero_le _) (AT.JY.mp g1).1⟩
theorem dW {vs:AT V} {j:BF} (h:j∈vs.RV.KK Bx):j∈vs.KK Bx:=by
 obtain⟨v,hv,hj⟩:=AT.Lp.mp h;exact AT.Lp.Lq ⟨v,AT.dropLast_sublist vs|>.PH hv,hj⟩
theorem vo (R:`b s) {o:V} {x:Bl} {l:AT V} {vs:AT V} {xs:AT Bl} (ro:Ad w σ o x) (e:AX cs o=A9 l) (rv:Ac w σ vs xs) (ha:BZ an) (h:an (SV l vs cs k)) {Q:Bl->CW->Prop} (hQ:`l):
  `a A (DH (.Dd "list.index") ([x]++xs)) Q E s:=by
 obtain⟨p,xs',n',Cs,g,q1⟩:=bv R.1 ro e;exact ab ha h λv e1 h=>jy rv (q:=λxs=>`a A (DH (.Dd "list.index") (Bl.C9 p::xs)) Q E s) e1 λy r=>ab ha h λu e1 h=>
  xB (q:=λy=>`a A (DH (.Dd "list.index") (Bl.C9 p::[y])) Q E s) r e1 λ_=>ab ha h λss e2 h=>am ha h λhl h=>ab ha h λj e3 h=>
  sj R ro e e2 (BF.EC hl) e3 ha h hQ
def ZC (w:FX) (X:Fx) (σ:Sg) (CL:Qp) (ve:Ag) (cs:St) (s:CW) (i p:BF) (ys:AT Bl):Prop:=
 ∀(f:KU Bl->KU Bl) (us:AT V) (zs:AT Bl) (tk:BF),f ys.E6=zs.E6->Ac w σ us zs->(∀b∈X.bs,i<b->∀j∈us.KK Bx,j<b)->Ak w X σ CL ve (PF cs i (.Dg us)) {s with Dn:=s.Dn.KO p (KJ.mapSeq f),Dp:=tk}
section
variable {b i:BF} {p:EA} {l vs:AT V} {ys xs:AT Bl} {nn:BF} {Q:Bl->CW->Prop} (rv:Ac w σ vs xs) (rl:Ac w σ l ys) (hx:s.Dn.D7 p=A9 (AO ys nn)) (ha:BZ an) (hQ:`l)
 (up:ZC w X σ CL ve cs s i p ys) (bd:∀b0∈X.bs,i<b0->∀a∈l.KK Bx,a<b0) (hb:∀b0∈X.bs,b0<=b)
include rv rl hx ha hQ up bd
theorem vp (hb:∀b0∈X.bs,b0<=b) (h:an (SY b i l vs cs k)):`a A (DH (.Dd "list.append") ([.C9 p]++xs)) Q E s:=by
 refine ab ha h λv e h=>jy rv (q:=λxs=>`a A (DH (.Dd "list.append") (Bl.C9 p::xs)) Q E s) e λy r1=>am ha h λXj h=> ?_;have Xj:=CV.Kf.mp Xj;have hl:l.A8<=5000:=BF.EC Xj.2;have hT:s.Xg (.C9 p) "list":=⟨_,hx,Cs⟩;refine Wj F.slot_list_append hT F.entry_list_append (F.args_list_append_2 _ _) (AutoListH.list_append_list_val_0 p ys.E6 nn y (by rw[AT.JM,Kq,rl.A8];omega)) ⟨hx,?_⟩;refine hQ σ (.t .Kr) _ _ _ σ.G5 (up (·.Lr y) (l++[v]) (ys++[y]) s.Dp (by simp) (rl.snoc r1) λb0 hb0 hib a ha'=> ?_) jB h
 rw[AT.flatMap_append,AT.JX] at ha';rcases ha' with z|z
 .exact bd b0 hb0 hib a z
 .exact(cn Xj.1 `aa a (by simpa using z)).Dk
theorem vm (h:an (ST i l vs cs k)):`a A (DH (.Dd "list.pop") ([.C9 p]++xs)) Q E s:=by
 refine am ha h λe h=>zt rv (q:=λxs=>`a A (DH (.Dd "list.pop") (Bl.C9 p::xs)) Q E s) e<|ab ha h λv hv h=>am ha h λXj h=> ?_
 have hl:l.A8<=5000:=BF.EC Xj;have N9:=rl.A8;obtain⟨y,g1,g2,g3⟩:=rl.last hv;have hT:s.Xg (.C9 p) "list":=⟨_,hx,Cs⟩;refine Wj F.slot_list_pop hT F.entry_list_pop (F.args_list_pop_1 _) (MeetsSeq.list_pop_last p ys.E6 nn y (by simpa using g1) (by rw[AT.JM,Kq];omega)) ⟨hx,?_⟩;refine hQ σ v _ _ _ σ.G5 (up (λa=>a.eraseIdxIfInBounds (ys.E6.Id - 1)) l.RV ys.RV s.Dp ?_ rl.RV λb0 hb0 hib a ha'=>bd b0 hb0 hib a (dW ha')) g2 h
 apply KU.toList_inj.mp
 have hlt:ys.A8 - 1<ys.A8:=BF.sub_lt g3 BF.one_pos;simp[KU.eraseIdxIfInBounds,hlt,AT.eraseIdx_length_sub_one]
theorem vl (h:an (SM i l vs cs k)):`a A (DH (.Dd "list.reverse") ([.C9 p]++xs)) Q E s:=by
 refine am ha h λe h=>zt rv (q:=λxs=>`a A (DH (.Dd "list.reverse") (Bl.C9 p::xs)) Q E s) e<|am ha h λXj h=> ?_
 have hl:l.A8<=5000:=BF.EC Xj;have hT:s.Xg (.C9 p) "list":=⟨_,hx,Cs⟩;refine Wj F.slot_list_reverse hT F.entry_list_reverse (F.args_list_reverse_1 _) (AutoListH.list_reverse_list_0 p ys.E6 nn (by rw[AT.JM,Kq,rl.A8];omega)) ⟨hx,?_⟩;refine hQ σ (.t .Kr) _ _ _ σ.G5 (up (·.Ia) l.Ia ys.Ia s.Dp (by simp) rl.rev λb0 hb0 hib a ha'=> ?_) jB h;exact(AT.Lp.mp ha').Dk λu hu=>bd b0 hb0 hib a (AT.Lp.Lq ⟨u,AT.mem_reverse.mp hu.1,hu.2⟩)
theorem vn (hb:∀b0∈X.bs,b0<=b) (h:an (SU b i l vs cs k)):`a A (DH (.Dd "list.insert") ([.C9 p]++xs)) Q E s:=by
 refine ab ha h λv e h=>xC rv (q:=λxs=>`a A (DH (.Dd "list.insert") (Bl.C9 p::xs)) Q E s) e λy0 y r0 r1=>ab ha h λi2 e h=>
  y8 (q:=λy0=>`a A (DH (.Dd "list.insert") (Bl.C9 p::[y0,y])) Q E s) r0 e λt=>am ha h λXj h=> ?_
 simp only[CV.DG] at Xj;obtain⟨⟨⟨f1,V1⟩,f3⟩,f4⟩:=Xj;have hl:l.A8<=5000:=BF.EC V1;have i0:=bF.mp f3;have i1:=bF.mp f4;have N9:=rl.A8;have hk:(if i2<0 then(i2+((ys.E6.Id:BF):Dt)).LU else min i2.LU ys.E6.Id)=i2.LU:=by
  rw[Ko (Dt.not_lt.Lq i0),AT.JM,N9];exact BF.Qh (Dt.toNat_le.Lq i1)
 have hT:s.Xg (.C9 p) "list":=⟨_,hx,Cs⟩;refine Wj F.slot_list_insert hT F.entry_list_insert (F.args_list_insert_3 _ _ _) (AutoListH.list_insert_list_int_val_1 p ys.E6 nn i2 t y ?_ (by rw[AT.JM,Kq];omega)) ⟨hx,?_⟩
 .unfold Kj.AT.listFitsIndex
  simp
  omega
 .refine hQ σ (.t .Kr) _ _ _ σ.G5 (up _ (l.Gk i2.LU++v.2::l.F3 i2.LU) (ys.Gk i2.LU++y::ys.F3 i2.LU) s.Dp ?_ ((cX _ rl).1.Le ⟨_,_,Cs,r1,(cX _ rl).2⟩) λb0 hb0 hib a ha'=> ?_) jB h
  .dsimp only
   rw[hk]
   apply KU.toList_inj.mp
   simp
   exact AT.N7 (by simp)
  .rw[AT.flatMap_append,AT.JX,AT.Wf,AT.JX] at ha'
   have Xs:∀{q:AT V},(∀z∈q,z∈l)->a∈q.KK Bx->a<b0:=λhq hz=>
    (AT.Lp.mp hz).Dk λu hu=>bd b0 hb0 hib a (AT.Lp.Lq ⟨u,hq u hu.1,hu.2⟩)
   rcases ha' with z|z|z
   .exact Xs (λz hz=>AT.mem_of_mem_take hz) z
   .exact(cn f1 `aa a z).Dk
   .exact Xs (λz hz=>AT.QP hz) z
theorem rE (hb:∀b0∈X.bs,b0<=b) {m:Mt} (hm:NH m=Be) (h:an (NA b i l m vs cs k)):`a A (DH (.Dd (Hx m)) ([.C9 p]++xs)) Q E s:=by
 cases m with
 |Le=>exact vp rv rl hx ha hQ up bd hb h
 |pop=>exact vm rv rl hx ha hQ up bd h
 |RE=>exact vn rv rl hx ha hQ up bd hb h
 |Ia=>exact vl rv rl hx ha hQ up bd h
 |_=>exact(ha _ h).Dk
end
theorem xW (R:`b s) {b:BF} (hb:∀b0∈X.bs,b0<=b) {o:V} {x:Bl} {l:AT V} {m:Mt} {vs:AT V} {xs:AT Bl} (ro:Ad w σ o x) (e:AX cs o=A9 l) (rv:Ac w σ vs xs) (ha:BZ an) (hm:GR m=A9 m) (h:an (Mh b o l m vs cs k)) {Q:Bl->CW->Prop} (hQ:`l):
  `a A (DH (.Dd (Hx m)) ([x]++xs)) Q E s:=by
 rcases bP h with⟨hi,h⟩|⟨hi,h⟩
 .cases m with
  |W7=>exact vo R ro e rv ha h hQ
  |_=>cases hi
 .refine ab ha h λi e1 h=>dI (q:=λo=>Ad w σ o x->`a A (DH (.Dd (Hx m)) (x::xs)) Q E s) e1 (λro=> ?_) ro
  refine ab ha h λl e2 h=> ?_;have e2:=fx e2;obtain⟨p,ys,nn,hp,hx,r,up⟩:=R.lstUpd e2;obtain⟨p',hp',Cs⟩:=ro;cases hp.Hl.CX hp';exact rE rv r hx ha hQ up (jt R e2) hb hi h
end
def Jh (K:Lo) (c:BF) (x:Dr) (f:BF):Prop:=
 plainGet K c x=Bj/\Of K (.C9 c) x=A9 (A9 (.C9 f))/\isFn K (.C9 f)=Bj/\
 specialIn K (.C9 c) "__getattribute__"=A9 (A9 (.Dd "type.__getattribute__"))/\∃mc,Xf K (.C9 c)=A9 mc/\readsIn K c mc=Bj/\findCls K (.C9 c) mc x=A9 (.W4 (.C9 f))
section
theorem yn (R:`b s) (Wv:∀a,σ.gr.D7 a=BH->(a==Lm)=Be) (hu:A.LL+5<VV) {o:V} {x:Bl} {es:AT (T×V)} {vs:AT V} {xs:AT Bl} (ro:Ad w σ o x) (e:Dm cs o=A9 es) (rv:Ac w σ vs xs) (ha:BZ an) (h:an (TU es vs cs k)) {Q:Bl->CW->Prop} (hQ:`l):
  `a A (DH (.Dd "dict.get") ([x]++xs)) Q E s:=by
 refine ab ha h λu e0 h=>xC rv (q:=λxs=>`a A (DH (.Dd "dict.get") (x::xs)) Q E s) e0 λy z r1 r3=>ab ha h λd e1 h=>
  bB (q:=λv=>Ad w σ v y->`a A (DH (.Dd "dict.get") (x::[y,z])) Q E s) e1 (λr1=> ?_) r1
 refine ab ha h λq e2 h=> ?_;obtain⟨p,Cs,hn,lk⟩:=ja (A:=A) FZ R r1 ro e e2;have hd:=Wv p hn;have K7:∀v tk,(match q with|A9 v'=>Ad w σ v' v|BH=>v=z)->Q v {s with Dp:=tk}:=λv tk hv=>by
  cases q with
  |BH=>subst hv;exact hQ _ _ _ _ _ σ.G5 `af r3 h
  |A9 v'=>exact hQ _ _ _ _ _ σ.G5 `af hv h
 cases lk with
 |QD KT Sl kk hD hk hq=>
  refine call_meetsIn D8.F.slot_dict_get hD.VK D8.F.entry_dict_get (D8.F.args_dict_get_3 _ _ _) (meets_dict_get_default KT.V2 p hk hd z) ⟨_,hD.mapOf,?_⟩;cases q with
  |BH=>rw[show WZ Sl kk=BH from hq];exact K7 _ _ rfl
  |A9 v=>obtain⟨y',hy,ry⟩:=hq;rw[hy];exact K7 _ _ ry
 |Ld xs' ns b hD hx hk hq=>
  subst hx;refine call_meetsIn D8.F.slot_dict_get hD.VK D8.F.entry_dict_get (D8.F.args_dict_get_3 _ _ _) (meetsH_dict_get_default (Sn `ae) p b hd z) ⟨?_,ns,xs',hk,hD,?_⟩
  .show A.LL+1<VV
   omega
  cases q with
  |BH=>rw[show atKey xs' ns=BH from hq];exact K7 _ _ rfl
  |A9 v=>obtain⟨a',y',hy,ry⟩:=hq;rw[hy];exact K7 _ _ ry
def UF (w:FX) (σ:Sg) (m:MK) (x:Bl) (p:Bl×AT Bl):Prop:=match m with
 | .Dq u m'=>∃t,x= .Dq u t/\p=(.Dd (Fo m'),[x])
 | .Dg m'=>GR m'=A9 m'/\p=(.Dd (Hx m'),[x])
 | .Rv m'=>m'= .W3/\p=(.Dd "dict.get",[x])
 | .fn f Bj=>p=(.C9 f,[x])
 | .fn f Be=>p=(.C9 f,[])
theorem rC {m m':Mt} (h:GR m=A9 m'):m=m':=by
 cases m with
 |Le=>exact Bq.A9.Ky h
 |pop=>exact Bq.A9.Ky h
 |RE=>exact Bq.A9.Ky h
 |Ia=>exact Bq.A9.Ky h
 |W7=>exact Bq.A9.Ky h
 |_=>cases h
theorem AI.noL {x:Dr} {fs:AT (Dr×V)} {ds:AT Ex} (r:AI w σ fs ds) (h:BU fs x=BH):ds.find? (·.Qt.Wu x)=BH:=
 AI.Vb (P:=λfs ds=>BU fs x=BH->ds.find? (·.Qt.Wu x)=BH) (λ_=>rfl) (λp fs e es hk _ _ ih h=>by
  rw[AT.find?_cons,gj hk];cases q:KH p.1 x with
  |Bj=>cases(bw q).Hl.CX h
  |Be=>exact ih ((bj q).Hl.CX h)) r h
theorem dR {α β:Type} {o:Bq α} {f:α->β} {b:β} {q:β->Prop} (h:o.FW f=A9 b) (k:∀a,o=A9 a->q (f a)):q b:=by
 cases o with
 |BH=>cases h
 |A9 a=>exact Bq.A9.Ky h▸k a rfl
theorem il {o:V} {F6:Dr} {m:MK} {q:V->MK->Prop} (e:Gm G cs o F6=A9 m) (k1:∀s m',L5 (EP F6)=A9 m'->q (.t (.Dq s)) (.Dq s m')) (k2:∀a f,G.meth a F6=A9 f->q (.t (.Km (.C9 a))) (.fn f Be)) (k3:∀l m',AX cs o=A9 l->GR (EP F6)=A9 m'->q o (.Dg m'))
  (k4:∀es m',Dm cs o=A9 es->Mv (EP F6)=A9 m'->q o (.Rv m')) (k5:∀p f,GU cs o=A9 p->BU p.2 F6=BH->G.meth p.1 F6=A9 f->q o (.fn f Bj)):q o m:=by
 unfold Gm at e;cases e1:ZX o with
 |A9 s=>rw[e1] at e;exact pV (q:=(q · m)) e1 (dR e (k1 s))
 |BH=>
  rw[e1] at e;dsimp only at e;cases e2:Gg o with
  |A9 a=>rw[e2] at e;exact dP (q:=(q · m)) e2 (dR e (k2 a))
  |BH=>
   rw[e2] at e;dsimp only at e;cases e3:AX cs o with
   |A9 l=>rw[e3] at e;exact dR e λm'=>k3 l m' e3
   |BH=>
    rw[e3] at e;dsimp only at e;cases e4:Dm cs o with
    |A9 l=>rw[e4] at e;exact dR e λm'=>k4 l m' e4
    |BH=>
     rw[e4] at e;refine ob e λp e5 e=> ?_;cases e6:BU p.2 F6 with
     |A9 _=>rw[e6] at e;cases e
     |BH=>rw[e6] at e;exact dR e λf=>k5 p f e5 e6
theorem rh (GM:∀c x f,G.meth c x=A9 f->Jh K c x f) (H:C5 K X) (R:`b s) {o:V} {x:Bl} {F6:Dr} {m:MK} (ro:Ad w σ o x) (e:Gm G cs o F6=A9 m) {pl:U8 CV} {Q:Bl×AT Bl->CW->Prop}
  (hq:∀p tk,UF w σ m x p->Q p {s with Dp:=tk}):`a A (Sp x F6 pl) Q E s:=by
 refine il (q:=λo m=>Ad w σ o x->(∀p tk,UF w σ m x p->Q p {s with Dp:=tk})->`a A (Sp x F6 pl) Q E s) e (λu m' e1 ro hq=> ?_) (λa f e1 ro hq=> ?_) (λl m' e1 e2 ro hq=> ?_) (λl m' e1 e2 ro hq=> ?_) (λp f e1 e2 e3 ro hq=> ?_) ro hq
 .obtain⟨t,Cs⟩:=Ah.Od (w:=w) (fz:=σ.fz) ro
  exact yk e1 (hq _ s.Dp ⟨t,Cs,Cs⟩)
 .obtain⟨_,_,_,g1,mc,g2,g3,g4⟩:=GM a F6 f e1
  obtain rfl:=aR (w:=w) (fz:=σ.fz) ro
  exact method_cls (R.KIn H) g1 (cls_value (R.KIn H) g3 g4 rfl (hq _ _ rfl))
 .obtain⟨p,xs,n',Cs,g,q1⟩:=bv R.1 ro e1
  exact yl g e2 (hq _ s.Dp ⟨rC e2▸e2,Cs⟩)
 .obtain⟨p,ds,n',Cs,g,_⟩:=jp R.1 ro e1
  exact ym g e2 λhm=>hq _ s.Dp ⟨hm,Cs⟩
 .obtain⟨g1,g2,g3,_⟩:=GM p.1 F6 f e3
  obtain⟨a,d,ds,n',Cs,h1,h2,rf⟩:=si R.1 ro e1;refine method_fn (R.KIn H) (jf h1 h2) (plainGet_of g1).1 (plainGet_of g1).2 g2 (Kw.mp g3) ?_ (hq _ s.Dp rfl)
  have:lookIn F6 (AK ds n')=A9 BH:=by
   show(match AT.find? _ ds.E6.Ob with|A9 e=>_|BH=>if ds.Xa (·.refKey)=Bj then _ else _)=_
   rw[show AT.find? _ ds.E6.Ob=BH from rf.noL e2,rf.noRef];rfl
  exact FY (Bq.FW _) F4
theorem kz {f:BF} {fi:Hj} (h:IP w K f fi):WR K (.C9 f)=Bj:=by
 obtain⟨fo,F6,P4,ns,dl,dV,kV,doc,pm,an0,W1,ct,Wg,k1,k2,_⟩:=h;obtain⟨c,d,dt,sl⟩:=fo;have k2:dt=_:=k2;subst k2;simp only[WR,k1]
theorem s7 (GF:∀f fi,G.fn f=A9 fi->IP w K f fi) (GM:∀c x f,G.meth c x=A9 f->Jh K c x f/\(G.fn f).KQ=Bj) (Wv:(K.H6 Lm).KQ=Bj) (S:`e) (SF:HQ w FZ K n an r.fn) (H:`g) (R:`b s) {o:D8.Ez} {F6:Dr} {ap HW:Oz} {args:AT D8.Ez} (ha:BZ an)
  (h:an (HR G r cx (.QI (.JU o F6 ap) args [] HW) ve cs k ke)) {Q:Bl->CW->Prop} (hQ:`l) (hE:`k):`a X.A (Oc (.QI (.JU o F6 ap) args [] HW) CL) Q E s:=by
 have h:an (br (Hg o&&args.VG Bh&&BF.QC ap.endLine HW.line&&BF.blt args.A8 20) _ _):=h;refine am ha h λhb h2=> ?_;clear h;have h:=h2;clear h2;simp only[CV.DG] at hb;obtain⟨⟨⟨Xj,hb2⟩,hb3⟩,hb4⟩:=hb;have hl:args.A8<20:=by simpa [BF.blt_eq] using hb4
 have hpos:ap.endLine=HW.line:=BF.Kn hb3;have he:Oc (.QI (.JU o F6 ap) args [] HW) CL=(do
   let ov <-Oc o CL
   Wa ap.atName
   let(f,first) <-Qy [ov] (Sp ov F6 (do return (<-importBound o CL).RT Bj))
   callWith HW f first (Rl HW (OG args CL)) []):=by
  rw[arm_eval_Call];have h1:VL o F6 CL (Oc o CL)=Oc o CL:=nJ Xj;have h2:methodCallForm (args.A8+([]:AT Keyword).A8) (Rl HW (OG args CL)) (backToKw HW (keywordEach [] CL))=Bj:=by
   unfold methodCallForm
   have:(Rl HW (OG args CL)).VG (!·.1)=Bj:=by
    have:=cy (CL:=CL) (HW:=HW) hb2
    rw[AT.any_eq_false] at F4;rw[AT.OD];intro q hq
    simpa using F4 q hq
   rw[F4];have e0:backToKw HW (keywordEach [] CL)=[]:=rfl;rw[e0]
   simp
   omega
  rw[h1];unfold methodCall;rw[h2];have h3:VN Bj o CL ap HW=Kp HW:=by
   unfold VN;rw[hpos]
   simp
  rw[h3];rfl
 refine MethodCall_ (S X cx CL o σ ve cs s _ ke _ E H R ha h ?_ hE) he;intro σ1 ov x G1 s1 l1 R1 rv h;refine ab ha h λm e1 h=> ?_;refine rh (λc x f e=>(GM c x f e).1) H.x R1 rv e1 λp tk hp=> ?_;have gfn:∀f b,m= .fn f b->(G.fn f).KQ=Bj:=il (q:=λ_ m=>∀f b,m= .fn f b->(G.fn f).KQ=Bj) e1 (λ_ _ _ _ _ e=>by cases e) (λa f e _ _ h=>by cases h;exact(GM _ _ _ e).2) (λ_ _ _ _ _ _ e=>by cases e) (λ_ _ _ _ _ _ e=>by cases e)
  (λ_ f _ _ e _ _ h=>by cases h;exact(GM _ _ _ e).2)
 refine nD S H (R1.Dp tk) ha hb2 h ?_ `D;intro σ2 vs xs KM s2 l2 R2 rvs h;have xC:=rv.Ey l2;have hQ2:=(hQ.Ey l1).Ey l2;have hE2:=(hE.Ey l1).Ey l2;have un:=H.LL;have cl:=cT;have fnc:∀{f:BF} {vs':AT V} {xs':AT Bl},Ac w σ2 vs' xs'->(G.fn f).KQ=Bj->an (r.fn f vs' KM k ke)->DN FZ w K (.C9 f)/\`a X.A (DH (.C9 f) xs') Q E s2:=λ{f vs' xs'} rv' hf h=>by
  obtain⟨fi,hfi⟩:=Bq.Vv.mp hf;refine⟨dc (kz (GF f fi hfi)),Qn ?_⟩;exact SF X f vs' xs' σ2 CL ve KM s2 k ke Q E X.A H.x H.r rfl H.x.hh `aj `I R2 rv' ha h hQ2 hE2
 cases m with
 |Dq u m'=>
  obtain⟨t,Cs,Cs⟩:=hp;exact⟨bJ,xp R2 rvs ha h hQ2⟩
 |Dg m'=>
  obtain⟨hm,Cs⟩:=hp;refine ab ha h λl e h=> ?_;exact⟨bJ,xW R2 H.e.bs xC e rvs ha hm h hQ2⟩
 |Rv m'=>
  obtain⟨Cs,Cs⟩:=hp;refine ab ha h λl e h=> ?_;exact⟨bJ,yn R2 (H.sm R2 Wv) (·) xC e rvs ha h hQ2⟩
 |fn f b=>
  cases b with
  |Bj=>
   obtain rfl:=hp
   exact fnc (vs':=ov::vs) (xs':=x::xs) ⟨_,_,Cs,xC,rvs⟩ (gfn f Bj rfl) h
  |Be=>
   obtain rfl:=hp
   exact fnc rvs (gfn f Be rfl) h
theorem sZ (GK:Jk K G) (GF:∀f fi,G.fn f=A9 fi->IP w K f fi) (GC:∀c ci,G.Ov c=A9 ci->No K c ci/\WR K (.C9 c)=Bj) (Wv:(K.H6 Lm).KQ=Bj) (S:`e) (SF:HQ w FZ K n an r.fn) (SN:IM w FZ K n an r.nw) (H:`g) (R:`b s) {F6:Dr} {ap HW:Oz} {args:AT D8.Ez} (ha:BZ an)
  (h:an (HR G r cx (.QI (.JV F6 ap) args [] HW) ve cs k ke)) {Q:Bl->CW->Prop} (hQ:`l) (hE:`k):`a X.A (Oc (.QI (.JV F6 ap) args [] HW) CL) Q E s:=by
 have h:an (br (args.VG Bh) _ _):=h;refine am ha h λhb h=> ?_;refine ab ha h λfv e1 h=> ?_;refine Call_Name rfl (aS GK H R e1 λf hf=> ?_);refine nD S H R ha hb h ?_ hE;intro σ2 vs xs KM s2 l2 R2 rvs h;have hQ2:=hQ.Ey l2;have hE2:=hE.Ey l2;cases fv with
 |FN _=>exact(ha _ h).Dk
 |t t=>cases t with
  |Km x=>
   obtain rfl:f=x:=aR (w:=w) (fz:=σ.fz) hf
   have gen:an (U1 f vs KM k)->DN FZ w K f/\`a X.A (DH f ([]++xs)) Q E s2:=λh=>⟨pF ha h,yW H Wv R2 rvs ha h hQ2⟩;cases f with
   |C9 a=>
    clear gen;have h:an (match G.fn a with
     |A9 _=>match Mr a with
      |Bj=>AA (AU `at KM vs) 53 λp=>r.fn a (ZW p.1) p.2 k ke
      |Be=>r.fn a vs KM k ke
     |BH=>match G.Ov a with
      |A9 ci=>r.nw a cx.b vs KM k ke
      |BH=> .D9 54):=h
    cases hfi:G.fn a with
    |A9 fi=>
     rw[hfi] at h;refine⟨dc (kz (GF a fi hfi)),Qn ?_⟩;cases hz:Mr a with
     |Bj=>
      dsimp only at h;rw[hz] at h;refine ab ha h λp e h=> ?_;obtain⟨σ3,l3,R3,r3⟩:=jh (dG w X CL ve · BN) R2 (Kg:=p.2) (ts:=p.1) e rvs;exact SF X a (ZW p.1) _ σ3 CL ve p.2 s2 k ke Q E X.A H.x H.r rfl H.x.hh `aj `I R3 (pI r3) ha h (hQ2.Ey l3) (hE2.Ey l3)
     |Be=>
      dsimp only at h;rw[hz] at h;exact SF X a vs _ σ2 CL ve KM s2 k ke Q E X.A H.x H.r rfl H.x.hh `aj `I R2 rvs ha h hQ2 hE2
    |BH=>
     rw[hfi] at h;cases hci:G.Ov a with
     |BH=>dsimp only at h;rw[hci] at h;exact(ha _ h).Dk
     |A9 ci=>
      dsimp only at h;rw[hci] at h;refine⟨dc (GC a ci hci).2,Qn ?_⟩;exact SN X a cx.b vs _ σ2 CL ve KM s2 k ke Q E X.A H.x H.r rfl H.x.hh `M `I H.e.bs R2 rvs ha h hQ2
   |_=>exact gen h
  |_=>exact(ha _ h).Dk
end
theorem yg {α:Type} {f:α->α->CV} (hf:∀a b,f a b=Bj↔a=b) {x:α} {l:AT α}:XQ f x l=Be->x∉l:=by
 induction l with
 |HU=>exactλ_=>AT.Ol
 |Dc y r ih=>exactλh q=>(AT.GZ.mp q).Dk (λe=>CV.Ki ((CV.PV.mp h).1.Hl.CX ((hf _ _).Lq e))) (ih (CV.PV.mp h).2)
theorem j3 {α:Type} {f:α->α->CV} (hf:∀a b,f a b=Bj↔a=b) {l:AT α}:I2 f l=Bj->l.Oq:=by
 induction l with
 |HU=>exactλ_=>AT.WX
 |Dc y r ih=>
  intro h;have h:=(CV.DG _ _).mp h;exact AT.Kv.Lq ⟨yg hf ((CV.OI _).mp h.1),ih h.2⟩
section
variable {q q':EA×KJ}
theorem Ak.cellB (R:Ak w (X.F8 q) σ CL ve cs s) (hl:CL.J6=X.L) {p:EA×EA} {c:C} (hc:Bf w (σ.VS p) p c [q]):Ak w X (σ.VS p) CL ve (cs++[c]) s:=by
 obtain⟨⟨m,ml,G2,r⟩,hg,ho⟩:=R;have nd:(q.1::(Aq X σ G2).FW (·.1)).Oq:=((aM (X:=X) (σ:=σ) (G2:=G2) (q:=q)).FW VH.fst).Lz.mp r.nd;have N:=r.N;have r1:=r.F3 (h':=s.Dn) hl (λb o _ e=>e);obtain⟨ml',r2⟩:=r1.cellD (p:=p) (c:=c) (os:=[q]) r1.F (λz hz=>N z ((aM (X:=X) (σ:=σ) (G2:=G2) (q:=q)).OF.Lq (by simpa using hz))) (λa ha=>by
  simp only[AT.JS,AT.Rm,AT.H9] at ha;subst ha;exact(AT.Kv.mp nd).1) (by simp) hc
 exact⟨⟨m,ml',_,r2⟩,hg,ho⟩
def Bc (w:FX) (σ:Sg):AT (T×V)->AT (Bl×Bl)->Prop
 |[],xs=>xs=[]
 |(k,v)::r,xs=>∃a b ys,xs=(a,b)::ys/\Ah w σ.fz k a/\Ad w σ v b/\Bc w σ r ys
theorem Bc.Vb {P:AT (T×V)->AT (Bl×Bl)->Prop} (n:P [] []) (c:∀p r x xs,Ah w σ.fz p.1 x.1->Ad w σ p.2 x.2->Bc w σ r xs->P r xs->P (p::r) (x::xs)) {ps:AT (T×V)}:∀{xs:AT (Bl×Bl)},Bc w σ ps xs->P ps xs:=by
 induction ps with
 |HU=>exactλh=>(h:_=[])▸n
 |Dc p ps ih=>
  intro xs h;have h:∃a b ys,xs=(a,b)::ys/\Ah w σ.fz p.1 a/\Ad w σ p.2 b/\Bc w σ ps ys:=h;obtain⟨a,b,ys,Cs,e2,e3,e4⟩:=h;exact c p ps (a,b) ys e2 e3 e4 (ih e4)
theorem Bc.Dc {p:T×V} {r:AT (T×V)} {x:Bl×Bl} {xs:AT (Bl×Bl)} (a:Ah w σ.fz p.1 x.1) (b:Ad w σ p.2 x.2) (c:Bc w σ r xs):Bc w σ (p::r) (x::xs):=⟨x.1,x.2,xs,Cs,a,b,c⟩
theorem Bc.Ey {σ':Sg} (h:σ.le σ') {ps:AT (T×V)} {xs:AT (Bl×Bl)} (e:Bc w σ ps xs):Bc w σ' ps xs:=Bc.Vb (P:=Bc w σ') rfl (λ_ _ _ _ a b _ ih=> .Dc (a.Ey h.1) (b.Ey h) ih) e
theorem Bc.vals {ps:AT (T×V)} {xs:AT (Bl×Bl)} (e:Bc w σ ps xs):Ac w σ (ps.FW (·.2)) (xs.FW (·.2)):=Bc.Vb (P:=λ(ps:AT (T×V)) (xs:AT (Bl×Bl))=>Ac w σ (ps.FW VH.snd) (xs.FW VH.snd)) rfl (λ_ _ _ _ _ b _ ih=> .Dc b ih) e
theorem td (S:`e) (H:`g) (ha:BZ an):∀{ks:AT (Bq D8.Ez)} {es:AT D8.Ez} {ps:AT (T×V)} {σ:Sg} {cs:St} {s:CW} {kk:AT (T×V)->St->An} {HW:Oz} {Q:AT (Bl×Bl)->CW->Prop},`b s->an (U0 r cx ks es ps ve cs kk ke)->
  (∀σ' ps' xs Kg s',σ.le σ'->Ak w X σ' CL ve Kg s'->Bc w σ' ps' xs->an (kk (ps++ps') Kg)->Q xs s')->`k->
  MW ks es=Bj->`a X.A (evalPairs (pairTrees ks es CL HW)) Q E s:=by
 intro ks
 induction ks with
 |HU=>
  intro es ps σ cs s kk HW Q R h hQ hE hk;cases es with
  |Dc e es=>cases hk
  |HU=>exact pairTrees_nil_walk (hQ σ [] [] cs s σ.G5 R rfl (by rw[AT.H7];exact h))
 |Dc a ks ih=>
  intro es ps σ cs s kk HW Q R h hQ hE hk;cases a with
  |BH=>cases es<;>cases hk
  |A9 a=>
   cases es with
   |HU=>cases hk
   |Dc e es=>
    refine pairTrees_cons_walk (S X cx CL a σ ve cs s _ ke _ E H R ha h ?_ hE);intro σ1 ka x G1 s1 l1 R1 r1 h;refine S X cx CL e σ1 ve G1 s1 _ ke _ E H R1 ha h ?_ `D;intro σ2 v y KM s2 l2 R2 r2 h;dsimp only at h;cases ka with
    |FN _=>exact(ha _ h).Dk
    |t t=>
     refine ih R2 h ?_ ((hE.Ey l1).Ey l2) hk;intro σ3 ps' xs Se Z4 l3 R3 rp h;exact hQ σ3 ((t,v)::ps') ((x,y)::xs) Se Z4 (l1.CX `an) R3 (.Dc (Ah.Ey (l2.CX l3).1 r1) (r2.Ey l3) rp) (by rw[AT.F7] at h;exact h)
theorem uI {ks:AT (Bq D8.Ez)} {es:AT D8.Ez}:MW ks es=Bj->ks.VG (·.KQ)=Bj/\ks.A8=es.A8:=by
 induction ks generalizing es with
 |HU=>exactλh=>dY (q:=λl=>_/\0=l.A8) h ⟨Cs,Cs⟩
 |Dc k ks ih=>cases es with
  |HU=>exactλh=>nomatch h
  |Dc e es=>
   intro h;have h:=(CV.DG _ _).mp h;exact⟨(CV.DG _ _).Lq ⟨h.1,(ih h.2).1⟩,FY (· +1) (ih h.2).2⟩
def SC (ps:AT (T×V)) (xs:AT (Bl×Bl)) (l:AT Dr):Prop:=allStrKeys xs=Bj/\(strPairs xs).FW (·.1)=l/\(strPairs xs).FW (·.2)=xs.FW (·.2)/\ps.FW (·.1)=l.FW .Dq
theorem jK {ps:AT (T×V)} {xs:AT (Bl×Bl)} {l:AT Dr} (r:Bc w σ ps xs) (h:IS ps=A9 l):SC ps xs l:=
 Bc.Vb (P:=λps xs=>∀l,IS ps=A9 l->SC ps xs l) (λl h=>Bq.A9.Ky h▸⟨Cs,Cs,Cs,Cs⟩) (λp ps x ys a _ _ ih l h=>ob h λu h1 h=>ob h λl' h2 h3=>by
  clear h;obtain⟨k,v⟩:=p;obtain⟨y,z⟩:=x
  obtain rfl:k= .Dq u:=bp (q:=λt=>t= .Dq u) h1 rfl
  obtain⟨t,Cs⟩:=Ah.Od a
  obtain rfl:=Bq.A9.Ky h3
  obtain⟨g1,g2,g3,g4⟩:=ih l' h2;exact⟨g1,FY (u:: ·) g2,FY (z:: ·) g3,FY (T.Dq u:: ·) g4⟩) r l h
def IC (ps:AT (T×V)) (xs:AT (Bl×Bl)) (l:AT Dt):Prop:=allIntKeys xs=Bj/\(intKeyPairs xs).FW (·.1)=l/\(intKeyPairs xs).FW (·.2)=xs.FW (·.2)/\ps.FW (·.1)=l.FW .D4
theorem kw {ps:AT (T×V)} {xs:AT (Bl×Bl)} {l:AT Dt} (r:Bc w σ ps xs) (h:I9 ps=A9 l):IC ps xs l:=
 Bc.Vb (P:=λps xs=>∀l,I9 ps=A9 l->IC ps xs l) (λl h=>Bq.A9.Ky h▸⟨Cs,Cs,Cs,Cs⟩) (λp ps x ys a _ _ ih l h=>ob h λu h1 h=>ob h λl' h2 h3=>by
  clear h;obtain⟨k,v⟩:=p;obtain⟨y,z⟩:=x
  obtain rfl:k= .D4 u:=ba (q:=λt=>t= .D4 u) h1 rfl
  obtain⟨t,Cs⟩:=Ah.LO a
  obtain rfl:=Bq.A9.Ky h3
  obtain⟨g1,g2,g3,g4⟩:=ih l' h2;exact⟨g1,FY (u:: ·) g2,FY (z:: ·) g3,FY (T.D4 u:: ·) g4⟩) r l h
theorem kH {Kk:Type} [PP Kk] (KT:GD FZ w Kk) (uq:∀{k k':Kk} {x:Bl},KT.V2.is k x=Bj->KT.V2.is k' x=Bj->k=k') {D:EA} {ps:AT (T×V)} {Sl:AT (Kk×Bl)} (hD:h.DictOf KT.V2 D Sl) (h1:Sl.FW (λp=>KT.tk p.1)=ps.FW (·.1)) (h2:Ac w σ (ps.FW (·.2)) (Sl.FW (·.2))):
  ∃ds n,h.D7 D=A9 (AK ds n)/\AV w σ ps ds:=by
 obtain⟨o,es',ep,ho,⟨x1,x2,x3⟩,hd,hks,hp,hn⟩:=hD;obtain⟨oc,od,oda,osl⟩:=o;dsimp only at x1 x2 x3 hd;subst x1 x2 x3 hd;exact⟨es'.Ob,ep,by rw[ho];unfold AK;simp,rX KT uq h1 h2 hp (λe he=>hks e (by simpa using he)) hn⟩
theorem d9 {Kk:Type} [PP Kk] (V2:KeyKind FZ w Kk) {D:EA} (e:h.D7 D=A9 (AK [] 0)):h.DictOf V2 D []:=
 ⟨_, #[],0,e,⟨Cs,Cs,Cs⟩,Cs,λe he=>by simp at he,.HU,AT.WX⟩
theorem v6 (S:`e) (H:`g) (R:`b s) {ks:AT (Bq D8.Ez)} {es:AT D8.Ez} {HW:Oz} (ha:BZ an) (h:an (HR G r cx (.Dict ks es HW) ve cs k ke)) {Q:Bl->CW->Prop} (hQ:`l) (hE:`k):
  `a X.A (Oc (.Dict ks es HW) CL) Q E s:=by
 unfold HR at h;dsimp only at h;refine am ha h λhb h2=> ?_;clear h;have h:=h2;clear h2;simp only[CV.DG] at hb;obtain⟨⟨Xj,hb2⟩,hb3⟩:=hb;have hl:=H.e.own Xj;have hb3:=BF.Lx.mp hb3
 by_cases h0:ks=[]
 .subst h0
  cases es with
  |Dc e es=>cases hb2
  |HU=>
   rw[eval_Dict_empty];refine Ch (Kx ?_);show Ic _ _ (newObj (.Ds "dict") (.LG #[])) _ _ _;refine P9 ?_;have h:an (LH (.Rv []) cs k):=h;obtain⟨R1,hg,ho⟩:=R;have R2:=R1.addCell (h':=s.Dn.Lr {Ov:= .Ds "dict",KA:= .LG #[]}) (p:=(`m,`m)) (c:= .Rv []) (os:=[(`m,AK [] 0)]) (λb o e=>Ev.EB _ e) (λq hq=>by
    cases AT.H9.mp hq;exact⟨Ev.JW _ rfl,aq⟩) (by simp) ⟨[],0,Cs,Cs⟩
   obtain⟨m,ml,G2,q⟩:=R1;exact hQ _ _ _ _ _ `az ⟨R2,hg,ho⟩ (dh q.J2 _) h
 .obtain⟨okA,okL⟩:=uI hb2
  let q0:EA×KJ:=(`m,AK [] 0)
  have R1:Ak w (X.F8 q0) σ CL ve cs {s with Dn:=s.Dn.Lr {Ov:= .Ds "dict",KA:= .LG #[]}}:=R.Gk (q:=q0) (λb o e=>Ev.EB _ e) aq (Ev.JW _ rfl) s.Dp;have K7:∀{σ':Sg} {ps:AT (T×V)} {Kg:St} {s1:CW} {h':Ev} {ds:AT Ex} {n' tk:BF},σ.le σ'->Ak w (X.F8 q0) σ' CL ve Kg s1->h'.D7 `m=A9 (AK ds n')->AV w σ' ps ds->Ev.Qq `m s1.Dn h'->an (LH (.Rv ps) Kg k)->Q (.C9 `m) {s1 with Dn:=h',Dp:=tk}:=λ{σ' ps Kg s1 h' ds n' tk} l R2 hd rd hs h=>by
   have R3:Ak w (X.F8 (`m,AK ds n')) σ' CL ve Kg {s1 with Dn:=h',Dp:=tk}:=R2.Xq (q':=(`m,AK ds n')) hl rfl (ao hs.Oh) hd tk;have R4:=R3.cellB hl (p:=(`m,`m)) (c:= .Rv ps) ⟨ds,n',Cs,rd.Ey (σ'.Si _)⟩;obtain⟨⟨m,ml,G2,q⟩,_⟩:=R2;exact hQ _ _ _ _ _ (l.CX (σ'.Si _)) R4 (dh q.J2 _) h
  have hE1:AD w (X.F8 q0) σ CL ve ke an E:=λσ' c wv av Kg e s' l hx h=>hE σ' c wv av Kg e s' l (d7 hx) h;rcases bP h with⟨hs,h⟩|⟨hs,h⟩
  .refine wpAny_Dict_walk (V2:=strKind FZ w) okA okL h0 hb3 (td (X:=X.F8 q0) (Q:=λvs s₁=>_) S (H.F8 q0) ha R1 h ?_ hE1 hb2)
   intro σ' ps xs Kg s1 l R2 rp h;have h:an (br (YZ ps) (LH (.Rv ps) Kg k) (.D9 50)):=h;refine am ha h λho h=> ?_;refine aF (P:=(· =Bj)) ho (λl' e ho=> ?_) λho=>nomatch ho;obtain⟨g1,g2,g3,g4⟩:=jK rp e;refine display_done_str g1 (by rw[g2];exact j3 (λa b=>aB) ho) (d9 _ R2.getB) λh' hD hs'=> ?_;obtain⟨ds,n',hd,rd⟩:=kH (σ:=σ') (ps:=ps) (Fn FZ w) qi hD (by
    rw[g4,<-g2,AT.map_map];rfl) (by rw[g3];exact rp.vals)
   exact K7 l R2 hd rd hs' h
  .refine wpAny_Dict_walk (V2:=intKind FZ w) okA okL h0 hb3 (td (X:=X.F8 q0) (Q:=λvs s₁=>_) S (H.F8 q0) ha R1 h ?_ hE1 hb2)
   intro σ' ps xs Kg s1 l R2 rp h;have h:an (br (Y0 ps) (LH (.Rv ps) Kg k) (.D9 52)):=h;refine am ha h λho h=> ?_;refine aF (P:=(· =Bj)) ho (λl' e ho=> ?_) λho=>nomatch ho;obtain⟨g1,g2,g3,g4⟩:=kw rp e;refine display_done_int g1 (by rw[g2];exact j3 (λa b=>lZ) ho) (d9 _ R2.getB) λh' hD hs'=> ?_;obtain⟨ds,n',hd,rd⟩:=kH (σ:=σ') (ps:=ps) (Gs FZ w) sf hD (by
    rw[g4,<-g2,AT.map_map];rfl) (by rw[g3];exact rp.vals)
   exact K7 l R2 hd rd hs' h
end
end Internal
namespace Internal
open PySem PySem.W PyProof.Rows PySem.Calls PySem.SeqAt
open PyProof.Rows.LCg (NsObj ns_obj)
variable {w:FX} {FZ:Kt} {K:Lo} {G:DM} {r:IL} {n:BF} {X:Fx} {cx:Cx} {CL:Qp} {σ:Sg} {ve:Ag} {cs:St} {s:CW} {k:KV} {ke:PL.KX} {an:An->Prop} {E:Bl->CW->Prop} {kn:KN} {kr:KV} {h:Ev} {h':Ev} {m:Dr->Bq Bl} {ml:Dr->Bq Bl} {G2:AT BR} {A:Ke}
section
variable {QM:Qp}
theorem bb {l':BR} (hp:X.bl.V8 l') (R:`b s):Ak w {X with bl:=l'} σ CL ve cs s:=by
 obtain⟨⟨m,ml,G2,r⟩,hg,ho⟩:=R;have pm:(Aq X σ G2).V8 (Aq {X with bl:=l'} σ G2):=AT.V8.append_left _ (AT.V8.append_right _ hp);refine⟨⟨m,ml,G2,r.F,r.ns,r.V0,r.J2,λp q=>r.N p (pm.OF.Lq q),(pm.FW VH.fst).Lz.mp r.nd,r.bd,?_,r.T⟩,hg,ho⟩;rcases r.lo with e|⟨e,ke⟩
 .exact .HX e
 .exact .G4 ⟨(hp.FW VH.fst).OF.mp e,ke⟩
theorem Ak.RJ (R:`b s) {q:EA×KJ} (h:q∈X.bl):s.Dn.D7 q.1=A9 q.2/\q.1≠X.L:=by
 obtain⟨⟨m,ml,G2,r⟩,_⟩:=R
 have:=r.N q (aC.Lq (.G4 (.HX h)))
 exact⟨F4.1,F4.2.1⟩
theorem AB.withL (H:`g) (l:BR):AB K n {X with bl:=l} cx CL:=⟨⟨H.x.B,H.x.fr,H.x.ff,H.x.fk,H.x.fl,H.x.hh,H.x.lim,H.x.KX,H.x.gn,H.x.bn⟩,⟨H.e.hk,H.e.hg,H.e.hb,H.e.hf,H.e.hn,H.e.bs,H.e.own⟩,H.r⟩
theorem DC.withL (O:DC X CL) (l:BR):DC {X with bl:=l} CL:=⟨O.fe,O.ll⟩
theorem pK (R:`b s) (hl:CL.J6=X.L) {oC:KJ} (hC:(QM.J6,oC)∈X.bl) {mC:Dr->Bq Bl} (hN:NsObj oC mC) {x:Dr} {v:V} {y:Bl} (hx:mC x=A9 y) (rv:Ad w σ v y) (hk:QM.PQ x=A9 .local) (hnc:∀x,CL.PQ x≠A9 .Qc):
  Ak w {X with ol:=ve} σ QM [(x,v)] cs s:=by
 have g:=(R.RJ hC).1;obtain⟨⟨m,ml,G2,r⟩,hg,ho⟩:=R;have hm:m=ml:=bu r.F.ns (hl▸r.ns);refine⟨⟨m,mC,G2,r.F,hN.ns g,λz u e=> ?_,r.J2,r.N,r.nd,r.bd,.G4 ⟨AT.Ib (f:=(·.1)) hC,λz u e=> ?_⟩,r.T⟩,hg,ho⟩
 .cases q:KH x z with
  |Bj=>
   rw[bw q] at e;cases e;rw[<-aB.mp q];exact .HX ⟨y,hx,rv,hk⟩
  |Be=>rw[bj q] at e;cases e
 .rcases r.V0 z u e with⟨y',a,b,_⟩|⟨_,_,_,a,_⟩
  .exact⟨y',hm▸a,b⟩
  .exact(hnc z a).Dk
theorem Ak.kinds (hnc:∀x,CL.PQ x≠A9 .Qc) (R:`b s):∀x v,BU ve x=A9 v->CL.PQ x=A9 .local:=by
 obtain⟨⟨m,ml,G2,r⟩,_⟩:=R;intro x v e;rcases r.V0 x v e with⟨_,_,_,c⟩|⟨_,_,_,a,_⟩
 .exact c
 .exact(hnc x a).Dk
theorem Ak.J9 {Qk:Ag} (R:Ak w {X with ol:=ve} σ QM Qk cs s) (hl:CL.J6=X.L) (Vo:QM.J6≠X.L) (hk:∀x v,BU ve x=A9 v->CL.PQ x=A9 .local):`b s:=by
 obtain⟨⟨m,ml,G2,r⟩,hg,ho⟩:=R;refine⟨⟨m,m,G2,r.F,by rw[hl];exact r.F.ns,λz u e=> ?_,r.J2,r.N,r.nd,r.bd,.HX hl,r.T⟩,hg,ho⟩;rcases r.lo with q|⟨_,kp⟩
 .exact(Vo q).Dk
 .obtain⟨y,a,b⟩:=kp z u e
  exact .HX ⟨y,a,b,hk z u e⟩
theorem qe {Wt:AT D8.Ez} {Qb:CV->CW->Prop} (h:Qb Be s):
  `a A (forIn Wt Be λc r=>if r=Bj then do let ok <-isTrue c QM (Oc c QM);Kp (Q6.yield ok) else Kp (Q6.yield r)) Qb E s:=by
 induction Wt with
 |HU=>exact De h
 |Dc c Wt ih=>
  rw[AT.QV,Ko CV.Ki];exact Ch (De ih)
theorem qd (St':`f) (H:AB K n X cx QM) {kb:KB} (ha:BZ an) {Qb:CV->CW->Prop}:∀{Wt:AT D8.Ez} {σ:Sg} {cs:St} {s:CW},Ak w X σ QM ve cs s->an (Ga r cx .And Wt ve cs kb ke)->GA w X σ QM ve kb an Qb->AD w X σ QM ve ke an E->
  `a X.A (forIn Wt Bj λc r=>if r=Bj then do let ok <-isTrue c QM (Oc c QM);Kp (Q6.yield ok) else Kp (Q6.yield r)) Qb E s:=by
 intro Wt
 induction Wt with
 |HU=>
  intro σ cs s R h hQ hE;exact De (hQ σ Bj cs s σ.G5 R h)
 |Dc c Wt ih=>
  intro σ cs s R h hQ hE;simp only[AT.QV,if_true];refine Ch (Ch (St' X cx QM c σ ve cs s _ ke _ E H R ha h ?_ hE));intro σ1 b G1 s1 l1 R1 h;refine De ?_;rcases bP h with⟨Cs,h⟩|⟨Cs,h⟩
  .exact ih R1 h `L `D
  .exact qe (hQ σ1 Be G1 s1 l1 R1 h)
theorem iy {V7 P5 Sh:D8.Ez} {Wt:AT D8.Ez} {Jm:OE} {HW:Oz} {it W6:Bl} {RR:Result->CW->Prop}
  (h:`a A (pyNext it) (λr s₁=>match r with
   |BH=>RR (.ok .next) s₁
   |A9 v=>`a A (PN P5 QM v) (λ_ s₂=>
     `a A (forIn Wt Bj λc r=>if r=Bj then do let ok <-isTrue c QM (Oc c QM);Kp (Q6.yield ok) else Kp (Q6.yield r)) (λok s₃=>
      if ok=Bj then Ic `t A (Oc V7 QM) (λx s₄=>
       `a A (DH (.Dd "list.append") [W6,x]) (λ_ s₅=>`h A (.compLoop (.Lw V7 [⟨P5,Sh,Wt,0⟩] Jm HW) 0 it W6 QM) RR s₅) (notedBy `t A QM λe s'=>RR (.Rx e) s') s₄) (notedBy `t A QM λe s'=>RR (.Rx e) s') s₃
      else codeAny `t A (.compLoop (.Lw V7 [⟨P5,Sh,Wt,0⟩] Jm HW) 0 it W6 QM) RR s₃) (notedBy `t A QM λe s'=>RR (.Rx e) s') s₂) (notedBy `t A QM λe s'=>RR (.Rx e) s') s₁) (notedBy `t A QM λe s'=>RR (.Rx e) s') s)
  (ht:∀v,QQ P5 it v=Kp LI.Qe:=by intro _;rfl):
  `h A (.compLoop (.Lw V7 [⟨P5,Sh,Wt,0⟩] Jm HW) 0 it W6 QM) RR s:=by
 refine codeAny_of_tree ?_;show Ic _ A ((compTurn (.Lw V7 [⟨P5,Sh,Wt,0⟩] Jm HW) 0 it W6 QM).onRaise (λx=>do K0 x QM;theTreesLotGoes x)) _ _ s;refine wpAny_noted ?_;rw[compTurn_list];refine Ch (Kx (Ch (Ho h (λr s₁ h₁=> ?_) λ_ _ h'=>h')));cases r with
 |BH=>exact De h₁
 |A9 v=>
  refine Ch (wpAny_of_eq (ht v) ?_);refine Ch (Ho h₁ (λ_ s₂ h₂=>Ch (Ho h₂ (λok s₃ h₃=> ?_) λ_ _ h'=>h')) λ_ _ h'=>h');cases ok with
  |Be=>exact De ⟨Cs,h₃⟩
  |Bj=>
   exact Ch (Ch (Ho h₃ (λx s₄ h₄=>Ch (Ho h₄ (λ_ s₅ h₅=>De (De ⟨Cs,h₅⟩)) λ_ _ h'=>h')) λ_ _ h'=>h'))
theorem sa {x:Bq Ln} (h:Et x=Bj):x=A9 .local:=by
 cases x with
 |BH=>cases h
 |A9 k=>cases k<;>first|rfl|cases h
theorem sd {x:ScopeKind} (h:I8 x=Bj):x= .LK:=by
 cases x<;>first|rfl|cases h
theorem fm {sc:OE} {x:Dr} (h:Jr sc x=Bj):sc.Wz= .LK/\(∀y∈sc.Lb,y.2≠.Qc/\y.2≠.free)/\(∀y∈sc.Lb,y.2= .local->sc.Lb.H6 y.1=A9 .local)/\sc.Lb.H6 x=A9 .local:=by
 have V0:∀{z:Dr},Et (IA sc.Lb z)=Bj->sc.Lb.H6 z=A9 .local:=λ{z} hz=>by
  rw[cF] at hz;exact sa hz
 unfold Jr at h;obtain⟨h12,h3⟩:=CV.Kf.mp h;obtain⟨h1,h2⟩:=CV.Kf.mp h12;have h2:=AT.OD.mp h2;refine⟨?_,λy hy=> ?_,λy hy e=> ?_,V0 h3⟩
 .exact sd h1
 .have:=h2 y hy
  rw[CV.DG] at F4
  have:=F4.1
  unfold Mj at F4
  constructor<;>(intro q;rw[q] at F4;cases F4)
 .have:=h2 y hy
  have:=(CV.Kf.mp F4).2
  rw[e] at F4;exact V0 F4
theorem cz {sc:OE} (h:∀y∈sc.Lb,y.2≠.Qc/\y.2≠.free) (CL:Qp):relabel sc CL=sc:=by
 have:sc.Lb.FW (λ(p:Dr×Ln)=>match p with|(n,k)=>if(k==Ln.free&&CL.Jm.Wz== .LK&&CL.PQ n==A9 .Qc) then(n,Ln.Qc) else(n,k))=sc.Lb:=by
  refine(AT.map_congr_left λy hy=> ?_).CX (AT.map_id _)
  obtain⟨a,b⟩:=y;have hb:(b==Ln.free)=Be:=LD.Lq (h _ hy).2
  show(if(b==Ln.free&&_&&_)=Bj then _ else _)=_
  rw[hb];rfl
 show {sc with Lb:=_}=sc;rw[F4]
theorem eU {sc:OE} (h:∀y∈sc.Lb,y.2≠.Qc/\y.2≠.free) (CL:Qp):closureFor sc CL=Kp []:=closureFor_none λx hx=>(h x hx).2
end
section
theorem oD {xs:AT Bl} {nn:BF} {y:Bl}:({Ov:= .Ds "list",KA:= .KH (xs.E6.Lr y) (nn+1)}:KJ)=AO (xs++[y]) (nn+1):=by
 unfold AO;rw[AT.push_toArray]
theorem pG (ys:AT T) (t:T):EI (ZW ys++ZW [t])=A9 (ys++[t]):=by
 induction ys with
 |HU=>rfl
 |Dc y ys ih=>show((EI (ZW ys++ZW [t])).G3 λts=>A9 (y::ts))=_;rw[ih];rfl
theorem oU (H:`g) {sc:OE} {C:EA} (hk:sc.Wz= .LK) (hn:∀y∈sc.Lb,y.2≠.Qc/\y.2≠.free) (l:BR):AB K n {X with bl:=l,ol:=ve} ⟨sc,cx.b,Be⟩ (Vh sc [] C CL):=
 ⟨⟨H.x.B,H.x.fr,H.x.ff,H.x.fk,H.x.fl,H.x.hh,H.x.lim,H.x.KX,H.x.gn,H.x.bn⟩,⟨by show(relabel sc CL).Wz=_;rw[cz hn];exact hk,H.e.hg,H.e.hb,H.e.hf,λx=>by show(relabel sc CL).Lb.H6 x=_;rw[cz hn],H.e.bs,λh=>by cases h⟩,H.r⟩
theorem pq (S:`e) (St':`f) (H:`g) (hl:CL.J6=X.L) (hnc:∀x,CL.PQ x≠A9 .Qc) (ha:BZ an) {sc:OE} {x:Dr} (hsc:Jr sc x=Bj) {V7 Sh:D8.Ez} {px:Oz} {Wt:AT D8.Ez} {HW:Oz} {l:V} {p I C D:EA} {RR:Result->CW->Prop} {kk:AT T->St->An} {σ₀:Sg}
  (K7:∀σ' ts xs' nn' V3 mC' Kg s',σ₀.le σ'->Ak w {X with bl:=(C,V3)::(D,AO xs' nn')::X.bl} σ' CL ve Kg s'->NsObj V3 mC'->Am w σ'.fz ts xs'->an (kk ts Kg)->RR (.ok .next) s'):
  ∀{Df:AT V} {j:BF} {ys:AT T} {xs:AT Bl} {nn:BF} {oI oC:KJ} {mC:Dr->Bq Bl} {σ:Sg} {cs:St} {s:CW},σ₀.le σ->Ak w {X with bl:=(I,oI)::(C,oC)::(D,AO xs nn)::X.bl} σ CL ve cs s->Ad w σ l (.C9 p)->HL (Cl l) oI p j->NsObj oC mC->
   Am w σ.fz ys xs->xs.A8+Df.A8<=5000->an (Ei r ⟨sc,cx.b,Be⟩ x Wt V7 l j Df cs (λzs cs=>kk (ys++zs) cs))->
   `h X.A (.compLoop (.Lw V7 [⟨.JV x px,Sh,Wt,0⟩] sc HW) 0 (.C9 I) (.C9 D) (Vh sc [] C CL)) RR s:=by
 obtain⟨hk,hn,hnl,hx⟩:=fm hsc;have hkx:(Vh sc [] C CL).PQ x=A9 .local:=by
  show(relabel sc CL).Lb.H6 x=_
  rw[cz hn];exact hx
 intro Df
 induction Df with
 |HU=>
  intro j ys xs nn oI oC mC σ cs s l0 R rl ho hN rt N9 h;refine ab ha h λvs e h=> ?_;have R0:Ak w (({X with bl:=(C,oC)::(D,AO xs nn)::X.bl}:Fx).F8 (I,oI)) σ CL ve cs s:=R;refine iy (fY (H.withL ((C,oC)::(D,AO xs nn)::X.bl)) hl R0 rl ho e (λhv s' R'=> ?_) λv hv y o' s' ry R' ho'=> ?_)
  .rw[hv] at h
   exact K7 σ ys xs nn oC mC cs s' l0 R' hN rt (by simpa using h)
  .rw[hv] at h
   exact(ha _ h).Dk
 |Dc _ Df ih=>
  intro j ys xs nn oI oC mC σ cs s l0 R rl ho hN rt N9 h;refine ab ha h λvs e h=> ?_;refine ab ha h λv hv h=> ?_;have R0:Ak w (({X with bl:=(C,oC)::(D,AO xs nn)::X.bl}:Fx).F8 (I,oI)) σ CL ve cs s:=R;refine iy (fY (H.withL ((C,oC)::(D,AO xs nn)::X.bl)) hl R0 rl ho e (λhv' s' R'=> ?_) λv' hv' y o' s' ry R' ho'=> ?_)
  .rw[hv'] at hv;cases hv
  .obtain rfl:v=v':=Bq.A9.Ky (hv.Hl.CX hv')
   have R1:Ak w {X with bl:=(I,o')::(C,oC)::(D,AO xs nn)::X.bl} σ CL ve cs s':=R';have gC:=Ak.RJ (X:={X with bl:=(I,o')::(C,oC)::(D,AO xs nn)::X.bl}) R1 (q:=(C,oC)) (.Do _ (.Jn _));refine wpAny_assign_Name (wpAny_storeName_local hkx (hN.ns gC.1) (λh' hn' hs'=> ?_) (by
    have:(Vh sc [] C CL).Jm.Wz= .LK:=by show(relabel sc CL).Wz=_;rw[cz hn];exact hk
    rw[F4];rfl))
   obtain⟨V3,gC',hN'⟩:=ns_obj hn';have R2:Ak w {X with bl:=(I,o')::(C,V3)::(D,AO xs nn)::X.bl} σ CL ve cs {s' with Dn:=h',Dp:=s'.Dp+1}:=by
    have a:Ak w (({X with bl:=(I,o')::(D,AO xs nn)::X.bl}:Fx).F8 (C,oC)) σ CL ve cs s':=bb (X:={X with bl:=(I,o')::(C,oC)::(D,AO xs nn)::X.bl}) `as R1;have b:=a.Xq (q':=(C,V3)) hl rfl (ao hs'.Oh) gC' (s'.Dp+1);exact bb (X:=({X with bl:=(I,o')::(D,AO xs nn)::X.bl}:Fx).F8 (C,V3)) `as b
   have hxm:(λz=>if z=x then A9 y else mC z) x=A9 y:=Lu rfl;have R3:=pK (X:={X with bl:=(I,o')::(C,V3)::(D,AO xs nn)::X.bl}) R2 (QM:=Vh sc [] C CL) hl (oC:=V3) (.Do _ (.Jn _)) hN' hxm ry hkx hnc;have Hc:=oU (ve:=ve) H (C:=C) hk hn ((I,o')::(C,V3)::(D,AO xs nn)::X.bl);have kinds:=R.kinds hnc;have noE:∀{σ:Sg} {Qk:Ag} {E':Bl->CW->Prop},AD w {X with bl:=(I,o')::(C,V3)::(D,AO xs nn)::X.bl,ol:=ve} σ (Vh sc [] C CL) Qk OT an E':=λ{σ Qk E'} σ' c wv av Kg e s' l hx h=>by
    have h:an (An.D9 76):=h;exact(ha _ h).Dk
   refine qd (X:={X with bl:=(I,o')::(C,V3)::(D,AO xs nn)::X.bl,ol:=ve}) (kb:=λb G1=>br b (r.ev ⟨sc,cx.b,Be⟩ V7 [(x,v)] G1 (λy KM=>match y with
    | .t y=>Ei r ⟨sc,cx.b,Be⟩ x Wt V7 l (j+1) Df KM λys' Se=>kk (ys++(y::ys')) Se
    | .FN _=> .D9 77) OT) (Ei r ⟨sc,cx.b,Be⟩ x Wt V7 l (j+1) Df G1 λzs cs=>kk (ys++zs) cs)) (ke:=OT) St' Hc ha R3 h ?_ noE
   intro σ1 b G1 s1 l1 R4 h;rcases bP h with⟨Cs,h⟩|⟨Cs,h⟩
   .rw[Lu rfl]
    refine S {X with bl:=(I,o')::(C,V3)::(D,AO xs nn)::X.bl,ol:=ve} ⟨sc,cx.b,Be⟩ (Vh sc [] C CL) V7 σ1 [(x,v)] G1 s1 _ OT _ _ Hc R4 ha h ?_ noE;intro σ2 yv W4 KM s2 l2 R5 rv h;dsimp only at h;split at h
    .rename_i t
     have R6:Ak w {X with bl:=(I,o')::(C,V3)::(D,AO xs nn)::X.bl} σ2 CL ve KM s2:=Ak.J9 (X:={X with bl:=(I,o')::(C,V3)::(D,AO xs nn)::X.bl}) (CL:=CL) (ve:=ve) R5 hl gC.2 kinds;have gD:=(Ak.RJ (X:={X with bl:=(I,o')::(C,V3)::(D,AO xs nn)::X.bl}) R6 (q:=(D,AO xs nn)) (.Do _ (.Do _ (.Jn _)))).1;have hlen':xs.A8+Df.A8+1<=5000:=by simpa [BF.RD] using N9
     refine append_at gD (λh5 hs5 hD5=> ?_) (by rw[AT.JM,Kq];omega);rw[oD] at hD5;have R7:Ak w {X with bl:=(I,o')::(C,V3)::(D,AO (xs++[W4]) (nn+1))::X.bl} σ2 CL ve KM {s2 with Dn:=h5}:=by
      have pm:∀d:EA×KJ,((I,o')::(C,V3)::d::X.bl).V8 (d::(I,o')::(C,V3)::X.bl):=λd=>AT.Qg (l₁:=[(I,o'),(C,V3)]);have a:Ak w (({X with bl:=(I,o')::(C,V3)::X.bl}:Fx).F8 (D,AO xs nn)) σ2 CL ve KM s2:=bb (X:={X with bl:=(I,o')::(C,V3)::(D,AO xs nn)::X.bl}) (pm _) R6;have b:=a.Xq (q':=(D,AO (xs++[W4]) (nn+1))) hl rfl (ao hs5.Oh) hD5 s2.Dp;exact bb (X:=({X with bl:=(I,o')::(C,V3)::X.bl}:Fx).F8 (D,AO (xs++[W4]) (nn+1))) (pm _).Hl b
     have rl2:=(rl.Ey l1).Ey l2;have rt2:Am w σ2.fz (ys++[t]) (xs++[W4]):=by
      have a:=Am.Ey (l1.CX l2).1 rt;have c:Am w σ2.fz [t] [W4]:=Am.one rv
      have:=(Ac.Le (Am.vs (σ:=σ2) a) (Am.vs (σ:=σ2) c))
      exact Ac.ts (vs:=ZW ys++ZW [t]) F4 (pG ys t)
     refine ih (l0.CX `ag) R7 rl2 ho' hN' rt2 (by simp only[AT.DE,AT.length_singleton];omega) ?_
     have:(λys' Se=>kk (ys++t::ys') Se)=λzs cs=>kk (ys++[t]++zs) cs:=by
      funext ys' Se
      simp
     rw[<-F4];exact h
    .exact(ha _ h).Dk
   .rw[Ko (by simp)]
    have R6:Ak w {X with bl:=(I,o')::(C,V3)::(D,AO xs nn)::X.bl} σ1 CL ve G1 s1:=Ak.J9 (X:={X with bl:=(I,o')::(C,V3)::(D,AO xs nn)::X.bl}) (CL:=CL) (ve:=ve) R4 hl gC.2 kinds;exact ih (l0.CX l1) R6 (rl.Ey l1) ho' hN' (Am.Ey l1.1 rt) (by simp only[AT.DW] at N9;omega) h
end
section
theorem gG (S:`e) (St':`f) (H:`g) (hl:CL.J6=X.L) (hnc:∀x,CL.PQ x≠A9 .Qc) (ha:BZ an) (R:`b s) {sc:OE} {x:Dr} (hsc:Jr sc x=Bj) {V7 Sh:D8.Ez} {px:Oz} {Wt:AT D8.Ez} {HW:Oz} {l:V} {lv:Bl} {vs:AT V} {RR:Bl->EA->Result->CW->Prop} {kk:AT T->St->An}
  (rl:Ad w σ l lv) (e:BW cs l=A9 vs) (N9:vs.A8<=5000) (h:an (Ei r ⟨sc,cx.b,Be⟩ x Wt V7 l 0 vs cs kk))
  (K7:∀σ' ts xs' nn' D C V3 mC' Kg s',σ.le σ'->Ak w {X with bl:=(C,V3)::(D,AO xs' nn')::X.bl} σ' CL ve Kg s'->NsObj V3 mC'->Am w σ'.fz ts xs'->an (kk ts Kg)->RR (.C9 D) C (.ok .next) s'):
  `a X.A (pyIter lv) (λit s₂=>`a X.A (newList []) (λW6 s₃=>`a X.A (newFunctionEnv sc CL.V4 [] [] CL.P4 BH .BH (A9 CL)) (λQM s₄=>
    `h X.A (.compStart (.Lw V7 [⟨.JV x px,Sh,Wt,0⟩] sc HW) 0 it W6 {QM with Jm:=relabel sc CL}) (RR W6 QM.J6) s₄) E s₃) E s₂) E s:=by
 obtain⟨hk,hn,hnl,hx⟩:=fm hsc;refine ko R rl e λp I oI s₂ hp ho R2=> ?_;subst hp;refine P9 (wpAny_newFunctionEnv (λy hy=>(hn y hy).1) (by intro y hy;simp at hy) (λh₁ hns₁ hsb₁=> ?_) hk);dsimp only at hns₁ hsb₁⊢;generalize hH2:s₂.Dn.Lr {Ov:= .Ds "list",LG:=BH,KA:= .KH ([]:AT Bl).E6}=H2 at hns₁ hsb₁⊢;have R3:Ak w ((X.F8 (I,oI)).F8 (s₂.Dn.KL.Id,AO [] 0)) σ CL ve cs {s₂ with Dn:=H2}:=by
  subst hH2;exact R2.Gk (q:=(s₂.Dn.KL.Id,AO [] 0)) (λb o e=>Ev.EB _ e) aq (Ev.JW _ rfl) s₂.Dp
 obtain⟨oC,gC,hN⟩:=ns_obj hns₁;have R4:Ak w (((X.F8 (I,oI)).F8 (s₂.Dn.KL.Id,AO [] 0)).F8 (H2.KL.Id,oC)) σ CL ve cs {s₂ with Dn:=h₁,Dp:=s₂.Dp+([]:AT (Dr×Bl)).A8}:=
  R3.Gk (q:=(H2.KL.Id,oC)) (λb o e=>hsb₁.Oh b o (λq=>by rw[q] at e;rw[aq] at e;cases e) (Ev.EB _ e)) aq gC _
 have R5:Ak w {X with bl:=(I,oI)::(H2.KL.Id,oC)::(s₂.Dn.KL.Id,AO [] 0)::X.bl} σ CL ve cs {s₂ with Dn:=h₁,Dp:=s₂.Dp+([]:AT (Dr×Bl)).A8}:=
  bb (X:=((X.F8 (I,oI)).F8 (s₂.Dn.KL.Id,AO [] 0)).F8 (H2.KL.Id,oC)) (AT.Qg (l₁:=[(H2.KL.Id,oC),(s₂.Dn.KL.Id,AO [] 0)])) R4
 have loop:`h X.A (.compLoop (.Lw V7 [⟨.JV x px,Sh,Wt,0⟩] sc HW) 0 (.C9 I) (.C9 s₂.Dn.KL.Id) (Vh sc [] H2.KL.Id CL)) (RR (.C9 s₂.Dn.KL.Id) H2.KL.Id) {s₂ with Dn:=h₁,Dp:=s₂.Dp+([]:AT (Dr×Bl)).A8}:=by
  refine pq (kk:=kk) (σ₀:=σ) S St' H hl hnc ha hsc (λσ' ts xs' nn' V3 mC' Kg s' l R' hN' rt h=> ?_) (Df:=vs) (j:=0) (ys:=[]) (xs:=[]) σ.G5 R5 rl ho hN (by simp[Am]) (by simpa using N9) h;exact K7 σ' ts xs' nn' _ _ V3 mC' Kg s' l R' hN' rt h
 have gI:=(Ak.RJ (X:={X with bl:=(I,oI)::(H2.KL.Id,oC)::(s₂.Dn.KL.Id,AO [] 0)::X.bl}) R5 (q:=(I,oI)) (.Jn _)).1;refine codeAny_compStart_list loop ?_;unfold HL at ho;cases hv:Cl l with
 |Bj=>
  rw[hv] at ho;exact wpAny_pyIter_tupleiter (t:=p) (i:=0) ⟨oI,gI,ho.1,ho.2⟩ loop
 |Be=>
  rw[hv] at ho;exact wpAny_pyIter_listiter (l:=p) (i:=0) ⟨oI,gI,ho.1,ho.2⟩ loop
theorem ig {CL:Qp} {sc:OE} (hn:∀x,CL.PQ x=sc.Lb.H6 x) (h:Iv sc=Bj):∀x,CL.PQ x≠A9 .Qc:=λx e=>by
 rw[hn] at e;have Qt:∀{l:AT (Dr×Ln)},l.H6 x=A9 .Qc->l.VG (λp=> !Gr p.2)=Bj->Re:=by
  intro l
  induction l with
  |HU=>intro e;cases e
  |Dc p l ih=>
   intro e h;obtain⟨k,v⟩:=p;rw[AT.RU,CV.DG] at h;rw[AT.RY] at e;split at e
   .cases e;exact CV.JT h.1
   .exact ih e h.2
 exact Qt e h
theorem wS {V7:D8.Ez} {N8:AT Pq} {sc:OE} (ha:BZ an) (h:an (Pv r cx V7 N8 sc ve cs k ke)) {q:AT Pq->Prop}
  (kk:∀x px Sh Wt,cx.top=Bj->Gj Sh=Bj->Jr sc x=Bj->Iv cx.sc=Bj->
   an (r.ev cx Sh ve cs (λl G1=>AA (BW G1 l) 99 λvs=>br (BF.Ls vs.A8 Af) (Ei r ⟨sc,cx.b,Be⟩ x Wt V7 l 0 vs G1 λys KM=>LH (.Dg (ZW ys)) KM k) (.D9 94)) ke)->q [⟨.JV x px,Sh,Wt,0⟩]):q N8:=by
 unfold Pv at h;cases e1:CR N8 with
 |BH=>rw[e1] at h;exact(ha _ h).Dk
 |A9 g=>
 rw[e1] at h;dsimp only at h;cases e2:BJ g.P5 with
 |BH=>rw[e2] at h;exact(ha _ h).Dk
 |A9 x=>
 rw[e2] at h;refine am ha h λhb h=> ?_;simp only[CV.DG] at hb;obtain⟨t,Sh,Wt,as_⟩:=g;refine bQ e1 (aZ (q:=λt=>q [⟨t,Sh,Wt,as_⟩]) e2 λpx=> ?_);have e3:as_=0:=lZ.mp hb.1;subst e3;exact kk x px Sh Wt hb.2.1.1.1 hb.2.1.1.2 hb.2.1.2 hb.2.2 h
theorem ie {oC:KJ} {mC:Dr->Bq Bl} (hN:NsObj oC mC) {h:Ev} {C:EA} (e:h.D7 C=A9 oC):h.Ns C mC:=hN.ns e
theorem eT (S:`e) (St':`f) (H:`g) (R:`b s) {V7:D8.Ez} {N8:AT Pq} {sc:OE} {HW:Oz} (ha:BZ an) (h:an (Pv r cx V7 N8 sc ve cs k ke)) {Q:Bl->CW->Prop} (hQ:`l) (hE:`k):
  `a X.A (Oc (.Lw V7 N8 sc HW) CL) Q E s:=by
 refine wS (q:=λN8=>`a X.A (Oc (.Lw V7 N8 sc HW) CL) Q E s) ha h λx px Sh Wt ht hs hsc hnc0 h=> ?_;have hnc:=ig H.e.hn hnc0;obtain⟨hk,hn,hnl,hx⟩:=fm hsc;have hl:=H.e.own ht;rw[eval_ListComp];refine wpAny_comprehension_free (use:=BH) rfl (gw hs) (eU hn CL) hk hnl (S X cx CL Sh σ ve cs s _ ke _ E H R ha h ?_ hE);intro σ1 l lv G1 s1 l1 R1 rl h;refine ab ha h λvs e h=> ?_;refine am ha h λhb h=> ?_;refine gG (RR:=λW6 C=>compPost `t X.A E BH Q W6 C) S St' H hl hnc ha R1 hsc rl e (BF.Lx.mp hb) h ?_;intro σ' ts xs' nn' D C V3 mC' Kg s' l2 R2 hN' rt h
 have gC:=(Ak.RJ (X:={X with bl:=(C,V3)::(D,AO xs' nn')::X.bl}) R2 (q:=(C,V3)) (.Jn _)).1;refine⟨mC',ie hN' gC,λh' hs'=> ?_⟩;have R3:Ak w (X.F8 (D,AO xs' nn')) σ' CL ve Kg {s' with Dn:=h'}:=Ak.F3 (X:=X.F8 (D,AO xs' nn')) (q:=(C,V3)) R2 hl (ao hs'.Oh) s'.Dp;have R4:=R3.cellB hl (p:=(D,D)) (c:= .Dg `aB) ⟨xs',nn',Cs,(Am.vs (σ:=σ') rt).Ey (σ'.Si _)⟩;obtain⟨⟨m,ml,G2,q⟩,_⟩:=R3;exact hQ _ _ _ _ _ (l1.CX (l2.CX (σ'.Si _))) R4 (dh q.J2 _) h
theorem jM (S:`e) (St':`f) (H:`g) (O:DC X CL) (R:`b s) {y:Dr} {py:Oz} {V7:D8.Ez} {N8:AT Pq} {sc:OE} {HW spos:Oz} {kn:KN} (ha:BZ an) (h:an (Pv r cx V7 N8 sc ve cs (λv G1=>FD cx y v ve G1 kn) ke))
  {Q:Rb->CW->Prop} (hN:`q) (hE:`k):`a X.A (Rq (.QS [.JV y py] (.Lw V7 N8 sc HW) spos) CL) Q E s:=by
 have hsw:∃b,swapsWith (.Lw V7 N8 sc HW) (A9 (.JV y py)) spos.line CL=Kp b:=⟨_,Cs⟩;obtain⟨b,hsw⟩:=hsw;cases b with
 |Be=>
  refine wpAny_Assign_Name (eT S St' H R ha h ?_ hE) hsw;intro σ1 v y G1 s1 l1 R1 rv h;exact dq H O R1 ha rv h λσ2 ve2 KM s2 l2 R2 h=>hN σ2 ve2 KM s2 `ag R2 h
 |Bj=>
  revert hsw;refine wS (q:=λN8=>swapsWith (.Lw V7 N8 sc HW) (A9 (.JV y py)) spos.line CL=Kp Bj->`a X.A (Rq (.QS [.JV y py] (.Lw V7 N8 sc HW) spos) CL) Q E s) ha h λx px Sh Wt ht hs hsc hnc0 h hsw=> ?_;have hnc:=ig H.e.hn hnc0;obtain⟨hk,hn,hnl,hx⟩:=fm hsc;have hl:=O.ll;rw[exec_Assign_Name_used _ _ _ _ hsw];refine Ch (Kx (Ch ?_));show Ic _ X.A (do let _ <-comprehension (.Lw V7 [⟨.JV x px,Sh,Wt,0⟩] sc HW) sc CL _ (newList []) Be (Oc Sh CL) (A9 (PN (.JV y py) CL))) _ _ s;refine Ch (Ho (wpAny_comprehension_free (use:=A9 (PN (.JV y py) CL)) (Q:=λ_ s'=>Q .next s') rfl (gw hs) (eU hn CL) hk hnl
   (S X cx CL Sh σ ve cs s _ ke _ E H R ha h ?_ hE)) (λ_ s' hq=>De (De hq)) λ_ _ e=>e)
  intro σ1 l lv G1 s1 l1 R1 rl h;refine ab ha h λvs e h=> ?_;refine am ha h λhb h=> ?_;refine gG (RR:=λW6 C=>compPost `t X.A E (A9 (PN (.JV y py) CL)) (λ_ s'=>Q .next s') W6 C) S St' H hl hnc ha R1 hsc rl e (BF.Lx.mp hb) h ?_;intro σ' ts xs' nn' D C V3 mC' Kg s' l2 R2 hN' rt h;show Ic _ X.A (PN (.JV y py) CL (.C9 D)) _ _ _;have R3:Ak w (({X with bl:=(C,V3)::X.bl}:Fx).F8 (D,AO xs' nn')) σ' CL ve Kg s':=bb (X:={X with bl:=(C,V3)::(D,AO xs' nn')::X.bl}) `as R2;have R4:=R3.cellB hl (p:=(D,D)) (c:= .Dg `aB) ⟨xs',nn',Cs,(Am.vs (σ:=σ') rt).Ey (σ'.Si _)⟩
  have rD:Ad w (σ'.VS (D,D)) (.FN Kg.A8) (.C9 D):=by
   obtain⟨⟨m,ml,G2,q⟩,_⟩:=R3;exact dh q.J2 _
  refine VA (dq (X:={X with bl:=(C,V3)::X.bl}) (H.withL _) (O.withL _) R4 ha rD h λσ2 ve2 KM s2 l3 R5 h=> ?_);have gC:=(Ak.RJ (X:={X with bl:=(C,V3)::X.bl}) R5 (q:=(C,V3)) (.Jn _)).1;refine⟨mC',ie hN' gC,λh' hs'=> ?_⟩;have R6:Ak w X σ2 CL ve2 KM {s2 with Dn:=h'}:=Ak.F3 (X:=X) (q:=(C,V3)) R5 hl (ao hs'.Oh) s2.Dp;exact hN σ2 ve2 KM _ (l1.CX (l2.CX ((σ'.Si _).CX l3))) R6 h
end
end Internal
namespace Internal
open PySem PySem.W PyProof.Rows PySem.Calls PySem.SeqAt
variable {w:FX} {FZ:Kt} {K:Lo} {G:DM} {r:IL} {n:BF} {X:Fx} {cx:Cx} {CL:Qp} {σ:Sg} {ve:Ag} {cs:St} {s:CW} {k:KV} {ke:PL.KX} {an:An->Prop} {E:Bl->CW->Prop} {kn:KN} {kr:KV} {h:Ev} {h':Ev} {m:Dr->Bq Bl} {ml:Dr->Bq Bl} {G2:AT BR} {A:Ke}
section
variable {q q':EA×KJ} {l1 l2:BR}
theorem Ak.WS (R:Ak w {X with bl:=l1++q::l2} σ CL ve cs s) (hl:CL.J6=X.L) (hq:q'.1=q.1) (hk:∀b o,b≠q.1->s.Dn.D7 b=A9 o->h'.D7 b=A9 o) (h2:h'.D7 q'.1=A9 q'.2) (tk:BF):Ak w {X with bl:=l1++q'::l2} σ CL ve cs {s with Dn:=h',Dp:=tk}:=by
 have a:Ak w (({X with bl:=l1++l2}:Fx).F8 q) σ CL ve cs s:=bb (X:={X with bl:=l1++q::l2}) AT.Qg R;have b:=a.Xq (q':=q') hl hq hk h2 tk;exact bb (X:=({X with bl:=l1++l2}:Fx).F8 q') AT.Qg.Hl b
theorem fg {it t:EA} {i:BF} {Ly:KU Bl} {x:Bl} {Q:Bl->CW->Prop} (hit:s.Dn.IsTupleIter it t i) (ht:s.Dn.IsTuple t Ly) (hx:Ly[i]?=A9 x)
  (hQ:∀h',h'.IsTupleIter it t (i+1)->Ev.Qq it s.Dn h'->Q x {s with Dn:=h'}):`a A (Kj.PA.nextOf (.C9 it)) Q E s:=by
 obtain⟨o,ho,hc,hd⟩:=id hit;obtain⟨ol,hol,_,nl,hdl⟩:=ht;unfold Kj.PA.nextOf;refine Ch (Q8 (F6:=Dr.WH "__next__") hit.VK F.PD (VZ F.PD hit.VK F.entry_tuple_iterator_next ?_ (F.args_tuple_iterator_next_1 _)));show Ic _ _ (Vx (.C9 it) 0>>=_) _ _ s;refine Ch (Lg ho hd (x:= .C9 t) rfl ?_);show Ic _ _ (if(Bl.C9 t==Bl.BH)=Bj then _ else _) _ _ s;rw[Ko (show¬((Bl.C9 t==Bl.BH)=Bj) from CV.Ki)];show Ic _ _ (Vx (.C9 it) 1>>=_) _ _ s
 refine Ch (Lg ho hd (x:= .D4 i 0) rfl ?_);show Ic _ _ (RH (.C9 t)>>=_) _ _ s;refine Ch (Ot hol hdl ?_);simp only[Dt.toNat_natCast,hx];refine Ch (Vi ho hd (by simp) (De ⟨x,Cs,De (hQ _ ?_ (Ev.Qq.KO ..))⟩));exact⟨_,Ev.Ku _ ho (KJ.VB (KJ.Vj hd _)),(KJ.cls_mapFields ..).CX hc,by rw[KJ.Vj hd];simp[Os]⟩
theorem fZ {it t:EA} {i:BF} {Ly:KU Bl} {Q:Bl->CW->Prop} (hh:A.OA=BH) (hit:s.Dn.IsTupleIter it t i) (ht:s.Dn.IsTuple t Ly) (hx:Ly[i]?=BH)
  (hE:∀h' e,Ev.ExtBut it s.Dn h'->(∃o,h'.D7 e=A9 o/\o.Ov= .Ds "StopIteration")->E (.C9 e) {s with Dn:=h'}):`a A (Kj.PA.nextOf (.C9 it)) Q E s:=by
 obtain⟨o,ho,hc,hd⟩:=id hit;obtain⟨ol,hol,_,nl,hdl⟩:=ht;unfold Kj.PA.nextOf;refine Ch (Q8 (F6:=Dr.WH "__next__") hit.VK F.PD (VZ F.PD hit.VK F.entry_tuple_iterator_next ?_ (F.args_tuple_iterator_next_1 _)));show Ic _ _ (Vx (.C9 it) 0>>=_) _ _ s;refine Ch (Lg ho hd (x:= .C9 t) rfl ?_);show Ic _ _ (if(Bl.C9 t==Bl.BH)=Bj then _ else _) _ _ s;rw[Ko (show¬((Bl.C9 t==Bl.BH)=Bj) from CV.Ki)];show Ic _ _ (Vx (.C9 it) 1>>=_) _ _ s
 refine Ch (Lg ho hd (x:= .D4 i 0) rfl ?_);show Ic _ _ (RH (.C9 t)>>=_) _ _ s;refine Ch (Ot hol hdl ?_);simp only[Dt.toNat_natCast,hx];refine Ch (wpAny_rule (Ch (Vi ho hd (by simp) ?_)));show Ic _ _ (newExc (.Ds "StopIteration") []>>=_) _ _ _;refine Ch ?_;simp only[newExc,newTuple];refine Ch (P9 ?_ (by size_fits));refine Ch (m:=firstArgMember _ _) (wpAny_of_eq (a:=Bl.BH) (by first|rfl|(simp only[firstArgMember];rfl)) ?_);refine P9 ?_ (by size_fits);unfold raiseNew
 refine Ch (wpAny_handled ?_)
 first|rw[show A.in1.OA=BH from hh]|rw[hh]
 refine Ch (De (wpAny_throw ?_));exact hE _ _ (((Ev.Qq.KO ..).Oh.Lr _).Lr _) ⟨_,Ev.JW _ rfl,Cs⟩
theorem ii (hh:A.OA=BH) (hl:CL.J6=X.L) {I p:EA} {o:KJ} {l:V} {vs:AT V} {j:BF} (R:Ak w {X with bl:=l1++(I,o)::l2} σ CL ve cs s) (rl:Ad w σ l (.C9 p)) (ho:HL (Cl l) o p j) (e:BW cs l=A9 vs) {Qo:Bl->CW->Prop}
  (hN:J7 vs j=BH->∀s' ev,Ak w {X with bl:=l1++l2} σ CL ve cs s'->(∃o,s'.Dn.D7 ev=A9 o/\o.Ov= .Ds "StopIteration")->E (.C9 ev) s') (hS:∀v,J7 vs j=A9 v->∀y o' s',Ad w σ v y->Ak w {X with bl:=l1++(I,o')::l2} σ CL ve cs s'->HL (Cl l) o' p (j+1)->Qo y s'):
  `a A (Kj.PA.nextOf (.C9 I)) Qo E s:=by
 obtain⟨p',xs,e1,r1,r2⟩:=cJ R.1 rl e;cases e1;have hI:=(Ak.RJ (X:={X with bl:=l1++(I,o)::l2}) R (q:=(I,o)) (AT.Kc _ (.Jn _))).1;have a:Ak w (({X with bl:=l1++l2}:Fx).F8 (I,o)) σ CL ve cs s:=bb (X:={X with bl:=l1++(I,o)::l2}) AT.Qg R;have dr:∀{h'},Ev.ExtBut I s.Dn h'->Ak w {X with bl:=l1++l2} σ CL ve cs {s with Dn:=h'}:=λhe=>a.F3 hl (ao he) s.Dp;rcases r2 with⟨ts,Cs,_,g⟩|⟨e3,n',g⟩
 .have ht:s.Dn.IsTuple p xs.E6:=⟨_,g,Cs,0,Cs⟩
  have hit:s.Dn.IsTupleIter I p j:=⟨o,hI,ho.1,ho.2⟩;cases hv:J7 vs j with
  |BH=>exact fZ hh hit ht (by simpa using r1.BH hv) λh' ev he hs=>hN hv _ ev (dr he) hs
  |A9 v=>
   obtain⟨y,g1,g2⟩:=r1.J7 hv;refine fg hit ht (x:=y) (by simpa using g1) λh' hit' hs=> ?_;obtain⟨o',ho',hc,hd⟩:=hit';exact hS v hv y o' _ g2 (R.WS (q':=(I,o')) hl rfl (ao hs.Oh) ho' s.Dp) ⟨hc,hd⟩
 .have hnt:Cl l=Be:=dX e3
  have ht:=ae g;rw[hnt] at ho;have hit:s.Dn.IsListIter I p j:=⟨o,hI,ho.1,ho.2⟩;cases hv:J7 vs j with
  |BH=>exact wpAny_nextOf_list_end hh hit ht (by simpa using r1.BH hv) λh' ev he hs=>hN hv _ ev (dr he) hs
  |A9 v=>
   obtain⟨y,g1,g2⟩:=r1.J7 hv;refine wpAny_nextOf_list_item hit ht (x:=y) (by simpa using g1) λh' hit' hs=> ?_;obtain⟨o',ho',hc,hd⟩:=hit';exact hS v hv y o' _ g2 (R.WS (q':=(I,o')) hl rfl (ao hs.Oh) ho' s.Dp) (by rw[hnt];exact⟨hc,hd⟩)
end
def CE (f0:Bl) (TI TO:EA):KJ:={Ov:= .Ds "zip",LG:=BH,KA:= .J5 #[f0,.G6 Be,.G6 Be,.C9 TI,.C9 TO],slots:= #[]}
def BQ (a b:Bl):KJ:={Ov:= .Ds "tuple",KA:= .KH #[a,b]}
def Fx.Vl (X:Fx) (z TI TO i1 i2:EA) (f0 a b:Bl) (o1 o2:KJ):Fx:={X with bl:=(z,CE f0 TI TO)::(TI,BQ (.C9 i1) (.C9 i2))::(TO,BQ a b)::(i1,o1)::(i2,o2)::X.bl}
section
theorem di:∀{l:BR} {X:Fx} {s:CW},Ak w {X with bl:=l++X.bl} σ CL ve cs s->CL.J6=X.L->`b s
 |[],X,s,R,hl=>R
 |q::l,X,s,R,hl=>by
  have a:Ak w (({X with bl:=l++X.bl}:Fx).F8 q) σ CL ve cs s:=R;exact di (l:=l) (a.drop0 hl) hl
theorem pM (hh:A.OA=BH) (hl:CL.J6=X.L) {z TI TO i1 i2 p1 p2:EA} {a b:Bl} {o1 o2:KJ} {ts:AT T} {l:V} {vs:AT V} {j:BF} (R:Ak w (X.Vl z TI TO i1 i2 .BH a b o1 o2) σ CL ve cs s) (r1:Ad w σ (.t (.Ld ts)) (.C9 p1)) (h1:HL Bj o1 p1 j) (r2:Ad w σ l (.C9 p2)) (h2:HL (Cl l) o2 p2 j) (e:AX cs l=A9 vs)
  (hT:∀x v,J7 ts j=A9 x->J7 vs j=A9 v->∃y,v= .t y) {Qo:Bq Bl->CW->Prop}
  (hN:J7 ts j=BH\/J7 vs j=BH->∀s',`b s'->Qo BH s')
  (hS:∀x y,J7 ts j=A9 x->J7 vs j=A9 (.t y)->∀(T:EA) y1 y2 o1' o2' s',HL Bj o1' p1 (j+1)->HL (Cl l) o2' p2 (j+1)->Ak w (X.Vl z TI TO i1 i2 (Os T) y1 y2 o1' o2') (σ.add (T,DX [y1,y2])) CL ve cs s'->Ad w (σ.add (T,DX [y1,y2])) (.t (.Ld [x,y])) (.C9 T)->Qo (A9 (.C9 T)) s'):
  `a A (pyNext (.C9 z)) Qo E s:=by
 have gz:s.Dn.D7 z=A9 (CE .BH TI TO):=(Ak.RJ R (q:=(z,_)) (.Jn _)).1;have hz:IsZip s.Dn z TI TO .BH:=gz;have hTI:IsPair s.Dn TI (.C9 i1) (.C9 i2):=(Ak.RJ R (q:=(TI,_)) (.Do _ (.Jn _))).1;have hTO:IsPair s.Dn TO a b:=(Ak.RJ R (q:=(TO,_)) (.Do _ (.Do _ (.Jn _)))).1;have hTz:s.Xg (.C9 z) "zip":=⟨_,hz,Cs⟩;have e1:BW cs (.t (.Ld ts))=A9 `aB:=rfl;have e2:BW cs l=A9 vs:=u1 e;have nthT:∀{ts:AT T} {j:BF},J7 `aB j=(J7 ts j).FW .t:=λ{ts j}=>by
  induction ts generalizing j with
  |HU=>rfl
  |Dc t ts ih=>cases j with
   |Xb=>rfl
   |Ww j=>exact ih
 unfold pyNext;refine Ch (wpAny_attempt (Q8 (F6:=Dr.WH "__next__") hTz F.slot_zip_next (VZ F.slot_zip_next hTz F.entry_zip_next ?_ (F.args_zip_next_1 _))));show Ic _ _ (Vx (.C9 z) 2>>=_) _ _ _;refine Ch (Lg hz rfl (x:= .G6 Be) rfl ?_);show Ic _ _ (Vx (.C9 z) 3>>=_) _ _ _;refine Ch (Lg hz rfl (x:= .C9 TI) rfl ?_);refine Ch (Ot hTI rfl ?_);show Ic _ _ (Kj.PA.ownedTupleIsFree (.C9 z)>>=_) _ _ _;refine Ch ?_;unfold Kj.PA.ownedTupleIsFree
 refine Ch (Lg hz rfl (x:= .BH) rfl (De ?_));refine wpAny_ite_true rfl ?_;refine Ch (wpAny_rule ?_);refine Ch (Lg hz rfl (x:= .C9 TO) rfl ?_);refine Ch (QX hz (by simp) λg₁ hz₁ hs₁=> ?_);have R1:Ak w (X.Vl z TI TO i1 i2 .Oo a b o1 o2) σ CL ve cs {s with Dn:=g₁}:=Ak.WS (l1:=[]) (X:=X) (q:=(z,CE .BH TI TO)) (q':=(z,CE .Oo TI TO)) R hl rfl (ao hs₁.Oh) hz₁ s.Dp;refine Ch ?_;simp only[AT.zipIdx_cons,AT.zipIdx_nil,AT.QV,AT.forIn_nil];have stop:∀{s':CW} {ev:EA} {l':BR} {f:Bl},(J7 ts j=BH\/J7 vs j=BH)->Ak w {X with bl:=(z,CE f TI TO)::(l'++X.bl)} σ CL ve cs s'->(∃o,s'.Dn.D7 ev=A9 o/\o.Ov= .Ds "StopIteration")->∀{A':Ke} {E':Bl->CW->Prop},`a A' (Vf (.C9 z) 0 .BH) (λ_ Sk=>`a A (do if <-RK (.C9 ev) (.Ds "StopIteration") then Kp BH else throw (Bl.C9 ev)) Qo E Sk) E' s':=λ{s' ev l' f} hn R' hs {A' E'}=>by
  have gz':IsZip s'.Dn z TI TO f:=(Ak.RJ (X:={X with bl:=(z,CE f TI TO)::(l'++X.bl)}) R' (q:=(z,CE f TI TO)) (.Jn _)).1;obtain⟨o,ho,hc⟩:=hs;refine QX gz' (by simp) λg hz' hs'=>Ch (wpAny_isInstance (T:="StopIteration") (b:=Bj) ⟨o,hs'.Oh _ _ (λq=> ?_) ho,hc⟩ isSubtype_stop (De (hN hn _ ?_)))
  .rw[q,gz'] at ho;cases ho;simp at hc
  .have R'':Ak w {X with bl:=(z,CE .BH TI TO)::(l'++X.bl)} σ CL ve cs {s' with Dn:=g}:=Ak.WS (l1:=[]) (X:=X) (q:=(z,CE f TI TO)) (q':=(z,CE .BH TI TO)) R' hl rfl (ao hs'.Oh) hz' s'.Dp
   exact di (l:=(z,CE .BH TI TO)::l') R'' hl
 refine Ch (Ch (wpAny_onRaise ?_));show Ic _ _ (Kj.PA.nextOf (.C9 i1)>>=_) _ _ _;refine Ch (ii (FZ:=FZ) (A:=A.in1) (X:=X) (l1:=[(z,CE .Oo TI TO),(TI,BQ (.C9 i1) (.C9 i2)),(TO,BQ a b)]) (l2:=(i2,o2)::X.bl) (o:=o1) (l:= .t (.Ld ts)) (p:=p1) (j:=j) hh hl R1 r1 h1 e1 (λhn s' ev R' hs=> ?_) λv hv y1 o1' s2 ry1 R2 h1'=>De ?_)
 .have hn':J7 ts j=BH:=by
   rw[nthT] at hn;cases q:J7 ts j with
   |BH=>rfl
   |A9 x=>rw[q] at hn;cases hn
  exact stop (l':=[(TI,BQ (.C9 i1) (.C9 i2)),(TO,BQ a b),(i2,o2)]) (.HX hn') R' hs
 .have hv':∃x,J7 ts j=A9 x/\v= .t x:=by
   rw[nthT] at hv;cases q:J7 ts j with
   |BH=>rw[q] at hv;cases hv
   |A9 x=>rw[q] at hv;cases hv;exact⟨x,Cs,Cs⟩
  obtain⟨x,hx,Cs⟩:=hv';have hTO₂:IsPair s2.Dn TO a b:=(Ak.RJ R2 (q:=(TO,BQ a b)) (.Do _ (.Do _ (.Jn _)))).1;refine Ch (Ot hTO₂ rfl ?_);refine Ch (wpAny_updateSeq_pair hTO₂ λg₃ hTO₃ hs₃=> ?_)
  replace hTO₃:g₃.D7 TO=A9 (BQ y1 b):=hTO₃
  have R3:Ak w (X.Vl z TI TO i1 i2 .Oo y1 b o1' o2) σ CL ve cs {s2 with Dn:=g₃}:=Ak.WS (l1:=[(z,CE .Oo TI TO),(TI,BQ (.C9 i1) (.C9 i2))]) (l2:=(i1,o1')::(i2,o2)::X.bl) (X:=X) (q:=(TO,BQ a b)) (q':=(TO,BQ y1 b)) R2 hl rfl (ao hs₃.Oh) hTO₃ s2.Dp;refine Ch (wpAny_letGo (De ?_));refine Ch (Ch (wpAny_onRaise ?_));show Ic _ _ (Kj.PA.nextOf (.C9 i2)>>=_) _ _ _;refine Ch (ii (FZ:=FZ) (A:=A.in1) (X:=X) (l1:=[(z,CE .Oo TI TO),(TI,BQ (.C9 i1) (.C9 i2)),(TO,BQ y1 b),(i1,o1')]) (l2:=X.bl) (o:=o2) (l:=l) (p:=p2) (j:=j) hh hl R3 r2 h2 e2 (λhn s' ev R' hs=> ?_) λv hv y2 o2' s4 ry2 R4 h2'=>De ?_)
  .exact stop (l':=[(TI,BQ (.C9 i1) (.C9 i2)),(TO,BQ y1 b),(i1,o1')]) (.G4 hn) R' hs
  .obtain⟨yv,Cs⟩:=hT x v hx hv
   have hTO₄:IsPair s4.Dn TO y1 b:=(Ak.RJ R4 (q:=(TO,BQ y1 b)) (.Do _ (.Do _ (.Jn _)))).1;refine Ch (Ot hTO₄ rfl ?_);refine Ch (wpAny_updateSeq_pair hTO₄ λg₅ hTO₅ hs₅=> ?_)
   replace hTO₅:g₅.D7 TO=A9 (BQ y1 y2):=hTO₅
   have R5:Ak w (X.Vl z TI TO i1 i2 .Oo y1 y2 o1' o2') σ CL ve cs {s4 with Dn:=g₅}:=Ak.WS (l1:=[(z,CE .Oo TI TO),(TI,BQ (.C9 i1) (.C9 i2))]) (l2:=(i1,o1')::(i2,o2')::X.bl) (X:=X) (q:=(TO,BQ y1 b)) (q':=(TO,BQ y1 y2)) R4 hl rfl (ao hs₅.Oh) hTO₅ s4.Dp;refine Ch (wpAny_letGo (De (De ?_)));refine Ch (Ot hTO₅ rfl ?_);refine Ch (wpAny_newTuple ?_);have R6:Ak w (X.Vl z TI TO i1 i2 .Oo y1 y2 o1' o2') (σ.add (g₅.KL.Id,DX [y1,y2])) CL ve cs {s4 with Dn:=g₅.Lr {Ov:= .Ds "tuple",KA:= .KH #[y1,y2]}}:=⟨R5.1.add (λb o e=>Ev.EB _ e) (Ev.JW _ rfl) aq,R5.2⟩
   show Ic _ _ (Kj.PA.ownedTupleHandOut (.C9 z) (.C9 g₅.KL.Id)>>=_) _ _ _;refine Ch ?_;unfold Kj.PA.ownedTupleHandOut;have hz₆:IsZip (g₅.Lr {Ov:= .Ds "tuple",KA:= .KH #[y1,y2]}) z TI TO .Oo:=(Ak.RJ R6 (q:=(z,CE .Oo TI TO)) (.Jn _)).1;refine Ch (QX hz₆ (by simp) λg₇ hz₇ hs₇=> ?_)
   replace hz₇:IsZip g₇ z TI TO (Os g₅.KL.Id):=hz₇
   refine QX hz₇ (by simp) λg₈ hz₈ hs₈=> ?_
   replace hz₈:g₈.D7 z=A9 (CE (Os g₅.KL.Id) TI TO):=hz₈
   have R8:Ak w (X.Vl z TI TO i1 i2 (Os g₅.KL.Id) y1 y2 o1' o2') (σ.add (g₅.KL.Id,DX [y1,y2])) CL ve cs {s4 with Dn:=g₈}:=Ak.WS (l1:=[]) (X:=X) (q:=(z,CE .Oo TI TO)) (q':=(z,CE (Os g₅.KL.Id) TI TO)) R6 hl rfl (λb o hb e=>hs₈.Oh _ _ hb (hs₇.Oh _ _ hb e)) hz₈ s4.Dp;refine De ⟨_,Cs,De (hS x yv hx hv g₅.KL.Id y1 y2 o1' o2' _ h1' h2' R8 ?_)⟩;have le:=σ.Vc (g₅.KL.Id,DX [y1,y2]);exact Ah.Ld (.Jn _) (pJ (Ah.Ey le.1 ry1) (Ah.Ey le.1 ry2))
end
set_option backward.match.sparseCases false
section
variable (w:FX) (FZ:Kt)
def JK (K:Lo) (n:BF) (an:An->Prop) (fp:Cx->D8.Ez->AT IQ->AT T->V->BF->Ag->St->KN->KV->KX->An):Prop:=
 ∀X cx CL t G0 ts l p1 p2 z TI TO i1 i2 a b o1 o2 j σ ve cs s kn kr ke Q E,`g->DC X CL->IB t=Bj->Ak w (X.Vl z TI TO i1 i2 .BH a b o1 o2) σ CL ve cs s->Ad w σ (.t (.Ld ts)) (.C9 p1)->HL Bj o1 p1 j->Ad w σ l (.C9 p2)->HL (Cl l) o2 p2 j->BZ an->an (fp cx t G0 ts l j ve cs kn kr ke)->
  `q->CD w X σ CL kr an Q->(∀ve,`k)->Om `t X.A CL E->E2 FZ w X.A E CL t (.C9 z) G0 Q s
end
section
variable {Q:Rb->CW->Prop}
theorem iu {c:BF} {wv av:V} {e:Bl} {l:BR} {X:Fx}:Ep w {X with bl:=l++X.bl} σ CL ve c wv av cs e s->Ep w X σ CL ve c wv av cs e s:=by
 induction l with
 |HU=>exact id
 |Dc q l ih=>exactλx=>ih (d7 (X:={X with bl:=l++X.bl}) (q:=q) x)
theorem zW (SX:FM w FZ K n an r.ex) (SF:JK w FZ K n an r.fp):JK w FZ K n an (XS r):=by
 intro X cx CL t G0 ts l p1 p2 z TI TO i1 i2 a b o1 o2 j σ ve cs s kn kr ke Q E H O hT R r1 h1 r2 h2 ha h hN hR hE hP;unfold XS at h;refine ab ha h λvs e h=> ?_;refine d5 hP (pM H.x.hh O.ll R r1 h1 r2 h2 e (λx v hx hv=> ?_) (λhn s' R'=> ?_) λx y hx hy T y1 y2 o1' o2' s' h1' h2' R' rT=> ?_)
 .rw[hx,hv] at h
  cases v with
  |t y=>exact⟨y,Cs⟩
  |FN i=>exact(ha _ h).Dk
 .have h:an (kn ve cs):=by
   rcases hn with hn|hn
   .rw[hn] at h;exact h
   .cases hx:J7 ts j with
    |BH=>rw[hx] at h;exact h
    |A9 x=>rw[hx,hn] at h;exact h
  exact hN σ ve cs s' σ.G5 R' h
 .rw[hx,hy] at h
  dsimp only at h;have le:=σ.Vc (T,DX [y1,y2]);have hz:IsZip s'.Dn z TI TO (Os T):=(Ak.RJ R' (q:=(z,CE (Os T) TI TO)) (.Jn _)).1;have go:∀{Qu:LI->CW->Prop},(∀h',IsZip h' z TI TO .BH->Ev.Qq z s'.Dn h'->Qu LI.Qe {s' with Dn:=h'})->`a X.A (QQ t (.C9 z) (.C9 T)) Qu E s':=λhq=>by
   cases t<;>first|(exact wpAny_letOwnedTupleGo_zip hz hq)|(cases hT)
  refine go λg hz' hs'=> ?_;have R1:Ak w (X.Vl z TI TO i1 i2 .BH y1 y2 o1' o2') (σ.add (T,DX [y1,y2])) CL ve cs {s' with Dn:=g}:=Ak.WS (l1:=[]) (X:=X) (q:=(z,CE (Os T) TI TO)) (q':=(z,CE .BH TI TO)) R' O.ll rfl (ao hs'.Oh) hz' s'.Dp;have H1:AB K n (X.Vl z TI TO i1 i2 .BH y1 y2 o1' o2') cx CL:=H.withL _;have O1:DC (X.Vl z TI TO i1 i2 .BH y1 y2 o1' o2') CL:=O.withL _;have dA:∀{σ':Sg} {Qk:Ag} {Kg:St} {s':CW},Ak w (X.Vl z TI TO i1 i2 .BH y1 y2 o1' o2') σ' CL Qk Kg s'->Ak w X σ' CL Qk Kg s':=λr=>di (l:=[(z,CE .BH TI TO),(TI,BQ (.C9 i1) (.C9 i2)),(TO,BQ y1 y2),(i1,o1'),(i2,o2')]) r O.ll
  refine qc (X:=X.Vl z TI TO i1 i2 .BH y1 y2 o1' o2') H1 O1 R1 ha rT h λσ2 ve2 KM s2 l2 R2 h=> ?_;refine SX (X.Vl z TI TO i1 i2 .BH y1 y2 o1' o2') cx CL G0 σ2 ve2 KM s2 _ kr ke (FV FZ w X.A E CL t (.C9 z) G0 Q) E H1 O1 R2 ha h ?_ ?_ ?_ hP
  .intro σ3 ve3 Se Z4 l3 R3 h
   have l4:=le.CX `an;exact SF X cx CL t G0 ts l p1 p2 z TI TO i1 i2 y1 y2 o1' o2' (j+1) σ3 ve3 Se Z4 kn kr ke Q E H O hT R3 (r1.Ey l4) h1' (r2.Ey l4) h2' ha h (hN.Ey l4) (hR.Ey l4) (λve=>(hE ve).Ey l4) hP
  .intro σ3 ve3 v3 x3 Se Z4 l3 R3 rv3 h
   exact hR σ3 ve3 v3 x3 Se Z4 (le.CX `an) (dA R3) rv3 h
  .intro ve3 σ3 c wv av Se e3 Z4 l3 hx h
   exact hE ve3 σ3 c wv av Se e3 Z4 (le.CX `an) (iu (l:=[(z,CE .BH TI TO),(TI,BQ (.C9 i1) (.C9 i2)),(TO,BQ y1 y2),(i1,o1'),(i2,o2')]) hx) h
abbrev Jq (h:Ev) (l1:EA):Ev:=h.Lr {Ov:= .Ds "tuple_iterator",KA:= .J5 #[.C9 l1,.D4 0 0]}
abbrev Ih (h:Ev) (l1 l2:EA):Ev:=(Jq h l1).Lr {Ov:= .Ds "list_iterator",KA:= .J5 #[.C9 l2,.D4 0 0]}
abbrev Ig (h:Ev) (l1 l2:EA):Ev:=(Ih h l1 l2).Lr (BQ (.C9 h.KL.Id) (.C9 (Jq h l1).KL.Id))
abbrev Jp (h:Ev) (l1 l2:EA):Ev:=(Ig h l1 l2).Lr (BQ .BH .BH)
abbrev ON (h:Ev) (l1 l2:EA):Ev:=(Jp h l1 l2).Lr (CE .BH (Ih h l1 l2).KL.Id (Ig h l1 l2).KL.Id)
theorem i8 (l1 l2:EA) (xs ys:KU Bl):
  Meets (Kj.«zip.__new__» ⟨[.Ds "zip",.C9 l1,.C9 l2],[]⟩) (λ_ R s=>s.Dn.IsTuple l1 xs/\s.Dn.WK l2 ys/\
   R (.ok (.EM (.C9 (Jp s.Dn l1 l2).KL.Id))) {s with Dn:=ON s.Dn l1 l2}):=
 .of_wp λFZ w A R s h=>by
  obtain⟨hp,g,d,tk,os⟩:=s;obtain⟨hl1,hl2,h⟩:=h;have hsub:=sub_zip;have hL1:Ev.IsTuple (CW.Dn ⟨hp,g,d,tk,os⟩) l1 xs:=hl1;have hL2:Ev.WK (CW.Dn ⟨hp.Lr {Ov:= .Ds "tuple_iterator",KA:= .J5 #[.C9 l1,.D4 0 0]},g,d,tk,os⟩) l2 ys:=Ev.WK.Lr hl2 _
  wp_walk using wpAny_pyIter_tuple hL1,Vz hL2
  exact⟨_,Cs,h⟩
theorem kN (R:`b s) {l1 l2:EA} {ts:AT T} {l:V} {vs:AT V} (r1:Ad w σ (.t (.Ld ts)) (.C9 l1)) (r2:Ad w σ l (.C9 l2)) (e:AX cs l=A9 vs) {Qv:Bl->CW->Prop}
  (hQ:∀z TI TO i1 i2 o1 o2 s',HL Bj o1 l1 0->HL (Cl l) o2 l2 0->Ak w (X.Vl z TI TO i1 i2 .BH .BH .BH o1 o2) σ CL ve cs s'->Qv (.C9 z) s'):
  `a A (DH (.Ds "zip") [.C9 l1,.C9 l2]) Qv E s:=by
 obtain⟨a,xs,e1,g1,_⟩:=Ah.Qx (w:=w) (fz:=σ.fz) r1;cases e1;have gt:=R.1.W3 _ g1;obtain⟨a,ys,n',e2,g2,_⟩:=bv R.1 r2 e;cases e2;have hnt:Cl l=Be:=dX e;refine callType_new F.called_zip (by decide) (F.typeCall_zip_2 _ _) (F.newCall_zip_2 _ _) (λKm=>F.args_object_init_3 Km _ _) F.entry_zip_new
  (i8 l1 l2 xs.E6 ys.E6) ⟨⟨_,gt,Cs,0,Cs⟩,ae g2,?_⟩
 have R1:=R.Gk (q:=(`m,{Ov:= .Ds "tuple_iterator",KA:= .J5 #[.C9 l1,.D4 0 0]})) (h':=Jq s.Dn l1) (λb o e=>Ev.EB _ e) aq (Ev.JW _ rfl) s.Dp;have R2:=R1.Gk (q:=((Jq s.Dn l1).KL.Id,{Ov:= .Ds "list_iterator",KA:= .J5 #[.C9 l2,.D4 0 0]})) (h':=Ih s.Dn l1 l2) (λb o e=>Ev.EB _ e) aq (Ev.JW _ rfl) s.Dp;have R3:=R2.Gk (q:=((Ih s.Dn l1 l2).KL.Id,BQ (.C9 `m) (.C9 (Jq s.Dn l1).KL.Id))) (h':=Ig s.Dn l1 l2) (λb o e=>Ev.EB _ e) aq (Ev.JW _ rfl) s.Dp
 have R4:=R3.Gk (q:=((Ig s.Dn l1 l2).KL.Id,BQ .BH .BH)) (h':=Jp s.Dn l1 l2) (λb o e=>Ev.EB _ e) aq (Ev.JW _ rfl) s.Dp;have R5:=R4.Gk (q:=((Jp s.Dn l1 l2).KL.Id,CE .BH (Ih s.Dn l1 l2).KL.Id (Ig s.Dn l1 l2).KL.Id)) (h':=ON s.Dn l1 l2) (λb o e=>Ev.EB _ e) aq (Ev.JW _ rfl) s.Dp;have hz:(ON s.Dn l1 l2).D7 (Jp s.Dn l1 l2).KL.Id=A9 (CE .BH (Ih s.Dn l1 l2).KL.Id (Ig s.Dn l1 l2).KL.Id):=Ev.JW _ rfl;refine⟨⟨_,hz,Cs⟩,?_⟩;refine hQ (Jp s.Dn l1 l2).KL.Id (Ih s.Dn l1 l2).KL.Id (Ig s.Dn l1 l2).KL.Id `m (Jq s.Dn l1).KL.Id {Ov:= .Ds "tuple_iterator",KA:= .J5 #[.C9 l1,.D4 0 0]} {Ov:= .Ds "list_iterator",KA:= .J5 #[.C9 l2,.D4 0 0]} _ ⟨Cs,Cs⟩ (by rw[hnt];exact⟨Cs,Cs⟩) (bb (X:=((((X.F8 _).F8 _).F8 _).F8 _).F8 _) (AT.V8.Dc _ ?_) R5)
 exact(AT.V8.swap _ _ _).CX (AT.V8.Dc _ (AT.V8.Dc _ `as))
theorem tT (GK:Jk K G) (S:`e) (SF:JK w FZ K n an r.fp) (H:`g) (O:DC X CL) (R:`b s) (ha:BZ an) {x:Dr} {t a b:D8.Ez} {px p:Oz} {G0:AT IQ} {HW:Oz} (hx:Bi G cx x ve=A9 (.t (.Km (.Ds "zip")))) (ht:IB t=Bj) (hs1:Bh a=Bj) (hs2:Bh b=Bj)
  (h:an (r.ev cx a ve cs (λu G1=>r.ev cx b ve G1 (λw KM=>match u with
      | .t (.Ld ts)=>AA (AX KM w) 156 λ_=>r.fp cx t G0 ts w 0 ve KM kn kr ke
      |_=> .D9 158) ke) ke))
  (hN:`q) (hR:CD w X σ CL kr an Q) (hE:∀ve,`k) (hP:Om `t X.A CL E):`a X.A (Rq (.For t (.QI (.JV x px) [a,b] [] p) G0 [] HW) CL) Q E s:=by
 refine wpAny_For (Call_Name rfl (aS GK H R hx λf hf=> ?_)) (gw rfl)
 obtain rfl:f= .Ds "zip":=hf
 have hev:an (Ms r cx [a,b] ve cs (λvs KM=>AA (E9 vs) 0 λp=>match p.1 with
      | .t (.Ld ts)=>AA (AX KM p.2) 156 λ_=>r.fp cx t G0 ts p.2 0 ve KM kn kr ke
      |_=> .D9 158) ke):=by
  show an (br (Bh a) (r.ev cx a ve cs (λv G1=>br (Bh b) _ _) ke) _);rw[hs1];have hb:=hs2;revert hb;generalize Bh b=q;intro hb;subst hb;exact h
 refine nD S H R ha (by rw[AT.RU,hs1,AT.RU,hs2];rfl) hev ?_ `R;intro σ1 vs xs G1 s1 l1 R1 rv h;refine ab ha h λuv e0 h=> ?_;obtain⟨u,v⟩:=uv;obtain⟨x1,x2,Cs,r1,r2⟩:∃x1 x2,xs=[x1,x2]/\Ad w σ1 u x1/\Ad w σ1 v x2:=xC rv (q:=λxs=>∃x1 x2,xs=[x1,x2]/\Ad w σ1 u x1/\Ad w σ1 v x2) e0 λy z a b=>⟨y,z,Cs,a,b⟩;cases u with
 |FN _=>exact(ha _ h).Dk
 |t u=>cases u with
  |Ld ts=>
   refine ab ha h λvs e h=> ?_;refine⟨dC,?_⟩;obtain⟨q1,_,Cs,_⟩:=Ah.Qx (w:=w) (fz:=σ1.fz) r1;obtain⟨q2,_,_,Cs,_⟩:=bv R1.1 r2 e;refine kN R1 r1 r2 e λz TI TO i1 i2 o1 o2 s' h1 h2 R2=> ?_;have hz:IsZip s'.Dn z TI TO .BH:=(Ak.RJ R2 (q:=(z,CE .BH TI TO)) (.Jn _)).1;refine wpAny_pyIter_zip hz ?_;exact SF X cx CL t G0 ts v q1 q2 z TI TO i1 i2 .BH .BH o1 o2 0 σ1 ve G1 s' kn kr ke Q E H O ht R2 r1 h1 r2 h2 ha h (hN.Ey l1) (hR.Ey l1) (λve=>(hE ve).Ey l1) hP
  |_=>exact(ha _ h).Dk
end
set_option backward.match.sparseCases true
def HD (K:Lo) (C:EA):CV:=match K.H6 C with
 |A9 ⟨_,_,.Ov cd,sl⟩=> !cd.abstract&& !cd.hasDel&&(sl.Ob[4]?).join==A9 (.Dd "Exception.__new__")&& !cd.Wx.RM&&cd.Wx.La (.C9 C)&&cd.Wx.La (.Ds "Exception")&&cd.Wx.La (.Ds "BaseException")&&
   !cd.Wx.La (.Ds "AttributeError")&& !cd.Wx.La (.Ds "NameError")&&specialIn K (.C9 C) "__call__"==A9 (A9 (.Dd "type.__call__"))&&instIn K (.C9 C) (.Ds "type")==A9 Bj
 |_=>Be
structure IO (M:VX) (h:Ev) (C:EA):Prop where
 Km:∃oc od cd sl,h.D7 C=A9 ⟨oc,od,.Ov cd,sl⟩/\cd.hasDel=Be/\cd.Wx.RM=Be
 made:Ll M h (Bind.madeBy (.C9 C)) (A9 "Exception.__new__")
 Qd:Ll M h (Bind.staticBase (.C9 C)) (.C9 C)
 self:Ll M h (U7 (.C9 C) (.C9 C)) Bj
 Oj:Ll M h (U7 (.C9 C) (.Ds "Exception")) Bj
 bexc:Ll M h (U7 (.C9 C) (.Ds "BaseException")) Bj
 na:Ll M h (U7 (.C9 C) (.Ds "AttributeError")) Be
 nn:Ll M h (U7 (.C9 C) (.Ds "NameError")) Be
 DH:Ll M h (specialOf (.C9 C) "__call__") (A9 (.Dd "type.__call__"))
 typ:Ll M h (RK (.C9 C) (.Ds "type")) Bj
theorem bT {K:Lo} {M:VX} {h:Ev} (X:K.In h) {C:EA} (e:HD K C=Bj):IO M h C:=by
 unfold HD at e;cases ho:K.H6 C with
 |BH=>rw[ho] at e;cases e
 |A9 o=>
 rw[ho] at e;obtain⟨oc,od,dt,sl⟩:=o;cases dt with
 |Ov cd=>
  dsimp only at e;simp only[CV.DG,CV.OI,Kw] at e;obtain⟨⟨⟨⟨⟨⟨⟨⟨⟨⟨e1,e2⟩,e3⟩,e4⟩,e5⟩,e6⟩,e7⟩,e8⟩,e9⟩,e10⟩,e11⟩:=e;have hc:clsIn K C=A9 cd:=by unfold clsIn;rw[ho]
  have hm:Ll M h (mroOf (.C9 C)) cd.Wx:=(looks_clsIn X hc).PS .now;obtain⟨c,l,hl⟩:∃c l,cd.Wx=c::l:=by cases q:cd.Wx with|HU=>rw[q] at e4;cases e4|Dc c l=>exact⟨c,l,Cs⟩
  have made:Ll M h (Bind.madeBy (.C9 C)) (A9 "Exception.__new__"):=by
   intro A Q E s k q;unfold Bind.madeBy;refine Ch (hm A _ E s k ?_);rw[hl,AT.QV];refine Ch (Ch (Ch (Ch (Ru (k _ _ (X _ _ ho)) (De ?_)))));dsimp only;rw[<-KU.getElem?_toList,e3];exact De (De (De q))
  have Wx:∀{x:Bl} {b:CV},cd.Wx.La x=b->mroIn K C x=A9 b:=λ{x b} q=>by unfold mroIn;rw[hc,Bq.bind_some,Ko (by rw[e4];decide),q]
  refine⟨⟨oc,od,cd,sl,X _ _ ho,e2,e4⟩,made,?_,Q9 X (Wx e5),Q9 X (Wx e6),Q9 X (Wx e7),Q9 X (Wx e8),Q9 X (Wx e9),looks_specialIn X e10,looks_instIn X e11⟩;intro A Q E s k q;unfold Bind.staticBase;refine Ch (hm A _ E s k ?_);rw[hl,AT.QV];exact Ch (Ch (Ch (made A _ E s k (De (De (De q))))))
 |_=>cases e
def He (C:EA) (d:Bq EA) (t:EA):KJ:={Ov:= .C9 C,LG:=d,KA:= .J5 #[.C9 t,.BH,.BH,.BH,.G6 Be,.BH]}
section
variable {C:EA} {R:Result->CW->Prop} {g:KU GenState} {d:Drawn} {t:BF} {os:Rd}
theorem jz {M:VX} {A:Ke} {α:Type} {X Y:U8 α} {Q:α->CW->Prop} {E:Bl->CW->Prop} {s:CW} (h:Ic M A Y Q E s):Ic M A (if Be=Bj then X else Y) Q E s:=h
theorem fG {M:VX} {A:Ke} {α β:Type} {X Y:U8 α} {k:α->U8 β} {Q:β->CW->Prop} {E:Bl->CW->Prop} {s:CW} (h:Ic M A (Y>>=k) Q E s):Ic M A ((if Be=Bj then X else Y)>>=k) Q E s:=h
theorem xd {M:VX} {A:Ke} {α:Type} {X Y:U8 α} {x:Qf} {Q:α->CW->Prop} {E:Bl->CW->Prop} {s:CW} (h:Ic M A Y Q E s):Ic M A (if(x !=x)=Bj then X else Y) Q E s:=by rw[OK];exact h
theorem tW {M:VX} {A:Ke} {α β:Type} {X Y:U8 α} {k:α->U8 β} {x:Qf} {Q:β->CW->Prop} {E:Bl->CW->Prop} {s:CW} (h:Ic M A (Y>>=k) Q E s):Ic M A ((if(x !=x)=Bj then X else Y)>>=k) Q E s:=by rw[OK];exact h
theorem aaG {Df:AT Bl} (Y:IO (QF FZ w) h C) (hrest:Df.A8<=WO)
  (hq:R (.ok (.EM (.C9 (h.KL.Id+1)))) ⟨(h.Lr {Ov:= .Ds "tuple",KA:= .KH Df.E6}).Lr `O,g,d,t,os⟩):
  `h A (.DH (.Dd "Exception.__new__") ⟨.C9 C::Df,[]⟩) R ⟨h,g,d,t,os⟩:=by
 obtain⟨⟨oc,od,cd,sl,hC,e2,e4⟩,made,Qd,self,Oj,bexc,na,nn,DH,typ⟩:=Y;have F:=D8.F.excBase_Exception;have hends:=F.ends;refine codeAny_call_builtin_code (Xk.quiet_builtin _ F.quiet) ?_;unfold checkBuiltinCall;rw[F.newKind,F.newSplit];dsimp only;have P6:Ll `t h (Bind.madeHere "Exception.__new__" (.C9 C)) LI.Qe:=Qd.PS (made.PS (Ll.of_pure (by simp only[Bq.map_some,OK,CV.P2,VY])));have here2:Ll `t h (Bind.madeHere "BaseException.__new__" (.C9 C)) LI.Qe:=Qd.PS (made.PS (Ll.of_pure (by simp only[Bq.map_some,F.canon,OK,CV.P2,VY])))
 repeat (first|refine jz ?_|refine fG ?_|refine xd ?_|refine tW ?_|lk|rewrite [F.newRow]|simp only[OK,CV.P2,VY])
 refine codeAny_builtinAt F.entry ?_;unfold Kj.«BaseException.__new__»;refine D8.wpAt_bind ?_;show D8.wpAt _ _ _ (stack>>=_) _ _ _;refine D8.wpAt_bind (D8.wpAt_stack λp below=>D8.wpAt_of_wpAny ?_)
 wp_walk
 refine D8.wpAt_of_wpAny ?_;rw[F.owner];dsimp only
 repeat (first|refine jz ?_|refine fG ?_|lk|simp only[OK,CV.not_true,CV.P2,VY])
 show Ic _ _ (newObj (.Ds "tuple") (.KH Df.E6)) _ _ _;refine P9 ?_ (by show Df.E6.Id<=WO;rw[AT.JM];exact hrest);have hC':(h.Lr {Ov:= .Ds "tuple",KA:= .KH Df.E6}).D7 C=A9 ⟨oc,od,.Ov cd,sl⟩:=Ev.EB _ hC;refine Ch ?_;show Ic _ _ (newObjAsIs (.C9 C) (.J5 #[.C9 h.KL.Id,.BH,.BH,.BH,.G6 Be,.BH]) BH) _ _ _;unfold newObjAsIs classHasDel;refine Ch (wpAny_alloc (Ch (Ch (wpAny_load (Ev.EB _ hC') (De ?_)))));rw[e2];refine De (De ?_)
 show R _ _;rw[Ev.size_push];exact hq
theorem zD {Df:AT Bl} {Xo:Bl} (Y:IO (QF FZ w) h C) (hrest:Df.A8<=WO) (hi:Ll (QF FZ w) h (typeLookup (.C9 C) "__init__") (A9 Xo)) (hb:∀self,Ll (QF FZ w) h (bindSpecial Xo self) (Xo,[self]))
  (hq:`h (A.under (.Dd "type.__call__" ⟨.C9 C::Df,[]⟩)) (.DH Xo ⟨.C9 (h.KL.Id+1)::Df,[]⟩) (InitBack (h.KL.Id+1) R) ⟨(h.Lr {Ov:= .Ds "tuple",KA:= .KH Df.E6}).Lr `O,g,d,t,os⟩):
  `h A (.DH (.C9 C) ⟨Df,[]⟩) R ⟨h,g,d,t,os⟩:=by
 have Y':=Y;obtain⟨⟨oc,od,cd,sl,hC,e2,e4⟩,made,Qd,self,Oj,bexc,na,nn,DH,typ⟩:=Y;refine codeAny_of_tree ?_;show Ic _ _ (callAny (.C9 C) _) _ _ _;refine nd_load hC ?_;show Ic _ _ (callAny.viaDunder (.C9 C) _) _ _ _;unfold callAny.viaDunder;refine Ch (DH.at ?_);dsimp only;rw[tc_bind];refine Ch (De (Ch (De ?_)));refine De (a:=Fin.again (.DH (.Dd "type.__call__") ⟨.C9 C::Df,[]⟩)) (And.intro rfl ?_);refine codeAny_call_builtin_at (Xk.quiet_builtin _ (by decide+QG)) entry_typeCall (check_slot tc_kind tc_split typ (tc_args _ _ _) ?_)
 unfold Kj.«type.__call__»;have hm:Ll `t h (mroOf (.C9 C)) cd.Wx:=((Ll.ld (part:=BH) hC).PS .now).PS .now
 repeat (first|refine jz ?_|refine fG ?_|rewrite [e4]|with_reducible refine Qn ?_|lk|simp only[e4,CV.P2,VY])
 refine aaG Y' hrest ?_;have k:∀b o,h.D7 b=A9 o->((h.Lr {Ov:= .Ds "tuple",KA:= .KH Df.E6}).Lr `O).D7 b=A9 o:=λb o e=>Ev.EB _ (Ev.EB _ e);have hx:((h.Lr {Ov:= .Ds "tuple",KA:= .KH Df.E6}).Lr `O).D7 (h.KL.Id+1)=A9 `O:=Ev.get?_push_at (by rw[Ev.size_push]) rfl;have t1:Ll `t ((h.Lr {Ov:= .Ds "tuple",KA:= .KH Df.E6}).Lr `O) (Xh (.C9 (h.KL.Id+1))) (.C9 C):=(Ll.ld hx).PS .now;have s1:=self.keeps k
 have i1:=hi.keeps k;have b1:=(hb (.C9 (h.KL.Id+1))).keeps k;unfold RK callSpecial? specialOf
 repeat (first|with_reducible refine Qn ?_|lk)
 refine codeAny_mono hq λr s' z=> ?_;rcases r with e|(v|_|_|_)<;>first|exact z|exact z.Dk|skip
 obtain⟨Cs,z⟩:=z;exact De (De z)
end
section
variable {C:EA} {R:Result->CW->Prop} {g:KU GenState} {d:Drawn} {t:BF} {os:Rd}
theorem o9 {oc:Bl} {od:Bq EA} {cd:ClassData} {slC:KU (Bq Bl)} (hC:h.D7 C=A9 ⟨oc,od,.Ov cd,slC⟩) {e t0:EA} {sl:KU (Bq Bl)} {wv:Bl} (hs:∀h',(∀b o,h.D7 b=A9 o->h'.D7 b=A9 o)->Ll (QF FZ w) h' (U7 (.C9 C) (.Ds "Exception")) Bj)
  (he:h.D7 e=A9 ⟨.C9 C,BH,.J5 #[.C9 t0,.BH,.BH,.BH,.G6 Be,.BH],sl⟩)
  (hq:R (.ok (.EM .BH)) ⟨(h.Lr {Ov:= .Ds "tuple",KA:= .KH #[wv]}).KO e (KJ.N6 (·.Ka 0 (.C9 h.KL.Id))),g,d,t,os⟩):
  `h A (.DH (.Dd "Exception.__init__") ⟨[.C9 e,wv],[]⟩) R ⟨h,g,d,t,os⟩:=by
 have F:=D8.F.excBase_Exception;have t1:Ll `t h (Xh (.C9 e)) (.C9 C):=(Ll.ld he).PS .now;have typ:Ll `t h (RK (.C9 e) (.Ds "Exception")) Bj:=t1.PS (hs h λ_ _ e=>e);refine R9 F.Xo.QD F.initEntry ?_;simp only[checkBuiltinCall,F.initKind,F.initSplit,F.initRow];refine Ch (typ.P6 ?_);have hshort:=F.noStar
 repeat (first|refine jz ?_|refine fG ?_|(with_reducible refine VC he ?_)|(with_reducible refine VC hC ?_)|wp_step)
 exact hq
def EH:AT Bl->CV
 | .C9 _::r=>EH r
 |l=>l==[.Ds "Exception",.Ds "BaseException",.Ds "object"]
theorem ly (self:Bl) {l:AT Bl}:EH l=Bj->refuseLoop self "__setattr__" l=Kp LI.Qe/\l.La (.Ds "object")=Bj:=by
 induction l with
 |HU=>exactλe=>nomatch e
 |Dc v r ih=>
  intro e;cases v with
  |C9 c=>
   have h:=ih e;exact⟨(refuseLoop_ref ..).CX h.1,by rw[AT.contains_cons,h.2,CV.or_true]⟩
  |Ds n=>
   rw[show(.Ds n::r:AT Bl)=_ from Kw.mp e];exact⟨D8.F.store_Exception.passes self,by decide+QG⟩
  |_=>exact nomatch (AT.Dc.Ky (Kw.mp e)).1
def Gv (K:Lo) (C f:EA):CV:=HD K C&&(match clsIn K C with|A9 cd=>EH cd.Wx&&cd.OC|BH=>Be)&&Of K (.C9 C) "__init__"==A9 (A9 (.C9 f))&&Xf K (.C9 f)==A9 (.Ds "function")&&
 Of K (.C9 C) "__setattr__"==A9 (A9 (.Dd "object.__setattr__"))&&Of K (.C9 C) AF==A9 BH&&Of K (.C9 C) Cw==A9 BH&&Of K (.C9 C) "__getattribute__"==A9 (A9 (.Dd "BaseException.__getattribute__"))&&Of K (.C9 C) "__getattr__"==A9 BH&&
 WR K (.C9 C)&&Xf K (.C9 C)==A9 (.Ds "type")
theorem qy {ox:KJ} {od:Bq KJ} {x:EA} {F6:Dr} {tk:Tok} {v:Bl} (X:K.In h) (I:InstAt h x ox C od) {cd:ClassData} (hc:clsIn K C=A9 cd) (hp:EH cd.Wx=Bj) (ht:Of K (.C9 C) F6=A9 BH)
  (hq:`a A.in1 (Kj.Vk.storeInOwnDict (.C9 x) (.C9 C) (.Dq F6 tk) F6 v Be)
   (λK7 s'=>match K7 with| .done f=>R (.ok f) s'| .again c'=>c'.quiet=Bj/\`h A c' R s') (λe s'=>R (.Rx e) s') ⟨h,g,d,t,os⟩):
  `h A (.DH (.Dd "object.__setattr__") ⟨[.C9 x,.Dq F6 tk,v],[]⟩) R ⟨h,g,d,t,os⟩:=by
 have SF:=D8.F.store_Exception;obtain⟨r1,r2⟩:=ly (.C9 x) hp;have ne:cd.Wx.RM=Be:=by cases q:cd.Wx with|HU=>rw[q] at hp;cases hp|Dc _ _=>rfl
 have I1:Ll `t h (Xh (.C9 x)) (.C9 C):=I.Ds;have Xs:Ll `t h (RK (.C9 x) (.Ds "object")) Bj:=I1.PS (Q9 X (by unfold mroIn;rw[hc,Bq.bind_some,Ko (by rw[ne];decide),r2]));refine R9 SF.slot.QD SF.entry (@check_slot `t _ _ _ "object.__setattr__" "object" "__setattr__" (.C9 x) [.Dq F6 tk,v] [] _ SF.Wz SF.split Xs (SF.args (.C9 x) (.Dq F6 tk) v) ?_);have hm:Ll `t h (mroOf (.C9 C)) cd.Wx:=(looks_clsIn X hc).PS .now;rw[osa_eq,refuse_eq];refine Ch (Ch (I1.P6 (Ch (hm.P6 ?_))))
 rw[r1];refine De (Ch (I1.P6 (Ch ((Wk X ht).P6 (Ch ?_)))));exact De hq
theorem jL {E:Bl->CW->Prop} {Q:D8.Fin->CW->Prop} {dx:EA} {es:AT Ex} {n:BF} {F6:Dr} {tk:Tok} {v:Bl} (D:h.D7 dx=A9 (AK es n)) (hl:(getL F6 es).KQ=Bj) (hz:es.A8<=900)
  (hq:Q (.done (.EM .BH)) ⟨h.KO dx (KJ.putName F6 `F (.Dq F6 t) v),g,d,t+1,os⟩):
  `a A (Kj.Vk.storeInDict dx (.Dq F6 tk) F6 v) Q E ⟨h,g,d,t,os⟩:=by
 have D':(h.KO dx (KJ.putName F6 `F (.Dq F6 t) v)).D7 dx=A9 (AK (putL F6 `F (.Dq F6 t) v es) (putN F6 es n)):=by
  refine(Ev.Ku _ D ?_).CX (FY A9 (Wl F6 _ _ v es n))
  show(KJ.putName F6 `F (.Dq F6 t) v (dictOf es n)).Vp=Be
  rw[Wl];rfl
 have hz':=jV (x:=F6) (hh:=PyData.keyHash w.Ew F6) (k:= .Dq F6 t) (v:=v) (ds:=es);unfold Kj.Vk.storeInDict Kj.Vk.newKeyGuard;refine Ch (De (Ch ?_));unfold nsSet;refine Ch (Ch (wpAny_askSetting (De (Ch (wpAny_mkText (Ch (Ru D ?_)))))));have c:(!es.Xa (·.Qt.Wu F6)&&es.Xa (·.refKey))=Be:=by
  unfold getL at hl;split at hl
  .rename_i HV he
   rw[AT.RS.Lq ⟨HV,AT.mem_of_find?_eq_some he,AT.find?_some he⟩];rfl
  .split at hl
   .cases hl
   .rename_i z;rw[CV.not_eq_true] at z;rw[z,CV.and_false]
 dsimp only[AK];rw[aRefKeyMayBeTheName_at,<-KU.any_toList,<-KU.any_toList];dsimp only;rw[c];refine wpAny_updatePart D ?_;refine Ch (wpAny_lookBehind D' (by exact pastItsLine_dict (by rw[AT.JM,Kq];omega)) ?_);exact De hq
section
variable {f x:EA} {F6:Dr} {v:Bl} {vs:KU Bl} {sl:KU (Bq Bl)} {Qu:LI->CW->Prop}
theorem sT (X:K.In h) {cd:ClassData} (hc:clsIn K C=A9 cd) (hp:EH cd.Wx=Bj) (hd:cd.OC=Bj) (hs:Of K (.C9 C) "__setattr__"=A9 (A9 (.Dd "object.__setattr__"))) (ht:Of K (.C9 C) F6=A9 BH)
  (hx:h.D7 x=A9 ⟨.C9 C,BH,.J5 vs,sl⟩)
  (hq:∀h' dx tk H,(∀b o,b≠x->h.D7 b=A9 o->h'.D7 b=A9 o)->h.D7 dx=BH->dx≠x->h'.D7 x=A9 ⟨.C9 C,A9 dx,.J5 vs,sl⟩->h'.D7 dx=A9 (AK [⟨H,.Dq F6 tk,v⟩] 1)->Qu LI.Qe ⟨h',g,d,t+2,os⟩):
  `a A (setAttr (.C9 x) F6 v) Qu E ⟨h,g,d,t,os⟩:=by
 have I:InstAt h x ⟨.C9 C,BH,.J5 vs,sl⟩ C BH:=⟨hx,Cs,Cs,trivial⟩;refine set_plain (s:=⟨h,g,d,t,os⟩) X I hs ?_;refine qy X I hc hp ht ?_;refine Ch (De (Ch ?_));have Vo:h.KL.Id≠x:=BF.ne_of_gt (Ev.RL hx);have hx1:(h.Lr {Ov:= .Ds "dict",KA:= .LG #[]}).D7 x=A9 ⟨.C9 C,BH,.J5 vs,sl⟩:=Ev.EB _ hx;unfold Kj.Vk.ownDictForStores instanceDict;refine Ch (Ru hx (Ch ((looks_clsIn X hc).P6 ?_)));rw[hd];rw[Ko (by decide)];show Ic _ _ (do
  let d <-D8.LH {Ov:= .Ds "dict",KA:= .LG #[]}
  KO x λo=>{Ov:=o.Ov,LG:=A9 d,KA:=o.KA,slots:=o.slots}
  dictMade (.C9 C) x d) _ _ _
 refine Ch (wpAny_alloc (Ch (wpAny_update hx1 ?_)));refine De ?_;have sr:((h.Lr {Ov:= .Ds "dict",KA:= .LG #[]}).KO x λo=>{Ov:=o.Ov,LG:=A9 h.KL.Id,KA:=o.KA,slots:=o.slots}).D7 x=A9 ⟨.C9 C,A9 h.KL.Id,.J5 vs,sl⟩:=Ev.Ku _ hx1 rfl;have hd2:((h.Lr {Ov:= .Ds "dict",KA:= .LG #[]}).KO x λo=>{Ov:=o.Ov,LG:=A9 h.KL.Id,KA:=o.KA,slots:=o.slots}).D7 h.KL.Id=A9 (AK [] 0):=
  (Ev.MP _ _ _ _ Vo).CX (Ev.get?_push_at rfl rfl)
 refine jL hd2 rfl (BF.zero_le _) ?_;have hpn:KJ.putName F6 `F (.Dq F6 (t+1)) v (AK [] 0)=AK [⟨PyData.keyHash w.Ew F6,.Dq F6 (t+1),v⟩] 1:=Wl F6 _ _ v [] 0;refine hq _ h.KL.Id (t+1) _ (λb o hb e=> ?_) (Ev.PW `M) Vo ((Ev.MP _ _ _ _ (Ne.Hl Vo)).CX sr) ((Ev.Ku _ hd2 (by rw[hpn];rfl)).CX (FY A9 hpn))
 refine(Ev.MP _ _ _ _ (BF.ne_of_lt (Ev.RL e))).CX ((Ev.MP _ _ _ _ hb).CX (Ev.EB _ e))
theorem sS (X:K.In h) {cd:ClassData} (hc:clsIn K C=A9 cd) (hp:EH cd.Wx=Bj) (hd:cd.OC=Bj) (hs:Of K (.C9 C) "__setattr__"=A9 (A9 (.Dd "object.__setattr__"))) (ht:Of K (.C9 C) F6=A9 BH)
  {dx:EA} {es:AT Ex} {n:BF} (hx:h.D7 x=A9 ⟨.C9 C,A9 dx,.J5 vs,sl⟩) (hdx:h.D7 dx=A9 (AK es n)) (hl:(getL F6 es).KQ=Bj) (hz:es.A8<=900)
  (hq:∀h' tk H,(∀b o,b≠dx->h.D7 b=A9 o->h'.D7 b=A9 o)->h'.D7 dx=A9 (AK (putL F6 H (.Dq F6 tk) v es) (putN F6 es n))->Qu LI.Qe ⟨h',g,d,t+2,os⟩):
  `a A (setAttr (.C9 x) F6 v) Qu E ⟨h,g,d,t,os⟩:=by
 have I:InstAt h x ⟨.C9 C,A9 dx,.J5 vs,sl⟩ C (A9 (AK es n)):=⟨hx,Cs,Cs,hdx⟩;refine set_plain (s:=⟨h,g,d,t,os⟩) X I hs ?_;refine qy X I hc hp ht ?_;refine Ch (De (Ch ?_));unfold Kj.Vk.ownDictForStores instanceDict;refine Ch (Ru hx (Ch ((looks_clsIn X hc).P6 ?_)));rw[hd];rw[Ko (by decide)];refine De ?_;refine jL hdx hl hz ?_;have hpn:KJ.putName F6 `F (.Dq F6 (t+1)) v (AK es n)=AK (putL F6 `F (.Dq F6 (t+1)) v es) (putN F6 es n):=Wl F6 _ _ v es n
 exact hq _ (t+1) _ (λb o hb e=>(Ev.MP _ _ _ _ hb).CX e) ((Ev.Ku _ hdx (by rw[hpn];rfl)).CX (FY A9 hpn))
end
end
section
variable {X':Fx} {σ':Sg} {Lk:Qp} {Qk:Ag} {Kg:St} {s':CW} {q q' p:EA×KJ}
theorem gZ (H:C5 K X) (hl:CL.J6=X.L) (hbs:X'.bs=X.bs) (Vn:X'.J9=X.Li::X.J9) (q:`j) (Fg:Fr σ.gr X.L X'.h₀ m) (R':AZ w X' σ' Lk Qk Kg h') (le:σ.le σ'):
  ∃γ,AZ w {X with bl:=X'.bl} ⟨γ,σ'.fz,σ'.ca⟩ CL ve Kg h':=by
 obtain⟨m1,ml1,Xe,q1⟩:=R';obtain⟨γ,T2,F2,S2,oL,hL⟩:=bM H q Vn Fg q1.T q1.F.QH;have N2:Pz γ X.L h' (Aq {X with bl:=X'.bl} ⟨γ,σ'.fz,σ'.ca⟩ Xe):=λp hp=>by
  obtain⟨n1,n2,n3⟩:=q1.N p hp;exact⟨n1,λz=>(by rw[z,hL] at n3;cases n3),kts_none S2 n3⟩
 have le1:σ'.le ⟨γ,σ'.fz,σ'.ca⟩:=⟨λ_ h=>h,[],by simp⟩;have hm:m=ml:=bu q.F.ns (hl▸q.ns);exact⟨γ,m,m,Xe,F2,hl▸F2.ns,(hm▸q.V0).Ey (le.CX le1),q1.J2.Ey le1,N2,q1.nd,λb hb=>q1.bd b (hbs▸hb),.HX hl,T2⟩
theorem Ak.bumpTake (R:Ak w (X.F8 q) σ CL ve cs s) (hl:CL.J6=X.L) (hq:q'.1=q.1) (hk:∀b o,b≠q.1->s.Dn.D7 b=A9 o->h'.D7 b=A9 o) (h2:h'.D7 q'.1=A9 q'.2) (hn:s.Dn.D7 p.1=BH) (h3:h'.D7 p.1=A9 p.2) (tk:BF):
  Ak w ((X.F8 q').F8 p) σ CL ve cs {s with Dn:=h',Dp:=tk}:=by
 obtain⟨⟨m,ml,G2,r⟩,hg,ho⟩:=R;have fr:=r.Wo hn;have r2:=r.Xq hl hq hk h2;have e1:(Aq (X.F8 q) σ G2).FW (·.1)=(Aq (X.F8 q') σ G2).FW (·.1):=by
  rw[gb,gb];simp only[AT.J8,AT.JS,hq]
 refine⟨⟨m,ml,G2,r2.F,r2.ns,r2.V0,r2.J2,λz hz=> ?_,?_,r2.bd,.HX hl,r2.T⟩,hg,ho⟩
 .rcases AT.GZ.mp ((aM (X:=X.F8 q') (σ:=σ) (G2:=G2) (q:=p)).OF.mp hz) with rfl|hz
  .exact⟨h3,fr.2.1,fr.2.2⟩
  .exact r2.N z hz
 .refine((aM (X:=X.F8 q') (σ:=σ) (G2:=G2) (q:=p)).FW VH.fst).Lz.Lq (AT.Kv.Lq ⟨?_,r2.nd⟩)
  rw[<-e1];exact fr.1
theorem Ak.settle (R:Ak w (X.F8 p) σ CL ve cs s) (hl:CL.J6=X.L):Ak w X (σ.add p) CL ve cs s:=by
 obtain⟨⟨m,ml,G2,r⟩,hg,ho⟩:=R;have pm:(Aq X (σ.add p) G2).V8 (Aq (X.F8 p) σ G2):=by
  unfold Aq Sg.add Fx.F8;exact AT.V8.append_left _ AT.Qg
 exact⟨⟨m,ml,G2,r.F,r.ns,r.V0.Ey (σ.Vc p),r.J2.Ey (σ.Vc p),λz hz=>r.N z (pm.OF.mp hz),(pm.FW (·.1)).Lz.Lq r.nd,r.bd,.HX hl,r.T⟩,hg,ho⟩
theorem y7 {b:EA×KJ} {l:BR} (h:X.bl=b::l):X=({X with bl:=l}:Fx).F8 b:=by
 obtain⟨a1,a2,a3,a4,a5,a6,a7,a8,a9,a10⟩:=X;have h:a8=b::l:=h;subst h;rfl
end
def Cp:Dr:=`cX
def EO:Dr:=s!"Exception"
def Iw:Dr:=ZR
structure HM (G:DM) (fi:Hj):Prop where
 ps:fi.Ew=[Cp,AF,Cw]
 ds:fi.Vs=[.Kr]
 bd:∃p1 p2 p3 p4 p5 p6 p7 p8 p9 p10 p11 p12 p13 p14,fi.G0=[.Ez (.QI (.JU (.JV EO p1) Iw p2) [.JV Cp p3,.JV AF p4] [] p5) p6,.QS [.JU (.JV Cp p7) AF p8] (.JV AF p9) p10,.QS [.JU (.JV Cp p11) Cw p12] (.JV Cw p13) p14]/\p2.endLine=p5.line
 gl:IA fi.Jm.Lb EO=A9 .Rg
 gx:G.glob EO=A9 (.Km (.Ds "Exception"))
section
theorem sU {A:Ke} {E:Bl->CW->Prop} {s:CW} {K:Lo} {h₀:Ev} {L:EA} {m:Dr->Bq Bl} {pl:U8 CV} {Q:Bl×AT Bl->CW->Prop} (F:Fr h₀ L s.Dn m) (X₀:K.In h₀) (h:Q (.Dd "Exception.__init__",[]) {s with Dp:=s.Dp+1}):
  `a A (Sp (.Ds "Exception") Iw pl) Q E s:=
 method_type F X₀ () (by decide+QG) () (by rfl) h
theorem o6 {A:Ke} {E:Bl->CW->Prop} {s:CW} {CL:Qp} {Q:Rb->CW->Prop} {p1 p2 p3 p4 p5 p6:Oz} {h₀:Ev} {L:EA} {m:Dr->Bq Bl} (F:Fr h₀ L s.Dn m) (X₀:K.In h₀) (hpos:p2.endLine=p5.line) (hi:interactive CL=Be) {sv:Bl} {P:Bl->Prop}
  (n1:∀(Q:Bl->CW->Prop) p,Q (.Ds "Exception") s->`a A (Oc (.JV EO p) CL) Q E s)
  (n2:∀(Q:Bl->CW->Prop) p tk,Q sv {s with Dp:=tk}->`a A (Oc (.JV Cp p) CL) Q E {s with Dp:=tk})
  (n3:∀(Q:Bl->CW->Prop) p tk,(∀y,P y->Q y {s with Dp:=tk})->`a A (Oc (.JV AF p) CL) Q E {s with Dp:=tk})
  (h:∀tk wv,P wv->`h A (.DH (.Dd "Exception.__init__") ⟨[sv,wv],[]⟩) (λr s'=>match r with| .ok (.EM v)=>v= .BH/\Q .next s'| .ok _=>Re| .Rx e=>E e s') {s with Dp:=tk}):
  `a A (Rq (.Ez (.QI (.JU (.JV EO p1) Iw p2) [.JV Cp p3,.JV AF p4] [] p5) p6) CL) Q E s:=by
 refine wpAny_Expr ?_ hi rfl;refine MethodCall_ (pl:=do return (<-importBound (.JV EO p1) CL).RT Bj) (n1 _ _ ?_) ?_
 .refine sU F X₀ ?_
  refine callWith_of (P:=λ_=>True) rfl (λ_ _=>⟨.machine,.G4 (.HX rfl),Ll.of_pure rfl⟩) ?_;refine evalArgs_plain (Qz (n2 _ _ _ (Qz (n3 _ _ _ λwv hw=>spliced_nil ?_))));refine⟨trivial,Qn (codeAny_mono (h _ wv hw) λr s' z=> ?_)⟩;rcases r with e|(v|_|_|_)<;>first|exact z|exact z.Dk|skip
  obtain⟨Cs,z⟩:=z;exact z
 .rw[arm_eval_Call]
  have h3:VN Bj (.JV EO p1) CL p2 p5=Kp p5:=by
   unfold VN;rw[hpos]
   simp
  unfold methodCall;have h2:methodCallForm ([D8.Ez.JV Cp p3,.JV AF p4].A8+([]:AT Keyword).A8) (Rl p5 (OG [.JV Cp p3,.JV AF p4] CL)) (backToKw p5 (keywordEach [] CL))=Bj:=by rfl
  rw[h2,h3];rfl
end
def Cy (C:EA) (d:Bq EA) (t:EA) (cx:Bl):KJ:=⟨.C9 C,d,.J5 #[.C9 t,.BH,cx,.BH,.G6 Be,.BH], #[]⟩
structure Pl (K:Lo) (C f:EA):Prop where
 made:HD K C=Bj
 cd:∃cd,clsIn K C=A9 cd/\EH cd.Wx=Bj/\cd.OC=Bj
 Xo:Of K (.C9 C) "__init__"=A9 (A9 (.C9 f))
 fn:Xf K (.C9 f)=A9 (.Ds "function")
 set:Of K (.C9 C) "__setattr__"=A9 (A9 (.Dd "object.__setattr__"))
 nw:Of K (.C9 C) AF=A9 BH
 na:Of K (.C9 C) Cw=A9 BH
 ga:Of K (.C9 C) "__getattribute__"=A9 (A9 (.Dd "BaseException.__getattribute__"))
 gt:Of K (.C9 C) "__getattr__"=A9 BH
 kp:WR K (.C9 C)=Bj
 ty:Xf K (.C9 C)=A9 (.Ds "type")
theorem gE {K:Lo} {C f:EA} (h:Gv K C f=Bj):Pl K C f:=by
 unfold Gv at h;simp only[CV.DG,Kw] at h;obtain⟨⟨⟨⟨⟨⟨⟨⟨⟨⟨h1,h2⟩,h3⟩,h4⟩,h5⟩,h6⟩,h7⟩,h8⟩,h9⟩,h10⟩,h11⟩:=h;refine⟨h1,?_,h3,h4,h5,h6,h7,h8,h9,h10,h11⟩;split at h2
 .rename_i cd e
  rw[CV.DG] at h2;exact⟨cd,e,h2.1,h2.2⟩
 .cases h2
section
theorem sV (GK:Jk K G) {f C:BF} {fi:Hj} (FK:IP w K f fi) (IF:HM G fi) (hE:Gv K C f=Bj) (H:C5 K X) (room:IK (n+1) X) (hl:CL.J6=X.L) (R:`b s) {vs:AT V} {xs:AT Bl} (rv:Ac w σ vs xs) {A':Ke} (hA:A'.KZ=X.A.KZ) (hd:A'.RW<=X.A.RW) (hu:A'.LL<=X.A.LL+5)
  {wv av:V} (hvs:(vs=[wv]/\av= .t .Kr)\/vs=[wv,av]) {Qv E:Bl->CW->Prop}
  (hQ:∀σ' e d ds nn t s',σ.le σ'->(d,AK ds nn)∈σ'.fz->AI w σ' [(AF,wv),(Cw,av)] ds->Ak w (X.F8 (e,Cy C (A9 d) t .BH)) σ' CL ve cs s'->Qv (.C9 e) s'):
  `h A' (.DH (.C9 C) ⟨xs,[]⟩) (λr s'=>match r with| .ok (.EM v)=>Qv v s'| .ok _=>Re| .Rx e=>E e s') s:=by
 have P:=gE hE;obtain⟨cd,c1,c2,c3⟩:=P.cd;have KI:=R.KIn H;have Y:=bT (M:=QF FZ w) KI P.made;have N9:xs.A8<=2:=by
  rw[rv.A8];rcases hvs with⟨Cs,_⟩|rfl<;>simp
 obtain⟨h,g,dr,t,os⟩:=s;refine zD (Xo:= .C9 f) Y (by rw[Kq];omega) (Wk KI P.Xo) (λself=>bind_fn KI self P.fn) ?_;have k2:∀b o,h.D7 b=A9 o->((h.Lr {Ov:= .Ds "tuple",KA:= .KH xs.E6}).Lr `O).D7 b=A9 o:=λb o e=>Ev.EB _ (Ev.EB _ e);have R2:Ak w (X.F8 (h.KL.Id+1,Cy C BH h.KL.Id .BH)) σ CL ve cs ⟨(h.Lr {Ov:= .Ds "tuple",KA:= .KH xs.E6}).Lr `O,g,dr,t,os⟩:=
  R.Gk k2 (Ev.PW `aj) (Ev.get?_push_at (by rw[Ev.size_push]) rfl) t
 generalize h.KL.Id=t0 at R2⊢;generalize t0+1=e at R2⊢;generalize (h.Lr {Ov:= .Ds "tuple",KA:= .KH xs.E6}).Lr (He C BH t0)=h2 at R2⊢;obtain⟨⟨m,ml,G2,q⟩,hg,ho⟩:=R2;have HB:=cY H (e,Cy C BH t0 .BH);have jy:Ac w σ (.t (.Km (.C9 e))::vs) (.C9 e::xs):=⟨_,_,Cs,Cs,rv⟩;have hb:FA fi.Ew (.t (.Km (.C9 e))::vs) fi.Vs=A9 [(Cp,.t (.Km (.C9 e))),(AF,wv),(Cw,av)]:=by
  rw[IF.ps,IF.ds];rcases hvs with⟨Cs,Cs⟩|rfl<;>rfl
 have hdp:(A'.under (.Dd "type.__call__" ⟨.C9 C::xs,[]⟩)).RW<=X.A.RW+1:=by
  exact BF.OH hd
 have hun:(A'.under (.Dd "type.__call__" ⟨.C9 C::xs,[]⟩)).LL<=X.A.LL+10:=by
  exact BF.On (BF.OH hu) (BF.add_le_add_left (by decide:6<=10) _)
 refine kP (n:=n) (X:=X.F8 (e,Cy C BH t0 .BH)) (b':=cs.A8) (bs':=X.bs) FK HB room hA hdp hun q hg ho (λb hb=>⟨(q.bd b hb).1,(q.bd b hb).2,(q.bd b hb).1⟩) jy hb λX' Lk σ1 s1 H' O P6 eA e1 e2 e3 e4 FG le0 R1=> ?_;generalize (A'.under (.Dd "type.__call__" ⟨.C9 C::xs,[]⟩)).Rp Lk=A1;obtain⟨Y',Cs,hY⟩:∃Y',X'=Fx.F8 Y' (e,Cy C BH t0 .BH)/\Y'.bl=X.bl:=⟨_,y7 e1,Cs⟩;have HY:C5 K Y':=⟨H'.B,H'.fr,H'.ff,H'.fk,H'.fl,H'.hh,H'.lim,H'.KX,H'.gn,H'.bn⟩;have hereY:AB K n Y' ⟨fi.Jm,cs.A8,Bj⟩ Lk:=⟨HY,⟨P6.e.hk,P6.e.hg,P6.e.hb,P6.e.hf,P6.e.hn,P6.e.bs,P6.e.own⟩,P6.r⟩
 obtain⟨p1,p2,p3,p4,p5,p6,p7,p8,p9,p10,p11,p12,p13,p14,hbody,hpos⟩:=IF.bd;have vE:Bi G ⟨fi.Jm,cs.A8,Bj⟩ EO [(Cp,.t (.Km (.C9 e))),(AF,wv),(Cw,av)]=A9 (.t (.Km (.Ds "Exception"))):=by
  unfold Bi;rw[IF.gl,IF.gx];rfl
 have ZX:Bi G ⟨fi.Jm,cs.A8,Bj⟩ Cp [(Cp,.t (.Km (.C9 e))),(AF,wv),(Cw,av)]=A9 (.t (.Km (.C9 e))):=rfl;have vW:Bi G ⟨fi.Jm,cs.A8,Bj⟩ AF [(Cp,.t (.Km (.C9 e))),(AF,wv),(Cw,av)]=A9 wv:=rfl;have vA:Bi G ⟨fi.Jm,cs.A8,Bj⟩ Cw [(Cp,.t (.Km (.C9 e))),(AF,wv),(Cw,av)]=A9 av:=rfl;have hlY:Lk.J6=Y'.L:=O.ll;rw[hbody];refine LM ?_;obtain⟨⟨m1,ml1,Xe,q1⟩,hg1,ho1⟩:=id R1;have KI1:K.In σ1.gr:=λa o x=>H'.turn q1.T (H'.KX a o x);refine o6 (sv:= .C9 e) (P:=λy=>Ad w σ1 wv y) q1.F KI1 hpos (cR P6) (λQ p hq=> ?_) (λQ p tk hq=> ?_) (λQ p tk hq=> ?_) λtk y hy=> ?_
 .exact aS GK P6 R1 vE λy hy=>by obtain rfl:=aR (w:=w) (fz:=σ1.fz) hy;exact hq
 .exact aS GK P6 (R1.Dp tk) ZX λy hy=>by obtain rfl:=aR (w:=w) (fz:=σ1.fz) hy;exact hq
 .exact aS GK P6 (R1.Dp tk) vW hq
 have he1:s1.Dn.D7 e=A9 (Cy C BH t0 .BH):=(R1.RJ (q:=(e,Cy C BH t0 .BH)) (.Jn _)).1;obtain⟨oc,od,cdC,slC,hC,e2',e4'⟩:=(bT (M:=QF FZ w) (R1.KIn H') P.made).Km;have sub1:∀h',(∀b o,s1.Dn.D7 b=A9 o->h'.D7 b=A9 o)->Ll `t h' (U7 (.C9 C) (.Ds "Exception")) Bj:=λh' k=>(bT (M:=QF FZ w) ((R1.KIn H').keeps k) P.made).Oj;obtain⟨h1,g1,dr1,t1,os1⟩:=s1;refine o9 (t0:=t0) hC sub1 he1 ⟨Cs,?_⟩;have hne1:h1.KL.Id≠e:=BF.ne_of_gt (Ev.RL he1);have R2:Ak w (Y'.F8 (e,Cy C BH h1.KL.Id .BH)) σ1 Lk [(Cp,.t (.Km (.C9 e))),(AF,wv),(Cw,av)] cs ⟨(h1.Lr {Ov:= .Ds "tuple",KA:= .KH #[y]}).KO e (KJ.N6 (·.Ka 0 (.C9 h1.KL.Id))),g1,dr1,tk,os1⟩:=
  R1.Xq (q':=(e,Cy C BH h1.KL.Id .BH)) (h':=(h1.Lr {Ov:= .Ds "tuple",KA:= .KH #[y]}).KO e (KJ.N6 (·.Ka 0 (.C9 h1.KL.Id)))) hlY rfl (λb o hb he=>(Ev.MP _ _ _ _ hb).CX (Ev.EB _ he)) (Ev.Ku _ (Ev.EB _ he1) rfl) tk
 clear R1 q1 sub1;generalize h1.KL.Id=t2 at R2;generalize (h1.Lr {Ov:= .Ds "tuple",KA:= .KH #[y]}).KO e (KJ.N6 (·.Ka 0 (.C9 t2)))=h2' at R2⊢;refine LM (PG ?_ rfl);refine aS GK (hereY.F8 _) R2 vW λy2 hy2=> ?_;refine aS GK (hereY.F8 _) R2 ZX λy3 hy3=> ?_
 obtain rfl:=aR (w:=w) (fz:=σ1.fz) hy3
 have he2:h2'.D7 e=A9 (Cy C BH t2 .BH):=(R2.RJ (q:=(e,Cy C BH t2 .BH)) (.Jn _)).1;have KI2:=R2.KIn (cY HY _);refine sT KI2 c1 c2 c3 P.set P.nw he2 λh3 dx tk3 H3 k3 n3 ne3 ex3 dx3=> ?_;have R3:=R2.bumpTake (q':=(e,Cy C (A9 dx) t2 .BH)) (p:=(dx,AK [⟨H3,.Dq AF tk3,y2⟩] 1)) hlY rfl k3 ex3 n3 dx3 (tk+2);refine LM (PG ?_ rfl);have hereZ:AB K n ((Y'.F8 (e,Cy C (A9 dx) t2 .BH)).F8 (dx,AK [⟨H3,.Dq AF tk3,y2⟩] 1)) ⟨fi.Jm,cs.A8,Bj⟩ Lk:=(hereY.F8 _).F8 _;refine aS GK hereZ R3 vA λy4 hy4=> ?_;refine aS GK hereZ R3 ZX λy5 hy5=> ?_
 obtain rfl:=aR (w:=w) (fz:=σ1.fz) hy5
 have he3:h3.D7 e=A9 (Cy C (A9 dx) t2 .BH):=(R3.RJ (q:=(e,Cy C (A9 dx) t2 .BH)) (.Do _ (.Jn _))).1;refine sS (R3.KIn hereZ.x) c1 c2 c3 P.set P.na he3 dx3 rfl (by simp) λh4 tk4 H4 k4 dx4=> ?_;have R4:=R3.Xq (q':=(dx,AK (putL Cw H4 (.Dq Cw tk4) y4 [⟨H3,.Dq AF tk3,y2⟩]) (putN Cw [⟨H3,.Dq AF tk3,y2⟩] 1))) hlY rfl k4 dx4 (tk+2+2);have Vo:(Bl.Dq AF tk3).Wu Cw=Be:=by lk
 have hp:putL Cw H4 (.Dq Cw tk4) y4 [⟨H3,.Dq AF tk3,y2⟩]=[⟨H3,.Dq AF tk3,y2⟩,⟨H4,.Dq Cw tk4,y4⟩]:=by
  show(if(Bl.Dq AF tk3).Wu Cw then _ else _)=_
  rw[Vo];rfl
 rw[hp] at R4;generalize hes:([⟨H3,.Dq AF tk3,y2⟩,⟨H4,.Dq Cw tk4,y4⟩]:AT Ex)=es4 at R4;generalize putN Cw [⟨H3,.Dq AF tk3,y2⟩] 1=n4 at R4;refine PY ⟨Cs,?_⟩;obtain⟨γ,R5⟩:=gZ (X':=(Y'.F8 (e,Cy C (A9 dx) t2 .BH)).F8 (dx,AK es4 n4)) HB hl e2 e3 q FG R4.1 le0;have R6:Ak w ((X.F8 (e,Cy C (A9 dx) t2 .BH)).F8 (dx,AK es4 n4)) ⟨γ,σ1.fz,σ1.ca⟩ CL ve cs ⟨h4,g1,dr1,tk+2+2,os1⟩:=by
  refine⟨?_,R4.2.1,R4.2.2.CX e4⟩
  have:({X.F8 (e,Cy C BH t0 .BH) with bl:=((Y'.F8 (e,Cy C (A9 dx) t2 .BH)).F8 (dx,AK es4 n4)).bl}:Fx)=
   ((X.F8 (e,Cy C (A9 dx) t2 .BH)).F8 (dx,AK es4 n4)):=by
   unfold Fx.F8;rw[hY]
  exact F4▸R5
 have le1:σ1.le ((⟨γ,σ1.fz,σ1.ca⟩:Sg).add (dx,AK es4 n4)):=⟨λ_ h=> .Do _ h,[],by simp[Sg.add]⟩;refine hQ _ e dx _ _ t2 _ (le0.CX le1) (.Jn _) ?_ (R6.settle hl);subst hes;refine⟨_,_,Cs,⟨tk3,Cs⟩,?_,_,_,Cs,⟨tk4,Cs⟩,?_,Cs⟩
 .exact hy2.Ey le1
 .exact hy4.Ey le1
end
section
def E1 (hd:Bq Bl) (e:EA) (E:Bl->CW->Prop) (s:CW):Prop:=match hd with
 |BH=>E (.C9 e) s
 |A9 hv=>∃b oh vh,hv= .C9 b/\b≠e/\s.Dn.D7 b=A9 oh/\oh.KA= .J5 vh/\vh[2]?=A9 .BH/\E (.C9 e) {s with Dn:=s.Dn.KO e (KJ.N6 (·.Ka 2 hv))}
theorem gW:entryFor table "proto.unchain"=A9 Kj.«proto.unchain»:=entryFor_of_tree ()
theorem lz {C f:BF} (P:Pl K C f) {x:U8 Bl} {Q:Rb->CW->Prop}
  (h:`a A x (λv s₁=>∃e d t,v= .C9 e/\K.In s₁.Dn/\s₁.Dn.D7 e=A9 (Cy C d t .BH)/\E1 A.OA e E s₁) E s):
  `a A (raiseStmt CL (A9 x) BH) Q E s:=by
 unfold raiseStmt;refine Ch (Ho h (λv s₁ h₁=> ?_) λ_ _ x=>x);obtain⟨e,d,t,Cs,KI,he,hE⟩:=h₁;obtain⟨hp,g,dr,tk,os⟩:=s₁;have Y:=bT (M:=QF FZ w) KI P.made;have b1:=Y.bexc;have t1:Ll `t hp (Xh (.C9 e)) (.C9 C):=(Ll.ld he).PS .now;have t2:Ll `t hp (Xh (.C9 C)) (.Ds "type"):=looks_typeIn KI P.ty;have i1:Ll `t hp (RK (.C9 e) (.Ds "BaseException")) Bj:=t1.PS b1;have f1:Ll `t hp (Vx (.C9 e) 1) .BH:=λA Q E s k q=>Lg (k _ _ he) rfl rfl q
 repeat (first|refine jz ?_|refine fG ?_|(with_reducible refine VC he ?_)|lk|wp_step)
 refine wpAny_handled ?_;unfold E1 at hE;split at hE
 .rename_i e1
  rw[e1];exact wpAny_throw hE
 .rename_i hv e1
  rw[e1];obtain⟨b,oh,vh,Cs,hb,hh,hd,h2,hE⟩:=hE;have Vo:(Bl.C9 b !=Bl.C9 e)=Bj:=by simp[bne,hb]
  dsimp only;rw[Lu Vo];refine Ch (Kh (wpAny_runValue (codeAny_builtin gW ?_)));unfold Kj.«proto.unchain»;refine Ch (Lg hh hd h2 ?_);rw[show(Bl.BH==Bl.BH)=Bj from by decide,Lu rfl];refine De ?_;dsimp only;refine Ch ?_;unfold updateField;refine Ch (wpAny_load he ?_);show Ic _ _ (if 2<_ then KO e _ else _) _ _ _;rw[Lu (by simp)];exact wpAny_update he (wpAny_throw hE)
theorem fQ (GK:Jk K G) {f C:BF} {fi:Hj} (FK:IP w K f fi) (IF:HM G fi) (hE:Gv K C f=Bj) (H:C5 K X) (room:IK (n+1) X) (hl:CL.J6=X.L)
  (hA:A.KZ=X.A.KZ) (hd:A.RW<=X.A.RW) (hu:A.LL<=X.A.LL+5) {x:Dr} {np cp HW:Oz} {e₀:D8.Ez} {es:AT D8.Ez} {Q:Rb->CW->Prop} (hs:(e₀::es).VG Bh=Bj)
  (n1:∀Q:Bl->CW->Prop,Q (.C9 C) s->`a A (Oc (.JV x np) CL) Q E s)
  (ar:`a A (spliced (Rl cp (OG (e₀::es) CL))) (λxs s'=>∃σ' Kg vs wv av,Ak w X σ' CL ve Kg s'/\Ac w σ' vs xs/\((vs=[wv]/\av= .t .Kr)\/vs=[wv,av])/\
   ∀σ2 e d ds nn t s2,σ'.le σ2->(d,AK ds nn)∈σ2.fz->AI w σ2 [(AF,wv),(Cw,av)] ds->Ak w (X.F8 (e,Cy C (A9 d) t .BH)) σ2 CL ve Kg s2->E1 A.OA e E s2) E s):
  `a A (Rq (.Sd (A9 (.QI (.JV x np) (e₀::es) [] cp)) BH HW) CL) Q E s:=by
 have P:=gE hE;rw[arm_exec_Raise];rw[show evalOpt (A9 (.QI (.JV x np) (e₀::es) [] cp)) CL=A9 (Oc (.QI (.JV x np) (e₀::es) [] cp) CL) from rfl];dsimp only[Bq.FW];refine Ch (Kx (lz P (Ch (Ho (wpAny_Call_ofName (n1 _ ?_)) (λv s₃ h₃=>Ch (Kx (De h₃))) λ_ _ x=>x))));refine callWith_of (P:=λh=>K.In h) (by rw[cy hs];rfl) (λh KI=>dc (FZ:=FZ) (w:=w) P.kp h KI) ?_;rw[AT.RU,CV.DG] at hs;have hm:Rl cp (OG (e₀::es) CL)=(Be,Oc e₀ CL)::Rl cp (OG es CL):=by
  cases e₀<;>first|rfl|exact CV.JT (hs.1:Be=Bj)
 rw[hm] at ar⊢;refine evalArgs_plain (Ho ar (λxs s' z=> ?_) λ_ _ x=>x);obtain⟨σ',Kg,vs,wv,av,R',rv,hvs,hq⟩:=z;refine⟨R'.KIn H,Qn (sV GK FK IF hE H room hl R' rv hA hd hu hvs λσ2 e d ds nn t s2 l2 m2 r2 R2=> ?_)⟩;exact⟨e,A9 d,t,Cs,R2.KIn (cY H _),(R2.RJ (q:=(e,Cy C (A9 d) t .BH)) (.Jn _)).1,hq σ2 e d ds nn t s2 l2 m2 r2 R2⟩
theorem f7 {e d t:EA} {C c:BF} {cxv:Bl} {ds:AT Ex} {nn:BF} {wv av:V} (hc:En c=C) (hctx:BF.blt c Em=Bj->cxv= .BH) (hl:CL.J6=X.L) (R:Ak w (X.F8 (e,Cy C (A9 d) t cxv)) σ CL ve cs s) (hm:(d,AK ds nn)∈σ.fz)
  (hr:AI w σ [(AF,wv),(Cw,av)] ds):Ep w X σ CL ve c wv av cs (.C9 e) s:=by
 have he:=(R.RJ (q:=(e,Cy C (A9 d) t cxv)) (.Jn _)).1;obtain⟨⟨m,ml,G2,r⟩,hg,ho⟩:=R;have nd:=((aM (X:=X) (σ:=σ) (G2:=G2) (q:=(e,Cy C (A9 d) t cxv))).FW VH.fst).Lz.mp r.nd;have nq:=r.N _ (mU (X:=X) (σ:=σ) (G2:=G2) (q:=(e,Cy C (A9 d) t cxv)));have r0:=r.F3 hl (h':=s.Dn) λ_ _ _ e=>e;have hml:m=ml:=bu r.F.ns (hl▸r.ns);subst hml;refine⟨e,d,ds,nn,G2,m,Cs,r0.J2,r0.nd,hm,hr,r0.bd,λ_=>r0.V0,r0.T,hg,ho,⟨_,he,Cs,λz=> ?_⟩,.HX ⟨_,_,.C9 t,by rewrite [hc];exact he,Cs,Cs,r0.F,r0.N,?_,nq.2.2⟩⟩
 .rw[hctx z];rfl
 .rw[AT.JS,AT.Kv] at nd
  exact nd.1
theorem qm (GK:Jk K G) (GE:∀C,G.Oj C=Bj->C<Em/\∃f fi,IP w K f fi/\HM G fi/\Gv K C f=Bj) {r:IL} {ke:KX} {an:An->Prop} (S:B0 w FZ K (n+1) an r.ev) (H:AB K (n+1) X cx CL) (O:DC X CL) (R:`b s) (ha:BZ an) {x:Dr} {np cp HW:Oz} {args:AT D8.Ez} {Q:Rb->CW->Prop}
  (h:an (SH G r cx x args ve cs ke)) (hE:∀ve,`k):`a X.A (Rq (.Sd (A9 (.QI (.JV x np) args [] cp)) BH HW) CL) Q E s:=by
 refine am ha h λhs h=>ab ha h λfv e1 h=>ab ha h λC er h=>am ha h λhC h=>dP (q:=λfv=>Bi G cx x ve=A9 fv->_) er (λe1=> ?_) e1;cases args with
 |HU=>exact(ha 160 h).Dk
 |Dc e₀ args=>
  obtain⟨c1,f,fi,FK,IF,Aaf⟩:=GE C hC;have cc:BF.blt C Em=Bj:=by simpa [BF.blt_eq] using c1
  have ec:En C=C:=by unfold En;rw[cc]
  refine fQ (ve:=ve) GK FK IF Aaf H.x H.r O.ll rfl `M `I hs (λQ hq=>aS GK H R e1 λy hy=>by obtain rfl:=aR (w:=w) (fz:=σ.fz) hy;exact hq) ?_;refine jl S H ha R h (λσ' vs xs Kg s' l R' rv h=> ?_) `R;rw[H.x.hh];cases vs with
  |HU=>exact(ha 160 h).Dk
  |Dc w0 q=>cases q with
   |HU=>exact⟨σ',Kg,_,_,.t .Kr,R',rv,.HX ⟨Cs,Cs⟩,λσ2 e d ds nn t s2 l2 m2 r2 R2=>hE ve σ2 C _ _ _ _ s2 (l.CX l2) (f7 ec (λ_=>rfl) O.ll R2 m2 r2) h⟩
   |Dc a q2=>cases q2 with
    |HU=>exact⟨σ',Kg,_,_,_,R',rv,.G4 rfl,λσ2 e d ds nn t s2 l2 m2 r2 R2=>hE ve σ2 C _ _ _ _ s2 (l.CX l2) (f7 ec (λ_=>rfl) O.ll R2 m2 r2) h⟩
    |Dc _ _=>exact(ha 160 h).Dk
end
def Ph (w:FX) (X:Fx) (σ:Sg) (CL:Qp) (ve:Ag) (c:BF) (wv av:V) (cs:St) (ea:EA) (s:CW):Prop:=
 ∃T Z7 oT d ds nn vs ts,Ak w ((X.F8 (ea,Z7)).F8 (T,oT)) σ CL ve cs s/\Z7.Ov= .C9 (En c)/\Z7.LG=A9 d/\Z7.KA= .J5 vs/\vs[1]?=A9 (.C9 T)/\oT.KA= .J5 ts/\3<ts.Id/\(BF.blt c Em=Bj->vs[2]?=A9 .BH)/\
  (d,AK ds nn)∈σ.fz/\AI w σ [(AF,wv),(Cw,av)] ds
section
variable {M:VX} {q:EA×KJ}
theorem AN.addB (r:`j) (e:h.D7 q.1=A9 q.2) (n1:q.1∉(Aq X σ G2).FW (·.1)) (n2:q.1≠X.L) (n3:σ.gr.D7 q.1=BH) (hl:CL.J6=X.L):AN w (X.F8 q) σ CL ve cs h m ml G2:=by
 refine⟨r.F,r.ns,r.V0,r.J2,λp hp=> ?_,?_,r.bd,.HX hl,r.T⟩
 .rcases AT.GZ.mp ((aM (X:=X) (σ:=σ) (G2:=G2) (q:=q)).OF.mp hp) with rfl|hp
  .exact⟨e,n2,n3⟩
  .exact r.N p hp
 .exact((aM (X:=X) (σ:=σ) (G2:=G2) (q:=q)).FW VH.fst).Lz.Lq (AT.Kv.Lq ⟨n1,r.nd⟩)
theorem vM (H:C5 K X) (hl:CL.J6=X.L) {c:BF} {wv av:V} {ea d:EA} {ds:AT Ex} {nn:BF} (x:Fj w X σ CL ve c wv av cs ea s d ds nn G2 m) {B hp h5:Ev} {a0:Bl} (b1:∀b o,σ.gr.D7 b=A9 o->b∉Bo X->B.D7 b=A9 o)
  (b2:∀q∈Aq X σ G2,B.D7 q.1=A9 q.2) (fl:Ev.FlyingW B (X.Li::X.J9) ea (.C9 (En c)) a0 h5) (Fp:Fr σ.gr X.L hp m) (Np:Pz σ.gr X.L hp `A) (up:hp.P0 h5)
  (hd:∃Z7,h5.D7 ea=A9 Z7/\Z7.LG=A9 d/\(BF.blt c Em=Bj->V1 Z7=A9 .BH)):∃σ',σ.le σ'/\Ph w X σ' CL ve c wv av cs ea {s with Dn:=h5}:=by
 obtain⟨A₀,Bel⟩:=H.below x.T;obtain⟨f1,f2',f3,Z7,vs,T,oT,ts,g1,⟨g2,g2'⟩,g3,g4,g5,g6,g7,g8,g9⟩:=fl;obtain⟨T1,S⟩:=kts_turn_at (h:=h5) (fs:=Bo X) (g:=σ.gr) (λb hb=>by
   obtain⟨_,o,ho,_⟩:=Bel.KZ.PH hb;exact⟨o,ho⟩) (λb o e Z8=>f1 b o (b1 b o e Z8)) (λb o e hm=>by
   obtain⟨_,o',ho',hd⟩:=Bel.KZ.PH hm;rw[e] at ho';cases ho';exact up b o (Fp.QH b o e) hd)
 have F5:Fr (ktsHeap h5 (Bo X) σ.gr) X.L h5 m:=⟨up.ns Fp.ns,S,by rw[T1.Id];exact Fp.above⟩;have N5:Pz (ktsHeap h5 (Bo X) σ.gr) X.L h5 `A:=λq hq=>⟨f1 _ _ (b2 q hq),(Np q hq).2.1,T1.none_ _ (Np q hq).2.2⟩;have Wo:∀{b:EA} {o:KJ} {us:KU Bl},h5.D7 b=A9 o->o.KA= .J5 us->B.D7 b=BH->b∉(Aq X σ G2).FW (·.1)/\b≠X.L/\(ktsHeap h5 (Bo X) σ.gr).D7 b=BH:=λ{b o us} e ef eb=>by
  refine⟨λhm=> ?_,λz=> ?_,T1.none_ _ ?_⟩
  .obtain⟨q,hq,Cs⟩:=AT.KY.mp hm
   rw[b2 q hq] at eb;cases eb
  .obtain⟨o',es,ep,e1,e2,_⟩:=F5.ns
   rw[<-z,e] at e1;cases e1;rw[ef] at e2;cases e2
  .cases e1:σ.gr.D7 b with
   |BH=>rfl
   |A9 o'=>
    by_cases hm:b∈Bo X
    .obtain⟨_,o2,h2,hd⟩:=Bel.KZ.PH hm
     rw[e1] at h2;cases h2;obtain⟨sl,hs⟩:=up b o' (Fp.QH b o' e1) hd;rw[e] at hs;cases hs;exact(hd _ ef).Dk
    .rw[b1 b o' e1 hm] at eb;cases eb
 obtain⟨oe',d1,d2,d3⟩:=hd
 obtain rfl:Z7=oe':=Bq.A9.Ky (g1.Hl.CX d1)
 have le:σ.le ⟨ktsHeap h5 (Bo X) σ.gr,σ.fz,σ.ca⟩:=⟨λ_ h=>h,[],by simp⟩;have r0:AN w X ⟨ktsHeap h5 (Bo X) σ.gr,σ.fz,σ.ca⟩ CL ve cs h5 m m G2:=⟨F5,hl▸F5.ns,(x.V0 hl).Ey le,x.J2.Ey le,N5,x.nd,x.bd,.HX hl,x.T.CX T1⟩;obtain⟨n1,n2,n3⟩:=Wo g1 g3 f2';obtain⟨k1,k2,k3⟩:=Wo g7 g8 g5;have r1:=r0.addB (q:=(ea,Z7)) g1 n1 n2 n3 hl;have r2:=r1.addB (q:=(T,oT)) g7 (λhm=>by
  have hm:=((aM (X:=X) (σ:=⟨ktsHeap h5 (Bo X) σ.gr,σ.fz,σ.ca⟩) (G2:=G2) (q:=(ea,Z7))).FW VH.fst).OF.mp hm;rcases AT.GZ.mp hm with z|z
  .exact g6 z
  .exact k1 z) k2 k3 hl
 refine⟨_,le,T,Z7,oT,d,ds,nn,vs,ts,⟨⟨m,m,G2,r2⟩,x.N8,x.os⟩,g2,d2,g3,g4,g8,(KU.JY.mp g9).1,λz=> ?_,x.dm,x.df.Ey le⟩
 have:=d3 z
 unfold V1 at F4;rw[g3] at F4;exact F4
theorem yM (H:C5 K X) (hl:CL.J6=X.L) (hA:A.KZ=A9 (X.Li::X.J9)) {c:BF} {wv av:V} {e:Bl} (x:Ep w X σ CL ve c wv av cs e s) {Q:LI->CW->Prop} {E:Bl->CW->Prop}
  (hQ:∀ea σ' Z4,e= .C9 ea->σ.le σ'->Ph w X σ' CL ve c wv av cs ea Z4->Q LI.Qe Z4):Ic M A (K0 e X.Li) (λ_ s₂=>Ic M A (Oy e BH) Q E s₂) E s:=by
 obtain⟨ea,d,ds,nn,G2,m,Cs,x⟩:=x;have K7:∀(B hp h4:Ev) (a0:Bl),(∀b o,σ.gr.D7 b=A9 o->b∉Bo X->B.D7 b=A9 o)->(∀q∈Aq X σ G2,B.D7 q.1=A9 q.2)->Fr σ.gr X.L hp m->Pz σ.gr X.L hp `A->Ev.HeldW B (X.Li::X.J9) ea (.C9 (En c)) a0 X.L h4->hp.P0 h4->DK s.Dn h4->
   Ic M A (Oy (.C9 ea) BH) Q E {s with Dn:=h4}:=λB hp h4 a0 b1 b2 Fp Np hh up dk=>by
  refine Ho (KD.Xa (KD.Oy (.C9 ea) BH) (wpAny_landsW (s:={s with Dn:=h4}) (Q:=λ_ Sk=>∃Rc,Sk={s with Dn:=Rc}/\Ev.FlyingW B (X.Li::X.J9) ea (.C9 (En c)) a0 Rc/\h4.P0 Rc) (E:=λ_ _=>Re) hh λRc k1 k2=>⟨Rc,Cs,k1,k2⟩)) (λ_ Sk hq=> ?_) λ_ _ z=>z.1.Dk;obtain⟨⟨h5,Cs,k1,k2⟩,dk2⟩:=hq;obtain⟨Z7,g1,g2,g3⟩:=x.LG;obtain⟨o',g4,g5⟩:=(dk.CX dk2) _ _ g1;obtain⟨σ',le,hn⟩:=vM H hl x b1 b2 k1 Fp Np (up.CX k2) ⟨o',g4,g5.1.CX g2,λz=>g5.2.CX (g3 z)⟩;exact hQ ea σ' _ rfl le hn
 rcases x.Ri with⟨vs,sl,a0,he,h1,h0,Fs,Ns',hn,hg⟩|⟨B,a0,hp,b1,b2,fl,Fp,Np,up⟩|⟨B,a0,b1,b2,hh,Fp,Np⟩
 .obtain⟨A₀,Bel⟩:=H.below x.T
  have Bp:=pushX Bel Fs H.ff H.fk;have hin:∀ev∈(X.Li::X.J9),∀b,ev.Wp=A9 b->b∈ea::X.L::Bo X:=λev hev b hb=>by
   rcases AT.GZ.mp hev with rfl|hev
   .rw[H.ff] at hb;cases hb;exact .Do _ (.Jn _)
   .exact .Do _ (.Do _ (AT.mem_filterMap.Lq ⟨ev,hev,hb⟩))
  have hen:(P8 s.Dn (ea::X.L::Bo X)).D7 ea=BH:=Rn _ (.Jn _);have nf:Ic M A (K0 (.C9 ea) X.Li) (λ_ Sk=>∃Rc,Sk={s with Dn:=Rc}/\Ev.NotedW (P8 s.Dn (ea::X.L::Bo X)) (X.Li::X.J9) ea (.C9 (En c)) a0 (Os X.L) s.Dn Rc) (λ_ _=>Re) s:=by
   unfold K0;simp only[H.ff];refine Ch (Lg he rfl h1 ?_);rw[Ko (by decide)];exact wpAny_entryW hA (funFrames_hide Bp.KZ hin) H.ff he (λb o e=>RI _ e) hen rfl (KU.JY.mp h1).1 h0 λRc N=>⟨Rc,Cs,N⟩
  refine Ho (KD.Xa (KD.K0 (.C9 ea) X.Li) nf) (λ_ Sk hq=> ?_) λ_ _ z=>z.1.Dk;obtain⟨⟨h4,Cs,k1,k2,k3,k4⟩,dk⟩:=hq;have nsm:∀b,b∈X.L::Bo X->∀q∈Aq X σ G2,q.1≠b:=λb hb q hq e=>by
   rcases AT.GZ.mp hb with z|z
   .exact(Ns' q hq).2.1 (e.CX z)
   .obtain⟨o,ho,_⟩:=(Bel.KZ.PH z).2
    have:=(Ns' q hq).2.2
    rw[e,ho] at F4;cases F4
  refine K7 _ s.Dn h4 a0 (λb o e Z8=>Ql _ (Fs.QH b o e) λhm=> ?_) (λq hq=>Ql _ (Ns' q hq).1 λhm=> ?_) Fs Ns' ⟨k1,hen,k2,k3⟩ k4 dk
  .rcases AT.GZ.mp hm with z|hm
   .rw[z,hg] at e;cases e
   .rcases AT.GZ.mp hm with z|hm
    .have:=kts_self Fs
     rw[<-z,e] at F4;cases F4
    .exact Z8 hm
  .rcases AT.GZ.mp hm with z|hm
   .exact hn (z▸AT.Ib hq)
   .exact nsm _ hm q hq rfl
 .refine Ho (KD.Xa (KD.K0 (.C9 ea) X.Li) (wpAny_looks_onW (Q:=λ_ Sk=>∃Rc,Sk={s with Dn:=Rc}/\Ev.HeldW B (X.Li::X.J9) ea (.C9 (En c)) a0 X.L Rc/\s.Dn.P0 Rc) (E:=λ_ _=>Re) hA H.ff fl λRc x1 x2=>⟨Rc,Cs,x1,x2⟩)) (λ_ Sk hq=> ?_) λ_ _ z=>z.1.Dk
  obtain⟨⟨h4,Cs,k1,k2⟩,dk⟩:=hq;exact K7 B hp h4 a0 b1 b2 Fp Np k1 (up.CX k2) dk
 .exact PR H.ff hh.2.2.2 (K7 B s.Dn s.Dn a0 b1 b2 Fp Np hh (.Xl _) (.Xl _))
end
section
variable {C:EA} {g:KU GenState} {dr:Drawn} {tk:BF} {os:Rd}
theorem vR {C f:BF} (X:K.In h) (P:Pl K C f) {e d:EA} {Z7:KJ} {ds:AT Ex} {n:BF} {F6:Dr} {y:Bl} {expr:CV} {Q:Bl->CW->Prop} (hf:Of K (.C9 C) F6=A9 BH) (he:h.D7 e=A9 Z7) (hc:Z7.Ov= .C9 C) (hd:Z7.LG=A9 d) {vs:KU Bl} (hv:Z7.KA= .J5 vs)
  (hdx:h.D7 d=A9 (AK ds n)) (hl:lookIn F6 (AK ds n)=A9 (A9 y)) (hh:handedIn y=Bj) (hq:Q y ⟨h,g,dr,tk+1,os⟩):`a A (getAttr (.C9 e) F6 expr) Q E ⟨h,g,dr,tk,os⟩:=by
 obtain⟨oc,od,dt,sl⟩:=Z7
 obtain rfl:oc= .C9 C:=hc
 obtain rfl:od=A9 d:=hd
 obtain rfl:dt= .J5 vs:=hv
 have I:InstAt h e ⟨.C9 C,A9 d,.J5 vs,sl⟩ C (A9 (AK ds n)):=⟨he,Cs,Cs,hdx⟩;have Y:=bT (M:=QF FZ w) X P.made;obtain⟨cd,c1,c2,c3⟩:=P.cd;have L0:Ll `t h (Xh (.C9 e)) (.C9 C):=I.Ds;have L1:=Wk (M:=QF FZ w) X P.ga;have L2:=Wk (M:=QF FZ w) X P.gt;have ff:findObj K C (A9 (AK ds n)) F6=A9 (.value y):=by
  unfold findObj;have o1:D8.W.ownOf cd (A9 (AK ds n)) F6=A9 (A9 y):=by simp only[D8.W.ownOf,c3,if_true,hl]
  rw[c1,hf]
  show(D8.W.ownOf cd (A9 (AK ds n)) F6).G3 _=_
  rw[o1];rfl
 have L3:=looks_find (M:=QF FZ w) X I ff;have fb:=D8.F.attr_Exception.ga;have f3:=fb.G3 (.C9 e);have y9:(expr&&onTheHeap (Bl.Dd "BaseException.__getattribute__"))=Be:=by cases expr<;>rfl
 have sr:(Bl.Dd "BaseException.__getattribute__"==Bl.Dd "object.__getattribute__")=Be:=by decide+QG
 have b1:Ll `t h (RK (.C9 e) (.Ds "BaseException")) Bj:=L0.PS Y.bexc;unfold getAttr getAttrBy;refine Ch (wpAny_mkText (Kh (Ch (L0.at (Ch (L1.at ?_))))));dsimp only;rw[sr,CV.and_false];rw[Ko (by decide)];unfold getAttrByItsOwn hookBefore;rw[Lu (show onTheHeap (.C9 C)=Bj from rfl)];refine Ch (L2.at (Ch (wpAny_attempt (Kh ?_))));unfold callGetattribute boundAndCalled;rw[y9,Ko (by decide),f3];refine Ch (De ?_);have hk:builtinKind "BaseException.__getattribute__"=A9 .slot:=by decide+QG
 have hsplit:splitId "BaseException.__getattribute__"=A9 ("BaseException","__getattribute__"):=by decide+QG
 refine Qn (R9 fb.QD D8.F.entry_bexc_ga (@check_slot `t _ _ _ "BaseException.__getattribute__" "BaseException" "__getattribute__" (.C9 e) [.Dq F6 tk] [] _ hk hsplit b1 (D8.F.args_bexc_ga (.C9 e) (.Dq F6 tk)) ?_));unfold Kj.«object.__getattribute__»;refine Ch (De (Ch (De (Ch (L0.at (Ch (L3.at ?_)))))));refine De ?_;dsimp only;rw[handedOut_of hh];exact De hq
def L4 (K:Lo) (C D:EA) (b:CV):CV:=mroIn K C (.C9 D)==A9 b
def FS (K:Lo) (D:EA):CV:=HD K D&&instIn K (.C9 D) (.Ds "tuple")==A9 Be
theorem kC (X:K.In h) {C D e:EA} {Z7:KJ} {b:CV} (hD:FS K D=Bj) (hs:L4 K C D b=Bj) (he:h.D7 e=A9 Z7) (hc:Z7.Ov= .C9 C) {Q:CV->CW->Prop} (hq:Q b ⟨h,g,dr,tk,os⟩):
  `a A (excMatches (.C9 e) (.C9 D)) Q E ⟨h,g,dr,tk,os⟩:=by
 unfold FS at hD;rw[CV.DG,Kw] at hD;have Y:=bT (M:=QF FZ w) X hD.1;have L0:Ll `t h (Xh (.C9 e)) (.C9 C):=by
  have:Ll `t h (Xh (.C9 e)) Z7.Ov:=(Ll.ld he).PS .now
  exact hc▸F4
 have nt:=looks_instIn (M:=QF FZ w) X hD.2;have L1:=Q9 (M:=QF FZ w) X (Kw.mp hs);unfold excMatches;refine Ch (nt.P6 ?_);rw[Ko (by decide)];refine Ch (De (Ch ?_));rw[AT.QV];refine Ch (Ch ?_);unfold isExcClass isType;obtain⟨oc,od,cdD,slD,hD2,_,_⟩:=Y.Km;refine Ch (Ch (Ru hD2 (De ?_)));rw[Lu rfl];refine Y.bexc.P6 ?_;rw[Ko (by decide)];refine De (De ?_);refine Ch (L0.P6 ?_);rw[AT.QV];refine Ch (Ch (Ch (L1.P6 ?_)))
 cases b with
 |Bj=>exact De (De (De hq))
 |Be=>
  rw[Ko (by decide)];exact De (De (De hq))
end
def DY (w:FX) (X:Fx) (σ:Sg) (CL:Qp) (ve:Ag) (c:BF) (wv av:V) (cs:St) (ea:EA) (s:CW):Prop:=
 ∃d ds nn G2 m B a0,Fj w X σ CL ve c wv av cs ea s d ds nn G2 m/\(∀b o,σ.gr.D7 b=A9 o->b∉Bo X->B.D7 b=A9 o)/\(∀q∈Aq X σ G2,B.D7 q.1=A9 q.2)/\
  Ev.HeldW B (X.Li::X.J9) ea (.C9 (En c)) a0 X.L s.Dn/\Fr σ.gr X.L s.Dn m/\Pz σ.gr X.L s.Dn `A
section
variable {M:VX} {q:EA×KJ} {c:BF} {wv av:V} {ea:EA}
theorem zi (H:C5 K X) {d:EA} {ds:AT Ex} {nn:BF} (x:Fj w X σ CL ve c wv av cs ea s d ds nn G2 m) {B hp h5:Ev} (b1:∀b o,σ.gr.D7 b=A9 o->b∉Bo X->B.D7 b=A9 o)
  (b2:∀q∈Aq X σ G2,B.D7 q.1=A9 q.2) (f1:B.StaysIn h5) (Fp:Fr σ.gr X.L hp m) (Np:Pz σ.gr X.L hp `A) (up:hp.P0 h5):
  ∃γ,QO (Bo X) σ.gr γ/\Fr γ X.L h5 m/\Pz γ X.L h5 `A:=by
 obtain⟨A₀,Bel⟩:=H.below x.T;obtain⟨T1,S⟩:=kts_turn_at (h:=h5) (fs:=Bo X) (g:=σ.gr) (λb hb=>by
   obtain⟨_,o,ho,_⟩:=Bel.KZ.PH hb;exact⟨o,ho⟩) (λb o e Z8=>f1 b o (b1 b o e Z8)) (λb o e hm=>by
   obtain⟨_,o',ho',hd⟩:=Bel.KZ.PH hm;rw[e] at ho';cases ho';exact up b o (Fp.QH b o e) hd)
 exact⟨_,T1,⟨up.ns Fp.ns,S,by rw[T1.Id];exact Fp.above⟩,λq hq=>⟨f1 _ _ (b2 q hq),(Np q hq).2.1,T1.none_ _ (Np q hq).2.2⟩⟩
theorem hH (H:C5 K X) {d:EA} {ds:AT Ex} {nn:BF} (x:Fj w X σ CL ve c wv av cs ea s d ds nn G2 m) {B hp h5:Ev} {a0:Bl} (b1:∀b o,σ.gr.D7 b=A9 o->b∉Bo X->B.D7 b=A9 o)
  (b2:∀q∈Aq X σ G2,B.D7 q.1=A9 q.2) (hh:Ev.HeldW B (X.Li::X.J9) ea (.C9 (En c)) a0 X.L h5) (Fp:Fr σ.gr X.L hp m) (Np:Pz σ.gr X.L hp `A) (up:hp.P0 h5) (dk:DK s.Dn h5):
  ∃σ',σ.le σ'/\DY w X σ' CL ve c wv av cs ea {s with Dn:=h5}:=by
 obtain⟨γ,T1,F5,N5⟩:=zi H x b1 b2 hh.1 Fp Np up;obtain⟨A₀,Bel⟩:=H.below x.T;have le:σ.le ⟨γ,σ.fz,σ.ca⟩:=⟨λ_ h=>h,[],by simp⟩;have b1':∀b o,γ.D7 b=A9 o->b∉Bo X->B.D7 b=A9 o:=λb o e Z8=>by
  cases e1:σ.gr.D7 b with
  |BH=>rw[T1.none_ _ e1] at e;cases e
  |A9 o'=>
   have:=T1.W8 b o' e1 Z8
   rw[e] at F4;cases F4;exact b1 b o e1 Z8
 have y:Fj w X ⟨γ,σ.fz,σ.ca⟩ CL ve c wv av cs ea {s with Dn:=h5} d ds nn G2 m:=
  ⟨x.J2.Ey le,x.nd,x.dm,x.df.Ey le,x.bd,λhl=>(x.V0 hl).Ey le,x.T.CX T1,x.N8,x.os,by
   obtain⟨Z7,g1,g2⟩:=x.LG;obtain⟨o',g3,g4⟩:=dk _ _ g1;exact⟨o',g3,g4.1.CX g2.1,λz=>g4.2.CX (g2.2 z)⟩,.G4 (.G4 ⟨B,a0,b1',b2,hh,F5,N5⟩)⟩
 exact⟨_,le,d,ds,nn,G2,m,B,a0,y,b1',b2,hh,F5,N5⟩
theorem o7 (H:C5 K X) (hA:A.KZ=A9 (X.Li::X.J9)) {e:Bl} (x:Ep w X σ CL ve c wv av cs e s) {Q:LI->CW->Prop}
  (hQ:∀ea σ' Z4,e= .C9 ea->σ.le σ'->DY w X σ' CL ve c wv av cs ea Z4->Q LI.Qe Z4):Ic M A (K0 e X.Li) Q E s:=by
 obtain⟨ea,d,ds,nn,G2,m,Cs,x⟩:=x;rcases x.Ri with⟨vs,sl,a0,he,h1,h0,Fs,Ns',hn,hg⟩|⟨B,a0,hp,b1,b2,fl,Fp,Np,up⟩|⟨B,a0,b1,b2,hh,Fp,Np⟩
 .obtain⟨A₀,Bel⟩:=H.below x.T
  have Bp:=pushX Bel Fs H.ff H.fk;have hin:∀ev∈(X.Li::X.J9),∀b,ev.Wp=A9 b->b∈ea::X.L::Bo X:=λev hev b hb=>by
   rcases AT.GZ.mp hev with rfl|hev
   .rw[H.ff] at hb;cases hb;exact .Do _ (.Jn _)
   .exact .Do _ (.Do _ (AT.mem_filterMap.Lq ⟨ev,hev,hb⟩))
  have hen:(P8 s.Dn (ea::X.L::Bo X)).D7 ea=BH:=Rn _ (.Jn _);have nf:Ic M A (K0 (.C9 ea) X.Li) (λ_ Sk=>∃Rc,Sk={s with Dn:=Rc}/\Ev.NotedW (P8 s.Dn (ea::X.L::Bo X)) (X.Li::X.J9) ea (.C9 (En c)) a0 (Os X.L) s.Dn Rc) (λ_ _=>Re) s:=by
   unfold K0;simp only[H.ff];refine Ch (Lg he rfl h1 ?_);rw[Ko (by decide)];exact wpAny_entryW hA (funFrames_hide Bp.KZ hin) H.ff he (λb o e=>RI _ e) hen rfl (KU.JY.mp h1).1 h0 λRc N=>⟨Rc,Cs,N⟩
  refine Ho (KD.Xa (KD.K0 (.C9 ea) X.Li) nf) (λ_ Sk hq=> ?_) λ_ _ z=>z.1.Dk;obtain⟨⟨h4,Cs,k1,k2,k3,k4⟩,dk⟩:=hq;have nsm:∀b,b∈X.L::Bo X->∀q∈Aq X σ G2,q.1≠b:=λb hb q hq e=>by
   rcases AT.GZ.mp hb with z|z
   .exact(Ns' q hq).2.1 (e.CX z)
   .obtain⟨o,ho,_⟩:=(Bel.KZ.PH z).2
    have:=(Ns' q hq).2.2
    rw[e,ho] at F4;cases F4
  obtain⟨σ',l,hx⟩:=hH H x (B:=P8 s.Dn (ea::X.L::Bo X)) (hp:=s.Dn) (h5:=h4) (a0:=a0) (λb o e Z8=>Ql _ (Fs.QH b o e) λhm=>by
   rcases AT.GZ.mp hm with z|hm
   .rw[z,hg] at e;cases e
   .rcases AT.GZ.mp hm with z|hm
    .have:=kts_self Fs
     rw[<-z,e] at F4;cases F4
    .exact Z8 hm) (λq hq=>Ql _ (Ns' q hq).1 λhm=>by
   rcases AT.GZ.mp hm with z|hm
   .exact hn (z▸AT.Ib hq)
   .exact nsm _ hm q hq rfl) ⟨k1,hen,k2,k3⟩ Fs Ns' k4 dk
  exact hQ ea σ' _ rfl l hx
 .refine Ho (KD.Xa (KD.K0 (.C9 ea) X.Li) (wpAny_looks_onW (Q:=λ_ Sk=>∃Rc,Sk={s with Dn:=Rc}/\Ev.HeldW B (X.Li::X.J9) ea (.C9 (En c)) a0 X.L Rc/\s.Dn.P0 Rc) (E:=λ_ _=>Re) hA H.ff fl λRc x1 x2=>⟨Rc,Cs,x1,x2⟩)) (λ_ Sk hq=> ?_) λ_ _ z=>z.1.Dk
  obtain⟨⟨h4,Cs,k1,k2⟩,dk⟩:=hq;obtain⟨σ',l,hx⟩:=hH H x b1 b2 k1 Fp Np (up.CX k2) dk;exact hQ ea σ' _ rfl l hx
 .exact PR H.ff hh.2.2.2 (hQ ea σ s rfl σ.G5 ⟨d,ds,nn,G2,m,B,a0,x,b1,b2,hh,Fp,Np⟩)
theorem DY.toR (x:DY w X σ CL ve c wv av cs ea s):Ep w X σ CL ve c wv av cs (.C9 ea) s:=by
 obtain⟨d,ds,nn,G2,m,B,a0,y,_⟩:=x;exact⟨ea,d,ds,nn,G2,m,Cs,y⟩
theorem DY.again (H:C5 K X) (x:DY w X σ CL ve c wv av cs ea s) {Q:LI->CW->Prop} (h:Q LI.Qe s):Ic M A (K0 (.C9 ea) X.Li) Q E s:=by
 obtain⟨d,ds,nn,G2,m,B,a0,y,b1,b2,hh,F,N⟩:=x;exact PR H.ff hh.2.2.2 h
theorem DY.upd (x:DY w X σ CL ve c wv av cs ea s) (hl:CL.J6=X.L) {h':Ev} {tk:BF} (hh':∀B a0,(∀b o,σ.gr.D7 b=A9 o->b∉Bo X->B.D7 b=A9 o)->Ev.HeldW B (X.Li::X.J9) ea (.C9 (En c)) a0 X.L s.Dn->Ev.HeldW B (X.Li::X.J9) ea (.C9 (En c)) a0 X.L h')
  (hF:∀m,Fr σ.gr X.L s.Dn m->∃m',Fr σ.gr X.L h' m') (hd:∀b o ws,s.Dn.D7 b=A9 o->o.KA= .J5 ws->h'.D7 b=A9 o):DY w X σ CL [] c wv av cs ea {s with Dn:=h',Dp:=tk}:=by
 obtain⟨d,ds,nn,G2,m,B,a0,x,b1,b2,hh,F,N⟩:=x;obtain⟨m',F'⟩:=hF m F;have h2:=hh' B a0 b1 hh;have N':Pz σ.gr X.L h' `A:=λq hq=>⟨h2.1 _ _ (b2 q hq),(N q hq).2⟩;exact⟨d,ds,nn,G2,m',B,a0,⟨x.J2,x.nd,x.dm,x.df,x.bd,λ_ y v e=>(by cases e),x.T,x.N8,x.os,by
  obtain⟨Z7,g1,g2⟩:=x.LG;obtain⟨f1,f2',f3,oe',vs,T',oT',ts',k1,k2,k3,_⟩:=hh
  obtain rfl:=Bq.A9.Ky (g1.Hl.CX k1)
  exact⟨Z7,hd _ _ _ g1 k3,g2⟩,.G4 (.G4 ⟨B,a0,b1,b2,h2,F',N'⟩)⟩,b1,b2,h2,F',N'⟩
theorem DY.flight (H:C5 K X) (hl:CL.J6=X.L) (x:DY w X σ CL ve c wv av cs ea s) {Q:LI->CW->Prop} (hQ:∀s',DY w X σ CL [] c wv av cs ea s'->Q LI.Qe s'):Ic M A (Oy (.C9 ea) X.Li.Wp) Q E s:=by
 have x':=x;obtain⟨d,ds,nn,G2,m,B,a0,y,b1,b2,hh,F,N⟩:=x';obtain⟨f1,f2',f3,Z7,vs,T,oT,ts,g1,⟨g2,g2'⟩,g3,g4,g5,g6,g7,g8,g9⟩:=hh;unfold Oy;refine Ch (Lg g1 g3 g4 ?_);rw[Lu (show(Bl.C9 T !=Bl.BH)=Bj from by simp)];have hsz3:3<ts.Id:=(KU.JY.mp g9).1;rw[H.ff];refine Vi g7 g8 hsz3 (hQ _ ?_);have W8:∀b,b≠T->(s.Dn.KO T (KJ.N6 (·.Ka 3 ((A9 X.L).Dk Bl.BH λf=>Os f)))).D7 b=s.Dn.D7 b:=λb hb=>Ev.get?_update_other _ _ (Ne.Hl hb);have Aak:=KJ.Vj g8 (·.Ka 3 ((A9 X.L).Dk Bl.BH λf=>Os f))
 have atT:=Ev.Ku (KJ.N6 (·.Ka 3 ((A9 X.L).Dk Bl.BH λf=>Os f))) g7 (KJ.VB Aak);have GV:ts.Ka 3 ((A9 X.L).Dk Bl.BH λf=>Os f)=ts:=by
  apply KU.ext_getElem?
  intro i;rw[KU.getElem?_setIfInBounds];split
  .rename_i q;subst q
   rw[g9];rfl
  .rfl
 have same:∀b,(s.Dn.KO T (KJ.N6 (·.Ka 3 ((A9 X.L).Dk Bl.BH λf=>Os f)))).D7 b=s.Dn.D7 b:=λb=>by
  by_cases hb:b=T
  .subst hb
   rw[atT,g7];obtain⟨c1,d1,dt1,sl1⟩:=oT
   obtain rfl:dt1= .J5 ts:=g8
   show A9 (⟨c1,d1,.J5 (ts.Ka 3 _),sl1⟩:KJ)=_;rw[GV]
  .exact W8 b hb
 refine DY.upd (tk:=s.Dp) x hl (λB a0 b1 hh=> ?_) (λm F=>⟨m,Fr.kp F λb o e=>(same b).CX e⟩) (λb o ws e _=>(same b).CX e);obtain⟨f1,f2',f3,Z7,vs,T',oT',ts',g1,g2,g3,g4,g5,g6,g7,g8,g9⟩:=hh;exact⟨λb o e=>(same b).CX (f1 b o e),f2',f3.of_keeps λb o e _=>⟨o,(same b).CX e,Cs⟩,Z7,vs,T',oT',ts',(same _).CX g1,g2,g3,g4,g5,g6,(same _).CX g7,g8,g9⟩
theorem gV {h h' Qd:Ev} (k:∀b o,h.D7 b=A9 o->(∀vs,o.KA≠.J5 vs)->∃o',h'.D7 b=A9 o'/\∀vs,o'.KA≠.J5 vs) {l:AT Qp}:h.FunFrames Qd l->h'.FunFrames Qd l:=by
 induction l with
 |HU=>exactλ_=>trivial
 |Dc CL Df ih=>
  intro⟨a,b,r⟩
  obtain⟨L,o,b1,b2,b3,b4⟩:=b;obtain⟨o',c1,c2⟩:=k L o b3 b4;exact⟨a,⟨L,o',b1,b2,c1,c2⟩,ih r⟩
theorem DY.gone {n:BF} {cx:Cx} (H:`g) (O:DC X CL) (x:DY w X σ CL ve c wv av cs ea s) {z:Dr} {HW:Oz} (hk:CL.PQ z=A9 .local) {Q:LI->CW->Prop} (hQ:∀s',DY w X σ CL [] c wv av cs ea s'->Q LI.Qe s'):
  Ic M A (do WP CL z .BH;unbindBehindTheSuite CL z HW) Q E s:=by
 have x':=x;obtain⟨d,ds,nn,G2,m,B,a0,y,b1,b2,hh,F,N⟩:=x';refine wpAny_nameGoes hk (O.ll▸F.ns) (by rw[H.e.hk];rfl) λh' m' hn hs=>hQ _ ?_;rw[O.ll] at hn hs;obtain⟨oL,es,ep,hL,hdL,_⟩:=F.ns;have hn0:=hn;obtain⟨oL',es',ep',hL',hdL',_⟩:=hn;refine DY.upd x O.ll (λB a0 b1 hh=> ?_) (λm F=>⟨m',F.set hn0 hs⟩) (λb o ws e hd=>(hs.2 b λq=>by rw[q,hL] at e;cases e;rw[hdL] at hd;cases hd).CX e)
 .obtain⟨f1,f2',f3,Z7,vs,T',oT',ts',g1,g2,g3,g4,g5,g6,g7,g8,g9⟩:=hh
  have nf:∀b o ws,s.Dn.D7 b=A9 o->o.KA= .J5 ws->b≠X.L:=λb o ws e hd q=>by
   rw[q,hL] at e;cases e;rw[hdL] at hd;cases hd
  have hB:B.D7 X.L=BH:=by
   obtain⟨_,⟨L',_,hf,hn',_⟩,_⟩:=f3;rw[H.x.ff] at hf;cases hf;exact hn'
  refine⟨λb o e=>(hs.2 b λq=>by rw[q,hB] at e;cases e).CX (f1 b o e),f2',gV (λb o e hnf=> ?_) f3,Z7,vs,T',oT',ts',(hs.2 _ (nf _ _ _ g1 g3)).CX g1,g2,g3,g4,g5,g6,(hs.2 _ (nf _ _ _ g7 g8)).CX g7,g8,g9⟩
  by_cases hb:b=X.L
  .exact⟨oL',hb▸hL',λvs q=>by rw[hdL'] at q;cases q⟩
  .exact⟨o,(hs.2 b hb).CX e,hnf⟩
end
section
variable {c:BF} {wv av:V} {ea:EA}
theorem Ph.lands {M:VX} (hl:CL.J6=X.L) (x:Ph w X σ CL ve c wv av cs ea s) {Q:LI->CW->Prop} (hQ:∀s',Ph w X σ CL ve c wv av cs ea s'->Q LI.Qe s'):Ic M A (Oy (.C9 ea) BH) Q E s:=by
 obtain⟨T,Z7,oT,d,ds,nn,vs,ts,R,h1,h2,h3,h4,h5,h6,h7,h8,h9⟩:=x;have ge:=(R.RJ (q:=(ea,Z7)) (.Do _ (.Jn _))).1;have gT:=(R.RJ (q:=(T,oT)) (.Jn _)).1;unfold Oy;refine Ch (Lg ge h3 h4 ?_);rw[Lu (show(Bl.C9 T !=Bl.BH)=Bj from by simp)];refine Vi gT h5 h6 (hQ _ ?_);have Aak:=KJ.Vj h5 (·.Ka 3 ((BH:Bq EA).Dk Bl.BH λf=>Os f));have atT:=Ev.Ku (KJ.N6 (·.Ka 3 ((BH:Bq EA).Dk Bl.BH λf=>Os f))) gT (KJ.VB Aak);refine⟨T,Z7,KJ.N6 (·.Ka 3 ((BH:Bq EA).Dk Bl.BH λf=>Os f)) oT,d,ds,nn,vs,_,R.Xq (X:=X.F8 (ea,Z7)) (q:=(T,oT)) (q':=(T,KJ.N6 (·.Ka 3 ((BH:Bq EA).Dk Bl.BH λf=>Os f)) oT)) hl rfl (λb o hb e=>(Ev.get?_update_other _ _ (Ne.Hl hb)).CX e) atT s.Dp,h1,h2,h3,h4,Aak,by simp[h6],h7,h8,h9⟩
theorem ij {cx:Cx} {x z:Dr} {v:V} (h:x≠z):Bi G cx x (Cr ve z v)=Bi G cx x ve:=by
 unfold Bi;rw[bU,Ko h]
theorem kZ (H:`g) (O:DC X CL) {A:Ke} (hA:A.KZ=A9 (X.Li::X.J9)) {z:Dr} {HW:Oz} (hk:CL.PQ z=A9 .local) {e:Bl} (x:Ep w X σ CL ve c wv av cs e s) {E:Bl->CW->Prop}
  (hE:∀σ' s',σ.le σ'->Ep w X σ' CL [] c wv av cs e s'->E e s'):AsSuiteRaised `t A CL z HW (notedBy `t A CL (cameBackBy `t X.A CL E)) e s:=by
 obtain rfl:=O.fe
 refine o7 H.x hA x λea σ' Z4 e0 l1 x1=> ?_;subst e0;refine x1.gone H O hk λs4 x2=> ?_;have tb:∀{s4:CW},DY w X σ' X.Li [] c wv av cs ea s4->∀{M A} {E:Bl->CW->Prop} {Q:Bl->CW->Prop},(∀T,Q (.C9 T) s4)->Ic M A (Vx (.C9 ea) 1) Q E s4:=λ{s4} x M A E Q hq=>by
  obtain⟨d,ds,nn,G2,m,B,a0,y,b1,b2,⟨f1,f2',f3,Z7,vs,T,oT,ts,g1,⟨g2,g2'⟩,g3,g4,_⟩,F,N⟩:=x;exact Lg g1 g3 g4 (hq T)
 unfold D8.passOn;refine Ch (tb x2 λT=> ?_);rw[Ko (by simp)];refine Ch (x2.flight H.x O.ll λs5 x3=>wpAny_throw ?_);show Ic _ _ (K0 _ _) _ _ _;refine x3.again H.x ?_;show Ic _ _ _ _ _ _;refine Ch (tb x3 λT=> ?_);rw[Ko (by simp)];exact x3.flight H.x O.ll λZ3 x4=>hE σ' Z3 l1 x4.toR
theorem pY {A:Ke} (R:`b s) {ts:AT T} {xs:AT Bl} (hr:Am w σ.fz ts xs) (hl:ts.A8<=5000) {Q:Bl->CW->Prop} (hQ:∀σ' x s',σ.le σ'->Ak w X σ' CL ve cs s'->Ad w σ' (.t (.Ld ts)) x->Q x s'):`a A (newTuple xs) Q E s:=by
 obtain⟨m,G2,F,N,PI⟩:=R.froz;refine newTuple_N F N (λh' F' N'=> ?_) (by rw[hr.A8,Kq];omega);obtain⟨l1,R1⟩:=PI h' `m _ s.Dp F' N' aq;refine hQ _ _ _ l1 R1 ?_;exact Ah.Ld (.Jn _) (Am.Ey l1.1 hr)
end
section
variable {c:BF} {wv av:V} {ea:EA}
theorem nI (d e:BF):BF.blt (d+e) e=Be:=by
 cases q:BF.blt (d+e) e with
 |Be=>rfl
 |Bj=>exact Ks (BF.blt_eq.mp q) (BF.not_lt.Lq (BF.le_add_left e d))
theorem yF {c:BF} (h:BF.blt c Em=Be):En c=c - Em:=by
 unfold En;rw[h]
theorem ti (d:BF):En (d+Em)=d:=(yF (nI d Em)).CX (BF.add_sub_cancel d Em)
theorem qC (R:`b s) {u v:Dr} {k1 k2 k3:BF} {p1 p2 p3 p4:Oz} {Q:Rb->CW->Prop} (hQ:∀σ' x s',σ.le σ'->Ak w X σ' CL ve cs s'->Ad w σ' (.t (.Ld [.Dq u,.Dq v])) x->Q (.EM x) s'):
  `a A (execs [.QJ (A9 (.Oi [.KP (.Dq u) k1 p1,.KP (.Dq v) k2 p2] k3 p3)) p4] CL) Q E s:=by
 refine LM (Vy (Tuple_ ?_));have hm:Rl p3 (OG [.KP (.Dq u) k1 p1,.KP (.Dq v) k2 p2] CL)=[(Be,Oc (.KP (.Dq u) k1 p1) CL),(Be,Oc (.KP (.Dq v) k2 p2) CL)]:=rfl;rw[hm];refine Qz (Constant_str (Qz (Constant_str (spliced_nil ?_))));refine pY (ts:=[.Dq u,.Dq v]) ((R.Dp _).Dp _) ⟨_,_,Cs,⟨_,Cs⟩,_,_,Cs,⟨_,Cs⟩,Cs⟩ (by show 2<=5000;decide) λσ' x s' l R' r=>hQ σ' x s' l R' r
abbrev Px (w:FX) (K:Lo) (G:DM):Prop:=∀C,G.Oj C=Bj->C<Em/\∃f fi,IP w K f fi/\HM G fi/\Gv K C f=Bj
abbrev UJ (K:Lo) (G:DM):Prop:=∀C D,G.Oj C=Bj->G.Oj D=Bj->L4 K C D (G.Xs C D)=Bj/\FS K D=Bj
theorem oX (GK:Jk K G) (GE:Px w K G) {ke:KX} {an:An->Prop} {Q:Rb->CW->Prop} {σ1:Sg} (le1:σ.le σ1) (H:AB K (n+1) X cx CL) (O:DC X CL) (ha:BZ an) (hE:∀ve,`k) (hc:G.Oj (En c)=Bj)
  (x:Ph w X σ1 CL ve c wv av cs ea s) {z y at_:Dr} {q1 q2 q3 q4 q5 q6 HW:Oz} (ZT:KH z Mw=Be) (ZS:BF.blt c Em=Bj) (ZR:y≠z) (ZQ:at_≠z) (ZP:IA cx.sc.Lb z=A9 .local)
  {d:BF} (e1:Bi G cx y ve=A9 (.t (.Km (.C9 d)))) (e2:G.Oj d=Bj) {av':V} (e3:Bi G cx at_ ve=A9 av') (e4:E8 wv=Bj) (h:an (ke (d+Em) wv av' cs)):
  `h (X.A.mark (A9 (.C9 ea))) (.handlers (.C9 ea) [.Lh BH (A9 z) [.Sd (A9 (.QI (.JV y q1) [.JU (.JV z q2) AF q3,.JV at_ q4] [] q5)) BH q6] HW] CL)
   (λr s₂=>match r with
     | .ok f=>`a X.A (do WP CL z .BH;unbindBehindTheSuite CL z HW) (λ_ s₃=>Q f s₃) E s₂
     | .Rx x=>cameBackBy `t X.A CL E x s₂) s:=by
 obtain⟨hDm,fD,fiD,FKD,IFD,hXD⟩:=GE d e2;obtain⟨_,fC,fiC,FKC,IFC,hXC⟩:=GE (En c) hc;have PC:=gE hXC;refine codeAny_handlers_suite_as ?_;refine x.lands O.ll λs1 x1=> ?_;obtain⟨T,Z7,oT,d0,ds,nn,vs,ts,R,h1,h2,h3,h4,h5,h6,h7,h8,h9⟩:=x1;have HB:AB K (n+1) ((X.F8 (ea,Z7)).F8 (T,oT)) cx CL:=(H.F8 _).F8 _;have OB:DC ((X.F8 (ea,Z7)).F8 (T,oT)) CL:=(O.F8 _).F8 _;refine fj HB OB R (v:= .t (.Km (.C9 ea))) rfl (cF▸ZP) λs2 R2=> ?_;refine LM ?_;have vY:Bi G cx y (Cr ve z (.t (.Km (.C9 ea))))=A9 (.t (.Km (.C9 d))):=(ij ZR).CX e1;have vA:Bi G cx at_ (Cr ve z (.t (.Km (.C9 ea))))=A9 av':=(ij ZQ).CX e3
 have vZ:Bi G cx z (Cr ve z (.t (.Km (.C9 ea))))=A9 (.t (.Km (.C9 ea))):=by
  unfold Bi;rw[ZT,bU,Lu rfl]
 refine fQ (FZ:=FZ) (A:=X.A.mark (A9 (.C9 ea))) (ve:=Cr ve z (.t (.Km (.C9 ea)))) (n:=n) (e₀:= .JU (.JV z q2) AF q3) (es:=[.JV at_ q4]) GK FKD IFD hXD HB.x HB.r OB.ll rfl `M `I rfl (λQ hq=>aS GK HB R2 vY λyv hy=>by obtain rfl:=aR (w:=w) (fz:=σ1.fz) hy;exact hq) ?_;have hm:Rl q5 (OG [.JU (.JV z q2) AF q3,.JV at_ q4] CL)=[(Be,Oc (.JU (.JV z q2) AF q3) CL),(Be,Oc (.JV at_ q4) CL)]:=rfl;rw[hm];obtain⟨hp,g,dr,tk,os⟩:=s2;refine Qz (Attribute_any_ (aS GK HB R2 vZ λyv hy=> ?_))
 obtain rfl:=aR (w:=w) (fz:=σ1.fz) hy
 have he:=(R2.RJ (q:=(ea,Z7)) (.Do _ (.Jn _))).1;have hdg:hp.D7 d0=A9 (AK ds nn):=by
  obtain⟨⟨m,ml,G2,r⟩,_⟩:=R2;exact(r.N _ (aC.Lq (.G4 (.G4 h8)))).1
 obtain⟨yw,g1,g2⟩:=f8 (w:=w) (σ:=σ1) (n:=nn) h9 (show BU [(AF,wv),(Cw,av)] AF=A9 wv from by simp[BU,aB.Lq]);refine vR (R2.KIn HB.x) PC PC.nw he h1 h2 h3 hdg g1 (sw g2 e4) ?_;have R3:=R2.Dp (tk+1);refine Qz (aS GK HB R3 vA λya hya=>spliced_nil ?_);refine⟨σ1,cs,[wv,av'],wv,av',R3,⟨yw,_,Cs,g2,ya,_,Cs,hya,Cs⟩,.G4 rfl,λσ2 e' d' ds' nn' t' s4 l2 m2 r2 R4=> ?_⟩;have ge':=(R4.RJ (q:=(e',Cy d (A9 d') t' .BH)) (.Jn _)).1;have gea:=(R4.RJ (q:=(ea,Z7)) (.Do _ (.Do _ (.Jn _)))).1;have ne:ea≠e':=by
  intro q;subst q;obtain⟨⟨m,ml,G2,r⟩,_⟩:=R4;have nd:=((aM (X:=(X.F8 (ea,Z7)).F8 (T,oT)) (σ:=σ2) (G2:=G2) (q:=(ea,Cy d (A9 d') t' .BH))).FW VH.fst).Lz.mp r.nd;rw[AT.JS,AT.Kv] at nd;exact nd.1 (AT.KY.Lq ⟨(ea,Z7),aC.Lq (.G4 (.HX (.Do _ (.Jn _)))),Cs⟩)
 show E1 (A9 (.C9 ea)) e' _ s4;refine⟨ea,Z7,vs,Cs,ne,gea,h3,h7 ZS,?_⟩;have R5:=R4.Xq (X:=(X.F8 (ea,Z7)).F8 (T,oT)) (q':=(e',Cy d (A9 d') t' (.C9 ea))) (h':=s4.Dn.KO e' (KJ.N6 (·.Ka 2 (.C9 ea)))) OB.ll rfl (λb o hb e=>(Ev.MP _ _ _ _ hb).CX e) (Ev.Ku _ ge' rfl) s4.Dp;have ec:En (d+Em)=d:=ti d;have ex:=f7 (c:=d+Em) ec (λq=>by rw[nI] at q;cases q) OB.ll R5 m2 r2;have ex2:Ep w X σ2 CL (Cr ve z (.t (.Km (.C9 ea)))) (d+Em) wv av' cs (.C9 e') _:=iu (l:=[(T,oT),(ea,Z7)]) ex;refine kZ (A:=X.A.mark (A9 (.C9 ea))) (FZ:=FZ) H O H.x.fr (by rw[H.e.hn,<-cF,ZP]) ex2 λσ3 s5 l3 ex3=> ?_
 exact hE [] σ3 (d+Em) wv av' cs (.C9 e') s5 ((le1.CX l2).CX l3) ex3 h
theorem oY {cx:Cx} {a:V} {kr:KV} {ke:KX} (t:Bq D8.Ez) (F6:Bq Dr) (G0:AT IQ) (HW:Oz) (Df:AT Lh):ID G cx c wv a (.Lh t F6 G0 HW::Df) ve cs kr ke=match t with
  |BH=> .D9 142
  |A9 te=>match BJ te with
   |BH=> .D9 142
   |A9 x=>AA (Bi G cx x ve) 138 λv=>AA (Gg v) 140 λd=>
    br (G.Oj (En c)&&G.Oj d) (match G.Xs (En c) d with
     |Be=>ID G cx c wv a Df ve cs kr ke
     |Bj=>Na G cx c wv a F6 G0 ve cs kr ke) (.D9 139):=rfl
theorem yh (GK:Jk K G) (GE:Px w K G) (GS:UJ K G) {ke:KX} {kr:KV} {an:An->Prop} {Q:Rb->CW->Prop} (H:AB K (n+1) X cx CL) (O:DC X CL) (ha:BZ an) (hR:CD w X σ CL kr an Q) (hE:∀ve,`k):
  ∀{hs:AT Lh} {σ1:Sg} {s:CW},σ.le σ1->Ph w X σ1 CL ve c wv av cs ea s->an (ID G cx c wv av hs ve cs kr ke)->`a X.A (handleBy (.C9 ea) CL hs) Q E s:=by
 intro hs
 induction hs with
 |HU=>intro σ1 s le1 x h;exact(ha _ h).Dk
 |Dc hd Df ih=>
  intro σ1 s le1 x h0;obtain⟨t,F6,G0,HW⟩:=hd;rw[oY] at h0;cases t with
  |BH=>exact(ha _ h0).Dk
  |A9 te=>
  dsimp only at h0;cases e0':BJ te with
  |BH=>rw[e0'] at h0;exact(ha _ h0).Dk
  |A9 xn=>
  rw[e0'] at h0;refine ab ha h0 λv e1 h=>ab ha h λd ed h=>am ha h λhb h=> ?_;refine aZ (q:=λte=>`a X.A (handleBy (.C9 ea) CL (.Lh (A9 te) F6 G0 HW::Df)) Q E s) e0' λnp=> ?_;have e1:Bi G cx xn ve=A9 (.t (.Km (.C9 d))):=dP (q:=λv=>Bi G cx xn ve=A9 v->Bi G cx xn ve=A9 (.t (.Km (.C9 d)))) ed id e1;rw[CV.DG] at hb;obtain⟨gs,gc⟩:=GS _ _ hb.1 hb.2;obtain⟨T,Z7,oT,d0,ds,nn,vs,ts,R,h1,h2,h3,h4,h5,h6,h7,h8,h9⟩:=id x;have HB:AB K (n+1) ((X.F8 (ea,Z7)).F8 (T,oT)) cx CL:=(H.F8 _).F8 _;have he:=(R.RJ (q:=(ea,Z7)) (.Do _ (.Jn _))).1
  refine wpAny_handleBy_cons (codeAny_handlers_test (aS GK HB R e1 λyv hy=> ?_)) (by intro q;cases q)
  obtain rfl:=aR (w:=w) (fz:=σ1.fz) hy
  obtain⟨hp,g,dr,tk,os⟩:=s;refine kC (R.KIn HB.x) gc gs he h1 ?_;cases hsub:G.Xs (En c) d with
  |Bj=>
   rw[hsub] at h;show codeAny _ _ _ _ _;have h:an (Na G cx c wv av F6 G0 ve cs kr ke):=h;unfold Na at h;cases F6 with
   |BH=>
    refine ab ha h λp ep h=>lu (q:=λb=>`h _ (.handlers _ [.Lh BH BH b _] _) _ _) ep λk1 p1 k2 p2 k3 p3 p4=> ?_;refine codeAny_handlers_suite (x.lands O.ll λs1 x1=> ?_);obtain⟨T,Z7,oT,d0,ds,nn,vs,ts,R,_⟩:=x1;refine qC R λσ' x s' l R' r=> ?_;exact hR σ' ve _ x cs s' (le1.CX l) (di (l:=[(T,oT),(ea,Z7)]) R' O.ll) r h
   |A9 z=>
    refine ab ha h λp ep h=>jU (q:=λb=>`h _ (.handlers _ [.Lh BH (A9 z) b _] _) _ _) ep λq1 q2 q3 q4 q5 q6=> ?_;refine am ha h λhz h2=>ab ha h2 λyv e2 h=>ab ha h λd2 er h=>dP (q:=λyv=>Bi G cx p.1.1 ve=A9 yv->_) er (λe2=> ?_) e2;refine am ha h λhd h2=>ab ha h2 λav' e3 h=>am ha h λho h2=> ?_;simp only[CV.DG,CV.OI] at hz;obtain⟨⟨⟨⟨⟨⟨ZT,ZS⟩,ZR⟩,ZQ⟩,ZP⟩,ZO⟩,ZN⟩:=hz;rw[<-aB.mp ZT,aB.mp ZS];exact oX GK GE le1 H O ha hE hb.1 x ZQ ZR (bz.mp ZP) (bz.mp ZO) (dZ ZN) e2 hd e3 ho h2
  |Be=>rw[hsub] at h;exact ih le1 x h
end
section
variable {Q:Rb->CW->Prop}
theorem t8 {M:VX} {A:Ke} {G0 orelse:U8 Rb} {hs:AT Lh} (hn:(!CZ hs)=Bj)
  (h:Ic M A G0 (λf s₁=>match f with| .next=>Ic M A orelse Q E s₁|f=>Q f s₁)
   (λe s₁=>hs≠[]/\Ic M A (K0 e CL) (λ_ s₂=>Ic M A (Oy e BH) (λ_ s₃=>Ic M A (handleBy e CL hs) Q E s₃) E s₂) E s₁) s):
  Ic M A (tryStmt Be G0 hs orelse [] CL) Q E s:=by
 cases hs with
 |HU=>cases hn
 |Dc h₀ hs=>exact wpAny_tryStmt_except (Ho h (λ_ _ x=>x) λ_ _ x=>x.2)
theorem mv (GK:Jk K G) (GE:Px w K G) (GS:UJ K G) (H:AB K (n+1) X cx CL) (O:DC X CL) (ha:BZ an) {hs:AT Lh} (hR:CD w X σ CL kr an Q) (hE:∀ve,`k):
  AD w X σ CL ve (λc w a G1=>ID G cx c w a hs ve G1 kr ke) an (λe s₁=>hs≠[]/\`a X.A (K0 e CL) (λ_ s₂=>`a X.A (Oy e BH) (λ_ s₃=>`a X.A (handleBy e CL hs) Q E s₃) E s₂) E s₁):=by
 intro σ1 c wv av G1 e s1 l1 x h;refine⟨λq=> ?_,?_⟩
 .subst q
  have h:an (An.D9 142):=h;exact(ha _ h).Dk
 .obtain rfl:=O.fe
  refine yM H.x O.ll H.x.fr x λea σ2 Z4 e0 l2 hn=> ?_;subst e0;exact yh GK GE GS H O ha hR hE `ag hn h
theorem mA (S:`e) (H:`g) (R:`b s) (ha:BZ an) {e:D8.Ez} {HW:Oz} (hc:CA e=Bj) {ke':KX} {E':Bl->CW->Prop}
  (h:an (r.ev cx e ve cs (λ_ G1=>kn ve G1) ke')) (hN:`q) (hE:AD w X σ CL ve ke' an E'):`a X.A (Rq (.Ez e HW) CL) Q E' s:=by
 rw[arm_exec_Expr];refine Ch (Kx ?_);rw[cR H,Ko (by decide),bq hc];refine Ch (De ?_);rw[Ko (by decide)];refine Ch (S X cx CL e σ ve cs s _ ke' _ E' H R ha h ?_ hE);intro σ1 v x G1 s1 l1 R1 rv h;exact wpAny_dropValue (hN σ1 ve G1 s1 l1 R1 h)
theorem xt (GK:Jk K G) (GE:Px w K G) (GS:UJ K G) (S:B0 w FZ K (n+1) an r.ev) (H:AB K (n+1) X cx CL) (O:DC X CL) (R:`b s) (ha:BZ an) {G0:AT IQ} {hs:AT Lh} {els K7:AT IQ} {HW:Oz}
  (h:an (Gw G r cx (.Try G0 hs els K7 HW) ve cs kn kr ke)) (hN:`q) (hR:CD w X σ CL kr an Q) (hE:∀ve,`k):`a X.A (Rq (.Try G0 hs els K7 HW) CL) Q E s:=by
 cases els with
 |Dc _ _=>exact(ha 163 h).Dk
 |HU=>cases K7 with
  |Dc _ _=>exact(ha 163 h).Dk
  |HU=>
   rw[arm_exec_Try];refine am ha h λhn h=>Ch (Kx (t8 hn ?_));refine ab ha h λs0 e0 h=>bQ (q:=λb=>`a _ (execs b CL) _ _ s) e0 ?_;cases er:IV s0 with
   |A9 e=>
    rw[er] at h;refine jS (q:=λb=>`a _ (execs [b] CL) _ _ s) er λp=>LM (Vy ?_);refine S X cx CL e σ ve cs s kr _ _ _ H R ha h ?_ (mv GK GE GS H O ha hR hE);intro σ1 v x G1 s1 l1 R1 rv h;exact hR σ1 ve v x G1 s1 l1 R1 rv h
   |BH=>
    rw[er] at h;refine ab ha h λe ee h=>am ha h λhc h2=>n6 (q:=λb=>`a _ (execs [b] CL) _ _ s) ee λp=> ?_;exact LM (mA (kn:=kn) S H R ha hc h2 (λσ' Qk Kg s' l R' h=>PY (PY (hN σ' Qk Kg s' l R' h))) (mv GK GE GS H O ha hR hE))
end
structure NV (w:FX) (K:Lo) (G:DM):Prop where
 gk:Jk K G
 gf:∀f fi,G.fn f=A9 fi->IP w K f fi
 gc:∀c ci,G.Ov c=A9 ci->No K c ci/\WR K (.C9 c)=Bj
 gm:∀c x f,G.meth c x=A9 f->Jh K c x f/\(G.fn f).KQ=Bj
 gl:∀c x,G.fld c x=Bj->DL K c x=Bj
 gt:∀c x,G.fld c x=Bj->DJ K c x=Bj
 ge:Px w K G
 gs:UJ K G
 sm:(K.H6 Lm).KQ=Bj
section
theorem aac (T:NV w K G) (S:`e) (St':`f) (SF:HQ w FZ K n an r.fn) (SN:IM w FZ K n an r.nw):B0 w FZ K n an (HR G r):=by
 intro X cx CL e σ ve cs s k ke Q E H R ha h hQ hE;cases e with
 |KP c kk HW=>exact s9 H R ha h hQ
 |JV x HW=>exact vV T.gk H R ha h hQ
 |BinOp l op rr HW=>exact tc S H R ha h hQ hE
 |WY op x HW=>exact vU S H R ha h hQ hE
 |VJ op es HW=>exact ta S H ha R h hQ hE
 |IfExp t a b HW=>exact s8 S St' H R ha h hQ hE
 |Compare l RF es HW=>exact lY T.sm S H R ha h hQ hE
 |QI f args kws HW=>
  cases kws with
  |Dc _ _=>have h:an (An.D9 93):=h;exact(ha _ h).Dk
  |HU=>
   cases f with
   |JU o F6 ap=>exact s7 T.gf T.gm T.sm S SF H R ha h hQ hE
   |JV x ap=>exact sZ T.gk T.gf T.gc T.sm S SF SN H R ha h hQ hE
   |_=>have h:an (An.D9 94):=h;exact(ha _ h).Dk
 |JU o F6 HW=>exact v7 T.gl S H R ha h hQ hE
 |Qs o i HW=>exact jm S H R ha h hQ hE
 |AT es HW=>exact vX S H R ha h hQ hE
 |Oi es kk HW=>exact sX S H R ha h hQ hE
 |Dict ks es HW=>exact v6 S H R ha h hQ hE
 |Lw V7 N8 sc HW=>exact eT S St' H R ha h hQ hE
 |_=>have h:an (An.D9 101):=h;exact(ha _ h).Dk
theorem vJ (T:NV w K G) (S:B0 w FZ K (n+1) an r.ev) (SO:JL w FZ K (n+1) an r.fo) (SR:JJ w FZ K (n+1) an r.fr) (SP:JK w FZ K (n+1) an r.fp) (H:AB K (n+1) X cx CL) (O:DC X CL) (R:`b s) (ha:BZ an) {t it:D8.Ez} {G0:AT IQ} {HW:Oz} (h:an (O5 G r cx t it G0 ve cs kn kr ke))
  (hN:`q) (hR:CD w X σ CL kr an Q) (hE:∀ve,`k) (hP:Om `t X.A CL E):`a X.A (Rq (.For t it G0 [] HW) CL) Q E s:=by
 have seqW:an (Ip r cx t it G0 ve cs kn kr ke)->`a X.A (Rq (.For t it G0 [] HW) CL) Q E s:=λh=>ur S SO H O R ha h hN hR hE hP;unfold O5 at h;cases e1:L8 it with
 |BH=>rw[e1] at h;exact seqW h
 |A9 p=>
  rw[e1] at h;dsimp only at h;cases e2:Hz "range" (Bi G cx p.1 ve) with
  |Bj=>
   rw[e2] at h;dsimp only at h;cases e3:CR p.2 with
   |BH=>rw[e3] at h;exact seqW h
   |A9 a=>
    rw[e3] at h;exact am ha h λhs h2=>ab ha h2 λy ey h2=>iK (q:=λit=>`a X.A (Rq (.For t it G0 [] HW) CL) Q E s) e1 λpx pp=>
     bQ (q:=λl=>`a X.A (Rq (.For t (.QI (.JV p.1 px) l [] pp) G0 [] HW) CL) Q E s) e3 (aZ (q:=λt=>`a X.A (Rq (.For t (.QI (.JV p.1 px) [a] [] pp) G0 [] HW) CL) Q E s) ey λpy=>uB T.gk S SR H O R ha (kq e2) hs h2 hN hR hE hP)
  |Be=>
   rw[e2] at h;dsimp only at h;cases e4:Hz "zip" (Bi G cx p.1 ve) with
   |Be=>rw[e4] at h;exact seqW h
   |Bj=>
    rw[e4] at h;dsimp only at h;cases e3:E9 p.2 with
    |BH=>rw[e3] at h;exact seqW h
    |A9 q=>
     rw[e3] at h;refine am ha h λhs h2=> ?_;simp only[CV.DG] at hs;exact iK (q:=λit=>`a X.A (Rq (.For t it G0 [] HW) CL) Q E s) e1 λpx pp=>
      da (q:=λl=>`a X.A (Rq (.For t (.QI (.JV p.1 px) l [] pp) G0 [] HW) CL) Q E s) e3 (tT T.gk S SP H O R ha (kq e4) hs.1.1 hs.1.2 hs.2 h2 hN hR hE hP)
theorem zo (T:NV w K G) (S:B0 w FZ K (n+1) an r.ev) (St':EY w FZ K (n+1) an r.tr) (SX:FM w FZ K (n+1) an r.ex) (SW:MD w FZ K (n+1) an r.wh) (SO:JL w FZ K (n+1) an r.fo) (SR:JJ w FZ K (n+1) an r.fr) (SP:JK w FZ K (n+1) an r.fp):
  Uy w FZ K (n+1) an (Gw G r):=by
 intro X cx CL st σ ve cs s kn kr ke Q E H O R ha h hN hR hE hP;cases st with
 |Ez e HW=>
  refine am ha h λhc h=> ?_;exact mA S H R ha hc h hN `R
 |Pass HW=>exact uf R h hN
 |QJ e HW=>exact nU S H R ha h hR hE
 |If t a b HW=>exact zp St' SX H O R ha h hN hR hE hP
 |While t G0 els HW=>exact ql SW H O R ha h hN hR hE hP
 |Try G0 hs els K7 HW=>exact xt T.gk T.ge T.gs S H O R ha h hN hR hE
 |QS ts e HW=>
  refine ab ha h λt e0 h=>bQ (q:=λts=>`a X.A (Rq (.QS ts e HW) CL) Q E s) e0 ?_;cases et:BJ t with
  |A9 x=>
   rw[et] at h;refine aZ (q:=λt=>`a X.A (Rq (.QS [t] e HW) CL) Q E s) et λpx=> ?_;cases el:MT e with
   |A9 p=>rw[el] at h;exact ul (q:=λe=>`a X.A (Rq (.QS [.JV x px] e HW) CL) Q E s) el λpp=>jM S St' H O R ha h hN `R
   |BH=>rw[el] at h;exact am ha h λhc h=>uh S H O R ha hc h hN hE
  |BH=>
   rw[et] at h;refine am ha h λhc h2=> ?_;rw[CV.DG] at hc;have ho:=hc.2;cases t with
   |Oi es kk p=>
    cases es with
    |HU=>exact CV.JT (ho:Be=Bj)
    |Dc a es=>cases es with
     |HU=>exact CV.JT (ho:Be=Bj)
     |Dc b es=>cases es with
      |HU=>exact ug S H O R ha hc.1 h2 hN hE
      |Dc _ _=>exact CV.JT (ho:Be=Bj)
   |JU o F6 p=>exact ui T.gt S H O R ha (cB hc.1) h2 hN hE
   |Qs o i p=>exact xu S H O R ha (cB hc.1) h2 hN hE
   |_=>exact CV.JT (ho:Be=Bj)
 |For t it G0 els HW=>
  cases els with
  |Dc _ _=>exact(ha 152 h).Dk
  |HU=>exact vJ T S SO SR SP H O R ha h hN hR hE hP
 |Sd e cause HW=>
  cases cause with
  |A9 _=>exact(ha 164 h).Dk
  |BH=>
   refine ab ha h λp e1 h2=>ob e1 λe2 e3 e4=> ?_;subst e3;exact iK (q:=λe=>`a X.A (Rq (.Sd (A9 e) BH HW) CL) Q E s) e4 λp1 p2=>qm T.gk T.ge S H O R ha h2 hE
 |_=>exact(ha 164 h).Dk
end
section
variable (w:FX) (FZ:Kt)
structure NZ (K:Lo) (n:BF) (an:An->Prop) (r:IL):Prop where
 ev:`e
 tr:`f
 ex:FM w FZ K n an r.ex
 fn:HQ w FZ K n an r.fn
 nw:IM w FZ K n an r.nw
 wh:MD w FZ K n an r.wh
 fo:JL w FZ K n an r.fo
 fr:JJ w FZ K n an r.fr
 fp:JK w FZ K n an r.fp
end
section
theorem ux (T:NV w K G) {F:Pj} {N:Pd} (hF:HQ w FZ K (n+1) an F) (hN:IM w FZ K (n+1) an N) (m:BF):NZ w FZ K (n+1) an (AM F N G m):=by
 induction m with
 |Xb=>exact⟨λX cx CL e σ ve cs s k ke Q E H R ha h=>(ha _ h).Dk,λX cx CL e σ ve cs s k ke Q E H R ha h=>(ha _ h).Dk,λX cx CL ss σ ve cs s kn kr ke Q E H O R ha h=>(ha _ h).Dk,hF,hN,
   λX cx CL t G0 σ ve cs s kn kr ke Q E H O R ha h=>(ha _ h).Dk,λX cx CL t G0 l p I o j σ ve cs s kn kr ke Q E H O R r it ha h=>(ha _ h).Dk,
   λX cx CL y py G0 I j m σ ve cs s kn kr ke Q E H O R ha h=>(ha _ h).Dk,λX cx CL t G0 ts l p1 p2 z TI TO i1 i2 a b o1 o2 j σ ve cs s kn kr ke Q E H O hT R r1 h1 r2 h2 ha h=>(ha _ h).Dk⟩
 |Ww m ih=>exact⟨aac T ih.ev ih.tr ih.fn ih.nw,zj T.sm ih.ev ih.tr,aab (zo T ih.ev ih.tr ih.ex ih.wh ih.fo ih.fr ih.fp) ih.ex,hF,hN,ze ih.tr ih.ex ih.wh,zX ih.ex ih.fo,zU ih.ex ih.fr,zW ih.ex ih.fp⟩
abbrev Zo (G:DM) (d:BF) (k:KV) (ke:KX) (an:An->Prop):An->Prop:=λA=>an (Cm (Eu G d).1 (Eu G d).2 k ke A)
theorem iY (T:NV w K G) {d:BF} (a:∀an,HQ w FZ K (d+1) an (Eu G d).1) (b:∀an,IM w FZ K (d+1) an (Eu G d).2) (k:KV) (ke:KX) (an:An->Prop) (m:BF):NZ w FZ K (d+1) (Zo G d k ke an) (AM F0 N0 G m):=
 ux (F:=F0) (N:=N0) (an:=Zo G d k ke an) T (λX f vs xs σ CL ve cs s k' ke' Q E A' H room hA hh hd hu R rv ha h=>a an X f vs xs σ CL ve cs s (λv G1=>Cm (Eu G d).1 (Eu G d).2 k ke (k' v G1)) (λc w a G1=>Cm (Eu G d).1 (Eu G d).2 k ke (ke' c w a G1)) Q E A' H room hA hh hd hu R rv (λn q=>ha n q) h)
  (λX c b' vs xs σ CL ve cs s k' ke' Q E A' H room hA hh hd hu hb R rv ha h=>b an X c b' vs xs σ CL ve cs s (λv G1=>Cm (Eu G d).1 (Eu G d).2 k ke (k' v G1)) (λc w a G1=>Cm (Eu G d).1 (Eu G d).2 k ke (ke' c w a G1)) Q E A' H room hA hh hd hu hb R rv (λn q=>ha n q) h) m
theorem yN (T:NV w K G) (d:BF):(∀an,HQ w FZ K (d+1) an (Eu G d).1)/\∀an,IM w FZ K (d+1) an (Eu G d).2:=by
 induction d with
 |Xb=>exact⟨λan X f vs xs σ CL ve cs s k ke Q E A' H room hA hh hd hu R rv ha h=>(ha _ h).Dk,λan X c b vs xs σ CL ve cs s k ke Q E A' H room hA hh hd hu hb R rv ha h=>(ha _ h).Dk⟩
 |Ww d ih=>exact⟨λan X f vs xs σ CL ve cs s k ke Q E A' H room hA hh hd hu R rv ha h=>
   zY T.gf (iY (FZ:=FZ) T ih.1 ih.2 k ke an 400).ex X f vs xs σ CL ve cs s .EM .Oj Q E A' H room hA hh hd hu R rv (λn q=>ha n q) h,
  λan X c b' vs xs σ CL ve cs s k ke Q E A' H room hA hh hd hu hb R rv ha h=>
   zC T.gf (λc ci e=>(T.gc c ci e).1) (iY (FZ:=FZ) T ih.1 ih.2 k ke an 400).ex X c b' vs xs σ CL ve cs s .EM .Oj Q E A' H room hA hh hd hu hb R rv (λn q=>ha n q) h⟩
theorem fO {fz:BR}:∀(ns:AT Dt) (t:BF),Am w fz (ns.FW .D4) (BT ns t)
 |[],_=>rfl
 |_::r,t=>⟨_,_,Cs,⟨_,Cs⟩,fO r (t+1)⟩
theorem rW {s:CW} {F6 P4:Dr} {nsA:AT Arg} {dl:AT D8.Ez} {G0:AT IQ} {sc:OE} {dV kV doc pm W1 ct:Bl} {an':Bq EA} {x:Dr} {l:BF} (KI:K.In s.Dn) (K4:nsA.FW (·.arg)=[x])
  (K13:dV= .BH/\([]:AT Bl)=[]\/∃a o n,dV= .C9 a/\K.H6 a=A9 o/\o.KA= .KH ([]:AT Bl).E6 n):
  BindsTo s (fnX F6 P4 ⟨[],nsA,BH,[],[],BH,dl⟩ G0 sc [] dV kV doc pm an' W1 ct) ⟨[.C9 l],[]⟩ ([x].Vl [.C9 l]):=by
 have hnl:nsA.A8=1:=by rw[<-AT.Lc (as:=nsA) (f:=(·.arg)),K4];rfl
 rw[<-K4]
 suffices h:BindsTo s (fnX F6 P4 ⟨[],nsA,BH,[],[],BH,dl⟩ G0 sc [] dV kV doc pm an' W1 ct) ⟨[.C9 l],[]⟩ ((nsA.FW (·.arg)).Vl ([.C9 l]++([]:AT Bl).F3 ([Bl.C9 l].A8+([]:AT Bl).A8 - nsA.A8))) by rwa [AT.drop_nil,AT.H7] at h
 refine eW (fd:=fnX F6 P4 ⟨[],nsA,BH,[],[],BH,dl⟩ G0 sc [] dV kV doc pm an' W1 ct) (ds:=[]) (xs:=[.C9 l]) rfl (by rw[K4];exact AT.Kv.Lq ⟨λh=>(nomatch h),.HU⟩) (λM A E Q hr=> ?_) (by rw[hnl];exact BF.G5 1) (by rw[hnl];exact BF.G5 1) (BF.zero_le _);rcases K13 with⟨Cs,_⟩|⟨a,o,n',Cs,e1,e2⟩
 .show Ic M A (RH Bl.BH) Q E s
  unfold RH;exact Ch (De (De (hr _ rfl)))
 .exact Ot (M:=M) (A:=A) (E:=E) (Q:=Q) (KI _ _ e1) e2 (hr (A9 (#[]:KU Bl)) rfl)
def Fa (P4:Dr) (sc:OE) (s:CW) (f:BF) (W1:Bl):Qp:=envX P4 sc `m f W1 []
def MZ (P4:Dr) (sc:OE) (s:CW) (f l:BF) (W1:Bl):Fx:=⟨V6.Rp (Fa P4 sc s f W1),P8 s.Dn [l],[],Fa P4 sc s f W1,P8 s.Dn [l],`m,s.os,[],[],[]⟩
def OV (s:CW) (l:BF) (ns:AT Dt) (t:BF):Sg:=⟨P8 s.Dn [l],[(l,AO (BT ns t) 0)],[]⟩
theorem vf {s s':CW} {P4:Dr} {sc:OE} {f l:BF} {W1:Bl} {x:Dr} {ns:AT Dt} {t:BF} {m:Dr->Bq Bl} (hl:s.Dn.D7 l=A9 (AO (BT ns t) 0)) (hx:sc.Lb.H6 x=A9 .local) (hm:m x=A9 (.C9 l))
  (Xn:s'.Dn.Ns `m m) (hk:∀b o,s.Dn.D7 b=A9 o->s'.Dn.D7 b=A9 o) (hg:s'.N8= #[]) (ho:s'.os=s.os):
  Ak w (MZ P4 sc s f l W1) (OV s l ns t) (Fa P4 sc s f W1) [(x,.t (.Dg (ns.FW .D4)))] [] s':=by
 refine⟨⟨m,m,[],⟨Xn,λb o e=>hk b o (RI _ e),BF.QK (hideAll_size _ _)⟩,Xn,λy v e=> ?_,⟨Cs,Cs⟩,λp hp=> ?_,?_,λb hb=>(nomatch hb),.HX rfl,QO.Xl⟩,hg,ho⟩
 .cases q:KH x y with
  |Bj=>
   rw[bw q] at e
   obtain rfl:=Bq.A9.Ky e
   have q:x=y:=aB.mp q;exact .HX ⟨.C9 l,q▸hm,⟨l,BT ns t,0,Cs,.Jn _,fO ns t⟩,q▸hx⟩
  |Be=>rw[bj q] at e;cases e
 .obtain rfl:p=(l,AO (BT ns t) 0):=by
   have hp2:p∈([(l,AO (BT ns t) 0)]:BR):=hp
   simpa using hp2
  exact⟨hk _ _ hl,BF.ne_of_lt (Ev.RL hl),Rn _ (.Jn _)⟩
 .show([l]:AT BF).Oq
  exact AT.Kv.Lq ⟨λh=>(nomatch h),.HU⟩
theorem rU {P4:Dr} {sc:OE} {s:CW} {f l:BF} {W1:Bl} (KI:K.In s.Dn) (Aag:K.H6 l=BH) (k1:nsOkIn K Kz=Bj) (k2:nsOkIn K Lv=Bj) (k3:nsOkIn K RQ=Bj) (k4:nsIn K RQ "sys.recursionlimit"=A9 BH) (K8:sc.Wz= .LK):
  AB K 41 (MZ P4 sc s f l W1) ⟨sc,0,Bj⟩ (Fa P4 sc s f W1):=by
 have KB:K.In (P8 s.Dn [l]):=λa o e=>Ql _ (KI a o e) λhm=>by
  obtain rfl:a=l:=AT.H9.mp hm
  rw[Aag] at e;cases e
 refine⟨⟨⟨V6,⟨Cs,λ_ _ e=>e,trivial⟩⟩,Cs,Cs,K8,Cs,Cs,⟨_,.of_isNs (isNs_of_in KB k3),nsMap_none_of_in KB k3 k4⟩,KB,⟨_,.of_isNs (isNs_of_in KB k1)⟩,⟨_,.of_isNs (isNs_of_in KB k2)⟩⟩,⟨K8,Cs,Cs,Cs,λx=>rfl,λb hb=>(nomatch hb),λ_=>rfl⟩,⟨show V6.RW+1+2*41<900 by decide,show V6.LL+3+20*41<9000 by decide⟩⟩
def UG (s:CW) (s':CW):Prop:=(∀b o,s.Dn.D7 b=A9 o->s'.Dn.D7 b=A9 o)/\s'.N8= #[]/\s'.os=s.os
theorem vi {P4:Dr} {sc:OE} {s s':CW} {f l:BF} {W1:Bl} {ns:AT Dt} {t:BF} {σ':Sg} {Qk:Ag} {G1:St} (hl:s.Dn.D7 l=A9 (AO (BT ns t) 0)) (le:(OV s l ns t).le σ') (R1:Ak w (MZ P4 sc s f l W1) σ' (Fa P4 sc s f W1) Qk G1 s'):UG s s':=by
 obtain⟨⟨m,ml,G2,r⟩,g1,g2⟩:=R1;refine⟨λb o e=> ?_,g1,g2⟩
 by_cases hb:b=l
 .obtain rfl:o=AO (BT ns t) 0:=Bq.A9.Ky (e.Hl.CX (hb▸hl))
  exact(r.N (b,AO (BT ns t) 0) (aC.Lq (.G4 (.G4 (le.1 _ (by rw[hb];exact .Jn _)))))).1
 .have e1:(P8 s.Dn [l]).D7 b=A9 o:=Ql _ e λhm=>hb (AT.H9.mp hm)
  exact r.F.QH b o (r.T.W8 b o e1 λh=>(nomatch h))
theorem vd (T:NV w K G) {f l:BF} {fi:Hj} (GF:IP w K f fi) {s:CW} (KI:K.In s.Dn) (Aag:K.H6 l=BH) (k1:nsOkIn K Kz=Bj) (k2:nsOkIn K Lv=Bj) (k3:nsOkIn K RQ=Bj) (k4:nsIn K RQ "sys.recursionlimit"=A9 BH)
  {ns:AT Dt} {t:BF} (hl:s.Dn.D7 l=A9 {Ov:= .Ds "list",KA:= .KH (BT ns t).E6}) (hg:s.N8= #[]) {ve0:Ag} {x:Dr} (hp:fi.Ew=[x]) (hd:fi.Vs=[]) (hkl:fi.Jm.Lb.H6 x=A9 .local)
  {Kg:St} (QD:Cm (Eu G 40).1 (Eu G 40).2 .EM .Oj ((AM F0 N0 G 400).ex ⟨fi.Jm,0,Bj⟩ fi.G0 [(x,.t (.Dg (ns.FW .D4)))] [] (λ_ _=> .D9 0) .EM (λ_ _ _ _=> .D9 0))= .EM (.t (.G6 Bj)) Kg):
  `a V6 (DH (.C9 f) [.C9 l]) (λv s'=>v= .G6 Bj/\(∀b o,s.Dn.D7 b=A9 o->s'.Dn.D7 b=A9 o)/\s'.N8= #[]/\s'.os=s.os) (λ_ _=>Re) s:=by
 obtain⟨a,b⟩:=yN (FZ:=FZ) T 40;have o:=iY (FZ:=FZ) T a b .EM .Oj (λA=>A= .EM (.t (.G6 Bj)) Kg) 400;obtain⟨fo,F6,P4,nsA,dl,dV,kV,doc,pm,an',W1,ct,Wg,K1,K2,K3,K4,K5,K67,K8,K9,K10,K11,K12,K13⟩:=GF;have K6:fi.Jm.Lb.H6 x=A9 .local/\∀x∈fi.Jm.Lb,x.2≠.Qc:=by
  rcases K67 with h|⟨p,Df,kp,kd,kn,kr⟩
  .exact⟨hkl,h.2⟩
  .rw[kn,AT.RY,(AT.Dc.Ky (kp.Hl.CX hp)).1,RG] at hkl
   cases hkl
 obtain rfl:Wg=[]:=by rw[hd] at K12;exact K12
 rw[hp] at K4;refine Qn (codeAny_call_def (fd:=fnX F6 P4 ⟨[],nsA,BH,[],[],BH,dl⟩ fi.G0 fi.Jm [] dV kV doc pm an' W1 ct) (G0:=fi.G0) (by decide) (KI _ _ K1) K2 ⟨_,.of_isNs (isNs_of_in KI k3),nsMap_none_of_in KI k3 k4⟩ (codeRec_of (λa o e=>KI _ _ e) K3) rfl (rW KI K4 K13) K6.2
  (λy hy=>by rw[AT.H9.mp (AT.Wd hy).1];exact K6.1) (λh₁ Xn hk₁=> ?_) K9 K10 K8)
 refine Ho (o.ex (MZ P4 fi.Jm s f l W1) ⟨fi.Jm,0,Bj⟩ (Fa P4 fi.Jm s f W1) fi.G0 (OV s l ns t) _ [] _ _ _ _ (λfl s'=>fl= .EM (.G6 Bj)/\UG s s') (λ_ _=>Re) (rU KI Aag k1 k2 k3 k4 K8) ⟨Cs,Cs⟩ (vf hl K6.1 ?_ Xn hk₁ hg rfl) (λn h=>by cases h) QD (λσ' Qk G1 s' le R1 h=>by cases h) (λσ' Qk v y G1 s' le R1 rv h=> ?_) (λve σ' c wv av G1 e s' le hx h=>by cases h) (λe s' x=>x.Dk)) (λfl s' z=> ?_) λ_ _ z=>z.Dk
 .show([(x,Bl.C9 l)].Ia.H6 x)=_
  rw[AT.reverse_singleton,AT.RY,RG]
 .obtain rfl:=(An.EM.Ky h).1
  have rv:Ah w σ'.fz (.G6 Bj) y:=rv;rw[rv.VT];exact⟨Cs,vi hl le R1⟩
 .obtain⟨Cs,z⟩:=z
  exact⟨Cs,z⟩
end
end Internal
namespace Internal
open PySem PySem.W
inductive Tr (α:Type) where
 |HU|L (k:BF) (v:α)|N (k:BF) (l r:Tr α)
def Tr.Wm {α:Type}:Tr α->BF->Bq α
 | .HU,_=>BH
 | .L k v,a=>wh (BF.QC a k) v
 | .N k l r,a=>match BF.blt a k with
  |Bj=>l.Wm a
  |Be=>r.Wm a
def Tr.VG {α:Type} (p:BF->α->CV):Tr α->CV
 | .HU=>Bj
 | .L k v=>p k v
 | .N _ l r=>l.VG p&&r.VG p
theorem gP {α:Type} {a:BF} {v:α} {P:Tr α->Prop} (f:P (.L a v)) (g1:∀k l r,P l->P (.N k l r)) (g2:∀k l r,P r->P (.N k l r)) {t:Tr α}:t.Wm a=A9 v->P t:=by
 induction t with
 |HU=>exactλe=>nomatch e
 |L k v=>exactλe=>dj e λq e=>BF.Kn q▸e▸f
 |N k l r i1 i2=>
  intro e;have e:(match BF.blt a k with|Bj=>l.Wm a|Be=>r.Wm a)=A9 v:=e;cases q:BF.blt a k with
  |Bj=>rw[q] at e;exact g1 k l r (i1 e)
  |Be=>rw[q] at e;exact g2 k l r (i2 e)
theorem co {α:Type} {p:BF->α->CV} {a:BF} {v:α} {t:Tr α} (h:t.VG p=Bj) (e:t.Wm a=A9 v):p a v=Bj:=
 gP (P:=λt=>t.VG p=Bj->p a v=Bj) id (λ_ _ _ i h=>i ((CV.DG _ _).mp h).1) (λ_ _ _ i h=>i ((CV.DG _ _).mp h).2) e h
def TR:BF->AT BF->BF
 |n,[]=>n
 |n,c::r=>TR (n*256+c) r
def TP:Dr->BF
 |⟨⟨l⟩⟩=>TR 1 l
def Ay (s:IQ) (ds:AT T):Hj:=match s with
 | .FunctionDef _ args G0 _ _ _ Jm _ _ _=>⟨args.args.FW (·.arg),ds,G0,Jm⟩
 |_=>⟨[],[],[],⟨.LK,[],Be,Be,[]⟩⟩
def Mq:Tr (Dr×T):=(.N 6482616824352613689700 (.N 373023300142419 (.N 5509575269 (.N 23880055 (.N 22246765 (.N 22177127 (.N 21849453 (.L 21589357 ((s!"Imm",.Km (.C9 486)))) (.L 21849453 ((s!"Mem",.Km (.C9 580))))) (.N 22177132 (.L 22177127 ((s!"Reg",.Km (.C9 452)))) (.L 22177132 ((s!"Rel",.Km (.C9 527)))))) (.N 23162489 (.N 23159411 (.L 22246765 ((s!"Sum",.Km (.C9 1367)))) (.L 23159411 ((s!"abs",.Km (.Dd "abs"))))) (.N 23556210 (.L 23162489 ((s!"any",.Km (.Dd "any")))) (.N 23686772 (.L 23556210 ((Bm,.Km (.C9 1219)))) (.L 23686772 ((s!"int",.Km (.Ds "int")))))))) (.N 24669549 (.N 24275312 (.N 23881070 (.L 23880055 ((`cW,.Km (.C9 1677)))) (.L 23881070 ((s!"len",.Km (.Dd "len"))))) (.N 24343666 (.L 24275312 ((`cj,.Km (.C9 1240)))) (.L 24343666 ((s!"str",.Km (.Ds "str")))))) (.N 5460488306 (.N 24799600 (.L 24669549 ((`ci,.Km (.C9 1233)))) (.L 24799600 ((s!"zip",.Km (.Ds "zip"))))) (.N 5476676205 (.L 5460488306 ((`bO,.Km (.C9 811)))) (.N 5509570916 (.L 5476676205 ((s!"Form",.Km (.C9 283)))) (.L 5509570916 ((s!"Head",.Km (.C9 694))))))))) (.N 1466435727993 (.N 6298952048 (.N 6113817460 (.N 6046705512 (.L 5509575269 ((s!"Here",.Km (.C9 884)))) (.L 6046705512 ((`ch,.Km (.C9 1226))))) (.N 6130070379 (.L 6113817460 ((s!"list",.Km (.Ds "list")))) (.L 6130070379 ((`aT,.Km (.C9 120)))))) (.N 1457662160997 (.N 1444927333221 (.L 6298952048 ((`aU,.Km (.C9 127)))) (.L 1444927333221 ((s!"Place",.Km (.C9 45))))) (.N 1461720338003 (.L 1457662160997 ((s!"Scope",.Km (.C9 1088)))) (.N 1462158189934 (.L 1461720338003 ((s!"TURNS",.Dq s!"rol ror rcl rcr shl shr sar"))) (.L 1462158189934 ((s!"Token",.Km (.C9 1444)))))))) (.N 1599698136165 (.N 1590772524901 (.N 1509536394348 (.L 1466435727993 ((s!"Unary",.Km (.C9 910)))) (.L 1509536394348 ((ZT,.Km (.C9 21))))) (.N 1595202495844 (.L 1590772524901 ((s!"range",.Km (.Ds "range")))) (.N 1599362262387 (.L 1595202495844 ((`bz,.Km (.C9 670)))) (.L 1599362262387 ((`bj,.Km (.C9 225))))))) (.N 354495567590009 (.N 353383037365861 (.L 1599698136165 ((s!"tuple",.Km (.Ds "tuple")))) (.L 353383037365861 ((s!"Affine",.Km (.C9 1040))))) (.N 355646687113074 (.L 354495567590009 ((s!"Binary",.Km (.C9 936)))) (.N 367741230015858 (.L 355646687113074 ((s!"Cursor",.Km (.C9 1542)))) (.L 367741230015858 ((s!"Number",.Km (.C9 839)))))))))) (.N 24447024549451420755 (.N 96626474581116228 (.N 409522756543844 (.N 408371520759140 (.N 373255968026476 (.L 373023300142419 ((s!"SCALES",.Dq s!"1 2 4 8"))) (.L 373255968026476 ((s!"Symbol",.Km (.C9 865))))) (.N 408397475505508 (.L 408371520759140 ((`aV,.Km (.C9 134)))) (.L 408397475505508 ((s!"sorted",.Km (.Dd "sorted")))))) (.N 91003645282501956 (.N 90437345036420435 (.L 409522756543844 ((`cb,.Km (.C9 1127)))) (.L 90437345036420435 ((s!"ALIASES",.Dq s!"c:b nae:b nb:ae nc:ae z:e nz:ne na:be nbe:a pe:p po:np nge:l nl:ge ng:le nle:g")))) (.N 94084442352738104 (.L 91003645282501956 ((s!"COUNTED",.Dq s!"rol ror rcl rcr shl shr sar shld shrd"))) (.N 94417698211065444 (.L 94084442352738104 ((s!"NAMES_8",.Dq s!"al cl dl bl spl bpl sil dil"))) (.L 94417698211065444 ((`bt,.Km (.C9 417)))))))) (.N 104820207686086247 (.N 104538711251054196 (.N 101171980859830118 (.L 96626474581116228 ((s!"WIDENED",.Dq s!"movzx movsx movsxd"))) (.L 101171980859830118 ((`bF,.Km (.C9 733))))) (.N 104542018259412324 (.L 104538711251054196 ((`ck,.Km (.C9 1247)))) (.N 104546442309234534 (.L 104542018259412324 ((`bY,.Km (.C9 1106)))) (.L 104546442309234534 ((`bf,.Km (.C9 197))))))) (.N 24085617242300953394 (.N 24085617242300952886 (.L 104820207686086247 ((`bI,.Km (.C9 754)))) (.L 24085617242300952886 ((s!"NAMES_16",.Dq s!"ax cx dx bx sp bp si di")))) (.N 24085617242300954164 (.L 24085617242300953394 ((s!"NAMES_32",.Dq s!"eax ecx edx ebx esp ebp esi edi"))) (.N 24384009460073653618 (.L 24085617242300954164 ((s!"NAMES_64",.Dq s!"rax rcx rdx rbx rsp rbp rsi rdi"))) (.L 24384009460073653618 ((s!"Register",.Km (.C9 1194))))))))) (.N 26400502773117315438 (.N 25611809875322365284 (.N 25322721970127857012 (.N 25322721970126745464 (.L 24447024549451420755 ((s!"SEGMENTS",.Dq s!"fs gs ds"))) (.L 25322721970126745464 ((`cD,.Km (.C9 1551))))) (.N 25611799992769408870 (.L 25322721970127857012 ((`cG,.Km (.C9 1565)))) (.L 25611799992769408870 ((`bo,.Km (.C9 306)))))) (.N 25757882237245813861 (.N 25611809935501653093 (.L 25611809875322365284 ((`ca,.Km (.C9 1120)))) (.L 25611809935501653093 ((`bM,.Km (.C9 787))))) (.N 26045265963474511204 (.L 25757882237245813861 ((`cc,.Km (.C9 1135)))) (.N 26257523380435513190 (.L 26045265963474511204 ((`aZ,.Km (.C9 162)))) (.L 26257523380435513190 ((`bQ,.Km (.C9 952)))))))) (.N 6150362914008322961266 (.N 26622307318045699700 (.N 26544613618981236582 (.L 26400502773117315438 ((`cd,.Km (.C9 1142)))) (.L 26544613618981236582 ((`bl,.Km (.C9 294))))) (.N 26689848079763268964 (.L 26622307318045699700 ((`bX,.Km (.C9 1099)))) (.N 6003866712796513791854 (.L 26689848079763268964 ((`bZ,.Km (.C9 1113)))) (.L 6003866712796513791854 ((s!"Exception",.Km (.Ds "Exception"))))))) (.N 6242304727233835724658 (.N 6203819192492989969524 (.L 6150362914008322961266 ((`aP,.Km (.C9 74)))) (.L 6203819192492989969524 ((s!"POINT_att",.Dq DI)))) (.N 6482616824352462697317 (.L 6242304727233835724658 ((`aQ,.Km (.C9 87)))) (.N 6482616824352480584055 (.L 6482616824352462697317 ((`cN,.Km (.C9 1614)))) (.L 6482616824352480584055 ((`cF,.Km (.C9 1558))))))))))) (.N 416235531433427346515120723 (.N 1659549907034251991282276 (.N 6832600537703992815730 (.N 6555614817556013212012 (.N 6482616824352731658853 (.N 6482616824352614215269 (.L 6482616824352613689700 ((`cQ,.Km (.C9 1635)))) (.L 6482616824352614215269 ((`cT,.Km (.C9 1656))))) (.N 6519079358981832929126 (.L 6482616824352731658853 ((`cJ,.Km (.C9 1586)))) (.L 6519079358981832929126 ((`bW,.Km (.C9 1049)))))) (.N 6667588082289697776488 (.N 6556116674232296760685 (.L 6555614817556013212012 ((`bn,.Km (.C9 301)))) (.L 6556116674232296760685 ((`by,.Km (.C9 663))))) (.N 6703765218739108805221 (.L 6667588082289697776488 ((`bB,.Km (.C9 705)))) (.N 6777911943143927413349 (.L 6703765218739108805221 ((`be,.Km (.C9 190)))) (.L 6777911943143927413349 ((`bL,.Km (.C9 775)))))))) (.N 6925559619087757834853 (.N 6832600537704175858292 (.N 6832600537704041898340 (.L 6832600537703992815730 ((`bU,.Km (.C9 980)))) (.L 6832600537704041898340 ((`bD,.Km (.C9 719))))) (.N 6832600537704226716261 (.L 6832600537704175858292 ((`bS,.Km (.C9 966)))) (.L 6832600537704226716261 ((`cq,.Km (.C9 1282)))))) (.N 1574011336106364927759432 (.N 1550287955158789151081811 (.L 6925559619087757834853 ((`cn,.Km (.C9 1268)))) (.L 1550287955158789151081811 ((s!"HIGH_NAMES",.Dq s!"ah ch dh bh")))) (.N 1574011336106429402138196 (.L 1574011336106364927759432 ((s!"MOST_DEPTH",.D4 10))) (.N 1621123235384571135479365 (.L 1574011336106429402138196 ((s!"MOST_SHIFT",.D4 63))) (.L 1621123235384571135479365 ((s!"WIDE_ALONE",.Dq s!"push pop jmp call")))))))) (.N 1720811903546634101419621 (.N 1659549907034303532002675 (.N 1659549907034286468458862 (.N 1659549907034286468457317 (.L 1659549907034251991282276 ((`cS,.Km (.C9 1649)))) (.L 1659549907034286468457317 ((`cL,.Km (.C9 1600))))) (.N 1659549907034299304666468 (.L 1659549907034286468458862 ((`cH,.Km (.C9 1572)))) (.L 1659549907034299304666468 ((`cU,.Km (.C9 1663)))))) (.N 1678365868603467785925477 (.N 1659549907034316584674419 (.L 1659549907034303532002675 ((`cM,.Km (.C9 1607)))) (.L 1659549907034316584674419 ((`cK,.Km (.C9 1593))))) (.N 1678496151259066870623077 (.L 1678365868603467785925477 ((`bw,.Km (.C9 649)))) (.N 1706902550459299547734380 (.L 1678496151259066870623077 ((`bK,.Km (.C9 768)))) (.L 1706902550459299547734380 ((`bC,.Km (.C9 712)))))))) (.N 1754015680353749008739685 (.N 1749145737652239173182828 (.N 1739830133318840490226292 (.L 1720811903546634101419621 ((`bP,.Km (.C9 945)))) (.L 1739830133318840490226292 ((`bE,.Km (.C9 726))))) (.N 1749145737652251907220844 (.L 1749145737652239173182828 ((`cy,.Km (.C9 1406)))) (.N 1749145737652269203155310 (.L 1749145737652251907220844 ((`bT,.Km (.C9 973)))) (.L 1749145737652269203155310 ((`cv,.Km (.C9 1385))))))) (.N 405388161516194857227208019 (.N 398258184732795261810208622 (.L 1754015680353749008739685 ((`cp,.Km (.C9 1275)))) (.L 398258184732795261810208622 ((s!"Instruction",.Km (.C9 631))))) (.N 406573494599220624901825900 (.L 405388161516194857227208019 ((s!"OTHER_NAMES",.Dq s!"sal:shl loopz:loope loopnz:loopne repe:rep repz:rep repnz:repne"))) (.N 410399276981897535297843058 (.L 406573494599220624901825900 ((s!"POINT_intel",.Dq DI))) (.L 410399276981897535297843058 ((`aS,.Km (.C9 111)))))))))) (.N 108760262707399846880026060132 (.N 440509215015544570910436967 (.N 429661662362494358822675821 (.N 424844776200781747024391795 (.N 424844776200775175757784434 (.L 416235531433427346515120723 ((s!"XMM_NUMBERS",.Dq s!"0 1 2 3 4 5 6 7 8 9 10 11 12 13 14 15"))) (.L 424844776200775175757784434 ((`cI,.Km (.C9 1579))))) (.N 429661662362487783478814072 (.L 424844776200781747024391795 ((`cR,.Km (.C9 1642)))) (.L 429661662362487783478814072 ((`bx,.Km (.C9 656)))))) (.N 433293440038526048348431730 (.N 432046697896468929808524659 (.L 429661662362494358822675821 ((`bG,.Km (.C9 740)))) (.L 432046697896468929808524659 ((`cf,.Km (.C9 1205))))) (.N 433293440038541441293509988 (.L 433293440038526048348431730 ((`aY,.Km (.C9 155)))) (.N 436967053710212002468165221 (.L 433293440038541441293509988 ((`aW,.Km (.C9 141)))) (.L 436967053710212002468165221 ((`bc,.Km (.C9 176)))))))) (.N 102828001397438936121239491155 (.N 447781308838977587609825913 (.N 441736901899828053695625829 (.L 440509215015544570910436967 ((`cg,.Km (.C9 1212)))) (.L 441736901899828053695625829 ((`bk,.Km (.C9 782))))) (.N 447781419885367196255219558 (.L 447781308838977587609825913 ((`cu,.Km (.C9 1378)))) (.N 450180455557387882226414696 (.L 447781419885367196255219558 ((`cs,.Km (.C9 1296)))) (.L 450180455557387882226414696 ((`bh,.Km (.C9 211))))))) (.N 103813357050911689845977018226 (.N 103142289237507158879497766227 (.L 102828001397438936121239491155 ((s!"LATE_NUMBERS",.Dq s!"8 9 10 11 12 13 14 15"))) (.L 103142289237507158879497766227 ((s!"MEMORY_SIZES",.Dq s!"0 8 16 32 64 128")))) (.N 104086422357024824840357561427 (.L 103813357050911689845977018226 ((`aR,.Km (.C9 99)))) (.N 108760262707398726499319768165 (.L 104086422357024824840357561427 ((s!"PREFIX_WORDS",.Dq s!"lock rep repe repz repne repnz"))) (.L 108760262707398726499319768165 ((`cP,.Km (.C9 1628))))))))) (.N 28869211915259663217932719383922 (.N 114632015062779951252171484788 (.N 111863565584370322525070128229 (.N 109685151945711710314385794412 (.L 108760262707399846880026060132 ((`cV,.Km (.C9 1670)))) (.L 109685151945711710314385794412 ((`bR,.Km (.C9 959))))) (.N 114632015062778837438386237028 (.L 111863565584370322525070128229 ((`bb,.Km (.C9 169)))) (.L 114632015062778837438386237028 ((`cw,.Km (.C9 1392)))))) (.N 26879787756647164655696163456339 (.N 115246196622691286811812000377 (.L 114632015062779951252171484788 ((`cr,.Km (.C9 1289)))) (.L 115246196622691286811812000377 ((`bd,.Km (.C9 183))))) (.N 28396311561975363782276560479602 (.L 26879787756647164655696163456339 ((s!"SEGMENT_NAMES",.Dq s!"es cs ss ds fs gs"))) (.N 28396318886365997432347128915300 (.L 28396311561975363782276560479602 ((`cm,.Km (.C9 1261)))) (.L 28396318886365997432347128915300 ((`aX,.Km (.C9 148)))))))) (.N 7472513523199739778312761785607283 (.N 6681663589030008391166421061821812 (.N 29345795856071382384226876679283 (.L 28869211915259663217932719383922 ((`cl,.Km (.C9 1254)))) (.L 29345795856071382384226876679283 ((`cx,.Km (.C9 1399))))) (.N 7127712576791842910648071852680548 (.L 6681663589030008391166421061821812 ((s!"InstructionSet",.Km (.C9 375)))) (.N 7431080903212806152926712565097842 (.L 7127712576791842910648071852680548 ((`cO,.Km (.C9 1621)))) (.L 7431080903212806152926712565097842 ((`ct,.Km (.C9 1301))))))) (.N 7552774741864696532780258623251826 (.N 7552774741864695525113083080893285 (.L 7472513523199739778312761785607283 ((`bH,.Km (.C9 747)))) (.L 7552774741864695525113083080893285 ((`bi,.Km (.C9 218))))) (.N 1845382788191879292614062668603814515 (.L 7552774741864696532780258623251826 ((`bg,.Km (.C9 204)))) (.N 8060619385832947452971556587196630350517527922 (.L 1845382788191879292614062668603814515 ((`bJ,.Km (.C9 761)))) (.L 8060619385832947452971556587196630350517527922 ((`bv,.Km (.C9 642))))))))))))
def Nt (x:Dr):Bq T:=(Mq.Wm (TP x)).G3 λp=>wh (KH p.1 x) p.2
def Nc:Tr Hj:=(.N 945 (.N 503 (.N 266 (.N 169 (.N 127 (.N 64 (.N 42 (.L 35 ((Ay (BE 2 0) []))) (.L 42 ((Ay (BE 2 1) [])))) (.N 71 (.L 64 ((Ay (BE 3 0) [.Kr]))) (.N 120 (.L 71 ((Ay (BE 3 1) []))) (.L 120 ((Ay (Bn 7) [])))))) (.N 148 (.N 134 (.L 127 ((Ay (Bn 8) []))) (.N 141 (.L 134 ((Ay (Bn 9) []))) (.L 141 ((Ay (Bn 10) []))))) (.N 155 (.L 148 ((Ay (Bn 11) []))) (.N 162 (.L 155 ((Ay (Bn 12) []))) (.L 162 ((Ay (Bn 14) []))))))) (.N 204 (.N 183 (.N 176 (.L 169 ((Ay (Bn 15) []))) (.L 176 ((Ay (Bn 16) [])))) (.N 190 (.L 183 ((Ay (Bn 17) []))) (.N 197 (.L 190 ((Ay (Bn 18) []))) (.L 197 ((Ay (Bn 19) [])))))) (.N 225 (.N 211 (.L 204 ((Ay (Bn 20) []))) (.N 218 (.L 211 ((Ay (Bn 21) []))) (.L 218 ((Ay (Bn 22) []))))) (.N 238 (.L 225 ((Ay (Bn 23) []))) (.N 245 (.L 238 ((Ay (BE 24 0) [.D4 0,.D4 (-1),.D4 0,.D4 0,.G6 Be]))) (.L 245 ((Ay (BE 24 1) [])))))))) (.N 365 (.N 325 (.N 301 (.N 294 (.L 266 ((Ay (BE 24 4) []))) (.L 294 ((Ay (Bn 28) [])))) (.N 306 (.L 301 ((Ay (Bn 29) []))) (.N 320 (.L 306 ((Ay (Bn 30) []))) (.L 320 ((Ay (BE 31 0) [])))))) (.N 346 (.N 332 (.L 325 ((Ay (BE 31 1) []))) (.N 339 (.L 332 ((Ay (BE 31 2) []))) (.L 339 ((Ay (BE 31 3) []))))) (.N 353 (.L 346 ((Ay (BE 31 4) []))) (.N 360 (.L 353 ((Ay (BE 31 5) []))) (.L 360 ((Ay (BE 31 6) []))))))) (.N 435 (.N 400 (.N 393 (.L 365 ((Ay (BE 31 7) []))) (.L 393 ((Ay (BE 35 0) [])))) (.N 407 (.L 400 ((Ay (BE 35 1) []))) (.N 414 (.L 407 ((Ay (BE 35 2) []))) (.L 414 ((Ay (BE 35 3) [])))))) (.N 469 (.N 442 (.L 435 ((Ay (BE 36 0) []))) (.N 449 (.L 442 ((Ay (BE 36 1) []))) (.L 449 ((Ay (BE 36 2) []))))) (.N 476 (.L 469 ((Ay (BE 37 0) [.Dq Ae]))) (.N 483 (.L 476 ((Ay (BE 37 1) []))) (.L 483 ((Ay (BE 37 2) []))))))))) (.N 719 (.N 616 (.N 551 (.N 517 (.N 510 (.L 503 ((Ay (BE 38 0) [.Dq Ae]))) (.L 510 ((Ay (BE 38 1) [])))) (.N 524 (.L 517 ((Ay (BE 38 2) []))) (.N 544 (.L 524 ((Ay (BE 38 3) []))) (.L 544 ((Ay (BE 39 0) [.D4 0,.Dq Ae,.Dq Ae])))))) (.N 597 (.N 558 (.L 551 ((Ay (BE 39 1) []))) (.N 563 (.L 558 ((Ay (BE 39 2) []))) (.L 563 ((Ay (BE 39 3) []))))) (.N 602 (.L 597 ((Ay (BE 40 0) [.Dq Ae]))) (.N 609 (.L 602 ((Ay (BE 40 1) []))) (.L 609 ((Ay (BE 40 2) []))))))) (.N 663 (.N 642 (.N 621 (.L 616 ((Ay (BE 40 3) []))) (.L 621 ((Ay (BE 40 4) [])))) (.N 649 (.L 642 ((Ay (Bn 41) []))) (.N 656 (.L 649 ((Ay (Bn 42) []))) (.L 656 ((Ay (Bn 43) [])))))) (.N 691 (.N 670 (.L 663 ((Ay (Bn 44) []))) (.N 684 (.L 670 ((Ay (Bn 45) []))) (.L 684 ((Ay (BE 53 0) []))))) (.N 705 (.L 691 ((Ay (BE 53 1) []))) (.N 712 (.L 705 ((Ay (Bn 54) []))) (.L 712 ((Ay (Bn 55) [])))))))) (.N 801 (.N 754 (.N 733 (.N 726 (.L 719 ((Ay (Bn 56) []))) (.L 726 ((Ay (Bn 57) [])))) (.N 740 (.L 733 ((Ay (Bn 58) []))) (.N 747 (.L 740 ((Ay (Bn 59) []))) (.L 747 ((Ay (Bn 60) [])))))) (.N 775 (.N 761 (.L 754 ((Ay (Bn 61) []))) (.N 768 (.L 761 ((Ay (Bn 62) []))) (.L 768 ((Ay (Bn 63) []))))) (.N 782 (.L 775 ((Ay (Bn 64) []))) (.N 787 (.L 782 ((Ay (Bn 65) []))) (.L 787 ((Ay (Bn 66) []))))))) (.N 862 (.N 829 (.N 808 (.L 801 ((Ay (BE 70 0) []))) (.L 808 ((Ay (BE 70 1) [])))) (.N 836 (.L 829 ((Ay (BE 71 0) []))) (.N 855 (.L 836 ((Ay (BE 71 1) []))) (.L 855 ((Ay (BE 72 0) [])))))) (.N 907 (.N 881 (.L 862 ((Ay (BE 72 1) []))) (.N 900 (.L 881 ((Ay (BE 73 0) []))) (.L 900 ((Ay (BE 74 0) []))))) (.N 926 (.L 907 ((Ay (BE 74 1) []))) (.N 933 (.L 926 ((Ay (BE 75 0) []))) (.L 933 ((Ay (BE 75 1) [])))))))))) (.N 1329 (.N 1135 (.N 1037 (.N 980 (.N 959 (.N 952 (.L 945 ((Ay (Bn 76) []))) (.L 952 ((Ay (Bn 77) [])))) (.N 966 (.L 959 ((Ay (Bn 78) []))) (.N 973 (.L 966 ((Ay (Bn 79) []))) (.L 973 ((Ay (Bn 80) [])))))) (.N 1009 (.N 995 (.L 980 ((Ay (Bn 81) []))) (.N 1002 (.L 995 ((Ay (BE 82 0) [.Dq Ae,.Dq Ae]))) (.L 1002 ((Ay (BE 82 1) []))))) (.N 1023 (.L 1009 ((Ay (BE 82 2) []))) (.N 1030 (.L 1023 ((Ay (BE 82 4) []))) (.L 1030 ((Ay (BE 82 5) []))))))) (.N 1085 (.N 1064 (.N 1049 (.L 1037 ((Ay (BE 82 6) []))) (.L 1049 ((Ay (Bn 83) [])))) (.N 1071 (.L 1064 ((Ay (BE 84 0) [.Kr]))) (.N 1078 (.L 1071 ((Ay (BE 84 1) []))) (.L 1078 ((Ay (BE 84 2) [])))))) (.N 1113 (.N 1099 (.L 1085 ((Ay (BE 84 3) []))) (.N 1106 (.L 1099 ((Ay (Bn 85) []))) (.L 1106 ((Ay (Bn 86) []))))) (.N 1120 (.L 1113 ((Ay (Bn 87) []))) (.N 1127 (.L 1120 ((Ay (Bn 88) []))) (.L 1127 ((Ay (Bn 89) [])))))))) (.N 1247 (.N 1205 (.N 1156 (.N 1142 (.L 1135 ((Ay (Bn 90) [.Dq Ae]))) (.L 1142 ((Ay (Bn 91) [])))) (.N 1163 (.L 1156 ((Ay (BE 101 0) []))) (.N 1191 (.L 1163 ((Ay (BE 101 1) []))) (.L 1191 ((Ay (BE 101 5) [])))))) (.N 1226 (.N 1212 (.L 1205 ((Ay (Bn 102) []))) (.N 1219 (.L 1212 ((Ay (Bn 103) []))) (.L 1219 ((Ay (Bn 104) []))))) (.N 1233 (.L 1226 ((Ay (Bn 105) []))) (.N 1240 (.L 1233 ((Ay (Bn 106) []))) (.L 1240 ((Ay (Bn 107) []))))))) (.N 1282 (.N 1261 (.N 1254 (.L 1247 ((Ay (Bn 108) []))) (.L 1254 ((Ay (Bn 109) [])))) (.N 1268 (.L 1261 ((Ay (Bn 110) []))) (.N 1275 (.L 1268 ((Ay (Bn 114) []))) (.L 1275 ((Ay (Bn 115) [])))))) (.N 1301 (.N 1289 (.L 1282 ((Ay (Bn 116) []))) (.N 1296 (.L 1289 ((Ay (Bn 117) []))) (.L 1296 ((Ay (Bn 118) []))))) (.N 1315 (.L 1301 ((Ay (Bn 119) []))) (.N 1322 (.L 1315 ((Ay (BE 120 0) []))) (.L 1322 ((Ay (BE 120 1) []))))))))) (.N 1525 (.N 1420 (.N 1364 (.N 1343 (.N 1336 (.L 1329 ((Ay (BE 120 2) []))) (.L 1336 ((Ay (BE 120 3) [])))) (.N 1350 (.L 1343 ((Ay (BE 120 4) []))) (.N 1357 (.L 1350 ((Ay (BE 120 5) []))) (.L 1357 ((Ay (BE 120 6) [])))))) (.N 1392 (.N 1378 (.L 1364 ((Ay (BE 120 7) []))) (.N 1385 (.L 1378 ((Ay (Bn 121) []))) (.L 1385 ((Ay (Bn 122) []))))) (.N 1399 (.L 1392 ((Ay (Bn 123) []))) (.N 1406 (.L 1399 ((Ay (Bn 124) []))) (.L 1406 ((Ay (Bn 125) []))))))) (.N 1476 (.N 1441 (.N 1427 (.L 1420 ((Ay (BE 127 0) []))) (.L 1427 ((Ay (BE 127 1) [])))) (.N 1462 (.L 1441 ((Ay (BE 127 3) []))) (.N 1469 (.L 1462 ((Ay (BE 128 0) []))) (.L 1469 ((Ay (BE 128 1) [])))))) (.N 1497 (.N 1483 (.L 1476 ((Ay (BE 128 2) []))) (.N 1490 (.L 1483 ((Ay (BE 128 3) []))) (.L 1490 ((Ay (BE 128 4) []))))) (.N 1504 (.L 1497 ((Ay (BE 128 5) []))) (.N 1518 (.L 1504 ((Ay (BE 128 6) []))) (.L 1518 ((Ay (BE 128 8) [])))))))) (.N 1607 (.N 1565 (.N 1539 (.N 1532 (.L 1525 ((Ay (BE 128 9) []))) (.L 1532 ((Ay (BE 128 10) [])))) (.N 1551 (.L 1539 ((Ay (BE 128 11) []))) (.N 1558 (.L 1551 ((Ay (Bn 130) []))) (.L 1558 ((Ay (Bn 131) [])))))) (.N 1586 (.N 1572 (.L 1565 ((Ay (Bn 132) []))) (.N 1579 (.L 1572 ((Ay (Bn 133) []))) (.L 1579 ((Ay (Bn 134) []))))) (.N 1593 (.L 1586 ((Ay (Bn 135) []))) (.N 1600 (.L 1593 ((Ay (Bn 136) []))) (.L 1600 ((Ay (Bn 137) []))))))) (.N 1642 (.N 1621 (.N 1614 (.L 1607 ((Ay (Bn 138) []))) (.L 1614 ((Ay (Bn 139) [])))) (.N 1628 (.L 1621 ((Ay (Bn 140) []))) (.N 1635 (.L 1628 ((Ay (Bn 141) []))) (.L 1635 ((Ay (Bn 142) [])))))) (.N 1663 (.N 1649 (.L 1642 ((Ay (Bn 143) []))) (.N 1656 (.L 1649 ((Ay (Bn 144) []))) (.L 1656 ((Ay (Bn 145) []))))) (.N 1670 (.L 1663 ((Ay (Bn 146) []))) (.N 1677 (.L 1670 ((Ay (Bn 147) []))) (.L 1677 ((Ay (Bn 148) [])))))))))))
def XG (a:BF):Bq Hj:=Nc.Wm a
def O8:Tr ML:=(.N 839 (.N 486 (.N 375 (.N 283 (.L 45 (⟨35,Be⟩)) (.L 283 (⟨238,Bj⟩))) (.N 417 (.L 375 (⟨320,Bj⟩)) (.N 452 (.L 417 (⟨393,Be⟩)) (.L 452 (⟨435,Be⟩))))) (.N 631 (.N 527 (.L 486 (⟨469,Be⟩)) (.N 580 (.L 527 (⟨503,Be⟩)) (.L 580 (⟨544,Be⟩)))) (.N 694 (.L 631 (⟨597,Be⟩)) (.N 811 (.L 694 (⟨684,Be⟩)) (.L 811 (⟨801,Be⟩)))))) (.N 1040 (.N 884 (.N 865 (.L 839 (⟨829,Be⟩)) (.L 865 (⟨855,Be⟩))) (.N 910 (.L 884 (⟨881,Be⟩)) (.N 936 (.L 910 (⟨900,Be⟩)) (.L 936 (⟨926,Be⟩))))) (.N 1367 (.N 1088 (.L 1040 (⟨995,Be⟩)) (.N 1194 (.L 1088 (⟨1064,Be⟩)) (.L 1194 (⟨1156,Be⟩)))) (.N 1444 (.L 1367 (⟨1315,Bj⟩)) (.N 1542 (.L 1444 (⟨1420,Be⟩)) (.L 1542 (⟨1462,Bj⟩)))))))
def MS (a:BF):CV:=BF.QC a 87||BF.QC a 99||BF.QC a 111
def Su (c d:BF):CV:=BF.QC c d||(BF.QC d 74&&MS c)
def Ny:Tr (AT (Dr×BF)):=(.N 839 (.N 486 (.N 375 (.N 283 (.L 45 ([(ZO,42)])) (.L 283 ([(ZO,245),(s!"has_plus",266)]))) (.N 417 (.L 375 ([(ZO,325),(`bp,332),(s!"has",339),(s!"at",346),(s!"names",353),(s!"codes",360),(s!"counts",365)])) (.N 452 (.L 417 ([(ZR,393),(ZO,400),(`br,407),(`bs,414)])) (.L 452 ([(ZR,435),(ZO,442),(`bs,449),(`br,407)]))))) (.N 631 (.N 527 (.L 486 ([(ZR,469),(ZO,476),(`br,483),(`bs,414)])) (.N 580 (.L 527 ([(ZR,503),(ZO,510),(`br,517),(s!"target",524),(`bs,414)])) (.L 580 ([(ZR,544),(ZO,551),(`br,558),(`bs,563)])))) (.N 694 (.L 631 ([(ZO,602),(s!"memory_at",609),(`bu,616),(s!"symbols",621)])) (.N 811 (.L 694 ([(ZO,691)])) (.L 811 ([(ZO,808)])))))) (.N 1040 (.N 884 (.N 865 (.L 839 ([(ZO,836)])) (.L 865 ([(ZO,862)]))) (.N 910 (.L 884 ([(ZO,808)])) (.N 936 (.L 910 ([(ZO,907)])) (.L 936 ([(ZO,933)]))))) (.N 1367 (.N 1088 (.L 1040 ([(ZO,1002),(s!"is_number",1009),(s!"negate",1023),(AL,1030),(`bV,1037)])) (.N 1194 (.L 1088 ([(s!"put",1071),(`bp,1078),(s!"settled",1085)])) (.L 1194 ([(s!"code",1163),(ZO,1191)])))) (.N 1444 (.L 1367 ([(s!"worth_of",1322),(s!"add_outside",1329),(AL,1336),(s!"add_term",1343),(s!"add_register",1350),(s!"add_scaled",1357),(`bu,1364)])) (.N 1542 (.L 1444 ([(`cA,1427),(ZO,1441)])) (.L 1542 ([(s!"peek",1469),(`cB,1476),(s!"take",1483),(`cA,1490),(s!"is_end",1497),(s!"skip",1504),(s!"need",1518),(s!"need_end",1525),(`cC,1532),(s!"rest_place",1539)])))))))
def Nq (a:BF) (x:Dr):Bq BF:=(Ny.Wm a).G3 λl=>BU l x
def TH:Tr (AT (Dr×CV)):=(.N 839 (.N 486 (.N 375 (.N 283 (.L 45 ([(Cb,Bj),(s!"column",Bj)])) (.L 283 ([(`cC,Bj),(s!"kinds",Bj),(s!"opcode",Bj),(s!"escape",Bj),(s!"digit",Bj),(`cY,Bj),(s!"must",Bj),(s!"is_wide",Bj),(`cZ,Bj),(`bV,Bj)]))) (.N 417 (.L 375 ([(s!"forms",Bj),(s!"by_name",Bj),(s!"by_code",Bj)])) (.N 452 (.L 417 ([(`da,Bj)])) (.L 452 ([(`da,Bj),(s!"register",Bj)]))))) (.N 631 (.N 527 (.L 486 ([(`da,Bj),(`db,Bj),(`cC,Bj)])) (.N 580 (.L 527 ([(`da,Bj),(`db,Bj),(`cC,Bj)])) (.L 580 ([(`da,Bj),(`dc,Bj),(`dd,Bj),(`de,Bj),(`db,Bj),(`cY,Bj),(`ck,Bj),(`cC,Bj)])))) (.N 694 (.L 631 ([(`cC,Bj),(s!"operands",Bj),(`df,Bj)])) (.N 811 (.L 694 ([(`df,Bj),(`dg,Bj),(s!"at",Bj)])) (.L 811 ([(`da,Bj)])))))) (.N 1040 (.N 884 (.N 865 (.L 839 ([(`da,Bj),(`db,Bj)])) (.L 865 ([(`da,Bj),(`cC,Bj)]))) (.N 910 (.L 884 ([(`da,Bj)])) (.N 936 (.L 910 ([(`da,Bj),(`dh,Bj),(s!"body",Bj)])) (.L 936 ([(`da,Bj),(`dh,Bj),(`di,Bj),(s!"right",Bj)]))))) (.N 1367 (.N 1088 (.L 1040 ([(`db,Bj),(`dj,Bj),(`dk,Bj)])) (.N 1194 (.L 1088 ([(s!"equates",Bj)])) (.L 1194 ([(`cC,Bj),(`da,Bj),(`cZ,Bj),(`cY,Bj)])))) (.N 1444 (.L 1367 ([(`dl,Bj),(s!"at",Bj),(s!"plain",Bj),(`dd,Bj),(`de,Bj),(s!"rest",Bj)])) (.N 1542 (.L 1444 ([(`da,Bj),(s!"text",Bj),(`db,Bj),(s!"at",Bj)])) (.L 1542 ([(s!"tokens",Bj),(s!"at",Bj)])))))))
def Sv (a:BF) (x:Dr):CV:=Z7 (TH.Wm a) (λl=>(BU l x).KQ) Be
def GT:DM:=⟨Nt,XG,O8.Wm,MS,Su,Nq,Sv⟩
end Internal
namespace Internal
open PySem PySem.W PyProof.Rows PySem.Calls PySem.SeqAt
def KF (P:DV):Lo:=Eo P++(Hw P++CU P)
theorem j9 {β:Type} {l:AT (BF×β)} {a:BF} {o:β}:l.H6 a=A9 o->(a,o)∈l:=by
 induction l with
 |HU=>exactλe=>nomatch e
 |Dc p r ih=>
  intro e;have e:(match a==p.1 with|Bj=>A9 p.2|Be=>r.H6 a)=A9 o:=e;cases q:a==p.1 with
  |Bj=>rw[q] at e;exact Kw.mp q▸Bq.A9.Ky e▸.Jn _
  |Be=>rw[q] at e;exact .Do _ (ih e)
theorem aaj {P:DV} {h:Ev} (a:Bv (Eo P) h) (b:Bv (CU P) h) (c:Bv (Hw P) h):(KF P).In h:=λx o e=>by
 have:=j9 e
 unfold KF at F4;rcases AT.JX.mp F4 with m|m
 .exact a (x,o) m
 .rcases AT.JX.mp m with m|m
  .exact c (x,o) m
  .exact b (x,o) m
def MU (t:T) (v:Bl):CV:=match BF.QC t.E5 0 with
 |Bj=>BF.QC v.E5 0
 |Be=>Z7 (Io t) (λb=>v== .G6 b) (Z7 (Ef t) (λn=>Bl.isInt n v) (Z7 (Dv t) (λs=>Bl.isStrOf s v) Be))
theorem yR {a b:CV}:Hf a b=Bj↔a=b:=by cases a<;>cases b<;>simp[Hf]
theorem uz {w:FX} {fz:BR} {t:T} {v:Bl} (h:MU t v=Bj):Ah w fz t v:=by
 unfold MU at h;cases e:BF.QC t.E5 0 with
 |Bj=>
  rw[e] at h;exact cj (q:=λt=>Ah w fz t v) e (Bl.BH.Dk (Sb:=λv=>v= .BH) v `aA rfl)
 |Be=>
  rw[e] at h;refine aF (P:=(· =Bj)) h (λb e h=>ib (q:=λt=>Ah w fz t v) e (Kw.mp h)) λh=> ?_;refine aF (P:=(· =Bj)) h (λb e h=>ba (q:=λt=>Ah w fz t v) e (Bl.Vu h)) λh=> ?_;exact aF (P:=(· =Bj)) h (λb e h=>bp (q:=λt=>Ah w fz t v) e (Bl.RO h)) λh=>nomatch h
def Nx (ts:AT T) (vs:AT Bl):CV:=BF.QC ts.A8 vs.A8&&(ts.Vl vs).VG λx=>MU x.1 x.2
theorem qD {w:FX} {fz:BR} {ts:AT T} {vs:AT Bl} (h:Nx ts vs=Bj):Am w fz ts vs:=by
 have Qt:∀(ts:AT T) (vs:AT Bl),ts.A8=vs.A8->((ts.Vl vs).VG λx=>MU x.1 x.2)=Bj->Am w fz ts vs:=by
  intro ts
  induction ts with
  |HU=>exactλvs hl _=>AT.QY.mp hl.Hl
  |Dc t ts ih=>
   intro vs hl h;obtain⟨v,vs,Cs⟩:=AT.exists_cons_of_length_eq_add_one hl.Hl;have h:=(CV.DG _ _).mp h;exact⟨v,vs,Cs,uz h.1,ih vs (BF.Ww.Ky hl) h.2⟩
 have h:=(CV.DG _ _).mp h;exact Qt ts vs (BF.Kn h.1) h.2
def Iu:AT Dr->CV
 |[]=>Bj
 |x::r=> !(r.Xa (KH x))&&Iu r
theorem ou {l:AT Dr}:Iu l=Bj->l.Oq:=by
 induction l with
 |HU=>exactλ_=>AT.WX
 |Dc x r ih=>
  intro h;have h:=(CV.DG _ _).mp h;exact AT.Kv.Lq ⟨λm=>CV.Ki (((CV.OI _).mp h.1).Hl.CX (AT.RS.Lq ⟨x,m,aB.Lq rfl⟩)),ih h.2⟩
def SA (d:WE):Bq (KU Bl×BF):=Dw d.E5 2 λh=>WE.KH.Dk d h λx n=>A9 (x,n)
theorem ut {d:WE} {r:KU Bl×BF} {q:WE->Prop} (h:SA d=A9 r) (k:q (.KH r.1 r.2)):q d:=
 aP h λi=>WE.KH.Dk (Sb:=λd=>(i:d.E5=2)->WE.KH.Dk d i (λx n=>A9 (x,n))=A9 r->q d) d i (λx n _ e=>by obtain rfl:=Bq.A9.Ky e;exact k) i
def O3 (d:WE):Bq U9:=Dw d.E5 7 λh=>WE.func.Dk d h A9
theorem vD {d:WE} {r:U9} {q:WE->Prop} (h:O3 d=A9 r) (k:q (.func r)):q d:=
 aP h λi=>WE.func.Dk (Sb:=λd=>(i:d.E5=7)->WE.func.Dk d i A9=A9 r->q d) d i (λx _ e=>by obtain rfl:=Bq.A9.Ky e;exact k) i
def SG (v:Bl):Bq EA:=Dw v.E5 10 λh=>Bl.C9.Dk v h A9
theorem uA {v:Bl} {a:EA} {q:Bl->Prop} (h:SG v=A9 a) (k:q (.C9 a)):q v:=
 aP h λi=>Bl.C9.Dk (Sb:=λd=>(i:d.E5=10)->Bl.C9.Dk d i A9=A9 a->q d) v i (λx _ e=>by obtain rfl:=Bq.A9.Ky e;exact k) i
def Jf (b:WT):Bq (AT IQ):=Dw b.E5 0 λh=>WT.stmts.Dk b h A9
theorem tB {b:WT} {l:AT IQ} {q:WT->Prop} (h:Jf b=A9 l) (k:q (.stmts l)):q b:=
 aP h λi=>WT.stmts.Dk (Sb:=λd=>(i:d.E5=0)->WT.stmts.Dk d i A9=A9 l->q d) b i (λx _ e=>by obtain rfl:=Bq.A9.Ky e;exact k) i
def Gi {α:Type} (o:Bq α) (f:α->CV):CV:=match o with
 |A9 a=>f a
 |BH=>Be
theorem bG {α:Type} {o:Bq α} {f:α->CV} {q:Prop} (h:Gi o f=Bj) (k:∀a,o=A9 a->f a=Bj->q):q:=by
 cases o with
 |BH=>exact CV.JT h
 |A9 a=>exact k a rfl h
def Mu (K:Lo) (dV:Bl) (ds:AT T):CV:=match BF.QC dV.E5 0 with
 |Bj=>ds.RM
 |Be=>Gi (SG dV) λa=>Gi (K.H6 a) λo=>Gi (SA o.KA) λx=>Nx ds x.1.Ob
def UM (w:FX) (K:Lo) (dV:Bl) (ds:AT T):Prop:=∃Wg,Am w [] ds Wg/\(dV= .BH/\Wg=[]\/∃a o n,dV= .C9 a/\K.H6 a=A9 o/\o.KA= .KH Wg.E6 n)
theorem tj {w:FX} {K:Lo} {dV:Bl} {ds:AT T} (h:Mu K dV ds=Bj):UM w K dV ds:=by
 unfold Mu at h;cases e:BF.QC dV.E5 0 with
 |Bj=>
  rw[e] at h;have hv:dV= .BH:=by cases dV<;>first|rfl|exact CV.JT e
  exact⟨[],(AT.VD.mp h▸rfl),.HX ⟨hv,Cs⟩⟩
 |Be=>
  rw[e] at h;refine bG h λa ha h=>bG h λo ho h=>bG h λx hx h=>uA (q:=λdV=>UM w K dV ds) ha ⟨x.1.Ob,qD h,.G4 ⟨a,o,x.2,Cs,ho,?_⟩⟩;exact ut (q:=λd=>d= .KH x.1.Ob.E6 x.2) hx rfl
def FO (l:AT (Dr×Ln)):CV:=l.VG λx=> !Gr x.2
def Mk (ps:AT Dr) (ds:AT T) (l:AT (Dr×Ln)):CV:=match ps.VG (λx=>Et (IA l x))&&FO l with
 |Bj=>Bj
 |Be=>Gi (CR ps) λp=>CZ ds&&match l with
  |[]=>Be
  |q::Df=>KH p q.1&&Gr q.2&&FO Df
theorem oQ {o:Bq Ln} (h:Et o=Bj):o=A9 .local:=by
 cases o with
 |BH=>exact CV.JT h
 |A9 k=>cases k<;>first|rfl|exact CV.JT h
theorem fX {l:AT (Dr×Ln)} (h:FO l=Bj):∀x∈l,x.2≠.Qc:=λx hx q=>by
 have:=AT.OD.mp h x hx
 rw[q] at F4;exact CV.JT F4
theorem oR {k:Ln} (h:Gr k=Bj):k= .Qc:=by
 cases k<;>first|rfl|exact CV.JT h
theorem rY {ps:AT Dr} {ds:AT T} {G0:AT IQ} {sc:OE} (h:Mk ps ds sc.Lb=Bj):Ji ⟨ps,ds,G0,sc⟩:=by
 unfold Mk at h;cases q:ps.VG (λx=>Et (IA sc.Lb x))&&FO sc.Lb with
 |Bj=>
  rw[CV.DG] at q;exact .HX ⟨λx hx=>by rw[<-cF];exact oQ (AT.OD.mp q.1 x hx),fX q.2⟩
 |Be=>
  rw[q] at h;refine bG h λp hp h=> .G4 ?_;have h:=(CV.DG _ _).mp h;have h2:=h.2;cases e:sc.Lb with
  |HU=>rw[e] at h2;cases h2
  |Dc y Df=>
   rw[e] at h2;have h3:=(CV.DG _ _).mp h2;have h4:=(CV.DG _ _).mp h3.1;exact⟨p,Df,bQ (q:=λl=>l=[p]) hp rfl,dY (q:=λl=>l=[]) h.1 rfl,FY (· ::Df) (congr (FY VH.mk (aB.mp h4.1).Hl) (oR h4.2)),fX h3.2⟩
def OR (p:WW):CV:=p.posonlyargs.RM&&p.vararg.isNone&&p.kwonlyargs.RM&&p.kw_defaults.RM&&p.kwarg.isNone
theorem uF {p:WW} {q:WW->Prop} (h:OR p=Bj) (k:∀ns dl,q ⟨[],ns,BH,[],[],BH,dl⟩):q p:=by
 obtain⟨a,ns,v,b,c,d,dl⟩:=p;have h:=CV.Kf.mp h;have h1:=CV.Kf.mp h.1;have h2:=CV.Kf.mp h1.1;have h3:=CV.Kf.mp h2.1
 obtain rfl:a=[]:=AT.VD.mp h3.1
 obtain rfl:v=BH:=Bq.isNone_iff_eq_none.mp h3.2
 obtain rfl:b=[]:=AT.VD.mp h2.2
 obtain rfl:c=[]:=AT.VD.mp h1.2
 obtain rfl:d=BH:=Bq.isNone_iff_eq_none.mp h.2
 exact k ns dl
def ZA (K:Lo) (ds:AT T) (fd:U9) (G0:AT IQ):CV:=
  OR fd.Ew&&fd.closure.RM&&BF.QC fd.V4 Kz&&BF.QC fd.builtins Lv&&codeIn K fd.KW fd.LP&&Iu (fd.Ew.args.FW (·.arg))&&Mk (fd.Ew.args.FW (·.arg)) ds fd.Jm.Lb&&I8 fd.Jm.Wz&& !fd.Jm.isCoroutine&& !fd.Jm.isGenerator&&
   BF.Ls ds.A8 (fd.Ew.args.FW (·.arg)).A8&&Mu K fd.VQ ds
def Zz (ds:AT T) (fd:U9) (G0:AT IQ):Hj:=⟨fd.Ew.args.FW (·.arg),ds,G0,fd.Jm⟩
def TG (K:Lo) (f:BF) (ds:AT T):CV:=Gi (K.H6 f) λo=>Gi (O3 o.KA) λfd=>Gi (Jf fd.G0) λb=>ZA K ds fd b
def O6 (K:Lo) (f:BF) (ds:AT T):Bq Hj:=(K.H6 f).G3 λo=>(O3 o.KA).G3 λfd=>(Jf fd.G0).FW (Zz ds fd)
theorem sb {k:ScopeKind} (h:I8 k=Bj):k= .LK:=by
 cases k<;>first|rfl|exact CV.JT h
theorem aai {a b c d e f g h i j k l:CV} (H:(a&&b&&c&&d&&e&&f&&g&&h&& !i&& !j&&k&&l)=Bj):
  a=Bj/\b=Bj/\c=Bj/\d=Bj/\e=Bj/\f=Bj/\g=Bj/\h=Bj/\i=Be/\j=Be/\k=Bj/\l=Bj:=by
 simpa only[CV.DG,CV.OI,and_assoc] using H
def Pk (fd:U9) (G0:AT IQ):Prop:=∃dl,fd=fnX fd.F6 fd.LP ⟨[],fd.Ew.args,BH,[],[],BH,dl⟩ G0 fd.Jm [] fd.VQ fd.V5 fd.doc fd.pyModule fd.Vq fd.KW fd.Sf
theorem aaa {fd:U9} {G0:AT IQ} (hp:OR fd.Ew=Bj) (hc:fd.closure.RM=Bj) (hg:BF.QC fd.V4 Kz=Bj) (hb:BF.QC fd.builtins Lv=Bj) (hs:Jf fd.G0=A9 G0):Pk fd G0:=by
 obtain⟨F6,P4,ps,bd,Jm,g,cl,dV,kV,doc,pm,an,W1,ct,bl⟩:=fd;refine tB (q:=λbd=>Pk ⟨F6,P4,ps,bd,Jm,g,cl,dV,kV,doc,pm,an,W1,ct,bl⟩ G0) hs ?_;refine uF (q:=λps=>Pk ⟨F6,P4,ps,.stmts G0,Jm,g,cl,dV,kV,doc,pm,an,W1,ct,bl⟩ G0) hp λns dl=>⟨dl,?_⟩;have e1:cl=[]:=AT.VD.mp hc;have e2:g=Kz:=BF.Kn hg;have e3:bl=Lv:=BF.Kn hb;rw[e1,e2,e3]
theorem yq {w:FX} {K:Lo} {f:BF} {ds:AT T} {fi:Hj} (h:TG K f ds=Bj) (e:O6 K f ds=A9 fi):IP w K f fi:=by
 refine bG h λo ho h=>bG h λfd hf h=>bG h λG0 hb h=> ?_;unfold O6 at e;rw[ho,Bq.bind_some,hf,Bq.bind_some,hb] at e
 obtain rfl:=Bq.A9.Ky e
 clear e;obtain⟨h1,hc,hg,hbl,h3,h4,h5,h7,h8,h9,h10,h11⟩:=aai h;obtain⟨dl,hd⟩:=aaa h1 hc hg hbl hb;obtain⟨Wg,d1,d2⟩:=tj (w:=w) h11;exact⟨o,fd.F6,fd.LP,fd.Ew.args,dl,fd.VQ,fd.V5,fd.doc,fd.pyModule,fd.Vq,fd.KW,fd.Sf,Wg,ho,vD (q:=λd=>d= .func (fnX fd.F6 fd.LP ⟨[],fd.Ew.args,BH,[],[],BH,dl⟩ G0 fd.Jm [] fd.VQ fd.V5 fd.doc fd.pyModule fd.Vq fd.KW fd.Sf)) hf (FY WE.func hd),h3,Cs,ou h4,rY h5,sb h7,h8,h9,BF.EC h10,d1,d2⟩
def Tr.toL {α:Type}:Tr α->AT (BF×α)
 | .HU=>[]
 | .L k v=>[(k,v)]
 | .N _ l r=>l.toL++r.toL
theorem mj {α:Type} {a:BF} {v:α} {t:Tr α}:t.Wm a=A9 v->(a,v)∈t.toL:=
 gP (P:=λt=>(a,v)∈t.toL) (.Jn _) (λ_ _ _ i=>AT.Ox _ i) λ_ _ _ i=>AT.Kc _ i
theorem o4 (P:DV):Nc.toL.FW (λp=>O6 (KF P) p.1 p.2.Vs)=Nc.toL.FW (λp=>A9 p.2):=by lk
theorem o5 (P:DV):Nc.VG (λa fi=>TG (KF P) a fi.Vs)=Bj:=by lk
theorem gy {w:FX} {P:DV} {f:BF} {fi:Hj} (e:XG f=A9 fi):IP w (KF P) f fi:=by
 have h1:=co (o5 P) e;have h2:=AT.map_inj_left.mp (o4 P) (f,fi) (mj e);exact yq h1 h2
def Ur (K:Lo) (c:BF) (ci:ML):CV:=makesIn K c&&Of K (.C9 c) "__init__"==A9 (A9 (.C9 ci.Xo))&&Xf K (.C9 ci.Xo)==A9 (.Ds "function")&&WR K (.C9 c)
theorem l6 (P:DV):O8.VG (Ur (KF P))=Bj:=by lk
theorem pv {P:DV} {c:BF} {ci:ML} (e:O8.Wm c=A9 ci):No (KF P) c ci/\WR (KF P) (.C9 c)=Bj:=by
 have h:=co (l6 P) e;unfold Ur at h;simp only[CV.DG,Kw] at h;exact⟨⟨h.1.1.1,h.1.1.2,h.1.2⟩,h.2⟩
def NF (f:BF) (o:Bq CFound):CV:=match o with
 |BH=>Be
 |A9 c=>match c with
  | .W4 v=>v== .C9 f
  | .W3 _ _ _ _=>Be
theorem r6 {f:BF} {o:Bq CFound} (h:NF f o=Bj):o=A9 (.W4 (.C9 f)):=by
 cases o with
 |BH=>cases h
 |A9 c=>cases c with
  |W4 v=>exact FY (λv=>A9 (CFound.W4 v)) (Kw.mp h)
  |W3 _ _ _ _=>cases h
def Mg (K:Lo) (c:BF) (x:Dr) (f:BF):CV:=plainGet K c x&&Of K (.C9 c) x==A9 (A9 (.C9 f))&&isFn K (.C9 f)&&specialIn K (.C9 c) "__getattribute__"==A9 (A9 (.Dd "type.__getattribute__"))&&
 Gi (Xf K (.C9 c)) (λmc=>readsIn K c mc&&NF f (findCls K (.C9 c) mc x))&&(Nc.Wm f).KQ
theorem ky {α:Type} {p:Dr->α->CV} {l:AT (Dr×α)} {x:Dr} {v:α}:l.VG (λq=>p q.1 q.2)=Bj->BU l x=A9 v->p x v=Bj:=by
 induction l with
 |HU=>exactλ_ e=>nomatch e
 |Dc q r ih=>
  intro h e;have h:=(CV.DG _ _).mp h;cases z:KH q.1 x with
  |Bj=>exact aB.mp z▸Bq.A9.Ky ((bw z).Hl.CX e)▸h.1
  |Be=>exact ih h.2 ((bj z).Hl.CX e)
theorem j8 (P:DV):Ny.VG (λc l=>l.VG λq=>Mg (KF P) c q.1 q.2)=Bj:=by lk
theorem lI {P:DV} {c:BF} {x:Dr} {f:BF} (e:Nq c x=A9 f):Jh (KF P) c x f/\(XG f).KQ=Bj:=ob e λl hl e=>by
 have h:=ky (p:=λx f=>Mg (KF P) c x f) (co (j8 P) hl) e;unfold Mg at h;simp only[CV.DG,Kw] at h;obtain⟨⟨⟨⟨⟨h1,h2⟩,h3⟩,h4⟩,h5⟩,h6⟩:=h;exact⟨⟨h1,h2,h3,h4,bG h5 λmc hm h5=>⟨mc,hm,((CV.DG _ _).mp h5).1,r6 ((CV.DG _ _).mp h5).2⟩⟩,h6⟩
theorem lU (P:DV):TH.VG (λc l=>l.VG λq=>DL (KF P) c q.1&&DJ (KF P) c q.1)=Bj:=by lk
theorem ir {P:DV} {c:BF} {x:Dr} (e:Sv c x=Bj):DL (KF P) c x=Bj/\DJ (KF P) c x=Bj:=
 aF (P:=(· =Bj)) e (λl hl e=>(Bq.Vv.mp e).Dk λv hv=>
  (CV.DG _ _).mp (ky (p:=λx _=>DL (KF P) c x&&DJ (KF P) c x) (co (lU P) hl) hv)) λh=>nomatch h
def NL (K:Lo) (x:Dr) (t:T):CV:=
 Z7 (GP t) (λy=>nsIn K Kz x==A9 (A9 y)||(nsIn K Kz x==A9 BH&&nsIn K Lv x==A9 (A9 y)))
  (Gi (nsIn K Kz x) λo=>Gi o λv=>Z7 (Ef t) (λn=>Bl.isInt n v) (Z7 (Dv t) (λs=>Bl.isStrOf s v) Be))
theorem sB {K:Lo} {x:Dr} {t:T} (h:NL K x t=Bj):Gu K x t:=by
 refine aF (P:=(· =Bj)) h (λy e h=>fN (q:=Gu K x) e ?_) λh=>bG h λo e h=>bG h λv e2 h=> ?_
 .simp only[CV.Wh,CV.DG,Kw] at h
  exact⟨y,h,Cs⟩
 .have e:=e.CX (FY A9 e2)
  exact aF (P:=(· =Bj)) h (λn i h=>ba (q:=Gu K x) i ⟨v,.HX e,Bl.Vu h⟩) λh=>aF (P:=(· =Bj)) h (λn i h=>bp (q:=Gu K x) i ⟨v,.HX e,Bl.RO h⟩) λh=>nomatch h
theorem kx (P:DV):Mq.VG (λ_ p=>NL (KF P) p.1 p.2)=Bj:=by lk
theorem lS (P:DV):Jk (KF P) GT:=⟨λx t e=>ob (o:=Mq.Wm (TP x)) e λp hp e=>dj e λq e=>e▸aB.mp q▸sB (co (kx P) hp)⟩
theorem eK {c:BF} (h:MS c=Bj):c=87\/c=99\/c=111:=by
 unfold MS at h;simp only[CV.Wh] at h;rcases h with(h|h)|h
 .exact .HX `aA
 .exact .G4 (.HX `aA)
 .exact .G4 (.G4 `aA)
theorem lW (P:DV):([87,99,111].VG λc=>Gv (KF P) c 64)=Bj:=by lk
theorem lc (P:DV):([87,99,111].VG λc=>[87,99,111].VG λd=>L4 (KF P) c d (Su c d)&&FS (KF P) d)=Bj:=by lk
theorem sx (P:DV):UJ (KF P) GT:=λC D hC hD=>by
 have hC:=eK hC;have hD:=eK hD;have h1:=AT.OD.mp (lc P) C (by simp[hC]);have h2:=AT.OD.mp h1 D (by simp[hD]);exact(CV.DG _ _).mp h2
def Sy:AT Dr->AT Dr->CV
 |[],[]=>Bj
 |a::r,b::r'=>KH a b&&Sy r r'
 |_,_=>Be
theorem mB {l l':AT Dr}:Sy l l'=Bj->l=l':=by
 induction l generalizing l' with
 |HU=>cases l' with
  |HU=>exactλ_=>rfl
  |Dc _ _=>exactλh=>nomatch h
 |Dc a r ih=>cases l' with
  |HU=>exactλh=>nomatch h
  |Dc b r'=>
   intro h;have h:=(CV.DG _ _).mp h;exact congr (FY _ (aB.mp h.1)) (ih h.2)
def XU:Hj:=(Nc.Wm 64).RT ⟨[],[],[],⟨.LK,[],Be,Be,[]⟩⟩
theorem yx:Nc.Wm 64=A9 XU:=by lk
theorem sQ:HM GT XU:=by
 refine⟨mB (l':=[Cp,AF,Cw]) (),?_,⟨⟨16,8,16,17⟩,⟨16,8,16,26⟩,⟨16,27,16,31⟩,⟨16,33,16,37⟩,⟨16,8,16,38⟩,⟨16,8,16,38⟩,⟨17,8,17,12⟩,⟨17,8,17,17⟩,⟨17,20,17,24⟩,⟨17,8,17,24⟩,⟨18,8,18,12⟩,⟨18,8,18,15⟩,⟨18,18,18,20⟩,⟨18,8,18,20⟩,(),Cs⟩,?_,?_⟩
 .lk
 .lk
 .show Nt EO=_
  lk
theorem sD (w:FX) (P:DV):Px w (KF P) GT:=λC hC=>by
 have hC:=eK hC;refine⟨?_,64,XU,gy yx,sQ,AT.OD.mp (lW P) C (by simp[hC])⟩;rcases hC with rfl|rfl|rfl<;>decide
theorem nP (w:FX):NV w (KF w.Ew) GT:=
 ⟨lS _,λf fi e=>gy e,λc ci e=>pv e,λc x f e=>lI e,λc x e=>(ir e).1,λc x e=>(ir e).2,sD w _,sx _,()⟩
def TJ:Hj:=(Nc.Wm 1677).RT ⟨[],[],[],⟨.LK,[],Be,Be,[]⟩⟩
theorem yu:Nc.Wm 1677=A9 TJ:=by lk
def SL (ns:AT Dt):An:=Cm (Eu GT 40).1 (Eu GT 40).2 .EM .Oj ((`p 400).ex ⟨TJ.Jm,0,Bj⟩ TJ.G0 [(s!"script",.t (.Dg (ns.FW .D4)))] [] (λ_ _=> .D9 0) .EM (λ_ _ _ _=> .D9 0))
def HJ:Prop:=∀ns:AT Dt,ns.A8<=63->(∀n∈ns,n.J3.log2<2^20)->∃Kg,SL ns= .EM (.t (.G6 Bj)) Kg
theorem lN (h:HJ):FU:=λw s ns t a b c hl N9 hbits hg=>by
 obtain⟨Kg,e⟩:=h ns N9 hbits;have hd:TJ.Vs=[]:=by lk
 have hk:TJ.Jm.Lb.H6 s!"script"=A9 .local:=by
  rw[<-cF]
  lk
 have hn:AT.H6 1678 (KF w.Ew)=BH:=by lk
 exact vd (ve0:=[]) (nP w) (gy yu) (aaj a b c) hn () () () () hl hg (mB (l':=[s!"script"]) ()) hd hk e
end Internal
namespace Internal.L
open PySem PySem.W
set_option backward.match.sparseCases false
theorem xL {α β:Type} {z c:α} {f:β->α} (h:z=c\/∃x,z=f x) {P:α->Prop} (h0:P c) (h1:∀x,P (f x)):P z:=h.Dk (λe=>e▸h0) λ⟨x,e⟩=>e▸h1 x
theorem gS {α β γ:Type} {z c:α} {f:β->γ->α} (h:z=c\/∃x y,z=f x y) {P:α->Prop} (h0:P c) (h1:∀x y,P (f x y)):P z:=h.Dk (λe=>e▸h0) λ⟨x,y,e⟩=>e▸h1 x y
theorem pe3 {α β γ δ:Type} {z c:α} {f:β->γ->δ->α} (h:z=c\/∃x y w,z=f x y w) {P:α->Prop} (h0:P c) (h1:∀x y w,P (f x y w)):P z:=h.Dk (λe=>e▸h0) λ⟨x,y,w,e⟩=>e▸h1 x y w
theorem oi {α:Type} {z a b:α} (h:z=a\/z=b) {P:α->Prop} (h0:P a) (h1:P b):P z:=h.Dk (λe=>e▸h0) λe=>e▸h1
theorem wP {α:Type} {z a b c:α} (h:z=a\/z=b\/z=c) {P:α->Prop} (h0:P a) (h1:P b) (h2:P c):P z:=h.Dk (λe=>e▸h0) λh=>oi h h1 h2
theorem pr4 {α:Type} {z a b c d:α} (h:z=a\/z=b\/z=c\/z=d) {P:α->Prop} (h0:P a) (h1:P b) (h2:P c) (h3:P d):P z:=h.Dk (λe=>e▸h0) λh=>wP h h1 h2 h3
theorem gQ {α:Type} {z a b c d e:α} (h:z=a\/z=b\/z=c\/z=d\/z=e) {P:α->Prop} (h0:P a) (h1:P b) (h2:P c) (h3:P d) (h4:P e):P z:=h.Dk (λe=>e▸h0) λh=>pr4 h h1 h2 h3 h4
def mp {α β:Type} (f:α->β):AT α->AT β
 |[]=>[]
 |x::l=>f x::mp f l
theorem aY {α β:Type} {f g:α->β} {l:AT α} (h:l.FW f=mp g l):∀x∈l,f x=g x:=by
 induction l with
 |HU=>exactλx h=>nomatch h
 |Dc y l ih=>
  have h:f y::l.FW f=g y::mp g l:=h
  exactλx hx=>(AT.GZ.mp hx).Dk (λe=>e▸(AT.Dc.Ky h).1) (ih (AT.Dc.Ky h).2 x)
def R (f:BF) (vs:AT V) (cs:St):An:=UZ GT (`p 400) f vs cs .EM .Oj
def RN (c b:BF) (vs:AT V) (cs:St):An:=US GT (`p 400) c b vs cs .EM .Oj
def K7 (k:KV) (ke:KX) (A:An):An:=Cm MH.fn MH.nw k ke A
theorem gu (k:KV) (ke:KX) {F:Pj} {N:Pd} (hF:∀f vs cs k' ke',K7 k ke (F f vs cs k' ke')=F f vs cs (λv cs=>K7 k ke (k' v cs)) (λc w a cs=>K7 k ke (ke' c w a cs)))
  (hN:∀c b vs cs k' ke',K7 k ke (N c b vs cs k' ke')=N c b vs cs (λv cs=>K7 k ke (k' v cs)) (λc w a cs=>K7 k ke (ke' c w a cs))) (k':KV) (ke':KX) (A:An):
  K7 k ke (Cm F N k' ke' A)=Cm F N (λv cs=>K7 k ke (k' v cs)) (λc w a cs=>K7 k ke (ke' c w a cs)) A:=by
 induction A with
 |EM|Oj|stop=>rfl
 |DH f vs cs κ κe h1 h2=>exact(hF _ _ _ _ _).CX (by rw[funext λv=>funext λcs=>h1 v cs,funext λc=>funext λw=>funext λa=>funext λcs=>h2 c w a cs];rfl)
 |PE c b vs cs κ κe h1 h2=>exact(hN _ _ _ _ _ _).CX (by rw[funext λv=>funext λcs=>h1 v cs,funext λc=>funext λw=>funext λa=>funext λcs=>h2 c w a cs];rfl)
theorem nE (k:KV) (ke:KX) (d:BF):(∀f vs cs k' ke',K7 k ke ((Eu GT d).1 f vs cs k' ke')=(Eu GT d).1 f vs cs (λv cs=>K7 k ke (k' v cs)) (λc w a cs=>K7 k ke (ke' c w a cs)))
  /\(∀c b vs cs k' ke',K7 k ke ((Eu GT d).2 c b vs cs k' ke')=(Eu GT d).2 c b vs cs (λv cs=>K7 k ke (k' v cs)) (λc w a cs=>K7 k ke (ke' c w a cs))):=by
 induction d with
 |Xb=>exact⟨λ_ _ _ _ _=>rfl,λ_ _ _ _ _ _=>rfl⟩
 |Ww d ih=>exact⟨λ_ _ _ k' ke'=>gu k ke ih.1 ih.2 k' ke' _,λ_ _ _ _ k' ke'=>gu k ke ih.1 ih.2 k' ke' _⟩
def Ct (n f:BF) (vs:AT V) (cs:St) (A:An):Prop:=∀d k ke,(Eu GT (d+n)).1 f vs cs k ke=K7 k ke A
def Cq (n c b:BF) (vs:AT V) (cs:St) (A:An):Prop:=∀d k ke,(Eu GT (d+n)).2 c b vs cs k ke=K7 k ke A
def Go (n:BF) (A B:An):Prop:=∀d k ke,Cm (Eu GT (d+n)).1 (Eu GT (d+n)).2 k ke A=K7 k ke B
def RA (n f:BF) (vs:AT V) (cs:St) (d:BF):An:=(Eu GT (d+n)).1 f vs cs .EM .Oj
def ZF (n c b:BF) (vs:AT V) (cs:St) (d:BF):An:=(Eu GT (d+n)).2 c b vs cs .EM .Oj
theorem aa {n f:BF} {vs:AT V} {cs:St} {A:An} (h:∀d,RA n f vs cs d=A):Ct n f vs cs A:=λd k ke=>by
 rw[<-h d];exact((nE k ke (d+n)).1 f vs cs .EM .Oj).Hl
theorem aN {n c b:BF} {vs:AT V} {cs:St} {A:An} (h:∀d,ZF n c b vs cs d=A):Cq n c b vs cs A:=λd k ke=>by
 rw[<-h d];exact((nE k ke (d+n)).2 c b vs cs .EM .Oj).Hl
theorem ac {n f:BF} {vs:AT V} {cs:St} {B:An} (h:Go n (R f vs cs) B):Ct (n+1) f vs cs B:=λd k ke=>by
 exact h d k ke
theorem eM {n c b:BF} {vs:AT V} {cs:St} {B:An} (h:Go n (RN c b vs cs) B):Cq (n+1) c b vs cs B:=λd k ke=>by
 exact h d k ke
theorem Ct.Ey {m n f:BF} {vs:AT V} {cs:St} {A:An} (h:Ct m f vs cs A) (le:m<=n):Ct n f vs cs A:=λd k ke=>by
 obtain⟨j,Cs⟩:=BF.le.dest le;rw[show d+(m+j)=(d+j)+m by omega];exact h _ _ _
theorem Cq.Ey {m n c b:BF} {vs:AT V} {cs:St} {A:An} (h:Cq m c b vs cs A) (le:m<=n):Cq n c b vs cs A:=λd k ke=>by
 obtain⟨j,Cs⟩:=BF.le.dest le;rw[show d+(m+j)=(d+j)+m by omega];exact h _ _ _
def FR:An->V->St->An
 | .DH _ _ _ k _=>k
 | .PE _ _ _ _ k _=>k
 |_=>λ_ _=> .D9 0
def Jw:An->BF->V->V->St->An
 | .DH _ _ _ _ ke=>ke
 | .PE _ _ _ _ _ ke=>ke
 |_=>λ_ _ _ _=> .D9 0
def Aal (f:BF) (vs:AT V) (cs:St) (A:An):An:= .DH f vs cs (FR A) (Jw A)
def Aaa (c b:BF) (vs:AT V) (cs:St) (A:An):An:= .PE c b vs cs (FR A) (Jw A)
theorem Go.EM {n:BF} {A:An} {v:V} {cs:St} (h:A= .EM v cs):Go n A (.EM v cs):=λd k ke=>by rw[h];rfl
theorem Go.Oj {n:BF} {A:An} {c:BF} {w a:V} {cs:St} (h:A= .Oj c w a cs):Go n A (.Oj c w a cs):=λd k ke=>by rw[h];rfl
theorem Go.eq {n:BF} {A A' B:An} (h:A=A') (g:Go n A' B):Go n A B:=h▸g
theorem Go.DH {m n f:BF} {vs:AT V} (cs:St) {Kg:St} {v:V} {A B:An} (c:Ct m f vs cs (.EM v Kg)) (hA:A=Aal f vs cs A) (g:Go n (FR A v Kg) B) (le:BF.Ls m n=Bj:=by rfl):Go n A B:=λd k ke=>by
 rw[hA];exact((c.Ey (BF.EC le)) d _ _).CX (g d k ke)
theorem aL {m n f:BF} {vs:AT V} (cs:St) {Kg:St} {c:BF} {w a:V} {A B:An} (q:Ct m f vs cs (.Oj c w a Kg)) (hA:A=Aal f vs cs A) (g:Go n (Jw A c w a Kg) B) (le:BF.Ls m n=Bj:=by rfl):Go n A B:=λd k ke=>by
 rw[hA];exact((q.Ey (BF.EC le)) d _ _).CX (g d k ke)
theorem Go.PE {m n c b:BF} {vs:AT V} (cs:St) {Kg:St} {v:V} {A B:An} (q:Cq m c b vs cs (.EM v Kg)) (hA:A=Aaa c b vs cs A) (g:Go n (FR A v Kg) B) (le:BF.Ls m n=Bj:=by rfl):Go n A B:=λd k ke=>by
 rw[hA];exact((q.Ey (BF.EC le)) d _ _).CX (g d k ke)
theorem Go.br {n:BF} {c:CV} {X Y B:An} (hc:c=Bj) (g:Go n X B):Go n (br c X Y) B:=by subst hc;exact g
theorem y6 {n:BF} {c:CV} {X Y B:An} (hc:c=Be) (g:Go n Y B):Go n (PL.br c X Y) B:=by subst hc;exact g
theorem aJ {c:CV} {X Y:An} (h:c=Bj):br c X Y=X:=by subst h;rfl
theorem fh {c:CV} {X Y:An} (h:c=Be):br c X Y=Y:=by subst h;rfl
inductive Tk where
 |sg (s:Dr)|na (s:Dr)|nu (n:Dt)|fn
def Dl:Tk->Dr
 | .sg _=>`dh
 | .na _=>`cC
 | .nu _=>`cZ
 | .fn=>s!"end"
def Hp:Tk->Dr
 | .sg s=>s
 | .na s=>s
 | .nu n=>Ij n
 | .fn=>Ae
def Ea:Tk->T
 | .sg s=> .Dq s
 | .na s=> .Dq s
 | .nu n=> .D4 n
 | .fn=>(T.Dq Ae)
def As (i:BF):T:= .LJ 45 [(Cb,.D4 1),(s!"column",.D4 (i+1:BF))]
def Du (t:Tk) (i:BF):T:= .LJ 1444 [(`da,.Dq (Dl t)),(s!"text",.Dq (Hp t)),(`db,Ea t),(s!"at",As i)]
def BS:BF->AT Tk->AT V
 |_,[]=>[]
 |i,t::r=> .t (Du t i)::BS (i+1) r
def XX (p:BF):C:= .LJ 1542 [(s!"tokens",.FN 1),(s!"at",.t (.D4 p))]
def Z4 (c0:C) (lt:AT Tk) (p:BF) (Df:St):St:=c0:: .Dg (BS 0 lt)::XX p::Df
theorem b5:∀(i:BF) (lt:AT Tk),(BS i lt).A8=lt.A8
 |_,[]=>rfl
 |i,t::r=>FY BF.Ww (b5 (i+1) r)
theorem fz {a n k:BF} (h:n<=a):a+k=a - n+n+k:=FY (· +k) (BF.Rr h).Hl
theorem fz1 {a n k:BF} (h:n<=a):a+1+k=a - n+(n+1)+k:=FY (· +1+k) (BF.Rr h).Hl
theorem lsb {L p k:BF} (h:L - p=k) (hk:0<k):L=p+k:=by
 subst h;exact(BF.add_sub_cancel' (BF.le_of_lt (BF.lt_of_sub_pos hk))).Hl
theorem eG {α:Type} (g:α->T) {l:AT α} {j:BF}:J7 (ZW (l.FW g)) j=(l.F3 j).head?.FW λa=> .t (g a):=by
 rw[bi,AT.head?_drop];unfold ZW;rw[AT.getElem?_map,AT.getElem?_map,Bq.map_map];rfl
theorem qU (lt:AT Tk) (i p:BF) {t:Tk} {r:AT Tk} (h:lt.F3 p=t::r):J7 (BS i lt) p=A9 (.t (Du t (i+p))):=by
 induction lt generalizing i p with
 |HU=>exact nomatch (AT.drop_nil▸h:[]=t::r)
 |Dc a l ih=>cases p with
  |Xb=>exact(AT.Dc.Ky h).1▸rfl
  |Ww p=>exact(ih (i+1) p h).CX (by rw[BF.RZ])
theorem au {lt:AT Tk} {p:BF} {t:Tk} {r:AT Tk} (h:lt.F3 p=t::r):lt.F3 (p+1)=r/\p<lt.A8:=by
 constructor
 .rw[<-AT.RB (i:=1) (j:=p),h];rfl
 .rcases BF.lt_or_ge p lt.A8 with q|q
  .exact q
  .rw[AT.drop_eq_nil_of_le q] at h;cases h
theorem va {p q:BF} (h:p<=q):CF (p:Dt) (q:Dt)=Bj:=by
 unfold CF;exact GO (·)
theorem u9 {p:BF}:CF (-5000) (p:Dt)=Bj:=by
 unfold CF;exact GO (·)
theorem jg (n p:BF):EG n (p:Dt)=A9 p:=by
 unfold EG CQ;rw[H5 (·)];rfl
def M7 (lt:AT Tk) (p:BF) (κ:V->An):An:=br (CF (p:Dt) 5000&&CF (-5000) (p:Dt)) (AA (EG (BS 0 lt).A8 (p:Dt)) 65 λj=>AA (J7 (BS 0 lt) j) 66 κ) (.D9 45)
theorem dD {lt:AT Tk} {p:BF} {t:Tk} {r:AT Tk} (h:lt.F3 p=t::r) (hp:p<=4000) (κ:V->An):M7 lt p κ=κ (.t (Du t p)):=by
 unfold M7;rw[u9,show CF (p:Dt) 5000=Bj from va (q:=5000) (·),jg];show AA (J7 (BS 0 lt) p) 66 κ=_;rw[qU lt 0 p h,BF.PX];rfl
def Pw (cs:St) (v:V) (x:Dr) (κ:V->An):An:=AA (GU cs v) 95 λp=>br (GT.fld p.1 x) (AA (BU p.2 x) 96 λv=>br (E8 v) (κ v) (.D9 38)) (.D9 37)
def Er (cs:St) (n:BF) (v:V):An:=AA (FF n v cs) 172 λp=> .EM p.1 p.2
theorem my (c0:C) (lt:AT Tk) (p:BF) (Df:St):(`d).Gk (Df.A8+3)=`d:=
 AT.N7 (by simp[Z4])
theorem wO (cs:St) (n:BF) (x:T):Er cs n (.t x)= .EM (.t x) (cs.Gk n):=rfl
theorem gR (c0:C) (lt:AT Tk) (p:BF) (Df:St) (x:T):Er (`d) (Df.A8+3) (.t x)= .EM (.t x) (`d):=by
 rw[wO,my]
section
variable {s:Dr} {c0:C} {lt:AT Tk} {p:BF} {Df:St} {t:Tk} {r:AT Tk}
theorem aw (h:lt.F3 p=t::r) (hp:p<=4000):Ct 1 1469 [.FN 2] (`d) (.EM (.t (Du t p)) (`d)):=by
 refine ac (n:=0) (Go.eq (show R 1469 [.FN 2] (`d)=M7 lt p λv=>Er (`d) (Df.A8+3) v by lk) ?_);rw[dD h hp,gR];exact Go.EM rfl
theorem bg (h:lt.F3 p=t::r) (hp:p<=4000):Ct 1 1539 [.FN 2] (`d) (.EM (.t (As p)) (`d)):=by
 refine ac (n:=0) (Go.eq (show R 1539 [.FN 2] (`d)=M7 lt p λv=>Pw (`d) v s!"at" λw=>Er (`d) (Df.A8+3) w by lk) ?_);rw[dD h hp];exact Go.eq (show _=Er (`d) (Df.A8+3) (.t (As p)) by lk) (by rw[gR];exact Go.EM rfl)
def Mn:Tk->CV
 | .fn=>Bj
 |_=>Be
theorem dd (h:lt.F3 p=t::r) (hp:p<=4000):Ct 1 1497 [.FN 2] (`d) (.EM (.t (.G6 (Mn t))) (`d)):=by
 refine ac (n:=0) (Go.eq (show R 1497 [.FN 2] (`d)=M7 lt p λv=>Pw (`d) v `da λw=>AA (Ej (`d) .Eq w (V.t (T.Dq s!"end"))) 59 λb=>Er (`d) (Df.A8+3) (.t (.G6 b)) by lk) ?_);rw[dD h hp];exact Go.eq (show _=Er (`d) (Df.A8+3) (.t (.G6 (Mn t))) by cases t<;>lk) (by rw[gR];exact Go.EM rfl)
def Fc (t:Tk) (s:Dr):CV:=match t with
 | .sg x=>KH x s
 |_=>Be
theorem bK (t:Tk) (i:BF) (s:Dr) (cs:St):Ct 1 1427 [.t (Du t i),.t (.Dq s)] cs (.EM (.t (.G6 (Fc t s))) cs):=
 ac (n:=0) (Go.EM (by cases t<;>lk))
theorem aU (h:lt.F3 p=t::r) (hp:p<=4000) (s:Dr):Ct 2 1490 [.FN 2,.t (.Dq s)] (`d) (.EM (.t (.G6 (Fc t s))) (`d)):=by
 refine ac (n:=1) (Go.eq (show R 1490 [.FN 2,.t (.Dq s)] (`d)=M7 lt p λv=>AA (Gm GT (`d) v `cA) 58 λm=>
  Nz (`p 398) ⟨((GT.fn 1490).FW (·.Jm)).RT ⟨.LK,[],Be,Be,[]⟩,Df.A8+3,Bj⟩ m v [.t (.Dq s)] (`d) (λv cs=>Er cs (Df.A8+3) v)
   (λc w a G1=>match w,a with
   | .t _,.t _=> .Oj c w a (G1.Gk (Df.A8+3))
   |_,_=> .D9 173) by lk) ?_)
 rw[dD h hp];f_two (`d),(bK t p s (`d));exact Go.eq (show _=Er (`d) (Df.A8+3) (.t (.G6 (Fc t s))) by lk) (by rw[gR];exact Go.EM rfl)
def Nv (p:BF):Tk->BF
 | .fn=>p
 |_=>p+1
theorem bo (h:lt.F3 p=t::r) (hp:p<=4000):Ct 1 1483 [.FN 2] (`d) (.EM (.t (Du t p)) (Z4 c0 lt (Nv p t) Df)):=by
 refine ac (n:=0) (Go.eq (show R 1483 [.FN 2] (`d)=M7 lt p λv=>Pw (`d) v `da λw=>AA (Ej (`d) .NotEq w (V.t (T.Dq s!"end"))) 59 λb=>
  br b (Er (Z4 c0 lt (p+1) Df) (Df.A8+3) v) (Er (`d) (Df.A8+3) v) by lk) ?_)
 rw[dD h hp];exact Go.eq (show _=Er (Z4 c0 lt (Nv p t) Df) (Df.A8+3) (.t (Du t p)) by cases t<;>lk) (by rw[gR];exact Go.EM rfl)
theorem kT {t2:Tk} (h:lt.F3 p=t::t2::r) (hl:lt.A8<=4000):Ct 1 1476 [.FN 2,.t (.D4 1)] (`d) (.EM (.t (Du t2 (p+1))) (`d)):=by
 have h2:=(au h).1;have h3:=(au h2).2;refine ac (n:=0) (Go.eq (show R 1476 [.FN 2,.t (.D4 1)] (`d)=br (BF.Ls (BS 0 lt).A8 Af) (br (CQ ((p+1:BF):Dt) ((BS 0 lt).A8:Dt)) (M7 lt (p+1) λv=>Er (`d) (Df.A8+3) v) (br Bj (AA (EG (BS 0 lt).A8 (-1)) 65 λj=>AA (J7 (BS 0 lt) j) 66 λv=>Er (`d) (Df.A8+3) v) (.D9 45))) (.D9 9) by lk) ?_);rw[b5,BF.HZ (show lt.A8<=Af by unfold Af;omega),show CQ ((p+1:BF):Dt) (lt.A8:Dt)=Bj by unfold CQ;exact GO (·),dD h2 (·)];exact Go.eq (show _=Er (`d) (Df.A8+3) (.t (Du t2 (p+1))) from rfl) (by rw[gR];exact Go.EM rfl)
theorem dN (h:lt.F3 p= .sg s::r) (hp:p<=4000) {s':Dr} (e:KH s s'=Bj):Ct 3 1504 [.FN 2,.t (.Dq s')] (`d) (.EM (.t (.G6 Bj)) (Z4 c0 lt (p+1) Df)):=by
 refine ac (n:=2) (Go.DH (`d) (aU h hp s') () ?_);rw[show Fc (.sg s) s'=Bj from e];exact Go.eq (show _=Er (Z4 c0 lt (p+1) Df) (Df.A8+3) (.t (.G6 Bj)) by lk) (by rw[gR];exact Go.EM rfl)
theorem dO (h:lt.F3 p=t::r) (hp:p<=4000) {s':Dr} (e:Fc t s'=Be):Ct 3 1504 [.FN 2,.t (.Dq s')] (`d) (.EM (.t (.G6 Be)) (`d)):=by
 refine ac (n:=2) (Go.DH (`d) (aU h hp s') () ?_);rw[e];exact Go.eq (show _=Er (`d) (Df.A8+3) (.t (.G6 Be)) by lk) (by rw[gR];exact Go.EM rfl)
theorem uN (h:lt.F3 p= .sg s::r) (hp:p<=4000) {s':Dr} (e:KH s s'=Bj):Ct 4 1518 [.FN 2,.t (.Dq s')] (`d) (.EM (.t .Kr) (Z4 c0 lt (p+1) Df)):=by
 refine ac (n:=3) (Go.DH (`d) (dN h hp e) () ?_);exact Go.eq (show _= .EM (.t .Kr) ((Z4 c0 lt (p+1) Df).Gk (Df.A8+3)) by lk) (by rw[my];exact Go.EM rfl)
theorem eQ (h:lt.F3 p= .fn::r) (hp:p<=4000):Ct 2 1525 [.FN 2] (`d) (.EM (.t .Kr) (`d)):=by
 refine ac (n:=1) (Go.DH (`d) (dd h hp) () ?_);exact Go.eq (show _= .EM (.t .Kr) ((`d).Gk (Df.A8+3)) by lk) (by rw[my];exact Go.EM rfl)
theorem aS (h:lt.F3 p= .na s::r) (hp:p<=4000):Ct 1 1532 [.FN 2] (`d) (.EM (.t (.Dq s)) (Z4 c0 lt (p+1) Df)):=by
 refine ac (n:=0) (Go.eq (show R 1532 [.FN 2] (`d)=M7 lt p λv=>Pw (`d) v `da λw=>AA (Ej (`d) .NotEq w (V.t (T.Dq `cC))) 59 λb=>
  br b (AA (Bi GT ⟨((GT.fn 1532).FW (·.Jm)).RT ⟨.LK,[],Be,Be,[]⟩,Df.A8+3,Bj⟩ `aQ [(`cX,.FN 2),(s!"token",v)]) 49 λfv=>match fv with
   | .t (.Km (.C9 d))=>match GT.Oj d with
    |Bj=>Pw (`d) v s!"at" λa=>match a with
     | .t _=> .Oj d (V.t (T.Dq s!"expected a name")) a ((`d).Gk (Df.A8+3))
     |_=> .D9 173
    |Be=> .D9 161
   |_=> .D9 162) (Pw (Z4 c0 lt (p+1) Df) v s!"text" λw=>Er (Z4 c0 lt (p+1) Df) (Df.A8+3) w) by lk) ?_)
 rw[dD h hp];exact Go.eq (show _=Er (Z4 c0 lt (p+1) Df) (Df.A8+3) (.t (.Dq s)) by lk) (by rw[gR];exact Go.EM rfl)
end
theorem dU {α:Type} (l:AT α) (x:α):J7 (l++[x]) l.A8=A9 x:=by
 induction l with
 |HU=>rfl
 |Dc a l ih=>exact ih
theorem iU {α:Type} (l:AT α) (x y:α):PF (l++[x]) l.A8 y=l++[y]:=by
 induction l with
 |HU=>rfl
 |Dc a l ih=>exact FY (a:: ·) ih
def Gy (b i:BF):AT (Dr×T)->St->(St->An)->An
 |[],cs,κ=>κ cs
 |(x,v)::r,cs,κ=>match J7 cs i with
  |A9 (.LJ c fs)=>br (El b i (.t v)&&GT.fld c x&&BF.Ls fs.A8 900) (Gy b i r (PF cs i (.LJ c (Cr fs x (.t v)))) κ) (.D9 114)
  |_=> .D9 115
theorem m6 {cs:St} {i n:BF} {c:C} (h:J7 cs i=A9 c):WC (n+1) cs (.FN i)=O4 (WC n) cs i c:=by
 show((J7 cs i).G3 λc=>O4 (WC n) cs i c)=_
 rw[h];rfl
def HA (cs:St) (i:BF):An:=AA (WC BN cs (.FN i)) 178 λp=> .EM (.t p.1) (p.2.Gk i)
theorem dg (cs:St) (c:BF) (fs:AT (Dr×V)) (ts:AT (Dr×T)) (h:AU (Ik (WC 11)) (cs++[.LJ c fs]) fs=A9 (ts,cs++[.LJ c fs])):HA (cs++[.LJ c fs]) cs.A8= .EM (.t (.LJ c ts)) cs:=by
 unfold HA BN;rw[show WC 12 (cs++[C.LJ c fs]) (.FN cs.A8)=A9 (.LJ c ts,cs++[.fz (.LJ c ts)]) by
  rw[m6 (dU cs _)]
  show((AU (Ik (WC 11)) (cs++[.LJ c fs]) fs).G3 λp=>(JE p.2 cs.A8).G3 λ_=>A9 (T.LJ c p.1,PF p.2 cs.A8 (.fz (.LJ c p.1))))=_
  rw[h]
  show((JE (cs++[C.LJ c fs]) cs.A8).G3 λ_=>A9 (T.LJ c ts,PF (cs++[C.LJ c fs]) cs.A8 (.fz (.LJ c ts))))=_
  unfold JE;rw[dU,iU];rfl]
 show An.EM _ ((cs++[C.fz (.LJ c ts)]).Gk cs.A8)=_;rw[AT.take_left'];rfl
def C4 (n:Dt):T:= .LJ 839 [(`da,(T.Dq `cZ)),(`db,.D4 n)]
def Bw (s:Dr):T:= .LJ 865 [(`da,(T.Dq `br)),(`cC,.Dq s)]
def Sr (s:Dr) (a:T):T:= .LJ 910 [(`da,(T.Dq s!"unary")),(`dh,.Dq s),(s!"body",a)]
def EW (s:Dr) (a b:T):T:= .LJ 936 [(`da,(T.Dq s!"binary")),(`dh,.Dq s),(`di,a),(s!"right",b)]
theorem yZ (b i:BF) (x:Dr) (v:T) (r:AT (Dr×T)) (cs:St) (κ:St->An):Gy b i ((x,v)::r) cs κ=match J7 cs i with
  |A9 (.LJ c fs)=>br (El b i (.t v)&&GT.fld c x&&BF.Ls fs.A8 900) (Gy b i r (PF cs i (.LJ c (Cr fs x (.t v)))) κ) (.D9 114)
  |_=> .D9 115:=rfl
theorem cW (b c:BF) (x:Dr) (v:T) (r:AT (Dr×T)) (cs:St) (fs:AT (Dr×V)) (κ:St->An) (h:(GT.fld c x&&BF.Ls fs.A8 900)=Bj):
  Gy b cs.A8 ((x,v)::r) (cs++[.LJ c fs]) κ=Gy b cs.A8 r (cs++[.LJ c (Cr fs x (.t v))]) κ:=by
 have h1:=(CV.DG _ _).mp h;rw[yZ,dU];show br (Bj&&GT.fld c x&&BF.Ls fs.A8 900) _ _=_;rw[CV.true_and,h,iU];rfl
theorem xR (b:BF) (n:Dt) (cs:St):Cq 1 839 b [.t (.D4 n)] cs (.EM (.t (C4 n)) cs):=
 eM (n:=0) (Go.EM (by
  refine Eq.CX (show _=Gy cs.A8 cs.A8 [(`da,(T.Dq `cZ)),(`db,.D4 n)] (cs++[.LJ 839 []]) λG1=>HA G1 cs.A8 by lk) ?_;rw[cW _ 839 _ _ _ _ _ _ (),cW _ 839 _ _ _ _ _ _ ()];exact dg cs 839 _ _ ()))
theorem xQ (b:BF) (s:Dr) (cs:St):Cq 1 865 b [.t (.Dq s)] cs (.EM (.t (Bw s)) cs):=
 eM (n:=0) (Go.EM (by
  refine Eq.CX (show _=Gy cs.A8 cs.A8 [(`da,(T.Dq `br)),(`cC,.Dq s)] (cs++[.LJ 865 []]) λG1=>HA G1 cs.A8 by lk) ?_;rw[cW _ 865 _ _ _ _ _ _ (),cW _ 865 _ _ _ _ _ _ ()];exact dg cs 865 _ _ ()))
theorem wR (b:BF) (s:Dr) (a:T) (cs:St):Cq 1 910 b [.t (.Dq s),.t a] cs (.EM (.t (Sr s a)) cs):=
 eM (n:=0) (Go.EM (by
  refine Eq.CX (show _=Gy cs.A8 cs.A8 [(`da,(T.Dq s!"unary")),(`dh,.Dq s),(s!"body",a)] (cs++[.LJ 910 []]) λG1=>HA G1 cs.A8 by lk) ?_;rw[cW _ 910 _ _ _ _ _ _ (),cW _ 910 _ _ _ _ _ _ (),cW _ 910 _ _ _ _ _ _ ()];exact dg cs 910 _ _ ()))
theorem re (b:BF) (s:Dr) (a c:T) (cs:St):Cq 1 936 b [.t (.Dq s),.t a,.t c] cs (.EM (.t (EW s a c)) cs):=
 eM (n:=0) (Go.EM (by
  refine Eq.CX (show _=Gy cs.A8 cs.A8 [(`da,(T.Dq s!"binary")),(`dh,.Dq s),(`di,a),(s!"right",c)] (cs++[.LJ 936 []]) λG1=>HA G1 cs.A8 by lk) ?_;rw[cW _ 936 _ _ _ _ _ _ (),cW _ 936 _ _ _ _ _ _ (),cW _ 936 _ _ _ _ _ _ (),cW _ 936 _ _ _ _ _ _ ()];exact dg cs 936 _ _ ()))
inductive Pt where
 |sy (s:Dr)|nu (n:Dt)|un (s:Dr) (a:Pt)
def Al:Pt->AT Tk
 | .sy s=>[.na s]
 | .nu n=>[.nu n]
 | .un s a=> .sg s::Al a
theorem ai (s:Dr):Al (.sy s)=[.na s]:=rfl
theorem aj (n:Dt):Al (.nu n)=[.nu n]:=rfl
theorem ag (s:Dr) (a:Pt):Al (.un s a)= .sg s::Al a:=rfl
def Bg:Pt->T
 | .sy s=>Bw s
 | .nu n=>C4 n
 | .un s a=>Sr s (Bg a)
def YX (s:Dr):CV:=KH s BI||KH s s!"~"
def MV:BF->Pt->CV
 |_,.sy s=> !(KH s DI)
 |_,.nu _=>Bj
 |n+1,.un s a=>YX s&&MV n a
 |0,.un .. =>Be
def Cv (f:BF):OE:=((GT.fn f).FW (·.Jm)).RT ⟨.LK,[],Be,Be,[]⟩
def AW (n:BF):KX:=λc w a G1=>match w,a with
 | .t _,.t _=> .Oj c w a (G1.Gk n)
 |_,_=> .D9 173
section
variable {c0:C} {lt:AT Tk} {p:BF} {Df:St} {t:Tk} {r:AT Tk}
theorem bD {n:BF} {A:An} {x:T} (h:A=Er (`d) (Df.A8+3) (.t x)):Go n A (.EM (.t x) (`d)):=by
 rw[h,gR];exact Go.EM rfl
theorem iX (n:Dt) (d:Dt) (hd:d=0\/d=1\/d=2) (h:lt.F3 p= .nu n::r) (hp:p<=4000):Ct 2 966 [.FN 2,.t (.D4 d)] (`d) (.EM (.t (C4 n)) (Z4 c0 lt (p+1) Df)):=by
 refine ac (n:=1) ?_;rcases hd with rfl|rfl|rfl
 all_goals
  f_two (`d),(aw h hp);f_two (`d),(bo h hp);refine Go.PE (Z4 c0 lt (p+1) Df) (xR (Df.A8+3) n _) () ?_;exact bD ()
theorem iW (s:Dr) (hs:KH s DI=Be) (d:Dt) (hd:d=0\/d=1\/d=2) (h:lt.F3 p= .na s::r) (hp:p<=4000):Ct 2 966 [.FN 2,.t (.D4 d)] (`d) (.EM (.t (Bw s)) (Z4 c0 lt (p+1) Df)):=by
 refine ac (n:=1) ?_;rcases hd with rfl|rfl|rfl
 all_goals
  f_two (`d),(aw h hp);f_two (`d),(bo h hp);refine Go.eq (show _=br (KH s DI) (.PE 884 (Df.A8+3) [] (Z4 c0 lt (p+1) Df) (λv cs=>Er cs (Df.A8+3) v) (AW (Df.A8+3))) (.PE 865 (Df.A8+3) [.t (.Dq s)] (Z4 c0 lt (p+1) Df) (λv cs=>Er cs (Df.A8+3) v) (AW (Df.A8+3))) by lk) (y6 hs ?_);refine Go.PE (Z4 c0 lt (p+1) Df) (xQ (Df.A8+3) s _) () ?_;exact bD ()
theorem iN {a b:Dr} (h:KH a b=Bj):a=b:=aB.mp h
theorem mJ (s:Dr) (hs:YX s=Bj) (a:T) (p':BF) (d:Dt) (hd:d=0\/d=1) (m:BF) (hm:2<=m) (h:lt.F3 p= .sg s::r) (hp:p<=4000)
  (q:Ct m 966 [.FN 2,.t (.D4 (d+1))] (Z4 c0 lt (p+1) Df) (.EM (.t a) `G)):Ct (m+1) 966 [.FN 2,.t (.D4 d)] (`d) (.EM (.t (Sr s a)) `G):=by
 refine ac (n:=m) ?_;have hs':s=BI\/s=s!"~":=by
  rcases(CV.Wh _ _).mp hs with e|e
  .exact .HX (iN e)
  .exact .G4 (iN e)
 rcases hd with rfl|rfl
 all_goals
  rcases hs' with rfl|rfl
  .refine Go.DH (`d) (aw h hp) () ?_ (le:=BF.HZ (·))
   refine Go.DH (`d) (bK (.sg BI) p BI _) () ?_ (le:=BF.HZ (·));refine Go.DH (`d) (bo h hp) () ?_ (le:=BF.HZ (·));refine Go.DH (Z4 c0 lt (p+1) Df) q () ?_ (le:=BF.HZ (·));refine Go.PE `G (wR (Df.A8+3) BI a _) () ?_ (le:=BF.HZ (·));exact bD ()
  .refine Go.DH (`d) (aw h hp) () ?_ (le:=BF.HZ (·))
   refine Go.DH (`d) (bK (.sg s!"~") p BI _) () ?_ (le:=BF.HZ (·));refine Go.DH (`d) (bK (.sg s!"~") p s!"~" _) () ?_ (le:=BF.HZ (·));refine Go.DH (`d) (bo h hp) () ?_ (le:=BF.HZ (·));refine Go.DH (Z4 c0 lt (p+1) Df) q () ?_ (le:=BF.HZ (·));refine Go.PE `G (wR (Df.A8+3) s!"~" a _) () ?_ (le:=BF.HZ (·));exact bD ()
end
def SJ:CV->CV->Dt
 |Bj,_=>1
 |Be,Bj=>3
 |Be,Be=>0
def Hm:Tk->Dt
 | .sg s=>SJ (KH s Bk||KH s BI) (KH s AE)
 |_=>0
def JN:Tk->CV
 | .sg s=>KH s Bk||KH s BI||KH s AE||KH s Ba||KH s Au||KH s Ao
 |_=>Bj
theorem cO (t:Tk) (h:JN t=Bj) (i:BF) (cs:St):Ct 3 959 [.t (Du t i)] cs (.EM (.t (.D4 (Hm t))) cs):=by
 cases t with
 |sg s=>
  unfold JN at h;simp only[CV.Wh] at h;rcases h with((((e|e)|e)|e)|e)|e<;>(have e:=iN e;subst e;exact aa (λd=>by lk))
 |na s=>exact aa (λd=>by lk)
 |nu n=>exact aa (λd=>by lk)
 |fn=>exact aa (λd=>by lk)
theorem rA (t:Tk):Hm t=0\/Hm t=1\/Hm t=3:=by
 cases t with
 |sg s=>
  have q:∀b1 b2,SJ b1 b2=0\/SJ b1 b2=1\/SJ b1 b2=3:=by
   intro b1 b2;cases b1<;>cases b2<;>simp[SJ]
  exact q _ _
 |_=>exact .HX rfl
theorem aD {α:Type} {l a b:AT α} {p:BF} (h:l.F3 p=a++b):l.F3 (p+a.A8)=b:=by
 rw[<-AT.RB,h,AT.drop_left]
section
variable {c0:C} {lt:AT Tk} {p:BF} {Df:St} {t:Tk} {r:AT Tk}
theorem qQ (a:Pt) (ha:MV 0 a=Bj) (h:lt.F3 p=Al a++r) (hp:p<=4000):Ct 2 966 [.FN 2,.t (.D4 2)] (`d) (.EM (.t (Bg a)) (Z4 c0 lt (p+(Al a).A8) Df)):=by
 cases a with
 |sy s=>exact iW s ((CV.OI _).mp ha) 2 (by simp) h hp
 |nu n=>exact iX n 2 (by simp) h hp
 |un s a=>cases ha
theorem qR (a:Pt) (ha:MV 1 a=Bj) (h:lt.F3 p=Al a++r) (hp:p<=3999):Ct 3 966 [.FN 2,.t (.D4 1)] (`d) (.EM (.t (Bg a)) (Z4 c0 lt (p+(Al a).A8) Df)):=by
 cases a with
 |sy s=>exact(iW s ((CV.OI _).mp ha) 1 (by simp) h (·)).Ey (·)
 |nu n=>exact(iX n 1 (by simp) h (·)).Ey (·)
 |un s a=>
  have ha':=(CV.DG _ _).mp ha;have q:=qQ (c0:=c0) (Df:=Df) a ha'.2 (au h).1 (·);have e:p+1+(Al a).A8=p+(Al (.un s a)).A8:=by simp only[ai,aj,ag,AT.DW];omega
  rw[e] at q;exact mJ s ha'.1 _ _ 1 (by simp) 2 (·) h (·) q
theorem dQ (a:Pt) (ha:MV 2 a=Bj) (h:lt.F3 p=Al a++r) (hp:p<=3998):Ct 4 966 [.FN 2,.t (.D4 0)] (`d) (.EM (.t (Bg a)) (Z4 c0 lt (p+(Al a).A8) Df)):=by
 cases a with
 |sy s=>exact(iW s ((CV.OI _).mp ha) 0 (by simp) h (·)).Ey (·)
 |nu n=>exact(iX n 0 (by simp) h (·)).Ey (·)
 |un s a=>
  have ha':=(CV.DG _ _).mp ha;have q:=qR (c0:=c0) (Df:=Df) a ha'.2 (au h).1 (·);have e:p+1+(Al a).A8=p+(Al (.un s a)).A8:=by simp only[ai,aj,ag,AT.DW];omega
  rw[e] at q;exact mJ s ha'.1 _ _ 0 (by simp) 3 (·) h (·) q
theorem rM (a:Pt) (ha:MV 2 a=Bj) (h:lt.F3 p=Al a++t::r) (ht:JN t=Bj) (hp:p+(Al a).A8<=3998):Ct 5 973 [.FN 2,.t (.D4 4),.t (.D4 0)] (`d) (.EM (.t (Bg a)) (Z4 c0 lt (p+(Al a).A8) Df)):=by
 refine ac (n:=4) ?_;f_two (`d),(dQ a ha h (·));f_two (Z4 c0 lt (p+(Al a).A8) Df),(aw (aD h) (·));f_two (Z4 c0 lt (p+(Al a).A8) Df),(cO t ht (p+(Al a).A8) _);rcases rA t with e|e|e<;>rw[e]<;>exact bD ()
inductive It where
 |p1 (a:Pt)|p2 (a b:Pt)
def Az:It->AT Tk
 | .p1 a=>Al a
 | .p2 a b=>Al a++ .sg AE::Al b
theorem al (a:Pt):Az (.p1 a)=Al a:=rfl
theorem ak (a b:Pt):Az (.p2 a b)=Al a++ .sg AE::Al b:=rfl
def Bs:It->T
 | .p1 a=>Bg a
 | .p2 a b=>EW AE (Bg a) (Bg b)
def Cj:It->CV
 | .p1 a=>MV 2 a
 | .p2 a b=>MV 2 a&&MV 2 b
theorem yb (a:It) (ha:Cj a=Bj) (h:lt.F3 p=Az a++t::r) (ht:JN t=Bj) (hl:Hm t=0\/Hm t=1) (hp:p+(Az a).A8<=3990):Ct 6 973 [.FN 2,.t (.D4 2),.t (.D4 0)] (`d) (.EM (.t (Bs a)) (Z4 c0 lt (p+(Az a).A8) Df)):=by
 refine ac (n:=5) ?_;cases a with
 |p1 a=>
  have hp:p+(Al a).A8<=3990:=hp;f_two (`d),(dQ a ha h (·));f_two (Z4 c0 lt (p+(Al a).A8) Df),(aw (aD h) (·));f_two (Z4 c0 lt (p+(Al a).A8) Df),(cO t ht (p+(Al a).A8) _);rcases hl with e|e<;>rw[e]<;>exact bD ()
 |p2 a b=>
  have ha':=(CV.DG _ _).mp ha;have e0:Az (.p2 a b)++t::r=Al a++ .sg AE::(Al b++t::r):=by simp only[al,ak,AT.F7,AT.Qm]
  rw[e0] at h;have el:(Az (.p2 a b)).A8=(Al a).A8+1+(Al b).A8:=by simp only[al,ak,AT.DE,AT.DW];omega
  rw[el] at hp⊢;have h2:=aD h;have h3:=(au h2).1;have h4:=aD h3;rw[show p+((Al a).A8+1+(Al b).A8)=p+(Al a).A8+1+(Al b).A8 by omega];f_two (`d),(dQ a ha'.1 h (·));f_two (Z4 c0 lt (p+(Al a).A8) Df),(aw h2 (·));f_two (Z4 c0 lt (p+(Al a).A8) Df),(cO (.sg AE) rfl (p+(Al a).A8) _);f_two (Z4 c0 lt (p+(Al a).A8) Df),(bo h2 (·));f_two (Z4 c0 lt (p+(Al a).A8+1) Df),(rM b ha'.2 h3 ht (·));refine Go.PE (Z4 c0 lt (p+(Al a).A8+1+(Al b).A8) Df) (re (Df.A8+3) AE (Bg a) (Bg b) _) () ?_
  f_two (Z4 c0 lt (p+(Al a).A8+1+(Al b).A8) Df),(aw h4 (·));f_two (Z4 c0 lt (p+(Al a).A8+1+(Al b).A8) Df),(cO t ht (p+(Al a).A8+1+(Al b).A8) _);rcases hl with e|e<;>rw[e]<;>exact bD ()
end
def DZ (m:CV):Dr:=match m with
 |Bj=>BI
 |Be=>Bk
def Bt:AT (CV×It)->AT Tk
 |[]=>[]
 |(m,i)::r=> .sg (DZ m)::(Az i++Bt r)
theorem aG:Bt []=[]:=rfl
theorem aH (m:CV) (i:It) (r:AT (CV×It)):Bt ((m,i)::r)= .sg (DZ m)::(Az i++Bt r):=rfl
def CO:T->AT (CV×It)->T
 |a,[]=>a
 |a,(m,i)::r=>CO (EW (DZ m) a (Bs i)) r
def LV (l:AT IQ) (n:BF):Bq (Ez×AT IQ×AT IQ):=(l.F3 n).head?.G3 λs=>Dw s.E5 11 λh=>IQ.While.Dk s h λt b _ _=>A9 (t,b,l.F3 (n+1))
def Gx:AT (CV×It)->Tk->Tk
 |[],t=>t
 |(m,_)::_,_=> .sg (DZ m)
theorem iw (ch:AT (CV×It)) (t:Tk) (r:AT Tk):∃r',Bt ch++t::r=Gx ch t::r':=by
 cases ch with
 |HU=>exact⟨r,Cs⟩
 |Dc x ch=>exact⟨_,Cs⟩
theorem d8 (ch:AT (CV×It)) (t:Tk) (ht:JN t=Bj):JN (Gx ch t)=Bj:=by
 cases ch with
 |HU=>exact ht
 |Dc x ch=>obtain⟨m,i⟩:=x;cases m<;>rfl
theorem v8 (ch:AT (CV×It)) (t:Tk) (ht:Hm t=0):Hm (Gx ch t)=0\/Hm (Gx ch t)=1:=by
 cases ch with
 |HU=>exact .HX ht
 |Dc x ch=>obtain⟨m,i⟩:=x;cases m<;>exact .G4 rfl
def LW (c0:C) (lt:AT Tk) (Df:St) (m p:BF) (left:T) (lev:Dt) (Do:Ag):An:=AA (GT.fn 973) 0 λfi=>AA (LV fi.G0 2) 0 λq=>
 (`p m).wh ⟨fi.Jm,Df.A8+3,Bj⟩ q.1 q.2.1 ([(`dm,.FN 2),(s!"least",.t (.D4 1)),(s!"depth",.t (.D4 0)),(`di,.t left),(s!"level",.t (.D4 lev))]++Do) (`d)
  (λCL cs=>(`p 397).ex ⟨fi.Jm,Df.A8+3,Bj⟩ q.2.2 CL cs (λ_ G1=> .EM (.t .Kr) (G1.Gk (Df.A8+3))) (λv cs=>Er cs (Df.A8+3) v) (AW (Df.A8+3))) (λv cs=>Er cs (Df.A8+3) v) (AW (Df.A8+3))
section
variable {c0:C} {lt:AT Tk} {Df:St} {t:Tk} {r:AT Tk}
theorem rI (m p:BF) (left:T) (Do:Ag) (ht:Do=[]\/∃x,Do=[(`dh,x)]) {n:BF}:Go n (LW c0 lt Df (m+20) p left 0 Do) (.EM (.t left) (`d)):=by
 rcases ht with rfl|⟨x,Cs⟩<;>exact bD ()
theorem oE (m p p':BF) (left a:T) (Do:Ag) (htl:Do=[]\/∃x,Do=[(`dh,x)]) (b:CV) {r' r'':AT Tk} {u:Tk} (h:lt.F3 p= .sg (DZ b)::r')
  (q:Ct 6 973 [.FN 2,.t (.D4 2),.t (.D4 0)] (Z4 c0 lt (p+1) Df) (.EM (.t a) `G)) (h2:lt.F3 p'=u::r'') (hu:JN u=Bj) (hp:p<=3000) (hp':p'<=3000) {B:An}
  (g:Go 6 (LW c0 lt Df (m+20) p' (EW (DZ b) left a) (Hm u) [(`dh,.t (.Dq (DZ b)))]) B):Go 6 (LW c0 lt Df (m+21) p left 1 Do) B:=by
 rcases htl with rfl|⟨x,Cs⟩
 all_goals
   f_two (`d),(bo h (·));f_two (Z4 c0 lt (p+1) Df),q;refine Go.PE `G (re (Df.A8+3) (DZ b) left a _) () ?_;f_two `G,(aw h2 (·));f_two `G,(cO u hu p' _);exact Go.eq () g
theorem mX (ht:JN t=Bj) (hl:Hm t=0) (ch:AT (CV×It)) (m p:BF) (left:T) (Do:Ag) (htl:Do=[]\/∃x,Do=[(`dh,x)]) (ok:∀x∈ch,Cj x.2=Bj) (h:lt.F3 p=Bt ch++t::r) (hp:p+(Bt ch).A8<=3000):
  Go 6 (LW c0 lt Df (m+ch.A8+20) p left (Hm (Gx ch t)) Do) (.EM (.t (CO left ch)) (Z4 c0 lt (p+(Bt ch).A8) Df)):=by
 induction ch generalizing p left Do with
 |HU=>
  rw[show Hm (Gx [] t)=0 from hl];exact rI m p left Do htl
 |Dc x ch ih=>
  obtain⟨b,i⟩:=x;have e0:Bt ((b,i)::ch)++t::r= .sg (DZ b)::(Az i++(Bt ch++t::r)):=by simp only[aG,aH,AT.Qm,AT.F7]
  rw[e0] at h;have el:(Bt ((b,i)::ch)).A8=1+(Az i).A8+(Bt ch).A8:=by simp only[aG,aH,AT.DE,AT.DW];omega
  rw[el] at hp;have h1:=(au h).1;obtain⟨r',e1⟩:=iw ch t r;have h2:=aD h1;rw[el,show p+(1+(Az i).A8+(Bt ch).A8)=p+1+(Az i).A8+(Bt ch).A8 by omega];have g:=ih (p+1+(Az i).A8) (EW (DZ b) left (Bs i)) [(`dh,.t (.Dq (DZ b)))] (.G4 ⟨_,Cs⟩) (λx hx=>ok x (AT.Sc _ hx)) h2 (·);rw[e1] at h1 h2;rw[show Hm (Gx ((b,i)::ch) t)=1 by cases b<;>rfl];exact oE (m+ch.A8) p (p+1+(Az i).A8) left (Bs i) Do htl b h
   (yb i (ok _ (AT.KS)) h1 (d8 ch t ht) (v8 ch t hl) (·)) h2 (d8 ch t ht) (·) (·) g
theorem oF (m p p':BF) (left a:T) {r' r'':AT Tk} {u:Tk} (h:lt.F3 p= .sg AE::r')
  (q:Ct 5 973 [.FN 2,.t (.D4 4),.t (.D4 0)] (Z4 c0 lt (p+1) Df) (.EM (.t a) `G)) (h2:lt.F3 p'=u::r'') (hu:JN u=Bj) (hp:p<=3000) (hp':p'<=3000) {B:An}
  (g:Go 6 (LW c0 lt Df (m+20) p' (EW AE left a) (Hm u) [(`dh,.t (.Dq AE))]) B):Go 6 (LW c0 lt Df (m+21) p left 3 []) B:=by
 f_two (`d),(bo h (·));f_two (Z4 c0 lt (p+1) Df),q;refine Go.PE `G (re (Df.A8+3) AE left a _) () ?_;f_two `G,(aw h2 (·));f_two `G,(cO u hu p' _);exact Go.eq () g
def Ab (i:It) (ch:AT (CV×It)):AT Tk:=Az i++Bt ch
def Eb (i:It) (ch:AT (CV×It)):T:=CO (Bs i) ch
theorem yc {p:BF} (i:It) (ch:AT (CV×It)) (hi:Cj i=Bj) (ok:∀x∈ch,Cj x.2=Bj) (h:lt.F3 p=Ab i ch++t::r) (ht:JN t=Bj) (hl:Hm t=0) (hp:p+(Ab i ch).A8<=3000) (hc:ch.A8<=300):
  Ct 7 973 [.FN 2,.t (.D4 1),.t (.D4 0)] (`d) (.EM (.t (Eb i ch)) (Z4 c0 lt (p+(Ab i ch).A8) Df)):=by
 have el:(Ab i ch).A8=(Az i).A8+(Bt ch).A8:=by simp only[Ab,AT.DE]
 rw[el] at hp⊢;rw[Ab,AT.F7] at h;obtain⟨r',e1⟩:=iw ch t r;refine ac (n:=6) ?_;cases i with
 |p1 a=>
  have h2:lt.F3 (p+(Al a).A8)=Bt ch++t::r:=aD h;have hp:p+((Al a).A8+(Bt ch).A8)<=3000:=hp;have h3:=h2;rw[e1] at h3;obtain⟨m,em⟩:∃m,397=m+ch.A8+20:=⟨377 - ch.A8,fz (a:=377) (k:=20) (·)⟩;have g:=mX (c0:=c0) (Df:=Df) ht hl ch m (p+(Al a).A8) (Bg a) [] (.HX rfl) ok h2 (·);rw[<-em] at g;f_two (`d),(dQ a hi h (·));f_two (Z4 c0 lt (p+(Al a).A8) Df),(aw h3 (·));f_two (Z4 c0 lt (p+(Al a).A8) Df),(cO _ (d8 ch t ht) (p+(Al a).A8) _);rw[show p+((Az (.p1 a)).A8+(Bt ch).A8)=p+(Al a).A8+(Bt ch).A8 from(BF.RD _ _ _).Hl]
  exact Go.eq () g
 |p2 a b=>
  have ha':=(CV.DG _ _).mp hi;have e0:Az (.p2 a b)++(Bt ch++t::r)=Al a++ .sg AE::(Al b++(Bt ch++t::r)):=by simp only[al,ak,AT.F7,AT.Qm]
  rw[e0] at h;have el2:(Az (.p2 a b)).A8=(Al a).A8+1+(Al b).A8:=by simp only[al,ak,AT.DE,AT.DW];omega
  rw[el2] at hp⊢;have h2:=aD h;have h3:=(au h2).1;have h4:=aD h3;have h5:=h4;rw[e1] at h3 h5;obtain⟨m,em⟩:∃m,397=m+ch.A8+21:=⟨376 - ch.A8,fz (a:=376) (k:=21) (·)⟩;have g:=mX (c0:=c0) (Df:=Df) ht hl ch m (p+(Al a).A8+1+(Al b).A8) (EW AE (Bg a) (Bg b)) [(`dh,.t (.Dq AE))] (.G4 ⟨_,Cs⟩) ok h4 (·);have g2:=oF (c0:=c0) (Df:=Df) (m+ch.A8) (p+(Al a).A8) (p+(Al a).A8+1+(Al b).A8) (Bg a) (Bg b) h2 (rM b ha'.2 h3 (d8 ch t ht) (·)) h5 (d8 ch t ht) (·) (·) g;rw[<-em] at g2;f_two (`d),(dQ a ha'.1 h (·));f_two (Z4 c0 lt (p+(Al a).A8) Df),(aw h2 (·))
  f_two (Z4 c0 lt (p+(Al a).A8) Df),(cO (.sg AE) rfl (p+(Al a).A8) _);rw[show p+((Al a).A8+1+(Al b).A8+(Bt ch).A8)=p+(Al a).A8+1+(Al b).A8+(Bt ch).A8 by omega];exact Go.eq () g2
theorem aW {p:BF} (i:It) (ch:AT (CV×It)) (hi:Cj i=Bj) (ok:∀x∈ch,Cj x.2=Bj) (h:lt.F3 p=Ab i ch++t::r) (ht:JN t=Bj) (hl:Hm t=0) (hp:p+(Ab i ch).A8<=3000) (hc:ch.A8<=300):
  Ct 8 980 [.FN 2] (`d) (.EM (.t (Eb i ch)) (Z4 c0 lt (p+(Ab i ch).A8) Df)):=by
 refine ac (n:=7) ?_;f_two (`d),(yc i ch hi ok h ht hl hp hc);exact bD ()
end
def AH (s Wz:Dr) (n sz:Dt):T:= .LJ 1194 [(`cC,.Dq s),(`da,.Dq Wz),(`cZ,.D4 n),(`cY,.D4 sz)]
inductive Sz where
 |q|d|w|b
def CP:Sz->Dt
 | .q=>64
 | .d=>32
 | .w=>16
 | .b=>8
def gl:Sz->AT Dr
 | .q=>[`dn,`do,`dp,`dq,s!"rsp",s!"rbp",s!"rsi",s!"rdi",J4,s!"r9",s!"r10",s!"r11",s!"r12",s!"r13",s!"r14",s!"r15"]
 | .d=>[`dr,s!"ecx",s!"edx",s!"ebx",s!"esp",s!"ebp",s!"esi",s!"edi",s!"r8d",s!"r9d",s!"r10d",s!"r11d",s!"r12d",s!"r13d",s!"r14d",s!"r15d"]
 | .w=>[s!"ax",s!"cx",s!"dx",s!"bx",s!"sp",s!"bp",s!"si",s!"di",s!"r8w",s!"r9w",s!"r10w",s!"r11w",s!"r12w",s!"r13w",s!"r14w",s!"r15w"]
 | .b=>[s!"al",s!"cl",s!"dl",s!"bl",s!"spl",s!"bpl",s!"sil",s!"dil",s!"r8b",s!"r9b",s!"r10b",s!"r11b",s!"r12b",s!"r13b",s!"r14b",s!"r15b"]
theorem bO {P:BF->Prop} {k:BF} (h:∀n,n<k->P n) (hk:P k) (n:BF) (hn:n<k+1):P n:=(BF.lt_or_eq_of_le (BF.le_of_lt_succ hn)).Dk (h n) λe=>e▸hk
theorem wZ {P:BF->Prop} (h:P 0/\P 1/\P 2/\P 3/\P 4/\P 5/\P 6/\P 7/\P 8/\P 9/\P 10/\P 11/\P 12/\P 13/\P 14/\P 15) (n:BF) (hn:n<16):P n:=
 bO (bO (bO (bO (bO (bO (bO (bO (bO (bO (bO (bO (bO (bO (bO (bO (λ_ h=>Ks h (BF.Q4 _)) h.1) h.2.1) h.2.2.1) h.2.2.2.1) h.2.2.2.2.1) h.2.2.2.2.2.1) h.2.2.2.2.2.2.1) h.2.2.2.2.2.2.2.1) h.2.2.2.2.2.2.2.2.1) h.2.2.2.2.2.2.2.2.2.1) h.2.2.2.2.2.2.2.2.2.2.1) h.2.2.2.2.2.2.2.2.2.2.2.1) h.2.2.2.2.2.2.2.2.2.2.2.2.1) h.2.2.2.2.2.2.2.2.2.2.2.2.2.1) h.2.2.2.2.2.2.2.2.2.2.2.2.2.2.1) h.2.2.2.2.2.2.2.2.2.2.2.2.2.2.2 n hn
def Av (z:Sz) (n:BF):Dr:=(J7 (gl z) n).RT Ae
def AJ (z:Sz) (n:BF):T:=AH (Av z n) Bm n (CP z)
def Pr:AT Sz:=[.b,.w,.d,.q]
theorem i7 (zz:Sz):zz∈Pr:=match zz with
 | .b=> .Jn _
 | .w=> .Do _ (.Jn _)
 | .d=> .Do _ (.Do _ (.Jn _))
 | .q=> .Do _ (.Do _ (.Do _ (.Jn _)))
def Mf:AT BF:=[0,1,2,3,4,5,6,7,8,9,10,11,12,13,14,15]
theorem bH {n:BF} (h:n<16):n∈Mf:=AT.mem_range.Lq h
def OS:AT (BF×Sz):=Mf.KK λn=>Pr.FW λz=>(n,z)
theorem c8 {n:BF} (h:n<16) (z:Sz):(n,z)∈OS:=AT.Lp.Lq ⟨n,bH h,AT.KY.Lq ⟨z,i7 z,Cs⟩⟩
theorem dF (z:Sz) (n:BF) (hn:n<16) (cs:St):Ct 4 1219 [.t (.D4 n),.t (.D4 (CP z))] cs (.EM (.t (AJ z n)) cs):=aa λd=>
 aY (f:=λy:BF×Sz=>RA 4 1219 [.t (.D4 y.1),.t (.D4 (CP y.2))] cs d) (g:=λy=> .EM (.t (AJ y.2 y.1)) cs) (l:=OS) () (n,z) (c8 hn z)
theorem sK (z:Sz) (n:BF) (hn:n<16) (cs:St):Ct 6 1261 [.t (.Dq (Av z n))] cs (.EM (.t (AJ z n)) cs):=aa λd=>
 aY (f:=λy:BF×Sz=>RA 6 1261 [.t (.Dq (Av y.2 y.1))] cs d) (g:=λy=> .EM (.t (AJ y.2 y.1)) cs) (l:=OS) () (n,z) (c8 hn z)
def X2 (w:T) (p m:Dr):T:= .LJ 1040 [(`db,w),(`dj,.Dq p),(`dk,.Dq m)]
def P3 (w:Dt) (p m:Dr):T:=X2 (.D4 w) p m
def Fq:T:= .LJ 1088 [(s!"equates",.Rv [(.Dq s!"k",P3 37 Ae Ae),(.Dq s!"m",P3 (-11) Ae Ae),(.Dq `ds,P3 4 Ai Ae)])]
def C8 (m:CV) (n:Dt):Pt:=match m with
 |Bj=> .un BI (.nu n)
 |Be=> .nu n
def DB (m:CV) (n:Dt):Dt:=match m with
 |Bj=> -n
 |Be=>n
def HT (n:BF) (t:T) (v:T):Prop:=∀cs,Ct n 1135 [.t t,.t Fq,.t (.Dq DI)] cs (.EM (.t v) cs)
theorem ng (m:CV) (n:Dt):HT 10 (Bg (C8 m n)) (P3 (DB m n) Ae Ae):=λcs=>by
 cases m<;>exact aa λd=>by lk
theorem kF (m:CV) (n:Dt):HT 10 (Bg (.un s!"~" (C8 m n))) (P3 (-1 - DB m n) Ae Ae):=λcs=>by
 cases m<;>exact aa λd=>by lk
theorem yA:HT 10 (Bg (.sy s!"k")) (P3 37 Ae Ae):=λcs=>aa λd=>by lk
theorem yz:HT 10 (Bg (.sy s!"m")) (P3 (-11) Ae Ae):=λcs=>aa λd=>by lk
theorem lX:HT 10 (Bg (.sy Ai)) (P3 0 Ai Ae):=λcs=>aa λd=>by lk
theorem pg:HT 10 (Bg (.sy `dt)) (P3 0 `dt Ae):=λcs=>aa λd=>by lk
theorem pc:HT 10 (Bg (.sy `ds)) (P3 4 Ai Ae):=λcs=>aa λd=>by lk
theorem lV {a:Dt} (h:a.J3<18446744073709551616):B9 a=Bj:=BF.Lx.Lq h
theorem mI {m:CV} {n:Dt} (h:n.J3<18446744073709551616):(DB m n).J3<18446744073709551616:=by
 cases m
 .exact h
 .show(-n).J3<_
  rw[Dt.natAbs_neg];exact h
theorem cE (b:BF) (w:Dt) (cs:St):Cq 1 1040 b [.t (.D4 w)] cs (.EM (.t (P3 w Ae Ae)) cs):=
 eM (n:=0) (Go.EM (by
  refine Eq.CX (show _=Gy cs.A8 cs.A8 [(`db,.D4 w),(`dj,.Dq Ae),(`dk,.Dq Ae)] (cs++[.LJ 1040 []]) λG1=>HA G1 cs.A8 by lk) ?_;rw[cW _ 1040 _ _ _ _ _ _ (),cW _ 1040 _ _ _ _ _ _ (),cW _ 1040 _ _ _ _ _ _ ()];exact dg cs 1040 _ _ ()))
theorem qJ {x:Dt} (h:B9 x=Bj) (cs:St):Ct 1 1113 [.t (.Dq AE),.t (.D4 x),.t (.D4 8)] cs (.EM (.t (.D4 (x*8))) cs):=
 ac (n:=0) (Go.eq (show _=br (B9 x) (.EM (.t (.D4 (x*8))) cs) (.D9 85) by lk) (Go.EM (aJ h)))
theorem wV (x:Dt) (cs:St):Ct 4 1009 [.t (P3 x Ae Ae)] cs (.EM (.t (.G6 Bj)) cs):=aa λd=>by lk
theorem bS (m:CV) (n:Dt):HT 8 (Bg (C8 m n)) (P3 (DB m n) Ae Ae):=λcs=>by
 cases m<;>exact aa λd=>by lk
theorem kK {x:Dt} (h:B9 x=Bj) (cs:St):Ct 5 1120 [.t (.Dq AE),.t (P3 x Ae Ae),.t (P3 8 Ae Ae)] cs (.EM (.t (P3 (x*8) Ae Ae)) cs):=
 ac (n:=4) (Go.DH [] (wV x _) () (Go.DH [] (wV 8 _) () (Go.DH [] (qJ h _) () (Go.PE [] (cE 0 (x*8) _) () `aq))))
theorem gH (x r:Dt) (s:Dr) (hs:s=Z8 []\/s=Z8 [97,108,112,104,97]) (cs:St):Ct 8 1120 [.t (.Dq Bk),.t (P3 x s Ae),.t (P3 r Ae Ae)] cs (.EM (.t (P3 (x+r) s Ae)) cs):=by
 rcases hs with rfl|rfl<;>exact aa λd=>by lk
theorem jD (n:Dt) (cs:St):Ct 8 1127 [.t (.Dq BI),.t (P3 n Ae Ae)] cs (.EM (.t (P3 (-n) Ae Ae)) cs):=aa λd=>by lk
theorem kE (m:CV) (n:Dt) (h:n.J3<18446744073709551616):HT 10 (Bs (.p2 (C8 m n) (.nu 8))) (P3 (DB m n*8) Ae Ae):=λcs=>by
 have sp:∀cs,Ct 5 945 [.t (Bs (.p2 `ar (.nu 8)))] cs (.EM (.t (.Ld [Bg `ar,.Dg [Bs (.p2 `ar (.nu 8))]])) cs):=λcs=>by cases m<;>exact aa λd=>by lk
 have c:=kK (lV (mI (m:=m) h)) [];refine ac (n:=9) (Go.DH [] (sp _) () ?_);cases m
 .exact Go.PE [] (cE 0 n _) () (Go.DH [] (bS Be 8 _) () (Go.DH [] c () `aq))
 .exact Go.DH [] (bS Be n _) () (Go.DH [] (jD n _) () (Go.DH [] (bS Be 8 _) () (Go.DH [] c () `aq)))
theorem pe (m:CV) (n r:Dt) (h:n.J3<18446744073709551616):HT 13 (Eb (.p2 (C8 m n) (.nu 8)) [(Be,.p1 (.nu r))]) (P3 (DB m n*8+r) Ae Ae):=λcs=>by
 have sp:∀cs,Ct 6 945 [.t (Eb (.p2 `ar (.nu 8)) [(Be,.p1 (.nu r))])] cs (.EM (.t (.Ld [Bg `ar,.Dg [Bs (.p2 `ar (.nu 8)),Eb (.p2 `ar (.nu 8)) [(Be,.p1 (.nu r))]]])) cs):=λcs=>by cases m<;>exact aa λd=>by lk
 have c:=kK (lV (mI (m:=m) h)) [];have a:=gH (DB m n*8) r _ (.HX rfl) [];refine ac (n:=12) (Go.DH [] (sp _) () ?_);cases m
 .exact Go.PE [] (cE 0 n _) () (Go.DH [] (bS Be 8 _) () (Go.DH [] c () (Go.DH [] (bS Be r _) () (Go.DH [] a () `aq))))
 .exact Go.DH [] (bS Be n _) () (Go.DH [] (jD n _) () (Go.DH [] (bS Be 8 _) () (Go.DH [] c () (Go.DH [] (bS Be r _) () (Go.DH [] a () `aq)))))
theorem pd (m:CV) (n r:Dt) (h:n.J3<18446744073709551616):HT 13 (Eb (.p1 (.sy Ai)) [(Be,.p2 (C8 m n) (.nu 8)),(Be,.p1 (.nu r))]) (P3 (0+DB m n*8+r) Ai Ae):=λcs=>by
 have sp:∀cs,Ct 6 945 [.t (Eb (.p1 (.sy Ai)) [(Be,.p2 `ar (.nu 8)),(Be,.p1 (.nu r))])] cs (.EM (.t (.Ld [Bg (.sy Ai),.Dg [Eb (.p1 (.sy Ai)) [(Be,.p2 `ar (.nu 8))],Eb (.p1 (.sy Ai)) [(Be,.p2 `ar (.nu 8)),(Be,.p1 (.nu r))]]])) cs):=λcs=>by cases m<;>exact aa λd=>by lk
 have fd:∀cs,Ct 9 1078 [.t Fq,.t (.Dq Ai)] cs (.EM (.t (P3 0 Ai Ae)) cs):=λcs=>aa λd=>by lk
 have c:=kE m n h [];have a:=gH 0 (DB m n*8) _ (.G4 rfl) [];have a2:=gH (0+DB m n*8) r _ (.G4 rfl) [];refine ac (n:=12) (Go.DH [] (sp _) () ?_);f_two [],(fd _);exact Go.DH [] c () (Go.DH [] a () (Go.DH [] (bS Be r _) () (Go.DH [] a2 () `aq)))
def Nr (t:T) (b:CV):Prop:=∀cs,Ct 9 1301 [.t t] cs (.EM (.t (.G6 b)) cs)
def Ro (t v:T):Prop:=∀cs,Ct 8 1296 [.t t] cs (.EM (.t v) cs)
structure BD (s:Dr) (v:T):Prop where
 ro:Ro (Bw s) v
 n0:Nr (Bw s) Bj
 n1:∀n,Nr (EW AE (Bw s) (C4 n)) Bj
 n2:∀n,Nr (EW AE (C4 n) (Bw s)) Bj
def LX (s:Dr):Dr:=GQ ((Aj s).FW Sq)
theorem cg (n:BF) (hn:n<16):BD (Av .q n) (AJ .q n):=
 ⟨λcs=>aa λd=>aY (f:=λy:BF=>RA 8 1296 [.t (Bw (Av .q y))] cs d) (g:=λy=> .EM (.t (AJ .q y)) cs) (l:=Mf) () n (bH hn),
 λcs=>aa λd=>aY (f:=λy:BF=>RA 9 1301 [.t (Bw (Av .q y))] cs d) (g:=λy=> .EM (.t (.G6 Bj)) cs) (l:=Mf) () n (bH hn),
 λm cs=>aa λd=>aY (f:=λy:BF=>RA 9 1301 [.t (EW AE (Bw (Av .q y)) (C4 m))] cs d) (g:=λy=> .EM (.t (.G6 Bj)) cs) (l:=Mf) () n (bH hn),
 λm cs=>aa λd=>aY (f:=λy:BF=>RA 9 1301 [.t (EW AE (C4 m) (Bw (Av .q y)))] cs d) (g:=λy=> .EM (.t (.G6 Bj)) cs) (l:=Mf) () n (bH hn)⟩
theorem r7 (n:BF) (hn:n<16):BD (LX (Av .q n)) (AJ .q n):=
 ⟨λcs=>aa λd=>aY (f:=λy:BF=>RA 8 1296 [.t (Bw (LX (Av .q y)))] cs d) (g:=λy=> .EM (.t (AJ .q y)) cs) (l:=Mf) () n (bH hn),
 λcs=>aa λd=>aY (f:=λy:BF=>RA 9 1301 [.t (Bw (LX (Av .q y)))] cs d) (g:=λy=> .EM (.t (.G6 Bj)) cs) (l:=Mf) () n (bH hn),
 λm cs=>aa λd=>aY (f:=λy:BF=>RA 9 1301 [.t (EW AE (Bw (LX (Av .q y))) (C4 m))] cs d) (g:=λy=> .EM (.t (.G6 Bj)) cs) (l:=Mf) () n (bH hn),
 λm cs=>aa λd=>aY (f:=λy:BF=>RA 9 1301 [.t (EW AE (C4 m) (Bw (LX (Av .q y))))] cs d) (g:=λy=> .EM (.t (.G6 Bj)) cs) (l:=Mf) () n (bH hn)⟩
def Cd:T:=AH `cj `cj 0 64
theorem ip:BD `cj Cd:=⟨λcs=>aa λd=>by lk,λcs=>aa λd=>by lk,λn cs=>aa λd=>by lk,λn cs=>aa λd=>by lk⟩
theorem oP:BD s!"RIP" Cd:=⟨λcs=>aa λd=>by lk,λcs=>aa λd=>by lk,λn cs=>aa λd=>by lk,λn cs=>aa λd=>by lk⟩
structure Lf (t:T) (v:T):Prop where
 ev:HT 13 t v
 nr:Nr t Be
 ro:Ro t .Kr
theorem HT.Ey {m n:BF} {t v:T} (h:HT m t v) (le:m<=n:=by decide):HT n t v:=λcs=>(h cs).Ey le
theorem cf (m:CV) (n:Dt):Lf (Bg (C8 m n)) (P3 (DB m n) Ae Ae):=⟨(ng m n).Ey,λcs=>by cases m<;>exact aa λd=>by lk,λcs=>by cases m<;>exact aa λd=>by lk⟩
theorem x9 (m:CV) (n:Dt):Lf (Bg (.un s!"~" (C8 m n))) (P3 (-1 - DB m n) Ae Ae):=⟨(kF m n).Ey,λcs=>by cases m<;>exact aa λd=>by lk,λcs=>by cases m<;>exact aa λd=>by lk⟩
theorem xZ (m:CV) (n:Dt) (h:n.J3<18446744073709551616):Lf (Bs (.p2 (C8 m n) (.nu 8))) (P3 (DB m n*8) Ae Ae):=⟨(kE m n h).Ey,λcs=>by cases m<;>exact aa λd=>by lk,λcs=>by cases m<;>exact aa λd=>by lk⟩
theorem aaK:Lf (Bw s!"k") (P3 37 Ae Ae):=⟨yA.Ey,λcs=>aa λd=>by lk,λcs=>aa λd=>by lk⟩
theorem aaJ:Lf (Bw s!"m") (P3 (-11) Ae Ae):=⟨yz.Ey,λcs=>aa λd=>by lk,λcs=>aa λd=>by lk⟩
theorem ki:Lf (Bw Ai) (P3 0 Ai Ae):=⟨lX.Ey,λcs=>aa λd=>by lk,λcs=>aa λd=>by lk⟩
theorem jc:Lf (Bw `dt) (P3 0 `dt Ae):=⟨pg.Ey,λcs=>aa λd=>by lk,λcs=>aa λd=>by lk⟩
theorem u7:Lf (Bw `ds) (P3 4 Ai Ae):=⟨pc.Ey,λcs=>aa λd=>by lk,λcs=>aa λd=>by lk⟩
theorem fB (w x:Dt) (p:Dr) (hp:p=Ae\/p=Ai) (cs:St):Ct 6 1030 [.t (P3 w p Ae),.t (P3 x Ae Ae)] cs (.EM (.t (P3 (w+x) p Ae)) cs):=by
 rcases hp with rfl|rfl<;>exact aa λd=>by lk
theorem jw (w x:Dt) (cs:St):Ct 6 1030 [.t (P3 w Ae Ae),.t (P3 x Ai Ae)] cs (.EM (.t (P3 (w+x) Ai Ae)) cs):=aa λd=>by lk
theorem mP (w:Dt) (cs:St):Ct 6 1023 [.t (P3 w Ae Ae)] cs (.EM (.t (P3 (-w) Ae Ae)) cs):=aa λd=>by lk
structure SS where
 pl:AT V
 ix:T
 sc:Dt
 w:Dt
 sy:Dr
 mi:Dr
def Ec (q:BF) (S:SS):C:= .LJ 1367 [(`dl,.t Fq),(s!"at",.t (As q)),(s!"plain",.FN 5),(`dd,.t S.ix),(`de,.t (.D4 S.sc)),(s!"rest",.t (P3 S.w S.sy S.mi))]
def Z3 (c0:C) (lt:AT Tk) (p:BF) (fo:C) (q:BF) (S:SS) (g:St):St:=`o (fo::Ec q S:: .Dg S.pl::g)
section
variable {c0:C} {lt:AT Tk} {p:BF} {fo:C} {q:BF} {S:SS} {g:St} {t v:T} {n:BF}
theorem qg:(`c S g).Gk (g.A8+6)=`c S g:=AT.N7 (by simp[Z3,Z4])
theorem vC {A:An} {x:T} (h:A=Er (`c S g) (g.A8+6) (.t x)):Go n A (.EM (.t x) (`c S g)):=by
 rw[h,wO,qg];exact Go.EM rfl
theorem bh {A:An} (h:A= .EM (.t .Kr) ((`c S g).Gk (g.A8+6))):Go n A (.EM (.t .Kr) (`c S g)):=by
 rw[h,qg];exact Go.EM rfl
theorem bZ (h:Lf t v):Ct 14 1322 [.FN 4,.t t] (`c S g) (.EM (.t v) (`c S g)):=by
 refine ac (n:=13) ?_;f_two (`c S g),(h.nr _);f_two (`c S g),(h.ev _);exact vC ()
def SS.PF (S:SS) (w:Dt) (sy mi:Dr):SS:=⟨S.pl,S.ix,S.sc,w,sy,mi⟩
def Kd (t:T):Prop:=(∃m n,t=Bg (C8 m n))\/(∃m n,t=Bg (.un s!"~" (C8 m n)))\/(∃s,t=Bw s)\/(∃m n,t=Bs (.p2 (C8 m n) (.nu 8)))
theorem kj (P:T->Prop) (h1:∀n,P (C4 n)) (h2:∀s a,P (Sr s a)) (h3:∀s,P (Bw s)) (h4:∀a b,P (EW AE a b)) {t:T} (k:Kd t):P t:=by
 rcases k with⟨m,n,Cs⟩|⟨m,n,Cs⟩|⟨s,Cs⟩|⟨m,n,Cs⟩
 .cases m
  .exact h1 _
  .exact h2 _ _
 .exact h2 _ _
 .exact h3 _
 .exact h4 _ _
theorem bE (k:Kd t) (h:Lf t v) {w:Dt} {sy mi:Dr} (ha:∀cs,Ct 6 1030 [.t (P3 S.w S.sy S.mi),.t v] cs (.EM (.t (P3 w sy mi)) cs)):
  Ct 15 1343 [.FN 4,.t t,.t (.G6 Be)] (`c S g) (.EM (.t .Kr) (`c (S.PF w sy mi) g)):=by
 refine ac (n:=14) ?_;have wo:=λt v (h:Lf t v)=>bZ (c0:=c0) (lt:=lt) (p:=p) (fo:=fo) (q:=q) (S:=S) (g:=g) h;revert h;refine kj (λt=>Lf t v->Go 14 (R 1343 [.FN 4,.t t,.t (.G6 Be)] (`c S g)) _) ?_ ?_ ?_ ?_ k
 .intro n h
  f_two (`c S g),`ao;f_two (`c S g),(wo _ v h);f_two (`c S g),(ha _);exact bh ()
 .intro s a h
  f_two (`c S g),`ao;f_two (`c S g),(wo _ v h);f_two (`c S g),(ha _);exact bh ()
 .intro s h
  f_two (`c S g),`ao;f_two (`c S g),(wo _ v h);f_two (`c S g),(ha _);exact bh ()
 .intro a b h
  f_two (`c S g),`ao;f_two (`c S g),(h.nr _);f_two (`c S g),(wo _ v h);f_two (`c S g),(ha _);exact bh ()
end
section
variable {c0:C} {lt:AT Tk} {p:BF} {fo:C} {q:BF} {S:SS} {g:St} {t v u:T} {n:BF}
theorem fI (k:Kd t) (h:Lf t v) (hn:∀cs,Ct 6 1023 [.t v] cs (.EM (.t u) cs)) (hv:∃x a b,v=P3 x a b) {w:Dt} {sy mi:Dr} (ha:∀cs,Ct 6 1030 [.t (P3 S.w S.sy S.mi),.t u] cs (.EM (.t (P3 w sy mi)) cs)):
  Ct 15 1343 [.FN 4,.t t,.t (.G6 Bj)] (`c S g) (.EM (.t .Kr) (`c (S.PF w sy mi) g)):=by
 refine ac (n:=14) ?_;have wo:=λt v (h:Lf t v)=>bZ (c0:=c0) (lt:=lt) (p:=p) (fo:=fo) (q:=q) (S:=S) (g:=g) h;obtain⟨x,a',b',Cs⟩:=hv;revert h;refine kj (λt=>Lf t (P3 x a' b')->Go 14 (R 1343 [.FN 4,.t t,.t (.G6 Bj)] (`c S g)) _) ?_ ?_ ?_ ?_ k
 .intro n h
  f_two (`c S g),`ao;f_two (`c S g),(wo _ _ h);f_two (`c S g),(hn _);f_two (`c S g),(ha _);exact bh ()
 .intro s a h
  f_two (`c S g),`ao;f_two (`c S g),(wo _ _ h);f_two (`c S g),(hn _);f_two (`c S g),(ha _);exact bh ()
 .intro s h
  f_two (`c S g),`ao;f_two (`c S g),(wo _ _ h);f_two (`c S g),(hn _);f_two (`c S g),(ha _);exact bh ()
 .intro a b h
  f_two (`c S g),`ao;f_two (`c S g),(h.nr _);f_two (`c S g),(wo _ _ h);f_two (`c S g),(hn _);f_two (`c S g),(ha _);exact bh ()
def SS.reg (S:SS) (v:T):SS:=⟨S.pl++[.t v],S.ix,S.sc,S.w,S.sy,S.mi⟩
def SS.idx (S:SS) (v:T) (k:Dt):SS:=⟨S.pl,v,k,S.w,S.sy,S.mi⟩
theorem pH (hl:S.pl=[]\/∃x,S.pl=[x]):Ct 1 1350 [.FN 4,.t v,.t (.G6 Be)] (`c S g) (.EM (.t .Kr) (`c (S.reg v) g)):=by
 refine ac (n:=0) ?_;obtain⟨pl,ix,sc,w,sy,mi⟩:=S;rcases hl with h|⟨x,h⟩<;>(have h:pl=_:=h;subst h;exact bh ())
def Qa (v:T):Prop:=∃fs,v= .LJ 1194 fs
theorem bC {v:T} (h:Qa v):∃fs,v= .LJ 1194 fs:=h
theorem jF {s:Dr} (h:BD s v) (hi:Qa v) (hl:S.pl=[]\/∃x,S.pl=[x]):
  Ct 15 1343 [.FN 4,.t (Bw s),.t (.G6 Be)] (`c S g) (.EM (.t .Kr) (`c (S.reg v) g)):=by
 refine ac (n:=14) ?_;obtain⟨fs,Cs⟩:=bC hi;f_two (`c S g),`ao;f_two (`c S g),`ao;f_two (`c S g),(pH (v:= .LJ 1194 fs) hl);exact bh ()
theorem xE (n:Dt):Ro (C4 n) .Kr:=λcs=>aa λd=>by lk
theorem jv (o:CV) {s:Dr} (h:BD s v) (hi:Qa v) (hx:S.ix= .Kr) {k:Dt} (hk:k=1\/k=2\/k=4\/k=8):
  Ct 15 1357 [.FN 4,.t (match o with|Bj=>EW AE (C4 k) (Bw s)|Be=>EW AE (Bw s) (C4 k)),.t (.G6 Be)] (`c S g) (.EM (.t .Kr) (`c (S.idx v k) g)):=by
 refine ac (n:=14) ?_;obtain⟨fs,Cs⟩:=bC hi;obtain⟨pl,ix,sc,w,sy,mi⟩:=S;have hx:ix= .Kr:=hx;subst hx;have wo:=bZ (c0:=c0) (lt:=lt) (p:=p) (fo:=fo) (q:=q) (S:=⟨pl,.Kr,sc,w,sy,mi⟩) (g:=g) (cf Be k);have isn:∀cs,Ct 4 1009 [.t (P3 k Ae Ae)] cs (.EM (.t (.G6 Bj)) cs):=λcs=>aa λd=>by lk
 cases o
 .f_two (`c ⟨pl,.Kr,sc,w,sy,mi⟩ g),`ao
  f_two (`c ⟨pl,.Kr,sc,w,sy,mi⟩ g),wo;f_two (`c ⟨pl,.Kr,sc,w,sy,mi⟩ g),(isn _);rcases hk with rfl|rfl|rfl|rfl<;>exact bh ()
 .f_two (`c ⟨pl,.Kr,sc,w,sy,mi⟩ g),(xE k _)
  f_two (`c ⟨pl,.Kr,sc,w,sy,mi⟩ g),`ao;f_two (`c ⟨pl,.Kr,sc,w,sy,mi⟩ g),wo;f_two (`c ⟨pl,.Kr,sc,w,sy,mi⟩ g),(isn _);rcases hk with rfl|rfl|rfl|rfl<;>exact bh ()
def BC (o:CV) (s:Dr) (k:Dt):It:=match o with
 |Bj=> .p2 (.nu k) (.sy s)
 |Be=> .p2 (.sy s) (.nu k)
theorem jG (o:CV) {s:Dr} (h:BD s v) (hi:Qa v) (hx:S.ix= .Kr) {k:Dt} (hk:k=1\/k=2\/k=4\/k=8):
  Ct 16 1343 [.FN 4,.t (Bs (BC o s k)),.t (.G6 Be)] (`c S g) (.EM (.t .Kr) (`c (S.idx v k) g)):=by
 refine ac (n:=15) ?_;have hr:∀cs,Ct 8 1296 [.t (Bs (BC o s k))] cs (.EM (.t .Kr) cs):=λcs=>by cases o<;>exact aa λd=>by lk
 have a:=jv (c0:=c0) (lt:=lt) (p:=p) (fo:=fo) (q:=q) (S:=S) (g:=g) o h hi hx hk;cases o
 .f_two (`c S g),(hr _)
  f_two (`c S g),(h.n1 k _);f_two (`c S g),a;exact bh ()
 .f_two (`c S g),(hr _)
  f_two (`c S g),(h.n2 k _);f_two (`c S g),a;exact bh ()
end
def B8 (t:T) (m:CV):V:= .t (.Ld [t,.G6 m])
def Cu (f i:BF):AT IQ:=(((GT.fn f).FW (·.G0)).RT []).F3 i
def XO (b:BF):KN:=λ_ G1=> .EM (.t .Kr) (G1.Gk b)
def FP (b:BF):KV:=λv cs=>Er cs b v
def ZV (f i:BF):Ez×AT IQ×AT IQ:=((LV (((GT.fn f).FW (·.G0)).RT []) i)).RT (.KP .BH 0 default,[],[])
def X9 (m:BF):KN:=λCL cs=>(`p 398).ex ⟨Cv 1336,6,Bj⟩ (ZV 1336 1).2.2 CL cs (XO 6) (FP 6) (AW 6)
theorem bI {cs:St} {i:BF} {l:AT V} (h:J7 cs i=A9 (.Dg l)):AX cs (.FN i)=A9 l:=by
 show((J7 cs i).G3 λc=>Z7 (Ni c) A9 ((Ut c).G3 λx=>(Gh x).G3 λts=>A9 `aB))=_
 rw[h];rfl
section
variable {c0:C} {lt:AT Tk} {p:BF} {fo:C} {q:BF} {S S':SS} {g:St} {t v u N:T} {n:BF} {l:AT V} {x y:V} {B:An}
variable (c0 lt p fo q)
def Z1 (S:SS) (l:AT V) (g:St):St:=`c S (.Dg l::g)
def LA (m:BF) (S:SS) (N:T) (Do:Ag) (l:AT V) (g:St):An:=
 (`p m).wh ⟨Cv 1336,6,Bj⟩ (ZV 1336 1).1 (ZV 1336 1).2.1 ((`cX,.FN 4)::(s!"node",.t N)::(s!"todo",.FN 6)::Do) `aD (X9 398) (FP 6) (AW 6)
def LB (m:BF) (S:SS) (N:T) (Do:Ag) (l:AT V) (g:St):An:=
 (`p m).ex ⟨Cv 1336,6,Bj⟩ (ZV 1336 1).2.1 ((`cX,.FN 4)::(s!"node",.t N)::(s!"todo",.FN 6)::Do) `aD
  (λCL cs=>(`p m).wh ⟨Cv 1336,6,Bj⟩ (ZV 1336 1).1 (ZV 1336 1).2.1 CL cs (X9 398) (FP 6) (AW 6)) (FP 6) (AW 6)
def LC (m:BF) (S:SS) (N:T) (Do:Ag) (x:V) (l:AT V) (g:St):An:=
 LZ ⟨Cv 1336,6,Bj⟩ `du `dv x ((`cX,.FN 4)::(s!"node",.t N)::(s!"todo",.FN 6)::Do) `aD
  λCL cs=>(`p m).ex ⟨Cv 1336,6,Bj⟩ ((ZV 1336 1).2.1.F3 1) CL cs
  (λCL cs=>(`p (m+1)).wh ⟨Cv 1336,6,Bj⟩ (ZV 1336 1).1 (ZV 1336 1).2.1 CL cs (X9 398) (FP 6) (AW 6)) (FP 6) (AW 6)
variable {c0 lt p fo q}
theorem wT:Ej (Z1 c0 lt p fo q S l (g++[.Dg []])) .NotEq (.FN 6) (.FN (g.A8+7))=A9 (match l with|[]=>Be|_::_=>Bj):=by
 have e:AX (Z1 c0 lt p fo q S l (g++[.Dg []])) (.FN (g.A8+7))=A9 []:=bI (dU g _)
 show((Nd (Z1 c0 lt p fo q S l (g++[.Dg []])) (.FN 6) (.FN (g.A8+7))).G3 λc=>A9 (!c))=_
 unfold Nd;rw[e,bI (show J7 (Z1 c0 lt p fo q S l (g++[.Dg []])) 6=A9 (.Dg l) from rfl)];cases l<;>rfl
theorem wU (m:BF) (Do:Ag):LA c0 lt p fo q (m+20) S N Do l g=AA (Ej (Z1 c0 lt p fo q S l (g++[.Dg []])) .NotEq (.FN 6) (.FN (g.A8+7))) 59 λb=>
  br b (LB c0 lt p fo q (m+19) S N Do l (g++[.Dg []])) (.EM (.t .Kr) ((Z1 c0 lt p fo q S l (g++[.Dg []])).Gk 6)):=by lk
theorem zN (m:BF) (Do:Ag):LB c0 lt p fo q (m+19) S N Do l g=match l.getLast? with
  |A9 x=>br `V (LC c0 lt p fo q (m+18) S N Do x l.RV g) (.D9 41)
  |BH=> .D9 35:=by lk
end
def E0 (t:T):Prop:=(∃n,t=C4 n)\/(∃s a,t=Sr s a)\/(∃s,t=Bw s)\/(∃a b,t=EW AE a b)
def Dy (t:T) (m:CV) (S S':SS):Prop:=∀c0 lt p fo q g,Ct 16 1343 [.FN 4,.t t,.t (.G6 m)] (`c S g) (.EM (.t .Kr) (`c S' g))
def HI (q:BF) (t:T) (m:CV) (S:SS) (c:BF) (w a:T):Prop:=∀c0 lt p fo g,Ct 16 1343 [.FN 4,.t t,.t (.G6 m)] (`c S g) (.Oj c (.t w) (.t a) (`c S g))
inductive JO:SS->AT (CV×T)->SS->Prop
 |HU (S):JO S [] S
 |Dc {t m S S' S'' l} (sh:E0 t) (h:Dy t m S S') (r:JO S' l S''):JO S ((m,t)::l) S''
inductive JI (q c:BF) (w a:T):SS->AT (CV×T)->SS->Prop
 |P6 {t m S l} (sh:E0 t) (h:HI q t m S c w a):JI q c w a S ((m,t)::l) S
 |Dc {t m S S' S'' l} (sh:E0 t) (h:Dy t m S S') (r:JI q c w a S' l S''):JI q c w a S ((m,t)::l) S''
def GI (t:T):Prop:=∃c fs,t= .LJ c fs
theorem zR:∀a:Pt,GI (Bg a)
 | .sy _=>⟨_,_,Cs⟩
 | .nu _=>⟨_,_,Cs⟩
 | .un _ _=>⟨_,_,Cs⟩
theorem m3:∀i:It,GI (Bs i)
 | .p1 a=>zR a
 | .p2 _ _=>⟨_,_,Cs⟩
theorem wW:∀(ch:AT (CV×It)) {a:T},GI a->GI (CO a ch)
 |[],_,h=>h
 |(_,_)::ch,_,_=>wW ch ⟨_,_,Cs⟩
def Hv (x:CV×T):V:=B8 x.2 x.1
def IH (Do:Ag):Prop:=Do=[]\/∃x y,Do=[(`du,x),(`dv,y)]
theorem aK {α:Type} {l:AT α} (h:l.A8<=4000):BF.Ls l.A8 Af=Bj:=BF.HZ (by unfold Af;omega)
section
variable {c0:C} {lt:AT Tk} {p:BF} {fo:C} {q:BF} {S S':SS} {g:St} {t v u N:T} {n:BF} {l:AT V} {x y:V} {B:An}
theorem qT {α:Type} {a:α} {n:BF} {f:α->An}:AA (A9 a) n f=f a:=rfl
theorem jd (m:BF) (Do:Ag) (hl:l.A8<=3900):LA c0 lt p fo q (m+20) S N Do (l++[x]) g=LC c0 lt p fo q (m+18) S N Do x l (g++[.Dg []]):=by
 rw[wU,wT,qT]
 refine(aJ ?_).CX ?_
 .cases l<;>rfl
 rw[zN,AT.getLast?_concat,AT.dropLast_concat];exact aJ (aK (by rw[AT.DE];simp;omega))
theorem yf (m:BF) (Do:Ag):LA c0 lt p fo q (m+20) S N Do [] g= .EM (.t .Kr) (`c S []):=by
 rw[wU,wT];rfl
theorem yd (m:BF) {Do:Ag} (ht:IH Do) (b:CV) {a c:T} (ha:GI a) (hc:GI c) (hl:l.A8<=3900):
  LC c0 lt p fo q (m+18) S N Do (B8 (EW (DZ b) a c) Be) l g=LA c0 lt p fo q (m+19) S N [(`du,.t (EW (DZ b) a c)),(`dv,.t (.G6 Be))] (l++[B8 c b]++[B8 a Be]) g:=by
 refine Eq.CX (show _=br `V (br (BF.Ls (l++[B8 c b]).A8 Af) (LA c0 lt p fo q (m+19) S N [(`du,.t (EW (DZ b) a c)),(`dv,.t (.G6 Be))] (l++[B8 c b]++[B8 a Be]) g) (.D9 34)) (.D9 34) by
  obtain⟨a1,a2,Cs⟩:=ha;obtain⟨c1,c2,Cs⟩:=hc;rcases ht with rfl|⟨x,y,Cs⟩<;>cases b<;>lk) ?_
 rw[aK (·),aK (l:=l++[B8 c b]) (by rw[AT.DE];simp;omega)];rfl
theorem m0 (m:BF) {Do:Ag} (ht:IH Do) (mi:CV) (sh:E0 t) (h:Ct 16 1343 [.FN 4,.t t,.t (.G6 mi)] (Z1 c0 lt p fo q S l g) (.EM (.t .Kr) (Z1 c0 lt p fo q S' l g)))
  (k:Go 16 (LA c0 lt p fo q (m+19) S' N [(`du,.t t),(`dv,.t (.G6 mi))] l g) B):Go 16 (LC c0 lt p fo q (m+18) S N Do (B8 t mi) l g) B:=by
 rcases sh with⟨n,Cs⟩|⟨s,a,Cs⟩|⟨s,Cs⟩|⟨a,b,Cs⟩<;>rcases ht with rfl|⟨x,y,Cs⟩
 all_goals
  f_two `aD,h;exact Go.eq () k
theorem rP (m:BF) {Do:Ag} (ht:IH Do) (mi:CV) (sh:E0 t) {c:BF} {w a:T} (h:Ct 16 1343 [.FN 4,.t t,.t (.G6 mi)] (Z1 c0 lt p fo q S l g) (.Oj c (.t w) (.t a) (Z1 c0 lt p fo q S l g))):
  Go 16 (LC c0 lt p fo q (m+18) S N Do (B8 t mi) l g) (.Oj c (.t w) (.t a) (`c S [])):=by
 rcases sh with⟨n,Cs⟩|⟨s,a,Cs⟩|⟨s,Cs⟩|⟨a,b,Cs⟩<;>rcases ht with rfl|⟨x,y,Cs⟩
 all_goals
  refine aL `aD h () ?_;exact Go.Oj ()
theorem aax {ch:AT (CV×T)} (h:JO S ch S'):∀(m:BF) (Do:Ag) (g:St),IH Do->ch.A8<=3000->
  Go 16 (LA c0 lt p fo q (m+ch.A8+20) S N Do (ch.Ia.FW Hv) g) (.EM (.t .Kr) (`c S' [])):=by
 induction h with
 |HU S=>intro m Do g _ _;rw[show([]:AT (CV×T)).Ia.FW Hv=[] from rfl,yf];exact Go.EM rfl
 | @Dc t mi S S1 S2 l sh h r ih=>
  intro m Do g ht hl;rw[AT.DW] at hl⊢;rw[AT.QB,AT.J8,show m+(l.A8+1)+20=(m+l.A8+1)+20 by omega];show Go 16 (LA c0 lt p fo q (m+l.A8+1+20) S N Do (l.Ia.FW Hv++[B8 t mi]) g) _;rw[jd _ _ (by simp;omega)];exact m0 _ ht mi sh (h c0 lt p fo q _) (ih m _ _ (.G4 ⟨_,_,Cs⟩) (·))
theorem zv {c:BF} {w a:T} {ch:AT (CV×T)} (h:JI q c w a S ch S'):∀(m:BF) (Do:Ag) (g:St),IH Do->ch.A8<=3000->
  Go 16 (LA c0 lt p fo q (m+ch.A8+20) S N Do (ch.Ia.FW Hv) g) (.Oj c (.t w) (.t a) (`c S' [])):=by
 induction h with
 | @P6 t mi S l sh h=>
  intro m Do g ht hl;rw[AT.DW] at hl⊢;rw[AT.QB,AT.J8,show m+(l.A8+1)+20=(m+l.A8+1)+20 by omega];show Go 16 (LA c0 lt p fo q (m+l.A8+1+20) S N Do (l.Ia.FW Hv++[B8 t mi]) g) _;rw[jd _ _ (by simp;omega)];exact rP _ ht mi sh (h c0 lt p fo _)
 | @Dc t mi S S1 S2 l sh h r ih=>
  intro m Do g ht hl;rw[AT.DW] at hl⊢;rw[AT.QB,AT.J8,show m+(l.A8+1)+20=(m+l.A8+1)+20 by omega];show Go 16 (LA c0 lt p fo q (m+l.A8+1+20) S N Do (l.Ia.FW Hv++[B8 t mi]) g) _;rw[jd _ _ (by simp;omega)];exact m0 _ ht mi sh (h c0 lt p fo q _) (ih m _ _ (.G4 ⟨_,_,Cs⟩) (·))
def By (ch:AT (CV×It)):AT (CV×T):=ch.FW λx=>(x.1,Bs x.2)
theorem fH (b:CV) (i:It):∀(ch:AT (CV×It)) (a:T),CO a (ch++[(b,i)])=EW (DZ b) (CO a ch) (Bs i)
 |[],a=>rfl
 |(b',i')::ch,a=>fH b i ch _
theorem nk {a:T} (ha:GI a) (r:AT (CV×It)):∀(m:BF) (Do:Ag) (l:AT V) (g:St),IH Do->l.A8+r.A8<=3000->
  (∀Ra g',IH Ra->Go 16 (LA c0 lt p fo q (m+20) S N Ra (l++(By r).FW Hv++[B8 a Be]) g') B)->
  Go 16 (LA c0 lt p fo q (m+r.A8+20) S N Do (l++[B8 (CO a r.Ia) Be]) g) B:=by
 induction r with
 |HU=>
  intro m Do l g ht hl k
  have:=k Do g ht
  rw[show l++(By []).FW Hv++[B8 a Be]=l++[B8 a Be] by simp[By]] at F4;exact F4
 |Dc x r ih=>
  obtain⟨b,i⟩:=x;intro m Do l g ht hl k;rw[AT.DW] at hl;rw[AT.QB,fH,AT.DW,show m+(r.A8+1)+20=(m+r.A8+1)+20 by omega,jd _ _ (·),yd _ ht b (wW _ ha) (m3 i) (·)];refine ih m _ (l++[B8 (Bs i) b]) _ (.G4 ⟨_,_,Cs⟩) (by rw[AT.DE,AT.length_singleton];omega) λRa g' ht'=> ?_
  have:=k Ra g' ht'
  rw[show l++(By ((b,i)::r)).FW Hv++[B8 a Be]=l++[B8 (Bs i) b]++(By r).FW Hv++[B8 a Be] by simp[By,Hv,AT.F7]] at F4;exact F4
theorem rO {n a b:BF} (ha:a=n+1) (hb:b=n) (h:n<=150):∃m,398=(m+a)+b+20:=⟨377 - 2*n,(·)⟩
theorem tP {a:T} (ha:GI a) {ch:AT (CV×It)} (h:JO S ((Be,a)::By ch) S') (hl:ch.A8<=150):
  Ct 17 1336 [.FN 4,.t (CO a ch)] (`c S []) (.EM (.t .Kr) (`c S' [])):=by
 refine ac (n:=16) (Go.eq (show _=LA c0 lt p fo q 398 S (CO a ch) [] [B8 (CO a ch) Be] [] by lk) ?_);obtain⟨m,em⟩:∃m,398=(m+((Be,a)::By ch).A8)+ch.Ia.A8+20:=rO (n:=ch.A8) (by simp[By]) (by simp) hl;rw[em];have d:=nk (c0:=c0) (lt:=lt) (p:=p) (fo:=fo) (q:=q) (S:=S) (N:=CO a ch) (B:= .EM (.t .Kr) (`c S' [])) ha ch.Ia (m+((Be,a)::By ch).A8) [] [] [] (.HX rfl) (by simp;omega) λRa g' ht'=>by
  have e:[]++(By ch.Ia).FW Hv++[B8 a Be]=((Be,a)::By ch).Ia.FW Hv:=by simp[By,Hv,AT.map_reverse]
  rw[e]
  have:=aax (c0:=c0) (lt:=lt) (p:=p) (fo:=fo) (q:=q) (N:=CO a ch) h m Ra g' ht' (by simp[By];omega)
  exact F4
 rw[AT.PZ] at d;exact d
theorem wE {c:BF} {w e:T} {a:T} (ha:GI a) {ch:AT (CV×It)} (h:JI q c w e S ((Be,a)::By ch) S') (hl:ch.A8<=150):
  Ct 17 1336 [.FN 4,.t (CO a ch)] (`c S []) (.Oj c (.t w) (.t e) (`c S' [])):=by
 refine ac (n:=16) (Go.eq (show _=LA c0 lt p fo q 398 S (CO a ch) [] [B8 (CO a ch) Be] [] by lk) ?_);obtain⟨m,em⟩:∃m,398=(m+((Be,a)::By ch).A8)+ch.Ia.A8+20:=rO (n:=ch.A8) (by simp[By]) (by simp) hl;rw[em];have d:=nk (c0:=c0) (lt:=lt) (p:=p) (fo:=fo) (q:=q) (S:=S) (N:=CO a ch) (B:= .Oj c (.t w) (.t e) (`c S' [])) ha ch.Ia (m+((Be,a)::By ch).A8) [] [] [] (.HX rfl) (by simp;omega) λRa g' ht'=>by
  have e:[]++(By ch.Ia).FW Hv++[B8 a Be]=((Be,a)::By ch).Ia.FW Hv:=by simp[By,Hv,AT.map_reverse]
  rw[e]
  have:=zv (c0:=c0) (lt:=lt) (p:=p) (fo:=fo) (q:=q) (N:=CO a ch) h m Ra g' ht' (by simp[By];omega)
  exact F4
 rw[AT.PZ] at d;exact d
end
def Ar (b ix:T) (sc w sz:Dt) (sg nm':Dr):T:= .LJ 580 [(`da,.Dq `dw),(`dc,b),(`dd,ix),(`de,.D4 sc),(`db,.D4 w),(`cY,.D4 sz),(`ck,.Dq sg),(`cC,.Dq nm')]
def DO (b ix:T):Prop:=b= .Kr\/(b=Cd/\ix= .Kr)\/∃s k,b=AH s Bm k 64
def IJ (k:Dt):Prop:=k=1\/k=2\/k=4\/k=8
def Hi (ix:T) (sc:Dt):Prop:=(ix= .Kr/\sc=1)\/∃s k,ix=AH s Bm k 64/\k≠4/\IJ sc
def C6 (z:Dt):Prop:=z=0\/z=8\/z=16\/z=32\/z=64\/z=128
def II (s:Dr):Prop:=s=Ae\/s=s!"fs"\/s=s!"gs"
def Hh (s:Dr):Prop:=s=Ae\/s=Ai
def HH (w:Dt):Prop:= -2147483648<=w/\w<2147483648
section
variable {b ix:T} {sc w sz:Dt} {sg n':Dr}
theorem kM (h:DO b ix) (cs:St):Ct 5 649 [.t (Ar b ix sc w sz sg n')] cs (.EM (.t .Kr) cs):=by
 rcases h with rfl|⟨Cs,Cs⟩|⟨s,k,Cs⟩<;>exact aa λd=>by lk
theorem iz (h:Hi ix sc) (cs:St):Ct 5 656 [.t (Ar b ix sc w sz sg n')] cs (.EM (.t .Kr) cs):=by
 rcases h with⟨Cs,Cs⟩|⟨s,k,Cs,hk,hs⟩
 .exact aa λd=>by lk
 .have isad:∀cs,Ct 3 642 [.t (AH s Bm k 64)] cs (.EM (.t (.G6 Bj)) cs):=λcs=>aa λd=>by lk
  rcases hs with rfl|rfl|rfl|rfl<;>exact ac (n:=4) (Go.DH [.Dg [.t (.Dq s!"1"),.t (.Dq s!"2"),.t (.Dq s!"4"),.t (.Dq s!"8")]] (isad _) () (Go.eq (show _=br (HS k 4) (.Oj 99 (.t (.Dq s!"an index has 64 bits and is not rsp")) (.t .Kr) cs) (.EM (.t .Kr) cs) by lk) (Go.EM (fh (H5 hk)))))
theorem sJ (cs:St):R 141 [.t (.D4 w),.t (.D4 32)] cs=br (CF (-2147483648) w) (.EM (.t (.G6 (CQ w 2147483648))) cs) (.EM (.t (.G6 Be)) cs):=by lk
theorem vN (h:HH w) (cs:St):Ct 3 141 [.t (.D4 w),.t (.D4 32)] cs (.EM (.t (.G6 Bj)) cs):=
 ac (n:=2) (Go.eq (sJ cs) (Go.EM (by rw[aJ (show CF (-2147483648) w=Bj from GO h.1),show CQ w 2147483648=Bj from GO h.2])))
theorem vO (h:¬HH w) (cs:St):Ct 3 141 [.t (.D4 w),.t (.D4 32)] cs (.EM (.t (.G6 Be)) cs):=by
 refine ac (n:=2) (Go.eq (sJ cs) (Go.EM ?_))
 by_cases h1: -2147483648<=w
 .rw[aJ (show CF (-2147483648) w=Bj from GO h1),show CQ w 2147483648=Be from H5 λh2=>h ⟨h1,h2⟩]
 .rw[fh (show CF (-2147483648) w=Be from H5 h1)]
theorem tq (hb:DO b ix) (hi:Hi ix sc) (hw:HH w) (hz:C6 sz) (hs:II sg) (cs:St):Ct 6 663 [.t (Ar b ix sc w sz sg n')] cs (.EM (.t (Ar b ix sc w sz sg n')) cs):=by
 refine ac (n:=5) ?_;f_two [],(kM (sc:=sc) (w:=w) (sz:=sz) (sg:=sg) (n':=n') hb _);f_two [],(iz (b:=b) (w:=w) (sz:=sz) (sg:=sg) (n':=n') hi _);f_two [],(vN hw _);rcases hz with rfl|rfl|rfl|rfl|rfl|rfl<;>rcases hs with rfl|rfl|rfl<;>exact Go.EM ()
theorem l7 (hb:DO b ix) (hi:Hi ix sc) (hw:HH w) (hz:C6 sz) (hs:II sg) (q:BF) (cs:St):Ct 7 740 [.t (Ar b ix sc w sz sg n'),.t (As q)] cs (.EM (.t (Ar b ix sc w sz sg n')) cs):=by
 refine ac (n:=6) ?_;f_two [],(tq (n':=n') hb hi hw hz hs _);exact Go.EM ()
theorem b6 (hn:Hh n') (q:BF) (cs:St):Ct 3 726 [.t (P3 w n' Ae),.t (As q)] cs (.EM (.t (.Ld [.D4 w,.Dq n'])) cs):=by
 rcases hn with rfl|rfl<;>exact aa λd=>by lk
end
section
variable {c0:C} {lt:AT Tk} {p:BF} {fo:C} {q:BF} {S:SS} {b ix:T} {sc w sz:Dt} {sg n':Dr}
theorem fq:Cq 4 580 6 [.t b,.t ix,.t (.D4 sc),.t (.D4 w),.t (.D4 sz),.t (.Dq sg),.t (.Dq n')] (`c S []) (.EM (.t (Ar b ix sc w sz sg n')) (`c S [])):=aN λd=>by lk
def Mc:T->AT V
 | .Kr=>[]
 |b=>[.t b]
theorem oz (hp:S.pl=Mc b) (hx:S.ix=ix) (hsc:S.sc=sc) (hw':S.w=w) (hsy:S.sy=n') (hmi:S.mi=Ae) (hn:Hh n') (hb:DO b ix) (hi:Hi ix sc) (hw:HH w) (hz:C6 sz) (hs:II sg):
  Ct 8 1364 [.FN 4,.t (.D4 sz),.t (.Dq sg)] (`c S []) (.EM (.t (Ar b ix sc w sz sg n')) (`c S [])):=by
 obtain⟨pl,ix',sc',w',sy',mi'⟩:=S;dsimp only at hp hx hsc hw' hsy hmi;subst hp hx hsc hw' hsy hmi;refine ac (n:=7) ?_;have pp:=b6 (w:=w') hn q;have ck:=l7 (n':=sy') hb hi hw hz hs q;have K7:∀pl,pl=[]/\b= .Kr\/pl=[.t b]/\GI b->Go 7 (R 1364 [.FN 4,.t (.D4 sz),.t (.Dq sg)] (`c ⟨pl,ix',sc',w',sy',Ae⟩ [])) (.EM (.t (Ar b ix' sc' w' sz sg sy')) (`c ⟨pl,ix',sc',w',sy',Ae⟩ [])):=λpl hpl=>by
  have hix:ix'= .Kr\/GI ix':=by
   rcases hi with⟨Cs,_⟩|⟨s,k,Cs,_⟩
   .exact .HX rfl
   .exact .G4 ⟨_,_,Cs⟩
  have mk:=fq (c0:=c0) (lt:=lt) (p:=p) (fo:=fo) (q:=q) (S:=⟨pl,ix',sc',w',sy',Ae⟩) (b:=b) (ix:=ix') (sc:=sc') (w:=w') (sz:=sz) (sg:=sg) (n':=sy');have pp:=pp (`c ⟨pl,ix',sc',w',sy',Ae⟩ []);have ck:=ck (`c ⟨pl,ix',sc',w',sy',Ae⟩ []);rcases hpl with⟨Cs,Cs⟩|⟨Cs,c1,fs,Cs⟩<;>rcases hix with rfl|⟨c2,fs2,Cs⟩
  all_goals
   f_two _,pp;refine Go.PE _ mk () ?_;f_two _,ck;exact Go.EM ()
 rcases hb with rfl|⟨Cs,Cs⟩|⟨s,k,Cs⟩
 .exact K7 [] (.HX ⟨Cs,Cs⟩)
 .exact K7 _ (.G4 ⟨Cs,_,_,Cs⟩)
 .exact K7 _ (.G4 ⟨Cs,_,_,Cs⟩)
end
def At:AT (It×AT (CV×It))->AT Tk
 |[]=>[]
 |(i,ch)::r=> .sg Ao::(Ab i ch++ .sg Ba::At r)
theorem cu:At []=[]:=rfl
theorem cw (i:It) (ch:AT (CV×It)) (r:AT (It×AT (CV×It))):At ((i,ch)::r)= .sg Ao::(Ab i ch++ .sg Ba::At r):=rfl
inductive Nn:SS->AT (It×AT (CV×It))->SS->Prop
 |HU (S):Nn S [] S
 |Dc {S S' S'' i ch gs} (hi:Cj i=Bj) (ok:∀x∈ch,Cj x.2=Bj) (hl:ch.A8<=150) (h:JO S ((Be,Bs i)::By ch) S') (r:Nn S' gs S''):Nn S ((i,ch)::gs) S''
section
variable (c0:C) (lt:AT Tk) (fo:C) (q:BF) (sz:Dt) (sg:Dr)
def LR (m p:BF) (S:SS):An:=(`p m).wh ⟨Cv 1378,4,Bj⟩ (ZV 1378 2).1 (ZV 1378 2).2.1 [(`dm,.FN 2),(`dl,.t Fq),(`cY,.t (.D4 sz)),(`ck,.t (.Dq sg)),(s!"at",.t (As q)),(s!"total",.FN 4)] (`c S [])
 (λCL cs=>(`p 397).ex ⟨Cv 1378,4,Bj⟩ (ZV 1378 2).2.2 CL cs (XO 4) (FP 4) (AW 4)) (FP 4) (AW 4)
end
section
variable {w0:Dt} {c0:C} {lt:AT Tk} {fo:C} {q:BF} {sz:Dt} {sg:Dr} {S S':SS} {t:Tk} {r:AT Tk} {B:An} {b ix v:T} {sc w:Dt} {n':Dr}
theorem mV (m p:BF) {i:It} {ch:AT (CV×It)} (hi:Cj i=Bj) (ok:∀x∈ch,Cj x.2=Bj) (hl:ch.A8<=150) (h:JO S ((Be,Bs i)::By ch) S')
  (hd:lt.F3 p= .sg Ao::(Ab i ch++ .sg Ba::r)) (hp:p+(Ab i ch).A8<=2990)
  (k:Go 17 (LR c0 lt fo q sz sg (m+20) (p+(Ab i ch).A8+2) S') B):Go 17 (LR c0 lt fo q sz sg (m+21) p S) B:=by
 have h1:=(au hd).1;have h2:=aD h1;have e1:=dN (c0:=c0) (Df:=[fo,Ec q S,.Dg S.pl]) hd (·) (s':=Ao) rfl;have e2:=aW (c0:=c0) (Df:=[fo,Ec q S,.Dg S.pl]) i ch hi ok h1 rfl rfl (·) (·);have e3:=tP (c0:=c0) (lt:=lt) (p:=p+1+(Ab i ch).A8) (fo:=fo) (q:=q) (m3 i) h hl;have e4:=uN (c0:=c0) (Df:=[fo,Ec q S',.Dg S'.pl]) h2 (·) (s':=Ba) rfl;f_two _,e1;f_two _,e2;f_two _,e3;f_two _,e4;rw[show p+(Ab i ch).A8+2=p+1+(Ab i ch).A8+1 by omega] at k;exact Go.eq () k
theorem mW (ht:Fc t Ao=Be) {gs:AT (It×AT (CV×It))} (g:Nn S gs S'):∀(m p:BF),lt.F3 p=At gs++t::r->p+(At gs).A8<=2990->
  Go 17 (LR c0 lt fo q sz sg (m+20) (p+(At gs).A8) S') B->Go 17 (LR c0 lt fo q sz sg (m+gs.A8+20) p S) B:=by
 induction g with
 |HU S=>intro m p hd hp k;exact k
 | @Dc S S1 S2 i ch gs hi ok hl h gr ih=>
  intro m p hd hp k;have e0:At ((i,ch)::gs)++t::r= .sg Ao::(Ab i ch++ .sg Ba::(At gs++t::r)):=by simp only[cu,cw,AT.Qm,AT.F7]
  have el:(At ((i,ch)::gs)).A8=(Ab i ch).A8+2+(At gs).A8:=by simp only[cu,cw,AT.DW,AT.DE];omega
  rw[e0] at hd;rw[el] at hp k;have h2:=(au (aD (au hd).1)).1;rw[show p+1+(Ab i ch).A8+1=p+(Ab i ch).A8+2 by omega] at h2;rw[AT.DW,show m+(gs.A8+1)+20=(m+gs.A8)+21 by omega];refine mV (m+gs.A8) p hi ok hl h hd (·) (ih m _ h2 (·) ?_);rw[show p+(Ab i ch).A8+2+(At gs).A8=p+((Ab i ch).A8+2+(At gs).A8) by omega];exact k
theorem rG (m p:BF) (ht:Fc t Ao=Be) (hd:lt.F3 p=t::r) (hp:p<=2990)
  (hpl:S.pl=Mc b) (hx:S.ix=ix) (hsc:S.sc=sc) (hw':S.w=w) (hsy:S.sy=n') (hmi:S.mi=Ae) (hn:Hh n') (hb:DO b ix) (hi:Hi ix sc) (hw:HH w) (hz:C6 sz) (hs:II sg):
  Go 17 (LR c0 lt fo q sz sg (m+20) p S) (.EM (.t (Ar b ix sc w sz sg n')) (`o [fo])):=by
 have e1:=dO (c0:=c0) (Df:=[fo,Ec q S,.Dg S.pl]) hd (·) (s':=Ao) ht;have e2:=oz (c0:=c0) (lt:=lt) (p:=p) (fo:=fo) (q:=q) hpl hx hsc hw' hsy hmi hn hb hi hw hz hs;f_two _,e1;f_two _,e2;exact Go.EM ()
def C7:SS:=⟨[],.Kr,1,0,Ae,Ae⟩
theorem i5 (p:BF):Cq 5 1367 4 [.t Fq,.t (As q)] (`o [fo]) (.EM (.FN 4) (`c C7 [])):=aN λd=>by lk
theorem lE {p:BF} {t':T} (h:Lf t' v) {w:Dt} {sy mi:Dr} (ha:∀cs,Ct 6 1030 [.t (P3 S.w S.sy S.mi),.t v] cs (.EM (.t (P3 w sy mi)) cs)):
  Ct 15 1329 [.FN 4,.t t'] (`c S []) (.EM (.t .Kr) (`c (S.PF w sy mi) [])):=by
 refine ac (n:=14) ?_;f_two _,(bZ (c0:=c0) (lt:=lt) (p:=p) (fo:=fo) (q:=q) (S:=S) (g:=[]) h);f_two (`c S []),(ha _);exact Go.EM ()
theorem fP {p:BF} {gs:AT (It×AT (CV×It))} {g0:It×AT (CV×It)} (g:Nn C7 (g0::gs) S) (ht:Fc t Ao=Be) (hd:lt.F3 p=At (g0::gs)++t::r) (hp:p+(At (g0::gs)).A8<=2990) (hlg:gs.A8<=300)
  (hpl:S.pl=Mc b) (hx:S.ix=ix) (hsc:S.sc=sc) (hw':S.w=w) (hsy:S.sy=n') (hmi:S.mi=Ae) (hn:Hh n') (hb:DO b ix) (hi:Hi ix sc) (hw:HH w) (hz:C6 sz) (hs:II sg):
  Ct 18 1378 [.FN 2,.t Fq,.t (.D4 sz),.t (.Dq sg),.t (As q)] (`o [fo]) (.EM (.t (Ar b ix sc w sz sg n')) (Z4 c0 lt (p+(At (g0::gs)).A8) [fo])):=by
 refine ac (n:=17) ?_;have h1:lt.F3 p= .sg Ao::(Ab g0.1 g0.2++ .sg Ba::(At gs++t::r)):=by rw[hd];obtain⟨i,ch⟩:=g0;simp only[cu,cw,AT.Qm,AT.F7]
 have e1:=aU (c0:=c0) (Df:=[fo,Ec q C7,.Dg []]) h1 (·) Ao;refine Go.PE _ (i5 (c0:=c0) (lt:=lt) (fo:=fo) (q:=q) p) () ?_;f_two _,e1;obtain⟨m,em⟩:∃m,397=m+(g0::gs).A8+20:=⟨376 - gs.A8,fz1 (a:=376) (n:=gs.A8) (k:=20) (·)⟩;refine Go.eq (show _=LR c0 lt fo q sz sg 397 p C7 by lk) ?_;rw[em];exact mW ht g m p hd hp (rG m _ ht (aD hd) (·) hpl hx hsc hw' hsy hmi hn hb hi hw hz hs)
theorem fa {p:BF} {gs:AT (It×AT (CV×It))} {i:It} (g:Nn (C7.PF w0 Ae Ae) gs S) (hi0:Cj i=Bj) (hf:∃u r',Az i=u::r'/\Fc u Ao=Be) (hlf:Lf (Bs i) (P3 w0 Ae Ae))
  (hgs:∃r',At gs= .sg Ao::r') (ht:Fc t Ao=Be) (hd:lt.F3 p=Az i++(At gs++t::r)) (hp:p+(Az i).A8+(At gs).A8<=2990) (hlg:gs.A8<=300)
  (hpl:S.pl=Mc b) (hx:S.ix=ix) (hsc:S.sc=sc) (hw':S.w=w) (hsy:S.sy=n') (hmi:S.mi=Ae) (hn:Hh n') (hb:DO b ix) (hi:Hi ix sc) (hw:HH w) (hz:C6 sz) (hs:II sg):
  Ct 18 1378 [.FN 2,.t Fq,.t (.D4 sz),.t (.Dq sg),.t (As q)] (`o [fo]) (.EM (.t (Ar b ix sc w sz sg n')) (Z4 c0 lt (p+(Az i).A8+(At gs).A8) [fo])):=by
 refine ac (n:=17) ?_;obtain⟨u,r',e,hu⟩:=hf;obtain⟨r2,e2⟩:=hgs;have h1:lt.F3 p=u::(r'++(At gs++t::r)):=by rw[hd,e];rfl
 have h2:lt.F3 p=Ab i []++ .sg Ao::(r2++t::r):=by rw[hd,e2];simp only[Ab,aG,aH,AT.H7,AT.Qm]
 have e1:=aU (c0:=c0) (Df:=[fo,Ec q C7,.Dg []]) h1 (·) Ao;rw[hu] at e1;have e3:=aW (c0:=c0) (Df:=[fo,Ec q C7,.Dg []]) i [] hi0 (by simp) h2 rfl rfl (by simp only[Ab,aG,aH,AT.H7];omega) (by simp);have el:(Ab i []).A8=(Az i).A8:=by simp only[Ab,aG,aH,AT.H7]
 rw[el] at e3;have ha:=lE (c0:=c0) (lt:=lt) (fo:=fo) (q:=q) (S:=C7) (p:=p+(Az i).A8) hlf (w:=0+w0) (fB 0 w0 Ae (.HX rfl));rw[Dt.PX] at ha;refine Go.PE _ (i5 (c0:=c0) (lt:=lt) (fo:=fo) (q:=q) p) () ?_;f_two _,e1;f_two _,e3;f_two _,ha;obtain⟨m,em⟩:∃m,397=m+gs.A8+20:=⟨377 - gs.A8,fz (a:=377) (k:=20) (·)⟩;refine Go.eq (show _=LR c0 lt fo q sz sg 397 (p+(Az i).A8) (C7.PF w0 Ae Ae) by lk) ?_;rw[em];exact mW ht g m _ (aD hd) hp (rG m _ ht (aD (aD hd)) (·) hpl hx hsc hw' hsy hmi hn hb hi hw hz hs)
end
def Sm (t:Tk) (s:Dr):Prop:=∀i cs,Ct 2 1275 [.t (Du t i)] cs (.EM (.t (.Dq s)) cs)
def Ws (s:Dr) (z:Dt):Prop:=∀cs,Ct 2 1268 [.t (.Dq s)] cs (.EM (.t (.D4 z)) cs)
theorem dM (s:Dr):Sm (.sg s) Ae:=λi cs=>aa λd=>by lk
theorem fK (n:Dt):Sm (.nu n) Ae:=λi cs=>aa λd=>by lk
theorem kW:Ws Ae 0:=λcs=>aa λd=>by lk
section
variable {c0:C} {lt:AT Tk} {p:BF} {Df:St} {fo:C} {q:BF} {t t2:Tk} {r:AT Tk} {n:BF}
theorem cZ (h:lt.F3 p=t::r) (hp:p<=3000) {s:Dr} (hs:Sm t s) (hw:Ws s 0):Ct 3 1282 [.FN 2] (`d) (.EM (.t (.D4 0)) (`d)):=by
 refine ac (n:=2) ?_;f_two _,(aw (c0:=c0) (Df:=Df) h (·));f_two (`d),(hs p _);f_two (`d),(hw _);exact bD ()
theorem jQ {u v:Dr} (h:lt.F3 p= .na u:: .na v::r) (hp:lt.A8<=3000) {s:Dr} {z:Dt} (hz:z=8\/z=16\/z=32\/z=64\/z=128) (hs:Sm (.na u) s) (hw:Ws s z) (hv:Sm (.na v) D6):
  Ct 3 1282 [.FN 2] (`d) (.EM (.t (.D4 z)) (Z4 c0 lt (p+2) Df)):=by
 refine ac (n:=2) ?_;have hl:=(au h).2;rcases hz with rfl|rfl|rfl|rfl|rfl
 all_goals
  f_two _,(aw (c0:=c0) (Df:=Df) h (·));f_two (`d),(hs p _);f_two (`d),(hw _);f_two _,(kT (c0:=c0) (Df:=Df) h (·));f_two (`d),(hv (p+1) _);f_two _,(bo (c0:=c0) (Df:=Df) h (·));f_two _,(bo (c0:=c0) (Df:=Df) (au h).1 (·));exact bD ()
theorem eD (h:lt.F3 p=t::r) (hp:p<=3000) (hs:Sm t Ae):Ct 3 1289 [.FN 2] (`o [fo]) (.EM (.t (.Dq Ae)) (`o [fo])):=by
 refine ac (n:=2) ?_;f_two _,(aw (c0:=c0) (Df:=[fo]) h (·));f_two (`o [fo]),(hs p _);exact Go.EM ()
theorem mE {u s:Dr} (h:lt.F3 p= .na u:: .sg DF::r) (hp:lt.A8<=3000) (hz:s=s!"fs"\/s=s!"gs"\/s=s!"ds") (hs:Sm (.na u) s):
  Ct 3 1289 [.FN 2] (`o [fo]) (.EM (.t (.Dq s)) (Z4 c0 lt (p+2) [fo])):=by
 refine ac (n:=2) ?_;have hl:=(au h).2;rcases hz with rfl|rfl|rfl
 all_goals
  f_two _,(aw (c0:=c0) (Df:=[fo]) h (·));f_two (`o [fo]),(hs p _);have a:=kT (c0:=c0) (Df:=[fo,.Dg [.t (.Dq s!"fs"),.t (.Dq s!"gs"),.t (.Dq s!"ds")]]) h (·);f_two _,a;f_two _,(bK (.sg DF) (p+1) DF (`o [fo,.Dg [.t (.Dq s!"fs"),.t (.Dq s!"gs"),.t (.Dq s!"ds")]]));f_two _,(bo (c0:=c0) (Df:=[fo,.Dg [.t (.Dq s!"fs"),.t (.Dq s!"gs"),.t (.Dq s!"ds")]]) h (·));f_two _,(bo (c0:=c0) (Df:=[fo,.Dg [.t (.Dq s!"fs"),.t (.Dq s!"gs"),.t (.Dq s!"ds")]]) (au h).1 (·));exact Go.EM ()
def AG (v:T):T:= .LJ 452 [(`da,.Dq `dx),(s!"register",v)]
theorem uP (v:T):Cq 3 452 4 [.t v] (`o [fo]) (.EM (.t (AG v)) (`o [fo])):=aN λd=>by lk
theorem iI (z:Sz) (n:BF) (hn:n<16):Sm (.na (Av z n)) (Av z n):=λi cs=>aa λd=>
 aY (f:=λy:BF×Sz=>RA 2 1275 [.t (Du (.na (Av y.2 y.1)) i)] cs d) (g:=λy=> .EM (.t (.Dq (Av y.2 y.1))) cs) (l:=OS) () (n,z) (c8 hn z)
theorem xc (z:Sz) (n:BF) (hn:n<16):Ws (Av z n) 0:=λcs=>aa λd=>
 aY (f:=λy:BF×Sz=>RA 2 1268 [.t (.Dq (Av y.2 y.1))] cs d) (g:=λy=> .EM (.t (.D4 0)) cs) (l:=OS) () (n,z) (c8 hn z)
theorem uo (z:Sz) (n:BF) (hn:n<16) (u:Dr) (hu:u=Db\/u=s!"fs"\/u=s!"gs"\/u=s!"ds"):KH (Av z n) u=Be:=by
 have h:∀u∈[Z8 [111,102,102,115,101,116],Z8 [102,115],Z8 [103,115],Z8 [100,115]],KH (Av z n) u=Be:=λu hu=>
  aY (f:=λy:(BF×Sz)×Dr=>KH (Av y.1.2 y.1.1) y.2) (g:=λ_=>Be) (l:=OS.KK λy=>[Z8 [111,102,102,115,101,116],Z8 [102,115],Z8 [103,115],Z8 [100,115]].FW λu=>(y,u)) () ((n,z),u) (AT.Lp.Lq ⟨(n,z),c8 hn z,AT.KY.Lq ⟨u,hu,Cs⟩⟩)
 refine h u ?_;rcases hu with rfl|rfl|rfl|rfl
 .exact .Jn _
 .exact .Do _ (.Jn _)
 .exact .Do _ (.Do _ (.Jn _))
 .exact .Do _ (.Do _ (.Do _ (.Jn _)))
def EX (f b i m:BF) (CL:Ag) (cs:St):An:=(`p m).ex ⟨Cv f,b,Bj⟩ (Cu f i) CL cs (XO b) (FP b) (AW b)
def Fd (f i:BF):Ez×AT IQ×AT IQ:=((Cu f i).head?.G3 λs=>Dw s.E5 12 λh=>IQ.If.Dk s h λt a b _=>A9 (t,a,b)).RT (.KP .BH 0 default,[],[])
def HN (f b i m:BF) (CL:Ag) (cs:St):An:=(`p m).ex ⟨Cv f,b,Bj⟩ (Fd f i).2.1 CL cs (λCL cs=>EX f b (i+1) m CL cs) (FP b) (AW b)
theorem uu (z:Sz) (n:BF) (hn:n<16) (h:lt.F3 p= .na (Av z n)::r) (hp:p<=3000):Ct 3 1289 [.FN 2] (`o [fo]) (.EM (.t (.Dq Ae)) (`o [fo])):=by
 refine ac (n:=2) ?_;f_two _,(aw (c0:=c0) (Df:=[fo]) h (·));f_two (`o [fo]),(iI z n hn p _);exact Go.EM (aY (f:=λy:BF×Sz=>FR (FR (R 1289 [.FN 2] (`o [fo])) (.t (Du (.na (Av y.2 y.1)) p)) (`o [fo])) (.t (.Dq (Av y.2 y.1))) (`o [fo])) (g:=λ_=> .EM (.t (.Dq Ae)) (`o [fo])) (l:=OS) () (n,z) (c8 hn z))
theorem jT (z:Sz) (n:BF) (hn:n<16) (h:lt.F3 p= .na (Av z n)::r) (hp:p<=2900) (w:Dr):
  Ct 20 1392 [.FN 2,.t Fq,.t (.Dq w)] (`o [fo]) (.EM (.t (AG (AJ z n))) (Z4 c0 lt (p+1) [fo])):=by
 refine ac (n:=19) ?_;f_two _,(bg (c0:=c0) (Df:=[fo]) h (·));f_two _,(aw (c0:=c0) (Df:=[fo]) h (·));f_two (`o [fo]),(iI z n hn p _);refine Go.eq (show _=br (KH (Av z n) Db) (HN 1392 4 1 398 [(`dm,.FN 2),(`dl,.t Fq),(`dg,.t (.Dq w)),(s!"at",.t (As p))] (`o [fo])) (EX 1392 4 2 398 [(`dm,.FN 2),(`dl,.t Fq),(`dg,.t (.Dq w)),(s!"at",.t (As p))] (`o [fo])) by lk) ?_;rw[fh (uo z n hn Db (.HX rfl))];f_two _,(cZ (c0:=c0) (Df:=[fo]) h (·) (iI z n hn) (xc z n hn));f_two _,(uu (c0:=c0) (fo:=fo) z n hn h (·));f_two _,(aU (c0:=c0) (Df:=[fo]) h (·) Ao)
 f_two _,(aw (c0:=c0) (Df:=[fo]) h (·));f_two (`o [fo]),(iI z n hn p _);f_two (`o [fo]),(sK z n hn _);f_two _,(bo (c0:=c0) (Df:=[fo]) h (·));refine Go.PE (Z4 c0 lt (p+1) [fo]) (uP (AJ z n)) () ?_;exact Go.EM ()
end
def GN (t:Tk):Prop:=t= .fn\/t= .sg Au
def FT (wt:AT Tk) (z:Dt):Prop:=(wt=[]/\z=0)\/∃u v s,wt=[.na u,.na v]/\Sm (.na u) s/\Ws s z/\(z=8\/z=16\/z=32\/z=64\/z=128)/\Sm (.na v) D6/\KH s Db=Be
def MF (st:AT Tk) (s:Dr):Prop:=(st=[]/\s=Ae)\/∃u,st=[.na u,.sg DF]/\Sm (.na u) s/\(s=s!"fs"\/s=s!"gs"\/s=s!"ds")
def AC (s:Dr):Dr:=match KH s s!"ds" with
 |Bj=>Ae
 |Be=>s
def Jl (bt:AT Tk):Prop:=(∃r',bt= .sg Ao::r')\/∃n r',bt= .nu n:: .sg Ao::r'
def GG (bt:AT Tk) (mk:Dt->Dr->T):Prop:=∀c0 lt fo q p t r z sg,C6 z->II sg->GN t->lt.F3 p=bt++t::r->p+bt.A8<=2990->
 Ct 18 1378 [.FN 2,.t Fq,.t (.D4 z),.t (.Dq sg),.t (As q)] (`o [fo]) (.EM (.t (mk z sg)) (Z4 c0 lt (p+bt.A8) [fo]))
def E3 (Dp:AT Tk) (w:Dr) (v:T):Prop:=∀c0 lt fo p t r,GN t->lt.F3 p=Dp++t::r->lt.A8<=2900->
 Ct 20 1392 [.FN 2,.t Fq,.t (.Dq w)] (`o [fo]) (.EM (.t v) (Z4 c0 lt (p+Dp.A8) [fo]))
theorem E3.reg (z:Sz) (n:BF) (hn:n<16) (w:Dr):E3 [.na (Av z n)] w (AG (AJ z n)):=λc0 lt fo p t r ht h hl=>
 jT (c0:=c0) (fo:=fo) z n hn h (by have:=(au h).2;omega) w
theorem xA {s:Dr} (h:s=Ae\/s=s!"fs"\/s=s!"gs"\/s=s!"ds"):Ws s 0:=λcs=>by
 rcases h with rfl|rfl|rfl|rfl<;>exact aa λd=>by lk
theorem kA (cs:St):Ct 6 1261 [.t (.Dq Ae)] cs (.EM (.t .Kr) cs):=aa λd=>by lk
section
variable {c0:C} {lt:AT Tk} {p:BF} {Df:St} {fo:C} {q:BF} {t t2:Tk} {r bt st:AT Tk} {n:BF} {w s:Dr} {z:Dt} {mk:Dt->Dr->T}
theorem oj {n:Dt} {r':AT Tk} (hb:GG (.nu n:: .sg Ao::r') mk) (ht:GN t) (h:lt.F3 p=(.nu n:: .sg Ao::r')++t::r) (hl:lt.A8<=2900) (w:Dr):
  Ct 19 1385 [.FN 2,.t Fq,.t (.Dq w),.t (As p)] (`o [fo]) (.EM (.t (mk 0 Ae)) (Z4 c0 lt (p+(.nu n:: .sg Ao::r':AT Tk).A8) [fo])):=by
 refine ac (n:=18) ?_;have hp:p+(.nu n:: .sg Ao::r':AT Tk).A8<=lt.A8:=by
  have:=FY AT.A8 h
  simp only[AT.LF,AT.DE,AT.DW] at F4⊢;rw[lsb F4 (BF.succ_pos _)];omega
 have e1:=aW (c0:=c0) (Df:=[fo]) (t:= .sg Ao) (.p1 (.nu n)) [] rfl (by simp) (show lt.F3 p=Ab (.p1 (.nu n)) []++ .sg Ao::(r'++t::r) by rw[h];rfl) rfl rfl (by show p+1<=3000;rw[AT.DW] at hp;omega) (by simp);have e2:=aU (c0:=c0) (Df:=[fo]) (au h).1 (by rw[AT.DW] at hp;omega) Ao;have e3:=hb c0 lt fo p p t r 0 Ae (.HX rfl) (.HX rfl) ht h (·);f_two _,e1;f_two _,e2;f_two _,e3;exact Go.EM ()
theorem rj {wt:AT Tk} (hw:FT wt z) (hs:MF st s) (hf:Jl bt) (hb:GG bt mk) (w:Dr):E3 (wt++(st++bt)) w (mk z (AC s)):=by
 intro c0 lt fo p t r ht h hl;refine ac (n:=19) ?_;rw[AT.F7,AT.F7] at h;have N9:p+wt.A8+st.A8+bt.A8<=lt.A8:=by
  have:=FY AT.A8 h
  rw[AT.LF] at F4;simp only[AT.DE,AT.DW] at F4;rw[lsb F4 (BF.succ_pos _)];omega
 rw[AT.DE,AT.DE,show p+(wt.A8+(st.A8+bt.A8))=p+wt.A8+st.A8+bt.A8 by omega];have hd1:=aD h;have hd2:=aD hd1;rcases hw with⟨Cs,Cs⟩|⟨u,v,s1,Cs,hs1,hws,hz,hv,ho⟩
 .rcases hs with⟨Cs,Cs⟩|⟨u,Cs,Wv,hseg⟩
  .rcases hf with⟨r',Cs⟩|⟨n,r',Cs⟩
   .have e7:=hb c0 lt fo p p t r 0 Ae (.HX rfl) (.HX rfl) ht h (by simp only[AT.KC] at N9;omega)
    f_two _,(bg (c0:=c0) (Df:=[fo]) h (·));f_two _,(aw (c0:=c0) (Df:=[fo]) h (·));f_two (`o [fo]),(dM Ao p _);f_two _,(cZ (c0:=c0) (Df:=[fo]) h (·) (dM Ao) kW);f_two _,(eD (c0:=c0) (fo:=fo) h (·) (dM Ao));f_two _,(aU (c0:=c0) (Df:=[fo]) h (·) Ao);f_two _,e7;exact Go.EM ()
   .have e7:=oj (c0:=c0) (fo:=fo) hb ht h hl w
    f_two _,(bg (c0:=c0) (Df:=[fo]) h (·));f_two _,(aw (c0:=c0) (Df:=[fo]) h (·));f_two (`o [fo]),(fK n p _);f_two _,(cZ (c0:=c0) (Df:=[fo]) h (·) (fK n) kW);f_two _,(eD (c0:=c0) (fo:=fo) h (·) (fK n));f_two _,(aU (c0:=c0) (Df:=[fo]) h (·) Ao);f_two _,(aw (c0:=c0) (Df:=[fo]) h (·));f_two (`o [fo]),(fK n p _);f_two (`o [fo]),(kA _);f_two _,e7;exact Go.EM ()
  .have e7:=λsg hsg=>hb c0 lt fo p (p+2) t r 0 sg (.HX rfl) hsg ht hd2 (by simp only[AT.KC,AT.DW] at N9;omega)
   have e5:=mE (c0:=c0) (fo:=fo) h (·) hseg Wv;have e4:=cZ (c0:=c0) (Df:=[fo]) h (·) Wv (xA (.G4 hseg));rcases hseg with rfl|rfl|rfl
   .f_two _,(bg (c0:=c0) (Df:=[fo]) h (·))
    f_two _,(aw (c0:=c0) (Df:=[fo]) h (·));f_two (`o [fo]),(Wv p _);f_two _,e4;f_two _,e5;f_two _,(e7 s!"fs" (.G4 (.HX rfl)));exact Go.EM ()
   .f_two _,(bg (c0:=c0) (Df:=[fo]) h (·))
    f_two _,(aw (c0:=c0) (Df:=[fo]) h (·));f_two (`o [fo]),(Wv p _);f_two _,e4;f_two _,e5;f_two _,(e7 s!"gs" (.G4 (.G4 rfl)));exact Go.EM ()
   .f_two _,(bg (c0:=c0) (Df:=[fo]) h (·))
    f_two _,(aw (c0:=c0) (Df:=[fo]) h (·));f_two (`o [fo]),(Wv p _);f_two _,e4;f_two _,e5;f_two _,(e7 Ae (.HX rfl));exact Go.EM ()
 .have e4:=jQ (c0:=c0) (Df:=[fo]) h (·) hz hs1 hws hv
  have Qt:∀(p':BF) sg,(sg=Ae\/sg=s!"fs"\/sg=s!"gs"\/sg=s!"ds")->lt.F3 p'=bt++t::r->p'+bt.A8<=2990->Ct 3 1289 [.FN 2] (Z4 c0 lt (p+2) [fo]) (.EM (.t (.Dq sg)) (Z4 c0 lt p' [fo]))->
    Go 19 (R 1392 [.FN 2,.t Fq,.t (.Dq w)] (`o [fo])) (.EM (.t (mk z (AC sg))) (Z4 c0 lt (p'+bt.A8) [fo])):=by
   intro p' sg hsg hd hp' e5;have e7:=λsg hsg=>hb c0 lt fo p p' t r z sg (.G4 hz) hsg ht hd hp';f_two _,(bg (c0:=c0) (Df:=[fo]) h (·));f_two _,(aw (c0:=c0) (Df:=[fo]) h (·));f_two (`o [fo]),(hs1 p _);refine Go.eq (show _=br (KH s1 Db) (HN 1392 4 1 398 [(`dm,.FN 2),(`dl,.t Fq),(`dg,.t (.Dq w)),(s!"at",.t (As p))] (`o [fo])) (EX 1392 4 2 398 [(`dm,.FN 2),(`dl,.t Fq),(`dg,.t (.Dq w)),(s!"at",.t (As p))] (`o [fo])) by lk) ?_;rw[fh ho];f_two _,e4;f_two _,e5;rcases hsg with rfl|rfl|rfl|rfl
   .refine Go.DH _ (e7 Ae (.HX rfl)) (by apply gQ hz<;>lk) ?_
    clear e4 e7 hws;rcases hz with rfl|rfl|rfl|rfl|rfl<;>exact Go.EM ()
   .refine Go.DH _ (e7 s!"fs" (.G4 (.HX rfl))) (by apply gQ hz<;>lk) ?_
    clear e4 e7 hws;rcases hz with rfl|rfl|rfl|rfl|rfl<;>exact Go.EM ()
   .refine Go.DH _ (e7 s!"gs" (.G4 (.G4 rfl))) (by apply gQ hz<;>lk) ?_
    clear e4 e7 hws;rcases hz with rfl|rfl|rfl|rfl|rfl<;>exact Go.EM ()
   .refine Go.DH _ (e7 Ae (.HX rfl)) (by apply gQ hz<;>lk) ?_
    clear e4 e7 hws;rcases hz with rfl|rfl|rfl|rfl|rfl<;>exact Go.EM ()
  rcases hs with⟨Cs,Cs⟩|⟨u',Cs,Wv,hseg⟩
  .have hd1:lt.F3 (p+2)=bt++t::r:=hd1
   refine Qt (p+2) Ae (.HX rfl) hd1 (by simp only[AT.KC,AT.DW] at N9;omega) ?_;rcases hf with⟨r',Cs⟩|⟨n,r',Cs⟩
   .exact eD (c0:=c0) (fo:=fo) hd1 (by simp only[AT.KC,AT.DW] at N9;omega) (dM Ao)
   .exact eD (c0:=c0) (fo:=fo) hd1 (by simp only[AT.KC,AT.DW] at N9;omega) (fK n)
  .exact Qt (p+2+2) s (.G4 hseg) hd2 (by simp only[AT.DW,AT.KC] at N9;omega) (mE (c0:=c0) (fo:=fo) hd1 (·) hseg Wv)
end
theorem GN.nb {t:Tk} (h:GN t):Fc t Ao=Be:=by apply oi h<;>rfl
theorem GN.ok {t:Tk} (h:GN t):JN t=Bj:=by apply oi h<;>rfl
theorem GN.lv {t:Tk} (h:GN t):Hm t=0:=by apply oi h<;>rfl
section
variable {b ix:T} {sc w:Dt} {n':Dr} {S:SS} {gs:AT (It×AT (CV×It))} {g0:It×AT (CV×It)}
structure Fin (S:SS) (b ix:T) (sc w:Dt) (n':Dr):Prop where
 pl:S.pl=Mc b
 x:S.ix=ix
 s:S.sc=sc
 wo:S.w=w
 sy:S.sy=n'
 mi:S.mi=Ae
 hn:Hh n'
 hb:DO b ix
 hi:Hi ix sc
 hw:HH w
theorem wn (g:Nn C7 (g0::gs) S) (hl:gs.A8<=300) (f:Fin S b ix sc w n'):GG (At (g0::gs)) λz sg=>`i n':=λc0 lt fo q p t r z sg hz hs ht h hp=>
 fP g ht.nb h hp hl f.pl f.x f.s f.wo f.sy f.mi f.hn f.hb f.hi f.hw hz hs
theorem tA (n:Dt) (g:Nn (C7.PF n Ae Ae) (g0::gs) S) (hl:gs.A8<=299) (f:Fin S b ix sc w n'):GG (.nu n::At (g0::gs)) λz sg=>`i n':=λc0 lt fo q p t r z sg hz hs ht h hp=>by
 have:=fa (c0:=c0) (fo:=fo) (q:=q) (t:=t) (r:=r) (p:=p) (i:= .p1 (.nu n)) g rfl ⟨_,_,Cs,Cs⟩ (cf Be n) ⟨Ab g0.1 g0.2++ .sg Ba::At gs,Cs⟩ ht.nb h (by simp only[al,ak,ai,aj,ag,AT.DW,AT.KC] at hp⊢;omega) (by simp only[AT.DW];omega) f.pl f.x f.s f.wo f.sy f.mi f.hn f.hb f.hi f.hw hz hs
 rw[show p+(.nu n::At (g0::gs):AT Tk).A8=p+(Az (.p1 (.nu n))).A8+(At (g0::gs)).A8 by simp only[al,ak,ai,aj,ag,AT.DW,AT.KC];omega];exact F4
end
def CM (v:Dt) (s:Dr):T:= .LJ 486 [(`da,.Dq s!"imm"),(`db,.D4 v),(`cC,.Dq s)]
structure MI (i:It) (ch:AT (CV×It)) (v:Dt) (s:Dr):Prop where
 hi:Cj i=Bj
 ok:∀x∈ch,Cj x.2=Bj
 hl:ch.A8<=20
 ev:HT 16 (Eb i ch) (P3 v s Ae)
 nr:∀cs,Ct 12 1301 [.t (Eb i ch)] cs (.EM (.t (.G6 Be)) cs)
section
variable {c0:C} {lt:AT Tk} {p:BF} {Df:St} {fo:C} {q:BF} {t t2:Tk} {r bt st:AT Tk} {n:BF} {w s:Dr} {z v:Dt} {i:It} {ch:AT (CV×It)}
theorem uW (v:Dt):Cq 4 486 4 [.t (.D4 v)] (`o [fo]) (.EM (.t (CM v Ae)) (`o [fo])):=aN λd=>by lk
theorem uV (v:Dt) (s:Dr):Cq 4 486 4 [.t (.D4 v),.t (.Dq s)] (`o [fo]) (.EM (.t (CM v s)) (`o [fo])):=aN λd=>by lk
theorem me (cs:St):Ct 3 705 [.t (.Dq AL)] cs (.EM (.t (.G6 Be)) cs):=aa λd=>by lk
theorem eJ {a:AT Tk} (h:lt.F3 p=a++t::r):p+a.A8+1<=lt.A8:=by
 have:=FY AT.A8 h
 simp only[AT.LF,AT.DE,AT.DW] at F4;rw[lsb F4 (BF.succ_pos _)];omega
theorem oo (e:MI i ch v Ae) (ht:GN t) (h:lt.F3 p=Ab i ch++t::r) (hl:lt.A8<=2900):
  Ct 17 1385 [.FN 2,.t Fq,.t (.Dq AL),.t (As q)] (`o [fo]) (.EM (.t (CM v Ae)) (Z4 c0 lt (p+(Ab i ch).A8) [fo])):=by
 refine ac (n:=16) ?_;have hp:=eJ h;have e1:=aW (c0:=c0) (Df:=[fo]) i ch e.hi e.ok h ht.ok ht.lv (·) (by have:=e.hl;omega);have e2:=aU (c0:=c0) (Df:=[fo]) (aD h) (·) Ao;rw[ht.nb] at e2;f_two _,e1;f_two _,e2;f_two (Z4 c0 lt (p+(Ab i ch).A8) [fo]),(e.nr _);f_two (Z4 c0 lt (p+(Ab i ch).A8) [fo]),(e.ev _);f_two (Z4 c0 lt (p+(Ab i ch).A8) [fo]),(me _);f_two (Z4 c0 lt (p+(Ab i ch).A8) [fo]),(b6 (w:=v) (n':=Ae) (.HX rfl) q _);refine Go.PE (Z4 c0 lt (p+(Ab i ch).A8) [fo]) (uW v) () ?_;exact Go.EM ()
def Pe (Dp:AT Tk):Prop:=∃u r',Dp=u::r'/\Fc u Ao=Be/\(Sm u Ae\/Sm u s!"k")
theorem yt (cs:St):Ct 6 1261 [.t (.Dq s!"k")] cs (.EM (.t .Kr) cs):=aa λd=>by lk
theorem aar:Ws s!"k" 0:=λcs=>aa λd=>by lk
theorem uw {u:Tk} (h:lt.F3 p=u::r) (hp:p<=3000) (hs:Sm u s!"k"):Ct 3 1289 [.FN 2] (`o [fo]) (.EM (.t (.Dq Ae)) (`o [fo])):=by
 refine ac (n:=2) ?_;f_two _,(aw (c0:=c0) (Df:=[fo]) h (·));f_two (`o [fo]),(hs p _);exact Go.EM ()
theorem wG (e:MI i ch v Ae) (hf:Pe (Ab i ch)):E3 (Ab i ch) AL (CM v Ae):=by
 intro c0 lt fo p t r ht h hl;refine ac (n:=19) ?_;have hp:=eJ h;obtain⟨u,r',e0,hu,Wv⟩:=hf;have h1:lt.F3 p=u::(r'++t::r):=by rw[h,e0];rfl
 have e7:=oo (c0:=c0) (fo:=fo) (q:=p) e ht h hl;have e6:=aU (c0:=c0) (Df:=[fo]) h1 (·) Ao;rw[hu] at e6;rcases Wv with Wv|Wv
 .f_two _,(bg (c0:=c0) (Df:=[fo]) h1 (·))
  f_two _,(aw (c0:=c0) (Df:=[fo]) h1 (·));f_two (`o [fo]),(Wv p _);f_two _,(cZ (c0:=c0) (Df:=[fo]) h1 (·) Wv kW);f_two _,(eD (c0:=c0) (fo:=fo) h1 (·) Wv);f_two _,e6;f_two _,(aw (c0:=c0) (Df:=[fo]) h1 (·));f_two (`o [fo]),(Wv p _);f_two (`o [fo]),(kA _);f_two _,e7;exact Go.EM ()
 .f_two _,(bg (c0:=c0) (Df:=[fo]) h1 (·))
  f_two _,(aw (c0:=c0) (Df:=[fo]) h1 (·));f_two (`o [fo]),(Wv p _);f_two _,(cZ (c0:=c0) (Df:=[fo]) h1 (·) Wv aar);f_two _,(uw (c0:=c0) (fo:=fo) h1 (·) Wv);f_two _,e6;f_two _,(aw (c0:=c0) (Df:=[fo]) h1 (·));f_two (`o [fo]),(Wv p _);f_two (`o [fo]),(yt _);f_two _,e7;exact Go.EM ()
theorem xy:Sm (.na Db) Db:=λi cs=>aa λd=>by lk
theorem E3.off (e:MI i ch v Ai):E3 (.na Db::Ab i ch) AL (CM v Ai):=by
 intro c0 lt fo p t r ht h hl;refine ac (n:=19) ?_;have hp:=eJ h;rw[AT.DW] at hp;rw[AT.DW,show p+((Ab i ch).A8+1)=p+1+(Ab i ch).A8 by omega];have h1:=(au h).1;have e1:=aW (c0:=c0) (Df:=[fo]) i ch e.hi e.ok h1 ht.ok ht.lv (·) (by have:=e.hl;omega);f_two _,(bg (c0:=c0) (Df:=[fo]) h (·));f_two _,(aw (c0:=c0) (Df:=[fo]) h (·));f_two (`o [fo]),(xy p _);f_two _,(bo (c0:=c0) (Df:=[fo]) h (·));f_two _,e1;f_two (Z4 c0 lt (p+1+(Ab i ch).A8) [fo]),(e.nr _);f_two (Z4 c0 lt (p+1+(Ab i ch).A8) [fo]),(e.ev _)
 f_two (Z4 c0 lt (p+1+(Ab i ch).A8) [fo]),(b6 (w:=v) (n':=Ai) (.G4 rfl) p _);refine Go.PE (Z4 c0 lt (p+1+(Ab i ch).A8) [fo]) (uV v Ai) () ?_;exact Go.EM ()
end
def NE (Dp:AT Tk):Prop:=∃u r',Dp=u::r'/\Mn u=Be
section
variable {c0:C} {lt:AT Tk} {p:BF} {t:Tk} {r t1 t2:AT Tk} {w:Dr} {v1 v2:T}
theorem uH (h1:E3 t1 w v1) (n1:NE t1) (h:lt.F3 p=t1++ .fn::r) (hl:lt.A8<=2900):
  Ct 21 1399 [.FN 2,.t Fq,.t (.Dq w)] (`o []) (.EM (.FN 3) (Z4 c0 lt (p+t1.A8) [.Dg [.t v1]])):=by
 refine ac (n:=20) ?_;have hp:=eJ h;obtain⟨u,r',e0,hu⟩:=n1;have hd:lt.F3 p=u::(r'++ .fn::r):=by rw[h,e0];rfl
 have e1:=dd (c0:=c0) (Df:=[.Dg []]) hd (·);rw[hu] at e1;have e3:=dO (c0:=c0) (Df:=[.Dg [.t v1]]) (aD h) (·) (s':=Au) rfl;have e4:=eQ (c0:=c0) (Df:=[.Dg [.t v1]]) (aD h) (·);f_two _,e1;f_two _,(h1 c0 lt (.Dg []) p .fn r (.HX rfl) h hl);f_two _,e3;f_two _,e4;exact Go.EM ()
theorem uG (h1:E3 t1 w v1) (h2:E3 t2 w v2) (n1:NE t1) (h:lt.F3 p=t1++ .sg Au::(t2++ .fn::r)) (hl:lt.A8<=2900):
  Ct 21 1399 [.FN 2,.t Fq,.t (.Dq w)] (`o []) (.EM (.FN 3) (Z4 c0 lt (p+t1.A8+1+t2.A8) [.Dg [.t v1,.t v2]])):=by
 refine ac (n:=20) ?_;have hp:=eJ h;obtain⟨u,r',e0,hu⟩:=n1;have hd:lt.F3 p=u::(r'++ .sg Au::(t2++ .fn::r)):=by rw[h,e0];rfl
 have hd2:=aD h;have hd3:=(au hd2).1;have hp2:=eJ hd3;have e1:=dd (c0:=c0) (Df:=[.Dg []]) hd (·);rw[hu] at e1;have e3:=dN (c0:=c0) (Df:=[.Dg [.t v1]]) hd2 (·) (s':=Au) rfl;have e5:=dO (c0:=c0) (Df:=[.Dg [.t v1,.t v2]]) (aD hd3) (·) (s':=Au) rfl;have e6:=eQ (c0:=c0) (Df:=[.Dg [.t v1,.t v2]]) (aD hd3) (·);f_two _,e1;f_two _,(h1 c0 lt (.Dg []) p _ _ (.G4 rfl) h hl);f_two _,e3;f_two _,(h2 c0 lt (.Dg [.t v1]) _ .fn r (.HX rfl) hd3 hl);f_two _,e5;f_two _,e6;exact Go.EM ()
def CI (pre word:Dr) (p:BF):T:= .LJ 694 [(`df,.Dq pre),(`dg,.Dq word),(s!"at",As p)]
def Jj (Dp:AT Tk) (pre word:Dr):Prop:=∀c0 lt r,lt=Dp++r->lt.A8<=2900->Ct 8 719 [.FN 2] (Z4 c0 lt 0 []) (.EM (.t (CI pre word 0)) (Z4 c0 lt Dp.A8 []))
theorem rc (pre word:Dr) (p p':BF) (Df:C):Cq 3 694 3 [.t (.Dq pre),.t (.Dq word),.t (As p)] (Z4 c0 lt p' [Df]) (.EM (.t (CI pre word p)) (Z4 c0 lt p' [Df])):=aN λd=>by lk
theorem q9 (pre word:Dr) (p p':BF) (x y:C):Cq 3 694 3 [.t (.Dq pre),.t (.Dq word),.t (As p)] (Z4 c0 lt p' [x,y]) (.EM (.t (CI pre word p)) (Z4 c0 lt p' [x,y])):=aN λd=>by lk
def Hu:C:= .Dg (IR [[108,111,99,107],[114,101,112],[114,101,112,101],[114,101,112,122],[114,101,112,110,101],[114,101,112,110,122]])
theorem bL {s:Dr} (hs:s=AL\/s=`dy\/s=`dz\/s=`dA\/s=A3):Jj [.na s] Ae s:=λc0 lt r h hl=>by
 refine ac (n:=7) ?_;have hd:lt.F3 0= .na s::r:=h;f_two _,(bg (c0:=c0) (Df:=[]) hd (·));f_two _,(aS (c0:=c0) (Df:=[]) hd (·));have mk:=λs=>rc (c0:=c0) (lt:=lt) Ae s 0 1 Hu;rcases hs with rfl|rfl|rfl|rfl|rfl
 .exact Go.PE _ (mk AL) () `aq
 .exact Go.PE _ (mk `dy) () `aq
 .exact Go.PE _ (mk `dz) () `aq
 .exact Go.PE _ (mk `dA) () `aq
 .exact Go.PE _ (mk A3) () `aq
theorem gL {s:Dr} (hs:s=AL\/s=`dy\/s=`dz\/s=`dA\/s=A3\/s=Ca) (cs:St):Ct 4 301 [.t (.Dq s)] cs (.EM (.t (.Dq s)) cs):=by
 rcases hs with rfl|rfl|rfl|rfl|rfl|rfl<;>exact aa λd=>by lk
theorem oW:Jj [.na Ca,.na A3] Ca A3:=λc0 lt r h hl=>by
 refine ac (n:=7) ?_;have hd:lt.F3 0= .na Ca:: .na A3::r:=h;f_two _,(bg (c0:=c0) (Df:=[]) hd (·));f_two _,(aS (c0:=c0) (Df:=[]) hd (·));f_two _,(gL (s:=Ca) (by simp) (Z4 c0 lt 1 [Hu]));f_two _,(aS (c0:=c0) (Df:=[Hu]) (au hd).1 (·));refine Go.PE _ (q9 (c0:=c0) (lt:=lt) Ca A3 0 2 Hu Hu) () ?_;exact Go.EM ()
end
def NN (s:Dr) (kinds:AT Dr) (opc esc dig sz:Dt) (wide:CV) (num:Dt) (places:AT Dr):T:= .LJ 283 [(`cC,.Dq s),(s!"kinds",.Ld (kinds.FW .Dq)),(s!"opcode",.D4 opc),(s!"escape",.D4 esc),(s!"digit",.D4 dig),(`cY,.D4 sz),(s!"must",.D4 0),(s!"is_wide",.G6 wide),(`cZ,.D4 num),(`bV,.Ld (places.FW .Dq))]
def XK (z:Sz):Dr:=match z with| .b=>J1| .w=>J0| .d=>s!"rm32"| .q=>JZ
def Z5 (z:Sz):Dr:=match z with| .b=>J4| .w=>s!"r16"| .d=>s!"r32"| .q=>s!"r64"
def DT (z:Sz) (n:Dt):T:=NN AL [XK z,Z5 z] 0 0 (-1) (CP z) Be n [s!"rm",`dx]
def DS (z:Sz) (n:Dt):T:=NN AL [Z5 z,XK z] 2 0 (-1) (CP z) Be n [`dx,s!"rm"]
def FI (z:Sz) (n:Dt):T:=NN A3 [XK z] 247 0 3 (CP z) Be n [s!"rm"]
def JA (z:Sz) (n:Dt):T:=NN `dy [Z5 z,s!"m"] 141 0 (-1) (CP z) Be n [`dx,s!"rm"]
def Jz (z:Sz) (n:Dt):T:=NN `dz [Z5 z,J1] 182 1 (-1) (CP z) Be n [`dx,s!"rm"]
def Jy (z:Sz) (n:Dt):T:=NN `dz [Z5 z,J0] 183 1 (-1) (CP z) Be n [`dx,s!"rm"]
def XW:T:=NN `dA [JZ] 255 0 4 64 Bj 18 [s!"rm"]
def XV:T:=NN `dA [s!"rel32"] 233 0 (-1) 0 Be 19 [s!"rel"]
def NO (a b:Dt):T:= .Ld [.D4 0,.D4 a,.D4 b]
def Bu:T:= .LJ 375 [
 (s!"forms",.Dg [DT .b 0,DS .b 1,FI .b 2,DT .w 3,DS .w 4,FI .w 5,DT .d 6,DS .d 7,FI .d 8,DT .q 9,DS .q 10,FI .q 11,JA .d 12,Jz .d 13,Jy .d 14,JA .q 15,Jz .q 16,Jy .q 17,XW,XV]),
 (s!"by_name",.Rv [(.Dq AL,.Dg [DT .b 0,DS .b 1,DT .w 3,DS .w 4,DT .d 6,DS .d 7,DT .q 9,DS .q 10]),(.Dq A3,.Dg [FI .b 2,FI .w 5,FI .d 8,FI .q 11]),(.Dq `dy,.Dg [JA .d 12,JA .q 15]),(.Dq `dz,.Dg [Jz .d 13,Jy .d 14,Jz .q 16,Jy .q 17]),(.Dq `dA,.Dg [XW,XV])]),
 (s!"by_code",.Rv [(NO 0 0,.Dg [DT .b 0,DT .w 3,DT .d 6,DT .q 9]),(NO 0 2,.Dg [DS .b 1,DS .w 4,DS .d 7,DS .q 10]),(NO 0 247,.Dg [FI .b 2,FI .w 5,FI .d 8,FI .q 11]),(NO 0 141,.Dg [JA .d 12,JA .q 15]),(NO 1 182,.Dg [Jz .d 13,Jz .q 16]),(NO 1 183,.Dg [Jy .d 14,Jy .q 17]),(NO 0 255,.Dg [XW]),(NO 0 233,.Dg [XV])])]
theorem vw (cs:St):Ct 8 1565 [] cs (.EM (.t Bu) cs):=aa λd=>by lk
def A5 (s:Dr) (RF:AT T) (pre:Dr):T:= .LJ 631 [(`cC,.Dq s),(s!"operands",.Ld RF),(`df,.Dq pre)]
section
variable {c0:C} {lt:AT Tk} {p:BF} {b ix:T} {sc w z:Dt} {sg n' s:Dr} {k:Dt}
def NI (t:T):Prop:=t= .Kr\/GI t
theorem NI.Dk {P:T->Prop} {t:T} (h:NI t) (h1:P .Kr) (h2:∀c fs,P (.LJ c fs)):P t:=by
 rcases h with rfl|⟨c,fs,Cs⟩
 .exact h1
 .exact h2 c fs
def Cc (z d:Dt):Dt:=if z=0 then d else z
def ZK:AT Dt:=[0,8,16,32,64,128]
def JD {α:Type} (bs is:AT T) (l:AT α):AT (T×T×Dt×α):=bs.KK λb=>is.KK λi=>ZK.KK λz=>l.FW λx=>(b,i,z,x)
def Z9 (c:BF) (fs:AT (Dr×T)):AT T:=[.Kr,.LJ c fs]
theorem c9 {α:Type} {bs is:AT T} {l:AT α} {b i:T} {z:Dt} {x:α} (hb:b∈bs) (hi:i∈is) (hz:C6 z) (hx:x∈l):(b,i,z,x)∈JD bs is l:=
 AT.Lp.Lq ⟨b,hb,AT.Lp.Lq ⟨i,hi,AT.Lp.Lq ⟨z,by rcases hz with rfl|rfl|rfl|rfl|rfl|rfl<;>decide,AT.KY.Lq ⟨x,hx,Cs⟩⟩⟩⟩
theorem bN {b:T} (h:NI b):∃c fs,b∈Z9 c fs:=NI.Dk (P:=λb=>∃c fs,b∈Z9 c fs) h ⟨0,[],.Jn _⟩ λc fs=>⟨c,fs,.Do _ (.Jn _)⟩
section
variable {c1 c2:BF} {f1 V1:AT (Dr×T)} {d:BF}
theorem lQ:(JD (Z9 c1 f1) (Z9 c2 V1) Pr).FW (λy:T×T×Dt×Sz=>RA 9 787 [.t Bu,.t (CI Ae AL 0),.t (.Dq AL),.FN 3,.t (.D4 0),.t (.D4 0)] (`o [.Dg [.t (Ar y.1 y.2.1 sc w y.2.2.1 sg n'),.t (AG (AH s Bm k (CP y.2.2.2)))]]) d)=mp (λy=> .EM (.t (A5 AL [Ar y.1 y.2.1 sc w (Cc y.2.2.1 (CP y.2.2.2)) sg n',AG (AH s Bm k (CP y.2.2.2))] Ae)) (`o [.Dg [.t (Ar y.1 y.2.1 sc w y.2.2.1 sg n'),.t (AG (AH s Bm k (CP y.2.2.2)))]])) (JD (Z9 c1 f1) (Z9 c2 V1) Pr):=by lk
theorem lP:(JD (Z9 c1 f1) (Z9 c2 V1) Pr).FW (λy:T×T×Dt×Sz=>RA 9 787 [.t Bu,.t (CI Ae AL 0),.t (.Dq AL),.FN 3,.t (.D4 0),.t (.D4 0)] (`o [.Dg [.t (AG (AH s Bm k (CP y.2.2.2))),.t (Ar y.1 y.2.1 sc w y.2.2.1 sg n')]]) d)=mp (λy=> .EM (.t (A5 AL [AG (AH s Bm k (CP y.2.2.2)),Ar y.1 y.2.1 sc w (Cc y.2.2.1 (CP y.2.2.2)) sg n'] Ae)) (`o [.Dg [.t (AG (AH s Bm k (CP y.2.2.2))),.t (Ar y.1 y.2.1 sc w y.2.2.1 sg n')]])) (JD (Z9 c1 f1) (Z9 c2 V1) Pr):=by lk
theorem oN:(JD (Z9 c1 f1) (Z9 c2 V1) [Sz.d,.q]).FW (λy:T×T×Dt×Sz=>RA 9 787 [.t Bu,.t (CI Ae `dy 0),.t (.Dq `dy),.FN 3,.t (.D4 0),.t (.D4 0)] (`o [.Dg [.t (AG (AH s Bm k (CP y.2.2.2))),.t (Ar y.1 y.2.1 sc w y.2.2.1 sg n')]]) d)=mp (λy=> .EM (.t (A5 `dy [AG (AH s Bm k (CP y.2.2.2)),Ar y.1 y.2.1 sc w 0 sg n'] Ae)) (`o [.Dg [.t (AG (AH s Bm k (CP y.2.2.2))),.t (Ar y.1 y.2.1 sc w y.2.2.1 sg n')]])) (JD (Z9 c1 f1) (Z9 c2 V1) [Sz.d,.q]):=by lk
theorem kl:(JD (Z9 c1 f1) (Z9 c2 V1) [Sz.d,.q]).FW (λy:T×T×Dt×Sz=>RA 12 787 [.t Bu,.t (CI Ae `dz 0),.t (.Dq `dz),.FN 3,.t (.D4 0),.t (.D4 0)] (`o [.Dg [.t (AG (AH s Bm k (CP y.2.2.2))),.t (Ar y.1 y.2.1 sc w y.2.2.1 sg n')]]) d)=mp (λy=> .EM (.t (A5 `dz [AG (AH s Bm k (CP y.2.2.2)),Ar y.1 y.2.1 sc w y.2.2.1 sg n'] Ae)) (`o [.Dg [.t (AG (AH s Bm k (CP y.2.2.2))),.t (Ar y.1 y.2.1 sc w y.2.2.1 sg n')]])) (JD (Z9 c1 f1) (Z9 c2 V1) [Sz.d,.q]):=by lk
theorem oM:(JD (Z9 c1 f1) (Z9 c2 V1) [Z8 [],Z8 [108,111,99,107]]).FW (λy:T×T×Dt×Dr=>RA 12 787 [.t Bu,.t (CI y.2.2.2 A3 0),.t (.Dq A3),.FN 3,.t (.D4 0),.t (.D4 0)] (`o [.Dg [.t (Ar y.1 y.2.1 sc w y.2.2.1 sg n')]]) d)=mp (λy=> .EM (.t (A5 A3 [Ar y.1 y.2.1 sc w y.2.2.1 sg n'] y.2.2.2)) (`o [.Dg [.t (Ar y.1 y.2.1 sc w y.2.2.1 sg n')]])) (JD (Z9 c1 f1) (Z9 c2 V1) [Z8 [],Z8 [108,111,99,107]]):=by lk
theorem oO:(JD (Z9 c1 f1) (Z9 c2 V1) [LI.Qe]).FW (λy:T×T×Dt×LI=>RA 12 787 [.t Bu,.t (CI Ae `dA 0),.t (.Dq `dA),.FN 3,.t (.D4 0),.t (.D4 0)] (`o [.Dg [.t (Ar y.1 y.2.1 sc w y.2.2.1 sg n')]]) d)=mp (λy=> .EM (.t (A5 `dA [Ar y.1 y.2.1 sc w (Cc y.2.2.1 64) sg n'] Ae)) (`o [.Dg [.t (Ar y.1 y.2.1 sc w y.2.2.1 sg n')]])) (JD (Z9 c1 f1) (Z9 c2 V1) [LI.Qe]):=by lk
end
theorem tn (zz:Sz) (nb:NI b) (ni:NI ix) (hz:C6 z):Ct 9 787 [.t Bu,.t (CI Ae AL 0),.t (.Dq AL),.FN 3,.t (.D4 0),.t (.D4 0)] (`o [.Dg [.t (`i n'),.t (AG (AH s Bm k (CP zz)))]])
  (.EM (.t (A5 AL [Ar b ix sc w `ai sg n',AG `ad] Ae)) (`o [.Dg [.t (`i n'),.t (AG `ad)]])):=by
 obtain⟨c1,f1,hb⟩:=bN nb;obtain⟨c2,V1,hi⟩:=bN ni;exact aa λd=>aY lQ (b,ix,z,zz) (c9 hb hi hz (i7 zz))
theorem tm (zz:Sz) (nb:NI b) (ni:NI ix) (hz:C6 z):Ct 9 787 [.t Bu,.t (CI Ae AL 0),.t (.Dq AL),.FN 3,.t (.D4 0),.t (.D4 0)] (`o [.Dg [.t (AG (AH s Bm k (CP zz))),.t (`i n')]])
  (.EM (.t (A5 AL [AG `ad,Ar b ix sc w `ai sg n'] Ae)) (`o [.Dg [.t (AG `ad),.t (`i n')]])):=by
 obtain⟨c1,f1,hb⟩:=bN nb;obtain⟨c2,V1,hi⟩:=bN ni;exact aa λd=>aY lP (b,ix,z,zz) (c9 hb hi hz (i7 zz))
theorem we {zz:Sz} (nb:NI b) (ni:NI ix) (hzz:zz= .d\/zz= .q) (hz:C6 z):Ct 9 787 [.t Bu,.t (CI Ae `dy 0),.t (.Dq `dy),.FN 3,.t (.D4 0),.t (.D4 0)] (`o [.Dg [.t (AG (AH s Bm k (CP zz))),.t (`i n')]])
  (.EM (.t (A5 `dy [AG `ad,Ar b ix sc w 0 sg n'] Ae)) (`o [.Dg [.t (AG `ad),.t (`i n')]])):=by
 obtain⟨c1,f1,hb⟩:=bN nb;obtain⟨c2,V1,hi⟩:=bN ni;exact aa λd=>aY oN (b,ix,z,zz) (c9 hb hi hz (hzz.Dk (λe=>e▸.Jn _) λe=>e▸.Do _ (.Jn _)))
theorem pu {zz:Sz} (nb:NI b) (ni:NI ix) (hzz:zz= .d\/zz= .q) (hz:C6 z):Ct 12 787 [.t Bu,.t (CI Ae `dz 0),.t (.Dq `dz),.FN 3,.t (.D4 0),.t (.D4 0)] (`o [.Dg [.t (AG (AH s Bm k (CP zz))),.t (`i n')]])
  (.EM (.t (A5 `dz [AG `ad,`i n'] Ae)) (`o [.Dg [.t (AG `ad),.t (`i n')]])):=by
 obtain⟨c1,f1,hb⟩:=bN nb;obtain⟨c2,V1,hi⟩:=bN ni;exact aa λd=>aY kl (b,ix,z,zz) (c9 hb hi hz (hzz.Dk (λe=>e▸.Jn _) λe=>e▸.Do _ (.Jn _)))
theorem wc {pre:Dr} (nb:NI b) (ni:NI ix) (Sa:pre=Ae\/pre=Ca) (hz:C6 z):Ct 12 787 [.t Bu,.t (CI pre A3 0),.t (.Dq A3),.FN 3,.t (.D4 0),.t (.D4 0)] (`o [.Dg [.t (`i n')]])
  (.EM (.t (A5 A3 [`i n'] pre)) (`o [.Dg [.t (`i n')]])):=by
 obtain⟨c1,f1,hb⟩:=bN nb;obtain⟨c2,V1,hi⟩:=bN ni;exact aa λd=>aY oM (b,ix,z,pre) (c9 hb hi hz (Sa.Dk (λe=>e▸.Jn _) λe=>e▸.Do _ (.Jn _)))
theorem wf (nb:NI b) (ni:NI ix) (hz:C6 z):Ct 12 787 [.t Bu,.t (CI Ae `dA 0),.t (.Dq `dA),.FN 3,.t (.D4 0),.t (.D4 0)] (`o [.Dg [.t (`i n')]])
  (.EM (.t (A5 `dA [Ar b ix sc w (Cc z 64) sg n'] Ae)) (`o [.Dg [.t (`i n')]])):=by
 obtain⟨c1,f1,hb⟩:=bN nb;obtain⟨c2,V1,hi⟩:=bN ni;exact aa λd=>aY oO (b,ix,z,LI.Qe) (c9 hb hi hz (.Jn _))
theorem nz (v:Dt) (nm':Dr):Ct 12 787 [.t Bu,.t (CI Ae AL 0),.t (.Dq AL),.FN 3,.t (.D4 0),.t (.D4 0)] (`o [.Dg [.t (AG (AJ .q 0)),.t (CM v nm')]])
  (.EM (.t (A5 AL [AG (AJ .q 0),CM v nm'] Ae)) (`o [.Dg [.t (AG (AJ .q 0)),.t (CM v nm')]])):=aa λd=>by lk
end
def DU (Dp:AT Tk) (v:T):Prop:=∀c0,Ct 22 1406 [.t Bu,.FN 2,.t Fq] (Z4 c0 (Dp++[.fn]) 0 []) (.EM (.t v) (Z4 c0 (Dp++[.fn]) Dp.A8 []))
theorem kh {hd t1:AT Tk} {pre wd:Dr} {v1 v:T} (H:Jj hd pre wd) (hw:wd=AL\/wd=`dy\/wd=`dz\/wd=`dA\/wd=A3\/wd=Ca) (h1:E3 t1 wd v1) (n1:NE t1)
  (hc:∀c0 lt p,Ct 12 787 [.t Bu,.t (CI pre wd 0),.t (.Dq wd),.FN 3,.t (.D4 0),.t (.D4 0)] (`o [.Dg [.t v1]]) (.EM (.t v) (`o [.Dg [.t v1]]))) (hl:(hd++t1).A8<=2800):DU (hd++t1) v:=λc0=>by
 refine ac (n:=21) ?_;have hl2:((hd++t1)++[.fn]:AT Tk).A8<=2900:=by rw[AT.DE];simp only[AT.DW,AT.KC];omega
 have e1:=H c0 (hd++t1++[.fn]) (t1++[.fn]) (by rw[AT.F7]) hl2;have e2:=uH (c0:=c0) (lt:=hd++t1++[.fn]) (p:=hd.A8) (r:=[]) h1 n1 (by rw[AT.F7,AT.drop_left]) hl2;rw[AT.DE];have e3:=λcs=>gL hw cs;rcases hw with rfl|rfl|rfl|rfl|rfl|rfl
 all_goals
  f_two _,e1;f_two _,e2;f_two (Z4 c0 (hd++t1++[.fn]) (hd.A8+t1.A8) [.Dg [.t v1]]),(e3 _);f_two _,(hc c0 (hd++t1++[.fn]) (hd.A8+t1.A8));exact Go.EM ()
theorem cb {hd t1 t2:AT Tk} {pre wd:Dr} {v1 v2 v:T} (H:Jj hd pre wd) (hw:wd=AL\/wd=`dy\/wd=`dz\/wd=`dA\/wd=A3\/wd=Ca) (h1:E3 t1 wd v1) (h2:E3 t2 wd v2) (n1:NE t1)
  (hc:∀c0 lt p,Ct 12 787 [.t Bu,.t (CI pre wd 0),.t (.Dq wd),.FN 3,.t (.D4 0),.t (.D4 0)] (`o [.Dg [.t v1,.t v2]]) (.EM (.t v) (`o [.Dg [.t v1,.t v2]]))) (hl:(hd++(t1++ .sg Au::t2)).A8<=2800):DU (hd++(t1++ .sg Au::t2)) v:=λc0=>by
 refine ac (n:=21) ?_;have hl2:((hd++(t1++ .sg Au::t2))++[.fn]:AT Tk).A8<=2900:=by rw[AT.DE];simp only[AT.DW,AT.KC];omega
 have e1:=H c0 (hd++(t1++ .sg Au::t2)++[.fn]) ((t1++ .sg Au::t2)++[.fn]) (by rw[AT.F7]) hl2;have e2:=uG (c0:=c0) (lt:=hd++(t1++ .sg Au::t2)++[.fn]) (p:=hd.A8) (r:=[]) h1 h2 n1 (by rw[AT.F7,AT.drop_left,AT.F7];rfl) hl2;rw[show(hd++(t1++ .sg Au::t2)).A8=hd.A8+t1.A8+1+t2.A8 by simp only[AT.DE,AT.DW];omega];have e3:=λcs=>gL hw cs;rcases hw with rfl|rfl|rfl|rfl|rfl|rfl
 all_goals
  f_two _,e1;f_two _,e2;f_two (Z4 c0 (hd++(t1++ .sg Au::t2)++[.fn]) (hd.A8+t1.A8+1+t2.A8) [.Dg [.t v1,.t v2]]),(e3 _);f_two _,(hc c0 (hd++(t1++ .sg Au::t2)++[.fn]) (hd.A8+t1.A8+1+t2.A8));exact Go.EM ()
def Aw (t:Tk):T:= .Ld [.Dq (Dl t),Ea t]
def XF:BF->AT Tk->AT T
 |_,[]=>[]
 |i,t::r=>Du t i::XF (i+1) r
theorem mx:∀(i:BF) (l:AT Tk),BS i l=ZW (XF i l)
 |_,[]=>rfl
 |i,t::r=>FY (_:: ·) (mx (i+1) r)
theorem eu (i:BF) (l:AT Tk) (t:Tk):BS i (l++[t])=BS i l++[.t (Du t (i+l.A8))]:=by
 induction l generalizing i with
 |HU=>rfl
 |Dc a l ih=>exact FY (_:: ·) ((ih (i+1)).CX (by rw[BF.RZ];rfl))
theorem qW (l:AT Tk) (j:BF) {t:Tk} {r:AT Tk} (h:l.F3 j=t::r):J7 (ZW (l.FW Aw)) j=A9 (.t (Aw t)):=by rw[eG,h];rfl
theorem ot (l:AT Tk) (j:BF) (h:l.F3 j=[]):J7 (ZW (l.FW Aw)) j=BH:=by rw[eG,h];rfl
def Zy (cs:St):KN:=λ_ _=> .EM (.t .Kr) cs
def Fv (cs:St):KV:=λv G1=>AA (FF 0 v G1) 172 λp=>Mi p cs .EM
def Gp (cs:St):KX:=λc w a _=>match w,a with
 | .t _,.t _=> .Oj c w a cs
 |_,_=> .D9 173
def D3 (f i m:BF) (CL:Ag) (Pp cs:St):An:=(`p m).ex ⟨Cv f,0,Bj⟩ (Cu f i) CL cs (Zy Pp) (Fv Pp) `aH
def Di (f i:BF):Ez×AT IQ:=((Cu f i).head?.G3 λs=>Dw s.E5 9 λh=>IQ.For.Dk s h λt _ b _ _=>A9 (t,b)).RT (.KP .BH 0 default,[])
section
variable (ts:AT T) (Pp:St)
def TL (m j:BF) (CL:Ag) (Ow:AT V):An:=(`p m).fo ⟨Cv 1642,0,Bj⟩ (Di 1642 1).1 (Di 1642 1).2 (.t (.Dg ts)) j CL [.Dg Ow] (λCL cs=>D3 1642 2 398 CL Pp cs) (Fv Pp) `aH
def TB (m j:BF) (v:V) (CL:Ag) (Ow:AT V):An:=Ii ⟨Cv 1642,0,Bj⟩ (Di 1642 1).1 v CL [.Dg Ow] λBO G1=>(`p m).ex ⟨Cv 1642,0,Bj⟩ (Di 1642 1).2 BO G1
 (λenv2 KM=>(`p m).fo ⟨Cv 1642,0,Bj⟩ (Di 1642 1).1 (Di 1642 1).2 (.t (.Dg ts)) (j+1) env2 KM (λCL cs=>D3 1642 2 398 CL Pp cs) (Fv Pp) `aH) (Fv Pp) `aH
def TT (tok3:AT V) (Ow:AT V) (κ:St->An):An:= .PE 45 0 [.t (.D4 1),.t (.D4 ((Ow.A8:Dt)+1))] [.Dg Ow]
 (λpl cs=> .PE 1444 0 (tok3++[pl]) cs (λtok KM=>AA (AX KM (.FN 0)) 56 λl=>Mh 0 (.FN 0) l .Le [tok] KM (λ_ Se=>κ Se)) `aH) `aH
end
section
variable {ts:AT T} {Pp:St} {Ow:AT V} {CL:Ag}
theorem wK (m j:BF):TL ts Pp (m+20) j CL Ow=match J7 (ZW ts) j with
  |BH=>D3 1642 2 398 CL Pp [.Dg Ow]
  |A9 v=>TB ts Pp (m+19) j v CL Ow:=by lk
def EZ:Tk->Prop
 | .nu n=>n.J3<10^300
 |_=>True
def GJ (ts:AT T) (Do:Ag):Ag:=(A0,.t (.Dg ts))::(s!"found",.FN 0)::Do
def X3 (Do:Ag):Prop:=Do=[]\/∃x y,Do=[(`da,x),(`db,y)]
theorem zn (m j:BF) {t:Tk} (ht:EZ t) (hf:t≠.fn) {Do:Ag} (htl:X3 Do) (hl:Ow.A8<=4000):
  TB ts Pp (m+19) j (.t (Aw t)) (GJ ts Do) Ow=TT Pp [.t (.Dq (Dl t)),.t (.Dq (Hp t)),.t (Ea t)] Ow λcs=>(`p (m+19)).fo ⟨Cv 1642,0,Bj⟩ (Di 1642 1).1 (Di 1642 1).2 (.t (.Dg ts)) (j+1) (GJ ts [(`da,.t (.Dq (Dl t))),(`db,.t (Ea t))]) cs (λCL cs=>D3 1642 2 398 CL Pp cs) (Fv Pp) `aH:=by
 cases t with
 |fn=>exact Ks rfl hf
 |sg s=>
  refine Eq.CX (show _=br (BF.Ls Ow.A8 Af) (TT Pp [.t (.Dq (Dl (.sg s))),.t (.Dq s),.t (.Dq s)] Ow λcs=>(`p (m+19)).fo ⟨Cv 1642,0,Bj⟩ (Di 1642 1).1 (Di 1642 1).2 (.t (.Dg ts)) (j+1) (GJ ts [(`da,.t (.Dq (Dl (.sg s)))),(`db,.t (.Dq s))]) cs (λCL cs=>D3 1642 2 398 CL Pp cs) (Fv Pp) `aH) (.D9 9) by
   apply gS htl<;>intros<;>lk) (aJ (aK hl))
 |na s=>
  refine Eq.CX (show _=br (BF.Ls Ow.A8 Af) (TT Pp [.t (.Dq (Dl (.na s))),.t (.Dq s),.t (.Dq s)] Ow λcs=>(`p (m+19)).fo ⟨Cv 1642,0,Bj⟩ (Di 1642 1).1 (Di 1642 1).2 (.t (.Dg ts)) (j+1) (GJ ts [(`da,.t (.Dq (Dl (.na s)))),(`db,.t (.Dq s))]) cs (λCL cs=>D3 1642 2 398 CL Pp cs) (Fv Pp) `aH) (.D9 9) by
   apply gS htl<;>intros<;>lk) (aJ (aK hl))
 |nu n=>
  refine Eq.CX (show _=br (BF.blt n.J3 (10^300)) (br (BF.Ls Ow.A8 Af) (TT Pp [.t (.Dq (Dl (.nu n))),.t (.Dq (Ij n)),.t (.D4 n)] Ow λcs=>(`p (m+19)).fo ⟨Cv 1642,0,Bj⟩ (Di 1642 1).1 (Di 1642 1).2 (.t (.Dg ts)) (j+1) (GJ ts [(`da,.t (.Dq (Dl (.nu n)))),(`db,.t (.D4 n))]) cs (λCL cs=>D3 1642 2 398 CL Pp cs) (Fv Pp) `aH) (.D9 9)) (.D9 13) by
   apply gS htl<;>intros<;>lk) ?_
  rw[aJ (show BF.blt n.J3 (10^300)=Bj from BF.Lx.Lq ht),aJ (aK hl)];rfl
theorem q8 (x:C) (n:BF):Cq 2 45 0 [.t (.D4 1),.t (.D4 ((n:Dt)+1))] [x] (.EM (.t (As n)) [x]):=aN λd=>by lk
theorem q7 (x:C) (t:Tk) (n:BF):Cq 2 1444 0 [.t (.Dq (Dl t)),.t (.Dq (Hp t)),.t (Ea t),.t (As n)] [x] (.EM (.t (Du t n)) [x]):=aN λd=>by lk
theorem wJ (t:Tk) (κ:St->An) {B:An} (hl:Ow.A8<=4000) (g:Go 2 (κ [.Dg (Ow++[.t (Du t Ow.A8)])]) B):Go 2 (TT Pp [.t (.Dq (Dl t)),.t (.Dq (Hp t)),.t (Ea t)] Ow κ) B:=by
 refine Go.PE _ (q8 (.Dg Ow) Ow.A8) rfl ?_;refine Go.PE _ (q7 (.Dg Ow) t Ow.A8) rfl ?_;refine Go.eq (show _=br (BF.Ls Ow.A8 Af) (κ [.Dg (Ow++[.t (Du t Ow.A8)])]) (.D9 34) by lk) ?_;rw[aJ (aK hl)];exact g
theorem JS {α β:Type} {f:St->α->Bq (β×St)} {cs:St} {a:α} {l:AT α} {p:β×St} {q:AT β×St} (h:f cs a=A9 p) (h2:AU f p.2 l=A9 q):AU f cs (a::l)=A9 (p.1::q.1,q.2):=by
 show((f cs a).G3 λp=>(AU f p.2 l).G3 λq=>A9 (p.1::q.1,q.2))=_
 rw[h]
 show((AU f p.2 l).G3 λq=>A9 (p.1::q.1,q.2))=_
 rw[h2];rfl
theorem Rm {α β:Type} {f:St->α->Bq (β×St)} {cs:St}:AU f cs []=A9 ([],cs):=rfl
theorem m7 (l:AT T) (cs:St) (n:BF):AU (WC n) cs (ZW l)=A9 (l,cs):=by
 induction l with
 |HU=>rfl
 |Dc t l ih=>exact JS (show WC n cs (.t t)=A9 (t,cs) by cases n<;>rfl) ih
theorem wD (l:AT T):EI (ZW l)=A9 l:=by
 induction l with
 |HU=>rfl
 |Dc t l ih=>
  show((EI (ZW l)).G3 λts=>A9 (t::ts))=_
  rw[ih];rfl
theorem iR {b i:BF} {cs:St} {l:AT T} (hb:BF.Ls b i=Bj) (h:J7 cs i=A9 (.Dg (ZW l))):FF b (.FN i) cs=A9 (.FN b,cs.Gk b++[.Dg (ZW l)]):=by
 have e:EU cs i=A9 (ZW l):=by unfold EU;rw[h];rfl
 show(match BF.Ls b i with|Be=>A9 (V.FN i,cs.Gk b)|Bj=>SE b (.FN i) i cs)=_
 rw[hb];show Z7 (EU cs i) (λvs=>(AU `at cs vs).G3 λp=>(EU p.2 i).G3 λ_=>A9 (V.FN b,p.2.Gk b++[C.Dg (ZW p.1)])) _=_;rw[e]
 show((AU `at cs (ZW l)).G3 λp=>(EU p.2 i).G3 λ_=>A9 (V.FN b,p.2.Gk b++[C.Dg (ZW p.1)]))=_
 rw[m7]
 show((EU cs i).G3 λ_=>A9 (V.FN b,cs.Gk b++[C.Dg (ZW l)]))=_
 rw[e];rfl
theorem lO {cs:St} {i:BF} {l:AT T} (h:J7 cs i=A9 (.Dg (ZW l))) (Pp:St):Fv Pp (.FN i) cs= .EM (.FN Pp.A8) (Pp++[.Dg (ZW l)]):=by
 show AA (FF 0 (.FN i) cs) 172 (λp=>Mi p Pp .EM)=_;rw[iR (b:=0) rfl h]
 show(match EI (ZW l) with|A9 ts=>An.EM (.FN Pp.A8) (Pp++[C.Dg `aB])|BH=> .D9 174)=_
 rw[wD]
theorem vq (l:AT T) (Pp:St):Fv Pp (.FN 0) [.Dg (ZW l)]= .EM (.FN Pp.A8) (Pp++[.Dg (ZW l)]):=lO (cs:=[.Dg (ZW l)]) rfl Pp
theorem zm (KG:AT Tk) (ok:∀t∈KG,EZ t/\t≠.fn) (hr:KG.A8<=3000) (hts:ts=KG.FW Aw) {B:An} (k:∀Do,X3 Do->Go 2 (D3 1642 2 398 (GJ ts Do) Pp [.Dg (BS 0 KG)]) B) (l:AT Tk):
  ∀(m j:BF) (Do:Ag),X3 Do->KG.F3 j=l->j+l.A8=KG.A8->Go 2 (TL ts Pp (m+l.A8+20) j (GJ ts Do) (BS 0 (KG.Gk j))) B:=by
 induction l with
 |HU=>
  intro m j Do ht hd hj;rw[show m+([]:AT Tk).A8+20=m+20 from rfl,wK,hts,ot KG j hd]
  have:KG.Gk j=KG:=AT.N7 (by simp at hj;omega)
  rw[F4,<-hts];exact k Do ht
 |Dc t l ih=>
  intro m j Do ht hd hj;rw[AT.DW] at hj⊢;have hm:t∈KG:=AT.QP (i:=j) (by rw[hd];exact AT.KS);have hl:(BS 0 (KG.Gk j)).A8=j:=by rw[b5,AT.Ok];omega
  rw[show m+(l.A8+1)+20=m+l.A8+1+20 by omega,wK,hts,qW KG j hd,<-hts];show Go 2 (TB ts Pp (m+l.A8+1+19) j (.t (Aw t)) (GJ ts Do) (BS 0 (KG.Gk j))) B;rw[zn _ _ (ok t hm).1 (ok t hm).2 ht (·)];refine wJ t _ (·) ?_;have e:BS 0 (KG.Gk j)++[.t (Du t (BS 0 (KG.Gk j)).A8)]=BS 0 (KG.Gk (j+1)):=by
   have h2:KG.Gk (j+1)=KG.Gk j++[t]:=by
    rw[AT.take_succ]
    have:KG[j]?=A9 t:=by
     have:=FY AT.head? hd
     rw[AT.head?_drop] at F4;exact F4
    rw[F4];rfl
   rw[h2,eu,hl,AT.Ok,BF.Qh (·),BF.PX]
  rw[e]
  have:=ih m (j+1) [(`da,.t (.Dq (Dl t))),(`db,.t (Ea t))] (.G4 ⟨_,_,Cs⟩) (au hd).1 (·)
  rw[show m+l.A8+20=m+l.A8+1+19 by omega] at F4;exact F4
theorem hJ (KG:AT Tk) (ok:∀t∈KG,EZ t/\t≠.fn) (hr:KG.A8<=350) (cs:St):Ct 3 1642 [.t (.Dg (KG.FW Aw))] cs (.EM (.FN cs.A8) (cs++[.Dg (BS 0 (KG++[.fn]))])):=by
 refine ac (n:=2) (Go.eq (show _=TL (KG.FW Aw) cs 398 0 (GJ (KG.FW Aw) []) [] by lk) ?_);obtain⟨m,em⟩:∃m,398=m+KG.A8+20:=⟨378 - KG.A8,fz (a:=378) (k:=20) (·)⟩;rw[em];refine zm KG ok (·) rfl (λDo ht=> ?_) KG m 0 [] (.HX rfl) rfl (·);refine Go.eq (show _=br (BF.Ls (BS 0 KG).A8 Af) (TT cs [.t (.Dq (Dl .fn)),.t (.Dq (Hp .fn)),.t (Ea .fn)] (BS 0 KG) λKg=>D3 1642 3 397 (GJ (KG.FW Aw) Do) cs Kg) (.D9 9) by apply gS ht<;>intros<;>lk) ?_;rw[aJ (aK (by rw[b5];omega))];refine wJ .fn _ (by rw[b5];omega) ?_;rw[eu,b5,BF.PX];refine Go.eq (show _=Fv cs (.FN 0) [.Dg (BS 0 KG++[.t (Du .fn KG.A8)])] by apply gS ht<;>intros<;>lk) ?_
 have e:BS 0 KG++[.t (Du .fn KG.A8)]=ZW (XF 0 (KG++[.fn])):=by rw[<-mx,eu,BF.PX]
 rw[e,vq];exact Go.EM rfl
end
def YY:AT (T×T):=[(.Dq s!"k",P3 37 Ae Ae),(.Dq s!"m",P3 (-11) Ae Ae),(.Dq `ds,P3 4 Ai Ae)]
def NM:C:= .fz (.Rv YY)
theorem mR (b:BF) (cs:St):Cq 1 1040 b [.t (.D4 4),.t (.Dq Ai)] cs (.EM (.t (P3 4 Ai Ae)) cs):=
 eM (n:=0) (Go.EM (by
  refine Eq.CX (show _=Gy cs.A8 cs.A8 [(`db,.D4 4),(`dj,.Dq Ai),(`dk,.Dq Ae)] (cs++[.LJ 1040 []]) λG1=>HA G1 cs.A8 by lk) ?_;rw[cW _ 1040 _ _ _ _ _ _ (),cW _ 1040 _ _ _ _ _ _ (),cW _ 1040 _ _ _ _ _ _ ()];exact dg cs 1040 _ _ ()))
theorem j4:Cq 2 1088 0 [.FN 0] [.Rv (YY.FW λp=>(p.1,.t p.2))] (.EM (.t Fq) [NM]):=aN λd=>by lk
theorem ik (c0:C) (lt:AT Tk):Cq 2 1542 0 [.FN 1] [c0,.Dg (BS 0 lt)] (.EM (.FN 2) (Z4 c0 lt 0 [])):=aN λd=>by lk
def Gz (Dp:AT Tk):Prop:=(∀t∈Dp,EZ t/\t≠.fn)/\Dp.A8<=350
def MJ (Dp:AT Tk) (c:BF):Prop:=∀c0,∃w a Kg,Ct 22 1406 [.t Bu,.FN 2,.t Fq] (Z4 c0 (Dp++[.fn]) 0 []) (.Oj c (.t w) (.t a) Kg)
section
variable {Dp:AT Tk} {cs:St}
theorem gv (h:Gz Dp) {s pre:Dr} {RF:AT T} {tt:T} (L:DU Dp (A5 s RF pre)) (ht:∀cs,Ct 8 602 [.t (A5 s RF pre)] cs (.EM (.t tt) cs)) (cs:St):
  Ct 24 1649 [.t Bu,.t (.Dg (Dp.FW Aw))] cs (.EM (.t (.Ld [.Dq `dB,tt])) cs):=by
 refine ac (n:=23) ?_;refine Go.PE [] (cE 0 37 _) () ?_;refine Go.PE [] (cE 0 (-11) _) () ?_;refine Go.PE [] (mR 0 _) () ?_;refine Go.PE _ j4 () ?_;f_two [NM],(hJ Dp h.1 h.2 _);refine Go.PE _ (ik NM (Dp++[.fn])) () ?_;f_two _,(L NM);f_two (Z4 NM (Dp++[.fn]) Dp.A8 []),(ht _);exact Go.EM ()
theorem oV (h:Gz Dp) {c:BF} {e:Dr} (hc:(c=87/\e=`aQ)\/((c=99\/c=99+Em)/\e=`aR)\/(c=111/\e=`aS)) (L:MJ Dp c) (cs:St):
  Ct 24 1649 [.t Bu,.t (.Dg (Dp.FW Aw))] cs (.EM (.t (.Ld [.Dq s!"refused",.Dq e])) cs):=by
 obtain⟨w,a,Kg,L⟩:=L NM;refine ac (n:=23) ?_;refine Go.PE [] (cE 0 37 _) () ?_;refine Go.PE [] (cE 0 (-11) _) () ?_;refine Go.PE [] (mR 0 _) () ?_;refine Go.PE _ j4 () ?_;f_two [NM],(hJ Dp h.1 h.2 _);refine Go.PE _ (ik NM (Dp++[.fn])) () ?_;refine aL _ L () ?_;rcases hc with⟨Cs,Cs⟩|⟨Cs|rfl,Cs⟩|⟨Cs,Cs⟩<;>exact Go.EM ()
end
theorem qw (s:Dr):KH s s=Bj:=aB.Lq rfl
def Rf (n:BF) (t:T):Prop:=GV n t t=A9 Bj
theorem dv (n:BF) (s:Dr):Rf (n+1) (.Dq s):=by show A9 (KH s s)=A9 Bj;rw[qw]
theorem qB (n:BF) (i:Dt):Rf (n+1) (.D4 i):=by show A9 (decide (i=i))=A9 Bj;rw[GO rfl]
theorem xH (n:BF) (l:AT T):(∀t∈l,Rf n t)->FB (GV n) l l=A9 Bj:=by
 induction l with
 |HU=>exactλ_=>rfl
 |Dc t l ih=>
  intro h
  show((GV n t t).G3 λx=>(FB (GV n) l l).G3 λy=>A9 (x&&y))=_
  rw[show GV n t t=A9 Bj from h t AT.KS,ih λu hu=>h u `ab];rfl
theorem eE (n:BF) {l:AT T} (h:∀t∈l,Rf n t):Rf (n+1) (.Ld l):=xH n l h
def XN:T->Dr
 | .LJ _ ((_,.Dq s)::_)=>s
 |_=>Ae
def GL (b:T):Prop:=b= .Kr\/∃s kd k z,b=AH s kd k z
def I4 (b ix:T) (sc w z:Dt) (sg n':Dr):T:= .Ld [.Dq `dw,.Dq (XN b),.Dq (XN ix),.D4 sc,.D4 w,.D4 z,.Dq sg,.Dq n']
def I0 (v:T):T:= .Ld [.Dq `dx,.Dq (XN v)]
def NK (v:Dt) (s:Dr):T:= .Ld [.Dq s!"imm",.D4 v,.Dq s]
theorem ls (n:BF) (b ix:T) (sc w z:Dt) (sg n':Dr):Rf (n+2) (I4 b ix sc w z sg n'):=eE _ λt ht=>by
 simp only[AT.GZ,AT.Ol,QL] at ht;rcases ht with rfl|rfl|rfl|rfl|rfl|rfl|rfl|rfl<;>first|exact dv _ _|exact qB _ _
theorem lq (n:BF) (v:T):Rf (n+2) (I0 v):=eE _ λt ht=>by
 simp only[AT.GZ,AT.Ol,QL] at ht;rcases ht with rfl|rfl<;>exact dv _ _
theorem xG (n:BF) (v:Dt) (s:Dr):Rf (n+2) (NK v s):=eE _ λt ht=>by
 simp only[AT.GZ,AT.Ol,QL] at ht;rcases ht with rfl|rfl|rfl<;>first|exact dv _ _|exact qB _ _
def Ss (s pre:Dr) (l:AT T):T:= .Ld [.Dq s,.Dq pre,.Ld l]
theorem mF (s pre:Dr) {l:AT T} (h:∀t∈l,Rf 5 t):Rf 7 (Ss s pre l):=eE 6 λt ht=>by
 simp only[AT.GZ,AT.Ol,QL] at ht;rcases ht with rfl|rfl|rfl
 .exact dv _ _
 .exact dv _ _
 .exact eE 5 h
def IG (s:Dr) (RF:AT T) (pre:Dr):Prop:=∃tt,(∀cs,Ct 8 602 [.t (A5 s RF pre)] cs (.EM (.t tt) cs))/\Rf 7 tt
section
variable {b ix v:T} {sc w z:Dt} {sg n' s pre:Dr}
theorem qa (hb:GL b) (hi:GL ix):IG s [`i n'] pre:=by
 refine⟨Ss s pre [I4 b ix sc w z sg n'],λcs=> ?_,mF _ _ λt ht=>by simp only[AT.GZ,AT.Ol,QL] at ht;subst ht;exact ls 3 ..⟩;rcases hb with rfl|⟨s1,k1,i1,ZT,Cs⟩<;>rcases hi with rfl|⟨s2,k2,i2,ZS,Cs⟩<;>exact aa λd=>by lk
theorem ua (hb:GL b) (hi:GL ix) (s0 k0:Dr) (i0 ZU:Dt):IG s [`i n',AG (AH s0 k0 i0 ZU)] pre:=by
 refine⟨Ss s pre [I4 b ix sc w z sg n',I0 (AH s0 k0 i0 ZU)],λcs=> ?_,mF _ _ λt ht=>by simp only[AT.GZ,AT.Ol,QL] at ht;rcases ht with rfl|rfl;exact ls 3 ..;exact lq 3 _⟩;rcases hb with rfl|⟨s1,k1,i1,ZT,Cs⟩<;>rcases hi with rfl|⟨s2,k2,i2,ZS,Cs⟩<;>exact aa λd=>by lk
theorem iG (hb:GL b) (hi:GL ix) (s0 k0:Dr) (i0 ZU:Dt):IG s [AG (AH s0 k0 i0 ZU),`i n'] pre:=by
 refine⟨Ss s pre [I0 (AH s0 k0 i0 ZU),I4 b ix sc w z sg n'],λcs=> ?_,mF _ _ λt ht=>by simp only[AT.GZ,AT.Ol,QL] at ht;rcases ht with rfl|rfl;exact lq 3 _;exact ls 3 ..⟩;rcases hb with rfl|⟨s1,k1,i1,ZT,Cs⟩<;>rcases hi with rfl|⟨s2,k2,i2,ZS,Cs⟩<;>exact aa λd=>by lk
theorem mw (s0 k0:Dr) (i0 ZU v:Dt):IG s [AG (AH s0 k0 i0 ZU),CM v n'] pre:=by
 refine⟨Ss s pre [I0 (AH s0 k0 i0 ZU),NK v n'],λcs=>aa λd=>by lk,mF _ _ λt ht=>by simp only[AT.GZ,AT.Ol,QL] at ht;rcases ht with rfl|rfl;exact lq 3 _;exact xG 3 _ _⟩
end
def EV (J2:AT T) (g st pl:Dt):C:= .Dg [.t (.Dg J2),.t (.D4 g),.t (.D4 st),.t (.D4 pl)]
def AR (k:BF) (c:C):Prop:=∃(ns:AT Dt) (g st pl:Dt),c=EV (ns.FW .D4) g st pl/\ns.A8<=48/\0<=g/\0<=st/\st<2147483647/\0<=pl/\pl<=k
theorem AR.Ey {k l:BF} {c:C} (h:AR k c) (le:k<=l):AR l c:=by
 obtain⟨ns,g,st,pl,h1,h2,h3,h4,h5,h6,h7⟩:=h;exact⟨ns,g,st,pl,h1,h2,h3,h4,h5,h6,(·)⟩
def IT (st pl:Dt):Dt:=(st*16807+pl*pl+31).Qr 2147483647
theorem qY (ns:AT Dt) (j:BF) (h:j<ns.A8):∃n,J7 (ZW (ns.FW .D4)) j=A9 (.t (.D4 n)):=⟨ns[j],by rw[eG,AT.drop_eq_getElem_cons h];rfl⟩
theorem gA {x:Dt} (h1:0<=x) (h2:x<18446744073709551616):B9 x=Bj:=lV (Dt.ofNat_lt.mp (Dt.N4 (Dt.QK (Dt.natAbs_of_nonneg h1)) h2))
theorem iE (l:AT T):(ZW l).A8=l.A8:=AT.Lc ..
theorem nj (J2:AT T) (g st pl L:Dt) (Df:St):R 1558 [.FN 0,.t (.D4 L)] (EV J2 g st pl::Df)=
  br (CQ 0 g) (br (CQ 0 L) (br (CQ 0 L&&B9 L) (.EM (.t (.D4 (g.Qr L))) (EV J2 (g.Xp L) st (pl+1)::Df.Gk Df.A8)) (.D9 85)) (.D9 85))
   (br (B9 st) (br (B9 pl) (br (BF.Ls (ZW J2).A8 Af) (br (CQ pl ((ZW J2).A8:BF))
    (br (CF pl 5000&&CF (-5000) pl) (AA (EG (ZW J2).A8 pl) 65 λj=>AA (J7 (ZW J2) j) 66 λv=>FJ .Mod v (.t (.D4 L)) (EV J2 g `aC (pl+1)::Df) λz cs=>Er cs (Df.A8+1) z) (.D9 45))
    (br (B9 ((IT st pl).Xp 3)) (br (CQ 0 L) (.EM (.t (.D4 (((IT st pl).Xp 3^3).Qr L))) (EV J2 g `aC (pl+1)::Df.Gk Df.A8)) (.D9 85)) (.D9 85))) (.D9 9)) (.D9 85)) (.D9 85)):=by lk
theorem ay {k:BF} {c:C} (hg:AR k c) (hk:k<=4000) {L:Dt} (hL:0<L) (hf:L<=4611686018427387904):
  ∃(d:BF) (c':C),(d:Dt)<L/\AR (k+1) c'/\∀Df,Ct 1 1558 [.FN 0,.t (.D4 L)] (c::Df) (.EM (.t (.D4 d)) (c'::Df)):=by
 obtain⟨ns,g,st,pl,Cs,h2,h3,h4,h5,h6,h7⟩:=hg;have md:∀x:Dt,∃d:BF,x.Qr L=d/\(d:Dt)<L:=λx=>have e:=Dt.toNat_of_nonneg (Dt.QZ x hL);⟨(x.Qr L).LU,e.Hl,Dt.N4 (Dt.QK e) (Dt.fmod_lt_of_pos x hL)⟩;have s1:0<=IT st pl:=Dt.QZ _ (by decide);have s2:IT st pl<2147483647:=Dt.fmod_lt_of_pos _ (by decide);have hLL:CQ 0 L=Bj:=GO hL;have EM:∀(x:Dt) (d:BF) (c':C),x.Qr L=d->(∀Df,R 1558 [.FN 0,.t (.D4 L)] (EV (ns.FW .D4) g st pl::Df)= .EM (.t (.D4 (x.Qr L))) (c'::Df.Gk Df.A8))->
   ∀Df,Ct 1 1558 [.FN 0,.t (.D4 L)] (EV (ns.FW .D4) g st pl::Df) (.EM (.t (.D4 d)) (c'::Df)):=λx d c' e h Df=>by
  have q:=h Df;rw[e,AT.Q5] at q;exact ac (n:=0) (Go.EM q)
 by_cases hg:0<g
 .obtain⟨d,e,hd⟩:=md g
  refine⟨d,EV (ns.FW .D4) (g.Xp L) st (pl+1),hd,⟨ns,_,st,pl+1,Cs,h2,Dt.fdiv_nonneg h3 (·),h4,h5,(·),(·)⟩,EM g d _ e λDf=> ?_⟩;rw[nj,aJ (show CQ 0 g=Bj from GO hg),aJ hLL,aJ (by rw[hLL,gA (·) (·)];rfl)]
 .have pre:∀Df,R 1558 [.FN 0,.t (.D4 L)] (EV (ns.FW .D4) g st pl::Df)=br (CQ pl ((ZW `J).A8:BF))
    (br (CF pl 5000&&CF (-5000) pl) (AA (EG (ZW `J).A8 pl) 65 λj=>AA (J7 `E j) 66 λv=>FJ .Mod v (.t (.D4 L)) (EV (ns.FW .D4) g `aC (pl+1)::Df) λz cs=>Er cs (Df.A8+1) z) (.D9 45))
    (br (B9 ((IT st pl).Xp 3)) (br (CQ 0 L) (.EM (.t (.D4 (((IT st pl).Xp 3^3).Qr L))) (EV (ns.FW .D4) g `aC (pl+1)::Df.Gk Df.A8)) (.D9 85)) (.D9 85)):=λDf=>by
   rw[nj,fh (show CQ 0 g=Be from H5 hg),aJ (gA h4 (·)),aJ (gA h6 (·)),aJ (aK (by rw[iE,AT.Lc];omega))]
  have gd:AR (k+1) (EV (ns.FW .D4) g `aC (pl+1)):=⟨ns,g,_,pl+1,Cs,h2,h3,s1,s2,(·),(·)⟩
  by_cases hp:pl<((ZW `J).A8:BF)
  .have hp2:=hp
   rw[iE,AT.Lc] at hp2;obtain⟨n,hn⟩:=qY ns pl.LU (·);obtain⟨d,e,hd⟩:=md n;refine⟨d,_,hd,gd,EM n d _ e λDf=> ?_⟩;rw[pre,aJ (show CQ pl _=Bj from GO hp),show CF pl 5000=Bj from GO (·),show CF (-5000) pl=Bj from GO (·)];have hi:EG (ZW `J).A8 pl=A9 pl.LU:=by
    unfold EG;rw[show CQ pl 0=Be from H5 (·)]
   rw[hi];show AA (J7 `E pl.LU) 66 _=_;rw[hn];show br (CQ 0 L) _ _=_;rw[aJ hLL];rfl
  .obtain⟨d,e,hd⟩:=md ((IT st pl).Xp 3^3)
   refine⟨d,_,hd,gd,EM _ d _ e λDf=> ?_⟩;have q:(IT st pl).Xp 3=IT st pl / 3:=Dt.fdiv_eq_ediv_of_nonneg _ (by decide);rw[pre,fh (show CQ pl _=Be from H5 hp),aJ (gA (by rw[q];omega) (by rw[q];omega)),aJ hLL]
structure IN (w:Dt) (i:It) (ch:AT (CV×It)):Prop where
 bare:MI i ch w Ae
 off:MI (.p1 (.sy Ai)) ((Be,i)::ch) w Ai
 stp:∀S:SS,S.sy=Ae->S.mi=Ae->JO S ((Be,Bs i)::By ch) (S.PF (S.w+w) Ae Ae)
 fst:Pe `y
 tk:∀t∈Ab i ch,EZ t/\t≠.fn
 Oa:(Ab i ch).A8<=12
def Fk (n:Dt):Prop:=n.J3<18446744073709551616
theorem Fk.tk {n:Dt} (h:Fk n):EZ (.nu n):=BF.PJ h (by decide)
theorem iJ (m:CV) (n:Dt):E0 (Bg (C8 m n)):=by cases m;exact .HX ⟨_,Cs⟩;exact .G4 (.HX ⟨_,_,Cs⟩)
theorem gU (m:CV) (n:Dt):Kd (Bg (C8 m n)):= .HX ⟨m,n,Cs⟩
theorem bR {t:T} (k:Kd t) {x:Dt} (h:Lf t (P3 x Ae Ae)) (S:SS) (hs:S.sy=Ae) (hm:S.mi=Ae):Dy t Be S (S.PF (S.w+x) Ae Ae):=λc0 lt p fo q g=>by
 obtain⟨pl,ix,sc,w,sy,mi⟩:=S;have hs:sy=Ae:=hs;have hm:mi=Ae:=hm;subst hs hm;exact Ct.Ey (bE (c0:=c0) (lt:=lt) (p:=p) (fo:=fo) (q:=q) (g:=g) (S:=⟨pl,ix,sc,w,Ae,Ae⟩) (w:=w+x) (sy:=Ae) (mi:=Ae) k h (fB w x Ae (.HX rfl))) (BF.le_succ 15)
theorem rN {t:T} (k:Kd t) {x:Dt} (h:Lf t (P3 x Ae Ae)) (S:SS) (hs:S.sy=Ae) (hm:S.mi=Ae):Dy t Bj S (S.PF (S.w+ -x) Ae Ae):=λc0 lt p fo q g=>by
 obtain⟨pl,ix,sc,w,sy,mi⟩:=S;have hs:sy=Ae:=hs;have hm:mi=Ae:=hm;subst hs hm;exact Ct.Ey (fI (c0:=c0) (lt:=lt) (p:=p) (fo:=fo) (q:=q) (g:=g) (S:=⟨pl,ix,sc,w,Ae,Ae⟩) (w:=w+ -x) (sy:=Ae) (mi:=Ae) (u:=P3 (-x) Ae Ae) k h (mP x) ⟨x,Ae,Ae,Cs⟩ (fB w (-x) Ae (.HX rfl))) (BF.le_succ 15)
theorem fV (m:CV) (n:Dt) (r:AT Tk):Pe (Al (C8 m n)++r):=by
 cases m
 .exact⟨_,_,Cs,Cs,.HX (fK n)⟩
 .exact⟨_,_,Cs,Cs,.HX (dM _)⟩
theorem cN (m:CV) (n:Dt):MV 2 (C8 m n)=Bj:=by cases m<;>rfl
theorem jW {m:CV} {n:Dt} (h:Fk n):∀t∈Al (C8 m n),EZ t/\t≠.fn:=λt ht=>by
 cases m
 .obtain rfl:t= .nu n:=by simpa [C8,ai,aj,ag] using ht
  exact⟨h.tk,by simp⟩
 .rcases(by simpa [C8,ai,aj,ag] using ht:t= .sg BI\/t= .nu n) with rfl|rfl
  .exact⟨trivial,by simp⟩
  .exact⟨h.tk,by simp⟩
theorem fU (m:CV) (n:Dt):(Al (C8 m n)).A8<=2:=by cases m<;>simp[C8,ai,aj,ag]
theorem iT (S:SS) (a b:Dt) (s1 s2 Z4 s4:Dr):(S.PF a s1 s2).PF b Z4 s4=S.PF b Z4 s4:=rfl
theorem aaF (m:CV) (n:Dt) (h:Fk n):IN (DB m n) (.p1 (C8 m n)) [] where
 bare:=⟨cN m n,by simp,by decide,(ng m n).Ey,λcs=>by cases m<;>exact aa λd=>by lk⟩
 off:=⟨Cs,by simp[Cj,cN],by simp,λcs=>by
  have:0+DB m n=DB m n:=by omega
  rw[<-F4];cases m<;>exact aa λd=>by lk,λcs=>by cases m<;>exact aa λd=>by lk⟩
 stp:=λS hs hm=> .Dc (iJ m n) (bR (gU m n) (cf m n) S hs hm) (.HU _)
 fst:=by have:=fV m n [];simpa [Ab,al,ak,aG,aH] using F4
 tk:=by simpa [Ab,al,ak,aG,aH] using jW (m:=m) h
 Oa:=by have:=fU m n;simp only[Ab,al,ak,aG,aH,AT.H7];omega
theorem aaE (m:CV) (n:Dt) (h:Fk n):IN (37+DB m n) (.p1 (.sy s!"k")) [(Be,.p1 (C8 m n))] where
 bare:=⟨Cs,by simp[Cj,cN],by simp,λcs=>by cases m<;>exact aa λd=>by lk,λcs=>by cases m<;>exact aa λd=>by lk⟩
 off:=⟨Cs,by simp[Cj,cN];rfl,by simp,λcs=>by cases m<;>exact aa λd=>by lk,λcs=>by cases m<;>exact aa λd=>by lk⟩
 stp:=λS hs hm=> .Dc (.G4 (.G4 (.HX ⟨_,Cs⟩))) (bR (.G4 (.G4 (.HX ⟨_,Cs⟩))) aaK S hs hm) (.Dc (iJ m n) (by
  have:=bR (gU m n) (cf m n) (S.PF (S.w+37) Ae Ae) rfl rfl
  rw[iT,show(S.PF (S.w+37) Ae Ae).w+DB m n=S.w+(37+DB m n) from Dt.RD ..] at F4;exact F4) (.HU _))
 fst:=⟨_,_,Cs,Cs,.G4 λi cs=>aa λd=>by lk⟩
 tk:=λt ht=>by
  rcases(by simpa [Ab,al,ak,aG,aH,ai,aj,ag] using ht:t= .na s!"k"\/t= .sg (DZ Be)\/t∈Al `ar) with rfl|rfl|q
  .exact⟨trivial,by simp⟩
  .exact⟨trivial,by simp⟩
  .exact jW h t q
 Oa:=by have:=fU m n;simp only[Ab,al,ak,aG,aH,ai,aj,ag,AT.H7,AT.DE,AT.DW,AT.KC];omega
theorem aaD (m:CV) (n r:Dt) (h:Fk n) (hr:Fk r):IN (DB m n*8+r) (.p2 (C8 m n) (.nu 8)) [(Be,.p1 (.nu r))] where
 bare:=⟨by simp[Cj,cN];rfl,by simp[Cj];rfl,by simp,(pe m n r h).Ey,λcs=>by cases m<;>exact aa λd=>by lk⟩
 off:=⟨Cs,by simp[Cj,cN];exact⟨Cs,Cs⟩,by simp,by
  have:=pd m n r h
  rw[Dt.PX] at F4;exact F4.Ey,λcs=>by cases m<;>exact aa λd=>by lk⟩
 stp:=λS hs hm=> .Dc (.G4 (.G4 (.G4 ⟨_,_,Cs⟩))) (bR (.G4 (.G4 (.G4 ⟨_,_,Cs⟩))) (xZ m n h) S hs hm) (.Dc (.HX ⟨_,Cs⟩) (by
  have:=bR (gU Be r) (cf Be r) (S.PF (S.w+DB m n*8) Ae Ae) rfl rfl
  rw[iT,show(S.PF (S.w+DB m n*8) Ae Ae).w+DB Be r=S.w+(DB m n*8+r) from Dt.RD ..] at F4;exact F4) (.HU _))
 fst:=by have:=fV m n (.sg AE:: .nu 8:: .sg (DZ Be)::[.nu r]);simpa [Ab,al,ak,aG,aH,ai,aj,ag] using F4
 tk:=λt ht=>by
  rcases(by simpa [Ab,al,ak,aG,aH,ai,aj,ag] using ht:t∈Al `ar\/t= .sg AE\/t= .nu 8\/t= .sg (DZ Be)\/t= .nu r) with q|rfl|rfl|rfl|rfl
  .exact jW h t q
  .exact⟨trivial,by simp⟩
  .exact⟨by show(8:Dt).J3<10^300;decide,by simp⟩
  .exact⟨trivial,by simp⟩
  .exact⟨hr.tk,by simp⟩
 Oa:=by have:=fU m n;simp only[Ab,al,ak,aG,aH,ai,aj,ag,AT.H7,AT.DE,AT.DW,AT.KC];omega
theorem aaC (m:CV) (n:Dt) (h:Fk n):IN (-1 - DB m n) (.p1 (.un s!"~" (C8 m n))) [] where
 bare:=⟨by cases m<;>rfl,by simp,by decide,(kF m n).Ey,λcs=>by cases m<;>exact aa λd=>by lk⟩
 off:=⟨Cs,by simp[Cj];cases m<;>rfl,by simp,λcs=>by
  have:0+(-1 - DB m n)= -1 - DB m n:=by omega
  rw[<-F4];cases m<;>exact aa λd=>by lk,λcs=>by cases m<;>exact aa λd=>by lk⟩
 stp:=λS hs hm=> .Dc (.G4 (.HX ⟨_,_,Cs⟩)) (bR (.G4 (.HX ⟨m,n,Cs⟩)) (x9 m n) S hs hm) (.HU _)
 fst:=⟨_,_,Cs,Cs,.HX (dM _)⟩
 tk:=λt ht=>by
  rcases(by simpa [Ab,al,ak,aG,aH,ai,aj,ag] using ht:t= .sg s!"~"\/t∈Al `ar) with rfl|q
  .exact⟨trivial,by simp⟩
  .exact jW h t q
 Oa:=by have:=fU m n;simp only[Ab,al,ak,aG,aH,ai,aj,ag,AT.H7,AT.DE,AT.DW,AT.KC];omega
theorem aaB (m:CV) (n:Dt) (h:Fk n):IN (DB m n+11) (.p1 (C8 m n)) [(Bj,.p1 (.sy s!"m"))] where
 bare:=⟨cN m n,by simp[Cj];rfl,by simp,λcs=>by cases m<;>exact aa λd=>by lk,λcs=>by cases m<;>exact aa λd=>by lk⟩
 off:=⟨Cs,by simp[Cj,cN];rfl,by simp,λcs=>by
  have:0+DB m n+11=DB m n+11:=by omega
  rw[<-F4];cases m<;>exact aa λd=>by lk,λcs=>by cases m<;>exact aa λd=>by lk⟩
 stp:=λS hs hm=> .Dc (iJ m n) (bR (gU m n) (cf m n) S hs hm) (.Dc (.G4 (.G4 (.HX ⟨_,Cs⟩))) (by
  have:=rN (t:=Bw s!"m") (.G4 (.G4 (.HX ⟨_,Cs⟩))) aaJ (S.PF (S.w+DB m n) Ae Ae) rfl rfl
  rw[iT,show(S.PF (S.w+DB m n) Ae Ae).w+ -(-11)=S.w+(DB m n+11) from Dt.RD ..] at F4;exact F4) (.HU _))
 fst:=by have:=fV m n [.sg (DZ Bj),.na s!"m"];simpa [Ab,al,ak,aG,aH,ai,aj,ag] using F4
 tk:=λt ht=>by
  rcases(by simpa [Ab,al,ak,aG,aH,ai,aj,ag] using ht:t∈Al `ar\/t= .sg (DZ Bj)\/t= .na s!"m") with q|rfl|rfl
  .exact jW h t q
  .exact⟨trivial,by simp⟩
  .exact⟨trivial,by simp⟩
 Oa:=by have:=fU m n;simp only[Ab,al,ak,aG,aH,ai,aj,ag,AT.H7,AT.DE,AT.DW,AT.KC];omega
def Aa (l:AT Tk):AT V:=ZW (l.FW Aw)
theorem tv {d:BF} (h:(d:Dt)<3):d=0\/d=1\/d=2:=(by decide:∀d,d<3->d=0\/d=1\/d=2) d `ac
theorem tu {d:BF} (h:(d:Dt)<5):d=0\/d=1\/d=2\/d=3\/d=4:=(by decide:∀d,d<5->d=0\/d=1\/d=2\/d=3\/d=4) d `ac
theorem eh {n:Dt} {a b:BF} (h:n.J3<=a+b) (ha:a<=4611686018427387904) (hb:b<=1000):n.J3<18446744073709551616:=by omega
theorem wA {w:Dt} (hw:w.J3<=4611686018427387904):(w / 8).J3<18446744073709551616:=eh (b:=0) (Dt.natAbs_ediv_le_natAbs w 8) hw (BF.zero_le _)
theorem wz (w:Dt):(w%8).J3<18446744073709551616:=by
 obtain⟨k,hk⟩:=Dt.eq_ofNat_of_zero_le (Dt.emod_nonneg w (by decide:(8:Dt)≠0));have h:=Dt.emod_lt_of_pos w (by decide:(0:Dt)<8);rw[hk] at h⊢;exact BF.VU `ac (by decide)
theorem gK {d:BF} (h:(d:Dt)<6):d=0\/d=1\/d=2\/d=3\/d=4\/d=5:=(by decide:∀d,d<6->d=0\/d=1\/d=2\/d=3\/d=4\/d=5) d `ac
theorem pz {d:BF} (h:(d:Dt)<10):d=0\/d=1\/d=2\/d=3\/d=4\/d=5\/d=6\/d=7\/d=8\/d=9:=(by decide:∀d,d<10->d=0\/d=1\/d=2\/d=3\/d=4\/d=5\/d=6\/d=7\/d=8\/d=9) d `ac
theorem b7 (w:Dt):∃m n,DB m n=w/\n.J3=w.J3/\0<=n/\∀cs,Ct 1 1572 [.t (.D4 w)] cs (.EM (.FN cs.A8) (cs++[.Dg (Aa (Al (C8 m n)))])):=by
 have e:∀cs,R 1572 [.t (.D4 w)] cs=br (CQ w 0) (.EM (.FN cs.A8) (cs++[.Dg (Aa (Al (C8 Bj (0 - w))))])) (.EM (.FN cs.A8) (cs++[.Dg (Aa (Al (C8 Be w)))])):=λcs=>by lk
 by_cases h:w<0
 .refine⟨Bj,0 - w,by show -(0 - w)=w;omega,by rw[Dt.zero_sub,Dt.natAbs_neg],(·),λcs=>ac (n:=0) (Go.EM ?_)⟩
  rw[e,aJ (show CQ w 0=Bj from GO h)]
 .refine⟨Be,w,Cs,Cs,(·),λcs=>ac (n:=0) (Go.EM ?_)⟩
  rw[e,fh (show CQ w 0=Be from H5 h)]
def NW (Df:St):Prop:=(∃a,Df=[a])\/(∃a b d,Df=[a,b,d])\/∃a b c d e,Df=[a,b,c,d,e]
theorem cL {P:St->Prop} {Df:St} (h:NW Df) (h1:∀a,P [a]) (h2:∀a b d,P [a,b,d]) (h3:∀a b c d e,P [a,b,c,d,e]):P Df:=by
 rcases h with⟨a,Cs⟩|⟨a,b,x,Cs⟩|⟨a,b,x,y,z,Cs⟩
 .exact h1 a
 .exact h2 a b x
 .exact h3 a b x y z
theorem kQ {P:CV->Prop} {m:CV} (h0:P Be) (h1:P Bj):P m:=by cases m;exact h0;exact h1
theorem eF {k:BF} {c:C} (hg:AR k c) (hk:k<=4000) (w:Dt) (hw:w.J3<=4611686018427387904):
  ∃i ch c',IN w i ch/\AR (k+1) c'/\∀Df,NW Df->Ct 3 1579 [.FN 0,.t (.D4 w)] (c::Df) (.EM (.FN (Df.A8+1)) (c'::(Df++[.Dg (Aa `y)]))):=by
 obtain⟨d,c',hd,g',dr⟩:=ay hg hk (L:=5) (by decide) (by decide);have cases5:=tu hd;rcases cases5 with rfl|rfl|rfl|rfl|rfl
 .obtain⟨m,n,e,hn,h0,pl⟩:=b7 w
  refine⟨_,_,c',e▸aaF m n (show n.J3<_ from eh (b:=0) (BF.QK hn) hw (by decide)),g',λDf hr=> ?_⟩;refine ac (n:=2) (Go.DH (c::Df) (dr _) () (Go.DH (c'::Df) (pl _) () ?_))
  apply cL hr<;>intros<;>apply kQ (m:=m)<;>exact Go.EM ()
 .obtain⟨m,n,e,hn,h0,pl⟩:=b7 (w - 37)
  have ew:37+DB m n=w:=e▸(Dt.Va _ _).CX (Dt.Rr w 37);refine⟨_,_,c',ew▸aaE m n (show n.J3<_ from eh (b:=37) (hn▸Dt.VO w 37) hw (by decide)),g',λDf hr=> ?_⟩;refine ac (n:=2) (Go.DH (c::Df) (dr _) () (Go.DH (c'::(Df++[.Dg (Aa [.na s!"k",.sg Bk])])) (pl _) () ?_))
  apply cL hr<;>intros<;>apply kQ (m:=m)<;>exact Go.EM ()
 .obtain⟨m,n,e,hn,h0,pl⟩:=b7 (w.Xp 8)
  have q1:w.Xp 8=w / 8:=Dt.fdiv_eq_ediv_of_nonneg _ (by decide);have q2:w.Qr 8=w%8:=Dt.PU _ (by decide);have ew:DB m n*8+w.Qr 8=w:=by rw[e,q1,q2];omega
  have Xj:n.J3<_:=hn▸q1▸wA hw;have hb2:(w.Qr 8).J3<_:=q2▸wz w;have nn:=aaD m n (w.Qr 8) Xj hb2;rw[ew] at nn;refine⟨_,_,c',nn,g',λDf hr=> ?_⟩;refine ac (n:=2) (Go.DH (c::Df) (dr _) () (Go.DH (c'::Df) (pl _) () ?_))
  apply cL hr<;>intros<;>apply kQ (m:=m)<;>exact Go.EM ()
 .obtain⟨m,n,e,hn,h0,pl⟩:=b7 (-1 - w)
  have ew: -1 - DB m n=w:=e▸Dt.sub_sub_self (-1) w;have nn:=aaC m n (show n.J3<_ from eh (a:=w.J3) (b:=1) (hn▸(BF.Va _ _▸Dt.VO (-1) w)) hw (by decide));rw[ew] at nn;refine⟨_,_,c',nn,g',λDf hr=> ?_⟩;refine ac (n:=2) (Go.DH (c::Df) (dr _) () (Go.DH (c'::(Df++[.Dg (Aa [.sg s!"~"])])) (pl _) () ?_))
  apply cL hr<;>intros<;>apply kQ (m:=m)<;>exact Go.EM ()
 .obtain⟨m,n,e,hn,h0,pl⟩:=b7 (w - 11)
  have ew:DB m n+11=w:=e▸Dt.Rr w 11;have nn:=aaB m n (show n.J3<_ from eh (b:=11) (hn▸Dt.VO w 11) hw (by decide));rw[ew] at nn;refine⟨_,_,c',nn,g',λDf hr=> ?_⟩;refine ac (n:=2) (Go.DH (c::Df) (dr _) () (Go.DH (c'::Df) (pl _) () ?_))
  apply cL hr<;>intros<;>apply kQ (m:=m)<;>exact Go.EM ()
def Ce (x:CV×AT Tk):T:= .Ld [.Dq (DZ x.1),.Dg (x.2.FW Aw)]
def CY:CV->AT (CV×AT Tk)->AT Tk
 |_,[]=>[]
 |Bj,(Be,it)::r=>it++CY Be r
 |_,(m,it)::r=> .sg (DZ m)::(it++CY Be r)
theorem be (b:CV):CY b []=[]:=by cases b<;>rfl
theorem bf (m:CV) (it:AT Tk) (r:AT (CV×AT Tk)):CY Be ((m,it)::r)= .sg (DZ m)::(it++CY Be r):=by cases m<;>rfl
theorem bc (it:AT Tk) (r:AT (CV×AT Tk)):CY Bj ((Bj,it)::r)= .sg (DZ Bj)::(it++CY Be r):=rfl
theorem aV (it:AT Tk) (r:AT (CV×AT Tk)):CY Bj ((Be,it)::r)=it++CY Be r:=rfl
def JF (ts:AT (CV×AT Tk)):AT Tk:= .sg Ao::(CY Bj ts++[.sg Ba])
theorem aA (a b:AT Tk):Aa (a++b)=Aa a++Aa b:=by simp[Aa,ZW,AT.J8]
theorem az (a:AT Tk):(Aa a).A8=a.A8:=by simp[Aa,ZW]
def TE (f i:BF):AT IQ:=(Di f i).2
section
variable (ts:AT T) (Pp:St)
def BL (m:BF) (j n:Dt) (Do:Ag) (g:St) (KG:AT V):An:=(`p m).fr ⟨Cv 1621,0,Bj⟩ s!"at" (TE 1621 1) j n ((`dC,.t (.Dg ts))::(A0,.FN g.A8)::Do) (g++[.Dg KG]) (λCL cs=>D3 1621 2 398 CL Pp cs) (Fv Pp) `aH
def BB (m:BF) (j n:Dt) (v:V) (Do:Ag) (g:St) (KG:AT V):An:=LZ ⟨Cv 1621,0,Bj⟩ `dh Da v (Cr ((`dC,.t (.Dg ts))::(A0,.FN g.A8)::Do) s!"at" (.t (.D4 j))) (g++[.Dg KG])
 λBO G1=>(`p (m+18)).ex ⟨Cv 1621,0,Bj⟩ ((TE 1621 1).F3 1) BO G1 (λenv2 KM=>(`p (m+19)).fr ⟨Cv 1621,0,Bj⟩ s!"at" (TE 1621 1) (j+1) n env2 KM (λCL cs=>D3 1621 2 398 CL Pp cs) (Fv Pp) `aH) (Fv Pp) `aH
end
theorem i3 {α:Type} (g l:AT α) (i:BF):J7 (g++l) (g.A8+i)=J7 l i:=by
 rw[bi,bi,AT.getElem?_append_right `I,BF.add_sub_cancel_left]
def Ux (Do:Ag):Prop:=Do=[]\/∃x y z,Do=[(s!"at",x),(`dh,y),(Da,z)]
section
variable {ts:AT T} {Pp:St} {g:St} {KG:AT V} {Do:Ag} {n:Dt}
theorem qs {P:St->Prop} (h0:P []) (h1:∀a,P [a]) (h2:∀a b,P [a,b]) (h3:∀a b c,P [a,b,c]) (h4:∀a b c d,P [a,b,c,d]) (h5:∀a b c d e,P [a,b,c,d,e]) (h6:∀a b c d e f,P [a,b,c,d,e,f]) (g:St) (h:g.A8<=6):P g:=by
 cases g with
 |HU=>exact h0
 |Dc a g=>cases g with
 |HU=>exact h1 a
 |Dc b g=>cases g with
 |HU=>exact h2 a b
 |Dc c g=>cases g with
 |HU=>exact h3 a b c
 |Dc d g=>cases g with
 |HU=>exact h4 a b c d
 |Dc e g=>cases g with
 |HU=>exact h5 a b c d e
 |Dc f g=>cases g with
 |HU=>exact h6 a b c d e f
 |Dc _ g=>exact Ks h (BF.not_le.Lq (BF.le_add_left 7 g.A8))
def Po (ts:AT T) (Pp:St) (n:Dt) (KG:AT V) (Do:Ag) (m:BF) (g:St):Prop:=BL ts Pp (m+20) (g.A8:BF) n Do g KG=br (CQ (g.A8:BF) n) (br (CF (g.A8:BF) 5000&&CF (-5000) (g.A8:BF)) (AA (EG (ZW ts).A8 (g.A8:BF)) 65 λq=>AA (J7 (ZW ts) q) 66 λv=>BB ts Pp m (g.A8:BF) n v Do g KG) (.D9 45)) (D3 1621 2 398 ((`dC,.t (.Dg ts))::(A0,.FN g.A8)::Do) Pp (g++[.Dg KG]))
theorem wY (m:BF) (ht:Ux Do) (hg:g.A8<=6):BL ts Pp (m+20) (g.A8:BF) n Do g KG=br (CQ (g.A8:BF) n) (br (CF (g.A8:BF) 5000&&CF (-5000) (g.A8:BF)) (AA (EG (ZW ts).A8 (g.A8:BF)) 65 λq=>AA (J7 (ZW ts) q) 66 λv=>BB ts Pp m (g.A8:BF) n v Do g KG) (.D9 45)) (D3 1621 2 398 ((`dC,.t (.Dg ts))::(A0,.FN g.A8)::Do) Pp (g++[.Dg KG])):=by
 have Qt:∀g:St,g.A8<=6->Po ts Pp n KG Do m g:=λg=>by
  refine qs (P:=Po ts Pp n KG Do m) ?_ (λa=> ?_) (λa b=> ?_) (λa b c=> ?_) (λa b c d=> ?_) (λa b c d e=> ?_) (λa b c d e f=> ?_) g<;>rcases ht with rfl|⟨x,y,z,Cs⟩<;>delta Po<;>lk
 exact Qt g hg
def UP (j:Dt) (x:CV×AT Tk):Ag:=[(s!"at",.t (.D4 j)),(`dh,.t (.Dq (DZ x.1))),(Da,.t (.Dg (x.2.FW Aw)))]
theorem wB (m:BF) (it:AT Tk):BB ts Pp m (0:BF) n (.t (Ce (Be,it))) [] [] KG=br (BF.Ls (KG.A8+(Aa it).A8) Af) (BL ts Pp (m+19) (0+1:BF) n (UP (0:BF) (Be,it)) [.Dg KG] (KG++Aa it)) (.D9 88):=by lk
theorem yY (m:BF) (mi:CV) (it:AT Tk) (ht:Ux Do) (hg:g.A8<=6) (hj:g.A8≠0\/mi=Bj):BB ts Pp m (g.A8:BF) n (.t (Ce (mi,it))) Do g KG=
  br (BF.Ls KG.A8 Af) (br (BF.Ls ((KG++[V.t (Aw (.sg (DZ mi)))]).A8+(Aa it).A8) Af) (BL ts Pp (m+19) (g.A8+1:BF) n (UP (g.A8:BF) (mi,it)) (g++[.Dg (KG++[V.t (Aw (.sg (DZ mi)))])]) (KG++[V.t (Aw (.sg (DZ mi)))]++Aa it)) (.D9 88)) (.D9 34):=by
 match g,hg,hj with
 |[],_,h=>
  have h:mi=Bj:=by simpa using h
  subst h
  apply pe3 ht<;>intros<;>lk
 |[_],_,_=>cases mi<;>rcases ht with rfl|⟨x,y,z,Cs⟩<;>lk
 |[_,_],_,_=>cases mi<;>rcases ht with rfl|⟨x,y,z,Cs⟩<;>lk
 |[_,_,_],_,_=>cases mi<;>rcases ht with rfl|⟨x,y,z,Cs⟩<;>lk
 |[_,_,_,_],_,_=>cases mi<;>rcases ht with rfl|⟨x,y,z,Cs⟩<;>lk
 |[_,_,_,_,_],_,_=>cases mi<;>rcases ht with rfl|⟨x,y,z,Cs⟩<;>lk
 |[_,_,_,_,_,_],_,_=>cases mi<;>rcases ht with rfl|⟨x,y,z,Cs⟩<;>lk
 |_::_::_::_::_::_::_::_,h,_=>exact Ks h (by simp[AT.DW])
theorem zM {j:BF} (h:j<=4000):(CF (j:BF) 5000&&CF (-5000) (j:BF))=Bj:=by
 rw[show CF (j:BF) 5000=Bj from GO (·),show CF (-5000) (j:BF)=Bj from GO (·)];rfl
theorem oq (l:AT (CV×AT Tk)) (j:BF) {t:CV×AT Tk} {r:AT (CV×AT Tk)} (h:l.F3 j=t::r):J7 (ZW (l.FW Ce)) j=A9 (.t (Ce t)):=by rw[eG,h];rfl
def Gn (l:AT (CV×AT Tk)):BF:=(l.FW λx=>(x.2).A8+1).sum
theorem aah (Xi:AT (CV×AT Tk)) (hts:ts=Xi.FW Ce) (hn:n=(Xi.A8:BF)) (h6:Xi.A8<=6) {A:An} (k:∀Do (g:St),Ux Do->g.A8=Xi.A8->∀L,L= .sg Ao::CY Bj Xi->D3 1621 2 398 ((`dC,.t (.Dg ts))::(A0,.FN g.A8)::Do) Pp (g++[.Dg (Aa L)])=A) (l:AT (CV×AT Tk)):
  ∀(m:BF) (Do:Ag) (g:St) (L:AT Tk),Ux Do->(g=[]->Do=[])->Xi.F3 g.A8=l->g.A8+l.A8=Xi.A8->L.A8+Gn l<=3000->(L++(if g=[] then CY Bj l else CY Be l))= .sg Ao::CY Bj Xi->BL ts Pp (m+l.A8+20) (g.A8:BF) n Do g (Aa L)=A:=by
 induction l with
 |HU=>
  intro m Do g L ht h0 hd hl hL hs;rw[show m+([]:AT (CV×AT Tk)).A8+20=m+20 from rfl,wY _ ht (by simp at hl;omega),fh (show CQ (g.A8:BF) n=Be from H5 (by simp at hl;omega))];refine k Do g ht (by simpa using hl) L ?_;rw[<-hs];split<;>simp[be,bf,bc,aV]
 |Dc t l ih=>
  intro m Do g L ht h0 hd hl hL hs;rw[AT.DW] at hl⊢;have hg:g.A8<=5:=by omega
  have hLl:Gn (t::l)=(t.2).A8+1+Gn l:=by simp[Gn]
  rw[hLl] at hL;rw[show m+(l.A8+1)+20=m+l.A8+1+20 by omega,wY _ ht (·),aJ (show CQ (g.A8:BF) n=Bj from GO (·)),aJ (zM (·)),jg,qT,hts,oq Xi g.A8 hd,<-hts,qT];have hd2:Xi.F3 (g.A8+1)=l:=by rw[<-AT.RB (i:=1) (j:=g.A8),hd];rfl
  obtain⟨mi,it⟩:=t
  by_cases hz:g=[]/\mi=Be
  .obtain⟨Cs,Cs⟩:=hz
   obtain rfl:=h0 rfl
   refine Eq.CX (wB (KG:=Aa L) (m+l.A8+1) it) ?_;rw[aJ (BF.HZ (by rw[az,az];unfold Af;dsimp only at hL;omega)),<-aA]
   have:=ih m (UP (0:BF) (Be,it)) [.Dg (Aa L)] (L++it) (.G4 ⟨_,_,_,Cs⟩) (by simp) hd2 (by simp at hl⊢;omega) (by rw[AT.DE];dsimp only at hL;omega) (by rw[<-hs];simp[be,bf,bc,aV])
   rw[show m+l.A8+1+19=m+l.A8+20 by omega];exact F4
  .have hj:g.A8≠0\/mi=Bj:=by
    by_cases q:g=[]
    .right;cases mi
     .exact Ks ⟨q,Cs⟩ hz
     .rfl
    .left;intro e;exact q (AT.QY.mp e)
   rw[yY _ mi it ht (·) hj,aJ (aK (by rw[az];omega))];have e:Aa L++[V.t (Aw (.sg (DZ mi)))]=Aa (L++[.sg (DZ mi)]):=by rw[aA];rfl
   rw[e,aJ (BF.HZ (by rw[az,az,AT.DE];unfold Af;simp only[AT.DW,AT.KC];dsimp only at hL;omega)),<-aA]
   have:=ih m (UP (g.A8:BF) (mi,it)) (g++[.Dg (Aa (L++[.sg (DZ mi)]))]) (L++[.sg (DZ mi)]++it) (.G4 ⟨_,_,_,Cs⟩) (by simp) (by rw[AT.DE];exact hd2) (by rw[AT.DE];simp only[AT.DW,AT.KC];omega) (by simp only[AT.DE,AT.DW,AT.KC];dsimp only at hL;omega) (by
    rw[<-hs,Ko (by simp)];split
    .rename_i q
     rcases hj with h|rfl
     .exact Ks (by rw[q];rfl) h
     .simp[be,bf,bc,aV]
    .simp[be,bf,bc,aV])
   rw[AT.DE] at F4;rw[show m+l.A8+1+19=m+l.A8+20 by omega];exact F4
def MM (ts:AT T) (Pp:St) (KG:AT V) (Do:Ag) (g:St):Prop:=D3 1621 2 398 ((`dC,.t (.Dg ts))::(A0,.FN g.A8)::Do) Pp (g++[.Dg KG])=br (BF.Ls (KG.A8+1) Af) (Fv Pp (.FN (g.A8+2)) (g++[.Dg KG,.Dg [.t (Aw (.sg Ba))],.Dg (KG++[.t (Aw (.sg Ba))])])) (.D9 88)
theorem yO (ht:Ux Do) (hg:g.A8<=6):D3 1621 2 398 ((`dC,.t (.Dg ts))::(A0,.FN g.A8)::Do) Pp (g++[.Dg KG])=br (BF.Ls (KG.A8+1) Af) (Fv Pp (.FN (g.A8+2)) (g++[.Dg KG,.Dg [.t (Aw (.sg Ba))],.Dg (KG++[.t (Aw (.sg Ba))])])) (.D9 88):=by
 have Qt:∀g:St,g.A8<=6->MM ts Pp KG Do g:=λg=>by
  refine qs (P:=MM ts Pp KG Do) ?_ (λa=> ?_) (λa b=> ?_) (λa b c=> ?_) (λa b c d=> ?_) (λa b c d e=> ?_) (λa b c d e f=> ?_) g<;>rcases ht with rfl|⟨x,y,z,Cs⟩<;>delta MM<;>lk
 exact Qt g hg
theorem eV (Xi:AT (CV×AT Tk)) (h6:Xi.A8<=6) (hL:Gn Xi<=2000) (cs:St):Ct 1 1621 [.t (.Dg (Xi.FW Ce))] cs (.EM (.FN cs.A8) (cs++[.Dg (Aa (JF Xi))])):=by
 refine ac (n:=0) (Go.EM ?_);refine Eq.CX (show _=br (BF.Ls (ZW `al).A8 Af) (br (CF ((ZW `al).A8:BF) 1000&&CF 0 ((ZW `al).A8:BF)) (BL `al cs 398 (0:BF) ((ZW `al).A8:BF) [] [] (Aa [.sg Ao])) (.D9 153)) (.D9 9) by lk) ?_;have el:(ZW `al).A8=Xi.A8:=by rw[iE,AT.Lc]
 rw[aJ (aK (·)),aJ (show(CF ((ZW `al).A8:BF) 1000&&CF 0 ((ZW `al).A8:BF))=Bj by rw[show CF ((ZW `al).A8:BF) 1000=Bj from GO (·),show CF 0 ((ZW `al).A8:BF)=Bj from GO (·)];rfl)];obtain⟨m,em⟩:∃m,398=m+Xi.A8+20:=⟨378 - Xi.A8,fz (a:=378) (k:=20) (·)⟩;show BL _ _ _ _ _ _ _ _=_;rw[em];refine aah (n:=((ZW `al).A8:BF)) Xi rfl (by rw[el]) h6 (λDo g ht hg L hL2=> ?_) Xi m [] [] [.sg Ao] (.HX rfl) (λ_=>rfl) rfl (by simp) (by simp;omega) (by simp);have N9:L.A8<=3000:=by
  have q:∀(b:CV) (l:AT (CV×AT Tk)),(CY b l).A8<=Gn l:=by
   intro b l
   induction l generalizing b with
   |HU=>simp[be,bf,bc,aV,Gn]
   |Dc x l ih=>
    obtain⟨mi,it⟩:=x
    have:=ih Be
    cases b<;>cases mi<;>simp[be,bf,bc,aV,Gn] at F4⊢<;>omega
  have:=q Bj Xi
  rw[hL2,AT.DW];omega
 have e2:Aa L++[V.t (Aw (.sg Ba))]=ZW ((JF Xi).FW Aw):=by
  show Aa L++Aa [.sg Ba]=Aa (JF Xi);rw[<-aA,hL2];rfl
 refine Eq.CX (yO ht (·)) ?_;rw[aJ (aK (l:=Aa L++[V.t (Aw (.sg Ba))]) (by rw[AT.DE,az];simp;omega)▸by rw[AT.DE];rfl),e2];exact lO (i3 g _ 2) cs
end
def Ir (x:CV×It):CV×AT Tk:=(x.1,Az x.2)
def Fl (x:CV×It):T:=Ce (Ir x)
def Gb (b:CV) (l:AT (CV×It)):AT Tk:=CY b (l.FW Ir)
def Fi (l:AT (CV×It)):AT Tk:=JF (l.FW Ir)
def Eh (l:AT (CV×It)):BF:=(l.FW λx=>(Az x.2).A8+1).sum
theorem aQ (Xi:AT (CV×It)) (h6:Xi.A8<=6) (hL:Eh Xi<=2000) (cs:St):Ct 1 1621 [.t (.Dg (Xi.FW Fl))] cs (.EM (.FN cs.A8) (cs++[.Dg (Aa (Fi Xi))])):=by
 have e:Gn (Xi.FW Ir)=Eh Xi:=by simp[Gn,Eh,Ir,Function.comp_def]
 have:=eV (Xi.FW Ir) (by rw[AT.Lc];exact h6) (by rw[e];exact hL) cs
 rw[AT.map_map] at F4;exact F4
theorem cH:∀r:AT (CV×It),Gb Be r=Bt r
 |[]=>rfl
 |(m,i)::r=>by
  rw[show Gb Be ((m,i)::r)= .sg (DZ m)::(Az i++Gb Be r) by cases m<;>rfl,cH r];rfl
def CC:CV×It->It
 |(Bj,.p1 (.nu n))=> .p1 (.un BI (.nu n))
 |(_,it)=>it
def Hk (x:CV×It):Prop:=x.1=Be\/∃n,x=(Bj,.p1 (.nu n))
theorem tx (x:CV×It) (r:AT (CV×It)) (h:Hk x):Fi (x::r)=At [(CC x,r)]:=by
 have e:Gb Bj (x::r)=Ab (CC x) r:=by
  rcases h with h|⟨n,Cs⟩
  .obtain⟨m,it⟩:=x
   have h:m=Be:=h;subst h;show Az it++Gb Be r=Az it++Bt r;rw[cH]
  .show .sg (DZ Bj)::(Az (.p1 (.nu n))++Gb Be r)= .sg BI::(Al (.nu n)++Bt r)
   rw[cH];rfl
 show .sg Ao::(Gb Bj (x::r)++[.sg Ba])= .sg Ao::(Ab (CC x) r++ .sg Ba::[]);rw[e]
def NG:CV×It->CV
 |(Be,.p1 (.nu _))=>Bj
 |_=>Be
def Zp (it:It):Prop:=(∃n,it= .p1 (.nu n))\/(∃n,it= .p1 (.un BI (.nu n)))\/(∃s,it= .p1 (.sy s))\/∃o s k,it=BC o s k
theorem jY (n:Dt) (cs:St):Ct 1 1628 [.t (.Dg [Fl (Be,.p1 (.nu n))])] cs (.EM (.t (.Dg [Fl (Be,.p1 (.nu n))])) cs):=aa λd=>by lk
theorem lF (x:CV×It) (hk:Zp x.2) (h:NG x=Be) (cs:St):Ct 1 1628 [.t (.Dg [Fl x])] cs (.EM (.FN cs.A8) (cs++[.Dg []])):=by
 obtain⟨m,it⟩:=x;rcases hk with⟨n,hk⟩|⟨n,hk⟩|⟨s,hk⟩|⟨o,s,k,hk⟩
 all_goals
  have hk:it=_:=hk;subst hk
 .cases m
  .cases h
  .exact aa λd=>by lk
 .cases m<;>exact aa λd=>by lk
 .cases m<;>exact aa λd=>by lk
 .cases m<;>cases o<;>exact aa λd=>by lk
def AS (s:Dr):Prop:=(HG s&&BF.Ls (Aj s).A8 Af)=Bj
theorem jr {k:BF} {c:C} (hg:AR k c) (hk:k<=4000) {s:Dr} (hs:AS s):∃s' c',(s'=s\/s'=LX s)/\AR (k+1) c'/\∀Df,Ct 2 1614 [.FN 0,.t (.Dq s)] (c::Df) (.EM (.t (.Dq s')) (c'::Df)):=by
 obtain⟨d,c',hd,g',dr⟩:=ay hg hk (L:=3) (by decide) (by decide);rcases tv hd with rfl|rfl|rfl
 .refine⟨s,c',.HX rfl,g',λDf=>ac (n:=1) (Go.DH (c::Df) (dr _) () (Go.EM ?_))⟩
  refine Eq.CX (show _= .EM (.t (.Dq s)) (c'::Df.Gk Df.A8) by lk) ?_;rw[AT.Q5]
 .refine⟨s,c',.HX rfl,g',λDf=>ac (n:=1) (Go.DH (c::Df) (dr _) () (Go.EM ?_))⟩
  refine Eq.CX (show _= .EM (.t (.Dq s)) (c'::Df.Gk Df.A8) by lk) ?_;rw[AT.Q5]
 .refine⟨LX s,c',.G4 rfl,g',λDf=>ac (n:=1) (Go.DH (c::Df) (dr _) () (Go.EM ?_))⟩
  refine Eq.CX (show _=br (HG s&&BF.Ls (Aj s).A8 Af) (.EM (.t (.Dq (LX s))) (c'::Df.Gk Df.A8)) (.D9 32) by lk) ?_;rw[aJ hs,AT.Q5]
theorem uk {k:BF} {c:C} (hg:AR k c) (hk:k<=4000):∃z c',C6 z/\AR (k+1) c'/\Ct 2 1586 [.FN 0] [c] (.EM (.t (.D4 z)) [c']):=by
 obtain⟨d,c',hd,g',dr⟩:=ay hg hk (L:=6) (by decide) (by decide);have cases6:=gK hd;have q:∀z:Dt,C6 z->FR (R 1586 [.FN 0] [c]) (.t (.D4 d)) [c',.Dg [.t (.D4 0),.t (.D4 8),.t (.D4 16),.t (.D4 32),.t (.D4 64),.t (.D4 128)]]= .EM (.t (.D4 z)) [c']->∃z c',C6 z/\AR (k+1) c'/\Ct 2 1586 [.FN 0] [c] (.EM (.t (.D4 z)) [c']):=λz hz h=>
  ⟨z,c',hz,g',ac (n:=1) (Go.DH [c,.Dg [.t (.D4 0),.t (.D4 8),.t (.D4 16),.t (.D4 32),.t (.D4 64),.t (.D4 128)]] (dr _) () (Go.EM h))⟩
 rcases cases6 with rfl|rfl|rfl|rfl|rfl|rfl
 .exact q 0 (.HX rfl) ()
 .exact q 8 (.G4 (.HX rfl)) ()
 .exact q 16 (.G4 (.G4 (.HX rfl))) ()
 .exact q 32 (.G4 (.G4 (.G4 (.HX rfl)))) ()
 .exact q 64 (.G4 (.G4 (.G4 (.G4 (.HX rfl))))) ()
 .exact q 128 (.G4 (.G4 (.G4 (.G4 (.G4 rfl))))) ()
def UO (z:Dt):Dr:=if z=8 then s!"byte" else if z=16 then `dg else if z=32 then D5 else if z=64 then s!"qword" else s!"xmmword"
def YV:C:= .Rv [(.D4 8,.t (.Dq s!"byte")),(.D4 16,.t (.Dq `dg)),(.D4 32,.t (.Dq D5)),(.D4 64,.t (.Dq s!"qword")),(.D4 128,.t (.Dq s!"xmmword"))]
theorem pT {k:BF} {c:C} (hg:AR k c) (hk:k<=4000) {z:Dt} (hz:C6 z):∃wt c',FT wt z/\((∀t∈wt,EZ t/\t≠.fn)/\wt.A8<=2)/\AR (k+1) c'/\∀x,Ct 2 1593 [.FN 0,.t (.D4 z)] [c,x] (.EM (.FN 2) [c',x,.Dg (Aa wt)]):=by
 rcases hz with rfl|hz
 .exact⟨[],c,.HX ⟨Cs,Cs⟩,⟨by simp,by decide⟩,hg.Ey (·),λx=>ac (n:=1) `aq⟩
 .obtain⟨d,c',hd,g',dr⟩:=ay hg hk (L:=2) (by decide) (by decide)
  have cases2:d=0\/d=1:=by omega
  have lo:FT [.na (UO z),.na D6] z:=by
   refine .G4 ⟨_,_,UO z,Cs,?_,?_,hz,λi cs=>aa λd=>by lk,?_⟩
   .intro i cs
    refine aa λd=> ?_
    apply gQ hz<;>lk
   .intro cs
    refine aa λd=> ?_
    apply gQ hz<;>lk
   .apply gQ hz<;>rfl
  have up:FT [.na (LX (UO z)),.na s!"PTR"] z:=by
   refine .G4 ⟨_,_,UO z,Cs,?_,?_,hz,λi cs=>aa λd=>by lk,?_⟩
   .intro i cs
    refine aa λd=> ?_
    apply gQ hz<;>lk
   .intro cs
    refine aa λd=> ?_
    apply gQ hz<;>lk
   .apply gQ hz<;>rfl
  have tk:∀a b,(∀t∈[Tk.na a,Tk.na b],EZ t/\t≠.fn)/\[Tk.na a,Tk.na b].A8<=2:=λa b=>⟨λt ht=>by
   rcases(by simpa using ht:t= .na a\/t= .na b) with rfl|rfl<;>exact⟨trivial,by simp⟩,by simp⟩
  rcases cases2 with rfl|rfl
  .refine⟨_,c',lo,tk _ _,g',λx=>ac (n:=1) ?_⟩
   refine Go.DH [c,x,YV] (dr _) (by apply gQ hz<;>lk) (Go.EM ?_)
   apply gQ hz<;>lk
  .refine⟨_,c',up,tk _ _,g',λx=>ac (n:=1) ?_⟩
   refine Go.DH [c,x,YV] (dr _) (by apply gQ hz<;>lk) (Go.EM ?_)
   apply gQ hz<;>lk
def Rz (n:BF) (A:An) (k:BF) (Q:V->St->Prop):Prop:=∃v c' ext,Q v ext/\AR k c'/\Go n A (.EM v (c'::ext))
section
variable {n k:BF} {A A':An} {Q:V->St->Prop}
theorem Rz.eq (h:A=A') (r:Rz n A' k Q):Rz n A k Q:=h▸r
theorem Rz.DH {m f:BF} {vs:AT V} (cs:St) {Kg:St} {v:V} (c:Ct m f vs cs (.EM v Kg)) (hA:A=Aal f vs cs A) (g:Rz n (FR A v Kg) k Q) (le:BF.Ls m n=Bj:=by rfl):Rz n A k Q:=by
 obtain⟨v',c',ext,q,gd,go⟩:=g;exact⟨v',c',ext,q,gd,Go.DH cs c hA go le⟩
theorem Rz.PE {m c b:BF} {vs:AT V} (cs:St) {Kg:St} {v:V} (h:Cq m c b vs cs (.EM v Kg)) (hA:A=Aaa c b vs cs A) (g:Rz n (FR A v Kg) k Q) (le:BF.Ls m n=Bj:=by rfl):Rz n A k Q:=by
 obtain⟨v',c',ext,q,gd,go⟩:=g;exact⟨v',c',ext,q,gd,Go.PE cs h hA go le⟩
theorem Rz.EM {v:V} {c':C} {ext:St} (h:A= .EM v (c'::ext)) (q:Q v ext) (g:AR k c'):Rz n A k Q:=⟨v,c',ext,q,g,Go.EM h⟩
end
def MG (b:T):Prop:=b= .Kr\/b=Cd\/∃n,n<16/\b=AJ .q n
def Yb (ix:T) (sc:Dt):Prop:=(ix= .Kr/\sc=1)\/∃n,n<16/\n≠4/\ix=AJ .q n/\IJ sc
def UN (s:Dr):Prop:=s=Ae\/s=s!"fs"\/s=s!"gs"\/s=s!"ds"
structure CN (b ix:T) (sc w:Dt) (n' ah:Dr):Prop where
 hb:MG b
 hi:Yb ix sc
 hr:b=Cd->ix= .Kr
 hw:HH w
 hn:Hh n'
 ha:UN ah
def NY (z:Dt) (v:V) (ext:St):Prop:=ext=[]/\∃b ix sc w n' ah,CN b ix sc w n' ah/\v= .t (.Ld [Ar b ix sc w z (AC ah) n',.Dq ah])
def JB (z:Dt) (Ri b ix:T) (sc:Dt) (Do:Ag):Ag:=(`dD,.FN 0)::(`cY,.t (.D4 z))::(s!"way",.t Ri)::(`dc,.t b)::(`dd,.t ix)::(`de,.t (.D4 sc))::Do
theorem lt3 {d:BF} (h:(d:Dt)<3):d=0\/d=1\/d=2:=(by decide:∀d,d<3->d=0\/d=1\/d=2) d `ac
theorem lt4 {d:BF} (h:(d:Dt)<4):d=0\/d=1\/d=2\/d=3:=(by decide:∀d,d<4->d=0\/d=1\/d=2\/d=3) d `ac
theorem lt5 {d:BF} (h:(d:Dt)<5):d=0\/d=1\/d=2\/d=3\/d=4:=(by decide:∀d,d<5->d=0\/d=1\/d=2\/d=3\/d=4) d `ac
def Ix:C:= .Dg [.t (.Dq Ae),.t (.Dq Ae),.t (.Dq Ai)]
def JH:C:= .Dg [.t (.Dq Ae),.t (.Dq Ae),.t (.Dq s!"fs"),.t (.Dq s!"gs"),.t (.Dq s!"ds")]
section
variable {c:C} {z:Dt} {Ri b ix:T} {sc w:Dt} {k:BF}
theorem uQ (c l1 l2:C) (sg n':Dr):Cq 4 580 1 [.t b,.t ix,.t (.D4 sc),.t (.D4 w),.t (.D4 z),.t (.Dq sg),.t (.Dq n')] [c,l1,l2] (.EM (.t (`i n')) [c,l1,l2]):=aN λd=>by lk
theorem b8 (hg:AR k c) (hk:k<=3900) (hb:MG b) (hi:Yb ix sc) (hr:b=Cd->ix= .Kr) (hw:HH w) (num:V):∀Do,(Do=[(`db,.t (.D4 w))]\/Do=[(`cZ,num),(`db,.t (.D4 w))])->Rz 6 (EX 1600 1 8 392 (JB z Ri b ix sc Do) [c]) (k+2) (NY z):=by
 intro Do ht;obtain⟨d1,c1,hd1,g1,r1⟩:=ay hg (·) (L:=3) (by decide) (by decide);obtain⟨d2,c2,hd2,g2,r2⟩:=ay g1 (·) (L:=5) (by decide) (by decide);have K7:∀nm',Hh nm'->∀tail2,(tail2=[(`db,.t (.D4 w)),(`cC,.t (.Dq nm'))]\/tail2=[(`cZ,num),(`db,.t (.D4 w)),(`cC,.t (.Dq nm'))])->Rz 6 (EX 1600 1 9 391 (JB z Ri b ix sc tail2) [c1,Ix]) (k+2) (NY z):=by
  intro nm' hnm tail2 ht2;have q:∀ah sg,UN ah->sg=AC ah->NY z (.t (.Ld [`i nm',.Dq ah])) []:=λah sg ha e=>⟨Cs,b,ix,sc,w,nm',ah,⟨hb,hi,hr,hw,hnm,ha⟩,by rw[e]⟩;have mk:=λsg=>uQ (b:=b) (ix:=ix) (sc:=sc) (w:=w) (z:=z) c2 Ix JH sg nm';rcases ht2 with rfl|rfl
  .refine Rz.DH [c1,Ix,JH] (r2 _) () ?_
   rcases lt5 hd2 with rfl|rfl|rfl|rfl|rfl
   .exact Rz.PE [c2,Ix,JH] (mk Ae) () (Rz.EM () (q Ae Ae (.HX rfl) rfl) g2)
   .exact Rz.PE [c2,Ix,JH] (mk Ae) () (Rz.EM () (q Ae Ae (.HX rfl) rfl) g2)
   .exact Rz.PE [c2,Ix,JH] (mk s!"fs") () (Rz.EM () (q s!"fs" s!"fs" (.G4 (.HX rfl)) rfl) g2)
   .exact Rz.PE [c2,Ix,JH] (mk s!"gs") () (Rz.EM () (q s!"gs" s!"gs" (.G4 (.G4 (.HX rfl))) rfl) g2)
   .exact Rz.PE [c2,Ix,JH] (mk Ae) () (Rz.EM () (q s!"ds" Ae (.G4 (.G4 (.G4 rfl))) rfl) g2)
  .refine Rz.DH [c1,Ix,JH] (r2 _) () ?_
   rcases lt5 hd2 with rfl|rfl|rfl|rfl|rfl
   .exact Rz.PE [c2,Ix,JH] (mk Ae) () (Rz.EM () (q Ae Ae (.HX rfl) rfl) g2)
   .exact Rz.PE [c2,Ix,JH] (mk Ae) () (Rz.EM () (q Ae Ae (.HX rfl) rfl) g2)
   .exact Rz.PE [c2,Ix,JH] (mk s!"fs") () (Rz.EM () (q s!"fs" s!"fs" (.G4 (.HX rfl)) rfl) g2)
   .exact Rz.PE [c2,Ix,JH] (mk s!"gs") () (Rz.EM () (q s!"gs" s!"gs" (.G4 (.G4 (.HX rfl))) rfl) g2)
   .exact Rz.PE [c2,Ix,JH] (mk Ae) () (Rz.EM () (q s!"ds" Ae (.G4 (.G4 (.G4 rfl))) rfl) g2)
 rcases ht with rfl|rfl<;>refine Rz.DH [c,Ix] (r1 _) () ?_<;>rcases lt3 hd1 with rfl|rfl|rfl
 .exact Rz.eq () (K7 Ae (.HX rfl) _ (.HX rfl))
 .exact Rz.eq () (K7 Ae (.HX rfl) _ (.HX rfl))
 .exact Rz.eq () (K7 Ai (.G4 rfl) _ (.HX rfl))
 .exact Rz.eq () (K7 Ae (.HX rfl) _ (.G4 rfl))
 .exact Rz.eq () (K7 Ae (.HX rfl) _ (.G4 rfl))
 .exact Rz.eq () (K7 Ai (.G4 rfl) _ (.G4 rfl))
theorem ad {n k l:BF} {A:An} {Q:V->St->Prop} (h:Rz n A k Q) (le:k<=l):Rz n A l Q:=by
 obtain⟨v,c',ext,q,g,go⟩:=h;exact⟨v,c',ext,q,g.Ey le,go⟩
theorem fS (hg:AR k c) (hk:k<=3000) (hb:MG b) (hi:Yb ix sc) (hr:b=Cd->ix= .Kr) (num:V):∀Do,(Do=[]\/Do=[(`cZ,num)])->Rz 6 (EX 1600 1 6 394 (JB z Ri b ix sc Do) [c]) (k+4) (NY z):=by
 intro Do ht;obtain⟨d1,c1,hd1,g1,r1⟩:=ay hg (·) (L:=4294967296) (by decide) (by decide);obtain⟨d2,c2,hd2,g2,r2⟩:=ay g1 (·) (L:=3) (by decide) (by decide);have hw:HH ((d1:Dt) - 2147483648):=⟨(·),(·)⟩;have h0:HH 0:=⟨by decide,by decide⟩;rcases ht with rfl|rfl
 .refine Rz.DH [c] (r1 _) () (Rz.DH [c1] (r2 _) () ?_)
  rcases lt3 hd2 with rfl|rfl|rfl
  .exact Rz.eq () (b8 (z:=z) (Ri:=Ri) g2 (·) hb hi hr h0 num _ (.HX rfl))
  .exact Rz.eq () (b8 (z:=z) (Ri:=Ri) g2 (·) hb hi hr hw num _ (.HX rfl))
  .exact Rz.eq () (b8 (z:=z) (Ri:=Ri) g2 (·) hb hi hr hw num _ (.HX rfl))
 .refine Rz.DH [c] (r1 _) () (Rz.DH [c1] (r2 _) () ?_)
  rcases lt3 hd2 with rfl|rfl|rfl
  .exact Rz.eq () (b8 (z:=z) (Ri:=Ri) g2 (·) hb hi hr h0 num _ (.G4 rfl))
  .exact Rz.eq () (b8 (z:=z) (Ri:=Ri) g2 (·) hb hi hr hw num _ (.G4 rfl))
  .exact Rz.eq () (b8 (z:=z) (Ri:=Ri) g2 (·) hb hi hr hw num _ (.G4 rfl))
theorem dz {P:BF->Prop} {n d:BF} (h:d<n+1) (k:d<n->P d) (e:P n):P d:=(BF.lt_succ_iff_lt_or_eq.mp h).Dk k λq=>q▸e
theorem db {P:BF->Prop} {d:BF} (h:d<15) (h0:P 0) (h1:P 1) (h2:P 2) (h3:P 3) (h4:P 4) (h5:P 5) (h6:P 6) (h7:P 7) (h8:P 8) (h9:P 9) (ha:P 10) (hb:P 11) (hc:P 12) (hd:P 13) (he:P 14):P d:=
 dz (n:=14) h (λh=>dz (n:=13) h (λh=>dz (n:=12) h (λh=>dz (n:=11) h (λh=>dz (n:=10) h (λh=>dz (n:=9) h (λh=>dz (n:=8) h (λh=>dz (n:=7) h (λh=>dz (n:=6) h (λh=>dz (n:=5) h (λh=>dz (n:=4) h (λh=>dz (n:=3) h (λh=>dz (n:=2) h (λh=>dz (n:=1) h (λh=>dz (n:=0) h (λh=>Ks h (BF.Q4 _)) h0) h1) h2) h3) h4) h5) h6) h7) h8) h9) ha) hb) hc) hd) he
def ND (d:BF):BF:=if d<4 then d else d+1
def PB (z:Dt) (Ri b:T) (c:C):An:=HN 1600 1 5 394 (JB z Ri b .Kr 1 []) [c]
def UE (z:Dt) (Ri b:T) (c c1:C) (d:BF):An:=FR (PB z Ri b c) (.t (.D4 d)) [c1]
def UD (z:Dt) (Ri b:T) (c c1:C) (d:BF):An:=FR (UE z Ri b c c1 d) (.t (AJ .q (ND d))) [c1]
def UC (z:Dt) (Ri b:T) (c c1 c2:C) (d:BF) (e:Dt):An:=FR (UD z Ri b c c1 d) (.t (.D4 e)) [c2]
def UB (z:Dt) (Ri b:T) (c2:C) (d:BF) (sc:Dt):An:=EX 1600 1 6 394 (JB z Ri b (AJ .q (ND d)) sc [(`cZ,.t (.D4 d))]) [c2]
section
variable {c1 c2:C} {d:BF} (h:d<15)
include h
theorem aaA:UE z Ri b c c1 d=Aal 1219 [.t (.D4 (ND d)),.t (.D4 (CP .q))] [c1] (UE z Ri b c c1 d):=
 db (P:=λd=>UE z Ri b c c1 d=Aal 1219 [.t (.D4 (ND d)),.t (.D4 (CP .q))] [c1] (UE z Ri b c c1 d)) h () () () () () () () () () () () () () () ()
theorem aaz:UD z Ri b c c1 d=Aal 1558 [.FN 0,.t (.D4 4)] [c1] (UD z Ri b c c1 d):=
 db (P:=λd=>UD z Ri b c c1 d=Aal 1558 [.FN 0,.t (.D4 4)] [c1] (UD z Ri b c c1 d)) h () () () () () () () () () () () () () () ()
theorem aay {e:BF} (he:(e:Dt)<4):∃sc,IJ sc/\UC z Ri b c c1 c2 d e=UB z Ri b c2 d sc:=by
 rcases lt4 he with rfl|rfl|rfl|rfl
 .exact⟨1,.HX rfl,db (P:=λd=>UC z Ri b c c1 c2 d (0:BF)=UB z Ri b c2 d 1) h () () () () () () () () () () () () () () ()⟩
 .exact⟨2,.G4 (.HX rfl),db (P:=λd=>UC z Ri b c c1 c2 d (1:BF)=UB z Ri b c2 d 2) h () () () () () () () () () () () () () () ()⟩
 .exact⟨4,.G4 (.G4 (.HX rfl)),db (P:=λd=>UC z Ri b c c1 c2 d (2:BF)=UB z Ri b c2 d 4) h () () () () () () () () () () () () () () ()⟩
 .exact⟨8,.G4 (.G4 (.G4 rfl)),db (P:=λd=>UC z Ri b c c1 c2 d (3:BF)=UB z Ri b c2 d 8) h () () () () () () () () () () () () () () ()⟩
end
theorem qP (hg:AR k c) (hk:k<=2900) (hb:MG b) (hr:b≠Cd):Rz 6 (PB z Ri b c) (k+6) (NY z):=by
 obtain⟨d1,c1,hd1,g1,r1⟩:=ay hg (·) (L:=15) (by decide) (by decide);obtain⟨d2,c2,hd2,g2,r2⟩:=ay g1 (·) (L:=4) (by decide) (by decide);have h15:d1<15:=Dt.ofNat_lt.mp hd1;have hx:ND d1<16/\ND d1≠4:=by unfold ND;split<;>exact⟨(·),(·)⟩
 obtain⟨sc,hsc,e3⟩:=aay (z:=z) (Ri:=Ri) (b:=b) (c:=c) (c1:=c1) (c2:=c2) h15 hd2;refine Rz.DH [c] (r1 []) () (Rz.DH [c1] (dF .q (ND d1) hx.1 [c1]) (aaA h15) (Rz.DH [c1] (r2 []) (aaz h15) (Rz.eq e3 ?_)));exact fS (z:=z) (Ri:=Ri) g2 (·) hb (.G4 ⟨_,hx.1,hx.2,Cs,hsc⟩) (λh=>Ks h hr) (.t (.D4 d1)) _ (.G4 rfl)
theorem mH (hg:AR k c) (hk:k<=2800) (hb:MG b) (hr:b≠Cd) {d:BF} (hd:d=1\/d=2\/d=3\/d=4\/d=5):Rz 6 (EX 1600 1 5 395 (JB z (.D4 d) b .Kr 1 []) [c]) (k+7) (NY z):=by
 obtain⟨d1,c1,hd1,g1,r1⟩:=ay hg (·) (L:=2) (by decide) (by decide);have e0:=ad (fS (z:=z) (Ri:= .D4 d) g1 (·) hb (.HX ⟨Cs,Cs⟩) (λ_=>rfl) (.t .Kr) [] (.HX rfl)) (show k+1+4<=k+7 by omega);have e1:=qP (z:=z) (Ri:= .D4 d) g1 (·) hb hr;have cases2:d1=0\/d1=1:=by omega
 rcases hd with rfl|rfl|rfl|rfl|rfl
 all_goals
  refine Rz.DH [c] (r1 _) () ?_;rcases cases2 with rfl|rfl
  .exact Rz.eq () e0
  .exact Rz.eq () e1
theorem xF (cs:St):Ct 2 1240 [] cs (.EM (.t Cd) cs):=aa λd=>by lk
theorem yi (n:BF):AJ .q n≠Cd:=λh=>Ks (T.Dq.Ky (VH.mk.Ky (AT.Dc.Ky (AT.Dc.Ky (T.LJ.Ky h).2).2).1).2) (by decide)
theorem qO (hg:AR k c) (hk:k<=2700) (z:Dt):∃v c' ext,NY z v ext/\AR (k+9) c'/\Ct 7 1600 [.FN 0,.t (.D4 z)] [c] (.EM v (c'::ext)):=by
 have Qt:Rz 6 (R 1600 [.FN 0,.t (.D4 z)] [c]) (k+9) (NY z):=by
  obtain⟨d,c1,hd,g1,r1⟩:=ay hg (·) (L:=6) (by decide) (by decide);refine Rz.DH [c] (r1 _) () ?_;have cases6:=gK hd;obtain⟨e,c2,he,g2,r2⟩:=ay g1 (·) (L:=16) (by decide) (by decide);have he:e<16:=by omega
  have gp:=dF .q e he [c2];have nx:=λd hd=>mH (z:=z) (b:=AJ .q e) g2 (·) (.G4 (.G4 ⟨e,he,Cs⟩)) (yi e) (d:=d) hd;rcases cases6 with rfl|rfl|rfl|rfl|rfl|rfl
  .refine Rz.DH [c1] (xF _) () ?_
   exact ad (Rz.eq () (fS (z:=z) (Ri:= .D4 0) g1 (·) (.G4 (.HX rfl)) (.HX ⟨Cs,Cs⟩) (λ_=>rfl) (.t .Kr) [] (.HX rfl))) (show k+1+4<=k+9 by omega)
  .exact ad (Rz.eq () (mH (z:=z) (b:= .Kr) g1 (·) (.HX rfl) (by simp[Cd,AH]) (d:=1) (.HX rfl))) (show k+1+7<=k+9 by omega)
  .exact Rz.DH [c1] (r2 _) () (Rz.DH [c2] gp () (Rz.eq () (nx 2 (by simp))))
  .exact Rz.DH [c1] (r2 _) () (Rz.DH [c2] gp () (Rz.eq () (nx 3 (by simp))))
  .exact Rz.DH [c1] (r2 _) () (Rz.DH [c2] gp () (Rz.eq () (nx 4 (by simp))))
  .exact Rz.DH [c1] (r2 _) () (Rz.DH [c2] gp () (Rz.eq () (nx 5 (by simp))))
 obtain⟨v,c',ext,q,g,go⟩:=Qt;exact⟨v,c',ext,q,g,ac go⟩
end
inductive Tm where
 |num (m:CV) (n:Dt)|ngn (n:Dt)|W9|near|reg (s:Dr)|idx (o:CV) (s:Dr) (k:Dt)
def DP:Tm->CV×It
 | .num m n=>(m,.p1 (.nu n))
 | .ngn n=>(Be,.p1 (.un BI (.nu n)))
 | .W9=>(Be,.p1 (.sy Ai))
 | .near=>(Be,.p1 (.sy `ds))
 | .reg s=>(Be,.p1 (.sy s))
 | .idx o s k=>(Be,BC o s k)
def Gc (t:Tm):T:=Fl (DP t)
def Ie:Tm->Dt
 | .num m n=>DB m n
 | .ngn n=> -n
 | .near=>4
 |_=>0
def Hq:Tm->BF
 | .W9=>1
 | .near=>1
 |_=>0
def Hs:Tm->AT Dr
 | .reg s=>[s]
 |_=>[]
def M9:Tm->AT (CV×Dr×Dt)
 | .idx o s k=>[(o,s,k)]
 |_=>[]
def DA (l:AT Tm):Dt:=(l.FW Ie).sum
def Cz (l:AT Tm):BF:=(l.FW Hq).sum
def BK (l:AT Tm):AT Dr:=l.KK Hs
def BM (l:AT Tm):AT (CV×Dr×Dt):=l.KK M9
def EJ:Tm->Prop
 | .num _ n=>Fk n
 | .ngn n=>Fk n
 | .idx _ _ k=>Fk k
 |_=>True
structure TS (ds:AT Tm) (l w:Dt) (n':Dr):Prop where
 sum:DA ds+l=w
 sy:(n'=Ae/\Cz ds=0)\/(n'=Ai/\Cz ds=1)
 rg:BK ds=[]
 ix:BM ds=[]
 ok:∀t∈ds,EJ t
theorem dK (a b:AT Tm):DA (a++b)=DA a+DA b:=by simp[DA]
theorem dL (a b:AT Tm):Cz (a++b)=Cz a+Cz b:=by simp[Cz]
theorem dy (a b:AT Tm):BK (a++b)=BK a++BK b:=by simp[BK]
theorem dE (a b:AT Tm):BM (a++b)=BM a++BM b:=by simp[BM]
theorem TS.num {ds:AT Tm} {l w:Dt} {n':Dr} (h:TS ds l w n') (t:Tm) (l':Dt) (hl:Ie t+l'=l) (h1:Hq t=0) (h2:Hs t=[]) (h3:M9 t=[]) (h4:EJ t):TS (ds++[t]) l' w n' where
 sum:=by rw[dK];have:=h.sum;simp[DA] at F4⊢;omega
 sy:=by rw[dL];have:=h.sy;simpa [Cz,h1] using F4
 rg:=by rw[dy,h.rg];simp[BK,h2]
 ix:=by rw[dE,h.ix];simp[BM,h3]
 ok:=λu hu=>by
  rcases AT.JX.mp hu with q|q
  .exact h.ok u q
  .rw[AT.H9.mp q];exact h4
def AQ (ds:AT Tm):AT V:=ZW (ds.FW Gc)
theorem d4 (a b:AT Tm):AQ (a++b)=AQ a++AQ b:=by simp[AQ,ZW]
theorem aT (a:AT Tm):(AQ a).A8=a.A8:=by simp[AQ,ZW]
def Z2 (c:C) (fs:AT V) (g:St):St:=c:: .Dg fs::g
def AP (m:Mt) (vs:AT V) (cs:St) (i:BF) (Xr:Dr) (K:St->An):An:=AA (AU `at cs [.t (.Dq Xr),.FN i]) 98 λp=>br (BF.Ls p.1.A8 Af) (AA (AX p.2 (.FN 1)) 56 λl=>Mh 1 (.FN 1) l m (vs++[.t (.Ld p.1)]) p.2 λ_ cs=>K cs) (.D9 42)
theorem aan {α:Type} (g l:AT α) (i:BF) (x:α):PF (g++l) (g.A8+i) x=g++PF l i x:=by
 induction g with
 |HU=>rw[AT.KC,BF.PX];rfl
 |Dc a g ih=>rw[AT.DW,BF.succ_add];exact FY (a:: ·) ih
theorem cm {cs:St} {i:BF} {rt:AT T} (h:J7 cs i=A9 (.Dg (ZW rt))) (n:BF):WC (n+1) cs (.FN i)=A9 (.Dg rt,PF cs i (.fz (.Dg rt))):=by
 rw[m6 h]
 show((AU (WC n) cs (ZW rt)).G3 λp=>(EU p.2 i).G3 λ_=>A9 (T.Dg p.1,PF p.2 i (.fz (.Dg p.1))))=_
 rw[m7]
 show((EU cs i).G3 λ_=>A9 (T.Dg rt,PF cs i (.fz (.Dg rt))))=_
 unfold EU;rw[h];rfl
theorem fA {cs:St} {i:BF} {rt:AT T} (h:J7 cs i=A9 (.Dg (ZW rt))) (Xr:Dr):AU (WC BN) cs [.t (.Dq Xr),.FN i]=A9 ([.Dq Xr,.Dg rt],PF cs i (.fz (.Dg rt))):=by
 exact JS (p:=(T.Dq Xr,cs)) rfl (JS (cm h 11) Rm)
section
variable {c:C} {fs:AT V} {g g2:St} {K:St->An} {Xr:Dr} {rt:AT T} {i:BF}
theorem ju (h:J7 (Z2 c fs g) (i+2)=A9 (.Dg (ZW rt))) (hl:fs.A8<=4000):AP .Le [] (Z2 c fs g) (i+2) Xr K=K (Z2 c (fs++[.t (.Ld [.Dq Xr,.Dg rt])]) (PF g i (.fz (.Dg rt)))):=by
 unfold AP;rw[fA h];show br (El 1 1 (.t (.Ld [.Dq Xr,.Dg rt]))&&BF.Ls fs.A8 Af) _ _=_;rw[aJ (show(El 1 1 (.t (.Ld [.Dq Xr,.Dg rt]))&&BF.Ls fs.A8 Af)=Bj from aK hl)];rfl
theorem tL {d:BF} (h:J7 (Z2 c fs g) (i+2)=A9 (.Dg (ZW rt))) (hl:fs.A8<=4000) (hd:d<=fs.A8):AP .RE [.t (.D4 d)] (Z2 c fs g) (i+2) Xr K=K (Z2 c (fs.Gk d++ .t (.Ld [.Dq Xr,.Dg rt])::fs.F3 d) (PF g i (.fz (.Dg rt)))):=by
 unfold AP;rw[fA h];show br (El 1 1 (.t (.Ld [.Dq Xr,.Dg rt]))&&BF.Ls fs.A8 Af&&CF 0 (d:Dt)&&CF (d:Dt) (fs.A8:BF)) _ _=_;rw[show(El 1 1 (.t (.Ld [.Dq Xr,.Dg rt]))&&BF.Ls fs.A8 Af)=Bj from aK hl,show CF 0 (d:Dt)=Bj from GO (·),show CF (d:Dt) (fs.A8:BF)=Bj from GO (·)];rfl
end
theorem bX (c:C) (fs:AT V) (g:St) (x:C) (l:St):J7 (Z2 c fs (g++x::l)) (g.A8+2)=A9 x:=i3 g (x::l) 0
theorem qX (c:C) (fs:AT V) (g:St) (y x:C):J7 (Z2 c fs (g++[y,x])) (g.A8+1+2)=A9 x:=i3 g [y,x] 1
structure TF (ds:AT Tm) (b ix:T) (sc w:Dt) (n':Dr):Prop where
 sum:DA ds=w
 sy:(n'=Ae/\Cz ds=0)\/(n'=Ai/\Cz ds=1)
 rg:(b= .Kr/\BK ds=[])\/∃s,BD s b/\Qa b/\BK ds=[s]
 ix:(ix= .Kr/\BM ds=[])\/∃o s,BD s ix/\Qa ix/\BM ds=[(o,s,sc)]
 ok:∀t∈ds,EJ t
 ne:ds≠[]
 Oa:ds.A8<=6
def TQ (b ix:T) (sc w:Dt) (n':Dr) (v:V) (ext:St):Prop:=v= .FN 1/\∃ds,TF ds b ix sc w n'/\ext=[.Dg (AQ ds)]
def Bb (b ix:T) (sc w z:Dt) (sg n':Dr) (l:Dt) (Do:Ag):Ag:=(`dD,.FN 0)::(`dw,.t (`i n'))::(s!"found",.FN 1)::(`di,.t (.D4 l))::Do
def Nl (Do:Ag):Prop:=Do=[]\/∃x y,Do=[(Br,x),(`dE,y)]
def Pn (i j m:BF) (CL:Ag) (cs:St):An:=(`p m).ex ⟨Cv 1607,1,Bj⟩ ((Fd 1607 i).2.1.F3 j) CL cs (λCL cs=>EX 1607 1 (i+1) (399 - i) CL cs) (FP 1) (AW 1)
def Mx (l:AT IQ):AT Ez:=((l.head?.G3 Im).G3 λe=>(G9 e).G3 λc=>A9 c.2).RT []
section
variable {c:C} {b ix:T} {sc w z l:Dt} {sg n':Dr} {k:BF} {ds:AT Tm} {g:St} {Do:Ag} {fs:AT V}
theorem t7 (Do:Ag):EX 1607 1 7 393 (Bb b ix sc w z sg n' l Do) (Z2 c (AQ ds) g)= .EM (.FN 1) [c,.Dg (AQ ds)]:=by
 refine Eq.CX (show _=Er (Z2 c `u g) 1 (.FN 1) by lk) ?_;show AA (FF 1 (.FN 1) (Z2 c `u g)) 172 (λp=>An.EM p.1 p.2)=_;rw[iR (b:=1) (i:=1) (l:=ds.FW Gc) rfl rfl];rfl
theorem dp {α:Type} (f:AT Tm->AT α) (hf:∀a b,f (a++b)=f a++f b) (ds:AT Tm) (t:Tm) (d:BF) (h:f ds=[]):f (ds.Gk d++t::ds.F3 d)=f [t]:=by
 have e:f (ds.Gk d)++f (ds.F3 d)=[]:=by rw[<-hf,AT.Kb,h]
 obtain⟨e1,e2⟩:=AT.append_eq_nil_iff.mp e;rw[hf,show t::ds.F3 d=[t]++ds.F3 d from rfl,hf,e1,e2]
 simp
theorem dJ {α:Type} (f:AT Tm->AT α) (hf:∀a b,f (a++b)=f a++f b) (ds:AT Tm) (t:Tm) (d:BF) (h:f [t]=[]):f (ds.Gk d++t::ds.F3 d)=f ds:=by
 rw[hf,show t::ds.F3 d=[t]++ds.F3 d from rfl,hf,h,AT.nil_append,<-hf,AT.Kb]
theorem jI (ds:AT Tm) (t:Tm) (d:BF):DA (ds.Gk d++t::ds.F3 d)=DA ds+Ie t:=by
 have e:DA (ds.Gk d)+DA (ds.F3 d)=DA ds:=by rw[<-dK,AT.Kb]
 rw[dK,show t::ds.F3 d=[t]++ds.F3 d from rfl,dK,show DA [t]=Ie t by simp[DA]];omega
theorem jJ (ds:AT Tm) (t:Tm) (d:BF):Cz (ds.Gk d++t::ds.F3 d)=Cz ds+Hq t:=by
 have e:Cz (ds.Gk d)+Cz (ds.F3 d)=Cz ds:=by rw[<-dL,AT.Kb]
 rw[dL,show t::ds.F3 d=[t]++ds.F3 d from rfl,dL,show Cz [t]=Hq t by simp[Cz]];omega
theorem mT {ds:AT Tm} {t u:Tm} {d:BF} (h:u∈ds.Gk d++t::ds.F3 d):u=t\/u∈ds:=by
 rcases AT.JX.mp h with q|q
 .exact .G4 (AT.mem_of_mem_take q)
 .rcases AT.GZ.mp q with q|q
  .exact .HX q
  .exact .G4 (AT.QP q)
theorem m5 (ds:AT Tm) (t:Tm) (d:BF):(AQ ds).Gk d++ .t (Gc t)::(AQ ds).F3 d=AQ (ds.Gk d++t::ds.F3 d):=by
 rw[d4];simp[AQ,ZW,AT.map_take,AT.map_drop]
structure T6 (ds:AT Tm) (b:T) (w:Dt) (n':Dr):Prop where
 sum:DA ds=w
 sy:(n'=Ae/\Cz ds=0)\/(n'=Ai/\Cz ds=1)
 rg:(b= .Kr/\BK ds=[])\/∃s,BD s b/\Qa b/\BK ds=[s]
 ix:BM ds=[]
 ok:∀t∈ds,EJ t
 Oa:ds.A8<=5
structure Pf (v:T) (s:Dr):Prop where
 as:AS s
 lo:BD s v
 up:BD (LX s) v
 LJ:∃kd i zz,v=AH s kd i zz
theorem Pf.Qa {v:T} {s:Dr} (h:Pf v s):Qa v:=by
 obtain⟨kd,i,zz,Cs⟩:=h.LJ;exact⟨_,Cs⟩
theorem vz {d n:BF} (h:n<=5):min d n+(n - d+1)<=6:=by omega
theorem xo (hg:AR k c) (hk:k<=3990) (h:T6 ds b w n') (hsc:IJ sc) {s s':Dr} (hs:BD s' ix) (hi:Qa ix) (o:CV) (r:BF) (row:AT T) (hrow:row=(Az (BC o s' sc)).FW Aw) (hr:J7 (Z2 c (AQ ds) g) (r+2)=A9 (.Dg (ZW row))) (ht:Nl Do):
  Rz 6 (Pn 6 2 391 (Bb b ix sc w z sg n' l (Do++[(Da,.FN (r+2))])) (Z2 c `u g)) (k+1) `H:=by
 obtain⟨d,c',hd,g',dr⟩:=ay hg (·) (L:=((AQ ds).A8:BF)+1) (·) (by rw[aT];have:=h.Oa;omega);refine Rz.eq (show _=br (BF.Ls (AQ ds).A8 Af) (.DH 1558 [.FN 0,.t (.D4 ((AQ ds).A8+1))] (Z2 c `u g) (λv cs=>AP .RE [v] cs (r+2) Bk λSe=>EX 1607 1 7 393 (Bb b ix sc w z sg n' l (Do++[(Da,.FN (r+2))])) Se) (AW 1)) (.D9 9) by
  apply gS ht<;>intros<;>lk) ?_
 rw[aJ (aK (by rw[aT];have:=h.Oa;omega))];refine Rz.DH (Z2 c `u g) (dr (.Dg `u::g)) rfl ?_;have hr':J7 (Z2 c' `u g) (r+2)=A9 (.Dg (ZW row)):=hr
 change Rz 6 (AP _ _ (Z2 c' `u g) _ _ _) _ _
 rw[tL hr' (by rw[aT];have:=h.Oa;omega) (·),hrow]
 change Rz 6 (EX _ _ _ _ _ (Z2 c' ((AQ ds).Gk d++ .t (Gc (.idx o s' sc))::(AQ ds).F3 d) _)) _ _
 rw[m5,t7];refine Rz.EM rfl ⟨Cs,_,⟨?_,?_,?_,.G4 ⟨o,s',hs,hi,?_⟩,?_,?_,?_⟩,Cs⟩ g'
 .rw[jI];exact(Dt.add_zero _).CX h.sum
 .rw[jJ];exact h.sy
 .rw[dJ BK dy _ _ _ rfl];exact h.rg
 .rw[dp BM dE _ _ _ h.ix];rfl
 .intro u hu
  rcases mT hu with rfl|q
  .rcases hsc with rfl|rfl|rfl|rfl<;>(show Fk _;unfold Fk;decide)
  .exact h.ok u q
 .simp
 .rw[AT.DE,AT.DW,AT.Ok,AT.LF];exact vz h.Oa
end
theorem gi {cs:St} {r j:BF} {l:AT V} {v:V} (h:J7 cs r=A9 (.Dg l)) (hv:J7 l j=A9 v) (hj:j<=4000) (k:KV):Fw (.FN r) (.t (.D4 j)) cs k=k v cs:=by
 have e:BW cs (.FN r)=A9 l:=bI h;unfold Fw;dsimp only;rw[e];dsimp only;rw[aJ (zM hj),jg];show AA (J7 l j) 66 (λv=>k v cs)=_;rw[hv];rfl
section
variable {c:C} {b ix:T} {sc w z l:Dt} {sg n':Dr} {k:BF} {ds:AT Tm} {g:St} {Do:Ag} {fs:AT V}
theorem yB (r:BF) (g:St) (ht:Nl Do):(`p 391).ex ⟨Cv 1607,1,Bj⟩ ((Fd 1607 6).2.1.F3 1|>λs=>match s with| .If _ a _ _::_=>a|_=>[]) (Bb b ix sc w z sg n' l (Do++[(Da,.FN r)])) (Z2 c fs g) (λCL cs=>Pn 6 2 391 CL cs) (FP 1) (AW 1)=
  Fw (.FN r) (.t (.D4 2)) (Z2 c fs g) λv2 KM=>Fw (.FN r) (.t (.D4 1)) KM λv1 Se=>Fw (.FN r) (.t (.D4 0)) Se λZ0 cs4=>AA (AU Hd cs4 [v2,v1,Z0]) 97 λp=>br (BF.Ls p.1.A8 Af) (LH (.Dg p.1) p.2 λv cs5=>Pn 6 2 391 (Bb b ix sc w z sg n' l (Do++[(Da,v)])) cs5) (.D9 41):=by
 apply gS ht<;>intros<;>lk
theorem t6 (hg:AR k c) (hk:k<=3980) (h:T6 ds b w n') (hx:(ix= .Kr/\sc=1/\ds≠[])\/(IJ sc/\∃s,Pf ix s)) (ht:Nl Do):
  Rz 6 (EX 1607 1 6 394 `r (Z2 c `u g)) (k+3) `H:=by
 rcases hx with⟨Cs,Cs,Vo⟩|⟨hsc,s,hs⟩
 .refine Rz.eq (show _=EX 1607 1 7 393 (Bb b .Kr 1 w z sg n' l Do) (Z2 c `u g) by lk) ?_
  rw[t7];exact Rz.EM rfl ⟨Cs,ds,⟨h.sum,h.sy,h.rg,.HX ⟨Cs,h.ix⟩,h.ok,Vo,by have:=h.Oa;omega⟩,Cs⟩ (hg.Ey (·))
 .obtain⟨kd,i,zz,Cs⟩:=hs.LJ
  obtain⟨s',c1,hs',g1,cr⟩:=jr hg (·) hs.as;obtain⟨d,c2,hd,g2,dr⟩:=ay g1 (·) (L:=2) (by decide) (by decide);have hreg:BD s' `K:=by rcases hs' with rfl|rfl;exact hs.lo;exact hs.up
  have K7:=λc3 (g3:AR (k+2) c3) gg o r row hrow hr=>xo (s:=s) (b:=b) (w:=w) (z:=z) (sg:=sg) (n':=n') (l:=l) (Do:=Do) (c:=c3) (g:=gg) g3 (·) h hsc hreg hs.Qa o r row hrow hr ht;have e1:EX 1607 1 6 394 (Bb b `K sc w z sg n' l Do) (Z2 c `u g)= .DH 1614 [.FN 0,.t (.Dq s)] (Z2 c `u g) (FR (EX 1607 1 6 394 (Bb b `K sc w z sg n' l Do) (Z2 c `u g))) (Jw (EX 1607 1 6 394 (Bb b `K sc w z sg n' l Do) (Z2 c `u g))):=by apply gS ht<;>intros<;>lk
  refine Rz.DH (Z2 c `u g) (cr (.Dg `u::g)) e1 ?_;refine Rz.eq (show _=Pn 6 1 392 (Bb b `K sc w z sg n' l (Do++[(Da,.FN (g.A8+2))])) (Z2 c1 `u (g++[.Dg (ZW ((Az `P).FW Aw))])) by apply gS ht<;>intros<;>lk) ?_;refine Rz.DH (Z2 c1 `u (g++[.Dg (ZW ((Az `P).FW Aw))])) (dr (.Dg `u::(g++[.Dg (ZW ((Az `P).FW Aw))]))) (by apply gS ht<;>intros<;>lk) ?_;have hd:d=0\/d=1:=by omega
  rcases hd with rfl|rfl
  .refine Rz.eq (show _=Pn 6 2 391 (Bb b `K sc w z sg n' l (Do++[(Da,.FN (g.A8+2))])) (Z2 c2 `u (g++[.Dg (ZW ((Az `P).FW Aw))])) by apply gS ht<;>intros<;>lk) ?_
   exact K7 c2 g2 _ Be g.A8 _ rfl (bX ..)
  .refine Rz.eq (show _=(`p 391).ex ⟨Cv 1607,1,Bj⟩ ((Fd 1607 6).2.1.F3 1|>λs=>match s with| .If _ a _ _::_=>a|_=>[]) (Bb b `K sc w z sg n' l (Do++[(Da,.FN (g.A8+2))])) (Z2 c2 `u (g++[.Dg (ZW ((Az `P).FW Aw))])) (λCL cs=>Pn 6 2 391 CL cs) (FP 1) (AW 1) by apply gS ht<;>intros<;>lk) ?_
   rw[yB _ _ ht];have hn:=bX c2 `u g (.Dg (ZW ((Az `P).FW Aw))) [];have i2:=λk=>gi (j:=2) (v:= .t (Aw (.nu sc))) hn rfl (by decide) k;have i1:=λk=>gi (j:=1) (v:= .t (Aw (.sg AE))) hn rfl (by decide) k;have i0:=λk=>gi (j:=0) (v:= .t (Aw (.na s'))) hn rfl (by decide) k;refine Rz.eq (Eq.CX (i2 _) (Eq.CX (i1 _) (i0 _))) ?_;refine Rz.eq (show _=Pn 6 2 391 (Bb b `K sc w z sg n' l (Do++[(Da,.FN (Z2 c2 `u (g++[.Dg (ZW ((Az `P).FW Aw))])).A8)])) (Z2 c2 `u (g++[.Dg (ZW ((Az `P).FW Aw))])++[.Dg (ZW ((Az (BC Bj s' sc)).FW Aw))]) from rfl) ?_
   have el:(Z2 c2 `u (g++[.Dg (ZW ((Az `P).FW Aw))])).A8=g.A8+1+2:=by simp[Z2]
   have es:Z2 c2 `u (g++[.Dg (ZW ((Az `P).FW Aw))])++[.Dg (ZW ((Az (BC Bj s' sc)).FW Aw))]=Z2 c2 `u (g++[.Dg (ZW ((Az `P).FW Aw)),.Dg (ZW ((Az (BC Bj s' sc)).FW Aw))]):=by simp[Z2]
   rw[el,es];exact K7 c2 g2 _ Bj (g.A8+1) _ rfl (qX ..)
end
structure BX (b ix:T) (sc:Dt):Prop where
 hb:b= .Kr\/∃s,Pf b s
 hx:(ix= .Kr/\sc=1)\/(IJ sc/\∃s,Pf ix s)
structure T5 (ds:AT Tm) (w:Dt) (n':Dr):Prop where
 sum:DA ds=w
 sy:(n'=Ae/\Cz ds=0)\/(n'=Ai/\Cz ds=1)
 rg:BK ds=[]
 ix:BM ds=[]
 ok:∀t∈ds,EJ t
 Oa:ds.A8<=4
def SB:AT IQ->Ez×AT IQ×AT IQ
 | .If t a b _::_=>(t,a,b)
 |_=>(.KP .BH 0 default,[],[])
def Uw (e:Ez):AT Ez:=(Dw e.E5 0 λh=>Ez.VJ.Dk e h λ_ es _=>A9 es).RT []
section
variable {c:C} {b ix:T} {sc w z l:Dt} {sg n':Dr} {k:BF} {ds:AT Tm} {g:St} {Do:Ag} {fs:AT V}
theorem t5 (hg:AR k c) (hk:k<=3900) (h:T5 ds w n') (hbx:BX b ix sc) (Vo:b= .Kr->ix= .Kr->ds≠[]) (ht:Nl Do):
  Rz 6 (EX 1607 1 5 395 `r (Z2 c `u g)) (k+5) `H:=by
 rcases hbx.hb with rfl|⟨s,hs⟩
 .refine Rz.eq (show _=EX 1607 1 6 394 (Bb .Kr ix sc w z sg n' l Do) (Z2 c `u g) by lk) ?_
  refine ad (t6 hg (·) ⟨h.sum,h.sy,.HX ⟨Cs,h.rg⟩,h.ix,h.ok,by have:=h.Oa;omega⟩ ?_ ht) (·);rcases hbx.hx with⟨Cs,Cs⟩|q
  .exact .HX ⟨Cs,Cs,Vo rfl rfl⟩
  .exact .G4 q
 .obtain⟨kd,i,zz,Cs⟩:=hs.LJ
  obtain⟨d,c1,hd,g1,dr⟩:=ay hg (·) (L:=((AQ ds).A8:BF)+1) (·) (by rw[aT];have:=h.Oa;omega);obtain⟨s',c2,hs',g2,cr⟩:=jr g1 (·) hs.as;have hreg:BD s' `K:=by rcases hs' with rfl|rfl;exact hs.lo;exact hs.up
  refine Rz.eq (show _=br (BF.Ls (AQ ds).A8 Af) (.DH 1558 [.FN 0,.t (.D4 ((AQ ds).A8+1))] (Z2 c `u g) (λv cs=>Ms (`p 392) ⟨Cv 1607,1,Bj⟩ ((Mx (Fd 1607 5).2.1).F3 1) (Bb `K ix sc w z sg n' l Do) cs (λvs KM=>AA (AX KM (.FN 1)) 56 λl'=>Mh 1 (.FN 1) l' .RE (v::vs) KM λ_ Se=>EX 1607 1 6 394 (Bb `K ix sc w z sg n' l Do) Se) (AW 1)) (AW 1)) (.D9 9) by
   apply gS ht<;>intros<;>lk) ?_
  rw[aJ (aK (by rw[aT];have:=h.Oa;omega))];refine Rz.DH (Z2 c `u g) (dr (.Dg `u::g)) rfl ?_;refine Rz.DH (Z2 c1 `u g) (cr (.Dg `u::g)) (by apply gS ht<;>intros<;>lk) ?_;refine Rz.eq (show _=AP .RE [.t (.D4 d)] (Z2 c2 `u (g++[.Dg (ZW [Aw (.na s')])])) (g.A8+2) Bk λSe=>EX 1607 1 6 394 (Bb `K ix sc w z sg n' l Do) Se by apply gS ht<;>intros<;>lk) ?_;rw[tL (bX ..) (by rw[aT];have:=h.Oa;omega) (·)];show Rz 6 (EX 1607 1 6 394 (Bb `K ix sc w z sg n' l Do) (Z2 c2 ((AQ ds).Gk d++ .t (Gc (.reg s'))::(AQ ds).F3 d) _)) _ _;rw[m5]
  refine ad (t6 (k:=k+1+1) g2 (·) ⟨?_,?_,.G4 ⟨s',hreg,hs.Qa,?_⟩,?_,?_,?_⟩ ?_ ht) (·)
  .rw[jI];exact(Dt.add_zero _).CX h.sum
  .rw[jJ];exact h.sy
  .rw[dp BK dy _ _ _ h.rg];rfl
  .rw[dJ BM dE _ _ _ rfl];exact h.ix
  .intro u hu
   rcases mT hu with rfl|q
   .trivial
   .exact h.ok u q
  .have:=h.Oa;rw[AT.DE,AT.DW,AT.Ok,AT.LF];omega
  .rcases hbx.hx with⟨Cs,Cs⟩|q
   .exact .HX ⟨Cs,Cs,by simp⟩
   .exact .G4 q
theorem tR (h:TS ds 0 w n') (hl:ds.A8<=4):T5 ds w n':=⟨by have:=h.sum;omega,h.sy,h.rg,h.ix,h.ok,hl⟩
theorem t4b (hg:AR k c) (hk:k<=3800) (h:TS ds l w n') (N9:ds.A8<=3) (hlb:Fk l) (hbx:BX b ix sc) (ht:Nl Do):
  Rz 6 (HN 1607 1 4 395 `r (Z2 c `u g)) (k+6) `H:=by
 refine Rz.eq (show _=br (CQ l 0) (Ga (`p 393) ⟨Cv 1607,1,Bj⟩ .And ((Uw (SB (Fd 1607 4).2.1).1).F3 1) `r (Z2 c `u g) (λq G1=>br q ((`p 394).ex ⟨Cv 1607,1,Bj⟩ (SB (Fd 1607 4).2.1).2.1 `r G1 (λCL cs=>EX 1607 1 5 395 CL cs) (FP 1) (AW 1)) ((`p 394).ex ⟨Cv 1607,1,Bj⟩ (SB (Fd 1607 4).2.1).2.2 `r G1 (λCL cs=>EX 1607 1 5 395 CL cs) (FP 1) (AW 1))) (AW 1))
  ((`p 394).ex ⟨Cv 1607,1,Bj⟩ (SB (Fd 1607 4).2.1).2.2 `r (Z2 c `u g) (λCL cs=>EX 1607 1 5 395 CL cs) (FP 1) (AW 1)) by lk) ?_
 have els:∀c1 k1,AR k1 c1->k1<=k+1->Rz 6 ((`p 394).ex ⟨Cv 1607,1,Bj⟩ (SB (Fd 1607 4).2.1).2.2 `r (Z2 c1 `u g) (λCL cs=>EX 1607 1 5 395 CL cs) (FP 1) (AW 1)) (k+6) `H:=by
  intro c1 k1 g1 hk1;obtain⟨m,n,e,hn,h0,pl⟩:=b7 l;refine Rz.DH (Z2 c1 `u g) (pl _) (by apply gS ht<;>intros<;>lk) ?_;have hbn:Fk n:=by unfold Fk at hlb⊢;omega
  have K7:∀t:Tm,(Az (DP t).2).FW Aw=(Al `ar).FW Aw->(DP t).1=Be->Ie t=DB m n->Hq t=0->Hs t=[]->M9 t=[]->EJ t->Rz 6 (AP .Le [] (Z2 c1 `u (g++[.Dg (ZW ((Al `ar).FW Aw))])) (g.A8+2) Bk λcs=>EX 1607 1 5 395 `r cs) (k+6) `H:=by
   intro t et e1 e2 e3 e4 e5 e6;rw[ju (bX ..) (by rw[aT];omega)];have ett:(T.Ld [.Dq Bk,.Dg ((Al `ar).FW Aw)])=Gc t:=by
    rw[<-et];unfold Gc Fl Ce Ir;rw[e1];rfl
   rw[ett,show AQ ds++[V.t (Gc t)]=AQ (ds++[t]) by rw[d4];rfl];exact ad (t5 g1 (·) (tR (h.num t 0 (·) e3 e4 e5 e6) (by rw[AT.DE];simp;omega)) hbx (by simp) ht) (·)
  refine Rz.eq (show _=AP .Le [] (Z2 c1 `u (g++[.Dg (ZW ((Al `ar).FW Aw))])) (g.A8+2) Bk λcs=>EX 1607 1 5 395 `r cs by apply gS ht<;>intros<;>lk) ?_;cases m
  .exact K7 (.num Be n) rfl rfl rfl rfl rfl rfl hbn
  .exact K7 (.ngn n) rfl rfl rfl rfl rfl rfl hbn
 by_cases hlt:l<0
 .rw[aJ (show CQ l 0=Bj from GO hlt)]
  obtain⟨d,c1,hd,g1,dr⟩:=ay hg (·) (L:=2) (by decide) (by decide);refine Rz.DH (Z2 c `u g) (dr (.Dg `u::g)) (by apply gS ht<;>intros<;>lk) ?_;have hd:d=0\/d=1:=by omega
  rcases hd with rfl|rfl
  .exact Rz.eq (by apply gS ht<;>intros<;>lk) (els c1 (k+1) g1 (·))
  .refine Rz.eq (show _=AP .Le [] (Z2 c1 `u (g++[.Dg (ZW [Aw (.nu (0 - l))])])) (g.A8+2) BI λcs=>EX 1607 1 5 395 `r cs by apply gS ht<;>intros<;>lk) ?_
   rw[ju (bX ..) (by rw[aT];omega)];show Rz 6 (EX 1607 1 5 395 `r (Z2 c1 (AQ ds++AQ [.num Bj (0 - l)]) _)) _ _;rw[<-d4];exact ad (t5 g1 (·) (tR (h.num (.num Bj (0 - l)) 0 (by show -(0 - l)+0=l;omega) rfl rfl rfl (by show Fk _;unfold Fk at hlb⊢;omega)) (by rw[AT.DE];simp;omega)) hbx (by simp) ht) (·)
 .rw[fh (show CQ l 0=Be from H5 hlt)]
  exact els c k hg (·)
end
def LT (m:BF) (j n:Dt) (CL:Ag) (cs:St):An:=(`p m).fr ⟨Cv 1607,1,Bj⟩ Br (TE 1607 3) j n CL cs (λCL cs=>EX 1607 1 4 396 CL cs) (FP 1) (AW 1)
section
variable {c:C} {b ix:T} {sc w z l:Dt} {sg n':Dr} {k:BF} {ds:AT Tm} {g:St} {Do:Ag} {fs:AT V} {kk:BF}
theorem t4 (hg:AR k c) (hk:k<=3700) (h:TS ds l w n') (N9:ds.A8<=3) (hlb:Fk l) (hbx:BX b ix sc) (ht:Nl Do):
  Rz 6 (EX 1607 1 4 396 `r (Z2 c `u g)) (k+6) `H:=by
 have hb:b= .Kr\/GI b:=by
  rcases hbx.hb with rfl|⟨s,hs⟩
  .exact .HX rfl
  .obtain⟨kd,i,zz,Cs⟩:=hs.LJ;exact .G4 ⟨_,_,Cs⟩
 have hx:ix= .Kr\/GI ix:=by
  rcases hbx.hx with⟨Cs,_⟩|⟨_,s,hs⟩
  .exact .HX rfl
  .obtain⟨kd,i,zz,Cs⟩:=hs.LJ;exact .G4 ⟨_,_,Cs⟩
 have ce:Ej (Z2 c `u (g++[.Dg []])) .Eq (.FN 1) (.FN (g.A8+2))=A9 (CZ ds):=by
  show Nd (Z2 c `u (g++[.Dg []])) (.FN 1) (.FN (g.A8+2))=_;unfold Nd;rw[bI (bX c `u g (.Dg []) []),bI (show J7 (Z2 c `u (g++[.Dg []])) 1=A9 (.Dg `u) from rfl)];cases ds<;>rfl
 obtain⟨q,hq,hq2⟩:∃q,Ej (Z2 c `u (g++[.Dg []])) .Eq (.FN 1) (.FN (g.A8+2))=A9 q/\(q=Be->ds≠[]):=⟨_,ce,λh e=>by rw[e] at h;cases h⟩;have e5:(b= .Kr->ix= .Kr->ds≠[])->l=0->Rz 6 (EX 1607 1 5 395 `r (Z2 c `u (g++[.Dg []]))) (k+6) `H:=λVo h0=>ad (t5 hg (·) (tR (h0▸h) (·)) hbx Vo ht) (·);have eb:∀g,Rz 6 (HN 1607 1 4 395 `r (Z2 c `u g)) (k+6) `H:=λg=>t4b hg (·) h N9 hlb hbx ht;have e4:∀Y,(b= .Kr/\ix= .Kr/\Y=HN 1607 1 4 395 `r (Z2 c `u (g++[.Dg []])))\/((GI b\/(b= .Kr/\GI ix))/\Y=EX 1607 1 5 395 `r (Z2 c `u (g++[.Dg []])))->
   EX 1607 1 4 396 `r (Z2 c `u g)=br (!(HS l 0)) (HN 1607 1 4 395 `r (Z2 c `u g)) (AA (Ej (Z2 c `u (g++[.Dg []])) .Eq (.FN 1) (.FN (g.A8+2))) 59 λq=>br q Y (EX 1607 1 5 395 `r (Z2 c `u (g++[.Dg []])))):=by
  intro Y hY;rcases hY with⟨Cs,Cs,Cs⟩|⟨⟨b1,b2,Cs⟩|⟨Cs,x1,x2,Cs⟩,Cs⟩<;>lk
 by_cases h0:l=0
 .rcases hb with hb|hb
  .rcases hx with hx|hx
   .rw[e4 _ (.HX ⟨hb,hx,Cs⟩),fh (by rw[show HS l 0=Bj from GO h0];rfl),hq]
    cases q
    .exact e5 (λ_ _=>hq2 rfl) h0
    .exact eb _
   .rw[e4 _ (.G4 ⟨.G4 ⟨hb,hx⟩,Cs⟩),fh (by rw[show HS l 0=Bj from GO h0];rfl),hq]
    have Vo:b= .Kr->ix= .Kr->ds≠[]:=λ_ q=>by obtain⟨x1,x2,Cs⟩:=hx;cases q
    cases q<;>exact e5 Vo h0
  .rw[e4 _ (.G4 ⟨.HX hb,Cs⟩),fh (by rw[show HS l 0=Bj from GO h0];rfl),hq]
   have Vo:b= .Kr->ix= .Kr->ds≠[]:=λq _=>by obtain⟨x1,x2,Cs⟩:=hb;cases q
   cases q<;>exact e5 Vo h0
 .have hY:∃Y,(b= .Kr/\ix= .Kr/\Y=HN 1607 1 4 395 `r (Z2 c `u (g++[.Dg []])))\/((GI b\/(b= .Kr/\GI ix))/\Y=EX 1607 1 5 395 `r (Z2 c `u (g++[.Dg []]))):=by
   rcases hb with hb|hb
   .rcases hx with hx|hx
    .exact⟨_,.HX ⟨hb,hx,Cs⟩⟩
    .exact⟨_,.G4 ⟨.G4 ⟨hb,hx⟩,Cs⟩⟩
   .exact⟨_,.G4 ⟨.HX hb,Cs⟩⟩
  obtain⟨Y,hY⟩:=hY;rw[e4 Y hY,aJ (by rw[show HS l 0=Be from H5 h0];rfl)];exact eb g
theorem lna {x a n d:BF} (h:x<=a+(d:Dt).J3) (hl:a<=2147483652+65536*n) (hd:(d:Dt)<65536):x<=2147483652+65536*(n+1):=
 BF.On h (BF.On (BF.add_le_add hl (BF.le_of_lt (Dt.ofNat_lt.mp hd))) (BF.QK (BF.RD ..)))
theorem i9 (hg:AR k c) (hk:k<=3600) (m:BF) {j n:Dt} (hjn:(j=0/\n=1)\/(j=0/\n=2)\/(j=1/\n=2)) (h:TS ds l w n') (N9:ds.A8<=2) (hlb:l.J3<=2147483652+65536*ds.A8) (ht:Nl Do) {Q:V->St->Prop}
  (next:∀c' t l' g',AR (k+2) c'->TS (ds++[t]) l' w n'->l'.J3<=2147483652+65536*(ds.A8+1)->∀Ra,Nl Ra->Rz 6 (LT (m+19) (j+1) n (Bb b ix sc w z sg n' l' Ra) (Z2 c' (AQ (ds++[t])) g')) kk Q):
  Rz 6 (LT (m+20) j n `r (Z2 c `u g)) kk Q:=by
 obtain⟨d1,c1,hd1,g1,r1⟩:=ay hg (·) (L:=65536) (by decide) (by decide);obtain⟨d2,c2,hd2,g2,r2⟩:=ay g1 (·) (L:=2) (by decide) (by decide);refine Rz.DH (Z2 c `u g) (r1 (.Dg `u::g)) (by rcases hjn with⟨Cs,Cs⟩|⟨Cs,Cs⟩|⟨Cs,Cs⟩<;>rcases ht with rfl|⟨x,y,Cs⟩<;>lk) ?_;refine Rz.DH (Z2 c1 `u g) (r2 (.Dg `u::g)) (by rcases hjn with⟨Cs,Cs⟩|⟨Cs,Cs⟩|⟨Cs,Cs⟩<;>rcases ht with rfl|⟨x,y,Cs⟩<;>lk) ?_;have hbd:Fk (d1:Dt):=BF.VU (Dt.ofNat_lt.mp hd1) (by decide);have hd2:d2=0\/d2=1:=by omega
 rcases hd2 with rfl|rfl
 .refine Rz.eq (show _=AP .Le [] (Z2 c2 `u (g++[.Dg (ZW [Aw (.nu d1)])])) (g.A8+2) Bk λcs=>LT (m+19) (j+1) n (Bb b ix sc w z sg n' (l - d1) [(Br,.t (.D4 j)),(`dE,.t (.D4 d1))]) cs by
   rcases hjn with⟨Cs,Cs⟩|⟨Cs,Cs⟩|⟨Cs,Cs⟩<;>rcases ht with rfl|⟨x,y,Cs⟩<;>lk) ?_
  rw[ju (bX ..) (by rw[aT];omega)];show Rz 6 (LT (m+19) (j+1) n (Bb b ix sc w z sg n' (l - d1) [(Br,.t (.D4 j)),(`dE,.t (.D4 d1))]) (Z2 c2 (AQ ds++AQ [.num Be d1]) _)) _ _;rw[<-d4];exact next c2 (.num Be d1) (l - d1) _ g2 (h.num _ _ (by show d1+(l - d1)=l;omega) rfl rfl rfl hbd) (lna (Dt.VO ..) hlb hd1) _ (.G4 ⟨_,_,Cs⟩)
 .refine Rz.eq (show _=AP .Le [] (Z2 c2 `u (g++[.Dg (ZW [Aw (.nu d1)])])) (g.A8+2) BI λcs=>LT (m+19) (j+1) n (Bb b ix sc w z sg n' (l+d1) [(Br,.t (.D4 j)),(`dE,.t (.D4 d1))]) cs by
   rcases hjn with⟨Cs,Cs⟩|⟨Cs,Cs⟩|⟨Cs,Cs⟩<;>rcases ht with rfl|⟨x,y,Cs⟩<;>lk) ?_
  rw[ju (bX ..) (by rw[aT];omega)];show Rz 6 (LT (m+19) (j+1) n (Bb b ix sc w z sg n' (l+d1) [(Br,.t (.D4 j)),(`dE,.t (.D4 d1))]) (Z2 c2 (AQ ds++AQ [.num Bj d1]) _)) _ _;rw[<-d4];exact next c2 (.num Bj d1) (l+d1) _ g2 (h.num _ _ (by show -d1+(l+d1)=l;omega) rfl rfl rfl hbd) (lna (Dt.natAbs_add_le ..) hlb hd1) _ (.G4 ⟨_,_,Cs⟩)
theorem xV (m:BF) {j:Dt} (hj:j=0\/j=1\/j=2) (CL:Ag) (cs:St):LT (m+20) j j CL cs=EX 1607 1 4 396 CL cs:=by
 apply wP hj<;>lk
theorem t3 (hg:AR k c) (hk:k<=3500) (h:TS ds l w n') (N9:ds.A8<=1) (hlb:l.J3<=2147483652+65536*ds.A8) (hbx:BX b ix sc):
  Rz 6 (EX 1607 1 3 397 (Bb b ix sc w z sg n' l []) (Z2 c `u g)) (k+11) `H:=by
 obtain⟨d,c1,hd,g1,dr⟩:=ay hg (·) (L:=3) (by decide) (by decide);refine Rz.DH (Z2 c `u g) (dr (.Dg `u::g)) () ?_;have K7:∀k' c' ds' l' g' Do m (j:Dt),(j=0\/j=1\/j=2)->AR k' c'->k'<=k+5->TS ds' l' w n'->ds'.A8<=3->l'.J3<=2147483652+65536*ds'.A8->Nl Do->Rz 6 (LT (m+20) j j (Bb b ix sc w z sg n' l' Do) (Z2 c' (AQ ds') g')) (k+11) `H:=by
  intro k' c' ds' l' g' Do m j hj g' hk' h' hl' hb' ht';rw[xV _ hj];exact ad (t4 g' (·) h' hl' (by unfold Fk;omega) hbx ht') (·)
 rcases lt3 hd with rfl|rfl|rfl
 .exact Rz.eq (show _=LT (376+20) 0 0 (Bb b ix sc w z sg n' l []) (Z2 c1 `u g) by lk) (K7 (k+1) c1 ds l g [] 376 0 (.HX rfl) g1 (·) h (·) (·) (.HX rfl))
 .refine Rz.eq (show _=LT (376+20) 0 1 (Bb b ix sc w z sg n' l []) (Z2 c1 `u g) by lk) ?_
  refine i9 g1 (·) 376 (.HX ⟨Cs,Cs⟩) h (·) hlb (.HX rfl) λc' t l' g' gd h' hb' Ra ht'=> ?_;exact K7 (k+1+2) c' (ds++[t]) l' g' Ra 375 1 (.G4 (.HX rfl)) gd (·) h' (by rw[AT.DE];simp;omega) (by rw[AT.DE];exact hb') ht'
 .refine Rz.eq (show _=LT (376+20) 0 2 (Bb b ix sc w z sg n' l []) (Z2 c1 `u g) by lk) ?_
  refine i9 g1 (·) 376 (.G4 (.HX ⟨Cs,Cs⟩)) h (·) hlb (.HX rfl) λc' t l' g' gd h' hb' Ra ht'=> ?_;refine i9 (j:=1) (n:=2) gd (·) 375 (.G4 (.G4 ⟨Cs,Cs⟩)) h' (by rw[AT.DE];simp;omega) (by rw[AT.DE];exact hb') ht' λc2 t2 l2 g2 gd2 h2 hb2 tail2 ht2=> ?_;exact K7 (k+1+2+2) c2 (ds++[t]++[t2]) l2 g2 tail2 374 2 (.G4 (.G4 rfl)) gd2 (·) h2 (by rw[AT.DE,AT.DE];simp;omega) (by rw[AT.DE];exact hb2) ht2
theorem qf (hg:AR k c) (hk:k<=3400) (hw:HH w) (hn:Hh n') (hbx:BX b ix sc):∃c' ds,TF ds b ix sc w n'/\AR (k+12) c'/\Ct 7 1607 [.FN 0,.t (`i n')] [c] (.EM (.FN 1) [c',.Dg (AQ ds)]):=by
 have Qt:Rz 6 (R 1607 [.FN 0,.t (`i n')] [c]) (k+12) `H:=by
  obtain⟨w1,w2⟩:=hw;rcases hn with rfl|rfl
  .refine Rz.eq (show _=EX 1607 1 3 397 (Bb b ix sc w z sg Ae w []) (Z2 c (AQ []) []) by lk) ?_
   exact ad (t3 hg (·) ⟨by simp[DA],.HX ⟨Cs,Cs⟩,Cs,Cs,by simp⟩ (by simp) (by simp;omega) hbx) (·)
  .obtain⟨d,c1,hd,g1,dr⟩:=ay hg (·) (L:=2) (by decide) (by decide)
   refine Rz.DH (Z2 c [] []) (dr [.Dg []]) () ?_;have hd:d=0\/d=1:=by omega
   rcases hd with rfl|rfl
   .refine Rz.eq (show _=EX 1607 1 3 397 (Bb b ix sc w z sg Ai w []) (Z2 c1 (AQ [.W9]) [.fz (.Dg [Aw (.na Ai)])]) by lk) ?_
    exact t3 g1 (·) ⟨Dt.PX _,.G4 ⟨Cs,Cs⟩,Cs,Cs,λt h=>(AT.H9.mp h).Hl▸True.intro⟩ (by simp) (by simp;omega) hbx
   .refine Rz.eq (show _=EX 1607 1 3 397 (Bb b ix sc w z sg Ai (w - 4) []) (Z2 c1 (AQ [.near]) [.fz (.Dg [Aw (.na `ds)])]) by lk) ?_
    exact t3 g1 (·) ⟨by show 4+(w - 4)=w;omega,.G4 ⟨Cs,Cs⟩,Cs,Cs,λt h=>(AT.H9.mp h).Hl▸True.intro⟩ (by simp) (by simp;omega) hbx
 obtain⟨v,c',ext,⟨Cs,ds,tf,Cs⟩,gd,go⟩:=Qt;exact⟨c',ds,tf,gd,ac go⟩
end
def DQ (b ix:T) (S:SS):Tm->SS
 | .num m n=>S.PF (S.w+DB m n) S.sy S.mi
 | .ngn n=>S.PF (S.w+ -n) S.sy S.mi
 | .W9=>S.PF (S.w+0) Ai S.mi
 | .near=>S.PF (S.w+4) Ai S.mi
 | .reg _=>S.reg b
 | .idx _ _ k=>S.idx ix k
def Cf (b ix:T):SS->AT Tm->SS
 |S,[]=>S
 |S,t::r=>Cf b ix (DQ b ix S t) r
theorem o3 (b ix:T) (a:AT Tm) (S:SS) (r:AT Tm):Cf b ix S (a++r)=Cf b ix (Cf b ix S a) r:=by
 induction a generalizing S with
 |HU=>rfl
 |Dc t a ih=>exact ih _
structure E4 (b ix:T) (S:SS) (ds:AT Tm):Prop where
 mi:S.mi=Ae
 sy:(S.sy=Ae/\Cz ds<=1)\/(S.sy=Ai/\Cz ds=0)
 pl:(S.pl=[]/\(BK ds).A8<=1)\/((∃x,S.pl=[x])/\BK ds=[])
 rg:∀s∈BK ds,BD s b/\Qa b
 xl:(S.ix= .Kr/\(BM ds).A8<=1)\/BM ds=[]
 xs:∀p∈BM ds,BD p.2.1 ix/\Qa ix/\IJ p.2.2
theorem BD.ndot {s:Dr} {v:T} (h:BD s v) (hi:Qa v):KH s DI=Be:=by
 cases e:KH s DI with
 |Be=>rfl
 |Bj=>
  have e:=iN e;subst e;have q:Ro (Bw DI) .Kr:=λcs=>aa λd=>by lk
  obtain⟨fs,Cs⟩:=bC hi;have h1:=h.ro [] 0 (λv _=>match v with| .t .Kr=> .D9 0|_=> .D9 1) .Oj;have h2:=q [] 0 (λv _=>match v with| .t .Kr=> .D9 0|_=> .D9 1) .Oj;rw[h2] at h1;have h1:An.D9 0=An.D9 1:=h1;cases h1
section
variable {b ix:T} {S:SS} {t:Tm} {ds:AT Tm}
theorem hO (t:Tm) (ds:AT Tm):Cz (t::ds)=Hq t+Cz ds:=rfl
theorem nS (t:Tm) (ds:AT Tm):DA (t::ds)=Ie t+DA ds:=rfl
theorem eO (t:Tm) (ds:AT Tm):BK (t::ds)=Hs t++BK ds:=rfl
theorem eS (t:Tm) (ds:AT Tm):BM (t::ds)=M9 t++BM ds:=rfl
theorem fE (w x:Dt) (p:Dr) (hp:p=Ae\/p=Ai) {sy mi:Dr} (h1:sy=p) (h2:mi=Ae) (cs:St):Ct 6 1030 [.t (P3 w sy mi),.t (P3 x Ae Ae)] cs (.EM (.t (P3 (w+x) sy mi)) cs):=by
 subst h1 h2;exact fB w x sy hp cs
theorem E4.syc (h:E4 b ix S ds):S.sy=Ae\/S.sy=Ai:=by
 rcases h.sy with⟨e,_⟩|⟨e,_⟩
 .exact .HX e
 .exact .G4 e
theorem dn {t:T} {m:CV} {S S':SS} (h:∀c0 lt p fo q g,Ct 15 1343 [.FN 4,.t t,.t (.G6 m)] (`c S g) (.EM (.t .Kr) (`c S' g))):Dy t m S S':=λc0 lt p fo q g=>(h c0 lt p fo q g).Ey (by decide)
theorem sy0 {P Q:Prop} {n:BF} (h:(P/\0+n<=1)\/(Q/\0+n=0)):(P/\n<=1)\/(Q/\n=0):=by rw[BF.PX] at h;exact h
theorem sy1 {P Q:Prop} {n:BF} (h:(P/\1+n<=1)\/(Q/\1+n=0)):n=0:=by
 rcases h with⟨_,e⟩|⟨_,e⟩<;>omega
theorem zK {α:Type} {a:α} {l:AT α} (h:(a::l).A8<=1):l=[]:=AT.QY.mp (BF.le_zero.mp (BF.LN h))
theorem cQ (h:E4 b ix S (t::ds)):E4 b ix (DQ b ix S t) ds:=by
 have hs:=h.sy;have hp:=h.pl;have hr:=h.rg;have hx:=h.xl;have hxs:=h.xs;rw[hO] at hs;rw[eO] at hp hr;rw[eS] at hx hxs;cases t with
 |num m n=>exact⟨h.mi,sy0 hs,hp,hr,hx,hxs⟩
 |ngn n=>exact⟨h.mi,sy0 hs,hp,hr,hx,hxs⟩
 |W9=>exact⟨h.mi,.G4 ⟨Cs,sy1 hs⟩,hp,hr,hx,hxs⟩
 |near=>exact⟨h.mi,.G4 ⟨Cs,sy1 hs⟩,hp,hr,hx,hxs⟩
 |reg s=>exact⟨h.mi,sy0 hs,.G4 (hp.Dk (λe=>⟨⟨.t b,FY (· ++[V.t b]) e.1⟩,zK e.2⟩) λe=>nomatch e.2),λu hu=>hr u (.Do _ hu),hx,hxs⟩
 |idx o s k=>exact⟨h.mi,sy0 hs,hp,hr,.G4 (hx.Dk (λe=>zK e.2) λe=>nomatch e),λu hu=>hxs u (.Do _ hu)⟩
theorem io (h:E4 b ix S (t::ds)) (x:CV×T) (hx:x=((DP t).1,Bs (DP t).2)\/x=(Be,Bs (CC (DP t)))):E0 x.2/\Dy x.2 x.1 S (DQ b ix S t):=by
 have hsy:=h.syc;have hmi:=h.mi;cases t with
 |num m n=>
  have HW:E0 (C4 n)/\Dy (C4 n) Be S (DQ b ix S (.num Be n)):=⟨.HX ⟨_,Cs⟩,dn λc0 lt p fo q g=>bE (gU Be n) (cf Be n) (fE _ _ _ hsy rfl hmi)⟩;cases m
  .rcases hx with rfl|rfl<;>exact HW
  .rcases hx with rfl|rfl
   .refine⟨.HX ⟨_,Cs⟩,dn λc0 lt p fo q g=>fI (gU Be n) (cf Be n) (mP n) ⟨n,Ae,Ae,Cs⟩ (fE _ _ _ hsy rfl hmi)⟩
   .exact⟨.G4 (.HX ⟨_,_,Cs⟩),dn λc0 lt p fo q g=>bE (gU Bj n) (cf Bj n) (fE _ _ _ hsy rfl hmi)⟩
 |ngn n=>
  have e:x=(Be,Bg (C8 Bj n)):=by apply oi hx<;>rfl
  subst e;exact⟨.G4 (.HX ⟨_,_,Cs⟩),dn λc0 lt p fo q g=>bE (gU Bj n) (cf Bj n) (fE _ _ _ hsy rfl hmi)⟩
 |W9=>
  have e:x=(Be,Bw Ai):=by apply oi hx<;>rfl
  subst e;have e1:S.sy=Ae:=by
   rcases h.sy with⟨e,_⟩|⟨_,e⟩
   .exact e
   .exact nomatch (BF.Va .. ▸e:Cz ds+1=0)
  refine⟨.G4 (.G4 (.HX ⟨_,Cs⟩)),dn λc0 lt p fo q g=>bE (.G4 (.G4 (.HX ⟨_,Cs⟩))) ki λcs=> ?_⟩;rw[e1,hmi];exact jw _ _ cs
 |near=>
  have e:x=(Be,Bw `ds):=by apply oi hx<;>rfl
  subst e;have e1:S.sy=Ae:=by
   rcases h.sy with⟨e,_⟩|⟨_,e⟩
   .exact e
   .exact nomatch (BF.Va .. ▸e:Cz ds+1=0)
  refine⟨.G4 (.G4 (.HX ⟨_,Cs⟩)),dn λc0 lt p fo q g=>bE (.G4 (.G4 (.HX ⟨_,Cs⟩))) u7 λcs=> ?_⟩;rw[e1,hmi];exact jw _ _ cs
 |reg s=>
  have e:x=(Be,Bw s):=by apply oi hx<;>rfl
  subst e;obtain⟨r1,r2⟩:=h.rg s (show s∈s::BK ds from .Jn _);have hl:S.pl=[]\/∃y,S.pl=[y]:=by
   rcases h.pl with⟨e,_⟩|⟨e,_⟩
   .exact .HX e
   .exact .G4 e
  exact⟨.G4 (.G4 (.HX ⟨_,Cs⟩)),dn λc0 lt p fo q g=>jF r1 r2 hl⟩
 |idx o s k=>
  have e:x=(Be,Bs (BC o s k)):=by rcases hx with rfl|rfl<;>cases o<;>rfl
  subst e;obtain⟨r1,r2,r3⟩:=h.xs (o,s,k) (show(o,s,k)∈(o,s,k)::BM ds from .Jn _);have hl:S.ix= .Kr:=by
   rcases h.xl with⟨e,_⟩|e
   .exact e
   .cases e
  exact⟨by cases o<;>exact .G4 (.G4 (.G4 ⟨_,_,Cs⟩)),λc0 lt p fo q g=>jG o r1 r2 hl r3⟩
theorem xr (ds:AT Tm) {S:SS} {r:AT Tm} (h:E4 b ix S (ds++r)):JO S (By (ds.FW DP)) (Cf b ix S ds)/\E4 b ix (Cf b ix S ds) r:=by
 induction ds generalizing S with
 |HU=>exact⟨.HU _,h⟩
 |Dc t ds ih=>
  have a:=io h _ (.HX rfl);have i:=ih (cQ h);exact⟨.Dc a.1 a.2 i.1,i.2⟩
theorem ue (t:Tm) (ds:AT Tm) {r:AT Tm} (h:E4 b ix S (t::(ds++r))):JO S ((Be,Bs (CC (DP t)))::By (ds.FW DP)) (Cf b ix S (t::ds))/\E4 b ix (Cf b ix S (t::ds)) r:=by
 obtain⟨a1,a2⟩:=io h _ (.G4 rfl);obtain⟨i1,i2⟩:=xr ds (cQ h);exact⟨.Dc a1 a2 i1,i2⟩
theorem mK (h:E4 b ix S (t::ds)):Cj (DP t).2=Bj/\Cj (CC (DP t))=Bj:=by
 cases t with
 |num m n=>cases m<;>exact⟨Cs,Cs⟩
 |ngn n=>exact⟨Cs,Cs⟩
 |W9=>exact⟨Cs,Cs⟩
 |near=>exact⟨Cs,Cs⟩
 |reg s=>
  obtain⟨r1,r2⟩:=h.rg s (show s∈s::BK ds from .Jn _)
  have:=r1.ndot r2
  exact⟨by show(!(KH s _))=Bj;rw[show KH s DI=Be from F4];rfl,by show(!(KH s _))=Bj;rw[show KH s DI=Be from F4];rfl⟩
 |idx o s k=>
  obtain⟨r1,r2,r3⟩:=h.xs (o,s,k) (show(o,s,k)∈(o,s,k)::BM ds from .Jn _)
  have:=r1.ndot r2
  have q:Cj (BC o s k)=Bj:=by
   cases o
   .show(!(KH s _)&&Bj)=Bj;rw[show KH s DI=Be from F4];rfl
   .show(Bj&& !(KH s _))=Bj;rw[show KH s DI=Be from F4];rfl
  exact⟨q,by cases o<;>exact q⟩
theorem zx (ds:AT Tm) {S:SS} {r:AT Tm} (h:E4 b ix S (ds++r)):∀x∈ds.FW DP,Cj x.2=Bj:=by
 induction ds generalizing S with
 |HU=>exactλ_ h=>nomatch h
 |Dc t ds ih=>
  intro x hx;rcases AT.GZ.mp hx with e|q
  .exact e▸(mK h).1
  .exact ih (cQ h) x q
def Gl:AT Tm->It×AT (CV×It)
 |[]=>(.p1 (.nu 0),[])
 |t::r=>(CC (DP t),r.FW DP)
theorem sA (gs:AT (AT Tm)) {S:SS} (hn:∀g∈gs,g≠[]/\g.A8<=100) (h:E4 b ix S gs.H8):Nn S (gs.FW Gl) (Cf b ix S gs.H8):=by
 induction gs generalizing S with
 |HU=>exact .HU _
 |Dc g gs ih=>cases g with
  |HU=>exact Ks rfl (hn [] AT.KS).1
  |Dc t r=>
   have h':E4 b ix S (t::(r++gs.H8)):=h;obtain⟨s1,s2⟩:=ue t r h';have hl:r.A8+1<=100:=(hn (t::r) AT.KS).2;have e:Cf b ix S ((t::r)::gs).H8=Cf b ix (Cf b ix S (t::r)) gs.H8:=o3 b ix (t::r) S gs.H8;rw[e];exact .Dc (mK h').2 (zx r (cQ h')) (by rw[AT.Lc];omega) s1 (ih (λg hg=>hn g (AT.Sc _ hg)) s2)
theorem yp (ds:AT Tm) (S:SS):(Cf b ix S ds).w=S.w+DA ds:=by
 induction ds generalizing S with
 |HU=>exact(Dt.add_zero _).Hl
 |Dc t ds ih=>
  have e:(DQ b ix S t).w=S.w+Ie t:=by
   cases t with
   |idx o _ _=>exact(Dt.add_zero _).Hl
   |reg _=>exact(Dt.add_zero _).Hl
   |_=>rfl
  exact(ih _).CX (by rw[e,nS,Dt.RD])
theorem vL (ds:AT Tm) (S:SS):(Cf b ix S ds).mi=S.mi:=by
 induction ds generalizing S with
 |HU=>rfl
 |Dc t ds ih=>exact(ih _).CX (by cases t<;>rfl)
theorem m8 (ds:AT Tm) (S:SS):(Cz ds=0->(Cf b ix S ds).sy=S.sy)/\(Cz ds≠0->(Cf b ix S ds).sy=Ai):=by
 induction ds generalizing S with
 |HU=>exact⟨λ_=>rfl,λh=>Ks rfl h⟩
 |Dc t ds ih=>
  obtain⟨i1,i2⟩:=ih (DQ b ix S t);have e:(Hq t=0/\(DQ b ix S t).sy=S.sy)\/(Hq t≠0/\(DQ b ix S t).sy=Ai):=by
   cases t with
   |W9=>exact .G4 ⟨BF.Wi _,Cs⟩
   |near=>exact .G4 ⟨BF.Wi _,Cs⟩
   |_=>exact .HX ⟨Cs,Cs⟩
  rw[hO]
  by_cases h0:Cz ds=0
  .rw[h0]
   exact e.Dk (λe=>⟨λ_=>(i1 h0).CX e.2,λh=>Ks e.1 h⟩) λe=>⟨λh=>Ks h e.1,λ_=>(i1 h0).CX e.2⟩
  .exact⟨λh=>Ks (BF.eq_zero_of_add_eq_zero_left h) h0,λ_=>i2 h0⟩
theorem vK (ds:AT Tm) (S:SS):(Cf b ix S ds).pl=S.pl++(BK ds).FW λ_=>V.t b:=by
 induction ds generalizing S with
 |HU=>exact(AT.H7 _).Hl
 |Dc t ds ih=>
  have e:(DQ b ix S t).pl=S.pl++(Hs t).FW λ_=>V.t b:=by
   cases t with
   |reg _=>rfl
   |_=>exact(AT.H7 _).Hl
  exact(ih _).CX (by rw[e,eO,AT.J8,AT.F7])
theorem fw (ds:AT Tm) (S:SS):(BM ds=[]->(Cf b ix S ds).ix=S.ix/\(Cf b ix S ds).sc=S.sc)/\(∀p,BM ds=[p]->(Cf b ix S ds).ix=ix/\(Cf b ix S ds).sc=p.2.2):=by
 induction ds generalizing S with
 |HU=>exact⟨λ_=>⟨Cs,Cs⟩,λp h=>nomatch h⟩
 |Dc t ds ih=>
  have i:=ih (DQ b ix S t);rw[eS];cases t with
  |idx o s k=>exact⟨λh=>(nomatch h),λp h=>(AT.Dc.Ky h).1▸i.1 (AT.Dc.Ky h).2⟩
  |_=>exact i
end
theorem mO (n:BF) (hn:n<16):Pf (AJ .q n) (Av .q n) where
 as:=by
  refine wZ (P:=λn=>AS (Av .q n)) ?_ n hn;refine⟨?_,?_,?_,?_,?_,?_,?_,?_,?_,?_,?_,?_,?_,?_,?_,?_⟩<;>rfl
 lo:=cg n hn
 up:=r7 n hn
 LJ:=⟨_,_,_,Cs⟩
theorem uL:Pf Cd `cj:=⟨Cs,ip,oP,⟨_,_,_,Cs⟩⟩
section
variable {b ix:T} {sc w z:Dt} {n' ah:Dr} {ds:AT Tm} {gs:AT (AT Tm)}
theorem CN.bx (h:CN b ix sc w n' ah):BX b ix sc:=by
 refine⟨?_,?_⟩
 .rcases h.hb with rfl|rfl|⟨n,hn,Cs⟩
  .exact .HX rfl
  .exact .G4 ⟨_,uL⟩
  .exact .G4 ⟨_,mO n hn⟩
 .rcases h.hi with q|⟨n,hn,_,Cs,hs⟩
  .exact .HX q
  .exact .G4 ⟨hs,_,mO n hn⟩
theorem CN.Qd (h:CN b ix sc w n' ah):DO b ix:=by
 rcases h.hb with rfl|rfl|⟨n,hn,Cs⟩
 .exact .HX rfl
 .exact .G4 (.HX ⟨Cs,h.hr rfl⟩)
 .exact .G4 (.G4 ⟨_,_,Cs⟩)
theorem CN.W7 (h:CN b ix sc w n' ah):Hi ix sc:=by
 rcases h.hi with q|⟨n,hn,h4,Cs,hs⟩
 .exact .HX q
 .exact .G4 ⟨_,_,Cs,(·),hs⟩
theorem CN.rb (h:CN b ix sc w n' ah):GL b:=by
 rcases h.hb with rfl|rfl|⟨n,hn,Cs⟩
 .exact .HX rfl
 .exact .G4 ⟨_,_,_,_,Cs⟩
 .exact .G4 ⟨_,_,_,_,Cs⟩
theorem CN.ri (h:CN b ix sc w n' ah):GL ix:=by
 rcases h.hi with⟨Cs,_⟩|⟨n,hn,h4,Cs,hs⟩
 .exact .HX rfl
 .exact .G4 ⟨_,_,_,_,Cs⟩
theorem GL.ni {b:T} (h:GL b):NI b:=by
 rcases h with rfl|⟨_,_,_,_,Cs⟩
 .exact .HX rfl
 .exact .G4 ⟨_,_,Cs⟩
theorem se (p:CN b ix sc w n' ah) (t:TF ds b ix sc w n'):E4 b ix C7 ds where
 mi:=rfl
 sy:= .HX ⟨Cs,by rcases t.sy with⟨_,e⟩|⟨_,e⟩<;>omega⟩
 pl:= .HX ⟨Cs,by rcases t.rg with⟨_,e⟩|⟨s,_,_,e⟩<;>simp[e]⟩
 rg:=λs hs=>by
  rcases t.rg with⟨_,e⟩|⟨s',h1,h2,e⟩
  .simp[e] at hs
  .rw[e] at hs;rw[AT.H9.mp hs];exact⟨h1,h2⟩
 xl:= .HX ⟨Cs,by rcases t.ix with⟨_,e⟩|⟨o,s,_,_,e⟩<;>simp[e]⟩
 xs:=λq hq=>by
  rcases t.ix with⟨_,e⟩|⟨o,s,h1,h2,e⟩
  .simp[e] at hq
  .rw[e] at hq;rw[AT.H9.mp hq]
   refine⟨h1,h2,?_⟩;rcases p.hi with⟨Cs,_⟩|⟨n,hn,h4,Cs,hs⟩
   .exact h2.Dk λ_ e=>nomatch e
   .exact hs
theorem sN (p:CN b ix sc w n' ah) (t:TF ds b ix sc w n'):Fin (Cf b ix C7 ds) b ix sc w n' where
 pl:=by
  rw[vK];rcases t.rg with⟨Cs,e⟩|⟨s,h1,h2,e⟩
  .rw[e];rfl
  .rw[e]
   obtain⟨fs,Cs⟩:=bC h2;rfl
 x:=by
  rcases t.ix with⟨Cs,e⟩|⟨o,s,_,_,e⟩
  .exact((fw ds C7).1 e).1
  .exact((fw ds C7).2 _ e).1
 s:=by
  rcases t.ix with⟨Cs,e⟩|⟨o,s,_,h2,e⟩
  .rcases p.hi with⟨_,e2⟩|⟨n,hn,h4,q,hs⟩
   .rw[e2];exact((fw ds C7).1 e).2
   .cases q
  .exact((fw ds C7).2 _ e).2
 wo:=by rw[yp,t.sum];show 0+w=w;omega
 sy:=by
  rcases t.sy with⟨Cs,e⟩|⟨Cs,e⟩
  .exact(m8 ds C7).1 e
  .exact(m8 ds C7).2 (·)
 mi:=vL ds C7
 hn:=p.hn
 hb:=p.Qd
 hi:=p.W7
 hw:=p.hw
theorem yT (p:CN b ix sc w n' ah) (t:TF ds b ix sc w n') (hg:∀g∈gs,g≠[]) (hf:gs.H8=ds) (hl:gs.A8<=6):GG (At (gs.FW Gl)) λz sg=>`i n':=by
 have N9:∀g∈gs,g≠[]/\g.A8<=100:=λg h=>⟨hg g h,by
  have h1:g.A8<=gs.H8.A8:=by
   obtain⟨a,c,Cs⟩:=AT.append_of_mem h;simp[AT.flatten_append];omega
  have:=t.Oa;rw[hf] at h1;omega⟩
 have gr:=sA gs N9 (hf▸se p t);cases gs with
 |HU=>exact Ks hf.Hl t.ne
 |Dc g gs=>
  rw[hf] at gr;exact wn gr (by rw[AT.Lc];rw[AT.DW] at hl;omega) (sN p t)
theorem yS (p:CN b ix sc w n' ah) (n:Dt) (t:TF (.num Be n::ds) b ix sc w n') (hg:∀g∈gs,g≠[]) (hf:gs.H8=ds) (Vo:ds≠[]) (hl:gs.A8<=6):GG (.nu n::At (gs.FW Gl)) λz sg=>`i n':=by
 have N9:∀g∈gs,g≠[]/\g.A8<=100:=λg h=>⟨hg g h,by
  have h1:g.A8<=gs.H8.A8:=by
   obtain⟨a,c,Cs⟩:=AT.append_of_mem h;simp[AT.flatten_append];omega
  have:=t.Oa;rw[AT.DW] at F4;rw[hf] at h1;omega⟩
 have iv:=cQ (se p t);have gr:=sA gs N9 (hf▸iv);have e0:DQ b ix C7 (.num Be n)=C7.PF n Ae Ae:=by
  show C7.PF (0+n) Ae Ae=_;rw[Dt.PX]
 have fi:=sN p t;rw[show Cf b ix C7 (.num Be n::ds)=Cf b ix (DQ b ix C7 (.num Be n)) ds from rfl,e0] at fi;rw[e0] at gr;cases gs with
 |HU=>exact Ks hf.Hl Vo
 |Dc g gs=>
  rw[hf] at gr;exact tA n gr (by rw[AT.Lc];rw[AT.DW] at hl;omega) fi
end
theorem nO (a b:AT (It×AT (CV×It))):At (a++b)=At a++At b:=by
 induction a with
 |HU=>rfl
 |Dc x a ih=>
  obtain⟨i,ch⟩:=x;show .sg Ao::(Ab i ch++ .sg Ba::At (a++b))= .sg Ao::(Ab i ch++ .sg Ba::At a)++At b;rw[ih,AT.Qm,AT.F7];rfl
theorem yr (t:Tm):Hk (DP t):=by
 cases t with
 |num m n=>cases m;exact .HX rfl;exact .G4 ⟨n,Cs⟩
 |_=>exact .HX rfl
theorem itK (t:Tm):Zp (DP t).2:=by
 cases t with
 |num m n=>exact .HX ⟨_,Cs⟩
 |ngn n=>exact .G4 (.HX ⟨_,Cs⟩)
 |W9=>exact .G4 (.G4 (.HX ⟨_,Cs⟩))
 |near=>exact .G4 (.G4 (.HX ⟨_,Cs⟩))
 |reg s=>exact .G4 (.G4 (.HX ⟨_,Cs⟩))
 |idx o s k=>exact .G4 (.G4 (.G4 ⟨_,_,_,Cs⟩))
theorem yP (t:Tm) (r:AT Tm):Fi ((t::r).FW DP)=At [Gl (t::r)]:=tx (DP t) (r.FW DP) (yr t)
def PT (l:AT Tk):Prop:=∀t∈l,EZ t/\t≠.fn
theorem PT.Wy {a b:AT Tk} (h1:PT a) (h2:PT b):PT (a++b):=λt ht=>by
 rcases AT.JX.mp ht with q|q
 .exact h1 t q
 .exact h2 t q
theorem PT.Dc {a:Tk} {b:AT Tk} (h1:EZ a/\a≠.fn) (h2:PT b):PT (a::b):=λt ht=>by
 rcases AT.GZ.mp ht with rfl|q
 .exact h1
 .exact h2 t q
theorem PT.HU:PT []:=λt ht=>by simp at ht
theorem aE (s:Dr):EZ (.sg s)/\Tk.sg s≠.fn:=⟨trivial,by simp⟩
theorem aI (s:Dr):EZ (.na s)/\Tk.na s≠.fn:=⟨trivial,by simp⟩
theorem cM {n:Dt} (h:Fk n):EZ (.nu n)/\Tk.nu n≠.fn:=⟨h.tk,by simp⟩
theorem qL {t:Tm} (h:EJ t):PT (Az (DP t).2)/\(Az (DP t).2).A8<=3/\PT (Az (CC (DP t)))/\(Az (CC (DP t))).A8<=3:=by
 cases t with
 |num m n=>
  have h1:PT [.nu n]:= .Dc (cM h) .HU;have h2:PT [.sg BI,.nu n]:= .Dc (aE _) h1;cases m
  .exact⟨h1,BF.EC rfl,h1,BF.EC rfl⟩
  .exact⟨h1,BF.EC rfl,h2,BF.EC rfl⟩
 |ngn n=>
  have h2:PT [.sg BI,.nu n]:= .Dc (aE _) (.Dc (cM h) .HU);exact⟨h2,BF.EC rfl,h2,BF.EC rfl⟩
 |W9=>exact⟨.Dc (aI _) .HU,BF.EC rfl,.Dc (aI _) .HU,BF.EC rfl⟩
 |near=>exact⟨.Dc (aI _) .HU,BF.EC rfl,.Dc (aI _) .HU,BF.EC rfl⟩
 |reg s=>exact⟨.Dc (aI _) .HU,BF.EC rfl,.Dc (aI _) .HU,BF.EC rfl⟩
 |idx o s k=>
  have h1:PT [.na s,.sg AE,.nu k]:= .Dc (aI _) (.Dc (aE _) (.Dc (cM h) .HU));have h2:PT [.nu k,.sg AE,.na s]:= .Dc (cM h) (.Dc (aE _) (.Dc (aI _) .HU));cases o
  .exact⟨h1,BF.EC rfl,h1,BF.EC rfl⟩
  .exact⟨h2,BF.EC rfl,h2,BF.EC rfl⟩
theorem qM (r:AT Tm) (h:∀t∈r,EJ t):PT (Bt (r.FW DP))/\(Bt (r.FW DP)).A8<=4*r.A8:=by
 induction r with
 |HU=>exact⟨.HU,BF.G5 _⟩
 |Dc t r ih=>
  obtain⟨h1,h2,_,_⟩:=qL (h t AT.KS);obtain⟨h3,h4⟩:=ih λu hu=>h u `ab;refine⟨.Dc (aE _) (h1.Wy h3),?_⟩
  show(.sg _::(Az (DP t).2++Bt (r.FW DP)):AT Tk).A8<=4*(r.A8+1)
  simp only[AT.DW,AT.DE];omega
theorem iV (gs:AT (AT Tm)) (hn:∀g∈gs,g≠[]) (h:∀g∈gs,∀t∈g,EJ t):PT (At (gs.FW Gl))/\(At (gs.FW Gl)).A8<=6*gs.H8.A8:=by
 induction gs with
 |HU=>exact⟨.HU,BF.G5 _⟩
 |Dc g gs ih=>cases g with
  |HU=>exact Ks rfl (hn [] AT.KS)
  |Dc t r=>
   obtain⟨_,_,h1,h2⟩:=qL (h (t::r) AT.KS t AT.KS);obtain⟨h3,h4⟩:=qM r λu hu=>h (t::r) AT.KS u `ab;obtain⟨h5,h6⟩:=ih (λg hg=>hn g (AT.Sc _ hg)) λg hg=>h g (AT.Sc _ hg);refine⟨.Dc (aE _) ((h1.Wy h3).Wy (.Dc (aE _) h5)),?_⟩
   show(.sg _::(Az (CC (DP t))++Bt (r.FW DP)++(.sg _::At (gs.FW Gl))):AT Tk).A8<=6*((t::r)++gs.H8).A8
   simp only[AT.DW,AT.DE];omega
section
variable {cs:St} {i j:BF} {l u w':AT V} {ts:AT T} {k:KV}
theorem f9 (h:J7 cs i=A9 (.Dg l)):MY cs (.FN i)=A9 l.A8:=by
 have e:BW cs (.FN i)=A9 l:=bI h;show Z7 (BW cs (.FN i)) (λvs=>A9 vs.A8) _=_;rw[e];rfl
theorem qq (h:J7 cs i=A9 (.Dg l)) (hl:l.A8<=4000) {q:BF} (hq:q<=l.A8):EE (.FN i) (.t .Kr) (.t (.D4 q)) cs k=k (.FN cs.A8) (cs++[.Dg (l.Gk q)]):=by
 have e:Fh l.A8 (q:Dt)=q:=by
  unfold Fh;rw[show CQ (q:Dt) 0=Be from H5 (·)];show BF.min q l.A8=q;exact BF.Qh hq
 show AA (AX cs (.FN i)) 64 (λl=>br `V (LH (.Dg (cut l 0 (Fh l.A8 (q:Dt)))) cs k) (.D9 40))=_;rw[bI h];show br `V _ _=_;rw[aJ (aK hl),e];rfl
theorem qp (h:J7 cs i=A9 (.Dg l)) (hl:l.A8<=4000) {q:BF} (hq:q<=l.A8):EE (.FN i) (.t (.D4 q)) (.t .Kr) cs k=k (.FN cs.A8) (cs++[.Dg (l.F3 q)]):=by
 have e:Fh l.A8 (q:Dt)=q:=by
  unfold Fh;rw[show CQ (q:Dt) 0=Be from H5 (·)];show BF.min q l.A8=q;exact BF.Qh hq
 show AA (AX cs (.FN i)) 64 (λl=>br `V (LH (.Dg (cut l (Fh l.A8 (q:Dt)) l.A8)) cs k) (.D9 40))=_;rw[bI h];show br `V _ _=_;rw[aJ (aK hl),e];show k (.FN cs.A8) (cs++[.Dg ((l.Gk l.A8).F3 q)])=_;rw[AT.Q5]
theorem nC (h:J7 cs i=A9 (.Dg u)) (h2:J7 cs j=A9 (.Dg w')) (hl:u.A8+w'.A8<=4000):FJ .Add (.FN i) (.FN j) cs k=k (.FN cs.A8) (cs++[.Dg (u++w')]):=by
 show AA (AX cs (.FN i)) 86 (λu=>AA (AX cs (.FN j)) 87 λw=>br (BF.Ls (u.A8+w.A8) Af) (LH (.Dg (u++w)) cs k) (.D9 88))=_;rw[bI h,bI h2];show br (BF.Ls (u.A8+w'.A8) Af) _ _=_;rw[aJ (BF.HZ (by unfold Af;omega))];rfl
theorem dS (cs:St) (x:C):J7 (cs++[x]) cs.A8=A9 x:=dU cs x
theorem b9 {cs:St} {i:BF} {x:C} (h:J7 cs i=A9 x) (y:C):J7 (cs++[y]) i=A9 x:=by
 induction cs generalizing i with
 |HU=>cases i<;>cases h
 |Dc a cs ih=>cases i with
  |Xb=>exact h
  |Ww i=>exact ih h
theorem sH (cs:St) (ts:AT T):AU (WC BN) (cs++[.Dg (ZW ts)]) [.FN cs.A8]=A9 ([.Dg ts],cs++[.fz (.Dg ts)]):=by
 have e:WC BN (cs++[.Dg `aB]) (.FN cs.A8)=A9 (.Dg ts,PF (cs++[.Dg `aB]) cs.A8 (.fz (.Dg ts))):=cm (dS cs _) 11;exact(JS e Rm).CX (by rw[iU])
end
def CT (PH ah tV rV fr:V) (Do:Ag):Ag:=(`dD,.FN 0)::(`dw,PH)::(`cB,ah)::(`dC,tV)::(A0,rV)::(s!"front",fr)::Do
def WL (m:BF) (CL:Ag) (cs:St):An:=(`p m).wh ⟨Cv 1635,1,Bj⟩ (ZV 1635 5).1 (ZV 1635 5).2.1 CL cs (λCL cs=>EX 1635 1 6 394 CL cs) (FP 1) (AW 1)
def WB (j m:BF) (CL:Ag) (cs:St):An:=(`p m).ex ⟨Cv 1635,1,Bj⟩ ((ZV 1635 5).2.1.F3 j) CL cs (λCL cs=>WL (m+j) CL cs) (FP 1) (AW 1)
section
variable {PH ah tV rV fr:V} {Do:Ag} {cs:St} {q:Dt}
def U2 (Do:Ag):Prop:=Do=[]\/∃x,Do=[(`dF,x)]
theorem wI (m:BF) (ht:U2 Do):WL (m+20) (CT PH ah tV rV fr Do) cs=AA (MY cs tV) 21 λn=>br (BF.Ls n Af) (br (CQ 0 n) (WB 0 (m+19) (CT PH ah tV rV fr Do) cs) (EX 1635 1 6 394 (CT PH ah tV rV fr Do) cs)) (.D9 9):=by
 apply xL ht<;>intros<;>lk
theorem xi (m:BF) (ht:U2 Do):WB 0 (m+19) (CT PH ah tV rV fr Do) cs=AA (MY cs tV) 21 λn=>br (BF.Ls n Af) (.DH 1558 [.FN 0,.t (.D4 n)] cs (λv cs=>FJ .Add (.t (.D4 1)) v cs λv cs=>WB 1 (m+18) (CT PH ah tV rV fr [(`dF,v)]) cs) (AW 1)) (.D9 9):=by
 apply xL ht<;>intros<;>lk
theorem qk {v:V} {kn:KN}:FD ⟨Cv 1635,1,Bj⟩ A0 v (CT PH ah tV rV fr Do) cs kn=kn (CT PH ah tV v fr Do) cs:=by lk
theorem zf (m:BF):WB 1 (m+18) (CT PH ah tV rV fr [(`dF,.t (.D4 q))]) cs=EE tV (.t .Kr) (.t (.D4 q)) cs λw KM=>AA (AU (WC BN) KM [w]) 53 λp=> .DH 1621 (ZW p.1) p.2 (λv cs=>FJ .Add rV v cs λv cs=>FD ⟨Cv 1635,1,Bj⟩ A0 v (CT PH ah tV rV fr [(`dF,.t (.D4 q))]) cs λCL cs=>WB 2 (m+17) CL cs) (AW 1):=by
 lk
theorem xh (m:BF):WB 1 (m+18) (CT PH ah tV rV fr [(`dF,.t (.D4 q))]) cs=EE tV (.t .Kr) (.t (.D4 q)) cs λw KM=>AA (AU (WC BN) KM [w]) 53 λp=> .DH 1621 (ZW p.1) p.2 (λv cs=>FJ .Add rV v cs λv cs=>WB 2 (m+17) (CT PH ah tV v fr [(`dF,.t (.D4 q))]) cs) (AW 1):=by
 rw[zf];simp only[qk]
theorem xg (m:BF):WB 2 (m+17) (CT PH ah tV rV fr [(`dF,.t (.D4 q))]) cs=EE tV (.t (.D4 q)) (.t .Kr) cs λw KM=>WL (m+19) (CT PH ah w rV fr [(`dF,.t (.D4 q))]) KM:=by
 lk
end
theorem uy {c:C} {g:St} {j:BF} {ts:AT T} (h:J7 g j=A9 (.Dg (ZW ts))):Er (c::g) 1 (.FN (j+1))= .EM (.FN 1) [c,.Dg (ZW ts)]:=by
 have hb:BF.Ls 1 (j+1)=Bj:=by cases j<;>rfl
 have h':J7 (c::g) (j+1)=A9 (.Dg `aB):=h;have e:FF 1 (.FN (j+1)) (c::g)=A9 (V.FN 1,[c,C.Dg `aB]):=iR hb h';unfold Er;rw[e];rfl
theorem mZ:∀(ds:AT Tm),(∀t∈ds,EJ t)->Eh (ds.FW DP)<=4*ds.A8
 |[],_=>by simp[Eh]
 |t::ds,h=>by
  have h1:=(qL (h t AT.KS)).2.1;have h2:=mZ ds λu hu=>h u `ab;have e:Eh ((t::ds).FW DP)=(Az (DP t).2).A8+1+Eh (ds.FW DP):=by simp[Eh]
  rw[e,AT.DW];omega
theorem uZ (ds:AT Tm):(ds.FW DP).FW Fl=ds.FW Gc:=by rw[AT.map_map];rfl
theorem sE (ds:AT Tm) (q:BF):(AQ ds).Gk q=ZW ((ds.Gk q).FW Gc):=by simp[AQ,ZW,AT.map_take]
theorem sG (ds:AT Tm) (q:BF):(AQ ds).F3 q=AQ (ds.F3 q):=by simp[AQ,ZW,AT.map_drop]
def WQ (L:AT Tk) (ds:AT Tm) (v:V) (ext:St):Prop:=v= .FN 1/\∃gs:AT (AT Tm),(∀g∈gs,g≠[])/\gs.H8=ds/\gs.A8<=ds.A8/\ext=[.Dg (Aa (L++At (gs.FW Gl)))]
theorem fF {n k:BF} {A:An} {Q Q':V->St->Prop} (h:Rz n A k Q) (f:∀v e,Q v e->Q' v e):Rz n A k Q':=by
 obtain⟨v,c',ext,q,g,go⟩:=h;exact⟨v,c',ext,f v ext q,g,go⟩
theorem zd (PH ah fr:V):∀(n:BF) (ds:AT Tm),ds.A8<=n->n<=6->(∀t∈ds,EJ t)->∀(m k:BF) (c:C) (g:St) (i j:BF) (L:AT Tk) (Do:Ag),AR k c->k+n<=3500->J7 g i=A9 (.Dg (AQ ds))->J7 g j=A9 (.Dg (Aa L))->L.A8+36*n<=2000->U2 Do->
  Rz 6 (WL (m+n+20) (CT PH ah (.FN (i+1)) (.FN (j+1)) fr Do) (c::g)) (k+n) (WQ L ds):=by
 have K7:∀(m k:BF) (c:C) (g:St) (i j:BF) (L:AT Tk) (Do:Ag),AR k c->J7 g i=A9 (.Dg (AQ []))->J7 g j=A9 (.Dg (Aa L))->U2 Do->Rz 6 (WL (m+20) (CT PH ah (.FN (i+1)) (.FN (j+1)) fr Do) (c::g)) k (WQ L []):=by
  intro m k c g i j L Do hg hi hj ht;rw[wI _ ht,f9 (show J7 (c::g) (i+1)=A9 (.Dg (AQ [])) from hi)];refine Rz.eq (show _=Er (c::g) 1 (.FN (j+1)) by apply xL ht<;>intros<;>lk) ?_;rw[uy (show J7 g j=A9 (.Dg (ZW (L.FW Aw))) from hj)];exact Rz.EM rfl ⟨Cs,[],by simp,Cs,by simp,by simp[At];rfl⟩ hg
 intro n
 induction n with
 |Xb=>
  intro ds hl h6 hok m k c g i j L Do hg hk hi hj hL ht
  have:ds=[]:=AT.QY.mp (·)
  subst F4;exact K7 m k c g i j L Do hg hi hj ht
 |Ww n ih=>
  intro ds hl h6 hok m k c g i j L Do hg hk hi hj hL ht
  by_cases hd0:ds=[]
  .subst hd0
   rw[show m+(n+1)+20=(m+n+1)+20 by omega];exact ad (K7 (m+n+1) k c g i j L Do hg hi hj ht) (·)
  .have hpos:0<ds.A8:=AT.length_pos_iff.Lq hd0
   have lt0:CQ 0 ((AQ ds).A8:BF)=Bj:=GO (by rw[aT];omega);obtain⟨d,c1,hd,g1,dr⟩:=ay hg (·) (L:=((AQ ds).A8:BF)) (by rw[aT];omega) (by rw[aT];omega);rw[aT] at hd;have hi1:J7 (c::g) (i+1)=A9 (.Dg `u):=hi;rw[show m+(n+1)+20=(m+n+1)+20 by omega,wI _ ht,f9 hi1];refine Rz.eq (show _=WB 0 (m+n+1+19) (CT PH ah (.FN (i+1)) (.FN (j+1)) fr Do) (c::g) by
    show br (BF.Ls (AQ ds).A8 Af) (br (CQ 0 ((AQ ds).A8:BF)) _ _) _=_;rw[aJ (aK (by rw[aT];omega)),aJ lt0]) ?_
   rw[xi _ ht,f9 hi1];refine Rz.eq (show _= .DH 1558 [.FN 0,.t (.D4 ((AQ ds).A8:BF))] (c::g) (λv cs=>FJ .Add (.t (.D4 1)) v cs λv cs=>WB 1 (m+n+1+18) (CT PH ah (.FN (i+1)) (.FN (j+1)) fr [(`dF,v)]) cs) (AW 1) by
    show br (BF.Ls (AQ ds).A8 Af) _ _=_;rw[aJ (aK (by rw[aT];omega))]) ?_
   refine Rz.DH (c::g) (dr g) rfl ?_;show Rz 6 (WB 1 (m+n+1+18) (CT PH ah (.FN (i+1)) (.FN (j+1)) fr [(`dF,.t (.D4 ((1+d:BF):Dt)))]) (c1::g)) _ _;have hi2:J7 (c1::g) (i+1)=A9 (.Dg `u):=hi;have hj2:J7 (c1::g) (j+1)=A9 (.Dg (Aa L)):=hj;rw[xh,qq hi2 (by rw[aT];omega) (by rw[aT];omega),sE,sH];have hlt:(ds.Gk (1+d)).A8<=6:=by rw[AT.Ok];omega
   have hokt:∀t∈ds.Gk (1+d),EJ t:=λt h=>hok t (AT.mem_of_mem_take h);have br:=aQ ((ds.Gk (1+d)).FW DP) (by rw[AT.Lc];exact hlt) (by have:=mZ _ hokt;omega) ((c1::g)++[.fz (.Dg ((ds.Gk (1+d)).FW Gc))]);rw[uZ] at br;refine Rz.DH ((c1::g)++[.fz (.Dg ((ds.Gk (1+d)).FW Gc))]) br rfl ?_;obtain⟨t0,r0,e0⟩:∃t0 r0,ds.Gk (1+d)=t0::r0:=by
    cases ds with
    |HU=>exact Ks rfl hd0
    |Dc t0 r=>exact⟨t0,r.Gk d,by rw[BF.Va];rfl⟩
   have ebr:Fi ((ds.Gk (1+d)).FW DP)=At [Gl (ds.Gk (1+d))]:=by rw[e0];exact yP t0 r0
   have hlb:(At [Gl (ds.Gk (1+d))]).A8<=6*6:=by
    have:=(iV [ds.Gk (1+d)] (by rw[e0];simp) (by simpa using hokt)).2
    simp only[AT.JS,AT.Rm,AT.flatten_cons,AT.flatten_nil,AT.H7] at F4;omega
   rw[ebr] at br⊢;show Rz 6 (FJ .Add (.FN (j+1)) (.FN ((c1::g)++[C.fz (.Dg ((ds.Gk (1+d)).FW Gc))]).A8) (((c1::g)++[C.fz (.Dg ((ds.Gk (1+d)).FW Gc))])++[C.Dg (Aa (At [Gl (ds.Gk (1+d))]))]) λv cs=>WB 2 (m+n+1+17) (CT PH ah (.FN (i+1)) v fr [(`dF,.t (.D4 ((1+d:BF):Dt)))]) cs) _ _;rw[nC (b9 (b9 hj2 _) _) (dS _ _) (by rw[az,az];omega),<-aA,xg,qp (b9 (b9 (b9 hi2 _) _) _) (by rw[aT];omega) (by rw[aT];omega),sG]
   have:=ih (ds.F3 (1+d)) (by rw[AT.LF];omega) (·) (λt h=>hok t (AT.QP h)) m (k+1) c1 (g++[C.fz (.Dg ((ds.Gk (1+d)).FW Gc))]++[C.Dg (Aa (At [Gl (ds.Gk (1+d))]))]++[C.Dg (Aa (L++At [Gl (ds.Gk (1+d))]))]++[C.Dg (AQ (ds.F3 (1+d)))])
    (g++[C.fz (.Dg ((ds.Gk (1+d)).FW Gc))]++[C.Dg (Aa (At [Gl (ds.Gk (1+d))]))]++[C.Dg (Aa (L++At [Gl (ds.Gk (1+d))]))]).A8 (g++[C.fz (.Dg ((ds.Gk (1+d)).FW Gc))]++[C.Dg (Aa (At [Gl (ds.Gk (1+d))]))]).A8 (L++At [Gl (ds.Gk (1+d))]) [(`dF,.t (.D4 ((1+d:BF):Dt)))] g1 (·) (dS _ _) (b9 (dS _ _) _)
    (by rw[AT.DE];omega) (.G4 ⟨_,Cs⟩)
   rw[show m+n+20=m+n+1+19 by omega,show k+1+n=k+(n+1) by omega] at F4;refine fF F4 λv e h=> ?_;obtain⟨Cs,gs,h1,h2,h3,Cs⟩:=h;refine⟨Cs,ds.Gk (1+d)::gs,?_,?_,?_,?_⟩
   .intro x hx
    rcases AT.GZ.mp hx with rfl|q
    .rw[e0];simp
    .exact h1 x q
   .rw[AT.flatten_cons,h2,AT.Kb]
   .rw[AT.DW];rw[AT.LF] at h3;omega
   .rw[AT.JS,show Gl (ds.Gk (1+d))::gs.FW Gl=[Gl (ds.Gk (1+d))]++gs.FW Gl from rfl,nO,AT.F7]
section
variable {b ix:T} {sc w z:Dt} {n' ah:Dr}
def LQ (b ix:T) (sc w:Dt) (n':Dr) (L:AT Tk) (v:V) (ext:St):Prop:=v= .FN 1/\∃bt,(GG bt λz sg=>`i n')/\Jl bt/\PT bt/\bt.A8<=40/\ext=[.Dg (Aa (L++bt))]
theorem eN {gs:AT (AT Tm)} (h:gs≠[]):∃r',At (gs.FW Gl)= .sg Ao::r':=by
 cases gs with
 |HU=>exact Ks rfl h
 |Dc g gs=>exact⟨_,Cs⟩
theorem m9 {gs:AT (AT Tm)} {ds:AT Tm} (h:gs.H8=ds) (ok:∀t∈ds,EJ t):∀g∈gs,∀t∈g,EJ t:=λg hg t ht=>ok t (h▸AT.mem_flatten.Lq ⟨g,hg,ht⟩)
theorem zE (p:CN b ix sc w n' ah) {ds:AT Tm} (t:TF ds b ix sc w n') {L:AT Tk} {v:V} {ext:St} (h:WQ L ds v ext):LQ b ix sc w n' L v ext:=by
 obtain⟨Cs,gs,h1,h2,h3,Cs⟩:=h;have Vo:gs≠[]:=λe=>t.ne (by rw[<-h2,e];rfl);obtain⟨q1,q2⟩:=iV gs h1 (m9 h2 t.ok);exact⟨Cs,_,yT p t h1 h2 (by have:=t.Oa;omega),.HX (eN Vo),q1,by rw[h2] at q2;have:=t.Oa;omega,Cs⟩
theorem aaI (p:CN b ix sc w n' ah) {n:Dt} {ds:AT Tm} (t:TF (.num Be n::ds) b ix sc w n') (hd:ds≠[]) {L:AT Tk} {v:V} {ext:St} (h:WQ (L++[.nu n]) ds v ext):LQ b ix sc w n' L v ext:=by
 obtain⟨Cs,gs,h1,h2,h3,Cs⟩:=h;have Vo:gs≠[]:=λe=>hd (by rw[<-h2,e];rfl);have hl:=t.Oa;rw[AT.DW] at hl;obtain⟨q1,q2⟩:=iV gs h1 (m9 h2 λu hu=>t.ok u `ab);obtain⟨r',hr⟩:=eN Vo;refine⟨Cs,.nu n::At (gs.FW Gl),yS p n t h1 h2 hd (·),.G4 ⟨n,r',by rw[hr]⟩,.Dc (cM (t.ok _ AT.KS)) q1,by rw[AT.DW];rw[h2] at q2;omega,?_⟩;rw[AT.F7];rfl
variable {c:C} {k:BF} {ds:AT Tm} {PH Wn:V} {L:AT Tk}
theorem l5 (p:CN b ix sc w n' ah) (hg:AR k c) (hk:k<=3400) (t:∀u∈ds,EJ u) (hl:ds.A8<=6) (fr:V) {g:St} {i j:BF} (hi:J7 g i=A9 (.Dg (AQ ds))) (hj:J7 g j=A9 (.Dg (Aa L))) (hL:L.A8<=100):
  Rz 6 (EX 1635 1 5 395 (CT PH Wn (.FN (i+1)) (.FN (j+1)) fr []) (c::g)) (k+6) (WQ L ds):=by
 have e:EX 1635 1 5 395 (CT PH Wn (.FN (i+1)) (.FN (j+1)) fr []) (c::g)=WL (368+6+20) (CT PH Wn (.FN (i+1)) (.FN (j+1)) fr []) (c::g):=by lk
 rw[e];exact zd PH Wn fr 6 ds hl (by decide) t 368 k c g i j L [] hg (·) hi hj (·) (.HX rfl)
theorem wN {q:AT Tm->Prop} {r:AT Tm} (h:r.A8<=4) (h0:q []) (h1:∀a,q [a]) (h2:∀a b,q [a,b]) (h3:∀a b c,q [a,b,c]) (h4:∀a b c d,q [a,b,c,d]):q r:=by
 cases r with
 |HU=>exact h0
 |Dc a r=>cases r with
  |HU=>exact h1 a
  |Dc b r=>cases r with
   |HU=>exact h2 a b
   |Dc c r=>cases r with
    |HU=>exact h3 a b c
    |Dc d r=>cases r with
     |HU=>exact h4 a b c d
     |Dc e r=>exact Ks (BF.LN (BF.LN (BF.LN (BF.LN h)))) (BF.not_succ_le_zero _)
theorem fR {q:St->Prop} {pre:St} (h:pre=[]\/∃x y,pre=[x,y]) (h0:q []) (h1:∀x y,q [x,y]):q pre:=
 h.Dk (λe=>e▸h0) λ⟨x,y,e⟩=>e▸h1 x y
theorem qo {q:AT Tm->St->Prop} {r:AT Tm} {pre:St} (h:r.A8<=4) (hp:pre=[]\/∃x y,pre=[x,y]) (g0:q [] []) (g1:∀a,q [a] []) (g2:∀a b,q [a,b] []) (g3:∀a b c,q [a,b,c] []) (g4:∀a b c d,q [a,b,c,d] [])
  (h0:∀x y,q [] [x,y]) (h1:∀x y a,q [a] [x,y]) (h2:∀x y a b,q [a,b] [x,y]) (h3:∀x y a b c,q [a,b,c] [x,y]) (h4:∀x y a b c d,q [a,b,c,d] [x,y]):q r pre:=
 fR (q:=λpre=>q r pre) hp (wN (q:=λr=>q r []) h g0 g1 g2 g3 g4) λx y=>wN (q:=λr=>q r [x,y]) h (h0 x y) (h1 x y) (h2 x y) (h3 x y) (h4 x y)
def R4 (PH Wn:V) (L:AT Tk) (c:C) (ds:AT Tm) (pre:St):An:=EX 1635 1 4 396 (CT PH Wn (.FN 1) (.FN (pre.A8+2)) (.t (.D4 1)) []) (c:: .Dg `u::(pre++[.Dg (Aa L)]))
def U4 (PH Wn:V) (L:AT Tk) (c:C) (ds:AT Tm) (pre x:St):An:=EX 1635 1 5 395 (CT PH Wn (.FN (0+1)) (.FN (pre.A8+1+1)) (.t (.D4 1)) []) (c::((.Dg `u::(pre++[.Dg (Aa L)]))++x))
theorem xJ {t0:Tm} {pre:St} (Sa:pre=[]\/∃x y,pre=[x,y]):R4 PH Wn L c [t0] pre=U4 PH Wn L c [t0] pre []:=
 fR (q:=λpre=>R4 PH Wn L c [t0] pre=U4 PH Wn L c [t0] pre []) Sa () λx y=>by lk
def UA (t0:Tm) (L:AT Tk) (c:C) (ds:AT Tm) (pre:St):St:=c:: .Dg `u::(pre++[.Dg (Aa L),.fz (.Dg [Gc t0])])
def JR (PH Wn:V) (L:AT Tk) (c:C) (t0 t1:Tm) (r:AT Tm) (pre:St):Prop:=R4 PH Wn L c (t0::t1::r) pre= .DH 1628 [.t (.Dg [Gc t0])] (UA t0 L c (t0::t1::r) pre) (FR (R4 PH Wn L c (t0::t1::r) pre)) (Jw (R4 PH Wn L c (t0::t1::r) pre))
theorem mG {t0 t1:Tm} {r:AT Tm} {pre:St} (hr:r.A8<=4) (Sa:pre=[]\/∃x y,pre=[x,y]):JR PH Wn L c t0 t1 r pre:=
 qo (q:=λr pre=>JR PH Wn L c t0 t1 r pre) hr Sa (by delta JR;lk) (λ_=>by delta JR;lk) (λ_ _=>by delta JR;lk) (λ_ _ _=>by delta JR;lk) (λ_ _ _ _=>by delta JR;lk) (λ_ _=>by delta JR;lk) (λ_ _ _=>by delta JR;lk) (λ_ _ _ _=>by delta JR;lk) (λ_ _ _ _ _=>by delta JR;lk) (λ_ _ _ _ _ _=>by delta JR;lk)
def JP (PH Wn:V) (L:AT Tk) (c:C) (t0 t1:Tm) (r:AT Tm) (pre:St):Prop:=FR (R4 PH Wn L c (t0::t1::r) pre) (.FN (UA t0 L c (t0::t1::r) pre).A8) (UA t0 L c (t0::t1::r) pre++[.Dg []])=U4 PH Wn L c (t0::t1::r) pre [.fz (.Dg [Gc t0]),.Dg [],.Dg []]
theorem zu {t0 t1:Tm} {r:AT Tm} {pre:St} (hr:r.A8<=4) (Sa:pre=[]\/∃x y,pre=[x,y]):JP PH Wn L c t0 t1 r pre:=
 qo (q:=λr pre=>JP PH Wn L c t0 t1 r pre) hr Sa (by delta JP;lk) (λ_=>by delta JP;lk) (λ_ _=>by delta JP;lk) (λ_ _ _=>by delta JP;lk) (λ_ _ _ _=>by delta JP;lk) (λ_ _=>by delta JP;lk) (λ_ _ _=>by delta JP;lk) (λ_ _ _ _=>by delta JP;lk) (λ_ _ _ _ _=>by delta JP;lk) (λ_ _ _ _ _ _=>by delta JP;lk)
def X5 (n:Dt) (t1:Tm) (L:AT Tk) (r:AT Tm) (pre:St):St:= .Dg (AQ (.num Be n::t1::r))::(pre++[.Dg (Aa L),.fz (.Dg [Gc (.num Be n)]),.Dg [],.Dg (Aa L++[.t (Aw (.nu n))]),.Dg (AQ (t1::r))])
def ZG (PH Wn:V) (n:Dt) (t1:Tm) (L:AT Tk) (c:C) (r:AT Tm) (pre:St):An:=EX 1635 1 5 395 (CT PH Wn (.FN (pre.A8+5+1)) (.FN (pre.A8+4+1)) (.t (.D4 1)) []) (c::X5 n t1 L r pre)
def JQ (PH Wn:V) (L:AT Tk) (c:C) (n:Dt) (t1:Tm) (r:AT Tm) (pre:St):Prop:=FR (R4 PH Wn L c (.num Be n::t1::r) pre) (.t (.Dg [Gc (.num Be n)])) (UA (.num Be n) L c (.num Be n::t1::r) pre)=br (BF.Ls ((Aa L).A8+1) Af) (ZG PH Wn n t1 L c r pre) (.D9 88)
theorem xI {n:Dt} {t1:Tm} {r:AT Tm} {pre:St} (hr:r.A8<=4) (Sa:pre=[]\/∃x y,pre=[x,y]):JQ PH Wn L c n t1 r pre:=
 qo (q:=λr pre=>JQ PH Wn L c n t1 r pre) hr Sa (by delta JQ;lk) (λ_=>by delta JQ;lk) (λ_ _=>by delta JQ;lk) (λ_ _ _=>by delta JQ;lk) (λ_ _ _ _=>by delta JQ;lk) (λ_ _=>by delta JQ;lk) (λ_ _ _=>by delta JQ;lk) (λ_ _ _ _=>by delta JQ;lk) (λ_ _ _ _ _=>by delta JQ;lk) (λ_ _ _ _ _ _=>by delta JQ;lk)
theorem l4n (p:CN b ix sc w n' ah) (hg:AR k c) (hk:k<=3300) {n:Dt} {t1:Tm} {r:AT Tm} (t:TF (.num Be n::t1::r) b ix sc w n') {pre:St} (Sa:pre=[]\/∃x y,pre=[x,y]) (hL:L.A8<=50) (hr:r.A8<=4):
  Rz 6 (FR (R4 PH Wn L c (.num Be n::t1::r) pre) (.t (.Dg [Gc (.num Be n)])) (UA (.num Be n) L c (.num Be n::t1::r) pre)) (k+6) (LQ b ix sc w n' L):=by
 refine Rz.eq ((xI hr Sa).CX (aJ (BF.HZ (by rw[az];unfold Af;omega)))) ?_;refine fF (l5 (ds:=t1::r) (L:=L++[.nu n]) p hg (·) (λu hu=>t.ok u `ab) (BF.OH (BF.le_succ_of_le hr)) (.t (.D4 1)) (fR (q:=λpre=>J7 (X5 n t1 L r pre) (pre.A8+5)=A9 (.Dg (AQ (t1::r)))) Sa rfl λ_ _=>rfl) ?_ (by rw[AT.DE];exact BF.add_le_add hL (show 1<=50 by decide))) λv e h=>aaI p t (AT.cons_ne_nil _ _) h;rw[aA];exact fR (q:=λpre=>J7 (X5 n t1 L r pre) (pre.A8+4)=A9 (.Dg (Aa L++[.t (Aw (.nu n))]))) Sa rfl λ_ _=>rfl
theorem l4 (p:CN b ix sc w n' ah) (hg:AR k c) (hk:k<=3300) (t:TF ds b ix sc w n') {pre:St} (Sa:pre=[]\/∃x y,pre=[x,y]) (hL:L.A8<=50):
  Rz 6 (R4 PH Wn L c ds pre) (k+6) (LQ b ix sc w n' L):=by
 cases ds with
 |HU=>exact Ks rfl t.ne
 |Dc t0 r=>
  have N9:=t.Oa;have no:∀x,Rz 6 (U4 PH Wn L c (t0::r) pre x) (k+6) (LQ b ix sc w n' L):=λx=>
   fF (l5 p hg (·) t.ok N9 (.t (.D4 1)) rfl (fR (q:=λpre=>J7 (.Dg (AQ (t0::r))::(pre++[.Dg (Aa L)])++x) (pre.A8+1)=A9 (.Dg (Aa L))) Sa rfl λ_ _=>rfl) (·)) λv e h=>zE p t h
  cases r with
  |HU=>exact Rz.eq (xJ Sa) (no [])
  |Dc t1 r=>
   have hr:r.A8<=4:=BF.LN (BF.LN N9);clear N9
   by_cases hn:NG (DP t0)=Bj
   .obtain⟨n,e⟩:∃n,t0= .num Be n:=by
     clear no t;cases t0 with
     |num m n=>cases m;exact⟨n,Cs⟩;cases hn
     |idx o s k=>cases o<;>cases hn
     |_=>cases hn
    clear no hn;subst e;exact Rz.DH _ (jY n _) (mG hr Sa) (l4n p hg hk t Sa hL hr)
   .exact Rz.DH _ (lF (DP t0) (itK t0) (by simpa using hn) _) (mG hr Sa) (Rz.eq (zu hr Sa) (no _))
theorem l3 (p:CN b ix sc w n' ah) (hg:AR k c) (hk:k<=3200) (t:TF ds b ix sc w n') {pre:St} (Sa:pre=[]\/∃x y,pre=[x,y]) (hL:L.A8<=50):
  Rz 6 (EX 1635 1 3 397 [(`dD,.FN 0),(`dw,PH),(`cB,Wn),(`dC,.FN 1),(A0,.FN (pre.A8+2))] (c:: .Dg `u::(pre++[.Dg (Aa L)]))) (k+7) (LQ b ix sc w n' L):=by
 obtain⟨d,c1,hd,g1,dr⟩:=ay hg (·) (L:=2) (by decide) (by decide);refine Rz.DH (c:: .Dg `u::(pre++[.Dg (Aa L)])) (dr _) () ?_;have hd:d=0\/d=1:=by omega
 rcases hd with rfl|rfl
 .refine Rz.eq (show _=EX 1635 1 5 395 (CT PH Wn (.FN (0+1)) (.FN (pre.A8+1+1)) (.t (.D4 0)) []) (c1:: .Dg `u::(pre++[.Dg (Aa L)])) by lk) ?_
  exact fF (l5 p g1 (·) t.ok t.Oa (.t (.D4 0)) rfl (by apply gS Sa<;>intros<;>rfl) (·)) λv e h=>zE p t h
 .exact Rz.eq () (l4 (PH:=PH) (Wn:=Wn) p g1 (·) t Sa hL)
end
theorem Go.Ey {m n:BF} {A B:An} (h:Go m A B) (le:m<=n:=by decide):Go n A B:=λd k ke=>by
 obtain⟨j,Cs⟩:=BF.le.dest le;rw[show d+(m+j)=(d+j)+m by omega];exact h _ _ _
theorem Rz.up {m n k l:BF} {A:An} {Q:V->St->Prop} (h:Rz m A k Q) (le2:k<=l) (le:m<=n:=by decide):Rz n A l Q:=by
 obtain⟨v,c',ext,q,g,go⟩:=h;exact⟨v,c',ext,q,g.Ey le2,go.Ey le⟩
theorem PT.ne {l:AT Tk} (h:PT l) (hn:l≠[]):NE l:=by
 cases l with
 |HU=>exact Ks rfl hn
 |Dc u r=>
  refine⟨u,r,Cs,?_⟩
  have:=(h u AT.KS).2
  cases u<;>first|rfl|exact Ks rfl F4
theorem xw {ah s':Dr} (ha:ah=s!"fs"\/ah=s!"gs"\/ah=s!"ds") (hs:s'=ah\/s'=LX ah):Sm (.na s') ah:=λi cs=>by
 rcases ha with rfl|rfl|rfl<;>rcases hs with rfl|rfl<;>exact aa λd=>by lk
section
variable {b ix:T} {sc w z:Dt} {n' ah:Dr} {c:C} {k:BF}
theorem vk (p:CN b ix sc w n' ah) (hz:C6 z) (hg:AR k c) (hk:k<=3000):∃Dp c',(∀wd,E3 Dp wd (Ar b ix sc w z (AC ah) n'))/\PT Dp/\Dp.A8<=60/\NE Dp/\AR (k+25) c'/\
  Ct 8 1635 [.FN 0,.t `w,.t (.Dq ah)] [c] (.EM (.FN 1) [c',.Dg `x]):=by
 obtain⟨c1,ds,tf,g1,r1⟩:=qf (z:=z) (sg:=AC ah) hg (·) p.hw p.hn p.bx;obtain⟨wt,c2,hwt,⟨pw,lw⟩,g2,r2⟩:=pT g1 (·) hz;have K7:∀st:AT Tk,MF st ah->PT st->st.A8<=2->Rz 7 (R 1635 [.FN 0,.t `w,.t (.Dq ah)] [c]) (k+25) (LQ b ix sc w n' (wt++st))->∃Dp c',(∀wd,E3 Dp wd `w)/\PT Dp/\Dp.A8<=60/\NE Dp/\AR (k+25) c'/\
  Ct 8 1635 [.FN 0,.t `w,.t (.Dq ah)] [c] (.EM (.FN 1) [c',.Dg `x]):=by
  intro st hst pst Dg h;obtain⟨v,c',ext,⟨Cs,bt,hb,hf,pb,lb,Cs⟩,gd,go⟩:=h;rw[AT.F7] at go;refine⟨wt++(st++bt),c',λwd=>rj hwt hst hf hb wd,PT.Wy pw (pst.Wy pb),by simp only[AT.DE];omega,?_,gd,ac go⟩;refine PT.ne (PT.Wy pw (pst.Wy pb)) ?_
  have:bt≠[]:=by rcases hf with⟨r',Cs⟩|⟨n,r',Cs⟩<;>simp
  simp[F4]
 rcases p.ha with hah|hah
 .refine K7 [] (.HX ⟨Cs,hah⟩) .HU (by decide) ?_
  rw[hah] at r1⊢;refine Rz.DH [c] r1 () (Rz.DH [c1,.Dg `u] (r2 _) () ?_);rw[AT.H7];refine Rz.eq () (Rz.up (l3 (PH:= .t (Ar b ix sc w z (AC Ae) n')) (Wn:= .t (.Dq Ae)) (pre:=[]) (L:=wt) p g2 (·) tf (.HX rfl) (·)) (·))
 .have has:AS ah:=by apply wP hah<;>rfl
  obtain⟨s',c3,hs',g3,r3⟩:=jr g2 (·) has;refine K7 [.na s',.sg DF] (.G4 ⟨s',Cs,xw hah hs',hah⟩) (.Dc (aI _) (.Dc (aE _) .HU)) (by simp) ?_;refine Rz.DH [c] r1 () (Rz.DH [c1,.Dg `u] (r2 _) () ?_);refine Rz.DH [c2,.Dg `u,.Dg (Aa wt)] (r3 _) (by apply wP hah<;>lk) ?_;refine Rz.eq (show _=br (BF.Ls ((Aa wt).A8+2) Af) (EX 1635 1 3 397 [(`dD,.FN 0),(`dw,.t `w),(`cB,.t (.Dq ah)),(`dC,.FN 1),(A0,.FN 4)] [c3,.Dg `u,.Dg (Aa wt),.Dg (Aa [.na s',.sg DF]),.Dg (Aa wt++Aa [.na s',.sg DF])]) (.D9 88) by
   apply wP hah<;>lk) ?_
  rw[aJ (BF.HZ (by rw[az];unfold Af;omega)),<-aA];refine Rz.eq () (Rz.up (l3 (PH:= .t `w) (Wn:= .t (.Dq ah)) (pre:=[.Dg (Aa wt),.Dg (Aa [.na s',.sg DF])]) (L:=wt++[.na s',.sg DF]) p g3 (·) tf (.G4 ⟨_,_,Cs⟩) (by simp;omega)) (·))
end
def GW (v:V) (ext:St):Prop:=ext=[]/\∃Dp s RF pre,v= .t (.Ld [.Dg (Dp.FW Aw),A5 s RF pre])/\Gz Dp/\DU Dp (A5 s RF pre)/\IG s RF pre
def Aac (i:BF):KV:=λv cs=>AA (AU `at cs [.FN i,v]) 98 λp=>br (BF.Ls p.1.A8 Af) (FP 1 (.t (.Ld p.1)) p.2) (.D9 42)
theorem gh {c:C} {S:St} {i:BF} {ts:AT T} (h:J7 S i=A9 (.Dg (ZW ts))) (t:T):Aac (i+1) (.t t) (c::S)= .EM (.t (.Ld [.Dg ts,t])) [c]:=by
 have e:WC BN (c::S) (.FN (i+1))=A9 (.Dg ts,PF (c::S) (i+1) (.fz (.Dg ts))):=cm (show J7 (c::S) (i+1)=A9 (.Dg `aB) from h) 11;have e2:∀cs,WC BN cs (.t t)=A9 (t,cs):=λ_=>rfl;have e3:AU `at (c::S) [.FN (i+1),.t t]=A9 ([.Dg ts,t],PF (c::S) (i+1) (.fz (.Dg ts))):=JS e (JS (e2 _) Rm);unfold Aac;rw[e3];rfl
section
variable {b ix:T} {sc w z:Dt} {sg n' ah:Dr} {c:C} {k:BF} {Dp:AT Tk}
theorem fL (nb:NI b) (ni:NI ix) (ZS:Dt) (cs:St):Ct 5 1663 [.t (`i n'),.t (.D4 ZS)] cs (.EM (.t (Ar b ix sc w ZS sg n')) cs):=by
 rcases nb with rfl|⟨b1,b2,Cs⟩<;>rcases ni with rfl|⟨i1,i2,Cs⟩<;>exact aa λd=>by lk
theorem i6 (v:T) (c x y:C):Cq 3 452 1 [.t v] [c,x,y] (.EM (.t (AG v)) [c,x,y]):=aN λd=>by lk
theorem j5 (s:Dr) (a b:T) (c x1 x2 x3 x4 x5 x6 x7:C):Cq 3 631 1 [.t (.Dq s),.FN 8] [c,x1,x2,x3,x4,x5,x6,x7,.Dg [.t a,.t b]] (.EM (.t (A5 s [a,b] Ae)) [c,x1,x2,x3,x4,x5,x6,x7,.Dg [.t a,.t b]]):=aN λd=>by lk
theorem j6 (s:Dr) (a b:T) (c x1 x2 x3 x4 x5:C):Cq 3 631 1 [.t (.Dq s),.FN 6] [c,x1,x2,x3,x4,x5,.Dg [.t a,.t b]] (.EM (.t (A5 s [a,b] Ae)) [c,x1,x2,x3,x4,x5,.Dg [.t a,.t b]]):=aN λd=>by lk
theorem j7 (s:Dr) (a:T) (c x1 x2 x3 x4:C):Cq 3 631 1 [.t (.Dq s),.FN 5] [c,x1,x2,x3,x4,.Dg [.t a]] (.EM (.t (A5 s [a] Ae)) [c,x1,x2,x3,x4,.Dg [.t a]]):=aN λd=>by lk
theorem oy (s p:Dr) (a:T) (c x1 x2 x3 x4:C):Cq 3 631 1 [.t (.Dq s),.FN 5,.t (.Dq p)] [c,x1,x2,x3,x4,.Dg [.t a]] (.EM (.t (A5 s [a] p)) [c,x1,x2,x3,x4,.Dg [.t a]]):=aN λd=>by lk
def JC (d:BF) (z:Dt) (PH:T) (ah:Dr) (Do:Ag):Ag:=(`dD,.FN 0)::(s!"way",.t (.D4 d))::(`cY,.t (.D4 z))::(`dw,.t PH)::(`cB,.t (.Dq ah))::(A0,.FN 1)::(s!"comma",.FN 2)::Do
def Dz:C:= .Dg (Aa [.sg Au])
theorem cI {Dp:AT Tk} (h:PT Dp) (hl:Dp.A8<=300):Gz Dp:=⟨h,(·)⟩
theorem cV {n:BF} (h:n<=4000):BF.Ls n Af=Bj:=BF.HZ (by unfold Af;omega)
def MB (b ix:T) (sc w z:Dt) (n' ah:Dr) (Dp:AT Tk) (c2:C) (e:BF) (zz:Sz):An:=br (BF.Ls ((Aa [.na AL]).A8+(Aa Dp).A8) Af) (br (BF.Ls ((Aa [.na AL]++Aa Dp).A8+(Aa [.sg Au]).A8) Af) (br (BF.Ls ((Aa [.na AL]++Aa Dp++Aa [.sg Au]).A8+(Aa [.na `B]).A8) Af)
   (.PE 631 1 [.t (.Dq AL),.FN 8] [c2,.Dg `x,Dz,.Dg (Aa [.na `B]),.Dg (Aa [.na AL]),.Dg (Aa [.na AL]++Aa Dp),.Dg (Aa [.na AL]++Aa Dp++Aa [.sg Au]),.Dg (Aa [.na AL]++Aa Dp++Aa [.sg Au]++Aa [.na `B]),.Dg [.t (Ar b ix sc w `ai `Z n'),.t (AG `Q)]] (Aac 7) (AW 1)) (.D9 88)) (.D9 88)) (.D9 88)
def MA (b ix:T) (sc w z:Dt) (n' ah:Dr) (Dp:AT Tk) (c2:C) (e:BF) (zz:Sz):An:=br (BF.Ls ((Aa [.na AL]++Aa [.na `B]++Aa [.sg Au]).A8+(Aa Dp).A8) Af)
   (.PE 631 1 [.t (.Dq AL),.FN 8] [c2,.Dg `x,Dz,.Dg (Aa [.na `B]),.Dg (Aa [.na AL]),.Dg (Aa [.na AL]++Aa [.na `B]),.Dg (Aa [.na AL]++Aa [.na `B]++Aa [.sg Au]),.Dg (Aa [.na AL]++Aa [.na `B]++Aa [.sg Au]++Aa Dp),.Dg [.t (AG `Q),.t (Ar b ix sc w `ai `Z n')]] (Aac 7) (AW 1)) (.D9 88)
def LY (dw:BF) (b ix:T) (sc w z:Dt) (n' ah:Dr) (Dp:AT Tk) (c:C):An:=EX 1656 1 5 395 (JC dw z `w ah []) [c,.Dg `x,Dz]
def ZH (dw:BF) (b ix:T) (sc w z:Dt) (n' ah:Dr) (Dp:AT Tk) (c c1:C) (e:BF):An:=FR (LY dw b ix sc w z n' ah Dp c) (.t (.D4 e)) [c1,.Dg `x,Dz]
def UI (dw:BF) (b ix:T) (sc w z:Dt) (n' ah:Dr) (Dp:AT Tk) (c c1 c2:C) (e f:BF):An:=FR (ZH dw b ix sc w z n' ah Dp c c1 e) (.t (.D4 f)) [c2,.Dg `x,Dz]
def UH (dw:BF) (b ix:T) (sc w z:Dt) (n' ah:Dr) (Dp:AT Tk) (c c1 c2:C) (e f:BF) (zz:Sz):An:=FR (UI dw b ix sc w z n' ah Dp c c1 c2 e f) (.t `Q) [c2,.Dg `x,Dz]
def Pg (dw:BF) (b ix:T) (sc w z:Dt) (n' ah:Dr) (Dp:AT Tk) (c c1 c2:C) (e f:BF) (zz:Sz):An:=FR (UH dw b ix sc w z n' ah Dp c c1 c2 e f zz) (.t (AG `Q)) [c2,.Dg `x,Dz]
def Zn (dw:BF) (b ix:T) (sc w:Dt) (n' ah:Dr) (Dp:AT Tk) (c c1 c2:C) (e f:BF) (zz:Sz):An:=FR (Pg dw b ix sc w 0 n' ah Dp c c1 c2 e f zz) (.t (Ar b ix sc w (CP zz) `Z n')) [c2,.Dg `x,Dz]
def MC (dw:BF) (b ix:T) (sc w z:Dt) (n' ah:Dr) (Dp:AT Tk) (c2:C) (e:BF) (zz:Sz):An:=match dw with
 |0=>MB b ix sc w z n' ah Dp c2 e zz
 |_=>MA b ix sc w z n' ah Dp c2 e zz
def Fm (f:BF):Sz:=match f with
 |0=> .b
 |1=> .w
 |2=> .d
 |_=> .q
theorem gF {P:BF->BF->Prop} {dw f:BF} (hd:dw=0\/dw=1) (hf:f=0\/f=1\/f=2\/f=3) (a0:P 0 0) (a1:P 0 1) (a2:P 0 2) (a3:P 0 3) (b0:P 1 0) (b1:P 1 1) (b2:P 1 2) (b3:P 1 3):P dw f:=
 oi hd (P:=λdw=>P dw f) (pr4 (P:=λf=>P 0 f) hf a0 a1 a2 a3) (pr4 (P:=λf=>P 1 f) hf b0 b1 b2 b3)
section
variable {dw f e:BF} {c1 c2:C} (hd:dw=0\/dw=1) (hf:f=0\/f=1\/f=2\/f=3)
include hd hf
theorem xT:UI dw b ix sc w z n' ah Dp c c1 c2 e f=Aal 1219 [.t (.D4 e),.t (.D4 (CP (Fm f)))] [c2,.Dg (Aa Dp),Dz] (UI dw b ix sc w z n' ah Dp c c1 c2 e f):=
 gF (P:=λdw f=>UI dw b ix sc w z n' ah Dp c c1 c2 e f=Aal 1219 [.t (.D4 e),.t (.D4 (CP (Fm f)))] [c2,.Dg `x,Dz] (UI dw b ix sc w z n' ah Dp c c1 c2 e f)) hd hf () () () () () () () ()
theorem xS:UH dw b ix sc w z n' ah Dp c c1 c2 e f (Fm f)=Aaa 452 1 [.t (AJ (Fm f) e)] [c2,.Dg (Aa Dp),Dz] (UH dw b ix sc w z n' ah Dp c c1 c2 e f (Fm f)):=
 gF (P:=λdw f=>UH dw b ix sc w z n' ah Dp c c1 c2 e f (Fm f)=Aaa 452 1 [.t (AJ (Fm f) e)] [c2,.Dg `x,Dz] (UH dw b ix sc w z n' ah Dp c c1 c2 e f (Fm f))) hd hf () () () () () () () ()
theorem rz:Pg dw b ix sc w 0 n' ah Dp c c1 c2 e f (Fm f)=Aal 1663 [.t (Ar b ix sc w 0 (AC ah) n'),.t (.D4 (CP (Fm f)))] [c2,.Dg (Aa Dp),Dz] (Pg dw b ix sc w 0 n' ah Dp c c1 c2 e f (Fm f)):=
 gF (P:=λdw f=>Pg dw b ix sc w 0 n' ah Dp c c1 c2 e f (Fm f)=Aal 1663 [.t (Ar b ix sc w 0 `Z n'),.t (.D4 (CP (Fm f)))] [c2,.Dg `x,Dz] (Pg dw b ix sc w 0 n' ah Dp c c1 c2 e f (Fm f))) hd hf () () () () () () () ()
theorem u0:Zn dw b ix sc w n' ah Dp c c1 c2 e f (Fm f)=MC dw b ix sc w 0 n' ah Dp c2 e (Fm f):=
 gF (P:=λdw f=>Zn dw b ix sc w n' ah Dp c c1 c2 e f (Fm f)=MC dw b ix sc w 0 n' ah Dp c2 e (Fm f)) hd hf () () () () () () () ()
theorem xU (hz:z=8\/z=16\/z=32\/z=64\/z=128):Pg dw b ix sc w z n' ah Dp c c1 c2 e f (Fm f)=MC dw b ix sc w z n' ah Dp c2 e (Fm f):=
 gF (P:=λdw f=>Pg dw b ix sc w z n' ah Dp c c1 c2 e f (Fm f)=MC dw b ix sc w z n' ah Dp c2 e (Fm f)) hd hf (by apply gQ hz<;>lk) (by apply gQ hz<;>lk) (by apply gQ hz<;>lk) (by apply gQ hz<;>lk) (by apply gQ hz<;>lk) (by apply gQ hz<;>lk) (by apply gQ hz<;>lk) (by apply gQ hz<;>lk)
end
theorem rL (p:CN b ix sc w n' ah) (hz:C6 z) (hg:AR k c) (hk:k<=3000) (ho:∀wd,E3 Dp wd (Ar b ix sc w z (AC ah) n')) (pt:PT Dp) (hl:Dp.A8<=60) (Vo:NE Dp) {dw:BF} (hdw:dw=0\/dw=1):
  Rz 9 (LY dw b ix sc w z n' ah Dp c) (k+2) GW:=by
 obtain⟨e,c1,he,g1,r1⟩:=ay hg (·) (L:=16) (by decide) (by decide);obtain⟨f,c2,hf,g2,r2⟩:=ay g1 (·) (L:=4) (by decide) (by decide);have he:e<16:=by omega
 have pr:∀s,PT [.na s]:=λs=> .Dc (aI s) .HU;have q0:∀zz,DU ([.na AL]++(Dp++ .sg Au::[.na `B])) (A5 AL [Ar b ix sc w `ai `Z n',AG `Q] Ae):=λzz=>
  cb (bL (.HX rfl)) (.HX rfl) (ho _) (E3.reg zz e he _) Vo (λc0 lt p'=>(tn zz p.rb.ni p.ri.ni hz).Ey (by decide)) (by simp;omega)
 have q1:∀zz,DU ([.na AL]++([.na `B]++ .sg Au::Dp)) (A5 AL [AG `Q,Ar b ix sc w `ai `Z n'] Ae):=λzz=>
  cb (bL (.HX rfl)) (.HX rfl) (E3.reg zz e he _) (ho _) ⟨_,_,Cs,Cs⟩ (λc0 lt p'=>(tm zz p.rb.ni p.ri.ni hz).Ey (by decide)) (by simp;omega)
 have Q0:∀zz,GW (.t (.Ld [.Dg (([.na AL]++(Dp++ .sg Au::[.na `B]):AT Tk).FW Aw),A5 AL [Ar b ix sc w `ai `Z n',AG `Q] Ae])) []:=λzz=>
  ⟨Cs,_,_,_,_,Cs,cI ((pr _).Wy (pt.Wy (.Dc (aE _) (pr _)))) (by simp;omega),q0 zz,ua p.rb p.ri _ _ _ _⟩
 have Q1:∀zz,GW (.t (.Ld [.Dg (([.na AL]++([.na `B]++ .sg Au::Dp):AT Tk).FW Aw),A5 AL [AG `Q,Ar b ix sc w `ai `Z n'] Ae])) []:=λzz=>
  ⟨Cs,_,_,_,_,Cs,cI ((pr _).Wy ((pr _).Wy (.Dc (aE _) pt))) (by simp;omega),q1 zz,iG p.rb p.ri _ _ _ _⟩
 have tail0:∀zz,Rz 9 (MB b ix sc w z n' ah Dp c2 e zz) (k+2) GW:=by
  intro zz;unfold MB;rw[<-aA,<-aA,<-aA];simp only[az];rw[aJ (cV (by simp;omega)),aJ (cV (by simp;omega)),aJ (cV (by simp;omega))];have el:[.na AL]++Dp++[.sg Au]++[.na `B]=([.na AL]++(Dp++ .sg Au::[.na `B]):AT Tk):=by simp
  rw[el];refine Rz.PE _ (j5 AL (Ar b ix sc w `ai `Z n') (AG `Q) c2 _ _ _ _ _ _ _) rfl ?_;exact Rz.EM (gh (i:=6) rfl _) (Q0 zz) g2
 have tail1:∀zz,Rz 9 (MA b ix sc w z n' ah Dp c2 e zz) (k+2) GW:=by
  intro zz;unfold MA;rw[<-aA,<-aA,<-aA];simp only[az];rw[aJ (cV (by simp;omega))];have el:[.na AL]++[.na `B]++[.sg Au]++Dp=([.na AL]++([.na `B]++ .sg Au::Dp):AT Tk):=by simp
  rw[el];refine Rz.PE _ (j5 AL (AG `Q) (Ar b ix sc w `ai `Z n') c2 _ _ _ _ _ _ _) rfl ?_;exact Rz.EM (gh (i:=6) rfl _) (Q1 zz) g2
 have hf4:f=0\/f=1\/f=2\/f=3:=lt4 hf;clear Q0 Q1 q0 q1 ho pr hk hf hg g1 hl Vo pt;have Do:Rz 9 (MC dw b ix sc w z n' ah Dp c2 e (Fm f)) (k+2) GW:=hdw.Dk (λh=>h▸tail0 _) λh=>h▸tail1 _;clear tail0 tail1;refine Rz.DH [c,.Dg `x,Dz] (r1 [.Dg `x,Dz]) (by apply oi hdw<;>lk) (Rz.DH [c1,.Dg `x,Dz] (r2 [.Dg `x,Dz]) (by apply oi hdw<;>lk) (Rz.DH [c2,.Dg `x,Dz] (dF (Fm f) e he [c2,.Dg `x,Dz]) (xT hdw hf4) (Rz.PE [c2,.Dg `x,Dz] (i6 (AJ (Fm f) e) c2 (.Dg `x) Dz) (xS hdw hf4) ?_)));clear r1 r2;rcases hz with hz|hz
 .subst hz
  exact Rz.DH [c2,.Dg `x,Dz] (fL (sc:=sc) (w:=w) (z:=0) (sg:=AC ah) (n':=n') p.rb.ni p.ri.ni (CP (Fm f)) [c2,.Dg `x,Dz]) (rz hdw hf4) (Rz.eq (u0 hdw hf4) Do)
 .exact Rz.eq (xU hdw hf4 hz) Do
end
section
variable {b ix:T} {sc w z:Dt} {sg n' ah:Dr} {c:C} {k:BF} {Dp:AT Tk}
def Aab (s:Dr) (i:BF) (first:AT V):KV:=λv cs=>AA (AU Hd cs (first++[v])) 97 λp=>br (BF.Ls p.1.A8 Af) (LH (.Dg p.1) p.2 λu cs=> .PE 631 1 [.t (.Dq s),u] cs (Aac i) (AW 1)) (.D9 41)
theorem zJ (p:CN b ix sc w n' ah) (hz:C6 z) (hg:AR k c) (hk:k<=3000) (ho:∀wd,E3 Dp wd (Ar b ix sc w z (AC ah) n')) (pt:PT Dp) (hl:Dp.A8<=60) (Vo:NE Dp):
  Rz 9 (EX 1656 1 5 395 (JC 2 z `w ah []) [c,.Dg `x,Dz]) (k+2) GW:=by
 obtain⟨e,c1,he,g1,r1⟩:=ay hg (·) (L:=16) (by decide) (by decide);obtain⟨f,c2,hf,g2,r2⟩:=ay g1 (·) (L:=2) (by decide) (by decide);have he:e<16:=by omega
 have gp:=λzz=>dF zz e he [c2,.Dg `x,Dz];have mk:=λzz=>i6 `Q c2 (.Dg `x) Dz;have pr:∀s,PT [.na s]:=λs=> .Dc (aI s) .HU;have q:∀zz,(zz= .d\/zz= .q)->DU ([.na `dy]++([.na `B]++ .sg Au::Dp)) (A5 `dy [AG `Q,Ar b ix sc w 0 `Z n'] Ae):=λzz hzz=>
  cb (bL (.G4 (.HX rfl))) (.G4 (.HX rfl)) (E3.reg zz e he _) (ho _) ⟨_,_,Cs,Cs⟩ (λc0 lt p'=>(we p.rb.ni p.ri.ni hzz hz).Ey (by decide)) (by simp;omega)
 have Q:∀zz,(zz= .d\/zz= .q)->GW (.t (.Ld [.Dg (([.na `dy]++([.na `B]++ .sg Au::Dp):AT Tk).FW Aw),A5 `dy [AG `Q,Ar b ix sc w 0 `Z n'] Ae])) []:=λzz hzz=>
  ⟨Cs,_,_,_,_,Cs,cI ((pr _).Wy ((pr _).Wy (.Dc (aE _) pt))) (by simp;omega),q zz hzz,iG p.rb p.ri _ _ _ _⟩
 have Do:∀(zz:Sz) (A:An),(zz= .d\/zz= .q)->A=br (BF.Ls ((Aa [.na `dy,.na `B]++Aa [.sg Au]).A8+(Aa Dp).A8) Af)
   (.DH 1663 [.t `w,.t (.D4 0)] [c2,.Dg `x,Dz,.Dg (Aa [.na `dy,.na `B]),.Dg (Aa [.na `dy,.na `B]++Aa [.sg Au]),.Dg (Aa [.na `dy,.na `B]++Aa [.sg Au]++Aa Dp)] (Aab `dy 5 [.t (AG `Q)]) (AW 1)) (.D9 88)->Rz 9 A (k+2) GW:=by
  intro zz A hzz hA;rw[hA,<-aA,<-aA];simp only[az];rw[aJ (cV (by simp;omega))];have el:[.na `dy,.na `B]++[.sg Au]++Dp=([.na `dy]++([.na `B]++ .sg Au::Dp):AT Tk):=by simp
  rw[el];refine Rz.DH _ (fL p.rb.ni p.ri.ni 0 _) rfl ?_;refine Rz.PE [c2,_,_,_,_,_,_] (j6 `dy (AG `Q) (Ar b ix sc w 0 `Z n') c2 _ _ _ _ _) rfl ?_;exact Rz.EM (gh (i:=4) rfl _) (Q zz hzz) g2
 have hf:f=0\/f=1:=by omega
 refine Rz.DH [c,.Dg `x,Dz] (r1 _) () (Rz.DH [c1,.Dg `x,Dz] (r2 _) () ?_);rcases hf with rfl|rfl
 .exact Rz.DH _ (gp .d) () (Rz.PE _ (mk .d) () (Do .d _ (.HX rfl) ()))
 .exact Rz.DH _ (gp .q) () (Rz.PE _ (mk .q) () (Do .q _ (.G4 rfl) ()))
theorem zI (p:CN b ix sc w n' ah) (hz:C6 z) (hg:AR k c) (hk:k<=3000) (ho:∀wd,E3 Dp wd (Ar b ix sc w z (AC ah) n')) (pt:PT Dp) (hl:Dp.A8<=60) (Vo:NE Dp):
  Rz 9 (EX 1656 1 5 395 (JC 3 z `w ah []) [c,.Dg `x,Dz]) (k+2) GW:=by
 obtain⟨e,c1,he,g1,r1⟩:=ay hg (·) (L:=16) (by decide) (by decide);obtain⟨f,c2,hf,g2,r2⟩:=ay g1 (·) (L:=2) (by decide) (by decide);have he:e<16:=by omega
 have gp:=λzz=>dF zz e he [c2,.Dg `x,Dz];have mk:=λzz=>i6 `Q c2 (.Dg `x) Dz;have pr:∀s,PT [.na s]:=λs=> .Dc (aI s) .HU;have q:∀zz,(zz= .d\/zz= .q)->DU ([.na `dz]++([.na `B]++ .sg Au::Dp)) (A5 `dz [AG `Q,Ar b ix sc w z `Z n'] Ae):=λzz hzz=>
  cb (bL (.G4 (.G4 (.HX rfl)))) (.G4 (.G4 (.HX rfl))) (E3.reg zz e he _) (ho _) ⟨_,_,Cs,Cs⟩ (λc0 lt p'=>(pu p.rb.ni p.ri.ni hzz hz).Ey (by decide)) (by simp;omega)
 have Q:∀zz,(zz= .d\/zz= .q)->GW (.t (.Ld [.Dg (([.na `dz]++([.na `B]++ .sg Au::Dp):AT Tk).FW Aw),A5 `dz [AG `Q,Ar b ix sc w z `Z n'] Ae])) []:=λzz hzz=>
  ⟨Cs,_,_,_,_,Cs,cI ((pr _).Wy ((pr _).Wy (.Dc (aE _) pt))) (by simp;omega),q zz hzz,iG p.rb p.ri _ _ _ _⟩
 have Do:∀(zz:Sz) (A:An),(zz= .d\/zz= .q)->A=br (BF.Ls ((Aa [.na `dz,.na `B]++Aa [.sg Au]).A8+(Aa Dp).A8) Af)
   (.PE 631 1 [.t (.Dq `dz),.FN 6] [c2,.Dg `x,Dz,.Dg (Aa [.na `dz,.na `B]),.Dg (Aa [.na `dz,.na `B]++Aa [.sg Au]),.Dg (Aa [.na `dz,.na `B]++Aa [.sg Au]++Aa Dp),.Dg [.t (AG `Q),.t `w]] (Aac 5) (AW 1)) (.D9 88)->Rz 9 A (k+2) GW:=by
  intro zz A hzz hA;rw[hA,<-aA,<-aA];simp only[az];rw[aJ (cV (by simp;omega))];have el:[.na `dz,.na `B]++[.sg Au]++Dp=([.na `dz]++([.na `B]++ .sg Au::Dp):AT Tk):=by simp
  rw[el];refine Rz.PE _ (j6 `dz (AG `Q) `w c2 _ _ _ _ _) rfl ?_;exact Rz.EM (gh (i:=4) rfl _) (Q zz hzz) g2
 have hf:f=0\/f=1:=by omega
 refine Rz.DH [c,.Dg `x,Dz] (r1 _) () (Rz.DH [c1,.Dg `x,Dz] (r2 _) () ?_);rcases hf with rfl|rfl
 .exact Rz.DH _ (gp .d) () (Rz.PE _ (mk .d) () (Do .d _ (.HX rfl) ()))
 .exact Rz.DH _ (gp .q) () (Rz.PE _ (mk .q) () (Do .q _ (.G4 rfl) ()))
theorem zH (p:CN b ix sc w n' ah) (hz:C6 z) (hg:AR k c) (hk:k<=3000) (ho:∀wd,E3 Dp wd (Ar b ix sc w z (AC ah) n')) (pt:PT Dp) (hl:Dp.A8<=60) (Vo:NE Dp):
  Rz 9 (EX 1656 1 5 395 (JC 4 z `w ah []) [c,.Dg `x,Dz]) (k+2) GW:=by
 have q:DU ([.na Ca,.na A3]++Dp) (A5 A3 [Ar b ix sc w z `Z n'] Ca):=
  kh oW (.G4 (.G4 (.G4 (.G4 (.HX rfl))))) (ho _) Vo (λc0 lt p'=>(wc p.rb.ni p.ri.ni (.G4 rfl) hz).Ey (by decide)) (by simp;omega)
 have Q:GW (.t (.Ld [.Dg (([.na Ca,.na A3]++Dp:AT Tk).FW Aw),A5 A3 [Ar b ix sc w z `Z n'] Ca])) []:=
  ⟨Cs,_,_,_,_,Cs,cI (PT.Wy (.Dc (aI _) (.Dc (aI _) .HU)) pt) (by simp;omega),q,qa p.rb p.ri⟩
 refine Rz.eq (show _=br (BF.Ls ((Aa [.na Ca,.na A3]).A8+(Aa Dp).A8) Af)
   (.PE 631 1 [.t (.Dq A3),.FN 5,.t (.Dq Ca)] [c,.Dg `x,Dz,.Dg (Aa [.na Ca,.na A3]),.Dg (Aa [.na Ca,.na A3]++Aa Dp),.Dg [.t `w]] (Aac 4) (AW 1)) (.D9 88) by lk) ?_
 rw[<-aA];simp only[az];rw[aJ (cV (by simp;omega))];refine Rz.PE _ (oy A3 Ca `w c _ _ _ _) rfl ?_;exact Rz.EM (gh (i:=3) rfl _) Q (hg.Ey (·))
theorem zG (p:CN b ix sc w n' ah) (hz:C6 z) (hg:AR k c) (hk:k<=3000) (ho:∀wd,E3 Dp wd (Ar b ix sc w z (AC ah) n')) (pt:PT Dp) (hl:Dp.A8<=60) (Vo:NE Dp):
  Rz 9 (EX 1656 1 5 395 (JC 5 z `w ah []) [c,.Dg `x,Dz]) (k+2) GW:=by
 have q:DU ([.na `dA]++Dp) (A5 `dA [Ar b ix sc w (Cc z 64) `Z n'] Ae):=
  kh (bL (.G4 (.G4 (.G4 (.HX rfl))))) (.G4 (.G4 (.G4 (.HX rfl)))) (ho _) Vo (λc0 lt p'=>(wf p.rb.ni p.ri.ni hz).Ey (by decide)) (by simp;omega)
 have Q:GW (.t (.Ld [.Dg (([.na `dA]++Dp:AT Tk).FW Aw),A5 `dA [Ar b ix sc w (Cc z 64) `Z n'] Ae])) []:=
  ⟨Cs,_,_,_,_,Cs,cI (PT.Wy (.Dc (aI _) .HU) pt) (by simp;omega),q,qa p.rb p.ri⟩
 have Do:∀A:An,A=br (BF.Ls ((Aa [.na `dA]).A8+(Aa Dp).A8) Af)
   (.PE 631 1 [.t (.Dq `dA),.FN 5] [c,.Dg `x,Dz,.Dg (Aa [.na `dA]),.Dg (Aa [.na `dA]++Aa Dp),.Dg [.t (Ar b ix sc w (Cc z 64) `Z n')]] (Aac 4) (AW 1)) (.D9 88)->Rz 9 A (k+2) GW:=by
  intro A hA;rw[hA,<-aA];simp only[az];rw[aJ (cV (by simp;omega))];refine Rz.PE _ (j7 `dA (Ar b ix sc w (Cc z 64) `Z n') c _ _ _ _) rfl ?_;exact Rz.EM (gh (i:=3) rfl _) Q (hg.Ey (·))
 rcases hz with rfl|rfl|rfl|rfl|rfl|rfl
 .refine Rz.eq (show _=br (BF.Ls ((Aa [.na `dA]).A8+(Aa Dp).A8) Af)
   (.DH 1663 [.t (Ar b ix sc w 0 `Z n'),.t (.D4 64)] [c,.Dg `x,Dz,.Dg (Aa [.na `dA]),.Dg (Aa [.na `dA]++Aa Dp)] (Aab `dA 4 []) (AW 1)) (.D9 88) by lk) ?_
  rw[<-aA];simp only[az];rw[aJ (cV (by simp;omega))];refine Rz.DH _ (fL p.rb.ni p.ri.ni 64 _) rfl ?_;refine Rz.PE [c,_,_,_,_,_] (j7 `dA (Ar b ix sc w 64 `Z n') c _ _ _ _) rfl ?_;exact Rz.EM (gh (i:=3) rfl _) Q (hg.Ey (·))
 all_goals exact Do _ ()
theorem u4 (hg:AR k c) (hk:k<=2500):∃v c' ext,GW v ext/\AR (k+40) c'/\Ct 10 1656 [.FN 0] [c] (.EM v (c'::ext)):=by
 have Qt:Rz 9 (R 1656 [.FN 0] [c]) (k+40) GW:=by
  obtain⟨d,c1,hd,g1,r1⟩:=ay hg (·) (L:=6) (by decide) (by decide);obtain⟨z,c2,hz,g2,r2⟩:=uk g1 (·);obtain⟨v,c3,ext,⟨Cs,b,ix,sc,w,n',ah,p,Cs⟩,g3,r3⟩:=qO g2 (·) z;obtain⟨Dp,c4,ho,pt,hl,Vo,g4,r4⟩:=vk p hz g3 (·);have pre:Rz 9 (EX 1656 1 5 395 (JC d z `w ah []) [c4,.Dg `x,Dz]) (k+40) GW:=by
   have cases6:=gK hd;rcases cases6 with rfl|rfl|rfl|rfl|rfl|rfl
   .exact ad (rL p hz g4 (·) ho pt hl Vo (.HX rfl)) (·)
   .exact ad (rL p hz g4 (·) ho pt hl Vo (.G4 rfl)) (·)
   .exact ad (zJ p hz g4 (·) ho pt hl Vo) (·)
   .exact ad (zI p hz g4 (·) ho pt hl Vo) (·)
   .exact ad (zH p hz g4 (·) ho pt hl Vo) (·)
   .exact ad (zG p hz g4 (·) ho pt hl Vo) (·)
  refine Rz.DH [c] (r1 _) () (Rz.DH [c1] r2 () (Rz.DH [c2] r3 () (Rz.DH [c3] r4 () ?_)));exact Rz.eq () pre
 obtain⟨v,c',ext,q,g,go⟩:=Qt;exact⟨v,c',ext,q,g,ac go⟩
end
section
variable {c0:C} {lt:AT Tk} {p:BF} {fo:C} {q:BF} {S S':SS} {g:St} {t v u:T} {n:BF}
theorem bY {A:An} {c:BF} {w a:T} (h:A= .Oj c (.t w) (.t a) ((`c S g).Gk (g.A8+6))):Go n A (.Oj c (.t w) (.t a) (`c S g)):=by
 rw[h,qg];exact Go.Oj rfl
def EQ:T:= .Dq s!"a register too many"
theorem tM {x y:V} (hl:S.pl=[x,y]) (m:CV):Ct 1 1350 [.FN 4,.t v,.t (.G6 m)] (`c S g) (.Oj 87 (.t EQ) (.t (As q)) (`c S g)):=by
 refine ac (n:=0) ?_;obtain⟨pl,ix,sc,w,sy,mi⟩:=S;have h:pl=_:=hl;subst h;cases m<;>exact bY ()
theorem tN:Ct 1 1350 [.FN 4,.t v,.t (.G6 Bj)] (`c S g) (.Oj 87 (.t EQ) (.t (As q)) (`c S g)):=
 ac (n:=0) (bY ())
theorem nR {s:Dr} {x y:V} (h:BD s v) (hi:Qa v) (hl:S.pl=[x,y]):HI q (Bw s) Be S 87 EQ (As q):=λc0 lt p fo g=>by
 refine Ct.Ey (m:=15) (ac (n:=14) ?_) (by decide);obtain⟨fs,Cs⟩:=bC hi;f_two (`c S g),`ao;f_two (`c S g),`ao;refine aL (`c S g) (tM (v:= .LJ 1194 fs) hl Be) () ?_;exact bY ()
theorem jH {s:Dr} (h:BD s v) (hi:Qa v):HI q (Bw s) Bj S 87 EQ (As q):=λc0 lt p fo g=>by
 refine Ct.Ey (m:=15) (ac (n:=14) ?_) (by decide);obtain⟨fs,Cs⟩:=bC hi;f_two (`c S g),`ao;f_two (`c S g),`ao;refine aL (`c S g) (tN (v:= .LJ 1194 fs)) () ?_;exact bY ()
def Jv:T:= .Dq s!"bad scale"
def OU:T:= .Dq s!"an index that can't stand there"
theorem gY {s:Dr} (h:BD s v) (hi:Qa v) (hx:S.ix= .Kr) {k:Dt} (hk:k=3\/k=0\/k=5\/k=16\/k=12):
  Ct 15 1357 [.FN 4,.t (EW AE (Bw s) (C4 k)),.t (.G6 Be)] (`c S g) (.Oj 87 (.t Jv) (.t (As q)) (`c S g)):=by
 refine ac (n:=14) ?_;obtain⟨fs,Cs⟩:=bC hi;obtain⟨pl,ix,sc,w,sy,mi⟩:=S;have hx:ix= .Kr:=hx;subst hx;have wo:=bZ (c0:=c0) (lt:=lt) (p:=p) (fo:=fo) (q:=q) (S:=⟨pl,.Kr,sc,w,sy,mi⟩) (g:=g) (cf Be k);have isn:∀cs,Ct 4 1009 [.t (P3 k Ae Ae)] cs (.EM (.t (.G6 Bj)) cs):=λcs=>aa λd=>by lk
 f_two (`c ⟨pl,.Kr,sc,w,sy,mi⟩ g),`ao;f_two (`c ⟨pl,.Kr,sc,w,sy,mi⟩ g),wo;f_two (`c ⟨pl,.Kr,sc,w,sy,mi⟩ g),(isn _);rcases hk with rfl|rfl|rfl|rfl|rfl<;>exact bY ()
theorem gX {s:Dr} (h:BD s v) (hi:Qa v) (hx:GI S.ix) (k:Dt):
  Ct 15 1357 [.FN 4,.t (EW AE (Bw s) (C4 k)),.t (.G6 Be)] (`c S g) (.Oj 87 (.t OU) (.t (As q)) (`c S g)):=by
 refine ac (n:=14) ?_;obtain⟨fs,Cs⟩:=bC hi;obtain⟨pl,ix,sc,w,sy,mi⟩:=S;obtain⟨x1,x2,hx⟩:=hx;have hx:ix=_:=hx;subst hx;f_two (`c ⟨pl,.LJ x1 x2,sc,w,sy,mi⟩ g),`ao;exact bY ()
theorem hM {s:Dr} (h:BD s v) (k:Dt) {m:T} (Aaf:∀c0 lt p fo g,Ct 15 1357 [.FN 4,.t (EW AE (Bw s) (C4 k)),.t (.G6 Be)] (`c S g) (.Oj 87 (.t m) (.t (As q)) (`c S g))):
  HI q (Bs (BC Be s k)) Be S 87 m (As q):=λc0 lt p fo g=>by
 refine ac (n:=15) ?_;have hr:∀cs,Ct 8 1296 [.t (Bs (BC Be s k))] cs (.EM (.t .Kr) cs):=λcs=>aa λd=>by lk
 f_two (`c S g),(hr _);f_two (`c S g),(h.n1 k _);refine aL (`c S g) (Aaf c0 lt p fo g) () ?_;exact bY ()
def Eg:T:= .Dq s!"not a number plus one symbol less another"
theorem tO (w x:Dt) (cs:St):Ct 6 1030 [.t (P3 w Ai Ae),.t (P3 x `dt Ae)] cs (.Oj 111 (.t Eg) (.t .Kr) cs):=aa λd=>by lk
theorem kX (hs:S.sy=Ai) (hm:S.mi=Ae):HI q (Bw `dt) Be S 111 Eg .Kr:=λc0 lt p fo g=>by
 refine Ct.Ey (m:=15) (ac (n:=14) ?_) (by decide);have wo:=bZ (c0:=c0) (lt:=lt) (p:=p) (fo:=fo) (q:=q) (S:=S) (g:=g) jc;have ax:=λcs=>tO S.w 0 cs;rw[<-hs] at ax;have ax2:∀cs,Ct 6 1030 [.t (P3 S.w S.sy S.mi),.t (P3 0 `dt Ae)] cs (.Oj 111 (.t Eg) (.t .Kr) cs):=by rw[hm];exact ax
 f_two (`c S g),(jc.ro _);f_two (`c S g),wo;refine aL (`c S g) (ax2 _) () ?_;exact bY ()
theorem uM (w:Dt) (cs:St):Ct 6 1023 [.t (P3 w `dt Ae)] cs (.EM (.t (P3 (-w) Ae `dt)) cs):=aa λd=>by lk
theorem tQ (w x:Dt) (cs:St):Ct 6 1030 [.t (P3 w Ai Ae),.t (P3 x Ae `dt)] cs (.EM (.t (P3 (w+x) Ai `dt)) cs):=aa λd=>by lk
theorem nQ (hs:S.sy=Ai) (hm:S.mi=Ae):Dy (Bw `dt) Bj S (S.PF (S.w+ -0) Ai `dt):=dn λc0 lt p fo q g=>
 fI (.G4 (.G4 (.HX ⟨_,Cs⟩))) jc (uM 0) ⟨0,`dt,Ae,Cs⟩ λcs=>by rw[hs,hm];exact tQ _ _ cs
end
section
variable {c0:C} {lt:AT Tk} {p:BF} {fo:C} {q:BF} {S S':SS} {t v u b ix:T} {n c:BF} {sc w:Dt} {r:AT Tk} {m e:T} {B:An}
def Py (b ix:T) (sc w:Dt) (n':Dr) (q:BF):Prop:=∃m,∀cs,Ct 8 740 [.t (Ar b ix sc w 32 Ae n'),.t (As q)] cs (.Oj (99+Em) (.t m) (.t (As q)) cs)
theorem tp {v:T} (hv:v=AH `dr Bm 0 32\/v=AH s!"bx" Bm 3 16\/v=AH s!"al" Bm 0 8\/v=AH `dG `ci 3 128\/v=AH s!"ah" `ch 4 8) (q:BF):Py v .Kr 1 w Ae q:=
 ⟨.Dq s!"a base has 64 bits",λcs=>by rcases hv with rfl|rfl|rfl|rfl|rfl<;>exact aa λd=>by lk⟩
theorem yI {s:Dr} {k:Dt} (q:BF):Py Cd (AH s Bm k 64) 1 w Ae q:=⟨.Dq s!"rip has no index",λcs=>aa λd=>by lk⟩
theorem yH (q:BF):Py (AJ .q 4) Cd 1 w Ae q:=⟨.Dq s!"an index has 64 bits and is not rsp",λcs=>aa λd=>by lk⟩
theorem yK {s:Dr} {k:Dt} (hw:¬HH w) (q:BF):Py (AH s Bm k 64) .Kr 1 w Ae q:=by
 refine⟨.Dq s!"a displacement beyond 32 bits",λcs=>Ct.Ey (m:=7) (ac (n:=6) ?_) (by decide)⟩;have cx:∀cs,Ct 6 663 [.t (Ar (AH s Bm k 64) .Kr 1 w 32 Ae Ae)] cs (.Oj 99 (.t (.Dq s!"a displacement beyond 32 bits")) (.t .Kr) cs):=λcs=>by
  refine ac (n:=5) ?_;f_two [],(kM (sc:=1) (w:=w) (sz:=32) (sg:=Ae) (n':=Ae) (b:=AH s Bm k 64) (ix:= .Kr) (.G4 (.G4 ⟨s,k,Cs⟩)) _);f_two [],(iz (sc:=1) (w:=w) (sz:=32) (sg:=Ae) (n':=Ae) (b:=AH s Bm k 64) (ix:= .Kr) (.HX ⟨Cs,Cs⟩) _);f_two [],(vO hw _);exact Go.Oj ()
 refine aL [] (cx _) () ?_;exact Go.Oj ()
def Nm (q:BF) (S:SS) (c:BF):Prop:=∃m e,∀c0 lt p fo,Ct 9 1364 [.FN 4,.t (.D4 32),.t (.Dq Ae)] (`c S []) (.Oj c (.t m) (.t e) (`c S []))
theorem mS {b:T} (hb:GI b) (hp:S.pl=[.t b]) (hx:S.ix= .Kr) (hs:S.sc=1) (hsy:S.sy=Ae) (hmi:S.mi=Ae) (h:Py b .Kr 1 S.w Ae q):Nm q S (99+Em):=by
 obtain⟨m,h⟩:=h;refine⟨m,As q,λc0 lt p fo=>ac (n:=8) ?_⟩;obtain⟨pl,ix,sc,w,sy,mi⟩:=S;dsimp only at hp hx hs hsy hmi h;subst hp hx hs hsy hmi;obtain⟨b1,b2,Cs⟩:=hb;f_two (`c ⟨[.t (.LJ b1 b2)],.Kr,1,w,Ae,Ae⟩ []),(b6 (w:=w) (n':=Ae) (.HX rfl) q _);refine Go.PE _ (fq (c0:=c0) (lt:=lt) (p:=p) (fo:=fo) (q:=q) (S:=⟨[.t (.LJ b1 b2)],.Kr,1,w,Ae,Ae⟩) (b:= .LJ b1 b2) (ix:= .Kr) (sc:=1) (w:=w) (sz:=32) (sg:=Ae) (n':=Ae)) () ?_;refine aL (`c ⟨[.t (.LJ b1 b2)],.Kr,1,w,Ae,Ae⟩ []) (h _) () ?_;exact Go.Oj ()
theorem uY (nb:BF) (hn:nb<16) (hp:S.pl=[.t Cd,.t (AJ .q nb)]) (hx:S.ix= .Kr) (hs:S.sc=1) (hsy:S.sy=Ae) (hmi:S.mi=Ae):Nm q S (99+Em):=by
 obtain⟨pl,ix,sc,w,sy,mi⟩:=S;dsimp only at hp hx hs hsy hmi;subst hp hx hs hsy hmi
 by_cases h4:nb=4
 .subst h4
  obtain⟨m,h⟩:=yH (w:=w) q;refine⟨m,As q,λc0 lt p fo=>ac (n:=8) ?_⟩;f_two (`c ⟨[.t Cd,.t (AJ .q 4)],.Kr,1,w,Ae,Ae⟩ []),(b6 (w:=w) (n':=Ae) (.HX rfl) q _);refine Go.PE _ (fq (c0:=c0) (lt:=lt) (p:=p) (fo:=fo) (q:=q) (S:=⟨[.t Cd,.t (AJ .q 4)],.Kr,1,w,Ae,Ae⟩) (b:=AJ .q 4) (ix:=Cd) (sc:=1) (w:=w) (sz:=32) (sg:=Ae) (n':=Ae)) () ?_;refine aL (`c ⟨[.t Cd,.t (AJ .q 4)],.Kr,1,w,Ae,Ae⟩ []) (h _) () ?_;exact Go.Oj ()
 .obtain⟨m,h⟩:=yI (s:=Av .q nb) (k:=nb) (w:=w) q
  refine⟨m,As q,λc0 lt p fo=>ac (n:=8) ?_⟩;have pp:=b6 (w:=w) (n':=Ae) (.HX rfl) q (`c ⟨[.t Cd,.t (AJ .q nb)],.Kr,1,w,Ae,Ae⟩ []);have mk:=fq (c0:=c0) (lt:=lt) (p:=p) (fo:=fo) (q:=q) (S:=⟨[.t Cd,.t (AJ .q nb)],.Kr,1,w,Ae,Ae⟩) (b:=Cd) (ix:=AJ .q nb) (sc:=1) (w:=w) (sz:=32) (sg:=Ae) (n':=Ae);have h:Ct 8 740 [.t (Ar Cd (AJ .q nb) 1 w 32 Ae Ae),.t (As q)] (`c ⟨[.t Cd,.t (AJ .q nb)],.Kr,1,w,Ae,Ae⟩ []) (.Oj (99+Em) (.t m) (.t (As q)) (`c ⟨[.t Cd,.t (AJ .q nb)],.Kr,1,w,Ae,Ae⟩ [])):=h _;revert h4 pp mk h;refine wZ (P:=λnb=>nb≠4->Ct 3 726 [.t (P3 w Ae Ae),.t (As q)] (`c ⟨[.t Cd,.t (AJ .q nb)],.Kr,1,w,Ae,Ae⟩ []) (.EM (.t (.Ld [.D4 w,.Dq Ae])) (`c ⟨[.t Cd,.t (AJ .q nb)],.Kr,1,w,Ae,Ae⟩ []))->Cq 4 580 6 [.t Cd,.t (AJ .q nb),.t (.D4 1),.t (.D4 w),.t (.D4 32),.t (.Dq Ae),.t (.Dq Ae)] (`c ⟨[.t Cd,.t (AJ .q nb)],.Kr,1,w,Ae,Ae⟩ []) (.EM (.t (Ar Cd (AJ .q nb) 1 w 32 Ae Ae)) (`c ⟨[.t Cd,.t (AJ .q nb)],.Kr,1,w,Ae,Ae⟩ []))->Ct 8 740 [.t (Ar Cd (AJ .q nb) 1 w 32 Ae Ae),.t (As q)] (`c ⟨[.t Cd,.t (AJ .q nb)],.Kr,1,w,Ae,Ae⟩ []) (.Oj (99+Em) (.t m) (.t (As q)) (`c ⟨[.t Cd,.t (AJ .q nb)],.Kr,1,w,Ae,Ae⟩ []))->Go 8 (R 1364 [.FN 4,.t (.D4 32),.t (.Dq Ae)] (`c ⟨[.t Cd,.t (AJ .q nb)],.Kr,1,w,Ae,Ae⟩ [])) (.Oj (99+Em) (.t m) (.t (As q)) (`c ⟨[.t Cd,.t (AJ .q nb)],.Kr,1,w,Ae,Ae⟩ []))) ?_ nb hn
  refine⟨?_,?_,?_,?_,λh=>Ks rfl h,?_,?_,?_,?_,?_,?_,?_,?_,?_,?_,?_⟩
  all_goals
   intro _ pp mk h;f_two _,pp;refine Go.PE _ mk () ?_;refine aL _ h () ?_;exact Go.Oj ()
theorem uD (w:Dt) (q:BF) (cs:St):Ct 3 726 [.t (P3 w Ai `dt),.t (As q)] cs (.Oj 99 (.t (.Dq s!"more than one symbol")) (.t (As q)) cs):=aa λd=>by lk
theorem rk {b:T} (hb:GI b) (hp:S.pl=[.t b]) (hx:S.ix= .Kr) (hsy:S.sy=Ai) (hmi:S.mi=`dt):Nm q S 99:=by
 refine⟨.Dq s!"more than one symbol",As q,λc0 lt p fo=>ac (n:=8) ?_⟩;obtain⟨pl,ix,sc,w,sy,mi⟩:=S;dsimp only at hp hx hsy hmi;subst hp hx hsy hmi;obtain⟨b1,b2,Cs⟩:=hb;refine aL (`c ⟨[.t (.LJ b1 b2)],.Kr,sc,w,Ai,`dt⟩ []) (uD w q _) () ?_;exact Go.Oj ()
def CJ (bt:AT Tk) (c:BF):Prop:=∀c0 lt fo q p r,lt.F3 p=bt++ .fn::r->p+bt.A8<=2990->∃w a Kg,Ct 18 1378 [.FN 2,.t Fq,.t (.D4 32),.t (.Dq Ae),.t (As q)] (`o [fo]) (.Oj c (.t w) (.t a) Kg)
theorem qb {bt:AT Tk} (h:lt.F3 p= .sg Ao::bt) (hp:p<=2990) (k:Go 17 (LR c0 lt fo q 32 Ae 397 p C7) B):Go 17 (R 1378 [.FN 2,.t Fq,.t (.D4 32),.t (.Dq Ae),.t (As q)] (`o [fo])) B:=by
 refine Go.PE _ (i5 (c0:=c0) (lt:=lt) (fo:=fo) (q:=q) p) () ?_;f_two _,(aU (c0:=c0) (Df:=[fo,Ec q C7,.Dg []]) h (·) Ao);exact Go.eq () k
theorem cU {i:It} {ch:AT (CV×It)} (hi:Cj i=Bj) (ok:∀x∈ch,Cj x.2=Bj) (hl:ch.A8<=150) (h:∀q,∃w a S',JI q c w a C7 ((Be,Bs i)::By ch) S'):CJ (At [(i,ch)]) c:=λc0 lt fo q p r hd hp=>by
 obtain⟨w,a,S',h⟩:=h q;have e0:lt.F3 p= .sg Ao::(Ab i ch++ .sg Ba:: .fn::r):=by rw[hd];simp[cu,cw]
 have el:(At [(i,ch)]).A8=(Ab i ch).A8+2:=by simp[cu,cw]
 rw[el] at hp;have h1:=(au e0).1;refine⟨w,a,Z4 c0 lt (p+1+(Ab i ch).A8) [fo],ac (n:=17) (qb e0 (·) ?_)⟩;f_two _,(dN (c0:=c0) (Df:=[fo,Ec q C7,.Dg C7.pl]) e0 (·) (s':=Ao) rfl);f_two _,(aW (c0:=c0) (Df:=[fo,Ec q C7,.Dg C7.pl]) i ch hi ok h1 rfl rfl (·) (·));refine aL _ (wE (c0:=c0) (lt:=lt) (p:=p+1+(Ab i ch).A8) (fo:=fo) (q:=q) (m3 i) h hl) () ?_;exact Go.Oj (show _=An.Oj c (.t w) (.t a) (Z4 c0 lt (p+1+(Ab i ch).A8) [fo]) by lk)
theorem eg {i:It} {ch:AT (CV×It)} (hi:Cj i=Bj) (ok:∀x∈ch,Cj x.2=Bj) (hl:ch.A8<=150) (h:JO C7 ((Be,Bs i)::By ch) S') (hm:∀q,Nm q S' c):CJ (At [(i,ch)]) c:=λc0 lt fo q p r hd hp=>by
 obtain⟨w,a,hm⟩:=hm q;have e0:lt.F3 p= .sg Ao::(Ab i ch++ .sg Ba:: .fn::r):=by rw[hd];simp[cu,cw]
 have el:(At [(i,ch)]).A8=(Ab i ch).A8+2:=by simp[cu,cw]
 rw[el] at hp;have h2:=(au (aD (au e0).1)).1;rw[show p+1+(Ab i ch).A8+1=p+(Ab i ch).A8+2 by omega] at h2;refine⟨w,a,Z4 c0 lt (p+(Ab i ch).A8+2) [fo],ac (n:=17) (qb e0 (·) (mV 376 p hi ok hl h e0 (·) ?_))⟩;f_two _,(dO (c0:=c0) (Df:=[fo,Ec q S',.Dg S'.pl]) h2 (·) (s':=Ao) rfl);refine aL _ (hm c0 lt (p+(Ab i ch).A8+2) fo) () ?_;exact Go.Oj (show _=An.Oj c (.t w) (.t a) (Z4 c0 lt (p+(Ab i ch).A8+2) [fo]) by lk)
theorem xP {Df:St} {t:Tk} (h:lt.F3 p=t::r) (hp:p<=3000) (e:Fc t Ba=Be):Ct 4 1518 [.FN 2,.t (.Dq Ba)] (`d) (.Oj 87 (.t (.Dq `dH)) (.t (As p)) (`d)):=by
 refine ac (n:=3) (Go.DH _ (dO (c0:=c0) (Df:=Df) h (·) e) () ?_);f_two _,(bg (c0:=c0) (Df:=Df) h (·));refine Go.eq (show _=An.Oj 87 (.t (.Dq `dH)) (.t (As p)) ((`d).Gk (Df.A8+3)) by lk) ?_;rw[my];exact Go.Oj rfl
theorem pB {i:It} {ch:AT (CV×It)} (hi:Cj i=Bj) (ok:∀x∈ch,Cj x.2=Bj) (hl:ch.A8<=150) (h:JO C7 ((Be,Bs i)::By ch) S'):CJ (.sg Ao::Ab i ch) 87:=λc0 lt fo q p r hd hp=>by
 have e0:lt.F3 p= .sg Ao::(Ab i ch++ .fn::r):=hd;rw[AT.DW] at hp;have h1:=(au e0).1;have h2:=aD h1;refine⟨.Dq `dH,As (p+1+(Ab i ch).A8),Z4 c0 lt (p+1+(Ab i ch).A8) [fo],ac (n:=17) (qb e0 (·) ?_)⟩;f_two _,(dN (c0:=c0) (Df:=[fo,Ec q C7,.Dg C7.pl]) e0 (·) (s':=Ao) rfl);f_two _,(aW (c0:=c0) (Df:=[fo,Ec q C7,.Dg C7.pl]) i ch hi ok h1 rfl rfl (·) (·));f_two _,(tP (c0:=c0) (lt:=lt) (p:=p+1+(Ab i ch).A8) (fo:=fo) (q:=q) (m3 i) h hl);refine aL _ (xP (c0:=c0) (Df:=[fo,Ec q S',.Dg S'.pl]) h2 (·) rfl) () ?_;exact Go.Oj (show _=An.Oj 87 (.t (.Dq `dH)) (.t (As (p+1+(Ab i ch).A8))) (Z4 c0 lt (p+1+(Ab i ch).A8) [fo]) by lk)
theorem pA (n:Dt) {s:Dr} (hs:KH s DI=Be) (h:Nr (EW Bk (C4 n) (Bw s)) Bj) {bt:AT Tk}:CJ (.nu n:: .sg Bk:: .na s:: .sg Ao::bt) 87:=λc0 lt fo q p r hd hp=>by
 have ok:∀x∈[(Be,It.p1 (.sy s))],Cj x.2=Bj:=by
  intro x hx;rw[AT.H9.mp hx]
  show(!(KH s _))=Bj
  rw[show KH s DI=Be from hs];rfl
 have e0:lt.F3 p=Ab (.p1 (.nu n)) [(Be,.p1 (.sy s))]++ .sg Ao::(bt++ .fn::r):=by rw[hd];rfl
 have hp4:p+4<=2990:=by simp only[AT.DW] at hp;omega
 refine⟨.Dq `dI,As q,Z4 c0 lt (p+3) [fo],ac (n:=17) ?_⟩;refine Go.PE _ (i5 (c0:=c0) (lt:=lt) (fo:=fo) (q:=q) p) () ?_;f_two _,(aU (c0:=c0) (Df:=[fo,Ec q C7,.Dg []]) hd (·) Ao);refine Go.DH _ (aW (c0:=c0) (Df:=[fo,Ec q C7,.Dg []]) (.p1 (.nu n)) [(Be,.p1 (.sy s))] rfl ok e0 rfl rfl (by simp[Ab,al,ak,aG,aH,ai,aj,ag];omega) (by simp)) () ?_;have wx:Ct 15 1322 [.FN 4,.t (EW Bk (C4 n) (Bw s))] (Z3 c0 lt (p+3) fo q C7 []) (.Oj 87 (.t (.Dq `dI)) (.t (As q)) (Z3 c0 lt (p+3) fo q C7 [])):=by
  refine ac (n:=14) (Go.DH (Z3 c0 lt (p+3) fo q C7 []) (h _) () ?_);exact Go.Oj ()
 have ox:Ct 16 1329 [.FN 4,.t (EW Bk (C4 n) (Bw s))] (Z3 c0 lt (p+3) fo q C7 []) (.Oj 87 (.t (.Dq `dI)) (.t (As q)) (Z3 c0 lt (p+3) fo q C7 [])):=by
  refine ac (n:=15) (aL (Z3 c0 lt (p+3) fo q C7 []) wx () ?_);exact Go.Oj ()
 refine aL _ ox () ?_;exact Go.Oj (show _=An.Oj 87 (.t (.Dq `dI)) (.t (As q)) (Z4 c0 lt (p+3) [fo]) by lk)
end
theorem pS:Ws D5 32:=λcs=>aa λd=>by lk
theorem jP:Sm (.na D5) D5:=λi cs=>aa λd=>by lk
theorem xx:Sm (.na D6) D6:=λi cs=>aa λd=>by lk
def GH:AT Tk:=[.na A3,.na D5,.na D6]
theorem lh {bt:AT Tk} {c:BF} (hb:CJ bt c) (hf:∃u r',bt=u::r'/\Sm u Ae) (hl:bt.A8<=300):MJ (GH++bt) c:=λc0=>by
 obtain⟨u,r',eb,Wv⟩:=hf;have hll:(GH++bt++[.fn]:AT Tk).A8<=2900:=by simp[GH];omega
 have hd1:(GH++bt++[Tk.fn]).F3 1= .na D5:: .na D6::(bt++[.fn]):=rfl;have hd3:(GH++bt++[Tk.fn]).F3 3=bt++ .fn::[]:=rfl;have hd3':(GH++bt++[Tk.fn]).F3 3=u::(r'++[.fn]):=by rw[hd3,eb];rfl
 obtain⟨w,a,Kg,hb⟩:=hb c0 (GH++bt++[Tk.fn]) (.Dg []) 1 3 [] hd3 (·);have h1:=bL (s:=A3) (by simp) c0 (GH++bt++[Tk.fn]) (.na D5:: .na D6::(bt++[.fn])) rfl hll;have op:Ct 20 1392 [.FN 2,.t Fq,.t (.Dq A3)] (Z4 c0 (GH++bt++[Tk.fn]) 1 [.Dg []]) (.Oj c (.t w) (.t a) (Kg.Gk 4)):=by
  refine ac (n:=19) ?_;f_two _,(bg (c0:=c0) (Df:=[.Dg []]) hd1 (·));f_two _,(aw (c0:=c0) (Df:=[.Dg []]) hd1 (·));f_two (Z4 c0 (GH++bt++[Tk.fn]) 1 [.Dg []]),(jP 1 _);f_two _,(jQ (c0:=c0) (Df:=[.Dg []]) hd1 (·) (by simp) jP pS xx);f_two _,(eD (c0:=c0) (fo:= .Dg []) hd3' (·) Wv);refine aL _ hb () ?_;exact Go.Oj ()
 have RF:Ct 21 1399 [.FN 2,.t Fq,.t (.Dq A3)] (Z4 c0 (GH++bt++[Tk.fn]) 1 []) (.Oj c (.t w) (.t a) ((Kg.Gk 4).Gk 3)):=by
  refine ac (n:=20) ?_;f_two _,(dd (c0:=c0) (Df:=[.Dg []]) hd1 (·));refine aL _ op () ?_;exact Go.Oj ()
 refine⟨w,a,(((Kg.Gk 4).Gk 3)).Gk 3,ac (n:=21) ?_⟩;f_two _,h1;refine aL _ RF () ?_;exact Go.Oj ()
theorem eR {s:Dr} {v:T} (h:(s=`dr/\v=AH `dr Bm 0 32)\/(s=s!"bx"/\v=AH s!"bx" Bm 3 16)\/(s=s!"al"/\v=AH s!"al" Bm 0 8)\/(s=`dG/\v=AH `dG `ci 3 128)\/(s=s!"ah"/\v=AH s!"ah" `ch 4 8)):BD s v:=by
 rcases h with⟨Cs,Cs⟩|⟨Cs,Cs⟩|⟨Cs,Cs⟩|⟨Cs,Cs⟩|⟨Cs,Cs⟩<;>exact⟨λcs=>aa λd=>by lk,λcs=>aa λd=>by lk,λn cs=>aa λd=>by lk,λn cs=>aa λd=>by lk⟩
theorem xO (n:Dt) (k:BF) (hk:k<16):Nr (EW Bk (C4 n) (Bw (Av .q k))) Bj:=λcs=>aa λd=>
 aY (f:=λy:BF=>RA 9 1301 [.t (EW Bk (C4 n) (Bw (Av .q y)))] cs d) (g:=λ_=> .EM (.t (.G6 Bj)) cs) (l:=Mf) () k (bH hk)
theorem jZ {s:Dr} {v:T} (h:BD s v) (hi:Qa v):Cj (.p1 (.sy s))=Bj:=by
 show(!(KH s _))=Bj
 rw[show KH s DI=Be from h.ndot hi];rfl
theorem zw {s:Dr} {v:T} (h:BD s v) (hi:Qa v) (k:Dt):Cj (BC Be s k)=Bj:=by
 show(!(KH s _)&&Bj)=Bj
 rw[show KH s DI=Be from h.ndot hi];rfl
theorem du (s:Dr):E0 (Bw s):= .G4 (.G4 (.HX ⟨_,Cs⟩))
theorem bA {s:Dr} {v:T} (h:BD s v) (hi:Qa v) {S:SS} (hl:S.pl=[]\/∃x,S.pl=[x]):Dy (Bw s) Be S (S.reg v):=dn λc0 lt p fo q g=>jF h hi hl
section
variable {s:Dr} {v:T} {nb:BF} {hn:nb<16} {n:Dt}
abbrev bs (nb:BF):Dr:=Av .q nb
theorem iA (hn:nb<16):BD (bs nb) (AJ .q nb):=cg nb hn
theorem js:Qa (AJ .q nb):=⟨_,Cs⟩
theorem sp0 (hn:nb<16):CJ (At [(.p1 (.sy (bs nb)),[(Be,.p1 (.sy `dq)),(Be,.p1 (.sy `do))])]) 87:=
 cU (jZ `av js) (by
  intro x hx
  rcases(by simpa using hx:x=(Be,.p1 (.sy `dq))\/x=(Be,.p1 (.sy `do))) with rfl|rfl<;>rfl) (by simp) λq=>
  ⟨_,_,_,.Dc (du _) (bA `av js (.HX rfl)) (.Dc (du _) (bA (cg 3 (by decide)) ⟨_,Cs⟩ (.G4 ⟨_,Cs⟩)) (.P6 (du _) (nR (cg 1 (by decide)) ⟨_,Cs⟩ rfl)))⟩
theorem sp1 (hn:nb<16) {k:Dt} (hk:k=3\/k=0\/k=5\/k=16\/k=12):CJ (At [(BC Be (bs nb) k,[])]) 87:=
 cU (zw `av js k) (by simp) (by simp) λq=>⟨_,_,_,.P6 (.G4 (.G4 (.G4 ⟨_,_,Cs⟩))) (hM `av k λc0 lt p fo g=>gY `av js rfl hk)⟩
theorem sp2 (hn:nb<16) (n:Dt):CJ (At [(.p1 (.nu n),[(Bj,.p1 (.sy (bs nb)))])]) 87:=
 cU rfl (by
  intro x hx;rw[AT.H9.mp hx];exact jZ `av js) (by simp) λq=>⟨_,_,_,.Dc (.HX ⟨_,Cs⟩) (bR (gU Be n) (cf Be n) C7 rfl rfl) (.P6 (du _) (jH `av js))⟩
theorem sp3 (hn:nb<16):CJ (At [(BC Be (bs nb) 2,[(Be,BC Be `dp 2)])]) 87:=
 cU (zw `av js 2) (by
  intro x hx;rw[AT.H9.mp hx];rfl) (by simp) λq=>⟨_,_,_,.Dc (.G4 (.G4 (.G4 ⟨_,_,Cs⟩))) (λc0 lt p fo q g=>jG Be `av js rfl (.G4 (.HX rfl))) (.P6 (.G4 (.G4 (.G4 ⟨_,_,Cs⟩))) (hM (cg 2 (by decide)) 2 λc0 lt p fo g=>gX (cg 2 (by decide)) ⟨_,Cs⟩ ⟨_,_,Cs⟩ 2))⟩
theorem sp4 {s:Dr} {v:T} (h:(s=`dr/\v=AH `dr Bm 0 32)\/(s=s!"bx"/\v=AH s!"bx" Bm 3 16)\/(s=s!"al"/\v=AH s!"al" Bm 0 8)\/(s=`dG/\v=AH `dG `ci 3 128)\/(s=s!"ah"/\v=AH s!"ah" `ch 4 8)):CJ (At [(.p1 (.sy s),[])]) (99+Em):=by
 have hi:Qa v:=by rcases h with⟨_,Cs⟩|⟨_,Cs⟩|⟨_,Cs⟩|⟨_,Cs⟩|⟨_,Cs⟩<;>exact⟨_,Cs⟩
 have hI:GI v:=by obtain⟨fs,Cs⟩:=bC hi;exact⟨_,_,Cs⟩
 refine eg (jZ (eR h) hi) (by simp) (by simp) (.Dc (du _) (bA (eR h) hi (.HX rfl)) (.HU _)) λq=>mS hI rfl rfl rfl rfl rfl (tp ?_ q);rcases h with⟨_,h⟩|⟨_,h⟩|⟨_,h⟩|⟨_,h⟩|⟨_,h⟩
 .exact .HX h
 .exact .G4 (.HX h)
 .exact .G4 (.G4 (.HX h))
 .exact .G4 (.G4 (.G4 (.HX h)))
 .exact .G4 (.G4 (.G4 (.G4 h)))
theorem sp5 (hn:nb<16):CJ (At [(.p1 (.sy `cj),[(Be,.p1 (.sy (bs nb)))])]) (99+Em):=
 eg rfl (by
  intro x hx;rw[AT.H9.mp hx];exact jZ `av js) (by simp) (.Dc (du _) (bA ip ⟨_,Cs⟩ (.HX rfl)) (.Dc (du _) (bA `av js (.G4 ⟨_,Cs⟩)) (.HU _))) λq=>uY nb hn rfl rfl rfl rfl rfl
theorem sp6 (hn:nb<16) {w:Dt} {i:It} {ch:AT (CV×It)} (h:IN w i ch) (hw:¬HH w):CJ (At [(.p1 (.sy (bs nb)),(Be,i)::ch)]) (99+Em):=by
 refine eg (jZ `av js) (λx hx=> ?_) (by have:=h.bare.hl;simp;omega) (.Dc (du _) (bA `av js (.HX rfl)) (h.stp _ rfl rfl)) λq=>mS (b:=AJ .q nb) ⟨_,_,Cs⟩ rfl rfl rfl rfl rfl ?_
 .rcases AT.GZ.mp hx with rfl|hx
  .exact h.bare.hi
  .exact h.bare.ok x hx
 .show Py (AJ .q nb) .Kr 1 (0+w) Ae q
  rw[Dt.PX];exact yK hw q
theorem gM:Dy (Bw Ai) Be (C7.reg v) ((C7.reg v).PF (0+0) Ai Ae):=dn λc0 lt p fo q g=>bE (.G4 (.G4 (.HX ⟨_,Cs⟩))) ki λcs=>jw 0 0 cs
theorem aaw (hn:nb<16):CJ (At [(.p1 (.sy (bs nb)),[(Be,.p1 (.sy Ai)),(Be,.p1 (.sy `dt))])]) 111:=
 cU (jZ `av js) (by
  intro x hx
  rcases(by simpa using hx:x=(Be,.p1 (.sy Ai))\/x=(Be,.p1 (.sy `dt))) with rfl|rfl<;>rfl) (by simp) λq=>
  ⟨_,_,_,.Dc (du _) (bA `av js (.HX rfl)) (.Dc (du _) gM (.P6 (du _) (kX rfl rfl)))⟩
theorem aav (hn:nb<16):CJ (At [(.p1 (.sy (bs nb)),[(Be,.p1 (.sy Ai)),(Bj,.p1 (.sy `dt))])]) 99:=
 eg (jZ `av js) (by
  intro x hx
  rcases(by simpa using hx:x=(Be,.p1 (.sy Ai))\/x=(Bj,.p1 (.sy `dt))) with rfl|rfl<;>rfl) (by simp)
  (.Dc (du _) (bA `av js (.HX rfl)) (.Dc (du _) gM (.Dc (du _) (nQ rfl rfl) (.HU _)))) λq=>rk (b:=AJ .q nb) ⟨_,_,Cs⟩ rfl rfl rfl rfl
theorem sp8 (hn:nb<16) (n:Dt):CJ (.sg Ao::Ab (.p1 (.sy (bs nb))) [(Be,.p1 (.nu n))]) 87:=
 pB (jZ `av js) (by
  intro x hx;rw[AT.H9.mp hx];rfl) (by simp) (.Dc (du _) (bA `av js (.HX rfl)) (.Dc (.HX ⟨_,Cs⟩) (bR (gU Be n) (cf Be n) _ rfl rfl) (.HU _)))
theorem sp9 (hn:nb<16) (n:Dt) (bt:AT Tk):CJ (.nu n:: .sg Bk:: .na (bs nb):: .sg Ao::bt) 87:=pA n ((iA hn).ndot js) (xO n nb hn)
end
def Yd (c:BF) (due:Dr):Prop:=(c=87/\due=`aQ)\/((c=99\/c=99+Em)/\due=`aR)\/(c=111/\due=`aS)
def Hn (v:V) (ext:St):Prop:=ext=[]/\∃Dp due c,v= .t (.Ld [.Dq due,.Dg (Dp.FW Aw)])/\Gz Dp/\MJ Dp c/\Yd c due
def BV (d:BF) (N:Dt) (nb:BF) (Do:Ag):Ag:=(`dD,.FN 0)::(s!"way",.t (.D4 d))::(`cZ,.t (.D4 N))::(`dc,.t (Aw (.na (bs nb))))::(`dj,.t (Aw (.sg Bk)))::(s!"star",.t (Aw (.sg AE)))::(s!"head",.FN 1)::Do
def CG:C:= .Dg (Aa GH)
def Fy (l:AT Tk):C:= .fz (.Dg (l.FW Aw))
def Nb (l:AT (CV×It)):C:= .fz (.Dg (l.FW Fl))
def OP (x:Dt) (e:Ez):Ez:=(Dw e.E5 21 λh=>Ez.Qs.Dk e h λl _ p=>A9 (.Qs l (.KP (.D4 x) 0 p) p)).RT e
def MR (i:BF) (f:Ez->Ez) (e:Ez):Ez:=(Dw e.E5 25 λh=>Ez.Oi.Dk e h λes k p=>A9 (.Oi (es.modify i f) k p)).RT e
def SK (i:BF) (f:Ez->Ez) (e:Ez):Ez:=(Dw e.E5 24 λh=>Ez.AT.Dk e h λes p=>A9 (.AT (es.modify i f) p)).RT e
def XZ (f:Ez->Ez) (e:Ez):Ez:=(Dw e.E5 2 λh=>Ez.BinOp.Dk e h λa o b p=>A9 (.BinOp a o (f b) p)).RT e
def XY (f:Ez->Ez) (e:Ez):Ez:=(Dw e.E5 16 λh=>Ez.QI.Dk e h λg as ks p=>A9 (.QI g (as.modify 0 f) ks p)).RT e
def SD (f:Ez->Ez) (s:IQ):IQ:=(Dw s.E5 3 λh=>IQ.QJ.Dk s h λo p=>A9 (.QJ (o.FW f) p)).RT s
def X0 (f:Ez->Ez) (s:IQ):IQ:=(Dw s.E5 5 λh=>IQ.QS.Dk s h λts e p=>A9 (.QS ts (f e) p)).RT s
def XI (x:Dt) (l:AT IQ):AT IQ:=l.modify 0 (SD (MR 1 (XZ (XY (SK 0 (MR 1 (SK 2 (MR 1 (OP x)))))))))
def OQ (x:Dt) (l:AT IQ):AT IQ:=l.modify 0 (X0 (OP x))
def XH (x:Dt) (l:AT IQ):AT IQ:=l.modify 1 (SD (MR 0 (OP x)))
def U6 (Xs:AT IQ->AT IQ) (i m:BF) (CL:Ag) (cs:St):An:=(`p m).ex ⟨Cv 1670,1,Bj⟩ (Xs (Fd 1670 i).2.1) CL cs (λCL cs=>EX 1670 1 (i+1) m CL cs) (FP 1) (AW 1)
section
variable {c:C} {nb n1 k:BF}
theorem abh (x:CV×It) (r:AT (CV×It)) (h:Hk x):∃u r',Fi (x::r)=u::r'/\Sm u Ae:=⟨_,_,Cs,dM _⟩
theorem spq {bt:AT Tk} {cc:BF} {due:Dr} (hb:CJ bt cc) (hf:∃u r',bt=u::r'/\Sm u Ae) (pt:PT bt) (hl:bt.A8<=300) (he:Yd cc due):Hn (.t (.Ld [.Dq due,.Dg ((GH++bt).FW Aw)])) []:=
 ⟨Cs,GH++bt,due,cc,Cs,⟨PT.Wy (.Dc (aI _) (.Dc (aI _) (.Dc (aI _) .HU))) pt,by simp[GH];omega⟩,lh hb hf hl,he⟩
theorem wM {x:CV×It} {r:AT (CV×It)} {cc:BF} {due:Dr} (hx:Hk x) (hb:CJ (At [(CC x,r)]) cc) (pt:PT (Fi (x::r))) (hl:(Fi (x::r)).A8<=300) (he:Yd cc due):Hn (.t (.Ld [.Dq due,.Dg ((GH++Fi (x::r)).FW Aw)])) []:=by
 have e:=tx x r hx;exact spq (by rw[e];exact hb) (abh x r hx) pt hl he
theorem yU (h:n1<1048576):Fk (n1:Dt):=by unfold Fk;omega
theorem w0 (hg:AR k c) (hn:nb<16) (hN:n1<1048576):Rz 9 (EX 1670 1 6 394 (BV 0 n1 nb []) [c,CG]) k Hn:=by
 have pt:PT (Fi [(Be,.p1 (.sy `z)),(Be,.p1 (.sy `dq)),(Be,.p1 (.sy `do))]):= .Dc (aE _) (.Dc (aI _) (.Dc (aE _) (.Dc (aI _) (.Dc (aE _) (.Dc (aI _) (.Dc (aE _) .HU))))));refine Rz.DH [c,CG,Fy [.na `z],Fy [.na `dq],Fy [.na `do],Nb [(Be,.p1 (.sy `z)),(Be,.p1 (.sy `dq)),(Be,.p1 (.sy `do))]] (aQ [(Be,.p1 (.sy `z)),(Be,.p1 (.sy `dq)),(Be,.p1 (.sy `do))] (by simp) (by simp[Eh,al,ak,ai,aj,ag]) _) () ?_;exact Rz.EM () (wM (x:=(Be,.p1 (.sy `z))) (r:=[(Be,.p1 (.sy `dq)),(Be,.p1 (.sy `do))]) (.HX rfl) (sp0 hn) pt (by simp[Fi,JF,be,bf,bc,aV,Ir,al,ak,ai,aj,ag]) (.HX ⟨Cs,Cs⟩)) hg
theorem w2 (hg:AR k c) (hn:nb<16) (hN:n1<1048576):Rz 9 (EX 1670 1 6 394 (BV 2 n1 nb []) [c,CG]) k Hn:=by
 have pt:PT (Fi [(Be,.p1 (.nu n1)),(Bj,.p1 (.sy `z))]):= .Dc (aE _) (.Dc (cM (yU hN)) (.Dc (aE _) (.Dc (aI _) (.Dc (aE _) .HU))));refine Rz.DH [c,CG,Fy [.nu n1],Fy [.na `z],Nb [(Be,.p1 (.nu n1)),(Bj,.p1 (.sy `z))]] (aQ [(Be,.p1 (.nu n1)),(Bj,.p1 (.sy `z))] (by simp) (by simp[Eh,al,ak,ai,aj,ag]) _) () ?_;exact Rz.EM () (wM (x:=(Be,.p1 (.nu n1))) (r:=[(Bj,.p1 (.sy `z))]) (.HX rfl) (sp2 hn n1) pt (by simp[Fi,JF,be,bf,bc,aV,Ir,al,ak,ai,aj,ag]) (.HX ⟨Cs,Cs⟩)) hg
theorem yV {n:Dt} (h:0<=n/\n<=100):Fk n:=by unfold Fk;omega
theorem w3 (hg:AR k c) (hn:nb<16) (hN:n1<1048576):Rz 9 (EX 1670 1 6 394 (BV 3 n1 nb []) [c,CG]) k Hn:=by
 have pt:PT (Fi [(Be,BC Be `z 2),(Be,BC Be `dp 2)]):= .Dc (aE _) (.Dc (aI _) (.Dc (aE _) (.Dc (cM (yV (·))) (.Dc (aE _) (.Dc (aI _) (.Dc (aE _) (.Dc (cM (yV (·))) (.Dc (aE _) .HU))))))));refine Rz.DH [c,CG,Fy [.na `z,.sg AE,.nu 2],Fy [.na `dp,.sg AE,.nu 2],Nb [(Be,BC Be `z 2),(Be,BC Be `dp 2)]] (aQ [(Be,BC Be `z 2),(Be,BC Be `dp 2)] (by simp) (by simp[Eh,BC,al,ak,ai,aj,ag]) _) () ?_;exact Rz.EM () (wM (x:=(Be,BC Be `z 2)) (r:=[(Be,BC Be `dp 2)]) (.HX rfl) (sp3 hn) pt (by simp[Fi,JF,be,bf,bc,aV,Ir,BC,al,ak,ai,aj,ag]) (.HX ⟨Cs,Cs⟩)) hg
theorem w5 (hg:AR k c) (hn:nb<16) (hN:n1<1048576):Rz 9 (EX 1670 1 6 394 (BV 5 n1 nb []) [c,CG]) k Hn:=by
 have pt:PT (Fi [(Be,.p1 (.sy `cj)),(Be,.p1 (.sy `z))]):= .Dc (aE _) (.Dc (aI _) (.Dc (aE _) (.Dc (aI _) (.Dc (aE _) .HU))));refine Rz.DH [c,CG,Fy [.na `cj],Fy [.na `z],Nb [(Be,.p1 (.sy `cj)),(Be,.p1 (.sy `z))]] (aQ [(Be,.p1 (.sy `cj)),(Be,.p1 (.sy `z))] (by simp) (by simp[Eh,al,ak,ai,aj,ag]) _) () ?_;exact Rz.EM () (wM (x:=(Be,.p1 (.sy `cj))) (r:=[(Be,.p1 (.sy `z))]) (.HX rfl) (sp5 hn) pt (by simp[Fi,JF,be,bf,bc,aV,Ir,al,ak,ai,aj,ag]) (.G4 (.HX ⟨.G4 rfl,Cs⟩))) hg
theorem w8 (hg:AR k c) (hn:nb<16) (hN:n1<1048576):Rz 9 (EX 1670 1 6 394 (BV 8 n1 nb []) [c,CG]) k Hn:=by
 have pt:PT (.sg Ao::Ab (.p1 (.sy `z)) [(Be,.p1 (.nu n1))]):= .Dc (aE _) (.Dc (aI _) (.Dc (aE _) (.Dc (cM (yU hN)) .HU)));refine Rz.DH [c,CG,Fy [.na `z],Fy [.nu n1],Nb [(Be,.p1 (.sy `z)),(Be,.p1 (.nu n1))]] (aQ [(Be,.p1 (.sy `z)),(Be,.p1 (.nu n1))] (by simp) (by simp[Eh,al,ak,ai,aj,ag]) _) () ?_;exact Rz.EM () (spq (sp8 hn n1) ⟨_,_,Cs,dM _⟩ pt (by simp[Ab,aG,aH,al,ak,ai,aj,ag]) (.HX ⟨Cs,Cs⟩)) hg
theorem w9 (hg:AR k c) (hn:nb<16) (hN:n1<1048576):Rz 9 (EX 1670 1 6 394 (BV 9 n1 nb []) [c,CG]) k Hn:=by
 have pt:PT (.nu n1:: .sg Bk:: .na `z::Fi [(Be,.p1 (.sy `z))]):= .Dc (cM (yU hN)) (.Dc (aE _) (.Dc (aI _) (.Dc (aE _) (.Dc (aI _) (.Dc (aE _) .HU)))));refine Rz.DH [c,CG,.Dg (Aa [.nu n1,.sg Bk,.na `z]),.Dg (Aa (GH++[.nu n1,.sg Bk,.na `z])),Fy [.na `z],Nb [(Be,.p1 (.sy `z))]] (aQ [(Be,.p1 (.sy `z))] (by simp) (by simp[Eh,al,ak,ai,aj,ag]) _) () ?_;exact Rz.EM () (spq (sp9 hn n1 _) ⟨_,_,Cs,fK _⟩ pt (by simp[Fi,JF,be,bf,bc,aV,Ir,al,ak,ai,aj,ag]) (.HX ⟨Cs,Cs⟩)) hg
end
def XM (f i:BF):Oz:=match Cu f i with
 | .If _ _ _ p::_=>p
 |_=>default
def Dx (f i:BF):Prop:=Cu f i= .If (Fd f i).1 (Fd f i).2.1 (Fd f i).2.2 (XM f i)::Cu f (i+1)
section
variable {f b i m:BF} {CL:Ag} {cs:St}
theorem jj (h:Dx f i) (ht:∀K ke,(`p m).tr ⟨Cv f,b,Bj⟩ (Fd f i).1 CL cs K ke=K Bj cs):EX f b i (m+1) CL cs=HN f b i m CL cs:=by
 unfold EX;rw[h]
 show(`p m).tr ⟨Cv f,b,Bj⟩ (Fd f i).1 CL cs _ _=_
 rw[ht];rfl
theorem dH (h:Dx f i) (he:(Fd f i).2.2=[]) (ht:∀K ke,(`p m).tr ⟨Cv f,b,Bj⟩ (Fd f i).1 CL cs K ke=K Be cs):EX f b i (m+1) CL cs=EX f b (i+1) m CL cs:=by
 have q:EX f b i (m+1) CL cs=(`p m).ex ⟨Cv f,b,Bj⟩ (Fd f i).2.2 CL cs (λCL cs=>EX f b (i+1) m CL cs) (FP b) (AW b):=by
  unfold EX;rw[h]
  show(`p m).tr ⟨Cv f,b,Bj⟩ (Fd f i).1 CL cs _ _=_
  rw[ht];rfl
 rw[q,he];cases m with
 |Xb=>exact Ks (ht (λ_ _=> .EM (.t .Kr) []) .Oj) (by intro h;cases h)
 |Ww m=>rfl
end
theorem if6:Dx 1670 6:=by unfold Dx;lk
theorem if7:Dx 1670 7:=by unfold Dx;lk
theorem if8:Dx 1670 8:=by unfold Dx;lk
theorem if9:Dx 1670 9:=by unfold Dx;lk
theorem zT:Dx 1670 10:=by unfold Dx;lk
theorem aaN:Dx 1670 11:=by unfold Dx;lk
theorem zS:Dx 1670 12:=by unfold Dx;lk
theorem aaM:Dx 1670 13:=by unfold Dx;lk
section
variable {c:C} {nb n1 k:BF}
theorem to7 {d:BF} (hd:d=1\/d=4\/d=6\/d=7):EX 1670 1 6 394 (BV d n1 nb []) [c,CG]=EX 1670 1 7 393 (BV d n1 nb []) [c,CG]:=dH (m:=393) if6 () λK ke=>by apply pr4 hd<;>lk
theorem to8 {d:BF} (hd:d=4\/d=6\/d=7):EX 1670 1 7 393 (BV d n1 nb []) [c,CG]=EX 1670 1 8 392 (BV d n1 nb []) [c,CG]:=dH (m:=392) if7 () λK ke=>by apply wP hd<;>lk
theorem to9 {d:BF} (hd:d=4\/d=6\/d=7):EX 1670 1 8 392 (BV d n1 nb []) [c,CG]=EX 1670 1 9 391 (BV d n1 nb []) [c,CG]:=dH (m:=391) if8 () λK ke=>by apply wP hd<;>lk
theorem xm {d:BF} (hd:d=4\/d=6\/d=7):EX 1670 1 9 391 (BV d n1 nb []) [c,CG]=EX 1670 1 10 390 (BV d n1 nb []) [c,CG]:=dH (m:=390) if9 () λK ke=>by apply wP hd<;>lk
theorem zl {d:BF} (hd:d=6\/d=7):EX 1670 1 10 390 (BV d n1 nb []) [c,CG]=EX 1670 1 11 389 (BV d n1 nb []) [c,CG]:=dH (m:=389) zT () λK ke=>by apply oi hd<;>lk
theorem zk {d:BF} (hd:d=6\/d=7):EX 1670 1 11 389 (BV d n1 nb []) [c,CG]=EX 1670 1 12 388 (BV d n1 nb []) [c,CG]:=dH (m:=388) aaN () λK ke=>by apply oi hd<;>lk
theorem aau:EX 1670 1 12 388 (BV 7 n1 nb []) [c,CG]=EX 1670 1 13 387 (BV 7 n1 nb []) [c,CG]:=dH (m:=387) zS () λK ke=>by lk
theorem at1:EX 1670 1 6 394 (BV 1 n1 nb []) [c,CG]=HN 1670 1 7 392 (BV 1 n1 nb []) [c,CG]:=(to7 (by simp)).CX (jj (m:=392) if7 λK ke=>by lk)
theorem at4:EX 1670 1 6 394 (BV 4 n1 nb []) [c,CG]=HN 1670 1 10 389 (BV 4 n1 nb []) [c,CG]:=(to7 (by simp)).CX ((to8 (by simp)).CX ((to9 (by simp)).CX ((xm (by simp)).CX (jj (m:=389) zT λK ke=>by lk))))
theorem at6:EX 1670 1 6 394 (BV 6 n1 nb []) [c,CG]=HN 1670 1 12 387 (BV 6 n1 nb []) [c,CG]:=(to7 (by simp)).CX ((to8 (by simp)).CX ((to9 (by simp)).CX ((xm (by simp)).CX ((zl (by simp)).CX ((zk (by simp)).CX (jj (m:=387) zS λK ke=>by lk))))))
theorem at7:EX 1670 1 6 394 (BV 7 n1 nb []) [c,CG]=HN 1670 1 13 386 (BV 7 n1 nb []) [c,CG]:=(to7 (by simp)).CX ((to8 (by simp)).CX ((to9 (by simp)).CX ((xm (by simp)).CX ((zl (by simp)).CX ((zk (by simp)).CX (aau.CX (jj (m:=386) aaM λK ke=>by lk)))))))
end
section
variable {c:C} {nb n1 k:BF}
theorem c7 (n1:BF):((n1:Dt).Qr 5=0\/(n1:Dt).Qr 5=1\/(n1:Dt).Qr 5=2\/(n1:Dt).Qr 5=3\/(n1:Dt).Qr 5=4)/\((n1:Dt).Qr 2=0\/(n1:Dt).Qr 2=1):=by
 rw[Dt.PU _ (by decide),Dt.PU _ (by decide),show(n1:Dt)%5=((n1%5:BF):Dt) from(Dt.natCast_emod n1 5).Hl,show(n1:Dt)%2=((n1%2:BF):Dt) from(Dt.natCast_emod n1 2).Hl]
 exact
 ⟨(by decide:∀d:BF,d<5->(d:Dt)=0\/(d:Dt)=1\/(d:Dt)=2\/(d:Dt)=3\/(d:Dt)=4) (n1%5) (BF.mod_lt _ (by decide)),(by decide:∀d:BF,d<2->(d:Dt)=0\/(d:Dt)=1) (n1%2) (BF.mod_lt _ (by decide))⟩
def Zw:C:= .Dg [.t (.D4 3),.t (.D4 0),.t (.D4 5),.t (.D4 16),.t (.D4 12)]
theorem w1 (hg:AR k c) (hn:nb<16) (hN:n1<1048576):Rz 9 (EX 1670 1 6 394 (BV 1 n1 nb []) [c,CG]) k Hn:=by
 refine Rz.eq (at1.CX (show HN 1670 1 7 392 (BV 1 n1 nb []) [c,CG]=U6 (XI ((n1:Dt).Qr 5)) 7 392 (BV 1 n1 nb []) [c,CG] by lk)) ?_;have pt:∀x:Dt,0<=x/\x<=100->PT (Fi [(Be,BC Be `z x)]):=λx hx=> .Dc (aE _) (.Dc (aI _) (.Dc (aE _) (.Dc (cM (yV hx)) (.Dc (aE _) .HU))));have K7:∀x:Dt,(x=3\/x=0\/x=5\/x=16\/x=12)->Hn (.t (.Ld [.Dq `aQ,.Dg ((GH++Fi [(Be,BC Be `z x)]).FW Aw)])) []:=λx hx=>
  wM (x:=(Be,BC Be `z x)) (r:=[]) (.HX rfl) (sp1 hn hx) (pt x (·)) (by simp[Fi,JF,be,bf,bc,aV,Ir,BC,al,ak,ai,aj,ag]) (.HX ⟨Cs,Cs⟩)
 have br:=λx:Dt=>aQ [(Be,BC Be `z x)] (by simp) (by simp[Eh,BC,al,ak,ai,aj,ag]) [c,CG,Zw,Fy [.na `z,.sg AE,.nu x],Nb [(Be,BC Be `z x)]]
 rcases(c7 n1).1 with e|e|e|e|e<;>rw[e]
 .exact Rz.DH _ (br 3) () (Rz.EM () (K7 3 (by simp)) hg)
 .exact Rz.DH _ (br 0) () (Rz.EM () (K7 0 (by simp)) hg)
 .exact Rz.DH _ (br 5) () (Rz.EM () (K7 5 (by simp)) hg)
 .exact Rz.DH _ (br 16) () (Rz.EM () (K7 16 (by simp)) hg)
 .exact Rz.DH _ (br 12) () (Rz.EM () (K7 12 (by simp)) hg)
def Zt:C:= .Dg [.t (.Dq `dr),.t (.Dq s!"bx"),.t (.Dq s!"al"),.t (.Dq `dG),.t (.Dq s!"ah")]
theorem w4 (hg:AR k c) (hn:nb<16) (hN:n1<1048576):Rz 9 (EX 1670 1 6 394 (BV 4 n1 nb []) [c,CG]) k Hn:=by
 refine Rz.eq (at4.CX (show HN 1670 1 10 389 (BV 4 n1 nb []) [c,CG]=U6 (OQ ((n1:Dt).Qr 5)) 10 389 (BV 4 n1 nb []) [c,CG] by lk)) ?_;have pt:∀s,PT (Fi [(Be,.p1 (.sy s))]):=λs=> .Dc (aE _) (.Dc (aI _) (.Dc (aE _) .HU));have K7:∀s v,((s=`dr/\v=AH `dr Bm 0 32)\/(s=s!"bx"/\v=AH s!"bx" Bm 3 16)\/(s=s!"al"/\v=AH s!"al" Bm 0 8)\/(s=`dG/\v=AH `dG `ci 3 128)\/(s=s!"ah"/\v=AH s!"ah" `ch 4 8))->Hn (.t (.Ld [.Dq `aR,.Dg ((GH++Fi [(Be,.p1 (.sy s))]).FW Aw)])) []:=λs v h=>
  wM (x:=(Be,.p1 (.sy s))) (r:=[]) (.HX rfl) (sp4 h) (pt s) (by simp[Fi,JF,be,bf,bc,aV,Ir,al,ak,ai,aj,ag]) (.G4 (.HX ⟨.G4 rfl,Cs⟩))
 have br:=λs=>aQ [(Be,.p1 (.sy s))] (by simp) (by simp[Eh,al,ak,ai,aj,ag]) [c,CG,Zt,Fy [.na s],Nb [(Be,.p1 (.sy s))]]
 rcases(c7 n1).1 with e|e|e|e|e<;>rw[e]
 .exact Rz.DH _ (br `dr) () (Rz.EM () (K7 `dr _ (.HX ⟨Cs,Cs⟩)) hg)
 .exact Rz.DH _ (br s!"bx") () (Rz.EM () (K7 s!"bx" _ (.G4 (.HX ⟨Cs,Cs⟩))) hg)
 .exact Rz.DH _ (br s!"al") () (Rz.EM () (K7 s!"al" _ (.G4 (.G4 (.HX ⟨Cs,Cs⟩)))) hg)
 .exact Rz.DH _ (br `dG) () (Rz.EM () (K7 `dG _ (.G4 (.G4 (.G4 (.HX ⟨Cs,Cs⟩))))) hg)
 .exact Rz.DH _ (br s!"ah") () (Rz.EM () (K7 s!"ah" _ (.G4 (.G4 (.G4 (.G4 ⟨Cs,Cs⟩))))) hg)
def Zu:C:= .Dg [.t (.Dq Bk),.t (.Dq BI)]
def Zv:C:= .Dg [.t (.Dq `aS),.t (.Dq `aR)]
theorem w7 (hg:AR k c) (hn:nb<16) (hN:n1<1048576):Rz 9 (EX 1670 1 6 394 (BV 7 n1 nb []) [c,CG]) k Hn:=by
 refine Rz.eq (at7.CX (show HN 1670 1 13 386 (BV 7 n1 nb []) [c,CG]=U6 (λs=>OQ ((n1:Dt).Qr 2) (XH ((n1:Dt).Qr 2) s)) 13 386 (BV 7 n1 nb []) [c,CG] by lk)) ?_;have pt:∀m,PT (Fi [(Be,.p1 (.sy `z)),(Be,.p1 (.sy Ai)),(m,.p1 (.sy `dt))]):=λm=>by cases m<;>exact .Dc (aE _) (.Dc (aI _) (.Dc (aE _) (.Dc (aI _) (.Dc (aE _) (.Dc (aI _) (.Dc (aE _) .HU))))))
 have ln:∀m,(Fi [(Be,.p1 (.sy `z)),(Be,.p1 (.sy Ai)),(m,.p1 (.sy `dt))]).A8<=300:=λm=>by cases m<;>simp[Fi,JF,be,bf,bc,aV,Ir,al,ak,ai,aj,ag]
 have br:=λm=>aQ [(Be,.p1 (.sy `z)),(Be,.p1 (.sy Ai)),(m,.p1 (.sy `dt))] (by simp) (by simp[Eh,al,ak,ai,aj,ag]) [c,CG,Zu,Zv,Fy [.na `z],Fy [.na Ai],Fy [.na `dt],Nb [(Be,.p1 (.sy `z)),(Be,.p1 (.sy Ai)),(m,.p1 (.sy `dt))]]
 rcases(c7 n1).2 with e|e<;>rw[e]
 .exact Rz.DH _ (br Be) () (Rz.EM () (wM (x:=(Be,.p1 (.sy `z))) (r:=[(Be,.p1 (.sy Ai)),(Be,.p1 (.sy `dt))]) (.HX rfl) (aaw hn) (pt Be) (ln Be) (.G4 (.G4 ⟨Cs,Cs⟩))) hg)
 .exact Rz.DH _ (br Bj) () (Rz.EM () (wM (x:=(Be,.p1 (.sy `z))) (r:=[(Be,.p1 (.sy Ai)),(Bj,.p1 (.sy `dt))]) (.HX rfl) (aav hn) (pt Bj) (ln Bj) (.G4 (.HX ⟨.HX rfl,Cs⟩))) hg)
def Aad (due:Dr):KV:=λv cs=>AA (AU `at cs [.t (.Dq due),v]) 98 λp=>br (BF.Ls p.1.A8 Af) (FP 1 (.t (.Ld p.1)) p.2) (.D9 42)
theorem zQ {c:C} {S:St} {i:BF} {ts:AT T} (h:J7 S i=A9 (.Dg (ZW ts))) (due:Dr):Aad due (.FN (i+1)) (c::S)= .EM (.t (.Ld [.Dq due,.Dg ts])) [c]:=by
 unfold Aad;rw[fA (cs:=c::S) (i:=i+1) h due];rfl
def OM (n1:BF):C:= .Dg [.t (.D4 (2147483648+n1)),.t (.D4 (-1 - 2147483648 - n1))]
theorem w6b (hg:AR k c) (hk:k<=3900) (hn:nb<16) (hN:n1<1048576) {w:Dt} (hw:¬HH w) (hb:w.J3<=4611686018427387904) {A:An} (hA:A= .DH 1579 [.FN 0,.t (.D4 w)] [c,CG,OM n1,Fy [.na (bs nb)]] (FR A) (Jw A))
  (hA2:∀c' l,FR A (.FN 4) [c',CG,OM n1,Fy [.na `z],.Dg l]=AA (AU `at [c',CG,OM n1,Fy [.na `z],.Dg l] [.t (.Dq Bk),.FN 4]) 98 λp=>br (BF.Ls p.1.A8 Af) (AA (AU `at (p.2++[.Dg [.t (Ce (Be,[.na `z])),.t (.Ld p.1)]]) [.FN p.2.A8]) 53 λp'=> .DH 1621 (ZW p'.1) p'.2 (λv cs=>FJ .Add (.FN 1) v cs (Aad `aR)) (AW 1)) (.D9 42)):Rz 9 A (k+1) Hn:=by
 obtain⟨i,ch,c1,nu,g1,r1⟩:=eF hg (·) w hb;refine Rz.DH _ (r1 [CG,OM n1,Fy [.na `z]] (.G4 (.HX ⟨_,_,_,Cs⟩))) hA ?_;refine Rz.eq (hA2 c1 _) ?_;rw[fA (cs:=[c1,CG,OM n1,Fy [.na `z],.Dg (Aa `y)]) (i:=4) (rt:=(Ab i ch).FW Aw) rfl];have hl:=nu.Oa;have bk:=eV [(Be,[.na `z]),(Be,Ab i ch)] (by simp) (by simp[Gn];omega) [c1,CG,OM n1,Fy [.na `z],Fy `y,.fz (.Dg [Ce (Be,[.na `z]),Ce (Be,Ab i ch)])];refine Rz.DH _ bk rfl ?_;have e:JF [(Be,[.na `z]),(Be,Ab i ch)]=At [(.p1 (.sy `z),(Be,i)::ch)]:=by
  show .sg Ao::([.na `z]++(.sg (DZ Be)::(Ab i ch++[]))++[.sg Ba])= .sg Ao::(Ab (.p1 (.sy `z)) ((Be,i)::ch)++ .sg Ba::[]);simp[Ab,aG,aH,al,ak,ai,aj,ag]
 have pt:PT (At [(.p1 (.sy `z),(Be,i)::ch)]):=by
  rw[<-e];exact .Dc (aE _) (PT.Wy (PT.Dc (aI _) (.Dc (aE _) (PT.Wy nu.tk .HU))) (.Dc (aE _) .HU))
 have ll:(At [(.p1 (.sy `z),(Be,i)::ch)]).A8<=300:=by
  rw[<-e]
  show(.sg Ao::([.na `z]++(.sg (DZ Be)::(Ab i ch++[]))++[.sg Ba]):AT Tk).A8<=300
  simp;omega
 rw[e];show Rz 9 (FJ .Add (.FN 1) (.FN 6) [c1,CG,OM n1,Fy [.na `z],Fy `y,.fz (.Dg [Ce (Be,[.na `z]),Ce (Be,Ab i ch)]),.Dg (Aa (At [(.p1 (.sy `z),(Be,i)::ch)]))] (Aad `aR)) _ _;rw[nC (i:=1) (j:=6) (u:=Aa GH) rfl rfl (by rw[az,az];simp[GH];omega),<-aA];refine Rz.eq (zQ (i:=6) (ts:=(GH++At [(.p1 (.sy `z),(Be,i)::ch)]).FW Aw) rfl _) ?_;exact Rz.EM rfl (spq (sp6 hn nu hw) ⟨_,_,Cs,dM _⟩ pt ll (.G4 (.HX ⟨.G4 rfl,Cs⟩))) g1
theorem w6 (hg:AR k c) (hk:k<=3900) (hn:nb<16) (hN:n1<1048576):Rz 9 (EX 1670 1 6 394 (BV 6 n1 nb []) [c,CG]) (k+1) Hn:=by
 refine Rz.eq (at6.CX (show HN 1670 1 12 387 (BV 6 n1 nb []) [c,CG]=U6 (OQ ((n1:Dt).Qr 2)) 12 387 (BV 6 n1 nb []) [c,CG] by lk)) ?_
 rcases(c7 n1).2 with e|e<;>rw[e]
 .exact w6b (w:=2147483648+n1) hg hk hn hN (λh=>by have:=h.2;omega) (·) () (λc' l=>by lk)
 .exact w6b (w:= -1 - 2147483648 - n1) hg hk hn hN (λh=>by have:=h.1;omega) (·) () (λc' l=>by lk)
theorem lg (hg:AR k c) (hk:k<=3000):∃v c' ext,Hn v ext/\AR (k+3) c'/\Ct 10 1670 [.FN 0] [c] (.EM v (c'::ext)):=by
 have Qt:Rz 9 (R 1670 [.FN 0] [c]) (k+3) Hn:=by
  obtain⟨d,c1,hd,g1,r1⟩:=ay hg (·) (L:=10) (by decide) (by decide);obtain⟨n1,c2,hn1,g2,r2⟩:=ay g1 (·) (L:=1048576) (by decide) (by decide);have hN:n1<1048576:=by omega
  obtain⟨nb,hn,e⟩:∃nb:BF,nb<16/\(n1:Dt).Qr 16=nb:=⟨n1%16,(·),by rw[Dt.PU _ (by decide)];omega⟩;have gp:Ct 4 1219 [.t (.D4 ((n1:Dt).Qr 16)),.t (.D4 64)] [c2] (.EM (.t (AJ .q nb)) [c2]):=by rw[e];exact dF .q nb hn [c2]
  have pre:Rz 9 (EX 1670 1 6 394 (BV d n1 nb []) [c2,CG]) (k+3) Hn:=by
   have cases10:=pz hd;rcases cases10 with rfl|rfl|rfl|rfl|rfl|rfl|rfl|rfl|rfl|rfl
   .exact ad (w0 g2 hn hN) (·)
   .exact ad (w1 g2 hn hN) (·)
   .exact ad (w2 g2 hn hN) (·)
   .exact ad (w3 g2 hn hN) (·)
   .exact ad (w4 g2 hn hN) (·)
   .exact ad (w5 g2 hn hN) (·)
   .exact ad (w6 g2 (·) hn hN) (·)
   .exact ad (w7 g2 hn hN) (·)
   .exact ad (w8 g2 hn hN) (·)
   .exact ad (w9 g2 hn hN) (·)
  refine Rz.DH [c] (r1 _) () (Rz.DH [c1] (r2 _) () (Rz.DH [c2] gp () ?_));exact Rz.eq () pre
 exact Qt.Dk λv h=>h.Dk λc' h=>h.Dk λext h=>Exists.intro v (Exists.intro c' (Exists.intro ext (And.intro h.1 (And.intro h.2.1 (ac h.2.2)))))
end
def Y2 (f i:BF):(Ez×AT Pq)×OE:=((Cu f i).head?.G3 λs=>Dw s.E5 5 λh=>IQ.QS.Dk s h λ_ e _=>MT e).RT ((.KP .BH 0 default,[]),⟨.LK,[],Be,Be,[]⟩)
def UX (f i:BF):Ez:=(Y2 f i).1.1
def UW (f i:BF):OE:=(Y2 f i).2
def Cg (l:AT Dt):AT V:=ZW (l.FW .D4)
theorem je (l:AT Dt):(Cg l).A8=l.A8:=by simp[Cg,ZW]
def CK (l:AT Dt) (j:BF) (KG:AT V) (k:AT T->St->An):An:=Ei (`p 399) ⟨UW 1551 0,0,Be⟩ `dJ [] (UX 1551 0) (.FN 0) j KG [.Dg (Cg l)] k
theorem mM (l:AT Dt) (j:BF) {a:Dt} {r:AT Dt} (h:l.F3 j=a::r):J7 (Cg l) j=A9 (.t (.D4 a)):=by unfold Cg;rw[eG,h];rfl
theorem j1 (l:AT Dt) (j:BF) (h:l.F3 j=[]):J7 (Cg l) j=BH:=by unfold Cg;rw[eG,h];rfl
theorem yJ (l:AT Dt) (j:BF) (k:AT T->St->An):CK l j [] k=match J7 (Cg l) j with
  |BH=>k [] [.Dg (Cg l)]
  |A9 _=> .D9 97:=by lk
theorem wi (l:AT Dt) (j:BF) (v:V) (KG:AT V) (k:AT T->St->An):CK l j (v::KG) k=AA (J7 (Cg l) j) 95 λv=>(`p 399).ev ⟨UW 1551 0,0,Be⟩ (UX 1551 0) [(`dJ,v)] [.Dg (Cg l)] (λy KM=>match y with
  | .t y=>Ei (`p 399) ⟨UW 1551 0,0,Be⟩ `dJ [] (UX 1551 0) (.FN 0) (j+1) KG KM λys Se=>k (y::ys) Se
  | .FN _=> .D9 77) OT:=by lk
theorem aae (l m:AT Dt) (j:BF) (k:AT T->St->An) (h:l.F3 j=m):CK l j (Cg m) k=k (m.FW .D4) [.Dg (Cg l)]:=by
 induction m generalizing j k with
 |HU=>
  rw[show Cg []=[] from rfl,yJ,j1 l j h];rfl
 |Dc a m ih=>
  rw[show Cg (a::m)= .t (.D4 a)::Cg m from rfl,wi,mM l j h];refine Eq.CX (show _=CK l (j+1) (Cg m) λys Se=>k (.D4 a::ys) Se by lk) ?_;exact ih (j+1) _ (by rw[<-AT.RB (i:=1) (j:=j),h];rfl)
def FQ (m j:BF) (CL:Ag) (cs:St):An:=(`p m).fo ⟨Cv 1551,0,Bj⟩ (Di 1551 4).1 (Di 1551 4).2 (.FN 1) j CL cs (λCL cs=>D3 1551 5 395 CL [] cs) (Fv []) (Gp [])
def Fe (WU:T) (PO QN:Dt) (Do:Ag):Ag:=(`dK,.t WU)::(`dL,.FN 1)::(`dM,.t (.D4 PO))::(s!"state",.t (.D4 QN))::Do
def X4 (Do:Ag):Prop:=Do=[]\/∃x,Do=[(`dJ,x)]
section
variable {WU:T} {PO QN:Dt} {Do:Ag} {x:C} {l:AT Dt}
theorem yo (m j:BF) (ht:X4 Do) (h:J7 (Cg l) j=BH):FQ (m+20) j (Fe WU PO QN Do) [x,.Dg (Cg l)]=D3 1551 5 395 (Fe WU PO QN Do) [] [x,.Dg (Cg l)]:=by
 refine Eq.CX (show _=match J7 (Cg l) j with
  |BH=>D3 1551 5 395 `au [] [x,.Dg (Cg l)]
  |A9 v=>Ii ⟨Cv 1551,0,Bj⟩ (Di 1551 4).1 v `au [x,.Dg (Cg l)] λBO G1=>(`p (m+19)).ex ⟨Cv 1551,0,Bj⟩ (Di 1551 4).2 BO G1 (λenv2 KM=>FQ (m+19) (j+1) env2 KM) (Fv []) (Gp []) by apply xL ht<;>intros<;>lk) ?_
 rw[h]
theorem vH (m j:BF) (ht:X4 Do) {a:Dt} (h:J7 (Cg l) j=A9 (.t (.D4 a))) (h0:0<=QN) (h1:QN<2147483647):FQ (m+20) j (Fe WU PO QN Do) [x,.Dg (Cg l)]=FQ (m+19) (j+1) (Fe WU PO ((QN*48271+a.Qr 2147483647+409).Qr 2147483647) [(`dJ,.t (.D4 a))]) [x,.Dg (Cg l)]:=by
 refine Eq.CX (show _=match J7 (Cg l) j with
  |BH=>D3 1551 5 395 `au [] [x,.Dg (Cg l)]
  |A9 v=>Ii ⟨Cv 1551,0,Bj⟩ (Di 1551 4).1 v `au [x,.Dg (Cg l)] λBO G1=>(`p (m+19)).ex ⟨Cv 1551,0,Bj⟩ (Di 1551 4).2 BO G1 (λenv2 KM=>FQ (m+19) (j+1) env2 KM) (Fv []) (Gp []) by apply xL ht<;>intros<;>lk) ?_
 rw[h];refine Eq.CX (show _=br (B9 QN) (FQ (m+19) (j+1) (Fe WU PO ((QN*48271+a.Qr 2147483647+409).Qr 2147483647) [(`dJ,.t (.D4 a))]) [x,.Dg (Cg l)]) (.D9 85) by apply xL ht<;>intros<;>lk) ?_;rw[aJ (gA h0 (·))]
theorem zV (l:AT Dt) (hgr:0<=PO) (hl:l.A8<=48) (m:AT Dt) (n j:BF) (QN:Dt) (Do:Ag) (ht:X4 Do) (h:l.F3 j=m) (h0:0<=QN) (h1:QN<2147483647):
  ∃c,AR 0 c/\FQ (n+m.A8+20) j `au [x,.Dg (Cg l)]= .EM (.FN 0) [c]:=by
 induction m generalizing j QN Do with
 |HU=>
  refine⟨EV (l.FW .D4) PO QN 0,⟨l,PO,QN,0,Cs,hl,hgr,h0,h1,(·),(·)⟩,?_⟩;rw[show n+([]:AT Dt).A8+20=n+20 from rfl,yo n j ht (j1 l j h)];refine Eq.CX (show _=AA (AU Hd [x,.Dg (Cg l)] [.FN 1,.t (.D4 PO),.t (.D4 QN),.t (.D4 0)]) 97 λp=>br (BF.Ls p.1.A8 Af) (LH (.Dg p.1) p.2 (Fv [])) (.D9 41) by apply xL ht<;>intros<;>lk) ?_;have e1:WC BN [x,.Dg (Cg l)] (.FN 1)=A9 (.Dg (l.FW .D4),[x,.fz (.Dg (l.FW .D4))]):=cm (cs:=[x,.Dg (Cg l)]) (i:=1) (rt:=l.FW .D4) rfl 11;have e2:Hd [x,.Dg (Cg l)] (.FN 1)=A9 (.t (.Dg (l.FW .D4)),[x,.fz (.Dg (l.FW .D4))]):=by
   show((WC BN [x,.Dg (Cg l)] (.FN 1)).G3 λp=>A9 (V.t p.1,p.2))=_
   rw[e1];rfl
  have e3:AU Hd [x,.Dg (Cg l)] [.FN 1,.t (.D4 PO),.t (.D4 QN),.t (.D4 0)]=A9 ([.t (.Dg (l.FW .D4)),.t (.D4 PO),.t (.D4 QN),.t (.D4 0)],[x,.fz (.Dg (l.FW .D4))]):=by
   have e4:∀cs t,Hd cs (.t t)=A9 (.t t,cs):=λ_ _=>rfl;exact JS e2 (JS (e4 _ _) (JS (e4 _ _) (JS (e4 _ _) Rm)))
  rw[e3];exact lO (i:=2) (cs:=[x,.fz (.Dg (l.FW .D4)),EV (l.FW .D4) PO QN 0]) (l:=[.Dg (l.FW .D4),.D4 PO,.D4 QN,.D4 0]) rfl []
 |Dc a m ih=>
  rw[AT.DW,show n+(m.A8+1)+20=(n+m.A8+1)+20 by omega,vH _ _ ht (mM l j h) h0 h1];exact ih (j+1) _ _ (.G4 ⟨_,Cs⟩) (by rw[<-AT.RB (i:=1) (j:=j),h];rfl) (Dt.QZ _ (by decide)) (Dt.fmod_lt_of_pos _ (by decide))
end
def Jb (f i:BF):IQ:=match Cu f i with
 |s::_=>s
 |[]=> .Pass default
theorem jk (m:BF) (cx:Cx) (s:IQ) (Df:AT IQ) (CL:Ag) (cs:St) (kn:KN) (kr:KV) (ke:KX):(`p (m+1)).ex cx (s::Df) CL cs kn kr ke=Gw GT (`p m) cx s CL cs (λBO G1=>(`p m).ex cx Df BO G1 kn kr ke) kr ke:=rfl
theorem kB {f i m:BF} {CL Lk:Ag} {Pp cs Kg:St} (h:Cu f i=Jb f i::Cu f (i+1)) (hs:∀kn,Gw GT (`p m) ⟨Cv f,0,Bj⟩ (Jb f i) CL cs kn (Fv Pp) (Gp Pp)=kn Lk Kg):
  D3 f i (m+1) CL Pp cs=D3 f (i+1) m Lk Pp Kg:=by
 unfold D3;rw[h,jk,hs]
theorem vQ {f i m:BF} {CL:Ag} {Pp cs:St} {A:KN->An} (h:Cu f i=Jb f i::Cu f (i+1)) (hs:∀kn,Gw GT (`p m) ⟨Cv f,0,Bj⟩ (Jb f i) CL cs kn (Fv Pp) (Gp Pp)=A kn):
  D3 f i (m+1) CL Pp cs=A λCL cs=>D3 f (i+1) m CL Pp cs:=by
 unfold D3;rw[h,jk,hs]
theorem yy {f i m:BF} {CL:Ag} {Pp cs:St} (h:Dx f i):D3 f i (m+1) CL Pp cs=(`p m).tr ⟨Cv f,0,Bj⟩ (Fd f i).1 CL cs (λq G1=>br q ((`p m).ex ⟨Cv f,0,Bj⟩ (Fd f i).2.1 CL G1 (λCL cs=>D3 f (i+1) m CL Pp cs) (Fv Pp) (Gp Pp)) ((`p m).ex ⟨Cv f,0,Bj⟩ (Fd f i).2.2 CL G1 (λCL cs=>D3 f (i+1) m CL Pp cs) (Fv Pp) (Gp Pp))) (Gp Pp):=by
 unfold D3;rw[h,jk];rfl
theorem sW (m:BF) (cx:Cx) (CL:Ag) (cs:St) (kn:KN) (kr:KV) (ke:KX):(`p (m+1)).ex cx [] CL cs kn kr ke=kn CL cs:=rfl
def ZJ (w:AT V) (k:AT T->St->An):An:=Ei (`p 399) ⟨UW 1551 0,0,Be⟩ `dJ [] (UX 1551 0) (.FN 0) 0 w [.Dg w] k
theorem b0 (ts:AT T):R 1551 [.t (.Dg ts)] []=br (BF.Ls (ZW ts).A8 Af) (br (BF.Ls (cut (ZW ts) 0 (Fh (ZW ts).A8 48)).A8 Af) (ZJ (cut (ZW ts) 0 (Fh (ZW ts).A8 48)) λys KM=>LH (.Dg (ZW ys)) KM λv Se=>D3 1551 1 399 [(`dK,.t (.Dg ts)),(`dL,v)] [] Se) (.D9 94)) (.D9 40):=by lk
section
variable {ts:AT T} {l:AT Dt} {PO:Dt}
theorem b3 (ts:AT T) (l:AT Dt) (PO:Dt):D3 1551 3 397 [(`dK,.t (.Dg ts)),(`dL,.FN 1),(`dM,.t (.D4 PO))] [] [.Dg (Cg l),.Dg (Cg l)]=FQ 395 0 (Fe (.Dg ts) PO 1 []) [.Dg (Cg l),.Dg (Cg l)]:=by
 refine Eq.CX (kB (m:=396) (Lk:=Fe (.Dg ts) PO 1 []) (Kg:=[.Dg (Cg l),.Dg (Cg l)]) () λkn=>by lk) ?_;exact vQ (m:=395) (A:=λkn=>(`p 395).fo ⟨Cv 1551,0,Bj⟩ (Di 1551 4).1 (Di 1551 4).2 (.FN 1) 0 (Fe (.Dg ts) PO 1 []) [.Dg (Cg l),.Dg (Cg l)] kn (Fv []) (Gp [])) () λkn=>by lk
theorem b1 (ts:AT T) (l:AT Dt):D3 1551 1 399 [(`dK,.t (.Dg ts)),(`dL,.FN 1)] [] [.Dg (Cg l),.Dg (Cg l)]=D3 1551 2 398 [(`dK,.t (.Dg ts)),(`dL,.FN 1),(`dM,.t (.D4 0))] [] [.Dg (Cg l),.Dg (Cg l)]:=
 kB (m:=398) () λkn=>by lk
theorem b2 (ts:AT T) (l:AT Dt) (hl:l.A8<=48):∃PO:Dt,0<=PO/\D3 1551 2 398 [(`dK,.t (.Dg ts)),(`dL,.FN 1),(`dM,.t (.D4 0))] [] [.Dg (Cg l),.Dg (Cg l)]=D3 1551 3 397 [(`dK,.t (.Dg ts)),(`dL,.FN 1),(`dM,.t (.D4 PO))] [] [.Dg (Cg l),.Dg (Cg l)]:=by
 have h:Dx 1551 2:=by unfold Dx;lk
 have he:(Fd 1551 2).2.2=[]:=by lk
 rw[yy (m:=397) h,he];cases l with
 |HU=>
  refine⟨0,by decide,?_⟩;have ht:∀K ke,(`p 397).tr ⟨Cv 1551,0,Bj⟩ (Fd 1551 2).1 [(`dK,.t (.Dg ts)),(`dL,.FN 1),(`dM,.t (.D4 0))] [.Dg (Cg []),.Dg (Cg [])] K ke=K Be [.Dg (Cg []),.Dg (Cg [])]:=λK ke=>by lk
  rw[ht];exact sW 396 _ _ _ _ _ _
 |Dc a r=>
  have ht:∀K ke,(`p 397).tr ⟨Cv 1551,0,Bj⟩ (Fd 1551 2).1 [(`dK,.t (.Dg ts)),(`dL,.FN 1),(`dM,.t (.D4 0))] [.Dg (Cg (a::r)),.Dg (Cg (a::r))] K ke=AA (match BF.Ls (Cg r).A8 Af with|Bj=>A9 Bj|Be=>BH) 103 λq=>br q (br (CF ((10:Dt)^(15:Dt).LU) (a.J3:BF)) (K Bj [.Dg (Cg (a::r)),.Dg (Cg (a::r))]) (K Be [.Dg (Cg (a::r)),.Dg (Cg (a::r))])) (K Be [.Dg (Cg (a::r)),.Dg (Cg (a::r))]):=λK ke=>by lk
  rw[ht,aK (by rw[je];rw[AT.DW] at hl;omega)];cases hq:CF ((10:Dt)^(15:Dt).LU) (a.J3:BF) with
  |Be=>
   refine⟨0,by decide,?_⟩;exact sW 396 _ _ _ _ _ _
  |Bj=>
   refine⟨(((a.J3:BF):Dt).Xp 2).Qr ((10:Dt)^(260:Dt).LU),Dt.QZ _ (Dt.pow_pos (by decide)),?_⟩;have hx:∀kn,(`p 397).ex ⟨Cv 1551,0,Bj⟩ (Fd 1551 2).2.1 [(`dK,.t (.Dg ts)),(`dL,.FN 1),(`dM,.t (.D4 0))] [.Dg (Cg (a::r)),.Dg (Cg (a::r))] kn (Fv []) (Gp [])=kn [(`dK,.t (.Dg ts)),(`dL,.FN 1),(`dM,.t (.D4 ((((a.J3:BF):Dt).Xp 2).Qr ((10:Dt)^(260:Dt).LU))))] [.Dg (Cg (a::r)),.Dg (Cg (a::r))]:=λkn=>by lk
   exact hx _
end
theorem yQ (ns:AT Dt) (hl:ns.A8<=63):∃c,AR 0 c/\Ct 1 1551 [.t (.Dg (ns.FW .D4))] [] (.EM (.FN 0) [c]):=by
 have hw:cut `E 0 (Fh (ZW `J).A8 48)=Cg `X:=by
  have e:Fh (ZW `J).A8 48=BF.min 48 (ZW `J).A8:=rfl;rw[e]
  show((ZW `J).Gk _).F3 0=_
  rw[AT.W0,show(ZW `J).A8=ns.A8 from je ns]
  show((ns.FW T.D4).FW V.t).Gk _=((ns.Gk 48).FW T.D4).FW V.t
  rw[<-AT.map_take,<-AT.map_take]
  by_cases h:ns.A8<=48
  .rw[show BF.min 48 ns.A8=ns.A8 from BF.min_eq_right h,AT.Q5,AT.N7 h]
  .rw[show BF.min 48 ns.A8=48 from BF.Qh (·)]
 have hl48:(ns.Gk 48).A8<=48:=by rw[AT.Ok];omega
 obtain⟨PO,hg,e2⟩:=b2 `J `X hl48;obtain⟨c,gd,e3⟩:=zV (WU:= .Dg `J) (PO:=PO) (x:= .Dg (Cg `X)) `X hg hl48 `X (375 - (ns.Gk 48).A8) 0 1 [] (.HX rfl) rfl (by decide) (by decide);refine⟨c,gd,ac (n:=0) (Go.EM ?_)⟩;rw[b0,hw,aJ (aK (by rw[iE,AT.Lc];omega)),aJ (aK (by rw[je];omega))];refine Eq.CX (aae `X `X 0 _ rfl) ?_;refine Eq.CX (b1 `J `X) ?_;rw[e2,b3];rw[show 375 - (ns.Gk 48).A8+(ns.Gk 48).A8+20=395 from(fz (a:=375) (k:=20) (·)).Hl] at e3;exact e3
def Sx:KX:=λ_ _ _ _=> .D9 0
def Pm (i m:BF) (CL:Ag) (cs:St):An:=(`p m).ex ⟨Cv 1677,0,Bj⟩ (Cu 1677 i) CL cs (λ_ _=> .D9 0) .EM Sx
def N3 (i n m:BF) (j:Dt) (CL:Ag) (cs:St):An:=(`p m).fr ⟨Cv 1677,0,Bj⟩ Br (TE 1677 i) j n CL cs (λCL cs=>Pm (i+1) (399 - i) CL cs) .EM Sx
def ET (S:T) (Do:Ag):Ag:=(`dK,.t S)::(`dD,.FN 0)::(s!"iset",.t Bu)::Do
def QT (v:V) (ext:St):Prop:=v= .t (.G6 Bj)
theorem gJ {cs:St} {t:T} (s:Dr) (h:Rf 7 t):Ej cs .Eq (.t (.Ld [.Dq s,t])) (.t (.Ld [.Dq s,t]))=A9 Bj:=eE 7 (l:=[.Dq s,t]) λu hu=>by
 rcases(by simpa using hu:u= .Dq s\/u=t) with rfl|rfl
 .exact dv 6 s
 .exact h
theorem tl {cs:St} {t:T} (s:Dr) (h:Rf 7 t):Ej cs .NotEq (.t (.Ld [.Dq s,t])) (.t (.Ld [.Dq s,t]))=A9 Be:=by
 have e:Nd cs (.t (.Ld [.Dq s,t])) (.t (.Ld [.Dq s,t]))=A9 Bj:=gJ (cs:=cs) s h
 show((Nd cs (.t (.Ld [.Dq s,t])) (.t (.Ld [.Dq s,t]))).G3 λc=>A9 (!c))=_
 rw[e];rfl
section
variable {c:C} {k kk:BF} {S:T}
def ZE (Do:Ag):Prop:=Do=[]\/∃x y z,Do=[(Br,x),(A0,y),(Cb,z)]
def ZD (Do:Ag):Prop:=(∃x y z,Do=[(Br,x),(A0,y),(Cb,z)])\/∃x y z u,Do=[(Br,x),(A0,y),(Cb,z),(DD,u)]
theorem ji (hg:AR k c) (hk:k<=2000) (m:BF) {j:Dt} (hj:j=0\/j=1\/j=2) {Do:Ag} (ht:ZE Do)
  (next:∀c' Ra,AR (k+40) c'->(∃x y z,Ra=[(Br,x),(A0,y),(Cb,z)])->Rz 25 (N3 2 3 (m+19) (j+1) (ET S Ra) [c']) kk QT):Rz 25 (N3 2 3 (m+20) j (ET S Do) [c]) kk QT:=by
 obtain⟨v,c1,ext,⟨Cs,Dp,s,RF,pre,Cs,tok,lr,tt,hto,hrf⟩,g1,r1⟩:=u4 hg (·);have hh:=gv tok lr hto [c1];refine Rz.DH [c] r1 (by rcases hj with rfl|rfl|rfl<;>rcases ht with rfl|⟨x,y,z,Cs⟩<;>lk) ?_;refine Rz.DH [c1] hh (by rcases hj with rfl|rfl|rfl<;>rcases ht with rfl|⟨x,y,z,Cs⟩<;>lk) ?_;refine Rz.DH [c1] (hto [c1]) (by rcases hj with rfl|rfl|rfl<;>rcases ht with rfl|⟨x,y,z,Cs⟩<;>lk) ?_;refine Rz.eq (show _=AA (Ej [c1] .NotEq (.t (.Ld [.Dq `dB,tt])) (.t (.Ld [.Dq `dB,tt]))) 59 λb=>br b (.EM (.t (.G6 Be)) [c1]) (N3 2 3 (m+19) (j+1) (ET S [(Br,.t (.D4 j)),(A0,.t (.Dg (Dp.FW Aw))),(Cb,.t (A5 s RF pre))]) [c1]) by
  rcases hj with rfl|rfl|rfl<;>rcases ht with rfl|⟨x,y,z,Cs⟩<;>lk) ?_
 rw[tl _ hrf];exact next c1 _ g1 ⟨_,_,_,Cs⟩
theorem nc (hg:AR k c) (hk:k<=2000) (m:BF) {j:Dt} (hj:j=0\/j=1) {Do:Ag} (ht:ZD Do)
  (next:∀c' Ra,AR (k+3) c'->(∃x y z u,Ra=[(Br,x),(A0,y),(Cb,z),(DD,u)])->Rz 25 (N3 3 2 (m+19) (j+1) (ET S Ra) [c']) kk QT):Rz 25 (N3 3 2 (m+20) j (ET S Do) [c]) kk QT:=by
 obtain⟨v,c1,ext,⟨Cs,Dp,due,cc,Cs,tok,lx,ek⟩,g1,r1⟩:=lg hg (·);have hh:=oV tok ek lx [c1];obtain⟨z,ht2⟩:∃z,(∃x y,Do=[(Br,x),(A0,y),(Cb,z)])\/∃x y u,Do=[(Br,x),(A0,y),(Cb,z),(DD,u)]:=by
  rcases ht with⟨x,y,z,h⟩|⟨x,y,z,u,h⟩
  .exact⟨z,.HX ⟨x,y,h⟩⟩
  .exact⟨z,.G4 ⟨x,y,u,h⟩⟩
 refine Rz.DH [c] r1 (by rcases hj with rfl|rfl<;>rcases ht2 with⟨x,y,Cs⟩|⟨x,y,u,Cs⟩<;>lk) ?_;refine Rz.DH [c1] hh (by rcases hj with rfl|rfl<;>rcases ht2 with⟨x,y,Cs⟩|⟨x,y,u,Cs⟩<;>lk) ?_;refine Rz.eq (show _=AA (Ej [c1] .NotEq (.t (.Ld [.Dq s!"refused",.Dq due])) (.t (.Ld [.Dq s!"refused",.Dq due]))) 59 λb=>br b (.EM (.t (.G6 Be)) [c1]) (N3 3 2 (m+19) (j+1) (ET S [(Br,.t (.D4 j)),(A0,.t (.Dg (Dp.FW Aw))),(Cb,z),(DD,.t (.Dq due))]) [c1]) by
  rcases hj with rfl|rfl<;>rcases ht2 with⟨x,y,Cs⟩|⟨x,y,u,Cs⟩<;>lk) ?_
 rw[tl _ (dv 6 due)];exact next c1 _ g1 ⟨_,_,_,_,Cs⟩
end
section
variable {c:C} {k kk:BF} {S:T}
def Z0:T:=AG (AJ .q 0)
theorem uO (x1 x2 x3 x4 x5 x6 x7:C):Cq 3 452 0 [.t (AJ .q 0)] [c,x1,x2,x3,x4,x5,x6,x7] (.EM (.t Z0) [c,x1,x2,x3,x4,x5,x6,x7]):=aN λd=>by lk
theorem uU (v:Dt) (x1 x2 x3 x4 x5 x6 x7:C):Cq 4 486 0 [.t (.D4 v)] [c,x1,x2,x3,x4,x5,x6,x7] (.EM (.t (CM v Ae)) [c,x1,x2,x3,x4,x5,x6,x7]):=aN λd=>by lk
theorem uT (v:Dt) (s:Dr) (x1 x2 x3 x4 x5 x6 x7 x8:C):Cq 4 486 0 [.t (.D4 v),.t (.Dq s)] [c,x1,x2,x3,x4,x5,x6,x7,x8] (.EM (.t (CM v s)) [c,x1,x2,x3,x4,x5,x6,x7,x8]):=aN λd=>by lk
theorem uS (a b:T) (x1 x2 x3 x4 x5 x6 x7:C):Cq 3 631 0 [.t (.Dq AL),.FN 8] [c,x1,x2,x3,x4,x5,x6,x7,.Dg [.t a,.t b]] (.EM (.t (A5 AL [a,b] Ae)) [c,x1,x2,x3,x4,x5,x6,x7,.Dg [.t a,.t b]]):=aN λd=>by lk
theorem uR (a b:T) (x1 x2 x3 x4 x5 x6 x7 x8:C):Cq 3 631 0 [.t (.Dq AL),.FN 9] [c,x1,x2,x3,x4,x5,x6,x7,x8,.Dg [.t a,.t b]] (.EM (.t (A5 AL [a,b] Ae)) [c,x1,x2,x3,x4,x5,x6,x7,x8,.Dg [.t a,.t b]]):=aN λd=>by lk
def ZB:Ez:=((Cu 1677 9).head?.G3 λs=>Dw s.E5 3 λh=>IQ.QJ.Dk s h λe _=>e.G3 λe=>Dw e.E5 0 λh=>Ez.VJ.Dk e h λ_ es _=>es.Do.head?).RT (.KP .BH 0 default)
def AY:AT Tk:=[.na AL,.na `dn,.sg Au]
def Ck:AT Tk:=[.na Db,.na Ai,.sg Bk]
theorem zB {d:BF} (h:(d:Dt)<1099511627776):((d:Dt) - 549755813888).J3<=4611686018427387904:=by omega
theorem vj (hg:AR k c) (hk:k<=3000) (x y z u:V):Rz 25 (Pm 4 396 (ET S [(Br,x),(A0,y),(Cb,z),(DD,u)]) [c]) (k+5) QT:=by
 obtain⟨d,c1,hd,g1,r1⟩:=ay hg (·) (L:=1099511627776) (by decide) (by decide);have hv:((d:Dt) - 549755813888).J3<=4611686018427387904:=zB hd;obtain⟨i1,h1,c2,n1,g2,r2⟩:=eF g1 (·) ((d:Dt) - 549755813888) hv;obtain⟨i2,h2,c3,n2,g3,r3⟩:=eF g2 (·) ((d:Dt) - 549755813888) hv;have L1:DU ([.na AL]++([.na `dn]++ .sg Au::Ab i1 h1)) (A5 AL [Z0,CM ((d:Dt) - 549755813888) Ae] Ae):=
  cb (bL (.HX rfl)) (.HX rfl) (E3.reg .q 0 (by decide) _) (wG n1.bare n1.fst) ⟨_,_,Cs,Cs⟩ (λc0 lt p=>nz _ _) (by have:=n1.Oa;simp;omega)
 have L2:DU ([.na AL]++([.na `dn]++ .sg Au::(.na Db::Ab (.p1 (.sy Ai)) ((Be,i2)::h2)))) (A5 AL [Z0,CM ((d:Dt) - 549755813888) Ai] Ae):=
  cb (bL (.HX rfl)) (.HX rfl) (E3.reg .q 0 (by decide) _) (E3.off n2.off) ⟨_,_,Cs,Cs⟩ (λc0 lt p=>nz _ _) (by have:=n2.Oa;simp[Ab,aG,aH,al,ak,ai,aj,ag] at F4⊢;omega)
 have e1:([.na AL]++([.na `dn]++ .sg Au::Ab i1 h1):AT Tk)=AY++Ab i1 h1:=rfl;have e2:([.na AL]++([.na `dn]++ .sg Au::(.na Db::Ab (.p1 (.sy Ai)) ((Be,i2)::h2))):AT Tk)=AY++Ck++Ab i2 h2:=by
  simp[AY,Ck,Ab,aG,aH,al,ak,ai,aj,ag];rfl
 rw[e1] at L1;rw[e2] at L2;have ph:PT AY:= .Dc (aI _) (.Dc (aI _) (.Dc (aE _) .HU));have po:PT Ck:= .Dc (aI _) (.Dc (aI _) (.Dc (aE _) .HU));have k1:Gz (AY++Ab i1 h1):=cI (ph.Wy n1.tk) (by have:=n1.Oa;simp[AY];omega);have k2:Gz (AY++Ck++Ab i2 h2):=cI ((ph.Wy po).Wy n2.tk) (by have:=n2.Oa;simp[AY,Ck];omega);obtain⟨t1,q1,f1⟩:IG AL [Z0,CM ((d:Dt) - 549755813888) Ae] Ae:=mw _ _ _ _ _;obtain⟨t2,q2,V1⟩:IG AL [Z0,CM ((d:Dt) - 549755813888) Ai] Ae:=mw _ _ _ _ _;have H1:=gv k1 L1 q1;have H2:=gv k2 L2 q2;have hl1:=n1.Oa;have hl2:=n2.Oa;refine Rz.DH [c] (r1 _) () ?_;refine Rz.DH [c1,.Dg `ax] (r2 _ (.HX ⟨_,Cs⟩)) () ?_
 refine Rz.eq (show _=br (BF.Ls ((Aa AY).A8+(Aa (Ab i1 h1)).A8) Af) (AA (AU `at [c2,.Dg `ax,.Dg `U,.Dg (Aa AY++Aa (Ab i1 h1))] [.t Bu,.FN 3]) 53 λp=> .DH 1649 (ZW p.1) p.2 (λv cs=>Pm 7 393 (ET S [(Br,x),(A0,.FN 1),(Cb,z),(DD,u),(s!"value",.t (.D4 ((d:Dt) - 549755813888))),(s!"bare",v)]) cs) Sx) (.D9 88) by lk) ?_;rw[aJ (cV (by rw[az,az];simp[AY];omega)),<-aA];have fz1:AU `at [c2,.Dg `ax,.Dg `U,.Dg (Aa (AY++Ab i1 h1))] [.t Bu,.FN 3]=A9 ([Bu,.Dg ((AY++Ab i1 h1).FW Aw)],[c2,.Dg `ax,.Dg `U,.fz (.Dg ((AY++Ab i1 h1).FW Aw))]):=by
  have a1:WC BN [c2,.Dg `ax,.Dg `U,.Dg (Aa (AY++Ab i1 h1))] (.t Bu)=A9 (Bu,[c2,.Dg `ax,.Dg `U,.Dg (Aa (AY++Ab i1 h1))]):=rfl;have a2:WC BN [c2,.Dg `ax,.Dg `U,.Dg (Aa (AY++Ab i1 h1))] (.FN 3)=A9 (.Dg ((AY++Ab i1 h1).FW Aw),[c2,.Dg `ax,.Dg `U,.fz (.Dg ((AY++Ab i1 h1).FW Aw))]):=cm (cs:=[c2,.Dg `ax,.Dg `U,.Dg (Aa (AY++Ab i1 h1))]) (i:=3) rfl 11;exact JS a1 (JS a2 Rm)
 rw[fz1];refine Rz.DH [c2,.Dg `ax,.Dg `U,.fz (.Dg ((AY++Ab i1 h1).FW Aw))] (H1 _) rfl ?_;generalize hA:C.Dg `U=A1;generalize hB:C.fz (.Dg ((AY++Ab i1 h1).FW Aw))=A2;refine Rz.DH [c2,.Dg `ax,A1,A2,.Dg (Aa Ck),.Dg (Aa (AY++Ck))] (r3 _ (.G4 (.G4 ⟨_,_,_,_,_,Cs⟩))) () ?_;refine Rz.eq (show _=br (BF.Ls ((Aa (AY++Ck)).A8+(Aa (Ab i2 h2)).A8) Af) (AA (AU `at [c3,.Dg `ax,A1,A2,.Dg (Aa Ck),.Dg (Aa (AY++Ck)),.Dg `ak,.Dg (Aa (AY++Ck)++Aa (Ab i2 h2))] [.t Bu,.FN 7]) 53 λp=> .DH 1649 (ZW p.1) p.2 (λv cs=>Pm 8 392 (ET S [(Br,x),(A0,.FN 1),(Cb,z),(DD,u),(s!"value",.t (.D4 ((d:Dt) - 549755813888))),(s!"bare",.t (.Ld [.Dq `dB,t1])),(s!"beside",v)]) cs) Sx) (.D9 88) by lk) ?_
 rw[aJ (cV (by rw[az,az];simp[AY,Ck];omega)),<-aA];have fz2:AU `at [c3,.Dg `ax,A1,A2,.Dg (Aa Ck),.Dg (Aa (AY++Ck)),.Dg `ak,.Dg (Aa (AY++Ck++Ab i2 h2))] [.t Bu,.FN 7]=A9 ([Bu,.Dg ((AY++Ck++Ab i2 h2).FW Aw)],[c3,.Dg `ax,A1,A2,.Dg (Aa Ck),.Dg (Aa (AY++Ck)),.Dg `ak,.fz (.Dg ((AY++Ck++Ab i2 h2).FW Aw))]):=by
  have a1:∀cs,WC BN cs (.t Bu)=A9 (Bu,cs):=λ_=>rfl;have a2:WC BN [c3,.Dg `ax,A1,A2,.Dg (Aa Ck),.Dg (Aa (AY++Ck)),.Dg `ak,.Dg (Aa (AY++Ck++Ab i2 h2))] (.FN 7)=A9 (.Dg ((AY++Ck++Ab i2 h2).FW Aw),[c3,.Dg `ax,A1,A2,.Dg (Aa Ck),.Dg (Aa (AY++Ck)),.Dg `ak,.fz (.Dg ((AY++Ck++Ab i2 h2).FW Aw))]):=cm (cs:=[c3,.Dg `ax,A1,A2,.Dg (Aa Ck),.Dg (Aa (AY++Ck)),.Dg `ak,.Dg (Aa (AY++Ck++Ab i2 h2))]) (i:=7) rfl 11;exact JS (a1 _) (JS a2 Rm)
 rw[fz2];refine Rz.DH [c3,.Dg `ax,A1,A2,.Dg (Aa Ck),.Dg (Aa (AY++Ck)),.Dg `ak,.fz (.Dg ((AY++Ck++Ab i2 h2).FW Aw))] (H2 _) rfl ?_;generalize C.Dg `ax=B1;generalize C.Dg (Aa Ck)=B2;generalize C.Dg (Aa (AY++Ck))=B3;generalize C.Dg `ak=B4;generalize C.fz (.Dg ((AY++Ck++Ab i2 h2).FW Aw))=B5;refine Rz.DH [c3,B1,A1,A2,B2,B3,B4,B5] (dF .q 0 (by decide) _) () ?_;refine Rz.PE [c3,B1,A1,A2,B2,B3,B4,B5] (uO B1 A1 A2 B2 B3 B4 B5) () ?_;refine Rz.PE [c3,B1,A1,A2,B2,B3,B4,B5] (uU ((d:Dt) - 549755813888) B1 A1 A2 B2 B3 B4 B5) () ?_;refine Rz.PE [c3,B1,A1,A2,B2,B3,B4,B5,.Dg [.t Z0,.t (CM ((d:Dt) - 549755813888) Ae)]] (uS Z0 (CM ((d:Dt) - 549755813888) Ae) B1 A1 A2 B2 B3 B4 B5) () ?_
 refine Rz.DH [c3,B1,A1,A2,B2,B3,B4,B5,.Dg [.t Z0,.t (CM ((d:Dt) - 549755813888) Ae)]] (q1 _) () ?_;refine Rz.eq (show _=AA (Ej [c3,B1,A1,A2,B2,B3,B4,B5,.Dg [.t Z0,.t (CM ((d:Dt) - 549755813888) Ae)]] .Eq (.t (.Ld [.Dq `dB,t1])) (.t (.Ld [.Dq `dB,t1]))) 59 λb=>br b ((`p 389).ev ⟨Cv 1677,0,Bj⟩ ZB (ET S [(Br,x),(A0,.FN 1),(Cb,z),(DD,u),(s!"value",.t (.D4 ((d:Dt) - 549755813888))),(s!"bare",.t (.Ld [.Dq `dB,t1])),(s!"beside",.t (.Ld [.Dq `dB,t2])),(s!"side",.t Z0)]) [c3,B1,A1,A2,B2,B3,B4,B5,.Dg [.t Z0,.t (CM ((d:Dt) - 549755813888) Ae)]] .EM Sx) (.EM (.t (.G6 b)) [c3,B1,A1,A2,B2,B3,B4,B5,.Dg [.t Z0,.t (CM ((d:Dt) - 549755813888) Ae)]]) by lk) ?_
 rw[gJ _ f1];generalize C.Dg [.t Z0,.t (CM ((d:Dt) - 549755813888) Ae)]=B6;refine Rz.PE [c3,B1,A1,A2,B2,B3,B4,B5,B6] (uT ((d:Dt) - 549755813888) Ai B1 A1 A2 B2 B3 B4 B5 B6) () ?_;refine Rz.PE [c3,B1,A1,A2,B2,B3,B4,B5,B6,.Dg [.t Z0,.t (CM ((d:Dt) - 549755813888) Ai)]] (uR Z0 (CM ((d:Dt) - 549755813888) Ai) B1 A1 A2 B2 B3 B4 B5 B6) () ?_;refine Rz.DH [c3,B1,A1,A2,B2,B3,B4,B5,B6,.Dg [.t Z0,.t (CM ((d:Dt) - 549755813888) Ai)]] (q2 _) () ?_;refine Rz.eq (show _=AA (Ej [c3,B1,A1,A2,B2,B3,B4,B5,B6,.Dg [.t Z0,.t (CM ((d:Dt) - 549755813888) Ai)]] .Eq (.t (.Ld [.Dq `dB,t2])) (.t (.Ld [.Dq `dB,t2]))) 59 λb=> .EM (.t (.G6 b)) [c3,B1,A1,A2,B2,B3,B4,B5,B6,.Dg [.t Z0,.t (CM ((d:Dt) - 549755813888) Ai)]] by lk) ?_
 rw[gJ _ V1];exact Rz.EM rfl rfl (g3.Ey (·))
end
theorem ye (ns:AT Dt) (hl:ns.A8<=63):Rz 25 (Pm 0 400 [(`dK,.t (.Dg (ns.FW .D4)))] []) 500 QT:=by
 obtain⟨c,g,r⟩:=yQ ns hl;refine Rz.DH [] r () (Rz.DH [c] (vw _) () ?_);refine Rz.eq (show _=N3 2 3 (377+20) 0 (ET (.Dg (ns.FW .D4)) []) [c] by lk) ?_;refine ji g (·) 377 (.HX rfl) (.HX rfl) λc1 t1 g1 h1=> ?_;refine ji (j:=1) g1 (·) 376 (.G4 (.HX rfl)) (.G4 h1) λc2 t2 g2 h2=> ?_;refine ji (j:=2) g2 (·) 375 (.G4 (.G4 rfl)) (.G4 h2) λc3 t3 g3 h3=> ?_;obtain⟨x,y,z,Cs⟩:=h3;refine Rz.eq (show _=Pm 3 397 (ET (.Dg (ns.FW .D4)) [(Br,x),(A0,y),(Cb,z)]) [c3] by lk) ?_;refine Rz.eq (show _=N3 3 2 (376+20) 0 (ET (.Dg (ns.FW .D4)) [(Br,x),(A0,y),(Cb,z)]) [c3] by lk) ?_;refine nc g3 (·) 376 (.HX rfl) (.HX ⟨_,_,_,Cs⟩) λc4 t4 g4 h4=> ?_
 refine nc (j:=1) g4 (·) 375 (.G4 rfl) (.G4 h4) λc5 t5 g5 h5=> ?_;obtain⟨x5,y5,ZP,u5,Cs⟩:=h5;refine Rz.eq (show _=Pm 4 396 (ET (.Dg (ns.FW .D4)) [(Br,x5),(A0,y5),(Cb,ZP),(DD,u5)]) [c5] by lk) ?_;exact ad (vj g5 (·) x5 y5 ZP u5) (·)
theorem om:HJ:=λns hl _=>by
 obtain⟨v,c',ext,hv,_,go⟩:=ye ns hl;have hv:v= .t (.G6 Bj):=hv;subst hv;refine⟨c'::ext,?_⟩;have h:=go 15 .EM .Oj;exact h
theorem zO:FU:=lN om
end Internal.L
namespace Internal
open PySem PySem.W PyProof.Rows
set_option backward.match.sparseCases true
theorem tw:Es.tablesWhole=Bj:=by lk
theorem ow:opensWell Es=Bj:=by lk
theorem aaL (goal:FU):D8.WV.rw_nn0100_01.Holds:=by
 rw[xD]
 o_law
 rename_i k1
 exact su tw ow goal k1
end Internal
theorem PySem.Challenge.cw_nn0100_01_holds : PySem.Challenge.rw_nn0100_01.Holds :=
 Internal.aaL Internal.L.zO
