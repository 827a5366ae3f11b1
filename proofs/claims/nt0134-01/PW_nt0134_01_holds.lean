import PyProof.Rows.All
import PyProof.FactsAll.int_1
import PyProof.FactsAll.int_2
import PyProof.FactsAll.int_3
import PyProof.FactsAll.list_1
import PyProof.AutoIntG0
import PyProof.AutoIntG1
import PyProof.AutoIntG2
import PyProof.AutoIntG4
import PyProof.AutoIntG6
import PyProof.AutoIntG7
import PyProof.AutoIntG9
import PyProof.AutoListH
import PyProof.AutoSeq1
import PyProof.ListIndex
import PyProof.Conv_int_bool
import PyProof.Dict
import PyProof.MeetsSeq2
import PyProof.SeqRoads2
import PyProof.DictKinds
import PyProof.MeetsDict
import PyProof.DictStraight
import PyProof.EqAt
import PyProof.EqKinds
import PyProof.NeKinds
import PyProof.ListIndexNeg
import PyProof.ListTruth
import PyProof.ReprRoads
import Wide.FinOn
import OpenK.AllK
import Lean
import PySem.Challenge.RW_nt0134_01
set_option Elab.async false
set_option maxRecDepth 1000000
set_option maxHeartbeats 0
set_option linter.unusedVariables false
set_option tactic.hygienic false
set_option genInjectivity false
set_option genSizeOf false
set_option genCtorIdx false
set_option compiler.extract_closed false
set_option genSizeOfSpec false
set_option bootstrap.genMatcherCode false
namespace Pb.Internal
open PySem PySem.Spec PySem.Calls PyProof.Rows PySem.W PySem.W.X
noncomputable section
def rdC (p : Array Nat) : List Char → List Nat
  | [] => []
  | c :: t =>
    let x := c.toNat - (if c.toNat > 92 then 36 else 35)
    if x < 60 then p.getD x 0 :: rdC p t else
      match t with
      | [] => []
      | d :: t => ((x - 60) * 91 + (d.toNat - (if d.toNat > 92 then 36 else 35))) :: rdC p t
def prC : List Nat → List Nat
  | a :: b :: t => (a * 2821 + b) :: prC t
  | _ => []
def tvC : Array Nat := (List.range 96 ++ prC (rdC #[] "`#a)`#a*`#a+`#a,`#a-`#a.`#a/`#a0`#a1`#a2`#a3`#a4`#a5`#a6`#a7`#a8`#a9`#a;`#a=`#a>`#aA`#aB`#aC`#aD`#aE`#aF`#aG`#aH`#aI`#aJ`#aK`#aL`#aM`#aN`#aO`#aQ`#aR`#aS`#aT`#aU`#aV`#aX`#aY`#aZ`#a[`#a]`#a^`#a``#aa`#ab`#ac`#ae`#af`#ai`#ap`#ar`#au`#az`#a|`#b%`#b*`#b+`#b/`#b5`#b8`#b9`#bA`#bH`#bI`#bQ`#bR`#bS`#b[`#b^`#bc`#bd`#bl`#bm`#bn`#bt`#bv`#c$`#c,`#c/`#c1`#c4`#c;`#cE`#cF`#cM`#cN`#cO`#cU`#c[`#c^`#c``#ca`#cb`#cf`#ci`#c{`#d%`#d'`#d(`#d.`#d2`#d9`#d>`#dA`#dD`#dH`#dI`#dM`#dQ`#dR`#dS`#dY`#d[`#dc`#dd`#dm`#dn`#dv`#d}`#d~`#e'`#e+`#e,`#e4`#e:`#eD`#eL`#eM`#eT`#eX`#eZ`#e_`#ee`#eg`#eu`#ey`#e|`#e~`#f%`#f(`#f+`#f0`#f3`#f5`#f7`#f?`#fC`#fN`#fQ`#fY`#fa`#fc`#fj`#fm`#ft`#fw`#f{`#f|`#g&`#g)`#g*`#g-`#g3`#g:`#g>`#gA`#gB`#gF`#gG`#gH`#gN`#gO`#gU`#gV`#gZ`#g]`#g^`#gc`#ge`#gj`#gl`#gq`#gs`#gt`#gy`#gz`#g}`#h%`#h,`#h3`#h4`#h5`#h6`#h;`#h<`#hB`#hI`#hK`#hP`#hQ`#hW`#hY`#h_`#hf`#hk`#hm`#hn`#hq`#ht`#h{`#i%`#i&`#i,`#i.`#i6`#i=`#iD`#iG`#iH`#iR`#iY`#iZ`#ia`#ih`#io`#ir`#is`#i{`#j&`#j'`#j-`#j4`#j;`#j>`#j?`#jI`#jP`#jQ`#jW`#j_`#jf`#ji`#jj`#jr`#jt`#jz`#j{`#k%`#k,`#k-`#k3`#k4`#k:`#k;`#kA`#kB`#kH`#kI`#kO`#kP`#kV`#kW`#k^`#k_`#ka`#kb`#kj`#kk`#kq`#kr`#kx`#ky`#l#`#l$`#l*`#l+`#l1`#l2`#l8`#l9`#l?`#l@`#lD`#lE`#lK`#lL`#lR`#lS`#lW`#lX`#l_`#l``#ld`#lecQa-cQa@cQaCcQaVcQaXcQaY".toList)).toArray
def psC : Array Nat := (rdC #[] "`#`$dH`6`(`&`*`,dJ`0dM`%dI`.`4dS`2dO`'dB`J`:eQ`P`N`V`)e5dkdK`8eJdg`-d_e@`F`BdZg-dNdz`Ldadvdr`X`<`>a'di`1`3dLdQe>`+e[gkgi".toList).toArray
def rtC : Array Nat := (rdC psC "##%%$$//)#%#''$#)X$(4+((Y+dRdT&&*@-.KK**dUdPd[X11#0&#))88dW#.5G#00+#AA$.G@/-#dY)dP/dddXdXdb8dodn,,(dmdW%$-.dqdhA$/K';;dld]4dYdU0@#dsNC(#dpdV&deG%GIEdce)dte*@%++66%deEdfdue$dxe1MM%2'#dVd`d^1?e'djdje%)e(e/e9e8e;e<#1df0I*(52#2(dyUe+O7e=#dw33dld}$%dpe:/eFe6e&77L;*#/%P,d^d^C+.d{(d{dcdcd|d]e#e4eG)'=dVdV*0eTd]$@RRUdqd`d`)eMN)dweZ#`D(d~#8#U0`/:#IIe-+[*dRen#e-$52eDejeAepeC*e2&d~&e,SSHH;eE<<2e#2eBeDe~eYf#esf$f%e}.eI(eI*/d|d}e0*eWf)f,e^#Rdm)(#)eo`H`Hd`e7eLeLecewexf5f6f3')3#7#e.e.Fe2Dek,Vet]#*..`DegK#B4.'*ee`D`E`KM-ev4$YfINdfe0fLe4dde?f<eKeKeufNfFfKfMfOfSfR`CfGTTdVe?eSe7fH`MfQf&#2(e,3W`98`D`D::`R`R`T`TdsdPeHf9eOeEf?f1=50E1`5GGG`G7fYPPZZe|<fUfl(0'O)f8QQ`Z`Z`]`^/(e3M>ereR0eaReheBfAfrfTf~fWftfgf=g$fe#d^#dh#f{Hfq%fD@@442-?4e?f+eYg.e`e`ezHfdg1fm;g+g2g6g/#=$e,)ePGdeG?`[fw`]`]`_```a`ba#a#a(a(dV#djg<dy#eH.ededefefe{;f-;f>f^fZgFg;`Hg=g?gDgM#&1eM`@`A`H`IQ`YdV8du+eNeNe]e]g*gSg5`OgCe&gKfj.['.'N*e00#`?gR`T`U<`W`ZgN`c`dd[g:d]eUd]eVd]eXd^g^dbSdcgadtePdte^e&f/e3e3ePgneSfXeWgpe_eUe_eVe_eXf4f4fVTf]f}fv`Zg@gggXe6ghd|gogsg}`e$d~(*(g7`7A`f`g`h`i`j`k`t`ue.6eieiel:f:7f_`;g%g]gZ:h%h*h+h,h5h6h7`l#[#ey'@R`=`sh-%'dVgqdbe:eC-eKgme]h?ecd`em&eqgVfPfPg4hCg>`]gAa#gBa(gEKgTgfgdgeglhHh@hGhBg~hOhPhRhQ#V#f|$]()0/1W`5&Rf.:@Xeedee'def`djh_?el?h`dmNelh0ezg3f2`HfBGg9h&gre3h'5h4`QhEfhhMh8hV.h]heh^g`hahchbeOhie$hphshr`D#fy.#(`5(+5ho'/*hY3eg3hfAh9898h/R9Sgc7f2;gJ`R`S`w`x`{`{%eA/ei/f.+Y+eB-gbIfhEi3dffEC$dhRPeRdxh(LLe#2>i2F,eHg(eRg)eb4er'eui.e{Lf&hSf.i0fEiEfJi=fa:fii5fp#fuQg&i#g&i?g,@gPhmg_eAgtfog{'hDiNhZDh[iFhhh}hkh{hw7hyVh~iWi$iMi%i&i'iVi(gYi)iZi+hNi/eGiCiGiHiXiPi]iTifi[iUi^ici_e%idigikih#'$)('(=)5)gU1iq`T#`m`n`o`p`}`}XhA-hj-i;Y5d^e7dheZeb#ebf@edirefi8emisf+dff/g[fC)fXj(f|hUg#g#g0g0gGgGgHgHgL)gLixhF-hL$hXiJhlibiuivi}j/j*j.j1j8j6`qj7j%j9j$#$#,#A#P#fn#fz#gz#g|#hI#hJ#hK$gu(fx'?=*)?,31gUAf7`@`@G`D7@7f-Me(Me=Mf-`rh=`vi,a.a.%eF%jS/gW+j]@jL-dbdP*d`&Cfzdhdhdhf7Ui{?f:dudxd~ehe%Ae3iz>dde7ZeC%eCf[eNiaeNiyeNjZeOgJeRi6eSi|eUf'eUf(eUf*eVf'eVf(eVf*eXf'eXf(eXf*e`g,eaeaebEebCehf0f0f0f:h1f;6f[2f]k(faiIfb`Rff;fyiYgIZgO;gQgQgWjrg[k3gygyh#dUh;jJi-`{i>j4iDg8iejtiljpinj_iojfj:jWjCa%jDQjE`ZjF<jGTjHj^jI'jRk)jTjVjU/j[jqjghgjikGjmk5k'dyk,kOk4k6k>jak?+k@jXkFkQkHkLkIjkkK%kUkX#)#I#g3#iB.dd)j+*hqD`/0j',FW`7W+1/19A`?`;S`=i``Dk]a:a;%,4BYhzNNFf@eRj@eekcekkieqkpf/j;fA#fBegf_h<fcfcfnfnfp`Tg'gPg4juhtOiO?iw`}j0l#j5hnj<iRjKkejM1k#9kNjNkgk~khl.kjkul'kwl*l0l2et#`/#3#M#dy#fC#jP(f1(iA5l-'f;=))I*duDj#0e2,h.,jc1dY&h)Sh:`@l9Hf`Hhv`DfkMhu;gu:eE`Rfc<e+<h$Qe+Qh$`ph=`|`}a%a%a%a&a,a,a2a2a6a6aHaI%em/ky/k|+-+dRX>-k--kl4.dPXdPkqY2Yf0YkMYl_dYi9Egbdce+dd'df3dff+dhj?dpjjPg)PlEOe0O>dylwLgOe'fke,f}e.l(e2kxe2ll>'>hxFl?eA'eAl<eHeHeOf@ePm%eWlnemIemhqeqg9evlgeyije|fpf9fzf;k*fBf`fElvfTk_fbfbffhTfij,filtfuiLg8k1gIm<gOlcg_kngzkAg{fsg|kBh#k7h3h2h>%hIkChJkDhKkEi*-i*k2i1l{i7lxi9l~i@i@iAl;iKk}ii1i~lAj&d^j2Cj3hdjBlbjQl^jhlkjsm>k<hWk=h)kJkWkT`ykrlql)fol/lrl3l=l@mXlDm2lFh2lMlyl]m,lh$likSlu>lzlKl|lTm'+m/m9m4lIm5m:m6mcm=gIm?l}mJ-mKfsmLmpmMmsmNmjmVmmmWldmYmam]ffm_j-mdkfmqmwmvmxm{g(#e7#eO#hA#ip#k.#k9#l&#lo$1$fk.U(/(le'g7'jo=(===/=ip)**h>*l$,k83e?3i~W3&ij8f7R$Rf7`?`A`Hhv`Rhu`TlO`z`{`~a#a(a)a4a5aLaMaSaT%h(%n7%n:/e(/g(+ex+k&@j`@nRX5-k$Yl7dR$dR.2fx2hddVZIk8dbdbdbnUCl,?jdPjAdx#dxn3dym*e3kVZmSeClaeG0BB9n1eaf7eaiiennceqBeqj#ewn_eyh:eyk&f7nSf8kaf;e.f>3f?)fBnQfCXfcnGfkfkfsfCfxn8fxnng)PgEfCg`nYh.kzh19h:nvh<ShFe,hWh|i7nwi:Bi:o1itk{j-lpjOjOj`nbjbndjdnVjejejnn2jno/jon4k%k%k+o:k0k0k:k:kdn]l1iRl8nxlUnIlVa%m-5m.gVmOn>mRo=m^nHm`fomgnPm}o4n'Mn)nOn*:n+`yn,`{n/n.n;n`n<j)nAo9nCoVnJa*nXnonqo7nsnTntnun|o#o%oOo&oCo)o<o0o]o5obo6oYo8odo;n5oAo_oDa$oHfJoIoMoJohoLoToWocoZoeo`oFoam$ogofojonoln}omo,orot".toList).toArray
def apC (f : Lean.Name) (a b : Lean.Syntax) : Lean.Syntax := Lean.Syntax.node .none `Lean.Parser.Term.app #[.ident .none "".toRawSubstring f [], .node .none `null #[a, b]]
def nmC (n : Nat) : Lean.Syntax := .node .none `num #[.atom .none n.repr]
def niC : Lean.Syntax := .ident .none "".toRawSubstring `List.nil []
def tmC : Nat → Nat → Bool → Lean.Syntax → Lean.Syntax
  | 0, _, _, y => y
  | f + 1, i, b, y =>
    if i < tvC.size then apC `List.cons (nmC (tvC.getD i 0)) y else
    if b then apC `apL (tmC f i false niC) y else
      let k := 2 * (i - tvC.size)
      tmC f (rtC.getD k 0) true (tmC f (rtC.getD (k + 1) 0) false niC)
def lsC : List Nat → Lean.Syntax
  | [] => niC
  | i :: t => match t with
    | [] => tmC 99 i false niC
    | _ => tmC 99 i true (lsC t)
def chC : List Char → Lean.Syntax
  | [] => niC
  | c :: t => apC `List.cons (nmC c.toNat) (chC t)
def dcC (g : String) : Lean.Syntax := match g.toList with
  | '#' :: t => lsC (rdC psC t)
  | '$' :: t => chC t
  | _ => .missing
local macro_rules | `(tactic| walk_at $s:str) => match dcC s.getString with
  | .missing => Lean.Macro.throwUnsupported
  | x => pure (.node .none `Lean.Parser.Tactic.exact #[.atom .none "exact", x])
theorem ag {n m:Nat} (h:Nat.ble n m=true):n≤m:=Nat.le_of_ble_eq_true h
abbrev amc:=@PySem.W.Fast.te14364793385576792824
abbrev ame:=@PySem.W.Fast.te10110043849684766642
abbrev yt:=@PySem.W.Fast.tw14364793385576792824
abbrev zN:=@PySem.W.Fast.tw10110043849684766642
abbrev At:=@PySem.W.Fast.tw12563942051412417395
abbrev amd:=@AutoIntG7.int___eq___int_int_0
abbrev alY:=@List.pairwise_iff_getElem
abbrev lw:=@Option.isSome_iff_exists
abbrev al0:=@Int.fmod_nonneg_of_pos
abbrev amb:=@PySem.F.entry_dict_get
abbrev ama:=@F.args_list_contains_2
abbrev aF:=@Nat.ble_eq_true_of_le
abbrev u9:=@List.mem_append_right
abbrev Mt:=@List.perm_append_comm
abbrev Nt:=@List.length_singleton
abbrev Zk:=@PySem.F.slot_dict_get
abbrev alB:=@List.Perm.append_left
abbrev alN:=@SeqRoads2.EqGives.str
abbrev alF:=@F.slot_tuple_contains
abbrev al2:=@wpAny_isTrue_Compare1
abbrev alV:=@World.withFollow_self
abbrev al5:=@F.entry_list_contains
abbrev iR:=@Bool.and_eq_true_iff
abbrev kt:=@List.mem_cons_of_mem
abbrev uj:=@List.mem_append_left
abbrev ya:=@codeAny_call_builtin
abbrev Jt:=@Array.mem_toList_iff
abbrev alv:=@wpAny_loadName_local
abbrev als:=@F.slot_list_contains
abbrev alC:=@Nat.add_right_cancel
abbrev alU:=@List.mem_of_getElem?
abbrev alt:=@SeqAt.EqAt.str_none
abbrev aly:=@Array.length_toList
abbrev alK:=@F.slot_list_getitem
abbrev alW:=@SeqAt.EqAt.int_none
abbrev al3:=@Nat.add_le_add_left
abbrev alX:=@List.flatMap_append
abbrev al7:=@Heap.SameBut.update
abbrev cv:=@List.mem_singleton
abbrev gw:=@List.mem_cons_self
abbrev ln:=@List.length_append
abbrev alz:=@Bool.false_ne_true
abbrev alM:=@Nat.lt_of_lt_of_le
abbrev alP:=@Int.fmod_lt_of_pos
abbrev alT:=@wpAny_Constant_int
abbrev alZ:=@Nat.add_right_comm
abbrev al8:=@Bool.false_eq_true
abbrev uG:=@List.append_assoc
abbrev FF:=@PySem.W.Z.eqB_iff
abbrev Ha:=@List.nodup_append
abbrev Vv:=@decide_eq_true_eq
abbrev alO:=@wpAny_truthy_bool
abbrev alR:=@wpAny_Return_some
abbrev alJ:=@of_decide_eq_true
abbrev al9:=@Nat.lt_succ_of_lt
abbrev gv:=@List.not_mem_nil
abbrev Da:=@Bool.and_eq_true
abbrev Gt:=@List.all_eq_true
abbrev Ov:=@List.length_cons
abbrev Wt:=@beq_self_eq_true
abbrev Z4:=@List.cons_append
abbrev alA:=@List.perm_middle
abbrev alD:=@List.getElem_mem
abbrev alx:=@Array.any_toList
abbrev alL:=@Nat.le_add_right
abbrev al6:=@wpAny_missed_int
abbrev al4:=@wpAny_Call_NameR
abbrev alS:=@callWith_builtin
abbrev al1:=@Nat.lt_succ_self
abbrev au:=@List.append_nil
abbrev eQ:=@List.map_append
abbrev fv:=@List.Perm.of_eq
abbrev uC:=@List.mem_append
abbrev zt:=@List.length_map
abbrev K4:=@List.nodup_cons
abbrev Na:=@decide_eq_false
abbrev Ut:=@Nat.not_lt_zero
abbrev alr:=@List.nil_append
abbrev alw:=@Array.size_push
abbrev alI:=@List.Perm.trans
abbrev b6:=@List.Perm.refl
abbrev Vu:=@wpOwn_of_wpAny
abbrev Zt:=@Heap.size_push
abbrev ajt:=@List.Perm.swap
abbrev Z7:=@List.Perm.cons
abbrev alG:=@wpAny_Compare1
abbrev alQ:=@evalArgs_plain
abbrev b9:=@List.mem_cons
abbrev Jv:=@List.map_cons
abbrev alH:=@Nat.add_assoc
abbrev kw:=@List.mem_map
abbrev wt:=@Nat.le_trans
abbrev Dt:=@Heap.lt_size
abbrev JG:=@Nat.zero_add
abbrev Ot:=@spliced_cons
abbrev Z6:=@List.map_nil
abbrev alu:=@List.map_map
abbrev alE:=@Nat.beq_refl
abbrev ai:=@Nat.le_refl
abbrev Bt:=@Nat.zero_le
abbrev Ow:=@spliced_nil
abbrev Tt:=@sizeLine_eq
abbrev Rt:=@Nat.le_succ
abbrev av:=@wpAny_bind
abbrev jt:=@wpAny_pure
abbrev D7:=@Nat.not_lt
abbrev Qn:=@wpAny_mono
abbrev Tf:=@wpAny_Name
abbrev Zv:=@wpOwn_bind
abbrev ut:=@piece_app
abbrev dj:=@or_false
abbrev b4:=@if_neg
abbrev jW:=@if_pos
noncomputable abbrev ae8:=Nat→Nat
def apL (l r:List Nat):List Nat:=List.rec r (fun a z h=>a :: h) l
noncomputable def swN {A:Type} (l:List (Nat × A)) (d:A) (j:Nat):A:=@List.rec (Nat × A) (fun z=>A) d (fun p z h=>Bool.rec h p.2 (Nat.beq j p.1)) l
noncomputable def uq0:List Nat:=by walk_at "#%If<emf@dxJdu4eC*"
noncomputable def uq1:List Nat:=by walk_at "##f<krdxJdu4eC*"
noncomputable def uq2:List Nat:=by walk_at "#o>2i1f[ookaoq"
noncomputable def uq3:List Nat:=by walk_at "#o>2i1f[oom-oq"
noncomputable def uq4:List Nat:=by walk_at "#ejhkf="
noncomputable def uq5:List Nat:=by walk_at "#iQ*kblC$"
noncomputable def uq6:List Nat:=by walk_at "#iQf=lC4l>"
noncomputable def uq7:List Nat:=by walk_at "#iQf=lC$"
noncomputable def uq8:List Nat:=by walk_at "#iQek$Vf;g8)"
noncomputable def uq9:List Nat:=by walk_at "#iQW1$&ek,6g8)"
noncomputable def aeN:List Nat:=by walk_at "#iQW1$&ek,"
noncomputable def acR:List Nat:=by walk_at "#n$>fs>["
noncomputable def ad0:List Nat:=by walk_at "#n$m#hdfsj)o$'"
noncomputable def ad6:List Nat:=by walk_at "#n$m#hdfsKdmdPDfsj)o$'"
noncomputable def aew:List Nat:=by walk_at "##NlfBXn0#Xf0I#e^Ej'ktktktf9nWU%"
noncomputable def adp:List Nat:=by walk_at "#l)nji4"
noncomputable def acW:List Nat:=by walk_at "#oKmSi4"
noncomputable def acX:List Nat:=by walk_at "#oBj&"
noncomputable def ac5:List Nat:=by walk_at "#kvB$"
noncomputable def aek:List Nat:=by walk_at "#kvjhj="
noncomputable def aes:List Nat:=by walk_at "#kvjh#nf"
noncomputable def aeu:List Nat:=by walk_at "#nrnffJ"
noncomputable def aex:List Nat:=by walk_at "#nrnfJ"
noncomputable def acS:List Nat:=[0,1,2,3,4,5,6,7]
noncomputable def aec:List Nat:=by walk_at "#ilia"
noncomputable def ad9:List Nat:=by walk_at "#k=`7i<"
noncomputable def ad7:List Nat:=by walk_at "#k=`7"
noncomputable def adT:List Nat:=by walk_at "#m[i<"
noncomputable def ad1:List Nat:=by walk_at "#m["
noncomputable def adW:List Nat:=by walk_at "#m[`9i<"
noncomputable def ad5:List Nat:=by walk_at "#m[`9"
noncomputable def aeI:List Nat:=by walk_at "#*er.=e?ksdX0ksEkslBN2lB0ksee5(Ene"
noncomputable def acY:List Nat:=by walk_at "#*er.=e?ksdX"
noncomputable def aeG:List Nat:=by walk_at "#eTd}"
noncomputable def aeM:List Nat:=by walk_at "#d]f*"
noncomputable def adV:List Nat:=by walk_at "#d]f'"
noncomputable def aeV:List Nat:=by walk_at "#d]f("
noncomputable def adU:List Nat:=by walk_at "#e_f*"
noncomputable def acO:List Nat:=by walk_at "#e_f'"
noncomputable def ae3:List Nat:=by walk_at "#e_f("
noncomputable def aeH:List Nat:=by walk_at "#^f*"
noncomputable def adS:List Nat:=by walk_at "#^f'"
noncomputable def aet:List Nat:=by walk_at "#^f("
noncomputable def aeK:List Nat:=by walk_at "#_f*"
noncomputable def adZ:List Nat:=by walk_at "#_f("
noncomputable def aey:List Nat:=by walk_at "#gjf*"
noncomputable def aee:List Nat:=by walk_at "#gjf'"
noncomputable def aeg:List Nat:=by walk_at "#gjf("
noncomputable def adY:List Nat:=by walk_at "#gxf*"
noncomputable def aem:List Nat:=by walk_at "#gxf'"
noncomputable def aeX:List Nat:=by walk_at "#gxf("
noncomputable def ad2:List Nat:=by walk_at "#gvf*"
noncomputable def aeU:List Nat:=by walk_at "#gvf("
noncomputable def aep:List Nat:=by walk_at "#gwf*"
noncomputable def ahB:List Nat:=by walk_at "#gwf'"
noncomputable def aei:List Nat:=by walk_at "#gwf("
noncomputable def aeL:List Nat:=by walk_at "#^j~"
noncomputable def aed:List Nat:=by walk_at "#^j|"
noncomputable def ae1:List Nat:=by walk_at "#^j}"
noncomputable def adj:List Nat:=by walk_at "#^jx"
noncomputable def aeP:List Nat:=by walk_at "#^jv"
noncomputable def ad8:List Nat:=by walk_at "#^jw"
noncomputable def aeT:List Nat:=by walk_at "#^j{"
noncomputable def ade:List Nat:=by walk_at "#^jy"
noncomputable def aeY:List Nat:=by walk_at "#^jz"
noncomputable def adt:List Nat:=by walk_at "#_j~"
noncomputable def aeZ:List Nat:=by walk_at "#_j|"
noncomputable def adx:List Nat:=by walk_at "#_j}"
noncomputable def ado:List Nat:=by walk_at "#_jx"
noncomputable def aef:List Nat:=by walk_at "#_jw"
noncomputable def adw:List Nat:=by walk_at "#_j{"
noncomputable def aeq:List Nat:=by walk_at "#_jy"
noncomputable def ad3:List Nat:=by walk_at "#_jz"
noncomputable def ae0:List Nat:=by walk_at "#gjj~"
noncomputable def adb:List Nat:=by walk_at "#gjj|"
noncomputable def aez:List Nat:=by walk_at "#gjj}"
noncomputable def adq:List Nat:=by walk_at "#gjjx"
noncomputable def aeQ:List Nat:=by walk_at "#gjjv"
noncomputable def ac9:List Nat:=by walk_at "#gjjw"
noncomputable def aeB:List Nat:=by walk_at "#gjj{"
noncomputable def aeC:List Nat:=by walk_at "#gjjy"
noncomputable def aeA:List Nat:=by walk_at "#gjjz"
noncomputable def ad4:List Nat:=by walk_at "#gxj~"
noncomputable def aeO:List Nat:=by walk_at "#gxj|"
noncomputable def adv:List Nat:=by walk_at "#gxj}"
noncomputable def aeS:List Nat:=by walk_at "#gxjx"
noncomputable def aea:List Nat:=by walk_at "#gxjv"
noncomputable def aeW:List Nat:=by walk_at "#gxjw"
noncomputable def adi:List Nat:=by walk_at "#gxj{"
noncomputable def aer:List Nat:=by walk_at "#gxjy"
noncomputable def adn:List Nat:=by walk_at "#gxjz"
noncomputable def aeR:List Nat:=by walk_at "#gvj~"
noncomputable def adl:List Nat:=by walk_at "#gvj|"
noncomputable def adm:List Nat:=by walk_at "#gvj}"
noncomputable def aev:List Nat:=by walk_at "#gvjx"
noncomputable def adr:List Nat:=by walk_at "#gvjw"
noncomputable def aeh:List Nat:=by walk_at "#gvj{"
noncomputable def aeb:List Nat:=by walk_at "#gvjy"
noncomputable def aen:List Nat:=by walk_at "#gvjz"
noncomputable def adh:List Nat:=by walk_at "#gwj~"
noncomputable def adD:List Nat:=by walk_at "#gwj|"
noncomputable def ac2:List Nat:=by walk_at "#gwj}"
noncomputable def adK:List Nat:=by walk_at "#gwjx"
noncomputable def acV:List Nat:=by walk_at "#gwjv"
noncomputable def adC:List Nat:=by walk_at "#gwjw"
noncomputable def adA:List Nat:=by walk_at "#gwj{"
noncomputable def acT:List Nat:=by walk_at "#gwjy"
noncomputable def adH:List Nat:=by walk_at "#gwjz"
noncomputable def ady:List Nat:=by walk_at "#fDdunZ"
noncomputable def acQ:List Nat:=by walk_at "#komiF"
noncomputable def adE:List Nat:=by walk_at "#Jmi*"
noncomputable def adQ:List Nat:=by walk_at "#ie,i6("
noncomputable def acZ:List Nat:=by walk_at "#mZ"
noncomputable def adM:List Nat:=by walk_at "#mZmh"
noncomputable def ac3:List Nat:=by walk_at "#mZ["
noncomputable def adO:List Nat:=by walk_at "#mZ[mh"
noncomputable def w0:List Nat:=by walk_at "#k<l:"
noncomputable def acP:List Nat:=by walk_at "#k<l:mh"
noncomputable def ac7:List Nat:=by walk_at "#j2$"
noncomputable def ac8:List Nat:=by walk_at "#j2l`$"
noncomputable def adP:List Nat:=by walk_at "#opo("
noncomputable def adN:List Nat:=by walk_at "#ophL"
noncomputable def adI:List Nat:=by walk_at "#n{`/03`@`?`9ADV"
noncomputable def ac0:List Nat:=by walk_at "#n{0DV8`9`7&*,"
noncomputable def adJ:List Nat:=by walk_at "#eqj3mU-gXl%h[9eyeyeyeyeym0m0m0m0e]Oj=&f`hhmkmkmkmk7n@n@n@jbe7g'&e7g'iyl%h09m7m7hufbhunFnFnFe3fyfcit`Te|#k}mPmPmPmPe|`ZlLlLlLlLMe]ij&+"
noncomputable def adz:List Nat:=by walk_at "#eqhL-eSeSl%8ei9k$k$k$iinpnpnpeSOj=1g3#H`Dmomomomo`H1mQmQmQl%Ml69i;LM@Ml6l6?M#eN7eSmQ+"
noncomputable def adF:List Nat:=by walk_at "#oS#+k#?o+grhjkVnini+"
noncomputable def ada:List Nat:=by walk_at "#oSB+l%o+grgrkVni+"
noncomputable def adB:List Nat:=by walk_at "#oimU+"
noncomputable def adG:List Nat:=by walk_at "#h3&"
def adL:List Nat:=by walk_at "#imXiB-jl%nejA3l:.m&&dwj?dbjjlslsgme-"
noncomputable def J0:List Nat:=[115,101,108,102]
noncomputable def J1:List Nat:=by walk_at "$pagebase.nodes"
noncomputable def J2:List Nat:=[118,97,108,117,101]
noncomputable def J3:List Nat:=by walk_at "$__init__"
noncomputable def J4:List Nat:=[114,111,119]
noncomputable def J5:List Nat:=[108,97,98,101,108]
noncomputable def J6:List Nat:=[118,97,108,117,101,115]
noncomputable def J7:List Nat:=[101,120,112,114]
noncomputable def J8:List Nat:=[111,112]
noncomputable def J9:List Nat:=by walk_at "$__doc__"
noncomputable def J10:List Nat:=[86,97,108,117,101]
noncomputable def J11:List Nat:=[116,97,114,103,101,116]
noncomputable def J12:List Nat:=by walk_at "$__static_attributes__"
noncomputable def J13:List Nat:=[72,97,108,116]
noncomputable def J14:List Nat:=by walk_at "$pagebase.code_operators"
noncomputable def J15:List Nat:=by walk_at "$negated"
noncomputable def J16:List Nat:=by walk_at "$collation"
noncomputable def J17:List Nat:=by walk_at "$__name__"
noncomputable def J18:List Nat:=[115,101,108,101,99,116]
noncomputable def J19:List Nat:=by walk_at "$pagebase.code_expr"
noncomputable def J20:List Nat:=by walk_at "$OpenEphemeral"
noncomputable def J21:List Nat:=[104,101,108,100]
noncomputable def J22:List Nat:=[67,111,112,121]
noncomputable def J23:List Nat:=[82,101,116,117,114,110]
noncomputable def J24:List Nat:=[111,110,101]
noncomputable def J25:List Nat:=[101,110,100]
noncomputable def J26:List Nat:=[108,101,102,116]
noncomputable def J27:List Nat:=by walk_at "$IdxInsert"
noncomputable def J28:List Nat:=by walk_at "$Affinity"
noncomputable def J29:List Nat:=by walk_at "$pagebase.program"
noncomputable def J30:List Nat:=[98,105,110,97,114,121]
noncomputable def J31:List Nat:=by walk_at "$law_nt0134_01"
noncomputable def J32:List Nat:=[112,108,97,99,101]
noncomputable def J33:List Nat:=[70,111,117,110,100]
noncomputable def J34:List Nat:=[73,115,78,117,108,108]
noncomputable def J35:List Nat:=[119,111,114,100]
noncomputable def J36:List Nat:=by walk_at "$program"
noncomputable def J37:List Nat:=[114,105,103,104,116]
noncomputable def J38:List Nat:=[85,110,97,114,121]
noncomputable def J39:List Nat:=[71,111,116,111]
noncomputable def J40:List Nat:=[82,101,119,105,110,100]
noncomputable def J41:List Nat:=by walk_at "$MakeRecord"
noncomputable def J42:List Nat:=[99,111,108,117,109,110]
noncomputable def J43:List Nat:=[115,111,117,114,99,101]
noncomputable def J47:List Nat:=by walk_at "$integer"
noncomputable def J44:List Nat:=[79,110,99,101]
noncomputable def J45:List Nat:=[111,116,104,101,114]
noncomputable def J46:List Nat:=[97,116]
noncomputable def J48:List Nat:=[71,111,115,117,98]
noncomputable def J49:List Nat:=[111,112,115]
noncomputable def J50:List Nat:=by walk_at "$__weakref__"
noncomputable def J51:List Nat:=[116,111,108,100]
noncomputable def J52:List Nat:=[111,114,100,101,114]
noncomputable def J53:List Nat:=by walk_at "$affinity"
noncomputable def J54:List Nat:=[78,117,108,108]
noncomputable def J55:List Nat:=[104,105,110,116,115]
noncomputable def J56:List Nat:=by walk_at "$pagebase.errors"
noncomputable def J57:List Nat:=[108,105,109,105,116]
noncomputable def J58:List Nat:=[101,120,105,115,116,115]
noncomputable def J59:List Nat:=[110,111,99,97,115,101]
noncomputable def J60:List Nat:=by walk_at "$__dict__"
noncomputable def J61:List Nat:=[98,111,100,121]
noncomputable def J62:List Nat:=by walk_at "$pagebase.expr_tools"
noncomputable def J63:List Nat:=[111,102,102,115,101,116]
noncomputable def J64:List Nat:=[115,99,114,105,112,116]
noncomputable def J65:List Nat:=[115,101,116,115]
noncomputable def J80:List Nat:=[116,101,120,116]
noncomputable def J66:List Nat:=by walk_at "$aggregates"
noncomputable def J67:List Nat:=[116,97,98,108,101]
noncomputable def J68:List Nat:=by walk_at "$catalog"
noncomputable def J69:List Nat:=[65,100,100,73,110,116]
noncomputable def J70:List Nat:=[116,117,114,110]
noncomputable def J71:List Nat:=[99,117,114,115,111,114]
noncomputable def J74:List Nat:=by walk_at "$planner"
noncomputable def J75:List Nat:=[115,105,100,101,115]
noncomputable def J77:List Nat:=by walk_at "$registers"
noncomputable def J78:List Nat:=by walk_at "$bindings"
noncomputable def J81:List Nat:=[111,110,99,101]
noncomputable def J82:List Nat:=by walk_at "$numeric"
noncomputable def J83:List Nat:=by walk_at "$pagebase.records"
noncomputable def J84:List Nat:=[100,101,112,116,104]
noncomputable def J72:List Nat:=[50]
noncomputable def J85:List Nat:=by walk_at "$selector"
noncomputable def J86:List Nat:=[110,117,109,98,101,114]
noncomputable def J73:List Nat:=[49]
noncomputable def J87:List Nat:=by walk_at "$results"
noncomputable def J88:List Nat:=[110,97,109,101]
noncomputable def J76:List Nat:=[97]
noncomputable def J90:List Nat:=by walk_at "$outputs"
noncomputable def J79:List Nat:=[48]
noncomputable def J91:List Nat:=by walk_at "$counter"
noncomputable def J92:List Nat:=[111,117,116,101,114]
noncomputable def J93:List Nat:=[114,111,119,95,111,102]
noncomputable def J94:List Nat:=[99]
noncomputable def J96:List Nat:=by walk_at "$pagebase.code_functions"
noncomputable def J97:List Nat:=[102,111,117,110,100]
noncomputable def J98:List Nat:=[114,101,112,114]
noncomputable def J99:List Nat:=[111,117,116,112,117,116]
noncomputable def J89:List Nat:=[65]
noncomputable def aaa:List Nat:=[100,117,101]
noncomputable def Z9:List Nat:=[98,97,115,101]
noncomputable def Wm:List Nat:=by walk_at "$/claim/cut.py"
noncomputable def V3:List Nat:=[105,110,102,111]
noncomputable def XR:List Nat:=by walk_at "$register"
noncomputable def aaJ:List Nat:=by walk_at "$collations"
noncomputable def VS:List Nat:=by walk_at "$descending"
noncomputable def J95:List Nat:=[98]
noncomputable def Vd:List Nat:=by walk_at "$_law_run"
noncomputable def Wh:List Nat:=by walk_at "$InSelect"
noncomputable def ZR:List Nat:=[73,110,76,105,115,116]
noncomputable def Y0:List Nat:=[114,101,99,111,114,100]
noncomputable def Zu:List Nat:=[69,120,112,114]
noncomputable def WO:List Nat:=by walk_at "$_law_select"
noncomputable def Vs:List Nat:=[112,97,115,116]
noncomputable def Wp:List Nat:=by walk_at "$rows_of"
noncomputable def Xc:List Nat:=by walk_at "$Program"
noncomputable def Zn:List Nat:=[67,97,115,101]
noncomputable def Xb:List Nat:=[105,110,116]
noncomputable def X1:List Nat:=[95,119,97,108,108]
noncomputable def XK:List Nat:=by walk_at "$resolved"
noncomputable def Wy:List Nat:=by walk_at "$_law_take"
noncomputable def V9:List Nat:=[69,120,105,115,116,115]
noncomputable def Yf:List Nat:=[102,105,114,115,116]
noncomputable def ZK:List Nat:=by walk_at "$collation_of"
noncomputable def Xm:List Nat:=by walk_at "$affinity_of_type"
noncomputable def aa1:List Nat:=[83,101,108,101,99,116]
noncomputable def YH:List Nat:=[83,99,97,108,97,114]
noncomputable def We:List Nat:=by walk_at "$_law_led"
noncomputable def VT:List Nat:=by walk_at "$ExpressionCoder"
noncomputable def YN:List Nat:=by walk_at "$FunctionCoder"
noncomputable def ak7:List Nat:=by walk_at "$_law_one"
noncomputable def YM:List Nat:=by walk_at "$SqlError"
noncomputable def Yb:List Nat:=[77,97,116,99,104]
noncomputable def aaQ:List Nat:=[102,111,108,100]
noncomputable def abf:List Nat:=[66,105,110,97,114,121]
noncomputable def V2:List Nat:=by walk_at "$Collate"
noncomputable def ZT:List Nat:=by walk_at "$_law_class"
noncomputable def YL:List Nat:=[105,110]
noncomputable def abj:List Nat:=[67,97,108,108]
noncomputable def XQ:List Nat:=by walk_at "$column_collation"
noncomputable def ak9:List Nat:=by walk_at "$opposite"
noncomputable def Ww:List Nat:=by walk_at "$_law_put"
noncomputable def YU:List Nat:=by walk_at "$is_outer"
noncomputable def W5:List Nat:=by walk_at "$KeyInfo"
noncomputable def Xa:List Nat:=[108,97,119]
noncomputable def Xf:List Nat:=by walk_at "$Literal"
noncomputable def Zc:List Nat:=by walk_at "$affinity_of"
noncomputable def abk:List Nat:=by walk_at "$_law_jumps"
noncomputable def Vn:List Nat:=[99,111,100,101,114]
noncomputable def Zh:List Nat:=[78,97,109,101]
noncomputable def Y8:List Nat:=by walk_at "$fold_ascii"
noncomputable def Vb:List Nat:=by walk_at "$comparison_affinities"
noncomputable def ZO:List Nat:=by walk_at "$Between"
noncomputable def aaZ:List Nat:=[78,111,100,101]
noncomputable def Ym:List Nat:=by walk_at "$_law_name"
noncomputable def ZF:List Nat:=by walk_at "$PagebaseError"
noncomputable def abg:List Nat:=[67,111,100,101,114]
noncomputable def YI:List Nat:=by walk_at "$comparison_collation"
noncomputable def aaG:List Nat:=by walk_at "$_law_due"
noncomputable def ZJ:List Nat:=by walk_at "$OperatorCoder"
noncomputable def ZX:List Nat:=by walk_at "$explicit_collation"
noncomputable def Wf:List Nat:=by walk_at "$MisuseError"
noncomputable def Yd:List Nat:=by walk_at "$_law_is_in"
noncomputable def Yy:List Nat:=by walk_at "$columns"
noncomputable def Y2:List Nat:=by walk_at "$_law_written"
noncomputable def ak8:List Nat:=by walk_at "$call_collation"
noncomputable def YV:List Nat:=[67,97,115,116]
noncomputable def ak5:List Nat:=by walk_at "$Variable"
noncomputable def Zp:List Nat:=by walk_at "$is_comparison"
noncomputable def VY:List Nat:=by walk_at "$_law_pool"
noncomputable def Ys:List Nat:=by walk_at "$law.<locals>."
noncomputable def Yw:List Nat:=by walk_at "$type_name"
noncomputable def aja:List Nat:=by walk_at "$null_jumps"
noncomputable def ajp:List Nat:=by walk_at "$destination"
noncomputable def ajj:List Nat:=[119,114,105,116,101,115]
noncomputable def agn:List Nat:=[99,97,108,108]
noncomputable def agC:List Nat:=[110,111,116,32,105,110]
noncomputable def afu:List Nat:=[108,97,98,101,108,115]
noncomputable def agg:List Nat:=[108,111,119]
noncomputable def agk:List Nat:=by walk_at "$cursors"
noncomputable def aah:List Nat:=[98,108,111,98]
noncomputable def agy:List Nat:=[107,105,110,100]
noncomputable def agp:List Nat:=by walk_at "$__main__"
noncomputable def ahk:List Nat:=[110,111,116]
noncomputable def afA:List Nat:=[104,105,103,104]
noncomputable def afP:List Nat:=[116,114,117,116,104]
noncomputable def afC:List Nat:=by walk_at "$affinities"
noncomputable def ahb:List Nat:=[115,111,109,101]
noncomputable def afU:List Nat:=[115,108,111,116,115]
noncomputable def agM:List Nat:=by walk_at "$arguments"
noncomputable def agw:List Nat:=by walk_at "$operand"
noncomputable def agF:List Nat:=[103,101,116]
noncomputable def agl:List Nat:=by walk_at "$pagebase.values"
noncomputable def ag4:List Nat:=by walk_at "$next_label"
noncomputable def af4:List Nat:=by walk_at "$not exists"
noncomputable def agV:List Nat:=[73,100,120,71,84]
noncomputable def agt:List Nat:=[110,117,108,108]
noncomputable def ago:List Nat:=[104,101,114,101]
noncomputable def ag8:List Nat:=by walk_at "$message"
noncomputable def afh:List Nat:=[112,49]
noncomputable def afl:List Nat:=by walk_at "$IntegrityRows"
noncomputable def afE:List Nat:=by walk_at "$in_list"
noncomputable def afQ:List Nat:=[107]
noncomputable def ag5:List Nat:=by walk_at "$pattern"
noncomputable def af1:List Nat:=by walk_at "$binding"
noncomputable def agm:List Nat:=by walk_at "$match_text"
noncomputable def afz:List Nat:=[98,97,99,107]
noncomputable def agA:List Nat:=[112,50]
noncomputable def afO:List Nat:=by walk_at "$NUMERIC_AFFINITIES"
noncomputable def afo:List Nat:=[99,97,115,101]
noncomputable def af6:List Nat:=[119,104,101,110,115]
noncomputable def aho:List Nat:=by walk_at "$is_null"
noncomputable def afj:List Nat:=by walk_at "$SorterNext"
noncomputable def ahm:List Nat:=[115,108,111,116]
noncomputable def afg:List Nat:=by walk_at "$__firstlineno__"
noncomputable def ag3:List Nat:=[73,100,120,71,69]
noncomputable def afK:List Nat:=[112,108,97,110]
noncomputable def af3:List Nat:=by walk_at "$jump_unless"
noncomputable def agE:List Nat:=by walk_at "$__module__"
noncomputable def agK:List Nat:=by walk_at "$following"
noncomputable def aha:List Nat:=by walk_at "$between"
noncomputable def agz:List Nat:=[101,120,112,114,115]
noncomputable def ag2:List Nat:=by walk_at "$sources"
noncomputable def agu:List Nat:=by walk_at "$first_known"
noncomputable def ahl:List Nat:=by walk_at "$in_select"
noncomputable def afx:List Nat:=[115,116,97,114]
noncomputable def af7:List Nat:=[116,104,101,110]
noncomputable def agS:List Nat:=by walk_at "$end_once"
noncomputable def agf:List Nat:=[83,80,65,67,69,83]
noncomputable def ag1:List Nat:=[83,101,101,107,76,84]
noncomputable def agQ:List Nat:=by walk_at "$NoConflict"
noncomputable def afD:List Nat:=[74,85,77,80,83]
noncomputable def afp:List Nat:=[102,105,110,105,115,104]
noncomputable def afL:List Nat:=by walk_at "$expression"
noncomputable def ahj:List Nat:=by walk_at "$jump_compared"
noncomputable def agT:List Nat:=[99,111,117,110,116]
noncomputable def afk:List Nat:=[97,100,100]
noncomputable def agJ:List Nat:=by walk_at "$<module>"
noncomputable def agZ:List Nat:=[73,100,120,76,84]
noncomputable def agW:List Nat:=[105,116,101,109,115]
noncomputable def agx:List Nat:=[112,52]
noncomputable def afJ:List Nat:=[112,51]
noncomputable def agL:List Nat:=by walk_at "$key_set"
noncomputable def ahh:List Nat:=by walk_at "$NotExists"
noncomputable def agD:List Nat:=by walk_at "$jump_if"
noncomputable def agc:List Nat:=by walk_at "$SorterSort"
noncomputable def agU:List Nat:=[101,115,99,97,112,101]
noncomputable def agq:List Nat:=by walk_at "$routine"
noncomputable def ahe:List Nat:=[73,100,120,76,69]
noncomputable def afB:List Nat:=by walk_at "$jump_null"
noncomputable def af8:List Nat:=by walk_at "$begin_once"
noncomputable def agv:List Nat:=by walk_at "$is_descending"
noncomputable def agR:List Nat:=[83,101,101,107,76,69]
noncomputable def afR:List Nat:=[104,105,116]
noncomputable def afH:List Nat:=by walk_at "$NotFound"
noncomputable def afS:List Nat:=[115,99,97,108,97,114]
noncomputable def afs:List Nat:=by walk_at "$distinct"
noncomputable def ahd:List Nat:=[109,97,110,121]
noncomputable def af9:List Nat:=by walk_at "$index_column"
noncomputable def afW:List Nat:=[110,101,103,97,116,101]
noncomputable def agX:List Nat:=by walk_at "$compared"
noncomputable def Enu (V:Type):Type:={ l:List V // ∀ v,v∈l }
def prL {A B:Type} (x:A) (l:List B) (r:List (A × B)):List (A × B):=@List.rec B (fun z=>List (A × B)) r (fun y z ih=>(x,y) :: ih) l
def prE {A B:Type} (a:List A) (b:List B):List (A × B):=@List.rec A (fun z=>List (A × B)) [] (fun x z ih=>prL x b ih) a
theorem amP {A B:Type} (x:A) (r:List (A × B)) {y:B} {l:List B} (h:y∈l):(x,y)∈prL x l r:=by
 induction h with
 | head=>exact .head _
 | tail _ _ ih=>exact .tail _ ih
theorem amO {A B:Type} (x:A) (r:List (A × B)) {z:A × B} (h:z∈r) (l:List B):z∈prL x l r:=by
 induction l with
 | nil=>exact h
 | cons _ _ ih=>exact .tail _ ih
theorem amQ {A B:Type} {b:List B} {y:B} (c:y∈b) {x:A} {a:List A} (h:x∈a):(x,y)∈prE a b:=by
 induction h with
 | head=>exact amP _ _ c
 | tail _ _ ih=>exact amO _ _ ih b
def Enu.pr {A B:Type} (a:Enu A) (b:Enu B):Enu (A × B):=⟨prE a.1 b.1,fun v=>amQ (b.2 v.2) (a.2 v.1)⟩
noncomputable def amT {A B:Type} (f:A→B) (l:List A):List B:=@List.rec A (fun z=>List B) [] (fun x z ih=>f x :: ih) l
noncomputable def amS {A B:Type} (f:A→B) (l:List A):List B:=@List.rec A (fun z=>List B) [] (fun x z ih=>f x :: ih) l
theorem amR {A B:Type} {f g:A→B} {l:List A} (h:amT f l=amS g l) (x:A) (m:x∈l):f x=g x:=by
 revert h
 induction m with
 | head=>intro h;exact (List.cons.inj h).1
 | tail _ _ ih=>intro h;exact ih (List.cons.inj h).2
theorem bnd {P:Nat→Prop} {n:Nat} (b:P 0) (h:∀ j,j < n→P (j + 1)):∀ j,j < n + 1→P j:=fun j=>Nat.casesOn j (fun z=>b) fun j a=>h j (Nat.lt_of_succ_lt_succ a)
theorem anF {P:Nat→Prop}:∀ j,j < 0→P j:=fun j h=>absurd h (Ut j)
theorem tB {V:Type} {l:List V} (ix:V→Nat) (h:∀ v,l[ix v]? = some v) (v:V):v∈l:=alU (h v)
noncomputable def amJ:Enu Bool:=⟨[false,true],by intro v;cases v<;>repeat constructor⟩
theorem amW {A B:Type} (e:Enu A) (f g:A→B) (v:A) (h:amT f e.1=amS g e.1:=by kernel_rfl):f v=g v:=amR h v (e.2 v)
theorem am8 {A B:Type} (e:Enu A) (f g:A→B) (h:amT f e.1=amS g e.1):∀ v,f v=g v:=fun v=>amR h v (e.2 v)
noncomputable def amZ {A:Type} (f:A→Bool) (l:List A):Bool:=@List.rec A (fun z=>Bool) true (fun x z ih=>f x && ih) l
theorem amX {A:Type} {f:A→Bool} {l:List A} (h:amZ f l=true) (x:A) (m:x∈l):f x=true:=by
 revert h
 induction m with
 | head=>intro h;exact (iR.mp h).1
 | tail _ _ ih=>intro h;exact ih (iR.mp h).2
theorem Enu.all {A:Type} (e:Enu A) (f:A→Bool) (v:A) (h:amZ f e.1=true:=by kernel_rfl):f v=true:=amX h v (e.2 v)
theorem Enu.isEq {A:Type} (e:Enu A) (ix:A→Nat) (c:∀ v,e.1[ix v]? = some v) (is:A→A→Bool) {a b:A} (h:is a b=true) (k:amZ (fun x=>amZ (fun y=>!is x y || Nat.beq (ix x) (ix y)) e.1) e.1=true:=by kernel_rfl):a=b:=by
 have k:=e.all _ b (e.all _ a k)
 rw [h] at k
 have q:=c a
 rw [Nat.eq_of_beq_eq_true k] at q
 exact Option.some.inj (q.symm.trans (c b))
theorem anc {A:Type} {P:A→Prop}:∀ x∈([]:List A),P x:=fun z h=>nomatch h
theorem anb {A:Type} {P:A→Prop} {a:A} {l:List A} (h:P a) (t:∀ x∈l,P x):∀ x∈a :: l,P x:=fun x m=>(b9.mp m).elim (fun e=>e ▸ h) (t x)
def am1:List Nat→List Nat→Bool
 | [],[]=>true
 | a :: l,b :: r=>Nat.beq a b && am1 l r
 | _,_=>false
theorem am2 {l r:List Nat} (h:am1 l r=true):l=r:=by
 revert r
 induction l with
 | nil=>
  intro r h
  cases r with
  | nil=>rfl
  | cons=>exact Bool.noConfusion h
 | cons a l ih=>
  intro r h
  cases r with
  | nil=>exact Bool.noConfusion h
  | cons b r=>
   obtain ⟨c,d⟩:=iR.mp (show (Nat.beq a b && am1 l r)=true from h)
   rw [Nat.eq_of_beq_eq_true c,ih d]
theorem exL {A:Type} (X:A) {G:Prop} (k:∀ p,p=X→G):G:=k X rfl
theorem ex2 {A:Type} {B:Type} {P:A→B→Prop} {G:Prop} (h:∃ a b,P a b) (k:∀ a b,P a b→G):G:=by
 obtain ⟨a,b,h⟩:=h
 exact k _ _ h
theorem an2 {A B T G:Prop} (h:A∧B∧T) (k:A→B→T→G):G:=k h.1 h.2.1 h.2.2
theorem ex3 {A:Type} {B C:Type} {P:A→B→C→Prop} {G:Prop} (h:∃ a b c,P a b c) (k:∀ a b c,P a b c→G):G:=by
 obtain ⟨a,b,c,h⟩:=h
 exact k _ _ _ h
theorem an3 {A B C T G:Prop} (h:A∧B∧C∧T) (k:A→B→C→T→G):G:=k h.1 h.2.1 h.2.2.1 h.2.2.2
theorem ex4 {A:Type} {B C D:Type} {P:A→B→C→D→Prop} {G:Prop} (h:∃ a b c d,P a b c d) (k:∀ a b c d,P a b c d→G):G:=by
 obtain ⟨a,b,c,d,h⟩:=h
 exact k _ _ _ _ h
theorem an4 {A B C D T G:Prop} (h:A∧B∧C∧D∧T) (k:A→B→C→D→T→G):G:=k h.1 h.2.1 h.2.2.1 h.2.2.2.1 h.2.2.2.2
theorem elA {V A L:Type} {R:V→V→Prop} {E:V→V→A} {K:V→V→L} {Q:A→L→Prop} (k:∀ n t,R n t→Q (E n t) (K n t)) (e:A) (l:L) (h:∃ n t,R n t∧e=E n t∧l=K n t):Q e l:=by
 obtain ⟨n,t,hr,rfl,rfl⟩:=h
 exact k n t hr
theorem elB {V A L:Type} {E:V→A} {K:V→L} {Q:A→L→Prop} (k:∀ t,Q (E t) (K t)) (e:A) (l:L) (h:∃ t,e=E t∧l=K t):Q e l:=by
 obtain ⟨t,rfl,rfl⟩:=h
 exact k t
theorem elC {V A L:Type} {R:V→V→Prop} {E:A} {K:V→V→L} {Q:A→L→Prop} (k:∀ n t,R n t→Q E (K n t)) (e:A) (l:L) (h:e=E∧∃ n t,R n t∧l=K n t):Q e l:=by
 obtain ⟨rfl,n,t,hr,rfl⟩:=h
 exact k n t hr
theorem elD {V A L:Type} {R:V→V→Prop} {E:V→V→A} {K:V→V→L} {G:L→L} {Q:A→L→Prop} (k:∀ n t,R n t→Q (E n t) (G (K n t))) (e:A) (l:L) (h:∃ a,l=G a∧∃ n t,R n t∧e=E n t∧a=K n t):Q e l:=by
 obtain ⟨a,rfl,n,t,hr,rfl,rfl⟩:=h
 exact k n t hr
inductive PX where
 | n
 | c (i:Nat) (t:PX)
 | l (i:Nat)
 | a (s t:PX)
noncomputable def anh {A:Type}:List (List A)→Nat→List A
 | [],_=>[]
 | x :: _,0=>x
 | _ :: l,n + 1=>anh l n
noncomputable def ang {A:Type}:List A→Nat→List A→List A
 | [],_,t=>t
 | x :: _,0,t=>x :: t
 | _ :: l,n + 1,t=>ang l n t
def PX.ev {A:Type} (L:List (List A)) (E:List A):PX→List A
 | .n=>[]
 | .c i t=>ang E i (t.ev L E)
 | .l i=>anh L i
 | .a s t=>s.ev L E++t.ev L E
def PX.fe:PX→List Nat
 | .n=>[]
 | .c i t=>i :: t.fe
 | .l _=>[]
 | .a s t=>s.fe++t.fe
def PX.fl:PX→List Nat
 | .n=>[]
 | .c _ t=>t.fl
 | .l i=>[i]
 | .a s t=>s.fl++t.fl
theorem ani {A:Type} (E:List A):∀ (i:Nat) (t:List A),ang E i t=ang E i []++t:=by
 induction E with
 | nil=>exact fun z z=>rfl
 | cons x E ih=>exact fun i t=>by cases i with
  | zero=>rfl
  | succ n=>exact ih n t
theorem PX.ev_perm {A:Type} (L:List (List A)) (E:List A) (p:PX):(p.ev L E).Perm (p.fe.flatMap (fun i=>ang E i [])++p.fl.flatMap (anh L)):=by
 induction p with
 | n=>exact .refl _
 | c i t ih=>
  show (ang E i (t.ev L E)).Perm ((i :: t.fe).flatMap (fun i=>ang E i [])++t.fl.flatMap (anh L))
  rw [ani,List.flatMap_cons,uG]
  exact .append_left _ ih
 | l i=>
  show (anh L i).Perm ([]++(anh L i++[]))
  rw [au]
  exact .refl _
 | a s t h1 h2=>
  show (s.ev L E++t.ev L E).Perm ((s.fe++t.fe).flatMap (fun i=>ang E i [])++(s.fl++t.fl).flatMap (anh L))
  rw [alX,alX]
  refine (h1.append h2).trans ?_
  rw [uG,uG]
  exact .append_left _ (List.perm_append_comm_assoc _ _ _)
theorem ane {A:Type} {L:List (List A)} {E:List A} (a b:PX) (h:(a.fe.isPerm b.fe && a.fl.isPerm b.fl)=true):(a.ev L E).Perm (b.ev L E):=by
 obtain ⟨c,d⟩:=iR.mp h
 exact (a.ev_perm L E).trans ((((List.isPerm_iff.mp c).flatMap_right _).append ((List.isPerm_iff.mp d).flatMap_right _)).trans (b.ev_perm L E).symm)
theorem anf {A:Type} {X Y U V:List A} (h:X.Perm Y) (k:(U++Y).Perm (V++X)):U.Perm V:=
 (List.perm_append_right_iff Y).mp (k.trans (alB V h))
section
inductive Tr where
 | nil
 | node (v:Option Obj) (l r:Tr)
noncomputable def Tr.get:Tr→Nat→Option Obj
 | .nil,_=>none
 | .node v l r,i=>match Nat.beq i 0 with
  | true=>v
  | false=>match Nat.beq (i % 2) 1 with
   | true=>l.get (i / 2)
   | false=>r.get (i / 2 - 1)
noncomputable def Tr.put:Nat→Tr→Nat→Obj→Tr
 | 0,t,_,_=>t
 | n + 1,.nil,i,o=>match Nat.beq i 0 with
  | true=>.node (some o) .nil .nil
  | false=>match Nat.beq (i % 2) 1 with
   | true=>.node none (Tr.put n .nil (i / 2) o) .nil
   | false=>.node none .nil (Tr.put n .nil (i / 2 - 1) o)
 | n + 1,.node v l r,i,o=>match Nat.beq i 0 with
  | true=>.node (some o) l r
  | false=>match Nat.beq (i % 2) 1 with
   | true=>.node v (Tr.put n l (i / 2) o) r
   | false=>.node v l (Tr.put n r (i / 2 - 1) o)
theorem dG (a b:Nat):Nat.beq a b=decide (a=b):=BT.beq_eq a b
theorem Tr.get_node (v:Option Obj) (l r:Tr) (i:Nat):(node v l r).get i=if i=0 then v else if i % 2=1 then l.get (i / 2) else r.get (i / 2 - 1):=by
 show (match Nat.beq i 0 with | true=>v | false=>match Nat.beq (i % 2) 1 with | true=>l.get (i / 2) | false=>r.get (i / 2 - 1))=_
 rw [dG,dG]
 by_cases h:i=0
 · simp [h]
 · by_cases q:i % 2=1<;>simp [h,q]
theorem Tr.put_nil (n:Nat) (i:Nat) (o:Obj):Tr.put (n + 1) .nil i o=Tr.put (n + 1) (.node none .nil .nil) i o:=rfl
theorem Tr.put_node (n:Nat) (v:Option Obj) (l r:Tr) (i:Nat) (o:Obj):Tr.put (n + 1) (.node v l r) i o =
  if i=0 then .node (some o) l r else if i % 2=1 then .node v (Tr.put n l (i / 2) o) r else .node v l (Tr.put n r (i / 2 - 1) o):=by
 show (match Nat.beq i 0 with | true=>Tr.node (some o) l r | false=>match Nat.beq (i % 2) 1 with | true=>.node v (Tr.put n l (i / 2) o) r | false=>.node v l (Tr.put n r (i / 2 - 1) o))=_
 rw [dG,dG]
 by_cases h:i=0
 · simp [h]
 · by_cases q:i % 2=1<;>simp [h,q]
theorem Tr.get_nilnode (i:Nat):(Tr.node none .nil .nil).get i=none:=by
 rw [Tr.get_node];repeat' split
 all_goals rfl
theorem Tr.get_put:∀ (n:Nat) (t:Tr) (i:Nat) (o:Obj),i + 1 < 2 ^ n→∀ j,(Tr.put n t i o).get j=if j=i then some o else t.get j
 | 0,_,i,_,h,_=>by simp at h
 | n + 1,t,i,o,h,j=>by
  have key:∀ v l r,(Tr.put (n + 1) (.node v l r) i o).get j=if j=i then some o else (Tr.node v l r).get j:=by
   intro v l r
   have d:2 ^ (n + 1)=2 * 2 ^ n:=by rw [Nat.pow_succ];lia
   rw [Tr.put_node]
   by_cases c:i=0
   · subst c
     rw [jW rfl,Tr.get_node,Tr.get_node]
     by_cases a:j=0<;>simp [a]
   · rw [b4 c]
     by_cases pi:i % 2=1
     · rw [jW pi,Tr.get_node,Tr.get_node]
       by_cases a:j=0
       · have:¬ (j=i):=by lia
         simp [a,Ne.symm c]
       · by_cases b:j % 2=1
         · rw [b4 a,jW b,Tr.get_put n l (i / 2) o (by lia) (j / 2),b4 a,jW b]
           by_cases e:j=i
           · subst e;simp
           · have:j / 2 ≠ i / 2:=by lia
             simp [e,this]
         · have:¬ (j=i):=fun e=>b (e ▸ pi)
           simp [a,b,this]
     · rw [b4 pi,Tr.get_node,Tr.get_node]
       by_cases a:j=0
       · simp [a,Ne.symm c]
       · by_cases b:j % 2=1
         · have:¬ (j=i):=fun e=>pi (e ▸ b)
           simp [a,b,this]
         · rw [b4 a,b4 b,Tr.get_put n r (i / 2 - 1) o (by lia) (j / 2 - 1),b4 a,b4 b]
           by_cases e:j=i
           · subst e;simp
           · have:j / 2 - 1 ≠ i / 2 - 1:=by lia
             simp [e,this]
  cases t with
  | nil=>
   rw [Tr.put_nil,key none .nil .nil,Tr.get_nilnode];rfl
  | node v l r=>exact key v l r
noncomputable def sv (l:List Nat):Str:=⟨⟨l⟩⟩
def dE (P:Params) (l:List Nat) (t:Nat) (v:Value):DictEntry:=⟨PyData.keyHash P (sv l),.str (sv l) t,v⟩
noncomputable def ab (xs:Array Value) (e:Nat):Obj:={ cls:=.type "list",data:=.seq xs e }
noncomputable def ky (d:Nat):Obj:={ cls:=.ref 157,dict:=some d }
def jF (P:Params) (tk:ae8) (o l c:Nat) (regs curs slots next:Value):Obj:={ cls:=.type "dict",data:=.dict ⟨[dE P J49 (tk 0) (.ref o),dE P Yy (tk 1) (.ref c),dE P J77 (tk 2) regs,dE P agk (tk 3) curs,dE P afU (tk 4) slots,dE P ajj (tk 5) (.bool false),dE P afu (tk 6) (.ref l),dE P ag4 (tk 7) next]⟩ 8 }
noncomputable abbrev XL:=List (Addr × Obj)
structure aa where
 p:Nat
 d:Nat
 o:Nat
 l:Nat
 c:Nat
 tk:Nat→Tok
 regs:Nat
 tr:Tok
 curs:Nat
 tc:Tok
 slots:Nat
 ts:Tok
 next:Nat
 tn:Tok
 e:Nat
 ops:XL
 labels:List (Nat × Tok × Nat × Tok)
 le:Nat
 n:Nat
 xt:XL
 hn:ops.length=n
noncomputable def aa.add (S:aa) (x:Addr × Obj):aa:={ S with e:=S.e + 1,ops:=S.ops++[x],n:=S.n + 1,hn:=by rw [ln,S.hn];rfl }
namespace aa
variable (P:Params) (S:aa)
def instO:Obj:=ky (S.d + 1158)
def dictO:Obj:=jF P S.tk (S.o + 1158) (S.l + 1158) (S.c + 1158) (.int (Int.ofNat S.regs) S.tr) (.int (Int.ofNat S.curs) S.tc) (.int (Int.ofNat S.slots) S.ts) (.int (Int.negSucc S.next) S.tn)
noncomputable def opsV:Array Value:=⟨S.ops.map fun x=>.ref x.1⟩
def opsO:Obj:=ab S.opsV S.e
noncomputable def labE (x:Nat × Tok × Nat × Tok):DictEntry:=⟨hashInt (Int.negSucc x.1),.int (Int.negSucc x.1) x.2.1,.int (Int.ofNat x.2.2.1) x.2.2.2⟩
def labelsO:Obj:={ cls:=.type "dict",data:=.dict ⟨S.labels.map labE⟩ S.le }
def cells:XL:=(S.p + 1158,S.instO) :: (S.d + 1158,S.dictO P) :: (S.o + 1158,S.opsO) :: (S.l + 1158,S.labelsO) :: (S.ops++S.xt)
end aa
noncomputable abbrev XT:=Option aa
def uU (P:Params):XT→XL
 | none=>[]
 | some S=>S.cells P
end
noncomputable abbrev prog:Program:=PySem.Challenge.pw_nt0134_01
noncomputable def D:Code→Sem Fin:=PySem.W.ZFast.zw11892475500146522536 PySem.W.ZFast.zw14364793385576792824
theorem Zd:denote table=D:=by
 rw [table_eq_tree,PySem.W.ZFast.ze11892475500146522536,PySem.W.ZFast.ze14364793385576792824];rfl
noncomputable def yz (t:Sem Fin):Sem Fin:=t.bind fun fin=>match fin with
 | .again c=>Sem.bind (enterFrame 0) fun z=>.pure (.again c)
 | .done f=>.pure (.done f)
def rl (fl:Bool) (t:Sem Fin):Sem Fin:=match fl with
 | true=>yz t
 | false=>t
def FV (a:Addr) (fd:FuncData) (args:Args) (b:List Stmt) (c:Str):Sem Fin:=
 Sem.bind (PySem.W.ZFast.zw9782568553167038054 fd args) fun d=>Sem.bind (PySem.W.ZFast.zw11113344188204177931 fd.scope fd.globals fd.closure d (c++(⟨⟨(by walk_at "$.<locals>.")⟩⟩:Str)) (some a) fd.code none fd.builtins) fun env=>.pure (.again (.func b env))
def U4 (a:Addr) (fd:FuncData) (args:Args) (b:List Stmt):Sem Fin:=match fd.code with
 | .none=>FV a fd args b fd.qualname
 | c=>Sem.bind (PySem.W.ZFast.zw6609576154772507232 c 1) fun x=>match x with
  | .str q _=>FV a fd args b q
  | _=>FV a fd args b fd.qualname
noncomputable def ad (I:ae8) (j:Nat):Nat:=I j + 1158
set_option genInjectivity true in
inductive OV where
 | a (x:Nat) | v (x:Value) | o (x:Option Obj) | c (x:Code) | b (x:Bool) | x (l:XT) | t (x:Sem Fin) | os (l:List Obj) | hb (x:Bool) | hv (x:Value) | none
structure Kf where
 fl:Bool
 c:Code
 k:Result→Sem Fin
inductive Out where
 | ret (r:Result) (T:Tr) (m i:Nat) (X:XT) (al ar:List OV)
 | again (c:Code) (T:Tr) (m i:Nat) (X:XT) (al ar:List OV)
 | cut (c:Code) (t:Sem Fin) (T:Tr) (m i:Nat) (X:XT) (al ar:List OV)
 | stop (n x:Nat)
noncomputable def flw:Bool→Value→Flow
 | true,_=>.next
 | false,v=>.ret v
structure zF where
 nx:Bool
 r:Value
 T:Tr
 m:Nat
 i:Nat
 X:XT
 or:List Nat
 al:List OV
 ar:List OV
noncomputable def tg (top:Tr) (b:Nat):Option Obj:=match Nat.blt b 1158 with
 | true=>top.get b
 | false=>none
theorem uJ {top:Tr} {b:Nat} {o:Obj} (h:tg top b=some o):b < 1158:=by
 unfold tg at h
 cases q:Nat.blt b 1158 with
 | true=>exact ag q
 | false=>rw [q] at h;cases h
structure Rep (w:World) (top:Tr) (h₀:Heap) (F:List Addr) (I:ae8) (T:Tr) (m:Nat) (X:XT) (h:Heap):Prop where
 inj:∀ i j,i < m→j < m→(T.get i).isSome=true→(T.get j).isSome=true→I i=I j→i=j
 own:∀ j o,T.get j=some o→j < m∧h.get? (ad I j)=some o
 dom:∀ j o,T.get j=some o→ad I j∈F∨h₀.objs.size≤ad I j
 xs:∀ p,p∈uU w.params X→h.get? p.1=some p.2∧1158≤p.1∧∀ j o,T.get j=some o→ad I j ≠ p.1
 xnd:((uU w.params X).map (·.1)).Nodup
 xdom:∀ p,p∈uU w.params X→p.1∈F∨h₀.objs.size≤p.1
 top:∀ b o,tg top b=some o→h.get? b=some o
 keep:∀ b o,h₀.get? b=some o→b ∉ F→h.get? b=some o
 size:h₀.objs.size≤h.objs.size
 base:1158≤h₀.objs.size
 room:m < 2 ^ 40 - 1
structure Ctx (A:Around) (d:Nat):Prop where
 handled:A.handled=none
 depth:A.depth + d≤999
 units:A.units + 10 * d≤9899
def aky (top:Tr) (h:Heap):Prop:=∀ b o,tg top b=some o→h.get? b=some o
def akC (top:Tr):Prop:=∀ h,aky top h→h.NoLimit
structure Sum (w:World) (top:Tr) where
 need:Nat
 run:(Nat→Nat)→(Nat→Nat)→Code→Tr→Nat→Nat→XT→List Nat→List OV→List OV→Option zF
 loc:∀ I O I' O' c T m i X or al ar so,run I O c T m i X or al ar=some so→(∀ j,j < so.m→I' j=I j)→(∀ j,j < so.i→O' j=O j)→run I' O' c T m i X or al ar=some so
 mono:∀ I O c T m i X or al ar so,run I O c T m i X or al ar=some so→m≤so.m∧i≤so.i
 obl:∀ I O c T m i X or al ar so,run I O c T m i X or al ar=some so→so.al=so.ar→al=ar
 ok:∀ (A:Around) (R:Result→Shared→Prop) (h₀:Heap) (F:List Addr) (I O:ae8) (c:Code) (T:Tr) (m i:Nat) (X:XT) (or:List Nat) (al ar:List OV) (h:Heap) (g:Array GenState) (d:Drawn) (tk:Nat) (os:OsState),
  Ctx A need →
  (∀ I' O',(∀ j,j < m→I' j=I j)→(∀ j,j < i→O' j=O j)→∃ so,run I' O' c T m i X or al ar=some so∧so.al=so.ar ∧
   ∀ h' tk',Rep w top h₀ F I' so.T so.m so.X h'→R (.ok (flw so.nx so.r)) ⟨h',g,d,tk',os⟩) →
  Rep w top h₀ F I T m X h→codeAny (model prog w) A c R ⟨h,g,d,tk,os⟩
noncomputable def Pp:List UInt8→Bool
 | b :: c :: d :: _=>Nat.beq b.toNat 108 && Nat.beq c.toNat 105 && Nat.beq d.toNat 102
 | _=>false
noncomputable def qk:Code→Bool
 | .builtin id _=>!Pp id.toByteArray.data.toList
 | _=>true
theorem FE (s:String) (h:s.startsWith "lifetime."=true):Pp s.toByteArray.data.toList=true:=by
 obtain ⟨r,hr⟩:=String.startsWith_string_iff.mp h
 have e:s.toByteArray.data.toList=S.encL s.toList:=S.bytes_list s
 have e2:"lifetime.".toList=['l','i','f','e','t','i','m','e','.']:=by decide
 rw [e,← hr,e2]
 rfl
theorem lZ {c:Code} (h:qk c=true):c.quiet=true:=by
 cases c with
 | builtin id args=>
  refine Code.quiet_builtin args ?_
  cases q:id.startsWith "lifetime." with
  | false=>rfl
  | true=>
   have:=FE id q
   rw [show qk (.builtin id args)=!Pp id.toByteArray.data.toList from rfl,this] at h
   cases h
 | _=>rfl
noncomputable def FZ:Bool→Nat
 | true=>1000000
 | false=>6
def cst:Code→Nat
 | .builtin id _=>FZ (Nat.beq (PySem.code id) (PySem.code "claim.caller"))
 | .call ..=>1
 | .block ..=>0
 | .handlers ..=>0
 | .whileLoop ..=>0
 | .forLoop ..=>0
 | _=>1
theorem am9 {p:Prop} [Decidable p] {a:p→Nat} {b:¬ p→Nat} {n:Nat} (c:∀ h,a h≤n) (hb:∀ h,b h≤n):dite p a b≤n:=by
 by_cases h:p
 · rw [dif_pos h];exact c h
 · rw [dif_neg h];exact hb h
theorem rC (id:String) (args:Args):(Code.builtin id args).frames≤3:=by
 unfold Code.frames Code.frames.match_1
 iterate 9 refine am9 (fun h=>by cases h;exact ag rfl) fun z=>?_
 show (if _ then 1 else 0)≤3
 split<;>decide
theorem vH (p:Prop) [Decidable p] (n:Nat):(if p then n else 0)≤n:=by split<;>lia
theorem MX (b:Bool):6≤FZ b:=by cases b<;>decide
theorem akD (c:Code):c.weight≤cst c:=by
 cases c with
 | builtin id args=>
  have h:=rC id args
  have f:cst (.builtin id args)=FZ (Nat.beq (PySem.code id) (PySem.code "claim.caller")):=rfl
  rw [f]
  have b:=vH ((Code.builtin id args).isCreation=true) 1
  have a:=vH ((Code.builtin id args).isGuard=true) 1
  have i:=vH ((Code.builtin id args).isCaller=true) claimMargin
  have g:claimMargin=300:=rfl
  have d:(Code.builtin id args).weight=(Code.builtin id args).frames + (if (Code.builtin id args).isCreation then 1 else 0) + (if (Code.builtin id args).isGuard then 1 else 0) + (if (Code.builtin id args).isCaller then claimMargin else 0):=rfl
  cases q:Nat.beq (PySem.code id) (PySem.code "claim.caller") with
  | true=>
   have:FZ true=1000000:=rfl
   lia
  | false=>
   have h6:FZ false=6:=rfl
   have hn:(Code.builtin id args).isCaller=false:=by
    delta Code.isCaller Code.isCaller.match_1
    exact dif_neg fun e=>by rw [e,alE] at q;cases q
   rw [hn] at d
   simp only [al8,if_false] at d
   lia
 | compStart e dp it acc env=>
  have b:(Code.compStart e dp it acc env).frames≤1:=vH _ 1
  have a:(Code.compStart e dp it acc env).weight=(Code.compStart e dp it acc env).frames:=rfl
  rw [a];exact b
 | compLoop e dp it acc env=>
  have b:(Code.compLoop e dp it acc env).frames≤1:=vH _ 1
  have a:(Code.compLoop e dp it acc env).weight=(Code.compLoop e dp it acc env).frames:=rfl
  rw [a];exact b
 | call=>exact Bt _
 | _=>first | exact ai _ | exact Bt _
theorem xU (c:Code):c.cUnits≤10 * cst c:=by
 have a:c.frames≤c.weight:=wt (wt (alL _ _) (alL _ _)) (alL _ _)
 have hl:=akD c
 have key (h:c.cUnits=3 * c.frames):c.cUnits≤10 * cst c:=by lia
 cases c with
 | builtin id args=>
  have d:=rC id args
  have e:cst (.builtin id args)=FZ (Nat.beq (PySem.code id) (PySem.code "claim.caller")):=rfl
  have h6:=MX (Nat.beq (PySem.code id) (PySem.code "claim.caller"))
  have b:(Code.builtin id args).cUnits=1 + 3 * (Code.builtin id args).frames:=rfl
  lia
 | call f args=>show 1≤10 * 1;lia
 | _=>exact key rfl
theorem nP {V:Type} (t:Sem V) (f:V→Sem Fin):yz (t.bind f)=t.bind fun x=>yz (f x):=Sem.bind_assoc _ _ _
theorem Iv (a:Addr) (fd:FuncData) (args:Args) (b:List Stmt) (c:Str):yz (FV a fd args b c) =
  (bindArgs fd args).bind fun d=>(newFunctionEnv fd.scope fd.globals fd.closure d (c++".<locals>.") (some a) fd.code none fd.builtins).bind fun env=>(enterFrame 0).bind fun z=>.pure (.again (.func b env)):=by
 unfold FV
 rw [← PySem.W.ZFast.ze9782568553167038054,← PySem.W.ZFast.ze11113344188204177931,nP]
 refine congrArg _ (funext fun d=>?_)
 rw [nP]
 rfl
theorem Os (a:Addr) (args:Args):denote table (.call (.ref a) args)=.load a none fun o=>match o.data with
 | .func fd=>callFunction a fd args
 | .fields vs=>
  if o.cls == .type "method" || o.cls == .type "builtin_function_or_method" || o.cls == .type "method-wrapper" then do
   let (some func,some self):=(vs[0]?,vs[1]?) | unsupported "internal:method-record"
   let all:={ args with pos:=self :: args.pos }
   if let .builtin id:=func then
    if o.cls != .type "method" then
     checkBoundCall id all
     return ← again (.builtin id all)
   again (.call func all)
  else callAny.viaDunder (.ref a) args
 | _=>callAny.viaDunder (.ref a) args:=rfl
theorem Ee {a:Addr} {fd:FuncData} {args:Args} {b:List Stmt} (hb:fd.body=.stmts b) (f:fd.scope.isGenerator=false) (g:fd.scope.isCoroutine=false):callFunction a fd args=yz (U4 a fd args b):=by
 let R:Str→Sem Fin:=fun q=>(bindArgs fd args).bind fun d=>(newFunctionEnv fd.scope fd.globals fd.closure d (q++".<locals>.") (some a) fd.code none fd.builtins).bind fun env=>(enterFrame 0).bind fun z=>.pure (.again (.func b env))
 have key:∀ q:Str,R q=yz (FV a fd args b q):=fun q=>(Iv a fd args b q).symm
 have e:∀ c:Value,(Sem.bind (field c 1) fun x=>match x with | .str q _=>R q | _=>R fd.qualname)=yz (Sem.bind (PySem.W.ZFast.zw6609576154772507232 c 1) fun x=>match x with | .str q _=>FV a fd args b q | _=>FV a fd args b fd.qualname):=fun c=>by
  rw [nP,← PySem.W.ZFast.ze6609576154772507232]
  exact congrArg (Sem.bind _) (funext fun x=>by cases x<;>exact key _)
 have main:∀ c:Value,(match c with | .none=>R fd.qualname | c=>Sem.bind (field c 1) fun x=>match x with | .str q _=>R q | _=>R fd.qualname)=yz (match c with | .none=>FV a fd args b fd.qualname | c=>Sem.bind (PySem.W.ZFast.zw6609576154772507232 c 1) fun x=>match x with | .str q _=>FV a fd args b q | _=>FV a fd args b fd.qualname):=fun c=>by
  cases c<;>first | exact key _ | exact e _
 refine Eq.trans ?_ (main fd.code)
 unfold callFunction
 rw [hb,f,g]
 rfl
def ent (top:Tr) (c:Code):Option (Sem Fin):=match c with
 | .call f args=>match f with
  | .ref a=>match tg top a with
   | some o=>match o.data with
    | .func fd=>match fd.scope.isGenerator || fd.scope.isCoroutine with
     | true=>none
     | false=>match fd.body with
      | .stmts b=>some (U4 a fd args b)
      | .expr _=>none
    | _=>none
   | none=>none
  | _=>none
 | _=>none
theorem rO {w:World} {top:Tr} {c:Code} {t:Sem Fin} (e:ent top c=some t) {A:Around} {Q:Fin→Shared→Prop} {E:Value→Shared→Prop} {h:Heap} {g:Array GenState} {d:Drawn} {tk:Nat} {os:OsState} (k:aky top h)
  (x:wpOwn (model prog w) A c (yz t) Q E ⟨h,g,d,tk,os⟩):wpOwn (model prog w) A c (denote table c) Q E ⟨h,g,d,tk,os⟩:=by
 delta ent at e
 cases c with
 | call f args=>
  cases f with
  | ref a=>
   dsimp only at e
   cases j:tg top a with
   | none=>rw [j] at e;cases e
   | some o=>
    rw [j] at e
    dsimp only at e
    cases hd:o.data with
    | func fd=>
     rw [hd] at e
     dsimp only at e
     cases i:fd.scope.isGenerator || fd.scope.isCoroutine with
     | true=>rw [i] at e;cases e
     | false=>
      rw [i] at e
      dsimp only at e
      cases hb:fd.body with
      | expr _=>rw [hb] at e;cases e
      | stmts b=>
       rw [hb] at e
       cases e
       rw [Bool.or_eq_false_iff] at i
       rw [Os]
       refine y_load _ _ _ _ _ _ _ _ _ _ _ _ _ _ _ _ (k _ _ j) ?_
       simp only [hd]
       rw [Ee hb i.1 i.2]
       exact x
    | _=>rw [hd] at e;cases e
  | _=>cases e
 | _=>cases e
noncomputable def br:List Stmt→Nat→Stmt
 | [],_=>.Pass default
 | s :: _,0=>s
 | _ :: l,n + 1=>br l n
def at1 (i:Nat):Stmt:=br prog.main.body i
def at2 (i j:Nat):Stmt:=match at1 i with
 | .ClassDef _ _ _ body _ _ _ _ _ _ _=>br body j
 | s=>s
noncomputable def fd (s:Stmt) (q:Str) (a b d:Value) (c:Option Addr) (code f:Value) (e:Addr):Data:=match s with
 | .FunctionDef n args body _ _ _ scope _ _ _=>.func ⟨n,q,args,.stmts body,scope,3,[],a,.none,b,d,c,code,f,e⟩
 | _=>.plain
noncomputable def mH (s:Stmt):List Stmt:=match s with
 | .FunctionDef _ _ body _ _ _ _ _ _ _=>body
 | _=>[]
noncomputable def bf (s:Stmt):Scope:=match s with
 | .FunctionDef _ _ _ _ _ _ scope _ _ _=>scope
 | _=>default
def oS (l:List Nat) (t:Nat):Value:=.str (sv l) t
noncomputable def oI (n:Nat):Value:=.int (Int.ofNat n) 0
noncomputable def oG (k:String) (l:List Value):Obj:=⟨.type k,none,.fields ⟨l⟩,⟨[]⟩⟩
noncomputable def oT (l:List Value):Obj:=⟨.type "tuple",none,.seq ⟨l⟩ 0,⟨[]⟩⟩
noncomputable def oZ:Obj:=⟨.none,none,.fields ⟨[]⟩,⟨[]⟩⟩
def oLv (k:Nat):List Nat→List Value
 | a :: b :: l=>oI a :: oI k :: .ref b :: oLv k l
 | _=>[]
def oL (k:Nat) (l:List Nat):Obj:=⟨.none,none,.fields ⟨oLv k l⟩,⟨[]⟩⟩
noncomputable def oD (n:Nat) (l:List DictEntry):Obj:=⟨.type "dict",none,.dict ⟨l⟩ n,⟨[]⟩⟩
def oQ (n:Nat) (l:List DictEntry):Obj:=⟨.none,none,.dict ⟨l⟩ n,⟨[]⟩⟩
def oSu (a:Nat):Obj:=oG "super" [.ref a,.ref a,.ref a]
def oIn (a:Nat):Obj:=oG "builtin_function_or_method" [.builtin "object.__init_subclass__",.ref a]
noncomputable def oFr (c d:Nat) (m:Value):Obj:=⟨.type "frame",none,.plain,⟨[some (.ref c),some (.ref 3),some (.ref d),none,some m,none,some (.ref 0)]⟩⟩
def oF (s:Stmt) (q:Str) (d m:Value) (c:Nat):Obj:=⟨.type "function",none,fd s q d .none m none (.ref c) .none 0,⟨[]⟩⟩
def ft (s:Stmt) (q:Str):Obj:=match fd s q .none .none .none none .none .none 0 with
 | .func f=>⟨.none,none,.func { f with globals:=0 },⟨[]⟩⟩
 | d=>⟨.none,none,d,⟨[]⟩⟩
def oPs:List (List Nat)→Nat→List Value
 | [],_=>[]
 | p :: l,t=>oS p t :: oPs l (t + 1)
def oCo (n q:List Nat) (a t l k u:Nat) (b:Bool) (x:List Value):Obj:=oG "code" ([oS n t,oS q (t + 1),oS Wm (t + 2),oI l,oI k,oI 0,oI 0,(match b with | true=>oI 3 | false=>oI 0),.ref a,.bool b,oI 181,.ref (a + 1),.none]++x++[oI u,oI l,oS Wm (u + 1)])
def oA (s:Stmt) (n q:List Nat) (a t l k:Nat) (d m:Value) (b:List (List Nat)):List Obj:=[oT [],oZ,oT (oPs b (t + 3)),oT [],ft s (sv q),oCo n q a t l k (t + 3 + b.length) true [.ref (a + 2),.ref (a + 3),.ref (a + 4)],oF s (sv q) d m (a + 5)]
def oB (s:Stmt) (n q:List Nat) (a t l k:Nat) (d m:Value):List Obj:=[oT [],oZ,ft s (sv q),oCo n q a t l k (t + 3) true [.none,.none,.ref (a + 2)],oF s (sv q) d m (a + 3)]
def oK (P:Params):List (List Nat × Nat × Nat)→List DictEntry
 | []=>[]
 | (n,t,a) :: l=>dE P n t (.ref a) :: oK P l
def oCa (P:Params) (n:List Nat) (a t l:Nat) (m:Value) (es:List DictEntry) (f:List Nat):List Obj:=[(oG "builtin_function_or_method" [.builtin "type.__prepare__",.type "type"]:Obj),oD (3 + es.length) (dE P agE (t + 5) m :: dE P ((by walk_at "$__qualname__"):List Nat) (t + 7) (oS n (t + 6)) :: dE P afg (t + 9) (.int (Int.ofNat l) (t + 8)) :: es),oT [],oL 4 f,oCo n n (a + 2) t l 0 (t + 3) false [.none,.none,.none],oFr (a + 4) (a + 1) m]
def oCb (P:Params) (n:List Nat) (a t l:Nat) (m:Value) (es:List DictEntry) (k:Nat) (e:List DictEntry) (f d c:List Value) (b:Nat) (w:String):List Obj:=[oD k (dE P agE (t + 5) m :: dE P afg (t + 9) (.int (Int.ofNat l) (t + 8)) :: es++e),
 ⟨.type "type",none,.cls ⟨sv n,f,.ref (a + 1) :: d,a,sv n,true,[],c,false,none,false⟩,⟨[(match b with | 0=>none | b + 1=>some (.ref (b + 1))),none,some (oS n (t - 2)),some (oS n (t + 6)),some (.builtin w),some (.bool true)]⟩⟩]
def oN:List Obj→Nat→Obj
 | [],_=>oZ
 | x :: _,0=>x
 | _ :: l,n + 1=>oN l n
noncomputable def o0 (P:Params):Obj:=PySem.W.boot_o_0 P
def o2 (P:Params):Obj:=oQ 2 [dE P ((by walk_at "$type.__subclasses__.Exception.0"):List Nat) 221 (oI 38),dE P ((by walk_at "$type.__subclasses__.Exception.n"):List Nat) 222 (oI 1)]
def o3 (P:Params):Obj:=oD 69 [dE P J17 165 (oS J31 1766),dE P J9 166 .none,dE P ((by walk_at "$__package__"):List Nat) 167 .none,dE P ((by walk_at "$__loader__"):List Nat) 168 (.builtin "__main__.__loader__#\x6fpaque"),dE P ((by walk_at "$__spec__"):List Nat) 169 .none,dE P ((by walk_at "$__annotations__"):List Nat) 170 (.ref 6),dE P ((by walk_at "$__builtins__"):List Nat) 171 (.ref 4),dE P ((by walk_at "$__file__"):List Nat) 173 (oS Wm 172),dE P ((by walk_at "$__cached__"):List Nat) 174 .none,dE P X1 193 (.ref 21),dE P ZF 224 (.ref 38),dE P YM 240 (.ref 51),dE P Wf 256 (.ref 63),dE P afD 349 (.ref 66),dE P Xc 476 (.ref 157),dE P J93 485 (.ref 168),dE P Wp 491 (.ref 173),dE P aaZ 518 (.ref 190),dE P Zu 534 (.ref 204),dE P Xf 566 (.ref 230),dE P Zh 603 (.ref 256),dE P ak5 635 (.ref 282),dE P J38 669 (.ref 308),dE P abf 705 (.ref 334),dE P ZO 743 (.ref 360),dE P ZR 779 (.ref 386),dE P Wh 815 (.ref 412),dE P V9 849 (.ref 438),dE P YH 881 (.ref 464),dE P Zn 916 (.ref 488),dE P abj 954 (.ref 514),dE P YV 988 (.ref 540),dE P V2 1022 (.ref 566),dE P J34 1056 (.ref 592),dE P Yb 1097 (.ref 618),dE P aa1 1136 (.ref 644),dE P afO 1141 (.ref 647),dE P agf 1143 (oS ([32,9,10,11,12,13]:List Nat) 1142),dE P Y8 1152 (.ref 654),dE P Xm 1161 (.ref 661),dE P Vb 1169 (.ref 668),dE P aaQ 1177 (.ref 673),dE P Zc 1185 (.ref 681),dE P ZX 1192 (.ref 688),dE P XQ 1199 (.ref 695),dE P ZK 1207 (.ref 703),dE P ak8 1216 (.ref 710),dE P YI 1225 (.ref 717),dE P Zp 1234 (.ref 724),dE P ak9 1241 (.ref 731),dE P ZJ 1455 (.ref 856),dE P YN 1519 (.ref 898),dE P W5 1575 (.ref 938),dE P VT 1636 (.ref 980),dE P abg 1765 (.ref 1063),dE P VY 1778 (.ref 1072),dE P Wy 1787 (.ref 1079),dE P ak7 1795 (.ref 1086),dE P ZT 1803 (.ref 1093),dE P We 1811 (.ref 1100),dE P Ym 1821 (.ref 1107),dE P Y2 1837 (.ref 1114),dE P Ww 1851 (.ref 1121),dE P abk 1857 (.ref 1126),dE P Vd 1870 (.ref 1133),dE P WO 1882 (.ref 1140),dE P Yd 1888 (.ref 1145),dE P aaG 1900 (.ref 1152),dE P Xa 1906 (.ref 1157)]
def o12 (P:Params):Obj:=oL 0 (by walk_at "#$`7'S*`R0`_3`m`ya_`{aa`}aca%ahTaka1aqa:aya?a~aGb'aOb0aWb3a^b9a`bBabbGadbMagbPajbWakb]ambdanbharbmaubuaxbvazbxa|bza}b}b#c#b$c&b&c)b(c+b)c-b*c0b+c2b,c3bScRbZcZbaccbickc(d&c*d(c,d*c-d,c/d.c1d0c2d2c7d4c<d6c@d8cCd:cFd<cId>cKd@")
def ajO (P:Params):List DictEntry:=oK P [(J3,215,35),(J12,217,36)]
def g37 (P:Params):List Obj:=oCb P ZF 37 198 5 (oS J56 194) (ajO P) 3 [dE P J50 219 (.ref 39),dE P J9 220 .none] [(.type "Exception")] [(.type "Exception"),(.type "BaseException"),(.type "object")] [(.ref 51),(.ref 63)] 22 "Exception.__new__"
def ajH (P:Params):List DictEntry:=oK P [(J12,237,49)]
def ajQ (P:Params):List DictEntry:=oK P [(J12,253,61)]
def o66 (P:Params):Obj:=oD 30 [dE P J39 259 (.int 1 260),dE P J48 262 (.int 1 263),dE P J44 265 (.int 1 266),dE P ([73,102]:List Nat) 268 (.int 1 269),dE P ([73,102,78,111,116]:List Nat) 271 (.int 1 272),dE P J34 274 (.int 1 275),dE P ([78,111,116,78,117,108,108]:List Nat) 277 (.int 1 278),dE P ([73,102,80,111,115]:List Nat) 280 (.int 1 281),dE P ((by walk_at "$MustBeInt"):List Nat) 283 (.int 1 284),dE P ((by walk_at "$CompareJump"):List Nat) 286 (.int 1 287),dE P J40 289 (.int 1 290),dE P ([76,97,115,116]:List Nat) 292 (.int 1 293),dE P ([78,101,120,116]:List Nat) 295 (.int 1 296),dE P ([80,114,101,118]:List Nat) 298 (.int 1 299),dE P ((by walk_at "$SeekRowid"):List Nat) 301 (.int 1 302),dE P ([83,101,101,107,71,69]:List Nat) 304 (.int 1 305),dE P ([83,101,101,107,71,84]:List Nat) 307 (.int 1 308),dE P agR 310 (.int 1 311),dE P ag1 312 (.int 1 313),dE P agV 314 (.int 1 315),dE P ag3 316 (.int 1 317),dE P agZ 318 (.int 1 319),dE P ahe 320 (.int 1 321),dE P J33 322 (.int 1 323),dE P afH 324 (.int 1 325),dE P agQ 326 (.int 1 327),dE P ahh 328 (.int 1 329),dE P agc 330 (.int 1 331),dE P afj 332 (.int 1 333),dE P afl 334 (.int 1 335)]
def ajN (P:Params):List DictEntry:=oK P [(J3,368,81),(afk,383,89),(ago,390,96),(J5,398,103),(J32,406,110),(XR,416,118),(J71,424,125),(ahm,432,132),(J2,441,139),(agt,451,147),(afp,460,154),(J12,469,155)]
def g75:List Obj:=oA (at2 7 0) J3 ((by walk_at "$Program.__init__"):List Nat) 75 362 17 1 .none (oS J29 257) [J0]
def o82 (P:Params):Obj:=oT [(.int 0 369),(.int 0 370),(.int 0 371),.none]
def g83:List Obj:=oA (at2 7 1) afk ((by walk_at "$Program.add"):List Nat) 83 372 27 6 (.ref 82) (oS J29 257) [J0,J88,afh,agA,afJ,agx]
def g97:List Obj:=oA (at2 7 3) J5 ((by walk_at "$Program.label"):List Nat) 97 391 34 1 .none (oS J29 257) [J0,J5]
def alh:List Obj:=oA (at2 7 4) J32 ((by walk_at "$Program.place"):List Nat) 104 399 39 2 .none (oS J29 257) [J0,J5]
def aao (P:Params):Obj:=oT [(.int 1 407)]
def ai4:List Obj:=oA (at2 7 5) XR ((by walk_at "$Program.register"):List Nat) 112 408 46 2 (.ref 111) (oS J29 257) [J0,ahd,Yf]
def ai8:List Obj:=oA (at2 7 6) J71 ((by walk_at "$Program.cursor"):List Nat) 119 417 51 1 .none (oS J29 257) [J0,J86]
def ajl:List Obj:=oA (at2 7 7) ahm ((by walk_at "$Program.slot"):List Nat) 126 425 56 1 .none (oS J29 257) [J0,J86]
def ajc:List Obj:=oA (at2 7 8) J2 ((by walk_at "$Program.value"):List Nat) 133 433 61 2 .none (oS J29 257) [J0,J2,J11]
def ZS (P:Params):Obj:=oT [(.int 1 442)]
def ai5:List Obj:=oA (at2 7 9) agt ((by walk_at "$Program.null"):List Nat) 141 443 66 2 (.ref 140) (oS J29 257) [J0,ahd,J11]
def ajq:List Obj:=oA (at2 7 10) afp ((by walk_at "$Program.finish"):List Nat) 148 452 71 1 .none (oS J29 257) [J0,J5,J8]
def ai7 (P:Params):List Obj:=oCb P Xc 156 352 15 (oS J29 257) (ajN P) 4 [dE P J60 471 (.ref 158),dE P J50 473 (.ref 159),dE P J9 474 .none] [(.type "object")] [(.type "object")] [] 0 "object.__new__"
def aiM (P:Params):List DictEntry:=oK P [(J4,510,187),(J12,511,188)]
def ah9 (P:Params):List Obj:=oCb P aaZ 189 494 89 (oS J1 477) (aiM P) 4 [dE P J60 513 (.ref 191),dE P J50 515 (.ref 192),dE P J9 516 .none] [(.type "object")] [(.type "object")] [(.ref 204),(.ref 644)] 0 "object.__new__"
def ai2 (P:Params):List DictEntry:=oK P [(J12,531,202)]
def aia (P:Params):List Obj:=oCb P Zu 203 521 93 (oS J1 477) (ai2 P) 2 [dE P J9 532 .none] [(.ref 190)] [(.ref 190),(.type "object")] [(.ref 230),(.ref 256),(.ref 282),(.ref 308),(.ref 334),(.ref 360),(.ref 386),(.ref 412),(.ref 438),(.ref 464),(.ref 488),(.ref 514),(.ref 540),(.ref 566),(.ref 592),(.ref 618)] 195 "object.__new__"
def ai0 (P:Params):List DictEntry:=oK P [(J3,554,220),(J4,561,227),(J12,563,228)]
def ajo:List Obj:=oA (at2 13 0) J3 ((by walk_at "$Literal.__init__"):List Nat) 214 547 97 2 .none (oS J1 477) [J0,J2]
def ajg (P:Params):List Obj:=oCb P Xf 229 537 95 (oS J1 477) (ai0 P) 2 [dE P J9 564 .none] [(.ref 204)] [(.ref 204),(.ref 190),(.type "object")] [] 207 "object.__new__"
def aiI (P:Params):List DictEntry:=oK P [(J3,587,246),(J4,594,253),(J12,600,254)]
def ajb:List Obj:=oA (at2 14 0) J3 ((by walk_at "$Name.__init__"):List Nat) 240 579 108 3 .none (oS J1 477) [J0,J67,J42]
def ajD (P:Params):List Obj:=oCb P Zh 255 569 106 (oS J1 477) (aiI P) 2 [dE P J9 601 .none] [(.ref 204)] [(.ref 204),(.ref 190),(.type "object")] [] 233 "object.__new__"
def aiH (P:Params):List DictEntry:=oK P [(J3,623,272),(J4,630,279),(J12,632,280)]
def ajM (P:Params):List Obj:=oCb P ak5 281 606 117 (oS J1 477) (aiH P) 2 [dE P J9 633 .none] [(.ref 204)] [(.ref 204),(.ref 190),(.type "object")] [] 259 "object.__new__"
def aiS (P:Params):List DictEntry:=oK P [(J3,656,298),(J4,663,305),(J12,666,306)]
def ajJ (P:Params):List Obj:=oCb P J38 307 638 124 (oS J1 477) (aiS P) 2 [dE P J9 667 .none] [(.ref 204)] [(.ref 204),(.ref 190),(.type "object")] [] 285 "object.__new__"
def aiQ (P:Params):List DictEntry:=oK P [(J3,691,324),(J4,698,331),(J12,702,332)]
def ajI (P:Params):List Obj:=oCb P abf 333 672 132 (oS J1 477) (aiQ P) 2 [dE P J9 703 .none] [(.ref 204)] [(.ref 204),(.ref 190),(.type "object")] [] 311 "object.__new__"
def aiX (P:Params):List DictEntry:=oK P [(J3,728,350),(J4,735,357),(J12,740,358)]
def ajE (P:Params):List Obj:=oCb P ZO 359 708 141 (oS J1 477) (aiX P) 2 [dE P J9 741 .none] [(.ref 204)] [(.ref 204),(.ref 190),(.type "object")] [] 337 "object.__new__"
def aiU (P:Params):List DictEntry:=oK P [(J3,765,376),(J4,772,383),(J12,776,384)]
def ajL (P:Params):List Obj:=oCb P ZR 385 746 151 (oS J1 477) (aiU P) 2 [dE P J9 777 .none] [(.ref 204)] [(.ref 204),(.ref 190),(.type "object")] [] 363 "object.__new__"
def aiY (P:Params):List DictEntry:=oK P [(J3,801,402),(J4,808,409),(J12,812,410)]
def ajv:List Obj:=oA (at2 20 0) J3 ((by walk_at "$InSelect.__init__"):List Nat) 396 792 162 4 .none (oS J1 477) [J0,J2,J18,J15]
def aju (P:Params):List Obj:=oCb P Wh 411 782 160 (oS J1 477) (aiY P) 2 [dE P J9 813 .none] [(.ref 204)] [(.ref 204),(.ref 190),(.type "object")] [] 389 "object.__new__"
def aiK (P:Params):List DictEntry:=oK P [(J3,836,428),(J4,843,435),(J12,846,436)]
def ajy:List Obj:=oA (at2 21 0) J3 ((by walk_at "$Exists.__init__"):List Nat) 422 828 171 3 .none (oS J1 477) [J0,J18,J15]
def ajA (P:Params):List Obj:=oCb P V9 437 818 169 (oS J1 477) (aiK P) 2 [dE P J9 847 .none] [(.ref 204)] [(.ref 204),(.ref 190),(.type "object")] [] 415 "object.__new__"
def aiG (P:Params):List DictEntry:=oK P [(J3,869,454),(J4,876,461),(J12,878,462)]
def ajs:List Obj:=oA (at2 22 0) J3 ((by walk_at "$Scalar.__init__"):List Nat) 448 862 179 2 .none (oS J1 477) [J0,J18]
def ajr (P:Params):List Obj:=oCb P YH 463 852 177 (oS J1 477) (aiG P) 2 [dE P J9 879 .none] [(.ref 204)] [(.ref 204),(.ref 190),(.type "object")] [] 441 "object.__new__"
def aiN (P:Params):List DictEntry:=oK P [(J3,903,480),(J4,909,485),(J12,913,486)]
def ajF (P:Params):List Obj:=oCb P Zn 487 884 184 (oS J1 477) (aiN P) 2 [dE P J9 914 .none] [(.ref 204)] [(.ref 204),(.ref 190),(.type "object")] [] 467 "object.__new__"
def aiR (P:Params):List DictEntry:=oK P [(J3,939,504),(J4,946,511),(J12,951,512)]
def ai1 (P:Params):List DictEntry:=oK P [(J3,975,530),(J4,982,537),(J12,985,538)]
def ajG (P:Params):List Obj:=oCb P YV 539 957 204 (oS J1 477) (ai1 P) 2 [dE P J9 986 .none] [(.ref 204)] [(.ref 204),(.ref 190),(.type "object")] [] 517 "object.__new__"
def aiP (P:Params):List DictEntry:=oK P [(J3,1009,556),(J4,1016,563),(J12,1019,564)]
def ajK (P:Params):List Obj:=oCb P V2 565 991 212 (oS J1 477) (aiP P) 2 [dE P J9 1020 .none] [(.ref 204)] [(.ref 204),(.ref 190),(.type "object")] [] 543 "object.__new__"
def aiZ (P:Params):List DictEntry:=oK P [(J3,1043,582),(J4,1050,589),(J12,1053,590)]
def ajP (P:Params):List Obj:=oCb P J34 591 1025 220 (oS J1 477) (aiZ P) 2 [dE P J9 1054 .none] [(.ref 204)] [(.ref 204),(.ref 190),(.type "object")] [] 569 "object.__new__"
def aiF (P:Params):List DictEntry:=oK P [(J3,1080,608),(J4,1088,615),(J12,1094,616)]
def aiV (P:Params):List DictEntry:=oK P [(J3,1120,634),(J4,1128,641),(J12,1133,642)]
def ajC:List Obj:=oA (at2 29 0) J3 ((by walk_at "$Select.__init__"):List Nat) 628 1110 242 5 .none (oS J1 477) [J0,J61,J52,J57,J63]
def ajf (P:Params):List Obj:=oCb P aa1 643 1100 240 (oS J1 477) (aiV P) 2 [dE P J9 1134 .none] [(.ref 190)] [(.ref 190),(.type "object")] [] 621 "object.__new__"
def Wz (P:Params):Obj:=oT [(oS J47 1139),(oS J82 1140)]
def aje:List Obj:=oA (at1 35) Vb Vb 662 1162 274 2 .none (oS agl 1137) [J26,J37]
def XJ (P:Params):Obj:=oT [.none]
def aji:List Obj:=oA (at1 38) Zc Zc 675 1178 287 2 (.ref 674) (oS J62 1170) [J7,ag2]
def ajm:List Obj:=oA (at1 39) ZX ZX 682 1186 297 1 .none (oS J62 1170) [J7]
def ajB:List Obj:=oA (at1 40) XQ XQ 689 1193 307 1 .none (oS J62 1170) [J7]
def ai9:List Obj:=oA (at1 43) YI YI 711 1217 323 2 .none (oS J62 1170) [J26,J37,J97]
def aiT (P:Params):List DictEntry:=oK P [(J3,1261,745),(afL,1272,753),(J45,1281,760),(J93,1291,767),(J42,1303,774),(J30,1316,781),(agX,1331,788),(aha,1343,795),(afW,1352,802),(aho,1363,809),(afo,1378,816),(afE,1395,823),(agD,1407,831),(af3,1419,839),(ahj,1434,846),(afB,1445,853),(J12,1448,854)]
def ajw:List Obj:=oA (at2 47 0) J3 ((by walk_at "$OperatorCoder.__init__"):List Nat) 739 1254 335 2 .none (oS J14 1226) [J0,J36]
def Zi (P:Params):Obj:=oT [.none]
def ai3:List Obj:=oA (at2 47 1) afL ((by walk_at "$OperatorCoder.expression"):List Nat) 747 1262 339 3 (.ref 746) (oS J14 1226) [J0,J7,([105,110,116,111]:List Nat),J11,agw]
def ajz:List Obj:=oA (at2 47 4) J42 ((by walk_at "$OperatorCoder.column"):List Nat) 768 1292 375 4 .none (oS J14 1226) [J0,J86,J32,J11,agy,J21]
def ajh:List Obj:=oA (at2 47 8) afW ((by walk_at "$OperatorCoder.negate"):List Nat) 796 1344 406 3 .none (oS J14 1226) [J0,J11,J15]
def aiE (P:Params):List Obj:=oCb P ZJ 855 1244 333 (oS J14 1226) (aiT P) 4 [dE P J60 1450 (.ref 857),dE P J50 1452 (.ref 858),dE P J9 1453 .none] [(.type "object")] [(.type "object")] [(.ref 898)] 0 "object.__new__"
def aiW (P:Params):List DictEntry:=oK P [(J3,1477,874),(J45,1486,881),(agn,1503,888),(agu,1514,895),(J12,1516,896)]
def ajd:List Obj:=oA (at2 49 0) J3 ((by walk_at "$FunctionCoder.__init__"):List Nat) 868 1470 510 2 .none (oS J96 1456) [J0,J36]
def air (P:Params):List Obj:=oCb P YN 897 1460 508 (oS J96 1456) (aiW P) 2 [dE P J9 1517 .none] [(.ref 856)] [(.ref 856),(.type "object")] [(.ref 980)] 861 "object.__new__"
def aiO (P:Params):List DictEntry:=oK P [(J3,1542,914),(agT,1549,921),(J16,1557,928),(agv,1565,935),(J12,1568,936)]
def ajx:List Obj:=oA (at2 51 0) J3 ((by walk_at "$KeyInfo.__init__"):List Nat) 908 1534 545 3 .none (oS J83 1520) [J0,aaJ,VS]
def ajk (P:Params):List Obj:=oCb P W5 937 1524 543 (oS J83 1520) (aiO P) 4 [dE P J60 1570 (.ref 939),dE P J50 1572 (.ref 940),dE P J9 1573 .none] [(.type "object")] [(.type "object")] [] 0 "object.__new__"
def aiL (P:Params):List DictEntry:=oK P [(J42,1600,956),(af9,1612,963),(J45,1621,970),(agm,1632,977),(J12,1633,978)]
def ai6:List Obj:=oA (at2 53 0) J42 ((by walk_at "$ExpressionCoder.column"):List Nat) 950 1590 564 4 .none (oS J19 1576) [J0,J86,J32,J11,af1]
def aiD (P:Params):List Obj:=oCb P VT 979 1580 562 (oS J19 1576) (aiL P) 2 [dE P J9 1634 .none] [(.ref 898)] [(.ref 898),(.ref 856),(.type "object")] [(.ref 1063)] 943 "object.__new__"
def aiJ (P:Params):List DictEntry:=oK P [(J3,1658,997),(afK,1667,1004),(J45,1676,1011),(agL,1690,1018),(ahl,1706,1025),(J58,1717,1032),(afS,1728,1039),(af8,1737,1046),(agS,1745,1053),(J18,1756,1060),(J12,1762,1061)]
def X0 (P:Params):Obj:=oT [.none]
def ajn:List Obj:=oA (at2 54 0) J3 ((by walk_at "$Coder.__init__"):List Nat) 991 1649 609 4 (.ref 990) (oS J19 1576) [J0,J36,J68,J55]
def ais:List Obj:=oA (at2 54 2) J45 ((by walk_at "$Coder.other"):List Nat) 1005 1668 619 3 .none (oS J19 1576) [J0,J7,J11]
def aih:List Obj:=oA (at2 54 3) agL ((by walk_at "$Coder.key_set"):List Nat) 1012 1677 629 2 .none (oS J19 1576) [J0,J7,J99,J26,J37,V3,J71,J25]
def aiy:List Obj:=oA (at2 54 4) ahl ((by walk_at "$Coder.in_select"):List Nat) 1019 1691 640 3 .none (oS J19 1576) [J0,J7,J11,J71,J53,J2,J25,([117,110,107,110,111,119,110]:List Nat),afR,([110,111,116,104,105,110,103]:List Nat)]
def aiA:List Obj:=oA (at2 54 5) J58 ((by walk_at "$Coder.exists"):List Nat) 1026 1707 664 3 .none (oS J19 1576) [J0,J7,J11,J21,J25]
def aii:List Obj:=oA (at2 54 6) afS ((by walk_at "$Coder.scalar"):List Nat) 1033 1718 673 3 .none (oS J19 1576) [J0,J7,J11,J21,J25]
def aiw:List Obj:=oA (at2 54 7) af8 ((by walk_at "$Coder.begin_once"):List Nat) 1040 1729 681 2 .none (oS J19 1576) [J0,XK,J25]
def ait:List Obj:=oA (at2 54 8) agS ((by walk_at "$Coder.end_once"):List Nat) 1047 1738 688 2 .none (oS J19 1576) [J0,J25]
def aig:List Obj:=oA (at2 54 9) J18 ((by walk_at "$Coder.select"):List Nat) 1054 1746 692 3 .none (oS J19 1576) [J0,XK,ajp,J21,J55]
def ain (P:Params):List Obj:=oCb P abg 1062 1639 607 (oS J19 1576) (aiJ P) 2 [dE P J9 1763 .none] [(.ref 980)] [(.ref 980),(.ref 898),(.ref 856),(.type "object")] [] 983 "object.__new__"
def aio:List Obj:=oA (at1 56) VY VY 1066 1768 700 2 .none (oS J31 1766) [J64,afQ,([99,101,108,108]:List Nat),([98,105,103]:List Nat),([109,105,120,101,100]:List Nat)]
def aiv:List Obj:=oA (at1 57) Wy Wy 1073 1779 707 2 .none (oS J31 1766) [J43,([116,111,112]:List Nat),([100,114,97,119,110]:List Nat)]
def aiC:List Obj:=oA (at1 58) ak7 ak7 1080 1788 714 2 .none (oS J31 1766) [J43,([116,104,105,110,103,115]:List Nat)]
def aiz:List Obj:=oA (at1 59) ZT ZT 1087 1796 716 2 .none (oS J31 1766) [J2,J16]
def aix:List Obj:=oA (at1 60) We We 1094 1804 722 2 .none (oS J31 1766) [J2,J53]
def aiu:List Obj:=oA (at1 61) Ym Ym 1101 1812 726 3 .none (oS J31 1766) [J32,J53,J16,J97]
def aim:List Obj:=oA (at1 62) Y2 Y2 1108 1822 730 3 .none (oS J31 1766) [Vn,XK,ajp,J36,agy,J21,Vs,J2,J11,Y0]
def aiB:List Obj:=oA (at1 63) Ww Ww 1115 1838 747 3 .none (oS J31 1766) [J8,J21,J65,J88,afh,agA,afJ,agx]
def aik:List Obj:=oB (at1 64) abk abk 1122 1852 768 4 .none (oS J31 1766)
def aip:List Obj:=oA (at1 65) Vd Vd 1127 1858 782 2 .none (oS J31 1766) [J49,J21,J65,J81,J46,J70,J8]
def aij:List Obj:=oA (at1 66) WO WO 1134 1871 799 4 .none (oS J31 1766) [J36,J6,YU,J51,J97,J99]
def aiq:List Obj:=oB (at1 67) Yd Yd 1141 1883 805 5 .none (oS J31 1766)
def ail:List Obj:=oA (at1 68) aaG aaG 1146 1889 821 5 .none (oS J31 1766) [J35,J2,J6,J75,J16,afP]
def aif:List Obj:=oB (at1 69) Xa Xa 1153 1901 828 1 .none (oS J31 1766)
def JS (P:Params):Obj:=(oN aif 4)
noncomputable def amg (x:Obj):Tr:=.node (some x) .nil .nil
noncomputable def dT (a:Tr):Tr:=.node none a .nil
noncomputable def ami (a:Tr):Tr:=.node none .nil a
noncomputable def amh (a b:Tr):Tr:=.node none a b
noncomputable def amj (x:Obj) (a b:Tr):Tr:=.node (some x) a b
def ac (P:Params):Tr:=(amj (o0 P) (amh (amj (o3 P) (amh (amh (dT (dT (amh (amg (oN (ajD P) 0)) (dT (dT (amg (oN ail 5))))))) (amh (amh (dT (dT (dT (amg (oN aii 6))))) (ami (amg (oN (ajr P) 0)))) (amj (aao P) (amh (dT (dT (amg (oN aio 5)))) (dT (amg (oN ajm 5)))) .nil))) (amh (amh (dT (amh (dT (dT (amg (oN aiA 5)))) (dT (amg (Wz P))))) (amj (oN g97 6) (dT (dT (dT (amg (oN (ain P) 1))))) .nil)) (amh (ami (dT (ami (amg (oN (aiE P) 0))))) (dT (amh (dT (dT (amg (oN aiv 6)))) (dT (amg (oN ajB 6)))))))) (amh (amh (amh (dT (amj (oN ajl 5) .nil (dT (amg (oN (ajf P) 0))))) (dT (dT (dT (dT (amg (oN aig 5))))))) (amh (amh (amg (oN ai5 6)) (amh (dT (dT (amg (oN aiu 6)))) (ami (amg (oN (aiD P) 0))))) (ami (amh (dT (dT (amg (oN aij 5)))) (ami (amg (oN ais 6))))))) (amh (amh (amh (amg (oN ajc 6)) (amj (oN (aia P) 0) (dT (dT (amg (oN aix 5)))) .nil)) (dT (ami (amg (oN ajy 5))))) (amh (amh (ami (amj (oN (aju P) 0) (amg (oN aje 5)) .nil)) (amg (oN ajo 5))) (dT (ami (ami (amg (oN ai6 5))))))))) (amh (amh (amh (amh (dT (amh (dT (dT (amg (oN aiy 6)))) (ami (amg (oN (air P) 0))))) (amh (dT (ami (amg (oN ajh 5)))) (dT (dT (dT (amg (oN aiB 6))))))) (amh (amj (oN g75 6) (ami (amj (oN ajv 5) .nil (amg (oN ajx 5)))) .nil) (ami (ami (dT (amg (oN ai3 6))))))) (amh (ami (amh (ami (amh (amg (oN aji 6)) (amg (oN (ajk P) 0)))) (amh (ami (amg (oN ajd 5))) (dT (amg (oN ajw 6)))))) (amh (amj (oN g83 6) (amg (oN ajq 5)) (dT (dT (dT (amg (oN aim 5)))))) (ami (amh (dT (amj (oN ajC 5) (amg (oN aiq 4)) .nil)) (ami (amg (oN aih 5)))))))) (amh (amh (amh (amh (amh (ami (amg (oN ajz 5))) (dT (dT (amg (oN aif 4))))) (amh (dT (dT (amg (oN aiz 6)))) (amg (oN ajs 5)))) (ami (amj (oN (ajg P) 0) (dT (dT (amg (oN aik 3)))) (ami (amg (oN ajn 6)))))) (amh (dT (dT (dT (dT (amg (oN aiw 5)))))) (amj (oN ai4 5) (ami (amg (oN (ajA P) 0))) (amg (oN ajb 5))))) (amh (amh (ami (ami (dT (amg (oN ai9 6))))) (amj (oN alh 5) .nil (dT (dT (dT (amg (oN aip 6))))))) (amh (dT (amj (oN (ai7 P) 1) (dT (dT (amg (oN ait 6)))) .nil)) (amj (oN ai8 6) (amj (oN (ah9 P) 0) (dT (dT (amg (oN aiC 5)))) .nil) .nil)))))) (amj (o2 P) (amh (amh (amh (amh (dT (amh (amj (oN (ajD P) 1) (dT (amg (oN aiy 5))) .nil) (dT (dT (amg (oN ail 6)))))) (ami (dT (dT (dT (amg (oN aiB 5))))))) (amh (amj (oN g75 5) .nil (amh (dT (amg (oN (ajP P) 1))) (amg (oN (ajr P) 1)))) (amh (amh (dT (dT (amg (oN aio 6)))) (dT (amg (oN ajm 6)))) (ami (dT (amg (oN ai3 5))))))) (amh (amh (dT (dT (dT (dT (amg (oN aiA 6)))))) (amh (ami (dT (amg (oN aji 5)))) (amh (amg (oN (ajE P) 1)) (amj (oN (ajF P) 1) (amg (oN ajw 5)) .nil)))) (amh (amj (oN g83 5) .nil (dT (ami (amg (oN (aiE P) 1))))) (ami (dT (dT (dT (amg (oN aiq 3))))))))) (amh (amh (amh (amh (amj (oN ajl 6) .nil (dT (amj (oN (ajf P) 1) (amg (oN aif 3)) .nil))) (dT (dT (dT (amg (oN aiz 5)))))) (amh (dT (dT (dT (amg (oN aig 6))))) (ami (ami (amg (oN ajn 5)))))) (amh (ami (ami (ami (amg (oN (aiD P) 1))))) (amh (dT (amg (oN (ajJ P) 1))) (dT (dT (dT (amg (oN aij 6)))))))) (amh (amh (amh (amg (ZS P)) (amj (oN (aia P) 1) (dT (dT (amg (oN aix 6)))) (dT (amg (oN ai9 5))))) (amh (ami (amg (oN ajy 6))) (dT (dT (dT (amg (oN aip 5))))))) (amh (amh (amj (oN (ai7 P) 0) (dT (amj (oN (ajG P) 1) (amg (oN ait 5)) .nil)) (amj (oN (aju P) 1) (amg (oN aje 6)) .nil)) (amg (oN ajo 6))) (amj (oN ai8 5) (ami (ami (amg (oN ai6 6)))) .nil))))) (amh (amh (amh (amh (amj (o66 P) (ami (amj (oN (ajL P) 1) .nil (amg (oN (air P) 1)))) .nil) (dT (amh (ami (amg (oN ajh 6))) (dT (amg (XJ P)))))) (amh (amj (o82 P) (amj (oN ai5 5) .nil (amj (oN ajv 6) .nil (amg (oN ajx 6)))) (dT (dT (dT (amg (oN aiu 5)))))) (ami (ami (ami (amg (oN ais 5))))))) (amh (amh (dT (amg (oN ajc 5))) (amh (ami (ami (amg (oN (ajk P) 1)))) (amh (ami (amg (oN ajd 6))) (dT (amg (Zi P)))))) (amh (amh (amj (oN ajq 6) (amg (oN (ajM P) 1)) .nil) (dT (dT (dT (amg (oN aim 6)))))) (ami (amh (dT (amg (oN ajC 6))) (ami (amg (oN aih 6)))))))) (amh (amh (amh (amh (dT (ami (amg (oN ajz 6)))) (ami (amg (oN ajs 6)))) (amj (oN g97 5) (dT (dT (dT (amg (oN (ain P) 0))))) (amj (oN (ajg P) 1) (dT (dT (amg (oN aik 4)))) .nil))) (amh (dT (dT (dT (dT (amg (oN aiw 6)))))) (amj (oN ai4 6) (amh (dT (amj (oN (ajK P) 1) (amg (oN aiv 5)) .nil)) (amj (oN (ajA P) 1) (amg (oN ajB 5)) .nil)) (amg (oN ajb 6))))) (amh (amh (amh (dT (dT (dT (amg (oN aii 5))))) (dT (amg (oN (ajI P) 1)))) (amg (oN alh 6))) (amh (ami (ami (ami (amg (X0 P))))) (dT (amj (oN (ah9 P) 1) (dT (dT (amg (oN aiC 6)))) .nil))))))))
noncomputable def evL:List Obj→List Obj
 | x :: _ :: l=>x :: evL l
 | l=>l
noncomputable def ofL:Nat→List Obj→BT
 | n + 1,x :: l=>.node x (ofL n (evL l)) (ofL n (evL (l.drop 1)))
 | _,_=>.nil
def aae (P:Params):BT:=ofL 12 ([(o0 P),boot_o_1 P,(o2 P),(o3 P),boot_o_4 P,boot_o_5 P,boot_o_6 P,boot_o_7 P,boot_o_8 P,boot_o_9 P,boot_o_10 P,oT [],(o12 P),oG "code" [(oS agJ 182),(oS agJ 183),(oS Wm 184),(oI 1),(oI 0),(oI 0),(oI 0),(oI 0),(.ref 11),(.bool false),(oI 181),(.ref 12),.none,.none,.none,.none,(oI 185),(oI 1),(oS Wm 186)],oFr 13 3 (oS agp 164)]++((oA (at1 0) X1 X1 15 187 1 1 .none (oS agp 164) [afQ])++([oT [(.type "Exception")]]++((oCa P ZF 23 198 5 (oS J56 194) (ajO P) [7,34])++((oA (at2 2 0) J3 ((by walk_at "$PagebaseError.__init__"):List Nat) 29 208 7 2 .none (oS J56 194) [J0,ag8])++([oT [(oS ag8 216)]]++((g37 P)++([oG "getset_descriptor" [(oS J50 218),(.ref 38),(.builtin "ExceptionGroup.__weakref__"),.none],oSu 38,oIn 38,oT [(.ref 38)]]++((oCa P YM 43 227 9 (oS J56 194) (ajH P) [])++([oT []]++((oCb P YM 50 227 9 (oS J56 194) (ajH P) 2 [dE P J9 238 .none] [(.ref 38)] [(.ref 38),(.type "Exception"),(.type "BaseException"),(.type "object")] [] 42 "Exception.__new__":List Obj)++([oSu 51,oIn 51,oT [(.ref 38)]]++((oCa P Wf 55 243 11 (oS J56 194) (ajQ P) [])++([oT []]++((oCb P Wf 62 243 11 (oS J56 194) (ajQ P) 2 [dE P J9 254 .none] [(.ref 38)] [(.ref 38),(.type "Exception"),(.type "BaseException"),(.type "object")] [] 54 "Exception.__new__":List Obj)++([oSu 63,oIn 63,(o66 P),oD 13 [dE P agR 310 (.int 1 311),dE P ag1 312 (.int 1 313),dE P agV 314 (.int 1 315),dE P ag3 316 (.int 1 317),dE P agZ 318 (.int 1 319),dE P ahe 320 (.int 1 321),dE P J33 322 (.int 1 323),dE P afH 324 (.int 1 325),dE P agQ 326 (.int 1 327),dE P ahh 328 (.int 1 329),dE P agc 330 (.int 1 331),dE P afj 332 (.int 1 333),dE P afl 334 (.int 1 335)],oT []]++((oCa P Xc 69 352 15 (oS J29 257) (ajN P) (by walk_at "#1`tS`|HT`Ea-7a4`Qa:<a?`[aF`aaL`faS`kaY"))++(g75++([(o82 P)]++(g83++((oA (at2 7 2) ago ((by walk_at "$Program.here"):List Nat) 90 384 31 1 .none (oS J29 257) [J0])++(g97++(alh++([(aao P)]++(ai4++(ai8++(ajl++(ajc++([(ZS P)]++(ai5++(ajq++([oT [(oS Yy 461),(oS agk 462),(oS afu 463),(oS ag4 464),(oS J49 465),(oS J77 466),(oS afU 467),(oS ajj 468)]]++((ai7 P)++([oG "getset_descriptor" [(oS J60 470),(.ref 157),(.builtin "function.__dict__"),(.builtin "function.__dict__#set")],oG "getset_descriptor" [(oS J50 472),(.ref 157),(.builtin "ExceptionGroup.__weakref__"),.none],oSu 157,oIn 157]++((oA (at1 9) J93 J93 162 479 85 1 .none (oS J1 477) [([110,111,100,101]:List Nat)])++((oB (at1 10) Wp Wp 169 486 87 1 .none (oS J1 477))++([oT []]++((oCa P aaZ 175 494 89 (oS J1 477) (aiM P) [91,186])++((oA (at2 11 0) J4 ((by walk_at "$Node.row"):List Nat) 181 504 91 1 .none (oS J1 477) [J0])++([oT []]++((ah9 P)++([oG "getset_descriptor" [(oS J60 512),(.ref 190),(.builtin "function.__dict__"),(.builtin "function.__dict__#set")],oG "getset_descriptor" [(oS J50 514),(.ref 190),(.builtin "ExceptionGroup.__weakref__"),.none],oSu 190,oIn 190,oT [(.ref 190)]]++((oCa P Zu 196 521 93 (oS J1 477) (ai2 P) [])++([oT []]++((aia P)++([oSu 204,oIn 204,oT [(.ref 204)]]++((oCa P Xf 208 537 95 (oS J1 477) (ai0 P) [97,219,100,226])++(ajo++((oA (at2 13 1) J4 ((by walk_at "$Literal.row"):List Nat) 221 555 100 1 .none (oS J1 477) [J0])++([oT [(oS J2 562)]]++((ajg P)++([oSu 230,oIn 230,oT [(.ref 204)]]++((oCa P Zh 234 569 106 (oS J1 477) (aiI P) [108,245,115,252])++(ajb++((oA (at2 14 1) J4 ((by walk_at "$Name.row"):List Nat) 247 588 115 1 .none (oS J1 477) [J0])++([oT [(oS J42 595),(oS J84 596),(oS J32 597),(oS J43 598),(oS J67 599)]]++((ajD P)++([oSu 256,oIn 256,oT [(.ref 204)]]++((oCa P ak5 260 606 117 (oS J1 477) (aiH P) [119,271,122,278])++((oA (at2 15 0) J3 ((by walk_at "$Variable.__init__"):List Nat) 266 616 119 2 .none (oS J1 477) [J0,J86])++((oA (at2 15 1) J4 ((by walk_at "$Variable.row"):List Nat) 273 624 122 1 .none (oS J1 477) [J0])++([oT [(oS J86 631)]]++((ajM P)++([oSu 282,oIn 282,oT [(.ref 204)]]++((oCa P J38 286 638 124 (oS J1 477) (aiS P) [126,297,130,304])++((oA (at2 16 0) J3 ((by walk_at "$Unary.__init__"):List Nat) 292 648 126 3 .none (oS J1 477) [J0,J8,agw])++((oA (at2 16 1) J4 ((by walk_at "$Unary.row"):List Nat) 299 657 130 1 .none (oS J1 477) [J0])++([oT [(oS J8 664),(oS agw 665)]]++((ajJ P)++([oSu 308,oIn 308,oT [(.ref 204)]]++((oCa P abf 312 672 132 (oS J1 477) (aiQ P) [134,323,139,330])++((oA (at2 17 0) J3 ((by walk_at "$Binary.__init__"):List Nat) 318 682 134 4 .none (oS J1 477) [J0,J8,J26,J37])++((oA (at2 17 1) J4 ((by walk_at "$Binary.row"):List Nat) 325 692 139 1 .none (oS J1 477) [J0])++([oT [(oS J26 699),(oS J8 700),(oS J37 701)]]++((ajI P)++([oSu 334,oIn 334,oT [(.ref 204)]]++((oCa P ZO 338 708 141 (oS J1 477) (aiX P) [143,349,149,356])++((oA (at2 18 0) J3 ((by walk_at "$Between.__init__"):List Nat) 344 718 143 5 .none (oS J1 477) [J0,J2,agg,afA,J15])++((oA (at2 18 1) J4 ((by walk_at "$Between.row"):List Nat) 351 729 149 1 .none (oS J1 477) [J0])++([oT [(oS afA 736),(oS agg 737),(oS J15 738),(oS J2 739)]]++((ajE P)++([oSu 360,oIn 360,oT [(.ref 204)]]++((oCa P ZR 364 746 151 (oS J1 477) (aiU P) [153,375,158,382])++((oA (at2 19 0) J3 ((by walk_at "$InList.__init__"):List Nat) 370 756 153 4 .none (oS J1 477) [J0,J2,agW,J15])++((oA (at2 19 1) J4 ((by walk_at "$InList.row"):List Nat) 377 766 158 1 .none (oS J1 477) [J0])++([oT [(oS agW 773),(oS J15 774),(oS J2 775)]]++((ajL P)++([oSu 386,oIn 386,oT [(.ref 204)]]++((oCa P Wh 390 782 160 (oS J1 477) (aiY P) [162,401,167,408])++(ajv++((oA (at2 20 1) J4 ((by walk_at "$InSelect.row"):List Nat) 403 802 167 1 .none (oS J1 477) [J0])++([oT [(oS J15 809),(oS J18 810),(oS J2 811)]]++((aju P)++([oSu 412,oIn 412,oT [(.ref 204)]]++((oCa P V9 416 818 169 (oS J1 477) (aiK P) [171,427,175,434])++(ajy++((oA (at2 21 1) J4 ((by walk_at "$Exists.row"):List Nat) 429 837 175 1 .none (oS J1 477) [J0])++([oT [(oS J15 844),(oS J18 845)]]++((ajA P)++([oSu 438,oIn 438,oT [(.ref 204)]]++((oCa P YH 442 852 177 (oS J1 477) (aiG P) [179,453,182,460])++(ajs++((oA (at2 22 1) J4 ((by walk_at "$Scalar.row"):List Nat) 455 870 182 1 .none (oS J1 477) [J0])++([oT [(oS J18 877)]]++((ajr P)++([oSu 464,oIn 464,oT [(.ref 204)]]++((oCa P Zn 468 884 184 (oS J1 477) (aiN P) [186,479,191,484])++((oA (at2 23 0) J3 ((by walk_at "$Case.__init__"):List Nat) 474 894 186 4 .none (oS J1 477) [J0,Z9,af6,J45])++((oB (at2 23 1) J4 ((by walk_at "$Case.row"):List Nat) 481 904 191 1 .none (oS J1 477))++([oT [(oS Z9 910),(oS J45 911),(oS af6 912)]]++((ajF P)++([oSu 488,oIn 488,oT [(.ref 204)]]++((oCa P abj 492 919 194 (oS J1 477) (aiR P) [196,503,202,510])++((oA (at2 24 0) J3 ((by walk_at "$Call.__init__"):List Nat) 498 929 196 5 .none (oS J1 477) [J0,J88,agM,afs,afx])++((oA (at2 24 1) J4 ((by walk_at "$Call.row"):List Nat) 505 940 202 1 .none (oS J1 477) [J0])++([oT [(oS agM 947),(oS afs 948),(oS J88 949),(oS afx 950)]]++((oCb P abj 513 919 194 (oS J1 477) (aiR P) 2 [dE P J9 952 .none] [(.ref 204)] [(.ref 204),(.ref 190),(.type "object")] [] 491 "object.__new__":List Obj)++([oSu 514,oIn 514,oT [(.ref 204)]]++((oCa P YV 518 957 204 (oS J1 477) (ai1 P) [206,529,210,536])++((oA (at2 25 0) J3 ((by walk_at "$Cast.__init__"):List Nat) 524 967 206 3 .none (oS J1 477) [J0,J2,Yw])++((oA (at2 25 1) J4 ((by walk_at "$Cast.row"):List Nat) 531 976 210 1 .none (oS J1 477) [J0])++([oT [(oS Yw 983),(oS J2 984)]]++((ajG P)++([oSu 540,oIn 540,oT [(.ref 204)]]++((oCa P V2 544 991 212 (oS J1 477) (aiP P) [214,555,218,562])++((oA (at2 26 0) J3 ((by walk_at "$Collate.__init__"):List Nat) 550 1001 214 3 .none (oS J1 477) [J0,J2,J16])++((oA (at2 26 1) J4 ((by walk_at "$Collate.row"):List Nat) 557 1010 218 1 .none (oS J1 477) [J0])++([oT [(oS J16 1017),(oS J2 1018)]]++((ajK P)++([oSu 566,oIn 566,oT [(.ref 204)]]++((oCa P J34 570 1025 220 (oS J1 477) (aiZ P) [222,581,226,588])++((oA (at2 27 0) J3 ((by walk_at "$IsNull.__init__"):List Nat) 576 1035 222 3 .none (oS J1 477) [J0,J2,J15])++((oA (at2 27 1) J4 ((by walk_at "$IsNull.row"):List Nat) 583 1044 226 1 .none (oS J1 477) [J0])++([oT [(oS J15 1051),(oS J2 1052)]]++((ajP P)++([oSu 592,oIn 592,oT [(.ref 204)]]++((oCa P Yb 596 1059 228 (oS J1 477) (aiF P) [230,607,237,614])++((oA (at2 28 0) J3 ((by walk_at "$Match.__init__"):List Nat) 602 1069 230 6 .none (oS J1 477) [J0,J35,J2,ag5,agU,J15])++((oA (at2 28 1) J4 ((by walk_at "$Match.row"):List Nat) 609 1081 237 1 .none (oS J1 477) [J0,J51])++([oT [(oS agU 1089),(oS J15 1090),(oS ag5 1091),(oS J2 1092),(oS J35 1093)]]++((oCb P Yb 617 1059 228 (oS J1 477) (aiF P) 2 [dE P J9 1095 .none] [(.ref 204)] [(.ref 204),(.ref 190),(.type "object")] [] 595 "object.__new__":List Obj)++([oSu 618,oIn 618,oT [(.ref 190)]]++((oCa P aa1 622 1100 240 (oS J1 477) (aiV P) [242,633,248,640])++(ajC++((oA (at2 29 1) J4 ((by walk_at "$Select.row"):List Nat) 635 1121 248 1 .none (oS J1 477) [J0,J51])++([oT [(oS J61 1129),(oS J57 1130),(oS J63 1131),(oS J52 1132)]]++((ajf P)++([oSu 644,oIn 644,(Wz P)]++((oA (at1 33) Y8 Y8 648 1144 254 1 .none (oS agl 1137) [J80,([115,105,103,110,115]:List Nat),([115,105,103,110]:List Nat)])++((oA (at1 34) Xm Xm 655 1153 262 1 .none (oS agl 1137) [Yw,J88,([112,97,114,116]:List Nat)])++(aje++((oB (at1 37) aaQ aaQ 669 1172 285 1 .none (oS J62 1170))++([(XJ P)]++(aji++(ajm++(ajB++([oT [.none]]++((oA (at1 41) ZK ZK 697 1200 315 2 (.ref 696) (oS J62 1170) [J7,ag2])++((oA (at1 42) ak8 ak8 704 1208 317 1 .none (oS J62 1170) [agM,J7,J97])++(ai9++((oA (at1 45) Zp Zp 718 1228 329 1 .none (oS J14 1226) [J8])++((oA (at1 46) ak9 ak9 725 1235 331 1 .none (oS J14 1226) [J8])++([oT []]++((oCa P ZJ 733 1244 333 (oS J14 1226) (aiT P) (by walk_at "#b.c4b/c8b2c:b4c;b5c=b6c?b8cAb:cBb=cDb>cGbAcHbFcJbJcLbNcMbQcNbRcO"))++(ajw++([(Zi P)]++(ai3++((oA (at2 47 2) J45 ((by walk_at "$OperatorCoder.other"):List Nat) 754 1273 366 3 .none (oS J14 1226) [J0,J7,J11])++((oA (at2 47 3) J93 ((by walk_at "$OperatorCoder.row_of"):List Nat) 761 1282 369 2 .none (oS J14 1226) [J0,agz,Yf,J46])++(ajz++((oA (at2 47 5) J30 ((by walk_at "$OperatorCoder.binary"):List Nat) 775 1304 379 3 .none (oS J14 1226) [J0,J7,J11,J26,J37,afC,J16])++((oA (at2 47 6) agX ((by walk_at "$OperatorCoder.compared"):List Nat) 782 1317 391 6 .none (oS J14 1226) [J0,J8,J2,XR,J45,J11,J37,afC,J51])++((oA (at2 47 7) aha ((by walk_at "$OperatorCoder.between"):List Nat) 789 1332 397 3 .none (oS J14 1226) [J0,J7,J11,J2,agg,afA])++(ajh++((oA (at2 47 9) aho ((by walk_at "$OperatorCoder.is_null"):List Nat) 803 1353 410 3 .none (oS J14 1226) [J0,J7,J11,J2,J25])++((oA (at2 47 10) afo ((by walk_at "$OperatorCoder.case"):List Nat) 810 1364 418 3 .none (oS J14 1226) [J0,J7,J11,J25,Z9,([119,104,101,110]:List Nat),af7,agK,J97])++((oA (at2 47 11) afE ((by walk_at "$OperatorCoder.in_list"):List Nat) 817 1379 438 3 .none (oS J14 1226) [J0,J7,J11,J2,afR,J25,J51,([105,116,101,109]:List Nat),agK,XR,J97])++([oT [(.bool false)]]++((oA (at2 47 12) agD ((by walk_at "$OperatorCoder.jump_if"):List Nat) 825 1396 459 4 (.ref 824) (oS J14 1226) [J0,J7,J5,aja,Vs,J2])++([oT [(.bool false)]]++((oA (at2 47 13) af3 ((by walk_at "$OperatorCoder.jump_unless"):List Nat) 833 1408 478 4 (.ref 832) (oS J14 1226) [J0,J7,J5,aja,Vs,J2])++((oA (at2 47 14) ahj ((by walk_at "$OperatorCoder.jump_compared"):List Nat) 840 1420 497 5 .none (oS J14 1226) [J0,J7,J8,J5,aja,J26,J37,afC,J51])++((oA (at2 47 15) afB ((by walk_at "$OperatorCoder.jump_null"):List Nat) 847 1435 504 4 .none (oS J14 1226) [J0,J7,J15,J5,J2])++([oT [(oS J78 1446),(oS J36 1447)]]++((aiE P)++([oG "getset_descriptor" [(oS J60 1449),(.ref 856),(.builtin "function.__dict__"),(.builtin "function.__dict__#set")],oG "getset_descriptor" [(oS J50 1451),(.ref 856),(.builtin "ExceptionGroup.__weakref__"),.none],oSu 856,oIn 856,oT [(.ref 856)]]++((oCa P YN 862 1460 508 (oS J96 1456) (aiW P) (by walk_at "#bTcSbUcUbVcVbXcW"))++(ajd++((oA (at2 49 1) J45 ((by walk_at "$FunctionCoder.other"):List Nat) 875 1478 514 3 .none (oS J96 1456) [J0,J7,J11])++((oA (at2 49 2) agn ((by walk_at "$FunctionCoder.call"):List Nat) 882 1487 520 3 .none (oS J96 1456) [J0,J7,J11,agn,XR,J88,((by walk_at "$condition"):List Nat),af7,J45,Yf,J51])++((oA (at2 49 3) agu ((by walk_at "$FunctionCoder.first_known"):List Nat) 889 1504 536 3 .none (oS J96 1456) [J0,agz,J11,J25,J7])++([oT [(oS J66 1515)]]++((air P)++([oSu 898,oIn 898,oT []]++((oCa P W5 902 1524 543 (oS J83 1520) (aiO P) (by walk_at "#b[c[b^c^b_c_b`c`"))++(ajx++((oA (at2 51 1) agT ((by walk_at "$KeyInfo.count"):List Nat) 915 1543 551 1 .none (oS J83 1520) [J0])++((oA (at2 51 2) J16 ((by walk_at "$KeyInfo.collation"):List Nat) 922 1550 554 2 .none (oS J83 1520) [J0,J32])++((oA (at2 51 3) agv ((by walk_at "$KeyInfo.is_descending"):List Nat) 929 1558 559 2 .none (oS J83 1520) [J0,J32])++([oT [(oS aaJ 1566),(oS VS 1567)]]++((ajk P)++([oG "getset_descriptor" [(oS J60 1569),(.ref 938),(.builtin "function.__dict__"),(.builtin "function.__dict__#set")],oG "getset_descriptor" [(oS J50 1571),(.ref 938),(.builtin "ExceptionGroup.__weakref__"),.none],oSu 938,oIn 938,oT [(.ref 898)]]++((oCa P VT 944 1580 562 (oS J19 1576) (aiL P) (by walk_at "#bbcdbecfbfcgbhch"))++(ai6++((oA (at2 53 1) af9 ((by walk_at "$ExpressionCoder.index_column"):List Nat) 957 1601 578 4 .none (oS J19 1576) [J0,af1,J32,J11,Yy,J46])++((oA (at2 53 2) J45 ((by walk_at "$ExpressionCoder.other"):List Nat) 964 1613 589 3 .none (oS J19 1576) [J0,J7,J11])++((oA (at2 53 3) agm ((by walk_at "$ExpressionCoder.match_text"):List Nat) 971 1622 600 3 .none (oS J19 1576) [J0,J7,J11,([112,97,114,116,115]:List Nat),Yf])++([oT []]++((aiD P)++([oSu 980,oIn 980,oT [(.ref 980)]]++((oCa P abg 984 1639 607 (oS J19 1576) (aiJ P) (by walk_at "#bjcmbkcoblcpbncrbqctbwcvb{cxb~czc$c|c%c~"))++([(X0 P)]++(ajn++((oA (at2 54 1) afK ((by walk_at "$Coder.plan"):List Nat) 998 1659 616 3 .none (oS J19 1576) [J0,([99,111,114,101]:List Nat),J52])++(ais++(aih++(aiy++(aiA++(aii++(aiw++(ait++(aig++([oT [(oS J66 1757),(oS J68 1758),(oS J55 1759),(oS J74 1760),(oS J85 1761)]]++((ain P)++([oSu 1063,oIn 1063]++(aio++(aiv++(aiC++(aiz++(aix++(aiu++(aim++(aiB++(aik++(aip++(aij++(aiq++(ail++(aif)))))))))))))))))))))))))))))))))))))))))))))))))))))))))))))))))))))))))))))))))))))))))))))))))))))))))))))))))))))))))))))))))))))))))))))))))))))))))))))))))))))))))))))))))))))))))))))))))))))))))))))))))))))))))))))))))))))))))))))):List Obj)
noncomputable def ah8 (m c:Nat):Obj→Obj
 | ⟨k,d,.fields l,sl⟩=>⟨k,d,.fields ⟨l.toList.take m⟩,sl⟩
 | ⟨k,d,.dict l _,sl⟩=>⟨k,d,.dict ⟨l.toList.take m⟩ c,sl⟩
 | ⟨k,d,.cls x,sl⟩=>⟨k,d,.cls { x with subclasses:=x.subclasses.take m },sl⟩
 | o=>o
noncomputable def fK (e:DictEntry) (m c:Nat):Obj→Obj
 | ⟨k,d,.dict l _,sl⟩=>⟨k,d,.dict ⟨e :: (l.toList.take m).drop 1⟩ c,sl⟩
 | o=>o
noncomputable def N5:BT→Nat→Nat→Nat→BT
 | .nil,_,_,_=>.nil
 | .node v l r,a,b,n=>match Nat.blt b n with
  | true=>.node v (N5 l (2 * a) (a + b) n) (N5 r (2 * a) (2 * a + b) n)
  | false=>.nil
noncomputable def ali:List (Nat × Obj)→BT→BT
 | [],t=>t
 | x :: l,t=>ali l (t.ins x.1 x.2)
def stT (n toks:Nat) (f:Params→List (Nat × Obj)) (w:World) (os:OsState):SharedT:=⟨ali (f w.params) (N5 (aae w.params) 1 0 n),n,{},#[],{},toks,os⟩
def tpB:List Stmt:=behindTheImports prog
def cw:Env:={ scope:=prog.main.scope,locals:=mainNs,globals:=mainNs,cells:=[],code:=.ref 13,frame:=some 14 }
def tpC:Code:=.body tpB cw
noncomputable def sl (l:List Stmt) (i j:Nat):List Stmt:=(l.take j).drop i
def sT2:=stT 15 187 fun P=>[(2,(ah8 0 0 (o2 P))),(3,(fK (dE P J17 165 (.str (sv agp) 164)) 9 9 (o3 P))),(12,(ah8 0 0 (o12 P)))]
def sT6:=stT 54 241 fun P=>[(3,(fK (dE P J17 165 (.str (sv J56) 194)) 12 12 (o3 P))),(12,(ah8 9 0 (o12 P))),(38,(ah8 1 0 (oN (g37 P) 1)))]
def sT8:=stT 66 259 fun P=>[(3,(fK (dE P J17 165 (.str (sv J29) 257)) 13 13 (o3 P))),(12,(ah8 12 0 (o12 P)))]
def sT9:=stT 68 350 fun P=>[(3,(fK (dE P J17 165 (.str (sv J29) 257)) 14 14 (o3 P))),(12,(ah8 12 0 (o12 P)))]
def Xz:=stT 162 479 fun P=>[(3,(fK (dE P J17 165 (.str (sv J1) 477)) 15 15 (o3 P))),(12,(ah8 15 0 (o12 P)))]
def WP:=stT 207 535 fun P=>[(3,(fK (dE P J17 165 (.str (sv J1) 477)) 19 19 (o3 P))),(12,(ah8 27 0 (o12 P))),(190,(ah8 1 0 (oN (ah9 P) 1))),(204,(ah8 0 0 (oN (aia P) 1)))]
def WQ:=stT 259 604 fun P=>[(3,(fK (dE P J17 165 (.str (sv J1) 477)) 21 21 (o3 P))),(12,(ah8 33 0 (o12 P))),(190,(ah8 1 0 (oN (ah9 P) 1))),(204,(ah8 2 0 (oN (aia P) 1)))]
def aad:=stT 311 670 fun P=>[(3,(fK (dE P J17 165 (.str (sv J1) 477)) 23 23 (o3 P))),(12,(ah8 39 0 (o12 P))),(190,(ah8 1 0 (oN (ah9 P) 1))),(204,(ah8 4 0 (oN (aia P) 1)))]
def Z1:=stT 363 744 fun P=>[(3,(fK (dE P J17 165 (.str (sv J1) 477)) 25 25 (o3 P))),(12,(ah8 45 0 (o12 P))),(190,(ah8 1 0 (oN (ah9 P) 1))),(204,(ah8 6 0 (oN (aia P) 1)))]
def aa7:=stT 415 816 fun P=>[(3,(fK (dE P J17 165 (.str (sv J1) 477)) 27 27 (o3 P))),(12,(ah8 51 0 (o12 P))),(190,(ah8 1 0 (oN (ah9 P) 1))),(204,(ah8 8 0 (oN (aia P) 1)))]
def Zf:=stT 467 882 fun P=>[(3,(fK (dE P J17 165 (.str (sv J1) 477)) 29 29 (o3 P))),(12,(ah8 57 0 (o12 P))),(190,(ah8 1 0 (oN (ah9 P) 1))),(204,(ah8 10 0 (oN (aia P) 1)))]
def X5:=stT 517 955 fun P=>[(3,(fK (dE P J17 165 (.str (sv J1) 477)) 31 31 (o3 P))),(12,(ah8 63 0 (o12 P))),(190,(ah8 1 0 (oN (ah9 P) 1))),(204,(ah8 12 0 (oN (aia P) 1)))]
def aab:=stT 569 1023 fun P=>[(3,(fK (dE P J17 165 (.str (sv J1) 477)) 33 33 (o3 P))),(12,(ah8 69 0 (o12 P))),(190,(ah8 1 0 (oN (ah9 P) 1))),(204,(ah8 14 0 (oN (aia P) 1)))]
def VC:=stT 621 1098 fun P=>[(3,(fK (dE P J17 165 (.str (sv J1) 477)) 35 35 (o3 P))),(12,(ah8 75 0 (o12 P))),(190,(ah8 1 0 (oN (ah9 P) 1)))]
def Zl:=stT 711 1217 fun P=>[(3,(fK (dE P J17 165 (.str (sv J62) 1170)) 47 47 (o3 P))),(12,(ah8 105 0 (o12 P)))]
def Xi:=stT 732 1242 fun P=>[(3,(fK (dE P J17 165 (.str (sv J14) 1226)) 50 50 (o3 P))),(12,(ah8 114 0 (o12 P)))]
def YS:=stT 861 1456 fun P=>[(3,(fK (dE P J17 165 (.str (sv J14) 1226)) 51 51 (o3 P))),(12,(ah8 117 0 (o12 P))),(856,(ah8 0 0 (oN (aiE P) 1)))]
def Yv:=stT 901 1522 fun P=>[(3,(fK (dE P J17 165 (.str (sv J83) 1520)) 52 52 (o3 P))),(12,(ah8 120 0 (o12 P))),(898,(ah8 0 0 (oN (air P) 1)))]
def Zb:=stT 943 1578 fun P=>[(3,(fK (dE P J17 165 (.str (sv J19) 1576)) 53 53 (o3 P))),(12,(ah8 123 0 (o12 P))),(898,(ah8 0 0 (oN (air P) 1)))]
def YT:=stT 983 1637 fun P=>[(3,(fK (dE P J17 165 (.str (sv J19) 1576)) 54 54 (o3 P))),(12,(ah8 126 0 (o12 P))),(980,(ah8 0 0 (oN (aiD P) 1)))]
def XH:=stT 1066 1766 fun P=>[(3,(fK (dE P J17 165 (.str (sv J19) 1576)) 55 55 (o3 P))),(12,(ah8 129 0 (o12 P)))]
def NY:=stT 1158 1907 fun P=>[]
theorem gr0 (w:World) (os:OsState):zN yt prog w 11 (some (.ref 6)) 1 480 (sT2 w os) ⟨(At (sl tpB 0 4) cw).wrap doneF deadEnd id id,tpC,⟨0,0,0,0⟩,[topFrame ⟨0,0,0,0⟩]⟩=some (.next,sT6 w os,tpC,⟨9,0,10,8⟩):=by kernel_rfl
theorem gr1 (w:World) (os:OsState):zN yt prog w 11 (some (.ref 6)) 1 223 (sT6 w os) ⟨(At (sl tpB 4 6) cw).wrap doneF deadEnd id id,tpC,⟨9,0,10,8⟩,[topFrame ⟨0,0,0,0⟩]⟩=some (.next,sT8 w os,tpC,⟨13,0,13,8⟩):=by kernel_rfl
theorem gr2 (w:World) (b:Bool) (os:OsState):zN yt prog (w.withFollow "special-get-raises" b) 11 (some (.ref 6)) 1 546 (sT8 (w.withFollow "special-get-raises" b) os) ⟨(At (sl tpB 6 7) cw).wrap doneF deadEnd id id,tpC,⟨13,0,13,8⟩,[topFrame ⟨0,0,0,0⟩]⟩=some (.next,sT9 (w.withFollow "special-get-raises" b) os,tpC,⟨14,0,14,5⟩):=by cases b<;>kernel_rfl
theorem gr3 (w:World) (os:OsState):zN yt prog w 11 (some (.ref 6)) 1 573 (sT9 w os) ⟨(At (sl tpB 7 9) cw).wrap doneF deadEnd id id,tpC,⟨14,0,14,5⟩,[topFrame ⟨0,0,0,0⟩]⟩=some (.next,Xz w os,tpC,⟨84,0,84,8⟩):=by kernel_rfl
theorem gr4 (w:World) (os:OsState):zN yt prog w 11 (some (.ref 6)) 1 489 (Xz w os) ⟨(At (sl tpB 9 13) cw).wrap doneF deadEnd id id,tpC,⟨84,0,84,8⟩,[topFrame ⟨0,0,0,0⟩]⟩=some (.next,WP w os,tpC,⟨93,0,94,8⟩):=by kernel_rfl
theorem gr5 (w:World) (os:OsState):zN yt prog w 11 (some (.ref 6)) 1 586 (WP w os) ⟨(At (sl tpB 13 15) cw).wrap doneF deadEnd id id,tpC,⟨93,0,94,8⟩,[topFrame ⟨0,0,0,0⟩]⟩=some (.next,WQ w os,tpC,⟨106,0,116,48⟩):=by kernel_rfl
theorem gr6 (w:World) (os:OsState):zN yt prog w 11 (some (.ref 6)) 1 583 (WQ w os) ⟨(At (sl tpB 15 17) cw).wrap doneF deadEnd id id,tpC,⟨106,0,116,48⟩,[topFrame ⟨0,0,0,0⟩]⟩=some (.next,aad w os,tpC,⟨124,0,131,53⟩):=by kernel_rfl
theorem gr7 (w:World) (os:OsState):zN yt prog w 11 (some (.ref 6)) 1 591 (aad w os) ⟨(At (sl tpB 17 19) cw).wrap doneF deadEnd id id,tpC,⟨124,0,131,53⟩,[topFrame ⟨0,0,0,0⟩]⟩=some (.next,Z1 w os,tpC,⟨141,0,150,91⟩):=by kernel_rfl
theorem gr8 (w:World) (os:OsState):zN yt prog w 11 (some (.ref 6)) 1 589 (Z1 w os) ⟨(At (sl tpB 19 21) cw).wrap doneF deadEnd id id,tpC,⟨141,0,150,91⟩,[topFrame ⟨0,0,0,0⟩]⟩=some (.next,aa7 w os,tpC,⟨160,0,168,78⟩):=by kernel_rfl
theorem gr9 (w:World) (os:OsState):zN yt prog w 11 (some (.ref 6)) 1 583 (aa7 w os) ⟨(At (sl tpB 21 23) cw).wrap doneF deadEnd id id,tpC,⟨160,0,168,78⟩,[topFrame ⟨0,0,0,0⟩]⟩=some (.next,Zf w os,tpC,⟨177,0,183,44⟩):=by kernel_rfl
theorem abU (w:World) (os:OsState):zN yt prog w 11 (some (.ref 6)) 1 588 (Zf w os) ⟨(At (sl tpB 23 25) cw).wrap doneF deadEnd id id,tpC,⟨177,0,183,44⟩,[topFrame ⟨0,0,0,0⟩]⟩=some (.next,X5 w os,tpC,⟨194,0,203,85⟩):=by kernel_rfl
theorem abH (w:World) (os:OsState):zN yt prog w 11 (some (.ref 6)) 1 585 (X5 w os) ⟨(At (sl tpB 25 27) cw).wrap doneF deadEnd id id,tpC,⟨194,0,203,85⟩,[topFrame ⟨0,0,0,0⟩]⟩=some (.next,aab w os,tpC,⟨212,0,219,60⟩):=by kernel_rfl
theorem abN (w:World) (os:OsState):zN yt prog w 11 (some (.ref 6)) 1 592 (aab w os) ⟨(At (sl tpB 27 29) cw).wrap doneF deadEnd id id,tpC,⟨212,0,219,60⟩,[topFrame ⟨0,0,0,0⟩]⟩=some (.next,VC w os,tpC,⟨228,0,239,65⟩):=by kernel_rfl
theorem ace (w:World) (os:OsState):zN yt prog w 11 (some (.ref 6)) 1 592 (VC w os) ⟨(At (sl tpB 29 43) cw).wrap doneF deadEnd id id,tpC,⟨228,0,239,65⟩,[topFrame ⟨0,0,0,0⟩]⟩=some (.next,Zl w os,tpC,⟨317,0,322,19⟩):=by kernel_rfl
theorem ack (w:World) (os:OsState):zN yt prog w 11 (some (.ref 6)) 1 99 (Zl w os) ⟨(At (sl tpB 43 47) cw).wrap doneF deadEnd id id,tpC,⟨317,0,322,19⟩,[topFrame ⟨0,0,0,0⟩]⟩=some (.next,Xi w os,tpC,⟨331,0,332,113⟩):=by kernel_rfl
theorem abr (w:World) (os:OsState):zN yt prog w 11 (some (.ref 6)) 1 771 (Xi w os) ⟨(At (sl tpB 47 48) cw).wrap doneF deadEnd id id,tpC,⟨331,0,332,113⟩,[topFrame ⟨0,0,0,0⟩]⟩=some (.next,YS w os,tpC,⟨333,0,506,74⟩):=by kernel_rfl
theorem abt (w:World) (os:OsState):zN yt prog w 11 (some (.ref 6)) 1 373 (YS w os) ⟨(At (sl tpB 48 51) cw).wrap doneF deadEnd id id,tpC,⟨333,0,506,74⟩,[topFrame ⟨0,0,0,0⟩]⟩=some (.next,Yv w os,tpC,⟨542,0,542,8⟩):=by kernel_rfl
theorem abM (w:World) (os:OsState):zN yt prog w 11 (some (.ref 6)) 1 329 (Yv w os) ⟨(At (sl tpB 51 53) cw).wrap doneF deadEnd id id,tpC,⟨542,0,542,8⟩,[topFrame ⟨0,0,0,0⟩]⟩=some (.next,Zb w os,tpC,⟨561,0,561,8⟩):=by kernel_rfl
theorem abX (w:World) (os:OsState):zN yt prog w 11 (some (.ref 6)) 1 366 (Zb w os) ⟨(At (sl tpB 53 54) cw).wrap doneF deadEnd id id,tpC,⟨561,0,561,8⟩,[topFrame ⟨0,0,0,0⟩]⟩=some (.next,YT w os,tpC,⟨562,0,606,41⟩):=by kernel_rfl
theorem aci (w:World) (os:OsState):zN yt prog w 11 (some (.ref 6)) 1 595 (YT w os) ⟨(At (sl tpB 54 55) cw).wrap doneF deadEnd id id,tpC,⟨562,0,606,41⟩,[topFrame ⟨0,0,0,0⟩]⟩=some (.next,XH w os,tpC,⟨607,0,698,51⟩):=by kernel_rfl
theorem acj (w:World) (os:OsState):zN yt prog w 11 (some (.ref 6)) 1 451 (XH w os) ⟨(At (sl tpB 55 70) cw).wrap doneF deadEnd id id,tpC,⟨607,0,698,51⟩,[topFrame ⟨0,0,0,0⟩]⟩=some (.next,NY w os,tpC,⟨828,0,861,79⟩):=by kernel_rfl
theorem cm {w:World} {n:Nat} {s a:SharedT} {l:List Stmt} {env:Env} {c:Code} {p q p':Pos} (h:zN yt prog w 11 (some (.ref 6)) 1 n s ⟨(At l env).wrap doneF deadEnd id id,c,p,[topFrame q]⟩=some (.next,a,c,p')) :
  segRun treeTable prog w 11 (some (.ref 6)) 1 n s.abs (piecesOf l env c p [topFrame q])=some (.next,a.abs,c,p'):=by
 refine segRun_of ?_
 show segRunT treeTable prog w 11 (some (.ref 6)) 1 n s ⟨(execs l env).wrap doneF deadEnd id id,c,p,[topFrame q]⟩=_
 rw [ame,amc,PySem.W.Fast.te12563942051412417395]
 exact h
def goA (a b:Bool) (o:Option (SharedT × Thread)) (k:SharedT→Thread→Option (SharedT × Thread)):Option (SharedT × Thread):=match a with
 | true=>none
 | false=>match b with
  | false=>none
  | true=>match o with
   | some x=>k x.1 x.2
   | none=>none
noncomputable def goT (a:Code→Sem Fin) (f:(Code→Sem Fin)→Program→World→SharedT→Thread→Option (SharedT × Thread)) (p:Program) (w:World) (b:Nat) (ann:Option Value):Nat→SharedT→Thread→Option (SharedT × Thread)
 | 0,s,t=>some (s,t)
 | n + 1,s,t=>goA (through t) (stepOk b ann t) (f a p w s t) (goT a f p w b ann n)
theorem Kr {tb:String→Option Builtin} {p:Program} {w:World} {a:Nat} {ann:Option Value}:∀ {n:Nat} {s b:SharedT} {t c:Thread},goT (denote tb) stepT p w a ann n s t=some (b,c)→topGo tb p w a ann n s.abs t=some (b.abs,c)
 | 0,_,_,_,_,h=>by cases h;rfl
 | n + 1,s,b,t,c,h=>by
  have h:goA (through t) (stepOk a ann t) (stepT (denote tb) p w s t) (goT (denote tb) stepT p w a ann n)=some (b,c):=h
  unfold topGo
  cases d:through t with
  | true=>rw [d] at h;cases h
  | false=>
   cases hk:stepOk a ann t with
   | false=>rw [d,hk] at h;cases h
   | true=>
    cases e:stepT (denote tb) p w s t with
    | none=>rw [d,hk,e] at h;cases h
    | some r=>rw [d,hk,e] at h;dsimp only;rw [stepT_spec e];exact Kr h
def JA (P:Params):BT:=((((((((((((.nil:BT).ins 0 (boot_o_0 P)).ins 1 (boot_o_1 P)).ins 2 (boot_o_2 P)).ins 3 (boot_o_3 P)).ins 4 (boot_o_4 P)).ins 5 (boot_o_5 P)).ins 6 (boot_o_6 P)).ins 7 (boot_o_7 P)).ins 8 (boot_o_8 P)).ins 9 (boot_o_9 P)).ins 10 (boot_o_10 P))
def s0T (w:World) (os:OsState):SharedT:=⟨JA w.params,11,{},#[],boot_drawn,181,os⟩
noncomputable abbrev sk:Frame:=topFrame ⟨0,0,0,0⟩
theorem RJ (w:World) (os:OsState):goT (PySem.W.Fast.tw11892475500146522536 yt) PySem.W.Fast.tw10156331382660048174 prog w 11 (some (.ref 6)) 12 (s0T w os) (topStub prog)=some (sT2 w os,⟨PySem.W.Fast.tw11892475500146522536 yt tpC,tpC,⟨0,0,0,0⟩,[sk]⟩):=by kernel_rfl
theorem Uo (w:World) (os:OsState):topGo treeTable prog w 11 (some (.ref 6)) 12 (s0T w os).abs (topStub prog)=some ((sT2 w os).abs,⟨denote treeTable tpC,tpC,⟨0,0,0,0⟩,[sk]⟩):=by
 refine Kr ?_
 rw [PySem.W.Fast.te11892475500146522536,PySem.W.Fast.te10156331382660048174,amc]
 exact RJ w os
theorem Uy (w:World) (os:OsState):zN yt prog w 11 (some (.ref 6)) 1 1 (sT2 w os) ⟨(PySem.W.Fast.tw1066825118222455980 tpB cw).wrap (fun z=>doneF .next) deadEnd id id,tpC,⟨0,0,0,0⟩,[sk]⟩=some (.next,sT2 w os,tpC,⟨0,0,0,0⟩):=by kernel_rfl
theorem SN (w:World) (os:OsState):segRun treeTable prog w 11 (some (.ref 6)) 1 1 (sT2 w os).abs (blockOf tpB cw tpC ⟨0,0,0,0⟩ [sk])=some (.next,(sT2 w os).abs,tpC,⟨0,0,0,0⟩):=by
 refine segRun_of ?_
 show segRunT treeTable prog w 11 (some (.ref 6)) 1 1 _ ⟨(blockStart tpB cw).wrap (fun z=>doneF .next) deadEnd id id,tpC,⟨0,0,0,0⟩,[sk]⟩=_
 rw [ame,amc,PySem.W.Fast.te1066825118222455980]
 exact Uy w os
theorem Sb (w:World) (os:OsState) (p:Pos):topRun treeTable prog w 11 (some (.ref 6)) 2 (NY w os).abs ⟨doneF .next,tpC,p,[sk]⟩=some (NY w os).abs:=rfl
theorem Ms:tpB=sl tpB 0 4++(sl tpB 4 6++(sl tpB 6 7++(sl tpB 7 9++(sl tpB 9 13++(sl tpB 13 15++(sl tpB 15 17++(sl tpB 17 19++(sl tpB 19 21++(sl tpB 21 23++(sl tpB 23 25++(sl tpB 25 27++(sl tpB 27 29++(sl tpB 29 43++(sl tpB 43 47++(sl tpB 47 48++(sl tpB 48 51++(sl tpB 51 53++(sl tpB 53 54++(sl tpB 54 55++(sl tpB 55 70++([]))))))))))))))))))))):=by kernel_rfl
theorem LE (w:World) (os:OsState):topRun treeTable prog w 11 (some (.ref 6)) 10599 (s0T w os).abs (topStub prog)=some (NY w os).abs:=by
 have k:=piece_nil (env:=cw) (Sb w os ⟨828,0,861,79⟩)
 have k:=ut (cm (acj w os)) k
 have k:=ut (cm (aci w os)) k
 have k:=ut (cm (abX w os)) k
 have k:=ut (cm (abM w os)) k
 have k:=ut (cm (abt w os)) k
 have k:=ut (cm (abr w os)) k
 have k:=ut (cm (ack w os)) k
 have k:=ut (cm (ace w os)) k
 have k:=ut (cm (abN w os)) k
 have k:=ut (cm (abH w os)) k
 have k:=ut (cm (abU w os)) k
 have k:=ut (cm (gr9 w os)) k
 have k:=ut (cm (gr8 w os)) k
 have k:=ut (cm (gr7 w os)) k
 have k:=ut (cm (gr6 w os)) k
 have k:=ut (cm (gr5 w os)) k
 have k:=ut (cm (gr4 w os)) k
 have k:=ut (cm (gr3 w os)) k
 have e:w.withFollow "special-get-raises" (w.params.followText "special-get-raises")=w:=alV w _
 have k:=ut (cm (by have h:=gr2 w (w.params.followText "special-get-raises") os;rw [e] at h;exact h)) k
 have k:=ut (cm (gr1 w os)) k
 have k:=ut (cm (gr0 w os)) k
 have k:=piece_block (SN w os) (by rw [Ms];exact k)
 exact go_top (Uo w os) k
def pS:Program:=view prog [69]
def eK:List Str:=[sv X1,sv ZF,sv YM,sv Wf,sv afD,sv Xc,sv J93,sv Wp,sv aaZ,sv Zu,sv Xf,sv Zh,sv ak5,sv J38,sv abf,sv ZO,sv ZR,sv Wh,sv V9,sv YH,sv Zn,sv abj,sv YV,sv V2,sv J34,sv Yb,sv aa1,sv afO,sv agf,sv Y8,sv Xm,sv Vb,sv aaQ,sv Zc,sv ZX,sv XQ,sv ZK,sv ak8,sv YI,sv Zp,sv ak9,sv ZJ,sv YN,sv W5,sv VT,sv abg,sv VY,sv Wy,sv ak7,sv ZT,sv We,sv Ym,sv Y2,sv Ww,sv abk,sv Vd,sv WO,sv Yd,sv aaG]
def mU (P:Params):Heap:=absHeap (ali [] (N5 (aae P) 1 0 1158)) 1158 {}
theorem Mv (w:World) (os:OsState):topRun treeTable prog w 11 (some (.ref 6)) 10599 ⟨boot_heap w.params,Array.mk [],boot_drawn,boot_toks,os⟩ (topStub prog)=some ⟨mU w.params,Array.mk [],{},1907,os⟩:=by
 have e:(⟨boot_heap w.params,Array.mk [],boot_drawn,boot_toks,os⟩:Shared)=(s0T w os).abs:=by kernel_rfl
 rw [e]
 exact LE w os
theorem AE:opening prog=plainProg prog.main.scope.names:=by kernel_rfl
theorem Ai (s:Shared):fenceModules? prog s=some s:=by kernel_rfl
theorem Ji:∀ w:World,(fencedOpening treeTable prog w 10599).map (fun s=>(s.heap,s.gens,s.drawn,s.toks))=some (boot_heap w.params,Array.mk [],boot_drawn,boot_toks):=boot_open AE rfl Ai
theorem FQ (P:Params):((boot_heap P).isNs mainGlobals && (Array.mk []:Array GenState).size == 0,(boot_heap P).objs.size,(boot_heap P).nsMap mainGlobals "__annotations__")=(true,11,some (.ref 6)):=by kernel_rfl
theorem akK (P:Params):staticsOk (importedModules prog.main.body) (boot_heap P) (mU P)=true:=by kernel_rfl
theorem zx (P:Params):namesBound prog (mU P)=true:=by kernel_rfl
theorem Dh (P:Params):laidKept (boot_heap P) (mU P)=true:=by kernel_rfl
theorem DJ (P:Params) (os:OsState):PySem.W.Fast.tw4187177175401517315 pS eK (importedModules prog.main.body) (fun z=>true) true ⟨mU P,Array.mk [],{},1907,os⟩=openGood pS eK:=by kernel_rfl
noncomputable def iY:Code→Bool
 | .forLoop ..=>true
 | .func ..=>true
 | .compLoop ..=>true
 | _=>false
def kc:List Kf→Nat
 | []=>0
 | f :: U=>cst f.c + kc U
abbrev Tv:=Code→List Kf→Bool→Sem Fin→Tr→Nat→Nat→XT→List Nat→List OV→List OV→Out
section
variable (w:World) (top:Tr) (S:List (Sum w top)) (I O:ae8) (d₀:Nat) (lp:Bool)
def akF (T:Tr) (X:XT) (a:Nat) (q:Nat):Option (Nat × Obj):=match Nat.beq q 0 with
 | true=>match tg top a with
  | some o=>some (a,o)
  | none=>none
 | false=>match Nat.beq (q % 2) 1 with
  | true=>match T.get (q / 2) with
   | some o=>some (ad I (q / 2),o)
   | none=>none
  | false=>(uU w.params X)[q / 2 - 1]?
def fG (ih:Tv) (a:Code) (U:List Kf) (T:Tr) (m i:Nat) (X:XT) (or:List Nat) (al ar:List OV):Out:=match ent top a with
 | some t'=>ih a U true t' T m i X or al ar
 | none=>ih a U false (D a) T m i X or al ar
def d8 (ih:Tv) (c:Code) (U:List Kf) (fl:Bool) (t:Sem Fin) (T:Tr) (m i:Nat) (X:XT) (or:List Nat) (al ar:List OV):Out:=match t with
 | .pure fin=>match fin with
  | .done f=>match fl with
   | true=>.stop 13 0
   | false=>match U with
    | []=>.ret (.ok f) T m i X al ar
    | fr :: U=>ih fr.c U fr.fl (fr.k (.ok f)) T m i X or al ar
  | .again c'=>match fl with
   | true=>match Nat.ble (kc U + cst c) d₀ && qk c' with
    | true=>match lp && iY c' && U.isEmpty with
     | true=>.again c' T m i X al ar
     | false=>fG top ih c' U T m i X or al ar
    | false=>.stop 12 0
   | false=>match lp && iY c' && U.isEmpty with
    | true=>.again c' T m i X al ar
    | false=>match qk c' with
     | true=>fG top ih c' U T m i X or al ar
     | false=>.stop 5 0
 | .raise e=>match U with
  | []=>.ret (.error e) T m i X al ar
  | fr :: U=>ih fr.c U fr.fl (fr.k (.error e)) T m i X or al ar
 | .rule _ k=>ih c U fl (k ()) T m i X or al ar
 | .at _ k=>ih c U fl (k ()) T m i X or al ar
 | .point _ k=>ih c U fl (k ()) T m i X or al ar
 | .ask k=>ih c U fl (k ⟨prog,w.params⟩) T m i X or al ar
 | .load a _ k=>match or with
  | []=>.stop 20 a
  | q :: or=>match akF w top I T X a q with
   | some (key,o)=>ih c U fl (k o) T m i X or (.a a :: al) (.a key :: ar)
   | none=>.stop 1 q
 | .loadIfAlive a k=>match or with
  | []=>.stop 20 a
  | q :: or=>match akF w top I T X a q with
   | some (key,o)=>ih c U fl (k (some o)) T m i X or (.a a :: al) (.a key :: ar)
   | none=>.stop 1 q
 | .alloc o k=>match o.isFreed with
  | true=>.stop 3 0
  | false=>match Nat.blt (m + 2) 1099511627776 with
   | true=>ih c U fl (k (ad I m)) (T.put 40 m o) (m + 1) i X or al ar
   | false=>.stop 4 0
 | .update a _ f k=>match or with
  | []=>.stop 20 a
  | q :: or=>match Nat.beq (q % 2) 1 with
   | false=>.stop 6 a
   | true=>match T.get (q / 2) with
    | some o=>match (f o).isFreed with
     | true=>.stop 3 1
     | false=>ih c U fl (k ()) (T.put 40 (q / 2) (f o)) m i X or (.a a :: al) (.a (ad I (q / 2)) :: ar)
    | none=>.stop 2 q
 | .fresh k=>ih c U fl (k (O i)) T m (i + 1) X or al ar
 | .handled own k=>match own with
  | false=>ih c U fl (k none) T m i X or al ar
  | true=>.stop 7 0
 | .call c' hd _ _ k=>match hd with
  | some _=>.stop 8 0
  | none=>match or with
   | []=>.stop 20 0
   | q :: or=>match q with
    | 0=>fG top ih c' (⟨fl,c,k⟩ :: U) T m i X or al ar
    | j + 1=>match S[j]? with
     | none=>.stop 9 j
     | some s=>match Nat.ble (kc U + cst c + s.need) d₀ with
      | false=>.stop 10 j
      | true=>match s.run I O c' T m i X or al ar with
       | none=>.stop 11 j
       | some so=>ih c U fl (k (.ok (flw so.nx so.r))) so.T so.m so.i so.X so.or so.al so.ar
 | .unsupported _=>.stop 30 0
 | .stack _=>.stop 31 0
 | _=>.stop 32 0
def ek:Nat→Tv
 | 0=>fun c U fl t T m i X z al ar=>match U with
  | []=>match fl with
   | false=>.cut c t T m i X al ar
   | true=>.stop 0 1
  | _=>.stop 0 0
 | n + 1=>d8 w top S I O d₀ lp (ek n)
end
section
variable (w:World) (A₀:Around) (R₀:Result→Shared→Prop)
noncomputable def aro:List Kf→Around
 | []=>A₀
 | f :: U=>(aro U).under f.c
def en:List Kf→Result→Shared→Prop
 | []=>R₀
 | f :: U=>postR prog w (aro A₀ U) f.c (postC prog w (aro A₀ U) (en U)) (postE (en U)) (fun r=>rl f.fl (f.k r))
def Mn (c:Code) (U:List Kf) (fl:Bool) (t:Sem Fin) (s:Shared):Prop:=wpOwn (model prog w) (aro A₀ U) c (rl fl t) (postC prog w (aro A₀ U) (en w A₀ R₀ U)) (postE (en w A₀ R₀ U)) s
end
theorem rQ (A:Around):A.mark none=A:=by cases A;rfl
theorem ng {A₀:Around} {d₀:Nat} (d:Ctx A₀ d₀):∀ U,(aro A₀ U).handled=none∧(aro A₀ U).depth≤A₀.depth + kc U∧(aro A₀ U).units≤A₀.units + 10 * kc U
 | []=>⟨d.handled,ai _,ai _⟩
 | f :: U=>by
  obtain ⟨e,g,h⟩:=ng d U
  have a:=akD f.c
  have b:=xU f.c
  refine ⟨e,?_,?_⟩
  · show (aro A₀ U).depth + f.c.weight≤A₀.depth + (cst f.c + kc U);lia
  · show (aro A₀ U).units + f.c.cUnits≤A₀.units + 10 * (cst f.c + kc U);lia
section
variable {w:World} {top:Tr} {S:List (Sum w top)} {A₀:Around} {R₀:Result→Shared→Prop} {h₀:Heap} {F:List Addr} {g:Array GenState} {d:Drawn} {os:OsState} {d₀:Nat} {lp:Bool}
variable (w top A₀ R₀ h₀ F g d os) in
def mY (I:ae8) (o:Out):Prop:=match o with
 | .ret x T m _ X al ar=>al=ar∧∀ h tk,Rep w top h₀ F I T m X h→R₀ x ⟨h,g,d,tk,os⟩
 | .again c T m _ X al ar=>al=ar∧∀ h tk,Rep w top h₀ F I T m X h→c.quiet=true∧codeAny (model prog w) A₀ c R₀ ⟨h,g,d,tk,os⟩
 | .cut c t T m _ X al ar=>al=ar∧∀ h tk,Rep w top h₀ F I T m X h→Mn w A₀ R₀ c [] false t ⟨h,g,d,tk,os⟩
 | .stop _ _=>False
theorem df {T:Tr} {m:Nat} {o:Obj} (h:m < 2 ^ 40 - 1) (j:Nat):(T.put 40 m o).get j=if j=m then some o else T.get j:=Tr.get_put 40 T m o (by lia) j
theorem Rep.num {I:ae8} {T:Tr} {m:Nat} {X:XT} {h:Heap} (D:Rep w top h₀ F I T m X h) {j:Nat} {o:Obj} (q:T.get j=some o):ad I j < h.objs.size:=Dt (D.own j o q).2
theorem Rep.alloc {I:ae8} {T:Tr} {m:Nat} {X:XT} {h:Heap} {o:Obj} (D:Rep w top h₀ F I T m X h) (A:o.isFreed=false) (C:m + 2 < 2 ^ 40) (e:ad I m=h.objs.size) :
  Rep w top h₀ F I (T.put 40 m o) (m + 1) X (h.push o):=by
 have B:(h.push o).get? (ad I m)=some o:=by rw [e];exact Heap.get?_push_size _ A
 have s:∀ j f,T.get j=some f→I j ≠ I m:=fun j f k q=>by
  have:=D.num k
  have:ad I j=ad I m:=by unfold ad;rw [q]
  lia
 refine ⟨fun i j E k u l q=>?_,fun j f q=>?_,fun j f q=>?_,fun p z=>?_,D.xnd,D.xdom,fun b f q=>Heap.get?_push_of_some _ (D.top b f q),fun b f q n=>Heap.get?_push_of_some _ (D.keep b f q n),?_,D.base,by lia⟩
 · rw [df (by lia)] at u l
   by_cases x:i=m
   · by_cases r:j=m
     · rw [x,r]
     · rw [b4 r] at l
       obtain ⟨f,t⟩:=lw.mp l
       exact absurd (q.symm.trans (by rw [x])) (s j f t)
   · rw [b4 x] at u
     obtain ⟨f,t⟩:=lw.mp u
     by_cases r:j=m
     · exact absurd (q.trans (by rw [r])) (s i f t)
     · rw [b4 r] at l
       obtain ⟨v,y⟩:=lw.mp l
       exact D.inj i j (D.own i f t).1 (D.own j v y).1 u l q
 · rw [df (by lia)] at q
   by_cases k:j=m
   · subst k
     rw [jW rfl] at q
     cases q
     exact ⟨al1 _,B⟩
   · rw [b4 k] at q
     obtain ⟨a,b⟩:=D.own j f q
     exact ⟨al9 a,Heap.get?_push_of_some _ b⟩
 · rw [df (by lia)] at q
   by_cases k:j=m
   · subst k;right;rw [e];exact D.size
   · rw [b4 k] at q;exact D.dom j f q
 · obtain ⟨a,b,c⟩:=D.xs p z
   refine ⟨Heap.get?_push_of_some _ a,b,fun j f q=>?_⟩
   rw [df (by lia)] at q
   by_cases k:j=m
   · subst k
     rw [e]
     exact Nat.ne_of_gt (Dt a)
   · rw [b4 k] at q;exact c j f q
 · rw [Zt];exact Nat.le_succ_of_le D.size
theorem b8 (I:ae8) (j:Nat):1158≤ad I j:=Nat.le_add_left _ _
theorem Rep.update {I:ae8} {T:Tr} {m:Nat} {X:XT} {h:Heap} {o:Obj} {j:Nat} {f:Obj→Obj} (D:Rep w top h₀ F I T m X h) (e:T.get j=some o) (v:(f o).isFreed=false) :
  Rep w top h₀ F I (T.put 40 j (f o)) m X (h.update (ad I j) f):=by
 obtain ⟨B,A⟩:=D.own j o e
 have E:=D.room
 have t:Heap.SameBut (ad I j) h (h.update (ad I j) f):=al7 ..
 have s:(h.update (ad I j) f).get? (ad I j)=some (f o):=by first | exact Heap.get?_update_self f A v | exact Heap.get?_update_self _ A v
 have u:(h.update (ad I j) f).objs.size=h.objs.size:=t.1
 have r:∀ i,((T.put 40 j (f o)).get i).isSome=true→(T.get i).isSome=true:=fun i x=>by
  rw [df (by lia)] at x
  by_cases k:i=j
  · subst k;rw [e];rfl
  · rw [b4 k] at x;exact x
 refine ⟨fun a b J hb G H q=>D.inj a b J hb (r a G) (r b H) q,fun i l q=>?_,fun i l q=>?_,fun p C=>?_,D.xnd,D.xdom,fun b l q=>?_,fun b l q n=>?_,by rw [u];exact D.size,D.base,E⟩
 · rw [df (by lia)] at q
   by_cases k:i=j
   · subst k
     rw [jW rfl] at q
     cases q
     exact ⟨B,s⟩
   · rw [b4 k] at q
     obtain ⟨a,b⟩:=D.own i l q
     exact ⟨a,(t.2 _ fun z=>k (D.inj i j a B (by rw [q];rfl) (by rw [e];rfl) (alC z))).trans b⟩
 · rw [df (by lia)] at q
   by_cases k:i=j
   · subst k;exact D.dom i o e
   · rw [b4 k] at q;exact D.dom i l q
 · obtain ⟨a,b,c⟩:=D.xs p C
   refine ⟨(t.2 _ (Ne.symm (c j o e))).trans a,b,fun i l q=>?_⟩
   rw [df (by lia)] at q
   by_cases k:i=j
   · subst k;exact c i o e
   · rw [b4 k] at q;exact c i l q
 · exact (t.2 _ (Nat.ne_of_lt (alM (uJ q) (b8 I j)))).trans (D.top b l q)
 · refine (t.2 _ fun z=>?_).trans (D.keep b l q n)
   rcases D.dom j o e with y | y
   · exact n (z ▸ y)
   · exact absurd (Dt q) (D7.mpr (by rw [z];exact y))
theorem Rep.agree {I I':ae8} {T:Tr} {m:Nat} {X:XT} {h:Heap} (D:Rep w top h₀ F I T m X h) (i:∀ j,j < m→I' j=I j):Rep w top h₀ F I' T m X h:=by
 have e:∀ j,j < m→ad I' j=ad I j:=fun j r=>by unfold ad;rw [i j r]
 refine ⟨fun a b k hb n o q=>D.inj a b k hb n o (by rw [← i a k,← i b hb];exact q),fun j f q=>?_,fun j f q=>?_,fun p l=>?_,D.xnd,D.xdom,D.top,D.keep,D.size,D.base,D.room⟩
 · obtain ⟨a,b⟩:=D.own j f q
   exact ⟨a,by rw [e j a];exact b⟩
 · rw [e j (D.own j f q).1];exact D.dom j f q
 · obtain ⟨a,b,c⟩:=D.xs p l
   exact ⟨a,b,fun j f q=>by rw [e j (D.own j f q).1];exact c j f q⟩
theorem oC {I:ae8} {T:Tr} {m:Nat} {X:XT} {h:Heap} (D:Rep w top h₀ F I T m X h) {a q key:Nat} {o:Obj} (e:akF w top I T X a q=some (key,o)):h.get? key=some o:=by
 delta akF at e
 cases hq:Nat.beq q 0 with
 | true=>
  rw [hq] at e
  dsimp only at e
  cases b:tg top a with
  | none=>rw [b] at e;cases e
  | some o=>rw [b] at e;cases e;exact D.top _ _ b
 | false=>
  rw [hq] at e
  dsimp only at e
  cases c:Nat.beq (q % 2) 1 with
  | true=>
   rw [c] at e
   dsimp only at e
   cases b:T.get (q / 2) with
   | none=>rw [b] at e;cases e
   | some o=>rw [b] at e;cases e;exact (D.own _ _ b).2
  | false=>rw [c] at e;exact (D.xs _ (alU e)).1
theorem pz {I I':ae8} {T:Tr} {m:Nat} {X:XT} {h:Heap} (D:Rep w top h₀ F I T m X h) (c:∀ j,j < m→I' j=I j) (a q:Nat):akF w top I' T X a q=akF w top I T X a q:=by
 delta akF
 cases Nat.beq q 0 with
 | true=>rfl
 | false=>
  cases Nat.beq (q % 2) 1 with
  | false=>rfl
  | true=>
   cases b:T.get (q / 2) with
   | none=>rfl
   | some o=>
    show some (ad I' (q / 2),o)=some (ad I (q / 2),o)
    unfold ad
    rw [c _ (D.own _ _ b).1]
theorem az {n:Nat} {f:ae8}:∀ j,j < n→f j=f j:=fun z z=>rfl
theorem ala (fl:Bool) (a:Addr) (p:Option Value) (k:Obj→Sem Fin):rl fl (.load a p k)=.load a p fun o=>rl fl (k o):=by cases fl<;>rfl
theorem IF (fl:Bool) (a:Addr) (k:Option Obj→Sem Fin):rl fl (.loadIfAlive a k)=.loadIfAlive a fun o=>rl fl (k o):=by cases fl<;>rfl
theorem KM (fl:Bool) (o:Obj) (k:Addr→Sem Fin):rl fl (.alloc o k)=.alloc o fun a=>rl fl (k a):=by cases fl<;>rfl
theorem Fx (fl:Bool) (a:Addr) (p:Option Value) (f:Obj→Obj) (k:Unit→Sem Fin):rl fl (.update a p f k)=.update a p f fun u=>rl fl (k u):=by cases fl<;>rfl
theorem Ko (fl:Bool) (k:Tok→Sem Fin):rl fl (.fresh k)=.fresh fun u=>rl fl (k u):=by cases fl<;>rfl
theorem NK (fl:Bool) (t:String) (k:Unit→Sem Fin):rl fl (.rule t k)=.rule t fun u=>rl fl (k u):=by cases fl<;>rfl
theorem aa8 (fl:Bool) (t:Pos) (k:Unit→Sem Fin):rl fl (.at t k)=.at t fun u=>rl fl (k u):=by cases fl<;>rfl
theorem GC (fl:Bool) (t:List Value) (k:Unit→Sem Fin):rl fl (.point t k)=.point t fun u=>rl fl (k u):=by cases fl<;>rfl
theorem RY (fl:Bool) (k:Setting→Sem Fin):rl fl (.ask k)=.ask fun u=>rl fl (k u):=by cases fl<;>rfl
theorem zE (fl own:Bool) (k:Option Value→Sem Fin):rl fl (.handled own k)=.handled own fun u=>rl fl (k u):=by cases fl<;>rfl
theorem KN (fl:Bool) (e:Value):rl fl (.raise e)=.raise e:=by cases fl<;>rfl
theorem Cp (fl:Bool) (c:Code) (hd:Option Value) (g:Bool) (l:List Value) (k:Result→Sem Fin):rl fl (.call c hd g l k)=.call c hd g l fun r=>rl fl (k r):=by cases fl<;>rfl
theorem sW (I O:ae8):∀ (n:Nat) (c:Code) (U:List Kf) (fl:Bool) (t:Sem Fin) (T:Tr) (m i:Nat) (X:XT) (or:List Nat) (al ar:List OV),
  mY w top A₀ R₀ h₀ F g d os I (ek w top S I O d₀ lp n c U fl t T m i X or al ar)→al=ar:=by
 intro n
 induction n with
 | zero=>
  intro c U fl t T m i X or al ar H
  cases U with
  | nil=>cases fl with
   | false=>exact H.1
   | true=>exact H.elim
  | cons=>exact H.elim
 | succ n ih=>
  intro c U fl t T m i X or al ar H
  have y:ek w top S I O d₀ lp (n + 1)=d8 w top S I O d₀ lp (ek w top S I O d₀ lp n):=rfl
  rw [y] at H
  have h:∀ {a b:OV} {l r:List OV},a :: l=b :: r→l=r:=fun e=>(List.cons.inj e).2
  have u:∀ (v:Code) (U:List Kf) (T:Tr) (m i:Nat) (X:XT) (or:List Nat) (al ar:List OV),mY w top A₀ R₀ h₀ F g d os I (fG top (ek w top S I O d₀ lp n) v U T m i X or al ar)→al=ar:=by
   intro v U T m i X or al ar H
   delta fG at H
   cases he:ent top v with
   | some t'=>rw [he] at H;exact ih _ _ _ _ _ _ _ _ _ _ _ H
   | none=>rw [he] at H;exact ih _ _ _ _ _ _ _ _ _ _ _ H
  cases t with
  | pure fin=>
   cases fin with
   | done f=>cases fl with
    | true=>exact H.elim
    | false=>cases U with
     | nil=>exact H.1
     | cons fr U=>exact ih _ _ _ _ _ _ _ _ _ _ _ H
   | again v=>
    delta d8 at H
    dsimp only at H
    revert H
    cases fl with
    | true=>
     cases (Nat.ble (kc U + cst c) d₀ && qk v) with
     | false=>exact fun H=>H.elim
     | true=>
      cases (lp && iY v && U.isEmpty) with
      | true=>exact fun H=>H.1
      | false=>exact fun H=>u _ _ _ _ _ _ _ _ _ H
    | false=>
     cases (lp && iY v && U.isEmpty) with
     | true=>exact fun H=>H.1
     | false=>
      cases qk v with
      | true=>exact fun H=>u _ _ _ _ _ _ _ _ _ H
      | false=>exact fun H=>H.elim
  | raise e=>cases U with
   | nil=>exact H.1
   | cons fr U=>exact ih _ _ _ _ _ _ _ _ _ _ _ H
  | rule tag k=>exact ih _ _ _ _ _ _ _ _ _ _ _ H
  | «at» q k=>exact ih _ _ _ _ _ _ _ _ _ _ _ H
  | point l k=>exact ih _ _ _ _ _ _ _ _ _ _ _ H
  | ask k=>exact ih _ _ _ _ _ _ _ _ _ _ _ H
  | load a p k=>
   cases or with
   | nil=>exact H.elim
   | cons q or=>
    delta d8 at H
    dsimp only at H
    revert H
    cases akF w top I T X a q with
    | none=>exact fun H=>H.elim
    | some x=>exact fun H=>h (ih _ _ _ _ _ _ _ _ _ _ _ H)
  | loadIfAlive a k=>
   cases or with
   | nil=>exact H.elim
   | cons q or=>
    delta d8 at H
    dsimp only at H
    revert H
    cases akF w top I T X a q with
    | none=>exact fun H=>H.elim
    | some x=>exact fun H=>h (ih _ _ _ _ _ _ _ _ _ _ _ H)
  | alloc o k=>
   delta d8 at H
   dsimp only at H
   revert H
   cases o.isFreed with
   | true=>exact fun H=>H.elim
   | false=>
    cases Nat.blt (m + 2) 1099511627776 with
    | true=>exact fun H=>ih _ _ _ _ _ _ _ _ _ _ _ H
    | false=>exact fun H=>H.elim
  | update a p f k=>
   cases or with
   | nil=>exact H.elim
   | cons q or=>
    delta d8 at H
    dsimp only at H
    revert H
    cases Nat.beq (q % 2) 1 with
    | false=>exact fun H=>H.elim
    | true=>
     cases T.get (q / 2) with
     | none=>exact fun H=>H.elim
     | some o=>
      dsimp only
      cases (f o).isFreed with
      | true=>exact fun H=>H.elim
      | false=>exact fun H=>h (ih _ _ _ _ _ _ _ _ _ _ _ H)
  | fresh k=>exact ih _ _ _ _ _ _ _ _ _ _ _ H
  | handled own k=>cases own with
   | true=>exact H.elim
   | false=>exact ih _ _ _ _ _ _ _ _ _ _ _ H
  | call v hd gd l k=>
   cases hd with
   | some=>exact H.elim
   | none=>
    cases or with
    | nil=>exact H.elim
    | cons q or=>
     cases q with
     | zero=>exact u _ _ _ _ _ _ _ _ _ H
     | succ j=>
      delta d8 at H
      dsimp only at H
      revert H
      cases S[j]? with
      | none=>exact fun H=>H.elim
      | some s=>
       dsimp only
       cases Nat.ble (kc U + cst c + s.need) d₀ with
       | false=>exact fun H=>H.elim
       | true=>
        dsimp only
        cases hr:s.run I O v T m i X or al ar with
        | none=>exact fun H=>H.elim
        | some so=>exact fun H=>s.obl _ _ _ _ _ _ _ _ _ _ so hr (ih _ _ _ _ _ _ _ _ _ _ _ H)
  | _=>exact H.elim
theorem pR (hT:akC top) (L:Ctx A₀ d₀):∀ (n:Nat) (c:Code) (U:List Kf) (fl:Bool) (t:Sem Fin) (T:Tr) (m i:Nat) (X:XT) (or:List Nat) (al ar:List OV) (I O:ae8) (h:Heap) (tk:Nat),
  (∀ I' O',(∀ j,j < m→I' j=I j)→(∀ j,j < i→O' j=O j)→mY w top A₀ R₀ h₀ F g d os I' (ek w top S I' O' d₀ lp n c U fl t T m i X or al ar)) →
  Rep w top h₀ F I T m X h→Mn w A₀ R₀ c U fl t ⟨h,g,d,tk,os⟩:=by
 intro n
 induction n with
 | zero=>
  intro c U fl t T m i X or al ar I O h tk H b
  have H:=H I O az az
  cases U with
  | nil=>cases fl with
   | false=>exact H.2 h tk b
   | true=>exact H.elim
  | cons=>exact H.elim
 | succ n ih=>
  intro c U fl t T m i X or al ar I O h tk H b
  have K:∀ I O,ek w top S I O d₀ lp (n + 1)=d8 w top S I O d₀ lp (ek w top S I O d₀ lp n):=fun zz zz=>rfl
  simp only [K] at H
  have B:∀ (v:Code) (U:List Kf) (T:Tr) (m i:Nat) (X:XT) (or:List Nat) (al ar:List OV) (I O:ae8) (h:Heap) (tk:Nat),
    (∀ I' O',(∀ j,j < m→I' j=I j)→(∀ j,j < i→O' j=O j)→mY w top A₀ R₀ h₀ F g d os I' (fG top (ek w top S I' O' d₀ lp n) v U T m i X or al ar)) →
    Rep w top h₀ F I T m X h→codeAny (model prog w) (aro A₀ U) v (en w A₀ R₀ U) ⟨h,g,d,tk,os⟩:=by
   intro v U T m i X or al ar I O h tk H N
   refine y_code _ _ _ _ _ _ ?_
   unfold fG at H
   revert H
   cases he:ent top v with
   | some t'=>
    intro H
    dsimp only at H
    exact rO he N.top (ih v U true t' T m i X or al ar I O h tk H N)
   | none=>
    intro H
    dsimp only at H
    rw [Zd]
    exact ih v U false (D v) T m i X or al ar I O h tk H N
  cases t with
  | pure fin=>
   cases fin with
   | done f=>
    cases fl with
    | true=>exact (H I O az az).elim
    | false=>
     cases U with
     | nil=>
      obtain ⟨e,hr⟩:=H I O az az
      exact y_pure _ _ _ _ _ _ _ _ _ (y_done _ _ _ _ _ _ (hr h tk b))
     | cons fr U=>
      exact y_pure _ _ _ _ _ _ _ _ _ (y_done _ _ _ _ _ _ (ih fr.c U fr.fl (fr.k (.ok f)) T m i X or al ar I O h tk H b))
   | again v=>
    delta d8 at H
    dsimp only at H
    cases fl with
    | true=>
     simp only at H
     revert H
     cases hn:(Nat.ble (kc U + cst c) d₀ && qk v) with
     | false=>intro H;dsimp only at H;exact (H I O az az).elim
     | true=>
      intro H
      dsimp only at H
      obtain ⟨x,q⟩:=iR.mp hn
      have W:=ag x
      obtain ⟨c1,c2,c3⟩:=ng L U
      have a1:=akD c
      have hdep:=L.depth
      have z:codeAny (model prog w) (aro A₀ U) v (en w A₀ R₀ U) ⟨h,g,d,tk,os⟩:=by
       revert H
       cases hl:(lp && iY v && U.isEmpty) with
       | true=>
        intro H
        dsimp only at H
        have P:U=[]:=by
         simp only [Da] at hl
         exact List.isEmpty_iff.mp hl.2
        subst P
        obtain ⟨e,hr⟩:=H I O az az
        exact (hr h tk b).2
       | false=>
        intro H
        dsimp only at H
        exact B v U T m i X or al ar I O h tk H b
      show wpOwn (model prog w) (aro A₀ U) c (Sem.bind (enterFrame 0) fun zz=>(Sem.pure (Fin.again v):Sem Fin)) _ _ _
      refine Zv (m:=enterFrame 0) (f:=fun zz=>(Sem.pure (Fin.again v):Sem Fin)) (Vu (wpAny_enterFrame (hT h b.top) ?_ ?_))
      · show (aro A₀ U).depth + c.weight < recursionLimit
        have:recursionLimit=1000:=rfl
        lia
      · exact y_pure _ _ _ _ _ _ _ _ _ (y_again _ _ _ _ _ _ (lZ q) z)
    | false=>
     simp only at H
     revert H
     cases hl:(lp && iY v && U.isEmpty) with
     | true=>
      intro H
      dsimp only at H
      have P:U=[]:=by
       simp only [Da] at hl
       exact List.isEmpty_iff.mp hl.2
      subst P
      obtain ⟨e,hr⟩:=H I O az az
      obtain ⟨hq,hc⟩:=hr h tk b
      exact y_pure _ _ _ _ _ _ _ _ _ (y_again _ _ _ _ _ _ hq hc)
     | false=>
      intro H
      dsimp only at H
      cases q:qk v with
      | false=>simp only [q] at H;exact (H I O az az).elim
      | true=>
       simp only [q] at H
       have z:=B v U T m i X or al ar I O h tk H b
       exact y_pure _ _ _ _ _ _ _ _ _ (y_again _ _ _ _ _ _ (lZ q) z)
  | raise e=>
   unfold Mn
   rw [KN]
   cases U with
   | nil=>
    obtain ⟨e,hr⟩:=H I O az az
    exact y_raise _ _ _ _ _ _ _ _ _ (y_err _ _ _ (hr h tk b))
   | cons fr U=>
    exact y_raise _ _ _ _ _ _ _ _ _ (y_err _ _ _ (ih fr.c U fr.fl (fr.k (.error e)) T m i X or al ar I O h tk H b))
  | rule tag k=>unfold Mn;rw [NK];exact y_skim _ _ _ _ _ _ _ _ _ 1 (ih c U fl (k ()) T m i X or al ar I O h tk H b)
  | «at» q k=>unfold Mn;rw [aa8];exact y_skim _ _ _ _ _ _ _ _ _ 1 (ih c U fl (k ()) T m i X or al ar I O h tk H b)
  | point l k=>unfold Mn;rw [GC];exact y_skim _ _ _ _ _ _ _ _ _ 1 (ih c U fl (k ()) T m i X or al ar I O h tk H b)
  | ask k=>unfold Mn;rw [RY];exact y_skim _ _ _ _ _ _ _ _ _ 1 (ih c U fl (k ⟨prog,w.params⟩) T m i X or al ar I O h tk H b)
  | load a p k=>
   delta d8 at H
   dsimp only at H
   cases or with
   | nil=>exact (H I O az az).elim
   | cons q or=>
    simp only at H
    cases E:akF w top I T X a q with
    | none=>
     have:=H I O az az
     simp only [E] at this;exact this.elim
    | some p=>
     obtain ⟨key,o⟩:=p
     have C:∀ I' O',(∀ j,j < m→I' j=I j)→(∀ j,j < i→O' j=O j)→mY w top A₀ R₀ h₀ F g d os I' (ek w top S I' O' d₀ lp n c U fl (k o) T m i X or (.a a :: al) (.a key :: ar)):=by
      intro I' O' x A
      have:=H I' O' x A
      rw [pz b x,E] at this
      exact this
     have e:=(List.cons.inj (sW I O _ _ _ _ _ _ _ _ _ _ _ _ (C I O az az))).1
     injection e with e1
     have J:=oC b E
     rw [← e1] at J
     unfold Mn
     rw [ala]
     exact y_load _ _ _ _ _ _ _ _ _ _ _ _ _ _ _ _ J (ih c U fl (k o) T m i X or _ _ I O h tk C b)
  | loadIfAlive a k=>
   delta d8 at H
   dsimp only at H
   cases or with
   | nil=>exact (H I O az az).elim
   | cons q or=>
    simp only at H
    cases E:akF w top I T X a q with
    | none=>
     have:=H I O az az
     simp only [E] at this;exact this.elim
    | some p=>
     obtain ⟨key,o⟩:=p
     have C:∀ I' O',(∀ j,j < m→I' j=I j)→(∀ j,j < i→O' j=O j)→mY w top A₀ R₀ h₀ F g d os I' (ek w top S I' O' d₀ lp n c U fl (k (some o)) T m i X or (.a a :: al) (.a key :: ar)):=by
      intro I' O' x A
      have:=H I' O' x A
      rw [pz b x,E] at this
      exact this
     have e:=(List.cons.inj (sW I O _ _ _ _ _ _ _ _ _ _ _ _ (C I O az az))).1
     injection e with e1
     have J:=oC b E
     rw [← e1] at J
     unfold Mn
     rw [IF]
     exact y_alive _ _ _ _ _ _ _ _ _ _ _ _ _ _ _ J (ih c U fl (k (some o)) T m i X or _ _ I O h tk C b)
  | alloc o k=>
   delta d8 at H
   dsimp only at H
   revert H
   cases Q:o.isFreed with
   | true=>intro H;dsimp only at H;exact (H I O az az).elim
   | false=>
    intro H
    dsimp only at H
    revert H
    cases hb:Nat.blt (m + 2) 1099511627776 with
    | false=>intro H;dsimp only at H;exact (H I O az az).elim
    | true=>
     intro H
     dsimp only at H
     have hm:m + 2 < 2 ^ 40:=by
      have:=ag hb
      have e40:(2:Nat) ^ 40=1099511627776:=by decide
      lia
     have hsz:1158≤h.objs.size:=wt b.base b.size
     let M:Nat→Nat:=fun j=>if j=m then h.objs.size - 1158 else I j
     have hI:∀ j,j < m→M j=I j:=fun j y=>b4 (Nat.ne_of_lt y)
     have e:ad M m=h.objs.size:=by
      show (if m=m then h.objs.size - 1158 else I m) + 1158=h.objs.size
      rw [jW rfl];lia
     have N:=b.agree hI
     have C:∀ I' O',(∀ j,j < m + 1→I' j=M j)→(∀ j,j < i→O' j=O j)→mY w top A₀ R₀ h₀ F g d os I' (ek w top S I' O' d₀ lp n c U fl (k h.objs.size) (T.put 40 m o) (m + 1) i X or al ar):=by
      intro I' O' x A
      have:=H I' O' (fun j y=>(x j (al9 y)).trans (hI j y)) A
      have e':ad I' m=h.objs.size:=by
       have:ad I' m=ad M m:=by unfold ad;rw [x m (al1 _)]
       rw [this,e]
      rw [e'] at this;exact this
     have z:=ih c U fl (k h.objs.size) _ _ i X or al ar M O (h.push o) tk C (N.alloc Q hm e)
     unfold Mn
     rw [KM]
     exact Zv (m:=alloc o) (f:=fun a=>rl fl (k a)) (Vu (wpAny_alloc z))
  | update a p f k=>
   delta d8 at H
   dsimp only at H
   cases or with
   | nil=>exact (H I O az az).elim
   | cons q or=>
    simp only at H
    revert H
    cases hq:Nat.beq (q % 2) 1 with
    | false=>intro H;dsimp only at H;exact (H I O az az).elim
    | true=>
     intro H
     dsimp only at H
     revert H
     cases E:T.get (q / 2) with
     | none=>intro H;dsimp only at H;exact (H I O az az).elim
     | some o=>
      intro H
      dsimp only at H
      revert H
      cases Q:(f o).isFreed with
      | true=>intro H;dsimp only at H;exact (H I O az az).elim
      | false=>
       intro H
       dsimp only at H
       obtain ⟨y,J⟩:=b.own (q / 2) o E
       have e:=(List.cons.inj (sW I O _ _ _ _ _ _ _ _ _ _ _ _ (H I O az az))).1
       injection e with e1
       have C:∀ I' O',(∀ j,j < m→I' j=I j)→(∀ j,j < i→O' j=O j)→mY w top A₀ R₀ h₀ F g d os I' (ek w top S I' O' d₀ lp n c U fl (k ()) (T.put 40 (q / 2) (f o)) m i X or (.a a :: al) (.a (ad I (q / 2)) :: ar)):=by
        intro I' O' x A
        have:=H I' O' x A
        have e:ad I' (q / 2)=ad I (q / 2):=by unfold ad;rw [x _ y]
        rw [e] at this;exact this
       have z:=ih c U fl (k ()) _ m i X or _ _ I O (h.update (ad I (q / 2)) f) tk C (b.update E Q)
       unfold Mn
       rw [Fx,e1]
       exact Zv (m:=updatePart (ad I (q / 2)) p f) (f:=fun u=>rl fl (k u)) (Vu (wpAny_updatePart J z))
  | fresh k=>
   delta d8 at H
   dsimp only at H
   let Z:Nat→Nat:=fun j=>if j=i then tk else O j
   have C:∀ I' O',(∀ j,j < m→I' j=I j)→(∀ j,j < i + 1→O' j=Z j)→mY w top A₀ R₀ h₀ F g d os I' (ek w top S I' O' d₀ lp n c U fl (k tk) T m (i + 1) X or al ar):=by
    intro I' O' x A
    have:=H I' O' x (fun j y=>(A j (al9 y)).trans (b4 (Nat.ne_of_lt y)))
    have e:O' i=tk:=(A i (al1 _)).trans (jW rfl)
    rw [e] at this;exact this
   unfold Mn
   rw [Ko]
   exact y_fresh _ _ _ _ _ _ _ _ _ _ _ _ _ (ih c U fl (k tk) T m (i + 1) X or al ar I Z h (tk + 1) C b)
  | handled own k=>
   cases own with
   | true=>exact (H I O az az).elim
   | false=>
    have z:=ih c U fl (k none) T m i X or al ar I O h tk H b
    unfold Mn
    rw [zE]
    refine y_handled _ _ _ _ _ _ _ _ _ ?_
    rw [(ng L U).1];exact z
  | call v hd gd l k=>
   delta d8 at H
   dsimp only at H
   cases hd with
   | some e=>exact (H I O az az).elim
   | none=>
    simp only at H
    cases or with
    | nil=>exact (H I O az az).elim
    | cons q or=>
     cases q with
     | zero=>
      simp only at H
      have z:=B v (⟨fl,c,k⟩ :: U) T m i X or al ar I O h tk H b
      unfold Mn
      rw [Cp]
      refine y_call _ _ _ _ _ _ _ _ _ _ _ _ _ (by intro q;cases q) ?_
      rw [rQ];exact z
     | succ j=>
      simp only at H
      revert H
      cases hs:S[j]? with
      | none=>intro H;dsimp only at H;exact (H I O az az).elim
      | some s=>
       intro H
       dsimp only at H
       revert H
       cases hn:Nat.ble (kc U + cst c + s.need) d₀ with
       | false=>intro H;dsimp only at H;exact (H I O az az).elim
       | true=>
        intro H
        dsimp only at H
        have W:=ag hn
        obtain ⟨c1,c2,c3⟩:=ng L U
        have a1:=akD c
        have a2:=xU c
        have hC:Ctx ((aro A₀ U).under c) s.need:=⟨c1,by
         show (aro A₀ U).depth + c.weight + s.need≤999
         have:=L.depth;lia,by
         show (aro A₀ U).units + c.cUnits + 10 * s.need≤9899
         have:=L.units;lia⟩
        have key:=s.ok ((aro A₀ U).under c) (postR prog w (aro A₀ U) c (postC prog w (aro A₀ U) (en w A₀ R₀ U)) (postE (en w A₀ R₀ U)) (fun r=>rl fl (k r))) h₀ F I O v T m i X or al ar h g d tk os hC
         (fun I' O' x A=>by
          have G:=H I' O' x A
          revert G
          cases hr:s.run I' O' v T m i X or al ar with
          | none=>intro G;exact G.elim
          | some so=>
           intro G
           obtain ⟨m1,m2⟩:=s.mono _ _ _ _ _ _ _ _ _ _ so hr
           refine ⟨so,rfl,sW _ _ _ _ _ _ _ _ _ _ _ _ _ _ G,fun h' R D'=>?_⟩
           exact ih c U fl (k (.ok (flw so.nx so.r))) so.T so.m so.i so.X so.or so.al so.ar I' O' h' R (fun Y O₂ k1 k2=>by
            have G₂:=H Y O₂ (fun j y=>(k1 j (alM y m1)).trans (x j y)) (fun j y=>(k2 j (alM y m2)).trans (A j y))
            rw [s.loc I' O' Y O₂ _ _ _ _ _ _ _ _ so hr k1 k2] at G₂
            exact G₂) D') b
        unfold Mn
        rw [Cp]
        exact y_call _ _ _ _ _ _ _ _ _ _ _ _ _ (by intro q;cases q) (by rw [rQ];exact key)
  | _=>exact (H I O az az).elim
end
section
inductive Fd where
 | num (n:Nat) | arg (n:Nat) | dict (i:Nat) | ent (i n:Nat) | item (i n:Nat) | locs | iter
noncomputable def ah (n:Nat) (f:ae8):Nat→Nat:=fun j=>match Nat.blt j n with
 | true=>f j
 | false=>0
theorem aJ {n:Nat} {f:ae8} {j:Nat} (h:j < n):ah n f j=f j:=by
 unfold ah
 rw [show Nat.blt j n=true from aF h]
theorem dv {n:Nat} {f:ae8} {j:Nat} (h:n≤j):ah n f j=0:=by
 unfold ah
 cases q:Nat.blt j n with
 | true=>exact absurd (ag q) (by lia)
 | false=>rfl
noncomputable def tc (I:ae8):Nat→List Obj→XL
 | _,[]=>[]
 | j,o :: os=>(ad I j,o) :: tc I (j + 1) os
theorem ano {I:ae8} {j:Nat}:tc I j []=[]:=rfl
theorem anm {I:ae8} {j:Nat} {o:Obj} {os:List Obj}:tc I j (o :: os)=(ad I j,o) :: tc I (j + 1) os:=rfl
structure Has (h:Heap) (L:XL):Prop where
 at_:∀ p,p∈L→h.get? p.1=some p.2∧1158≤p.1
 nd:(L.map (·.1)).Nodup
def HTx (nx:Bool) (w:World) (top:Tr) (need k:Nat) (c:Code) (L:XL) (I:ae8) (K:(Nat→Nat)→(Nat→Nat)→Value × XL):Prop:=
 ∀ (A:Around) (R:Result→Shared→Prop) (h:Heap) (g:Array GenState) (d:Drawn) (tk:Nat) (os:OsState),Ctx A need→aky top h→1158≤h.objs.size→Has h L →
  (∀ I' O' e f,(∀ j,j < k→I' j=I j)→Has e (K I' O').2→(∀ a,a∈(K I' O').2.map (·.1)→a∈L.map (·.1)∨h.objs.size≤a) →
   (∀ b o,h.get? b=some o→b ∉ L.map (·.1)→e.get? b=some o)→h.objs.size≤e.objs.size→R (.ok (flw nx (K I' O').1)) ⟨e,g,d,f,os⟩) →
  codeAny (model prog w) A c R ⟨h,g,d,tk,os⟩
abbrev HT:=HTx false
theorem kl {I:ae8}:∀ {j:Nat} {os:List Obj} {p:Addr × Obj},p∈tc I j os ↔ ∃ i o,os[i]? = some o∧p=(ad I (j + i),o)
 | _,[],p=>by simp [ano]
 | j,o :: os,p=>by
  simp only [anm,b9,kl (j:=j + 1)]
  constructor
  · rintro (rfl | ⟨i,a,h,rfl⟩)
    · exact ⟨0,o,rfl,rfl⟩
    · exact ⟨i + 1,a,h,by rw [alZ,alH]⟩
  · rintro ⟨i,a,h,rfl⟩
    cases i with
    | zero=>left;cases h;rfl
    | succ i=>right;exact ⟨i,a,h,by rw [alZ,alH]⟩
theorem gg {I:ae8}:∀ {j:Nat} {os:List Obj},(tc I j os).map (·.1)=(List.range' j os.length).map (ad I)
 | _,[]=>rfl
 | j,o :: os=>by simp [anm,gg (j:=j + 1),List.range'_succ]
def anu (q:Nat) (b:Bool) (o:Option Obj) (r:Option (List Nat × List Obj × List Nat)):Option (List Nat × List Obj × List Nat):=match b with
 | false=>none
 | true=>match o with
  | none=>none
  | some o=>match r with
   | none=>none
   | some x=>some (q :: x.1,o :: x.2.1,x.2.2)
def IC (T:Tr) (m:Nat):Nat→List Nat→Option (List Nat × List Obj × List Nat)
 | 0,or=>some ([],[],or)
 | _ + 1,[]=>none
 | k + 1,q :: or=>anu q (Nat.blt q m) (T.get q) (IC T m k or)
noncomputable def ndB:List Nat→Bool
 | []=>true
 | q :: l=>!(l.any (Nat.beq q)) && ndB l
theorem gE:∀ {l:List Nat},ndB l=true→l.Nodup
 | [],_=>List.nodup_nil
 | q :: l,h=>by
  have h:=iR.mp (show (!(l.any (Nat.beq q)) && ndB l)=true from h)
  refine K4.mpr ⟨fun hq=>?_,gE h.2⟩
  have:=List.any_eq_false.mp (Bool.not_eq_eq_eq_not.mp h.1) q hq
  exact this (alE q)
theorem lG {T:Tr} {m:Nat} {k:Nat} {or e:List Nat} {os:List Obj} {r:List Nat} (h:IC T m k or=some (e,os,r)) :
  e.length=k∧os.length=k∧∀ (i q:Nat),e[i]? = some q→q < m∧∃ o,os[i]? = some o∧T.get q=some o:=by
 induction k generalizing or e os r with
 | zero=>cases h;exact ⟨rfl,rfl,fun i q h=>by simp at h⟩
 | succ k ih=>
  cases or with
  | nil=>cases h
  | cons q or=>
   have h:anu q (Nat.blt q m) (T.get q) (IC T m k or)=some (e,os,r):=h
   cases d:Nat.blt q m with
   | false=>rw [d] at h;cases h
   | true=>
    cases f:T.get q with
    | none=>rw [d,f] at h;cases h
    | some o=>
     cases g:IC T m k or with
     | none=>rw [d,f,g] at h;cases h
     | some x=>
      rw [d,f,g] at h
      cases h
      obtain ⟨a,b,c⟩:=ih g
      refine ⟨congrArg (· + 1) a,congrArg (· + 1) b,fun i l j=>?_⟩
      cases i with
      | zero=>cases j;exact ⟨ag d,o,rfl,f⟩
      | succ i=>exact c i l j
noncomputable def pZ (T:Tr):List Nat→List Obj→Tr
 | q :: js,o :: os=>pZ (T.put 40 q o) js os
 | _,_=>T
noncomputable def oj (T:Tr):Nat→List Obj→Tr
 | _,[]=>T
 | m,o :: os=>oj (T.put 40 m o) (m + 1) os
theorem pB:∀ {os:List Obj} {T:Tr} {m:Nat} (z:m + os.length < 2 ^ 40) (j:Nat),(oj T m os).get j=if m≤j∧j < m + os.length then os[j - m]? else T.get j
 | [],T,m,_,j=>by
  rw [b4 (by simp)];rfl
 | o :: os,T,m,h,j=>by
  have hl:(o :: os).length=os.length + 1:=rfl
  show (oj (T.put 40 m o) (m + 1) os).get j=_
  rw [pB (by lia),Tr.get_put 40 T m o (by lia)]
  by_cases a:m + 1≤j∧j < m + 1 + os.length
  · rw [jW a,jW (by lia)]
    obtain ⟨i,rfl⟩:∃ i,j=m + 1 + i:=⟨j - (m + 1),by lia⟩
    rw [show m + 1 + i - m=i + 1 by lia,show m + 1 + i - (m + 1)=i by lia];rfl
  · rw [b4 a]
    by_cases b:j=m
    · subst b
      rw [jW rfl,jW (by lia),Nat.sub_self]
      rfl
    · rw [b4 b,b4 (by lia)]
theorem jP:∀ {a:List Nat} {os:List Obj} {T:Tr} {j:Nat} (z:∀ q∈a,q + 1 < 2 ^ 40),j ∉ a→(pZ T a os).get j=T.get j
 | [],os,T,j,_,_=>by cases os<;>rfl
 | q :: a,[],T,j,_,_=>rfl
 | q :: a,o :: os,T,j,hb,hj=>by
  show (pZ (T.put 40 q o) a os).get j=_
  rw [jP (fun x b=>hb x (kt _ b)) (fun h=>hj (kt _ h)),Tr.get_put 40 T q o (hb q (gw ..)),b4 (fun e:j=q=>hj (by rw [e];exact gw ..))]
theorem Cf:∀ {a:List Nat} {os:List Obj} {T:Tr} {i q:Nat} {o:Obj} (z:∀ q∈a,q + 1 < 2 ^ 40),a.Nodup→a[i]? = some q→os[i]? = some o→(pZ T a os).get q=some o
 | [],os,T,i,q,o,_,_,h,_=>by simp at h
 | q' :: a,[],T,i,q,o,_,_,_,h=>by simp at h
 | q' :: a,o' :: os,T,0,q,o,hb,hn,h,h'=>by
  cases h;cases h'
  show (pZ (T.put 40 q' o') a os).get q'=_
  rw [jP (fun x b=>hb x (kt _ b)) (K4.mp hn).1,Tr.get_put 40 T q' o' (hb q' (gw ..)),jW rfl]
 | q' :: a,o' :: os,T,i + 1,q,o,hb,hn,h,h'=>by
  show (pZ (T.put 40 q' o') a os).get q=_
  exact Cf (fun x b=>hb x (kt _ b)) (K4.mp hn).2 h h'
theorem oO {V β:Type} {f:V→β}:∀ {l:List V},(∀ x,x∈l→∀ y,y∈l→f x=f y→x=y)→l.Nodup→(l.map f).Nodup
 | [],_,_=>List.nodup_nil
 | a :: l,h,hn=>by
  obtain ⟨i,d⟩:=K4.mp hn
  refine K4.mpr ⟨fun c=>?_,oO (fun x j y g=>h x (kt _ j) y (kt _ g)) d⟩
  obtain ⟨b,hb,e⟩:=kw.mp c
  exact i (h b (kt _ hb) a (gw ..) e ▸ hb)
structure LC (w:World) (top:Tr) where
 nx:Bool:=false
 P:Type
 fs:List Fd
 qt:Nat
 q:Nat
 it:Nat
 need:Nat
 ext:Code→List Obj→XT→P
 obl:(Nat→Nat)→P→List OV × List OV
 code:(Nat→Nat)→P→Code
 pre:(Nat→Nat)→P→List Obj
 preX:P→XT
 post:(Nat→Nat)→(Nat→Nat)→P→List Obj
 postX:(Nat→Nat)→(Nat→Nat)→P→XT
 res:(Nat→Nat)→(Nat→Nat)→P→Value
 qle:qt≤q
 olen:∀ I p,(obl I p).1.length=(obl I p).2.length
 len:∀ I O p,(post I O p).length=fs.length + qt
 ok:∀ (p:P) (I:ae8),(obl (ah fs.length I) p).1=(obl (ah fs.length I) p).2→(pre (ah fs.length I) p).length=fs.length→HTx nx w top need fs.length (code (ah fs.length I) p) (tc I 0 (pre (ah fs.length I) p)++uU w.params (preX p)) I
  (fun I' O'=>(res (ah (fs.length + q) I') (ah it O') p,tc I' 0 (post (ah (fs.length + q) I') (ah it O') p)++uU w.params (postX (ah (fs.length + q) I') (ah it O') p)))
namespace LC
variable {w:World} {top:Tr} (C:LC w top)
def phi (C:LC w top) (I:ae8) (a:List Nat) (m:Nat):Nat→Nat:=ah (C.fs.length + C.q) fun j=>match a[j]? with
 | some q=>I q
 | none=>I (m + (j - C.fs.length))
def tau (C:LC w top) (O:ae8) (i:Nat):Nat→Nat:=ah C.it fun t=>O (i + t)
def run (C:LC w top) (I O:ae8) (c:Code) (T:Tr) (m i:Nat) (X:XT) (or:List Nat) (al ar:List OV):Option zF:=match IC T m C.fs.length or with
 | none=>none
 | some (js,os,r)=>match ndB js && Nat.blt (m + C.q) 549755813888 with
  | false=>none
  | true=>some { nx:=C.nx,r:=C.res (C.phi I js m) (C.tau O i) (C.ext c os X),T:=oj (pZ T js ((C.post (C.phi I js m) (C.tau O i) (C.ext c os X)).take C.fs.length)) m ((C.post (C.phi I js m) (C.tau O i) (C.ext c os X)).drop C.fs.length),m:=m + C.q,i:=i + C.it,X:=C.postX (C.phi I js m) (C.tau O i) (C.ext c os X),or:=r,al:=.c c :: .os os :: .x X :: ((C.obl (ah C.fs.length (C.phi I js m)) (C.ext c os X)).1++al),ar:=.c (C.code (ah C.fs.length (C.phi I js m)) (C.ext c os X)) :: .os (C.pre (ah C.fs.length (C.phi I js m)) (C.ext c os X)) :: .x (C.preX (C.ext c os X)) :: ((C.obl (ah C.fs.length (C.phi I js m)) (C.ext c os X)).2++ar) }
theorem phi_agree {I I':ae8} {a:List Nat} {m:Nat} (hl:a.length=C.fs.length) (b:∀ (i q:Nat),a[i]? = some q→q < m) (h:∀ j,j < m + C.q→I' j=I j):C.phi I' a m=C.phi I a m:=by
 funext j
 unfold phi
 by_cases hb:j < C.fs.length + C.q
 · rw [aJ hb,aJ hb]
   cases e:a[j]? with
   | some q=>exact h q (alM (b j q e) (alL _ _))
   | none=>
    have:=List.getElem?_eq_none_iff.mp e
    exact h _ (by lia)
 · rw [dv (by lia),dv (by lia)]
theorem tau_agree {O O':ae8} {i:Nat} (h:∀ j,j < i + C.it→O' j=O j):C.tau O' i=C.tau O i:=by
 funext j
 unfold tau
 by_cases hb:j < C.it
 · rw [aJ hb,aJ hb];exact h _ (by lia)
 · rw [dv (by lia),dv (by lia)]
theorem run_some {I O:ae8} {c:Code} {T:Tr} {m i:Nat} {X:XT} {or:List Nat} {al ar:List OV} {b:zF} (h:C.run I O c T m i X or al ar=some b) :
  ∃ a os r,IC T m C.fs.length or=some (a,os,r)∧ndB a=true∧m + C.q < 549755813888∧b.m=m + C.q∧b.i=i + C.it ∧
   b.al=.c c :: .os os :: .x X :: ((C.obl (ah C.fs.length (C.phi I a m)) (C.ext c os X)).1++al) ∧
   b.ar=.c (C.code (ah C.fs.length (C.phi I a m)) (C.ext c os X)) :: .os (C.pre (ah C.fs.length (C.phi I a m)) (C.ext c os X)) :: .x (C.preX (C.ext c os X)) :: ((C.obl (ah C.fs.length (C.phi I a m)) (C.ext c os X)).2++ar) ∧
   b.r=C.res (C.phi I a m) (C.tau O i) (C.ext c os X)∧b.X=C.postX (C.phi I a m) (C.tau O i) (C.ext c os X) ∧
   b.T=oj (pZ T a ((C.post (C.phi I a m) (C.tau O i) (C.ext c os X)).take C.fs.length)) m ((C.post (C.phi I a m) (C.tau O i) (C.ext c os X)).drop C.fs.length)∧b.nx=C.nx:=by
 delta run at h
 cases d:IC T m C.fs.length or with
 | none=>rw [d] at h;cases h
 | some x=>
  obtain ⟨a,os,r⟩:=x
  rw [d] at h
  dsimp only at h
  cases hb:ndB a && Nat.blt (m + C.q) 549755813888 with
  | false=>rw [hb] at h;cases h
  | true=>
   obtain ⟨f,e⟩:=iR.mp hb
   rw [hb] at h
   cases h
   exact ⟨a,os,r,rfl,f,ag e,rfl,rfl,rfl,rfl,rfl,rfl,rfl,rfl⟩
theorem anE {h₀:Heap} {F:List Addr} {I I' A:ae8} {T:Tr} {m n q qt:Nat} {X N:XT} {h h':Heap} {c:List Nat} {post:List Obj} {L:XL} (D:Rep w top h₀ F I T m X h) (nd:c.Nodup) (l1:c.length=n) (E:∀ (i q:Nat),c[i]? = some q→q < m) (hin:∀ i (d:i < c.length),∃ o,T.get c[i]=some o)
  (e1:∀ j,j < m→A j=I j) (e3:∀ j,m≤j→A j=I' (n + (j - m))) (hag:∀ i (d:i < c.length),I' i=I c[i]) (hm:m + q < 549755813888) (hle:qt≤q) (hlen:post.length=n + qt)
  (G:∀ a,a∈L.map (·.1)→(∃ i,∃ d:i < c.length,a=ad I c[i])∨a∈(uU w.params X).map (·.1)) (hge:∀ p∈L,1158≤p.1)
  (hK:Has h' (tc I' 0 post++uU w.params N)) (Q:∀ a,a∈(tc I' 0 post++uU w.params N).map (·.1)→a∈L.map (·.1)∨h.objs.size≤a) (r:∀ b o,h.get? b=some o→b ∉ L.map (·.1)→h'.get? b=some o) (hsz:h.objs.size≤h'.objs.size) :
  Rep w top h₀ F A (oj (pZ T c (post.take n)) m (post.drop n)) (m + q) N h':=by
 subst l1
 have hb40:(549755813888:Nat) < 2 ^ 40:=by decide
 have S:∀ q∈c,q + 1 < 2 ^ 40:=fun q hq=>by
  obtain ⟨i,d,rfl⟩:=List.getElem_of_mem hq
  have:=E i _ (List.getElem?_eq_getElem d)
  lia
 have hT':∀ j o,(oj (pZ T c (post.take c.length)) m (post.drop c.length)).get j=some o →
   (∃ i,∃ d:i < c.length,j=c[i]∧post[i]? = some o)∨(m≤j∧j < m + qt∧post[c.length + (j - m)]? = some o)∨(j ∉ c∧T.get j=some o):=by
  intro j o f
  rw [pB (by rw [List.length_drop];lia)] at f
  by_cases B:m≤j∧j < m + (post.drop c.length).length
  · rw [jW B] at f
    right;left
    rw [List.length_drop] at B
    rw [List.getElem?_drop] at f
    exact ⟨B.1,by lia,f⟩
  · rw [b4 B] at f
    by_cases K:j∈c
    · left
      obtain ⟨i,d,rfl⟩:=List.getElem_of_mem K
      have hpi:(post.take c.length)[i]? = some (post[i]'(by lia)):=by
       rw [List.getElem?_take_of_lt (by lia)]
       exact List.getElem?_eq_getElem _
      rw [Cf S nd (List.getElem?_eq_getElem d) hpi] at f
      cases f
      exact ⟨i,d,rfl,List.getElem?_eq_getElem _⟩
    · right;right
      rw [jP S K] at f
      exact ⟨K,f⟩
 have M:∀ i o,post[i]? = some o→(ad I' i,o)∈tc I' 0 post++uU w.params N:=fun i o d=>
  uj _ (kl.mpr ⟨i,o,d,by rw [JG]⟩)
 have Y:∀ i (d:i < c.length),ad A c[i]=ad I' i:=fun i d=>by
  unfold ad
  rw [e1 _ (E i _ (List.getElem?_eq_getElem d)),hag i d]
 have ad₂n:∀ j,m≤j→ad A j=ad I' (c.length + (j - m)):=fun j f=>by
  unfold ad
  rw [e3 j f]
 have Z:∀ j,j < m→ad A j=ad I j:=fun j f=>by unfold ad;rw [e1 j f]
 have x:∀ j o,j ∉ c→T.get j=some o→ad I j ∉ L.map (·.1):=by
  intro j o f P v
  rcases G _ v with ⟨i,d,e⟩ | hx
  · obtain ⟨o',t'⟩:=hin i d
    have:=D.inj _ _ (D.own _ _ P).1 (E i _ (List.getElem?_eq_getElem d)) (by rw [P];rfl) (by rw [t'];rfl) (alC e)
    exact f (this ▸ alD d)
  · obtain ⟨p,s,e⟩:=kw.mp hx
    exact (D.xs p s).2.2 _ _ P e.symm
 have g:∀ j o,j ∉ c→T.get j=some o→ad I j ∉ (tc I' 0 post++uU w.params N).map (·.1):=by
  intro j o f P v
  rcases Q _ v with q | q
  · exact x j o f P q
  · exact absurd (Dt (D.own _ _ P).2) (D7.mpr q)
 have t:=hK.nd
 have hF:∀ a,a∈L.map (·.1)→a∈F∨h₀.objs.size≤a:=by
  intro a v
  rcases G _ v with ⟨i,d,e⟩ | hx
  · obtain ⟨o',t'⟩:=hin i d
    rw [e];exact D.dom _ _ t'
  · obtain ⟨p,s,e⟩:=kw.mp hx
    rw [← e];exact D.xdom p s
 have R:∀ a,a∈(tc I' 0 post++uU w.params N).map (·.1)→a∈F∨h₀.objs.size≤a:=by
  intro a v
  rcases Q _ v with q | q
  · exact hF a q
  · exact .inr (wt D.size q)
 have l:∀ j o,(oj (pZ T c (post.take c.length)) m (post.drop c.length)).get j=some o →
   (∃ i,i < c.length + qt∧ad A j=ad I' i∧post[i]? = some o∧(∀ u (y:u < c.length),i=u→j=c[u])∧(c.length≤i→j=m + (i - c.length)))∨(j < m∧j ∉ c∧T.get j=some o∧ad A j=ad I j):=by
  intro j o f
  rcases hT' j o f with ⟨i,d,rfl,s⟩ | ⟨B,J,s⟩ | ⟨B,J⟩
  · exact .inl ⟨i,by lia,Y i d,s,fun u y e=>by subst e;rfl,fun h=>by lia⟩
  · exact .inl ⟨c.length + (j - m),by lia,ad₂n j B,s,fun u y e=>by lia,fun h=>by lia⟩
  · exact .inr ⟨(D.own _ _ J).1,B,J,Z j (D.own _ _ J).1⟩
 have k:∀ i o,post[i]? = some o→ad I' i∈(tc I' 0 post).map (·.1):=fun i o d=>by
  rw [gg]
  refine kw.mpr ⟨i,?_,rfl⟩
  rw [List.mem_range'_1]
  have:=(List.getElem?_eq_some_iff.mp d).1
  lia
 have W:∀ i u,i < post.length→u < post.length→ad I' i=ad I' u→i=u:=by
  intro i u d y e
  rw [eQ,Ha] at t
  have n1:=t.1
  rw [gg] at n1
  have:=List.pairwise_map.mp n1
  rcases Nat.lt_trichotomy i u with q | q | q
  · exact absurd e (alY.mp this i u (by simpa using d) (by simpa using y) q |> fun z=>by simpa using z)
  · exact q
  · exact absurd e.symm (alY.mp this u i (by simpa using y) (by simpa using d) q |> fun z=>by simpa using z)
 refine ⟨?_,?_,?_,?_,?_,?_,?_,?_,?_,D.base,by lia⟩
 · intro a b v hb xa xb e
   obtain ⟨oa,ta⟩:=lw.mp xa
   obtain ⟨ob,tb⟩:=lw.mp xb
   have e':ad A a=ad A b:=by unfold ad;rw [e]
   rcases l a oa ta with ⟨ia,la,qa,pa,ja,ka⟩ | ⟨la,na,ga,qa⟩<;>rcases l b ob tb with ⟨ib,lb,qb,pb,jb,kb⟩ | ⟨lb,nb,gb,qb⟩
   · have:ia=ib:=W ia ib (by lia) (by lia) (by rw [← qa,← qb];exact e')
     subst this
     by_cases d:ia < c.length
     · rw [ja ia d rfl,jb ia d rfl]
     · rw [ka (by lia),kb (by lia)]
   · exfalso
     have:=g b ob nb gb
     rw [← qb,← e',qa] at this
     exact this (by rw [eQ];exact uj _ (k ia oa pa))
   · exfalso
     have:=g a oa na ga
     rw [← qa,e',qb] at this
     exact this (by rw [eQ];exact uj _ (k ib ob pb))
   · exact D.inj a b la lb (by rw [ga];rfl) (by rw [gb];rfl) (alC (by rw [← qa,← qb];exact e':ad I a=ad I b))
 · intro j o f
   rcases l j o f with ⟨i,li,q,pi,ji,ki⟩ | ⟨lj,nj,gj,q⟩
   · refine ⟨?_,?_⟩
     · by_cases d:i < c.length
       · rw [ji i d rfl];have:=E i _ (List.getElem?_eq_getElem d);lia
       · rw [ki (by lia)];lia
     · rw [q];exact (hK.at_ _ (M i o pi)).1
   · exact ⟨by lia,by rw [q];exact r _ _ (D.own _ _ gj).2 (x j o nj gj)⟩
 · intro j o f
   rcases l j o f with ⟨i,li,q,pi,ji,ki⟩ | ⟨lj,nj,gj,q⟩
   · rw [q]
     exact R _ (by rw [eQ];exact uj _ (k i o pi))
   · rw [q];exact D.dom _ _ gj
 · intro p s
   have H:=u9 (tc I' 0 post) s
   refine ⟨(hK.at_ p H).1,(hK.at_ p H).2,fun j o f e=>?_⟩
   rcases l j o f with ⟨i,li,q,pi,ji,ki⟩ | ⟨lj,nj,gj,q⟩
   · rw [eQ,Ha] at t
     exact t.2.2 _ (k i o pi) _ (kw.mpr ⟨p,s,rfl⟩) (by rw [← q];exact e)
   · exact g j o nj gj (by rw [← q,e];exact kw.mpr ⟨p,H,rfl⟩)
 · rw [eQ,Ha] at t
   exact t.2.1
 · intro p s
   exact R _ (kw.mpr ⟨p,u9 _ s,rfl⟩)
 · intro b o hb
   refine r b o (D.top b o hb) fun v=>?_
   have B:=uJ hb
   obtain ⟨p,s,e⟩:=kw.mp v
   have J:=hge p s
   have e:p.1=b:=e
   rw [e] at J
   exact absurd J (Nat.not_le.mpr B)
 · intro b o hb hn
   refine r b o (D.keep b o hb hn) fun v=>?_
   rcases hF b v with q | q
   · exact hn q
   · exact absurd (Dt hb) (D7.mpr q)
 · exact wt D.size hsz
theorem sound (A:Around) (R:Result→Shared→Prop) (h₀:Heap) (F:List Addr) (I O:ae8) (c:Code) (T:Tr) (m i:Nat) (X:XT) (or:List Nat) (al ar:List OV) (h:Heap) (g:Array GenState) (d:Drawn) (tk:Nat) (os:OsState)
  (hA:Ctx A C.need)
  (H:∀ I' O',(∀ j,j < m→I' j=I j)→(∀ j,j < i→O' j=O j)→∃ z,C.run I' O' c T m i X or al ar=some z∧z.al=z.ar ∧
   ∀ h' M,Rep w top h₀ F I' z.T z.m z.X h'→R (.ok (flw z.nx z.r)) ⟨h',g,d,M,os⟩)
  (D:Rep w top h₀ F I T m X h):codeAny (model prog w) A c R ⟨h,g,d,tk,os⟩:=by
 obtain ⟨z,hr,he,-⟩:=H I O (fun zz zz=>rfl) (fun zz zz=>rfl)
 refine ex3 (C.run_some hr) fun k objs r l=>?_
 refine an4 l fun hp hnd hm em l=>?_
 refine an4 l fun ei eal ear zz l=>?_
 obtain ⟨-,_⟩:=l
 rw [eal,ear] at he
 simp only [List.cons.injEq,OV.c.injEq,OV.os.injEq,OV.x.injEq] at he
 obtain ⟨hc,hos,hX,he⟩:=he
 have K:=(List.append_inj he (C.olen _ _)).1
 obtain ⟨l1,l2,v⟩:=lG hp
 have nd:=gE hnd
 have B:∀ (i q:Nat),k[i]? = some q→q < m:=fun i q e=>(v i q e).1
 have u:∀ i (n:i < k.length),C.phi I k m i=I k[i]:=fun i n=>by
  unfold phi
  rw [aJ (by lia),List.getElem?_eq_getElem n]
 have f:∀ i (n:i < k.length),ad (C.phi I k m) i=ad I k[i]:=fun i n=>by unfold ad;rw [u i n]
 have hTj:∀ i (n:i < k.length),T.get k[i]=objs[i]? := fun i n=>by
  obtain ⟨-,o,h1,h2⟩:=v i k[i] (List.getElem?_eq_getElem n)
  rw [h2,h1]
 have s:∀ i (n:i < k.length),∃ o,objs[i]? = some o∧T.get k[i]=some o:=fun i n=>(v i k[i] (List.getElem?_eq_getElem n)).2
 let L:XL:=tc (C.phi I k m) 0 objs++uU w.params X
 have memL:∀ a,a∈L.map (·.1)→(∃ i,∃ n:i < k.length,a=ad I k[i])∨a∈(uU w.params X).map (·.1):=by
  intro a ha
  rw [eQ,uC] at ha
  rcases ha with ha | ha
  · left
    rw [gg,kw] at ha
    obtain ⟨i,n,rfl⟩:=ha
    rw [List.mem_range'_1] at n
    exact ⟨i,by lia,f i (by lia)⟩
  · exact .inr ha
 have G:Has h L:=by
  refine ⟨fun p hp=>?_,?_⟩
  · rcases uC.mp hp with hp | hp
    · obtain ⟨i,o,ho,rfl⟩:=kl.mp hp
      rw [JG]
      have n:i < k.length:=by have:=(List.getElem?_eq_some_iff.mp ho).1;lia
      obtain ⟨o',h1,h2⟩:=s i n
      rw [ho] at h1;cases h1
      rw [show ((ad (C.phi I k m) i,o):Addr × Obj).1=ad I k[i] from f i n]
      exact ⟨(D.own _ _ h2).2,b8 _ _⟩
    · exact ⟨(D.xs p hp).1,(D.xs p hp).2.1⟩
  · rw [eQ,Ha]
    refine ⟨?_,D.xnd,?_⟩
    · rw [gg]
      refine oO ?_ List.nodup_range'
      intro x hx y hy e
      rw [List.mem_range'_1] at hx hy
      have J:x < k.length:=by lia
      have P:y < k.length:=by lia
      rw [f x J,f y P] at e
      obtain ⟨ox,-,tx⟩:=s x J
      obtain ⟨oy,-,ty⟩:=s y P
      have:=D.inj _ _ (B x _ (List.getElem?_eq_getElem J)) (B y _ (List.getElem?_eq_getElem P)) (by rw [tx];rfl) (by rw [ty];rfl) (alC e)
      exact (List.getElem_inj nd).mp this
    · intro a ha b hb e
      subst e
      rw [gg,kw] at ha
      obtain ⟨i,n,rfl⟩:=ha
      rw [List.mem_range'_1] at n
      have hi':i < k.length:=by lia
      obtain ⟨o,-,t⟩:=s i hi'
      obtain ⟨p,hp,e⟩:=kw.mp hb
      rw [f i hi'] at e
      exact (D.xs p hp).2.2 _ _ t e.symm
 have Z:aky top h:=D.top
 have key:=C.ok (C.ext c objs X) (C.phi I k m) K (by rw [← hos];lia)
 rw [← hc,← hos,← hX] at key
 refine key A R h g d tk os hA Z (wt D.base D.size) G fun I' O' h' M W hK hfr N hsz=>?_
 let S:Nat→Nat:=fun j=>if j < m then I j else I' (C.fs.length + (j - m))
 let O₂:Nat→Nat:=fun t=>if t < i then O t else O' (t - i)
 have e1:∀ j,j < m→S j=I j:=fun j E=>jW E
 have e2:∀ j,j < i→O₂ j=O j:=fun j E=>jW E
 have Y:C.phi S k m=ah (C.fs.length + C.q) I':=by
  funext j
  by_cases hb:j < C.fs.length + C.q
  · rw [aJ hb]
    unfold phi
    rw [aJ hb]
    by_cases E:j < k.length
    · rw [List.getElem?_eq_getElem E]
      show S k[j]=I' j
      rw [e1 _ (B j _ (List.getElem?_eq_getElem E)),W j (by lia),u j E]
    · rw [List.getElem?_eq_none_iff.mpr (by lia)]
      show S (m + (j - C.fs.length))=I' j
      have:¬ (m + (j - C.fs.length) < m):=by lia
      show (if _ then _ else _)=_
      rw [b4 this]
      congr 1;lia
  · unfold phi
    rw [dv (by lia),dv (by lia)]
 have Q:C.tau O₂ i=ah C.it O':=by
  funext t
  by_cases hb:t < C.it
  · unfold tau
    rw [aJ hb,aJ hb]
    show (if _ then _ else _)=_
    rw [b4 (by lia)]
    congr 1;lia
  · unfold tau
    rw [dv (by lia),dv (by lia)]
 obtain ⟨z,hr,-,hR⟩:=H S O₂ e1 e2
 refine ex3 (C.run_some hr) fun js' objs' r' l=>?_
 refine an4 l fun hp' zz zz em l=>?_
 refine an4 l fun zz zz zz er l=>?_
 refine an2 l fun eX eT enx=>?_
 rw [hp] at hp'
 cases hp'
 rw [Y,Q] at er eX eT
 rw [er,enx] at hR
 refine hR h' M ?_
 rw [em,eX,eT]
 exact anE D nd l1 B (fun i n=>by obtain ⟨o,-,q⟩:=s i n;exact ⟨o,q⟩) e1 (fun j E=>b4 (by lia)) (fun i n=>by rw [W i (by lia),u i n]) hm C.qle (C.len _ _ _) memL (fun p hp=>(G.at_ p hp).2) hK hfr N hsz
def toSum:Sum w top where
 need:=C.need
 run:=C.run
 loc:=by
  intro I O I' O' c T m i X or al ar p h s v
  refine ex3 (C.run_some h) fun n os r a=>?_
  refine an4 a fun d hnd k l a=>?_
  obtain ⟨o,_⟩:=a
  obtain ⟨u,l2,b⟩:=lG d
  have e1:=C.phi_agree (I:=I) (I':=I') (m:=m) u (fun i q e=>(b i q e).1) (fun j t=>s j (by lia))
  have e2:=C.tau_agree (O:=O) (O':=O') (i:=i) (fun j t=>v j (by lia))
  rw [← h]
  unfold run
  rw [d]
  simp only [e1,e2]
 mono:=by
  intro I O c T m i X or al ar p h
  refine ex3 (C.run_some h) fun n os r a=>?_
  refine an4 a fun d hnd k l a=>?_
  obtain ⟨o,_⟩:=a
  lia
 obl:=by
  intro I O c T m i X or al ar p h he
  refine ex3 (C.run_some h) fun n os r a=>?_
  refine an4 a fun d hnd k l a=>?_
  refine an3 a fun o g f z=>?_
  rw [g,f] at he
  simp only [List.cons.injEq] at he
  exact (List.append_inj he.2.2.2 (C.olen _ _)).2
 ok:=C.sound
end LC
noncomputable def isH:OV→Bool
 | .hb _=>true
 | .hv _=>true
 | _=>false
noncomputable def anr (x y:OV) (s:(List OV × List OV) × (List OV × List OV)) (b:Bool):(List OV × List OV) × (List OV × List OV):=match b with
 | true=>(s.1,(x :: s.2.1,y :: s.2.2))
 | false=>((x :: s.1.1,y :: s.1.2),s.2)
noncomputable def spl:List OV→List OV→(List OV × List OV) × (List OV × List OV)
 | x :: l,y :: r=>anr x y (spl l r) (isH x)
 | [],[]=>(([],[]),([],[]))
 | l,r=>((l,r),([],[]))
theorem anj:∀ (l r:List OV),(spl l r).1.1=(spl l r).1.2→(spl l r).2.1=(spl l r).2.2→l=r
 | [],[],_,_=>rfl
 | [],y :: r,h,_=>nomatch (show ([]:List OV)=y :: r from h)
 | x :: l,[],h,_=>nomatch (show x :: l=([]:List OV) from h)
 | x :: l,y :: r,h,h'=>by
  change (anr x y (spl l r) (isH x)).1.1=(anr x y (spl l r) (isH x)).1.2 at h
  change (anr x y (spl l r) (isH x)).2.1=(anr x y (spl l r) (isH x)).2.2 at h'
  cases b:isH x with
  | true=>
   rw [b] at h h'
   have a:=List.cons.inj (show x :: (spl l r).2.1=y :: (spl l r).2.2 from h')
   rw [a.1,anj l r h a.2]
  | false=>
   rw [b] at h h'
   have a:=List.cons.inj (show x :: (spl l r).1.1=y :: (spl l r).1.2 from h)
   rw [a.1,anj l r a.2 h']
noncomputable def yh (T:Tr):List Nat→List OV→List OV
 | [],l=>l
 | j :: js,l=>.o (T.get j) :: yh T js l
noncomputable def zD:List Obj→List OV→List OV
 | [],l=>l
 | o :: os,l=>.o (some o) :: zD os l
inductive En where
 | ret (v:Value) | next | again (c:Code)
noncomputable def JX:Bool→Value→En
 | true,_=>.next
 | false,v=>.ret v
def chk (b:Out) (kept:List Nat) (e:En) (os:List Obj) (X:XT):List OV × List OV:=match b with
 | .ret r T m i X' al ar=>match r with
  | .ok f=>match e with
   | .ret v=>match f with
    | .ret v'=>(.v v' :: .x X' :: yh T kept al,.v v :: .x X :: zD os ar)
    | _=>([.a 0],[.a 1])
   | .next=>match f with
    | .next=>(.v .none :: .x X' :: yh T kept al,.v .none :: .x X :: zD os ar)
    | _=>([.a 0],[.a 1])
   | .again _=>([.a 0],[.a 1])
  | .error _=>([.a 0],[.a 1])
 | .again c' T m i X' al ar=>match e with
  | .again c=>(.c c' :: .x X' :: yh T kept al,.c c :: .x X :: zD os ar)
  | _=>([.a 0],[.a 1])
 | _=>([.a 0],[.a 1])
def ke (w:World) (b:Around) (a:Result→Shared→Prop) (e:En) (s:Shared):Prop:=match e with
 | .ret v=>a (.ok (.ret v)) s
 | .next=>a (.ok .next) s
 | .again c=>c.quiet=true∧codeAny (model prog w) b c a s
noncomputable def ren (kept:List Nat) (f:ae8):Nat→Nat:=fun j=>match kept[j]? with
 | some q=>f q
 | none=>0
inductive bx where
 | code (c:Code) | tree (c:Code) (t:Sem Fin)
def TM (w:World) (top:Tr) (S:List (Sum w top)) (I O:ae8) (d₀ n:Nat) (lp:Bool) (st:bx) (T:Tr) (m:Nat) (X:XT) (or:List Nat):Out:=match st with
 | .code c=>fG top (ek w top S I O d₀ lp n) c [] T m 0 X or [] []
 | .tree c t=>ek w top S I O d₀ lp n c [] false t T m 0 X or [] []
theorem Cg:∀ {c:List Nat} {os:List Obj} {T:Tr} {al ar:List OV},c.length=os.length→yh T c al=zD os ar→al=ar∧∀ (i q:Nat),c[i]? = some q→T.get q=os[i]?
 | [],[],T,al,ar,_,h=>⟨h,fun i q d=>by simp at d⟩
 | [],o :: os,T,al,ar,hl,h=>by cases hl
 | j :: c,[],T,al,ar,hl,h=>by cases hl
 | j :: c,o :: os,T,al,ar,hl,h=>by
  have e:OV.o (T.get j) :: yh T c al=OV.o (some o) :: zD os ar:=h
  injection e with h1 h2
  injection h1 with h1
  obtain ⟨a,b⟩:=Cg (by simpa using hl) h2
  refine ⟨a,fun i q d=>?_⟩
  cases i with
  | zero=>cases d;exact h1
  | succ i=>exact b i q d
theorem Vz {w:World} {top:Tr} {I:ae8} {h:Heap} {os:List Obj} {X:XT} (m:aky top h) (hb:1158≤h.objs.size) (hl:os.length < 1000000) (H:Has h (tc I 0 os++uU w.params X)) :
  Rep w top h ((tc I 0 os++uU w.params X).map (·.1)) I (oj .nil 0 os) os.length X h:=by
 have g:∀ j o,(oj .nil 0 os).get j=some o ↔ os[j]? = some o:=by
  intro j o
  rw [pB (by lia)]
  by_cases i:0≤j∧j < 0 + os.length
  · rw [jW i,Nat.sub_zero]
  · rw [b4 i]
    have:os[j]? = none:=List.getElem?_eq_none_iff.mpr (by lia)
    rw [this]
    constructor<;>intro q<;>cases q
 have f:∀ j o,os[j]? = some o→(ad I j,o)∈tc I 0 os:=fun j o e=>kl.mpr ⟨j,o,e,by rw [JG]⟩
 have nd:=H.nd
 rw [eQ,Ha] at nd
 have d:=nd.1
 rw [gg] at d
 have k:=List.pairwise_map.mp d
 refine ⟨?_,?_,?_,?_,nd.2.1,?_,m,fun b o e Z=>e,ai _,hb,by lia⟩
 · intro a b l hb Z Z e
   rcases Nat.lt_trichotomy a b with q | q | q
   · exact absurd (show ad I a=ad I b by unfold ad;rw [e]) (alY.mp k a b (by simpa using l) (by simpa using hb) q |> fun z=>by simpa using z)
   · exact q
   · exact absurd (show ad I b=ad I a by unfold ad;rw [e]) (alY.mp k b a (by simpa using hb) (by simpa using l) q |> fun z=>by simpa using z)
 · intro j o e
   have e:=(g j o).mp e
   exact ⟨(List.getElem?_eq_some_iff.mp e).1,(H.at_ _ (uj _ (f j o e))).1⟩
 · intro j o e
   have e:=(g j o).mp e
   exact .inl (kw.mpr ⟨_,uj _ (f j o e),rfl⟩)
 · intro p c
   refine ⟨(H.at_ p (u9 _ c)).1,(H.at_ p (u9 _ c)).2,fun j o e q=>?_⟩
   have e:=(g j o).mp e
   exact nd.2.2 _ (kw.mpr ⟨_,f j o e,rfl⟩) _ (kw.mpr ⟨p,c,rfl⟩) q
 · intro p c
   exact .inl (kw.mpr ⟨p,u9 _ c,rfl⟩)
theorem Ny {w:World} {top:Tr} (hT:akC top) {S:List (Sum w top)} {c:Around} {e:Result→Shared→Prop} {h₀:Heap} {F:List Addr} {g:Array GenState} {d:Drawn} {os:OsState} {d₀:Nat} {lp:Bool} (f:Ctx c d₀) {n:Nat} {a:Code} {T:Tr} {m i:Nat} {X:XT} {or:List Nat} {al ar:List OV} {I O:ae8} {h:Heap} {tk:Nat}
  (H:∀ I' O',(∀ j,j < m→I' j=I j)→(∀ j,j < i→O' j=O j)→mY w top c e h₀ F g d os I' (fG top (ek w top S I' O' d₀ lp n) a [] T m i X or al ar))
  (b:Rep w top h₀ F I T m X h):codeAny (model prog w) c a e ⟨h,g,d,tk,os⟩:=by
 refine y_code _ _ _ _ _ _ ?_
 unfold fG at H
 cases he:ent top a with
 | some t'=>
  simp only [he] at H
  exact rO he b.top (pR hT f n a [] true t' T m i X or al ar I O h tk H b)
 | none=>
  simp only [he] at H
  rw [Zd]
  exact pR hT f n a [] false (D a) T m i X or al ar I O h tk H b
theorem nK {k:Nat} {f b:ae8} (h:∀ j,j < k→b j=f j):ah k b=ah k f:=by
 funext j
 by_cases a:j < k
 · rw [aJ a,aJ a,h j a]
 · rw [dv (by lia),dv (by lia)]
theorem tp {w:World} {top:Tr} {h₀:Heap} {L:XL} {I:ae8} {kept:List Nat} {objs:List Obj} {T:Tr} {m:Nat} {X:XT} {al ar:List OV} {k np:Nat}
  (N:np≤kept.length) (hol:objs.length=np) (hnd:ndB kept=true) (F:yh T (kept.take np) al=zD objs ar):al=ar ∧
  ∀ h,Rep w top h₀ (L.map (·.1)) I T m X h→Has h (tc (ren kept I) 0 objs++uU w.params X)∧(∀ a,a∈(tc (ren kept I) 0 objs++uU w.params X).map (·.1)→a∈L.map (·.1)∨h₀.objs.size≤a) ∧
   (∀ b o,h₀.get? b=some o→b ∉ L.map (·.1)→h.get? b=some o)∧h₀.objs.size≤h.objs.size:=by
 obtain ⟨e,l⟩:=Cg (by rw [List.length_take,hol];lia) F
 have c:∀ (i:Nat) (o:Obj),objs[i]? = some o→∃ q,kept[i]? = some q∧T.get q=some o:=by
  intro i o g
  have G:=(List.getElem?_eq_some_iff.mp g).1
  have f:kept[i]? = some (kept[i]'(by lia)):=List.getElem?_eq_getElem _
  refine ⟨_,f,?_⟩
  rw [l i _ (by rw [List.getElem?_take_of_lt (by lia)];exact f),g]
 have nd:=gE hnd
 have d:∀ (i q:Nat),kept[i]? = some q→ad (ren kept I) i=ad I q:=fun i q e=>by unfold ad ren;rw [e]
 refine ⟨e,fun h D=>⟨⟨fun p hp=>?_,?_⟩,fun a ha=>?_,D.keep,D.size⟩⟩
 · rcases uC.mp hp with hp | hp
   · obtain ⟨i,o,H,rfl⟩:=kl.mp hp
     obtain ⟨q,f,j⟩:=c i o H
     rw [JG,d i q f]
     exact ⟨(D.own _ _ j).2,b8 _ _⟩
   · exact ⟨(D.xs p hp).1,(D.xs p hp).2.1⟩
 · rw [eQ,Ha]
   refine ⟨?_,D.xnd,?_⟩
   · rw [gg]
     refine oO ?_ List.nodup_range'
     intro x K y J e
     rw [List.mem_range'_1] at K J
     have n:objs[x]? = some (objs[x]'(by lia)):=List.getElem?_eq_getElem _
     have r:objs[y]? = some (objs[y]'(by lia)):=List.getElem?_eq_getElem _
     obtain ⟨u,A,v⟩:=c x _ n
     obtain ⟨z,t,B⟩:=c y _ r
     rw [d x u A,d y z t] at e
     have:=D.inj u z (D.own _ _ v).1 (D.own _ _ B).1 (by rw [v];rfl) (by rw [B];rfl) (alC e)
     subst this
     obtain ⟨z1,E⟩:=List.getElem?_eq_some_iff.mp A
     obtain ⟨z2,M⟩:=List.getElem?_eq_some_iff.mp t
     exact (List.getElem_inj nd).mp (E.trans M.symm)
   · intro a ha b s e
     subst e
     rw [gg,kw] at ha
     obtain ⟨i,g,rfl⟩:=ha
     rw [List.mem_range'_1] at g
     obtain ⟨q,f,j⟩:=c i _ (List.getElem?_eq_getElem (by lia:i < objs.length))
     obtain ⟨p,hp,e⟩:=kw.mp s
     rw [d i q f] at e
     exact (D.xs p hp).2.2 _ _ j e.symm
 · rw [eQ,uC] at ha
   rcases ha with ha | ha
   · rw [gg,kw] at ha
     obtain ⟨i,g,rfl⟩:=ha
     rw [List.mem_range'_1] at g
     obtain ⟨q,f,j⟩:=c i _ (List.getElem?_eq_getElem (by lia:i < objs.length))
     rw [d i q f]
     exact D.dom _ _ j
   · obtain ⟨p,hp,e⟩:=kw.mp ha
     rw [← e];exact D.xdom p hp
theorem zz (h:[OV.a 0]=[OV.a 1]):False:=by
 injection h with h
 injection h with h
 cases h
theorem ank {a c:Value} {b d:XT} {l r:List OV} (h:OV.v a :: OV.x b :: l=OV.v c :: OV.x d :: r):a=c∧b=d∧l=r:=by
 injection h with h1 h
 injection h1 with h1
 injection h with h2 h
 injection h2 with h2
 exact ⟨h1,h2,h⟩
theorem anl {a c:Code} {b d:XT} {l r:List OV} (h:OV.c a :: OV.x b :: l=OV.c c :: OV.x d :: r):a=c∧b=d∧l=r:=by
 injection h with h1 h
 injection h1 with h1
 injection h with h2 h
 injection h2 with h2
 exact ⟨h1,h2,h⟩
theorem akN {w:World} {top:Tr} {u:Around} {t:Result→Shared→Prop} {h₀:Heap} {L:XL} {g:Array GenState} {d:Drawn} {os:OsState} {I:ae8} {j:Out} {kept:List Nat} {e:En} {objs:List Obj} {X:XT} {ys zs:List OV} {np:Nat}
  (hb:ys=zs) (n:np≤kept.length) (hol:objs.length=np) (hnd:ndB kept=true)
  (run:((spl (chk j (kept.take np) e objs X).1 (chk j (kept.take np) e objs X).2).1.1,(spl (chk j (kept.take np) e objs X).1 (chk j (kept.take np) e objs X).2).2)=((spl (chk j (kept.take np) e objs X).1 (chk j (kept.take np) e objs X).2).1.2,(ys,zs)))
  (K:∀ q s,Has q (tc (ren kept I) 0 objs++uU w.params X)→(∀ a,a∈(tc (ren kept I) 0 objs++uU w.params X).map (·.1)→a∈L.map (·.1)∨h₀.objs.size≤a) →
   (∀ b o,h₀.get? b=some o→b ∉ L.map (·.1)→q.get? b=some o)→h₀.objs.size≤q.objs.size→ke w u t e ⟨q,g,d,s,os⟩) :
  mY w top u t h₀ (L.map (·.1)) g d os I j:=by
 have run:(chk j (kept.take np) e objs X).1=(chk j (kept.take np) e objs X).2:=by
  obtain ⟨r1,r2⟩:=Prod.mk.inj run
  exact anj _ _ r1 (by rw [r2];exact hb)
 cases j with
 | ret r T m i X' al ar=>
  cases r with
  | error e=>exact (zz run).elim
  | ok f=>
   cases e with
   | ret v=>cases f with
    | ret v'=>
     obtain ⟨rfl,rfl,p⟩:=ank run
     obtain ⟨e,l⟩:=tp (w:=w) (top:=top) (h₀:=h₀) (L:=L) (I:=I) (m:=m) (X:=X') (k:=0) n hol hnd p
     exact ⟨e,fun h tk D=>K h tk (l h D).1 (l h D).2.1 (l h D).2.2.1 (l h D).2.2.2⟩
    | _=>exact (zz run).elim
   | next=>cases f with
    | next=>
     obtain ⟨-,rfl,p⟩:=ank run
     obtain ⟨e,l⟩:=tp (w:=w) (top:=top) (h₀:=h₀) (L:=L) (I:=I) (m:=m) (X:=X') (k:=0) n hol hnd p
     exact ⟨e,fun h tk D=>K h tk (l h D).1 (l h D).2.1 (l h D).2.2.1 (l h D).2.2.2⟩
    | _=>exact (zz run).elim
   | again c=>exact (zz run).elim
 | again c' T m i X' al ar=>
  cases e with
  | again c=>
   obtain ⟨rfl,rfl,p⟩:=anl run
   obtain ⟨e,l⟩:=tp (w:=w) (top:=top) (h₀:=h₀) (L:=L) (I:=I) (m:=m) (X:=X') (k:=0) n hol hnd p
   exact ⟨e,fun h tk D=>K h tk (l h D).1 (l h D).2.1 (l h D).2.2.1 (l h D).2.2.2⟩
  | _=>exact (zz run).elim
 | _=>exact (zz run).elim
def tY (w:World) (top:Tr) (S:List (Sum w top)) (need k N it np n:Nat) (lp:Bool) (st:(Nat→Nat)→bx) (pre:(Nat→Nat)→List Obj) (X:XT) (or kept rt:List Nat)
  (e:(Nat→Nat)→(Nat→Nat)→En) (post:(Nat→Nat)→(Nat→Nat)→List Obj) (postX:(Nat→Nat)→(Nat→Nat)→XT) (I O:ae8):List OV × List OV:=
 chk (TM w top S I O need n lp (st (ah k I)) (oj .nil 0 (pre (ah k I))) k X or) (kept.take np) (e (ah N (ren kept I)) (ah it (ren rt O))) (post (ah N (ren kept I)) (ah it (ren rt O))) (postX (ah N (ren kept I)) (ah it (ren rt O)))
abbrev wf (w:World) (top:Tr) (S:List (Sum w top)) (need k N it np n:Nat) (code:(Nat→Nat)→Code) (pre:(Nat→Nat)→List Obj) (X:XT) (or kept rt:List Nat)
  (res:(Nat→Nat)→(Nat→Nat)→Value) (post:(Nat→Nat)→(Nat→Nat)→List Obj) (postX:(Nat→Nat)→(Nat→Nat)→XT) (I O:ae8):List OV × List OV:=
 tY w top S need k N it np n false (fun I=>.code (code I)) pre X or kept rt (fun I O=>.ret (res I O)) post postX I O
def Ran (x:List OV × List OV) (ys zs:List OV):Prop:=((spl x.1 x.2).1.1,(spl x.1 x.2).2)=((spl x.1 x.2).1.2,(ys,zs))
def jL (w:World) (A:Around) (st:bx) (R:Result→Shared→Prop) (s:Shared):Prop:=match st with
 | .code c=>codeAny (model prog w) A c R s
 | .tree c t=>wpOwn (model prog w) A c t (postC prog w A R) (postE R) s
def HE (w:World) (top:Tr) (need k:Nat) (st:bx) (L:XL) (I:ae8) (e:(Nat→Nat)→(Nat→Nat)→En) (K:(Nat→Nat)→(Nat→Nat)→XL):Prop:=
 ∀ (A:Around) (R:Result→Shared→Prop) (h:Heap) (g:Array GenState) (d:Drawn) (tk:Nat) (os:OsState),Ctx A need→aky top h→1158≤h.objs.size→Has h L →
  (∀ I' O' c f,(∀ j,j < k→I' j=I j)→Has c (K I' O')→(∀ a,a∈(K I' O').map (·.1)→a∈L.map (·.1)∨h.objs.size≤a) →
   (∀ b o,h.get? b=some o→b ∉ L.map (·.1)→c.get? b=some o)→h.objs.size≤c.objs.size→ke w A R (e I' O') ⟨c,g,d,f,os⟩) →
  jL w A st R ⟨h,g,d,tk,os⟩
theorem HE.of_ek {w:World} {top:Tr} (hT:akC top) (S:List (Sum w top)) {need k N it np:Nat} (n:Nat) {lp:Bool} {st:(Nat→Nat)→bx} {pre:(Nat→Nat)→List Obj} {X:XT} (or kept rt:List Nat)
  {e:(Nat→Nat)→(Nat→Nat)→En} {post:(Nat→Nat)→(Nat→Nat)→List Obj} {postX:(Nat→Nat)→(Nat→Nat)→XT} (ys zs:(Nat→Nat)→(Nat→Nat)→List OV)
  (hk:∀ I,(pre I).length=k) (hkept:kept.take k=List.range k) (hkn:kept.length=N) (F:np≤N) (hol:∀ I O,(post I O).length=np) (hl:k < 1000000) (hnd:ndB kept=true)
  (I:ae8) (hb:∀ I' O,(∀ j,j < k→I' j=I j)→ys I' O=zs I' O)
  (run:∀ I O,Ran (tY w top S need k N it np n lp st pre X or kept rt e post postX I O) (ys I O) (zs I O)) :
  HE w top need k (st (ah k I)) (tc I 0 (pre (ah k I))++uU w.params X) I (fun I' O'=>e (ah N I') (ah it O'))
   (fun I' O'=>tc I' 0 (post (ah N I') (ah it O'))++uU w.params (postX (ah N I') (ah it O'))):=by
 intro A R h g d tk os y E a p K
 have x:∀ j,j < k→kept[j]? = some j:=fun j o=>by
  have:(kept.take k)[j]? = some j:=by rw [hkept];exact List.getElem?_range o
  rwa [List.getElem?_take_of_lt o] at this
 have D:=Vz E a (by rw [hk];exact hl) p
 rw [hk] at D
 have key:∀ b l:Nat→Nat,(∀ j,j < k→b j=I j)→(∀ j,j < 0→l j=(fun Z=>0:ae8) j)→mY w top A R h ((tc I 0 (pre (ah k I))++uU w.params X).map (·.1)) g d os b (TM w top S b l need n lp (st (ah k I)) (oj .nil 0 (pre (ah k I))) k X or):=by
  intro b l v Z
  have r:=run b l
  unfold Ran tY at r
  rw [nK v] at r
  refine akN (hb b l v) (by lia) (hol _ _) hnd r fun z s B q f u=>?_
  exact K (ren kept b) (ren rt l) z s (fun j o=>by unfold ren;rw [x j o];exact v j o) B q f u
 cases m:st (ah k I) with
 | code c=>
  rw [m] at key
  exact Ny hT (S:=S) (lp:=lp) (n:=n) (i:=0) (or:=or) (al:=[]) (ar:=[]) (O:=fun Z=>0) y key D
 | tree c t=>
  rw [m] at key
  exact pR hT y n c [] false t _ k 0 X or [] [] I (fun Z=>0) h tk key D
theorem HT.of_ek {w:World} {top:Tr} (hT:akC top) (S:List (Sum w top)) {need k N it np:Nat} (n:Nat) {code:(Nat→Nat)→Code} {pre:(Nat→Nat)→List Obj} {X:XT} (or kept rt:List Nat)
  {res:(Nat→Nat)→(Nat→Nat)→Value} {post:(Nat→Nat)→(Nat→Nat)→List Obj} {postX:(Nat→Nat)→(Nat→Nat)→XT} (ys zs:(Nat→Nat)→(Nat→Nat)→List OV)
  (hk:∀ I,(pre I).length=k) (hkept:kept.take k=List.range k) (hkn:kept.length=N) (c:np≤N) (hol:∀ I O,(post I O).length=np) (hl:k < 1000000) (hnd:ndB kept=true)
  (hb:∀ I O,ys I O=zs I O)
  (run:∀ I O,Ran (wf w top S need k N it np n code pre X or kept rt res post postX I O) (ys I O) (zs I O)) (I:ae8) :
  HT w top need k (code (ah k I)) (tc I 0 (pre (ah k I))++uU w.params X) I
   (fun I' O'=>(res (ah N I') (ah it O'),tc I' 0 (post (ah N I') (ah it O'))++uU w.params (postX (ah N I') (ah it O')))):=
 fun A R h g d tk os i f a b K=>
  HE.of_ek hT S n (lp:=false) (st:=fun I=>.code (code I)) (e:=fun I O=>.ret (res I O)) or kept rt ys zs hk hkept hkn c hol hl hnd I (fun I' O z=>hb I' O) run A R h g d tk os i f a b K
structure Raw where
 c:Code
 os:List Obj
 X:XT
structure aq (V:Type) where
 k:Nat
 q:Nat
 qt:Nat
 it:Nat
 need:Nat
 fuel:Nat
 lp:Bool:=false
 kept:List Nat
 rt:List Nat
 or:List Nat
 st:V→(Nat→Nat)→bx
 pre:V→(Nat→Nat)→List Obj
 preX:V→XT
 e:V→(Nat→Nat)→(Nat→Nat)→En
 post:V→(Nat→Nat)→(Nat→Nat)→List Obj
 postX:V→(Nat→Nat)→(Nat→Nat)→XT
 ys:V→(Nat→Nat)→(Nat→Nat)→List OV
 zs:V→(Nat→Nat)→(Nat→Nat)→List OV
namespace aq
variable {V:Type} (M:aq V)
def Runs (w:World) (top:Tr) (S:List (Sum w top)) (p:V):Prop:=∀ I O,Ran (tY w top S M.need M.k (M.k + M.q) M.it (M.k + M.qt) M.fuel M.lp (M.st p) (M.pre p) (M.preX p) M.or M.kept M.rt (M.e p) (M.post p) (M.postX p) I O) (M.ys p I O) (M.zs p I O)
structure Ok (p:V):Prop where
 hk:∀ I,(M.pre p I).length=M.k
 hkept:M.kept.take M.k=List.range M.k
 hkn:M.kept.length=M.k + M.q
 hq:M.qt≤M.q
 hol:∀ I O,(M.post p I O).length=M.k + M.qt
 hl:M.k < 1000000
 hnd:ndB M.kept=true
theorem he {w:World} {top:Tr} {M:aq V} {p:V} (hT:akC top) {S:List (Sum w top)} (run:M.Runs w top S p) (ok:M.Ok p) (I:ae8) (hb:∀ I' O,(∀ j,j < M.k→I' j=I j)→M.ys p I' O=M.zs p I' O) :
  HE w top M.need M.k (M.st p (ah M.k I)) (tc I 0 (M.pre p (ah M.k I))++uU w.params (M.preX p)) I (fun I' O'=>M.e p (ah (M.k + M.q) I') (ah M.it O'))
   (fun I' O'=>tc I' 0 (M.post p (ah (M.k + M.q) I') (ah M.it O'))++uU w.params (M.postX p (ah (M.k + M.q) I') (ah M.it O'))):=
 HE.of_ek hT S M.fuel M.or M.kept M.rt (M.ys p) (M.zs p) ok.hk ok.hkept ok.hkn (al3 ok.hq _) ok.hol ok.hl ok.hnd I hb run
end aq
end
noncomputable def hT:Nat→List OV
 | 0=>[]
 | n + 1=>.hb true :: hT n
theorem Has.sub {h:Heap} {L M:XL} (H:Has h (L++M)):Has h L:=⟨fun p a=>H.at_ p (uj _ a),by
 have:=H.nd
 rw [eQ,Ha] at this
 exact this.1⟩
theorem Has.perm {h:Heap} {L M:XL} (H:Has h L) (p:L.Perm M):Has h M:=⟨fun q hq=>H.at_ q (p.mem_iff.mpr hq),(p.map _).nodup_iff.mp H.nd⟩
theorem Has.keep {h c:Heap} {L M:XL} (H:Has h (L++M)) {L':XL} (f:Has c L') (hk:∀ b o,h.get? b=some o→b ∉ L.map (·.1)→c.get? b=some o) (g:∀ a,a∈L'.map (·.1)→a∈L.map (·.1)∨h.objs.size≤a):Has c (L'++M):=by
 have nd:=H.nd
 rw [eQ,Ha] at nd
 have d:∀ p,p∈M→p.1 ∉ L.map (·.1):=fun p hp hq=>nd.2.2 _ hq _ (kw.mpr ⟨p,hp,rfl⟩) rfl
 refine ⟨fun p hp=>?_,?_⟩
 · rcases uC.mp hp with hp | hp
   · exact f.at_ p hp
   · obtain ⟨a,b⟩:=H.at_ p (u9 _ hp)
     exact ⟨hk _ _ a (d p hp),b⟩
 · rw [eQ,Ha]
   refine ⟨f.nd,nd.2.1,fun a i b hb e=>?_⟩
   subst e
   obtain ⟨p,hp,rfl⟩:=kw.mp hb
   rcases g _ i with q | q
   · exact d p hp q
   · exact absurd (Dt (H.at_ p (u9 _ hp)).1) (D7.mpr q)
theorem HTx.frame {nx:Bool} {w:World} {top:Tr} {need k:Nat} {c:Code} {L:XL} {I:ae8} {K:(Nat→Nat)→(Nat→Nat)→Value × XL} (H:HTx nx w top need k c L I K) (M:XL) :
  HTx nx w top need k c (L++M) I (fun I' O'=>((K I' O').1,(K I' O').2++M)):=by
 intro A R h g d tk os u s hb n t
 refine H A R h g d tk os u s hb n.sub fun I' O' p j l r i f m=>?_
 refine t I' O' p j l (n.keep r f i) (fun a ha=>?_) (fun b o e hn=>f b o e fun hq=>hn (by rw [eQ];exact uj _ hq)) m
 rw [eQ,uC] at ha
 rcases ha with ha | ha
 · rcases i a ha with q | q
   · exact .inl (by rw [eQ];exact uj _ q)
   · exact .inr q
 · exact .inl (by rw [eQ];exact u9 _ ha)
theorem HTx.conv {nx:Bool} {w:World} {top:Tr} {need need' k x:Nat} {c:Code} {L L':XL} {I u:ae8} {K t:(Nat→Nat)→(Nat→Nat)→Value × XL} (H:HTx nx w top need k c L I K) (hn:need≤need') (v:L.Perm L')
  (f:(Nat→Nat)→(Nat→Nat)) (ft:(Nat→Nat)→(Nat→Nat))
  (F:∀ I' O',(∀ j,j < k→I' j=I j)→(∀ j,j < x→f I' j=u j)∧(K I' O').1=(t (f I') (ft O')).1∧(K I' O').2.Perm (t (f I') (ft O')).2):HTx nx w top need' x c L' u t:=by
 intro A R h g d tk os n C hb s J
 refine H A R h g d tk os ⟨n.handled,by have:=n.depth;lia,by have:=n.units;lia⟩ C hb (s.perm v.symm) fun I' O' D r m G l i p=>?_
 obtain ⟨E,B,y⟩:=F I' O' m
 rw [B]
 have z:∀ a,a∈L.map (·.1) ↔ a∈L'.map (·.1):=fun a=>(v.map _).mem_iff
 exact J (f I') (ft O') D r E (G.perm y) (fun a M=>(l a ((y.map _).mem_iff.mpr M)).imp (z a).mp id) (fun b o e hn=>i b o e fun q=>hn ((z b).mp q)) p
theorem HT.frame {w:World} {top:Tr} {need k:Nat} {c:Code} {L:XL} {I:ae8} {K:(Nat→Nat)→(Nat→Nat)→Value × XL} (H:HT w top need k c L I K) (M:XL) :
 HT w top need k c (L++M) I (fun I' O'=>((K I' O').1,(K I' O').2++M)):=HTx.frame H M
theorem HT.conv {w:World} {top:Tr} {need need' k d:Nat} {c:Code} {L L':XL} {I b:ae8} {K a:(Nat→Nat)→(Nat→Nat)→Value × XL} (H:HT w top need k c L I K) (hn:need≤need') (g:L.Perm L')
 (f:(Nat→Nat)→(Nat→Nat)) (ft:(Nat→Nat)→(Nat→Nat))
 (e:∀ I' O',(∀ j,j < k→I' j=I j)→(∀ j,j < d→f I' j=b j)∧(K I' O').1=(a (f I') (ft O')).1∧(K I' O').2.Perm (a (f I') (ft O')).2):HT w top need' d c L' b a:=HTx.conv H hn g f ft e
theorem aie {h:Heap} {a:Addr} {o:Obj} {f:Obj→Obj} (H:Has h [(a,o)]) (c:(f o).isFreed=false):Has (h.update a f) [(a,f o)]:=by
 obtain ⟨e,hb⟩:=H.at_ (a,o) (cv.mpr rfl)
 refine ⟨fun p b=>?_,by simp⟩
 obtain rfl:=cv.mp b
 exact ⟨Heap.get?_update_self f e c,hb⟩
theorem akv {h:Heap} {a:Addr} {f:Obj→Obj} (b:Addr) (o:Obj) (e:h.get? b=some o) (hn:b ≠ a):(h.update a f).get? b=some o:=((al7 h a f).2 b hn).trans e
theorem eZ (h:Heap) (a:Addr) (f:Obj→Obj):(h.update a f).objs.size=h.objs.size:=(al7 h a f).1
structure PL (w:World) (top:Tr) where
 P:Type
 fs:List Fd
 qt:Nat
 it:Nat
 need:Nat
 ext:Code→List Obj→P
 obl:(Nat→Nat)→P→List OV × List OV
 code:(Nat→Nat)→P→Code
 pre:(Nat→Nat)→P→List Obj
 post:(Nat→Nat)→(Nat→Nat)→P→List Obj
 res:(Nat→Nat)→(Nat→Nat)→P→Value
 olen:∀ I p,(obl I p).1.length=(obl I p).2.length
 len:∀ I O p,(post I O p).length=fs.length + qt
 ok:∀ (p:P) (I:ae8),(obl (ah fs.length I) p).1=(obl (ah fs.length I) p).2→(pre (ah fs.length I) p).length=fs.length→HT w top need fs.length (code (ah fs.length I) p) (tc I 0 (pre (ah fs.length I) p)) I
  (fun I' O'=>(res (ah (fs.length + qt) I') (ah it O') p,tc I' 0 (post (ah (fs.length + qt) I') (ah it O') p)))
noncomputable def PL.toLC {w:World} {top:Tr} (C:PL w top):LC w top where
 P:=C.P × XT
 fs:=C.fs
 qt:=C.qt
 q:=C.qt
 it:=C.it
 need:=C.need
 ext c os X:=(C.ext c os,X)
 obl I p:=C.obl I p.1
 code I p:=C.code I p.1
 pre I p:=C.pre I p.1
 preX p:=p.2
 post I O p:=C.post I O p.1
 postX _ _ p:=p.2
 res I O p:=C.res I O p.1
 qle:=ai _
 olen I p:=C.olen I p.1
 len I O p:=C.len I O p.1
 ok p I hc hl:=(C.ok p.1 I hc hl).frame _
def PL.sum {w:World} {top:Tr} (C:PL w top):Sum w top:=C.toLC.toSum
theorem Yj {n m:Nat} (h:[OV.hb (Nat.ble n m)]=[OV.hb true]):n≤m:=by
 injection h with h _
 injection h with h
 exact ag h
theorem DG {w:World} {top:Tr} (I:ae8) (xs:Array Value) (e:Nat) (v:Value) (l:xs.size≤sizeLine) :
  HT w top 1 1 (.call (.builtin "list.append") ⟨[.ref (ad I 0),v],[]⟩) (tc I 0 [ab xs e]) I (fun I' z=>(.none,tc I' 0 [ab (xs.push v) (e + 1)])):=by
 intro A R h g d tk os n m hb i K
 have c:=(i.at_ (ad I 0,ab xs e) (cv.mpr rfl)).1
 have f:Obj.mapSeq (fun x=>x.push v) (ab xs e)=ab (xs.push v) (e + 1):=by
  simp [Obj.mapSeq,ab]
 refine ya slot_list_append.plain entry_list_append (slot_list_append.check _ _ _ _ _ _ _ _ ⟨_,c,rfl⟩ (args_list_append _ _) ?_)
 refine PySem.AutoListH.list_append_list_val_0 (ad I 0) xs e v l prog w A R _ ⟨c,?_⟩
 have key:=K I (fun z=>0) (h.update (ad I 0) (Obj.mapSeq fun x=>x.push v)) tk (fun z z=>rfl)
 have j:Has (h.update (ad I 0) (Obj.mapSeq fun x=>x.push v)) [(ad I 0,Obj.mapSeq (fun x=>x.push v) (ab xs e))]:=aie i (by rw [f];rfl)
 rw [f] at j
 exact key j (fun a k=>.inl k) (fun b o e hn=>akv b o e fun q=>hn (by rw [q];exact cv.mpr rfl)) (by rw [eZ];exact ai _)
noncomputable def ao:List Obj→Array Value × Nat
 | o :: _=>match o.data with
  | .seq xs e=>(xs,e)
  | _=>(#[],0)
 | _=>(#[],0)
noncomputable def Rs:Code→List Value
 | .call _ a=>a.pos
 | .builtin _ a=>a.pos
 | _=>[]
noncomputable def ax (c:Code) (n:Nat):Value:=(Rs c).getD n .none
def b7 (w:World) (top:Tr):PL w top where
 P:=Value × (Array Value × Nat)
 fs:=[.arg 0]
 qt:=0
 it:=0
 need:=1
 ext c os:=(ax c 1,ao os)
 obl _ p:=([.hb (Nat.ble p.2.1.size 16777216)],[.hb true])
 olen _ _:=rfl
 code I p:=.call (.builtin "list.append") ⟨[.ref (ad I 0),p.1],[]⟩
 pre _ p:=[ab p.2.1 p.2.2]
 post _ _ p:=[ab (p.2.1.push p.1) (p.2.2 + 1)]
 res _ _ _:=.none
 len _ _ _:=rfl
 ok p I hc _:=DG I p.2.1 p.2.2 p.1 (by rw [Tt];exact Yj hc)
theorem z4 {w:World} {A:Around} {R:Result→Shared→Prop} {s:Shared} {id:String} {b:Builtin} {args:List Value} (hk:builtinKind id=none) (i:plainId id=true)
  (hb:entryFor table id=some b) (h:argsOk id ⟨args,[]⟩)
  (k:wpAny (model prog w) A.in1 (b ⟨args,[]⟩) (fun fin c=>∃ v,fin=.done (.ret v)∧R (.ok (.ret v)) c) (fun e c=>R (.error e) c) s):codeAny (model prog w) A (.call (.builtin id) ⟨args,[]⟩) R s:=by
 refine ya i hb ?_
 have a:=Qn k (Q':=fun fin c=>match fin with
   | .done f=>R (.ok f) c
   | .again c'=>c'.quiet=true∧codeAny (model prog w) A c' R c)
  (fun fin c g=>by obtain ⟨v,rfl,hv⟩:=g;exact hv) fun z z g=>g
 simp only [checkBuiltinCall,hk]
 cases d:Manifest.signature? id with
 | none=>exact jt a
 | some sig=>
  simp only [argsOk,d] at h
  have j:Bind.checkArgs id sig ⟨args,[]⟩=pure ():=h
  show wpAny _ A.in1 (Bind.checkArgs id sig ⟨args,[]⟩) _ _ s
  rw [j];exact jt a
theorem SO {w:World} {top:Tr} (I:ae8) (xs:Array Value) (e:Nat) (j:xs.size≤sizeLine) :
  HT w top 1 1 (.call (.builtin "len") ⟨[.ref (ad I 0)],[]⟩) (tc I 0 [ab xs e]) I (fun I' O'=>(.int (Int.ofNat xs.size) (O' 0),tc I' 0 [ab xs e])):=by
 intro A R h g d tk os l k hb f K
 have c:=(f.at_ (ad I 0,ab xs e) (cv.mpr rfl)).1
 rw [Tt] at j
 refine z4 kind_len plain_len entry_len (args_len1 _) (wpAny_len_body_list ⟨_,c,rfl,e,rfl⟩ (by lia) ?_)
 exact K I (fun z=>tk + 1) h (tk + 1 + 1) (fun z z=>rfl) f (fun a i=>.inl i) (fun b o e z=>e) (ai _)
def cW (w:World) (top:Tr):PL w top where
 P:=Array Value × Nat
 fs:=[.arg 0]
 qt:=0
 it:=1
 need:=1
 ext c os:=ao os
 obl _ p:=([.hb (Nat.ble p.1.size 16777216)],[.hb true])
 olen _ _:=rfl
 code I p:=.call (.builtin "len") ⟨[.ref (ad I 0)],[]⟩
 pre _ p:=[ab p.1 p.2]
 post _ _ p:=[ab p.1 p.2]
 res _ O p:=.int (Int.ofNat p.1.size) (O 0)
 len _ _ _:=rfl
 ok p I hc _:=by
  refine (SO I p.1 p.2 (by rw [Tt];exact Yj hc)).conv (ai _) (b6 _) id id fun I' O' a=>⟨a,?_,b6 _⟩
  show _=Value.int _ (ah 1 O' 0)
  rw [aJ (by decide)]
theorem tG {w:World} {A:Around} {R:Result→Shared→Prop} {nx:Bool} {v:Value} {s:Shared} (h:R (.ok (flw nx v)) s):ke w A R (JX nx v) s:=by
 cases nx<;>exact h
noncomputable def aq.toLC {w:World} {top:Tr} (hT:akC top) (S:List (Sum w top)) (M:aq Raw) (nx:Bool) (fs:List Fd) (b:fs.length=M.k) (code:Raw→(Nat→Nat)→Code) (i:∀ p I,M.st p I=.code (code p I))
  (res:Raw→(Nat→Nat)→(Nat→Nat)→Value) (he:∀ p I O,M.e p I O=JX nx (res p I O)) (obl:(Nat→Nat)→Raw→List OV × List OV) (olen:∀ I p,(obl I p).1.length=(obl I p).2.length)
  (ok:∀ p,M.Ok p) (run:∀ p,M.Runs w top S p) (hb:∀ p I I' O,(obl (ah M.k I) p).1=(obl (ah M.k I) p).2→(∀ j,j < M.k→I' j=I j)→M.ys p I' O=M.zs p I' O):LC w top where
 nx:=nx
 P:=Raw
 fs:=fs
 qt:=M.qt
 q:=M.q
 it:=M.it
 need:=M.need
 ext:=Raw.mk
 obl:=obl
 code I p:=code p I
 pre I p:=M.pre p I
 preX:=M.preX
 post I O p:=M.post p I O
 postX I O p:=M.postX p I O
 res I O p:=res p I O
 qle:=(Nat.le_of_add_le_add_left (al3 (by have:=(ok ⟨default,[],none⟩).hq;exact this) 0))
 olen:=olen
 len I O p:=by rw [(ok p).hol,b]
 ok p I hc hl:=by
  have key:=aq.he hT (run p) (ok p) I (fun I' O h=>hb p I I' O (by rw [← b];exact hc) h)
  rw [b]
  intro A R h g d tk os t r a c K
  have f:=key A R h g d tk os t r a c fun I' O' m l f n s o h5=>by
   show ke w A R (M.e p (ah (M.k + M.q) I') (ah M.it O')) _
   rw [he]
   exact tG (K I' O' m l f n s o h5)
  rw [i] at f
  exact f
noncomputable def aq.toPL {w:World} {top:Tr} (hT:akC top) (S:List (Sum w top)) (M:aq Raw) (nx:Bool) (fs:List Fd) (b:fs.length=M.k) (code:Raw→(Nat→Nat)→Code) (i:∀ p I,M.st p I=.code (code p I))
  (res:Raw→(Nat→Nat)→(Nat→Nat)→Value) (he:∀ p I O,M.e p I O=JX nx (res p I O)) (l:∀ p,M.preX p=none) (n:∀ p I O,M.postX p I O=none) (obl:(Nat→Nat)→Raw→List OV × List OV) (olen:∀ I p,(obl I p).1.length=(obl I p).2.length)
  (ok:∀ p,M.Ok p) (run:∀ p,M.Runs w top S p) (hb:∀ p I I' O,(obl (ah M.k I) p).1=(obl (ah M.k I) p).2→(∀ j,j < M.k→I' j=I j)→M.ys p I' O=M.zs p I' O):LC w top where
 nx:=nx
 P:=Raw
 fs:=fs
 qt:=M.qt
 q:=M.q
 it:=M.it
 need:=M.need
 ext:=Raw.mk
 obl:=obl
 code I p:=code p I
 pre I p:=M.pre p I
 preX p:=p.X
 post I O p:=M.post p I O
 postX I O p:=p.X
 res I O p:=res p I O
 qle:=(Nat.le_of_add_le_add_left (al3 (by have:=(ok ⟨default,[],none⟩).hq;exact this) 0))
 olen:=olen
 len I O p:=by rw [(ok p).hol,b]
 ok p I hc hl:=by
  have key:=aq.he hT (run p) (ok p) I (fun I' O h=>hb p I I' O (by rw [← b];exact hc) h)
  rw [b]
  simp only [l,n] at key
  have k2:HTx nx w top M.need M.k (code p (ah M.k I)) (tc I 0 (M.pre p (ah M.k I))++uU w.params none) I (fun I' O'=>(res p (ah (M.k + M.q) I') (ah M.it O'),tc I' 0 (M.post p (ah (M.k + M.q) I') (ah M.it O'))++uU w.params none)):=by
   intro A R h g d tk os x u a c K
   have f:=key A R h g d tk os x u a c fun I' O' r m f s v t h5=>by
    show ke w A R (M.e p (ah (M.k + M.q) I') (ah M.it O')) _
    rw [he]
    exact tG (K I' O' r m f s v t h5)
   rw [i] at f
   exact f
  have o:=k2.frame (uU w.params p.X)
  simp only [uU,au] at o
  exact o
def PO (P:Params) (S:aa) (xs:Array Value) (I:ae8):List Obj:=[ky (ad I 1),
 jF P S.tk (ad I 2) (ad I 3) (S.c + 1158) (.int (Int.ofNat S.regs) S.tr) (.int (Int.ofNat S.curs) S.tc) (.int (Int.ofNat S.slots) S.ts) (.int (Int.negSucc S.next) S.tn),ab xs S.e,S.labelsO]
noncomputable def aD (v:Value):Str:=match v with
 | .str s _=>s
 | _=>⟨#[]⟩
noncomputable def ak (v:Value):Nat:=match v with
 | .str _ t=>t
 | .int _ t=>t
 | _=>0
noncomputable def am (v:Value):Int:=match v with
 | .int i _=>i
 | _=>0
noncomputable def i8 (v:Value):Nat:=match v with
 | .ref a=>a
 | _=>0
def aS (c:Code) (n:Nat):Value:=.str (aD (ax c n)) (ak (ax c n))
def aI (c:Code) (n:Nat):Value:=.int (am (ax c n)) (ak (ax c n))
def pM (c:Code):Nat→List Value
 | 1=>[aS c 1]
 | 2=>[aS c 1,aI c 2]
 | 3=>[aS c 1,aI c 2,aI c 3]
 | 4=>[aS c 1,aI c 2,aI c 3,aI c 4]
 | 5=>[aS c 1,aI c 2,aI c 3,aI c 4,.none]
 | 6=>[aS c 1,aI c 2,aI c 3,aI c 4,aI c 5]
 | 7=>[aS c 1,aI c 2,aI c 3,aI c 4,aS c 5]
 | _=>[aS c 1,aI c 2,aI c 3,aI c 4,.ref (i8 (ax c 5))]
def NM (c:Code):Nat→Obj
 | 1=>ab ⟨[aS c 1,.int 0 369,.int 0 370,.int 0 371,.none]⟩ 0
 | 2=>ab ⟨[aS c 1,aI c 2,.int 0 370,.int 0 371,.none]⟩ 0
 | 3=>ab ⟨[aS c 1,aI c 2,aI c 3,.int 0 371,.none]⟩ 0
 | 4=>ab ⟨[aS c 1,aI c 2,aI c 3,aI c 4,.none]⟩ 0
 | 5=>ab ⟨[aS c 1,aI c 2,aI c 3,aI c 4,.none]⟩ 0
 | 6=>ab ⟨[aS c 1,aI c 2,aI c 3,aI c 4,aI c 5]⟩ 0
 | 7=>ab ⟨[aS c 1,aI c 2,aI c 3,aI c 4,aS c 5]⟩ 0
 | _=>ab ⟨[aS c 1,aI c 2,aI c 3,aI c 4,.ref (i8 (ax c 5))]⟩ 0
theorem ay (P:Params):akC (ac P):=by
 intro h b
 have e:h.get? cStatics=some (o2 P):=b 2 (o2 P) (by kernel_rfl)
 have a:h.isNs cStatics=true:=by unfold Heap.isNs;rw [e];kernel_rfl
 refine ⟨_,.of_isNs a,?_⟩
 unfold Heap.nsMap
 rw [e]
 kernel_rfl
noncomputable def nu4 (S:aa):Nat→Nat
 | 0=>S.p
 | 1=>S.d
 | 2=>S.o
 | 3=>S.l
 | _=>0
theorem xX (P:Params) (S:aa):tc (nu4 S) 0 (PO P S S.opsV (ah 4 (nu4 S)))++(S.ops++S.xt)=S.cells P:=rfl
structure LX (S S':aa):Prop where
 p:S'.p=S.p
 d:S'.d=S.d
 o:S'.o=S.o
 l:S'.l=S.l
theorem Pw {P:Params} {S S':aa} (a:LX S S') {I':ae8} {k:Nat} (hk:4≤k) (h:∀ j,j < 4→I' j=nu4 S j) (xs:Array Value) :
  tc I' 0 (PO P S' xs (ah k I'))=[(S'.p + 1158,S'.instO),(S'.d + 1158,S'.dictO P),(S'.o + 1158,ab xs S'.e),(S'.l + 1158,S'.labelsO)]:=by
 have f:I' 0=S.p:=h 0 (by decide)
 have c:I' 1=S.d:=h 1 (by decide)
 have b:I' 2=S.o:=h 2 (by decide)
 have g:I' 3=S.l:=h 3 (by decide)
 simp only [PO,anm,ano,ad,aa.instO,aa.dictO,aJ (show 1 < k by lia),aJ (show 2 < k by lia),aJ (show 3 < k by lia),JG,Nat.reduceAdd,f,c,b,g,a.p,a.d,a.o,a.l]
theorem XF {w:World} {top:Tr} {need it:Nat} {S:aa} {code:(Nat→Nat)→Code} {res:(Nat→Nat)→Value} {S1:(Nat→Nat)→aa} {c:Code}
  (H:HT w top need 4 (code (ah 4 (nu4 S))) (tc (nu4 S) 0 (PO w.params S S.opsV (ah 4 (nu4 S)))++uU w.params none) (nu4 S) (fun I' O'=>(res (ah it O'),tc I' 0 (PO w.params (S1 (ah it O')) S.opsV (ah 4 I'))++uU w.params none)))
  (g:code (ah 4 (nu4 S))=c) (f:∀ O,LX S (S1 O)) (b:∀ O,(S1 O).ops=S.ops) (h:∀ O,(S1 O).xt=S.xt) (I:ae8) :
  HT w top need 0 c ([]++uU w.params (some S)) I (fun I' O'=>(res (ah it O'),[]++uU w.params (some (S1 (ah it O'))))):=by
 subst g
 have d:=H.frame (S.ops++S.xt)
 refine d.conv (ai _) (fv ?_) id id fun I' O' a=>⟨fun j e=>absurd e (Ut _),rfl,fv ?_⟩
 · show (_++[])++(S.ops++S.xt)=S.cells w.params
   rw [au,xX]
 · show (_++[])++(S.ops++S.xt)=(S1 (ah it O')).cells w.params
   rw [au,Pw (f _) (ai 4) a]
   unfold aa.cells aa.opsO aa.opsV
   rw [b,h]
   rfl
theorem XFa {w:World} {top:Tr} {need it:Nat} {S:aa} {code:(Nat→Nat)→Code} {res:(Nat→Nat)→(Nat→Nat)→Value} {op:Obj} {c:Code}
  (H:HT w top need 4 (code (ah 4 (nu4 S))) (tc (nu4 S) 0 (PO w.params S S.opsV (ah 4 (nu4 S)))++uU w.params none) (nu4 S)
   (fun I' O'=>(res (ah 5 I') (ah it O'),tc I' 0 (PO w.params { S with e:=S.e + 1 } (S.opsV.push (.ref (ad (ah 5 I') 4))) (ah 5 I')++[op])++uU w.params none)))
  (a:(Nat→Nat)→(Nat→Nat)→Value) (hr:∀ I O,res I O=a (fun j=>I (4 + j)) O) (b:∀ I I' O,I 0=I' 0→a I O=a I' O) (h:code (ah 4 (nu4 S))=c) (I:ae8) :
  HT w top need 0 c ([]++uU w.params (some S)) I (fun I' O'=>(a (ah 1 I') (ah it O'),[]++uU w.params (some (S.add (ad (ah 1 I') 0,op))))):=by
 subst h
 have f:=H.frame (S.ops++S.xt)
 refine f.conv (ai _) (fv ?_) (fun I' j=>I' (4 + j)) id fun I' O' d=>⟨fun j g=>absurd g (Ut _),?_,?_⟩
 · show (_++[])++(S.ops++S.xt)=S.cells w.params
   rw [au,xX]
 · show res (ah 5 I') (ah it O')=a _ _
   rw [hr]
   refine b _ _ _ ?_
   rw [aJ (by decide)];rfl
 · have e5:ad (ah 5 I') 4=ad (ah 1 fun j=>I' (4 + j)) 0:=by
    unfold ad
    rw [aJ (by decide),aJ (by decide)]
   have e4:tc I' 0 (PO w.params { S with e:=S.e + 1 } (S.opsV.push (.ref (ad (ah 5 I') 4))) (ah 5 I')++[op]) =
     tc I' 0 (PO w.params { S with e:=S.e + 1 } (S.opsV.push (.ref (ad (ah 5 I') 4))) (ah 5 I'))++[(ad (ah 1 fun j=>I' (4 + j)) 0,op)]:=by
    show tc I' 0 [_,_,_,_,op]=tc I' 0 [_,_,_,_]++_
    have:ad I' 4=ad (ah 1 fun j=>I' (4 + j)) 0:=by unfold ad;rw [aJ (by decide)]
    simp only [anm,ano,Z4,alr,JG,Nat.reduceAdd,this]
   show ((_++[])++(S.ops++S.xt)).Perm (aa.cells w.params (S.add (ad (ah 1 fun j=>I' (4 + j)) 0,op)))
   rw [au,e4,Pw (S:=S) (S':={ S with e:=S.e + 1 }) ⟨rfl,rfl,rfl,rfl⟩ (by decide:4≤5) d,e5]
   have ev:S.opsV.push (.ref (ad (ah 1 fun j=>I' (4 + j)) 0))=aa.opsV (S.add (ad (ah 1 fun j=>I' (4 + j)) 0,op)):=by
    simp [aa.opsV,aa.add]
   rw [ev]
   show ([_,_,_,_]++[_]++(S.ops++S.xt)).Perm (_ :: _ :: _ :: _ :: ((S.ops++[_])++S.xt))
   simp only [Z4,alr]
   refine Z7 _ (Z7 _ (Z7 _ (Z7 _ ?_)))
   rw [uG]
   exact alA.symm
noncomputable def orA:List Nat:=(by walk_at "#mgf<dYIFU%evkx")
def SS (w:World):List (Sum w (ac w.params)):=[(b7 w (ac w.params)).sum,(cW w (ac w.params)).sum]
def G8 (S:aa) (I O:ae8):Value:=.int (Int.sub (Int.ofNat (S.opsV.push (.ref (ad I 4))).size) 1) (O 0)
def zZ (P:Params) (S:aa) (c:Code) (k:Nat) (I:ae8):List Obj:=PO P { S with e:=S.e + 1 } (S.opsV.push (.ref (ad I 4))) I++[NM c k]
def NS (S:aa) (I:ae8):List OV:=[.hb (Nat.ble (S.opsV.push (.ref (ad I 5))).size 16777216),.hb (Nat.ble S.opsV.size 16777216)]
theorem MF {S:aa} (h:Nat.ble S.ops.length 1000000=true) (I:ae8):NS S I=[.hb true,.hb true]:=by
 have h:=ag h
 have e:S.opsV.size=S.ops.length:=by simp [aa.opsV]
 unfold NS
 rw [alw,e,aF (by lia),aF (by lia)]
def jE (w:World) (k:Nat):Prop:=∀ (S:aa) (c:Code) (I O:ae8),
 Ran (wf w (ac w.params) (SS w) 60 4 5 1 5 200 (fun I=>.call (.ref 89) ⟨.ref (ad I 0) :: pM c k,[]⟩) (fun I=>PO w.params S S.opsV I) none orA [0,1,2,3,5] [10] (G8 S) (fun I z=>zZ w.params S c k I) (fun z z=>none) I O)
  (NS S I) [.hb true,.hb true]
theorem ab2 (w:World):jE w 1:=fun S c I O=>by unfold Ran;kernel_rfl
theorem ab6 (w:World):jE w 2:=fun S c I O=>by unfold Ran;kernel_rfl
theorem ab7 (w:World):jE w 3:=fun S c I O=>by unfold Ran;kernel_rfl
theorem acf (w:World):jE w 4:=fun S c I O=>by unfold Ran;kernel_rfl
theorem abK (w:World):jE w 5:=fun S c I O=>by unfold Ran;kernel_rfl
theorem aca (w:World):jE w 6:=fun S c I O=>by unfold Ran;kernel_rfl
theorem abA (w:World):jE w 7:=fun S c I O=>by unfold Ran;kernel_rfl
theorem abJ (w:World):jE w 8:=fun S c I O=>by unfold Ran;kernel_rfl
theorem aaW {w:World} {k:Nat} (H:jE w k) (S:aa) (c:Code) (a:Nat.ble S.n 1000000=true) (I:ae8) :
  HT w (ac w.params) 60 0 (.call (.ref 89) ⟨.ref (S.p + 1158) :: pM c k,[]⟩) ([]++uU w.params (some S)) I
   (fun I' O'=>((fun I O=>.int (Int.sub (Int.ofNat (S.opsV.push (.ref (ad I 0))).size) 1) (O 0):(Nat→Nat)→(Nat→Nat)→Value) (ah 1 I') (ah 1 O'),[]++uU w.params (some (S.add (ad (ah 1 I') 0,NM c k))))):=by
 have h:=HT.of_ek (ay w.params) (SS w) (need:=60) (k:=4) (N:=5) (it:=1) (np:=5) 200 (code:=fun I=>.call (.ref 89) ⟨.ref (ad I 0) :: pM c k,[]⟩) (pre:=fun I=>PO w.params S S.opsV I) (X:=none) orA [0,1,2,3,5] [10]
  (res:=G8 S) (post:=fun I z=>zZ w.params S c k I) (postX:=fun z z=>none) (fun I z=>NS S I) (fun z z=>[.hb true,.hb true]) (fun z=>rfl) rfl rfl (by decide) (fun z z=>rfl) (by decide) rfl (fun I z=>MF (by rw [S.hn];exact a) I) (fun I O=>H S c I O) (nu4 S)
 exact XFa (S:=S) (code:=fun I=>.call (.ref 89) ⟨.ref (ad I 0) :: pM c k,[]⟩) (res:=G8 S) (op:=NM c k) h (fun I O=>.int (Int.sub (Int.ofNat (S.opsV.push (.ref (ad I 0))).size) 1) (O 0)) (fun I O=>rfl) (fun I I' O e=>by simp only [ad,e]) rfl I
def adX (S:aa) (c:Code) (k:Nat) (I:ae8):aa:=S.add (ad I 0,NM c k)
noncomputable def aj (X:XT):aa:=match X with
 | some S=>S
 | none=>⟨0,0,0,0,0,fun z=>0,0,0,0,0,0,0,0,0,0,[],[],0,0,[],rfl⟩
def mo {w:World} (k:Nat) (H:jE w k):LC w (ac w.params) where
 P:=Code × aa
 fs:=[]
 qt:=0
 q:=1
 it:=1
 need:=60
 ext c _ X:=(c,aj X)
 obl _ p:=([.hb (Nat.ble p.2.n 1000000)],[.hb true])
 olen _ _:=rfl
 code _ p:=.call (.ref 89) ⟨.ref (p.2.p + 1158) :: pM p.1 k,[]⟩
 pre _ _:=[]
 preX p:=some p.2
 post _ _ _:=[]
 postX I _ p:=some (adX p.2 p.1 k I)
 res I O p:=.int (Int.sub (Int.ofNat (p.2.opsV.push (.ref (ad I 0))).size) 1) (O 0)
 qle:=Bt _
 len _ _ _:=rfl
 ok p I hc _:=by
  injection hc with hc _
  injection hc with hc
  exact aaW H p.2 p.1 hc I
def yi (w:World) (a:List Value) (k:Nat):Prop:=∀ (S:aa) (I O:ae8),
 Ran (wf w (ac w.params) [] 60 4 4 1 4 200 (fun I=>.call (.ref 118) ⟨.ref (ad I 0) :: a,[]⟩) (fun I=>PO w.params S S.opsV I) none
  uq0 [0,1,2,3] [4] (fun z z=>.int (Int.ofNat S.regs) S.tr) (fun I O=>PO w.params { S with regs:=S.regs + k,tr:=O 0 } S.opsV I) (fun z z=>none) I O) [] []
theorem WK (w:World):yi w [] 1:=fun S I O=>by unfold Ran;kernel_rfl
theorem U9 (w:World) (k t:Nat):yi w [.int (Int.ofNat k) t] k:=fun S I O=>by unfold Ran;kernel_rfl
theorem KR {w:World} {a:List Value} {k:Nat} (H:yi w a k) (S:aa) (I:ae8) :
  HT w (ac w.params) 60 0 (.call (.ref 118) ⟨.ref (S.p + 1158) :: a,[]⟩) ([]++uU w.params (some S)) I
   (fun I' O'=>(.int (Int.ofNat S.regs) S.tr,[]++uU w.params (some { S with regs:=S.regs + k,tr:=ah 1 O' 0 }))):=by
 have h:=HT.of_ek (ay w.params) [] (need:=60) (k:=4) (N:=4) (it:=1) (np:=4) 200 (code:=fun I=>.call (.ref 118) ⟨.ref (ad I 0) :: a,[]⟩) (pre:=fun I=>PO w.params S S.opsV I) (X:=none) uq0 [0,1,2,3] [4]
  (res:=fun z z=>.int (Int.ofNat S.regs) S.tr) (post:=fun I O=>PO w.params { S with regs:=S.regs + k,tr:=O 0 } S.opsV I) (postX:=fun z z=>none) (fun z z=>[]) (fun z z=>[]) (fun z=>rfl) rfl rfl (by decide) (fun z z=>rfl) (by decide) rfl (fun z z=>rfl) (fun I O=>H S I O) (nu4 S)
 exact XF (S:=S) (code:=fun I=>.call (.ref 118) ⟨.ref (ad I 0) :: a,[]⟩) (res:=fun z=>.int (Int.ofNat S.regs) S.tr) (S1:=fun O=>{ S with regs:=S.regs + k,tr:=O 0 }) h rfl (fun z=>⟨rfl,rfl,rfl,rfl⟩) (fun z=>rfl) (fun z=>rfl) I
noncomputable def ba (v:Value):Nat:=match v with
 | .int (.ofNat n) _=>n
 | _=>0
noncomputable def Td (w:World):LC w (ac w.params) where
 P:=aa
 fs:=[]
 qt:=0
 q:=0
 it:=1
 need:=60
 ext _ _ X:=aj X
 obl _ _:=([],[])
 olen _ _:=rfl
 code _ p:=.call (.ref 118) ⟨[.ref (p.p + 1158)],[]⟩
 pre _ _:=[]
 preX p:=some p
 post _ _ _:=[]
 postX _ O p:=some { p with regs:=p.regs + 1,tr:=O 0 }
 res _ O p:=.int (Int.ofNat p.regs) p.tr
 qle:=Bt _
 len _ _ _:=rfl
 ok p I _ _:=KR (WK w) p I
def UB (w:World):LC w (ac w.params) where
 P:=Code × aa
 fs:=[]
 qt:=0
 q:=0
 it:=1
 need:=60
 ext c _ X:=(c,aj X)
 obl _ _:=([],[])
 olen _ _:=rfl
 code _ p:=.call (.ref 118) ⟨[.ref (p.2.p + 1158),.int (Int.ofNat (ba (ax p.1 1))) (ak (ax p.1 1))],[]⟩
 pre _ _:=[]
 preX p:=some p.2
 post _ _ _:=[]
 postX _ O p:=some { p.2 with regs:=p.2.regs + ba (ax p.1 1),tr:=O 0 }
 res _ O p:=.int (Int.ofNat p.2.regs) p.2.tr
 qle:=Bt _
 len _ _ _:=rfl
 ok p I _ _:=KR (U9 w _ _) p.2 I
def pO (w:World) (f:Nat) (r:aa→Value) (g:aa→Nat→aa):Prop:=∀ (S:aa) (I O:ae8),
 Ran (wf w (ac w.params) [] 60 4 4 1 4 200 (fun I=>.call (.ref f) ⟨[.ref (ad I 0)],[]⟩) (fun I=>PO w.params S S.opsV I) none
  uq1 [0,1,2,3] [4] (fun z z=>r S) (fun I O=>PO w.params (g S (O 0)) S.opsV I) (fun z z=>none) I O) [] []
noncomputable def Tb (S:aa) (t:Nat):aa:={ S with next:=S.next + 1,tn:=t }
noncomputable def NH (S:aa) (t:Nat):aa:={ S with curs:=S.curs + 1,tc:=t }
noncomputable def alo (S:aa) (t:Nat):aa:={ S with slots:=S.slots + 1,ts:=t }
theorem DE (w:World):pO w 103 (fun S=>.int (Int.negSucc S.next) S.tn) Tb:=fun S I O=>by unfold Ran;kernel_rfl
theorem AB (w:World):pO w 125 (fun S=>.int (Int.ofNat S.curs) S.tc) NH:=fun S I O=>by unfold Ran;kernel_rfl
theorem Gf (w:World):pO w 132 (fun S=>.int (Int.ofNat S.slots) S.ts) alo:=fun S I O=>by unfold Ran;kernel_rfl
theorem UK {w:World} {f:Nat} {r:aa→Value} {g:aa→Nat→aa} (H:pO w f r g) (S:aa) (a:∀ t,LX S (g S t)) (c:∀ t,(g S t).ops=S.ops) (b:∀ t,(g S t).xt=S.xt) (I:ae8) :
  HT w (ac w.params) 60 0 (.call (.ref f) ⟨[.ref (S.p + 1158)],[]⟩) ([]++uU w.params (some S)) I
   (fun I' O'=>(r S,[]++uU w.params (some (g S (ah 1 O' 0))))):=by
 have h:=HT.of_ek (ay w.params) [] (need:=60) (k:=4) (N:=4) (it:=1) (np:=4) 200 (code:=fun I=>.call (.ref f) ⟨[.ref (ad I 0)],[]⟩) (pre:=fun I=>PO w.params S S.opsV I) (X:=none) uq1 [0,1,2,3] [4]
  (res:=fun z z=>r S) (post:=fun I O=>PO w.params (g S (O 0)) S.opsV I) (postX:=fun z z=>none) (fun z z=>[]) (fun z z=>[]) (fun z=>rfl) rfl rfl (by decide) (fun z z=>rfl) (by decide) rfl (fun z z=>rfl) (fun I O=>H S I O) (nu4 S)
 exact XF (S:=S) (code:=fun I=>.call (.ref f) ⟨[.ref (ad I 0)],[]⟩) (res:=fun z=>r S) (S1:=fun O=>g S (O 0)) h rfl (fun O=>a (O 0)) (fun O=>c (O 0)) (fun O=>b (O 0)) I
noncomputable def JD {w:World} {f:Nat} {r:aa→Value} {g:aa→Nat→aa} (H:pO w f r g) (a:∀ S t,LX S (g S t)) (c:∀ S t,(g S t).ops=S.ops) (b:∀ S t,(g S t).xt=S.xt):LC w (ac w.params) where
 P:=aa
 fs:=[]
 qt:=0
 q:=0
 it:=1
 need:=60
 ext _ _ X:=aj X
 obl _ _:=([],[])
 olen _ _:=rfl
 code _ p:=.call (.ref f) ⟨[.ref (p.p + 1158)],[]⟩
 pre _ _:=[]
 preX p:=some p
 post _ _ _:=[]
 postX _ O p:=some (g p (O 0))
 res _ O p:=r p
 qle:=Bt _
 len _ _ _:=rfl
 ok p I _ _:=UK H p (a p) (c p) (b p) I
noncomputable def M1 (w:World):LC w (ac w.params):=JD (DE w) (fun z z=>⟨rfl,rfl,rfl,rfl⟩) (fun z z=>rfl) (fun z z=>rfl)
noncomputable def IS (w:World):LC w (ac w.params):=JD (AB w) (fun z z=>⟨rfl,rfl,rfl,rfl⟩) (fun z z=>rfl) (fun z z=>rfl)
noncomputable def T0 (w:World):LC w (ac w.params):=JD (Gf w) (fun z z=>⟨rfl,rfl,rfl,rfl⟩) (fun z z=>rfl) (fun z z=>rfl)
noncomputable def rP (k:Int) (v:Value):Bool:=match v with
 | .int i _=>PySem.W.Z.eqB i k
 | _=>false
def getD (k:Int):List DictEntry→Option Value
 | []=>none
 | e :: l=>match rP k e.key with
  | true=>some e.val
  | false=>getD k l
def cI (k:Int) (t:Tok) (v:Value):List DictEntry→List DictEntry
 | []=>[⟨hashInt k,.int k t,v⟩]
 | e :: l=>match rP k e.key with
  | true=>{ e with val:=v } :: l
  | false=>e :: cI k t v l
theorem anp {k:Int} {e:DictEntry} {l:List DictEntry} (h:rP k e.key=true):getD k (e :: l)=some e.val:=by
 show (match rP k e.key with | true=>some e.val | false=>getD k l)=_
 rw [h]
theorem anq {k:Int} {e:DictEntry} {l:List DictEntry} (h:rP k e.key=false):getD k (e :: l)=getD k l:=by
 show (match rP k e.key with | true=>some e.val | false=>getD k l)=_
 rw [h]
theorem ant {k:Int} {t:Tok} {v:Value} {e:DictEntry} {l:List DictEntry} (h:rP k e.key=true):cI k t v (e :: l)={ e with val:=v } :: l:=by
 show (match rP k e.key with | true=>{ e with val:=v } :: l | false=>e :: cI k t v l)=_
 rw [h]
theorem ans {k:Int} {t:Tok} {v:Value} {e:DictEntry} {l:List DictEntry} (h:rP k e.key=false):cI k t v (e :: l)=e :: cI k t v l:=by
 show (match rP k e.key with | true=>{ e with val:=v } :: l | false=>e :: cI k t v l)=_
 rw [h]
def ikA (e:DictEntry):Bool:=match e.key with
 | .int k _=>PySem.W.Z.eqB e.hash (hashInt k)
 | _=>false
def ikB:List DictEntry→Bool
 | []=>true
 | e :: l=>ikA e && ikB l
noncomputable def uN (l:List DictEntry) (ep:Nat):Obj:={ cls:=.type "dict",data:=.dict ⟨l⟩ ep }
def epD (k:Int) (l:List DictEntry) (ep:Nat):Nat:=match getD k l with
 | some _=>ep
 | none=>ep + 1
theorem ws (k:Int) (v:Value):rP k v=Value.isInt k v:=by
 cases v with
 | int i t=>
  show PySem.W.Z.eqB i k=(i == k)
  cases q:PySem.W.Z.eqB i k with
  | true=>rw [(FF i k).mp q];simp
  | false=>
   cases r:i == k with
   | false=>rfl
   | true=>rw [(FF i k).mpr (eq_of_beq r)] at q;cases q
 | _=>rfl
theorem anz {e:DictEntry} (h:ikA e=true):∃ k t,e.key=.int k t∧e.hash=hashInt k:=by
 delta ikA at h
 cases hk:e.key with
 | int k t=>rw [hk] at h;exact ⟨k,t,rfl,(FF _ _).mp h⟩
 | _=>rw [hk] at h;cases h
theorem nE:∀ {l:List DictEntry},ikB l=true→IntKeys ⟨l⟩
 | [],_=>fun e he=>by simp at he
 | e :: l,h=>by
  have h:=iR.mp (show (ikA e && ikB l)=true from h)
  have a:=nE h.2
  intro b he
  rcases b9.mp (Jt.mpr he) with q | he
  · rw [q];exact anz h.1
  · exact a b (Jt.mp he)
theorem pA (k:Int) (t:Tok) (v:Value):∀ l:List DictEntry,match l.findIdx? (fun e=>Value.isInt k e.key) with
  | some i=>getD k l=(l[i]?).map (·.val)∧(getD k l).isSome=true∧cI k t v l=l.modify i fun e=>{ e with val:=v }
  | none=>getD k l=none∧cI k t v l=l++[⟨hashInt k,.int k t,v⟩]
 | []=>⟨rfl,rfl⟩
 | e :: l=>by
  rw [List.findIdx?_cons]
  have ih:=pA k t v l
  cases hk:Value.isInt k e.key with
  | true=>
   have d:rP k e.key=true:=by rw [ws];exact hk
   simp [anp d,ant d,List.modify]
  | false=>
   have d:rP k e.key=false:=by rw [ws];exact hk
   have g:=anq (l:=l) d
   have es:=ans (t:=t) (v:=v) (l:=l) d
   rw [g,es]
   cases f:l.findIdx? (fun e=>Value.isInt k e.key) with
   | none=>
    simp only [f] at ih
    simp [ih.1,ih.2]
   | some i=>
    simp only [f] at ih
    obtain ⟨a,b,c⟩:=ih
    simp only [Option.map_some,al8,if_false]
    refine ⟨?_,b,?_⟩
    · rw [a];simp
    · rw [c];simp [List.modify]
section
variable {w:World} {A:Around} {E:Value→Shared→Prop} {s:Shared}
theorem pQ {d:Addr} {l:List DictEntry} {ep:Nat} {k:Int} {t:Tok} {Q:Option Value→Shared→Prop} (b:s.heap.get? d=some (uN l ep)) (hk:ikB l=true)
  (h:Q (getD k l) { s with toks:=s.toks + 1 }):wpAny (model prog w) A (dictGet d (.int k t)) Q E s:=by
 unfold dictGet
 try with_reducible refine wpAny_holding ?_
 refine av (wpAny_pyHash_int (av (wpAny_dictFind_int (s:={ s with toks:=s.toks + 1 }) b rfl (nE hk) ?_)))
 have ih:=pA k 0 .none l
 rw [List.findIdx?_toArray]
 cases a:l.findIdx? (fun e=>Value.isInt k e.key) with
 | none=>simp only [a] at ih;rw [ih.1] at h;exact jt h
 | some i=>simp only [a] at ih;rw [ih.1] at h;exact av (wpAny_dictEntries (s:={ s with toks:=s.toks + 1 }) b rfl (jt (by simpa using h)))
theorem U0 {d:Addr} {l:List DictEntry} {ep:Nat} {k:Int} {t:Tok} {v:Value} {Q:Unit→Shared→Prop} (g:s.heap.get? d=some (uN l ep)) (hk:ikB l=true) (hz:l.length≤sizeLine)
  (h:∀ f,f (uN l ep)=uN (cI k t v l) (epD k l ep)→Q () { s with heap:=s.heap.update d f,toks:=s.toks + 1 }):wpAny (model prog w) A (dictSet d (.int k t) v) Q E s:=by
 unfold dictSet
 try with_reducible refine wpAny_holding ?_
 refine av (wpAny_pyHash_int ?_)
 unfold dictSetHashed
 try with_reducible refine wpAny_holding ?_
 refine av (wpAny_dictFind_int (s:={ s with toks:=s.toks + 1 }) g rfl (nE hk) ?_)
 have ih:=pA k t v l
 rw [List.findIdx?_toArray]
 cases j:l.findIdx? (fun e=>Value.isInt k e.key) with
 | some i=>
  simp only [j] at ih
  obtain ⟨a,b,c⟩:=ih
  refine av (wpAny_rule (av (wpAny_updateDict (s:={ s with toks:=s.toks + 1 }) g rfl (wpAny_point (h _ ?_)))))
  obtain ⟨x,m⟩:=lw.mp b
  unfold epD
  rw [m,c]
  delta Obj.mapDict
  simp [uN]
 | none=>
  simp only [j] at ih
  obtain ⟨a,c⟩:=ih
  refine av (wpAny_rule (wpAny_updateDictKeys (hz:=by simpa using hz) (s:={ s with toks:=s.toks + 1 }) g rfl (h _ ?_)))
  unfold epD
  rw [a,c]
  delta Obj.mapDictKeys
  simp [uN]
end
theorem IY {w:World} {top:Tr} (I:ae8) (l:List DictEntry) (ep:Nat) (k:Int) (t:Tok) (hk:ikB l=true) :
  HT w top 3 1 (.call (.builtin "dict.__contains__") ⟨[.ref (ad I 0),.int k t],[]⟩) (tc I 0 [uN l ep]) I (fun I' z=>(.bool (getD k l).isSome,tc I' 0 [uN l ep])):=by
 intro A R h g d tk os n m hb i K
 have c:=(i.at_ (ad I 0,uN l ep) (cv.mpr rfl)).1
 refine ya slot_dict_contains.plain entry_dict_contains (slot_dict_contains.check _ _ _ _ _ _ _ _ ⟨_,c,rfl⟩ (args_dict_contains _ _) ?_)
 have key:=K I (fun z=>0) h (tk + 1) (fun z z=>rfl) i (fun a j=>.inl j) (fun b o e hn=>e) (ai _)
 show wpAny _ _ (dictGet (ad I 0) (.int k t) >>= _) _ _ _
 refine av (pQ c hk ?_)
 cases f:getD k l with
 | some v=>
  rw [f] at key
  exact jt key
 | none=>
  rw [f] at key
  show wpAny _ _ (Builtin.Dict.pendingKey? (ad I 0) (.int k t) >>= _) _ _ _
  exact av (wpAny_pendingKey_int (jt key))
theorem L9 {w:World} {top:Tr} (I:ae8) (l:List DictEntry) (ep:Nat) (k:Int) (t:Tok) (v:Value) (hk:ikB l=true) (hz:l.length≤sizeLine) :
  HT w top 3 1 (.call (.builtin "dict.__setitem__") ⟨[.ref (ad I 0),.int k t,v],[]⟩) (tc I 0 [uN l ep]) I (fun I' z=>(.none,tc I' 0 [uN (cI k t v l) (epD k l ep)])):=by
 intro A R h g d tk os r p hb j K
 have c:=(j.at_ (ad I 0,uN l ep) (cv.mpr rfl)).1
 refine ya slot_dict_setitem.plain entry_dict_setitem (slot_dict_setitem.check _ _ _ _ _ _ _ _ ⟨_,c,rfl⟩ (args_dict_setitem _ _ _) ?_)
 show wpAny _ _ (Builtin.Dict.notOrdered "__setitem__" ⟨[.ref (ad I 0),.int k t,v],[]⟩ >>= _) _ _ _
 refine av (wpAny_notOrdered_dict ⟨_,c,rfl⟩ ?_)
 show wpAny _ _ (dictSet (ad I 0) (.int k t) v >>= _) _ _ _
 refine av (U0 c hk hz fun f i=>jt ?_)
 have m:Has (h.update (ad I 0) f) [(ad I 0,f (uN l ep))]:=aie j (by rw [i];rfl)
 rw [i] at m
 exact K I (fun z=>0) (h.update (ad I 0) f) (tk + 1) (fun z z=>rfl) m (fun a n=>.inl n) (fun b o e hn=>akv b o e fun q=>hn (by rw [q];exact cv.mpr rfl)) (by rw [eZ];exact ai _)
theorem iX {w:World} {top:Tr} (I:ae8) (l:List DictEntry) (ep:Nat) (k:Int) (t:Tok) (v:Value) (hk:ikB l=true) (hv:getD k l=some v) :
  HT w top 3 1 (.call (.builtin "dict.__getitem__") ⟨[.ref (ad I 0),.int k t],[]⟩) (tc I 0 [uN l ep]) I (fun I' z=>(v,tc I' 0 [uN l ep])):=by
 intro A R h g d tk os m j hb f K
 have c:=(f.at_ (ad I 0,uN l ep) (cv.mpr rfl)).1
 refine ya slot_dict_getitem.plain entry_dict_getitem (slot_dict_getitem.check _ _ _ _ _ _ _ _ ⟨_,c,rfl⟩ (args_dict_getitem _ _) ?_)
 have key:=K I (fun z=>0) h (tk + 1) (fun z z=>rfl) f (fun a i=>.inl i) (fun b o e hn=>e) (ai _)
 show wpAny _ _ (dictGet (ad I 0) (.int k t) >>= _) _ _ _
 refine av (pQ c hk ?_)
 rw [hv]
 exact jt key
theorem Xh {w:World} {top:Tr} (I:ae8) (a b:Int) (t u:Tok) :
  HT w top 3 0 (.call (.builtin "int.__le__") ⟨[.int a t,.int b u],[]⟩) (tc I 0 []) I (fun I' z=>(.bool (decide (a≤b)),tc I' 0 [])):=by
 intro A R h g d tk os i j hb f K
 refine ya PySem.F.slot_int_le.plain PySem.F.entry_int_le (PySem.F.slot_int_le.check _ _ _ _ _ _ _ _ rfl (PySem.F.args_int_le_2 _ _) ?_)
 exact (AutoIntG1.int___le___int_int_0 a t b u) prog w A R _ (K I (fun z=>0) h tk (fun z z=>rfl) f (fun a c=>.inl c) (fun b o e hn=>e) (ai _))
theorem tQ {w:World} {top:Tr} (I:ae8) (l:List DictEntry) (ep:Nat) (k:Int) (t:Tok) (hk:ikB l=true) :
  HT w top 3 1 (.call (.builtin "dict.get") ⟨[.ref (ad I 0),.int k t],[]⟩) (tc I 0 [uN l ep]) I (fun I' z=>((getD k l).getD .none,tc I' 0 [uN l ep])):=by
 intro A R h g d tk os n m hb i K
 have c:=(i.at_ (ad I 0,uN l ep) (cv.mpr rfl)).1
 refine ya Zk.plain amb (Zk.check _ _ _ _ _ _ _ _ ⟨_,c,rfl⟩ (PySem.F.args_dict_get_2 _ _) ?_)
 have key:=K I (fun z=>0) h (tk + 1) (fun z z=>rfl) i (fun a j=>.inl j) (fun b o e hn=>e) (ai _)
 show wpAny _ _ (dictGet (ad I 0) (.int k t) >>= _) _ _ _
 refine av (pQ c hk ?_)
 cases f:getD k l with
 | some v=>
  rw [f] at key
  exact jt key
 | none=>
  rw [f] at key
  show wpAny _ _ (Builtin.Dict.missed (ad I 0) (.int k t) >>= _) _ _ _
  exact av (al6 (jt key))
theorem JJ {w:World} {top:Tr} (I:ae8) (l:List DictEntry) (ep:Nat) (k:Int) (t:Tok) (v:Value) (hk:ikB l=true) :
  HT w top 3 1 (.call (.builtin "dict.get") ⟨[.ref (ad I 0),.int k t,v],[]⟩) (tc I 0 [uN l ep]) I (fun I' z=>((getD k l).getD v,tc I' 0 [uN l ep])):=by
 intro A R h g d tk os n m hb i K
 have c:=(i.at_ (ad I 0,uN l ep) (cv.mpr rfl)).1
 refine ya Zk.plain amb (Zk.check _ _ _ _ _ _ _ _ ⟨_,c,rfl⟩ (PySem.F.args_dict_get_3 _ _ _) ?_)
 have key:=K I (fun z=>0) h (tk + 1) (fun z z=>rfl) i (fun a j=>.inl j) (fun b o e hn=>e) (ai _)
 show wpAny _ _ (dictGet (ad I 0) (.int k t) >>= _) _ _ _
 refine av (pQ c hk ?_)
 cases f:getD k l with
 | some v=>
  rw [f] at key
  exact jt key
 | none=>
  rw [f] at key
  show wpAny _ _ (Builtin.Dict.missed (ad I 0) (.int k t) >>= _) _ _ _
  exact av (al6 (jt key))
noncomputable def f8 (os:List Obj):List DictEntry × Nat:=match os with
 | o :: _=>match o.data with
  | .dict es ep=>(es.toList,ep)
  | _=>([],0)
 | _=>([],0)
theorem hb1 {a b:Bool} (h:[OV.hb a]=[OV.hb b]):a=b:=by injection h with h _;injection h
theorem hb2 {a b c d:Bool} (h:[OV.hb a,OV.hb b]=[OV.hb c,OV.hb d]):a=c∧b=d:=by
 injection h with h h'
 injection h with h
 exact ⟨h,hb1 h'⟩
def nq (w:World) (top:Tr) (b:Bool):PL w top where
 P:=(Int × Nat) × List DictEntry × Nat
 fs:=[.arg 0]
 qt:=0
 it:=0
 need:=3
 ext c os:=((am (ax c 1),ak (ax c 1)),f8 os)
 obl _ p:=([.hb (ikB p.2.1),.hb (getD p.1.1 p.2.1).isSome],[.hb true,.hb b])
 olen _ _:=rfl
 code I p:=.call (.builtin "dict.__contains__") ⟨[.ref (ad I 0),.int p.1.1 p.1.2],[]⟩
 pre _ p:=[uN p.2.1 p.2.2]
 post _ _ p:=[uN p.2.1 p.2.2]
 res _ _ _:=.bool b
 len _ _ _:=rfl
 ok p I hc _:=by
  obtain ⟨a,d⟩:=hb2 hc
  have:=IY (w:=w) (top:=top) I p.2.1 p.2.2 p.1.1 p.1.2 a
  rw [d] at this
  exact this
def akJ (w:World) (top:Tr):PL w top where
 P:=((Int × Nat) × Value) × List DictEntry × Nat
 fs:=[.arg 0]
 qt:=0
 it:=0
 need:=3
 ext c os:=(((am (ax c 1),ak (ax c 1)),ax c 2),f8 os)
 obl _ p:=([.hb (ikB p.2.1),.hb (Nat.ble p.2.1.length 16777216)],[.hb true,.hb true])
 olen _ _:=rfl
 code I p:=.call (.builtin "dict.__setitem__") ⟨[.ref (ad I 0),.int p.1.1.1 p.1.1.2,p.1.2],[]⟩
 pre _ p:=[uN p.2.1 p.2.2]
 post _ _ p:=[uN (cI p.1.1.1 p.1.1.2 p.1.2 p.2.1) (epD p.1.1.1 p.2.1 p.2.2)]
 res _ _ _:=.none
 len _ _ _:=rfl
 ok p I hc _:=by
  obtain ⟨a,b⟩:=hb2 hc
  exact L9 I p.2.1 p.2.2 p.1.1.1 p.1.1.2 p.1.2 a (by rw [Tt];exact ag b)
def Zy (w:World) (top:Tr):PL w top where
 P:=(Int × Nat) × Int × Nat
 fs:=[]
 qt:=0
 it:=0
 need:=3
 ext c os:=((am (ax c 0),ak (ax c 0)),am (ax c 1),ak (ax c 1))
 obl _ p:=([.hb (PySem.W.Z.leB p.1.1 p.2.1)],[.hb false])
 olen _ _:=rfl
 code I p:=.call (.builtin "int.__le__") ⟨[.int p.1.1 p.1.2,.int p.2.1 p.2.2],[]⟩
 pre _ p:=[]
 post _ _ p:=[]
 res _ _ _:=.bool false
 len _ _ _:=rfl
 ok p I hc _:=by
  have h:=hb1 hc
  have:=Xh (w:=w) (top:=top) I p.1.1 p.2.1 p.1.2 p.2.2
  have e:decide (p.1.1≤p.2.1)=false:=Na fun q=>by rw [(PySem.W.Z.leB_iff _ _).mpr q] at h;cases h
  rw [e] at this
  exact this
structure WB where
 o:World
 a:Bool
 b:Bool
noncomputable def WB.w (J:WB):World:=(J.o.withFollow "comprehension-iter-twice" J.a).withFollow "special-get-raises" J.b
noncomputable abbrev WB.p (J:WB):Params:=J.w.params
abbrev WB.t (J:WB):Tr:=ac J.p
noncomputable abbrev LG (J:WB):=LC J.w J.t
noncomputable abbrev SG (J:WB):=Sum J.w J.t
abbrev CL (J:WB):=List ((Code→Bool) × LG J)
def smS {J:WB} (l:CL J):List (SG J):=l.map fun x=>x.2.toSum
noncomputable def cJ (j:Nat):List (Nat × Tok × Nat × Tok)→Bool
 | []=>true
 | x :: l=>match Nat.beq x.1 j with
  | true=>false
  | false=>cJ j l
theorem nk:∀ l:List (Nat × Tok × Nat × Tok),ikB (l.map aa.labE)=true
 | []=>rfl
 | x :: l=>by
  show (PySem.W.Z.eqB (hashInt (Int.negSucc x.1)) (hashInt (Int.negSucc x.1)) && ikB (l.map aa.labE))=true
  rw [(FF _ _).mpr rfl,nk l];rfl
theorem ks {j:Nat}:∀ {l:List (Nat × Tok × Nat × Tok)},cJ j l=true→getD (Int.negSucc j) (l.map aa.labE)=none
 | [],_=>rfl
 | x :: l,h=>by
  change (match Nat.beq x.1 j with | true=>false | false=>cJ j l)=true at h
  cases q:Nat.beq x.1 j with
  | true=>rw [q] at h;cases h
  | false=>
   rw [q] at h
   show (match Nat.beq x.1 j with | true=>_ | false=>getD (Int.negSucc j) (l.map aa.labE))=none
   rw [q]
   exact ks h
theorem rD {k:Int} {t:Tok} {v:Value}:∀ {l:List DictEntry},getD k l=none→cI k t v l=l++[⟨hashInt k,.int k t,v⟩]
 | [],_=>rfl
 | e :: l,h=>by
  cases q:rP k e.key with
  | true=>rw [anp q] at h;cases h
  | false=>
   rw [anq q] at h
   rw [ans q,rD h,Z4]
def SSp (w:World):List (Sum w (ac w.params)):=[(cW w (ac w.params)).sum,(Zy w (ac w.params)).sum,(nq w (ac w.params) false).sum,(akJ w (ac w.params)).sum]
noncomputable def orP:List Nat:=(by walk_at "#k[Fk[e2.Ie2N2%evUev*N5(")
def tl (P:Params) (S:aa) (j t u:Nat) (I:ae8):List Obj:=[ky (ad I 1),
 jF P S.tk (ad I 2) (ad I 3) (S.c + 1158) (.int (Int.ofNat S.regs) S.tr) (.int (Int.ofNat S.curs) S.tc) (.int (Int.ofNat S.slots) S.ts) (.int (Int.negSucc S.next) S.tn),ab S.opsV S.e,
 uN (cI (Int.negSucc j) t (.int (Int.ofNat S.opsV.size) u) (S.labels.map aa.labE)) (epD (Int.negSucc j) (S.labels.map aa.labE) S.le)]
theorem TX (J:WB) (S:aa) (j t:Nat) (I O:ae8) :
 Ran (wf J.w J.t (SSp J.w) 60 4 4 1 4 300 (fun I=>.call (.ref 110) ⟨[.ref (ad I 0),.int (Int.negSucc j) t],[]⟩) (fun I=>PO J.p S S.opsV I) none
  orP [0,1,2,3] [6] (fun z z=>.none) (fun I O=>tl J.p S j t (O 0) I) (fun z z=>none) I O)
  [.hb (ikB (S.labels.map aa.labE)),.hb (Nat.ble (S.labels.map aa.labE).length 16777216),.hb (Nat.ble S.opsV.size 16777216),.hb (ikB (S.labels.map aa.labE)),.hb (getD (Int.negSucc j) (S.labels.map aa.labE)).isSome,.hb (PySem.W.Z.leB (Int.negSucc j) (Int.negSucc S.next))]
  [.hb true,.hb true,.hb true,.hb true,.hb false,.hb false]:=by
 unfold Ran
 rcases J with ⟨_,_,_|_⟩<;>kernel_rfl
noncomputable def plX (S:aa) (j t u:Nat):aa:={ S with labels:=S.labels++[(j,t,S.n,u)],le:=S.le + 1 }
theorem aln {J:WB} (S:aa) (j t:Nat) (f:Nat.blt j S.next=true) (a:cJ j S.labels=true) (g:Nat.ble S.n 1000000=true) (d:Nat.ble S.labels.length 1000000=true) (I:ae8) :
  HT J.w J.t 60 0 (.call (.ref 110) ⟨[.ref (S.p + 1158),.int (Int.negSucc j) t],[]⟩) ([]++uU J.p (some S)) I
   (fun I' O'=>(.none,[]++uU J.p (some (plX S j t (ah 1 O' 0))))):=by
 have l:=ag f
 have m:=ag g
 have i:=ag d
 have e:S.opsV.size=S.n:=by rw [← S.hn];simp [aa.opsV]
 have b:PySem.W.Z.leB (Int.negSucc j) (Int.negSucc S.next)=false:=by
  show Nat.ble S.next j=false
  cases q:Nat.ble S.next j with
  | false=>rfl
  | true=>have:=ag q;lia
 have h:=HT.of_ek (ay J.p) (SSp J.w) (need:=60) (k:=4) (N:=4) (it:=1) (np:=4) 300 (code:=fun I=>.call (.ref 110) ⟨[.ref (ad I 0),.int (Int.negSucc j) t],[]⟩) (pre:=fun I=>PO J.p S S.opsV I) (X:=none) orP [0,1,2,3] [6]
  (res:=fun z z=>.none) (post:=fun I O=>tl J.p S j t (O 0) I) (postX:=fun z z=>none)
  (fun z z=>[.hb (ikB (S.labels.map aa.labE)),.hb (Nat.ble (S.labels.map aa.labE).length 16777216),.hb (Nat.ble S.opsV.size 16777216),.hb (ikB (S.labels.map aa.labE)),.hb (getD (Int.negSucc j) (S.labels.map aa.labE)).isSome,.hb (PySem.W.Z.leB (Int.negSucc j) (Int.negSucc S.next))])
  (fun z z=>[.hb true,.hb true,.hb true,.hb true,.hb false,.hb false]) (fun z=>rfl) rfl rfl (by decide) (fun z z=>rfl) (by decide) rfl
  (fun I O=>by rw [nk,ks a,b,e,zt,aF (by lia),aF (by lia)];rfl) (fun I O=>TX J S j t I O) (nu4 S)
 have c:∀ u I,tl J.p S j t u I=PO J.p (plX S j t u) S.opsV I:=by
  intro u I
  unfold tl
  rw [rD (ks a),e,show epD (Int.negSucc j) (S.labels.map aa.labE) S.le=S.le + 1 by unfold epD;rw [ks a]]
  simp [PO,plX,aa.labelsO,aa.labE,uN]
 simp only [c] at h
 exact XF (S:=S) (code:=fun I=>.call (.ref 110) ⟨[.ref (ad I 0),.int (Int.negSucc j) t],[]⟩) (res:=fun z=>.none) (S1:=fun O=>plX S j t (O 0)) h rfl (fun z=>⟨rfl,rfl,rfl,rfl⟩) (fun z=>rfl) (fun z=>rfl) I
noncomputable def xI (v:Value):Nat:=match v with
 | .int (.negSucc n) _=>n
 | _=>0
def M8 (J:WB):LG J where
 P:=Code × aa
 fs:=[]
 qt:=0
 q:=0
 it:=1
 need:=60
 ext c _ X:=(c,aj X)
 obl _ p:=([.hb (Nat.blt (xI (ax p.1 1)) p.2.next),.hb (cJ (xI (ax p.1 1)) p.2.labels),.hb (Nat.ble p.2.n 1000000),.hb (Nat.ble p.2.labels.length 1000000)],[.hb true,.hb true,.hb true,.hb true])
 olen _ _:=rfl
 code _ p:=.call (.ref 110) ⟨[.ref (p.2.p + 1158),.int (Int.negSucc (xI (ax p.1 1))) (ak (ax p.1 1))],[]⟩
 pre _ _:=[]
 preX p:=some p.2
 post _ _ _:=[]
 postX _ O p:=some (plX p.2 (xI (ax p.1 1)) (ak (ax p.1 1)) (O 0))
 res _ _ _:=.none
 qle:=Bt _
 len _ _ _:=rfl
 ok p I hc _:=by
  simp only [List.cons.injEq,OV.hb.injEq,and_true] at hc
  exact aln p.2 _ _ hc.1 hc.2.1 hc.2.2.1 hc.2.2.2 I
noncomputable def stC:bx→Code
 | .code c=>c
 | .tree c _=>c
noncomputable def enV:En→Value
 | .ret v=>v
 | _=>.none
noncomputable def aq.toLC2 {J:WB} (S:List (SG J)) (M:aq Raw) (fs:List Fd) (run:∀ p,M.Runs J.w J.t S p) (ok:∀ p,M.Ok p:=by exact fun z=>⟨fun z=>rfl,by kernel_rfl,by kernel_rfl,ag rfl,fun z z=>rfl,ag rfl,by kernel_rfl⟩) (nx:Bool:=false) (a:fs.length=M.k:=by rfl) (b:∀ p I,M.st p I=.code (stC (M.st p I)):=by exact fun z z=>rfl) (c:∀ p I O,M.e p I O=JX nx (enV (M.e p I O)):=by exact fun z z z=>rfl)
  (h5:∀ I p,(M.ys p I I).length=(M.zs p I I).length:=by exact fun z z=>rfl) (h6:∀ p I I' O,(M.ys p (ah M.k I) (ah M.k I))=(M.zs p (ah M.k I) (ah M.k I))→(∀ j,j < M.k→I' j=I j)→M.ys p I' O=M.zs p I' O:=by exact fun z z z z h z=>h):LG J:=
 aq.toLC (ay _) S M nx fs a (fun p I=>stC (M.st p I)) b (fun p I O=>enV (M.e p I O)) c (fun I p=>(M.ys p I I,M.zs p I I)) h5 ok run h6
noncomputable def aq.toPL2 {J:WB} (S:List (SG J)) (M:aq Raw) (fs:List Fd) (run:∀ p,M.Runs J.w J.t S p) (ok:∀ p,M.Ok p:=by exact fun z=>⟨fun z=>rfl,by kernel_rfl,by kernel_rfl,ag rfl,fun z z=>rfl,ag rfl,by kernel_rfl⟩) (nx:Bool:=false) (d:fs.length=M.k:=by rfl) (b:∀ p I,M.st p I=.code (stC (M.st p I)):=by exact fun z z=>rfl) (f:∀ p I O,M.e p I O=JX nx (enV (M.e p I O)):=by exact fun z z z=>rfl) (c:∀ p,M.preX p=none:=by exact fun z=>rfl) (a:∀ p I O,M.postX p I O=none:=by exact fun z z z=>rfl)
  (h5:∀ I p,(M.ys p I I).length=(M.zs p I I).length:=by exact fun z z=>rfl) (h6:∀ p I I' O,(M.ys p (ah M.k I) (ah M.k I))=(M.zs p (ah M.k I) (ah M.k I))→(∀ j,j < M.k→I' j=I j)→M.ys p I' O=M.zs p I' O:=by exact fun z z z z h z=>h):LG J:=
 aq.toPL (ay _) S M nx fs d (fun p I=>stC (M.st p I)) b (fun p I O=>enV (M.e p I O)) f c a (fun I p=>(M.ys p I I,M.zs p I I)) h5 ok run h6
def aq.okB {V:Type} (M:aq V) (p:V) (I O:ae8):Bool:=Nat.beq (M.pre p I).length M.k && (am1 (M.kept.take M.k) (List.range M.k) && (Nat.beq M.kept.length (M.k + M.q) && (Nat.ble M.qt M.q && (Nat.beq (M.post p I O).length (M.k + M.qt) && (Nat.blt M.k 1000000 && ndB M.kept)))))
theorem aq.ok_of {V:Type} {M:aq V} {p:V} (h:∀ I O,M.okB p I O=true):M.Ok p:=by
 have H:=fun I O=>iR.mp (h I O)
 have c:=fun I O=>iR.mp (H I O).2
 have b:=fun I O=>iR.mp (c I O).2
 have e:=fun I O=>iR.mp (b I O).2
 have a:=fun I O=>iR.mp (e I O).2
 have d:=fun I O=>iR.mp (a I O).2
 have z:Nat→Nat:=fun Z=>0
 exact ⟨fun I=>Nat.eq_of_beq_eq_true (H I I).1,am2 (c z z).1,Nat.eq_of_beq_eq_true (b z z).1,ag (e z z).1,fun I O=>Nat.eq_of_beq_eq_true (a I O).1,ag (d z z).1,(d z z).2⟩
theorem okE {a V:Type} (e:Enu a) (M:a→aq V) (p:V) (v:a) (h:∀ I O,amZ (fun v=>(M v).okB p I O) e.1=true:=by intro I O;kernel_rfl):(M v).Ok p:=aq.ok_of fun I O=>e.all _ v (h I O)
def aq.lo {V:Type} (M:aq V) (J:WB) (S:List (SG J)) (p:V) (I O:ae8):=(fun x:List OV × List OV=>((spl x.1 x.2).1.1,(spl x.1 x.2).2)) (tY J.w J.t S M.need M.k (M.k + M.q) M.it (M.k + M.qt) M.fuel M.lp (M.st p) (M.pre p) (M.preX p) M.or M.kept M.rt (M.e p) (M.post p) (M.postX p) I O)
def aq.ro {V:Type} (M:aq V) (J:WB) (S:List (SG J)) (p:V) (I O:ae8):=(fun x:List OV × List OV=>((spl x.1 x.2).1.2,(M.ys p I O,M.zs p I O))) (tY J.w J.t S M.need M.k (M.k + M.q) M.it (M.k + M.qt) M.fuel M.lp (M.st p) (M.pre p) (M.preX p) M.or M.kept M.rt (M.e p) (M.post p) (M.postX p) I O)
theorem aq.lro {V:Type} {M:aq V} {J:WB} {S:List (SG J)} {p:V} (h:M.lo J S p=M.ro J S p):M.Runs J.w J.t S p:=fun I O=>congrFun (congrFun h I) O
abbrev amN {a V:Type} (e:Enu a) (M:a→WB→aq V) (S:a→(J:WB)→List (SG J)) (p:V) (J:WB):Prop:=amT (fun v=>(M v J).lo J (S v J) p) e.1=amS (fun v=>(M v J).ro J (S v J) p) e.1
theorem amM {a V:Type} (e:Enu a) (M:a→WB→aq V) (S:a→(J:WB)→List (SG J)) (v:a) (J:WB) (p:V) (h:amN e M S p J:=by kernel_rfl):(M v J).Runs J.w J.t (S v J) p:=aq.lro (amR h v (e.2 v))
theorem amK {b V:Type} (e:Enu b) (M:b→WB→aq V) (S:b→(J:WB)→List (SG J)) (v:b) (J:WB) (p:V) (d:amN e M S p ⟨J.o,J.a,false⟩:=by kernel_rfl) (c:amN e M S p ⟨J.o,J.a,true⟩:=by kernel_rfl):(M v J).Runs J.w J.t (S v J) p:=match J,d,c with
 | ⟨_,_,false⟩,h,_=>amM e M S v _ p h
 | ⟨_,_,true⟩,_,h=>amM e M S v _ p h
theorem amL {c V:Type} (e:Enu c) (M:c→WB→aq V) (S:c→(J:WB)→List (SG J)) (v:c) (J:WB) (p:V) (b:amN e M S p ⟨J.o,false,false⟩:=by kernel_rfl) (a:amN e M S p ⟨J.o,false,true⟩:=by kernel_rfl) (f:amN e M S p ⟨J.o,true,false⟩:=by kernel_rfl) (d:amN e M S p ⟨J.o,true,true⟩:=by kernel_rfl):(M v J).Runs J.w J.t (S v J) p:=match J,b,a,f,d with
 | ⟨_,false,_⟩,b,a,_,_=>amK e M S v _ p b a
 | ⟨_,true,_⟩,_,_,b,a=>amK e M S v _ p b a
theorem tT {V:Type} {M:aq V} {p:V} (h:∀ I O,M.okB p I O=true:=by intro I O;kernel_rfl):M.Ok p:=aq.ok_of h
theorem S4 {V:Type} {M:aq V} {J:WB} {S:List (SG J)} {p:V} (h:M.lo J S p=M.ro J S p:=by kernel_rfl):M.Runs J.w J.t S p:=aq.lro h
abbrev S5 {V:Type} (M:WB→aq V) (S:(J:WB)→List (SG J)) (p:V) (J:WB):Prop:=(M J).lo J (S J) p=(M J).ro J (S J) p
theorem SX {V:Type} (M:WB→aq V) (S:(J:WB)→List (SG J)) (J:WB) (p:V) (b:S5 M S p ⟨J.o,J.a,false⟩:=by kernel_rfl) (c:S5 M S p ⟨J.o,J.a,true⟩:=by kernel_rfl):(M J).Runs J.w J.t (S J) p:=match J,b,c with
 | ⟨_,_,false⟩,h,_=>aq.lro h
 | ⟨_,_,true⟩,_,h=>aq.lro h
theorem W2 {V:Type} (M:WB→aq V) (S:(J:WB)→List (SG J)) (J:WB) (p:V) (a:S5 M S p ⟨J.o,false,false⟩:=by kernel_rfl) (b:S5 M S p ⟨J.o,false,true⟩:=by kernel_rfl) (d:S5 M S p ⟨J.o,true,false⟩:=by kernel_rfl) (c:S5 M S p ⟨J.o,true,true⟩:=by kernel_rfl):(M J).Runs J.w J.t (S J) p:=match J,a,b,d,c with
 | ⟨_,false,_⟩,a,b,_,_=>SX M S _ p a b
 | ⟨_,true,_⟩,_,_,a,b=>SX M S _ p a b
noncomputable def aw (c d:Nat):Obj:={ cls:=.ref c,dict:=some d }
noncomputable def aE (es:List DictEntry) (ep:Nat):Obj:={ cls:=.type "dict",data:=.dict ⟨es⟩ ep }
noncomputable def aO (xs:List Value):Obj:={ cls:=.type "tuple",data:=.seq ⟨xs⟩ 0 }
def sC:Str:=sv J94
inductive MV where
 | n | i (x:Int) | s (x:Str)
noncomputable def MV.v (t:Nat):MV→Value
 | .n=>.none
 | .i x=>.int x t
 | .s x=>.str x t
section
variable (P:Params) (k:ae8) (a:ae8)
end
section
open PySem PySem.W
noncomputable def isB (id:String) (c:Code):Bool:=match c with
 | .call (.builtin i) _=>Nat.beq (PySem.code i) (PySem.code id)
 | _=>false
noncomputable def isR (a n:Nat) (c:Code):Bool:=match c with
 | .call (.ref b) args=>Nat.beq a b && Nat.beq args.pos.length n
 | _=>false
noncomputable def amf (c:Code) (n k:Nat):Bool:=match ax c n,k with
 | .none,0=>true
 | .int ..,1=>true
 | .str ..,2=>true
 | .ref _,3=>true
 | _,_=>false
noncomputable def uF:List Obj→Nat→Obj
 | [],_=>default
 | o :: _,0=>o
 | _ :: l,n + 1=>uF l n
noncomputable def bN (o:Obj) (n:Nat):Value:=match o.data with
 | .seq xs _=>xs.toList.getD n .none
 | .fields xs=>xs.toList.getD n .none
 | .dict es _=>match es.toList.drop n with
  | e :: _=>e.val
  | []=>.none
 | _=>.none
def abv (o:Obj) (n:Nat):Tok:=match o.data with
 | .dict es _=>match es.toList.drop n with
  | e :: _=>ak e.key
  | []=>0
 | _=>0
def kT (p:Raw) (i:Nat):Nat→Tok:=abv (uF p.os i)
def vN (p:Raw) (i n:Nat):Value:=bN (uF p.os i) n
def vI (p:Raw) (i n:Nat):Value:=.int (am (vN p i n)) (ak (vN p i n))
def vS (p:Raw) (i n:Nat):Value:=.str (aD (vN p i n)) (ak (vN p i n))
def vR (p:Raw) (i n:Nat):Nat:=i8 (vN p i n)
def pF (v:Value):Bool:=match v with
 | .bool b=>b
 | _=>false
def dF (P:Params) (l:List Nat) (t:Nat) (v:Value):DictEntry:=⟨PySem.W.X.condFn Int false (Int.ofNat 0) (PySem.W.ZFast.zw12210062019545310541 (P.strHash ⟨l⟩)),.str (sv l) t,v⟩
noncomputable def cu (s:Stmt) (it:Value) (env:Env):Code:=match s with
 | .For t _ b o _=>.forLoop t it b o env
 | _=>default
noncomputable def bu (l:List Stmt) (i j:Nat):List Stmt:=(l.take j).drop i
theorem hbC {n m:Nat} {l a:List OV} (h:n≤m) (hl:l=a):OV.hb (Nat.ble n m) :: l=OV.hb true :: a:=by rw [aF h,hl]
theorem hbT {b:Bool} {l a:List OV} (h:b=true) (hl:l=a):OV.hb b :: l=OV.hb true :: a:=by rw [h,hl]
theorem hbF {b:Bool} {l a:List OV} (h:b=false) (hl:l=a):OV.hb b :: l=OV.hb false :: a:=by rw [h,hl]
theorem aU {b c:Bool} {l a:List OV} (h:OV.hb b :: l=OV.hb c :: a):b=c∧l=a:=by
 injection h with h1 h2
 injection h1 with h1
 exact ⟨h1,h2⟩
def LLp (J:WB):CL J:=
 [(isR 89 2,mo 1 (ab2 _)),(isR 89 3,mo 2 (ab6 _)),(isR 89 4,mo 3 (ab7 _)),(isR 89 5,mo 4 (acf _)),
  (fun c=>isR 89 6 c && amf c 5 0,mo 5 (abK _)),(fun c=>isR 89 6 c && amf c 5 1,mo 6 (aca _)),(fun c=>isR 89 6 c && amf c 5 2,mo 7 (abA _)),(fun c=>isR 89 6 c && amf c 5 3,mo 8 (abJ _)),
  (isR 118 1,Td _),(isR 118 2,UB _),(isR 103 1,M1 _),(isR 125 1,IS _),(isR 132 1,T0 _),(isR 110 2,M8 J)]
end
def HR (w:World) (top:Tr) (need:Nat) (st:bx) (L:XL) (c:En→XL→Prop):Prop:=
 ∀ (A:Around) (R:Result→Shared→Prop) (h:Heap) (g:Array GenState) (d:Drawn) (tk:Nat) (os:OsState),Ctx A need→aky top h→1158≤h.objs.size→Has h L →
  (∀ e L' f i,c e L'→Has f L'→(∀ a,a∈L'.map (·.1)→a∈L.map (·.1)∨h.objs.size≤a) →
   (∀ b o,h.get? b=some o→b ∉ L.map (·.1)→f.get? b=some o)→h.objs.size≤f.objs.size→ke w A R e ⟨f,g,d,i,os⟩) →
  jL w A st R ⟨h,g,d,tk,os⟩
section
variable {w:World} {top:Tr} {need need' k:Nat} {st:bx} {L L':XL} {I:ae8}
theorem HE.hr {e:(Nat→Nat)→(Nat→Nat)→En} {K:(Nat→Nat)→(Nat→Nat)→XL} (H:HE w top need k st L I e K) :
  HR w top need st L (fun o L'=>∃ I' O',(∀ j,j < k→I' j=I j)∧o=e I' O'∧L'=K I' O'):=
 fun A R h g d tk os q m hb i p=>H A R h g d tk os q m hb i fun I' O' b a l c n f h5=>p _ _ b a ⟨I',O',l,rfl,rfl⟩ c n f h5
theorem HR.mono {P P':En→XL→Prop} (H:HR w top need st L P) (hn:need≤need') (f:∀ e L',P e L'→P' e L'):HR w top need' st L P':=
 fun A R h g d tk os b l hb i m=>H A R h g d tk os ⟨b.handled,by have:=b.depth;lia,by have:=b.units;lia⟩ l hb i fun e L' c a j=>m e L' c a (f e L' j)
theorem HR.perm {P:En→XL→Prop} (H:HR w top need st L P) (f:L.Perm L'):HR w top need st L' P:=fun A R h g d tk os x t hb r v=>by
 have i:∀ a,a∈L.map (·.1) ↔ a∈L'.map (·.1):=fun a=>(f.map _).mem_iff
 exact H A R h g d tk os x t hb (r.perm f.symm) fun e M j c s l u p h5=>v e M j c s l (fun a m=>(u a m).imp (i a).mp id) (fun b o q n=>p b o q fun z=>n ((i b).mp z)) h5
theorem HR.frame {P:En→XL→Prop} (H:HR w top need st L P) (M:XL):HR w top need st (L++M) (fun e L'=>∃ i,L'=i++M∧P e i):=fun A R h g d tk os t s hb m u=>by
 refine H A R h g d tk os t s hb m.sub fun e i n j r p f c l=>?_
 refine u e (i++M) n j ⟨i,rfl,r⟩ (m.keep p c f) (fun a ha=>?_) (fun b o e hn=>c b o e fun hq=>hn (by rw [eQ];exact uj _ hq)) l
 rw [eQ,uC] at ha
 rcases ha with ha | ha
 · rcases f a ha with q | q
   · exact .inl (by rw [eQ];exact uj _ q)
   · exact .inr q
 · exact .inl (by rw [eQ];exact u9 _ ha)
theorem HR.post_perm {P:En→XL→Prop} (H:HR w top need st L P):HR w top need st L (fun e L'=>∃ a,P e a∧a.Perm L'):=H.mono (ai _) fun e L' h=>⟨L',h,b6 _⟩
theorem HR.weak {P:En→XL→Prop} (H:HR w top need st L (fun e L'=>∃ b,P e b∧b.Perm L')) {P':En→XL→Prop} (z:∀ e b,P e b→∃ L',b.Perm L'∧P' e L'):HR w top need st L P':=
 fun A R h g d tk os r l hb s v=>H A R h g d tk os r l hb s fun e L' m c p i u n h5=>by
  obtain ⟨b,t,o⟩:=p
  obtain ⟨f,B,j⟩:=z e b t
  have q:=o.symm.trans B
  have x:∀ a,a∈L'.map (·.1) ↔ a∈f.map (·.1):=fun a=>(q.map _).mem_iff
  exact v e f m c j (i.perm q) (fun a y=>u a ((x a).mpr y)) n h5
theorem HR.drop {P P':En→XL→Prop} (H:HR w top need st L P) (n:∀ e b,P e b→∃ L' M,b.Perm (L'++M)∧P' e L'):HR w top need st L P':=
 fun A R h g d tk os u r hb p t=>H A R h g d tk os u r hb p fun e L' f c o i s m h5=>by
  obtain ⟨b,M,q,l⟩:=n e L' o
  exact t e b f c l (i.perm q).sub (fun a j=>s a ((q.map _).mem_iff.mpr (by rw [eQ];exact uj _ j))) m h5
theorem hJ {h a:Heap} (g:aky top h) (i:Has h L) (hk:∀ b o,h.get? b=some o→b ∉ L.map (·.1)→a.get? b=some o):aky top a:=fun b o q=>by
 refine hk b o (g b o q) fun hb=>?_
 obtain ⟨p,d,e⟩:=kw.mp hb
 have c:=(i.at_ p d).2
 have f:=uJ q
 have e:p.1=b:=e
 rw [e] at c
 exact absurd f (D7.mpr c)
theorem HR.again {t P2:En→XL→Prop} (H:HR w top need st L t) (K:∀ e L',t e L'→∃ c,e=.again c∧c.quiet=true∧HR w top need (.code c) L' P2):HR w top need st L P2:=
 fun A R h g d tk os s m hb r J=>H A R h g d tk os s m hb r fun e L' D j F B u p h5=>by
  obtain ⟨c,rfl,hq,E⟩:=K e L' F
  refine ⟨hq,E A R D g d j os s (hJ m r p) (wt hb h5) B fun e2 M i f G C v y x=>?_⟩
  refine J e2 M i f G C (fun a N=>?_) (fun b o q n=>?_) (wt h5 x)
  · rcases v a N with z | z
    · exact u a z
    · exact .inr (wt h5 z)
  · refine y b o (p b o q n) fun l=>?_
    rcases u b l with z | z
    · exact n z
    · exact absurd (Dt q) (D7.mpr z)
theorem HR.tx {nx:Bool} {c:Code} {K:(Nat→Nat)→(Nat→Nat)→Value × XL} (H:HR w top need (.code c) L (fun e L'=>∃ I' O',(∀ j,j < k→I' j=I j)∧e=JX nx (K I' O').1∧L'=(K I' O').2)):HTx nx w top need k c L I K:=
 fun A R h g d tk os p n hb r q=>H A R h g d tk os p n hb r fun e L' b a m f o i h5=>by
  obtain ⟨I',O',l,rfl,rfl⟩:=m
  have:=q I' O' b a l f o i h5
  cases nx<;>exact this
end
noncomputable def blk (l:List Stmt) (env:Env):Sem Fin:=PySem.W.R.bindR (PySem.W.ZFast.zw12563942051412417395 l env) fun f=>.pure (.done f)
theorem TI (l:List Stmt) (env:Env):blk l env=Sem.bind (execs l env) fun f=>.pure (.done f):=by
 unfold blk
 rw [← PySem.W.R.bindR_eq,← PySem.W.ZFast.ze12563942051412417395]
section
variable {w:World} {A:Around} {R:Result→Shared→Prop} {c:Code} {env:Env} {s:Shared}
theorem jM {l:List Stmt}:jL w A (.tree c (blk l env)) R s ↔ wpOwn (model prog w) A c (execs l env) (fun f a=>R (.ok f) a) (postE R) s:=by
 show wpOwn _ _ _ (blk l env) _ _ _ ↔ _
 rw [TI]
 constructor
 · intro h Γ p b hΓ
   have:=h Γ p b hΓ
   rw [show (Sem.bind (execs l env) fun f=>(Sem.pure (Fin.done f):Sem Fin))=(execs l env >>= fun f=>(Sem.pure (Fin.done f):Sem Fin)) from rfl,Sem.wp_bind'] at this
   exact this
 · intro h
   exact Zv (m:=execs l env) (wpOwn_mono h (fun f a d=>fun Γ p z z=>d) fun z z he=>he)
theorem FH (a l2:List Stmt):execs (a++l2) env=Sem.bind (execs a env) fun f=>match f with
  | .next=>execs l2 env
  | f=>.pure f:=by
 induction a with
 | nil=>rfl
 | cons s l ih=>
  rw [Z4,execs_cons,execs_cons]
  show Sem.bind _ _=Sem.bind (Sem.bind _ _) _
  rw [Sem.bind_assoc]
  refine congrArg (Sem.bind _) (funext fun f=>?_)
  cases f<;>first | exact ih | rfl
theorem akE {b l2:List Stmt} (h:jL w A (.tree c (blk b env)) (fun r a=>match r with
  | .ok .next=>jL w A (.tree c (blk l2 env)) R a
  | r=>R r a) s):jL w A (.tree c (blk (b++l2) env)) R s:=by
 rw [jM] at h ⊢
 rw [FH]
 refine Zv (m:=execs b env) (wpOwn_mono h (fun f a d=>?_) fun e a he=>he)
 cases f with
 | next=>exact jM.mp d
 | _=>exact fun Γ p z z=>d
theorem mQ {b:List Stmt} (h:jL w A (.tree (.func b env) (blk b env)) (fun r a=>match r with
  | .ok (.ret v)=>R (.ok (.ret v)) a
  | .ok _=>R (.ok (.ret .none)) a
  | .error _=>False) s):codeAny (model prog w) A (.func b env) R s:=by
 refine y_code _ _ _ _ _ _ ?_
 rw [jM] at h
 show wpOwn (model prog w) A (.func b env) (point >>= fun z=>(execs b env).onRaise (leaving env) >>= fun f=>match f with
  | .ret v=>ret v
  | _=>ret .none) _ _ _
 have key:wpOwn (model prog w) A (.func b env) ((execs b env).onRaise (leaving env)) (fun f a=>match f with
   | .ret v=>R (.ok (.ret v)) a
   | _=>R (.ok (.ret .none)) a) (postE R) s:=by
  intro Γ p d hΓ
  have:=h Γ p d hΓ
  rw [Sem.wp_onRaise]
  refine Sem.wp_mono _ Γ _ (fun f p' a g=>?_) (fun e p' a he=>?_) p s this
  · cases f<;>exact g
  · exact he.elim
 intro Γ p d hΓ
 rw [Sem.wp_bind',Sem.wp_cmd_point,Sem.wp_bind']
 refine Sem.wp_mono _ Γ _ (fun f p' a g=>?_) (fun e p' a he=>he) p s (key Γ p d hΓ)
 cases f<;>exact g
theorem HR.blocks {top:Tr} {need:Nat} {L:XL} {u P2:En→XL→Prop} {x l2:List Stmt} (H:HR w top need (.tree c (blk x env)) L u) (N:∀ e L',u e L'→e=.next∧HR w top need (.tree c (blk l2 env)) L' P2) :
  HR w top need (.tree c (blk (x++l2) env)) L P2:=fun A R h g d tk os t m hb r M=>by
 refine akE (H A _ h g d tk os t m hb r fun e L' F j J D v p h5=>?_)
 obtain ⟨rfl,G⟩:=N e L' J
 refine G A R F g d j os t (hJ m r p) (wt hb h5) D fun e2 P i f K E y C B=>?_
 refine M e2 P i f K E (fun a Q=>?_) (fun b o q n=>?_) (wt h5 B)
 · rcases y a Q with z | z
   · exact v a z
   · exact .inr (wt h5 z)
 · refine C b o (p b o q n) fun l=>?_
   rcases v b l with z | z
   · exact n z
   · exact absurd (Dt q) (D7.mpr z)
theorem HR.func {top:Tr} {need:Nat} {L:XL} {P:En→XL→Prop} {b:List Stmt} (H:HR w top need (.tree (.func b env) (blk b env)) L P) (l:∀ e L',P e L'→∃ v,e=.ret v):HR w top need (.code (.func b env)) L P:=fun A R h g d tk os r o hb n q=>by
 refine mQ (H A _ h g d tk os r o hb n fun e L' i a f j p m h5=>?_)
 have:=q _ L' i a f j p m h5
 obtain ⟨v,rfl⟩:=l e L' f
 exact this
end
theorem vf {I I':ae8}:∀ {j:Nat} {l:List Obj},(∀ i,j≤i→i < j + l.length→I' i=I i)→tc I' j l=tc I j l
 | _,[],_=>rfl
 | j,o :: l,h=>by
  have a:I' j=I j:=h j (ai _) (by simp)
  simp only [anm,ano,ad,a]
  rw [vf (fun i b d=>h i (by lia) (by simp only [Ov];lia))]
theorem aq.hr0 {V:Type} {w:World} {top:Tr} {M:aq V} {p:V} (hT:akC top) {S:List (Sum w top)} (run:M.Runs w top S p) (ok:M.Ok p) (hq:M.q=0) (I:ae8) (hb:∀ I' O,(∀ j,j < M.k→I' j=I j)→M.ys p I' O=M.zs p I' O) :
  HR w top M.need (M.st p (ah M.k I)) (tc I 0 (M.pre p (ah M.k I))++uU w.params (M.preX p)) (fun e L'=>∃ O,e=M.e p (ah M.k I) (ah M.it O)∧L'=tc I 0 (M.post p (ah M.k I) (ah M.it O))++uU w.params (M.postX p (ah M.k I) (ah M.it O))):=by
 refine (aq.he hT run ok I hb).hr.mono (ai _) <| elA fun I' O' a=>?_
 rw [hq,Nat.add_zero,nK a]
 refine ⟨O',rfl,?_⟩
 rw [vf (I':=I') (I:=I)]
 intro i z d
 have:=ok.hol (ah M.k I) (ah M.it O')
 have b:=ok.hq
 exact a i (by lia)
theorem db (r:Nat):Int.ofNat (r + 1) - Int.ofNat 1=Int.ofNat r:=by show ((r + 1:Nat):Int) - 1=(r:Int);lia
abbrev HRG (J:WB):=HR J.w J.t
theorem lr {w:World} {top:Tr} {I:ae8} {id:String} {B:Builtin} {T:String} {name:Str} {c:Value} {f:List Value} {v:Value} (i:Slot T name id) (hT:∀ s:Shared,s.TypeIs c T) (j:entryFor table id=some B) (args:argsOk id ⟨c :: f,[]⟩)
  (g:Gives (B ⟨c :: f,[]⟩) (.val v)):HT w top 3 0 (.call (.builtin id) ⟨c :: f,[]⟩) (tc I 0 []) I (fun I' z=>(v,tc I' 0 [])):=by
 intro A R h m d tk os p n hb l K
 refine ya i.plain j (i.check _ _ _ _ _ _ _ _ (hT _) args ?_)
 exact g prog w A R _ (K I (fun z=>0) h tk (fun z z=>rfl) l (fun a k=>.inl k) (fun b o e hn=>e) (ai _))
theorem tS {w:World} {top:Tr} {I:ae8} {id:String} {B:Builtin} {T:String} {name:Str} {c:Value} {f:List Value} {i:Int} (j:Slot T name id) (hT:∀ s:Shared,s.TypeIs c T) (k:entryFor table id=some B) (args:argsOk id ⟨c :: f,[]⟩)
  (g:Gives (B ⟨c :: f,[]⟩) (.int i)):HT w top 3 0 (.call (.builtin id) ⟨c :: f,[]⟩) (tc I 0 []) I (fun I' O'=>(.int i (O' 0),tc I' 0 [])):=by
 intro A R h n d tk os q p hb m K
 refine ya j.plain k (j.check _ _ _ _ _ _ _ _ (hT _) args ?_)
 exact g prog w A R _ (K I (fun z=>tk) h (tk + 1) (fun z z=>rfl) m (fun a l=>.inl l) (fun b o e hn=>e) (ai _))
def aic (w:World) (top:Tr) (id:String) (f:Int→Int→Bool) (b:Bool)
  (H:∀ (I:ae8) (x y:Int) (t u:Tok),HT w top 3 0 (.call (.builtin id) ⟨[.int x t,.int y u],[]⟩) (tc I 0 []) I (fun I' z=>(.bool (f x y),tc I' 0 []))):LC w top:=PL.toLC
 { P:=(Int × Nat) × Int × Nat
   fs:=[]
   qt:=0
   it:=0
   need:=3
   ext:=fun c os=>((am (ax c 0),ak (ax c 0)),am (ax c 1),ak (ax c 1))
   obl:=fun z p=>([.hb (f p.1.1 p.2.1)],[.hb b])
   olen:=fun z z=>rfl
   code:=fun I p=>.call (.builtin id) ⟨[.int p.1.1 p.1.2,.int p.2.1 p.2.2],[]⟩
   pre:=fun z p=>[]
   post:=fun z z p=>[]
   res:=fun z z z=>.bool b
   len:=fun z z z=>rfl
   ok:=fun p I a z=>by
    have h:=hb1 a
    have:=H I p.1.1 p.2.1 p.1.2 p.2.2
    rw [h] at this
    exact this }
noncomputable def ltI (a b:Int):Bool:=decide (a < b)
noncomputable def gtI (a b:Int):Bool:=decide (a > b)
noncomputable def geI (a b:Int):Bool:=decide (a ≥ b)
noncomputable def eqI (a b:Int):Bool:=a == b
def vJ (w:World) (top:Tr) (b:Bool):LC w top:=aic w top "int.__lt__" ltI b fun I x y t u=>lr F.slot_int_lt (fun z=>rfl) F.entry_int_lt (F.args_int_lt_2 _ _) (AutoIntG1.int___lt___int_int_0 x t y u)
def pg (w:World) (top:Tr) (b:Bool):LC w top:=aic w top "int.__gt__" gtI b fun I x y t u=>lr F.slot_int_gt (fun z=>rfl) F.entry_int_gt (F.args_int_gt_2 _ _) (AutoIntG4.int___gt___int_int_0 x t y u)
def iz (w:World) (top:Tr) (b:Bool):LC w top:=aic w top "int.__ge__" geI b fun I x y t u=>lr F.slot_int_ge (fun z=>rfl) F.entry_int_ge (F.args_int_ge_2 _ _) (AutoIntG9.int___ge___int_int_0 x t y u)
def kU (w:World) (top:Tr) (b:Bool):LC w top:=aic w top "int.__eq__" eqI b fun I x y t u=>lr F.slot_int_eq (fun z=>rfl) F.entry_int_eq (F.args_int_eq_2 _ _) (amd x t y u)
noncomputable def akx (a b:Int):Bool:=@decide (IntMulOk a b) (Classical.propDecidable _)
def jR (w:World) (top:Tr):LC w top:=PL.toLC
 { P:=(Int × Nat) × Int × Nat
   fs:=[]
   qt:=0
   it:=1
   need:=3
   ext:=fun c os=>((am (ax c 0),ak (ax c 0)),am (ax c 1),ak (ax c 1))
   obl:=fun z p=>([.hb (akx p.1.1 p.2.1)],[.hb true])
   olen:=fun z z=>rfl
   code:=fun I p=>.call (.builtin "int.__mul__") ⟨[.int p.1.1 p.1.2,.int p.2.1 p.2.2],[]⟩
   pre:=fun z p=>[]
   post:=fun z z p=>[]
   res:=fun z O p=>.int (p.1.1 * p.2.1) (O 0)
   len:=fun z z z=>rfl
   ok:=fun p I d z=>by
    have h:=hb1 d
    have b:IntMulOk p.1.1 p.2.1:=@of_decide_eq_true _ (Classical.propDecidable _) h
    refine (tS (I:=I) F.slot_int_mul (fun s=>typeIs_int s _ _) F.entry_int_mul (F.args_int_mul_2 _ _) (AutoIntG1.int___mul___int_int_0 p.1.1 p.1.2 p.2.1 p.2.2 b)).conv (ai _) (b6 _) id id fun I' O' a=>⟨a,?_,b6 _⟩
    show _=Value.int _ (ah 1 O' 0)
    rw [aJ (by decide)] }
noncomputable def nzI (a b:Int):Bool:=!(b == 0)
def Ic (w:World) (top:Tr):LC w top:=PL.toLC
 { P:=(Int × Nat) × Int × Nat
   fs:=[]
   qt:=0
   it:=1
   need:=3
   ext:=fun c os=>((am (ax c 0),ak (ax c 0)),am (ax c 1),ak (ax c 1))
   obl:=fun z p=>([.hb (nzI p.1.1 p.2.1)],[.hb true])
   olen:=fun z z=>rfl
   code:=fun I p=>.call (.builtin "int.__mod__") ⟨[.int p.1.1 p.1.2,.int p.2.1 p.2.2],[]⟩
   pre:=fun z p=>[]
   post:=fun z z p=>[]
   res:=fun z O p=>.int (Int.fmod p.1.1 p.2.1) (O 0)
   len:=fun z z z=>rfl
   ok:=fun p I d z=>by
    have h:=hb1 d
    have b:¬(p.2.1 == 0)=true:=by unfold nzI at h;intro q;rw [q] at h;cases h
    refine (tS (I:=I) F.slot_int_mod (fun s=>typeIs_int s _ _) F.entry_int_mod (F.args_int_mod_2 _ _) (AutoIntG6.int___mod___int_int_1 p.1.1 p.1.2 p.2.1 p.2.2 b)).conv (ai _) (b6 _) id id fun I' O' a=>⟨a,?_,b6 _⟩
    show _=Value.int _ (ah 1 O' 0)
    rw [aJ (by decide)] }
noncomputable def dvI (a b:Int):Bool:=!(b == 0) && !(Builtin.divisionGoesByPylong a b)
def Jn (w:World) (top:Tr):LC w top:=PL.toLC
 { P:=(Int × Nat) × Int × Nat
   fs:=[]
   qt:=0
   it:=1
   need:=3
   ext:=fun c os=>((am (ax c 0),ak (ax c 0)),am (ax c 1),ak (ax c 1))
   obl:=fun z p=>([.hb (dvI p.1.1 p.2.1)],[.hb true])
   olen:=fun z z=>rfl
   code:=fun I p=>.call (.builtin "int.__floordiv__") ⟨[.int p.1.1 p.1.2,.int p.2.1 p.2.2],[]⟩
   pre:=fun z p=>[]
   post:=fun z z p=>[]
   res:=fun z O p=>.int (Int.fdiv p.1.1 p.2.1) (O 0)
   len:=fun z z z=>rfl
   ok:=fun p I f z=>by
    have h:=hb1 f
    unfold dvI at h
    obtain ⟨d,b⟩:=iR.mp h
    have e:¬(p.2.1 == 0)=true:=by intro q;rw [q] at d;cases d
    have hd:¬(Builtin.divisionGoesByPylong p.1.1 p.2.1)=true:=by intro q;rw [q] at b;cases b
    refine (tS (I:=I) F.slot_int_floordiv (fun s=>typeIs_int s _ _) F.entry_int_floordiv (F.args_int_floordiv_2 _ _) (AutoIntG4.int___floordiv___int_int_1 p.1.1 p.1.2 p.2.1 p.2.2 e hd)).conv (ai _) (b6 _) id id fun I' O' a=>⟨a,?_,b6 _⟩
    show _=Value.int _ (ah 1 O' 0)
    rw [aJ (by decide)] }
theorem T5:¬Builtin.Int.intTooBig (((Builtin.Int.intBits 10:Nat):Int) * 18)=true:=by decide +kernel
def akT (w:World) (top:Tr):LC w top:=PL.toLC
 { P:=Nat × Nat
   fs:=[]
   qt:=0
   it:=1
   need:=3
   ext:=fun c os=>(ak (ax c 0),ak (ax c 1))
   obl:=fun z p=>([],[])
   olen:=fun z z=>rfl
   code:=fun I p=>.call (.builtin "int.__pow__") ⟨[.int 10 p.1,.int 18 p.2],[]⟩
   pre:=fun z p=>[]
   post:=fun z z p=>[]
   res:=fun z O p=>.int 1000000000000000000 (O 0)
   len:=fun z z z=>rfl
   ok:=fun p I b z=>by
    refine (tS (I:=I) F.slot_int_pow (fun s=>typeIs_int s _ _) F.entry_int_pow (F.args_int_pow_2 _ _) (AutoIntG2.int___pow___int_int_4 10 p.1 18 p.2 (by decide) (by decide) (by decide) (by decide) T5)).conv (ai _) (b6 _) id id fun I' O' a=>⟨a,?_,b6 _⟩
    show Value.int (10 ^ 18) _=Value.int _ (ah 1 O' 0)
    rw [aJ (by decide)]
    rfl }
theorem pV {w:World} {top:Tr} (I:ae8) (xs:Array Value) (e:Nat) (k:Int) (t:Tok) (x:Value) (m:0≤k) (c:k < 2 ^ 63) (p:xs[k.toNat]? = some x) :
  HT w top 3 1 (.call (.builtin "list.__getitem__") ⟨[.ref (ad I 0),.int k t],[]⟩) (tc I 0 [ab xs e]) I (fun I' z=>(x,tc I' 0 [ab xs e])):=by
 intro A R h g d tk os s q hb l K
 have f:=(l.at_ (ad I 0,ab xs e) (cv.mpr rfl)).1
 refine ya alK.plain F.entry_list_getitem (alK.check _ _ _ _ _ _ _ _ ⟨_,f,rfl⟩ (F.args_list_getitem_2 _ _) ?_)
 have key:=K I (fun z=>0) h tk (fun z z=>rfl) l (fun a n=>.inl n) (fun b o e hn=>e) (ai _)
 show wpAny _ _ (Builtin.List.listSubscript? (.int k t) >>= _) _ _ _
 refine av (wpAny_listSubscript_int (fitsIndex_of m c) ?_)
 clear c
 obtain ⟨j,rfl⟩:=Int.eq_ofNat_of_zero_le m
 have i:xs[j]? = some x:=p
 show wpAny _ _ ((seqItemAt (ad I 0) j >>= fun r=>pure (r.map (j,·))) >>= _) _ _ _
 refine av (av (wpAny_seqItemAt f rfl (jt ?_)))
 rw [i]
 first
  | exact av (jt (jt key))
  | exact jt key
noncomputable def ae (xs:Array Value) (j:Nat):Value:=xs.toList.getD j .none
noncomputable def inB (xs:Array Value) (i:Int):Bool:=match i with
 | .ofNat j=>Nat.blt j xs.size && Nat.blt j 9000000000000000000
 | _=>false
noncomputable def Gc (v:Value):Bool:=match v with
 | .int ..=>true
 | _=>false
noncomputable def Yn (v:Value):Bool:=match v with
 | .str ..=>true
 | _=>false
noncomputable def yT (v:Value):Bool:=match v with
 | .none=>true
 | _=>false
theorem Nh {v:Value} (h:Gc v=true):v=.int (am v) (ak v):=by cases v<;>first | rfl | cases h
theorem Lz {v:Value} (h:Yn v=true):v=.str (aD v) (ak v):=by cases v<;>first | rfl | cases h
theorem LB {v:Value} (h:yT v=true):v=.none:=by cases v<;>first | rfl | cases h
theorem n5 {xs:Array Value} {i:Int} (h:inB xs i=true):0≤i∧i < 2 ^ 63∧xs[i.toNat]? = some (ae xs i.toNat):=by
 cases i with
 | negSucc n=>cases h
 | ofNat j=>
  have h:(Nat.blt j xs.size && Nat.blt j 9000000000000000000)=true:=h
  obtain ⟨a,b⟩:=iR.mp h
  have a:j < xs.size:=ag a
  have b:j < 9000000000000000000:=ag b
  refine ⟨Int.natCast_nonneg j,by show ((j:Nat):Int) < 2 ^ 63;lia,?_⟩
  show xs[j]? = _
  rw [Array.getElem?_eq_getElem a]
  show _=some (xs.toList.getD j .none)
  rw [List.getD_eq_getElem?_getD,List.getElem?_eq_getElem (by simpa using a)]
  simp
inductive VK where
 | n [h:Nonempty Nat] | i | s
noncomputable def eVK:Enu VK:=⟨[.n,.i,.s],by intro v;cases v<;>repeat constructor⟩
def VK.is:VK→Value→Bool
 | .n,v=>yT v
 | .i,v=>Gc v
 | .s,v=>Yn v
def VK.as:VK→Value→Value
 | .n,_=>.none
 | .i,v=>.int (am v) (ak v)
 | .s,v=>.str (aD v) (ak v)
theorem VK.eq {k:VK} {v:Value} (h:k.is v=true):v=k.as v:=by
 cases k
 · exact LB h
 · exact Nh h
 · exact Lz h
def iP (w:World) (top:Tr) (k:VK):LC w top:=PL.toLC
 { P:=(Int × Nat) × Array Value × Nat
   fs:=[.arg 0]
   qt:=0
   it:=0
   need:=3
   ext:=fun c os=>((am (ax c 1),ak (ax c 1)),ao os)
   obl:=fun z p=>([.hb (inB p.2.1 p.1.1),.hb (k.is (ae p.2.1 p.1.1.toNat))],[.hb true,.hb true])
   olen:=fun z z=>rfl
   code:=fun I p=>.call (.builtin "list.__getitem__") ⟨[.ref (ad I 0),.int p.1.1 p.1.2],[]⟩
   pre:=fun z p=>[ab p.2.1 p.2.2]
   post:=fun z z p=>[ab p.2.1 p.2.2]
   res:=fun z z p=>k.as (ae p.2.1 p.1.1.toNat)
   len:=fun z z z=>rfl
   ok:=fun p I f z=>by
    obtain ⟨d,b⟩:=hb2 f
    obtain ⟨e,hl,a⟩:=n5 d
    rw [VK.eq b] at a
    exact pV I p.2.1 p.2.2 p.1.1 p.1.2 _ e hl a }
def ae9 (w:World) (top:Tr) (n:Nat):LC w top:=PL.toLC
 { P:=((Int × Nat) × Array Value × Nat) × Obj
   fs:=[.arg 0,.num n]
   qt:=0
   it:=0
   need:=3
   ext:=fun c os=>(((am (ax c 1),ak (ax c 1)),ao os),uF os 1)
   obl:=fun I p=>([.hb (inB p.1.2.1 p.1.1.1),.hv (ae p.1.2.1 p.1.1.1.toNat)],[.hb true,.hv (.ref (ad I 1))])
   olen:=fun z z=>rfl
   code:=fun I p=>.call (.builtin "list.__getitem__") ⟨[.ref (ad I 0),.int p.1.1.1 p.1.1.2],[]⟩
   pre:=fun z p=>[ab p.1.2.1 p.1.2.2,p.2]
   post:=fun z z p=>[ab p.1.2.1 p.1.2.2,p.2]
   res:=fun I z p=>.ref (ad I 1)
   len:=fun z z z=>rfl
   ok:=fun p I g z=>by
    injection g with h1 h2
    injection h1 with h1
    injection h2 with h2 _
    injection h2 with h2
    obtain ⟨f,hl,d⟩:=n5 h1
    obtain ⟨⟨⟨pi,h⟩,xs,e⟩,o⟩:=p
    rw [h2] at d
    have H:=(pV (w:=w) (top:=top) I xs e pi h _ f hl d).frame [(ad I 1,o)]
    refine H.conv (ai _) (b6 _) (fun I' i=>if i=1 then I 1 else I' i) id fun I' O' a=>⟨fun i b=>?_,?_,?_⟩
    · by_cases q:i=1
      · subst q
        show (if 1=1 then I 1 else _)=_
        rw [jW rfl]
      · show (if i=1 then I 1 else I' i)=_
        rw [b4 q]
        have b:i < 2:=b
        have:i=0:=by lia
        subst this
        exact a 0 (by decide)
    · show Value.ref (ad (ah 2 I) 1)=Value.ref (ad (ah 2 _) 1)
      unfold ad
      rw [aJ (by decide),aJ (by decide)]
      rfl
    · show ([(ad I' 0,_)]++[(ad I 1,o)]).Perm [(ad _ 0,_),(ad _ 1,o)]
      exact b6 _ }
def xW (J:WB):List (SG J):=smS ([(isB "int.__gt__",pg _ _ true),(isB "int.__mul__",jR _ _),(isB "int.__mod__",Ic _ _),(isB "int.__floordiv__",Jn _ _)]:CL J)
def yB (P:Params):aq Raw:=⟨1,0,0,2,5,112,false,[0],[5,8],(by walk_at "#f[nkBhzdR-2nkeA(Ce-("),(fun p I=>.code (.call (.ref 1079) ⟨[.ref (ad I 0),aI p.c 1],[]⟩:Code)),(fun p I=>[ab ⟨[vI p 0 0,vI p 0 1]⟩ 0]),(fun p=>none),fun p I O=>.ret (Value.int (Int.fmod (am (vN p 0 0)) (am (ax p.c 1))) (O 0):Value),(fun p I O=>[Obj.mk (Value.type "list") none (Data.seq (Array.mk [Value.int (Int.fdiv (am (vN p 0 0)) (am (ax p.c 1))) (O 1),Value.int (am (vN p 0 1)) (ak (vN p 0 1))]) 0) (Array.mk [])]),(fun p I O=>none),(fun p I O=>[OV.hb (dvI (am (vN p 0 0)) (am (ax p.c 1))),OV.hb (nzI (am (vN p 0 0)) (am (ax p.c 1))),OV.hb (gtI (am (vN p 0 0)) (Int.ofNat 0))]),(fun p I O=>hT 3)⟩
theorem xd (J:WB) (p:Raw):(yB J.p).Runs J.w J.t (xW J) p:=SX (fun J=>(yB J.p)) (fun J=>(xW J)) J p
def IB (J:WB):LG J:=aq.toPL2 (xW J) (yB J.p) [.arg 0] (xd J)
def wF (J:WB):List (SG J):=smS ([(isB "int.__gt__",pg _ _ false),(isB "int.__mul__",jR _ _),(isB "int.__mod__",Ic _ _),(isB "int.__floordiv__",Jn _ _)]:CL J)
def Af (P:Params):aq Raw:=⟨1,0,0,2,5,160,false,[0],[10,19],(by walk_at "#f[nkBhzn[/2Ce-fxlahzn[-eA-2"),(fun p I=>.code (.call (.ref 1079) ⟨[.ref (ad I 0),aI p.c 1],[]⟩:Code)),(fun p I=>[ab ⟨[vI p 0 0,vI p 0 1]⟩ 0]),(fun p=>none),fun p I O=>.ret (Value.int (Int.fmod (Int.fdiv (Int.fmod (Int.fmod (am (vN p 0 1) * Int.ofNat 39373 + Int.ofNat 7) (Int.ofNat 2147483647) * Int.fmod (am (vN p 0 1) * Int.ofNat 39373 + Int.ofNat 7) (Int.ofNat 2147483647)) (Int.ofNat 2147483629)) (Int.ofNat 32)) (am (ax p.c 1))) (O 1):Value),(fun p I O=>[Obj.mk (Value.type "list") none (Data.seq (Array.mk [Value.int (am (vN p 0 0)) (ak (vN p 0 0)),Value.int (Int.fmod (am (vN p 0 1) * Int.ofNat 39373 + Int.ofNat 7) (Int.ofNat 2147483647)) (O 0)]) 0) (Array.mk [])]),(fun p I O=>none),(fun p I O=>[OV.hb (nzI (Int.fdiv (Int.fmod (Int.fmod (am (vN p 0 1) * Int.ofNat 39373 + Int.ofNat 7) (Int.ofNat 2147483647) * Int.fmod (am (vN p 0 1) * Int.ofNat 39373 + Int.ofNat 7) (Int.ofNat 2147483647)) (Int.ofNat 2147483629)) (Int.ofNat 32)) (am (ax p.c 1))),OV.hb true,OV.hb true,OV.hb (akx (Int.fmod (am (vN p 0 1) * Int.ofNat 39373 + Int.ofNat 7) (Int.ofNat 2147483647)) (Int.fmod (am (vN p 0 1) * Int.ofNat 39373 + Int.ofNat 7) (Int.ofNat 2147483647))),OV.hb true,OV.hb (akx (am (vN p 0 1)) (Int.ofNat 39373)),OV.hb (gtI (am (vN p 0 0)) (Int.ofNat 0))]),(fun p I O=>[OV.hb true,OV.hb true,OV.hb true,OV.hb true,OV.hb true,OV.hb true,OV.hb false])⟩
theorem wC (J:WB) (p:Raw):(Af J.p).Runs J.w J.t (wF J) p:=SX (fun J=>(Af J.p)) (fun J=>(wF J)) J p
def Lv (J:WB):LG J:=aq.toPL2 (wF J) (Af J.p) [.arg 0] (wC J)
noncomputable def kK (b:Int):Int:=Int.fmod (b * Int.ofNat 39373 + Int.ofNat 7) (Int.ofNat 2147483647)
def ce (a b top:Int):Int:=match gtI a (Int.ofNat 0) with
 | true=>Int.fdiv a top
 | false=>a
def cb (a b:Int):Int:=match gtI a (Int.ofNat 0) with
 | true=>b
 | false=>kK b
def aQ (a b top:Int):Int:=match gtI a (Int.ofNat 0) with
 | true=>Int.fmod a top
 | false=>Int.fmod (Int.fdiv (Int.fmod (kK b * kK b) (Int.ofNat 2147483629)) (Int.ofNat 32)) top
def b5 (a:Int) (t u:Tok):Tok:=match gtI a (Int.ofNat 0) with
 | true=>u
 | false=>t
def akB (a:Int) (t u:Tok):Tok:=match gtI a (Int.ofNat 0) with
 | true=>t
 | false=>u
noncomputable def aR (a b:Int):Bool:=decide (0≤a) && decide (0≤b) && decide (b < 2147483647)
noncomputable def dV (t:Int):Bool:=decide (1≤t) && decide (t≤1000)
theorem BN {x:Int} (h:x.natAbs < 2 ^ 64):Builtin.Int.intBits x≤64:=by
 unfold Builtin.Int.intBits
 by_cases a:(x == 0)=true
 · rw [jW a];lia
 · rw [b4 a]
   have:x.natAbs.log2 < 64:=(Nat.log2_lt (by intro q;apply a;simp;lia)).mpr h
   lia
theorem aW {a b:Int} (h:b.natAbs < 2 ^ 64):akx a b=true:=@decide_eq_true _ (Classical.propDecidable _) (IntMulOk.of_right (BN h))
theorem JK {a b:Int} (e:b ≠ 0) (h:b.natAbs < 2 ^ 64):dvI a b=true:=by
 unfold dvI Builtin.divisionGoesByPylong
 have c:(b == 0)=false:=by simpa using e
 have d:¬ ((if (b == 0)=true then 0 else b.natAbs.log2 / 30 + 1) > 300):=by
  rw [c]
  have:b.natAbs.log2 < 64:=(Nat.log2_lt (by lia)).mpr h
  simp;lia
 simp only [c]
 rw [c] at d
 simp only [al8,if_false] at d ⊢
 rw [Na d];rfl
theorem QD {a b:Int} (d:b ≠ 0):nzI a b=true:=by
 unfold nzI
 have c:(b == 0)=false:=by simpa using d
 rw [c];rfl
theorem ot (b:Int):0≤kK b∧kK b < 2147483647:=⟨al0 _ (by decide),alP _ (by decide)⟩
theorem pu {a b top:Int} (h:aR a b=true) (c:dV top=true):aR (ce a b top) (cb a b)=true:=by
 simp only [aR,dV,Da,Vv] at h c ⊢
 unfold ce cb
 cases gtI a (Int.ofNat 0) with
 | true=>exact ⟨⟨Int.fdiv_nonneg h.1.1 (by lia),h.1.2⟩,h.2⟩
 | false=>exact ⟨⟨h.1.1,(ot b).1⟩,(ot b).2⟩
theorem cO {a b top:Int} (c:dV top=true):0≤aQ a b top∧aQ a b top < top:=by
 simp only [dV,Da,Vv] at c
 unfold aQ
 cases gtI a (Int.ofNat 0) with
 | true=>exact ⟨al0 _ (by lia),alP _ (by lia)⟩
 | false=>exact ⟨al0 _ (by lia),alP _ (by lia)⟩
noncomputable def src (x y:Value):Obj:=ab ⟨[x,y]⟩ 0
def nA (J:WB):LG J where
 P:=Raw
 fs:=[.arg 0]
 qt:=0
 q:=0
 it:=2
 need:=5
 ext:=Raw.mk
 obl _ p:=([.hb (aR (am (vN p 0 0)) (am (vN p 0 1))),.hb (dV (am (ax p.c 1)))],[.hb true,.hb true])
 code I p:=.call (.ref 1079) ⟨[.ref (ad I 0),aI p.c 1],[]⟩
 pre _ p:=[src (vI p 0 0) (vI p 0 1)]
 preX p:=p.X
 post I O p:=[src (.int (ce (am (vN p 0 0)) (am (vN p 0 1)) (am (ax p.c 1))) (b5 (am (vN p 0 0)) (ak (vN p 0 0)) (O 1))) (.int (cb (am (vN p 0 0)) (am (vN p 0 1))) (akB (am (vN p 0 0)) (ak (vN p 0 1)) (O 1)))]
 postX _ _ p:=p.X
 res I O p:=.int (aQ (am (vN p 0 0)) (am (vN p 0 1)) (am (ax p.c 1))) (O 0)
 qle:=ai _
 olen _ _:=rfl
 len _ _ _:=rfl
 ok p I hc _:=by
  obtain ⟨h,g⟩:=hb2 hc
  have e:=h
  have d:=g
  simp only [aR,dV,Da,Vv] at e d
  have f:=ot (am (vN p 0 1))
  unfold kK at f
  cases b:gtI (am (vN p 0 0)) (Int.ofNat 0) with
  | true=>
   have H:=(IB J).ok p I (by
    refine hbT (JK (by lia) (by lia)) (hbT (QD (by lia)) (hbT b rfl))) rfl
   refine HTx.conv (nx:=false) H (ag rfl) (b6 _) id id fun I' O' a=>⟨a,?_,fv ?_⟩
   · show Value.int (Int.fmod (am (vN p 0 0)) (am (ax p.c 1))) _=Value.int (aQ _ _ _) _
     unfold aQ;rw [b];rfl
   · show tc I' 0 [ab ⟨[.int (Int.fdiv (am (vN p 0 0)) (am (ax p.c 1))) (ah 2 O' 1),.int (am (vN p 0 1)) (ak (vN p 0 1))]⟩ 0]++_=tc I' 0 [src (.int (ce _ _ _) (b5 _ _ _)) (.int (cb _ _) (akB _ _ _))]++_
     unfold ce cb b5 akB;rw [b];rfl
  | false=>
   have H:=(Lv J).ok p I (by
    refine hbT (QD (by lia)) (hbT rfl (hbT rfl (hbT (aW (by lia)) (hbT rfl (hbT (aW (by decide)) (hbF b rfl))))))) rfl
   refine HTx.conv (nx:=false) H (ag rfl) (b6 _) id (fun O j=>match j with
    | 0=>O 1
    | _=>O 0) fun I' O' a=>⟨a,?_,fv ?_⟩
   · show Value.int (Int.fmod (Int.fdiv (Int.fmod (kK (am (vN p 0 1)) * kK (am (vN p 0 1))) (Int.ofNat 2147483629)) (Int.ofNat 32)) (am (ax p.c 1))) (ah 2 O' 1)=Value.int (aQ _ _ _) _
     unfold aQ;rw [b];rfl
   · show tc I' 0 [ab ⟨[.int (am (vN p 0 0)) (ak (vN p 0 0)),.int (kK (am (vN p 0 1))) (ah 2 O' 0)]⟩ 0]++_=tc I' 0 [src (.int (ce _ _ _) (b5 _ _ _)) (.int (cb _ _) (akB _ _ _))]++_
     unfold ce cb b5 akB;rw [b];rfl
def vw (J:WB):List (SG J):=smS ([(isB "len",(cW _ _).toLC),(isB "int.__lt__",vJ _ _ false),(isB "list.__getitem__",iP _ _ .i),(isB "int.__gt__",pg _ _ false),(isB "int.__ge__",iz _ _ false),(isB "int.__mul__",jR _ _),(isB "int.__pow__",akT _ _)]:CL J)
def zW (P:Params):aq Raw:=⟨1,1,1,2,11,293,false,[0,7],[23,29],(by walk_at "#o>ookaoq"),(fun p I=>.code (.call (.ref 1072) ⟨[.ref (ad I 0),.int 0 (ak (ax p.c 1))],[]⟩:Code)),(fun p I=>[ab (ao p.os).1 0]),(fun p=>none),fun p I O=>.ret (Value.ref (ad I 1):Value),(fun p I O=>[Obj.mk (Value.type "list") none (Data.seq (Prod.fst (ao p.os)) 0) (Array.mk []),Obj.mk (Value.type SZ.s9222952809800978799x4) none (Data.seq (Array.mk [Value.int (Int.ofNat 0) (O 1),Value.int (PySem.W.Z.modQ ((PySem.W.Z.modQ (Int.ofNat 0) (Int.ofNat 2147483629) + Int.ofNat 0 + Int.ofNat 0 + Int.ofNat 17) * Int.ofNat 48271) (Int.ofNat 2147483647)) (O 0)]) 0) (Array.mk [])]),(fun p I O=>none),(fun p I O=>[OV.hb (akx (Int.ofNat 0) (Int.ofNat 0)),OV.hb false,OV.hb (akx (PySem.W.Z.modQ (Int.ofNat 0) (Int.ofNat 2147483629) + Int.ofNat 0 + Int.ofNat 0 + Int.ofNat 17) (Int.ofNat 48271)),OV.hb (akx (Int.ofNat 31) (Int.ofNat 0)),OV.hb (akx (Int.ofNat 0) (Int.ofNat 0)),OV.hb (akx (Int.ofNat 7919) (Int.ofNat 0)),OV.hb false,OV.hb (ltI (Int.ofNat 0) (Int.ofNat (Array.size (Prod.fst (ao p.os))))),OV.hb (Nat.ble (Array.size (Prod.fst (ao p.os))) 16777216)]),(fun p I O=>[OV.hb true,OV.hb false,OV.hb true,OV.hb true,OV.hb true,OV.hb true,OV.hb false,OV.hb false,OV.hb true])⟩
theorem vP (J:WB) (p:Raw):(zW J.p).Runs J.w J.t (vw J) p:=SX (fun J=>(zW J.p)) (fun J=>(vw J)) J p
def Iu (J:WB):LG J:=aq.toPL2 (vw J) (zW J.p) [.arg 0] (vP J)
structure akt where
 k:Nat
 q:Nat
 qt:Nat
 it:Nat
 need:Nat
 fuel:Nat
 lp:Bool
 kept:List Nat
 rt:List Nat
 or:List Nat
noncomputable def akt.spec {V:Type} (n:akt) (st:V→(Nat→Nat)→bx) (pre:V→(Nat→Nat)→List Obj) (X:V→XT) (e:V→(Nat→Nat)→(Nat→Nat)→En) (post:V→(Nat→Nat)→(Nat→Nat)→List Obj) (postX:V→(Nat→Nat)→(Nat→Nat)→XT)
 (ys zs:V→(Nat→Nat)→(Nat→Nat)→List OV):aq V:=⟨n.k,n.q,n.qt,n.it,n.need,n.fuel,n.lp,n.kept,n.rt,n.or,st,pre,X,e,post,postX,ys,zs⟩
def poX (p:Raw):Int:=am (ae (ao p.os).1 0)
noncomputable def bgI (s:Bool) (x:Int):Int:=match s with
 | true=>Int.negSucc 0 - x
 | false=>x
def plA (v:Bool × Bool) (x:Int):Int:=match v.2 with
 | true=>bgI v.1 x * Int.ofNat 1
 | false=>bgI v.1 x * Int.ofNat 0
def plB (s:Bool) (x:Int):Int:=PySem.W.Z.modQ ((PySem.W.Z.modQ (bgI s x) (Int.ofNat 2147483629) + Int.ofNat 0 + Int.ofNat 0 + Int.ofNat 17) * Int.ofNat 48271) (Int.ofNat 2147483647)
def akh (v:Bool × Bool) (J:WB):List (SG J):=smS ((isB "len",(cW _ _).toLC) :: (isB "int.__lt__",vJ _ _ true) :: (isB "list.__getitem__",iP _ _ .i) :: (isB "int.__gt__",pg _ _ v.1) :: (isB "int.__ge__",iz _ _ v.2) :: (isB "int.__mul__",jR _ _) :: (isB "int.__pow__",akT _ _) :: []:CL J)
def akk (v:Bool × Bool):List Nat:=match v.1 with | false=>uq2 | true=>uq3
def pol (v:Bool × Bool) (P:Params):aq Raw:=akt.spec ((⟨1,1,1,2,11,313,false,[0,7],[24,30],akk v⟩:akt) ) (fun p I=>.code (.call (.ref 1072) ⟨[.ref (ad I 0),.int 0 (ak (ax p.c 1))],[]⟩:Code)) (fun p I=>[ab (ao p.os).1 0]) (fun p=>none) (fun p I O=>.ret (.ref (ad I 1):Value)) (fun p I O=>[ab (ao p.os).1 0,src (.int (plA v (poX p)) (O 1)) (.int (plB v.1 (poX p)) (O 0))]) (fun p I O=>none) (fun p I O=>[.hb (akx (bgI v.1 (poX p)) (Int.ofNat (match v.2 with | true=>1 | false=>0))),.hb (geI (bgI v.1 (poX p)) (Int.ofNat 1000000000000000000)),.hb (akx (PySem.W.Z.modQ (bgI v.1 (poX p)) (Int.ofNat 2147483629) + Int.ofNat 0 + Int.ofNat 0 + Int.ofNat 17) (Int.ofNat 48271)),.hb (akx (Int.ofNat 31) (Int.ofNat 0)),.hb (akx (Int.ofNat 0) (Int.ofNat 0)),.hb (akx (Int.ofNat 7919) (Int.ofNat 0)),.hb (gtI (Int.negSucc 0 - poX p) (poX p)),.hb (inB (ao p.os).1 (Int.ofNat 0)),.hb (VK.is .i (ae (ao p.os).1 0)),.hb (ltI (Int.ofNat 0) (Int.ofNat (ao p.os).1.size)),.hb (Nat.ble (ao p.os).1.size 16777216)]) (fun p I O=>[.hb true,.hb v.2,.hb true,.hb true,.hb true,.hb true,.hb v.1,.hb true,.hb true,.hb true,.hb true])
theorem ake (v:Bool × Bool) (J:WB) (p:Raw):(pol v J.p).Runs J.w J.t (akh v J) p:=amK (amJ.pr amJ) (fun v J=>pol v J.p) (fun v J=>akh v J) v J p
def ako (v:Bool × Bool) (J:WB):LG J:=aq.toPL2 (akh v J) (pol v J.p) [.arg 0] (ake v J) (h5:=fun z z=>by obtain ⟨a,b⟩:=v;cases a<;>cases b<;>rfl) (h6:=by obtain ⟨a,b⟩:=v;cases a<;>cases b<;>exact fun z z z z h z=>h)
def dc (xs:Array Value):Int:=match ltI (Int.ofNat 0) (Int.ofNat xs.size) with
 | true=>am (ae xs 0)
 | false=>Int.ofNat 0
def lL (x:Int):Int:=match gtI (Int.negSucc 0 - x) x with
 | true=>Int.negSucc 0 - x
 | false=>x
def ff (x:Int):Int:=match geI (lL x) (Int.ofNat 1000000000000000000) with
 | true=>lL x * Int.ofNat 1
 | false=>lL x * Int.ofNat 0
def eR (x:Int):Int:=PySem.W.Z.modQ ((PySem.W.Z.modQ (lL x) (Int.ofNat 2147483629) + Int.ofNat 0 + Int.ofNat 0 + Int.ofNat 17) * Int.ofNat 48271) (Int.ofNat 2147483647)
def pC (xs:Array Value):Bool:=Nat.ble xs.size 16777216 && xs.toList.all Gc
theorem Aw (x:Int):0≤lL x:=by
 unfold lL gtI
 cases h:decide (Int.negSucc 0 - x > x) with
 | true=>have:=alJ h;show 0≤Int.negSucc 0 - x;lia
 | false=>have:=of_decide_eq_false h;show 0≤x;lia
theorem H6 (x:Int):aR (ff x) (eR x)=true:=by
 have hb:=Aw x
 have a:0≤eR x∧eR x < 2147483647:=by
  unfold eR
  rw [← PySem.W.Z.modQ_eq]
  exact ⟨al0 _ (by decide),alP _ (by decide)⟩
 have b:0≤ff x:=by
  unfold ff
  cases geI (lL x) (Int.ofNat 1000000000000000000) with
  | true=>show 0≤lL x * 1;lia
  | false=>show 0≤lL x * 0;lia
 simp only [aR,Da,Vv]
 exact ⟨⟨b,a.1⟩,a.2⟩
theorem hbE {a b:Bool} {l m:List OV} (h:a=b) (t:l=m):OV.hb a :: l=OV.hb b :: m:=by rw [h,t]
def UE (J:WB):LG J where
 P:=Raw
 fs:=[.arg 0]
 qt:=1
 q:=1
 it:=2
 need:=11
 ext:=Raw.mk
 obl _ p:=([.hb (pC (ao p.os).1)],[.hb true])
 code I p:=.call (.ref 1072) ⟨[.ref (ad I 0),.int 0 (ak (ax p.c 1))],[]⟩
 pre _ p:=[ab (ao p.os).1 0]
 preX p:=p.X
 post I O p:=[ab (ao p.os).1 0,src (.int (ff (dc (ao p.os).1)) (O 1)) (.int (eR (dc (ao p.os).1)) (O 0))]
 postX _ _ p:=p.X
 res I O p:=.ref (ad I 1)
 qle:=ai _
 olen _ _:=rfl
 len _ _ _:=rfl
 ok p I hc _:=by
  have k:=hb1 hc
  unfold pC at k
  obtain ⟨l,n⟩:=iR.mp k
  refine exL ((ao p.os).1) fun xs j=>?_
  subst j
  cases hl:ltI (Int.ofNat 0) (Int.ofNat (ao p.os).1.size) with
  | false=>
   have H:=(Iu J).ok p I (hbT (aW (by decide)) (hbF rfl (hbT (aW (by decide)) (hbT (aW (by decide)) (hbT (aW (by decide)) (hbT (aW (by decide)) (hbF rfl (hbF hl (hbT l rfl))))))))) rfl
   refine HTx.conv (nx:=false) H (ag rfl) (b6 _) id id fun I' O' b=>⟨b,rfl,fv ?_⟩
   show _=tc I' 0 [ab (ao p.os).1 0,src (.int (ff (dc (ao p.os).1)) _) (.int (eR (dc (ao p.os).1)) _)]++_
   rw [show dc (ao p.os).1=Int.ofNat 0 by unfold dc;rw [hl]]
   rfl
  | true=>
   have a:0 < (ao p.os).1.size:=by
    have:=alJ hl
    have:((0:Nat):Int) < (((ao p.os).1.size:Nat):Int):=this
    lia
   have g:inB (ao p.os).1 (Int.ofNat 0)=true:=by
    have:Nat.blt 0 (ao p.os).1.size=true:=aF a
    show (Nat.blt 0 (ao p.os).1.size && Nat.blt 0 9000000000000000000)=true
    rw [this];rfl
   have h:VK.is .i (ae (ao p.os).1 0)=true:=by
    show Gc (ae (ao p.os).1 0)=true
    refine Gt.mp n _ ?_
    unfold ae
    rw [List.getD_eq_getElem?_getD,List.getElem?_eq_getElem (by simpa using a)]
    exact alD _
   obtain ⟨f,m⟩:∃ s,gtI (Int.negSucc 0 - poX p) (poX p)=s:=⟨_,rfl⟩
   have e:lL (dc (ao p.os).1)=bgI f (poX p):=by
    rw [show dc (ao p.os).1=poX p by unfold dc;rw [hl];rfl];unfold lL bgI;rw [m]<;>cases f<;>rfl
   obtain ⟨ge,d⟩:∃ s,geI (bgI f (poX p)) (Int.ofNat 1000000000000000000)=s:=⟨_,rfl⟩
   have H:=(ako (f,ge) J).ok p I (hbT (by
    cases ge with
    | false=>exact aW (show (Int.ofNat 0).natAbs < 2 ^ 64 by decide)
    | true=>exact aW (show (Int.ofNat 1).natAbs < 2 ^ 64 by decide)) (hbE d (hbT (aW (by decide)) (hbT (aW (by decide)) (hbT (aW (by decide)) (hbT (aW (by decide)) (hbE m (hbT g (hbT h (hbT hl (hbT l rfl))))))))))) rfl
   refine HTx.conv (nx:=false) H (ag rfl) (b6 _) id id fun I' O' b=>⟨b,rfl,fv ?_⟩
   show _=tc I' 0 [ab (ao p.os).1 0,src (.int (ff (dc (ao p.os).1)) _) (.int (eR (dc (ao p.os).1)) _)]++_
   unfold ff eR;rw [e,d];cases ge<;>rfl
def L0 (J:WB) (n:Nat):LG J where
 P:=Raw
 fs:=[.arg 0]
 qt:=0
 q:=0
 it:=2
 need:=5
 ext:=Raw.mk
 obl _ p:=([.hb (aR (am (vN p 0 0)) (am (vN p 0 1))),.hb (dV (am (ax p.c 1))),.hb (eqI (aQ (am (vN p 0 0)) (am (vN p 0 1)) (am (ax p.c 1))) (Int.ofNat n))],[.hb true,.hb true,.hb true])
 code I p:=.call (.ref 1079) ⟨[.ref (ad I 0),aI p.c 1],[]⟩
 pre _ p:=[src (vI p 0 0) (vI p 0 1)]
 preX p:=p.X
 post I O p:=[src (.int (ce (am (vN p 0 0)) (am (vN p 0 1)) (am (ax p.c 1))) (b5 (am (vN p 0 0)) (ak (vN p 0 0)) (O 1))) (.int (cb (am (vN p 0 0)) (am (vN p 0 1))) (akB (am (vN p 0 0)) (ak (vN p 0 1)) (O 1)))]
 postX _ _ p:=p.X
 res I O p:=.int (Int.ofNat n) (O 0)
 qle:=ai _
 olen _ _:=rfl
 len _ _ _:=rfl
 ok p I a _:=by
  obtain ⟨f,a⟩:=aU a
  obtain ⟨d,a⟩:=aU a
  obtain ⟨g,-⟩:=aU a
  have H:=(nA J).ok p I (hbT f (hbT d rfl)) rfl
  refine HTx.conv (nx:=false) H (ai _) (b6 _) id id fun I' O' b=>⟨b,?_,b6 _⟩
  have e:aQ (am (vN p 0 0)) (am (vN p 0 1)) (am (ax p.c 1))=Int.ofNat n:=eq_of_beq g
  show Value.int (aQ (am (vN p 0 0)) (am (vN p 0 1)) (am (ax p.c 1))) _=Value.int (Int.ofNat n) _
  rw [e];rfl
def onM (p:Raw):Array Value:=(ao [uF p.os 1]).1
def onA (p:Raw):Int:=am (vN p 0 0)
def onB (p:Raw):Int:=am (vN p 0 1)
def onZ (p:Raw):Int:=Int.ofNat (onM p).size
def onV (p:Raw):Value:=ae (onM p) (aQ (onA p) (onB p) (onZ p)).toNat
def aki (v:VK) (J:WB):List (SG J):=smS ((isB "len",(cW _ _).toLC) :: (isR 1079 2,nA J) :: (isB "list.__getitem__",iP _ _ v) :: []:CL J)
def one (v:VK) (P:Params):aq Raw:=akt.spec ((⟨2,0,0,1,7,47,false,[0,1],[4],(by walk_at "#dlm#h>C.k+$")⟩:akt) ) (fun p I=>.code (.call (.ref 1086) ⟨[.ref (ad I 0),.ref (ad I 1)],[]⟩:Code)) (fun p I=>[src (vI p 0 0) (vI p 0 1),ab (onM p) 0]) (fun p=>none) (fun p I O=>.ret (v.as (onV p):Value)) (fun p I O=>[src (.int (ce (onA p) (onB p) (onZ p)) (b5 (onA p) (ak (vN p 0 0)) (O 0))) (.int (cb (onA p) (onB p)) (akB (onA p) (ak (vN p 0 1)) (O 0))),ab (onM p) 0]) (fun p I O=>none) (fun p I O=>[.hb (inB (onM p) (aQ (onA p) (onB p) (onZ p))),.hb (v.is (onV p)),.hb (aR (onA p) (onB p)),.hb (dV (onZ p)),.hb (Nat.ble (onM p).size 16777216)]) (fun p I O=>hT 5)
theorem akc (v:VK) (J:WB) (p:Raw):(one v J.p).Runs J.w J.t (aki v J) p:=amM eVK (fun v J=>one v J.p) (fun v J=>aki v J) v J p
def ael (v:VK) (J:WB):LG J:=aq.toPL2 (aki v J) (one v J.p) [.arg 0,.arg 1] (akc v J)
def cT:List Stmt:=mH (at1 69)
def rE (I:ae8):Code:=.func cT (⟨bf (at1 69),ad I 1,3,[(sv ahb,ad I 3),(sv J43,ad I 2)],sv Ys,some 1157,.ref 1156,some (ad I 1),0⟩:Env)
noncomputable def frO (l:List DictEntry) (e:Nat):Obj:=⟨.type SZ.s658472552662922059x5,none,.dict ⟨l⟩ e,#[]⟩
noncomputable def aH (v:Option Value):Obj:=⟨.type SZ.s15660640913423913556x4,none,.cell v,#[]⟩
structure SA where
 xs:Array Value
 t:Nat→Nat
noncomputable def Sf:Stmt→Expr
 | .Assign _ v _=>v
 | _=>default
noncomputable def abP:Expr→Nat→Expr
 | .Tuple es _ _,n=>es.getD n default
 | _,_=>default
noncomputable def YD:NameKind→NameKind
 | .free=>.cell
 | k=>k
noncomputable def dK:Expr→Scope
 | .ListComp _ _ s _=>{ s with names:=s.names.map fun x=>(x.1,YD x.2) }
 | _=>default
def dm:Expr:=abP (Sf (br cT 2)) 1
structure SC where
 xs:Array Value
 e:Nat
 i:Nat
 j:Nat
 r:Nat
 a:Int
 b:Int
 ta:Tok
 tb:Tok
 ms:Array Value
 fr:Option Nat
 t:Nat→Nat
 ep:Nat
noncomputable def rgO (i r:Nat):Obj:=⟨.type "range_iterator",none,.fields ⟨[.int (Int.ofNat i) 0,.int (Int.ofNat r) 0,.int 1 0]⟩,#[]⟩
def tI (fr:Option Nat) (I:ae8):Env:=⟨dK dm,ad I 2,3,[(sv J43,ad I 3),(sv ahb,ad I 4)],sv Ys,none,.ref 1156,fr,0⟩
def akG (ms:Array Value) (a b:Int):Value:=ae ms (aQ a b (Int.ofNat ms.size)).toNat
def clD (P:Params) (d:Bool) (i:Nat) (a b:Tok):List DictEntry:=match d with
 | false=>[]
 | true=>[dF P J70 a (.int (Int.ofNat i) b)]
def clO (P:Params) (p:SC) (d:Bool) (I:ae8):List Obj:=[rgO p.i p.r,ab p.xs p.e,aE (clD P d p.j (p.t 0) (p.t 1)) p.ep,aH (some (.ref (ad I 5))),aH (some (.ref (ad I 6))),src (.int p.a p.ta) (.int p.b p.tb),ab p.ms 0]
def clL (P:Params) (p:SC) (d:Bool) (I:ae8):XL:=tc I 0 (clO P p d I)
def clC (fr:Option Nat) (I:ae8):Code:=.compLoop dm 0 (.ref (ad I 0)) (.ref (ad I 1)) (tI fr I)
noncomputable def rgI (i:Nat) (r:Int):Obj:=⟨.type "range_iterator",none,.fields ⟨[.int (Int.ofNat i) 0,.int r 0,.int 1 0]⟩,#[]⟩
def clN (k:VK) (d:Bool) (p:SC) (O:ae8):SC:=⟨⟨List.concat p.xs.toList (k.as (akG p.ms p.a p.b))⟩,p.e + 1,p.i + 1,p.i,p.r,ce p.a p.b (Int.ofNat p.ms.size),cb p.a p.b,b5 p.a p.ta (O 0),akB p.a p.tb (O 0),p.ms,p.fr,(fun j=>match j with | 0=>(match d with | true=>p.t 0 | false=>O 2) | _=>O 1),(match d with | true=>p.ep | false=>p.ep + 1)⟩
def ae4 (v:VK × Bool) (J:WB):List (SG J):=smS ((isR 1086 2,ael v.1 J) :: (isB "list.append",(b7 _ _).toLC) :: []:CL J)
noncomputable def aej (v:VK × Bool):List Nat:=match v.2 with | false=>[2,0,1] | true=>[2,0]
def aeD (v:VK × Bool) (P:Params) (p:SC) (I O:ae8):List OV:=match v with
 | (.n,false)=>[OV.hb (Nat.ble (Array.size p.xs) 16777216),OV.hb (inB p.ms (aQ p.a p.b (Int.ofNat (Array.size p.ms)))),OV.hb (VK.is VK.n (ae p.ms (Int.toNat (aQ p.a p.b (Int.ofNat (Array.size p.ms)))))),OV.hb (aR p.a p.b),OV.hb (dV (Int.ofNat (Array.size p.ms))),OV.hb (Nat.ble (Array.size p.ms) 16777216)]
 | (.n,true)=>[OV.hb (Nat.ble (Array.size p.xs) 16777216),OV.hb (inB p.ms (aQ p.a p.b (Int.ofNat (Array.size p.ms)))),OV.hb (VK.is VK.n (ae p.ms (Int.toNat (aQ p.a p.b (Int.ofNat (Array.size p.ms)))))),OV.hb (aR p.a p.b),OV.hb (dV (Int.ofNat (Array.size p.ms))),OV.hb (Nat.ble (Array.size p.ms) 16777216)]
 | (.i,false)=>[OV.hb (Nat.ble (Array.size p.xs) 16777216),OV.hb (inB p.ms (aQ p.a p.b (Int.ofNat (Array.size p.ms)))),OV.hb (VK.is VK.i (ae p.ms (Int.toNat (aQ p.a p.b (Int.ofNat (Array.size p.ms)))))),OV.hb (aR p.a p.b),OV.hb (dV (Int.ofNat (Array.size p.ms))),OV.hb (Nat.ble (Array.size p.ms) 16777216)]
 | (.i,true)=>[OV.hb (Nat.ble (Array.size p.xs) 16777216),OV.hb (inB p.ms (aQ p.a p.b (Int.ofNat (Array.size p.ms)))),OV.hb (VK.is VK.i (ae p.ms (Int.toNat (aQ p.a p.b (Int.ofNat (Array.size p.ms)))))),OV.hb (aR p.a p.b),OV.hb (dV (Int.ofNat (Array.size p.ms))),OV.hb (Nat.ble (Array.size p.ms) 16777216)]
 | (.s,false)=>[OV.hb (Nat.ble (Array.size p.xs) 16777216),OV.hb (inB p.ms (aQ p.a p.b (Int.ofNat (Array.size p.ms)))),OV.hb (VK.is VK.s (ae p.ms (Int.toNat (aQ p.a p.b (Int.ofNat (Array.size p.ms)))))),OV.hb (aR p.a p.b),OV.hb (dV (Int.ofNat (Array.size p.ms))),OV.hb (Nat.ble (Array.size p.ms) 16777216)]
 | (.s,true)=>[OV.hb (Nat.ble (Array.size p.xs) 16777216),OV.hb (inB p.ms (aQ p.a p.b (Int.ofNat (Array.size p.ms)))),OV.hb (VK.is VK.s (ae p.ms (Int.toNat (aQ p.a p.b (Int.ofNat (Array.size p.ms)))))),OV.hb (aR p.a p.b),OV.hb (dV (Int.ofNat (Array.size p.ms))),OV.hb (Nat.ble (Array.size p.ms) 16777216)]
def cl (v:VK × Bool) (P:Params):aq SC:=akt.spec ((⟨7,0,0,3,9,43,true,[0,1,2,3,4,5,6],aej v,(by walk_at "#epfCg:ho$")⟩:akt) ) (fun p I=>.code (clC p.fr I)) (fun p I=>clO P { p with r:=p.r + 1 } v.2 I) (fun p=>none) (fun p I O=>.again (clC p.fr I)) (fun p I O=>rgI (p.i + 1) (Int.ofNat (p.r + 1) - Int.ofNat 1) :: (clO P (clN v.1 v.2 p O) true I).drop 1) (fun p I O=>none) (aeD v P) (fun p I O=>hT 6)
theorem aeE (v:VK × Bool) (P:Params) (p:SC):(cl v P).Ok p:=tT
theorem ads (v:VK × Bool) (J:WB) (p:SC):(cl v J.p).Runs J.w J.t (ae4 v J) p:=amM (eVK.pr amJ) (fun v J=>cl v J.p) (fun v J=>ae4 v J) v J p
def ae2 (v:Bool) (J:WB):List (SG J):=smS ((isB "list.append",(b7 _ _).toLC) :: []:CL J)
def clx (v:Bool) (P:Params):aq SC:=akt.spec ((⟨7,0,0,0,2,25,true,[0,1,2,3,4,5,6],[],[1,0,1,1,1,1,17]⟩:akt) ) (fun p I=>.code (clC p.fr I)) (fun p I=>clO P { p with r:=0 } v I) (fun p=>none) (fun p I O=>.next) (fun p I O=>clO P { p with r:=0 } v I) (fun p I O=>none) (fun p I O=>[]) (fun p I O=>[])
theorem adg (v:Bool) (J:WB) (p:SC):(clx v J.p).Runs J.w J.t (ae2 v J) p:=amM amJ (fun v J=>clx v J.p) (fun v J=>ae2 v J) v J p
noncomputable def aj6 (p:SC):XT:=none
def ae5 (J:WB):List (SG J):=smS ([]:CL J)
def cs (a:Bool) (P:Params):aq SC:=akt.spec ((⟨7,0,0,0,2,22,true,[0,1,2,3,4,5,6],[],(match a with | true=>[] | false=>[1,1,0,1,1])⟩:akt) ) (fun p I=>.code (.compStart dm 0 (.ref (ad I 0)) (.ref (ad I 1)) (tI p.fr I))) (fun p I=>clO P p false I) (aj6 ) (fun p I O=>.again (clC p.fr I)) (fun p I O=>clO P p false I) (fun p I O=>none) (fun p I O=>[]) (fun p I O=>[])
theorem adk (J:WB) (p:SC):(cs J.a J.p).Runs J.w J.t (ae5 J) p:=W2 (fun J=>(cs J.a J.p)) (fun J=>(ae5 J)) J p
noncomputable def kindOf (v:Value):Option VK:=match v with
 | .none=>some .n
 | .int ..=>some .i
 | .str ..=>some .s
 | _=>none
theorem akI {v:Value} {k:VK} (h:kindOf v=some k):k.is v=true:=by
 cases v with
 | none=>cases h;rfl
 | int=>cases h;rfl
 | str=>cases h;rfl
 | _=>cases h
def ck (ms:Array Value):Bool:=Nat.ble 1 ms.size && Nat.ble ms.size 1000 && ms.toList.all fun v=>(kindOf v).isSome
theorem cP {ms:Array Value} (h:ck ms=true) {d:Int} (e:0≤d) (c:d < Int.ofNat ms.size):inB ms d=true∧∃ k,kindOf (ae ms d.toNat)=some k:=by
 unfold ck at h
 obtain ⟨h,b⟩:=iR.mp h
 obtain ⟨f,hz⟩:=iR.mp h
 have hz:=ag hz
 obtain ⟨j,rfl⟩:=Int.eq_ofNat_of_zero_le e
 have a:j < ms.size:=by
  have:((j:Nat):Int) < ((ms.size:Nat):Int):=c
  lia
 constructor
 · show (Nat.blt j ms.size && Nat.blt j 9000000000000000000)=true
   rw [show Nat.blt j ms.size=true from aF a,show Nat.blt j 9000000000000000000=true from aF (by lia)];rfl
 · have:(kindOf (ae ms j)).isSome=true:=by
    refine Gt.mp b _ ?_
    unfold ae
    rw [List.getD_eq_getElem?_getD,List.getElem?_eq_getElem (by simpa using a)]
    exact alD _
   exact lw.mp this
theorem de {ms:Array Value} (h:ck ms=true):dV (Int.ofNat ms.size)=true∧Nat.ble ms.size 16777216=true:=by
 unfold ck at h
 obtain ⟨h,-⟩:=iR.mp h
 obtain ⟨a,hz⟩:=iR.mp h
 have hz:=ag hz
 have a:=ag a
 constructor
 · show (decide (1≤((ms.size:Nat):Int)) && decide (((ms.size:Nat):Int)≤1000))=true
   simp only [Da,Vv];lia
 · exact aF (by lia)
def iO (ms:Array Value):Nat→Int→Int→List Value
 | 0,_,_=>[]
 | r + 1,a,b=>akG ms a b :: iO ms r (ce a b (Int.ofNat ms.size)) (cb a b)
def oU (z:Int):Nat→Int→Int→Int
 | 0,a,_=>a
 | r + 1,a,b=>oU z r (ce a b z) (cb a b)
def px (z:Int):Nat→Int→Int→Int
 | 0,_,b=>b
 | r + 1,a,b=>px z r (ce a b z) (cb a b)
def kq (P:Params) (p:SC) (r:Nat) (I:ae8) (e:En) (L':XL):Prop:=e=.again (clC p.fr I)∧∃ p':SC,L'=clL P p' true I∧p'.r=r∧p'.i=p.i + 1 ∧
 p'.xs=p.xs.push (akG p.ms p.a p.b)∧p'.e=p.e + 1∧p'.a=ce p.a p.b (Int.ofNat p.ms.size)∧p'.b=cb p.a p.b∧p'.ms=p.ms∧p'.fr=p.fr
theorem ae7 (J:WB) (p:SC) (I:ae8) (r:Nat) (k:VK) (d:Bool) (hr:p.r=r + 1) (j:aR p.a p.b=true) (c:ck p.ms=true) (l:p.xs.size≤1000) (hk:VK.is k (akG p.ms p.a p.b)=true) :
  HRG J 9 (.code (clC p.fr I)) (clL J.p p d I) (kq J.p p r I):=by
 obtain ⟨f,h⟩:=de c
 have hd:=cO (a:=p.a) (b:=p.b) f
 have H:=aq.hr0 (ay _) (ads (k,d) J { p with r:=r }) (aeE (k,d) _ { p with r:=r }) rfl I (fun I' O z=>by cases k<;>cases d<;>exact hbT (aF (by show p.xs.size≤_;lia)) (hbT (cP c hd.1 hd.2).1 (hbT hk (hbT j (hbT f (hbT h rfl))))))
 have g:clL J.p p d I=clL J.p { p with r:=r + 1 } d I:=by rw [← hr]
 rw [g]
 refine HR.mono (HR.perm H (L':=clL J.p { p with r:=r + 1 } d I) (fv (au _))) (ai _) <| elB fun O=>?_
 refine ⟨rfl,{ clN k d { p with r:=r } (ah 3 O) with xs:=p.xs.push (akG p.ms p.a p.b),r:=r },?_,rfl,rfl,rfl,rfl,rfl,rfl,rfl,rfl⟩
 show tc I 0 [rgI (p.i + 1) (Int.ofNat (r + 1) - Int.ofNat 1),ab ⟨List.concat p.xs.toList (k.as (akG p.ms p.a p.b))⟩ (p.e + 1),_,_,_,_,_]++[]=_
 rw [au,db,← VK.eq hk]
 rfl
theorem LT (J:WB) (p:SC) (d:Bool) (I:ae8) (r:Nat) (hr:p.r=r + 1) (f:aR p.a p.b=true) (c:ck p.ms=true) (g:p.xs.size≤1000) :
  HRG J 9 (.code (clC p.fr I)) (clL J.p p d I) (kq J.p p r I):=by
 obtain ⟨e,h⟩:=de c
 have hd:=cO (a:=p.a) (b:=p.b) e
 obtain ⟨k,hk⟩:=(cP c hd.1 hd.2).2
 have hk:=akI hk
 exact ae7 J p I r k d hr f c g hk
def Kq (P:Params) (p:SC) (d:Bool) (I:ae8) (e:En) (L':XL):Prop:=e=.next∧∃ p':SC,L'=clL P p' (d || Nat.ble 1 p.r) I∧p'.r=0∧p'.i=p.i + p.r ∧
 p'.xs=⟨p.xs.toList++iO p.ms p.r p.a p.b⟩∧p'.e=p.e + p.r∧p'.a=oU (Int.ofNat p.ms.size) p.r p.a p.b∧p'.b=px (Int.ofNat p.ms.size) p.r p.a p.b∧p'.ms=p.ms∧p'.fr=p.fr
theorem Nf (J:WB) (I:ae8):∀ (r:Nat) (p:SC) (d:Bool),p.r=r→aR p.a p.b=true→ck p.ms=true→p.xs.size + r≤1000 →
  HRG J 9 (.code (clC p.fr I)) (clL J.p p d I) (Kq J.p p d I):=by
 intro r
 induction r with
 | zero=>
  intro p d hr j g z
  have l:clL J.p p d I=clL J.p { p with r:=0 } d I:=by rw [← hr]
  have fin:∀ L',L'=clL J.p p d I→Kq J.p p d I .next L':=fun L' h=>by
   refine ⟨rfl,p,?_,hr,by rw [hr];rfl,by rw [hr];show p.xs=⟨p.xs.toList++[]⟩;rw [au],by rw [hr];rfl,by rw [hr];rfl,by rw [hr];rfl,rfl,rfl⟩
   rw [hr,h];cases d<;>rfl
  have H:=aq.hr0 (ay _) (adg d J p) (by intros;exact tT) rfl I (fun I' O Z=>rfl)
  rw [l]
  refine HR.mono (HR.perm H (L':=clL J.p { p with r:=0 } d I) (fv (au _))) (by cases d<;>exact ag rfl) <| elB fun O=>?_
  refine fin _ ?_
  rw [l]
  exact au _
 | succ r ih=>
  intro p d hr j g z
  refine (LT J p d I r hr j g (by lia)).again fun e L' h=>?_
  obtain ⟨rfl,p',rfl,c,o,n,u,h5,h6,f,m⟩:=h
  refine ⟨_,rfl,rfl,?_⟩
  have i:aR p'.a p'.b=true:=by rw [h5,h6];exact pu j (de g).1
  have H:=ih p' true c i (by rw [f];exact g) (by rw [n,alw];lia)
  rw [m] at H
  refine H.mono (ai _) fun e L' q=>?_
  obtain ⟨rfl,k,rfl,v,B,w,y,x,t,s,A⟩:=q
  refine ⟨rfl,k,?_,v,?_,?_,?_,?_,?_,?_,?_⟩
  · rw [hr]
    cases d<;>rfl
  · rw [B,c,o,hr];lia
  · rw [w,c,n,h5,h6,f,hr]
    rw [Array.toList_push,uG]
    rfl
  · rw [y,c,u,hr];lia
  · rw [x,c,h5,h6,f,hr];rfl
  · rw [t,c,h5,h6,f,hr];rfl
  · rw [s,f]
  · rw [A,m]
def csC (fr:Option Nat) (I:ae8):Code:=.compStart dm 0 (.ref (ad I 0)) (.ref (ad I 1)) (tI fr I)
theorem Hk (J:WB) (p:SC) (I:ae8):HRG J 9 (.code (csC p.fr I)) (clL J.p p false I) (fun e L'=>e=.again (clC p.fr I)∧L'=clL J.p p false I):=by
 have H:=aq.hr0 (ay _) (adk J p) (by intros;exact tT) rfl I (fun I' O z=>rfl)
 refine HR.mono (HR.perm H (L':=clL J.p p false I) (fv (au _))) (by rcases J with ⟨_,_|_,_⟩<;>exact ag rfl) <| elB fun O=>?_
 exact ⟨rfl,au _⟩
noncomputable def CN (c:Code):Option Nat:=match c with
 | .compStart _ _ _ _ env=>env.frame
 | _=>none
def wh (p:Raw):SC:=⟨#[],0,0,0,ba (vN p 0 1),am (vN p 5 0),am (vN p 5 1),ak (vN p 5 0),ak (vN p 5 1),(ao [uF p.os 6]).1,CN p.c,fun z=>0,0⟩
def Sa (J:WB):LG J where
 nx:=true
 P:=Raw
 fs:=[.num 7,.num 8,.num 9,.num 2,.num 3,.num 4,.num 5]
 qt:=0
 q:=0
 it:=6
 need:=9
 ext:=Raw.mk
 obl _ p:=([.hb (aR (am (vN p 5 0)) (am (vN p 5 1))),.hb (ck (ao [uF p.os 6]).1),.hb (Nat.ble (ba (vN p 0 1)) 900)],[.hb true,.hb true,.hb true])
 code I p:=csC (CN p.c) I
 pre I p:=[rgO 0 (ba (vN p 0 1)),ab #[] 0,aE [] 0,aH (some (.ref (ad I 5))),aH (some (.ref (ad I 6))),src (vI p 5 0) (vI p 5 1),ab (ao [uF p.os 6]).1 0]
 preX p:=p.X
 post I O p:=[rgO (0 + ba (vN p 0 1)) 0,ab ⟨[]++iO (ao [uF p.os 6]).1 (ba (vN p 0 1)) (am (vN p 5 0)) (am (vN p 5 1))⟩ (0 + ba (vN p 0 1)),aE (clD J.p (Nat.ble 1 (ba (vN p 0 1))) (O 0) (O 1) (O 2)) (O 3),
  aH (some (.ref (ad I 5))),aH (some (.ref (ad I 6))),src (.int (oU (Int.ofNat (ao [uF p.os 6]).1.size) (ba (vN p 0 1)) (am (vN p 5 0)) (am (vN p 5 1))) (O 4)) (.int (px (Int.ofNat (ao [uF p.os 6]).1.size) (ba (vN p 0 1)) (am (vN p 5 0)) (am (vN p 5 1))) (O 5)),ab (ao [uF p.os 6]).1 0]
 postX _ _ p:=p.X
 res _ _ _:=.none
 qle:=ai _
 olen _ _:=rfl
 len _ _ _:=rfl
 ok p I a _:=by
  obtain ⟨m,a⟩:=aU a
  obtain ⟨g,a⟩:=aU a
  obtain ⟨b,-⟩:=aU a
  have b:=ag b
  have key:HRG J 9 (.code (csC (wh p).fr I)) (clL J.p (wh p) false I) (Kq J.p (wh p) false I):=by
   refine (Hk J (wh p) I).again fun e L' h=>?_
   obtain ⟨rfl,rfl⟩:=h
   exact ⟨_,rfl,rfl,Nf J I _ (wh p) false rfl m g (by show 0 + ba (vN p 0 1)≤1000;lia)⟩
  have k2:=key.frame (uU J.p p.X)
  refine HR.tx (nx:=true) (k:=7) (K:=fun I' O'=>_) ?_
  refine (k2.perm (fv rfl)).mono (ai _) fun e L' h=>?_
  obtain ⟨s,rfl,rfl,p',rfl,l,r,n,f,o,d,i,u⟩:=h
  refine ⟨I,fun j=>match j with
   | 0=>p'.j
   | 1=>p'.t 0
   | 2=>p'.t 1
   | 3=>p'.ep
   | 4=>p'.ta
   | _=>p'.tb,fun z z=>rfl,rfl,?_⟩
  unfold clL clO
  rw [l,r,n,f,o,d,i]
  rfl
noncomputable def of (c:Code):Bool:=match c with
 | .compStart ..=>true
 | _=>false
structure SL where
 xs:Array Value
 ms:Array Value
 a:Int
 b:Int
 ta:Tok
 tb:Tok
 t:Nat→Nat
def Sv (w:World) (top:Tr):LC w top:=PL.toLC
 { P:=(Int × Nat) × Int × Nat
   fs:=[]
   qt:=0
   it:=0
   need:=3
   ext:=fun c os=>((am (ax c 0),ak (ax c 0)),am (ax c 1),ak (ax c 1))
   obl:=fun z p=>([],[])
   olen:=fun z z=>rfl
   code:=fun I p=>.call (.builtin "int.__eq__") ⟨[.int p.1.1 p.1.2,.int p.2.1 p.2.2],[]⟩
   pre:=fun z p=>[]
   post:=fun z z p=>[]
   res:=fun z z p=>.bool (eqI p.1.1 p.2.1)
   len:=fun z z z=>rfl
   ok:=fun p I a z=>lr F.slot_int_eq (fun z=>rfl) F.entry_int_eq (F.args_int_eq_2 _ _) (amd p.1.1 p.1.2 p.2.1 p.2.2) }
structure SM where
 a:Int
 b:Int
 ta:Tok
 tb:Tok
 t:Nat→Nat
 s:Nat
 vs:Nat
 v:Value
 c2:Nat
 c3:Nat
 o:Bool
 w:Str
 r:Nat→Nat
 S:aa
 u:Nat→Value
 z:Nat→Str
noncomputable def SM.stand:SM:=⟨0,0,0,0,fun z=>0,0,0,.none,0,0,false,⟨#[]⟩,fun z=>0,⟨100000,100001,100002,100003,99999,fun z=>0,0,0,0,0,0,0,0,0,0,[],[],0,0,[],rfl⟩,fun z=>.none,fun z=>⟨#[]⟩⟩
def eN (f s m:Nat):Env:=⟨bf (at1 69),f,3,[(sv ahb,m),(sv J43,s)],sv Ys,some 1157,.ref 1156,some f,0⟩
def lQ (i j f s m:Nat):bx:=.tree (.func cT (eN f s m)) (blk (bu cT i j) (eN f s m))
def SM.at (p:SM) (k:VK):SM:={ p with v:=k.as p.v }
noncomputable def S1 (S:aa):aa:={ S with regs:=1,curs:=0,slots:=0,next:=0,e:=0,ops:=[],labels:=[],le:=0,n:=0,xt:=[],hn:=rfl }
noncomputable def S2 (S:aa):aa:={ S with regs:=4,curs:=0,slots:=0,next:=2,labels:=[],le:=0 }
noncomputable def S3 (S:aa):aa:={ S with regs:=5,curs:=0,slots:=0,next:=2,labels:=[],le:=0 }
def frG (P:Params) (p:SM):List DictEntry:=(((((([dF P J64 (p.t 0) (.ref p.s),dF P J6 (p.t 1) (.ref p.vs),dF P J2 (p.t 2) p.v]:List DictEntry)++[dF P YU (p.t 3) (.bool p.o),dF P J35 (p.t 4) (.str p.w (p.t 5))]:List DictEntry)++[dF P J75 (p.t 6) (.ref (p.r 0)),dF P J51 (p.t 7) (.ref (p.r 1))]:List DictEntry)++[dF P J36 (p.t 8) (.ref (p.S.p + 1158))]:List DictEntry)++[dF P Z9 (p.t 9) (.int 1 (p.t 10)),dF P afz (p.t 11) (.int 3 (p.t 12)),dF P agq (p.t 13) (.int (Int.negSucc 0) (p.t 14)),dF P J25 (p.t 15) (.int (Int.negSucc 1) (p.t 16)),dF P Vn (p.t 17) (.ref (p.r 2))]:List DictEntry)++[dF P J18 (p.t 18) (.ref (p.r 3))]:List DictEntry)++[dF P J26 (p.t 19) (.ref (p.r 4))]
noncomputable def eqL:List Nat→List Nat→Bool
 | [],[]=>true
 | a :: l,b :: m=>Nat.beq a b && eqL l m
 | _,_=>false
theorem tN:∀ l m:List Nat,eqL l m=(l == m)
 | [],[]=>rfl
 | [],_ :: _=>rfl
 | _ :: _,[]=>rfl
 | a :: l,b :: m=>by
  rw [List.cons_beq_cons,← tN l m]
  show (Nat.beq a b && eqL l m)=_
  rw [dG]
  by_cases h:a=b<;>simp [h]
noncomputable def eqS (a b:Str):Bool:=eqL a.cps.toList b.cps.toList
noncomputable def anyS (s:Str):List Value→Bool
 | []=>false
 | v :: l=>match v with
  | .str x _=>eqS x s || anyS s l
  | _=>anyS s l
noncomputable def Kp:List Value→Bool
 | []=>true
 | v :: l=>match v with
  | .str _ _=>Kp l
  | _=>false
theorem kJ:∀ {l:List Value},Kp l=true→∀ v∈l,∃ x t,v=.str x t
 | [],_,v,h=>by cases h
 | w :: l,h,v,hv=>by
  cases w with
  | str x t=>
   rcases b9.mp hv with rfl | hv
   · exact ⟨x,t,rfl⟩
   · exact kJ (l:=l) h v hv
  | _=>cases h
noncomputable def zv (s:Str):Value→Bool:=fun v=>match v with
 | .str x _=>x.cps.toList == s.cps.toList
 | _=>false
theorem mZ (s:Str):∀ {l:List Value},anyS s l=l.any (zv s)
 | []=>rfl
 | v :: l=>by
  rw [List.any_cons,← mZ s (l:=l)]
  cases v with
  | str x t=>show (eqS x s || anyS s l)=((x.cps.toList == s.cps.toList) || anyS s l);unfold eqS;rw [tN]
  | _=>rfl
def dS (w:World) (top:Tr):LC w top:=PL.toLC
 { P:=(Str × Nat) × Array Value × Nat
   fs:=[.arg 0]
   qt:=0
   it:=0
   need:=3
   ext:=fun c os=>((aD (ax c 1),ak (ax c 1)),ao os)
   obl:=fun z p=>([.hb (Kp p.2.1.toList)],[.hb true])
   olen:=fun z z=>rfl
   code:=fun I p=>.call (.builtin "list.__contains__") ⟨[.ref (ad I 0),.str p.1.1 p.1.2],[]⟩
   pre:=fun z p=>[ab p.2.1 p.2.2]
   post:=fun z z p=>[ab p.2.1 p.2.2]
   res:=fun z z p=>.bool (anyS p.1.1 p.2.1.toList)
   len:=fun z z z=>rfl
   ok:=fun p I m z=>by
    have h:=hb1 m
    intro A R j g d tk os q n hb i K
    have f:=(i.at_ (ad I 0,ab p.2.1 p.2.2) (cv.mpr rfl)).1
    refine ya als.plain al5 (als.check _ _ _ _ _ _ _ _ ⟨_,f,rfl⟩ (ama _ _) ?_)
    refine MeetsSeq.list_contains (ad _ 0) p.2.1 p.2.2 (.str p.1.1 p.1.2) (zv p.1.1) (fun y l=>?_) prog w A R _ ⟨f,?_⟩
    · obtain ⟨x,t,rfl⟩:=kJ h y (Jt.mpr l)
      exact alN x p.1.1 t p.1.2
    · have key:=K I (fun z=>0) j tk (fun z z=>rfl) i (fun a k=>.inl k) (fun b o e hn=>e) (ai _)
      have e:p.2.1.any (zv p.1.1)=anyS p.1.1 p.2.1.toList:=by rw [mZ,alx]
      rw [e]
      exact key }
noncomputable def liO (l i:Nat):Obj:=⟨.type "list_iterator",none,.fields ⟨[.ref l,.int (Int.ofNat i) 0]⟩,#[]⟩
theorem B8 {w:World} {top:Tr} (I:ae8) (xs:Array Value) (e i:Nat) (x:Value) (r:xs[i]? = some x) :
  HT w top 3 2 (.call (.builtin "list_iterator.__next__") ⟨[.ref (ad I 0)],[]⟩) (tc I 0 [liO (ad I 1) i,ab xs e]) I (fun I' Z=>(x,tc I 0 [liO (ad I 1) (i + 1),ab xs e])):=by
 intro A R h g d tk os t s hb j K
 have c:=(j.at_ (ad I 0,liO (ad I 1) i) (gw ..)).1
 have hol:=(j.at_ (ad I 1,ab xs e) (kt _ (cv.mpr rfl))).1
 have hd:(liO (ad I 1) i).data=.fields #[.ref (ad I 1),.int (i:Int) 0]:=rfl
 have l:ad I 1 ≠ ad I 0:=by
  have:=j.nd
  simp only [anm,ano,Jv,Z6,K4,cv] at this
  exact fun q=>this.1 q.symm
 refine ya slot_listiter_next.plain entry_listiter_next (slot_listiter_next.check _ _ _ _ _ _ _ _ ⟨_,c,rfl⟩ (args_listiter_next _) ?_)
 show wpAny _ _ (field (.ref (ad I 0)) 0 >>= _) _ _ _
 refine av (wpAny_field c hd (x:=.ref (ad I 1)) rfl ?_)
 show wpAny _ _ (if (Value.ref (ad I 1) == Value.none)=true then _ else _) _ _ _
 rw [b4 (show ¬ ((Value.ref (ad I 1) == Value.none)=true) from alz)]
 show wpAny _ _ (field (.ref (ad I 0)) 1 >>= _) _ _ _
 refine av (wpAny_field c hd (x:=.int i 0) rfl ?_)
 show wpAny _ _ (seqItems? (.ref (ad I 1)) >>= _) _ _ _
 refine av (wpAny_seqItems hol rfl ?_)
 simp only [Int.toNat_natCast,r]
 refine av (wpAny_setField c hd (by simp) (jt ?_))
 have k:∀ f,(f (liO (ad I 1) i)).isFreed=false→(h.update (ad I 0) f).get? (ad I 0)=some (f (liO (ad I 1) i)):=fun f k=>Heap.get?_update_self f c k
 refine K I (fun Z=>0) _ tk (fun Z Z=>rfl) ⟨fun p hp=>?_,?_⟩ (fun a m=>.inl m) (fun b o q n=>akv b o q fun z=>n (by rw [z];exact gw ..)) (by rw [eZ];exact ai _)
 · rcases b9.mp hp with rfl | hp
   · refine ⟨?_,b8 _ _⟩
     rw [k _ rfl]
     rfl
   · obtain rfl:=cv.mp hp
     exact ⟨akv _ _ hol l,b8 _ _⟩
 · exact j.nd
theorem im {xs:Array Value} {i:Nat} (h:Nat.blt i xs.size=true):xs[i]? = some (ae xs i):=by
 have a:i < xs.size:=ag h
 rw [Array.getElem?_eq_getElem a]
 unfold ae
 rw [List.getD_eq_getElem?_getD,List.getElem?_eq_getElem (by simpa using a)]
 simp
def wv (os:List Obj) (n:Nat):Value:=bN (uF os 0) n
def bM (w:World) (top:Tr) (k:VK):LC w top:=PL.toLC
 { P:=Nat × Array Value × Nat
   fs:=[.arg 0,.ent 0 0]
   qt:=0
   it:=0
   need:=3
   ext:=fun c os=>(ba (wv os 1),ao [uF os 1])
   obl:=fun z p=>([.hb (Nat.blt p.1 p.2.1.size),.hb (k.is (ae p.2.1 p.1))],[.hb true,.hb true])
   olen:=fun z z=>rfl
   code:=fun I p=>.call (.builtin "list_iterator.__next__") ⟨[.ref (ad I 0)],[]⟩
   pre:=fun I p=>[liO (ad I 1) p.1,ab p.2.1 p.2.2]
   post:=fun I z p=>[liO (ad I 1) (p.1 + 1),ab p.2.1 p.2.2]
   res:=fun z z p=>k.as (ae p.2.1 p.1)
   len:=fun z z z=>rfl
   ok:=fun p I h z=>by
    obtain ⟨b,f⟩:=hb2 h
    have d:=im b
    rw [VK.eq f] at d
    refine (B8 I p.2.1 p.2.2 p.1 _ d).conv (ai _) (fv ?_) id id fun I' O' a=>⟨a,rfl,fv ?_⟩
    · simp only [anm,ano,ad,aJ (show 1 < 2 by decide)];rfl
    · show tc I 0 _=tc I' 0 _
      have g:=a 0 (by decide)
      have b:=a 1 (by decide)
      simp only [anm,ano,ad,id,g,b]
      have e:ah ([Fd.arg 0,Fd.ent 0 0].length + 0) I' 1=I 1:=b
      rw [e] }
def akg (v:VK) (J:WB):List (SG J):=smS (LLp J:CL J)
noncomputable def akj:VK→List Nat
 | .n=>(by walk_at "#o['$")
 | .i=>(by walk_at "#o[=$")
 | .s=>(by walk_at "#o[)$")
def val (v:VK) (P:Params):aq Raw:=akt.spec ((⟨0,1,0,4,62,88,false,[1],[2,4,5,6],akj v⟩:akt) ) (fun p I=>.code (.call (.ref 139) ⟨[.ref ((aj p.X).p + 1158),v.as (ax p.c 1)],[]⟩:Code)) (fun p I=>[]) (fun p=>some (aj p.X)) (fun p I O=>.ret (.int (Int.ofNat (aj p.X).regs) (aj p.X).tr:Value)) (fun p I O=>[]) (fun p I O=>some (aa.add { aj p.X with regs:=(aj p.X).regs + 1,tr:=O 0 } (ad I 0,ab ⟨[.str (sv J10) (O 1),.int 0 (O 2),.int (Int.ofNat (aj p.X).regs) (aj p.X).tr,.int 0 (O 3),v.as (ax p.c 1)]⟩ 0))) (fun p I O=>[.hb (Nat.ble (aj p.X).n 1000000)]) (fun p I O=>[.hb true])
theorem akd (v:VK) (J:WB) (p:Raw):(val v J.p).Runs J.w J.t (akg v J) p:=amM eVK (fun v J=>val v J.p) (fun v J=>akg v J) v J p
def acF (v:VK) (J:WB):LG J:=aq.toLC2 (akg v J) (val v J.p) [] (akd v J)
def wrC (I:ae8):Code:=cu (br (mH (at1 62):List Stmt) 3) (.ref (ad I 0)) (⟨bf (at1 62),ad I 2,3,[],sv [95,108,97,119,95,119,114,105,116,116,101,110,46,60,108,111,99,97,108,115,62,46],some 1114,.ref 1113,some (ad I 2),0⟩:Env)
set_option genInjectivity true in
structure SW where
 S:aa
 xs:Array Value
 e:Nat
 i:Nat
 r:Nat→Nat
 t:Nat→Nat
 h:Nat
 c:Nat
 f:Str
 ep:Nat
 v:Value
 rc:Value
 tg:Value
noncomputable def SW.stand:SW:=⟨SM.stand.S,#[],0,0,fun z=>0,fun z=>0,0,0,⟨#[]⟩,0,.none,.none,.none⟩
inductive WM where
 | reg [h:Nonempty Nat] | exi | set | led
noncomputable def eWM:Enu WM:=⟨[.reg,.exi,.set,.led],by intro v;cases v<;>repeat constructor⟩
noncomputable def WM.word:WM→List Nat
 | .reg=>(by walk_at "$register")
 | .exi=>[101,120,105,115,116,115]
 | _=>[115,101,116]
def WM.dest (m:WM) (p:SW):Obj:=match m with
 | .set=>aO [.str (sv m.word) (p.t 20),.int (Int.ofNat p.h) (p.t 21),.none]
 | .led=>aO [.str (sv m.word) (p.t 20),.int (Int.ofNat p.h) (p.t 21),.str p.f (p.t 22)]
 | _=>aO [.str (sv m.word) (p.t 20),.int (Int.ofNat p.h) (p.t 21)]
def wrF (P:Params) (m:WM) (p:SW) (d:Nat):List DictEntry:=[dF P Vn (p.t 0) (.ref (p.r 0)),dF P XK (p.t 1) (.ref (p.r 1)),dF P ajp (p.t 2) (.ref d),dF P J36 (p.t 3) (.ref (p.S.p + 1158)),
 dF P Vs (p.t 4) (.int (Int.negSucc p.c) (p.t 5)),dF P J21 (p.t 6) (.int (Int.ofNat p.h) (p.t 21)),dF P agy (p.t 7) (.str (sv m.word) (p.t 20))]
def wrG (P:Params) (m:WM) (p:SW) (d:Nat) (b:Bool):List DictEntry:=match b with
 | false=>wrF P m p d
 | true=>wrF P m p d++[dF P J2 (p.t 8) p.v,dF P Y0 (p.t 9) p.rc,dF P J11 (p.t 10) p.tg]
structure SV where
 p:SW
 u:Nat→Value
noncomputable def SV.stand:SV:=⟨SW.stand,fun z=>.none⟩
noncomputable def o8 (k:Nat) (I a:ae8):Nat→Nat:=fun j=>match Nat.blt j k with
 | true=>I j
 | false=>a (j - k)
theorem Nw {k:Nat} {I I':ae8} (h:∀ j,j < k→I' j=I j):I'=o8 k I (fun j=>I' (k + j)):=by
 funext j
 unfold o8
 cases q:Nat.blt j k with
 | true=>exact h j (ag q)
 | false=>
  have:¬ (j < k):=fun z=>by rw [show Nat.blt j k=true from aF z] at q;cases q
  show I' j=I' (k + (j - k))
  congr 1;lia
theorem aq.hrN {V:Type} {w:World} {top:Tr} {M:aq V} {p:V} (hT:akC top) {S:List (Sum w top)} (run:M.Runs w top S p) (ok:M.Ok p) (I:ae8) (hb:∀ I' O,(∀ j,j < M.k→I' j=I j)→M.ys p I' O=M.zs p I' O) :
  HR w top M.need (M.st p (ah M.k I)) (tc I 0 (M.pre p (ah M.k I))++uU w.params (M.preX p)) (fun e L'=>∃ a O,e=M.e p (ah (M.k + M.q) (o8 M.k I a)) (ah M.it O) ∧
   L'=tc (o8 M.k I a) 0 (M.post p (ah (M.k + M.q) (o8 M.k I a)) (ah M.it O))++uU w.params (M.postX p (ah (M.k + M.q) (o8 M.k I a)) (ah M.it O))):=by
 refine (aq.he hT run ok I hb).hr.mono (ai _) <| elA fun I' O' b=>?_
 have e:=Nw b
 refine ⟨fun j=>I' (M.k + j),O',?_,?_⟩<;>rw [← e]
def row (l:List Nat) (t:Tok) (a b c d:Value):Obj:=ab ⟨[.str (sv l) t,a,b,c,d]⟩ 0
noncomputable def wI (S:aa) (t:Tok):aa:={ S with regs:=S.regs + 1 + 1,tr:=t }
noncomputable def iB (S:aa) (x:Addr × Obj):aa:={ S with xt:=S.xt++[x] }
def wrS (m:WM) (S:aa) (h:Nat) (b:Tok) (c:Nat) (tc:Tok) (v:Value) (a t:ae8):aa:=match m with
 | .reg=>(((wI S (t 0)).add (ad a 0,row J10 (t 1) (.int 0 (t 2)) (.int (Int.ofNat S.regs) S.tr) (.int 0 (t 3)) v)).add (ad a 1,row J22 (t 4) (.int (Int.ofNat S.regs) S.tr) (.int (Int.ofNat h) b) (.int 1 (t 5)) .none)).add
  (ad a 2,row J39 (t 6) (.int 0 (t 7)) (.int (Int.negSucc c) tc) (.int 0 371) .none)
 | .exi=>((wI S (t 0)).add (ad a 0,row J10 (t 1) (.int 0 (t 2)) (.int (Int.ofNat S.regs) S.tr) (.int 0 (t 3)) v)).add (ad a 1,row J10 (t 4) (.int 0 (t 5)) (.int (Int.ofNat h) b) (.int 0 (t 6)) (.int 1 (t 7)))
 | .set=>(((wI S (t 0)).add (ad a 0,row J10 (t 1) (.int 0 (t 2)) (.int (Int.ofNat S.regs) S.tr) (.int 0 (t 3)) v)).add (ad a 1,row J41 (t 4) (.int (Int.ofNat S.regs) S.tr) (.int 1 (t 5)) (.int (Int.ofNat (S.regs + 1)) (t 6)) .none)).add
  (ad a 2,row J27 (t 7) (.int (Int.ofNat h) b) (.int (Int.ofNat (S.regs + 1)) (t 6)) (.int 0 371) .none)
 | .led=>((((wI S (t 0)).add (ad a 0,row J10 (t 1) (.int 0 (t 2)) (.int (Int.ofNat S.regs) S.tr) (.int 0 (t 3)) v)).add (ad a 1,row J28 (t 8) (.int (Int.ofNat S.regs) S.tr) (.int 1 (t 9)) (.int 0 (t 10)) (.ref (ad a 3)))).add
  (ad a 2,row J41 (t 4) (.int (Int.ofNat S.regs) S.tr) (.int 1 (t 5)) (.int (Int.ofNat (S.regs + 1)) (t 6)) .none)).add (ad a 4,row J27 (t 7) (.int (Int.ofNat h) b) (.int (Int.ofNat (S.regs + 1)) (t 6)) (.int 0 371) .none)
def aT (m:WM) (S:aa) (h:Nat) (b:Tok) (c:Nat) (tc:Tok) (f:Str) (d:Tok) (v:Value) (a t:ae8):aa:=match m with
 | .led=>iB (wrS .led S h b c tc v a t) (ad a 3,aO [.str f d])
 | m=>wrS m S h b c tc v a t
def wrL (P:Params) (m:WM) (p:SW) (b:Bool) (I:ae8):XL:=tc I 0 [liO (ad I 1) p.i,ab p.xs p.e,frO (wrG P m p (ad I 3) b) p.ep,m.dest p]++uU P (some p.S)
structure Q2 (p p':SW):Prop where
 xs:p'.xs=p.xs
 e:p'.e=p.e
 r:p'.r=p.r
 h:p'.h=p.h
 c:p'.c=p.c
 f:p'.f=p.f
 t:∀ j,j ≠ 8→j ≠ 9→j ≠ 10→p'.t j=p.t j
def bI (P:Params) (m:WM) (p:SW) (I:ae8) (e:En) (L':XL):Prop:=e=.again (wrC I)∧∃ (p':SW) (a t:ae8),L'.Perm (wrL P m p' true I)∧Q2 p p'∧p'.i=p.i + 1 ∧
 p'.S=aT m p.S p.h (p.t 21) p.c (p.t 5) p.f (p.t 22) (ae p.xs p.i) a t∧p'.v=ae p.xs p.i∧(∃ u,p'.rc=.int (Int.ofNat (p.S.regs + 1)) u)∧p'.tg=.int (Int.ofNat p.S.regs) p.S.tr
noncomputable def tkW (p:SW) (x y z:Tok) (j:Nat):Nat:=match Nat.beq j 8 with
 | true=>x
 | false=>match Nat.beq j 9 with
  | true=>y
  | false=>match Nat.beq j 10 with
   | true=>z
   | false=>p.t j
theorem cH (p:SW) (x y z:Tok):∀ j,j ≠ 8→j ≠ 9→j ≠ 10→tkW p x y z j=p.t j:=fun j a b c=>by
 have nb:∀ {k:Nat},j ≠ k→Nat.beq j k=false:=fun {k} h=>by
  cases q:Nat.beq j k with
  | false=>rfl
  | true=>exact absurd (Nat.eq_of_beq_eq_true q) h
 unfold tkW
 rw [nb a,nb b,nb c]
def wrN (m:WM) (k:VK) (b:Bool) (p:SW) (a t:ae8):SW:=
 { p with i:=p.i + 1,t:=(match b with | true=>p.t | false=>tkW p (t 12) (t 13) (t 14)),ep:=(match b with | true=>p.ep | false=>p.ep + 1 + 1 + 1),v:=k.as (ae p.xs p.i),rc:=.int (Int.ofNat (p.S.regs + 1)) (match m with | .set=>t 6 | .led=>t 6 | _=>t 11),tg:=.int (Int.ofNat p.S.regs) p.S.tr,S:=aT m p.S p.h (p.t 21) p.c (p.t 5) p.f (p.t 22) (k.as (ae p.xs p.i)) a t }
noncomputable def wrA (m:WM) (a:ae8) (j:Nat):Nat:=match m with
 | .led=>(swN [(0,a 1),(1,a 2),(2,a 3),(3,a 0)] (a 4) j)
 | _=>a j
noncomputable def wrO (m:WM) (p:SW):List Obj:=match m with
 | .led=>[aO [.str p.f (p.t 22)]]
 | _=>[]
noncomputable def nV (v:Bool × Bool) (u:Nat→Value):List Value:=match v with
 | (false,false)=>[]
 | (false,true)=>[u 0]
 | (true,false)=>[u 0,u 1]
 | (true,true)=>[u 0,u 1,u 2]
noncomputable def liE (i:Nat):Obj:=⟨.type "list_iterator",none,.fields ⟨[.none,.int (Int.ofNat i) 0]⟩,#[]⟩
def w_S (v:WM × VK × Bool) (J:WB):List (SG J):=smS ((isB "list_iterator.__next__",bM _ _ v.2.1) :: (isR 139 2,acF v.2.1 J) :: LLp J:CL J)
noncomputable def acM (v:WM × VK × Bool):List Nat:=match v.1 with | .reg=>[0,1,2,3,4,9,10] | .exi=>[0,1,2,3,4,9] | .set=>[0,1,2,3,4,9,10] | .led=>uq4
noncomputable def acK (v:WM × VK × Bool):List Nat:=match v.2.2 with | false=>(match v.1 with | .reg=>(by walk_at "#iQ*kblC4l>") | .exi=>uq6 | .set=>uq8 | .led=>uq9) | true=>(match v.1 with | .reg=>uq5 | .exi=>uq7 | .set=>[5,2,3,4,11,12,1,14] | .led=>aeN)
noncomputable def acG (v:WM × VK × Bool):List Nat:=match v.1 with | .reg=>(by walk_at "#n$o$=fsm#") | .exi=>acR | .set=>ad0 | .led=>ad6
noncomputable def w_q:WM × VK × Bool→Nat
 | (.exi,.n,false)=>2
 | (.exi,.n,true)=>2
 | (.exi,.i,false)=>2
 | (.exi,.i,true)=>2
 | (.exi,.s,false)=>2
 | (.exi,.s,true)=>2
 | (.led,.n,false)=>5
 | (.led,.n,true)=>5
 | (.led,.i,false)=>5
 | (.led,.i,true)=>5
 | (.led,.s,false)=>5
 | (.led,.s,true)=>5
 | _=>3
noncomputable def acN:WM × VK × Bool→Nat
 | (.led,.n,false)=>1
 | (.led,.n,true)=>1
 | (.led,.i,false)=>1
 | (.led,.i,true)=>1
 | (.led,.s,false)=>1
 | (.led,.s,true)=>1
 | _=>0
def w (v:WM × VK × Bool) (P:Params):aq SW:=akt.spec ((⟨4,(w_q v),(acN v),15,63,264,true,acM v,acK v,acG v⟩:akt) ) (fun p I=>.code (wrC I)) (fun p I=>[liO (ad I 1) p.i,ab p.xs p.e,frO (wrG P v.1 p (ad I 3) v.2.2) p.ep,v.1.dest p]) (fun p=>some p.S) (fun p I O=>.again (wrC I)) (fun p I O=>[liO (ad I 1) (p.i + 1),ab p.xs p.e,frO (wrG P v.1 (wrN v.1 v.2.1 v.2.2 p (wrA v.1 fun j=>I (4 + j)) O) (ad I 3) true) (wrN v.1 v.2.1 v.2.2 p (wrA v.1 fun j=>I (4 + j)) O).ep,v.1.dest p]++wrO v.1 p) (fun p I O=>some (wrS v.1 p.S p.h (p.t 21) p.c (p.t 5) (v.2.1.as (ae p.xs p.i)) (wrA v.1 fun j=>I (4 + j)) O)) (fun p I O=>(match v.1 with | .led=>[.hb (Nat.ble (p.S.n + 1 + 1 + 1) 1000000)] | _=>[])++(match v.1 with | .exi=>[] | _=>[.hb (Nat.ble (p.S.n + 1 + 1) 1000000)])++[.hb (Nat.ble (p.S.n + 1) 1000000),.hb (Nat.ble p.S.n 1000000),.hb (Nat.blt p.i p.xs.size),.hb (v.2.1.is (ae p.xs p.i))]) (fun p I O=>(match v.1 with | .led=>[.hb true] | _=>[])++(match v.1 with | .exi=>[] | _=>[.hb true])++[.hb true,.hb true,.hb true,.hb true])
theorem acL (v:WM × VK × Bool) (P:Params) (p:SW):(w v P).Ok p:=okE (eWM.pr (eVK.pr amJ)) (fun v=>w v P) p v
theorem acD (v:WM × VK × Bool) (J:WB) (p:SW):(w v J.p).Runs J.w J.t (w_S v J) p:=amK (eWM.pr (eVK.pr amJ)) (fun v J=>w v J.p) (fun v J=>w_S v J) v J p
def acJ (v:Bool × Bool) (m:WM) (J:WB):List (SG J):=smS ([]:CL J)
def wx (v:Bool × Bool) (m:WM) (P:Params):aq SV:=akt.spec ((⟨4,0,0,0,2,28,true,[0,1,2,3],[],[1,0,1,1,1,3,1,1,11]⟩:akt) ) (fun p I=>.code (wrC I)) (fun p I=>[liO (ad I 1) (nV v p.u).length,ab ⟨nV v p.u⟩ p.p.e,frO (wrG P m p.p (ad I 3) (v.1 || v.2)) p.p.ep,m.dest p.p]) (fun p=>some p.p.S) (fun p I O=>.next) (fun p I O=>[liE (nV v p.u).length,ab ⟨nV v p.u⟩ p.p.e,frO (wrG P m p.p (ad I 3) (v.1 || v.2)) p.p.ep,m.dest p.p]) (fun p I O=>some p.p.S) (fun p I O=>[]) (fun p I O=>[])
theorem acC (v:Bool × Bool) (m:WM) (J:WB) (p:SV):(wx v m J.p).Runs J.w J.t (acJ v m J) p:=amM (amJ.pr amJ) (fun v J=>wx v m J.p) (fun v J=>acJ v m J) v J p
def kF (m:WM) (h:Nat) (b:Tok) (c:Nat) (tc:Tok) (f:Str) (d:Tok):aa→List Value→(Nat→Nat)→(Nat→Nat)→aa
 | S,[],_,_=>S
 | S,v :: vs,a,t=>kF m h b c tc f d (aT m S h b c tc f d v a t) vs (fun j=>a (j + 5)) (fun j=>t (j + 11))
noncomputable def mrg (k:Nat) (f g:ae8):Nat→Nat:=fun j=>match Nat.blt j k with
 | true=>f j
 | false=>g (j - k)
theorem afa {k:Nat} {f g:ae8} (j:Nat):mrg k f g (j + k)=g j:=by
 unfold mrg
 cases q:Nat.blt (j + k) k with
 | true=>have:j + k + 1≤k:=ag q;lia
 | false=>show g (j + k - k)=g j;congr 1;lia
theorem zh (m:WM) (S:aa) (h:Nat) (b:Tok) (c:Nat) (tc:Tok) (f:Str) (d:Tok) (v:Value) (a t e t2:ae8):aT m S h b c tc f d v (mrg 5 a e) (mrg 11 t t2)=aT m S h b c tc f d v a t:=by
 cases m<;>rfl
theorem xC (m:WM) (S:aa) (h:Nat) (b:Tok) (c:Nat) (tc:Tok) (f:Str) (d:Tok) (v:Value) (a t:ae8):(aT m S h b c tc f d v a t).n≤S.n + 4∧(aT m S h b c tc f d v a t).regs=S.regs + 2:=by
 cases m
 · exact ⟨by show S.n + 3≤S.n + 4;lia,rfl⟩
 · exact ⟨by show S.n + 2≤S.n + 4;lia,rfl⟩
 · exact ⟨by show S.n + 3≤S.n + 4;lia,rfl⟩
 · exact ⟨by show S.n + 4≤S.n + 4;lia,rfl⟩
def wrX (P:Params) (m:WM) (p:SW) (b:Bool) (I:ae8):XL:=tc I 0 [liE p.i,ab p.xs p.e,frO (wrG P m p (ad I 3) b) p.ep,m.dest p]++uU P (some p.S)
theorem tu {l:List Value} (h:l.length≤3):∃ n u,l=nV n u:=by
 match l,h with
 | [],_=>exact ⟨(false,false),fun z=>.none,rfl⟩
 | [a],_=>exact ⟨(false,true),fun z=>a,rfl⟩
 | [a,b],_=>exact ⟨(true,false),fun j=>match j with | 0=>a | _=>b,rfl⟩
 | [a,b,c],_=>exact ⟨(true,true),fun j=>match j with | 0=>a | 1=>b | _=>c,rfl⟩
 | _ :: _ :: _ :: _ :: l,h=>exact absurd h (by simp)
theorem x_w (J:WB) (m:WM) (p:SW) (I:ae8) (a:p.i=p.xs.size) (hz:p.xs.size≤3) :
  HRG J 63 (.code (wrC I)) (wrL J.p m p (Nat.ble 1 p.i) I) (fun e L'=>e=.next∧L'=wrX J.p m p (Nat.ble 1 p.i) I):=by
 obtain ⟨l,hl⟩:∃ l,p.xs=⟨l⟩:=⟨p.xs.toList,rfl⟩
 have b:p={ p with xs:=⟨l⟩,i:=l.length }:=by rw [hl] at a;cases p;simp only [SW.mk.injEq] at hl a ⊢;simp_all
 rw [b]
 rw [hl] at hz
 have key:∀ (n:Bool × Bool) (u:Nat→Value),l=nV n u→HRG J 63 (.code (wrC I)) (wrL J.p m { p with xs:=⟨l⟩,i:=l.length } (Nat.ble 1 l.length) I) (fun e L'=>e=.next∧L'=wrX J.p m { p with xs:=⟨l⟩,i:=l.length } (Nat.ble 1 l.length) I):=fun n u hn=>by
  subst hn
  have H:=aq.hr0 (ay _) (acC n m J ⟨p,u⟩) (by intros;exact tT) rfl I (fun I' O z=>rfl)
  obtain ⟨x,y⟩:=n
  cases x<;>cases y<;>exact H.mono (ag rfl) <| elB fun O=>by
   exact ⟨rfl,rfl⟩
 obtain ⟨n,u,hn⟩:=tu hz
 exact key n u hn
theorem eF (P:Params) (A:XL) (S:aa) (x:Addr × Obj):((A++[x])++uU P (some S)).Perm (A++uU P (some (iB S x))):=by
 have:uU P (some (iB S x))=uU P (some S)++[x]:=by
  show aa.cells P (iB S x)=aa.cells P S++[x]
  unfold aa.cells iB
  simp [aa.instO,aa.dictO,aa.opsO,aa.opsV,aa.labelsO]
 rw [this,uG]
 exact alB _ Mt
theorem t_w (J:WB) (m:WM) (p:SW) (b:Bool) (I:ae8) (k:VK) (a:Nat.blt p.i p.xs.size=true) (hn:p.S.n≤900000) (hk:VK.is k (ae p.xs p.i)=true) :
  HRG J 63 (.code (wrC I)) (wrL J.p m p b I) (bI J.p m p I):=by
 have H:=aq.hrN (ay _) (acD (m,k,b) J p) (acL (m,k,b) _ p) I (fun I' O z=>by
  have e:∀ n≤9,Nat.ble (p.S.n + n) 1000000=true:=fun n z=>aF (by lia)
  cases m<;>first | exact hbT (e 2 (by decide)) (hbT (e 1 (by decide)) (hbT (e 0 (by decide)) (hbT a (hbT hk rfl)))) | exact hbT (e 3 (by decide)) (hbT (e 2 (by decide)) (hbT (e 1 (by decide)) (hbT (e 0 (by decide)) (hbT a (hbT hk rfl))))) | exact hbT (e 1 (by decide)) (hbT (e 0 (by decide)) (hbT a (hbT hk rfl))))
 refine HR.mono (need:=(w (m,k,b) J.p).need) H (ag rfl) fun e L' h=>?_
 obtain ⟨V,O,rfl,rfl⟩:=h
 refine ⟨(by clear H hk;obtain ⟨y,rfl,rfl,rfl⟩:∃ y:WM × VK × Bool,m=y.1∧k=y.2.1∧b=y.2.2:=⟨(m,k,b),rfl,rfl,rfl⟩;revert y;refine am8 (eWM.pr (eVK.pr amJ)) _ _ ?_;kernel_rfl),wrN m k b p (wrA m fun j=>o8 4 I V (4 + j)) (ah 15 O),_,_,?_,⟨rfl,rfl,rfl,rfl,rfl,rfl,?_⟩,rfl,(by rw [VK.eq hk];rfl),(VK.eq hk).symm,⟨_,rfl⟩,rfl⟩
 · cases m
   case led=>exact alI (fv (by clear H hk;obtain ⟨y,rfl,rfl⟩:∃ y:VK × Bool,k=y.1∧b=y.2:=⟨(k,b),rfl,rfl⟩;revert y;refine am8 (eVK.pr amJ) _ _ ?_;kernel_rfl)) (eF _ (tc I 0 [_,_,_,_]) _ _)
   all_goals exact fv (by clear H hk;obtain ⟨y,rfl,rfl⟩:∃ y:VK × Bool,k=y.1∧b=y.2:=⟨(k,b),rfl,rfl⟩;revert y;refine am8 (eVK.pr amJ) _ _ ?_;kernel_rfl)
 · cases b
   · exact cH p _ _ _
   · exact fun z z z z=>rfl
def bd (xs:Array Value):Bool:=Nat.ble xs.size 3 && xs.toList.all fun v=>(kindOf v).isSome
theorem Fh {xs:Array Value} (h:bd xs=true) {i:Nat} (a:Nat.blt i xs.size=true):∃ k,VK.is k (ae xs i)=true:=by
 unfold bd at h
 obtain ⟨-,b⟩:=iR.mp h
 have a:=ag a
 have:(kindOf (ae xs i)).isSome=true:=by
  refine Gt.mp b _ ?_
  unfold ae
  rw [List.getD_eq_getElem?_getD,List.getElem?_eq_getElem (by rw [aly];exact a)]
  exact alD _
 obtain ⟨k,hk⟩:=lw.mp this
 exact ⟨k,akI hk⟩
theorem Fy {xs:Array Value} {i:Nat} (a:i < xs.size):xs.toList.drop i=ae xs i :: xs.toList.drop (i + 1):=by
 rw [List.drop_eq_getElem_cons (by simpa using a)]
 congr 1
 unfold ae
 rw [List.getD_eq_getElem?_getD,List.getElem?_eq_getElem (by rw [aly];exact a)]
 rfl
def xy (xs:Array Value):Value:=ae xs (xs.size - 1)
structure s9 (p:SW):Prop where
 v:p.v=xy p.xs
 rc:∃ u,p.rc=.int (Int.ofNat (p.S.regs - 1)) u
 tg:∃ u,p.tg=.int (Int.ofNat (p.S.regs - 2)) u
def QL (P:Params) (m:WM) (p:SW) (I:ae8) (e:En) (L':XL):Prop:=e=.next∧∃ (p':SW) (a t:ae8),L'.Perm (wrX P m p' (Nat.ble 1 p.xs.size) I)∧Q2 p p'∧p'.i=p.xs.size ∧
 p'.S=kF m p.h (p.t 21) p.c (p.t 5) p.f (p.t 22) p.S (p.xs.toList.drop p.i) a t∧((p.i=p.xs.size→s9 p)→s9 p')
theorem NX (J:WB) (m:WM) (I:ae8):∀ (k:Nat) (p:SW),p.xs.size=p.i + k→bd p.xs=true→p.S.n + 4 * k≤900000 →
  HRG J 63 (.code (wrC I)) (wrL J.p m p (Nat.ble 1 p.i) I) (QL J.p m p I):=by
 intro k
 induction k with
 | zero=>
  intro p hk hv hn
  have hz:p.xs.size≤3:=by
   unfold bd at hv
   exact ag (iR.mp hv).1
  have d:p.i=p.xs.size:=by lia
  refine (x_w J m p I d hz).mono (ai _) fun e L' h=>?_
  obtain ⟨rfl,rfl⟩:=h
  refine ⟨rfl,p,fun Z=>0,fun Z=>0,?_,⟨rfl,rfl,rfl,rfl,rfl,rfl,fun Z Z Z Z=>rfl⟩,d,?_,fun h=>h d⟩
  · rw [← d]
  · rw [List.drop_of_length_le (by simp [d])]
    rfl
 | succ k ih=>
  intro p hk hv hn
  have d:Nat.blt p.i p.xs.size=true:=aF (by lia)
  obtain ⟨L,A⟩:=Fh hv d
  refine (t_w J m p (Nat.ble 1 p.i) I L d (by lia) A).again fun e L' h=>?_
  obtain ⟨rfl,p',a,t,l,b,w,s,G,D,h5⟩:=h
  refine ⟨_,rfl,rfl,?_⟩
  have B:=(xC m p.S p.h (p.t 21) p.c (p.t 5) p.f (p.t 22) (ae p.xs p.i) a t).1
  have H:=ih p' (by rw [b.xs,w];lia) (by rw [b.xs];exact hv) (by rw [s];lia)
  rw [show Nat.ble 1 p'.i=true from aF (by lia)] at H
  refine (H.perm l.symm).mono (ai _) fun e L' q=>?_
  obtain ⟨rfl,o,v,t2,E,g,K,C,M⟩:=q
  have hr:=(xC m p.S p.h (p.t 21) p.c (p.t 5) p.f (p.t 22) (ae p.xs p.i) a t).2
  have hl:s9 o:=M fun hz=>by
   obtain ⟨u,F⟩:=D
   refine ⟨?_,⟨u,?_⟩,⟨p.S.tr,?_⟩⟩
   · rw [G,b.xs];unfold xy
     rw [b.xs,w] at hz
     congr 1;lia
   · rw [F,s,hr];rfl
   · rw [h5,s,hr];rfl
  refine ⟨rfl,o,mrg 5 a v,mrg 11 t t2,?_,?_,?_,?_,fun Z=>hl⟩
  · rw [← b.xs];exact E
  · exact ⟨g.xs.trans b.xs,g.e.trans b.e,g.r.trans b.r,g.h.trans b.h,g.c.trans b.c,g.f.trans b.f,fun j x y z=>(g.t j x y z).trans (b.t j x y z)⟩
  · rw [K,b.xs]
  · rw [C,b.xs,w,s,Fy (xs:=p.xs) (i:=p.i) (by lia),b.h,b.c,b.f,b.t 21 (by decide) (by decide) (by decide),b.t 5 (by decide) (by decide) (by decide),b.t 22 (by decide) (by decide) (by decide)]
    show _=kF m _ _ _ _ _ _ (aT m _ _ _ _ _ _ _ _ _ _) _ _ _
    rw [zh]
    have e1:(fun j=>mrg 5 a v (j + 5))=v:=funext fun j=>afa j
    have e2:(fun j=>mrg 11 t t2 (j + 11))=t2:=funext fun j=>afa j
    rw [e1,e2]
noncomputable def aby (o:Obj):Nat:=match o.data with
 | .dict _ e=>e
 | _=>0
def aL (p:Raw):SW:=⟨aj p.X,(ao [uF p.os 1]).1,(ao [uF p.os 1]).2,0,fun j=>vR p 2 j,fun j=>match j with
 | 0=>kT p 2 0
 | 1=>kT p 2 1
 | 2=>kT p 2 2
 | 3=>kT p 2 3
 | 4=>kT p 2 4
 | 5=>ak (vN p 2 4)
 | 6=>kT p 2 5
 | 7=>kT p 2 6
 | 20=>ak (vN p 3 0)
 | 21=>ak (vN p 3 1)
 | 22=>ak (vN p 3 2)
 | _=>0,ba (vN p 3 1),xI (vN p 2 4),aD (vN p 3 2),aby (uF p.os 2),.none,.none,.none⟩
def tE (P:Params) (b:Bool) (a d c:Tok) (v r t:Value):List DictEntry:=match b with
 | false=>[]
 | true=>[dF P J2 a v,dF P Y0 d r,dF P J11 c t]
theorem Jh (P:Params) (m:WM) (p:SW) (d:Nat) (b:Bool):wrG P m p d b=wrF P m p d++tE P b (p.t 8) (p.t 9) (p.t 10) p.v p.rc p.tg:=by
 cases b
 · show wrF P m p d=wrF P m p d++[]
   rw [au]
 · rfl
def pL (m:WM) (r:Nat) (tr:Tok) (h:Nat) (b:Tok) (c:Nat) (tc:Tok) (v:Value) (a t:ae8):XL:=match m with
 | .reg=>[(ad a 0,row J10 (t 1) (.int 0 (t 2)) (.int (Int.ofNat r) tr) (.int 0 (t 3)) v),(ad a 1,row J22 (t 4) (.int (Int.ofNat r) tr) (.int (Int.ofNat h) b) (.int 1 (t 5)) .none),(ad a 2,row J39 (t 6) (.int 0 (t 7)) (.int (Int.negSucc c) tc) (.int 0 371) .none)]
 | .exi=>[(ad a 0,row J10 (t 1) (.int 0 (t 2)) (.int (Int.ofNat r) tr) (.int 0 (t 3)) v),(ad a 1,row J10 (t 4) (.int 0 (t 5)) (.int (Int.ofNat h) b) (.int 0 (t 6)) (.int 1 (t 7)))]
 | .set=>[(ad a 0,row J10 (t 1) (.int 0 (t 2)) (.int (Int.ofNat r) tr) (.int 0 (t 3)) v),(ad a 1,row J41 (t 4) (.int (Int.ofNat r) tr) (.int 1 (t 5)) (.int (Int.ofNat (r + 1)) (t 6)) .none),(ad a 2,row J27 (t 7) (.int (Int.ofNat h) b) (.int (Int.ofNat (r + 1)) (t 6)) (.int 0 371) .none)]
 | .led=>[(ad a 0,row J10 (t 1) (.int 0 (t 2)) (.int (Int.ofNat r) tr) (.int 0 (t 3)) v),(ad a 1,row J28 (t 8) (.int (Int.ofNat r) tr) (.int 1 (t 9)) (.int 0 (t 10)) (.ref (ad a 3))),(ad a 2,row J41 (t 4) (.int (Int.ofNat r) tr) (.int 1 (t 5)) (.int (Int.ofNat (r + 1)) (t 6)) .none),
  (ad a 4,row J27 (t 7) (.int (Int.ofNat h) b) (.int (Int.ofNat (r + 1)) (t 6)) (.int 0 371) .none)]
noncomputable def xJ (m:WM) (f:Str) (b:Tok) (a:ae8):XL:=match m with
 | .led=>[(ad a 3,aO [.str f b])]
 | _=>[]
def bj (m:WM) (h:Nat) (b:Tok) (c:Nat) (tc:Tok):Nat→Tok→List Value→(Nat→Nat)→(Nat→Nat)→XL
 | _,_,[],_,_=>[]
 | r,tr,v :: vs,a,t=>pL m r tr h b c tc v a t++bj m h b c tc (r + 2) (t 0) vs (fun j=>a (j + 5)) (fun j=>t (j + 11))
noncomputable def cn (m:WM) (f:Str) (b:Tok):List Value→(Nat→Nat)→XL
 | [],_=>[]
 | _ :: vs,a=>xJ m f b a++cn m f b vs (fun j=>a (j + 5))
noncomputable def lD:Tok→List Value→(Nat→Nat)→Tok
 | tr,[],_=>tr
 | _,_ :: vs,t=>lD (t 0) vs (fun j=>t (j + 11))
noncomputable def iF (S:aa) (r:Nat) (tr:Tok) (l x:XL):aa:={ S with regs:=S.regs + r,tr:=tr,e:=S.e + l.length,ops:=S.ops++l,n:=S.n + l.length,xt:=S.xt++x,hn:=by rw [ln,S.hn] }
theorem Df (S:aa) (r d:Nat) (tr a:Tok) (l c x b:XL):iF (iF S r tr l x) d a c b=iF S (r + d) a (l++c) (x++b):=by
 unfold iF
 simp only [uG,ln,alH]
theorem xr (m:WM) (S:aa) (h:Nat) (b:Tok) (c:Nat) (tc:Tok) (f:Str) (d:Tok) (v:Value) (a t:ae8) :
  aT m S h b c tc f d v a t=iF S 2 (t 0) (pL m S.regs S.tr h b c tc v a t) (xJ m f d a):=by
 delta aT wrS pL xJ
 cases m<;>simp [iF,aa.add,wI,iB]
theorem j7 (m:WM) (h:Nat) (b:Tok) (c:Nat) (tc:Tok) (f:Str) (d:Tok):∀ (vs:List Value) (S:aa) (a t:ae8),kF m h b c tc f d S vs a t=iF S (2 * vs.length) (lD S.tr vs t) (bj m h b c tc S.regs S.tr vs a t) (cn m f d vs a)
 | [],S,a,t=>by
  show S=iF S 0 S.tr [] []
  unfold iF
  simp
 | v :: vs,S,a,t=>by
  show kF m h b c tc f d (aT m S h b c tc f d v a t) vs _ _=_
  rw [j7 m h b c tc f d vs,xr,Df]
  exact congrArg (fun n=>iF S n (lD S.tr (v :: vs) t) (bj m h b c tc S.regs S.tr (v :: vs) a t) (cn m f d (v :: vs) a)) (by simp only [Ov];lia)
theorem rr (m:WM) (h:Nat) (b:Tok) (c:Nat) (tc:Tok):∀ (vs:List Value) (r:Nat) (tr:Tok) (a t:ae8),(bj m h b c tc r tr vs a t).length≤4 * vs.length
 | [],_,_,_,_=>Bt _
 | v :: vs,r,tr,a,t=>by
  have:=rr m h b c tc vs (r + 2) (t 0) (fun j=>a (j + 5)) (fun j=>t (j + 11))
  have d:=(by intro m;cases m<;>exact ag rfl:∀ m:WM,(pL m r tr h b c tc v a t).length≤4) m
  show (pL m r tr h b c tc v a t++bj m h b c tc (r + 2) (t 0) vs _ _).length≤4 * (vs.length + 1)
  rw [ln]
  lia
noncomputable def flt (f:ae8):Nat→Nat→List Nat
 | _,0=>[]
 | k,n + 1=>f k :: flt f (k + 1) n
noncomputable def fl (l:List Nat) (j:Nat):Nat:=l.getD j 0
theorem oE {f:ae8}:∀ {n k j:Nat},j < n→fl (flt f k n) j=f (k + j)
 | 0,_,_,h=>absurd h (Ut _)
 | n + 1,k,0,_=>rfl
 | n + 1,k,j + 1,h=>by
  have:=oE (f:=f) (n:=n) (k:=k + 1) (j:=j) (by lia)
  rw [alH,Nat.add_comm 1 j] at this
  exact this
theorem Dv (m:WM) (h:Nat) (d:Tok) (c:Nat) (tc:Tok) (f:Str) (g:Tok) (vs:List Value) (S:aa) (a k t l:ae8) (i:∀ j,j < 5 * vs.length→a j=k j) (b:∀ j,j < 11 * vs.length→t j=l j):kF m h d c tc f g S vs a t=kF m h d c tc f g S vs k l:=by
 induction vs generalizing S a k t l with
 | nil=>rfl
 | cons v vs ih=>
  simp only [Ov] at i b
  show kF m h d c tc f g (aT m S h d c tc f g v a t) vs _ _=kF m h d c tc f g (aT m S h d c tc f g v k l) vs _ _
  have e:aT m S h d c tc f g v a t=aT m S h d c tc f g v k l:=by
   delta aT wrS
   cases m<;>simp only [i 0 (by lia),i 1 (by lia),i 2 (by lia),i 3 (by lia),i 4 (by lia),b 0 (by lia),b 1 (by lia),b 2 (by lia),b 3 (by lia),b 4 (by lia),b 5 (by lia),b 6 (by lia),b 7 (by lia),b 8 (by lia),b 9 (by lia),b 10 (by lia),ad]
  rw [e]
  exact ih _ _ _ _ _ (fun j n=>i _ (by lia)) (fun j n=>b _ (by lia))
def B7 (m:WM) (J:WB):LG J where
 nx:=true
 P:=Raw
 fs:=[.iter,.ent 0 0,.locs,.ent 2 2]
 qt:=0
 q:=15
 it:=40
 need:=63
 ext:=Raw.mk
 obl _ p:=([.hb (bd (ao [uF p.os 1]).1),.hb (Nat.ble (aj p.X).n 800000),.x p.X],[.hb true,.hb true,.x (some (aj p.X))])
 code I p:=wrC I
 pre I p:=[liO (ad I 1) 0,ab (aL p).xs (aL p).e,frO (wrF J.p m (aL p) (ad I 3)) (aL p).ep,m.dest (aL p)]
 preX p:=p.X
 post I O p:=[liE (aL p).xs.size,ab (aL p).xs (aL p).e,
  frO (wrF J.p m (aL p) (ad I 3)++tE J.p (Nat.ble 1 (aL p).xs.size) (O 0) (O 1) (O 2) (xy (aL p).xs) (.int (Int.ofNat ((aL p).S.regs + 2 * (aL p).xs.toList.length - 1)) (O 3)) (.int (Int.ofNat ((aL p).S.regs + 2 * (aL p).xs.toList.length - 2)) (O 4))) (O 5),m.dest (aL p)]
 postX I O p:=some (iF (aj p.X) (2 * (aL p).xs.toList.length) (lD (aj p.X).tr (aL p).xs.toList (fl (flt O 6 33)))
  (bj m (aL p).h ((aL p).t 21) (aL p).c ((aL p).t 5) (aj p.X).regs (aj p.X).tr (aL p).xs.toList (fl (flt I 4 15)) (fl (flt O 6 33)))
  (cn m (aL p).f ((aL p).t 22) (aL p).xs.toList (fl (flt I 4 15))))
 res _ _ _:=.none
 qle:=Bt _
 olen _ _:=rfl
 len _ _ _:=rfl
 ok p I w _:=by
  obtain ⟨E,w⟩:=aU w
  obtain ⟨D,w⟩:=aU w
  have D:=ag D
  have G:p.X=some (aj p.X):=by
   have:=(List.cons.inj w).1
   exact OV.x.inj this
  have hz:(aL p).xs.size≤3:=by
   have:=E
   unfold bd at this
   exact ag (iR.mp this).1
  have hl:(aL p).xs.toList.length≤3:=by rw [aly];exact hz
  have key:=NX J m I (aL p).xs.size (aL p) (by show _=0 + _;lia) E (by show (aj p.X).n + _≤_;lia)
  refine HR.tx (nx:=true) (k:=4) (K:=fun I' O'=>_) ?_
  have F:wrC (ah 4 I)=wrC I:=rfl
  show HR _ _ 63 (.code (wrC (ah 4 I))) _ _
  rw [F]
  have key:HRG J 63 (.code (wrC I)) (tc I 0 [liO (ad (ah 4 I) 1) 0,ab (aL p).xs (aL p).e,frO (wrF J.p m (aL p) (ad (ah 4 I) 3)) (aL p).ep,m.dest (aL p)]++uU J.p p.X) (QL J.p m (aL p) I):=by
   rw [G];exact key
  refine key.post_perm.weak fun e L' h=>?_
  obtain ⟨rfl,p',a,t,g,b,A,C,L⟩:=h
  have hn:Nat.ble 1 (aL p).xs.size=true→s9 p':=fun hb=>L fun l=>by
   have:=ag hb
   have l:0=(aL p).xs.size:=l
   lia
  have hd:(aL p).xs.toList.drop (aL p).i=(aL p).xs.toList:=rfl
  rw [hd] at C
  have s:Nat.ble 1 (aL p).xs.size=true→∃ u d,p'.v=xy (aL p).xs∧p'.rc=.int (Int.ofNat ((aL p).S.regs + 2 * (aL p).xs.toList.length - 1)) u∧p'.tg=.int (Int.ofNat ((aL p).S.regs + 2 * (aL p).xs.toList.length - 2)) d:=fun hb=>by
   obtain ⟨e1,⟨u,e2⟩,⟨d,e3⟩⟩:=hn hb
   rw [C,j7] at e2 e3
   exact ⟨u,d,by rw [e1,b.xs],e2,e3⟩
  obtain ⟨u,d,y⟩:∃ u d,tE J.p (Nat.ble 1 (aL p).xs.size) (p'.t 8) (p'.t 9) (p'.t 10) p'.v p'.rc p'.tg=tE J.p (Nat.ble 1 (aL p).xs.size) (p'.t 8) (p'.t 9) (p'.t 10) (xy (aL p).xs) (.int (Int.ofNat ((aL p).S.regs + 2 * (aL p).xs.toList.length - 1)) u) (.int (Int.ofNat ((aL p).S.regs + 2 * (aL p).xs.toList.length - 2)) d):=by
   cases hb:Nat.ble 1 (aL p).xs.size with
   | false=>exact ⟨0,0,rfl⟩
   | true=>
    refine ex2 (s hb) fun u d z=>?_
    refine an2 z fun e1 e2 e3=>?_
    exact ⟨u,d,by rw [e1,e2,e3]⟩
  have o:p'.S=iF (aj p.X) (2 * (aL p).xs.toList.length) (lD (aj p.X).tr (aL p).xs.toList (fl (flt (ah 40 (fun j=>match j with | 0=>p'.t 8 | 1=>p'.t 9 | 2=>p'.t 10 | 3=>u | 4=>d | 5=>p'.ep | j + 6=>t j)) 6 33)))
    (bj m (aL p).h ((aL p).t 21) (aL p).c ((aL p).t 5) (aj p.X).regs (aj p.X).tr (aL p).xs.toList (fl (flt (ah 19 (o8 4 I a)) 4 15)) (fl (flt (ah 40 (fun j=>match j with | 0=>p'.t 8 | 1=>p'.t 9 | 2=>p'.t 10 | 3=>u | 4=>d | 5=>p'.ep | j + 6=>t j)) 6 33)))
    (cn m (aL p).f ((aL p).t 22) (aL p).xs.toList (fl (flt (ah 19 (o8 4 I a)) 4 15))):=by
   rw [C,← j7]
   refine Dv _ _ _ _ _ _ _ _ _ _ _ _ _ (fun j B=>?_) (fun j B=>?_)
   · rw [oE (by lia),aJ (by lia)]
     unfold o8
     rw [show Nat.blt (4 + j) 4=false from by
      cases q:Nat.blt (4 + j) 4 with
      | false=>rfl
      | true=>exact absurd (ag q) (by lia)]
     show _=a (4 + j - 4)
     congr 1;lia
   · rw [oE (by lia),aJ (by lia),Nat.add_comm 6 j]
  refine ⟨_,g,o8 4 I a,(fun j=>match j with | 0=>p'.t 8 | 1=>p'.t 9 | 2=>p'.t 10 | 3=>u | 4=>d | 5=>p'.ep | j + 6=>t j),fun j B=>?_,rfl,?_⟩
  · unfold o8
    rw [show Nat.blt j 4=true from aF B]
  · unfold wrX
    rw [o,A,Jh,y,b.xs,b.e]
    have M:wrF J.p m p' (ad I 3)=wrF J.p m (aL p) (ad I 3):=by
     unfold wrF
     rw [b.r,b.h,b.c,o,b.t 0 (by decide) (by decide) (by decide),b.t 1 (by decide) (by decide) (by decide),b.t 2 (by decide) (by decide) (by decide),b.t 3 (by decide) (by decide) (by decide),b.t 4 (by decide) (by decide) (by decide),b.t 5 (by decide) (by decide) (by decide),b.t 6 (by decide) (by decide) (by decide),b.t 7 (by decide) (by decide) (by decide),b.t 20 (by decide) (by decide) (by decide),b.t 21 (by decide) (by decide) (by decide)]
     rfl
    have H:m.dest p'=m.dest (aL p):=by
     cases m<;>unfold WM.dest<;>rw [b.h,b.t 20 (by decide) (by decide) (by decide),b.t 21 (by decide) (by decide) (by decide)]
     rw [b.f,b.t 22 (by decide) (by decide) (by decide)]
    rw [M,H]
    rfl
def iD (P:Params) (p:Raw) (i:Nat):Obj:=aE [dF P J36 (kT p i 0) (.ref ((aj p.X).p + 1158)),dF P J78 (kT p i 1) (.ref (vR p i 1)),dF P J66 (kT p i 2) (.ref (vR p i 2)),dF P J68 (kT p i 3) .none,dF P J55 (kT p i 4) .none,dF P J85 (kT p i 5) (.ref 1114),dF P J74 (kT p i 6) .none] 7
def LV (P:Params) (p:Raw) (i:Nat) (v:Nat):Obj:=aE [dF P J61 (kT p i 0) .none,dF P J52 (kT p i 1) (.ref (vR p i 1)),dF P J57 (kT p i 2) .none,dF P J63 (kT p i 3) .none,dF P J6 (kT p i 4) (.ref v),dF P J91 (kT p i 5) (vI p i 5),dF P J92 (kT p i 6) (.ref (vR p i 6)),dF P J90 (kT p i 7) (.ref (vR p i 7))] 8
theorem gH (m:WM) (h:Nat) (b:Tok) (c:Nat) (tc:Tok) (r:Nat) (tr:Tok) (a t:ae8) {xs:Array Value} (hv:bd xs=true):(bj m h b c tc r tr xs.toList a t).length≤12:=by
 have d:=rr m h b c tc xs.toList r tr a t
 have e:xs.size≤3:=by
  unfold bd at hv
  exact ag (iR.mp hv).1
 have f:xs.toList.length=xs.size:=aly
 lia
theorem mP {n k m:Nat} (h:Nat.ble n 700000=true) (hk:k≤100) (a:700100≤m):Nat.ble (n + k) m=true:=by
 have:=ag h
 exact aF (by lia)
theorem sI {n k l m:Nat} (h:Nat.ble n 700000=true) (hl:l≤12) (hk:k≤50) (a:700100≤m):Nat.ble (n + k + l) m=true:=by
 have:=ag h
 exact aF (by lia)
def WM.dst (m:WM) (p:Raw):Obj:=m.dest ⟨aj p.X,#[],0,0,fun z=>0,fun j=>match j with | 20=>ak (vN p 4 0) | 21=>ak (vN p 4 1) | _=>ak (vN p 4 2),ba (vN p 4 1),0,aD (vN p 4 2),0,.none,.none,.none⟩
def wrV (p:Raw):Array Value:=(ao [uF p.os 5]).1
def wrQ (m:WM) (p:Raw) (a t:ae8):XL:=bj m (ba (vN p 4 1)) (ak (vN p 4 1)) (aj p.X).next (aj p.X).tn (aj p.X).regs (aj p.X).tr (wrV p).toList a t
def ae6 (m:WM) (p:Raw) (x b f t2 t3:Nat) (a t:ae8) (S:aa):aa:=⟨S.p,S.d,S.o,S.l,S.c,S.tk,S.regs + 2 * (wrV p).toList.length,lD S.tr (wrV p).toList t,S.curs,S.tc,S.slots,S.ts,S.next + 1,t2,S.e + 1 + (wrQ m p a t).length,
 S.ops++[(x,row [65,100,100,73,110,116] b (.int (am (vN p 3 5)) (ak (vN p 3 5))) (.int 1 f) (.int 0 371) .none)]++wrQ m p a t,S.labels++[(S.next,S.tn,S.n + 1 + (wrQ m p a t).length,t3)],S.le + 1,S.n + 1 + (wrQ m p a t).length,S.xt++cn m (match m with | .led=>aD (vN p 4 2) | _=>sv []) (match m with | .led=>ak (vN p 4 2) | _=>0) (wrV p).toList a,by simp [S.hn];lia⟩
noncomputable def ac4 (v:WM) (P:Params) (p:Raw) (I:ae8):Code:=.call (.ref 1114) ⟨[.ref (ad I 0),.ref (ad I 2),.ref (ad I 4)],[]⟩
noncomputable def adc (v:WM) (P:Params) (p:Raw) (I O:ae8):Value:=.none
def aeo (v:WM) (J:WB):List (SG J):=smS ((iY,B7 v J) :: LLp J:CL J)
def wr (v:WM) (P:Params):aq Raw:=akt.spec ((⟨6,16,0,37,65,300,false,(by walk_at "#etf8g]meo-"),(by walk_at "#f80h2h<i`j5gT`["),(by walk_at "#jAeRhteRO,'9h|l8nWkdk[kdk[,Ol4kNgQjNfneR'9h|#j)dfEnB`/]5,O,l5")⟩:akt) ) (fun p I=>.code (ac4 v P p I)) (fun p I=>[aw 1063 (ad I 1),iD P p 1,aw 644 (ad I 3),LV P p 3 (ad I 5),v.dst p,ab (wrV p) (ao [uF p.os 5]).2]) (fun p=>some (aj p.X)) (fun p I O=>.ret (adc v P p I O)) (fun p I O=>[aw 1063 (ad I 1),iD P p 1,aw 644 (ad I 3),LV P p 3 (ad I 5),v.dst p,ab (wrV p) (ao [uF p.os 5]).2]) (fun p I O=>some (ae6 v p (ad I 6) (O 0) (O 1) (O 2) (O 36) (fl (flt I 7 15)) (fl (flt O 3 33)) (aj p.X))) (fun p I O=>[.hb (Nat.blt (aj p.X).next ((aj p.X).next + 1)),.hb (cJ (aj p.X).next (aj p.X).labels),.hb (Nat.ble ((aj p.X).n + 1 + (wrQ v p (fl (flt I 13 15)) (fl (flt O 22 33))).length) 1000000),.hb (Nat.ble (aj p.X).labels.length 1000000),.hb (bd (wrV p)),.hb (Nat.ble ((aj p.X).n + 1) 800000),.hb (Nat.ble (aj p.X).n 1000000)]) (fun p I O=>hT 7)
theorem adu (v:WM) (J:WB) (p:Raw):(wr v J.p).Runs J.w J.t (aeo v J) p:=amK eWM (fun v J=>wr v J.p) (fun v J=>aeo v J) v J p
def ac6 (v:WM) (J:WB):LG J:=aq.toLC (ay _) (aeo v J) (wr v _) false [.arg 0,.dict 0,.arg 1,.dict 2,.arg 2,.ent 3 4] rfl (ac4 v _) (fun z z=>rfl) (adc v _) (fun z z z=>rfl) (fun I p=>([.hb (cJ (aj p.X).next (aj p.X).labels),.hb (Nat.ble (aj p.X).labels.length 1000000),.hb (bd (ao [uF p.os 5]).1),.hb (Nat.ble (aj p.X).n 700000)],[.hb true,.hb true,.hb true,.hb true])) (fun z z=>rfl) (by intros;exact tT) (adu v J) (fun p I I' O h z=>by
 obtain ⟨c,h⟩:=aU h;obtain ⟨d,h⟩:=aU h;obtain ⟨b,h⟩:=aU h;obtain ⟨a,-⟩:=aU h
 exact hbT (aF (ai _)) (hbT c (hbT (sI a (gH _ _ _ _ _ _ _ _ _ b) (by decide) (by decide)) (hbT d (hbT b (hbT (mP (k:=1) a (by decide) (by decide)) (hbT (mP (k:=0) a (by decide) (by decide)) rfl)))))))
structure SQ where
 p:SM
 xs:Array Value
 e:Nat
 v:Value
 g:Bool
 t:Nat→Nat
 z:Nat→Str
 r:Nat→Nat
noncomputable def SQ.stand:SQ:=⟨SM.stand,#[],0,.none,false,fun z=>0,fun z=>⟨#[]⟩,fun z=>0⟩
def lv (P:Params) (t:Tok) (v:Value):Obj:=aE [dF P J2 t v] 1
def uu (P:Params) (t:ae8) (pl:Int) (aff coll:Value):Obj:=aE [dF P J67 (t 0) .none,dF P J42 (t 1) (.str (sv J94) (t 2)),dF P J43 (t 3) (.int 4 (t 4)),dF P J32 (t 5) (.int pl (t 6)),dF P J84 (t 7) (.int 0 (t 8)),dF P J53 (t 9) aff,dF P J16 (t 10) coll] 7
def jB (p:Raw) (i c:Nat):Obj:=aw c ((uF p.os i).dict.getD 0)
def dH (P:Params) (p:Raw) (i:Nat):Obj:=aE [dF P J67 (kT p i 0) .none,dF P J42 (kT p i 1) (vS p i 1),dF P J43 (kT p i 2) (vI p i 2),dF P J32 (kT p i 3) (vI p i 3),dF P J84 (kT p i 4) (vI p i 4),dF P J53 (kT p i 5) (vS p i 5),dF P J16 (kT p i 6) (vS p i 6)] 7
def BV (P:Params) (p:Raw) (i:Nat) (l:List Nat):Obj:=aE [dF P J67 (kT p i 0) .none,dF P J42 (kT p i 1) (vS p i 1),dF P J43 (kT p i 2) (vI p i 2),dF P J32 (kT p i 3) (vI p i 3),dF P J84 (kT p i 4) (vI p i 4),dF P J53 (kT p i 5) (vS p i 5),dF P J16 (kT p i 6) (.str (sv l) (ak (vN p i 6)))] 7
def xG (P:Params) (p:Raw) (i:Nat):Obj:=aE [dF P J67 (kT p i 0) .none,dF P J42 (kT p i 1) (vS p i 1),dF P J43 (kT p i 2) (.int 4 (ak (vN p i 2))),dF P J32 (kT p i 3) (.int 0 (ak (vN p i 3))),dF P J84 (kT p i 4) (vI p i 4),dF P J53 (kT p i 5) (vS p i 5),dF P J16 (kT p i 6) (vS p i 6)] 7
def qi (P:Params) (p:Raw) (i:Nat) (b:Nat):Obj:=aE [dF P J36 (kT p i 0) (.ref ((aj p.X).p + 1158)),dF P J78 (kT p i 1) (.ref b),dF P J66 (kT p i 2) (.ref (vR p i 2)),dF P J68 (kT p i 3) .none,dF P J55 (kT p i 4) .none,dF P J85 (kT p i 5) (.ref 1114),dF P J74 (kT p i 6) .none] 7
noncomputable def abi (o:Obj) (n:Nat):Value:=match o.data with
 | .dict es _=>match es.toList.drop n with
  | e :: _=>e.key
  | []=>.none
 | _=>.none
noncomputable def Lw (v:Value):Bool:=match v with
 | .ref _=>true
 | _=>false
theorem F3 {v:Value} (h:Lw v=true):v=.ref (i8 v):=by
 cases v<;>first | rfl | cases h
def MU (w:World) (top:Tr):LC w top:=PL.toLC
 { P:=(Int × Nat) × List DictEntry × Nat
   fs:=[.arg 0]
   qt:=0
   it:=0
   need:=3
   ext:=fun c os=>((am (ax c 1),ak (ax c 1)),f8 os)
   obl:=fun z p=>([.hb (ikB p.2.1),.hb (getD p.1.1 p.2.1).isSome,.hb (Lw ((getD p.1.1 p.2.1).getD .none))],[.hb true,.hb true,.hb true])
   olen:=fun z z=>rfl
   code:=fun I p=>.call (.builtin "dict.__getitem__") ⟨[.ref (ad I 0),.int p.1.1 p.1.2],[]⟩
   pre:=fun z p=>[uN p.2.1 p.2.2]
   post:=fun z z p=>[uN p.2.1 p.2.2]
   res:=fun z z p=>.ref (i8 ((getD p.1.1 p.2.1).getD .none))
   len:=fun z z z=>rfl
   ok:=fun p I a z=>by
    obtain ⟨f,a⟩:=aU a
    obtain ⟨e,a⟩:=aU a
    obtain ⟨d,-⟩:=aU a
    obtain ⟨v,hv⟩:=lw.mp e
    have b:(getD p.1.1 p.2.1).getD .none=v:=by rw [hv];rfl
    rw [b] at d
    have:=iX (w:=w) (top:=top) I p.2.1 p.2.2 p.1.1 p.1.2 v f hv
    have h5:Value.ref (i8 ((getD p.1.1 p.2.1).getD .none))=v:=by rw [b,← F3 d]
    rw [h5]
    exact this }
def j4 (s:Str):Bool:=eqS s (sv J30) || eqS s (sv J59)
theorem bp {a b:Str} (h:eqS a b=true):a=b:=by
 unfold eqS at h
 rw [tN] at h
 cases a with | mk a=>cases b with | mk b=>
 cases a with | mk a=>cases b with | mk b=>
 have:a=b:=by simpa using h
 rw [this]
theorem ES {s:Str} (h:j4 s=true):s=sv J30∨s=sv J59:=by
 unfold j4 at h
 rcases Bool.or_eq_true_iff.mp h with h | h
 · exact .inl (bp h)
 · exact .inr (bp h)
def aaL (s:Str):Bool:=eqS (sv J47) s || (eqS (sv J82) s || false)
theorem NO (P:Params):tg (ac P) 647=some { cls:=.type "tuple",dict:=none,data:=.seq ⟨[.str (sv J47) 1139,.str (sv J82) 1140]⟩ 0,slots:=#[] }:=by kernel_rfl
def d9 (w:World):LC w (ac w.params):=PL.toLC
 { P:=Str × Nat
   fs:=[]
   qt:=0
   it:=0
   need:=3
   ext:=fun c os=>(aD (ax c 1),ak (ax c 1))
   obl:=fun z p=>([],[])
   olen:=fun z z=>rfl
   code:=fun I p=>.call (.builtin "tuple.__contains__") ⟨[.ref 647,.str p.1 p.2],[]⟩
   pre:=fun z p=>[]
   post:=fun z z p=>[]
   res:=fun z z p=>.bool (aaL p.1)
   len:=fun z z z=>rfl
   ok:=fun p I n z=>by
    intro A R i g d tk os q l hb m K
    have f:=l 647 _ (NO w.params)
    refine ya alF.plain F.entry_tuple_contains (alF.check _ _ _ _ _ _ _ _ ⟨_,f,rfl⟩ (F.args_tuple_contains_2 _ _) ?_)
    refine MeetsSeq2.tuple_contains 647 _ 0 (.str p.1 p.2) (zv p.1) (fun y k=>?_) prog w A R _ ⟨f,?_⟩
    · have h:Kp [.str (sv J47) 1139,.str (sv J82) 1140]=true:=rfl
      obtain ⟨x,t,rfl⟩:=kJ h y (Jt.mpr k)
      exact alN x p.1 t p.2
    · have key:=K I (fun z=>0) i tk (fun z z=>rfl) m (fun a j=>.inl j) (fun b o e hn=>e) (ai _)
      have e:(⟨[.str (sv J47) 1139,.str (sv J82) 1140]⟩:Array Value).any (zv p.1)=aaL p.1:=by
       rw [← alx,← mZ];rfl
      rw [e]
      exact key }
def wS (P:Params) (p:Raw) (I:ae8):List Obj:=[jB p 0 230]
def GH (J:WB):List (SG J):=smS ([]:CL J)
def Ss (P:Params):aq Raw:=⟨1,0,0,0,2,253,false,[0],[],(by walk_at "#e42nNi:o2"),(fun p I=>.code (.call (.ref 681) ⟨[.ref (ad I 0)],[]⟩:Code)),wS P,(fun p=>none),fun p I O=>.ret (Value.none:Value),(fun p I O=>[uF (wS P p I) 0]),(fun p I O=>none),(fun p I O=>[]),(fun p I O=>[])⟩
theorem Ev (J:WB) (p:Raw):(Ss J.p).Runs J.w J.t (GH J) p:=S4
def RN (J:WB):LG J:=aq.toPL2 (GH J) (Ss J.p) [.arg 0] (Ev J)
def pJ (P:Params) (p:Raw) (I:ae8):List Obj:=[aw 256 (ad I 1),dH P p 1]
def JZ (J:WB):List (SG J):=smS ([]:CL J)
def Sn (P:Params):aq Raw:=⟨2,0,0,0,2,69,false,[0,1],[],(by walk_at "#%dYmE$'e`$?e$"),(fun p I=>.code (.call (.ref 681) ⟨[.ref (ad I 0)],[]⟩:Code)),pJ P,(fun p=>none),fun p I O=>.ret (Value.str (aD (vN p 1 5)) (ak (vN p 1 5)):Value),(fun p I O=>[uF (pJ P p I) 0,uF (pJ P p I) 1]),(fun p I O=>none),(fun p I O=>[]),(fun p I O=>[])⟩
theorem Fq (J:WB) (p:Raw):(Sn J.p).Runs J.w J.t (JZ J) p:=S4
def Tm (J:WB):LG J:=aq.toPL2 (JZ J) (Sn J.p) [.arg 0,.dict 0] (Fq J)
def vn (P:Params) (p:Raw) (I:ae8):List Obj:=[jB p 0 230]
def HP (J:WB):List (SG J):=smS ([]:CL J)
def alk (P:Params):aq Raw:=⟨1,0,0,0,2,248,false,[0],[],(by walk_at "#f[nNi:o2"),(fun p I=>.code (.call (.ref 688) ⟨[.ref (ad I 0)],[]⟩:Code)),vn P,(fun p=>none),fun p I O=>.ret (Value.none:Value),(fun p I O=>[uF (vn P p I) 0]),(fun p I O=>none),(fun p I O=>[]),(fun p I O=>[])⟩
theorem Ei (J:WB) (p:Raw):(alk J.p).Runs J.w J.t (HP J) p:=S4
def tP (J:WB):LG J:=aq.toPL2 (HP J) (alk J.p) [.arg 0] (Ei J)
def o5 (P:Params) (p:Raw) (I:ae8):List Obj:=[aw 256 (ad I 1),dH P p 1]
def Hy (J:WB):List (SG J):=smS ([]:CL J)
def Ur (P:Params):aq Raw:=⟨2,0,0,0,2,248,false,[0,1],[],(by walk_at "##Kh>g7ngngngB"),(fun p I=>.code (.call (.ref 688) ⟨[.ref (ad I 0)],[]⟩:Code)),o5 P,(fun p=>none),fun p I O=>.ret (Value.none:Value),(fun p I O=>[uF (o5 P p I) 0,uF (o5 P p I) 1]),(fun p I O=>none),(fun p I O=>[]),(fun p I O=>[])⟩
theorem Dn (J:WB) (p:Raw):(Ur J.p).Runs J.w J.t (Hy J) p:=S4
def tz (J:WB):LG J:=aq.toPL2 (Hy J) (Ur J.p) [.arg 0,.dict 0] (Dn J)
def wY (P:Params) (p:Raw) (I:ae8):List Obj:=[jB p 0 230]
def I6 (J:WB):List (SG J):=smS ([]:CL J)
def Ro (P:Params):aq Raw:=⟨1,0,0,0,2,191,false,[0],[],(by walk_at "#f[nNo2"),(fun p I=>.code (.call (.ref 695) ⟨[.ref (ad I 0)],[]⟩:Code)),wY P,(fun p=>none),fun p I O=>.ret (Value.none:Value),(fun p I O=>[uF (wY P p I) 0]),(fun p I O=>none),(fun p I O=>[]),(fun p I O=>[])⟩
theorem DO (J:WB) (p:Raw):(Ro J.p).Runs J.w J.t (I6 J) p:=S4
def uw (J:WB):LG J:=aq.toPL2 (I6 J) (Ro J.p) [.arg 0] (DO J)
def pf (P:Params) (p:Raw) (I:ae8):List Obj:=[aw 256 (ad I 1),dH P p 1]
def Hh (J:WB):List (SG J):=smS ([]:CL J)
def RZ (P:Params):aq Raw:=⟨2,0,0,0,2,64,false,[0,1],[],(by walk_at "##KmE$'e`$?e$"),(fun p I=>.code (.call (.ref 695) ⟨[.ref (ad I 0)],[]⟩:Code)),pf P,(fun p=>none),fun p I O=>.ret (Value.str (aD (vN p 1 6)) (ak (vN p 1 6)):Value),(fun p I O=>[uF (pf P p I) 0,uF (pf P p I) 1]),(fun p I O=>none),(fun p I O=>[]),(fun p I O=>[])⟩
theorem DU (J:WB) (p:Raw):(RZ J.p).Runs J.w J.t (Hh J) p:=S4
def tM (J:WB):LG J:=aq.toPL2 (Hh J) (RZ J.p) [.arg 0,.dict 0] (DU J)
def AT (J:WB):List (SG J):=smS ([(isR 688 1,tP J),(isR 695 1,uw J)]:CL J)
def IN (P:Params):aq Raw:=⟨2,0,0,1,4,159,false,[0,1],[5],(by walk_at "#dl#>B>Cm$dPg:m*nhnhnh,#>.$"),(fun p I=>.code (.call (.ref 717) ⟨[.ref (ad I 0),.ref (ad I 1)],[]⟩:Code)),(fun p I=>[jB p 0 230,jB p 1 230]),(fun p=>none),fun p I O=>.ret (Value.str (sv J30) (O 0):Value),(fun p I O=>[Obj.mk (Value.ref 230) (some (Option.getD (some (Option.getD (some (Option.getD (Obj.dict (uF p.os 0)) 0)) 0)) 0)) Data.plain (Array.mk []),Obj.mk (Value.ref 230) (some (Option.getD (some (Option.getD (some (Option.getD (Obj.dict (uF p.os 1)) 0)) 0)) 0)) Data.plain (Array.mk [])]),(fun p I O=>none),(fun p I O=>[]),(fun p I O=>[])⟩
theorem zj (J:WB) (p:Raw):(IN J.p).Runs J.w J.t (AT J) p:=SX (fun J=>(IN J.p)) (fun J=>(AT J)) J p
def ML (J:WB):LG J:=aq.toPL2 (AT J) (IN J.p) [.arg 0,.arg 1] (zj J)
def jY (P:Params) (p:Raw) (I:ae8):List Obj:=[jB p 0 230,aw 256 (ad I 2),BV P p 2 J30]
def vk (J:WB):List (SG J):=smS ([(isR 688 1,tP J),(isR 688 1,tz J),(isR 695 1,uw J),(isR 695 1,tM J)]:CL J)
def yk (P:Params):aq Raw:=⟨3,0,0,0,4,166,false,[0,1,2],[],aew,(fun p I=>.code (.call (.ref 717) ⟨[.ref (ad I 0),.ref (ad I 1)],[]⟩:Code)),jY P,(fun p=>none),fun p I O=>.ret (Value.str (sv J30) (ak (vN p 2 6)):Value),(fun p I O=>[Obj.mk (Value.ref 230) (some (Option.getD (some (Option.getD (some (Option.getD (Obj.dict (uF p.os 0)) 0)) 0)) 0)) Data.plain (Array.mk []),uF (jY P p I) 1,uF (jY P p I) 2]),(fun p I O=>none),(fun p I O=>[]),(fun p I O=>[])⟩
theorem w4 (J:WB) (p:Raw):(yk J.p).Runs J.w J.t (vk J) p:=SX (fun J=>(yk J.p)) (fun J=>(vk J)) J p
def KY (J:WB):LG J:=aq.toPL2 (vk J) (yk J.p) [.arg 0,.arg 1,.dict 1] (w4 J)
def jZ (P:Params) (p:Raw) (I:ae8):List Obj:=[jB p 0 230,aw 256 (ad I 2),BV P p 2 J59]
def xl (J:WB):List (SG J):=smS ([(isR 688 1,tP J),(isR 688 1,tz J),(isR 695 1,uw J),(isR 695 1,tM J)]:CL J)
def zS (P:Params):aq Raw:=⟨3,0,0,0,4,166,false,[0,1,2],[],aew,(fun p I=>.code (.call (.ref 717) ⟨[.ref (ad I 0),.ref (ad I 1)],[]⟩:Code)),jZ P,(fun p=>none),fun p I O=>.ret (Value.str (sv J59) (ak (vN p 2 6)):Value),(fun p I O=>[Obj.mk (Value.ref 230) (some (Option.getD (some (Option.getD (some (Option.getD (Obj.dict (uF p.os 0)) 0)) 0)) 0)) Data.plain (Array.mk []),uF (jZ P p I) 1,uF (jZ P p I) 2]),(fun p I O=>none),(fun p I O=>[]),(fun p I O=>[])⟩
theorem vY (J:WB) (p:Raw):(zS J.p).Runs J.w J.t (xl J) p:=SX (fun J=>(zS J.p)) (fun J=>(xl J)) J p
def Hg (J:WB):LG J:=aq.toPL2 (xl J) (zS J.p) [.arg 0,.arg 1,.dict 1] (vY J)
def akH (P:Params) (p:Raw) (I:ae8):List Obj:=[aw 256 (ad I 1),dH P p 1,jB p 2 230]
def AP (J:WB):List (SG J):=smS ([(isR 688 1,tP J),(isR 688 1,tz J),(isR 695 1,uw J),(isR 695 1,tM J)]:CL J)
def F9 (P:Params):aq Raw:=⟨3,0,0,0,4,133,false,[0,1,2],[],(by walk_at "##Nlfhx4XU#nWj=I#e^Ej'ktktkq"),(fun p I=>.code (.call (.ref 717) ⟨[.ref (ad I 0),.ref (ad I 2)],[]⟩:Code)),akH P,(fun p=>none),fun p I O=>.ret (Value.str (aD (vN p 1 6)) (ak (vN p 1 6)):Value),(fun p I O=>[uF (akH P p I) 0,uF (akH P p I) 1,Obj.mk (Value.ref 230) (some (Option.getD (some (Option.getD (Obj.dict (uF p.os 2)) 0)) 0)) Data.plain (Array.mk [])]),(fun p I O=>none),(fun p I O=>[]),(fun p I O=>[])⟩
theorem yN (J:WB) (p:Raw):(F9 J.p).Runs J.w J.t (AP J) p:=SX (fun J=>(F9 J.p)) (fun J=>(AP J)) J p
def N6 (J:WB):LG J:=aq.toPL2 (AP J) (F9 J.p) [.arg 0,.dict 0,.arg 1] (yN J)
def gB (P:Params) (p:Raw) (I:ae8):List Obj:=[aw 256 (ad I 1),dH P p 1,aw 256 (ad I 3),dH P p 3]
def A7 (J:WB):List (SG J):=smS ([(isR 688 1,tz J),(isR 695 1,tM J)]:CL J)
def KC (P:Params):aq Raw:=⟨4,0,0,0,4,133,false,[0,1,2,3],[],(by walk_at "##em#ePJePUf0ePhx$dfE,j>o'i>o'i>o'em"),(fun p I=>.code (.call (.ref 717) ⟨[.ref (ad I 0),.ref (ad I 2)],[]⟩:Code)),gB P,(fun p=>none),fun p I O=>.ret (Value.str (aD (vN p 1 6)) (ak (vN p 1 6)):Value),(fun p I O=>[uF (gB P p I) 0,uF (gB P p I) 1,uF (gB P p I) 2,uF (gB P p I) 3]),(fun p I O=>none),(fun p I O=>[]),(fun p I O=>[])⟩
theorem akS (J:WB) (p:Raw):(KC J.p).Runs J.w J.t (A7 J) p:=SX (fun J=>(KC J.p)) (fun J=>(A7 J)) J p
def LN (J:WB):LG J:=aq.toPL2 (A7 J) (KC J.p) [.arg 0,.dict 0,.arg 1,.dict 2] (akS J)
def akq (v:VK) (J:WB):List (SG J):=smS (LLp J:CL J)
noncomputable def akr:VK→List Nat
 | .n=>(by walk_at "#os'*")
 | .i=>(by walk_at "#osjK")
 | .s=>(by walk_at "#osn9")
def xk (v:VK) (P:Params):aq Raw:=akt.spec ((⟨4,1,0,3,62,146,false,[0,1,2,3,5],[5,6,7],akr v⟩:akt) ) (fun p I=>.code (.call (.ref 753) ⟨[.ref (ad I 0),.ref (ad I 2),aI p.c 2],[]⟩:Code)) (fun p I=>[aw 1063 (ad I 1),iD P p 1,aw 230 (ad I 3),aE [dF P J2 (kT p 3 0) (v.as (vN p 3 0))] 1]) (fun p=>some (aj p.X)) (fun p I O=>.ret (.int (am (ax p.c 2)) (ak (ax p.c 2)):Value)) (fun p I O=>[aw 1063 (ad I 1),iD P p 1,aw 230 (ad I 3),aE [dF P J2 (kT p 3 0) (v.as (vN p 3 0))] 1]) (fun p I O=>some (aa.add (aj p.X) (ad I 4,ab ⟨[.str (sv J10) (O 0),.int 0 (O 1),.int (am (ax p.c 2)) (ak (ax p.c 2)),.int 0 (O 2),v.as (vN p 3 0)]⟩ 0))) (fun p I O=>[.hb (Nat.ble (aj p.X).n 1000000)]) (fun p I O=>[.hb true])
theorem akf (v:VK) (J:WB) (p:Raw):(xk v J.p).Runs J.w J.t (akq v J) p:=amM eVK (fun v J=>xk v J.p) (fun v J=>akq v J) v J p
def aks (v:VK) (J:WB):LG J:=aq.toLC2 (akq v J) (xk v J.p) [.arg 0,.dict 0,.arg 1,.dict 2] (akf v J)
def kj (P:Params) (p:Raw) (I:ae8):List Obj:=[aw 1063 (ad I 1),qi P p 1 (ad I 4),aw 256 (ad I 3),xG P p 3,uN [⟨4,.int 4 (ak (abi (uF p.os 4) 0)),.ref (ad I 5)⟩] 1,aO [.str (sv J77) (ak (vN p 5 0)),.int 1 (ak (vN p 5 1))]]
def VI (J:WB):List (SG J):=smS ((isB "dict.__contains__",(nq _ _ true).toLC) :: (isB "dict.__getitem__",MU _ _) :: LLp J:CL J)
def xn (P:Params):aq Raw:=⟨6,1,0,3,64,705,false,[0,1,2,3,4,5,13],[32,34,35],(by walk_at "#%k|PknmE>h;h;?>h|,mE>h;h;?>h|,h>oU,htIer,h&h&dx%YoUoU,-m(m(3ht3Fdd#eHn=lmn=lmn=E0@9m(-juht1Fdde0E0e]0e0Edhnldwnldwnli8i|l$1g'Zg8,"),(fun p I=>.code (.call (.ref 753) ⟨[.ref (ad I 0),.ref (ad I 2),aI p.c 2],[]⟩:Code)),kj P,(fun p=>some (aj p.X)),fun p I O=>.ret (Value.int (am (ax p.c 2)) (ak (ax p.c 2)):Value),(fun p I O=>[uF (kj P p I) 0,uF (kj P p I) 1,uF (kj P p I) 2,uF (kj P p I) 3,uF (kj P p I) 4,uF (kj P p I) 5]),(fun p I O=>some (aa.mk (aa.p (aj p.X)) (aa.d (aj p.X)) (aa.o (aj p.X)) (aa.l (aj p.X)) (aa.c (aj p.X)) (aa.tk (aj p.X)) (aa.regs (aj p.X)) (aa.tr (aj p.X)) (aa.curs (aj p.X)) (aa.tc (aj p.X)) (aa.slots (aj p.X)) (aa.ts (aj p.X)) (aa.next (aj p.X)) (aa.tn (aj p.X)) (aa.e (aj p.X) + 1) (aa.ops (aj p.X)++[(ad I 6,Obj.mk (Value.type "list") none (Data.seq (Array.mk [Value.str (sv J22) (O 0),Value.int (Int.ofNat 1) (O 1),Value.int (am (ax p.c 2)) (ak (ax p.c 2)),Value.int (Int.ofNat 1) (O 2),Value.none]) 0) (Array.mk []))]) (aa.labels (aj p.X)) (aa.le (aj p.X)) (aa.n (aj p.X) + 1) (aa.xt (aj p.X)) (by first | rfl | (simp [aa.hn]<;>lia)))),(fun p I O=>[OV.hb (Nat.ble (aa.n (aj p.X)) 1000000),OV.hb true,OV.hb true,OV.hb true,OV.hb true,OV.hb true,OV.hb true,OV.hb true,OV.hb true]),(fun p I O=>hT 9)⟩
theorem Mj (J:WB) (p:Raw):(xn J.p).Runs J.w J.t (VI J) p:=SX (fun J=>(xn J.p)) (fun J=>(VI J)) J p
def acb (J:WB):LG J:=aq.toLC2 (VI J) (xn J.p) [.arg 0,.dict 0,.arg 1,.dict 2,.ent 1 1,.ent 4 0] (Mj J)
section
open PySem PySem.W
def isX (c:Code):Bool:=isR 753 3 c && Nat.ble 8 (ba (ax c 2))
end
def n6 (P:Params) (p:Raw) (I:ae8):List Obj:=[aw 1063 (ad I 1),iD P p 1]
def GL (J:WB):List (SG J):=smS (LLp J:CL J)
def T9 (P:Params):aq Raw:=⟨2,1,0,3,62,91,false,[0,1,3],[4,5,6],(by walk_at "#dldYl$j)"),(fun p I=>.code (.call (.ref 802) ⟨[.ref (ad I 0),aI p.c 1,.bool true],[]⟩:Code)),n6 P,(fun p=>some (aj p.X)),fun p I O=>.ret (Value.none:Value),(fun p I O=>[uF (n6 P p I) 0,uF (n6 P p I) 1]),(fun p I O=>some (aa.mk (aa.p (aj p.X)) (aa.d (aj p.X)) (aa.o (aj p.X)) (aa.l (aj p.X)) (aa.c (aj p.X)) (aa.tk (aj p.X)) (aa.regs (aj p.X)) (aa.tr (aj p.X)) (aa.curs (aj p.X)) (aa.tc (aj p.X)) (aa.slots (aj p.X)) (aa.ts (aj p.X)) (aa.next (aj p.X)) (aa.tn (aj p.X)) (aa.e (aj p.X) + 1) (aa.ops (aj p.X)++[(ad I 2,Obj.mk (Value.type "list") none (Data.seq (Array.mk [Value.str (sv J38) (O 0),Value.int (am (ax p.c 1)) (ak (ax p.c 1)),Value.int (am (ax p.c 1)) (ak (ax p.c 1)),Value.int (Int.ofNat 0) (O 1),Value.str (sv ahk) (O 2)]) 0) (Array.mk []))]) (aa.labels (aj p.X)) (aa.le (aj p.X)) (aa.n (aj p.X) + 1) (aa.xt (aj p.X)) (by first | rfl | (simp [aa.hn]<;>lia)))),(fun p I O=>[OV.hb (Nat.ble (aa.n (aj p.X)) 1000000)]),(fun p I O=>[OV.hb true])⟩
theorem Fj (J:WB) (p:Raw):(T9 J.p).Runs J.w J.t (GL J) p:=S4
def Tk (J:WB):LG J:=aq.toLC2 (GL J) (T9 J.p) [.arg 0,.dict 0] (Fj J)
def nG (P:Params) (p:Raw) (I:ae8):List Obj:=[aw 1063 (ad I 1),iD P p 1]
def IX (p:Raw):XT:=some (aj p.X)
def GU (J:WB):List (SG J):=smS (LLp J:CL J)
def R3 (P:Params):aq Raw:=⟨2,0,0,0,2,31,false,[0,1],[],[0,5,5,5,5,5,5,5],(fun p I=>.code (.call (.ref 802) ⟨[.ref (ad I 0),aI p.c 1,.bool false],[]⟩:Code)),nG P,IX,fun p I O=>.ret (Value.none:Value),(fun p I O=>[uF (nG P p I) 0,uF (nG P p I) 1]),(fun p I O=>IX p),(fun p I O=>[]),(fun p I O=>[])⟩
theorem Ew (J:WB) (p:Raw):(R3 J.p).Runs J.w J.t (GU J) p:=S4
def Ui (J:WB):LG J:=aq.toLC2 (GU J) (R3 J.p) [.arg 0,.dict 0] (Ew J)
def F6 (b:Bool) (v:Value) (a t:ae8):XL:=match b with
 | true=>[(ad a 0,row J38 (t 0) v v (.int 0 (t 1)) (.str (sv ahk) (t 2)))]
 | false=>[]
theorem C6 (S:aa):iF S 0 S.tr [] []=S:=by
 cases S
 simp [iF]
theorem KV (S:aa) (x:Addr × Obj):iF S 0 S.tr [x] []=S.add x:=by
 cases S
 simp [iF,aa.add]
def RX (J:WB):LG J where
 P:=Raw
 fs:=[.arg 0,.dict 0]
 qt:=0
 q:=1
 it:=3
 need:=63
 ext:=Raw.mk
 obl _ p:=([.hb (Nat.ble (aj p.X).n 1000000)],[.hb true])
 code I p:=.call (.ref 802) ⟨[.ref (ad I 0),aI p.c 1,.bool (pF (ax p.c 2))],[]⟩
 pre I p:=[aw 1063 (ad I 1),iD J.p p 1]
 preX p:=some (aj p.X)
 post I O p:=[aw 1063 (ad I 1),iD J.p p 1]
 postX I O p:=some (iF (aj p.X) 0 (aj p.X).tr (F6 (pF (ax p.c 2)) (aI p.c 1) (fl (flt I 2 1)) (fl (flt O 0 3))) [])
 res _ _ _:=.none
 qle:=Bt _
 olen _ _:=rfl
 len _ _ _:=rfl
 ok p I hc _:=by
  cases hb:pF (ax p.c 2) with
  | true=>
   have H:=(Tk J).ok p I hc rfl
   refine HTx.conv (nx:=false) H (ag rfl) (b6 _) id id fun I' O' a=>⟨a,rfl,fv ?_⟩
   show _=_++uU _ (some (iF _ 0 _ [_] []))
   rw [KV]
   rfl
  | false=>
   have H:=(Ui J).ok p I rfl rfl
   refine HTx.conv (nx:=false) H (ag rfl) (b6 _) id id fun I' O' a=>⟨a,rfl,fv ?_⟩
   show _=_++uU _ (some (iF _ 0 _ [] []))
   rw [C6]
   rfl
def MG (J:WB):LG J where
 P:=Raw
 fs:=[.arg 0,.arg 1,.dict 1]
 qt:=0
 q:=0
 it:=0
 need:=10
 ext:=Raw.mk
 obl _ p:=([.hb (j4 (aD (vN p 2 6)))],[.hb true])
 code I p:=.call (.ref 717) ⟨[.ref (ad I 0),.ref (ad I 1)],[]⟩
 pre I p:=[jB p 0 230,aw 256 (ad I 2),dH J.p p 2]
 preX p:=p.X
 post I O p:=[jB p 0 230,aw 256 (ad I 2),dH J.p p 2]
 postX I O p:=p.X
 res _ _ p:=vS p 2 6
 qle:=ai _
 olen _ _:=rfl
 len _ _ _:=rfl
 ok p I hc _:=by
  have h:=ES (hb1 hc)
  have key:∀ l:List Nat,aD (vN p 2 6)=sv l→dH J.p p 2=BV J.p p 2 l:=fun l e=>by
   unfold dH BV vS
   rw [e]
  rcases h with h | h
  · have H:=(KY J).ok p I rfl rfl
    rw [show vS p 2 6=.str (sv J30) (ak (vN p 2 6)) by unfold vS;rw [h],key _ h]
    exact HTx.conv (nx:=false) H (ag rfl) (b6 _) id id fun I' O' a=>⟨a,rfl,fv rfl⟩
  · have H:=(Hg J).ok p I rfl rfl
    rw [show vS p 2 6=.str (sv J59) (ak (vN p 2 6)) by unfold vS;rw [h],key _ h]
    exact HTx.conv (nx:=false) H (ag rfl) (b6 _) id id fun I' O' a=>⟨a,rfl,fv rfl⟩
def abZ (J:WB):LG J where
 P:=Raw
 fs:=[.arg 0,.dict 0,.arg 1,.dict 2]
 qt:=0
 q:=1
 it:=3
 need:=63
 ext:=Raw.mk
 obl _ p:=([.hb (kindOf (vN p 3 0)).isSome,.hb (Nat.ble (aj p.X).n 1000000)],[.hb true,.hb true])
 code I p:=.call (.ref 753) ⟨[.ref (ad I 0),.ref (ad I 2),aI p.c 2],[]⟩
 pre I p:=[aw 1063 (ad I 1),iD J.p p 1,aw 230 (ad I 3),aE [dF J.p J2 (kT p 3 0) (vN p 3 0)] 1]
 preX p:=some (aj p.X)
 post I O p:=[aw 1063 (ad I 1),iD J.p p 1,aw 230 (ad I 3),aE [dF J.p J2 (kT p 3 0) (vN p 3 0)] 1]
 postX I O p:=some ((aj p.X).add (ad I 4,row J10 (O 0) (.int 0 (O 1)) (aI p.c 2) (.int 0 (O 2)) (vN p 3 0)))
 res _ _ p:=aI p.c 2
 qle:=Bt _
 olen _ _:=rfl
 len _ _ _:=rfl
 ok p I a _:=by
  obtain ⟨d,a⟩:=aU a
  obtain ⟨k,hk⟩:=lw.mp d
  have hv:=VK.eq (akI hk)
  have H:=(aks k J).ok p I a rfl
  refine HTx.conv (nx:=false) H (by cases k<;>exact ag rfl) (fv ?_) id id fun I' O' b=>⟨b,rfl,fv ?_⟩
  · show tc I 0 [_,_,_,aE [dF J.p J2 (kT p 3 0) (k.as (vN p 3 0))] 1]++_=_
    rw [← hv];rfl
  · show tc I' 0 [_,_,_,aE [dF J.p J2 (kT p 3 0) (k.as (vN p 3 0))] 1]++uU _ (some ((aj p.X).add (_,ab ⟨[_,_,_,_,k.as (vN p 3 0)]⟩ 0)))=_
    rw [← hv];rfl
def m9 (w:World) (top:Tr) (k:VK):LC w top:=PL.toLC
 { P:=(Int × Nat) × List DictEntry × Nat
   fs:=[.arg 0]
   qt:=0
   it:=0
   need:=3
   ext:=fun c os=>((am (ax c 1),ak (ax c 1)),f8 os)
   obl:=fun z p=>([.hb (ikB p.2.1),.hb (k.is ((getD p.1.1 p.2.1).getD .none))],[.hb true,.hb true])
   olen:=fun z z=>rfl
   code:=fun I p=>.call (.builtin "dict.get") ⟨[.ref (ad I 0),.int p.1.1 p.1.2],[]⟩
   pre:=fun z p=>[uN p.2.1 p.2.2]
   post:=fun z z p=>[uN p.2.1 p.2.2]
   res:=fun z z p=>k.as ((getD p.1.1 p.2.1).getD .none)
   len:=fun z z z=>rfl
   ok:=fun p I b z=>by
    obtain ⟨a,d⟩:=hb2 b
    have:=tQ (w:=w) (top:=top) I p.2.1 p.2.2 p.1.1 p.1.2 a
    rw [VK.eq d] at this
    exact this }
def Oq (w:World) (top:Tr):LC w top:=PL.toLC
 { P:=((Int × Nat) × Int × Nat) × List DictEntry × Nat
   fs:=[.arg 0]
   qt:=0
   it:=0
   need:=3
   ext:=fun c os=>(((am (ax c 1),ak (ax c 1)),(am (ax c 2),ak (ax c 2))),f8 os)
   obl:=fun z p=>([.hb (ikB p.2.1),.hb (VK.i.is ((getD p.1.1.1 p.2.1).getD (.int p.1.2.1 p.1.2.2)))],[.hb true,.hb true])
   olen:=fun z z=>rfl
   code:=fun I p=>.call (.builtin "dict.get") ⟨[.ref (ad I 0),.int p.1.1.1 p.1.1.2,.int p.1.2.1 p.1.2.2],[]⟩
   pre:=fun z p=>[uN p.2.1 p.2.2]
   post:=fun z z p=>[uN p.2.1 p.2.2]
   res:=fun z z p=>VK.i.as ((getD p.1.1.1 p.2.1).getD (.int p.1.2.1 p.1.2.2))
   len:=fun z z z=>rfl
   ok:=fun p I b z=>by
    obtain ⟨a,d⟩:=hb2 b
    have:=JJ (w:=w) (top:=top) I p.2.1 p.2.2 p.1.1.1 p.1.1.2 (.int p.1.2.1 p.1.2.2) a
    rw [VK.eq d] at this
    exact this }
def jk (w:World) (top:Tr):LC w top:=PL.toLC
 { P:=(Int × Nat) × List DictEntry × Nat
   fs:=[.arg 0]
   qt:=0
   it:=0
   need:=3
   ext:=fun c os=>((am (ax c 1),ak (ax c 1)),f8 os)
   obl:=fun z p=>([.hb (ikB p.2.1),.hb (getD p.1.1 p.2.1).isSome,.hb (VK.i.is ((getD p.1.1 p.2.1).getD .none))],[.hb true,.hb true,.hb true])
   olen:=fun z z=>rfl
   code:=fun I p=>.call (.builtin "dict.__getitem__") ⟨[.ref (ad I 0),.int p.1.1 p.1.2],[]⟩
   pre:=fun z p=>[uN p.2.1 p.2.2]
   post:=fun z z p=>[uN p.2.1 p.2.2]
   res:=fun z z p=>VK.i.as ((getD p.1.1 p.2.1).getD .none)
   len:=fun z z z=>rfl
   ok:=fun p I a z=>by
    obtain ⟨f,a⟩:=aU a
    obtain ⟨e,a⟩:=aU a
    obtain ⟨d,-⟩:=aU a
    obtain ⟨v,hv⟩:=lw.mp e
    have b:(getD p.1.1 p.2.1).getD .none=v:=by rw [hv];rfl
    rw [b] at d
    have:=iX (w:=w) (top:=top) I p.2.1 p.2.2 p.1.1 p.1.2 v f hv
    have h5:VK.i.as ((getD p.1.1 p.2.1).getD .none)=v:=by rw [b,← VK.eq d]
    rw [h5]
    exact this }
def rnC (it f:Nat):Code:=cu (br (mH (at1 65):List Stmt) 1) (.ref it) (⟨bf (at1 65),f,3,[],sv [95,108,97,119,95,114,117,110,46,60,108,111,99,97,108,115,62,46],some 1133,.ref 1132,some f,0⟩:Env)
structure SVm where
 es:List DictEntry
 he:Nat
 ss:List DictEntry
 se:Nat
 oc:List DictEntry
 oe:Nat
 xs:Array Value
 xe:Nat
 i:Nat
 r:Nat
 pc:Nat
 tn:Value
 o:Nat
 a:Int
 b:Int
 c:Int
 v:Value
 ys:Array Value
 ye:Nat
 s:Str
 t:Nat→Tok
noncomputable def SVm.stand:SVm:=⟨[],0,[],0,[],0,#[],0,0,0,0,.none,0,0,0,0,.none,#[],0,⟨#[]⟩,fun z=>0⟩
inductive VO where
 | fN [h:Nonempty Nat] | fI | fS | vN | vI | vS | null | cpN | cpI | cpS | addi | mkN | mkI | mkS | unN | unI | goto | gosub | ret | isT | isF | isG | onT | onF
noncomputable def eVO:Enu VO:=⟨[.fN,.fI,.fS,.vN,.vI,.vS,.null,.cpN,.cpI,.cpS,.addi,.mkN,.mkI,.mkS,.unN,.unI,.goto,.gosub,.ret,.isT,.isF,.isG,.onT,.onF],tB (@VO.rec (fun z=>Nat) 0 1 2 3 4 5 6 7 8 9 10 11 12 13 14 15 16 17 18 19 20 21 22 23) (by intro v;cases v<;>rfl)⟩
noncomputable def VO.first:VO→Bool
 | .fN=>true
 | .fI=>true
 | .fS=>true
 | _=>false
def VO.nm:VO→List Nat
 | .null=>J54
 | .cpN=>J22
 | .cpI=>J22
 | .cpS=>J22
 | .addi=>J69
 | .mkN=>J41
 | .mkI=>J41
 | .mkS=>J41
 | .unN=>J38
 | .unI=>J38
 | .goto=>J39
 | .gosub=>J48
 | .ret=>J23
 | .isT=>J34
 | .isF=>J34
 | .isG=>J34
 | .onT=>J44
 | .onF=>J44
 | _=>J10
def VO.v4:VO→Value→Value
 | .fI,v=>VK.i.as v
 | .fS,v=>VK.s.as v
 | .vI,v=>VK.i.as v
 | .vS,v=>VK.s.as v
 | .unN,v=>VK.s.as v
 | .unI,v=>VK.s.as v
 | _,_=>.none
def frV (P:Params) (p:SVm) (f:Bool) (I:ae8):List DictEntry:=[dF P J49 (p.t 0) (.ref (ad I 2)),dF P J21 (p.t 1) (.ref (ad I 4)),dF P J46 (p.t 2) (.int (Int.ofNat p.pc) (p.t 3)),dF P J81 (p.t 4) (.ref (ad I 6)),dF P J65 (p.t 5) (.ref (ad I 5))] ++
 (match f with | true=>[] | false=>[dF P J70 (p.t 6) p.tn,dF P J8 (p.t 7) (.ref p.o)])
noncomputable def VO.ep:VO→Nat
 | .fN=>5
 | .fI=>5
 | .fS=>5
 | _=>7
def ah7 (p:SVm) (n:List Nat) (v:Value):Obj:=row n (p.t 10) (.int p.a (p.t 11)) (.int p.b (p.t 12)) (.int p.c (p.t 13)) v
def vmO (P:Params) (p:SVm) (I:ae8) (f:Bool) (e:Nat) (n:List Nat) (v:Value) (x:List Obj):List Obj:=
 [rgO p.i (p.r + 1),frO (frV P p f I) e,ab p.xs p.xe,ah7 p n v,uN p.es p.he,uN p.ss p.se,uN p.oc p.oe]++x
noncomputable def rgN (i r:Nat):Obj:=⟨.type "range_iterator",none,.fields ⟨[.int (Int.ofNat (i + 1)) 0,.int (Int.ofNat (r + 1) - Int.ofNat 1) 0,.int 1 0]⟩,#[]⟩
theorem ug (i r:Nat):rgN i r=rgO (i + 1) r:=by unfold rgN rgO;rw [db]
def vmP (P:Params) (p:SVm) (I O:ae8) (n:List Nat) (v:Value) (es:List DictEntry) (he:Nat) (ss:List DictEntry) (se:Nat) (oc:List DictEntry) (oe:Nat) (pc:Value) (t6 t7:Tok) (x:List Obj):List Obj:=
 [rgN p.i p.r,frO [dF P J49 (p.t 0) (.ref (ad I 2)),dF P J21 (p.t 1) (.ref (ad I 4)),dF P J46 (p.t 2) pc,dF P J81 (p.t 4) (.ref (ad I 6)),dF P J65 (p.t 5) (.ref (ad I 5)),dF P J70 t6 (.int (Int.ofNat p.i) (O 0)),dF P J8 t7 (.ref (ad I 3))] 7,
  ab p.xs p.xe,ah7 p n v,uN es he,uN ss se,uN oc oe]++x
noncomputable def VO.t6 (v:VO) (p:SVm) (O:ae8):Tok:=match v.first with
 | true=>O 2
 | false=>p.t 6
noncomputable def VO.t7 (v:VO) (p:SVm) (O:ae8):Tok:=match v.first with
 | true=>O 3
 | false=>p.t 7
def VO.put (v:VO) (p:SVm) (O:ae8):Option ((Int × Tok) × Value):=match v with
 | .null=>some ((p.b,p.t 12),.none)
 | .cpN=>some ((p.b,p.t 12),VK.n.as ((getD p.a p.es).getD .none))
 | .cpI=>some ((p.b,p.t 12),VK.i.as ((getD p.a p.es).getD .none))
 | .cpS=>some ((p.b,p.t 12),VK.s.as ((getD p.a p.es).getD .none))
 | .addi=>some ((p.a,p.t 11),.int (am ((getD p.a p.es).getD (.int 0 (O 3))) + p.b) (O 2))
 | .mkN=>some ((p.c,p.t 13),VK.n.as ((getD p.a p.es).getD .none))
 | .mkI=>some ((p.c,p.t 13),VK.i.as ((getD p.a p.es).getD .none))
 | .mkS=>some ((p.c,p.t 13),VK.s.as ((getD p.a p.es).getD .none))
 | .unN=>some ((p.b,p.t 12),.none)
 | .unI=>some ((p.b,p.t 12),.int (1 - am ((getD p.a p.es).getD .none)) (O 2))
 | .gosub=>some ((p.a,p.t 11),.int (Int.ofNat (p.pc + 1)) (O 1))
 | .goto=>none
 | .ret=>none
 | .isT=>none
 | .isF=>none
 | .isG=>none
 | .onT=>none
 | .onF=>none
 | v=>some ((p.b,p.t 12),v.v4 p.v)
def qe (x:Option ((Int × Tok) × Value)) (es:List DictEntry):List DictEntry:=match x with
 | some ((k,t),v)=>cI k t v es
 | none=>es
def sJ (x:Option ((Int × Tok) × Value)) (es:List DictEntry) (e:Nat):Nat:=match x with
 | some ((k,_),_)=>epD k es e
 | none=>e
def VO.pc (v:VO) (p:SVm) (O:ae8):Value:=match v with
 | .goto=>.int p.b (p.t 12)
 | .gosub=>.int p.b (p.t 12)
 | .isT=>.int p.b (p.t 12)
 | .onT=>.int p.b (p.t 12)
 | .ret=>VK.i.as ((getD p.a p.es).getD .none)
 | _=>.int (Int.ofNat (p.pc + 1)) (O 1)
noncomputable def VO.gk:VO→VK
 | .cpN=>.n
 | .mkN=>.n
 | .unN=>.n
 | .isT=>.n
 | .cpS=>.s
 | .mkS=>.s
 | .isG=>.s
 | _=>.i
def VO.once (v:VO) (p:SVm):List DictEntry:=match v with
 | .onT=>cI p.a (p.t 11) (.bool true) p.oc
 | .onF=>cI p.a (p.t 11) (.bool true) p.oc
 | _=>p.oc
def VO.oncE (v:VO) (p:SVm):Nat:=match v with
 | .onT=>epD p.a p.oc p.oe
 | .onF=>epD p.a p.oc p.oe
 | _=>p.oe
def jS (p:SVm):List OV:=[.hb (inB p.xs (Int.ofNat p.pc)),.hv (ae p.xs (Int.toNat (Int.ofNat p.pc))),.hb (inB p.xs (Int.ofNat p.pc)),.hv (ae p.xs (Int.toNat (Int.ofNat p.pc))),.hb (geI (Int.ofNat p.pc) (Int.ofNat p.xs.size)),.hb (Nat.ble p.xs.size 16777216)]
noncomputable def kg (I:ae8):List OV:=[.hb true,.hv (.ref (ad I 3)),.hb true,.hv (.ref (ad I 3)),.hb false,.hb true]
def eG (l:List DictEntry):List Bool:=[ikB l,Nat.ble l.length 16777216]
def gN (k:VK) (a:Int) (l:List DictEntry):List Bool:=[ikB l,k.is ((getD a l).getD .none)]
def Lb (a:Int) (l:List DictEntry):List Bool:=[ikB l,(getD a l).isSome,VK.i.is ((getD a l).getD .none)]
def VO.obl (v:VO) (p:SVm) (O:ae8):List Bool:=match v with
 | .addi=>eG p.es++[ikB p.es,VK.i.is ((getD p.a p.es).getD (.int 0 (O 29)))]
 | .unI=>eG p.es++(Lb p.a p.es++gN .i p.a p.es)
 | .goto=>[]
 | .ret=>Lb p.a p.es
 | .isT=>gN .n p.a p.es
 | .isF=>gN .i p.a p.es
 | .isG=>gN .s p.a p.es
 | .onT=>eG p.oc++[ikB p.oc,(getD p.a p.oc).isSome]
 | .onF=>eG p.oc++[ikB p.oc,(getD p.a p.oc).isSome]
 | .gosub=>eG p.es
 | .cpN=>eG p.es++gN .n p.a p.es
 | .cpI=>eG p.es++gN .i p.a p.es
 | .cpS=>eG p.es++gN .s p.a p.es
 | .mkN=>eG p.es++gN .n p.a p.es
 | .mkI=>eG p.es++gN .i p.a p.es
 | .mkS=>eG p.es++gN .s p.a p.es
 | .unN=>eG p.es++gN .n p.a p.es
 | _=>eG p.es
noncomputable def bl (l:List Bool):List OV:=l.map fun z=>.hb true
def VO.want (v:VO) (p:SVm) (O:ae8):List OV:=match v with
 | .onF=>[.hb true,.hb true,.hb true,.hb false]
 | v=>bl (v.obl p O)
def pT (c:Code):Bool:=isB "list.__getitem__" c && Nat.beq (i8 (ax c 0)) 1160
def JM (v:VO) (P:Params) (p:SVm) (I:ae8):bx:=.code (rnC (ad I 0) (ad I 1))
def ab3 (v:VO) (J:WB):List (SG J):=smS ((pT,ae9 _ _ 3) :: (isB "list.__contains__",dS _ _) :: (isB "len",(cW _ _).toLC) :: (isB "int.__ge__",iz _ _ false) :: (isB "dict.__contains__",(nq _ _ (match v with | .onT=>true | _=>false)).toLC) :: (isB "dict.__setitem__",(akJ _ _).toLC) :: (match v with | .addi=>(isB "dict.get",Oq _ _) | v=>(isB "dict.get",m9 _ _ v.gk)) :: (isB "dict.__getitem__",jk _ _) :: []:CL J)
noncomputable def aba (v:VO):List Nat:=match v with | .fN | .fI | .fS=>[0,7,1,5] | .vN | .vI | .vS | .null | .cpN | .cpI | .cpS=>[0,7] | .addi=>[0,7,30,29] | .mkN | .mkI | .mkS | .unN=>[0,7] | .unI=>[0,7,35] | .goto=>[0] | .gosub=>[0,7] | .ret | .isT=>[0] | .isF | .isG=>[0,7] | .onT=>[0] | .onF=>[0,7]
noncomputable def Vr (v:VO):List Nat:=match v with | .fN | .fI | .fS | .vN | .vI | .vS=>(by walk_at "#j<gtn&i4") | .null=>(by walk_at "#j<gtZn&i4") | .cpN | .cpI | .cpS=>adp | .addi=>(by walk_at "#m`j&1g'i4") | .mkN | .mkI | .mkS=>acW | .unN=>(by walk_at "#oKfonji4") | .unI=>(by walk_at "#oKfonjF[5g'i4") | .goto=>(by walk_at "#oBZ#i<") | .gosub=>(by walk_at "#j0fdn^l-n^i42") | .ret=>(by walk_at "#j0fdfdn^F[52") | .isT=>(by walk_at "#oBj&i<") | .isF | .isG=>acX | .onT=>(by walk_at "#l1gtg'P]eSPn61i<") | .onF=>(by walk_at "#l1gtg'P]eSPn61")
def vm (v:VO) (P:Params):aq SVm:=akt.spec ((⟨7,0,0,4,5,396,true,[0,1,2,3,4,5,6],aba v,Vr v⟩:akt) ) (JM v P) (fun p I=>vmO P p I v.first v.ep v.nm (v.v4 p.v) []) (fun p=>none) (fun p I O=>.again (rnC (ad I 0) (ad I 1))) (fun p I O=>vmP P p I O v.nm (v.v4 p.v) (qe (v.put p O) p.es) (sJ (v.put p O) p.es p.he) p.ss p.se (v.once p) (v.oncE p) (v.pc p O) (v.t6 p O) (v.t7 p O) []) (fun p I O=>none) (fun p I O=>(v.obl p O).map .hb++.hb true :: jS p) (fun p I O=>v.want p O++.hb true :: kg I)
theorem Mf (v:VO) (J:WB) (p:SVm):(vm v J.p).Runs J.w J.t (ab3 v J) p:=amK eVO (fun v J=>vm v J.p) (fun v J=>ab3 v J) v J p
inductive V8 where
 | n [h:Nonempty Nat] | i0 | i1 | i2 | a | A | s2 | b | s0 | s1
def V8.ix:V8→Nat:=@V8.rec (fun z=>Nat) 0 1 2 3 4 5 6 7 8 9
theorem V8.at_ix (v:V8):([.n,.i0,.i1,.i2,.a,.A,.s2,.b,.s0,.s1]:List V8)[v.ix]? = some v:=by cases v<;>rfl
noncomputable def eV8:Enu V8:=⟨[.n,.i0,.i1,.i2,.a,.A,.s2,.b,.s0,.s1],tB V8.ix V8.at_ix⟩
def V8.v (t:Tok):V8→Value
 | .n=>.none
 | .i0=>.int 0 t
 | .i1=>.int 1 t
 | .i2=>.int 2 t
 | .a=>.str (sv J76) t
 | .A=>.str (sv J89) t
 | .s2=>.str (sv J72) t
 | .b=>.str (sv J95) t
 | .s0=>.str (sv J79) t
 | .s1=>.str (sv J73) t
inductive AF where
 | int [h:Nonempty Nat] | num | txt
noncomputable def eAF:Enu AF:=⟨[.int,.num,.txt],by intro v;cases v<;>repeat constructor⟩
def AF.s:AF→Str
 | .int=>sv J47
 | .num=>sv J82
 | .txt=>sv J80
def oM (x:V8) (f:AF) (t u:Tok):Value:=match f with
 | .txt=>(match x with
  | .i0=>.str (sv J79) u
  | .i1=>.str (sv J73) u
  | .i2=>.str (sv J72) u
  | x=>x.v t)
 | _=>(match x with
  | .s2=>.int 2 u
  | x=>x.v t)
def uT (x:V8) (nc:Bool) (t:Tok) (O:ae8):Obj:=match x with
 | .n=>aO [.int 0 (O 0),.int 0 (O 1),.str ⟨#[]⟩ (O 2)]
 | .i0=>aO [.int 1 (O 0),.int 0 t,.str ⟨#[]⟩ (O 1)]
 | .i1=>aO [.int 1 (O 0),.int 1 t,.str ⟨#[]⟩ (O 1)]
 | .i2=>aO [.int 1 (O 0),.int 2 t,.str ⟨#[]⟩ (O 1)]
 | .a=>aO [.int 2 (O 0),.int 0 (O 1),.str (sv J76) (match nc with | true=>O 2 | false=>t)]
 | .A=>aO [.int 2 (O 0),.int 0 (O 1),(match nc with | true=>.str (sv J76) (O 2) | false=>.str (sv J89) t)]
 | .s2=>aO [.int 2 (O 0),.int 0 (O 1),.str (sv J72) (match nc with | true=>O 2 | false=>t)]
 | .b=>aO [.int 2 (O 0),.int 0 (O 1),.str (sv J95) (match nc with | true=>O 2 | false=>t)]
 | .s0=>aO [.int 2 (O 0),.int 0 (O 1),.str (sv J79) (match nc with | true=>O 2 | false=>t)]
 | .s1=>aO [.int 2 (O 0),.int 0 (O 1),.str (sv J73) (match nc with | true=>O 2 | false=>t)]
def aA:Bool→Str
 | true=>sv J59
 | false=>sv J30
def PJ (v:V8 × AF) (J:WB):List (SG J):=smS ([(isB "list.__contains__",dS _ _)]:CL J)
noncomputable def Sd (v:V8 × AF):List Nat:=match v.1 with | .n=>[] | .i0 | .i1 | .i2=>(match v.2 with | .int | .num=>[] | .txt=>[5]) | .a | .A=>[] | .s2=>(match v.2 with | .int | .num=>[5] | .txt=>[]) | .b | .s0 | .s1=>[]
noncomputable def T7 (v:V8 × AF):List Nat:=match v.2 with | .int | .num=>(match v.1 with | .n | .i0 | .i1 | .i2=>ac5 | .a | .A=>(by walk_at "#kvfJ") | .s2=>[0,1,1,1,1,1,3,3,1,1,1,0] | .b | .s0 | .s1=>(by walk_at "#kvfJ")) | .txt=>(match v.1 with | .n=>aek | .i0 | .i1 | .i2=>aes | .a | .A | .s2 | .b | .s0 | .s1=>aek)
def led (v:V8 × AF) (P:Params):aq Raw:=akt.spec ((⟨0,0,0,1,5,83,false,[],Sd v,T7 v⟩:akt) ) (fun p I=>.code (.call (.ref 1100) ⟨[v.1.v (ak (ax p.c 0)),.str v.2.s (ak (ax p.c 1))],[]⟩:Code)) (fun p I=>[]) (fun p=>none) (fun p I O=>.ret (oM v.1 v.2 (ak (ax p.c 0)) (O 0):Value)) (fun p I O=>[]) (fun p I O=>none) (fun p I O=>[OV.hb true]) (fun p I O=>[OV.hb true])
theorem K7 (v:V8 × AF) (J:WB) (p:Raw):(led v J.p).Runs J.w J.t (PJ v J) p:=amK (eV8.pr eAF) (fun v J=>led v J.p) (fun v J=>PJ v J) v J p
def Yu (v:V8 × AF) (J:WB):LG J:=aq.toPL2 (PJ v J) (led v J.p) [] (K7 v J)
def Q7 (v:V8 × Bool) (J:WB):List (SG J):=smS ([]:CL J)
noncomputable def Su (v:V8 × Bool):List Nat:=match v.1 with | .n=>[2,3,4] | .i0 | .i1 | .i2=>[2,3] | .a | .A | .s2 | .b | .s0 | .s1=>(match v.2 with | false=>[3,4] | true=>[3,4,6])
noncomputable def Th (v:V8 × Bool):List Nat:=match v.1 with | .n=>[0,1,1,1,1,1] | .i0 | .i1 | .i2=>(by walk_at "#nrdu$") | .a | .A | .s2 | .b | .s0 | .s1=>(match v.2 with | false=>aeu | true=>aex)
def cls (v:V8 × Bool) (P:Params):aq Raw:=akt.spec ((⟨0,1,1,3,2,76,false,[1],Su v,Th v⟩:akt) ) (fun p I=>.code (.call (.ref 1093) ⟨[v.1.v (ak (ax p.c 0)),.str (aA v.2) (ak (ax p.c 1))],[]⟩:Code)) (fun p I=>[]) (fun p=>none) (fun p I O=>.ret (.ref (ad I 0):Value)) (fun p I O=>[uT v.1 v.2 (ak (ax p.c 0)) O]) (fun p I O=>none) (fun p I O=>[]) (fun p I O=>[])
theorem Gu (v:V8 × Bool) (J:WB) (p:Raw):(cls v J.p).Runs J.w J.t (Q7 v J) p:=amK (eV8.pr amJ) (fun v J=>cls v J.p) (fun v J=>Q7 v J) v J p
def aay (v:V8 × Bool) (J:WB):LG J:=aq.toPL2 (Q7 v J) (cls v J.p) [] (Gu v J)
noncomputable def lk {K A:Type} (t:K→Bool) (l:List (K × A)):Option A:=@List.rec (K × A) (fun z=>Option A) none (fun p z ih=>match t p.1 with
 | true=>some p.2
 | false=>ih) l
theorem anx {K A B:Type} {t:K→Bool} {F:K→B} {b:B} (a:∀ k,t k=true→b=F k) (f:A→B) {x:A} {l:List (K × A)} (h:lk t l=some x) (e:amT (fun p=>F p.1) l=amS (fun p=>f p.2) l):b=f x:=by
 induction l with
 | nil=>cases h
 | cons p l ih=>
  have e:=List.cons.inj (show F p.1 :: amT (fun p=>F p.1) l=f p.2 :: amS (fun p=>f p.2) l from e)
  change (match t p.1 with | true=>some p.2 | false=>lk t l)=some x at h
  cases q:t p.1 with
  | true=>rw [q] at h;cases h;exact (a _ q).trans e.1
  | false=>rw [q] at h;exact ih h e.2
theorem anw {A:Type} (f:A→Str) {s:Str} {x:A} {l:List (List Nat × A)} (h:lk (fun k=>eqS s (sv k)) l=some x) (e:amT (fun p=>sv p.1) l=amS (fun p=>f p.2) l:=by kernel_rfl):s=f x:=anx (fun k q=>bp q) f h e
def v8Of (v:Value):Option V8:=match v with
 | .none=>some .n
 | .int i _=>lk (fun k=>PySem.W.Z.eqB i k) [(0,.i0),(1,.i1),(2,.i2)]
 | .str s _=>lk (fun k=>eqS s (sv k)) [([97],.a),([65],.A),([50],.s2),([98],.b),([48],.s0),([49],.s1)]
 | _=>none
theorem ew {v:Value} {x:V8} (h:v8Of v=some x):v=x.v (ak v):=by
 cases v with
 | none=>cases h;rfl
 | int i t=>exact congrFun (anx (F:=fun k t=>Value.int k t) (b:=fun t=>Value.int i t) (fun k q=>by rw [(FF _ _).mp q]) (fun (x:V8) t=>x.v t) (show lk (fun k=>PySem.W.Z.eqB i k) [(0,V8.i0),(1,.i1),(2,.i2)]=some x from h) (by kernel_rfl)) t
 | str s t=>exact congrFun (anx (F:=fun k t=>Value.str (sv k) t) (b:=fun t=>Value.str s t) (fun k q=>by rw [bp q]) (fun (x:V8) t=>x.v t) (show lk (fun k=>eqS s (sv k)) [([97],V8.a),([65],.A),([50],.s2),([98],.b),([48],.s0),([49],.s1)]=some x from h) (by kernel_rfl)) t
 | _=>cases h
theorem cV (x:V8) (t:Tok):v8Of (x.v t)=some x:=by cases x<;>rfl
def Ag (s:Str):Option AF:=lk (fun k=>eqS s (sv k)) [(J47,.int),(J82,.num),(J80,.txt)]
theorem NE {s:Str} {f:AF} (h:Ag s=some f):s=f.s:=anw AF.s h
theorem H9 (f:AF):Ag f.s=some f:=by cases f<;>rfl
def aku (v:Value) (s:Str) (u:Tok):Value:=match v8Of v with
 | some x=>(match Ag s with
  | some f=>oM x f (ak v) u
  | none=>.none)
 | none=>.none
theorem Hl (k:VK) (x:V8) (f:AF) (t u a:Tok):k.is (oM x f t u)=k.is (oM x f t a):=
 amW (eVK.pr (eV8.pr eAF)) (fun y=>y.1.is (oM y.2.1 y.2.2 t u)) (fun y=>y.1.is (oM y.2.1 y.2.2 t a)) (k,x,f)
def bq (k:VK) (J:WB):LG J where
 P:=Raw
 fs:=[]
 qt:=0
 q:=0
 it:=1
 need:=5
 ext:=Raw.mk
 obl _ p:=([.hb (v8Of (ax p.c 0)).isSome,.hb (Ag (aD (ax p.c 1))).isSome,.hb (k.is (aku (ax p.c 0) (aD (ax p.c 1)) 0))],[.hb true,.hb true,.hb true])
 code I p:=.call (.ref 1100) ⟨[ax p.c 0,aS p.c 1],[]⟩
 pre I p:=[]
 preX p:=p.X
 post I O p:=[]
 postX I O p:=p.X
 res _ O p:=k.as (aku (ax p.c 0) (aD (ax p.c 1)) (O 0))
 qle:=ai _
 olen _ _:=rfl
 len _ _ _:=rfl
 ok p I a _:=by
  obtain ⟨j,a⟩:=aU a
  obtain ⟨h,a⟩:=aU a
  obtain ⟨e,-⟩:=aU a
  obtain ⟨x,g⟩:=lw.mp j
  obtain ⟨f,d⟩:=lw.mp h
  have e1:=ew g
  have e2:=NE d
  have e3:∀ u,aku (ax p.c 0) (aD (ax p.c 1)) u=oM x f (ak (ax p.c 0)) u:=fun u=>by unfold aku;rw [g,d]
  have H:=(Yu (x,f) J).ok p I rfl rfl
  refine HTx.conv (nx:=false) (c:=.call (.ref 1100) ⟨[ax p.c 0,aS p.c 1],[]⟩) (K:=fun z O'=>(oM x f (ak (ax p.c 0)) (ah 1 O' 0),tc _ 0 []++uU _ p.X)) ?_ (ai 5) (b6 _) id id fun I' O' b=>⟨b,?_,b6 _⟩
  · have i:(⟨[ax p.c 0,aS p.c 1],[]⟩:Args)=⟨[x.v (ak (ax p.c 0)),.str f.s (ak (ax p.c 1))],[]⟩:=by
     unfold aS
     rw [e2,← e1]
    rw [i]
    exact H
  · show _=k.as (aku _ _ _)
    rw [e3]
    rw [e3,Hl k x f _ 0 (ah 1 O' 0)] at e
    exact VK.eq e
def bh (s:Str):Option Bool:=lk (fun k=>eqS s (sv k)) [(J59,true),(J30,false)]
theorem lz {s:Str} {b:Bool} (h:bh s=some b):s=aA b:=anw aA h
theorem cY (b:Bool):bh (aA b)=some b:=by cases b<;>rfl
def d0 (v:Value) (s:Str) (O:ae8):Obj:=match v8Of v with
 | some x=>(match bh s with
  | some b=>uT x b (ak v) O
  | none=>aO [])
 | none=>aO []
theorem M9 (x:V8) (b:Bool) (t:Tok) (O:ae8):uT x b t (fl [O 0,O 1,O 2])=uT x b t O:=by cases x<;>cases b<;>rfl
def lE (J:WB):LG J where
 P:=Raw
 fs:=[]
 qt:=1
 q:=1
 it:=3
 need:=2
 ext:=Raw.mk
 obl _ p:=([.hb (v8Of (ax p.c 0)).isSome,.hb (bh (aD (ax p.c 1))).isSome],[.hb true,.hb true])
 code I p:=.call (.ref 1093) ⟨[ax p.c 0,aS p.c 1],[]⟩
 pre I p:=[]
 preX p:=p.X
 post I O p:=[d0 (ax p.c 0) (aD (ax p.c 1)) (fl [O 0,O 1,O 2])]
 postX I O p:=p.X
 res I O p:=.ref (ad I 0)
 qle:=ai _
 olen _ _:=rfl
 len _ _ _:=rfl
 ok p I a _:=by
  obtain ⟨i,a⟩:=aU a
  obtain ⟨g,a⟩:=aU a
  obtain ⟨x,e⟩:=lw.mp i
  obtain ⟨f,d⟩:=lw.mp g
  have e1:=ew e
  have e2:=lz d
  have e3:∀ u,d0 (ax p.c 0) (aD (ax p.c 1)) u=uT x f (ak (ax p.c 0)) u:=fun u=>by unfold d0;rw [e,d]
  have H:=(aay (x,f) J).ok p I rfl rfl
  refine HTx.conv (nx:=false) (c:=.call (.ref 1093) ⟨[ax p.c 0,aS p.c 1],[]⟩) (K:=fun I' O'=>(.ref (ad (ah 1 I') 0),tc I' 0 [uT x f (ak (ax p.c 0)) (ah 3 O')]++uU J.p p.X)) ?_ (ai 2) (b6 _) id id fun I' O' b=>⟨b,rfl,fv ?_⟩
  · have h:(⟨[ax p.c 0,aS p.c 1],[]⟩:Args)=⟨[x.v (ak (ax p.c 0)),.str (aA f) (ak (ax p.c 1))],[]⟩:=by
     unfold aS
     rw [e2,← e1]
    rw [h]
    exact H
  · show _=tc I' 0 [d0 _ _ _]++_
    rw [e3,M9]
    rfl
def sG (w:World) (top:Tr) (n:Nat):LC w top:=PL.toLC
 { P:=((Int × Nat) × List DictEntry × Nat) × Obj
   fs:=[.arg 0,.num n]
   qt:=0
   it:=0
   need:=3
   ext:=fun c os=>(((am (ax c 1),ak (ax c 1)),f8 os),uF os 1)
   obl:=fun I p=>([.hb (ikB p.1.2.1),.hb (getD p.1.1.1 p.1.2.1).isSome,.hv ((getD p.1.1.1 p.1.2.1).getD .none)],[.hb true,.hb true,.hv (.ref (ad I 1))])
   olen:=fun z z=>rfl
   code:=fun I p=>.call (.builtin "dict.__getitem__") ⟨[.ref (ad I 0),.int p.1.1.1 p.1.1.2],[]⟩
   pre:=fun z p=>[uN p.1.2.1 p.1.2.2,p.2]
   post:=fun z z p=>[uN p.1.2.1 p.1.2.2,p.2]
   res:=fun I z p=>.ref (ad I 1)
   len:=fun z z z=>rfl
   ok:=fun p I b z=>by
    obtain ⟨h,b⟩:=aU b
    obtain ⟨g,b⟩:=aU b
    injection b with a _
    injection a with a
    obtain ⟨⟨⟨pi,j⟩,xs,e⟩,o⟩:=p
    obtain ⟨v,hv⟩:=lw.mp g
    have a:(getD pi xs).getD .none=Value.ref (ad (ah 2 I) 1):=a
    rw [hv] at a
    have a:v=.ref (ad (ah 2 I) 1):=a
    rw [a] at hv
    have H:=(iX (w:=w) (top:=top) I xs e pi j _ h hv).frame [(ad I 1,o)]
    refine H.conv (ai _) (b6 _) (fun I' i=>if i=1 then I 1 else I' i) id fun I' O' d=>⟨fun i f=>?_,?_,?_⟩
    · by_cases q:i=1
      · subst q
        show (if 1=1 then I 1 else _)=_
        rw [jW rfl]
      · show (if i=1 then I 1 else I' i)=_
        rw [b4 q]
        have f:i < 2:=f
        have:i=0:=by lia
        subst this
        exact d 0 (by decide)
    · show Value.ref (ad (ah 2 I) 1)=Value.ref (ad (ah 2 _) 1)
      unfold ad
      rw [aJ (by decide),aJ (by decide)]
      rfl
    · show ([(ad I' 0,_)]++[(ad I 1,o)]).Perm [(ad _ 0,_),(ad _ 1,o)]
      exact b6 _ }
inductive VQ where
 | nn [h:Nonempty Nat] | ii | ss | si | is
noncomputable def eVQ:Enu VQ:=⟨[.nn,.ii,.ss,.si,.is],by intro v;cases v<;>repeat constructor⟩
noncomputable def VQ.k1:VQ→VK
 | .nn=>.n
 | .ii=>.i
 | .is=>.i
 | _=>.s
noncomputable def VQ.k2:VQ→VK
 | .nn=>.n
 | .ii=>.i
 | .si=>.i
 | _=>.s
def VQ.obl (v:VQ) (p:SVm):List Bool:=eG p.es++([(v8Of (v.k1.as ((getD p.a p.es).getD .none))).isSome,(Ag p.s).isSome,v.k2.is (aku (v.k1.as ((getD p.a p.es).getD .none)) p.s 0)]++gN v.k1 p.a p.es)
def qh (p:SVm):List OV:=[.hb (ikB p.ss),.hb (getD p.a p.ss).isSome,.hv ((getD p.a p.ss).getD .none)]
noncomputable def qd (I:ae8):List OV:=[.hb true,.hb true,.hv (.ref (ad I 7))]
def VQ.res (v:VQ) (p:SVm) (u:Tok):Value:=v.k2.as (aku (v.k1.as ((getD p.a p.es).getD .none)) p.s u)
def Wv (v:VQ) (J:WB):List (SG J):=smS ((pT,ae9 _ _ 3) :: (isB "list.__contains__",dS _ _) :: (isB "len",(cW _ _).toLC) :: (isB "int.__ge__",iz _ _ false) :: (isB "dict.__setitem__",(akJ _ _).toLC) :: (isB "dict.get",m9 _ _ v.k1) :: (isR 1100 2,bq v.k2 J) :: []:CL J)
noncomputable def SP (v:VQ):List Nat:=match v with | .nn=>[0,7] | .ii | .ss | .si | .is=>[0,7,31]
def vma (v:VQ) (P:Params):aq SVm:=akt.spec ((⟨8,0,0,3,7,362,true,acS,SP v,(by walk_at "#fZgln(e]gqj;g~hD&%&hm&feeHkZdVI'5")⟩:akt) ) (fun p I=>.code (rnC (ad I 0) (ad I 1))) (fun p I=>vmO P p I false 7 J28 (.ref (ad I 7)) [aO [.str p.s (p.t 14)]]) (fun p=>none) (fun p I O=>.again (rnC (ad I 0) (ad I 1))) (fun p I O=>vmP P p I O J28 (.ref (ad I 7)) (cI p.a (p.t 11) (v.res p (O 2)) p.es) (epD p.a p.es p.he) p.ss p.se p.oc p.oe (.int (Int.ofNat (p.pc + 1)) (O 1)) (p.t 6) (p.t 7) [aO [.str p.s (p.t 14)]]) (fun p I O=>none) (fun p I O=>(v.obl p).map .hb++.hb true :: jS p) (fun p I O=>bl (v.obl p)++.hb true :: kg I)
theorem K0 (v:VQ) (J:WB) (p:SVm):(vma v J.p).Runs J.w J.t (Wv v J) p:=amK eVQ (fun v J=>vma v J.p) (fun v J=>Wv v J) v J p
noncomputable def aj5 (p:SVm):XT:=none
def X3 (J:WB):List (SG J):=smS ((pT,ae9 _ _ 3) :: (isB "list.__contains__",dS _ _) :: (isB "len",(cW _ _).toLC) :: (isB "int.__ge__",iz _ _ false) :: (isB "dict.__setitem__",(akJ _ _).toLC) :: []:CL J)
def vmo (P:Params):aq SVm:=akt.spec ((⟨10,1,1,2,5,383,true,(by walk_at "#fg3"),[0,7],(by walk_at "#fZdh.Dn(nadpf/eahUk`k`k`k`k`)ea`@nanadph/h/h/ei3/3-eHZe6gCdbdfK")⟩:akt) ) (fun p I=>.code (rnC (ad I 0) (ad I 1))) (fun p I=>vmO P p I false 7 J20 (.ref (ad I 7)) [aw 938 (ad I 8),aE [dF P aaJ (p.t 20) (.ref (ad I 9)),dF P VS (p.t 21) (.ref p.ye)] 2,aO [.str p.s (p.t 14)]]) (aj5 ) (fun p I O=>.again (rnC (ad I 0) (ad I 1))) (fun p I O=>vmP P p I O J20 (.ref (ad I 7)) p.es p.he (cI p.a (p.t 11) (.ref (ad I 10)) p.ss) (epD p.a p.ss p.se) p.oc p.oe (.int (Int.ofNat (p.pc + 1)) (O 1)) (p.t 6) (p.t 7) [aw 938 (ad I 8),aE [dF P aaJ (p.t 20) (.ref (ad I 9)),dF P VS (p.t 21) (.ref p.ye)] 2,aO [.str p.s (p.t 14)],ab ⟨[.str p.s (p.t 14)]⟩ 0]) (fun p I O=>none) (fun p I O=>(eG p.ss).map .hb++.hb true :: jS p) (fun p I O=>bl (eG p.ss)++.hb true :: kg I)
theorem Lo (J:WB) (p:SVm):(vmo J.p).Runs J.w J.t (X3 J) p:=SX (fun J=>(vmo J.p)) (fun J=>(X3 J)) J p
def W1 (v:VK) (J:WB):List (SG J):=smS ((pT,ae9 _ _ 3) :: (isB "list.__contains__",dS _ _) :: (isB "len",(cW _ _).toLC) :: (isB "int.__ge__",iz _ _ false) :: (isB "dict.get",m9 _ _ v) :: (isB "dict.__getitem__",sG _ _ 7) :: (isB "list.append",(b7 _ _).toLC) :: []:CL J)
def vmi (v:VK) (P:Params):aq SVm:=akt.spec ((⟨8,0,0,2,5,381,true,acS,[0,7],(by walk_at "#fZgln(e]gqj;g~ecechDfW=f8m(&hE'5N")⟩:akt) ) (fun p I=>.code (rnC (ad I 0) (ad I 1))) (fun p I=>vmO P p I false 7 J27 .none [ab p.ys p.ye]) (fun p=>none) (fun p I O=>.again (rnC (ad I 0) (ad I 1))) (fun p I O=>vmP P p I O J27 .none p.es p.he p.ss p.se p.oc p.oe (.int (Int.ofNat (p.pc + 1)) (O 1)) (p.t 6) (p.t 7) [ab (p.ys.push (v.as ((getD p.b p.es).getD .none))) (p.ye + 1)]) (fun p I O=>none) (fun p I O=>.hb (Nat.ble p.ys.size 16777216) :: (gN v p.b p.es).map .hb++qh p++.hb true :: jS p) (fun p I O=>.hb true :: bl (gN v p.b p.es)++qd I++.hb true :: kg I)
theorem Ib (v:VK) (J:WB) (p:SVm):(vmi v J.p).Runs J.w J.t (W1 v J) p:=amK eVK (fun v J=>vmi v J.p) (fun v J=>W1 v J) v J p
def aav (v:Bool) (J:WB):List (SG J):=smS ((pT,ae9 _ _ 3) :: (isB "list.__contains__",dS _ _) :: (isB "len",(cW _ _).toLC) :: (isB "int.__ge__",iz _ _ false) :: (isB "dict.__getitem__",sG _ _ 7) :: (isB "int.__eq__",kU _ _ v) :: []:CL J)
noncomputable def Uj:Bool→List Nat
 | true=>[0]
 | false=>[0,7]
noncomputable def SI:Bool→List Nat
 | true=>(by walk_at "#fZhSjb-fWK)hW=i<")
 | false=>(by walk_at "#fZhSjb-fWK)hW=")
def vmr (v:Bool) (P:Params):aq SVm:=akt.spec ((⟨8,0,0,2,5,389,true,acS,Uj v,SI v⟩:akt) ) (fun p I=>.code (rnC (ad I 0) (ad I 1))) (fun p I=>vmO P p I false 7 J40 .none [ab p.ys p.ye]) (fun p=>none) (fun p I O=>.again (rnC (ad I 0) (ad I 1))) (fun p I O=>vmP P p I O J40 .none p.es p.he p.ss p.se p.oc p.oe (match v with | true=>.int p.b (p.t 12) | false=>.int (Int.ofNat (p.pc + 1)) (O 1)) (p.t 6) (p.t 7) [ab p.ys p.ye]) (fun p I O=>none) (fun p I O=>.hb (eqI (Int.ofNat p.ys.size) (Int.ofNat 1)) :: .hb (Nat.ble p.ys.size 16777216) :: qh p++.hb true :: jS p) (fun p I O=>.hb v :: .hb true :: qd I++.hb true :: kg I)
theorem KZ (v:Bool) (J:WB) (p:SVm):(vmr v J.p).Runs J.w J.t (aav v J) p:=amK amJ (fun v J=>vmr v J.p) (fun v J=>aav v J) v J p
noncomputable def aj2 (p:SVm):XT:=none
def VR (J:WB):List (SG J):=smS ((pT,ae9 _ _ 3) :: (isB "list.__contains__",dS _ _) :: (isB "len",(cW _ _).toLC) :: (isB "int.__ge__",iz _ _ false) :: []:CL J)
def vmh (P:Params):aq SVm:=akt.spec ((⟨7,0,0,1,4,74,true,[0,1,2,3,4,5,6],[0],(by walk_at "#fQese#%")⟩:akt) ) (fun p I=>.code (rnC (ad I 0) (ad I 1))) (fun p I=>vmO P p I false 7 J13 .none []) (aj2 ) (fun p I O=>.ret (.bool true)) (fun p I O=>[rgN p.i p.r,frO (frV P { p with tn:=.int (Int.ofNat p.i) (O 0) } false I) 7,ab p.xs p.xe,ah7 p J13 .none,uN p.es p.he,uN p.ss p.se,uN p.oc p.oe]) (fun p I O=>none) (fun p I O=>[OV.hb (inB p.xs (Int.ofNat p.pc)),OV.hv (ae p.xs (Int.toNat (Int.ofNat p.pc))),OV.hb (geI (Int.ofNat p.pc) (Int.ofNat (Array.size p.xs))),OV.hb (Nat.ble (Array.size p.xs) 16777216)]) (fun p I O=>[OV.hb true,OV.hv (Value.ref (ad I 3)),OV.hb false,OV.hb true])
theorem Gh (J:WB) (p:SVm):(vmh J.p).Runs J.w J.t (VR J) p:=SX (fun J=>(vmh J.p)) (fun J=>(VR J)) J p
noncomputable def yX:Stmt→List Stmt
 | .If _ b _ _=>b
 | _=>[]
noncomputable def ab0:Stmt→Expr
 | .Return (some v) _=>v
 | _=>default
noncomputable def WH:Expr→Expr
 | .Compare _ _ (r :: _) _=>r
 | _=>default
def TH:Expr:=WH (ab0 (br (yX (br (mH (at1 64):List Stmt) 4)) 1))
def jmQ:Str:=sv [95,108,97,119,95,106,117,109,112,115,46,60,108,111,99,97,108,115,62,46]
noncomputable def RK:Stmt→Expr
 | .If e _ _ _=>e
 | _=>default
def iiB:List Stmt:=mH (at1 67)
def WV:Expr:=WH (RK (br iiB 3))
def iiQ:Str:=sv [95,108,97,119,95,105,115,95,105,110,46,60,108,111,99,97,108,115,62,46]
def cPl:Bool→Expr
 | false=>TH
 | true=>WV
noncomputable def ePl:Bool→Nat→Nat→Option Nat→Env
 | false,l,c,fr=>⟨dK TH,l,3,[(sv J16,c)],jmQ,none,.ref 1125,fr,0⟩
 | true,l,c,fr=>⟨dK WV,l,3,[(sv J16,c)],iiQ,none,.ref 1144,fr,0⟩
structure SCq where
 u:Nat→Value
 s:Str
 t:Nat→Tok
 e:Nat
 fr:Option Nat
noncomputable def liN (n:Nat):Obj:=⟨.type "list_iterator",none,.fields ⟨[.none,.int (Int.ofNat n) 0]⟩,#[]⟩
inductive KL1 where
 | mk (a:VK)
inductive KL2 where
 | mk (a b:VK)
inductive KL3 where
 | mk (a b c:VK)
def VW (v:Bool) (J:WB):List (SG J):=smS ((isR 1093 2,lE J) :: []:CL J)
def cq0 (v:Bool) (a:Bool) (P:Params):aq SCq:=akt.spec ((⟨5,0,0,0,2,39,false,[0,1,2,3,4],[],(match a with | true=>[1,0,1,1,1,3,1,1,13] | false=>(by walk_at "#eTdU,"))⟩:akt) ) (fun p I=>.code (.compStart (cPl v) 0 (.ref (ad I 0)) (.ref (ad I 2)) (ePl v (ad I 3) (ad I 4) p.fr))) (fun p I=>[liO (ad I 1) 0,ab ⟨[]⟩ p.e,ab ⟨[]⟩ 0,aE [] 0,aH (some (.str p.s (p.t 0)))]) (fun p=>none) (fun p I O=>.next) (fun p I O=>[liN 0,ab ⟨[]⟩ p.e,ab ⟨[]⟩ 0,aE [] 0,aH (some (.str p.s (p.t 0)))]) (fun p I O=>none) (fun p I O=>[]) (fun p I O=>[])
theorem Ki (v:Bool) (J:WB) (p:SCq):(cq0 v J.a J.p).Runs J.w J.t (VW v J) p:=amL amJ (fun v J=>cq0 v J.a J.p) (fun v J=>VW v J) v J p
def aaY (v:Bool × VK) (J:WB):List (SG J):=smS ((isR 1093 2,lE J) :: []:CL J)
def cq1 (v:Bool × VK) (a:Bool) (P:Params):aq SCq:=akt.spec ((⟨5,1,1,4,4,75,false,[0,1,2,3,4,5],[0,1,2,3],(match a with | true=>(by walk_at "#k73") | false=>(by walk_at "#eTk73"))⟩:akt) ) (fun p I=>.code (.compStart (cPl v.1) 0 (.ref (ad I 0)) (.ref (ad I 2)) (ePl v.1 (ad I 3) (ad I 4) p.fr))) (fun p I=>[liO (ad I 1) 0,ab ⟨[v.2.as (p.u 0)]⟩ p.e,ab ⟨[]⟩ 0,aE [] 0,aH (some (.str p.s (p.t 0)))]) (fun p=>none) (fun p I O=>.next) (fun p I O=>[liN 1,ab ⟨[v.2.as (p.u 0)]⟩ p.e,ab ⟨[.ref (ad I 5)]⟩ 1,aE [dF P J24 (O 0) (v.2.as (p.u 0))] 1,aH (some (.str p.s (p.t 0))),d0 (v.2.as (p.u 0)) p.s (fl [O 1,O 2,O 3])]) (fun p I O=>none) (fun p I O=>[.hb (v8Of (v.2.as (p.u 0))).isSome,.hb (bh p.s).isSome]) (fun p I O=>[.hb true,.hb true])
theorem F7 (v:Bool × VK) (J:WB) (p:SCq):(cq1 v J.a J.p).Runs J.w J.t (aaY v J) p:=amL (amJ.pr eVK) (fun v J=>cq1 v J.a J.p) (fun v J=>aaY v J) v J p
def Vc (v:Bool × VK × VK) (J:WB):List (SG J):=smS ((isR 1093 2,lE J) :: []:CL J)
def cq2 (v:Bool × VK × VK) (a:Bool) (P:Params):aq SCq:=akt.spec ((⟨5,2,2,7,4,111,false,[0,1,2,3,4,5,6],[0,1,2,3,5,6,7],(match a with | true=>(by walk_at "#mC1") | false=>(by walk_at "#eTmC1"))⟩:akt) ) (fun p I=>.code (.compStart (cPl v.1) 0 (.ref (ad I 0)) (.ref (ad I 2)) (ePl v.1 (ad I 3) (ad I 4) p.fr))) (fun p I=>[liO (ad I 1) 0,ab ⟨[v.2.1.as (p.u 0),v.2.2.as (p.u 1)]⟩ p.e,ab ⟨[]⟩ 0,aE [] 0,aH (some (.str p.s (p.t 0)))]) (fun p=>none) (fun p I O=>.next) (fun p I O=>[liN 2,ab ⟨[v.2.1.as (p.u 0),v.2.2.as (p.u 1)]⟩ p.e,ab ⟨[.ref (ad I 5),.ref (ad I 6)]⟩ 2,aE [dF P J24 (O 0) (v.2.2.as (p.u 1))] 1,aH (some (.str p.s (p.t 0))),d0 (v.2.1.as (p.u 0)) p.s (fl [O 1,O 2,O 3]),d0 (v.2.2.as (p.u 1)) p.s (fl [O 4,O 5,O 6])]) (fun p I O=>none) (fun p I O=>[.hb (v8Of (v.2.2.as (p.u 1))).isSome,.hb (bh p.s).isSome,.hb (v8Of (v.2.1.as (p.u 0))).isSome,.hb (bh p.s).isSome]) (fun p I O=>hT 4)
theorem Ku (v:Bool × VK × VK) (J:WB) (p:SCq):(cq2 v J.a J.p).Runs J.w J.t (Vc v J) p:=amL (amJ.pr (eVK.pr eVK)) (fun v J=>cq2 v J.a J.p) (fun v J=>Vc v J) v J p
def Y4 (v:Bool × VK × VK × VK) (J:WB):List (SG J):=smS ((isR 1093 2,lE J) :: []:CL J)
def cq3 (v:Bool × VK × VK × VK) (a:Bool) (P:Params):aq SCq:=akt.spec ((⟨5,3,3,10,4,147,false,acS,[0,1,2,3,5,6,7,9,10,11],(match a with | true=>(by walk_at "#h#mC&") | false=>(by walk_at "#eTh#mC&"))⟩:akt) ) (fun p I=>.code (.compStart (cPl v.1) 0 (.ref (ad I 0)) (.ref (ad I 2)) (ePl v.1 (ad I 3) (ad I 4) p.fr))) (fun p I=>[liO (ad I 1) 0,ab ⟨[v.2.1.as (p.u 0),v.2.2.1.as (p.u 1),v.2.2.2.as (p.u 2)]⟩ p.e,ab ⟨[]⟩ 0,aE [] 0,aH (some (.str p.s (p.t 0)))]) (fun p=>none) (fun p I O=>.next) (fun p I O=>[liN 3,ab ⟨[v.2.1.as (p.u 0),v.2.2.1.as (p.u 1),v.2.2.2.as (p.u 2)]⟩ p.e,ab ⟨[.ref (ad I 5),.ref (ad I 6),.ref (ad I 7)]⟩ 3,aE [dF P J24 (O 0) (v.2.2.2.as (p.u 2))] 1,aH (some (.str p.s (p.t 0))),d0 (v.2.1.as (p.u 0)) p.s (fl [O 1,O 2,O 3]),d0 (v.2.2.1.as (p.u 1)) p.s (fl [O 4,O 5,O 6]),d0 (v.2.2.2.as (p.u 2)) p.s (fl [O 7,O 8,O 9])]) (fun p I O=>none) (fun p I O=>[.hb (v8Of (v.2.2.2.as (p.u 2))).isSome,.hb (bh p.s).isSome,.hb (v8Of (v.2.2.1.as (p.u 1))).isSome,.hb (bh p.s).isSome,.hb (v8Of (v.2.1.as (p.u 0))).isSome,.hb (bh p.s).isSome]) (fun p I O=>hT 6)
theorem Kc (v:Bool × VK × VK × VK) (J:WB) (p:SCq):(cq3 v J.a J.p).Runs J.w J.t (Y4 v J) p:=amL (amJ.pr (eVK.pr (eVK.pr eVK))) (fun v J=>cq3 v J.a J.p) (fun v J=>Y4 v J) v J p
theorem HE.tx {w:World} {top:Tr} {need k:Nat} {nx:Bool} {c:Code} {L:XL} {I:ae8} {r:(Nat→Nat)→(Nat→Nat)→Value} {K:(Nat→Nat)→(Nat→Nat)→XL}
  (H:HE w top need k (.code c) L I (fun I' O'=>JX nx (r I' O')) K):HTx nx w top need k c L I (fun I' O'=>(r I' O',K I' O')):=
 fun A R h g d tk os m j hb o n=>H A R h g d tk os m j hb o fun I' O' b a i e l f h5=>tG (n I' O' b a i e l f h5)
noncomputable def akw:Nat→Nat→(Nat→Nat)→List Value
 | 0,_,_=>[]
 | n + 1,i,I=>.ref (ad I i) :: akw n (i + 1) I
def kQ (s:Str):List Value→Nat→(Nat→Nat)→List Obj
 | [],_,_=>[]
 | u :: us,k,O=>d0 u s (fl [O k,O (k + 1),O (k + 2)]) :: kQ s us (k + 3) O
noncomputable def I3:List Value→Option Value
 | []=>none
 | [u]=>some u
 | _ :: us=>I3 us
def VN (P:Params) (o:Option Value) (t:Tok):Obj:=match o with
 | none=>aE [] 0
 | some u=>aE [dF P J24 t u] 1
def Qw (a:List Value) (s:Str) (ts e:Nat) (I:ae8):List Obj:=[liO (ad I 1) 0,ab ⟨a⟩ e,ab ⟨[]⟩ 0,aE [] 0,aH (some (.str s ts))]
def y0 (P:Params) (a:List Value) (s:Str) (ts e:Nat) (I O:ae8):List Obj:=
 [liN a.length,ab ⟨a⟩ e,ab ⟨akw a.length 5 I⟩ a.length,VN P (I3 a) (O 0),aH (some (.str s ts))]++kQ s a 1 O
theorem jm {u:Value} (h:(v8Of u).isSome=true):∃ k:VK,u=k.as u:=by
 obtain ⟨x,a⟩:=lw.mp h
 have:=ew a
 cases x
 · exact ⟨.n,this⟩
 all_goals first
  | exact ⟨.i,by rw [this];rfl⟩
  | exact ⟨.s,by rw [this];rfl⟩
section
variable (J:WB) (pl:Bool) (s:Str) (ts e:Nat) (fr:Option Nat) (I:ae8)
abbrev akV (a:List Value):Prop:=HTx true J.w J.t 9 5 (.compStart (cPl pl) 0 (.ref (ad (ah 5 I) 0)) (.ref (ad (ah 5 I) 2)) (ePl pl (ad (ah 5 I) 3) (ad (ah 5 I) 4) fr)) (tc I 0 (Qw a s ts e (ah 5 I))) I
 (fun I' O'=>(.none,tc I' 0 (y0 J.p a s ts e (ah (5 + a.length) I') (ah (1 + 3 * a.length) O'))))
variable {J pl s ts e fr I}
theorem m8 {need:Nat} {c:Code} {L L':XL} {K d:(Nat→Nat)→(Nat→Nat)→Value × XL} {w:World} {top:Tr} (H:HTx true w top need 5 c L I K) (hn:need≤9) (f:L=L') (b:∀ I' O',K I' O'=d I' O'):HTx true w top 9 5 c L' I d:=
 H.conv hn (fv f) id id fun I' O' a=>⟨a,by rw [b];rfl,by rw [b];exact b6 _⟩
theorem abS (a:(bh s).isSome=true):akV J pl s ts e fr I []:=by
 have H:=(aq.he (ay _) (Ki pl J ⟨fun z=>.none,s,fun z=>ts,e,fr⟩) (by intros;exact tT) I fun z z z=>rfl).tx (nx:=true) (r:=fun z z=>.none)
 exact m8 H (ag rfl) (au _) fun z z=>congrArg (Prod.mk _) (au _)
theorem acl (a:VK) (u:Value) (c:(v8Of (a.as u)).isSome=true) (b:(bh s).isSome=true):akV J pl s ts e fr I [a.as u]:=by
 have H:=(aq.he (ay _) (F7 (pl,a) J ⟨fun z=>u,s,fun z=>ts,e,fr⟩) (by intros;exact tT) I fun z z z=>hbT c (hbT b rfl)).tx (nx:=true) (r:=fun z z=>.none)
 exact m8 H (ag rfl) (au _) fun z z=>congrArg (Prod.mk _) (au _)
theorem acg (a b:VK) (u v:Value) (d:(v8Of (a.as u)).isSome=true) (hv:(v8Of (b.as v)).isSome=true) (c:(bh s).isSome=true):akV J pl s ts e fr I [a.as u,b.as v]:=by
 have H:=(aq.he (ay _) (Ku (pl,a,b) J ⟨fun j=>[u,v].getD j .none,s,fun z=>ts,e,fr⟩) (by intros;exact tT) I fun z z z=>hbT hv (hbT c (hbT d (hbT c rfl)))).tx (nx:=true) (r:=fun z z=>.none)
 exact m8 H (ag rfl) (au _) fun z z=>congrArg (Prod.mk _) (au _)
theorem abE (a b c:VK) (u v z:Value) (f:(v8Of (a.as u)).isSome=true) (hv:(v8Of (b.as v)).isSome=true) (hz:(v8Of (c.as z)).isSome=true) (d:(bh s).isSome=true):akV J pl s ts e fr I [a.as u,b.as v,c.as z]:=by
 have H:=(aq.he (ay _) (Kc (pl,a,b,c) J ⟨fun j=>[u,v,z].getD j .none,s,fun Z=>ts,e,fr⟩) (by intros;exact tT) I fun Z Z Z=>hbT hz (hbT d (hbT hv (hbT d (hbT f (hbT d rfl)))))).tx (nx:=true) (r:=fun Z Z=>.none)
 exact m8 H (ag rfl) (au _) fun Z Z=>congrArg (Prod.mk _) (au _)
theorem S7 (k:List Value) (hl:k.length≤3) (hk:∀ u∈k,(v8Of u).isSome=true) (l:(bh s).isSome=true):akV J pl s ts e fr I k:=by
 match k,hl,hk with
 | [],_,_=>exact abS l
 | [u],_,hk=>
  have d:=hk u (by simp)
  obtain ⟨a,g⟩:=jm d
  rw [g] at d ⊢
  exact acl a u d l
 | [u,v],_,hk=>
  have d:=hk u (by simp)
  have j:=hk v (by simp)
  obtain ⟨a,g⟩:=jm d
  obtain ⟨b,hb⟩:=jm j
  have i:(v8Of (a.as u)).isSome=true:=by rw [← g];exact d
  have f:(v8Of (b.as v)).isSome=true:=by rw [← hb];exact j
  have key:=acg (J:=J) (pl:=pl) (ts:=ts) (e:=e) (fr:=fr) (I:=I) a b u v i f l
  rw [← g,← hb] at key
  exact key
 | [u,v,z],_,hk=>
  have d:=hk u (by simp)
  have j:=hk v (by simp)
  have n:=hk z (by simp)
  obtain ⟨a,g⟩:=jm d
  obtain ⟨b,hb⟩:=jm j
  obtain ⟨c,o⟩:=jm n
  have i:(v8Of (a.as u)).isSome=true:=by rw [← g];exact d
  have f:(v8Of (b.as v)).isSome=true:=by rw [← hb];exact j
  have m:(v8Of (c.as z)).isSome=true:=by rw [← o];exact n
  have key:=abE (J:=J) (pl:=pl) (ts:=ts) (e:=e) (fr:=fr) (I:=I) a b c u v z i f m l
  rw [← g,← hb,← o] at key
  exact key
 | _ :: _ :: _ :: _ :: _,h,_=>simp at h
end
def itN (p:Raw) (i:Nat):Nat→Nat→List Value
 | _,0=>[]
 | j,n + 1=>vN p i j :: itN p i (j + 1) n
def cK (l:List Value):Bool:=l.all fun u=>(v8Of u).isSome
theorem jo (p:Raw) (i:Nat):∀ (n j:Nat),(itN p i j n).length=n
 | 0,_=>rfl
 | n + 1,j=>congrArg (· + 1) (jo p i n (j + 1))
theorem vE (s:Str):∀ (a:List Value) (k:Nat) (O:ae8),(kQ s a k O).length=a.length
 | [],_,_=>rfl
 | u :: a,k,O=>congrArg (· + 1) (vE s a (k + 3) O)
noncomputable def anB (o:Obj):Value:=match o.data with
 | .cell (some v)=>v
 | _=>.none
def ZV (pl:Bool) (n:Nat) (hn:n≤3) (q:ae8) (J:WB):LG J where
 nx:=true
 P:=Raw
 fs:=[.num (q 0),.num (q 1),.num (q 2),.num (q 3),.num (q 4)]
 qt:=n
 q:=n
 it:=1 + 3 * n
 need:=9
 ext:=Raw.mk
 obl _ p:=([.hb (cK (itN p 1 0 n)),.hb (bh (aD (anB (uF p.os 4)))).isSome],[.hb true,.hb true])
 code I p:=.compStart (cPl pl) 0 (.ref (ad I 0)) (.ref (ad I 2)) (ePl pl (ad I 3) (ad I 4) (CN p.c))
 pre I p:=Qw (itN p 1 0 n) (aD (anB (uF p.os 4))) (ak (anB (uF p.os 4))) (ao [uF p.os 1]).2 I
 preX p:=p.X
 post I O p:=y0 J.p (itN p 1 0 n) (aD (anB (uF p.os 4))) (ak (anB (uF p.os 4))) (ao [uF p.os 1]).2 I O
 postX _ _ p:=p.X
 res _ _ _:=.none
 qle:=ai _
 olen _ _:=rfl
 len I O p:=by unfold y0;simp [vE,jo];lia
 ok p I a _:=by
  obtain ⟨b,a⟩:=aU a
  obtain ⟨f,-⟩:=aU a
  have H:=(S7 (J:=J) (pl:=pl) (I:=I) (ts:=ak (anB (uF p.os 4))) (e:=(ao [uF p.os 1]).2) (fr:=CN p.c) (itN p 1 0 n) (by rw [jo];exact hn) (fun u d=>Gt.mp b u d) f).frame (uU J.p p.X)
  unfold akV at H
  rw [jo] at H
  exact H
def am7:List Value→Bool
 | a :: b :: c :: l=>Gc a && Gc b && Yn c && l.isEmpty
 | _=>false
def am5 (o:Obj):Bool:=match o.cls with
 | .type T=>T == "tuple"
 | _=>false
def am6 (o:Obj):Bool:=match o.data with
 | .seq xs _=>am7 xs.toList
 | _=>false
def iK (o:Obj):Bool:=am5 o && am6 o
def t3 (o:Obj):(Int × Int) × Str:=((am (bN o 0),am (bN o 1)),aD (bN o 2))
noncomputable def eq3 (a b:(Int × Int) × Str):Bool:=a.1.1 == b.1.1 && a.1.2 == b.1.2 && a.2.cps.toList == b.2.cps.toList
def anyT3 (k:Obj):List Obj→Bool
 | []=>false
 | o :: os=>eq3 (t3 o) (t3 k) || anyT3 k os
theorem B9 {o:Obj} (h:iK o=true):o.cls=.type "tuple"∧∃ n a t b u s v,o.data=.seq ⟨[.int a t,.int b u,.str s v]⟩ n:=by
 obtain ⟨f,d⟩:=iR.mp h
 constructor
 · cases e:o.cls with
   | type T=>
    delta am5 at f
    rw [e] at f
    rw [eq_of_beq (show (T == "tuple")=true from f)]
   | _=>delta am5 at f;rw [e] at f;cases f
 · cases e:o.data with
   | seq xs n=>
    obtain ⟨l⟩:=xs
    delta am6 at d
    rw [e] at d
    cases l with
    | nil=>cases d
    | cons a l=>cases l with
     | nil=>cases d
     | cons b l=>cases l with
      | nil=>cases d
      | cons c l=>
     obtain ⟨h,g⟩:=iR.mp (show (Gc a && Gc b && Yn c && l.isEmpty)=true from d)
     obtain ⟨h,i⟩:=iR.mp h
     obtain ⟨f,d⟩:=iR.mp h
     exact ⟨n,_,_,_,_,_,_,by rw [Nh f,Nh d,Lz i,List.isEmpty_iff.mp g]⟩
   | _=>delta am6 at d;rw [e] at d;cases d
theorem Lm (x:V8) (b:Bool) (t:Tok) (O:ae8):iK (uT x b t O)=true:=by cases x<;>cases b<;>rfl
theorem Di {v:Value} {s:Str} (h:(v8Of v).isSome=true) (a:(bh s).isSome=true) (O:ae8):iK (d0 v s O)=true:=by
 obtain ⟨x,c⟩:=lw.mp h
 obtain ⟨b,hb⟩:=lw.mp a
 unfold d0
 rw [c,hb]
 exact Lm x b _ O
def iC (p:Raw):Nat→Nat→List Obj
 | _,0=>[]
 | j,n + 1=>uF p.os j :: iC p (j + 1) n
theorem kB (p:Raw):∀ (n j:Nat),(iC p j n).length=n
 | 0,_=>rfl
 | n + 1,j=>congrArg (· + 1) (kB p n (j + 1))
noncomputable def d4:Nat→Nat→List Fd
 | _,0=>[]
 | j,n + 1=>.item 0 j :: d4 (j + 1) n
theorem kn:∀ (n j:Nat),(d4 j n).length=n
 | 0,_=>rfl
 | n + 1,j=>congrArg (· + 1) (kn n (j + 1))
theorem wc {h:Heap} {k:Obj} (I:ae8):∀ (os:List Obj) (i:Nat),(∀ p,p∈tc I i os→h.get? p.1=some p.2) →
  (akw os.length i I).any (fun v=>match h.get? (i8 v) with | some o=>eq3 (t3 o) (t3 k) | none=>false)=anyT3 k os
 | [],_,_=>rfl
 | o :: os,i,H=>by
  have a:=H (ad I i,o) (gw ..)
  have c:=wc (k:=k) I os (i + 1) (fun p b=>H p (kt _ b))
  show ((match h.get? (ad I i) with | some o=>eq3 (t3 o) (t3 k) | none=>false) || (akw os.length (i + 1) I).any _)=_
  rw [a,c];rfl
theorem qp (I:ae8):∀ (os:List Obj) (i:Nat) (y:Value),y∈akw os.length i I→∃ a o,y=.ref a∧(a,o)∈tc I i os
 | [],_,_,h=>by cases h
 | o :: os,i,y,h=>by
  rcases b9.mp h with rfl | h
  · exact ⟨_,o,rfl,gw ..⟩
  · obtain ⟨a,c,e,b⟩:=qp I os (i + 1) y h
    exact ⟨a,c,e,kt _ b⟩
theorem RC {A:Around} {s:Shared} {a b:Addr} {o k:Obj} (x:s.heap.get? a=some o) (hk:s.heap.get? b=some k) (u:iK o=true) (r:iK k=true) (i:a ≠ b) (B:A.units < cLine):SeqAt.EqAt A s (.ref a) (.ref b) (eq3 (t3 o) (t3 k)):=by
 obtain ⟨c1,c⟩:=(B9 u)
 refine ex4 c fun n g y d c=>?_
 refine ex3 c fun w s1 v m=>?_
 obtain ⟨c2,c⟩:=(B9 r)
 refine ex4 c fun p f t2 h c=>?_
 refine ex3 c fun t s2 z d2=>?_
 refine SeqAt.EqAt.of_refs i ?_
 have key:=SeqAt.RcAt.tuples (A:=A) (s:=s) (l:=a) (b:=b) (items:=⟨[.int g y,.int d w,.str s1 v]⟩) (items2:=⟨[.int f t2,.int h t,.str s2 z]⟩) (e:=fun j=>match j with | 0=>g == f | 1=>d == h | _=>s1.cps.toList == s2.cps.toList)
  ⟨o,x,c1,n,m⟩ ⟨k,hk,c2,p,d2⟩ B (fun j q C=>by
   cases j with
   | zero=>exact SeqAt.EqAt.int_int _ _ _ _
   | succ j=>cases j with
    | zero=>exact SeqAt.EqAt.int_int _ _ _ _
    | succ j=>cases j with
     | zero=>exact (alN _ _ _ _).at _ _
     | succ j=>exact absurd q (D7.mpr (Nat.le_add_left 3 j)))
 have e1:eq3 (t3 o) (t3 k)=(g == f && d == h && s1.cps.toList == s2.cps.toList):=by
  unfold t3 bN
  rw [m,d2];rfl
 rw [e1]
 have e2:((List.range (min (3:Nat) 3)).all (fun j=>match j with | 0=>g == f | 1=>d == h | _=>s1.cps.toList == s2.cps.toList) && ((3:Nat) == 3))=(g == f && d == h && s1.cps.toList == s2.cps.toList):=by
  show ((g == f && (d == h && (s1.cps.toList == s2.cps.toList && true))) && true)=_
  simp [Bool.and_assoc]
 rw [← e2]
 exact key
noncomputable def OU (b:Option Bool) (x:Bool):Value:=match b with
 | none=>.bool x
 | some b=>.bool b
def Bi (w:World) (top:Tr) (n:Nat) (b:Option Bool):LC w top where
 P:=Raw
 fs:=.arg 0 :: .arg 1 :: d4 0 n
 qt:=0
 q:=0
 it:=0
 need:=3
 ext:=Raw.mk
 obl _ p:=([.hb ((iC p 1 (n + 1)).all iK),.hb (match b with | none=>true | some b=>anyT3 (uF p.os 1) (iC p 2 n) == b)],[.hb true,.hb true])
 code I p:=.call (.builtin "list.__contains__") ⟨[.ref (ad I 0),.ref (ad I 1)],[]⟩
 pre I p:=ab ⟨akw n 2 I⟩ (ao [uF p.os 0]).2 :: iC p 1 (n + 1)
 preX p:=p.X
 post I _ p:=ab ⟨akw n 2 I⟩ (ao [uF p.os 0]).2 :: iC p 1 (n + 1)
 postX _ _ p:=p.X
 res _ _ p:=OU b (anyT3 (uF p.os 1) (iC p 2 n))
 qle:=ai _
 olen _ _:=rfl
 len _ _ _:=by simp [kB,kn]
 ok p I G _:=by
  obtain ⟨N,G⟩:=aU G
  obtain ⟨M,-⟩:=aU G
  intro A R h g d tk os Q Y hb B K
  have E:(Fd.arg 0 :: Fd.arg 1 :: d4 0 n).length=n + 2:=by simp [kn]
  have l:∀ j,j < n + 2→ah (Fd.arg 0 :: Fd.arg 1 :: d4 0 n).length I j=I j:=fun j S=>aJ (by rw [E];exact S)
  have u:∀ (m i:Nat),i + m≤n + 2→akw m i (ah (Fd.arg 0 :: Fd.arg 1 :: d4 0 n).length I)=akw m i I:=by
   intro m
   induction m with
   | zero=>intro i X;rfl
   | succ m ih=>
    intro i J
    show Value.ref (ah _ I i + 1158) :: _=Value.ref (I i + 1158) :: _
    rw [l i (by lia),ih (i + 1) (by lia)]
  have L:ad (ah (Fd.arg 0 :: Fd.arg 1 :: d4 0 n).length I) 0=ad I 0:=by unfold ad;rw [l 0 (by lia)]
  have e1:ad (ah (Fd.arg 0 :: Fd.arg 1 :: d4 0 n).length I) 1=ad I 1:=by unfold ad;rw [l 1 (by lia)]
  have t:∀ o,o∈iC p 1 (n + 1)→iK o=true:=Gt.mp N
  have f:∀ q,q∈tc I 1 (iC p 1 (n + 1))→h.get? q.1=some q.2:=fun q hq=>(B.at_ q (uj _ (kt _ hq))).1
  have c:=(B.at_ (ad I 0,ab ⟨akw n 2 (ah (Fd.arg 0 :: Fd.arg 1 :: d4 0 n).length I)⟩ (ao [uF p.os 0]).2) (uj _ (gw ..))).1
  rw [u n 2 (by lia)] at c
  have c:h.get? (ad I 0)=some { cls:=.type "list",dict:=none,data:=.seq ⟨akw n 2 I⟩ (ao [uF p.os 0]).2,slots:=#[] }:=c
  have x:=f (ad I 1,uF p.os 1) (gw ..)
  have D:=t (uF p.os 1) (gw ..)
  have r:∀ q,q∈tc I 2 (iC p 2 n)→h.get? q.1=some q.2:=fun q hq=>f q (kt _ hq)
  have hnd:∀ q,q∈tc I 2 (iC p 2 n)→q.1 ≠ ad I 1:=fun q hq e=>by
   have nd:=B.nd
   rw [eQ,Ha] at nd
   have n1:=nd.1
   have n1:((ad I 0,_) :: (ad I 1,uF p.os 1) :: tc I 2 (iC p 2 n)).map (·.1) |>.Nodup:=n1
   simp only [Jv,K4] at n1
   exact n1.2.1 (kw.mpr ⟨q,hq,e⟩)
  show codeAny (model prog w) A (.call (.builtin "list.__contains__") ⟨[.ref (ad _ 0),.ref (ad _ 1)],[]⟩) R _
  rw [L,e1]
  refine ya als.plain al5 (als.check _ _ _ _ _ _ _ _ ⟨_,c,rfl⟩ (ama _ _) ?_)
  refine SeqAt.list_containsAt (ad I 0) ⟨akw n 2 I⟩ _ none #[] (.ref (ad I 1)) (fun v=>match h.get? (i8 v) with | some o=>eq3 (t3 o) (t3 (uF p.os 1)) | none=>false) prog w A R ⟨h,g,d,tk,os⟩ ⟨c,fun y z=>?_,?_⟩
  · have z:y∈akw n 2 I:=Jt.mpr z
    have z:y∈akw (iC p 2 n).length 2 I:=by rw [kB];exact z
    obtain ⟨a,o,rfl,F⟩:=qp I _ _ y z
    have H:=r _ F
    show SeqAt.EqAt _ _ (.ref a) _ (match h.get? a with | some o=>eq3 (t3 o) (t3 (uF p.os 1)) | none=>false)
    rw [show h.get? a=some o from H]
    have C:iK o=true:=by
     obtain ⟨i,Z,J,e⟩:=kl.mp F
     injection e with _ e
     subst e
     exact t _ (kt _ (alU J))
    refine RC (s:=⟨h,g,d,tk,os⟩) H x C D (hnd _ F) ?_
    have:=Q.units
    have e6:A.in1.units=A.units + 1:=rfl
    have W:cLine=9900:=rfl
    lia
  · have key:=K I (fun X=>0) h tk (fun X X=>rfl)
    have e3:=wc (h:=h) (k:=uF p.os 1) I (iC p 2 n) 2 r
    rw [kB] at e3
    have e4:(⟨akw n 2 I⟩:Array Value).any (fun v=>match h.get? (i8 v) with | some o=>eq3 (t3 o) (t3 (uF p.os 1)) | none=>false)=anyT3 (uF p.os 1) (iC p 2 n):=by
     rw [← alx];exact e3
    rw [e4]
    have hr:OU b (anyT3 (uF p.os 1) (iC p 2 n))=.bool (anyT3 (uF p.os 1) (iC p 2 n)):=by
     cases b with
     | none=>rfl
     | some b=>show Value.bool b=_;rw [eq_of_beq M]
    rw [← hr]
    refine key ?_ (fun a T=>.inl ?_) (fun b o e hn=>e) (ai _)
    · have e5:ah ((Fd.arg 0 :: Fd.arg 1 :: d4 0 n).length + 0) I=ah (Fd.arg 0 :: Fd.arg 1 :: d4 0 n).length I:=rfl
      exact B
    · exact T
inductive N4 where
 | n0 [h:Nonempty Nat] | n1 | n2 | n3
noncomputable def eN4:Enu N4:=⟨[.n0,.n1,.n2,.n3],by intro v;cases v<;>repeat constructor⟩
noncomputable def N4.n:N4→Nat
 | .n0=>0
 | .n1=>1
 | .n2=>2
 | .n3=>3
theorem N4.le (x:N4):x.n≤3:=by cases x<;>exact ag rfl
def itV (xs:Array Value):Nat→Nat→List Value
 | _,0=>[]
 | j,n + 1=>ae xs j :: itV xs (j + 1) n
noncomputable def qF:Nat→Nat
 | 0=>17
 | 1=>16
 | 2=>18
 | 3=>19
 | _=>10
def R4 (p:SVm) (k:VK) (O:ae8):Obj:=d0 (k.as ((getD p.c p.es).getD .none)) p.s (fl [O 35,O 36,O 37])
def SE (p:SVm) (n:N4) (O:ae8):List Obj:=kQ p.s (itV p.ys 0 n.n) 1 (fun j=>O (39 + j))
def Es (p:SVm) (n:N4) (k:VK) (b:Bool) (O:ae8):List Bool:=[(R4 p k O :: SE p n O).all iK,anyT3 (R4 p k O) (SE p n O) == b,cK (itV p.ys 0 n.n),(bh p.s).isSome]
def Js (p:SVm) (k:VK):List Bool:=[(v8Of (k.as ((getD p.c p.es).getD .none))).isSome,(bh p.s).isSome]++gN k p.c p.es
def Vj (c:Code):Bool:=isB "list.__contains__" c && amf c 1 3
def aaN (c:Code):Bool:=isB "list.__contains__" c && amf c 1 2
def jU (p:SVm) (n:N4):Obj:=ab ⟨.str p.s (p.t 20) :: itV p.ys 0 n.n⟩ p.ye
def VX (v:N4 × VK × Bool) (J:WB):List (SG J):=smS ((pT,ae9 _ _ 3) :: (aaN,dS _ _) :: (Vj,Bi _ _ v.1.n (some v.2.2)) :: (isB "len",(cW _ _).toLC) :: (isB "int.__ge__",iz _ _ false) :: (isB "dict.get",m9 _ _ v.2.1) :: (isB "dict.__getitem__",sG _ _ 7) :: (isR 1093 2,lE J) :: (of,ZV false v.1.n v.1.le qF J) :: []:CL J)
noncomputable def TN (v:N4 × VK × Bool):List Nat:=match v.2.2 with | false=>[0,7] | true=>[0]
noncomputable def UO (v:N4 × VK × Bool):List Nat:=match v.2.2 with | false=>(match v.1 with | .n0=>aec | .n1=>ad7 | .n2=>ad1 | .n3=>ad5) | true=>(match v.1 with | .n0=>(by walk_at "#iliai<") | .n1=>ad9 | .n2=>adT | .n3=>adW)
def vmf (v:N4 × VK × Bool) (P:Params):aq SVm:=akt.spec ((⟨8,0,0,2,11,479,true,acS,TN v,UO v⟩:akt) ) (fun p I=>.code (rnC (ad I 0) (ad I 1))) (fun p I=>vmO P p I false 7 J33 (.int 1 (p.t 14)) [jU p v.1]) (fun p=>none) (fun p I O=>.again (rnC (ad I 0) (ad I 1))) (fun p I O=>vmP P p I O J33 (.int 1 (p.t 14)) p.es p.he p.ss p.se p.oc p.oe (match v.2.2 with | true=>.int p.b (p.t 12) | false=>.int (Int.ofNat (p.pc + 1)) (O 1)) (p.t 6) (p.t 7) [jU p v.1]) (fun p I O=>none) (fun p I O=>(Es p v.1 v.2.1 v.2.2 O).map .hb++qh p++(Js p v.2.1).map .hb++qh p++.hb true :: jS p) (fun p I O=>bl (Es p v.1 v.2.1 v.2.2 O)++qd I++bl (Js p v.2.1)++qd I++.hb true :: kg I)
theorem I7 (v:N4 × VK × Bool) (J:WB) (p:SVm):(vmf v J.p).Runs J.w J.t (VX v J) p:=amK (eN4.pr (eVK.pr amJ)) (fun v J=>vmf v J.p) (fun v J=>VX v J) v J p
inductive Ins where
 | value (b:Int) (v:MV) | null (b:Int) | copy (a b:Int) | addi (a b:Int) | aff (a:Int) (f:AF) | mkr (a c:Int) | opn (nc:Bool) | idx (b:Int) | una (a b:Int)
 | once (a:Int) (b:Nat) | isn (a:Int) (b:Nat) | rew (b:Nat) | fnd (b:Nat) (c:Int) | goto (b:Nat) | gosub (a:Int) (b:Nat) | ret (a:Int) | halt
structure AS where
 pc:Nat
 held:List (Int × MV)
 set:Option (Bool × List V8)
 done:List Int
noncomputable def fJ (k:Int):List (Int × MV)→Option MV
 | []=>none
 | (i,v) :: m=>match PySem.W.Z.eqB i k with
  | true=>some v
  | false=>fJ k m
noncomputable def jz (k:Int) (v:MV):List (Int × MV)→List (Int × MV)
 | []=>[(k,v)]
 | (i,x) :: m=>match PySem.W.Z.eqB i k with
  | true=>(i,v) :: m
  | false=>(i,x) :: jz k v m
noncomputable def kO (k:Int):List Int→Bool
 | []=>false
 | i :: m=>match PySem.W.Z.eqB i k with
  | true=>true
  | false=>kO k m
def nZ (k:Int) (m:List Int):List Int:=match kO k m with
 | true=>m
 | false=>m++[k]
def cN (k:Int) (m:List (Int × MV)):MV:=(fJ k m).getD .n
def MV.v8 (m:MV):Option V8:=v8Of (m.v 0)
def V8.mv:V8→MV
 | .n=>.n
 | .i0=>.i 0
 | .i1=>.i 1
 | .i2=>.i 2
 | .a=>.s (sv J76)
 | .A=>.s (sv J89)
 | .s2=>.s (sv J72)
 | .b=>.s (sv J95)
 | .s0=>.s (sv J79)
 | .s1=>.s (sv J73)
def qc (x:V8) (f:AF):MV:=match f with
 | .txt=>(match x with
  | .i0=>.s (sv J79)
  | .i1=>.s (sv J73)
  | .i2=>.s (sv J72)
  | x=>x.mv)
 | _=>(match x with
  | .s2=>.i 2
  | x=>x.mv)
def zR (x:V8) (nc:Bool):(Int × Int) × Str:=t3 (uT x nc 0 (fun z=>0))
def fndA (nc:Bool) (k:V8):List V8→Bool
 | []=>false
 | x :: xs=>eq3 (zR x nc) (zR k nc) || fndA nc k xs
noncomputable def AS.next (s:AS):AS:={ s with pc:=s.pc + 1 }
def AS.put (s:AS) (k:Int) (v:MV):AS:={ s with pc:=s.pc + 1,held:=jz k v s.held }
noncomputable def AS.to (s:AS) (b:Nat):AS:={ s with pc:=b }
noncomputable def AS.jump (s:AS) (c:Bool) (b:Nat):AS:=match c with
 | true=>s.to b
 | false=>s.next
def AS.step (s:AS) (i:Ins):Option AS:=match i with
 | .value b v=>some (s.put b v)
 | .null b=>some (s.put b .n)
 | .copy a b=>some (s.put b (cN a s.held))
 | .addi a b=>(match (fJ a s.held).getD (.i 0) with
  | .i x=>some (s.put a (.i (x + b)))
  | _=>none)
 | .aff a f=>(match (cN a s.held).v8 with
  | some x=>some (s.put a (qc x f))
  | none=>none)
 | .mkr a c=>some (s.put c (cN a s.held))
 | .opn nc=>some { s.next with set:=some (nc,[]) }
 | .idx b=>(match s.set,(cN b s.held).v8 with
  | some (nc,xs),some x=>some { s.next with set:=some (nc,xs++[x]) }
  | _,_=>none)
 | .una a b=>(match fJ a s.held with
  | some (.i x)=>some (s.put b (.i (1 - x)))
  | some (.s _)=>none
  | _=>some (s.put b .n))
 | .once a b=>some { s.jump (kO a s.done) b with done:=nZ a s.done }
 | .isn a b=>some (s.jump (match cN a s.held with | .n=>true | _=>false) b)
 | .rew b=>(match s.set with
  | some (_,[])=>some (s.to b)
  | some (_,_)=>some s.next
  | none=>none)
 | .fnd b c=>(match s.set,(cN c s.held).v8 with
  | some (nc,xs),some k=>(match Nat.ble xs.length 3 with
   | true=>some (s.jump (fndA nc k xs) b)
   | false=>none)
  | _,_=>none)
 | .goto b=>some (s.to b)
 | .gosub a b=>some { s.to b with held:=jz a (.i (Int.ofNat (s.pc + 1))) s.held }
 | .ret a=>(match fJ a s.held with
  | some (.i (.ofNat x))=>some (s.to x)
  | _=>none)
 | .halt=>none
def Ins.isV:Ins→Bool
 | .value ..=>true
 | _=>false
def Ins.halts:Ins→Bool
 | .halt=>true
 | _=>false
theorem Ins.halt_of {i:Ins} (h:i.halts=true):i=.halt:=by
 cases i with
 | halt=>rfl
 | _=>cases h
def AS.runC (b:Bool) (s:AS) (o:Option AS) (k:AS→Option AS):Option AS:=match b with
 | true=>some s
 | false=>match o with
  | none=>none
  | some s'=>k s'
def AS.runA (x:Option Ins) (s:AS) (k:AS→Option AS):Option AS:=match x with
 | none=>none
 | some i=>AS.runC i.halts s (s.step i) k
def AS.run (pr:List Ins):Nat→AS→Option AS
 | 0,_=>none
 | n + 1,s=>AS.runA pr[s.pc]? s (AS.run pr n)
noncomputable def bZ:List DictEntry→List (Int × MV)→Prop
 | [],[]=>True
 | e :: es,(k,v) :: m=>(∃ t u,e=⟨hashInt k,.int k t,v.v u⟩)∧bZ es m
 | _,_=>False
theorem bZ.len:∀ {es:List DictEntry} {m:List (Int × MV)},bZ es m→es.length=m.length
 | [],[],_=>rfl
 | _ :: _,(_,_) :: _,h=>by simp [bZ.len h.2]
 | [],_ :: _,h=>h.elim
 | _ :: _,[],h=>h.elim
theorem kI (k:Int):PySem.W.Z.eqB k k=true:=(FF k k).mpr rfl
theorem bZ.ikT:∀ {es:List DictEntry} {m:List (Int × MV)},bZ es m→ikB es=true
 | [],[],_=>rfl
 | e :: es,(k,v) :: m,h=>by
  obtain ⟨⟨t,u,rfl⟩,a⟩:=h
  show (PySem.W.Z.eqB (hashInt k) (hashInt k) && ikB es)=true
  rw [kI,bZ.ikT a];rfl
 | [],_ :: _,h=>h.elim
 | _ :: _,[],h=>h.elim
theorem bZ.get (a:Int):∀ {es:List DictEntry} {m:List (Int × MV)},bZ es m→match fJ a m with
  | some v=>∃ u,getD a es=some (v.v u)
  | none=>getD a es=none
 | [],[],_=>rfl
 | e :: es,(k,v) :: m,h=>by
  obtain ⟨⟨t,u,rfl⟩,b⟩:=h
  have ih:=bZ.get a b
  have e1:fJ a ((k,v) :: m)=match PySem.W.Z.eqB k a with | true=>some v | false=>fJ a m:=rfl
  have e2:getD a (⟨hashInt k,.int k t,v.v u⟩ :: es)=match PySem.W.Z.eqB k a with | true=>some (v.v u) | false=>getD a es:=rfl
  rw [e1,e2]
  cases PySem.W.Z.eqB k a with
  | true=>exact ⟨u,rfl⟩
  | false=>exact ih
 | [],_ :: _,h=>h.elim
 | _ :: _,[],h=>h.elim
theorem bZ.set (a:Int) (t:Tok) (v:MV) (u:Tok):∀ {es:List DictEntry} {m:List (Int × MV)},bZ es m→bZ (cI a t (v.v u) es) (jz a v m)
 | [],[],_=>⟨⟨t,u,rfl⟩,trivial⟩
 | e :: es,(k,x) :: m,h=>by
  obtain ⟨⟨b,c,rfl⟩,d⟩:=h
  have ih:=bZ.set a t v u d
  have e1:jz a v ((k,x) :: m)=match PySem.W.Z.eqB k a with | true=>(k,v) :: m | false=>(k,x) :: jz a v m:=rfl
  have e2:cI a t (v.v u) (⟨hashInt k,.int k b,x.v c⟩ :: es)=match PySem.W.Z.eqB k a with | true=>⟨hashInt k,.int k b,v.v u⟩ :: es | false=>⟨hashInt k,.int k b,x.v c⟩ :: cI a t (v.v u) es:=rfl
  rw [e1,e2]
  cases PySem.W.Z.eqB k a with
  | true=>exact ⟨⟨b,u,rfl⟩,d⟩
  | false=>exact ⟨⟨b,c,rfl⟩,ih⟩
 | [],_ :: _,h=>h.elim
 | _ :: _,[],h=>h.elim
theorem bZ.gtM {es:List DictEntry} {m:List (Int × MV)} (a:Int) (h:bZ es m):∃ u,(getD a es).getD .none=(cN a m).v u:=by
 have:=h.get a
 unfold cN
 cases b:fJ a m with
 | none=>rw [b] at this;exact ⟨0,by rw [this];rfl⟩
 | some v=>rw [b] at this;obtain ⟨u,c⟩:=this;exact ⟨u,by rw [c];rfl⟩
noncomputable def cS:List DictEntry→List Int→Prop
 | [],[]=>True
 | e :: es,k :: m=>(∃ t,e=⟨hashInt k,.int k t,.bool true⟩)∧cS es m
 | _,_=>False
theorem cS.len:∀ {es:List DictEntry} {m:List Int},cS es m→es.length=m.length
 | [],[],_=>rfl
 | _ :: _,_ :: _,h=>by simp [cS.len h.2]
 | [],_ :: _,h=>h.elim
 | _ :: _,[],h=>h.elim
theorem cS.ikT:∀ {es:List DictEntry} {m:List Int},cS es m→ikB es=true
 | [],[],_=>rfl
 | e :: es,k :: m,h=>by
  obtain ⟨⟨t,rfl⟩,a⟩:=h
  show (PySem.W.Z.eqB (hashInt k) (hashInt k) && ikB es)=true
  rw [kI,cS.ikT a];rfl
 | [],_ :: _,h=>h.elim
 | _ :: _,[],h=>h.elim
theorem cS.mem (a:Int):∀ {es:List DictEntry} {m:List Int},cS es m→(getD a es).isSome=kO a m
 | [],[],_=>rfl
 | e :: es,k :: m,h=>by
  obtain ⟨⟨t,rfl⟩,b⟩:=h
  have ih:=cS.mem a b
  show (match PySem.W.Z.eqB k a with | true=>some (Value.bool true) | false=>getD a es).isSome=match PySem.W.Z.eqB k a with | true=>true | false=>kO a m
  cases PySem.W.Z.eqB k a with
  | true=>rfl
  | false=>exact ih
 | [],_ :: _,h=>h.elim
 | _ :: _,[],h=>h.elim
theorem cS.set (a:Int) (t:Tok):∀ {es:List DictEntry} {m:List Int},cS es m→cS (cI a t (.bool true) es) (nZ a m)
 | [],[],_=>⟨⟨t,rfl⟩,trivial⟩
 | e :: es,k :: m,h=>by
  obtain ⟨⟨b,rfl⟩,d⟩:=h
  have ih:=cS.set a t d
  have e2:cI a t (.bool true) (⟨hashInt k,.int k b,.bool true⟩ :: es)=match PySem.W.Z.eqB k a with | true=>⟨hashInt k,.int k b,.bool true⟩ :: es | false=>⟨hashInt k,.int k b,.bool true⟩ :: cI a t (.bool true) es:=rfl
  have e1:kO a (k :: m)=match PySem.W.Z.eqB k a with | true=>true | false=>kO a m:=rfl
  unfold nZ at ih ⊢
  rw [e2,e1]
  cases PySem.W.Z.eqB k a with
  | true=>exact ⟨⟨b,rfl⟩,d⟩
  | false=>
   cases c:kO a m with
   | true=>rw [c] at ih;exact ⟨⟨b,rfl⟩,ih⟩
   | false=>rw [c] at ih;exact ⟨⟨b,rfl⟩,ih⟩
 | [],_ :: _,h=>h.elim
 | _ :: _,[],h=>h.elim
noncomputable def bk:List Value→List V8→Prop
 | [],[]=>True
 | y :: ys,x :: xs=>(∃ u,y=x.v u)∧bk ys xs
 | _,_=>False
theorem bk.len:∀ {ys:List Value} {xs:List V8},bk ys xs→ys.length=xs.length
 | [],[],_=>rfl
 | _ :: _,_ :: _,h=>by simp [bk.len h.2]
 | [],_ :: _,h=>h.elim
 | _ :: _,[],h=>h.elim
theorem bk.push {x:V8} {u:Tok}:∀ {ys:List Value} {xs:List V8},bk ys xs→bk (ys++[x.v u]) (xs++[x])
 | [],[],_=>⟨⟨u,rfl⟩,trivial⟩
 | _ :: _,_ :: _,h=>⟨h.1,bk.push h.2⟩
 | [],_ :: _,h=>h.elim
 | _ :: _,[],h=>h.elim
theorem bk.all:∀ {ys:List Value} {xs:List V8},bk ys xs→cK ys=true
 | [],[],_=>rfl
 | y :: ys,x :: xs,h=>by
  obtain ⟨⟨u,rfl⟩,a⟩:=h
  show ((v8Of (x.v u)).isSome && cK ys)=true
  rw [cV,bk.all a];rfl
 | [],_ :: _,h=>h.elim
 | _ :: _,[],h=>h.elim
theorem T4 (x:V8) (nc:Bool) (t:Tok) (O:ae8):t3 (uT x nc t O)=zR x nc:=by cases x<;>cases nc<;>rfl
theorem akL (x:V8) (nc:Bool) (u:Tok) (O:ae8):t3 (d0 (x.v u) (aA nc) O)=zR x nc:=by
 unfold d0
 rw [cV,cY]
 exact T4 x nc _ _
theorem yf (x:V8) (nc:Bool) (u:Tok) (O:ae8):iK (d0 (x.v u) (aA nc) O)=true:=Di (by rw [cV];rfl) (by rw [cY];rfl) _
theorem zl (nc:Bool) (k:V8) {ko:Obj} (hk:t3 ko=zR k nc):∀ {ys:List Value} {xs:List V8} (j:Nat) (O:ae8),bk ys xs→anyT3 ko (kQ (aA nc) ys j O)=fndA nc k xs∧(kQ (aA nc) ys j O).all iK=true
 | [],[],_,_,_=>⟨rfl,rfl⟩
 | y :: ys,x :: xs,j,O,h=>by
  obtain ⟨⟨u,rfl⟩,a⟩:=h
  obtain ⟨i1,i2⟩:=zl nc k hk (j + 3) O a
  constructor
  · show (eq3 (t3 (d0 (x.v u) (aA nc) _)) (t3 ko) || anyT3 ko (kQ (aA nc) ys (j + 3) O))=_
    rw [akL,hk,i1];rfl
  · show (iK (d0 (x.v u) (aA nc) _) && (kQ (aA nc) ys (j + 3) O).all iK)=true
    rw [yf,i2];rfl
 | [],_ :: _,_,_,h=>h.elim
 | _ :: _,[],_,_,h=>h.elim
theorem MV.v8_eq {m:MV} {x:V8} (h:m.v8=some x):m=x.mv:=by
 unfold MV.v8 at h
 have:=ew h
 cases m<;>cases x<;>first | rfl | (injection this;done) | (injection this with a b;rw [a];rfl)
theorem V8.mv_v (x:V8) (t:Tok):x.mv.v t=x.v t:=by cases x<;>rfl
theorem MV.v8Of (m:MV) (t:Tok):v8Of (m.v t)=m.v8:=by cases m<;>rfl
theorem Ul (x:V8) (f:AF) (t u:Tok):∃ z,oM x f t u=(qc x f).v z:=by
 cases x<;>cases f<;>first | exact ⟨t,rfl⟩ | exact ⟨u,rfl⟩
noncomputable def nuL (l:List Nat) (j:Nat):Nat:=l.getD j 0 - 1158
theorem kA (l:List Nat):ah l.length (nuL l)=nuL l:=by
 funext j
 by_cases h:j < l.length
 · exact aJ h
 · rw [dv (by lia)]
   unfold nuL
   rw [List.getD_eq_getElem?_getD,List.getElem?_eq_none_iff.mpr (by lia)]
   rfl
theorem aB {l:List Nat} (b:∀ a∈l,1158≤a) {j:Nat} {a:Nat} (h:l[j]? = some a):ad (nuL l) j=a:=by
 have:=b a (alU h)
 unfold ad nuL
 rw [List.getD_eq_getElem?_getD,h]
 show a - 1158 + 1158=a
 lia
theorem Ah {I:ae8}:∀ {l:List Nat} {os:List Obj} {i:Nat},(∀ (j a:Nat),l[j]? = some a→ad I (i + j)=a)→os.length=l.length→tc I i os=List.zip l os
 | [],[],_,_,_=>rfl
 | a :: l,o :: os,i,h,hl=>by
  have c:=h 0 a rfl
  show (ad I i,o) :: tc I (i + 1) os=(a,o) :: List.zip l os
  rw [Ah (l:=l) (fun j b d=>by rw [alZ];exact h (j + 1) b d) (by simpa using hl)]
  rw [Nat.add_zero] at c
  rw [c]
 | [],_ :: _,_,_,hl=>by cases hl
 | _ :: _,[],_,_,hl=>by cases hl
theorem HR.of_has {w:World} {top:Tr} {need:Nat} {st:bx} {L:XL} {P:En→XL→Prop} (H:(∀ p∈L,1158≤p.1)→(L.map (·.1)).Nodup→HR w top need st L P):HR w top need st L P:=
 fun A R h g d tk os f c hb a e=>H (fun p b=>(a.at_ p b).2) a.nd A R h g d tk os f c hb a e
theorem aq.hrZ {V:Type} {w:World} {top:Tr} {M:aq V} {p:V} (hT:akC top) {S:List (Sum w top)} (run:M.Runs w top S p) (ok:M.Ok p) (hq:M.q=0) (f:M.preX p=none) (c:∀ I O,M.postX p I O=none)
  (l:List Nat) (hl:l.length=M.k) (b:∀ a∈l,1158≤a) (hb:∀ I' O,(∀ j,j < M.k→I' j=nuL l j)→M.ys p I' O=M.zs p I' O) :
  HR w top M.need (M.st p (nuL l)) (List.zip l (M.pre p (nuL l))) (fun e L'=>∃ O,e=M.e p (nuL l) O∧L'=List.zip l (M.post p (nuL l) O)):=by
 have H:=aq.hr0 hT run ok hq (nuL l) hb
 have g:ah M.k (nuL l)=nuL l:=by rw [← hl];exact kA l
 simp only [g,f,c,uU,au] at H
 have hz:∀ os:List Obj,os.length=l.length→tc (nuL l) 0 os=List.zip l os:=fun os h=>Ah (fun j a d=>by rw [JG];exact aB b d) h
 rw [hz _ (by rw [ok.hk,hl])] at H
 refine H.mono (ai _) <| elB fun O=>?_
 refine ⟨ah M.it O,rfl,hz _ ?_⟩
 have m:=ok.hol (nuL l) (ah M.it O)
 have i:=ok.hq
 lia
def cB (P:Params) (p:SVm) (first:Bool) (o h s c:Nat):List DictEntry:=[dF P J49 (p.t 0) (.ref o),dF P J21 (p.t 1) (.ref h),dF P J46 (p.t 2) (.int (Int.ofNat p.pc) (p.t 3)),dF P J81 (p.t 4) (.ref c),dF P J65 (p.t 5) (.ref s)] ++
 (match first with | true=>[] | false=>[dF P J70 (p.t 6) p.tn,dF P J8 (p.t 7) (.ref p.o)])
noncomputable def epV:Bool→Nat
 | true=>5
 | false=>7
theorem VO.ep_is (v:VO):v.ep=epV v.first:=by cases v<;>rfl
def bc (P:Params) (p:SVm) (first:Bool) (i r it f o h s c:Nat):XL:=[(it,rgO i r),(f,frO (cB P p first o h s c) (epV first)),(o,ab p.xs p.xe),(h,uN p.es p.he),(s,uN p.ss p.se),(c,uN p.oc p.oe)]
noncomputable def SVm.nxt (p:SVm) (k:Nat) (tk t6 t7 a:Tok) (row:Nat) (es:List DictEntry) (he:Nat) (ss:List DictEntry) (se:Nat) (oc:List DictEntry) (oe:Nat):SVm:=
 { p with pc:=k,tn:=.int (Int.ofNat p.i) a,o:=row,t:=fun j=>match j with | 3=>tk | 6=>t6 | 7=>t7 | j=>p.t j,es:=es,he:=he,ss:=ss,se:=se,oc:=oc,oe:=oe }
structure jI (p:SVm) (row:Nat):Prop where
 item:p.xs[p.pc]? = some (.ref row)
 size:p.xs.size≤16777216
theorem jI.std {p:SVm} {row:Nat} (H:jI p row) {I:ae8} (h:ad I 3=row):jS p=kg I:=by
 have f:p.pc < p.xs.size:=by
  have:=Array.getElem?_eq_some_iff.mp H.item
  exact this.1
 have e:=H.size
 have b:inB p.xs (Int.ofNat p.pc)=true:=by
  show (Nat.blt p.pc p.xs.size && Nat.blt p.pc 9000000000000000000)=true
  rw [show Nat.blt p.pc p.xs.size=true from aF f,show Nat.blt p.pc 9000000000000000000=true from aF (by lia)]
  rfl
 have a:=(n5 b).2.2
 have a:p.xs[p.pc]? = some (ae p.xs p.pc):=a
 rw [H.item] at a
 injection a with a
 have d:geI (Int.ofNat p.pc) (Int.ofNat p.xs.size)=false:=by
  unfold geI
  refine Na fun q=>?_
  have q:((p.xs.size:Nat):Int)≤((p.pc:Nat):Int):=q
  lia
 have c:Nat.ble p.xs.size 16777216=true:=aF e
 unfold jS kg
 rw [b,d,c,show ae p.xs (Int.toNat (Int.ofNat p.pc))=.ref row from a.symm,h]
theorem ch {l:List Bool} (h:∀ b∈l,b=true):l.map OV.hb=bl l:=by
 unfold bl
 exact List.map_congr_left fun b hb=>by rw [h b hb]
section
variable (J:WB)
theorem ZB (v:VO) (p:SVm) (it f o row h s c:Nat) (d:∀ a∈[it,f,o,row,h,s,c],1158≤a) (hr:jI p row) (g:∀ O,(v.obl p O).map OV.hb=v.want p O) (hv:∀ O,∃ k tk,v.pc p O=.int (Int.ofNat k) tk) :
  HRG J 5 (.code (rnC it f)) (bc J.p p v.first p.i (p.r + 1) it f o h s c++[(row,ah7 p v.nm (v.v4 p.v))])
   (fun e L'=>e=.again (rnC it f)∧∃ O k tk t6 t7 u,v.pc p O=.int (Int.ofNat k) tk ∧
    L'.Perm (bc J.p (p.nxt k tk t6 t7 u row (qe (v.put p O) p.es) (sJ (v.put p O) p.es p.he) p.ss p.se (v.once p) (v.oncE p)) false (p.i + 1) p.r it f o h s c++[(row,ah7 p v.nm (v.v4 p.v))])):=by
 have b:∀ (j a:Nat),[it,f,o,row,h,s,c][j]? = some a→ad (nuL [it,f,o,row,h,s,c]) j=a:=fun j a m=>aB d m
 have H:=aq.hrZ (ay _) (Mf v J p) (by intros;exact tT) rfl rfl (fun z z=>rfl) [it,f,o,row,h,s,c] rfl d (fun I' O l=>by
  have n:ad I' 3=row:=by
   have:ad I' 3=ad (nuL [it,f,o,row,h,s,c]) 3:=by unfold ad;rw [l 3 (by show 3 < 7;lia)]
   rw [this];exact b 3 row rfl
  show (v.obl p O).map OV.hb++.hb true :: jS p=v.want p O++.hb true :: kg I'
  rw [g O,hr.std n])
 have q:(JM v J.p p (nuL [it,f,o,row,h,s,c]))=.code (rnC it f):=by
  show bx.code (rnC (ad _ 0) (ad _ 1))=_
  rw [b 0 it rfl,b 1 f rfl]
 have H:HR _ _ 5 (JM v J.p p (nuL [it,f,o,row,h,s,c])) _ _:=H
 rw [q] at H
 refine (H.perm (L':=bc J.p p v.first p.i (p.r + 1) it f o h s c++[(row,ah7 p v.nm (v.v4 p.v))]) ?_).mono (ai _) <| elB fun O=>?_
 · have e1:List.zip [it,f,o,row,h,s,c] ((vm v J.p).pre p (nuL [it,f,o,row,h,s,c]))=[(it,rgO p.i (p.r + 1)),(f,frO (cB J.p p v.first o h s c) (epV v.first)),(o,ab p.xs p.xe),(row,ah7 p v.nm (v.v4 p.v)),(h,uN p.es p.he),(s,uN p.ss p.se),(c,uN p.oc p.oe)]:=by
    show [(it,rgO p.i (p.r + 1)),(f,frO (frV _ p v.first (nuL [it,f,o,row,h,s,c])) v.ep),(o,ab p.xs p.xe),(row,ah7 p v.nm (v.v4 p.v)),(h,uN p.es p.he),(s,uN p.ss p.se),(c,uN p.oc p.oe)]=_
    rw [VO.ep_is]
    unfold frV cB
    rw [b 2 o rfl,b 4 h rfl,b 5 s rfl,b 6 c rfl]
    all_goals (cases v.first<;>rfl)
   rw [e1]
   exact (Mt (l₁:=[(row,ah7 p v.nm (v.v4 p.v))]) (l₂:=[(h,uN p.es p.he),(s,uN p.ss p.se),(c,uN p.oc p.oe)])).append_left [(it,rgO p.i (p.r + 1)),(f,frO (cB J.p p v.first o h s c) (epV v.first)),(o,ab p.xs p.xe)]
 · refine ⟨by show En.again (rnC (ad _ 0) (ad _ 1))=_;rw [b 0 it rfl,b 1 f rfl],O,?_⟩
   obtain ⟨k,tk,hk⟩:=hv O
   refine ⟨k,tk,v.t6 p O,v.t7 p O,O 0,hk,?_⟩
   have e1:List.zip [it,f,o,row,h,s,c] ((vm v J.p).post p (nuL [it,f,o,row,h,s,c]) O)=[(it,rgO (p.i + 1) p.r),(f,frO (cB J.p (p.nxt k tk (v.t6 p O) (v.t7 p O) (O 0) row (qe (v.put p O) p.es) (sJ (v.put p O) p.es p.he) p.ss p.se (v.once p) (v.oncE p)) false o h s c) 7),(o,ab p.xs p.xe),(row,ah7 p v.nm (v.v4 p.v)),(h,uN (qe (v.put p O) p.es) (sJ (v.put p O) p.es p.he)),(s,uN p.ss p.se),(c,uN (v.once p) (v.oncE p))]:=by
    show [(it,rgN p.i p.r),(f,frO [dF _ J49 (p.t 0) (.ref (ad (nuL [it,f,o,row,h,s,c]) 2)),dF _ J21 (p.t 1) (.ref (ad (nuL [it,f,o,row,h,s,c]) 4)),dF _ J46 (p.t 2) (v.pc p O),dF _ J81 (p.t 4) (.ref (ad (nuL [it,f,o,row,h,s,c]) 6)),dF _ J65 (p.t 5) (.ref (ad (nuL [it,f,o,row,h,s,c]) 5)),dF _ J70 (v.t6 p O) (.int (Int.ofNat p.i) (O 0)),dF _ J8 (v.t7 p O) (.ref (ad (nuL [it,f,o,row,h,s,c]) 3))] 7),(o,ab p.xs p.xe),(row,ah7 p v.nm (v.v4 p.v)),(h,uN (qe (v.put p O) p.es) (sJ (v.put p O) p.es p.he)),(s,uN p.ss p.se),(c,uN (v.once p) (v.oncE p))]=_
    rw [ug,hk,b 2 o rfl,b 4 h rfl,b 5 s rfl,b 6 c rfl,b 3 row rfl]
    rfl
   rw [e1]
   exact (Mt (l₁:=[(row,ah7 p v.nm (v.v4 p.v))]) (l₂:=[(h,uN (qe (v.put p O) p.es) (sJ (v.put p O) p.es p.he)),(s,uN p.ss p.se),(c,uN (v.once p) (v.oncE p))])).append_left [(it,rgO (p.i + 1) p.r),(f,frO (cB J.p (p.nxt k tk (v.t6 p O) (v.t7 p O) (O 0) row (qe (v.put p O) p.es) (sJ (v.put p O) p.es p.he) p.ss p.se (v.once p) (v.oncE p)) false o h s c) 7),(o,ab p.xs p.xe)]
end
noncomputable def pcJ (v:Bool) (p:SVm) (O:ae8):Value:=match v with
 | true=>.int p.b (p.t 12)
 | false=>.int (Int.ofNat (p.pc + 1)) (O 1)
section
variable {J:WB}
theorem nr {M:aq SVm} {S:List (SG J)} (p:SVm) (run:M.Runs J.w J.t S p) (ok:M.Ok p) (y:M.need≤11) (hq:M.q=0) (K:M.preX p=none) (E:∀ I O,M.postX p I O=none)
  (it f o row h s c:Nat) (b:List Nat) (hk:(it :: f :: o :: row :: h :: s :: c :: b).length=M.k) (A:∀ a∈it :: f :: o :: row :: h :: s :: c :: b,1158≤a) (n:List Nat) (v:Value) (z:List Obj)
  (D:∀ I,M.st p I=.code (rnC (ad I 0) (ad I 1)))
  (C:M.pre p (nuL (it :: f :: o :: row :: h :: s :: c :: b))=vmO J.p p (nuL (it :: f :: o :: row :: h :: s :: c :: b)) false 7 n v z)
  (F:∀ I O,M.e p I O=.again (rnC (ad I 0) (ad I 1)))
  (g:(Nat→Nat)→List DictEntry) (d:(Nat→Nat)→Nat) (u:(Nat→Nat)→Value) (m:(Nat→Nat)→List Obj)
  (x:∀ O,M.post p (nuL (it :: f :: o :: row :: h :: s :: c :: b)) O=vmP J.p p (nuL (it :: f :: o :: row :: h :: s :: c :: b)) O n v (g O) (d O) p.ss p.se p.oc p.oe (u O) (p.t 6) (p.t 7) (m O))
  (hb:∀ I' O,(∀ j,j < M.k→I' j=nuL (it :: f :: o :: row :: h :: s :: c :: b) j)→M.ys p I' O=M.zs p I' O) (hv:∀ O,∃ k tk,u O=.int (Int.ofNat k) tk) :
  HRG J 11 (.code (rnC it f)) (bc J.p p false p.i (p.r + 1) it f o h s c++(row,ah7 p n v) :: List.zip b z)
   (fun e L'=>e=.again (rnC it f)∧∃ O k tk t6 t7 L,u O=.int (Int.ofNat k) tk ∧
    L'.Perm (bc J.p (p.nxt k tk t6 t7 L row (g O) (d O) p.ss p.se p.oc p.oe) false (p.i + 1) p.r it f o h s c++(row,ah7 p n v) :: List.zip b (m O))):=by
 have l:∀ (j a:Nat),(it :: f :: o :: row :: h :: s :: c :: b)[j]? = some a→ad (nuL (it :: f :: o :: row :: h :: s :: c :: b)) j=a:=fun j a G=>aB A G
 have H:=aq.hrZ (ay _) run ok hq K E _ hk A hb
 rw [D,l 0 it rfl,l 1 f rfl] at H
 refine (H.perm (L':=bc J.p p false p.i (p.r + 1) it f o h s c++(row,ah7 p n v) :: List.zip b z) ?_).mono y <| elB fun O=>?_
 · have e1:List.zip (it :: f :: o :: row :: h :: s :: c :: b) (M.pre p (nuL (it :: f :: o :: row :: h :: s :: c :: b)))=[(it,rgO p.i (p.r + 1)),(f,frO (cB J.p p false o h s c) 7),(o,ab p.xs p.xe)]++((row,ah7 p n v) :: [(h,uN p.es p.he),(s,uN p.ss p.se),(c,uN p.oc p.oe)]++List.zip b z):=by
    rw [C]
    show [(it,rgO p.i (p.r + 1)),(f,frO (frV _ p false (nuL (it :: f :: o :: row :: h :: s :: c :: b))) 7),(o,ab p.xs p.xe)]++((row,ah7 p n v) :: [(h,uN p.es p.he),(s,uN p.ss p.se),(c,uN p.oc p.oe)]++List.zip b z)=_
    unfold frV cB
    rw [l 2 o rfl,l 4 h rfl,l 5 s rfl,l 6 c rfl]
   rw [e1]
   show ([(it,rgO p.i (p.r + 1)),(f,frO (cB J.p p false o h s c) 7),(o,ab p.xs p.xe)]++((row,ah7 p n v) :: ([(h,uN p.es p.he),(s,uN p.ss p.se),(c,uN p.oc p.oe)]++List.zip b z))).Perm ([(it,rgO p.i (p.r + 1)),(f,frO (cB J.p p false o h s c) 7),(o,ab p.xs p.xe)]++([(h,uN p.es p.he),(s,uN p.ss p.se),(c,uN p.oc p.oe)]++((row,ah7 p n v) :: List.zip b z)))
   exact alA.symm.append_left _
 · refine ⟨by rw [F,l 0 it rfl,l 1 f rfl],O,?_⟩
   obtain ⟨k,tk,B⟩:=hv O
   refine ⟨k,tk,p.t 6,p.t 7,O 0,B,?_⟩
   have e1:List.zip (it :: f :: o :: row :: h :: s :: c :: b) (M.post p (nuL (it :: f :: o :: row :: h :: s :: c :: b)) O)=[(it,rgO (p.i + 1) p.r),(f,frO (cB J.p (p.nxt k tk (p.t 6) (p.t 7) (O 0) row (g O) (d O) p.ss p.se p.oc p.oe) false o h s c) 7),(o,ab p.xs p.xe)]++((row,ah7 p n v) :: ([(h,uN (g O) (d O)),(s,uN p.ss p.se),(c,uN p.oc p.oe)]++List.zip b (m O))):=by
    rw [x]
    show [(it,rgN p.i p.r),(f,frO [dF _ J49 (p.t 0) (.ref (ad (nuL (it :: f :: o :: row :: h :: s :: c :: b)) 2)),dF _ J21 (p.t 1) (.ref (ad (nuL (it :: f :: o :: row :: h :: s :: c :: b)) 4)),dF _ J46 (p.t 2) (u O),dF _ J81 (p.t 4) (.ref (ad (nuL (it :: f :: o :: row :: h :: s :: c :: b)) 6)),dF _ J65 (p.t 5) (.ref (ad (nuL (it :: f :: o :: row :: h :: s :: c :: b)) 5)),dF _ J70 (p.t 6) (.int (Int.ofNat p.i) (O 0)),dF _ J8 (p.t 7) (.ref (ad (nuL (it :: f :: o :: row :: h :: s :: c :: b)) 3))] 7),(o,ab p.xs p.xe)]++((row,ah7 p n v) :: ([(h,uN (g O) (d O)),(s,uN p.ss p.se),(c,uN p.oc p.oe)]++List.zip b (m O)))=_
    rw [ug,B,l 2 o rfl,l 4 h rfl,l 5 s rfl,l 6 c rfl,l 3 row rfl]
    rfl
   rw [e1]
   show ([(it,rgO (p.i + 1) p.r),(f,frO (cB J.p (p.nxt k tk (p.t 6) (p.t 7) (O 0) row (g O) (d O) p.ss p.se p.oc p.oe) false o h s c) 7),(o,ab p.xs p.xe)]++((row,ah7 p n v) :: ([(h,uN (g O) (d O)),(s,uN p.ss p.se),(c,uN p.oc p.oe)]++List.zip b (m O)))).Perm ([(it,rgO (p.i + 1) p.r),(f,frO (cB J.p (p.nxt k tk (p.t 6) (p.t 7) (O 0) row (g O) (d O) p.ss p.se p.oc p.oe) false o h s c) 7),(o,ab p.xs p.xe)]++([(h,uN (g O) (d O)),(s,uN p.ss p.se),(c,uN p.oc p.oe)]++((row,ah7 p n v) :: List.zip b (m O))))
   exact alA.symm.append_left _
theorem dz {l:List Nat} (b:∀ a∈l,1158≤a) {k:Nat} {I':ae8} (d:∀ j,j < k→I' j=nuL l j) {j a:Nat} (c:l[j]? = some a) (hk:j < k):ad I' j=a:=by
 rw [← aB b c]
 unfold ad
 rw [d j hk]
theorem S8 (v:VQ) (p:SVm) (it f o row h s c y:Nat) (d:∀ a∈[it,f,o,row,h,s,c,y],1158≤a) (hr:jI p row) (g:∀ b∈v.obl p,b=true) :
  HRG J 11 (.code (rnC it f)) (bc J.p p false p.i (p.r + 1) it f o h s c++[(row,ah7 p J28 (.ref y)),(y,aO [.str p.s (p.t 14)])])
   (fun e L'=>e=.again (rnC it f)∧∃ O tk t6 t7 l,
    L'.Perm (bc J.p (p.nxt (p.pc + 1) tk t6 t7 l row (cI p.a (p.t 11) (v.res p O) p.es) (epD p.a p.es p.he) p.ss p.se p.oc p.oe) false (p.i + 1) p.r it f o h s c++[(row,ah7 p J28 (.ref y)),(y,aO [.str p.s (p.t 14)])])):=by
 have m:ad (nuL [it,f,o,row,h,s,c,y]) 7=y:=aB d rfl
 refine (nr p (K0 v J p) (by intros;exact tT) (ag rfl) rfl rfl (fun z z=>rfl) it f o row h s c [y] rfl d J28 (.ref y) [aO [.str p.s (p.t 14)]] (fun z=>rfl) (by
  show vmO _ p _ false 7 J28 (.ref (ad _ 7)) _=_
  rw [m]) (fun z z=>rfl) (fun O=>cI p.a (p.t 11) (v.res p (O 2)) p.es) (fun z=>epD p.a p.es p.he) (fun O=>.int (Int.ofNat (p.pc + 1)) (O 1)) (fun z=>[aO [.str p.s (p.t 14)]]) (fun O=>by
  show vmP _ p _ O J28 (.ref (ad _ 7)) _ _ _ _ _ _ _ _ _ _=_
  rw [m]) (fun I' O q=>by
  show (v.obl p).map OV.hb++.hb true :: jS p=bl (v.obl p)++.hb true :: kg I'
  rw [ch g,hr.std (dz d q (j:=3) rfl (by show 3 < 8;lia))]) (fun O=>⟨_,_,rfl⟩)).mono (ai _) fun e L' u=>?_
 obtain ⟨rfl,O,k,tk,t6,t7,l,e1,n⟩:=u
 injection e1 with e1 e2
 injection e1 with e1
 subst e1
 exact ⟨rfl,O 2,tk,t6,t7,l,n⟩
theorem JR {p:SVm} {I':ae8} {y:Nat} (b:ad I' 7=y) (d:ikB p.ss=true) (c:getD p.a p.ss=some (.ref y)):qh p=qd I':=by
 unfold qh qd
 rw [d,c,b]
 rfl
theorem Rm (v:VK) (p:SVm) (it f o row h s c y:Nat) (d:∀ a∈[it,f,o,row,h,s,c,y],1158≤a) (hr:jI p row) (u:Nat.ble p.ys.size 16777216=true) (g:∀ b∈gN v p.b p.es,b=true) (w:ikB p.ss=true) (t:getD p.a p.ss=some (.ref y)) :
  HRG J 11 (.code (rnC it f)) (bc J.p p false p.i (p.r + 1) it f o h s c++[(row,ah7 p J27 .none),(y,ab p.ys p.ye)])
   (fun e L'=>e=.again (rnC it f)∧∃ tk t6 t7 l,
    L'.Perm (bc J.p (p.nxt (p.pc + 1) tk t6 t7 l row p.es p.he p.ss p.se p.oc p.oe) false (p.i + 1) p.r it f o h s c++[(row,ah7 p J27 .none),(y,ab (p.ys.push (v.as ((getD p.b p.es).getD .none))) (p.ye + 1))])):=by
 refine (nr p (Ib v J p) (by intros;exact tT) (ag rfl) rfl rfl (fun z z=>rfl) it f o row h s c [y] rfl d J27 .none [ab p.ys p.ye] (fun z=>rfl) rfl (fun z z=>rfl) (fun O=>p.es) (fun z=>p.he) (fun O=>.int (Int.ofNat (p.pc + 1)) (O 1)) (fun z=>[ab (p.ys.push (v.as ((getD p.b p.es).getD .none))) (p.ye + 1)]) (fun O=>rfl) (fun I' O m=>by
  show (OV.hb (Nat.ble p.ys.size 16777216) :: (gN v p.b p.es).map OV.hb)++qh p++.hb true :: jS p=(.hb true :: bl (gN v p.b p.es))++qd I'++.hb true :: kg I'
  rw [ch g,hr.std (dz d m (j:=3) rfl (by show 3 < 8;lia)),JR (dz d m (j:=7) rfl (by show 7 < 8;lia)) w t,u]) (fun O=>⟨_,_,rfl⟩)).mono (ai _) fun e L' q=>?_
 obtain ⟨rfl,O,k,tk,t6,t7,l,e1,n⟩:=q
 injection e1 with e1 e2
 injection e1 with e1
 subst e1
 exact ⟨rfl,tk,t6,t7,l,n⟩
theorem U2 (v:Bool) (p:SVm) (it f o row h s c y k:Nat) (b:∀ a∈[it,f,o,row,h,s,c,y],1158≤a) (hr:jI p row) (u:Nat.ble p.ys.size 16777216=true) (n:eqI (Int.ofNat p.ys.size) (Int.ofNat 1)=v) (w:ikB p.ss=true) (q:getD p.a p.ss=some (.ref y))
  (hk:∀ O:Nat→Nat,∃ tk,pcJ v p O=.int (Int.ofNat k) tk) :
  HRG J 11 (.code (rnC it f)) (bc J.p p false p.i (p.r + 1) it f o h s c++[(row,ah7 p J40 .none),(y,ab p.ys p.ye)])
   (fun e L'=>e=.again (rnC it f)∧∃ tk t6 t7 d,
    L'.Perm (bc J.p (p.nxt k tk t6 t7 d row p.es p.he p.ss p.se p.oc p.oe) false (p.i + 1) p.r it f o h s c++[(row,ah7 p J40 .none),(y,ab p.ys p.ye)])):=by
 refine (nr p (KZ v J p) (by intros;exact tT) (ag rfl) rfl rfl (fun z z=>rfl) it f o row h s c [y] rfl b J40 .none [ab p.ys p.ye] (fun z=>rfl) rfl (fun z z=>rfl) (fun O=>p.es) (fun z=>p.he) (pcJ v p) (fun z=>[ab p.ys p.ye]) (fun O=>by cases v<;>rfl) (fun I' O g=>by
  show OV.hb (eqI (Int.ofNat p.ys.size) (Int.ofNat 1)) :: OV.hb (Nat.ble p.ys.size 16777216) :: (qh p++.hb true :: jS p)=.hb v :: .hb true :: (qd I'++.hb true :: kg I')
  rw [n,u,hr.std (dz b g (j:=3) rfl (by show 3 < 8;lia)),JR (dz b g (j:=7) rfl (by show 7 < 8;lia)) w q]) (fun O=>by
  obtain ⟨tk,h⟩:=hk O
  exact ⟨k,tk,h⟩)).mono (ai _) fun e L' t=>?_
 obtain ⟨rfl,O,x,tk,t6,t7,d,e1,l⟩:=t
 obtain ⟨m,h⟩:=hk O
 rw [h] at e1
 injection e1 with e1 e2
 injection e1 with e1
 subst e1
 exact ⟨rfl,tk,t6,t7,d,l⟩
theorem Tz (v:N4 × VK × Bool) (p:SVm) (it f o row h s c y k:Nat) (d:∀ a∈[it,f,o,row,h,s,c,y],1158≤a) (hr:jI p row) (A:∀ O,∀ b∈Es p v.1 v.2.1 v.2.2 O,b=true) (w:∀ b∈Js p v.2.1,b=true) (B:ikB p.ss=true) (x:getD p.a p.ss=some (.ref y))
  (hk:∀ O:Nat→Nat,∃ tk,pcJ v.2.2 p O=.int (Int.ofNat k) tk) :
  HRG J 11 (.code (rnC it f)) (bc J.p p false p.i (p.r + 1) it f o h s c++[(row,ah7 p J33 (.int 1 (p.t 14))),(y,jU p v.1)])
   (fun e L'=>e=.again (rnC it f)∧∃ tk t6 t7 g,
    L'.Perm (bc J.p (p.nxt k tk t6 t7 g row p.es p.he p.ss p.se p.oc p.oe) false (p.i + 1) p.r it f o h s c++[(row,ah7 p J33 (.int 1 (p.t 14))),(y,jU p v.1)])):=by
 refine (nr p (I7 v J p) (by intros;exact tT) (ag rfl) rfl rfl (fun Z Z=>rfl) it f o row h s c [y] rfl d J33 (.int 1 (p.t 14)) [jU p v.1] (fun Z=>rfl) rfl (fun Z Z=>rfl) (fun O=>p.es) (fun Z=>p.he) (pcJ v.2.2 p) (fun Z=>[jU p v.1]) (fun O=>by obtain ⟨n,q,b⟩:=v;cases b<;>rfl) (fun I' O l=>by
  show (Es p v.1 v.2.1 v.2.2 O).map OV.hb++qh p++(Js p v.2.1).map OV.hb++qh p++.hb true :: jS p=bl (Es p v.1 v.2.1 v.2.2 O)++qd I'++bl (Js p v.2.1)++qd I'++.hb true :: kg I'
  rw [ch (A O),ch w,hr.std (dz d l (j:=3) rfl (by show 3 < 8;lia)),JR (dz d l (j:=7) rfl (by show 7 < 8;lia)) B x]) (fun O=>by
  obtain ⟨tk,h⟩:=hk O
  exact ⟨k,tk,h⟩)).mono (ai _) fun e L' z=>?_
 obtain ⟨rfl,O,C,tk,t6,t7,g,e1,m⟩:=z
 obtain ⟨u,h⟩:=hk O
 rw [h] at e1
 injection e1 with e1 e2
 injection e1 with e1
 subst e1
 exact ⟨rfl,tk,t6,t7,g,m⟩
end
def eW (P:Params) (a t2 q d:Nat):Obj:=aE [dF P aaJ a (.ref q),dF P VS t2 (.ref d)] 2
section
variable {J:WB}
theorem Tc (p:SVm) (it f o row h s c y z q:Nat) (g:∀ a∈[it,f,o,row,h,s,c,y,z,q],1158≤a) (hr:jI p row) (n:∀ b∈eG p.ss,b=true) :
  HRG J 11 (.code (rnC it f)) (bc J.p p false p.i (p.r + 1) it f o h s c++[(row,ah7 p J20 (.ref y)),(y,aw 938 z),(z,eW J.p (p.t 20) (p.t 21) q p.ye),(q,aO [.str p.s (p.t 14)])])
   (fun e L'=>e=.again (rnC it f)∧∃ a tk t6 t7 A,
    L'.Perm (bc J.p (p.nxt (p.pc + 1) tk t6 t7 A row p.es p.he (cI p.a (p.t 11) (.ref a) p.ss) (epD p.a p.ss p.se) p.oc p.oe) false (p.i + 1) p.r it f o h s c ++
     ((a,ab ⟨[.str p.s (p.t 14)]⟩ 0) :: [(row,ah7 p J20 (.ref y)),(y,aw 938 z),(z,eW J.p (p.t 20) (p.t 21) q p.ye),(q,aO [.str p.s (p.t 14)])]))):=by
 have d:∀ (j a:Nat),[it,f,o,row,h,s,c,y,z,q][j]? = some a→ad (nuL [it,f,o,row,h,s,c,y,z,q]) j=a:=fun j a m=>aB g m
 have H:=(aq.he (ay _) (Lo J p) (by intros;exact tT) (nuL [it,f,o,row,h,s,c,y,z,q]) (fun I' O v=>by
  show (eG p.ss).map OV.hb++.hb true :: jS p=bl (eG p.ss)++.hb true :: kg I'
  rw [ch n,hr.std (dz g v (j:=3) rfl (by show 3 < 10;lia))])).hr
 have x:ah (vmo J.p).k (nuL [it,f,o,row,h,s,c,y,z,q])=nuL [it,f,o,row,h,s,c,y,z,q]:=kA [it,f,o,row,h,s,c,y,z,q]
 rw [x] at H
 have u:(vmo J.p).st p (nuL [it,f,o,row,h,s,c,y,z,q])=.code (rnC it f):=by
  show bx.code (rnC (ad _ 0) (ad _ 1))=_
  rw [d 0 it rfl,d 1 f rfl]
 rw [u] at H
 refine (H.perm (L':=bc J.p p false p.i (p.r + 1) it f o h s c++[(row,ah7 p J20 (.ref y)),(y,aw 938 z),(z,eW J.p (p.t 20) (p.t 21) q p.ye),(q,aO [.str p.s (p.t 14)])]) ?_).mono (ag rfl) <| elA fun I' O' v=>?_
 · have e1:tc (nuL [it,f,o,row,h,s,c,y,z,q]) 0 ((vmo J.p).pre p (nuL [it,f,o,row,h,s,c,y,z,q]))++uU J.p ((vmo J.p).preX p) =
     [(it,rgO p.i (p.r + 1)),(f,frO (cB J.p p false o h s c) 7),(o,ab p.xs p.xe)]++((row,ah7 p J20 (.ref y)) :: ([(h,uN p.es p.he),(s,uN p.ss p.se),(c,uN p.oc p.oe)]++[(y,aw 938 z),(z,eW J.p (p.t 20) (p.t 21) q p.ye),(q,aO [.str p.s (p.t 14)])])):=by
    rw [Ah (l:=[it,f,o,row,h,s,c,y,z,q]) (fun j a m=>by rw [JG];exact d j a m) rfl]
    show [(it,rgO p.i (p.r + 1)),(f,frO (frV _ p false (nuL [it,f,o,row,h,s,c,y,z,q])) 7),(o,ab p.xs p.xe),(row,ah7 p J20 (.ref (ad (nuL [it,f,o,row,h,s,c,y,z,q]) 7))),(h,uN p.es p.he),(s,uN p.ss p.se),(c,uN p.oc p.oe),(y,aw 938 (ad (nuL [it,f,o,row,h,s,c,y,z,q]) 8)),(z,eW _ (p.t 20) (p.t 21) (ad (nuL [it,f,o,row,h,s,c,y,z,q]) 9) p.ye),(q,aO [.str p.s (p.t 14)])]=_
    unfold frV cB
    rw [d 2 o rfl,d 4 h rfl,d 5 s rfl,d 6 c rfl,d 7 y rfl,d 8 z rfl,d 9 q rfl]
    rfl
   rw [e1]
   show ([(it,rgO p.i (p.r + 1)),(f,frO (cB J.p p false o h s c) 7),(o,ab p.xs p.xe)]++((row,ah7 p J20 (.ref y)) :: ([(h,uN p.es p.he),(s,uN p.ss p.se),(c,uN p.oc p.oe)]++[(y,aw 938 z),(z,eW J.p (p.t 20) (p.t 21) q p.ye),(q,aO [.str p.s (p.t 14)])]))).Perm ([(it,rgO p.i (p.r + 1)),(f,frO (cB J.p p false o h s c) 7),(o,ab p.xs p.xe)]++([(h,uN p.es p.he),(s,uN p.ss p.se),(c,uN p.oc p.oe)]++((row,ah7 p J20 (.ref y)) :: [(y,aw 938 z),(z,eW J.p (p.t 20) (p.t 21) q p.ye),(q,aO [.str p.s (p.t 14)])])))
   exact alA.symm.append_left _
 · have n0:∀ (j a:Nat),[it,f,o,row,h,s,c,y,z,q][j]? = some a→ad I' j=a:=fun j a m=>by
    have w:j < 10:=(List.getElem?_eq_some_iff.mp m).1
    exact dz g v m w
   refine ⟨by show En.again (rnC (ad (ah 11 I') 0) (ad (ah 11 I') 1))=_;rw [show ad (ah 11 I') 0=ad I' 0 from rfl,show ad (ah 11 I') 1=ad I' 1 from rfl,n0 0 it rfl,n0 1 f rfl],ad I' 10,ah 2 O' 1,p.t 6,p.t 7,ah 2 O' 0,?_⟩
   have e1:tc I' 0 ((vmo J.p).post p (ah 11 I') (ah 2 O'))++uU J.p ((vmo J.p).postX p (ah 11 I') (ah 2 O')) =
     [(it,rgO (p.i + 1) p.r),(f,frO (cB J.p (p.nxt (p.pc + 1) (ah 2 O' 1) (p.t 6) (p.t 7) (ah 2 O' 0) row p.es p.he (cI p.a (p.t 11) (.ref (ad I' 10)) p.ss) (epD p.a p.ss p.se) p.oc p.oe) false o h s c) 7),(o,ab p.xs p.xe)]++((row,ah7 p J20 (.ref y)) :: ([(h,uN p.es p.he),(s,uN (cI p.a (p.t 11) (.ref (ad I' 10)) p.ss) (epD p.a p.ss p.se)),(c,uN p.oc p.oe)]++[(y,aw 938 z),(z,eW J.p (p.t 20) (p.t 21) q p.ye),(q,aO [.str p.s (p.t 14)]),(ad I' 10,ab ⟨[.str p.s (p.t 14)]⟩ 0)])):=by
    show [(ad I' 0,rgN p.i p.r),(ad I' 1,frO [dF _ J49 (p.t 0) (.ref (ad I' 2)),dF _ J21 (p.t 1) (.ref (ad I' 4)),dF _ J46 (p.t 2) (.int (Int.ofNat (p.pc + 1)) (ah 2 O' 1)),dF _ J81 (p.t 4) (.ref (ad I' 6)),dF _ J65 (p.t 5) (.ref (ad I' 5)),dF _ J70 (p.t 6) (.int (Int.ofNat p.i) (ah 2 O' 0)),dF _ J8 (p.t 7) (.ref (ad I' 3))] 7),(ad I' 2,ab p.xs p.xe),(ad I' 3,ah7 p J20 (.ref (ad I' 7))),(ad I' 4,uN p.es p.he),(ad I' 5,uN (cI p.a (p.t 11) (.ref (ad I' 10)) p.ss) (epD p.a p.ss p.se)),(ad I' 6,uN p.oc p.oe),(ad I' 7,aw 938 (ad I' 8)),(ad I' 8,eW _ (p.t 20) (p.t 21) (ad I' 9) p.ye),(ad I' 9,aO [.str p.s (p.t 14)]),(ad I' 10,ab ⟨[.str p.s (p.t 14)]⟩ 0)]=_
    rw [ug,n0 0 it rfl,n0 1 f rfl,n0 2 o rfl,n0 3 row rfl,n0 4 h rfl,n0 5 s rfl,n0 6 c rfl,n0 7 y rfl,n0 8 z rfl,n0 9 q rfl]
    rfl
   show (tc I' 0 ((vmo J.p).post p (ah 11 I') (ah 2 O'))++uU J.p ((vmo J.p).postX p (ah 11 I') (ah 2 O'))).Perm _
   rw [e1]
   refine (alB [(it,rgO (p.i + 1) p.r),(f,frO (cB J.p (p.nxt (p.pc + 1) (ah 2 O' 1) (p.t 6) (p.t 7) (ah 2 O' 0) row p.es p.he (cI p.a (p.t 11) (.ref (ad I' 10)) p.ss) (epD p.a p.ss p.se) p.oc p.oe) false o h s c) 7),(o,ab p.xs p.xe)] (?_:List.Perm _ ([(h,uN p.es p.he),(s,uN (cI p.a (p.t 11) (.ref (ad I' 10)) p.ss) (epD p.a p.ss p.se)),(c,uN p.oc p.oe)]++((ad I' 10,ab ⟨[.str p.s (p.t 14)]⟩ 0) :: [(row,ah7 p J20 (.ref y)),(y,aw 938 z),(z,eW J.p (p.t 20) (p.t 21) q p.ye),(q,aO [.str p.s (p.t 14)])]))))
   refine alA.symm.trans ?_
   refine alB _ ?_
   exact (Mt (l₁:=[(row,ah7 p J20 (.ref y)),(y,aw 938 z),(z,eW J.p (p.t 20) (p.t 21) q p.ye),(q,aO [.str p.s (p.t 14)])]) (l₂:=[(ad I' 10,ab ⟨[.str p.s (p.t 14)]⟩ 0)]))
theorem S0 (p:SVm) (it f o row h s c:Nat) (g:∀ a∈[it,f,o,row,h,s,c],1158≤a) (hr:jI p row) :
  HRG J 11 (.code (rnC it f)) (bc J.p p false p.i (p.r + 1) it f o h s c++[(row,ah7 p J13 .none)])
   (fun e L'=>e=.ret (.bool true)∧∃ q,L'.Perm (bc J.p { p with tn:=.int (Int.ofNat p.i) q } false (p.i + 1) p.r it f o h s c++[(row,ah7 p J13 .none)])):=by
 have d:∀ (j a:Nat),[it,f,o,row,h,s,c][j]? = some a→ad (nuL [it,f,o,row,h,s,c]) j=a:=fun j a m=>aB g m
 have H:=aq.hrZ (ay _) (Gh J p) (by intros;exact tT) rfl rfl (fun z z=>rfl) [it,f,o,row,h,s,c] rfl g (fun I' O l=>by
  have n:=dz g l (j:=3) rfl (by show 3 < 7;lia)
  have b:=hr.std n
  unfold jS kg at b
  obtain ⟨e1,b⟩:=List.cons.inj b
  obtain ⟨e2,b⟩:=List.cons.inj b
  obtain ⟨-,b⟩:=List.cons.inj b
  obtain ⟨-,b⟩:=List.cons.inj b
  obtain ⟨e3,b⟩:=List.cons.inj b
  obtain ⟨e4,-⟩:=List.cons.inj b
  show [OV.hb (inB p.xs (Int.ofNat p.pc)),.hv (ae p.xs (Int.toNat (Int.ofNat p.pc))),.hb (geI (Int.ofNat p.pc) (Int.ofNat p.xs.size)),.hb (Nat.ble p.xs.size 16777216)]=[.hb true,.hv (.ref (ad I' 3)),.hb false,.hb true]
  rw [e1,e2,e3,e4])
 have k:(vmh J.p).st p (nuL [it,f,o,row,h,s,c])=.code (rnC it f):=by
  show bx.code (rnC (ad _ 0) (ad _ 1))=_
  rw [d 0 it rfl,d 1 f rfl]
 rw [k] at H
 refine (H.perm (L':=bc J.p p false p.i (p.r + 1) it f o h s c++[(row,ah7 p J13 .none)]) ?_).mono (ag rfl) <| elB fun O=>?_
 · have e1:List.zip [it,f,o,row,h,s,c] ((vmh J.p).pre p (nuL [it,f,o,row,h,s,c]))=[(it,rgO p.i (p.r + 1)),(f,frO (cB J.p p false o h s c) 7),(o,ab p.xs p.xe)]++((row,ah7 p J13 .none) :: [(h,uN p.es p.he),(s,uN p.ss p.se),(c,uN p.oc p.oe)]):=by
    show [(it,rgO p.i (p.r + 1)),(f,frO (frV _ p false (nuL [it,f,o,row,h,s,c])) 7),(o,ab p.xs p.xe),(row,ah7 p J13 .none),(h,uN p.es p.he),(s,uN p.ss p.se),(c,uN p.oc p.oe)]=_
    unfold frV cB
    rw [d 2 o rfl,d 4 h rfl,d 5 s rfl,d 6 c rfl]
    rfl
   rw [e1]
   exact (Mt (l₁:=[(row,ah7 p J13 .none)]) (l₂:=[(h,uN p.es p.he),(s,uN p.ss p.se),(c,uN p.oc p.oe)])).append_left [(it,rgO p.i (p.r + 1)),(f,frO (cB J.p p false o h s c) 7),(o,ab p.xs p.xe)]
 · refine ⟨rfl,O 0,?_⟩
   have e1:List.zip [it,f,o,row,h,s,c] ((vmh J.p).post p (nuL [it,f,o,row,h,s,c]) O)=[(it,rgO (p.i + 1) p.r),(f,frO (cB J.p { p with tn:=.int (Int.ofNat p.i) (O 0) } false o h s c) 7),(o,ab p.xs p.xe)]++((row,ah7 p J13 .none) :: [(h,uN p.es p.he),(s,uN p.ss p.se),(c,uN p.oc p.oe)]):=by
    show [(it,rgN p.i p.r),(f,frO (frV _ { p with tn:=.int (Int.ofNat p.i) (O 0) } false (nuL [it,f,o,row,h,s,c])) 7),(o,ab p.xs p.xe),(row,ah7 p J13 .none),(h,uN p.es p.he),(s,uN p.ss p.se),(c,uN p.oc p.oe)]=_
    unfold frV cB
    rw [ug,d 2 o rfl,d 4 h rfl,d 5 s rfl,d 6 c rfl]
    rfl
   rw [e1]
   exact (Mt (l₁:=[(row,ah7 p J13 .none)]) (l₂:=[(h,uN p.es p.he),(s,uN p.ss p.se),(c,uN p.oc p.oe)])).append_left [(it,rgO (p.i + 1) p.r),(f,frO (cB J.p { p with tn:=.int (Int.ofNat p.i) (O 0) } false o h s c) 7),(o,ab p.xs p.xe)]
end
def bU (n:List Nat) (a b c:Int) (t:Nat→Tok) (v:Value):Obj:=row n (t 10) (.int a (t 11)) (.int b (t 12)) (.int c (t 13)) v
noncomputable def WG (t u:Nat→Tok) (j:Nat):Tok:=match Nat.blt j 10 with
 | true=>t j
 | false=>u j
def nH (P:Params) (i:Ins) (r:Nat) (X:XL):Prop:=match i with
 | .value b v=>∃ a c t u,X=[(r,bU J10 a b c t (v.v u))]
 | .null b=>∃ a c t,X=[(r,bU J54 a b c t .none)]
 | .copy a b=>∃ c t,X=[(r,bU J22 a b c t .none)]
 | .addi a b=>∃ c t,X=[(r,bU J69 a b c t .none)]
 | .aff a g=>∃ b c t y,X=[(r,bU J28 a b c t (.ref y)),(y,aO [.str g.s (t 14)])]
 | .mkr a c=>∃ b t,X=[(r,bU J41 a b c t .none)]
 | .opn nc=>∃ b c t y z q d,X=[(r,bU J20 0 b c t (.ref y)),(y,aw 938 z),(z,eW P (t 20) (t 21) q d),(q,aO [.str (aA nc) (t 14)])]
 | .idx b=>∃ c t,X=[(r,bU J27 0 b c t .none)]
 | .una a b=>∃ c t s u,X=[(r,bU J38 a b c t (.str s u))]
 | .once a b=>∃ c t,X=[(r,bU J44 a (Int.ofNat b) c t .none)]
 | .isn a b=>∃ c t,X=[(r,bU J34 a (Int.ofNat b) c t .none)]
 | .rew b=>∃ c t,X=[(r,bU J40 0 (Int.ofNat b) c t .none)]
 | .fnd b c=>∃ t,X=[(r,bU J33 0 (Int.ofNat b) c t (.int 1 (t 14)))]
 | .goto b=>∃ a c t,X=[(r,bU J39 a (Int.ofNat b) c t .none)]
 | .gosub a b=>∃ c t,X=[(r,bU J48 a (Int.ofNat b) c t .none)]
 | .ret a=>∃ b c t,X=[(r,bU J23 a b c t .none)]
 | .halt=>∃ a b c t,X=[(r,bU J13 a b c t .none)]
def bY (P:Params):List Ins→List (Nat × XL)→Prop
 | [],[]=>True
 | i :: is,x :: xs=>nH P i x.1 x.2∧bY P is xs
 | _,_=>False
theorem bY.at {P:Params}:∀ {is:List Ins} {xs:List (Nat × XL)} (z:bY P is xs) {j:Nat} {i:Ins},is[j]? = some i→∃ a x l2,xs=a++x :: l2∧a.length=j∧nH P i x.1 x.2
 | [],[],_,j,i,h=>by simp at h
 | i' :: is,x :: xs,H,0,i,h=>by cases h;exact ⟨[],x,xs,rfl,rfl,H.1⟩
 | i' :: is,x :: xs,H,j + 1,i,h=>by
  obtain ⟨a,y,l2,rfl,hl,hr⟩:=bY.at H.2 (j:=j) h
  exact ⟨x :: a,y,l2,rfl,by simp [hl],hr⟩
 | [],_ :: _,H,_,_,_=>H.elim
 | _ :: _,[],H,_,_,_=>H.elim
theorem bY.len {P:Params}:∀ {is:List Ins} {xs:List (Nat × XL)},bY P is xs→is.length=xs.length
 | [],[],_=>rfl
 | _ :: _,_ :: _,h=>by simp [bY.len h.2]
 | [],_ :: _,h=>h.elim
 | _ :: _,[],h=>h.elim
def jX (ss:List DictEntry) (b:XL):Option (Bool × List V8)→Prop
 | none=>ss=[]∧b=[]
 | some (nc,vs)=>∃ t a ts e ys,ss=[⟨hashInt 0,.int 0 t,.ref a⟩]∧b=[(a,ab ⟨.str (aA nc) ts :: ys⟩ e)]∧bk ys vs
theorem wq (k:Int) (v:MV):∀ m:List (Int × MV),(jz k v m).length≤m.length + 1
 | []=>ai _
 | (i,x) :: m=>by
  have ih:=wq k v m
  show (match PySem.W.Z.eqB i k with | true=>(i,v) :: m | false=>(i,x) :: jz k v m).length≤_
  cases PySem.W.Z.eqB i k with
  | true=>simp
  | false=>simp;lia
theorem G0 (k:Int) (m:List Int):(nZ k m).length≤m.length + 1:=by
 unfold nZ
 cases kO k m with
 | true=>simp
 | false=>simp
structure Bnd (s:AS) (r:Nat):Prop where
 held:s.held.length + r≤2000
 done:s.done.length + r≤2000
 set:∀ nc vs,s.set=some (nc,vs)→vs.length + r≤2000
def nS (P:Params) (cells:List (Nat × XL)) (xe it f o h b c:Nat) (s:AS) (first:Bool) (r:Nat) (L:XL):Prop:=
 ∃ (p:SVm) (a G:XL),p.pc=s.pc∧p.xs=⟨cells.map fun x=>.ref x.1⟩∧p.xe=xe∧cells.length≤1000∧bZ p.es s.held∧cS p.oc s.done∧jX p.ss a s.set∧Bnd s r ∧
  L.Perm (bc P p first p.i r it f o h b c++(a++(cells.flatMap (·.2)++G)))
theorem fp {cells a l2:List (Nat × XL)} {x:Nat × XL} (h:cells=a++x :: l2):(cells.flatMap (·.2)).Perm (x.2++(a.flatMap (·.2)++l2.flatMap (·.2))):=by
 rw [h,alX,List.flatMap_cons]
 rw [← uG,← uG]
 exact Mt.append_right _
theorem aG {l m:XL} (h:∀ c:XL→Nat,(∀ a b,c (a++b)=c a + c b)→(∀ x l,c (x :: l)=c [x] + c l)→c []=0→(∀ a b:XL,a.Perm b→c a=c b)→c l=c m):l.Perm m:=by
 classical
 exact List.perm_iff_count.mpr fun a=>h (fun l=>l.count a) (fun z z=>List.count_append) (fun x l=>by show List.count a ([x]++l)=_;exact List.count_append) rfl (fun z z p=>p.count_eq a)
theorem TT {cells a l2:List (Nat × XL)} {x:Nat × XL} {xs:Array Value} {pc:Nat} (h:cells=a++x :: l2) (hl:a.length=pc) (b:xs=⟨cells.map fun x=>.ref x.1⟩):xs[pc]? = some (.ref x.1):=by
 subst b
 subst h
 subst hl
 rw [← Array.getElem?_toList]
 simp
section
variable {J:WB} {cells:List (Nat × XL)} {xe it f o h:Nat}
abbrev cj (J:WB) (cells:List (Nat × XL)) (xe it f o h b c:Nat) (L:XL) (a:AS) (r:Nat):Prop:=
 HRG J 11 (.code (rnC it f)) L (fun e L'=>e=.again (rnC it f)∧nS J.p cells xe it f o h b c a false r L')
theorem jr {t:AS} {r q c:Nat} {p p':SVm} {z G:XL} {L:XL} {w l2:List (Nat × XL)} {x:Nat × XL} {first:Bool} {need:Nat}
  (g:cells=w++x :: l2) (m:L.Perm (bc J.p p first p.i (r + 1) it f o h q c++(z++(cells.flatMap (·.2)++G)))) (hn:need≤11)
  (s:bc J.p p first p.i (r + 1) it f o h q c=bc J.p p' first p'.i (p'.r + 1) it f o h q c) {Q:XL→Prop} {touched:XL} (j:XL) (y:z.Perm (j++touched))
  (H:HRG J need (.code (rnC it f)) (bc J.p p' first p'.i (p'.r + 1) it f o h q c++(x.2++touched)) (fun e L'=>e=.again (rnC it f)∧Q L'))
  (F:∀ L',Q L'→∃ b:SVm,∃ d v,b.pc=t.pc∧b.xs=⟨cells.map fun x=>.ref x.1⟩∧b.xe=xe∧cells.length≤1000∧bZ b.es t.held∧cS b.oc t.done∧jX b.ss d t.set∧Bnd t r ∧
   (L'++j).Perm (bc J.p b false b.i r it f o h q c++(x.2++(d++v)))) :
  cj J cells xe it f o h q c L t r:=by
 have A:=fp g
 have e1:L.Perm ((bc J.p p' first p'.i (p'.r + 1) it f o h q c++(x.2++touched))++(j++(w.flatMap (·.2)++l2.flatMap (·.2)++G))):=by
  refine aG fun k B kc Z u=>?_
  rw [u _ _ m,s]
  simp only [B,u _ _ A,u _ _ y,WB.p]
  lia
 have T:=(H.mono hn fun l l h=>h).frame (j++(w.flatMap (·.2)++l2.flatMap (·.2)++G))
 refine (T.perm e1.symm).mono (ai _) fun e L' P=>?_
 obtain ⟨Y,rfl,rfl,hq⟩:=P
 refine ex3 (F Y hq) fun b d v n=>?_
 refine an4 n fun W X K N n=>?_
 refine an4 n fun M S D C R=>?_
 refine ⟨rfl,b,d,v++G,W,X,K,N,M,S,D,C,?_⟩
 exact anf R (anf A.symm (ane (L:=[_,_,_,_,_,_,_,_,_,_]) (E:=[]) (.a (.a (.a (.l 0) (.a (.l 1) (.a (.a (.l 2) (.l 3)) (.l 4)))) (.a (.l 5) (.a (.l 9) (.a (.l 6) (.l 8))))) (.l 7)) (.a (.a (.a (.l 5) (.a (.l 6) (.a (.l 7) (.a (.l 8) (.l 4))))) (.a (.l 0) (.l 1))) (.a (.l 9) (.a (.l 2) (.l 3)))) rfl))
end
section
variable {J:WB} {cells:List (Nat × XL)} {xe it f o h:Nat}
theorem CC {P:Params} {p:SVm} {first:Bool} {i r it f o h d c:Nat} {L R:XL} (b:∀ q∈L,1158≤q.1) (a:L.Perm (bc P p first i r it f o h d c++R)) :
  (1158≤it∧1158≤f∧1158≤o∧1158≤h∧1158≤d∧1158≤c)∧∀ q∈R,1158≤q.1:=by
 have key:∀ q∈bc P p first i r it f o h d c++R,1158≤q.1:=fun q hq=>b q (a.mem_iff.mpr hq)
 unfold bc at key
 simp only [uC,b9,gv,dj] at key
 exact ⟨⟨key _ (.inl (.inl rfl)),key _ (.inl (.inr (.inl rfl))),key _ (.inl (.inr (.inr (.inl rfl)))),key _ (.inl (.inr (.inr (.inr (.inl rfl))))),key _ (.inl (.inr (.inr (.inr (.inr (.inl rfl)))))),key _ (.inl (.inr (.inr (.inr (.inr (.inr rfl))))))⟩,fun q hq=>key q (.inr hq)⟩
structure cA (P:Params) (cells:List (Nat × XL)) (xe it f o h:Nat) (s:AS) (first:Bool) (r:Nat) (L:XL) (p:SVm) (sa c:Nat) (sc G:XL) (l1:List (Nat × XL)) (x:Nat × XL) (l2:List (Nat × XL)):Prop where
 pc:p.pc=s.pc
 xs:p.xs=⟨cells.map fun x=>.ref x.1⟩
 xe:p.xe=xe
 len:cells.length≤1000
 es:bZ p.es s.held
 oc:cS p.oc s.done
 ss:jX p.ss sc s.set
 bnd:Bnd s (r + 1)
 perm:L.Perm (bc P p first p.i (r + 1) it f o h sa c++(sc++(cells.flatMap (·.2)++G)))
 cells:cells=l1++x :: l2
 at_:l1.length=s.pc
 ge:∀ q∈L,1158≤q.1
noncomputable def SVm.row (p:SVm) (r:Nat) (a b c:Int) (v:Value) (s:Str) (t:Nat→Tok):SVm:={ p with r:=r,a:=a,b:=b,c:=c,v:=v,s:=s,t:=WG p.t t }
theorem cA.row {P:Params} {s:AS} {first:Bool} {r:Nat} {L:XL} {p:SVm} {e c:Nat} {j G:XL} {g l2:List (Nat × XL)} {x:Nat × XL} (H:cA P cells xe it f o h s first r L p e c j G g x l2) (a b d:Int) (v:Value) (z:Str) (t:Nat→Tok) :
  jI (p.row r a b d v z t) x.1∧bc P p first p.i (r + 1) it f o h e c=bc P (p.row r a b d v z t) first (p.row r a b d v z t).i ((p.row r a b d v z t).r + 1) it f o h e c:=by
 refine ⟨⟨?_,?_⟩,?_⟩
 · show p.xs[p.pc]? = _
   exact TT H.cells (H.at_.trans H.pc.symm) H.xs
 · show p.xs.size≤_
   rw [H.xs]
   have:=H.len
   simp;lia
 · cases first<;>rfl
theorem aid {s:AS} {r:Nat} (H:Bnd s (r + 1)) (k:Int) (v:MV) (pc:Nat):Bnd { s with pc:=pc,held:=jz k v s.held } r:=
 ⟨by have:=H.held;have:=wq k v s.held;show (jz k v s.held).length + r≤2000;lia,by have:=H.done;show s.done.length + r≤2000;lia,fun nc vs e=>by have:=H.set nc vs e;lia⟩
theorem km {s:AS} {r:Nat} (H:Bnd s (r + 1)) (pc:Nat):Bnd { s with pc:=pc } r:=
 ⟨by have:=H.held;show s.held.length + r≤2000;lia,by have:=H.done;show s.done.length + r≤2000;lia,fun nc vs e=>by have:=H.set nc vs e;lia⟩
theorem jq (P:Params) (p:SVm) (first:Bool) (i r it f o h a c:Nat):bc P { p with i:=i } first (SVm.i { p with i:=i }) r it f o h a c=bc P p first i r it f o h a c:=by cases first<;>rfl
theorem ez (v:VO) {s l:AS} {r y c:Nat} {p:SVm} {F G L:XL} {S l2:List (Nat × XL)} {x:Nat × XL} (H:cA J.p cells xe it f o h s v.first r L p y c F G S x l2) (a b d:Int) (u:Value) (z:Str) (t:Nat→Tok)
  (D:x.2=[(x.1,ah7 (p.row r a b d u z t) v.nm (v.v4 u))]) (m:∀ O,(v.obl (p.row r a b d u z t) O).map OV.hb=v.want (p.row r a b d u z t) O)
  (n:∀ O,∃ tk,v.pc (p.row r a b d u z t) O=.int (Int.ofNat l.pc) tk) (E:∀ O,bZ (qe (v.put (p.row r a b d u z t) O) p.es) l.held) (A:cS (v.once (p.row r a b d u z t)) l.done) (w:l.set=s.set) (hb:Bnd l r) :
  cj J cells xe it f o h y c L l r:=by
 obtain ⟨B,j⟩:=H.row a b d u z t
 obtain ⟨⟨g1,X,W,Z,g5,T⟩,N⟩:=CC H.ge H.perm
 have gx:1158≤x.1:=N (x.1,ah7 (p.row r a b d u z t) v.nm (v.v4 u)) (by
  refine u9 _ (uj _ ?_)
  rw [(fp H.cells).mem_iff,D]
  exact uj _ (cv.mpr rfl))
 refine jr (need:=5) H.cells H.perm (by decide) j (Q:=fun L'=>∃ O k tk t6 t7 C,v.pc (p.row r a b d u z t) O=.int (Int.ofNat k) tk ∧
  L'.Perm (bc J.p ((p.row r a b d u z t).nxt k tk t6 t7 C x.1 (qe (v.put (p.row r a b d u z t) O) p.es) (sJ (v.put (p.row r a b d u z t) O) p.es p.he) p.ss p.se (v.once (p.row r a b d u z t)) (v.oncE (p.row r a b d u z t))) false (p.i + 1) r it f o h y c++[(x.1,ah7 (p.row r a b d u z t) v.nm (v.v4 u))])) (touched:=[]) F (by rw [au]) ?_ fun L' hq=>?_
 · rw [D,au]
   exact ZB J v (p.row r a b d u z t) it f o x.1 h y c (by
    repeat (first | exact anc | refine anb (by assumption) ?_)) B m (fun O=>by obtain ⟨tk,e⟩:=n O;exact ⟨_,tk,e⟩)
 · refine ex4 hq fun O k tk t6 g=>?_
   refine ex2 g fun t7 C g=>?_
   obtain ⟨e1,P⟩:=g
   obtain ⟨R,e2⟩:=n O
   rw [e2] at e1
   injection e1 with e1 e3
   injection e1 with e1
   refine ⟨{ ((p.row r a b d u z t).nxt k tk t6 t7 C x.1 (qe (v.put (p.row r a b d u z t) O) p.es) (sJ (v.put (p.row r a b d u z t) O) p.es p.he) p.ss p.se (v.once (p.row r a b d u z t)) (v.oncE (p.row r a b d u z t))) with i:=p.i + 1 },F,[],e1.symm,H.xs,H.xe,H.len,E O,A,by rw [w];exact H.ss,hb,?_⟩
   rw [jq]
   refine aG fun k K kc Y M=>?_
   have q:=M _ _ P
   simp only [K] at q ⊢
   rw [D]
   lia
end
theorem cL {l m:List Bool} (a:∀ b∈l,b=true) (c:∀ b∈m,b=true):∀ b∈l++m,b=true:=fun b hb=>(uC.mp hb).elim (a b) (c b)
theorem cC:∀ b∈([]:List Bool),b=true:=fun b hb=>by cases hb
theorem all_cons {a:Bool} {l:List Bool} (c:a=true) (d:∀ b∈l,b=true):∀ b∈a :: l,b=true:=fun b hb=>(b9.mp hb).elim (fun e=>e ▸ c) (d b)
theorem rh {es:List DictEntry} (a:ikB es=true) (c:es.length≤2000):∀ b∈eG es,b=true:=all_cons a (all_cons (aF (by lia)) cC)
theorem bw {k:VK} {a:Int} {es:List DictEntry} (c:ikB es=true) (d:k.is ((getD a es).getD .none)=true):∀ b∈gN k a es,b=true:=all_cons c (all_cons d cC)
section
variable {J:WB} {cells:List (Nat × XL)} {xe it f o h:Nat} {s s':AS} {r sa c:Nat} {p:SVm} {sc G L:XL} {l1 l2:List (Nat × XL)} {x:Nat × XL} {first:Bool}
theorem cA.put {P:Params} (H:cA P cells xe it f o h s first r L p sa c sc G l1 x l2):∀ b∈eG p.es,b=true:=rh H.es.ikT (by rw [H.es.len];have:=H.bnd.held;lia)
theorem bK (v:VO) (H:cA J.p cells xe it f o h s v.first r L p sa c sc G l1 x l2) (a b d:Int) (u:Value) (z:Str) (t:Nat→Tok) (k:Int) (m:MV)
  (w:x.2=[(x.1,ah7 (p.row r a b d u z t) v.nm (v.v4 u))]) (g:∀ O,∀ y∈v.obl (p.row r a b d u z t) O,y=true) (n:∀ O,v.want (p.row r a b d u z t) O=bl (v.obl (p.row r a b d u z t) O))
  (l:∀ O,v.pc (p.row r a b d u z t) O=.int (Int.ofNat (s.pc + 1)) (O 1)) (i:∀ O,∃ tk q,v.put (p.row r a b d u z t) O=some ((k,tk),m.v q)) (j:v.once (p.row r a b d u z t)=p.oc) :
  cj J cells xe it f o h sa c L (s.put k m) r:=by
 refine ez v H a b d u z t w (fun O=>by rw [n];exact ch (g O)) (fun O=>⟨_,l O⟩) (fun O=>?_) (by rw [j];exact H.oc) rfl (aid H.bnd k m _)
 obtain ⟨tk,q,e⟩:=i O
 rw [e]
 exact H.es.set k tk m q
theorem zf {b:Int} {v:MV} {a e:Int} {t:Nat→Tok} {u:Tok} (H:cA J.p cells xe it f o h s first r L p sa c sc G l1 x l2) (g:x.2=[(x.1,bU J10 a b e t (v.v u))]):cj J cells xe it f o h sa c L (s.put b v) r:=by
 have d:=H.pc
 cases first with
 | true=>
  cases v with
  | n=>exact bK .fN H a b e .none ⟨#[]⟩ t b .n (by rw [g];rfl) (fun O=>H.put) (fun z=>rfl) (fun O=>by rw [← d];rfl) (fun O=>⟨t 12,0,rfl⟩) rfl
  | i y=>exact bK .fI H a b e (.int y u) ⟨#[]⟩ t b (.i y) (by rw [g];rfl) (fun O=>H.put) (fun z=>rfl) (fun O=>by rw [← d];rfl) (fun O=>⟨t 12,u,rfl⟩) rfl
  | s y=>exact bK .fS H a b e (.str y u) ⟨#[]⟩ t b (.s y) (by rw [g];rfl) (fun O=>H.put) (fun z=>rfl) (fun O=>by rw [← d];rfl) (fun O=>⟨t 12,u,rfl⟩) rfl
 | false=>
  cases v with
  | n=>exact bK .vN H a b e .none ⟨#[]⟩ t b .n (by rw [g];rfl) (fun O=>H.put) (fun z=>rfl) (fun O=>by rw [← d];rfl) (fun O=>⟨t 12,0,rfl⟩) rfl
  | i y=>exact bK .vI H a b e (.int y u) ⟨#[]⟩ t b (.i y) (by rw [g];rfl) (fun O=>H.put) (fun z=>rfl) (fun O=>by rw [← d];rfl) (fun O=>⟨t 12,u,rfl⟩) rfl
  | s y=>exact bK .vS H a b e (.str y u) ⟨#[]⟩ t b (.s y) (by rw [g];rfl) (fun O=>H.put) (fun z=>rfl) (fun O=>by rw [← d];rfl) (fun O=>⟨t 12,u,rfl⟩) rfl
theorem EE {b:Int} {a e:Int} {t:Nat→Tok} (H:cA J.p cells xe it f o h s false r L p sa c sc G l1 x l2) (g:x.2=[(x.1,bU J54 a b e t .none)]):cj J cells xe it f o h sa c L (s.put b .n) r:=by
 have d:=H.pc
 exact bK .null H a b e .none ⟨#[]⟩ t b .n (by rw [g];rfl) (fun O=>H.put) (fun z=>rfl) (fun O=>by rw [← d];rfl) (fun O=>⟨t 12,0,rfl⟩) rfl
theorem Dg {a b:Int} {g:Int} {t:Nat→Tok} (H:cA J.p cells xe it f o h s false r L p sa c sc G l1 x l2) (k:x.2=[(x.1,bU J22 a b g t .none)]):cj J cells xe it f o h sa c L (s.put b (cN a s.held)) r:=by
 have e:=H.pc
 obtain ⟨u,d⟩:=H.es.gtM a
 cases j:cN a s.held with
 | n=>
  rw [j] at d
  exact bK .cpN H a b g .none ⟨#[]⟩ t b .n (by rw [k];rfl) (fun O=>cL H.put (bw H.es.ikT (by show VK.is .n ((getD a p.es).getD .none)=true;rw [d];rfl))) (fun z=>rfl) (fun O=>by rw [← e];rfl) (fun O=>⟨t 12,0,rfl⟩) rfl
 | i y=>
  rw [j] at d
  exact bK .cpI H a b g .none ⟨#[]⟩ t b (.i y) (by rw [k];rfl) (fun O=>cL H.put (bw H.es.ikT (by show VK.is .i ((getD a p.es).getD .none)=true;rw [d];rfl))) (fun z=>rfl) (fun O=>by rw [← e];rfl) (fun O=>⟨t 12,u,by show some ((b,t 12),VK.i.as ((getD a p.es).getD .none))=_;rw [d];rfl⟩) rfl
 | s y=>
  rw [j] at d
  exact bK .cpS H a b g .none ⟨#[]⟩ t b (.s y) (by rw [k];rfl) (fun O=>cL H.put (bw H.es.ikT (by show VK.is .s ((getD a p.es).getD .none)=true;rw [d];rfl))) (fun z=>rfl) (fun O=>by rw [← e];rfl) (fun O=>⟨t 12,u,by show some ((b,t 12),VK.s.as ((getD a p.es).getD .none))=_;rw [d];rfl⟩) rfl
theorem F5 {a b d:Int} {t:Nat→Tok} (H:cA J.p cells xe it f o h s false r L p sa c sc G l1 x l2) (k:x.2=[(x.1,bU J41 a b d t .none)]):cj J cells xe it f o h sa c L (s.put d (cN a s.held)) r:=by
 have g:=H.pc
 obtain ⟨u,e⟩:=H.es.gtM a
 cases j:cN a s.held with
 | n=>
  rw [j] at e
  exact bK .mkN H a b d .none ⟨#[]⟩ t d .n (by rw [k];rfl) (fun O=>cL H.put (bw H.es.ikT (by show VK.is .n ((getD a p.es).getD .none)=true;rw [e];rfl))) (fun z=>rfl) (fun O=>by rw [← g];rfl) (fun O=>⟨t 13,0,rfl⟩) rfl
 | i y=>
  rw [j] at e
  exact bK .mkI H a b d .none ⟨#[]⟩ t d (.i y) (by rw [k];rfl) (fun O=>cL H.put (bw H.es.ikT (by show VK.is .i ((getD a p.es).getD .none)=true;rw [e];rfl))) (fun z=>rfl) (fun O=>by rw [← g];rfl) (fun O=>⟨t 13,u,by show some ((d,t 13),VK.i.as ((getD a p.es).getD .none))=_;rw [e];rfl⟩) rfl
 | s y=>
  rw [j] at e
  exact bK .mkS H a b d .none ⟨#[]⟩ t d (.s y) (by rw [k];rfl) (fun O=>cL H.put (bw H.es.ikT (by show VK.is .s ((getD a p.es).getD .none)=true;rw [e];rfl))) (fun z=>rfl) (fun O=>by rw [← g];rfl) (fun O=>⟨t 13,u,by show some ((d,t 13),VK.s.as ((getD a p.es).getD .none))=_;rw [e];rfl⟩) rfl
theorem xh (a:Int) (u:Tok) (H:bZ p.es s.held):∃ q,(getD a p.es).getD (.int 0 u)=((fJ a s.held).getD (.i 0)).v q:=by
 have:=H.get a
 cases b:fJ a s.held with
 | none=>rw [b] at this;exact ⟨u,by rw [this];rfl⟩
 | some v=>rw [b] at this;obtain ⟨q,hq⟩:=this;exact ⟨q,by rw [hq];rfl⟩
theorem Fe {a b y:Int} {g:Int} {t:Nat→Tok} (H:cA J.p cells xe it f o h s false r L p sa c sc G l1 x l2) (l:x.2=[(x.1,bU J69 a b g t .none)]) (e:(fJ a s.held).getD (.i 0)=.i y):cj J cells xe it f o h sa c L (s.put a (.i (y + b))) r:=by
 have d:=H.pc
 have k:∀ O:Nat→Nat,VK.is .i ((getD a p.es).getD (.int 0 (O 29)))=true:=fun O=>by
  obtain ⟨q,hq⟩:=xh a (O 29) H.es
  rw [hq,e];rfl
 have j:∀ O:Nat→Nat,some ((a,t 11),Value.int (am ((getD a p.es).getD (.int 0 (O 3))) + b) (O 2))=some ((a,t 11),(MV.i (y + b)).v (O 2)):=fun O=>by
  obtain ⟨q,hq⟩:=xh a (O 3) H.es
  rw [hq,e];rfl
 exact bK .addi H a b g .none ⟨#[]⟩ t a (.i (y + b)) (by rw [l];rfl) (fun O=>cL H.put (all_cons H.es.ikT (all_cons (k O) cC))) (fun z=>rfl) (fun O=>by rw [← d];rfl) (fun O=>⟨t 11,O 2,j O⟩) rfl
theorem aib {a:Int} {es:List DictEntry} {m:List (Int × MV)} {y:Int} (h:bZ es m) (e:fJ a m=some (.i y)):∃ u,getD a es=some (.int y u)∧∀ b∈Lb a es,b=true:=by
 have:=h.get a
 rw [e] at this
 obtain ⟨u,d⟩:=this
 exact ⟨u,d,all_cons h.ikT (all_cons (by rw [d];rfl) (all_cons (by rw [d];rfl) cC))⟩
theorem EW {a b:Int} {e:Int} {t:Nat→Tok} {z:Str} {q:Tok} (H:cA J.p cells xe it f o h s false r L p sa c sc G l1 x l2) (j:x.2=[(x.1,bU J38 a b e t (.str z q))]) (i:cN a s.held=.n):cj J cells xe it f o h sa c L (s.put b .n) r:=by
 have d:=H.pc
 obtain ⟨u,g⟩:=H.es.gtM a
 rw [i] at g
 exact bK .unN H a b e (.str z q) ⟨#[]⟩ t b .n (by rw [j];rfl) (fun O=>cL H.put (bw H.es.ikT (by show VK.is .n ((getD a p.es).getD .none)=true;rw [g];rfl))) (fun Z=>rfl) (fun O=>by rw [← d];rfl) (fun O=>⟨t 12,0,rfl⟩) rfl
theorem EL {a b y:Int} {e:Int} {t:Nat→Tok} {z:Str} {q:Tok} (H:cA J.p cells xe it f o h s false r L p sa c sc G l1 x l2) (l:x.2=[(x.1,bU J38 a b e t (.str z q))]) (j:fJ a s.held=some (.i y)):cj J cells xe it f o h sa c L (s.put b (.i (1 - y))) r:=by
 have d:=H.pc
 obtain ⟨u,g,k⟩:=aib H.es j
 exact bK .unI H a b e (.str z q) ⟨#[]⟩ t b (.i (1 - y)) (by rw [l];rfl) (fun O=>cL H.put (cL k (bw H.es.ikT (by show VK.is .i ((getD a p.es).getD .none)=true;rw [g];rfl)))) (fun Z=>rfl) (fun O=>by rw [← d];rfl)
  (fun O=>⟨t 12,O 2,by show some ((b,t 12),Value.int (1 - am ((getD a p.es).getD .none)) (O 2))=_;rw [g];rfl⟩) rfl
theorem FC {b:Nat} {a d:Int} {t:Nat→Tok} (H:cA J.p cells xe it f o h s false r L p sa c sc G l1 x l2) (e:x.2=[(x.1,bU J39 a (Int.ofNat b) d t .none)]):cj J cells xe it f o h sa c L (s.to b) r:=
 ez .goto H a (Int.ofNat b) d .none ⟨#[]⟩ t (by rw [e];rfl) (fun O=>rfl) (fun O=>⟨t 12,rfl⟩) (fun O=>H.es) H.oc rfl (km H.bnd _)
theorem zp {a:Int} {b:Nat} {d:Int} {t:Nat→Tok} (H:cA J.p cells xe it f o h s false r L p sa c sc G l1 x l2) (e:x.2=[(x.1,bU J48 a (Int.ofNat b) d t .none)]) :
  cj J cells xe it f o h sa c L { s.to b with held:=jz a (.i (Int.ofNat (s.pc + 1))) s.held } r:=
 ez .gosub H a (Int.ofNat b) d .none ⟨#[]⟩ t (by rw [e];rfl) (fun O=>ch H.put) (fun O=>⟨t 12,rfl⟩) (fun O=>by rw [← H.pc];exact H.es.set a (t 11) (.i (Int.ofNat (p.pc + 1))) (O 1)) H.oc rfl (aid H.bnd a _ _)
theorem KI {a:Int} {y:Nat} {b d:Int} {t:Nat→Tok} (H:cA J.p cells xe it f o h s false r L p sa c sc G l1 x l2) (k:x.2=[(x.1,bU J23 a b d t .none)]) (e:fJ a s.held=some (.i (Int.ofNat y))):cj J cells xe it f o h sa c L (s.to y) r:=by
 obtain ⟨u,j,g⟩:=aib H.es e
 exact ez .ret H a b d .none ⟨#[]⟩ t (by rw [k];rfl) (fun O=>ch g) (fun O=>⟨u,by show VK.i.as ((getD a p.es).getD .none)=_;rw [j];rfl⟩) (fun O=>H.es) H.oc rfl (km H.bnd _)
theorem Ih {a:Int} {b:Nat} {g:Int} {t:Nat→Tok} (H:cA J.p cells xe it f o h s false r L p sa c sc G l1 x l2) (k:x.2=[(x.1,bU J34 a (Int.ofNat b) g t .none)]) :
  cj J cells xe it f o h sa c L (s.jump (match cN a s.held with | .n=>true | _=>false) b) r:=by
 have e:=H.pc
 obtain ⟨u,d⟩:=H.es.gtM a
 cases j:cN a s.held with
 | n=>
  rw [j] at d
  exact ez .isT H a (Int.ofNat b) g .none ⟨#[]⟩ t (by rw [k];rfl) (fun O=>ch (bw H.es.ikT (by show VK.is .n ((getD a p.es).getD .none)=true;rw [d];rfl))) (fun O=>⟨t 12,rfl⟩) (fun O=>H.es) H.oc rfl (km H.bnd _)
 | i y=>
  rw [j] at d
  exact ez .isF H a (Int.ofNat b) g .none ⟨#[]⟩ t (by rw [k];rfl) (fun O=>ch (bw H.es.ikT (by show VK.is .i ((getD a p.es).getD .none)=true;rw [d];rfl))) (fun O=>⟨O 1,by rw [show (s.jump false b).pc=p.pc + 1 by rw [e];rfl];rfl⟩) (fun O=>H.es) H.oc rfl (km H.bnd _)
 | s y=>
  rw [j] at d
  exact ez .isG H a (Int.ofNat b) g .none ⟨#[]⟩ t (by rw [k];rfl) (fun O=>ch (bw H.es.ikT (by show VK.is .s ((getD a p.es).getD .none)=true;rw [d];rfl))) (fun O=>⟨O 1,by rw [show (s.jump false b).pc=p.pc + 1 by rw [e];rfl];rfl⟩) (fun O=>H.es) H.oc rfl (km H.bnd _)
theorem xS {r:Nat} (H:Bnd s (r + 1)) (a:Int) (pc:Nat):Bnd { s with pc:=pc,done:=nZ a s.done } r:=
 ⟨by have:=H.held;show s.held.length + r≤2000;lia,by have:=H.done;have:=G0 a s.done;show (nZ a s.done).length + r≤2000;lia,fun nc vs e=>by have:=H.set nc vs e;lia⟩
theorem akW {a:Int} {b:Nat} {g:Int} {t:Nat→Tok} (H:cA J.p cells xe it f o h s false r L p sa c sc G l1 x l2) (j:x.2=[(x.1,bU J44 a (Int.ofNat b) g t .none)]) :
  cj J cells xe it f o h sa c L { s.jump (kO a s.done) b with done:=nZ a s.done } r:=by
 have e:=H.pc
 have i:∀ b∈eG p.oc,b=true:=rh H.oc.ikT (by rw [H.oc.len];have:=H.bnd.done;lia)
 have d:=H.oc.mem a
 cases hd:kO a s.done with
 | true=>
  rw [hd] at d
  exact ez .onT H a (Int.ofNat b) g .none ⟨#[]⟩ t (by rw [j];rfl) (fun O=>ch (cL i (all_cons H.oc.ikT (all_cons d cC)))) (fun O=>⟨t 12,rfl⟩) (fun O=>H.es) (H.oc.set a (t 11)) rfl (xS H.bnd a _)
 | false=>
  rw [hd] at d
  refine ez .onF H a (Int.ofNat b) g .none ⟨#[]⟩ t (by rw [j];rfl) (fun O=>?_) (fun O=>⟨O 1,by rw [show ({ s.jump false b with done:=nZ a s.done }:AS).pc=p.pc + 1 by rw [e];rfl];rfl⟩) (fun O=>H.es) (H.oc.set a (t 11)) rfl (xS H.bnd a _)
  show [OV.hb (ikB p.oc),.hb (Nat.ble p.oc.length 16777216),.hb (ikB p.oc),.hb (getD a p.oc).isSome]=[.hb true,.hb true,.hb true,.hb false]
  rw [H.oc.ikT,d,i _ (kt _ (cv.mpr rfl))]
end
noncomputable def vq:V8→AF→VQ
 | .n,_=>.nn
 | .i0,.txt=>.is
 | .i1,.txt=>.is
 | .i2,.txt=>.is
 | .i0,_=>.ii
 | .i1,_=>.ii
 | .i2,_=>.ii
 | .s2,.txt=>.ss
 | .s2,_=>.si
 | _,_=>.ss
theorem P3 (x:V8) (g:AF) (u:Tok):(vq x g).k1.as (x.v u)=x.v u∧(vq x g).k1.is (x.v u)=true:=
 ⟨amW (eV8.pr eAF) (fun y=>(vq y.1 y.2).k1.as (y.1.v u)) (fun y=>y.1.v u) (x,g),Enu.all (eV8.pr eAF) (fun y=>(vq y.1 y.2).k1.is (y.1.v u)) (x,g)⟩
theorem nO (x:V8) (g:AF) (t u:Tok):aku (x.v t) g.s u=oM x g t u:=by
 unfold aku
 rw [cV,H9]
 cases x<;>rfl
theorem Bh (x:V8) (g:AF) (t u:Tok):(vq x g).k2.as (oM x g t u)=oM x g t u∧(vq x g).k2.is (oM x g t u)=true:=
 ⟨amW (eV8.pr eAF) (fun y=>(vq y.1 y.2).k2.as (oM y.1 y.2 t u)) (fun y=>oM y.1 y.2 t u) (x,g),Enu.all (eV8.pr eAF) (fun y=>(vq y.1 y.2).k2.is (oM y.1 y.2 t u)) (x,g)⟩
noncomputable def V8.k:V8→VK
 | .n=>.n
 | .i0=>.i
 | .i1=>.i
 | .i2=>.i
 | _=>.s
theorem V8.k_is (x:V8) (u:Tok):x.k.as (x.v u)=x.v u∧x.k.is (x.v u)=true:=by cases x<;>exact ⟨rfl,rfl⟩
noncomputable def RS:List V8→Bool
 | []=>true
 | _=>false
noncomputable def n4:Nat→N4
 | 0=>.n0
 | 1=>.n1
 | 2=>.n2
 | _=>.n3
theorem nf {ys:List Value} (h:ys.length≤3):itV ⟨ys⟩ 0 (n4 ys.length).n=ys:=by
 match ys,h with
 | [],_=>rfl
 | [_],_=>rfl
 | [_,_],_=>rfl
 | [_,_,_],_=>rfl
 | _ :: _ :: _ :: _ :: _,h=>simp at h
section
variable {J:WB} {cells:List (Nat × XL)} {xe it f o h:Nat} {s s':AS} {r sa c:Nat} {p:SVm} {sc G L:XL} {l1 l2:List (Nat × XL)} {x:Nat × XL} {first:Bool}
theorem cA.geX {P:Params} (H:cA P cells xe it f o h s first r L p sa c sc G l1 x l2):(1158≤it∧1158≤f∧1158≤o∧1158≤h∧1158≤sa∧1158≤c)∧(∀ q∈x.2,1158≤q.1)∧∀ q∈sc,1158≤q.1:=by
 obtain ⟨g,a⟩:=CC H.ge H.perm
 refine ⟨g,fun q hq=>a q ?_,fun q hq=>a q (uj _ hq)⟩
 refine u9 _ (uj _ ?_)
 rw [(fp H.cells).mem_iff]
 exact uj _ hq
theorem je {P:Params} {b:SVm} {d r it f o h sa c:Nat} {L' Y a Z:XL} (e:L'.Perm (bc P b false d r it f o h sa c++Y)) (g:(Y++a).Perm Z):(L'++a).Perm (bc P b false d r it f o h sa c++Z):=
 (e.append_right a).trans (by rw [uG];exact alB _ g)
theorem JT {a:Int} {g:AF} {b d:Int} {t:Nat→Tok} {y:Nat} {k:V8} (H:cA J.p cells xe it f o h s false r L p sa c sc G l1 x l2) (z:x.2=[(x.1,bU J28 a b d t (.ref y)),(y,aO [.str g.s (t 14)])]) (hk:(cN a s.held).v8=some k) :
  cj J cells xe it f o h sa c L (s.put a (qc k g)) r:=by
 obtain ⟨m,e⟩:=H.row a b d .none g.s t
 obtain ⟨⟨N,F,S,M,R,E⟩,B,-⟩:=H.geX
 rw [z] at B
 have P:=B _ (gw ..)
 have K:=B _ (kt _ (cv.mpr rfl))
 obtain ⟨u,l⟩:=H.es.gtM a
 rw [MV.v8_eq hk,V8.mv_v] at l
 obtain ⟨k1,w⟩:=P3 k g u
 have j:∀ O,∃ q,(vq k g).res (p.row r a b d .none g.s t) O=(qc k g).v q:=fun O=>by
  obtain ⟨q,hq⟩:=Ul k g u O
  refine ⟨q,?_⟩
  show (vq k g).k2.as (aku ((vq k g).k1.as ((getD a p.es).getD .none)) g.s O)=_
  rw [l,k1,nO,(Bh k g u O).1,hq]
 refine jr (need:=11) H.cells H.perm (ai _) e (Q:=_) (touched:=[]) sc (by rw [au]) (by
  rw [z,au]
  refine S8 (vq k g) (p.row r a b d .none g.s t) it f o x.1 h sa c y (by
   repeat (first | exact anc | refine anb (by assumption) ?_)) m (cL H.put (cL (all_cons ?_ (all_cons ?_ (all_cons ?_ cC))) (bw H.es.ikT ?_)))
  · show (v8Of ((vq k g).k1.as ((getD a p.es).getD .none))).isSome=true
    rw [l,k1,cV];rfl
  · show (Ag g.s).isSome=true
    rw [H9];rfl
  · show (vq k g).k2.is (aku ((vq k g).k1.as ((getD a p.es).getD .none)) g.s 0)=true
    rw [l,k1,nO,(Bh k g u 0).2]
  · show (vq k g).k1.is ((getD a p.es).getD .none)=true
    rw [l,w]) fun L' hq=>?_
 refine ex4 hq fun O tk t6 t7 n=>?_
 obtain ⟨C,D⟩:=n
 obtain ⟨q,hq⟩:=j O
 have A:bZ (cI a (t 11) ((vq k g).res (p.row r a b d .none g.s t) O) p.es) (jz a (qc k g) s.held):=by rw [hq];exact H.es.set a (t 11) (qc k g) q
 refine ⟨{ ((p.row r a b d .none g.s t).nxt (p.pc + 1) tk t6 t7 C x.1 (cI a (t 11) ((vq k g).res (p.row r a b d .none g.s t) O) p.es) (epD a p.es p.he) p.ss p.se p.oc p.oe) with i:=p.i + 1 },sc,[],by show p.pc + 1=s.pc + 1;rw [H.pc],H.xs,H.xe,H.len,A,H.oc,H.ss,aid H.bnd a _ _,?_⟩
 rw [jq]
 exact je D (by rw [z,au];exact b6 _)
theorem Gq {nc:Bool} {b j:Int} {t:Nat→Tok} {y z q d:Nat} (H:cA J.p cells xe it f o h s false r L p sa c sc G l1 x l2)
  (C:x.2=[(x.1,bU J20 0 b j t (.ref y)),(y,aw 938 z),(z,eW J.p (t 20) (t 21) q d),(q,aO [.str (aA nc) (t 14)])]) :
  cj J cells xe it f o h sa c L { s.next with set:=some (nc,[]) } r:=by
 obtain ⟨m,g⟩:=H.row 0 b j .none (aA nc) t
 obtain ⟨⟨Y,P,g3,X,g5,M⟩,w,-⟩:=H.geX
 rw [C] at w
 have Z:=w _ (gw ..)
 have T:=w _ (kt _ (gw ..))
 have N:=w _ (kt _ (kt _ (gw ..)))
 have R:=w _ (kt _ (kt _ (kt _ (gw ..))))
 have u:(∀ y∈eG p.ss,y=true)∧∀ a,∃ k,cI 0 (t 11) (.ref a) p.ss=[⟨hashInt 0,.int 0 k,.ref a⟩]:=by
  have:=H.ss
  cases D:s.set with
  | none=>rw [D] at this;obtain ⟨e,-⟩:=this;rw [e];exact ⟨all_cons rfl (all_cons rfl cC),fun a=>⟨t 11,rfl⟩⟩
  | some v=>
   obtain ⟨A,vs⟩:=v
   rw [D] at this;obtain ⟨k,S,ts,W,ys,e,-⟩:=this;rw [e];exact ⟨all_cons rfl (all_cons rfl cC),fun a=>⟨k,rfl⟩⟩
 refine jr (need:=11) H.cells H.perm (ai _) (p':={ p.row r 0 b j .none (aA nc) t with ye:=d }) g (Q:=_) (touched:=[]) sc (by rw [au]) (by
  rw [C,au]
  exact Tc { p.row r 0 b j .none (aA nc) t with ye:=d } it f o x.1 h sa c y z q (by
   repeat (first | exact anc | refine anb (by assumption) ?_)) ⟨m.item,m.size⟩ u.1) fun L' hq=>?_
 obtain ⟨a,tk,t6,t7,K,F⟩:=hq
 obtain ⟨k,B⟩:=u.2 a
 refine ⟨{ (({ p.row r 0 b j .none (aA nc) t with ye:=d }:SVm).nxt (p.pc + 1) tk t6 t7 K x.1 p.es p.he (cI 0 (t 11) (.ref a) p.ss) (epD 0 p.ss p.se) p.oc p.oe) with i:=p.i + 1 },[(a,ab ⟨[.str (aA nc) (t 14)]⟩ 0)],sc,by show p.pc + 1=s.pc + 1;rw [H.pc],H.xs,H.xe,H.len,H.es,H.oc,⟨k,a,t 14,0,[],B,rfl,trivial⟩,⟨by have:=H.bnd.held;show s.held.length + r≤2000;lia,by have:=H.bnd.done;show s.done.length + r≤2000;lia,fun A vs e=>by
  injection e with e
  injection e with _ e
  subst e
  have:=H.bnd.held
  show 0 + r≤2000
  lia⟩,?_⟩
 rw [jq]
 refine je F ?_
 rw [C]
 exact ane (L:=[_]) (E:=[_,_,_,_,_]) (.a (.c 0 (.c 1 (.c 2 (.c 3 (.c 4 .n))))) (.l 0)) (.a (.c 1 (.c 2 (.c 3 (.c 4 .n)))) (.a (.c 0 .n) (.l 0))) rfl
theorem jX.some_ {ss:List DictEntry} {sc:XL} {nc:Bool} {vs:List V8} (h:jX ss sc (some (nc,vs))):∃ a ts e ys,getD 0 ss=some (.ref a)∧ikB ss=true∧sc=[(a,ab ⟨.str (aA nc) ts :: ys⟩ e)]∧bk ys vs ∧
  ∀ d i k b,d=[(a,ab ⟨.str (aA nc) ts :: b⟩ k)]→bk b i→jX ss d (some (nc,i)):=by
 refine ex4 h fun t a ts e g=>?_
 obtain ⟨ys,g⟩:=g
 refine an2 g fun j l n=>?_
 exact ⟨a,ts,e,ys,by rw [j];rfl,by rw [j];rfl,l,n,fun d i k b m q=>⟨t,a,ts,k,b,j,m,q⟩⟩
theorem Ig {b d:Int} {t:Nat→Tok} {nc:Bool} {vs:List V8} {k:V8} (H:cA J.p cells xe it f o h s false r L p sa c sc G l1 x l2) (C:x.2=[(x.1,bU J27 0 b d t .none)]) (E:s.set=some (nc,vs)) (hk:(cN b s.held).v8=some k) :
  cj J cells xe it f o h sa c L { s.next with set:=some (nc,vs++[k]) } r:=by
 have n:=H.ss
 rw [E] at n
 refine ex4 n.some_ fun y ts e ys w=>?_
 refine an4 w fun M A q l m=>?_
 have K:=H.bnd.set nc vs E
 have N:=l.len
 obtain ⟨g,a⟩:=H.row 0 b d .none ⟨#[]⟩ t
 obtain ⟨⟨g1,Y,X,g4,g5,W⟩,F,D⟩:=H.geX
 rw [C] at F
 rw [q] at D
 have gx:=F _ (gw ..)
 have Z:=D _ (gw ..)
 obtain ⟨u,B⟩:=H.es.gtM b
 rw [MV.v8_eq hk,V8.mv_v] at B
 obtain ⟨k1,z⟩:=k.k_is u
 refine jr (need:=11) H.cells H.perm (ai _) (p':={ p.row r 0 b d .none ⟨#[]⟩ t with ys:=⟨.str (aA nc) ts :: ys⟩,ye:=e }) a (Q:=_) (touched:=sc) [] (b6 _) (by
  rw [C,q]
  exact Rm k.k { p.row r 0 b d .none ⟨#[]⟩ t with ys:=⟨.str (aA nc) ts :: ys⟩,ye:=e } it f o x.1 h sa c y (by
   repeat (first | exact anc | refine anb (by assumption) ?_)) ⟨g.item,g.size⟩ (aF (by show (Value.str (aA nc) ts :: ys).length≤_;simp;lia)) (bw H.es.ikT (by show k.k.is ((getD b p.es).getD .none)=true;rw [B,z])) A M) fun L' hq=>?_
 refine ex4 hq fun tk t6 t7 P S=>?_
 refine ⟨{ (({ p.row r 0 b d .none ⟨#[]⟩ t with ys:=⟨.str (aA nc) ts :: ys⟩,ye:=e }:SVm).nxt (p.pc + 1) tk t6 t7 P x.1 p.es p.he p.ss p.se p.oc p.oe) with i:=p.i + 1 },[(y,ab ⟨.str (aA nc) ts :: (ys++[k.v u])⟩ (e + 1))],[],by show p.pc + 1=s.pc + 1;rw [H.pc],H.xs,H.xe,H.len,H.es,H.oc,m _ _ _ _ rfl l.push,⟨by have:=H.bnd.held;show s.held.length + r≤2000;lia,by have:=H.bnd.done;show s.done.length + r≤2000;lia,fun R T j=>by
  injection j with j
  injection j with _ j
  subst j
  simp;lia⟩,?_⟩
 rw [jq]
 refine je S ?_
 rw [C]
 have e1:(⟨.str (aA nc) ts :: ys⟩:Array Value).push (k.k.as ((getD b p.es).getD .none))=⟨.str (aA nc) ts :: (ys++[k.v u])⟩:=by
  rw [B,k1];simp
 show ([(x.1,bU J27 0 b d t .none),(y,ab ((⟨.str (aA nc) ts :: ys⟩:Array Value).push (k.k.as ((getD b p.es).getD .none))) (e + 1))]++[]).Perm _
 rw [e1]
 exact b6 _
theorem xm {b:Nat} {g:Int} {t:Nat→Tok} {nc:Bool} {vs:List V8} (H:cA J.p cells xe it f o h s false r L p sa c sc G l1 x l2) (B:x.2=[(x.1,bU J40 0 (Int.ofNat b) g t .none)]) (E:s.set=some (nc,vs)) :
  cj J cells xe it f o h sa c L (s.jump (RS vs) b) r:=by
 have l:=H.ss
 rw [E] at l
 refine ex4 l.some_ fun y ts e ys n=>?_
 refine an4 n fun M w a u D=>?_
 have K:=H.bnd.set nc vs E
 have k:=u.len
 have A:=H.pc
 obtain ⟨j,d⟩:=H.row 0 (Int.ofNat b) g .none ⟨#[]⟩ t
 obtain ⟨⟨Y,T,S,X,g5,R⟩,F,C⟩:=H.geX
 rw [B] at F
 rw [a] at C
 have Z:=F _ (gw ..)
 have W:=C _ (gw ..)
 refine exL ((RS vs):Bool) fun v hv=>?_
 rw [← hv]
 have m:eqI (Int.ofNat (⟨.str (aA nc) ts :: ys⟩:Array Value).size) (Int.ofNat 1)=v:=by
  cases vs with
  | nil=>
   have:ys=[]:=List.length_eq_zero_iff.mp k
   rw [this,hv];rfl
  | cons q vs=>
   cases ys with
   | nil=>cases k
   | cons z ys=>
    rw [hv]
    show ((Int.ofNat (ys.length + 1 + 1):Int) == Int.ofNat 1)=false
    refine beq_eq_false_iff_ne.mpr fun q=>?_
    have q:((ys.length + 1 + 1:Nat):Int)=((1:Nat):Int):=q
    lia
 refine jr (need:=11) H.cells H.perm (ai _) (p':={ p.row r 0 (Int.ofNat b) g .none ⟨#[]⟩ t with ys:=⟨.str (aA nc) ts :: ys⟩,ye:=e }) d (Q:=_) (touched:=sc) [] (b6 _) (by
  rw [B,a]
  exact U2 v { p.row r 0 (Int.ofNat b) g .none ⟨#[]⟩ t with ys:=⟨.str (aA nc) ts :: ys⟩,ye:=e } it f o x.1 h sa c y (s.jump v b).pc (by
   repeat (first | exact anc | refine anb (by assumption) ?_)) ⟨j.item,j.size⟩ (aF (by show (Value.str (aA nc) ts :: ys).length≤_;simp;lia)) m w M (fun O=>by
    cases v with
    | true=>exact ⟨t 12,rfl⟩
    | false=>exact ⟨O 1,by show Value.int (Int.ofNat (p.pc + 1)) _=_;rw [A];rfl⟩)) fun L' hq=>?_
 refine ex4 hq fun tk t6 t7 N P=>?_
 refine ⟨{ (({ p.row r 0 (Int.ofNat b) g .none ⟨#[]⟩ t with ys:=⟨.str (aA nc) ts :: ys⟩,ye:=e }:SVm).nxt (s.jump v b).pc tk t6 t7 N x.1 p.es p.he p.ss p.se p.oc p.oe) with i:=p.i + 1 },sc,[],rfl,H.xs,H.xe,H.len,by cases v<;>exact H.es,by cases v<;>exact H.oc,by cases v<;>exact H.ss,by cases v<;>exact km H.bnd _,?_⟩
 rw [jq]
 refine je P ?_
 rw [B,a]
 exact b6 _
theorem II {b:Nat} {a:Int} {t:Nat→Tok} {nc:Bool} {vs:List V8} {k:V8} (H:cA J.p cells xe it f o h s false r L p sa c sc G l1 x l2) (F:x.2=[(x.1,bU J33 0 (Int.ofNat b) a t (.int 1 (t 14)))]) (Y:s.set=some (nc,vs)) (hk:(cN a s.held).v8=some k) (hl:vs.length≤3) :
  cj J cells xe it f o h sa c L (s.jump (fndA nc k vs) b) r:=by
 have z:=H.ss
 rw [Y] at z
 refine ex4 z.some_ fun y ts e ys B=>?_
 refine an4 B fun R D m l M=>?_
 have S:=l.len
 have E:=H.pc
 obtain ⟨w,q⟩:=H.row 0 (Int.ofNat b) a .none (aA nc) (fun j=>match j with | 20=>ts | j=>t j)
 obtain ⟨⟨g1,g2,g3,g4,g5,g6⟩,P,K⟩:=H.geX
 rw [F] at P
 rw [m] at K
 have gx:=P _ (gw ..)
 have gy:=K _ (gw ..)
 obtain ⟨u,A⟩:=H.es.gtM a
 rw [MV.v8_eq hk,V8.mv_v] at A
 obtain ⟨k1,C⟩:=k.k_is u
 have g:itV ⟨ys⟩ 0 (n4 ys.length).n=ys:=nf (by lia)
 have d:jU { p.row r 0 (Int.ofNat b) a .none (aA nc) (fun j=>match j with | 20=>ts | j=>t j) with ys:=⟨ys⟩,ye:=e } (n4 ys.length)=ab ⟨.str (aA nc) ts :: ys⟩ e:=by
  show ab ⟨.str (aA nc) ts :: itV ⟨ys⟩ 0 (n4 ys.length).n⟩ e=_
  rw [g]
 refine jr (need:=11) H.cells H.perm (ai _) (p':={ p.row r 0 (Int.ofNat b) a .none (aA nc) (fun j=>match j with | 20=>ts | j=>t j) with ys:=⟨ys⟩,ye:=e }) q (Q:=_) (touched:=sc) [] (b6 _) (by
  rw [F,m,← d]
  exact Tz (n4 ys.length,k.k,fndA nc k vs) { p.row r 0 (Int.ofNat b) a .none (aA nc) (fun j=>match j with | 20=>ts | j=>t j) with ys:=⟨ys⟩,ye:=e } it f o x.1 h sa c y (s.jump (fndA nc k vs) b).pc (by
   repeat (first | exact anc | refine anb (by assumption) ?_)) ⟨w.item,w.size⟩ (fun O=>by
    have ek:R4 { p.row r 0 (Int.ofNat b) a .none (aA nc) (fun j=>match j with | 20=>ts | j=>t j) with ys:=⟨ys⟩,ye:=e } k.k O=d0 (k.v u) (aA nc) (fl [O 35,O 36,O 37]):=by
     show d0 (k.k.as ((getD a p.es).getD .none)) (aA nc) _=_
     rw [A,k1]
    have W:SE { p.row r 0 (Int.ofNat b) a .none (aA nc) (fun j=>match j with | 20=>ts | j=>t j) with ys:=⟨ys⟩,ye:=e } (n4 ys.length) O=kQ (aA nc) ys 1 (fun j=>O (39 + j)):=by
     show kQ (aA nc) (itV ⟨ys⟩ 0 (n4 ys.length).n) 1 _=_
     rw [g]
    obtain ⟨T,Z⟩:=zl nc k (ko:=d0 (k.v u) (aA nc) (fl [O 35,O 36,O 37])) (akL k nc u _) 1 (fun j=>O (39 + j)) l
    unfold Es
    rw [ek,W]
    refine all_cons ?_ (all_cons ?_ (all_cons ?_ (all_cons ?_ cC)))
    · show (iK _ && _)=true
      rw [yf,Z];rfl
    · rw [T];exact Wt _
    · show cK (itV ⟨ys⟩ 0 (n4 ys.length).n)=true
      rw [g];exact l.all
    · show (bh (aA nc)).isSome=true
      rw [cY];rfl) (cL (all_cons (by
    show (v8Of (k.k.as ((getD a p.es).getD .none))).isSome=true
    rw [A,k1,cV];rfl) (all_cons (by
    show (bh (aA nc)).isSome=true
    rw [cY];rfl) cC)) (bw H.es.ikT (by show k.k.is ((getD a p.es).getD .none)=true;rw [A,C]))) D R (fun O=>by
    cases fndA nc k vs with
    | true=>exact ⟨t 12,rfl⟩
    | false=>exact ⟨O 1,by show Value.int (Int.ofNat (p.pc + 1)) _=_;rw [E];rfl⟩)) fun L' hq=>?_
 refine ex4 hq fun tk t6 t7 X N=>?_
 rw [d] at N
 refine ⟨{ (({ p.row r 0 (Int.ofNat b) a .none (aA nc) (fun j=>match j with | 20=>ts | j=>t j) with ys:=⟨ys⟩,ye:=e }:SVm).nxt (s.jump (fndA nc k vs) b).pc tk t6 t7 X x.1 p.es p.he p.ss p.se p.oc p.oe) with i:=p.i + 1 },sc,[],rfl,H.xs,H.xe,H.len,by cases fndA nc k vs<;>exact H.es,by cases fndA nc k vs<;>exact H.oc,by cases fndA nc k vs<;>exact H.ss,by cases fndA nc k vs<;>exact km H.bnd _,?_⟩
 rw [jq]
 refine je N ?_
 rw [F,m]
 exact b6 _
end
section
variable {J:WB} {cells:List (Nat × XL)} {xe it f o h sa c:Nat} {pr:List Ins}
theorem nS.parts {P:Params} {s:AS} {first:Bool} {r:Nat} {L:XL} (b:bY P pr cells) (H:nS P cells xe it f o h sa c s first (r + 1) L) (d:∀ q∈L,1158≤q.1) {i:Ins} (w:pr[s.pc]? = some i) :
  ∃ p g G e x l2,cA P cells xe it f o h s first r L p sa c g G e x l2∧nH P i x.1 x.2:=by
 refine ex3 H fun p g G a=>?_
 refine an4 a fun l m u j a=>?_
 refine an4 a fun v y n k t=>?_
 refine ex3 (b.at w) fun e x l2 a=>?_
 refine an2 a fun e1 e2 e3=>?_
 exact ⟨p,g,G,e,x,l2,⟨l,m,u,j,v,y,n,k,t,e1,e2,d⟩,e3⟩
theorem N0 {s M:AS} {first:Bool} {r:Nat} {L:XL} (D:bY J.p pr cells) (H:nS J.p cells xe it f o h sa c s first (r + 1) L) {i:Ins} (P:pr[s.pc]? = some i) (j:s.step i=some M) (N:first=true→∃ b v,i=.value b v) :
  cj J cells xe it f o h sa c L M r:=by
 refine HR.of_has fun K Z=>?_
 refine ex4 (H.parts D K P) fun p R G Q C=>?_
 refine ex2 C fun x l2 C=>?_
 obtain ⟨H,m⟩:=C
 have l:i.isV=false→first=false:=fun hn=>by
  cases first with
  | false=>rfl
  | true=>obtain ⟨b,v,e⟩:=N rfl;rw [e] at hn;cases hn
 cases i with
 | value b v=>
  refine ex4 m fun a B t u w=>?_
  injection j with j
  subst j
  exact zf H w
 | null b=>
  have l:=l rfl;subst l
  obtain ⟨a,B,t,w⟩:=m
  injection j with j
  subst j
  exact EE H w
 | copy a b=>
  have l:=l rfl;subst l
  obtain ⟨B,t,w⟩:=m
  injection j with j
  subst j
  exact Dg H w
 | addi a b=>
  have l:=l rfl;subst l
  obtain ⟨B,t,w⟩:=m
  delta AS.step at j
  dsimp only at j
  cases E:(fJ a s.held).getD (.i 0) with
  | i y=>
   rw [E] at j
   injection j with j
   subst j
   exact Fe H w E
  | _=>rw [E] at j;cases j
 | aff a g=>
  have l:=l rfl;subst l
  refine ex4 m fun b B t y w=>?_
  delta AS.step at j
  dsimp only at j
  cases hk:(cN a s.held).v8 with
  | some k=>
   rw [hk] at j
   injection j with j
   subst j
   exact JT H w hk
  | none=>rw [hk] at j;cases j
 | mkr a c0=>
  have l:=l rfl;subst l
  obtain ⟨b,t,w⟩:=m
  injection j with j
  subst j
  exact F5 H w
 | opn nc=>
  have l:=l rfl;subst l
  refine ex4 m fun b B t y C=>?_
  refine ex3 C fun z q d w=>?_
  injection j with j
  subst j
  exact Gq H w
 | idx b=>
  have l:=l rfl;subst l
  obtain ⟨B,t,w⟩:=m
  delta AS.step at j
  dsimp only at j
  cases A:s.set with
  | none=>rw [A] at j;cases j
  | some q=>
   cases hk:(cN b s.held).v8 with
   | none=>rw [A,hk] at j;cases j
   | some k=>
    rw [A,hk] at j
    injection j with j
    subst j
    exact Ig H w A hk
 | una a b=>
  have l:=l rfl;subst l
  refine ex4 m fun B t z u w=>?_
  delta AS.step at j
  dsimp only at j
  cases F:fJ a s.held with
  | none=>
   rw [F] at j
   injection j with j
   subst j
   exact EW H w (by unfold cN;rw [F];rfl)
  | some v=>
   rw [F] at j
   cases v with
   | n=>
    injection j with j
    subst j
    exact EW H w (by unfold cN;rw [F];rfl)
   | i y=>
    injection j with j
    subst j
    exact EL H w F
   | s y=>cases j
 | once a b=>
  have l:=l rfl;subst l
  obtain ⟨B,t,w⟩:=m
  injection j with j
  subst j
  exact akW H w
 | isn a b=>
  have l:=l rfl;subst l
  obtain ⟨B,t,w⟩:=m
  injection j with j
  subst j
  exact Ih H w
 | rew b=>
  have l:=l rfl;subst l
  obtain ⟨B,t,w⟩:=m
  delta AS.step at j
  dsimp only at j
  cases A:s.set with
  | none=>rw [A] at j;cases j
  | some q=>
   rw [A] at j
   obtain ⟨nc,vs⟩:=q
   cases vs with
   | nil=>
    injection j with j
    subst j
    exact xm H w A
   | cons=>
    injection j with j
    subst j
    exact xm H w A
 | fnd b c0=>
  have l:=l rfl;subst l
  obtain ⟨t,w⟩:=m
  delta AS.step at j
  dsimp only at j
  cases A:s.set with
  | none=>rw [A] at j;cases j
  | some q=>
   cases hk:(cN c0 s.held).v8 with
   | none=>rw [A,hk] at j;cases j
   | some k=>
    rw [A,hk] at j
    dsimp only at j
    cases hl:Nat.ble q.2.length 3 with
    | false=>rw [hl] at j;cases j
    | true=>
     rw [hl] at j
     injection j with j
     subst j
     exact II H w A hk (ag hl)
 | goto b=>
  have l:=l rfl;subst l
  obtain ⟨a,B,t,w⟩:=m
  injection j with j
  subst j
  exact FC H w
 | gosub a b=>
  have l:=l rfl;subst l
  obtain ⟨B,t,w⟩:=m
  injection j with j
  subst j
  exact zp H w
 | ret a=>
  have l:=l rfl;subst l
  obtain ⟨b,B,t,w⟩:=m
  delta AS.step at j
  dsimp only at j
  cases E:fJ a s.held with
  | none=>rw [E] at j;cases j
  | some v=>
   rw [E] at j
   cases v with
   | i y=>
    cases y with
    | ofNat y=>
     injection j with j
     subst j
     exact KI H w E
    | negSucc=>cases j
   | _=>cases j
 | halt=>cases j
def QR (P:Params) (cells:List (Nat × XL)) (xe it f o h sa c:Nat) (s:AS) (e:En) (L':XL):Prop:=
 e=.ret (.bool true)∧∃ (p:SVm) (i r z:Nat) (b:Tok) (a G:XL),p.xs=⟨cells.map fun x=>.ref x.1⟩∧p.xe=xe∧bZ p.es s.held∧cS p.oc s.done∧jX p.ss a s.set ∧
  L'.Perm (bc P { p with tn:=.int (Int.ofNat z) b } false i r it f o h sa c++(cells.flatMap (·.2)++G))
theorem Nx {s:AS} {r:Nat} {L:XL} (g:bY J.p pr cells) (H:nS J.p cells xe it f o h sa c s false (r + 1) L) (K:pr[s.pc]? = some .halt) :
  HRG J 11 (.code (rnC it f)) L (QR J.p cells xe it f o h sa c s):=by
 refine HR.of_has fun n Z=>?_
 refine ex4 (H.parts g n K) fun p z G M d=>?_
 refine ex2 d fun x l2 d=>?_
 obtain ⟨H,d⟩:=d
 refine ex4 d fun a b l t y=>?_
 obtain ⟨w,j⟩:=H.row a b l .none ⟨#[]⟩ t
 obtain ⟨⟨W,S,R,T,Y,P⟩,C,Q⟩:=H.geX
 rw [y] at C
 have X:=C _ (gw ..)
 have E:=(S0 (J:=J) (p.row r a b l .none ⟨#[]⟩ t) it f o x.1 h sa c (by
  repeat (first | exact anc | refine anb (by assumption) ?_)) w).frame (z++(M.flatMap (·.2)++l2.flatMap (·.2)++G))
 have B:=fp H.cells
 refine (E.perm ?_).mono (ai _) fun e L' F=>?_
 · refine aG fun k u kc D m=>?_
   rw [m _ _ H.perm,j]
   simp only [u,m _ _ B]
   rw [y]
   show k (bc _ _ _ _ _ _ _ _ _ _ _) + k [(x.1,bU J13 a b l t .none)] + _=k (bc _ _ _ _ _ _ _ _ _ _ _) + _
   lia
 · obtain ⟨N,rfl,rfl,A,v⟩:=F
   refine ⟨rfl,p.row r a b l .none ⟨#[]⟩ t,p.i + 1,r,p.i,A,z,z++G,H.xs,H.xe,H.es,H.oc,H.ss,?_⟩
   have v:N.Perm (bc J.p { p.row r a b l .none ⟨#[]⟩ t with tn:=.int (Int.ofNat p.i) A } false (p.i + 1) r it f o h sa c++[(x.1,bU J13 a b l t .none)]):=v
   refine aG fun k u kc D m=>?_
   have q:=m _ _ v
   simp only [u,m _ _ B] at q ⊢
   rw [y]
   lia
theorem Cq (a:bY J.p pr cells):∀ (n:Nat) (s d:AS) (first:Bool) (r:Nat) (L:XL),AS.run pr n s=some d→n≤r→nS J.p cells xe it f o h sa c s first r L→(first=true→∃ b v,pr[s.pc]? = some (.value b v)) →
  HRG J 11 (.code (rnC it f)) L (QR J.p cells xe it f o h sa c d)
 | 0,s,d,first,r,L,hr,_,_,_=>by cases hr
 | n + 1,s,d,first,0,L,_,hn,_,_=>absurd hn (by lia)
 | n + 1,s,d,first,r + 1,L,hr,hn,H,hf=>by
  change AS.runA pr[s.pc]? s (AS.run pr n)=some d at hr
  cases j:pr[s.pc]? with
  | none=>rw [j] at hr;cases hr
  | some i=>
   rw [j] at hr
   change AS.runC i.halts s (s.step i) (AS.run pr n)=some d at hr
   cases l:i.halts with
   | true=>
    rw [l] at hr
    have t:=Ins.halt_of l
    subst t
    injection hr with hr
    subst hr
    cases first with
    | false=>exact Nx a H j
    | true=>obtain ⟨b,v,e⟩:=hf rfl;rw [j] at e;cases (congrArg (Option.map Ins.isV) e:some false=some true)
   | false=>
    cases g:s.step i with
    | none=>rw [l,g] at hr;cases hr
    | some s1=>
     rw [l,g] at hr
     refine (N0 a H j g (fun m=>by obtain ⟨b,v,e⟩:=hf m;rw [j] at e;injection e with e;exact ⟨b,v,e⟩)).again fun e L' q=>?_
     obtain ⟨rfl,k⟩:=q
     exact ⟨_,rfl,rfl,Cq a n s1 d false r L' hr (by lia) k (fun m=>by cases m)⟩
end
noncomputable def cF (Q:Prop):Bool:=@decide Q (Classical.propDecidable _)
theorem dU {Q:Prop} (h:cF Q=true):Q:=@of_decide_eq_true _ (Classical.propDecidable _) h
theorem bB {Q:Prop} (h:Q):cF Q=true:=@decide_eq_true _ (Classical.propDecidable _) h
def kL (P:Params) (S:aa) (pr:List Ins):Prop:=∃ (cells:List (Nat × XL)) (G:XL),bY P pr cells∧cells.length≤1000∧S.opsV=⟨cells.map fun x=>.ref x.1⟩∧(S.ops++S.xt).Perm (cells.flatMap (·.2)++G)
noncomputable def AS.start:AS:=⟨0,[],none,[]⟩
structure sK (P:Params) (S:aa) (pr:List Ins) (s':AS):Prop where
 ready:kL P S pr
 first:∃ b v,pr[0]? = some (.value b v)
 run:AS.run pr 800 AS.start=some s'
 held:s'.held.length≤32
 done:s'.done.length≤8
noncomputable def d7:List (Int × MV)→(Nat→Nat)→Nat→List DictEntry
 | [],_,_=>[]
 | (k,v) :: m,O,j=>⟨hashInt k,.int k (O j),v.v (O (j + 1))⟩ :: d7 m O (j + 2)
theorem kW:∀ (m:List (Int × MV)) (O:ae8) (j:Nat),bZ (d7 m O j) m
 | [],_,_=>trivial
 | (k,v) :: m,O,j=>⟨⟨_,_,rfl⟩,kW m O (j + 2)⟩
theorem iT:∀ (m:List (Int × MV)) {O O':ae8} (j:Nat),(∀ i,j≤i→i < j + 2 * m.length→O i=O' i)→d7 m O j=d7 m O' j
 | [],_,_,_,_=>rfl
 | (k,v) :: m,O,O',j,h=>by
  show _ :: _=_ :: _
  rw [h j (ai _) (by simp only [Ov];lia),h (j + 1) (by lia) (by simp only [Ov];lia),iT m (j + 2) (fun i a b=>h i (by lia) (by simp only [Ov];lia))]
theorem bZ.ents:∀ {es:List DictEntry} {m:List (Int × MV)} (j:Nat),bZ es m→∃ O:Nat→Nat,es=d7 m O j
 | [],[],_,_=>⟨fun z=>0,rfl⟩
 | e :: es,(k,v) :: m,j,h=>by
  obtain ⟨⟨t,u,rfl⟩,b⟩:=h
  obtain ⟨O,a⟩:=bZ.ents (j + 2) b
  refine ⟨fun i=>if i=j then t else if i=j + 1 then u else O i,?_⟩
  have e1:d7 m (fun i=>if i=j then t else if i=j + 1 then u else O i) (j + 2)=d7 m O (j + 2):=iT m (j + 2) fun i c z=>by
   show (if i=j then t else if i=j + 1 then u else O i)=O i
   rw [b4 (by lia),b4 (by lia)]
  show _ :: _=⟨_,.int k (if j=j then t else if j=j + 1 then u else O j),v.v (if j + 1=j then t else if j + 1=j + 1 then u else O (j + 1))⟩ :: d7 m _ (j + 2)
  rw [e1,← a,jW rfl,b4 (by lia),jW rfl]
 | [],_ :: _,_,h=>h.elim
 | _ :: _,[],_,h=>h.elim
noncomputable def ocM:List Int→(Nat→Nat)→Nat→List DictEntry
 | [],_,_=>[]
 | k :: m,O,j=>⟨hashInt k,.int k (O j),.bool true⟩ :: ocM m O (j + 1)
theorem k5:∀ (m:List Int) {O O':ae8} (j:Nat),(∀ i,j≤i→i < j + m.length→O i=O' i)→ocM m O j=ocM m O' j
 | [],_,_,_,_=>rfl
 | k :: m,O,O',j,h=>by
  show _ :: _=_ :: _
  rw [h j (ai _) (by simp),k5 m (j + 1) (fun i a b=>h i (by lia) (by simp;lia))]
theorem cS.ents:∀ {es:List DictEntry} {m:List Int} (j:Nat),cS es m→∃ O:Nat→Nat,es=ocM m O j
 | [],[],_,_=>⟨fun z=>0,rfl⟩
 | e :: es,k :: m,j,h=>by
  obtain ⟨⟨t,rfl⟩,b⟩:=h
  obtain ⟨O,a⟩:=cS.ents (j + 1) b
  refine ⟨fun i=>if i=j then t else O i,?_⟩
  have e1:ocM m (fun i=>if i=j then t else O i) (j + 1)=ocM m O (j + 1):=k5 m (j + 1) fun i c z=>by
   show (if i=j then t else O i)=O i
   rw [b4 (by lia)]
  show _ :: _=⟨_,.int k (if j=j then t else O j),_⟩ :: ocM m _ (j + 1)
  rw [e1,← a,jW rfl]
 | [],_ :: _,_,h=>h.elim
 | _ :: _,[],_,h=>h.elim
noncomputable def ssM:Option (Bool × List V8)→(Nat→Nat)→List DictEntry
 | none,_=>[]
 | some _,O=>[⟨hashInt 0,.int 0 (O 9),.ref (O 10)⟩]
def my (p:Raw):SVm:={ SVm.stand with t:=fun j=>swN [(0,kT p 1 0),(1,kT p 1 1),(2,kT p 1 2),(3,ak (vN p 1 2)),(4,kT p 1 3),(5,kT p 1 4)] (0) j}
def akM (O:ae8):SVm:={ SVm.stand with pc:=O 5,tn:=.int (Int.ofNat (O 6)) (O 7),o:=O 8,t:=fun j=>O (11 + j) }
def ZY (pr:List Ins) (b:AS) (J:WB):LG J where
 P:=Raw
 fs:=[.iter,.locs,.ent 1 1,.ent 1 4,.ent 1 3]
 qt:=0
 q:=0
 it:=100
 need:=11
 ext:=Raw.mk
 obl _ p:=([.hb (cF (sK J.p (aj p.X) pr b)),.x p.X],[.hb true,.x (some (aj p.X))])
 code I p:=rnC (ad I 0) (ad I 1)
 pre I p:=[rgO 0 800,frO (cB J.p (my p) true ((aj p.X).o + 1158) (ad I 2) (ad I 3) (ad I 4)) 5,uN [] 0,uN [] 0,uN [] 0]
 preX p:=p.X
 post I O p:=[rgO (O 0) (O 1),frO (cB J.p (akM O) false ((aj p.X).o + 1158) (ad I 2) (ad I 3) (ad I 4)) 7,uN (d7 b.held (fl (flt O 20 64)) 0) (O 2),uN (ssM b.set O) (O 3),uN (ocM b.done (fl (flt O 90 8)) 0) (O 4)]
 postX _ _ p:=p.X
 res _ _ _:=.bool true
 qle:=ai _
 olen _ _:=rfl
 len _ _ _:=rfl
 ok p I W _:=by
  obtain ⟨Q,W⟩:=aU W
  obtain ⟨⟨cells,G,w,B,s,f⟩,⟨b0,v0,hf⟩,C,N,R⟩:=dU Q
  have hX:p.X=some (aj p.X):=by
   have:=(List.cons.inj W).1
   exact OV.x.inj this
  let S:=aj p.X
  refine exL ([(ad I 0,rgO 0 800),(ad I 1,frO (cB J.p (my p) true (S.o + 1158) (ad I 2) (ad I 3) (ad I 4)) 5),(S.o + 1158,ab S.opsV S.e),(ad I 2,uN [] 0),(ad I 3,uN [] 0),(ad I 4,uN [] 0)]:XL) fun m g=>?_
  have A:nS J.p cells S.e (ad I 0) (ad I 1) (S.o + 1158) (ad I 2) (ad I 3) (ad I 4) AS.start true 800 (m++cells.flatMap (·.2)):=by
   refine ⟨{ my p with xs:=S.opsV,xe:=S.e },[],[],rfl,s,rfl,B,trivial,trivial,⟨rfl,rfl⟩,⟨by decide,by decide,fun X X e=>by cases e⟩,?_⟩
   rw [g,au]
   exact b6 _
  have hF:(m++cells.flatMap (·.2)++(G++[(S.p + 1158,S.instO),(S.d + 1158,S.dictO J.p),(S.l + 1158,S.labelsO)])).Perm
    (tc I 0 [rgO 0 800,frO (cB J.p (my p) true (S.o + 1158) (ad I 2) (ad I 3) (ad I 4)) 5,uN [] 0,uN [] 0,uN [] 0]++uU J.p (some S)):=by
   rw [g]
   exact anf f.symm (ane (L:=[_,_,_,_]) (E:=[_,_,_,_,_,_,_,_,_]) (.a (.a (.a (.c 0 (.c 1 (.c 2 (.c 3 (.c 4 (.c 5 .n)))))) (.l 0)) (.a (.l 1) (.c 6 (.c 7 (.c 8 .n))))) (.a (.l 2) (.l 3))) (.a (.a (.c 0 (.c 1 (.c 3 (.c 4 (.c 5 .n))))) (.c 6 (.c 7 (.c 2 (.c 8 (.a (.l 2) (.l 3))))))) (.a (.l 0) (.l 1))) rfl)
  have key:=((Cq w 800 AS.start b true 800 _ C (ai _) A (fun X=>⟨b0,v0,hf⟩)).frame (G++[(S.p + 1158,S.instO),(S.d + 1158,S.dictO J.p),(S.l + 1158,S.labelsO)])).perm hF
  refine HR.tx (nx:=false) (k:=5) (K:=fun I' O'=>_) ?_
  have ec:(tc I 0 [rgO 0 800,frO (cB J.p (my p) true ((aj p.X).o + 1158) (ad (ah 5 I) 2) (ad (ah 5 I) 3) (ad (ah 5 I) 4)) 5,uN [] 0,uN [] 0,uN [] 0]++uU J.p p.X)=(tc I 0 [rgO 0 800,frO (cB J.p (my p) true (S.o + 1158) (ad I 2) (ad I 3) (ad I 4)) 5,uN [] 0,uN [] 0,uN [] 0]++uU J.p (some S)):=by
   rw [hX];rfl
  show HR _ _ 11 (.code (rnC (ad I 0) (ad I 1))) (tc I 0 [rgO 0 800,frO (cB J.p (my p) true ((aj p.X).o + 1158) (ad (ah 5 I) 2) (ad (ah 5 I) 3) (ad (ah 5 I) 4)) 5,uN [] 0,uN [] 0,uN [] 0]++uU J.p p.X) _
  rw [ec]
  refine key.drop fun e L1 hh=>?_
  obtain ⟨L2,rfl,rfl,p',i,r,z,u,sc,Z,e1,e2,e3,e4,e5,e6⟩:=hh
  obtain ⟨F,Q⟩:=e3.ents 0
  obtain ⟨D,h2⟩:=e4.ents 0
  have T:∃ t y,p'.ss=ssM b.set (fun j=>[0,0,0,0,0,0,0,0,0,t,y].getD j 0):=by
   cases hs:b.set with
   | none=>rw [hs] at e5;exact ⟨0,0,e5.1⟩
   | some v=>obtain ⟨nc,vs⟩:=v;rw [hs] at e5;obtain ⟨t,a,ts,e',ys,q,-⟩:=e5;exact ⟨t,a,q⟩
  obtain ⟨t9,M,T⟩:=T
  refine exL (fun j=>if j < 20 then ([i,r,p'.he,p'.se,p'.oe,p'.pc,z,u,p'.o,t9,M].getD j (p'.t (j - 11))) else if j < 90 then F (j - 20) else D (j - 90):ae8) fun O h=>?_
  have t1:d7 b.held (fl (flt (ah 100 O) 20 64)) 0=p'.es:=by
   rw [Q]
   refine iT _ 0 fun j j1 j2=>?_
   rw [oE (by lia),aJ (by lia),h]
   show (if 20 + j < 20 then _ else if 20 + j < 90 then F (20 + j - 20) else D (20 + j - 90))=F j
   rw [b4 (by lia),jW (by lia)]
   congr 1;lia
  have t2:ocM b.done (fl (flt (ah 100 O) 90 8)) 0=p'.oc:=by
   rw [h2]
   refine k5 _ 0 fun j j1 j2=>?_
   rw [oE (by lia),aJ (by lia),h]
   show (if 90 + j < 20 then _ else if 90 + j < 90 then F (90 + j - 20) else D (90 + j - 90))=D j
   rw [b4 (by lia),b4 (by lia)]
   congr 1;lia
  have t3:ssM b.set (ah 100 O)=p'.ss:=by
   rw [T,h]
   cases b.set<;>rfl
  have hp':akM (ah 100 O)={ SVm.stand with pc:=p'.pc,tn:=.int (Int.ofNat z) u,o:=p'.o,t:=(akM (ah 100 O)).t }:=by rw [h];rfl
  have H:cB J.p (akM (ah 100 O)) false (S.o + 1158) (ad I 2) (ad I 3) (ad I 4)=cB J.p { p' with tn:=.int (Int.ofNat z) u } false (S.o + 1158) (ad I 2) (ad I 3) (ad I 4):=by
   rw [h];rfl
  refine ⟨tc I 0 [rgO i r,frO (cB J.p { p' with tn:=.int (Int.ofNat z) u } false (S.o + 1158) (ad I 2) (ad I 3) (ad I 4)) 7,uN p'.es p'.he,uN p'.ss p'.se,uN p'.oc p'.oe]++uU J.p (some S),Z,?_,I,O,fun X X=>rfl,rfl,?_⟩
  · refine aG fun k ka kc k0 Y=>?_
    have q:=Y _ _ e6
    have q2:k (S.ops++S.xt)=k (cells.flatMap (·.2)++G):=Y _ _ f
    have kd:∀ x y (l:XL),k (x :: y :: l)=k [x] + k (y :: l):=fun x y l=>kc x (y :: l)
    have e8:k (bc J.p { p' with tn:=.int (Int.ofNat z) u } false i r (ad I 0) (ad I 1) (S.o + 1158) (ad I 2) (ad I 3) (ad I 4))=k [(ad I 0,rgO i r),(ad I 1,frO (cB J.p { p' with tn:=.int (Int.ofNat z) u } false (S.o + 1158) (ad I 2) (ad I 3) (ad I 4)) 7),(S.o + 1158,ab p'.xs p'.xe),(ad I 2,uN p'.es p'.he),(ad I 3,uN p'.ss p'.se),(ad I 4,uN p'.oc p'.oe)]:=rfl
    have hl:ab p'.xs p'.xe=ab S.opsV S.e:=by rw [e1,e2];exact congrArg (fun x=>ab x S.e) s.symm
    have hl':k [(S.o + 1158,ab p'.xs p'.xe)]=k [(S.o + 1158,ab S.opsV S.e)]:=by rw [hl]
    show _=k (([(ad I 0,rgO i r),(ad I 1,frO (cB J.p { p' with tn:=.int (Int.ofNat z) u } false (S.o + 1158) (ad I 2) (ad I 3) (ad I 4)) 7),(ad I 2,uN p'.es p'.he),(ad I 3,uN p'.ss p'.se),(ad I 4,uN p'.oc p'.oe)]++([(S.p + 1158,S.instO),(S.d + 1158,S.dictO _),(S.o + 1158,ab S.opsV S.e),(S.l + 1158,S.labelsO)]++(S.ops++S.xt)))++Z)
    simp only [ka,kd,k0] at q q2 e8 ⊢
    lia
  · rw [← H,← t1,← t2,← t3]
    show _=tc I 0 [rgO (ah 100 O 0) (ah 100 O 1),frO (cB J.p (akM (ah 100 O)) false (S.o + 1158) (ad I 2) (ad I 3) (ad I 4)) 7,uN (d7 b.held (fl (flt (ah 100 O) 20 64)) 0) (ah 100 O 2),uN (ssM b.set (ah 100 O)) (ah 100 O 3),uN (ocM b.done (fl (flt (ah 100 O) 90 8)) 0) (ah 100 O 4)]++uU J.p p.X
    rw [hX]
    have u0:ah 100 O 0=i:=by rw [h];rfl
    have u1:ah 100 O 1=r:=by rw [h];rfl
    have u2:ah 100 O 2=p'.he:=by rw [h];rfl
    have u3:ah 100 O 3=p'.se:=by rw [h];rfl
    have u4:ah 100 O 4=p'.oe:=by rw [h];rfl
    rw [u0,u1,u2,u3,u4]
section
open PySem PySem.W
noncomputable def aaX (c:Code):Bool:=match c with
 | .forLoop ..=>true
 | _=>false
end
def Qb (v:List Ins × AS) (J:WB):List (SG J):=smS ([(aaX,ZY v.1 v.2 J)]:CL J)
def run (v:List Ins × AS) (P:Params):aq Raw:=akt.spec ((⟨1,0,0,65,13,143,false,[0],(by walk_at "#0gRgYl(ok"),(by walk_at "#k+m}g0lp222/d^#eS#eS&$*le(")⟩:akt) ) (fun p I=>.code (.call (.ref 1133) ⟨[.ref ((aj p.X).o + 1158),.ref (ad I 0)],[]⟩:Code)) (fun p I=>[uN [] 0]) (fun p=>some (aj p.X)) (fun p I O=>.ret (.bool true:Value)) (fun p I O=>[uN (d7 v.2.held (fl (flt O 1 64)) 0) (O 0)]) (fun p I O=>some (aj p.X)) (fun p I O=>[.hb (cF (sK P (aj p.X) v.1 v.2))]) (fun p I O=>[.hb true])
theorem Ju (v:List Ins × AS) (J:WB) (p:Raw):(run v J.p).Runs J.w J.t (Qb v J) p:=SX (fun J=>(run v J.p)) (fun J=>(Qb v J)) J p
def Xx (v:List Ins × AS) (J:WB):LG J:=aq.toLC2 (Qb v J) (run v J.p) [.arg 1] (Ju v J) (h5:=fun z z=>by rfl) (h6:=by exact fun z z z z h z=>h)
def Nb (w:World) (top:Tr):LC w top:=PL.toLC
 { P:=(Str × Nat) × Array Value
   fs:=[.arg 0]
   qt:=0
   it:=0
   need:=3
   ext:=fun c os=>((aD (ax c 1),ak (ax c 1)),(ao os).1)
   obl:=fun z p=>([.hb (Kp p.2.toList)],[.hb true])
   olen:=fun z z=>rfl
   code:=fun I p=>.call (.builtin "tuple.__contains__") ⟨[.ref (ad I 0),.str p.1.1 p.1.2],[]⟩
   pre:=fun z p=>[{ cls:=.type "tuple",data:=.seq p.2 0 }]
   post:=fun z z p=>[{ cls:=.type "tuple",data:=.seq p.2 0 }]
   res:=fun z z p=>.bool (anyS p.1.1 p.2.toList)
   len:=fun z z z=>rfl
   ok:=fun p I m z=>by
    have h:=hb1 m
    intro A R j g d tk os q n hb i K
    have f:=(i.at_ (ad I 0,{ cls:=.type "tuple",data:=.seq p.2 0 }) (cv.mpr rfl)).1
    refine ya alF.plain F.entry_tuple_contains (alF.check _ _ _ _ _ _ _ _ ⟨_,f,rfl⟩ (F.args_tuple_contains_2 _ _) ?_)
    refine MeetsSeq2.tuple_contains (ad _ 0) p.2 0 (.str p.1.1 p.1.2) (zv p.1.1) (fun y l=>?_) prog w A R _ ⟨f,?_⟩
    · obtain ⟨x,t,rfl⟩:=kJ h y (Jt.mpr l)
      exact alN x p.1.1 t p.1.2
    · have key:=K I (fun z=>0) j tk (fun z z=>rfl) i (fun a k=>.inl k) (fun b o e hn=>e) (ai _)
      have e:p.2.any (zv p.1.1)=anyS p.1.1 p.2.toList:=by rw [mZ,alx]
      rw [e]
      exact key }
theorem HN {w:World} {A:Around} {E:Value→Shared→Prop} {s:Shared} {it l i e:Nat} {xs:Array Value} {Q:Option Value→Shared→Prop} (g:A.handled=none) (d:s.heap.get? it=some (liO l i)) (hol:s.heap.get? l=some (ab xs e)) (j:xs[i]? = none)
  (h:∀ f k o2,f (liO l i)=liN i→Q none { s with heap:=((s.heap.update it f).push k).push o2 }):wpAny (model prog w) A (pyNext (.ref it)) Q E s:=by
 have c:s.heap.IsListIter it l i:=⟨_,d,rfl,rfl⟩
 have hd:(liO l i).data=.fields #[.ref l,.int (i:Int) 0]:=rfl
 unfold pyNext
 refine av (wpAny_attempt (wpAny_callSpecial?_slot (name:=Str.ofString "__next__") c.typeIs slot_listiter_next (wpAny_call_entry slot_listiter_next c.typeIs entry_listiter_next ?_ (args_listiter_next _))))
 show wpAny _ _ (field (.ref it) 0 >>= _) _ _ s
 refine av (wpAny_field d hd (x:=.ref l) rfl ?_)
 show wpAny _ _ (if (Value.ref l == Value.none)=true then _ else _) _ _ s
 rw [b4 (show ¬ ((Value.ref l == Value.none)=true) from alz)]
 show wpAny _ _ (field (.ref it) 1 >>= _) _ _ s
 refine av (wpAny_field d hd (x:=.int i 0) rfl ?_)
 show wpAny _ _ (seqItems? (.ref l) >>= _) _ _ s
 refine av (wpAny_seqItems hol rfl ?_)
 simp only [Int.toNat_natCast,j]
 refine av (wpAny_rule (av (wpAny_setField d hd (by simp) ?_)))
 show wpAny _ _ (newExc (.type "StopIteration") [] >>= _) _ _ _
 refine av ?_
 simp only [newExc,newTuple]
 refine av (wpAny_newObj_type ?_ (by size_fits))
 refine av (m:=firstArgMember _ _) (wpAny_of_eq (a:=Value.none) (by first | rfl | (simp only [firstArgMember];rfl)) ?_)
 refine wpAny_newObj_type ?_ (by size_fits)
 delta raiseNew
 dsimp only
 refine av (wpAny_handled ?_)
 rw [show A.in1.handled=none from g]
 refine av (jt (wpAny_throw ?_))
 refine av (wpAny_isInstance (T:="StopIteration") (b:=true) ⟨_,Heap.get?_push_size _ rfl,rfl⟩ isSubtype_stop ?_)
 exact jt (h _ _ _ rfl)
theorem EU {w:World} {top:Tr} (t:Expr) (body:List Stmt) (env:Env) (it l i e:Nat) (xs:Array Value) (E:xs[i]? = none) (B:∀ v,letOwnedTupleGo t (.ref it) v=pure ()) :
  HR w top 9 (.code (.forLoop t (.ref it) body [] env)) [(it,liO l i),(l,ab xs e)] (fun C L'=>C=.next∧L'=[(it,liN i),(l,ab xs e)]):=by
 intro A R h g d tk os D u hb c K
 have r:=(c.at_ (it,liO l i) (gw ..)).1
 have k:=c.at_ (l,ab xs e) (kt _ (cv.mpr rfl))
 have j:l ≠ it:=by
  have:=c.nd
  simp only [Jv,Z6,K4,cv] at this
  exact fun q=>this.1 q.symm
 refine codeAny_forLoop (fun Z s=>s=⟨h,g,d,tk,os⟩) (fun n s y=>?_) 0 rfl B
 subst y
 refine HN D.handled r k.1 E fun f F o2 m=>?_
 refine wpAny_execs_nil ?_
 have e1:(h.update it f).get? it=some (liN i):=by rw [← m];exact Heap.get?_update_self f r (by rw [m];rfl)
 have e2:(h.update it f).get? l=some (ab xs e):=akv _ _ k.1 j
 refine K .next [(it,liN i),(l,ab xs e)] _ _ ⟨rfl,rfl⟩ ⟨fun p hp=>?_,c.nd⟩ (fun a x=>.inl x) (fun b o q hn=>?_) ?_
 · rcases b9.mp hp with rfl | hp
   · exact ⟨Heap.get?_push_of_some _ (Heap.get?_push_of_some _ e1),(c.at_ (it,liO l i) (gw ..)).2⟩
   · obtain rfl:=cv.mp hp
     exact ⟨Heap.get?_push_of_some _ (Heap.get?_push_of_some _ e2),k.2⟩
 · exact Heap.get?_push_of_some _ (Heap.get?_push_of_some _ (akv _ _ q fun z=>hn (by rw [z];exact gw ..)))
 · rw [Zt,Zt,eZ];exact wt (Rt _) (Rt _)
def MD (w:World) (top:Tr) (n:Nat):LC w top:=PL.toLC
 { P:=(Nat × Array Value × Nat) × Obj
   fs:=[.arg 0,.ent 0 0,.num n]
   qt:=0
   it:=0
   need:=3
   ext:=fun c os=>((ba (wv os 1),ao [uF os 1]),uF os 2)
   obl:=fun I p=>([.hb (Nat.blt p.1.1 p.1.2.1.size),.hv (ae p.1.2.1 p.1.1)],[.hb true,.hv (.ref (ad I 2))])
   olen:=fun z z=>rfl
   code:=fun I p=>.call (.builtin "list_iterator.__next__") ⟨[.ref (ad I 0)],[]⟩
   pre:=fun I p=>[liO (ad I 1) p.1.1,ab p.1.2.1 p.1.2.2,p.2]
   post:=fun I z p=>[liO (ad I 1) (p.1.1 + 1),ab p.1.2.1 p.1.2.2,p.2]
   res:=fun I z p=>.ref (ad I 2)
   len:=fun z z z=>rfl
   ok:=fun p I h z=>by
    injection h with b h2
    injection b with b
    injection h2 with h2 _
    injection h2 with h2
    have d:=im b
    obtain ⟨⟨i,xs,e⟩,o⟩:=p
    rw [h2] at d
    have H:=(B8 (w:=w) (top:=top) I xs e i _ d).frame [(ad I 2,o)]
    refine H.conv (ai _) (fv ?_) (fun I' j=>match j with | 0=>I' 0 | 1=>I' 1 | _=>I 2) id fun I' O' a=>⟨fun j f=>?_,?_,?_⟩
    · simp only [anm,ano,ad,aJ (show 1 < 3 by decide)];rfl
    · exact bnd (n:=2) (P:=fun j=>(match j with | 0=>I' 0 | 1=>I' 1 | _=>I 2)=I j) (a 0 (by decide)) (bnd (a 1 (by decide)) (bnd rfl anF)) j f
    · show Value.ref (ad (ah 3 I) 2)=Value.ref (ad (ah 3 _) 2)
      rfl
    · refine fv ?_
      have g:=a 0 (by decide)
      have b:=a 1 (by decide)
      show tc I 0 _++[(ad I 2,o)]=tc _ 0 [_,_,_]
      simp only [anm,ano,ad,id,g,b]
      rfl }
noncomputable def Ep (o:Obj):Array DictEntry:=match o.data with
 | .dict es _=>es
 | _=>#[]
def cq (P:Params) (s:Str):Bool:=(findBy Value.isStrOf (Ep (o66 P)) s).isSome
theorem TY (P:Params):tg (ac P) 66=some (o66 P):=by kernel_rfl
theorem Ry (w:World) (l:List Nat) (t:Nat) (v:Value):∃ k,Value.isStrOf k (dE w.params l t v).key=true∧(dE w.params l t v).hash=hashStr w k:=
 ⟨sv l,by show (sv l == sv l)=true;exact Wt _,rfl⟩
theorem y8 (w:World) (prog:Program):∀ e∈(Ep (o66 w.params)).toList,∃ k,(strKind prog w).is k e.key=true∧e.hash=(strKind prog w).hash k:=by
 unfold o66 Ep
 repeat' first
  | exact List.forall_mem_nil _
  | refine List.forall_mem_cons.mpr ⟨Ry w _ _ _,?_⟩
def Y3 (w:World) (b:Bool):LC w (ac w.params):=PL.toLC
 { P:=Str × Nat
   fs:=[]
   qt:=0
   it:=0
   need:=3
   ext:=fun c os=>(aD (ax c 1),ak (ax c 1))
   obl:=fun z p=>([.hb (cq w.params p.1)],[.hb b])
   olen:=fun z z=>rfl
   code:=fun I p=>.call (.builtin "dict.__contains__") ⟨[.ref 66,.str p.1 p.2],[]⟩
   pre:=fun z p=>[]
   post:=fun z z p=>[]
   res:=fun z z p=>.bool b
   len:=fun z z z=>rfl
   ok:=fun p I m z=>by
    have h:=hb1 m
    intro A R i g d tk os q l hb n K
    have f:=l 66 _ (TY w.params)
    refine ya slot_dict_contains.plain entry_dict_contains (slot_dict_contains.check _ _ _ _ _ _ _ _ ⟨_,f,rfl⟩ (args_dict_contains _ _) ?_)
    have key:=K I (fun z=>0) i (tk + 1) (fun z z=>rfl) n (fun a j=>.inl j) (fun b o e hn=>e) (ai _)
    refine (meets_dict_contains (knd:=strKind prog w) (k:=p.1) (key:=.str p.1 p.2) (d:=66) (show Value.isStrOf p.1 (.str p.1 p.2)=true from Wt p.1) rfl) A R _ ⟨findBy Value.isStrOf (Ep (o66 w.params)),⟨_,Ep (o66 w.params),_,f,⟨rfl,rfl,rfl⟩,rfl,fun e he=>y8 w prog e (Jt.mpr he),fun z=>rfl⟩,?_⟩
    have e:(findBy Value.isStrOf (Ep (o66 w.params)) p.1).isSome=b:=h
    rw [e]
    exact key }
def fnB:List Stmt:=mH (at2 7 10)
def fnE (f:Nat):Env:=⟨bf (at2 7 10),f,3,[],sv [80,114,111,103,114,97,109,46,102,105,110,105,115,104,46,60,108,111,99,97,108,115,62,46],some 154,.ref 153,some f,0⟩
def fnC (it f:Nat):Code:=cu (br fnB 2) (.ref it) (fnE f)
structure SFn where
 S:aa
 xs:Array Value
 i:Nat
 o:Nat
 n:List Nat
 a:Int
 l:Nat
 b:Int
 c:Int
 v:Value
 lab:Value
 t:Nat→Tok
 ep:Nat
noncomputable def SFn.stand:SFn:=⟨SM.stand.S,#[],0,0,[],0,0,0,0,.none,.none,fun z=>0,0⟩
def frN (P:Params) (p:SFn) (I:ae8) (f:Bool):Obj:=frO ([dF P J0 (p.t 0) (.ref (ad I 0)),dF P J5 (p.t 1) p.lab]++(match f with | true=>[] | false=>[dF P J8 (p.t 2) (.ref p.o)])) p.ep
def Rh (p:SFn):Value:=VK.i.as ((getD (Int.negSucc p.l) (p.S.labels.map aa.labE)).getD .none)
noncomputable def SFn.b2 (p:SFn) (j:Bool):Value:=match j with
 | true=>.int (Int.negSucc p.l) (p.t 12)
 | false=>.int p.b (p.t 12)
def yI (p:SFn):List Bool:=[ikB (p.S.labels.map aa.labE),(getD (Int.negSucc p.l) (p.S.labels.map aa.labE)).isSome,VK.i.is ((getD (Int.negSucc p.l) (p.S.labels.map aa.labE)).getD .none),ikB (p.S.labels.map aa.labE),(getD (Int.negSucc p.l) (p.S.labels.map aa.labE)).isSome]
def mW (p:SFn) (x:Value):Obj:=row p.n (p.t 10) (.int p.a (p.t 11)) x (.int p.c (p.t 13)) p.v
def WY (v:Bool × Bool) (J:WB):List (SG J):=smS ((isB "list_iterator.__next__",MD _ _ 6) :: (fun c=>isB "dict.__contains__" c && amf c 1 2,Y3 _ v.2) :: (fun c=>isB "dict.__contains__" c && amf c 1 1,(nq _ _ true).toLC) :: (isB "dict.__getitem__",jk _ _) :: []:CL J)
noncomputable def T3 (v:Bool × Bool):List Nat:=match v.1 with | false=>[] | true=>[0]
def Rr (v:Bool × Bool):List Nat:=match v.2 with | false=>acY | true=>aeI
def fin (v:Bool × Bool) (P:Params):aq SFn:=akt.spec ((⟨7,0,0,1,4,146,true,[0,1,2,3,4,5,6],T3 v,Rr v⟩:akt) ) (fun p I=>.code (fnC (ad I 4) (ad I 5))) (fun p I=>PO P p.S p.xs I++[liO (ad I 2) p.i,frN P p I v.1,mW p (p.b2 v.2)]) (fun p=>none) (fun p I O=>.again (fnC (ad I 4) (ad I 5))) (fun p I O=>PO P p.S p.xs I++[liO (ad I 2) (p.i + 1),frO [dF P J0 (p.t 0) (.ref (ad I 0)),dF P J5 (p.t 1) p.lab,dF P J8 (match v.1 with | true=>O 0 | false=>p.t 2) (.ref (ad I 6))] (match v.1 with | true=>p.ep + 1 | false=>p.ep),mW p (match v.2 with | true=>Rh p | false=>.int p.b (p.t 12))]) (fun p I O=>none) (fun p I O=>(match v.2 with | true=>(yI p).map .hb | false=>[])++[.hb (cq P (sv p.n)),.hb (Nat.blt p.i p.xs.size),.hv (ae p.xs p.i)]) (fun p I O=>(match v.2 with | true=>bl (yI p) | false=>[])++[.hb v.2,.hb true,.hv (.ref (ad I 6))])
theorem TB (v:Bool × Bool) (P:Params) (p:SFn):(fin v P).Ok p:=tT
theorem GP (v:Bool × Bool) (J:WB) (p:SFn):(fin v J.p).Runs J.w J.t (WY v J) p:=amK (amJ.pr amJ) (fun v J=>fin v J.p) (fun v J=>WY v J) v J p
theorem FG {w:World} {top:Tr} (I:ae8) (xs:Array Value) (e:Nat) (k:Int) (t:Tok) (x:Value) (m:k < 0) (r:-(xs.size:Int)≤k) (c:-(2 ^ 63)≤k) (s:xs[(k + xs.size).toNat]? = some x) :
  HT w top 3 1 (.call (.builtin "list.__getitem__") ⟨[.ref (ad I 0),.int k t],[]⟩) (tc I 0 [ab xs e]) I (fun I' z=>(x,tc I' 0 [ab xs e])):=by
 intro A R h g d tk os v u hb p K
 have f:=(p.at_ (ad I 0,ab xs e) (cv.mpr rfl)).1
 refine ya alK.plain F.entry_list_getitem (alK.check _ _ _ _ _ _ _ _ ⟨_,f,rfl⟩ (F.args_list_getitem_2 _ _) ?_)
 have key:=K I (fun z=>0) h tk (fun z z=>rfl) p (fun a q=>.inl q) (fun b o e hn=>e) (ai _)
 show wpAny _ _ (Builtin.List.listSubscript? (.int k t) >>= _) _ _ _
 refine av (wpAny_listSubscript_int (fitsIndex_neg m c) ?_)
 clear c
 have l:=seqIndex_neg m r
 obtain ⟨j,rfl⟩:∃ j:Nat,k=Int.negSucc j:=by
  cases k with
  | ofNat n=>exact absurd m (Int.not_lt.mpr (Int.natCast_nonneg n))
  | negSucc n=>exact ⟨n,rfl⟩
 show wpAny _ _ ((Builtin.List.listItems (.ref (ad I 0)) >>= fun xs=>pure ((seqIndex? (Int.negSucc j) xs.size).bind fun i=>xs[i]?.map (i,·))) >>= _) _ _ _
 refine av (av ?_)
 show wpAny _ _ (seqItems? (.ref (ad I 0)) >>= _) _ _ _
 refine av (wpAny_seqItems f rfl (jt (jt ?_)))
 rw [l]
 simp only [Option.bind_some,s,Option.map_some]
 first
  | exact av (jt (jt key))
  | exact jt key
theorem yQ {w:World} {top:Tr} (I:ae8) (xs:Array Value) (e:Nat) (t:Tok) (x:Value) (b:1≤xs.size) (a:xs[xs.size - 1]? = some x) :
  HT w top 3 1 (.call (.builtin "list.__getitem__") ⟨[.ref (ad I 0),.int (Int.negSucc 0) t],[]⟩) (tc I 0 [ab xs e]) I (fun I' z=>(x,tc I' 0 [ab xs e])):=
 FG I xs e (Int.negSucc 0) t x (by decide) (by show -(xs.size:Int)≤-1;lia) (by decide) (by
  have e1:(Int.negSucc 0 + (xs.size:Int)).toNat=xs.size - 1:=by show ((-1:Int) + (xs.size:Int)).toNat=_;lia
  rw [e1];exact a)
def TZ (w:World) (top:Tr) (n:Nat):LC w top:=PL.toLC
 { P:=(Nat × Array Value × Nat) × Obj
   fs:=[.arg 0,.num n]
   qt:=0
   it:=0
   need:=3
   ext:=fun c os=>((ak (ax c 1),ao os),uF os 1)
   obl:=fun I p=>([.hb (Nat.ble 1 p.1.2.1.size),.hv (ae p.1.2.1 (p.1.2.1.size - 1))],[.hb true,.hv (.ref (ad I 1))])
   olen:=fun z z=>rfl
   code:=fun I p=>.call (.builtin "list.__getitem__") ⟨[.ref (ad I 0),.int (Int.negSucc 0) p.1.1],[]⟩
   pre:=fun z p=>[ab p.1.2.1 p.1.2.2,p.2]
   post:=fun z z p=>[ab p.1.2.1 p.1.2.2,p.2]
   res:=fun I z p=>.ref (ad I 1)
   len:=fun z z z=>rfl
   ok:=fun p I g z=>by
    injection g with a h2
    injection a with a
    injection h2 with h2 _
    injection h2 with h2
    obtain ⟨⟨h,xs,e⟩,o⟩:=p
    have a:1≤xs.size:=ag a
    have f:=im (xs:=xs) (i:=xs.size - 1) (aF (by lia))
    rw [h2] at f
    have H:=(yQ (w:=w) (top:=top) I xs e h _ a f).frame [(ad I 1,o)]
    refine H.conv (ai _) (b6 _) (fun I' i=>if i=1 then I 1 else I' i) id fun I' O' b=>⟨fun i d=>?_,?_,?_⟩
    · by_cases q:i=1
      · subst q
        show (if 1=1 then I 1 else _)=_
        rw [jW rfl]
      · show (if i=1 then I 1 else I' i)=_
        rw [b4 q]
        have d:i < 2:=d
        have:i=0:=by lia
        subst this
        exact b 0 (by decide)
    · show Value.ref (ad (ah 2 I) 1)=Value.ref (ad (ah 2 _) 1)
      unfold ad
      rw [aJ (by decide),aJ (by decide)]
      rfl
    · show ([(ad I' 0,_)]++[(ad I 1,o)]).Perm [(ad _ 0,_),(ad _ 1,o)]
      exact b6 _ }
theorem OF {w:World} {top:Tr} (I:ae8) (xs:Array Value) (e:Nat) (l:xs.size≤sizeLine) :
  HT w top 1 1 (.builtin "len" ⟨[.ref (ad I 0)],[]⟩) (tc I 0 [ab xs e]) I (fun I' O'=>(.int (Int.ofNat xs.size) (O' 0),tc I' 0 [ab xs e])):=by
 intro A R h g d tk os n m hb i K
 have c:=(i.at_ (ad I 0,ab xs e) (cv.mpr rfl)).1
 rw [Tt] at l
 refine codeAny_builtin entry_len ?_
 rw [Around.under_plainId plain_len _]
 refine Qn (wpAny_len_body_list (Q:=fun r f=>r=.int xs.size (tk + 1)∧f=⟨h,g,d,tk + 1 + 1,os⟩) ⟨_,c,rfl,e,rfl⟩ (by lia) ⟨rfl,rfl⟩) (fun fin f j=>?_) fun z z e=>e
 obtain ⟨r,rfl,rfl,rfl⟩:=j
 exact K I (fun z=>tk + 1) h (tk + 1 + 1) (fun z z=>rfl) i (fun a k=>.inl k) (fun b o e z=>e) (ai _)
def Ue (w:World) (top:Tr):LC w top:=PL.toLC
 { P:=Array Value × Nat
   fs:=[.arg 0]
   qt:=0
   it:=1
   need:=1
   ext:=fun c os=>ao os
   obl:=fun z p=>([.hb (Nat.ble 1 p.1.size),.hb (Nat.ble p.1.size 16777216)],[.hb true,.hb true])
   olen:=fun z z=>rfl
   code:=fun I p=>.builtin "len" ⟨[.ref (ad I 0)],[]⟩
   pre:=fun z p=>[ab p.1 p.2]
   post:=fun z z p=>[ab p.1 p.2]
   res:=fun z O p=>.int (Int.ofNat (p.1.size - 1 + 1)) (O 0)
   len:=fun z z z=>rfl
   ok:=fun p I d z=>by
    obtain ⟨a,e⟩:=hb2 d
    have a:=ag a
    refine (OF I p.1 p.2 (by rw [Tt];exact ag e)).conv (ai _) (b6 _) id id fun I' O' b=>⟨b,?_,b6 _⟩
    show _=Value.int (Int.ofNat (p.1.size - 1 + 1)) (ah 1 O' 0)
    rw [aJ (by decide),Nat.sub_add_cancel a] }
noncomputable def abG (id:String) (c:Code):Bool:=match c with
 | .builtin i _=>Nat.beq (PySem.code i) (PySem.code id)
 | _=>false
def gu (i j f:Nat):bx:=.tree (.func fnB (fnE f)) (blk (bu fnB i j) (fnE f))
noncomputable def ajY (p:SFn):XT:=none
def Sj (J:WB):List (SG J):=smS ([]:CL J)
def kE (P:Params):aq SFn:=akt.spec ((⟨0,1,1,1,2,17,true,[0],[0],[0,1,1]⟩:akt) ) (fun p I=>.code (.call (.ref 154) ⟨[.ref (p.S.p + 1158)],[]⟩)) (fun p I=>[]) (ajY ) (fun p I O=>.again (.func fnB (fnE (ad I 0)))) (fun p I O=>[frO [dF P J0 (O 0) (.ref (p.S.p + 1158))] 1]) (fun p I O=>none) (fun p I O=>[]) (fun p I O=>[])
theorem FI (J:WB) (p:SFn):(kE J.p).Runs J.w J.t (Sj J) p:=S4
noncomputable def aj1 (p:SFn):XT:=none
def RG (J:WB):List (SG J):=smS ((abG "len",Ue _ _) :: ((fun c=>isB "list.__getitem__" c && (match ax c 1 with | .int (.negSucc _) _=>true | _=>false)),TZ _ _ 4) :: (isB "tuple.__contains__",Nb _ _) :: []:CL J)
def Uh (P:Params):aq SFn:=akt.spec ((⟨6,0,0,0,5,89,false,[0,1,2,3,4,5],[],(by walk_at "#lBKUlBl7k_#Fk[j@ip")⟩:akt) ) (fun p I=>gu 0 1 (ad I 5)) (fun p I=>PO P p.S p.xs I++[row J23 (p.t 10) (.int p.a (p.t 11)) (.int p.b (p.t 12)) (.int p.c (p.t 13)) p.v,frO [dF P J0 (p.t 0) (.ref (ad I 0))] 1]) (aj1 ) (fun p I O=>.next) (fun p I O=>PO P p.S p.xs I++[row J23 (p.t 10) (.int p.a (p.t 11)) (.int p.b (p.t 12)) (.int p.c (p.t 13)) p.v,frO [dF P J0 (p.t 0) (.ref (ad I 0))] 1]) (fun p I O=>none) (fun p I O=>[OV.hb true,OV.hb (Nat.ble 1 (Array.size p.xs)),OV.hv (ae p.xs (Array.size p.xs - 1)),OV.hb (Nat.ble 1 (Array.size p.xs)),OV.hb (Nat.ble (Array.size p.xs) 16777216)]) (fun p I O=>[OV.hb true,OV.hb true,OV.hv (Value.ref (ad I 4)),OV.hb true,OV.hb true])
theorem E7 (J:WB) (p:SFn):(Uh J.p).Runs J.w J.t (RG J) p:=S4
structure SFm where
 p:SFn
 xs:Array Value
 q:Nat→Nat × Tok × Nat × Tok
noncomputable def SFm.stand:SFm:=⟨SFn.stand,#[],fun z=>(0,0,0,0)⟩
def PM (P:Params) (p:SFm) (I:ae8) (l:List DictEntry) (xs:Array Value) (e:Nat):List Obj:=[ky (ad I 1),
 jF P p.p.S.tk (ad I 2) (ad I 3) (p.p.S.c + 1158) (.int (Int.ofNat p.p.S.regs) p.p.S.tr) (.int (Int.ofNat p.p.S.curs) p.p.S.tc) (.int (Int.ofNat p.p.S.slots) p.p.S.ts) (.int (Int.negSucc p.p.S.next) p.p.S.tn),ab xs e,uN l l.length]
noncomputable def eH (p:SFm):Nat→Nat→List DictEntry
 | _,0=>[]
 | j,k + 1=>aa.labE (p.q j) :: eH p (j + 1) k
def R2 (p:SFm) (E:List DictEntry) (j:Nat):List Bool:=[eqI (am ((getD (Int.negSucc (p.q j).1) E).getD .none)) (Int.ofNat p.xs.size),Nat.ble p.xs.size 16777216,ikB E,(getD (Int.negSucc (p.q j).1) E).isSome,VK.i.is ((getD (Int.negSucc (p.q j).1) E).getD .none)]
def l6 (p:SFm) (E:List DictEntry):Nat→List Bool
 | 0=>[]
 | k + 1=>R2 p E k++l6 p E k
noncomputable def uL:Nat→Bool→List OV
 | 0,_=>[]
 | k + 1,b=>[.hb b,.hb true,.hb true,.hb true,.hb true]++uL k false
noncomputable def ajR (p:SFm):XT:=none
def JI (J:WB):List (SG J):=smS ((isB "dict.__getitem__",jk _ _) :: (isB "len",(cW _ _).toLC) :: (isB "int.__eq__",kU _ _ false) :: (isB "int.__eq__",kU _ _ true) :: (isB "list.append",(b7 _ _).toLC) :: []:CL J)
def zC (P:Params):aq SFm:=akt.spec ((⟨5,1,1,2,5,414,false,[0,1,2,3,4,7],[1,13],(by walk_at "#mnn#")⟩:akt) ) (fun p I=>gu 1 2 (ad I 4)) (fun p I=>PM P p I (eH p 0 3) p.xs p.p.S.e++[frO [dF P J0 (p.p.t 0) (.ref (ad I 0))] 1]) (ajR ) (fun p I O=>.next) (fun p I O=>PM P p I (eH p 0 3) (p.xs.push (.ref (ad I 5))) (p.p.S.e + 1)++[frO [dF P J0 (p.p.t 0) (.ref (ad I 0)),dF P J5 (O 0) (.int (Int.negSucc (p.q 2).1) (p.q 2).2.1)] 2,row J13 (O 1) (.int 0 369) (.int 0 370) (.int 0 371) .none]) (fun p I O=>none) (fun p I O=>.hb (Nat.ble (p.xs.push (.ref (ad I 7))).size 16777216) :: .hb (Nat.ble p.xs.size 16777216) :: (l6 p (eH p 0 3) 3).map .hb) (fun p I O=>.hb true :: .hb true :: uL 3 true)
theorem xf (J:WB) (p:SFm):(zC J.p).Runs J.w J.t (JI J) p:=SX (fun J=>(zC J.p)) (fun J=>(JI J)) J p
noncomputable def ajU (p:SFm):XT:=none
def JV (J:WB):List (SG J):=smS ((isB "dict.__getitem__",jk _ _) :: (isB "len",(cW _ _).toLC) :: (isB "int.__eq__",kU _ _ false) :: (isB "int.__eq__",kU _ _ true) :: (isB "list.append",(b7 _ _).toLC) :: []:CL J)
def z7 (P:Params):aq SFm:=akt.spec ((⟨5,1,1,2,5,494,false,[0,1,2,3,4,7],[1,17],(by walk_at "#mng#n#")⟩:akt) ) (fun p I=>gu 1 2 (ad I 4)) (fun p I=>PM P p I (eH p 0 4) p.xs p.p.S.e++[frO [dF P J0 (p.p.t 0) (.ref (ad I 0))] 1]) (ajU ) (fun p I O=>.next) (fun p I O=>PM P p I (eH p 0 4) (p.xs.push (.ref (ad I 5))) (p.p.S.e + 1)++[frO [dF P J0 (p.p.t 0) (.ref (ad I 0)),dF P J5 (O 0) (.int (Int.negSucc (p.q 3).1) (p.q 3).2.1)] 2,row J13 (O 1) (.int 0 369) (.int 0 370) (.int 0 371) .none]) (fun p I O=>none) (fun p I O=>.hb (Nat.ble (p.xs.push (.ref (ad I 7))).size 16777216) :: .hb (Nat.ble p.xs.size 16777216) :: (l6 p (eH p 0 4) 4).map .hb) (fun p I O=>.hb true :: .hb true :: uL 4 true)
theorem w7 (J:WB) (p:SFm):(z7 J.p).Runs J.w J.t (JV J) p:=SX (fun J=>(z7 J.p)) (fun J=>(JV J)) J p
noncomputable def ajT (p:SFm):XT:=none
def I5 (J:WB):List (SG J):=smS ((isB "dict.__getitem__",jk _ _) :: (isB "len",(cW _ _).toLC) :: (isB "int.__eq__",kU _ _ false) :: (isB "int.__eq__",kU _ _ true) :: (isB "list.append",(b7 _ _).toLC) :: []:CL J)
def Al (P:Params):aq SFm:=akt.spec ((⟨5,1,1,2,5,654,false,[0,1,2,3,4,7],[1,25],(by walk_at "#mnj,g#n#")⟩:akt) ) (fun p I=>gu 1 2 (ad I 4)) (fun p I=>PM P p I (eH p 0 6) p.xs p.p.S.e++[frO [dF P J0 (p.p.t 0) (.ref (ad I 0))] 1]) (ajT ) (fun p I O=>.next) (fun p I O=>PM P p I (eH p 0 6) (p.xs.push (.ref (ad I 5))) (p.p.S.e + 1)++[frO [dF P J0 (p.p.t 0) (.ref (ad I 0)),dF P J5 (O 0) (.int (Int.negSucc (p.q 5).1) (p.q 5).2.1)] 2,row J13 (O 1) (.int 0 369) (.int 0 370) (.int 0 371) .none]) (fun p I O=>none) (fun p I O=>.hb (Nat.ble (p.xs.push (.ref (ad I 7))).size 16777216) :: .hb (Nat.ble p.xs.size 16777216) :: (l6 p (eH p 0 6) 6).map .hb) (fun p I O=>.hb true :: .hb true :: uL 6 true)
theorem wT (J:WB) (p:SFm):(Al J.p).Runs J.w J.t (I5 J) p:=SX (fun J=>(Al J.p)) (fun J=>(I5 J)) J p
noncomputable def ajS (p:SFm):XT:=none
def Gs (J:WB):List (SG J):=smS ((isB "dict.__getitem__",jk _ _) :: (isB "len",(cW _ _).toLC) :: (isB "int.__eq__",kU _ _ false) :: (isB "int.__eq__",kU _ _ true) :: (isB "list.append",(b7 _ _).toLC) :: []:CL J)
def akR (P:Params):aq SFm:=akt.spec ((⟨5,1,1,2,5,734,false,[0,1,2,3,4,7],[1,29],(by walk_at "#mnj,j,n#")⟩:akt) ) (fun p I=>gu 1 2 (ad I 4)) (fun p I=>PM P p I (eH p 0 7) p.xs p.p.S.e++[frO [dF P J0 (p.p.t 0) (.ref (ad I 0))] 1]) (ajS ) (fun p I O=>.next) (fun p I O=>PM P p I (eH p 0 7) (p.xs.push (.ref (ad I 5))) (p.p.S.e + 1)++[frO [dF P J0 (p.p.t 0) (.ref (ad I 0)),dF P J5 (O 0) (.int (Int.negSucc (p.q 6).1) (p.q 6).2.1)] 2,row J13 (O 1) (.int 0 369) (.int 0 370) (.int 0 371) .none]) (fun p I O=>none) (fun p I O=>.hb (Nat.ble (p.xs.push (.ref (ad I 7))).size 16777216) :: .hb (Nat.ble p.xs.size 16777216) :: (l6 p (eH p 0 7) 7).map .hb) (fun p I O=>.hb true :: .hb true :: uL 7 true)
theorem wZ (J:WB) (p:SFm):(akR J.p).Runs J.w J.t (Gs J) p:=SX (fun J=>(akR J.p)) (fun J=>(Gs J)) J p
def jj (P:Params) (p:SFn) (f:Bool):Obj:=frO ([dF P J0 (p.t 0) (.ref (p.S.p + 1158)),dF P J5 (p.t 1) p.lab]++(match f with | true=>[] | false=>[dF P J8 (p.t 2) (.ref p.o)])) p.ep
def c7 (P:Params) (p:SFn) (first:Bool) (it f i:Nat):XL:=[(p.S.p + 1158,p.S.instO),(p.S.d + 1158,p.S.dictO P),(p.S.o + 1158,ab p.xs p.S.e),(p.S.l + 1158,p.S.labelsO),(it,liO (p.S.o + 1158) i),(f,jj P p first)]
noncomputable def SFn.at (p:SFn) (i:Nat) (n:List Nat) (a:Int) (l:Nat) (b c:Int) (v:Value) (t:Nat→Tok):SFn:={ p with n:=n,a:=a,l:=l,b:=b,c:=c,v:=v,i:=i,t:=WG p.t t }
noncomputable def SFn.t2 (p:SFn) (f:Bool) (u:Tok):Tok:=match f with
 | true=>u
 | false=>p.t 2
noncomputable def SFn.ep2 (p:SFn) (f:Bool):Nat:=match f with
 | true=>p.ep + 1
 | false=>p.ep
def SFn.x3 (p:SFn) (j:Bool):Value:=match j with
 | true=>Rh p
 | false=>.int p.b (p.t 12)
noncomputable def SFn.ls (p:SFn) (x:Nat) (ep:Nat) (t2:Tok):SFn:={ p with o:=x,ep:=ep,t:=fun k=>match k with | 2=>t2 | k=>p.t k }
theorem wO (P:Params) (first j:Bool) (p:SFn) (I O:ae8):(fin (first,j) P).post p I O=[ky (ad I 1),jF P p.S.tk (ad I 2) (ad I 3) (p.S.c + 1158) (.int (Int.ofNat p.S.regs) p.S.tr) (.int (Int.ofNat p.S.curs) p.S.tc) (.int (Int.ofNat p.S.slots) p.S.ts) (.int (Int.negSucc p.S.next) p.S.tn),ab p.xs p.S.e,p.S.labelsO,liO (ad I 2) (p.i + 1),
 frO [dF P J0 (p.t 0) (.ref (ad I 0)),dF P J5 (p.t 1) p.lab,dF P J8 (p.t2 first (O 0)) (.ref (ad I 6))] (p.ep2 first),mW p (p.x3 j)]:=by cases first<;>cases j<;>rfl
def Hm (P:Params) (ls:List DictEntry) (o d:Obj):Prop:=
 (∃ (n:List Nat) (a:Int) (l:Nat) (c:Int) (v:Value) (t:Nat→Tok) (y:Int) (u:Tok),o=row n (t 10) (.int a (t 11)) (.int (Int.negSucc l) (t 12)) (.int c (t 13)) v∧cq P (sv n)=true∧getD (Int.negSucc l) ls=some (.int y u)∧d=row n (t 10) (.int a (t 11)) (.int y u) (.int c (t 13)) v) ∨
 (∃ (n:List Nat) (a b c:Int) (v:Value) (t:Nat→Tok),o=row n (t 10) (.int a (t 11)) (.int b (t 12)) (.int c (t 13)) v∧cq P (sv n)=false∧d=o)
def jv (P:Params) (ls:List DictEntry):XL→XL→Prop
 | [],[]=>True
 | x :: xs,y :: ys=>x.1=y.1∧Hm P ls x.2 y.2∧jv P ls xs ys
 | _,_=>False
theorem jv.len {P:Params} {ls:List DictEntry}:∀ {xs ys:XL},jv P ls xs ys→xs.length=ys.length
 | [],[],_=>rfl
 | _ :: _,_ :: _,h=>by simp [jv.len h.2.2]
 | [],_ :: _,h=>h.elim
 | _ :: _,[],h=>h.elim
section
variable (J:WB)
theorem RF (first j:Bool) (p:SFn) (it f g:Nat) (B:1158≤it) (A:1158≤f) (C:1158≤g) (q:j=true→∀ b∈yI p,b=true) (hn:cq J.p (sv p.n)=j) (y:p.xs[p.i]? = some (.ref g)) :
  HRG J 5 (.code (fnC it f)) (c7 J.p p first it f p.i++[(g,mW p (p.b2 j))])
   (fun e L'=>e=.again (fnC it f)∧∃ t2 ep,L'.Perm (c7 J.p (p.ls g ep t2) false it f (p.i + 1)++[(g,mW p (p.x3 j))])):=by
 refine exL ([p.S.p + 1158,p.S.d + 1158,p.S.o + 1158,p.S.l + 1158,it,f,g]:List Nat) fun l hl=>?_
 have k:∀ a∈l,1158≤a:=by
  intro a s
  rw [hl] at s
  simp only [b9,gv,dj] at s
  lia
 have h:∀ (j a:Nat),l[j]? = some a→ad (nuL l) j=a:=fun j a q=>aB k q
 have i0:=h 0 _ (by rw [hl];rfl)
 have i1:=h 1 _ (by rw [hl];rfl)
 have i2:=h 2 _ (by rw [hl];rfl)
 have u:=h 3 _ (by rw [hl];rfl)
 have v:=h 4 _ (by rw [hl];rfl)
 have t:=h 5 _ (by rw [hl];rfl)
 have x:=h 6 _ (by rw [hl];rfl)
 have w:p.i < p.xs.size:=(Array.getElem?_eq_some_iff.mp y).1
 have r:ae p.xs p.i=.ref g:=by
  have:=im (xs:=p.xs) (i:=p.i) (aF w)
  rw [y] at this
  injection this with this
  exact this.symm
 have H:=aq.hrZ (ay _) (GP (first,j) J p) (TB (first,j) _ p) rfl rfl (fun Z Z=>rfl) l (by rw [hl];rfl) k (fun I' O z=>by
  have e6:ad I' 6=g:=by rw [← x];unfold ad;rw [z 6 (by show 6 < 7;lia)]
  show (match j with | true=>(yI p).map OV.hb | false=>[])++[.hb (cq J.p (sv p.n)),.hb (Nat.blt p.i p.xs.size),.hv (ae p.xs p.i)]=(match j with | true=>bl (yI p) | false=>[])++[.hb j,.hb true,.hv (.ref (ad I' 6))]
  rw [hn,r,e6,show Nat.blt p.i p.xs.size=true from aF w]
  cases j with
  | false=>rfl
  | true=>rw [ch (q rfl)])
 have m:(fin (first,j) J.p).st p (nuL l)=.code (fnC it f):=by
  show bx.code (fnC (ad _ 4) (ad _ 5))=_
  rw [v,t]
 rw [m] at H
 refine (H.perm (L':=c7 J.p p first it f p.i++[(g,mW p (p.b2 j))]) (fv ?_)).mono (ag rfl) <| elB fun O=>?_
 · have e1:(fin (first,j) J.p).pre p (nuL l)=[p.S.instO,p.S.dictO J.p,ab p.xs p.S.e,p.S.labelsO,liO (p.S.o + 1158) p.i,jj J.p p first,mW p (p.b2 j)]:=by
    show [ky (ad (nuL l) 1),jF _ p.S.tk (ad (nuL l) 2) (ad (nuL l) 3) (p.S.c + 1158) (.int (Int.ofNat p.S.regs) p.S.tr) (.int (Int.ofNat p.S.curs) p.S.tc) (.int (Int.ofNat p.S.slots) p.S.ts) (.int (Int.negSucc p.S.next) p.S.tn),ab p.xs p.S.e,p.S.labelsO,liO (ad (nuL l) 2) p.i,frN _ p (nuL l) first,mW p (p.b2 j)]=_
    unfold frN jj
    rw [i0,i1,i2,u]
    cases first<;>rfl
   rw [e1,hl]
   rfl
 · refine ⟨by show En.again (fnC (ad _ 4) (ad _ 5))=_;rw [v,t],p.t2 first (O 0),p.ep2 first,fv ?_⟩
   have e1:(fin (first,j) J.p).post p (nuL l) O=[p.S.instO,p.S.dictO J.p,ab p.xs p.S.e,p.S.labelsO,liO (p.S.o + 1158) (p.i + 1),jj J.p (p.ls g (p.ep2 first) (p.t2 first (O 0))) false,mW p (p.x3 j)]:=by
    rw [wO]
    unfold jj
    rw [i0,i1,i2,u,x]
    rfl
   rw [e1,hl]
   rfl
def WZ (P:Params) (S:aa) (lab:Value) (b c:Tok) (it f:Nat) (first:Bool) (done a:XL) (last:Nat) (L:XL):Prop:=
 ∃ p:SFn,p.S=S∧p.lab=lab∧p.t 0=b∧p.t 1=c∧p.o=last∧p.xs=⟨(done++a).map fun x=>.ref x.1⟩∧L.Perm (c7 P p first it f done.length++(done++a))
def ana (s:Stmt):Expr × List Stmt:=match s with
 | .For t _ b _ _=>(t,b)
 | _=>(default,[])
theorem By (S:aa) (lab:Value) (t0 t1:Tok) (it f:Nat) (B:ikB (S.labels.map aa.labE)=true):∀ (g m done:XL) (first:Bool) (last:Nat) (L:XL),jv J.p (S.labels.map aa.labE) g m →
  WZ J.p S lab t0 t1 it f first done g last L →
  HRG J 11 (.code (fnC it f)) L (fun e L'=>e=.next∧∃ (p:SFn),p.S=S∧p.lab=lab∧p.t 0=t0∧p.t 1=t1∧p.o=((g.getLast?.map (·.1)).getD last) ∧
   L'.Perm ([(S.p + 1158,S.instO),(S.d + 1158,S.dictO J.p),(S.o + 1158,ab ⟨(done++g).map fun x=>.ref x.1⟩ S.e),(S.l + 1158,S.labelsO),(it,liN (done++g).length),(f,jj J.p p (first && g.isEmpty))]++(done++m))):=by
 intro g
 induction g with
 | nil=>
  intro m done first last L F hI
  cases m with
  | nil=>
   obtain ⟨p,r⟩:=hI
   refine an4 r fun e1 e2 e3 e4 r=>?_
   refine an2 r fun e5 e6 G=>?_
   rw [au] at e6 G
   have H:=(EU (w:=J.w) (top:=ac J.p) (ana (br fnB 2)).1 (ana (br fnB 2)).2 (fnE f) it (p.S.o + 1158) done.length p.S.e p.xs (by
    rw [e6]
    exact Array.getElem?_eq_none (by simp)) (fun o=>rfl)).frame ([(p.S.p + 1158,p.S.instO),(p.S.d + 1158,p.S.dictO J.p),(p.S.l + 1158,p.S.labelsO),(f,jj J.p p first)]++done)
   refine (H.perm (L':=L) ?_).mono (ag rfl) fun e L' K=>?_
   · exact anf G.symm (ane (L:=[_,_]) (E:=[_,_,_,_,_,_]) (.a (.a (.c 0 (.c 1 .n)) (.a (.c 2 (.c 3 (.c 4 (.c 5 .n)))) (.l 0))) (.l 1)) (.a (.l 1) (.a (.c 2 (.c 3 (.c 1 (.c 4 (.c 0 (.c 5 .n)))))) (.l 0))) rfl)
   · obtain ⟨L1,rfl,rfl,rfl⟩:=K
     refine ⟨rfl,p,e1,e2,e3,e4,e5,?_⟩
     rw [au,e6,e1]
     have ef:(first && ([]:XL).isEmpty)=first:=Bool.and_true first
     rw [ef]
     exact ane (L:=[_]) (E:=[_,_,_,_,_,_]) (.a (.c 0 (.c 1 .n)) (.a (.c 2 (.c 3 (.c 4 (.c 5 .n)))) (.l 0))) (.a (.c 2 (.c 3 (.c 1 (.c 4 (.c 0 (.c 5 .n)))))) (.l 0)) rfl
  | cons=>exact F.elim
 | cons x g ihh=>
  intro m done first last L F hI
  cases m with
  | nil=>exact F.elim
  | cons y m=>
   obtain ⟨p,r⟩:=hI
   refine an4 r fun e1 e2 e3 e4 r=>?_
   refine an2 r fun e5 e6 G=>?_
   obtain ⟨C,M,F⟩:=F
   refine HR.of_has fun R o=>?_
   have s:∀ q∈c7 J.p p first it f done.length++(done++x :: g),1158≤q.1:=fun q hq=>R q (G.mem_iff.mpr hq)
   have g1:1158≤it:=s (it,liO (p.S.o + 1158) done.length) (by unfold c7;simp)
   have g2:1158≤f:=s (f,jj J.p p first) (by unfold c7;simp)
   have g3:1158≤x.1:=s x (by simp)
   have key:∃ (n:List Nat) (a:Int) (l:Nat) (b c:Int) (v:Value) (t:Nat→Tok) (j:Bool),x.2=mW (p.at done.length n a l b c v t) (SFn.b2 (p.at done.length n a l b c v t) j) ∧
     (j=true→∀ q∈yI (p.at done.length n a l b c v t),q=true)∧cq J.p (sv n)=j ∧
     y.2=mW (p.at done.length n a l b c v t) ((p.at done.length n a l b c v t).x3 j):=by
    rcases M with ⟨n,a,l,c,v,t,z,u,D,N,A,q4⟩ | ⟨n,a,b,c,v,t,D,N,A⟩
    · refine ⟨n,a,l,0,c,v,t,true,D,fun o=>?_,N,?_⟩
      · rw [← e1] at A B
        unfold yI
        have Q:(getD (Int.negSucc l) (p.S.labels.map aa.labE)).isSome=true:=by rw [A];rfl
        have P:VK.i.is ((getD (Int.negSucc l) (p.S.labels.map aa.labE)).getD .none)=true:=by rw [A];rfl
        exact all_cons B (all_cons Q (all_cons P (all_cons B (all_cons Q cC))))
      · rw [q4]
        rw [← e1] at A
        show _=row n (t 10) (.int a (t 11)) (VK.i.as ((getD (Int.negSucc l) (p.S.labels.map aa.labE)).getD .none)) (.int c (t 13)) v
        rw [A];rfl
    · exact ⟨n,a,0,b,c,v,t,false,D,(fun h=>Bool.noConfusion h),N,by rw [A,D];rfl⟩
   refine ex4 key fun n a l b r=>?_
   refine ex4 r fun c v t j r=>?_
   refine an3 r fun k1 k2 k3 k4=>?_
   have X:∀ fst:Bool,c7 J.p (p.at done.length n a l b c v t) fst it f done.length=c7 J.p p fst it f done.length:=fun fst=>by cases fst<;>rfl
   have H:=(RF J first j (p.at done.length n a l b c v t) it f x.1 g1 g2 g3 k2 k3 (by
    show p.xs[done.length]? = _
    rw [e6,← Array.getElem?_toList]
    simp)).frame (done++g)
   refine ((H.perm (L':=L) ?_).mono (need':=11) (ag rfl) fun e L' h=>h).again fun e L' K=>?_
   · refine aG fun k T kc k0 W=>?_
     have q:=W _ _ G
     have hf:c7 J.p (p.at done.length n a l b c v t) first it f (p.at done.length n a l b c v t).i=c7 J.p p first it f done.length:=X first
     have Z:(x.1,mW (p.at done.length n a l b c v t) (SFn.b2 (p.at done.length n a l b c v t) j))=x:=by rw [← k1]
     rw [Z,hf]
     have kd:k (x :: g)=k [x] + k g:=kc x g
     simp only [T,kd] at q ⊢
     lia
   · obtain ⟨L1,rfl,rfl,t2,ep,hp⟩:=K
     refine ⟨_,rfl,rfl,?_⟩
     have hy:(x.1,y.2)=y:=by rw [C]
     rw [← k4,hy] at hp
     have ih:=ihh m (done++[y]) false x.1 (L1++(done++g)) F ⟨(p.at done.length n a l b c v t).ls x.1 ep t2,e1,e2,e3,e4,rfl,by
      show p.xs=_
      rw [e6]
      simp [C],by
      refine aG fun k T kc k0 W=>?_
      have q:=W _ _ hp
      have Y:(done++[y]).length=done.length + 1:=by simp
      have ei:(p.at done.length n a l b c v t).i=done.length:=rfl
      rw [Y]
      rw [ei] at q
      simp only [T] at q ⊢
      lia⟩
     refine ih.mono (ai _) fun e L' K=>?_
     obtain ⟨rfl,p',D,N,A,q4,Q,P⟩:=K
     refine ⟨rfl,p',D,N,A,q4,?_,?_⟩
     · rw [Q]
       cases g with
       | nil=>rfl
       | cons z zs=>rw [List.getLast?_cons_cons];cases hz:(z :: zs).getLast? with | none=>simp at hz | some q=>rfl
     · have ex:((done++x :: g).map fun x=>Value.ref x.1)=((done++[y]++g).map fun x=>Value.ref x.1):=by simp [C]
       have Y:(done++x :: g).length=(done++[y]++g).length:=by simp
       rw [ex,Y]
       have e8:(first && (x :: g).isEmpty)=(false && g.isEmpty):=Bool.and_false first
       rw [e8]
       rw [uG,uG] at P
       rw [uG]
       exact P
end
def akz (ls:List DictEntry) (o:Obj):Obj:=match bN o 2 with
 | .int (.negSucc l) _=>ab ⟨[bN o 0,bN o 1,(getD (Int.negSucc l) ls).getD .none,bN o 3,bN o 4]⟩ 0
 | _=>o
def iI (S:aa):aa:={ S with ops:=S.ops.map fun x=>(x.1,akz (S.labels.map aa.labE) x.2),hn:=by rw [zt];exact S.hn }
def jH (P:Params) (ls:List DictEntry) (o:Obj):Prop:=
 (∃ (n:List Nat) (a:Int) (l:Nat) (c:Int) (v:Value) (t:Nat→Tok) (y:Int) (u:Tok),o=row n (t 10) (.int a (t 11)) (.int (Int.negSucc l) (t 12)) (.int c (t 13)) v∧cq P (sv n)=true∧getD (Int.negSucc l) ls=some (.int y u)) ∨
 (∃ (n:List Nat) (a:Int) (m:Nat) (c:Int) (v:Value) (t:Nat→Tok),o=row n (t 10) (.int a (t 11)) (.int (Int.ofNat m) (t 12)) (.int c (t 13)) v∧cq P (sv n)=false)
theorem jH.fix {P:Params} {ls:List DictEntry} {o:Obj} (h:jH P ls o):Hm P ls o (akz ls o):=by
 rcases h with ⟨n,a,l,c,v,t,y,u,rfl,h1,h2⟩ | ⟨n,a,m,c,v,t,rfl,h1⟩
 · refine .inl ⟨n,a,l,c,v,t,y,u,rfl,h1,h2,?_⟩
   show ab ⟨[_,_,(getD (Int.negSucc l) ls).getD .none,_,_]⟩ 0=_
   rw [h2];rfl
 · exact .inr ⟨n,a,Int.ofNat m,c,v,t,rfl,h1,rfl⟩
theorem Cv {P:Params} {ls:List DictEntry}:∀ {ops:XL},(∀ x∈ops,jH P ls x.2)→jv P ls ops (ops.map fun x=>(x.1,akz ls x.2))
 | [],_=>trivial
 | x :: xs,h=>⟨rfl,(h x (gw ..)).fix,Cv fun y a=>h y (kt _ a)⟩
structure A5 (P:Params) (S:aa):Prop where
 ik:ikB (S.labels.map aa.labE)=true
 rows:∀ x∈S.ops,jH P (S.labels.map aa.labE) x.2
 some:S.ops.isEmpty=false
def rG (p:Raw):SFn:={ SFn.stand with S:=aj p.X,t:=fun j=>match j with | 0=>kT p 1 0 | 1=>kT p 1 1 | _=>0,lab:=vN p 1 1,ep:=(f8 [uF p.os 1]).2 }
noncomputable def k9 (S:aa):Nat:=((S.ops.getLast?.map (·.1)).getD 0)
def AX (p:Raw) (O:ae8):SFn:={ rG p with o:=k9 (aj p.X),ep:=O 0,t:=fun j=>match j with | 0=>kT p 1 0 | 1=>kT p 1 1 | _=>O 1 }
def Zj (J:WB):LG J where
 nx:=true
 P:=Raw
 fs:=[.iter,.locs]
 qt:=0
 q:=0
 it:=2
 need:=11
 ext:=Raw.mk
 obl _ p:=([.hb (cF (A5 J.p (aj p.X))),.x p.X],[.hb true,.x (some (aj p.X))])
 code I p:=fnC (ad I 0) (ad I 1)
 pre I p:=[liO ((aj p.X).o + 1158) 0,jj J.p (rG p) true]
 preX p:=p.X
 post I O p:=[liN (aj p.X).n,jj J.p (AX p O) false]
 postX _ _ p:=some (iI (aj p.X))
 res _ _ _:=.none
 qle:=ai _
 olen _ _:=rfl
 len _ _ _:=rfl
 ok p I m _:=by
  obtain ⟨C,m⟩:=aU m
  obtain ⟨i,b,g⟩:=dU C
  have w:p.X=some (aj p.X):=by
   have:=(List.cons.inj m).1
   exact OV.x.inj this
  refine exL (aj p.X) fun S f=>?_
  have key:=(By J S (vN p 1 1) (kT p 1 0) (kT p 1 1) (ad I 0) (ad I 1) (by rw [f];exact i) S.ops (S.ops.map fun x=>(x.1,akz (S.labels.map aa.labE) x.2)) [] true 0
   ([(S.p + 1158,S.instO),(S.d + 1158,S.dictO J.p),(S.o + 1158,ab S.opsV S.e),(S.l + 1158,S.labelsO),(ad I 0,liO (S.o + 1158) 0),(ad I 1,jj J.p (rG p) true)]++S.ops)
   (Cv (by rw [f];exact b)) ⟨{ rG p with xs:=S.opsV,o:=0,S:=S },rfl,rfl,rfl,rfl,rfl,rfl,fv (by
    rw [f];rfl)⟩).frame S.xt
  refine HR.tx (nx:=true) (k:=2) (K:=fun I' O'=>_) ?_
  refine (key.perm ?_).post_perm.weak fun e R M=>?_
  · rw [w]
    show List.Perm _ (tc I 0 [liO ((aj p.X).o + 1158) 0,jj J.p (rG p) true]++(([((aj p.X).p + 1158,(aj p.X).instO),((aj p.X).d + 1158,(aj p.X).dictO _),((aj p.X).o + 1158,ab (aj p.X).opsV (aj p.X).e),((aj p.X).l + 1158,(aj p.X).labelsO)]:XL)++((aj p.X).ops++(aj p.X).xt)))
    rw [← f]
    exact ane (L:=[_,_]) (E:=[_,_,_,_,_,_]) (.a (.a (.c 0 (.c 1 (.c 2 (.c 3 (.c 4 (.c 5 .n)))))) (.l 0)) (.l 1)) (.a (.c 4 (.c 5 .n)) (.a (.c 0 (.c 1 (.c 2 (.c 3 .n)))) (.a (.l 0) (.l 1)))) rfl
  · obtain ⟨N,rfl,rfl,q,B,Q,D,H,F,h⟩:=M
    refine ⟨_,?_,I,(fun j=>match j with | 0=>q.ep | _=>q.t 2),fun Z Z=>rfl,rfl,rfl⟩
    have G:(true && S.ops.isEmpty)=false:=by rw [f,g];rfl
    rw [G] at h
    have u:jj J.p q false=jj J.p (AX p (ah 2 (fun j=>match j with | 0=>q.ep | _=>q.t 2))) false:=by
     show frO [dF _ J0 (q.t 0) (.ref (q.S.p + 1158)),dF _ J5 (q.t 1) q.lab,dF _ J8 (q.t 2) (.ref q.o)] q.ep=frO [dF _ J0 (kT p 1 0) (.ref ((aj p.X).p + 1158)),dF _ J5 (kT p 1 1) (vN p 1 1),dF _ J8 (q.t 2) (.ref (k9 (aj p.X)))] q.ep
     rw [B,Q,D,H,F,f];rfl
    rw [u] at h
    show (N++S.xt).Perm (tc I 0 [liN (aj p.X).n,jj J.p (AX p (ah 2 (fun j=>match j with | 0=>q.ep | _=>q.t 2))) false]++uU J.p (some (iI (aj p.X))))
    rw [← f]
    refine aG fun k s kc A v=>?_
    have z:∀ x y (l:XL),k (x :: y :: l)=k [x] + k (y :: l):=fun x y l=>kc x (y :: l)
    have r:=v _ _ h
    have ev:(iI S).opsV=⟨([]++S.ops:XL).map fun x=>Value.ref x.1⟩:=by
     show (⟨(S.ops.map fun x=>(x.1,akz (S.labels.map aa.labE) x.2)).map fun x=>Value.ref x.1⟩:Array Value)=_
     rw [alu];rfl
    have en:([]++S.ops:XL).length=S.n:=S.hn
    rw [en] at r
    show _=k ([(ad I 0,liN S.n),(ad I 1,jj J.p (AX p (ah 2 (fun j=>match j with | 0=>q.ep | _=>q.t 2))) false)]++([(S.p + 1158,S.instO),(S.d + 1158,S.dictO J.p),(S.o + 1158,ab (iI S).opsV S.e),(S.l + 1158,S.labelsO)]++((S.ops.map fun x=>(x.1,akz (S.labels.map aa.labE) x.2))++S.xt)))
    rw [ev]
    simp only [s,z,A] at r ⊢
    lia
noncomputable def ajZ (p:SFn):XT:=some p.S
def Si (J:WB):List (SG J):=smS ((aaX,Zj J) :: []:CL J)
def wp (P:Params):aq SFn:=akt.spec ((⟨1,0,0,2,13,42,false,[0],[2,1],(by walk_at "#U/.dXhx5n6g8(C")⟩:akt) ) (fun p I=>gu 2 3 (ad I 0)) (fun p I=>[frO [dF P J0 (p.t 0) (.ref (p.S.p + 1158)),dF P J5 (p.t 1) p.lab] 2]) (ajZ ) (fun p I O=>.next) (fun p I O=>[frO [dF P J0 (p.t 0) (.ref (p.S.p + 1158)),dF P J5 (p.t 1) p.lab,dF P J8 (O 0) (.ref (k9 p.S))] (O 1)]) (fun p I O=>some (iI p.S)) (fun p I O=>[.hb (cF (A5 P p.S))]) (fun p I O=>[.hb true])
theorem akY (J:WB) (p:SFn):(wp J.p).Runs J.w J.t (Si J) p:=SX (fun J=>(wp J.p)) (fun J=>(Si J)) J p
noncomputable def ajX (p:SFn):XT:=some p.S
def UA (J:WB):List (SG J):=smS ([]:CL J)
def Dj (P:Params):aq SFn:=akt.spec ((⟨1,0,0,0,2,14,false,[0],[],[1]⟩:akt) ) (fun p I=>gu 3 4 (ad I 0)) (fun p I=>[frO [dF P J0 (p.t 0) (.ref (p.S.p + 1158)),dF P J5 (p.t 1) p.lab,dF P J8 (p.t 2) (.ref p.o)] p.ep]) (ajX ) (fun p I O=>.ret (.ref (p.S.p + 1158))) (fun p I O=>[frO [dF P J0 (p.t 0) (.ref (p.S.p + 1158)),dF P J5 (p.t 1) p.lab,dF P J8 (p.t 2) (.ref p.o)] p.ep]) (fun p I O=>some p.S) (fun p I O=>[]) (fun p I O=>[])
theorem EP (J:WB) (p:SFn):(Dj J.p).Runs J.w J.t (UA J) p:=S4
theorem dr (P:Params):cq P (sv J13)=false∧cq P (sv J23)=false∧cq P (sv J10)=false∧cq P (sv J54)=false∧cq P (sv J22)=false∧cq P (sv J69)=false∧cq P (sv J41)=false∧cq P (sv J38)=false ∧
 cq P (sv J28)=false∧cq P (sv J20)=false∧cq P (sv J27)=false:=by refine ⟨?_,?_,?_,?_,?_,?_,?_,?_,?_,?_,?_⟩<;>kernel_rfl
theorem gp (P:Params):cq P (sv J39)=true∧cq P (sv J48)=true∧cq P (sv J44)=true∧cq P (sv J34)=true∧cq P (sv J40)=true∧cq P (sv J33)=true:=by refine ⟨?_,?_,?_,?_,?_,?_⟩<;>kernel_rfl
structure iM (P:Params) (S:aa):Prop where
 last:∃ (ops0:XL) (ra:Nat) (t:Nat→Tok) (a b c:Int) (v:Value),S.ops=ops0++[(ra,row J23 (t 10) (.int a (t 11)) (.int b (t 12)) (.int c (t 13)) v)]
 k:S.labels.length=3∨S.labels.length=4∨S.labels.length=6∨S.labels.length=7
 le:S.le=S.labels.length
 look:∀ x∈S.labels,getD (Int.negSucc x.1) (S.labels.map aa.labE)=some (.int (Int.ofNat x.2.2.1) x.2.2.2)
 at_:∀ j x,S.labels[j]? = some x→(x.2.2.1=S.n ↔ j + 1=S.labels.length)
 size:S.n≤1000
 rows:∀ x∈S.ops,jH P (S.labels.map aa.labE) x.2
def c4 (P:Params) (S:aa) (xs:Array Value) (e:Nat):XL:=[(S.p + 1158,S.instO),(S.d + 1158,S.dictO P),(S.o + 1158,ab xs e),(S.l + 1158,S.labelsO)]
theorem ku (P:Params) (S:aa):S.cells P=c4 P S S.opsV S.e++(S.ops++S.xt):=rfl
def iU (P:Params) (S:aa) (a:Tok):List DictEntry:=[dF P J0 a (.ref (S.p + 1158))]
section
variable {J:WB}
theorem L6 (S:aa) (f h:Nat) (t:Nat→Tok) (a b c:Int) (v:Value) (g:XL) (L:1158≤f) (K:1158≤h) (u:Tok) (i:S.ops=g++[(h,row J23 (t 10) (.int a (t 11)) (.int b (t 12)) (.int c (t 13)) v)]) (hn:S.n≤1000) :
  HRG J 11 (gu 0 1 f) (c4 J.p S S.opsV S.e++[(h,row J23 (t 10) (.int a (t 11)) (.int b (t 12)) (.int c (t 13)) v),(f,frO (iU J.p S u) 1)])
   (fun e L'=>e=.next∧L'=c4 J.p S S.opsV S.e++[(h,row J23 (t 10) (.int a (t 11)) (.int b (t 12)) (.int c (t 13)) v),(f,frO (iU J.p S u) 1)]):=by
 refine exL ([S.p + 1158,S.d + 1158,S.o + 1158,S.l + 1158,h,f]:List Nat) fun l hl=>?_
 have r:∀ a∈l,1158≤a:=by
  intro a A
  rw [hl] at A
  simp only [b9,gv,dj] at A
  lia
 have q:∀ (j a:Nat),l[j]? = some a→ad (nuL l) j=a:=fun j a G=>aB r G
 have i0:=q 0 _ (by rw [hl];rfl)
 have i1:=q 1 _ (by rw [hl];rfl)
 have i2:=q 2 _ (by rw [hl];rfl)
 have E:=q 3 _ (by rw [hl];rfl)
 have F:=q 4 _ (by rw [hl];rfl)
 have C:=q 5 _ (by rw [hl];rfl)
 refine exL ({ SFn.stand with S:=S,xs:=S.opsV,t:=fun j=>match j with | 0=>u | j=>t j,a:=a,b:=b,c:=c,v:=v }:SFn) fun p z=>?_
 have s:S.opsV.size=S.n:=by show (S.ops.map _).length=_;rw [zt];exact S.hn
 have w:S.n=g.length + 1:=by rw [← S.hn,i];simp
 have m:ae S.opsV (S.opsV.size - 1)=.ref h:=by
  rw [s,w]
  show (S.ops.map fun x=>Value.ref x.1).getD _ .none=_
  rw [i]
  simp
 have H:=aq.hrZ (ay _) (E7 J p) (by intros;exact tT) rfl rfl (fun Z Z=>rfl) l (by rw [hl];rfl) r (fun I' O D=>by
  have e4:ad I' 4=h:=by rw [← F];unfold ad;rw [D 4 (by show 4 < 6;lia)]
  show [OV.hb true,OV.hb (Nat.ble 1 p.xs.size),OV.hv (ae p.xs (p.xs.size - 1)),OV.hb (Nat.ble 1 p.xs.size),OV.hb (Nat.ble p.xs.size 16777216)]=[OV.hb true,OV.hb true,OV.hv (.ref (ad I' 4)),OV.hb true,OV.hb true]
  have B:p.xs=S.opsV:=by rw [z]
  rw [B,m,s,e4,aF (show 1≤S.n by lia),aF (show S.n≤16777216 by lia)])
 have y:(Uh J.p).st p (nuL l)=gu 0 1 f:=by
  show gu 0 1 (ad _ 5)=_
  rw [C]
 rw [y] at H
 have k:∀ os:List Obj,os=[ky (ad (nuL l) 1),jF J.p p.S.tk (ad (nuL l) 2) (ad (nuL l) 3) (p.S.c + 1158) (.int (Int.ofNat p.S.regs) p.S.tr) (.int (Int.ofNat p.S.curs) p.S.tc) (.int (Int.ofNat p.S.slots) p.S.ts) (.int (Int.negSucc p.S.next) p.S.tn),ab p.xs p.S.e,p.S.labelsO,row J23 (p.t 10) (.int p.a (p.t 11)) (.int p.b (p.t 12)) (.int p.c (p.t 13)) p.v,frO [dF J.p J0 (p.t 0) (.ref (ad (nuL l) 0))] 1] →
   List.zip l os=c4 J.p S S.opsV S.e++[(h,row J23 (t 10) (.int a (t 11)) (.int b (t 12)) (.int c (t 13)) v),(f,frO (iU J.p S u) 1)]:=fun os e=>by
  rw [e,i0,i1,i2,E,hl,z]
  rfl
 refine (H.perm (fv (k _ rfl))).mono (ag rfl) <| elB fun O=>?_
 exact ⟨rfl,k _ rfl⟩
noncomputable def qOf (S:aa) (j:Nat):Nat × Tok × Nat × Tok:=S.labels.getD j (0,0,0,0)
noncomputable def Mc (l:List (Nat × Tok × Nat × Tok)):Nat→Nat→List (Nat × Tok × Nat × Tok)
 | _,0=>[]
 | j,k + 1=>l.getD j (0,0,0,0) :: Mc l (j + 1) k
theorem Be (l:List (Nat × Tok × Nat × Tok)):∀ (k j:Nat),j + k=l.length→Mc l j k=l.drop j
 | 0,j,h=>by rw [List.drop_of_length_le (by lia)];rfl
 | k + 1,j,h=>by
  show l.getD j (0,0,0,0) :: Mc l (j + 1) k=_
  rw [Be l k (j + 1) (by lia),List.drop_eq_getElem_cons (show j < l.length by lia),List.getD_eq_getElem?_getD,List.getElem?_eq_getElem (show j < l.length by lia)]
  rfl
theorem JW (p:SFm) (S:aa) (hq:p.q=qOf S):∀ (k j:Nat),eH p j k=(Mc S.labels j k).map aa.labE
 | 0,_=>rfl
 | k + 1,j=>by
  show aa.labE (p.q j) :: eH p (j + 1) k=_
  rw [JW p S hq k (j + 1),hq]
  rfl
theorem MH (p:SFm) (S:aa) (hq:p.q=qOf S):eH p 0 S.labels.length=S.labels.map aa.labE:=by
 rw [JW p S hq,Be _ _ _ (JG _)]
 rfl
theorem vb {P:Params} (S:aa) (p:SFm) (hq:p.q=qOf S) (e:p.xs=S.opsV) (H:iM P S):∀ (k:Nat),k≤S.labels.length→(l6 p (S.labels.map aa.labE) k).map OV.hb=uL k (decide (k=S.labels.length))
 | 0,_=>rfl
 | k + 1,hk=>by
  have ih:=vb S p hq e H k (by lia)
  have a:S.labels[k]? = some (S.labels[k]'(by lia)):=List.getElem?_eq_getElem _
  have c:p.q k=S.labels[k]'(by lia):=by rw [hq];unfold qOf;rw [List.getD_eq_getElem?_getD,a];rfl
  have hl:=H.look _ (alD (by lia:k < S.labels.length))
  have b:=H.at_ k _ a
  have d:p.xs.size=S.n:=by rw [e];show (S.ops.map _).length=_;rw [zt];exact S.hn
  have hn:=H.size
  show (R2 p (S.labels.map aa.labE) k++l6 p (S.labels.map aa.labE) k).map OV.hb=[.hb (decide (k + 1=S.labels.length)),.hb true,.hb true,.hb true,.hb true]++uL k false
  rw [eQ,ih]
  have e1:decide (k=S.labels.length)=false:=Na (by lia)
  rw [e1]
  refine congrArg (·++uL k false) ?_
  unfold R2
  rw [c,hl,d,nk,aF (show S.n≤16777216 by lia)]
  have e2:eqI (am ((some (Value.int (Int.ofNat (S.labels[k]'(by lia)).2.2.1) (S.labels[k]'(by lia)).2.2.2)).getD .none)) (Int.ofNat S.n)=decide (k + 1=S.labels.length):=by
   show ((Int.ofNat (S.labels[k]'(by lia)).2.2.1) == Int.ofNat S.n)=_
   by_cases h:k + 1=S.labels.length
   · rw [b.mpr h,decide_eq_true h]
     exact Wt _
   · rw [Na h]
     refine beq_eq_false_iff_ne.mpr fun q=>h (b.mp ?_)
     injection q
  rw [e2]
  rfl
theorem kr {P:Params} (S:aa) (H:iM J.p S) (k:Nat) (hk:S.labels.length=k) (M:SFm→aq SFm) {SS:List (SG J)} (f:Nat) (h1:1158≤f) (y:Tok)
  (run:∀ p,(M p).Runs J.w J.t SS p) (ok:∀ p,(M p).Ok p) (Y:∀ p,(M p).k=5∧(M p).q=1∧(M p).it=2∧(M p).need≤11∧(M p).preX p=none∧∀ I O,(M p).postX p I O=none)
  (D:∀ p I,(M p).st p I=gu 1 2 (ad I 4)) (A:∀ p I,(M p).pre p I=PM J.p p I (eH p 0 k) p.xs p.p.S.e++[frO [dF J.p J0 (p.p.t 0) (.ref (ad I 0))] 1])
  (G:∀ p I O,(M p).e p I O=.next)
  (v:∀ p I O,(M p).post p I O=PM J.p p I (eH p 0 k) (p.xs.push (.ref (ad I 5))) (p.p.S.e + 1)++[frO [dF J.p J0 (p.p.t 0) (.ref (ad I 0)),dF J.p J5 (O 0) (.int (Int.negSucc (p.q (k - 1)).1) (p.q (k - 1)).2.1)] 2,row J13 (O 1) (.int 0 369) (.int 0 370) (.int 0 371) .none])
  (F:∀ p I O,(M p).ys p I O=.hb (Nat.ble (p.xs.push (.ref (ad I 7))).size 16777216) :: .hb (Nat.ble p.xs.size 16777216) :: (l6 p (eH p 0 k) k).map .hb) (N:∀ p I O,(M p).zs p I O=.hb true :: .hb true :: uL k true) :
  HRG J 11 (gu 1 2 f) (c4 J.p S S.opsV S.e++[(f,frO (iU J.p S y) 1)])
   (fun e L'=>e=.next∧∃ a u0 u1 lab,L'=c4 J.p S (S.opsV.push (.ref a)) (S.e + 1)++[(f,frO (iU J.p S y++[dF J.p J5 u0 lab]) 2),(a,row J13 u1 (.int 0 369) (.int 0 370) (.int 0 371) .none)]):=by
 refine exL ([S.p + 1158,S.d + 1158,S.o + 1158,S.l + 1158,f]:List Nat) fun l hl=>?_
 have m:∀ a∈l,1158≤a:=by
  intro a R
  rw [hl] at R
  simp only [b9,gv,dj] at R
  lia
 obtain ⟨p,s⟩:∃ p:SFm,p={ p:={ SFn.stand with S:=S,t:=fun w=>y },xs:=S.opsV,q:=qOf S }:=⟨_,rfl⟩
 have z:p.q=qOf S:=by rw [s]
 have r:p.xs=S.opsV:=by rw [s]
 have i:eH p 0 k=S.labels.map aa.labE:=by rw [← hk];exact MH p S z
 refine an4 (Y p) fun L W X m4 E=>?_
 obtain ⟨m5,T⟩:=E
 have hsz:S.opsV.size=S.n:=by show (S.ops.map _).length=_;rw [zt];exact S.hn
 have hn:=H.size
 have Q:=(aq.he (ay _) (run p) (ok p) (nuL l) (fun I' O g=>by
  rw [F,N,i,vb S p z r H k (by lia),r,hk,decide_eq_true rfl,aF (show S.opsV.size≤16777216 by lia),aF (show (S.opsV.push (.ref (ad I' 7))).size≤16777216 by rw [alw];lia)])).hr
 have hc:ah (M p).k (nuL l)=nuL l:=by rw [L,show 5=l.length by rw [hl];rfl];exact kA l
 rw [hc,m5] at Q
 have n0:∀ {I':ae8} (g:∀ j,j < (M p).k→I' j=nuL l j) (j a:Nat),l[j]? = some a→ad I' j=a:=fun g j a C=>by
  have K:j < 5:=by have:=(List.getElem?_eq_some_iff.mp C).1;rw [hl] at this;exact this
  exact dz m g C (by rw [L];exact K)
 have u:uN (S.labels.map aa.labE) (S.labels.map aa.labE).length=S.labelsO:=by
  rw [zt,← H.le];rfl
 have h:∀ (I':ae8),(∀ j,j < (M p).k→I' j=nuL l j)→∀ (xs:Array Value) (e:Nat) (fr:Obj),tc I' 0 (PM J.p p I' (eH p 0 k) xs e++[fr])=c4 J.p S xs e++[(f,fr)]:=fun I' g xs e fr=>by
  rw [i]
  show [(ad I' 0,ky (ad I' 1)),(ad I' 1,jF J.p p.p.S.tk (ad I' 2) (ad I' 3) (p.p.S.c + 1158) (.int (Int.ofNat p.p.S.regs) p.p.S.tr) (.int (Int.ofNat p.p.S.curs) p.p.S.tc) (.int (Int.ofNat p.p.S.slots) p.p.S.ts) (.int (Int.negSucc p.p.S.next) p.p.S.tn)),(ad I' 2,ab xs e),(ad I' 3,uN (S.labels.map aa.labE) (S.labels.map aa.labE).length),(ad I' 4,fr)]=_
  rw [n0 g 0 _ (by rw [hl];rfl),n0 g 1 _ (by rw [hl];rfl),n0 g 2 _ (by rw [hl];rfl),n0 g 3 _ (by rw [hl];rfl),n0 g 4 _ (by rw [hl];rfl),u,s]
  rfl
 have B:(M p).st p (nuL l)=gu 1 2 f:=by rw [D,aB m (j:=4) (by rw [hl];rfl)]
 rw [B] at Q
 refine (Q.perm (fv (?_:_=c4 J.p S S.opsV S.e++[(f,frO (iU J.p S y) 1)]))).mono m4 <| elA fun I' O' g=>?_
 · rw [A,h (nuL l) (fun w w=>rfl)]
   rw [aB m (j:=0) (by rw [hl];rfl),s]
   exact au _
 · refine ⟨G _ _ _,ad I' 5,ah 2 O' 0,ah 2 O' 1,.int (Int.negSucc (p.q (k - 1)).1) (p.q (k - 1)).2.1,?_⟩
   rw [v,T,L,W,X]
   have Z:∀ j,j < (M p).k→ah (5 + 1) I' j=nuL l j:=fun j C=>by rw [aJ (by lia)];exact g j C
   have e1:=h I' g (S.opsV.push (.ref (ad I' 5))) (S.e + 1) (frO (iU J.p S y++[dF J.p J5 (ah 2 O' 0) (.int (Int.negSucc (p.q (k - 1)).1) (p.q (k - 1)).2.1)]) 2)
   show tc I' 0 ([ky (ad I' 1),jF J.p p.p.S.tk (ad I' 2) (ad I' 3) (p.p.S.c + 1158) (.int (Int.ofNat p.p.S.regs) p.p.S.tr) (.int (Int.ofNat p.p.S.curs) p.p.S.tc) (.int (Int.ofNat p.p.S.slots) p.p.S.ts) (.int (Int.negSucc p.p.S.next) p.p.S.tn),ab (p.xs.push (.ref (ad I' 5))) (p.p.S.e + 1),uN (eH p 0 k) (eH p 0 k).length]++[frO [dF J.p J0 (p.p.t 0) (.ref (ad I' 0)),dF J.p J5 (ah 2 O' 0) (.int (Int.negSucc (p.q (k - 1)).1) (p.q (k - 1)).2.1)] 2]++[row J13 (ah 2 O' 1) (.int 0 369) (.int 0 370) (.int 0 371) .none])++[]=_
   rw [n0 g 0 _ (by rw [hl];rfl),r]
   have e2:∀ (a b:List Obj) (j:Nat),tc I' j (a++b)=tc I' j a++tc I' (j + a.length) b:=by
    intro a
    induction a with
    | nil=>intro b j;rfl
    | cons x a ih=>intro b j;show _ :: tc I' (j + 1) (a++b)=_ :: _;rw [ih];show _=_ :: (tc I' (j + 1) a++tc I' (j + (a.length + 1)) b);rw [show j + 1 + a.length=j + (a.length + 1) by lia]
   have e3:(S.p + 1158)=p.p.S.p + 1158:=by rw [s]
   have e4:p.p.t 0=y:=by rw [s]
   have e5:p.p.S.e=S.e:=by rw [s]
   rw [e2,au,e4,e5]
   exact (congrArg (·++[(ad I' 5,row J13 (ah 2 O' 1) (.int 0 369) (.int 0 370) (.int 0 371) .none)]) e1).trans (uG _ _ _)
end
theorem Dp:fnB=bu fnB 0 1++(bu fnB 1 2++(bu fnB 2 3++bu fnB 3 4)):=by kernel_rfl
def cG (u:Tok):Obj:=row J13 u (.int 0 369) (.int 0 370) (.int 0 371) .none
section
variable {J:WB}
theorem Oc (S:aa) (H:iM J.p S) (f:Nat) (c:1158≤f) (b:Tok) :
  HRG J 11 (gu 1 2 f) (c4 J.p S S.opsV S.e++[(f,frO (iU J.p S b) 1)])
   (fun e L'=>e=.next∧∃ a d g lab,L'=c4 J.p S (S.opsV.push (.ref a)) (S.e + 1)++[(f,frO (iU J.p S b++[dF J.p J5 d lab]) 2),(a,cG g)]):=by
 rcases H.k with hk | hk | hk | hk
 · exact kr (P:=J.p) S H 3 hk (fun z=>zC J.p) f c b (xf J) (by intros;exact tT) (fun p=>⟨rfl,rfl,rfl,ag rfl,rfl,fun z z=>rfl⟩) (fun z z=>rfl) (fun z z=>rfl) (fun z z z=>rfl) (fun z z z=>rfl) (fun z z z=>rfl) (fun z z z=>rfl)
 · exact kr (P:=J.p) S H 4 hk (fun z=>z7 J.p) f c b (w7 J) (by intros;exact tT) (fun p=>⟨rfl,rfl,rfl,ag rfl,rfl,fun z z=>rfl⟩) (fun z z=>rfl) (fun z z=>rfl) (fun z z z=>rfl) (fun z z z=>rfl) (fun z z z=>rfl) (fun z z z=>rfl)
 · exact kr (P:=J.p) S H 6 hk (fun z=>Al J.p) f c b (wT J) (by intros;exact tT) (fun p=>⟨rfl,rfl,rfl,ag rfl,rfl,fun z z=>rfl⟩) (fun z z=>rfl) (fun z z=>rfl) (fun z z z=>rfl) (fun z z z=>rfl) (fun z z z=>rfl) (fun z z z=>rfl)
 · exact kr (P:=J.p) S H 7 hk (fun z=>akR J.p) f c b (wZ J) (by intros;exact tT) (fun p=>⟨rfl,rfl,rfl,ag rfl,rfl,fun z z=>rfl⟩) (fun z z=>rfl) (fun z z=>rfl) (fun z z z=>rfl) (fun z z z=>rfl) (fun z z z=>rfl) (fun z z z=>rfl)
theorem NT (S:aa) (H:A5 J.p S) (f:Nat) (n:1158≤f) (l h:Tok) (lab:Value) :
  HRG J 13 (gu 2 3 f) ([(f,frO (iU J.p S l++[dF J.p J5 h lab]) 2)]++S.cells J.p)
   (fun e L'=>e=.next∧∃ t2 ep,L'=[(f,frO (iU J.p S l++[dF J.p J5 h lab,dF J.p J8 t2 (.ref (k9 S))]) ep)]++(iI S).cells J.p):=by
 refine exL ({ SFn.stand with S:=S,t:=fun j=>match j with | 0=>l | _=>h,lab:=lab }:SFn) fun p c=>?_
 have b:∀ a∈[f],1158≤a:=fun a m=>by rw [cv.mp m];exact n
 have g:ad (nuL [f]) 0=f:=aB b rfl
 have i:=aq.hr0 (ay _) (akY J p) (by intros;exact tT) rfl (nuL [f]) (fun I' O z=>hbT (bB (by rw [c];exact H)) rfl)
 have o:ah (wp J.p).k (nuL [f])=nuL [f]:=kA [f]
 rw [o] at i
 have d:(wp J.p).st p (nuL [f])=gu 2 3 f:=by show gu 2 3 (ad _ 0)=_;rw [g]
 rw [d] at i
 refine (i.perm (fv ?_)).mono (ag rfl) <| elB fun O=>?_
 · show [(ad (nuL [f]) 0,frO [dF _ J0 (p.t 0) (.ref (p.S.p + 1158)),dF _ J5 (p.t 1) p.lab] 2)]++p.S.cells _=_
   rw [g,c];rfl
 · refine ⟨rfl,ah (wp J.p).it O 0,ah (wp J.p).it O 1,?_⟩
   show [(ad (nuL [f]) 0,frO [dF _ J0 (p.t 0) (.ref (p.S.p + 1158)),dF _ J5 (p.t 1) p.lab,dF _ J8 (ah (wp J.p).it O 0) (.ref (k9 p.S))] (ah (wp J.p).it O 1))]++(iI p.S).cells _=_
   rw [g,c];rfl
theorem Mx (S:aa) (f:Nat) (n:1158≤f) (l i t2:Tok) (lab:Value) (o ep:Nat) :
  HRG J 13 (gu 3 4 f) ([(f,frO (iU J.p S l++[dF J.p J5 i lab,dF J.p J8 t2 (.ref o)]) ep)]++S.cells J.p)
   (fun e L'=>e=.ret (.ref (S.p + 1158))∧∃ M,L'=M++S.cells J.p):=by
 refine exL ({ SFn.stand with S:=S,t:=fun j=>match j with | 0=>l | 1=>i | _=>t2,lab:=lab,o:=o,ep:=ep }:SFn) fun p c=>?_
 have b:∀ a∈[f],1158≤a:=fun a m=>by rw [cv.mp m];exact n
 have h:ad (nuL [f]) 0=f:=aB b rfl
 have g:=aq.hr0 (ay _) (EP J p) (by intros;exact tT) rfl (nuL [f]) (fun I' O z=>rfl)
 have q:ah (Dj J.p).k (nuL [f])=nuL [f]:=kA [f]
 rw [q] at g
 have d:(Dj J.p).st p (nuL [f])=gu 3 4 f:=by show gu 3 4 (ad _ 0)=_;rw [h]
 rw [d] at g
 refine (g.perm (fv ?_)).mono (ag rfl) <| elB fun O=>?_
 · show [(ad (nuL [f]) 0,frO [dF _ J0 (p.t 0) (.ref (p.S.p + 1158)),dF _ J5 (p.t 1) p.lab,dF _ J8 (p.t 2) (.ref p.o)] p.ep)]++p.S.cells _=_
   rw [h,c];rfl
 · refine ⟨by show En.ret (.ref (p.S.p + 1158))=_;rw [c],tc (nuL [f]) 0 ((Dj J.p).post p (nuL [f]) (ah (Dj J.p).it O)),?_⟩
   have e1:p.S=S:=by rw [c]
   rw [← e1]
   rfl
theorem Ol (P:Params) (ls:List DictEntry) (u:Tok):jH P ls (cG u):=.inr ⟨J13,0,0,0,.none,fun j=>match j with | 10=>u | 11=>369 | 12=>370 | _=>371,rfl,(dr P).1⟩
theorem G9 (S:aa) (H:iM J.p S) :
  HRG J 16 (.code (.call (.ref 154) ⟨[.ref (S.p + 1158)],[]⟩)) (S.cells J.p)
   (fun e L'=>e=.ret (.ref (S.p + 1158))∧∃ a u M,L'=M++(iI (S.add (a,cG u))).cells J.p):=by
 refine exL ({ SFn.stand with S:=S }:SFn) fun p N=>?_
 have K:=((aq.he (ay _) (FI J p) (by intros;exact tT) (nuL []) (fun Z Z Z=>rfl)).hr).frame (S.cells J.p)
 have A:(kE J.p).st p (ah (kE J.p).k (nuL []))=.code (.call (.ref 154) ⟨[.ref (S.p + 1158)],[]⟩):=by
  show bx.code (.call (.ref 154) ⟨[.ref (p.S.p + 1158)],[]⟩)=_
  rw [N]
 rw [A] at K
 refine (K.mono (need':=16) (ag rfl) fun e L' h=>h).again <| elD fun I' O' Z=>?_
 refine ⟨.func fnB (fnE (ad I' 0)),rfl,rfl,?_⟩
 refine exL (ah (kE J.p).it O' 0) fun j G=>?_
 refine exL (ad I' 0) fun f D=>?_
 have y:1158≤f:=by rw [D];exact b8 _ _
 have R:(tc I' 0 ((kE J.p).post p (ah ((kE J.p).k + (kE J.p).q) I') (ah (kE J.p).it O'))++uU J.p ((kE J.p).postX p (ah ((kE J.p).k + (kE J.p).q) I') (ah (kE J.p).it O'))++S.cells J.p)=[(f,frO (iU J.p S j) 1)]++S.cells J.p:=by
  show ([(ad I' 0,frO [dF _ J0 (ah (kE J.p).it O' 0) (.ref (p.S.p + 1158))] 1)]++[])++S.cells _=_
  rw [← G,← D,N];rfl
 rw [R,← D]
 refine HR.of_has fun s Z=>?_
 refine ex4 H.last fun g w t a C=>?_
 refine ex3 C fun b c v d=>?_
 have z:1158≤w:=s (w,row J23 (t 10) (.int a (t 11)) (.int b (t 12)) (.int c (t 13)) v) (by
  refine u9 _ ?_
  rw [ku]
  refine u9 _ (uj _ ?_)
  rw [d]
  exact u9 _ (cv.mpr rfl))
 refine HR.func (P:=fun e L'=>e=.ret (.ref (S.p + 1158))∧∃ a u M,L'=M++(iI (S.add (a,cG u))).cells J.p) ?_ (fun e L' h=>⟨_,h.1⟩)
 rw [show (bx.tree (.func fnB (fnE f)) (blk fnB (fnE f)))=.tree (.func fnB (fnE f)) (blk (bu fnB 0 1++(bu fnB 1 2++(bu fnB 2 3++bu fnB 3 4))) (fnE f)) by rw [← Dp]]
 have Q:=((L6 (J:=J) S f w t a b c v g y z j d H.size).frame (g++S.xt)).perm (L':=[(f,frO (iU J.p S j) 1)]++S.cells J.p) (by
  rw [ku,d]
  exact ane (L:=[_,_,_]) (E:=[_,_]) (.a (.a (.l 0) (.c 0 (.c 1 .n))) (.a (.l 1) (.l 2))) (.a (.c 1 .n) (.a (.l 0) (.a (.a (.l 1) (.c 0 .n)) (.l 2)))) rfl)
 refine HR.blocks (Q.mono (need':=16) (ag rfl) fun e L' h=>h) fun e L' o=>?_
 obtain ⟨X,rfl,rfl,rfl⟩:=o
 refine ⟨rfl,?_⟩
 have T:=((Oc (J:=J) S H f y j).frame (S.ops++S.xt)).perm (L':=c4 J.p S S.opsV S.e++[(w,row J23 (t 10) (.int a (t 11)) (.int b (t 12)) (.int c (t 13)) v),(f,frO (iU J.p S j) 1)]++(g++S.xt)) (by
  rw [d]
  exact ane (L:=[_,_,_]) (E:=[_,_]) (.a (.a (.l 0) (.c 0 .n)) (.a (.a (.l 1) (.c 1 .n)) (.l 2))) (.a (.a (.l 0) (.c 1 (.c 0 .n))) (.a (.l 1) (.l 2))) rfl)
 refine HR.blocks (T.mono (need':=16) (ag rfl) fun e L' h=>h) fun e L' o=>?_
 obtain ⟨X,rfl,rfl,m,B,r,lab,rfl⟩:=o
 refine ⟨rfl,?_⟩
 refine exL (S.add (m,cG r)) fun S1 i=>?_
 have F:A5 J.p S1:=by
  rw [i]
  refine ⟨nk _,fun x hx=>?_,?_⟩
  · rcases uC.mp hx with hx | hx
    · exact H.rows x hx
    · rw [cv.mp hx];exact Ol _ _ _
  · show (S.ops++[(m,cG r)]).isEmpty=false
    simp
 have hv:S1.opsV=S.opsV.push (.ref m):=by
  rw [i]
  show (⟨(S.ops++[(m,cG r)]).map fun x=>Value.ref x.1⟩:Array Value)=(⟨S.ops.map fun x=>Value.ref x.1⟩:Array Value).push (.ref m)
  simp
 have W:=(NT (J:=J) S1 F f y j B lab).perm (L':=c4 J.p S (S.opsV.push (.ref m)) (S.e + 1)++[(f,frO (iU J.p S j++[dF J.p J5 B lab]) 2),(m,cG r)]++(S.ops++S.xt)) (by
  rw [ku,hv,i]
  exact ane (L:=[_,_]) (E:=[_,_,_,_,_,_]) (.a (.c 0 .n) (.a (.c 1 (.c 2 (.c 3 (.c 4 .n)))) (.a (.a (.l 0) (.c 5 .n)) (.l 1)))) (.a (.a (.c 1 (.c 2 (.c 3 (.c 4 .n)))) (.c 0 (.c 5 .n))) (.a (.l 0) (.l 1))) rfl)
 refine HR.blocks (W.mono (need':=16) (ag rfl) fun e L' h=>h) fun e L' o=>?_
 obtain ⟨rfl,t2,ep,rfl⟩:=o
 refine ⟨rfl,?_⟩
 refine (Mx (J:=J) (iI S1) f y j B t2 lab (k9 S1) ep).mono (ag rfl) fun e L' o=>?_
 obtain ⟨rfl,M,rfl⟩:=o
 exact ⟨by rw [i];rfl,m,r,M,by rw [i]⟩
end
def abd (J:WB):LG J where
 P:=Raw
 fs:=[]
 qt:=0
 q:=1
 it:=1
 need:=16
 ext:=Raw.mk
 obl _ p:=([.hb (cF (iM J.p (aj p.X))),.x p.X],[.hb true,.x (some (aj p.X))])
 code I p:=.call (.ref 154) ⟨[.ref ((aj p.X).p + 1158)],[]⟩
 pre I p:=[]
 preX p:=p.X
 post I O p:=[]
 postX I O p:=some (iI ((aj p.X).add (ad I 0,cG (O 0))))
 res I O p:=.ref ((aj p.X).p + 1158)
 qle:=Bt _
 olen _ _:=rfl
 len _ _ _:=rfl
 ok p I f _:=by
  obtain ⟨s,f⟩:=aU f
  have n:p.X=some (aj p.X):=by
   have:=(List.cons.inj f).1
   exact OV.x.inj this
  have key:=G9 (J:=J) (aj p.X) (dU s)
  refine HR.tx (nx:=false) (k:=0) (K:=fun I' O'=>_) ?_
  refine HR.of_has fun Z Z=>?_
  have l:(tc I 0 []++uU J.p p.X)=(aj p.X).cells J.p:=by rw [n];rfl
  show HR _ _ 16 (.code (.call (.ref 154) ⟨[.ref ((aj p.X).p + 1158)],[]⟩)) (tc I 0 []++uU J.p p.X) _
  rw [l]
  intro A R h g d tk os v m hb w B
  refine key A R h g d tk os v m hb w fun e F o c r i t z y=>?_
  obtain ⟨rfl,a,u,M,rfl⟩:=r
  have b:1158≤a:=(i.at_ (a,akz ((aj p.X).labels.map aa.labE) (cG u)) (u9 _ (by
   rw [ku]
   refine u9 _ (uj _ ?_)
   show _∈((aj p.X).ops++[(a,cG u)]).map _
   rw [eQ]
   exact u9 _ (cv.mpr rfl)))).2
  have E:ad (fun Z=>a - 1158) 0=a:=Nat.sub_add_cancel b
  refine B _ (uU J.p (some (iI ((aj p.X).add (a,cG u))))) o c ⟨fun Z=>a - 1158,fun Z=>u,fun j D=>absurd D (Ut _),rfl,?_⟩ (i.perm Mt).sub (fun x C=>t x (by rw [eQ];exact u9 _ C)) z y
  show _=tc _ 0 []++uU J.p (some (iI ((aj p.X).add (ad (ah 1 (fun Z=>a - 1158)) 0,cG (ah 1 (fun Z=>u) 0)))))
  rw [show ad (ah 1 (fun Z=>a - 1158)) 0=ad (fun Z=>a - 1158) 0 from rfl,E]
  rfl
def iiE (f c:Nat):Env:=⟨bf (at1 67),f,3,[(sv J16,c)],iiQ,some 1145,.ref 1144,some f,0⟩
noncomputable def d6 (e:DictEntry):Bool:=match e.key with
 | .str _ _=>true
 | _=>false
theorem anv {e:DictEntry} (h:d6 e=true):∃ s t,e.key=.str s t:=by
 delta d6 at h
 cases hk:e.key with
 | str s t=>exact ⟨s,t,rfl⟩
 | _=>rw [hk] at h;cases h
theorem gD {h:Heap} {a:Nat} {es:List DictEntry} {ep:Nat} (c:h.get? a=some (frO es ep)) (b:es.all d6=true):h.Ns a (nsFind ⟨es⟩):=by
 exact ⟨_,⟨es⟩,ep,c,rfl,fun e he=>anv (Gt.mp b e (Jt.mpr he)),fun z=>rfl⟩
theorem eD {M:Model} {A:Around} {E:Value→Shared→Prop} {s:Shared} {env:Env} {st:Stmt} {Q:Flow→Shared→Prop} (h:wpAny M A (exec st env) Q E s):wpAny M A (execs [st] env) Q E s:=by
 show wpAny M A (exec st env >>= _) Q E s
 refine av (Qn h (fun f b a=>?_) fun z z e=>e)
 cases f<;>exact jt a
theorem amG:∃ d e a c b f k,br iiB 1=.If (.Compare (.Name (sv J6) d) [.Eq] [.List [] e] a) [.Return (some (.Constant (.int 0) k c)) b] [] f:=
 ⟨⟨814,7,814,13⟩,⟨814,17,814,19⟩,⟨814,7,814,19⟩,⟨815,15,815,16⟩,⟨815,8,815,16⟩,⟨814,4,815,16⟩,0,by kernel_rfl⟩
theorem kP {env:Env} (h:(match env.scope.kind with | .function=>true | _=>false)=true):env.scope.kind=.function:=by
 cases hk:env.scope.kind<;>rw [hk] at h<;>first | rfl | cases h
theorem zo {w:World} {A:Around} {E:Value→Shared→Prop} {h:Heap} {g:Array GenState} {d:Drawn} {tk:Nat} {os:OsState} {env:Env} {p q m:Pos} {c:Sem Value} {es:List DictEntry} {ep l e:Nat} {xs:Array Value} {Q:Bool→Shared→Prop}
  (hk:env.scope.kind=.function) (hl:env.kindOf (sv J6)=some .local) (n:h.get? env.locals=some (frO es ep)) (r:es.all d6=true) (hv:nsFind ⟨es⟩ (sv J6)=some (.ref l)) (t:h.get? l=some (ab xs e)) (k:A.units < cLine)
  (K:∀ o i,Q xs.isEmpty ⟨h.push o,g,d,i,os⟩) :
  wpAny (model prog w) A (isTrue (.Compare (.Name (sv J6) p) [.Eq] [.List [] q] m) env c) Q E ⟨h,g,d,tk,os⟩:=by
 refine al2 (Tf (alv hk hl (gD n r) hv ?_)) rfl
 refine wpAny_List (wpAny_of_eq (a:=[]) rfl ⟨Bt _,?_⟩)
 have hb:(h.push { cls:=.type "list",data:=.seq ([]:List Value).toArray }).IsList h.objs.size #[]:=⟨_,Heap.get?_push_size _ rfl,rfl,_,rfl⟩
 have f:(h.push { cls:=.type "list",data:=.seq ([]:List Value).toArray }).IsList l xs:=⟨_,Heap.get?_push_of_some _ t,rfl,_,rfl⟩
 cases hz:xs.isEmpty with
 | true=>
  have b:xs.size=0:=by simpa [Array.isEmpty] using hz
  refine SeqAt.eq_listAt f hb (by rw [b];rfl) k (e:=fun z=>true) (fun j u s=>absurd s (Ut _)) ?_
  rw [b]
  rw [hz] at K
  exact alO (K _ _)
 | false=>
  have b:xs.size ≠ 0:=by simpa [Array.isEmpty] using hz
  refine SeqAt.eq_list_lengthsAt f hb (by simpa using b) k ?_
  rw [hz] at K
  exact alO (K _ _)
theorem pv {A:Around} {d:Nat} {c:Code} (a:Ctx A d) (hd:1≤d) (g:c.cUnits≤9):(A.under c).units < cLine:=by
 have e:=a.units
 have b:(A.under c).units=A.units + c.cUnits:=rfl
 have f:cLine=9900:=rfl
 lia
theorem Me {w:World} {top:Tr} (f c l e ep:Nat) (es:List DictEntry) (xs:Array Value) (y:es.all d6=true) (hv:nsFind ⟨es⟩ (sv J6)=some (.ref l)) :
  HR w top 5 (.tree (.func iiB (iiE f c)) (blk [br iiB 1] (iiE f c))) [(f,frO es ep),(l,ab xs e)]
   (fun en L'=>(match xs.isEmpty with | true=>∃ t,en=.ret (.int 0 t) | false=>en=.next)∧L'=[(f,frO es ep),(l,ab xs e)]):=by
 intro A R h g d tk os v H hb i K
 refine ex4 amG fun J F C E m=>?_
 refine ex3 m fun D G k j=>?_
 have x:=(i.at_ (f,frO es ep) (gw ..)).1
 have B:=(i.at_ (l,ab xs e) (kt _ (cv.mpr rfl))).1
 rw [jM,j]
 refine Vu (eD (wpAny_If (zo (es:=es) (ep:=ep) (l:=l) (e:=e) (xs:=xs) (kP (by kernel_rfl)) (by kernel_rfl) x y hv B (pv v (by decide) (ag rfl)) fun o n=>?_)))
 have u:Has (h.push o) [(f,frO es ep),(l,ab xs e)]:=⟨fun p s=>⟨Heap.get?_push_of_some _ (i.at_ p s).1,(i.at_ p s).2⟩,i.nd⟩
 cases hz:xs.isEmpty with
 | true=>
  rw [jW rfl]
  refine eD (alR (alT ?_))
  exact K (.ret (.int 0 n)) [(f,frO es ep),(l,ab xs e)] _ _ ⟨by rw [hz];exact ⟨_,rfl⟩,rfl⟩ u (fun a r=>.inl r) (fun b z q Z=>Heap.get?_push_of_some _ q) (by rw [Zt];exact Rt _)
 | false=>
  rw [b4 alz]
  refine wpAny_execs_nil ?_
  exact K .next [(f,frO es ep),(l,ab xs e)] _ _ ⟨by rw [hz],rfl⟩ u (fun a r=>.inl r) (fun b z q Z=>Heap.get?_push_of_some _ q) (by rw [Zt];exact Rt _)
structure SIs where
 v:Value
 lf:Value
 rg:Value
 s:Str
 xs:Array Value
 e:Nat
 l:Nat
 t:Nat→Tok
 ep:Nat
noncomputable def SIs.stand:SIs:=⟨.none,.none,.none,⟨#[]⟩,#[],0,0,fun z=>0,0⟩
inductive IQ where
 | nn [h:Nonempty Nat] | ii | ss | si
noncomputable def eIQ:Enu IQ:=⟨[.nn,.ii,.ss,.si],by intro v;cases v<;>repeat constructor⟩
noncomputable def IQ.q:IQ→VQ
 | .nn=>.nn
 | .ii=>.ii
 | .ss=>.ss
 | .si=>.si
inductive TQ where
 | nn [h:Nonempty Nat] | is | ss
noncomputable def eTQ:Enu TQ:=⟨[.nn,.is,.ss],by intro v;cases v<;>repeat constructor⟩
noncomputable def TQ.q:TQ→VQ
 | .nn=>.nn
 | .is=>.is
 | .ss=>.ss
noncomputable def Gr:Stmt→List Stmt
 | .If _ _ e _=>e
 | _=>[]
def cLq:AF→Expr
 | .txt=>Sf (br (yX (br (Gr (br (Gr (br iiB 0)) 0)) 0)) 0)
 | _=>Sf (br (yX (br iiB 0)) 0)
noncomputable def eLq (f:AF) (l:Nat) (fr:Option Nat):Env:=⟨dK (cLq f),l,3,[],iiQ,none,.ref 1144,fr,0⟩
def dk (q:VQ) (f:AF) (v:Value) (u:Tok):Value:=q.k2.as (aku (q.k1.as v) f.s u)
noncomputable def aj0 (p:SCq):XT:=none
def SJ (J:WB):List (SG J):=smS ((isR 1100 2,bq .n J) :: (isR 1100 2,bq .i J) :: (isR 1100 2,bq .s J) :: []:CL J)
def aaA (a:Bool) (P:Params):aq SCq:=akt.spec ((⟨4,0,0,0,2,39,false,[0,1,2,3],[],(match a with | true=>[1,0,1,1,1,3,1,1,11] | false=>aeG)⟩:akt) ) (fun p I=>.code (.compStart (cLq .int) 0 (.ref (ad I 0)) (.ref (ad I 2)) (eLq .int (ad I 3) p.fr))) (fun p I=>[liO (ad I 1) 0,ab ⟨[]⟩ p.e,ab ⟨[]⟩ 0,aE [] 0]) (aj0 ) (fun p I O=>.next) (fun p I O=>[liN 0,ab ⟨[]⟩ p.e,ab ⟨[]⟩ 0,aE [] 0]) (fun p I O=>none) (fun p I O=>[]) (fun p I O=>[])
theorem DI (J:WB) (p:SCq):(aaA J.a J.p).Runs J.w J.t (SJ J) p:=W2 (fun J=>(aaA J.a J.p)) (fun J=>(SJ J)) J p
def TO (v:IQ) (J:WB):List (SG J):=smS ((isR 1100 2,bq .n J) :: (isR 1100 2,bq .i J) :: (isR 1100 2,bq .s J) :: []:CL J)
noncomputable def Em (v:IQ):List Nat:=match v with | .nn=>[0] | .ii | .ss | .si=>[0,2]
noncomputable def Fg (v:IQ):List Nat:=match v with | .nn=>[0] | .ii | .ss | .si=>[0,2]
def CS:IQ→List Nat
 | .nn=>aeM
 | .ii=>adV
 | .si=>adV
 | .ss=>aeV
def EX:IQ→List Nat
 | .nn=>adU
 | .ii=>acO
 | .si=>acO
 | .ss=>ae3
def Zs (v:IQ) (a:Bool) (P:Params):aq SCq:=akt.spec ((⟨4,0,0,2,7,74,false,[0,1,2,3],(match a with | true=>Em v | false=>Fg v),(match a with | true=>CS v | false=>EX v)⟩:akt) ) (fun p I=>.code (.compStart (cLq .int) 0 (.ref (ad I 0)) (.ref (ad I 2)) (eLq .int (ad I 3) p.fr))) (fun p I=>[liO (ad I 1) 0,ab ⟨[v.q.k1.as (p.u 0)]⟩ p.e,ab ⟨[]⟩ 0,aE [] 0]) (fun p=>none) (fun p I O=>.next) (fun p I O=>[liN 1,ab ⟨[v.q.k1.as (p.u 0)]⟩ p.e,ab ⟨[dk v.q AF.int (p.u 0) (O 1)]⟩ 1,aE [dF P J24 (O 0) (v.q.k1.as (p.u 0))] 1]) (fun p I O=>none) (fun p I O=>[.hb (v8Of (v.q.k1.as (p.u 0))).isSome,.hb true,.hb (v.q.k2.is (aku (v.q.k1.as (p.u 0)) AF.int.s 0))]) (fun p I O=>hT 3)
theorem DH (v:IQ) (J:WB) (p:SCq):(Zs v J.a J.p).Runs J.w J.t (TO v J) p:=amL eIQ (fun v J=>Zs v J.a J.p) (fun v J=>TO v J) v J p
def UT (v:IQ × IQ) (J:WB):List (SG J):=smS ((isR 1100 2,bq .n J) :: (isR 1100 2,bq .i J) :: (isR 1100 2,bq .s J) :: []:CL J)
noncomputable def Eg (v:IQ × IQ):List Nat:=match v.1 with | .nn=>(match v.2 with | .nn=>[0] | .ii | .ss | .si=>[0,900000,5]) | .ii | .ss | .si=>(match v.2 with | .nn=>[0,2] | .ii | .ss | .si=>[0,2,5])
noncomputable def Ey (v:IQ × IQ):List Nat:=match v.1 with | .nn=>(match v.2 with | .nn=>[0] | .ii | .ss | .si=>[0,900000,5]) | .ii | .ss | .si=>(match v.2 with | .nn=>[0,2] | .ii | .ss | .si=>[0,2,5])
noncomputable def FB (v:IQ × IQ):List Nat:=match v.1 with | .nn=>(match v.2 with | .nn=>aeH | .ii=>adS | .ss=>aet | .si=>adS) | .ii=>(match v.2 with | .nn=>aeK | .ii=>(by walk_at "#_f'") | .ss=>adZ | .si=>(by walk_at "#_f'")) | .ss=>(match v.2 with | .nn=>aey | .ii=>aee | .ss=>aeg | .si=>aee) | .si=>(match v.2 with | .nn=>aeK | .ii=>(by walk_at "#_f'") | .ss=>adZ | .si=>(by walk_at "#_f'"))
noncomputable def DY (v:IQ × IQ):List Nat:=match v.1 with | .nn=>(match v.2 with | .nn=>adY | .ii=>aem | .ss=>aeX | .si=>aem) | .ii=>(match v.2 with | .nn=>ad2 | .ii=>(by walk_at "#gvf'") | .ss=>aeU | .si=>(by walk_at "#gvf'")) | .ss=>(match v.2 with | .nn=>aep | .ii=>ahB | .ss=>aei | .si=>ahB) | .si=>(match v.2 with | .nn=>ad2 | .ii=>(by walk_at "#gvf'") | .ss=>aeU | .si=>(by walk_at "#gvf'"))
def YB (v:IQ × IQ) (a:Bool) (P:Params):aq SCq:=akt.spec ((⟨4,0,0,3,7,109,false,[0,1,2,3],(match a with | true=>Eg v | false=>Ey v),(match a with | true=>FB v | false=>DY v)⟩:akt) ) (fun p I=>.code (.compStart (cLq .int) 0 (.ref (ad I 0)) (.ref (ad I 2)) (eLq .int (ad I 3) p.fr))) (fun p I=>[liO (ad I 1) 0,ab ⟨[v.1.q.k1.as (p.u 0),v.2.q.k1.as (p.u 1)]⟩ p.e,ab ⟨[]⟩ 0,aE [] 0]) (fun p=>none) (fun p I O=>.next) (fun p I O=>[liN 2,ab ⟨[v.1.q.k1.as (p.u 0),v.2.q.k1.as (p.u 1)]⟩ p.e,ab ⟨[dk v.1.q AF.int (p.u 0) (O 1),dk v.2.q AF.int (p.u 1) (O 2)]⟩ 2,aE [dF P J24 (O 0) (v.2.q.k1.as (p.u 1))] 1]) (fun p I O=>none) (fun p I O=>[.hb (v8Of (v.2.q.k1.as (p.u 1))).isSome,.hb true,.hb (v.2.q.k2.is (aku (v.2.q.k1.as (p.u 1)) AF.int.s 0)),.hb (v8Of (v.1.q.k1.as (p.u 0))).isSome,.hb true,.hb (v.1.q.k2.is (aku (v.1.q.k1.as (p.u 0)) AF.int.s 0))]) (fun p I O=>hT 6)
theorem E0 (v:IQ × IQ) (J:WB) (p:SCq):(YB v J.a J.p).Runs J.w J.t (UT v J) p:=amL (eIQ.pr eIQ) (fun v J=>YB v J.a J.p) (fun v J=>UT v J) v J p
def RQ (v:IQ × IQ × IQ) (J:WB):List (SG J):=smS ((isR 1100 2,bq .n J) :: (isR 1100 2,bq .i J) :: (isR 1100 2,bq .s J) :: []:CL J)
noncomputable def C7 (v:IQ × IQ × IQ):List Nat:=match v.2.1 with | .nn=>(match v.2.2 with | .nn=>(match v.1 with | .nn=>[0] | .ii | .ss | .si=>[0,2]) | .ii | .ss | .si=>(match v.1 with | .nn=>[0,900000,900000,8] | .ii | .ss | .si=>[0,2,900000,8])) | .ii | .ss | .si=>(match v.2.2 with | .nn=>(match v.1 with | .nn=>[0,900000,5] | .ii | .ss | .si=>[0,2,5]) | .ii | .ss | .si=>(match v.1 with | .nn=>[0,900000,5,8] | .ii | .ss | .si=>[0,2,5,8]))
noncomputable def CQ (v:IQ × IQ × IQ):List Nat:=match v.2.1 with | .nn=>(match v.2.2 with | .nn=>(match v.1 with | .nn=>[0] | .ii | .ss | .si=>[0,2]) | .ii | .ss | .si=>(match v.1 with | .nn=>[0,900000,900000,8] | .ii | .ss | .si=>[0,2,900000,8])) | .ii | .ss | .si=>(match v.2.2 with | .nn=>(match v.1 with | .nn=>[0,900000,5] | .ii | .ss | .si=>[0,2,5]) | .ii | .ss | .si=>(match v.1 with | .nn=>[0,900000,5,8] | .ii | .ss | .si=>[0,2,5,8]))
noncomputable def CY (v:IQ × IQ × IQ):List Nat:=match v.2.1 with | .nn=>(match v.2.2 with | .nn=>(match v.1 with | .nn=>aeL | .ii=>adt | .ss=>ae0 | .si=>adt) | .ii=>(match v.1 with | .nn=>aed | .ii=>aeZ | .ss=>adb | .si=>aeZ) | .ss=>(match v.1 with | .nn=>ae1 | .ii=>adx | .ss=>aez | .si=>adx) | .si=>(match v.1 with | .nn=>aed | .ii=>aeZ | .ss=>adb | .si=>aeZ)) | .ii=>(match v.2.2 with | .nn=>(match v.1 with | .nn=>adj | .ii=>ado | .ss=>adq | .si=>ado) | .ii=>(match v.1 with | .nn=>aeP | .ii=>(by walk_at "#_jv") | .ss=>aeQ | .si=>(by walk_at "#_jv")) | .ss=>(match v.1 with | .nn=>ad8 | .ii=>aef | .ss=>ac9 | .si=>aef) | .si=>(match v.1 with | .nn=>aeP | .ii=>(by walk_at "#_jv") | .ss=>aeQ | .si=>(by walk_at "#_jv"))) | .ss=>(match v.2.2 with | .nn=>(match v.1 with | .nn=>aeT | .ii=>adw | .ss=>aeB | .si=>adw) | .ii=>(match v.1 with | .nn=>ade | .ii=>aeq | .ss=>aeC | .si=>aeq) | .ss=>(match v.1 with | .nn=>aeY | .ii=>ad3 | .ss=>aeA | .si=>ad3) | .si=>(match v.1 with | .nn=>ade | .ii=>aeq | .ss=>aeC | .si=>aeq)) | .si=>(match v.2.2 with | .nn=>(match v.1 with | .nn=>adj | .ii=>ado | .ss=>adq | .si=>ado) | .ii=>(match v.1 with | .nn=>aeP | .ii=>(by walk_at "#_jv") | .ss=>aeQ | .si=>(by walk_at "#_jv")) | .ss=>(match v.1 with | .nn=>ad8 | .ii=>aef | .ss=>ac9 | .si=>aef) | .si=>(match v.1 with | .nn=>aeP | .ii=>(by walk_at "#_jv") | .ss=>aeQ | .si=>(by walk_at "#_jv")))
noncomputable def Dd (v:IQ × IQ × IQ):List Nat:=match v.2.1 with | .nn=>(match v.2.2 with | .nn=>(match v.1 with | .nn=>ad4 | .ii=>aeR | .ss=>adh | .si=>aeR) | .ii=>(match v.1 with | .nn=>aeO | .ii=>adl | .ss=>adD | .si=>adl) | .ss=>(match v.1 with | .nn=>adv | .ii=>adm | .ss=>ac2 | .si=>adm) | .si=>(match v.1 with | .nn=>aeO | .ii=>adl | .ss=>adD | .si=>adl)) | .ii=>(match v.2.2 with | .nn=>(match v.1 with | .nn=>aeS | .ii=>aev | .ss=>adK | .si=>aev) | .ii=>(match v.1 with | .nn=>aea | .ii=>(by walk_at "#gvjv") | .ss=>acV | .si=>(by walk_at "#gvjv")) | .ss=>(match v.1 with | .nn=>aeW | .ii=>adr | .ss=>adC | .si=>adr) | .si=>(match v.1 with | .nn=>aea | .ii=>(by walk_at "#gvjv") | .ss=>acV | .si=>(by walk_at "#gvjv"))) | .ss=>(match v.2.2 with | .nn=>(match v.1 with | .nn=>adi | .ii=>aeh | .ss=>adA | .si=>aeh) | .ii=>(match v.1 with | .nn=>aer | .ii=>aeb | .ss=>acT | .si=>aeb) | .ss=>(match v.1 with | .nn=>adn | .ii=>aen | .ss=>adH | .si=>aen) | .si=>(match v.1 with | .nn=>aer | .ii=>aeb | .ss=>acT | .si=>aeb)) | .si=>(match v.2.2 with | .nn=>(match v.1 with | .nn=>aeS | .ii=>aev | .ss=>adK | .si=>aev) | .ii=>(match v.1 with | .nn=>aea | .ii=>(by walk_at "#gvjv") | .ss=>acV | .si=>(by walk_at "#gvjv")) | .ss=>(match v.1 with | .nn=>aeW | .ii=>adr | .ss=>adC | .si=>adr) | .si=>(match v.1 with | .nn=>aea | .ii=>(by walk_at "#gvjv") | .ss=>acV | .si=>(by walk_at "#gvjv")))
def Wk (v:IQ × IQ × IQ) (a:Bool) (P:Params):aq SCq:=akt.spec ((⟨4,0,0,4,7,144,false,[0,1,2,3],(match a with | true=>C7 v | false=>CQ v),(match a with | true=>CY v | false=>Dd v)⟩:akt) ) (fun p I=>.code (.compStart (cLq .int) 0 (.ref (ad I 0)) (.ref (ad I 2)) (eLq .int (ad I 3) p.fr))) (fun p I=>[liO (ad I 1) 0,ab ⟨[v.1.q.k1.as (p.u 0),v.2.1.q.k1.as (p.u 1),v.2.2.q.k1.as (p.u 2)]⟩ p.e,ab ⟨[]⟩ 0,aE [] 0]) (fun p=>none) (fun p I O=>.next) (fun p I O=>[liN 3,ab ⟨[v.1.q.k1.as (p.u 0),v.2.1.q.k1.as (p.u 1),v.2.2.q.k1.as (p.u 2)]⟩ p.e,ab ⟨[dk v.1.q AF.int (p.u 0) (O 1),dk v.2.1.q AF.int (p.u 1) (O 2),dk v.2.2.q AF.int (p.u 2) (O 3)]⟩ 3,aE [dF P J24 (O 0) (v.2.2.q.k1.as (p.u 2))] 1]) (fun p I O=>none) (fun p I O=>[.hb (v8Of (v.2.2.q.k1.as (p.u 2))).isSome,.hb true,.hb (v.2.2.q.k2.is (aku (v.2.2.q.k1.as (p.u 2)) AF.int.s 0)),.hb (v8Of (v.2.1.q.k1.as (p.u 1))).isSome,.hb true,.hb (v.2.1.q.k2.is (aku (v.2.1.q.k1.as (p.u 1)) AF.int.s 0)),.hb (v8Of (v.1.q.k1.as (p.u 0))).isSome,.hb true,.hb (v.1.q.k2.is (aku (v.1.q.k1.as (p.u 0)) AF.int.s 0))]) (fun p I O=>hT 9)
theorem D3 (v:IQ × IQ × IQ) (J:WB) (p:SCq):(Wk v J.a J.p).Runs J.w J.t (RQ v J) p:=amL (eIQ.pr (eIQ.pr eIQ)) (fun v J=>Wk v J.a J.p) (fun v J=>RQ v J) v J p
noncomputable def ajV (p:SCq):XT:=none
def Tx (J:WB):List (SG J):=smS ((isR 1100 2,bq .n J) :: (isR 1100 2,bq .i J) :: (isR 1100 2,bq .s J) :: []:CL J)
def Ze (a:Bool) (P:Params):aq SCq:=akt.spec ((⟨4,0,0,0,2,39,false,[0,1,2,3],[],(match a with | true=>[1,0,1,1,1,3,1,1,11] | false=>aeG)⟩:akt) ) (fun p I=>.code (.compStart (cLq .txt) 0 (.ref (ad I 0)) (.ref (ad I 2)) (eLq .txt (ad I 3) p.fr))) (fun p I=>[liO (ad I 1) 0,ab ⟨[]⟩ p.e,ab ⟨[]⟩ 0,aE [] 0]) (ajV ) (fun p I O=>.next) (fun p I O=>[liN 0,ab ⟨[]⟩ p.e,ab ⟨[]⟩ 0,aE [] 0]) (fun p I O=>none) (fun p I O=>[]) (fun p I O=>[])
theorem E2 (J:WB) (p:SCq):(Ze J.a J.p).Runs J.w J.t (Tx J) p:=W2 (fun J=>(Ze J.a J.p)) (fun J=>(Tx J)) J p
def UU (v:TQ) (J:WB):List (SG J):=smS ((isR 1100 2,bq .n J) :: (isR 1100 2,bq .i J) :: (isR 1100 2,bq .s J) :: []:CL J)
noncomputable def CP:TQ→List Nat
 | .nn=>[0]
 | .is=>[0,2]
 | .ss=>[0,2]
noncomputable def DK:TQ→List Nat
 | .nn=>[0]
 | .is=>[0,2]
 | .ss=>[0,2]
def C4:TQ→List Nat
 | .nn=>aeM
 | .is=>aeV
 | .ss=>aeV
def C5:TQ→List Nat
 | .nn=>adU
 | .is=>ae3
 | .ss=>ae3
def aa0 (v:TQ) (a:Bool) (P:Params):aq SCq:=akt.spec ((⟨4,0,0,2,7,74,false,[0,1,2,3],(match a with | true=>CP v | false=>DK v),(match a with | true=>C4 v | false=>C5 v)⟩:akt) ) (fun p I=>.code (.compStart (cLq .txt) 0 (.ref (ad I 0)) (.ref (ad I 2)) (eLq .txt (ad I 3) p.fr))) (fun p I=>[liO (ad I 1) 0,ab ⟨[v.q.k1.as (p.u 0)]⟩ p.e,ab ⟨[]⟩ 0,aE [] 0]) (fun p=>none) (fun p I O=>.next) (fun p I O=>[liN 1,ab ⟨[v.q.k1.as (p.u 0)]⟩ p.e,ab ⟨[dk v.q AF.txt (p.u 0) (O 1)]⟩ 1,aE [dF P J24 (O 0) (v.q.k1.as (p.u 0))] 1]) (fun p I O=>none) (fun p I O=>[.hb (v8Of (v.q.k1.as (p.u 0))).isSome,.hb true,.hb (v.q.k2.is (aku (v.q.k1.as (p.u 0)) AF.txt.s 0))]) (fun p I O=>hT 3)
theorem Dy (v:TQ) (J:WB) (p:SCq):(aa0 v J.a J.p).Runs J.w J.t (UU v J) p:=amL eTQ (fun v J=>aa0 v J.a J.p) (fun v J=>UU v J) v J p
def US (v:TQ × TQ) (J:WB):List (SG J):=smS ((isR 1100 2,bq .n J) :: (isR 1100 2,bq .i J) :: (isR 1100 2,bq .s J) :: []:CL J)
noncomputable def C0 (v:TQ × TQ):List Nat:=match v.1 with | .nn=>(match v.2 with | .nn=>[0] | .is | .ss=>[0,900000,5]) | .is | .ss=>(match v.2 with | .nn=>[0,2] | .is | .ss=>[0,2,5])
noncomputable def FN (v:TQ × TQ):List Nat:=match v.1 with | .nn=>(match v.2 with | .nn=>[0] | .is | .ss=>[0,900000,5]) | .is | .ss=>(match v.2 with | .nn=>[0,2] | .is | .ss=>[0,2,5])
def Ff (v:TQ × TQ):List Nat:=match v.1 with | .nn=>(match v.2 with | .nn=>aeH | .is | .ss=>aet) | .is | .ss=>(match v.2 with | .nn=>aey | .is | .ss=>aeg)
def Ex (v:TQ × TQ):List Nat:=match v.1 with | .nn=>(match v.2 with | .nn=>adY | .is | .ss=>aeX) | .is | .ss=>(match v.2 with | .nn=>aep | .is | .ss=>aei)
def aaM (v:TQ × TQ) (a:Bool) (P:Params):aq SCq:=akt.spec ((⟨4,0,0,3,7,109,false,[0,1,2,3],(match a with | true=>C0 v | false=>FN v),(match a with | true=>Ff v | false=>Ex v)⟩:akt) ) (fun p I=>.code (.compStart (cLq .txt) 0 (.ref (ad I 0)) (.ref (ad I 2)) (eLq .txt (ad I 3) p.fr))) (fun p I=>[liO (ad I 1) 0,ab ⟨[v.1.q.k1.as (p.u 0),v.2.q.k1.as (p.u 1)]⟩ p.e,ab ⟨[]⟩ 0,aE [] 0]) (fun p=>none) (fun p I O=>.next) (fun p I O=>[liN 2,ab ⟨[v.1.q.k1.as (p.u 0),v.2.q.k1.as (p.u 1)]⟩ p.e,ab ⟨[dk v.1.q AF.txt (p.u 0) (O 1),dk v.2.q AF.txt (p.u 1) (O 2)]⟩ 2,aE [dF P J24 (O 0) (v.2.q.k1.as (p.u 1))] 1]) (fun p I O=>none) (fun p I O=>[.hb (v8Of (v.2.q.k1.as (p.u 1))).isSome,.hb true,.hb (v.2.q.k2.is (aku (v.2.q.k1.as (p.u 1)) AF.txt.s 0)),.hb (v8Of (v.1.q.k1.as (p.u 0))).isSome,.hb true,.hb (v.1.q.k2.is (aku (v.1.q.k1.as (p.u 0)) AF.txt.s 0))]) (fun p I O=>hT 6)
theorem EV (v:TQ × TQ) (J:WB) (p:SCq):(aaM v J.a J.p).Runs J.w J.t (US v J) p:=amL (eTQ.pr eTQ) (fun v J=>aaM v J.a J.p) (fun v J=>US v J) v J p
def Rx (v:TQ × TQ × TQ) (J:WB):List (SG J):=smS ((isR 1100 2,bq .n J) :: (isR 1100 2,bq .i J) :: (isR 1100 2,bq .s J) :: []:CL J)
noncomputable def Ds (v:TQ × TQ × TQ):List Nat:=match v.2.1 with | .nn=>(match v.2.2 with | .nn=>(match v.1 with | .nn=>[0] | .is | .ss=>[0,2]) | .is | .ss=>(match v.1 with | .nn=>[0,900000,900000,8] | .is | .ss=>[0,2,900000,8])) | .is | .ss=>(match v.2.2 with | .nn=>(match v.1 with | .nn=>[0,900000,5] | .is | .ss=>[0,2,5]) | .is | .ss=>(match v.1 with | .nn=>[0,900000,5,8] | .is | .ss=>[0,2,5,8]))
noncomputable def EH (v:TQ × TQ × TQ):List Nat:=match v.2.1 with | .nn=>(match v.2.2 with | .nn=>(match v.1 with | .nn=>[0] | .is | .ss=>[0,2]) | .is | .ss=>(match v.1 with | .nn=>[0,900000,900000,8] | .is | .ss=>[0,2,900000,8])) | .is | .ss=>(match v.2.2 with | .nn=>(match v.1 with | .nn=>[0,900000,5] | .is | .ss=>[0,2,5]) | .is | .ss=>(match v.1 with | .nn=>[0,900000,5,8] | .is | .ss=>[0,2,5,8]))
def Fc (v:TQ × TQ × TQ):List Nat:=match v.2.1 with | .nn=>(match v.2.2 with | .nn=>(match v.1 with | .nn=>aeL | .is | .ss=>ae0) | .is | .ss=>(match v.1 with | .nn=>ae1 | .is | .ss=>aez)) | .is | .ss=>(match v.2.2 with | .nn=>(match v.1 with | .nn=>aeT | .is | .ss=>aeB) | .is | .ss=>(match v.1 with | .nn=>aeY | .is | .ss=>aeA))
def FU (v:TQ × TQ × TQ):List Nat:=match v.2.1 with | .nn=>(match v.2.2 with | .nn=>(match v.1 with | .nn=>ad4 | .is | .ss=>adh) | .is | .ss=>(match v.1 with | .nn=>adv | .is | .ss=>ac2)) | .is | .ss=>(match v.2.2 with | .nn=>(match v.1 with | .nn=>adi | .is | .ss=>adA) | .is | .ss=>(match v.1 with | .nn=>adn | .is | .ss=>adH))
def VV (v:TQ × TQ × TQ) (a:Bool) (P:Params):aq SCq:=akt.spec ((⟨4,0,0,4,7,144,false,[0,1,2,3],(match a with | true=>Ds v | false=>EH v),(match a with | true=>Fc v | false=>FU v)⟩:akt) ) (fun p I=>.code (.compStart (cLq .txt) 0 (.ref (ad I 0)) (.ref (ad I 2)) (eLq .txt (ad I 3) p.fr))) (fun p I=>[liO (ad I 1) 0,ab ⟨[v.1.q.k1.as (p.u 0),v.2.1.q.k1.as (p.u 1),v.2.2.q.k1.as (p.u 2)]⟩ p.e,ab ⟨[]⟩ 0,aE [] 0]) (fun p=>none) (fun p I O=>.next) (fun p I O=>[liN 3,ab ⟨[v.1.q.k1.as (p.u 0),v.2.1.q.k1.as (p.u 1),v.2.2.q.k1.as (p.u 2)]⟩ p.e,ab ⟨[dk v.1.q AF.txt (p.u 0) (O 1),dk v.2.1.q AF.txt (p.u 1) (O 2),dk v.2.2.q AF.txt (p.u 2) (O 3)]⟩ 3,aE [dF P J24 (O 0) (v.2.2.q.k1.as (p.u 2))] 1]) (fun p I O=>none) (fun p I O=>[.hb (v8Of (v.2.2.q.k1.as (p.u 2))).isSome,.hb true,.hb (v.2.2.q.k2.is (aku (v.2.2.q.k1.as (p.u 2)) AF.txt.s 0)),.hb (v8Of (v.2.1.q.k1.as (p.u 1))).isSome,.hb true,.hb (v.2.1.q.k2.is (aku (v.2.1.q.k1.as (p.u 1)) AF.txt.s 0)),.hb (v8Of (v.1.q.k1.as (p.u 0))).isSome,.hb true,.hb (v.1.q.k2.is (aku (v.1.q.k1.as (p.u 0)) AF.txt.s 0))]) (fun p I O=>hT 9)
theorem C8 (v:TQ × TQ × TQ) (J:WB) (p:SCq):(VV v J.a J.p).Runs J.w J.t (Rx v J) p:=amL (eTQ.pr (eTQ.pr eTQ)) (fun v J=>VV v J.a J.p) (fun v J=>Rx v J) v J p
inductive SD where
 | n [h:Nonempty Nat] | i | t | b
noncomputable def eSD:Enu SD:=⟨[.n,.i,.t,.b],by intro v;cases v<;>repeat constructor⟩
def SD.v (t:Tok):SD→Value
 | .n=>.none
 | .i=>.str (sv J47) t
 | .t=>.str (sv J80) t
 | .b=>.str (sv aah) t
def ci (P:Params) (p:SIs) (v:Value) (l:Nat) (x y:SD):List DictEntry:=[dF P J2 (p.t 1) v,dF P J6 (p.t 2) (.ref l),dF P J26 (p.t 3) (x.v (p.t 5)),dF P J37 (p.t 4) (y.v (p.t 6))]
def iiT (i j f c:Nat):bx:=.tree (.func iiB (iiE f c)) (blk (bu iiB i j) (iiE f c))
inductive NP where
 | nn [h:Nonempty Nat] | nb | ii | tt | tb | bn | bt | bb
noncomputable def eNP:Enu NP:=⟨[.nn,.nb,.ii,.tt,.tb,.bn,.bt,.bb],tB (@NP.rec (fun z=>Nat) 0 1 2 3 4 5 6 7) (by intro v;cases v<;>rfl)⟩
noncomputable def NP.p:NP→SD × SD
 | .nn=>(.n,.n)
 | .nb=>(.n,.b)
 | .ii=>(.i,.i)
 | .tt=>(.t,.t)
 | .tb=>(.t,.b)
 | .bn=>(.b,.n)
 | .bt=>(.b,.t)
 | .bb=>(.b,.b)
inductive SR where
 | n [h:Nonempty Nat] | t | b
noncomputable def eSR:Enu SR:=⟨[.n,.t,.b],by intro v;cases v<;>repeat constructor⟩
noncomputable def SR.s:SR→SD
 | .n=>.n
 | .t=>.t
 | .b=>.b
noncomputable def qL:Nat→Nat
 | 0=>2
 | 1=>1
 | 2=>3
 | _=>4
noncomputable def iq:V8→IQ
 | .n=>.nn
 | .i0=>.ii
 | .i1=>.ii
 | .i2=>.ii
 | .s2=>.si
 | _=>.ss
noncomputable def tq:V8→TQ
 | .n=>.nn
 | .i0=>.is
 | .i1=>.is
 | .i2=>.is
 | _=>.ss
theorem eV (x:V8):(iq x).q=vq x .int:=by cases x<;>rfl
theorem eU (x:V8):(tq x).q=vq x .txt:=by cases x<;>rfl
def lq (f:AF):List Value→Nat→(Nat→Nat)→List Value
 | [],_,_=>[]
 | u :: us,k,O=>aku u f.s (O k) :: lq f us (k + 1) O
def Im (P:Params) (f:AF) (a:List Value) (e:Nat) (I O:ae8):List Obj:=[liN a.length,ab ⟨a⟩ e,ab ⟨lq f a 1 O⟩ a.length,VN P (I3 a) (O 0)]
theorem aC {u:Value} {x:V8} (h:v8Of u=some x) (f:AF) (t:Tok):(vq x f).k1.as u=u∧dk (vq x f) f u t=aku u f.s t∧(vq x f).k2.is (aku u f.s 0)=true:=by
 have e:=ew h
 rw [e]
 obtain ⟨k1,a⟩:=P3 x f (ak u)
 refine ⟨k1,?_,?_⟩
 · unfold dk
   rw [k1,nO,(Bh x f _ t).1]
 · rw [nO,(Bh x f _ 0).2]
section
variable {J:WB} {e:Nat} {fr:Option Nat} {I:ae8}
abbrev qg (J:WB) (f:AF) (e:Nat) (fr:Option Nat) (I:ae8) (a:List Value):Prop:=HTx true J.w J.t 12 4 (.compStart (cLq f) 0 (.ref (ad (ah 4 I) 0)) (.ref (ad (ah 4 I) 2)) (eLq f (ad (ah 4 I) 3) fr)) (tc I 0 [liO (ad (ah 4 I) 1) 0,ab ⟨a⟩ e,ab ⟨[]⟩ 0,aE [] 0]) I
 (fun I' O'=>(.none,tc I' 0 (Im J.p f a e (ah 4 I') (ah (1 + a.length) O'))))
theorem fa {need:Nat} {c:Code} {L L':XL} {K d:(Nat→Nat)→(Nat→Nat)→Value × XL} {w:World} {top:Tr} (H:HTx true w top need 4 c L I K) (hn:need≤12) (f:L=L') (b:∀ I' O',K I' O'=d I' O'):HTx true w top 12 4 c L' I d:=
 H.conv hn (fv f) id id fun I' O' a=>⟨a,by rw [b];rfl,by rw [b];exact b6 _⟩
theorem Yk  : qg J .int e fr I []:=by
 have H:=(aq.he (ay _) (DI  J ⟨fun z=>.none,⟨#[]⟩,fun z=>0,e,fr⟩) (by intros;exact tT) I fun z z z=>rfl).tx (nx:=true) (r:=fun z z=>.none)
 exact fa H (ag rfl) (au _) fun z z=>congrArg (Prod.mk _) (au _)
theorem alm (u:Value) (x:V8) (a:v8Of u=some x):qg J .int e fr I [u]:=by
 have H:=(aq.he (ay _) (DH (iq x) J ⟨fun j=>[u].getD j .none,⟨#[]⟩,fun z=>0,e,fr⟩) (by intros;exact tT) I fun z z z=>hbT (by show (v8Of ((iq x).q.k1.as u)).isSome=true;rw [eV,(aC a .int 0).1,a];rfl) (hbT rfl (hbT (by show (iq x).q.k2.is (aku ((iq x).q.k1.as u) (AF.s .int) 0)=true;rw [eV,(aC a .int 0).1,(aC a .int 0).2.2]) (rfl)))).tx (nx:=true) (r:=fun z z=>.none)
 refine fa H (ag rfl) ?_ fun I' O'=>?_
 · show tc I 0 [_,ab ⟨[(iq x).q.k1.as u]⟩ e,_,_]++[]=_
   simp only [eV,(aC a .int 0).1]
   exact au _
 · show (_,tc I' 0 [liN 1,ab ⟨[(iq x).q.k1.as u]⟩ e,ab ⟨[dk (iq x).q .int u (ah 2 O' 1)]⟩ 1,aE [dF _ J24 (ah 2 O' 0) ((iq x).q.k1.as u)] 1]++[])=_
   simp only [eV,(aC a .int 0).1,(aC a .int _).2.1]
   exact congrArg (Prod.mk _) (au _)
theorem aa3 (u:Value) (x:V8) (a:v8Of u=some x) (v:Value) (y:V8) (hv:v8Of v=some y):qg J .int e fr I [u,v]:=by
 have H:=(aq.he (ay _) (E0 (iq x,iq y) J ⟨fun j=>[u,v].getD j .none,⟨#[]⟩,fun z=>0,e,fr⟩) (by intros;exact tT) I fun z z z=>hbT (by show (v8Of ((iq y).q.k1.as v)).isSome=true;rw [eV,(aC hv .int 0).1,hv];rfl) (hbT rfl (hbT (by show (iq y).q.k2.is (aku ((iq y).q.k1.as v) (AF.s .int) 0)=true;rw [eV,(aC hv .int 0).1,(aC hv .int 0).2.2]) (hbT (by show (v8Of ((iq x).q.k1.as u)).isSome=true;rw [eV,(aC a .int 0).1,a];rfl) (hbT rfl (hbT (by show (iq x).q.k2.is (aku ((iq x).q.k1.as u) (AF.s .int) 0)=true;rw [eV,(aC a .int 0).1,(aC a .int 0).2.2]) (rfl))))))).tx (nx:=true) (r:=fun z z=>.none)
 refine fa H (ag rfl) ?_ fun I' O'=>?_
 · show tc I 0 [_,ab ⟨[(iq x).q.k1.as u,(iq y).q.k1.as v]⟩ e,_,_]++[]=_
   simp only [eV,(aC a .int 0).1,(aC hv .int 0).1]
   exact au _
 · show (_,tc I' 0 [liN 2,ab ⟨[(iq x).q.k1.as u,(iq y).q.k1.as v]⟩ e,ab ⟨[dk (iq x).q .int u (ah 3 O' 1),dk (iq y).q .int v (ah 3 O' 2)]⟩ 2,aE [dF _ J24 (ah 3 O' 0) ((iq y).q.k1.as v)] 1]++[])=_
   simp only [eV,(aC a .int 0).1,(aC hv .int 0).1,(aC a .int _).2.1,(aC hv .int _).2.1]
   exact congrArg (Prod.mk _) (au _)
theorem VF (u:Value) (x:V8) (a:v8Of u=some x) (v:Value) (y:V8) (hv:v8Of v=some y) (z:Value) (q:V8) (hz:v8Of z=some q):qg J .int e fr I [u,v,z]:=by
 have H:=(aq.he (ay _) (D3 (iq x,iq y,iq q) J ⟨fun j=>[u,v,z].getD j .none,⟨#[]⟩,fun Z=>0,e,fr⟩) (by intros;exact tT) I fun Z Z Z=>hbT (by show (v8Of ((iq q).q.k1.as z)).isSome=true;rw [eV,(aC hz .int 0).1,hz];rfl) (hbT rfl (hbT (by show (iq q).q.k2.is (aku ((iq q).q.k1.as z) (AF.s .int) 0)=true;rw [eV,(aC hz .int 0).1,(aC hz .int 0).2.2]) (hbT (by show (v8Of ((iq y).q.k1.as v)).isSome=true;rw [eV,(aC hv .int 0).1,hv];rfl) (hbT rfl (hbT (by show (iq y).q.k2.is (aku ((iq y).q.k1.as v) (AF.s .int) 0)=true;rw [eV,(aC hv .int 0).1,(aC hv .int 0).2.2]) (hbT (by show (v8Of ((iq x).q.k1.as u)).isSome=true;rw [eV,(aC a .int 0).1,a];rfl) (hbT rfl (hbT (by show (iq x).q.k2.is (aku ((iq x).q.k1.as u) (AF.s .int) 0)=true;rw [eV,(aC a .int 0).1,(aC a .int 0).2.2]) (rfl)))))))))).tx (nx:=true) (r:=fun Z Z=>.none)
 refine fa H (ag rfl) ?_ fun I' O'=>?_
 · show tc I 0 [_,ab ⟨[(iq x).q.k1.as u,(iq y).q.k1.as v,(iq q).q.k1.as z]⟩ e,_,_]++[]=_
   simp only [eV,(aC a .int 0).1,(aC hv .int 0).1,(aC hz .int 0).1]
   exact au _
 · show (_,tc I' 0 [liN 3,ab ⟨[(iq x).q.k1.as u,(iq y).q.k1.as v,(iq q).q.k1.as z]⟩ e,ab ⟨[dk (iq x).q .int u (ah 4 O' 1),dk (iq y).q .int v (ah 4 O' 2),dk (iq q).q .int z (ah 4 O' 3)]⟩ 3,aE [dF _ J24 (ah 4 O' 0) ((iq q).q.k1.as z)] 1]++[])=_
   simp only [eV,(aC a .int 0).1,(aC hv .int 0).1,(aC hz .int 0).1,(aC a .int _).2.1,(aC hv .int _).2.1,(aC hz .int _).2.1]
   exact congrArg (Prod.mk _) (au _)
theorem XG  : qg J .txt e fr I []:=by
 have H:=(aq.he (ay _) (E2  J ⟨fun z=>.none,⟨#[]⟩,fun z=>0,e,fr⟩) (by intros;exact tT) I fun z z z=>rfl).tx (nx:=true) (r:=fun z z=>.none)
 exact fa H (ag rfl) (au _) fun z z=>congrArg (Prod.mk _) (au _)
theorem ZH (u:Value) (x:V8) (a:v8Of u=some x):qg J .txt e fr I [u]:=by
 have H:=(aq.he (ay _) (Dy (tq x) J ⟨fun j=>[u].getD j .none,⟨#[]⟩,fun z=>0,e,fr⟩) (by intros;exact tT) I fun z z z=>hbT (by show (v8Of ((tq x).q.k1.as u)).isSome=true;rw [eU,(aC a .txt 0).1,a];rfl) (hbT rfl (hbT (by show (tq x).q.k2.is (aku ((tq x).q.k1.as u) (AF.s .txt) 0)=true;rw [eU,(aC a .txt 0).1,(aC a .txt 0).2.2]) (rfl)))).tx (nx:=true) (r:=fun z z=>.none)
 refine fa H (ag rfl) ?_ fun I' O'=>?_
 · show tc I 0 [_,ab ⟨[(tq x).q.k1.as u]⟩ e,_,_]++[]=_
   simp only [eU,(aC a .txt 0).1]
   exact au _
 · show (_,tc I' 0 [liN 1,ab ⟨[(tq x).q.k1.as u]⟩ e,ab ⟨[dk (tq x).q .txt u (ah 2 O' 1)]⟩ 1,aE [dF _ J24 (ah 2 O' 0) ((tq x).q.k1.as u)] 1]++[])=_
   simp only [eU,(aC a .txt 0).1,(aC a .txt _).2.1]
   exact congrArg (Prod.mk _) (au _)
theorem aax (u:Value) (x:V8) (a:v8Of u=some x) (v:Value) (y:V8) (hv:v8Of v=some y):qg J .txt e fr I [u,v]:=by
 have H:=(aq.he (ay _) (EV (tq x,tq y) J ⟨fun j=>[u,v].getD j .none,⟨#[]⟩,fun z=>0,e,fr⟩) (by intros;exact tT) I fun z z z=>hbT (by show (v8Of ((tq y).q.k1.as v)).isSome=true;rw [eU,(aC hv .txt 0).1,hv];rfl) (hbT rfl (hbT (by show (tq y).q.k2.is (aku ((tq y).q.k1.as v) (AF.s .txt) 0)=true;rw [eU,(aC hv .txt 0).1,(aC hv .txt 0).2.2]) (hbT (by show (v8Of ((tq x).q.k1.as u)).isSome=true;rw [eU,(aC a .txt 0).1,a];rfl) (hbT rfl (hbT (by show (tq x).q.k2.is (aku ((tq x).q.k1.as u) (AF.s .txt) 0)=true;rw [eU,(aC a .txt 0).1,(aC a .txt 0).2.2]) (rfl))))))).tx (nx:=true) (r:=fun z z=>.none)
 refine fa H (ag rfl) ?_ fun I' O'=>?_
 · show tc I 0 [_,ab ⟨[(tq x).q.k1.as u,(tq y).q.k1.as v]⟩ e,_,_]++[]=_
   simp only [eU,(aC a .txt 0).1,(aC hv .txt 0).1]
   exact au _
 · show (_,tc I' 0 [liN 2,ab ⟨[(tq x).q.k1.as u,(tq y).q.k1.as v]⟩ e,ab ⟨[dk (tq x).q .txt u (ah 3 O' 1),dk (tq y).q .txt v (ah 3 O' 2)]⟩ 2,aE [dF _ J24 (ah 3 O' 0) ((tq y).q.k1.as v)] 1]++[])=_
   simp only [eU,(aC a .txt 0).1,(aC hv .txt 0).1,(aC a .txt _).2.1,(aC hv .txt _).2.1]
   exact congrArg (Prod.mk _) (au _)
theorem ZA (u:Value) (x:V8) (a:v8Of u=some x) (v:Value) (y:V8) (hv:v8Of v=some y) (z:Value) (q:V8) (hz:v8Of z=some q):qg J .txt e fr I [u,v,z]:=by
 have H:=(aq.he (ay _) (C8 (tq x,tq y,tq q) J ⟨fun j=>[u,v,z].getD j .none,⟨#[]⟩,fun Z=>0,e,fr⟩) (by intros;exact tT) I fun Z Z Z=>hbT (by show (v8Of ((tq q).q.k1.as z)).isSome=true;rw [eU,(aC hz .txt 0).1,hz];rfl) (hbT rfl (hbT (by show (tq q).q.k2.is (aku ((tq q).q.k1.as z) (AF.s .txt) 0)=true;rw [eU,(aC hz .txt 0).1,(aC hz .txt 0).2.2]) (hbT (by show (v8Of ((tq y).q.k1.as v)).isSome=true;rw [eU,(aC hv .txt 0).1,hv];rfl) (hbT rfl (hbT (by show (tq y).q.k2.is (aku ((tq y).q.k1.as v) (AF.s .txt) 0)=true;rw [eU,(aC hv .txt 0).1,(aC hv .txt 0).2.2]) (hbT (by show (v8Of ((tq x).q.k1.as u)).isSome=true;rw [eU,(aC a .txt 0).1,a];rfl) (hbT rfl (hbT (by show (tq x).q.k2.is (aku ((tq x).q.k1.as u) (AF.s .txt) 0)=true;rw [eU,(aC a .txt 0).1,(aC a .txt 0).2.2]) (rfl)))))))))).tx (nx:=true) (r:=fun Z Z=>.none)
 refine fa H (ag rfl) ?_ fun I' O'=>?_
 · show tc I 0 [_,ab ⟨[(tq x).q.k1.as u,(tq y).q.k1.as v,(tq q).q.k1.as z]⟩ e,_,_]++[]=_
   simp only [eU,(aC a .txt 0).1,(aC hv .txt 0).1,(aC hz .txt 0).1]
   exact au _
 · show (_,tc I' 0 [liN 3,ab ⟨[(tq x).q.k1.as u,(tq y).q.k1.as v,(tq q).q.k1.as z]⟩ e,ab ⟨[dk (tq x).q .txt u (ah 4 O' 1),dk (tq y).q .txt v (ah 4 O' 2),dk (tq q).q .txt z (ah 4 O' 3)]⟩ 3,aE [dF _ J24 (ah 4 O' 0) ((tq q).q.k1.as z)] 1]++[])=_
   simp only [eU,(aC a .txt 0).1,(aC hv .txt 0).1,(aC hz .txt 0).1,(aC a .txt _).2.1,(aC hv .txt _).2.1,(aC hz .txt _).2.1]
   exact congrArg (Prod.mk _) (au _)
def AF.ctorIdx:AF→Nat:=@AF.rec (fun z=>Nat) 0 1 2
theorem Ti (f:AF) (i:f ≠ .num) (d:List Value) (hl:d.length≤3) (hk:∀ u∈d,(v8Of u).isSome=true):qg J f e fr I d:=by
 have a:∀ u∈d,∃ x,v8Of u=some x:=fun u j=>lw.mp (hk u j)
 cases f with
 | num=>exact absurd rfl i
 | int=>
  match d,hl,a with
  | [],_,_=>exact Yk
  | [u],_,a=>obtain ⟨x,b⟩:=a u (by simp);exact alm u x b
  | [u,v],_,a=>obtain ⟨x,b⟩:=a u (by simp);obtain ⟨y,c⟩:=a v (by simp);exact aa3 u x b v y c
  | [u,v,z],_,a=>obtain ⟨x,b⟩:=a u (by simp);obtain ⟨y,c⟩:=a v (by simp);obtain ⟨q,g⟩:=a z (by simp);exact VF u x b v y c z q g
  | _ :: _ :: _ :: _ :: _,h,_=>simp at h
 | txt=>
  match d,hl,a with
  | [],_,_=>exact XG
  | [u],_,a=>obtain ⟨x,b⟩:=a u (by simp);exact ZH u x b
  | [u,v],_,a=>obtain ⟨x,b⟩:=a u (by simp);obtain ⟨y,c⟩:=a v (by simp);exact aax u x b v y c
  | [u,v,z],_,a=>obtain ⟨x,b⟩:=a u (by simp);obtain ⟨y,c⟩:=a v (by simp);obtain ⟨q,g⟩:=a z (by simp);exact ZA u x b v y c z q g
  | _ :: _ :: _ :: _ :: _,h,_=>simp at h
end
def Wi (f:AF) (d:f ≠ .num) (n:Nat) (hn:n≤3) (q:ae8) (J:WB):LG J where
 nx:=true
 P:=Raw
 fs:=[.num (q 0),.num (q 1),.num (q 2),.num (q 3)]
 qt:=0
 q:=0
 it:=1 + n
 need:=12
 ext:=Raw.mk
 obl _ p:=([.hb (cK (itN p 1 0 n))],[.hb true])
 code I p:=.compStart (cLq f) 0 (.ref (ad I 0)) (.ref (ad I 2)) (eLq f (ad I 3) (CN p.c))
 pre I p:=[liO (ad I 1) 0,ab ⟨itN p 1 0 n⟩ (ao [uF p.os 1]).2,ab ⟨[]⟩ 0,aE [] 0]
 preX p:=p.X
 post I O p:=Im J.p f (itN p 1 0 n) (ao [uF p.os 1]).2 I O
 postX _ _ p:=p.X
 res _ _ _:=.none
 qle:=ai _
 olen _ _:=rfl
 len I O p:=rfl
 ok p I hc _:=by
  have a:=hb1 hc
  have H:=(Ti (J:=J) (I:=I) (e:=(ao [uF p.os 1]).2) (fr:=CN p.c) f d (itN p 1 0 n) (by rw [jo];exact hn) (fun u b=>Gt.mp a u b)).frame (uU J.p p.X)
  unfold qg at H
  rw [jo] at H
  exact H
def Us (v:NP) (J:WB):List (SG J):=smS ([]:CL J)
noncomputable def M7:NP→List Nat
 | .nn=>(by walk_at "#nmnm")
 | .nb=>[1,0,0,1,0,1,0,0,1,0]
 | .ii=>(by walk_at "#JJJ")
 | .tt=>[1,0,1,0,1,0,1,1,0,1]
 | .tb=>[1,0,1,0,1,0,1,1,0]
 | .bn=>[1,0,1,0,0,1,0,1,0,0]
 | .bt=>[1,0,1,0,1,0,1,0,1]
 | .bb=>[1,0,1,0,1,0,1,0]
def abb (v:NP) (P:Params):aq SIs:=akt.spec ((⟨2,0,0,0,2,71,false,[0,1],[],M7 v⟩:akt) ) (fun p I=>iiT 0 1 (ad I 0) p.l) (fun p I=>[frO (ci P p p.v (ad I 1) v.p.1 v.p.2) 4,ab p.xs p.e]) (fun p=>none) (fun p I O=>.next) (fun p I O=>[frO (ci P p p.v (ad I 1) v.p.1 v.p.2) 4,ab p.xs p.e]) (fun p I O=>none) (fun p I O=>[]) (fun p I O=>[])
theorem CW (v:NP) (J:WB) (p:SIs):(abb v J.p).Runs J.w J.t (Us v J) p:=amK eNP (fun v J=>abb v J.p) (fun v J=>Us v J) v J p
def NW (v:SR × IQ) (J:WB):List (SG J):=smS ((isR 1100 2,bq v.2.q.k2 J) :: []:CL J)
noncomputable def G3 (v:SR × IQ):List Nat:=match v.2 with | .nn=>[] | .ii | .ss | .si=>[4]
noncomputable def KA (v:SR × IQ):List Nat:=match v.1 with | .n=>ady | .t | .b=>(by walk_at "#JBnZ")
def Qp (v:SR × IQ) (P:Params):aq SIs:=akt.spec ((⟨2,0,0,1,7,66,false,[0,1],G3 v,KA v⟩:akt) ) (fun p I=>iiT 0 1 (ad I 0) p.l) (fun p I=>[frO (ci P p (v.2.q.k1.as p.v) (ad I 1) v.1.s .i) 4,ab p.xs p.e]) (fun p=>none) (fun p I O=>.next) (fun p I O=>[frO (ci P p (dk v.2.q .int p.v (O 0)) (ad I 1) v.1.s .i) 4,ab p.xs p.e]) (fun p I O=>none) (fun p I O=>[.hb (v8Of (v.2.q.k1.as p.v)).isSome,.hb true,.hb (v.2.q.k2.is (aku (v.2.q.k1.as p.v) AF.int.s 0))]) (fun p I O=>hT 3)
theorem akQ (v:SR × IQ) (J:WB) (p:SIs):(Qp v J.p).Runs J.w J.t (NW v J) p:=amK (eSR.pr eIQ) (fun v J=>Qp v J.p) (fun v J=>NW v J) v J p
def Mq (v:TQ) (J:WB):List (SG J):=smS ((isR 1100 2,bq v.q.k2 J) :: []:CL J)
noncomputable def HA:TQ→List Nat
 | .nn=>[]
 | .is=>[5]
 | .ss=>[5]
def Pj (v:TQ) (P:Params):aq SIs:=akt.spec ((⟨2,0,0,1,7,79,false,[0,1],HA v,(by walk_at "#fDfD4nZ")⟩:akt) ) (fun p I=>iiT 0 1 (ad I 0) p.l) (fun p I=>[frO (ci P p (v.q.k1.as p.v) (ad I 1) .n .t) 4,ab p.xs p.e]) (fun p=>none) (fun p I O=>.next) (fun p I O=>[frO (ci P p (dk v.q .txt p.v (O 0)) (ad I 1) .n .t) 4,ab p.xs p.e]) (fun p I O=>none) (fun p I O=>[.hb (v8Of (v.q.k1.as p.v)).isSome,.hb true,.hb (v.q.k2.is (aku (v.q.k1.as p.v) AF.txt.s 0))]) (fun p I O=>hT 3)
theorem yg (v:TQ) (J:WB) (p:SIs):(Pj v J.p).Runs J.w J.t (Mq v J) p:=amK eTQ (fun v J=>Pj v J.p) (fun v J=>Mq v J) v J p
def NA (v:SR × N4) (J:WB):List (SG J):=smS ((of,Wi .int (fun h=>nomatch h) v.2.n v.2.le qL J) :: []:CL J)
noncomputable def IT (v:SR × N4):List Nat:=match v.2 with | .n0=>[] | .n1=>[3] | .n2=>[3,4] | .n3=>[3,4,5]
noncomputable def IK (v:SR × N4):List Nat:=match v.2 with | .n0=>(match v.1 with | .n=>(by walk_at "#komi*") | .t | .b=>adE) | .n1 | .n2 | .n3=>(match v.1 with | .n=>acQ | .t | .b=>(by walk_at "#JmiF"))
def Qz (v:SR × N4) (P:Params):aq SIs:=akt.spec ((⟨2,1,1,3,14,64,false,[0,1,3],IT v,IK v⟩:akt) ) (fun p I=>iiT 0 1 (ad I 0) p.l) (fun p I=>[frO (ci P p p.v (ad I 1) .i v.1.s) 4,ab ⟨itV p.xs 0 v.2.n⟩ p.e]) (fun p=>none) (fun p I O=>.next) (fun p I O=>[frO (ci P p p.v (ad I 2) .i v.1.s) 4,ab ⟨itV p.xs 0 v.2.n⟩ p.e,ab ⟨lq AF.int (itV p.xs 0 v.2.n) 0 O⟩ v.2.n]) (fun p I O=>none) (fun p I O=>[.hb (cK (itV p.xs 0 v.2.n))]) (fun p I O=>[.hb true])
theorem z9 (v:SR × N4) (J:WB) (p:SIs):(Qz v J.p).Runs J.w J.t (NA v J) p:=amK (eSR.pr eN4) (fun v J=>Qz v J.p) (fun v J=>NA v J) v J p
def MI (v:N4) (J:WB):List (SG J):=smS ((of,Wi .txt (fun h=>nomatch h) v.n v.le qL J) :: []:CL J)
noncomputable def HJ:N4→List Nat
 | .n0=>[]
 | .n1=>[4]
 | .n2=>[4,5]
 | .n3=>[4,5,6]
noncomputable def Hd (v:N4):List Nat:=match v with | .n0=>(by walk_at "#kodReBkS*") | .n1 | .n2 | .n3=>(by walk_at "#kodReBkSF")
def Pe (v:N4) (P:Params):aq SIs:=akt.spec ((⟨2,1,1,3,14,77,false,[0,1,3],HJ v,Hd v⟩:akt) ) (fun p I=>iiT 0 1 (ad I 0) p.l) (fun p I=>[frO (ci P p p.v (ad I 1) .t .n) 4,ab ⟨itV p.xs 0 v.n⟩ p.e]) (fun p=>none) (fun p I O=>.next) (fun p I O=>[frO (ci P p p.v (ad I 2) .t .n) 4,ab ⟨itV p.xs 0 v.n⟩ p.e,ab ⟨lq AF.txt (itV p.xs 0 v.n) 0 O⟩ v.n]) (fun p I O=>none) (fun p I O=>[.hb (cK (itV p.xs 0 v.n))]) (fun p I O=>[.hb true])
theorem ym (v:N4) (J:WB) (p:SIs):(Pe v J.p).Runs J.w J.t (MI v J) p:=amK eN4 (fun v J=>Pe v J.p) (fun v J=>MI v J) v J p
def hasN:List Value→Bool
 | []=>false
 | v :: l=>yT v || hasN l
theorem NG (x:V8) (t:Tok) (A:Around) (s:Shared):SeqAt.EqAt A s (x.v t) .none (yT (x.v t)):=by
 cases x with
 | n=>show SeqAt.EqAt A s .none .none true;exact SeqAt.EqAt.same .none
 | i0=>show SeqAt.EqAt A s (.int 0 t) .none false;exact alW _ _
 | i1=>show SeqAt.EqAt A s (.int 1 t) .none false;exact alW _ _
 | i2=>show SeqAt.EqAt A s (.int 2 t) .none false;exact alW _ _
 | a=>show SeqAt.EqAt A s (.str _ t) .none false;exact alt _ _
 | A=>show SeqAt.EqAt A s (.str _ t) .none false;exact alt _ _
 | s2=>show SeqAt.EqAt A s (.str _ t) .none false;exact alt _ _
 | b=>show SeqAt.EqAt A s (.str _ t) .none false;exact alt _ _
 | s0=>show SeqAt.EqAt A s (.str _ t) .none false;exact alt _ _
 | s1=>show SeqAt.EqAt A s (.str _ t) .none false;exact alt _ _
def Np (w:World) (top:Tr) (b:Bool):LC w top:=PL.toLC
 { P:=Array Value × Nat
   fs:=[.arg 0]
   qt:=0
   it:=0
   need:=3
   ext:=fun c os=>ao os
   obl:=fun z p=>([.hb (cK p.1.toList),.hb (hasN p.1.toList)],[.hb true,.hb b])
   olen:=fun z z=>rfl
   code:=fun I p=>.call (.builtin "list.__contains__") ⟨[.ref (ad I 0),.none],[]⟩
   pre:=fun z p=>[ab p.1 p.2]
   post:=fun z z p=>[ab p.1 p.2]
   res:=fun z z z=>.bool b
   len:=fun z z z=>rfl
   ok:=fun p I q z=>by
    obtain ⟨n,m⟩:=hb2 q
    intro A R h g d tk os t s hb j K
    have f:=(j.at_ (ad I 0,ab p.1 p.2) (cv.mpr rfl)).1
    have f:h.get? (ad I 0)=some { cls:=.type "list",dict:=none,data:=.seq p.1 p.2,slots:=#[] }:=f
    refine ya als.plain al5 (als.check _ _ _ _ _ _ _ _ ⟨_,f,rfl⟩ (ama _ _) ?_)
    refine SeqAt.list_containsAt (ad I 0) p.1 p.2 none #[] .none yT prog w A R ⟨h,g,d,tk,os⟩ ⟨f,fun y i=>?_,?_⟩
    · have i:=Gt.mp n y (Jt.mpr i)
      obtain ⟨x,r⟩:=lw.mp i
      rw [ew r]
      exact NG x _ _ _
    · have key:=K I (fun z=>0) h tk (fun z z=>rfl) j (fun a k=>.inl k) (fun b o e hn=>e) (ai _)
      have e:p.1.any yT=b:=by
       rw [← m,← alx]
       induction p.1.toList with
       | nil=>rfl
       | cons v l ih=>rw [List.any_cons,ih];rfl
      rw [e]
      exact key }
inductive K2 where
 | i [h:Nonempty Nat] | s
noncomputable def eK2:Enu K2:=⟨[.i,.s],by intro v;cases v<;>repeat constructor⟩
noncomputable def K2.k:K2→VK
 | .i=>.i
 | .s=>.s
inductive OC where
 | f [h:Nonempty Nat] | o | t
noncomputable def eOC:Enu OC:=⟨[.f,.o,.t],by intro v;cases v<;>repeat constructor⟩
noncomputable def OC.found:OC→Bool
 | .f=>true
 | _=>false
noncomputable def OC.none:OC→Bool
 | .t=>true
 | _=>false
noncomputable def OC.v (t:Tok):OC→Value
 | .f=>.int 1 t
 | .o=>.int 0 t
 | .t=>.none
noncomputable def qI:Nat→Nat
 | 0=>4
 | 1=>1
 | 2=>5
 | 3=>6
 | _=>2
def isK (p:SIs) (k:VK) (O:ae8):Obj:=d0 (k.as p.v) p.s (fl [O 0,O 1,O 2])
def isL (p:SIs) (n:N4) (O:ae8):List Obj:=kQ p.s (itV p.xs 0 n.n) 1 (fun j=>O (3 + j))
def isQ (p:SIs) (n:N4) (k:VK) (b:Bool) (O:ae8):List Bool:=[(isK p k O :: isL p n O).all iK,anyT3 (isK p k O) (isL p n O) == b,cK (itV p.xs 0 n.n),(bh p.s).isSome,(v8Of (k.as p.v)).isSome,(bh p.s).isSome]
def Vo (p:SIs) (n:N4) (k:VK) (o:OC) (O:ae8):List OV:=match o with
 | .f=>(isQ p n k true O).map .hb
 | .o=>.hb (cK (itV p.xs 0 n.n)) :: .hb (hasN (itV p.xs 0 n.n)) :: (isQ p n k false O).map .hb
 | .t=>.hb (cK (itV p.xs 0 n.n)) :: .hb (hasN (itV p.xs 0 n.n)) :: (isQ p n k false O).map .hb
def Xl (p:SIs) (n:N4) (k:VK) (o:OC) (O:ae8):List OV:=match o with
 | .f=>bl (isQ p n k true O)
 | .o=>.hb true :: .hb false :: bl (isQ p n k false O)
 | .t=>.hb true :: .hb true :: bl (isQ p n k false O)
def Vf (v:K2 × N4 × OC) (sd:SD × SD) (J:WB):List (SG J):=smS ((isR 1093 2,lE J) :: (Vj,Bi _ _ v.2.1.n (some v.2.2.found)) :: ((fun c=>isB "list.__contains__" c && amf c 1 0),Np _ _ v.2.2.none) :: (of,ZV true v.2.1.n v.2.1.le qI J) :: []:CL J)
noncomputable def Sr (v:K2 × N4 × OC):List Nat:=match v.2.2 with | .f | .o=>(match v.2.1 with | .n0=>[4] | .n1=>[7] | .n2=>[10] | .n3=>[13]) | .t=>[]
noncomputable def Sw (v:K2 × N4 × OC):List Nat:=match v.2.2 with | .f=>(match v.2.1 with | .n0=>adQ | .n1=>acZ | .n2=>ac3 | .n3=>w0) | .o | .t=>(match v.2.1 with | .n0=>(by walk_at "#ie,i6(mh") | .n1=>adM | .n2=>adO | .n3=>acP)
def is2 (v:K2 × N4 × OC) (sd:SD × SD) (P:Params):aq SIs:=akt.spec ((⟨3,0,0,1,11,59,false,[0,1,2],Sr v,Sw v⟩:akt) ) (fun p I=>iiT 2 5 (ad I 0) (ad I 2)) (fun p I=>[frO (ci P p (v.1.k.as p.v) (ad I 1) sd.1 sd.2) 4,ab ⟨itV p.xs 0 v.2.1.n⟩ p.e,aH (some (.str p.s (p.t 7)))]) (fun p=>none) (fun p I O=>.ret (v.2.2.v (O 0):Value)) (fun p I O=>[frO (ci P p (v.1.k.as p.v) (ad I 1) sd.1 sd.2) 4,ab ⟨itV p.xs 0 v.2.1.n⟩ p.e,aH (some (.str p.s (p.t 7)))]) (fun p I O=>none) (fun p I O=>Vo p v.2.1 v.1.k v.2.2 O) (fun p I O=>Xl p v.2.1 v.1.k v.2.2 O)
theorem Kv (v:K2 × N4 × OC) (sd:SD × SD) (J:WB) (p:SIs):(is2 v sd J.p).Runs J.w J.t (Vf v sd J) p:=amK (eK2.pr (eN4.pr eOC)) (fun v J=>is2 v sd J.p) (fun v J=>Vf v sd J) v J p
def RH (sd:SD × SD) (J:WB):List (SG J):=smS ([]:CL J)
def XD (sd:SD × SD) (P:Params):aq SIs:=akt.spec ((⟨2,0,0,0,2,16,false,[0,1],[],[1]⟩:akt) ) (fun p I=>iiT 2 5 (ad I 0) p.l) (fun p I=>[frO (ci P p .none (ad I 1) sd.1 sd.2) 4,ab p.xs p.e]) (fun p=>none) (fun p I O=>.ret (.none:Value)) (fun p I O=>[frO (ci P p .none (ad I 1) sd.1 sd.2) 4,ab p.xs p.e]) (fun p I O=>none) (fun p I O=>[]) (fun p I O=>[])
theorem Dr (sd:SD × SD) (J:WB) (p:SIs):(XD sd J.p).Runs J.w J.t (RH sd J) p:=S4
def aaC (sd:SD × SD) (J:WB):List (SG J):=smS ([]:CL J)
def isc (sd:SD × SD) (P:Params):aq SIs:=akt.spec ((⟨1,2,2,4,2,32,true,[0,1,2],[0,1,2,3],(by walk_at "#k+22K")⟩:akt) ) (fun p I=>.code (.call (.ref 1145) ⟨[p.v,.ref (ad I 0),sd.1.v (p.t 5),sd.2.v (p.t 6),.str p.s (p.t 7)],[]⟩)) (fun p I=>[ab p.xs p.e]) (fun p=>none) (fun p I O=>.again (.func iiB (iiE (ad I 1) (ad I 2)))) (fun p I O=>[ab p.xs p.e,frO [dF P J2 (O 0) p.v,dF P J6 (O 1) (.ref (ad I 0)),dF P J26 (O 2) (sd.1.v (p.t 5)),dF P J37 (O 3) (sd.2.v (p.t 6))] 4,aH (some (.str p.s (p.t 7)))]) (fun p I O=>none) (fun p I O=>[]) (fun p I O=>[])
theorem GN (sd:SD × SD) (J:WB) (p:SIs):(isc sd J.p).Runs J.w J.t (aaC sd J) p:=S4
set_option linter.constructorNameAsVariable false
noncomputable def wy (f:AF) (x:V8):V8:=match f with
 | .txt=>(match x with
  | .i0=>.s0
  | .i1=>.s1
  | .i2=>.s2
  | x=>x)
 | _=>(match x with
  | .s2=>.i2
  | x=>x)
theorem lH (x:V8) (f:AF) (t u:Tok):∃ a,aku (x.v t) f.s u=(wy f x).v a:=by
 rw [nO]
 cases f<;>cases x<;>first | exact ⟨t,rfl⟩ | exact ⟨u,rfl⟩
noncomputable def nI:V8→Bool
 | .n=>true
 | _=>false
def anyN:List V8→Bool
 | []=>false
 | x :: l=>nI x || anyN l
noncomputable def sdL:SD→SD→Option (Bool × AF)
 | .i,.i=>none
 | .i,_=>some (false,.int)
 | _,.i=>some (true,.int)
 | .t,.n=>some (false,.txt)
 | .n,.t=>some (true,.txt)
 | _,_=>none
def vX (sx sy:SD) (x:V8):V8:=match sdL sx sy with
 | some (true,f)=>wy f x
 | _=>x
def vXs (sx sy:SD) (xs:List V8):List V8:=match sdL sx sy with
 | some (false,f)=>xs.map (wy f)
 | _=>xs
noncomputable def icM (fnd a:Bool):OC:=match fnd with
 | true=>.f
 | false=>match a with
  | true=>.t
  | false=>.o
def og (nc:Bool) (x:V8) (vs:List V8):OC:=match vs with
 | []=>.o
 | _=>match nI x with
  | true=>.t
  | false=>icM (fndA nc x vs) (anyN vs)
def iV (nc:Bool) (sx sy:SD) (x:V8) (vs:List V8):OC:=og nc (vX sx sy x) (vXs sx sy vs)
theorem nY (f:AF):∀ {xs:List Value} {vs:List V8} (k:Nat) (O:ae8),bk xs vs→bk (lq f xs k O) (vs.map (wy f))
 | [],[],_,_,_=>trivial
 | y :: ys,x :: xs,k,O,h=>by
  obtain ⟨⟨u,rfl⟩,a⟩:=h
  exact ⟨lH x f u _,nY f (k + 1) O a⟩
 | _ :: _,[],_,_,h=>h.elim
 | [],_ :: _,_,_,h=>h.elim
theorem vF:∀ {xs:List Value} {vs:List V8},bk xs vs→hasN xs=anyN vs
 | [],[],_=>rfl
 | y :: ys,x :: xs,h=>by
  obtain ⟨⟨u,rfl⟩,a⟩:=h
  show (yT (x.v u) || hasN ys)=(nI x || anyN xs)
  rw [vF a]
  cases x<;>rfl
 | _ :: _,[],h=>h.elim
 | [],_ :: _,h=>h.elim
section
variable {J:WB}
def Is0 (P:Params) (p:SIs) (sx sy:SD) (f l e:Nat) (x:V8) (xs:List Value) (vs:List V8) (en:En) (L':XL):Prop:=
 en=.next∧∃ u a b c M d,bk a (vXs sx sy vs)∧1158≤b∧L'.Perm ((f,frO (ci P p ((vX sx sy x).v u) b sx sy) 4) :: (b,ab ⟨a⟩ c) :: M)∧((b,ab ⟨a⟩ c) :: M).Perm ((l,ab ⟨xs⟩ e) :: d)
abbrev EG (J:WB) (p:SIs) (sx sy:SD) (f l e c:Nat) (x:V8) (u:Tok) (xs:List Value) (vs:List V8):Prop:=
 HRG J 14 (iiT 0 1 f c) [(f,frO (ci J.p p (x.v u) l sx sy) 4),(l,ab ⟨xs⟩ e)] (Is0 J.p p sx sy f l e x xs vs)
theorem iG (v:NP) (p:SIs) (f l e c:Nat) (i:1158≤f) (h:1158≤l) (x:V8) (u:Tok) (xs:List Value) (vs:List V8) (d:bk xs vs):EG J p v.p.1 v.p.2 f l e c x u xs vs:=by
 have b:∀ a∈[f,l],1158≤a:=by
  repeat (first | exact anc | refine anb (by assumption) ?_)
 have H:=aq.hrZ (ay _) (CW v J { p with v:=x.v u,xs:=⟨xs⟩,e:=e,l:=c }) (by intros;exact tT) rfl rfl (fun z z=>rfl) [f,l] rfl b (fun z z z=>rfl)
 have g:ad (nuL [f,l]) 0=f:=aB b rfl
 have e1:ad (nuL [f,l]) 1=l:=aB b rfl
 have hv:=(by intro v;cases v<;>rfl:∀ v:NP,sdL v.p.1 v.p.2=none) v
 have H:=H.mono (need':=14) (ag rfl) (P':=Is0 J.p p v.p.1 v.p.2 f l e x xs vs) (elB fun O=>by
  refine ⟨rfl,u,xs,l,e,[],[],?_,h,?_,b6 _⟩
  · unfold vXs;rw [hv];exact d
  · refine fv ?_
    unfold vX
    rw [hv]
    show [(f,frO (ci _ p (x.v u) (ad (nuL [f,l]) 1) v.p.1 v.p.2) 4),(l,ab ⟨xs⟩ e)]=_
    rw [e1])
 show HR _ _ _ (iiT 0 1 f c) [(f,frO (ci J.p p (x.v u) l v.p.1 v.p.2) 4),(l,ab ⟨xs⟩ e)] _
 have key:HR _ _ _ (iiT 0 1 (ad (nuL [f,l]) 0) c) [(f,frO (ci J.p p (x.v u) (ad (nuL [f,l]) 1) v.p.1 v.p.2) 4),(l,ab ⟨xs⟩ e)] _:=H
 rw [g,e1] at key
 exact key
theorem yU (r:SR) (p:SIs) (f l e c:Nat) (m:1158≤f) (j:1158≤l) (x:V8) (u:Tok) (xs:List Value) (vs:List V8) (g:bk xs vs):EG J p r.s .i f l e c x u xs vs:=by
 have b:∀ a∈[f,l],1158≤a:=by
  repeat (first | exact anc | refine anb (by assumption) ?_)
 have hk:=aC (cV x u) .int
 have H:=aq.hrZ (ay _) (akQ (r,iq x) J { p with v:=x.v u,xs:=⟨xs⟩,e:=e,l:=c }) (by intros;exact tT) rfl rfl (fun z z=>rfl) [f,l] rfl b (fun z z z=>hbT (by
  show (v8Of ((iq x).q.k1.as (x.v u))).isSome=true
  rw [eV,(hk 0).1,cV];rfl) (hbT rfl (hbT (by
  show (iq x).q.k2.is (aku ((iq x).q.k1.as (x.v u)) AF.int.s 0)=true
  rw [eV,(hk 0).1,(hk 0).2.2]) rfl)))
 have h:ad (nuL [f,l]) 0=f:=aB b rfl
 have e1:ad (nuL [f,l]) 1=l:=aB b rfl
 have hv:=(by intro r;cases r<;>rfl:∀ r:SR,sdL r.s .i=some (true,.int)) r
 have H:=H.mono (need':=14) (ag rfl) (P':=Is0 J.p p r.s .i f l e x xs vs) (elB fun O=>by
  obtain ⟨k,d⟩:=lH x .int u (O 0)
  refine ⟨rfl,k,xs,l,e,[],[],?_,j,?_,b6 _⟩
  · unfold vXs;rw [hv];exact g
  · refine fv ?_
    unfold vX
    rw [hv]
    show [(f,frO (ci _ p (dk (iq x).q .int (x.v u) (O 0)) (ad (nuL [f,l]) 1) r.s .i) 4),(l,ab ⟨xs⟩ e)]=_
    rw [e1,eV,(hk _).2.1,d])
 show HR _ _ _ (iiT 0 1 f c) [(f,frO (ci J.p p (x.v u) l r.s .i) 4),(l,ab ⟨xs⟩ e)] _
 have key:HR _ _ _ (iiT 0 1 (ad (nuL [f,l]) 0) c) [(f,frO (ci J.p p ((iq x).q.k1.as (x.v u)) (ad (nuL [f,l]) 1) r.s .i) 4),(l,ab ⟨xs⟩ e)] _:=H
 rw [h,e1,eV,(hk 0).1] at key
 exact key
theorem Uw (p:SIs) (f l e c:Nat) (k:1158≤f) (i:1158≤l) (x:V8) (u:Tok) (xs:List Value) (vs:List V8) (g:bk xs vs):EG J p .n .t f l e c x u xs vs:=by
 have b:∀ a∈[f,l],1158≤a:=by
  repeat (first | exact anc | refine anb (by assumption) ?_)
 have hk:=aC (cV x u) .txt
 have H:=aq.hrZ (ay _) (yg (tq x) J { p with v:=x.v u,xs:=⟨xs⟩,e:=e,l:=c }) (by intros;exact tT) rfl rfl (fun z z=>rfl) [f,l] rfl b (fun z z z=>hbT (by
  show (v8Of ((tq x).q.k1.as (x.v u))).isSome=true
  rw [eU,(hk 0).1,cV];rfl) (hbT rfl (hbT (by
  show (tq x).q.k2.is (aku ((tq x).q.k1.as (x.v u)) AF.txt.s 0)=true
  rw [eU,(hk 0).1,(hk 0).2.2]) rfl)))
 have h:ad (nuL [f,l]) 0=f:=aB b rfl
 have e1:ad (nuL [f,l]) 1=l:=aB b rfl
 have H:=H.mono (need':=14) (ag rfl) (P':=Is0 J.p p .n .t f l e x xs vs) (elB fun O=>by
  obtain ⟨j,d⟩:=lH x .txt u (O 0)
  refine ⟨rfl,j,xs,l,e,[],[],g,i,fv ?_,b6 _⟩
  show [(f,frO (ci _ p (dk (tq x).q .txt (x.v u) (O 0)) (ad (nuL [f,l]) 1) .n .t) 4),(l,ab ⟨xs⟩ e)]=_
  rw [e1,eU,(hk _).2.1,d]
  rfl)
 have key:HR _ _ _ (iiT 0 1 (ad (nuL [f,l]) 0) c) [(f,frO (ci J.p p ((tq x).q.k1.as (x.v u)) (ad (nuL [f,l]) 1) .n .t) 4),(l,ab ⟨xs⟩ e)] _:=H
 rw [h,e1,eU,(hk 0).1] at key
 exact key
theorem nR {l:List Nat} {I':ae8} {k j a:Nat} (b:∀ a∈l,1158≤a) (h:∀ j,j < k→I' j=nuL l j) (c:j < k) (hl:l[j]? = some a):ad I' j=a:=by
 unfold ad
 rw [h j c]
 exact aB b hl
theorem akP (r:SR) (p:SIs) (f l e c:Nat) (q:1158≤f) (o:1158≤l) (x:V8) (u:Tok) (xs:List Value) (vs:List V8) (g:bk xs vs) (hl:xs.length≤3):EG J p .i r.s f l e c x u xs vs:=by
 have b:∀ a∈[f,l],1158≤a:=by
  repeat (first | exact anc | refine anb (by assumption) ?_)
 have d:itV ⟨xs⟩ 0 (n4 xs.length).n=xs:=nf hl
 have H:=(aq.he (ay _) (z9 (r,n4 xs.length) J { p with v:=x.v u,xs:=⟨xs⟩,e:=e,l:=c }) (by intros;exact tT) (nuL [f,l]) (fun z z z=>hbT (by
  show cK (itV ⟨xs⟩ 0 (n4 xs.length).n)=true
  rw [d];exact g.all) rfl)).hr
 have j:ad (nuL [f,l]) 0=f:=aB b rfl
 have e1:ad (nuL [f,l]) 1=l:=aB b rfl
 have hv:=(by intro r;cases r<;>rfl:∀ r:SR,sdL .i r.s=some (false,AF.int)) r
 have H:=H.mono (need':=14) (ag rfl) (P':=Is0 J.p p .i r.s f l e x xs vs) (elA fun I' O h=>by
  have m:ad I' 0=f:=nR b h (ag rfl) rfl
  have k:ad I' 1=l:=nR b h (ag rfl) rfl
  refine ⟨rfl,u,lq AF.int xs 0 (ah 3 O),ad I' 2,(n4 xs.length).n,[(l,ab ⟨xs⟩ e)],[(ad I' 2,ab ⟨lq AF.int xs 0 (ah 3 O)⟩ (n4 xs.length).n)],?_,b8 _ _,?_,ajt _ _ _⟩
  · unfold vXs;rw [hv];exact nY _ _ _ g
  · refine alI (fv (?_:_=[(f,frO (ci J.p p ((vX .i r.s x).v u) (ad I' 2) .i r.s) 4),(l,ab ⟨xs⟩ e),(ad I' 2,ab ⟨lq AF.int xs 0 (ah 3 O)⟩ (n4 xs.length).n)])) (Z7 _ (ajt _ _ _))
    unfold vX
    rw [hv]
    show [(ad I' 0,frO (ci _ p (x.v u) (ad I' 2) .i r.s) 4),(ad I' 1,ab ⟨itV ⟨xs⟩ 0 (n4 xs.length).n⟩ e),(ad I' 2,ab ⟨lq AF.int (itV ⟨xs⟩ 0 (n4 xs.length).n) 0 (ah 3 O)⟩ (n4 xs.length).n)]++[]=_
    rw [m,k,d]
    rfl)
 have key:HR _ _ _ (iiT 0 1 (ad (nuL [f,l]) 0) c) ([(ad (nuL [f,l]) 0,frO (ci J.p p (x.v u) (ad (nuL [f,l]) 1) .i r.s) 4),(ad (nuL [f,l]) 1,ab ⟨itV ⟨xs⟩ 0 (n4 xs.length).n⟩ e)]++[]) _:=H
 rw [j,e1,d] at key
 exact key
theorem Up (p:SIs) (f l e c:Nat) (o:1158≤f) (m:1158≤l) (x:V8) (u:Tok) (xs:List Value) (vs:List V8) (g:bk xs vs) (hl:xs.length≤3):EG J p .t .n f l e c x u xs vs:=by
 have b:∀ a∈[f,l],1158≤a:=by
  repeat (first | exact anc | refine anb (by assumption) ?_)
 have d:itV ⟨xs⟩ 0 (n4 xs.length).n=xs:=nf hl
 have H:=(aq.he (ay _) (ym (n4 xs.length) J { p with v:=x.v u,xs:=⟨xs⟩,e:=e,l:=c }) (by intros;exact tT) (nuL [f,l]) (fun z z z=>hbT (by
  show cK (itV ⟨xs⟩ 0 (n4 xs.length).n)=true
  rw [d];exact g.all) rfl)).hr
 have i:ad (nuL [f,l]) 0=f:=aB b rfl
 have e1:ad (nuL [f,l]) 1=l:=aB b rfl
 have hv:sdL .t .n=some (false,AF.txt):=by rfl
 have H:=H.mono (need':=14) (ag rfl) (P':=Is0 J.p p .t .n f l e x xs vs) (elA fun I' O h=>by
  have k:ad I' 0=f:=nR b h (ag rfl) rfl
  have j:ad I' 1=l:=nR b h (ag rfl) rfl
  refine ⟨rfl,u,lq AF.txt xs 0 (ah 3 O),ad I' 2,(n4 xs.length).n,[(l,ab ⟨xs⟩ e)],[(ad I' 2,ab ⟨lq AF.txt xs 0 (ah 3 O)⟩ (n4 xs.length).n)],?_,b8 _ _,?_,ajt _ _ _⟩
  · unfold vXs;rw [hv];exact nY _ _ _ g
  · refine alI (fv (?_:_=[(f,frO (ci J.p p ((vX .t .n x).v u) (ad I' 2) .t .n) 4),(l,ab ⟨xs⟩ e),(ad I' 2,ab ⟨lq AF.txt xs 0 (ah 3 O)⟩ (n4 xs.length).n)])) (Z7 _ (ajt _ _ _))
    unfold vX
    rw [hv]
    show [(ad I' 0,frO (ci _ p (x.v u) (ad I' 2) .t .n) 4),(ad I' 1,ab ⟨itV ⟨xs⟩ 0 (n4 xs.length).n⟩ e),(ad I' 2,ab ⟨lq AF.txt (itV ⟨xs⟩ 0 (n4 xs.length).n) 0 (ah 3 O)⟩ (n4 xs.length).n)]++[]=_
    rw [k,j,d]
    rfl)
 have key:HR _ _ _ (iiT 0 1 (ad (nuL [f,l]) 0) c) ([(ad (nuL [f,l]) 0,frO (ci J.p p (x.v u) (ad (nuL [f,l]) 1) .t .n) 4),(ad (nuL [f,l]) 1,ab ⟨itV ⟨xs⟩ 0 (n4 xs.length).n⟩ e)]++[]) _:=H
 rw [i,e1,d] at key
 exact key
theorem UM (sx sy:SD) (p:SIs) (f l e c:Nat) (d:1158≤f) (g:1158≤l) (x:V8) (u:Tok) (xs:List Value) (vs:List V8) (a:bk xs vs) (hl:xs.length≤3):EG J p sx sy f l e c x u xs vs:=by
 cases sx<;>cases sy<;>first
  | exact iG .nn p f l e c d g x u xs vs a
  | exact iG .nb p f l e c d g x u xs vs a
  | exact iG .ii p f l e c d g x u xs vs a
  | exact iG .tt p f l e c d g x u xs vs a
  | exact iG .tb p f l e c d g x u xs vs a
  | exact iG .bn p f l e c d g x u xs vs a
  | exact iG .bt p f l e c d g x u xs vs a
  | exact iG .bb p f l e c d g x u xs vs a
  | exact yU .n p f l e c d g x u xs vs a
  | exact yU .t p f l e c d g x u xs vs a
  | exact yU .b p f l e c d g x u xs vs a
  | exact Uw p f l e c d g x u xs vs a
  | exact akP .n p f l e c d g x u xs vs a hl
  | exact akP .t p f l e c d g x u xs vs a hl
  | exact akP .b p f l e c d g x u xs vs a hl
  | exact Up p f l e c d g x u xs vs a hl
end
set_option linter.constructorNameAsVariable false
noncomputable def k2:V8→K2
 | .a=>.s
 | .A=>.s
 | .s2=>.s
 | .b=>.s
 | .s0=>.s
 | .s1=>.s
 | _=>.i
theorem abW (x:V8) (a:nI x=false) (u:Tok):(k2 x).k.as (x.v u)=x.v u:=by cases x<;>first | rfl | cases a
section
variable {J:WB}
abbrev Nm (P:Params) (p:SIs) (sx sy:SD) (f l e c:Nat) (v:Value) (xs:List Value) (nc:Bool):XL:=[(f,frO (ci P p v l sx sy) 4),(l,ab ⟨xs⟩ e),(c,aH (some (.str (aA nc) (p.t 7))))]
theorem RA (sx sy:SD) (p:SIs) (f l e c:Nat) (S:1158≤f) (R:1158≤l) (T:1158≤c) (x:V8) (u:Tok) (xs:List Value) (vs:List V8) (nc:Bool) (m:bk xs vs) (hl:xs.length≤3) (r:vs ≠ []) :
  HRG J 14 (iiT 2 5 f c) (Nm J.p p sx sy f l e c (x.v u) xs nc)
   (fun en L'=>(∃ t,en=.ret ((og nc x vs).v t))∧L'=Nm J.p p sx sy f l e c (x.v u) xs nc):=by
 have g:∀ a∈[f,l,c],1158≤a:=by
  repeat (first | exact anc | refine anb (by assumption) ?_)
 have K:ad (nuL [f,l,c]) 0=f:=aB g rfl
 have e1:ad (nuL [f,l,c]) 1=l:=aB g rfl
 have e2:ad (nuL [f,l,c]) 2=c:=aB g rfl
 have d:itV ⟨xs⟩ 0 (n4 xs.length).n=xs:=nf hl
 cases A:nI x with
 | true=>
  have z:x=.n:=by cases x<;>first | rfl | cases A
  have i:∀ a∈[f,l],1158≤a:=fun a F=>g a (by
   simp only [b9,gv,dj] at F ⊢
   rcases F with rfl | rfl
   · exact .inl rfl
   · exact .inr (.inl rfl))
  have N:ad (nuL [f,l]) 0=f:=aB i rfl
  have E:ad (nuL [f,l]) 1=l:=aB i rfl
  have H:=(aq.hrZ (ay _) (Dr (sx,sy) J { p with xs:=⟨xs⟩,e:=e,l:=c }) (by intros;exact tT) rfl rfl (fun Z Z=>rfl) [f,l] rfl i (fun Z Z Z=>rfl)).frame [(c,aH (some (.str (aA nc) (p.t 7))))]
  have H:=H.mono (need':=14) (ag rfl) (P':=fun en L'=>(∃ t,en=.ret ((og nc x vs).v t))∧L'=Nm J.p p sx sy f l e c (x.v u) xs nc) (fun en L' h=>by
   obtain ⟨W,rfl,O,rfl,rfl⟩:=h
   refine ⟨⟨0,?_⟩,?_⟩
   · unfold og
     cases vs with
     | nil=>exact absurd rfl r
     | cons y ys=>rw [A];rfl
   · show [(f,frO (ci _ p .none (ad (nuL [f,l]) 1) sx sy) 4),(l,ab ⟨xs⟩ e)]++_=_
     rw [E,z];rfl)
  have key:HR _ _ _ (iiT 2 5 (ad (nuL [f,l]) 0) c) ([(f,frO (ci J.p p .none (ad (nuL [f,l]) 1) sx sy) 4),(l,ab ⟨xs⟩ e)]++[(c,aH (some (.str (aA nc) (p.t 7))))]) _:=H
  rw [N,E] at key
  rw [z] at key ⊢
  exact key
 | false=>
  have hk:=abW x A
  have B:∃ o:OC,o=icM (fndA nc x vs) (anyN vs):=⟨_,rfl⟩
  obtain ⟨o,q⟩:=B
  have H:=aq.hrZ (ay _) (Kv (k2 x,n4 xs.length,o) (sx,sy) J { p with v:=x.v u,s:=aA nc,xs:=⟨xs⟩,e:=e }) (by intros;exact tT) rfl rfl (fun Z Z=>rfl) [f,l,c] rfl g (fun I' O Z=>by
   have ek:isK { p with v:=x.v u,s:=aA nc,xs:=⟨xs⟩,e:=e } (k2 x).k O=d0 (x.v u) (aA nc) (fl [O 0,O 1,O 2]):=by
    show d0 ((k2 x).k.as (x.v u)) _ _=_
    rw [hk]
   have M:isL { p with v:=x.v u,s:=aA nc,xs:=⟨xs⟩,e:=e } (n4 xs.length) O=kQ (aA nc) xs 1 (fun j=>O (3 + j)):=by
    show kQ (aA nc) (itV ⟨xs⟩ 0 (n4 xs.length).n) 1 _=_
    rw [d]
   obtain ⟨L,P⟩:=zl nc x (ko:=d0 (x.v u) (aA nc) (fl [O 0,O 1,O 2])) (akL x nc u _) 1 (fun j=>O (3 + j)) m
   have C:∀ b,fndA nc x vs=b→(isQ { p with v:=x.v u,s:=aA nc,xs:=⟨xs⟩,e:=e } (n4 xs.length) (k2 x).k b O).map OV.hb=bl (isQ { p with v:=x.v u,s:=aA nc,xs:=⟨xs⟩,e:=e } (n4 xs.length) (k2 x).k b O):=by
    intro b hb
    refine ch ?_
    unfold isQ
    rw [ek,M]
    refine all_cons ?_ (all_cons ?_ (all_cons ?_ (all_cons ?_ (all_cons ?_ (all_cons ?_ cC)))))
    · show (iK _ && _)=true
      rw [yf,P];rfl
    · rw [L,hb];exact Wt _
    · show cK (itV ⟨xs⟩ 0 (n4 xs.length).n)=true
      rw [d];exact m.all
    · show (bh (aA nc)).isSome=true
      rw [cY];rfl
    · show (v8Of ((k2 x).k.as (x.v u))).isSome=true
      rw [hk,cV];rfl
    · show (bh (aA nc)).isSome=true
      rw [cY];rfl
   have D:cK (itV ⟨xs⟩ 0 (n4 xs.length).n)=true:=by rw [d];exact m.all
   have G:hasN (itV ⟨xs⟩ 0 (n4 xs.length).n)=anyN vs:=by rw [d];exact vF m
   show Vo _ (n4 xs.length) (k2 x).k o O=Xl _ (n4 xs.length) (k2 x).k o O
   unfold icM at q
   cases w:fndA nc x vs with
   | true=>rw [w] at q;subst q;exact C _ w
   | false=>
    rw [w] at q
    cases hn:anyN vs with
    | true=>
     rw [hn] at q;subst q
     show OV.hb (cK (itV ⟨xs⟩ 0 (n4 xs.length).n)) :: OV.hb (hasN (itV ⟨xs⟩ 0 (n4 xs.length).n)) :: _=_
     rw [D,G,hn,C _ w];rfl
    | false=>
     rw [hn] at q;subst q
     show OV.hb (cK (itV ⟨xs⟩ 0 (n4 xs.length).n)) :: OV.hb (hasN (itV ⟨xs⟩ 0 (n4 xs.length).n)) :: _=_
     rw [D,G,hn,C _ w];rfl)
  have Q:og nc x vs=o:=by
   unfold og
   cases vs with
   | nil=>exact absurd rfl r
   | cons y ys=>rw [A,q]
  have H:=H.mono (need':=14) (ag rfl) (P':=fun en L'=>(∃ t,en=.ret ((og nc x vs).v t))∧L'=Nm J.p p sx sy f l e c (x.v u) xs nc) (elB fun O=>by
   refine ⟨⟨O 0,?_⟩,?_⟩
   · rw [Q];rfl
   · show [(f,frO (ci _ p ((k2 x).k.as (x.v u)) (ad (nuL [f,l,c]) 1) sx sy) 4),(l,ab ⟨itV ⟨xs⟩ 0 (n4 xs.length).n⟩ e),(c,aH (some (.str (aA nc) (p.t 7))))]=_
     rw [e1,hk,d])
  have key:HR _ _ _ (iiT 2 5 (ad (nuL [f,l,c]) 0) (ad (nuL [f,l,c]) 2)) [(f,frO (ci J.p p ((k2 x).k.as (x.v u)) (ad (nuL [f,l,c]) 1) sx sy) 4),(l,ab ⟨itV ⟨xs⟩ 0 (n4 xs.length).n⟩ e),(c,aH (some (.str (aA nc) (p.t 7))))] _:=H
  rw [K,e1,e2,hk,d] at key
  exact key
end
set_option linter.constructorNameAsVariable false
theorem Fu:iiB=bu iiB 0 1++([br iiB 1]++bu iiB 2 5):=by kernel_rfl
theorem HR.early {w:World} {top:Tr} {need:Nat} {L:XL} {c:Code} {env:Env} {P:En→XL→Prop} {b l2:List Stmt} (H:HR w top need (.tree c (blk b env)) L P) (l:∀ e L',P e L'→∃ v,e=.ret v) :
  HR w top need (.tree c (blk (b++l2) env)) L P:=fun A R h g d tk os q n hb m p=>by
 refine akE (H A _ h g d tk os q n hb m fun e L' i a f j o k h5=>?_)
 have:=p _ L' i a f j o k h5
 obtain ⟨v,rfl⟩:=l e L' f
 exact this
section
variable {J:WB}
theorem Do (sx sy:SD) (x:V8) (u:Tok) (xs:List Value) (vs:List V8) (nc:Bool) (R:bk xs vs) (hl:xs.length≤3) (l e:Nat) (Y:1158≤l) (T t6 t7:Tok) :
  HRG J 16 (.code (.call (.ref 1145) ⟨[x.v u,.ref l,sx.v T,sy.v t6,.str (aA nc) t7],[]⟩)) [(l,ab ⟨xs⟩ e)]
   (fun en L'=>(∃ t,en=.ret ((iV nc sx sy x vs).v t))∧L'=[(l,ab ⟨xs⟩ e)]):=by
 refine exL ({ SIs.stand with v:=x.v u,s:=aA nc,xs:=⟨xs⟩,e:=e,t:=fun j=>match j with | 5=>T | 6=>t6 | _=>t7 }:SIs) fun A hp0=>?_
 have F:∀ a∈[l],1158≤a:=by
  repeat (first | exact anc | refine anb (by assumption) ?_)
 have e0:ad (nuL [l]) 0=l:=aB F rfl
 have HC:=(aq.he (ay _) (GN (sx,sy) J A) (by intros;exact tT) (nuL [l]) (fun n n n=>rfl)).hr
 have key:HR _ _ _ (.code (.call (.ref 1145) ⟨[A.v,.ref (ad (nuL [l]) 0),sx.v (A.t 5),sy.v (A.t 6),.str A.s (A.t 7)],[]⟩)) ([(ad (nuL [l]) 0,ab A.xs A.e)]++[]) _:=HC
 rw [e0,hp0] at key
 refine (key.mono (need':=16) (ag rfl) fun e L' h=>h).again <| elA fun I' O' hI=>?_
 have f0:ad I' 0=l:=nR F hI (ag rfl) rfl
 refine ⟨.func iiB (iiE (ad I' 1) (ad I' 2)),rfl,rfl,?_⟩
 refine exL (ad I' 1) fun f hf=>?_
 refine exL (ad I' 2) fun c hc=>?_
 have N:1158≤f:=by rw [hf];exact b8 _ _
 have S:1158≤c:=by rw [hc];exact b8 _ _
 refine exL ({ SIs.stand with t:=fun j=>swN [(1,ah 4 O' 0),(2,ah 4 O' 1),(3,ah 4 O' 2),(4,ah 4 O' 3),(5,T),(6,t6)] (t7) j}:SIs) fun p hp=>?_
 have eL:HRG J 16 (.code (.func iiB (iiE f c))) ([(l,ab ⟨xs⟩ e),(f,frO (ci J.p p (x.v u) l sx sy) 4),(c,aH (some (.str (aA nc) t7)))]++[])
  (fun en L'=>(∃ t,en=.ret ((iV nc sx sy x vs).v t))∧L'=[(l,ab ⟨xs⟩ e)]):=?_
 · subst hp hf hc
   show HR _ _ _ (.code (.func iiB (iiE (ad I' 1) (ad I' 2)))) ([(ad I' 0,ab ⟨xs⟩ e),(ad I' 1,frO [dF _ J2 (ah 4 O' 0) (x.v u),dF _ J6 (ah 4 O' 1) (.ref (ad I' 0)),dF _ J26 (ah 4 O' 2) (sx.v T),dF _ J37 (ah 4 O' 3) (sy.v t6)] 4),(ad I' 2,aH (some (.str (aA nc) t7)))]++[]) _
   rw [f0]
   exact eL
 rw [au]
 refine HR.func ?_ (fun e L' h=>by obtain ⟨⟨t,rfl⟩,-⟩:=h;exact ⟨_,rfl⟩)
 rw [show (bx.tree (.func iiB (iiE f c)) (blk iiB (iiE f c)))=.tree (.func iiB (iiE f c)) (blk (bu iiB 0 1++([br iiB 1]++bu iiB 2 5)) (iiE f c)) by rw [← Fu]]
 have H0:=((UM (J:=J) sx sy p f l e c N Y x u xs vs R hl).frame [(c,aH (some (.str (aA nc) t7)))]).perm (L':=[(l,ab ⟨xs⟩ e),(f,frO (ci J.p p (x.v u) l sx sy) 4),(c,aH (some (.str (aA nc) t7)))]) (by
  exact ane (L:=[]) (E:=[_,_,_]) (.a (.c 0 (.c 1 .n)) (.c 2 .n)) (.c 1 (.c 0 (.c 2 .n))) rfl)
 refine HR.blocks (H0.mono (need':=16) (ag rfl) fun e L' h=>h) fun en L' D=>?_
 obtain ⟨L1,rfl,rfl,C,d,r,Q,M,M2,g,h2',P,hM⟩:=D
 refine ⟨rfl,?_⟩
 obtain ⟨k,G⟩:∃ k,k=vX sx sy x:=⟨_,rfl⟩
 obtain ⟨i,m⟩:∃ i,i=vXs sx sy vs:=⟨_,rfl⟩
 have hB:iV nc sx sy x vs=og nc k i:=by rw [G,m];rfl
 rw [hB]
 rw [← G] at P
 rw [← m] at g
 have hl':d.length≤3:=by
  have N:=g.len
  have Y:=R.len
  have S:i.length=vs.length:=by
   rw [m];unfold vXs
   cases hq:sdL sx sy with
   | none=>rfl
   | some q=>obtain ⟨b,a⟩:=q;cases b<;>simp
  first | exact wt (Nat.le_of_eq (N.trans (S.trans Y.symm))) hl | exact wt (Nat.le_of_eq (N.trans S)) hl
 have B:((f,frO (ci J.p p (k.v C) r sx sy) 4) :: (r,ab ⟨d⟩ Q) :: (M++[(c,aH (some (.str (aA nc) t7)))])).Perm (L1++[(c,aH (some (.str (aA nc) t7)))]):=(P.append_right _).symm
 have H1:=((Me (w:=J.w) (top:=ac J.p) f c r Q 4 (ci J.p p (k.v C) r sx sy) ⟨d⟩ rfl rfl).frame (M++[(c,aH (some (.str (aA nc) t7)))])).perm B
 have o:∀ (en:En),(∃ t,en=.ret ((og nc k i).v t))→∃ L' K,([(f,frO (ci J.p p (k.v C) r sx sy) 4),(r,ab ⟨d⟩ Q)]++(M++[(c,aH (some (.str (aA nc) t7)))])).Perm (L'++K)∧((∃ t,en=.ret ((og nc k i).v t))∧L'=[(l,ab ⟨xs⟩ e)]):=fun en he=>by
  refine ⟨_,(f,frO (ci J.p p (k.v C) r sx sy) 4) :: (M2++[(c,aH (some (.str (aA nc) t7)))]),?_,he,rfl⟩
  have:=(hM.append_right [(c,aH (some (.str (aA nc) t7)))]).cons (f,frO (ci J.p p (k.v C) r sx sy) 4)
  exact this.trans (ajt _ _ _)
 cases hz:i with
 | nil=>
  have Z:d=[]:=by
   have:=g.len
   rw [hz] at this
   exact List.length_eq_zero_iff.mp this
  subst Z
  refine HR.early ((H1.mono (need':=16) (ag rfl) fun e L' h=>h).drop fun en L' D=>?_) (fun e L' h=>by obtain ⟨⟨t,rfl⟩,-⟩:=h;exact ⟨_,rfl⟩)
  obtain ⟨L2,rfl,z,rfl⟩:=D
  obtain ⟨L',K,q1,W⟩:=o en (by
   obtain ⟨t,ht⟩:=z
   exact ⟨t,by rw [hz];exact ht⟩)
  rw [hz] at W
  exact ⟨L',K,q1,W⟩
 | cons y ys=>
  refine HR.blocks (H1.mono (need':=16) (ag rfl) fun e L' h=>h) fun en L' D=>?_
  obtain ⟨L2,rfl,z,rfl⟩:=D
  have X:d ≠ []:=by
   intro h
   have:=g.len
   rw [hz,h] at this
   cases this
  have H:(Array.mk d).isEmpty=false:=by
   cases d with
   | nil=>exact absurd rfl X
   | cons a b=>rfl
  rw [H] at z
  refine ⟨z,?_⟩
  rw [← hz]
  have H2:=((RA (J:=J) sx sy p f r Q c N h2' S k C d i nc g hl' (by rw [hz];exact fun h=>by cases h)).frame M).perm (L':=[(f,frO (ci J.p p (k.v C) r sx sy) 4),(r,ab ⟨d⟩ Q)]++(M++[(c,aH (some (.str (aA nc) t7)))])) (by
   rw [hp]
   exact ane (L:=[_]) (E:=[_,_,_]) (.a (.c 0 (.c 1 (.c 2 .n))) (.l 0)) (.a (.c 0 (.c 1 .n)) (.a (.l 0) (.c 2 .n))) rfl)
  refine (H2.mono (need':=16) (ag rfl) fun e L' h=>h).drop fun en L' D=>?_
  obtain ⟨L3,rfl,he,rfl⟩:=D
  obtain ⟨L',K,q1,W⟩:=o en he
  refine ⟨L',K,alI ?_ q1,W⟩
  rw [hp]
  exact ane (L:=[_]) (E:=[_,_,_]) (.a (.c 0 (.c 1 (.c 2 .n))) (.l 0)) (.a (.c 0 (.c 1 .n)) (.a (.l 0) (.c 2 .n))) rfl
end
set_option linter.constructorNameAsVariable false
noncomputable def OC.is:OC→OC→Bool
 | .f,.f=>true
 | .o,.o=>true
 | .t,.t=>true
 | _,_=>false
theorem OC.is_eq {a b:OC} (h:a.is b=true):a=b:=by cases a<;>cases b<;>first | rfl | cases h
theorem OC.is_self (a:OC):a.is a=true:=by cases a<;>rfl
def v8L:List Value→List V8
 | []=>[]
 | v :: l=>(v8Of v).getD .n :: v8L l
theorem um:∀ {xs:List Value},cK xs=true→bk xs (v8L xs)
 | [],_=>trivial
 | v :: l,h=>by
  obtain ⟨b,c⟩:=iR.mp (show ((v8Of v).isSome && cK l)=true from h)
  obtain ⟨x,a⟩:=lw.mp b
  refine ⟨⟨ak v,?_⟩,um c⟩
  rw [a]
  exact ew a
theorem Ak:∀ {xs:List Value} {vs:List V8},bk xs vs→v8L xs=vs
 | [],[],_=>rfl
 | y :: ys,x :: xs,h=>by
  obtain ⟨⟨u,rfl⟩,a⟩:=h
  show (v8Of (x.v u)).getD .n :: v8L ys=_
  rw [cV,Ak a];rfl
 | _ :: _,[],h=>h.elim
 | [],_ :: _,h=>h.elim
def vV (sx sy:SD) (v:Value) (xs:List Value) (s:Str):OC:=iV ((bh s).getD false) sx sy ((v8Of v).getD .n) (v8L xs)
def cg (v:Value):Option SD:=match v with
 | .none=>some .n
 | .str s _=>lk (fun k=>eqS s (sv k)) [(J47,.i),(J80,.t),([98,108,111,98],.b)]
 | _=>none
theorem jn {v:Value} {x:SD} (h:cg v=some x):v=x.v (ak v):=by
 cases v with
 | none=>cases h;rfl
 | str s t=>exact congrFun (anx (F:=fun k t=>Value.str (sv k) t) (b:=fun t=>Value.str s t) (fun k q=>by rw [bp q]) (fun (x:SD) t=>x.v t) (show lk (fun k=>eqS s (sv k)) [(J47,SD.i),(J80,.t),([98,108,111,98],.b)]=some x from h) (by kernel_rfl)) t
 | _=>cases h
theorem lu (x:SD) (t:Tok):cg (x.v t)=some x:=by cases x<;>rfl
def RV (o:OC) (J:WB):LG J where
 P:=Raw
 fs:=[.arg 1]
 qt:=0
 q:=0
 it:=1
 need:=16
 ext:=Raw.mk
 obl _ p:=([.hb (v8Of (ax p.c 0)).isSome,.hb (cK (ao p.os).1.toList),.hb (Nat.ble (ao p.os).1.toList.length 3),.hb (bh (aD (ax p.c 4))).isSome,.hb (cg (ax p.c 2)).isSome,.hb (cg (ax p.c 3)).isSome,.hb ((vV ((cg (ax p.c 2)).getD .n) ((cg (ax p.c 3)).getD .n) (ax p.c 0) (ao p.os).1.toList (aD (ax p.c 4))).is o)],[.hb true,.hb true,.hb true,.hb true,.hb true,.hb true,.hb true])
 code I p:=.call (.ref 1145) ⟨[ax p.c 0,.ref (ad I 0),ax p.c 2,ax p.c 3,aS p.c 4],[]⟩
 pre I p:=[ab (ao p.os).1 (ao p.os).2]
 preX p:=p.X
 post I O p:=[ab (ao p.os).1 (ao p.os).2]
 postX I O p:=p.X
 res _ O p:=o.v (O 0)
 qle:=ai _
 olen _ _:=rfl
 len _ _ _:=rfl
 ok p I a _:=by
  obtain ⟨m,a⟩:=aU a
  obtain ⟨g,a⟩:=aU a
  obtain ⟨s,a⟩:=aU a
  obtain ⟨i,a⟩:=aU a
  obtain ⟨h6,a⟩:=aU a
  obtain ⟨r,a⟩:=aU a
  obtain ⟨h5,-⟩:=aU a
  obtain ⟨sx,e⟩:=lw.mp h6
  obtain ⟨sy,b⟩:=lw.mp r
  have e6:=jn e
  have l:=jn b
  obtain ⟨x,f⟩:=lw.mp m
  obtain ⟨nc,d⟩:=lw.mp i
  have e1:=ew f
  have e4:=lz d
  have hr:=OC.is_eq h5
  unfold vV at hr
  rw [f,d,e,b] at hr
  have u:ad (ah 1 I) 0=ad I 0:=rfl
  have key:=(Do (J:=J) sx sy x (ak (ax p.c 0)) (ao p.os).1.toList (v8L (ao p.os).1.toList) nc (um g) (ag s) (ad I 0) (ao p.os).2 (b8 _ _) (ak (ax p.c 2)) (ak (ax p.c 3)) (ak (ax p.c 4))).frame (uU J.p p.X)
  refine HR.tx (nx:=false) (k:=1) (K:=fun I' O'=>_) ?_
  have j:(Code.call (.ref 1145) ⟨[ax p.c 0,.ref (ad (ah 1 I) 0),ax p.c 2,ax p.c 3,aS p.c 4],[]⟩)=Code.call (.ref 1145) ⟨[x.v (ak (ax p.c 0)),.ref (ad I 0),sx.v (ak (ax p.c 2)),sy.v (ak (ax p.c 3)),.str (aA nc) (ak (ax p.c 4))],[]⟩:=by
   unfold aS
   rw [u,← e1,e4,← e6,← l]
  show HR _ _ 16 (.code (Code.call (.ref 1145) ⟨[ax p.c 0,.ref (ad (ah 1 I) 0),ax p.c 2,ax p.c 3,aS p.c 4],[]⟩)) _ _
  rw [j]
  refine key.mono (ai _) fun en L' h=>?_
  obtain ⟨w,rfl,⟨t,rfl⟩,rfl⟩:=h
  refine ⟨I,fun z=>t,fun z z=>rfl,?_,rfl⟩
  show En.ret _=En.ret (o.v (ah 1 (fun z=>t) 0))
  rw [← hr]
  rfl
set_option linter.constructorNameAsVariable false
theorem HTx.hr {w:World} {top:Tr} {need k:Nat} {c:Code} {L:XL} {I:ae8} {K:(Nat→Nat)→(Nat→Nat)→Value × XL} (H:HTx false w top need k c L I K) :
  HR w top need (.code c) L (fun e L'=>∃ I' O',(∀ j,j < k→I' j=I j)∧e=.ret (K I' O').1∧L'=(K I' O').2):=
 fun A R h g d tk os o m hb q p=>H A R h g d tk os o m hb q fun I' O' b a l f n i h5=>p _ _ b a ⟨I',O',l,rfl,rfl⟩ f n i h5
def aY (o:Obj):Nat:=i8 o.cls
noncomputable def bo (c:Nat):Bool:=Nat.beq c 256
def eI (P:Params) (c:Nat) (o:Obj):Prop:=(c=230∧∃ t v,(kindOf v).isSome=true∧o=lv P t v)∨(c=256∧∃ t pl a ta b tc,j4 b=true∧o=uu P t pl (.str a ta) (.str b tc))
def QH (b:Bool) (J:WB):LG J where
 P:=Raw
 fs:=[.arg 0,.dict 0]
 qt:=0
 q:=0
 it:=0
 need:=5
 ext:=Raw.mk
 obl _ p:=([.hb (cF (eI J.p (aY (uF p.os 0)) (uF p.os 1))),.hb (bo (aY (uF p.os 0)))],[.hb true,.hb b])
 code I p:=.call (.ref 681) ⟨[.ref (ad I 0)],[]⟩
 pre I p:=[aw (aY (uF p.os 0)) (ad I 1),uF p.os 1]
 preX p:=p.X
 post I O p:=[aw (aY (uF p.os 0)) (ad I 1),uF p.os 1]
 postX _ _ p:=p.X
 res _ _ p:=match b with
  | true=>vS p 1 5
  | false=>.none
 qle:=ai _
 olen _ _:=rfl
 len _ _ _:=rfl
 ok p I g _:=by
  obtain ⟨j,g⟩:=aU g
  have d:bo (aY (uF p.os 0))=b:=OV.hb.inj (List.cons.inj g).1
  refine HR.tx (nx:=false) (k:=2) (K:=fun I' O'=>_) ?_
  rcases dU j with ⟨hcl,t,v,-,ho⟩ | ⟨hcl,t,pl,a,ta,cc,tc',-,ho⟩
  · rw [hcl] at d
    subst d
    have H:=(((RN J).ok ⟨p.c,[aw 230 (ad I 1)],p.X⟩ I rfl rfl).hr.frame ([(ad I 1,uF p.os 1)])).mono (need':=5) (ag rfl) fun e L' h=>h
    refine (H.perm (L':=tc I 0 [aw (aY (uF p.os 0)) (ad I 1),uF p.os 1]++uU J.p p.X) ?_).drop <| elD fun I' O' f=>?_
    · rw [hcl]
      show List.Perm (([(ad I 0,aw 230 (ad I 1))]++uU _ p.X)++[(ad I 1,uF p.os 1)]) ([(ad I 0,aw 230 (ad I 1)),(ad I 1,uF p.os 1)]++uU _ p.X)
      exact ane (L:=[_]) (E:=[_,_]) (.a (.a (.c 0 .n) (.l 0)) (.c 1 .n)) (.a (.c 0 (.c 1 .n)) (.l 0)) rfl
    · have i:ad I' 0=ad I 0:=by unfold ad;rw [f 0 (ag rfl)]
      refine ⟨_,[],?_,I,O',fun z z=>rfl,rfl,rfl⟩
      rw [au]
      show List.Perm (([(ad I' 0,aw 230 (ad I 1))]++uU _ p.X)++[(ad I 1,uF p.os 1)]) ([(ad I 0,aw (aY (uF p.os 0)) (ad I 1)),(ad I 1,uF p.os 1)]++uU _ p.X)
      rw [hcl,i]
      exact ane (L:=[_]) (E:=[_,_]) (.a (.a (.c 0 .n) (.l 0)) (.c 1 .n)) (.a (.c 0 (.c 1 .n)) (.l 0)) rfl
  · rw [hcl] at d
    subst d
    have hr:dH J.p p 1=uF p.os 1:=by
     unfold dH kT vS vI vN
     rw [ho];rfl
    have H:=((Tm J).ok p I rfl rfl).hr.mono (need':=5) (ag rfl) fun e L' h=>h
    have H:HR _ _ _ _ (tc I 0 [aw 256 (ad I 1),dH J.p p 1]++uU J.p p.X) _:=H
    rw [hr,← hcl] at H
    refine H.mono (ai _) <| elA fun I' O' f=>?_
    refine ⟨I',O',f,rfl,?_⟩
    show tc I' 0 [aw 256 (ad I' 1),dH J.p p 1]++uU J.p p.X=tc I' 0 [aw (aY (uF p.os 0)) (ad I' 1),uF p.os 1]++uU J.p p.X
    rw [hr,hcl]
def cmS (c1:Nat) (a:Obj) (c2:Nat) (o2:Obj):Str:=match bo c1 with
 | true=>aD (bN a 6)
 | false=>match bo c2 with
  | true=>aD (bN o2 6)
  | false=>sv J30
def cmT (c1:Nat) (a:Obj) (c2:Nat) (o2:Obj) (t:Tok):Tok:=match bo c1 with
 | true=>ak (bN a 6)
 | false=>match bo c2 with
  | true=>ak (bN o2 6)
  | false=>t
set_option linter.constructorNameAsVariable false
def kS (c:Nat) (o:Obj) (tg:Value) (a b d:Tok):Obj:=match bo c with
 | true=>row J22 a (.int 1 b) tg (.int 1 d) .none
 | false=>row J10 a (.int 0 b) tg (.int 0 d) (bN o 0)
def Bd (P:Params) (c:Nat) (o:Obj):Prop:=eI P c o∧(bo c=true→am (bN o 3)=0)
def jD (p:Raw) (a:Nat):Obj:=uN [⟨4,.int 4 (ak (abi (uF p.os 4) 0)),.ref a⟩] 1
def jC (p:Raw):Obj:=aO [.str (sv J77) (ak (vN p 5 0)),.int 1 (ak (vN p 5 1))]
def aas (J:WB):LG J where
 P:=Raw
 fs:=[.arg 0,.dict 0,.arg 1,.dict 2,.ent 1 1,.ent 4 0]
 qt:=0
 q:=1
 it:=3
 need:=64
 ext:=Raw.mk
 obl _ p:=([.hb (cF (Bd J.p (aY (uF p.os 2)) (uF p.os 3))),.hb (Nat.ble (aj p.X).n 1000000)],[.hb true,.hb true])
 code I p:=.call (.ref 753) ⟨[.ref (ad I 0),.ref (ad I 2),aI p.c 2],[]⟩
 pre I p:=[aw 1063 (ad I 1),qi J.p p 1 (ad I 4),aw (aY (uF p.os 2)) (ad I 3),uF p.os 3,jD p (ad I 5),jC p]
 preX p:=some (aj p.X)
 post I O p:=[aw 1063 (ad I 1),qi J.p p 1 (ad I 4),aw (aY (uF p.os 2)) (ad I 3),uF p.os 3,jD p (ad I 5),jC p]
 postX I O p:=some ((aj p.X).add (ad I 6,kS (aY (uF p.os 2)) (uF p.os 3) (aI p.c 2) (O 0) (O 1) (O 2)))
 res _ _ p:=aI p.c 2
 qle:=Bt _
 olen _ _:=rfl
 len _ _ _:=rfl
 ok p I o _:=by
  obtain ⟨y,o⟩:=aU o
  obtain ⟨s,-⟩:=aU o
  obtain ⟨hq,g⟩:=dU y
  refine HR.tx (nx:=false) (k:=6) (K:=fun I' O'=>_) ?_
  rcases hq with ⟨hcl,t,v,hk,ho⟩ | ⟨hcl,t,pl,a,ta,cc,tc',-,ho⟩
  · refine exL (⟨p.c,[default,qi J.p p 1 (ad I 4),default,lv J.p t v],p.X⟩:Raw) fun q b=>?_
    have H:=(((abZ J).ok q I (by rw [b];exact hbT hk (hbT s rfl)) rfl).hr.frame ([(ad I 4,jD p (ad I 5)),(ad I 5,jC p)])).mono (need':=64) (ag rfl) fun e L' h=>h
    have H:HR _ _ _ (.code (.call (.ref 753) ⟨[.ref (ad I 0),.ref (ad I 2),aI q.c 2],[]⟩)) ((tc I 0 [aw 1063 (ad I 1),iD J.p q 1,aw 230 (ad I 3),aE [dF J.p J2 (kT q 3 0) (vN q 3 0)] 1]++uU J.p (some (aj q.X)))++[(ad I 4,jD p (ad I 5)),(ad I 5,jC p)]) _:=H
    have u:iD J.p q 1=qi J.p p 1 (ad I 4):=by rw [b];rfl
    have w:aE [dF J.p J2 (kT q 3 0) (vN q 3 0)] 1=uF p.os 3:=by rw [b,ho];rfl
    have m:q.c=p.c:=by rw [b]
    have r:q.X=p.X:=by rw [b]
    have z:vN q 3 0=bN (uF p.os 3) 0:=by rw [b,ho];rfl
    rw [u,w,m,r] at H
    refine (H.perm (L':=tc I 0 [aw 1063 (ad I 1),qi J.p p 1 (ad I 4),aw (aY (uF p.os 2)) (ad I 3),uF p.os 3,jD p (ad I 5),jC p]++uU J.p (some (aj p.X))) ?_).drop <| elD fun I' O' f=>?_
    · rw [hcl]
      show List.Perm ([(ad I 0,_),(ad I 1,_),(ad I 2,_),(ad I 3,_)]++uU _ _++[(ad I 4,_),(ad I 5,_)]) ([(ad I 0,_),(ad I 1,_),(ad I 2,_),(ad I 3,_),(ad I 4,_),(ad I 5,_)]++uU _ _)
      exact ane (L:=[_]) (E:=[_,_,_,_,_,_]) (.a (.a (.c 0 (.c 1 (.c 2 (.c 3 .n)))) (.l 0)) (.c 4 (.c 5 .n))) (.a (.c 0 (.c 1 (.c 2 (.c 3 (.c 4 (.c 5 .n)))))) (.l 0)) rfl
    · have x:ad I' 0=ad I 0:=by unfold ad;rw [f 0 (ag rfl)]
      have e1:ad I' 1=ad I 1:=by unfold ad;rw [f 1 (ag rfl)]
      have e2:ad I' 2=ad I 2:=by unfold ad;rw [f 2 (ag rfl)]
      have e3:ad I' 3=ad I 3:=by unfold ad;rw [f 3 (ag rfl)]
      refine ⟨_,[],?_,fun j=>match j with | 6=>I' 4 | j=>I j,O',?_,?_,rfl⟩
      · rw [au]
        show List.Perm ((tc I' 0 [aw 1063 (ad I' 1),iD J.p q 1,aw 230 (ad I' 3),aE [dF J.p J2 (kT q 3 0) (vN q 3 0)] 1]++uU J.p (some ((aj q.X).add (ad I' 4,row J10 (O' 0) (.int 0 (O' 1)) (aI q.c 2) (.int 0 (O' 2)) (vN q 3 0)))))++[(ad I 4,jD p (ad I 5)),(ad I 5,jC p)])
         ([(ad I 0,aw 1063 (ad I 1)),(ad I 1,qi J.p p 1 (ad I 4)),(ad I 2,aw (aY (uF p.os 2)) (ad I 3)),(ad I 3,uF p.os 3),(ad I 4,jD p (ad I 5)),(ad I 5,jC p)]++uU J.p (some ((aj p.X).add (ad I' 4,kS (aY (uF p.os 2)) (uF p.os 3) (aI p.c 2) (O' 0) (O' 1) (O' 2)))))
        have i:kS (aY (uF p.os 2)) (uF p.os 3) (aI p.c 2) (O' 0) (O' 1) (O' 2)=row J10 (O' 0) (.int 0 (O' 1)) (aI p.c 2) (.int 0 (O' 2)) (vN q 3 0):=by
         rw [z,hcl];rfl
        rw [i,u,w,m,r,hcl]
        show List.Perm ([(ad I' 0,aw 1063 (ad I' 1)),(ad I' 1,_),(ad I' 2,aw 230 (ad I' 3)),(ad I' 3,_)]++_++_) _
        rw [x,e1,e2,e3]
        exact ane (L:=[_]) (E:=[_,_,_,_,_,_]) (.a (.a (.c 0 (.c 1 (.c 2 (.c 3 .n)))) (.l 0)) (.c 4 (.c 5 .n))) (.a (.c 0 (.c 1 (.c 2 (.c 3 (.c 4 (.c 5 .n)))))) (.l 0)) rfl
      · exact bnd rfl (bnd rfl (bnd rfl (bnd rfl (bnd rfl (bnd rfl anF)))))
      · show En.ret (aI q.c 2)=En.ret (aI p.c 2)
        rw [m]
  · have d:am (bN (uF p.os 3) 3)=0:=g (by rw [hcl];rfl)
    have d:pl=0:=by rw [ho] at d;exact d
    have hr:xG J.p p 3=uF p.os 3:=by
     unfold xG kT vS vI vN
     rw [ho,d];rfl
    have H:=((acb J).ok p I (hbT s (by rfl)) rfl).hr.mono (need':=64) (ag rfl) fun e L' h=>h
    have H:HR _ _ _ _ (tc I 0 [aw 1063 (ad I 1),qi J.p p 1 (ad I 4),aw 256 (ad I 3),xG J.p p 3,jD p (ad I 5),jC p]++uU J.p (some (aj p.X))) _:=H
    rw [hr,← hcl] at H
    refine H.mono (ai _) <| elA fun I' O' f=>?_
    refine ⟨I',O',f,rfl,?_⟩
    show tc I' 0 [aw 1063 (ad I' 1),qi J.p p 1 (ad I' 4),aw 256 (ad I' 3),xG J.p p 3,jD p (ad I' 5),jC p]++uU J.p (some ((aj p.X).add (ad I' 6,row J22 (O' 0) (.int 1 (O' 1)) (aI p.c 2) (.int 1 (O' 2)) .none)))=tc I' 0 [aw 1063 (ad I' 1),qi J.p p 1 (ad I' 4),aw (aY (uF p.os 2)) (ad I' 3),uF p.os 3,jD p (ad I' 5),jC p]++uU J.p (some ((aj p.X).add (ad I' 6,kS (aY (uF p.os 2)) (uF p.os 3) (aI p.c 2) (O' 0) (O' 1) (O' 2))))
    have i:kS (aY (uF p.os 2)) (uF p.os 3) (aI p.c 2) (O' 0) (O' 1) (O' 2)=row J22 (O' 0) (.int 1 (O' 1)) (aI p.c 2) (.int 1 (O' 2)) .none:=by rw [hcl];rfl
    rw [hr,hcl,← i,hcl]
set_option linter.constructorNameAsVariable false
def Qh (J:WB):LG J where
 P:=Raw
 fs:=[.arg 0,.dict 0,.arg 1,.dict 2]
 qt:=0
 q:=0
 it:=1
 need:=12
 ext:=Raw.mk
 obl _ p:=([.hb (cF (eI J.p (aY (uF p.os 0)) (uF p.os 1))),.hb (cF (eI J.p (aY (uF p.os 2)) (uF p.os 3)))],[.hb true,.hb true])
 code I p:=.call (.ref 717) ⟨[.ref (ad I 0),.ref (ad I 2)],[]⟩
 pre I p:=[aw (aY (uF p.os 0)) (ad I 1),uF p.os 1,aw (aY (uF p.os 2)) (ad I 3),uF p.os 3]
 preX p:=p.X
 post I O p:=[aw (aY (uF p.os 0)) (ad I 1),uF p.os 1,aw (aY (uF p.os 2)) (ad I 3),uF p.os 3]
 postX _ _ p:=p.X
 res _ O p:=.str (cmS (aY (uF p.os 0)) (uF p.os 1) (aY (uF p.os 2)) (uF p.os 3)) (cmT (aY (uF p.os 0)) (uF p.os 1) (aY (uF p.os 2)) (uF p.os 3) (O 0))
 qle:=ai _
 olen _ _:=rfl
 len _ _ _:=rfl
 ok p I B _:=by
  obtain ⟨D,B⟩:=aU B
  obtain ⟨C,-⟩:=aU B
  refine HR.tx (nx:=false) (k:=4) (K:=fun I' O'=>_) ?_
  have d:tc I 0 [aw (aY (uF p.os 0)) (ad I 1),uF p.os 1,aw (aY (uF p.os 2)) (ad I 3),uF p.os 3]=[(ad I 0,aw (aY (uF p.os 0)) (ad I 1)),(ad I 1,uF p.os 1),(ad I 2,aw (aY (uF p.os 2)) (ad I 3)),(ad I 3,uF p.os 3)]:=rfl
  rcases dU D with ⟨hcl,t,v,-,ho⟩ | ⟨hcl,t,pl,a,ta,cc,tc',hcc,ho⟩<;>rcases dU C with ⟨hcl2,t2,v2,-,ho2⟩ | ⟨hcl2,t2,pl2,a2,ta2,cc2,tc2,hcc2,ho2⟩
  · have H:=(((ML J).ok ⟨p.c,[aw 230 (ad I 1),aw 230 (ad I 3)],p.X⟩ (fun j=>match j with | 0=>I 0 | _=>I 2) rfl rfl).hr.frame ([(ad I 1,uF p.os 1),(ad I 3,uF p.os 3)])).mono (need':=12) (ag rfl) fun e L' h=>h
    have H:HR _ _ _ (.code (.call (.ref 717) ⟨[.ref (ad I 0),.ref (ad I 2)],[]⟩)) (([(ad I 0,aw 230 (ad I 1)),(ad I 2,aw 230 (ad I 3))]++uU J.p p.X)++[(ad I 1,uF p.os 1),(ad I 3,uF p.os 3)]) _:=H
    refine (H.perm (L':=tc I 0 [aw (aY (uF p.os 0)) (ad I 1),uF p.os 1,aw (aY (uF p.os 2)) (ad I 3),uF p.os 3]++uU J.p p.X) ?_).drop <| elD fun I' O' f=>?_
    · rw [d,hcl,hcl2]
      exact ane (L:=[_]) (E:=[_,_,_,_]) (.a (.a (.c 0 (.c 1 .n)) (.l 0)) (.c 2 (.c 3 .n))) (.a (.c 0 (.c 2 (.c 1 (.c 3 .n)))) (.l 0)) rfl
    · have o:ad I' 0=ad I 0:=congrArg (fun x=>x + 1158) (f 0 (ag rfl))
      have r:ad I' 1=ad I 2:=congrArg (fun x=>x + 1158) (f 1 (ag rfl))
      refine ⟨_,[],?_,I,O',fun Z Z=>rfl,?_,rfl⟩
      · rw [au]
        show List.Perm (([(ad I' 0,aw 230 (ad I 1)),(ad I' 1,aw 230 (ad I 3))]++uU J.p p.X)++[(ad I 1,uF p.os 1),(ad I 3,uF p.os 3)]) (tc I 0 [aw (aY (uF p.os 0)) (ad I 1),uF p.os 1,aw (aY (uF p.os 2)) (ad I 3),uF p.os 3]++uU J.p p.X)
        rw [d,hcl,hcl2,o,r]
        exact ane (L:=[_]) (E:=[_,_,_,_]) (.a (.a (.c 0 (.c 1 .n)) (.l 0)) (.c 2 (.c 3 .n))) (.a (.c 0 (.c 2 (.c 1 (.c 3 .n)))) (.l 0)) rfl
      · show En.ret (.str (sv J30) (ah 1 O' 0))=En.ret (.str (cmS (aY (uF p.os 0)) (uF p.os 1) (aY (uF p.os 2)) (uF p.os 3)) (cmT (aY (uF p.os 0)) (uF p.os 1) (aY (uF p.os 2)) (uF p.os 3) (ah 1 O' 0)))
        rw [hcl,hcl2];rfl
  · refine exL (⟨p.c,[aw 230 (ad I 1),default,uF p.os 3],p.X⟩:Raw) fun q b=>?_
    have m:j4 (aD (vN q 2 6))=true:=by rw [b];show j4 (aD (bN (uF p.os 3) 6))=true;rw [ho2];exact hcc2
    have H:=(((MG J).ok q (fun j=>match j with | 0=>I 0 | 1=>I 2 | _=>I 3) (hbT m rfl) rfl).hr.frame ([(ad I 1,uF p.os 1)])).mono (need':=12) (ag rfl) fun e L' h=>h
    have H:HR _ _ _ (.code (.call (.ref 717) ⟨[.ref (ad I 0),.ref (ad I 2)],[]⟩)) (([(ad I 0,jB q 0 230),(ad I 2,aw 256 (ad I 3)),(ad I 3,dH J.p q 2)]++uU J.p q.X)++[(ad I 1,uF p.os 1)]) _:=H
    have g:jB q 0 230=aw 230 (ad I 1):=by rw [b];rfl
    have i:dH J.p q 2=uF p.os 3:=by rw [b,ho2];rfl
    have s:q.X=p.X:=by rw [b]
    have w:vS q 2 6=.str (aD (bN (uF p.os 3) 6)) (ak (bN (uF p.os 3) 6)):=by rw [b];rfl
    rw [g,i,s] at H
    refine (H.perm (L':=tc I 0 [aw (aY (uF p.os 0)) (ad I 1),uF p.os 1,aw (aY (uF p.os 2)) (ad I 3),uF p.os 3]++uU J.p p.X) ?_).drop <| elD fun I' O' f=>?_
    · rw [d,hcl,hcl2]
      exact ane (L:=[_]) (E:=[_,_,_,_]) (.a (.a (.c 0 (.c 1 (.c 2 .n))) (.l 0)) (.c 3 .n)) (.a (.c 0 (.c 3 (.c 1 (.c 2 .n)))) (.l 0)) rfl
    · have o:ad I' 0=ad I 0:=congrArg (fun x=>x + 1158) (f 0 (ag rfl))
      have r:ad I' 1=ad I 2:=congrArg (fun x=>x + 1158) (f 1 (ag rfl))
      have y:ad I' 2=ad I 3:=congrArg (fun x=>x + 1158) (f 2 (ag rfl))
      refine ⟨_,[],?_,I,O',fun Z Z=>rfl,?_,rfl⟩
      · rw [au]
        show List.Perm (([(ad I' 0,jB q 0 230),(ad I' 1,aw 256 (ad I' 2)),(ad I' 2,dH J.p q 2)]++uU J.p q.X)++[(ad I 1,uF p.os 1)]) (tc I 0 [aw (aY (uF p.os 0)) (ad I 1),uF p.os 1,aw (aY (uF p.os 2)) (ad I 3),uF p.os 3]++uU J.p p.X)
        rw [d,hcl,hcl2,o,r,y,g,i,s]
        exact ane (L:=[_]) (E:=[_,_,_,_]) (.a (.a (.c 0 (.c 1 (.c 2 .n))) (.l 0)) (.c 3 .n)) (.a (.c 0 (.c 3 (.c 1 (.c 2 .n)))) (.l 0)) rfl
      · show En.ret (vS q 2 6)=En.ret (.str (cmS (aY (uF p.os 0)) (uF p.os 1) (aY (uF p.os 2)) (uF p.os 3)) (cmT (aY (uF p.os 0)) (uF p.os 1) (aY (uF p.os 2)) (uF p.os 3) (ah 1 O' 0)))
        rw [w,hcl,hcl2];rfl
  · refine exL (⟨p.c,[default,uF p.os 1,aw 230 (ad I 3)],p.X⟩:Raw) fun q b=>?_
    have H:=(((N6 J).ok q I rfl rfl).hr.frame ([(ad I 3,uF p.os 3)])).mono (need':=12) (ag rfl) fun e L' h=>h
    have H:HR _ _ _ (.code (.call (.ref 717) ⟨[.ref (ad I 0),.ref (ad I 2)],[]⟩)) (([(ad I 0,aw 256 (ad I 1)),(ad I 1,dH J.p q 1),(ad I 2,jB q 2 230)]++uU J.p q.X)++[(ad I 3,uF p.os 3)]) _:=H
    have g:jB q 2 230=aw 230 (ad I 3):=by rw [b];rfl
    have i:dH J.p q 1=uF p.os 1:=by rw [b,ho];rfl
    have s:q.X=p.X:=by rw [b]
    have w:vS q 1 6=.str (aD (bN (uF p.os 1) 6)) (ak (bN (uF p.os 1) 6)):=by rw [b];rfl
    rw [g,i,s] at H
    refine (H.perm (L':=tc I 0 [aw (aY (uF p.os 0)) (ad I 1),uF p.os 1,aw (aY (uF p.os 2)) (ad I 3),uF p.os 3]++uU J.p p.X) ?_).drop <| elD fun I' O' f=>?_
    · rw [d,hcl,hcl2]
      exact ane (L:=[_]) (E:=[_,_,_,_]) (.a (.a (.c 0 (.c 1 (.c 2 .n))) (.l 0)) (.c 3 .n)) (.a (.c 0 (.c 1 (.c 2 (.c 3 .n)))) (.l 0)) rfl
    · have o:ad I' 0=ad I 0:=congrArg (fun x=>x + 1158) (f 0 (ag rfl))
      have r:ad I' 1=ad I 1:=congrArg (fun x=>x + 1158) (f 1 (ag rfl))
      have y:ad I' 2=ad I 2:=congrArg (fun x=>x + 1158) (f 2 (ag rfl))
      refine ⟨_,[],?_,I,O',fun Z Z=>rfl,?_,rfl⟩
      · rw [au]
        show List.Perm (([(ad I' 0,aw 256 (ad I' 1)),(ad I' 1,dH J.p q 1),(ad I' 2,jB q 2 230)]++uU J.p q.X)++[(ad I 3,uF p.os 3)]) (tc I 0 [aw (aY (uF p.os 0)) (ad I 1),uF p.os 1,aw (aY (uF p.os 2)) (ad I 3),uF p.os 3]++uU J.p p.X)
        rw [d,hcl,hcl2,o,r,y,g,i,s]
        exact ane (L:=[_]) (E:=[_,_,_,_]) (.a (.a (.c 0 (.c 1 (.c 2 .n))) (.l 0)) (.c 3 .n)) (.a (.c 0 (.c 1 (.c 2 (.c 3 .n)))) (.l 0)) rfl
      · show En.ret (vS q 1 6)=En.ret (.str (cmS (aY (uF p.os 0)) (uF p.os 1) (aY (uF p.os 2)) (uF p.os 3)) (cmT (aY (uF p.os 0)) (uF p.os 1) (aY (uF p.os 2)) (uF p.os 3) (ah 1 O' 0)))
        rw [w,hcl,hcl2];rfl
  · have g:dH J.p p 1=uF p.os 1:=by
     unfold dH kT vS vI vN
     rw [ho];rfl
    have i:dH J.p p 3=uF p.os 3:=by
     unfold dH kT vS vI vN
     rw [ho2];rfl
    have H:=((LN J).ok p I rfl rfl).hr.mono (need':=12) (ag rfl) fun e L' h=>h
    have H:HR _ _ _ _ (tc I 0 [aw 256 (ad I 1),dH J.p p 1,aw 256 (ad I 3),dH J.p p 3]++uU J.p p.X) _:=H
    rw [g,i] at H
    have M:∀ (u P2:En→XL→Prop) (A z:XL),A=z→(∀ e L',u e L'→P2 e L')→HRG J 12 (.code (.call (.ref 717) ⟨[.ref (ad I 0),.ref (ad I 2)],[]⟩)) A u→HRG J 12 (.code (.call (.ref 717) ⟨[.ref (ad I 0),.ref (ad I 2)],[]⟩)) z P2:=fun u P2 A z e F h=>by
     rw [← e];exact h.mono (ai _) F
    refine M _ _ _ _ ?_ (fun en L' G=>?_) H
    · show _=tc I 0 [aw (aY (uF p.os 0)) (ad I 1),uF p.os 1,aw (aY (uF p.os 2)) (ad I 3),uF p.os 3]++uU J.p p.X
      rw [hcl,hcl2]
    obtain ⟨I',O',f,rfl,rfl⟩:=G
    refine ⟨I',O',f,?_,?_⟩
    · show En.ret (vS p 1 6)=En.ret (.str (cmS (aY (uF p.os 0)) (uF p.os 1) (aY (uF p.os 2)) (uF p.os 3)) (cmT (aY (uF p.os 0)) (uF p.os 1) (aY (uF p.os 2)) (uF p.os 3) (ah 1 O' 0)))
      rw [hcl,hcl2];rfl
    · show tc I' 0 [aw 256 (ad I' 1),dH J.p p 1,aw 256 (ad I' 3),dH J.p p 3]++uU J.p p.X=tc I' 0 [aw (aY (uF p.os 0)) (ad I' 1),uF p.os 1,aw (aY (uF p.os 2)) (ad I' 3),uF p.os 3]++uU J.p p.X
      rw [g,i,hcl,hcl2]
set_option linter.constructorNameAsVariable false
inductive CA where
 | n [h:Nonempty Nat] | l | r
noncomputable def eCA:Enu CA:=⟨[.n,.l,.r],by intro v;cases v<;>repeat constructor⟩
noncomputable def CA.is:CA→CA→Bool
 | .n,.n=>true
 | .l,.l=>true
 | .r,.r=>true
 | _,_=>false
theorem CA.is_eq {a b:CA} (h:a.is b=true):a=b:=by cases a<;>cases b<;>first | rfl | cases h
theorem CA.is_self (a:CA):a.is a=true:=by cases a<;>rfl
noncomputable def caM:SD→SD→CA
 | .i,.i=>.n
 | .i,_=>.r
 | _,.i=>.l
 | .t,.n=>.r
 | .n,.t=>.l
 | _,_=>.n
noncomputable def caF:SD→SD→AF
 | .i,_=>.num
 | _,.i=>.num
 | _,_=>.txt
noncomputable def caO (oc:CA) (f:Str) (t:Tok):Obj:=match oc with
 | .n=>aO [.none,.none]
 | .l=>aO [.str f t,.none]
 | .r=>aO [.none,.str f t]
def dq (a b:Value):Str:=(caF ((cg a).getD .n) ((cg b).getD .n)).s
def ahL (v:SD × SD) (J:WB):List (SG J):=smS ((fun c=>isB "tuple.__contains__" c && amf c 1 2,d9 _) :: []:CL J)
noncomputable def ahy (v:SD × SD):List Nat:=match v.1 with | .n=>(match v.2 with | .n=>[] | .i=>[2] | .t=>[4] | .b=>[]) | .i=>(match v.2 with | .n=>[2] | .i=>[] | .t | .b=>[2]) | .t=>(match v.2 with | .n=>[3] | .i=>[2] | .t | .b=>[]) | .b=>(match v.2 with | .n=>[] | .i=>[2] | .t | .b=>[])
noncomputable def ah0 (v:SD × SD):List Nat:=match v.1 with | .n=>(match v.2 with | .n=>(by walk_at "#m.g9nm") | .i=>(by walk_at "#oGe,") | .t=>(by walk_at "#oG%fJ") | .b=>(by walk_at "#oG%4")) | .i=>(match v.2 with | .n=>(by walk_at "#o.") | .i=>(by walk_at "#j2l`l`C4") | .t | .b=>ac7) | .t=>(match v.2 with | .n=>(by walk_at "#o.fJ") | .i=>ac8 | .t=>(by walk_at "#mTi7") | .b=>(by walk_at "#mTC")) | .b=>(match v.2 with | .n=>(by walk_at "#o.ko") | .i=>ac8 | .t=>(by walk_at "#mTfJ") | .b=>(by walk_at "#mT4"))
def ca (v:SD × SD) (P:Params):aq Raw:=akt.spec ((⟨0,1,1,1,5,122,false,[1],ahy v,ah0 v⟩:akt) ) (fun p I=>.code (.call (.ref 668) ⟨[v.1.v (ak (ax p.c 0)),v.2.v (ak (ax p.c 1))],[]⟩:Code)) (fun p I=>[]) (fun p=>none) (fun p I O=>.ret (.ref (ad I 0):Value)) (fun p I O=>[caO (caM v.1 v.2) (caF v.1 v.2).s (O 0)]) (fun p I O=>none) (fun p I O=>[]) (fun p I O=>[])
theorem oP (v:SD × SD) (J:WB) (p:Raw):(ca v J.p).Runs J.w J.t (ahL v J) p:=amK (eSD.pr eSD) (fun v J=>ca v J.p) (fun v J=>ahL v J) v J p
def ah6 (v:SD × SD) (J:WB):LG J:=aq.toPL2 (ahL v J) (ca v J.p) [] (oP v J)
set_option linter.constructorNameAsVariable false
section
variable {J:WB}
theorem aan (sx sy:SD) (c:Code) (X:XT) (I:ae8):HRG J 6 (.code (.call (.ref 668) ⟨[sx.v (ak (ax c 0)),sy.v (ak (ax c 1))],[]⟩)) (uU J.p X)
  (fun e L'=>∃ (I' O':ae8),e=.ret (.ref (ad I' 0))∧L'=[(ad I' 0,caO (caM sx sy) (caF sx sy).s (O' 0))]++uU J.p X):=by
 exact ((ah6 (sx,sy) J).ok ⟨c,[],X⟩ I rfl rfl).hr.mono (ag rfl) <| elA fun I' O' z=>by
  exact ⟨I',fun j=>O' j,rfl,rfl⟩
end
def W7 (k1 k2:VK) (oc:CA) (J:WB):LG J where
 P:=Raw
 fs:=[]
 qt:=1
 q:=1
 it:=1
 need:=6
 ext:=Raw.mk
 obl _ p:=([.hb (cg (k1.as (ax p.c 0))).isSome,.hb (cg (k2.as (ax p.c 1))).isSome,.hb ((caM ((cg (k1.as (ax p.c 0))).getD .n) ((cg (k2.as (ax p.c 1))).getD .n)).is oc)],[.hb true,.hb true,.hb true])
 code I p:=.call (.ref 668) ⟨[k1.as (ax p.c 0),k2.as (ax p.c 1)],[]⟩
 pre I p:=[]
 preX p:=p.X
 post I O p:=[caO oc (dq (k1.as (ax p.c 0)) (k2.as (ax p.c 1))) (O 0)]
 postX _ _ p:=p.X
 res I _ p:=.ref (ad I 0)
 qle:=ai _
 olen _ _:=rfl
 len _ _ _:=rfl
 ok p I a _:=by
  obtain ⟨i,a⟩:=aU a
  obtain ⟨g,a⟩:=aU a
  obtain ⟨l,-⟩:=aU a
  obtain ⟨sx,e⟩:=lw.mp i
  obtain ⟨sy,d⟩:=lw.mp g
  have b:=CA.is_eq l
  rw [e,d] at b
  have b:caM sx sy=oc:=b
  have m:dq (k1.as (ax p.c 0)) (k2.as (ax p.c 1))=(caF sx sy).s:=by unfold dq;rw [e,d];rfl
  refine HR.tx (nx:=false) (k:=0) (K:=fun I' O'=>_) ?_
  have e1:=jn e
  have e2:=jn d
  show HR _ _ 6 (.code (.call (.ref 668) ⟨[k1.as (ax p.c 0),k2.as (ax p.c 1)],[]⟩)) (tc I 0 []++uU J.p p.X) _
  rw [m,e1,e2]
  refine (aan (J:=J) sx sy (.call (.ref 668) ⟨[.int 0 (ak (k1.as (ax p.c 0))),.int 0 (ak (k2.as (ax p.c 1)))],[]⟩) p.X I).mono (ai _) fun en L' h=>?_
  obtain ⟨I',O',rfl,rfl⟩:=h
  refine ⟨I',O',fun j f=>absurd f (Ut _),rfl,?_⟩
  rw [b];rfl
set_option linter.constructorNameAsVariable false
structure SK where
 S:aa
 xs:Array Value
 e:Nat
 g:Bool
 o:Bool
 lc:Nat
 lo:Obj
 rc:Nat
 ro:Obj
 f:Str
 t:Nat→Tok
 r:Nat→Nat
noncomputable def SK.stand:SK:=⟨SM.stand.S,#[],0,false,false,0,default,0,default,⟨#[]⟩,fun z=>0,fun z=>0⟩
def ksB:List Stmt:=mH (at2 54 3)
def ksE (f:Nat):Env:=⟨bf (at2 54 3),f,3,[],sv [67,111,100,101,114,46,107,101,121,95,115,101,116,46,60,108,111,99,97,108,115,62,46],some 1018,.ref 1017,some f,0⟩
def ksT (i j f:Nat):bx:=.tree (.func ksB (ksE f)) (blk (bu ksB i j) (ksE f))
def frK (P:Params) (p:SK) (c e:Nat):List DictEntry:=[dF P J0 (p.t 0) (.ref c),dF P J7 (p.t 1) (.ref e)]
def jQ (P:Params) (p:SK) (b:Nat):Obj:=aE [dF P J36 (p.t 10) (.ref (p.S.p + 1158)),dF P J78 (p.t 11) (.ref b),dF P J66 (p.t 12) (.ref (p.r 0)),dF P J68 (p.t 13) .none,dF P J55 (p.t 14) .none,dF P J85 (p.t 15) (.ref 1114),dF P J74 (p.t 16) .none] 7
def iE (P:Params) (p:SK) (vs a op:Nat):Obj:=aE [dF P J61 (p.t 20) .none,dF P J52 (p.t 21) (.ref (p.r 1)),dF P J57 (p.t 22) .none,dF P J63 (p.t 23) .none,dF P J6 (p.t 24) (.ref vs),dF P J91 (p.t 25) (.int 4 (p.t 26)),dF P J92 (p.t 27) (.ref a),dF P J90 (p.t 28) (.ref op)] 8
def kIn (P:Params) (p:SK) (l s:Nat):Obj:=aE [dF P J2 (p.t 80) (.ref l),dF P J18 (p.t 81) (.ref s),dF P J15 (p.t 82) (.bool p.g)] 3
noncomputable def fL (t:Nat):Obj:=ab ⟨[.ref t]⟩ 0
def qj (p:SK) (o:Nat):Obj:=aO [.str (sv J94) (p.t 70),.ref o]
noncomputable def kOu (p:SK):Obj:=match p.o with
 | true=>ab ⟨[.int 4 (p.t 71)]⟩ 0
 | false=>ab ⟨[]⟩ 0
def lfA (b:Bool) (o:Obj):Value:=match b with
 | true=>.str (aD (bN o 5)) (ak (bN o 5))
 | false=>.none
inductive KSH where
 | ll [h:Nonempty Nat] | lnl | lnn | nlr | nln | nnn | nnl | nnr
noncomputable def amU:Enu KSH:=⟨[.ll,.lnl,.lnn,.nlr,.nln,.nnn,.nnl,.nnr],tB (@KSH.rec (fun z=>Nat) 0 1 2 3 4 5 6 7) (by intro v;cases v<;>rfl)⟩
noncomputable def KSH.lk:KSH→Bool
 | .ll=>false
 | .lnl=>false
 | .lnn=>false
 | _=>true
noncomputable def KSH.rk:KSH→Bool
 | .ll=>false
 | .nlr=>false
 | .nln=>false
 | _=>true
noncomputable def KSH.oc:KSH→CA
 | .lnl=>.l
 | .nnl=>.l
 | .nlr=>.r
 | .nnr=>.r
 | _=>.n
noncomputable def bVK:Bool→VK
 | true=>.s
 | false=>.n
noncomputable def caL (oc:CA) (f:Str) (t:Tok):Value:=match oc with
 | .l=>.str f t
 | _=>.none
noncomputable def caR (oc:CA) (f:Str) (t:Tok):Value:=match oc with
 | .r=>.str f t
 | _=>.none
def UH (P:Params) (v:KSH) (p:SK):List OV:=[.hb (cg (lfA v.lk p.lo)).isSome,.hb (cg (lfA v.rk p.ro)).isSome,.hb ((caM ((cg (lfA v.lk p.lo)).getD .n) ((cg (lfA v.rk p.ro)).getD .n)).is v.oc),.hb (cF (eI P p.rc p.ro)),.hb (bo p.rc),.hb (cF (eI P p.lc p.lo)),.hb (bo p.lc)]
noncomputable def TJ (v:KSH):List OV:=[.hb true,.hb true,.hb true,.hb true,.hb v.rk,.hb true,.hb v.lk]
noncomputable def caW:CA→WM
 | .r=>.led
 | _=>.set
noncomputable def S5k (p:SK):aa:={ p.S with regs:=8,curs:=0,slots:=0,next:=2,labels:=[(0,p.t 90,p.S.n,p.t 91)],le:=1 }
def ksR (oc:CA) (c:Nat) (p:SK) (tc:Tok) (a t:ae8):XL:=bj (caW oc) 0 p.S.tc c tc 8 p.S.tr p.xs.toList a t
def Q6 (p:SK) (a:Addr) (t:Tok):Addr × Obj:=(a,row J44 t (.int 0 p.S.ts) (.int (Int.negSucc 2) p.S.tn) (.int 0 371) .none)
def BE (p:SK) (a y:Addr) (t u v:Tok):Addr × Obj:=(a,row J20 t (.int 0 p.S.tc) (.int 0 u) (.int 0 v) (.ref y))
def Nd (p:SK) (a:Addr) (t u:Tok):Addr × Obj:=(a,row J69 t (.int 4 (p.t 26)) (.int 1 u) (.int 0 371) .none)
def WC (oc:CA) (p:SK) (x y z:Addr × Obj) (a t w:ae8):aa:=
 { p.S with regs:=8 + 2 * p.xs.toList.length,tr:=lD p.S.tr p.xs.toList w,curs:=1,tc:=t 0,slots:=1,ts:=t 1,next:=4,tn:=t 2,e:=p.S.e + 1 + 1 + 1 + (ksR oc 3 p (t 3) a w).length,ops:=p.S.ops++[x]++[y]++[z]++ksR oc 3 p (t 3) a w,labels:=[(0,p.t 90,p.S.n,p.t 91),(3,t 3,p.S.n + 1 + 1 + 1 + (ksR oc 3 p (t 3) a w).length,t 4),(2,p.S.tn,p.S.n + 1 + 1 + 1 + (ksR oc 3 p (t 3) a w).length,t 5)],le:=3,n:=p.S.n + 1 + 1 + 1 + (ksR oc 3 p (t 3) a w).length,xt:=p.S.xt++cn (caW oc) p.f (p.t 4) p.xs.toList a,hn:=by simp [p.S.hn];lia }
def XO (oc:CA) (p:SK) (y z:Addr × Obj) (a t w:ae8):aa:=
 { p.S with regs:=8 + 2 * p.xs.toList.length,tr:=lD p.S.tr p.xs.toList w,curs:=1,tc:=t 0,slots:=0,next:=3,tn:=t 2,e:=p.S.e + 1 + 1 + (ksR oc 2 p p.S.tn a w).length,ops:=p.S.ops++[y]++[z]++ksR oc 2 p p.S.tn a w,labels:=[(0,p.t 90,p.S.n,p.t 91),(2,p.S.tn,p.S.n + 1 + 1 + (ksR oc 2 p p.S.tn a w).length,t 4)],le:=2,n:=p.S.n + 1 + 1 + (ksR oc 2 p p.S.tn a w).length,xt:=p.S.xt++cn (caW oc) p.f (p.t 4) p.xs.toList a,hn:=by simp [p.S.hn];lia }
def kz (P:Params) (p:SK) (oc:CA) (c e o:Nat):List DictEntry:=frK P p c e++[dF P J99 (p.t 2) (.ref o),dF P J26 (p.t 3) (caL oc p.f (p.t 4)),dF P J37 (p.t 5) (caR oc p.f (p.t 4))]
def Jr (P:Params) (p:SK) (n:Nat):List Bool:=[true,true,Nat.ble n 1000000,true,true,true,bd p.xs,Nat.ble (p.S.n + 1 + 1) 700000,Nat.ble (p.S.n + 1) 1000000,Nat.ble p.S.n 1000000,cF (eI P p.lc p.lo),cF (eI P p.rc p.ro)]
def acU (P:Params) (p:SK):List Bool:=[true,true,bd p.xs,Nat.ble (p.S.n + 1) 700000,Nat.ble p.S.n 1000000,cF (eI P p.lc p.lo),cF (eI P p.rc p.ro)]
noncomputable def aj3 (p:SK):XT:=none
def aaT (J:WB):List (SG J):=smS ([]:CL J)
def ksc (P:Params):aq SK:=akt.spec ((⟨0,1,1,2,2,21,true,[0],[0,1],[0,1,1,1,1]⟩:akt) ) (fun p I=>.code (.call (.ref 1018) ⟨[.ref (p.r 2),.ref (p.r 3)],[]⟩)) (fun p I=>[]) (aj3 ) (fun p I O=>.again (.func ksB (ksE (ad I 0)))) (fun p I O=>[frO [dF P J0 (O 0) (.ref (p.r 2)),dF P J7 (O 1) (.ref (p.r 3))] 2]) (fun p I O=>none) (fun p I O=>[]) (fun p I O=>[])
theorem JP (J:WB) (p:SK):(ksc J.p).Runs J.w J.t (aaT J) p:=S4
def Yq (v:KSH) (J:WB):List (SG J):=smS ((isR 668 2,W7 (bVK v.lk) (bVK v.rk) v.oc J) :: (isR 681 1,QH v.lk J) :: (isR 681 1,QH v.rk J) :: []:CL J)
noncomputable def Sp (v:KSH):List Nat:=match v with | .ll=>[4,7,900000,8] | .lnl=>[4,7,6,8] | .lnn=>[4,7,900000,8] | .nlr=>[4,7,6,8] | .nln | .nnn=>[4,7,900000,8] | .nnl | .nnr=>[4,7,6,8]
def ks1 (v:KSH) (P:Params):aq SK:=akt.spec ((⟨11,0,0,4,8,201,false,(by walk_at "#fgD"),Sp v,(by walk_at "#Y@(?eBf89)/#dPePfeeHn&g'#+%Y@(?eB>.]#4h'Dj=dpeieahU8j+8j+8ea`@e-")⟩:akt) ) (fun p I=>ksT 0 2 (ad I 0)) (fun p I=>[frO (frK P p (p.r 2) (ad I 1)) 2,aw 412 (ad I 2),kIn P p (ad I 5) (ad I 3),aw 644 (ad I 4),iE P p (p.r 4) (p.r 5) (ad I 7),aw p.lc (ad I 6),p.lo,fL (ad I 8),qj p (ad I 9),aw p.rc (ad I 10),p.ro]) (fun p=>none) (fun p I O=>.next) (fun p I O=>[frO (frK P p (p.r 2) (ad I 1)++[dF P J99 (O 0) (.ref (ad I 9)),dF P J26 (O 1) (caL v.oc (dq (lfA v.lk p.lo) (lfA v.rk p.ro)) (O 2)),dF P J37 (O 3) (caR v.oc (dq (lfA v.lk p.lo) (lfA v.rk p.ro)) (O 2))]) 5,aw 412 (ad I 2),kIn P p (ad I 5) (ad I 3),aw 644 (ad I 4),iE P p (p.r 4) (p.r 5) (ad I 7),aw p.lc (ad I 6),p.lo,fL (ad I 8),qj p (ad I 9),aw p.rc (ad I 10),p.ro]) (fun p I O=>none) (fun p I O=>UH P v p) (fun p I O=>TJ v)
theorem Ga (v:KSH) (J:WB) (p:SK):(ks1 v J.p).Runs J.w J.t (Yq v J) p:=amK amU (fun v J=>ks1 v J.p) (fun v J=>Yq v J) v J p
def WJ (v:CA) (J:WB):List (SG J):=smS ((isR 717 2,Qh J) :: (isR 1114 3,match v with | .r=>ac6 .led J | _=>ac6 .set J) :: LLp J:CL J)
def ks2 (v:CA) (P:Params):aq SK:=akt.spec ((⟨13,23,5,53,68,1281,false,(by walk_at "#g%n?,`SV&`7i`fm"),(by walk_at "#3`@`W`;`za&,WHkb$SfGG`U<e.hnm^"),(by walk_at "#%kRfJ*f=iO9o^Ge/lGe/lH-G%eylGmze(%jPlHmzmuhTi1kMkR-f2hg09hXlm,d^Zg'`HmAj>hgmA`HmAl5`Him`HmuCDljkRl`fak-iS:iS:iSk.#lO#n~itn~itn~Qk-kP:ehehehiSfaeln0]A)fak9#`{iwoRl&oRl&oRiwa%:kP:kPljdufVfVfVmAT#kf")⟩:akt) ) (fun p I=>ksT 2 9 (ad I 0)) (fun p I=>[frO (kz P p v (ad I 1) (ad I 3) (ad I 11)) 5,aw 1063 (ad I 2),jQ P p (p.r 6),aw 412 (ad I 4),kIn P p (ad I 9) (ad I 5),aw 644 (ad I 6),iE P p (ad I 7) (ad I 8) (p.r 7),ab p.xs p.e,kOu { p with o:=false },aw p.lc (ad I 10),p.lo,aw p.rc (ad I 12),p.ro]) (fun p=>some (S5k p)) (fun p I O=>.ret (.ref (ad I 16))) (fun p I O=>[frO (kz P p v (ad I 1) (ad I 3) (ad I 11)++[dF P V3 (O 6) (.ref (ad I 13)),dF P J71 (O 7) (.int 0 p.S.tc),dF P J25 (O 8) (.int (Int.negSucc 2) p.S.tn)]) 8,aw 1063 (ad I 2),jQ P p (p.r 6),aw 412 (ad I 4),kIn P p (ad I 9) (ad I 5),aw 644 (ad I 6),iE P p (ad I 7) (ad I 8) (p.r 7),ab p.xs p.e,kOu { p with o:=false },aw p.lc (ad I 10),p.lo,aw p.rc (ad I 12),p.ro,aw 938 (ad I 14),eW P (O 9) (O 10) (ad I 15) (ad I 17),aO [.str (cmS p.lc p.lo p.rc p.ro) (cmT p.lc p.lo p.rc p.ro (O 11))],aO [.int 0 p.S.tc,caL v p.f (p.t 4)],aO [.bool false]]) (fun p I O=>some (WC v p (Q6 p (ad I 18) (O 12)) (BE p (ad I 19) (ad I 13) (O 13) (O 14) (O 15)) (Nd p (ad I 20) (O 16) (O 17)) (fl (flt I 21 15)) (fl (flt O 0 6)) (fl (flt O 20 33)))) (fun p I O=>(Jr P p (p.S.n + 1 + 1 + 1 + (ksR v 3 p (O 24) (fl (flt I 28 15)) (fl (flt O 53 33))).length)).map .hb) (fun p I O=>bl (Jr P p 0))
theorem GV (v:CA) (J:WB) (p:SK):(ks2 v J.p).Runs J.w J.t (WJ v J) p:=amK eCA (fun v J=>ks2 v J.p) (fun v J=>WJ v J) v J p
def UF (v:CA) (J:WB):List (SG J):=smS ((isR 717 2,Qh J) :: (isR 1114 3,match v with | .r=>ac6 .led J | _=>ac6 .set J) :: LLp J:CL J)
def Xu (v:CA) (P:Params):aq SK:=akt.spec ((⟨13,22,5,53,68,1056,false,(by walk_at "#g%n?,`RV&kk7fH"),(by walk_at "#36`O6`r6,W8kb$6o-`M;e.:`Qibhnj:"),(by walk_at "#%kRfJ*f=iO9o^Ge/lGe/lH-G%eylGmze(%jPlHmzmuhTi1kMkR-f2hg09hXlm,d^Zg'muCDljkR+izeOiS;iS;iSfah0fboPk.oPk.oPfb<LeOkP;ehehehiSeO#n0]`7)L`y`y`y#`yi-oQk9oQk9oQi-a#;kP;kPljdulVoE+")⟩:akt) ) (fun p I=>ksT 2 9 (ad I 0)) (fun p I=>[frO (kz P p v (ad I 1) (ad I 3) (ad I 11)) 5,aw 1063 (ad I 2),jQ P p (p.r 6),aw 412 (ad I 4),kIn P p (ad I 9) (ad I 5),aw 644 (ad I 6),iE P p (ad I 7) (ad I 8) (p.r 7),ab p.xs p.e,kOu { p with o:=true },aw p.lc (ad I 10),p.lo,aw p.rc (ad I 12),p.ro]) (fun p=>some (S5k p)) (fun p I O=>.ret (.ref (ad I 16))) (fun p I O=>[frO (kz P p v (ad I 1) (ad I 3) (ad I 11)++[dF P V3 (O 6) (.ref (ad I 13)),dF P J71 (O 7) (.int 0 p.S.tc),dF P J25 (O 8) .none]) 8,aw 1063 (ad I 2),jQ P p (p.r 6),aw 412 (ad I 4),kIn P p (ad I 9) (ad I 5),aw 644 (ad I 6),iE P p (ad I 7) (ad I 8) (p.r 7),ab p.xs p.e,kOu { p with o:=true },aw p.lc (ad I 10),p.lo,aw p.rc (ad I 12),p.ro,aw 938 (ad I 14),eW P (O 9) (O 10) (ad I 15) (ad I 17),aO [.str (cmS p.lc p.lo p.rc p.ro) (cmT p.lc p.lo p.rc p.ro (O 11))],aO [.int 0 p.S.tc,caL v p.f (p.t 4)],aO [.bool false]]) (fun p I O=>some (XO v p (BE p (ad I 18) (ad I 13) (O 13) (O 14) (O 15)) (Nd p (ad I 19) (O 16) (O 17)) (fl (flt I 20 15)) (fl (flt O 0 6)) (fl (flt O 20 33)))) (fun p I O=>(acU P p).map .hb) (fun p I O=>bl (acU P p))
theorem Fk (v:CA) (J:WB) (p:SK):(Xu v J.p).Runs J.w J.t (UF v J) p:=amK eCA (fun v J=>Xu v J.p) (fun v J=>UF v J) v J p
set_option linter.constructorNameAsVariable false
def dC (p:SK):CA:=caM ((cg (lfA (bo p.lc) p.lo)).getD .n) ((cg (lfA (bo p.rc) p.ro)).getD .n)
theorem FD:ksB=bu ksB 0 2++bu ksB 2 9:=by kernel_rfl
noncomputable def vT:Bool→Bool→CA→KSH
 | false,false,_=>.ll
 | false,true,.l=>.lnl
 | false,true,_=>.lnn
 | true,false,.r=>.nlr
 | true,false,_=>.nln
 | true,true,.l=>.nnl
 | true,true,.r=>.nnr
 | true,true,.n=>.nnn
structure AK where
 c:Nat
 cd:Nat
 e:Nat
 ed:Nat
 s:Nat
 sd:Nat
 v:Nat
 u:Nat
 l:Nat
 ld:Nat
 q:Nat
 qt:Nat
 o:Nat
 od:Nat
def ksL (P:Params) (p:SK) (a:AK):XL:=[(a.c,aw 1063 a.cd),(a.cd,jQ P p (p.r 6)),(a.e,aw 412 a.ed),(a.ed,kIn P p a.l a.s),(a.s,aw 644 a.sd),(a.sd,iE P p a.v a.u a.q),(a.v,ab p.xs p.e),(a.u,kOu p),(a.l,aw p.lc a.ld),(a.ld,p.lo),(a.q,fL a.qt),(a.qt,qj p a.o),(a.o,aw p.rc a.od),(a.od,p.ro)]
structure AK.ok (a:AK):Prop where
 c:1158≤a.c
 cd:1158≤a.cd
 e:1158≤a.e
 ed:1158≤a.ed
 s:1158≤a.s
 sd:1158≤a.sd
 v:1158≤a.v
 u:1158≤a.u
 l:1158≤a.l
 ld:1158≤a.ld
 q:1158≤a.q
 qt:1158≤a.qt
 o:1158≤a.o
 od:1158≤a.od
section
variable {J:WB}
structure lF (P:Params) (p:SK):Prop where
 l:eI P p.lc p.lo
 r:eI P p.rc p.ro
 al:(cg (lfA (bo p.lc) p.lo)).isSome=true
 ar:(cg (lfA (bo p.rc) p.ro)).isSome=true
def SK.at (p:SK) (a:AK) (u:ae8):SK:={ p with r:=fun j=>swN [(2,a.c),(3,a.e),(4,a.v),(5,a.u),(7,a.q)] (p.r j) j,t:=fun j=>swN [(0,u 0),(1,u 1),(2,u 2),(3,u 3),(4,u 4),(5,u 5)] (p.t j) j,f:=dq (lfA (bo p.lc) p.lo) (lfA (bo p.rc) p.ro) }
def KW (P:Params) (p:SK) (a:AK):XL:=[(a.e,aw 412 a.ed),(a.ed,kIn P p a.l a.s),(a.s,aw 644 a.sd),(a.sd,iE P p a.v a.u a.q),(a.l,aw p.lc a.ld),(a.ld,p.lo),(a.q,fL a.qt),(a.qt,qj p a.o),(a.o,aw p.rc a.od),(a.od,p.ro)]
theorem akZ {p:SK} {v:KSH} (hv:v=vT (bo p.lc) (bo p.rc) (dC p)):v.lk=bo p.lc∧v.rk=bo p.rc∧v.oc=dC p:=by
 subst hv
 have key:∀ a b (x y:SD),(a=false→x=.n)→(b=false→y=.n)→(vT a b (caM x y)).lk=a∧(vT a b (caM x y)).rk=b∧(vT a b (caM x y)).oc=caM x y:=by
  intro a b x y d c
  cases a<;>cases b
  · rw [d rfl,c rfl];exact ⟨rfl,rfl,rfl⟩
  · rw [d rfl];cases y<;>exact ⟨rfl,rfl,rfl⟩
  · rw [c rfl];cases x<;>exact ⟨rfl,rfl,rfl⟩
  · cases x<;>cases y<;>exact ⟨rfl,rfl,rfl⟩
 exact key _ _ _ _ (fun h=>by rw [h];rfl) (fun h=>by rw [h];rfl)
theorem U1 (p:SK) (a:AK) (d:a.ok) (f:Nat) (z:1158≤f) (u:ae8) (hk:lF J.p p) :
  HRG J 14 (ksT 0 2 f) ((f,frO (frK J.p (p.at a u) a.c a.e) 2) :: KW J.p p a)
   (fun en L'=>en=.next∧∃ A:Nat→Nat,L'=(f,frO (kz J.p (p.at a A) (dC p) a.c a.e a.o) 5) :: KW J.p p a):=by
 refine exL (vT (bo p.lc) (bo p.rc) (dC p)) fun v hv=>?_
 obtain ⟨n,k,i⟩:=akZ hv
 have b:∀ x∈[f,a.e,a.ed,a.s,a.sd,a.l,a.ld,a.q,a.qt,a.o,a.od],1158≤x:=by
  refine anb ?_ (anb ?_ (anb ?_ (anb ?_ (anb ?_ (anb ?_ (anb ?_ (anb ?_ (anb ?_ (anb ?_ (anb ?_ anc))))))))))
  · exact z
  · exact d.e
  · exact d.ed
  · exact d.s
  · exact d.sd
  · exact d.l
  · exact d.ld
  · exact d.q
  · exact d.qt
  · exact d.o
  · exact d.od
 have h:ad (nuL [f,a.e,a.ed,a.s,a.sd,a.l,a.ld,a.q,a.qt,a.o,a.od]) 0=f:=aB b rfl
 have e1:ad (nuL [f,a.e,a.ed,a.s,a.sd,a.l,a.ld,a.q,a.qt,a.o,a.od]) 1=a.e:=aB b rfl
 have e2:ad (nuL [f,a.e,a.ed,a.s,a.sd,a.l,a.ld,a.q,a.qt,a.o,a.od]) 2=a.ed:=aB b rfl
 have e3:ad (nuL [f,a.e,a.ed,a.s,a.sd,a.l,a.ld,a.q,a.qt,a.o,a.od]) 3=a.s:=aB b rfl
 have e4:ad (nuL [f,a.e,a.ed,a.s,a.sd,a.l,a.ld,a.q,a.qt,a.o,a.od]) 4=a.sd:=aB b rfl
 have e5:ad (nuL [f,a.e,a.ed,a.s,a.sd,a.l,a.ld,a.q,a.qt,a.o,a.od]) 5=a.l:=aB b rfl
 have e6:ad (nuL [f,a.e,a.ed,a.s,a.sd,a.l,a.ld,a.q,a.qt,a.o,a.od]) 6=a.ld:=aB b rfl
 have m:ad (nuL [f,a.e,a.ed,a.s,a.sd,a.l,a.ld,a.q,a.qt,a.o,a.od]) 7=a.q:=aB b rfl
 have t:ad (nuL [f,a.e,a.ed,a.s,a.sd,a.l,a.ld,a.q,a.qt,a.o,a.od]) 8=a.qt:=aB b rfl
 have y:ad (nuL [f,a.e,a.ed,a.s,a.sd,a.l,a.ld,a.q,a.qt,a.o,a.od]) 9=a.o:=aB b rfl
 have g:ad (nuL [f,a.e,a.ed,a.s,a.sd,a.l,a.ld,a.q,a.qt,a.o,a.od]) 10=a.od:=aB b rfl
 refine exL (nuL [f,a.e,a.ed,a.s,a.sd,a.l,a.ld,a.q,a.qt,a.o,a.od]) fun N w=>?_
 have H:=aq.hrZ (ay _) (Ga v J (p.at a u)) (by intros;exact tT) rfl rfl (fun Z Z=>rfl) [f,a.e,a.ed,a.s,a.sd,a.l,a.ld,a.q,a.qt,a.o,a.od] rfl b (fun I' O Z=>by
  show UH J.p v p=TJ v
  unfold UH TJ
  rw [n,k,i]
  show [OV.hb _,OV.hb _,OV.hb ((dC p).is (dC p)),OV.hb _,OV.hb _,OV.hb _,OV.hb _]=_
  rw [hk.al,hk.ar,CA.is_self,bB hk.l,bB hk.r])
 have key:HRG J 8 (ksT 0 2 (ad N 0)) [(f,frO (frK J.p (p.at a u) a.c (ad N 1)) 2),(a.e,aw 412 (ad N 2)),(a.ed,kIn J.p p (ad N 5) (ad N 3)),(a.s,aw 644 (ad N 4)),(a.sd,iE J.p p a.v a.u (ad N 7)),(a.l,aw p.lc (ad N 6)),(a.ld,p.lo),(a.q,fL (ad N 8)),(a.qt,qj p (ad N 9)),(a.o,aw p.rc (ad N 10)),(a.od,p.ro)]
   (fun en L'=>∃ O:Nat→Nat,en=.next∧L'=[(f,frO (frK J.p (p.at a u) a.c (ad N 1)++[dF J.p J99 (O 0) (.ref (ad N 9)),dF J.p J26 (O 1) (caL v.oc (dq (lfA v.lk p.lo) (lfA v.rk p.ro)) (O 2)),dF J.p J37 (O 3) (caR v.oc (dq (lfA v.lk p.lo) (lfA v.rk p.ro)) (O 2))]) 5),(a.e,aw 412 (ad N 2)),(a.ed,kIn J.p p (ad N 5) (ad N 3)),(a.s,aw 644 (ad N 4)),(a.sd,iE J.p p a.v a.u (ad N 7)),(a.l,aw p.lc (ad N 6)),(a.ld,p.lo),(a.q,fL (ad N 8)),(a.qt,qj p (ad N 9)),(a.o,aw p.rc (ad N 10)),(a.od,p.ro)]):=by
  rw [w];exact H
 rw [← w] at h e1 e2 e3 e4 e5 e6 m t y g
 rw [h,e1,e2,e3,e4,e5,e6,m,t,y,g,n,k,i] at key
 refine key.mono (ag rfl) <| elB fun O=>?_
 exact ⟨rfl,fun j=>swN [(0,u 0),(1,u 1),(2,O 0),(3,O 1),(4,O 2)] (O 3) j,rfl⟩
def EZ (P:Params) (p:SK) (a:AK):XL:=[(a.c,aw 1063 a.cd),(a.cd,jQ P p (p.r 6)),(a.e,aw 412 a.ed),(a.ed,kIn P p a.l a.s),(a.s,aw 644 a.sd),(a.sd,iE P p a.v a.u (p.r 7)),(a.v,ab p.xs p.e),(a.u,kOu p),(a.l,aw p.lc a.ld),(a.ld,p.lo),(a.o,aw p.rc a.od),(a.od,p.ro)]
def sV (P:Params) (p:SK) (oc:CA) (n O:ae8):XL:=[(ad n 13,aw 938 (ad n 14)),(ad n 14,eW P (O 9) (O 10) (ad n 15) (ad n 17)),(ad n 15,aO [.str (cmS p.lc p.lo p.rc p.ro) (cmT p.lc p.lo p.rc p.ro (O 11))]),(ad n 16,aO [.int 0 p.S.tc,caL oc p.f (p.t 4)]),(ad n 17,aO [.bool false])]
def alg (oc:CA) (p:SK) (n O:ae8):aa:=WC oc p (Q6 p (ad n 18) (O 12)) (BE p (ad n 19) (ad n 13) (O 13) (O 14) (O 15)) (Nd p (ad n 20) (O 16) (O 17)) (fl (flt n 21 15)) (fl (flt O 0 6)) (fl (flt O 20 33))
theorem Rz (oc:CA) (p:SK) (a:AK) (h:a.ok) (f:Nat) (X:1158≤f) (hk:lF J.p p) (G:bd p.xs=true) (hn:p.S.n≤600000) (Z:p.o=false) :
  HRG J 68 (ksT 2 9 f) (((f,frO (kz J.p p oc a.c a.e a.o) 5) :: EZ J.p p a)++(S5k p).cells J.p)
   (fun en L'=>∃ (n O:ae8) (fr:Obj),en=.ret (.ref (ad n 16))∧L'=(((f,fr) :: EZ J.p p a)++sV J.p p oc n O)++(alg oc p n O).cells J.p):=by
 have b:∀ x∈[f,a.c,a.cd,a.e,a.ed,a.s,a.sd,a.v,a.u,a.l,a.ld,a.o,a.od],1158≤x:=by
  refine anb ?_ (anb ?_ (anb ?_ (anb ?_ (anb ?_ (anb ?_ (anb ?_ (anb ?_ (anb ?_ (anb ?_ (anb ?_ (anb ?_ (anb ?_ anc))))))))))))
  · exact X
  · exact h.c
  · exact h.cd
  · exact h.e
  · exact h.ed
  · exact h.s
  · exact h.sd
  · exact h.v
  · exact h.u
  · exact h.l
  · exact h.ld
  · exact h.o
  · exact h.od
 refine exL (nuL [f,a.c,a.cd,a.e,a.ed,a.s,a.sd,a.v,a.u,a.l,a.ld,a.o,a.od]) fun N g=>?_
 have k:∀ (E B:ae8) (tc:Tok),(ksR oc 3 p tc E B).length≤12:=fun E B tc=>gH _ _ _ _ _ _ _ _ _ G
 have H:=(aq.he (ay _) (GV oc J p) (by intros;exact tT) N (fun I' O v=>by
  show (Jr J.p p (p.S.n + 1 + 1 + 1 + (ksR oc 3 p (O 24) (fl (flt I' 28 15)) (fl (flt O 53 33))).length)).map OV.hb=bl (Jr J.p p (p.S.n + 1 + 1 + 1 + (ksR oc 3 p (O 24) (fl (flt I' 28 15)) (fl (flt O 53 33))).length))
  refine ch ?_
  have P:=k (fl (flt I' 28 15)) (fl (flt O 53 33)) (O 24)
  unfold Jr
  refine all_cons rfl (all_cons rfl (all_cons (aF (by lia)) (all_cons rfl (all_cons rfl (all_cons rfl (all_cons G (all_cons (aF (by lia)) (all_cons (aF (by lia)) (all_cons (aF (by lia)) (all_cons (bB hk.l) (all_cons (bB hk.r) cC))))))))))))).hr
 have A:ad N 0=f:=by rw [g];exact aB b rfl
 have e1:ad N 1=a.c:=by rw [g];exact aB b rfl
 have e2:ad N 2=a.cd:=by rw [g];exact aB b rfl
 have e3:ad N 3=a.e:=by rw [g];exact aB b rfl
 have e4:ad N 4=a.ed:=by rw [g];exact aB b rfl
 have e5:ad N 5=a.s:=by rw [g];exact aB b rfl
 have e6:ad N 6=a.sd:=by rw [g];exact aB b rfl
 have C:ad N 7=a.v:=by rw [g];exact aB b rfl
 have F:ad N 8=a.u:=by rw [g];exact aB b rfl
 have D:ad N 9=a.l:=by rw [g];exact aB b rfl
 have m:ad N 10=a.ld:=by rw [g];exact aB b rfl
 have i:ad N 11=a.o:=by rw [g];exact aB b rfl
 have q:ad N 12=a.od:=by rw [g];exact aB b rfl
 have key:HRG J 68 (ksT 2 9 (ad N 0)) ([(ad N 0,frO (kz J.p p oc (ad N 1) (ad N 3) (ad N 11)) 5),(ad N 1,aw 1063 (ad N 2)),(ad N 2,jQ J.p p (p.r 6)),(ad N 3,aw 412 (ad N 4)),(ad N 4,kIn J.p p (ad N 9) (ad N 5)),(ad N 5,aw 644 (ad N 6)),(ad N 6,iE J.p p (ad N 7) (ad N 8) (p.r 7)),(ad N 7,ab p.xs p.e),(ad N 8,kOu { p with o:=false }),(ad N 9,aw p.lc (ad N 10)),(ad N 10,p.lo),(ad N 11,aw p.rc (ad N 12)),(ad N 12,p.ro)]++(S5k p).cells J.p)
  (fun en L'=>∃ I' O',(∀ j,j < 13→I' j=N j)∧en=.ret (.ref (ad (ah 36 I') 16))∧L'=([(ad (ah 36 I') 0,frO (kz J.p p oc (ad (ah 36 I') 1) (ad (ah 36 I') 3) (ad (ah 36 I') 11)++[dF J.p V3 (ah 53 O' 6) (.ref (ad (ah 36 I') 13)),dF J.p J71 (ah 53 O' 7) (.int 0 p.S.tc),dF J.p J25 (ah 53 O' 8) (.int (Int.negSucc 2) p.S.tn)]) 8),(ad (ah 36 I') 1,aw 1063 (ad (ah 36 I') 2)),(ad (ah 36 I') 2,jQ J.p p (p.r 6)),(ad (ah 36 I') 3,aw 412 (ad (ah 36 I') 4)),(ad (ah 36 I') 4,kIn J.p p (ad (ah 36 I') 9) (ad (ah 36 I') 5)),(ad (ah 36 I') 5,aw 644 (ad (ah 36 I') 6)),(ad (ah 36 I') 6,iE J.p p (ad (ah 36 I') 7) (ad (ah 36 I') 8) (p.r 7)),(ad (ah 36 I') 7,ab p.xs p.e),(ad (ah 36 I') 8,kOu { p with o:=false }),(ad (ah 36 I') 9,aw p.lc (ad (ah 36 I') 10)),(ad (ah 36 I') 10,p.lo),(ad (ah 36 I') 11,aw p.rc (ad (ah 36 I') 12)),(ad (ah 36 I') 12,p.ro)]++sV J.p p oc (ah 36 I') (ah 53 O'))++(alg oc p (ah 36 I') (ah 53 O')).cells J.p):=H
 have t:kOu { p with o:=false }=kOu p:=by unfold kOu;rw [Z]
 rw [t] at key
 rw [A,e1,e2,e3,e4,e5,e6,C,F,D,m,i,q] at key
 refine key.mono (ai _) <| elA fun I' O' d=>?_
 have Q:ad (ah 36 I') 0=f:=(congrArg (fun x=>x + 1158) (d 0 (by decide))).trans A
 have Y:ad (ah 36 I') 1=a.c:=(congrArg (fun x=>x + 1158) (d 1 (by decide))).trans e1
 have M:ad (ah 36 I') 2=a.cd:=(congrArg (fun x=>x + 1158) (d 2 (by decide))).trans e2
 have g3:ad (ah 36 I') 3=a.e:=(congrArg (fun x=>x + 1158) (d 3 (by decide))).trans e3
 have W:ad (ah 36 I') 4=a.ed:=(congrArg (fun x=>x + 1158) (d 4 (by decide))).trans e4
 have g5:ad (ah 36 I') 5=a.s:=(congrArg (fun x=>x + 1158) (d 5 (by decide))).trans e5
 have K:ad (ah 36 I') 6=a.sd:=(congrArg (fun x=>x + 1158) (d 6 (by decide))).trans e6
 have R:ad (ah 36 I') 7=a.v:=(congrArg (fun x=>x + 1158) (d 7 (by decide))).trans C
 have T:ad (ah 36 I') 8=a.u:=(congrArg (fun x=>x + 1158) (d 8 (by decide))).trans F
 have L:ad (ah 36 I') 9=a.l:=(congrArg (fun x=>x + 1158) (d 9 (by decide))).trans D
 have z:ad (ah 36 I') 10=a.ld:=(congrArg (fun x=>x + 1158) (d 10 (by decide))).trans m
 have w:ad (ah 36 I') 11=a.o:=(congrArg (fun x=>x + 1158) (d 11 (by decide))).trans i
 have y:ad (ah 36 I') 12=a.od:=(congrArg (fun x=>x + 1158) (d 12 (by decide))).trans q
 rw [Q,Y,M,g3,W,g5,K,R,T,L,z,w,y]
 exact ⟨_,_,_,rfl,rfl⟩
def Lg (oc:CA) (p:SK) (n O:ae8):aa:=XO oc p (BE p (ad n 18) (ad n 13) (O 13) (O 14) (O 15)) (Nd p (ad n 19) (O 16) (O 17)) (fl (flt n 20 15)) (fl (flt O 0 6)) (fl (flt O 20 33))
theorem OG (oc:CA) (p:SK) (a:AK) (h:a.ok) (f:Nat) (P:1158≤f) (hk:lF J.p p) (T:bd p.xs=true) (hn:p.S.n≤600000) (R:p.o=true) :
  HRG J 68 (ksT 2 9 f) (((f,frO (kz J.p p oc a.c a.e a.o) 5) :: EZ J.p p a)++(S5k p).cells J.p)
   (fun en L'=>∃ (n O:ae8) (fr:Obj),en=.ret (.ref (ad n 16))∧L'=(((f,fr) :: EZ J.p p a)++sV J.p p oc n O)++(Lg oc p n O).cells J.p):=by
 have b:∀ x∈[f,a.c,a.cd,a.e,a.ed,a.s,a.sd,a.v,a.u,a.l,a.ld,a.o,a.od],1158≤x:=by
  refine anb ?_ (anb ?_ (anb ?_ (anb ?_ (anb ?_ (anb ?_ (anb ?_ (anb ?_ (anb ?_ (anb ?_ (anb ?_ (anb ?_ (anb ?_ anc))))))))))))
  · exact P
  · exact h.c
  · exact h.cd
  · exact h.e
  · exact h.ed
  · exact h.s
  · exact h.sd
  · exact h.v
  · exact h.u
  · exact h.l
  · exact h.ld
  · exact h.o
  · exact h.od
 refine exL (nuL [f,a.c,a.cd,a.e,a.ed,a.s,a.sd,a.v,a.u,a.l,a.ld,a.o,a.od]) fun N g=>?_
 have H:=(aq.he (ay _) (Fk oc J p) (by intros;exact tT) N (fun I' O Z=>by
  show (acU J.p p).map OV.hb=bl (acU J.p p)
  refine ch ?_
  unfold acU
  refine all_cons rfl (all_cons rfl (all_cons T (all_cons (aF (by lia)) (all_cons (aF (by lia)) (all_cons (bB hk.l) (all_cons (bB hk.r) cC)))))))).hr
 have z:ad N 0=f:=by rw [g];exact aB b rfl
 have e1:ad N 1=a.c:=by rw [g];exact aB b rfl
 have e2:ad N 2=a.cd:=by rw [g];exact aB b rfl
 have e3:ad N 3=a.e:=by rw [g];exact aB b rfl
 have e4:ad N 4=a.ed:=by rw [g];exact aB b rfl
 have e5:ad N 5=a.s:=by rw [g];exact aB b rfl
 have e6:ad N 6=a.sd:=by rw [g];exact aB b rfl
 have A:ad N 7=a.v:=by rw [g];exact aB b rfl
 have C:ad N 8=a.u:=by rw [g];exact aB b rfl
 have B:ad N 9=a.l:=by rw [g];exact aB b rfl
 have k:ad N 10=a.ld:=by rw [g];exact aB b rfl
 have i:ad N 11=a.o:=by rw [g];exact aB b rfl
 have m:ad N 12=a.od:=by rw [g];exact aB b rfl
 have key:HRG J 68 (ksT 2 9 (ad N 0)) ([(ad N 0,frO (kz J.p p oc (ad N 1) (ad N 3) (ad N 11)) 5),(ad N 1,aw 1063 (ad N 2)),(ad N 2,jQ J.p p (p.r 6)),(ad N 3,aw 412 (ad N 4)),(ad N 4,kIn J.p p (ad N 9) (ad N 5)),(ad N 5,aw 644 (ad N 6)),(ad N 6,iE J.p p (ad N 7) (ad N 8) (p.r 7)),(ad N 7,ab p.xs p.e),(ad N 8,kOu { p with o:=true }),(ad N 9,aw p.lc (ad N 10)),(ad N 10,p.lo),(ad N 11,aw p.rc (ad N 12)),(ad N 12,p.ro)]++(S5k p).cells J.p)
  (fun en L'=>∃ I' O',(∀ j,j < 13→I' j=N j)∧en=.ret (.ref (ad (ah 35 I') 16))∧L'=([(ad (ah 35 I') 0,frO (kz J.p p oc (ad (ah 35 I') 1) (ad (ah 35 I') 3) (ad (ah 35 I') 11)++[dF J.p V3 (ah 53 O' 6) (.ref (ad (ah 35 I') 13)),dF J.p J71 (ah 53 O' 7) (.int 0 p.S.tc),dF J.p J25 (ah 53 O' 8) .none]) 8),(ad (ah 35 I') 1,aw 1063 (ad (ah 35 I') 2)),(ad (ah 35 I') 2,jQ J.p p (p.r 6)),(ad (ah 35 I') 3,aw 412 (ad (ah 35 I') 4)),(ad (ah 35 I') 4,kIn J.p p (ad (ah 35 I') 9) (ad (ah 35 I') 5)),(ad (ah 35 I') 5,aw 644 (ad (ah 35 I') 6)),(ad (ah 35 I') 6,iE J.p p (ad (ah 35 I') 7) (ad (ah 35 I') 8) (p.r 7)),(ad (ah 35 I') 7,ab p.xs p.e),(ad (ah 35 I') 8,kOu { p with o:=true }),(ad (ah 35 I') 9,aw p.lc (ad (ah 35 I') 10)),(ad (ah 35 I') 10,p.lo),(ad (ah 35 I') 11,aw p.rc (ad (ah 35 I') 12)),(ad (ah 35 I') 12,p.ro)]++sV J.p p oc (ah 35 I') (ah 53 O'))++(Lg oc p (ah 35 I') (ah 53 O')).cells J.p):=H
 have q:kOu { p with o:=true }=kOu p:=by unfold kOu;rw [R]
 rw [q] at key
 rw [z,e1,e2,e3,e4,e5,e6,A,C,B,k,i,m] at key
 refine key.mono (ai _) <| elA fun I' O' d=>?_
 have G:ad (ah 35 I') 0=f:=(congrArg (fun x=>x + 1158) (d 0 (by decide))).trans z
 have Q:ad (ah 35 I') 1=a.c:=(congrArg (fun x=>x + 1158) (d 1 (by decide))).trans e1
 have F:ad (ah 35 I') 2=a.cd:=(congrArg (fun x=>x + 1158) (d 2 (by decide))).trans e2
 have X:ad (ah 35 I') 3=a.e:=(congrArg (fun x=>x + 1158) (d 3 (by decide))).trans e3
 have M:ad (ah 35 I') 4=a.ed:=(congrArg (fun x=>x + 1158) (d 4 (by decide))).trans e4
 have W:ad (ah 35 I') 5=a.s:=(congrArg (fun x=>x + 1158) (d 5 (by decide))).trans e5
 have D:ad (ah 35 I') 6=a.sd:=(congrArg (fun x=>x + 1158) (d 6 (by decide))).trans e6
 have K:ad (ah 35 I') 7=a.v:=(congrArg (fun x=>x + 1158) (d 7 (by decide))).trans A
 have L:ad (ah 35 I') 8=a.u:=(congrArg (fun x=>x + 1158) (d 8 (by decide))).trans C
 have E:ad (ah 35 I') 9=a.l:=(congrArg (fun x=>x + 1158) (d 9 (by decide))).trans B
 have y:ad (ah 35 I') 10=a.ld:=(congrArg (fun x=>x + 1158) (d 10 (by decide))).trans k
 have t:ad (ah 35 I') 11=a.o:=(congrArg (fun x=>x + 1158) (d 11 (by decide))).trans i
 have w:ad (ah 35 I') 12=a.od:=(congrArg (fun x=>x + 1158) (d 12 (by decide))).trans m
 rw [G,Q,F,X,M,W,D,K,L,E,y,t,w]
 exact ⟨_,_,_,rfl,rfl⟩
end
set_option linter.constructorNameAsVariable false
section
variable {J:WB}
def ksS (oc:CA) (p:SK) (n O:ae8):aa:=match p.o with
 | true=>Lg oc p n O
 | false=>alg oc p n O
theorem RI (oc:CA) (p:SK) (a:AK) (d:a.ok) (f:Nat) (g:1158≤f) (hk:lF J.p p) (h:bd p.xs=true) (hn:p.S.n≤600000) :
  HRG J 68 (ksT 2 9 f) (((f,frO (kz J.p p oc a.c a.e a.o) 5) :: EZ J.p p a)++(S5k p).cells J.p)
   (fun en L'=>∃ (n O:ae8) (fr:Obj),en=.ret (.ref (ad n 16))∧L'=(((f,fr) :: EZ J.p p a)++sV J.p p oc n O)++(ksS oc p n O).cells J.p):=by
 cases b:p.o with
 | true=>
  have H:=OG (J:=J) oc p a d f g hk h hn b
  unfold ksS
  rw [b]
  exact H
 | false=>
  have H:=Rz (J:=J) oc p a d f g hk h hn b
  unfold ksS
  rw [b]
  exact H
theorem OE (p:SK) (a:AK) (j:a.ok) (hk:lF J.p p) (z:bd p.xs=true) (hn:p.S.n≤600000) :
  HRG J 70 (.code (.call (.ref 1018) ⟨[.ref a.c,.ref a.e],[]⟩)) (ksL J.p p a++(S5k p).cells J.p)
   (fun en L'=>∃ (n O u:ae8),en=.ret (.ref (ad n 16))∧L'=(ksL J.p p a++sV J.p (p.at a u) (dC p) n O)++(ksS (dC p) (p.at a u) n O).cells J.p):=by
 have x:=((aq.he (ay _) (JP J (p.at a p.t)) (by intros;exact tT) (nuL []) (fun Z Z Z=>rfl)).hr).frame (ksL J.p p a++(S5k p).cells J.p)
 have key:HRG J _ (.code (.call (.ref 1018) ⟨[.ref a.c,.ref a.e],[]⟩)) (ksL J.p p a++(S5k p).cells J.p) _:=x
 refine (key.mono (need':=70) (ag rfl) fun e L' h=>h).again <| elD fun I' O' Z=>?_
 refine ⟨.func ksB (ksE (ad I' 0)),rfl,rfl,?_⟩
 refine exL (ad I' 0) fun f i=>?_
 have k:1158≤f:=by rw [i];exact b8 _ _
 refine exL (ah 2 O':ae8) fun u y=>?_
 have A:HRG J 70 (.code (.func ksB (ksE f))) ([(f,frO (frK J.p (p.at a u) a.c a.e) 2)]++(ksL J.p p a++(S5k p).cells J.p))
  (fun en L'=>∃ (n O u:ae8),en=.ret (.ref (ad n 16))∧L'=(ksL J.p p a++sV J.p (p.at a u) (dC p) n O)++(ksS (dC p) (p.at a u) n O).cells J.p):=?_
 · subst i y
   exact A
 refine HR.func ?_ (fun e L' h=>by obtain ⟨n,O,b,rfl,-⟩:=h;exact ⟨_,rfl⟩)
 rw [show (bx.tree (.func ksB (ksE f)) (blk ksB (ksE f)))=.tree (.func ksB (ksE f)) (blk (bu ksB 0 2++bu ksB 2 9) (ksE f)) by rw [← FD]]
 have m:=((U1 (J:=J) p a j f k u hk).frame ([(a.c,aw 1063 a.cd),(a.cd,jQ J.p p (p.r 6)),(a.v,ab p.xs p.e),(a.u,kOu p)]++(S5k p).cells J.p)).perm (L':=[(f,frO (frK J.p (p.at a u) a.c a.e) 2)]++(ksL J.p p a++(S5k p).cells J.p)) (by
  unfold KW ksL
  exact ane (L:=[_]) (E:=[_,_,_,_,_,_,_,_,_,_,_,_,_,_,_]) (.a (.c 0 (.c 1 (.c 2 (.c 3 (.c 4 (.c 5 (.c 6 (.c 7 (.c 8 (.c 9 (.c 10 .n))))))))))) (.a (.c 11 (.c 12 (.c 13 (.c 14 .n)))) (.l 0))) (.a (.c 0 .n) (.a (.c 11 (.c 12 (.c 1 (.c 2 (.c 3 (.c 4 (.c 13 (.c 14 (.c 5 (.c 6 (.c 7 (.c 8 (.c 9 (.c 10 .n)))))))))))))) (.l 0))) rfl)
 refine HR.blocks (m.mono (need':=70) (ag rfl) fun e L' h=>h) fun en L' g=>?_
 obtain ⟨C,rfl,rfl,b,rfl⟩:=g
 refine ⟨rfl,?_⟩
 have d:lF J.p (p.at a b):=⟨hk.l,hk.r,hk.al,hk.ar⟩
 have w:=((RI (J:=J) (dC p) (p.at a b) a j f k d z hn).frame [(a.q,fL a.qt),(a.qt,qj p a.o)]).perm (L':=((f,frO (kz J.p (p.at a b) (dC p) a.c a.e a.o) 5) :: KW J.p p a)++([(a.c,aw 1063 a.cd),(a.cd,jQ J.p p (p.r 6)),(a.v,ab p.xs p.e),(a.u,kOu p)]++(S5k p).cells J.p)) (by
  show List.Perm (((f,frO (kz J.p (p.at a b) (dC p) a.c a.e a.o) 5) :: [(a.c,aw 1063 a.cd),(a.cd,jQ J.p p (p.r 6)),(a.e,aw 412 a.ed),(a.ed,kIn J.p p a.l a.s),(a.s,aw 644 a.sd),(a.sd,iE J.p p a.v a.u a.q),(a.v,ab p.xs p.e),(a.u,kOu p),(a.l,aw p.lc a.ld),(a.ld,p.lo),(a.o,aw p.rc a.od),(a.od,p.ro)])++(S5k p).cells J.p++[(a.q,fL a.qt),(a.qt,qj p a.o)]) _
  unfold KW
  exact ane (L:=[_]) (E:=[_,_,_,_,_,_,_,_,_,_,_,_,_,_,_]) (.a (.a (.c 0 (.c 1 (.c 2 (.c 3 (.c 4 (.c 5 (.c 6 (.c 7 (.c 8 (.c 9 (.c 10 (.c 11 (.c 12 .n))))))))))))) (.l 0)) (.c 13 (.c 14 .n))) (.a (.c 0 (.c 3 (.c 4 (.c 5 (.c 6 (.c 9 (.c 10 (.c 13 (.c 14 (.c 11 (.c 12 .n))))))))))) (.a (.c 1 (.c 2 (.c 7 (.c 8 .n)))) (.l 0))) rfl)
 refine (w.mono (need':=70) (ag rfl) fun e L' h=>h).drop fun en L' g=>?_
 obtain ⟨B,rfl,n,O,fr,rfl,rfl⟩:=g
 refine ⟨_,[(f,fr)],?_,n,O,b,rfl,rfl⟩
 show List.Perm (((((f,fr) :: [(a.c,aw 1063 a.cd),(a.cd,jQ J.p p (p.r 6)),(a.e,aw 412 a.ed),(a.ed,kIn J.p p a.l a.s),(a.s,aw 644 a.sd),(a.sd,iE J.p p a.v a.u a.q),(a.v,ab p.xs p.e),(a.u,kOu p),(a.l,aw p.lc a.ld),(a.ld,p.lo),(a.o,aw p.rc a.od),(a.od,p.ro)])++sV J.p (p.at a b) (dC p) n O)++(ksS (dC p) (p.at a b) n O).cells J.p)++[(a.q,fL a.qt),(a.qt,qj p a.o)]) _
 unfold ksL
 exact ane (L:=[_,_]) (E:=[_,_,_,_,_,_,_,_,_,_,_,_,_,_,_]) (.a (.a (.a (.c 0 (.c 1 (.c 2 (.c 3 (.c 4 (.c 5 (.c 6 (.c 7 (.c 8 (.c 9 (.c 10 (.c 11 (.c 12 .n))))))))))))) (.l 0)) (.l 1)) (.c 13 (.c 14 .n))) (.a (.a (.a (.c 1 (.c 2 (.c 3 (.c 4 (.c 5 (.c 6 (.c 7 (.c 8 (.c 9 (.c 10 (.c 13 (.c 14 (.c 11 (.c 12 .n)))))))))))))) (.l 0)) (.l 1)) (.c 0 .n)) rfl
end
set_option linter.constructorNameAsVariable false
def bJ (p:Raw) (o:Bool):SK:=
 { S:=aj p.X,xs:=(ao [uF p.os 6]).1,e:=(ao [uF p.os 6]).2,g:=pF (vN p 3 2),o:=o,lc:=aY (uF p.os 8),lo:=uF p.os 9,rc:=aY (uF p.os 12),ro:=uF p.os 13,f:=⟨#[]⟩,
   t:=fun j=>match j with
    | 10=>kT p 1 0 | 11=>kT p 1 1 | 12=>kT p 1 2 | 13=>kT p 1 3 | 14=>kT p 1 4 | 15=>kT p 1 5 | 16=>kT p 1 6
    | 20=>kT p 5 0 | 21=>kT p 5 1 | 22=>kT p 5 2 | 23=>kT p 5 3 | 24=>kT p 5 4 | 25=>kT p 5 5 | 26=>ak (vN p 5 5) | 27=>kT p 5 6 | 28=>kT p 5 7
    | 70=>ak (vN p 11 0) | 71=>ak (bN (uF p.os 7) 0) | 80=>kT p 3 0 | 81=>kT p 3 1 | 82=>kT p 3 2
    | 90=>(match (aj p.X).labels with | x :: _=>x.2.1 | []=>0) | 91=>(match (aj p.X).labels with | x :: _=>x.2.2.2 | []=>0) | _=>0,
   r:=fun j=>match j with | 0=>vR p 1 2 | 1=>vR p 5 1 | 6=>vR p 1 1 | _=>0 }
def SK.fin (p:SK) (t:Tok):SK:={ p with t:=fun j=>match j with | 4=>t | j=>p.t j,f:=dq (lfA (bo p.lc) p.lo) (lfA (bo p.rc) p.ro) }
def ksO (P:Params) (p:SK) (I:ae8):List Obj:=[aw 1063 (ad I 1),jQ P p (p.r 6),aw 412 (ad I 3),kIn P p (ad I 8) (ad I 4),aw 644 (ad I 5),iE P p (ad I 6) (ad I 7) (ad I 10),ab p.xs p.e,kOu p,aw p.lc (ad I 9),p.lo,fL (ad I 11),qj p (ad I 12),aw p.rc (ad I 13),p.ro]
noncomputable def lvB (b:Bool) (f:Str) (t:Tok):Value:=match b with
 | true=>.str f t
 | false=>.none
noncomputable def aK (I:ae8):AK:=⟨ad I 0,ad I 1,ad I 2,ad I 3,ad I 4,ad I 5,ad I 6,ad I 7,ad I 8,ad I 9,ad I 10,ad I 11,ad I 12,ad I 13⟩
theorem alp (I:ae8):(aK I).ok:=⟨b8 _ _,b8 _ _,b8 _ _,b8 _ _,b8 _ _,b8 _ _,b8 _ _,b8 _ _,b8 _ _,b8 _ _,b8 _ _,b8 _ _,b8 _ _,b8 _ _⟩
def ksX (p:SK) (I O:ae8):aa:=ksS (dC p) (p.fin (O 53)) (fun j=>I (j + 1)) O
def ksN (P:Params) (p:SK) (b:Bool) (I O:ae8):List Obj:=[aw 938 (ad I 15),eW P (O 9) (O 10) (ad I 16) (ad I 18),aO [.str (cmS p.lc p.lo p.rc p.ro) (cmT p.lc p.lo p.rc p.ro (O 11))],aO [.int 0 p.S.tc,lvB b (dq (lfA (bo p.lc) p.lo) (lfA (bo p.rc) p.ro)) (O 53)],aO [.bool false]]
def YW (b o:Bool) (J:WB):LG J where
 P:=Raw
 fs:=[.arg 0,.dict 0,.arg 1,.dict 2,.ent 3 1,.dict 4,.ent 5 4,.ent 5 6,.ent 3 0,.dict 8,.ent 5 7,.item 10 0,.item 11 1,.dict 12]
 qt:=5
 q:=23
 it:=54
 need:=70
 ext:=Raw.mk
 obl _ p:=([.hb (cF (lF J.p (bJ p o))),.hb (bd (bJ p o).xs),.hb (Nat.ble (aj p.X).n 600000),.hb ((dC (bJ p o)).is .l)],[.hb true,.hb true,.hb true,.hb b])
 code I p:=.call (.ref 1018) ⟨[.ref (ad I 0),.ref (ad I 2)],[]⟩
 pre I p:=ksO J.p (bJ p o) I
 preX p:=some (S5k (bJ p o))
 post I O p:=ksO J.p (bJ p o) I++ksN J.p (bJ p o) b I O
 postX I O p:=some (ksX (bJ p o) I O)
 res I _ p:=.ref (ad I 17)
 qle:=by decide
 olen _ _:=rfl
 len _ _ _:=rfl
 ok p I a _:=by
  obtain ⟨i,a⟩:=aU a
  obtain ⟨e,a⟩:=aU a
  obtain ⟨m,a⟩:=aU a
  have f:(dC (bJ p o)).is .l=b:=OV.hb.inj (List.cons.inj a).1
  refine HR.tx (nx:=false) (k:=14) (K:=fun I' O'=>_) ?_
  have H:=OE (J:=J) (bJ p o) (aK I) (alp I) (dU i) e (ag m)
  refine H.mono (ai _) fun en L' g=>?_
  obtain ⟨n,O,u,rfl,rfl⟩:=g
  have c:caL (dC (bJ p o)) (dq (lfA (bo (bJ p o).lc) (bJ p o).lo) (lfA (bo (bJ p o).rc) (bJ p o).ro)) (u 4)=lvB b (dq (lfA (bo (bJ p o).lc) (bJ p o).lo) (lfA (bo (bJ p o).rc) (bJ p o).ro)) (u 4):=by
   rw [← f]
   cases dC (bJ p o)<;>rfl
  have h:ksS (dC (bJ p o)) ((bJ p o).at (aK I) u) n O=ksX (bJ p o) (ah 37 fun j=>match Nat.blt j 14 with | true=>I j | false=>n (j - 1)) (ah 54 fun j=>match j with | 53=>u 4 | j=>O j):=by
   cases o<;>rfl
  refine ⟨fun j=>match Nat.blt j 14 with | true=>I j | false=>n (j - 1),fun j=>match j with | 53=>u 4 | j=>O j,?_,rfl,?_⟩
  · intro j d
    show (match Nat.blt j 14 with | true=>I j | false=>n (j - 1))=I j
    rw [show Nat.blt j 14=true from aF d]
  · show _=_++uU _ (some (ksX (bJ p o) (ah 37 _) (ah 54 _)))
    rw [← h]
    have r:sV J.p ((bJ p o).at (aK I) u) (dC (bJ p o)) n O=[(ad n 13,aw 938 (ad n 14)),(ad n 14,eW J.p (O 9) (O 10) (ad n 15) (ad n 17)),(ad n 15,aO [.str (cmS (bJ p o).lc (bJ p o).lo (bJ p o).rc (bJ p o).ro) (cmT (bJ p o).lc (bJ p o).lo (bJ p o).rc (bJ p o).ro (O 11))]),(ad n 16,aO [.int 0 (bJ p o).S.tc,lvB b (dq (lfA (bo (bJ p o).lc) (bJ p o).lo) (lfA (bo (bJ p o).rc) (bJ p o).ro)) (u 4)]),(ad n 17,aO [.bool false])]:=by
     rw [← c];rfl
    rw [r]
    rfl
set_option linter.constructorNameAsVariable false
structure SDu where
 w:Str
 v:Value
 x:Value
 y:Value
 xs:Array Value
 e:Nat
 e2:Nat
 s:Str
 l:Nat
 l2:Nat
 t:Nat→Tok
def duB:List Stmt:=mH (at1 68)
def duE (f:Nat):Env:=⟨bf (at1 68),f,3,[],(sv [95,108,97,119,95,100,117,101,46,60,108,111,99,97,108,115,62,46]:Str),some 1152,.ref 1151,some f,0⟩
def duT (i j f:Nat):bx:=.tree (.func duB (duE f)) (blk (bu duB i j) (duE f))
inductive WD where
 | i [h:Nonempty Nat] | ni | e | ne | v
noncomputable def eWD:Enu WD:=⟨[.i,.ni,.e,.ne,.v],by intro v;cases v<;>repeat constructor⟩
def WD.s:WD→Str
 | .i=>sv YL
 | .ni=>sv agC
 | .e=>sv J58
 | .ne=>sv af4
 | .v=>sv J2
inductive WE where
 | e [h:Nonempty Nat] | ne
noncomputable def eWE:Enu WE:=⟨[.e,.ne],by intro v;cases v<;>repeat constructor⟩
noncomputable def WE.w:WE→WD
 | .e=>.e
 | .ne=>.ne
def hV (P:Params) (p:SDu) (w:WD) (v:Value) (l l2:Nat):List DictEntry:=[dF P J35 (p.t 4) (.str w.s (p.t 0)),dF P J2 (p.t 5) v,dF P J6 (p.t 6) (.ref l),dF P J75 (p.t 7) (.ref l2),dF P J16 (p.t 8) (.str p.s (p.t 1))]
noncomputable def OC.neg:OC→OC
 | .f=>.o
 | .o=>.f
 | .t=>.t
inductive KS where
 | nn [h:Nonempty Nat] | ns | sn | ss
noncomputable def eKS:Enu KS:=⟨[.nn,.ns,.sn,.ss],by intro v;cases v<;>repeat constructor⟩
noncomputable def KS.a:KS→VK
 | .nn=>.n
 | .ns=>.n
 | _=>.s
noncomputable def KS.b:KS→VK
 | .nn=>.n
 | .sn=>.n
 | _=>.s
noncomputable def sdO (p:SDu):Obj:=ab ⟨[p.x,p.y]⟩ p.e2
def sdK (k:KS) (p:SDu):Obj:=ab ⟨[k.a.as p.x,k.b.as p.y]⟩ p.e2
noncomputable def duI (n:Bool):WD:=match n with
 | true=>.ni
 | false=>.i
noncomputable def duO (n:Bool) (o:OC):OC:=match n with
 | true=>o.neg
 | false=>o
def Li (k:VK) (q:KS) (o:OC) (p:SDu):List Bool:=[(v8Of (k.as p.v)).isSome,cK p.xs.toList,Nat.ble p.xs.toList.length 3,(bh p.s).isSome,(cg (q.a.as p.x)).isSome,(cg (q.b.as p.y)).isSome,(vV ((cg (q.a.as p.x)).getD .n) ((cg (q.b.as p.y)).getD .n) (k.as p.v) p.xs.toList p.s).is o,true]
noncomputable def aj4 (p:SDu):XT:=none
def aaw (J:WB):List (SG J):=smS ([]:CL J)
def duc (P:Params):aq SDu:=akt.spec ((⟨2,1,1,5,2,33,true,[0,1,2],[0,1,2,3,4],(by walk_at "#dldYK")⟩:akt) ) (fun p I=>.code (.call (.ref 1152) ⟨[.str p.w (p.t 0),p.v,.ref (ad I 0),.ref (ad I 1),.str p.s (p.t 1)],[]⟩)) (fun p I=>[ab p.xs p.e,sdO p]) (aj4 ) (fun p I O=>.again (.func duB (duE (ad I 2)))) (fun p I O=>[ab p.xs p.e,sdO p,frO [dF P J35 (O 0) (.str p.w (p.t 0)),dF P J2 (O 1) p.v,dF P J6 (O 2) (.ref (ad I 0)),dF P J75 (O 3) (.ref (ad I 1)),dF P J16 (O 4) (.str p.s (p.t 1))] 5]) (fun p I O=>none) (fun p I O=>[]) (fun p I O=>[])
theorem ak2 (J:WB) (p:SDu):(duc J.p).Runs J.w J.t (aaw J) p:=S4
def Vk (v:Bool × VK × OC × KS) (J:WB):List (SG J):=smS ((aaN,dS _ _) :: (isR 1145 5,RV v.2.2.1 J) :: []:CL J)
noncomputable def R5 (v:Bool × VK × OC × KS):List Nat:=match v.2.2.1 with | .f | .o=>(match v.1 with | false=>[4,5,4] | true=>[8,5,4]) | .t=>[900000,5]
noncomputable def Uf (v:Bool × VK × OC × KS):List Nat:=match v.1 with | false=>(by walk_at "#opgE'") | true=>(match v.2.2.1 with | .f | .o=>adP | .t=>adN)
def du0 (v:Bool × VK × OC × KS) (P:Params):aq SDu:=akt.spec ((⟨3,0,0,3,18,86,false,[0,1,2],R5 v,Uf v⟩:akt) ) (fun p I=>duT 0 1 (ad I 2)) (fun p I=>[ab p.xs p.e,sdK v.2.2.2 p,frO (hV P p (duI v.1) (v.2.1.as p.v) (ad I 0) (ad I 1)) 5]) (fun p=>none) (fun p I O=>.ret ((duO v.1 v.2.2.1).v (O 0):Value)) (fun p I O=>[ab p.xs p.e,sdK v.2.2.2 p,frO (hV P p (duI v.1) (v.2.1.as p.v) (ad I 0) (ad I 1)++[dF P afP (O 1) (v.2.2.1.v (O 2))]) 6]) (fun p I O=>none) (fun p I O=>(Li v.2.1 v.2.2.2 v.2.2.1 p).map .hb) (fun p I O=>bl (Li v.2.1 v.2.2.2 v.2.2.1 p))
theorem I8 (v:Bool × VK × OC × KS) (J:WB) (p:SDu):(du0 v J.p).Runs J.w J.t (Vk v J) p:=amK (amJ.pr (eVK.pr (eOC.pr eKS))) (fun v J=>du0 v J.p) (fun v J=>Vk v J) v J p
noncomputable def ajW (p:SDu):XT:=none
def SH (J:WB):List (SG J):=smS ([]:CL J)
def Yi (P:Params):aq SDu:=akt.spec ((⟨3,0,0,0,2,39,false,[0,1,2],[],[5,7,7,0,7,7,0,7,0,7]⟩:akt) ) (fun p I=>duT 0 1 (ad I 2)) (fun p I=>[ab p.xs p.e,sdO p,frO (hV P p .v p.v (ad I 0) (ad I 1)) 5]) (ajW ) (fun p I O=>.next) (fun p I O=>[ab p.xs p.e,sdO p,frO (hV P p .v p.v (ad I 0) (ad I 1)) 5]) (fun p I O=>none) (fun p I O=>[]) (fun p I O=>[])
theorem Eo (J:WB) (p:SDu):(Yi J.p).Runs J.w J.t (SH J) p:=SX (fun J=>(Yi J.p)) (fun J=>(SH J)) J p
def Sh (v:WE) (J:WB):List (SG J):=smS ([]:CL J)
def aaz (v:WE) (P:Params):aq SDu:=akt.spec ((⟨3,0,0,0,2,48,false,[0,1,2],[],(by walk_at "#'dPlf)>")⟩:akt) ) (fun p I=>duT 0 2 (ad I 2)) (fun p I=>[ab p.xs p.e,sdO p,frO (hV P p v.w p.v (ad I 0) (ad I 1)) 5]) (fun p=>none) (fun p I O=>.next) (fun p I O=>[ab p.xs p.e,sdO p,frO (hV P p v.w p.v (ad I 0) (ad I 1)) 5]) (fun p I O=>none) (fun p I O=>[]) (fun p I O=>[])
theorem D6 (v:WE) (J:WB) (p:SDu):(aaz v J.p).Runs J.w J.t (Sh v J) p:=amK eWE (fun v J=>aaz v J.p) (fun v J=>Sh v J) v J p
set_option linter.constructorNameAsVariable false
theorem wa {w:World} {A:Around} {E:Value→Shared→Prop} {h:Heap} {g:Array GenState} {d:Drawn} {tk:Nat} {os:OsState} {env:Env} {n q:Pos} {es:List DictEntry} {ep l e:Nat} {xs:Array Value} {Q:Value→Shared→Prop}
  (hk:env.scope.kind=.function) (hl:env.kindOf (sv J6)=some .local) (m:h.get? env.locals=some (frO es ep)) (s:es.all d6=true) (hv:nsFind ⟨es⟩ (sv J6)=some (.ref l)) (u:h.get? l=some (ab xs e)) (k:A.units < cLine)
  (K:∀ o i,Q (.bool (!xs.isEmpty)) ⟨h.push o,g,d,i,os⟩) :
  wpAny (model prog w) A (eval (.Name (sv J6) n) env) (fun a r=>wpAny (model prog w) A (eval (.List [] q) env) (fun b p=>wpAny (model prog w) A (compareOp .NotEq a b) Q E p) E r) E ⟨h,g,d,tk,os⟩:=by
 refine Tf (alv hk hl (gD m s) hv ?_)
 refine wpAny_List (wpAny_of_eq (a:=[]) rfl ⟨Bt _,?_⟩)
 have hb:(h.push { cls:=.type "list",data:=.seq ([]:List Value).toArray }).IsList h.objs.size #[]:=⟨_,Heap.get?_push_size _ rfl,rfl,_,rfl⟩
 have f:(h.push { cls:=.type "list",data:=.seq ([]:List Value).toArray }).IsList l xs:=⟨_,Heap.get?_push_of_some _ u,rfl,_,rfl⟩
 cases hz:xs.isEmpty with
 | true=>
  have c:xs.size=0:=by simpa [Array.isEmpty] using hz
  refine SeqAt.RcNeAt.lists f hb (by rw [c];rfl) k (e:=fun z=>true) (fun j v t=>absurd t (Ut _)) prog w E Q ?_
  rw [c]
  rw [hz] at K
  exact K _ _
 | false=>
  have c:xs.size ≠ 0:=by simpa [Array.isEmpty] using hz
  refine SeqAt.RcNeAt.lists_lengths f hb (by simpa using c) k prog w E Q ?_
  rw [hz] at K
  exact K _ _
theorem amI:∃ h k e g f l n m i a c d b k1 k2 j,br duB 1=.If (.Compare (.Name (sv J35) h) [.Eq] [.Constant (.str (sv J2)) k1 k] e) [.Return (some (.IfExp (.Compare (.Name (sv J6) g) [.NotEq] [.List [] f] l) (.Subscript (.Name (sv J6) n) (.Constant (.int 0) k2 m) i) (.Constant .none j a) c)) d] [] b:=
 ⟨⟨825,7,825,11⟩,⟨825,15,825,22⟩,⟨825,7,825,22⟩,⟨826,28,826,34⟩,⟨826,38,826,40⟩,⟨826,28,826,40⟩,⟨826,15,826,21⟩,⟨826,22,826,23⟩,⟨826,15,826,24⟩,⟨826,46,826,50⟩,⟨826,15,826,50⟩,⟨826,8,826,50⟩,⟨825,4,826,50⟩,0,0,0,by kernel_rfl⟩
noncomputable def lV (xs:Array Value):Value:=match xs.toList with
 | []=>.none
 | v :: _=>v
theorem SF {w:World} {top:Tr} (f l e ep:Nat) (t:Tok) (es:List DictEntry) (xs:Array Value) (z:es.all d6=true) (L:nsFind ⟨es⟩ (sv J35)=some (.str (sv J2) t)) (hv:nsFind ⟨es⟩ (sv J6)=some (.ref l)) :
  HR w top 5 (.tree (.func duB (duE f)) (blk [br duB 1] (duE f))) [(f,frO es ep),(l,ab xs e)]
   (fun en L'=>en=.ret (lV xs)∧L'=[(f,frO es ep),(l,ab xs e)]):=by
 intro A R h g d tk os J ht hb m K
 refine ex4 amI fun p1 Y T X i=>?_
 refine ex4 i fun W Z p7 p8 i=>?_
 refine ex4 i fun p9 M H F i=>?_
 refine ex4 i fun E k1 k2 k3 u=>?_
 have y:=(m.at_ (f,frO es ep) (gw ..)).1
 have C:=(m.at_ (l,ab xs e) (kt _ (cv.mpr rfl))).1
 have Q:=pv (c:=.func duB (duE f)) J (by decide) (ag rfl)
 have j:(duE f).scope.kind=.function:=kP (by kernel_rfl)
 have s:(duE f).kindOf (sv J35)=some .local:=by kernel_rfl
 have n:(duE f).kindOf (sv J6)=some .local:=by kernel_rfl
 rw [jM,u]
 refine Vu (eD (wpAny_If (al2 (Tf (alv j s (gD y z) L ?_)) rfl)))
 refine wpAny_Constant_str (eq_str (alO ?_))
 rw [show (sv J2 == sv J2)=true by kernel_rfl,jW rfl]
 refine eD (alR (wpAny_IfExp (al2 (wa (es:=es) (ep:=ep) (l:=l) (e:=e) (xs:=xs) j n y z hv C Q fun o N=>alO ?_) rfl)))
 have P:Has (h.push o) [(f,frO es ep),(l,ab xs e)]:=⟨fun p B=>⟨Heap.get?_push_of_some _ (m.at_ p B).1,(m.at_ p B).2⟩,m.nd⟩
 have v:∀ k,R (.ok (.ret (lV xs))) ⟨h.push o,g,d,k,os⟩:=fun k=>K (.ret (lV xs)) [(f,frO es ep),(l,ab xs e)] _ _ ⟨rfl,rfl⟩ P (fun a S=>.inl S) (fun b o' q zz=>Heap.get?_push_of_some _ q) (by rw [Zt];exact Rt _)
 cases hz:xs.isEmpty with
 | true=>
  rw [show (!true)=false from rfl,b4 alz]
  refine wpAny_Constant_none ?_
  have D:lV xs=.none:=by
   unfold lV
   have:xs.toList=[]:=by
    have:=Array.isEmpty_iff.mp hz
    rw [this]
   rw [this]
  rw [D] at v
  exact v _
 | false=>
  rw [show (!false)=true from rfl,jW rfl]
  have x:(h.push o).get? (duE f).locals=some (frO es ep):=Heap.get?_push_of_some _ y
  have r:(h.push o).IsList l xs:=⟨_,Heap.get?_push_of_some _ C,rfl,_,rfl⟩
  refine wpAny_Subscript_Constant_late (Tf (alv j n (gD x z) hv ?_))
  have G:xs[0]? = some (lV xs):=by
   unfold lV
   cases xs with
   | mk ls=>
    cases ls with
    | nil=>cases hz
    | cons a b=>rfl
  refine alT ⟨"list","list.__getitem__",rfl,?_,wpAny_getItem_list r (by decide) (by decide) G (v _)⟩
  exact r.typeIs
theorem amH:∃ f g b d c h j i e a k1,br duB 2=.Return (some (.Call (.Name (sv Xb) f) [.Compare (.Compare (.Name (sv J6) g) [.NotEq] [.List [] b] d) [.Eq] [.Compare (.Name (sv J35) c) [.Eq] [.Constant (.str (sv J58)) k1 h] j] i] [] e)) a:=
 ⟨⟨827,11,827,14⟩,⟨827,16,827,22⟩,⟨827,26,827,28⟩,⟨827,16,827,28⟩,⟨827,34,827,38⟩,⟨827,42,827,50⟩,⟨827,34,827,50⟩,⟨827,15,827,51⟩,⟨827,11,827,52⟩,⟨827,4,827,52⟩,0,by kernel_rfl⟩
noncomputable def iy (o:Obj):List DictEntry:=match o.data with
 | .dict es _=>es.toList
 | _=>[]
noncomputable def uD (o:Obj):Bool:=match o with
 | ⟨_,_,.dict _ _,_⟩=>true
 | _=>false
theorem Bs {h:Heap} {a:Nat} {o:Obj} (d:h.get? a=some o) (hd:uD o=true) (b:(iy o).all d6=true):h.Ns a (nsFind ⟨iy o⟩):=by
 obtain ⟨c,g,f,sl⟩:=o
 cases f with
 | dict es ep=>
  exact ⟨_,es,ep,d,rfl,fun e he=>anv (Gt.mp b e (Jt.mpr he)),fun z=>rfl⟩
 | _=>cases hd
theorem JC (P:Params):(iy (o3 P)).all d6=true∧uD (o3 P)=true∧nsFind ⟨iy (o3 P)⟩ (sv Xb)=none:=⟨by kernel_rfl,by kernel_rfl,by kernel_rfl⟩
theorem P6 (P:Params):(iy (o0 P)).all d6=true∧uD (o0 P)=true∧nsFind ⟨iy (o0 P)⟩ (sv Xb)=some (.type "int"):=⟨by kernel_rfl,by kernel_rfl,by kernel_rfl⟩
theorem tg3 (P:Params):tg (ac P) 3=some (o3 P):=by kernel_rfl
theorem tg0 (P:Params):tg (ac P) 0=some (o0 P):=by kernel_rfl
theorem TP {w:World} {P:Params} (f l e ep:Nat) (wd:WD) (t:Tok) (es:List DictEntry) (xs:Array Value) (B:es.all d6=true) (G:nsFind ⟨es⟩ (sv J35)=some (.str wd.s t)) (hv:nsFind ⟨es⟩ (sv J6)=some (.ref l)) :
  HR w (ac P) 5 (.tree (.func duB (duE f)) (blk [br duB 2] (duE f))) [(f,frO es ep),(l,ab xs e)]
   (fun en L'=>(∃ t,en=.ret (.int (if (!xs.isEmpty) == (wd.s == sv J58) then 1 else 0) t))∧L'=[(f,frO es ep),(l,ab xs e)]):=by
 intro A R h g d tk os F x hb k K
 refine ex4 amH fun p1 Z W Y i=>?_
 refine ex4 i fun X p6 p7 p8 i=>?_
 refine ex3 i fun p9 H k1 r=>?_
 have z:=(k.at_ (f,frO es ep) (gw ..)).1
 have Q:=(k.at_ (l,ab xs e) (kt _ (cv.mpr rfl))).1
 have M:=pv (c:=.func duB (duE f)) F (by decide) (ag rfl)
 have j:(duE f).scope.kind=.function:=kP (by kernel_rfl)
 have n:(duE f).kindOf (sv J35)=some .local:=by kernel_rfl
 have v:(duE f).kindOf (sv J6)=some .local:=by kernel_rfl
 have m:(duE f).kindOf (sv Xb)=some .globalImplicit:=by kernel_rfl
 obtain ⟨N,C,D⟩:=JC P
 obtain ⟨n1,n2,n3⟩:=P6 P
 have T:=Bs (x 3 _ (tg3 P)) C N
 have E:=Bs (x 0 _ (tg0 P)) n2 n1
 rw [jM,r]
 refine Vu (eD (alR (al4 (Name_function_global j m (loadGlobal_builtin (mg:=nsFind ⟨iy (o3 P)⟩) (mb:=nsFind ⟨iy (o0 P)⟩) T D E n3 ?_)))))
 refine PySem.callWith_type rfl (alQ (Ot ?_))
 refine alG (alG (wa (es:=es) (ep:=ep) (l:=l) (e:=e) (xs:=xs) j v z B hv Q M fun o J=>?_))
 have u:(h.push o).get? (duE f).locals=some (frO es ep):=Heap.get?_push_of_some _ z
 refine alG (Tf (alv j n (gD u B) G ?_))
 refine wpAny_Constant_str (eq_str ?_)
 refine SeqAt.RcAt.bool_bool _ _ prog w _ _ ?_
 refine Ow (call_int_bool ?_)
 have L:Has (h.push o) [(f,frO es ep),(l,ab xs e)]:=⟨fun p y=>⟨Heap.get?_push_of_some _ (k.at_ p y).1,(k.at_ p y).2⟩,k.nd⟩
 exact K (.ret (.int (if (!xs.isEmpty) == (wd.s == sv J58) then 1 else 0) _)) [(f,frO es ep),(l,ab xs e)] _ _ ⟨⟨_,rfl⟩,rfl⟩ L (fun a S=>.inl S) (fun b o' q s=>Heap.get?_push_of_some _ q) (by rw [Zt];exact Rt _)
set_option linter.constructorNameAsVariable false
noncomputable def OC.x:OC→V8
 | .f=>.i1
 | .o=>.i0
 | .t=>.n
theorem OC.v_x (o:OC) (t:Tok):o.v t=o.x.v t:=by cases o<;>rfl
noncomputable def WW (b:Bool):V8:=match b with
 | true=>.i1
 | false=>.i0
def Ec (nc:Bool) (sx sy:SD) (w:WD) (x:V8) (vs:List V8):V8:=match w with
 | .i=>(iV nc sx sy x vs).x
 | .ni=>(iV nc sx sy x vs).neg.x
 | .e=>WW (!vs.isEmpty)
 | .ne=>WW vs.isEmpty
 | .v=>vs.head?.getD .n
noncomputable def vk8:V8→VK
 | .n=>.n
 | .i0=>.i
 | .i1=>.i
 | .i2=>.i
 | _=>.s
theorem Te (x:V8) (u:Tok):(vk8 x).as (x.v u)=x.v u:=by cases x<;>rfl
noncomputable def qn:SD→SD→KS
 | .n,.n=>.nn
 | .n,_=>.ns
 | _,.n=>.sn
 | _,_=>.ss
theorem Tq (x y:SD) (t:Tok):(qn x y).a.as (x.v t)=x.v t:=by cases x<;>cases y<;>rfl
theorem Uz (x y:SD) (t:Tok):(qn x y).b.as (y.v t)=y.v t:=by cases x<;>cases y<;>rfl
theorem nM:duB=bu duB 0 1++([br duB 1]++[br duB 2]):=by kernel_rfl
theorem Ae:duB=bu duB 0 2++[br duB 2]:=by kernel_rfl
section
variable {J:WB}
def pP (nc:Bool) (sx sy:SD) (wd:WD) (x:V8) (vs:List V8) (l e l2 e2:Nat) (xs:List Value) (a b:Tok) (en:En) (L':XL):Prop:=
 (∃ t,en=.ret ((Ec nc sx sy wd x vs).v t))∧L'=[(l,ab ⟨xs⟩ e),(l2,ab ⟨[sx.v a,sy.v b]⟩ e2)]
section
variable (sx sy:SD) (x:V8) (xs:List Value) (vs:List V8) (nc:Bool) (hys:bk xs vs) (hl:xs.length≤3) (l e l2 e2 f:Nat) (h1:1158≤l) (h2:1158≤l2) (h3:1158≤f) (p:SDu)
 (hpv:∃ u,p.v=x.v u) (hps:p.s=aA nc) (hpx:p.x=sx.v (p.t 2)) (hpy:p.y=sy.v (p.t 3)) (hpxs:p.xs=⟨xs⟩) (hpe:p.e=e) (hpe2:p.e2=e2)
abbrev duL (P:Params) (wd:WD):XL:=[(l,ab p.xs p.e),(l2,sdO p),(f,frO (hV P p wd p.v l l2) 5)]
include hys hl h1 h2 h3 hpv hps hpx hpy hpxs hpe hpe2
theorem Qx (n:Bool):HRG J 20 (.tree (.func duB (duE f)) (blk duB (duE f))) (duL l l2 f p J.p (duI n)) (pP nc sx sy (duI n) x vs l e l2 e2 xs (p.t 2) (p.t 3)):=by
 obtain ⟨u,hpv⟩:=hpv
 have c:∀ a∈[l,l2,f],1158≤a:=by
  repeat (first | exact anc | refine anb (by assumption) ?_)
 have m:ad (nuL [l,l2,f]) 0=l:=aB c rfl
 have k:ad (nuL [l,l2,f]) 1=l2:=aB c rfl
 have j:ad (nuL [l,l2,f]) 2=f:=aB c rfl
 refine exL (iV nc sx sy x vs) fun o i=>?_
 have ev:(vk8 x).as p.v=p.v:=by rw [hpv,Te]
 have d:(qn sx sy).a.as p.x=p.x:=by rw [hpx,Tq]
 have g:(qn sx sy).b.as p.y=p.y:=by rw [hpy,Uz]
 have H:=aq.hrZ (ay _) (I8 (n,vk8 x,o,qn sx sy) J p) (by intros;exact tT) rfl rfl (fun z z=>rfl) [l,l2,f] rfl c (fun I' O z=>by
  show (Li (vk8 x) (qn sx sy) o p).map OV.hb=bl (Li (vk8 x) (qn sx sy) o p)
  refine ch ?_
  unfold Li
  rw [ev,d,g,hpv,hpx,hpy,hps,hpxs,cV,cY,lu,lu]
  refine all_cons rfl (all_cons hys.all (all_cons (aF hl) (all_cons rfl (all_cons rfl (all_cons rfl (all_cons ?_ (all_cons rfl cC)))))))
  show (vV sx sy (x.v u) xs (aA nc)).is o=true
  unfold vV
  rw [cV,cY,Ak hys,i]
  exact OC.is_self _)
 rw [nM]
 refine HR.early ?_ (fun en L' h=>by obtain ⟨⟨t,rfl⟩,-⟩:=h;exact ⟨_,rfl⟩)
 have key:HR _ _ _ (duT 0 1 (ad (nuL [l,l2,f]) 2)) [(l,ab p.xs p.e),(l2,sdK (qn sx sy) p),(f,frO (hV J.p p (duI n) ((vk8 x).as p.v) (ad (nuL [l,l2,f]) 0) (ad (nuL [l,l2,f]) 1)) 5)] _:=H
 unfold sdK at key
 rw [m,k,j,ev,d,g] at key
 refine (key.mono (need':=20) (ag rfl) fun e L' h=>h).drop <| elB fun O=>?_
 refine ⟨_,[(f,frO (hV J.p p (duI n) ((vk8 x).as p.v) (ad (nuL [l,l2,f]) 0) (ad (nuL [l,l2,f]) 1)++[dF J.p afP (O 1) (o.v (O 2))]) 6)],?_,⟨O 0,?_⟩,rfl⟩
 · refine fv ?_
   show [(l,ab p.xs p.e),(l2,ab ⟨[(qn sx sy).a.as p.x,(qn sx sy).b.as p.y]⟩ p.e2),_]=_
   rw [d,g,hpx,hpy,hpxs,hpe,hpe2]
   rfl
 · show En.ret ((duO n o).v (O 0))=_
   rw [OC.v_x,i]
   cases n<;>rfl
theorem QP (v:WE):HRG J 20 (.tree (.func duB (duE f)) (blk duB (duE f))) (duL l l2 f p J.p v.w) (pP nc sx sy v.w x vs l e l2 e2 xs (p.t 2) (p.t 3)):=by
 have d:∀ a∈[l,l2,f],1158≤a:=by
  repeat (first | exact anc | refine anb (by assumption) ?_)
 have o:ad (nuL [l,l2,f]) 0=l:=aB d rfl
 have k:ad (nuL [l,l2,f]) 1=l2:=aB d rfl
 have i:ad (nuL [l,l2,f]) 2=f:=aB d rfl
 have H:=aq.hrZ (ay _) (D6 v J p) (by intros;exact tT) rfl rfl (fun z z=>rfl) [l,l2,f] rfl d (fun I' O z=>rfl)
 have key:HR _ _ _ (duT 0 2 (ad (nuL [l,l2,f]) 2)) [(l,ab p.xs p.e),(l2,sdO p),(f,frO (hV J.p p v.w p.v (ad (nuL [l,l2,f]) 0) (ad (nuL [l,l2,f]) 1)) 5)] (fun en L'=>∃ O:Nat→Nat,en=.next∧L'=[(l,ab p.xs p.e),(l2,sdO p),(f,frO (hV J.p p v.w p.v (ad (nuL [l,l2,f]) 0) (ad (nuL [l,l2,f]) 1)) 5)]):=H
 rw [o,k,i] at key
 rw [Ae]
 refine HR.blocks (key.mono (need':=20) (ag rfl) fun e L' h=>h) <| elB fun O=>?_
 refine ⟨rfl,?_⟩
 have j:=((TP (w:=J.w) (P:=J.p) f l p.e 5 v.w (p.t 0) (hV J.p p v.w p.v l l2) p.xs rfl rfl rfl).frame [(l2,sdO p)]).perm (L':=duL l l2 f p J.p v.w) (by
  exact ane (L:=[]) (E:=[_,_,_]) (.a (.c 0 (.c 1 .n)) (.c 2 .n)) (.c 1 (.c 2 (.c 0 .n))) rfl)
 refine (j.mono (need':=20) (ag rfl) fun e L' h=>h).drop fun en L' m=>?_
 obtain ⟨q,rfl,⟨t,rfl⟩,rfl⟩:=m
 refine ⟨_,[(f,frO (hV J.p p v.w p.v l l2) 5)],?_,⟨t,?_⟩,rfl⟩
 · show List.Perm ([(f,frO (hV J.p p v.w p.v l l2) 5),(l,ab p.xs p.e)]++[(l2,ab ⟨[p.x,p.y]⟩ p.e2)]) _
   rw [hpx,hpy,hpxs,hpe,hpe2]
   exact ane (L:=[]) (E:=[_,_,_]) (.a (.c 0 (.c 1 .n)) (.c 2 .n)) (.a (.c 1 (.c 2 .n)) (.c 0 .n)) rfl
 · have g:=hys.len
   rw [hpxs]
   refine congrArg En.ret ?_
   cases xs with
   | nil=>
    cases vs with
    | nil=>cases v<;>rfl
    | cons a b=>cases g
   | cons a b=>
    cases vs with
    | nil=>cases g
    | cons a b=>cases v<;>rfl
theorem WL:HRG J 20 (.tree (.func duB (duE f)) (blk duB (duE f))) (duL l l2 f p J.p .v) (pP nc sx sy .v x vs l e l2 e2 xs (p.t 2) (p.t 3)):=by
 have g:∀ a∈[l,l2,f],1158≤a:=by
  repeat (first | exact anc | refine anb (by assumption) ?_)
 have r:ad (nuL [l,l2,f]) 0=l:=aB g rfl
 have o:ad (nuL [l,l2,f]) 1=l2:=aB g rfl
 have k:ad (nuL [l,l2,f]) 2=f:=aB g rfl
 have H:=aq.hrZ (ay _) (Eo J p) (by intros;exact tT) rfl rfl (fun Z Z=>rfl) [l,l2,f] rfl g (fun I' O Z=>rfl)
 have key:HR _ _ _ (duT 0 1 (ad (nuL [l,l2,f]) 2)) [(l,ab p.xs p.e),(l2,sdO p),(f,frO (hV J.p p .v p.v (ad (nuL [l,l2,f]) 0) (ad (nuL [l,l2,f]) 1)) 5)] (fun en L'=>∃ O:Nat→Nat,en=.next∧L'=[(l,ab p.xs p.e),(l2,sdO p),(f,frO (hV J.p p .v p.v (ad (nuL [l,l2,f]) 0) (ad (nuL [l,l2,f]) 1)) 5)]):=H
 rw [r,o,k] at key
 rw [nM]
 refine HR.blocks (key.mono (need':=20) (ag rfl) fun e L' h=>h) <| elB fun O=>?_
 refine ⟨rfl,?_⟩
 refine HR.early ?_ (fun en L' h=>by obtain ⟨⟨t,rfl⟩,-⟩:=h;exact ⟨_,rfl⟩)
 have m:=((SF (w:=J.w) (top:=ac J.p) f l p.e 5 (p.t 0) (hV J.p p .v p.v l l2) p.xs rfl rfl rfl).frame [(l2,sdO p)]).perm (L':=duL l l2 f p J.p .v) (by
  exact ane (L:=[]) (E:=[_,_,_]) (.a (.c 0 (.c 1 .n)) (.c 2 .n)) (.c 1 (.c 2 (.c 0 .n))) rfl)
 refine (m.mono (need':=20) (ag rfl) fun e L' h=>h).drop fun en L' q=>?_
 obtain ⟨z,rfl,rfl,rfl⟩:=q
 have j:∃ t,En.ret (lV p.xs)=.ret ((Ec nc sx sy .v x vs).v t):=by
  have i:=hys.len
  rw [hpxs]
  cases xs with
  | nil=>
   cases vs with
   | nil=>exact ⟨0,rfl⟩
   | cons a b=>cases i
  | cons a b=>
   cases vs with
   | nil=>cases i
   | cons c d=>
    obtain ⟨⟨u,rfl⟩,-⟩:=hys
    exact ⟨u,rfl⟩
 refine ⟨_,[(f,frO (hV J.p p .v p.v l l2) 5)],?_,j,rfl⟩
 show List.Perm ([(f,frO (hV J.p p .v p.v l l2) 5),(l,ab p.xs p.e)]++[(l2,ab ⟨[p.x,p.y]⟩ p.e2)]) _
 rw [hpx,hpy,hpxs,hpe,hpe2]
 exact ane (L:=[]) (E:=[_,_,_]) (.a (.c 0 (.c 1 .n)) (.c 2 .n)) (.a (.c 1 (.c 2 .n)) (.c 0 .n)) rfl
end
end
set_option linter.constructorNameAsVariable false
def F0 (s:Str):Option WD:=lk (fun k=>eqS s (sv k)) [(YL,.i),(agC,.ni),(J58,.e),(af4,.ne),(J2,.v)]
theorem M6 {s:Str} {x:WD} (h:F0 s=some x):s=x.s:=anw WD.s h
theorem Io (x:WD):F0 x.s=some x:=by cases x<;>rfl
noncomputable def V8.no:V8→Nat
 | .n=>0
 | .i0=>1
 | .i1=>2
 | .i2=>3
 | .a=>4
 | .A=>5
 | .s2=>6
 | .b=>7
 | .s0=>8
 | .s1=>9
noncomputable def V8.is (a b:V8):Bool:=Nat.beq a.no b.no
theorem V8.is_eq {a b:V8} (h:a.is b=true):a=b:=eV8.isEq V8.ix V8.at_ix V8.is h
theorem V8.is_self (a:V8):a.is a=true:=by cases a<;>rfl
section
variable {J:WB}
theorem HZ (wd:WD) (sx sy:SD) (x:V8) (u:Tok) (xs:List Value) (vs:List V8) (nc:Bool) (c:bk xs vs) (hl:xs.length≤3) (l e l2 e2:Nat) (r:1158≤l) (n:1158≤l2) (a b E F:Tok) :
  HRG J 20 (.code (.call (.ref 1152) ⟨[.str wd.s E,x.v u,.ref l,.ref l2,.str (aA nc) F],[]⟩)) [(l,ab ⟨xs⟩ e),(l2,ab ⟨[sx.v a,sy.v b]⟩ e2)]
   (pP nc sx sy wd x vs l e l2 e2 xs a b):=by
 refine exL ({ w:=wd.s,v:=x.v u,x:=sx.v a,y:=sy.v b,xs:=⟨xs⟩,e:=e,e2:=e2,s:=aA nc,l:=l,l2:=l2,t:=fun j=>match j with | 0=>E | 1=>F | 2=>a | _=>b }:SDu) fun k G=>?_
 have g:∀ a∈[l,l2],1158≤a:=by
  repeat (first | exact anc | refine anb (by assumption) ?_)
 have L:ad (nuL [l,l2]) 0=l:=aB g rfl
 have e1:ad (nuL [l,l2]) 1=l2:=aB g rfl
 have P:=(aq.he (ay _) (ak2 J k) (by intros;exact tT) (nuL [l,l2]) (fun Z Z Z=>rfl)).hr
 have key:HR _ _ _ (.code (.call (.ref 1152) ⟨[.str k.w (k.t 0),k.v,.ref (ad (nuL [l,l2]) 0),.ref (ad (nuL [l,l2]) 1),.str k.s (k.t 1)],[]⟩)) ([(ad (nuL [l,l2]) 0,ab k.xs k.e),(ad (nuL [l,l2]) 1,sdO k)]++[]) _:=P
 rw [L,e1,G] at key
 refine (key.mono (need':=20) (ag rfl) fun e L' h=>h).again <| elA fun I' O' K=>?_
 have M:ad I' 0=l:=nR g K (ag rfl) rfl
 have N:ad I' 1=l2:=nR g K (ag rfl) rfl
 refine ⟨.func duB (duE (ad I' 2)),rfl,rfl,?_⟩
 refine exL (ad I' 2) fun f H=>?_
 have C:1158≤f:=by rw [H];exact b8 _ _
 refine exL ({ w:=wd.s,v:=x.v u,x:=sx.v a,y:=sy.v b,xs:=⟨xs⟩,e:=e,e2:=e2,s:=aA nc,l:=l,l2:=l2,t:=fun j=>swN [(0,E),(1,F),(2,a),(3,b),(4,ah 5 O' 0),(5,ah 5 O' 1),(6,ah 5 O' 2),(7,ah 5 O' 3)] (ah 5 O' 4) j}:SDu) fun p d=>?_
 have Q:HRG J 20 (.code (.func duB (duE f))) (duL l l2 f p J.p wd) (pP nc sx sy wd x vs l e l2 e2 xs a b):=?_
 · subst d H
   show HR _ _ _ (.code (.func duB (duE (ad I' 2)))) ([(ad I' 0,ab ⟨xs⟩ e),(ad I' 1,ab ⟨[sx.v a,sy.v b]⟩ e2),(ad I' 2,frO [dF _ J35 (ah 5 O' 0) (.str wd.s E),dF _ J2 (ah 5 O' 1) (x.v u),dF _ J6 (ah 5 O' 2) (.ref (ad I' 0)),dF _ J75 (ah 5 O' 3) (.ref (ad I' 1)),dF _ J16 (ah 5 O' 4) (.str (aA nc) F)] 5)]++[]) _
   rw [M,N]
   exact Q
 refine HR.func ?_ (fun e L' h=>by obtain ⟨⟨t,rfl⟩,-⟩:=h;exact ⟨_,rfl⟩)
 have R:p.t 2=a:=by subst d;rfl
 have hb:p.t 3=b:=by subst d;rfl
 rw [← R,← hb]
 have q:∃ u,p.v=x.v u:=⟨u,by subst d;rfl⟩
 have D:p.s=aA nc:=by subst d;rfl
 have z:p.x=sx.v (p.t 2):=by subst d;rfl
 have B:p.y=sy.v (p.t 3):=by subst d;rfl
 have A:p.xs=⟨xs⟩:=by subst d;rfl
 have o:p.e=e:=by subst d;rfl
 have m:p.e2=e2:=by subst d;rfl
 cases wd with
 | i=>exact Qx sx sy x xs vs nc c hl l e l2 e2 f r n C p q D z B A o m false
 | ni=>exact Qx sx sy x xs vs nc c hl l e l2 e2 f r n C p q D z B A o m true
 | e=>exact QP sx sy x xs vs nc c hl l e l2 e2 f r n C p q D z B A o m .e
 | ne=>exact QP sx sy x xs vs nc c hl l e l2 e2 f r n C p q D z B A o m .ne
 | v=>exact WL sx sy x xs vs nc c hl l e l2 e2 f r n C p q D z B A o m
end
def OB (w:Str) (v:Value) (xs:List Value) (x y:Value) (s:Str):V8:=Ec ((bh s).getD false) ((cg x).getD .n) ((cg y).getD .n) ((F0 w).getD .i) ((v8Of v).getD .n) (v8L xs)
def vy (x:V8) (J:WB):LG J where
 P:=Raw
 fs:=[.arg 2,.arg 3]
 qt:=0
 q:=0
 it:=1
 need:=20
 ext:=Raw.mk
 obl _ p:=([.hb (F0 (aD (ax p.c 0))).isSome,.hb (v8Of (ax p.c 1)).isSome,.hb (cK (ao [uF p.os 0]).1.toList),.hb (Nat.ble (ao [uF p.os 0]).1.toList.length 3),.hb (bh (aD (ax p.c 4))).isSome,.hb (cg (bN (uF p.os 1) 0)).isSome,.hb (cg (bN (uF p.os 1) 1)).isSome,.hb ((OB (aD (ax p.c 0)) (ax p.c 1) (ao [uF p.os 0]).1.toList (bN (uF p.os 1) 0) (bN (uF p.os 1) 1) (aD (ax p.c 4))).is x)],[.hb true,.hb true,.hb true,.hb true,.hb true,.hb true,.hb true,.hb true])
 code I p:=.call (.ref 1152) ⟨[aS p.c 0,ax p.c 1,.ref (ad I 0),.ref (ad I 1),aS p.c 4],[]⟩
 pre I p:=[ab (ao [uF p.os 0]).1 (ao [uF p.os 0]).2,ab ⟨[bN (uF p.os 1) 0,bN (uF p.os 1) 1]⟩ (ao [uF p.os 1]).2]
 preX p:=p.X
 post I O p:=[ab (ao [uF p.os 0]).1 (ao [uF p.os 0]).2,ab ⟨[bN (uF p.os 1) 0,bN (uF p.os 1) 1]⟩ (ao [uF p.os 1]).2]
 postX I O p:=p.X
 res _ O p:=x.v (O 0)
 qle:=ai _
 olen _ _:=rfl
 len _ _ _:=rfl
 ok p I a _:=by
  obtain ⟨n,a⟩:=aU a
  obtain ⟨r,a⟩:=aU a
  obtain ⟨j,a⟩:=aU a
  obtain ⟨A,a⟩:=aU a
  obtain ⟨o,a⟩:=aU a
  obtain ⟨h6,a⟩:=aU a
  obtain ⟨u,a⟩:=aU a
  obtain ⟨h5,-⟩:=aU a
  obtain ⟨wd,e⟩:=lw.mp n
  obtain ⟨sx,f⟩:=lw.mp h6
  obtain ⟨sy,b⟩:=lw.mp u
  have e6:=jn f
  have m:=jn b
  have i:=M6 e
  obtain ⟨y,h⟩:=lw.mp r
  obtain ⟨nc,d⟩:=lw.mp o
  have e1:=ew h
  have e4:=lz d
  have hr:=V8.is_eq h5
  unfold OB at hr
  rw [e,h,d,f,b] at hr
  have hr:Ec nc sx sy wd y (v8L (ao [uF p.os 0]).1.toList)=x:=hr
  have B:ad (ah 2 I) 0=ad I 0:=rfl
  have w:ad (ah 2 I) 1=ad I 1:=rfl
  have key:=(HZ (J:=J) wd sx sy y (ak (ax p.c 1)) (ao [uF p.os 0]).1.toList (v8L (ao [uF p.os 0]).1.toList) nc (um j) (ag A) (ad I 0) (ao [uF p.os 0]).2 (ad I 1) (ao [uF p.os 1]).2 (b8 _ _) (b8 _ _) (ak (bN (uF p.os 1) 0)) (ak (bN (uF p.os 1) 1)) (ak (ax p.c 0)) (ak (ax p.c 4))).frame (uU J.p p.X)
  refine HR.tx (nx:=false) (k:=2) (K:=fun I' O'=>_) ?_
  have l:(Code.call (.ref 1152) ⟨[aS p.c 0,ax p.c 1,.ref (ad (ah 2 I) 0),.ref (ad (ah 2 I) 1),aS p.c 4],[]⟩)=Code.call (.ref 1152) ⟨[.str wd.s (ak (ax p.c 0)),y.v (ak (ax p.c 1)),.ref (ad I 0),.ref (ad I 1),.str (aA nc) (ak (ax p.c 4))],[]⟩:=by
   unfold aS
   rw [B,w,← e1,e4,i]
  show HR _ _ 20 (.code (Code.call (.ref 1152) ⟨[aS p.c 0,ax p.c 1,.ref (ad (ah 2 I) 0),.ref (ad (ah 2 I) 1),aS p.c 4],[]⟩)) (tc I 0 [ab (ao [uF p.os 0]).1 (ao [uF p.os 0]).2,ab ⟨[bN (uF p.os 1) 0,bN (uF p.os 1) 1]⟩ (ao [uF p.os 1]).2]++uU _ p.X) _
  rw [l]
  have g:tc I 0 [ab (ao [uF p.os 0]).1 (ao [uF p.os 0]).2,ab ⟨[bN (uF p.os 1) 0,bN (uF p.os 1) 1]⟩ (ao [uF p.os 1]).2]=[(ad I 0,ab (ao [uF p.os 0]).1 (ao [uF p.os 0]).2),(ad I 1,ab ⟨[sx.v (ak (bN (uF p.os 1) 0)),sy.v (ak (bN (uF p.os 1) 1))]⟩ (ao [uF p.os 1]).2)]:=by
   rw [← e6,← m];rfl
  rw [g]
  refine key.mono (ai _) fun en L' z=>?_
  obtain ⟨C,rfl,⟨t,rfl⟩,rfl⟩:=z
  refine ⟨I,fun Z=>t,fun Z Z=>rfl,?_,?_⟩
  · show En.ret _=En.ret (x.v (ah 1 (fun Z=>t) 0))
    rw [← hr]
    rfl
  · show _=tc I 0 [ab (ao [uF p.os 0]).1 (ao [uF p.os 0]).2,ab ⟨[bN (uF p.os 1) 0,bN (uF p.os 1) 1]⟩ (ao [uF p.os 1]).2]++uU _ p.X
    rw [g]
set_option linter.constructorNameAsVariable false
structure SB where
 S:aa
 xs:Array Value
 v:Value
 o:Bool
 g:Bool
 wd:WD
 x:Value
 y:Value
 cx:Str
 cy:Str
 lc:Nat
 lo:Obj
 rc:Nat
 ro:Obj
 co:Str
 du:Value
 es:List DictEntry
 he:Nat
 t:Nat→Tok
 r:Nat→Nat
 xe:Nat
noncomputable def SB.stand:SB:=⟨SM.stand.S,#[],.none,false,false,.i,.none,.none,⟨#[]⟩,⟨#[]⟩,0,default,0,default,⟨#[]⟩,.none,[],0,fun z=>0,fun z=>0,0⟩
def bFr (P:Params) (p:SB) (I:ae8):List DictEntry:=[dF P J64 (p.t 0) (.ref (p.r 2)),dF P J6 (p.t 1) (.ref (ad I 1)),dF P J2 (p.t 2) p.v,dF P YU (p.t 3) (.bool p.o),dF P J35 (p.t 4) (.str p.wd.s (p.t 5)),dF P J75 (p.t 6) (.ref (ad I 2)),dF P J51 (p.t 7) (.ref (ad I 3)),
 dF P J36 (p.t 8) (.ref (p.S.p + 1158)),dF P Z9 (p.t 9) (.int 1 (p.t 10)),dF P afz (p.t 11) (.int 3 (p.t 12)),dF P agq (p.t 13) (.int (Int.negSucc 0) (p.t 14)),dF P J25 (p.t 15) (.int (Int.negSucc 1) (p.t 16)),dF P Vn (p.t 17) (.ref (ad I 4)),dF P J18 (p.t 18) (.ref (ad I 8)),dF P J26 (p.t 19) (.ref (ad I 15)),dF P J7 (p.t 20) (.ref (ad I 17)),
 dF P J11 (p.t 21) (.int 7 (p.t 22)),dF P J87 (p.t 23) (.int 5 (p.t 24)),dF P J46 (p.t 25) (.int 1 (p.t 26)),dF P J16 (p.t 64) (.str p.co (p.t 65)),dF P J21 (p.t 67) (.ref (ad I 19)),dF P aaa (p.t 66) p.du]
def bF (P:Params) (p:SB) (I:ae8) (n:Nat):Obj:=frO ((bFr P p I).take n) n
def am3 (P:Params) (p:SB) (I:ae8):Obj:=aE [dF P J36 (p.t 30) (.ref (p.S.p + 1158)),dF P J78 (p.t 31) (.ref (ad I 6)),dF P J66 (p.t 32) (.ref (p.r 0)),dF P J68 (p.t 33) .none,dF P J55 (p.t 34) .none,dF P J85 (p.t 35) (.ref 1114),dF P J74 (p.t 36) .none] 7
def Vi (P:Params) (p:SB) (I:ae8):Obj:=aE [dF P J61 (p.t 40) .none,dF P J52 (p.t 41) (.ref (p.r 1)),dF P J57 (p.t 42) .none,dF P J63 (p.t 43) .none,dF P J6 (p.t 44) (.ref (ad I 1)),dF P J91 (p.t 45) (.int 4 (p.t 46)),dF P J92 (p.t 47) (.ref (ad I 10)),dF P J90 (p.t 48) (.ref (ad I 11))] 8
noncomputable def bOu (p:SB):Obj:=match p.o with
 | true=>ab ⟨[.int 4 (p.t 49)]⟩ 0
 | false=>ab ⟨[]⟩ 0
noncomputable def WD.cls:WD→Nat
 | .i=>412
 | .ni=>412
 | .v=>464
 | _=>438
def bIn (P:Params) (p:SB) (I:ae8) (g:Bool):Obj:=aE [dF P J2 (p.t 60) (.ref (ad I 15)),dF P J18 (p.t 61) (.ref (ad I 8)),dF P J15 (p.t 62) (.bool g)] 3
def Ja (P:Params) (p:SB) (I:ae8) (g:Bool):Obj:=aE [dF P J18 (p.t 60) (.ref (ad I 8)),dF P J15 (p.t 61) (.bool g)] 2
def LQ (P:Params) (p:SB) (I:ae8):Obj:=aE [dF P J18 (p.t 60) (.ref (ad I 8))] 1
def bEx (P:Params) (p:SB) (I:ae8):Obj:=match p.wd with
 | .i=>bIn P p I false
 | .ni=>bIn P p I true
 | .e=>Ja P p I false
 | .ne=>Ja P p I true
 | .v=>LQ P p I
def Bn (P:Params) (p:SB) (I:ae8):List Obj:=[ab p.xs p.xe,ab ⟨[p.x,p.y]⟩ 0,(ab ⟨[.str p.cx (p.t 27),.str p.cy (p.t 28)]⟩ 0:Obj),aw 1063 (ad I 5),am3 P p I,uN [⟨4,.int 4 (p.t 37),.ref (ad I 7)⟩] 1,aO [.str (sv J77:Str) (p.t 38),.int 1 (p.t 39)],
 aw 644 (ad I 9),Vi P p I,bOu p,ab ⟨[.ref (ad I 12)]⟩ 0,aO [.str (sv J94) (p.t 50),.ref (ad I 13)],aw p.rc (ad I 14),p.ro,aw p.lc (ad I 16),p.lo,aw p.wd.cls (ad I 18),bEx P p I,uN p.es p.he]
def bO (P:Params) (p:SB) (I:ae8) (n m:Nat):List Obj:=bF P p I n :: (Bn P p I).take m
def SB.at (p:SB) (k:VK):SB:={ p with v:=k.as p.v }
def bT (p:SB) (i j:Nat) (I:ae8):bx:=lQ i j (ad I 0) (p.r 3) (p.r 4)
def yS (k:VK) (p:SB) (I O:ae8):SB:={ p.at k with t:=fun j=>swN [(9,O 0),(10,p.S.tr),(11,O 1),(12,O 2),(13,O 3),(14,p.S.tn),(15,O 4),(16,O 5),(17,O 6),(30,O 7),(31,O 8),(32,O 9),(33,O 10),(34,O 11),(35,O 12),(36,O 13),(37,O 14),(38,O 15),(39,p.S.tr)] (p.t j) j,r:=fun j=>match j with | 0=>ad I 8 | j=>p.r j }
def S6 (k:VK) (p:SB) (I O:ae8):aa:={ S1 p.S with regs:=4,tr:=O 16,next:=2,tn:=O 17,e:=1,n:=1,ops:=[(ad I 9,row J10 (O 18) (.int 0 (O 19)) (.int 1 p.S.tr) (.int 0 (O 20)) (k.as p.v))],hn:=rfl }
def SB.at3 (p:SB) (v:Bool × Bool):SB:={ p with o:=v.1,y:=(bVK v.2).as p.y }
def jx (v:Bool × Bool) (P:Params) (p:SB) (I O:ae8):SB:={ p.at3 v with t:=fun j=>swN [(40,O 0),(41,O 1),(42,O 2),(43,O 3),(44,O 4),(45,O 5),(46,p.S.tr),(47,O 6),(48,O 7),(49,O 8),(50,O 9),(18,O 10)] (p.t j) j,r:=fun j=>match j with | 1=>ad I 15 | j=>p.r j,rc:=(match v.2 with | true=>256 | false=>230),ro:=(match v.2 with | true=>uu P (fun j=>O (12 + j)) 1 (.str (aD p.y) (ak p.y)) (.str p.cy (p.t 28)) | false=>lv P (O 12) (.int 0 (O 13))) }
def Rn (p:SB) (I O:ae8):aa:={ (S2 p.S).add (ad I 16,row J10 (O 24) (.int 0 (O 25)) (.int 4 p.S.tr) (.int 0 (O 26)) (.int 0 (O 27))) with regs:=5,tr:=O 23 }
inductive LK where
 | n [h:Nonempty Nat] | i | s | c
noncomputable def eLK:Enu LK:=⟨[.n,.i,.s,.c],by intro v;cases v<;>repeat constructor⟩
def SB.at4 (p:SB):LK→SB
 | .n=>{ p with x:=.none,v:=VK.n.as p.v }
 | .i=>{ p with x:=.none,v:=VK.i.as p.v }
 | .s=>{ p with x:=.none,v:=VK.s.as p.v }
 | .c=>{ p with x:=VK.s.as p.x }
def j9 (v:LK) (P:Params) (p:SB) (O:ae8):SB:={ p.at4 v with t:=fun j=>match j with | 19=>O 0 | j=>p.t j,lc:=(match v with | .c=>256 | _=>230),lo:=(match v with | .c=>uu P (fun j=>O (1 + j)) 0 (.str (aD p.x) (ak p.x)) (.str p.cx (p.t 27)) | .n=>lv P (O 1) (VK.n.as p.v) | .i=>lv P (O 1) (VK.i.as p.v) | .s=>lv P (O 1) (VK.s.as p.v)) }
noncomputable def Nr (v:WD) (p:SB) (O:ae8):SB:={ p with wd:=v,t:=fun j=>swN [(20,O 0),(60,O 1),(61,O 2),(62,O 3)] (p.t j) j}
noncomputable def tJ (p:SB) (O:ae8):SB:={ p with t:=fun j=>swN [(21,O 0),(22,O 1),(23,O 2),(24,p.S.tr),(25,O 3),(26,O 4),(63,O 16)] (p.t j) j}
def LH (p:SB) (I O:ae8):aa:={ (((((S3 p.S).add (ad I 19,row J48 (O 5) (.int 3 (p.t 12)) (.int (Int.negSucc 0) (p.t 14)) (.int 0 371) .none)).add (ad I 20,row J22 (O 6) (.int 7 (O 1)) (.int 5 (O 7)) (.int 1 (O 8)) .none)).add
 (ad I 21,row J48 (O 9) (.int 3 (p.t 12)) (.int (Int.negSucc 0) (p.t 14)) (.int 0 371) .none)).add (ad I 22,row J22 (O 10) (.int 7 (O 1)) (.int 6 (O 11)) (.int 1 (O 12)) .none)).add (ad I 23,row J39 (O 13) (.int 0 (O 14)) (.int (Int.negSucc 1) (p.t 16)) (.int 0 371) .none) with regs:=8,tr:=O 15,labels:=[(0,p.t 14,p.S.n + 1 + 1 + 1 + 1 + 1,O 16)],le:=1 }
def SB.at5 (p:SB) (v:Bool × Bool):SB:={ p with x:=(bVK v.1).as p.x,y:=(bVK v.2).as p.y }
def LF (v:Bool × Bool) (p:SB) (O:ae8):SB:={ p.at5 v with co:=(match v.1,v.2 with | true,_=>p.cx | false,true=>p.cy | false,false=>sv J30),t:=fun j=>match j with | 64=>O 0 | 65=>(match v.1,v.2 with | true,_=>p.t 27 | false,true=>p.t 28 | false,false=>O 1) | j=>p.t j }
def Dm (p:SB) (a:Nat) (O:ae8):aa:={ p.S.add (a,row J23 (O 2) (.int 3 (p.t 12)) (.int 0 370) (.int 0 371) .none) with labels:=p.S.labels++[(1,p.t 16,p.S.n + 1,O 3)],le:=p.S.le + 1 }
def ZD (v:VK × VK) (x:V8) (p:SB) (O:ae8):SB:={ p.at v.1 with du:=v.2.as (x.v (O 0)),es:=[],he:=0,t:=fun j=>match j with | 66=>O 1 | 67=>O 2 | j=>p.t j }
noncomputable def alc (m:MV) (v:Value):Bool:=match m,v with
 | .n,.none=>true
 | .i a,.int b _=>PySem.W.Z.eqB a b
 | .s a,.str b _=>eqS a b
 | _,_=>false
theorem NF {m:MV} {v:Value} (h:alc m v=true):v=m.v (ak v):=by
 cases m<;>cases v<;>first
  | rfl
  | cases h
  | (have:=(FF _ _).mp h;subst this;rfl)
  | (have:=bp h;subst this;rfl)
def MT (w:World) (top:Tr) (m:MV):LC w top:=PL.toLC
 { P:=(Int × Nat) × List DictEntry × Nat
   fs:=[.arg 0]
   qt:=0
   it:=0
   need:=3
   ext:=fun c os=>((am (ax c 1),ak (ax c 1)),f8 os)
   obl:=fun z p=>([.hb (ikB p.2.1),.hb (alc m ((getD p.1.1 p.2.1).getD .none))],[.hb true,.hb true])
   olen:=fun z z=>rfl
   code:=fun I p=>.call (.builtin "dict.get") ⟨[.ref (ad I 0),.int p.1.1 p.1.2],[]⟩
   pre:=fun z p=>[uN p.2.1 p.2.2]
   post:=fun z z p=>[uN p.2.1 p.2.2]
   res:=fun z z p=>m.v (ak ((getD p.1.1 p.2.1).getD .none))
   len:=fun z z z=>rfl
   ok:=fun p I b z=>by
    obtain ⟨a,d⟩:=hb2 b
    have:=tQ (w:=w) (top:=top) I p.2.1 p.2.2 p.1.1 p.1.2 a
    rw [NF d] at this
    exact this }
noncomputable def CX (o:Bool):MV:=match o with
 | true=>.i 2
 | false=>.i 1
def Oa (P:Params) (p:SB) (I O:ae8):List Bool:=[cF (iM P (Dm p (ad I 19) O)),Nat.blt 1 p.S.next,cJ 1 p.S.labels,Nat.ble (p.S.n + 1) 1000000,Nat.ble p.S.labels.length 1000000,Nat.ble p.S.n 1000000]
noncomputable def V1 (f:ae8) (l:List Nat) (j:Nat):Nat:=f (l.getD j 0)
def NQ (P:Params) (o:Bool) (z:List Ins × AS) (p:SB) (O:ae8):List Bool:=[ikB (d7 z.2.held (fl (flt O 2 64)) 0),alc (CX o) ((getD 4 (d7 z.2.held (fl (flt O 2 64)) 0)).getD .none),cF (sK P p.S z.1 z.2)]
def Ru (a:VK) (x:V8) (J:WB):LG J:=
 { vy x J with
   obl:=fun I p=>(((vy x J).obl I p).1++[.hb (a.is (x.v 0))],((vy x J).obl I p).2++[.hb true])
   res:=fun z O p=>a.as (x.v (O 0))
   olen:=fun z z=>rfl
   ok:=fun p I f hl=>by
    have c:=List.append_inj f ((vy x J).olen _ _)
    have d:a.is (x.v 0)=true:=OV.hb.inj (List.cons.inj c.2).1
    have e:∀ t,a.as (x.v t)=x.v t:=fun t=>by
     cases a<;>cases x<;>first | rfl | cases d
    have H:=(vy x J).ok p I c.1 hl
    refine HTx.conv (nx:=false) H (ai _) (b6 _) id id fun I' O' b=>⟨b,?_,b6 _⟩
    exact (e _).symm }
def NC (v:VK × VK) (x:V8) (p:SB):List Bool:=[(F0 p.wd.s).isSome,(v8Of (v.1.as p.v)).isSome,cK p.xs.toList,Nat.ble p.xs.toList.length 3,(bh p.co).isSome,(cg p.x).isSome,(cg p.y).isSome,(OB p.wd.s (v.1.as p.v) p.xs.toList p.x p.y p.co).is x,v.2.is (x.v 0)]
noncomputable def jV (p:SB) (I O:ae8):SB:={ p with S:={ p.S with p:=I 4,d:=I 5,o:=I 6,l:=I 7,c:=I 8,tk:=fun j=>O j,tr:=O 8,tc:=O 9,ts:=O 10,tn:=O 11 },t:=fun j=>match j with | 8=>O 12 | j=>p.t j }
theorem XX (P:Params) (l:List Nat) (t:Nat) (v:Value) (h:l.isEmpty=false):dE P l t v=dF P l t v:=by
 cases l with
 | nil=>cases h
 | cons a l=>
 unfold dE dF
 rw [← PySem.W.ZFast.ze12210062019545310541]
 rfl
def yw (P:Params) (S:aa):Obj:={ cls:=.type "dict",data:=.dict ⟨[dF P J49 (S.tk 0) (.ref (S.o + 1158)),dF P Yy (S.tk 1) (.ref (S.c + 1158)),dF P J77 (S.tk 2) (.int (Int.ofNat S.regs) S.tr),dF P agk (S.tk 3) (.int (Int.ofNat S.curs) S.tc),dF P afU (S.tk 4) (.int (Int.ofNat S.slots) S.ts),dF P ajj (S.tk 5) (.bool false),dF P afu (S.tk 6) (.ref (S.l + 1158)),dF P ag4 (S.tk 7) (.int (Int.negSucc S.next) S.tn)]⟩ 8 }
theorem Dc (P:Params) (S:aa):yw P S=S.dictO P:=by
 unfold aa.dictO jF
 rw [XX,XX,XX,XX,XX,XX,XX,XX]<;>rfl
def aj7 (P:Params) (S:aa):List Obj:=[S.instO,yw P S,S.opsO,S.labelsO]
set_option linter.constructorNameAsVariable false
noncomputable def S5b (p:SB):aa:={ p.S with regs:=8,curs:=0,slots:=0,next:=2,labels:=[(0,p.t 14,p.S.n,p.t 63)],le:=1 }
def v5 (m:WM) (h:Nat) (b:Tok) (f:Str) (d:Tok) (xs:List Value) (g:Tok) (S:aa) (c:Nat) (a t u:ae8):aa:=
 { S with regs:=S.regs + 2 * xs.length,tr:=lD S.tr xs t,next:=S.next + 1,tn:=u 0,e:=S.e + 1 + (bj m h b S.next S.tn S.regs S.tr xs a t).length,ops:=S.ops++[(c,row J69 (u 1) (.int 4 g) (.int 1 (u 2)) (.int 0 371) .none)]++bj m h b S.next S.tn S.regs S.tr xs a t,labels:=S.labels++[(S.next,S.tn,S.n + 1 + (bj m h b S.next S.tn S.regs S.tr xs a t).length,u 3)],le:=S.le + 1,n:=S.n + 1 + (bj m h b S.next S.tn S.regs S.tr xs a t).length,xt:=S.xt++cn m f d xs a,hn:=by simp [S.hn];lia }
noncomputable def aa.lab (S:aa) (l:Nat) (t u:Tok):aa:={ S with labels:=S.labels++[(l,t,S.n,u)],le:=S.le + 1 }
def aa.neg (S:aa) (g:Bool) (v:Value) (a t:ae8):aa:=iF S 0 S.tr (F6 g v a t) []
def sx0 (b:Bool) (p:SB) (S:aa) (a u:ae8):aa:=match b with
 | true=>{ S with regs:=9,tr:=u 4 }.add (ad a 1,row J10 (u 5) (.int 0 (u 6)) (.int 8 p.S.tr) (.int 0 (u 7)) (.int 0 (u 8)))
 | false=>{ S with regs:=9,tr:=u 4 }.add (ad a 1,row J54 (u 5) (.int 0 (u 6)) (.int 8 p.S.tr) (.int 1 (u 7)) .none)
def sxT (b o:Bool) (p:SB) (a u:ae8):aa:=match o with
 | true=>(v5 (match b with | true=>.exi | false=>.reg) 8 p.S.tr ⟨#[]⟩ 0 p.xs.toList (p.t 46) (sx0 b p (S5b p) a u) (ad a 3) (fl (flt a 4 15)) (fl (flt u 20 33)) u).add (ad a 2,row J22 (u 9) (.int 8 p.S.tr) (.int 7 (p.t 22)) (.int 1 (u 10)) .none)
 | false=>((v5 (match b with | true=>.exi | false=>.reg) 8 p.S.tr ⟨#[]⟩ 0 p.xs.toList (p.t 46) (sx0 b p ({ S5b p with next:=3,tn:=u 11,slots:=1,ts:=u 12 }.add (ad a 0,row J44 (u 13) (.int 0 p.S.ts) (.int (Int.negSucc 2) p.S.tn) (.int 0 371) .none)) a u) (ad a 3) (fl (flt a 4 15)) (fl (flt u 20 33)) u).lab 2 p.S.tn (u 14)).add (ad a 2,row J22 (u 9) (.int 8 p.S.tr) (.int 7 (p.t 22)) (.int 1 (u 10)) .none)
def skB (p:SB):SK:={ S:=S5b p,xs:=p.xs,e:=p.xe,g:=p.g,o:=p.o,lc:=p.lc,lo:=p.lo,rc:=p.rc,ro:=p.ro,f:=⟨#[]⟩,t:=fun j=>match j with
 | 10=>p.t 30 | 11=>p.t 31 | 12=>p.t 32 | 13=>p.t 33 | 14=>p.t 34 | 15=>p.t 35 | 16=>p.t 36 | 20=>p.t 40 | 21=>p.t 41 | 22=>p.t 42 | 23=>p.t 43 | 24=>p.t 44 | 25=>p.t 45 | 26=>p.t 46 | 27=>p.t 47 | 28=>p.t 48 | 70=>p.t 50 | 71=>p.t 49 | 80=>p.t 60 | 81=>p.t 61 | 82=>p.t 62 | 90=>p.t 14 | 91=>p.t 63 | _=>0,r:=fun z=>0 }
def inA (b:Bool) (p:SB) (K:aa) (a u:ae8):aa:=match b with
 | true=>({ K with regs:=K.regs + 1,tr:=u 0 }.add (ad a 0,kS p.lc p.lo (.int (Int.ofNat K.regs) K.tr) (u 1) (u 2) (u 3))).add (ad a 1,row J28 (u 4) (.int (Int.ofNat K.regs) K.tr) (.int 1 (u 5)) (.int 0 (u 6)) (.ref (ad a 2)))
 | false=>{ K with regs:=K.regs + 1,tr:=u 0 }.add (ad a 0,kS p.lc p.lo (.int (Int.ofNat K.regs) K.tr) (u 1) (u 2) (u 3))
def ST (p:SB) (r:Nat) (tr:Tok) (S:aa) (a u:ae8):aa:=
 ((((((((((((({ S with next:=S.next + 3,tn:=u 10,regs:=S.regs + 1,tr:=u 11 }.add
  (ad a 3,row J10 (u 12) (.int 0 (u 13)) (.int 7 (p.t 22)) (.int 0 (u 14)) (.int 0 (u 15)))).add
  (ad a 4,row J40 (u 16) (.int 0 p.S.tc) (.int (Int.negSucc S.next) S.tn) (.int 0 371) .none)).add
  (ad a 5,row J34 (u 17) (.int (Int.ofNat r) tr) (.int (Int.negSucc (S.next + 1)) (u 18)) (.int 0 371) .none)).add
  (ad a 6,row J33 (u 20) (.int 0 p.S.tc) (.int (Int.negSucc (S.next + 2)) (u 19)) (.int (Int.ofNat r) tr) (.int 1 (u 21)))).add
  (ad a 7,row J54 (u 22) (.int 0 (u 23)) (.int (Int.ofNat S.regs) S.tr) (.int 1 442) .none)).add
  (ad a 8,row J33 (u 24) (.int 0 p.S.tc) (.int (Int.negSucc (S.next + 1)) (u 18)) (.int (Int.ofNat S.regs) S.tr) (.int 1 (u 25)))).add
  (ad a 9,row J39 (u 26) (.int 0 (u 27)) (.int (Int.negSucc S.next) S.tn) (.int 0 371) .none)).lab (S.next + 2) (u 19) (u 28)).add
  (ad a 10,row J10 (u 29) (.int 0 (u 30)) (.int 7 (p.t 22)) (.int 0 (u 31)) (.int 1 (u 32)))).add
  (ad a 11,row J39 (u 33) (.int 0 (u 34)) (.int (Int.negSucc S.next) S.tn) (.int 0 371) .none)).lab (S.next + 1) (u 18) (u 35)).add
  (ad a 12,row J54 (u 36) (.int 0 (u 37)) (.int 7 (p.t 22)) (.int 1 (u 38)) .none)).lab S.next S.tn (u 39))
def inT (b:Bool) (p:SB) (K:aa) (a u:ae8):aa:=(ST p K.regs K.tr (inA b p K a u) a u).neg p.g (.int 7 (p.t 22)) (fl (flt a 13 1)) (fl (flt u 40 3))
def EI (P:Params) (p:SB) (I O:ae8):List Obj:=[aw 938 (ad I 20),eW P (O 9) (O 10) (ad I 21) (ad I 23),aO [.str (cmS p.lc p.lo p.rc p.ro) (cmT p.lc p.lo p.rc p.ro (O 11))]]
def mT (b:Bool) (p:SB) (I O:ae8):aa:=inT b p (ksX (skB p) (fun j=>I (j + 5)) O) (fun j=>match j with | 2=>I 22 | j=>I (j + 42)) (fun j=>O (j + 54))
def Sx (P:Params) (b:Bool) (p:SB) (K:aa) (m:Nat) (u:ae8):List Bool:=
 [Nat.ble (m + 1 + 1 + 1 + 1 + 1 + 1 + 1 + 1 + 1 + 1) 1000000,
  Nat.blt K.next (K.next + 3),cJ K.next (K.labels++[(K.next + 2,u 19,m + 1 + 1 + 1 + 1 + 1 + 1 + 1,u 28)]++[(K.next + 1,u 18,m + 1 + 1 + 1 + 1 + 1 + 1 + 1 + 1 + 1,u 35)]),Nat.ble (m + 1 + 1 + 1 + 1 + 1 + 1 + 1 + 1 + 1 + 1) 1000000,Nat.ble (K.labels++[(K.next + 2,u 19,m + 1 + 1 + 1 + 1 + 1 + 1 + 1,u 28)]++[(K.next + 1,u 18,m + 1 + 1 + 1 + 1 + 1 + 1 + 1 + 1 + 1,u 35)]).length 1000000,
  Nat.ble (m + 1 + 1 + 1 + 1 + 1 + 1 + 1 + 1 + 1) 1000000,
  Nat.blt (K.next + 1) (K.next + 3),cJ (K.next + 1) (K.labels++[(K.next + 2,u 19,m + 1 + 1 + 1 + 1 + 1 + 1 + 1,u 28)]),Nat.ble (m + 1 + 1 + 1 + 1 + 1 + 1 + 1 + 1 + 1) 1000000,Nat.ble (K.labels++[(K.next + 2,u 19,m + 1 + 1 + 1 + 1 + 1 + 1 + 1,u 28)]).length 1000000,
  Nat.ble (m + 1 + 1 + 1 + 1 + 1 + 1 + 1 + 1) 1000000,Nat.ble (m + 1 + 1 + 1 + 1 + 1 + 1 + 1) 1000000,
  Nat.blt (K.next + 2) (K.next + 3),cJ (K.next + 2) K.labels,Nat.ble (m + 1 + 1 + 1 + 1 + 1 + 1 + 1) 1000000,Nat.ble K.labels.length 1000000,
  Nat.ble (m + 1 + 1 + 1 + 1 + 1 + 1) 1000000,Nat.ble (m + 1 + 1 + 1 + 1 + 1) 1000000,Nat.ble (m + 1 + 1 + 1 + 1) 1000000,Nat.ble (m + 1 + 1 + 1) 1000000,Nat.ble (m + 1 + 1) 1000000,Nat.ble (m + 1) 1000000,Nat.ble m 1000000] ++
 ((match b with | true=>[Nat.ble (K.n + 1) 1000000] | false=>[])++[cF (Bd P p.lc p.lo),Nat.ble K.n 1000000])
def mX (P:Params) (p:SB) (I:ae8):Raw:=⟨.call (.ref 1018) ⟨[.ref (ad I 4),.ref (ad I 17)],[]⟩,[aw 1063 (ad I 5),am3 P p I,aw 412 (ad I 18),bIn P p I p.g,aw 644 (ad I 9),Vi P p I,ab p.xs p.xe,bOu p,aw p.lc (ad I 16),p.lo,ab ⟨[.ref (ad I 12)]⟩ 0,aO [.str (sv J94) (p.t 50),.ref (ad I 13)],aw p.rc (ad I 14),p.ro],some (S5b p)⟩
def qf (P:Params) (b:Bool) (p:SB) (I O:ae8):List Bool:=
 Sx P b p (ksX (skB p) (fun j=>I (j + 5)) O) (inA b p (ksX (skB p) (fun j=>I (j + 5)) O) (fun j=>match j with | 2=>I 22 | j=>I (j + 42)) (fun j=>O (j + 54))).n (fun j=>O (j + 54))
def aaB (P:Params) (b:Bool) (p:SB) (n:akt) (I O:ae8):List OV:=(qf P b p (ren n.kept I) (ren n.rt O)).map .hb++[.hb (cF (lF P (bJ (mX P p I) p.o))),.hb (bd p.xs),.hb (Nat.ble p.S.n 600000),.hb ((dC (bJ (mX P p I) p.o)).is .l)]
def Yz (P:Params) (b:Bool) (p:SB) (n:akt) (I O:ae8):List OV:=bl (qf P b p (ren n.kept I) (ren n.rt O))++[.hb true,.hb true,.hb true,.hb b]
def sxW (b o:Bool) (p:SB) (a u:ae8):Nat:=match o with
 | true=>(bj (match b with | true=>.exi | false=>.reg) 8 p.S.tr 2 p.S.tn 9 (u 4) p.xs.toList (fl (flt a 4 15)) (fl (flt u 20 33))).length
 | false=>(bj (match b with | true=>.exi | false=>.reg) 8 p.S.tr 3 (u 11) 9 (u 4) p.xs.toList (fl (flt a 4 15)) (fl (flt u 20 33))).length
def Xp (b o:Bool) (p:SB) (W:Nat):List Bool:=match o with
 | true=>(match b with | true=>[Nat.ble (p.S.n + 1 + 1 + W + 1) 1000000] | false=>[])++[Nat.ble (p.S.n + 1 + 1 + W) 1000000,true,true,bd p.xs,Nat.ble (p.S.n + 1) 700000,Nat.ble p.S.n 1000000]
 | false=>(match b with | true=>[Nat.ble (p.S.n + 1 + 1 + 1 + W + 1) 1000000] | false=>[])++[Nat.ble (p.S.n + 1 + 1 + 1 + W) 1000000,true,true,Nat.ble (p.S.n + 1 + 1 + 1 + W) 1000000,true,true,true,bd p.xs,Nat.ble (p.S.n + 1 + 1) 700000,Nat.ble (p.S.n + 1) 1000000,Nat.ble p.S.n 1000000]
def vQ (b o:Bool) (p:SB) (n:akt) (I O:ae8):List Bool:=Xp b o p (sxW b o p (fun j=>ren n.kept I (j + 19)) (ren n.rt O))
set_option linter.constructorNameAsVariable false
inductive PI where
 | op (i:Ins) | once (a:Int) (l:Nat) | isn (a:Int) (l:Nat) | rew (l:Nat) | fnd (l:Nat) (c:Int) | goto (l:Nat) | gosub (a:Int) (l:Nat)
noncomputable def PI.res (f:ae8):PI→Ins
 | .op i=>i
 | .once a l=>.once a (f l)
 | .isn a l=>.isn a (f l)
 | .rew l=>.rew (f l)
 | .fnd l c=>.fnd (f l) c
 | .goto l=>.goto (f l)
 | .gosub a l=>.gosub a (f l)
noncomputable def PI.lab:PI→Option Nat
 | .op _=>none
 | .once _ l=>some l
 | .isn _ l=>some l
 | .rew l=>some l
 | .fnd l _=>some l
 | .goto l=>some l
 | .gosub _ l=>some l
def xY (P:Params) (o:Obj):Prop:=∃ (n:List Nat) (a:Int) (m:Nat) (c:Int) (v:Value) (t:Nat→Tok),o=row n (t 10) (.int a (t 11)) (.int (Int.ofNat m) (t 12)) (.int c (t 13)) v∧cq P (sv n)=false
def eh (P:Params) (x:PI) (r:Nat) (o:Obj) (X:XL):Prop:=match x with
 | .op i=>nH P i r ((r,o) :: X)∧xY P o
 | .once a l=>X=[]∧∃ c t,o=bU J44 a (Int.negSucc l) c t .none
 | .isn a l=>X=[]∧∃ c t,o=bU J34 a (Int.negSucc l) c t .none
 | .rew l=>X=[]∧∃ c t,o=bU J40 0 (Int.negSucc l) c t .none
 | .fnd l c=>X=[]∧∃ t,o=bU J33 0 (Int.negSucc l) c t (.int 1 (t 14))
 | .goto l=>X=[]∧∃ a c t,o=bU J39 a (Int.negSucc l) c t .none
 | .gosub a l=>X=[]∧∃ c t,o=bU J48 a (Int.negSucc l) c t .none
def iS (P:Params):List PI→List (Nat × Obj × XL)→Prop
 | [],[]=>True
 | x :: xs,c :: cs=>eh P x c.1 c.2.1 c.2.2∧iS P xs cs
 | _,_=>False
theorem iS.append {P:Params}:∀ {a l2:List PI} {c1 c2:List (Nat × Obj × XL)},iS P a c1→iS P l2 c2→iS P (a++l2) (c1++c2)
 | [],_,[],_,_,h=>h
 | _ :: _,_,_ :: _,_,h,h'=>⟨h.1,iS.append h.2 h'⟩
 | [],_,_ :: _,_,h,_=>h.elim
 | _ :: _,_,[],_,h,_=>h.elim
theorem iS.len {P:Params}:∀ {l:List PI} {c:List (Nat × Obj × XL)},iS P l c→l.length=c.length
 | [],[],_=>rfl
 | _ :: _,_ :: _,h=>by simp [iS.len h.2]
 | [],_ :: _,h=>h.elim
 | _ :: _,[],h=>h.elim
def Ops (P:Params) (l:List PI) (ops xt:XL):Prop:=∃ (cs:List (Nat × Obj × XL)) (G:XL),iS P l cs∧ops=cs.map (fun c=>(c.1,c.2.1))∧xt.Perm (cs.flatMap (·.2.2)++G)
theorem Ops.append {P:Params} {c l2:List PI} {f o2 d e:XL} (o:Ops P c f d) (i:Ops P l2 o2 e):Ops P (c++l2) (f++o2) (d++e):=by
 obtain ⟨c1,n,h,rfl,g⟩:=o
 obtain ⟨c2,m,j,rfl,l⟩:=i
 refine ⟨c1++c2,n++m,h.append j,by rw [eQ],?_⟩
 refine aG fun k a kc p b=>?_
 rw [a,b _ _ g,b _ _ l,alX]
 simp only [a]
 lia
theorem Ops.perm {P:Params} {l:List PI} {o x y:XL} (h:Ops P l o x) (p:x.Perm y):Ops P l o y:=by
 refine ex2 h fun c1 b a=>?_
 refine an2 a fun c e1 d=>?_
 exact ⟨c1,b,c,e1,p.symm.trans d⟩
theorem Ops.nil {P:Params}:Ops P [] [] []:=⟨[],[],trivial,rfl,b6 _⟩
theorem Ops.one {P:Params} {x:PI} {r:Nat} {o:Obj} {X:XL} (h:eh P x r o X):Ops P [x] [(r,o)] X:=⟨[(r,o,X)],[],⟨h,trivial⟩,rfl,by simp⟩
theorem Ops.snoc {P:Params} {l:List PI} {ops xt:XL} (H:Ops P l ops xt) {x:PI} {r:Nat} {o:Obj} (h:eh P x r o []):Ops P (l++[x]) (ops++[(r,o)]) xt:=by
 have:=H.append (Ops.one h)
 rwa [au] at this
noncomputable def mkT (a b c d e:Tok) (j:Nat):Tok:=match j with
 | 10=>a
 | 11=>b
 | 12=>c
 | 13=>d
 | _=>e
section
variable (P:Params) (r:Nat) (t1 t2 t3 t4 t5:Tok) (a c:Int) (b l:Nat)
theorem dn (m:MV):eh P (.op (.value (Int.ofNat b) m)) r (row J10 t1 (.int a t2) (.int (Int.ofNat b) t3) (.int c t4) (m.v t5)) []:=
 ⟨⟨a,c,mkT t1 t2 t3 t4 0,t5,rfl⟩,⟨J10,a,b,c,_,mkT t1 t2 t3 t4 0,rfl,(dr P).2.2.1⟩⟩
theorem AH:eh P (.op (.null (Int.ofNat b))) r (row J54 t1 (.int a t2) (.int (Int.ofNat b) t3) (.int c t4) .none) []:=
 ⟨⟨a,c,mkT t1 t2 t3 t4 0,rfl⟩,⟨J54,a,b,c,_,mkT t1 t2 t3 t4 0,rfl,(dr P).2.2.2.1⟩⟩
theorem lP:eh P (.op (.copy a (Int.ofNat b))) r (row J22 t1 (.int a t2) (.int (Int.ofNat b) t3) (.int c t4) .none) []:=
 ⟨⟨c,mkT t1 t2 t3 t4 0,rfl⟩,⟨J22,a,b,c,_,mkT t1 t2 t3 t4 0,rfl,(dr P).2.2.2.2.1⟩⟩
theorem y9:eh P (.op (.addi a (Int.ofNat b))) r (row J69 t1 (.int a t2) (.int (Int.ofNat b) t3) (.int c t4) .none) []:=
 ⟨⟨c,mkT t1 t2 t3 t4 0,rfl⟩,⟨J69,a,b,c,_,mkT t1 t2 t3 t4 0,rfl,(dr P).2.2.2.2.2.1⟩⟩
theorem QV:eh P (.op (.mkr a c)) r (row J41 t1 (.int a t2) (.int (Int.ofNat b) t3) (.int c t4) .none) []:=
 ⟨⟨Int.ofNat b,mkT t1 t2 t3 t4 0,rfl⟩,⟨J41,a,b,c,_,mkT t1 t2 t3 t4 0,rfl,(dr P).2.2.2.2.2.2.1⟩⟩
theorem Xk (s:Str):eh P (.op (.una a (Int.ofNat b))) r (row J38 t1 (.int a t2) (.int (Int.ofNat b) t3) (.int c t4) (.str s t5)) []:=
 ⟨⟨c,mkT t1 t2 t3 t4 0,s,t5,rfl⟩,⟨J38,a,b,c,_,mkT t1 t2 t3 t4 0,rfl,(dr P).2.2.2.2.2.2.2.1⟩⟩
theorem PE (f:AF) (y:Nat):eh P (.op (.aff a f)) r (row J28 t1 (.int a t2) (.int (Int.ofNat b) t3) (.int c t4) (.ref y)) [(y,aO [.str f.s t5])]:=
 ⟨⟨Int.ofNat b,c,mkT t1 t2 t3 t4 t5,y,rfl⟩,⟨J28,a,b,c,_,mkT t1 t2 t3 t4 0,rfl,(dr P).2.2.2.2.2.2.2.2.1⟩⟩
theorem QT:eh P (.op (.idx (Int.ofNat b))) r (row J27 t1 (.int 0 t2) (.int (Int.ofNat b) t3) (.int c t4) .none) []:=
 ⟨⟨c,mkT t1 t2 t3 t4 0,rfl⟩,⟨J27,0,b,c,_,mkT t1 t2 t3 t4 0,rfl,(dr P).2.2.2.2.2.2.2.2.2.2⟩⟩
theorem aaI (nc:Bool) (y z q d:Nat) (f e:Tok):eh P (.op (.opn nc)) r (row J20 t1 (.int 0 t2) (.int (Int.ofNat b) t3) (.int c t4) (.ref y)) [(y,aw 938 z),(z,eW P f e q d),(q,aO [.str (aA nc) t5])]:=
 ⟨⟨Int.ofNat b,c,fun j=>swN [(10,t1),(11,t2),(12,t3),(13,t4),(20,f),(21,e)] (t5) j,y,z,q,d,rfl⟩,⟨J20,0,b,c,_,mkT t1 t2 t3 t4 0,rfl,(dr P).2.2.2.2.2.2.2.2.2.1⟩⟩
theorem Xd:eh P (.op (.ret a)) r (row J23 t1 (.int a t2) (.int (Int.ofNat b) t3) (.int c t4) .none) []:=
 ⟨⟨Int.ofNat b,c,mkT t1 t2 t3 t4 0,rfl⟩,⟨J23,a,b,c,_,mkT t1 t2 t3 t4 0,rfl,(dr P).2.1⟩⟩
theorem Hz:eh P (.once a l) r (row J44 t1 (.int a t2) (.int (Int.negSucc l) t3) (.int c t4) .none) []:=⟨rfl,c,mkT t1 t2 t3 t4 0,rfl⟩
theorem WX:eh P (.isn a l) r (row J34 t1 (.int a t2) (.int (Int.negSucc l) t3) (.int c t4) .none) []:=⟨rfl,c,mkT t1 t2 t3 t4 0,rfl⟩
theorem Wg:eh P (.rew l) r (row J40 t1 (.int 0 t2) (.int (Int.negSucc l) t3) (.int c t4) .none) []:=⟨rfl,c,mkT t1 t2 t3 t4 0,rfl⟩
theorem QN:eh P (.fnd l c) r (row J33 t1 (.int 0 t2) (.int (Int.negSucc l) t3) (.int c t4) (.int 1 t5)) []:=⟨rfl,mkT t1 t2 t3 t4 t5,rfl⟩
theorem uB:eh P (.goto l) r (row J39 t1 (.int a t2) (.int (Int.negSucc l) t3) (.int c t4) .none) []:=⟨rfl,a,c,mkT t1 t2 t3 t4 0,rfl⟩
theorem akU:eh P (.gosub a l) r (row J48 t1 (.int a t2) (.int (Int.negSucc l) t3) (.int c t4) .none) []:=⟨rfl,c,mkT t1 t2 t3 t4 0,rfl⟩
end
def anC (m:WM) (h c:Nat) (f:AF) (r:Nat) (v:V8):List PI:=match m with
 | .reg=>[.op (.value (Int.ofNat r) v.mv),.op (.copy (Int.ofNat r) (Int.ofNat h)),.goto c]
 | .exi=>[.op (.value (Int.ofNat r) v.mv),.op (.value (Int.ofNat h) (.i 1))]
 | .set=>[.op (.value (Int.ofNat r) v.mv),.op (.mkr (Int.ofNat r) (Int.ofNat (r + 1))),.op (.idx (Int.ofNat (r + 1)))]
 | .led=>[.op (.value (Int.ofNat r) v.mv),.op (.aff (Int.ofNat r) f),.op (.mkr (Int.ofNat r) (Int.ofNat (r + 1))),.op (.idx (Int.ofNat (r + 1)))]
def i9 (m:WM) (h c:Nat) (f:AF):Nat→List V8→List PI
 | _,[]=>[]
 | r,v :: vs=>anC m h c f r v++i9 m h c f (r + 2) vs
noncomputable def WM.inSet:WM→Bool
 | .set=>true
 | .led=>true
 | _=>false
theorem lh (P:Params) (m:WM) (h:Nat) (e:Tok) (c:Nat) (tc:Tok) (f:AF) (j:Tok) (d:m.inSet=true→h=0):∀ (xs:List Value) (vs:List V8) (r:Nat) (tr:Tok) (a t:ae8),bk xs vs→Ops P (i9 m h c f r vs) (bj m h e c tc r tr xs a t) (cn m f.s j xs a)
 | [],[],_,_,_,_,_=>Ops.nil
 | [],_ :: _,_,_,_,_,h=>h.elim
 | _ :: _,[],_,_,_,_,h=>h.elim
 | x :: xs,v :: vs,r,tr,a,t,hy=>by
  obtain ⟨⟨u,rfl⟩,k⟩:=hy
  refine Ops.append ?_ (lh P m h e c tc f j d xs vs (r + 2) (t 0) _ _ k)
  have e1:∀ q,v.v q=v.mv.v q:=fun q=>(V8.mv_v v q).symm
  cases m with
  | reg=>
   refine Ops.snoc (l:=[_,_]) (ops:=[_,_]) (Ops.snoc (l:=[_]) (ops:=[_]) (Ops.one ?_) ?_) ?_
   · rw [e1];exact dn ..
   · exact lP ..
   · exact uB ..
  | exi=>
   refine Ops.snoc (l:=[_]) (ops:=[_]) (Ops.one ?_) ?_
   · rw [e1];exact dn ..
   · exact dn P _ _ _ _ _ (t 7) 0 0 h (.i 1)
  | set=>
   have g:h=0:=d rfl
   subst g
   refine Ops.snoc (l:=[_,_]) (ops:=[_,_]) (Ops.snoc (l:=[_]) (ops:=[_]) (Ops.one ?_) ?_) ?_
   · rw [e1];exact dn ..
   · exact QV P _ _ _ _ _ _ _ 1
   · exact QT ..
  | led=>
   have g:h=0:=d rfl
   subst g
   have o:=Ops.one (P:=P) (r:=ad a 0) (X:=[]) (show eh P (.op (.value (Int.ofNat r) v.mv)) (ad a 0) (row J10 (t 1) (.int 0 (t 2)) (.int (Int.ofNat r) tr) (.int 0 (t 3)) (v.v u)) [] by rw [e1];exact dn ..)
   have w:=Ops.one (P:=P) (r:=ad a 1) (PE P (ad a 1) (t 8) tr (t 9) (t 10) j (Int.ofNat r) 0 1 f (ad a 3))
   have p:=Ops.one (P:=P) (r:=ad a 2) (QV P (ad a 2) (t 4) tr (t 5) (t 6) (Int.ofNat r) (Int.ofNat (r + 1)) 1)
   have n:=Ops.one (P:=P) (r:=ad a 4) (QT P (ad a 4) (t 7) e (t 6) 371 0 (r + 1))
   exact ((o.append w).append p).append n
section
set_option linter.constructorNameAsVariable false
structure aX (P:Params) (S:aa) (l:List PI) (labs:List (Nat × Nat)) (E:XL):Prop where
 ops:Ops P l S.ops (S.xt++E)
 labs:S.labels.map (fun x=>(x.1,x.2.2.1))=labs
 le:S.le=S.labels.length
theorem Ops.len {P:Params} {l:List PI} {o x:XL} (h:Ops P l o x):o.length=l.length:=by
 obtain ⟨c,G,a,rfl,-⟩:=h
 rw [zt,a.len]
theorem Ops.mv {P:Params} {l d:List PI} {o x c:XL} (h:Ops P l o x) (e:l=d) (p:∀ k:XL→Nat,(∀ a b,k (a++b)=k a + k b)→k x=k c):Ops P d o c:=e ▸ h.perm (aG fun k f z z z=>p k f)
noncomputable def we (g:Bool) (b:Nat):List PI:=match g with
 | true=>[.op (.una (Int.ofNat b) (Int.ofNat b))]
 | false=>[]
namespace aX
variable {P:Params} {S:aa} {l:List PI} {labs:List (Nat × Nat)} {E:XL}
theorem n (H:aX P S l labs E):S.n=l.length:=by rw [← S.hn,H.ops.len]
theorem add (H:aX P S l labs E) {x:PI} {r:Nat} {o:Obj} (h:eh P x r o []):aX P (S.add (r,o)) (l++[x]) labs E:=⟨H.ops.snoc h,H.labs,H.le⟩
theorem addX (H:aX P S l labs E) {x:PI} {r:Nat} {o:Obj} {X:XL} (h:eh P x r o X):aX P (S.add (r,o)) (l++[x]) labs (E++X):=
 ⟨(H.ops.append (Ops.one h)).mv rfl fun k a=>by simp only [a];show _=k S.xt + _;lia,H.labs,H.le⟩
theorem lab (H:aX P S l labs E) (j:Nat) (t u:Tok):aX P (S.lab j t u) l (labs++[(j,l.length)]) E:=by
 refine ⟨H.ops,?_,?_⟩
 · show (S.labels++[(j,t,S.n,u)]).map _=_
   rw [eQ,H.labs,H.n];rfl
 · show S.le + 1=(S.labels++[(j,t,S.n,u)]).length
   rw [H.le,ln];rfl
theorem neg (H:aX P S l labs E) (g:Bool) (b:Nat) (u:Tok) (a t:ae8):aX P (S.neg g (.int (Int.ofNat b) u) a t) (l++we g b) labs E:=by
 cases g with
 | true=>
  refine ⟨?_,H.labs,H.le⟩
  have:=H.ops.snoc (Xk P (ad a 0) (t 0) u u (t 1) (t 2) (Int.ofNat b) 0 b (sv ahk))
  show Ops P _ (S.ops++[_]) (S.xt++[]++E)
  rw [au]
  exact this
 | false=>
  refine ⟨?_,H.labs,H.le⟩
  show Ops P (l++[]) (S.ops++[]) (S.xt++[]++E)
  rw [au,au,au]
  exact H.ops
theorem wsl (H:aX P S l labs E) (m:WM) (h:Nat) (b:Tok) (f:AF) (c:Tok) (xs:List Value) (vs:List V8) (g:bk xs vs) (e:m.inSet=true→h=0) (i:Tok) (d:Nat) (a t u:ae8) :
  aX P (v5 m h b f.s c xs i S d a t u) (l++[PI.op (.addi 4 1)]++i9 m h S.next f S.regs vs) (labs++[(S.next,(l++[PI.op (.addi 4 1)]++i9 m h S.next f S.regs vs).length)]) E:=by
 have q:=(H.ops.snoc (r:=d) (y9 P d (u 1) i (u 2) 371 4 0 1)).append (lh P m h b S.next S.tn f c e xs vs S.regs S.tr a t g)
 refine ⟨q.mv rfl fun k j=>?_,?_,?_⟩
 · show _=k (S.xt++cn m f.s c xs a++E)
   simp only [j];lia
 · show (S.labels++[_]).map _=_
   rw [eQ,H.labs]
   refine congrArg (labs++·) ?_
   show [(S.next,S.n + 1 + _)]=[(S.next,_)]
   have o:(bj m h b S.next S.tn S.regs S.tr xs a t).length=(i9 m h S.next f S.regs vs).length:=(lh P m h b S.next S.tn f c e xs vs S.regs S.tr a t g).len
   rw [o,H.n,ln,ln];rfl
 · show S.le + 1=(S.labels++[_]).length
   rw [H.le,ln];rfl
theorem keep (H:aX P S l labs E) {S':aa} (b:S'.ops=S.ops) (c:S'.xt=S.xt) (a:S'.labels=S.labels) (d:S'.le=S.le):aX P S' l labs E:=⟨by rw [b,c];exact H.ops,by rw [a];exact H.labs,by rw [a,d];exact H.le⟩
end aX
def LfV (P:Params) (c:Nat) (o:Obj) (sd:SD) (nc:Bool) (v:V8) (pl:Int):Prop:=match sd with
 | .n=>c=230∧∃ t u,o=lv P t (v.v u)
 | sd=>c=256∧∃ t a u,o=uu P t pl (sd.v a) (.str (aA nc) u)
noncomputable def SD.nm:SD→Bool
 | .n=>false
 | _=>true
theorem ak1 (nc:Bool):j4 (aA nc)=true:=by cases nc<;>rfl
theorem amV (v:V8) (u:Tok):(kindOf (v.v u)).isSome=true:=by cases v<;>rfl
structure Om (P:Params) (c:Nat) (o:Obj) (sd:SD) (nc:Bool) (v:V8) (pl:Int):Prop where
 nm:bo c=sd.nm
 sdv:cg (lfA sd.nm o)=some sd
 leaf:eI P c o
 left:pl=0→Bd P c o
 coll:sd.nm=true→aD (bN o 6)=aA nc
 lit:sd.nm=false→∃ u,bN o 0=v.v u
theorem LfV.ok {P:Params} {c:Nat} {o:Obj} {sd:SD} {nc:Bool} {v:V8} {pl:Int} (h:LfV P c o sd nc v pl):Om P c o sd nc v pl:=by
 have key:∀ (sd:SD),sd.nm=true→(∃ s,∀ a,sd.v a=.str s a)→(∀ a,cg (sd.v a)=some sd)→c=256∧(∃ t a u,o=uu P t pl (sd.v a) (.str (aA nc) u))→Om P c o sd nc v pl:=by
  intro sd hn d f ⟨g,t,a,u,j⟩
  obtain ⟨s,d⟩:=d
  subst g j
  have hq:eI P 256 (uu P t pl (sd.v a) (.str (aA nc) u)):=.inr ⟨rfl,t,pl,s,a,aA nc,u,ak1 nc,by rw [d]⟩
  refine ⟨hn.symm ▸ rfl,?_,hq,fun e=>⟨hq,fun z=>by rw [e];rfl⟩,fun z=>rfl,fun e=>by rw [hn] at e;cases e⟩
  rw [hn]
  show cg (.str (aD (sd.v a)) (ak (sd.v a)))=_
  have:=f a
  rw [d] at this ⊢
  exact this
 cases sd with
 | n=>
  obtain ⟨g,t,u,j⟩:=h
  subst g j
  have hq:eI P 230 (lv P t (v.v u)):=.inl ⟨rfl,t,_,amV v u,rfl⟩
  exact ⟨rfl,rfl,hq,fun z=>⟨hq,fun e=>(by cases e)⟩,fun e=>(by cases e),fun z=>⟨u,rfl⟩⟩
 | i=>exact key .i rfl ⟨_,fun z=>rfl⟩ (fun a=>by rfl) h
 | t=>exact key .t rfl ⟨_,fun z=>rfl⟩ (fun a=>by rfl) h
 | b=>exact key .b rfl ⟨_,fun z=>rfl⟩ (fun a=>by rfl) h
noncomputable def FJ (sx sy:SD) (nx ny:Bool):Bool:=match sx.nm,sy.nm with
 | true,_=>nx
 | false,true=>ny
 | false,false=>false
theorem RM {P:Params} {c1 c2:Nat} {c o2:Obj} {sx sy:SD} {nx ny:Bool} {h g:V8} {d f:Int} (b:Om P c1 c sx nx h d) (a:Om P c2 o2 sy ny g f):cmS c1 c c2 o2=aA (FJ sx sy nx ny):=by
 unfold cmS FJ
 rw [b.nm,a.nm]
 cases i:sx.nm with
 | true=>exact b.coll i
 | false=>cases e:sy.nm with
  | true=>exact a.coll e
  | false=>rfl
structure Dat where
 wd:WD
 o:Bool
 sx:SD
 sy:SD
 nx:Bool
 ny:Bool
 v:V8
 vs:List V8
def Dat.nc (d:Dat):Bool:=FJ d.sx d.sy d.nx d.ny
def Dat.oc (d:Dat):CA:=caM d.sx d.sy
def Dat.af (d:Dat):AF:=caF d.sx d.sy
noncomputable def WD.g:WD→Bool
 | .ni=>true
 | .ne=>true
 | _=>false
noncomputable def Dat.R (d:Dat):Nat:=8 + 2 * d.vs.length
noncomputable def Fi (nm:Bool) (R:Nat) (v:V8):PI:=match nm with
 | true=>.op (.copy 1 (Int.ofNat R))
 | false=>.op (.value (Int.ofNat R) v.mv)
noncomputable def c9 (o:Bool):List PI:=match o with
 | true=>[]
 | false=>[.once 0 2]
noncomputable def iA (b:Bool) (R:Nat) (f:AF):List PI:=match b with
 | true=>[.op (.aff (Int.ofNat R) f)]
 | false=>[]
noncomputable def dX (o:Bool):Nat:=match o with
 | true=>2
 | false=>3
def akA (d:Dat):List PI:=c9 d.o++[.op (.opn d.nc)]++[.op (.addi 4 1)]++i9 (caW d.oc) 0 (dX d.o) d.af 8 d.vs
end
set_option linter.constructorNameAsVariable false
noncomputable def eP (o:Bool) (a n:Nat):List (Nat × Nat):=match o with
 | true=>[(0,a),(2,n)]
 | false=>[(0,a),(3,n),(2,n)]
noncomputable def dJ (o:Bool):Nat:=match o with
 | true=>3
 | false=>4
structure cU (P:Params) (p:SB) (d:Dat):Prop where
 wd:p.wd=d.wd
 o:p.o=d.o
 x:∃ u,p.x=d.sx.v u
 y:∃ u,p.y=d.sy.v u
 cx:p.cx=aA d.nx
 cy:p.cy=aA d.ny
 v:∃ u,p.v=d.v.v u
 xs:bk p.xs.toList d.vs
 len:d.vs.length≤3
section
variable {P:Params} {p:SB} {d:Dat} {l:List PI}
theorem KE (P:Params) {m:WM} {c:Nat} {f:AF} {xs:List Value} {vs:List V8} (g:bk xs vs) (h:m.inSet=true) (b:Tok) (r:Nat) (tr e:Tok) (a t:ae8):(bj m 0 e c b r tr xs a t).length=(i9 m 0 c f r vs).length:=(lh P m 0 e c b f 0 (fun z=>rfl) xs vs r tr a t g).len
theorem Le (oc:CA):(caW oc).inSet=true:=by cases oc<;>rfl
def qo (P:Params) (p:SB) (N O:ae8):XL:=[(ad N 14,aw 938 (ad N 15)),(ad N 15,eW P (O 9) (O 10) (ad N 16) (ad N 18)),(ad N 16,aO [.str (cmS p.lc p.lo p.rc p.ro) (cmT p.lc p.lo p.rc p.ro (O 11))])]
theorem A0 (R:cU P p d) (A:LfV P p.lc p.lo d.sx d.nx d.v 0) (z:LfV P p.rc p.ro d.sy d.ny .i0 1) (H:aX P (S5b p) l [(0,l.length)] []) (N O:ae8) :
  aX P (ksX (skB p) N O) (l++akA d) (eP d.o l.length (l++akA d).length) (qo P p N O)∧(ksX (skB p) N O).next=dJ d.o∧(ksX (skB p) N O).regs=d.R:=by
 have e:=A.ok
 have c:=z.ok
 have i:dC (skB p)=d.oc:=by
  show caM ((cg (lfA (bo p.lc) p.lo)).getD .n) ((cg (lfA (bo p.rc) p.ro)).getD .n)=_
  rw [e.nm,c.nm,e.sdv,c.sdv];rfl
 have u:dq (lfA (bo p.lc) p.lo) (lfA (bo p.rc) p.ro)=d.af.s:=by
  show (caF ((cg (lfA (bo p.lc) p.lo)).getD .n) ((cg (lfA (bo p.rc) p.ro)).getD .n)).s=_
  rw [e.nm,c.nm,e.sdv,c.sdv];rfl
 have a:p.xs.toList.length=d.vs.length:=R.xs.len
 have hn:p.S.n=l.length:=H.n
 have w:Ops P l p.S.ops p.S.xt:=by
  have:=H.ops
  rwa [au] at this
 have hk:(aO [.str (cmS p.lc p.lo p.rc p.ro) (cmT p.lc p.lo p.rc p.ro (O 11))])=aO [.str (aA d.nc) (cmT p.lc p.lo p.rc p.ro (O 11))]:=by rw [RM e c];rfl
 have x:∀ (r:Nat),Ops P [.op (.opn d.nc)] [(r,row J20 (O 13) (.int 0 p.S.tc) (.int 0 (O 14)) (.int 0 (O 15)) (.ref (ad N 14)))] (qo P p N O):=fun r=>by
  unfold qo
  rw [hk]
  exact Ops.one (aaI P r (O 13) p.S.tc (O 14) (O 15) _ 0 0 d.nc _ _ _ _ _ _)
 unfold ksX ksS
 rw [i]
 cases g:d.o with
 | true=>
  have b:((skB p).fin (O 53)).o=true:=by show p.o=true;rw [R.o,g]
  rw [b]
  have m:=(w.append (x (ad (fun j=>N (j + 1)) 18))).snoc (r:=ad (fun j=>N (j + 1)) 19) (y9 P _ (O 16) (p.t 46) (O 17) 371 4 0 1)
  have q:=m.append (lh P (caW d.oc) 0 p.S.tc 2 p.S.tn d.af (O 53) (fun Z=>rfl) p.xs.toList d.vs 8 p.S.tr (fl (flt (fun j=>N (j + 1)) 20 15)) (fl (flt O 20 33)) R.xs)
  have e1:l++akA d=l++[.op (.opn d.nc)]++[.op (.addi 4 1)]++i9 (caW d.oc) 0 2 d.af 8 d.vs:=by
   unfold akA c9 dX
   rw [g];simp only [uG,alr]
  have e2:(l++akA d).length=p.S.n + 1 + 1 + (bj (caW d.oc) 0 p.S.tc 2 p.S.tn 8 p.S.tr p.xs.toList (fl (flt (fun j=>N (j + 1)) 20 15)) (fl (flt O 20 33))).length:=by
   rw [e1,KE P (f:=d.af) R.xs (Le _),hn];simp only [ln,Nt]
  refine ⟨⟨?_,?_,rfl⟩,rfl,?_⟩
  · refine q.mv e1.symm fun k h=>?_
    rw [← u]
    show _=k (p.S.xt++cn (caW d.oc) (dq (lfA (bo p.lc) p.lo) (lfA (bo p.rc) p.ro)) (O 53) p.xs.toList (fl (flt (fun j=>N (j + 1)) 20 15))++qo P p N O)
    simp only [h];lia
  · show [(0,p.S.n),(2,p.S.n + 1 + 1 + _)]=[(0,l.length),(2,_)]
    rw [e2,hn];rfl
  · show 8 + 2 * p.xs.toList.length=8 + 2 * d.vs.length
    rw [a]
 | false=>
  have b:((skB p).fin (O 53)).o=false:=by show p.o=false;rw [R.o,g]
  rw [b]
  have y:=w.snoc (r:=ad (fun j=>N (j + 1)) 18) (Hz P _ (O 12) p.S.ts p.S.tn 371 0 0 2)
  have m:=(y.append (x (ad (fun j=>N (j + 1)) 19))).snoc (r:=ad (fun j=>N (j + 1)) 20) (y9 P _ (O 16) (p.t 46) (O 17) 371 4 0 1)
  have q:=m.append (lh P (caW d.oc) 0 p.S.tc 3 (O 3) d.af (O 53) (fun Z=>rfl) p.xs.toList d.vs 8 p.S.tr (fl (flt (fun j=>N (j + 1)) 21 15)) (fl (flt O 20 33)) R.xs)
  have e1:l++akA d=l++[.once 0 2]++[.op (.opn d.nc)]++[.op (.addi 4 1)]++i9 (caW d.oc) 0 3 d.af 8 d.vs:=by
   unfold akA c9 dX
   rw [g];simp only [uG]
  have e2:(l++akA d).length=p.S.n + 1 + 1 + 1 + (bj (caW d.oc) 0 p.S.tc 3 (O 3) 8 p.S.tr p.xs.toList (fl (flt (fun j=>N (j + 1)) 21 15)) (fl (flt O 20 33))).length:=by
   rw [e1,KE P (f:=d.af) R.xs (Le _),hn];simp only [ln,Nt]
  refine ⟨⟨?_,?_,rfl⟩,rfl,?_⟩
  · refine q.mv e1.symm fun k h=>?_
    rw [← u]
    show _=k (p.S.xt++cn (caW d.oc) (dq (lfA (bo p.lc) p.lo) (lfA (bo p.rc) p.ro)) (O 53) p.xs.toList (fl (flt (fun j=>N (j + 1)) 21 15))++qo P p N O)
    simp only [h];lia
  · show [(0,p.S.n),(3,p.S.n + 1 + 1 + 1 + _),(2,p.S.n + 1 + 1 + 1 + _)]=[(0,l.length),(3,_),(2,_)]
    rw [e2,hn];rfl
  · show 8 + 2 * p.xs.toList.length=8 + 2 * d.vs.length
    rw [a]
end
set_option linter.constructorNameAsVariable false
theorem aX.cast {P:Params} {S:aa} {l b:List PI} {labs a:List (Nat × Nat)} {E:XL} (H:aX P S l labs E) (e:l=b) (f:labs=a):aX P S b a E:=e ▸ f ▸ H
section
variable {P:Params} {p:SB} {d:Dat} {l:List PI} {labs:List (Nat × Nat)} {E:XL}
theorem vC (R:cU P p d) (h:LfV P p.lc p.lo d.sx d.nx d.v 0) {K:aa} (H:aX P K l labs E) (hr:K.regs=d.R) (a u:ae8) (e:Tok) :
  aX P (inA (d.oc.is .l) p K a u) (l++[Fi d.sx.nm d.R d.v]++iA (d.oc.is .l) d.R d.af) labs (E++(match d.oc.is .l with | true=>[(ad a 2,aO [.str d.af.s e])] | false=>[])):=by
 have c:=h.ok
 have f:aX P { K with regs:=K.regs + 1,tr:=u 0 } l labs E:=H.keep rfl rfl rfl rfl
 have b:aX P ({ K with regs:=K.regs + 1,tr:=u 0 }.add (ad a 0,kS p.lc p.lo (.int (Int.ofNat K.regs) K.tr) (u 1) (u 2) (u 3))) (l++[Fi d.sx.nm d.R d.v]) labs E:=by
  refine f.add ?_
  unfold kS
  rw [c.nm,hr]
  cases hn:d.sx.nm with
  | true=>exact lP ..
  | false=>
   obtain ⟨i,g⟩:=c.lit hn
   rw [g,← V8.mv_v]
   exact dn ..
 cases hb:d.oc.is .l with
 | false=>
  show aX P _ (l++[Fi d.sx.nm d.R d.v]++[]) labs (E++[])
  rw [au,au]
  exact b
 | true=>
  refine b.addX ?_
  rw [hr]
  exact PE P _ _ _ _ _ e (Int.ofNat d.R) 0 1 d.af _
noncomputable def l5 (R L:Nat):List PI:=[.op (.value 7 (.i 0)),.rew L,.isn (Int.ofNat R) (L + 1),.fnd (L + 2) (Int.ofNat R),.op (.null (Int.ofNat (R + 1))),.fnd (L + 1) (Int.ofNat (R + 1)),.goto L]
theorem Hs (p:SB) {S:aa} (H:aX P S l labs E) (r:Nat) (tr:Tok) (hr:S.regs=r + 1) (a u:ae8) :
  aX P (ST p r tr S a u) (l++l5 r S.next++[.op (.value 7 (.i 1)),.goto S.next]++[.op (.null 7)]) (labs++[(S.next + 2,l.length + 7)]++[(S.next + 1,l.length + 9)]++[(S.next,l.length + 10)]) E:=by
 have f:aX P { S with next:=S.next + 3,tn:=u 10,regs:=S.regs + 1,tr:=u 11 } l labs E:=H.keep rfl rfl rfl rfl
 have k:=f.add (dn P (ad a 3) (u 12) (u 13) (p.t 22) (u 14) (u 15) 0 0 7 (.i 0))
 have o:=k.add (Wg P (ad a 4) (u 16) p.S.tc S.tn 371 0 S.next)
 have n:=o.add (WX P (ad a 5) (u 17) tr (u 18) 371 (Int.ofNat r) 0 (S.next + 1))
 have h:=n.add (QN P (ad a 6) (u 20) p.S.tc (u 19) tr (u 21) (Int.ofNat r) (S.next + 2))
 have q:=h.add (AH P (ad a 7) (u 22) (u 23) S.tr 442 0 1 S.regs)
 have g:=q.add (QN P (ad a 8) (u 24) p.S.tc (u 18) S.tr (u 25) (Int.ofNat S.regs) (S.next + 1))
 have j:=(g.add (uB P (ad a 9) (u 26) (u 27) S.tn 371 0 0 S.next)).lab (S.next + 2) (u 19) (u 28)
 have m:=j.add (dn P (ad a 10) (u 29) (u 30) (p.t 22) (u 31) (u 32) 0 0 7 (.i 1))
 have c:=(m.add (uB P (ad a 11) (u 33) (u 34) S.tn 371 0 0 S.next)).lab (S.next + 1) (u 18) (u 35)
 have b:=(c.add (AH P (ad a 12) (u 36) (u 37) (p.t 22) (u 38) 0 1 7)).lab S.next S.tn (u 39)
 have e:l++[PI.op (.value (Int.ofNat 7) (.i 0))]++[.rew S.next]++[.isn (Int.ofNat r) (S.next + 1)]++[.fnd (S.next + 2) (Int.ofNat r)]++[.op (.null (Int.ofNat S.regs))]++[.fnd (S.next + 1) (Int.ofNat S.regs)]++[.goto S.next]=l++l5 r S.next:=by
  rw [hr]
  simp only [uG,Z4,alr];rfl
 have e2:(l++l5 r S.next).length=l.length + 7:=by rw [ln];rfl
 rw [e] at b
 rw [e2] at b
 have e3:(l++l5 r S.next++[PI.op (.value (Int.ofNat 7) (.i 1))]++[PI.goto S.next])=l++l5 r S.next++[.op (.value 7 (.i 1)),.goto S.next]:=by
  simp only [uG,Z4,alr];rfl
 rw [e3] at b
 have e4:(l++l5 r S.next++[PI.op (.value 7 (.i 1)),.goto S.next]).length=l.length + 9:=by
  rw [ln,e2];rfl
 have e5:(l++l5 r S.next++[PI.op (.value 7 (.i 1)),.goto S.next]++[PI.op (.null (Int.ofNat 7))]).length=l.length + 10:=by
  rw [ln,e4];rfl
 rw [e4,e5] at b
 exact b
def nC (d:Dat):List PI:=akA d++([Fi d.sx.nm d.R d.v]++iA (d.oc.is .l) d.R d.af++l5 d.R (dJ d.o)++[.op (.value 7 (.i 1)),.goto (dJ d.o)]++[.op (.null 7)]++we d.wd.g 7)
def i7 (d:Dat) (a:Nat):List (Nat × Nat):=
 eP d.o a (a + (akA d).length)++[(dJ d.o + 2,a + (akA d).length + 1 + (iA (d.oc.is .l) d.R d.af).length + 7)]++[(dJ d.o + 1,a + (akA d).length + 1 + (iA (d.oc.is .l) d.R d.af).length + 9)]++[(dJ d.o,a + (akA d).length + 1 + (iA (d.oc.is .l) d.R d.af).length + 10)]
theorem xB (b:Bool) (p:SB) (K:aa) (a u:ae8):(inA b p K a u).next=K.next∧(inA b p K a u).regs=K.regs + 1:=by cases b<;>exact ⟨rfl,rfl⟩
theorem BG (R:cU P p d) (b:LfV P p.lc p.lo d.sx d.nx d.v 0) (e:LfV P p.rc p.ro d.sy d.ny .i0 1) (f:p.g=d.wd.g) (H:aX P (S5b p) l [(0,l.length)] []) (I O:ae8) :
  aX P (mT (d.oc.is .l) p I O) (l++nC d) (i7 d l.length) (qo P p (fun j=>I (j + 5)) O++(match d.oc.is .l with | true=>[(ad I 22,aO [.str d.af.s (O 53)])] | false=>[])):=by
 obtain ⟨c,K2,a⟩:=A0 R b e H (fun j=>I (j + 5)) O
 have A:=vC R b c a (fun j=>match j with | 2=>I 22 | j=>I (j + 42)) (fun j=>O (j + 54)) (O 53)
 obtain ⟨n1,n2⟩:=xB (d.oc.is .l) p (ksX (skB p) (fun j=>I (j + 5)) O) (fun j=>match j with | 2=>I 22 | j=>I (j + 42)) (fun j=>O (j + 54))
 have B:=(Hs p A (ksX (skB p) (fun j=>I (j + 5)) O).regs (ksX (skB p) (fun j=>I (j + 5)) O).tr n2 (fun j=>match j with | 2=>I 22 | j=>I (j + 42)) (fun j=>O (j + 54))).neg p.g 7 (p.t 22) (fl (flt (fun j=>match j with | 2=>I 22 | j=>I (j + 42)) 13 1)) (fl (flt (fun j=>O (j + 54)) 40 3))
 refine aX.cast (by unfold mT inT;exact B) ?_ ?_
 · rw [n1,K2,a,f]
   unfold nC
   simp only [uG]
 · rw [n1,K2]
   unfold i7
   simp only [ln,Nt]
noncomputable def sxM:WD→WM
 | .v=>.reg
 | _=>.exi
noncomputable def sxB:WD→Bool
 | .v=>false
 | _=>true
noncomputable def BZ:WD→PI
 | .v=>.op (.null 8)
 | _=>.op (.value 8 (.i 0))
def vz (d:Dat):List PI:=c9 d.o++[BZ d.wd]++[.op (.addi 4 1)]++i9 (sxM d.wd) 8 (dX d.o) d.af 9 d.vs++[.op (.copy 8 7)]++we d.wd.g 7
def jO (d:Dat) (a:Nat):List (Nat × Nat):=eP d.o a (a + (c9 d.o).length + 2 + (i9 (sxM d.wd) 8 (dX d.o) d.af 9 d.vs).length)
theorem rR {m:WM} (e:m.inSet=false) (f c:Str) (t b:Tok):∀ (xs:List Value) (a:ae8),cn m f t xs a=cn m c b xs a
 | [],_=>rfl
 | x :: xs,a=>by
  show xJ m f t a++cn m f t xs _=xJ m c b a++cn m c b xs _
  rw [rR e f c t b xs]
  cases m<;>first | rfl | cases e
theorem Kw {m:WM} (k:m.inSet=false) (f e:Str) (c:Tok) (h:Nat) (g:Tok) (i:Tok) (xs:List Value) (j:Tok) (S:aa) (b:Nat) (a t u:ae8):v5 m h g f i xs j S b a t u=v5 m h g e c xs j S b a t u:=by
 unfold v5
 rw [rR k f e i c xs a]
theorem va {S:aa} (b:Bool) (p:SB) (wd:WD) (hb:sxB wd=b) (H:aX P S l labs E) (a u:ae8):aX P (sx0 b p S a u) (l++[BZ wd]) labs E:=by
 have c:aX P { S with regs:=9,tr:=u 4 } l labs E:=H.keep rfl rfl rfl rfl
 have e1:=c.add (dn P (ad a 1) (u 5) (u 6) p.S.tr (u 7) (u 8) 0 0 8 (.i 0))
 have e2:=c.add (AH P (ad a 1) (u 5) (u 6) p.S.tr (u 7) 0 1 8)
 subst hb
 cases wd<;>first | exact e1 | exact e2
theorem Tp (wd:WD):(sxM wd).inSet=false:=by cases wd<;>rfl
theorem r4 (wd:WD):(match sxB wd with | true=>WM.exi | false=>WM.reg)=sxM wd:=by cases wd<;>rfl
theorem BL (b:Bool) (p:SB) (S:aa) (a u:ae8):(sx0 b p S a u).next=S.next∧(sx0 b p S a u).regs=9:=by cases b<;>exact ⟨rfl,rfl⟩
theorem Bz (R:cU P p d) (H:aX P (S5b p) l [(0,l.length)] []) (a u:ae8) :
  aX P (sxT (sxB d.wd) d.o p a u) (l++(c9 d.o++[BZ d.wd]++[.op (.addi 4 1)]++i9 (sxM d.wd) 8 (dX d.o) d.af 9 d.vs++[.op (.copy 8 7)])) (jO d l.length) []:=by
 have b:=Tp d.wd
 cases h:d.o with
 | true=>
  have g:=va (sxB d.wd) p d.wd rfl H a u
  obtain ⟨n1,n2⟩:=BL (sxB d.wd) p (S5b p) a u
  have c:=(g.wsl (sxM d.wd) 8 p.S.tr d.af 0 p.xs.toList d.vs R.xs (fun e=>by rw [b] at e;cases e) (p.t 46) (ad a 3) (fl (flt a 4 15)) (fl (flt u 20 33)) u).add (lP P (ad a 2) (u 9) p.S.tr (p.t 22) (u 10) 8 1 7)
  rw [Kw b d.af.s ⟨#[]⟩ 0,← r4] at c
  refine aX.cast (show aX P (sxT (sxB d.wd) true p a u) _ _ _ from c) ?_ ?_
  · rw [n1,n2,r4]
    simp only [uG,c9,dX,alr];rfl
  · unfold jO
    rw [n1,n2,r4,h]
    simp only [ln,Nt,c9,dX,eP,List.length_nil]
    rfl
 | false=>
  have f:aX P { S5b p with next:=3,tn:=u 11,slots:=1,ts:=u 12 } l [(0,l.length)] []:=H.keep rfl rfl rfl rfl
  have f:=f.add (Hz P (ad a 0) (u 13) p.S.ts p.S.tn 371 0 0 2)
  have g:=va (sxB d.wd) p d.wd rfl f a u
  obtain ⟨n1,n2⟩:=BL (sxB d.wd) p ({ S5b p with next:=3,tn:=u 11,slots:=1,ts:=u 12 }.add (ad a 0,row J44 (u 13) (.int 0 p.S.ts) (.int (Int.negSucc 2) p.S.tn) (.int 0 371) .none)) a u
  have c:=((g.wsl (sxM d.wd) 8 p.S.tr d.af 0 p.xs.toList d.vs R.xs (fun e=>by rw [b] at e;cases e) (p.t 46) (ad a 3) (fl (flt a 4 15)) (fl (flt u 20 33)) u).lab 2 p.S.tn (u 14)).add (lP P (ad a 2) (u 9) p.S.tr (p.t 22) (u 10) 8 1 7)
  rw [Kw b d.af.s ⟨#[]⟩ 0,← r4] at c
  refine aX.cast (show aX P (sxT (sxB d.wd) false p a u) _ _ _ from c) ?_ ?_
  · rw [n1,n2,r4]
    simp only [uG,c9,dX];rfl
  · unfold jO
    rw [n1,n2,r4,h]
    simp only [ln,Nt,c9,dX,eP]
    rfl
end
set_option linter.constructorNameAsVariable false
noncomputable def mV:List (Nat × Nat)→Nat→Nat
 | [],_=>0
 | (k,p) :: m,j=>match Nat.beq k j with
  | true=>p
  | false=>mV m j
theorem Kj (a b:Nat):PySem.W.Z.eqB (Int.negSucc a) (Int.negSucc b)=Nat.beq a b:=by
 rw [dG]
 by_cases h:a=b
 · subst h;rw [decide_eq_true rfl];exact kI _
 · rw [Na h]
   cases q:PySem.W.Z.eqB (Int.negSucc a) (Int.negSucc b) with
   | false=>rfl
   | true=>exact absurd (Int.negSucc.inj ((FF _ _).mp q)) h
abbrev SU:=List (Nat × Tok × Nat × Tok)
theorem rY (x:Nat × Tok × Nat × Tok) (L:SU) (j:Nat):getD (Int.negSucc j) ((x :: L).map aa.labE)=match Nat.beq x.1 j with
  | true=>some (.int (Int.ofNat x.2.2.1) x.2.2.2)
  | false=>getD (Int.negSucc j) (L.map aa.labE):=by
 show (match PySem.W.Z.eqB (Int.negSucc x.1) (Int.negSucc j) with | true=>some (Value.int (Int.ofNat x.2.2.1) x.2.2.2) | false=>getD (Int.negSucc j) (L.map aa.labE))=_
 rw [Kj]
theorem pe:∀ (L:SU) (j:Nat),j∈L.map (·.1)→∃ t,getD (Int.negSucc j) (L.map aa.labE)=some (.int (Int.ofNat (mV (L.map fun x=>(x.1,x.2.2.1)) j)) t)
 | [],j,h=>by cases h
 | x :: L,j,h=>by
  rw [rY]
  show ∃ t,_=some (Value.int (Int.ofNat (match Nat.beq x.1 j with | true=>x.2.2.1 | false=>mV (L.map fun x=>(x.1,x.2.2.1)) j)) t)
  cases q:Nat.beq x.1 j with
  | true=>exact ⟨_,rfl⟩
  | false=>
   refine pe L j ?_
   rw [Jv,b9] at h
   rcases h with h | h
   · rw [h,alE] at q;cases q
   · exact h
theorem r8:∀ (L:SU),(L.map (·.1)).Nodup→∀ x∈L,getD (Int.negSucc x.1) (L.map aa.labE)=some (.int (Int.ofNat x.2.2.1) x.2.2.2)
 | [],_,x,h=>by cases h
 | y :: L,hn,x,h=>by
  rw [rY]
  rw [Jv,K4] at hn
  rcases b9.mp h with rfl | h
  · rw [alE]
  · have:Nat.beq y.1 x.1=false:=by
     rw [dG]
     exact Na fun e=>hn.1 (kw.mpr ⟨x,h,e.symm⟩)
    rw [this]
    exact r8 L hn.2 x h
section
variable {P:Params}
theorem E8 {o:Obj} (ls:List DictEntry) (h:xY P o):akz ls o=o:=by
 obtain ⟨n,a,m,c,v,t,rfl,-⟩:=h
 rfl
theorem LS {x:PI} {r:Nat} {o:Obj} {X:XL} (h:eh P x r o X) (ls:List DictEntry) (f:ae8) (k:∀ j,x.lab=some j→∃ t,getD (Int.negSucc j) ls=some (.int (Int.ofNat (f j)) t)):nH P (x.res f) r ((r,akz ls o) :: X)∧jH P ls o:=by
 have key:∀ (n:List Nat) (a:Int) (l:Nat) (c:Int) (t:Nat→Tok) (v:Value),x.lab=some l→cq P (sv n)=true→∃ tk,akz ls (bU n a (Int.negSucc l) c t v)=bU n a (Int.ofNat (f l)) c (fun j=>match j with | 12=>tk | j=>t j) v∧jH P ls (bU n a (Int.negSucc l) c t v):=by
  intro n a l c t v hl g
  obtain ⟨tk,d⟩:=k l hl
  refine ⟨tk,?_,.inl ⟨n,a,l,c,v,t,_,tk,rfl,g,d⟩⟩
  show ab ⟨[_,_,(getD (Int.negSucc l) ls).getD .none,_,_]⟩ 0=_
  rw [d];rfl
 cases x with
 | op i=>
  rw [E8 ls h.2]
  refine ex4 h.2 fun n a m c b=>?_
  refine ex2 b fun v t b=>?_
  obtain ⟨e,g⟩:=b
  exact ⟨h.1,.inr ⟨n,a,m,c,v,t,e,g⟩⟩
 | once a l=>
  obtain ⟨rfl,c,t,rfl⟩:=h
  obtain ⟨tk,e,hk⟩:=key J44 a l c t .none rfl (gp P).2.2.1
  rw [e]
  exact ⟨⟨c,_,rfl⟩,hk⟩
 | isn a l=>
  obtain ⟨rfl,c,t,rfl⟩:=h
  obtain ⟨tk,e,hk⟩:=key J34 a l c t .none rfl (gp P).2.2.2.1
  rw [e]
  exact ⟨⟨c,_,rfl⟩,hk⟩
 | rew l=>
  obtain ⟨rfl,c,t,rfl⟩:=h
  obtain ⟨tk,e,hk⟩:=key J40 0 l c t .none rfl (gp P).2.2.2.2.1
  rw [e]
  exact ⟨⟨c,_,rfl⟩,hk⟩
 | fnd l c=>
  obtain ⟨rfl,t,rfl⟩:=h
  obtain ⟨tk,e,hk⟩:=key J33 0 l c t (.int 1 (t 14)) rfl (gp P).2.2.2.2.2
  rw [e]
  exact ⟨⟨fun j=>match j with | 12=>tk | j=>t j,rfl⟩,hk⟩
 | goto l=>
  obtain ⟨rfl,a,c,t,rfl⟩:=h
  obtain ⟨tk,e,hk⟩:=key J39 a l c t .none rfl (gp P).1
  rw [e]
  exact ⟨⟨a,c,_,rfl⟩,hk⟩
 | gosub a l=>
  obtain ⟨rfl,c,t,rfl⟩:=h
  obtain ⟨tk,e,hk⟩:=key J48 a l c t .none rfl (gp P).2.1
  rw [e]
  exact ⟨⟨c,_,rfl⟩,hk⟩
theorem v6 (ls:List DictEntry) (f:ae8):∀ {l:List PI} {cs:List (Nat × Obj × XL)},iS P l cs→(∀ x∈l,∀ j,x.lab=some j→∃ t,getD (Int.negSucc j) ls=some (.int (Int.ofNat (f j)) t)) →
  bY P (l.map (PI.res f)) (cs.map fun c=>(c.1,(c.1,akz ls c.2.1) :: c.2.2))∧∀ c∈cs,jH P ls c.2.1
 | [],[],_,_=>⟨trivial,fun c h=>by cases h⟩
 | x :: l,c :: cs,h,hf=>by
  obtain ⟨a,b⟩:=LS h.1 ls f (hf x (gw ..))
  obtain ⟨g,d⟩:=v6 ls f h.2 fun y e=>hf y (kt _ e)
  refine ⟨⟨a,g⟩,fun i hc=>?_⟩
  rcases b9.mp hc with rfl | hc
  · exact b
  · exact d i hc
 | [],_ :: _,h,_=>h.elim
 | _ :: _,[],h,_=>h.elim
theorem bY.append:∀ {a l2:List Ins} {c1 c2:List (Nat × XL)},bY P a c1→bY P l2 c2→bY P (a++l2) (c1++c2)
 | [],_,[],_,_,h=>h
 | _ :: _,_,_ :: _,_,h,h'=>⟨h.1,bY.append h.2 h'⟩
 | [],_,_ :: _,_,h,_=>h.elim
 | _ :: _,_,[],_,h,_=>h.elim
variable {S:aa} {l:List PI} {labs:List (Nat × Nat)}
theorem sq (H:aX P S l labs []) (hl:∀ x∈l,∀ j,x.lab=some j→j∈labs.map (·.1)) (hn:l.length≤999) (a u:Nat):kL P (iI (S.add (a,cG u))) (l.map (PI.res (mV labs))++[.halt])∧∀ x∈S.ops,jH P (S.labels.map aa.labE) x.2:=by
 refine ex2 H.ops fun cs G h=>?_
 refine an2 h fun m f q=>?_
 have i:∀ x∈l,∀ j,x.lab=some j→∃ t,getD (Int.negSucc j) (S.labels.map aa.labE)=some (.int (Int.ofNat (mV labs j)) t):=by
  intro x d j o
  have:=hl x d j o
  rw [← H.labs,alu] at this
  have e:=pe S.labels j this
  rw [H.labs] at e
  exact e
 obtain ⟨r1,r2⟩:=v6 (S.labels.map aa.labE) (mV labs) m i
 refine ⟨⟨(cs.map fun c=>(c.1,(c.1,akz (S.labels.map aa.labE) c.2.1) :: c.2.2))++[(a,[(a,cG u)])],G,r1.append ⟨⟨0,0,0,mkT u 369 370 371 0,rfl⟩,trivial⟩,?_,?_,?_⟩,fun x d=>?_⟩
 · rw [ln,zt,← m.len]
   show l.length + 1≤1000
   lia
 · show (⟨((S.ops++[(a,cG u)]).map fun x=>(x.1,akz (S.labels.map aa.labE) x.2)).map fun x=>Value.ref x.1⟩:Array Value)=_
   rw [f]
   simp only [eQ,alu,Jv,Z6]
   rfl
 · show ((S.ops++[(a,cG u)]).map (fun x=>(x.1,akz (S.labels.map aa.labE) x.2))++S.xt).Perm _
   have g:S.xt.Perm (cs.flatMap (·.2.2)++G):=by rwa [au] at q
   rw [f]
   refine aG fun k b kc p n=>?_
   have e1:∀ (cs:List (Nat × Obj × XL)),k ((cs.map fun c=>(c.1,c.2.1)).map fun x=>(x.1,akz (S.labels.map aa.labE) x.2)) + k (cs.flatMap (·.2.2))=k ((cs.map fun c=>(c.1,(c.1,akz (S.labels.map aa.labE) c.2.1) :: c.2.2)).flatMap (·.2)):=by
    intro cs
    induction cs with
    | nil=>
     show k [] + k []=k []
     rw [p]
    | cons c cs ih=>
     simp only [Jv,List.flatMap_cons,b] at ih ⊢
     rw [kc _ (List.map _ _),kc _ c.2.2]
     lia
   have e2:=e1 cs
   rw [eQ,b,b,n _ _ g,b,b,alX,b]
   have e3:k (([(a,cG u)]:XL).map fun x=>(x.1,akz (S.labels.map aa.labE) x.2))=k ([(a,[(a,cG u)])].flatMap (·.2)):=rfl
   show k ((cs.map fun c=>(c.1,c.2.1)).map fun x=>(x.1,akz (S.labels.map aa.labE) x.2)) + k (([(a,cG u)]:XL).map fun x=>(x.1,akz (S.labels.map aa.labE) x.2)) + (k (cs.flatMap (·.2.2)) + k G)=k ((cs.map fun c=>(c.1,(c.1,akz (S.labels.map aa.labE) c.2.1) :: c.2.2)).flatMap (·.2)) + k ([(a,[(a,cG u)])].flatMap (·.2)) + k G
   rw [e3,← e2]
   lia
 · rw [f] at d
   obtain ⟨c,r,rfl⟩:=kw.mp d
   exact r2 c r
end
def abD (k:VK) (J:WB):List (SG J):=smS (LLp J:CL J)
noncomputable def ZC:VK→List Nat
 | .n=>(by walk_at "#ou'")
 | .i=>(by walk_at "#ou=")
 | .s=>(by walk_at "#ou)")
def bA (k:VK) (P:Params):aq SB:=akt.spec ((⟨4,6,4,21,62,776,false,[0,1,2,3,9,8,13,15,14,16],(by walk_at "#]in[(`D`7`9`;`=nD`C`I`GddfY"),ZC k⟩:akt) ) (fun p I=>bT p 7 12 I) (fun p I=>bO P (p.at k) I 8 3) (fun p=>some (S1 p.S)) (fun p I O=>.next) (fun p I O=>bO P (yS k p I O) I 13 7) (fun p I O=>some (S6 k p I O)) (fun p I O=>[OV.hb true]) (fun p I O=>[OV.hb true])
theorem MR (k:VK) (J:WB) (p:SB):(bA k J.p).Runs J.w J.t (abD k J) p:=amK eVK (fun k J=>bA k J.p) (fun k J=>abD k J) k J p
def abI (v:Bool × Bool) (J:WB):List (SG J):=smS ((isR 139 2,acF .i J) :: LLp J:CL J)
def Z5 (v:Bool × Bool):List Nat:=match v.2 with | false=>ac0 | true=>adI
noncomputable def Yo (v:Bool × Bool):List Nat:=match v.1 with | false=>(match v.2 with | false=>(by walk_at "#0l+RS`@`I6`G76`E`Am3h)f_&") | true=>(by walk_at "#l+&S`@H`f6`d`g6;:`I`R`Y`T`C`W`U```bh2RA")) | true=>(match v.2 with | false=>(by walk_at "#0l+`=nD7`;`H`K6GHm3h)f_&") | true=>(by walk_at "#l+&nD`C`g`=`e`h6`O`Q7`S`Z`U`DQ<`a`ch2RA"))
def YQ (v:Bool × Bool):List Nat:=match v.2 with | false=>adz | true=>adJ
def bS (v:Bool × Bool) (P:Params):aq SB:=akt.spec ((⟨8,9,7,28,65,1062,false,Z5 v,Yo v,YQ v⟩:akt) ) (fun p I=>bT p 12 13 I) (fun p I=>bO P (p.at3 v) I 13 7) (fun p=>some (S2 p.S)) (fun p I O=>.next) (fun p I O=>bO P (jx v P p I O) I 14 14) (fun p I O=>some (Rn p I O)) (fun p I O=>[OV.hb (Nat.ble p.S.n 1000000)]) (fun p I O=>[OV.hb true])
theorem Zo (v:Bool × Bool) (P:Params) (p:SB):(bS v P).Ok p:=okE (amJ.pr amJ) (fun v=>bS v P) p v
theorem LW (v:Bool × Bool) (J:WB) (p:SB):(bS v J.p).Runs J.w J.t (abI v J) p:=amK (amJ.pr amJ) (fun v J=>bS v J.p) (fun v J=>abI v J) v J p
def abT (v:LK) (J:WB):List (SG J):=smS ([]:CL J)
noncomputable def aaU (v:LK):List Nat:=match v with | .n | .i | .s=>(by walk_at "#g%f>n?") | .c=>(by walk_at "#g%f>hY")
noncomputable def ZW (v:LK):List Nat:=match v with | .n | .i | .s=>[5,4] | .c=>(by walk_at "#`C`/V)W8`5$A&`@H")
noncomputable def YG (v:LK):List Nat:=match v with | .n | .i | .s=>(by walk_at "#$o(l,o^jQ@ky?kl+") | .c=>(by walk_at "#$o($mU-ezezeziOe89f2f2f2f2hvf2hvnEnEnEhfeNh1e3iYo?o?e3:lJlJlJlJH+")
def bL (v:LK) (P:Params):aq SB:=akt.spec ((⟨15,2,2,12,10,550,false,aaU v,ZW v,YG v⟩:akt) ) (fun p I=>bT p 13 14 I) (fun p I=>bO P (p.at4 v) I 14 14) (fun p=>some (S3 p.S)) (fun p I O=>.next) (fun p I O=>bO P (j9 v P p O) I 15 16) (fun p I O=>some (S3 p.S)) (fun p I O=>[]) (fun p I O=>[])
theorem Yh (v:LK) (P:Params) (p:SB):(bL v P).Ok p:=okE eLK (fun v=>bL v P) p v
theorem MZ (v:LK) (J:WB) (p:SB):(bL v J.p).Runs J.w J.t (abT v J) p:=amK eLK (fun v J=>bL v J.p) (fun v J=>abT v J) v J p
def abq (v:WD) (J:WB):List (SG J):=smS ([(isB "list.__contains__",dS _ _)]:CL J)
noncomputable def VP:WD→List Nat
 | .i=>[13,8,10,12]
 | .ni=>[13,8,10,12]
 | .e=>[11,8,10]
 | .ne=>[11,8,10]
 | .v=>[7,6]
noncomputable def alq:WD→List Nat
 | .i=>adF
 | .ni=>adF
 | .e=>ada
 | .ne=>ada
 | .v=>(by walk_at "#oSBl,o+hjkV+")
def bE (v:WD) (P:Params):aq SB:=akt.spec ((⟨17,2,2,4,9,225,false,(by walk_at "#g%gK&`5"),VP v,alq v⟩:akt) ) (fun p I=>bT p 14 15 I) (fun p I=>bO P { p with wd:=v } I 15 16) (fun p=>some (S3 p.S)) (fun p I O=>.next) (fun p I O=>bO P (Nr v p O) I 16 18) (fun p I O=>some (S3 p.S)) (fun p I O=>[OV.hb true]) (fun p I O=>[OV.hb true])
theorem NL (v:WD) (J:WB) (p:SB):(bE v J.p).Runs J.w J.t (abq v J) p:=amK eWD (fun v J=>bE v J.p) (fun v J=>abq v J) v J p
def aka (p:SB):XT:=some (S3 p.S)
def ab5 (J:WB):List (SG J):=smS (LLp J:CL J)
def bG (P:Params):aq SB:=akt.spec ((⟨19,5,0,17,62,403,false,(by walk_at "#h3o-`?H"),(by walk_at "#(er*Wkbf>`5h)`9`;R.S"),(by walk_at "#mReNh1e3iYo?e3:e-/fb#m7#m7ito3k{+ebe$eb+B5o3k{+ebe$eb+B5o3`amOV")⟩:akt) ) (fun p I=>bT p 15 19 I) (fun p I=>bO P p I 16 18) (aka ) (fun p I O=>.next) (fun p I O=>bO P (tJ p O) I 19 18) (fun p I O=>some (LH p I O)) (fun p I O=>[OV.hb true,OV.hb true,OV.hb (Nat.ble (aa.n p.S + 1 + 1 + 1 + 1 + 1) 1000000),OV.hb true,OV.hb (Nat.ble (aa.n p.S + 1 + 1 + 1 + 1) 1000000),OV.hb (Nat.ble (aa.n p.S + 1 + 1 + 1) 1000000),OV.hb (Nat.ble (aa.n p.S + 1 + 1) 1000000),OV.hb (Nat.ble (aa.n p.S + 1) 1000000),OV.hb (Nat.ble p.S.n 1000000)]) (fun p I O=>hT 9)
theorem Nc (J:WB) (p:SB):(bG J.p).Runs J.w J.t (ab5 J) p:=SX (fun J=>(bG J.p)) (fun J=>(ab5 J)) J p
set_option linter.constructorNameAsVariable false
theorem rV {l:List Stmt} {i j k:Nat} (a:i≤j) (b:j≤k):bu l i k=bu l i j++bu l j k:=by
 unfold bu
 have e1:l.take j=(l.take k).take j:=by rw [List.take_take,Nat.min_eq_left b]
 rw [e1]
 generalize l.take k=m
 have e2:m.drop i=(m.take j++m.drop j).drop i:=by rw [List.take_append_drop]
 rw [e2,List.drop_append]
 congr 1
 by_cases h:m.length≤j
 · rw [List.drop_eq_nil_of_le h,List.drop_nil]
 · rw [List.length_take,Nat.min_eq_left (by lia),Nat.sub_eq_zero_of_le a]
   rfl
def bLs (P:Params) (p:SB) (I:ae8) (n m:Nat) (S:aa):XL:=tc I 0 (bO P p I n m)++S.cells P
section
variable {J:WB}
theorem W6 (k:VK) (p:SB) (I:ae8):HRG J 100 (bT p 7 12 I) (bLs J.p (p.at k) I 8 3 (S1 p.S))
  (fun e L'=>e=.next∧∃ I' O,I' 0=I 0∧L'=bLs J.p (yS k p I' O) I' 13 7 (S6 k p I' O)):=by
 have H:=(aq.he (ay _) (MR k J p) (by intros;exact tT) I (fun z z z=>rfl)).hr
 refine (show HR _ _ _ (bT p 7 12 I) (bLs J.p (p.at k) I 8 3 (S1 p.S)) _ from H).mono (ag rfl) <| elA fun I' O' a=>?_
 exact ⟨rfl,ah 10 I',O',a 0 (ag rfl),rfl⟩
theorem aaf (v:Bool × Bool) (p:SB) (I:ae8) (hn:p.S.n≤1000000):HRG J 100 (bT p 12 13 I) (bLs J.p (p.at3 v) I 13 7 (S2 p.S))
  (fun e L'=>e=.next∧∃ I' O,I' 0=I 0∧L'=bLs J.p (jx v J.p p I' O) I' 14 14 (Rn p I' O)):=by
 have H:=(aq.he (ay _) (LW v J p) (Zo v _ p) I (fun z z z=>hbC hn rfl)).hr
 refine (show HR _ _ _ (bT p 12 13 I) (bLs J.p (p.at3 v) I 13 7 (S2 p.S)) _ from H).mono (ag rfl) <| elA fun I' O' a=>?_
 exact ⟨rfl,ah 17 I',ah 28 O',a 0 (ag rfl),rfl⟩
theorem VB (v:LK) (p:SB) (I:ae8):HRG J 100 (bT p 13 14 I) (bLs J.p (p.at4 v) I 14 14 (S3 p.S))
  (fun e L'=>e=.next∧∃ I' O,I' 0=I 0∧L'=bLs J.p (j9 v J.p p O) I' 15 16 (S3 p.S)):=by
 have H:=(aq.he (ay _) (MZ v J p) (Yh v _ p) I (fun z z z=>rfl)).hr
 refine (show HR _ _ _ (bT p 13 14 I) (bLs J.p (p.at4 v) I 14 14 (S3 p.S)) _ from H).mono (ag rfl) <| elA fun I' O' a=>?_
 exact ⟨rfl,ah 17 I',ah 12 O',a 0 (ag rfl),rfl⟩
theorem aaj (v:WD) (p:SB) (I:ae8):HRG J 100 (bT p 14 15 I) (bLs J.p { p with wd:=v } I 15 16 (S3 p.S))
  (fun e L'=>e=.next∧∃ I' O,I' 0=I 0∧L'=bLs J.p (Nr v p O) I' 16 18 (S3 p.S)):=by
 have H:=(aq.he (ay _) (NL v J p) (by intros;exact tT) I (fun z z z=>by cases v<;>rfl)).hr
 refine (show HR _ _ _ (bT p 14 15 I) (bLs J.p { p with wd:=v } I 15 16 (S3 p.S)) _ from H).mono (ag rfl) <| elA fun I' O' a=>?_
 exact ⟨rfl,ah 19 I',ah 4 O',a 0 (ag rfl),rfl⟩
theorem W0 (p:SB) (I:ae8) (hn:p.S.n≤900000):HRG J 100 (bT p 15 19 I) (bLs J.p p I 16 18 (S3 p.S))
  (fun e L'=>e=.next∧∃ I' O,I' 0=I 0∧L'=bLs J.p (tJ p O) I' 19 18 (LH p I' O)):=by
 have H:=(aq.he (ay _) (Nc J p) (by intros;exact tT) I (fun z z z=>by
  refine hbT rfl (hbT rfl (hbC (by lia) (hbT rfl (hbC (by lia) (hbC (by lia) (hbC (by lia) (hbC (by lia) (hbC (by lia) rfl)))))))))).hr
 refine (show HR _ _ _ (bT p 15 19 I) (bLs J.p p I 16 18 (S3 p.S)) _ from H).mono (ag rfl) <| elA fun I' O' a=>?_
 exact ⟨rfl,ah 24 I',ah 17 O',a 0 (ag rfl),rfl⟩
end
def abw (o:Bool) (J:WB):List (SG J):=smS ((isR 802 3,RX J) :: (isR 1114 3,ac6 .exi J) :: LLp J:CL J)
noncomputable def VL:Bool→List Nat
 | true=>(by walk_at "#h3dC8<`AgYh4`W")
 | false=>(by walk_at "#h38`;`WgYhlQ")
noncomputable def Za:Bool→List Nat
 | true=>(by walk_at "#<gd`yAHfUlWm3`WhnkToX")
 | false=>(by walk_at "#`_fwa%Afma.a/`AjQa,k*``h8oka2a3a4")
noncomputable def X6:Bool→List Nat
 | true=>(by walk_at "#kYm|En%k/h9mte|m1e+lPlPiL#QfvkBmBmBfv`_m1h$<m+iKloeo`;$e|oE#a%fVkAm@m@fVa*lQlQmIlXlXa,k;mfk^7")
 | false=>(by walk_at "#kYm|En%lNj>iIeElNl5el':k/h9mtfum;e+lRlRg|#`Zg>kCmFmFg>`am;h$Qm+iLn-eonBfugz#TgBkEmHmHgBa,lSlSmIjYjYjYeEa.#Wk;mfk^7")
def alj (o:Bool):akt:=⟨19,20,0,56,71,1925,false,VL o,Za o,X6 o⟩
def bX (o:Bool) (P:Params):aq SB:=akt.spec (alj o ) (fun p I=>bT p 19 20 I) (fun p I=>bO P { p with o:=o } I 19 16++[aw 438 (ad I 18),Ja P p I p.g]) (fun p=>some (S5b p)) (fun p I O=>.next) (fun p I O=>bO P { p with o:=o } I 19 16++[aw 438 (ad I 18),Ja P p I p.g]) (fun p I O=>some ((sxT true o p (fun j=>I (j + 19)) O).neg p.g (.int 7 (p.t 22)) (fl (flt I 38 1)) (fl (flt O 53 3)))) (fun p I O=>(vQ true o p (alj o) I O).map .hb) (fun p I O=>bl (vQ true o p (alj o) I O))
theorem WS (o:Bool) (P:Params) (p:SB):(bX o P).Ok p:=okE amJ (fun o=>bX o P) p o
theorem M0 (o:Bool) (J:WB) (p:SB):(bX o J.p).Runs J.w J.t (abw o J) p:=amK amJ (fun o J=>bX o J.p) (fun o J=>abw o J) o J p
def abz (o:Bool) (J:WB):List (SG J):=smS ((isR 1114 3,ac6 .reg J) :: LLp J:CL J)
noncomputable def aaV:Bool→List Nat
 | true=>(by walk_at "#h3dC8<`AgYh4")
 | false=>(by walk_at "#h38`;`WgYhl")
noncomputable def Ve:Bool→List Nat
 | true=>(by walk_at "#<gd`y`9fU6lWm3`WhnkT")
 | false=>(by walk_at "#`_fwa%`9fY6a.a/H`G`Ea,k*``h8ok")
noncomputable def Zq:Bool→List Nat
 | true=>(by walk_at "#kYkJm|#Dn%k/immte|m1e+lPlPiL#QfvkBmBmBfv`_m1h$<m+iKiBeo`;$e|oE#a%fVkAm@m@fVa*lQlQmIlXlXa,iDim7")
 | false=>(by walk_at "#kYkJm|#Dn%lNl4iIeElNhTel5:k/immtfum;e+lRlRg|#`Zg>kCmFmFg>`am;h$Qm+iLk^eonBfugz#TgBkEmHmHgBa,lSlSmIjYjYjYeEa.l5iDim7")
def Uu (o:Bool):akt:=⟨19,19,0,53,71,1910,false,aaV o,Ve o,Zq o⟩
def bV (o:Bool) (P:Params):aq SB:=akt.spec (Uu o ) (fun p I=>bT p 19 20 I) (fun p I=>bO P { p with o:=o } I 19 16++[aw 464 (ad I 18),LQ P p I]) (fun p=>some (S5b p)) (fun p I O=>.next) (fun p I O=>bO P { p with o:=o } I 19 16++[aw 464 (ad I 18),LQ P p I]) (fun p I O=>some (sxT false o p (fun j=>I (j + 19)) O)) (fun p I O=>(vQ false o p (Uu o) I O).map .hb) (fun p I O=>bl (vQ false o p (Uu o) I O))
theorem abc (o:Bool) (P:Params) (p:SB):(bV o P).Ok p:=okE amJ (fun o=>bV o P) p o
theorem Lx (o:Bool) (J:WB) (p:SB):(bV o J.p).Runs J.w J.t (abz o J) p:=amK amJ (fun o J=>bV o J.p) (fun o J=>abz o J) o J p
def XV (o:Bool) (J:WB):List (SG J):=smS ((isR 1018 2,YW false o J) :: (isR 802 3,RX J) :: (isX,aas J) :: LLp J:CL J)
noncomputable def TE:Bool→List Nat
 | true=>(by walk_at "#mDdDkkg5dE`SdFdGhN`Ygf")
 | false=>(by walk_at "#mDdDkkgZ`SdFdGhN`Ygf")
noncomputable def RR:Bool→List Nat
 | true=>(by walk_at "#&6A68f;gc6fqmlny`}a5a$lWTa)a,`w`za/a0a7a8kma<a=a@aBaCaDaEl[aKaMaNaOaQnMaU")
 | false=>(by walk_at "#meh.gcg*mlny`}a5a$lWTa)a,`w`za/a0a7a8kma<a=a@aBaCaDaEl[aKaMaNaOaQnMaU")
noncomputable def nD (o:Bool):akt:=⟨19,37,3,97,75,2052,false,TE o,RR o,(by walk_at "#kYkWjsk^fjeo$Df^ekf>iK<gAkDmGmGgATLffl4eOgu;k2#m&f^l>LeEhTm8m8k/f@k;k;e{m)e{/lYlYa2Oa2j>lYa2OlYkZa2ffm)mrf@mrkZk1mfn-7")⟩
def bIf (o:Bool) (P:Params):aq SB:=akt.spec (nD o ) (fun p I=>bT p 19 20 I) (fun p I=>bO P { p with o:=o } I 19 16++[aw 412 (ad I 18),bIn P p I p.g]) (fun p=>some (S5b p)) (fun p I O=>.next) (fun p I O=>bO P { p with o:=o } I 19 16++[aw 412 (ad I 18),bIn P p I p.g]++EI P { p with o:=o } I O) (fun p I O=>some (mT false { p with o:=o } I O)) (fun p I O=>aaB P false { p with o:=o } (nD o) I O) (fun p I O=>Yz P false { p with o:=o } (nD o) I O)
theorem UQ (o:Bool) (P:Params) (p:SB):(bIf o P).Ok p:=okE amJ (fun o=>bIf o P) p o
theorem KO (o:Bool) (J:WB) (p:SB):(bIf o J.p).Runs J.w J.t (XV o J) p:=amK amJ (fun o J=>bIf o J.p) (fun o J=>XV o J) o J p
def X7 (o:Bool) (J:WB):List (SG J):=smS ((isR 1018 2,YW true o J) :: (isR 802 3,RX J) :: (isX,aas J) :: LLp J:CL J)
noncomputable def RP:Bool→List Nat
 | true=>(by walk_at "#mD`Tkkg5dE`S`UdGgegTgNg@")
 | false=>(by walk_at "#mD`TkkgZ`S`UdGgegTgNg@")
noncomputable def Um:Bool→List Nat
 | true=>(by walk_at "#&6A68f;gc6fqmli,`yh.a&a9oXa+a.a1`|a#nKkma=a>aAaBaEaGl[aJnLaPaQaRaSaVaWaXaY")
 | false=>(by walk_at "#meh.gcg*mli,`yh.a&a9oXa+a.a1`|a#nKkma=a>aAaBaEaGl[aJnLaPaQaRaSaVaWaXaY")
noncomputable def acA (o:Bool):akt:=⟨19,37,4,97,75,2114,false,RP o,Um o,(by walk_at "#kYkWjsk^fjeo$Df^ekf>iK<gAkDmGmGgATLffl4eOgu;k2#m&f^l>LeELEe{hTm8m8k/f@k;k;e{m)e{/lZlZa6Oa6j>lZa6OlZkZa6ffm)mrf@mrkZk1mfn-7")⟩
def bIt (o:Bool) (P:Params):aq SB:=akt.spec (acA o ) (fun p I=>bT p 19 20 I) (fun p I=>bO P { p with o:=o } I 19 16++[aw 412 (ad I 18),bIn P p I p.g]) (fun p=>some (S5b p)) (fun p I O=>.next) (fun p I O=>bO P { p with o:=o } I 19 16++[aw 412 (ad I 18),bIn P p I p.g]++EI P { p with o:=o } I O++[aO [.str (dq (lfA (bo p.lc) p.lo) (lfA (bo p.rc) p.ro)) (O 53)]]) (fun p I O=>some (mT true { p with o:=o } I O)) (fun p I O=>aaB P true { p with o:=o } (acA o) I O) (fun p I O=>Yz P true { p with o:=o } (acA o) I O)
theorem Uc (o:Bool) (P:Params) (p:SB):(bIt o P).Ok p:=okE amJ (fun o=>bIt o P) p o
theorem F8 (o:Bool) (J:WB) (p:SB):(bIt o J.p).Runs J.w J.t (X7 o J) p:=amK amJ (fun o J=>bIt o J.p) (fun o J=>X7 o J) o J p
set_option linter.constructorNameAsVariable false
theorem dy {l:List Bool} (h:∀ b∈l,b=true):l.map OV.hb=bl l:=by
 induction l with
 | nil=>rfl
 | cons a l ih=>
  show OV.hb a :: l.map OV.hb=OV.hb true :: bl l
  rw [h a (gw ..),ih fun b hb=>h b (kt _ hb)]
theorem iN {j:Nat}:∀ {l:List (Nat × Tok × Nat × Tok)},(∀ x∈l,x.1 ≠ j)→cJ j l=true
 | [],_=>rfl
 | x :: l,h=>by
  show (match Nat.beq x.1 j with | true=>false | false=>cJ j l)=true
  have a:Nat.beq x.1 j=false:=by
   rw [dG]
   exact Na (h x (gw ..))
  rw [a]
  exact iN fun y b=>h y (kt _ b)
theorem wm (m:WM) (h c:Nat) (f:AF):∀ (vs:List V8) (r:Nat),(i9 m h c f r vs).length≤4 * vs.length
 | [],_=>ai _
 | v :: vs,r=>by
  have ih:=wm m h c f vs (r + 2)
  have a:(anC m h c f r v).length≤4:=by cases m<;>exact ag rfl
  show (anC m h c f r v++i9 m h c f (r + 2) vs).length≤4 * (vs.length + 1)
  rw [ln]
  lia
theorem bk.kinds:∀ {ys:List Value} {xs:List V8},bk ys xs→(ys.all fun v=>(kindOf v).isSome)=true
 | [],[],_=>rfl
 | y :: ys,x :: xs,h=>by
  obtain ⟨⟨u,rfl⟩,a⟩:=h
  rw [List.all_cons,amV,bk.kinds a];rfl
 | [],_ :: _,h=>h.elim
 | _ :: _,[],h=>h.elim
theorem cU.vals {P:Params} {p:SB} {d:Dat} (R:cU P p d):bd p.xs=true:=by
 unfold bd
 rw [R.xs.kinds,Bool.and_true]
 refine aF ?_
 have a:=R.xs.len
 have b:p.xs.toList.length=p.xs.size:=aly
 have:=R.len
 lia
theorem JF (d:Dat) (h:d.vs.length≤3):(akA d).length≤15:=by
 have:=wm (caW d.oc) 0 (dX d.o) d.af d.vs 8
 unfold akA
 simp only [ln,Nt]
 have:(c9 d.o).length≤1:=by cases d.o<;>simp [c9]
 lia
section
variable {P:Params} {p:SB} {d:Dat} {l:List PI}
theorem Ij (R:cU P p d) (k:LfV P p.lc p.lo d.sx d.nx d.v 0) (L:LfV P p.rc p.ro d.sy d.ny .i0 1) (H:aX P (S5b p) l [(0,l.length)] []) (hl:l.length≤100) (I O:ae8):∀ b∈qf P (d.oc.is .l) p I O,b=true:=by
 obtain ⟨f,K2,t⟩:=A0 R k L H (fun j=>I (j + 5)) O
 have A:=vC R k f t (fun j=>match j with | 2=>I 22 | j=>I (j + 42)) (fun j=>O (j + 54)) (O 53)
 refine exL (ksX (skB p) (fun j=>I (j + 5)) O) fun K F=>?_
 unfold qf
 rw [← F] at f K2 t A ⊢
 show ∀ b∈Sx P (d.oc.is .l) p K (inA (d.oc.is .l) p K (fun j=>match j with | 2=>I 22 | j=>I (j + 42)) (fun j=>O (j + 54))).n (fun j=>O (j + 54)),b=true
 have M:=JF d R.len
 have hn:=f.n
 have z:=A.n
 rw [ln] at hn
 refine exL ((inA (d.oc.is .l) p K (fun j=>match j with | 2=>I 22 | j=>I (j + 42)) (fun j=>O (j + 54))).n) fun m i=>?_
 rw [← i] at z ⊢
 have w:(iA (d.oc.is .l) d.R d.af).length≤1:=by cases d.oc.is .l<;>simp [iA]
 simp only [ln,Nt] at z
 have c:∀ x∈K.labels,x.1 < K.next:=by
  intro x hx
  have:(x.1,x.2.2.1)∈eP d.o l.length (l++akA d).length:=by rw [← f.labs];exact kw.mpr ⟨x,hx,rfl⟩
  rw [K2]
  cases y:d.o with
  | true=>
   rw [y] at this
   simp only [eP,dJ,b9,Prod.mk.injEq,gv,dj] at this ⊢
   lia
  | false=>
   rw [y] at this
   simp only [eP,dJ,b9,Prod.mk.injEq,gv,dj] at this ⊢
   lia
 have D:K.labels.length≤3:=by
  have:=congrArg List.length f.labs
  rw [zt] at this
  rw [this]
  cases d.o<;>simp [eP]
 have c1:∀ {a b:Nat},a≤b→Nat.ble a b=true:=fun h=>aF h
 have n1:∀ j,K.next≤j→cJ j K.labels=true:=fun j B=>iN fun x hx=>by have:=c x hx;lia
 have n2:∀ (j a b e:Nat),K.next≤j→j ≠ K.next + 2→cJ j (K.labels++[(K.next + 2,a,b,e)])=true:=fun j a b e B g=>iN fun x hx=>by
  rcases uC.mp hx with hx | hx
  · have:=c x hx;lia
  · rw [cv.mp hx];exact fun q=>g q.symm
 have n3:∀ (j a b e s r u:Nat),K.next≤j→j ≠ K.next + 2→j ≠ K.next + 1→cJ j (K.labels++[(K.next + 2,a,b,e)]++[(K.next + 1,s,r,u)])=true:=fun j a b e s r u B g J=>iN fun x hx=>by
  rcases uC.mp hx with hx | hx
  · rcases uC.mp hx with hx | hx
    · have:=c x hx;lia
    · rw [cv.mp hx];exact fun q=>g q.symm
  · rw [cv.mp hx];exact fun q=>J q.symm
 have C:Nat.blt K.next (K.next + 3)=true:=c1 (by lia)
 have b2:Nat.blt (K.next + 1) (K.next + 3)=true:=c1 (by lia)
 have E:Nat.blt (K.next + 2) (K.next + 3)=true:=c1 (by lia)
 have G:cF (Bd P p.lc p.lo)=true:=bB (k.ok.left rfl)
 unfold Sx
 refine cL ?_ (cL ?_ ?_)
 · iterate 23 refine anb (by first
    | exact c1 (by lia)
    | exact c1 (by simp only [ln,Nt];lia)
    | exact C
    | exact b2
    | exact E
    | exact n3 _ _ _ _ _ _ _ (ai _) (by lia) (by lia)
    | exact n2 _ _ _ _ (by lia) (by lia)
    | exact n1 _ (by lia)) ?_
   exact anc
 · cases hb:d.oc.is .l with
   | true=>exact anb (c1 (by lia)) anc
   | false=>exact anc
 · exact anb G (anb (c1 (by lia)) anc)
end
set_option linter.constructorNameAsVariable false
def inO (P:Params) (p:SB) (I:ae8):List Obj:=bO P p I 19 16++[aw 412 (ad I 18),bIn P p I p.g]
def exO (P:Params) (p:SB) (I:ae8):List Obj:=bO P p I 19 16++[aw 438 (ad I 18),Ja P p I p.g]
def vaO (P:Params) (p:SB) (I:ae8):List Obj:=bO P p I 19 16++[aw 464 (ad I 18),LQ P p I]
section
variable {J:WB}
theorem Sc (p:SB) (I:ae8) (c:∀ I O,∀ b∈qf J.p false p I O,b=true) (hk:∀ I,lF J.p (bJ (mX J.p p I) p.o)) (hv:bd p.xs=true) (hn:p.S.n≤600000) (a:∀ I,(dC (bJ (mX J.p p I) p.o)).is .l=false) :
  HRG J 100 (bT p 19 20 I) (tc I 0 (inO J.p p I)++(S5b p).cells J.p)
  (fun e L'=>e=.next∧∃ I' O,I' 0=I 0∧L'=tc I' 0 (inO J.p p I'++EI J.p p I' O)++(mT false p I' O).cells J.p):=by
 have H:=(aq.he (ay _) (KO p.o J p) (UQ p.o _ p) I (fun I' O z=>by
  show (qf J.p false p (ren (nD p.o).kept I') (ren (nD p.o).rt O)).map .hb++[OV.hb (cF (lF J.p (bJ (mX J.p p I') p.o))),.hb (bd p.xs),.hb (Nat.ble p.S.n 600000),.hb ((dC (bJ (mX J.p p I') p.o)).is .l)]=bl (qf J.p false p (ren (nD p.o).kept I') (ren (nD p.o).rt O))++[.hb true,.hb true,.hb true,.hb false]
  rw [dy (c _ _),bB (hk I'),hv,aF hn,a I'])).hr
 refine (show HR _ _ _ (bT p 19 20 I) (tc I 0 (inO J.p p I)++(S5b p).cells J.p) _ from H).mono (ag rfl) <| elA fun I' O' d=>?_
 exact ⟨rfl,ah ((bIf p.o J.p).k + (bIf p.o J.p).q) I',ah (bIf p.o J.p).it O',d 0 (ag rfl),rfl⟩
theorem RU (p:SB) (I:ae8) (c:∀ I O,∀ b∈qf J.p true p I O,b=true) (hk:∀ I,lF J.p (bJ (mX J.p p I) p.o)) (hv:bd p.xs=true) (hn:p.S.n≤600000) (a:∀ I,(dC (bJ (mX J.p p I) p.o)).is .l=true) :
  HRG J 100 (bT p 19 20 I) (tc I 0 (inO J.p p I)++(S5b p).cells J.p)
  (fun e L'=>e=.next∧∃ I' O,I' 0=I 0∧L'=tc I' 0 (inO J.p p I'++EI J.p p I' O++[aO [.str (dq (lfA (bo p.lc) p.lo) (lfA (bo p.rc) p.ro)) (O 53)]])++(mT true p I' O).cells J.p):=by
 have H:=(aq.he (ay _) (F8 p.o J p) (Uc p.o _ p) I (fun I' O z=>by
  show (qf J.p true p (ren (acA p.o).kept I') (ren (acA p.o).rt O)).map .hb++[OV.hb (cF (lF J.p (bJ (mX J.p p I') p.o))),.hb (bd p.xs),.hb (Nat.ble p.S.n 600000),.hb ((dC (bJ (mX J.p p I') p.o)).is .l)]=bl (qf J.p true p (ren (acA p.o).kept I') (ren (acA p.o).rt O))++[.hb true,.hb true,.hb true,.hb true]
  rw [dy (c _ _),bB (hk I'),hv,aF hn,a I'])).hr
 refine (show HR _ _ _ (bT p 19 20 I) (tc I 0 (inO J.p p I)++(S5b p).cells J.p) _ from H).mono (ag rfl) <| elA fun I' O' d=>?_
 exact ⟨rfl,ah ((bIt p.o J.p).k + (bIt p.o J.p).q) I',ah (bIt p.o J.p).it O',d 0 (ag rfl),rfl⟩
theorem YJ (p:SB) (I:ae8) (a:∀ n I O,∀ b∈vQ true p.o p n I O,b=true) :
  HRG J 100 (bT p 19 20 I) (tc I 0 (exO J.p p I)++(S5b p).cells J.p)
  (fun e L'=>e=.next∧∃ I' O,I' 0=I 0∧L'=tc I' 0 (exO J.p p I')++((sxT true p.o p (fun j=>I' (j + 19)) O).neg p.g (.int 7 (p.t 22)) (fl (flt I' 38 1)) (fl (flt O 53 3))).cells J.p):=by
 have H:=(aq.he (ay _) (M0 p.o J p) (WS p.o _ p) I (fun I' O z=>dy (a _ _ _))).hr
 refine (show HR _ _ _ (bT p 19 20 I) (tc I 0 (exO J.p p I)++(S5b p).cells J.p) _ from H).mono (ag rfl) <| elA fun I' O' c=>?_
 exact ⟨rfl,ah ((bX p.o J.p).k + (bX p.o J.p).q) I',ah (bX p.o J.p).it O',c 0 (ag rfl),rfl⟩
theorem Z3 (p:SB) (I:ae8) (a:∀ n I O,∀ b∈vQ false p.o p n I O,b=true) :
  HRG J 100 (bT p 19 20 I) (tc I 0 (vaO J.p p I)++(S5b p).cells J.p)
  (fun e L'=>e=.next∧∃ I' O,I' 0=I 0∧L'=tc I' 0 (vaO J.p p I')++(sxT false p.o p (fun j=>I' (j + 19)) O).cells J.p):=by
 have H:=(aq.he (ay _) (Lx p.o J p) (abc p.o _ p) I (fun I' O z=>dy (a _ _ _))).hr
 refine (show HR _ _ _ (bT p 19 20 I) (tc I 0 (vaO J.p p I)++(S5b p).cells J.p) _ from H).mono (ag rfl) <| elA fun I' O' c=>?_
 exact ⟨rfl,ah ((bV p.o J.p).k + (bV p.o J.p).q) I',ah (bV p.o J.p).it O',c 0 (ag rfl),rfl⟩
theorem xF {P:Params} {p:SB} {d:Dat} (R:cU P p d) (hn:p.S.n≤100) (b:Bool) (n:akt) (I O:ae8):∀ x∈vQ b p.o p n I O,x=true:=by
 have hv:=R.vals
 have c1:∀ {a b:Nat},a≤b→Nat.ble a b=true:=fun h=>aF h
 have e:∀ o a u,sxW b o p a u≤12:=by
  intro o a u
  cases o<;>exact gH _ _ _ _ _ _ _ _ _ hv
 refine exL (sxW b p.o p (fun j=>ren n.kept I (j + 19)) (ren n.rt O)) fun W c=>?_
 have f:W≤12:=by rw [c];exact e _ _ _
 unfold vQ
 rw [← c]
 unfold Xp
 cases g:p.o<;>refine cL ?_ ?_
 · cases b
   · exact anc
   · exact anb (c1 (by lia)) anc
 · repeat (first | exact anc | refine anb (by first | exact hv | exact c1 (by lia) | rfl) ?_)
 · cases b
   · exact anc
   · exact anb (c1 (by lia)) anc
 · repeat (first | exact anc | refine anb (by first | exact hv | exact c1 (by lia) | rfl) ?_)
noncomputable def aa.moreE (S:aa) (E:XL):aa:={ S with xt:=S.xt++E }
theorem lS (P:Params) (S:aa) (E:XL):(S.moreE E).cells P=S.cells P++E:=by
 show _ :: _ :: _ :: _ :: (S.ops++(S.xt++E))=(_ :: _ :: _ :: _ :: (S.ops++S.xt))++E
 rw [← uG];rfl
theorem aX.moreE {P:Params} {S:aa} {l:List PI} {labs:List (Nat × Nat)} {E:XL} (H:aX P S l labs E):aX P (S.moreE E) l labs []:=⟨by show Ops P l S.ops (S.xt++E++[]);rw [au];exact H.ops,H.labs,H.le⟩
end
set_option linter.constructorNameAsVariable false
def p19 (d:Dat):List PI:=match d.wd with
 | .i=>nC d
 | .ni=>nC d
 | _=>vz d
def c8 (d:Dat) (a:Nat):List (Nat × Nat):=match d.wd with
 | .i=>i7 d a
 | .ni=>i7 d a
 | _=>jO d a
theorem DP {P:Params} {p:SB} {S:aa} (h:S.p=p.S.p) (I:ae8) (n m:Nat):bO P { p with S:=S } I n m=bO P p I n m:=by
 have e1:bFr P { p with S:=S } I=bFr P p I:=by unfold bFr;simp only [h]
 have e2:am3 P { p with S:=S } I=am3 P p I:=by unfold am3;simp only [h]
 have e3:Bn P { p with S:=S } I=Bn P p I:=by
  unfold Bn
  rw [e2]
  rfl
 unfold bO bF
 rw [e1,e3]
theorem ZM (p:SB) (N O:ae8):(ksX (skB p) N O).p=p.S.p:=by
 unfold ksX ksS
 split<;>rfl
theorem BP (S:aa) (x:Addr × Obj):(S.add x).p=S.p∧(S.add x).next=S.next:=⟨rfl,rfl⟩
theorem AY (S:aa) (l:Nat) (t u:Tok):(S.lab l t u).p=S.p∧(S.lab l t u).next=S.next:=⟨rfl,rfl⟩
theorem P4 (S:aa) (g:Bool) (v:Value) (a t:ae8):(S.neg g v a t).p=S.p∧(S.neg g v a t).next=S.next:=⟨rfl,rfl⟩
theorem I4 (m:WM) (h:Nat) (b:Tok) (f:Str) (d:Tok) (xs:List Value) (e:Tok) (S:aa) (c:Nat) (a t u:ae8):(v5 m h b f d xs e S c a t u).p=S.p∧(v5 m h b f d xs e S c a t u).next=S.next + 1:=⟨rfl,rfl⟩
theorem Ya (b:Bool) (p:SB) (K:aa) (a u:ae8):(inA b p K a u).p=K.p:=by cases b<;>rfl
theorem XN (b:Bool) (p:SB) (K:aa) (a u:ae8):(inT b p K a u).p=K.p∧(inT b p K a u).next=K.next + 3:=by
 unfold inT ST
 simp only [(P4 _ _ _ _ _).1,(P4 _ _ _ _ _).2,(AY _ _ _ _).1,(AY _ _ _ _).2,(BP _ _).1,(BP _ _).2,Ya,(xB _ _ _ _ _).1,and_self]
theorem Qr (b:Bool) (p:SB) (S:aa) (a u:ae8):(sx0 b p S a u).p=S.p∧(sx0 b p S a u).next=S.next:=by cases b<;>exact ⟨rfl,rfl⟩
theorem Re (b o:Bool) (p:SB) (a u:ae8):(sxT b o p a u).p=p.S.p∧2≤(sxT b o p a u).next:=by
 cases o<;>unfold sxT<;>simp only [(AY _ _ _ _).1,(AY _ _ _ _).2,(BP _ _).1,(BP _ _).2,(I4 _ _ _ _ _ _ _ _ _ _ _ _).1,(I4 _ _ _ _ _ _ _ _ _ _ _ _).2,(Qr _ _ _ _ _).1,(Qr _ _ _ _ _).2]<;>exact ⟨rfl,ag rfl⟩
section
variable {J:WB}
def oY (P:Params) (p:SB) (d:Dat) (l:List PI) (I:ae8) (e:En) (L':XL):Prop:=
 e=.next∧∃ I' S',I' 0=I 0∧aX P S' (l++p19 d) (c8 d l.length) []∧2≤S'.next∧L'=bLs P { p with S:=S' } I' 19 18 S'
theorem Gb (p:SB) (d:Dat) (l:List PI) (I:ae8) (wd:WD) (N:wd=.i∨wd=.ni) (D:p.wd=wd) (R:cU J.p p d) (K:LfV J.p p.lc p.lo d.sx d.nx d.v 0) (P:LfV J.p p.rc p.ro d.sy d.ny .i0 1)
  (H:aX J.p (S5b p) l [(0,l.length)] []) (hl:l.length≤100) :
  HRG J 100 (bT p 19 20 I) (bLs J.p p I 19 18 (S5b p)) (oY J.p p d l I):=by
 have L1:=K.ok
 have Z:=P.ok
 refine exL ({ p with g:=p.wd.g }:SB) fun q hq=>?_
 have z:cU J.p q d:=by rw [hq];exact ⟨R.wd,R.o,R.x,R.y,R.cx,R.cy,R.v,R.xs,R.len⟩
 have f:LfV J.p q.lc q.lo d.sx d.nx d.v 0:=by rw [hq];exact K
 have e:LfV J.p q.rc q.ro d.sy d.ny .i0 1:=by rw [hq];exact P
 have A:aX J.p (S5b q) l [(0,l.length)] []:=by rw [hq];exact H
 have t:q.g=d.wd.g:=by rw [hq,← R.wd]
 have h:p19 d=nC d∧c8 d l.length=i7 d l.length:=by
  have:d.wd=wd:=by rw [← R.wd,D]
  unfold p19 c8
  rw [this]
  rcases N with rfl | rfl<;>exact ⟨rfl,rfl⟩
 have m:∀ I,dC (bJ (mX J.p q I) q.o)=d.oc:=fun I=>by
  show caM ((cg (lfA (bo q.lc) q.lo)).getD .n) ((cg (lfA (bo q.rc) q.ro)).getD .n)=_
  rw [f.ok.nm,e.ok.nm,f.ok.sdv,e.ok.sdv];rfl
 have r:∀ I,lF J.p (bJ (mX J.p q I) q.o):=fun I=>⟨f.ok.leaf,e.ok.leaf,by
  show (cg (lfA (bo q.lc) q.lo)).isSome=true
  rw [f.ok.nm,f.ok.sdv];rfl,by
  show (cg (lfA (bo q.rc) q.ro)).isSome=true
  rw [e.ok.nm,e.ok.sdv];rfl⟩
 have hn:q.S.n≤600000:=by
  have:q.S.n=l.length:=A.n
  lia
 have k:=Ij z f e A hl
 have C:∀ I,bO J.p p I 19 18=inO J.p q I:=fun I=>by
  rw [hq,D]
  obtain ⟨p',rfl⟩:∃ p':SB,p={ p' with wd:=wd }:=⟨p,by rw [← D]⟩
  rcases N with rfl | rfl<;>rfl
 have G:∀ (b:Bool) (I' O:ae8),(mT b q I' O).p=p.S.p∧2≤(mT b q I' O).next:=fun b I' O=>by
  obtain ⟨Y,X⟩:=XN b q (ksX (skB q) (fun j=>I' (j + 5)) O) (fun j=>match j with | 2=>I' 22 | j=>I' (j + 42)) (fun j=>O (j + 54))
  have Q:=ZM q (fun j=>I' (j + 5)) O
  refine ⟨?_,?_⟩
  · show (inT b q (ksX (skB q) (fun j=>I' (j + 5)) O) (fun j=>match j with | 2=>I' 22 | j=>I' (j + 42)) (fun j=>O (j + 54))).p=_
    rw [Y,Q,hq]
  · show 2≤(inT b q (ksX (skB q) (fun j=>I' (j + 5)) O) (fun j=>match j with | 2=>I' 22 | j=>I' (j + 42)) (fun j=>O (j + 54))).next
    rw [X];lia
 have F:bT q 19 20 I=bT p 19 20 I:=by rw [hq];rfl
 have M:tc I 0 (inO J.p q I)++(S5b q).cells J.p=bLs J.p p I 19 18 (S5b p):=by
  unfold bLs
  rw [C,hq];rfl
 cases hb:d.oc.is .l with
 | false=>
  have w:=Sc (J:=J) q I (by rw [hb] at k;exact k) r z.vals hn (fun I=>by rw [m];exact hb)
  rw [F,M] at w
  refine w.post_perm.weak <| elC fun I' O B=>?_
  have T:=BG z f e t A I' O
  rw [hb] at T
  have e1:=G false I' O
  refine exL (qo J.p q (fun j=>I' (j + 5)) O++([]:XL)) fun E u=>?_
  have T:aX J.p (mT false q I' O) (l++nC d) (i7 d l.length) E:=by rw [u];exact T
  generalize mT false q I' O=S1 at T e1 ⊢
  refine ⟨bLs J.p { p with S:=S1.moreE E } I' 19 18 (S1.moreE E),?_,rfl,I',S1.moreE E,B,by rw [h.1,h.2];exact T.moreE,e1.2,rfl⟩
  have e2:tc I' 0 (inO J.p q I'++EI J.p q I' O)=tc I' 0 (inO J.p q I')++qo J.p q (fun j=>I' (j + 5)) O:=rfl
  unfold bLs
  rw [DP (show (S1.moreE E).p=p.S.p from e1.1),C,lS,e2,u,au]
  exact ane (L:=[_,_,_]) (E:=[]) (.a (.a (.l 0) (.l 1)) (.l 2)) (.a (.l 0) (.a (.l 2) (.l 1))) rfl
 | true=>
  have w:=RU (J:=J) q I (by rw [hb] at k;exact k) r z.vals hn (fun I=>by rw [m];exact hb)
  rw [F,M] at w
  refine w.post_perm.weak <| elC fun I' O B=>?_
  have T:=BG z f e t A I' O
  rw [hb] at T
  have e1:=G true I' O
  refine exL (qo J.p q (fun j=>I' (j + 5)) O++[(ad I' 22,aO [.str d.af.s (O 53)])]) fun E u=>?_
  have T:aX J.p (mT true q I' O) (l++nC d) (i7 d l.length) E:=by rw [u];exact T
  generalize mT true q I' O=S1 at T e1 ⊢
  have W:dq (lfA (bo q.lc) q.lo) (lfA (bo q.rc) q.ro)=d.af.s:=by
   show (caF ((cg (lfA (bo q.lc) q.lo)).getD .n) ((cg (lfA (bo q.rc) q.ro)).getD .n)).s=_
   rw [f.ok.nm,e.ok.nm,f.ok.sdv,e.ok.sdv];rfl
  refine ⟨bLs J.p { p with S:=S1.moreE E } I' 19 18 (S1.moreE E),?_,rfl,I',S1.moreE E,B,by rw [h.1,h.2];exact T.moreE,e1.2,rfl⟩
  have e2:tc I' 0 (inO J.p q I'++EI J.p q I' O++[aO [.str d.af.s (O 53)]])=tc I' 0 (inO J.p q I')++(qo J.p q (fun j=>I' (j + 5)) O++[(ad I' 22,aO [.str d.af.s (O 53)])]):=rfl
  unfold bLs
  rw [DP (show (S1.moreE E).p=p.S.p from e1.1),C,lS,W,e2,u]
  exact ane (L:=[_,_,_]) (E:=[_]) (.a (.a (.l 0) (.a (.l 1) (.c 0 .n))) (.l 2)) (.a (.l 0) (.a (.l 2) (.a (.l 1) (.c 0 .n)))) rfl
theorem y3 (p:SB) (d:Dat) (l:List PI) (I:ae8) (wd:WD) (m:wd=.e∨wd=.ne∨wd=.v) (f:p.wd=wd) (R:cU J.p p d)
  (H:aX J.p (S5b p) l [(0,l.length)] []) (hl:l.length≤100) :
  HRG J 100 (bT p 19 20 I) (bLs J.p p I 19 18 (S5b p)) (oY J.p p d l I):=by
 refine exL ({ p with g:=p.wd.g }:SB) fun q hq=>?_
 have c:cU J.p q d:=by rw [hq];exact ⟨R.wd,R.o,R.x,R.y,R.cx,R.cy,R.v,R.xs,R.len⟩
 have w:aX J.p (S5b q) l [(0,l.length)] []:=by rw [hq];exact H
 have r:q.g=d.wd.g:=by rw [hq,← R.wd]
 have b:d.wd=wd:=by rw [← R.wd,f]
 have a:p19 d=vz d∧c8 d l.length=jO d l.length:=by
  unfold p19 c8
  rw [b]
  rcases m with rfl | rfl | rfl<;>exact ⟨rfl,rfl⟩
 have hn:q.S.n≤100:=by
  have:q.S.n=l.length:=w.n
  lia
 have k:q.S.p=p.S.p:=by rw [hq]
 have A:bT q 19 20 I=bT p 19 20 I:=by rw [hq];rfl
 by_cases hv:wd=.v
 · have i:∀ I,bO J.p p I 19 18=vaO J.p q I:=fun I=>by
    rw [hq,f]
    obtain ⟨p',rfl⟩:∃ p':SB,p={ p' with wd:=wd }:=⟨p,by rw [← f]⟩
    subst hv;rfl
   have z:tc I 0 (vaO J.p q I)++(S5b q).cells J.p=bLs J.p p I 19 18 (S5b p):=by
    unfold bLs
    rw [i,hq];rfl
   have h:=Z3 (J:=J) q I (fun n I O=>xF c hn false n I O)
   rw [A,z] at h
   refine h.mono (ai _) <| elC fun I' O u=>?_
   have T:=Bz c w (fun j=>I' (j + 19)) O
   have e1:=Re false q.o q (fun j=>I' (j + 19)) O
   have s:sxB d.wd=false:=by rw [b,hv];rfl
   have C:d.wd.g=false:=by rw [b,hv];rfl
   rw [s,← c.o] at T
   generalize sxT false q.o q (fun j=>I' (j + 19)) O=S1 at T e1 ⊢
   refine ⟨rfl,I',S1,u,?_,e1.2,?_⟩
   · rw [a.1,a.2]
     refine T.cast ?_ rfl
     unfold vz
     rw [C,c.o]
     show _=l++(_++[])
     rw [au]
   · unfold bLs
     rw [DP (e1.1.trans k),i]
 · have i:∀ I,bO J.p p I 19 18=exO J.p q I:=fun I=>by
    rw [hq,f]
    obtain ⟨p',rfl⟩:∃ p':SB,p={ p' with wd:=wd }:=⟨p,by rw [← f]⟩
    rcases m with rfl | rfl | rfl
    · rfl
    · rfl
    · exact absurd rfl hv
   have z:tc I 0 (exO J.p q I)++(S5b q).cells J.p=bLs J.p p I 19 18 (S5b p):=by
    unfold bLs
    rw [i,hq];rfl
   have h:=YJ (J:=J) q I (fun n I O=>xF c hn true n I O)
   rw [A,z] at h
   refine h.mono (ai _) <| elC fun I' O u=>?_
   have T:=Bz c w (fun j=>I' (j + 19)) O
   have e1:=Re true q.o q (fun j=>I' (j + 19)) O
   have s:sxB d.wd=true:=by
    rw [b]
    rcases m with rfl | rfl | rfl
    · rfl
    · rfl
    · exact absurd rfl hv
   rw [s,← c.o] at T
   generalize sxT true q.o q (fun j=>I' (j + 19)) O=S1 at T e1 ⊢
   have B:=T.neg q.g 7 (q.t 22) (fl (flt I' 38 1)) (fl (flt O 53 3))
   refine ⟨rfl,I',S1.neg q.g (.int 7 (q.t 22)) (fl (flt I' 38 1)) (fl (flt O 53 3)),u,?_,e1.2,?_⟩
   · rw [a.1,a.2]
     refine B.cast ?_ rfl
     unfold vz
     rw [r,c.o]
     simp only [uG]
   · unfold bLs
     rw [DP (show (S1.neg q.g (.int 7 (q.t 22)) (fl (flt I' 38 1)) (fl (flt O 53 3))).p=p.S.p from e1.1.trans k),i]
theorem RD (p:SB) (d:Dat) (l:List PI) (I:ae8) (R:cU J.p p d) (b:LfV J.p p.lc p.lo d.sx d.nx d.v 0) (c:LfV J.p p.rc p.ro d.sy d.ny .i0 1)
  (H:aX J.p (S5b p) l [(0,l.length)] []) (hl:l.length≤100) :
  HRG J 100 (bT p 19 20 I) (bLs J.p p I 19 18 (S5b p)) (oY J.p p d l I):=by
 cases a:p.wd with
 | i=>exact Gb p d l I .i (.inl rfl) a R b c H hl
 | ni=>exact Gb p d l I .ni (.inr rfl) a R b c H hl
 | e=>exact y3 p d l I .e (.inl rfl) a R H hl
 | ne=>exact y3 p d l I .ne (.inr (.inl rfl)) a R H hl
 | v=>exact y3 p d l I .v (.inr (.inr rfl)) a R H hl
end
def abQ (v:Bool × Bool) (J:WB):List (SG J):=smS ((isR 154 1,abd J) :: LLp J:CL J)
noncomputable def WN (v:Bool × Bool):List Nat:=match v.1 with | false=>(match v.2 with | false=>[7,6,0,2,3] | true=>[7,900000,0,2,3]) | true=>[6,900000,0,2,3]
noncomputable def Xe (v:Bool × Bool):List Nat:=match v.1 with | false=>(match v.2 with | false=>(by walk_at "#oij3hL+") | true=>(by walk_at "#oij3mU+")) | true=>adB
def bH (v:Bool × Bool) (P:Params):aq SB:=akt.spec ((⟨19,2,0,5,62,137,false,(by walk_at "#h3&`7"),WN v,Xe v⟩:akt) ) (fun p I=>bT p 20 24 I) (fun p I=>bO P (p.at5 v) I 19 18) (fun p=>some p.S) (fun p I O=>.next) (fun p I O=>bO P (LF v p O) I 20 18) (fun p I O=>some (iI ((Dm p (ad I 19) O).add (ad I 20,cG (O 4))))) (fun p I O=>(Oa P p I (V1 O [0,0,0,2])).map .hb) (fun p I O=>bl (Oa P p I O))
theorem LL (v:Bool × Bool) (J:WB) (p:SB):(bH v J.p).Runs J.w J.t (abQ v J) p:=amM (amJ.pr amJ) (fun v J=>bH v J.p) (fun v J=>abQ v J) v J p
def ab8 (v:VK × VK) (x:V8) (J:WB):List (SG J):=smS ([(isR 1152 5,Ru v.2 x J)]:CL J)
noncomputable def W8 (v:VK × VK):List Nat:=match v.2 with | .n=>[900000,2,1] | .i | .s=>[0,2,1]
def bD (v:VK × VK) (x:V8) (P:Params):aq SB:=akt.spec ((⟨19,1,1,3,22,90,false,adG,W8 v,(by walk_at "#eqn[fyl6LoNeOoNeOoNL`Re-")⟩:akt) ) (fun p I=>bT p 24 25 I) (fun p I=>bO P (p.at v.1) I 20 18) (fun p=>some p.S) (fun p I O=>.next) (fun p I O=>bO P (ZD v x p O) I 22 19) (fun p I O=>some p.S) (fun p I O=>(NC v x p).map .hb) (fun p I O=>bl (NC v x p))
theorem Wd (v:VK × VK) (x:V8) (P:Params) (p:SB):(bD v x P).Ok p:=tT
theorem Oi (v:VK × VK) (x:V8) (J:WB) (p:SB):(bD v x J.p).Runs J.w J.t (ab8 v x J) p:=amK (eVK.pr eVK) (fun v J=>bD v x J.p) (fun v J=>ab8 v x J) v J p
def abF (o:Bool) (z:List Ins × AS) (J:WB):List (SG J):=smS ([(isR 1133 2,Xx z J),(isB "dict.get",MT _ _ (CX o))]:CL J)
def bR (o:Bool) (z:List Ins × AS) (P:Params):aq SB:=akt.spec ((⟨20,0,0,65,15,83,false,adG,(by walk_at "#UeA]f1f=g]meh<i`j5hMh%"),(by walk_at "#ej/.dXhx5fJ&$gW$l/.&4")⟩:akt) ) (fun p I=>bT p 25 26 I) (fun p I=>bO P { p with o:=o,es:=[],he:=0 } I 22 19) (fun p=>some p.S) (fun p I O=>.next) (fun p I O=>bO P { p with o:=o,es:=d7 z.2.held (fl (flt O 1 64)) 0,he:=O 0 } I 22 19) (fun p I O=>some p.S) (fun p I O=>(NQ P o z p O).map .hb) (fun p I O=>bl (NQ P o z p O))
theorem Oh (o:Bool) (z:List Ins × AS) (J:WB) (p:SB):(bR o z J.p).Runs J.w J.t (abF o z J) p:=amK amJ (fun o J=>bR o z J.p) (fun o J=>abF o z J) o J p
set_option linter.constructorNameAsVariable false
noncomputable def atB (n:Nat):List (Nat × Nat)→Bool
 | []=>true
 | x :: l=>match l with
  | []=>Nat.beq x.2 n
  | _=>!(Nat.beq x.2 n) && atB n l
theorem Jy {n:Nat}:∀ {l:List (Nat × Nat)},atB n l=true→∀ (j:Nat) (x:Nat × Nat),l[j]? = some x→(x.2=n ↔ j + 1=l.length)
 | [],_,j,x,h=>by cases h
 | [y],h,j,x,hx=>by
  have a:y.2=n:=alJ (dG _ _ ▸ h:decide (y.2=n)=true)
  cases j with
  | zero=>
   cases hx
   exact ⟨fun Z=>rfl,fun Z=>a⟩
  | succ j=>cases hx
 | y :: z :: l,h,j,x,hx=>by
  have h:(!(Nat.beq y.2 n) && atB n (z :: l))=true:=h
  obtain ⟨a,b⟩:=iR.mp h
  have a:¬ y.2=n:=by
   rw [dG] at a
   simpa using a
  cases j with
  | zero=>
   cases hx
   exact ⟨fun e=>absurd e a,fun e=>by cases e⟩
  | succ j=>
   have:=Jy b j x hx
   rw [this]
   show j + 1=l.length + 1 ↔ j + 1 + 1=l.length + 1 + 1
   lia
noncomputable def Jm (labs:List (Nat × Nat)) (x:PI):Bool:=match x.lab with
 | none=>true
 | some j=>labs.any fun y=>Nat.beq y.1 j
def nu (l:List PI) (labs:List (Nat × Nat)):Bool:=Nat.ble l.length 900 && ((Nat.beq labs.length 3 || Nat.beq labs.length 4 || Nat.beq labs.length 6 || Nat.beq labs.length 7) && (ndB (labs.map (·.1)) && (atB l.length labs && l.all (Jm labs))))
theorem gK {a b:Nat} (h:Nat.beq a b=true):a=b:=alJ (dG a b ▸ h:decide (a=b)=true)
section
variable {P:Params} {S:aa} {l:List PI} {labs:List (Nat × Nat)}
theorem BH (h:l.all (Jm labs)=true):∀ x∈l,∀ j,x.lab=some j→j∈labs.map (·.1):=by
 intro x c j a
 have:=Gt.mp h x c
 unfold Jm at this
 rw [a] at this
 obtain ⟨y,b,e⟩:=List.any_eq_true.mp this
 exact kw.mpr ⟨y,b,gK e⟩
theorem LO (H:aX P S l labs []) (d:∃ (g:XL) (i:Nat) (t:Nat→Tok) (a b c:Int) (v:Value),S.ops=g++[(i,row J23 (t 10) (.int a (t 11)) (.int b (t 12)) (.int c (t 13)) v)]) (e:nu l labs=true):iM P S:=by
 obtain ⟨c1,e⟩:=iR.mp e
 obtain ⟨c2,e⟩:=iR.mp e
 obtain ⟨k,e⟩:=iR.mp e
 obtain ⟨c4,o⟩:=iR.mp e
 have q:=ag c1
 have f:S.labels.length=labs.length:=by rw [← H.labs,zt]
 have hnd:(S.labels.map (·.1)).Nodup:=by
  have:=gE k
  rw [← H.labs,alu] at this
  exact this
 refine ⟨d,?_,H.le,r8 S.labels hnd,fun j x p=>?_,by rw [H.n];lia,(sq H (BH o) (by lia) 0 0).2⟩
 · rw [f]
   simp only [Bool.or_eq_true] at c2
   rcases c2 with ((h | h) | h) | h
   · exact .inl (gK h)
   · exact .inr (.inl (gK h))
   · exact .inr (.inr (.inl (gK h)))
   · exact .inr (.inr (.inr (gK h)))
 · have m:labs[j]? = some (x.1,x.2.2.1):=by rw [← H.labs,List.getElem?_map,p];rfl
   have:=Jy c4 j _ m
   rw [f,H.n]
   exact this
end
noncomputable def wu (d:Dat):List PI:=[.op (.value 1 d.v.mv),.op (.value 4 (.i 0)),.gosub 3 0,.op (.copy 7 5),.gosub 3 0,.op (.copy 7 6),.goto 1]
def jG (d:Dat):List PI:=wu d++p19 d++[.op (.ret 3)]
def dQ (d:Dat):List (Nat × Nat):=c8 d 7++[(1,(wu d++p19 d).length + 1)]
def iH (d:Dat):List Ins:=(jG d).map (PI.res (mV (dQ d)))++[.halt]
theorem R8 {P:Params} {p:SB} {l:List PI} {labs:List (Nat × Nat)} (H:aX P p.S l labs []) (a:Nat) (O:ae8):aX P (Dm p a O) (l++[.op (.ret 3)]) (labs++[(1,l.length + 1)]) []:=by
 have q:=(H.add (Xd P a (O 2) (p.t 12) 370 371 3 0 0)).lab 1 (p.t 16) (O 3)
 rw [ln] at q
 exact q
theorem vU (sd:SD) (u:Tok):(bVK sd.nm).as (sd.v u)=sd.v u:=by cases sd<;>rfl
theorem cU.at5 {P:Params} {p:SB} {d:Dat} (R:cU P p d):p.at5 (d.sx.nm,d.sy.nm)=p:=by
 obtain ⟨u,b⟩:=R.x
 obtain ⟨c,a⟩:=R.y
 have e1:(bVK d.sx.nm).as p.x=p.x:=by rw [b];exact vU _ _
 have e2:(bVK d.sy.nm).as p.y=p.y:=by rw [a];exact vU _ _
 unfold SB.at5
 simp only [e1,e2]
noncomputable def v8k:V8→VK
 | .n=>.n
 | .i0=>.i
 | .i1=>.i
 | .i2=>.i
 | _=>.s
theorem qD (x:V8) (u:Tok):(v8k x).as (x.v u)=x.v u:=by cases x<;>rfl
theorem cU.at {P:Params} {p:SB} {d:Dat} (R:cU P p d):p.at (v8k d.v)=p:=by
 obtain ⟨u,hv⟩:=R.v
 have e1:(v8k d.v).as p.v=p.v:=by rw [hv];exact qD _ _
 unfold SB.at
 simp only [e1]
section
variable {J:WB}
theorem aam (v:Bool × Bool) (p:SB) (I:ae8) (b:∀ a O,iM J.p (Dm p a O)) (g:2≤p.S.next) (d:cJ 1 p.S.labels=true) (h:p.S.n≤1000) (f:p.S.labels.length≤1000) :
  HRG J 100 (bT p 20 24 I) (bLs J.p (p.at5 v) I 19 18 p.S)
  (fun e L'=>e=.next∧∃ I' O,I' 0=I 0∧L'=bLs J.p (LF v p O) I' 20 18 (iI ((Dm p (ad I' 19) O).add (ad I' 20,cG (O 4))))):=by
 have H:=(aq.he (ay _) (LL v J p) (by intros;exact tT) I (fun I' O z=>dy (l:=Oa J.p p I' (V1 O [0,0,0,2])) (by
  unfold Oa
  refine anb ?_ (anb ?_ (anb ?_ (anb ?_ (anb ?_ (anb ?_ anc)))))
  · exact bB (b _ _)
  · exact aF (by lia)
  · exact d
  · exact aF (by lia)
  · exact aF (by lia)
  · exact aF (by lia)))).hr
 refine (show HR _ _ _ (bT p 20 24 I) (bLs J.p (p.at5 v) I 19 18 p.S) _ from H).mono (ag rfl) <| elA fun I' O' c=>?_
 exact ⟨rfl,ah ((bH v J.p).k + (bH v J.p).q) I',ah (bH v J.p).it O',c 0 (ag rfl),rfl⟩
theorem TC (p:SB) (d:Dat) (I:ae8) (R:cU J.p p d) (T:aX J.p p.S (wu d++p19 d) (c8 d 7) []) (i:2≤p.S.next) (b:nu (jG d) (dQ d)=true) :
  HRG J 100 (bT p 20 24 I) (bLs J.p p I 19 18 p.S)
  (fun e L'=>e=.next∧∃ I' p',I' 0=I 0∧p'.r=p.r∧cU J.p p' d∧p'.co=aA d.nc∧kL J.p p'.S (iH d)∧L'=bLs J.p p' I' 20 18 p'.S):=by
 have g:=b
 obtain ⟨c1,b⟩:=iR.mp b
 obtain ⟨c2,b⟩:=iR.mp b
 obtain ⟨w,b⟩:=iR.mp b
 obtain ⟨c4,A⟩:=iR.mp b
 have D:=ag c1
 have j:=fun a O=>R8 T a O
 have q:(jG d).length=(wu d++p19 d).length + 1:=by unfold jG;rw [ln];rfl
 have hnd:=gE w
 have f:cJ 1 p.S.labels=true:=iN fun x C e=>by
  have z:(1:Nat)∈(c8 d 7).map (·.1):=by
   rw [← T.labs,alu]
   exact kw.mpr ⟨x,C,e⟩
  unfold dQ at hnd
  rw [eQ,Ha] at hnd
  exact hnd.2.2 1 z 1 (cv.mpr rfl) rfl
 have s:p.S.labels.length≤7:=by
  have e1:p.S.labels.length=(c8 d 7).length:=by rw [← T.labs,zt]
  have e2:(dQ d).length=(c8 d 7).length + 1:=by unfold dQ;rw [ln];rfl
  simp only [Bool.or_eq_true] at c2
  rcases c2 with ((h | h) | h) | h<;>(have:=gK h;lia)
 have hn:=T.n
 have k:=aam (J:=J) (d.sx.nm,d.sy.nm) p I (fun a O=>LO (j a O) ⟨p.S.ops,a,mkT (O 2) (p.t 12) 370 371 0,3,0,0,.none,rfl⟩ g) i f (by lia) (by lia)
 rw [R.at5] at k
 refine k.mono (ai _) <| elC fun I' O B=>?_
 obtain ⟨S',c⟩:∃ S',S'=iI ((Dm p (ad I' 19) O).add (ad I' 20,cG (O 4))):=⟨_,rfl⟩
 have hv:kL J.p S' (iH d):=by rw [c];exact (sq (j (ad I' 19) O) (BH A) (by show (jG d).length≤999;lia) (ad I' 20) (O 4)).1
 have m:S'.p=p.S.p:=by rw [c];rfl
 rw [← c]
 refine ⟨rfl,I',{ LF (d.sx.nm,d.sy.nm) p O with S:=S' },B,rfl,?_,?_,hv,?_⟩
 · refine ⟨R.wd,R.o,?_,?_,R.cx,R.cy,R.v,R.xs,R.len⟩
   · show ∃ u,(p.at5 (d.sx.nm,d.sy.nm)).x=_
     rw [R.at5];exact R.x
   · show ∃ u,(p.at5 (d.sx.nm,d.sy.nm)).y=_
     rw [R.at5];exact R.y
 · show (match d.sx.nm,d.sy.nm with | true,_=>p.cx | false,true=>p.cy | false,false=>sv J30)=aA (FJ d.sx d.sy d.nx d.ny)
   unfold FJ
   rw [R.cx,R.cy]
   cases d.sx.nm with
   | true=>rfl
   | false=>cases d.sy.nm<;>rfl
 · unfold bLs
   rw [DP (show S'.p=(LF (d.sx.nm,d.sy.nm) p O).S.p from m)]
end
set_option linter.constructorNameAsVariable false
inductive MW where
 | x (v:V8) | i (n:Int)
def MW.mv:MW→MV
 | .x v=>v.mv
 | .i n=>.i n
def MW.isN:MW→Bool
 | .x v=>nI v
 | .i _=>false
inductive IW where
 | v (b:Int) (w:MW) | o (x:PI)
def IW.pi:IW→PI
 | .v b w=>.op (.value b w.mv)
 | .o x=>x
structure BS where
 pc:Nat
 held:List (Int × MW)
 set:Option (Bool × List V8)
 done:List Int
noncomputable def ol (k:Int):List (Int × MW)→Option MW
 | []=>none
 | (i,v) :: m=>match PySem.W.Z.eqB i k with
  | true=>some v
  | false=>ol k m
noncomputable def xA (k:Int) (v:MW):List (Int × MW)→List (Int × MW)
 | []=>[(k,v)]
 | (i,x) :: m=>match PySem.W.Z.eqB i k with
  | true=>(i,v) :: m
  | false=>(i,x) :: xA k v m
def j0 (k:Int) (m:List (Int × MW)):MW:=(ol k m).getD (.x .n)
abbrev Rp:=Option (BS × List Bool × List (Bool × Bool))
def BS.put (s:BS) (k:Int) (v:MW) (or:List Bool):Rp:=some ({ s with pc:=s.pc + 1,held:=xA k v s.held },or,[])
noncomputable def BS.jump (s:BS) (c:Bool) (b:Nat):BS:=match c with
 | true=>{ s with pc:=b }
 | false=>{ s with pc:=s.pc + 1 }
def BS.opW (s:BS) (i:Ins) (or:List Bool):Rp:=match i with
 | .null b=>s.put b (.x .n) or
 | .copy a b=>s.put b (j0 a s.held) or
 | .addi a b=>(match (ol a s.held).getD (.i 0) with
  | .i n=>s.put a (.i (n + b)) or
  | .x _=>none)
 | .aff a f=>(match j0 a s.held with
  | .x v=>s.put a (.x (wy f v)) or
  | .i _=>none)
 | .mkr a c=>s.put c (j0 a s.held) or
 | .opn nc=>some ({ s with pc:=s.pc + 1,set:=some (nc,[]) },or,[])
 | .idx b=>(match s.set with
  | some p=>(match j0 b s.held with
   | .x v=>some ({ s with pc:=s.pc + 1,set:=some (p.1,p.2++[v]) },or,[])
   | .i _=>none)
  | none=>none)
 | .una a b=>(match ol a s.held with
  | some w=>(match w with
   | .i n=>s.put b (.i (1 - n)) or
   | .x v=>(match v with
    | .n=>s.put b (.x .n) or
    | _=>none))
  | none=>none)
 | .ret a=>(match ol a s.held with
  | some w=>(match w with
   | .i n=>(match n with
    | .ofNat k=>some ({ s with pc:=k },or,[])
    | .negSucc _=>none)
   | .x _=>none)
  | none=>none)
 | _=>none
def BS.step (d:ae8) (s:BS) (i:IW) (or:List Bool):Rp:=match i with
 | .v b w=>s.put b w or
 | .o x=>match x with
  | .op i=>s.opW i or
  | .once a l=>some ({ s.jump (kO a s.done) (d l) with done:=nZ a s.done },or,[])
  | .isn a l=>(match or with
   | []=>none
   | b :: or=>some (s.jump b (d l),or,[((j0 a s.held).isN,b)]))
  | .rew l=>(match s.set with
   | some p=>(match p.2 with
    | []=>some ({ s with pc:=d l },or,[])
    | _=>some ({ s with pc:=s.pc + 1 },or,[]))
   | none=>none)
  | .fnd l c=>(match s.set with
   | some p=>(match j0 c s.held with
    | .x k=>(match Nat.ble p.2.length 3 with
     | true=>(match or with
      | []=>none
      | b :: or=>some (s.jump b (d l),or,[(fndA p.1 k p.2,b)]))
     | false=>none)
    | .i _=>none)
   | none=>none)
  | .goto l=>some ({ s with pc:=d l },or,[])
  | .gosub a l=>some ({ s with pc:=d l,held:=xA a (.i (Int.ofNat (s.pc + 1))) s.held },or,[])
noncomputable abbrev anA:=Option (BS × List (Bool × Bool))
def BS.runB (o:Rp) (a:List (Bool × Bool)) (k:BS→List Bool→List (Bool × Bool)→anA):anA:=match o with
 | none=>none
 | some r=>k r.1 r.2.1 (a++r.2.2)
def BS.runA (c:ae8) (x:Option IW) (b:Bool) (s:BS) (or:List Bool) (a:List (Bool × Bool)) (k:BS→List Bool→List (Bool × Bool)→anA):anA:=match x with
 | none=>(match b with
  | true=>some (s,a)
  | false=>none)
 | some i=>BS.runB (s.step c i or) a k
def BS.run (a:ae8) (pr:List IW):Nat→BS→List Bool→List (Bool × Bool)→anA
 | 0,_,_,_=>none
 | n + 1,s,or,ob=>BS.runA a pr[s.pc]? (Nat.beq s.pc pr.length) s or ob (BS.run a pr n)
noncomputable def da (m:List (Int × MW)):List (Int × MV):=m.map fun x=>(x.1,x.2.mv)
def BS.as (s:BS):AS:=⟨s.pc,da s.held,s.set,s.done⟩
theorem iJ (k:Int):∀ m:List (Int × MW),fJ k (da m)=(ol k m).map MW.mv
 | []=>rfl
 | (i,v) :: m=>by
  show (match PySem.W.Z.eqB i k with | true=>some v.mv | false=>fJ k (da m))=Option.map MW.mv (match PySem.W.Z.eqB i k with | true=>some v | false=>ol k m)
  rw [iJ k m]
  cases PySem.W.Z.eqB i k<;>rfl
theorem oh (k:Int) (w:MW):∀ m:List (Int × MW),jz k w.mv (da m)=da (xA k w m)
 | []=>rfl
 | (i,v) :: m=>by
  show (match PySem.W.Z.eqB i k with | true=>(i,w.mv) :: da m | false=>(i,v.mv) :: jz k w.mv (da m))=da (match PySem.W.Z.eqB i k with | true=>(i,w) :: m | false=>(i,v) :: xA k w m)
  rw [oh k w m]
  cases PySem.W.Z.eqB i k<;>rfl
theorem dA (k:Int) (m:List (Int × MW)):cN k (da m)=(j0 k m).mv:=by
 unfold cN j0
 rw [iJ]
 cases ol k m<;>rfl
theorem Ge (v:V8):v.mv.v8=some v:=by cases v<;>rfl
theorem TR (v:V8) (f:AF):qc v f=(wy f v).mv:=by cases f<;>cases v<;>rfl
theorem TS (w:MW):(match w.mv with | .n=>true | _=>false)=w.isN:=by
 cases w with
 | x v=>cases v<;>rfl
 | i n=>rfl
theorem Bp (s:BS) (c:Bool) (b:Nat):(s.jump c b).as=s.as.jump c b:=by cases c<;>rfl
theorem Kh (s:BS) (k:Int) (w:MW):(({ s with pc:=s.pc + 1,held:=xA k w s.held }:BS)).as=s.as.put k w.mv:=by
 show (⟨s.pc + 1,da (xA k w s.held),s.set,s.done⟩:AS)=⟨s.pc + 1,jz k w.mv (da s.held),s.set,s.done⟩
 rw [oh]
theorem Lp {s:BS} {i:Ins} {or:List Bool} {r:BS × List Bool × List (Bool × Bool)} (h:s.opW i or=some r):s.as.step i=some r.1.as:=by
 have put:∀ {k:Int} {w:MW},s.put k w or=some r→some (s.as.put k w.mv)=some r.1.as:=by
  intro k w h
  cases h
  exact congrArg some (Kh s k w).symm
 cases i with
 | null b=>exact put h
 | copy a b=>
  show some (s.as.put b (cN a (da s.held)))=_
  rw [dA];exact put h
 | addi a b=>
  show (match (fJ a (da s.held)).getD (.i 0) with | .i x=>some (s.as.put a (.i (x + b))) | _=>none)=_
  rw [iJ]
  delta BS.opW at h
  dsimp only at h
  cases d:ol a s.held with
  | none=>rw [d] at h;exact put h
  | some w=>
   rw [d] at h
   cases w with
   | x v=>cases h
   | i n=>exact put h
 | aff a f=>
  show (match (cN a (da s.held)).v8 with | some x=>some (s.as.put a (qc x f)) | none=>none)=_
  rw [dA]
  delta BS.opW at h
  dsimp only at h
  cases d:j0 a s.held with
  | x v=>
   rw [d] at h
   show (match v.mv.v8 with | some x=>some (s.as.put a (qc x f)) | none=>none)=_
   rw [Ge]
   show some (s.as.put a (qc v f))=_
   rw [TR]
   exact put h
  | i n=>rw [d] at h;cases h
 | mkr a c=>
  show some (s.as.put c (cN a (da s.held)))=_
  rw [dA];exact put h
 | opn nc=>cases h;rfl
 | idx b=>
  delta BS.opW at h
  dsimp only at h
  cases e:s.set with
  | none=>rw [e] at h;cases h
  | some p=>
   rw [e] at h
   cases d:j0 b s.held with
   | i n=>rw [d] at h;cases h
   | x v=>
    rw [d] at h
    cases h
    show (match s.set,(cN b (da s.held)).v8 with | some (nc,xs),some x=>some { s.as.next with set:=some (nc,xs++[x]) } | _,_=>none)=_
    rw [dA,e,d]
    show (match some p,v.mv.v8 with | some (nc,xs),some x=>some { s.as.next with set:=some (nc,xs++[x]) } | _,_=>none)=_
    rw [Ge];rfl
 | una a b=>
  delta BS.opW at h
  dsimp only at h
  show (match fJ a (da s.held) with | some (.i x)=>some (s.as.put b (.i (1 - x))) | some (.s _)=>none | _=>some (s.as.put b .n))=_
  rw [iJ]
  cases d:ol a s.held with
  | none=>rw [d] at h;cases h
  | some w=>
   rw [d] at h
   cases w with
   | i n=>exact put h
   | x v=>cases v<;>first | exact put h | cases h
 | ret a=>
  delta BS.opW at h
  dsimp only at h
  show (match fJ a (da s.held) with | some (.i (.ofNat x))=>some (s.as.to x) | _=>none)=_
  rw [iJ]
  cases d:ol a s.held with
  | none=>rw [d] at h;cases h
  | some w=>
   rw [d] at h
   cases w with
   | x v=>cases h
   | i n=>
    cases n with
    | ofNat k=>cases h;rfl
    | negSucc k=>cases h
 | _=>cases h
theorem zq {d:ae8} {s:BS} {i:IW} {or:List Bool} {r:BS × List Bool × List (Bool × Bool)} (h:s.step d i or=some r) (g:∀ p∈r.2.2,p.1=p.2):s.as.step (i.pi.res d)=some r.1.as:=by
 cases i with
 | v b w=>
  cases h
  exact congrArg some (Kh s b w).symm
 | o x=>
  cases x with
  | op i=>exact Lp h
  | once a l=>
   cases h
   show some { s.as.jump (kO a s.done) (d l) with done:=nZ a s.done }=_
   cases kO a s.done<;>rfl
  | isn a l=>
   delta BS.step at h
   dsimp only at h
   cases or with
   | nil=>cases h
   | cons b or=>
    cases h
    have hb:(j0 a s.held).isN=b:=g _ (cv.mpr rfl)
    show some (s.as.jump (match cN a (da s.held) with | .n=>true | _=>false) (d l))=_
    rw [dA,TS,hb]
    exact congrArg some (Bp s b (d l)).symm
  | rew l=>
   delta BS.step at h
   dsimp only at h
   cases e:s.set with
   | none=>rw [e] at h;cases h
   | some p=>
    obtain ⟨nc,xs⟩:=p
    rw [e] at h
    show (match s.set with | some (_,[])=>some (s.as.to (d l)) | some (_,_)=>some s.as.next | none=>none)=_
    rw [e]
    cases xs with
    | nil=>
     cases h
     show some (⟨d l,da s.held,s.set,s.done⟩:AS)=some ⟨d l,da s.held,some (nc,[]),s.done⟩
     rw [e]
    | cons x xs=>
     cases h
     show some (⟨s.pc + 1,da s.held,s.set,s.done⟩:AS)=some ⟨s.pc + 1,da s.held,some (nc,x :: xs),s.done⟩
     rw [e]
  | fnd l c=>
   delta BS.step at h
   dsimp only at h
   cases e:s.set with
   | none=>rw [e] at h;cases h
   | some p=>
    obtain ⟨nc,xs⟩:=p
    rw [e] at h
    cases f:j0 c s.held with
    | i n=>rw [f] at h;cases h
    | x k=>
     rw [f] at h
     cases hl:Nat.ble xs.length 3 with
     | false=>simp only [hl] at h;cases h
     | true=>
      simp only [hl] at h
      cases or with
      | nil=>cases h
      | cons b or=>
       cases h
       have hb:fndA nc k xs=b:=g _ (cv.mpr rfl)
       show (match s.set,(cN c (da s.held)).v8 with | some (nc,xs),some k=>(match Nat.ble xs.length 3 with | true=>some (s.as.jump (fndA nc k xs) (d l)) | false=>none) | _,_=>none)=_
       rw [dA,e,f]
       show (match some (nc,xs),k.mv.v8 with | some (nc,xs),some k=>(match Nat.ble xs.length 3 with | true=>some (s.as.jump (fndA nc k xs) (d l)) | false=>none) | _,_=>none)=_
       rw [Ge]
       simp only [hl,hb]
       exact congrArg some (Bp s b (d l)).symm
  | goto l=>cases h;rfl
  | gosub a l=>
   cases h
   show some { s.as.to (d l) with held:=jz a (.i (Int.ofNat (s.pc + 1))) (da s.held) }=some (⟨d l,da (xA a (.i (Int.ofNat (s.pc + 1))) s.held),s.set,s.done⟩:AS)
   rw [← oh];rfl
theorem BW (a:ae8) (pr:List IW):∀ (n:Nat) (s:BS) (or:List Bool) (b:List (Bool × Bool)) (r:BS × List (Bool × Bool)),BS.run a pr n s or b=some r→∀ p∈b,p∈r.2
 | 0,s,or,b,r,h=>by cases h
 | n + 1,s,or,b,r,h=>by
  change BS.runA a pr[s.pc]? (Nat.beq s.pc pr.length) s or b (BS.run a pr n)=some r at h
  cases d:pr[s.pc]? with
  | none=>cases hb:Nat.beq s.pc pr.length with
   | true=>rw [d,hb] at h;cases h;exact fun p c=>c
   | false=>rw [d,hb] at h;cases h
  | some i=>
   rw [d] at h
   change BS.runB (s.step a i or) b (BS.run a pr n)=some r at h
   cases hq:s.step a i or with
   | none=>rw [hq] at h;cases h
   | some q=>
    rw [hq] at h
    exact fun p c=>BW a pr n q.1 q.2.1 (b++q.2.2) r h p (uj _ c)
theorem rf (a:ae8) (pr:List IW):∀ (n:Nat) (s:BS) (or:List Bool) (c:List (Bool × Bool)) (r:BS × List (Bool × Bool)),BS.run a pr n s or c=some r→(∀ p∈r.2,p.1=p.2)→AS.run ((pr.map IW.pi).map (PI.res a)++[.halt]) n s.as=some r.1.as
 | 0,s,or,c,r,h,_=>by cases h
 | n + 1,s,or,c,r,h,ho=>by
  have b:((pr.map IW.pi).map (PI.res a)).length=pr.length:=by rw [zt,zt]
  change BS.runA a pr[s.pc]? (Nat.beq s.pc pr.length) s or c (BS.run a pr n)=some r at h
  show AS.runA (((pr.map IW.pi).map (PI.res a)++[.halt])[s.pc]?) s.as (AS.run _ n)=some r.1.as
  cases d:pr[s.pc]? with
  | none=>cases hb:Nat.beq s.pc pr.length with
   | false=>rw [d,hb] at h;cases h
   | true=>
    rw [d,hb] at h
    cases h
    rw [gK hb,← b,List.getElem?_append_right (ai _),Nat.sub_self]
    rfl
  | some i=>
   rw [d] at h
   change BS.runB (s.step a i or) c (BS.run a pr n)=some r at h
   cases hq:s.step a i or with
   | none=>rw [hq] at h;cases h
   | some q=>
    rw [hq] at h
    change BS.run a pr n q.1 q.2.1 (c++q.2.2)=some r at h
    have e:s.pc < pr.length:=(List.getElem?_eq_some_iff.mp d).1
    have e2:=zq hq (fun p f=>ho p (BW a pr n _ _ _ r h p (u9 _ f)))
    rw [List.getElem?_append_left (by rw [b];exact e),List.getElem?_map,List.getElem?_map,d]
    show AS.runC (i.pi.res a).halts s.as (s.as.step (i.pi.res a)) (AS.run _ n)=_
    cases g:(i.pi.res a).halts with
    | true=>rw [Ins.halt_of g] at e2;cases e2
    | false=>rw [e2];exact rf a pr n _ _ _ r h ho
set_option linter.constructorNameAsVariable false
structure DW where
 g:Bool
 o:Bool
 oc:CA
 f:AF
 nm:Bool
 nc:Bool
 v:V8
 vs:List V8
def Dat.dw (d:Dat):DW:=⟨d.wd.g,d.o,d.oc,d.af,d.sx.nm,d.nc,d.v,d.vs⟩
def anD (m:WM) (h c:Nat) (f:AF) (r:Nat) (v:V8):List IW:=match m with
 | .reg=>[.v (Int.ofNat r) (.x v),.o (.op (.copy (Int.ofNat r) (Int.ofNat h))),.o (.goto c)]
 | .exi=>[.v (Int.ofNat r) (.x v),.v (Int.ofNat h) (.i 1)]
 | .set=>[.v (Int.ofNat r) (.x v),.o (.op (.mkr (Int.ofNat r) (Int.ofNat (r + 1)))),.o (.op (.idx (Int.ofNat (r + 1))))]
 | .led=>[.v (Int.ofNat r) (.x v),.o (.op (.aff (Int.ofNat r) f)),.o (.op (.mkr (Int.ofNat r) (Int.ofNat (r + 1)))),.o (.op (.idx (Int.ofNat (r + 1))))]
noncomputable def wrW (m:WM) (h c:Nat) (f:AF):Nat→List V8→List IW
 | _,[]=>[]
 | r,v :: vs=>anD m h c f r v++wrW m h c f (r + 2) vs
theorem o6 (m:WM) (h c:Nat) (f:AF):∀ (vs:List V8) (r:Nat),(wrW m h c f r vs).map IW.pi=i9 m h c f r vs
 | [],_=>rfl
 | v :: vs,r=>by
  show (anD m h c f r v++wrW m h c f (r + 2) vs).map IW.pi=anC m h c f r v++i9 m h c f (r + 2) vs
  rw [eQ,o6 m h c f vs (r + 2)]
  cases m<;>rfl
noncomputable def lfW (nm:Bool) (R:Nat) (v:V8):IW:=match nm with
 | true=>.o (.op (.copy 1 (Int.ofNat R)))
 | false=>.v (Int.ofNat R) (.x v)
noncomputable def oW (l:List PI):List IW:=l.map IW.o
theorem Il (l:List PI):(oW l).map IW.pi=l:=by
 unfold oW
 rw [alu]
 exact List.map_id l
noncomputable def alf (v:V8):List IW:=[.v 1 (.x v),.v 4 (.i 0),.o (.gosub 3 0),.o (.op (.copy 7 5)),.o (.gosub 3 0),.o (.op (.copy 7 6)),.o (.goto 1)]
def ksW (w:DW):List IW:=oW (c9 w.o)++[.o (.op (.opn w.nc))]++[.o (.op (.addi 4 1))]++wrW (caW w.oc) 0 (dX w.o) w.f 8 w.vs
noncomputable def DW.R (w:DW):Nat:=8 + 2 * w.vs.length
def inW (w:DW):List IW:=ksW w++([lfW w.nm w.R w.v]++oW (iA (w.oc.is .l) w.R w.f)++([.v 7 (.i 0)]++oW [.rew (dJ w.o),.isn (Int.ofNat w.R) (dJ w.o + 1),.fnd (dJ w.o + 2) (Int.ofNat w.R),.op (.null (Int.ofNat (w.R + 1))),.fnd (dJ w.o + 1) (Int.ofNat (w.R + 1)),.goto (dJ w.o)])++[.v 7 (.i 1),.o (.goto (dJ w.o))]++[.o (.op (.null 7))]++oW (we w.g 7))
theorem Ho (d:Dat):(inW d.dw).map IW.pi=nC d:=by
 unfold inW nC ksW akA
 simp only [eQ,Il,o6,Jv,Z6]
 show _++([IW.pi (lfW d.sx.nm d.R d.v)]++_++_++_++_++_)=_
 have e:IW.pi (lfW d.sx.nm d.R d.v)=Fi d.sx.nm d.R d.v:=by cases d.sx.nm<;>rfl
 rw [e]
 rfl
noncomputable def aaH:WD→IW
 | .v=>.o (.op (.null 8))
 | _=>.v 8 (.i 0)
def IH (wd:WD) (w:DW):List IW:=oW (c9 w.o)++[aaH wd]++[.o (.op (.addi 4 1))]++wrW (sxM wd) 8 (dX w.o) w.f 9 w.vs++[.o (.op (.copy 8 7))]++oW (we w.g 7)
theorem Ka (d:Dat):(IH d.wd d.dw).map IW.pi=vz d:=by
 unfold IH vz
 simp only [eQ,Il,o6,Jv,Z6]
 have e:IW.pi (aaH d.wd)=BZ d.wd:=by cases d.wd<;>rfl
 rw [e]
 rfl
def rb (w:DW):List (Nat × Nat):=
 eP w.o 7 (7 + (ksW w).length)++[(dJ w.o + 2,7 + (ksW w).length + 1 + (oW (iA (w.oc.is .l) w.R w.f)).length + 7)]++[(dJ w.o + 1,7 + (ksW w).length + 1 + (oW (iA (w.oc.is .l) w.R w.f)).length + 9)]++[(dJ w.o,7 + (ksW w).length + 1 + (oW (iA (w.oc.is .l) w.R w.f)).length + 10)]++[(1,7 + (inW w).length + 1)]
def wV (wd:WD) (w:DW):List (Nat × Nat):=eP w.o 7 (7 + (oW (c9 w.o)).length + 2 + (wrW (sxM wd) 8 (dX w.o) w.f 9 w.vs).length)++[(1,7 + (IH wd w).length + 1)]
def rn (w:DW):List IW:=alf w.v++inW w++[.o (.op (.ret 3))]
def xu (wd:WD) (w:DW):List IW:=alf w.v++IH wd w++[.o (.op (.ret 3))]
theorem MM (d:Dat):(ksW d.dw).length=(akA d).length:=by
 have:(ksW d.dw).map IW.pi=akA d:=by
  unfold ksW akA
  simp only [eQ,Il,o6,Jv,Z6]
  rfl
 rw [← this,zt]
theorem GE (l:List PI):(oW l).length=l.length:=zt ..
theorem N2 (d:Dat):(inW d.dw).length=(nC d).length:=by rw [← Ho,zt]
theorem LD (d:Dat):(IH d.wd d.dw).length=(vz d).length:=by rw [← Ka,zt]
theorem am4 (d:Dat) (b:d.wd=.i∨d.wd=.ni):jG d=(rn d.dw).map IW.pi∧dQ d=rb d.dw:=by
 have a:p19 d=nC d∧c8 d 7=i7 d 7:=by
  unfold p19 c8
  rcases b with h | h<;>rw [h]<;>exact ⟨rfl,rfl⟩
 constructor
 · unfold jG rn
   rw [a.1,eQ,eQ,Ho]
   rfl
 · unfold dQ rb
   rw [a.1,a.2,MM,GE,N2,ln]
   rfl
theorem GQ (d:Dat) (b:d.wd=.e∨d.wd=.ne∨d.wd=.v):jG d=(xu d.wd d.dw).map IW.pi∧dQ d=wV d.wd d.dw:=by
 have a:p19 d=vz d∧c8 d 7=jO d 7:=by
  unfold p19 c8
  rcases b with h | h | h<;>rw [h]<;>exact ⟨rfl,rfl⟩
 constructor
 · unfold jG xu
   rw [a.1,eQ,eQ,Ka]
   rfl
 · unfold dQ wV
   rw [a.1,a.2,GE,LD,ln]
   unfold jO
   have:(wrW (sxM d.wd) 8 (dX d.o) d.af 9 d.vs).length=(i9 (sxM d.wd) 8 (dX d.o) d.af 9 d.vs).length:=by rw [← o6,zt]
   rw [show (wrW (sxM d.wd) 8 (dX d.dw.o) d.dw.f 9 d.dw.vs).length=_ from this]
   rfl
noncomputable def BS.start:BS:=⟨0,[],none,[]⟩
structure abV where
 r1:MW
 r2:MW
 c:MW
 ok:Bool
 ob:List (Bool × Bool)
def Hw (a:ae8) (pr:List IW) (or:List Bool):Option abV:=match BS.run a pr 800 BS.start or [] with
 | none=>none
 | some r=>some ⟨j0 5 r.1.held,j0 6 r.1.held,j0 4 r.1.held,Nat.ble r.1.held.length 32 && Nat.ble r.1.done.length 8,r.2⟩
noncomputable def Mz:Bool→MW
 | true=>.i 2
 | false=>.i 1
inductive PT where
 | nl [h:Nonempty Nat] | fd | un | no
noncomputable def Va:PT→List Bool
 | .nl=>[true]
 | .fd=>[false,true]
 | .un=>[false,false,true]
 | .no=>[false,false,false]
noncomputable def Y9 (k1 k2 a:Bool):PT→List (Bool × Bool)
 | .nl=>[(k1,true)]
 | .fd=>[(k1,false),(k2,true)]
 | .un=>[(k1,false),(k2,false),(a,true)]
 | .no=>[(k1,false),(k2,false),(a,false)]
noncomputable def gI:Bool→Int
 | true=>0
 | false=>1
noncomputable def He (g:Bool):PT→MW
 | .fd=>.i (gI g)
 | .no=>.i (gI (!g))
 | _=>.x .n
def DW.k (w:DW):V8:=match w.oc with
 | .l=>wy w.f w.v
 | _=>w.v
def DW.xs (w:DW):List V8:=match w.oc with
 | .r=>w.vs.map (wy w.f)
 | _=>w.vs
def obW (w:DW) (t:PT):List (Bool × Bool):=Y9 (nI w.k) (fndA w.nc w.k w.xs) (fndA w.nc .n w.xs) t
def lIn (w:DW) (t:PT):Option abV:=Hw (mV (rb w)) (rn w) (Va t++Va t)
def rIn (w:DW) (t:PT):Option abV:=some ⟨He w.g t,He w.g t,Mz w.o,true,obW w t++obW w t⟩
def j8 (w:DW) (t:PT):Prop:=lIn w t=rIn w t
noncomputable def am0:Enu (Bool × Bool × CA × Bool × PT):=amJ.pr (amJ.pr (eCA.pr (amJ.pr (⟨[.nl,.fd,.un,.no],by intro v;cases v<;>repeat constructor⟩:Enu PT))))
def dIn (f:AF) (nc:Bool) (v:V8) (l:List V8) (x:Bool × Bool × CA × Bool × PT):DW:=⟨x.1,x.2.1,x.2.2.1,f,x.2.2.2.1,nc,v,l⟩
theorem amY (f:AF) (nc:Bool) (v:V8) (l:List V8) (g o:Bool) (oc:CA) (nm:Bool) (t:PT) (h:amT (fun x=>lIn (dIn f nc v l x) x.2.2.2.2) am0.1=amS (fun x=>rIn (dIn f nc v l x) x.2.2.2.2) am0.1:=by kernel_rfl):j8 ⟨g,o,oc,f,nm,nc,v,l⟩ t:=amR h (g,o,oc,nm,t) (am0.2 _)
theorem Mu (g o:Bool) (oc:CA) (f:AF) (nm nc:Bool) (v a:V8) (t:PT):j8 ⟨g,o,oc,f,nm,nc,v,[a]⟩ t:=amY f nc v [a] ..
theorem LJ (g o:Bool) (oc:CA) (f:AF) (nm nc:Bool) (v a b:V8) (t:PT):j8 ⟨g,o,oc,f,nm,nc,v,[a,b]⟩ t:=amY f nc v [a,b] ..
theorem Mr (g o:Bool) (oc:CA) (f:AF) (nm nc:Bool) (v a b c:V8) (t:PT):j8 ⟨g,o,oc,f,nm,nc,v,[a,b,c]⟩ t:=amY f nc v [a,b,c] ..
theorem MP (g o:Bool) (oc:CA) (f:AF) (nm nc:Bool) (v:V8):Hw (mV (rb ⟨g,o,oc,f,nm,nc,v,[]⟩)) (rn ⟨g,o,oc,f,nm,nc,v,[]⟩) []=some ⟨.i (gI (!g)),.i (gI (!g)),Mz o,true,[]⟩:=by
 exact amW (amJ.pr (amJ.pr (eCA.pr amJ))) (fun x=>Hw (mV (rb ⟨x.1,x.2.1,x.2.2.1,f,x.2.2.2,nc,v,[]⟩)) (rn ⟨x.1,x.2.1,x.2.2.1,f,x.2.2.2,nc,v,[]⟩) []) (fun x=>some ⟨.i (gI (!x.1)),.i (gI (!x.1)),Mz x.2.1,true,[]⟩) (g,o,oc,nm)
noncomputable def PU (wd:WD) (vs:List V8):MW:=match wd with
 | .v=>(match vs with
  | []=>.x .n
  | v :: _=>.x v)
 | .ne=>(match vs with
  | []=>.i 1
  | _=>.i 0)
 | _=>(match vs with
  | []=>.i 0
  | _=>.i 1)
def cM (wd:WD) (w:DW):Prop:=Hw (mV (wV wd w)) (xu wd w) []=some ⟨PU wd w.vs,PU wd w.vs,Mz w.o,true,[]⟩
noncomputable def ak4 (wd:WD):Bool:=match wd with
 | .i=>false
 | .ni=>false
 | _=>true
theorem RW (wd:WD) (d:ak4 wd=true) (o:Bool) (oc:CA) (f:AF) (nm nc:Bool) (v a b c:V8):cM wd ⟨wd.g,o,oc,f,nm,nc,v,[]⟩∧cM wd ⟨wd.g,o,oc,f,nm,nc,v,[a]⟩∧cM wd ⟨wd.g,o,oc,f,nm,nc,v,[a,b]⟩∧cM wd ⟨wd.g,o,oc,f,nm,nc,v,[a,b,c]⟩:=by
 cases wd
 · cases d
 · cases d
 · cases o<;>exact ⟨by unfold cM;kernel_rfl,by unfold cM;kernel_rfl,by unfold cM;kernel_rfl,by unfold cM;kernel_rfl⟩
 · cases o<;>exact ⟨by unfold cM;kernel_rfl,by unfold cM;kernel_rfl,by unfold cM;kernel_rfl,by unfold cM;kernel_rfl⟩
 · cases o<;>exact ⟨by unfold cM;kernel_rfl,by unfold cM;kernel_rfl,by unfold cM;kernel_rfl,by unfold cM;kernel_rfl⟩
set_option linter.constructorNameAsVariable false
def Dat.due (d:Dat):V8:=Ec d.nc d.sx d.sy d.wd d.v d.vs
theorem Rw (m:MV) (u:Tok):alc m (m.v u)=true:=by
 cases m with
 | n=>rfl
 | i x=>exact kI x
 | s x=>show eqS x x=true;unfold eqS;rw [tN];exact Wt _
section
variable {J:WB}
theorem UZ (p:SB) (d:Dat) (I:ae8) (R:cU J.p p d) (a:p.co=aA d.nc) :
  HRG J 100 (bT p 24 25 I) (bLs J.p p I 20 18 p.S)
  (fun e L'=>e=.next∧∃ I' p',I' 0=I 0∧p'.r=p.r∧p'.S=p.S∧p'.o=d.o∧(∃ u,p'.du=d.due.v u)∧p'.es=[]∧p'.he=0∧L'=bLs J.p p' I' 22 19 p'.S):=by
 obtain ⟨u,hv⟩:=R.v
 obtain ⟨j,g⟩:=R.x
 obtain ⟨i,f⟩:=R.y
 have c:(v8k d.v).as p.v=p.v:=by rw [hv];exact qD _ _
 have H:=(aq.he (ay _) (Oi (v8k d.v,v8k d.due) d.due J p) (Wd (v8k d.v,v8k d.due) d.due _ p) I (fun I' O z=>dy (l:=NC (v8k d.v,v8k d.due) d.due p) (by
  unfold NC
  have b:p.xs.toList.length≤3:=by have:=R.xs.len;have:=R.len;lia
  refine anb ?_ (anb ?_ (anb ?_ (anb ?_ (anb ?_ (anb ?_ (anb ?_ (anb ?_ (anb ?_ anc))))))))
  · rw [Io];rfl
  · rw [c,hv,cV];rfl
  · exact R.xs.all
  · exact aF b
  · rw [a,cY];rfl
  · rw [g,lu];rfl
  · rw [f,lu];rfl
  · rw [c]
    unfold OB
    rw [a,cY,g,lu,f,lu,Io,hv,cV,Ak R.xs,R.wd]
    exact V8.is_self _
  · show (v8k d.due).is (d.due.v 0)=true
    cases d.due<;>rfl))).hr
 have H:HR _ _ _ (bT p 24 25 I) (bLs J.p (p.at (v8k d.v)) I 20 18 p.S) _:=H
 rw [R.at] at H
 refine H.mono (ag rfl) <| elA fun I' O' h=>?_
 exact ⟨rfl,ah ((bD (v8k d.v,v8k d.due) d.due J.p).k + (bD (v8k d.v,v8k d.due) d.due J.p).q) I',ZD (v8k d.v,v8k d.due) d.due p (ah (bD (v8k d.v,v8k d.due) d.due J.p).it O'),h 0 (ag rfl),rfl,rfl,R.o,⟨_,qD _ _⟩,rfl,rfl,rfl⟩
theorem UY (p:SB) (z:List Ins × AS) (I:ae8) (a:p.es=[]) (b:p.he=0) (hz:sK J.p p.S z.1 z.2) (f:cN 4 z.2.held=CX p.o) :
  HRG J 100 (bT p 25 26 I) (bLs J.p p I 22 19 p.S)
  (fun e L'=>e=.next∧∃ I' es he,I' 0=I 0∧bZ es z.2.held∧L'=bLs J.p { p with es:=es,he:=he } I' 22 19 p.S):=by
 have H:=(aq.he (ay _) (Oh p.o z J p) (by intros;exact tT) I (fun I' O Z=>dy (l:=NQ J.p p.o z p O) (by
  unfold NQ
  have hr:=kW z.2.held (fl (flt O 2 64)) 0
  refine anb ?_ (anb ?_ (anb ?_ anc))
  · exact hr.ikT
  · obtain ⟨u,d⟩:=hr.gtM 4
    rw [d,f]
    exact Rw _ _
  · exact bB hz))).hr
 have H:HR _ _ _ (bT p 25 26 I) (bLs J.p { p with o:=p.o,es:=[],he:=0 } I 22 19 p.S) _:=H
 have ep:({ p with o:=p.o,es:=[],he:=0 }:SB)=p:=by
  cases p
  simp only at a b
  subst a b
  rfl
 rw [ep] at H
 refine H.mono (ag rfl) <| elA fun I' O' c=>?_
 exact ⟨rfl,ah ((bR p.o z J.p).k + (bR p.o z J.p).q) I',d7 z.2.held (fl (flt (ah (bR p.o z J.p).it O') 1 64)) 0,ah (bR p.o z J.p).it O' 0,c 0 (ag rfl),kW _ _ _,rfl⟩
end
set_option linter.constructorNameAsVariable false
theorem Xq (nc:Bool):∀ xs:List V8,fndA nc .n xs=anyN xs
 | []=>rfl
 | x :: xs=>by
  show (eq3 (zR x nc) (zR .n nc) || fndA nc .n xs)=(nI x || anyN xs)
  rw [Xq nc xs]
  cases x<;>cases nc<;>rfl
theorem k_is (d:Dat):d.dw.k=vX d.sx d.sy d.v:=by
 obtain ⟨wd,o,sx,sy,nx,ny,v,vs⟩:=d
 cases sx<;>cases sy<;>rfl
theorem aai (d:Dat):d.dw.xs=vXs d.sx d.sy d.vs:=by
 obtain ⟨wd,o,sx,sy,nx,ny,v,vs⟩:=d
 cases sx<;>cases sy<;>rfl
structure v9 (d:Dat) (s:AS):Prop where
 run:AS.run (iH d) 800 AS.start=some s
 r1:cN 5 s.held=d.due.mv
 r2:cN 6 s.held=d.due.mv
 c:cN 4 s.held=CX d.o
 held:s.held.length≤32
 done:s.done.length≤8
theorem ok_of {d:Dat} {a:ae8} {pr:List IW} {or:List Bool} {r c:MW} {e:List (Bool × Bool)} (b:iH d=(pr.map IW.pi).map (PI.res a)++[.halt]) (h:Hw a pr or=some ⟨r,r,c,true,e⟩) (f:∀ p∈e,p.1=p.2) (hr:r.mv=d.due.mv) (j:c.mv=CX d.o):∃ s,v9 d s:=by
 delta Hw at h
 cases hq:BS.run a pr 800 BS.start or [] with
 | none=>rw [hq] at h;cases h
 | some q=>
  rw [hq] at h
  injection h with h
  injection h with h1 h2 h3 h4 h5
  have i:=rf a pr 800 BS.start or [] q hq (fun p b=>f p (h5 ▸ b))
  obtain ⟨h6,g⟩:=iR.mp h4
  refine ⟨q.1.as,by rw [b];exact i,?_,?_,?_,?_,?_⟩
  · show cN 5 (da q.1.held)=_
    rw [dA,h1,hr]
  · show cN 6 (da q.1.held)=_
    rw [dA,h2,hr]
  · show cN 4 (da q.1.held)=_
    rw [dA,h3,j]
  · show (da q.1.held).length≤32
    unfold da
    rw [zt]
    exact ag h6
  · exact ag g
theorem zu (o:Bool):(Mz o).mv=CX o:=by cases o<;>rfl
noncomputable def NJ (k1 k2 a:Bool):PT:=match k1 with
 | true=>.nl
 | false=>match k2 with
  | true=>.fd
  | false=>match a with
   | true=>.un
   | false=>.no
theorem Zg (k1 k2 a:Bool):∀ p∈Y9 k1 k2 a (NJ k1 k2 a),p.1=p.2:=by cases k1<;>cases k2<;>cases a<;>decide
noncomputable def VZ (g:Bool) (o:OC):V8:=match g with
 | false=>o.x
 | true=>o.neg.x
theorem TA (g k1 k2 a:Bool):(He g (NJ k1 k2 a)).mv=(VZ g (match k1 with | true=>.t | false=>icM k2 a)).mv:=by cases g<;>cases k1<;>cases k2<;>cases a<;>rfl
theorem Gl (d:Dat) (a:d.wd=.i∨d.wd=.ni):d.due=VZ d.wd.g (iV d.nc d.sx d.sy d.v d.vs):=by
 unfold Dat.due Ec
 rcases a with h | h<;>rw [h]<;>rfl
theorem CT {nc:Bool} {x:V8} {vs:List V8} (h:vs ≠ []):og nc x vs=(match nI x with | true=>.t | false=>icM (fndA nc x vs) (anyN vs)):=by
 cases vs with
 | nil=>exact absurd rfl h
 | cons a l=>rfl
theorem Ux (sx sy:SD) {vs:List V8} (h:vs ≠ []):vXs sx sy vs ≠ []:=by
 cases vs with
 | nil=>exact absurd rfl h
 | cons a l=>
  intro e
  have q:(vXs sx sy (a :: l)).isEmpty=false:=by cases sx<;>cases sy<;>rfl
  rw [e] at q
  cases q
theorem Od (d:Dat) (f:d.wd=.i∨d.wd=.ni) (hl:d.vs.length≤3):∃ s,v9 d s:=by
 obtain ⟨e1,e2⟩:=am4 d f
 have j:iH d=((rn d.dw).map IW.pi).map (PI.res (mV (rb d.dw)))++[.halt]:=by unfold iH;rw [e1,e2]
 by_cases hv:d.vs=[]
 · have hr:=MP d.wd.g d.o d.oc d.af d.sx.nm d.nc d.v
   have ed:d.dw=⟨d.wd.g,d.o,d.oc,d.af,d.sx.nm,d.nc,d.v,[]⟩:=by unfold Dat.dw;rw [hv]
   rw [ed] at j
   refine ok_of j hr (fun p h=>by cases h) ?_ (zu _)
   rw [Gl d f,hv]
   have:iV d.nc d.sx d.sy d.v []=.o:=by
    unfold iV
    have:vXs d.sx d.sy []=[]:=by cases d.sx<;>cases d.sy<;>rfl
    rw [this];rfl
   rw [this]
   cases d.wd.g<;>rfl
 · have hr:j8 d.dw (NJ (nI d.dw.k) (fndA d.dw.nc d.dw.k d.dw.xs) (fndA d.dw.nc .n d.dw.xs)):=by
    generalize NJ (nI d.dw.k) (fndA d.dw.nc d.dw.k d.dw.xs) (fndA d.dw.nc .n d.dw.xs)=t
    obtain ⟨wd,o,sx,sy,nx,ny,v,vs⟩:=d
    cases vs with
    | nil=>exact absurd rfl hv
    | cons a vs=>cases vs with
     | nil=>exact Mu ..
     | cons b vs=>cases vs with
      | nil=>exact LJ ..
      | cons c vs=>cases vs with
       | nil=>exact Mr ..
       | cons e vs=>exact absurd hl (by show ¬ (vs.length + 1 + 1 + 1 + 1≤3);lia)
   refine ok_of j hr (fun p h=>?_) ?_ (zu _)
   · rcases uC.mp h with h | h<;>exact Zg _ _ _ p h
   · rw [TA,Gl d f]
     unfold iV
     rw [CT (Ux _ _ hv),← k_is,← aai,Xq]
     rfl
theorem Mk (d:Dat) (g:ak4 d.wd=true) (hl:d.vs.length≤3):∃ s,v9 d s:=by
 have f:d.wd=.e∨d.wd=.ne∨d.wd=.v:=by
  cases h:d.wd<;>rw [h] at g
  · cases g
  · cases g
  · exact .inl rfl
  · exact .inr (.inl rfl)
  · exact .inr (.inr rfl)
 obtain ⟨e1,e2⟩:=GQ d f
 have i:iH d=((xu d.wd d.dw).map IW.pi).map (PI.res (mV (wV d.wd d.dw)))++[.halt]:=by unfold iH;rw [e1,e2]
 have hr:cM d.wd d.dw:=by
  obtain ⟨wd,o,sx,sy,nx,ny,v,vs⟩:=d
  have key:=fun a b c=>RW wd g o (caM sx sy) (caF sx sy) sx.nm (FJ sx sy nx ny) v a b c
  cases vs with
  | nil=>exact (key .n .n .n).1
  | cons a vs=>cases vs with
   | nil=>exact (key a .n .n).2.1
   | cons b vs=>cases vs with
    | nil=>exact (key a b .n).2.2.1
    | cons c vs=>cases vs with
     | nil=>exact (key a b c).2.2.2
     | cons e vs=>exact absurd hl (by show ¬ (vs.length + 1 + 1 + 1 + 1≤3);lia)
 refine ok_of i hr (fun p h=>by cases h) ?_ (zu _)
 obtain ⟨wd,o,sx,sy,nx,ny,v,vs⟩:=d
 rcases f with h | h | h<;>(cases h;cases vs<;>rfl)
theorem IV (d:Dat) (hl:d.vs.length≤3):∃ s,v9 d s:=by
 cases h:ak4 d.wd with
 | true=>exact Mk d h hl
 | false=>
  refine Od d ?_ hl
  cases a:d.wd<;>rw [a] at h
  · exact .inl rfl
  · exact .inr rfl
  all_goals cases h
def wz (w:DW):Bool:=nu ((rn w).map IW.pi) (rb w)
def wG (wd:WD) (w:DW):Bool:=nu ((xu wd w).map IW.pi) (wV wd w)
theorem Sq (g o:Bool) (oc:CA) (f:AF) (nm nc:Bool) (v a b c:V8):wz ⟨g,o,oc,f,nm,nc,v,[]⟩=true∧wz ⟨g,o,oc,f,nm,nc,v,[a]⟩=true∧wz ⟨g,o,oc,f,nm,nc,v,[a,b]⟩=true∧wz ⟨g,o,oc,f,nm,nc,v,[a,b,c]⟩=true:=by
 have k (l:List V8) (h:amZ (fun x:Bool × Bool × CA × Bool=>wz ⟨x.1,x.2.1,x.2.2.1,f,x.2.2.2,nc,v,l⟩) (amJ.pr (amJ.pr (eCA.pr amJ))).1=true):wz ⟨g,o,oc,f,nm,nc,v,l⟩=true:=Enu.all _ _ (g,o,oc,nm) h
 exact ⟨k [] (by kernel_rfl),k [a] (by kernel_rfl),k [a,b] (by kernel_rfl),k [a,b,c] (by kernel_rfl)⟩
theorem Un (wd:WD) (d:ak4 wd=true) (o:Bool) (oc:CA) (f:AF) (nm nc:Bool) (v a b c:V8):wG wd ⟨wd.g,o,oc,f,nm,nc,v,[]⟩=true∧wG wd ⟨wd.g,o,oc,f,nm,nc,v,[a]⟩=true∧wG wd ⟨wd.g,o,oc,f,nm,nc,v,[a,b]⟩=true∧wG wd ⟨wd.g,o,oc,f,nm,nc,v,[a,b,c]⟩=true:=by
 cases wd
 · cases d
 · cases d
 all_goals cases o<;>exact ⟨by kernel_rfl,by kernel_rfl,by kernel_rfl,by kernel_rfl⟩
theorem NR (d:Dat) (hl:d.vs.length≤3):nu (jG d) (dQ d)=true:=by
 have f:∀ (F:List V8→Bool),(∀ a b c,F []=true∧F [a]=true∧F [a,b]=true∧F [a,b,c]=true)→F d.vs=true:=by
  intro F key
  cases hv:d.vs with
  | nil=>exact (key .n .n .n).1
  | cons a vs=>cases vs with
   | nil=>exact (key a .n .n).2.1
   | cons b vs=>cases vs with
    | nil=>exact (key a b .n).2.2.1
    | cons c vs=>cases vs with
     | nil=>exact (key a b c).2.2.2
     | cons e vs=>
      rw [hv] at hl
      exact absurd hl (by show ¬ (vs.length + 1 + 1 + 1 + 1≤3);lia)
 cases h:ak4 d.wd with
 | true=>
  have j:d.wd=.e∨d.wd=.ne∨d.wd=.v:=by
   cases k:d.wd<;>rw [k] at h
   · cases h
   · cases h
   · exact .inl rfl
   · exact .inr (.inl rfl)
   · exact .inr (.inr rfl)
  obtain ⟨e1,e2⟩:=GQ d j
  rw [e1,e2]
  exact f (fun vs=>wG d.wd ⟨d.wd.g,d.o,d.oc,d.af,d.sx.nm,d.nc,d.v,vs⟩) fun a b c=>Un d.wd h d.o d.oc d.af d.sx.nm d.nc d.v a b c
 | false=>
  have j:d.wd=.i∨d.wd=.ni:=by
   cases k:d.wd<;>rw [k] at h
   · exact .inl rfl
   · exact .inr rfl
   all_goals cases h
  obtain ⟨e1,e2⟩:=am4 d j
  rw [e1,e2]
  exact f (fun vs=>wz ⟨d.wd.g,d.o,d.oc,d.af,d.sx.nm,d.nc,d.v,vs⟩) fun a b c=>Sq d.wd.g d.o d.oc d.af d.sx.nm d.nc d.v a b c
theorem De (d:Dat):∃ b v,(iH d)[0]? = some (.value b v):=⟨1,d.v.mv,rfl⟩
set_option linter.constructorNameAsVariable false
def HRg (w:World) (top:Tr) (need:Nat) (st:bx) (L:XL) (c:En→XL→Prop):Prop:=
 ∀ (A:Around) (R:Result→Shared→Prop) (h:Heap) (g:Array GenState) (d:Drawn) (tk:Nat) (os:OsState),A.guards=some []→Ctx A need→aky top h→1158≤h.objs.size→Has h L →
  (∀ e L' f i,c e L'→Has f L'→(∀ a,a∈L'.map (·.1)→a∈L.map (·.1)∨h.objs.size≤a) →
   (∀ b o,h.get? b=some o→b ∉ L.map (·.1)→f.get? b=some o)→h.objs.size≤f.objs.size→ke w A R e ⟨f,g,d,i,os⟩) →
  jL w A st R ⟨h,g,d,tk,os⟩
def V8.pd:V8→PyData
 | .n=>.none
 | .i0=>.int 0
 | .i1=>.int 1
 | .i2=>.int 2
 | .a=>.str (sv J76)
 | .A=>.str (sv J89)
 | .s2=>.str (sv J72)
 | .b=>.str (sv J95)
 | .s0=>.str (sv J79)
 | .s1=>.str (sv J73)
theorem vo (h:Heap) (x:V8) (t:Tok):Reads h (x.v t) x.pd []:=by cases x<;>constructor
theorem rj {w:World} {A:Around} {E:Value→Shared→Prop} {Q:Value→Shared→Prop} {s:Shared} {a:Nat} {n:Nat} (x:V8) (t u:Tok) (f:A.guards=some []) (h:A.units + 10 < cLine)
  (d:s.heap.get? a=some (ab ⟨[x.v t,x.v u]⟩ n))
  (g:∀ c u tk,(∀ b o,s.heap.get? b=some o→c.get? b=some o)→Q (.str (PyData.shown (.list [x.pd,x.pd])) u) { s with heap:=c,toks:=tk }) :
  wpAny (model prog w) A (call (.builtin "repr") [.ref a]) Q E s:=by
 have hr:Reads s.heap (.ref a) (.list [x.pd,x.pd]) (a :: ([]++([]++[]))):=.list d rfl rfl (.cons (vo _ x t) (.cons (vo _ x u) .nil))
 refine repr_of_reads' hr ?_ ?_ f ?_ (fun z z e=>e) g ?_
 · cases x<;>rfl
 · intro e
   exfalso
   cases x<;>cases e
 · have:(PyData.list [x.pd,x.pd]).depth≤5:=by cases x<;>exact ag (by kernel_rfl)
   lia
 · delta V8.pd
   cases x<;>dsimp only<;>decide +kernel
theorem Is {w:World} {A:Around} {E:Value→Shared→Prop} {Q:Value→Shared→Prop} {s:Shared} {env:Env} {x:Str} {j m l:Pos} {e:Expr} {a n:Nat} {es:List DictEntry}
  (d:starEach [e] env=[(false,eval e env)]) (hl:(m.endLine == l.line)=true) (hk:ikB es=true)
  (p:wpAny (model prog w) A (eval (.Name x j) env) (fun o h=>o=.ref a∧h.heap.get? a=some (uN es n)∧wpAny (model prog w) A (eval e env) (fun v g=>∃ k t,v=.int k t∧g.heap.get? a=some (uN es n)∧∀ tk,Q ((getD k es).getD .none) { g with toks:=tk }) E h) E s) :
  wpAny (model prog w) A (eval (.Call (.Attribute (.Name x j) (sv agF) m) [e] [] l) env) Q E s:=by
 refine wpAny_Call_method (T:="dict") (id:="dict.get") rfl ?_ hl PySem.F.plainAttrs_dict Zk PySem.F.type_dict_get (Qn p (fun o h r=>?_) fun z z x=>x)
 · rw [d];rfl
 · obtain ⟨rfl,hd,he⟩:=r
   refine ⟨⟨_,hd,rfl⟩,fun b hb=>by cases hb;exact ⟨_,hd,rfl⟩,?_⟩
   rw [d]
   refine alS rfl (alQ (Ot (Qn he (fun v g q=>?_) fun z z x=>x)))
   obtain ⟨k,t,rfl,c,f⟩:=q
   refine Ow (wpAny_call ?_)
   refine ya Zk.plain amb (Zk.check _ _ _ _ _ _ _ _ ⟨_,c,rfl⟩ (PySem.F.args_dict_get_2 _ _) ?_)
   show wpAny _ _ (dictGet a (.int k t) >>= _) _ _ _
   refine av (pQ c hk ?_)
   cases i:getD k es with
   | some v=>
    rw [i] at f
    exact jt (f _)
   | none=>
    rw [i] at f
    show wpAny _ _ (Builtin.Dict.missed a (.int k t) >>= _) _ _ _
    exact av (al6 (jt (f _)))
theorem amF:∃ l n i k j o r p m a d e b f c k1 g h c1 c2 q,(g.endLine == c1.line)=true∧(h.endLine == c2.line)=true ∧
  br cT 26=.Return (some (.Compare (.Call (.Name (sv J98) l) [.List [.Call (.Attribute (.Name (sv J21) n) (sv agF) g) [.Name (sv J87) i] [] c1,.Call (.Attribute (.Name (sv J21) k) (sv agF) h) [.BinOp (.Name (sv J87) j) .Add (.Constant (.int 1) k1 o) r] [] c2] p] [] m) [.Eq] [.Call (.Name (sv J98) a) [.List [.Name (sv aaa) d,.Name (sv aaa) e] b] [] f] c)) q:=
 ⟨⟨861,11,861,15⟩,⟨861,17,861,21⟩,⟨861,26,861,33⟩,⟨861,36,861,40⟩,⟨861,45,861,52⟩,⟨861,55,861,56⟩,⟨861,45,861,56⟩,⟨861,16,861,58⟩,⟨861,11,861,59⟩,⟨861,63,861,67⟩,⟨861,69,861,72⟩,⟨861,74,861,77⟩,⟨861,68,861,78⟩,⟨861,63,861,79⟩,⟨861,11,861,79⟩,0,⟨861,17,861,25⟩,⟨861,36,861,44⟩,⟨861,17,861,34⟩,⟨861,36,861,57⟩,⟨861,4,861,79⟩,rfl,rfl,by kernel_rfl⟩
theorem OH (P:Params):nsFind ⟨iy (o3 P)⟩ (sv J98)=none:=by kernel_rfl
theorem Tn (P:Params):nsFind ⟨iy (o0 P)⟩ (sv J98)=some (.builtin "repr"):=by kernel_rfl
theorem EC {A:Around} {b:List Stmt} {env:Env} (a:A.guards=some []):(A.under (.func b env)).guards=some []:=a
theorem Sy {w:World} {P:Params} (p:SB) (x:V8) (m:List (Int × MV)) (I:ae8) (B:∃ u,p.du=x.v u) (z:bZ p.es m) (h5:cN 5 m=x.mv) (h6:cN 6 m=x.mv) :
  HRg w (ac P) 20 (bT p 26 27 I) (bLs P p I 22 19 p.S) (fun en L'=>en=.ret (.bool true)∧L'=bLs P p I 22 19 p.S):=by
 intro A R h g d tk os Y hA ht hb L K
 obtain ⟨du,B⟩:=B
 refine ex4 amF fun q1 q2 q3 q4 f=>?_
 refine ex4 f fun q5 q6 q7 q8 f=>?_
 refine ex4 f fun q9 q10 q11 q12 f=>?_
 refine ex4 f fun q13 q14 q15 k1 f=>?_
 refine ex4 f fun a1 a2 c1 c2 f=>?_
 obtain ⟨q,f⟩:=f
 refine an2 f fun l1 l2 hst=>?_
 refine exL (eN (ad I 0) (p.r 3) (p.r 4)) fun env c=>?_
 have y:h.get? (ad I 0)=some (bF P p I 22):=(L.at_ (ad I 0,bF P p I 22) (uj _ (gw ..))).1
 have hd:h.get? (ad I 19)=some (uN p.es p.he):=(L.at_ (ad I 19,uN p.es p.he) (uj _ (kl.mpr ⟨19,_,rfl,by rw [JG]⟩))).1
 refine exL (bFr P p I) fun es i=>?_
 have hbF:bF P p I 22=frO es 22:=by rw [i];rfl
 rw [hbF] at y
 have hs:es.all d6=true:=by rw [i];rfl
 have n1:nsFind ⟨es⟩ (sv J21)=some (.ref (ad I 19)):=by rw [i];kernel_rfl
 have n2:nsFind ⟨es⟩ (sv J87)=some (.int 5 (p.t 24)):=by rw [i];kernel_rfl
 have n3:nsFind ⟨es⟩ (sv aaa)=some (x.v du):=by rw [i,← B];kernel_rfl
 have hu:(A.under (.func cT env)).units + 20 < cLine:=by
  have G:=hA.units
  have l:(A.under (.func cT env)).units=A.units + (Code.func cT env).cUnits:=rfl
  have h3:cLine=9900:=rfl
  have n:(Code.func cT env).cUnits≤9:=ag rfl
  lia
 have D:(A.under (.func cT env)).guards=some []:=EC Y
 have X:env.scope.kind=.function:=by rw [c];exact kP (by kernel_rfl)
 have N:env.kindOf (sv J21)=some .local:=by rw [c];kernel_rfl
 have C:env.kindOf (sv J87)=some .local:=by rw [c];kernel_rfl
 have J:env.kindOf (sv aaa)=some .local:=by rw [c];kernel_rfl
 have hki:env.kindOf (sv J98)=some .globalImplicit:=by rw [c];kernel_rfl
 have H:env.locals=ad I 0:=by rw [c];rfl
 obtain ⟨m1,m2,-⟩:=JC P
 obtain ⟨r1,r2,-⟩:=P6 P
 have ik:=z.ikT
 obtain ⟨u5,M⟩:=z.gtM 5
 obtain ⟨u6,W⟩:=z.gtM 6
 rw [h5,V8.mv_v] at M
 rw [h6,V8.mv_v] at W
 have hC:bx.tree (.func cT (eN (ad I 0) (p.r 3) (p.r 4))) (blk (bu cT 26 27) (eN (ad I 0) (p.r 3) (p.r 4)))=.tree (.func cT env) (blk [br cT 26] env):=by rw [c];rfl
 show jL w A (bx.tree (.func cT (eN (ad I 0) (p.r 3) (p.r 4))) (blk (bu cT 26 27) (eN (ad I 0) (p.r 3) (p.r 4)))) R _
 rw [hC,jM,hst]
 have hgl:env.globals=3:=by rw [c];rfl
 have hbi:env.builtins=0:=by rw [c];rfl
 have nm:∀ {s:Heap} {j:Nat} {x:Str} {pp:Pos} {v:Value} {Q:Value→Shared→Prop} {E:Value→Shared→Prop},(x == Str.ofString "__debug__")=false→s.get? (ad I 0)=some (frO es 22)→env.kindOf x=some .local→nsFind ⟨es⟩ x=some v→Q v ⟨s,g,d,j,os⟩→wpAny (model prog w) (A.under (.func cT env)) (eval (.Name x pp) env) Q E ⟨s,g,d,j,os⟩:=fun h0 G l h3 n=>
  Tf (hd:=h0) (alv X l (gD (by rw [H];exact G) hs) h3 n)
 have rp:∀ {s:Heap} {j:Nat} {pp:Pos} {Q:Value→Shared→Prop} {E:Value→Shared→Prop},(∀ b o,h.get? b=some o→s.get? b=some o)→Q (.builtin "repr") ⟨s,g,d,j,os⟩→wpAny (model prog w) (A.under (.func cT env)) (eval (.Name (sv J98) pp) env) Q E ⟨s,g,d,j,os⟩:=fun G n=>
  Name_function_global X hki (loadGlobal_builtin (mg:=nsFind ⟨iy (o3 P)⟩) (mb:=nsFind ⟨iy (o0 P)⟩) (Bs (by rw [hgl];exact G _ _ (ht 3 _ (tg3 P))) m2 m1) (OH P) (Bs (by rw [hbi];exact G _ _ (ht 0 _ (tg0 P))) r2 r1) (Tn P) n)
 refine Vu (eD (alR (alG ?_)))
 refine al4 (rp (fun t t e=>e) ?_)
 refine alS rfl (alQ (Ot ?_))
 refine wpAny_List (Ot ?_)
 refine Is rfl l1 ik (nm (by kernel_rfl) y N n1 ⟨rfl,hd,nm (by kernel_rfl) y C n2 ⟨5,_,rfl,hd,fun tk1=>?_⟩⟩)
 refine Ot ?_
 refine Is rfl l2 ik (nm (by kernel_rfl) y N n1 ⟨rfl,hd,wpAny_BinOp (nm (by kernel_rfl) y C n2 (alT (PyProof.Rows.add_int ⟨6,_,rfl,hd,fun tk2=>?_⟩)))⟩)
 refine Ow ⟨ag rfl,Ow ?_⟩
 have g1:(h.push { cls:=.type "list",data:=.seq ([(getD 5 p.es).getD .none,(getD 6 p.es).getD .none]:List Value).toArray }).get? h.objs.size=some (ab ⟨[x.v u5,x.v u6]⟩ 0):=by
  rw [← M,← W];exact Heap.get?_push_size _ rfl
 have Z:∀ b o,h.get? b=some o→(h.push { cls:=.type "list",data:=.seq ([(getD 5 p.es).getD .none,(getD 6 p.es).getD .none]:List Value).toArray }).get? b=some o:=fun b o e=>Heap.get?_push_of_some _ e
 refine rj x u5 u6 D (by lia) g1 (fun l u tk3 hk=>?_)
 have k:∀ b o,h.get? b=some o→l.get? b=some o:=fun b o e=>hk b o (Z b o e)
 refine al4 (rp k ?_)
 refine alS rfl (alQ (Ot ?_))
 refine wpAny_List (Ot (nm (by kernel_rfl) (k _ _ y) J n3 (Ot (nm (by kernel_rfl) (k _ _ y) J n3 (Ow ⟨ag rfl,Ow ?_⟩)))))
 have g2:(l.push { cls:=.type "list",data:=.seq ([x.v du,x.v du]:List Value).toArray }).get? l.objs.size=some (ab ⟨[x.v du,x.v du]⟩ 0):=Heap.get?_push_size _ rfl
 refine rj x du du D (by lia) g2 (fun n u' tk4 F=>?_)
 have T:∀ b o,h.get? b=some o→n.get? b=some o:=fun b o e=>F b o (Heap.get?_push_of_some _ (k b o e))
 refine PySem.P.eq_str ?_
 rw [Wt]
 have s1:h.objs.size < l.objs.size:=Dt (hk _ _ g1)
 have s2:l.objs.size < n.objs.size:=Dt (F _ _ g2)
 exact K (.ret (.bool true)) _ n tk4 ⟨rfl,rfl⟩ ⟨fun q hq=>⟨T _ _ (L.at_ q hq).1,(L.at_ q hq).2⟩,L.nd⟩ (fun a ha=>.inl ha) (fun b o e t=>T b o e) (by lia)
set_option linter.constructorNameAsVariable false
section
variable {w:World} {top:Tr} {need need':Nat} {st:bx} {L:XL} {P1 P2:En→XL→Prop} {c:Code} {env:Env}
theorem HRg.mono (H:HRg w top need st L P1) (hn:need≤need') (j:∀ e L',P1 e L'→P2 e L'):HRg w top need' st L P2:=
 fun A R h g d tk os a f m hb k n=>H A R h g d tk os a ⟨f.handled,by have:=f.depth;lia,by have:=f.units;lia⟩ m hb k fun e L' i b l=>n e L' i b (j e L' l)
theorem HRg.blocks {u l2:List Stmt} (H:HR w top need (.tree c (blk u env)) L P1) (K:∀ e L',P1 e L'→e=.next∧HRg w top need (.tree c (blk l2 env)) L' P2) :
  HRg w top need (.tree c (blk (u++l2) env)) L P2:=fun A R h g d tk os i s m hb r J=>by
 refine akE (H A _ h g d tk os s m hb r fun e L' D k F B t p h5=>?_)
 obtain ⟨rfl,E⟩:=K e L' F
 refine E A R D g d k os i s (hJ m r p) (wt hb h5) B fun e2 M j f G C v x y=>?_
 refine J e2 M j f G C (fun a N=>?_) (fun b o q n=>?_) (wt h5 y)
 · rcases v a N with z | z
   · exact t a z
   · exact .inr (wt h5 z)
 · refine x b o (p b o q n) fun l=>?_
   rcases t b l with z | z
   · exact n z
   · exact absurd (Dt q) (D7.mpr z)
theorem HRg.step {p:SB} {I:ae8} {i j k:Nat} (d:i≤j) (a:j≤k) (H:HR w top need (bT p i j I) L P1) (b:∀ e L',P1 e L'→e=.next∧HRg w top need (bT p j k I) L' P2):HRg w top need (bT p i k I) L P2:=by
 have e:bT p i k I=.tree (.func cT (eN (ad I 0) (p.r 3) (p.r 4))) (blk (bu cT i j++bu cT j k) (eN (ad I 0) (p.r 3) (p.r 4))):=by rw [← rV d a];rfl
 rw [e]
 exact HRg.blocks H b
theorem jK {p p':SB} {I I':ae8} (hr:∀ j,3≤j→p'.r j=p.r j) (a:I' 0=I 0) (i k:Nat):bT p' i k I'=bT p i k I:=by
 unfold bT
 rw [hr 3 (ai _),hr 4 (by lia),show ad I' 0=ad I 0 by unfold ad;rw [a]]
end
def ql (e:En) (L':XL):Prop:=e=.ret (.bool true)
section
variable {J:WB}
theorem UW (p:SB) (d:Dat) (I:ae8) (s:AS) (a:v9 d s) (i:p.o=d.o) (f:∃ u,p.du=d.due.v u) (b:p.es=[]) (g:p.he=0) (hv:kL J.p p.S (iH d)) :
  HRg J.w J.t 100 (bT p 25 27 I) (bLs J.p p I 22 19 p.S) ql:=by
 refine HRg.step (j:=26) (by decide) (by decide) (UY p (iH d,s) I b g ⟨hv,De d,a.run,a.held,a.done⟩ (by rw [i];exact a.c)) fun e L' k=>?_
 obtain ⟨rfl,I',es,he,l,hr,rfl⟩:=k
 refine ⟨rfl,?_⟩
 have:=(Sy (w:=J.w) (P:=J.p) { p with es:=es,he:=he } d.due s.held I' f hr a.r1 a.r2).mono (need':=100) (P2:=ql) (by decide) fun e L' h=>h.1
 rw [jK (p':={ p with es:=es,he:=he }) (I':=I') (p:=p) (I:=I) (fun z z=>rfl) l] at this
 exact this
theorem R6 (p:SB) (d:Dat) (I:ae8) (R:cU J.p p d) (T:aX J.p p.S (wu d++p19 d) (c8 d 7) []) (g:2≤p.S.next) :
  HRg J.w J.t 100 (bT p 20 27 I) (bLs J.p p I 19 18 p.S) ql:=by
 obtain ⟨s,x⟩:=IV d R.len
 refine HRg.step (j:=24) (by decide) (by decide) (TC p d I R T g (NR d R.len)) fun e L' h=>?_
 obtain ⟨rfl,l,a,v,r1,r,f,hv,rfl⟩:=h
 refine ⟨rfl,?_⟩
 rw [← jK (p':=a) (I':=l) (p:=p) (I:=I) (fun j z=>by rw [r1]) v]
 refine HRg.step (j:=25) (by decide) (by decide) (UZ a d l r f) fun e L' h=>?_
 obtain ⟨rfl,n,m,q,r2,u,o,i,b,k,rfl⟩:=h
 refine ⟨rfl,?_⟩
 rw [← jK (p':=m) (I':=n) (p:=a) (I:=l) (fun j z=>by rw [r2]) q]
 exact UW m d n s x o i b k (by rw [u];exact hv)
theorem To (p:SB) (d:Dat) (I:ae8) (R:cU J.p p d) (i:LfV J.p p.lc p.lo d.sx d.nx d.v 0) (g:LfV J.p p.rc p.ro d.sy d.ny .i0 1)
  (H:aX J.p (S5b p) (wu d) [(0,7)] []) :
  HRg J.w J.t 100 (bT p 19 27 I) (bLs J.p p I 19 18 (S5b p)) ql:=by
 refine HRg.step (j:=20) (by decide) (by decide) (RD p d (wu d) I R i g H (by show 7≤100;decide)) fun e L' f=>?_
 obtain ⟨rfl,b,S',h,T,a,rfl⟩:=f
 refine ⟨rfl,?_⟩
 rw [← jK (p':={ p with S:=S' }) (I':=b) (p:=p) (I:=I) (fun z z=>rfl) h]
 exact R6 { p with S:=S' } d b ⟨R.wd,R.o,R.x,R.y,R.cx,R.cy,R.v,R.xs,R.len⟩ T a
end
noncomputable def akb (p:SB):XT:=none
def abR (J:WB):List (SG J):=smS ([]:CL J)
def bP (P:Params):aq SB:=akt.spec ((⟨4,5,4,13,9,306,false,[0,1,2,3,5,4,7,9,8],(by walk_at "#dd)Dl+A'[0&`9"),(by walk_at "#g,e,fi9f{/iJo@o@o@Fj>j4F+")⟩:akt) ) (fun p I=>bT p 6 7 I) (fun p I=>bO P p I 7 3) (akb ) (fun p I O=>.next) (fun p I O=>bO P (jV p I O) I 8 3++aj7 P (S1 (jV p I O).S)) (fun p I O=>none) (fun p I O=>[]) (fun p I O=>[])
theorem LA (J:WB) (p:SB):(bP J.p).Runs J.w J.t (abR J) p:=S4
set_option linter.constructorNameAsVariable false
section
variable {J:WB}
theorem Kz {P:Params} {p:SB} {S:aa} (h:S.p=p.S.p) (I:ae8) (n m:Nat) (S':aa):bLs P { p with S:=S } I n m S'=bLs P p I n m S':=by
 unfold bLs
 rw [DP h]
theorem Sl (p:SB) (d:Dat) (I:ae8) (R:cU J.p p d) (l:LfV J.p p.lc p.lo d.sx d.nx d.v 0) (f:LfV J.p p.rc p.ro d.sy d.ny .i0 1)
  (H:aX J.p (S3 p.S) [.op (.value 1 d.v.mv),.op (.value 4 (.i 0))] [] []) :
  HRg J.w J.t 100 (bT p 15 27 I) (bLs J.p p I 16 18 (S3 p.S)) ql:=by
 have hn:p.S.n=2:=H.n
 refine HRg.step (j:=19) (by decide) (by decide) (W0 p I (by lia)) <| elC fun a O h=>?_
 refine ⟨rfl,?_⟩
 obtain ⟨S',b⟩:∃ S',S'=LH p a O:=⟨_,rfl⟩
 have T:aX J.p S' (wu d) [(0,7)] []:=by
  have g:=H.add (akU J.p (ad a 19) (O 5) (p.t 12) (p.t 14) 371 3 0 0)
  have q:=g.add (lP J.p (ad a 20) (O 6) (O 1) (O 7) (O 8) 7 1 5)
  have k:=q.add (akU J.p (ad a 21) (O 9) (p.t 12) (p.t 14) 371 3 0 0)
  have e:=k.add (lP J.p (ad a 22) (O 10) (O 1) (O 11) (O 12) 7 1 6)
  have m:=(e.add (uB J.p (ad a 23) (O 13) (O 14) (p.t 16) 371 0 0 1)).lab 0 (p.t 14) (O 16)
  rw [b]
  refine m.keep ?_ ?_ ?_ ?_<;>kernel_rfl
 have c:S'.p=p.S.p:=by rw [b];kernel_rfl
 have h5:S5b { tJ p O with S:=S' }=S':=by rw [b];kernel_rfl
 have r:bLs J.p (tJ p O) a 19 18 (LH p a O)=bLs J.p { tJ p O with S:=S' } a 19 18 (S5b { tJ p O with S:=S' }):=by
  rw [h5,Kz (p:=tJ p O) c,b]
 rw [r,← jK (p':={ tJ p O with S:=S' }) (I':=a) (p:=p) (I:=I) (fun z z=>rfl) h]
 exact To { tJ p O with S:=S' } d a ⟨R.wd,R.o,R.x,R.y,R.cx,R.cy,R.v,R.xs,R.len⟩ l f (by rw [h5];exact T)
theorem Rv (p:SB) (d:Dat) (I:ae8) (R:cU J.p p d) (f:LfV J.p p.lc p.lo d.sx d.nx d.v 0) (c:LfV J.p p.rc p.ro d.sy d.ny .i0 1)
  (H:aX J.p (S3 p.S) [.op (.value 1 d.v.mv),.op (.value 4 (.i 0))] [] []) :
  HRg J.w J.t 100 (bT p 14 27 I) (bLs J.p p I 15 16 (S3 p.S)) ql:=by
 have b:=aaj (J:=J) p.wd p I
 refine HRg.step (j:=15) (by decide) (by decide) (show HR _ _ _ (bT p 14 15 I) (bLs J.p p I 15 16 (S3 p.S)) _ from b) <| elC fun a O e=>?_
 refine ⟨rfl,?_⟩
 rw [← jK (p':=Nr p.wd p O) (I':=a) (p:=p) (I:=I) (fun z z=>rfl) e]
 exact Sl (Nr p.wd p O) d a ⟨R.wd,R.o,R.x,R.y,R.cx,R.cy,R.v,R.xs,R.len⟩ f c H
def jA (sx:SD) (v:V8):LK:=match sx.nm with
 | true=>.c
 | false=>match v8k v with
  | .n=>.n
  | .i=>.i
  | .s=>.s
theorem cU.at4 {P:Params} {p:SB} {d:Dat} (R:cU P p d):p.at4 (jA d.sx d.v)=p∧∀ O,LfV P (j9 (jA d.sx d.v) P p O).lc (j9 (jA d.sx d.v) P p O).lo d.sx d.nx d.v 0:=by
 obtain ⟨u,c⟩:=R.x
 obtain ⟨e,hv⟩:=R.v
 have a:(v8k d.v).as p.v=p.v:=by rw [hv];exact qD _ _
 have b:=R.cx
 obtain ⟨S,xs,v,o,g,wd,x,y,cx,cy,lc,lo,rc,ro,co,du,es,he,t,r,xe⟩:=p
 simp only at c hv a b
 cases f:d.sx with
 | n=>
  rw [f] at c
  subst c
  unfold jA
  cases hk:v8k d.v<;>rw [hk] at a
  · refine ⟨by show SB.mk S xs (VK.n.as v) o g wd .none y cx cy lc lo rc ro co du es he t r xe=_;rw [a];rfl,fun O=>⟨rfl,O 1,e,?_⟩⟩
    show lv P (O 1) (VK.n.as v)=_
    rw [a,hv]
  · refine ⟨by show SB.mk S xs (VK.i.as v) o g wd .none y cx cy lc lo rc ro co du es he t r xe=_;rw [a];rfl,fun O=>⟨rfl,O 1,e,?_⟩⟩
    show lv P (O 1) (VK.i.as v)=_
    rw [a,hv]
  · refine ⟨by show SB.mk S xs (VK.s.as v) o g wd .none y cx cy lc lo rc ro co du es he t r xe=_;rw [a];rfl,fun O=>⟨rfl,O 1,e,?_⟩⟩
    show lv P (O 1) (VK.s.as v)=_
    rw [a,hv]
 | _=>
  rw [f] at c
  subst c b
  exact ⟨rfl,fun O=>⟨rfl,fun j=>O (1 + j),u,t 27,rfl⟩⟩
theorem UG (p:SB) (d:Dat) (I:ae8) (R:cU J.p p d) (g:LfV J.p p.rc p.ro d.sy d.ny .i0 1)
  (H:aX J.p (S3 p.S) [.op (.value 1 d.v.mv),.op (.value 4 (.i 0))] [] []) :
  HRg J.w J.t 100 (bT p 13 27 I) (bLs J.p p I 14 14 (S3 p.S)) ql:=by
 obtain ⟨e1,e2⟩:=R.at4
 have b:=VB (J:=J) (jA d.sx d.v) p I
 rw [e1] at b
 refine HRg.step (j:=14) (by decide) (by decide) b <| elC fun c O h=>?_
 refine ⟨rfl,?_⟩
 have e3:j9 (jA d.sx d.v) J.p p O={ p with t:=(j9 (jA d.sx d.v) J.p p O).t,lc:=(j9 (jA d.sx d.v) J.p p O).lc,lo:=(j9 (jA d.sx d.v) J.p p O).lo }:=by
  have f:∀ q:SB,q=p→({ q with t:=(j9 (jA d.sx d.v) J.p p O).t,lc:=(j9 (jA d.sx d.v) J.p p O).lc,lo:=(j9 (jA d.sx d.v) J.p p O).lo }:SB)={ p with t:=(j9 (jA d.sx d.v) J.p p O).t,lc:=(j9 (jA d.sx d.v) J.p p O).lc,lo:=(j9 (jA d.sx d.v) J.p p O).lo }:=fun q e=>by rw [e]
  exact f _ e1
 have a:=e2 O
 generalize j9 (jA d.sx d.v) J.p p O=q at e3 a ⊢
 rw [e3] at a ⊢
 rw [← jK (p':={ p with t:=q.t,lc:=q.lc,lo:=q.lo }) (I':=c) (p:=p) (I:=I) (fun z z=>rfl) h]
 exact Rv { p with t:=q.t,lc:=q.lc,lo:=q.lo } d c ⟨R.wd,R.o,R.x,R.y,R.cx,R.cy,R.v,R.xs,R.len⟩ a g H
theorem cU.at3 {P:Params} {p:SB} {d:Dat} (R:cU P p d):p.at3 (d.o,d.sy.nm)=p∧∀ I O,LfV P (jx (d.o,d.sy.nm) P p I O).rc (jx (d.o,d.sy.nm) P p I O).ro d.sy d.ny .i0 1:=by
 obtain ⟨u,b⟩:=R.y
 have a:(bVK d.sy.nm).as p.y=p.y:=by rw [b];exact vU _ _
 have e:=R.o
 have c:=R.cy
 refine ⟨by unfold SB.at3;simp only [a,← e],fun I O=>?_⟩
 unfold jx
 cases f:d.sy with
 | n=>exact ⟨rfl,O 12,O 13,rfl⟩
 | _=>
  rw [f] at b
  refine ⟨rfl,fun j=>O (12 + j),u,p.t 28,?_⟩
  show uu P (fun j=>O (12 + j)) 1 (.str (aD p.y) (ak p.y)) (.str p.cy (p.t 28))=_
  rw [b,c];rfl
theorem afe (p:SB) (d:Dat) (I:ae8) (R:cU J.p p d) (H:aX J.p (S2 p.S) [.op (.value 1 d.v.mv)] [] []) :
  HRg J.w J.t 100 (bT p 12 27 I) (bLs J.p p I 13 7 (S2 p.S)) ql:=by
 obtain ⟨e1,e2⟩:=R.at3
 have hn:p.S.n=1:=H.n
 have k:=aaf (J:=J) (d.o,d.sy.nm) p I (by lia)
 rw [e1] at k
 refine HRg.step (j:=13) (by decide) (by decide) k <| elC fun a O A=>?_
 refine ⟨rfl,?_⟩
 obtain ⟨S',b⟩:∃ S',S'=Rn p a O:=⟨_,rfl⟩
 have T:aX J.p S' [.op (.value 1 d.v.mv),.op (.value 4 (.i 0))] [] []:=by
  have z:=H.add (dn J.p (ad a 16) (O 24) (O 25) p.S.tr (O 26) (O 27) 0 0 4 (.i 0))
  rw [b]
  exact z.keep rfl rfl rfl rfl
 have l:S3 S'=S':=by rw [b];rfl
 have m:S'.p=p.S.p:=by rw [b];rfl
 rw [← b]
 have e3:jx (d.o,d.sy.nm) J.p p a O={ p with t:=(jx (d.o,d.sy.nm) J.p p a O).t,r:=fun j=>match j with | 1=>ad a 15 | j=>p.r j,rc:=(jx (d.o,d.sy.nm) J.p p a O).rc,ro:=(jx (d.o,d.sy.nm) J.p p a O).ro }:=by
  have u:∀ q:SB,q=p→({ q with t:=(jx (d.o,d.sy.nm) J.p p a O).t,r:=fun j=>match j with | 1=>ad a 15 | j=>p.r j,rc:=(jx (d.o,d.sy.nm) J.p p a O).rc,ro:=(jx (d.o,d.sy.nm) J.p p a O).ro }:SB)={ p with t:=(jx (d.o,d.sy.nm) J.p p a O).t,r:=fun j=>match j with | 1=>ad a 15 | j=>p.r j,rc:=(jx (d.o,d.sy.nm) J.p p a O).rc,ro:=(jx (d.o,d.sy.nm) J.p p a O).ro }:=fun q e=>by rw [e]
  exact u _ e1
 have h:=e2 a O
 generalize jx (d.o,d.sy.nm) J.p p a O=q at e3 h ⊢
 obtain ⟨c,g,f⟩:∃ c:Nat→Nat,q={ p with t:=q.t,r:=c,rc:=q.rc,ro:=q.ro }∧∀ j,3≤j→c j=p.r j:=⟨_,e3,fun j s=>by
  match j,s with
  | j + 3,_=>rfl⟩
 rw [g] at h ⊢
 have B:bLs J.p { p with t:=q.t,r:=c,rc:=q.rc,ro:=q.ro } a 14 14 S'=bLs J.p { p with t:=q.t,r:=c,rc:=q.rc,ro:=q.ro,S:=S' } a 14 14 (S3 S'):=by
  rw [l]
  exact (Kz (p:={ p with t:=q.t,r:=c,rc:=q.rc,ro:=q.ro }) m a 14 14 S').symm
 rw [B,← jK (p':={ p with t:=q.t,r:=c,rc:=q.rc,ro:=q.ro,S:=S' }) (I':=a) (p:=p) (I:=I) f A]
 exact UG { p with t:=q.t,r:=c,rc:=q.rc,ro:=q.ro,S:=S' } d a ⟨R.wd,R.o,R.x,R.y,R.cx,R.cy,R.v,R.xs,R.len⟩ h (by show aX _ (S3 S') _ _ _;rw [l];exact T)
end
set_option linter.constructorNameAsVariable false
section
variable {J:WB}
theorem aaq (p:SB) (d:Dat) (I:ae8) (R:cU J.p p d) :
  HRg J.w J.t 100 (bT p 7 27 I) (bLs J.p p I 8 3 (S1 p.S)) ql:=by
 have i:=W6 (J:=J) (v8k d.v) p I
 have e1:=R.at
 rw [e1] at i
 refine HRg.step (j:=12) (by decide) (by decide) i <| elC fun a O s=>?_
 refine ⟨rfl,?_⟩
 obtain ⟨u,hv⟩:=R.v
 have h:(v8k d.v).as p.v=d.v.mv.v u:=by rw [hv,qD,V8.mv_v]
 obtain ⟨S',b⟩:∃ S',S'=S6 (v8k d.v) p a O:=⟨_,rfl⟩
 have T:aX J.p S' [.op (.value 1 d.v.mv)] [] []:=by
  have q:=Ops.one (dn J.p (ad a 9) (O 18) (O 19) p.S.tr (O 20) u 0 0 1 d.v.mv)
  rw [b]
  refine ⟨?_,rfl,rfl⟩
  show Ops _ _ [(ad a 9,row J10 (O 18) (.int 0 (O 19)) (.int 1 p.S.tr) (.int 0 (O 20)) ((v8k d.v).as p.v))] []
  rw [h]
  exact q
 have k:S2 S'=S':=by rw [b];rfl
 have l:S'.p=p.S.p:=by rw [b];rfl
 rw [← b]
 have e3:yS (v8k d.v) p a O={ p with t:=(yS (v8k d.v) p a O).t,r:=fun j=>match j with | 0=>ad a 8 | j=>p.r j }:=by
  have n:∀ q:SB,q=p→({ q with t:=(yS (v8k d.v) p a O).t,r:=fun j=>match j with | 0=>ad a 8 | j=>p.r j }:SB)={ p with t:=(yS (v8k d.v) p a O).t,r:=fun j=>match j with | 0=>ad a 8 | j=>p.r j }:=fun q e=>by rw [e]
  exact n _ e1
 generalize yS (v8k d.v) p a O=q at e3 ⊢
 obtain ⟨c,g,f⟩:∃ c:Nat→Nat,q={ p with t:=q.t,r:=c }∧∀ j,3≤j→c j=p.r j:=⟨_,e3,fun j m=>by
  match j,m with
  | j + 3,_=>rfl⟩
 rw [g]
 have z:bLs J.p { p with t:=q.t,r:=c } a 13 7 S'=bLs J.p { p with t:=q.t,r:=c,S:=S' } a 13 7 (S2 S'):=by
  rw [k]
  exact (Kz (p:={ p with t:=q.t,r:=c }) l a 13 7 S').symm
 rw [z,← jK (p':={ p with t:=q.t,r:=c,S:=S' }) (I':=a) (p:=p) (I:=I) f s]
 exact afe { p with t:=q.t,r:=c,S:=S' } d a ⟨R.wd,R.o,R.x,R.y,R.cx,R.cy,R.v,R.xs,R.len⟩ (by show aX _ (S2 S') _ _ _;rw [k];exact T)
theorem WT (p:SB) (d:Dat) (I:ae8) (R:cU J.p p d) :
  HRg J.w J.t 100 (bT p 6 27 I) (tc I 0 (bO J.p p I 7 3)) ql:=by
 have H:=(aq.he (ay _) (LA J p) (by intros;exact tT) I (fun z z z=>rfl)).hr
 have H:HR _ _ _ (bT p 6 7 I) (tc I 0 (bO J.p p I 7 3)++[]) _:=H
 rw [au] at H
 refine HRg.step (j:=7) (by decide) (by decide) (H.mono (need':=100) (ag rfl) fun e L' h=>h) <| elA fun I' O' c=>?_
 refine ⟨rfl,?_⟩
 refine exL (ah ((bP J.p).k + (bP J.p).q) I') fun a b=>?_
 refine exL (ah (bP J.p).it O') fun O f=>?_
 have g:a 0=I 0:=by rw [b];exact c 0 (ag rfl)
 have i:(tc I' 0 ((bP J.p).post p (ah ((bP J.p).k + (bP J.p).q) I') (ah (bP J.p).it O'))++uU J.p ((bP J.p).postX p (ah ((bP J.p).k + (bP J.p).q) I') (ah (bP J.p).it O')))=bLs J.p (jV p a O) a 8 3 (S1 (jV p a O).S):=by
  have e2:tc I' 0 ((bP J.p).post p (ah ((bP J.p).k + (bP J.p).q) I') (ah (bP J.p).it O'))=tc a 0 (bO J.p (jV p a O) a 8 3)++[((S1 (jV p a O).S).p + 1158,(S1 (jV p a O).S).instO),((S1 (jV p a O).S).d + 1158,yw J.p (S1 (jV p a O).S)),((S1 (jV p a O).S).o + 1158,(S1 (jV p a O).S).opsO),((S1 (jV p a O).S).l + 1158,(S1 (jV p a O).S).labelsO)]:=by
   rw [b,f];rfl
  rw [e2,Dc]
  show _++[]=_
  rw [au]
  rfl
 rw [i,← jK (p':=jV p a O) (I':=a) (p:=p) (I:=I) (fun z z=>rfl) g]
 exact aaq (jV p a O) d a ⟨R.wd,R.o,R.x,R.y,R.cx,R.cy,R.v,R.xs,R.len⟩
end
set_option linter.constructorNameAsVariable false
structure SZ where
 xs:Array Value
 a:Int
 b:Int
 ta:Tok
 tb:Tok
 ms:Array Value
 vs:Array Value
 ve:Nat
 v:Value
 o:Bool
 w:Str
 x:Value
 y:Value
 cx:Str
 cy:Str
 t:Nat→Tok
def zFr (P:Params) (p:SZ) (I:ae8):List DictEntry:=[dF P J64 (p.t 0) (.ref (ad I 1)),dF P J6 (p.t 1) (.ref (ad I 6)),dF P J2 (p.t 2) p.v,dF P YU (p.t 3) (.bool p.o),dF P J35 (p.t 4) (.str p.w (p.t 5)),dF P J75 (p.t 6) (.ref (ad I 7)),dF P J51 (p.t 7) (.ref (ad I 8))]
def zO (P:Params) (p:SZ) (I:ae8) (n m:Nat):List Obj:=frO ((zFr P p I).take n) n :: ([ab p.xs 0,aH (some (.ref (ad I 4))),aH (some (.ref (ad I 5))),src (.int p.a p.ta) (.int p.b p.tb),ab p.ms 0,ab p.vs p.ve,ab ⟨[p.x,p.y]⟩ 0,ab ⟨[.str p.cx (p.t 27),.str p.cy (p.t 28)]⟩ 0].take m)
def zT (i j:Nat) (I:ae8):bx:=lQ i j (ad I 0) (ad I 2) (ad I 3)
def sw (t:Nat→Tok):Array Value:=⟨[.none,.int 0 (t 0),.int 1 (t 1),.int 2 (t 2),.str (sv J76) (t 3),.str (sv J89) (t 4),.str (sv J72) (t 5),.str (sv J95) (t 6)]⟩
def St (p:SZ) (O:ae8):SZ:={ p with a:=ff (dc p.xs),b:=eR (dc p.xs),ta:=O 0,tb:=O 1,ms:=sw (fun j=>O (2 + j)) }
structure DS where
 a:Int
 b:Int
 ta:Tok
 tb:Tok
def DS.nx (s:DS) (top:Int) (u:Tok):DS:=⟨ce s.a s.b top,cb s.a s.b,b5 s.a s.ta u,akB s.a s.tb u⟩
def DS.d (s:DS) (top:Int):Nat:=(aQ s.a s.b top).toNat
noncomputable def SZ.ds (p:SZ):DS:=⟨p.a,p.b,p.ta,p.tb⟩
noncomputable def SZ.z (p:SZ):Int:=Int.ofNat p.ms.size
inductive NZ where
 | z [h:Nonempty Nat] | o | t | h
noncomputable def eNZ:Enu NZ:=⟨[.z,.o,.t,.h],by intro v;cases v<;>repeat constructor⟩
noncomputable def NZ.n:NZ→Nat
 | .z=>0
 | .o=>1
 | .t=>2
 | .h=>3
def SZ.d2 (p:SZ) (u:Nat→Tok):DS:=(p.ds.nx p.z (u 0)).nx 4 (u 1)
def JH (v:VK × NZ) (p:SZ) (O:ae8):SZ:={ p with t:=fun j=>match j with | 1=>O 2 | 2=>O 3 | j=>p.t j,v:=v.1.as (ae p.ms (p.ds.d p.z)),a:=oU p.z v.2.n (p.d2 O).a (p.d2 O).b,b:=px p.z v.2.n (p.d2 O).a (p.d2 O).b,ta:=O 0,tb:=O 1,vs:=⟨iO p.ms v.2.n (p.d2 O).a (p.d2 O).b⟩,ve:=v.2.n }
def Oj (v:VK × NZ) (p:SZ) (O:ae8):List Bool:=[aR (p.d2 O).a (p.d2 O).b,ck p.ms,true,aR (p.ds.nx p.z 0).a (p.ds.nx p.z 0).b,true,eqI (aQ (p.ds.nx p.z 0).a (p.ds.nx p.z 0).b 4) (Int.ofNat v.2.n),inB p.ms (aQ p.a p.b p.z),v.1.is (ae p.ms (p.ds.d p.z)),aR p.a p.b,dV p.z,Nat.ble p.ms.size 16777216]
def nz (t:Nat→Tok):Array Value:=⟨[.str (sv YL) (t 0),.str (sv YL) (t 1),.str (sv agC) (t 2),.str (sv J58) (t 3),.str (sv af4) (t 4),.str (sv J2) (t 5)]⟩
def mA (t:Nat→Tok):Array Value:=⟨[.none,.str (sv J47) (t 0),.str (sv J80) (t 1),.str (sv aah) (t 2)]⟩
def jh (t:Nat→Tok):Array Value:=⟨[.str (sv J30) (t 0),.str (sv J59) (t 1)]⟩
def SZ.e1 (p:SZ) (u:Nat→Tok):DS:=p.ds.nx 6 (u 0)
def SZ.e2 (p:SZ) (u:Nat→Tok):DS:=(p.e1 u).nx 2 (u 1)
def SZ.e3 (p:SZ) (u:Nat→Tok):DS:=(p.e2 u).nx 4 (u 2)
def SZ.e4 (p:SZ) (u:Nat→Tok):DS:=(p.e3 u).nx 4 (u 3)
def SZ.e5 (p:SZ) (u:Nat→Tok):DS:=(p.e4 u).nx 2 (u 4)
def SZ.e6 (p:SZ) (u:Nat→Tok):DS:=(p.e5 u).nx 2 (u 5)
def SZ.wo (p:SZ) (t:Nat→Tok):Value:=ae (nz t) (p.ds.d 6)
def SZ.xx (p:SZ) (t u:Nat→Tok):Value:=ae (mA t) ((p.e2 u).d 4)
def SZ.yy (p:SZ) (t u:Nat→Tok):Value:=ae (mA t) ((p.e3 u).d 4)
def SZ.c1 (p:SZ) (t u:Nat→Tok):Value:=ae (jh t) ((p.e4 u).d 2)
def SZ.c2 (p:SZ) (t u:Nat→Tok):Value:=ae (jh t) ((p.e5 u).d 2)
def tZ (v:Bool × Bool) (p:SZ) (O:ae8):SZ:={ p with
 o:=eqI (aQ (p.e1 O).a (p.e1 O).b 2) 1,w:=aD (p.wo (fun j=>O (10 + j))),x:=(bVK v.1).as (p.xx (fun j=>O (20 + j)) O),y:=(bVK v.2).as (p.yy (fun j=>O (24 + j)) O),cx:=aD (p.c1 (fun j=>O (30 + j)) O),cy:=aD (p.c2 (fun j=>O (32 + j)) O),
 a:=(p.e6 O).a,b:=(p.e6 O).b,ta:=(p.e6 O).ta,tb:=(p.e6 O).tb,
 t:=fun j=>match j with | 3=>O 6 | 4=>O 7 | 5=>ak (p.wo (fun j=>O (10 + j))) | 6=>O 8 | 7=>O 9 | 27=>ak (p.c1 (fun j=>O (30 + j)) O) | 28=>ak (p.c2 (fun j=>O (32 + j)) O) | j=>p.t j }
def yV (ms:Array Value) (s:DS) (k:VK):List Bool:=[inB ms (aQ s.a s.b (Int.ofNat ms.size)),k.is (ae ms (aQ s.a s.b (Int.ofNat ms.size)).toNat),aR s.a s.b,dV (Int.ofNat ms.size),Nat.ble ms.size 16777216]
noncomputable def Cs:List Nat:=(by walk_at "#l3h|nzZhZ-kz")
def P8 (v:Bool × Bool) (p:SZ) (u:ae8):List Bool:=yV (jh (fun j=>u (32 + j))) (p.e5 u) .s++(yV (jh (fun j=>u (30 + j))) (p.e4 u) .s++(yV (mA (fun j=>u (24 + j))) (p.e3 u) (bVK v.2)++(yV (mA (fun j=>u (20 + j))) (p.e2 u) (bVK v.1)++([aR (p.e1 u).a (p.e1 u).b,dV 2]++yV (nz (fun j=>u (10 + j))) p.ds .s))))
def Mh (v:Bool × Bool) (p:SZ) (O:ae8):List Bool:=P8 v p (fun j=>O (Cs.getD j 0))
noncomputable def aj9 (p:SZ):XT:=none
def abY (J:WB):List (SG J):=smS ([(isR 1072 2,UE J)]:CL J)
def z0 (P:Params):aq SZ:=akt.spec ((⟨4,2,2,9,13,41,false,[0,1,2,3,4,5],[2,1,3,4,5,6,7,8,9],[0,1,0,1,1,5,5,7,7]⟩:akt) ) (fun p I=>zT 0 2 I) (fun p I=>[frO ((zFr P p I).take 1) 1,ab p.xs 0,aH none,aH none]) (aj9 ) (fun p I O=>.next) (fun p I O=>zO P (St p O) I 1 5) (fun p I O=>none) (fun p I O=>[OV.hb (pC p.xs)]) (fun p I O=>[OV.hb true])
theorem MC (J:WB) (p:SZ):(z0 J.p).Runs J.w J.t (abY J) p:=S4
def abx (v:VK × NZ) (J:WB):List (SG J):=smS ([(isR 1086 2,match v.1 with | .n=>ael .n J | .i=>ael .i J | .s=>ael .s J),(isR 1079 2,L0 J v.2.n),(of,Sa J)]:CL J)
noncomputable def YZ (v:VK × NZ):List Nat:=match v.2 with | .z=>adL | .o | .t | .h=>(by walk_at "#imXiB-jl%nejA3l:.m&e&dwj?dbjjlslsgme-")
def z1 (v:VK × NZ) (P:Params):aq SZ:=akt.spec ((⟨6,1,1,4,11,134,false,[0,1,2,3,4,5,8],[10,11,12,13],YZ v⟩:akt) ) (fun p I=>zT 2 3 I) (fun p I=>zO P p I 1 5) (fun p=>none) (fun p I O=>.next) (fun p I O=>zO P (JH v p O) I 3 6) (fun p I O=>none) (fun p I O=>(Oj v p O).map .hb) (fun p I O=>bl (Oj v p O))
theorem No (v:VK × NZ) (J:WB) (p:SZ):(z1 v J.p).Runs J.w J.t (abx v J) p:=amK (eVK.pr eNZ) (fun v J=>z1 v J.p) (fun v J=>abx v J) v J p
def abB (v:Bool × Bool) (J:WB):List (SG J):=smS ([(isR 1086 2,ael .s J),(isR 1086 2,ael .n J),(isR 1079 2,nA J),(isB "int.__eq__",Sv _ _)]:CL J)
noncomputable def Z0 (v:Bool × Bool):List Nat:=match v.1 with | false=>(match v.2 with | false=>(by walk_at "#mbf;nykz") | true=>(by walk_at "#mbf;fj&o*")) | true=>(match v.2 with | false=>(by walk_at "#mbnzf;o*") | true=>(by walk_at "#mbnz6fj&o*"))
noncomputable def Y1 (v:Bool × Bool):List Nat:=match v.1 with | false=>(match v.2 with | false=>(by walk_at "#myCjl`/#jlm~") | true=>(by walk_at "#myCjl`/jBm~")) | true=>(match v.2 with | false=>(by walk_at "#myjc`/#jlm~") | true=>(by walk_at "#myjc`/jBm~"))
def z2 (v:Bool × Bool) (P:Params):aq SZ:=akt.spec ((⟨7,2,2,34,9,171,false,[0,1,2,3,4,5,6,14,17],Z0 v,Y1 v⟩:akt) ) (fun p I=>zT 3 6 I) (fun p I=>zO P p I 3 6) (fun p=>none) (fun p I O=>.next) (fun p I O=>zO P (tZ v p O) I 7 8) (fun p I O=>none) (fun p I O=>(Mh v p O).map .hb) (fun p I O=>bl (Mh v p O))
theorem Mo (v:Bool × Bool) (J:WB) (p:SZ):(z2 v J.p).Runs J.w J.t (abB v J) p:=amK (amJ.pr amJ) (fun v J=>z2 v J.p) (fun v J=>abB v J) v J p
noncomputable def aj8 (p:SZ):XT:=none
def ach (J:WB):List (SG J):=smS ([]:CL J)
def zc (P:Params):aq SZ:=akt.spec ((⟨1,3,3,1,2,19,true,[0,1,2,3],[0],[0,3,3]⟩:akt) ) (fun p I=>.code (.call (.ref 1157) ⟨[.ref (ad I 0)],[]⟩:Code)) (fun p I=>[ab p.xs 0]) (aj8 ) (fun p I O=>.again (.func cT (eN (ad I 1) (ad I 2) (ad I 3)))) (fun p I O=>[ab p.xs 0,frO [dF P J64 (O 0) (.ref (ad I 0))] 1,aH none,aH none]) (fun p I O=>none) (fun p I O=>[]) (fun p I O=>[])
theorem afc (J:WB) (p:SZ):(zc J.p).Runs J.w J.t (ach J) p:=S4
set_option linter.constructorNameAsVariable false
section
variable {w:World} {top:Tr} {need:Nat} {st:bx} {L:XL} {P1 P2:En→XL→Prop} {c:Code} {env:Env}
theorem HRg.frame (H:HRg w top need st L P1) (M:XL):HRg w top need st (L++M) (fun e L'=>∃ j,L'=j++M∧P1 e j):=fun A R h g d tk os k u t hb n v=>by
 refine H A R h g d tk os k u t hb n.sub fun e j p l s r i f m=>?_
 refine v e (j++M) p l ⟨j,rfl,s⟩ (n.keep r f i) (fun a ha=>?_) (fun b o e hn=>f b o e fun hq=>hn (by rw [eQ];exact uj _ hq)) m
 rw [eQ,uC] at ha
 rcases ha with ha | ha
 · rcases i a ha with q | q
   · exact .inl (by rw [eQ];exact uj _ q)
   · exact .inr q
 · exact .inl (by rw [eQ];exact u9 _ ha)
theorem HRg.perm {L':XL} (H:HRg w top need st L P1) (j:L.Perm L'):HRg w top need st L' P1:=fun A R h g d tk os f y u hb s x=>by
 have k:∀ a,a∈L.map (·.1) ↔ a∈L'.map (·.1):=fun a=>(j.map _).mem_iff
 exact H A R h g d tk os f y u hb (s.perm j.symm) fun e M l i t m v r h5=>x e M l i t m (fun a p=>(v a p).imp (k a).mp id) (fun b o q n=>r b o q fun z=>n ((k b).mp z)) h5
theorem HRg.again (H:HR w top need st L P1) (J:∀ e L',P1 e L'→∃ c,e=.again c∧c.quiet=true∧HRg w top need (.code c) L' P2):HRg w top need st L P2:=
 fun A R h g d tk os i s m hb r G=>H A R h g d tk os s m hb r fun e L' C k E y t p h5=>by
  obtain ⟨c,rfl,hq,D⟩:=J e L' E
  refine ⟨hq,D A R C g d k os i s (hJ m r p) (wt hb h5) y fun e2 K j f F B u v x=>?_⟩
  refine G e2 K j f F B (fun a M=>?_) (fun b o q n=>?_) (wt h5 x)
  · rcases u a M with z | z
    · exact t a z
    · exact .inr (wt h5 z)
  · refine v b o (p b o q n) fun l=>?_
    rcases t b l with z | z
    · exact n z
    · exact absurd (Dt q) (D7.mpr z)
theorem HRg.func {b:List Stmt} (H:HRg w top need (.tree (.func b env) (blk b env)) L P1) (l:∀ e L',P1 e L'→∃ v,e=.ret v):HRg w top need (.code (.func b env)) L P1:=fun A R h g d tk os a r o hb n q=>by
 refine mQ (H A _ h g d tk os a r o hb n fun e L' j f i k p m h5=>?_)
 have:=q _ L' j f i k p m h5
 obtain ⟨v,rfl⟩:=l e L' i
 exact this
theorem HRg.stepL {f s m i j k:Nat} (d:i≤j) (a:j≤k) (H:HR w top need (lQ i j f s m) L P1) (b:∀ e L',P1 e L'→e=.next∧HRg w top need (lQ j k f s m) L' P2):HRg w top need (lQ i k f s m) L P2:=by
 have e:lQ i k f s m=.tree (.func cT (eN f s m)) (blk (bu cT i j++bu cT j k) (eN f s m)):=by rw [← rV d a];rfl
 rw [e]
 exact HRg.blocks H b
end
theorem o9 {s:DS} (h:aR s.a s.b=true) {t:Int} (d:dV t=true) (u:Tok):aR (s.nx t u).a (s.nx t u).b=true:=pu h d
theorem xT {ms:Array Value} (h:ck ms=true):dV (Int.ofNat ms.size)=true∧Nat.ble ms.size 16777216=true:=by
 unfold ck at h
 obtain ⟨h,-⟩:=iR.mp h
 obtain ⟨a,b⟩:=iR.mp h
 have a:=ag a
 have b:=ag b
 refine ⟨?_,aF (by lia)⟩
 simp only [dV,Da,Vv]
 exact ⟨by show (1:Int)≤((ms.size:Nat):Int);lia,by show ((ms.size:Nat):Int)≤1000;lia⟩
theorem kM {ms:Array Value} {s:DS} {k:VK} (d:ck ms=true) (g:aR s.a s.b=true) (hk:k.is (ae ms (aQ s.a s.b (Int.ofNat ms.size)).toNat)=true):∀ b∈yV ms s k,b=true:=by
 obtain ⟨e,t2⟩:=xT d
 obtain ⟨f,d2⟩:=cO (a:=s.a) (b:=s.b) e
 unfold yV
 refine anb ?_ (anb ?_ (anb ?_ (anb ?_ (anb ?_ anc))))
 · exact (cP d f d2).1
 · exact hk
 · exact g
 · exact e
 · exact t2
theorem Ck (t:Nat→Tok) (i:Nat):∃ x u,ae (sw t) i=V8.v u x:=by
 match i with
 | 0=>exact ⟨.n,0,rfl⟩
 | 1=>exact ⟨.i0,t 0,rfl⟩
 | 2=>exact ⟨.i1,t 1,rfl⟩
 | 3=>exact ⟨.i2,t 2,rfl⟩
 | 4=>exact ⟨.a,t 3,rfl⟩
 | 5=>exact ⟨.A,t 4,rfl⟩
 | 6=>exact ⟨.s2,t 5,rfl⟩
 | 7=>exact ⟨.b,t 6,rfl⟩
 | i + 8=>exact ⟨.n,0,rfl⟩
theorem Bw (t:Nat→Tok):∀ (n:Nat) (a b:Int),∃ vs:List V8,vs.length=n∧bk (iO (sw t) n a b) vs
 | 0,_,_=>⟨[],rfl,trivial⟩
 | n + 1,a,b=>by
  obtain ⟨vs,d,e⟩:=Bw t n (ce a b (Int.ofNat (sw t).size)) (cb a b)
  obtain ⟨x,u,f⟩:=Ck t (aQ a b (Int.ofNat (sw t).size)).toNat
  exact ⟨x :: vs,by simp [d],⟨u,f⟩,e⟩
theorem BM (i:Nat):∃ x,∀ t,∃ u,ae (mA t) i=SD.v u x:=by
 match i with
 | 0=>exact ⟨.n,fun t=>⟨0,rfl⟩⟩
 | 1=>exact ⟨.i,fun t=>⟨t 0,rfl⟩⟩
 | 2=>exact ⟨.t,fun t=>⟨t 1,rfl⟩⟩
 | 3=>exact ⟨.b,fun t=>⟨t 2,rfl⟩⟩
 | i + 4=>exact ⟨.n,fun t=>⟨0,rfl⟩⟩
theorem In:∀ i,i < 6→∃ x,∀ t,∃ u,ae (nz t) i=.str (WD.s x) u:=
 bnd ⟨.i,fun t=>⟨t 0,rfl⟩⟩ (bnd ⟨.i,fun t=>⟨t 1,rfl⟩⟩ (bnd ⟨.ni,fun t=>⟨t 2,rfl⟩⟩ (bnd ⟨.e,fun t=>⟨t 3,rfl⟩⟩ (bnd ⟨.ne,fun t=>⟨t 4,rfl⟩⟩ (bnd ⟨.v,fun t=>⟨t 5,rfl⟩⟩ anF)))))
theorem vx:∀ i,i < 2→∃ x,∀ t,∃ u,ae (jh t) i=.str (aA x) u:=
 bnd ⟨false,fun t=>⟨t 0,rfl⟩⟩ (bnd ⟨true,fun t=>⟨t 1,rfl⟩⟩ anF)
theorem AV {s:DS} {n:Nat} (h:1≤n) (g:n≤1000):s.d (Int.ofNat n) < n:=by
 have e:dV (Int.ofNat n)=true:=by
  simp only [dV,Da,Vv]
  exact ⟨by show (1:Int)≤((n:Nat):Int);lia,by show ((n:Nat):Int)≤1000;lia⟩
 obtain ⟨f,d2⟩:=cO (a:=s.a) (b:=s.b) e
 unfold DS.d
 have d2:aQ s.a s.b (Int.ofNat n) < ((n:Nat):Int):=d2
 lia
theorem OP (x:SD) (u:Tok):(bVK x.nm).is (x.v u)=true:=by cases x<;>rfl
section
variable {J:WB}
def wP (a:Nat) (xs:Array Value) (e:En) (L':XL):Prop:=e=.ret (.bool true)∧(a,ab xs 0)∈L'
theorem aaD (v:Bool × Bool) (p:SZ) (I:ae8) (a:∀ O,∀ b∈Mh v p O,b=true):HRG J 100 (zT 3 6 I) (tc I 0 (zO J.p p I 3 6))
  (fun e L'=>e=.next∧∃ I' O,(∀ j,j < 4→I' j=I j)∧L'=tc I' 0 (zO J.p (tZ v p O) I' 7 8)):=by
 have H:=(aq.he (ay _) (Mo v J p) (by intros;exact tT) I (fun I' O z=>dy (a O))).hr
 have H:HR _ _ _ (zT 3 6 I) (tc I 0 (zO J.p p I 3 6)++[]) _:=H
 rw [au] at H
 refine H.mono (ag rfl) <| elA fun I' O' d=>?_
 refine ⟨rfl,ah ((z2 v J.p).k + (z2 v J.p).q) I',ah (z2 v J.p).it O',fun j f=>?_,au _⟩
 exact (aJ (n:=(z2 v J.p).k + (z2 v J.p).q) (show j < 9 by lia)).trans (d j (show j < 7 by lia))
def ald (p:SZ) (wd:WD) (I:ae8):SB:={ SB.stand with xs:=p.vs,xe:=p.ve,v:=p.v,o:=p.o,wd:=wd,x:=p.x,y:=p.y,cx:=p.cx,cy:=p.cy,t:=p.t,r:=fun j=>match j with | 2=>ad I 1 | 3=>ad I 2 | 4=>ad I 3 | _=>0 }
theorem Ts (p:SZ) (d:Dat) (I:ae8) (i:p.w=d.wd.s) (R:cU J.p (ald p d.wd I) d) :
  HRg J.w J.t 100 (lQ 6 27 (ad I 0) (ad I 2) (ad I 3)) (tc I 0 (zO J.p p I 7 8)) (wP (ad I 1) p.xs):=by
 refine exL (fun j=>match j with | 0=>I 0 | 1=>I 6 | 2=>I 7 | _=>I 8:ae8) fun f g=>?_
 have H:=(WT (J:=J) (ald p d.wd I) d f R).frame [(ad I 1,ab p.xs 0),(ad I 2,aH (some (.ref (ad I 4)))),(ad I 3,aH (some (.ref (ad I 5)))),(ad I 4,src (.int p.a p.ta) (.int p.b p.tb)),(ad I 5,ab p.ms 0)]
 have hT:bT (ald p d.wd I) 6 27 f=lQ 6 27 (ad I 0) (ad I 2) (ad I 3):=by rw [g];rfl
 rw [hT] at H
 have e1:tc f 0 (bO J.p (ald p d.wd I) f 7 3)=[(ad I 0,frO ((zFr J.p p I).take 7) 7),(ad I 6,ab p.vs p.ve),(ad I 7,ab ⟨[p.x,p.y]⟩ 0),(ad I 8,ab ⟨[.str p.cx (p.t 27),.str p.cy (p.t 28)]⟩ 0)]:=by
  have:(zFr J.p p I)=(zFr J.p { p with w:=d.wd.s } I):=by rw [← i]
  rw [this,g];rfl
 rw [e1] at H
 refine (H.perm ?_).mono (ai _) fun e L' k=>?_
 · show List.Perm ([(ad I 0,frO ((zFr J.p p I).take 7) 7),(ad I 6,ab p.vs p.ve),(ad I 7,ab ⟨[p.x,p.y]⟩ 0),(ad I 8,ab ⟨[.str p.cx (p.t 27),.str p.cy (p.t 28)]⟩ 0)]++[(ad I 1,ab p.xs 0),(ad I 2,aH (some (.ref (ad I 4)))),(ad I 3,aH (some (.ref (ad I 5)))),(ad I 4,src (.int p.a p.ta) (.int p.b p.tb)),(ad I 5,ab p.ms 0)])
    [(ad I 0,frO ((zFr J.p p I).take 7) 7),(ad I 1,ab p.xs 0),(ad I 2,aH (some (.ref (ad I 4)))),(ad I 3,aH (some (.ref (ad I 5)))),(ad I 4,src (.int p.a p.ta) (.int p.b p.tb)),(ad I 5,ab p.ms 0),(ad I 6,ab p.vs p.ve),(ad I 7,ab ⟨[p.x,p.y]⟩ 0),(ad I 8,ab ⟨[.str p.cx (p.t 27),.str p.cy (p.t 28)]⟩ 0)]
   exact ane (L:=[]) (E:=[_,_,_,_,_,_,_,_,_]) (.a (.c 0 (.c 1 (.c 2 (.c 3 .n)))) (.c 4 (.c 5 (.c 6 (.c 7 (.c 8 .n)))))) (.c 0 (.c 4 (.c 5 (.c 6 (.c 7 (.c 8 (.c 1 (.c 2 (.c 3 .n))))))))) rfl
 · obtain ⟨l,rfl,h⟩:=k
   exact ⟨h,u9 _ (gw ..)⟩
theorem V0 (p:SZ) (I:ae8) (N:aR p.a p.b=true) (hv:∃ x u,p.v=V8.v u x) (k:∃ vs:List V8,vs.length≤3∧bk p.vs.toList vs) :
  HRg J.w J.t 100 (lQ 3 27 (ad I 0) (ad I 2) (ad I 3)) (tc I 0 (zO J.p p I 3 6)) (wP (ad I 1) p.xs):=by
 obtain ⟨x,T,P⟩:=hv
 obtain ⟨vs,hl,i⟩:=k
 have s0:aR p.ds.a p.ds.b=true:=N
 have s1:∀ u,aR (p.e1 u).a (p.e1 u).b=true:=fun u=>o9 s0 rfl _
 have s2:∀ u,aR (p.e2 u).a (p.e2 u).b=true:=fun u=>o9 (s1 u) rfl _
 have B:∀ u,aR (p.e3 u).a (p.e3 u).b=true:=fun u=>o9 (s2 u) rfl _
 have l:∀ u,aR (p.e4 u).a (p.e4 u).b=true:=fun u=>o9 (B u) rfl _
 have X:∀ u,aR (p.e5 u).a (p.e5 u).b=true:=fun u=>o9 (l u) rfl _
 obtain ⟨wd,A⟩:=In (p.ds.d 6) (AV (n:=6) (by decide) (by decide))
 obtain ⟨sx,C⟩:=BM ((p.e2 (fun y=>0)).d 4)
 obtain ⟨sy,hb⟩:=BM ((p.e3 (fun y=>0)).d 4)
 obtain ⟨nx,D⟩:=vx ((p.e4 (fun y=>0)).d 2) (AV (n:=2) (by decide) (by decide))
 obtain ⟨ny,hd⟩:=vx ((p.e5 (fun y=>0)).d 2) (AV (n:=2) (by decide) (by decide))
 refine HRg.stepL (j:=6) (by decide) (by decide) (aaD (sx.nm,sy.nm) p I fun O=>?_) <| elC fun m O K=>?_
 · unfold Mh
   generalize (fun j=>O (Cs.getD j 0))=u
   intro b f
   unfold P8 at f
   have kc:∀ t,ck (jh t)=true:=fun t=>rfl
   have z:∀ t,ck (mA t)=true:=fun t=>rfl
   have F:∀ t,ck (nz t)=true:=fun t=>rfl
   rcases uC.mp f with h | f
   · refine kM (kc _) (X u) ?_ b h
     obtain ⟨q,e⟩:=hd (fun j=>u (32 + j))
     exact (congrArg (VK.is .s) e).trans rfl
   rcases uC.mp f with h | f
   · refine kM (kc _) (l u) ?_ b h
     obtain ⟨q,e⟩:=D (fun j=>u (30 + j))
     exact (congrArg (VK.is .s) e).trans rfl
   rcases uC.mp f with h | f
   · refine kM (z _) (B u) ?_ b h
     obtain ⟨q,e⟩:=hb (fun j=>u (24 + j))
     exact (congrArg (VK.is (bVK sy.nm)) e).trans (OP sy q)
   rcases uC.mp f with h | f
   · refine kM (z _) (s2 u) ?_ b h
     obtain ⟨q,e⟩:=C (fun j=>u (20 + j))
     exact (congrArg (VK.is (bVK sx.nm)) e).trans (OP sx q)
   rcases uC.mp f with h | f
   · simp only [b9,gv,dj] at h
     rcases h with h | h<;>rw [h]
     · exact s1 u
     · rfl
   · refine kM (F _) s0 ?_ b f
     obtain ⟨q,e⟩:=A (fun j=>u (10 + j))
     exact (congrArg (VK.is .s) e).trans rfl
 · refine ⟨rfl,?_⟩
   obtain ⟨Y,e1⟩:=A (fun j=>O (10 + j))
   obtain ⟨E,e2⟩:=C (fun j=>O (20 + j))
   obtain ⟨r,e3⟩:=hb (fun j=>O (24 + j))
   obtain ⟨q4,e4⟩:=D (fun j=>O (30 + j))
   obtain ⟨Z,e5⟩:=hd (fun j=>O (32 + j))
   have G:(tZ (sx.nm,sy.nm) p O).w=wd.s:=by
    show aD (ae (nz fun j=>O (10 + j)) (p.ds.d 6))=_
    rw [e1];rfl
   have Q:(tZ (sx.nm,sy.nm) p O).x=sx.v E:=by
    show (bVK sx.nm).as (ae (mA fun j=>O (20 + j)) ((p.e2 (fun y=>0)).d 4))=_
    rw [e2];exact vU _ _
   have W:(tZ (sx.nm,sy.nm) p O).y=sy.v r:=by
    show (bVK sy.nm).as (ae (mA fun j=>O (24 + j)) ((p.e3 (fun y=>0)).d 4))=_
    rw [e3];exact vU _ _
   have R:(tZ (sx.nm,sy.nm) p O).cx=aA nx:=by
    show aD (ae (jh fun j=>O (30 + j)) ((p.e4 (fun y=>0)).d 2))=_
    rw [e4];rfl
   have M:(tZ (sx.nm,sy.nm) p O).cy=aA ny:=by
    show aD (ae (jh fun j=>O (32 + j)) ((p.e5 (fun y=>0)).d 2))=_
    rw [e5];rfl
   have H:=Ts (J:=J) (tZ (sx.nm,sy.nm) p O) ⟨wd,(tZ (sx.nm,sy.nm) p O).o,sx,sy,nx,ny,x,vs⟩ m G ⟨rfl,rfl,⟨E,Q⟩,⟨r,W⟩,R,M,⟨T,P⟩,i,hl⟩
   have g:∀ j,j < 4→ad m j=ad I j:=fun j S=>by unfold ad;rw [K j S]
   rw [g 0 (by decide),g 1 (by decide),g 2 (by decide),g 3 (by decide)] at H
   exact H
end
set_option linter.constructorNameAsVariable false
section
variable {J:WB}
theorem ZE (v:VK × NZ) (p:SZ) (I:ae8) (a:∀ O,∀ b∈Oj v p O,b=true):HRG J 100 (zT 2 3 I) (tc I 0 (zO J.p p I 1 5))
  (fun e L'=>e=.next∧∃ I' O,(∀ j,j < 4→I' j=I j)∧L'=tc I' 0 (zO J.p (JH v p O) I' 3 6)):=by
 have H:=(aq.he (ay _) (No v J p) (by intros;exact tT) I (fun I' O z=>dy (a O))).hr
 have H:HR _ _ _ (zT 2 3 I) (tc I 0 (zO J.p p I 1 5)++[]) _:=H
 rw [au] at H
 refine H.mono (ag rfl) <| elA fun I' O' c=>?_
 refine ⟨rfl,ah ((z1 v J.p).k + (z1 v J.p).q) I',ah (z1 v J.p).it O',fun j d=>?_,au _⟩
 exact (aJ (n:=(z1 v J.p).k + (z1 v J.p).q) (show j < 7 by lia)).trans (c j (show j < 6 by lia))
noncomputable def Ws (n:Nat):NZ:=match n with
 | 0=>.z
 | 1=>.o
 | 2=>.t
 | _=>.h
theorem R7:∀ n,n < 4→(Ws n).n=n:=bnd rfl (bnd rfl (bnd rfl (bnd rfl anF)))
theorem XU (p:SZ) (t:Nat→Tok) (f:p.ms=sw t) (I:ae8) (E:aR p.a p.b=true) :
  HRg J.w J.t 100 (lQ 2 27 (ad I 0) (ad I 2) (ad I 3)) (tc I 0 (zO J.p p I 1 5)) (wP (ad I 1) p.xs):=by
 have hz:p.z=8:=by unfold SZ.z;rw [f];rfl
 have c:ck p.ms=true:=by rw [f];rfl
 have s0:aR p.ds.a p.ds.b=true:=E
 have i:dV p.z=true:=by rw [hz];rfl
 have s1:∀ u,aR (p.ds.nx p.z u).a (p.ds.nx p.z u).b=true:=fun u=>o9 s0 i u
 have s2:∀ u,aR (p.d2 u).a (p.d2 u).b=true:=fun u=>o9 (s1 _) rfl _
 obtain ⟨x,r,F⟩:=Ck t (p.ds.d p.z)
 have e:ae p.ms (p.ds.d p.z)=V8.v r x:=by rw [f];exact F
 have k:(p.ds.nx p.z 0).d 4 < 4:=AV (n:=4) (by decide) (by decide)
 refine exL (Ws ((p.ds.nx p.z 0).d 4)) fun n hn=>?_
 have l:n.n=(p.ds.nx p.z 0).d 4:=by rw [hn];exact R7 _ k
 refine HRg.stepL (j:=3) (by decide) (by decide) (ZE (v8k x,n) p I fun O=>?_) <| elC fun A O B=>?_
 · unfold Oj
   refine anb ?_ (anb ?_ (anb rfl (anb ?_ (anb rfl (anb ?_ (anb ?_ (anb ?_ (anb ?_ (anb ?_ (anb ?_ anc))))))))))
   · exact s2 O
   · exact c
   · exact s1 0
   · obtain ⟨s,d2⟩:=cO (a:=(p.ds.nx p.z 0).a) (b:=(p.ds.nx p.z 0).b) (top:=4) rfl
     rw [l]
     unfold DS.d eqI
     have:aQ (p.ds.nx p.z 0).a (p.ds.nx p.z 0).b 4=Int.ofNat (aQ (p.ds.nx p.z 0).a (p.ds.nx p.z 0).b 4).toNat:=by
      show _=(((aQ (p.ds.nx p.z 0).a (p.ds.nx p.z 0).b 4).toNat:Nat):Int)
      lia
     exact beq_iff_eq.mpr this
   · obtain ⟨s,d2⟩:=cO (a:=p.a) (b:=p.b) (top:=p.z) i
     exact (cP c s d2).1
   · rw [e];cases x<;>rfl
   · exact s0
   · exact i
   · exact (xT c).2
 · refine ⟨rfl,?_⟩
   have hv:∃ y u,(JH (v8k x,n) p O).v=V8.v u y:=⟨x,r,by
    show (v8k x).as (ae p.ms (p.ds.d p.z))=_
    rw [e];exact qD _ _⟩
   have o:∃ vs:List V8,vs.length≤3∧bk (JH (v8k x,n) p O).vs.toList vs:=by
    obtain ⟨vs,G,D⟩:=Bw t n.n (p.d2 O).a (p.d2 O).b
    refine ⟨vs,by lia,?_⟩
    show bk (iO p.ms n.n (p.d2 O).a (p.d2 O).b) vs
    rw [f];exact D
   have q:∀ (m:Nat) (a b:Int),aR a b=true→aR (oU p.z m a b) (px p.z m a b)=true:=by
    intro m
    induction m with
    | zero=>exact fun a b h=>h
    | succ m ih=>exact fun a b h=>ih _ _ (pu h i)
   have H:=V0 (J:=J) (JH (v8k x,n) p O) A (q _ _ _ (s2 O)) hv o
   have g:∀ j,j < 4→ad A j=ad I j:=fun j C=>by unfold ad;rw [B j C]
   rw [g 0 (by decide),g 1 (by decide),g 2 (by decide),g 3 (by decide)] at H
   exact H
theorem WF (p:SZ) (I:ae8) (l:pC p.xs=true) :
  HRg J.w J.t 100 (lQ 0 27 (ad I 0) (ad I 2) (ad I 3)) (tc I 0 [frO ((zFr J.p p I).take 1) 1,ab p.xs 0,aH none,aH none]) (wP (ad I 1) p.xs):=by
 have H:=(aq.he (ay _) (MC J p) (by intros;exact tT) I (fun I' O z=>hbT l rfl)).hr
 have H:HR _ _ _ (lQ 0 2 (ad I 0) (ad I 2) (ad I 3)) (tc I 0 [frO ((zFr J.p p I).take 1) 1,ab p.xs 0,aH none,aH none]++[]) _:=H
 rw [au] at H
 refine HRg.stepL (j:=2) (by decide) (by decide) (H.mono (need':=100) (ag rfl) fun e L' h=>h) <| elA fun I' O' f=>?_
 refine ⟨rfl,?_⟩
 refine exL (ah ((z0 J.p).k + (z0 J.p).q) I') fun b d=>?_
 refine exL (ah (z0 J.p).it O') fun O i=>?_
 have a:∀ j,j < 4→ad b j=ad I j:=fun j g=>by
  unfold ad
  rw [d]
  exact congrArg (· + 1158) ((aJ (n:=(z0 J.p).k + (z0 J.p).q) (show j < 6 by lia)).trans (f j (show j < 4 from g)))
 have m:(tc I' 0 ((z0 J.p).post p (ah ((z0 J.p).k + (z0 J.p).q) I') (ah (z0 J.p).it O'))++uU J.p ((z0 J.p).postX p (ah ((z0 J.p).k + (z0 J.p).q) I') (ah (z0 J.p).it O')))=tc b 0 (zO J.p (St p O) b 1 5):=by
  rw [d,i]
  exact au _
 rw [m]
 have c:=XU (J:=J) (St p O) (fun j=>O (2 + j)) rfl b (H6 _)
 rw [a 0 (by decide),a 1 (by decide),a 2 (by decide),a 3 (by decide)] at c
 exact c
theorem ak3:cT=bu cT 0 27:=by kernel_rfl
theorem UN (xs:Array Value) (x:pC xs=true) (a:Nat) (u:1158≤a) :
  HRg J.w J.t 200 (.code (.call (.ref 1157) ⟨[.ref a],[]⟩)) [(a,ab xs 0)] (wP a xs):=by
 refine exL (⟨xs,0,0,0,0,#[],#[],0,.none,false,⟨#[]⟩,.none,.none,⟨#[]⟩,⟨#[]⟩,fun Z=>0⟩:SZ) fun p r=>?_
 have l:∀ b∈[a],1158≤b:=fun b hb=>by rw [cv.mp hb];exact u
 have m:ad (nuL [a]) 0=a:=aB l rfl
 have H:=(aq.he (ay _) (afc J p) (by intros;exact tT) (nuL [a]) (fun Z Z Z=>rfl)).hr
 have H:HR _ _ _ (.code (.call (.ref 1157) ⟨[.ref (ad (nuL [a]) 0)],[]⟩)) ([(ad (nuL [a]) 0,ab p.xs 0)]++[]) _:=H
 rw [m,au] at H
 have f:p.xs=xs:=by rw [r]
 rw [f] at H
 refine HRg.again (H.mono (need':=200) (ag rfl) fun e L' h=>h) <| elA fun I' O' s=>?_
 refine ⟨.func cT (eN (ad I' 1) (ad I' 2) (ad I' 3)),rfl,rfl,?_⟩
 refine exL (ah (zc J.p).it O' 0) fun t z=>?_
 have e1:ad I' 0=a:=by rw [← m];unfold ad;rw [s 0 (by show 0 < 1;lia)]
 have v:(tc I' 0 ((zc J.p).post p (ah ((zc J.p).k + (zc J.p).q) I') (ah (zc J.p).it O'))++uU J.p ((zc J.p).postX p (ah ((zc J.p).k + (zc J.p).q) I') (ah (zc J.p).it O')))=[(a,ab xs 0),(ad I' 1,frO [dF J.p J64 t (.ref a)] 1),(ad I' 2,aH none),(ad I' 3,aH none)]:=by
  rw [z,← e1,← f]
  exact au _
 rw [v]
 refine exL (fun j=>match j with | 0=>I' 1 | 1=>I' 0 | j=>I' j:ae8) fun c i=>?_
 have T:=WF (J:=J) { p with t:=fun Z=>t } c (by rw [show ({ p with t:=fun Z=>t }:SZ).xs=xs from f];exact x)
 have n:ad c 0=ad I' 1:=by rw [i];rfl
 have g:ad c 1=a:=by rw [← e1,i];rfl
 have d:ad c 2=ad I' 2:=by rw [i];rfl
 have o:ad c 3=ad I' 3:=by rw [i];rfl
 have y:tc c 0 [frO ((zFr J.p { p with t:=fun Z=>t } c).take 1) 1,ab ({ p with t:=fun Z=>t }:SZ).xs 0,aH none,aH none]=[(ad I' 1,frO [dF J.p J64 t (.ref a)] 1),(a,ab xs 0),(ad I' 2,aH none),(ad I' 3,aH none)]:=by
  show [(ad c 0,frO [dF J.p J64 t (.ref (ad c 1))] 1),(ad c 1,ab p.xs 0),(ad c 2,aH none),(ad c 3,aH none)]=_
  rw [n,g,d,o,f]
 rw [y,n,g,d,o] at T
 rw [show ({ p with t:=fun Z=>t }:SZ).xs=xs from f] at T
 refine HRg.func ?_ (fun e L' h=>⟨_,h.1⟩)
 have A:bx.tree (.func cT (eN (ad I' 1) (ad I' 2) (ad I' 3))) (blk cT (eN (ad I' 1) (ad I' 2) (ad I' 3)))=lQ 0 27 (ad I' 1) (ad I' 2) (ad I' 3):=by
  show _=bx.tree (.func cT _) (blk (bu cT 0 27) _)
  rw [← ak3]
 rw [A]
 refine (T.perm ?_).mono (by decide) fun Z Z h=>h
 exact ajt _ _ _
end
noncomputable def l3:List Nat:=(by walk_at "##.(`fh-`vlUa-a.nKa6kma?a@aFaGnLaNnMaYaZa[a]aeafaiajalamaoapasatavawa{b%b-b1b7b;b<b?b@bCbDbEbFbHbIbKbLbObYbcbgbobpbrbsbtbxbyb|b}b~c#c$c&c'c-c.c4c5c6c8c9c=c>cDcEcPcQcScTcXcYc[c]cacbcdcecicjclcmcncpcqcrcsctcucvcwcxcyczc{c|c}c~d#d$d%d&d'd(d)d*d+d,d-d.d/d0d1d2d3d4d5d6d7d8d9d:d;d<d=d>d?d@dA")
theorem Fb (P:Params):((List.range 1158).all fun b=>l3.contains b || (tg (ac P) b).isNone)=true:=by kernel_rfl
theorem Fr (P:Params):l3.map (fun b=>(mU P).get? b)=l3.map (fun b=>tg (ac P) b):=by kernel_rfl
theorem G4 {P:Params} {h:Heap} (e:l3.map (fun b=>h.get? b)=l3.map (fun b=>tg (ac P) b)):aky (ac P) h:=fun b o hb=>by
 have hl:=Gt.mp (Fb P) b (List.mem_range.mpr (uJ hb))
 rw [hb] at hl
 have a:b∈l3:=by simpa using hl
 rw [← hb]
 exact List.map_inj_left.mp e b a
theorem yx (P:Params) (os:OsState):openSeen pS eK (importedModules prog.main.body) (fun z=>true) true ⟨mU P,Array.mk [],{},1907,os⟩=openGood pS eK:=by
 rw [PySem.W.Fast.te4187177175401517315]
 exact DJ P os
theorem Hf:LeftO prog pS eK (fun z=>true) (fun s=>l3.map fun b=>s.heap.get? b) (fun w=>l3.map fun b=>tg (ac w.params) b) 10599:=
 LeftO.of_pieces (H₀:=boot_heap) (H₁:=mU) (gs₀:=Array.mk []) (gs₁:=Array.mk []) (d₀:=boot_drawn) (d₁:={}) (k₀:=boot_toks) (k₁:=1907) (m₀:=11) (ann:=some (.ref 6)) (M:=10599)
  Ji (fun w=>FQ w.params) Mv rfl fun w=>funext fun os=>by
   refine Prod.ext ?_ (Prod.ext (yx w.params os) (Fr w.params))
   show (staticsOk (importedModules prog.main.body) (boot_heap w.params) (mU w.params) && namesBound prog (mU w.params) && gensDone ⟨mU w.params,Array.mk [],{},1907,os⟩ && laidKept (boot_heap w.params) (mU w.params))=true
   rw [akK,zx,Dh]
   rfl
def mx:Str:=sv Xa
noncomputable def Pu:Data→Array DictEntry
 | .dict es _=>es
 | _=>#[]
theorem Gz (P:Params):nsFind (Pu (o3 P).data) mx=some (.ref 1157):=by kernel_rfl
theorem Hj (P:Params):tg (ac P) 3=some (o3 P):=by kernel_rfl
theorem Ri {P:Params} {h:Heap} {mg:Str→Option Value} (e:aky (ac P) h) (hn:h.Ns mainGlobals mg):mg mx=some (.ref 1157):=by
 refine ex3 hn fun o es ep b=>?_
 refine an3 b fun a c z d=>?_
 have f:h.get? 3=some (o3 P):=e 3 _ (Hj P)
 have a:h.get? 3=some o:=a
 rw [f] at a
 obtain rfl:=Option.some.inj a
 have he:es=Pu (o3 P).data:=by rw [c];rfl
 rw [← d,he]
 exact Gz P
theorem o7:(defOf pS mx).isSome=true:=by kernel_rfl
def mc:DefRec × List (Str × Expr):=(defOf pS mx).get o7
theorem Oo:defOf pS mx=some (mc.1,mc.2):=(Option.some_get o7).symm
theorem L5:prog.theDef mx=some (mc.1.params,mc.1.body,mc.1.scope):=by kernel_rfl
theorem UL:kwWritten? mc.1.params.kwonlyargs mc.1.params.kw_defaults=some mc.2:=by kernel_rfl
noncomputable def kx:List WData→Bool
 | []=>true
 | .int _ :: l=>kx l
 | _=>false
theorem pY (xs:List WData):WShape.hasItems [] xs .int=true→kx xs=true:=by
 induction xs with
 | nil=>intro z;rfl
 | cons x l ih=>
  intro h
  obtain ⟨a,b⟩:=iR.mp h
  have:=ih b
  cases x<;>first | exact this | exact Bool.noConfusion (show false=true from a)
theorem GZ {cl:Str→Option Addr} {P:Params} {a:List DictEntry→List DictEntry} (xs:List WData):∀ {s:Shared} {r:List Value × Shared},kx xs=true→layAllW [] cl P a xs s=some r →
  r.1.length=xs.length∧r.1.all Gc=true∧r.2.heap=s.heap∧r.2.gens=s.gens∧r.2.os=s.os:=by
 induction xs with
 | nil=>
  intro s r z h
  simp only [layAllW,Option.some.injEq] at h
  subst h
  exact ⟨rfl,rfl,rfl,rfl,rfl⟩
 | cons x l ih=>
  intro s r b h
  cases x with
  | int i=>
   simp only [layAllW,layW] at h
   cases q:layAllW [] cl P a l { s with toks:=s.toks + 1 } with
   | none=>rw [q] at h;cases h
   | some r'=>
    rw [q] at h
    simp only [Option.some.injEq] at h
    subst h
    refine an4 (ih (show kx l=true from b) q) fun d e f c g=>?_
    exact ⟨congrArg (· + 1) d,e,f,c,g⟩
  | _=>exact absurd (show false=true from b) alz
theorem LM (w:World):WB.w ⟨w,w.params.followText "comprehension-iter-twice",w.params.followText "special-get-raises"⟩=w:=by
 unfold WB.w
 rw [alV,alV]
theorem IR (w:World) {t c:Shared} {xs:List WData} {vs:List Value} {cl:Str→Option Addr} {j:List DictEntry→List DictEntry} (y:kx xs=true) (hn:xs.length≤63)
  (hl:layAllW [] cl w.params j [.list xs] t=some (vs,c)) (s:aky (ac w.params) c.heap) {R:Result→Shared→Prop}
  (K:∀ l a,(∀ b o,c.heap.get? b=some o→l.get? b=some o)→R (.ok (.ret (.bool true))) ⟨l,c.gens,c.drawn,a,c.os⟩):codeAny (model prog w) callerA (.call (.ref 1157) ⟨vs,[]⟩) R c:=by
 simp only [layAllW,layW] at hl
 cases q:layAllW [] cl w.params j xs t with
 | none=>rw [q] at hl;cases hl
 | some r=>
  rw [q] at hl
  simp only [Option.some.injEq,Prod.mk.injEq] at hl
  obtain ⟨rfl,rfl⟩:=hl
  refine an4 (GZ xs y q) fun A B D F E=>?_
  obtain ⟨vals,⟨h,g,d,tk,os⟩⟩:=r
  have k:(h.push (ab vals.toArray 0)).get? h.objs.size=some (ab vals.toArray 0):=Heap.get?_push_size _ rfl
  have f:1158≤h.objs.size:=by
   have m:(h.push (ab vals.toArray 0)).get? 1157=some (JS w.params):=s 1157 _ (by kernel_rfl)
   have i:=Dt m
   have x:(h.push (ab vals.toArray 0)).objs.size=h.objs.size + 1:=alw _
   have i:1157 < h.objs.size + 1:=Nat.lt_of_lt_of_eq i x
   by_cases e:h.objs.size=1157
   · exfalso
     rw [e] at k
     rw [k] at m
     exact absurd (Value.type.inj (congrArg Obj.cls (Option.some.inj m):Value.type "list"=Value.type "function")) (by decide)
   · lia
  have n:pC vals.toArray=true:=by
   unfold pC
   refine iR.mpr ⟨?_,?_⟩
   · rw [show vals.toArray.size=xs.length from A]
     exact aF (wt hn (by decide))
   · exact B
  have H:=UN (J:=⟨w,w.params.followText "comprehension-iter-twice",w.params.followText "special-get-raises"⟩) vals.toArray n h.objs.size f
  rw [LM] at H
  refine H callerA R (h.push (ab vals.toArray 0)) g d tk os rfl ⟨rfl,by decide,by decide⟩ s ?_ ?_ ?_
  · rw [show (h.push (ab vals.toArray 0)).objs.size=h.objs.size + 1 from alw _];lia
  · refine ⟨fun p u=>?_,by simp⟩
    obtain rfl:=cv.mp u
    exact ⟨k,f⟩
  · intro e L' l a C v Z hk Z
    obtain ⟨rfl,z⟩:=C
    refine K l a fun b o hb=>?_
    by_cases e:b=h.objs.size
    · subst e
      have hb:(h.push (ab vals.toArray 0)).get? h.objs.size=some o:=hb
      rw [k] at hb
      rw [← Option.some.inj hb]
      exact (v.at_ _ z).1
    · exact hk b o hb (by simpa using e)
theorem NN {xs:List WData} (h:((WTm.and (.not (.lt (.lit (.int (63:Nat))) (.len (.arg 0)))) (.lit (.bool true))).holds [] { args:=[.list xs] })=true):xs.length≤63:=by
 refine Classical.byContradiction fun hn=>?_
 revert h
 have:(63:Int) < (xs.length:Int):=by lia
 simp [WTm.holds,WTm.value,W.less?,Num.less?,this]
abbrev rwL:OpenRow:=PySem.Challenge.rw_nt0134_01.row
theorem E1:(chainsOk pS && opensWell rwL.prog && (frees rwL.toRowW && rwL.toRowW.within.isEmpty))=true:=by kernel_rfl
theorem NI (xs:List WData):rwL.toRowW.claim.post [WData.list xs] (.bool true) [WData.list xs]=true:=by kernel_rfl
theorem law_holds (i:rwL.wellSaid=true) (t:rwL.toRowW.promised):rwL.Holds:=by
 have m:∀ (w:World) (s:Shared),s.heap.isNs mainGlobals=true→Ground pS eK [] (fun Z Z=>True) w s (s.heap.nsMap mainGlobals) (s.heap.nsMap builtinsNs) s.heap→isTheDefsW prog s.heap mx:=
  fun w s c G=>pinned_of_view c G Oo L5 UL
 refine ⟨i,t,open_anyG (r:=rwL.toRowW) (q:=pS) (loose:=eK) (Xt:=fun Z=>true) (XP:=fun Z Z=>True) (YP:=fun w h=>aky (ac w.params) h) (N:=10599) (writes:=rwL.writes) (run:=fun f vs=>PySem.call f vs)
  (tree:=fun vs=>do match ← nsGet mainNs rwL.name with
   | some f=>do ret (← PySem.call f vs)
   | none=>unsupported "claim.caller:no-such-global") Hf (fun w s e=>G4 e) (fun w h B y k b o e=>k b o (y b o e)) (fun Z Z=>trivial) (fun Z Z Z Z Z=>trivial) (fun Z Z=>recFacts_nil rfl) rfl E1 ⟨rfl,rfl,rfl,rfl,rfl,by decide +kernel⟩ t
  (fun vs w s mg f Q E c C h=>av (wpAny_nsGet c (by rw [C];exact av (Qn h (fun Z Z x=>jt x) fun Z Z x=>x))))
  (fun w s c G n hn=>?_) fun w M P mg mb G Y args vs as l u L K=>?_⟩
 · have hn:n∈[mx]:=hn
   obtain rfl:=cv.mp hn
   exact m w s c G
 · refine ⟨.ref 1157,Ri Y G.T.g,?_⟩
   obtain ⟨D,z⟩:=pre_splitW l
   obtain ⟨d,a,rfl,p,v⟩:=hasAllW_cons (show WShape.hasAll [] args [.list .int]=true from D)
   obtain rfl:a=[]:=by
    cases a with
    | nil=>rfl
    | cons _ _=>exact Bool.noConfusion (show false=true from v)
   obtain ⟨xs,rfl⟩:∃ xs,d=.list xs:=by
    cases d with
    | list xs=>exact ⟨xs,rfl⟩
    | _=>exact Bool.noConfusion (show false=true from p)
   have H:WShape.hasItems [] xs .int=true:=(Bool.or_false _).symm.trans p
   have j:xs.length≤63:=NN z
   obtain ⟨A,_,hl⟩:=L.laid
   refine wpAny_call (IR w (pY xs H) j hl Y fun B F hk=>?_)
   exact ⟨.inl ⟨.bool true,.bool true,[],rfl,fun Z=>rfl,.bool true,NI xs,fun Z=>⟨.nil,fun Z J=>nomatch J⟩⟩,.of_keep hk,rfl,.of_eq L.gens⟩
abbrev whole.tw11168999088718976240:=PySem.Challenge.pw_nt0134_01
theorem whole.te11168999088718976240:PySem.Challenge.pw_nt0134_01=whole.tw11168999088718976240:=rfl
set_option Elab.async true in
theorem whole:PySem.Challenge.rw_nt0134_01.Holds:=by
 o_law
 exact law_holds (by assumption) (by w_witness2)
end
end Pb.Internal
theorem PySem.Challenge.cw_nt0134_01_holds : PySem.Challenge.rw_nt0134_01.Holds :=
  Pb.Internal.whole
