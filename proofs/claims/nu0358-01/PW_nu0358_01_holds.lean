import PyProof.Rows.All
import Wide.All
import OpenK.AllK
import Wide.FinOn
import KE.BitLaws
import KE.KDictOf
import PyProof.AttrMissHeap
import OpenK.KRaise
import PyProof.InstStoreFacts
import PyProof.ExcBaseAll.Exception
import PyProof.ExcClass3
import PyProof.Rows.CatchBare
import KE.KLam
import KE.KNestM
import Lean
import PySem.Challenge.RW_nu0358_01
set_option maxRecDepth 100000
set_option maxHeartbeats 4000000
set_option Elab.async false
set_option tactic.hygienic false
set_option genSizeOf false
set_option genInjectivity false
set_option compiler.extract_closed false
set_option linter.all false
open Nat renaming le_of_ble_eq_true → Aa, le_trans → Ar, lt_succ_of_lt → Au, lt_of_le_of_lt → Bf, lt_of_lt_of_le → Bi, ne_of_lt → Bn, lt_succ_self → Bp, le_refl → Bs, add_le_add_left → Bx, le_succ → Cs, ne_of_gt → Da, le_of_eq → De, succ_add_eq_add_succ → Dj, lt_irrefl → Ed, lt_trans → Ee, le_of_lt → Ef, le_add_right → Em, add_le_add_right → Ep, zero_le → Fa, not_lt → Fc, zero_add → Fo, add_lt_add_left → Ft, ble → Im, mul_le_mul_left → Ja, add_le_add → Jl, lt_of_succ_lt_succ → Km, not_lt_zero → Kr, succ_ne_zero → Mv, blt → Op
open PySem renaming wpAny_bind → Ab, Shared → Ai, Expr → Aj, wpAny_pure → Ak, starEach → Av, wpAny_of_eq → Bc, sizeLine_eq → Bh, builtinLookup_eq_fast → Bm, wpAny_specialOf → Bo, strKind → Br, backTo → Cc, attributeBase → Cd, bm_if_false → Cg, typeLookup_type → Cn, spliced → Co, compEnvC → Cp, holding → Dc, foldedSetIterable → Dd, bootBuiltins → Dp, wpAny_truthy_bool → Du, wpAny_holding → Dv, wpAny_rule → Dy, typeLookup → Dz, intKind → Ea, wpAny_call_entry → Eb, wpAny_loadPart_at → Eh, cellsFrom → Ew, wpAny_mono → Ey, Around → Ez, standAt → Fb, keywordEach → Fh, wpAny_isInstance → Fi, assignEach → Fv, swapsWith → Gb, checkBuiltinCall → Gc, IntMulOk → Ge, wpAny_field → Gh, closureFor → Gk, importedModules → Gr, callWith → Gs, rawInt → Hg, isSubtype_type → Hh, treeTable → Hi, assign → Hm, wpAny_standAt → Hs, backToKw → Ht, allTrue → Hu, wpAny_callSpecial?_slot → Ig, subscripted → Ih, wpAny_newObj_type → Ii, recursionLimit → Ij, wpAny_load → Iu, entryFor_of_tree → Iw, plainId_quiet → Iy, arm_eval_Call → Iz, valueOrNone → Jc, lookup_relabel_local → Jd, call → Je, theTreesLotGoes → Jh, codeAny_builtin → Ji, wpAny_typeOf → Jm, operate → Jn, specialOf → Jp, compareOp → Jq, stored → Jt, entryFor → Ju, clipAt → Jv, call_meets → Jw, Result → Jy, Params → Jz, codeAny → Kh, swapsWithSole → Kj, swappedStores → Kk, noteFrame → Ks, bindName → Kt, arm_allTrue_cons → Ku, DictEntry → Kx, Fin → Kz, strKind_is → Lc, methodCall → Lg, call_meetsIn → Lh, OsState → Lj, BindsTo → Ll, wpAny_newFunctionEnv → Lv, leaving → Lz, getItem → Ma, wpAny_isSubtype_exc → Md, wpAny_newList → Mi, wpAny_call → Ml, isInstance → Mm, defaultsOf → Mn, valueAt → Mz, setAttr → Na, release → Nb, getMethod_builtin → Nc, evalOpt → Nd, NameKind → Nh, wpAny_lookBehind → Nm, typeOf → Nn, opaqueClassAbove → No, interactive → Nr, Keyword → Nv, typeIs_int → Nx, methodCallForm → Ny, evalEach → Nz, bm_if_true → Oa, bindArgs → Oc, binaryOp → Od, argsOk → Oe, Operator → Ol, GenState → Om, wpAny_attempt → Ot, methodCallPos → Ou, assignInOrder → Ov, slicePick → Oz, lastMarks → Pa, isSubtype → Pb
open Int renaming le_trans → Ac, lt_of_lt_of_le → Am, le_refl → Az, add_le_add_right → Be, lt_of_le_of_lt → Bu, le_add_of_nonneg_right → Ca, toNat_of_nonneg → Cb, sub_zero → Cj, ofNat_le → Ct, le_of_lt → Cu, ofNat_lt → Df, toNat_natCast → Dq, not_lt → Eg, add_le_add_left → Ev, not_le → Ff, fdiv_eq_ediv_of_nonneg → Fg, mul_nonneg → Fy, mul_le_mul_of_nonneg_right → Fz, le_of_eq → Hd, add_assoc → Hk, mul_one → Ir, mul_le_mul_of_nonneg_left → It, add_lt_add_left → Jb, toNat_lt → Jf, add_comm → Ko, mul_le_mul → Lm, natCast_nonneg → Lx, emod_lt_of_pos → Ly, emod_nonneg → Ni, ofNat_inj → Nu, ne_of_lt → Oq, add_mul → Oy
open PySem.Heap renaming get?_push_of_some → Ae, get?_push_size → Ao, lt_size → Aw, dictOf_iff → Bk, size_push → Bz, SameBut → Ch, get?_update_self → Dr, get?_update_other → Ki
open Exists renaming intro → Af
open List renaming length_map → Ag, mem_cons → An, replicate → Ap, mem_map → Aq, getElem?_eq_some_iff → As, mem_singleton → Ax, getD_eq_getElem?_getD → Ay, getElem?_eq_getElem → Ba, mem_of_getElem? → Bd, size_toArray → Bg, lookup_cons → Bj, map_map → Bq, mem_of_find?_eq_some → By, mem_append → Ce, getElem?_map → Ci, mem_filterMap → Ck, getElem?_eq_none_iff → Cm, find?_some → Cr, length_append → Cz, mem_filter → Db, map_append → Dg, map_cons → Dh, map_congr_left → Dk, find?_eq_none → Dm, length_replicate → Ek, getElem?_eq_none → El, append_nil → Et, find?_cons_of_neg → Ex, mem_iff_getElem? → Fd, getElem?_toArray → Fe, mem_append_left → Fj, mem_map_of_mem → Fs, length_cons → Fu, find?_cons_of_pos → Ga, length_set → Gf, mem_append_right → Gi, nodup_append → Gp, lookup → Gz, all_eq_true → Ha, getElem?_range → Hf, filter_cons_of_pos → Hq, filter_cons_of_neg → Hr, take_of_length_le → Hx, take_add_one → Hy, reverse_cons → Hz, nodup_nil → Ia, map_nil → Ib, append_assoc → Ic, not_lt → Ip, length → Iq, range → Jg, not_mem_nil → Kb, length_take → Kc, length_eq_zero_iff → Ke, getElem_map → Kf, nil_append → Kn, drop_zero → Lb, any_cons → Lq, zip_nil_right → Ls, pairwise_cons → Lu, getElem?_set → Mc, length_drop → Mj, getElem_mem → Mk, nodup_cons → Mw, find?_map → Nk, drop_drop → Nl
open PySem.BindsTo renaming of_eq → Ah, of_defaults → Bv
open Classical renaming byContradiction → Al
open Bool renaming and_eq_true_iff → Bb, not_eq_true' → Gq, and_eq_true → Kg, or_false → Nt
open PySem.IsL renaming isList → Bt
open Ne renaming symm → Bw
open PySem.W renaming findIn → Cq, hideAll_get → Dl, typeIs_bytes → Ei, instObj → Ej, hideAll_none → Er, hideAll → Es, bytesKind → Hn, of_hideAll → Ie, looks_findIn → Jo, topFrame → Jx, boot_heap → Kv, tabObj → Mr, codeIn → Ms, TopRead → Nf, kla_fn → Np, CodeHd → Nq, typeIn → Of, plainGet → Og, funFrames_hide → Oh, specialIn → Pc
open Option renaming isSome_iff_exists → Cv, map_eq_some_iff → Dn, map_eq_none_iff → Ka, none → Mg
open Option.some renaming inj → Cw
open PySem.Builtin renaming bitAnd → Di, bitAnd → Kl
open PySem.Obj renaming mapSeq → Dw, cls → Il, putName → Ow
open PySem.Heap.SameBut renaming update → Dx
open PySem.Value renaming ref → Ec, type → Gu, none → Lp
open Prod renaming snd → En, fst → Nj, ext → Os
open Eq renaming refl → Eo, trans → Gj
open PySem.NameKind renaming free → Eu
open PySem.W.Looks renaming of_pure → Fk, ld → Ng
open PySem.F renaming plainAttrs_list → Fp, plainAttrs_dict → Fq, excBase_Exception → Gw, slot_dict_pop → Hv, cmpEntry_eq → Kw, cmpArgs_eq → Lk
open PyProof.Rows renaming seqObj → Fx, sortedAll → Js, markedEach_of_false → Mf, IntsAre → Nw, pairsOf_toList → On, envOfC → Oo, listUpdate_at → Ox
open PySem.W.KBw renaming IsBytesIter → Gg, iter_typeIs → Kp, slot_next → Lr, pyIter_bytes → Mt
open PySem.Builtin.Bytes renaming ownRelease → Go, slotIsOwn → Gx, exportsOf → Gy, exported → Hc, decodersThatHold → Hj, order → Hw, fitsIndex → Ix, sameRef → Jj, payload → Jk
open PySem.Heap.DictOf renaming new → Gv
open PySem.Str renaming ofString → Hb, ofString → Oi
open Array renaming length_toList → He, toArray_toList → Ky, toList_inj → Mh
open PySem.Code renaming quiet_builtin → Hl
open PySem.TypeEq renaming slot_type_eq → Ik
open PySem.Sem renaming wp_mono → Jr, wp_bind' → Me, wp → Mu, wp_stack → Oj
open PySem.Around renaming under_plainId → Kq
open Prod.mk renaming injEq → La
open Inhabited renaming default → Ln
open Nat.succ renaming inj → Lo
open List.cons renaming injEq → Lw
open PySem.W.RowW renaming records → Mb
open Function renaming comp → Mx
open UInt8 renaming toNat_lt → My
open LawfulBEq renaming eq_of_beq → Pd
open PySem PySem.W PyProof.Rows PySem.Calls
namespace Mine
section
variable{x1 x2 a x3:Int}{n1 n2 n n3 n4:Nat}{w:World}{b:List UInt8}{pos pos':Pos}{x qual:Str}{s:Ai}{vs dv:List Value}{A:Ez}{E Q:Value->Ai->Prop}{e:Aj}{v f dV kV doc pm cdv ct oc:Value}{env:Env}{body:List Stmt}{h g h' base:Heap}{prog:Program}{C L fI:Addr}{sc scope:Scope}{R:Jy->Ai->Prop}{t:Tok}{mg mb m:Str->Option Value}{outer:List Env}{cl:List (Str×Addr)}{params:Arguments}{st:Stmt}
theorem bc{p:Prop}(h:¬p->False):p:=Al h
section
variable{x y z b:Int}{m k c d:Nat}
theorem nle(h:n<=c)(e:Im c d=true:=by rfl):n<=d:=Ar h (Aa e)
theorem sR(h:n<=c)(e:Op c d=true:=by rfl):n<d:=Bf h (Aa e)
theorem nlt(h:n<c)(e:Im c d=true:=by rfl):n<d:=Bi h (Aa e)
theorem uW(h:n<c)(e:Im c (d+1)=true:=by rfl):n<=d:=Nat.le_of_lt_succ (Bi h (Aa e))
theorem nge(h:c<=n)(e:Im d c=true:=by rfl):d<=n:=Ar (Aa e) h
theorem aHk(h:c<=n)(e:Op d c=true:=by rfl):d<n:=Bi (Aa e) h
theorem ngt(h:c<n)(e:Im d c=true:=by rfl):d<n:=Bf (Aa e) h
theorem aXj(h:c<n)(e:Im d (c+1)=true:=by rfl):d<=n:=Ar (Aa e) h
theorem ile(h:x<=a)(e:decide (a<=b)=true:=by rfl):x<=b:=Ac h (of_decide_eq_true e)
theorem aHw(h:x<=a)(e:decide (a<b)=true:=by rfl):x<b:=Bu h (of_decide_eq_true e)
theorem ilt(h:x<a)(e:decide (a<=b)=true:=by rfl):x<b:=Am h (of_decide_eq_true e)
theorem aWl(h:x<a)(e:decide (a<=b+1)=true:=by rfl):x<=b:=Int.le_of_lt_add_one (Am h (of_decide_eq_true e))
theorem ige(h:a<=x)(e:decide (b<=a)=true:=by rfl):b<=x:=Ac (of_decide_eq_true e) h
theorem aHx(h:a<=x)(e:decide (b<a)=true:=by rfl):b<x:=Am (of_decide_eq_true e) h
theorem igt(h:a<x)(e:decide (b<=a)=true:=by rfl):b<x:=Bu (of_decide_eq_true e) h
theorem aWm(h:a<x)(e:decide (b<=a+1)=true:=by rfl):b<=x:=Ac (of_decide_eq_true e) h
theorem cD(h:n=m)(g:m<=k):n<=k:=h▸g
theorem nX(h:n=m)(g:m<k):n<k:=h▸g
theorem tM(h:n<=m)(g:m=k):n<=k:=g▸h
theorem aCl(h:n<m)(g:m=k):n<k:=g▸h
theorem hM(h:x=y)(g:y<=z):x<=z:=h▸g
theorem aRk(h:x=y)(g:y<z):x<z:=h▸g
theorem yA(h:x<=y)(g:y=z):x<=z:=g▸h
theorem xZ(h:x<y)(g:y=z):x<z:=g▸h
theorem qH(h:n<m):n≠m:=Bn h
theorem aHi(h:m<n):n≠m:=Da h
theorem gG(h:x<y):x≠y:=Oq h
theorem bO(h:y<x):x≠y:=(Oq h).symm
theorem cle(h:(n:Int)<=a)(e:decide (a<=(d:Int))=true:=by rfl):n<=d:=Ct.mp (Ac h (of_decide_eq_true e))
theorem clt(h:(n:Int)<a)(e:decide (a<=(d:Int))=true:=by rfl):n<d:=Df.mp (Am h (of_decide_eq_true e))
theorem cge(h:a<=(n:Int))(e:decide ((d:Int)<=a)=true:=by rfl):d<=n:=Ct.mp (Ac (of_decide_eq_true e) h)
theorem cgt(h:a< (n:Int))(e:decide ((d:Int)<=a)=true:=by rfl):d<n:=Df.mp (Bu (of_decide_eq_true e) h)
theorem ule(h:n<=c)(e:decide ((c:Int)<=b)=true:=by rfl):(n:Int)<=b:=Ac (Ct.mpr h) (of_decide_eq_true e)
theorem ult(h:n<c)(e:decide ((c:Int)<=b)=true:=by rfl):(n:Int)<b:=Am (Df.mpr h) (of_decide_eq_true e)
theorem ugt(h:c<n)(e:decide (b<=(c:Int))=true:=by rfl):b< (n:Int):=Bu (of_decide_eq_true e) (Df.mpr h)
theorem oU:(0:Int)<=(n:Int):=Lx n
theorem zU(h:x<=a)(e:decide (a<=(d:Int))=true:=by rfl):x.toNat<=d:=Int.toNat_le.mpr (Ac h (of_decide_eq_true e))
theorem aGu(h:0<=x)(g:x< (n:Int)):x.toNat<n:=(Jf h).mpr g
theorem of0(e:decide (0<=a)=true:=by rfl):x<=x+a:=Ca (of_decide_eq_true e)
theorem of1(e:decide (0<a)=true:=by rfl):x<x+a:=Int.lt_add_of_pos_right x (of_decide_eq_true e)
theorem of2(e:decide (a<=b)=true:=by rfl):x+a<=x+b:=Ev (of_decide_eq_true e) x
theorem of3(e:decide (a<b)=true:=by rfl):x+a<x+b:=Jb (of_decide_eq_true e) x
theorem on0:n<=n+c:=Em n c
theorem on1(e:Op 0 c=true:=by rfl):n<n+c:=Nat.lt_add_of_pos_right (Aa e)
theorem on2(e:Im c d=true:=by rfl):n+c<=n+d:=Bx (Aa e) n
theorem on3(e:Op c d=true:=by rfl):n+c<n+d:=Ft (Aa e) n
theorem aWq:(x-0).toNat=x.toNat:=by rw[Cj]
theorem jB(h:x<=a)(e:decide (a<=(d:Int))=true:=by rfl):(x-0).toNat<=d:=by rw[Cj];exact zU h e
end
theorem pw8(h:n=1\/n=2\/n=4\/n=8):n<=8:=by rcases h with h|h|h|h <;> subst h <;> decide
theorem pw1(h:n=1\/n=2\/n=4\/n=8):0<n:=by rcases h with h|h|h|h <;> subst h <;> decide
theorem tl{m:Nat}(h:n< ((m:Int)-0).toNat):n<m:=by rw[Cj,Dq] at h;exact h
theorem ti{x:Int}(h:n< (x-0).toNat):(n:Int)<x:=by rw[Cj] at h;exact Int.lt_toNat.mp h
theorem ac1(x:Int)(n:Nat):x+1+(n:Int)=x+((n+1:Nat):Int):=by rw[Int.natCast_succ,Hk,Ko 1]
theorem aRg{x:Int}(h : -1000000<=x)(g:x<=1000000):x.natAbs<2 ^ 63:=by omega
theorem e8(a b:Nat):a+3+8*b+5=a+8*(b+1):=by omega
theorem na{x:Int}(h:0<x)(g:x<1073741824):x.natAbs<1073741824:=by omega
theorem z1(h1:(n1+(n2+(1:Nat)))<n3):((n1+(1:Nat))+n2)<n3:=Bf (De (Dj n1 n2)) h1
theorem z2(h1:(n1+((8:Nat)*(n2+(1:Nat))))<n3):(((n1+(3:Nat))+((8:Nat)*n2))+(5:Nat))<n3:=Bf (De (e8 n1 n2)) h1
theorem z3(h1:((n1+(1:Nat))+n2)<n3)(h2:n4<=n2):((n1+(1:Nat))+n4)<n3:=Bf (Bx h2 _) h1
theorem z4(h1:(((n1+(3:Nat))+((8:Nat)*n2))+(5:Nat))<n3)(h2:n4<=n2):((n1+(3:Nat))+((8:Nat)*n4))<n3:=Bf (Ar (Bx (Ja 8 h2) _) (Em _ 5)) h1
theorem z5:((min n1 n2)-(0:Nat))<=n1:=Ar (Nat.sub_le _ _) (Nat.min_le_left _ _)
theorem z6(h1:n1<n2)(h2:¬(n1< ((min n2 n3)-(0:Nat)))):n3<=n1:=by first|lia|omega
theorem z7(h1:(0:Int)<x1)(h2:x1<=(1000000:Int)):(x1).natAbs< (1073741824:Nat):=na h1 (aHw h2)
theorem z8(h1:n1<=n2):(n3+n1)<=(n3+n2):=Bx h1 n3
theorem z9(h1:n1<=n2):(n3+((8:Nat)*n1))<=((n3+((8:Nat)*n2))+(4:Nat)):=Ar (Bx (Ja 8 h1) n3) (Em _ 4)
theorem z10(h1:(0:Int)<=x1)(h2:x1<=(1000:Int)):¬(x1> (((2:Int) ^(63:Nat))-(34:Int))):=Eg.mpr (ile h2)
theorem z11(h1:n1<=(1000:Nat))(h2:(x1).toNat<n1):x1< ((2:Int) ^(63:Nat)):=Bu (Int.self_le_toNat x1) (Am (Df.mpr h2) (Ac (Ct.mpr h1) (by decide)))
theorem z12(h1:x1< (n1:Int))(h2:n1<=(1000:Nat))(h3:n2=n1):x1< ((2:Int) ^(63:Nat)):=Am h1 (Ac (Ct.mpr h2) (by decide))
theorem z13(h1:x1< (n1:Int))(h2:n2=n1):x1< (n2:Int):=h2.symm▸h1
theorem z14(h1:(0:Int)<=x1)(h2:x1< (n1:Int))(h3:n1<=(1000:Nat)):((-9223372036854775808:Int)<=x1/\x1< (9223372036854775808:Int)):=⟨Ac (by decide) h1,Am h2 (Ac (Ct.mpr h3) (by decide))⟩
theorem z15{n5:Nat}(h1:n1<=(900:Nat))(h2:n2=n3)(h3:n4=n1)(h4:n3<=(n4+(1:Nat)))(h5:n2=n5):n5<=((16777216:Nat)+(1:Nat)):=Ar (cD (h5.symm.trans h2) h4) (cD (congrArg (· + 1) h3) (Ar (Ep h1 1) (by decide)))
theorem z16(h1:(n1-n2)=(0:Nat)):n1<=n2:=Nat.le_of_sub_eq_zero h1
theorem z17(h1:n1< ((x1-x2)).toNat):(0:Int)< ((((x1-x2)).toNat:Int)-(n1:Int)):=Int.sub_pos_of_lt (Df.mpr h1)
theorem z18:((x1+((n1:Int)*(1:Int)))+(1:Int))=(x1+(((n1:Int)+(1:Int))*(1:Int))):=by rw[Ir,Ir,Hk]
theorem z19:(((((x1-x2)).toNat:Int)-(n1:Int))-(1:Int))=((((x1-x2)).toNat:Int)-((n1:Int)+(1:Int))):=Int.sub_sub _ _ _
theorem z20(h1:((x1-x2)).toNat<=n1):((((x1-x2)).toNat:Int)-(n1:Int))<=(0:Int):=Int.sub_nonpos_of_le (Ct.mpr h1)
theorem z21(h1:n1<=(1000:Nat))(h2:(n1+(n2+(1:Nat)))<=(1000:Nat)):(n1+(1:Nat))<=(1000:Nat):=Ar (Bx (Nat.succ_le_succ (Fa n2)) n1) h2
theorem z22(h1:(n1+(n2+(1:Nat)))<=(1000:Nat)):((n1+(1:Nat))+n2)<=(1000:Nat):=Ar (De (Dj n1 n2)) h1
theorem z23(h1:(n1+(n2+(1:Nat)))<=(1000:Nat)):(n1+n2)<=(1000:Nat):=Ar (Bx (Cs n2) n1) h1
theorem z24:n1<=((n1+(1:Nat))+(1:Nat)):=Em n1 2
theorem z25(h1:((n1+((8:Nat)*n2))+(5:Nat))<n3):(n1+(5:Nat))<n3:=Bf (Ep (Em _ _) 5) h1
theorem z26(h1:n1<=(1000:Nat))(h2:n2<=(1000:Nat))(h3:n3=n1)(h4:n4=n2):(n3+n4)<=(16777216:Nat):=Ar (Jl (cD h3 h1) (cD h4 h2)) (by decide)
theorem z27(h1:n1<=(1000:Nat))(h2:n2<=(1000:Nat))(h3:n3=n1)(h4:n4=n2):(n3+n4)<=((16777216:Nat)+(1:Nat)):=Ar (Jl (cD h3 h1) (cD h4 h2)) (by decide)
theorem z28(h1:n1<=(1000:Nat))(h2:n2=n1)(h3:n3<n1):(n3:Int)< (((2:Int) ^(63:Nat))-(1:Int)):=Am (Df.mpr h3) (Ac (Ct.mpr h1) (by decide))
theorem z29(h1:n1<=(1000:Nat))(h2:n2=n1):(n2:Int)< ((2:Int) ^(63:Nat)):=Bu (Ct.mpr (cD h2 h1)) (by decide)
theorem z30(h1:(n1+(5:Nat))<n2)(h2:(n3+(1:Nat))<=(5:Nat)):((n1+(1:Nat))+n3)<n2:=Bf (Ar (De (Dj n1 n3)) (Bx h2 n1)) h1
theorem z31(h1:(n1+(1:Nat))<=n2)(h2:n3=(n4+(1:Nat))):(n3+n1)<=(n4+n2):=Ar (De ((congrArg (· + n1) h2).trans (Dj n4 n1))) (Bx h1 n4)
theorem z32(h1:(n1+(1:Nat))<=n2)(h2:n3<=(n4+(4:Nat))):(n3+((8:Nat)*n1))<=((n4+((8:Nat)*n2))+(4:Nat)):=by first|lia|omega
theorem z33(h1:n1<=(4:Nat))(h2:(n2+(5:Nat))<n3):((n2+(1:Nat))+n1)<n3:=Bf (Ar (Bx h1 _) (De (Nat.add_assoc n2 1 4))) h2
theorem z34:((((0:Nat)+(1:Nat))+(1:Nat))+(1:Nat))<=((16777216:Nat)+(2:Nat)):=by decide
theorem z35(h1:n1<=(1000:Nat))(h2:n2=n1):(min (n3-n4) (n1-n4))<=(16777216:Nat):=Ar (Nat.min_le_right _ _) (Ar (Nat.sub_le _ _) (nle h1))
theorem z36(h1:(0:Nat)<n1)(h2:n2<=(n1-(1:Nat))):n2<n1:=Nat.lt_of_le_sub_one h1 h2
theorem z37(h1:(0:Nat)<n1)(h2:n2<n1):n2<=(n1-(1:Nat)):=Nat.le_sub_one_of_lt h2
theorem z38(h1:(0:Int)<x1)(h2:x1<=(2000000:Int)):(x1).natAbs< (1073741824:Nat):=na h1 (aHw h2)
theorem z39(h1:(0:Int)<x1)(h2:x1<=(1000:Int)):x1≠(((2:Int) ^(63:Nat))-(1:Int)):=gG (aHw h2)
theorem z40(h1:n1<=n2)(h2:(n3+n2)<n4):(n3+n1)<n4:=Bf (Bx h1 n3) h2
theorem z41(h1:n1<=n2)(h2:(n3+((8:Nat)*n2))<n4):(n3+((8:Nat)*n1))<n4:=Bf (Bx (Ja 8 h1) n3) h2
theorem z42:(0:Int)=(x1 % (1:Int)):=(Int.emod_one x1).symm
theorem z43(h1:((0:Int)<=x1/\x1< (1000:Int))):((1000:Int)*x2)<=(((1000:Int)*x2)+x1):=Ca h1.1
theorem z44(h1:((0:Int)<=x1/\x1< (1000:Int))):(((1000:Int)*x2)+x1)< (((1000:Int)*x2)+(1000:Int)):=Jb h1.2 _
theorem z45(h1:(0:Int)<=x1)(h2:(x1).toNat<n1)(h3:(n1=(1:Nat)\/(n1=(2:Nat)\/(n1=(4:Nat)\/n1=(8:Nat))))):((0:Int)<=x1/\x1< (1000:Int)):=⟨h1,Am ((Jf h1).mp h2) (Ac (Ct.mpr (pw8 h3)) (by decide))⟩
theorem z46(h1:(0:Int)<=x1)(h2:(0:Int)<=x2)(h3:¬(x1=x2)):(x1).toNat≠(x2).toNat:=fun e=>h3 (by rw[<-Cb h1,<-Cb h2,e])
theorem z47(h1:(max x1 (x2+(1:Int)))<=x3):x1<=x3:=Ac (Int.le_max_left _ _) h1
theorem z48(h1:(max x1 (x2+(1:Int)))<=x3)(h2:x3=x2):False:=by first|lia|omega
theorem z49(h1:(n1+(1:Nat))< (n2+(1:Nat))):n1<n2:=Km h1
theorem z50:(n1+(n2+(1:Nat)))=((n1+(1:Nat))+n2):=(Dj n1 n2).symm
theorem z51:(((n1+(1:Nat))+n2)+(1:Nat))=((n1+(n2+(1:Nat)))+(1:Nat)):=congrArg (· + 1) (Dj n1 n2)
theorem z52:((n1+(1:Nat))+n2)=(n1+(n2+(1:Nat))):=Dj n1 n2
theorem z53(h1:n1< ((n2+(1:Nat))+n3)):n1< (n2+(n3+(1:Nat))):=Bi h1 (De (Dj n2 n3))
theorem z54:n1< (n1+(n2+(1:Nat))):=Nat.lt_add_of_pos_right (Nat.succ_pos n2)
theorem z55(h1:n1< ((0:Nat)+n2)):n1<n2:=(Fo n2)▸h1
theorem z56(h1:(n1+(1:Nat))<=n2):((n1+(0:Nat)):Int)≠(n2:Int):=fun e=>absurd (Nu.mp e) (Bn h1)
theorem z57(h1:((-1000000:Int)<=x1/\x1<=(1000000:Int))):(x1).natAbs< ((2:Nat) ^(63:Nat)):=aRg h1.1 h1.2
theorem z58(h1:n1< (63:Nat)):(n1+(1:Nat))<=(64:Nat):=Ar h1 (by decide)
theorem z59(h1:n1< ((x1-x2)).toNat):(x2<=(x2+(n1:Int))/\(x2+(n1:Int))<x1):=⟨Ca oU,Int.add_lt_of_lt_sub_left (Int.lt_toNat.mp h1)⟩
theorem z60(h1:x1<=x2)(h2:x2<x3):((x2-x1)).toNat< ((x3-x1)).toNat:=(Int.toNat_lt_toNat (Int.sub_pos_of_lt (Bu h1 h2))).mpr (Int.sub_lt_sub_right h2 x1)
theorem z61(h1:x1<=x2):(x1+(((x2-x1)).toNat:Int))=x2:=by rw[Cb (Int.sub_nonneg_of_le h1),Ko,Int.sub_add_cancel]
theorem z62:x1< (max x2 (x1+(1:Int))):=Am (Int.lt_add_one_of_le (Az _)) (Int.le_max_right _ _)
theorem z63(h1:x1<x2):x1< (max x2 (x3+(1:Int))):=Am h1 (Int.le_max_left _ _)
theorem z64(h1:(0:Int)<x1)(h2:x1< (1073741824:Int)):(x1).natAbs< (1073741824:Nat):=na h1 h2
theorem z65(h1:(0:Int)<=x1):(-((2:Int) ^(63:Nat)))<=x1:=Ac (by decide) h1
theorem z66(h1:n1<=(1000:Nat))(h2:(x1).toNat<n2)(h3:n2=n1):x1< ((2:Int) ^(63:Nat)):=Bu (Int.self_le_toNat x1) (Am (Df.mpr h2) (Ac (Ct.mpr (cD h3 h1)) (by decide)))
theorem z67(h1:(0:Int)<=x1)(h2:n1<=(1000:Nat))(h3:(x1).toNat<n2)(h4:n2=n1):((0:Int)<=x1/\x1< (n2:Int)):=⟨h1,(Jf h1).mp h3⟩
theorem z68(h1:n1=n2)(h2:n1<=(15:Nat))(h3:n3=n1)(h4:n4=n3):((0:Nat)+n1)<=(16777216:Nat):=by rw[Fo];exact nle h2
theorem z69(h1:n1=(4:Nat)):(n1+(100:Nat))<=(16777216:Nat):=by subst h1;decide
theorem z70(h1:(2:Nat)<=n1)(h2:n2=(n3+(1:Nat))):(n2+(1:Nat))<=(n3+n1):=by subst h2;exact Bx h1 n3
theorem z71(h1:(2:Nat)<=n1)(h2:n2<=(n3+(4:Nat))):(n2+((8:Nat)*(1:Nat)))<=((n3+((8:Nat)*n1))+(4:Nat)):=by first|lia|omega
theorem z72(h1:(n1+n2)<=(1000:Nat))(h2:n1=n3):n1<=(16777216:Nat):=Ar (Em n1 n2) (nle h1)
theorem z73(h1:n1=n2)(h2:n1=n3)(h3:n2=(1:Nat)):n3<=((16777216:Nat)+(1:Nat)):=cD (h2.symm.trans (h1.trans h3)) (by decide)
theorem z74(h1:n1<=(900:Nat))(h2:n2=n3)(h3:n2=n4)(h4:n3<=(n1+(1:Nat))):n4<=((16777216:Nat)+(1:Nat)):=cD (h3.symm.trans h2) (Ar h4 (Ar (Ep h1 1) (by decide)))
theorem z75(h1:n1< (1:Nat)):n1=(0:Nat):=Nat.lt_one_iff.mp h1
theorem z76(h1:n1< (2:Nat)):(n1=(0:Nat)\/n1=(1:Nat)):=(Nat.lt_succ_iff_lt_or_eq.mp h1).imp Nat.lt_one_iff.mp id
theorem z77(h1:n1< (3:Nat)):(n1=(0:Nat)\/(n1=(1:Nat)\/n1=(2:Nat))):=(Nat.lt_succ_iff_lt_or_eq.mp h1).elim (fun h=>(z76 h).imp id .inl) (fun h=>.inr (.inr h))
theorem z78:((0:Int)<=(x1 % (256:Int))/\(x1 % (256:Int))< (256:Int)):=⟨Ni _ (by decide),Ly _ (by decide)⟩
theorem z79(h1:(n1=(1:Nat)\/(n1=(2:Nat)\/(n1=(4:Nat)\/n1=(8:Nat))))):(n1:Int)≠(0:Int):=fun e=>absurd (Int.ofNat_eq_zero.mp e) (Da (pw1 h1))
theorem z80(h1:(n1=(1:Nat)\/(n1=(2:Nat)\/(n1=(4:Nat)\/n1=(8:Nat))))):(0:Int)< (n1:Int):=Df.mpr (pw1 h1)
theorem z81:(((n1:Int)-(0:Int))).toNat=n1:=by rw[Cj,Dq]
theorem z82(h1:((0:Int)<=x1/\x1< (n1:Int)))(h2:n2=n1)(h3:(n1=(1:Nat)\/(n1=(2:Nat)\/(n1=(4:Nat)\/n1=(8:Nat))))):((n1:Int)=(1:Int)\/((n1:Int)=(2:Int)\/((n1:Int)=(4:Int)\/(n1:Int)=(8:Int)))):=h3.imp (congrArg _) (Or.imp (congrArg _) (Or.imp (congrArg _) (congrArg _)))
theorem z83(h1:((0:Int)<=x1/\x1< (n1:Int)))(h2:n2=n1)(h3:x2=x1):(x1).toNat< (((n1:Int)-(0:Int))).toNat:=by rw[Cj,Dq];exact(Jf h1.1).mpr h1.2
theorem z84(h1:((0:Int)<=x1/\x1< (n1:Int)))(h2:x2=x1):(max x1 (0:Int))=x1:=Int.max_eq_left h1.1
theorem z85(h1:n1=n2)(h2:(n2=(1:Nat)\/(n2=(2:Nat)\/(n2=(4:Nat)\/n2=(8:Nat))))):n1<=(1000:Nat):=cD h1 (nle (pw8 h2))
theorem z86(h1:((0:Int)<=x1/\x1< (4:Int))):(0:Int)<=((8:Int)*x1):=Fy (by decide) h1.1
theorem z87(h1:n1< (256:Nat)):n1< ((2:Nat) ^(64:Nat)):=Ee h1 (by decide)
theorem z88(h1:(n1:Int)=x1)(h2:x1<=(600:Int))(h3:n2=n1):n2<=(1000:Nat):=cD h3 (cle (hM h1 h2))
theorem z89(h1:(0:Int)<x1)(h2:x1<=(1000:Int)):((0:Int)< ((((x1+(7:Int)) /(8:Int))*(8:Int))+(8:Int))/\((((x1+(7:Int)) /(8:Int))*(8:Int))+(8:Int))<=(2000:Int)):=by first|lia|omega
theorem z90(h1:((0:Int)<=x1/\x1< (n1:Int)))(h2:(n1=(1:Nat)\/(n1=(2:Nat)\/(n1=(4:Nat)\/n1=(8:Nat))))):((0:Int)<=x1/\x1< (1000:Int)):=⟨h1.1,Am h1.2 (Ac (Ct.mpr (pw8 h2)) (by decide))⟩
theorem z91(h1:(n1=(1:Nat)\/(n1=(2:Nat)\/(n1=(4:Nat)\/n1=(8:Nat)))))(h2:(n2<=(8:Nat)/\n3<=((100:Nat)*n2)))(h3:n2< (((n1:Int)-(0:Int))).toNat)(h4:n4<=(100:Nat)):((n2+(1:Nat))<=(8:Nat)/\(n3+n4)<=((100:Nat)*(n2+(1:Nat)))):=⟨Ar (tl h3) (pw8 h1),Ar (Jl h2.2 h4) (De (Nat.mul_succ 100 n2).symm)⟩
theorem z92(h1:(n1<=(8:Nat)/\n2<=((100:Nat)*n1)))(h2:(x1).toNat<n3):n2<=(1000:Nat):=Ar h1.2 (Ar (Ja 100 h1.1) (by decide))
theorem z93(h1:((1:Int)<=x1/\x1<=(100:Int))):((0:Int)<=((((x1+(7:Int)) /(8:Int))*(8:Int))+(8:Int))/\((((x1+(7:Int)) /(8:Int))*(8:Int))+(8:Int))<=(200:Int)):=by first|lia|omega
theorem z94(h1:((1:Int)<=x1/\x1<=(8:Int))):((200:Int)*(x1+(1:Int)))<=(1800:Int):=Ac (It (Be h1.2 1) (by decide)) (by decide)
theorem z95(h1:((((x1*(8:Int))+(8:Int))*(x2+(1:Int)))*x3)<=((1800:Int)*(4:Int))):((((x1*(8:Int))+(8:Int))*(x2+(1:Int)))*x3)<=(1048576:Int):=ile h1
theorem z96:(0:Int)<=((n1+(1:Nat)):Int):=Lx _
theorem z97(h1:(x1+(n1:Int))=(x1+(n2:Int))):n1=n2:=Nu.mp (Int.add_left_cancel h1)
theorem z98(h1:((x1*x2)<=((8:Int)*(4:Int))/\(0:Int)<=(x1*x2)))(h2:((0:Int)<=x3/\x3< (x1*x2))):((0:Int)<=x3/\x3< (100:Int)):=⟨h2.1,Am h2.2 (Ac h1.1 (by decide))⟩
theorem z99(h1:((x1*x2)<=((8:Int)*(4:Int))/\(0:Int)<=(x1*x2))):((-1000000:Int)<=(x1*x2)/\(x1*x2)<=(1000000:Int)):=⟨Ac (by decide) h1.2,ile h1.1⟩
theorem aVu(h1:((x1*x2)<=((8:Int)*(4:Int))/\(0:Int)<=(x1*x2)))(h2:((0:Int)<=x3/\x3< (x1*x2)))(h3:x3=(n1:Int)):x3< (100:Int):=Am h2.2 (Ac h1.1 (by decide))
theorem aVt(h1:((x1*x2)<=((8:Int)*(4:Int))/\(0:Int)<=(x1*x2)))(h2:((0:Int)<=x3/\x3< (x1*x2)))(h3:x3=(n1:Int)):(((n1:Int)-(0:Int))).toNat<=(1000:Nat):=by rw[Cj,Dq];exact Ct.mp (Ac (Cu (h3▸h2.2)) (Ac h1.1 (by decide)))
theorem aVs(h1:(x1=(1:Int)\/(x1=(2:Int)\/(x1=(4:Int)\/x1=(8:Int))))):((0:Int)<=x1/\x1<=(8:Int)):=by rcases h1 with h|h|h|h <;> subst h <;> decide
theorem aVr(h1:((0:Int)<=x1/\x1<=(8:Int)))(h2:(x1).toNat=n1):n1<=(8:Nat):=h2▸zU h1.2
theorem aVq(h1:((0:Int)<=x1/\x1<=(8:Int)))(h2:(x1).toNat=n1)(h3:n1<=(8:Nat)):x1=(n1:Int):=(Cb h1.1).symm.trans (congrArg _ h2)
theorem aVp(h1:(x1=(1:Int)\/(x1=(2:Int)\/(x1=(4:Int)\/x1=(8:Int)))))(h2:((0:Int)<=x1/\x1<=(8:Int)))(h3:(x1).toNat=n1)(h4:n1<=(8:Nat))(h5:x1=(n2:Int)):(n1=(1:Nat)\/(n1=(2:Nat)\/(n1=(4:Nat)\/n1=(8:Nat)))):=by subst h3;rcases h1 with h|h|h|h <;> subst h <;> decide
theorem aOw(h1:(0:Int)<=x1):((x1).toNat:Int)=x1:=Cb h1
theorem aVo(h1:n1<n2):n1< (((n2:Int)-(0:Int))).toNat:=by rw[Cj,Dq];exact h1
theorem aRa(h1:n1=n2)(h2:(n2:Int)=x1):x1=(n1:Int):=h2.symm.trans (congrArg _ h1.symm)
theorem aQz(h1:n1<=(100:Nat)):(min n2 n1)<=(1000:Nat):=Ar (Nat.min_le_right _ _) (nle h1)
theorem aVn(h1:(n1=(1:Nat)\/(n1=(2:Nat)\/(n1=(4:Nat)\/n1=(8:Nat)))))(h2:((0:Int)<=x1/\x1< (n1:Int))):((0:Int)<=x1/\x1< (1000:Int)):=⟨h2.1,Am h2.2 (Ac (Ct.mpr (pw8 h1)) (by decide))⟩
theorem aVm(h1:(n1=(1:Nat)\/(n1=(2:Nat)\/(n1=(4:Nat)\/n1=(8:Nat)))))(h2:n2=n3)(h3:((0:Int)<=x1/\x1< (n1:Int)))(h4:x1=(n2:Int))(h5:n4<n2):((0:Int)<=(n4:Int)/\(n4:Int)< (1000:Int)):=⟨oU,Am (Df.mpr (Bi (Ee h5 (Df.mp (h4▸h3.2))) (pw8 h1))) (by decide)⟩
theorem aVl(h1:(n1=(1:Nat)\/(n1=(2:Nat)\/(n1=(4:Nat)\/n1=(8:Nat)))))(h2:n2=n3)(h3:((0:Int)<=x1/\x1< (n1:Int)))(h4:x1=(n2:Int)):(n2:Int)< (100:Int):=Am (h4▸h3.2) (Ac (Ct.mpr (pw8 h1)) (by decide))
theorem aVk(h1:(n1=(1:Nat)\/(n1=(2:Nat)\/(n1=(4:Nat)\/n1=(8:Nat))))):(((n1:Int)-(0:Int))).toNat<=(1000:Nat):=by rw[Cj,Dq];exact nle (pw8 h1)
theorem aVj(h1:(0:Int)<=x1):(((x1-(0:Int))).toNat:Int)=x1:=by rw[Cj];exact Cb h1
theorem aQy(h1:(0:Int)<=x1)(h2:x1< (4:Int)):(x1=(0:Int)\/(x1=(1:Int)\/(x1=(2:Int)\/x1=(3:Int)))):=by first|lia|omega
theorem aVi(h1:(n1=(1:Nat)\/(n1=(2:Nat)\/(n1=(4:Nat)\/n1=(8:Nat))))):n1<=(100:Nat):=nle (pw8 h1)
theorem aVh(h1:n1< (min n2 n3))(h2:n2<n3)(h3:n1=n2):False:=absurd (Bi h1 (Nat.min_le_left _ _)) (h3▸Ed _)
theorem aVg(h1:(x1<=x2/\x2<=(x1+(n1:Int))))(h2:(x3<=x1/\x1<=(x3+(1:Int)))):(x3<=x2/\x2<=(x3+((n1+(1:Nat)):Int))):=⟨Ac h2.1 h1.1,Ac h1.2 (Ac (Be h2.2 _) (Hd (ac1 x3 n1)))⟩
theorem aVf:(x1-(0:Int))=x1:=Cj x1
theorem aVe(h1:(x1<=x2/\x2<=(x1+(n1:Int))))(h2:(x2<=x3/\x3<=(x2+(1:Int)))):(x1<=x3/\x3<=(x1+((n1+(1:Nat)):Int))):=⟨Ac h1.1 h2.1,Ac h2.2 (Ac (Be h1.2 1) (Hd (Hk _ _ _)))⟩
theorem aVd(h1:(0:Int)<=x1)(h2:x1<=(50000:Int))(h3:((0:Int)<=x2/\x2<=(100:Int)))(h4:(x1<=x3/\x3<=(x1+(n1:Int))))(h5:n1< ((x2-(0:Int))).toNat):x3<=(100000:Int):=Ac h4.2 (Ac (Int.add_le_add h2 (Ac (Cu (ti h5)) h3.2)) (by decide))
theorem aVc(h1:n1<n2):((0:Int)+(n1:Int))< ((0:Int)+(n2:Int)):=Jb (Df.mpr h1) 0
theorem aVb(h1:(1:Int)<=x1)(h2:x1<=(16:Int)):((((((x1+(7:Int)) /(8:Int))*(8:Int))+(8:Int))=(16:Int)/\x1<=(8:Int))\/((((x1+(7:Int)) /(8:Int))*(8:Int))+(8:Int))=(24:Int)):=by first|lia|omega
theorem aVa(h1:((1:Int)<=x1/\x1<=(8:Int))):(0:Int)< ((x1*(4:Int))+(2:Int)):=Int.add_pos_of_nonneg_of_pos (Fy (Ac (by decide) h1.1) (by decide)) (by decide)
theorem aUz(h1:((x1=(16:Int)/\x2<=(8:Int))\/x1=(24:Int))):(0:Int)<x1:=by rcases h1 with⟨h,_⟩|h <;> subst h <;> decide
theorem aQx(h1:(0:Int)<=x1)(h2:x1<=(50000:Int))(h3:(x1<=x2/\x2<=(x1+(1:Int)))):x2<=(100000:Int):=Ac h3.2 (Ac (Be h2 1) (by decide))
theorem aUy(h1:((((x1*(8:Int))+(8:Int))=(16:Int)/\x2<=(8:Int))\/((x1*(8:Int))+(8:Int))=(24:Int))):((0:Int)< ((x1*(8:Int))+(8:Int))/\((x1*(8:Int))+(8:Int))<=(1000000:Int)):=by rcases h1 with⟨h,_⟩|h <;> rw[h] <;> decide
theorem aUx(h1:((1:Int)<=x1/\x1<=(8:Int)))(h2:((0:Int)<=x2/\x2< ((x1*(4:Int))+(2:Int)))):((-1000000:Int)<=x2/\x2<=(1000000:Int)):=⟨Ac (by decide) h2.1,Ac (Cu h2.2) (Ac (Be (Fz h1.2 (by decide)) 2) (by decide))⟩
theorem aOv(h1:((1:Int)<=x1/\x1<=(8:Int)))(h2:((0:Int)<=x2/\x2< ((x1*(4:Int))+(2:Int)))):x2<=(100:Int):=Ac (Cu h2.2) (Ac (Be (Fz h1.2 (by decide)) 2) (by decide))
theorem aUw(h1:((1:Int)<=x1/\x1<=(8:Int))):((-1000000:Int)<=(x1+(1:Int))/\(x1+(1:Int))<=(1000000:Int)):=⟨Ac (by decide) (Be h1.1 1),Ac (Be h1.2 1) (by decide)⟩
theorem aUv(h1:((1:Int)<=x1/\x1<=(8:Int)))(h2:(n1:Int)<=x1):n1< (((x1+(1:Int))-(0:Int))).toNat:=by rw[Cj];exact Int.lt_toNat.mpr (Int.lt_add_one_of_le h2)
theorem aUu(h1:((1:Int)<=x1/\x1<=(8:Int)))(h2:(n1:Int)<=x1)(h3:n1=(n2+(n3+(1:Nat)))):n2<=(1000:Nat):=Ar (Ar (Em _ _) (De h3.symm)) (cle (Ac h2 h1.2))
theorem aUt(h1:(0:Int)<=x1)(h2:x1< (3:Int)):(x1=(0:Int)\/(x1=(1:Int)\/x1=(2:Int))):=by first|lia|omega
theorem aUs(h1:((0:Int)<=x1/\x1< (12:Int))):((1:Int)<=((1:Int)+x1)/\((1:Int)+x1)<=(100:Int)):=⟨Ca h1.1,Ac (Ev (Cu h1.2) 1) (by decide)⟩
theorem aUr(h1:((0:Int)<=x1/\x1< (5:Int))):((1:Int)<=((1:Int)+x1)/\((1:Int)+x1)<=(8:Int)):=⟨Ca h1.1,Ac (Ev (Cu h1.2) 1) (by decide)⟩
theorem aUq(h1:((0:Int)<=x1/\x1< (3:Int))):((1:Int)<=((1:Int)+x1)/\((1:Int)+x1)<=(512:Int)):=⟨Ca h1.1,Ac (Ev (Cu h1.2) 1) (by decide)⟩
theorem aUp(h1:(0:Int)<=x1)(h2:x1<=(50000:Int))(h3:(x1<=x2/\x2<=(x1+(1:Int))))(h4:(x2<=x3/\x3<=(x2+(1:Int)))):x3<=(100000:Int):=Ac h4.2 (Ac (Be (Ac h3.2 (Be h2 1)) 1) (by decide))
theorem aUo{x4:Int}(h1:(0:Int)<=x1)(h2:x1<=(50000:Int))(h3:(x1<=x2/\x2<=(x1+(1:Int))))(h4:(x2<=x3/\x3<=(x2+(1:Int))))(h5:(x3<=x4/\x4<=(x3+(1:Int)))):x4<=(100000:Int):=Ac h5.2 (Ac (Be (Ac h4.2 (Be (Ac h3.2 (Be h2 1)) 1)) 1) (by decide))
theorem aUn{x4 x5:Int}(h1:(0:Int)<=x1)(h2:x1<=(50000:Int))(h3:(x1<=x2/\x2<=(x1+(1:Int))))(h4:(x2<=x3/\x3<=(x2+(1:Int))))(h5:(x3<=x4/\x4<=(x3+(1:Int))))(h6:(x4<=x5/\x5<=(x4+(1:Int)))):x5<=(100000:Int):=Ac h6.2 (Ac (Be (Ac h5.2 (Be (Ac h4.2 (Be (Ac h3.2 (Be h2 1)) 1)) 1)) 1) (by decide))
theorem aQw(h1:((x1*x2)<=((8:Int)*(4:Int))/\(0:Int)<=(x1*x2))):(((x1*x2)-(0:Int))).toNat<=(1000:Nat):=by rw[Cj];exact zU h1.1
theorem aUm(h1:¬(((1:Int)<=x1/\x1<=(512:Int)))):(x1< (1:Int)\/(512:Int)<x1):=(Decidable.not_and_iff_or_not.mp h1).imp Ff.mp Ff.mp
theorem aUl(h1:((0:Int)<=x1/\x1< (2:Int))):(x1=(0:Int)\/x1=(1:Int)):=by first|lia|omega
theorem aUk(h1:¬(x1< (1:Int)))(h2:x1<=(100:Int)):((0:Int)<=((((x1+(7:Int)) /(8:Int))*(8:Int))+(8:Int))/\((((x1+(7:Int)) /(8:Int))*(8:Int))+(8:Int))<=(200:Int)):=by first|lia|omega
theorem aUj(h1:(0:Int)<=(x1 % (n1:Int)))(h2:(x1 % (n1:Int))< (n1:Int)):((x1 % (n1:Int))).toNat<n1:=(Jf h1).mpr h2
theorem aUi(h1:((0:Int)<=x1/\x1<x2))(h2:n1<=((x2-(0:Int))).toNat):(n1:Int)<=x2:=Ac (Ct.mpr h2) (by rw[Cj];exact Hd (Cb (Ac h1.1 (Cu h1.2))))
theorem aUh(h1:n1=(n2+n3)):n2<=n1:=h1▸Em n2 n3
theorem aUg(h1:(0:Int)<=x1)(h2:n1<=((x1-(0:Int))).toNat)(h3:((x1-(0:Int))).toNat<=n1):(n1:Int)=x1:=by rw[Cj] at h2 h3;rw[Nat.le_antisymm h2 h3];exact Cb h1
theorem aQv(h1:x1> (2:Int)):(¬(x1=(0:Int))/\(¬(x1=(1:Int))/\¬(x1=(2:Int)))):=⟨fun e=>absurd (e▸h1) (by decide),fun e=>absurd (e▸h1) (by decide),fun e=>absurd (e▸h1) (by decide)⟩
theorem aUf(h1:(0:Int)<=x1)(h2:¬(x1> (2:Int))):(x1=(0:Int)\/(x1=(1:Int)\/x1=(2:Int))):=by first|lia|omega
theorem aUe(h1:(0:Int)<=x1)(h2:x1< (8:Int)):(x1).toNat< (8:Nat):=(Jf h1).mpr h2
theorem aUd(h1:(0:Int)<=x1)(h2:x1< (8:Int)):((x1).toNat:Int)=x1:=Cb h1
theorem aXi(h1:(1:Int)<=x1)(h2:x1<=(4:Int)):((x1).toNat-(1:Nat))< (4:Nat):=by first|lia|omega
theorem aXh(h1:(1:Int)<=x1)(h2:x1<=(4:Int)):((((x1).toNat-(1:Nat)):Int)+(1:Int))=x1:=by first|lia|omega
theorem aUc(h1:(0:Int)<=x1)(h2:x1<x2):((0:Int)<=x1/\x1< (x2*(1:Int))):=⟨h1,(Ir x2).symm▸h2⟩
theorem aUb(h1:(0:Int)<=x1)(h2:x1<x2)(h3:(0:Int)<=x3)(h4:x3< (4:Int)):((0:Int)<=((x1*(4:Int))+x3)/\((x1*(4:Int))+x3)< (x2*(4:Int))):=⟨Int.add_nonneg (Fy h1 (by decide)) h3,Am (Jb h4 _) (Ac (Hd (Oy x1 1 4).symm) (Fz h2 (by decide)))⟩
theorem aUa(h1:(0:Int)<=x1)(h2:¬(x1> (2:Int))):(¬(x1=(0:Int))->(¬(x1=(1:Int))->x1=(2:Int))):=by first|lia|omega
theorem aTz(h1:((1:Int)<=x1/\x1<=(5:Int)))(h2:n1< (x1).toNat):n1< ((x1-(0:Int))).toNat:=by rw[Cj];exact h2
theorem aTy(h1:((1:Int)<=x1/\x1<=(5:Int)))(h2:n1=(x1).toNat)(h3:(n2+(1:Nat))<=n1):(n2:Int)< (8:Int):=Am (Df.mpr h3) (by rw[h2,Cb (Ac (by decide) h1.1)];exact Ac h1.2 (by decide))
theorem aTx(h1:((1:Int)<=x1/\x1<=(5:Int)))(h2:n1=(x1).toNat)(h3:(n2+(1:Nat))<=n1):(n2:Int)<x1:=Am (Df.mpr h3) (by rw[h2];exact Hd (Cb (Ac (by decide) h1.1)))
theorem aTw:(n1:Int)=(((n1+(1:Nat)):Int)-(1:Int)):=(Int.add_sub_cancel _ _).symm
theorem aTv(h1:((1:Int)<=x1/\x1<=(5:Int)))(h2:x2=((n1:Int)-(1:Int)))(h3:n1=(x1).toNat):((n1:Int)-(1:Int))=(x1-(1:Int)):=congrArg (· - 1) (by rw[h3];exact Cb (Ac (by decide) h1.1))
theorem aTu(h1:n1=(x1).toNat)(h2:x2=((n2:Int)-(1:Int)))(h3:n2=(x1).toNat):n1<=n2:=De (h1.trans h3.symm)
theorem aTt(h1:n1<=n2)(h2:((1:Int)<=x1/\x1<=(5:Int)))(h3:n2=(x1).toNat)(h4:x2=((n1:Int)-(1:Int)))(h5:¬(n1=(x1).toNat)):¬(((n1:Int)-(1:Int))=(x1-(1:Int))):=by first|lia|omega
theorem aTs(h1:n1<=n2)(h2:n2=(x1).toNat)(h3:x2=((n1:Int)-(1:Int)))(h4:¬(n1=(x1).toNat)):n1< (x1).toNat:=Nat.lt_of_le_of_ne (h2▸h1) h4
theorem aTr(h1:n1<=n2)(h2:((1:Int)<=x1/\x1<=(5:Int)))(h3:n2=(x1).toNat)(h4:x2=((n1:Int)-(1:Int)))(h5:¬(n1=(x1).toNat)):(n1:Int)< (8:Int):=by first|lia|omega
theorem aTq(h1:¬(((0:Int)<=x1/\x1< (64:Int)))):(x1< (0:Int)\/(64:Int)<=x1):=(Decidable.not_and_iff_or_not.mp h1).imp Ff.mp Eg.mp
theorem aTp(h1:((0:Int)<=x1/\x1< (10:Int))):(x1=(0:Int)\/(x1=(1:Int)\/(x1=(2:Int)\/(x1=(3:Int)\/(x1=(4:Int)\/(x1=(5:Int)\/(x1=(6:Int)\/(x1=(7:Int)\/(x1=(8:Int)\/x1=(9:Int)))))))))):=by obtain⟨n,rfl⟩:=Int.eq_ofNat_of_zero_le h1.1;match n,h1.2 with|0,_|1,_|2,_|3,_|4,_|5,_|6,_|7,_|8,_|9,_=>decide
theorem aQu(h1:(1:Int)<=x1)(h2:x1<=(5:Int))(h3:(n1:Int)<=x1)(h4:n2<=n1):n2<=(100:Nat):=Ar h4 (cle (Ac h3 h2))
theorem aQt(h1:(n1:Int)=x1)(h2:(n2:Int)=x1):n2=n1:=Nu.mp (h2.trans h1.symm)
theorem aTo(h1:((0:Int)<=x1/\x1<x2)):((0:Int)<=x1/\x1< (x2*(1:Int))):=⟨h1.1,(Ir x2).symm▸h1.2⟩
theorem aTn(h1:n1=(1:Nat)):(1:Nat)<=n1:=by subst h1;decide
theorem aTm(h1:n1=(2:Nat)):(1:Nat)<=n1:=by subst h1;decide
theorem aTl(h1:n1=(4:Nat)):(1:Nat)<=n1:=by subst h1;decide
theorem aTk(h1:n1=(3:Nat)):(1:Nat)<=n1:=by subst h1;decide
theorem aTj(h1:n1=(5:Nat)):(1:Nat)<=n1:=by subst h1;decide
theorem aTi(h1:x1<=x2)(h2:((1000:Int)*x2)<=x3):((1000:Int)*x1)<=x3:=Ac (It h1 (by decide)) h2
theorem aTh(h1:(n1:Int)<=x1)(h2:n2=n1):(n2:Int)<=x1:=h2.symm▸h1
theorem aTg(h1:(1:Int)<=x1)(h2:x1<=(5:Int))(h3:(n1:Int)<=x1)(h4:n2=n1)(h5:n3<=n1):n3<=(100:Nat):=Ar h5 (cle (Ac h3 h2))
theorem aTf(h1:(1:Int)<=x1)(h2:x1<=(5:Int)):(((x1-(0:Int))).toNat:Int)<=x1:=by rw[Cj];exact Hd (Cb (Ac (by decide) h1))
theorem aTe(h1:((0:Int)<=x1/\x1< (7:Int))):((-1000000:Int)<=((8:Int)+x1)/\((8:Int)+x1)<=(1000000:Int)):=⟨Ac (by decide) (Ev h1.1 8),Ac (Ev (Cu h1.2) 8) (by decide)⟩
theorem aTd(h1:((0:Int)<=x1/\x1< (5:Int))):(x1=(0:Int)\/(x1=(1:Int)\/(x1=(2:Int)\/(x1=(3:Int)\/x1=(4:Int))))):=by first|lia|omega
theorem aTc:(((x1+(1:Int))+(1:Int))+(1:Int))<=(x1+(3:Int)):=by rw[Hk,Hk];exact Az _
theorem aTb(h1:(1:Int)<=x1)(h2:x1<=(5:Int)):(x1+(3:Int))<=(8:Int):=Be h2 3
theorem aTa(h1:((0:Int)<=x1/\x1< (9:Int))):(x1< (4:Int)\/(x1=(4:Int)\/(x1=(5:Int)\/(x1=(6:Int)\/(x1=(7:Int)\/x1=(8:Int)))))):=by first|lia|omega
theorem aSz(h1:(1:Int)<=x1)(h2:x1<=(12:Int))(h3:(n1:Int)=x1):(((x2+(3:Int))+((x1).toNat:Int))+(1:Int))<=(x2+(20:Int)):=by first|lia|omega
theorem aXg(h1:x1=(4:Int))(h2:x1< (4:Int)):¬(x1< (4:Int)):=by subst h1;decide
theorem aXf(h1:x1=(5:Int))(h2:x1< (4:Int)):¬(x1< (4:Int)):=by subst h1;decide
theorem aXe(h1:x1=(5:Int))(h2:x1=(4:Int)):¬(x1=(4:Int)):=by subst h1;decide
theorem aOu:(((x1+(3:Int))+(1:Int))+(1:Int))<=(x1+(20:Int)):=by rw[Hk,Hk];exact Ev (by decide) x1
theorem aSy:x1<=(x1+((20:Int)*((0:Nat):Int))):=Ca (by decide)
theorem aSx(h1:(x1+((20:Int)*((n1+(1:Nat)):Int)))<=(40000:Int)):x1<=(40000:Int):=Ac (Ca (Fy (by decide) oU)) h1
theorem aXd(h1:x1=(6:Int))(h2:x1< (4:Int)):¬(x1< (4:Int)):=by subst h1;decide
theorem aXc(h1:x1=(6:Int))(h2:x1=(4:Int)):¬(x1=(4:Int)):=by subst h1;decide
theorem aSw(h1:(x1+((20:Int)*((n1+(1:Nat)):Int)))<=(40000:Int)):((x1+(20:Int))+((20:Int)*(n1:Int)))<=(40000:Int):=by first|lia|omega
theorem aXb(h1:x1=(6:Int))(h2:x1=(5:Int)):¬(x1=(5:Int)):=by subst h1;decide
theorem aSv:((x1+(20:Int))+((20:Int)*(n1:Int)))<=(x1+((20:Int)*((n1+(1:Nat)):Int))):=by first|lia|omega
theorem aSu(h1:((0:Int)<=x1/\x1< (12:Int))):((1:Int)<=((1:Int)+x1)/\((1:Int)+x1)<=(12:Int)):=⟨Ca h1.1,Ac (Hd (Ko 1 x1)) h1.2⟩
theorem aSt(h1:((0:Int)<=x1/\x1< (5:Int))):((1:Int)<=((1:Int)+x1)/\((1:Int)+x1)<=(5:Int)):=⟨Ca h1.1,Ac (Hd (Ko 1 x1)) h1.2⟩
theorem aSs(h1:((1:Int)<=x1/\x1<=(12:Int))):((x1).toNat:Int)=x1:=Cb (Ac (by decide) h1.1)
theorem aSr(h1:(1:Int)<=x1)(h2:x1<=(12:Int))(h3:(n1:Int)=x1):((x2+(3:Int))+((x1).toNat:Int))<=(x2+(20:Int)):=by first|lia|omega
theorem aSq(h1:(x1=(1:Int)\/(x1=(2:Int)\/(x1=(4:Int)\/x1=(8:Int))))):(0:Nat)< (x1).toNat:=by rcases h1 with h|h|h|h <;> subst h <;> decide
theorem aXa(h1:x1=(7:Int))(h2:x1< (4:Int)):¬(x1< (4:Int)):=by subst h1;decide
theorem aWz(h1:x1=(7:Int))(h2:x1=(4:Int)):¬(x1=(4:Int)):=by subst h1;decide
theorem aWy(h1:x1=(7:Int))(h2:x1=(5:Int)):¬(x1=(5:Int)):=by subst h1;decide
theorem aWx(h1:x1=(7:Int))(h2:x1=(6:Int)):¬(x1=(6:Int)):=by subst h1;decide
theorem aSp(h1:n1=(12:Nat))(h2:n1< (8:Nat)):False:=by subst h1;exact absurd h2 (by decide)
theorem aSo(h1:n1=(14:Nat))(h2:n1< (8:Nat)):False:=by subst h1;exact absurd h2 (by decide)
theorem aSn(h1:n1=(12:Nat))(h2:n1<=(7:Nat)):False:=by subst h1;exact absurd h2 (by decide)
theorem aSm(h1:n1=(14:Nat))(h2:n1<=(7:Nat)):False:=by subst h1;exact absurd h2 (by decide)
theorem aQs(h1:((0:Int)<=x1/\x1< (7:Int))):(((5:Int)+(1:Int))+((20:Int)*((((8:Int)+x1)).toNat:Int)))<=(40000:Int):=by first|lia|omega
theorem aSl(h1:((0:Int)<=x1/\x1< (7:Int))):(((5:Int)+(1:Int))+((20:Int)*((((8:Int)+x1)).toNat:Int)))<=(90000:Int):=Ac (aQs h1) (by decide)
theorem aSk(h1:x1<=(40000:Int)):(x1+(3:Int))<=(50000:Int):=Ac (Be h1 3) (by decide)
theorem aWw(h1:x1=(8:Int))(h2:x1< (4:Int)):¬(x1< (4:Int)):=by subst h1;decide
theorem aWv(h1:x1=(8:Int))(h2:x1=(4:Int)):¬(x1=(4:Int)):=by subst h1;decide
theorem aWu(h1:x1=(8:Int))(h2:x1=(5:Int)):¬(x1=(5:Int)):=by subst h1;decide
theorem aWt(h1:x1=(8:Int))(h2:x1=(6:Int)):¬(x1=(6:Int)):=by subst h1;decide
theorem aWs(h1:x1=(8:Int))(h2:x1=(7:Int)):¬(x1=(7:Int)):=by subst h1;decide
theorem aSj(h1:((1:Int)<=x1/\x1<=(12:Int))):((40003:Int)+((x1).toNat:Int))<=(100000:Int):=by first|lia|omega
theorem aSi(h1:¬(((63:Nat):Int)< (n1:Int))):n1<=(63:Nat):=Ct.mp (Eg.mp h1)
theorem aSh(h1:((1:Int)<=x1/\x1<=(12:Int)))(h2:(n1:Int)=x1):(n1+(1:Nat))<=(1000:Nat):=Ar (Ep (cle (d:=12) (hM h2 h1.2)) 1) (by decide)
theorem aSg(h1:((1:Int)<=x1/\x1<=(12:Int)))(h2:(n1:Int)=x1):((n1+(1:Nat))+n1)<=(1000:Nat):=Ar (Jl (Ep (cle (d:=12) (hM h2 h1.2)) 1) (cle (d:=12) (hM h2 h1.2))) (by decide)
theorem aOt:((((n1+(1:Nat))+(1:Nat))+(1:Nat))+(1:Nat))≠((n1+(1:Nat))+(1:Nat)):=Da (Ft (by decide:2<4) n1)
theorem aSf:((((n1+(1:Nat))+(1:Nat))+(1:Nat))+(1:Nat))≠(((n1+(1:Nat))+(1:Nat))+(1:Nat)):=Da (Ft (by decide:3<4) n1)
theorem aQr:(((n1+(1:Nat))+(1:Nat))+(1:Nat))≠((n1+(1:Nat))+(1:Nat)):=Da (Ft (by decide:2<3) n1)
theorem aSe:(((n1+(1:Nat))+(1:Nat))+(1:Nat))≠(n1+(1:Nat)):=Da (Ft (by decide:1<3) n1)
theorem aSd:((n1+(1:Nat))+(1:Nat))≠(n1+(1:Nat)):=Da (Ft (by decide:1<2) n1)
theorem aSc(h1:((0:Int)<=x1/\x1< (9:Int)))(h2:¬(x1< (4:Int)))(h3:¬(x1=(4:Int)))(h4:¬(x1=(5:Int)))(h5:¬(x1=(6:Int)))(h6:¬(x1=(7:Int))):x1=(8:Int):=by first|lia|omega
section
open PySem PySem.W PyProof.Rows
set_option maxRecDepth 1000000
theorem aHp{p q:Program}{loose:List Str}{Xt:Ai->Bool}{α:Type}{Yf:Ai->α}{Ya:World->α}{N:Nat}{g0:Bool}{H₀:Jz->Heap}{gs₀:Array Om}{d₀:Drawn}{k₀ m₀:Nat}{ann:Option Value}{M:Nat}
  (open_:∀w:World,(fencedOpening Hi p w N).map (fun s=>(s.heap,s.gens,s.drawn,s.toks))=some (H₀ w.params,gs₀,d₀,k₀))
  (size:∀w:World,((H₀ w.params).isNs mainGlobals&&gs₀.size==0,(H₀ w.params).objs.size,(H₀ w.params).nsMap mainGlobals "__annotations__")=(true,m₀,ann))
  (run:∀(w:World) (os:Lj),∃s₁,topRun Hi p w m₀ ann M ⟨H₀ w.params,gs₀,d₀,k₀,os⟩ (topStub p)=some s₁/\
   (staticsOk (Gr p.main.body) (H₀ w.params) s₁.heap&&namesBound p s₁.heap&&gensDone s₁&&laidKept (H₀ w.params) s₁.heap)=true/\
   openSeen q loose (Gr p.main.body) Xt g0 s₁=openGood q loose/\Yf s₁=Ya w) (le:Im M N=true):LeftO p q loose Xt Yf Ya N g0:=fun w=>by
 obtain⟨⟨h,gs,d,k,os⟩,e,e'⟩:=Dn.mp (open_ w);obtain⟨rfl,rfl,rfl,rfl⟩:h=H₀ w.params/\gs=gs₀/\d=d₀/\k=k₀:=by simpa using e'
 obtain⟨z1,z2,z3⟩:_/\_/\_:=by simpa only[La] using size w
 obtain⟨s₁,r,l1,l2,l3⟩:=run w os;have r:=topRun_mono (N-M) _ _ _ _ r;rw[show M+(N-M)=N by have:=Aa le;omega] at r;have t:topFrom Hi p w N ⟨H₀ w.params,gs,d,k,os⟩=some s₁:=by
  unfold topFrom;dsimp only;rw[z1,z2,z3,r];show(match staticsOk (Gr p.main.body) (H₀ w.params) s₁.heap&&namesBound p s₁.heap&&gensDone s₁&&laidKept (H₀ w.params) s₁.heap with|true=>_|false=>_)=_
  rw[l1]
 unfold openEnds;rw[e];show(topFrom Hi p w N _).map _=_;rw[t];exact congrArg some (Os l2 l3)
theorem aLn{tb:String->Option Builtin}{p:Program}{m₀:Nat}{ann:Option Value}{q:Pos}{b:List Stmt}{p':Pos}{k:Nat}{s₀ sa:Ai}{S:SharedT}{β:Type}{f:Ai->β}{x:β}
  (pre:topGo tb p w m₀ ann k s₀ (topStub p)=some (sa,⟨denote tb (.body b env),.body b env,pos,[Jx q]⟩))
  (block:segRun tb p w m₀ ann 1 1 sa (blockOf b env (.body b env) pos [Jx q])=some (.next,S.abs,.body b env,pos))
  (fin:∀s,topRun tb p w m₀ ann 2 s ⟨doneF .next,.body b env,p',[Jx q]⟩=some s)
  (main:(segRunT tb p w m₀ ann 1 n S (piecesOf b env (.body b env) pos [Jx q])).map (fun r=>(r.1,r.2.2,f r.2.1.abs))=some (.next,(.body b env,p'),x)):
  ∃s₁,topRun tb p w m₀ ann (k+(1+(n+2))) s₀ (topStub p)=some s₁/\f s₁=x:=by
 obtain⟨⟨fl,S',c,pp⟩,r1,r2⟩:=Dn.mp main;simp only[La] at r2;obtain⟨rfl,⟨rfl,rfl⟩,l⟩:=r2;have pc:=piece_app (rest:=[]) (segRun_of r1) (piece_nil (fin S'.abs));rw[Et] at pc;exact⟨S'.abs,go_top pre (piece_block block pc),l⟩
noncomputable abbrev PW:Program:=PySem.Challenge.pw_nu0358_01
noncomputable def aCz:List Stmt:=behindTheImports PW
noncomputable def aMu:Env:={scope:=PW.main.scope,locals:=mainNs,globals:=mainNs,cells:=[],code:=.ref 13,frame:=some 14}
noncomputable def aOk:Life:={}
noncomputable def b11:Obj:={cls:=.type "tuple",data:=.seq #[]}
noncomputable def b12:Obj:={cls:=.none,data:=.fields #[]}
noncomputable def b13:Obj:={cls:=.type "code",data:=.fields #[.str "<module>" 182,.str "<module>" 183,.str "/claim/cut.py" 184,.int 1 0,.int 0 0,.int 0 0,.int 0 0,.int 0 0,.ref 11,.bool false,.int 181 0,.ref 12,.none,.none,.none,.none,.int 185 0,.int 1 0,.str "/claim/cut.py" 186]}
noncomputable def b14:Obj:={cls:=.type "frame",data:=.plain,slots:=#[some (.ref 13),some (.ref 3),some (.ref 3),none,some (.str "__main__" 164),none,some (.ref 0)]}
noncomputable def aOm(P:Jz):Heap:=⟨#[boot_o_0 P,boot_o_1 P,boot_o_2 P,boot_o_3 P,boot_o_4 P,boot_o_5 P,boot_o_6 P,boot_o_7 P,boot_o_8 P,boot_o_9 P,boot_o_10 P,b11,b12,b13,b14],aOk⟩
open BT in
noncomputable def aRc(P:Jz):BT:=
 node (boot_o_0 P)
  (node (boot_o_1 P)
   (node (boot_o_3 P) (node (boot_o_7 P) nil nil) (node b11 nil nil))
   (node (boot_o_5 P) (node (boot_o_9 P) nil nil) (node b13 nil nil)))
  (node (boot_o_2 P)
   (node (boot_o_4 P) (node (boot_o_8 P) nil nil) (node b12 nil nil))
   (node (boot_o_6 P) (node (boot_o_10 P) nil nil) (node b14 nil nil)))
noncomputable abbrev sQ:Pos:=⟨0,0,0,0⟩
noncomputable abbrev mB:Code:=.body aCz aMu
noncomputable def ST(w:World)(os:Lj):SharedT:=⟨aRc w.params,15,aOk,#[],⟨0,0,0,0⟩,187,os⟩
theorem aLp(w:World)(os:Lj):topGo Hi PW w 11 (some (.ref 6)) 12 ⟨Kv w.params,#[],boot_drawn,boot_toks,os⟩ (topStub PW)=
  some (⟨aOm w.params,#[],⟨0,0,0,0⟩,187,os⟩,⟨denote Hi mB,mB,sQ,[Jx sQ]⟩):=by kernel_rfl
theorem aFo(w:World)(os:Lj):segRun Hi PW w 11 (some (.ref 6)) 1 1 ⟨aOm w.params,#[],⟨0,0,0,0⟩,187,os⟩ (blockOf aCz aMu mB sQ [Jx sQ])=
  some (.next,(ST w os).abs,mB,sQ):=by kernel_rfl
theorem aGw(w:World):((Kv w.params).isNs mainGlobals&& (#[]:Array Om).size==0,(Kv w.params).objs.size,(Kv w.params).nsMap mainGlobals "__annotations__")=(true,11,some (.ref 6)):=by kernel_rfl
noncomputable def aAg(P:Jz)(s:Ai):Bool:=staticsOk (Gr PW.main.body) (Kv P) s.heap&&namesBound PW s.heap&&gensDone s&&laidKept (Kv P) s.heap
theorem aPx:opening PW=plainProg PW.main.scope.names:=by kernel_rfl
theorem aPw(s:Ai):fenceModules? PW s=some s:=by kernel_rfl
theorem aRq:Im 600 9000=true:=rfl
theorem aIz(w:World):(fencedOpening Hi PW w 9000).map (fun s=>(s.heap,s.gens,s.drawn,s.toks))=some (Kv w.params,Array.mk [],boot_drawn,boot_toks):=by
 have h:=@boot_open PW 9000 aPx aRq aPw w;exact h
theorem aMs(w:World)(s:Ai):topRun Hi PW w 11 (some (.ref 6)) 2 s ⟨doneF .next,mB,⟨512,0,520,33⟩,[Jx sQ]⟩=some s:=by
 obtain⟨heap,gens,drawn,toks,os⟩:=s
 kernel_rfl
theorem aRr:Im (12+(1+(4400+2))) 9000=true:=by kernel_rfl
theorem xQ{q:Program}{loose:List Str}{Xt:Ai->Bool}{α:Type}{Yf:Ai->α}{Ya:World->α}
  (h:∀(w:World) (os:Lj),(segRunT Hi PW w 11 (some (.ref 6)) 1 4400 (ST w os) (piecesOf aCz aMu mB sQ [Jx sQ])).map (fun r=>(r.1,r.2.2,(fun s=>(aAg w.params s,openSeen q loose (Gr PW.main.body) Xt true s,Yf s)) r.2.1.abs))=
   some (.next,(mB,⟨512,0,520,33⟩),(true,openGood q loose,Ya w))):LeftO PW q loose Xt Yf Ya 9000:=by
 refine aHp aIz aGw (fun w os=>?_) aRr;obtain⟨s₁,r,l⟩:=aLn (f:=fun s=>(aAg w.params s,openSeen q loose (Gr PW.main.body) Xt true s,Yf s)) (aLp w os) (aFo w os) (aMs w) (h w os);obtain⟨l1,l2⟩:=Prod.mk.inj l;obtain⟨l2,l3⟩:=Prod.mk.inj l2;exact⟨s₁,r,l1,l2,l3⟩
theorem aLi:@segRunT Hi=PySem.W.Fast.tw10110043849684766642 PySem.W.Fast.tw14364793385576792824:=by
 rw[PySem.W.Fast.te10110043849684766642,PySem.W.Fast.te14364793385576792824]
noncomputable def tg(s:SharedT)(a:Addr):Option Obj:=cond (Im (a+1) s.n) ((s.tree.get a).elim (s.abs.heap.get? a) alive) none
theorem aRd(s:SharedT)(a:Addr):s.abs.heap.get? a=tg s a:=by
 unfold tg
 cases h:Im (a+1) s.n with
 |false=>exact abs_get_none fun q=>by rw[Nat.ble_eq_true_of_le q] at h;cases h
 |true=>
  cases g:s.tree.get a with
  |none=>rfl
  |some o=>exact abs_get (Aa h) g
theorem tg_map(as ts:List Addr)(s:SharedT):(as.map s.abs.heap.get?,ts.map s.abs.heap.get?)=(as.map (tg s),ts.map (tg s)):=by
 rw[show s.abs.heap.get? = tg s from funext (aRd s)]
theorem left_of_run'{q:Program}{loose:List Str}{Xt:Ai->Bool}{α:Type}{Yf:Ai->α}{Ya:World->α}{Yt:SharedT->α}(e:∀s,Yf s.abs=Yt s)
  (h:∀(w:World) (os:Lj),(PySem.W.Fast.tw10110043849684766642 PySem.W.Fast.tw14364793385576792824 PW w 11 (some (.ref 6)) 1 4400 (ST w os) (piecesOf aCz aMu mB sQ [Jx sQ])).map (fun r=>(r.1,r.2.2,(aAg w.params r.2.1.abs,openSeen q loose (Gr PW.main.body) Xt true r.2.1.abs,Yt r.2.1)))=
   some (.next,(mB,⟨512,0,520,33⟩),(true,openGood q loose,Ya w))):LeftO PW q loose Xt Yf Ya 9000:=by
 obtain rfl:(fun s:SharedT=>Yf s.abs)=Yt:=funext e;exact xQ (fun w os=>by rw[aLi];exact h w os)
noncomputable def aWk:Stmt:=match PW.main.body[56]? with|some s=>s|none=>.Pass ⟨0,0,0,0⟩
noncomputable def q0:Program:={PW with main:={PW.main with body:=[aWk]}}
noncomputable def iJ:List Str:=PW.boundNames.filter (fun n=>!(n==("law":Str)))
noncomputable def vC:List String:=["bytearray.__contains__","bytearray.__mod__","bytearray.__rmod__","_struct.pack_into.held","bytearray.find.held"]++Hj
noncomputable def kC(c:Code):Bool:=match c with
 | .builtin id _=>!vC.contains id
 |_=>true
noncomputable def aWp(Γ:Ctx):Prop:=kC Γ.code=true/\∀x∈Γ.below,kC x.1=true
noncomputable def wpN{α:Type}(M:Model)(A:Ez)(t:Sem α)(Q:α->Ai->Prop)(E:Value->Ai->Prop)(s:Ai):Prop:=
 ∀Γ p,Γ.In A->aWp Γ->Mu M Γ t (fun a _ s'=>Q a s') (fun e _ s'=>E e s') p s
noncomputable def iC(f:Value)(vs:List Value):Sem Value:=Sem.stack fun st=>if st.all (fun x=>kC x.1) then Je f vs else Sem.pure (.bool true)
noncomputable abbrev ΓC:Ctx:=⟨.builtin "claim.caller" {},none,none,[],none⟩
theorem pP{M:Model}(h:wpN M A (Je f vs) Q E s)(h':Q (.bool true) s):
  wpAny M A (iC f vs) Q E s:=fun Γ p hΓ=>by
 unfold iC;rw[Oj];by_cases c:(((Γ.code,p)::Γ.below).all fun x=>kC x.1)=true
 ·rw[if_pos c];refine h Γ p hΓ ⟨?_,fun x hx=>?_⟩
  ·exact Ha.mp c _ (List.mem_cons_self ..)
  ·exact Ha.mp c _ (List.mem_cons_of_mem _ hx)
 ·rw[if_neg c];exact h'
theorem rI{M:Model}(h:wpAny M callerA (iC f vs) Q E s):
  Mu M ΓC (Je f vs) (fun v _ s'=>Q v s') (fun e _ s'=>E e s') Ln s:=by
 have z:=h ΓC Ln caller_in;unfold iC at z;rw[Oj,if_pos (by decide +kernel)] at z;exact z
noncomputable def aCe(name:Str)(vs:List Value):Sem Fin:=do match<-nsGet mainNs name with
 |some f=>do ret (<-Je f vs)
 |none=>unsupported "claim.caller:no-such-global"
theorem pU{M:Model}{name:Str}{Q:Fin->Pos->Ai->Prop}{E:Value->Pos->Ai->Prop}(hg:s.heap.Ns mainGlobals mg)(hf:mg name=some f)
  (h:Mu M ΓC (Je f vs) (fun v p s'=>Q (.done (.ret v)) p s') E Ln s):Mu M ΓC (aCe name vs) Q E Ln s:=by
 unfold aCe;rw[Me];refine(Sem.wp_nsGet M ΓC _ Ln s hg name _).mpr ?_;rw[hf];show Mu M ΓC (Je f vs >>= fun v=>ret v) Q E Ln s;rw[Me];exact h
theorem yF{r:RowW}{name:Str}{free:Addr->Prop}{gens:Prop}{kept:Heap->Prop}(hz:s.asleep)(hgens:s.gens = #[])
  (spec:∀args,r.claim.pre args=true->WData.layableAll args=true->∀ord:List Kx->List Kx,(∀l,(ord l).Perm l)->
   ∃vs s₁,layAllW r.claim.records (classAt s.heap) w.params ord args s=some (vs,s₁)/\
    Mu (model r.prog w) ΓC (aCe name vs) (fun fin _ s'=>∃f,fin = .done f/\((r.claim.Ends s args vs s₁ (.ok f) s'/\s'.os=s.os/\kept s'.heap)/\leftWithCleanup s'.gens=false))
     (fun e _ s'=>(r.claim.Ends s args vs s₁ (.error e) s'/\s'.os=s.os/\kept s'.heap)/\leftWithCleanup s'.gens=false) Ln s₁):
  r.claim.CallFrom (fun vs=>⟨aCe name vs,.builtin "claim.caller" {},Ln,[]⟩) w free gens kept s:=by
 intro args hpre hlay ord hord;refine Al fun no=>?_;obtain⟨vs,s₁,laid,run⟩:=spec args hpre hlay ord hord;have rest:=layAllW_rest _ _ _ laid;obtain⟨n,res,s',s'',sched,ran,fo,ends,os,kp⟩:=wp_halts_full (M:=model r.prog w) (R:=fun r' s'=>r.claim.Ends s args vs s₁ r' s'/\s'.os=s.os/\kept s'.heap) (Ai.asleep_of_life rest.2.2.2 hz)
  (Jr (model r.prog w) ΓC _ (fun fin p' s' ⟨f,e,x⟩=>by subst e;exact x) (fun _ _ _ x=>x) Ln s₁ run)
 obtain⟨eh,_,_,eo,_⟩:=Ai.forget_eq fo;have ends:=ends.congr eh;rw[<-eh] at kp;rw[<-eo] at os;have life:s''.heap.life=s.heap.life:=(runN_life _ _ _ ran).trans rest.2.2.2;refine no ⟨vs,s₁,laid,n,_,s'',sched,?_,(fun _ i x hx=>by rw[hgens] at hx;simp at hx),kp,by rw[life],Ai.rest_eq os⟩;rcases ends with⟨v,rfl,d1,d2,d3,d4,d5⟩| ⟨e,ob,cls,rfl,d1,d2,d3,d4,d5⟩
 ·exact .inl ⟨v,rfl,d1,d2,d3,fun b o y _=>d4 b o y,d5⟩
 ·exact .inr ⟨e,ob,cls,rfl,d1,d2,d3,d4,fun b o y _=>d5 b o y⟩
theorem aAp{r:OpenRow}{q:Program}{loose:List Str}{Xt:Ai->Bool}{XP:(Str->Option Value)->Heap->Prop}{α:Type}{Yf:Ai->α}{Ya:World->α}{YP:World->Heap->Prop}{d:DefRec}{kwd:List (Str×Expr)}{N:Nat}
  (left:LeftO r.prog q loose Xt Yf Ya N)(yes:∀w s,Yf s=Ya w->YP w s.heap)(yesK:∀w h h',YP w h->(∀b o,h.get? b=some o->h'.get? b=some o)->YP w h')
  (xs:∀s,Xt s=true->XP (s.heap.nsMap mainGlobals) s.heap)(xsK:∀mg h h',XP mg h->(∀b o,h.get? b=some o->h'.get? b=some o)->XP mg h')
  (def_:defOf q r.name=some (d,kwd))(theDef:r.prog.theDef r.name=some (d.params,d.body,d.scope))(kws:kwWritten? d.params.kwonlyargs d.params.kw_defaults=some kwd)(recs:∀s,Xt s=true->RecFacts r.records s.heap)(noWrite:(!r.writes || r.records.isEmpty)=true)
  (well:r.wellSaid=true)(ok:(chainsOk q&&opensWell r.prog&& (frees r.toRowW&&r.within.isEmpty))=true)(bare:r.prog.bare)(prom:r.toRowW.promised)
  (call:WalkO q loose XP YP r.toRowW d kwd iC):r.Holds:=by
 refine Al fun no=>?_;obtain⟨ok,okF⟩:=Bb.mp ok;obtain⟨okC,okO⟩:=Bb.mp ok;obtain⟨okF,okW⟩:=Bb.mp okF;obtain⟨same,un,af,_,mk⟩:=frees_parts okF;have noMakers:r.toRowW.claim.makers=[]:=by show r.makers.map _=[];rw[mk];rfl
 refine no ⟨well,prom,⟨⟨bare,okO,noMakers⟩,prom.witness,fun w=>⟨(left.behind xs okC w).1,fun s' hs'=>?_⟩⟩⟩;refine Al fun no=>?_;obtain⟨s₀,fence,noGens,s,ran,asleep,gens,_,G,y⟩:=(left.behind (XP:=fun mg h=>XP mg h/\RecFacts r.records h) (fun s hs=>⟨xs s hs,recs s hs⟩) okC w).2 s' hs';have G0:Ground q loose [] XP w s (s.heap.nsMap mainGlobals) (s.heap.nsMap builtinsNs) s.heap:=⟨G.T,G.B,G.D,G.TE,G.TD,G.W,G.X.1,G.cls,G.has,G.apart,G.once,G.K⟩;have RF:=G.X.2;have isNs:s.heap.isNs mainGlobals=true:=by assumption
 refine no ⟨s₀,fence,noGens,s,ran,fun n hn=>?_,RF.1,RF.2.1,?_⟩
 ·obtain rfl:n=r.name:=by split at hn <;> simp_all
  exact pinned_of_view isNs G0 def_ theDef kws
 have gens:s.gens = #[]:=Array.eq_empty_of_size_eq_zero (beq_iff_eq.mp gens);have GR:Ground q loose r.records XP w s _ _ s.heap:=RF.ground G0;refine yF (r:=r.toRowW) (name:=r.name) asleep gens fun args hpre hlay ord hord=>?_;obtain⟨⟨vs,s₁⟩,laid⟩:=Cv.mp (layAllW_isSome (P:=w.params) (ord:=ord) GR.has args r.args s (pre_splitW hpre).1);have keeps:=layAllW_keeps _ _ _ laid;have rest:=layAllW_rest _ _ _ laid;obtain⟨as,rd,inn,old⟩:=reads_layAllW hord _ _ _ laid hlay s₁.heap (fun _ _ e=>e);have L:Laid r.records w s s₁ args vs as:=⟨⟨ord,hord,laid⟩,rd,inn,old,keeps,rest.1.trans gens,rest.2.2.1⟩;have G₁:=GR.keeps xsK keeps;obtain⟨a,o,pm,cd,doc,dV,kV,h1,h2,h3,h4,h5⟩:=G₁.fn def_;have z:=call w s s₁ _ _ G₁ (yesK _ _ _ (yes w s y) keeps) a o pm cd doc dV kV h2 h3 h4 h5 (defOf_name def_▸h1) L.gens args vs as hpre hlay L.reads L.well (L.low GR.low);have hi:=ident_freeW un af (by assumption);have hwi:r.toRowW.claim.within=[]:=List.isEmpty_iff.mp okW;refine⟨vs,s₁,laid,pU G₁.T.g h1 (Jr _ _ _ (fun v p s' g=>?_) (fun e p s' g=>?_) _ _ (rI z))⟩
 ·have e:=g.laid (c:=r.toRowW.claim) same hwi hi L;exact⟨_,rfl,⟨e.1,e.2.1,fun q=>⟨namesKept_of ran isNs r.keeps keeps g.2.1.old,noTable noWrite q⟩⟩,leftWithCleanup_false_of_bare e.2.2⟩
 ·have e:=g.laid (c:=r.toRowW.claim) same hwi hi L;exact⟨⟨e.1,e.2.1,fun q=>⟨namesKept_of ran isNs r.keeps keeps g.2.1.old,noTable noWrite q⟩⟩,leftWithCleanup_false_of_bare e.2.2⟩
theorem said:PySem.Challenge.rw_nu0358_01.wellSaid=true:=by
 have h:looksOpen PySem.Challenge.rw_nu0358_01.row.prog=true:=look_both (look_both (by decide +kernel) (by decide +kernel)) (by decide +kernel)
 delta OpenLaw.wellSaid OpenRow.wellSaid OpenRow.partSaid
 rw[h]
 kernel_rfl
theorem xsE(s:Ai)(e:(xlAt q0 [] s&&recOk (Mb (PySem.Challenge.rw_nu0358_01).row.toRowW) s)=true):XL q0 [] (s.heap.nsMap mainGlobals) s.heap:=xl_of s (Bb.mp e).1
theorem aRe(s:Ai)(e:(xlAt q0 [] s&&recOk (Mb (PySem.Challenge.rw_nu0358_01).row.toRowW) s)=true):RecFacts (Mb (PySem.Challenge.rw_nu0358_01).row.toRowW) s.heap:=recFacts_of (Bb.mp e).2
theorem okE:(chainsOk q0&&opensWell (PySem.Challenge.rw_nu0358_01).row.prog&& (frees (PySem.Challenge.rw_nu0358_01).row.toRowW&& (PySem.Challenge.rw_nu0358_01).row.within.isEmpty))=true:=by decide +kernel
theorem aRs:(PySem.Challenge.rw_nu0358_01).row.prog.bare:=⟨rfl,rfl,rfl,rfl,rfl,by decide +kernel⟩
theorem headE(H:Hook){d:DefRec}{kwd:List (Str×Expr)}(def_:defOf q0 (PySem.Challenge.rw_nu0358_01).row.name=some (d,kwd))(theDef:(PySem.Challenge.rw_nu0358_01).row.prog.theDef (PySem.Challenge.rw_nu0358_01).row.name=some (d.params,d.body,d.scope))(kws:kwWritten? d.params.kwonlyargs d.params.kw_defaults=some kwd)(well:(PySem.Challenge.rw_nu0358_01).row.wellSaid=true)
  (left:LeftO (PySem.Challenge.rw_nu0358_01).row.prog q0 iJ (fun s=>xlAt q0 [] s&&recOk (Mb (PySem.Challenge.rw_nu0358_01).row.toRowW) s) H.obs H.val 9000)(prom:(PySem.Challenge.rw_nu0358_01).row.toRowW.promised)
  (call:WalkO q0 iJ (XL q0 []) H.says (PySem.Challenge.rw_nu0358_01).row.toRowW d kwd iC):(PySem.Challenge.rw_nu0358_01).row.Holds:=
 aAp left H.of H.keeps xsE XL.keeps def_ theDef kws aRe (by rfl) well okE aRs prom call
set_option hygiene false
local macro_rules | `(tactic| o_law) => `(tactic| refine holds_law said fun a => ?_)
local macro_rules | `(tactic| o_head $H) => `(tactic| refine headE $H rfl rfl rfl a (left_of_run' (tg_map _ _) fun w os => by kernel_rfl) ?hw ?hc)
set_option maxHeartbeats 0 in
open_top hd for PySem.Challenge.rw_nu0358_01
end
noncomputable abbrev Led:=List (Addr×Obj)
noncomputable def ND(l:Led):Prop:=(l.map (·.1)).Nodup/\∀p∈l,1<p.1
theorem ND.same{l l':Led}(D:ND l)(e:l'.map (·.1)=l.map (·.1)):ND l':=⟨e▸D.1,fun p hp=>by
 have:p.1∈l.map (·.1):=e▸Fs hp;obtain⟨q,hq,e'⟩:=Aq.mp this;exact e'▸D.2 q hq⟩
structure Own(g h:Heap)(l:Led):Prop where
 keep:∀b o,g.get? b=some o->h.get? b=some o
 size:g.objs.size<=h.objs.size
 led:∀p∈l,h.get? p.1=some p.2/\g.get? p.1=none
 nd:ND l
structure Cx(w:World)(A:Ez)(base:Heap)(outer:List Env)(g:Heap)(mg mb:Str->Option Value)(n:Nat):Prop where
 B:Below A base outer g
 X:(Mine.hd.heap_1 w.params).In g
 T:Nf q0 iJ mg mb g
 hd:A.depth+n<Ij
 hu:A.units+8*n<cLine
 hh:A.handled=none
noncomputable def Spec(w:World)(n:Nat)(f:Value)(vs:List Value)(l:Led)(post:Value->Led->Prop):Prop:=
 ∀(A:Ez) (base:Heap) (outer:List Env) (g:Heap) (mg mb:Str->Option Value) (s:Ai) (R:Jy->Ai->Prop),
  Cx w A base outer g mg mb n->Own g s.heap l->
  (∀v h' tk' l',post v l'->Own g h' l'->R (.ok (.ret v)) {s with heap:=h',toks:=tk'})->
  Kh (model PW w) A (.call f ⟨vs,[]⟩) R s
theorem enter{l:Led}
  {name:Str}{an od:Option Addr}{osl:Array (Option Value)}{f:Addr}{args:Args}{binds:List (Str×Value)}
  (C:Cx w A base outer g mg mb (n+1))(O:Own g s.heap l)
  (ho:(Mine.hd.heap_1 w.params).lookup f=some ⟨oc,od,.func (fnOf name qual params body scope dV kV doc pm an cdv ct),osl⟩)(hcd:Ms (Mine.hd.heap_1 w.params) cdv qual=true)
  (hbind:Ll s (fnOf name qual params body scope dV kV doc pm an cdv ct) args binds)(hloc:∀y∈binds,scope.names.lookup y.1=some .local)
  (h:∀L' h₁,Below A base outer g->(Mine.hd.heap_1 w.params).In g->Nf q0 iJ mg mb g->A.depth+1+n<Ij->A.units+3+8*n+5<cLine->A.handled=none->ND l->Fr g L' h₁ (fun y=>binds.reverse.lookup y)->News g L' h₁ l->
   wpAny (model PW w) (A.deeper (envOf qual scope L' f cdv)) (execs body (envOf qual scope L' f cdv))
    (fun fl s'=>R (.ok (.ret (match fl with| .ret v=>v|_=>.none))) s')
    (fun e s'=>wpAny (model PW w) (A.deeper (envOf qual scope L' f cdv)) (Lz (envOf qual scope L' f cdv) e) (fun _ s''=>R (.error e) s'') (fun e' s''=>R (.error e') s'') s')
    {s with heap:=h₁,toks:=s.toks+binds.length})
  (hco:scope.isCoroutine=false:=by rfl)(hgen:scope.isGenerator=false:=by rfl)(hk:scope.kind = .function:=by rfl)
  (hcell:∀x∈scope.names,x.2≠.cell:=by decide):Kh (model PW w) A (.call (.ref f) args) R s:=by
 refine codeAny_call_def (fd:=fnOf name qual params body scope dV kV doc pm an cdv ct) (body:=body) (binds:=binds) (by have:=C.hd;omega) ((C.X.keeps O.keep) _ _ ho) rfl (C.T.nolimit.keeps O.keep) (codeRec_of (C.X.keeps O.keep) hcd) rfl hbind hcell hloc (fun h₁ hns hk₁=>?_) hco hgen hk;refine h s.heap.objs.size h₁ C.B C.X C.T (by have:=C.hd;exact z1 this) (by have:=C.hu;exact z2 this) C.hh O.nd ⟨hns,fun b o e=>hk₁ b o (O.keep b o e),O.size⟩ (fun p hp=>⟨hk₁ _ _ (O.led p hp).1,Bn (Aw (O.led p hp).1),(O.led p hp).2⟩)
noncomputable def kZ(_l:OpenLaw)(_K:Jz->Frag)(P:Prop):Prop:=P
theorem aWr:kZ PySem.Challenge.rw_nu0358_01 Mine.hd.heap_1 True:=by
 k_fill
 exact trivial
inductive Kd where
 |hash|array|rows
 deriving DecidableEq
noncomputable def Kd.str:Kd->Str
 | .hash=>"hash" | .array=>"array" | .rows=>"rows"
section
variable{led:Led}
section
variable{K:Type}[DecidableEq K]{knd:KeyKind PW w K}{kvs:List (K×Value)}{k:K}{key:Value}{d:Addr}{o:Obj}
end
end
section
variable{led:Led}
theorem nW{es:List Kx}{kvs:List (Str×Value)}(h:Pairs (Br PW w) es kvs):es.any (·.refKey)=false:=by
 induction h with
 |nil=>rfl
 | @cons e kv es kvs h1 h2 _ ih=>
  rw[Lq,ih,Nt];obtain⟨t,ht⟩:=Value.isStrOf_shape h1;unfold Kx.refKey;rw[ht]
set_option tactic.hygienic true in
theorem aCo{o:Obj}{kvs:List (Str×Value)}(hd:o.IsDictOf (Br PW w) kvs)(x:Str):lookIn x o=some (Mz kvs x):=by
 refine bc fun nq=>?_;obtain⟨es,ep,hc,hdat,_,hp,_⟩:=hd;have hf:=hp.find x;have hr:=nW hp;refine nq ?_;unfold lookIn;rw[hdat];dsimp only;have he:(fun e:Kx=>(Br PW w).is x e.key)=fun e=>e.key.isStr x:=funext fun e=>(Br PW w).strs x x 0 e.key (Lc PW w x 0);rw[he] at hf
 split
 ·rename_i en q;rw[q] at hf;rw[<-hf];rfl
 ·rename_i q;rw[q] at hf;rw[hr];rw[<-hf];rfl
structure MapCls(w:World)(C:Addr):Prop where
 hh:hasDictIn (Mine.hd.heap_1 w.params) C=true
 pg:∀n,Og (Mine.hd.heap_1 w.params) C n=true
section
variable{K:Type}[DecidableEq K]{knd:KeyKind PW w K}{kvs:List (K×Value)}{k:K}{key:Value}{d:Addr}{o:Obj}{gl:Obj->Led}
end
end
theorem aPo:kZ PySem.Challenge.rw_nu0358_01 Mine.hd.heap_1 True:=by
 k_fill
 exact trivial
theorem aIv(k:List UInt8)(t:Tok):(Hn prog w).is k (.bytes k.toArray t)=true:=by simp[Hn,PySem.W.isBytes]
structure Tk where
 (a b c d e:Tok)
structure Mp where
 kd:Kd
 (num kw vw most:Int)
noncomputable def codeN(M:Model)(A:Ez)(c:Code)(R:Jy->Ai->Prop)(s:Ai):Prop:=
 ∀Γ p,Γ.code=c->Γ.Below A->(∀x∈Γ.below,kC x.1=true)->wpCode M Γ R p s
section
variable{α β:Type}{M:Model}
theorem wpN.of{t:Sem α}{Q:α->Ai->Prop}(h:wpAny M A t Q E s):wpN M A t Q E s:=fun Γ p hΓ _=>h Γ p hΓ
theorem codeN.of{c:Code}(h:Kh M A c R s):codeN M A c R s:=fun Γ p hc hΓ _=>h Γ p hc hΓ
theorem aH{a:α}{Q:α->Ai->Prop}(h:Q a s):wpN M A (pure a) Q E s:=fun _ _ _ _=>h
theorem bX{t:Sem α}{Q Q':α->Ai->Prop}{E':Value->Ai->Prop}(h:wpN M A t Q E s)
  (hQ:∀a s,Q a s->Q' a s)(hE:∀e s,E e s->E' e s):wpN M A t Q' E' s:=
 fun Γ p hΓ c=>Jr M Γ t (fun a _ s=>hQ a s) (fun e _ s=>hE e s) p s (h Γ p hΓ c)
theorem aE{m:Sem α}{f:α->Sem β}{Q:β->Ai->Prop}(h:wpN M A m (fun a s'=>wpN M A (f a) Q E s') E s):
  wpN M A (m >>= f) Q E s:=fun Γ p hΓ c=>by
 rw[Me];exact Jr M Γ m (fun a p' s' h'=>h' Γ p' hΓ c) (fun _ _ _ h'=>h') p s (h Γ p hΓ c)
theorem aK{m:Sem α}{f:α->Sem β}{Q:β->Ai->Prop}(h:wpAny M A m (fun a s'=>wpN M A (f a) Q E s') E s):
  wpN M A (m >>= f) Q E s:=aE (wpN.of h)
theorem aG{k:Unit->Sem β}{Q:β->Ai->Prop}(h:wpN M A (k ()) Q E s):wpN M A (Fb pos >>= k) Q E s:=aK (Hs h)
theorem aW{a:α}{k:α->Sem β}{Q:β->Ai->Prop}(h:wpN M A (k a) Q E s):wpN M A (pure a >>= k) Q E s:=aK (Ak h)
theorem bV{m:Sem α}{k:α->Sem β}{Q:β->Ai->Prop}(h:wpAny M A m (fun a s'=>wpN M A (k a) Q E s') E s):wpN M A (Dc vs m >>= k) Q E s:=aK (Dv h)
theorem bH{m:Sem α}{k:Value->Sem Unit}{Q:α->Ai->Prop}
  (h:wpN M A m Q (fun e s'=>wpAny M A (k e) (fun _ s''=>E e s'') E s') s):wpN M A (m.onRaise k) Q E s:=fun Γ p hΓ c=>by
 rw[Sem.wp_onRaise];exact Jr M Γ m (fun _ _ _ h'=>h') (fun e p' s' h'=>h' Γ p' hΓ) p s (h Γ p hΓ c)
theorem aF{m:Sem α}{Q:α->Ai->Prop}(h:wpN M A m Q E s):wpN M A (Dc vs m) Q E s:=
 fun Γ p hΓ c=>by rw[Sem.wp_holding];exact h Γ p hΓ c
theorem dU{m:Sem Value}(h:wpN M A m Q E s):wpN M A (Jn vs m) Q E s:=fun Γ p hΓ c=>by
 rw[Sem.wp_operate];exact h Γ p hΓ c
theorem kW{c:Code}{R':Jy->Ai->Prop}(h:codeN M A c R s)(hR:∀r s,R r s->R' r s):codeN M A c R' s:=
 fun Γ p hc hΓ q=>wpCode_mono hR (h Γ p hc hΓ q)
theorem aT{c:Code}(hc:kC c=true)
  (h:wpN M (A.under c) (M.den c) (fun fin s'=>match fin with| .done f=>R (.ok f) s'| .again c'=>c'.quiet=true/\codeN M A c' R s')
   (fun e s'=>R (.error e) s') s):codeN M A c R s:=fun Γ p e hΓ q=>by
 rw[wpCode_iff_wp,e];refine Jr M Γ _ (fun fin p' s' h'=>?_) (fun _ _ _ h'=>h') p s (h Γ p (e▸hΓ.in) ⟨e▸hc,q⟩)
 cases fin with
 |done f=>exact h'
 |again c'=>exact⟨h'.1,h'.2 (Γ.goto c') p' rfl (hΓ.goto c') q⟩
theorem uK{c:Code}{Q:Flow->Ai->Prop}(hc:codeN M A c (fun r s'=>match r with| .ok f=>Q f s'| .error e=>E e s') s):wpN M A (run c none) Q E s:=
 fun Γ p hΓ q=>by
  rw[Sem.wp_run];refine hc _ p rfl (hΓ.enter c none p (by intro x;cases x)) fun x hx=>?_;rcases An.mp hx with rfl|hx
  ·exact q.1
  ·exact q.2 x hx
theorem uJ{c:Code}
  (hc:codeN M A c (fun r s'=>match r with| .ok (.ret v)=>Q v s'| .ok _=>False| .error e=>E e s') s):wpN M A (runValue c) Q E s:=fun Γ p hΓ q=>by
 rw[Sem.wp_runValue];refine wpCode_mono (fun r s' h=>?_) (hc (Γ.enter c none p) p rfl (hΓ.enter c none p (by intro x;cases x)) fun x hx=>?_)
 ·exact h
 ·rcases An.mp hx with rfl|hx
  ·exact q.1
  ·exact q.2 x hx
theorem cJ{f:Value}
  (hc:codeN M A (.call f ⟨vs,[]⟩) (fun r s'=>match r with| .ok (.ret v)=>Q v s'| .ok _=>False| .error e=>E e s') s):wpN M A (call f vs []) Q E s:=uJ hc
end
theorem rG
  (h:wpN (model prog w) (A.deeper env) (execs body env) (fun f s'=>R (.ok (.ret (match f with| .ret v=>v|_=>.none))) s')
   (fun e s'=>wpAny (model prog w) (A.deeper env) (Lz env e) (fun _ s''=>R (.error e) s'') (fun e' s''=>R (.error e') s'') s') s):
  codeN (model prog w) A (.func body env) R s:=by
 refine aT rfl ?_;show wpN _ (A.deeper env) (do point;match<-(execs body env).onRaise (Lz env) with| .ret v=>ret v|_=>ret .none) _ _ s
 refine aK (wpAny_point (aE (bH (bX h (fun f s' h'=>?_) fun _ _ h'=>h'))))
 cases f <;> exact aH h'
theorem kA{a:Addr}{args:Args}{o:Obj}{fd:FuncData}(room:A.depth<Ij)(ho:s.heap.get? a=some o)(hd:o.data = .func fd)
  (hco:fd.scope.isCoroutine=false)(hgen:fd.scope.isGenerator=false)(hbody:fd.body = .stmts body)(hcd:s.heap.CodeRec fd.code fd.qualname)
  (h:wpAny (model prog w) A.in1 (Oc fd args) (fun binds s₁=>
   wpAny (model prog w) A.in1 (newFunctionEnv fd.scope fd.globals fd.closure binds (fd.qualname++ ".<locals>.") (some a) fd.code none fd.builtins)
    (fun env s₂=>s₂.heap.NoLimit/\codeN (model prog w) A (.func body env) R s₂) (fun e s'=>R (.error e) s') s₁) (fun e s'=>R (.error e) s') s):
  codeN (model prog w) A (.call (.ref a) args) R s:=by
 refine bc fun nq=>?_;obtain⟨c,oc,vs,tq,hc,hoc,hdc,hq⟩:=hcd;refine nq ?_;refine aT rfl (wpN.of ?_);show wpAny _ A.in1 (callAny (.ref a) args) _ _ s;refine Ab (Iu ho ?_);simp only[hd,callFunction,hco,hgen,hbody,hc];rw[hc] at h;refine Ab (m:=field (.ref c) 1) (Gh hoc hdc hq (Ab (Ak ?_)));refine Ab (Ey h (fun binds s₁ h₁=>?_) fun _ _ x=>x);refine Ab (Ey h₁ (fun env s₂ h₂=>?_) fun _ _ x=>x);exact Ab (wpAny_enterFrame h₂.1 room (Ak ⟨rfl,h₂.2⟩))
section
variable{l:Led}
  {name:Str}{an od:Option Addr}{osl:Array (Option Value)}{f:Addr}{args:Args}{binds:List (Str×Value)}
end
noncomputable def aRv(w:World)(n:Nat)(f:Value)(vs:List Value)(l:Led)(post:Value->Led->Prop):Prop:=
 ∀(A:Ez) (base:Heap) (outer:List Env) (g:Heap) (mg mb:Str->Option Value) (s:Ai) (R:Jy->Ai->Prop),
  Cx w A base outer g mg mb n->Own g s.heap l->
  (∀v h' tk' l',post v l'->Own g h' l'->R (.ok (.ret v)) {s with heap:=h',toks:=tk'})->
  codeN (model PW w) A (.call f ⟨vs,[]⟩) R s
theorem Spec.calm{f:Value}{l:Led}{post:Value->Led->Prop}(S:Spec w n f vs l post):aRv w n f vs l post:=
 fun A base outer g mg mb s R C O h=>codeN.of (S A base outer g mg mb s R C O h)
section
variable{M:Model}
theorem cI{rest:List Stmt}{Q:Flow->Ai->Prop}
  (h:wpN M A (exec st env) (fun f s'=>match f with| .next=>wpN M A (execs rest env) Q E s'|f=>Q f s') E s):wpN M A (execs (st::rest) env) Q E s:=by
 refine aE (bX h (fun f s' h'=>?_) fun _ _ e=>e)
 cases f <;> first|exact h'|exact aH h'
theorem gP{Q:Flow->Ai->Prop}(h:Q .next s):wpN M A (execs [] env) Q E s:=fun _ _ _ _=>h
theorem pN{Q:Flow->Ai->Prop}(hi:Nr env=false)(hs:Gb e none pos.line env=pure false)
  (h:wpN M A (eval e env) (fun v s'=>wpAny M A (dropValue e pos v) Q E s') E s):wpN M A (exec (.Expr e pos) env) Q E s:=by
 rw[exec_Expr env e pos hi hs];exact aK (Hs (aE (bX h (fun v s' h'=>wpN.of h') fun _ _ e=>e)))
theorem zP{Q:Flow->Ai->Prop}(h:wpN M A (eval e env) (fun v s'=>Q (.ret v) s') E s):wpN M A (exec (.Return (some e) pos) env) Q E s:=by
 rw[exec_Return_some];exact aK (Hs (aE (bX h (fun v s' h'=>aH h') fun _ _ e=>e)))
theorem pO{value:Aj}{Q:Flow->Ai->Prop}(hs:Gb value (some (.Name x pos')) pos.line env=pure false)
  (h:wpN M A (eval value env) (fun v s'=>wpAny M A (Kt env x v) (fun _ s''=>Q .next s'') E s') E s):wpN M A (exec (.Assign [.Name x pos'] value pos) env) Q E s:=by
 rw[exec_Assign_Name env x pos' value pos hs];exact aK (Hs (aE (bX h (fun v s' h'=>aK (Hs (aK (Ey h' (fun _ _ q=>aH q) fun _ _ e=>e)))) fun _ _ e=>e)))
end
theorem codeN_builtin{id:String}{args:Args}{b:Builtin}(hc:kC (.builtin id args)=true)(hb:Ju table id=some b)
  (h:wpN (model prog w) (A.under (.builtin id args)) (b args) (fun fin s'=>match fin with| .done f=>R (.ok f) s'| .again c'=>c'.quiet=true/\codeN (model prog w) A c' R s') (fun e s'=>R (.error e) s') s):
  codeN (model prog w) A (.builtin id args) R s:=by
 refine aT hc ?_;show wpN _ _ (match Ju table id with|some b=>b args|none=>unsupported ((withoutEnding? id "#data").getD id)) _ _ s
 rw[hb];exact h
theorem bY{id:String}{args:Args}{b:Builtin}(hc:kC (.builtin id args)=true)(hq:(Code.builtin id args).quiet=true)(hb:Ju table id=some b)
  (h:wpAny (model prog w) A.in1 (Gc id args) (fun _ s₁=>wpN (model prog w) (A.under (.builtin id args)) (b args)
   (fun fin s'=>match fin with| .done f=>R (.ok f) s'| .again c'=>c'.quiet=true/\codeN (model prog w) A c' R s') (fun e s'=>R (.error e) s') s₁)
   (fun e s'=>R (.error e) s') s):codeN (model prog w) A (.call (.builtin id) args) R s:=by
 refine aT rfl (wpN.of ?_);show wpAny _ A.in1 (do Gc id args;again (.builtin id args)) _ _ s
 exact Ab (Ey h (fun _ s₁ h₁=>Ak (And.intro hq (codeN_builtin hc hb h₁))) fun _ _ h'=>h')
section
variable{M:Model}
theorem fH{self:Value}{name:Str}{args:List Value}{g:Value}{first:List Value}{Q:Option Value->Ai->Prop}(h1:Looks M s.heap (Jp self name) (some f))(h2:Looks M s.heap (bindSpecial f self) (g,first))
  (h:wpN M A (call g (first++args)) (fun v s'=>Q (some v) s') E s):wpN M A (callSpecial? self name args []) Q E s:=by
 unfold callSpecial?;refine aK (h1.here ?_);refine aF (aK (h2.here ?_));exact aE (bX h (fun v s' h'=>aH h') fun _ _ e=>e)
end
section
variable{K:Frag}{g:Array Om}{d:Drawn}{t:Nat}{os:Lj}
theorem qK{rest:List Value}(Y:Makes (model prog w) h C)(hi:Looks (model prog w) h (Dz (.ref C) "__init__") (some (.ref fI)))
  (hb:∀self,Looks (model prog w) h (bindSpecial (.ref fI) self) (.ref fI,[self]))
  (hq:codeN (model prog w) (A.under (.builtin "type.__call__" ⟨.ref C::rest,[]⟩)) (.call (.ref fI) ⟨.ref (h.objs.size+1)::rest,[]⟩) (InitBack (h.objs.size+1) R) ⟨(h.push emptyDict).push (Ej C h.objs.size),g,d,t,os⟩):
  codeN (model prog w) A (.call (.ref C) ⟨rest,[]⟩) R ⟨h,g,d,t,os⟩:=by
 have Y':=Y;refine bc fun nq=>?_;obtain⟨⟨oc,od,cd,sl,hC,e1,e2,e4⟩,made,base,self,top,call,typ⟩:=Y;refine nq ?_;refine aT rfl (wpN.of ?_);refine nd_load hC ?_;show wpAny _ _ (callAny.viaDunder (.ref C) _) _ _ _;refine Ab (call.at ?_);refine Ab (Ak (Ab (Ak ?_)));refine Ak (a:=Fin.again (.call (.builtin "type.__call__") ⟨.ref C::rest,[]⟩)) (And.intro rfl ?_);refine bY rfl (Hl _ (by decide +kernel)) entry_typeCall (check_slot tc_kind tc_split typ (tc_args _ _ _) ?_);unfold Builtin.«type.__call__»;refine aK ((((Ng (part:=none) hC).andThen .now).andThen .now:Looks (model prog w) h (mroOf (.ref C)) cd.mro).here ?_);rw[e4,if_neg Bool.false_ne_true];refine aK (made.here ?_);refine aW ?_;refine bV (Ml (new_K Y' hi (.inl rfl) ?_));have k:∀b o,h.get? b=some o->((h.push emptyDict).push (Ej C h.objs.size)).get? b=some o:=fun b o e=>Ae _ (Ae _ e);have t1:Looks (model prog w) ((h.push emptyDict).push (Ej C h.objs.size)) (Nn (.ref (h.objs.size+1))) (.ref C):=(Ng (show((h.push emptyDict).push (Ej C h.objs.size)).get? (h.objs.size+1)=some (Ej C h.objs.size) by heap_get)).andThen .now;refine aK ((t1.andThen (self.keeps k):Looks (model prog w) ((h.push emptyDict).push (Ej C h.objs.size)) (Mm (.ref (h.objs.size+1)) (.ref C)) true).here ?_);refine aE (aF (fH (t1.andThen (hi.keeps k):Looks (model prog w) ((h.push emptyDict).push (Ej C h.objs.size)) (Jp (.ref (h.objs.size+1)) "__init__") (some (.ref fI))) ((hb _).keeps k) (cJ (kW hq fun r s' z=>?_))));rcases r with e| (v|_|_|_) <;> first|exact z|exact z.elim|skip
 obtain⟨rfl,z⟩:=z;exact aH z
end
section
variable{K:Frag}{x:Addr}{h₀:Heap}{news:List (Addr×Obj)}
end
section
set_option maxRecDepth 1000000
noncomputable abbrev baO(b:List UInt8):Obj:={cls:=.type "bytearray",data:=.bytearray b.toArray}
theorem aJm:mroOf (.type "bytearray")=pure [.type "bytearray",.type "object"]:=by rw[mroOf_type];kernel_rfl
theorem tA:Dz (.type "bytearray") "__new__"=pure (some (.builtin "bytearray.__new__")):=by rw[Cn,Bm];kernel_rfl
theorem iO:Slot "bytearray" "__init__" "bytearray.__init__":=
 .of (owner:="bytearray") (n:="__init__") (by rw[Cn,Bm];kernel_rfl) (by decide +kernel) (by decide +kernel) (by decide +kernel)
  (by first|exact .inl (by decide +kernel)|exact .inr (by decide +kernel)) (by rw[Hh];kernel_rfl)
theorem vY:Pb (.type "bytearray") (.type "bytearray")=pure true:=by rw[Hh];kernel_rfl
theorem aNn:Bind.madeBy (.type "bytearray")=pure (some "bytearray.__new__"):=madeBy_type aJm tA (by decide +kernel)
theorem yV(a:Value):checkTypeCall "bytearray" ⟨[a],[]⟩=pure ():=by kernel_rfl
theorem aBd(a:Value):Gc "bytearray.__new__" ⟨[.type "bytearray",a],[]⟩=pure ():=by kernel_rfl
theorem mI:plainId "bytearray.__new__"=true:=by decide +kernel
theorem kE:plainId "bytearray.__init__"=true:=by decide +kernel
theorem vZ:Ju table "bytearray.__new__"=some Builtin.«list.__new__»:=entryFor_alias (id':="list.__new__") (by kernel_rfl) (by decide +kernel) (by decide +kernel) (by kernel_rfl)
theorem tB:Ju table "bytearray.__init__"=some Builtin.«bytearray.__init__»:=by first|exact entryFor_of_fast (by kernel_rfl)|exact Iw (by kernel_rfl)
theorem aJl:("bytearray.__new__".splitOn ".__new__").headD ""= "bytearray":=by simp +decide [String.splitOn,String.splitOnAux]
theorem wA(a b:Value):Oe "bytearray.__init__" ⟨[a,b],[]⟩:=by unfold Oe;kernel_rfl
theorem yW:Dz (.type "bytearray") "__release_buffer__"=pure (some (.builtin "bytearray.__release_buffer__")):=by rw[Cn,Bm];kernel_rfl
theorem yQ:Dz (.type "bytes") "__release_buffer__"=pure none:=by rw[Cn,Bm];kernel_rfl
theorem jL:Dz (.type "bytearray") "__buffer__"=pure (some (.builtin "bytearray.__buffer__")):=by rw[Cn,Bm];kernel_rfl
theorem jK:Dz (.type "bytes") "__buffer__"=pure (some (.builtin "bytes.__buffer__")):=by rw[Cn,Bm];kernel_rfl
theorem oM:Dz (.type "bytearray") "__index__"=pure none:=by rw[Cn,Bm];kernel_rfl
theorem oJ:Dz (.type "bytes") "__index__"=pure none:=by rw[Cn,Bm];kernel_rfl
theorem aPv:Pb (.type "bytes") (.type "bytes")=pure true:=by rw[Hh];kernel_rfl
theorem aJo:("bytearray.__release_buffer__".endsWith ("."++ "__release_buffer__"))=true:=by decide +kernel
theorem aJq: "bytearray.__release_buffer__".dropRight ("__release_buffer__".length+1)= "bytearray":=by decide +kernel
theorem aJn:("bytearray.__buffer__".endsWith ("."++ "__buffer__"))=true:=by decide +kernel
theorem aJp: "bytearray.__buffer__".dropRight ("__buffer__".length+1)= "bytearray":=by decide +kernel
theorem aIx:("bytes.__buffer__".endsWith ("."++ "__buffer__"))=true:=by decide +kernel
theorem aIy: "bytes.__buffer__".dropRight ("__buffer__".length+1)= "bytes":=by decide +kernel
theorem aDd(v:Value):Builtin.Bytes.bindOptional "bytearray.__init__" "bytearray" ["source","encoding","errors"] [v] []=pure [some v,none,none]:=by kernel_rfl
theorem kP{Q:Bool->Ai->Prop}(hT:s.TypeIs v "bytearray")(h:Q false s):wpAny (model prog w) A (Go v) Q E s:=by
 unfold Go Gx;refine Ab (Ab (Bo hT yW ?_));dsimp only;rw[aJo,aJq];exact Fi hT vY (Ak h)
theorem aAa{Q:Bool->Ai->Prop}(hT:s.TypeIs v "bytes")(h:Q false s):wpAny (model prog w) A (Go v) Q E s:=by
 unfold Go Gx;refine Ab (Ab (Bo hT yQ ?_));exact Ak (Ak h)
inductive Src(h:Heap):Value->String->List UInt8->Prop
 |bytes (b:List UInt8) (t:Tok):Src h (.bytes b.toArray t) "bytes" b
 |ba (a:Addr) (b:List UInt8) (e:h.get? a=some (baO b)):Src h (.ref a) "bytearray" b
theorem Src.typeIs{T:String}(S:Src s.heap v T b):s.TypeIs v T:=by
 cases S with
 |bytes b t=>exact rfl
 |ba a b e=>exact⟨_,e,rfl⟩
theorem Src.payload{T:String}{Q:Array UInt8->Ai->Prop}(S:Src s.heap v T b)(h:Q b.toArray s):wpAny (model prog w) A (Jk v) Q E s:=by
 unfold Jk Builtin.Bytes.payload?
 cases S with
 |bytes b t=>exact Ab (Ak (Ak h))
 |ba a b e=>exact Ab (Ab (Iu e (Ak (Ak h))))
theorem Src.buffer{T id:String}{full:Bool}{Q:Option (Array UInt8)->Ai->Prop}(S:Src s.heap v T b)(h:Q (some b.toArray) s):
  wpAny (model prog w) A (Builtin.Bytes.buffer? id v full) Q E s:=by
 have hT:=S.typeIs;have hp:∀{Q:Array UInt8->Ai->Prop},Q b.toArray s->wpAny (model prog w) A (Jk v) Q E s:=fun q=>S.payload q;unfold Builtin.Bytes.buffer?
 cases S with
 |bytes b t=>
  refine Ab (Bo hT jK ?_);dsimp only;unfold Gx;refine Ab (Ab (Bo hT jK ?_));dsimp only;rw[aIx,aIy];refine Fi hT aPv ?_;refine Ab (Bo hT jK ?_);refine Ab (aAa hT ?_);exact Ab (hp (Ak h))
 |ba a b e=>
  refine Ab (Bo hT jL ?_);dsimp only;unfold Gx;refine Ab (Ab (Bo hT jL ?_));dsimp only;rw[aJn,aJp];refine Fi hT vY ?_;refine Ab (Bo hT jL ?_);refine Ab (kP hT ?_);exact Ab (hp (Ak h))
theorem Src.noStr{T:String}{Q:Option Str->Ai->Prop}(S:Src s.heap v T b)(h:Q none s):wpAny (model prog w) A (asStr? v) Q E s:=by
 cases S with
 |bytes b t=>exact Bc (a:=none) rfl h
 |ba a b e=>unfold asStr?;exact Ab (Iu e (Ak h))
theorem Src.noIdx{T:String}{Q:Option Value->Ai->Prop}(S:Src s.heap v T b)(h:Q none s):wpAny (model prog w) A (Jp v "__index__") Q E s:=by
 have hT:=S.typeIs
 cases S with
 |bytes b t=>exact Bo hT oJ h
 |ba a b e=>exact Bo hT oM h
theorem yO(a:Value){Q₁:Value->Ai->Prop}
  (h:Q₁ (.ref s.heap.objs.size) {s with heap:=s.heap.push (baO [])}):
  Kh (model prog w) A (.call (.builtin "bytearray.__new__") ⟨[.type "bytearray",a],[]⟩) (wants Q₁ E) s:=by
 refine codeAny_of_tree ?_;show wpAny _ A.in1 (do Gc "bytearray.__new__" ⟨[.type "bytearray",a],[]⟩;again (.builtin "bytearray.__new__" ⟨[.type "bytearray",a],[]⟩)) _ _ s
 refine Ab (Bc (aBd a) (Ak ⟨Iy mI _,codeAny_builtin_stack vZ rfl fun p st=>?_⟩));rw[Kq mI _];have hsub:=vY;have hown:=aJl;obtain⟨hp,g,d,tk,os⟩:=s;simp only[hown]
 wp_walk
 exact h
theorem kU{self:Value}{Q:Bool->Ai->Prop}(h:Q false s):wpN (model prog w) A (Hc self) Q E s:=fun Γ p hΓ c=>by
 have no:∀x:Code×Pos,kC x.1=true->(match x with
  | (.builtin "bytearray.__contains__" ⟨v::_,_⟩,_)| (.builtin "bytearray.__mod__" ⟨v::_,_⟩,_)
  | (.builtin "bytearray.__rmod__" ⟨_::v::_,_⟩,_)| (.builtin "_struct.pack_into.held" ⟨v::_,_⟩,_)=>Jj v self
  | (.builtin "bytearray.find.held" ⟨_::_::held,_⟩,_)=>held.any (Jj self)
  | (.builtin id ⟨v::_,_⟩,_)=>Jj v self&&Hj.contains id
  |_=>false)=false:=fun x hx=>by
  obtain⟨c,p⟩:=x
  cases c with
  |builtin id a=>
   obtain⟨vs,kw⟩:=a;have hx:(!vC.contains id)=true:=hx;have ne:∀y:String,vC.contains y=true->¬id=y:=fun y hy e=>by rw[e,hy] at hx;cases hx
   have n1:=ne "bytearray.__contains__" (by decide +kernel);have n2:=ne "bytearray.__mod__" (by decide +kernel);have n3:=ne "bytearray.__rmod__" (by decide +kernel);have n4:=ne "_struct.pack_into.held" (by decide +kernel);have n5:=ne "bytearray.find.held" (by decide +kernel);have n6:Hj.contains id=false:=by
    cases e:Hj.contains id with
    |false=>rfl
    |true=>exact absurd rfl (ne id (List.contains_iff_mem.mpr (Gi _ (List.contains_iff_mem.mp e))))
   unfold kU.match_1
   with_unfolding_all refine Gj (dif_neg n1) ?_
   refine Gj (dif_neg n2) ?_;refine Gj (dif_neg n3) ?_;refine Gj (dif_neg n4) ?_;refine Gj (dif_neg n5) ?_
   cases vs with
   |nil=>rfl
   |cons v vs=>show(_&&_)=false;rw[n6,Bool.and_false]
  |_=>rfl
 unfold Hc;rw[Me];show Mu _ Γ (Sem.stack Sem.pure) _ _ p s;rw[Oj];show Mu _ Γ (Pure.pure _) _ _ p s;have z:∀x∈(Γ.code,p)::Γ.below,kC x.1=true:=fun x hx=>by
  rcases An.mp hx with rfl|hx
  ·exact c.1
  ·exact c.2 x hx
 rw[Sem.wp_pure'];refine(congrArg (fun b=>Q b s) (List.any_eq_false.mpr fun x hx e=>?_)).mpr h;exact Bool.noConfusion ((no x (z x hx)).symm.trans e)
theorem mG{a:Addr}{c:List UInt8}{Q:Unit->Ai->Prop}(ho:s.heap.get? a=some (baO b))(hc:c.length<=sizeLine)
  (h:∀h',Ch a s.heap h'->h'.get? a=some (baO c)->Q () {s with heap:=h'}):wpAny (model prog w) A (Builtin.Bytes.write (.ref a) fun _=>c.toArray) Q E s:=by
 show wpAny _ _ (updateBytearray a _) _ _ _;unfold updateBytearray;refine Ab (Iu ho ?_);have e:(s.heap.update a (Obj.mapBytearray fun _=>c.toArray)).get? a=some (baO c):=Dr _ ho rfl;refine Ab (wpAny_update ho (Nm e ?_ (h _ (Dx ..) e)));show(if c.toArray.size>sizeLine then _ else none)=none
 rw[if_neg (by simpa using hc)]
theorem qW{a:Addr}{Q:Nat->Ai->Prop}(ho:s.heap.get? a=some (baO b))(h:Q 0 s):wpAny (model prog w) A (Gy (.ref a)) Q E s:=by
 unfold Gy;exact Ab (Iu ho (Ak h))
theorem yX{a:Addr}{T:String}{Q:Unit->Ai->Prop}(ho:s.heap.get? a=some (baO []))(S:Src s.heap v T b)(hb:b.length<=sizeLine)(hne:∀c,v = .ref c->c≠a)
  (h:∀h',Ch a s.heap h'->h'.get? a=some (baO b)->Q () {s with heap:=h'}):
  wpN (model prog w) A (Builtin.«bytearray.__init__» ⟨[.ref a,v],[]⟩) (fun fin s'=>fin = .done (.ret .none)/\Q () s') E s:=by
 have hT:s.TypeIs (.ref a) "bytearray":=⟨_,ho,rfl⟩;unfold Builtin.«bytearray.__init__»;refine aK (kP hT ?_);refine aK (Bc (aDd v) ?_);refine aK (Bc (a:=()) rfl ?_);refine aK (Bc (a:=()) rfl ?_);refine aE (m:=Hc (.ref a) <||> _) ?_;unfold orM;refine aE (kU ?_);show wpN _ _ (Gy (.ref a) >>= fun n=>pure (decide (n>0))) _ _ _;refine aK (qW ho (aH ?_));refine wpN.of ?_;refine Cg (by decide) ?_;refine Ab (mG (c:=[]) ho (Fa _) fun h₁ k₁ e₁=>?_);have S₁:Src h₁ v T b:=by
  cases S with
  |bytes b t=>exact .bytes b t
  |ba c b e=>exact .ba c b (by rw[k₁.2 c (hne c rfl)];exact e)
 dsimp only;refine Ab (S₁.noStr (s:={s with heap:=h₁}) ?_);refine Cg rfl ?_;refine Ab (Bc (a:=()) rfl ?_);refine Ab (S₁.noIdx (s:={s with heap:=h₁}) ?_);refine Cg rfl ?_;refine Ab (S₁.buffer (s:={s with heap:=h₁}) ?_);dsimp only;refine Ab (Dy (Ab (mG e₁ hb fun h₂ k₂ e₂=>?_)));refine Ak ⟨rfl,h h₂ ?_ e₂⟩;exact⟨k₂.1.trans k₁.1,fun c hc=>(k₂.2 c hc).trans (k₁.2 c hc)⟩
theorem aDb{n:Int}(h1:n<=1000):Builtin.Bytes.tooLong n.toNat=false:=by
 unfold Builtin.Bytes.tooLong;rw[Bh];exact decide_eq_false (by exact Fc.mpr (zU h1))
theorem yY{a:Addr}{n:Int}{Q:Unit->Ai->Prop}(ho:s.heap.get? a=some (baO []))(h0:0<n)(h1:n<=1000)
  (h:∀h',Ch a s.heap h'->h'.get? a=some (baO (Ap n.toNat 0))->Q () {s with heap:=h'}):
  wpN (model prog w) A (Builtin.«bytearray.__init__» ⟨[.ref a,.int n t],[]⟩) (fun fin s'=>fin = .done (.ret .none)/\Q () s') E s:=by
 have hT:s.TypeIs (.ref a) "bytearray":=⟨_,ho,rfl⟩;unfold Builtin.«bytearray.__init__»;refine aK (kP hT ?_);refine aK (Bc (aDd _) ?_);refine aK (Bc (a:=()) rfl ?_);refine aK (Bc (a:=()) rfl ?_);refine aE (m:=Hc (.ref a) <||> _) ?_;unfold orM;refine aE (kU ?_);show wpN _ _ (Gy (.ref a) >>= fun n=>pure (decide (n>0))) _ _ _;refine aK (qW ho (aH ?_));refine wpN.of ?_;refine Cg (by decide) ?_;refine Ab (mG (c:=[]) ho (Fa _) fun h₁ k₁ e₁=>?_);dsimp only;refine Ab (Bc (a:=none) rfl ?_);refine Cg rfl ?_;refine Ab (Bc (a:=()) rfl ?_);refine Ab (Bo (Nx _ n t) PySem.F.slot_int_index.lookup ?_);refine Oa rfl ?_;refine Ab (Ot (Bc (rfl:asIndex (.int n t)=pure n) ?_));dsimp only;refine Cg (by simp only[Ix];simp;exact⟨aWm h0,aHw h1⟩) ?_;rw[if_neg (by exact Eg.mpr (Cu h0))];refine Cg (beq_eq_false_iff_ne.mpr (by exact z39 h0 h1)) ?_;refine Cg (aDb h1) ?_;refine Ab (Dy ?_);rw[if_pos (by exact h0)];have er:Array.replicate n.toNat (0:UInt8)=(Ap n.toNat (0:UInt8)).toArray:=by simp
 rw[er];refine Ab (mG e₁ (by rw[Ek,Bh];exact zU h1) fun h₂ k₂ e₂=>?_);refine Ak ⟨rfl,h h₂ ?_ e₂⟩;exact⟨k₂.1.trans k₁.1,fun c hc=>(k₂.2 c hc).trans (k₁.2 c hc)⟩
theorem aDc{x:Value}
  (init:∀(A:Ez) (Q:Unit->Ai->Prop) (E:Value->Ai->Prop),(∀h',Ch s.heap.objs.size (s.heap.push (baO [])) h'->h'.get? s.heap.objs.size=some (baO b)->Q () {s with heap:=h'})->
   wpN (model prog w) A (Builtin.«bytearray.__init__» ⟨[.ref s.heap.objs.size,x],[]⟩) (fun fin s'=>fin = .done (.ret .none)/\Q () s') E {s with heap:=s.heap.push (baO [])})
  (h:∀h',Ch s.heap.objs.size (s.heap.push (baO [])) h'->h'.get? s.heap.objs.size=some (baO b)->Q (.ref s.heap.objs.size) {s with heap:=h'}):
  wpN (model prog w) A (call (.type "bytearray") [x]) Q E s:=by
 refine cJ (aT rfl (wpN.of ?_));show wpAny _ _ (callAny (.type "bytearray") _) _ _ _;refine Ak ⟨Hl _ (by decide +kernel),codeN_builtin rfl PySem.F.entry_type_call ?_⟩;rw[Ez.under_plain (weight_type_call_type "bytearray" [x] []) rfl];unfold Builtin.«type.__call__»;dsimp only;rw[if_neg (by decide)];rw[if_neg (by decide +kernel)];refine aK (Bc (yV x) ?_);refine aK (Bc aJm ?_);rw[if_neg (by decide)];refine aK (Bc aNn ?_);dsimp only;refine aW ?_;refine bV (Ml (codeAny_mono (yO x (E:=E) (Q₁:=fun v s'=>v = .ref s.heap.objs.size/\s'={s with heap:=s.heap.push (baO [])}) ⟨rfl,rfl⟩) fun r s' z=>?_));rcases r with e| (v|_|_|_) <;> first|exact z|exact z.elim|skip
 obtain⟨rfl,rfl⟩:=z;have hT:({s with heap:=s.heap.push (baO [])}:Ai).TypeIs (.ref s.heap.objs.size) "bytearray":=⟨_,Ao _ rfl,rfl⟩;refine aK (Fi hT vY ?_);rw[if_neg (by decide)];have i2:Looks (model prog w) (s.heap.push (baO [])) (Jp (.ref s.heap.objs.size) "__init__") (some (.builtin "bytearray.__init__")):=fun A Q E s' k q=>by
  have hT':s'.TypeIs (.ref s.heap.objs.size) "bytearray":=⟨_,k _ _ (Ao _ rfl),rfl⟩;exact Bo hT' iO.lookup q
 refine aE (aF (fH i2 (Fk (iO.bind _)) (cJ (bY rfl (Iy kE _) tB (iO.check _ _ _ _ _ _ _ _ hT (wA _ _) ?_)))));rw[Kq kE _];refine bX (init _ (fun _ s'=>Q (.ref s.heap.objs.size) s') _ h) (fun fin s' z=>?_) fun _ _ z=>z;obtain⟨rfl,z⟩:=z;exact aH z
theorem jM{T:String}(S:Src s.heap v T b)(hb:b.length<=sizeLine)
  (h:∀h',Ch s.heap.objs.size (s.heap.push (baO [])) h'->h'.get? s.heap.objs.size=some (baO b)->Q (.ref s.heap.objs.size) {s with heap:=h'}):
  wpN (model prog w) A (call (.type "bytearray") [v]) Q E s:=by
 refine aDc (fun A' Q' E' h'=>yX (s:={s with heap:=s.heap.push (baO [])}) (T:=T) (Ao _ rfl) ?_ hb ?_ h') h
 ·cases S with
  |bytes b t=>exact .bytes b t
  |ba c b e=>exact .ba c b (Ae _ e)
 ·rintro c rfl rfl
  cases S with
  |ba c b e=>exact absurd (Aw e) (Ed _)
theorem yZ{n:Int}(h0:0<n)(h1:n<=1000)
  (h:∀h',Ch s.heap.objs.size (s.heap.push (baO [])) h'->h'.get? s.heap.objs.size=some (baO (Ap n.toNat 0))->Q (.ref s.heap.objs.size) {s with heap:=h'}):
  wpN (model prog w) A (call (.type "bytearray") [.int n t]) Q E s:=
 aDc (fun A' Q' E' h'=>yY (s:={s with heap:=s.heap.push (baO [])}) (Ao _ rfl) h0 h1 h') h
end
section
set_option maxRecDepth 1000000
theorem dD:Slot "bytearray" "__setitem__" "bytearray.__setitem__":=
 .of (owner:="bytearray") (n:="__setitem__") (by rw[Cn,Bm];kernel_rfl) (by decide +kernel) (by decide +kernel) (by decide +kernel)
  (by first|exact .inl (by decide +kernel)|exact .inr (by decide +kernel)) (by rw[Hh];kernel_rfl)
theorem mH:Ju table "bytearray.__setitem__"=some Builtin.«bytearray.__setitem__»:=by first|exact entryFor_of_fast (by kernel_rfl)|exact Iw (by kernel_rfl)
theorem oK(a b c:Value):Oe "bytearray.__setitem__" ⟨[a,b,c],[]⟩:=by unfold Oe;kernel_rfl
theorem aFn:Pb (.type "bytes") (.type "bytearray")=pure false:=by rw[Hh];kernel_rfl
theorem aFm:Pb (.type "bytes") (.type "complex")=pure false:=by rw[Hh];kernel_rfl
theorem yR:Dz (.type "bytes") "__int__"=pure none:=by rw[Cn,Bm];kernel_rfl
theorem yS:Dz (.type "bytes") "__float__"=pure none:=by rw[Cn,Bm];kernel_rfl
theorem xH:Dz (.type "slice") "__index__"=pure none:=by rw[Cn,Bm];kernel_rfl
noncomputable abbrev slO:Obj:={cls:=.type "slice",data:=.fields #[.none,.none,.none]}
theorem uA{a:Addr}{c:List UInt8}{f:Array UInt8->Array UInt8}{Q:Unit->Ai->Prop}(ho:s.heap.get? a=some (baO b))(hf:f b.toArray=c.toArray)(hc:c.length<=sizeLine)
  (h:∀h',Ch a s.heap h'->h'.get? a=some (baO c)->Q () {s with heap:=h'}):wpAny (model prog w) A (Builtin.Bytes.write (.ref a) f) Q E s:=by
 refine Ab (Iu ho ?_);have e:(s.heap.update a (Obj.mapBytearray f)).get? a=some (baO c):=by
  rw[Dr _ ho rfl];show some ({cls:=.type "bytearray",data:=.bytearray (f b.toArray)}:Obj)=_;rw[hf]
 refine Ab (wpAny_update ho (Nm e ?_ (h _ (Dx ..) e)));show(if c.toArray.size>sizeLine then _ else none)=none
 rw[if_neg (by simpa using hc)]
theorem nV{sl:Addr}{Q:Value×Value×Value->Ai->Prop}(hs:s.heap.get? sl=some slO)(h:Q (.none,.none,.none) s):wpAny (model prog w) A (Builtin.Bytes.sliceParts (.ref sl)) Q E s:=by
 unfold Builtin.Bytes.sliceParts;refine Ab (Gh hs rfl rfl ?_);refine Ab (Ak ?_);refine Cg (by decide) ?_;refine Ab (Gh hs rfl rfl ?_);refine Ab (Ak ?_);refine Ab (Gh hs rfl rfl ?_);refine Ab (Ak ?_);exact Ak h
theorem aEf{Q:Int×Int×Int->Ai->Prop}(h:Q (0,n,1) s):wpAny (model prog w) A (sliceIndices .none .none .none n) Q E s:=Bc (a:=(0,(n:Int),1)) rfl h
theorem sZ{a sl:Addr}{c:List UInt8}{Q:Unit->Ai->Prop}(ho:s.heap.get? a=some (baO b))(hs:s.heap.get? sl=some slO)(hl:c.length=b.length)(hc:c.length<=sizeLine)
  (h:∀h',s.heap.objs.size<=h'.objs.size->(∀d o,d≠a->s.heap.get? d=some o->h'.get? d=some o)->h'.get? a=some (baO c)->Q () {s with heap:=h'}):
  wpN (model prog w) A (setItem (.ref a) (.ref sl) (.bytes c.toArray t)) Q E s:=by
 have hT:s.TypeIs (.ref a) "bytearray":=⟨_,ho,rfl⟩;have hS:s.TypeIs (.ref sl) "slice":=⟨_,hs,rfl⟩;refine aF (aK (wpAny_sequenceKey hT (by decide) ?_));have i2:Looks (model prog w) s.heap (Jp (.ref a) (Oi "__setitem__")) (some (.builtin "bytearray.__setitem__")):=fun A Q E s' k q=>by
  exact Bo (⟨_,k _ _ ho,rfl⟩:s'.TypeIs (.ref a) "bytearray") dD.lookup q
 refine aE (fH i2 (Fk (dD.bind _)) (cJ (bY rfl (Iy dD.plain _) mH (dD.check _ _ _ _ _ _ _ _ hT (oK _ _ _) ?_))));rw[Kq dD.plain _];unfold Builtin.«bytearray.__setitem__»;dsimp only;refine aK (Ab (Bo hS xH (Ak ?_)));refine aK (Jm hS ?_);refine aK (nV hs ?_);refine aK (Fi (Ei s _ t) aFn ?_);refine aK ?_;refine Ab (Ab (Bo (Ei s _ t) oJ (Ak ?_)));refine Ab (Ab (Bo (Ei s _ t) yR (Ak ?_)));refine Ab (Ab (Bo (Ei s _ t) yS (Ak ?_)));refine Fi (Ei s _ t) aFm ?_;refine aK (Bc (a:=none) rfl ?_);refine aK (Dy ?_);refine aE (jM (.bytes c t) hc fun h₁ k₁ e₁=>?_);have g₁:∀d o,s.heap.get? d=some o->h₁.get? d=some o:=fun d o e=>(k₁.2 d (Bn (Aw e))).trans (Ae _ e);refine bV (nV (s:={s with heap:=h₁}) (g₁ _ _ hs) ?_);refine aK ((Src.ba (h:=h₁) _ _ e₁).payload (s:={s with heap:=h₁}) ?_);refine aK ((Src.ba (h:=h₁) _ _ (g₁ _ _ ho)).payload (s:={s with heap:=h₁}) ?_);refine aK (aEf ?_);refine aK (Dy ?_);rw[if_neg (by dsimp only;rw[(show max (0:Int) ((b.toArray.size:Nat):Int)=(b.length:Int) by simp)];simp[hl])];refine aK (uA (b:=b) (c:=c) (s:={s with heap:=h₁}) (g₁ _ _ ho) ?_ hc fun h₂ k₂ e₂=>?_)
 ·simp
 refine aH (aH (h h₂ ?_ (fun d o hd e=>(k₂.2 d hd).trans (g₁ d o e)) e₂));show s.heap.objs.size<=h₂.objs.size;rw[k₂.1,k₁.1,Bz];exact Cs _
theorem aJk{a:Addr}{k x:Int}{u:Tok}{Q:Unit->Ai->Prop}(ho:s.heap.get? a=some (baO b))(h0:0<=k)(h1:k<b.length)(hx0:0<=x)(hx1:x<256)(hc:b.length<=1000)
  (h:∀h',Ch a s.heap h'->h'.get? a=some (baO (b.set k.toNat x.toNat.toUInt8))->Q () {s with heap:=h'}):
  wpAny (model prog w) A (setItem (.ref a) (.int k t) (.int x u)) Q E s:=by
 have hT:s.TypeIs (.ref a) "bytearray":=⟨_,ho,rfl⟩;refine Dv (Ab (wpAny_sequenceKey hT (by decide) ?_));refine Ab (Ig (name:=Oi "__setitem__") hT dD (Eb dD hT mH ?_ (oK _ _ _)));refine Ab (Ab (Bo (Nx s k t) PySem.F.slot_int_index.lookup ?_));refine Cg rfl ?_;refine Ab (Bc (rfl:asIndex (.int k t)=pure k) ?_);refine Cg (by simp only[Ix];simp;exact z14 h0 h1 hc) ?_;refine Ak ?_;refine Ab (Ab (Bc (rfl:asIndex (.int x u)=pure x) ?_));refine Cg (by simp;exact⟨hx0,hx1⟩) ?_;refine Ak ?_;refine Ab ((Src.ba _ _ ho).payload ?_);have ei:seqIndex? k b.toArray.size=some k.toNat:=by
  unfold seqIndex?;rw[if_neg (Eg.mpr h0)];exact if_pos (Bb.mpr ⟨decide_eq_true h0,decide_eq_true h1⟩)
 rw[ei];dsimp only;refine Ab (uA (c:=b.set k.toNat x.toNat.toUInt8) ho (by simp[Array.setIfInBounds];intro q;omega) (by rw[Gf,Bh];exact nle hc) fun h' k' e'=>?_);exact Ak ⟨.none,rfl,Ak (h h' k' e')⟩
end
theorem aWn:kZ PySem.Challenge.rw_nu0358_01 Mine.hd.heap_1 True:=by
 k_fill
 exact trivial
theorem aJs{x:Value}
  (h:wpAny (model prog w) A.in1.in1 (Builtin.«bytes.__new__» ⟨[.type "bytes",x],[]⟩) (fun fin s'=>∃v,fin = .done (.ret v)/\s'.TypeIs v "bytes"/\Q v s') E s):
  wpAny (model prog w) A (call (.type "bytes") [x]) Q E s:=by
 refine callType_codes (Q₁:=fun obj s₁=>s₁.TypeIs obj "bytes"/\Q obj s₁) F.bm_called (F.bm_typeCall _) F.entry_object_init ?_ fun obj s₁ h₁=>
  ⟨h₁.1,F.args_object_init_2 obj _,object_init_meets F.bm_called.init.lookup F.bm_called.made (by decide) prog w A.in1 _ s₁ ⟨h₁.1,rfl,h₁.2⟩⟩
 refine codeAny_of_tree ?_;show wpAny _ _ (do Gc "bytes.__new__" ⟨[.type "bytes",x],[]⟩;again (.builtin "bytes.__new__" ⟨[.type "bytes",x],[]⟩)) _ _ s
 refine Ab (Bc (F.bm_newCall _) (Ak ⟨Iy F.bm_plain _,Ji F.bm_entry ?_⟩));refine Ey h (fun fin s' hf=>?_) fun _ _ e=>e;obtain⟨v,rfl,hv⟩:=hf;exact hv
theorem aBe(h:Q (.bytes b.toArray t) s):wpAny (model prog w) A (call (.type "bytes") [.bytes b.toArray t]) Q E s:=by
 refine aJs ?_;refine Ab (Bc (a:=true) rfl ?_);refine Cg rfl ?_;refine Ab (Bc F.bm_sub ?_);refine Cg rfl ?_;refine Ab (Bc (F.bm_bind _) ?_);refine Ab (Bc (a:=()) rfl ?_);refine Ab (Bc (a:=()) rfl ?_);refine Cg rfl ?_;refine Ab (Bo (Ei s _ t) (show Dz (.type "bytes") "__bytes__"=pure (some (.builtin "bytes.__bytes__")) by rw[Cn,Bm];kernel_rfl) ?_);refine Ab (Dy ?_);refine Ab (Jm (Ei s _ t) ?_);refine Oa rfl ?_;exact Ak ⟨_,rfl,rfl,h⟩
theorem aJr{n:Int}(h0:0<=n)(h1:n<=1000)(h:Q (.bytes (Ap n.toNat (0:UInt8)).toArray s.toks) {s with toks:=s.toks+1}):
  wpAny (model prog w) A (call (.type "bytes") [.int n t]) Q E s:=by
 refine aJs ?_;refine Ab (Bc (a:=true) rfl ?_);refine Cg rfl ?_;refine Ab (Bc F.bm_sub ?_);refine Cg rfl ?_;refine Ab (Bc (F.bm_bind _) ?_);refine Ab (Bc (a:=()) rfl ?_);refine Ab (Bc (a:=()) rfl ?_);refine Cg rfl ?_;refine Ab (Bo (Nx s n t) (show Dz (.type "int") "__bytes__"=pure none by rw[Cn,Bm];kernel_rfl) ?_);refine Ab (Bc (a:=false) rfl ?_);refine Cg rfl ?_;refine Ab (Bo (Nx s n t) F.slot_int_index.lookup ?_);refine Cg rfl ?_;refine Ab (Ot (Bc (rfl:asIndex (.int n t)=pure n) ?_));dsimp only;refine Cg (by simp only[Ix];simp;exact⟨ige h0,aHw h1⟩) ?_;rw[if_neg (by exact Eg.mpr h0)];rw[if_neg (by exact z10 h0 h1)];refine Cg (aDb h1) ?_;refine Ab (Dy ?_);refine Ab (wpAny_mkBytes ?_ (by rw[Array.size_replicate,Bh];exact zU h1));refine Oa rfl ?_;exact Ak ⟨_,rfl,rfl,by simpa using h⟩
theorem aNo{a:Addr}(ho:s.heap.get? a=some (baO b))(hb:b.length<=sizeLine)(h:Q (.bytes b.toArray s.toks) {s with toks:=s.toks+1}):
  wpAny (model prog w) A (call (.type "bytes") [.ref a]) Q E s:=by
 have hT:s.TypeIs (.ref a) "bytearray":=⟨_,ho,rfl⟩;have S:Src s.heap (.ref a) "bytearray" b:=.ba a b ho;refine aJs ?_;refine Ab (Bc (a:=true) rfl ?_);refine Cg rfl ?_;refine Ab (Bc F.bm_sub ?_);refine Cg rfl ?_;refine Ab (Bc (F.bm_bind _) ?_);refine Ab (Bc (a:=()) rfl ?_);refine Ab (Bc (a:=()) rfl ?_);refine Cg rfl ?_;refine Ab (Bo hT (show Dz (.type "bytearray") "__bytes__"=pure none by rw[Cn,Bm];kernel_rfl) ?_);refine Ab (Ab (S.noStr (Ak ?_)));refine Cg rfl ?_;refine Ab (Bo hT oM ?_);refine Oa rfl ?_;refine Ab (S.buffer ?_);refine Ab (Dy (Ab (wpAny_mkBytes ?_ (by simpa using hb))));exact Ak ⟨_,rfl,rfl,h⟩
theorem aRo:kZ PySem.Challenge.rw_nu0358_01 Mine.hd.heap_1 True:=by
 k_fill
 exact trivial
section
variable{M:Model}
theorem cut{rest:List Stmt}{Q:Flow->Ai->Prop}(J:Heap->Prop)
  (h1:wpAny M A (exec st env) (fun f s'=>f = .next/\∃h tk,s'={s with heap:=h,toks:=tk}/\J h) E s)
  (h2:∀h tk,J h->wpAny M A (execs rest env) Q E {s with heap:=h,toks:=tk}):wpAny M A (execs (st::rest) env) Q E s:=by
 refine wpAny_execs_cons (Ey h1 (fun f s' z=>?_) fun _ _ z=>z);obtain⟨rfl,h,tk,rfl,j⟩:=z;exact h2 h tk j
end
structure Leaf(P:Prop):Prop where
 it:P
section
variable{M:Model}
end
theorem aAv{b:Int}{u:Tok}(hb:0<b)(hb2:b<=1000000)(h:Q (.int (a.fdiv b) s.toks) {s with toks:=s.toks+1}):
  wpAny (model prog w) A (Od .FloorDiv (.int a t) (.int b u)) Q E s:=by
 exact floordiv_int (by exact bO hb) h (Or.inl (PyProof.noPylong_small (by exact z7 hb hb2)))
noncomputable abbrev Lbl:=Nat×Int
set_option genInjectivity true in
inductive Sh where
 |none|bool (b:Bool)|int (n:Int)|str (x:Str)|bytes (b:List UInt8)|ref (l:Lbl)|con (v:Value)|tup (l:List Sh)
set_option genInjectivity true in
inductive Ob where
 |list (l:List Sh)|sdict (l:List (Str×Sh))|idict (l:List (Int×Sh))|bdict (l:List (List UInt8×Sh))|inst (C:Addr) (d:Lbl)|ba (b:List UInt8)|raw (ls:List Lbl) (p:List Addr->Obj->Prop)
noncomputable abbrev Sg:=Lbl->Option Ob
noncomputable def upd(σ:Sg)(l:Lbl)(o:Ob):Sg:=fun x=>if x=l then some o else σ x
structure Cf where
 ρ:Lbl->Addr
 h:Heap
noncomputable abbrev cY(vs:List Value):Obj:={cls:=.type "tuple",data:=.seq vs.toArray}
mutual
inductive Is(σ:Sg)(c:Cf):Sh->Value->Prop
 |none:Is σ c .none .none
 |bool (b:Bool):Is σ c (.bool b) (.bool b)
 |int (n:Int) (t:Tok):Is σ c (.int n) (.int n t)
 |str (x:Str) (t:Tok):Is σ c (.str x) (.str x t)
 |bytes (b:List UInt8) (t:Tok):Is σ c (.bytes b) (.bytes b.toArray t)
 |ref (l:Lbl):σ l≠Mg->Is σ c (.ref l) (.ref (c.ρ l))
 |con (v:Value):Is σ c (.con v) v
 |tup (l:List Sh) (a:Addr) (vs:List Value):c.h.get? a=some (cY vs)->IsAll σ c l vs->Is σ c (.tup l) (.ref a)
inductive IsAll(σ:Sg)(c:Cf):List Sh->List Value->Prop
 |nil:IsAll σ c [] []
 |cons {x:Sh} {v:Value} {l:List Sh} {vs:List Value}:Is σ c x v->IsAll σ c l vs->IsAll σ c (x::l) (v::vs)
end
section
variable{σ:Sg}{c:Cf}
noncomputable def IsF(σ:Sg)(c:Cf)(x:Sh)(v:Value):Prop:=match x with
 | .none=>v = .none| .bool b=>v = .bool b| .int n=>∃t,v = .int n t| .str x=>∃t,v = .str x t| .bytes b=>∃t,v = .bytes b.toArray t
 | .ref l=>v = .ref (c.ρ l)| .con u=>v=u| .tup l=>∃a vs,v = .ref a/\c.h.get? a=some (cY vs)/\IsAll σ c l vs
theorem Is.out{x:Sh}(h:Is σ c x v):IsF σ c x v:=by
 cases h with
 |none=>rfl
 |bool=>rfl
 |int n t=>exact⟨t,rfl⟩
 |str n t=>exact⟨t,rfl⟩
 |bytes n t=>exact⟨t,rfl⟩
 |ref=>rfl
 |con=>rfl
 |tup l a vs h hv=>exact⟨a,vs,rfl,h,hv⟩
noncomputable def aQj(σ:Sg)(c:Cf)(l:List Sh)(vs:List Value):Prop:=match l with
 | []=>vs=[] |x::l=>∃v r,vs=v::r/\Is σ c x v/\IsAll σ c l r
theorem IsAll.out{l:List Sh}(h:IsAll σ c l vs):aQj σ c l vs:=by
 cases h with
 |nil=>rfl
 |cons a b=>exact⟨_,_,rfl,a,b⟩
theorem Is.none_inv(h:Is σ c .none v):v = .none:=h.out
theorem Is.bool_inv{b:Bool}(h:Is σ c (.bool b) v):v = .bool b:=h.out
theorem Is.int_inv{n:Int}(h:Is σ c (.int n) v):∃t,v = .int n t:=h.out
theorem Is.str_inv(h:Is σ c (.str x) v):∃t,v = .str x t:=h.out
theorem Is.bytes_inv{b:List UInt8}(h:Is σ c (.bytes b) v):∃t,v = .bytes b.toArray t:=h.out
theorem Is.ref_inv{l:Lbl}(h:Is σ c (.ref l) v):v = .ref (c.ρ l):=h.out
theorem Is.con_inv{u:Value}(h:Is σ c (.con u) v):v=u:=h.out
theorem Is.tup_inv{l:List Sh}(h:Is σ c (.tup l) v):∃a vs,v = .ref a/\c.h.get? a=some (cY vs)/\IsAll σ c l vs:=h.out
theorem IsAll.nil_inv(h:IsAll σ c [] vs):vs=[]:=h.out
theorem IsAll.cons_inv{x:Sh}{l:List Sh}(h:IsAll σ c (x::l) vs):∃v r,vs=v::r/\Is σ c x v/\IsAll σ c l r:=h.out
end
inductive KAll(σ:Sg)(c:Cf){K:Type}:List (K×Sh)->List (K×Value)->Prop
 |nil:KAll σ c [] []
 |cons {k:K} {x:Sh} {v:Value} {l:List (K×Sh)} {vs:List (K×Value)}:Is σ c x v->KAll σ c l vs->KAll σ c ((k,x)::l) ((k,v)::vs)
noncomputable def Dom(σ σ':Sg):Prop:=∀l,σ l≠none->σ' l≠none
structure Step(P:Lbl->Prop)(c c':Cf):Prop where
 rho:∀l,P l->c'.ρ l=c.ρ l
 tup:∀a vs,c.h.get? a=some (cY vs)->c'.h.get? a=some (cY vs)
noncomputable abbrev dom(σ:Sg):Lbl->Prop:=fun l=>σ l≠none
theorem Step.refl{P:Lbl->Prop}(c:Cf):Step P c c:=⟨fun _ _=>rfl,fun _ _ e=>e⟩
theorem Step.trans{P:Lbl->Prop}{a b c:Cf}(x:Step P a b)(y:Step P b c):Step P a c:=⟨fun l p=>(y.rho l p).trans (x.rho l p),fun a vs e=>y.tup a vs (x.tup a vs e)⟩
theorem Step.mono{P P':Lbl->Prop}{a b:Cf}(x:Step P a b)(h:∀l,P' l->P l):Step P' a b:=⟨fun l p=>x.rho l (h l p),x.tup⟩
theorem Dom.refl(σ:Sg):Dom σ σ:=fun _ x=>x
theorem Dom.trans{a b c:Sg}(x:Dom a b)(y:Dom b c):Dom a c:=fun l p=>y l (x l p)
theorem Dom.upd{σ:Sg}{l:Lbl}{o:Ob}:Dom σ (upd σ l o):=fun x p=>by unfold Mine.upd;split <;> simp_all
theorem Is.mono{σ σ':Sg}{c c':Cf}(D:Dom σ σ')(S:Step (dom σ) c c'){x:Sh}(h:Is σ c x v):Is σ' c' x v:=
 Is.rec (motive_1:=fun x v _=>Is σ' c' x v) (motive_2:=fun x v _=>IsAll σ' c' x v) .none .bool .int .str .bytes (fun l h=>S.rho l h▸Is.ref l (D l h)) .con (fun l a vs h _ ih=>.tup l a vs (S.tup a vs h) ih) .nil (fun _ _ a b=>.cons a b) h
theorem IsAll.mono{σ σ':Sg}{c c':Cf}(D:Dom σ σ')(S:Step (dom σ) c c'){x:List Sh}{v:List Value}(h:IsAll σ c x v):IsAll σ' c' x v:=
 IsAll.rec (motive_1:=fun x v _=>Is σ' c' x v) (motive_2:=fun x v _=>IsAll σ' c' x v) .none .bool .int .str .bytes (fun l h=>S.rho l h▸Is.ref l (D l h)) .con (fun l a vs h _ ih=>.tup l a vs (S.tup a vs h) ih) .nil (fun _ _ a b=>.cons a b) h
theorem KAll.mono{σ σ':Sg}{c c':Cf}{K:Type}(D:Dom σ σ')(S:Step (dom σ) c c'){x:List (K×Sh)}{v:List (K×Value)}(h:KAll σ c x v):KAll σ' c' x v:=by
 induction h with
 |nil=>exact .nil
 |cons h _ ih=>exact .cons (h.mono D S) ih
inductive ObIs(w:World)(σ:Sg)(c:Cf):Ob->Obj->Prop
 |list (l:List Sh) (vs:List Value) (n:Nat):IsAll σ c l vs->ObIs w σ c (.list l) (listOf vs.toArray n)
 |sdict (l:List (Str×Sh)) (kvs:List (Str×Value)) (o:Obj):o.IsDictOf (Br PW w) kvs->KAll σ c l kvs->ObIs w σ c (.sdict l) o
 |idict (l:List (Int×Sh)) (kvs:List (Int×Value)) (o:Obj):o.IsDictOf (Ea PW w) kvs->KAll σ c l kvs->ObIs w σ c (.idict l) o
 |bdict (l:List (List UInt8×Sh)) (kvs:List (List UInt8×Value)) (o:Obj):o.IsDictOf (Hn PW w) kvs->KAll σ c l kvs->ObIs w σ c (.bdict l) o
 |inst (C:Addr) (d:Lbl):σ d≠none->ObIs w σ c (.inst C d) (Ej C (c.ρ d))
 |ba (b:List UInt8):ObIs w σ c (.ba b) (baO b)
 |raw (ls:List Lbl) (p:List Addr->Obj->Prop) (o:Obj):(∀l∈ls,σ l≠none)->p (ls.map c.ρ) o->(∀vs,o≠cY vs)->ObIs w σ c (.raw ls p) o
theorem ObIs.mono{σ σ':Sg}{c c':Cf}(D:Dom σ σ')(S:Step (dom σ) c c'){x:Ob}{o:Obj}(h:ObIs w σ c x o):ObIs w σ' c' x o:=by
 cases h with
 |list l vs n h=>exact .list l vs n (h.mono D S)
 |sdict l k o h hs=>exact .sdict l k o h (hs.mono D S)
 |idict l k o h hs=>exact .idict l k o h (hs.mono D S)
 |bdict l k o h hs=>exact .bdict l k o h (hs.mono D S)
 |inst C d h=>rw[<-S.rho d h];exact .inst C d (D d h)
 |ba b=>exact .ba b
 |raw ls p o h hp n=>exact .raw ls p o (fun l hl=>D l (h l hl)) (by rwa[Dk (fun l hl=>(S.rho l (h l hl)).symm)] at hp) n
noncomputable def ObF(w:World)(σ:Sg)(c:Cf)(x:Ob)(o:Obj):Prop:=match x with
 | .list l=>∃vs n,o=listOf vs.toArray n/\IsAll σ c l vs| .sdict l=>∃kvs,o.IsDictOf (Br PW w) kvs/\KAll σ c l kvs| .idict l=>∃kvs,o.IsDictOf (Ea PW w) kvs/\KAll σ c l kvs
 | .bdict l=>∃kvs,o.IsDictOf (Hn PW w) kvs/\KAll σ c l kvs| .inst C d=>σ d≠none/\o=Ej C (c.ρ d)| .ba b=>o=baO b| .raw ls p=>(∀l∈ls,σ l≠none)/\p (ls.map c.ρ) o
theorem ObIs.out{σ:Sg}{c:Cf}{x:Ob}{o:Obj}(h:ObIs w σ c x o):ObF w σ c x o:=by
 cases h with
 |list l vs n h=>exact⟨vs,n,rfl,h⟩
 |sdict l k o h hs=>exact⟨k,h,hs⟩
 |idict l k o h hs=>exact⟨k,h,hs⟩
 |bdict l k o h hs=>exact⟨k,h,hs⟩
 |inst C d h=>exact⟨h,rfl⟩
 |ba b=>exact rfl
 |raw ls p o h hp n=>exact⟨h,hp⟩
noncomputable def noF:Lbl->Prop:=fun _=>False
inductive NsI(h:Heap)(L:Addr):Prop
 |mk (o:Obj) (es:Array Kx) (ep:Nat) (e:h.get? L=some o) (d:o.data = .dict es ep):NsI h L
theorem aEj(n:h.Ns L m):NsI h L:=let⟨o,es,ep,e,d,_⟩:=n;⟨o,es,ep,e,d⟩
noncomputable def Kept(fr:Addr->Prop)(b:Addr)(o:Obj)(h:Heap):Prop:=h.get? b=some o\/(fr b/\(∃es n,o.data = .dict es n)/\∃sl,h.get? b=some {o with slots:=sl})
section
variable{fr fr':Addr->Prop}{b:Addr}{o:Obj}
theorem Kept.ex(k:Kept fr b o h)(n:¬fr b):h.get? b=some o:=k.resolve_right fun x=>n x.1
theorem Kept.at(k:Kept fr b o h):∃o',h.get? b=some o'/\o'.data=o.data:=by
 rcases k with e| ⟨_,_,sl,e⟩
 ·exact⟨o,e,rfl⟩
 ·exact⟨_,e,rfl⟩
theorem Kept.nd(k:Kept fr b o h)(n:∀es m,o.data≠.dict es m):h.get? b=some o:=k.resolve_right fun⟨_,⟨es,m,e⟩,_⟩=>n es m e
theorem Kept.lt(k:Kept fr b o h):b<h.objs.size:=by
 obtain⟨_,e,_⟩:=k.at;exact Aw e
theorem Kept.go(k:Kept fr b o h)(g:∀o',h.get? b=some o'->h'.get? b=some o'):Kept fr b o h':=by
 rcases k with e| ⟨f,d,sl,e⟩
 ·exact .inl (g _ e)
 ·exact .inr ⟨f,d,sl,g _ e⟩
theorem Kept.trans(k:Kept fr b o h)(g:∀o',h.get? b=some o'->Kept fr b o' h'):Kept fr b o h':=by
 rcases k with e| ⟨f,d,sl,e⟩
 ·exact g _ e
 ·rcases g _ e with e'| ⟨_,_,sl',e'⟩
  ·exact .inr ⟨f,d,sl,e'⟩
  ·exact .inr ⟨f,d,sl',e'⟩
theorem Kept.imp(k:Kept fr b o h)(g:fr b->fr' b):Kept fr' b o h:=by
 rcases k with e| ⟨f,r⟩
 ·exact .inl e
 ·exact .inr ⟨g f,r⟩
theorem Kept.ns{h0:Heap}(x:h0.Ns b m)(k:∀o,h0.get? b=some o->Kept fr b o h):h.Ns b m:=by
 refine bc fun nq=>?_;obtain⟨o,es,ep,e,hd,r⟩:=x;obtain⟨o',e',hd'⟩:=(k o e).at;refine nq ?_;exact⟨o',es,ep,e',hd'.trans hd,r⟩
end
noncomputable def frs(outer:List Env):Addr->Prop:=fun b=>b∈outer.filterMap (·.frame)
inductive Ho(w:World)(F:Lbl->Prop)(g:Heap)(σ:Sg)(c:Cf)(l:Lbl)(o:Ob):Prop
 |mk (x:Obj) (h:c.h.get? (c.ρ l)=some x) (i:ObIs w σ c o x) (n:g.get? (c.ρ l)=none\/F l) (b:1<c.ρ l):Ho w F g σ c l o
structure Hp(w:World)(fr:Addr->Prop)(F:Lbl->Prop)(g:Heap)(σ:Sg)(c:Cf):Prop where
 ob:∀l o,σ l=some o->Ho w F g σ c l o
 inj:∀l l',σ l≠none->σ l'≠none->c.ρ l=c.ρ l'->l=l'
 fin:∃ls:List Lbl,∀l,σ l≠none->l∈ls
 keep:∀b o,g.get? b=some o->Kept fr b o c.h
theorem ObIs.raw_inv{σ:Sg}{c:Cf}{ls:List Lbl}{p:List Addr->Obj->Prop}{o:Obj}(h:ObIs w σ c (.raw ls p) o):(∀l∈ls,σ l≠none)/\p (ls.map c.ρ) o:=h.out
theorem Hp.none{fr:Addr->Prop}{F:Lbl->Prop}{σ:Sg}{c:Cf}(H:Hp w fr F g σ c){a:Addr}(h:c.h.objs.size<=a):g.get? a=none:=by
 cases e:g.get? a with
 |none=>rfl
 |some o=>exact absurd (Bi (H.keep a o e).lt h) (Ed _)
noncomputable def eH(h:Heap)(n:Nat):Heap:={h with objs:=h.objs.extract 0 n}
theorem rD(h:Heap)(n:Nat):(eH h n).objs.size<=n:=by
 show(h.objs.extract 0 n).size<=n;rw[Array.size_extract];exact z5
theorem tY{a:Nat}(l:a<n):(eH h n).get? a=h.get? a:=by
 have e:(h.objs.extract 0 n)[a]? = h.objs[a]?:=by
  rw[Array.getElem?_extract]
  split
  ·simp
  ·rename_i q
   symm
   apply Array.getElem?_eq_none;exact z6 l q
 unfold Heap.get? eH;dsimp only;rw[e]
theorem aPs(k:∀b o,g.get? b=some o->b<n):(∀b o,g.get? b=some o->(eH g n).get? b=some o)/\∀b o,(eH g n).get? b=some o->g.get? b=some o:=
 ⟨fun b o e=>(tY (k b o e)).trans e,fun b o e=>by
  rwa[tY (Bi (Aw e) (rD _ _):b<n)] at e⟩
variable{σ σ':Mine.Sg}{c:Mine.Cf}{ms:Str->Option Mine.Sh}{args dsh:List Mine.Sh}{F F':Mine.Lbl->Prop}{sh:Mine.Sh}
theorem ObIs.notTup{o:Ob}(h:ObIs w σ c o (cY vs)):False:=by
 have no:∀T:String,Gu "tuple"=Gu T->T= "tuple":=fun T e=>by injection e with e;exact e.symm
 generalize e:cY vs=x at h
 cases h with
 |list l vs n h=>exact absurd (no _ (congrArg Il e)) (by decide)
 |sdict l k o h hs=>obtain⟨es,ep,⟨hc,_⟩,_⟩:=h;rw[<-e] at hc;exact absurd (no _ hc) (by decide)
 |idict l k o h hs=>obtain⟨es,ep,⟨hc,_⟩,_⟩:=h;rw[<-e] at hc;exact absurd (no _ hc) (by decide)
 |bdict l k o h hs=>obtain⟨es,ep,⟨hc,_⟩,_⟩:=h;rw[<-e] at hc;exact absurd (no _ hc) (by decide)
 |inst C d h=>have:=congrArg Il e;cases this
 |ba b=>exact absurd (no _ (congrArg Il e)) (by decide)
 |raw _ _ _ _ _ n=>exact n _ e.symm
structure Gm where
 (w:World)(Ad:Ez)(base:Heap)(stk:List Env)(g g0:Heap)(mg mb:Str->Option Value)(n:Nat)(L:Addr)(env:Env)(P F:Lbl->Prop)
noncomputable def Gm.fr(Γ:Gm):Addr->Prop:=fun b=>frs Γ.stk b/\b≠Γ.L
structure GmOk(Γ:Gm):Prop where
 B:∀h m,(∀b o,Γ.g.get? b=some o->Kept Γ.fr b o h)->h.Ns Γ.L m->Below Γ.Ad Γ.base Γ.stk h
 XB:(Mine.hd.heap_1 Γ.w.params).In Γ.base
 TB:Nf q0 iJ Γ.mg Γ.mb Γ.base
 X0:(Mine.hd.heap_1 Γ.w.params).In Γ.g0
 T0:Nf q0 iJ Γ.mg Γ.mb Γ.g0
 sub:∀b o,Γ.g0.get? b=some o->Γ.g.get? b=some o
 nfr:∀b o,Γ.g0.get? b=some o->¬frs Γ.stk b
 frg:∀b,Γ.fr b->∃o es n,Γ.g.get? b=some o/\o.data = .dict es n
 low:Γ.g0.objs.size<=Γ.L
 hd:Γ.Ad.depth+Γ.n<Ij
 hu:Γ.Ad.units+8*Γ.n+5<cLine
 hh:Γ.Ad.handled=none
 ek:Γ.env.scope.kind = .function
 el:Γ.env.locals=Γ.L
 eg:Γ.env.globals=mainGlobals
 eb:Γ.env.builtins=builtinsNs
 ci:∀x y b,Γ.env.cells.lookup x=some b->Γ.env.cells.lookup y=some b->x=y
theorem GmOk.X{Γ:Gm}(G:GmOk Γ):(Mine.hd.heap_1 Γ.w.params).In Γ.g:=G.X0.keeps G.sub
theorem GmOk.T{Γ:Gm}(G:GmOk Γ):Nf q0 iJ Γ.mg Γ.mb Γ.g:=G.T0.keeps G.sub
theorem GmOk.nofr{Γ:Gm}(G:GmOk Γ){b:Addr}(h:Γ.g.get? b=none):¬Γ.fr b:=fun f=>by
 obtain⟨o,_,_,e,_⟩:=G.frg b f;rw[h] at e;cases e
structure Fw(fr:Addr->Prop)(g:Heap)(L:Addr)(h:Heap)(m:Str->Option Value):Prop where
 ns:h.Ns L m
 keep:∀b o,g.get? b=some o->Kept fr b o h
 off:g.get? L=none
theorem Fw.set{fr:Addr->Prop}{m':Str->Option Value}(F:Fw fr g L h m)(hn:h'.Ns L m')(hs:Ch L h h'):Fw fr g L h' m':=
 ⟨hn,fun b o e=>(F.keep b o e).go fun o' e'=>(hs.2 b (fun q=>by rw[q,F.off] at e;cases e)).trans e',F.off⟩
theorem Fw.change{fr:Addr->Prop}{a:Addr}(F:Fw fr g L h m)(hs:Ch a h h')(n:a≠L)(hg:g.get? a=none):Fw fr g L h' m:=
 ⟨F.ns.sameBut hs n.symm,fun b o e=>(F.keep b o e).go fun o' e'=>(hs.2 b (fun q=>by rw[q,hg] at e;cases e)).trans e',F.off⟩
theorem Fw.lower{Γ:Gm}(G:GmOk Γ)(F:Fw Γ.fr Γ.g Γ.L h m):Fr Γ.g0 Γ.L h m:=⟨F.ns,fun b o e=>(F.keep b o (G.sub b o e)).ex (fun f=>G.nfr b o e f.1),G.low⟩
inductive Fm(Γ:Gm)(ms:Str->Option Sh)(σ:Sg)(c:Cf):Prop
 |mk (m:Str->Option Value) (F:Fw Γ.fr Γ.g Γ.L c.h m) (hm:∀x sh,Γ.env.kindOf x=some .local->ms x=some sh->∃v,m x=some v/\Is σ c sh v):Fm Γ ms σ c
structure At(Γ:Gm)(ms:Str->Option Sh)(σ:Sg)(c:Cf):Prop extends Hp Γ.w Γ.fr Γ.F Γ.g σ c where
 ok:GmOk Γ
 fr:Fm Γ ms σ c
 offL:∀l,σ l≠none->c.ρ l≠Γ.L/\¬Γ.fr (c.ρ l)
 cel:∀x a,Γ.env.cells.lookup x=some a->(∃v,c.h.IsCell a v/\∀sh,ms x=some sh->∃u,v=some u/\Is σ c sh u)/\(a≠Γ.L/\Γ.g.get? a=none)/\∀l,σ l≠none->c.ρ l≠a
 prot:∀l,Γ.P l->σ l≠none
theorem At.g0{Γ:Gm}(a:At Γ ms σ c):∀b o,Γ.g0.get? b=some o->c.h.get? b=some o:=fun b o e=>(a.keep b o (a.ok.sub b o e)).ex fun f=>a.ok.nfr b o e f.1
structure Cy(w:World)(A:Ez)(base:Heap)(outer:List Env)(g:Heap)(mg mb:Str->Option Value)(n:Nat):Prop where
 B:Below A base outer g
 fd:∀b,frs outer b->∃o es n,g.get? b=some o/\o.data = .dict es n
 X:(Mine.hd.heap_1 w.params).In base
 T:Nf q0 iJ mg mb base
 hd:A.depth+n<Ij
 hu:A.units+8*n<cLine
 hh:A.handled=none
theorem qU{l:List Env}(f:h.FunFrames base l){b:Addr}{o:Obj}(e:base.get? b=some o):¬frs l b:=fun hm=>by
 have:=(f.mem hm).1;rw[e] at this;cases this
theorem Cy.low(C:Cy w A base outer g mg mb n)(H:Hp w (frs outer) F g σ c):∀b o,base.get? b=some o->c.h.get? b=some o:=
 fun b o e=>(H.keep b o (C.B.stays b o e)).ex (qU C.B.frames e)
noncomputable abbrev M(Γ:Gm):Model:=model PW Γ.w
structure EG{α:Type}(Γ:Gm)(ms:Str->Option Sh)(σ:Sg)(t:Sem α)(R:Cf->α->Prop)(σ':Sg):Prop where
 dom:Dom σ σ'
 run:∀(c:Cf) (s:Ai) (Q:α->Ai->Prop) (E:Value->Ai->Prop),At Γ ms σ c->s.heap=c.h->
  (∀v c' tk,R c' v->At Γ ms σ' c'->Step (Mine.dom σ) c c'->Q v {s with heap:=c'.h,toks:=tk})->wpN (M Γ) Γ.Ad t Q E s
theorem EG.bind{α β:Type}{Γ:Gm}{t:Sem α}{R:Cf->α->Prop}{k:α->Sem β}{Q:β->Ai->Prop}(h:EG Γ ms σ t R σ')(a:At Γ ms σ c)(hs:s.heap=c.h)
  (q:∀v c' tk,R c' v->At Γ ms σ' c'->Step (Mine.dom σ) c c'->wpN (M Γ) Γ.Ad (k v) Q E {s with heap:=c'.h,toks:=tk}):wpN (M Γ) Γ.Ad (t >>= k) Q E s:=aE (h.run c s _ E a hs q)
theorem EG.hold{α β:Type}{Γ:Gm}{t:Sem α}{R:Cf->α->Prop}{k:α->Sem β}{Q:β->Ai->Prop}(h:EG Γ ms σ t R σ')(a:At Γ ms σ c)(hs:s.heap=c.h)
  (q:∀v c' tk,R c' v->At Γ ms σ' c'->Step (Mine.dom σ) c c'->wpN (M Γ) Γ.Ad (k v) Q E {s with heap:=c'.h,toks:=tk}):wpN (M Γ) Γ.Ad (Dc vs t >>= k) Q E s:=aE (aF (h.run c s _ E a hs q))
noncomputable abbrev EV(Γ:Gm)(ms:Str->Option Sh)(σ:Sg)(t:Sem Value)(sh:Sh)(σ':Sg):Prop:=EG Γ ms σ t (fun c v=>Is σ' c sh v) σ'
noncomputable abbrev EB(Γ:Gm)(ms:Str->Option Sh)(σ:Sg)(t:Sem Bool)(b:Bool)(σ':Sg):Prop:=EG Γ ms σ t (fun _ v=>v=b) σ'
noncomputable abbrev EL(Γ:Gm)(ms:Str->Option Sh)(σ:Sg)(t:Sem (List Value))(l:List Sh)(σ':Sg):Prop:=EG Γ ms σ t (fun c v=>IsAll σ' c l v) σ'
structure FN(w:World)(n:Nat)(f:Value)(args:List Sh)(σ:Sg)(sh:Sh)(σ':Sg):Prop where
 dom:Dom σ σ'
 run:∀(A:Ez) (base:Heap) (outer:List Env) (g:Heap) (mg mb:Str->Option Value) (c:Cf) (s:Ai) (vs:List Value) (R:Jy->Ai->Prop),
  Cy w A base outer g mg mb n->Hp w (frs outer) noF g σ c->s.heap=c.h->IsAll σ c args vs->
  (∀v c' tk,Is σ' c' sh v->Hp w (frs outer) noF g σ' c'->Step (Mine.dom σ) c c'->R (.ok (.ret v)) {s with heap:=c'.h,toks:=tk})->codeN (model PW w) A (.call f ⟨vs,[]⟩) R s
theorem At.addrs{Γ:Gm}(a:At Γ ms σ c):∃as:List Addr,(∀l,σ l≠none->c.ρ l∈as)/\∀b∈as,∃l,σ l≠none/\b=c.ρ l:=by
 obtain⟨ls,hls⟩:=a.fin;refine⟨(ls.filter fun l=>(σ l).isSome).map c.ρ,fun l h=>?_,fun b hb=>?_⟩
 ·exact Fs (Db.mpr ⟨hls l h,by cases e:σ l with|none=>exact absurd e h|some o=>rfl⟩)
 ·obtain⟨l,hl,rfl⟩:=Aq.mp hb;refine⟨l,fun e=>?_,rfl⟩;have:=(Db.mp hl).2;rw[e] at this;cases this
theorem At.give{Γ:Gm}(hF:∀l,¬Γ.F l)(a:At Γ ms σ c):∃g',(∀A' n,A'.frames=Γ.Ad.frames->A'.depth+n<=Γ.Ad.depth+Γ.n->A'.units+8*n<=Γ.Ad.units+8*Γ.n+4->A'.handled=none->Cy Γ.w A' Γ.base Γ.stk g' Γ.mg Γ.mb n)/\Hp Γ.w (frs Γ.stk) noF g' σ c/\
  (∀(σ':Sg) (c':Cf),Dom σ σ'->Hp Γ.w (frs Γ.stk) noF g' σ' c'->Step (Mine.dom σ) c c'->At Γ ms σ' c')/\∀b,g'.get? b=none->Γ.g.get? b=none/\b≠Γ.L/\∀x a,Γ.env.cells.lookup x=some a->a≠b:=by
 refine bc fun nq=>?_;obtain⟨as,has,has'⟩:=a.addrs;obtain⟨m,F,hm⟩:=a.fr;have G:=a.ok;have nm:∀b o,Γ.g.get? b=some o->b∉as:=fun b o e z=>by
  obtain⟨l,hl,rfl⟩:=has' b z
  cases q:σ l with
  |none=>exact hl q
  |some ob=>obtain⟨_,_,_,h3,_⟩:=a.ob l ob q;have h3:=h3.resolve_right (hF l);rw[e] at h3;cases h3
 have st:∀b o,Γ.g.get? b=some o->Kept Γ.fr b o (Es c.h as):=fun b o e=>(F.keep b o e).go fun o' e'=>Dl _ e' (nm b o e);obtain⟨oL,es,ep,hL,hLd,hLk,hLf⟩:=F.ns;have nL:Γ.L∉as:=fun z=>by
  obtain⟨l,hl,e⟩:=has' _ z;exact(a.offL l hl).1 e.symm
 have B₂:Below Γ.Ad Γ.base Γ.stk (Es c.h as):=G.B (Es c.h as) m st ⟨oL,es,ep,Dl _ hL nL,hLd,hLk,hLf⟩;have fd:∀b,frs Γ.stk b->∃o es n,(Es c.h as).get? b=some o/\o.data = .dict es n:=fun b f=>by
  by_cases q:b=Γ.L
  ·exact⟨oL,es,ep,q▸Dl _ hL nL,hLd⟩
  ·refine bc fun nq=>?_;obtain⟨o,es',n',e,d⟩:=G.frg b ⟨f,q⟩;obtain⟨o',e',d'⟩:=(st b o e).at;refine nq ?_;exact⟨o',es',n',e',d'.trans d⟩
 refine nq ?_;refine⟨Es c.h as,fun A' n hfr hdp hun hh=>⟨⟨hfr.trans B₂.stack,B₂.stays,B₂.frames⟩,fd,G.XB,G.TB,by have:=G.hd;exact Bf hdp this,by have:=G.hu;exact Bf hun (Bf on2 this),hh⟩,
  ⟨fun l o e=>?_,a.inj,a.fin,fun b o e=>.inl (Ie _ e)⟩,fun σ' c' D H' S'=>?_,fun b e=>⟨?_,fun q=>?_,fun x y hy q=>?_⟩⟩
 rotate_left 2
 ·cases q:Γ.g.get? b with
  |none=>rfl
  |some o=>
   obtain⟨_,e',_⟩:=(st _ _ q).at;rw[e] at e';cases e'
 ·rw[q,Dl _ hL nL] at e;cases e
 ·refine bc fun nq=>?_;obtain⟨⟨u,⟨oc,ho,_⟩,_⟩,_,h3⟩:=a.cel x y hy;refine nq ?_;rw[<-q,Dl _ ho fun z=>by
   obtain⟨l,hl,e2⟩:=has' _ z;exact h3 l hl e2.symm] at e
  cases e
 ·obtain⟨x,h1,h2,_,h4⟩:=a.ob l o e;exact⟨x,h1,h2,.inl (Er _ (has l (by rw[e];exact fun z=>by cases z))),h4⟩
 ·have kp:∀b o,c.h.get? b=some o->b∉as->Kept (frs Γ.stk) b o c'.h:=fun b o e z=>H'.keep b o (Dl _ e z);have new:∀l o,σ' l=some o->∀b ob,b∉as->c.h.get? b=some ob->c'.ρ l≠b:=fun l o e b ob hb hob q=>by
   obtain⟨_,_,_,h3,_⟩:=H'.ob l o e;have h3:=h3.resolve_right id;rw[q,Dl _ hob hb] at h3;cases h3
  have FL:Fw Γ.fr Γ.g Γ.L c'.h m:=⟨Kept.ns (h0:=c.h) ⟨oL,es,ep,hL,hLd,hLk,hLf⟩ fun o e=>kp _ o e nL,(fun b o e=>(F.keep b o e).trans fun o' e'=>(kp b o' e' (nm b o e)).imp fun f=>⟨f,fun q=>by rw[q,F.off] at e;cases e⟩:∀b o,Γ.g.get? b=some o->Kept Γ.fr b o c'.h),F.off⟩;refine⟨⟨fun l o e=>?_,H'.inj,H'.fin,FL.keep⟩,G,⟨m,FL,fun x sh hk hx=>?_⟩,fun l hl=>?_,fun x b hb=>?_,fun l hl=>D l (a.prot l hl)⟩
  ·obtain⟨x,h1,h2,h3,h4⟩:=H'.ob l o e;have h3:=h3.resolve_right id;refine⟨x,h1,h2,.inl ?_,h4⟩
   cases q:Γ.g.get? (c'.ρ l) with
   |none=>rfl
   |some ob=>
    obtain⟨_,e',_⟩:=(st _ _ q).at;rw[e'] at h3;cases h3
  ·obtain⟨v,h1,h2⟩:=hm x sh hk hx;exact⟨v,h1,h2.mono D S'⟩
  ·cases q:σ' l with
   |none=>exact absurd q hl
   |some o=>
    refine⟨new l o q _ _ nL hL,fun f=>?_⟩;obtain⟨ob,_,_,e,_⟩:=G.frg _ f;obtain⟨o',e',_⟩:=(F.keep _ _ e).at;exact new l o q _ _ (nm _ _ e) e' rfl
  ·refine bc fun nq=>?_;obtain⟨⟨u,hc,hu⟩,h2,h3⟩:=a.cel x b hb;have nb:b∉as:=fun z=>by
    obtain⟨l,hl,e⟩:=has' _ z;exact h3 l hl e.symm
   obtain⟨oc,ho,hdc⟩:=hc;have nf:¬frs Γ.stk b:=fun f=>G.nofr h2.2 ⟨f,h2.1⟩;refine nq ?_;refine⟨⟨u,⟨oc,(kp _ _ ho nb).ex nf,hdc⟩,fun sh hx=>?_⟩,h2,fun l hl=>?_⟩
   ·obtain⟨y,e,hy⟩:=hu sh hx;exact⟨y,e,hy.mono D S'⟩
   ·cases q:σ' l with
    |none=>exact absurd q hl
    |some o=>exact new l o q _ _ nb ho
theorem vM{Γ:Gm}(A':Ez)(S:FN Γ.w n f args σ sh σ')(hF:∀l,¬Γ.F l)
  (hfr:A'.frames=Γ.Ad.frames)(hdp:A'.depth+n<=Γ.Ad.depth+Γ.n)(hun:A'.units+8*n<=Γ.Ad.units+8*Γ.n+4)(hh:A'.handled=none)(a:At Γ ms σ c)(hs:s.heap=c.h)(hv:IsAll σ c args vs)
  (q:∀v c' tk,Is σ' c' sh v->At Γ ms σ' c'->Step (Mine.dom σ) c c'->R (.ok (.ret v)) {s with heap:=c'.h,toks:=tk}):codeN (M Γ) A' (.call f ⟨vs,[]⟩) R s:=by
 obtain⟨g',C,H,back,_⟩:=a.give hF;exact S.run _ _ _ g' Γ.mg Γ.mb c s vs _ (C A' n hfr hdp hun hh) H hs hv fun v c' tk hv' H' S'=>q v c' tk hv' (back σ' c' S.dom H' S') S'
theorem aNi{Γ:Gm}(S:FN Γ.w n f args σ sh σ')(hn:n<=Γ.n)(hF:∀l,¬Γ.F l)
  (a:At Γ ms σ c)(hs:s.heap=c.h)(hv:IsAll σ c args vs)
  (q:∀v c' tk,Is σ' c' sh v->At Γ ms σ' c'->Step (Mine.dom σ) c c'->Q v {s with heap:=c'.h,toks:=tk}):wpN (M Γ) Γ.Ad (call f vs []) Q E s:=
 cJ (vM Γ.Ad S hF rfl (by exact z8 hn) (by exact z9 hn) a.ok.hh a hs hv q)
variable{Γ:Mine.Gm}
set_option genInjectivity true in
inductive Fl where
 |next|ret (x:Sh)|brk
inductive FlIs(σ:Sg)(c:Cf):Fl->Flow->Prop
 |next:FlIs σ c .next .next
 |brk:FlIs σ c .brk .brk
 |ret (x:Sh) (v:Value):Is σ c x v->FlIs σ c (.ret x) (.ret v)
structure SS(Γ:Gm)(ms:Str->Option Sh)(σ:Sg)(t:Sem Flow)(fl:Fl)(ms':Str->Option Sh)(σ':Sg):Prop where
 run:∀(c:Cf) (s:Ai) (Q:Flow->Ai->Prop) (E:Value->Ai->Prop),At Γ ms σ c->s.heap=c.h->
  (∀f c' tk,FlIs σ' c' fl f->At Γ ms' σ' c'->Step Γ.P c c'->Q f {s with heap:=c'.h,toks:=tk})->wpN (M Γ) Γ.Ad t Q E s
theorem SS.bind{β:Type}{ms':Str->Option Sh}{t:Sem Flow}{fl:Fl}{k:Flow->Sem β}{c:Cf}{Q:β->Ai->Prop}(h:SS Γ ms σ t fl ms' σ')(a:At Γ ms σ c)(hs:s.heap=c.h)
  (q:∀f c' tk,FlIs σ' c' fl f->At Γ ms' σ' c'->Step Γ.P c c'->wpN (M Γ) Γ.Ad (k f) Q E {s with heap:=c'.h,toks:=tk}):wpN (M Γ) Γ.Ad (t >>= k) Q E s:=aE (h.run c s _ E a hs q)
noncomputable def aCq:Fl->Sh
 | .ret x=>x
 |_=>.none
noncomputable def aOn(f:Flow):Value:=match f with| .ret v=>v|_=>.none
theorem FlIs.val{c:Cf}{fl:Fl}{f:Flow}(h:FlIs σ c fl f):Is σ c (aCq fl) (aOn f):=by
 cases h with
 |next=>exact .none
 |brk=>exact .none
 |ret x v h=>exact h
theorem FlIs.next_inv{c:Cf}{f:Flow}(h:FlIs σ c .next f):f = .next:=by cases h;rfl
theorem FlIs.brk_inv{c:Cf}{f:Flow}(h:FlIs σ c .brk f):f = .brk:=by cases h;rfl
theorem FlIs.ret_inv{c:Cf}{x:Sh}{f:Flow}(h:FlIs σ c (.ret x) f):∃v,f = .ret v/\Is σ c x v:=by cases h;exact⟨_,rfl,‹_›⟩
theorem fin{α:Type}{h:Heap}{Q:α->Ai->Prop}{v:α}{tk:Nat}(hs:s.heap=h)(q:Q v {s with heap:=h,toks:=tk}):Q v {s with toks:=tk}:=by subst hs;exact q
theorem aWj{P:List Value->Prop}(h:P [])(vs:List Value)(e:vs.length=0):P vs:=Ke.mp e▸h
theorem aEt{P:List Value->Prop}(h:∀a (r:List Value),r.length=n->P (a::r)):∀vs:List Value,vs.length=n+1->P vs
 |a::r,e=>h a r (Lo e)
theorem eA{P:List Value->Prop}(h:∀a,P [a]):∀vs:List Value,vs.length=1->P vs:=aEt fun a=>aWj (P:=fun r=>P (a::r)) (h a)
theorem cF{P:List Value->Prop}(h:∀a b,P [a,b]):∀vs:List Value,vs.length=2->P vs:=aEt fun a=>eA (P:=fun r=>P (a::r)) (h a)
theorem qM{P:List Value->Prop}(h:∀a b c,P [a,b,c]):∀vs:List Value,vs.length=3->P vs:=aEt fun a=>cF (P:=fun r=>P (a::r)) (h a)
theorem aEu{P:List Value->Prop}(h:∀a b c d,P [a,b,c,d]):∀vs:List Value,vs.length=4->P vs:=aEt fun a=>qM (P:=fun r=>P (a::r)) (h a)
theorem sT{P:List Value->Prop}(h:∀a b c d e,P [a,b,c,d,e]):∀vs:List Value,vs.length=5->P vs:=aEt fun a=>aEu (P:=fun r=>P (a::r)) (h a)
theorem aAh{P:List Value->Prop}(h:∀a b c d e f,P [a,b,c,d,e,f]):∀vs:List Value,vs.length=6->P vs:=aEt fun a=>sT (P:=fun r=>P (a::r)) (h a)
theorem Hp.mono{fr:Addr->Prop}{g:Heap}{c:Cf}{h:Heap}(H:Hp w fr F g σ c)(k:∀b o,c.h.get? b=some o->h.get? b=some o):Hp w fr F g σ ⟨c.ρ,h⟩/\Step (dom σ) c ⟨c.ρ,h⟩:=by
 have S:Step (dom σ) c ⟨c.ρ,h⟩:=⟨fun _ _=>rfl,fun a vs e=>k _ _ e⟩;refine⟨⟨fun l o e=>?_,H.inj,H.fin,fun b o e=>(H.keep b o e).go fun o'=>k _ o'⟩,S⟩;obtain⟨x,h1,h2,h3,h4⟩:=H.ob l o e;exact⟨x,k _ _ h1,h2.mono (Dom.refl _) S,h3,h4⟩
theorem KAll.append{c:Cf}{K:Type}{l l':List (K×Sh)}{v v':List (K×Value)}(h:KAll σ c l v)(h':KAll σ c l' v'):KAll σ c (l++l') (v++v'):=by
 induction h with
 |nil=>exact h'
 |cons a _ ih=>exact .cons a ih
theorem KAll.reverse{c:Cf}{K:Type}{l:List (K×Sh)}{v:List (K×Value)}(h:KAll σ c l v):KAll σ c l.reverse v.reverse:=by
 induction h with
 |nil=>exact .nil
 |cons a _ ih=>rw[Hz,Hz];exact ih.append (.cons a .nil)
theorem KAll.lookup{c:Cf}{K:Type}[BEq K]{l:List (K×Sh)}{v:List (K×Value)}(h:KAll σ c l v){x:K}(e:l.lookup x=some sh):∃u,v.lookup x=some u/\Is σ c sh u:=by
 induction h with
 |nil=>cases e
 | @cons k y u l vs a _ ih=>
  cases q:x==k with
  |true=>rw[Bj,q] at e ⊢;obtain rfl:=Cw e;exact⟨u,rfl,a⟩
  |false=>rw[Bj,q] at e ⊢;exact ih e
theorem IsAll.ind{c:Cf}{P:List Sh->List Value->Prop}(h0:P [] [])(h1:∀{x v l vs},Is σ c x v->IsAll σ c l vs->P l vs->P (x::l) (v::vs)):∀{vs:List Value},IsAll σ c args vs->P args vs:=by
 induction args with
 |nil=>intro vs h;obtain rfl:=h.nil_inv;exact h0
 |cons x l ih=>intro vs h;obtain⟨v,r,rfl,a,b⟩:=h.cons_inv;exact h1 a b (ih b)
theorem IsAll.zip{c:Cf}{K:Type}{names:List K}(h:IsAll σ c args vs):KAll σ c (names.zip args) (names.zip vs):=
 h.ind (P:=fun args vs=>∀{names:List K},KAll σ c (names.zip args) (names.zip vs)) (by intro n;rw[Ls,Ls];exact .nil) (fun a _ ih=>by
  intro n
  cases n with
  |nil=>exact .nil
  |cons _ _=>exact .cons a ih)
theorem IsAll.length{c:Cf}(h:IsAll σ c args vs):vs.length=args.length:=h.ind (P:=fun a v=>v.length=a.length) rfl fun _ _ e=>congrArg (· + 1) e
noncomputable def mL(l:List (Str×Sh)):Str->Option Sh:=fun y=>l.lookup y
theorem fV{v:Sh}{l:List (Str×Sh)}:mL ((x,v)::l) x=some v:=by unfold mL;rw[Bj,beq_self_eq_true]
theorem aCn{y:Str}{v:Sh}{l:List (Str×Sh)}{r:Option Sh}(h:(x==y)=false)(h2:mL l x=r):mL ((y,v)::l) x=r:=by unfold mL at *;rw[Bj,h];exact h2
noncomputable def nq(n:Nat)(L:List (Str×Sh))(x:Str):Bool:=(L.take n).all fun p=>!(x==p.1)
theorem oA(n:Nat):∀{L:List (Str×Sh)},nq n L x=true->mL L x=mL (L.drop n) x:=by
 induction n with
 |zero=>exact fun _=>rfl
 |succ n ih=>
  intro L h
  cases L with
  |nil=>rfl
  |cons p L=>
   obtain⟨h1,h2⟩:=Bb.mp (show(!(x==p.1)&&nq n L x)=true from h)
   exact aCn (Gq _▸h1) (ih h2)
section
variable{v:Sh}{l:List (Str×Sh)}{a b c d e f g h i:Str×Sh}
theorem aWi(q:nq 1 (a::(x,v)::l) x=true):mL (a::(x,v)::l) x=some v:=(oA 1 q).trans fV
theorem aWh(q:nq 2 (a::b::(x,v)::l) x=true):mL (a::b::(x,v)::l) x=some v:=(oA 2 q).trans fV
theorem aWg(q:nq 3 (a::b::c::(x,v)::l) x=true):mL (a::b::c::(x,v)::l) x=some v:=(oA 3 q).trans fV
theorem aWf(q:nq 4 (a::b::c::d::(x,v)::l) x=true):mL (a::b::c::d::(x,v)::l) x=some v:=(oA 4 q).trans fV
theorem aWe(q:nq 5 (a::b::c::d::e::(x,v)::l) x=true):mL (a::b::c::d::e::(x,v)::l) x=some v:=(oA 5 q).trans fV
theorem aWd(q:nq 6 (a::b::c::d::e::f::(x,v)::l) x=true):mL (a::b::c::d::e::f::(x,v)::l) x=some v:=(oA 6 q).trans fV
theorem aWc(q:nq 7 (a::b::c::d::e::f::g::(x,v)::l) x=true):mL (a::b::c::d::e::f::g::(x,v)::l) x=some v:=(oA 7 q).trans fV
theorem aWb(q:nq 8 (a::b::c::d::e::f::g::h::(x,v)::l) x=true):mL (a::b::c::d::e::f::g::h::(x,v)::l) x=some v:=(oA 8 q).trans fV
end
theorem aIc{g:Heap}{c:Cf}{P:Lbl->Prop}(C:Cy w A base outer g mg mb (n+1))(H:Hp w (frs outer) F g σ c)(hL:L=c.h.objs.size)(hf:env.frame=some L)(hl:env.locals=L)
  (hg:env.globals=mainGlobals)(hb:env.builtins=builtinsNs)(hk:env.scope.kind = .function)(ci:∀x y b,cl.lookup x=some b->cl.lookup y=some b->x=y):
  GmOk ⟨w,A.deeper env,base,env::outer,g,eH base L,mg,mb,n,L,{env with cells:=cl},P,noF⟩:=by
 have lt:∀b o,base.get? b=some o->b<L:=fun b o e=>hL▸Aw ((C.low H) b o e);have cut:=aPs (g:=base) (n:=L) lt;have gnone:g.get? L=none:=H.none (De hL.symm);have bnone:base.get? L=none:=by
  cases e:base.get? L with
  |none=>rfl
  |some o=>exact absurd (lt _ _ e) (Ed _)
 have fcons:∀b,frs (env::outer) b->b=L\/frs outer b:=fun b hb=>by
  obtain⟨e,he,hfe⟩:=Ck.mp hb;rcases An.mp he with rfl|he
  ·rw[hf] at hfe;cases hfe;exact .inl rfl
  ·exact .inr (Ck.mpr ⟨e,he,hfe⟩)
 refine⟨fun h m hg hns=>⟨Ez.frames_deeper C.B.stack,fun b o e=>(hg b o (C.B.stays b o e)).ex fun f=>?_,.cons (by rw[hk];decide) hf hns bnone (C.B.frames.of_keeps fun b o e _=>(hg b o e).at)⟩,C.X,C.T,C.X.keeps cut.1,C.T.keeps cut.1,fun b o e=>C.B.stays b o (cut.2 b o e),fun b o e f=>?_,fun b f=>?_,rD _ _,?_,?_,C.hh,hk,hl,hg,hb,ci⟩
 ·rcases fcons b f.1 with q|q
  ·exact f.2 q
  ·exact qU C.B.frames e q
 ·have e:=cut.2 b o e;rcases fcons b f with q|q
  ·rw[q,bnone] at e;cases e
  ·exact qU C.B.frames e q
 ·rcases fcons b f.1 with q|q
  ·exact absurd q f.2
  ·exact(C.fd) b q
 ·have:=C.hd;show A.depth+1+n<_;exact z1 this
 ·have:=C.hu;show A.units+3+8*n+5<_;exact z2 this
theorem aRl{g g0:Heap}{P:Lbl->Prop}(hf:env.frame=some L){b:Addr}(h:Gm.fr ⟨w,A,base,env::outer,g,g0,mg,mb,n,L,env,P,F⟩ b):frs outer b:=by
 obtain⟨hb,ne⟩:=h;obtain⟨e,he,hfe⟩:=Ck.mp hb;rcases An.mp he with rfl|he
 ·rw[hf] at hfe;cases hfe;exact absurd rfl ne
 ·exact Ck.mpr ⟨e,he,hfe⟩
theorem aRm{g g0:Heap}{P:Lbl->Prop}(hL:g.get? L=none){b:Addr}{o:Obj}(e:g.get? b=some o)(h:frs outer b):Gm.fr ⟨w,A,base,env::outer,g,g0,mg,mb,n,L,env,P,F⟩ b:=
 ⟨by
  obtain⟨x,hx,hfx⟩:=Ck.mp h;exact Ck.mpr ⟨x,.tail _ hx,hfx⟩,fun q=>by
  have q:b=L:=q;rw[q,hL] at e;cases e⟩
theorem Hp.inGm{g g0:Heap}{P:Lbl->Prop}{c:Cf}(H:Hp w (frs outer) F' g σ c)(hL:g.get? L=Mg):Hp w (Gm.fr ⟨w,A,base,env::outer,g,g0,mg,mb,n,L,env,P,F⟩) F' g σ c:=
 ⟨H.ob,H.inj,H.fin,fun b o e=>(H.keep b o e).imp fun f=>aRm hL e f⟩
theorem Hp.outGm{g g0:Heap}{P:Lbl->Prop}{c:Cf}(hf:env.frame=some L)(H:Hp w (Gm.fr ⟨w,A,base,env::outer,g,g0,mg,mb,n,L,env,P,F⟩) F' g σ c):Hp w (frs outer) F' g σ c:=
 ⟨H.ob,H.inj,H.fin,fun b o e=>(H.keep b o e).imp (aRl hf)⟩
theorem sM{g:Heap}{c:Cf}{h₁:Heap}(C:Cy w A base outer g mg mb (n+1))(H:Hp w (frs outer) noF g σ c)(hL:L=c.h.objs.size)(hf:env.frame=some L)(hl:env.locals=L)
  (hg:env.globals=mainGlobals)(hb:env.builtins=builtinsNs)(hk:env.scope.kind = .function)(ci:∀x y b,cl.lookup x=some b->cl.lookup y=some b->x=y)(kp:∀b o,c.h.get? b=some o->h₁.get? b=some o)(ns:h₁.Ns L m)
  (hm:∀x sh,env.kindOf x=some .local->ms x=some sh->∃v,m x=some v/\Is σ ⟨c.ρ,h₁⟩ sh v)
  (hc:∀y a,cl.lookup y=some a->(∃v,h₁.IsCell a v/\∀sh,ms y=some sh->∃u,v=some u/\Is σ ⟨c.ρ,h₁⟩ sh u)/\L<a):
  At ⟨w,A.deeper env,base,env::outer,g,eH base L,mg,mb,n,L,{env with cells:=cl},dom σ,noF⟩ ms σ ⟨c.ρ,h₁⟩:=by
 have G:=aIc (P:=dom σ) (cl:=cl) C H hL hf hl hg hb hk ci;have gn:∀a,L<=a->g.get? a=none:=fun a ha=>H.none (hL▸ha);have low:∀l,σ l≠none->c.ρ l<L/\g.get? (c.ρ l)=none:=fun l h=>by
  cases e:σ l with
  |none=>exact absurd e h
  |some o=>
   obtain⟨x,h1,_,h3,_⟩:=H.ob l o e;exact⟨hL▸Aw h1,h3.resolve_right id⟩
 have H₁:=((H.inGm (A:=A.deeper env) (base:=base) (g0:=eH base L) (mg:=mg) (mb:=mb) (n:=n) (env:=env) (P:=dom σ) (F:=noF) (gn L (Bs _))).mono kp).1;exact⟨H₁,G,⟨m,⟨ns,H₁.keep,gn L (Bs _)⟩,hm⟩,fun l h=>⟨Bn (low l h).1,G.nofr (low l h).2⟩,fun y a hy=>⟨(hc y a hy).1,⟨Da (hc y a hy).2,gn a (Ef (hc y a hy).2)⟩,fun l h=>Bn (Ee (low l h).1 (hc y a hy).2)⟩,fun l p=>p⟩
noncomputable def yH(sc:Scope)(names:List Str):Bool:=!sc.isCoroutine && !sc.isGenerator&&decide (sc.kind = .function)&&names.all (fun y=>decide (sc.names.lookup y=some .local))&&sc.names.all fun x=>decide (x.2≠.cell)
structure FnOk(sc:Scope)(names:List Str):Prop where
 co:sc.isCoroutine=false
 gen:sc.isGenerator=false
 k:sc.kind = .function
 loc:∀y∈names,sc.names.lookup y=some .local
 cell:∀x∈sc.names,x.2≠.cell
theorem aIg{names:List Str}(h:yH sc names=true):FnOk sc names:=by
 obtain⟨h,h5⟩:=Bb.mp h;obtain⟨h,h4⟩:=Bb.mp h;obtain⟨h,h3⟩:=Bb.mp h;obtain⟨h1,h2⟩:=Bb.mp h;exact⟨by simpa using h1,by simpa using h2,of_decide_eq_true h3,fun y hy=>of_decide_eq_true (Ha.mp h4 y hy),fun x hx=>of_decide_eq_true (Ha.mp h5 x hx)⟩
theorem IsAll.app{c:Cf}{l l':List Sh}{v v':List Value}(h:IsAll σ c l v)(h':IsAll σ c l' v'):IsAll σ c (l++l') (v++v'):=h.ind (P:=fun l v=>IsAll σ c (l++l') (v++v')) h' fun a _ ih=>.cons a ih
section
variable{name:Str}{an od:Option Addr}{osl:Array (Option Value)}{f:Addr}{names:List Str}
theorem aDk{ms:List (Str×Sh)}{g:Heap}{c:Cf}
  (ho:(Mine.hd.heap_1 w.params).lookup f=some ⟨oc,od,.func (fnOf name qual params body scope dV kV doc pm an cdv ct),osl⟩)(hcd:Ms (Mine.hd.heap_1 w.params) cdv qual=true)
  (hms:(names.zip (args++dsh)).reverse=ms)(hdv:∀(σ:Sg) (c:Cf),IsAll σ c dsh dv)
  (hbind:∀(s:Ai) (vs:List Value),(Mine.hd.heap_1 w.params).In s.heap->vs.length=args.length->Ll s (fnOf name qual params body scope dV kV doc pm an cdv ct) ⟨vs,[]⟩ (names.zip (vs++dv)))
  (C:Cy w A base outer g mg mb (n+1))(H:Hp w (frs outer) noF g σ c)(hs:s.heap=c.h)(hv:IsAll σ c args vs)(ok:yH scope names=true)
  (h:∀L c1 tk,At ⟨w,A.deeper (envOf qual scope L f cdv),base,envOf qual scope L f cdv::outer,g,eH base L,mg,mb,n,L,envOf qual scope L f cdv,dom σ,noF⟩ (mL ms) σ c1->Step (dom σ) c c1->
   wpN (model PW w) (A.deeper (envOf qual scope L f cdv)) (execs body (envOf qual scope L f cdv)) (fun fl s'=>R (.ok (.ret (aOn fl))) s')
    (fun e s'=>wpAny (model PW w) (A.deeper (envOf qual scope L f cdv)) (Lz (envOf qual scope L f cdv) e) (fun _ s''=>R (.error e) s'') (fun e' s''=>R (.error e') s'') s') {s with heap:=c1.h,toks:=tk}):codeN (model PW w) A (.call (.ref f) ⟨vs,[]⟩) R s:=by
 have o:=aIg ok;have kp:∀b o,base.get? b=some o->s.heap.get? b=some o:=fun b o e=>hs▸C.low H b o e;refine kA (fd:=fnOf name qual params body scope dV kV doc pm an cdv ct) (by have:=C.hd;omega) (C.X.keeps kp _ _ ho) rfl o.co o.gen rfl (codeRec_of (C.X.keeps kp) hcd) (hbind s vs (C.X.keeps kp) hv.length _ _ _ _ ?_);refine Lv o.cell (fun y hy=>o.loc y.1 (List.of_mem_zip hy).1) (fun h₁ hns hsb=>⟨(C.T.nolimit.keeps kp).fresh _ hsb,rG ?_⟩) o.k;have hk₁:∀b o,c.h.get? b=some o->h₁.get? b=some o:=fun b o e=>hsb.extBut b o (Bn (by rw[hs];exact Aw e)) (Ae _ (hs▸e));have S₁:Step (dom σ) c ⟨c.ρ,h₁⟩:=⟨fun _ _=>rfl,fun _ _ e=>hk₁ _ _ e⟩;refine h s.heap.objs.size ⟨c.ρ,h₁⟩ _ (sM (env:=envOf qual scope s.heap.objs.size f cdv) (cl:=[]) C H (by rw[hs]) rfl rfl rfl rfl o.k (fun _ _ _ e=>by cases e) hk₁ hns (fun x sh _ e=>?_) fun _ _ e=>by cases e) S₁;subst hms;exact((hv.mono (Dom.refl _) S₁).app (hdv _ _)).zip.reverse.lookup e
theorem aDj{x:Sh}{ms:List (Str×Sh)}(D:Dom σ σ')
  (ho:(Mine.hd.heap_1 w.params).lookup f=some ⟨oc,od,.func (fnOf name qual params body scope dV kV doc pm an cdv ct),osl⟩)(hcd:Ms (Mine.hd.heap_1 w.params) cdv qual=true)
  (hms:(names.zip (args++dsh)).reverse=ms)(hdv:∀(σ:Sg) (c:Cf),IsAll σ c dsh dv)
  (hbind:∀(s:Ai) (vs:List Value),(Mine.hd.heap_1 w.params).In s.heap->vs.length=args.length->Ll s (fnOf name qual params body scope dV kV doc pm an cdv ct) ⟨vs,[]⟩ (names.zip (vs++dv)))
  (h:∀(A:Ez) (base:Heap) (outer:List Env) (g:Heap) (mg mb:Str->Option Value) (L:Addr),∃ms' fl,aCq fl=x/\SS ⟨w,A.deeper (envOf qual scope L f cdv),base,envOf qual scope L f cdv::outer,g,eH base L,mg,mb,n,L,envOf qual scope L f cdv,dom σ,noF⟩ (mL ms) σ (execs body (envOf qual scope L f cdv)) fl ms' σ')
  (ok:yH scope names=true:=by exact Eo true):FN w (n+1) (.ref f) args σ x σ':=
 ⟨D,fun A base outer g mg mb c s vs R C H hs hv q=>aDk ho hcd hms hdv hbind C H hs hv ok (fun L c1 tk a S=>by
  refine bc fun nq=>?_;obtain⟨ms',fl,ex,hb⟩:=h A base outer g mg mb L;subst ex;refine nq ?_;exact hb.run c1 _ _ _ a rfl fun f' c' tk' hf a' S'=>q _ c' tk' hf.val (a'.toHp.outGm rfl) (S.trans S'))⟩
theorem aBp{fl:Fl}{ms:List (Str×Sh)}(D:Dom σ σ')
  (ho:(Mine.hd.heap_1 w.params).lookup f=some ⟨oc,od,.func (fnOf name qual params body scope dV kV doc pm an cdv ct),osl⟩)(hcd:Ms (Mine.hd.heap_1 w.params) cdv qual=true)
  (hms:(names.zip args).reverse=ms)
  (hbind:∀(s:Ai) (vs:List Value),(Mine.hd.heap_1 w.params).In s.heap->vs.length=args.length->Ll s (fnOf name qual params body scope dV kV doc pm an cdv ct) ⟨vs,[]⟩ (names.zip vs))
  (h:∀(A:Ez) (base:Heap) (outer:List Env) (g:Heap) (mg mb:Str->Option Value) (L:Addr),∃ms',SS ⟨w,A.deeper (envOf qual scope L f cdv),base,envOf qual scope L f cdv::outer,g,eH base L,mg,mb,n,L,envOf qual scope L f cdv,dom σ,noF⟩ (mL ms) σ (execs body (envOf qual scope L f cdv)) fl ms' σ')
  (ok:yH scope names=true):FN w (n+1) (.ref f) args σ (aCq fl) σ':=
 aDj (dsh:=[]) (dv:=[]) D ho hcd (by rw[Et];exact hms) (fun _ _=>.nil) (fun s vs X e=>by rw[Et];exact hbind s vs X e) (fun A base outer g mg mb L=>(h A base outer g mg mb L).elim fun ms' h=>⟨ms',fl,rfl,h⟩) ok
theorem aS{x:Sh}(D:Dom σ σ')
  (ho:(Mine.hd.heap_1 w.params).lookup f=some ⟨oc,od,.func (fnOf name qual params body scope dV kV doc pm an cdv ct),osl⟩)(hcd:Ms (Mine.hd.heap_1 w.params) cdv qual=true)
  (names:List Str)(ms:List (Str×Sh))(hms:(names.zip args).reverse=ms)
  (hbind:∀s vs,vs.length=args.length->Ll s (fnOf name qual params body scope dV kV doc pm an cdv ct) ⟨vs,[]⟩ (names.zip vs))
  (h:∀(A:Ez) (base:Heap) (outer:List Env) (g:Heap) (mg mb:Str->Option Value) (L:Addr),∃ms',SS ⟨w,A.deeper (envOf qual scope L f cdv),base,envOf qual scope L f cdv::outer,g,eH base L,mg,mb,n,L,envOf qual scope L f cdv,dom σ,noF⟩ (mL ms) σ (execs body (envOf qual scope L f cdv)) (.ret x) ms' σ')
  (ok:yH scope names=true:=by exact Eo true):FN w (n+1) (.ref f) args σ x σ':=aBp (fl:=.ret x) D ho hcd hms (fun s vs _=>hbind s vs) h ok
theorem eQ{x:Sh}(D:Dom σ σ')
  (ho:(Mine.hd.heap_1 w.params).lookup f=some ⟨oc,od,.func (fnOf name qual params body scope dV kV doc pm an cdv ct),osl⟩)(hcd:Ms (Mine.hd.heap_1 w.params) cdv qual=true)
  (names:List Str)(ms:List (Str×Sh))(hms:(names.zip args).reverse=ms)
  (hbind:∀(s:Ai) (vs:List Value),(Mine.hd.heap_1 w.params).In s.heap->vs.length=args.length->Ll s (fnOf name qual params body scope dV kV doc pm an cdv ct) ⟨vs,[]⟩ (names.zip vs))
  (h:∀(A:Ez) (base:Heap) (outer:List Env) (g:Heap) (mg mb:Str->Option Value) (L:Addr),∃ms',SS ⟨w,A.deeper (envOf qual scope L f cdv),base,envOf qual scope L f cdv::outer,g,eH base L,mg,mb,n,L,envOf qual scope L f cdv,dom σ,noF⟩ (mL ms) σ (execs body (envOf qual scope L f cdv)) (.ret x) ms' σ')
  (ok:yH scope names=true:=by exact Eo true):FN w (n+1) (.ref f) args σ x σ':=aBp (fl:=.ret x) D ho hcd hms hbind h ok
end
end
section
variable{w:World}{Γ:Mine.Gm}{fl:Mine.Fl}{ms3 ms2:Str->Option Mine.Sh}{σ4 σ3 σ2:Mine.Sg}{ms:Str->Option Mine.Sh}{ml:List (Str×Mine.Sh)}{σ σ1 σ':Mine.Sg}{ms1:Str->Option Mine.Sh}{τ:Mine.Sg}{mc:List (Str×Mine.Sh)}{l d nc lT l':Mine.Lbl}{C L I t0 it cc fI ad:Addr}{env:Env}{a p flags most kw N vw num width:Int}{n i j ep:Nat}{c c':Mine.Cf}{b:List UInt8}{s:Ai}{vs ws dv:List Value}{A:Ez}{E Q:Value->Ai->Prop}{F D F' D':Mine.Lbl->Prop}{h g h' base g':Heap}{prog:Program}{sc scope s0:Scope}{R:Jy->Ai->Prop}{t:Tok}{ps kbs vals:List (Int×List UInt8)}{P:Jz}{mg mb m:Str->Option Value}{outer:List Env}{cl clos:List (Str×Addr)}{params:Arguments}{whole:Sem Value}{S:Addr->Prop}{B o':Mine.Ob}{v f dV kV doc pm cdv ct oc:Value}{sh y z u:Mine.Sh}{xs shs args ys dsh:List Mine.Sh}{body orelse:List Stmt}{rest es tgs:List Aj}{st:Stmt}{e o iter fe slice r test elt:Aj}{x qual q:Str}{pos apos px p1 p2 pos' spos p3 cpos pt:Pos}
theorem EG.look{α:Type}{t:Sem α}{R:Cf->α->Prop}(h:∀c s Q E,At Γ ms σ c->s.heap=c.h->(∀v tk,R c v->Q v {s with heap:=c.h,toks:=tk})->wpAny (M Γ) Γ.Ad t Q E s):EG Γ ms σ t R σ:=
 ⟨Dom.refl σ,fun c s Q E a hs q=>wpN.of (h c s Q E a hs fun v tk r=>q v c tk r a (Step.refl c))⟩
theorem Ai.same(e:s.heap=h):s={s with heap:=h}:=by subst e;rfl
noncomputable def aAc(e:Env)(x:Str)(k:Nh):Bool:=decide (e.kindOf x=some k) && !(x==("__debug__":Str))
theorem aHj{e:Env}{k:Nh}(h:aAc e x k=true):e.kindOf x=some k:=of_decide_eq_true (Bb.mp h).1
theorem aLs{e:Env}{k:Nh}(h:aAc e x k=true):(x==("__debug__":Str))=false:=Gq _▸(Bb.mp h).2
theorem aOa(hk:aAc Γ.env x .local=true)(hx:ms x=some sh):EV Γ ms σ (eval (.Name x pos) Γ.env) sh σ:=
 .look fun c s Q E a hs q=>by
  obtain⟨m,F,hm⟩:=a.fr;obtain⟨v,hv,hi⟩:=hm x sh (aHj hk) hx;refine wpAny_Name (wpAny_loadName_local a.ok.ek (aHj hk) (by rw[a.ok.el,hs];exact F.ns) hv ?_) (aLs hk);exact fin hs (q v s.toks hi)
theorem aQn(hk:aAc Γ.env x .cell=true)(hc:Γ.env.cells.lookup x=some ad)(hx:ms x=some sh):EV Γ ms σ (eval (.Name x pos) Γ.env) sh σ:=
 .look fun c s Q E a hs q=>by
  obtain⟨⟨v,hv,hm⟩,_⟩:=a.cel x ad hc;obtain⟨u,rfl,hi⟩:=hm sh hx;refine wpAny_Name (wpAny_loadName_cell a.ok.ek (aHj hk) hc (by rw[hs];exact hv) ?_) (aLs hk);exact fin hs (q u s.toks hi)
theorem aKr(hk:aAc Γ.env x .globalImplicit=true)(e:nsIn (Mine.hd.heap_1 Γ.w.params) mainGlobals x=some (some v))(hi:∀σ c,Is σ c sh v):
  EV Γ ms σ (eval (.Name x pos) Γ.env) sh σ:=.look fun c s Q E a hs q=>by
 obtain⟨m,F,hm⟩:=a.fr;refine nameG_K (h₀:=Γ.g0) (L:=Γ.L) (m:=m) (by rw[hs];exact F.lower a.ok) a.ok.X0 a.ok.T0 e ?_ a.ok.eg a.ok.ek (aHj hk) (aLs hk);exact fin hs (q v s.toks (hi σ c))
theorem aSa{n:Int}{k:Nat}:EV Γ ms σ (eval (.Constant (.int n) k pos) Γ.env) (.int n) σ:=.look fun c s Q E a hs q=>by
 refine wpAny_Constant_int ?_;exact fin hs (q _ (s.toks+1) (.int n s.toks))
theorem aSb{op:Ol}{l:Aj}{x:Sh}(h1:EV Γ ms σ (eval l Γ.env) x σ1)(h2:EV Γ ms σ1 (eval r Γ.env) y σ2)
  (h3:∀c s u v Q E,At Γ ms σ2 c->s.heap=c.h->Is σ2 c x u->Is σ2 c y v->(∀r tk,Is σ2 c z r->Q r {s with heap:=c.h,toks:=tk})->wpAny (M Γ) Γ.Ad (Od op u v) Q E s):EV Γ ms σ (eval (.BinOp l op r pos) Γ.env) z σ2:=
 ⟨h1.dom.trans h2.dom,fun c s Q E a hs q=>by
  rw[arm_eval_BinOp];refine h1.bind a hs fun u c1 t1 i1 a1 s1=>?_;refine h2.hold a1 rfl fun v c2 t2 i2 a2 s2=>?_;refine aG (dU (wpN.of (h3 c2 _ u v Q E a2 rfl (i1.mono h2.dom s2) i2 fun r tk ir=>?_)));exact q r c2 tk ir a2 (s1.trans (s2.mono h1.dom))⟩
section
variable{l:Aj}{b:Int}
end
structure BinI(op:Ol)(a b r:Int):Prop where
 run:∀(prog:Program) (w:World) (A:Ez) (Q:Value->Ai->Prop) (E:Value->Ai->Prop) (s:Ai) (t u:Tok),Q (.int r s.toks) {s with toks:=s.toks+1}->wpAny (model prog w) A (Od op (.int a t) (.int b u)) Q E s
theorem BinI.add{b:Int}:BinI .Add a b (a+b):=⟨fun _ _ _ _ _ _ _ _ h=>add_int h⟩
theorem BinI.sub{b:Int}:BinI .Sub a b (a-b):=⟨fun _ _ _ _ _ _ _ _ h=>sub_int' h⟩
theorem BinI.mul{b:Int}(hm:Ge a b):BinI .Mult a b (a*b):=⟨fun _ _ _ _ _ _ _ _ h=>mul_int h hm⟩
theorem BinI.fdiv{b:Int}(h0:0<b)(h1:b<=1000000):BinI .FloorDiv a b (a.fdiv b):=⟨fun _ _ _ _ _ _ _ _ h=>aAv h0 h1 h⟩
theorem BinI.mod{b:Int}(h0:b≠0):BinI .Mod a b (a.fmod b):=⟨fun _ _ _ _ _ _ _ _ h=>mod_int' h0 h⟩
theorem BinI.pow{n:Int}(h0:0<=n)(h1:n<=1000000)(h2:a.natAbs<2 ^ 64):BinI .Pow a n (a ^ n.toNat):=⟨fun _ _ _ _ _ _ _ _ h=>pow_int_small h0 h1 h2 h⟩
theorem BinI.shl{n:Int}(h0:0<=n)(h1:n<=1000000)(h2:a.natAbs<2 ^ 64):BinI .LShift a n (a*2 ^ n.toNat):=⟨fun _ _ _ _ _ _ _ _ h=>lshift_int_small h0 h1 h2 h⟩
theorem BinI.shr{n:Int}(h0:0<=n):BinI .RShift a n (a.fdiv (2 ^ n.toNat)):=⟨fun _ _ _ _ _ _ _ _ h=>rshift_int h0 h⟩
theorem BinI.and{b:Int}:BinI .BitAnd a b (Kl a b):=⟨fun _ _ _ _ _ _ _ _ h=>and_int h⟩
theorem BinI.xor{b:Int}:BinI .BitXor a b (Builtin.bitXor a b):=⟨fun _ _ _ _ _ _ _ _ h=>xor_int h⟩
structure CmpI(op:CmpOp)(a b:Int)(r:Bool):Prop where
 run:∀(prog:Program) (w:World) (A:Ez) (Q:Value->Ai->Prop) (E:Value->Ai->Prop) (s:Ai) (t u:Tok),Q (.bool r) s->wpAny (model prog w) A (Jq op (.int a t) (.int b u)) Q E s
theorem CmpI.eq{b:Int}:CmpI .Eq a b (a==b):=⟨fun _ _ _ _ _ _ _ _ h=>eq_int h⟩
theorem CmpI.ne{b:Int}:CmpI .NotEq a b (a != b):=⟨fun _ _ _ _ _ _ _ _ h=>ne_int h⟩
theorem CmpI.lt{b:Int}:CmpI .Lt a b (decide (a<b)):=⟨fun _ _ _ _ _ _ _ _ h=>lt_int h⟩
theorem CmpI.gt{b:Int}:CmpI .Gt a b (decide (b<a)):=⟨fun _ _ _ _ _ _ _ _ h=>gt_int h⟩
theorem CmpI.le{b:Int}:CmpI .LtE a b (decide (a<=b)):=⟨fun _ _ _ _ _ _ _ _ h=>le_int h⟩
theorem CmpI.ge{b:Int}:CmpI .GtE a b (decide (b<=a)):=⟨fun _ _ _ _ _ _ _ _ h=>ge_int h⟩
section
variable{l:Aj}{b:Int}
structure BinOk(Γ:Gm)(ms:Str->Option Sh)(σ:Sg)(op:Ol)(x y z:Sh):Prop where
 run:∀c s u v Q E,At Γ ms σ c->s.heap=c.h->Is σ c x u->Is σ c y v->(∀r tk,Is σ c z r->Q r {s with heap:=c.h,toks:=tk})->wpAny (M Γ) Γ.Ad (Od op u v) Q E s
theorem BinI.ok{op:Ol}{z:Int}(h:BinI op a b z):BinOk Γ ms σ op (.int a) (.int b) (.int z):=⟨fun c s u v Q E _ hs i j q=>by
 obtain⟨t,rfl⟩:=i.int_inv;obtain⟨t',rfl⟩:=j.int_inv;refine h.run _ _ _ _ _ _ _ _ ?_;exact fin hs (q _ (s.toks+1) (.int z s.toks))⟩
theorem mS{op:Ol}{x:Sh}(h1:EV Γ ms σ (eval l Γ.env) x σ1)(h2:EV Γ ms σ1 (eval r Γ.env) y σ2)(h3:BinOk Γ ms σ2 op x y z):EV Γ ms σ (eval (.BinOp l op r pos) Γ.env) z σ2:=aSb h1 h2 h3.run
structure CmpOk(Γ:Gm)(ms:Str->Option Sh)(σ:Sg)(op:CmpOp)(x y:Sh)(b:Bool):Prop where
 run:∀c s u v Q E,At Γ ms σ c->s.heap=c.h->Is σ c x u->Is σ c y v->(∀tk,Q (.bool b) {s with heap:=c.h,toks:=tk})->wpAny (M Γ) Γ.Ad (Jq op u v) Q E s
theorem CmpI.ok{op:CmpOp}{z:Bool}(h:CmpI op a b z):CmpOk Γ ms σ op (.int a) (.int b) z:=⟨fun c s u v Q E _ hs i j q=>by
 obtain⟨t,rfl⟩:=i.int_inv;obtain⟨t',rfl⟩:=j.int_inv;refine h.run _ _ _ _ _ _ _ _ ?_;exact fin hs (q s.toks)⟩
theorem dO{op:CmpOp}{x:Sh}{z:Bool}(h1:EV Γ ms σ (eval l Γ.env) x σ1)(h2:EV Γ ms σ1 (eval r Γ.env) y σ2)(h3:CmpOk Γ ms σ2 op x y z)(hm:behindInMarks op r=false:=by with_unfolding_all rfl):
  EB Γ ms σ (isTrue (.Compare l [op] [r] pos) Γ.env whole) z σ2:=
 ⟨h1.dom.trans h2.dom,fun c s Q E a hs q=>by
  rw[isTrue_Compare1,markedBehindIn_of_false hm];refine h1.bind a hs fun u c1 t1 i1 a1 s1=>?_;refine h2.hold a1 rfl fun v c2 t2 i2 a2 s2=>?_;refine aG (aE (dU (wpN.of (h3.run c2 _ u v _ E a2 rfl (i1.mono h2.dom s2) i2 fun tk=>aF (wpN.of (Du ?_))))));exact q z c2 tk rfl a2 (s1.trans (s2.mono h1.dom))⟩
theorem rQ{z:Bool}(h:EB Γ ms σ (isTrue e Γ.env (eval e Γ.env)) z σ1):EB Γ ms σ (isTrue (.UnaryOp .Not e pos) Γ.env whole) (!z) σ1:=
 ⟨h.dom,fun c s Q E a hs q=>by
  refine h.bind a hs fun v c1 t1 i1 a1 s1=>?_;clear rQ h a hs;subst i1;exact aH (q _ c1 t1 rfl a1 s1)⟩
theorem uF:EB Γ ms σ (Hu .And [] Γ.env) true σ:=⟨Dom.refl σ,fun c s Q E a hs q=>aH (fin hs (q true c s.toks rfl a (Step.refl c)))⟩
theorem jN:EB Γ ms σ (Hu .Or [] Γ.env) false σ:=⟨Dom.refl σ,fun c s Q E a hs q=>aH (fin hs (q false c s.toks rfl a (Step.refl c)))⟩
theorem aKd{z:Bool}(h:EB Γ ms σ (isTrue e Γ.env (eval e Γ.env)) true σ1)(h2:EB Γ ms σ1 (Hu .And rest Γ.env) z σ2):EB Γ ms σ (Hu .And (e::rest) Γ.env) z σ2:=
 ⟨h.dom.trans h2.dom,fun c s Q E a hs q=>by
  rw[Ku];refine h.bind a hs fun v c1 t1 i1 a1 s1=>?_;subst i1;exact h2.run c1 _ _ E a1 rfl fun v c2 t2 i2 a2 s2=>q v c2 t2 i2 a2 (s1.trans (s2.mono h.dom))⟩
theorem rR(h:EB Γ ms σ (isTrue e Γ.env (eval e Γ.env)) false σ1):EB Γ ms σ (Hu .And (e::rest) Γ.env) false σ1:=
 ⟨h.dom,fun c s Q E a hs q=>by
  rw[Ku];refine h.bind a hs fun v c1 t1 i1 a1 s1=>?_;subst i1;exact aH (q _ c1 t1 rfl a1 s1)⟩
theorem fJ{z:Bool}(h:EB Γ ms σ (isTrue e Γ.env (eval e Γ.env)) false σ1)(h2:EB Γ ms σ1 (Hu .Or rest Γ.env) z σ2):EB Γ ms σ (Hu .Or (e::rest) Γ.env) z σ2:=
 ⟨h.dom.trans h2.dom,fun c s Q E a hs q=>by
  rw[Ku];refine h.bind a hs fun v c1 t1 i1 a1 s1=>?_;subst i1;exact h2.run c1 _ _ E a1 rfl fun v c2 t2 i2 a2 s2=>q v c2 t2 i2 a2 (s1.trans (s2.mono h.dom))⟩
theorem aFx(h:EB Γ ms σ (isTrue e Γ.env (eval e Γ.env)) true σ1):EB Γ ms σ (Hu .Or (e::rest) Γ.env) true σ1:=
 ⟨h.dom,fun c s Q E a hs q=>by
  rw[Ku];refine h.bind a hs fun v c1 t1 i1 a1 s1=>?_;subst i1;exact aH (q _ c1 t1 rfl a1 s1)⟩
theorem At.step(a:At Γ ms σ c)(s:Step (dom σ) c c'):Step Γ.P c c':=s.mono a.prot
theorem aB{rest:List Stmt}(h1:SS Γ ms σ (exec st Γ.env) .next ms1 σ1)(h2:SS Γ ms1 σ1 (execs rest Γ.env) fl ms2 σ2):SS Γ ms σ (execs (st::rest) Γ.env) fl ms2 σ2:=
 ⟨fun c s Q E a hs q=>cI (h1.run c s _ E a hs fun f c1 t1 i1 a1 s1=>by
  obtain rfl:=i1.next_inv;exact h2.run c1 _ _ E a1 rfl fun f c2 t2 i2 a2 s2=>q f c2 t2 i2 a2 (s1.trans s2))⟩
theorem aQ{rest:List Stmt}{x:Sh}(h1:SS Γ ms σ (exec st Γ.env) (.ret x) ms1 σ1):SS Γ ms σ (execs (st::rest) Γ.env) (.ret x) ms1 σ1:=
 ⟨fun c s Q E a hs q=>cI (h1.run c s _ E a hs fun f c1 t1 i1 a1 s1=>by
  obtain⟨v,rfl,i⟩:=i1.ret_inv;exact q _ c1 t1 (.ret x v i) a1 s1)⟩
theorem dI:SS Γ ms σ (execs [] Γ.env) .next ms σ:=⟨fun c s Q E a hs q=>gP (fin hs (q .next c s.toks .next a (Step.refl c)))⟩
theorem bU{x:Sh}(h:EV Γ ms σ (eval e Γ.env) x σ1):SS Γ ms σ (exec (.Return (some e) pos) Γ.env) (.ret x) ms σ1:=
 ⟨fun c s Q E a hs q=>zP (h.run c s _ E a hs fun v c1 t1 i1 a1 s1=>q _ c1 t1 (.ret x v i1) a1 (a.step s1))⟩
theorem aP(h:EB Γ ms σ (isTrue test Γ.env (eval test Γ.env)) true σ1)(h2:SS Γ ms σ1 (execs body Γ.env) fl ms2 σ2):SS Γ ms σ (exec (.If test body orelse pos) Γ.env) fl ms2 σ2:=
 ⟨fun c s Q E a hs q=>by
  rw[exec_If];refine aG (h.bind a hs fun v c1 t1 i1 a1 s1=>?_);subst i1;exact h2.run c1 _ _ E a1 rfl fun f c2 t2 i2 a2 s2=>q f c2 t2 i2 a2 ((a.step s1).trans s2)⟩
theorem aD(h:EB Γ ms σ (isTrue test Γ.env (eval test Γ.env)) false σ1)(h2:SS Γ ms σ1 (execs orelse Γ.env) fl ms2 σ2):SS Γ ms σ (exec (.If test body orelse pos) Γ.env) fl ms2 σ2:=
 ⟨fun c s Q E a hs q=>by
  rw[exec_If];refine aG (h.bind a hs fun v c1 t1 i1 a1 s1=>?_);subst i1;exact h2.run c1 _ _ E a1 rfl fun f c2 t2 i2 a2 s2=>q f c2 t2 i2 a2 ((a.step s1).trans s2)⟩
noncomputable def setm(ms:Str->Option Sh)(x:Str)(sh:Sh):Str->Option Sh:=fun y=>if y=x then some sh else ms y
theorem At.setLocal(a:At Γ ms σ c)(i:Is σ c sh v)(hc:Γ.env.cells.lookup x=none)
  (F:Fw Γ.fr Γ.g Γ.L c.h m)(hm:∀x sh,Γ.env.kindOf x=some .local->ms x=some sh->∃v,m x=some v/\Is σ c sh v)(hn:h'.Ns Γ.L (fun y=>if y=x then some v else m y))(hs:Ch Γ.L c.h h'):At Γ (setm ms x sh) σ ⟨c.ρ,h'⟩/\Step (dom σ) c ⟨c.ρ,h'⟩:=by
 have notL:∀b o,c.h.get? b=some o->b≠Γ.L->h'.get? b=some o:=fun b o e n=>(hs.2 b n).trans e;have S:Step (dom σ) c ⟨c.ρ,h'⟩:=⟨fun _ _=>rfl,fun b vs e=>notL _ _ e fun q=>by
  obtain⟨oL,es,ep,hL,hLd⟩:=aEj F.ns;rw[q,hL] at e;cases e;cases hLd⟩
 refine⟨⟨⟨fun l o e=>?_,a.inj,a.fin,(F.set hn hs).keep⟩,a.ok,⟨_,F.set hn hs,fun y sh' hk e=>?_⟩,a.offL,fun y b hb=>?_,a.prot⟩,S⟩
 ·obtain⟨z,h1,h2,h3,h4⟩:=a.ob l o e;exact⟨z,notL _ _ h1 (a.offL l (by rw[e];exact fun z=>by cases z)).1,h2.mono (Dom.refl _) S,h3,h4⟩
 ·unfold setm at e
  split at e
  ·rename_i q;cases e;exact⟨v,by rw[if_pos q],i.mono (Dom.refl _) S⟩
  ·rename_i q;obtain⟨u,h1,h2⟩:=hm y sh' hk e;exact⟨u,by rw[if_neg q];exact h1,h2.mono (Dom.refl _) S⟩
 ·refine bc fun nq=>?_;obtain⟨⟨u,⟨oc,ho,hd⟩,hu⟩,h2,h3⟩:=a.cel y b hb;refine nq ?_;refine⟨⟨u,⟨oc,notL _ _ ho h2.1,hd⟩,fun sh' e=>?_⟩,h2,h3⟩;unfold setm at e;rw[if_neg (fun q=>by rw[q,hc] at hb;cases hb)] at e;obtain⟨z,h4,h5⟩:=hu sh' e;exact⟨z,h4,h5.mono (Dom.refl _) S⟩
theorem gC{Q:Unit->Ai->Prop}(hk:Γ.env.kindOf x=some .local)(hc:Γ.env.cells.lookup x=none)(a:At Γ ms σ c)(hs:s.heap=c.h)(i:Is σ c sh v)
  (q:∀c' tk,At Γ (setm ms x sh) σ c'->Step (dom σ) c c'->Q () {s with heap:=c'.h,toks:=tk}):wpAny (M Γ) Γ.Ad (Kt Γ.env x v) Q E s:=by
 obtain⟨m,F,hm⟩:=a.fr;refine wpAny_bindName (wpAny_storeName_local hk (m:=m) (by rw[a.ok.el,hs];exact F.ns) (fun h' hn hsb=>?_) (by rw[a.ok.ek];rfl));rw[a.ok.el] at hn hsb;rw[hs] at hsb;have z:=a.setLocal (x:=x) (h':=h') i hc F hm hn hsb;exact q ⟨c.ρ,h'⟩ _ z.1 z.2
theorem bR{l:List (Str×Sh)}:setm (mL l) x sh=mL ((x,sh)::l):=by
 funext y
 unfold setm mL;rw[Bj];by_cases h:y=x
 ·rw[if_pos h,h,beq_self_eq_true]
 ·rw[if_neg h,beq_eq_false_iff_ne.mpr h]
theorem aKi(h:EV Γ ms σ (eval e Γ.env) sh σ1)(henv:Γ.env.scope=sc)(hk':sc.names.lookup x=some .local)(hc:Γ.env.cells.lookup x=none)(hs:Gb e (some (.Name x pos')) pos.line Γ.env=pure false):
  SS Γ ms σ (exec (.Assign [.Name x pos'] e pos) Γ.env) .next (setm ms x sh) σ1:=
 ⟨fun c s Q E a hs' q=>pO hs (h.run c s _ E a hs' fun v c1 t1 i1 a1 s1=>gC (by show Γ.env.scope.names.lookup _=_;rw[henv];exact hk') hc a1 rfl i1 fun c2 t2 a2 s2=>q _ c2 t2 .next a2 ((a.step s1).trans (a1.step s2)))⟩
theorem dJ(h:EV Γ (mL ml) σ (eval e Γ.env) sh σ1)(henv:Γ.env.scope=sc)(hk':sc.names.lookup x=some .local)(hc:Γ.env.cells.lookup x=none)(hs:Gb e (some (.Name x pos')) pos.line Γ.env=pure false):
  SS Γ (mL ml) σ (exec (.Assign [.Name x pos'] e pos) Γ.env) .next (mL ((x,sh)::ml)) σ1:=bR▸aKi h henv hk' hc hs
end
structure CallOk(Γ:Gm)(ms:Str->Option Sh)(σ:Sg)(f:Value)(shs:List Sh)(sh:Sh)(σ':Sg):Prop where
 dom:Dom σ σ'
 run:∀(c:Cf) (s:Ai) (vs:List Value) (Q:Value->Ai->Prop) (E:Value->Ai->Prop),At Γ ms σ c->s.heap=c.h->IsAll σ c shs vs->
  (∀v c' tk,Is σ' c' sh v->At Γ ms σ' c'->Step (Mine.dom σ) c c'->Q v {s with heap:=c'.h,toks:=tk})->wpN (M Γ) Γ.Ad (call f vs []) Q E s
theorem FN.call(S:FN Γ.w n f shs σ sh σ')(hn:n<=Γ.n)(hF:∀l,¬Γ.F l:=by exact fun _ h=>h):CallOk Γ ms σ f shs sh σ':=⟨S.dom,fun c s vs Q E a hs hv q=>aNi S hn hF a hs hv q⟩
theorem wO:EL Γ ms σ (Co (Cc pos (Av [] env))) [] σ:=⟨Dom.refl σ,fun c s Q E a hs q=>aH (fin hs (q [] c s.toks .nil a (Step.refl c)))⟩
theorem aV:EL Γ ms σ (Co (Cc pos (Av [] Γ.env))) [] σ:=wO
noncomputable def dY(e:Aj):Bool:=!(e.ctorIdx==(Aj.Starred e ⟨0,0,0,0⟩).ctorIdx)
noncomputable def iS(args:List Aj):Bool:=args.all dY&&Op args.length 29
noncomputable def cR(args:List Aj)(apos pos:Pos):Bool:=iS args&& (apos.endLine==pos.line)
section
variable{args:List Aj}{name:Str}
theorem cK(h:dY e=true):Av (e::rest) env=(false,eval e env)::Av rest env:=by
 cases e <;> first|rfl|exact nomatch h
theorem uB(h:args.all dY=true):(Cc pos (Av args env)).any (·.1)=false/\(Cc pos (Av args env)).all (!·.1)=true:=by
 induction args with
 |nil=>exact⟨rfl,rfl⟩
 |cons e r ih=>
  have h:=Bb.mp (List.all_cons▸h);rw[cK h.1];exact ih h.2
theorem fZ(ok:iS args=true):(Cc pos (Av args env)).any (·.1)=false:=(uB (Bb.mp ok).1).1
theorem rN(ok:iS (e::rest)=true):dY e=true:=(Bb.mp (List.all_cons▸(Bb.mp ok).1)).1
theorem aFv(ok:iS (e::rest)=true):Av (e::rest) env=(false,eval e env)::Av rest env:=cK (rN ok)
theorem pH(ok:iS args=true):args=[]\/∃e rest,args=e::rest/\Av (e::rest) env=(false,eval e env)::Av rest env:=by
 cases args with
 |nil=>exact .inl rfl
 |cons e r=>exact .inr ⟨e,r,rfl,aFv ok⟩
theorem uS(ok:cR args apos pos=true):iS args=true:=(Bb.mp ok).1
theorem lM(ok:cR args apos pos=true):(Cc pos (Av args env)).any (·.1)=false:=fZ (uS ok)
theorem aCk(ok:cR args apos pos=true):args=[]\/∃e rest,args=e::rest/\Av (e::rest) env=(false,eval e env)::Av rest env:=pH (uS ok)
theorem qF(ok:cR args apos pos=true):Ny (args.length+0) (Cc pos (Av args env)) (Ht pos (Fh [] env))=true:=by
 have h:=Bb.mp (uS ok);unfold Ny;rw[(uB h.1).2];exact decide_eq_true (Au (Aa h.2))
theorem xM(ok:cR args apos pos=true):Ou true o env apos pos=pure pos:=by
 unfold Ou;rw[(Bb.mp ok).2];rfl
end
theorem jR{x:Sh}{l:List Sh}(h1:EV Γ ms σ (eval e env) x σ1)(h2:EL Γ ms σ1 (Co (Cc pos (Av rest env))) l σ2)(he:dY e=true:=by exact Eo true):
  EL Γ ms σ (Co (Cc pos (Av (e::rest) env))) (x::l) σ2:=
 ⟨h1.dom.trans h2.dom,fun c s Q E a hs q=>by
  rw[cK he];show wpN _ _ (do
   let v <-eval e env
   let here <-(pure [v]:Sem (List Value))
   return here++(<-Dc here (Co (Cc pos (Av rest env))))) Q E s
  refine h1.bind a hs fun v c1 t1 i1 a1 s1=>?_;refine aW (h2.hold a1 rfl fun vs c2 t2 i2 a2 s2=>aH ?_);exact q (v::vs) c2 t2 (.cons (i1.mono h2.dom s2) i2) a2 (s1.trans (s2.mono h1.dom))⟩
theorem aJ{x:Sh}{l:List Sh}(h1:EV Γ ms σ (eval e Γ.env) x σ1)(h2:EL Γ ms σ1 (Co (Cc pos (Av rest Γ.env))) l σ2)(he:dY e=true:=by exact Eo true):
  EL Γ ms σ (Co (Cc pos (Av (e::rest) Γ.env))) (x::l) σ2:=jR h1 h2 he
section
variable{M:Model}
theorem nH{x:Sem Value}{rest:List (Bool×Sem Value)}{Q:Args->Ai->Prop}
  (h:wpN M A (Co ((false,x)::rest)) (fun vs s'=>Q ⟨vs,[]⟩ s') E s):wpN M A (evalArgs f true ((false,x)::rest) []) Q E s:=by
 refine aE (bX h (fun vs s' h'=>?_) fun _ _ x=>x);refine aF ?_;exact aW (aW (aH h'))
theorem iL{Q:Args->Ai->Prop}(h:wpN M A (Co []) (fun vs s'=>Q ⟨vs,[]⟩ s') E s):wpN M A (evalArgs f true [] []) Q E s:=by
 refine aE (bX h (fun vs s' h'=>?_) fun _ _ x=>x);refine aW ?_;refine aF ?_;exact aW (aW (aH h'))
theorem fY{first:List Value}{P:Heap->Prop}{args:List (Bool×Sem Value)}(plain:args.any (·.1)=false)
  (hk:∀h,P h->∃k,(k=Keeper.frame\/k=Keeper.machine\/k=Keeper.boundFrame)/\Looks M h (keeperOf f) k)
  (h:wpN M A (evalArgs f true args []) (fun a s₁=>P s₁.heap/\wpN M A (call f (first++a.pos) a.kw) Q E s₁) E s):wpN M A (Gs pos f first args []) Q E s:=by
 unfold Gs;refine aE (aF (bX h (fun a s₁ h₁=>aG ?_) fun _ _ x=>x));refine bc fun nq=>?_;obtain⟨k,hk',L⟩:=hk _ h₁.1;refine nq ?_;simp only[plain,List.any_nil,Nt];refine aK (L.here ?_);have tail:∀{t:Sem Value},wpN M A t Q E s₁->wpN M A (t >>= fun r=>Dc [r] point >>= fun _=>pure r) Q E s₁:=
  fun ht=>aE (bX ht (fun r s₂ hr=>bV (wpAny_point (aH hr))) fun _ _ x=>x)
 have kept:∀{vs:List Value} {t:Sem Value},wpN M A t Q E s₁->wpN M A (t.keep vs) Q E s₁:=fun ht Γ p hΓ c=>by rw[Sem.wp_keep];exact ht Γ p hΓ c
 have marked (mk:Value):wpN M A (callMarked mk f (first++a.pos) a.kw) Q E s₁:=by unfold callMarked;exact kept h₁.2
 clear plain hk h nq L kept;rcases hk' with rfl|rfl|rfl <;> dsimp only <;> first|exact tail h₁.2| (split <;> first|exact tail h₁.2|exact tail (marked _))
end
noncomputable def Keeps(Γ:Gm)(f:Value):Prop:=keepIn (Mine.hd.heap_1 Γ.w.params) f=true\/(∃T,f = .type T)\/∃i,f = .builtin i
theorem Keeps.K(h:keepIn (Mine.hd.heap_1 Γ.w.params) f=true):Keeps Γ f:=.inl h
theorem Keeps.looks(k:Keeps Γ f)(h:Heap)(X:(Mine.hd.heap_1 Γ.w.params).In h):∃k,(k=Keeper.frame\/k=Keeper.machine\/k=Keeper.boundFrame)/\Looks (M Γ) h (keeperOf f) k:=by
 rcases k with k| ⟨T,rfl⟩| ⟨i,rfl⟩
 ·exact keeps_K k h X
 ·exact⟨.machine,.inr (.inl rfl),Fk rfl⟩
 ·exact⟨.machine,.inr (.inl rfl),Fk rfl⟩
theorem At.K(a:At Γ ms σ c):(Mine.hd.heap_1 Γ.w.params).In c.h:=a.ok.X0.keeps a.g0
theorem gO{args:List Aj}{first:List Value}{fsh:List Sh}(k:Keeps Γ f)(h1:EL Γ ms σ (Co (Cc pos (Av args env))) shs σ1)
  (plain:(Cc pos (Av args env)).any (·.1)=false)(he:args=[]\/∃e rest,args=e::rest/\Av (e::rest) env=(false,eval e env)::Av rest env):
  ∀(c:Cf) (s:Ai) (Q:Value->Ai->Prop) (E:Value->Ai->Prop),At Γ ms σ c->s.heap=c.h->IsAll σ c fsh first->
  (∀vs c1 t1,IsAll σ1 c1 (fsh++shs) (first++vs)->At Γ ms σ1 c1->Step (Mine.dom σ) c c1->wpN (M Γ) Γ.Ad (call f (first++vs) []) Q E {s with heap:=c1.h,toks:=t1})->wpN (M Γ) Γ.Ad (Gs pos f first (Cc pos (Av args env)) []) Q E s:=by
 intro c s Q E a hs hi q;have fin:∀(R:Args->Ai->Prop),(∀vs c1 t1,IsAll σ1 c1 shs vs->At Γ ms σ1 c1->Step (Mine.dom σ) c c1->R ⟨vs,[]⟩ {s with heap:=c1.h,toks:=t1})->wpN (M Γ) Γ.Ad (evalArgs f true (Cc pos (Av args env)) []) R E s:=fun R r=>by
  clear gO k plain hi q;rcases he with rfl| ⟨e,rest,rfl,he⟩
  ·exact iL (h1.run c s (fun vs s'=>R ⟨vs,[]⟩ s') E a hs fun vs c1 t1 i1 a1 s1=>r vs c1 t1 i1 a1 s1)
  ·have z:=h1.run c s (fun vs s'=>R ⟨vs,[]⟩ s') E a hs fun vs c1 t1 i1 a1 s1=>r vs c1 t1 i1 a1 s1;rw[he] at z ⊢;exact nH z
 exact fY plain (P:=(Mine.hd.heap_1 Γ.w.params).In) (fun h X=>k.looks h X) (fin _ fun vs c1 t1 i1 a1 s1=>⟨a1.K,q vs c1 t1 ((hi.mono h1.dom s1).app i1) a1 s1⟩)
theorem aLc{args:List Aj}{first:List Value}{fsh:List Sh}(k:Keeps Γ f)(h1:EL Γ ms σ (Co (Cc pos (Av args Γ.env))) shs σ1)
  (h2:CallOk Γ ms σ1 f (fsh++shs) sh σ2)(plain:(Cc pos (Av args Γ.env)).any (·.1)=false)(he:args=[]\/∃e rest,args=e::rest/\Av (e::rest) Γ.env=(false,eval e Γ.env)::Av rest Γ.env):
  ∀(c:Cf) (s:Ai) (Q:Value->Ai->Prop) (E:Value->Ai->Prop),At Γ ms σ c->s.heap=c.h->IsAll σ c fsh first->
  (∀v c' tk,Is σ2 c' sh v->At Γ ms σ2 c'->Step (Mine.dom σ) c c'->Q v {s with heap:=c'.h,toks:=tk})->wpN (M Γ) Γ.Ad (Gs pos f first (Cc pos (Av args Γ.env)) []) Q E s:=
 fun c s Q E a hs hi q=>gO k h1 plain he c s Q E a hs hi fun vs c1 t1 i1 a1 s1=>h2.run c1 _ _ _ E a1 rfl i1 fun v c2 t2 i2 a2 s2=>q v c2 t2 i2 a2 (s1.trans (s2.mono h1.dom))
structure EC(Γ:Gm)(ms:Str->Option Sh)(σ:Sg)(t:Sem Value)(f:Value)(shs:List Sh)(σ':Sg):Prop where
 dom:Dom σ σ'
 run:∀(c:Cf) (s:Ai) (Q:Value->Ai->Prop) (E:Value->Ai->Prop),At Γ ms σ c->s.heap=c.h->
  (∀vs c' tk,IsAll σ' c' shs vs->At Γ ms σ' c'->Step (Mine.dom σ) c c'->wpN (M Γ) Γ.Ad (call f vs []) Q E {s with heap:=c'.h,toks:=tk})->wpN (M Γ) Γ.Ad t Q E s
theorem EC.ok{t:Sem Value}(h:EC Γ ms σ t f shs σ1)(h2:CallOk Γ ms σ1 f shs sh σ2):EV Γ ms σ t sh σ2:=
 ⟨h.dom.trans h2.dom,fun c s Q E a hs q=>h.run c s Q E a hs fun vs c1 t1 i1 a1 s1=>h2.run c1 _ vs Q E a1 rfl i1 fun v c2 t2 i2 a2 s2=>q v c2 t2 i2 a2 (s1.trans (s2.mono h.dom))⟩
theorem aDo{args:List Aj}(h0:EV Γ ms σ (eval fe env) (.con f) σ1)(k:Keeps Γ f)(h1:EL Γ ms σ1 (Co (Cc pos (Av args env))) shs σ2)(ok:iS args=true)
  (hc:eval (.Call fe args [] pos) env=(do Gs pos (<-eval fe env) [] (Cc pos (Av args env)) (Ht pos (Fh [] env)))):EC Γ ms σ (eval (.Call fe args [] pos) env) f shs σ2:=
 ⟨h0.dom.trans h1.dom,fun c s Q E a hs q=>by
  rw[hc];refine h0.bind a hs fun u c1 t1 i1 a1 s1=>?_;obtain rfl:=i1.con_inv;exact gO (fsh:=[]) (first:=[]) k h1 (fZ ok) (pH ok) c1 _ Q E a1 rfl .nil fun vs c2 t2 i2 a2 s2=>q vs c2 t2 i2 a2 (s1.trans (s2.mono h0.dom))⟩
theorem aM{args:List Aj}(h0:EV Γ ms σ (eval fe Γ.env) (.con f) σ1)(k:Keeps Γ f)(h1:EL Γ ms σ1 (Co (Cc pos (Av args Γ.env))) shs σ2)(h2:CallOk Γ ms σ2 f shs sh σ3)
  (ok:iS args=true:=by exact Eo true)
  (hc:eval (.Call fe args [] pos) Γ.env=(do Gs pos (<-eval fe Γ.env) [] (Cc pos (Av args Γ.env)) (Ht pos (Fh [] Γ.env))):=by rfl):EV Γ ms σ (eval (.Call fe args [] pos) Γ.env) sh σ3:=(aDo h0 k h1 ok hc).ok h2
theorem At.grow0(a:At Γ ms σ c)(k:∀b o,c.h.get? b=some o->h'.get? b=some o):At Γ ms σ ⟨c.ρ,h'⟩/\Step (dom σ) c ⟨c.ρ,h'⟩:=by
 obtain⟨H,S⟩:=a.toHp.mono k;refine⟨⟨H,a.ok,?_,a.offL,fun x b hb=>?_,a.prot⟩,S⟩
 ·obtain⟨m,F,hm⟩:=a.fr;exact⟨m,⟨F.ns.keeps k,fun b o e=>(F.keep b o e).go fun o'=>k b o',F.off⟩,fun x sh hk e=>by
   obtain⟨v,h1,h2⟩:=hm x sh hk e;exact⟨v,h1,h2.mono (Dom.refl _) S⟩⟩
 ·refine bc fun nq=>?_;obtain⟨⟨u,hc,hu⟩,h2,h3⟩:=a.cel x b hb;refine nq ?_;exact⟨⟨u,hc.keeps k,fun sh e=>by
   obtain⟨y,e1,hy⟩:=hu sh e;exact⟨y,e1,hy.mono (Dom.refl _) S⟩⟩,h2,h3⟩
theorem At.grow(a:At Γ ms σ c)(k:∀b o,c.h.get? b=some o->h'.get? b=some o)(_:c.h.objs.size<=h'.objs.size):At Γ ms σ ⟨c.ρ,h'⟩/\Step (dom σ) c ⟨c.ρ,h'⟩:=a.grow0 k
theorem At.Llt(a:At Γ ms σ c):Γ.L<c.h.objs.size:=let⟨_,F,_⟩:=a.fr;F.ns.lt
theorem At.clt(a:At Γ ms σ c){b:Addr}(h:Γ.env.cells.lookup x=some b):b<c.h.objs.size:=let⟨⟨_,⟨_,ho,_⟩,_⟩,_⟩:=a.cel x b h;Aw ho
theorem At.rlt(a:At Γ ms σ c)(h:σ l≠none):c.ρ l<c.h.objs.size:=by
 cases e:σ l with
 |none=>exact absurd e h
 |some o=>exact let⟨_,h1,_,_,_⟩:=a.ob l o e;Aw h1
theorem At.big(a:At Γ ms σ c):1<c.h.objs.size/\Γ.g.get? c.h.objs.size=none/\c.h.objs.size≠Γ.L:=by
 refine⟨?_,?_,Da a.Llt⟩
 ·obtain⟨o,_,_,h,_⟩:=a.ok.T0.g;have h3:(1:Nat)<mainGlobals:=by decide
  exact Ee h3 (Aw (a.g0 _ _ h))
 ·exact a.toHp.none (Bs _)
noncomputable def aN(ρ:Lbl->Addr)(l:Lbl)(x:Addr):Lbl->Addr:=fun y=>if y=l then x else ρ y
theorem setρ_at{ρ:Lbl->Addr}{x:Addr}:aN ρ l x l=x:=if_pos rfl
theorem setρ_ne{ρ:Lbl->Addr}{y:Lbl}{x:Addr}(h:y≠l):aN ρ l x y=ρ y:=if_neg h
theorem Is.new{ρ:Lbl->Addr}{n:Lbl}{x:Addr}{o:Ob}:Is (upd σ n o) ⟨aN ρ n x,h⟩ (.ref n) (.ref x):=by
 have r:=Is.ref (σ:=upd σ n o) (c:=⟨aN ρ n x,h⟩) n (by unfold upd;rw[if_pos rfl];exact nofun);rwa[show(Cf.mk (aN ρ n x) h).ρ n=x from setρ_at] at r
theorem At.alloc{o:Ob}{x:Obj}(a:At Γ ms σ c)(hl:σ l=none)(k:∀b o,c.h.get? b=some o->h'.get? b=some o)(hz:c.h.objs.size<=h'.objs.size)(ha:c.h.objs.size<=ad)(hx:h'.get? ad=some x)
  (i:ObIs Γ.w (upd σ l o) ⟨aN c.ρ l ad,h'⟩ o x):At Γ ms (upd σ l o) ⟨aN c.ρ l ad,h'⟩/\Step (dom σ) c ⟨aN c.ρ l ad,h'⟩:=by
 have old:∀y,σ y≠none->y≠l:=fun y h e=>h (e▸hl);have eqρ:∀y,σ y≠none->aN c.ρ l ad y=c.ρ y:=fun y h=>by unfold aN;rw[if_neg (old y h)]
 have lt:∀y,σ y≠none->c.ρ y<ad:=fun y h=>by
  cases e:σ y with
  |none=>exact absurd e h
  |some o=>obtain⟨_,h1,_⟩:=a.ob y o e;exact Bi (Aw h1) ha
 have S:Step (dom σ) c ⟨aN c.ρ l ad,h'⟩:=⟨fun y h=>eqρ y h,fun b vs e=>k _ _ e⟩;have D:Dom σ (upd σ l o):=Dom.upd;have atl:aN c.ρ l ad l=ad:=by unfold aN;rw[if_pos rfl]
 obtain⟨b1,b2,b3⟩:=a.big;have dom':∀y,upd σ l o y≠none->y=l\/(y≠l/\σ y≠none):=fun y h=>by
  by_cases e:y=l
  ·exact .inl e
  ·refine .inr ⟨e,?_⟩;unfold upd at h;rwa[if_neg e] at h
 refine⟨⟨⟨fun y o' e=>?_,fun y y' h h' e=>?_,?_,fun b o e=>(a.keep b o e).go fun o'=>k b o'⟩,a.ok,?_,fun y h=>?_,fun z b hb=>?_,fun y p=>D y (a.prot y p)⟩,S⟩
 ·by_cases q:y=l
  ·clear alloc hl k hz old eqρ lt S D b2 b3 dom';subst q;unfold upd at e;rw[if_pos rfl] at e;cases e;refine⟨x,by dsimp only;rw[atl];exact hx,i,?_,by dsimp only;rw[atl];exact Bi b1 ha⟩;dsimp only;rw[atl];exact .inl (a.toHp.none ha)
  ·unfold upd at e;rw[if_neg q] at e;refine bc fun nq=>?_;obtain⟨z,h1,h2,h3,h4⟩:=a.ob y o' e;have ey:=eqρ y (by rw[e];exact fun z=>by cases z);refine nq ?_;exact⟨z,by dsimp only;rw[ey];exact k _ _ h1,h2.mono D S,by dsimp only;rw[ey];exact h3,by dsimp only;rw[ey];exact h4⟩
 ·dsimp only at e;clear alloc hl k hz ha hx i old S D b1 b2 b3;rcases dom' y h with rfl| ⟨n,hy⟩ <;> rcases dom' y' h' with rfl| ⟨n',hy'⟩
  ·rfl
  ·rw[atl,eqρ y' hy'] at e;exact absurd (lt y' hy') (by rw[<-e];exact Ed _)
  ·rw[atl,eqρ y hy] at e;exact absurd (lt y hy) (by rw[e];exact Ed _)
  ·rw[eqρ y hy,eqρ y' hy'] at e;exact a.inj y y' hy hy' e
 ·obtain⟨ls,hls⟩:=a.fin;exact⟨l::ls,fun y h=>by rcases dom' y h with rfl| ⟨_,hy⟩ <;> simp_all⟩
 ·obtain⟨m,F,hm⟩:=a.fr;exact⟨m,⟨F.ns.keeps k,fun b o e=>(F.keep b o e).go fun o'=>k b o',F.off⟩,fun z sh hk e=>by
   obtain⟨v,h1,h2⟩:=hm z sh hk e;exact⟨v,h1,h2.mono D S⟩⟩
 ·dsimp only;clear alloc hl k hz hx i old lt S D b1 b2 b3;rcases dom' y h with rfl| ⟨_,hy⟩
  ·rw[atl];exact⟨Da (Bi a.Llt ha),a.ok.nofr (a.toHp.none ha)⟩
  ·rw[eqρ y hy];exact a.offL y hy
 ·obtain⟨⟨u,hc,hu⟩,h2,h3⟩:=a.cel z b hb;refine⟨⟨u,hc.keeps k,fun sh e=>?_⟩,h2,fun y h=>?_⟩
  ·obtain⟨y,e1,hy⟩:=hu sh e;exact⟨y,e1,hy.mono D S⟩
  ·dsimp only;clear alloc a hl k hz hx i old lt S D b1 b2 b3 hb hu h2;rcases dom' y h with rfl| ⟨_,hy⟩
   ·rw[atl];obtain⟨oc,ho,_⟩:=hc;exact Da (Bi (Aw ho) ha)
   ·rw[eqρ y hy];exact h3 y hy
theorem At.put{o:Ob}{x:Obj}(a:At Γ ms σ c)(hl:σ l=some o)(hF:¬Γ.F l)(hs:Ch (c.ρ l) c.h h')(hx:h'.get? (c.ρ l)=some x)
  (i:ObIs Γ.w (upd σ l o') ⟨c.ρ,h'⟩ o' x):At Γ ms (upd σ l o') ⟨c.ρ,h'⟩/\Step (dom σ) c ⟨c.ρ,h'⟩:=by
 have hl':σ l≠none:=by rw[hl];exact fun z=>by cases z
 have k:∀b ob,b≠c.ρ l->c.h.get? b=some ob->h'.get? b=some ob:=fun b ob n e=>(hs.2 b n).trans e;refine bc fun nq=>?_;obtain⟨x0,x1,x2,x3,x4⟩:=a.ob l o hl;have S:Step (dom σ) c ⟨c.ρ,h'⟩:=⟨fun _ _=>rfl,fun b vs e=>k _ _ (fun q=>by rw[q,x1] at e;cases e;exact x2.notTup) e⟩;have D:Dom σ (upd σ l o'):=Dom.upd;have dom':∀y,upd σ l o' y≠none->σ y≠none:=fun y h=>by
  by_cases e:y=l
  ·exact e▸hl'
  ·unfold upd at h;rwa[if_neg e] at h
 have F':∀m,Fw Γ.fr Γ.g Γ.L c.h m->Fw Γ.fr Γ.g Γ.L h' m:=fun m F=>F.change hs (fun q=>(a.offL l hl').1 q) (x3.resolve_right hF);refine nq ?_;refine⟨⟨⟨fun y ob e=>?_,fun y y' h h' e=>a.inj y y' (dom' y h) (dom' y' h') e,?_,?_⟩,a.ok,?_,fun y h=>a.offL y (dom' y h),fun z b hb=>?_,fun y p=>D y (a.prot y p)⟩,S⟩
 ·by_cases q:y=l
  ·clear put a hl hF hs hl' k nq x1 x2 S D dom' F';subst q;unfold upd at e;rw[if_pos rfl] at e;cases e;exact⟨x,hx,i,x3,x4⟩
  ·unfold upd at e;rw[if_neg q] at e;obtain⟨z,h1,h2,h3,h4⟩:=a.ob y ob e;refine⟨z,k _ _ (fun w=>q (a.inj y l (by rw[e];exact fun z=>by cases z) hl' w)) h1,h2.mono D S,h3,h4⟩
 ·obtain⟨ls,hls⟩:=a.fin;exact⟨ls,fun y h=>hls y (dom' y h)⟩
 ·obtain⟨m,F,_⟩:=a.fr;exact(F' m F).keep
 ·obtain⟨m,F,hm⟩:=a.fr;exact⟨m,F' m F,fun z sh hk e=>by
   obtain⟨v,h1,h2⟩:=hm z sh hk e;exact⟨v,h1,h2.mono D S⟩⟩
 ·refine bc fun nq=>?_;obtain⟨⟨u,⟨oc,ho,hd⟩,hu⟩,h2,h3⟩:=a.cel z b hb;refine nq ?_;refine⟨⟨u,⟨oc,k _ _ (Bw (h3 l hl')) ho,hd⟩,fun sh e=>?_⟩,h2,fun y h=>h3 y (dom' y h)⟩;obtain⟨y,e1,hy⟩:=hu sh e;exact⟨y,e1,hy.mono D S⟩
theorem gM{l:List Sh}{k:Nat}(h:EL Γ ms σ (Co (Cc pos (Av es Γ.env))) l σ1)(hz:l.length<=1000):EV Γ ms σ (eval (.Tuple es k pos) Γ.env) (.tup l) σ1:=
 ⟨h.dom,fun c s Q E a hs q=>by
  refine aG (h.bind a hs fun vs c1 t1 i1 a1 s1=>wpN.of (wpAny_newTuple ?_ (by rw[i1.length,Bh];exact nle hz)));have z:=a1.grow (h':=c1.h.push (cY vs)) (fun b o e=>Ae _ e) (by rw[Bz];exact Cs _);exact q _ ⟨c1.ρ,c1.h.push (cY vs)⟩ t1 (.tup l _ vs (Ao _ rfl) (i1.mono (Dom.refl _) z.2)) z.1 (s1.trans (z.2.mono h.dom))⟩
theorem dN{l:List Sh}(n:Lbl)(h:EL Γ ms σ (Co (Cc pos (Av es Γ.env))) l σ1)(hz:l.length<=1000)(hn:σ1 n=none):EV Γ ms σ (eval (.List es pos) Γ.env) (.ref n) (upd σ1 n (.list l)):=
 ⟨h.dom.trans Dom.upd,fun c s Q E a hs q=>by
  refine aG (h.bind a hs fun vs c1 t1 i1 a1 s1=>wpN.of (Mi ?_ (by rw[i1.length,Bh];exact nle hz)));have k:∀b o,c1.h.get? b=some o->(c1.h.push (listOf vs.toArray 0)).get? b=some o:=fun b o e=>Ae _ e;have z:=a1.alloc (l:=n) (o:=.list l) (ad:=c1.h.objs.size) (h':=c1.h.push (listOf vs.toArray 0)) hn k (by rw[Bz];exact Cs _) (Bs _) (Ao _ rfl) (.list l vs 0 (i1.mono Dom.upd (⟨fun y h=>setρ_ne fun e=>h (e.symm▸hn),fun b vs e=>k _ _ e⟩:Step (dom σ1) c1 ⟨aN c1.ρ n c1.h.objs.size,c1.h.push (listOf vs.toArray 0)⟩)));refine q _ _ t1 ?_ z.1 (s1.trans (z.2.mono h.dom));have r:=Is.ref (σ:=upd σ1 n (.list l)) (c:=⟨aN c1.ρ n c1.h.objs.size,c1.h.push (listOf vs.toArray 0)⟩) n (by unfold upd;rw[if_pos rfl];exact fun z=>by cases z);dsimp only at r;rwa[(setρ_at:aN c1.ρ n c1.h.objs.size n=c1.h.objs.size)] at r⟩
structure SubOk(Γ:Gm)(ms:Str->Option Sh)(σ:Sg)(value slice:Aj)(x y z:Sh)(σ':Sg):Prop where
 dom:Dom σ σ'
 run:∀(c:Cf) (s:Ai) (u v:Value) (Q:Value->Ai->Prop) (E:Value->Ai->Prop),At Γ ms σ c->s.heap=c.h->Is σ c x u->Is σ c y v->
  (∀r c' tk,Is σ' c' z r->At Γ ms σ' c'->Step (Mine.dom σ) c c'->Q r {s with heap:=c'.h,toks:=tk})->wpAny (M Γ) Γ.Ad (subscriptTail value slice u v) Q E s
theorem aKm{value:Aj}{x:Sh}(h1:EV Γ ms σ (eval value Γ.env) x σ1)(h2:EV Γ ms σ1 (eval slice Γ.env) y σ2)(h3:SubOk Γ ms σ2 value slice x y z σ3):EV Γ ms σ (eval (.Subscript value slice pos) Γ.env) z σ3:=
 ⟨(h1.dom.trans h2.dom).trans h3.dom,fun c s Q E a hs q=>by
  refine h1.bind a hs fun u c1 t1 i1 a1 s1=>?_;refine h2.hold a1 rfl fun v c2 t2 i2 a2 s2=>?_;refine aG (wpN.of ?_);exact h3.run c2 _ u v Q E a2 rfl (i1.mono h2.dom s2) i2 fun r c3 t3 i3 a3 s3=>q r c3 t3 i3 a3 ((s1.trans (s2.mono h1.dom)).trans (s3.mono (h1.dom.trans h2.dom)))⟩
theorem IsAll.get{l:List Sh}(h:IsAll σ c l vs):∀{i:Nat} {x:Sh},l[i]? = some x->∃v,vs[i]? = some v/\Is σ c x v:=by
 induction l generalizing vs with
 |nil=>intro i x e;cases e
 |cons y l ih=>
  obtain⟨_,_,rfl,a,b⟩:=h.cons_inv;intro i x e
  cases i with
  |zero=>obtain rfl:=Cw e;exact⟨_,rfl,a⟩
  |succ i=>exact ih b e
inductive Lst(σ:Sg)(c:Cf)(l:Lbl)(xs:List Sh):Prop
 |mk (vs:List Value) (n:Nat) (e:c.h.get? (c.ρ l)=some (listOf vs.toArray n)) (h:IsAll σ c xs vs):Lst σ c l xs
theorem At.list(a:At Γ ms σ c)(hl:σ l=some (.list xs)):Lst σ c l xs:=by
 obtain⟨x,h1,h2,_⟩:=a.ob l _ hl;obtain⟨vs,n,rfl,h⟩:=h2.out;exact⟨vs,n,h1,h⟩
theorem zB{value:Aj}{k:Int}(hl:σ l=some (.list xs))(h0:0<=k)(hk:xs[k.toNat]? = some z)(hz:xs.length<=1000)
  (hs:∀o i:Value,Ih slice false o i=Jn [o,i] (Ma o i)):SubOk Γ ms σ value slice (.ref l) (.int k) z σ:=
 ⟨Dom.refl σ,fun c s u v Q E a hs' i1 i2 q=>by
  refine bc fun nq=>?_;obtain⟨t,rfl⟩:=i2.int_inv;obtain rfl:=i1.ref_inv;obtain⟨vs,n,e,hv⟩:=a.list hl;obtain⟨r,hr,ir⟩:=hv.get hk;have hL:s.heap.IsList (c.ρ l) vs.toArray:=by rw[hs'];exact Bt (n:=n) e
  have hlt:k.toNat<vs.length:=by
   have:=(As.mp hr).1;exact this
  refine nq ?_;refine tail_any hL.typeIs slot_list_getitem.lookup (wpAny_getItem_list hL h0 (by rw[hv.length] at hlt;exact z11 hz hlt) (by rw[Fe];exact hr) ?_) (hs _ _);have:=q r c s.toks ir a (Step.refl c);rwa[<-hs'] at this⟩
theorem dB{M:Model}{keep:List Value}{Q:Unit->Ai->Prop}(h:Q () s):wpN M A (Nb vs keep) Q E s:=fun Γ p _ _=>by rw[Sem.wp_release];exact h
theorem rM(o i:Aj)(pos:Pos)(env:Env)(v:Value):∃l:Value->Value->List Value,Hm (.Subscript o i pos) env v=(do
  let ov <-Dc [v] (eval o env)
  let iv <-Dc [v,ov] (eval i env)
  Fb pos
  Dc [v,ov,iv] (setItem ov iv v)
  Nb (l ov iv) []):=⟨_,rfl⟩
structure SetOk(Γ:Gm)(ms:Str->Option Sh)(σ:Sg)(x y z:Sh)(σ':Sg):Prop where
 dom:Dom σ σ'
 run:∀(c:Cf) (s:Ai) (u v r:Value) (Q:Unit->Ai->Prop) (E:Value->Ai->Prop),At Γ ms σ c->s.heap=c.h->Is σ c x u->Is σ c y v->Is σ c z r->
  (∀c' tk,At Γ ms σ' c'->Step (Mine.dom σ) c c'->Q () {s with heap:=c'.h,toks:=tk})->wpN (M Γ) Γ.Ad (setItem u v r) Q E s
theorem IsAll.set{l:List Sh}(h:IsAll σ c l vs):∀{i:Nat} {x:Sh} {v:Value},Is σ c x v->IsAll σ c (l.set i x) (vs.set i v):=by
 induction l generalizing vs with
 |nil=>intro i x v _;obtain rfl:=h.nil_inv;exact .nil
 |cons y l ih=>
  obtain⟨_,_,rfl,a,b⟩:=h.cons_inv;intro i x v hx
  cases i with
  |zero=>exact .cons hx b
  |succ i=>exact .cons a (ih b hx)
theorem aKf{k:Int}(hl:σ l=some (.list xs))(h0:0<=k)(hk:k<xs.length)(hz:xs.length<=1000)(hF:¬Γ.F l):SetOk Γ ms σ (.ref l) (.int k) z (upd σ l (.list (xs.set k.toNat z))):=
 ⟨Dom.upd,fun c s u v r Q E a hs' i1 i2 i3 q=>by
  refine bc fun nq=>?_;obtain⟨t,rfl⟩:=i2.int_inv;obtain rfl:=i1.ref_inv;obtain⟨vs,n,e,hv⟩:=a.list hl;have hlen:=hv.length;refine nq ?_;refine wpN.of (ki_setAt (items:=vs.toArray) (n:=n) (by rw[hs'];exact e) h0 (by exact z12 hk hz hlen) (by simp;exact z13 hk hlen) ?_);have hs2:Ch (c.ρ l) c.h (c.h.update (c.ρ l) (Dw (·.setIfInBounds k.toNat r))):=Dx ..;have hx:(c.h.update (c.ρ l) (Dw (·.setIfInBounds k.toNat r))).get? (c.ρ l)=some (listOf (vs.set k.toNat r).toArray n):=by
   rw[Dr _ e rfl];show some ({cls:=.type "list",data:=.seq (vs.toArray.setIfInBounds k.toNat r) (if(vs.toArray.setIfInBounds k.toNat r).size==vs.toArray.size then n else n+1)}:Obj)=_
   simp
  have S:Step (dom σ) c ⟨c.ρ,c.h.update (c.ρ l) (Dw (·.setIfInBounds k.toNat r))⟩:=⟨fun _ _=>rfl,fun b ws eb=>(hs2.2 b (fun w=>by
   obtain⟨x,h1,h2,_⟩:=a.ob l _ hl;rw[w,h1] at eb;cases eb;exact h2.notTup)).trans eb⟩
  have z:=a.put hl hF hs2 hx (.list _ _ n ((hv.mono Dom.upd S).set (i3.mono Dom.upd S)));have:=q _ s.toks z.1 z.2;simpa only[hs'] using this⟩
theorem aRn:kZ PySem.Challenge.rw_nu0358_01 Mine.hd.heap_1 True:=by
 k_fill
 exact trivial
theorem FN.cast{a:List Sh}{x:Sh}(h:FN w n f a σ x σ1)(ex:x=y)(es:σ1=σ2):FN w n f a σ y σ2:=ex▸es▸h
theorem SS.cast{t:Sem Flow}{fl':Fl}(h:SS Γ ms σ t fl ms1 σ1)(ef:fl=fl')(es:σ1=σ2):SS Γ ms σ t fl' ms1 σ2:=ef▸es▸h
theorem EB.cast{t:Sem Bool}{x y:Bool}(h:EB Γ ms σ t x σ1)(e:x=y):EB Γ ms σ t y σ1:=e▸h
theorem aC{o:Ob}:upd σ l o l=some o:=by unfold upd;rw[if_pos rfl]
theorem aCd{o:Ob}{r:Option Ob}(n:l'≠l)(h:σ l'=r):upd σ l o l'=r:=by unfold upd;rw[if_neg n];exact h
theorem aX{o:Ob}:upd (upd σ l o) l o'=upd σ l o':=by funext y;unfold upd;split <;> rfl
theorem jA{o:Ob}(h:σ l=some o):upd σ l o=σ:=by funext y;unfold upd;split <;> simp_all
structure Pen where
 (n k:Int)
noncomputable def Pen.ob(p:Pen):Ob:=.list [.int p.n,.int p.k]
noncomputable def Pen.norm(p:Pen):Pen:=if p.n=0 then⟨(2038*(p.k+1)+7013) ^ 9,p.k+1⟩ else p
noncomputable def Pen.digit(p:Pen)(many:Int):Int:=p.norm.n.fmod many
noncomputable def Pen.next(p:Pen)(many:Int):Pen:=⟨p.norm.n.fdiv many,p.norm.k⟩
section
variable{K:Type}[DecidableEq K]
noncomputable def aY(l:List (K×Sh))(k:K):Option Sh:=(l.find? fun kv=>kv.1=k).map (·.2)
noncomputable def bW(l:List (K×Sh))(k:K)(x:Sh):List (K×Sh):=if l.any (fun kv=>kv.1=k) then l.map (fun kv=>if kv.1=k then(kv.1,x) else kv) else l++[(k,x)]
theorem KAll.get{l:List (K×Sh)}{v:List (K×Value)}(h:KAll σ c l v){k:K}:(aY l k=none->Mz v k=none)/\∀x,aY l k=some x->∃u,Mz v k=some u/\Is σ c x u:=by
 induction h with
 |nil=>exact⟨fun _=>rfl,fun x e=>(by cases e)⟩
 | @cons k' x u l vs a _ ih=>
  unfold aY Mz at*;by_cases q:k'=k
  ·rw[Ga,Ga]
   ·exact⟨fun e=>(by cases e),fun y e=>⟨u,rfl,Cw e▸a⟩⟩
   all_goals exact decide_eq_true q
  ·rw[Ex,Ex]
   ·exact ih
   all_goals exact fun z=>q (of_decide_eq_true z)
theorem KAll.any{l:List (K×Sh)}{v:List (K×Value)}(h:KAll σ c l v){k:K}:l.any (fun kv=>kv.1=k)=v.any (fun kv=>kv.1=k):=by
 induction h with
 |nil=>rfl
 |cons a _ ih=>simp only[Lq,ih]
theorem KAll.put{l:List (K×Sh)}{v:List (K×Value)}(h:KAll σ c l v){k:K}{x:Sh}{u:Value}(i:Is σ c x u):KAll σ c (bW l k x) (Jt v k u):=by
 have m:KAll σ c (l.map (fun kv=>if kv.1=k then(kv.1,x) else kv)) (v.map (fun kv=>if kv.1=k then(kv.1,u) else kv)):=by
  induction h with
  |nil=>exact .nil
  | @cons k' y w l vs a _ ih=>
   show KAll σ c ((if k'=k then(k',x) else(k',y))::_) ((if k'=k then(k',u) else(k',w))::_)
   by_cases q:k'=k
   ·rw[if_pos q,if_pos q];exact .cons i ih
   ·rw[if_neg q,if_neg q];exact .cons a ih
 unfold bW Jt;rw[h.any]
 split
 ·exact m
 ·exact h.append (.cons i .nil)
theorem KAll.length{K:Type}{l:List (K×Sh)}{v:List (K×Value)}(h:KAll σ c l v):v.length=l.length:=by
 induction h with
 |nil=>rfl
 |cons _ _ ih=>simp only[Fu,ih]
end
inductive Ins(w:World)(σ:Sg)(c:Cf)(l d:Lbl)(C:Addr)(kvs:List (Str×Sh)):Prop
 |mk (od:Obj) (kv:List (Str×Value)) (i:InstAt c.h (c.ρ l) (Ej C (c.ρ d)) C (some od)) (k:od.IsDictOf (Br PW w) kv) (h:KAll σ c kvs kv) (e:c.h.get? (c.ρ d)=some od):Ins w σ c l d C kvs
theorem At.inst{kvs:List (Str×Sh)}(a:At Γ ms σ c)(hl:σ l=some (.inst C d))(hd:σ d=some (.sdict kvs)):Ins Γ.w σ c l d C kvs:=by
 obtain⟨x,h1,h2,_⟩:=a.ob l _ hl;obtain⟨y,h3,h4,_⟩:=a.ob d _ hd;obtain⟨_,rfl⟩:=h2.out;obtain⟨kv,e,hk⟩:=h4.out;exact⟨y,kv,⟨h1,rfl,rfl,h3⟩,e,hk,h3⟩
structure ClsOk(Γ:Gm)(C:Addr):Prop where
 hh:hasDictIn (Mine.hd.heap_1 Γ.w.params) C=true
 pg:∀n,Og (Mine.hd.heap_1 Γ.w.params) C n=true
theorem Is.handed{x:Sh}(i:Is σ c x v)(h:∀u,x = .con u->handedIn u=true):handedIn v=true:=by
 cases i <;> first|rfl|exact h _ rfl
theorem aBr{name:Str}{kvs:List (Str×Sh)}{x:Sh}(h:EV Γ ms σ (eval o Γ.env) (.ref l) σ1)(hl:σ1 l=some (.inst C d))(hd:σ1 d=some (.sdict kvs))(hv:aY kvs name=some x)(K:ClsOk Γ C)
  (hf:Cq (Mine.hd.heap_1 Γ.w.params) (.ref C) name=some none)(hc:∀u,x = .con u->handedIn u=true)(hb:Cd o name Γ.env (eval o Γ.env)=eval o Γ.env):EV Γ ms σ (eval (.Attribute o name pos) Γ.env) x σ1:=
 ⟨h.dom,fun c s Q E a hs q=>by
  rw[arm_eval_Attribute,hb];refine h.bind a hs fun u c1 t1 i1 a1 s1=>?_;refine bc fun nq=>?_;obtain rfl:=i1.ref_inv;obtain⟨od,kv,I,e,hk,_⟩:=a1.inst hl hd;obtain⟨r,hr,ir⟩:=hk.get.2 x hv;refine nq ?_;refine aG (bV ?_);refine get_value (x:=c1.ρ l) (K:=Mine.hd.heap_1 Γ.w.params) a1.K I (plainGet_of (K.pg name)).1 (findObj_own K.hh hf rfl (by rw[aCo e,hr])) (ir.handed hc) ?_;refine aK (wpAny_letTemporaryGo (aH ?_));exact q r c1 _ ir a1 s1⟩
theorem wP{name:Str}{args:List Aj}{f:Addr}{kvs:List (Str×Sh)}(h0:EV Γ ms σ (eval o env) (.ref l) σ1)(hl:σ1 l=some (.inst C d))(hd:σ1 d=some (.sdict kvs))(hv:aY kvs name=none)(K:ClsOk Γ C)
  (hf:Cq (Mine.hd.heap_1 Γ.w.params) (.ref C) name=some (some (.ref f)))(ht:isFn (Mine.hd.heap_1 Γ.w.params) (.ref f)=true)(k:Keeps Γ (.ref f))
  (h1:EL Γ ms σ1 (Co (Cc pos (Av args env))) shs σ2)
  (hb:Cd o name env (eval o env)=eval o env)(ok:cR args apos pos=true):EC Γ ms σ (eval (.Call (.Attribute o name apos) args [] pos) env) (.ref f) (.ref l::shs) σ2:=
 ⟨h0.dom.trans h1.dom,fun c s Q E a hs q=>by
  rw[Iz,hb];refine h0.bind a hs fun u c1 t1 i1 a1 s1=>?_;have i1':=i1;refine bc fun nq=>?_;cases i1;obtain⟨od,kv,I,e,hk,_⟩:=a1.inst hl hd;refine nq ?_;refine aG ?_;unfold Lg;rw[show(args.length+([]:List Nv).length)=args.length+0 from rfl,qF ok]
  refine bV ?_;refine method_fn (x:=c1.ρ l) (K:=Mine.hd.heap_1 Γ.w.params) a1.K I (plainGet_of (K.pg name)).1 (plainGet_of (K.pg name)).2 hf (beq_iff_eq.mp ht) (by show(lookIn name od).map _=_;rw[aCo e,hk.get.1 hv];rfl) ?_;rw[xM ok];refine aW ?_;exact gO (fsh:=[.ref l]) k h1 (lM ok) (aCk ok) c1 _ Q E a1 rfl (.cons i1' .nil) fun vs c2 t2 i2 a2 s2=>q _ c2 t2 i2 a2 (s1.trans (s2.mono h0.dom))⟩
theorem aKp{name:Str}{args:List Aj}{f:Addr}{kvs:List (Str×Sh)}{x:Sh}(h0:EV Γ ms σ (eval o Γ.env) (.ref l) σ1)(hl:σ1 l=some (.inst C d))(hd:σ1 d=some (.sdict kvs))(hv:aY kvs name=none)(K:ClsOk Γ C)
  (hf:Cq (Mine.hd.heap_1 Γ.w.params) (.ref C) name=some (some (.ref f)))(ht:isFn (Mine.hd.heap_1 Γ.w.params) (.ref f)=true)(k:Keeps Γ (.ref f))
  (h1:EL Γ ms σ1 (Co (Cc pos (Av args Γ.env))) shs σ2)(h2:CallOk Γ ms σ2 (.ref f) (.ref l::shs) x σ3)
  (hb:Cd o name Γ.env (eval o Γ.env)=eval o Γ.env)(ok:cR args apos pos=true):EV Γ ms σ (eval (.Call (.Attribute o name apos) args [] pos) Γ.env) x σ3:=(wP h0 hl hd hv K hf ht k h1 hb ok).ok h2
theorem aKn{k:Nat}:EV Γ ms σ (eval (.Constant (.str x) k pos) Γ.env) (.str x) σ:=.look fun c s Q E a hs q=>by
 refine wpAny_mkText ?_;exact fin hs (q _ (s.toks+1) (.str x s.toks))
theorem aKo{k:Nat}:EV Γ ms σ (eval (.Constant .none k pos) Γ.env) .none σ:=.look fun c s Q E a hs q=>by
 refine Ak ?_;exact fin hs (q _ s.toks .none)
theorem aQo{b:Bool}{k:Nat}:EV Γ ms σ (eval (.Constant (.bool b) k pos) Γ.env) (.bool b) σ:=.look fun c s Q E a hs q=>by
 refine Ak ?_;exact fin hs (q _ s.toks (.bool b))
theorem uE{b:Bool}(h:EV Γ ms σ whole (.bool b) σ1)(he:isTrue e Γ.env whole=(do let v <-whole;Fb e.pos;Dc [v] (truthy v))):EB Γ ms σ (isTrue e Γ.env whole) b σ1:=
 ⟨h.dom,fun c s Q E a hs q=>by
  rw[he];refine h.bind a hs fun v c1 t1 i1 a1 s1=>?_;obtain rfl:=i1.bool_inv;exact aG (aF (wpN.of (Du (q b c1 t1 rfl a1 s1))))⟩
theorem bK{t a b:Aj}{x:Sh}(h:EB Γ ms σ (isTrue t Γ.env (eval t Γ.env)) true σ1)(h2:EV Γ ms σ1 (eval a Γ.env) x σ2):EV Γ ms σ (eval (.IfExp t a b pos) Γ.env) x σ2:=
 ⟨h.dom.trans h2.dom,fun c s Q E a hs q=>by
  rw[arm_eval_IfExp];refine h.bind a hs fun v c1 t1 i1 a1 s1=>?_;subst i1;exact h2.run c1 _ _ E a1 rfl fun v c2 t2 i2 a2 s2=>q v c2 t2 i2 a2 (s1.trans (s2.mono h.dom))⟩
theorem bE{t a b:Aj}{x:Sh}(h:EB Γ ms σ (isTrue t Γ.env (eval t Γ.env)) false σ1)(h2:EV Γ ms σ1 (eval b Γ.env) x σ2):EV Γ ms σ (eval (.IfExp t a b pos) Γ.env) x σ2:=
 ⟨h.dom.trans h2.dom,fun c s Q E a hs q=>by
  rw[arm_eval_IfExp];refine h.bind a hs fun v c1 t1 i1 a1 s1=>?_;subst i1;exact h2.run c1 _ _ E a1 rfl fun v c2 t2 i2 a2 s2=>q v c2 t2 i2 a2 (s1.trans (s2.mono h.dom))⟩
noncomputable def fS:Sh->Bool
 | .none=>true
 |_=>false
noncomputable def aHh:Sh->Bool
 | .con _=>false
 |_=>true
theorem aKx{x:Sh}(h:aHh x=true):CmpOk Γ ms σ .Is x .none (fS x):=⟨fun c s u v Q E a hs i j q=>by
 cases j;have q':=q s.toks;rw[<-hs] at q'
 cases i <;> first| (exact wpAny_is_self rfl q')| (exact wpAny_is_other rfl (by intro z;cases z) q')|cases h⟩
theorem nR{x:Sh}(h:aHh x=true):CmpOk Γ ms σ .IsNot x .none (!fS x):=⟨fun c s u v Q E a hs i j q=>by
 cases j;have q':=q s.toks;rw[<-hs] at q'
 cases i <;> first| (exact wpAny_isNot_self rfl q')| (exact wpAny_isNot_other rfl (by intro z;cases z) q')|cases h⟩
structure DK(K:Type)[DecidableEq K] where
 knd:(w:World)->KeyKind PW w K
 ob:List (K×Sh)->Ob
 sh:K->Sh
 inv:∀{w:World} {σ:Sg} {c:Cf} {l:List (K×Sh)} {x:Obj},ObIs w σ c (ob l) x->∃kv,x.IsDictOf (knd w) kv/\KAll σ c l kv
 back:∀{w:World} {σ:Sg} {c:Cf} {l:List (K×Sh)} {x:Obj} {kv:List (K×Value)},x.IsDictOf (knd w) kv->KAll σ c l kv->ObIs w σ c (ob l) x
 key:∀{w:World} {σ:Sg} {c:Cf} {k:K} {v:Value},Is σ c (sh k) v->(knd w).is k v=true
noncomputable def dkS:DK Str:=⟨fun w=>Br PW w,.sdict,.str,fun h=>h.out,fun e hk=>.sdict _ _ _ e hk,fun h=>by obtain⟨_,rfl⟩:=h.str_inv;exact Lc _ _ _ _⟩
noncomputable def dkI:DK Int:=⟨fun w=>Ea PW w,.idict,.int,fun h=>h.out,fun e hk=>.idict _ _ _ e hk,fun h=>by obtain⟨_,rfl⟩:=h.int_inv;exact intKind_is _ _ _ _⟩
noncomputable def dkB:DK (List UInt8):=⟨fun w=>Hn PW w,.bdict,.bytes,fun h=>h.out,fun e hk=>.bdict _ _ _ e hk,fun h=>by obtain⟨_,rfl⟩:=h.bytes_inv;exact aIv _ _⟩
section
variable{K:Type}[DecidableEq K](dk:DK K)
inductive Dic{K:Type}[DecidableEq K](knd:KeyKind PW w K)(σ:Sg)(c:Cf)(l:Lbl)(kvs:List (K×Sh)):Prop
 |mk (x:Obj) (kv:List (K×Value)) (e:c.h.get? (c.ρ l)=some x) (d:x.IsDictOf knd kv) (h:KAll σ c kvs kv) (b:1<c.ρ l):Dic knd σ c l kvs
theorem At.dict{kvs:List (K×Sh)}(a:At Γ ms σ c)(hl:σ l=some (dk.ob kvs)):Dic (dk.knd Γ.w) σ c l kvs:=by
 refine bc fun nq=>?_;obtain⟨x,h1,h2,_,h4⟩:=a.ob l _ hl;obtain⟨kv,e,hk⟩:=dk.inv h2;refine nq ?_;exact⟨x,kv,h1,e,hk,h4⟩
theorem zC{value:Aj}{kvs:List (K×Sh)}{k:K}(hl:σ l=some (dk.ob kvs))(hk:aY kvs k=some z)
  (hs:∀o i:Value,Ih slice false o i=Jn [o,i] (Ma o i)):SubOk Γ ms σ value slice (.ref l) (dk.sh k) z σ:=
 ⟨Dom.refl σ,fun c s u v Q E a hs' i1 i2 q=>by
  obtain rfl:=i1.ref_inv;obtain⟨x,kv,e,hd,hv,_⟩:=a.dict dk hl;obtain⟨r,hr,ir⟩:=hv.get.2 z hk;have D:s.heap.DictOf (dk.knd Γ.w) (c.ρ l) kv:=Bk.mpr ⟨x,by rw[hs'];exact e,hd⟩;refine tail_any D.typeIs slot_dict_getitem.lookup (wpAny_getItem_of (dk.key i2) D.mapOf hr ?_) (hs _ _);have:=q r c (s.toks+1) ir a (Step.refl c);rwa[<-hs'] at this⟩
theorem zG{kvs:List (K×Sh)}{k:K}(hl:σ l=some (dk.ob kvs)):CmpOk Γ ms σ .In (dk.sh k) (.ref l) (aY kvs k).isSome:=⟨fun c s u v Q E a hs i j q=>by
 cases j;obtain⟨x,kv,e,hd,hv,h1⟩:=a.dict dk hl;have D:s.heap.DictOf (dk.knd Γ.w) (c.ρ l) kv:=Bk.mpr ⟨x,by rw[hs];exact e,hd⟩;have es:(aY kvs k).isSome=(Mz kv k).isSome:=by
  cases q:aY kvs k with
  |none=>rw[hv.get.1 q];rfl
  |some y=>obtain⟨u,h,_⟩:=hv.get.2 y q;rw[h];rfl
 rw[es] at q;have q':=q (s.toks+1);rw[<-hs] at q';exact wpAny_in_of (dk.key i) (beq_eq_false_iff_ne.mpr (Da h1)) D.mapOf q'⟩
theorem sF{kvs:List (K×Sh)}{k:K}(hl:σ l=some (dk.ob kvs)):CmpOk Γ ms σ .NotIn (dk.sh k) (.ref l) (!(aY kvs k).isSome):=⟨fun c s u v Q E a hs i j q=>by
 cases j;obtain⟨x,kv,e,hd,hv,h1⟩:=a.dict dk hl;have D:s.heap.DictOf (dk.knd Γ.w) (c.ρ l) kv:=Bk.mpr ⟨x,by rw[hs];exact e,hd⟩;have es:(aY kvs k).isSome=(Mz kv k).isSome:=by
  cases q:aY kvs k with
  |none=>rw[hv.get.1 q];rfl
  |some y=>obtain⟨u,h,_⟩:=hv.get.2 y q;rw[h];rfl
 rw[es] at q;have q':=q (s.toks+1);rw[<-hs] at q';exact wpAny_notIn_of (dk.key i) (beq_eq_false_iff_ne.mpr (Da h1)) D.mapOf q'⟩
theorem rS{kvs:List (K×Sh)}{k:K}(hl:σ l=some (dk.ob kvs))(hz:kvs.length<=1000)(hF:¬Γ.F l):SetOk Γ ms σ (.ref l) (dk.sh k) z (upd σ l (dk.ob (bW kvs k z))):=
 ⟨Dom.upd,fun c s u v r Q E a hs' i1 i2 i3 q=>by
  obtain rfl:=i1.ref_inv;obtain⟨x,kv,e,hd,hv,h1⟩:=a.dict dk hl;have D:s.heap.DictOf (dk.knd Γ.w) (c.ρ l) kv:=Bk.mpr ⟨x,by rw[hs'];exact e,hd⟩;refine wpN.of (wpAny_setItem_pairs (dk.key i2) D (fun h' hD hsb=>?_) (by rw[hv.length,Bh];exact nle hz));rw[hs'] at hsb;obtain⟨o',ho',hd'⟩:=Bk.mp hD;have S:Step (dom σ) c ⟨c.ρ,h'⟩:=⟨fun _ _=>rfl,fun b ws eb=>(hsb.2 b (fun w=>by
   obtain⟨x,h1,h2,_⟩:=a.ob l _ hl;rw[w,h1] at eb;cases eb;exact h2.notTup)).trans eb⟩
  have z:=a.put hl hF hsb ho' (dk.back hd' ((hv.mono Dom.upd S).put (i3.mono Dom.upd S)));exact q ⟨c.ρ,h'⟩ _ z.1 z.2⟩
end
theorem sW(names:List (Str×Nh)):∀(n:Nat) (acc:List (Str×Addr)),(∀p∈acc,p.2<n)->(∀p∈acc,∀q∈acc,p.2=q.2->p.1=q.1)->
  ∀p∈Ew n names acc,∀q∈Ew n names acc,p.2=q.2->p.1=q.1:=by
 induction names with
 |nil=>exact fun n acc _ h=>h
 |cons x r ih=>
  obtain⟨name,kind⟩:=x;intro n acc hl h;unfold Ew
  split
  ·refine ih (n+1) _ (fun p hp=>?_) (fun p hp q hq e=>?_)
   ·rcases An.mp hp with rfl|hp
    ·exact Bp _
    ·exact Au (hl p hp)
   ·rcases An.mp hp with rfl|hp <;> rcases An.mp hq with rfl|hq
    ·rfl
    ·exact absurd (hl q hq) (by rw[<-e];exact Ed _)
    ·exact absurd (hl p hp) (by rw[e];exact Ed _)
    ·exact h p hp q hq e
  ·exact ih n acc hl h
theorem vP{names:List (Str×Nh)}(x y:Str)(b:Addr)(h1:(Ew n names []).lookup x=some b)(h2:(Ew n names []).lookup y=some b):x=y:=
 sW names n [] (fun _ h=>by cases h) (fun _ h=>by cases h) _ (mem_of_lookup h1) _ (mem_of_lookup h2) rfl
noncomputable def msF:List (Str×Sh)->(Str->Option Sh)->Str->Option Sh
 | [],m=>m
 | (n,v)::r,m=>msF r (fun y=>if y=n then some v else m y)
theorem aPd(l:List (Str×Sh)):∀(m:Str->Option Sh) (y:Str),msF l m y=(l.reverse.lookup y).or (m y):=by
 induction l with
 |nil=>simp[msF]
 |cons x r ih=>
  obtain⟨n,v⟩:=x;intro m y;rw[msF,ih,Hz,List.lookup_append,Option.or_assoc]
  congr 1
  rw[Bj];by_cases h:y=n
  ·simp[h]
  ·simp[h,beq_eq_false_iff_ne.mpr h]
theorem aJf{kd:Str->Option Nh}{l:List (Str×Sh)}{v:List (Str×Value)}(h:KAll σ c l v):∀(ml:Str->Option Sh) (m cm:Str->Option Value),
  (∀x sh,kd x=some .local->ml x=some sh->∃u,m x=some u/\Is σ c sh u)->(∀x sh,kd x≠some .local->ml x=some sh->∃u,cm x=some u/\Is σ c sh u)->
  (∀x sh,kd x=some .local->msF l ml x=some sh->∃u,bindL kd v m x=some u/\Is σ c sh u)/\(∀x sh,kd x≠some .local->msF l ml x=some sh->∃u,bindC kd v cm x=some u/\Is σ c sh u):=by
 induction h with
 |nil=>exact fun ml m cm h1 h2=>⟨h1,h2⟩
 | @cons n y w l v a t ih=>
  intro ml m cm h1 h2;refine ih _ _ _ (fun x sh hk e=>?_) (fun x sh hk e=>?_)
  ·skip
   by_cases q:x=n
   ·subst q;rw[if_pos rfl] at e;cases e;exact⟨w,by rw[if_pos hk];exact if_pos rfl,a⟩
   ·rw[if_neg q] at e;obtain⟨u,h3,h4⟩:=h1 x sh hk e;refine⟨u,?_,h4⟩
    split
    ·exact(if_neg q).trans h3
    ·exact h3
  ·skip
   by_cases q:x=n
   ·subst q;rw[if_pos rfl] at e;cases e;exact⟨w,by rw[if_neg hk];exact if_pos rfl,a⟩
   ·rw[if_neg q] at e;obtain⟨u,h3,h4⟩:=h2 x sh hk e;refine⟨u,?_,h4⟩
    split
    ·exact h3
    ·exact(if_neg q).trans h3
section
variable{name:Str}{an od:Option Addr}{osl:Array (Option Value)}{f:Addr}
theorem cM{x:Sh}(D:Dom σ σ')
  (ho:(Mine.hd.heap_1 w.params).lookup f=some ⟨oc,od,.func (fnOf name qual params body scope dV kV doc pm an cdv ct),osl⟩)(hcd:Ms (Mine.hd.heap_1 w.params) cdv qual=true)
  (names:List Str)(ms:List (Str×Sh))(hms:(names.zip args).reverse=ms)
  (hbind:∀s vs,vs.length=args.length->Ll s (fnOf name qual params body scope dV kV doc pm an cdv ct) ⟨vs,[]⟩ (names.zip vs))
  (hkind:∀y∈names,scope.names.lookup y=some .local\/(scope.names.lookup y=some .cell/\((Ew 0 scope.names []).lookup y).isSome=true))(hoff:∀L y,((Ew L scope.names []).lookup y).isSome=((Ew 0 scope.names []).lookup y).isSome)
  (hloc:∀L y,scope.names.lookup y=some .local->(Ew L scope.names []).lookup y=none)
  (h:∀(A:Ez) (base:Heap) (outer:List Env) (g:Heap) (mg mb:Str->Option Value) (L:Addr),∃ms',SS ⟨w,A.deeper (Oo qual scope L f cdv),base,Oo qual scope L f cdv::outer,g,eH base L,mg,mb,n,L,Oo qual scope L f cdv,dom σ,noF⟩ (mL ms) σ (execs body (Oo qual scope L f cdv)) (.ret x) ms' σ')
  (hco:scope.isCoroutine=false:=by rfl)(hgen:scope.isGenerator=false:=by rfl)(hk:scope.kind = .function:=by rfl):FN w (n+1) (.ref f) args σ x σ':=by
 refine⟨D,fun A base outer g mg mb c s vs R C H hs hv q=>?_⟩;have kp:∀b o,base.get? b=some o->s.heap.get? b=some o:=fun b o e=>hs▸C.low H b o e;refine kA (fd:=fnOf name qual params body scope dV kV doc pm an cdv ct) (by have:=C.hd;omega) (C.X.keeps kp _ _ ho) rfl hco hgen rfl (codeRec_of (C.X.keeps kp) hcd) (hbind s vs hv.length _ _ _ _ ?_);refine wpAny_newFunctionEnv_cells hk (fun y hy=>(hkind y.1 (List.of_mem_zip hy).1).imp id fun h=>⟨h.1,(hoff _ _).trans h.2⟩) fun env' he s' z=>?_;subst he;refine bc fun nq=>?_;obtain⟨h₁,tk,rfl,hk₁⟩:=z.done;obtain⟨ms',h⟩:=h A base outer g mg mb s.heap.objs.size;refine nq ⟨(C.T.nolimit.keeps kp).keeps hk₁,rG ?_⟩;have hk₁:∀b o,c.h.get? b=some o->h₁.get? b=some o:=fun b o e=>hk₁ b o (hs▸e);have S₁:Step (dom σ) c ⟨c.ρ,h₁⟩:=⟨fun _ _=>rfl,fun _ _ e=>hk₁ _ _ e⟩;have rel:=aJf (kd:=(Oo qual scope s.heap.objs.size f cdv).kindOf) (hv.mono (Dom.refl _) S₁).zip (l:=names.zip args) (fun _=>none) (fun _=>none) (fun _=>none) (fun _ _ _ e=>by cases e) (fun _ _ _ e=>by cases e);have up:∀y sh,mL ms y=some sh->msF (names.zip args) (fun _=>none) y=some sh:=fun y sh e=>by
  rw[aPd,hms];unfold mL at e;rw[e];rfl
 refine h.run ⟨c.ρ,h₁⟩ _ _ _ (sM (env:=Oo qual scope s.heap.objs.size f cdv) C H (by rw[hs]) rfl rfl rfl rfl hk vP hk₁ z.toInCall.ns (fun x sh hk e=>rel.1 x sh hk (up x sh e)) fun y a hy=>⟨⟨_,z.cell y a hy,fun sh e=>rel.2 y sh (fun hk'=>?_) (up y sh e)⟩,z.above y a (mem_of_lookup hy)⟩) rfl fun f' c' tk hf a' S'=>q _ c' tk hf.val (a'.toHp.outGm rfl) (S₁.trans S');have:=hloc (s.heap.objs.size+1) y hk';rw[show(Ew (s.heap.objs.size+1) scope.names []).lookup y=some a from hy] at this
 cases this
end
theorem aAf{l:List (Str×Addr)}:∀{l':List (Str×Addr)},l.map (·.1)=l'.map (·.1)->∀y,(l.lookup y).isSome=(l'.lookup y).isSome:=by
 induction l with
 |nil=>intro l' e y;obtain rfl:=List.map_eq_nil_iff.mp e.symm;rfl
 |cons p l ih=>
  intro l' e y
  cases l' with
  |nil=>cases e
  |cons p' l'=>
  obtain⟨a,x⟩:=p;obtain⟨b,x'⟩:=p';obtain⟨e1,e2⟩:=List.cons.inj e;have e1:a=b:=e1;clear e;subst e1;rw[Bj,Bj]
  split
  ·rfl
  ·exact ih e2 y
theorem dA(scope:Scope)(L:Addr)(y:Str):((Ew L scope.names []).lookup y).isSome=((Ew 0 scope.names []).lookup y).isSome:=
 aAf (cellsFrom_names scope.names L 0 [] [] rfl) y
theorem dH(h:(scope.names.all fun p=>p.2 != .local || ((Ew 0 scope.names []).lookup p.1).isNone)=true)(L:Addr)(y:Str)(e:scope.names.lookup y=some .local):(Ew L scope.names []).lookup y=none:=by
 have z:=Ha.mp h _ (mem_of_lookup e);have z:((Ew 0 scope.names []).lookup y).isNone=true:=by simpa using z
 have w:=dA scope L y
 cases q:(Ew L scope.names []).lookup y with
 |none=>rfl
 |some a=>rw[q] at w;rw[Option.isNone_iff_eq_none.mp z] at w;cases w
theorem aHb{o:Obj}{kv:List (Str×Value)}(hd:o.IsDictOf (Br PW w) kv)(name:Str)(t:Tok)(v:Value):
  (Ow name (hashStr w name) (.str name t) v o).IsDictOf (Br PW w) (Jt kv name v):=by
 rw[Obj.putName_eq];obtain⟨es,ep,hc,hdat,hk,hp,hn⟩:=hd;obtain⟨c,d,dt,sl⟩:=o;obtain rfl:dt = .dict es ep:=hdat;have hidx:(es.findIdx? fun e=>(Br PW w).is name e.key)=kv.findIdx? fun x=>decide (x.1=name):=by
  rw[<-hp.findIdx name];obtain⟨l⟩:=es;simp
 unfold Obj.putNameByArray;dsimp only;rw[((funext fun(e:Kx)=>(Br PW w).strs name name 0 e.key (Lc PW w name 0)).symm:(fun e:Kx=>e.key.isStr name)=fun e=>(Br PW w).is name e.key)]
 cases hi:es.findIdx? fun e=>(Br PW w).is name e.key with
 |some i=>
  refine⟨_,_,hc,rfl,hk.modify _ _,?_,?_⟩
  ·rw[Jt,if_pos (any_of_findIdx_some (hidx▸hi))];have hl:(es.toList.findIdx? fun e=>(Br PW w).is name e.key)=some i:=by rw[<-hi];obtain⟨l⟩:=es;simp
   have:=hp.modify hn hl v;obtain⟨l⟩:=es;simpa using this
  ·rw[Jt,if_pos (any_of_findIdx_some (hidx▸hi)),keys_map_store];exact hn
 |none=>
  have hnot:name∉kv.map (·.1):=not_mem_of_findIdx_none (hidx▸hi);have hany:¬(kv.any fun x=>decide (x.1=name))=true:=by
   rw[List.any_eq_true];rintro⟨x,hx,q⟩;exact hnot (Aq.mpr ⟨x,hx,of_decide_eq_true q⟩)
  refine⟨_,_,hc,rfl,hk.push (Lc PW w name t) v,?_,?_⟩
  ·rw[Jt,if_neg hany];have:=hp.append (Lc PW w name t) (hashStr w name) v;obtain⟨l⟩:=es;simpa using this
  ·rw[Jt,if_neg hany,Dg,Gp];refine⟨hn,by simp,?_⟩;intro a ha b hb;simp only[Dh,Ib,Ax] at hb;subst hb;exact fun e=>hnot (e▸ha)
structure StoreOk(Γ:Gm)(C:Addr)(name:Str):Prop where
 sa:Cq (Mine.hd.heap_1 Γ.w.params) (.ref C) "__setattr__"=some (some (.builtin "object.__setattr__"))
 po:plainOver (Mine.hd.heap_1 Γ.w.params) C=true
 tk:takerIn (Mine.hd.heap_1 Γ.w.params) C name=some none
 hh:hasDictIn (Mine.hd.heap_1 Γ.w.params) C=true
theorem qG{D:Addr}{od:Obj}{kv:List (Str×Value)}{name:Str}{Q:Kz->Ai->Prop}(hD:s.heap.get? D=some od)(e0:od.IsDictOf (Br PW w) kv)(hz:kv.length<=900)
  (h:∀h' tk od',Ch D s.heap h'->h'.get? D=some od'->od'.IsDictOf (Br PW w) (Jt kv name v)->Q (.done (.ret .none)) {s with heap:=h',toks:=tk}):
  wpAny (model PW w) A (do nsSet D name v;lookBehind D (some (.str name 0));ret .none) Q E s:=by
 have e':=aHb e0 name s.toks v;refine bc fun nq=>?_;obtain⟨es,ep,_,hdat,_,hp,_⟩:=id e0;obtain⟨es2,ep2,_,h2,_,hp2,_⟩:=id e';have nr:es.any (·.refKey)=false:=by
  have:=nW hp;rwa[Array.any_toList] at this
 have G:(s.heap.update D (Ow name (hashStr w name) (.str name s.toks) v)).get? D=some (Ow name (hashStr w name) (.str name s.toks) v od):=Dr _ hD (Obj.isFreed_of_dict h2);refine nq (Ab ?_);refine Ab (Ab (wpAny_askSetting (Ak (Ab (wpAny_mkText (Ab (wpAny_loadPart hD ?_)))))));rw[hdat];dsimp only;rw[aRefKeyMayBeTheName_at,nr,Bool.and_false];refine wpAny_updatePart hD (Ab (Nm G ?_ (Ak (h _ _ _ (Dx ..) G e'))));rw[h2];refine pastItsLine_dict ?_;have l3:(Jt kv name v).length<=kv.length+1:=by
  unfold Jt;split
  ·rw[Ag];exact Cs _
  ·rw[Cz];exact Bs _
 have l4:es2.toList.length=es2.size:=He;exact z74 hz (hp2.length) l4 l3
theorem aGy{kvs:List (Str×Sh)}{x:Sh}{name:Str}{Q:Unit->Ai->Prop}(a:At Γ ms σ c)(hs:s.heap=c.h)(hl:σ l=some (.inst C d))(hd:σ d=some (.sdict kvs))(hz:kvs.length<=900)(hF:¬Γ.F d)(S:StoreOk Γ C name)(i:Is σ c x v)
  (q:∀c' tk,At Γ ms (upd σ d (.sdict (bW kvs name x))) c'->Step (dom σ) c c'->Q () {s with heap:=c'.h,toks:=tk}):wpAny (M Γ) Γ.Ad (Na (.ref (c.ρ l)) name v) Q E s:=by
 obtain⟨od,kv,I,e,hk,D⟩:=a.inst hl hd;have X:(Mine.hd.heap_1 Γ.w.params).In s.heap:=by rw[hs];exact a.K
 have I':InstAt s.heap (c.ρ l) (Ej C (c.ρ d)) C (some od):=by rw[hs];exact I
 refine set_plain X I' S.sa (osa_open (s:={s with toks:=s.toks+1}) X I' S.po S.tk fun b=>?_);refine bc fun nq=>?_;obtain⟨cd,hc,hd'⟩:=any_some S.hh;refine nq ?_;refine Ab (Ak (Ab (Ab (wpAny_loadPart I'.1 (Ab (Looks.here (s:={s with toks:=s.toks+1}) (looks_clsIn X hc) ?_))))));rw[hd'];refine Ak (a:=some (c.ρ d)) (Ab (Ak (qG (s:={s with toks:=s.toks+1}) (by show s.heap.get? _=_;rw[hs];exact D) e (by rw[hk.length];exact hz) fun h' tk od' sb G e'=>?_)));have sb:Ch (c.ρ d) c.h h':=hs▸sb;have S':Step (dom σ) c ⟨c.ρ,h'⟩:=⟨fun _ _=>rfl,fun b ws eb=>(sb.2 b (fun w=>by
  obtain⟨x,h1,h2,_⟩:=a.ob d _ hd;rw[w,h1] at eb;cases eb;exact h2.notTup)).trans eb⟩
 have z:=a.put hd hF sb G (.sdict (bW kvs name x) _ _ e' ((hk.mono Dom.upd S').put (i.mono Dom.upd S')));exact q ⟨c.ρ,h'⟩ tk z.1 z.2
theorem fP{name:Str}{kvs:List (Str×Sh)}{x:Sh}(h1:EV Γ ms σ (eval e Γ.env) x σ1)(h2:EV Γ ms σ1 (eval o Γ.env) (.ref l) σ2)(hl:σ2 l=some (.inst C d))(hd:σ2 d=some (.sdict kvs))(hz:kvs.length<=900)(hF:¬Γ.F d)(S:StoreOk Γ C name)
  (hs:Gb e (some (.Attribute o name pos')) pos.line Γ.env=pure false):SS Γ ms σ (exec (.Assign [.Attribute o name pos'] e pos) Γ.env) .next ms (upd σ2 d (.sdict (bW kvs name x))):=
 ⟨fun c s Q E a hs' q=>by
  rw[plainObj_exec_Assign_Attribute o name pos' e pos hs];refine aG (h1.bind a hs' fun r c1 t1 i1 a1 s1=>?_);have ea:Hm (.Attribute o name pos') Γ.env r=(do
   let ov <-Dc [r] (eval o Γ.env)
   Fb pos'.atName
   Dc [r,ov] (Na ov name r)
   Nb [r,ov] []):=rfl
  refine aE (h2.hold a1 rfl fun u c2 t2 i2 a2 s2=>?_);obtain rfl:=i2.ref_inv;refine aG (aE (aF (wpN.of (aGy a2 rfl hl hd hz hF S (i1.mono h2.dom s2) fun c3 t3 a3 s3=>?_))));refine dB (aH ?_);exact q _ c3 t3 .next a3 (((a.step s1).trans (a1.step s2)).trans (a2.step s3))⟩
noncomputable abbrev Gm.frz(Γ:Gm)(g:Heap)(P F:Lbl->Prop):Gm:=⟨Γ.w,Γ.Ad,Γ.base,Γ.stk,g,Γ.g0,Γ.mg,Γ.mb,Γ.n,Γ.L,Γ.env,P,F⟩
open Classical in
theorem At.freeze(F':Lbl->Prop)(hF:∀l,Γ.F l->F' l)(a:At Γ ms σ c):∃g',At (Γ.frz g' (dom σ) F') ms σ c/\(∀b o,Γ.g.get? b=some o->Kept Γ.fr b o g')/\
  (∀b o,c.h.get? b=some o->b≠Γ.L->(∀l,σ l≠none->¬F' l->c.ρ l≠b)->(∀x a,Γ.env.cells.lookup x=some a->a≠b)->g'.get? b=some o):=by
 refine bc fun nq=>?_;obtain⟨as,h1,h2⟩:∃as:List Addr,(∀l,σ l≠none->¬F' l->c.ρ l∈as)/\∀b∈as,∃l,σ l≠none/\¬F' l/\b=c.ρ l:=by
  refine bc fun nq=>?_;obtain⟨as,h1,h2⟩:=a.addrs;refine nq ?_;refine⟨as.filter fun b=>∃l,σ l≠none/\¬F' l/\b=c.ρ l,fun l p q=>Db.mpr ⟨h1 l p,decide_eq_true ⟨l,p,q,rfl⟩⟩,fun b hb=>?_⟩;have:=(Db.mp hb).2;exact of_decide_eq_true this
 have cellIn:∀x b,Γ.env.cells.lookup x=some b->b∈(Γ.env.cells.filter fun p=>Γ.env.cells.lookup p.1=some p.2).map (·.2):=fun x b e=>Aq.mpr ⟨(x,b),Db.mpr ⟨mem_of_lookup e,decide_eq_true e⟩,rfl⟩;have cellOf:∀b,b∈(Γ.env.cells.filter fun p=>Γ.env.cells.lookup p.1=some p.2).map (·.2)->∃x,Γ.env.cells.lookup x=some b:=fun b hb=>by
  obtain⟨p,hp,rfl⟩:=Aq.mp hb;exact⟨p.1,of_decide_eq_true (Db.mp hp).2⟩
 generalize (Γ.env.cells.filter fun p=>Γ.env.cells.lookup p.1=some p.2).map (·.2)=cs at cellIn cellOf;obtain⟨m,F,hm⟩:=a.fr;have G:=a.ok;have off:∀b o,Γ.g.get? b=some o->b∉as++Γ.L::cs:=fun b o e z=>by
  rcases Ce.mp z with z|z
  ·obtain⟨l,hl,nl,rfl⟩:=h2 b z
   cases q:σ l with
   |none=>exact hl q
   |some ob=>
    obtain⟨_,_,_,h3,_⟩:=a.ob l ob q;have h3:=h3.resolve_right (fun y=>nl (hF l y));rw[e] at h3;cases h3
  ·rcases An.mp z with rfl|z
   ·rw[F.off] at e;cases e
   ·obtain⟨x,hx⟩:=cellOf b z;have:=(a.cel x b hx).2.1.2;rw[e] at this;cases this
 have sub:∀b o,Γ.g.get? b=some o->Kept Γ.fr b o (Es c.h (as++Γ.L::cs)):=fun b o e=>(a.keep b o e).go fun o' e'=>Dl _ e' (off b o e);have none':∀b,b∈as++Γ.L::cs->(Es c.h (as++Γ.L::cs)).get? b=none:=fun b hb=>Er _ hb;refine nq ?_;refine⟨Es c.h (as++Γ.L::cs),⟨⟨fun l o e=>?_,a.inj,a.fin,fun b o e=>.inl (Ie _ e)⟩,?_,⟨m,⟨F.ns,fun b o e=>.inl (Ie _ e),none' _ (Gi _ (.head _))⟩,hm⟩,a.offL,fun x b hb=>?_,fun l p=>p⟩,sub,fun b o e n1 n2 n3=>Dl _ e fun z=>?_⟩
 ·obtain⟨x,x1,x2,_,x4⟩:=a.ob l o e;by_cases q:F' l
  ·exact⟨x,x1,x2,.inr q,x4⟩
  ·exact⟨x,x1,x2,.inl (none' _ (Fj _ (h1 l (by rw[e];exact fun z=>by cases z) q))),x4⟩
 ·exact⟨fun h m hg hns=>G.B h m (fun b o e=>(sub b o e).trans fun o'=>hg b o') hns,G.XB,G.TB,G.X0,G.T0,fun b o e=>(sub b o (G.sub b o e)).ex fun f=>G.nfr b o e f.1,G.nfr,fun b f=>by
   refine bc fun nq=>?_;obtain⟨o,es,n,e,d⟩:=G.frg b f;obtain⟨o',e',d'⟩:=(sub b o e).at;refine nq ?_;exact⟨o',es,n,e',d'.trans d⟩,G.low,G.hd,G.hu,G.hh,G.ek,G.el,G.eg,G.eb,G.ci⟩
 ·refine bc fun nq=>?_;obtain⟨u,⟨n1,_⟩,n3⟩:=a.cel x b hb;refine nq ?_;exact⟨u,⟨n1,none' _ (Gi _ (.tail _ (cellIn x b hb)))⟩,n3⟩
 ·rcases Ce.mp z with z|z
  ·obtain⟨l,hl,nl,rfl⟩:=h2 b z;exact n2 l hl nl rfl
  ·rcases An.mp z with rfl|z
   ·exact n1 rfl
   ·obtain⟨x,hx⟩:=cellOf b z;exact n3 x b hx rfl
theorem At.thaw{P:Lbl->Prop}{c0:Cf}(a0:At Γ ms1 σ1 c0)(sub:∀b o,Γ.g.get? b=some o->Kept Γ.fr b o g')(hF:∀l,F' l->σ1 l≠none)(hP:∀l,σ1 l≠none->P l)(S:Step (dom σ1) c0 c)(a:At (Γ.frz g' P F') ms σ c):At Γ ms σ c:=by
 have nn:∀b,g'.get? b=none->Γ.g.get? b=none:=fun b h=>by
  cases e:Γ.g.get? b with
  |none=>rfl
  |some o=>
   obtain⟨o',e',_⟩:=(sub b o e).at;rw[e'] at h;cases h
 obtain⟨m,F,hm⟩:=a.fr;refine⟨⟨fun l o e=>?_,a.inj,a.fin,fun b o e=>(sub b o e).trans fun o'=>a.keep b o'⟩,a0.ok,⟨m,⟨F.ns,fun b o e=>(sub b o e).trans fun o'=>F.keep b o',nn _ F.off⟩,hm⟩,a.offL,fun x b hb=>?_,fun l p=>a.prot l (hP l (a0.prot l p))⟩
 ·obtain⟨x,x1,x2,x3,x4⟩:=a.ob l o e;refine⟨x,x1,x2,?_,x4⟩;rcases x3 with x3|x3
  ·exact .inl (nn _ x3)
  ·have z:=hF l x3
   cases q:σ1 l with
   |none=>exact absurd q z
   |some ob=>
    obtain⟨_,_,_,h3,_⟩:=a0.ob l ob q;rwa[<-S.rho l z] at h3
 ·refine bc fun nq=>?_;obtain⟨u,⟨n1,n2⟩,n3⟩:=a.cel x b hb;refine nq ?_;exact⟨u,⟨n1,nn _ n2⟩,n3⟩
theorem At.butS(a:At Γ ms σ c)(k:∀b o,¬S b->c.h.get? b=some o->h'.get? b=some o)(hI:∀b,S b->∃o,c.h.get? b=some o/\∀vs,o≠cY vs)(hg:∀b,S b->Γ.g.get? b=none)(hL:¬S Γ.L)
  (hr:∀l,σ l≠none->¬S (c.ρ l))(hc:∀x b,Γ.env.cells.lookup x=some b->¬S b):At Γ ms σ ⟨c.ρ,h'⟩/\Step (dom σ) c ⟨c.ρ,h'⟩:=by
 have S:Step (dom σ) c ⟨c.ρ,h'⟩:=⟨fun _ _=>rfl,fun b vs e=>k _ _ (fun q=>by
  obtain⟨o,e1,e2⟩:=hI b q;rw[e1] at e;cases e;exact e2 vs rfl) e⟩
 obtain⟨m,F,hm⟩:=a.fr;have gk:∀b o,Γ.g.get? b=some o->Kept Γ.fr b o h':=fun b o e=>(a.keep b o e).go fun o'=>k b o' (fun q=>by rw[hg b q] at e;cases e);refine⟨⟨⟨fun l o e=>?_,a.inj,a.fin,gk⟩,a.ok,⟨m,⟨?_,gk,F.off⟩,fun x sh hk e=>?_⟩,a.offL,fun x b hb=>?_,a.prot⟩,S⟩
 ·refine bc fun nq=>?_;obtain⟨x,x1,x2,x3,x4⟩:=a.ob l o e;refine nq ?_;exact⟨x,k _ _ (hr l (by rw[e];exact fun z=>by cases z)) x1,x2.mono (Dom.refl _) S,x3,x4⟩
 ·exact F.ns.at' fun o e=>k _ o hL e
 ·obtain⟨v,h1,h2⟩:=hm x sh hk e;exact⟨v,h1,h2.mono (Dom.refl _) S⟩
 ·refine bc fun nq=>?_;obtain⟨⟨u,⟨oc,ho,hd⟩,hu⟩,n1,n3⟩:=a.cel x b hb;refine nq ?_;refine⟨⟨u,⟨oc,k _ _ (hc x b hb) ho,hd⟩,fun sh e=>?_⟩,n1,n3⟩;obtain⟨y,e1,hy⟩:=hu sh e;exact⟨y,e1,hy.mono (Dom.refl _) S⟩
theorem At.but(a:At Γ ms σ c)(k:∀b o,b≠I->c.h.get? b=some o->h'.get? b=some o)(hI:∃o,c.h.get? I=some o/\∀vs,o≠cY vs)(hg:Γ.g.get? I=none)(hL:I≠Γ.L)
  (hr:∀l,σ l≠none->c.ρ l≠I)(hc:∀x b,Γ.env.cells.lookup x=some b->b≠I):At Γ ms σ ⟨c.ρ,h'⟩/\Step (dom σ) c ⟨c.ρ,h'⟩:=
 a.butS (S:=fun b=>b=I) k (fun b e=>e▸hI) (fun b e=>e▸hg) (fun e=>hL e.symm) hr hc
noncomputable def mLe(m m':Str->Option Sh):Prop:=∀x sh,m x=some sh->m' x=some sh
theorem At.weak(a:At Γ ms σ c)(h:mLe ms1 ms):At Γ ms1 σ c:=
 ⟨a.toHp,a.ok,by
  obtain⟨m,F,hm⟩:=a.fr;exact⟨m,F,fun x sh hk e=>hm x sh hk (h x sh e)⟩,a.offL,fun x b hb=>by
  refine bc fun nq=>?_;obtain⟨⟨u,h1,h2⟩,h3⟩:=a.cel x b hb;refine nq ?_;exact⟨⟨u,h1,fun sh e=>h2 sh (h x sh e)⟩,h3⟩,a.prot⟩
theorem SS.weak{t:Sem Flow}(h:SS Γ ms σ t fl ms1 σ1)(l:mLe ms2 ms1):SS Γ ms σ t fl ms2 σ1:=
 ⟨fun c s Q E a hs q=>h.run c s Q E a hs fun f c' tk i a' s'=>q f c' tk i (a'.weak l) s'⟩
theorem SS.mono{t:Sem Flow}(h:SS Γ ms σ t fl ms1 σ1)(l:mLe ms ms2):SS Γ ms2 σ t fl ms1 σ1:=
 ⟨fun c s Q E a hs q=>h.run c s Q E (a.weak l) hs q⟩
theorem fE{m:Str->Option Sh}:mLe (mL []) m:=fun x sh e=>by cases e
theorem lO{k:Str}{v:Sh}{l:List (Str×Sh)}{m:Str->Option Sh}(h:m k=some v)(t:mLe (mL l) m):mLe (mL ((k,v)::l)) m:=fun x sh e=>by
 by_cases q:x=k
 ·subst q;rw[fV] at e;cases e;exact h
 ·refine t x sh ?_;unfold mL at e ⊢;rw[Bj,beq_eq_false_iff_ne.mpr q] at e;exact e
theorem mLe.trans{a b c:Str->Option Sh}(h:mLe a b)(h':mLe b c):mLe a c:=fun x sh e=>h' x sh (h x sh e)
theorem mLe.setm{a b:Str->Option Sh}{v:Sh}(h:mLe a b):mLe (setm a x v) (setm b x v):=fun y sh e=>by
 unfold Mine.setm at e ⊢
 split at e
 ·rename_i q;rw[if_pos q];exact e
 ·rename_i q;rw[if_neg q];exact h y sh e
theorem mLe.skip{l:List (Str×Sh)}{m:Str->Option Sh}{v:Sh}(hx:l.lookup x=none)(h:mLe (mL l) m):mLe (mL l) (Mine.setm m x v):=fun y sh e=>by
 unfold Mine.setm;rw[if_neg (fun q=>by rw[q] at e;unfold mL at e;rw[hx] at e;cases e)];exact h y sh e
structure Itr(Γ:Gm)(tg:Aj)(K:Sg->Prop)(T F:Lbl->Prop)(xs:List Sh)(ρ0:Lbl->Addr)(I:Addr)(S:Addr->Prop)(St:Nat->Heap->Prop):Prop where
 ob:∀i h,St i h->∀b,S b->∃o,h.get? b=some o/\∀vs,o≠cY vs
 frame:∀i h h',St i h->(∀b,S b->∀o,h.get? b=some o->h'.get? b=some o)->(∀l,F l->∀o,h.get? (ρ0 l)=some o->h'.get? (ρ0 l)=some o)->St i h'
 next:∀{ms:Str->Option Sh} {σ:Sg} {c:Cf} {s:Ai} {Q:Value->Ai->Prop} {E:Value->Ai->Prop} (i:Nat) (sh:Sh),xs[i]? = some sh->K σ->At Γ ms σ c->s.heap=c.h->(∀l,T l->c.ρ l=ρ0 l)->St i c.h->
  (∀v h' tk,(Step (Mine.dom σ) c ⟨c.ρ,h'⟩->Is σ ⟨c.ρ,h'⟩ sh v)->(∀b o,¬S b->c.h.get? b=some o->h'.get? b=some o)->St (i+1) h'->Q v {s with heap:=h',toks:=tk})->wpAny (M Γ) Γ.Ad (pyNext (.ref I)) (fun r s1=>match r with|some v=>∀E',wpAny (M Γ) Γ.Ad (letOwnedTupleGo tg (.ref I) v) (fun _ s2=>Q v s2) E' s1|none=>False) E s
 self:∀{s:Ai} {Q:Value->Ai->Prop} {E:Value->Ai->Prop} (i:Nat),St i s.heap->Q (.ref I) s->wpAny (M Γ) Γ.Ad (pyIter (.ref I)) Q E s
 done:∀{ms:Str->Option Sh} {σ:Sg} {c:Cf} {s:Ai} {Q:Option Value->Ai->Prop} {E:Value->Ai->Prop} (i:Nat),xs[i]? = none->K σ->At Γ ms σ c->s.heap=c.h->(∀l,T l->c.ρ l=ρ0 l)->St i c.h->
  (∀h' tk,(∀b o,¬S b->c.h.get? b=some o->h'.get? b=some o)->Q none {s with heap:=h',toks:=tk})->wpAny (M Γ) Γ.Ad (pyNext (.ref I)) Q E s
structure ItE(Γ:Gm)(tg:Aj)(ms:Str->Option Sh)(σ:Sg)(iter:Aj)(σ1:Sg)(K:Sg->Prop)(T F:Lbl->Prop)(xs:List Sh):Prop where
 dom:Dom σ σ1
 tdom:∀σ,K σ->∀l,T l->σ l≠none
 sub:∀l,F l->T l
 run:∀c s Q E,At Γ ms σ c->s.heap=c.h->(∀c1 I S h' tk St,At Γ ms σ1 c1->Step (Mine.dom σ) c c1->Itr Γ tg K T F xs c1.ρ I S St->(∀b,S b->c1.h.objs.size<=b)->(∀b o,c1.h.get? b=some o->h'.get? b=some o)->St 0 h'->Q (.ref I) {s with heap:=h',toks:=tk})->
  wpN (M Γ) Γ.Ad (eval iter Γ.env) (fun v s1=>wpAny (M Γ) Γ.Ad (pyIter v) Q E s1) E s
structure IterOk(Γ:Gm)(tg:Aj)(ms:Str->Option Sh)(σ:Sg)(x:Sh)(K:Sg->Prop)(T F:Lbl->Prop)(xs:List Sh):Prop where
 tdom:∀σ,K σ->∀l,T l->σ l≠none
 sub:∀l,F l->T l
 run:∀c s v Q E,At Γ ms σ c->s.heap=c.h->Is σ c x v->(∀I S h' tk St,Itr Γ tg K T F xs c.ρ I S St->(∀b,S b->c.h.objs.size<=b)->(∀b o,c.h.get? b=some o->h'.get? b=some o)->St 0 h'->Q (.ref I) {s with heap:=h',toks:=tk})->wpAny (M Γ) Γ.Ad (pyIter v) Q E s
theorem ItE.of{tg:Aj}{K:Sg->Prop}{T:Lbl->Prop}(h:EV Γ ms σ (eval iter Γ.env) y σ1)(it:IterOk Γ tg ms σ1 y K T F xs):ItE Γ tg ms σ iter σ1 K T F xs:=
 ⟨h.dom,it.tdom,it.sub,fun c s Q E a hs q=>h.run c s _ E a hs fun v c1 t1 i1 a1 s1=>it.run c1 _ v _ E a1 rfl i1 fun I S h' tk St W hI kp st=>q c1 I S h' tk St a1 s1 W hI kp st⟩
noncomputable def Gm.or(Γ:Gm)(F:Lbl->Prop):Lbl->Prop:=fun l=>Γ.F l\/F l
structure TgOk(Γ:Gm)(tg:Aj)(sh:Sh)(ms ms':Str->Option Sh)(σ:Sg):Prop where
 run:∀c s v Q E,At Γ ms σ c->s.heap=c.h->Is σ c sh v->(∀c' tk,At Γ ms' σ c'->Step (Mine.dom σ) c c'->Q () {s with heap:=c'.h,toks:=tk})->wpN (M Γ) Γ.Ad (Hm tg Γ.env v) Q E s
theorem aDf{x:Str}(hk:Γ.env.kindOf x=some .local)(hc:Γ.env.cells.lookup x=none):TgOk Γ (.Name x px) sh ms (setm ms x sh) σ:=⟨fun c s v Q E a hs i q=>by
 show wpN _ _ (do Fb px;Kt Γ.env x v) _ _ _
 exact wpN.of (Ab (Hs (gC hk hc a hs i q)))⟩
inductive Turns(Γ:Gm)(K:Sg->Prop)(F:Lbl->Prop)(body:List Stmt)(x:(Str->Option Sh)->Sh->Str->Option Sh):List Sh->(Str->Option Sh)->Sg->Fl->(Str->Option Sh)->Sg->Prop
 |nil {ms:Str->Option Sh} {σ:Sg}:K σ->Turns Γ K F body x [] ms σ .next ms σ
 |cons {sh:Sh} {rest:List Sh} {ms ms1 ms2:Str->Option Sh} {σ σ1 σ2:Sg} {fl:Fl}:K σ->(∀g,SS (Γ.frz g (Mine.dom σ) F) (x ms sh) σ (execs body Γ.env) .next ms1 σ1)->Turns Γ K F body x rest ms1 σ1 fl ms2 σ2->Turns Γ K F body x (sh::rest) ms σ fl ms2 σ2
 |brk {sh:Sh} {rest:List Sh} {ms ms1:Str->Option Sh} {σ σ1:Sg}:K σ->(∀g,SS (Γ.frz g (Mine.dom σ) F) (x ms sh) σ (execs body Γ.env) .brk ms1 σ1)->Turns Γ K F body x (sh::rest) ms σ .next ms1 σ1
 |ret {sh v:Sh} {rest:List Sh} {ms ms1:Str->Option Sh} {σ σ1:Sg}:K σ->(∀g,SS (Γ.frz g (Mine.dom σ) F) (x ms sh) σ (execs body Γ.env) (.ret v) ms1 σ1)->Turns Γ K F body x (sh::rest) ms σ (.ret v) ms1 σ1
section
variable{K:Sg->Prop}{T:Lbl->Prop}{x:(Str->Option Sh)->Sh->Str->Option Sh}{tg:Aj}{ρ0:Lbl->Addr}{St:Nat->Heap->Prop}
theorem oX{M:Model}(h:R (.ok .next) s):codeN (model prog w) A (.block [] env) R s:=by
 refine aT rfl ?_;show wpN _ A (do return Kz.done (<-(execs [] env).onRaise (fun x=>do Ks x env;Jh x))) _ _ s
 refine aE (bH (gP ?_));exact aH h
structure Off(Γ:Gm)(σ:Sg)(c:Cf)(T:Lbl->Prop)(ρ0:Lbl->Addr)(S:Addr->Prop)(St:Heap->Prop):Prop where
 st:St c.h
 g:∀b,S b->Γ.g.get? b=none
 L:¬S Γ.L
 cel:∀x b,Γ.env.cells.lookup x=some b->¬S b
 rho:∀l,σ l≠none->¬S (c.ρ l)
 at0:∀l,T l->c.ρ l=ρ0 l
theorem Off.first(a1:At Γ ms σ c)(hI:∀b,S b->c.h.objs.size<=b){St:Heap->Prop}(st:St h'):Off Γ σ ⟨c.ρ,h'⟩ T c.ρ S St:=by
 have no:∀{b},b<c.h.objs.size->¬S b:=fun l hs=>Ed _ (Bi l (hI _ hs));exact⟨st,fun b hb=>a1.toHp.none (hI b hb),no a1.Llt,fun _ _ hb=>no (a1.clt hb),fun _ hl=>no (a1.rlt hl),fun _ _=>rfl⟩
noncomputable def xE(tg:Aj)(body:List Stmt)(env:Env)(I:Addr)(v:Value):Sem Kz:=do
 Hm tg env v
 match<-execs body env with
 | .next| .cont=>again (.forLoop tg (.ref I) body [] env)
 | .brk=>pure (.done .next)
 | .ret v=>pure (.done (.ret v))
theorem aDx{Q:Kz->Ai->Prop}(W:Itr Γ tg K T F xs ρ0 I S St)(i:Nat)(sh:Sh)(hi:xs[i]? = some sh)(k:K σ)(a:At Γ ms σ c)(hs:s.heap=c.h)(hρ:∀l,T l->c.ρ l=ρ0 l)(st:St i c.h)
  (q:∀v h' tk,(Step (Mine.dom σ) c ⟨c.ρ,h'⟩->Is σ ⟨c.ρ,h'⟩ sh v)->(∀b o,¬S b->c.h.get? b=some o->h'.get? b=some o)->St (i+1) h'->wpN (M Γ) Γ.Ad (xE tg body Γ.env I v) Q E {s with heap:=h',toks:=tk}):wpN (M Γ) Γ.Ad (forTurn tg (.ref I) body [] Γ.env) Q E s:=by
 simp only[forTurn];refine aG (aE (bH (wpN.of (Ey (W.next (Q:=fun v s2=>wpN (M Γ) Γ.Ad (xE tg body Γ.env I v) Q E s2) i sh hi k a hs hρ st q) (fun r s1 h1=>?_) fun _ _ e=>e))))
 cases r with
 |none=>exact h1.elim
 |some v=>exact aK (h1 _)
theorem zT(W:Itr Γ tg K T F xs ρ0 I S St)(hd:∀σ,K σ->∀l,T l->σ l≠none)(hs:∀l,F l->T l)(hF:∀l,Γ.F l->F l)(hT:∀g P F ms sh σ,TgOk (Γ.frz g P F) tg sh ms (x ms sh) σ)(R:Jy->Ai->Prop)
  (t:Turns Γ K F body x ys ms σ fl ms1 σ1):∀(i:Nat) (c:Cf) (s:Ai),xs.drop i=ys->At Γ ms σ c->s.heap=c.h->Off Γ σ c T ρ0 S (St i)->
  (∀f c' tk,FlIs σ1 c' fl f->At Γ ms1 σ1 c'->Step Γ.P c c'->R (.ok f) {s with heap:=c'.h,toks:=tk})->codeN (M Γ) Γ.Ad (.forLoop tg (.ref I) body [] Γ.env) R s:=by
 have head:∀{sh:Sh} {rest:List Sh} {ms ms1:Str->Option Sh} {σ σ1:Sg} {fl:Fl} (i:Nat) (c:Cf) (s:Ai),xs.drop i=sh::rest->K σ->At Γ ms σ c->s.heap=c.h->Off Γ σ c T ρ0 S (St i)->
   (∀g,SS (Γ.frz g (Mine.dom σ) F) (x ms sh) σ (execs body Γ.env) fl ms1 σ1)->
   (∀f c' tk,FlIs σ1 c' fl f->At Γ ms1 σ1 c'->Step Γ.P c c'->Off Γ σ1 c' T ρ0 S (St (i+1))->match f with
    | .next| .cont=>codeN (M Γ) Γ.Ad (.forLoop tg (.ref I) body [] Γ.env) R {s with heap:=c'.h,toks:=tk}
    | .brk=>R (.ok .next) {s with heap:=c'.h,toks:=tk}
    | .ret v=>R (.ok (.ret v)) {s with heap:=c'.h,toks:=tk})->
   codeN (M Γ) Γ.Ad (.forLoop tg (.ref I) body [] Γ.env) R s:=by
  intro sh rest ms ms1 σ σ1 fl i c s hx k a hs' o b q;refine aT rfl ?_;show wpN _ Γ.Ad ((forTurn tg (.ref I) body [] Γ.env).onRaise (fun x=>do Ks x Γ.env;Jh x)) _ _ s
  refine bH ?_;have hi:xs[i]? = some sh:=by
   have:=congrArg (·[0]?) hx;simpa using this
  refine aDx (c:=c) W i sh hi k a hs' o.at0 o.st fun v h' tk iv kp st=>?_;refine bc fun nq=>?_;obtain⟨a1,S1⟩:=a.butS kp (W.ob i _ o.st) o.g o.L o.rho o.cel;obtain⟨g',a2,sub,kept⟩:=a1.freeze F hF;have gI:∀b,S b->∀ob,h'.get? b=some ob->g'.get? b=some ob:=fun b hb ob e=>kept b ob e (fun q=>o.L (q▸hb)) (fun l hl _ q=>o.rho l hl (q▸hb)) (fun x a ha q=>o.cel x a ha (q▸hb));have gF:∀l,F l->∀ob,h'.get? (ρ0 l)=some ob->g'.get? (ρ0 l)=some ob:=fun l hl ob e=>by
   have hσ:=hd σ k l (hs l hl);have e0:=o.at0 l (hs l hl);refine kept _ ob e ?_ (fun l' hl' nF e'=>?_) (fun y b hb e'=>?_)
   ·rw[<-e0];exact(a.offL l hσ).1
   ·rw[<-e0] at e';exact nF (a.inj l' l hl' hσ e'▸hl)
   ·exact(a.cel y b hb).2.2 l hσ (e0.trans e'.symm)
  refine nq ?_;refine aE ?_;refine(hT g' (Mine.dom σ) F ms sh σ).run ⟨c.ρ,h'⟩ _ v _ _ a2 rfl (iv S1) fun c2 t2 a3 s2=>?_;refine(b g').bind a3 rfl fun f c3 t3 i3 a4 s3=>?_;have S13:Step (Mine.dom σ) ⟨c.ρ,h'⟩ c3:=s2.trans s3;have o3:Off Γ σ1 c3 T ρ0 S (St (i+1)):=⟨W.frame _ _ _ st (fun b hb ob e=>(a4.keep b ob (gI b hb ob e)).ex (a.ok.nofr (o.g b hb))) (fun l hl ob e=>(a4.keep _ ob (gF l hl ob e)).ex (o.at0 l (hs l hl)▸(a.offL l (hd σ k l (hs l hl))).2)),o.g,o.L,o.cel,fun l hl e=>by
    cases q:σ1 l with
    |none=>exact hl q
    |some ob=>
     obtain⟨_,_,_,h3,_⟩:=a4.ob l ob q;rcases h3 with h3|h3
     ·obtain⟨oI,hoI,_⟩:=(W.ob _ _ st) _ e;rw[gI _ e oI hoI] at h3;cases h3
     ·have hσ:=hd σ k l (hs l h3);exact o.rho l hσ ((S13.rho l hσ)▸e),fun l hl=>(S13.rho l (hd σ k l hl)).trans (o.at0 l hl)⟩
  have z:=q f c3 t3 i3 (At.thaw a1 sub (fun l hl=>hd σ k l (hs l hl)) (fun _ p=>p) S13 a4:At Γ ms1 σ1 c3) (a.step (S1.trans S13)) o3
  cases f with
  |next=>exact aH ⟨rfl,z⟩
  |cont=>exact aH ⟨rfl,z⟩
  |brk=>exact aH z
  |ret v=>exact aH z
 induction t with
 | @nil ms σ k=>
  intro i c s hx a hs' o q;refine aT rfl ?_;show wpN _ Γ.Ad ((forTurn tg (.ref I) body [] Γ.env).onRaise (fun x=>do Ks x Γ.env;Jh x)) _ _ s
  refine bH ?_;have hi:xs[i]? = none:=by
   rw[Cm];have:=congrArg Iq hx;simp at this;exact z16 this
  refine aG (aE (bH (wpN.of (W.done i hi k a hs' o.at0 o.st fun h' tk kp=>?_))));obtain⟨a1,S1⟩:=a.butS kp (W.ob i _ o.st) o.g o.L o.rho o.cel;exact aH ⟨rfl,oX (M:=M Γ) (q .next ⟨c.ρ,h'⟩ tk .next a1 (a.step S1))⟩
 | @cons sh rest ms ms1 ms2 σ σ1 σ2 fl k b t ih=>
  intro i c s hx a hs' o q;refine head i c s hx k a hs' o b fun f c' tk hf a' S' o'=>?_;obtain rfl:=hf.next_inv;refine ih (i+1) c' _ (by rw[<-Nl,hx];rfl) a' rfl o' fun f c'' tk' hf a'' S''=>?_;exact q f c'' tk' hf a'' (S'.trans S'')
 | @brk sh rest ms ms1 σ σ1 k b=>
  intro i c s hx a hs' o q;refine head i c s hx k a hs' o b fun f c' tk hf a' S' o'=>?_;obtain rfl:=hf.brk_inv;exact q .next c' tk .next a' S'
 | @ret sh v rest ms ms1 σ σ1 k b=>
  intro i c s hx a hs' o q;refine head i c s hx k a hs' o b fun f c' tk hf a' S' o'=>?_;obtain⟨_,rfl,h⟩:=hf.ret_inv;exact q _ c' tk (.ret _ _ h) a' S'
theorem aQg(it:ItE Γ tg ms σ iter σ1 K T F xs)(t:Turns Γ K F body x xs ms σ1 fl ms2 σ2)(hx:∀g P F ms sh σ,TgOk (Γ.frz g P F) tg sh ms (x ms sh) σ)
  (hF:∀l,Γ.F l->F l)(hfold:∀v,Dd iter Γ.env v=pure v):SS Γ ms σ (exec (.For tg iter body [] pos) Γ.env) fl ms2 σ2:=
 ⟨fun c s Q E a hs q=>by
  refine aG (aE (bX (it.run c s _ E a hs fun c1 I S h' tk St a1 s1 W hI kp st=>?_) (fun v s1 h1=>aK (Bc (hfold v) (aG (aE (aF (wpN.of h1)))))) fun _ _ e=>e));refine bH (uK ?_);obtain⟨a2,s2⟩:=a1.grow0 (h':=h') kp;refine zT W it.tdom it.sub hF hx _ t 0 ⟨c1.ρ,h'⟩ _ (Lb) a2 rfl (Off.first a1 hI st) fun f c' t' hf a' S'=>?_;exact q f c' t' hf a' ((a.step (s1.trans (s2.mono it.dom))).trans S')⟩
noncomputable abbrev nm(x:Str):(Str->Option Sh)->Sh->Str->Option Sh:=fun ms sh=>setm ms x sh
theorem rU{x:Str}(it:ItE Γ (.Name x px) ms σ iter σ1 K T F xs)(t:Turns Γ K F body (nm x) xs ms σ1 fl ms2 σ2)(henv:Γ.env.scope=sc)(hk':sc.names.lookup x=some .local)(hc:Γ.env.cells.lookup x=none)
  (hF:∀l,Γ.F l->F l)(hfold:∀v,Dd iter Γ.env v=pure v):SS Γ ms σ (exec (.For (.Name x px) iter body [] pos) Γ.env) fl ms2 σ2:=
 aQg it t (fun _ _ _ _ _ _=>aDf (by show Γ.env.scope.names.lookup _=_;rw[henv];exact hk') hc) hF hfold
end
theorem KAll.keyAt{K:Type}[DecidableEq K]{dk:DK K}{kvs:List (K×Sh)}{kv:List (K×Value)}(h:KAll σ c kvs kv):∀{i:Nat} {sh:Sh},(kvs.map fun p=>dk.sh p.1)[i]? = some sh->∃(k:K) (v:Value),kv[i]? = some (k,v)/\sh=dk.sh k:=by
 induction h with
 |nil=>intro i sh h;cases h
 | @cons k y v l vs a _ ih=>
  intro i sh h
  cases i with
  |zero=>exact⟨k,v,rfl,(Cw h).symm⟩
  |succ i=>exact ih h
section
variable{K:Sg->Prop}{T:Lbl->Prop}{ρ0:Lbl->Addr}{St:Nat->Heap->Prop}
theorem aQp(hk:aAc Γ.env x .globalImplicit=true)(e:nsIn (Mine.hd.heap_1 Γ.w.params) mainGlobals x=some none)
  (hv:Dp x=some v)(hn:x≠"__name__"):EV Γ ms σ (eval (.Name x pos) Γ.env) (.con v) σ:=.look fun c s Q E a hs q=>by
 obtain⟨m,F,hm⟩:=a.fr;have T:=a.ok.T0;refine Name_function_global a.ok.ek (aHj hk) (loadGlobal_builtin (env:=Γ.env) (by rw[a.ok.eg,hs];exact T.g.keeps a.g0) (mg_none_of a.ok.X0 T.g e) (by rw[a.ok.eb,hs];exact T.b.keeps a.g0) ((T.builtins x hn).trans hv) ?_) (aLs hk);exact fin hs (q v s.toks (.con v))
theorem cW(hl:σ l=some (.list xs)):IterOk Γ (.Name x px) ms σ (.ref l) (fun σ=>σ l=some (.list xs)) (fun y=>y=l) noF xs:=
 ⟨fun σ k y hy=>by rw[hy,k];exact fun z=>(by cases z),fun _ h=>h.elim,fun c s v Q E a hs i q=>by
  obtain rfl:=i.ref_inv;obtain⟨vs,n,e,hv⟩:=a.list hl;have hL:s.heap.IsList (c.ρ l) vs.toArray:=by rw[hs];exact Bt (n:=n) e
  refine wpAny_pyIter_list hL ?_;have W:Itr Γ (.Name x px) (fun σ=>σ l=some (.list xs)) (fun y=>y=l) noF xs c.ρ c.h.objs.size (fun b=>b=c.h.objs.size) (fun i h=>h.IsListIter c.h.objs.size (c.ρ l) i):=
   {ob:=fun i h ⟨o,ho,hc,hd⟩ b hb=>hb▸⟨o,ho,fun vs e=>by rw[e] at hd;cases hd⟩
    frame:=fun i h h' ⟨o,ho,r⟩ k _=>⟨o,k _ rfl o ho,r⟩
    self:=fun i st q=>wpAny_pyIter_listiter st q
    next:=fun {ms' σ' c' s' Q' E'} i sh hi k a' hs' hρ st q'=>by
     refine bc fun nq=>?_;obtain⟨vs',n',e',hv'⟩:=a'.list k;obtain⟨u,hu,iu⟩:=hv'.get hi;refine nq ?_;refine wpAny_pyNext_list_item (hs'▸st) (show s'.heap.IsList (c.ρ l) vs'.toArray by rw[hs',<-hρ l rfl];exact Bt (n:=n') e') (x:=u) (by rw[Fe];exact hu) fun h' hit' hsb=>?_;refine fun E'=>Ak ?_;exact q' u h' s'.toks (fun st=>iu.mono (Dom.refl _) st) (fun b o n e=>hsb.extBut b o n (hs'▸e)) hit'
    done:=fun {ms' σ' c' s' Q' E'} i hi k a' hs' hρ st q'=>by
     refine bc fun nq=>?_;obtain⟨vs',n',e',hv'⟩:=a'.list k;have hL':s'.heap.IsList (c.ρ l) vs'.toArray:=by rw[hs',<-hρ l rfl];exact Bt (n:=n') e'
     refine nq ?_;refine wpAny_pyNext_list_end a'.ok.hh (hs'▸st) hL' (by rw[Fe,Cm,hv'.length];exact Cm.mp hi) fun h' hb=>?_;exact q' h' s'.toks fun b o n e=>hb b o n (hs'▸e)}
  rw[hs];exact(q c.h.objs.size _ (c.h.push {cls:=.type "list_iterator",data:=.fields #[.ref (c.ρ l),.int 0 0]}) s.toks _ W (fun b e=>De e.symm) (fun b o e=>Ae _ e) ⟨_,Ao _ rfl,rfl,rfl⟩)⟩
theorem aBn:IterOk Γ (.Name x px) ms σ (.bytes b) (fun _=>True) noF noF (b.map fun x=>.int (x.toNat:Int)):=
 ⟨fun _ _ _ h=>h.elim,fun _ h=>h.elim,fun c s v Q E a hs i q=>by
  obtain⟨t,rfl⟩:=i.bytes_inv;refine Mt ?_;have W:Itr Γ (.Name x px) (fun _=>True) noF noF (b.map fun x=>Sh.int (x.toNat:Int)) c.ρ c.h.objs.size (fun b=>b=c.h.objs.size) (fun i h=>Gg h c.h.objs.size b.toArray t i):=
   {ob:=fun i h ⟨o,ho,hc,hd⟩ b hb=>hb▸⟨o,ho,fun vs e=>by rw[e] at hd;cases hd⟩
    frame:=fun i h h' ⟨o,ho,r⟩ k _=>⟨o,k _ rfl o ho,r⟩
    self:=fun i st q=>KBw.pyIter_self st q
    next:=fun {ms' σ' c' s' Q' E'} i sh hi k a' hs' hρ st q'=>by
     rw[Ci] at hi
     cases e:b[i]? with
     |none=>rw[e] at hi;cases hi
     |some u=>
     rw[e] at hi;cases hi;refine KBw.next_item (hs'▸st) (c:=u) (by rw[Fe];exact e) fun h' hit' hsb=>?_;refine fun E'=>Ak ?_;exact q' _ h' _ (fun _=>.int _ _) (fun b o n e=>hsb.extBut b o n (hs'▸e)) hit'
    done:=fun {ms' σ' c' s' Q' E'} i hi k a' hs' hρ st q'=>by
     refine KBw.next_end a'.ok.hh (hs'▸st) (by rw[Fe,Cm];simpa using hi) fun h' hb=>?_;exact q' h' s'.toks fun b o n e=>hb b o n (hs'▸e)}
  rw[hs];exact(q c.h.objs.size _ (c.h.push {cls:=.type "bytes_iterator",data:=.fields #[.bytes b.toArray t,.int 0 0]}) s.toks _ W (fun b e=>De e.symm) (fun b o e=>Ae _ e) ⟨_,Ao _ rfl,rfl,rfl⟩)⟩
theorem aGg{K:Type}[DecidableEq K](dk:DK K)(sound:∀{w:World} {σ:Sg} {c:Cf} {k:K} {v:Value},(dk.knd w).is k v=true->Is σ c (dk.sh k) v){kvs:List (K×Sh)}(hl:σ l=some (dk.ob kvs)):
  IterOk Γ (.Name x px) ms σ (.ref l) (fun σ=>σ l≠none) (fun y=>y=l) (fun y=>y=l) (kvs.map fun p=>dk.sh p.1):=
 ⟨fun σ k y hy=>by rw[hy];exact k,fun _ h=>h,fun c s v Q E a hs i q=>by
  obtain rfl:=i.ref_inv;obtain⟨xo,kv,e,hd,hv,h1⟩:=a.dict dk hl;have D:s.heap.DictOf (dk.knd Γ.w) (c.ρ l) kv:=Bk.mpr ⟨xo,by rw[hs];exact e,hd⟩;obtain⟨ep,hat⟩:=D.dictAt;refine wpAny_pyIter_dict (beq_eq_false_iff_ne.mpr (Da h1)) hat ?_;have hlt:c.ρ l<c.h.objs.size:=Aw e;have W:Itr Γ (.Name x px) (fun σ=>σ l≠none) (fun y=>y=l) (fun y=>y=l) (kvs.map fun p=>dk.sh p.1) c.ρ c.h.objs.size (fun b=>b=c.h.objs.size) (fun i h=>h.IsKeyIter c.h.objs.size (c.ρ l) i kv.length ep/\h.DictAt (dk.knd Γ.w) (c.ρ l) kv ep):=
   {ob:=fun i h ⟨⟨o,ho,hc,hd⟩,_⟩ b hb=>hb▸⟨o,ho,fun vs e=>by rw[e] at hd;cases hd⟩
    frame:=fun i h h' ⟨⟨o,ho,r⟩,D⟩ k kF=>⟨⟨o,k _ rfl o ho,r⟩,D.at' fun o e=>kF l rfl o e⟩
    self:=fun i st q=>wpAny_pyIter_keyiter st.1 q
    next:=fun {ms' σ' c' s' Q' E'} i sh hi k a' hs' hρ st q'=>by
     refine bc fun nq=>?_;obtain⟨k',v',hk',rfl⟩:=(fun h=>hv.keyAt (dk:=dk) h:∀{i:Nat} {sh:Sh},(kvs.map fun p=>dk.sh p.1)[i]? = some sh->∃(k:K) (v:Value),kv[i]? = some (k,v)/\sh=dk.sh k) hi;rw[<-hs'] at st;refine nq ?_;refine wpAny_pyNext_dict_item st.1 st.2 hk' fun key h' hkey hit' hsb=>?_;refine fun E'=>Ak ?_;exact q' key h' s'.toks (fun _=>sound hkey) (fun b o n e=>hsb.extBut b o n (hs'▸e)) ⟨hit',st.2.extBut hsb.extBut (Bn hlt)⟩
    done:=fun {ms' σ' c' s' Q' E'} i hi k a' hs' hρ st q'=>by
     rw[<-hs'] at st;refine wpAny_pyNext_dict_end a'.ok.hh st.1 st.2 (by rw[Cm,hv.length];simpa using hi) fun h' hb=>?_;exact q' h' s'.toks fun b o n e=>hb b o n (hs'▸e)}
  have z:=q c.h.objs.size _ (c.h.push {cls:=.type "dict_keyiterator",data:=.fields #[.ref (c.ρ l),.int 0 0,.int kv.length 0,.int ep 0]}) s.toks _ W (fun b e=>De e.symm) (fun b o e=>Ae _ e)
   ⟨⟨_,Ao _ rfl,rfl,rfl⟩,(hs▸hat).push _⟩
  rw[hs];exact z⟩
noncomputable def zQ(a b:Int):List Sh:=(Jg (b-a).toNat).map fun(i:Nat)=>.int (a+(i:Int))
theorem aGf(a b:Int)(ρ0:Lbl->Addr)(I:Addr):Itr Γ (.Name x px) (fun _=>True) noF noF (zQ a b) ρ0 I (fun b=>b=I) (fun i h=>IsRangeIter h I (a+(i:Nat)*1) (((b-a).toNat:Int)-(i:Nat)) 1):=
 {ob:=fun i h e b hb=>hb▸⟨_,e,fun vs e=>by have:=congrArg Obj.data e;cases this⟩
  frame:=fun i h h' e k _=>k _ rfl _ e
  self:=fun i st q=>wpAny_pyIter_rangeiter st q
  next:=fun {ms' σ' c' s' Q' E'} i sh hi k a' hs' hρ st q'=>by
   have hlt:i< (b-a).toNat:=by
    have:=(As.mp hi).1;simpa[zQ] using this
   have e:sh = .int (a+(i:Int)):=by
    unfold zQ at hi;rw[Ci,Hf hlt] at hi;simp at hi;exact hi.symm
   subst e;rw[<-hs'] at st;refine wpAny_pyNext_range_item st (by exact z17 hlt) fun h' hit' hsb=>?_;refine fun E'=>Ak ?_;refine q' _ h' _ (fun _=>by rw[Ir];exact .int _ _) (fun b o n e=>hsb.extBut b o n (hs'▸e)) ?_;have e1:a+(i:Int)*1+1=a+((i+1:Nat):Int)*1:=by push_cast;exact z18
   rw[e1,(show(((b-a).toNat:Nat):Int)-(i:Nat)-1=(((b-a).toNat:Nat):Int)-((i+1:Nat):Int) by push_cast;exact z19)] at hit';exact hit'
  done:=fun {ms' σ' c' s' Q' E'} i hi k a' hs' hρ st q'=>by
   rw[<-hs'] at st;have hge:(b-a).toNat<=i:=by
    have:=Cm.mp hi;simpa[zQ] using this
   refine wpAny_pyNext_range_end a'.ok.hh st (by exact z20 hge) fun h' hb=>?_;exact q' h' s'.toks fun b o n e=>hb b o n (hs'▸e)}
theorem aGv{b:Int}(h0 : -1000000<=a)(h1:a<=1000000)(h2 : -1000000<=b)(h3:b<=1000000):Builtin.Range.small a b 1=true:=by
 unfold Builtin.Range.small;rw[rangeSize_one];simp only[Builtin.Range.rangeFitsLong]
 split <;> simp <;> omega
theorem uP(a b:Int):Builtin.Range.rangeSize a b 1=((b-a).toNat:Int):=by rw[rangeSize_one];split <;> omega
theorem aBo{n:Int}(h0:EV Γ ms σ (eval fe Γ.env) (.con (.type "range")) σ)(h1:EV Γ ms σ (eval e Γ.env) (.int n) σ1)(b0 : -1000000<=n)(b1:n<=1000000)(ok:iS [e]=true)
  (hc:eval (.Call fe [e] [] pos) Γ.env=(do Gs pos (<-eval fe Γ.env) [] (Cc pos (Av [e] Γ.env)) (Ht pos (Fh [] Γ.env)))):ItE Γ (.Name x px) ms σ (.Call fe [e] [] pos) σ1 (fun _=>True) noF noF (zQ 0 n):=
 ⟨h1.dom,fun _ _ _ h=>h.elim,fun _ h=>h.elim,fun c s Q E a hs q=>by
  rw[hc];refine h0.bind a hs fun u c1 t1 i1 a1 s1=>?_;obtain rfl:=i1.con_inv;refine gO (fsh:=[]) (first:=[]) (.inr (.inl ⟨_,rfl⟩)) (aJ h1 aV (rN ok)) (fZ ok) (pH ok) c1 _ _ E a1 rfl .nil fun vs c2 t2 i2 a2 s2=>?_;obtain⟨v,rfl,iv⟩:∃v,vs=[v]/\Is σ1 c2 (.int n) v:=by
   cases i2 with|cons a b=>obtain rfl:=b.nil_inv;exact⟨_,rfl,a⟩
  obtain⟨t,rfl⟩:=iv.int_inv;refine wpN.of (call_range_1 ?_);refine wpAny_pyIter_range (IsRange.new ..) (aGv (by decide) (by decide) b0 b1) ?_;dsimp only;rw[uP,Cj];have sz:(c2.h.push ({cls:=.type "range",data:=.fields #[.int 0 t2,.int n t,.int 1 (t2+1)]}:Obj)).objs.size=c2.h.objs.size+1:=Bz ..;refine q c2 _ _ _ _ _ a2 (s1.trans s2) (aGf 0 n c2.ρ _) (fun b e=>by rw[e,sz];exact Cs _) (fun b o e=>Ae _ (Ae _ e)) ?_;have z:IsRangeIter ((c2.h.push ({cls:=.type "range",data:=.fields #[.int 0 t2,.int n t,.int 1 (t2+1)]}:Obj)).push {cls:=.type "range_iterator",data:=.fields #[Hg 0,Hg (n.toNat:Int),Hg 1]}) (c2.h.push ({cls:=.type "range",data:=.fields #[.int 0 t2,.int n t,.int 1 (t2+1)]}:Obj)).objs.size 0 (n.toNat:Int) 1:=Ao _ rfl;simpa using z⟩
end
noncomputable abbrev Gm.cmp(Γ:Gm)(sc:Scope)(cl:List (Str×Addr))(C:Addr)(g:Heap)(P F:Lbl->Prop):Gm:=⟨Γ.w,Γ.Ad,Γ.base,Γ.stk,g,Γ.g0,Γ.mg,Γ.mb,Γ.n,C,Cp sc cl C Γ.env,P,F⟩
structure Un(Γ:Gm)(σ:Sg)(c:Cf)(I:Addr):Prop where
 g:Γ.g.get? I=none
 L:I≠Γ.L
 cel:∀x b,Γ.env.cells.lookup x=some b->b≠I
 rho:∀l,σ l≠none->c.ρ l≠I
section
variable{mc:Str->Option Sh}{c1:Cf}
theorem At.newUn(a:At Γ ms σ c){b:Addr}(h:c.h.objs.size<=b):Un Γ σ c b:=
 have lt:∀{d},d<c.h.objs.size->d≠b:=fun l=>Bn (Bi l h)
 ⟨a.toHp.none h,(lt a.Llt).symm,fun _ _ hd=>lt (a.clt hd),fun _ hl=>lt (a.rlt hl)⟩
open Classical in
theorem At.toComp{mC:Str->Option Value}(F':Lbl->Prop)(hF:∀l,Γ.F l->F' l)(a:At Γ ms σ c)(u:Un Γ σ c C)(hns:c.h.Ns C mC)(hlow:Γ.L<C)(hcl:∀x b,cl.lookup x=some b->Γ.env.cells.lookup x=some b)
  (hmc:mLe mc ms)(hmd:∀x sh,mc x=some sh->(Cp sc cl C Γ.env).kindOf x≠some .local)(hkind:sc.kind = .function):
  ∃g',At (Γ.cmp sc cl C g' (dom σ) F') mc σ c/\(∀b o,Γ.g.get? b=some o->Kept Γ.fr b o g')/\
   (∀b o,c.h.get? b=some o->b≠C->(∀l,σ l≠none->¬F' l->c.ρ l≠b)->(∀x a,cl.lookup x=some a->a≠b)->g'.get? b=some o):=by
 refine bc fun nq=>?_;obtain⟨as,h1,h2⟩:∃as:List Addr,(∀l,σ l≠none->¬F' l->c.ρ l∈as)/\∀b∈as,∃l,σ l≠none/\¬F' l/\b=c.ρ l:=by
  refine bc fun nq=>?_;obtain⟨as,h1,h2⟩:=a.addrs;refine nq ?_;refine⟨as.filter fun b=>∃l,σ l≠none/\¬F' l/\b=c.ρ l,fun l p q=>Db.mpr ⟨h1 l p,decide_eq_true ⟨l,p,q,rfl⟩⟩,fun b hb=>?_⟩;have:=(Db.mp hb).2;exact of_decide_eq_true this
 have cellIn:∀x b,cl.lookup x=some b->b∈(cl.filter fun p=>cl.lookup p.1=some p.2).map (·.2):=fun x b e=>Aq.mpr ⟨(x,b),Db.mpr ⟨mem_of_lookup e,decide_eq_true e⟩,rfl⟩;have cellOf:∀b,b∈(cl.filter fun p=>cl.lookup p.1=some p.2).map (·.2)->∃x,cl.lookup x=some b:=fun b hb=>by
  obtain⟨p,hp,rfl⟩:=Aq.mp hb;exact⟨p.1,of_decide_eq_true (Db.mp hp).2⟩
 generalize (cl.filter fun p=>cl.lookup p.1=some p.2).map (·.2)=cs at cellIn cellOf;obtain⟨m,F,hm⟩:=a.fr;have G:=a.ok;have off:∀b o,Γ.g.get? b=some o->b∉as++C::cs:=fun b o e z=>by
  rcases Ce.mp z with z|z
  ·obtain⟨l,hl,nl,rfl⟩:=h2 b z
   cases q:σ l with
   |none=>exact hl q
   |some ob=>
    obtain⟨_,_,_,h3,_⟩:=a.ob l ob q;have h3:=h3.resolve_right (fun y=>nl (hF l y));rw[e] at h3;cases h3
  ·rcases An.mp z with rfl|z
   ·rw[u.g] at e;cases e
   ·obtain⟨x,hx⟩:=cellOf b z;have:=(a.cel x b (hcl x b hx)).2.1.2;rw[e] at this;cases this
 have sub:∀b o,Γ.g.get? b=some o->Kept Γ.fr b o (Es c.h (as++C::cs)):=fun b o e=>(a.keep b o e).go fun o' e'=>Dl _ e' (off b o e);have frC:∀b,(Γ.cmp sc cl C (Es c.h (as++C::cs)) (dom σ) F').fr b->b=Γ.L\/Γ.fr b:=fun b f=>by
  by_cases q:b=Γ.L
  ·exact .inl q
  ·exact .inr ⟨f.1,q⟩
 have none':∀b,b∈as++C::cs->(Es c.h (as++C::cs)).get? b=none:=fun b hb=>Er _ hb;obtain⟨oL,es,ep,hL,rL⟩:=F.ns;have gL:(Es c.h (as++C::cs)).get? Γ.L=some oL:=Dl _ hL fun z=>by
  rcases Ce.mp z with z|z
  ·obtain⟨l,hl,_,e⟩:=h2 _ z;exact(a.offL l hl).1 e.symm
  ·rcases An.mp z with e|z
   ·exact u.L e.symm
   ·obtain⟨x,hx⟩:=cellOf _ z;exact(a.cel x _ (hcl x _ hx)).2.1.1 rfl
 refine nq ?_;refine⟨Es c.h (as++C::cs),⟨⟨fun l o e=>?_,a.inj,a.fin,fun b o e=>.inl (Ie _ e)⟩,?_,⟨mC,⟨hns,fun b o e=>.inl (Ie _ e),none' _ (Gi _ (.head _))⟩,fun x sh hk e=>absurd hk (hmd x sh e)⟩,fun l hl=>⟨u.rho l hl,fun f=>by
  rcases frC _ f with q|q
  ·exact(a.offL l hl).1 q
  ·exact(a.offL l hl).2 q⟩,fun x b hb=>?_,fun l p=>p⟩,sub,fun b o e n1 n2 n3=>Dl _ e fun z=>?_⟩
 ·obtain⟨x,x1,x2,_,x4⟩:=a.ob l o e;by_cases q:F' l
  ·exact⟨x,x1,x2,.inr q,x4⟩
  ·exact⟨x,x1,x2,.inl (none' _ (Fj _ (h1 l (by rw[e];exact fun z=>by cases z) q))),x4⟩
 ·refine⟨fun h m' hg hns=>G.B h m (fun b o e=>?_) (Kept.ns (h0:=Es c.h (as++C::cs)) ⟨oL,es,ep,gL,rL⟩ fun o e=>hg _ o e),G.XB,G.TB,G.X0,G.T0,fun b o e=>(sub b o (G.sub b o e)).ex fun f=>G.nfr b o e f.1,G.nfr,fun b f=>?_,Ar G.low (Ef hlow),G.hd,G.hu,G.hh,hkind,rfl,G.eg,G.eb,fun x y b h1 h2=>G.ci x y b (hcl x b h1) (hcl y b h2)⟩
  ·have nL:b≠Γ.L:=fun q=>by rw[q,F.off] at e;cases e
   refine(sub b o e).trans fun o' e'=>(hg b o' e').imp fun f=>(frC b f).resolve_left nL
  ·rcases frC b f with q|q
   ·exact⟨oL,es,ep,q▸gL,rL.1⟩
   ·refine bc fun nq=>?_;obtain⟨o,es',n',e,d⟩:=G.frg b q;obtain⟨o',e',d'⟩:=(sub b o e).at;refine nq ?_;exact⟨o',es',n',e',d'.trans d⟩
 ·refine bc fun nq=>?_;obtain⟨⟨v,hv,hv2⟩,⟨n1,_⟩,n3⟩:=a.cel x b (hcl x b hb);refine nq ?_;exact⟨⟨v,hv,fun sh e=>hv2 sh (hmc x sh e)⟩,⟨u.cel x b (hcl x b hb),none' _ (Gi _ (.tail _ (cellIn x b hb)))⟩,n3⟩
 ·rcases Ce.mp z with z|z
  ·obtain⟨l,hl,nl,rfl⟩:=h2 b z;exact n2 l hl nl rfl
  ·rcases An.mp z with rfl|z
   ·exact n1 rfl
   ·obtain⟨x,hx⟩:=cellOf b z;exact n3 x b hx rfl
theorem At.fromComp{P:Lbl->Prop}{mc':Str->Option Sh}{c0:Cf}(a0:At Γ ms σ1 c0)(u:Un Γ σ1 c0 C)(sub:∀b o,Γ.g.get? b=some o->Kept Γ.fr b o g')
  (kept:∀b o,c0.h.get? b=some o->b≠C->(∀l,σ1 l≠none->¬F' l->c0.ρ l≠b)->(∀x a,cl.lookup x=some a->a≠b)->g'.get? b=some o)(hcl:∀x b,cl.lookup x=some b->Γ.env.cells.lookup x=some b)
  (hF:∀l,F' l->σ1 l≠none)(hP:∀l,σ1 l≠none->P l)(hcm:∀x sh,ms x=some sh->(cl.lookup x).isSome=true->mc' x=some sh)(S:Step (dom σ1) c0 c)(a:At (Γ.cmp sc cl C g' P F') mc' σ c):At Γ ms σ c:=by
 have nn:∀b,g'.get? b=none->Γ.g.get? b=none:=fun b h=>by
  cases e:Γ.g.get? b with
  |none=>rfl
  |some o=>
   obtain⟨o',e',_⟩:=(sub b o e).at;rw[e'] at h;cases h
 have frC:∀b,(Γ.cmp sc cl C g' P F').fr b->b=Γ.L\/Γ.fr b:=fun b f=>by
  by_cases q:b=Γ.L
  ·exact .inl q
  ·exact .inr ⟨f.1,q⟩
 have D:Dom σ1 σ:=fun l p=>a.prot l (hP l p);refine bc fun nq=>?_;obtain⟨m,F,hm⟩:=a0.fr;obtain⟨oL,es,ep,hL,rL⟩:=F.ns;have gL:g'.get? Γ.L=some oL:=kept _ _ hL (Bw u.L) (fun l hl _=>(a0.offL l hl).1) fun x b hb=>(a0.cel x b (hcl x b hb)).2.1.1;have offρ:∀b o,g'.get? b=some o->(∀l,σ1 l≠none->F' l->c0.ρ l≠b)->∀l,σ l≠none->c.ρ l≠b:=fun b o e n l hl q=>by
  cases h:σ l with
  |none=>exact hl h
  |some ob=>
   obtain⟨_,_,_,h3,_⟩:=a.ob l ob h;rcases h3 with h3|h3
   ·rw[q,e] at h3;cases h3
   ·exact n l (hF l h3) h3 ((S.rho l (hF l h3)).symm.trans q)
 have keep:∀b o,Γ.g.get? b=some o->Kept Γ.fr b o c.h:=fun b o e=>(sub b o e).trans fun o' e'=>(a.keep b o' e').imp fun f=>(frC b f).resolve_left fun q=>by rw[q,F.off] at e;cases e
 refine nq ?_;refine⟨⟨fun l o e=>?_,a.inj,a.fin,keep⟩,a0.ok,⟨m,⟨Kept.ns (h0:=g') ⟨oL,es,ep,gL,rL⟩ fun o e=>a.keep _ o e,keep,F.off⟩,fun x sh hk e=>?_⟩,fun l hl=>⟨offρ _ _ gL (fun l hl _=>(a0.offL l hl).1) l hl,fun f=>(a.offL l hl).2 ⟨f.1,fun q=>(a.offL l hl).1 q⟩⟩,fun x b hb=>?_,fun l p=>D l (a0.prot l p)⟩
 ·obtain⟨x,x1,x2,x3,x4⟩:=a.ob l o e;refine⟨x,x1,x2,?_,x4⟩;rcases x3 with x3|x3
  ·exact .inl (nn _ x3)
  ·have z:=hF l x3
   cases q:σ1 l with
   |none=>exact absurd q z
   |some ob=>
    obtain⟨_,_,_,h3,_⟩:=a0.ob l ob q;rwa[<-S.rho l z] at h3
 ·obtain⟨v,h1,h2⟩:=hm x sh hk e;exact⟨v,h1,h2.mono D S⟩
 ·refine bc fun nq=>?_;obtain⟨⟨v,⟨oc,ho,hd⟩,hv⟩,n1,n3⟩:=a0.cel x b hb;refine nq ?_;by_cases q:cl.lookup x=some b
  ·refine bc fun nq=>?_;obtain⟨⟨v',hv',hm'⟩,_,n3'⟩:=a.cel x b q;refine nq ?_;exact⟨⟨v',hv',fun sh e=>hm' sh (hcm x sh e (by rw[q];rfl))⟩,n1,n3'⟩
  ·have gb:g'.get? b=some oc:=kept _ _ ho (u.cel x b hb) (fun l hl _=>n3 l hl) fun y b' hy e=>by
    subst e;have:=a0.ok.ci x y b' hb (hcl y b' hy);subst this;exact q hy
   exact⟨⟨v,⟨oc,(a.keep _ _ gb).ex (fun f=>(frC b f).elim n1.1 (a0.ok.nofr n1.2)),hd⟩,fun sh e=>by
    obtain⟨y,e1,hy⟩:=hv sh e;exact⟨y,e1,hy.mono D S⟩⟩,n1,offρ _ _ gb fun l hl _=>n3 l hl⟩
theorem aIu{P:Lbl->Prop}{b:Addr}(G:GmOk Γ)(h:Γ.g.get? b=none)(n:b≠Γ.L):¬(Γ.cmp sc cl C g' P F').fr b:=fun f=>G.nofr h ⟨f.1,n⟩
theorem At.adopt{o:Ob}{x:Obj}{D:Addr}(a:At Γ ms σ c)(u:Un Γ σ c D)(hl:σ l=none)(hD:1<D)(hx:c.h.get? D=some x)(i:ObIs Γ.w (upd σ l o) ⟨aN c.ρ l D,c.h⟩ o x):
  At Γ ms (upd σ l o) ⟨aN c.ρ l D,c.h⟩/\Step (dom σ) c ⟨aN c.ρ l D,c.h⟩:=by
 have eqρ:∀y,σ y≠none->aN c.ρ l D y=c.ρ y:=fun y h=>setρ_ne ((fun y h e=>h (e▸hl):∀y,σ y≠none->y≠l) y h);have S:Step (dom σ) c ⟨aN c.ρ l D,c.h⟩:=⟨fun y h=>eqρ y h,fun b vs e=>e⟩;have DM:Dom σ (upd σ l o):=Dom.upd;have atl:aN c.ρ l D l=D:=setρ_at;have dom':∀y,upd σ l o y≠none->y=l\/(y≠l/\σ y≠none):=fun y h=>by
  by_cases e:y=l
  ·exact .inl e
  ·refine .inr ⟨e,?_⟩;unfold upd at h;rwa[if_neg e] at h
 refine⟨⟨⟨fun y o' e=>?_,fun y y' h h' e=>?_,?_,a.keep⟩,a.ok,?_,fun y h=>?_,fun z b hb=>?_,fun y p=>DM y (a.prot y p)⟩,S⟩
 ·by_cases q:y=l
  ·subst q;unfold upd at e;rw[if_pos rfl] at e;cases e;refine⟨x,by dsimp only;rw[atl];exact hx,i,.inl (by dsimp only;rw[atl];exact u.g),by dsimp only;rw[atl];exact hD⟩
  ·unfold upd at e;rw[if_neg q] at e;obtain⟨z,h1,h2,h3,h4⟩:=a.ob y o' e;have ey:=eqρ y (by rw[e];exact fun z=>by cases z);exact⟨z,by dsimp only;rw[ey];exact h1,h2.mono DM S,by dsimp only;rw[ey];exact h3,by dsimp only;rw[ey];exact h4⟩
 ·dsimp only at e;rcases dom' y h with rfl| ⟨n,hy⟩ <;> rcases dom' y' h' with rfl| ⟨n',hy'⟩
  ·rfl
  ·rw[atl,eqρ y' hy'] at e;exact absurd e.symm (u.rho y' hy')
  ·rw[atl,eqρ y hy] at e;exact absurd e (u.rho y hy)
  ·rw[eqρ y hy,eqρ y' hy'] at e;exact a.inj y y' hy hy' e
 ·obtain⟨ls,hls⟩:=a.fin;exact⟨l::ls,fun y h=>by rcases dom' y h with rfl| ⟨_,hy⟩ <;> simp_all⟩
 ·obtain⟨m,F,hm⟩:=a.fr;exact⟨m,⟨F.ns,F.keep,F.off⟩,fun z sh hk e=>by
   obtain⟨v,h1,h2⟩:=hm z sh hk e;exact⟨v,h1,h2.mono DM S⟩⟩
 ·dsimp only;rcases dom' y h with rfl| ⟨_,hy⟩
  ·rw[atl];exact⟨u.L,a.ok.nofr u.g⟩
  ·rw[eqρ y hy];exact a.offL y hy
 ·obtain⟨⟨v,hc,hu⟩,h2,h3⟩:=a.cel z b hb;refine⟨⟨v,hc,fun sh e=>?_⟩,h2,fun y h=>?_⟩
  ·obtain⟨y,e1,hy⟩:=hu sh e;exact⟨y,e1,hy.mono DM S⟩
  ·dsimp only;rcases dom' y h with rfl| ⟨_,hy⟩
   ·rw[atl];exact(u.cel z b hb).symm
   ·rw[eqρ y hy];exact h3 y hy
end
noncomputable def pV(ifs:List Aj)(env:Env):Sem Bool:=forIn ifs true fun c r=>if r=true then do let ok <-isTrue c env (eval c env);pure (ForInStep.yield ok) else pure (ForInStep.yield r)
inductive Comps(Γ:Gm)(K:Sg->Prop)(F:Lbl->Prop)(sc:Scope)(cl:List (Str×Addr))(bd:(Str->Option Sh)->Sh->Str->Option Sh)(mc:Str->Option Sh)(ifs:List Aj)(elt:Aj):List Sh->Sg->List Sh->Sg->Prop
 |nil {σ:Sg}:K σ->Comps Γ K F sc cl bd mc ifs elt [] σ [] σ
 |cons {sh y:Sh} {rest ys:List Sh} {σ σ1 σ2 σ3:Sg}:K σ->(∀g C,EB (Γ.cmp sc cl C g (Mine.dom σ) F) (bd mc sh) σ (pV ifs (Cp sc cl C Γ.env)) true σ1)->(∀g C,EV (Γ.cmp sc cl C g (Mine.dom σ) F) (bd mc sh) σ1 (eval elt (Cp sc cl C Γ.env)) y σ2)->
   Comps Γ K F sc cl bd mc ifs elt rest σ2 ys σ3->Comps Γ K F sc cl bd mc ifs elt (sh::rest) σ (y::ys) σ3
 |skip {sh:Sh} {rest ys:List Sh} {σ σ1 σ3:Sg}:K σ->(∀g C,EB (Γ.cmp sc cl C g (Mine.dom σ) F) (bd mc sh) σ (pV ifs (Cp sc cl C Γ.env)) false σ1)->
   Comps Γ K F sc cl bd mc ifs elt rest σ1 ys σ3->Comps Γ K F sc cl bd mc ifs elt (sh::rest) σ ys σ3
section
variable{M:Model}
theorem iY{α:Type}{m:Sem α}{Q:Except Value α->Ai->Prop}(h:wpN M A m (fun a s'=>Q (.ok a) s') (fun e s'=>Q (.error e) s') s):wpN M A m.attempt Q E s:=fun Γ p hΓ c=>by rw[Sem.wp_attempt];exact h Γ p hΓ c
end
section
variable{mc:Str->Option Sh}{K:Sg->Prop}{T:Lbl->Prop}{bd:(Str->Option Sh)->Sh->Str->Option Sh}{tg:Aj}{ifs:List Aj}{D:Addr}{ρ0:Lbl->Addr}{St:Nat->Heap->Prop}
theorem aBj:EB Γ ms σ (pV [] env) true σ:=⟨Dom.refl σ,fun c s Q E a hs q=>aH (fin hs (q true c s.toks rfl a (Step.refl c)))⟩
theorem aOr{t:Aj}{b:Bool}(h:EB Γ ms σ (isTrue t Γ.env (eval t Γ.env)) b σ1):EB Γ ms σ (pV [t] Γ.env) b σ1:=⟨h.dom,fun c s Q E a hs q=>by
 exact aE (h.bind a hs fun v c1 t1 i1 a1 s1=>aH (aH (q v c1 t1 i1 a1 s1)))⟩
theorem Un.step(u:Un Γ σ c I)(r:∀l,σ1 l≠none->c'.ρ l≠I):Un Γ σ1 c' I:=⟨u.g,u.L,u.cel,r⟩
structure CpOk(Γ:Gm)(ms mc:Str->Option Sh)(sc:Scope)(cl:List (Str×Addr))(bd:(Str->Option Sh)->Sh->Str->Option Sh)(tg:Aj)(ok:Sh->Prop):Prop where
 hcl:∀x b,cl.lookup x=some b->Γ.env.cells.lookup x=some b
 hmc:mLe mc ms
 hmd:∀C x sh,mc x=some sh->(Cp sc cl C Γ.env).kindOf x≠some .local
 hkind:sc.kind = .function
 hcm:∀sh x y,ms x=some y->(cl.lookup x).isSome=true->bd mc sh x=some y
 hT:∀C g P F sh σ,ok sh->TgOk (Γ.cmp sc cl C g P F) tg sh mc (bd mc sh) σ
inductive Ld(σ:Sg)(c:Cf)(C D:Addr)(dn:List Sh):Prop
 |mk (m:Str->Option Value) (vs:List Value):c.h.Ns C m->c.h.get? D=some (listOf vs.toArray vs.length)->IsAll σ c dn vs->Ld σ c C D dn
structure Le(Γ:Gm)(ms:Str->Option Sh)(σ:Sg)(c:Cf)(C D:Addr)(dn:List Sh):Prop where
 a:At Γ ms σ c
 uC:Un Γ σ c C
 uD:Un Γ σ c D
 d:Ld σ c C D dn
structure Lf(Γ:Gm)(tg:Aj)(K:Sg->Prop)(T F:Lbl->Prop)(xs:List Sh)(ρ0:Lbl->Addr)(I:Addr)(S:Addr->Prop)(St:Nat->Heap->Prop)(C D:Addr):Prop where
 W:Itr Γ tg K T F xs ρ0 I S St
 hd:∀σ,K σ->∀l,T l->σ l≠none
 hs:∀l,F l->T l
 hF:∀l,Γ.F l->F l
 LC:Γ.L<C
 DC:D≠C
 IC:¬S C
 ID:¬S D
theorem rF{ok:Sh->Prop}{b:Bool}{dn:List Sh}{Q:Kz->Ai->Prop}(O:CpOk Γ ms mc sc cl bd tg ok)(X:Lf Γ tg K T F xs ρ0 I S St C D)(hok:ok sh)(hi:xs[i]? = some sh)(k:K σ)(L:Le Γ ms σ c C D dn)(o:Off Γ σ c T ρ0 S (St i))(hs':s.heap=c.h)
  (ht:∀g C,EB (Γ.cmp sc cl C g (Mine.dom σ) F) (bd mc sh) σ (pV ifs (Cp sc cl C Γ.env)) b σ1)
  (q:∀(g':Heap) c3 tk (fin:∀σ2 c4,At (Γ.cmp sc cl C g' (Mine.dom σ) F) (bd mc sh) σ2 c4->Step (Mine.dom σ) c c4->Le Γ ms σ2 c4 C D dn/\Off Γ σ2 c4 T ρ0 S (St (i+1))),At (Γ.cmp sc cl C g' (Mine.dom σ) F) (bd mc sh) σ1 c3->Step (Mine.dom σ) c c3->
    wpN (M Γ) Γ.Ad (do
     if b then
      (do let _ <-call (.builtin "list.append") [.ref D,<-eval elt (Cp sc cl C Γ.env)])
     again (.compLoop (.ListComp elt [⟨tg,iter,ifs,0⟩] sc pos) 0 (.ref I) (.ref D) (Cp sc cl C Γ.env))) Q E {s with heap:=c3.h,toks:=tk}):
  wpN (M Γ) Γ.Ad (compTurn (.ListComp elt [⟨tg,iter,ifs,0⟩] sc pos) 0 (.ref I) (.ref D) (Cp sc cl C Γ.env)) Q E s:=by
 obtain⟨a,uC,uD,mC,vs,hns,hDo,hvs⟩:=L;have W:=X.W;rw[compTurn_list];refine aG (aE (wpN.of (Ey (W.next (Q:=fun v s2=>wpN (M Γ) Γ.Ad (do
   Hm tg (Cp sc cl C Γ.env) v
   let ok <-pV ifs (Cp sc cl C Γ.env)
   if ok then
    (do let _ <-call (.builtin "list.append") [.ref D,<-eval elt (Cp sc cl C Γ.env)])
   again (.compLoop (.ListComp elt [⟨tg,iter,ifs,0⟩] sc pos) 0 (.ref I) (.ref D) (Cp sc cl C Γ.env))) Q E s2) i sh hi k a hs' o.at0 o.st fun v h' tk iv kp st=>?_) (fun r s1 h1=>?_) fun _ _ e=>e)))
 rotate_left
 ·cases r with
  |none=>exact h1.elim
  |some v=>exact aK (h1 _)
 refine bc fun nq=>?_;obtain⟨a1,S1⟩:=a.butS kp (W.ob i _ o.st) o.g o.L o.rho o.cel;have hns1:h'.Ns C mC:=hns.at' fun o e=>kp C o X.IC e;obtain⟨g',a2,sub,kept⟩:=a1.toComp (C:=C) F X.hF ⟨uC.g,uC.L,uC.cel,uC.rho⟩ hns1 X.LC O.hcl O.hmc (O.hmd C) O.hkind;have gI:∀b,S b->∀ob,h'.get? b=some ob->g'.get? b=some ob:=fun b hb ob e=>kept b ob e (fun q=>X.IC (q▸hb)) (fun l hl _ q=>o.rho l hl (q▸hb)) (fun x a ha q=>o.cel x a (O.hcl x a ha) (q▸hb));have gD:g'.get? D=some (listOf vs.toArray vs.length):=kept D _ (kp D _ X.ID hDo) X.DC (fun l hl _=>uD.rho l hl) (fun x b hb=>uD.cel x b (O.hcl x b hb));have dom:∀l,F l->σ l≠none:=fun l hl=>X.hd σ k l (X.hs l hl);have gF:∀l,F l->∀ob,h'.get? (ρ0 l)=some ob->g'.get? (ρ0 l)=some ob:=fun l hl ob e=>by
  have e0:=o.at0 l (X.hs l hl);refine kept _ ob e ?_ (fun l' hl' nF e'=>?_) (fun y b hb e'=>?_)
  ·rw[<-e0];exact uC.rho l (dom l hl)
  ·rw[<-e0] at e';exact nF (a.inj l' l hl' (dom l hl) e'▸hl)
  ·exact(a.cel y b (O.hcl y b hb)).2.2 l (dom l hl) (e0.trans e'.symm)
 refine nq ?_;refine aE ((O.hT C g' (Mine.dom σ) F sh σ hok).run ⟨c.ρ,h'⟩ _ v _ _ a2 rfl (iv S1) fun c2 t2 a3 s2=>?_);refine aE ((ht g' C).run c2 _ _ _ a3 rfl fun ok c3 t3 i3 a4 s3=>?_);subst i3;refine q g' c3 t3 (fun σ2 c4 a5 S4=>?_) a4 ((S1.trans s2).trans s3);have S14:Step (Mine.dom σ) ⟨c.ρ,h'⟩ c4:=⟨fun l p=>S4.rho l p,fun ad us e=>(a5.keep ad (cY us) (kept ad _ e (fun q=>by
   obtain⟨oC,es,ep,hC,hCd⟩:=aEj hns1;rw[q,hC] at e;cases e;cases hCd) (fun l hl _ q=>by
   cases w:σ l with
   |none=>exact hl w
   |some ob=>obtain⟨x,x1,x2,_⟩:=a1.ob l ob w;rw[q,e] at x1;cases x1;exact x2.notTup) (fun x b hb q=>by
   obtain⟨⟨u,⟨oc,ho,hdc⟩,_⟩,_⟩:=a1.cel x b (O.hcl x b hb);rw[q,e] at ho;cases ho;cases hdc))).nd (fun _ _ q=>by cases q)⟩
 have a6:At Γ ms σ2 c4:=At.fromComp (cl:=cl) (C:=C) a1 ⟨uC.g,uC.L,uC.cel,uC.rho⟩ sub kept O.hcl dom (fun _ p=>p) (O.hcm sh) S14 a5;have rho:∀J o',g'.get? J=some o'->(∀l,σ l≠none->c.ρ l≠J)->∀l,σ2 l≠none->c4.ρ l≠J:=fun J o' gJ r l hl e=>by
  cases q:σ2 l with
  |none=>exact hl q
  |some ob=>
   obtain⟨_,_,_,h3,_⟩:=a5.ob l ob q;rcases h3 with h3|h3
   ·rw[e,gJ] at h3;cases h3
   ·exact r l (dom l h3) ((S14.rho l (dom l h3)).symm.trans e)
 obtain⟨m4,F4,_⟩:=a5.fr;refine⟨⟨a6,uC.step (fun l hl=>(a5.offL l hl).1),uD.step (rho D _ gD uD.rho),⟨m4,vs,F4.ns,(a5.keep _ _ gD).nd (fun _ _ q=>by cases q),hvs.mono (fun l p=>a5.prot l p:Dom σ σ2) (S1.trans S14)⟩⟩,⟨X.W.frame _ _ _ st (fun b hb ob e=>(a5.keep b ob (gI b hb ob e)).ex (aIu a.ok (o.g b hb) (fun q=>o.L (q▸hb)))) (fun l hl ob e=>(a5.keep _ ob (gF l hl ob e)).ex (fun f=>(o.at0 l (X.hs l hl)▸(a.offL l (dom l hl)).2) ⟨f.1,fun q=>(a.offL l (dom l hl)).1 ((o.at0 l (X.hs l hl)).trans q)⟩)),o.g,o.L,o.cel,fun l hl hb=>(by
   obtain⟨oI,hoI,_⟩:=(W.ob _ _ st) _ hb;exact rho _ _ (gI _ hb oI hoI) (fun l' hl' q=>o.rho l' hl' (q▸hb)) l hl rfl),fun l hl=>(S14.rho l (X.hd σ k l hl)).trans (o.at0 l hl)⟩⟩
theorem aAy{ok:Sh->Prop}(O:CpOk Γ ms mc sc cl bd tg ok)(hok:∀sh∈xs,ok sh)(X:Lf Γ tg K T F xs ρ0 I S St C D){out:List Sh}(R:Jy->Ai->Prop)
  (t:Comps Γ K F sc cl bd mc ifs elt ys σ out σ1):∀(i:Nat) (c:Cf) (s:Ai) (dn:List Sh),xs.drop i=ys->Le Γ ms σ c C D dn->Off Γ σ c T ρ0 S (St i)->s.heap=c.h->dn.length+ys.length<=1000->
   (∀c' tk,Le Γ ms σ1 c' C D (dn++out)->Step (Mine.dom σ) c c'->R (.ok .next) {s with heap:=c'.h,toks:=tk})->
   codeN (M Γ) Γ.Ad (.compLoop (.ListComp elt [⟨tg,iter,ifs,0⟩] sc pos) 0 (.ref I) (.ref D) (Cp sc cl C Γ.env)) R s:=by
 have get:∀{i sh rest},xs.drop i=sh::rest->xs[i]? = some sh:=fun hx=>by
  have:=congrArg (·[0]?) hx;simpa using this
 have next:∀{i sh rest},xs.drop i=sh::rest->xs.drop (i+1)=rest:=fun hx=>by rw[<-Nl,hx];rfl
 induction t with
 | @nil σ k=>
  intro i c s dn hx L o hs' h2 q;refine aT rfl (bH ?_);rw[compTurn_list];have hi:xs[i]? = none:=by
   rw[Cm];have:=congrArg Iq hx;simp at this;exact z16 this
  refine bc fun nq=>?_;obtain⟨a,uC,uD,mC,vs,hns,hDo,hvs⟩:=L;refine nq ?_;refine aG (aE (wpN.of (X.W.done i hi k a hs' o.at0 o.st fun h' tk kp=>?_)));refine bc fun nq=>?_;obtain⟨a1,S1⟩:=a.butS kp (X.W.ob i _ o.st) o.g o.L o.rho o.cel;refine nq ?_;exact aH (q ⟨c.ρ,h'⟩ tk ⟨a1,⟨uC.g,uC.L,uC.cel,uC.rho⟩,⟨uD.g,uD.L,uD.cel,uD.rho⟩,⟨mC,vs,hns.at' fun o e=>kp C o X.IC e,kp D _ X.ID hDo,by rw[Et];exact hvs.mono (Dom.refl _) S1⟩⟩ S1)
 | @cons sh y rest ys σ σ1 σ2 σ3 k ht hel t ih=>
  intro i c s dn hx L o hs' h2 q;refine aT rfl (bH ?_);refine rF O X (hok _ (Bd (get hx))) (get hx) k L o hs' ht fun g' c3 tk fin a3 s3=>?_;refine aE ((hel g' C).bind a3 rfl fun v c4 t4 i4 a4 s4=>?_);have s34:=s3.trans (s4.mono (fun l p=>a3.prot l p));refine bc fun nq=>?_;obtain⟨⟨a5,uC5,uD5,mC5,vs,n5,D5,v5⟩,o5⟩:=fin σ2 c4 a4 s34;refine nq ?_;refine aK (append_at (hsz:=by show vs.toArray.size<=sizeLine;rw[Bg,Bh];exact nle (v5.length▸Ar (Em _ _) h2:vs.length<=1000)) D5 fun h5 hs5 hD5=>?_);refine bc fun nq=>?_;obtain⟨a6,s6⟩:=a5.but (I:=D) (h':=h5) (fun b o n e=>hs5.extBut b o n e) ⟨_,D5,fun us e=>by have this:Gu "list"=Gu "tuple":=congrArg Il e;injection this with q;exact absurd q (by decide)⟩ uD5.g uD5.L uD5.rho uD5.cel;refine nq ?_;refine aH (aH ⟨rfl,?_⟩);refine ih (i+1) ⟨c4.ρ,h5⟩ _ (dn++[y]) (next hx) ⟨a6,⟨uC5.g,uC5.L,uC5.cel,uC5.rho⟩,⟨uD5.g,uD5.L,uD5.cel,uD5.rho⟩,⟨mC5,vs++[v],n5.at' fun o e=>hs5.extBut _ _ (Bw X.DC) e,by rw[hD5,Cz,List.length_singleton,List.push_toArray],(v5.mono (Dom.refl _) s6).app (.cons (i4.mono (Dom.refl _) s6) .nil)⟩⟩
   ⟨X.W.frame _ _ _ o5.st (fun b hb ob e=>hs5.extBut _ _ (fun q=>X.ID (q▸hb)) e) (fun l hl ob e=>hs5.extBut _ _ (fun q=>uD5.rho l (a4.prot l (X.hd σ k l (X.hs l hl))) ((o5.at0 l (X.hs l hl)).trans q)) e),o5.g,o5.L,o5.cel,o5.rho,o5.at0⟩ rfl (by rw[Cz,List.length_singleton,Nat.add_assoc,Nat.add_comm 1];exact h2)
   fun c' tk' L' S'=>q c' tk' (by rw[Ic] at L';exact L') ((s34.trans (s6.mono (fun l p=>a4.prot l p))).trans (S'.mono (fun l p=>a4.prot l p)))
 | @skip sh rest ys σ σ1 σ3 k ht t ih=>
  intro i c s dn hx L o hs' h2 q;refine aT rfl (bH ?_);refine rF O X (hok _ (Bd (get hx))) (get hx) k L o hs' ht fun g' c3 tk fin a3 s3=>?_;exact aH ⟨rfl,ih (i+1) c3 _ dn (next hx) (fin σ1 c3 a3 s3).1 (fin σ1 c3 a3 s3).2 rfl (Nat.le_of_succ_le h2) fun c' tk' L' S'=>q c' tk' L' (s3.trans (S'.mono (fun l p=>a3.prot l p)))⟩
theorem oW{it acc:Value}{g:Comprehension}{rest:List Comprehension}(hg:g.is_async=0)
  (h0:codeN (model prog w) A (.compLoop (.ListComp elt (g::rest) sc pos) 0 it acc env) R s)
  (h:∀Q E,Q it s->wpAny (model prog w) A (pyIter it) Q E s):codeN (model prog w) A (.compStart (.ListComp elt (g::rest) sc pos) 0 it acc env) R s:=by
 obtain⟨tg,iter,ifs,as⟩:=g;cases hg;refine aT rfl ?_;show wpN _ _ ((compStart (.ListComp elt (⟨tg,iter,ifs,0⟩::rest) sc pos) 0 it acc env).onRaise (fun x=>do Ks x env;Fb theWindowsPlace)) _ _ s
 refine bH ?_;refine aK (wpAny_askSetting ?_);have tail:∀{Q:Kz->Ai->Prop} {E:Value->Ai->Prop},Q (.again (.compLoop (.ListComp elt (⟨tg,iter,ifs,0⟩::rest) sc pos) 0 it acc env)) s->wpN (model prog w) A (do
   rule "comprehension.iter-twice"
   Fb iter.pos
   again (.compLoop (.ListComp elt (⟨tg,iter,ifs,0⟩::rest) sc pos) 0 (<-pyIter it) acc env)) Q E s:=fun q=>aK (Dy (aG (aK (h _ _ (aH q)))))
 split
 ·first
   |exact aW (aH ⟨rfl,h0⟩)
   |exact aH ⟨rfl,h0⟩
 ·exact tail ⟨rfl,h0⟩
theorem wV{M:Model}{α:Type}{p:Prop}[Decidable p]{k:PUnit->Sem α}{Q:α->Ai->Prop}(h:wpN M A (k ()) Q E s):wpN M A (if p then(Fb pos >>= k) else k ()) Q E s:=by
 split
 ·exact aG h
 ·exact h
theorem wM{ok:Sh->Prop}{l:List Sh}(n:Lbl)(it:ItE Γ tg ms σ iter σ1 K T F xs)(t:Comps Γ K F sc cl bd mc ifs elt xs σ1 l σ2)(O:CpOk Γ ms mc sc cl bd tg ok)(hF:∀l,Γ.F l->F l)(hz:xs.length<=1000)(hn:σ2 n=none)
  (hclos:Gk sc Γ.env=pure cl)(hcell:∀y∈sc.names,y.2≠.cell)(hnames:∀y∈sc.names,y.2 = .local->sc.names.lookup y.1=some .local)(hfold:∀v,Dd iter Γ.env v=pure v)(hdm:Dom σ1 σ2)(hok:∀sh∈xs,ok sh:=by exact fun _ _=>trivial):
  EV Γ ms σ (eval (.ListComp elt [⟨tg,iter,ifs,0⟩] sc pos) Γ.env) (.ref n) (upd σ2 n (.list l)):=
 ⟨(it.dom.trans hdm).trans Dom.upd,fun c s Q E a hs q=>by
  rw[eval_ListComp];unfold comprehension;rw[hclos];show wpN _ _ (do
   let x <-eval iter Γ.env
   _) _ _ _
  refine aE (bX (it.run c s _ E a hs fun c1 I S h' tk St a1 s1 W hI kp st=>?_) (fun v s1 h1=>aG (aK (Bc (hfold v) (aE (aF (wpN.of h1)))))) fun _ _ e=>e);have ltS:∀b,S b->b<h'.objs.size:=fun b hb=>by
   obtain⟨oI,hoI,_⟩:=W.ob _ _ st b hb;exact Aw hoI
  obtain⟨a2,s2⟩:=a1.grow0 (h':=h') kp;have o2:Off Γ σ1 ⟨c1.ρ,h'⟩ T c1.ρ S (St 0):=Off.first a1 hI st;refine wV ?_;refine aK (Ii ?_);refine aW ?_;generalize hH2:h'.push {cls:=.type "list",dict:=none,data:=.seq ([]:List Value).toArray}=H2;have hD2:H2.objs.size=h'.objs.size+1:=by rw[<-hH2,Bz]
  refine aK (Lv hcell (by intro y hy;simp at hy) (fun h₁ hns₁ hsb₁=>?_) O.hkind);dsimp only at hns₁ hsb₁ ⊢;have kp1:∀b o,h'.get? b=some o->h₁.get? b=some o:=fun b o e=>hsb₁.extBut b o (Bn (by rw[hD2];exact Au (Aw e))) (Ae _ (hH2▸Ae _ e));have hDo1:h₁.get? h'.objs.size=some (listOf ([]:List Value).toArray 0):=hsb₁.extBut _ _ (by rw[hD2];exact Bn (Bp _)) (Ae _ (hH2▸Ao _ rfl:H2.get? h'.objs.size=some (listOf ([]:List Value).toArray 0)));obtain⟨a3,s3⟩:=a2.grow (h':=h₁) kp1 (show h'.objs.size<=h₁.objs.size by rw[hsb₁.1,Bz,hD2];exact z24);have unBig:∀J,h'.objs.size<=J->Un Γ σ1 ⟨c1.ρ,h₁⟩ J:=fun J hJ=>by
   have z:=a2.newUn hJ;exact⟨z.g,z.L,z.cel,z.rho⟩
  have o3:Off Γ σ1 ⟨c1.ρ,h₁⟩ T c1.ρ S (St 0):=⟨W.frame _ _ _ st (fun _ _ o e=>kp1 _ _ e) (fun l _ o e=>kp1 _ _ e),o2.g,o2.L,o2.cel,o2.rho,o2.at0⟩;refine aF (aE (iY (aF (uK ?_))));have loop:codeN (M Γ) Γ.Ad (.compLoop (.ListComp elt [⟨tg,iter,ifs,0⟩] sc pos) 0 (.ref I) (.ref h'.objs.size) (Cp sc cl H2.objs.size Γ.env)) (fun r s'=>match r with
    | .ok _=>∃c' tk,s'={s with heap:=c'.h,toks:=tk}/\Le Γ ms σ2 c' H2.objs.size h'.objs.size l/\Step (Mine.dom σ1) ⟨c1.ρ,h₁⟩ c'
    | .error _=>False) {s with heap:=h₁,toks:=tk+([]:List (Str×Value)).length}:=
   aAy O hok ⟨W,it.tdom,it.sub,hF,(show Γ.L<H2.objs.size by rw[hD2];exact Au a2.Llt),by rw[hD2];exact Bn (Bp _),fun hb=>by have h1:=ltS _ hb;rw[hD2] at h1;exact Ed _ (Nat.lt_of_succ_lt h1),fun hb=>Ed _ (ltS _ hb)⟩ _ t 0 ⟨c1.ρ,h₁⟩ _ [] Lb
    ⟨a3,unBig _ (by rw[hD2];exact Cs _),unBig _ (Bs _),⟨_,[],hns₁,hDo1,.nil⟩⟩ o3 rfl (by simpa using hz) fun c' tk' L' S'=>⟨c',tk',rfl,L',S'⟩
  have hself:∀(Q:Value->Ai->Prop) (E:Value->Ai->Prop),Q (.ref I) {s with heap:=h₁,toks:=tk+([]:List (Str×Value)).length}->wpAny (M Γ) Γ.Ad (pyIter (.ref I)) Q E {s with heap:=h₁,toks:=tk+([]:List (Str×Value)).length}:=fun Q E q=>W.self 0 o3.st q;refine kW (oW (g:=⟨tg,iter,ifs,0⟩) rfl loop hself) fun r s' h=>?_
  cases r with
  |error e=>exact h.elim
  |ok f=>
   refine bc fun nq=>?_;obtain⟨c',tk',rfl,⟨a',u1,u2,mC',vs',n',D',v'⟩,S'⟩:=h;have hv:∀x∈(sc.names.filter fun x=>(x.2 == .local || x.2 == .cell)&&x.1 !=(".0":Str)).reverse,x.2 = .local->
     Env.kindOf (Cp sc cl H2.objs.size Γ.env) x.1=some .local:=fun x hx hl=>Jd (hnames x (Db.mp (List.mem_reverse.mp hx)).1 hl)
   refine nq ?_;refine bV (wpAny_comp_letGo (cenv:=Cp sc cl H2.objs.size Γ.env) O.hkind _ _ mC' hv n' fun h5 m5 n5 hs5=>?_);have nt:∀ad us,c'.h.get? ad=some (cY us)->ad≠H2.objs.size:=fun ad us e q=>by
    obtain⟨oC,es,ep,hC,hCd⟩:=aEj n';rw[q,hC] at e;cases e;cases hCd
   obtain⟨a4,s4⟩:=a'.but (I:=H2.objs.size) (h':=h5) (fun b o n e=>hs5.extBut b o n e) (by
    obtain⟨oC,es,ep,hC,hCd⟩:=aEj n';exact⟨oC,hC,fun us e=>by rw[e] at hCd;cases hCd⟩) u1.g u1.L u1.rho u1.cel
   have big:1<h'.objs.size:=a2.big.1;have Sn:Step (Mine.dom σ2) ⟨c'.ρ,h5⟩ ⟨aN c'.ρ n h'.objs.size,h5⟩:=⟨fun y hy=>setρ_ne fun e=>hy (e.symm▸hn),fun _ _ e=>e⟩;obtain⟨a5,s5⟩:=At.adopt (l:=n) (o:=.list l) a4 ⟨u2.g,u2.L,u2.cel,u2.rho⟩ hn big (hs5.extBut _ _ (by show h'.objs.size≠H2.objs.size;rw[hD2];exact Bn (Bp _)) D':h5.get? h'.objs.size=some (listOf vs'.toArray vs'.length)) (.list l vs' _ ((v'.mono (Dom.refl _) s4).mono Dom.upd Sn));exact aH (q _ ⟨aN c'.ρ n h'.objs.size,h5⟩ tk' (Is.new:Is (upd σ2 n (.list l)) ⟨aN c'.ρ n h'.objs.size,h5⟩ (.ref n) (.ref h'.objs.size)) a5 (((s1.trans ((s2.trans s3).mono it.dom)).trans (S'.mono it.dom)).trans ((s4.trans s5).mono (it.dom.trans hdm))))⟩
end
mutual
inductive SOk(D:Lbl->Prop):Sh->Prop
 |none:SOk D .none
 |bool (b:Bool):SOk D (.bool b)
 |int (n:Int):SOk D (.int n)
 |str (x:Str):SOk D (.str x)
 |bytes (b:List UInt8):SOk D (.bytes b)
 |con (v:Value):SOk D (.con v)
 |ref (l:Lbl):D l->SOk D (.ref l)
 |tup (l:List Sh):SAll D l->SOk D (.tup l)
inductive SAll(D:Lbl->Prop):List Sh->Prop
 |nil:SAll D []
 |cons {x:Sh} {l:List Sh}:SOk D x->SAll D l->SAll D (x::l)
end
theorem SOk.refi(h:SOk D (.ref l)):D l:=by cases h;assumption
theorem SOk.tupi{l:List Sh}(h:SOk D (.tup l)):SAll D l:=by cases h;assumption
theorem SAll.consi{x:Sh}{l:List Sh}(h:SAll D (x::l)):SOk D x/\SAll D l:=by cases h;exact⟨by assumption,by assumption⟩
theorem Is.sok{x:Sh}(h:Is σ c x v):SOk (dom σ) x:=
 Is.rec (motive_1:=fun x _ _=>SOk (dom σ) x) (motive_2:=fun x _ _=>SAll (dom σ) x) .none .bool (fun n _=>.int n) (fun n _=>.str n) (fun n _=>.bytes n) .ref .con (fun l _ _ _ _ ih=>.tup l ih) .nil (fun _ _ a b=>.cons a b) h
theorem IsAll.sok{x:List Sh}{v:List Value}(h:IsAll σ c x v):SAll (dom σ) x:=
 IsAll.rec (motive_1:=fun x _ _=>SOk (dom σ) x) (motive_2:=fun x _ _=>SAll (dom σ) x) .none .bool (fun n _=>.int n) (fun n _=>.str n) (fun n _=>.bytes n) .ref .con (fun l _ _ _ _ ih=>.tup l ih) .nil (fun _ _ a b=>.cons a b) h
theorem Is.cut{x:Sh}(h:Is σ c x v):SOk (dom σ2) x->Is σ2 c x v:=
 Is.rec (motive_1:=fun x v _=>SOk (dom σ2) x->Is σ2 c x v) (motive_2:=fun x v _=>SAll (dom σ2) x->IsAll σ2 c x v) (fun _=>.none) (fun b _=>.bool b) (fun n t _=>.int n t) (fun n t _=>.str n t) (fun n t _=>.bytes n t) (fun l _ k=>.ref l k.refi) (fun v _=>.con v)
  (fun l a vs h _ ih k=>.tup l a vs h (ih k.tupi)) (fun _=>.nil) (fun _ _ a b k=>.cons (a k.consi.1) (b k.consi.2)) h
theorem IsAll.cut{x:List Sh}{v:List Value}(h:IsAll σ c x v):SAll (dom σ2) x->IsAll σ2 c x v:=
 IsAll.rec (motive_1:=fun x v _=>SOk (dom σ2) x->Is σ2 c x v) (motive_2:=fun x v _=>SAll (dom σ2) x->IsAll σ2 c x v) (fun _=>.none) (fun b _=>.bool b) (fun n t _=>.int n t) (fun n t _=>.str n t) (fun n t _=>.bytes n t) (fun l _ k=>.ref l k.refi) (fun v _=>.con v)
  (fun l a vs h _ ih k=>.tup l a vs h (ih k.tupi)) (fun _=>.nil) (fun _ _ a b k=>.cons (a k.consi.1) (b k.consi.2)) h
theorem SOk.mono(h:∀l,D l->D' l){x:Sh}(k:SOk D x):SOk D' x:=
 SOk.rec (motive_1:=fun x _=>SOk D' x) (motive_2:=fun x _=>SAll D' x) .none .bool .int .str .bytes .con (fun l q=>.ref l (h l q)) (fun l _ ih=>.tup l ih) .nil (fun _ _ a b=>.cons a b) k
theorem SAll.mono(h:∀l,D l->D' l){x:List Sh}(k:SAll D x):SAll D' x:=
 SAll.rec (motive_1:=fun x _=>SOk D' x) (motive_2:=fun x _=>SAll D' x) .none .bool .int .str .bytes .con (fun l q=>.ref l (h l q)) (fun l _ ih=>.tup l ih) .nil (fun _ _ a b=>.cons a b) k
noncomputable def KOk{K:Type}(D:Lbl->Prop)(l:List (K×Sh)):Prop:=∀p∈l,SOk D p.2
theorem KAll.sok{K:Type}{x:List (K×Sh)}{v:List (K×Value)}(h:KAll σ c x v):KOk (dom σ) x:=by
 induction h with
 |nil=>intro p hp;cases hp
 |cons a _ ih=>
  intro p hp;rcases An.mp hp with rfl|hp
  ·exact a.sok
  ·exact ih p hp
theorem KAll.cut{K:Type}{x:List (K×Sh)}{v:List (K×Value)}(h:KAll σ c x v)(k:KOk (dom σ2) x):KAll σ2 c x v:=by
 induction h with
 |nil=>exact .nil
 |cons a _ ih=>exact .cons (a.cut (k _ (.head _))) (ih fun p hp=>k p (.tail _ hp))
noncomputable def OOk(D:Lbl->Prop):Ob->Prop
 | .list l=>SAll D l
 | .sdict l=>KOk D l
 | .idict l=>KOk D l
 | .bdict l=>KOk D l
 | .inst _ d=>D d
 | .ba _=>True
 | .raw ls _=>∀l∈ls,D l
theorem OOk.mono(h:∀l,D l->D' l){o:Ob}(k:OOk D o):OOk D' o:=by
 cases o with
 |list l=>exact SAll.mono h k
 |sdict l=>exact fun p hp=>(k p hp).mono h
 |idict l=>exact fun p hp=>(k p hp).mono h
 |bdict l=>exact fun p hp=>(k p hp).mono h
 |inst C d=>exact h d k
 |ba b=>trivial
 |raw ls p=>exact fun l hl=>h l (k l hl)
theorem ObIs.ook{o:Ob}{x:Obj}(h:ObIs w σ c o x):OOk (dom σ) o:=by
 cases h with
 |list l vs n h=>exact h.sok
 |sdict l k o h hs=>exact hs.sok
 |idict l k o h hs=>exact hs.sok
 |bdict l k o h hs=>exact hs.sok
 |inst C d h=>exact h
 |ba b=>trivial
 |raw ls p o h _ _=>exact h
theorem ObIs.cut{o:Ob}{x:Obj}(h:ObIs w σ c o x)(k:OOk (dom σ2) o):ObIs w σ2 c o x:=by
 cases h with
 |list l vs n h=>exact .list _ _ _ (h.cut k)
 |sdict l kv o h hs=>exact .sdict _ _ _ h (hs.cut k)
 |idict l kv o h hs=>exact .idict _ _ _ h (hs.cut k)
 |bdict l kv o h hs=>exact .bdict _ _ _ h (hs.cut k)
 |inst C d h=>exact .inst _ _ k
 |ba b=>exact .ba _
 |raw ls p _ h hp n=>exact .raw ls p _ k hp n
structure Less(σ σ1 σ2:Sg):Prop where
 le:∀l o,σ2 l=some o->σ1 l=some o
 dm:Dom σ σ2
 cl:∀l o,σ2 l=some o->σ l=some o\/OOk (dom σ2) o
section
variable{c1:Cf}
theorem Hp.drop{fr:Addr->Prop}(h:Hp w fr F g σ1 c1)(le:∀l o,σ2 l=some o->σ1 l=some o)(cl:∀l o,σ2 l=some o->OOk (dom σ2) o):Hp w fr F g σ2 c1:=by
 have dm:∀l,σ2 l≠Mg->σ1 l≠Mg:=fun l hl=>by
  cases e:σ2 l with
  |none=>exact absurd e hl
  |some o=>rw[le l o e];exact fun z=>by cases z
 refine⟨fun l o e=>?_,fun l l' h1 h2=>h.inj l l' (dm l h1) (dm l' h2),?_,h.keep⟩
 ·obtain⟨x,h1,h2,h3,h4⟩:=h.ob l o (le l o e);exact⟨x,h1,h2.cut (cl l o e),h3,h4⟩
 ·obtain⟨ls,hls⟩:=h.fin;exact⟨ls,fun l hl=>hls l (dm l hl)⟩
theorem Less.closed{fr:Addr->Prop}(L:Less σ σ1 σ2)(h:Hp w fr F g σ c):∀l o,σ2 l=some o->OOk (dom σ2) o:=fun l o e=>by
 rcases L.cl l o e with q|q
 ·obtain⟨x,h1,h2,_⟩:=h.ob l o q;exact h2.ook.mono L.dm
 ·exact q
theorem At.drop(a:At Γ ms1 σ1 c1)(le:∀l o,σ2 l=some o->σ1 l=some o)(cl:∀l o,σ2 l=some o->OOk (dom σ2) o)(hm:∀x sh,(Γ.env.kindOf x=some .local\/(Γ.env.cells.lookup x).isSome=true)->ms1 x=some sh->SOk (dom σ2) sh)(hP:∀l,Γ.P l->σ2 l≠none):At Γ ms1 σ2 c1:=by
 have dm:∀l,σ2 l≠none->σ1 l≠none:=fun l hl=>by
  cases e:σ2 l with
  |none=>exact absurd e hl
  |some o=>rw[le l o e];exact fun z=>by cases z
 refine⟨a.toHp.drop le cl,a.ok,?_,fun l hl=>a.offL l (dm l hl),fun x b hb=>?_,hP⟩
 ·obtain⟨m,F,h⟩:=a.fr;refine⟨m,F,fun x sh hk e=>?_⟩;obtain⟨v,h1,h2⟩:=h x sh hk e;exact⟨v,h1,h2.cut (hm x sh (.inl hk) e)⟩
 ·refine bc fun nq=>?_;obtain⟨⟨u,hc,hu⟩,h2,h3⟩:=a.cel x b hb;refine nq ?_;exact⟨⟨u,hc,fun sh e=>by
   obtain⟨y,e1,hy⟩:=hu sh e;exact⟨y,e1,hy.cut (hm x sh (.inr (by rw[hb];rfl)) e)⟩⟩,h2,fun l hl=>h3 l (dm l hl)⟩
theorem At.msok(a:At Γ ms σ c):∀x sh,(Γ.env.kindOf x=some .local\/(Γ.env.cells.lookup x).isSome=true)->ms x=some sh->SOk (dom σ) sh:=fun x sh h e=>by
 rcases h with h|h
 ·obtain⟨m,F,hm⟩:=a.fr;obtain⟨v,_,i⟩:=hm x sh h e;exact i.sok
 ·cases q:Γ.env.cells.lookup x with
  |none=>rw[q] at h;cases h
  |some b=>
   obtain⟨⟨u,_,hu⟩,_⟩:=a.cel x b q;obtain⟨y,_,i⟩:=hu sh e;exact i.sok
theorem EG.drop{α:Type}{t:Sem α}{R R':Cf->α->Prop}(h:EG Γ ms σ t R σ1)(L:Less σ σ1 σ2)(hR:∀c v,R c v->R' c v):EG Γ ms σ t R' σ2:=
 ⟨L.dm,fun c s Q E a hs q=>h.run c s Q E a hs fun v c1 t1 i1 a1 s1=>q v c1 t1 (hR c1 v i1) (a1.drop L.le (L.closed a.toHp) (fun x sh k e=>(a.msok x sh k e).mono L.dm) fun l p=>L.dm l (a.prot l p)) s1⟩
theorem EV.drop{t:Sem Value}{x:Sh}(h:EV Γ ms σ t x σ1)(L:Less σ σ1 σ2)(k:SOk (dom σ2) x):EV Γ ms σ t x σ2:=EG.drop h L fun c v i=>i.cut k
theorem EB.drop{t:Sem Bool}{x:Bool}(h:EB Γ ms σ t x σ1)(L:Less σ σ1 σ2):EB Γ ms σ t x σ2:=EG.drop h L fun _ _ i=>i
theorem FN.drop{x:Sh}(h:FN w n f args σ x σ1)(L:Less σ σ1 σ2)(k:SOk (Mine.dom σ2) x):FN w n f args σ x σ2:=
 ⟨L.dm,fun A base outer g mg mb c s vs R C H hs hv q=>h.run A base outer g mg mb c s vs R C H hs hv fun v c' tk i H' S=>q v c' tk (i.cut k) (H'.drop L.le (L.closed H)) S⟩
theorem SS.drop{t:Sem Flow}(h:SS Γ ms σ t fl ms1 σ1)(L:Less σ σ1 σ2)(k:SOk (dom σ2) (aCq fl))(hm:∀x sh,ms1 x=some sh->SOk (dom σ2) sh):SS Γ ms σ t fl ms1 σ2:=
 ⟨fun c s Q E a hs q=>h.run c s Q E a hs fun f c1 t1 i1 a1 s1=>by
  refine q f c1 t1 ?_ (a1.drop L.le (L.closed a.toHp) (fun x sh _ e=>hm x sh e) fun l p=>L.dm l (a.prot l p)) s1
  cases i1 with
  |next=>exact .next
  |brk=>exact .brk
  |ret x v i=>exact .ret x v (i.cut k)⟩
theorem Less.one{n:Lbl}{o:Ob}(hn:σ n=none):Less σ (upd σ n o) σ:=⟨fun l ob e=>by
 unfold upd;rw[if_neg (fun q=>by rw[q,hn] at e;cases e)];exact e,Dom.refl _,fun l o e=>.inl e⟩
theorem Less.refl(σ:Sg):Less σ σ σ:=⟨fun _ _ e=>e,Dom.refl _,fun _ _ e=>.inl e⟩
end
section
open PySem.SeqAt
mutual
inductive Dt:Nat->Sh->Prop
 |none (n:Nat):Dt n .none
 |bool (n:Nat) (b:Bool):Dt n (.bool b)
 |int (n:Nat) (i:Int):Dt n (.int i)
 |str (n:Nat) (x:Str):Dt n (.str x)
 |bytes (n:Nat) (b:List UInt8):Dt n (.bytes b)
 |tup (n:Nat) (l:List Sh):DtAll n l->Dt (n+1) (.tup l)
inductive DtAll:Nat->List Sh->Prop
 |nil (n:Nat):DtAll n []
 |cons {n:Nat} {x:Sh} {l:List Sh}:Dt n x->DtAll n l->DtAll n (x::l)
end
theorem DtAll.get{l:List Sh}(h:DtAll n l):∀x∈l,Dt n x:=by
 induction l with
 |nil=>intro x hx;cases hx
 |cons y l ih=>
  cases h with
  |cons a b=>
   intro x hx;rcases An.mp hx with rfl|hx
   ·exact a
   ·exact ih b x hx
theorem DtAll.of{l:List Sh}(h:∀x∈l,Dt n x):DtAll n l:=by
 induction l with
 |nil=>exact .nil n
 |cons y l ih=>exact .cons (h y (.head _)) (ih fun x hx=>h x (.tail _ hx))
theorem mK:(Jg n).all (fun _=>true)=true:=Ha.mpr fun _ _=>rfl
theorem aIw{b:Array UInt8}{u:Tok}:EqAt A s (.bytes b t) (.bytes b u) true:=fun prog w E Q hq=>by
 refine Dv ?_;refine wpAny_ite_split (fun _=>?_) (fun _=>?_)
 ·exact Ab (Dy (Ak hq))
 ·exact Ab (eq_bytes (by rw[beq_self_eq_true];exact Du hq):wpAny (model prog w) A (Jq .Eq (.bytes b t) (.bytes b u)) (fun v s'=>wpAny (model prog w) A (truthOfDropped v) Q E s') E s)
inductive Sm(σ:Sg)(c:Cf)(n:Nat):Value->Value->Prop
 |none:Sm σ c n .none .none
 |bool (b:Bool):Sm σ c n (.bool b) (.bool b)
 |int (k:Int) (t t':Tok):Sm σ c n (.int k t) (.int k t')
 |str (k:Str) (t t':Tok):Sm σ c n (.str k t) (.str k t')
 |bytes (k:Array UInt8) (t t':Tok):Sm σ c n (.bytes k t) (.bytes k t')
 |tup (m:Nat) (l:List Sh) (a b:Addr) (vs ws:List Value):n=m+1->DtAll m l->c.h.get? a=some (cY vs)->c.h.get? b=some (cY ws)->IsAll σ c l vs->IsAll σ c l ws->Sm σ c n (.ref a) (.ref b)
theorem Dt.sm{x:Sh}{u:Value}(d:Dt n x)(i:Is σ c x u)(j:Is σ c x v):Sm σ c n u v:=by
 cases d with
 |none=>rw[i.none_inv,j.none_inv];exact .none
 |bool=>rw[i.bool_inv,j.bool_inv];exact .bool _
 |int n k=>obtain⟨t,rfl⟩:=i.int_inv;obtain⟨t',rfl⟩:=j.int_inv;exact .int k t t'
 |str n k=>obtain⟨t,rfl⟩:=i.str_inv;obtain⟨t',rfl⟩:=j.str_inv;exact .str k t t'
 |bytes n k=>obtain⟨t,rfl⟩:=i.bytes_inv;obtain⟨t',rfl⟩:=j.bytes_inv;exact .bytes _ t t'
 |tup m l hl=>obtain⟨a,vs,rfl,h,hv⟩:=i.tup_inv;obtain⟨b,ws,rfl,h',hw⟩:=j.tup_inv;exact .tup m l a b vs ws rfl hl h h' hv hw
theorem Sm.eq{u:Value}(h:Sm σ c n u v)
  (T:∀m l a b vs ws,n=m+1->DtAll m l->c.h.get? a=some (cY vs)->c.h.get? b=some (cY ws)->IsAll σ c l vs->IsAll σ c l ws->EqAt A s (.ref a) (.ref b) true):EqAt A s u v true:=by
 cases h with
 |none=>exact EqAt.same _
 |bool=>exact EqAt.same _
 |int k t t'=>have:=EqAt.int_int (A:=A) (s:=s) k t k t';rwa[beq_self_eq_true] at this
 |str k t t'=>have:=EqAt.str_str (A:=A) (s:=s) k t k t';rwa[beq_self_eq_true] at this
 |bytes=>exact aIw
 |tup m l a b vs ws e d h h' hv hw=>exact T m l a b vs ws e d h h' hv hw
theorem aHf(F:∀x∈xs,∀p q,Is σ c x p->Is σ c x q->EqAt A s p q true)(h1:IsAll σ c xs vs)(h2:IsAll σ c xs ws)(k:Nat)(k1:k<vs.toArray.size)(k2:k<ws.toArray.size):EqAt A s vs.toArray[k] ws.toArray[k] true:=by
 have kl:k<xs.length:=by rw[<-h1.length];simpa using k1
 obtain⟨p,hp,ip⟩:=h1.get (Ba kl);obtain⟨q,hq,iq⟩:=h2.get (Ba kl);obtain⟨_,rfl⟩:=As.mp hp;obtain⟨_,rfl⟩:=As.mp hq;exact F _ (Mk kl) _ _ ip iq
theorem aEz:∀(n:Nat) (x:Sh) (A:Ez) (s:Ai) (u v:Value),Dt n x->s.heap=c.h->A.units+n<cLine->Is σ c x u->Is σ c x v->EqAt A s u v true:=by
 intro n
 induction n with
 |zero=>exact fun x A s u v d _ _ i j=>(d.sm i j).eq fun m _ _ _ _ _ e=>absurd e (Mv m).symm
 |succ n ih=>
  refine fun x A s u v d hs hu i j=>(d.sm i j).eq fun m l a b vs ws e dl h h' hv hw=>?_;obtain rfl:=Lo e;by_cases e:a=b
  ·exact e▸EqAt.same _
  ·refine EqAt.of_refs e ?_;have z:=RcAt.tuples (A:=A) (e:=fun _=>true) ⟨_,by rw[hs];exact h,rfl,_,rfl⟩ ⟨_,by rw[hs];exact h',rfl,_,rfl⟩ (by omega) (aHf (fun x hx p q ip iq=>ih _ _ s p q (dl.get _ hx) hs (by show A.units+1+n<cLine;exact z1 hu) ip iq) hv hw);rwa[mK,show(vs.toArray.size==ws.toArray.size)=true from by simp[hv.length,hw.length]] at z
end
section
open PySem.SeqAt
section
variable{l:Aj}
theorem At.units(a:At Γ ms σ c):Γ.Ad.units+5<cLine:=by have:=a.ok.hu;exact z25 this
theorem aGt(d:DtAll n xs)(hs:s.heap=c.h)(hu:A.units+1+n<cLine)(h1:IsAll σ c xs vs)(h2:IsAll σ c xs ws)(k:Nat)(k1:k<vs.toArray.size)(k2:k<ws.toArray.size):EqAt A.in1 s vs.toArray[k] ws.toArray[k] true:=
 aHf (fun x hx p q ip iq=>aEz n _ A.in1 s p q (d.get _ hx) hs (by show A.units+1+n<cLine;exact hu) ip iq) h1 h2 k k1 k2
theorem dW{x:Sh}(d:Dt n x)(hn:n<=5):CmpOk Γ ms σ .NotEq x x false:=⟨fun c s u v Q E a hs i j q=>by
 have q':=fin hs (q s.toks)
 cases d.sm i j with
 |none=>exact RcNeAt.none_none _ _ _ _ q'
 |bool b=>refine RcNeAt.bool_bool b b _ _ _ _ ?_;rwa[beq_self_eq_true]
 |int k t t'=>refine RcNeAt.int_int k t k t' _ _ _ _ ?_;rwa[beq_self_eq_true]
 |str x t t'=>refine RcNeAt.str_str x t x t' _ _ _ _ ?_;rwa[beq_self_eq_true]
 |bytes=>exact ne_bytes (by rwa[bne_self_eq_false])
 |tup m l p b vs ws e hl h h' hv hw=>
  subst e;refine RcNeAt.tuples (e:=fun _=>true) ⟨_,by rw[hs];exact h,rfl,_,rfl⟩ ⟨_,by rw[hs];exact h',rfl,_,rfl⟩ (by exact Bf on0 a.units) (fun k k1 k2=>aGt hl hs (by exact z30 a.units hn) hv hw k k1 k2) _ _ _ _ ?_;rw[mK,show(vs.toArray.size==ws.toArray.size)=true from by simp[hv.length,hw.length]]
  exact q'⟩
theorem gT{a b:Lbl}(ha:σ a=some (.list xs))(hb:σ b=some (.list xs))(d:DtAll n xs)(hn:n<=4):CmpOk Γ ms σ .Eq (.ref a) (.ref b) true:=⟨fun c s u v Q E A hs i j q=>by
 have hu:=A.units;have q':=q s.toks;rw[<-hs] at q'
 cases i;cases j
 obtain⟨vs,n1,e1,h1⟩:=A.list ha;obtain⟨ws,n2,e2,h2⟩:=A.list hb;refine eq_listAt (e:=fun _=>true) (by rw[hs];exact Bt (n:=n1) e1) (by rw[hs];exact Bt (n:=n2) e2) (by simp[h1.length,h2.length]) (by exact Bf on0 hu) (fun k k1 k2=>aGt d hs (by exact z33 hn hu) h1 h2 k k1 k2) ?_;rw[mK];exact q'⟩
theorem iE{a b:Lbl}(ha:σ a=some (.list xs))(hb:σ b=some (.list xs))(d:DtAll n xs)(hn:n<=4):CmpOk Γ ms σ .NotEq (.ref a) (.ref b) false:=⟨fun c s u v Q E A hs i j q=>by
 have hu:=A.units;have q':=q s.toks;rw[<-hs] at q'
 cases i;cases j
 obtain⟨vs,n1,e1,h1⟩:=A.list ha;obtain⟨ws,n2,e2,h2⟩:=A.list hb;refine RcNeAt.lists (e:=fun _=>true) (by rw[hs];exact Bt (n:=n1) e1) (by rw[hs];exact Bt (n:=n2) e2) (by simp[h1.length,h2.length]) (by exact Bf on0 hu) (fun k k1 k2=>aGt d hs (by exact z33 hn hu) h1 h2 k k1 k2) _ _ _ _ ?_;rw[mK];exact q'⟩
theorem zF{a b:Lbl}(ha:σ a=some (.list xs))(hb:σ b=some (.list ys))(hl:xs.length≠ys.length):CmpOk Γ ms σ .NotEq (.ref a) (.ref b) true:=⟨fun c s u v Q E A hs i j q=>by
 have hu:=A.units;have q':=q s.toks;rw[<-hs] at q'
 cases i;obtain rfl:=j.ref_inv
 obtain⟨vs,n1,e1,h1⟩:=A.list ha;obtain⟨ws,n2,e2,h2⟩:=A.list hb;exact RcNeAt.lists_lengths (by rw[hs];exact Bt (n:=n1) e1) (by rw[hs];exact Bt (n:=n2) e2) (by simpa[h1.length,h2.length] using hl) (by exact Bf on0 hu) _ _ _ _ q'⟩
theorem aGo{x y:List UInt8}:CmpOk Γ ms σ .Eq (.bytes x) (.bytes y) (x==y):=⟨fun c s u v Q E a hs i j q=>by
 have q':=q s.toks;rw[<-hs] at q'
 cases i;obtain⟨_,rfl⟩:=j.bytes_inv
 exact eq_bytes (by simpa using q')⟩
theorem aOe{y:Str}:CmpOk Γ ms σ .Eq (.str x) (.str y) (x==y):=⟨fun c s u v Q E a hs i j q=>by
 have q':=q s.toks;rw[<-hs] at q'
 cases i;obtain⟨_,rfl⟩:=j.str_inv
 exact PyProof.Rows.eq_str q'⟩
theorem aBs{y:Str}:CmpOk Γ ms σ .NotEq (.str x) (.str y) (x != y):=⟨fun c s u v Q E a hs i j q=>by
 have q':=q s.toks;rw[<-hs] at q'
 cases i;obtain⟨_,rfl⟩:=j.str_inv
 exact PyProof.Rows.ne_str q'⟩
theorem aNs{x:Int}:∀{ns:List Int} {vs:List Value} {s:Ai} {A:Ez},IsAll σ c (ns.map .int) vs->∃e:Value->Bool,(∀y∈vs,EqAt A s y (.int x t) (e y))/\vs.any e=decide (x∈ns)
 |ns,vs,s,A,h=>by
  refine⟨fun v=>match v with| .int n _=>n==x|_=>false,?_,?_⟩
  ·intro y hy;have:∃n u,y = .int n u:=by
    clear s A
    induction ns generalizing vs with
    |nil=>cases h;cases hy
    |cons n ns ih=>
     cases h with
     |cons a b=>
      rcases An.mp hy with rfl|hy
      ·obtain⟨u,rfl⟩:=a.int_inv;exact⟨_,_,rfl⟩
      ·exact ih _ b hy
   obtain⟨n,u,rfl⟩:=this;exact EqAt.int_int n u x t
  ·clear s A
   induction ns generalizing vs with
   |nil=>cases h;simp
   |cons n ns ih=>
    cases h with
    |cons a b=>
     obtain⟨u,rfl⟩:=a.int_inv;simp only[Lq,ih _ b,An,Bool.decide_or]
     congr 1
     by_cases q:n=x
     ·simp[q]
     ·simp[q,Bw q]
theorem aDe:∀{ns:List Str} {vs:List Value} {s:Ai} {A:Ez},IsAll σ c (ns.map .str) vs->∃e:Value->Bool,(∀y∈vs,EqAt A s y (.str x t) (e y))/\vs.any e=decide (x∈ns)
 |ns,vs,s,A,h=>by
  refine⟨fun v=>match v with| .str n _=>n==x|_=>false,?_,?_⟩
  ·intro y hy;have:∃n u,y = .str n u:=by
    clear s A
    induction ns generalizing vs with
    |nil=>cases h;cases hy
    |cons n ns ih=>
     cases h with
     |cons a b=>
      rcases An.mp hy with rfl|hy
      ·obtain⟨_,rfl⟩:=a.str_inv;exact⟨_,_,rfl⟩
      ·exact ih _ b hy
   obtain⟨n,u,rfl⟩:=this;exact EqAt.str_str n u x t
  ·clear s A
   induction ns generalizing vs with
   |nil=>cases h;simp
   |cons n ns ih=>
    cases h with
    |cons a b=>
     obtain⟨_,rfl⟩:=a.str_inv;simp only[Lq,ih _ b,An,Bool.decide_or]
     congr 1
     by_cases q:n=x
     ·simp[q]
     ·simp[q,Bw q]
theorem sE{x:Int}{ns:List Int}:CmpOk Γ ms σ .NotIn (.int x) (.tup (ns.map .int)) (!decide (x∈ns)):=⟨fun c s u v Q E a hs i j q=>by
 have q':=q s.toks;rw[<-hs] at q';obtain⟨t,rfl⟩:=i.int_inv;obtain⟨p,vs,rfl,h,hv⟩:=j.tup_inv;obtain⟨e,he,hb⟩:=aNs (x:=x) (t:=t) (s:=s) (A:=Γ.Ad.in1) hv;exact notIn_tupleAt e ⟨_,by rw[hs];exact h,rfl,_,rfl⟩ (fun y hy=>he y (by simpa using hy)) (by rw[<-hb] at q';simpa using q')⟩
theorem oQ{ns:List Str}:CmpOk Γ ms σ .In (.str x) (.tup (ns.map .str)) (decide (x∈ns)):=⟨fun c s u v Q E a hs i j q=>by
 have q':=q s.toks;rw[<-hs] at q';obtain⟨t,rfl⟩:=i.str_inv;obtain⟨p,vs,rfl,h,hv⟩:=j.tup_inv;obtain⟨e,he,hb⟩:=aDe (x:=x) (t:=t) (s:=s) (A:=Γ.Ad.in1) hv;exact in_tupleAt e ⟨_,by rw[hs];exact h,rfl,_,rfl⟩ (fun y hy=>he y (by simpa using hy)) (by rw[<-hb] at q';simpa using q')⟩
theorem dQ{ns:List Str}{l:Lbl}(hl:σ l=some (.list (ns.map .str))):CmpOk Γ ms σ .NotIn (.str x) (.ref l) (!decide (x∈ns)):=⟨fun c s u v Q E a hs i j q=>by
 have q':=q s.toks;rw[<-hs] at q';obtain⟨t,rfl⟩:=i.str_inv;refine bc fun nq=>?_;obtain rfl:=j.ref_inv;obtain⟨vs,n1,e1,hv⟩:=a.list hl;obtain⟨e,he,hb⟩:=aDe (x:=x) (t:=t) (s:=s) (A:=Γ.Ad.in1) hv;refine nq ?_;exact notIn_listAt e (by rw[hs];exact Bt (n:=n1) e1) (fun y hy=>he y (by simpa using hy)) (by rw[<-hb] at q';simpa using q')⟩
theorem aDl{op:CmpOp}{x:Sh}{z:Bool}(h1:EV Γ ms σ (eval l Γ.env) x σ1)(h2:EV Γ ms σ1 (eval r Γ.env) y σ2)(h3:CmpOk Γ ms σ2 op x y z)(hm:Pa [op] [r]=false):
  EV Γ ms σ (eval (.Compare l [op] [r] pos) Γ.env) (.bool z) σ2:=
 ⟨h1.dom.trans h2.dom,fun c s Q E a hs q=>by
  show wpN _ _ (do compareChain pos (<-eval l Γ.env) [op] (markedEach [op] [r] (Nz [r] Γ.env))) Q E s
  rw[Mf _ _ _ hm];refine h1.bind a hs fun u c1 t1 i1 a1 s1=>?_;show wpN _ _ (do
   let rv <-Dc [u] (eval r Γ.env)
   Fb pos
   Jn [u,rv] (Jq op u rv)) Q E _
  refine h2.hold a1 rfl fun v c2 t2 i2 a2 s2=>?_;refine aG (dU (wpN.of (h3.run c2 _ u v _ E a2 rfl (i1.mono h2.dom s2) i2 fun tk=>?_)));exact q _ c2 tk (.bool z) a2 (s1.trans (s2.mono h1.dom))⟩
theorem aNt{op1 op2:CmpOp}{m:Aj}{x:Sh}{b:Bool}(h1:EV Γ ms σ (eval l Γ.env) x σ1)(h2:EV Γ ms σ1 (eval m Γ.env) y σ2)(h3:CmpOk Γ ms σ2 op1 x y true)(h4:EV Γ ms σ2 (eval r Γ.env) z σ3)(h5:CmpOk Γ ms σ3 op2 y z b)(hm:Pa [op1,op2] [m,r]=false):
  EB Γ ms σ (isTrue (.Compare l [op1,op2] [m,r] pos) Γ.env whole) b σ3:=
 ⟨(h1.dom.trans h2.dom).trans h4.dom,fun c s Q E a hs q=>by
  show wpN _ _ (do testChain pos (<-eval l Γ.env) [op1,op2] (markedEach [op1,op2] [m,r] (Nz [m,r] Γ.env))) Q E s
  rw[Mf _ _ _ hm];refine h1.bind a hs fun u c1 t1 i1 a1 s1=>?_;show wpN _ _ (do
   let rv <-Dc [u] (eval m Γ.env)
   Fb pos
   let c <-Dc [u,rv] (Jq op1 u rv)
   Nb [u,rv] [c]
   if<-Dc [c,rv] (truthy c) then(do
    let rw<-Dc [rv] (eval r Γ.env)
    Fb pos
    let c <-Jn [rv,rw] (Jq op2 rv rw)
    Dc [c] (truthy c)) else pure false) Q E _
  refine h2.hold a1 rfl fun v c2 t2 i2 a2 s2=>?_;refine aG (aE (aF (wpN.of (h3.run c2 _ u v _ E a2 rfl (i1.mono h2.dom s2) i2 fun tk=>?_))));refine aE (dB (aE (aF (wpN.of (Du ?_)))));refine h4.hold a2 rfl fun v3 c3 t3 i3 a3 s3=>?_;refine aG (aE (dU (wpN.of (h5.run c3 _ v v3 _ E a3 rfl (i2.mono h4.dom s3) i3 fun tk=>?_))));refine aF (wpN.of (Du ?_));exact q b c3 tk rfl a3 ((s1.trans (s2.mono h1.dom)).trans (s3.mono (h1.dom.trans h2.dom)))⟩
theorem wD{op1 op2:CmpOp}{m:Aj}{x:Sh}(h1:EV Γ ms σ (eval l Γ.env) x σ1)(h2:EV Γ ms σ1 (eval m Γ.env) y σ2)(h3:CmpOk Γ ms σ2 op1 x y false)(hm:Pa [op1,op2] [m,r]=false):
  EB Γ ms σ (isTrue (.Compare l [op1,op2] [m,r] pos) Γ.env whole) false σ2:=
 ⟨(h1.dom.trans h2.dom),fun c s Q E a hs q=>by
  show wpN _ _ (do testChain pos (<-eval l Γ.env) [op1,op2] (markedEach [op1,op2] [m,r] (Nz [m,r] Γ.env))) Q E s
  rw[Mf _ _ _ hm];refine h1.bind a hs fun u c1 t1 i1 a1 s1=>?_;show wpN _ _ (do
   let rv <-Dc [u] (eval m Γ.env)
   Fb pos
   let c <-Dc [u,rv] (Jq op1 u rv)
   Nb [u,rv] [c]
   if<-Dc [c,rv] (truthy c) then testChain pos rv [op2] [eval r Γ.env] else pure false) Q E _
  refine h2.hold a1 rfl fun v c2 t2 i2 a2 s2=>?_;refine aG (aE (aF (wpN.of (h3.run c2 _ u v _ E a2 rfl (i1.mono h2.dom s2) i2 fun tk=>?_))));refine aE (dB (aE (aF (wpN.of (Du ?_)))));exact aH (q false c2 tk rfl a2 (s1.trans (s2.mono h1.dom)))⟩
structure BL(Γ:Gm)(ms:Str->Option Sh)(σ:Sg)(pos:Pos)(es:List Aj)(x:Sh)(σ':Sg):Prop where
 ok:EV Γ ms σ (boolOp pos .And (Nz es Γ.env)) x σ'
theorem pM{x:Sh}(h:EV Γ ms σ (eval e Γ.env) x σ1):BL Γ ms σ pos [e] x σ1:=⟨h⟩
theorem zO{f:Aj}{x:Sh}(h:EV Γ ms σ (eval e Γ.env) (.bool true) σ1)(t:BL Γ ms σ1 pos (f::es) x σ2):BL Γ ms σ pos (e::f::es) x σ2:=
 ⟨⟨h.dom.trans t.ok.dom,fun c s Q E a hs q=>by
  show wpN _ _ (do
   let v <-eval e Γ.env
   Fb pos
   let t <-Dc [v] (truthy v)
   match BoolOp.And,t with
   | .And,false| .Or,true=>pure v
   |_,_=>boolOp pos .And (Nz (f::es) Γ.env)) Q E s
  refine h.bind a hs fun u c1 t1 i1 a1 s1=>?_;obtain rfl:=i1.bool_inv;refine aG (aE (aF (wpN.of (Du ?_))));exact t.ok.run c1 _ Q E a1 rfl fun v c2 t2 i2 a2 s2=>q v c2 t2 i2 a2 (s1.trans (s2.mono h.dom))⟩⟩
theorem aDn{x:Sh}(h:BL Γ ms σ pos es x σ1):EV Γ ms σ (eval (.BoolOp .And es pos) Γ.env) x σ1:=h.ok
theorem aOs{b:Bool}(h:EV Γ ms σ (eval e Γ.env) (.bool b) σ1):EV Γ ms σ (eval (.UnaryOp .Not e pos) Γ.env) (.bool !b) σ1:=
 ⟨h.dom,fun c s Q E a hs q=>by
  show wpN _ _ (do let v <-eval e Γ.env;Fb pos;Dc [v] (unaryOp .Not v)) Q E s
  refine h.bind a hs fun u c1 t1 i1 a1 s1=>?_;obtain rfl:=i1.bool_inv;exact aG (aF (wpN.of (not_of (Du (q _ c1 t1 (.bool _) a1 s1)))))⟩
theorem aRz{n:Int}(h:EV Γ ms σ (eval e Γ.env) (.int n) σ1):EV Γ ms σ (eval (.UnaryOp .USub e pos) Γ.env) (.int (-n)) σ1:=
 ⟨h.dom,fun c s Q E a hs q=>by
  show wpN _ _ (do let v <-eval e Γ.env;Fb pos;Dc [v] (unaryOp .USub v)) Q E s
  refine h.bind a hs fun u c1 t1 i1 a1 s1=>?_;obtain⟨t,rfl⟩:=i1.int_inv;exact aG (aF (wpN.of (PyProof.Rows.neg_int (q _ c1 _ (.int _ _) a1 s1))))⟩
end
end
section
open PySem.SeqAt
structure AS(Γ:Gm)(ms:Str->Option Sh)(σ:Sg)(tg:Aj)(sh:Sh)(ms':Str->Option Sh)(σ':Sg):Prop where
 dom:Dom σ σ'
 run:∀(c:Cf) (s:Ai) (v:Value) (Q:Unit->Ai->Prop) (E:Value->Ai->Prop),At Γ ms σ c->s.heap=c.h->Is σ c sh v->
  (∀c' tk,At Γ ms' σ' c'->Step (Mine.dom σ) c c'->Q () {s with heap:=c'.h,toks:=tk})->wpN (M Γ) Γ.Ad (Hm tg Γ.env v) Q E s
structure ASs(Γ:Gm)(ms:Str->Option Sh)(σ:Sg)(tgs:List Aj)(shs:List Sh)(ms':Str->Option Sh)(σ':Sg):Prop where
 dom:Dom σ σ'
 run:∀(c:Cf) (s:Ai) (vs:List Value) (Q:Unit->Ai->Prop) (E:Value->Ai->Prop),At Γ ms σ c->s.heap=c.h->IsAll σ c shs vs->
  (∀c' tk,At Γ ms' σ' c'->Step (Mine.dom σ) c c'->Q () {s with heap:=c'.h,toks:=tk})->wpN (M Γ) Γ.Ad (Ov ((Fv tgs Γ.env).map (·.2)) vs) Q E s
structure ANs(Γ:Gm)(ms:Str->Option Sh)(σ:Sg)(ns:List Str)(shs:List Sh)(ms':Str->Option Sh):Prop where
 run:∀(c:Cf) (s:Ai) (vs:List Value) (Q:Unit->Ai->Prop) (E:Value->Ai->Prop),At Γ ms σ c->s.heap=c.h->IsAll σ c shs vs->
  (∀c' tk,At Γ ms' σ c'->Step (Mine.dom σ) c c'->Q () {s with heap:=c'.h,toks:=tk})->wpAny (M Γ) Γ.Ad (Ov (ns.map fun n=>Kt Γ.env n) vs) Q E s
section
variable{tg:Aj}
theorem At.setCell{a:Addr}(A:At Γ ms σ c)(i:Is σ c sh v)(hc:Γ.env.cells.lookup x=some a)(hx:Γ.env.kindOf x≠some .local)(hi:h'.IsCell a (some v))(hs:Ch a c.h h'):At Γ (setm ms x sh) σ ⟨c.ρ,h'⟩/\Step (dom σ) c ⟨c.ρ,h'⟩:=by
 obtain⟨⟨v0,⟨oc,ho,hd⟩,_⟩,⟨nL,ng⟩,nρ⟩:=A.cel x a hc;have k:∀b o,c.h.get? b=some o->b≠a->h'.get? b=some o:=fun b o e n=>(hs.2 b n).trans e;have S:Step (dom σ) c ⟨c.ρ,h'⟩:=⟨fun _ _=>rfl,fun b vs e=>k _ _ e fun q=>by rw[q,ho] at e;cases e;cases hd⟩;refine⟨⟨⟨fun l o e=>?_,A.inj,A.fin,fun b o e=>(A.keep b o e).go fun o' e'=>k _ _ e' fun q=>by rw[q,ng] at e;cases e⟩,A.ok,?_,A.offL,fun y b hb=>?_,A.prot⟩,S⟩
 ·obtain⟨z,h1,h2,h3,h4⟩:=A.ob l o e;exact⟨z,k _ _ h1 (nρ l (by rw[e];exact fun z=>by cases z)),h2.mono (Dom.refl _) S,h3,h4⟩
 ·obtain⟨m,F,hm⟩:=A.fr;refine⟨m,F.change hs nL ng,fun y sh' hk e=>?_⟩;unfold setm at e
  split at e
  ·rename_i q;exact absurd (q▸hk) hx
  ·obtain⟨u,h1,h2⟩:=hm y sh' hk e;exact⟨u,h1,h2.mono (Dom.refl _) S⟩
 ·by_cases q:b=a
  ·subst q;have:=A.ok.ci y x b hb hc;subst this;refine⟨⟨some v,hi,fun sh' e=>?_⟩,⟨nL,ng⟩,nρ⟩;unfold setm at e;rw[if_pos rfl] at e;cases e;exact⟨v,rfl,i.mono (Dom.refl _) S⟩
  ·obtain⟨⟨u,⟨oc',ho',hd'⟩,hu⟩,h2,h3⟩:=A.cel y b hb;refine⟨⟨u,⟨oc',k _ _ ho' q,hd'⟩,fun sh' e=>?_⟩,h2,h3⟩;unfold setm at e
   split at e
   ·rename_i w;subst w;rw[hc] at hb;cases hb;exact absurd rfl q
   ·obtain⟨z,h4,h5⟩:=hu sh' e;exact⟨z,h4,h5.mono (Dom.refl _) S⟩
theorem zX{a:Addr}{Q:Unit->Ai->Prop}(hk:Γ.env.kindOf x=some .cell)(hc:Γ.env.cells.lookup x=some a)(A:At Γ ms σ c)(hs:s.heap=c.h)(i:Is σ c sh v)
  (q:∀c' tk,At Γ (setm ms x sh) σ c'->Step (dom σ) c c'->Q () {s with heap:=c'.h,toks:=tk}):wpAny (M Γ) Γ.Ad (Kt Γ.env x v) Q E s:=by
 obtain⟨⟨v0,hv0,_⟩,_⟩:=A.cel x a hc;refine wpAny_bindName (wpAny_storeName_cell A.ok.ek hk hc (by rw[hs];exact hv0) fun h' hi hsb=>?_);rw[hs] at hsb;obtain⟨z1,z2⟩:=A.setCell (x:=x) (h':=h') i hc (by rw[hk];decide) hi hsb;exact q ⟨c.ρ,h'⟩ _ z1 z2
theorem jW(henv:Γ.env.scope=sc)(hk':sc.names.lookup x=some .local)(hc:Γ.env.cells.lookup x=none):AS Γ (mL ml) σ (.Name x px) sh (mL ((x,sh)::ml)) σ:=
 ⟨Dom.refl σ,fun c s v Q E a hs i q=>by
  show wpN _ _ (do Fb px;Kt Γ.env x v) _ _ _
  exact aG (wpN.of (gC (by show Γ.env.scope.names.lookup _=_;rw[henv];exact hk') hc a hs i (bR▸q)))⟩
theorem aOj(henv:Γ.env.scope=sc)(hk':sc.names.lookup x=some .cell)(hc:Γ.env.cells.lookup x=some ad):AS Γ (mL ml) σ (.Name x px) sh (mL ((x,sh)::ml)) σ:=
 ⟨Dom.refl σ,fun c s v Q E a hs i q=>by
  show wpN _ _ (do Fb px;Kt Γ.env x v) _ _ _
  exact aG (wpN.of (zX (by show Γ.env.scope.names.lookup _=_;rw[henv];exact hk') hc a hs i (bR▸q)))⟩
theorem eY{i:Aj}{x:Sh}(h2:EV Γ ms σ (eval o Γ.env) x σ1)(h3:EV Γ ms σ1 (eval i Γ.env) y σ2)(h4:SetOk Γ ms σ2 x y sh σ3):AS Γ ms σ (.Subscript o i px) sh ms σ3:=
 ⟨(h2.dom.trans h3.dom).trans h4.dom,fun c s r Q E a hs i1 q=>by
  obtain⟨rl,ea⟩:=rM o i px Γ.env r;rw[ea];refine h2.hold a hs fun u c2 t2 i2 a2 s2=>?_;refine h3.hold a2 rfl fun v c3 t3 i3 a3 s3=>?_;refine aG (aE (aF (h4.run c3 _ u v r _ E a3 rfl (i2.mono h3.dom s3) i3 ((i1.mono h2.dom s2).mono h3.dom s3) fun c4 t4 a4 s4=>?_)));exact dB (q c4 t4 a4 (s2.trans ((s3.mono h2.dom).trans (s4.mono (h2.dom.trans h3.dom)))))⟩
theorem mU:ASs Γ ms σ [] [] ms σ:=⟨Dom.refl σ,fun c s vs Q E a hs i q=>by
 cases i;have:=q c s.toks a (Step.refl c);rw[<-hs] at this;exact aH this⟩
theorem dP{t:Aj}{ts:List Aj}{x:Sh}(h:AS Γ ms σ t x ms1 σ1)(h2:ASs Γ ms1 σ1 ts xs ms2 σ2)(ht:Fv (t::ts) Γ.env=(false,Hm t Γ.env)::Fv ts Γ.env):ASs Γ ms σ (t::ts) (x::xs) ms2 σ2:=
 ⟨h.dom.trans h2.dom,fun c s vs Q E a hs i q=>by
  obtain⟨_,_,rfl,i1,i2⟩:=i.cons_inv;rw[ht];refine aE (aF (h.run c s _ _ E a hs i1 fun c1 t1 a1 s1=>?_));exact h2.run c1 _ _ Q E a1 rfl (i2.mono h.dom s1) fun c2 t2 a2 s2=>q c2 t2 a2 (s1.trans (s2.mono h.dom))⟩
theorem aDp:ANs Γ ms σ [] [] ms:=⟨fun c s vs Q E a hs i q=>by
 cases i;have:=q c s.toks a (Step.refl c);rw[<-hs] at this;exact Ak this⟩
theorem jT{ns:List Str}(henv:Γ.env.scope=sc)(hk':sc.names.lookup x=some .local)(hc:Γ.env.cells.lookup x=none)(h:ANs Γ (mL ((x,y)::ml)) σ ns ys ms1):ANs Γ (mL ml) σ (x::ns) (y::ys) ms1:=
 ⟨fun c s vs Q E a hs i q=>by
  obtain⟨_,_,rfl,i1,i2⟩:=i.cons_inv;refine Ab (Dv (gC (by show Γ.env.scope.names.lookup _=_;rw[henv];exact hk') hc a hs i1 fun c1 t1 a1 s1=>?_));rw[bR] at a1;exact h.run c1 _ _ Q E a1 rfl (i2.mono (Dom.refl _) s1) fun c2 t2 a2 s2=>q c2 t2 a2 (s1.trans s2)⟩
theorem dK(h:EV Γ ms σ (eval e Γ.env) sh σ1)(h2:AS Γ ms σ1 tg sh ms1 σ2)(hs:Gb e (some tg) pos.line Γ.env=pure false)(hw:Kk [tg] e Γ.env=pure none)(ht:Fv [tg] Γ.env=[(false,Hm tg Γ.env)]):SS Γ ms σ (exec (.Assign [tg] e pos) Γ.env) .next ms1 σ2:=
 ⟨fun c s Q E a hs' q=>by
  refine aG ?_;rw[show Kj [tg] e pos.line Γ.env=Gb e (some tg) pos.line Γ.env from rfl,hs]
  refine aW ?_;refine h.bind a hs' fun v c1 t1 i1 a1 s1=>?_;rw[hw,ht];refine aW ?_;show wpN _ _ (do assignAll v [Hm tg Γ.env];pure .next) Q E _
  exact aE (h2.run c1 _ v _ E a1 rfl i1 fun c2 t2 a2 s2=>aH (q _ c2 t2 .next a2 ((a.step s1).trans (a1.step s2))))⟩
theorem aIj(a:At Γ ms σ c)(x:Heap.ExtBut c.h.objs.size c.h h'):At Γ ms σ ⟨c.ρ,h'⟩/\Step (dom σ) c ⟨c.ρ,h'⟩:=a.grow0 fun b o e=>x b o (Bn (Aw e)) e
theorem jS{k:Nat}(h:ASs Γ ms σ tgs shs ms1 σ1)(hn:(Fv tgs Γ.env).length=shs.length)(hstar:(Fv tgs Γ.env).findIdx? (·.1)=none):AS Γ ms σ (.Tuple tgs k px) (.tup shs) ms1 σ1:=
 ⟨h.dom,fun c s v Q E a hs i q=>by
  obtain⟨ad,vs,rfl,ht,hv⟩:=i.tup_inv;refine aG ?_;unfold unpack;have e:(Fv tgs Γ.env).length=vs.toArray.size:=by rw[hn];simp[hv.length]
  rw[e,hstar];refine aE (aF (wpN.of (wpAny_unpackItems_tuple a.ok.hh (⟨_,by rw[hs];exact ht,rfl,_,rfl⟩:s.heap.IsTuple ad vs.toArray) fun h' hx=>?_)));rw[hs] at hx;obtain⟨a1,s1⟩:=aIj a hx;have:=h.run ⟨c.ρ,h'⟩ {s with heap:=h'} vs Q E a1 rfl (hv.mono (Dom.refl _) s1) fun c2 t2 a2 s2=>q c2 t2 a2 (s1.trans s2);simpa using this⟩
theorem aKh{k:Nat}{ns:List Str}(h:EV Γ ms σ (eval e Γ.env) (.tup shs) σ1)(h2:ANs Γ ms σ1 ns.reverse shs.reverse ms1)(hn:ns.length=shs.length)(hs:Kj [.Tuple tgs k px] e pos.line Γ.env=pure false)(hw:Kk [.Tuple tgs k px] e Γ.env=pure (some ns)):
  SS Γ ms σ (exec (.Assign [.Tuple tgs k px] e pos) Γ.env) .next ms1 σ1:=
 ⟨fun c s Q E a hs' q=>by
  refine aG ?_;rw[hs];refine aW ?_;refine h.bind a hs' fun v c1 t1 i1 a1 s1=>?_;rw[hw];refine aW ?_;show wpN _ _ (do
   rule "assign.swapped-stores"
   let items <-unpackItems v ns.length none
   Ov (ns.reverse.map fun n=>Kt Γ.env n) items.reverse
   pure .next) Q E _
  refine aK (Dy ?_);obtain⟨ad,vs,rfl,ht,hv⟩:=i1.tup_inv;have el:ns.length=vs.toArray.size:=by rw[hn];simp[hv.length]
  rw[el];refine aK (wpAny_unpackItems_tuple a1.ok.hh (s:={s with heap:=c1.h,toks:=t1}) (⟨_,ht,rfl,_,rfl⟩:c1.h.IsTuple ad vs.toArray) fun h' hx=>?_);obtain⟨a2,s2⟩:=aIj a1 hx;have rev:∀{l:List Sh} {w:List Value},IsAll σ1 ⟨c1.ρ,h'⟩ l w->IsAll σ1 ⟨c1.ρ,h'⟩ l.reverse w.reverse:=by
   have app:∀{l l':List Sh} {v v':List Value},IsAll σ1 ⟨c1.ρ,h'⟩ l v->IsAll σ1 ⟨c1.ρ,h'⟩ l' v'->IsAll σ1 ⟨c1.ρ,h'⟩ (l++l') (v++v'):=by
    intro l
    induction l with
    |nil=>intro l' v v' h h';obtain rfl:=h.nil_inv;exact h'
    |cons x l ih=>intro l' v v' h h';obtain⟨_,_,rfl,a,b⟩:=h.cons_inv;exact .cons a (ih b h')
   intro l
   induction l with
   |nil=>intro w h;obtain rfl:=h.nil_inv;exact .nil
   |cons x l ih=>
    intro w h;obtain⟨_,_,rfl,a,b⟩:=h.cons_inv;rw[Hz,Hz];exact app (ih b) (.cons a .nil)
  refine aK (h2.run ⟨c1.ρ,h'⟩ _ _ _ E a2 rfl (by simpa using rev (hv.mono (Dom.refl _) s2)) fun c3 t3 a3 s3=>?_);exact aH (q _ c3 t3 .next a3 ((a.step s1).trans (a1.step (s2.trans s3))))⟩
theorem eX{x:Sh}(h:EV Γ ms σ (eval e Γ.env) x σ1)(hi:Nr Γ.env=false)(hs:Gb e none pos.line Γ.env=pure false):SS Γ ms σ (exec (.Expr e pos) Γ.env) .next ms σ1:=
 ⟨fun c s Q E a hs' q=>pN hi hs (h.run c s _ E a hs' fun v c1 t1 i1 a1 s1=>wpAny_dropValue (q _ c1 t1 .next a1 (a.step s1)))⟩
theorem aNx:SS Γ ms σ (exec (.Break pos) Γ.env) .brk ms σ:=
 ⟨fun c s Q E a hs q=>wpN.of (wpAny_Break (fin hs (q .brk c s.toks .brk a (Step.refl c))))⟩
inductive Whiles(Γ:Gm)(test:Aj)(body:List Stmt):(Str->Option Sh)->Sg->(Str->Option Sh)->Sg->Prop
 |done {ms:Str->Option Sh} {σ σ1:Sg}:EB Γ ms σ (isTrue test Γ.env (eval test Γ.env)) false σ1->Whiles Γ test body ms σ ms σ1
 |go {ms ms2 ms3:Str->Option Sh} {σ σ1 σ2 σ3:Sg}:EB Γ ms σ (isTrue test Γ.env (eval test Γ.env)) true σ1->SS Γ ms σ1 (execs body Γ.env) .next ms2 σ2->Whiles Γ test body ms2 σ2 ms3 σ3->Whiles Γ test body ms σ ms3 σ3
theorem aNw(t:Whiles Γ test body ms σ ms1 σ1):SS Γ ms σ (exec (.While test body [] pos) Γ.env) .next ms1 σ1:=
 ⟨fun c s Q E a hs q=>by
  refine aG ?_;refine bH (uK ?_);have code:∀{R:Jy->Ai->Prop} {ms ms1:Str->Option Sh} {σ σ1:Sg},Whiles Γ test body ms σ ms1 σ1->∀(c:Cf) (s:Ai),At Γ ms σ c->s.heap=c.h->(∀c' tk,At Γ ms1 σ1 c'->Step Γ.P c c'->R (.ok .next) {s with heap:=c'.h,toks:=tk})->codeN (M Γ) Γ.Ad (.whileLoop test body [] Γ.env) R s:=by
   intro R ms ms1 σ σ1 t
   induction t with
   | @done ms σ σ1 h=>
    intro c s a hs q;refine aT rfl ?_;show wpN _ Γ.Ad ((whileTurn test body [] Γ.env).onRaise (fun x=>do Ks x Γ.env;Jh x)) _ _ s
    refine bH (h.bind a hs fun b c1 t1 i1 a1 s1=>?_);subst i1;exact aE (gP (aH (q c1 t1 a1 (a.step s1))))
   | @go ms ms2 ms3 σ σ1 σ2 σ3 h b t ih=>
    intro c s a hs q;refine aT rfl ?_;show wpN _ Γ.Ad ((whileTurn test body [] Γ.env).onRaise (fun x=>do Ks x Γ.env;Jh x)) _ _ s
    refine bH (h.bind a hs fun b' c1 t1 i1 a1 s1=>?_);subst i1;refine b.bind a1 rfl fun f c2 t2 i2 a2 s2=>?_;obtain rfl:=i2.next_inv;exact aH ⟨rfl,ih c2 _ a2 rfl fun c' tk a' s'=>q c' tk a' ((a.step s1).trans (s2.trans s'))⟩
  exact code t c s a hs fun c' tk a' s'=>q .next c' tk .next a' s'⟩
end
end
section
open PySem.SeqAt
structure TyS(Γ:Gm)(ms:Str->Option Sh)(σ:Sg)(x:Sh)(T:String):Prop where
 run:∀(c:Cf) (s:Ai) (v:Value),At Γ ms σ c->s.heap=c.h->Is σ c x v->s.TypeIs v T/\∀a,v = .ref a->∃o:Obj,s.heap.get? a=some o/\o.dict=none
theorem TyS.list(hl:σ l=some (.list xs)):TyS Γ ms σ (.ref l) "list":=⟨fun c s v a hs i=>by
 obtain rfl:=i.ref_inv;obtain⟨vs,n,e,_⟩:=a.list hl;rw[<-hs] at e;exact⟨⟨_,e,rfl⟩,fun b q=>by cases q;exact⟨_,e,rfl⟩⟩⟩
theorem TyS.str:TyS Γ ms σ (.str x) "str":=⟨fun c s v a hs i=>by
 obtain⟨_,rfl⟩:=i.str_inv;exact⟨typeIs_str _ _ _,fun b q=>by cases q⟩⟩
theorem TyS.dict{K:Type}[DecidableEq K](dk:DK K){kvs:List (K×Sh)}(hl:σ l=some (dk.ob kvs)):TyS Γ ms σ (.ref l) "dict":=⟨fun c s v a hs i=>by
 obtain rfl:=i.ref_inv;obtain⟨x,kv,e,hd,_,_⟩:=a.dict dk hl;rw[<-hs] at e;obtain⟨es,ep,⟨h1,h2⟩,_⟩:=hd;exact⟨⟨_,e,h1⟩,fun b q=>by cases q;exact⟨_,e,h2.1⟩⟩⟩
theorem fK{name:Str}{args:List Aj}{x:Sh}{T id:String}(h0:EV Γ ms σ (eval o Γ.env) x σ1)(ht:TyS Γ ms σ1 x T)(pa:PlainAttrs T)(slot:Slot T name id)(hty:Nn (.builtin id)=pure (.type "method_descriptor"))
  (h1:EL Γ ms σ1 (Co (Cc pos (Av args Γ.env))) shs σ2)(h2:CallOk Γ ms σ2 (.builtin id) (x::shs) z σ3)
  (hb:Cd o name Γ.env (eval o Γ.env)=eval o Γ.env)(ok:cR args apos pos=true):EV Γ ms σ (eval (.Call (.Attribute o name apos) args [] pos) Γ.env) z σ3:=
 ⟨(h0.dom.trans h1.dom).trans h2.dom,fun c s Q E a hs q=>by
  rw[Iz,hb];refine h0.bind a hs fun u c1 t1 i1 a1 s1=>?_;refine aG ?_;unfold Lg;rw[show(args.length+([]:List Nv).length)=args.length+0 from rfl,qF ok]
  refine bV ?_;unfold calleeOf;obtain⟨hT,hd⟩:=ht.run c1 {s with heap:=c1.h,toks:=t1} u a1 rfl i1;refine Nc hT pa slot hty hd ?_;dsimp only;rw[xM ok];refine aW ?_;exact aLc (fsh:=[x]) (.inr (.inr ⟨_,rfl⟩)) h1 h2 (lM ok) (aCk ok) c1 _ Q E a1 rfl (.cons i1 .nil) fun v c2 t2 i2 a2 s2=>q v c2 t2 i2 a2 (s1.trans (s2.mono h0.dom))⟩
inductive One(σ:Sg)(c:Cf)(x:Sh):List Value->Prop
 |mk (u:Value) (j:Is σ c x u):One σ c x [u]
inductive Two(σ:Sg)(c:Cf)(x y:Sh):List Value->Prop
 |mk (u v:Value) (i:Is σ c x u) (j:Is σ c y v):Two σ c x y [u,v]
inductive Three(σ:Sg)(c:Cf)(x y z:Sh):List Value->Prop
 |mk (u v w:Value) (i:Is σ c x u) (j:Is σ c y v) (k:Is σ c z w):Three σ c x y z [u,v,w]
theorem IsAll.one{x:Sh}(h:IsAll σ c [x] vs):One σ c x vs:=by obtain⟨u,r,rfl,a,b⟩:=h.cons_inv;obtain rfl:=b.nil_inv;exact⟨_,a⟩
theorem IsAll.two{x:Sh}(h:IsAll σ c [x,y] vs):Two σ c x y vs:=by
 obtain⟨u,r,rfl,a,b⟩:=h.cons_inv;obtain⟨v,i⟩:=b.one;exact⟨_,_,a,i⟩
theorem IsAll.three{x:Sh}(h:IsAll σ c [x,y,z] vs):Three σ c x y z vs:=by
 obtain⟨u,r,rfl,a,b⟩:=h.cons_inv;obtain⟨v,w,i,j⟩:=b.two;exact⟨_,_,_,a,i,j⟩
theorem At.setList{f:Array Value->Array Value}(a:At Γ ms σ c)(hl:σ l=some (.list xs))(hF:¬Γ.F l)(e:c.h.get? (c.ρ l)=some (listOf vs.toArray n))(hf:f vs.toArray=ws.toArray)
  (hw:∀c',Step (dom σ) c c'->IsAll (upd σ l (.list ys)) c' ys ws):At Γ ms (upd σ l (.list ys)) ⟨c.ρ,c.h.update (c.ρ l) (Dw f)⟩/\Step (dom σ) c ⟨c.ρ,c.h.update (c.ρ l) (Dw f)⟩:=by
 have hs2:Ch (c.ρ l) c.h (c.h.update (c.ρ l) (Dw f)):=Dx ..;have hx:=PySem.IsL.update e f;rw[hf] at hx;exact a.put hl hF hs2 hx (.list _ _ _ (hw _ (⟨fun _ _=>rfl,fun b ws eb=>(hs2.2 b (fun w=>by rw[w,e] at eb;have:=congrArg Il (Cw eb);injection this with q;exact absurd q (by decide))).trans eb⟩:Step (dom σ) c ⟨c.ρ,c.h.update (c.ρ l) (Dw f)⟩)))
theorem IsAll.append{l l':List Sh}{v v':List Value}(h:IsAll σ c l v)(h':IsAll σ c l' v'):IsAll σ c (l++l') (v++v'):=by
 exact h.ind (P:=fun l v=>IsAll σ c (l++l') (v++v')) h' fun a _ ih=>.cons a ih
theorem oR(hl:σ l=some (.list xs))(hz:xs.length<=1000)(hF:¬Γ.F l):CallOk Γ ms σ (.builtin "list.append") [.ref l,y] .none (upd σ l (.list (xs++[y]))):=
 ⟨Dom.upd,fun c s vs Q E a hs i q=>wpN.of (by
  obtain⟨u,r,i1,i2⟩:=i.two;obtain rfl:=i1.ref_inv;obtain⟨vs,n,e,hv⟩:=a.list hl;refine Jw PySem.F.slot_list_append ⟨_,by rw[hs];exact e,rfl⟩ PySem.F.entry_list_append (PySem.F.args_list_append_2 _ _) (AutoListH.list_append_list_val_0 (c.ρ l) vs.toArray n r (by rw[Bg,hv.length,Bh];exact nle hz)) ⟨by rw[hs];exact e,?_⟩;have z:=a.setList (ys:=xs++[y]) (ws:=vs++[r]) (f:=fun x=>x.push r) hl hF e (by simp) fun c' S=>(hv.mono Dom.upd S).append (.cons (i2.mono Dom.upd S) .nil);have:=q .none ⟨c.ρ,c.h.update (c.ρ l) (Dw fun x=>x.push r)⟩ s.toks .none z.1 z.2;simpa only[hs] using this)⟩
theorem wT(hl:σ l=some (.list xs))(hz:xs.length<=1000)(hF:¬Γ.F l):CallOk Γ ms σ (.builtin "list.insert") [.ref l,.int 0,y] .none (upd σ l (.list (y::xs))):=
 ⟨Dom.upd,fun c s vs Q E a hs i q=>wpN.of (by
  obtain⟨u,v,r,i1,i2,i3⟩:=i.three;obtain rfl:=i1.ref_inv;obtain⟨t,rfl⟩:=i2.int_inv;obtain⟨vs,n,e,hv⟩:=a.list hl;refine Jw PySem.F.slot_list_insert ⟨_,by rw[hs];exact e,rfl⟩ PySem.F.entry_list_insert (PySem.F.args_list_insert_3 _ _ _) (AutoSeq1.list_insert_list_int_val_1 (c.ρ l) vs.toArray n 0 t r (by decide) (by rw[Bg,hv.length,Bh];exact nle hz)) ⟨by rw[hs];exact e,?_⟩;have z:=a.setList (ys:=y::xs) (ws:=r::vs) (f:=fun xs=>have k:=if(0:Int)<0 then((0:Int)+((xs.size:Nat):Int)).toNat else min (0:Int).toNat xs.size;(xs.extract 0 k).push r++xs.extract k) hl hF e (by apply Mh.mp;simp) fun c' S=>.cons (i3.mono Dom.upd S) (hv.mono Dom.upd S)
  have:=q .none _ s.toks .none z.1 z.2;simpa only[hs] using this)⟩
theorem zN{m:Lbl}(hl:σ l=some (.list xs))(hm:σ m=some (.list ys))(hz:xs.length<=1000)(hz2:ys.length<=1000)(hF:¬Γ.F l):CallOk Γ ms σ (.builtin "list.extend") [.ref l,.ref m] .none (upd σ l (.list (xs++ys))):=
 ⟨Dom.upd,fun c s vs Q E a hs i q=>wpN.of (by
  obtain⟨u,r,i1,i2⟩:=i.two;obtain rfl:=i1.ref_inv;obtain rfl:=i2.ref_inv;obtain⟨vs,n,e,hv⟩:=a.list hl;obtain⟨ws,n2,e2,hw⟩:=a.list hm;have l1:=hv.length;have l2:=hw.length;refine Jw PySem.F.slot_list_extend ⟨_,by rw[hs];exact e,rfl⟩ PySem.F.entry_list_extend (PySem.F.args_list_extend_2 _ _) (AutoSeq1.list_extend_list_list_0 (c.ρ l) vs.toArray n (c.ρ m) ws.toArray n2 (extend_door (by simp only[Bg];rw[Bh];exact z26 hz hz2 l1 l2)) (by rw[Bg,Bh];exact nle (cD l1 hz)) (by simp only[Bg];rw[Bh];exact z27 hz hz2 l1 l2)) ⟨by rw[hs];exact e,by rw[hs];exact e2,?_⟩;have z:=a.setList (ys:=xs++ys) (ws:=vs++ws) (f:=fun x=>x++ws.toArray) hl hF e (by simp) fun c' S=>(hv.mono Dom.upd S).append (hw.mono Dom.upd S);have:=q .none _ s.toks .none z.1 z.2;simpa only[hs] using this)⟩
theorem aHv{ns:List Int}(h:IsAll σ c (ns.map .int) vs)(k:Int):(∀y∈vs,∀t,MeetsSeq.EqGives y (.int k t) (match y with| .int n _=>n==k|_=>false))/\∀(j:Nat) (h1:j<vs.length) (h2:j<ns.length),(match vs[j] with| .int n _=>n==k|_=>false)=(ns[j]==k):=by
 induction ns generalizing vs with
 |nil=>cases h;exact⟨fun y hy=>(by cases hy),fun j h1=>absurd h1 (Kr _)⟩
 |cons n ns ih=>
  cases h with
  |cons a b=>
   obtain⟨u,rfl⟩:=a.int_inv;obtain⟨i1,i2⟩:=ih b;refine⟨fun y hy t=>?_,fun j h1 h2=>?_⟩
   ·rcases An.mp hy with rfl|hy
    ·exact MeetsSeq.EqGives.int n k u t
    ·exact i1 y hy t
   ·cases j with
    |zero=>rfl
    |succ j=>exact i2 j (by simpa using h1) (by simpa using h2)
theorem aEy{α β:Type}(f:α->β)(l:List α):∀(j:Nat),(l.map f).eraseIdx j=(l.eraseIdx j).map f:=by
 induction l with
 |nil=>exact fun _=>rfl
 |cons x l ih=>intro j;cases j with|zero=>rfl|succ j=>exact congrArg (f x :: ·) (ih j)
theorem aBw{ns:List Int}{k:Int}(hl:σ l=some (.list (ns.map .int)))(hz:ns.length<=1000)(hj:ns[j]? = some k)(hno:∀i,i<j->ns[i]?≠some k):CallOk Γ ms σ (.builtin "list.index") [.ref l,.int k] (.int j) σ:=
 ⟨Dom.refl σ,fun c s vs Q E a hs i q=>wpN.of (by
  obtain⟨u,r,i1,i2⟩:=i.two;obtain rfl:=i1.ref_inv;obtain⟨t,rfl⟩:=i2.int_inv;obtain⟨vs,n,e,hv⟩:=a.list hl;have lv:=hv.length;rw[Ag] at lv;obtain⟨g1,g2⟩:=aHv hv k;obtain⟨jl,je⟩:=As.mp hj;refine Jw PySem.F.slot_list_index ⟨_,by rw[hs];exact e,rfl⟩ PySem.F.entry_list_index (PySem.F.args_list_index_2 _ _)
   (MeetsSeq.list_index (c.ρ l) vs.toArray n (.int k t) (fun y=>match y with| .int n _=>n==k|_=>false) (fun y hy=>g1 y (by simpa using hy) t) j (by rw[Bg];exact aCl jl lv.symm) (by exact z28 hz lv jl) (by have:=g2 j (by exact aCl jl lv.symm) jl;rw[je,beq_self_eq_true] at this;simpa using this) (fun i hi hlt=>by
    have il:i<ns.length:=by exact Ee hlt jl
    have:=g2 i (by omega) il;have ne:ns[i]≠k:=fun q=>hno i hlt (by rw[<-q];exact Ba il);rw[beq_eq_false_iff_ne.mpr ne] at this;simpa using this)) ⟨by rw[hs];exact e,?_⟩
  exact fin hs (q (.int j s.toks) c (s.toks+1) (.int _ _) a (Step.refl c)))⟩
theorem zI{ns:List Int}{k:Int}(hl:σ l=some (.list (ns.map .int)))(hz:ns.length<=1000)(hj:ns[j]? = some k)(hno:∀i,i<j->ns[i]?≠some k)(hF:¬Γ.F l):CallOk Γ ms σ (.builtin "list.remove") [.ref l,.int k] .none (upd σ l (.list ((ns.eraseIdx j).map .int))):=
 ⟨Dom.upd,fun c s vs Q E a hs i q=>wpN.of (by
  obtain⟨u,r,i1,i2⟩:=i.two;obtain rfl:=i1.ref_inv;obtain⟨t,rfl⟩:=i2.int_inv;obtain⟨vs,n,e,hv⟩:=a.list hl;have lv:=hv.length;rw[Ag] at lv;obtain⟨g1,g2⟩:=aHv hv k;obtain⟨jl,je⟩:=As.mp hj;refine Jw PySem.F.slot_list_remove ⟨_,by rw[hs];exact e,rfl⟩ PySem.F.entry_list_remove (PySem.F.args_list_remove_2 _ _)
   (MeetsSeq.list_remove (c.ρ l) vs.toArray n (.int k t) (fun y=>match y with| .int n _=>n==k|_=>false) (fun y hy=>g1 y (by simpa using hy) t) j (by rw[Bg];exact aCl jl lv.symm) (by have:=g2 j (by exact aCl jl lv.symm) jl;rw[je,beq_self_eq_true] at this;simpa using this) (fun i hi hlt=>by
    have il:i<ns.length:=by exact Ee hlt jl
    have:=g2 i (by omega) il;have ne:ns[i]≠k:=fun q=>hno i hlt (by rw[<-q];exact Ba il);rw[beq_eq_false_iff_ne.mpr ne] at this;simpa using this) (by rw[Bg,Bh];exact nle (cD lv hz))) ⟨by rw[hs];exact e,?_⟩
  have er:∀{c':Cf} {σ':Sg} {ms:List Sh} {ws:List Value} (j:Nat),IsAll σ' c' ms ws->IsAll σ' c' (ms.eraseIdx j) (ws.eraseIdx j):=by
   intro c' σ' ms
   induction ms with
   |nil=>intro ws j h;obtain rfl:=h.nil_inv;exact .nil
   |cons x ms ih=>
    intro ws j h;obtain⟨_,_,rfl,a,b⟩:=h.cons_inv
    cases j with
    |zero=>exact b
    |succ j=>exact .cons a (ih j b)
  have z:=a.setList (ys:=(ns.eraseIdx j).map .int) (ws:=vs.eraseIdx j) (f:=fun xs=>xs.eraseIdxIfInBounds j) hl hF e (by apply Mh.mp;simp[Array.toList_eraseIdxIfInBounds]) fun c' S=>by
   have:=er (σ':=upd σ l (.list ((ns.eraseIdx j).map .int))) j (hv.mono Dom.upd S);rwa[aEy] at this
  have:=q .none _ s.toks .none z.1 z.2;simpa only[hs] using this)⟩
end
section
open PySem.SeqAt
section
theorem CallOk.look{x:Sh}(h:∀(c:Cf) (s:Ai) (vs:List Value) (Q:Value->Ai->Prop) (E:Value->Ai->Prop),At Γ ms σ c->s.heap=c.h->IsAll σ c shs vs->(∀v tk,Is σ c x v->Q v {s with heap:=c.h,toks:=tk})->wpAny (M Γ) Γ.Ad (call f vs []) Q E s):CallOk Γ ms σ f shs x σ:=
 ⟨Dom.refl σ,fun c s vs Q E a hs i q=>wpN.of (h c s vs Q E a hs i fun v tk iv=>q v c tk iv a (Step.refl c))⟩
inductive DicOf{K:Type}[DecidableEq K](knd:KeyKind PW w K)(σ:Sg)(c:Cf)(s:Ai)(l:Lbl)(kvs:List (K×Sh)):Prop
 |mk (kv:List (K×Value)) (D:s.heap.DictOf knd (c.ρ l) kv) (h:KAll σ c kvs kv) (lo:(c.ρ l==sysModules)=false):DicOf knd σ c s l kvs
theorem At.dictOf{K:Type}[DecidableEq K](dk:DK K){kvs:List (K×Sh)}(a:At Γ ms σ c)(hl:σ l=some (dk.ob kvs))(hs:s.heap=c.h):DicOf (dk.knd Γ.w) σ c s l kvs:=by
 obtain⟨x,kv,e,hd,hv,h1⟩:=a.dict dk hl;exact⟨kv,Bk.mpr ⟨x,by rw[hs];exact e,hd⟩,hv,beq_eq_false_iff_ne.mpr (Da h1)⟩
theorem kG(hl:σ l=some (.list xs))(hz:xs.length<=1000):CallOk Γ ms σ (.builtin "len") [.ref l] (.int xs.length) σ:=.look fun c s vs Q E a hs i q=>by
 obtain⟨u,j⟩:=i.one;obtain rfl:=j.ref_inv;obtain⟨ws,n,e,hv⟩:=a.list hl;have lv:=hv.length;refine Calls.call_len_list (items:=ws.toArray) (by rw[hs];exact Bt (n:=n) e) (by rw[Bg];exact z29 hz lv) ?_;exact fin hs (q (.int ws.toArray.size (s.toks+1)) (s.toks+1+1) (by rw[Bg,lv];exact .int _ _))
theorem tE{K:Type}[DecidableEq K](dk:DK K){kvs:List (K×Sh)}(hl:σ l=some (dk.ob kvs))(hz:kvs.length<=1000):CallOk Γ ms σ (.builtin "len") [.ref l] (.int kvs.length) σ:=.look fun c s vs Q E a hs i q=>by
 obtain⟨u,j⟩:=i.one;obtain rfl:=j.ref_inv;obtain⟨kv,D,hv,lo⟩:=a.dictOf dk hl hs;have lv:=hv.length;refine call_len_dict lo D (by exact z29 hz lv) ?_;exact fin hs (q (.int kv.length (s.toks+1)) (s.toks+1+1) (by rw[lv];exact .int _ _))
theorem sI(hz:b.length<=1000):CallOk Γ ms σ (.builtin "len") [.bytes b] (.int b.length) σ:=.look fun c s vs Q E a hs i q=>by
 obtain⟨u,j⟩:=i.one;obtain⟨t,rfl⟩:=j.bytes_inv;refine len_bytes (by rw[Bg];exact nle hz) ?_;exact fin hs (q (.int b.toArray.size (s.toks+1)) (s.toks+1+1) (by rw[Bg];exact .int _ _))
theorem aLb{n:Int}:CallOk Γ ms σ (.builtin "abs") [.int n] (.int (if n<0 then -n else n)) σ:=.look fun c s vs Q E a hs i q=>by
 obtain⟨u,j⟩:=i.one;obtain⟨t,rfl⟩:=j.int_inv;refine call_abs_int fun u tk=>?_;exact fin hs (q _ tk (.int (if n<0 then -n else n) u))
theorem aKz{n:Int}:CallOk Γ ms σ (.type "int") [.int n] (.int n) σ:=.look fun c s vs Q E a hs i q=>by
 obtain⟨u,j⟩:=i.one;obtain⟨t,rfl⟩:=j.int_inv;refine call_int_int ?_;exact fin hs (q _ s.toks (.int n t))
theorem kH{b:Bool}:CallOk Γ ms σ (.type "int") [.bool b] (.int (if b then 1 else 0)) σ:=.look fun c s vs Q E a hs i q=>by
 obtain⟨u,j⟩:=i.one;obtain rfl:=j.bool_inv;refine call_int_bool ?_;exact fin hs (q _ (s.toks+1) (.int (if b then 1 else 0) s.toks))
theorem aBy:CallOk Γ ms σ (.type "bytes") [.bytes b] (.bytes b) σ:=.look fun c s vs Q E a hs i q=>by
 obtain⟨u,j⟩:=i.one;obtain⟨t,rfl⟩:=j.bytes_inv;refine aBe ?_;exact fin hs (q _ s.toks (.bytes b t))
theorem gB{n:Int}(h0:0<=n)(h1:n<=1000):CallOk Γ ms σ (.type "bytes") [.int n] (.bytes (Ap n.toNat 0)) σ:=.look fun c s vs Q E a hs i q=>by
 obtain⟨u,j⟩:=i.one;obtain⟨t,rfl⟩:=j.int_inv;refine aJr h0 h1 ?_;exact fin hs (q _ (s.toks+1) (.bytes (Ap n.toNat 0) s.toks))
theorem At.ba(a:At Γ ms σ c)(hl:σ l=some (.ba b)):c.h.get? (c.ρ l)=some (baO b):=by
 obtain⟨x,h1,h2,_⟩:=a.ob l _ hl;exact h1.trans (congrArg some h2.out)
theorem tG(hl:σ l=some (.ba b))(hz:b.length<=1000):CallOk Γ ms σ (.type "bytes") [.ref l] (.bytes b) σ:=.look fun c s vs Q E a hs i q=>by
 obtain⟨u,j⟩:=i.one;obtain rfl:=j.ref_inv;refine aNo (by rw[hs];exact a.ba hl) (by rw[Bh];exact nle hz) ?_;exact fin hs (q _ (s.toks+1) (.bytes b s.toks))
theorem vB{ns:List Int}(h:IsAll σ c (ns.map .int) vs):Nw vs ns:=by
 induction ns generalizing vs with
 |nil=>cases h;exact .nil
 |cons n ns ih=>cases h with|cons a b=>obtain⟨t,rfl⟩:=a.int_inv;exact .cons n t (ih b)
theorem dR{ns:List Int}(hl:σ l=some (.list (ns.map .int)))(hr:∀n∈ns,0<=n/\n<256)(hz:ns.length<=1000):CallOk Γ ms σ (.type "bytes") [.ref l] (.bytes (ns.map fun n=>n.toNat.toUInt8)) σ:=
 ⟨Dom.refl σ,fun c s vs Q E a hs i q=>wpN.of (by
  obtain⟨u,j⟩:=i.one;obtain rfl:=j.ref_inv;obtain⟨ws,n,e,hv⟩:=a.list hl;have lv:=hv.length;rw[Ag] at lv;refine call_bytes_ints (vs:=ws) (ns:=ns) (by rw[hs];exact Bt (n:=n) e) (vB hv) hr (by rw[Bh];exact nle (cD lv hz)) a.ok.hh fun h' t k kp=>?_;obtain⟨a1,s1⟩:=a.grow0 (h':=h') fun b o e=>kp b o (hs▸e);exact q _ ⟨c.ρ,h'⟩ k (.bytes _ t) a1 s1)⟩
theorem sK(n:Lbl)(hz:b.length<=1000)(hn:σ n=none):CallOk Γ ms σ (.type "bytearray") [.bytes b] (.ref n) (upd σ n (.ba b)):=
 ⟨Dom.upd,fun c s vs Q E a hs i q=>by
  obtain⟨u,j⟩:=i.one;obtain⟨t,rfl⟩:=j.bytes_inv;refine jM (.bytes b t) (by rw[Bh];exact nle hz) fun h' hsb ho=>?_;rw[hs] at hsb ho;have k:∀d o,c.h.get? d=some o->h'.get? d=some o:=fun d o e=>hsb.extBut d o (Bn (Aw e)) (Ae _ e);obtain⟨a1,s1⟩:=a.alloc (l:=n) (o:=.ba b) (ad:=c.h.objs.size) hn k (by rw[hsb.1,Bz];exact Cs _) (Bs _) ho (.ba b);have r:Is (upd σ n (.ba b)) ⟨aN c.ρ n c.h.objs.size,h'⟩ (.ref n) (.ref c.h.objs.size):=Is.new;have:=q _ ⟨aN c.ρ n c.h.objs.size,h'⟩ s.toks r a1 s1;rwa[<-hs] at this⟩
theorem mT(n:Lbl)(hl:σ l=some (.ba b))(hz:b.length<=1000)(hn:σ n=none):CallOk Γ ms σ (.type "bytearray") [.ref l] (.ref n) (upd σ n (.ba b)):=
 ⟨Dom.upd,fun c s vs Q E a hs i q=>by
  obtain⟨u,j⟩:=i.one;obtain rfl:=j.ref_inv;refine jM (.ba (c.ρ l) b (by rw[hs];exact a.ba hl)) (by rw[Bh];exact nle hz) fun h' hsb ho=>?_;rw[hs] at hsb ho;have k:∀d o,c.h.get? d=some o->h'.get? d=some o:=fun d o e=>hsb.extBut d o (Bn (Aw e)) (Ae _ e);obtain⟨a1,s1⟩:=a.alloc (l:=n) (o:=.ba b) (ad:=c.h.objs.size) hn k (by rw[hsb.1,Bz];exact Cs _) (Bs _) ho (.ba b);have:=q _ ⟨aN c.ρ n c.h.objs.size,h'⟩ s.toks (Is.new:Is (upd σ n (.ba b)) ⟨aN c.ρ n c.h.objs.size,h'⟩ (.ref n) (.ref c.h.objs.size)) a1 s1;rwa[<-hs] at this⟩
theorem lA{k:Int}(n:Lbl)(h0:0<k)(h1:k<=1000)(hn:σ n=none):CallOk Γ ms σ (.type "bytearray") [.int k] (.ref n) (upd σ n (.ba (Ap k.toNat 0))):=
 ⟨Dom.upd,fun c s vs Q E a hs i q=>by
  obtain⟨u,j⟩:=i.one;obtain⟨t,rfl⟩:=j.int_inv;refine yZ h0 h1 fun h' hsb ho=>?_;rw[hs] at hsb ho;have k':∀d o,c.h.get? d=some o->h'.get? d=some o:=fun d o e=>hsb.extBut d o (Bn (Aw e)) (Ae _ e);obtain⟨a1,s1⟩:=a.alloc (l:=n) (o:=.ba (Ap k.toNat 0)) (ad:=c.h.objs.size) hn k' (by rw[hsb.1,Bz];exact Cs _) (Bs _) ho (.ba _);have r:Is (upd σ n (.ba (Ap k.toNat 0))) ⟨aN c.ρ n c.h.objs.size,h'⟩ (.ref n) (.ref c.h.objs.size):=Is.new;have:=q _ ⟨aN c.ρ n c.h.objs.size,h'⟩ s.toks r a1 s1;rwa[<-hs] at this⟩
theorem gA(hl:σ l=some (.list xs))(hz:xs.length<=1000):CallOk Γ ms σ (.type "tuple") [.ref l] (.tup xs) σ:=
 ⟨Dom.refl σ,fun c s vs Q E a hs i q=>wpN.of (by
  obtain⟨u,j⟩:=i.one;obtain rfl:=j.ref_inv;obtain⟨ws,n,e,hv⟩:=a.list hl;have lv:=hv.length;refine call_tuple_list (items:=ws.toArray) (by rw[hs];exact Bt (n:=n) e) (fun h' kp=>?_) (by rw[Bg,Bh];exact nle (cD lv hz));obtain⟨a1,s1⟩:=a.grow0 (h':=h'.push (cY ws)) fun b o e=>Ae _ (kp b o (hs▸e));exact q _ ⟨c.ρ,h'.push (cY ws)⟩ s.toks (.tup xs _ ws (Ao _ rfl) (hv.mono (Dom.refl _) s1)) a1 s1)⟩
inductive NewL(Γ:Gm)(ms:Str->Option Sh)(σ:Sg)(c:Cf)(n:Lbl)(ys:List Sh)(h':Heap):Prop
 |mk (c':Cf) (e:c'.h=h') (i:Is (upd σ n (.list ys)) c' (.ref n) (.ref c.h.objs.size)) (a:At Γ ms (upd σ n (.list ys)) c') (s:Step (dom σ) c c'):NewL Γ ms σ c n ys h'
theorem At.newList{l n:Lbl}{k:Nat}(a:At Γ ms σ c)(hn:σ n=none)(kp:∀b o,c.h.get? b=some o->h'.get? b=some o)(ho:h'.get? c.h.objs.size=some (listOf ws.toArray k))(hw:∀c',Step (dom σ) c c'->c'.h=h'->IsAll (upd σ n (.list ys)) c' ys ws):
  NewL Γ ms σ c n ys h':=by
 obtain⟨a1,s1⟩:=a.alloc (l:=n) (o:=.list ys) (ad:=c.h.objs.size) hn kp (Ef (Aw ho)) (Bs _) ho (.list _ _ _ (hw _ (⟨fun y h=>setρ_ne fun e=>h (e.symm▸hn),fun b vs e=>kp _ _ e⟩:Step (dom σ) c ⟨aN c.ρ n c.h.objs.size,h'⟩) rfl));refine⟨⟨aN c.ρ n c.h.objs.size,h'⟩,rfl,?_,a1,s1⟩;exact Is.new
theorem aGp(n:Lbl)(hl:σ l=some (.list xs))(hz:xs.length<=1000)(hn:σ n=none):CallOk Γ ms σ (.type "list") [.ref l] (.ref n) (upd σ n (.list xs)):=
 ⟨Dom.upd,fun c s vs Q E a hs i q=>wpN.of (by
  obtain⟨u,j⟩:=i.one;obtain rfl:=j.ref_inv;obtain⟨ws,k,e,hv⟩:=a.list hl;have lv:=hv.length;refine call_list_seq (c.ρ l) (.inl rfl) (o:=listOf ws.toArray k) (items:=ws.toArray) (n:=k) (by rw[hs];exact e) rfl rfl (fun h' c' kp ho=>?_) (by rw[Bg,Bh];exact nle (cD lv hz));rw[hs] at kp ho;obtain⟨c1,rfl,r,a1,s1⟩:=a.newList (l:=l) (ys:=xs) hn kp ho fun c' S _=>hv.mono Dom.upd S;rw[hs];exact q _ c1 s.toks r a1 s1)⟩
theorem KAll.keyList{K:Type}[DecidableEq K]{dk:DK K}(sound:∀{w:World} {σ:Sg} {c:Cf} {k:K} {v:Value},(dk.knd w).is k v=true->Is σ c (dk.sh k) v){kvs:List (K×Sh)}{kv:List (K×Value)}(h:KAll σ c kvs kv):
  ∀lst:List Value,lst.length=kv.length->(∀(j:Nat) (v:Value),lst[j]? = some v->∃(k:K) (x:Value),kv[j]? = some (k,x)/\(dk.knd w).is k v=true)->IsAll σ' c' (kvs.map fun p=>dk.sh p.1) lst:=by
 induction h with
 |nil=>intro lst hl _;cases lst with|nil=>exact .nil|cons _ _=>exact absurd hl (Mv _)
 | @cons k y v l vs _ _ ih=>
  intro lst hl1 hl2
  cases lst with
  |nil=>exact absurd hl1.symm (Mv _)
  |cons u lst=>
   obtain⟨k',x',e1,e2⟩:=hl2 0 u rfl;exact .cons (by rw[show k=k' from congrArg Nj (Cw e1)];exact sound e2) (ih lst (Lo hl1) fun j v e=>hl2 (j+1) v e)
theorem sH{K:Type}[DecidableEq K](dk:DK K)(sound:∀{w:World} {σ:Sg} {c:Cf} {k:K} {v:Value},(dk.knd w).is k v=true->Is σ c (dk.sh k) v){kvs:List (K×Sh)}(n:Lbl)(hl:σ l=some (dk.ob kvs))(hz:kvs.length<=1000)(hn:σ n=none):
  CallOk Γ ms σ (.type "list") [.ref l] (.ref n) (upd σ n (.list (kvs.map fun p=>dk.sh p.1))):=
 ⟨Dom.upd,fun c s vs Q E a hs i q=>wpN.of (by
  obtain⟨u,j⟩:=i.one;obtain rfl:=j.ref_inv;obtain⟨kv,D,hv,lo⟩:=a.dictOf dk hl hs;obtain⟨ep,hat⟩:=D.dictAt;have lv:=hv.length;refine kdl_call (kdl_dict (knd:=dk.knd Γ.w) (kvs:=kv) (ep:=ep) lo) a.ok.hh hat (by rw[Bh];exact nle (cD lv hz)) fun h' tk acc c' kp ho hacc=>?_;rw[hs] at kp ho;obtain⟨lst,rfl⟩:∃lst:List Value,acc=lst.toArray:=⟨acc.toList,by rw[Ky]⟩;obtain⟨c1,rfl,r,a1,s1⟩:=a.newList (l:=l) (ys:=kvs.map fun p=>dk.sh p.1) hn kp ho fun c' S _=>by
   exact hv.keyList sound lst (by have:=hacc.1;simpa using this) fun j v e=>hacc.2 j v (by simpa using e)
  rw[hs];exact q _ c1 tk r a1 s1)⟩
variable{K:Type}[DecidableEq K](dk:DK K)
theorem aLa{kvs:List (K×Sh)}{k:K}(hl:σ l=some (dk.ob kvs)):CallOk Γ ms σ (.builtin "dict.get") [.ref l,dk.sh k] ((aY kvs k).getD .none) σ:=.look fun c s vs Q E a hs i q=>by
 obtain⟨u,r,i1,i2⟩:=i.two;obtain rfl:=i1.ref_inv;obtain⟨kv,D,hv,lo⟩:=a.dictOf dk hl hs;refine Lh PySem.F.slot_dict_get D.typeIs PySem.F.entry_dict_get (PySem.F.args_dict_get_2 _ _) (meets_dict_get (dk.knd Γ.w) (c.ρ l) (dk.key i2) lo) ⟨_,D.mapOf,?_⟩;have iv:Is σ c ((aY kvs k).getD .none) ((Mz kv k).getD .none):=by
  cases e:aY kvs k with
  |none=>rw[hv.get.1 e];exact .none
  |some x=>obtain⟨u,h,i⟩:=hv.get.2 x e;rw[h];exact i
 exact fin hs (q _ (s.toks+1) iv)
noncomputable def vJ(l:List (K×Sh))(k:K):List (K×Sh):=l.filter fun kv=>decide (kv.1≠k)
theorem KAll.del{l:List (K×Sh)}{v:List (K×Value)}(h:KAll σ c l v)(k:K):KAll σ c (vJ l k) (without v k):=by
 unfold vJ without
 induction h with
 |nil=>exact .nil
 | @cons k' y u l vs a _ ih=>
  by_cases q:k'=k
  ·rw[Hr,Hr]
   ·exact ih
   all_goals exact fun z=>of_decide_eq_true z q
  ·rw[Hq,Hq]
   ·exact .cons a ih
   all_goals exact decide_eq_true q
theorem zK{kvs:List (K×Sh)}{k:K}{x:Sh}(hp:∀{σ:Sg} {c:Cf} {v:Value},Is σ c (dk.sh k) v->(keyPart v).isSome=true)(hl:σ l=some (dk.ob kvs))(hk:aY kvs k=some x)(hz:kvs.length<=1000)(hF:¬Γ.F l)(rest:List Sh)(hr:rest=[]\/rest=[.none]):
  CallOk Γ ms σ (.builtin "dict.pop") (.ref l::dk.sh k::rest) x (upd σ l (dk.ob (vJ kvs k))):=
 ⟨Dom.upd,fun c s vs Q E a hs i q=>wpN.of (by
  obtain⟨_,_,rfl,i1,i⟩:=i.cons_inv
  cases i with
  | @cons _ r _ rs i2 i3=>
  obtain rfl:=i1.ref_inv;obtain⟨kv,D,hv,lo⟩:=a.dictOf dk hl hs;obtain⟨u,hu,iu⟩:=hv.get.2 x hk;have hrs:(rs=[]\/∃d,rs=[d])/\Oe "dict.pop" ⟨.ref (c.ρ l)::r::rs,[]⟩:=by
   rcases hr with rfl|rfl
   ·obtain rfl:=i3.nil_inv;exact⟨.inl rfl,PySem.F.args_dict_pop_2 _ _⟩
   ·obtain⟨d,_⟩:=i3.one;exact⟨.inr ⟨d,rfl⟩,PySem.F.args_dict_pop_3 _ _ _⟩
  refine Lh Hv D.typeIs PySem.F.entry_dict_pop hrs.2 (meets_dict_pop_there (dk.knd Γ.w) (c.ρ l) (dk.key i2) rs hrs.1 (hp i2)) ⟨kv,u,D,by rw[Bh];exact nle (cD (hv.length) hz),hu,fun h' hD hsb=>?_⟩;rw[hs] at hsb;obtain⟨o',ho',hd'⟩:=Bk.mp hD;have S:Step (dom σ) c ⟨c.ρ,h'⟩:=⟨fun _ _=>rfl,fun b ws eb=>(hsb.2 b (fun w=>by
   obtain⟨x,h1,h2,_⟩:=a.ob l _ hl;rw[w,h1] at eb;cases eb;exact h2.notTup)).trans eb⟩
  have z:=a.put hl hF hsb ho' (dk.back hd' ((hv.mono Dom.upd S).del k));exact q u ⟨c.ρ,h'⟩ _ (iu.mono Dom.upd S) z.1 z.2)⟩
theorem nT{kvs:List (K×Sh)}{k:K}{x:Sh}(hp:∀{σ:Sg} {c:Cf} {v:Value},Is σ c (dk.sh k) v->(keyPart v).isSome=true)(hl:σ l=some (dk.ob kvs))(hk:aY kvs k=none):CallOk Γ ms σ (.builtin "dict.pop") [.ref l,dk.sh k,x] x σ:=.look fun c s vs Q E a hs i q=>by
 obtain⟨u,r,d,i1,i2,i3⟩:=i.three;obtain rfl:=i1.ref_inv;obtain⟨kv,D,hv,lo⟩:=a.dictOf dk hl hs;refine Lh Hv D.typeIs PySem.F.entry_dict_pop (PySem.F.args_dict_pop_3 _ _ _) (meets_dict_pop_default (dk.knd Γ.w) (c.ρ l) (dk.key i2) lo (hp i2) d) ⟨kv,D,hv.get.1 hk,?_⟩;exact fin hs (q d (s.toks+1) i3)
end
end
section
open PySem.SeqAt
theorem jY:Slot "bytes" (cmpInfo .Lt).2.1 "bytes.__lt__":=
 .of (owner:="bytes") (n:="__lt__") (by rw[Cn,Bm];kernel_rfl) (by decide +kernel) (by decide +kernel) (by decide +kernel)
  (by first|exact .inl (by decide +kernel)|exact .inr (by decide +kernel)) (by rw[Hh];kernel_rfl)
theorem qX:Ju table "bytes.__lt__"=some Builtin.«bytes.__lt__»:=Iw (by kernel_rfl)
theorem tC(a b:Value):Oe "bytes.__lt__" ⟨[a,b],[]⟩:=by
 unfold Oe;rw[signature?_of (id:="bytes.__lt__") (n:=['_','_','t','l','_','_']) (o:=['s','e','t','y','b']) (by kernel_rfl) PySem.W.FB.owner_bytes];kernel_rfl
noncomputable def gR(b:List UInt8):List Nat:=b.map (·.toNat)
theorem aJb{a:List UInt8}(h:gR a=gR b):a=b:=by
 induction a generalizing b with
 |nil=>cases b with|nil=>rfl|cons _ _=>simp[gR] at h
 |cons x a ih=>
  cases b with
  |nil=>simp[gR] at h
  |cons y b=>
   simp only[gR,Dh,Lw] at h;rw[UInt8.toNat_inj.mp h.1,ih h.2]
theorem aHg(a:List UInt8):∀b:List UInt8,(Hw a b == .lt)=decide (gR a<gR b):=by
 induction a with
 |nil=>intro b;cases b <;> simp[Hw,gR]
 |cons x a ih=>
  intro b
  cases b with
  |nil=>simp[Hw,gR]
  |cons y b=>
  have ih:=ih b;unfold gR at ih ⊢;simp only[Hw,Dh,List.cons_lt_cons_iff];by_cases h1:x<y
  ·have:x.toNat<y.toNat:=UInt8.lt_iff_toNat_lt.mp h1;simp[h1,this]
  ·by_cases h2:x>y
   ·have:y.toNat<x.toNat:=UInt8.lt_iff_toNat_lt.mp h2;have n1:¬x.toNat<y.toNat:=by exact Fc.mpr (Ef this)
    have n2:¬x.toNat=y.toNat:=by exact aHi this
    simp[h1,h2,n1,n2]
   ·have e:x=y:=UInt8.le_antisymm (UInt8.not_lt.mp h2) (UInt8.not_lt.mp h1);subst e;simp[ih]
@[reducible] noncomputable def rJ:PyProof.Rows.KeyKind where
 α:=List Nat
 blt a b:=decide (a<b)
 irrefl a:=by simpa using List.lt_irrefl a
 trans a b c h1 h2:=by simp only[decide_eq_true_eq] at *;exact List.lt_trans h1 h2
 negTrans a b c h:=by
  simp only[decide_eq_true_eq] at*;by_cases hab:a<b
  ·exact .inl hab
  ·exact .inr (List.lt_of_le_of_lt (Ip.mp hab) h)
 total a b h1 h2:=by simp only[decide_eq_false_iff_not] at *;exact List.le_antisymm (Ip.mp h2) (Ip.mp h1)
 keyOf v:=match v with| .bytes x _=>some (gR x.toList)|_=>none
 dflt:=[]
theorem sX{a b:Array UInt8}{u:Tok}(h:Q (.bool (decide (gR a.toList<gR b.toList))) s):
  wpAny (model prog w) A (call (.builtin "bytes.__lt__") [.bytes a t,.bytes b u]) Q E s:=by
 refine Eb jY (Ei s a t) qX ?_ (tC _ _);show wpAny _ _ (Mm (.bytes b u) (.type "bytes") >>= fun r=>_) _ _ s;refine Ab (Fi (Ei s b u) PySem.F.sub_bytes_bytes ?_);refine Ak ⟨_,rfl,?_⟩;rw[<-aHg] at h;exact h
theorem vQ:rJ.OneLt:=by
 intro prog w A E s x y a b Q ha hb h
 cases x <;> simp only[rJ,reduceCtorEq,Option.some.injEq] at ha
 cases y <;> simp only[rJ,reduceCtorEq,Option.some.injEq] at hb
 cases ha;cases hb
 refine Ab (wpAny_cRoomFor_byValue rfl ?_);refine Ab (wpAny_callSpecialIfBound?_slot (Ei s _ _) jY (sX ?_));exact Du h
noncomputable def eO:Value->List UInt8
 | .bytes b _=>b.toList
 |_=>[]
noncomputable def isBytes(v:Value):Prop:=∃b t,v = .bytes b t
theorem IsAll.bytes{bs:List (List UInt8)}(h:IsAll σ c (bs.map .bytes) vs):vs.map eO=bs/\∀v∈vs,isBytes v:=by
 induction bs generalizing vs with
 |nil=>obtain rfl:=h.nil_inv;exact⟨rfl,fun _ h=>(by cases h)⟩
 |cons b bs ih=>
  obtain⟨_,_,rfl,x,y⟩:=h.cons_inv;obtain⟨t,rfl⟩:=x.bytes_inv;obtain⟨e1,e2⟩:=ih y;refine⟨by rw[Dh,e1];rfl,fun v hv=>?_⟩;rcases An.mp hv with rfl|hv
  ·exact⟨_,t,rfl⟩
  ·exact e2 v hv
theorem IsAll.ofBytes(h:∀v∈vs,isBytes v):IsAll σ c ((vs.map eO).map .bytes) vs:=by
 induction vs with
 |nil=>exact .nil
 |cons v vs ih=>
  obtain⟨b,t,rfl⟩:=h v (.head _);refine .cons ?_ (ih fun u hu=>h u (.tail _ hu));have:=Is.bytes (σ:=σ) (c:=c) b.toList t;rwa[Ky] at this
noncomputable def ble(a b:List UInt8):Bool:=!decide (gR b<gR a)
noncomputable def cL(bs:List (List UInt8)):List (List UInt8):=bs.mergeSort ble
theorem aFp(a b c:List UInt8)(h1:ble a b=true)(h2:ble b c=true):ble a c=true:=by
 unfold ble at*;simp only[Gq,decide_eq_false_iff_not] at*;exact Ip.mpr (List.le_trans (Ip.mp h1) (Ip.mp h2))
theorem aFq(a b:List UInt8):(ble a b || ble b a)=true:=by
 unfold ble;by_cases h:gR b<gR a
 ·have:¬gR a<gR b:=fun h'=>List.lt_irrefl _ (List.lt_trans h h');simp[this]
 ·simp[h]
theorem vR{a:List UInt8}(h1:ble a b=true)(h2:ble b a=true):a=b:=by
 unfold ble at*;simp only[Gq,decide_eq_false_iff_not] at*;exact aJb (List.le_antisymm (Ip.mp h1) (Ip.mp h2))
theorem dT(bs:List (List UInt8)):(cL bs).Perm bs:=List.mergeSort_perm _ _
theorem nM(bs:List (List UInt8)):(cL bs).Pairwise fun a b=>ble a b=true:=List.pairwise_mergeSort aFp aFq bs
theorem zA{a:List (List UInt8)}:∀{b:List (List UInt8)},a.Perm b->a.Pairwise (fun x y=>ble x y=true)->b.Pairwise (fun x y=>ble x y=true)->a=b:=by
 induction a with
 |nil=>exact fun p _ _=>(List.nil_perm.mp p).symm
 |cons x a ih=>
  intro b p ha hb
  cases b with
  |nil=>exact nomatch p.length_eq
  |cons y b=>
  have hx:=Lu.mp ha;have hy:=Lu.mp hb;have e:x=y:=by
   have m1:x∈y::b:=p.mem_iff.mp (.head _);have m2:y∈x::a:=p.mem_iff.mpr (.head _);rcases An.mp m1 with e|m1
   ·exact e
   ·rcases An.mp m2 with e|m2
    ·exact e.symm
    ·exact vR (hx.1 y m2) (hy.1 x m1)
  subst e;rw[ih (List.Perm.cons_inv p) hx.2 hy.2]
theorem sY{a b:List (List UInt8)}(p:a.Perm b):cL a=cL b:=zA ((dT a).trans (p.trans (dT b).symm)) (nM a) (nM b)
theorem sU(h:∀v∈vs,isBytes v)(v₁ v₂:Value)(rest:List Value)(e:vs=v₁::v₂::rest):keyKind' (v₁::v₂::rest).toArray=pure oneType':=by
 subst e;have f1:∀{l:List Value},(∀v∈l,isBytes v)->l.mapM firstOfTuple'=pure (l.map fun _=>none):=by
  intro l
  induction l with
  |nil=>intro _;simp
  |cons v l ih=>
   intro h;obtain⟨b,t,rfl⟩:=h v (.head _);rw[List.mapM_cons,show firstOfTuple' (.bytes b t)=pure none from rfl,ih fun u hu=>h u (.tail _ hu)];simp
 have f2:∀{l:List Value},(∀v∈l,isBytes v)->l.mapM Nn=pure (l.map fun _=>Gu "bytes"):=by
  intro l
  induction l with
  |nil=>intro _;simp
  |cons v l ih=>
   intro h;obtain⟨b,t,rfl⟩:=h v (.head _);rw[List.mapM_cons,ih fun u hu=>h u (.tail _ hu)];show(pure (Gu "bytes") >>= fun b=>pure _ >>= fun bs=>pure (b::bs))=_;simp
 rw[keyKind'_eq,List.mapM_toArray,f1 h];simp only[map_pure,pure_bind];rw[if_neg (by simp),if_neg (by simp)];rw[oneTypeOnly'_eq,List.mapM_toArray,f2 h];simp only[map_pure,pure_bind];have hall:((List.map (fun _=>Gu "bytes") (v₁::v₂::rest)).toArray.all fun x=>x==Gu "bytes")=true:=by
  simp only[List.all_toArray,List.all_map,Ha];intro _ _
  rfl
 rw[(show(List.map (fun _=>Gu "bytes") (v₁::v₂::rest)).toArray[0]? = some (Gu "bytes") by simp)];simp only[hall,if_true,pure_bind,Option.isSome_some]
theorem cG{bs:List (List UInt8)}(n:Lbl)(hl:σ l=some (.list (bs.map .bytes)))(hz:bs.length<=60)(hn:σ n=none):CallOk Γ ms σ (.builtin "sorted") [.ref l] (.ref n) (upd σ n (.list ((cL bs).map .bytes))):=
 ⟨Dom.upd,fun c s vs Q E a hs i q=>wpN.of (by
  obtain⟨u,j⟩:=i.one;obtain rfl:=j.ref_inv;obtain⟨ws,k,e,hv⟩:=a.list hl;have lv:=hv.length;rw[Ag] at lv;obtain⟨e1,e2⟩:=hv.bytes;refine sortedK vQ (vs:=ws) (by rw[hs];exact Bt (n:=k) e) (fun p hp=>?_) (sU e2) (by exact sR (cD lv hz)) fun st' hp hst=>?_
  ·rw[On] at hp;obtain⟨b,t,e⟩:=e2 _ (mem_zip_self hp).2;exact⟨gR b.toList,by rw[e]⟩
  ·generalize arrOf st'=xs at hp hst;have hmem:∀p∈xs.toList,p.1=p.2/\p.1∈ws:=fun p hp'=>by
    have:p∈(pairsOf ws).toList:=(Array.perm_iff_toList_perm.mp hp).mem_iff.mp hp';rw[On] at this;exact mem_zip_self this
   have eo:(xs.map (·.2)).toList=xs.toList.map (·.1):=by
    rw[Array.toList_map];exact Dk fun p hp'=>(hmem p hp').1.symm
   have ob:∀v∈xs.toList.map (·.1),isBytes v:=by
    intro v hv;obtain⟨p,hp',rfl⟩:=Aq.mp hv;exact e2 _ (hmem p hp').2
   have pm:((xs.toList.map (·.1)).map eO).Perm bs:=by
    have h1:=(Array.perm_iff_toList_perm.mp hp).map (fun p=>eO p.1);rw[On] at h1;have e2:(ws.zip ws).map (fun p=>eO p.1)=bs:=by
     have:(ws.zip ws).map (fun p=>eO p.1)=((ws.zip ws).map Nj).map eO:=by rw[Bq];rfl
     rw[this,List.map_fst_zip (Bs _),e1]
    rw[e2] at h1;rwa[Bq]
   have asc:((xs.toList.map (·.1)).map eO).Pairwise fun a b=>ble a b=true:=by
    rw[List.pairwise_iff_getElem];intro i j hi hj hij;have hi':i<xs.size:=by simpa using hi
    have hj':j<xs.size:=by simpa using hj
    have h1:=hst i j (Ef hij) (by rw[<-hp.size_eq];exact hj');have kk:∀{i:Nat} (hi:i<xs.size),KK rJ xs i=gR (eO xs[i].1):=fun {i} hi=>by
     obtain⟨b,t,e⟩:=e2 _ (hmem xs[i] (by simp)).2;unfold KK;rw[getElem?_pos xs i hi];show((rJ.keyOf xs[i].1).getD _)=_;rw[e];rfl
    rw[kk hi',kk hj'] at h1;simp only[Kf,Array.getElem_toList];unfold ble;rw[Gq];exact h1
   have eb:(xs.toList.map (·.1)).map eO=cL bs:=zA (pm.trans (dT bs).symm) asc (nM bs);obtain⟨ep,he⟩:=sortedAll_at s.heap ws (xs.map (·.2));have hw:∀c',IsAll (upd σ n (.list ((cL bs).map .bytes))) c' ((cL bs).map .bytes) (xs.map (·.2)).toList:=fun c'=>by
    rw[eo,<-eb];exact IsAll.ofBytes ob
   have he':(Js s.heap ws (xs.map (·.2))).get? (s.heap.objs.size+1)=some (listOf (xs.map (·.2)).toList.toArray ep):=by rw[Ky];exact he
   rw[hs] at he' ⊢;have kp:∀b o,c.h.get? b=some o->(Js c.h ws (xs.map (·.2))).get? b=some o:=fun b o e=>sortedAll_old e;have S:Step (dom σ) c ⟨aN c.ρ n (c.h.objs.size+1),Js c.h ws (xs.map (·.2))⟩:=⟨fun y h=>setρ_ne fun e=>h (e.symm▸hn),fun b vs e=>kp _ _ e⟩;obtain⟨a1,s1⟩:=a.alloc (l:=n) (o:=.list ((cL bs).map .bytes)) (ad:=c.h.objs.size+1) hn kp (Ef (Ee (Bp _) (Aw he'))) (Cs _) he' (.list _ _ _ (hw _));exact q _ ⟨aN c.ρ n (c.h.objs.size+1),_⟩ s.toks (Is.new:Is (upd σ n (.list ((cL bs).map .bytes))) ⟨aN c.ρ n (c.h.objs.size+1),Js c.h ws (xs.map (·.2))⟩ (.ref n) (.ref (c.h.objs.size+1))) a1 s1)⟩
theorem zH{ns:List Int}(hl:σ l=some (.list (ns.map .int))):CallOk Γ ms σ (.builtin "sum") [.ref l] (.int ns.sum) σ:=
 ⟨Dom.refl σ,fun c s vs Q E a hs i q=>wpN.of (by
  obtain⟨u,j⟩:=i.one;obtain rfl:=j.ref_inv;obtain⟨ws,k,e,hv⟩:=a.list hl;have hi:=vB hv;obtain⟨xs,hx⟩:=hi.allInts.items;have hL:s.heap.IsList (c.ρ l) ws.toArray:=by rw[hs];exact Bt (n:=k) e
  refine sum_intListG a.ok.hh (hx▸hL) fun h' tk t' hk=>?_;have e1:ns=xs.toList.map (·.1):=by
   rw[<-nums_intItems,<-hx];exact(show numsOf ws.toArray.toList=ns from hi.numsOf).symm
  have e2:preSum (numAt xs) xs.size=ns.sum:=by
   rw[preSum_eq,Hx (by simp),e1]
  rw[e2];obtain⟨a1,s1⟩:=a.grow0 (h':=h') fun b o e=>hk b o (hs▸e);exact q _ ⟨c.ρ,h'⟩ tk (.int _ t') a1 s1)⟩
theorem aKy{ns:List Int}{k:Int}(hl:σ l=some (.list (ns.map .int)))(hk:k∈ns)(hm:∀x∈ns,k<=x):CallOk Γ ms σ (.builtin "min") [.ref l] (.int k) σ:=
 ⟨Dom.refl σ,fun c s vs Q E a hs i q=>wpN.of (by
  obtain⟨u,j⟩:=i.one;obtain rfl:=j.ref_inv;obtain⟨ws,n,e,hv⟩:=a.list hl;have hi:=vB hv;obtain⟨xs,hx⟩:=hi.allInts.items;have hL:s.heap.IsList (c.ρ l) ws.toArray:=by rw[hs];exact Bt (n:=n) e
  have hns:ns=xs.toList.map (·.1):=by rw[<-hi.numsOf,<-nums_intItems,<-hx]
  have hsz:0<xs.size:=by
   have h3:0<ns.length:=List.length_pos_of_mem hk;rw[hns,Ag,He] at h3;exact h3
  rw[hx] at hL;refine min_intList a.ok.hh hL hsz fun v h' tk hv hkp=>?_;obtain⟨t,rfl⟩:=intItems_at hv;obtain⟨h1,h2⟩:=argBest_lt (numAt xs) (xs.size-1);have m1:numAt xs (argBest (fun i j=>decide (numAt xs i<numAt xs j)) (xs.size-1))∈ns:=by
   rw[hns,numAt_eq];exact getD_mem (by rw[Ag,He];exact z36 hsz h1)
  have m2:∀a∈ns,numAt xs (argBest (fun i j=>decide (numAt xs i<numAt xs j)) (xs.size-1))<=a:=fun a ha=>by
   rw[hns] at ha;obtain⟨j,hj,rfl⟩:=mem_getD ha;rw[Ag,He] at hj;rw[<-numAt_eq];exact h2 j (by exact z37 hsz hj)
  rw[(Int.le_antisymm (m2 k hk) (hm _ m1):numAt xs (argBest (fun i j=>decide (numAt xs i<numAt xs j)) (xs.size-1))=k)];obtain⟨a1,s1⟩:=a.grow0 (h':=h') fun b o e=>hkp b o (hs▸e);exact q _ ⟨c.ρ,h'⟩ tk (.int _ t) a1 s1)⟩
end
section
open PySem.SeqAt
theorem iF(li d:Lbl)(S:FN Γ.w n (.ref fI) (.ref li::args) (upd (upd σ d (.sdict [])) li (.inst C d)) .none σ')(hn:n+1<=Γ.n)(hm:makesIn (Mine.hd.heap_1 Γ.w.params) C=true)(hi:Cq (Mine.hd.heap_1 Γ.w.params) (.ref C) "__init__"=some (some (.ref fI)))
  (hf:Of (Mine.hd.heap_1 Γ.w.params) (.ref fI)=some (.type "function"))(hd:σ d=none)(hl:σ li=none)(ne:li≠d)(hF:∀l,¬Γ.F l):CallOk Γ ms σ (.ref C) args (.ref li) σ':=
 ⟨(Dom.upd.trans Dom.upd).trans S.dom,fun c s vs Q E a hs hv q=>by
  obtain⟨h,g,dr,t,os⟩:=s;dsimp only at hs;subst hs;refine cJ (qK (makes_of a.K hm) (Jo a.K hi) (fun self=>bind_fn a.K self hf) ?_);have eD:ObIs Γ.w (upd σ d (.sdict [])) ⟨aN c.ρ d c.h.objs.size,c.h.push emptyDict⟩ (.sdict []) emptyDict:=by
   obtain⟨o,ho,hdo⟩:=Bk.mp (Gv (knd:=Br PW Γ.w) c.h);have:(c.h.push emptyDict).get? c.h.objs.size=some emptyDict:=Ao _ rfl;have e:o=emptyDict:=Cw (ho.symm.trans this);exact .sdict [] [] _ (e▸hdo) .nil
  refine bc fun nq=>?_;obtain⟨a1,s1⟩:=a.alloc (l:=d) (o:=.sdict []) (ad:=c.h.objs.size) (h':=c.h.push emptyDict) hd (fun b o e=>Ae _ e) (by rw[Bz];exact Cs _) (Bs _) (Ao _ rfl) eD;have ed:aN c.ρ d c.h.objs.size d=c.h.objs.size:=setρ_at;have eI:ObIs Γ.w (upd (upd σ d (.sdict [])) li (.inst C d)) ⟨aN (aN c.ρ d c.h.objs.size) li (c.h.push emptyDict).objs.size,(c.h.push emptyDict).push (Ej C c.h.objs.size)⟩ (.inst C d) (Ej C c.h.objs.size):=by
   have e2:aN (aN c.ρ d c.h.objs.size) li (c.h.push emptyDict).objs.size d=c.h.objs.size:=by
    unfold aN;rw[if_neg (Bw ne),if_pos rfl]
   have:=ObIs.inst (w:=Γ.w) (σ:=upd (upd σ d (.sdict [])) li (.inst C d)) (c:=⟨aN (aN c.ρ d c.h.objs.size) li (c.h.push emptyDict).objs.size,(c.h.push emptyDict).push (Ej C c.h.objs.size)⟩) C d (by unfold upd;rw[if_neg (Bw ne),if_pos rfl];exact fun z=>by cases z);dsimp only at this;rwa[e2] at this
  obtain⟨a2,s2⟩:=a1.alloc (l:=li) (o:=.inst C d) (ad:=(c.h.push emptyDict).objs.size) (h':=(c.h.push emptyDict).push (Ej C c.h.objs.size)) (show upd σ d (.sdict []) li=none by unfold upd;rw[if_neg ne];exact hl) (fun b o e=>Ae _ e) (by dsimp only;rw[Bz];simp) (Bs _) (Ao _ rfl) eI;have S12:Step (Mine.dom σ) c ⟨aN (aN c.ρ d c.h.objs.size) li (c.h.push emptyDict).objs.size,(c.h.push emptyDict).push (Ej C c.h.objs.size)⟩:=s1.trans (s2.mono Dom.upd);have eli:aN (aN c.ρ d c.h.objs.size) li (c.h.push emptyDict).objs.size li=c.h.objs.size+1:=by unfold aN;rw[if_pos rfl,(Bz .. :(c.h.push emptyDict).objs.size=c.h.objs.size+1)]
  have ir:Is (upd (upd σ d (.sdict [])) li (.inst C d)) ⟨aN (aN c.ρ d c.h.objs.size) li (c.h.push emptyDict).objs.size,(c.h.push emptyDict).push (Ej C c.h.objs.size)⟩ (.ref li) (.ref (c.h.objs.size+1)):=by
   have:=Is.ref (σ:=upd (upd σ d (.sdict [])) li (.inst C d)) (c:=⟨aN (aN c.ρ d c.h.objs.size) li (c.h.push emptyDict).objs.size,(c.h.push emptyDict).push (Ej C c.h.objs.size)⟩) li (by rw[aC];exact fun z=>by cases z);dsimp only at this;rwa[eli] at this
  have un:(Γ.Ad.under (.builtin "type.__call__" ⟨.ref C::vs,[]⟩)).units<=Γ.Ad.units+4:=Bx (show 1<=4 by decide) _;refine nq ?_;refine vM _ S hF rfl (by exact z31 hn (rfl:(Γ.Ad.under (.builtin "type.__call__" ⟨.ref C::vs,[]⟩)).depth=Γ.Ad.depth+1)) (by exact z32 hn un) a.ok.hh a2 rfl (.cons ir (hv.mono (Dom.upd.trans Dom.upd) S12)) fun v c' tk iv a3 s3=>?_;obtain rfl:=iv.none_inv;refine⟨rfl,q (.ref (c.h.objs.size+1)) c' tk ?_ a3 (S12.trans (s3.mono (Dom.upd.trans Dom.upd)))⟩;have e3:c'.ρ li=c.h.objs.size+1:=(s3.rho li (by show upd _ _ _ _≠_;rw[aC];exact fun z=>by cases z)).trans eli;have:=Is.ref (σ:=σ') (c:=c') li (S.dom li (by rw[aC];exact fun z=>by cases z));rwa[e3] at this⟩
theorem aKv{name:Str}{args:List Aj}{f:Addr}{mc:Value}(h0:EV Γ ms σ (eval o env) (.con (.ref C)) σ1)(hg:Pc (Mine.hd.heap_1 Γ.w.params) (.ref C) "__getattribute__"=some (some (.builtin "type.__getattribute__")))
  (hr:readsIn (Mine.hd.heap_1 Γ.w.params) C mc=true)(hfc:findCls (Mine.hd.heap_1 Γ.w.params) (.ref C) mc name=some (.val (.ref f)))(k:Keeps Γ (.ref f))
  (h1:EL Γ ms σ1 (Co (Cc pos (Av args env))) shs σ2)
  (hb:Cd o name env (eval o env)=eval o env)(ok:cR args apos pos=true):EC Γ ms σ (eval (.Call (.Attribute o name apos) args [] pos) env) (.ref f) shs σ2:=
 ⟨h0.dom.trans h1.dom,fun c s Q E a hs q=>by
  rw[Iz,hb];refine h0.bind a hs fun u c1 t1 i1 a1 s1=>?_;obtain rfl:=i1.con_inv;refine aG ?_;unfold Lg;rw[show(args.length+([]:List Nv).length)=args.length+0 from rfl,qF ok]
  refine bV ?_;refine method_cls (K:=Mine.hd.heap_1 Γ.w.params) a1.K hg (cls_value a1.K hr hfc rfl ?_);dsimp only;rw[xM ok];refine aW ?_;exact gO (fsh:=[]) (first:=[]) k h1 (lM ok) (aCk ok) c1 _ Q E a1 rfl .nil fun vs c2 t2 i2 a2 s2=>q vs c2 t2 i2 a2 (s1.trans (s2.mono h0.dom))⟩
theorem nQ{name:Str}{args:List Aj}{f:Addr}{mc:Value}{x:Sh}(h0:EV Γ ms σ (eval o Γ.env) (.con (.ref C)) σ1)(hg:Pc (Mine.hd.heap_1 Γ.w.params) (.ref C) "__getattribute__"=some (some (.builtin "type.__getattribute__")))
  (hr:readsIn (Mine.hd.heap_1 Γ.w.params) C mc=true)(hfc:findCls (Mine.hd.heap_1 Γ.w.params) (.ref C) mc name=some (.val (.ref f)))(k:Keeps Γ (.ref f))
  (h1:EL Γ ms σ1 (Co (Cc pos (Av args Γ.env))) shs σ2)(h2:CallOk Γ ms σ2 (.ref f) shs x σ3)
  (hb:Cd o name Γ.env (eval o Γ.env)=eval o Γ.env)(ok:cR args apos pos=true):EV Γ ms σ (eval (.Call (.Attribute o name apos) args [] pos) Γ.env) x σ3:=(aKv h0 hg hr hfc k h1 hb ok).ok h2
end
section
open PySem.SeqAt
structure OB(Γ:Gm)(ms:Str->Option Sh)(σ:Sg)(e:Option Aj)(o:Option Int):Prop where
 run:∀(c:Cf) (s:Ai) (Q:Value->Ai->Prop) (E:Value->Ai->Prop),At Γ ms σ c->s.heap=c.h->(∀v c' tk,IsPart v o->At Γ ms σ c'->Step (Mine.dom σ) c c'->Q v {s with heap:=c'.h,toks:=tk})->wpN (M Γ) Γ.Ad (Jc (Nd e Γ.env)) Q E s
theorem wG:OB Γ ms σ none none:=⟨fun c s Q E a hs q=>by
 have:=q .none c s.toks .none a (Step.refl c);rw[<-hs] at this;exact aH this⟩
theorem wF{n:Int}(h:EV Γ ms σ (eval e Γ.env) (.int n) σ):OB Γ ms σ (some e) (some n):=⟨fun c s Q E a hs q=>by
 exact h.run c s _ E a hs fun v c1 t1 i1 a1 s1=>by
  obtain⟨t,rfl⟩:=i1.int_inv;exact q _ c1 t1 (.int n t) a1 s1⟩
structure SlOk(Γ:Gm)(ms:Str->Option Sh)(σ:Sg)(value slice:Aj)(x:Sh)(lo hi:Option Int)(z:Sh)(σ':Sg):Prop where
 dom:Dom σ σ'
 run:∀(c:Cf) (s:Ai) (u vl vu:Value) (Q:Value->Ai->Prop) (E:Value->Ai->Prop),At Γ ms σ c->s.heap=c.h->Is σ c x u->IsPart vl lo->IsPart vu hi->
  (∀r c' tk,Is σ' c' z r->At Γ ms σ' c'->Step (Mine.dom σ) c c'->Q r {s with heap:=c'.h,toks:=tk})->wpAny (M Γ) Γ.Ad (subscriptTail value slice u (.ref s.heap.objs.size)) Q E {s with heap:=s.heap.push {cls:=.type "slice",data:=.fields #[vl,vu,.none]}}
theorem wH{value:Aj}{lo hi:Option Aj}{l h:Option Int}{x:Sh}(h1:EV Γ ms σ (eval value Γ.env) x σ1)(hl:OB Γ ms σ1 lo l)(hh:OB Γ ms σ1 hi h)(h3:SlOk Γ ms σ1 value (.Slice lo hi none spos) x l h z σ2):EV Γ ms σ (eval (.Subscript value (.Slice lo hi none spos) pos) Γ.env) z σ2:=
 ⟨h1.dom.trans h3.dom,fun c s Q E a hs q=>by
  refine h1.bind a hs fun u c1 t1 i1 a1 s1=>?_;refine aE (aF ?_);show wpN _ _ (do
   let l <-Jc (Nd lo Γ.env)
   let u <-Dc [l] (Jc (Nd hi Γ.env))
   let s <-Dc [l,u] (Jc (Nd none Γ.env))
   newFields "slice" [l,u,s]) _ _ _
  refine aE (hl.run _ _ _ _ a1 rfl fun vl c2 t2 p2 a2 s2=>?_);refine aE (aF (hh.run _ _ _ _ a2 rfl fun vu c3 t3 p3 a3 s3=>?_));refine aE (aF (aH ?_));refine wpN.of (Ii ?_);refine aG (wpN.of ?_);exact h3.run c3 {s with heap:=c3.h,toks:=t3} u vl vu Q E a3 rfl ((i1.mono (Dom.refl _) s2).mono (Dom.refl _) s3) p2 p3 fun r c4 t4 i4 a4 s4=>q r c4 t4 i4 a4 (((s1.trans (s2.mono h1.dom)).trans (s3.mono h1.dom)).trans (s4.mono h1.dom))⟩
noncomputable abbrev rawL(vs:List Value):Ob:=.raw [] fun _ o=>o=listOf vs.toArray 0
theorem aAm{ns:List Int}(h:Nw vs ns):IsAll σ c (ns.map .int) vs:=by
 induction h with
 |nil=>exact .nil
 |cons _ _ _ ih=>exact .cons (.int _ _) ih
theorem At.rawL{ns:List Int}(h:Nw vs ns)(a:At Γ ms σ c)(hl:σ l=some (rawL vs)):∃vs m,c.h.get? (c.ρ l)=some (listOf vs.toArray m)/\IsAll σ c (ns.map .int) vs:=by
 obtain⟨x,h1,h2,_⟩:=a.ob l _ hl;have hp:=h2.raw_inv.2;exact⟨vs,0,by rw[h1,hp],aAm h⟩
theorem aNv{value:Aj}{k:Nat}(n:Lbl)(hl:∀c,At Γ ms σ c->∃vs m,c.h.get? (c.ρ l)=some (listOf vs.toArray m)/\IsAll σ c xs vs)(hz:xs.length<=1000)(hn:σ n=none)
  (hs':∀o i:Value,Ih slice false o i=Jn [i,o] (Ma o i))(ht:∀o r:Value,letTemporaryGo value o r=pure ()):SlOk Γ ms σ value slice (.ref l) none (some (k:Int)) (.ref n) (upd σ n (.list (xs.take k))):=
 ⟨Dom.upd,fun c s u vl vu Q E a hs i pl pu q=>by
  obtain rfl:=i.ref_inv;refine bc fun nq=>?_;obtain⟨vs,m,e,hv⟩:=hl c a;have lv:=hv.length;have hL:s.heap.IsList (c.ρ l) vs.toArray:=by rw[hs];exact Bt (n:=m) e
  refine nq ?_;refine subscriptTail_ops (Heap.IsList.typeIs (s:={s with heap:=s.heap.push {cls:=.type "slice",data:=.fields #[vl,vu,.none]}}) (hL.push _)) list_getitem_lookup
   (wpAny_getItem_list_slice (hL.push _) (Heap.IsSliceOf.new ..) pl pu .none (by simp) ?_ (by rw[Bg,Bh];exact nle (cD lv hz))) (hs' _ _) (ht _)
  have ep:Oz vs.toArray none (some (k:Int)) none=(vs.take k).toArray:=by
   rcases Nat.le_total k vs.length with h|h
   ·have:=slicePick_upto vs.toArray k (by simpa using h);simpa using this
   ·have e1:Oz vs.toArray none (some (k:Int)) none=Oz vs.toArray none (some ((vs.length:Nat):Int)) none:=by
     unfold Oz;rw[sliceBounds_plain,sliceBounds_plain];simp only[Bg,Option.elim,clipAt_nat];rw[Nat.min_eq_right h,Nat.min_self]
    rw[e1];have:=slicePick_upto vs.toArray vs.length (by simp);rw[Hx h];simpa using this
  rw[ep];rw[hs];refine bc fun nq=>?_;obtain⟨a1,s1⟩:=a.grow0 (h':=c.h.push {cls:=.type "slice",data:=.fields #[vl,vu,.none]}) fun b o e=>Ae _ e;have tk:∀{σ':Sg} {c':Cf} {l:List Sh} {w:List Value} (k:Nat),IsAll σ' c' l w->IsAll σ' c' (l.take k) (w.take k):=by
   intro σ' c' l
   induction l with
   |nil=>intro w k h;obtain rfl:=h.nil_inv;simp;exact .nil
   |cons x l ih=>
    intro w k h;obtain⟨_,_,rfl,a,b⟩:=h.cons_inv
    cases k with
    |zero=>exact .nil
    |succ k=>exact .cons a (ih k b)
  obtain⟨c1,e1,r,a2,s2⟩:=a1.newList (l:=l) (n:=n) (ys:=xs.take k) (h':=(c.h.push {cls:=.type "slice",data:=.fields #[vl,vu,.none]}).push (listOf (vs.take k).toArray 0)) hn (fun b o e=>Ae _ e) (Ao _ rfl) fun c' S _=>tk k ((hv.mono (Dom.refl _) s1).mono Dom.upd S);have:=q _ c1 s.toks r a2 (s1.trans s2);rw[e1] at this;refine nq ?_;exact this⟩
theorem gU{x y:List UInt8}(hz:x.length+y.length<=1000):BinOk Γ ms σ .Add (.bytes x) (.bytes y) (.bytes (x++y)):=⟨fun c s u v Q E _ hs i j q=>by
 obtain⟨t,rfl⟩:=i.bytes_inv
 cases j with
 |bytes _ t'=>
 refine KBy.add_bytes (by simp only[Bg];exact nle hz) fun t'' k=>?_;have:=q _ k (.bytes (x++y) t'');rw[<-hs] at this;simpa using this⟩
theorem aQe{k x:Int}(hl:σ l=some (.ba b))(h0:0<=k)(h1:k<b.length)(hx0:0<=x)(hx1:x<256)(hz:b.length<=1000)(hF:¬Γ.F l):SetOk Γ ms σ (.ref l) (.int k) (.int x) (upd σ l (.ba (b.set k.toNat x.toNat.toUInt8))):=
 ⟨Dom.upd,fun c s u v r Q E a hs i1 i2 i3 q=>by
  obtain rfl:=i1.ref_inv;obtain⟨t,rfl⟩:=i2.int_inv;obtain⟨t',rfl⟩:=i3.int_inv;refine wpN.of (aJk (by rw[hs];exact a.ba hl) h0 h1 hx0 hx1 hz fun h' hsb ho=>?_);rw[hs] at hsb;have z:=a.put hl hF hsb ho (.ba _);exact q ⟨c.ρ,h'⟩ s.toks z.1 z.2⟩
theorem aLd{x:List UInt8}(h2:EV Γ ms σ (eval o Γ.env) (.ref l) σ1)(hl:σ1 l=some (.ba b))(hlen:x.length=b.length)(hz:b.length<=1000)(hF:¬Γ.F l):AS Γ ms σ (.Subscript o (.Slice none none none spos) apos) (.bytes x) ms (upd σ1 l (.ba x)):=
 ⟨h2.dom.trans Dom.upd,fun c s r Q E a hs i1 q=>by
  obtain⟨rl,ea⟩:=rM o (.Slice none none none spos) apos Γ.env r;rw[ea];refine h2.hold a hs fun u c2 t2 i2 a2 s2=>?_;obtain rfl:=i2.ref_inv;refine aE (aF ?_);show wpN _ _ (do
   let l <-Jc (Nd none Γ.env)
   let u <-Dc [l] (Jc (Nd none Γ.env))
   let s <-Dc [l,u] (Jc (Nd none Γ.env))
   newFields "slice" [l,u,s]) _ _ _
  refine aE (aH (aE (aF (aH (aE (aF (aH ?_)))))));refine wpN.of (Ii ?_);obtain⟨a3,s3⟩:=a2.grow0 (h':=c2.h.push slO) fun b o e=>Ae _ e
  cases i1 with
  |bytes _ t=>
  refine aG (aE (aF (sZ (s:={s with heap:=c2.h.push slO,toks:=t2}) (a3.ba hl) (Ao _ rfl) hlen (by rw[Bh];exact nle (cD hlen hz)) fun h' hsz kp ho=>?_)));obtain⟨x0,x1,x2,x3,x4⟩:=a3.ob l _ hl;have hl':σ1 l≠none:=by rw[hl];exact fun z=>by cases z
  have S:Step (dom σ1) ⟨c2.ρ,c2.h.push slO⟩ ⟨c2.ρ,h'⟩:=⟨fun _ _=>rfl,fun b vs e=>kp b _ (fun q=>by rw[q,x1] at e;cases e;exact x2.notTup) e⟩;have D:Dom σ1 (upd σ1 l (.ba x)):=Dom.upd;have dom':∀y,upd σ1 l (.ba x) y≠none->σ1 y≠none:=fun y h=>by
   by_cases e:y=l
   ·exact e▸hl'
   ·unfold upd at h;rwa[if_neg e] at h
  have a4:At Γ ms (upd σ1 l (.ba x)) ⟨c2.ρ,h'⟩:=by
   obtain⟨m,F,hm⟩:=a3.fr;refine⟨⟨fun y ob e=>?_,fun y y' h h' e=>a3.inj y y' (dom' y h) (dom' y' h') e,?_,fun b o e=>(a3.keep b o e).go fun o'=>kp b o' (fun q=>by rw[q,x3.resolve_right hF] at e;cases e)⟩,a3.ok,⟨m,⟨F.ns.at' fun o e=>kp _ o (fun q=>(a3.offL l hl').1 q.symm) e,fun b o e=>(F.keep b o e).go fun o'=>kp b o' (fun q=>by rw[q,x3.resolve_right hF] at e;cases e),F.off⟩,fun z sh hk e=>?_⟩,fun y h=>a3.offL y (dom' y h),fun z b hb=>?_,fun y p=>D y (a3.prot y p)⟩
   ·by_cases q:y=l
    ·subst q;unfold upd at e;rw[if_pos rfl] at e;cases e;exact⟨_,ho,.ba x,x3,x4⟩
    ·unfold upd at e;rw[if_neg q] at e;obtain⟨z,h1,h2,h3,h4⟩:=a3.ob y ob e;exact⟨z,kp _ _ (fun w=>q (a3.inj y l (by rw[e];exact fun z=>by cases z) hl' w)) h1,h2.mono D S,h3,h4⟩
   ·obtain⟨ls,hls⟩:=a3.fin;exact⟨ls,fun y h=>hls y (dom' y h)⟩
   ·obtain⟨v,h1,h2⟩:=hm z sh hk e;exact⟨v,h1,h2.mono D S⟩
   ·refine bc fun nq=>?_;obtain⟨⟨u,⟨oc,ho,hd⟩,hu⟩,h2,h3⟩:=a3.cel z b hb;refine nq ?_;refine⟨⟨u,⟨oc,kp _ _ (Bw (h3 l hl')) ho,hd⟩,fun sh e=>?_⟩,h2,fun y h=>h3 y (dom' y h)⟩;obtain⟨y,e1,hy⟩:=hu sh e;exact⟨y,e1,hy.mono D S⟩
  exact dB (q ⟨c2.ρ,h'⟩ t2 a4 (s2.trans ((s3.trans S).mono h2.dom)))⟩
theorem pL{K:Type}[DecidableEq K](dk:DK K)(n:Lbl)(hn:σ n=none):EV Γ ms σ (eval (.Dict [] [] pos) Γ.env) (.ref n) (upd σ n (dk.ob [])):=
 ⟨Dom.upd,fun c s Q E a hs q=>wpN.of (wpAny_Dict_empty (by
  rw[hs];refine bc fun nq=>?_;obtain⟨o,ho,hdo⟩:=Bk.mp (Gv (knd:=dk.knd Γ.w) c.h);obtain⟨a1,s1⟩:=a.alloc (l:=n) (o:=dk.ob []) (ad:=c.h.objs.size) (h':=c.h.push {cls:=.type "dict",data:=.dict #[]}) hn (fun b o e=>Ae _ e) (by rw[Bz];exact Cs _) (Bs _) ho (dk.back hdo .nil);have r:Is (upd σ n (dk.ob [])) ⟨aN c.ρ n c.h.objs.size,c.h.push {cls:=.type "dict",data:=.dict #[]}⟩ (.ref n) (.ref c.h.objs.size):=Is.new;refine nq ?_;exact q _ ⟨aN c.ρ n c.h.objs.size,c.h.push {cls:=.type "dict",data:=.dict #[]}⟩ s.toks r a1 s1))⟩
end
section
open PySem.SeqAt
theorem qJ{α:Type}{v:α}{l:List (Str×α)}(e:l.lookup x=some v):(x,v)∈l:=by
 induction l with
 |nil=>cases e
 |cons p l ih=>
  rw[Bj] at e
  split at e
  ·rename_i q;cases e;rw[Pd q];exact .head _
  ·exact .tail _ (ih e)
theorem pT{α Z:Type}{K:Sg->Prop}{xs:List α}(f:α->Sh)(mst:Z->List (Str×Sh))(sg:Z->Sg)(step:Z->α->Z)(Iv:Z->Prop)(hK:∀z,Iv z->K (sg z))(hI:∀z a,Iv z->a∈xs->Iv (step z a))
  (h:∀z a g,Iv z->a∈xs->SS (Γ.frz g (dom (sg z)) F) (mL ((x,f a)::mst z)) (sg z) (execs body Γ.env) .next (mL (mst (step z a))) (sg (step z a)))(z:Z)(hz:Iv z):
  Turns Γ K F body (nm x) (xs.map f) (mL (mst z)) (sg z) .next (mL (mst (xs.foldl step z))) (sg (xs.foldl step z)):=by
 induction xs generalizing z with
 |nil=>exact .nil (hK z hz)
 |cons a xs ih=>
  refine .cons (hK z hz) (fun g=>?_) (ih (fun z b q m=>hI z b q (.tail _ m)) (fun z b g q m=>h z b g q (.tail _ m)) (step z a) (hI z a hz (.head _)));have:=h z a g hz (.head _);rw[<-bR] at this;exact this
theorem aFl{α:Type}{K:Sg->Prop}{xs:List α}(f y:α->Sh)(hK:K σ)
  (h:∀a g C,a∈xs->EV (Γ.cmp sc cl C g (dom σ) F) (mL ((x,f a)::mc)) σ (eval elt (Cp sc cl C Γ.env)) (y a) σ):Comps Γ K F sc cl (nm x) (mL mc) [] elt (xs.map f) σ (xs.map y) σ:=by
 induction xs with
 |nil=>exact .nil hK
 |cons a xs ih=>
  refine .cons hK (fun g C=>aBj) (fun g C=>?_) (ih fun b g C m=>h b g C (.tail _ m));have:=h a g C (.head _);rw[<-bR] at this;exact this
theorem vL{α:Type}{K:Sg->Prop}{t:Aj}{xs:List α}(f y:α->Sh)(p:α->Bool)(hK:K σ)
  (ht:∀a g C,a∈xs->EB (Γ.cmp sc cl C g (dom σ) F) (mL ((x,f a)::mc)) σ (isTrue t (Cp sc cl C Γ.env) (eval t (Cp sc cl C Γ.env))) (p a) σ)
  (h:∀a g C,a∈xs->p a=true->EV (Γ.cmp sc cl C g (dom σ) F) (mL ((x,f a)::mc)) σ (eval elt (Cp sc cl C Γ.env)) (y a) σ):Comps Γ K F sc cl (nm x) (mL mc) [t] elt (xs.map f) σ ((xs.filter p).map y) σ:=by
 induction xs with
 |nil=>exact .nil hK
 |cons a xs ih=>
  have ih:=ih (fun b g C m=>ht b g C (.tail _ m)) fun b g C m=>h b g C (.tail _ m);have t1:=fun g C=>ht a g C (.head _);simp only[<-bR] at t1
  cases e:p a with
  |true=>
   rw[Hq e];refine .cons hK (fun g C=>aOr (e▸t1 g C)) (fun g C=>?_) ih;have:=h a g C (.head _) e;rw[<-bR] at this;exact this
  |false=>
   rw[Hr (by simp[e])];exact .skip hK (fun g C=>aOr (e▸t1 g C)) ih
theorem jV(hcl:∀y b,cl.lookup y=some b->Γ.env.cells.lookup y=some b)(hmc:mLe (mL mc) (mL ml))(hmd:∀y∈mc.map (·.1),∀C,(Cp sc cl C Γ.env).kindOf y≠some .local)
  (hkind:sc.kind = .function)(hx:sc.names.lookup x=some .local)(hxc:cl.lookup x=none)(hcm:∀y sh,mL ml y=some sh->(cl.lookup y).isSome=true->mL mc y=some sh):CpOk Γ (mL ml) (mL mc) sc cl (nm x) (.Name x px) (fun _=>True):=
 {hcl:=hcl,hmc:=hmc
  hmd:=fun C y sh e=>hmd y (by
   unfold mL at e;exact Aq.mpr ⟨(y,sh),qJ e,rfl⟩) C
  hkind:=hkind
  hcm:=fun sh y v e hc=>by
   show setm (mL mc) x sh y=some v;unfold setm;rw[if_neg (fun q=>by rw[q,hxc] at hc;cases hc)];exact hcm y v e hc
  hT:=fun C g P F sh σ _=>aDf (Jd hx) hxc}
noncomputable def aGz(sc s0:Scope):Scope:={sc with names:=sc.names.map fun(n,k)=>if(k == .free&&s0.kind == .function&&s0.names.lookup n==some .cell) then(n,.cell) else(n,k)}
theorem aAz{P:Lbl->Prop}(h:Γ.env.scope=s0):(Γ.cmp sc cl C g P F).env.scope=aGz sc s0:=by subst h;rfl
theorem aIs{K:Type}[DecidableEq K]{k:K}{x:Sh}{l:List (K×Sh)}:aY ((k,x)::l) k=some x:=by unfold aY;simp
theorem aFg{K:Type}[DecidableEq K]{k k':K}{x:Sh}{l:List (K×Sh)}{r:Option Sh}(h:decide (k'=k)=false)(h2:aY l k=r):aY ((k',x)::l) k=r:=by
 unfold aY at*;rw[Ex (by simpa using h)];exact h2
theorem aIr{K:Type}[DecidableEq K]{k:K}:aY ([]:List (K×Sh)) k=none:=rfl
end
section
open PySem.SeqAt
section
variable{a b l m:Aj}{x y:Bool}{bs:List Aj}
theorem aKe(h:EB Γ ms σ (Hu .And bs Γ.env) x σ1):EB Γ ms σ (isTrue (.BoolOp .And bs pos) Γ.env whole) x σ1:=h
theorem mP(h:EB Γ ms σ (Hu .Or bs Γ.env) x σ1):EB Γ ms σ (isTrue (.BoolOp .Or bs pos) Γ.env whole) x σ1:=h
theorem aBk(h1:EB Γ ms σ (isTrue a Γ.env (eval a Γ.env)) x σ)(h2:EB Γ ms σ (Hu .And rest Γ.env) y σ):EB Γ ms σ (Hu .And (a::rest) Γ.env) (x&&y) σ:=by
 cases x with
 |true=>exact aKd h1 h2
 |false=>exact rR h1
theorem mO(h1:EB Γ ms σ (isTrue a Γ.env (eval a Γ.env)) x σ)(h2:EB Γ ms σ (Hu .Or rest Γ.env) y σ):EB Γ ms σ (Hu .Or (a::rest) Γ.env) (x || y) σ:=by
 cases x with
 |false=>exact fJ h1 h2
 |true=>exact aFx h1
theorem aKc{op1 op2:CmpOp}{v:Sh}(h1:EV Γ ms σ (eval l Γ.env) u σ)(h2:EV Γ ms σ (eval m Γ.env) v σ)(h3:CmpOk Γ ms σ op1 u v x)(h4:EV Γ ms σ (eval r Γ.env) z σ)(h5:CmpOk Γ ms σ op2 v z y)(hm:Pa [op1,op2] [m,r]=false):
  EB Γ ms σ (isTrue (.Compare l [op1,op2] [m,r] pos) Γ.env whole) (x&&y) σ:=by
 cases x with
 |true=>exact aNt h1 h2 h3 h4 h5 hm
 |false=>exact wD h1 h2 h3 hm
theorem wK{t:Aj}{v:Sh}(h:EB Γ ms σ (isTrue t Γ.env (eval t Γ.env)) x σ)(h1:x=true->EV Γ ms σ (eval a Γ.env) u σ)(h2:x=false->EV Γ ms σ (eval b Γ.env) v σ):EV Γ ms σ (eval (.IfExp t a b pos) Γ.env) (if x then u else v) σ:=by
 cases x with
 |true=>exact bK h (h1 rfl)
 |false=>exact bE h (h2 rfl)
theorem EV.cast{t:Sem Value}{v:Sh}(h:EV Γ ms σ t u σ1)(e:u=v)(e2:σ1=σ2):EV Γ ms σ t v σ2:=e▸e2▸h
theorem CmpOk.cast{op:CmpOp}{v:Sh}(h:CmpOk Γ ms σ op u v x)(e:x=y):CmpOk Γ ms σ op u v y:=e▸h
theorem aDh{k:Nat}{p:Str}{v:Sh}(hw:Kk [.Tuple tgs k px] e Γ.env=pure (some [p,q]))(h:EV Γ (mL ml) σ (eval e Γ.env) (.tup [u,v]) σ1)(henv:Γ.env.scope=sc)(hp:sc.names.lookup p=some .local)(hq:sc.names.lookup q=some .local)
  (cp:Γ.env.cells.lookup p=none)(cq:Γ.env.cells.lookup q=none)(hs:Kj [.Tuple tgs k px] e pos.line Γ.env=pure false):SS Γ (mL ml) σ (exec (.Assign [.Tuple tgs k px] e pos) Γ.env) .next (mL ((p,u)::(q,v)::ml)) σ1:=
 aKh h (jT henv hq cq (jT henv hp cp aDp)) rfl hs hw
theorem aDg{k:Nat}{p r:Str}{v:Sh}(hw:Kk [.Tuple tgs k px] e Γ.env=pure (some [p,q,r]))(h:EV Γ (mL ml) σ (eval e Γ.env) (.tup [u,v,z]) σ1)(henv:Γ.env.scope=sc)(hp:sc.names.lookup p=some .local)(hq:sc.names.lookup q=some .local)(hr:sc.names.lookup r=some .local)
  (cp:Γ.env.cells.lookup p=none)(cq:Γ.env.cells.lookup q=none)(cr:Γ.env.cells.lookup r=none)(hs:Kj [.Tuple tgs k px] e pos.line Γ.env=pure false):SS Γ (mL ml) σ (exec (.Assign [.Tuple tgs k px] e pos) Γ.env) .next (mL ((p,u)::(q,v)::(r,z)::ml)) σ1:=
 aKh h (jT henv hr cr (jT henv hq cq (jT henv hp cp aDp))) rfl hs hw
theorem wQ{n q k:Int}:CmpOk Γ ms σ .NotIn (.int n) (.tup [.int p,.int q,.int k]) (!decide (n∈[p,q,k])):=sE (ns:=[p,q,k])
theorem aGn{n p:Str}:CmpOk Γ ms σ .In (.str n) (.tup [.str p,.str q]) (decide (n∈[p,q])):=oQ (ns:=[p,q])
theorem aGm{n p k:Str}:CmpOk Γ ms σ .In (.str n) (.tup [.str p,.str q,.str k]) (decide (n∈[p,q,k])):=oQ (ns:=[p,q,k])
end
end
section
open PySem.SeqAt
theorem aJi:Dp "bytes"=some (.type "bytes"):=by decide +kernel
theorem aJh:Dp "range"=some (.type "range"):=by decide +kernel
theorem aJg:Dp "tuple"=some (.type "tuple"):=by decide +kernel
theorem aNl:Dp "list"=some (.type "list"):=by decide +kernel
theorem aNm:Dp "dict"=some (.type "dict"):=by decide +kernel
theorem vW:Dp "bytearray"=some (.type "bytearray"):=by decide +kernel
theorem aQb:Dp "int"=some (.type "int"):=by decide +kernel
theorem vV:Dp "enumerate"=some (.type "enumerate"):=by decide +kernel
theorem vX:Dp "Exception"=some (.type "Exception"):=by decide +kernel
theorem aQa:Dp "len"=some (.builtin "len"):=by decide +kernel
theorem aFr:Dp "sorted"=some (.builtin "sorted"):=by decide +kernel
theorem aPy:Dp "sum"=some (.builtin "sum"):=by decide +kernel
theorem aPz:Dp "min"=some (.builtin "min"):=by decide +kernel
theorem aQc:Dp "abs"=some (.builtin "abs"):=by decide +kernel
noncomputable def upI(a b:Int):List Int:=(Jg (b-a).toNat).map fun(i:Nat)=>a+(i:Int)
theorem aLf(a b:Int):zQ a b=(upI a b).map .int:=by unfold zQ upI;rw[Bq];rfl
theorem bJ{b i:Int}:i∈upI a b↔a<=i/\i<b:=by
 unfold upI;simp only[Aq,List.mem_range];constructor
 ·rintro⟨k,h,rfl⟩;exact z59 h
 ·rintro⟨h1,h2⟩;exact⟨(i-a).toNat,by exact z60 h1 h2,by exact z61 h1⟩
theorem aU(a b:Int):(upI a b).length=(b-a).toNat:=by unfold upI;simp
theorem FN.fresh{x:Sh}(D:Dom σ σ')(h:∀k:Int,(∀i,k<=i->σ (0,i)=none)->FN w n f args σ x σ'):FN w n f args σ x σ':=
 ⟨D,fun A base outer g mg mb c s vs R C H hs hv q=>by
  obtain⟨ls,hls⟩:=H.fin;have:∃k:Int,∀l∈ls,l.2<k:=by
   clear hls
   induction ls with
   |nil=>exact⟨0,fun _ h=>by cases h⟩
   |cons a r ih=>
    obtain⟨k,hk⟩:=ih;refine⟨max k (a.2+1),fun l hl=>?_⟩;rcases An.mp hl with rfl|hl
    ·exact z62
    ·have:=hk l hl;exact z63 this
  obtain⟨k,hk⟩:=this;refine(h k fun i hi=>?_).run A base outer g mg mb c s vs R C H hs hv q
  cases e:σ (0,i) with
  |none=>rfl
  |some o=>
   have:=hk _ (hls (0,i) (by rw[e];exact fun z=>by cases z));exact absurd this (by simp;exact hi)⟩
section
variable{t:Aj}{T:Lbl->Prop}{K:Sg->Prop}
structure LcOk(Γ:Gm)(sc:Scope)(cl:List (Str×Addr))(ml mc:List (Str×Sh))(x:Str):Prop where
 hclos:Gk sc Γ.env=pure cl
 hcl:∀y b,cl.lookup y=some b->Γ.env.cells.lookup y=some b
 hmc:mLe (mL mc) (mL ml)
 hmd:∀y∈mc.map (·.1),∀C,(Cp sc cl C Γ.env).kindOf y≠some .local
 hx:sc.names.lookup x=some .local
 hxc:cl.lookup x=none
 hcm:∀y sh,mL ml y=some sh->(cl.lookup y).isSome=true->mL mc y=some sh
theorem LcOk.none(hclos:Gk sc Γ.env=pure [])(hx:sc.names.lookup x=some .local):LcOk Γ sc [] ml [] x:=
 ⟨hclos,fun _ _ h=>(by cases h),fE,fun _ h=>(by cases h),hx,rfl,fun _ _ _ h=>(by cases h)⟩
theorem LcOk.one{a:Str}{v:Sh}{p:Addr}(hclos:Gk sc Γ.env=pure [(a,p)])(hcl:Γ.env.cells.lookup a=some p)(hv:mL ml a=some v)(hk:∀C,(Cp sc [(a,p)] C Γ.env).kindOf a=some .cell)(hx:sc.names.lookup x=some .local)(hne:(x==a)=false):LcOk Γ sc [(a,p)] ml [(a,v)] x:=by
 have e:∀{β:Type} {y:Str} {u:β} {q:β},Gz y [(a,u)]=some q->y=a/\q=u:=fun {β y u q} h=>by
  rw[Bj] at h
  split at h
  ·rename_i z;cases h;exact⟨Pd z,rfl⟩
  ·cases h
 refine⟨hclos,fun y b h=>?_,lO hv fE,fun y h C=>?_,hx,?_,fun y sh h h2=>?_⟩
 ·obtain⟨rfl,rfl⟩:=e h;exact hcl
 ·cases Ax.mp h;rw[hk C];exact fun z=>by cases z
 ·rw[Bj,hne];rfl
 ·obtain⟨b,hb⟩:=Cv.mp h2;obtain⟨rfl,rfl⟩:=e hb;rw[hv] at h;cases h;show Gz _ _=_;rw[Bj,beq_self_eq_true]
theorem LcOk.two{a b:Str}{v:Sh}{p q:Addr}(hclos:Gk sc Γ.env=pure [(a,p),(b,q)])(hcl:Γ.env.cells.lookup a=some p)(hcl2:Γ.env.cells.lookup b=some q)(hv:mL ml a=some v)(hu:mL ml b=some u)
  (hk:∀C,(Cp sc [(a,p),(b,q)] C Γ.env).kindOf a=some .cell/\(Cp sc [(a,p),(b,q)] C Γ.env).kindOf b=some .cell)(hx:sc.names.lookup x=some .local)(hne:(x==a)=false/\(x==b)=false):LcOk Γ sc [(a,p),(b,q)] ml [(a,v),(b,u)] x:=by
 have e:∀{β:Type} {y:Str} {u v:β} {q:β},Gz y [(a,u),(b,v)]=some q->(y=a/\q=u)\/(y=b/\q=v):=fun {β y u v q} h=>by
  rw[Bj] at h
  split at h
  ·rename_i z;cases h;exact .inl ⟨Pd z,rfl⟩
  ·rw[Bj] at h
   split at h
   ·rename_i z;cases h;exact .inr ⟨Pd z,rfl⟩
   ·cases h
 refine⟨hclos,fun y b h=>?_,lO hv (lO hu fE),fun y h C=>?_,hx,?_,fun y sh h h2=>?_⟩
 ·rcases e h with⟨rfl,rfl⟩| ⟨rfl,rfl⟩
  ·exact hcl
  ·exact hcl2
 ·rcases An.mp h with rfl|h
  ·rw[(hk C).1];exact fun z=>by cases z
  ·cases Ax.mp h;rw[(hk C).2];exact fun z=>by cases z
 ·rw[Bj,hne.1,Bj,hne.2];rfl
 ·obtain⟨d,hd⟩:=Cv.mp h2;show Gz _ _=_;by_cases q1:y=a
  ·subst q1;rw[hv] at h;cases h;rw[Bj,beq_self_eq_true]
  ·rcases e hd with⟨rfl,_⟩| ⟨rfl,_⟩
   ·exact absurd rfl q1
   ·rw[hu] at h;cases h;rw[Bj,beq_eq_false_iff_ne.mpr q1,Bj,beq_self_eq_true]
theorem iD{α:Type}{xs:List α}(f y:α->Sh)(n:Lbl)(it:ItE Γ (.Name x px) (mL ml) σ iter σ1 K T F (xs.map f))(o:LcOk Γ sc cl ml mc x)(hK:K σ1)(hn:σ1 n=none)
  (h:∀a g C,a∈xs->EV (Γ.cmp sc cl C g (dom σ1) F) (mL ((x,f a)::mc)) σ1 (eval elt (Cp sc cl C Γ.env)) (y a) σ1)
  (hF:∀l,Γ.F l->F l)(hz:xs.length<=1000)(hkind:sc.kind = .function:=by rfl)(hcell:∀y∈sc.names,y.2≠.cell:=by decide +kernel)(hnames:∀y∈sc.names,y.2 = .local->sc.names.lookup y.1=some .local:=by decide +kernel)(hfold:∀v,Dd iter Γ.env v=pure v:=by exact fun _=>rfl):
  EV Γ (mL ml) σ (eval (.ListComp elt [⟨.Name x px,iter,[],0⟩] sc pos) Γ.env) (.ref n) (upd σ1 n (.list (xs.map y))):=
 wM n it (aFl f y hK h) (jV o.hcl o.hmc o.hmd hkind o.hx o.hxc o.hcm) hF (by simpa using hz) hn o.hclos hcell hnames hfold (Dom.refl _)
theorem aKs{α:Type}{xs:List α}(f y:α->Sh)(p:α->Bool)(n:Lbl)(it:ItE Γ (.Name x px) (mL ml) σ iter σ1 K T F (xs.map f))(o:LcOk Γ sc cl ml mc x)(hK:K σ1)(hn:σ1 n=none)
  (ht:∀a g C,a∈xs->EB (Γ.cmp sc cl C g (dom σ1) F) (mL ((x,f a)::mc)) σ1 (isTrue t (Cp sc cl C Γ.env) (eval t (Cp sc cl C Γ.env))) (p a) σ1)
  (h:∀a g C,a∈xs->p a=true->EV (Γ.cmp sc cl C g (dom σ1) F) (mL ((x,f a)::mc)) σ1 (eval elt (Cp sc cl C Γ.env)) (y a) σ1)
  (hF:∀l,Γ.F l->F l)(hz:xs.length<=1000)(hkind:sc.kind = .function:=by rfl)(hcell:∀y∈sc.names,y.2≠.cell:=by decide +kernel)(hnames:∀y∈sc.names,y.2 = .local->sc.names.lookup y.1=some .local:=by decide +kernel)(hfold:∀v,Dd iter Γ.env v=pure v:=by exact fun _=>rfl):
  EV Γ (mL ml) σ (eval (.ListComp elt [⟨.Name x px,iter,[t],0⟩] sc pos) Γ.env) (.ref n) (upd σ1 n (.list ((xs.filter p).map y))):=
 wM n it (vL f y p hK ht h) (jV o.hcl o.hmc o.hmd hkind o.hx o.hxc o.hcm) hF (by simpa using hz) hn o.hclos hcell hnames hfold (Dom.refl _)
noncomputable def uR{α Z:Type}(step:Z->α->Z)(y:Z->α->Sh):List α->Z->List Sh
 | [],_=>[]
 |a::r,z=>y z a::uR step y r (step z a)
theorem aGa{value:Aj}{k:Int}(h0:0<=k)(h1:k<b.length)(hz:b.length<=1000)
  (hs:∀o i:Value,Ih slice false o i=Jn [o,i] (Ma o i)):SubOk Γ ms σ value slice (.bytes b) (.int k) (.int ((b.getD k.toNat 0).toNat:Int)) σ:=
 ⟨Dom.refl σ,fun c s u v Q E a hs' i1 i2 q=>by
  obtain⟨t,rfl⟩:=i2.int_inv
  cases i1 with
  |bytes b t2=>
  refine tail_any (Ei s _ t2) FB.slot_bytes_getitem.lookup (getItem_bytes (by exact nle hz) h0 h1 ?_) (hs _ _);have:=q _ c (s.toks+1) (.int _ s.toks) a (Step.refl c);rwa[<-hs'] at this⟩
noncomputable def jC{Z:Type}(step:Z->Z):Nat->Z->Z
 |0,z=>z
 |n+1,z=>jC step n (step z)
theorem wX{Z:Type}(mst:Z->List (Str×Sh))(sg:Z->Sg)(p:Z->Bool)(step:Z->Z)(ht:∀z,EB Γ (mL (mst z)) (sg z) (isTrue test Γ.env (eval test Γ.env)) (p z) (sg z))
  (hb:∀z,p z=true->SS Γ (mL (mst z)) (sg z) (execs body Γ.env) .next (mL (mst (step z))) (sg (step z)))(n:Nat):∀(z:Z),p (jC step n z)=false->(∀k,k<n->p (jC step k z)=true)->Whiles Γ test body (mL (mst z)) (sg z) (mL (mst (jC step n z))) (sg (jC step n z)):=by
 induction n with
 |zero=>exact fun z h _=>.done (h▸ht z)
 |succ n ih=>
  intro z h h';have e:p z=true:=h' 0 (Nat.succ_pos _);have:=ht z;rw[e] at this;exact .go this (hb z e) (ih (step z) h fun k hk=>h' (k+1) (Nat.succ_lt_succ hk))
theorem dM{n:Int}(h0:EV Γ ms σ (eval fe Γ.env) (.con (.type "range")) σ)(h1:EV Γ ms σ (eval e Γ.env) (.int n) σ1)(b0 : -1000000<=n/\n<=1000000)(ok:iS [e]=true:=by exact Eo true)
  (hc:eval (.Call fe [e] [] pos) Γ.env=(do Gs pos (<-eval fe Γ.env) [] (Cc pos (Av [e] Γ.env)) (Ht pos (Fh [] Γ.env))):=by rfl):ItE Γ (.Name x px) ms σ (.Call fe [e] [] pos) σ1 (fun _=>True) noF noF ((upI 0 n).map .int):=
 aLf 0 n▸aBo h0 h1 b0.1 b0.2 ok hc
theorem aQh{α Z:Type}{xs:List α}(f:α->Sh)(mst:Z->List (Str×Sh))(sg:Z->Sg)(step:Z->α->Z)(Iv:Z->Prop)(z:Z)(it:ItE Γ (.Name x px) ms σ iter (sg z) K T F (xs.map f))(hm:ms=mL (mst z))(hz:Iv z)(hK:∀z,Iv z->K (sg z))(hI:∀z a,Iv z->a∈xs->Iv (step z a))
  (h:∀z a g,Iv z->a∈xs->SS (Γ.frz g (dom (sg z)) F) (mL ((x,f a)::mst z)) (sg z) (execs body Γ.env) .next (mL (mst (step z a))) (sg (step z a)))
  (henv:Γ.env.scope=s0)(hk':s0.names.lookup x=some .local)(hc:Γ.env.cells.lookup x=none)(hF:∀l,Γ.F l->F l)(hfold:∀v,Dd iter Γ.env v=pure v:=by exact fun _=>rfl):
  SS Γ ms σ (exec (.For (.Name x px) iter body [] pos) Γ.env) .next (mL (mst (xs.foldl step z))) (sg (xs.foldl step z)):=by
 subst hm;exact rU it (pT f mst sg step Iv hK hI h z hz) henv hk' hc hF hfold
end
end
inductive KC|arr|row|hsh
def KC.addr:KC->Addr
 | .arr=>391| .row=>434| .hsh=>582
def KC.name:KC->Str
 | .arr=>"array" | .row=>"rows" | .hsh=>"hash"
theorem aCx:ClsOk Γ 391:=⟨by k_is,fun _=>(by k_is:Og (Mine.hd.heap_1 Γ.w.params) 391 "x"=true)⟩
theorem aCw:ClsOk Γ 434:=⟨by k_is,fun _=>(by k_is:Og (Mine.hd.heap_1 Γ.w.params) 434 "x"=true)⟩
theorem aCv:ClsOk Γ 582:=⟨by k_is,fun _=>(by k_is:Og (Mine.hd.heap_1 Γ.w.params) 582 "x"=true)⟩
theorem aBb(k:KC):ClsOk Γ k.addr:=match k with| .arr=>aCx| .row=>aCw| .hsh=>aCv
theorem aNr(k:KC):Cq (Mine.hd.heap_1 P) (.ref k.addr) "kind"=some none:=by cases k <;> k_is
theorem aFu(k:KC):Cq (Mine.hd.heap_1 P) (.ref k.addr) "number"=some none:=by cases k <;> k_is
theorem wB(k:KC):Cq (Mine.hd.heap_1 P) (.ref k.addr) "key_width"=some none:=by cases k <;> k_is
theorem rK(k:KC):Cq (Mine.hd.heap_1 P) (.ref k.addr) "value_width"=some none:=by cases k <;> k_is
theorem aNq(k:KC):Cq (Mine.hd.heap_1 P) (.ref k.addr) "most"=some none:=by cases k <;> k_is
theorem aFt(k:KC):Cq (Mine.hd.heap_1 P) (.ref k.addr) "values"=some none:=by cases k <;> k_is
theorem uZ(k:KC):Cq (Mine.hd.heap_1 P) (.ref k.addr) "check_key"=some (some (.ref 136)):=by cases k <;> k_is
theorem qI(k:KC):Cq (Mine.hd.heap_1 P) (.ref k.addr) "check_value"=some (some (.ref 143)):=by cases k <;> k_is
def KC.lookup:KC->Addr| .arr=>354| .row=>354| .hsh=>484
theorem aEn(k:KC):Cq (Mine.hd.heap_1 P) (.ref k.addr) "lookup"=some (some (.ref k.lookup)):=by cases k <;> k_is
def KC.update:KC->Addr| .arr=>362| .row=>362| .hsh=>520
theorem aEm(k:KC):Cq (Mine.hd.heap_1 P) (.ref k.addr) "update"=some (some (.ref k.update)):=by cases k <;> k_is
theorem uY(k:KC):Cq (Mine.hd.heap_1 P) (.ref k.addr) "lookup_on"=some (some (.ref 166)):=by cases k <;> k_is
def KC.delete:KC->Addr| .arr=>369| .row=>369| .hsh=>541
theorem aEo(k:KC):Cq (Mine.hd.heap_1 P) (.ref k.addr) "delete"=some (some (.ref k.delete)):=by cases k <;> k_is
def KC.keys:KC->Addr| .arr=>374| .row=>374| .hsh=>546
theorem aLx(k:KC):Cq (Mine.hd.heap_1 P) (.ref k.addr) "keys"=some (some (.ref k.keys)):=by cases k <;> k_is
def KC.next_key:KC->Addr| .arr=>381| .row=>381| .hsh=>560
theorem xO(k:KC):Cq (Mine.hd.heap_1 P) (.ref k.addr) "next_key"=some (some (.ref k.next_key)):=by cases k <;> k_is
def KC.peer:KC->Addr| .arr=>346| .row=>346| .hsh=>476
theorem aLw(k:KC):Cq (Mine.hd.heap_1 P) (.ref k.addr) "peer"=some (some (.ref k.peer)):=by cases k <;> k_is
theorem aHl(k:KC):Cq (Mine.hd.heap_1 P) (.ref k.addr) "value"=some (some (.ref 229)):=by cases k <;> k_is
theorem xN(k:KC):Cq (Mine.hd.heap_1 P) (.ref k.addr) "place_of"=some (some (.ref 250)):=by cases k <;> k_is
theorem aAd(k:KC):Cq (Mine.hd.heap_1 P) (.ref k.addr) "slot_at"=some (some (.ref 257)):=by cases k <;> k_is
theorem aPc(k:KC):Cq (Mine.hd.heap_1 P) (.ref k.addr) "lay"=some (some (.ref 264)):=by cases k <;> k_is
def KC.twin:KC->Addr| .arr=>388| .row=>431| .hsh=>567
theorem aLt(k:KC):Cq (Mine.hd.heap_1 P) (.ref k.addr) "twin"=some (some (.ref k.twin)):=by cases k <;> k_is
def KC.copy:KC->Addr| .arr=>285| .row=>285| .hsh=>572
theorem aLy(k:KC):Cq (Mine.hd.heap_1 P) (.ref k.addr) "copy"=some (some (.ref k.copy)):=by cases k <;> k_is
def KC.parts:KC->Addr| .arr=>290| .row=>424| .hsh=>290
theorem aHm(k:KC):Cq (Mine.hd.heap_1 P) (.ref k.addr) "parts"=some (some (.ref k.parts)):=by cases k <;> k_is
theorem aLu(k:KC):Cq (Mine.hd.heap_1 P) (.ref k.addr) "told"=some (some (.ref 297)):=by cases k <;> k_is
theorem pX:StoreOk Γ 582 "buckets":=⟨by k_is,by k_is,by k_is,by k_is⟩
theorem kL:StoreOk Γ 582 "key_by_slot":=⟨by k_is,by k_is,by k_is,by k_is⟩
theorem aLk(k:KC):StoreOk Γ k.addr "kind":=by cases k <;> exact⟨by k_is,by k_is,by k_is,by k_is⟩
theorem aEd(k:KC):StoreOk Γ k.addr "number":=by cases k <;> exact⟨by k_is,by k_is,by k_is,by k_is⟩
theorem uM(k:KC):StoreOk Γ k.addr "key_width":=by cases k <;> exact⟨by k_is,by k_is,by k_is,by k_is⟩
theorem pW(k:KC):StoreOk Γ k.addr "value_width":=by cases k <;> exact⟨by k_is,by k_is,by k_is,by k_is⟩
theorem aLj(k:KC):StoreOk Γ k.addr "most":=by cases k <;> exact⟨by k_is,by k_is,by k_is,by k_is⟩
theorem aEc(k:KC):StoreOk Γ k.addr "values":=by cases k <;> exact⟨by k_is,by k_is,by k_is,by k_is⟩
structure Gn where
 (g h:Int)
noncomputable abbrev lI(g:Gn):Lbl:=(1,g.g)
noncomputable abbrev lD(g:Gn):Lbl:=(2,g.g)
noncomputable abbrev lV(g:Gn):Lbl:=(3,g.h)
noncomputable abbrev lK(g:Gn):Lbl:=(4,g.g)
noncomputable abbrev lB(g:Gn):Lbl:=(5,g.h)
noncomputable abbrev lb(g:Gn)(i:Int):Lbl:=(6,1000*g.h+i)
noncomputable abbrev lo(g:Gn)(s:Int):Lbl:=(7,1000*g.h+s)
structure MC where
 (k:KC)(num kw vw most:Int)
noncomputable def ext(k:KC)(g:Gn):List (Str×Sh):=match k with
 | .hsh=>[("buckets",.ref (lB g)),("key_by_slot",.ref (lK g))]
 |_=>[]
noncomputable def kvs(m:MC)(g:Gn):List (Str×Sh):=("kind",.str m.k.name)::("number",.int m.num)::("key_width",.int m.kw)::("value_width",.int m.vw)::("most",.int m.most)::("values",.ref (lV g))::ext m.k g
section
variable{m:MC}{g:Gn}
theorem aNh:aY (kvs m g) "kind"=some (.str m.k.name):=rfl
theorem aFi:aY (kvs m g) "number"=some (.int m.num):=rfl
theorem vI:aY (kvs m g) "key_width"=some (.int m.kw):=rfl
theorem rB:aY (kvs m g) "value_width"=some (.int m.vw):=rfl
theorem aNg:aY (kvs m g) "most"=some (.int m.most):=rfl
theorem aFh:aY (kvs m g) "values"=some (.ref (lV g)):=rfl
theorem aAx(h:m.k = .hsh):aY (kvs m g) "buckets"=some (.ref (lB g)):=by unfold kvs;rw[h];rfl
theorem rC(h:m.k = .hsh):aY (kvs m g) "key_by_slot"=some (.ref (lK g)):=by unfold kvs;rw[h];rfl
theorem vG:aY (kvs m g) "check_key"=none:=by unfold kvs;cases m.k <;> rfl
theorem qY:aY (kvs m g) "check_value"=none:=by unfold kvs;cases m.k <;> rfl
theorem aFc:aY (kvs m g) "lookup"=none:=by unfold kvs;cases m.k <;> rfl
theorem aFa:aY (kvs m g) "update"=none:=by unfold kvs;cases m.k <;> rfl
theorem vE:aY (kvs m g) "lookup_on"=none:=by unfold kvs;cases m.k <;> rfl
theorem aFd:aY (kvs m g) "delete"=none:=by unfold kvs;cases m.k <;> rfl
theorem aNe:aY (kvs m g) "keys"=none:=by unfold kvs;cases m.k <;> rfl
theorem yK:aY (kvs m g) "next_key"=none:=by unfold kvs;cases m.k <;> rfl
theorem aNc:aY (kvs m g) "peer"=none:=by unfold kvs;cases m.k <;> rfl
theorem aIo:aY (kvs m g) "value"=none:=by unfold kvs;cases m.k <;> rfl
theorem sV:aY (kvs m g) "slot_count"=none:=by unfold kvs;cases m.k <;> rfl
theorem yJ:aY (kvs m g) "place_of"=none:=by unfold kvs;cases m.k <;> rfl
theorem aAw:aY (kvs m g) "slot_at"=none:=by unfold kvs;cases m.k <;> rfl
theorem aPr:aY (kvs m g) "lay"=none:=by unfold kvs;cases m.k <;> rfl
theorem aMy:aY (kvs m g) "twin"=none:=by unfold kvs;cases m.k <;> rfl
theorem aNf:aY (kvs m g) "copy"=none:=by unfold kvs;cases m.k <;> rfl
theorem aIp:aY (kvs m g) "parts"=none:=by unfold kvs;cases m.k <;> rfl
theorem aMz:aY (kvs m g) "told"=none:=by unfold kvs;cases m.k <;> rfl
theorem aIq:aY (kvs m g) "index"=none:=by unfold kvs;cases m.k <;> rfl
theorem aNa:aY (kvs m g) "slot"=none:=by unfold kvs;cases m.k <;> rfl
theorem aPq:aY (kvs m g) "row"=none:=by unfold kvs;cases m.k <;> rfl
theorem aFe:aY (kvs m g) "bucket"=none:=by unfold kvs;cases m.k <;> rfl
theorem aMx:aY (kvs m g) "used"=none:=by unfold kvs;cases m.k <;> rfl
theorem vF:aY (kvs m g) "free_slot"=none:=by unfold kvs;cases m.k <;> rfl
theorem aNb:aY (kvs m g) "room"=none:=by unfold kvs;cases m.k <;> rfl
theorem aNd:aY (kvs m g) "link"=none:=by unfold kvs;cases m.k <;> rfl
theorem aFb:aY (kvs m g) "unlink"=none:=by unfold kvs;cases m.k <;> rfl
theorem yL:aY (kvs m g) "in_order"=none:=by unfold kvs;cases m.k <;> rfl
end
structure MapB(σ:Sg)(g:Gn)(m:MC)(vals:List (Int×List UInt8)):Prop where
 hi:σ (lI g)=some (.inst m.k.addr (lD g))
 hd:σ (lD g)=some (.sdict (kvs m g))
 hv:σ (lV g)=some (.idict (vals.map fun p=>(p.1,.ref (lo g p.1))))
 ho:∀p∈vals,σ (lo g p.1)=some (.ba p.2)
 rg:∀p∈vals,0<=p.1/\p.1<100
 nd:(vals.map (·.1)).Nodup
section
open PySem.SeqAt
section
variable{n:Lbl}{value:Aj}
theorem aFz{kvs:List (Int×Sh)}{k:Int}(hl:σ l=some (.idict kvs))(hk:aY kvs k=some z)(hs:∀o i:Value,Ih slice false o i=Jn [o,i] (Ma o i)):SubOk Γ ms σ value slice (.ref l) (.int k) z σ:=zC dkI hl hk hs
theorem aFy{kvs:List (Str×Sh)}{k:Str}(hl:σ l=some (.sdict kvs))(hk:aY kvs k=some z)(hs:∀o i:Value,Ih slice false o i=Jn [o,i] (Ma o i)):SubOk Γ ms σ value slice (.ref l) (.str k) z σ:=zC dkS hl hk hs
theorem wR{kvs:List (Int×Sh)}{k:Int}(hl:σ l=some (.idict kvs)):CmpOk Γ ms σ .In (.int k) (.ref l) (aY kvs k).isSome:=zG dkI hl
theorem pA{kvs:List (Int×Sh)}{k:Int}(hl:σ l=some (.idict kvs)):CmpOk Γ ms σ .NotIn (.int k) (.ref l) (!(aY kvs k).isSome):=sF dkI hl
theorem uH{kvs:List (Int×Sh)}{k:Int}(hl:σ l=some (.idict kvs))(hz:kvs.length<=1000)(hF:¬Γ.F l):SetOk Γ ms σ (.ref l) (.int k) z (upd σ l (.idict (bW kvs k z))):=rS dkI hl hz hF
theorem cV{kvs:List (Str×Sh)}{k:Str}(hl:σ l=some (.sdict kvs))(hz:kvs.length<=1000)(hF:¬Γ.F l):SetOk Γ ms σ (.ref l) (.str k) z (upd σ l (.sdict (bW kvs k z))):=rS dkS hl hz hF
theorem aGb{kvs:List (List UInt8×Sh)}{k:List UInt8}(hl:σ l=some (.bdict kvs))(hz:kvs.length<=1000)(hF:¬Γ.F l):SetOk Γ ms σ (.ref l) (.bytes k) z (upd σ l (.bdict (bW kvs k z))):=rS dkB hl hz hF
theorem sJ{kvs:List (List UInt8×Sh)}(hl:σ l=some (.bdict kvs))(hz:kvs.length<=1000):CallOk Γ ms σ (.builtin "len") [.ref l] (.int kvs.length) σ:=tE dkB hl hz
theorem aBx{kvs:List (List UInt8×Sh)}{k:List UInt8}(hl:σ l=some (.bdict kvs)):CallOk Γ ms σ (.builtin "dict.get") [.ref l,.bytes k] ((aY kvs k).getD .none) σ:=aLa dkB hl
theorem aMj{k:Int}(h:Is σ c (dkI.sh k) v):(keyPart v).isSome=true:=by cases h;rfl
theorem tQ{k:List UInt8}(h:Is σ c (dkB.sh k) v):(keyPart v).isSome=true:=by cases h;rfl
theorem aBu{kvs:List (Int×Sh)}{k:Int}(hl:σ l=some (.idict kvs))(hk:aY kvs k=some z)(hz:kvs.length<=1000)(hF:¬Γ.F l):CallOk Γ ms σ (.builtin "dict.pop") [.ref l,.int k] z (upd σ l (.idict (vJ kvs k))):=
 zK dkI aMj hl hk hz hF [] (.inl rfl)
theorem aBv{kvs:List (List UInt8×Sh)}{k:List UInt8}(hl:σ l=some (.bdict kvs))(hk:aY kvs k=some z)(hz:kvs.length<=1000)(hF:¬Γ.F l):CallOk Γ ms σ (.builtin "dict.pop") [.ref l,.bytes k,.none] z (upd σ l (.bdict (vJ kvs k))):=
 zK dkB tQ hl hk hz hF [.none] (.inr rfl)
theorem zJ{kvs:List (List UInt8×Sh)}{k:List UInt8}(hl:σ l=some (.bdict kvs))(hk:aY kvs k=none):CallOk Γ ms σ (.builtin "dict.pop") [.ref l,.bytes k,.none] .none σ:=nT dkB tQ hl hk
theorem aCf{k:Int}(h:(dkI.knd w).is k v=true):Is σ c (dkI.sh k) v:=by
 obtain⟨t,rfl⟩:=Value.isInt_shape h;exact .int _ t
theorem aBm{kvs:List (Int×Sh)}(hl:σ l=some (.idict kvs)):IterOk Γ (.Name x px) ms σ (.ref l) (fun σ=>σ l≠none) (fun y=>y=l) (fun y=>y=l) (kvs.map fun p=>.int p.1):=aGg dkI aCf hl
theorem rA{K α:Type}[DecidableEq K](f:K×α->Sh)(l:List (K×α))(k:K):aY (l.map fun p=>(p.1,f p)) k=(l.find? fun p=>p.1=k).map f:=by
 induction l with
 |nil=>rfl
 |cons a l ih=>
  unfold aY at*;rw[Dh];by_cases h:a.1=k
  ·rw[Ga (by simpa using h),Ga (by simpa using h)];rfl
  ·rw[Ex (by simpa using h),Ex (by simpa using h)];exact ih
noncomputable def aL{K α:Type}[DecidableEq K](l:List (K×α))(k:K):Option α:=(l.find? fun p=>p.1=k).map (·.2)
noncomputable def vput{K α:Type}[DecidableEq K](l:List (K×α))(k:K)(x:α):List (K×α):=if(aL l k).isSome then l.map (fun p=>if p.1=k then(p.1,x) else p) else l++[(k,x)]
noncomputable def jX{K α:Type}[DecidableEq K](l:List (K×α))(k:K):List (K×α):=l.filter fun p=>decide (p.1≠k)
theorem bL{K α:Type}[DecidableEq K]{l:List (K×α)}{k:K}{x:α}(h:aL l k=some x):(k,x)∈l:=by
 obtain⟨p,hp,rfl⟩:=Dn.mp h;have:p.1=k:=by simpa using(Cr hp)
 subst this;exact(By hp)
theorem aCr{K α:Type}[DecidableEq K]{l:List (K×α)}{k:K}{x:α}(h:aL l k=some x):(l.find? fun p=>p.1=k)=some (k,x):=by
 unfold aL at h;obtain⟨p,hp,rfl⟩:=Dn.mp h;have:p.1=k:=by simpa using(Cr hp)
 subst this;exact hp
theorem tV{K α:Type}[DecidableEq K]{l:List (K×α)}{k:K}(h:aL l k=none):(l.find? fun p=>p.1=k)=none:=Ka.mp h
theorem cA{K α:Type}[DecidableEq K]{l:List (K×α)}{k:K}:aL l k=none↔k∉l.map (·.1):=by
 unfold aL;rw[Ka,Dm];constructor
 ·intro h hm;obtain⟨p,hp,rfl⟩:=Aq.mp hm;exact h p hp (by simp)
 ·intro h p hp e;exact h (Aq.mpr ⟨p,hp,by simpa using e⟩)
theorem bP{K α:Type}[DecidableEq K]{l:List (K×α)}{k:K}{x:α}(nd:(l.map (·.1)).Nodup)(h:(k,x)∈l):aL l k=some x:=by
 cases e:aL l k with
 |none=>exact absurd (Aq.mpr ⟨_,h,rfl⟩) (cA.mp e)
 |some y=>
  have h2:=bL e;clear e
  induction l with
  |nil=>cases h
  |cons a l ih=>
   rw[Dh,Mw] at nd;rcases An.mp h with e1|h'
   ·rcases An.mp h2 with e2|h2'
    ·rw[<-e1] at e2;cases e2;rfl
    ·rw[<-e1] at nd;exact absurd (show k∈l.map (·.1) from Aq.mpr ⟨(k,y),h2',rfl⟩) nd.1
   ·rcases An.mp h2 with e2|h2'
    ·rw[<-e2] at nd;exact absurd (show k∈l.map (·.1) from Aq.mpr ⟨(k,x),h',rfl⟩) nd.1
    ·exact ih nd.2 h' h2'
theorem dgm{K α:Type}[DecidableEq K]{f:K×α->Sh}{l:List (K×α)}{k:K}{x:α}(h:aL l k=some x):aY (l.map fun p=>(p.1,f p)) k=some (f (k,x)):=by rw[rA,aCr h];rfl
theorem aWo{K α:Type}[DecidableEq K]{f:K×α->Sh}{l:List (K×α)}{k:K}(h:aL l k=none):aY (l.map fun p=>(p.1,f p)) k=none:=by rw[rA,tV h];rfl
theorem vH{K α:Type}[DecidableEq K]{f:K×α->Sh}{l:List (K×α)}{k:K}:(aY (l.map fun p=>(p.1,f p)) k).isSome=(aL l k).isSome:=by rw[rA];unfold aL;simp
theorem dpm{K α:Type}[DecidableEq K]{f:K×α->Sh}{l:List (K×α)}{k:K}{x:α}(h:aL l k=none):bW (l.map fun p=>(p.1,f p)) k (f (k,x))=(vput l k x).map fun p=>(p.1,f p):=by
 have e:(l.map fun p=>(p.1,f p)).any (fun kv=>decide (kv.1=k))=false:=by
  rw[List.any_eq_false];intro p hp;obtain⟨q,hq,rfl⟩:=Aq.mp hp;intro z;exact cA.mp h (Aq.mpr ⟨q,hq,by simpa using z⟩)
 unfold bW vput;rw[e,h];simp
theorem ddm{K α:Type}[DecidableEq K]{f:K×α->Sh}{l:List (K×α)}{k:K}:vJ (l.map fun p=>(p.1,f p)) k=(jX l k).map fun p=>(p.1,f p):=by
 unfold vJ jX;rw[List.filter_map];rfl
theorem aQf{p r:Str}{v:Sh}{k:Nat}(h:EV Γ (mL ml) σ (eval e Γ.env) (.tup [u,v,y]) σ1)(henv:Γ.env.scope=sc)(hp:sc.names.lookup p=some .local)(hq:sc.names.lookup q=some .local)(hr:sc.names.lookup r=some .local)
  (cp:Γ.env.cells.lookup p=none)(cq:Γ.env.cells.lookup q=none)(cr:Γ.env.cells.lookup r=none)(hs:Gb e (some (.Tuple [.Name p p1,.Name q p2,.Name r p3] k px)) pos.line Γ.env=pure false)(hw:Kk [.Tuple [.Name p p1,.Name q p2,.Name r p3] k px] e Γ.env=pure none)
  (ht:Fv [.Tuple [.Name p p1,.Name q p2,.Name r p3] k px] Γ.env=[(false,Hm (.Tuple [.Name p p1,.Name q p2,.Name r p3] k px) Γ.env)])
  (h3:Fv [.Name p p1,.Name q p2,.Name r p3] Γ.env=[(false,Hm (.Name p p1) Γ.env),(false,Hm (.Name q p2) Γ.env),(false,Hm (.Name r p3) Γ.env)])(h2:Fv [.Name q p2,.Name r p3] Γ.env=[(false,Hm (.Name q p2) Γ.env),(false,Hm (.Name r p3) Γ.env)])(h1:Fv [.Name r p3] Γ.env=[(false,Hm (.Name r p3) Γ.env)])(h0:Fv [] Γ.env=[]):
  SS Γ (mL ml) σ (exec (.Assign [.Tuple [.Name p p1,.Name q p2,.Name r p3] k px] e pos) Γ.env) .next (mL ((r,y)::(q,v)::(p,u)::ml)) σ1:=
 dK h (jS (dP (jW henv hp cp) (dP (jW henv hq cq) (dP (jW henv hr cr) mU (by rw[h1,h0])) (by rw[h2,h1])) (by rw[h3,h2])) (by rw[h3];rfl) (by rw[h3];rfl)) hs hw ht
end
section
variable{n:Nat}{name:Str}{an od:Option Addr}{osl:Array (Option Value)}{f:Addr}
theorem gK(D:Dom σ σ')
  (ho:(Mine.hd.heap_1 w.params).lookup f=some ⟨oc,od,.func (fnOf name qual params body scope dV kV doc pm an cdv ct),osl⟩)(hcd:Ms (Mine.hd.heap_1 w.params) cdv qual=true)
  (names:List Str)(ms:List (Str×Sh))(hms:(names.zip args).reverse=ms)
  (hbind:∀s vs,vs.length=args.length->Ll s (fnOf name qual params body scope dV kV doc pm an cdv ct) ⟨vs,[]⟩ (names.zip vs))
  (h:∀(A:Ez) (base:Heap) (outer:List Env) (g:Heap) (mg mb:Str->Option Value) (L:Addr),∃ms',SS ⟨w,A.deeper (envOf qual scope L f cdv),base,envOf qual scope L f cdv::outer,g,eH base L,mg,mb,n,L,envOf qual scope L f cdv,dom σ,noF⟩ (mL ms) σ (execs body (envOf qual scope L f cdv)) .next ms' σ')
  (ok:yH scope names=true:=by exact Eo true):FN w (n+1) (.ref f) args σ .none σ':=aBp (fl:=.next) D ho hcd hms (fun s vs _=>hbind s vs) h ok
end
end
section
open PySem.SeqAt
def KC.slotF:KC->Addr
 | .arr=>339| .row=>414| .hsh=>0
noncomputable def eS(k:KC)(i p:Int):Int:=match k with
 | .row=>i*4+p|_=>i
section
variable{k:KC}
theorem aHn(h:k≠.hsh):Cq (Mine.hd.heap_1 P) (.ref k.addr) "index"=some (some (.ref 332)):=by cases k with|hsh=>exact absurd rfl h|_=>k_is
theorem aLv(h:k≠.hsh):Cq (Mine.hd.heap_1 P) (.ref k.addr) "slot"=some (some (.ref k.slotF)):=by cases k with|hsh=>exact absurd rfl h|_=>k_is
theorem aIe(h:k≠.hsh):isFn (Mine.hd.heap_1 P) (.ref k.slotF)=true:=by cases k with|hsh=>exact absurd rfl h|_=>k_is
theorem aHq(h:k≠.hsh):Keeps Γ (.ref k.slotF):=by cases k with|hsh=>exact absurd rfl h|_=>exact Keeps.K (by k_is)
theorem aMp:isFn (Mine.hd.heap_1 P) (.ref k.peer)=true:=by cases k <;> k_is
theorem aMg:Keeps Γ (.ref k.peer):=Keeps.K (by cases k <;> k_is)
theorem iA:isFn (Mine.hd.heap_1 P) (.ref k.lookup)=true:=by cases k <;> k_is
theorem gY:Keeps Γ (.ref k.lookup):=Keeps.K (by cases k <;> k_is)
theorem aIf:isFn (Mine.hd.heap_1 P) (.ref k.parts)=true:=by cases k <;> k_is
theorem aHr:Keeps Γ (.ref k.parts):=Keeps.K (by cases k <;> k_is)
theorem aMq:isFn (Mine.hd.heap_1 P) (.ref k.keys)=true:=by cases k <;> k_is
theorem aMh:Keeps Γ (.ref k.keys):=Keeps.K (by cases k <;> k_is)
theorem aMo:isFn (Mine.hd.heap_1 P) (.ref k.twin)=true:=by cases k <;> k_is
theorem aMf:Keeps Γ (.ref k.twin):=Keeps.K (by cases k <;> k_is)
end
end
section
open PySem.SeqAt
section
variable{args:List Aj}
theorem sA(h0:EV Γ ms σ (eval o Γ.env) (.ref l) σ1)(hl:σ1 l=some (.list xs))(h1:EL Γ ms σ1 (Co (Cc pos (Av args Γ.env))) shs σ2)(h2:CallOk Γ ms σ2 (.builtin "list.append") (.ref l::shs) z σ3)
  (hb:Cd o "append" Γ.env (eval o Γ.env)=eval o Γ.env:=by rfl)(ok:cR args apos pos=true:=by exact Eo true):EV Γ ms σ (eval (.Call (.Attribute o "append" apos) args [] pos) Γ.env) z σ3:=
 fK h0 (TyS.list hl) Fp PySem.F.slot_list_append PySem.F.type_list_append h1 h2 hb ok
theorem aBq(h0:EV Γ ms σ (eval o Γ.env) (.ref l) σ1)(hl:σ1 l=some (.list xs))(h1:EL Γ ms σ1 (Co (Cc pos (Av args Γ.env))) shs σ2)(h2:CallOk Γ ms σ2 (.builtin "list.insert") (.ref l::shs) z σ3)
  (hb:Cd o "insert" Γ.env (eval o Γ.env)=eval o Γ.env:=by rfl)(ok:cR args apos pos=true:=by exact Eo true):EV Γ ms σ (eval (.Call (.Attribute o "insert" apos) args [] pos) Γ.env) z σ3:=
 fK h0 (TyS.list hl) Fp PySem.F.slot_list_insert PySem.F.type_list_insert h1 h2 hb ok
theorem rZ(h0:EV Γ ms σ (eval o Γ.env) (.ref l) σ1)(hl:σ1 l=some (.list xs))(h1:EL Γ ms σ1 (Co (Cc pos (Av args Γ.env))) shs σ2)(h2:CallOk Γ ms σ2 (.builtin "list.extend") (.ref l::shs) z σ3)
  (hb:Cd o "extend" Γ.env (eval o Γ.env)=eval o Γ.env:=by rfl)(ok:cR args apos pos=true:=by exact Eo true):EV Γ ms σ (eval (.Call (.Attribute o "extend" apos) args [] pos) Γ.env) z σ3:=
 fK h0 (TyS.list hl) Fp PySem.F.slot_list_extend PySem.F.type_list_extend h1 h2 hb ok
theorem aGi(h0:EV Γ ms σ (eval o Γ.env) (.ref l) σ1)(hl:σ1 l=some (.list xs))(h1:EL Γ ms σ1 (Co (Cc pos (Av args Γ.env))) shs σ2)(h2:CallOk Γ ms σ2 (.builtin "list.index") (.ref l::shs) z σ3)
  (hb:Cd o "index" Γ.env (eval o Γ.env)=eval o Γ.env:=by rfl)(ok:cR args apos pos=true:=by exact Eo true):EV Γ ms σ (eval (.Call (.Attribute o "index" apos) args [] pos) Γ.env) z σ3:=
 fK h0 (TyS.list hl) Fp PySem.F.slot_list_index PySem.F.type_list_index h1 h2 hb ok
theorem rY(h0:EV Γ ms σ (eval o Γ.env) (.ref l) σ1)(hl:σ1 l=some (.list xs))(h1:EL Γ ms σ1 (Co (Cc pos (Av args Γ.env))) shs σ2)(h2:CallOk Γ ms σ2 (.builtin "list.remove") (.ref l::shs) z σ3)
  (hb:Cd o "remove" Γ.env (eval o Γ.env)=eval o Γ.env:=by rfl)(ok:cR args apos pos=true:=by exact Eo true):EV Γ ms σ (eval (.Call (.Attribute o "remove" apos) args [] pos) Γ.env) z σ3:=
 fK h0 (TyS.list hl) Fp PySem.F.slot_list_remove PySem.F.type_list_remove h1 h2 hb ok
theorem aOd{kvs:List (List UInt8×Sh)}(h0:EV Γ ms σ (eval o Γ.env) (.ref l) σ1)(hl:σ1 l=some (.bdict kvs))(h1:EL Γ ms σ1 (Co (Cc pos (Av args Γ.env))) shs σ2)(h2:CallOk Γ ms σ2 (.builtin "dict.get") (.ref l::shs) z σ3)
  (hb:Cd o "get" Γ.env (eval o Γ.env)=eval o Γ.env:=by rfl)(ok:cR args apos pos=true:=by exact Eo true):EV Γ ms σ (eval (.Call (.Attribute o "get" apos) args [] pos) Γ.env) z σ3:=
 fK h0 (TyS.dict dkB hl) Fq PySem.F.slot_dict_get PySem.F.type_dict_get h1 h2 hb ok
theorem aDm{kvs:List (List UInt8×Sh)}(h0:EV Γ ms σ (eval o Γ.env) (.ref l) σ1)(hl:σ1 l=some (.bdict kvs))(h1:EL Γ ms σ1 (Co (Cc pos (Av args Γ.env))) shs σ2)(h2:CallOk Γ ms σ2 (.builtin "dict.pop") (.ref l::shs) z σ3)
  (hb:Cd o "pop" Γ.env (eval o Γ.env)=eval o Γ.env:=by rfl)(ok:cR args apos pos=true:=by exact Eo true):EV Γ ms σ (eval (.Call (.Attribute o "pop" apos) args [] pos) Γ.env) z σ3:=
 fK h0 (TyS.dict dkB hl) Fq Hv PySem.F.type_dict_pop h1 h2 hb ok
theorem aOb{kvs:List (Int×Sh)}(h0:EV Γ ms σ (eval o Γ.env) (.ref l) σ1)(hl:σ1 l=some (.idict kvs))(h1:EL Γ ms σ1 (Co (Cc pos (Av args Γ.env))) shs σ2)(h2:CallOk Γ ms σ2 (.builtin "dict.pop") (.ref l::shs) z σ3)
  (hb:Cd o "pop" Γ.env (eval o Γ.env)=eval o Γ.env:=by rfl)(ok:cR args apos pos=true:=by exact Eo true):EV Γ ms σ (eval (.Call (.Attribute o "pop" apos) args [] pos) Γ.env) z σ3:=
 fK h0 (TyS.dict dkI hl) Fq Hv PySem.F.type_dict_pop h1 h2 hb ok
end
end
section
open PySem.SeqAt
theorem FN.up{n':Nat}{x:Sh}(S:FN w n f args σ x σ')(h:n<=n'):FN w n' f args σ x σ':=
 ⟨S.dom,fun A base outer g mg mb c s vs R C=>S.run A base outer g mg mb c s vs R ⟨C.B,C.fd,C.X,C.T,by have:=C.hd;exact z40 h this,by have:=C.hu;exact z41 h this,C.hh⟩⟩
section
variable{K:Sg->Prop}{T:Lbl->Prop}
theorem aDw{α:Type}(f:α->Sh)(p:α->Bool){a:α}(hK:K σ){xs:List α}(hf:xs.find? p=some a)
  (hno:∀b g,b∈xs->p b=false->SS (Γ.frz g (dom σ) F) (mL ((x,f b)::ml)) σ (execs body Γ.env) .next (mL ml) σ)
  (hyes:∀g,SS (Γ.frz g (dom σ) F) (mL ((x,f a)::ml)) σ (execs body Γ.env) (.ret y) ms2 σ2):Turns Γ K F body (nm x) (xs.map f) (mL ml) σ (.ret y) ms2 σ2:=by
 induction xs with
 |nil=>cases hf
 |cons b xs ih=>
  rw[List.find?_cons] at hf
  split at hf
  ·cases hf;refine .ret hK fun g=>?_;have:=hyes g;rw[<-bR] at this;exact this
  ·rename_i hb;refine .cons hK (fun g=>?_) (ih hf fun c g hc=>hno c g (.tail _ hc));have:=hno b g (.head _) hb;rw[<-bR] at this;exact this
theorem zS{α:Type}(f:α->Sh)(hK:K σ){xs:List α}(hno:∀b g,b∈xs->SS (Γ.frz g (dom σ) F) (mL ((x,f b)::ml)) σ (execs body Γ.env) .next (mL ml) σ):Turns Γ K F body (nm x) (xs.map f) (mL ml) σ .next (mL ml) σ:=by
 induction xs with
 |nil=>exact .nil hK
 |cons b xs ih=>
  refine .cons hK (fun g=>?_) (ih fun c g hc=>hno c g (.tail _ hc));have:=hno b g (.head _);rw[<-bR] at this;exact this
theorem uI{α:Type}{xs:List α}(f:α->Sh)(p:α->Bool){a:α}(hf:xs.find? p=some a)(it:ItE Γ (.Name x px) (mL ml) σ iter σ1 K T F (xs.map f))(hK:K σ1)
  (hno:∀b g,b∈xs->p b=false->SS (Γ.frz g (dom σ1) F) (mL ((x,f b)::ml)) σ1 (execs body Γ.env) .next (mL ml) σ1)
  (hyes:∀g,SS (Γ.frz g (dom σ1) F) (mL ((x,f a)::ml)) σ1 (execs body Γ.env) (.ret y) ms2 σ2)
  (henv:Γ.env.scope=s0)(hk':s0.names.lookup x=some .local)(hc:Γ.env.cells.lookup x=none)(hF:∀l,Γ.F l->F l)(hfold:∀v,Dd iter Γ.env v=pure v:=by exact fun _=>rfl):
  SS Γ (mL ml) σ (exec (.For (.Name x px) iter body [] pos) Γ.env) (.ret y) ms2 σ2:=rU it (aDw f p hK hf hno hyes) henv hk' hc hF hfold
theorem rT{α:Type}{xs:List α}(f:α->Sh)(it:ItE Γ (.Name x px) (mL ml) σ iter σ1 K T F (xs.map f))(hK:K σ1)
  (hno:∀b g,b∈xs->SS (Γ.frz g (dom σ1) F) (mL ((x,f b)::ml)) σ1 (execs body Γ.env) .next (mL ml) σ1)
  (henv:Γ.env.scope=s0)(hk':s0.names.lookup x=some .local)(hc:Γ.env.cells.lookup x=none)(hF:∀l,Γ.F l->F l)(hfold:∀v,Dd iter Γ.env v=pure v:=by exact fun _=>rfl):
  SS Γ (mL ml) σ (exec (.For (.Name x px) iter body [] pos) Γ.env) .next (mL ml) σ1:=rU it (zS f hK hno) henv hk' hc hF hfold
end
theorem aJe(x:Int):Kl x 0=0:=by cases x <;> simp[Kl]
theorem aJj{n:Int}(x:Int)(h:n=1\/n=2\/n=4\/n=8):Kl x (n-1)=x % n:=by
 rcases h with rfl|rfl|rfl|rfl
 ·rw[show(1:Int)-1=0 by decide,aJe];exact z42
 ·exact bitAnd_m1 x
 ·exact bitAnd_m2 x
 ·exact bitAnd_m3 x
structure MapH(σ:Sg)(g:Gn)(m:MC)(vals kbs:List (Int×List UInt8))(bks:List (List Int)):Prop extends MapB σ g m vals where
 kh:m.k = .hsh
 hK:σ (lK g)=some (.idict (kbs.map fun p=>(p.1,.bytes p.2)))
 hB:σ (lB g)=some (.list ((upI 0 bks.length).map fun i=>.ref (lb g i)))
 hbk:∀(i:Int) l,0<=i->bks[i.toNat]? = some l->σ (lb g i)=some (.list (l.map .int))
 len:bks.length=1\/bks.length=2\/bks.length=4\/bks.length=8
theorem MapH.hi2{g:Gn}{m:MC}{bks:List (List Int)}(M:MapH σ g m vals kbs bks):σ (lI g)=some (.inst 582 (lD g)):=by
 have:=M.hi;rw[M.kh] at this;exact this
end
section
open PySem.SeqAt
noncomputable def own(g:Gn)(l:Lbl):Prop:=((l.1=1\/l.1=2\/l.1=4)/\l.2=g.g)\/((l.1=3\/l.1=5)/\l.2=g.h)\/((l.1=6\/l.1=7)/\1000*g.h<=l.2/\l.2<1000*g.h+1000)
noncomputable def Only(g:Gn)(σ σ':Sg):Prop:=∀l,¬own g l->σ' l=σ l
section
variable{g:Gn}{m:MC}{bks:List (List Int)}{o:Ob}
theorem Only.refl:Only g σ σ:=fun _ _=>rfl
theorem Only.trans(a:Only g σ σ1)(b:Only g σ1 σ2):Only g σ σ2:=fun l h=>(b l h).trans (a l h)
theorem Only.upd(a:Only g σ σ1)(h:own g l):Only g σ (upd σ1 l o):=fun x hx=>by
 unfold Mine.upd;rw[if_neg (fun e:x=l=>hx (e▸h))];exact a x hx
theorem qD:own g (lI g):=.inl ⟨.inl rfl,rfl⟩
theorem eZ:own g (lD g):=.inl ⟨.inr (.inl rfl),rfl⟩
theorem eV:own g (lV g):=.inr (.inl ⟨.inl rfl,rfl⟩)
theorem jZ:own g (lK g):=.inl ⟨.inr (.inr rfl),rfl⟩
theorem tK:own g (lB g):=.inr (.inl ⟨.inr rfl,rfl⟩)
theorem lL{i:Int}(h:0<=i/\i<1000):own g (lb g i):=.inr (.inr ⟨.inl rfl,by show _<=1000*g.h+i;exact z43 h,by show 1000*g.h+i<_;exact z44 h⟩)
theorem eU{i:Int}(h:0<=i/\i<1000):own g (lo g i):=.inr (.inr ⟨.inr rfl,by show _<=1000*g.h+i;exact z43 h,by show 1000*g.h+i<_;exact z44 h⟩)
theorem MapB.frame(M:MapB σ g m vals)(h:∀l,own g l->σ' l=σ l):MapB σ' g m vals:=
 ⟨(h _ qD).trans M.hi,(h _ eZ).trans M.hd,(h _ eV).trans M.hv,fun p hp=>(h _ (eU (by have:=M.rg p hp;exact⟨this.1,ilt this.2⟩))).trans (M.ho p hp),M.rg,M.nd⟩
theorem MapH.frame(M:MapH σ g m vals kbs bks)(h:∀l,own g l->σ' l=σ l):MapH σ' g m vals kbs bks:=
 ⟨M.toMapB.frame h,M.kh,(h _ jZ).trans M.hK,(h _ tK).trans M.hB,fun i l h0 hl=>by
  have:=M.len;exact(h _ (lL (by exact z45 h0 ((As.mp hl).1) this))).trans (M.hbk i l h0 hl),M.len⟩
theorem aDs{K α:Type}[DecidableEq K]{l:List (K×α)}{k:K}{x:α}:(vput l k x).map (·.1)=if(aL l k).isSome then l.map (·.1) else l.map (·.1)++[k]:=by
 unfold vput
 split
 ·rw[Bq];apply Dk;intro p _;show(if p.1=k then(p.1,x) else p).1=p.1
  split <;> rfl
 ·simp
theorem mem_vput{K α:Type}[DecidableEq K]{l:List (K×α)}{k:K}{x:α}{p:K×α}(h:p∈vput l k x):p=(k,x)\/(p∈l/\p.1≠k):=by
 unfold vput at h
 split at h
 ·obtain⟨q,hq,rfl⟩:=Aq.mp h;by_cases e:q.1=k
  ·rw[if_pos e,e];exact .inl rfl
  ·rw[if_neg e];exact .inr ⟨hq,e⟩
 ·rename_i hn;rcases Ce.mp h with h|h
  ·refine .inr ⟨h,fun e=>hn ?_⟩
   cases q:aL l k with
   |some _=>rfl
   |none=>exact absurd (Aq.mpr ⟨p,h,e⟩) (cA.mp q)
  ·cases Ax.mp h;exact .inl rfl
theorem pS{K α:Type}[DecidableEq K]{l:List (K×α)}{k:K}{x:α}(h:(l.map (·.1)).Nodup):((vput l k x).map (·.1)).Nodup:=by
 rw[aDs]
 split
 ·exact h
 ·rename_i hn;rw[Gp];refine⟨h,by simp,fun a ha b hb=>?_⟩
  cases Ax.mp hb
  rintro rfl
  cases q:aL l a with
  |some _=>rw[q] at hn;exact hn rfl
  |none=>exact cA.mp q ha
theorem aGr{l:List (Int×List UInt8)}{k:Int}{x:List UInt8}(h:(aL l k).isSome=true)(f:Int->Sh):(vput l k x).map (fun p=>(p.1,f p.1))=l.map fun p=>(p.1,f p.1):=by
 unfold vput;rw[if_pos h,Bq];apply Dk;intro p _;show((if p.1=k then(p.1,x) else p).1,f (if p.1=k then(p.1,x) else p).1)=_
 split <;> rfl
theorem jE{g:Gn}{b:Int}(h:a≠b):lo g a≠lo g b:=fun e=>h (by have:=congrArg En e;simp at this;exact this)
theorem aCp{g:Gn}{b:Int}(h:a≠b):lb g a≠lb g b:=fun e=>h (by have:=congrArg En e;simp at this;exact this)
theorem aA{a b:Nat}{x y:Int}(h:Nat.beq a b=false):((a,x):Lbl)≠(b,y):=fun e=>Nat.ne_of_beq_eq_false h (congrArg Nj e)
theorem upd_ne{o:Ob}(h:l'≠l):upd σ l o l'=σ l':=aCd h rfl
theorem MapB.old(M:MapB σ g m vals){s:Int}(h:(aL vals s).isSome=true):MapB (upd σ (lo g s) (.ba b)) g m (vput vals s b):=by
 refine⟨(upd_ne (aA rfl)).trans M.hi,(upd_ne (aA rfl)).trans M.hd,(upd_ne (aA rfl)).trans ?_,fun p hp=>?_,fun p hp=>?_,pS M.nd⟩
 ·rw[aGr h (fun i=>Sh.ref (lo g i))];exact M.hv
 ·rcases mem_vput hp with rfl| ⟨hp,ne⟩
  ·exact aC
  ·exact(upd_ne (jE ne)).trans (M.ho p hp)
 ·rcases mem_vput hp with rfl| ⟨hp,ne⟩
  ·cases q:aL vals s with
   |none=>rw[q] at h;cases h
   |some x=>exact M.rg (s,x) (bL q)
  ·exact M.rg p hp
theorem MapB.new(M:MapB σ g m vals){s:Int}(hs:0<=s/\s<100):MapB (upd (upd σ (lo g s) (.ba b)) (lV g) (.idict ((vput vals s b).map fun p=>(p.1,.ref (lo g p.1))))) g m (vput vals s b):=by
 refine⟨((upd_ne (aA rfl)).trans (upd_ne (aA rfl))).trans M.hi,((upd_ne (aA rfl)).trans (upd_ne (aA rfl))).trans M.hd,aC,fun p hp=>?_,fun p hp=>?_,pS M.nd⟩
 ·refine(upd_ne (aA rfl)).trans ?_;rcases mem_vput hp with rfl| ⟨hp,ne⟩
  ·exact aC
  ·exact(upd_ne (jE ne)).trans (M.ho p hp)
 ·rcases mem_vput hp with rfl| ⟨hp,ne⟩
  ·exact hs
  ·exact M.rg p hp
theorem MapH.old(M:MapH σ g m vals kbs bks){s:Int}(h:(aL vals s).isSome=true):MapH (upd σ (lo g s) (.ba b)) g m (vput vals s b) kbs bks:=
 ⟨M.toMapB.old h,M.kh,(upd_ne (aA rfl)).trans M.hK,(upd_ne (aA rfl)).trans M.hB,fun i l h0 hl=>(upd_ne (aA rfl)).trans (M.hbk i l h0 hl),M.len⟩
theorem MapH.new(M:MapH σ g m vals kbs bks){s:Int}(hs:0<=s/\s<100):MapH (upd (upd σ (lo g s) (.ba b)) (lV g) (.idict ((vput vals s b).map fun p=>(p.1,.ref (lo g p.1))))) g m (vput vals s b) kbs bks:=
 ⟨M.toMapB.new hs,M.kh,((upd_ne (aA rfl)).trans (upd_ne (aA rfl))).trans M.hK,((upd_ne (aA rfl)).trans (upd_ne (aA rfl))).trans M.hB,fun i l h0 hl=>((upd_ne (aA rfl)).trans (upd_ne (aA rfl))).trans (M.hbk i l h0 hl),M.len⟩
theorem MapH.keysTo(M:MapH σ g m vals kbs bks)(kbs':List (Int×List UInt8)):MapH (upd σ (lK g) (.idict (kbs'.map fun p=>(p.1,.bytes p.2)))) g m vals kbs' bks:=
 ⟨⟨(upd_ne (aA rfl)).trans M.hi,(upd_ne (aA rfl)).trans M.hd,(upd_ne (aA rfl)).trans M.hv,fun p hp=>(upd_ne (aA rfl)).trans (M.ho p hp),M.rg,M.nd⟩,M.kh,aC,(upd_ne (aA rfl)).trans M.hB,fun i l h0 hl=>(upd_ne (aA rfl)).trans (M.hbk i l h0 hl),M.len⟩
theorem MapH.bucketTo(M:MapH σ g m vals kbs bks){i:Int}(h0:0<=i)(h1:i<bks.length)(l:List Int):MapH (upd σ (lb g i) (.list (l.map .int))) g m vals kbs (bks.set i.toNat l):=by
 refine⟨⟨(upd_ne (aA rfl)).trans M.hi,(upd_ne (aA rfl)).trans M.hd,(upd_ne (aA rfl)).trans M.hv,fun p hp=>(upd_ne (aA rfl)).trans (M.ho p hp),M.rg,M.nd⟩,M.kh,(upd_ne (aA rfl)).trans M.hK,(upd_ne (aA rfl)).trans ?_,fun j l' hj hl=>?_,by rw[Gf];exact M.len⟩
 ·rw[Gf];exact M.hB
 ·by_cases e:i=j
  ·subst e;rw[List.getElem?_set_self (by exact aGu h0 h1)] at hl;cases hl;exact aC
  ·refine(upd_ne (aCp (Bw e))).trans (M.hbk j l' hj ?_);rw[List.getElem?_set_ne (by exact z46 h0 hj e)] at hl;exact hl
end
end
section
open PySem.SeqAt
section
variable{K:Sg->Prop}{T:Lbl->Prop}{n s:Lbl}
theorem Less.under{A:Ob}(hs:σ s=none)(hB:OOk (dom (upd σ n B)) B):Less σ (upd (upd σ s A) n B) (upd σ n B):=by
 refine⟨fun l o e=>?_,Dom.upd,fun l o e=>?_⟩
 ·by_cases h:l=n
  ·subst h;rw[aC] at e ⊢;exact e
  ·rw[upd_ne h] at e ⊢;rw[upd_ne (fun q=>by rw[q,hs] at e;cases e)];exact e
 ·by_cases h:l=n
  ·subst h;rw[aC] at e;cases e;exact .inr hB
  ·rw[upd_ne h] at e;exact .inl e
theorem FN.fresh2{k0:Nat}{x:Sh}(n:Lbl)(D:Dom σ σ')(h:∀k:Int,(∀i,k<=i->σ (0,i)=none/\((0,i):Lbl)≠n)->FN w k0 f args σ x σ'):FN w k0 f args σ x σ':=
 FN.fresh D fun k hk=>h (max k (n.2+1)) fun i hi=>⟨hk i (by exact z47 hi),fun e=>by have:=congrArg En e;simp at this;exact z48 hi this⟩
theorem tT{k:Int}{ns:List Int}:∀{i:Nat},i<ns.idxOf k->ns[i]?≠some k:=by
 induction ns with
 |nil=>exact fun h=>absurd h (Kr _)
 |cons a ns ih=>
  intro i h;rw[List.idxOf_cons] at h
  cases e:a==k with
  |true=>rw[e] at h;simp at h
  |false=>
   rw[e] at h;simp only[cond_false] at h
   cases i with
   |zero=>simp at e ⊢;exact e
   |succ i=>rw[List.getElem?_cons_succ];exact ih (by exact z49 h)
theorem aOf{ns:List Int}{k:Int}(hl:σ l=some (.list (ns.map .int)))(hk:k∈ns)(hz:ns.length<=1000)(hF:¬Γ.F l):CallOk Γ ms σ (.builtin "list.remove") [.ref l,.int k] .none (upd σ l (.list ((ns.erase k).map .int))):=by
 have hlt:=List.idxOf_lt_length_of_mem hk;rw[List.erase_eq_eraseIdx_of_idxOf (i:=ns.idxOf k) rfl];refine zI hl hz (As.mpr ⟨hlt,List.getElem_idxOf hlt⟩) (fun i hi=>tT hi) hF
theorem aOg{ns:List Int}{k:Int}(hl:σ l=some (.list (ns.map .int)))(hk:k∈ns)(hz:ns.length<=1000):CallOk Γ ms σ (.builtin "list.index") [.ref l,.int k] (.int (ns.idxOf k:Nat)) σ:=by
 have hlt:=List.idxOf_lt_length_of_mem hk;refine aBw hl hz (As.mpr ⟨hlt,List.getElem_idxOf hlt⟩) (fun i hi=>tT hi)
theorem pJ{α:Type}{f:Int×α->Sh}{kvs:List (Int×α)}(hl:σ l=some (.idict (kvs.map fun p=>(p.1,f p)))):IterOk Γ (.Name x px) ms σ (.ref l) (fun σ=>σ l≠none) (fun y=>y=l) (fun y=>y=l) (kvs.map fun p=>.int p.1):=by
 have:=aBm (Γ:=Γ) (ms:=ms) (x:=x) (px:=px) hl;rw[Bq] at this;exact this
theorem xC{α Z:Type}{K:Sg->Prop}(f:α->Sh)(mst:Z->List (Str×Sh))(sg:Z->Sg)(step:Z->α->Z)(Iv:Nat->Z->Prop)(hK:∀i z,Iv i z->K (sg z))(xs:List α):∀(i0:Nat) (hI:∀i z a,Iv (i0+i) z->xs[i]? = some a->Iv (i0+i+1) (step z a))
  (h:∀i z a g,Iv (i0+i) z->xs[i]? = some a->SS (Γ.frz g (dom (sg z)) F) (mL ((x,f a)::mst z)) (sg z) (execs body Γ.env) .next (mL (mst (step z a))) (sg (step z a)))(z:Z)(hz:Iv i0 z),
  Turns Γ K F body (nm x) (xs.map f) (mL (mst z)) (sg z) .next (mL (mst (xs.foldl step z))) (sg (xs.foldl step z)):=by
 induction xs with
 |nil=>exact fun i0 _ _ z hz=>.nil (hK i0 z hz)
 |cons a xs ih=>
  intro i0 hI h z hz;refine .cons (hK i0 z hz) (fun g=>?_) (ih (i0+1) (fun i z b q m=>by
   have:=hI (i+1) z b (by rw[show i0+(i+1)=i0+1+i by exact z50];exact q) m;rw[show i0+1+i+1=i0+(i+1)+1 by exact z51];exact this) (fun i z b g q m=>h (i+1) z b g (by rw[show i0+(i+1)=i0+1+i by exact z50];exact q) m) (step z a) (hI 0 z a hz rfl))
  have:=h 0 z a g hz rfl;rw[<-bR] at this;exact this
theorem nN{α Z:Type}{xs:List α}(f:α->Sh)(mst:Z->List (Str×Sh))(sg:Z->Sg)(step:Z->α->Z)(Iv:Nat->Z->Prop)(z:Z)(it:ItE Γ (.Name x px) ms σ iter (sg z) K T F (xs.map f))(hm:ms=mL (mst z))(hz:Iv 0 z)(hK:∀i z,Iv i z->K (sg z))(hI:∀i z a,Iv i z->xs[i]? = some a->Iv (i+1) (step z a))
  (h:∀i z a g,Iv i z->xs[i]? = some a->SS (Γ.frz g (dom (sg z)) F) (mL ((x,f a)::mst z)) (sg z) (execs body Γ.env) .next (mL (mst (step z a))) (sg (step z a)))
  (henv:Γ.env.scope=s0)(hk':s0.names.lookup x=some .local)(hc:Γ.env.cells.lookup x=none)(hF:∀l,Γ.F l->F l)(hfold:∀v,Dd iter Γ.env v=pure v:=by exact fun _=>rfl):
  SS Γ ms σ (exec (.For (.Name x px) iter body [] pos) Γ.env) .next (mL (mst (xs.foldl step z))) (sg (xs.foldl step z)):=by
 subst hm;exact rU it (xC f mst sg step Iv hK xs 0 (fun i z a q m=>by rw[Fo] at q ⊢;exact hI i z a q m) (fun i z a g q m=>h i z a g (by rw[Fo] at q;exact q) m) z hz) henv hk' hc hF hfold
end
theorem aAu{α:Type}(bks:List (List α)):(upI 0 bks.length).foldl (fun z i=>z++bks.getD i.toNat []) []=bks.flatten:=by
 have key:∀(n:Nat) (z:List α),n<=bks.length->(Jg n).foldl (fun z i=>z++bks.getD i []) z=z++(bks.take n).flatten:=by
  intro n
  induction n with
  |zero=>intro z _;simp
  |succ n ih=>
   intro z h;rw[List.range_succ,List.foldl_append,ih z (by exact Ar on0 h)];show _++bks.getD n []=_;rw[Hy,Ay,Ba (by exact Bi on1 h),List.flatten_append,Ic];show z++((List.take n bks).flatten++bks[n])=z++((List.take n bks).flatten++[bks[n]].flatten);rw[List.flatten_singleton]
 have:=key bks.length [] (Bs _);rw[List.take_length,Kn] at this;rw[<-this];unfold upI;rw[List.foldl_map];simp only[Cj,Dq,Int.zero_add]
end
section
open PySem PySem.W PyProof.Rows PySem.Calls PySem.SeqAt PySem.Builtin PySem.Builtin.Str
section
variable{K:Sg->Prop}{T:Lbl->Prop}{n s:Lbl}
theorem nU:∀(l:List Str) (tk:Tok),IsAll σ c (l.map .str) (strsFrom tk l)
 | [],_=>.nil
 |x::l,tk=>.cons (.str x _) (nU l _)
theorem aBt{y:Str}(n:Lbl)(h1:(decide (x.length<y.length) || decide (strKind x<strKind y))=false)(hy:(y.length==0)=false)(hf:(occurrences x y 0 x.length (x.length+1)).isEmpty=false)(hx:x.length<=1000)
  (hp:(partsBetween x (occurrences x y 0 x.length (x.length+1)) y.length).length<=1000)(hn:σ n=none):
  CallOk Γ ms σ (.builtin "str.split") [.str x,.str y] (.ref n) (upd σ n (.list ((partsBetween x (occurrences x y 0 x.length (x.length+1)) y.length).map .str))):=
 ⟨Dom.upd,fun c s vs Q E a hs i q=>wpN.of (by
  obtain⟨u,v,i1,i2⟩:=i.two
  cases i1 with
  |str _ t=>
  obtain⟨t2,rfl⟩:=i2.str_inv;refine Jw F.slot_str_split (typeIs_str _ _ _) F.entry_str_split (F.args_str_split_2 _ _) (meets_str_split_sep x y t t2 h1 hy hf (by rw[Bh];exact nle hx) (by rw[Bh];exact nle hp)) ?_;show Q (.ref s.heap.objs.size) {s with toks:=s.toks+(partsBetween x (occurrences x y 0 x.length (x.length+1)) y.length).length,heap:=s.heap.push {cls:=.type "list",data:=.seq (strsFrom s.toks (partsBetween x (occurrences x y 0 x.length (x.length+1)) y.length)).toArray}};rw[hs];obtain⟨c1,e1,r,a1,s1⟩:=a.newList (l:=n) (n:=n) (ys:=(partsBetween x (occurrences x y 0 x.length (x.length+1)) y.length).map .str) (k:=0) (ws:=strsFrom s.toks (partsBetween x (occurrences x y 0 x.length (x.length+1)) y.length)) hn (fun b o e=>Ae _ e) (Ao c.h (by rfl)) fun c' S _=>nU _ _;rw[<-e1];exact q _ c1 _ r a1 s1)⟩
theorem pK{args:List Aj}(h0:EV Γ ms σ (eval o Γ.env) (.str x) σ1)(h1:EL Γ ms σ1 (Co (Cc pos (Av args Γ.env))) shs σ2)(h2:CallOk Γ ms σ2 (.builtin "str.split") (.str x::shs) z σ3)
  (hb:Cd o "split" Γ.env (eval o Γ.env)=eval o Γ.env:=by rfl)(ok:cR args apos pos=true:=by exact Eo true):
  EV Γ ms σ (eval (.Call (.Attribute o "split" apos) args [] pos) Γ.env) z σ3:=
 fK h0 TyS.str PySem.F.plainAttrs_str PySem.F.slot_str_split PySem.F.type_str_split h1 h2 hb ok
end
noncomputable def cT:Str:="array hash lru rows queue stack trie ring"
noncomputable def cU:List Str:=["array","hash","lru","rows","queue","stack","trie","ring"]
theorem oF:partsBetween cT (occurrences cT " " 0 cT.length (cT.length+1)) (" ":Str).length=cU:=by decide +kernel
theorem aPk:(decide (cT.length< (" ":Str).length) || decide (strKind cT<strKind " "))=false:=by decide +kernel
theorem aPj:(occurrences cT " " 0 cT.length (cT.length+1)).isEmpty=false:=by decide +kernel
theorem iP(n:Lbl)(hn:σ n=none):CallOk Γ ms σ (.builtin "str.split") [.str "array hash lru rows queue stack trie ring",.str " "] (.ref n) (upd σ n (.list (cU.map .str))):=by
 have:=aBt (Γ:=Γ) (ms:=ms) (x:=cT) (y:=" ") n aPk (by decide +kernel) aPj (by decide +kernel) (by rw[oF];decide) hn;rw[oF] at this;exact this
theorem kQ{b:Int}(ha : -1000000<=a/\a<=1000000):Ge a b:=.of_left (by
 unfold Builtin.Int.intBits
 split
 ·decide
 ·rename_i h;have:=(Nat.log2_lt (fun e=>h (by rw[Int.natAbs_eq_zero.mp e];rfl):a.natAbs≠0) (k:=63)).mpr (by exact z57 ha);exact z58 this)
end
theorem sB(n:Lbl)(hn:σ n=none):EV Γ ms σ (eval (.Dict [] [] pos) Γ.env) (.ref n) (upd σ n (.idict [])):=pL dkI n hn
theorem bT{a b:Lbl}{A:Ob}(h:a≠b):upd (upd σ a A) b B=upd (upd σ b B) a A:=by
 funext l
 unfold upd;by_cases h1:l=a
 ·subst h1;simp[h]
 ·simp[h1]
theorem upd_none{o:Ob}(h:l'≠l)(h2:σ l'=none):upd σ l o l'=none:=(upd_ne h).trans h2
def KC.scF:KC->Addr
 | .arr=>243| .row=>407| .hsh=>0
def KC.procs:KC->Int
 | .row=>4|_=>1
theorem KC.procs_le(k:KC):1<=k.procs/\k.procs<=4:=by cases k <;> decide
section
variable{k:KC}
theorem aRh(h:k≠.hsh):Cq (Mine.hd.heap_1 P) (.ref k.addr) "slot_count"=some (some (.ref k.scF)):=by cases k with|hsh=>exact absurd rfl h|_=>k_is
theorem aPn(h:k≠.hsh):isFn (Mine.hd.heap_1 P) (.ref k.scF)=true:=by cases k with|hsh=>exact absurd rfl h|_=>k_is
theorem aPi(h:k≠.hsh):Keeps Γ (.ref k.scF):=by cases k with|hsh=>exact absurd rfl h|_=>exact Keeps.K (by k_is)
end
noncomputable def sgL(g:Gn)(σ:Sg)(z:List (Int×List UInt8)):Sg:=z.foldl (fun τ p=>upd τ (lo g p.1) (.ba p.2)) σ
theorem aGx{g:Gn}{z:List (Int×List UInt8)}{p:Int×List UInt8}:sgL g σ (z++[p])=upd (sgL g σ z) (lo g p.1) (.ba p.2):=by unfold sgL;rw[List.foldl_append];rfl
theorem dL{g:Gn}{z:List (Int×List UInt8)}:∀{σ:Sg},(∀p∈z,l≠lo g p.1)->sgL g σ z l=σ l:=by
 induction z with
 |nil=>exact fun _=>rfl
 |cons p z ih=>exact fun h=>(ih fun q hq=>h q (.tail _ hq)).trans (upd_ne (h p (.head _)))
theorem uO{g:Gn}{z:List (Int×List UInt8)}:∀{σ:Sg} {p:Int×List UInt8},(z.map (·.1)).Nodup->p∈z->sgL g σ z (lo g p.1)=some (.ba p.2):=by
 induction z with
 |nil=>exact fun _ h=>nomatch h
 |cons q z ih=>
  intro σ p nd h;rw[Dh,Mw] at nd;rcases An.mp h with rfl|h
  ·exact(dL (z:=z) (σ:=upd σ (lo g p.1) (.ba p.2)) fun r hr=>jE fun e=>nd.1 (by rw[e];exact Fs hr)).trans aC
  ·exact ih (σ:=upd σ (lo g q.1) (.ba q.2)) nd.2 h
theorem aCh{g:Gn}{z:List (Int×List UInt8)}:∀{σ:Sg},Dom σ (sgL g σ z):=by
 induction z with
 |nil=>exact Dom.refl _
 |cons _ _ ih=>exact Dom.trans Dom.upd ih
theorem lH{g:Gn}{z:List (Int×List UInt8)}:∀{σ:Sg},(∀p∈z,0<=p.1/\p.1<100)->Only g σ (sgL g σ z):=by
 induction z with
 |nil=>exact fun _=>Only.refl
 |cons p z ih=>exact fun h=>(Only.refl.upd (eU (by have:=h p (.head _);exact⟨this.1,ilt this.2⟩))).trans (ih fun q hq=>h q (.tail _ hq))
noncomputable def sgS(g:Gn)(σ:Sg)(z:List (Int×List UInt8)):Sg:=upd (sgL g σ z) (lV g) (.idict (z.map fun p=>(p.1,.ref (lo g p.1))))
theorem xI{g:Gn}{z:List (Int×List UInt8)}{s:Int}(h:aL z s=none):upd (upd (sgS g σ z) (lo g s) (.ba b)) (lV g) (.idict (bW (z.map fun p=>(p.1,Sh.ref (lo g p.1))) s (.ref (lo g s))))=sgS g σ (z++[(s,b)]):=by
 have e:=dpm (f:=fun p:Int×List UInt8=>Sh.ref (lo g p.1)) (x:=b) h;dsimp only at e;unfold sgS;rw[e,bT (aA rfl),aX,bT (aA rfl),aGx];unfold vput;rw[h]
 rfl
section
open PySem.SeqAt
section
variable{t:Aj}{T:Lbl->Prop}{K:Sg->Prop}
theorem yN{α Z:Type}(f:α->Sh)(y:Z->α->Sh)(sg:Z->Sg)(step:Z->α->Z)(Iv:Nat->Z->Prop)(hK:∀i z,Iv i z->K (sg z))(xs:List α):∀(i0:Nat) (hI:∀i z a,Iv (i0+i) z->xs[i]? = some a->Iv (i0+i+1) (step z a))
  (h:∀i z a g C,Iv (i0+i) z->xs[i]? = some a->EV (Γ.cmp sc cl C g (dom (sg z)) F) (mL ((x,f a)::mc)) (sg z) (eval elt (Cp sc cl C Γ.env)) (y z a) (sg (step z a)))(z:Z)(hz:Iv i0 z),
  Comps Γ K F sc cl (nm x) (mL mc) [] elt (xs.map f) (sg z) (uR step y xs z) (sg (xs.foldl step z)):=by
 induction xs with
 |nil=>exact fun i0 _ _ z hz=>.nil (hK i0 z hz)
 |cons a xs ih=>
  intro i0 hI h z hz;refine .cons (hK i0 z hz) (fun g C=>aBj) (fun g C=>?_) (ih (i0+1) (fun i z b q m=>by
   have:=hI (i+1) z b (by rw[show i0+(i+1)=i0+1+i by exact z50];exact q) m;rw[show i0+1+i+1=i0+(i+1)+1 by exact z51];exact this) (fun i z b g C q m=>h (i+1) z b g C (by rw[show i0+(i+1)=i0+1+i by exact z50];exact q) m) (step z a) (hI 0 z a hz rfl))
  have:=h 0 z a g C hz rfl;rw[<-bR] at this;exact this
theorem wL{α Z:Type}{xs:List α}(f:α->Sh)(y:Z->α->Sh)(sg:Z->Sg)(step:Z->α->Z)(Iv:Nat->Z->Prop)(n:Lbl)(z:Z)(it:ItE Γ (.Name x px) (mL ml) σ iter (sg z) K T F (xs.map f))(o:LcOk Γ sc cl ml mc x)(hz:Iv 0 z)
  (hK:∀i z,Iv i z->K (sg z))(hI:∀i z a,Iv i z->xs[i]? = some a->Iv (i+1) (step z a))(hn:sg (xs.foldl step z) n=none)(hd:Dom (sg z) (sg (xs.foldl step z)))
  (h:∀i z a g C,Iv i z->xs[i]? = some a->EV (Γ.cmp sc cl C g (dom (sg z)) F) (mL ((x,f a)::mc)) (sg z) (eval elt (Cp sc cl C Γ.env)) (y z a) (sg (step z a)))
  (hF:∀l,Γ.F l->F l)(hl:xs.length<=1000)(hkind:sc.kind = .function:=by rfl)(hcell:∀y∈sc.names,y.2≠.cell:=by decide +kernel)(hnames:∀y∈sc.names,y.2 = .local->sc.names.lookup y.1=some .local:=by decide +kernel)(hfold:∀v,Dd iter Γ.env v=pure v:=by exact fun _=>rfl):
  EV Γ (mL ml) σ (eval (.ListComp elt [⟨.Name x px,iter,[],0⟩] sc pos) Γ.env) (.ref n) (upd (sg (xs.foldl step z)) n (.list (uR step y xs z))):=
 wM n it (yN f y sg step Iv hK xs 0 (fun i z a q m=>by rw[Fo] at q ⊢;exact hI i z a q m) (fun i z a g C q m=>h i z a g C (by rw[Fo] at q;exact q) m) z hz) (jV o.hcl o.hmc o.hmd hkind o.hx o.hxc o.hcm) hF (by simpa using hl) hn o.hclos hcell hnames hfold hd
end
noncomputable def bkF(g:Gn):Nat->List (List Int)->Sg->Sg
 |_,[],σ=>σ
 |k,l::z,σ=>bkF g (k+1) z (upd σ (lb g k) (.list (l.map .int)))
noncomputable def bkL(g:Gn)(σ:Sg)(z:List (List Int)):Sg:=bkF g 0 z σ
theorem aJc{g:Gn}{l:List Int}{z:List (List Int)}:∀{k:Nat} {σ:Sg},bkF g k (z++[l]) σ=upd (bkF g k z σ) (lb g ((k+z.length:Nat):Int)) (.list (l.map .int)):=by
 induction z with
 |nil=>exact rfl
 |cons a z ih=>
  intro k σ;show bkF g (k+1) (z++[l]) _=_;rw[ih,show k+1+z.length=k+(a::z).length by rw[Fu];exact z52]
  rfl
theorem yT{g:Gn}{z:List (List Int)}{l:List Int}:bkL g σ (z++[l])=upd (bkL g σ z) (lb g z.length) (.list (l.map .int)):=by
 unfold bkL;rw[aJc,Fo]
theorem aJd{g:Gn}{z:List (List Int)}:∀{k:Nat} {σ:Sg},(∀i:Nat,k<=i->i<k+z.length->l≠lb g i)->bkF g k z σ l=σ l:=by
 induction z with
 |nil=>exact fun _=>rfl
 |cons a z ih=>exact fun h=>(ih fun i h1 h2=>h i (by exact Ar on0 h1) (by rw[Fu];exact z53 h2)).trans (upd_ne (h _ (Bs _) (by rw[Fu];exact z54)))
theorem cP{g:Gn}{z:List (List Int)}(h:∀i:Nat,i<z.length->l≠lb g i):bkL g σ z l=σ l:=aJd fun i _ h2=>h i (by exact z55 h2)
theorem aNj{g:Gn}{l:List Int}{z:List (List Int)}:∀{k i:Nat} {σ:Sg},z[i]? = some l->bkF g k z σ (lb g ((k+i:Nat):Int))=some (.list (l.map .int)):=by
 induction z with
 |nil=>exact fun h=>nomatch h
 |cons a z ih=>
  intro k i σ h
  cases i with
  |zero=>
  obtain rfl:=Cw h;exact(aJd (z:=z) (k:=k+1) fun i h1 h2=>aCp (by exact z56 h1)).trans aC
  |succ i=>
  rw[List.getElem?_cons_succ] at h;have:=ih (k:=k+1) (σ:=upd σ (lb g k) (.list (a.map .int))) h;rw[show k+1+i=k+(i+1) by exact z52] at this;exact this
theorem aDa{g:Gn}{z:List (List Int)}{l:List Int}(h:z[i]? = some l):bkL g σ z (lb g i)=some (.list (l.map .int)):=by
 have:=aNj (g:=g) (k:=0) (σ:=σ) h;rw[Fo] at this;exact this
theorem aNk{g:Gn}{z:List (List Int)}:∀{k:Nat} {σ:Sg},Dom σ (bkF g k z σ):=by
 induction z with
 |nil=>exact Dom.refl _
 |cons _ _ ih=>exact Dom.trans Dom.upd ih
theorem vS{g:Gn}{z:List (List Int)}:Dom σ (bkL g σ z):=aNk
theorem yU{g:Gn}{z:List (List Int)}(h:z.length<=100):Only g σ (bkL g σ z):=fun l hl=>cP fun i hi e=>hl (e▸lL (by exact⟨oU,ult (Bi hi h)⟩))
end
section
open PySem.SeqAt
theorem aMe{m:MC}{g:Gn}:(kvs m g).length<=900:=by
 unfold kvs ext
 cases m.k <;> simp
theorem Less.last{X:Sg}{n:Lbl}(hD:Dom σ X)(hn:X n=none)(hc:∀l o,X l=some o->σ l=some o\/OOk (dom X) o):Less σ (upd X n B) X:=
 ⟨fun l o e=>by rw[upd_ne (fun q=>by rw[q,hn] at e;cases e)];exact e,hD,hc⟩
theorem mZ{p:Pen}:OOk D p.ob:=.cons (.int _) (.cons (.int _) .nil)
theorem aPt{o:Ob}(h:∀D,OOk D o):∀x ob,upd σ l o x=some ob->σ x=some ob\/OOk (dom (upd σ l o)) ob:=fun x ob e=>by
 by_cases q:x=l
 ·subst q;rw[aC] at e;cases e;exact .inr (h _)
 ·rw[upd_ne q] at e;exact .inl e
end
section
open PySem.SeqAt
theorem aEw{b:Int}{u:Tok}(hb:0<b)(hb2:b<1073741824)(h:Q (.int (a.fdiv b) s.toks) {s with toks:=s.toks+1}):
  wpAny (model prog w) A (Od .FloorDiv (.int a t) (.int b u)) Q E s:=floordiv_int (by exact bO hb) h (Or.inl (PyProof.noPylong_small (by exact z64 hb hb2)))
theorem BinI.fdivB{b:Int}(h0:0<b)(h1:b<1073741824):BinI .FloorDiv a b (a.fdiv b):=⟨fun _ _ _ _ _ _ _ _ h=>aEw h0 h1 h⟩
end
section
open PySem.SeqAt
theorem aEe{k:List UInt8}(h:(dkB.knd w).is k v=true):Is σ c (dkB.sh k) v:=by
 obtain⟨t,rfl⟩:=PySem.W.isBytes_shape h;exact .bytes _ t
section
variable{n:Lbl}
theorem pC{kvs:List (List UInt8×Sh)}(n:Lbl)(hl:σ l=some (.bdict kvs))(hz:kvs.length<=1000)(hn:σ n=none):CallOk Γ ms σ (.type "list") [.ref l] (.ref n) (upd σ n (.list (kvs.map fun p=>.bytes p.1))):=sH dkB aEe n hl hz hn
theorem sG(n:Lbl)(hl:σ l=some (.bdict (kbs.map fun p=>(p.2,.int p.1))))(hz:kbs.length<=1000)(hn:σ n=none):CallOk Γ ms σ (.type "list") [.ref l] (.ref n) (upd σ n (.list (kbs.map fun p=>.bytes p.2))):=by
 have:=pC (Γ:=Γ) (ms:=ms) n hl (by rw[Ag];exact hz) hn;rw[Bq] at this;exact this
end
end
section
open PySem.SeqAt
theorem dZ:Dz (.type "dict_values") "__contains__"=pure none:=by with_unfolding_all rfl
theorem fA:Ju table "proto.contains_iter"=some Builtin.«proto.contains_iter»:=Iw (by kernel_rfl)
theorem rE{K:Type}[DecidableEq K]{knd:KeyKind prog w K}{d:Addr}{kvs:List (K×Value)}{k:Int}{ns:List Int}(hh:A.handled=none)(hns:kvs.length=ns.length)(hv:∀(i:Nat) p,kvs[i]? = some p->∃n u,p.2 = .int n u/\ns[i]? = some n)(h0:Heap)(hd0:h0.DictAt knd d kvs ep)(hne:it≠d)
  (hnit:h0.get? it=none)(R:Jy->Ai->Prop):
  ∀(l:List Int) (i:Nat) (s:Ai),ns.drop i=l->(∀b o,h0.get? b=some o->s.heap.get? b=some o)->s.heap.IsValIter it d i kvs.length ep->
   (∀h' tk,(∀b o,h0.get? b=some o->h'.get? b=some o)->R (.ok (.ret (.bool (decide (k∈l))))) {s with heap:=h',toks:=tk})->
   Kh (model prog w) A (.builtin "proto.contains_iter" ⟨[.ref it,.int k t],[]⟩) R s:=by
 intro l
 induction l with
 |nil=>
  intro i s hl kp hit q;have hd:s.heap.DictAt knd d kvs ep:=by
   refine bc fun nq=>?_;obtain⟨o,es,ho,r⟩:=hd0;refine nq ?_;exact⟨o,es,kp d o ho,r⟩
  refine Ji fA ?_;have hx:kvs[i]? = none:=by
   rw[Cm,hns];have:=congrArg Iq hl;simp at this;exact z16 this
  refine Ab (wpAny_pyNext_values_end hh hit hd hx fun h' hb=>?_);refine Ab (Dy (Ak ?_));have:=q h' s.toks fun b o e=>hb b o (fun z=>by rw[z,hnit] at e;cases e) (kp b o e);simpa using this
 |cons n l ih=>
  intro i s hl kp hit q;have hd:s.heap.DictAt knd d kvs ep:=by
   obtain⟨o,es,ho,r⟩:=hd0;exact⟨o,es,kp d o ho,r⟩
  have hni:ns[i]? = some n:=by
   have:=congrArg (·[0]?) hl;simpa using this
  have hlt:i<kvs.length:=by rw[hns];exact(As.mp hni).1
  refine bc fun nq=>?_;obtain⟨n',u,h1,h2⟩:=hv i _ (Ba hlt);rw[hni] at h2;cases h2;refine nq ?_;refine Ji fA ?_;refine Ab (wpAny_pyNext_values_item (k:=kvs[i].1) (v:=kvs[i].2) hit hd (Ba hlt) fun h' hit' hsb=>?_);rw[h1];have kp':∀b o,h0.get? b=some o->h'.get? b=some o:=fun b o e=>(hsb.2 b (fun z=>by rw[z,hnit] at e;cases e)).trans (kp b o e);refine Ab (wpAny_eqBool_int ?_);by_cases e:n=k
  ·subst e;rw[if_pos (by simp)];refine Ab (Dy (Ak ?_));have:=q h' s.toks kp';simpa using this
  ·rw[if_neg (by simpa using e)];refine Ak ⟨Hl _ (by decide +kernel),?_⟩;refine ih (i+1) {s with heap:=h'} (by rw[<-Nl,hl];rfl) kp' hit' fun h2 tk2 kp2=>?_;have:=q h2 tk2 kp2;simp only[An] at this;rw[show decide (k=n\/k∈l)=decide (k∈l) by simp[Bw e]] at this;exact this
theorem uV{K:Type}[DecidableEq K]{knd:KeyKind prog w K}{v d:Addr}{kvs:List (K×Value)}{k:Int}{ns:List Int}(hh:A.handled=none)(hns:kvs.length=ns.length)(hv:∀(i:Nat) p,kvs[i]? = some p->∃n u,p.2 = .int n u/\ns[i]? = some n)
  (hV:s.heap.IsValuesView v d)(hd:s.heap.DictAt knd d kvs ep)(q:∀h' tk,(∀b o,s.heap.get? b=some o->h'.get? b=some o)->Q (.bool (!decide (k∈ns))) {s with heap:=h',toks:=tk}):
  wpAny (model prog w) A (Jq .NotIn (.int k t) (.ref v)) Q E s:=by
 show wpAny _ _ (do return .bool (!(<-contains (.ref v) (.int k t)))) Q E s
 refine Ab ?_;refine Dv ?_;refine Ab (Bo hV.typeIs dZ ?_);refine Ab (wpAny_callSpecialUnlessNone?_none hV.typeIs dZ ?_);refine Ab (Dy ?_);refine Ab ?_;refine wpAny_tryCatch ?_;refine wpAny_pyIter_values hV hd ?_;have hlt:v<s.heap.objs.size:=by obtain⟨o,ho,_⟩:=hV;exact Aw ho
 have hdl:d<s.heap.objs.size:=by obtain⟨o,es,ho,_⟩:=hd;exact Aw ho
 refine Ab (wpAny_runValue ?_);refine rE hh hns hv s.heap hd (Da hdl) (Heap.get?_none_of_le (Bs _)) _ ns 0 _ Lb (fun b o e=>Ae _ e) ⟨_,Ao _ rfl,rfl,rfl⟩ fun h' tk kp=>?_;exact Ak (Ak (q h' tk kp))
end
section
open PySem.SeqAt
theorem KAll.at{K:Type}{x:List (K×Sh)}{v:List (K×Value)}(h:KAll σ c x v):∀{i:Nat} {p:K×Value},v[i]? = some p->∃q,x[i]? = some q/\Is σ c q.2 p.2:=by
 induction h with
 |nil=>intro i p h;cases h
 | @cons k y u l vs a _ ih=>
  intro i p h
  cases i with
  |zero=>obtain rfl:=Cw h;exact⟨_,rfl,a⟩
  |succ i=>exact ih h
section
variable{l:Aj}
theorem wC{k:Int}(h1:EV Γ ms σ (eval l Γ.env) (.int k) σ)(h2:EV Γ ms σ (eval o Γ.env) (.ref d) σ)(hd:σ d=some (.bdict (kbs.map fun p=>(p.2,.int p.1))))
  (hm:behindInMarks .NotIn (.Call (.Attribute o "values" apos) [] [] cpos)=false:=by rfl)(hb:Cd o "values" Γ.env (eval o Γ.env)=eval o Γ.env:=by rfl)(few:Ny (([]:List Aj).length+0) (Cc cpos (Av [] Γ.env)) (Ht cpos (Fh [] Γ.env))=true:=by rfl)(hp:Ou true o Γ.env apos cpos=pure cpos:=by rfl):
  EB Γ ms σ (isTrue (.Compare l [.NotIn] [.Call (.Attribute o "values" apos) [] [] cpos] pos) Γ.env whole) (!decide (k∈kbs.map (·.1))) σ:=
 ⟨Dom.refl σ,fun c s Q E a hs q=>by
  refine h1.bind a hs fun u c1 t1 i1 a1 s1=>?_;refine aE (aF ?_);rw[Iz,hb];refine h2.bind a1 rfl fun v c2 t2 i2 a2 s2=>?_;refine aG ?_;unfold Lg;rw[show(([]:List Aj).length+([]:List Nv).length)=([]:List Aj).length+0 from rfl,few]
  refine bV ?_;unfold calleeOf;have i1':=i1.mono (Dom.refl _) s2;obtain⟨hT,hdd⟩:=(TyS.dict dkB hd).run c2 {s with heap:=c2.h,toks:=t2} v a2 rfl i2;refine Nc hT Fq PySem.F.slot_dict_values PySem.F.type_dict_values hdd ?_;dsimp only;rw[hp];refine aW ?_;refine gO (fsh:=[.ref d]) (.inr (.inr ⟨_,rfl⟩)) aV rfl (.inl rfl) c2 _ _ E a2 rfl (.cons (i2) .nil) fun vs c3 t3 i3 a3 s3=>?_;obtain rfl:vs=[]:=Ke.mp (Lo i3.length)
  cases i3 with
  |cons j _=>
  obtain rfl:=j.ref_inv;obtain⟨kv,D,hk,hm0⟩:=a3.dictOf dkB hd (s:={s with heap:=c3.h,toks:=t3}) rfl;obtain⟨ep,hat⟩:=D.dictAt;obtain⟨hT3,_⟩:=(TyS.dict dkB hd).run c3 {s with heap:=c3.h,toks:=t3} _ a3 rfl j;refine wpN.of (Lh PySem.F.slot_dict_values hT3 PySem.F.entry_dict_values (PySem.F.args_dict_values_1 _) (meets_dict_values (dkB.knd Γ.w) _ hm0) ⟨⟨kv,D⟩,?_⟩);obtain⟨a4,s4⟩:=a3.grow0 (h':=c3.h.push {cls:=.type "dict_values",data:=.fields #[.ref (c3.ρ d)]}) fun b o e=>Ae _ e;obtain⟨t,rfl⟩:=((i1'.mono (Dom.refl _) s3).mono (Dom.refl _) s4).int_inv;refine aG (aE (dU (wpN.of (uV (knd:=dkB.knd Γ.w) (d:=c3.ρ d) (kvs:=kv) (ep:=ep) (ns:=kbs.map (·.1)) a.ok.hh ?_ ?_ ⟨_,Ao _ rfl,rfl,rfl⟩ (hat.push _) fun h5 t5 kp5=>?_))))
  ·rw[hk.length,Ag,Ag]
  ·intro i p hp;refine bc fun nq=>?_;obtain⟨x,hx,ix⟩:=hk.at hp;rw[Ci] at hx;obtain⟨r,hr,rfl⟩:=Dn.mp hx;obtain⟨tt,e⟩:=ix.int_inv;refine nq ?_;exact⟨r.1,tt,e,by rw[Ci,hr];rfl⟩
  ·refine aF (wpN.of (Du ?_));obtain⟨a5,s5⟩:=a4.grow0 (h':=h5) fun b o e=>kp5 b o e;exact q _ ⟨_,h5⟩ t5 rfl a5 ((((s1.trans s2).trans s3).trans s4).trans s5)⟩
end
end
section
open PySem.SeqAt
theorem aGl:CmpOk Γ ms σ .Is .none .none true:=aKx rfl
theorem aDi{rest:List Stmt}(h1:SS Γ ms σ (exec st Γ.env) .brk ms1 σ1):SS Γ ms σ (execs (st::rest) Γ.env) .brk ms1 σ1:=
 ⟨fun c s Q E a hs q=>cI (h1.run c s _ E a hs fun f c1 t1 i1 a1 s1=>by
  obtain rfl:=i1.brk_inv;exact q .brk c1 t1 .brk a1 s1)⟩
theorem Less.scr(h:∀l o,σ l=some o->σ1 l=some o):Less σ σ1 σ:=⟨h,Dom.refl _,fun _ _ e=>.inl e⟩
noncomputable def Off0(τ σ:Sg):Prop:=∀l:Lbl,l.1≠0->τ l=σ l
theorem Off0.refl:Off0 σ σ:=fun _ _=>rfl
theorem Off0.upd{k:Int}{o:Ob}(h:Off0 σ1 σ):Off0 (upd σ1 (0,k) o) σ:=fun l hl=>(upd_ne fun e=>hl (by rw[e])).trans (h l hl)
theorem zR{α:Type}{K:Sg->Prop}(ks:List α)(mst:Option α->List (Str×Sh))(msE:List (Str×Sh))(sg:List α->Sg)(hK:∀z,K (sg z))
  (hgo:∀pre a post turn g,ks=pre++a::post->SS (Γ.frz g (dom (sg pre)) F) (mL ((x,turn)::mst pre.getLast?)) (sg pre) (execs body Γ.env) .next (mL (mst (some a))) (sg (pre++[a])))
  (hbrk:∀turn g,SS (Γ.frz g (dom (sg ks)) F) (mL ((x,turn)::mst ks.getLast?)) (sg ks) (execs body Γ.env) .brk (mL msE) (sg ks))
  (post:List α):∀(pre:List α) (xs:List Sh),ks=pre++post->post.length<xs.length->Turns Γ K F body (nm x) xs (mL (mst pre.getLast?)) (sg pre) .next (mL msE) (sg ks):=by
 induction post with
 |nil=>
  intro pre xs e h
  cases xs with
  |nil=>exact absurd h (Ed _)
  |cons y xs=>
  rw[Et] at e;subst e;refine .brk (hK _) fun g=>?_;have:=hbrk y g;rw[<-bR] at this;exact this
 |cons a post ih=>
  intro pre xs e h
  cases xs with
  |nil=>exact absurd h (Kr _)
  |cons y xs=>
  refine .cons (ms1:=mL (mst (some a))) (σ1:=sg (pre++[a])) (hK _) (fun g=>?_) ?_
  ·have:=hgo pre a post y g e;rw[<-bR] at this;exact this
  ·have:=ih (pre++[a]) xs (by rw[e,Ic];rfl) (Km h);rw[show(pre++[a]).getLast? = some a by simp] at this;exact this
theorem aBl{α:Type}{K:Sg->Prop}{T:Lbl->Prop}(ks:List α)(mst:Option α->List (Str×Sh))(msE:List (Str×Sh))(sg:List α->Sg)(it:ItE Γ (.Name x px) ms σ iter (sg []) K T F xs)(hm:ms=mL (mst none))(hK:∀z,K (sg z))(hl:ks.length<xs.length)
  (hgo:∀pre a post turn g,ks=pre++a::post->SS (Γ.frz g (dom (sg pre)) F) (mL ((x,turn)::mst pre.getLast?)) (sg pre) (execs body Γ.env) .next (mL (mst (some a))) (sg (pre++[a])))
  (hbrk:∀turn g,SS (Γ.frz g (dom (sg ks)) F) (mL ((x,turn)::mst ks.getLast?)) (sg ks) (execs body Γ.env) .brk (mL msE) (sg ks))
  (henv:Γ.env.scope=s0)(hk':s0.names.lookup x=some .local)(hc:Γ.env.cells.lookup x=none)(hF:∀l,Γ.F l->F l)(hfold:∀v,Dd iter Γ.env v=pure v:=by exact fun _=>rfl):
  SS Γ ms σ (exec (.For (.Name x px) iter body [] pos) Γ.env) .next (mL msE) (sg ks):=by
 subst hm;exact rU it (zR ks mst msE sg hK hgo hbrk ks [] xs rfl hl) henv hk' hc hF hfold
section
variable{k:KC}
theorem yG:isFn (Mine.hd.heap_1 P) (.ref k.next_key)=true:=by cases k <;> k_is
theorem xU:Keeps Γ (.ref k.next_key):=Keeps.K (by cases k <;> k_is)
theorem tU:isFn (Mine.hd.heap_1 P) (.ref k.update)=true:=by cases k <;> k_is
theorem tO:Keeps Γ (.ref k.update):=Keeps.K (by cases k <;> k_is)
theorem iB:isFn (Mine.hd.heap_1 P) (.ref k.delete)=true:=by cases k <;> k_is
theorem gZ:Keeps Γ (.ref k.delete):=Keeps.K (by cases k <;> k_is)
theorem aMr:isFn (Mine.hd.heap_1 P) (.ref k.copy)=true:=by cases k <;> k_is
theorem aMi:Keeps Γ (.ref k.copy):=Keeps.K (by cases k <;> k_is)
end
end
section
open PySem.SeqAt
open Sem (wp)
section
variable{b:Array UInt8}
theorem uX{c:UInt8}(hit:Gg s.heap it b t i)(hx:b[i]? = some c)
  (hQ:∀h',Gg h' it b t (i+1)->Ch it s.heap h'->Q (.int (c.toNat:Int) s.toks) {s with heap:=h',toks:=s.toks+1}):wpAny (model prog w) A (Builtin.SmallTypes.nextOf (.ref it)) Q E s:=by
 obtain⟨o,ho,hc,hd⟩:=id hit;refine Ab (Ig (name:=Hb "__next__") (Kp hit) Lr
  (Eb Lr (Kp hit) KBw.entry_next ?_ (KBw.args_next _)))
 show wpAny _ _ (field (.ref it) 0 >>= _) _ _ s;refine Ab (Gh ho hd (x:=.bytes b t) rfl ?_);refine Ab (Gh ho hd (x:=.int i 0) rfl ?_);refine Ab (Bc (a:=b) rfl ?_);simp only[Dq,hx];refine Ab (wpAny_setField ho hd (by simp) (Ab (wpAny_mkInt (Ak ⟨_,rfl,Ak (hQ _ ?_ (Dx ..))⟩))));exact⟨_,Dr _ ho (Obj.isFreed_of_fields (Obj.data_mapFields hd _)),(Obj.cls_mapFields ..).trans hc,by
  rw[Obj.data_mapFields hd];simp[Hg]⟩
theorem gX(hh:A.handled=none)(hit:Gg s.heap it b t i)(hx:b[i]? = none)
  (hE:∀h' e,Heap.ExtBut it s.heap h'->(∃o,h'.get? e=some o/\o.cls = .type "StopIteration")->E (.ref e) {s with heap:=h'}):wpAny (model prog w) A (Builtin.SmallTypes.nextOf (.ref it)) Q E s:=by
 obtain⟨o,ho,hc,hd⟩:=id hit;refine Ab (Ig (name:=Hb "__next__") (Kp hit) Lr
  (Eb Lr (Kp hit) KBw.entry_next ?_ (KBw.args_next _)))
 show wpAny _ _ (field (.ref it) 0 >>= _) _ _ s;refine Ab (Gh ho hd (x:=.bytes b t) rfl ?_);refine Ab (Gh ho hd (x:=.int i 0) rfl ?_);refine Ab (Bc (a:=b) rfl ?_);simp only[Dq,hx];refine Ab (Dy (Ab (wpAny_setField ho hd (by simp) ?_)));refine Ab ?_;refine Ab (Ii ?_ (by size_fits));refine Ab (m:=firstArgMember _ _) (Bc (a:=Lp) (by first|rfl| (simp only[firstArgMember];rfl)) ?_);refine Ii ?_ (by size_fits);refine Ab (wpAny_handled ?_)
 first|rw[show A.in1.handled=none from hh] |rw[hh]
 refine Ab (Ak (wpAny_throw ?_));exact hE _ _ (((Dx ..).extBut.push _).push _) ⟨_,Ao _ rfl,rfl⟩
end
theorem yI(hh:A.handled=none)(it:Addr)(b:Array UInt8)(t:Tok):
  Draws prog w A it [it] b.size (fun i v=>∃c u,b[i]? = some c/\v = .int (c.toNat:Int) u) (fun i h=>Gg h it b t i) where
 live:=fun _ _ st=>let⟨o,ho,_⟩:=st;⟨o,ho⟩
 frame:=fun _ _ _ st hk=>let⟨o,ho,r⟩:=st;⟨o,hk it (by simp) o ho,r⟩
 item:=fun i s Q E hi st hQ=>by
  refine uX st (c:=b[i]) (by simp[hi]) fun h' hit' hs'=>?_;exact hQ _ h' (s.toks+1) ⟨_,_,by simp[hi],rfl⟩ hit' hs'
 done:=fun s Q E st hE=>gX hh st (by simp) hE
theorem uL{M:Model}{Q:Bool->Ai->Prop}{g:List (Code×Pos)->Bool}(h:∀b,Q b s):wpAny M A stack (fun st s'=>wpAny M A (pure (g st)) Q E s') E s:=wpAny_stack_any fun _=>Ak (h _)
set_option maxHeartbeats 8000000 in
set_option tactic.hygienic true in
theorem xP(b:Array UInt8)(t:Tok):
  Meets (Builtin.«enumerate.__new__» ⟨[.type "enumerate",.bytes b t],[]⟩) (fun _ R s=>
   R (.ok (.ret (.ref (s.heap.push {cls:=.type "bytes_iterator",data:=.fields #[.bytes b t,.int 0 0]}).objs.size)))
    {s with heap:=(s.heap.push {cls:=.type "bytes_iterator",data:=.fields #[.bytes b t,.int 0 0]}).push {cls:=.type "enumerate",data:=.fields #[.none,.bool false,.ref s.heap.objs.size,Hg 0,.none,.none]}}):=
 .of_wp fun prog w A R s h=>by
  obtain⟨hp,g,d,tk,os⟩:=s;have hsub:=sub_enumerate
  wp_walk
  refine uL fun bo=>?_;cases bo
  ·wp_walk using Mt
   exact⟨_,rfl,h⟩
  ·wp_walk using Mt
   exact⟨_,rfl,h⟩
theorem aBc{b:Array UInt8}
  (h:∀h',IsEnum h' (s.heap.objs.size+1) s.heap.objs.size 0 .none->Gg h' s.heap.objs.size b t 0->h'.objs.size=s.heap.objs.size+2->
   (∀b o,s.heap.get? b=some o->h'.get? b=some o)->Q (.ref (s.heap.objs.size+1)) {s with heap:=h'}):
  wpAny (model prog w) A (call (.type "enumerate") [.bytes b t]) Q E s:=by
 refine callType_new F.called_enumerate (by decide) (F.typeCall_enumerate_1 _) (F.newCall_enumerate_1 _) (fun obj=>F.args_object_init_2 obj _) F.entry_enumerate_new
  (xP b t) ?_
 have hz:(s.heap.push {cls:=.type "bytes_iterator",data:=.fields #[.bytes b t,.int 0 0]}).objs.size=s.heap.objs.size+1:=Bz ..;show _/\_;rw[hz];have he:IsEnum ((s.heap.push {cls:=.type "bytes_iterator",data:=.fields #[.bytes b t,.int 0 0]}).push
   {cls:=.type "enumerate",data:=.fields #[.none,.bool false,.ref s.heap.objs.size,Hg 0,.none,.none]}) (s.heap.objs.size+1) s.heap.objs.size 0 .none:=by
  have:=Ao (s.heap.push {cls:=.type "bytes_iterator",data:=.fields #[.bytes b t,.int 0 0]})
   (o:={cls:=.type "enumerate",data:=.fields #[.none,.bool false,.ref s.heap.objs.size,Hg 0,.none,.none]}) rfl
  rw[hz] at this;exact this
 refine⟨⟨_,he,rfl⟩,h _ he ⟨_,Ae _ (Ao _ rfl),rfl,rfl⟩ (by rw[Bz,hz]) fun b o y=>Ae _ (Ae _ y)⟩
section
variable{mc:Str->Option Sh}
noncomputable def aCs(b:List UInt8):List Sh:=b.zipIdx.map fun p=>.tup [.int (p.2:Int),.int (p.1.toNat:Int)]
theorem tX{b:List UInt8}:(aCs b)[i]? = b[i]?.map fun x=>.tup [.int (i:Int),.int (x.toNat:Int)]:=by
 unfold aCs;rw[Ci,List.getElem?_zipIdx]
 cases b[i]? <;> simp
theorem aKk{elts:List Aj}{x1:Nat}{b:Array UInt8}{ρ0:Lbl->Addr}{e:Addr}(hei:e≠it):
  Itr Γ (.Tuple elts x1 px) (fun _=>True) noF noF (aCs b.toList) ρ0 e (fun a=>a=e\/a=it) (fun i h=>(∃old,IsEnum h e it i old)/\Gg h it b t i):=
 {ob:=fun i h ⟨⟨old,he⟩,o,ho,hc,hd⟩ a ha=>by
   rcases ha with rfl|rfl
   ·exact⟨_,he,fun vs q=>by have:=congrArg Obj.data q;cases this⟩
   ·exact⟨o,ho,fun vs q=>by rw[q] at hd;cases hd⟩
  frame:=fun i h h' ⟨⟨old,he⟩,o,ho,r⟩ k _=>⟨⟨old,k _ (.inl rfl) _ he⟩,o,k _ (.inr rfl) _ ho,r⟩
  self:=fun i st q=>wpAny_pyIter_enum st.1.choose_spec q
  next:=fun {ms' σ' c' s' Q' E'} i sh hi k a' hs' hρ st q'=>by
   rw[tX] at hi;rw[<-hs'] at st
   cases eb:b.toList[i]? with
   |none=>rw[eb] at hi;cases hi
   |some u=>
   rw[eb] at hi;cases hi;obtain⟨⟨old,he⟩,hst⟩:=st;have hlt:i<b.size:=by
    have:=(As.mp eb).1;simpa using this
   refine wpAny_pyNext_enum_itemD (yI (A:=Γ.Ad.in1) a'.ok.hh it b t) he hst hlt hei (by simpa using hei) fun x h' tk hP ho hst' hT hz hk=>?_;refine bc fun nq=>?_;obtain⟨c2,u2,hc2,rfl⟩:=hP;have hcu:c2=u:=by
    have:b.toList[i]? = some c2:=by simpa using hc2
    rw[eb] at this;cases this;rfl
   subst hcu;have helt:e<s'.heap.objs.size:=Aw he;have hilt:it<s'.heap.objs.size:=by obtain⟨_,y,_⟩:=hst;exact Aw y
   refine nq ?_;refine fun E'=>wpAny_letOwnedTupleGo_enum ho fun h2 he2 hs2=>?_;refine q' _ h2 (tk+1) (fun _=>.tup _ _ _ ((hs2.2 _ (Da helt)).trans hT:h2.get? s'.heap.objs.size=some (cY [.int i tk,.int (c2.toNat:Int) u2])) (.cons (.int _ _) (.cons (.int _ _) .nil))) (fun a o n e=>?_) ⟨⟨_,by simpa using he2⟩,?_⟩
   ·exact(hs2.2 a (fun q=>n (.inl q))).trans (hk a o (fun q=>n (.inl q)) (fun q=>n (.inr q)) (hs'▸e))
   ·obtain⟨o,ho',r⟩:=hst';exact⟨o,(hs2.2 it (Bw hei)).trans ho',r⟩
  done:=fun {ms' σ' c' s' Q' E'} i hi k a' hs' hρ st q'=>by
   rw[tX] at hi;rw[<-hs'] at st;obtain⟨⟨old,he⟩,hst⟩:=st;have hge:b.toList[i]? = none:=by
    cases eb:b.toList[i]? with
    |none=>rfl
    |some u=>rw[eb] at hi;cases hi
   have hTy:s'.TypeIs (.ref e) "enumerate":=⟨_,he,rfl⟩;refine Ab (Ot (Ig (name:=Hb "__next__") hTy F.slot_enumerate_next
    (Eb F.slot_enumerate_next hTy F.entry_enumerate_next ?_ (F.args_enumerate_next_1 _))))
   show wpAny _ _ (field (.ref e) 2 >>= _) _ _ _;refine Ab (Gh he rfl (x:=.ref it) rfl ?_);refine Ab (gX a'.ok.hh hst (by simpa using hge) fun h' x he' hx'=>?_);obtain⟨o,ho,hc⟩:=hx';refine Ab (Fi (T:="StopIteration") (b:=true) ⟨o,ho,hc⟩ isSubtype_stop ?_);exact Ak (q' h' s'.toks fun a o n e=>he' a o (fun q=>n (.inr q)) (hs'▸e))}
theorem zE{elts:List Aj}{x1:Nat}{b:List UInt8}(h0:EV Γ ms σ (eval fe Γ.env) (.con (.type "enumerate")) σ)(h1:EV Γ ms σ (eval e Γ.env) (.bytes b) σ1)(ok:iS [e]=true)
  (hc:eval (.Call fe [e] [] pos) Γ.env=(do Gs pos (<-eval fe Γ.env) [] (Cc pos (Av [e] Γ.env)) (Ht pos (Fh [] Γ.env)))):ItE Γ (.Tuple elts x1 px) ms σ (.Call fe [e] [] pos) σ1 (fun _=>True) noF noF (aCs b):=
 ⟨h1.dom,fun _ _ _ h=>h.elim,fun _ h=>h.elim,fun c s Q E a hs q=>by
  rw[hc];refine h0.bind a hs fun u c1 t1 i1 a1 s1=>?_;obtain rfl:=i1.con_inv;refine gO (fsh:=[]) (first:=[]) (.inr (.inl ⟨_,rfl⟩)) (aJ h1 aV (rN ok)) (fZ ok) (pH ok) c1 _ _ E a1 rfl .nil fun vs c2 t2 i2 a2 s2=>?_;obtain⟨v,iv⟩:=i2.one;obtain⟨t,rfl⟩:=iv.bytes_inv;refine wpN.of (aBc fun h' he' hit hz hk=>?_);dsimp only at he' hit hz hk;refine wpAny_pyIter_enum he' ?_;refine q c2 _ _ h' t2 _ a2 (s1.trans s2) (aKk (Γ:=Γ) (px:=px) (elts:=elts) (x1:=x1) (b:=b.toArray) (t:=t) (ρ0:=c2.ρ) (e:=c2.h.objs.size+1) (it:=c2.h.objs.size) (Nat.succ_ne_self _)) (fun a ha=>?_) hk ⟨⟨_,he'⟩,hit⟩;rcases ha with rfl|rfl
  ·exact Cs _
  ·exact Bs _⟩
theorem TgOk.of{tg:Aj}{ms':Str->Option Sh}(h:AS Γ ms σ tg sh ms' σ):TgOk Γ tg sh ms ms' σ:=⟨fun c s v Q E a hs i q=>h.run c s v Q E a hs i q⟩
noncomputable def pr(x y:Str):(Str->Option Sh)->Sh->Str->Option Sh:=fun ms sh=>match sh with
 | .tup [a,b]=>setm (setm ms x a) y b
 |_=>ms
theorem pr_or(x y:Str)(ms:Str->Option Sh)(sh:Sh):pr x y ms sh=ms\/∃a b,pr x y ms sh=setm (setm ms x a) y b:=by
 cases sh with
 |tup l=>
  cases l with
  |nil=>exact .inl rfl
  |cons a l=>
   cases l with
   |nil=>exact .inl rfl
   |cons b l=>
    cases l with
    |nil=>exact .inr ⟨a,b,rfl⟩
    |cons=>exact .inl rfl
 |_=>exact .inl rfl
noncomputable def aPm(sh:Sh):Prop:=∃a b,sh = .tup [a,b]
theorem aGk{mc:List (Str×Sh)}{y:Str}{k:Nat}(hcl:∀y b,cl.lookup y=some b->Γ.env.cells.lookup y=some b)(hmc:mLe (mL mc) (mL ml))(hmd:∀y∈mc.map (·.1),∀C,(Cp sc cl C Γ.env).kindOf y≠some .local)
  (hkind:sc.kind = .function)(hx:sc.names.lookup x=some .local)(hy:sc.names.lookup y=some .local)(hxc:cl.lookup x=none)(hyc:cl.lookup y=none)(hcm:∀y sh,mL ml y=some sh->(cl.lookup y).isSome=true->mL mc y=some sh)(hcs:∀z,(cl.lookup z).isSome=true->z≠x/\z≠y):
  CpOk Γ (mL ml) (mL mc) sc cl (pr x y) (.Tuple [.Name x p1,.Name y p2] k pt) aPm:=
 {hcl:=hcl
  hmc:=hmc
  hmd:=(jV (px:=p1) hcl hmc hmd hkind hx hxc hcm).hmd
  hkind:=hkind
  hcm:=fun sh z v e h=>by
   have:=hcm z v e h;rcases pr_or x y (mL mc) sh with q| ⟨a,b,q⟩ <;> rw[q]
   ·exact this
   ·obtain⟨n1,n2⟩:=hcs z h;unfold setm;rw[if_neg n2,if_neg n1];exact this
  hT:=fun C g P F sh σ ⟨a,b,e⟩=>by
   subst e;show TgOk _ _ _ _ (setm (setm (mL mc) x a) y b) _;rw[bR,bR];refine TgOk.of (jS (dP (jW rfl (Jd hx) hxc) (dP (jW rfl (Jd hy) hyc) mU rfl) rfl) rfl rfl)}
theorem aKq{α:Type}{K:Sg->Prop}{T:Lbl->Prop}{xs:List α}{mc:List (Str×Sh)}{y:Str}{k:Nat}(fx fy:α->Sh)(z:α->Sh)(n:Lbl)(it:ItE Γ (.Tuple [.Name x p1,.Name y p2] k pt) (mL ml) σ iter σ1 K T F (xs.map fun a=>.tup [fx a,fy a]))
  (O:CpOk Γ (mL ml) (mL mc) sc cl (pr x y) (.Tuple [.Name x p1,.Name y p2] k pt) aPm)(hclos:Gk sc Γ.env=pure cl)(hK:K σ1)(hn:σ1 n=none)
  (h:∀a g C,a∈xs->EV (Γ.cmp sc cl C g (dom σ1) F) (mL ((y,fy a)::(x,fx a)::mc)) σ1 (eval elt (Cp sc cl C Γ.env)) (z a) σ1)
  (hF:∀l,Γ.F l->F l)(hz:xs.length<=1000)(hcell:∀y∈sc.names,y.2≠.cell:=by decide +kernel)(hnames:∀y∈sc.names,y.2 = .local->sc.names.lookup y.1=some .local:=by decide +kernel)(hfold:∀v,Dd iter Γ.env v=pure v:=by exact fun _=>rfl):
  EV Γ (mL ml) σ (eval (.ListComp elt [⟨.Tuple [.Name x p1,.Name y p2] k pt,iter,[],0⟩] sc pos) Γ.env) (.ref n) (upd σ1 n (.list (xs.map z))):=by
 refine wM n it ?_ O hF (by simpa using hz) hn hclos hcell hnames hfold (Dom.refl _) (fun sh hsh=>by
  obtain⟨a,_,rfl⟩:=Aq.mp hsh;exact⟨_,_,rfl⟩)
 clear it hz
 induction xs with
 |nil=>exact .nil hK
 |cons a xs ih=>
  refine .cons hK (fun g C=>aBj) (fun g C=>?_) (ih fun b g C m=>h b g C (.tail _ m));have:=h a g C (.head _);rw[<-bR,<-bR] at this;exact this
end
end
section
open PySem.SeqAt
noncomputable def aGe{α:Type}(lt:Nat->Nat->Bool):KasT α->α
 | .ret a=>a
 | .ask i j k=>aGe lt (k (lt i j))
noncomputable def KBd{α:Type}(n:Nat)(P:α->Prop):KasT α->Prop
 | .ret a=>P a
 | .ask i j k=>i<n/\j<n/\∀b,KBd n P (k b)
theorem KBd.bind{α β:Type}{P:α->Prop}{P':β->Prop}{f:α->KasT β}(hf:∀a,P a->KBd n P' (f a)):∀{t:KasT α},KBd n P t->KBd n P' (t.bind f)
 | .ret a,h=>hf a h
 | .ask _ _ _,⟨h1,h2,h3⟩=>⟨h1,h2,fun b=>KBd.bind hf (h3 b)⟩
theorem KBd.wp{α:Type}{P:α->Prop}{lt:Nat->Nat->Bool}{cmp:Nat->Nat->(Bool->Ai->Prop)->Ai->Prop}(hc:∀i j C,i<n->j<n->C (lt i j) s->cmp i j C s){Q:α->Ai->Prop}:∀{t:KasT α},KBd n P t->Q (aGe lt t) s->t.kasWp cmp Q s
 | .ret _,_,h=>h
 | .ask i j k,⟨h1,h2,h3⟩,h=>hc i j _ h1 h2 (KBd.wp hc (h3 (lt i j)) h)
theorem KBd.run{α:Type}{P:α->Prop}{lt:Nat->Nat->Bool}:∀(t:KasT α),KBd n P t->P (aGe lt t)
 | .ret _,h=>h
 | .ask i j k,⟨_,_,h3⟩=>KBd.run (k (lt i j)) (h3 (lt i j))
noncomputable def Below'(n:Nat)(p:Array Nat):Prop:=p.size=n/\∀a∈p,a<n
theorem Below'.get{p:Array Nat}(h:Below' n p)(h0:0<n)(i:Nat):p.getD i 0<n:=by
 by_cases hi:i<p.size
 ·have:p.getD i 0=p[i]:=by simp[Array.getD,hi]
  rw[this];exact h.2 _ (Array.getElem_mem hi)
 ·have:p.getD i 0=0:=by simp[Array.getD,hi]
  rw[this];exact h0
theorem Below'.perm{p q:Array Nat}(h:Below' n p)(e:q.Perm p):Below' n q:=⟨e.size_eq.trans h.1,fun a ha=>h.2 a (e.mem_iff.mp ha)⟩
theorem Below'.rev{p:Array Nat}(h:Below' n p):Below' n (kas_rev p i j):=h.perm (mirror_perm _ _ _ _)
theorem Below'.bub{p:Array Nat}(h:Below' n p):Below' n (bubble p i j):=h.perm (bubble_perm _ _ _)
section
variable(h0:0<n)
include h0
theorem aAl{p:Array Nat}(h:Below' n p):∀f k,KBd n (fun _=>True) (kas_asc p f k)
 |0,_=>trivial
 |f+1,k=>⟨h.get h0 _,h.get h0 _,fun c=>by
  cases c with
  |true=>exact trivial
  |false=>exact aAl h f (k+1)⟩
theorem pF:∀f {p:Array Nat} k q,Below' n p->KBd n (fun r=>Below' n r.1) (kas_desc f p k q)
 |0,_,_,_,h=>h
 |f+1,p,k,q,h=>⟨h.get h0 _,h.get h0 _,fun c=>by
  cases c with
  |true=>
   show KBd n _ (if q>0 then _ else _)
   split
   ·exact pF f _ _ h.rev
   ·exact pF f _ _ h
  |false=>
   show KBd n _ (KasT.ask _ _ _);exact⟨h.get h0 _,h.get h0 _,fun d=>by
    cases d with
    |true=>exact h
    |false=>exact pF f _ _ h⟩⟩
theorem xW{p:Array Nat}{k r:Nat}(h:Below' n p):KBd n (fun r:Nat×Array Nat=>Below' n r.2) (kas_tail3 k r p):=by
 unfold kas_tail3;refine KBd.bind (P:=fun _=>True) (fun a _=>?_) (aAl h0 h.rev _ _);exact(h.rev:Below' n (kas_rev p 0 k))
theorem oG{p:Array Nat}{k r:Nat}(h:Below' n p):KBd n (fun r=>Below' n r.2) (kas_descPart k r p):=KBd.bind (fun a ha=>by
 split
 ·exact xW h0 (Below'.rev ha)
 ·exact xW h0 ha) (pF h0 _ _ _ h)
theorem aHt{p:Array Nat}{r:Nat}(h:Below' n p):KBd n (fun r=>Below' n r.2) (kas_count r p):=KBd.bind (fun a _=>by
 split
 ·exact h
 ·split
  ·exact⟨h.get h0 _,h.get h0 _,fun c=>by
    cases c with
    |true=>exact h
    |false=>exact oG h0 h.rev⟩
  ·exact oG h0 h) (aAl h0 h _ _)
theorem qT{p:Array Nat}(h:Below' n p):∀f k l r,KBd n (fun _=>True) (kas_place p k f l r)
 |0,_,_,_=>trivial
 |f+1,k,l,r=>by
  unfold kas_place
  split
  ·exact trivial
  ·exact⟨h.get h0 _,h.get h0 _,fun c=>by
    cases c with
    |true=>exact qT h f k _ _
    |false=>exact qT h f k _ _⟩
theorem aHu:∀f {p:Array Nat} k,Below' n p->KBd n (Below' n) (kas_bin f p k)
 |0,_,_,h=>h
 |f+1,_,k,h=>KBd.bind (fun _ _=>aHu f (k+1) h.bub) (qT h0 h _ _ _ _)
theorem aMk:KBd n (Below' n) (kas_sort n):=KBd.bind (fun a ha=>by
 split
 ·exact aHu h0 _ _ ha
 ·exact ha) (aHt h0 ⟨by simp,fun a ha=>by simpa using ha⟩)
end
noncomputable def mX(n:Nat)(lt:Nat->Nat->Bool):List Nat:=if n<2 then Jg n else(aGe lt (kas_sort n)).toList
noncomputable def Prs(h:Heap):List (Int×List UInt8)->List Value->Prop
 | [],[]=>True
 |p::ps,v::vs=>(∃a t u,v = .ref a/\h.get? a=some (cY [.int p.1 t,.bytes p.2.toArray u]))/\Prs h ps vs
 |_,_=>False
theorem Prs.ind{P:List (Int×List UInt8)->List Value->Prop}(h0:P [] [])(h1:∀{p:Int×List UInt8} {ps vs} a t u,h.get? a=some (cY [.int p.1 t,.bytes p.2.toArray u])->Prs h ps vs->P ps vs->P (p::ps) (.ref a::vs)):∀{vs:List Value},Prs h ps vs->P ps vs:=by
 induction ps with
 |nil=>intro vs r;cases vs with|nil=>exact h0|cons _ _=>exact r.elim
 |cons p ps ih=>
  intro vs r
  cases vs with
  |nil=>exact r.elim
  |cons v vs=>
  obtain⟨⟨a,t,u,rfl,g⟩,r⟩:=r;exact h1 a t u g r (ih r)
theorem Prs.length(r:Prs h ps vs):vs.length=ps.length:=
 r.ind (P:=fun ps vs=>vs.length=ps.length) rfl fun _ _ _ _ _ e=>congrArg (· + 1) e
theorem Prs.get(r:Prs h ps vs):i<ps.length->∃a t u,vs.getD i .none = .ref a/\h.get? a=some (cY [.int (ps.getD i (0,[])).1 t,.bytes (ps.getD i (0,[])).2.toArray u]):=
 r.ind (P:=fun ps vs=>∀{i:Nat},i<ps.length->∃a t u,vs.getD i .none = .ref a/\h.get? a=some (cY [.int (ps.getD i (0,[])).1 t,.bytes (ps.getD i (0,[])).2.toArray u])) (fun h=>absurd h (Kr _)) (fun a t u g _ ih i hi=>by
  cases i with
  |zero=>exact⟨a,t,u,rfl,g⟩
  |succ i=>exact ih (Km hi))
theorem Prs.at'(r:Prs h ps vs)(k:∀a ws,h.get? a=some (cY ws)->h'.get? a=some (cY ws)):Prs h' ps vs:=
 r.ind (P:=Prs h') trivial fun a t u g _ r=>⟨⟨a,t,u,rfl,k _ _ g⟩,r⟩
theorem Prs.tups(r:Prs h ps vs):∃fs,KatTups h vs fs/\fs.length=ps.length/\∀v∈fs,∃n t,v = .int n t:=
 r.ind (P:=fun ps vs=>∃fs,KatTups h vs fs/\fs.length=ps.length/\∀v∈fs,∃n t,v = .int n t) ⟨[],trivial,rfl,fun _ h=>nomatch h⟩ fun {p ps vs} a t u g _ ih=>by
  obtain⟨fs,h1,h2,h3⟩:=ih;exact⟨.int p.1 t::fs,KatTups.cons g rfl rfl rfl h1,congrArg (· + 1) h2,fun v hv=>by
   rcases An.mp hv with rfl|hv
   ·exact⟨_,_,rfl⟩
   ·exact h3 v hv⟩
noncomputable def pLt(ps:List (Int×List UInt8))(i j:Nat):Bool:=decide ((ps.getD i (0,[])).1< (ps.getD j (0,[])).1)
theorem aRf(hP:Prs s.heap ps vs)(nd:(ps.map (·.1)).Nodup)(hi:i<ps.length)(hj:j<ps.length){C:Bool->Ai->Prop}(h:C (pLt ps i j) s):
  wpAny (model prog w) A (keyLt' (tuples' true) (vs.getD i Lp) (vs.getD j Lp)) C E s:=by
 refine bc fun nq=>?_;obtain⟨a,t,u,e1,g1⟩:=hP.get hi;obtain⟨b,t2,u2,e2,g2⟩:=hP.get hj;refine nq ?_;rw[e1,e2];refine kat_lt g1 rfl g2 rfl ?_;refine kat_cons (wpAny_eqBool_int ?_);by_cases q:(ps.getD i (0,[])).1=(ps.getD j (0,[])).1
 ·have hij:i=j:=by
   have h1:(ps.map (·.1))[i]'(by rw[Ag];exact hi)=(ps.map (·.1))[j]'(by rw[Ag];exact hj):=by
    simpa[Kf,hi,hj] using q
   exact(List.getElem_inj nd).mp h1
  subst hij;rw[e1] at e2;cases e2;rw[g1] at g2;obtain⟨rfl⟩:u=u2:=by
   have:=congrArg (fun o:Option Obj=>o.map fun o=>match o.data with| .seq xs _=>xs[1]? |_=>none) g2
   simpa using this
  rw[(show pLt ps i i=false by unfold pLt;simp)] at h;rw[beq_self_eq_true];refine kat_yes (kat_cons ?_);refine Dv ?_;rw[if_pos (by simp)];refine Ab (Dy (Ak ?_));exact kat_yes (kat_nil (by simpa using h))
 ·rw[beq_eq_false_iff_ne.mpr q];exact kat_no (oneLt_int h)
end
section
open PySem.SeqAt
noncomputable abbrev bD{α:Type}(ps:List (Int×List UInt8))(vs:List α)(d:α):List α:=(mX ps.length (pLt ps)).map fun i=>vs.getD i d
theorem zZ{α:Type}(vs:List α)(d:α):(Jg vs.length).map (fun i=>vs.getD i d)=vs:=by
 apply List.ext_getElem?;intro i;rw[Ci];by_cases h:i<vs.length
 ·rw[Hf h,Ba h];simp[h]
 ·rw[El (by simp;exact Fc.mp h),El (by exact Fc.mp h)];rfl
theorem qL{a:Addr}{P:Kz->Ai->Prop}(ho:s.heap.get? a=some (Fx "list" vs.toArray n))(hP:Prs s.heap ps vs)(nd:(ps.map (·.1)).Nodup)(h64:ps.length<64)
  (h:P (.done (.ret .none)) {s with heap:=sortedHeap s.heap a vs (bD ps vs .none).toArray}):wpAny (model prog w) A (Builtin.«list.sort» ⟨[.ref a],[]⟩) P E s:=by
 have hl:=hP.length;rw[list_sort_plain];have ha:a<s.heap.objs.size:=Aw ho;refine Ab (listItems_at ho rfl ?_);refine Ab (Ox ho rfl ?_ (by rw[Bg,Bh];exact uW (nX hl h64)) (Fa _));obtain⟨e1,ho1⟩:∃e1,(s.heap.update a (Dw fun _=>#[])).get? a=some (Fx "list" #[] e1):=⟨_,get?_update_seq ho (fun _=>#[])⟩;refine Ab (seqEpoch_at ho1 rfl ?_);refine Ab (wpAny_newTuple ?_ (by show vs.length<=_;rw[Bh];exact uW (nX hl h64)));refine Ab (Mi ?_ (Fa _));refine Dv ?_;have hP':Prs (((s.heap.update a (Dw fun _=>#[])).push (Fx "tuple" vs.toArray 0)).push (Fx "list" #[] 0)) ps vs:=hP.at' fun b ws e=>by
  have hb:b≠a:=fun q=>by
   rw[q,ho] at e;injection e with e;have:=congrArg Il e;injection this with q;exact absurd q (by decide)
  exact Ae _ (Ae _ ((Heap.get?_update_ne _ _ _ _ hb).trans e))
 have ho6:(((s.heap.update a (Dw fun _=>#[])).push (Fx "tuple" vs.toArray 0)).push (Fx "list" #[] 0)).get? a=some (Fx "list" #[] e1):=Ae _ (Ae _ ho1);show wpAny (model prog w) A _ P E {s with heap:=((s.heap.update a (Dw fun _=>#[])).push (Fx "tuple" vs.toArray 0)).push (Fx "list" #[] 0)};dsimp only;have hsz:vs.toArray.size=vs.length:=by simp
 by_cases h2:vs.toArray.size<2
 ·rw[if_pos h2,if_pos h2];refine Ab (Ak ?_);refine Ab (Ak ?_);dsimp only;refine Ab (seqEpoch_at ho6 rfl ?_);have eo:(arrOf (SortSt.mk' general' (vs.toArray.zip vs.toArray) #[] 7 none)).map (·.2)=(bD ps vs .none).toArray:=by
   have e3:bD ps vs .none=vs:=by
    unfold bD mX;rw[if_pos (by exact nX (Eq.symm (Gj hsz hl)) h2),<-hl];exact zZ vs _
   rw[e3];apply Mh.mp;rw[Array.toList_map,Array.toList_zip];exact List.map_snd_zip (Bs _)
  rw[eo];have hlo:(bD ps vs Lp).toArray.size<=sizeLine:=by
   rw[Bg,Ag,Bh];unfold mX;rw[if_pos (by exact nX (Eq.symm (Gj hsz hl)) h2),List.length_range];exact uW h64
  refine Ab (Ox ho6 rfl ?_ (Fa _) (Ar hlo (Cs _)));simp only[bne_self_eq_false,Bool.false_eq_true,if_false];exact Ak h
 ·rw[if_neg h2,if_neg h2];refine bc fun nq=>?_;obtain⟨fs,t1,t2,t3⟩:=hP'.tups;refine nq ?_;refine Ab (kat_kind (T:=.type "int") t1 (by exact aHk (tM (Fc.mp h2) (Gj (Gj hsz hl) t2.symm))) (fun v hv=>by
   obtain⟨n,t,rfl⟩:=t3 v hv;exact Fk rfl) (by decide) ?_)
  have hB:=aMk (n:=ps.length) (by exact aHk (tM (Fc.mp h2) (Gj hsz hl)));refine Ab (Ey (kat_run (prog:=prog) (w:=w) (A:=A) (E:=E) (κ:=tuples' true) (ks:=vs) (vs:=vs) (Q:=fun st' s'=>s'={s with heap:=((s.heap.update a (Dw fun _=>#[])).push (Fx "tuple" vs.toArray 0)).push (Fx "list" #[] 0)}/\arrOf st'=(aGe (pLt ps) (kas_sort ps.length)).map (kas_item (vs.toArray.zip vs.toArray))/\failedOf st'=none)
   (G:=fun p s'=>s'={s with heap:=((s.heap.update a (Dw fun _=>#[])).push (Fx "tuple" vs.toArray 0)).push (Fx "list" #[] 0)}/\p=aGe (pLt ps) (kas_sort ps.length)) rfl (show 2<=vs.length by exact tM (Fc.mp h2) hsz) (by exact nX hl h64) (fun p st' s' a1 a2 a3 a4=>⟨a4.1,a4.2▸a2,a3⟩) ?_) ?_ fun _ _ e=>e)
  ·rw[hl];exact KBd.wp (P:=Below' ps.length) (lt:=pLt ps) (fun i j C hi hj hC=>aRf hP' nd hi hj hC) hB ⟨rfl,rfl⟩
  rintro⟨⟨⟩,st'⟩ s' ⟨rfl,har,hf⟩
  refine Ab (seqEpoch_at ho6 rfl ?_);have eo:(arrOf st').map (·.2)=(bD ps vs .none).toArray:=by
   rw[kat_snds rfl har];unfold bD mX;rw[if_neg (by exact Fc.mpr (tM (Fc.mp h2) (Gj hsz hl)))]
  rw[eo];have hlo:(bD ps vs Lp).toArray.size<=sizeLine:=by
   rw[Bg,Ag,Bh];unfold mX;rw[if_neg (by exact Fc.mpr (tM (Fc.mp h2) (Gj hsz hl))),He,(KBd.run (lt:=pLt ps) _ hB).1];exact uW h64
  refine Ab (Ox ho6 rfl ?_ (Fa _) (Ar hlo (Cs _)));rw[hf];simp only[bne_self_eq_false,Bool.false_eq_true,if_false];exact Ak h
theorem aLl{l:Addr}(hl:s.heap.IsList l vs.toArray)(hP:Prs s.heap ps vs)(nd:(ps.map (·.1)).Nodup)(h64:ps.length<64)
  (h:Q (.ref (s.heap.objs.size+1)) {s with heap:=Js s.heap vs (bD ps vs .none).toArray}):wpAny (model prog w) A (call (.builtin "sorted") [.ref l]) Q E s:=by
 have hlen:=hP.length;refine Calls.call_function_entry kind_sorted plain_sorted entry_sorted (args_sorted1 _) ?_;refine Ab (m:=checkCount "sorted" 1 1 _) (Ak ?_);refine Ab (collect_list hl ?_ (by rw[Bh];exact uW (nX hlen h64)));refine Ab (Mi ?_ (by rw[Bh];exact uW (nX hlen h64)));have hsz:((s.heap.push (Fx "list" #[] 0)).update s.heap.objs.size (Dw (· ++ vs.toArray))).objs.size=s.heap.objs.size+1:=by
  rw[Heap.size_update,size_push']
 have hoL:(((s.heap.push (Fx "list" #[] 0)).update s.heap.objs.size (Dw (· ++ vs.toArray))).push (Fx "list" vs.toArray 0)).get? (s.heap.objs.size+1)=some (Fx "list" vs.toArray 0):=by
  rw[<-hsz];exact Ao _ rfl
 have keep:∀b o,s.heap.get? b=some o->(((s.heap.push (Fx "list" #[] 0)).update s.heap.objs.size (Dw (· ++ vs.toArray))).push (Fx "list" vs.toArray 0)).get? b=some o:=fun b o q=>by
  have hlt:b<s.heap.objs.size:=Aw q;rw[Heap.get?_push_ne _ _ _ (by rw[hsz];exact Bn (Au hlt)),Heap.get?_update_ne _ _ _ _ (Bn hlt),Heap.get?_push_ne _ _ _ (Bn hlt)];exact q
 rw[hsz];refine Ab (Dv (Eb slot_list_sort ⟨_,hoL,rfl⟩ entry_list_sort (qL hoL (hP.at' fun b ws e=>keep b _ e) nd h64 ⟨_,rfl,?_⟩) (args_list_sort _)));exact Ak ⟨_,rfl,h⟩
theorem xG{kvs:List (Int×Value)}{r d:Addr}(hh:A.handled=none)(hv:s.heap.IsItemsView r d)(hm:s.heap.DictAt (Ea prog w) d kvs ep)(hk:kvs.length=ps.length)(hps:∀(j:Nat) k v,kvs[j]? = some (k,v)->∃b t,ps[j]? = some (k,b)/\v = .bytes b.toArray t)
  (nd:(ps.map (·.1)).Nodup)(h64:ps.length<64)
  (h:∀h1 h' tk vs n,(∀b o,s.heap.get? b=some o->h1.get? b=some o)->(∀b o,h1.get? b=some o->h'.get? b=some o)->Prs h1 ps vs->h'.get? h1.objs.size=some (listOf (bD ps vs .none).toArray n)->Q (.ref h1.objs.size) {s with heap:=h',toks:=tk}):
  wpAny (model prog w) A (call (.builtin "sorted") [.ref r]) Q E s:=by
 refine call_function_entry kind_sorted plain_sorted entry_sorted (args_sorted1 _) ?_;refine Ab (m:=checkCount "sorted" 1 1 _) (Ak ?_);refine Ab (kdx_collect (A:=A.in1) (knd:=Ea prog w) (kvs:=kvs) (ep:=ep) hh hv hm (by rw[hk,Bh];exact uW h64) fun h' tk as hkp hl hG=>?_);have hP:Prs h' ps (as.map Ec):=by
  have go:∀(as:List Addr) (ps:List (Int×List UInt8)) (n:Nat),as.length=ps.length->(∀(j:Nat) a,as[j]? = some a->∃key k x,kvs[n+j]? = some (k,x)/\(Ea prog w).is k key=true/\h'.get? a=some {cls:=.type "tuple",data:=.seq #[key,x]})->(∀(j:Nat) k v,kvs[n+j]? = some (k,v)->∃b t,ps[j]? = some (k,b)/\v = .bytes b.toArray t)->Prs h' ps (as.map Ec):=by
   intro as
   induction as with
   |nil=>intro ps n e _ _;cases ps with|nil=>exact trivial|cons=>cases e
   |cons a as ih=>
    intro ps n e h1 h2
    cases ps with
    |nil=>cases e
    |cons p ps=>
     refine⟨?_,ih ps (n+1) (by simpa using e) (fun j b hj=>by have:=h1 (j+1) b (by simpa using hj);rwa[show n+(j+1)=n+1+j by exact z50] at this) (fun j k v hj=>by have:=h2 (j+1) k v (by rwa[show n+(j+1)=n+1+j by exact z50]);simpa using this)⟩;refine bc fun nq=>?_;obtain⟨key,k,x,hx,hkey,ha⟩:=h1 0 a rfl;obtain⟨b,t,hb,rfl⟩:=h2 0 k x hx;have:p=(k,b):=by simpa using hb
     subst this;obtain⟨t0,rfl⟩:=Is.int_inv (aCf (σ:=fun _=>none) (c:=⟨fun _=>0,h'⟩) (w:=w) (k:=k) (v:=key) hkey);refine nq ?_;exact⟨a,t0,t,rfl,ha⟩
  exact go as ps 0 (by rw[hl,hk]) (fun j a ha=>by rw[Fo];exact hG.pairs j a ha) (fun j k v hj=>by rw[Fo] at hj;exact hps j k v hj)
 refine Ab (Mi ?_ (by rw[Ag,hl,hk,Bh];exact uW h64));have hoL:(h'.push (Fx "list" (as.map Ec).toArray 0)).get? h'.objs.size=some (Fx "list" (as.map Ec).toArray 0):=Ao _ rfl;refine Ab (Dv (Eb slot_list_sort ⟨_,hoL,rfl⟩ entry_list_sort (qL (s:={s with heap:=h'.push (Fx "list" (as.map Ec).toArray 0),toks:=tk}) hoL (hP.at' fun b ws e=>Ae _ e) nd h64 ⟨_,rfl,?_⟩) (args_list_sort _)));have lt:∀b o,h'.get? b=some o->(sortedHeap (h'.push (Fx "list" (as.map Ec).toArray 0)) h'.objs.size (as.map Ec) (bD ps (as.map Ec) .none).toArray).get? b=some o:=fun b o e=>by
  have hb:=Aw e;rw[sortedHeap_old (Bn hb) (by rw[size_push'];exact Au hb)];exact Ae _ e
 obtain⟨n,hn⟩:=sortedHeap_at (out:=(bD ps (as.map Ec) .none).toArray) hoL;exact Ak ⟨_,rfl,h h' _ tk (as.map Ec) n hkp lt hP hn⟩
end
section
open PySem.SeqAt
noncomputable abbrev fC(p:Int×List UInt8):Sh:=.tup [.int p.1,.bytes p.2]
theorem IsAll.prs:∀{vs:List Value},IsAll σ c (ps.map fC) vs->Prs c.h ps vs:=by
 induction ps with
 |nil=>intro vs h;obtain rfl:=h.nil_inv;trivial
 |cons p ps ih=>
  intro vs h;obtain⟨v,r,rfl,i,r⟩:=h.cons_inv;refine⟨?_,ih r⟩;refine bc fun nq=>?_;obtain⟨a,vs,rfl,h,j⟩:=i.tup_inv;obtain⟨x,y,j1,j2⟩:=j.two;obtain⟨t,rfl⟩:=j1.int_inv;obtain⟨u,rfl⟩:=j2.bytes_inv;refine nq ?_;exact⟨a,t,u,rfl,h⟩
theorem Prs.isAll(h:Prs c.h ps vs):IsAll σ c (ps.map fC) vs:=
 h.ind (P:=fun ps vs=>IsAll σ c (ps.map fC) vs) .nil fun a t u g _ r=>.cons (.tup _ a _ g (.cons (.int _ t) (.cons (.bytes _ u) .nil))) r
theorem IsAll.getD(h:IsAll σ c xs vs)(i:Nat):Is σ c (xs.getD i .none) (vs.getD i .none):=by
 cases e:xs[i]? with
 |none=>
  have:vs[i]? = none:=by rw[Cm] at e ⊢;exact cD h.length e
  rw[Ay,Ay,e,this];exact .none
 |some x=>
  obtain⟨v,h1,h2⟩:=h.get e;rw[Ay,Ay,e,h1];exact h2
theorem IsAll.sorted(h:IsAll σ c xs vs):IsAll σ c (bD ps xs .none) (bD ps vs .none):=by
 unfold bD;generalize mX ps.length (pLt ps)=ix
 induction ix with
 |nil=>exact .nil
 |cons i ix ih=>exact .cons (h.getD i) ih
theorem KAll.at2{K:Type}{x:List (K×Sh)}{v:List (K×Value)}(h:KAll σ c x v):∀{i:Nat} {p:K×Value},v[i]? = some p->∃q,x[i]? = some q/\q.1=p.1/\Is σ c q.2 p.2:=by
 induction h with
 |nil=>intro i p e;cases e
 |cons a _ ih=>
  intro i p e
  cases i with
  |zero=>obtain rfl:=Cw e;exact⟨_,rfl,rfl,a⟩
  |succ i=>exact ih e
theorem aPp:DtAll 1 (bD ps (ps.map fC) .none):=by
 refine DtAll.of fun x hx=>?_;obtain⟨i,_,rfl⟩:=Aq.mp hx;rw[Ay,Ci]
 cases ps[i]? with
 |none=>exact .none 1
 |some p=>exact .tup 0 _ (.cons (.int 0 _) (.cons (.bytes 0 _) (.nil 0)))
theorem pB(n:Lbl)(hl:σ l=some (.list (ps.map fC)))(nd:(ps.map (·.1)).Nodup)(h64:ps.length<64)(hn:σ n=none):CallOk Γ ms σ (.builtin "sorted") [.ref l] (.ref n) (upd σ n (.list (bD ps (ps.map fC) .none))):=
 ⟨Dom.upd,fun c s vs Q E a hs i q=>wpN.of (by
  obtain⟨u,j⟩:=i.one;obtain rfl:=j.ref_inv;obtain⟨ws,k,e,hv⟩:=a.list hl;refine aLl (vs:=ws) (by rw[hs];exact Bt (n:=k) e) (hs▸hv.prs) nd h64 ?_;obtain⟨ep,he⟩:=sortedAll_at s.heap ws (bD ps ws .none).toArray;rw[hs] at he ⊢;have kp:∀b o,c.h.get? b=some o->(Js c.h ws (bD ps ws .none).toArray).get? b=some o:=fun b o e=>sortedAll_old e;obtain⟨a1,s1⟩:=a.alloc (l:=n) (o:=.list (bD ps (ps.map fC) .none)) (ad:=c.h.objs.size+1) hn kp (Ef (Ee (Bp _) (Aw he))) (Cs _) he (.list _ _ _ ((hv.mono Dom.upd (⟨fun y h=>setρ_ne fun e=>h (e.symm▸hn),fun b vs e=>kp _ _ e⟩:Step (dom σ) c ⟨aN c.ρ n (c.h.objs.size+1),Js c.h ws (bD ps ws .none).toArray⟩)).sorted));exact q _ ⟨aN c.ρ n (c.h.objs.size+1),_⟩ s.toks (Is.new:Is (upd σ n (.list (bD ps (ps.map fC) .none))) ⟨aN c.ρ n (c.h.objs.size+1),Js c.h ws (bD ps ws .none).toArray⟩ (.ref n) (.ref (c.h.objs.size+1))) a1 s1)⟩
theorem aKu{kvs:List (Int×Sh)}(h0:EV Γ ms σ (eval o Γ.env) (.ref l) σ1)(hl:σ1 l=some (.idict kvs))
  (hb:Cd o "items" Γ.env (eval o Γ.env)=eval o Γ.env)(ok:cR [] apos pos=true):
  EG Γ ms σ (eval (.Call (.Attribute o "items" apos) [] [] pos) Γ.env) (fun c v=>∃a,v = .ref a/\c.h.IsItemsView a (c.ρ l)) σ1:=
 ⟨h0.dom,fun c s Q E a hs q=>by
  rw[Iz,hb];refine h0.bind a hs fun u c1 t1 i1 a1 s1=>?_;obtain rfl:=i1.ref_inv;refine aG ?_;unfold Lg;rw[show(([]:List Aj).length+([]:List Nv).length)=([]:List Aj).length+0 from rfl,qF ok]
  refine bV ?_;unfold calleeOf;obtain⟨hT,hd⟩:=(TyS.dict (Γ:=Γ) (ms:=ms) dkI hl).run c1 {s with heap:=c1.h,toks:=t1} _ a1 rfl i1;refine Nc hT Fq PySem.F.slot_dict_items PySem.F.type_dict_items hd ?_;rw[xM ok];refine aW ?_;obtain⟨kv,D,hk,lo⟩:=a1.dictOf dkI hl (s:={s with heap:=c1.h,toks:=t1}) rfl;refine fY (P:=fun _=>True) rfl (fun h _=>⟨.machine,.inr (.inl rfl),Fk rfl⟩) (iL (aH ⟨trivial,wpN.of ?_⟩));refine Lh PySem.F.slot_dict_items D.typeIs PySem.F.entry_dict_items (PySem.F.args_dict_items_1 _) (meets_dict_items (dkI.knd Γ.w) (c1.ρ l) lo) ⟨⟨kv,D⟩,?_⟩;obtain⟨a2,s2⟩:=a1.grow0 (h':=c1.h.push {cls:=.type "dict_items",data:=.fields #[.ref (c1.ρ l)]}) fun b o e=>Ae _ e;exact q _ ⟨c1.ρ,_⟩ t1 ⟨_,rfl,_,Ao _ rfl,rfl,rfl⟩ a2 (s1.trans (s2.mono h0.dom))⟩
theorem rX(n:Lbl)(hf:EV Γ ms σ (eval fe Γ.env) (.con (.builtin "sorted")) σ)(h0:EV Γ ms σ (eval o Γ.env) (.ref l) σ1)(hl:σ1 l=some (.idict (ps.map fun p=>(p.1,.bytes p.2))))(nd:(ps.map (·.1)).Nodup)(h64:ps.length<64)(hn:σ1 n=none)
  (hb:Cd o "items" Γ.env (eval o Γ.env)=eval o Γ.env)(ok:cR [] apos cpos=true)
  (hc:eval (.Call fe [.Call (.Attribute o "items" apos) [] [] cpos] [] pos) Γ.env=(do Gs pos (<-eval fe Γ.env) [] (Cc pos (Av [.Call (.Attribute o "items" apos) [] [] cpos] Γ.env)) (Ht pos (Fh [] Γ.env)))):
  EV Γ ms σ (eval (.Call fe [.Call (.Attribute o "items" apos) [] [] cpos] [] pos) Γ.env) (.ref n) (upd σ1 n (.list (bD ps (ps.map fC) .none))):=
 ⟨h0.dom.trans Dom.upd,fun c s Q E a hs q=>by
  rw[hc];refine hf.bind a hs fun u c0 t0 i0 a0 s0=>?_;obtain rfl:=i0.con_inv;refine fY (P:=fun _=>True) (fZ rfl) (fun h _=>⟨.machine,.inr (.inl rfl),Fk rfl⟩) ?_;refine nH ?_;show wpN _ _ (do
   let v <-eval (.Call (.Attribute o "items" apos) [] [] cpos) Γ.env
   let here <-(pure [v]:Sem (List Value))
   return here++(<-Dc here (Co (Cc pos (Av [] Γ.env))))) _ _ _
  refine(aKu h0 hl hb ok).bind a0 rfl fun v c1 t1 i1 a1 s1=>?_;refine aW (aE (aF (aH (aH ⟨trivial,wpN.of ?_⟩))));refine bc fun nq=>?_;obtain⟨r,rfl,hv⟩:=i1;obtain⟨kv,D,hk,lo⟩:=a1.dictOf dkI hl (s:={s with heap:=c1.h,toks:=t1}) rfl;obtain⟨ep,hat⟩:=D.dictAt;have hkl:=hk.length;rw[Ag] at hkl;refine nq ?_;refine xG (ps:=ps) (kvs:=kv) a1.ok.hh hv hat hkl (fun j k v hj=>?_) nd h64 fun h1 h' tk vs m kp1 kp2 hP hB=>?_
  ·obtain⟨p,hp,ek,ip⟩:=hk.at2 hj;rw[Ci] at hp
   cases e:ps[j]? with
   |none=>rw[e] at hp;cases hp
   |some y=>
    rw[e] at hp;cases hp
    cases ip with
    |bytes _ t=>exact⟨y.2,t,congrArg some (Os ek rfl),rfl⟩
  ·refine bc fun nq=>?_;obtain⟨a2,s2⟩:=a1.grow0 (h':=h1) kp1;have S:Step (dom σ1) ⟨c1.ρ,h1⟩ ⟨aN c1.ρ n h1.objs.size,h'⟩:=⟨fun y h=>setρ_ne fun e=>h (e.symm▸hn),fun b vs e=>kp2 _ _ e⟩;obtain⟨a3,s3⟩:=a2.alloc (l:=n) (o:=.list (bD ps (ps.map fC) .none)) (ad:=h1.objs.size) hn kp2 (Ef (Aw hB)) (Bs _) hB (.list _ _ _ (((Prs.isAll (c:=⟨c1.ρ,h1⟩) hP:IsAll σ1 ⟨c1.ρ,h1⟩ (ps.map fC) vs).mono Dom.upd S).sorted));refine nq ?_;exact q _ ⟨aN c1.ρ n h1.objs.size,h'⟩ tk (Is.new:Is (upd σ1 n (.list (bD ps (ps.map fC) .none))) ⟨aN c1.ρ n h1.objs.size,h'⟩ (.ref n) (.ref h1.objs.size)) a3 (s0.trans (s1.trans ((s2.trans s3).mono h0.dom)))⟩
end
section
open PySem.SeqAt
theorem aNu{value:Aj}{k:Int}(h0:0<=k)(hk:xs[k.toNat]? = some z)(hz:xs.length<=1000)(hs:∀o i:Value,Ih slice false o i=Jn [o,i] (Ma o i)):SubOk Γ ms σ value slice (.tup xs) (.int k) z σ:=
 ⟨Dom.refl σ,fun c s u v Q E a hs' i1 i2 q=>by
  obtain⟨t,rfl⟩:=i2.int_inv;obtain⟨ad,vs,rfl,ht,hv⟩:=i1.tup_inv;refine bc fun nq=>?_;obtain⟨r,hr,ir⟩:=hv.get hk;have hT:IsTup s.heap ad vs.toArray:=⟨_,by rw[hs'];exact ht,rfl,_,rfl⟩;have hlt:k.toNat<vs.length:=(As.mp hr).1;have hl:=hv.length;refine nq ?_;refine tail_any (T:="tuple") hT.typeIs slot_tuple_getitem.lookup (getItem_tuple hT (by exact z65 h0) (by exact z66 hz hlt hl) (j:=k.toNat) ?_ (by rw[Fe];exact hr) ?_) (hs _ _)
  ·unfold seqIndex?;simp only[show¬(k<0) from by exact Eg.mpr h0,if_false]
   simp;exact z67 h0 hz hlt hl
  ·have:=q r c s.toks ir a (Step.refl c);rwa[<-hs'] at this⟩
theorem kX(X:(Mine.hd.heap_1 Γ.w.params).In s.heap)(h:Of (Mine.hd.heap_1 Γ.w.params) (.ref C)=some (.type "type")):s.TypeIs (.ref C) "type":=by
 obtain⟨o,ho,e⟩:=Dn.mp h;exact⟨o,X _ _ ho,e⟩
theorem wS(h:Of (Mine.hd.heap_1 Γ.w.params) (.ref C)=some (.type "type")):CmpOk Γ ms σ .Eq (.con (.ref C)) (.con (.ref C)) true:=⟨fun c s u v Q E a hs i j q=>by
 cases i;obtain rfl:=j.con_inv
 have T:=kX (hs▸a.K:(Mine.hd.heap_1 Γ.w.params).In s.heap) h;have q':=q s.toks;rw[<-hs] at q';show wpAny _ _ (richCompare .Eq _ _) Q E s;exact wpAny_richCompare_same_or (T:="type") T T Ik (Eb Ik T Kw (objEq_entry_same ⟨_,rfl,(fun e=>by cases e),q'⟩) (Lk _ _)) (.inr (by have:=a.units;exact Bf on0 this))⟩
theorem tD{D:Addr}(hne:C≠D)(h:Of (Mine.hd.heap_1 Γ.w.params) (.ref C)=some (.type "type"))(h':Of (Mine.hd.heap_1 Γ.w.params) (.ref D)=some (.type "type")):CmpOk Γ ms σ .Eq (.con (.ref C)) (.con (.ref D)) false:=⟨fun c s u v Q E a hs i j q=>by
 cases i;obtain rfl:=j.con_inv
 have X:(Mine.hd.heap_1 Γ.w.params).In s.heap:=hs▸a.K;have T:=kX X h;have T':=kX X h';refine bc fun nq=>?_;obtain⟨o,ho,hc⟩:=id T;obtain⟨o',ho',hc'⟩:=id T';have q':=q s.toks;rw[<-hs] at q';have hu:Γ.Ad.units<cLine:=by have:=a.units;exact Bf on0 this
 refine nq ?_;show wpAny _ _ (richCompare .Eq _ _) Q E s;refine bc fun nq=>?_;rcases hi:cmpInfo CmpOp.Eq with⟨sym,f,r⟩;have h1:=Ik;have h2:=PySem.TypeEq.slot_type_eq_refl;rw[hi] at h1 h2;refine nq ?_;simp only[richCompare,hi,T.oneThing_none]
 try with_reducible refine Dv ?_
 refine Ab (wpAny_cRoomFor_or (.inr hu) ?_);refine Ab (Jm T (Ab (Jm T' ?_)));refine Ab (m:=tryCompare (.ref C) _ (.ref D)) (wpAny_tryCompare_declines T h1 (Eb h1 T Kw (objEq_entry_other hne ho ho' (by rw[hc];decide) ⟨_,rfl,rfl,?_⟩) (Lk _ _)));refine Ab (m:=tryCompare (.ref D) _ (.ref C)) (wpAny_tryCompare_declines T' h2 (Eb h2 T' Kw (objEq_entry_other (Bw hne) ho' ho (by rw[hc'];decide) ⟨_,rfl,rfl,?_⟩) (Lk _ _)));refine Ab (Dy (Ab (wpAny_isSame_ref_other hne ho ho' (by rw[hc];decide) (Ak q'))))⟩
theorem KAll.keys{K:Type}{l:List (K×Sh)}{v:List (K×Value)}(h:KAll σ c l v):v.map (·.1)=l.map (·.1):=by
 induction h with
 |nil=>rfl
 |cons _ _ ih=>simp only[Dh,ih]
structure EP(Γ:Gm)(ms:Str->Option Sh)(σ:Sg)(ts:List (Sem Value×Sem Value))(l:List (Str×Sh))(σ':Sg):Prop where
 dom:Dom σ σ'
 run:∀(c:Cf) (s:Ai) (Q:List (Value×Value)->Ai->Prop) (E:Value->Ai->Prop),At Γ ms σ c->s.heap=c.h->
  (∀vs kv c' tk,vs.length=ts.length->Carries (Br PW Γ.w) vs kv->KAll σ' c' l kv->At Γ ms σ' c'->Step (Mine.dom σ) c c'->Q vs {s with heap:=c'.h,toks:=tk})->wpN (M Γ) Γ.Ad (evalPairs ts) Q E s
theorem aQq:EP Γ ms σ [] [] σ:=⟨Dom.refl σ,fun c s Q E a hs q=>aH (by
 exact fin hs (q [] [] c s.toks rfl trivial .nil a (Step.refl c)))⟩
theorem wN{k:Str}{kp:Pos}{v:Aj}{ts:List (Sem Value×Sem Value)}{x:Sh}{l:List (Str×Sh)}(h1:EV Γ ms σ (eval v Γ.env) x σ1)(h2:EP Γ ms σ1 ts l σ2):
  EP Γ ms σ ((eval (.Constant (.str k) n kp) Γ.env,do let y <-eval v Γ.env;Fb pos;pure y)::ts) ((k,x)::l) σ2:=
 ⟨h1.dom.trans h2.dom,fun c s Q E a hs q=>by
  refine(aKn (Γ:=Γ) (ms:=ms) (σ:=σ) (x:=k) (k:=n) (pos:=kp)).bind a hs fun u c0 t0 i0 a0 s0=>?_;refine aE (aF (h1.bind a0 rfl fun y c1 t1 i1 a1 s1=>aG (aH ?_)));refine aE (aF (h2.run _ _ _ _ a1 rfl fun vs kv c2 t2 hl hc hk a2 s2=>aH ?_));obtain⟨t,rfl⟩:=i0.str_inv;exact q ((.str k t,y)::vs) ((k,y)::kv) c2 t2 (by simp[hl]) ⟨Lc _ _ _ _,rfl,hc⟩ (.cons (i1.mono h2.dom s2) hk) a2 (s0.trans (s1.trans (s2.mono h1.dom)))⟩
theorem aOc{keys:List (Option Aj)}{values:List Aj}{lst:List (Str×Sh)}(n:Lbl)(hn:σ n=none)(hF:¬Γ.F n)(h:EP Γ ms (upd σ n (.sdict [])) (pairTrees keys values Γ.env pos) lst σ1)(hn1:σ1 n=some (.sdict []))(nd:(lst.map (·.1)).Nodup)
  (hall:keys.all (·.isSome)=true)(hl:keys.length=values.length)(h0:keys≠[])(hlen:keys.length<=15):EV Γ ms σ (eval (.Dict keys values pos) Γ.env) (.ref n) (upd σ1 n (.sdict lst)):=
 ⟨(Dom.upd.trans h.dom).trans Dom.upd,fun c s Q E a hs q=>by
  have pl:=pairTrees_length keys values Γ.env pos hall hl;rw[arm_eval_Dict,zip_pairTrees keys values Γ.env pos hall hl,dictDisplay_pairs _ (by intro e;rw[e] at pl;exact h0 (Ke.mp pl.symm)) (by exact sR (cD pl hlen))];refine aG (aE ?_);refine aK (wpAny_alloc ?_);rw[hs];refine bc fun nq=>?_;obtain⟨o,ho,hdo⟩:=Bk.mp (Gv (knd:=Br PW Γ.w) c.h);obtain⟨a1,s1⟩:=a.alloc (l:=n) (o:=.sdict []) (ad:=c.h.objs.size) (h':=c.h.push {cls:=.type "dict",data:=.dict #[]}) hn (fun b o e=>Ae _ e) (by rw[Bz];exact Cs _) (Bs _) ho (.sdict [] [] _ hdo .nil);have ed:aN c.ρ n c.h.objs.size n=c.h.objs.size:=setρ_at;refine nq ?_;refine aE (aF ?_);rw[if_pos (by rw[pl];exact hlen)];refine aE (h.run _ _ _ _ a1 rfl fun vs kv c2 t2 hvl hc hk a2 s2=>?_);refine bc fun nq=>?_;obtain⟨x,y,z1,z2,z3,z4⟩:=a2.dict dkS hn1;cases z3;have e2:c2.ρ n=c.h.objs.size:=(s2.rho n (by show upd _ _ _ _≠_;rw[aC];exact fun z=>by cases z)).trans ed;refine nq ?_;refine aF (aK (wpAny_storeAll (knd:=Br PW Γ.w) vs kv [] _ _ hc (Bk.mpr ⟨x,by rw[<-e2];exact z1,z2⟩) (by rw[hc.length,hvl,pl,Bh,List.length_nil];exact z68 hl hlen pl hvl) fun h' hm hsb=>aH (aH (aH ?_))));rw[merged_nil_of_nodup kv (by rw[hk.keys];exact nd)] at hm;obtain⟨o',ho',hd'⟩:=Bk.mp hm;rw[<-e2] at ho' hsb ⊢;have S:Step (dom σ1) c2 ⟨c2.ρ,h'⟩:=⟨fun _ _=>rfl,fun b ws eb=>(hsb.2 b (fun w=>by
   obtain⟨x',h1',h2',_⟩:=a2.ob n _ hn1;rw[w,h1'] at eb;cases eb;exact h2'.notTup)).trans eb⟩
  obtain⟨a3,s3⟩:=a2.put hn1 hF hsb ho' (.sdict lst kv _ hd' (hk.mono Dom.upd S));exact q _ ⟨c2.ρ,h'⟩ _ (Is.ref (σ:=upd σ1 n (.sdict lst)) (c:=⟨c2.ρ,h'⟩) n (by rw[aC];exact fun z=>by cases z)) a3 (s1.trans ((s2.mono Dom.upd).trans (s3.mono (Dom.upd.trans h.dom))))⟩
end
section
open PySem.SeqAt
section
variable{a:Addr}
theorem list_no_keys:Dz (.type "list") (Oi "keys")=pure none:=by rw[Cn,Bm];kernel_rfl
theorem aEp{xs:Array Value}{k:Nat}{Q:Option Value->Ai->Prop}(hx:s.heap.get? a=some {cls:=.type "list",data:=.seq xs k})(hA:A.handled=none)
  (h:∀h' tk e,Heap.NewExcOf s.heap h' e "AttributeError"->Q none {s with heap:=h',toks:=tk}):wpAny (model prog w) A (getAttr? (.ref a) "keys") Q E s:=by
 obtain⟨hp,g,d,tk,os⟩:=s;have hT:∀tk',(⟨hp,g,d,tk',os⟩:Ai).TypeIs (.ref a) "list":=fun _=>⟨_,hx,rfl⟩;have f1:=sub_AttributeError;have f3:=F.slot_list_getattribute.lookup;have f4:=F.slot_list_getattribute.bind (.ref a);have f5:=am_list_getattr_none
 repeat(any_goals (first|assumption|exact hT _| ((with_reducible show wpAny _ _ (call (Value.builtin "list.__getattribute__") _ _) _ _ _);refine Jw F.slot_list_getattribute (hT _) am_entry_list_getattribute (F.args_list_getattribute_2 _ _) (meets_getattribute_miss_list a xs k #[] _ _ list_no_keys (by decide +kernel) (by size_fits)) ⟨hx,hA,fun h' tk' e hx'=>?_⟩)|wp_step))
 refine bc fun nq=>?_;obtain⟨t',u',he⟩:=hx'.there;refine nq ?_;unfold getattributeRaised
 repeat(any_goals (first|assumption|wp_step))
 exact h _ _ _ hx'.of
inductive PrK(h:Heap):List (Int×List UInt8)->List Value->List (Int×Value)->Prop where
 |nil:PrK h [] [] []
 |cons {p:Int×List UInt8} {ps:List (Int×List UInt8)} {vs:List Value} {kv:List (Int×Value)} (a:Addr) (t u:Tok) (g:h.get? a=some (cY [.int p.1 t,.bytes p.2.toArray u])) (r:PrK h ps vs kv):PrK h (p::ps) (.ref a::vs) ((p.1,.bytes p.2.toArray u)::kv)
theorem Prs.k(r:Prs h ps vs):∃kv,PrK h ps vs kv:=
 r.ind (P:=fun ps vs=>∃kv,PrK h ps vs kv) ⟨[],.nil⟩ fun a t u g _ ⟨_,hk⟩=>⟨_,.cons a t u g hk⟩
theorem PrK.keys{kv:List (Int×Value)}(p:PrK h ps vs kv):kv.map (·.1)=ps.map (·.1):=by
 induction p with
 |nil=>rfl
 |cons _ _ _ _ _ ih=>simp only[Dh,ih]
theorem gH:Ju table "dict.update.loop"=some Builtin.«dict.update.loop»:=Iw (by kernel_rfl)
theorem gE:plainId "dict.update.loop"=true:=by decide +kernel
theorem zW{kvs:List (Int×Value)}{k:Int}(h:k∉kvs.map (·.1)):Jt kvs k v=kvs++[(k,v)]:=by
 unfold Jt;rw[if_neg];intro e;obtain⟨p,hp,he⟩:=List.any_eq_true.mp e;exact h (Aq.mpr ⟨p,hp,of_decide_eq_true (by simpa using he)⟩)
theorem xB{S l:Addr}{h0:Heap}{pall:List (Int×List UInt8)}(hh:A.handled=none)(hS0:S=h0.objs.size)(hSI:S<I)(hl:h0.IsList l vs.toArray)(hz:vs.length<=1000)
  (hR:∀h' tk kv,(∀b o,h0.get? b=some o->h'.get? b=some o)->h'.DictOf (Ea prog w) S kv->S<h'.objs.size->(∃pt,pt=pall/\PrK h0 pt vs kv)->R (.ok (.ret .none)) {s with heap:=h',toks:=tk}):
  ∀(rest:List (Int×List UInt8)) (rv:List Value) (rk:List (Int×Value)),PrK h0 rest rv rk->∀(dp:List (Int×List UInt8)) (dv:List Value) (dk:List (Int×Value)),PrK h0 (dp++rest) (dv++rv) (dk++rk)->dv.length=dk.length->dp++rest=pall->vs=dv++rv->((dk++rk).map (·.1)).Nodup->
   ∀(h:Heap) (tk:Nat) (u:Tok),(∀b o,h0.get? b=some o->h.get? b=some o)->h.IsListIter I l dv.length->h.DictOf (Ea prog w) S dk->
    Kh (model prog w) A (.builtin "dict.update.loop" ⟨[.ref S,.ref I,.int dv.length u,.none],[]⟩) R {s with heap:=h,toks:=tk}:=by
 intro rest rv rk pr
 induction pr with
 |nil=>
  intro dp dv dk pk hd hp hv hn h tk u kp hI hD;rw[Et] at pk hp hv;rw[Et,Et] at pk;refine Ji gH ?_;obtain⟨ol,hol,hr⟩:=id hl;refine Ab (wpAny_pyNext_list_end (s:={s with heap:=h,toks:=tk}) (A:=A.in1) hh hI (⟨ol,kp _ _ hol,hr⟩:h.IsList l vs.toArray) (by rw[hv];simp) fun h' he=>?_);refine bc fun nq=>?_;obtain⟨x,hx,hdx⟩:=Bk.mp hD;refine nq ?_;refine Ab (Ak (Ak ?_));refine hR h' tk dk (fun b o e=>he b o ?_ (kp b o e)) (Bk.mpr ⟨x,he S x (Bn hSI) hx,hdx⟩) (Aw (he S x (Bn hSI) hx)) ⟨dp,hp,hv▸pk⟩;exact Bn (Ee (Aw e) (hS0▸hSI))
 | @cons p ps v2 kv a t u2 g r ih=>
  intro dp dv dk pk hd hp hv hn h tk u kp hI hD;refine Ji gH ?_;obtain⟨ol,hol,hr⟩:=id hl;have up0:∀b,(∃o,h0.get? b=some o)->b≠I/\b≠S:=fun b ⟨o,e⟩=>⟨Bn (Ee (Aw e) (hS0▸hSI)),Bn (hS0▸Aw e)⟩;refine Ab (wpAny_pyNext_list_item (s:={s with heap:=h,toks:=tk}) (A:=A.in1) (x:=.ref a) hI (⟨ol,kp _ _ hol,hr⟩:h.IsList l vs.toArray) (by rw[hv];simp) fun h1 hI1 hsb=>?_);replace hsb:Ch I h h1:=hsb;have kp1:∀b o,h0.get? b=some o->h1.get? b=some o:=fun b o e=>hsb.extBut b o (up0 b ⟨o,e⟩).1 (kp b o e);have ht:=kp1 _ _ g;dsimp only;refine Ab (Dv ?_);refine Ab ?_;refine wpAny_tryCatch ?_;refine Ab (Jm (T:="tuple") ⟨_,ht,rfl⟩ ?_);refine Ab (Ab (Iu ht ?_));refine Ak ?_;refine Ak ?_;refine Dv ?_;refine wpAny_dictSet_pairs (knd:=Ea prog w) (kvs:=dk) (k:=p.1) (intKind_is _ _ _ _) (s:={s with heap:=h1,toks:=tk}) ?_ ?_ (by rw[Bh,<-hd];rw[hv,Cz] at hz;exact z72 hz hd)
  ·refine bc fun nq=>?_;obtain⟨x,hx,hdx⟩:=Bk.mp hD;refine nq ?_;exact Bk.mpr ⟨x,hsb.extBut S x (Bn hSI) hx,hdx⟩
  intro h2 hD2 hs2;replace hs2:Ch S h1 h2:=hs2;have hnk:p.1∉dk.map (·.1):=by
   rw[Dg,Gp] at hn;exact fun e=>hn.2.2 _ e _ (List.mem_cons_self ..) rfl
  rw[zW hnk] at hD2;refine Ak ⟨Iy gE _,?_⟩;have:=ih (dp++[p]) (dv++[.ref a]) (dk++[(p.1,.bytes p.2.toArray u2)]) (by simpa using pk) (by simp[hd]) (by simpa using hp) (by simpa using hv) (by simpa using hn) h2 (tk+1) 0 (fun b o e=>hs2.extBut b o (up0 b ⟨o,e⟩).2 (kp1 b o e))
   (by
    obtain⟨oi,hoi,hri⟩:=hI1;rw[Cz];exact⟨oi,hs2.extBut I oi (Da hSI) hoi,hri⟩) hD2
  rw[Cz] at this;exact this
theorem yM{l:Addr}{k:Nat}(hh:A.handled=none)(hl:s.heap.get? l=some {cls:=.type "list",data:=.seq vs.toArray k})(hP:Prs s.heap ps vs)(nd:(ps.map (·.1)).Nodup)(hz:ps.length<=1000)
  (h:∀h' tk kv,(∀b o,s.heap.get? b=some o->h'.get? b=some o)->h'.DictOf (Ea prog w) s.heap.objs.size kv->PrK s.heap ps vs kv->Q (.ref s.heap.objs.size) {s with heap:=h',toks:=tk}):
  wpAny (model prog w) A (call (.type "dict") [.ref l]) Q E s:=by
 refine callType_codes (Q₁:=fun obj s₁=>obj = .ref s.heap.objs.size/\s₁={s with heap:=s.heap.push {cls:=.type "dict",data:=.dict #[]}}) F.kt_called_dict (F.kt_typeCall_dict_1 _) F.entry_dict_init (kt_code_dict_new _ ⟨rfl,rfl⟩) ?_
 rintro obj s₁ ⟨rfl,rfl⟩
 have hnew:(s.heap.push {cls:=.type "dict",data:=.dict #[]}).DictOf (Ea prog w) s.heap.objs.size []:=Gv s.heap;have hl1:(s.heap.push {cls:=.type "dict",data:=.dict #[]}).get? l=some {cls:=.type "list",data:=.seq vs.toArray k}:=Ae _ hl;refine⟨hnew.typeIs,F.args_dict_init_2 _ _,?_⟩;unfold Builtin.«dict.__init__»;refine Ab ?_;refine Ab (wpAny_notOrdered_dict hnew.typeIs ?_);refine Ak ?_;show wpAny _ _ (Builtin.Dict.updateFrom "dict.__init__" s.heap.objs.size (.ref l) [] .none) _ _ _;refine Ab (Jm (T:="list") ⟨_,hl1,rfl⟩ ?_);refine Ab (aEp hl1 hh fun h2 tk2 e he=>?_);refine Ab (Dy (Ab (wpAny_pyIter_list (s:={s with heap:=h2,toks:=tk2}) (items:=vs.toArray) (Bt (n:=k) (he.keeps _ _ hl1)) ?_)));refine Ak ⟨Iy gE _,?_⟩;refine bc fun nq=>?_;obtain⟨kv,pk⟩:=hP.k;have hD2:h2.DictOf (Ea prog w) s.heap.objs.size []:=by
  refine bc fun nq=>?_;obtain⟨x,hx,hdx⟩:=Bk.mp hnew;refine nq ?_;exact Bk.mpr ⟨x,he.keeps _ _ hx,hdx⟩
 have hSI:s.heap.objs.size<h2.objs.size:=by
  refine bc fun nq=>?_;obtain⟨x,hx,_⟩:=Bk.mp hD2;refine nq ?_;exact Aw hx
 have:=xB (S:=s.heap.objs.size) (I:=h2.objs.size) (l:=l) (h0:=s.heap) (vs:=vs) (pall:=ps) (prog:=prog) (w:=w) (A:=A.in1) (s:=s) (R:=wants (fun r s₂=>r = .none/\Q (.ref s.heap.objs.size) s₂) E) hh rfl hSI (Bt (n:=k) hl) (by rw[hP.length];exact hz) (fun h' tk kv' keep hd _ ⟨ps',e,pk'⟩=>⟨rfl,h h' tk kv' keep hd (e▸pk')⟩) ps vs kv pk [] [] [] pk rfl rfl rfl (by rw[Kn,pk.keys];exact nd)
  (h2.push {cls:=.type "list_iterator",data:=.fields #[.ref l,.int 0 0]}) tk2 0 (fun b o e=>Ae _ (he.keeps _ _ (Ae _ e))) ⟨_,Ao _ rfl,rfl,rfl⟩ (by
   obtain⟨x,hx,hdx⟩:=Bk.mp hD2;exact Bk.mpr ⟨x,Ae _ hx,hdx⟩)
 refine nq ?_;exact this
end
noncomputable abbrev aCj(p:Int×List UInt8):Int×Sh:=(p.1,.bytes p.2)
theorem PrK.all{kv:List (Int×Value)}(p:PrK h ps vs kv):KAll σ c (ps.map aCj) kv:=by
 induction p with
 |nil=>exact .nil
 |cons a t u g r ih=>exact .cons (.bytes _ u) ih
theorem tF(n:Lbl)(hl:σ l=some (.list (ps.map fC)))(nd:(ps.map (·.1)).Nodup)(hz:ps.length<=1000)(hn:σ n=none):CallOk Γ ms σ (.type "dict") [.ref l] (.ref n) (upd σ n (.idict (ps.map aCj))):=
 ⟨Dom.upd,fun c s vs Q E a hs i q=>wpN.of (by
  obtain⟨u,j⟩:=i.one;obtain rfl:=j.ref_inv;obtain⟨ws,k,e,hv⟩:=a.list hl;refine yM (vs:=ws) (k:=k) a.ok.hh (by rw[hs];exact e) (hs▸hv.prs) nd hz fun h' tk kv keep hd pk=>?_;rw[hs] at keep hd ⊢;refine bc fun nq=>?_;obtain⟨x,hx,hdx⟩:=Bk.mp hd;obtain⟨a1,s1⟩:=a.alloc (l:=n) (o:=.idict (ps.map aCj)) (ad:=c.h.objs.size) hn keep (Ef (Aw hx)) (Bs _) hx (.idict _ kv _ hdx pk.all);refine nq ?_;exact q _ ⟨aN c.ρ n c.h.objs.size,h'⟩ tk (Is.new:Is (upd σ n (.idict (ps.map aCj))) ⟨aN c.ρ n c.h.objs.size,h'⟩ (.ref n) (.ref c.h.objs.size)) a1 s1)⟩
end
section
open PySem.SeqAt
noncomputable def aRy(h:Heap)(e:Addr):Prop:=∃oe vs a0,h.get? e=some oe/\oe.cls = .ref 59/\oe.data = .fields vs/\vs[0]? = some a0/\vs[1]? = some .none
noncomputable def Fly(h:Heap)(e T:Addr):Prop:=∃oe vs oT ts a0,h.get? e=some oe/\oe.cls = .ref 59/\oe.data = .fields vs/\vs[0]? = some a0/\vs[1]? = some (.ref T)/\T≠e/\h.get? T=some oT/\oT.data = .fields ts/\ts[3]? = some .none
noncomputable def wE(g:Heap)(σ:Sg)(c:Cf)(a:Addr):Prop:=g.get? a=none/\∀l,σ l≠none->c.ρ l≠a
structure FE(w:World)(n:Nat)(f:Cf->Value)(args:List Sh)(σ σ':Sg):Prop where
 dom:Dom σ σ'
 run:∀(A:Ez) (base:Heap) (outer:List Env) (g:Heap) (mg mb:Str->Option Value) (c:Cf) (s:Ai) (vs:List Value) (R:Jy->Ai->Prop),
  Cy w A base outer g mg mb n->Hp w (frs outer) noF g σ c->s.heap=c.h->IsAll σ c args vs->
  (∀e T c' tk,Fly c'.h e T->wE g σ' c' e->wE g σ' c' T->Hp w (frs outer) noF g σ' c'->Step (Mine.dom σ) c c'->R (.error (.ref e)) {s with heap:=c'.h,toks:=tk})->codeN (model PW w) A (.call (f c) ⟨vs,[]⟩) R s
noncomputable def Rz(Γ:Gm)(σ:Sg)(c:Cf)(e:Addr):Prop:=Un Γ σ c e/\(aRy c.h e\/∃T,Un Γ σ c T/\Fly c.h e T)
structure ER{α:Type}(Γ:Gm)(ms:Str->Option Sh)(σ:Sg)(t:Sem α)(σ':Sg):Prop where
 dom:Dom σ σ'
 run:∀(c:Cf) (s:Ai) (Q:α->Ai->Prop) (E:Value->Ai->Prop),At Γ ms σ c->s.heap=c.h->
  (∀e c' tk,Rz Γ σ' c' e->At Γ (mL []) σ' c'->Step (Mine.dom σ) c c'->E (.ref e) {s with heap:=c'.h,toks:=tk})->wpN (M Γ) Γ.Ad t Q E s
theorem ER.bind{α β:Type}{t:Sem α}{k:α->Sem β}{Q:β->Ai->Prop}(h:ER Γ ms σ t σ')(a:At Γ ms σ c)(hs:s.heap=c.h)
  (q:∀e c' tk,Rz Γ σ' c' e->At Γ (mL []) σ' c'->Step (Mine.dom σ) c c'->E (.ref e) {s with heap:=c'.h,toks:=tk}):wpN (M Γ) Γ.Ad (t >>= k) Q E s:=aE (h.run c s _ E a hs q)
theorem ER.hold{α β:Type}{t:Sem α}{k:α->Sem β}{Q:β->Ai->Prop}(h:ER Γ ms σ t σ')(a:At Γ ms σ c)(hs:s.heap=c.h)
  (q:∀e c' tk,Rz Γ σ' c' e->At Γ (mL []) σ' c'->Step (Mine.dom σ) c c'->E (.ref e) {s with heap:=c'.h,toks:=tk}):wpN (M Γ) Γ.Ad (Dc vs t >>= k) Q E s:=aE (aF (h.run c s _ E a hs q))
section
variable{e:Addr}
theorem qN{S:List Addr}{a0:Value}(hstk:Γ.stk=env::outer)(hf:env.frame=some Γ.L)(a:At Γ ms σ c)(u:Un Γ σ c e)(hT0:∀b∈S,frs Γ.stk b\/b=e\/Un Γ σ c b)(hTt:∀b∈S,¬frs Γ.stk b->∀us,c.h.get? b≠some (cY us))
  (hL:Heap.LeftW (Es c.h S) Γ.stk e (.ref 59) a0 c.h h'):(∃T,Fly h' e T/\wE Γ.g σ ⟨c.ρ,h'⟩ T)/\wE Γ.g σ ⟨c.ρ,h'⟩ e/\Hp Γ.w (frs outer) Γ.F Γ.g σ ⟨c.ρ,h'⟩/\Step (Mine.dom σ) c ⟨c.ρ,h'⟩:=by
 refine bc fun nq=>?_;obtain⟨m,F,hm⟩:=a.fr;have G:=a.ok;have Bl:=G.B c.h m a.keep F.ns;obtain⟨k1,k2,k3,k4⟩:=hL;have ex:∀b o,b∉S->c.h.get? b=some o->h'.get? b=some o:=fun b o n q=>k1 b o (Dl _ q n);have labS:∀l,σ l≠none->c.ρ l∉S:=fun l hl z=>by
  rcases hT0 _ z with q|q|q
  ·exact(a.offL l hl).2 ⟨q,(a.offL l hl).1⟩
  ·exact u.rho l hl q
  ·exact q.rho l hl rfl
 have frd:∀b,frs Γ.stk b->∀o,c.h.get? b=some o->∃es n,o.data = .dict es n:=fun b hb o q=>by
  by_cases w:b=Γ.L
  ·subst w;obtain⟨oL,es,ep,e1,e2⟩:=aEj F.ns;rw[q] at e1;cases e1;exact⟨es,ep,e2⟩
  ·obtain⟨o',es,n,e1,e2⟩:=G.frg b ⟨hb,w⟩;obtain⟨o2,e3,e4⟩:=(a.keep b o' e1).at;rw[q] at e3;cases e3;exact⟨es,n,e4.trans e2⟩
 have frx:∀b,frs Γ.stk b->∀o,c.h.get? b=some o->∃sl,h'.get? b=some {o with slots:=sl}:=fun b hb o q=>by
  obtain⟨es,n,hd⟩:=frd b hb o q;exact k4 b o q fun vs w=>by rw[hd] at w;cases w
 have St:Step (Mine.dom σ) c ⟨c.ρ,h'⟩:=⟨fun _ _=>rfl,fun b us q=>by
  by_cases z:b∈S
  ·by_cases w:frs Γ.stk b
   ·obtain⟨es,n,hd⟩:=frd b w _ q;cases hd
   ·exact absurd q (hTt b z w us)
  ·exact ex _ _ z q⟩
 refine nq ?_;refine⟨?_,⟨u.g,u.rho⟩,⟨fun l o q=>?_,a.inj,a.fin,fun b o q=>?_⟩,St⟩
 ·refine bc fun nq=>?_;obtain⟨oe,vs,T,oT,ts,t1,⟨t2,t3⟩,t4,t5,t6,t7,t8,t9,t10⟩:=k3;have nS:∀b o,c.h.get? b=some o->b∉S->T≠b:=fun b o q n w=>by
   rw[w,Dl _ q n] at t6;cases t6
  refine nq ?_;refine⟨T,⟨oe,vs,oT,ts,a0,t1,t2,t4,t3,t5,t7,t8,t9,t10⟩,?_,fun l hl=>?_⟩
  ·cases q:Γ.g.get? T with
   |none=>rfl
   |some o=>
    obtain⟨o',q',_⟩:=(a.keep T o q).at;by_cases z:T∈S
    ·rcases hT0 _ z with w|w|w
     ·obtain⟨es,n,hd⟩:=frd T w _ q';obtain⟨sl,hsl⟩:=frx T w _ q';rw[t8] at hsl;cases hsl;rw[hd] at t9;cases t9
     ·exact absurd w t7
     ·rw[w.g] at q;cases q
    ·exact absurd rfl (nS T o' q' z)
  ·cases q:σ l with
   |none=>exact absurd q hl
   |some o=>
    obtain⟨x,h1,_⟩:=a.ob l o q;exact(nS _ _ h1 (labS l hl)).symm
 ·obtain⟨x,h1,h2,h3,h4⟩:=a.ob l o q;exact⟨x,ex _ _ (labS l (by rw[q];exact fun z=>by cases z)) h1,h2.mono (Dom.refl _) St,h3,h4⟩
 ·refine((a.keep b o q).imp (fr':=frs outer) fun f=>?_).trans fun o' q'=>?_
  ·refine bc fun nq=>?_;obtain⟨hb,ne⟩:=f;rw[hstk] at hb;obtain⟨x,hx,hfx⟩:=Ck.mp hb;refine nq ?_;rcases An.mp hx with rfl|hx
   ·rw[hf] at hfx;cases hfx;exact absurd rfl ne
   ·exact Ck.mpr ⟨x,hx,hfx⟩
  ·by_cases z:b∈S
   ·rcases hT0 _ z with w|w|w
    ·refine .inr ⟨?_,frd b w _ q',frx b w _ q'⟩;rw[hstk] at w;obtain⟨x,hx,hfx⟩:=Ck.mp w;rcases An.mp hx with rfl|hx
     ·rw[hf] at hfx;cases hfx;rw[F.off] at q;cases q
     ·exact Ck.mpr ⟨x,hx,hfx⟩
    ·rw[w,u.g] at q;cases q
    ·rw[w.g] at q;cases q
   ·exact .inl (ex _ _ z q')
theorem xR{Q:Unit->Ai->Prop}(hstk:Γ.stk=env::outer)(hf:env.frame=some Γ.L)(a:At Γ ms σ c)(r:Rz Γ σ c e)(hs:s.heap=c.h)
  (q:∀h' T,Fly h' e T->wE Γ.g σ ⟨c.ρ,h'⟩ e->wE Γ.g σ ⟨c.ρ,h'⟩ T->Hp Γ.w (frs outer) Γ.F Γ.g σ ⟨c.ρ,h'⟩->Step (Mine.dom σ) c ⟨c.ρ,h'⟩->Q () {s with heap:=h'}):wpAny (M Γ) Γ.Ad (Lz env (.ref e)) Q E s:=by
 obtain⟨u,r⟩:=r;obtain⟨m,F,hm⟩:=a.fr;have Bl:=a.ok.B c.h m a.keep F.ns;have hfr:Γ.Ad.frames=some (env::outer):=hstk▸Bl.stack;have mem:∀(S:List Addr) v,v∈Γ.stk->∀b,v.frame=some b->b∈Γ.stk.filterMap (·.frame)++S:=fun S v he b hb=>Fj _ (Ck.mpr ⟨v,he,hb⟩);rcases r with⟨oe,vs,a0,e1,e2,e3,e4,e5⟩| ⟨T,uT,oe,vs,oT,ts,a0,e1,e2,e3,e4,e5,e6,e7,e8,e9⟩
 ·refine wpAny_leaving_firstW (base:=Es c.h (Γ.stk.filterMap (·.frame)++[e])) hfr ?_ hf (by rw[hs];exact e1) (by rw[hs];exact fun b o q=>Ie _ q) (Er _ (by simp)) e3 e5 e4 fun h' hL=>?_
  ·rw[hs,<-hstk];exact Oh Bl.frames (mem _)
  ·rw[hs,<-hstk,e2] at hL;have m1:∀b∈Γ.stk.filterMap (·.frame)++[e],frs Γ.stk b\/b=e\/Un Γ σ c b:=fun b hb=>by
    rcases Ce.mp hb with hb|hb
    ·exact .inl hb
    ·exact .inr (.inl (Ax.mp hb))
   have m2:∀b∈Γ.stk.filterMap (·.frame)++[e],¬frs Γ.stk b->∀us,c.h.get? b≠some (cY us):=fun b hb nf us w=>by
    rcases Ce.mp hb with hb|hb
    ·exact nf hb
    ·rw[Ax.mp hb,e1] at w;cases w;cases e3
   refine bc fun nq=>?_;obtain⟨⟨T,hF,oT⟩,oE,H,S⟩:=qN hstk hf a u m1 m2 hL;refine nq ?_;exact q h' T hF oE oT H S
 ·refine wpAny_leaving_nextW (base:=Es c.h (Γ.stk.filterMap (·.frame)++[e,T])) (cls:=.ref 59) (a0:=a0) hfr ?_ hf ?_ (by rw[hs];exact fun b o q=>Ie _ q) (Er _ (by simp)) fun h' hL=>?_
  ·rw[hs,<-hstk];exact Oh Bl.frames (mem _)
  ·rw[hs];exact⟨oe,vs,T,oT,ts,e1,⟨e2,e4⟩,e3,e5,Er _ (by simp),e6,e7,e8,e9⟩
  ·rw[hs,<-hstk] at hL;have m1:∀b∈Γ.stk.filterMap (·.frame)++[e,T],frs Γ.stk b\/b=e\/Un Γ σ c b:=fun b hb=>by
    rcases Ce.mp hb with hb|hb
    ·exact .inl hb
    ·rcases An.mp hb with rfl|hb
     ·exact .inr (.inl rfl)
     ·exact .inr (.inr (Ax.mp hb▸uT))
   have m2:∀b∈Γ.stk.filterMap (·.frame)++[e,T],¬frs Γ.stk b->∀us,c.h.get? b≠some (cY us):=fun b hb nf us w=>by
    rcases Ce.mp hb with hb|hb
    ·exact nf hb
    ·rcases An.mp hb with rfl|hb
     ·rw[e1] at w;cases w;cases e3
     ·rw[Ax.mp hb,e7] at w;cases w;cases e8
   refine bc fun nq=>?_;obtain⟨⟨T',hF,oT'⟩,oE,H,S⟩:=qN hstk hf a u m1 m2 hL;refine nq ?_;exact q h' T' hF oE oT' H S
end
end
section
open PySem.SeqAt
noncomputable abbrev mBm:List Value:=[.ref 46,.type "Exception",.type "BaseException",.type "object"]
noncomputable abbrev sS:Obj:=excClassObj "MapError" "MapError" 59 58 [.ref 46] mBm true [] [] false none none (some (.ref 50)) none (some (.str "MapError" 234)) (some (.str "MapError" 242)) (some (.bool true)) "Exception.__new__"
theorem m_obj:(Mine.hd.heap_1 P).lookup 59=some sS:=by kernel_rfl
theorem m_init:Cq (Mine.hd.heap_1 P) (.ref 59) "__init__"=some (some (.ref 36)):=by k_is
theorem aVy:Cq (Mine.hd.heap_1 P) (.ref 59) "__setattr__"=some (some (.builtin "object.__setattr__")):=by k_is
theorem aPe:Cq (Mine.hd.heap_1 P) (.ref 59) "what"=some none:=by k_is
theorem aWa:Cq (Mine.hd.heap_1 P) (.ref 59) "at"=some none:=by k_is
theorem m_call:Pc (Mine.hd.heap_1 P) (.ref 59) "__call__"=some (some (.builtin "type.__call__")):=by k_is
theorem m_typ:instIn (Mine.hd.heap_1 P) (.ref 59) (.type "type")=some true:=by k_is
theorem aRj:mroIn (Mine.hd.heap_1 P) 59 (.ref 59)=some true:=by k_is
theorem aRi:mroIn (Mine.hd.heap_1 P) 59 (.type "object")=some true:=by k_is
theorem aVz:Of (Mine.hd.heap_1 P) (.ref 36)=some (.type "function"):=by k_is
noncomputable abbrev cS(t:Addr)(d:Option Addr):Obj:={cls:=.ref 59,dict:=d,data:=.fields #[.ref t,.none,.none,.none,.bool false,.none]}
section
variable{g:Array Om}{d:Drawn}{t:Nat}{os:Lj}{rest:List Value}{x:Addr}{name:Str}{mA:Str->Option Value}
theorem aMt(hC:h.get? 59=some sS)(hq:R (.ok (.ret (.ref (h.objs.size+1)))) ⟨(h.push {cls:=.type "tuple",data:=.seq rest.toArray}).push (cS h.objs.size none),g,d,t,os⟩)(hrest:rest.length<=sizeLine):
  Kh (model PW w) A (.builtin "Exception.__new__" ⟨.ref 59::rest,[]⟩) R ⟨h,g,d,t,os⟩:=by
 have Fn:=Gw;have hends:=Fn.ends;have hcA:(Ec 59::mBm).contains (.type "AttributeError")=false:=by decide
 have hcN:(Ec 59::mBm).contains (.type "NameError")=false:=by decide
 refine codeAny_builtinAt Fn.entry ?_;refine PySem.wpAt_bind ?_;refine PySem.wpAt_bind (PySem.wpAt_stack fun p below=>PySem.wpAt_of_wpAny ?_)
 wp_walk
 refine PySem.wpAt_of_wpAny ?_;rw[Fn.owner]
 repeat(first|with_reducible refine wpAny_madeHere_exc Fn.canon hC ?_|with_reducible refine Eh hC ?_| (with_reducible refine Md hC ?_;first|rw[(show(Ec 59::mBm).contains (.type "Exception")=true by decide)] |rw[hcA] |rw[hcN])|wp_step)
 show R _ _;rw[Bz];exact hq
theorem aIm(X:(Mine.hd.heap_1 w.params).In h)(hrest:rest.length<=sizeLine)
  (hq:codeN (model PW w) (A.under (.builtin "type.__call__" ⟨.ref 59::rest,[]⟩)) (.call (.ref 36) ⟨.ref (h.objs.size+1)::rest,[]⟩) (InitBack (h.objs.size+1) R) ⟨(h.push {cls:=.type "tuple",data:=.seq rest.toArray}).push (cS h.objs.size none),g,d,t,os⟩):
  codeN (model PW w) A (.call (.ref 59) ⟨rest,[]⟩) R ⟨h,g,d,t,os⟩:=by
 have hC:h.get? 59=some sS:=X _ _ m_obj;refine aT rfl (wpN.of ?_);refine nd_load hC ?_;show wpAny _ _ (callAny.viaDunder (.ref 59) _) _ _ _;refine Ab ((looks_specialIn X m_call:Looks (model PW w) h (Jp (.ref 59) "__call__") (some (.builtin "type.__call__"))).at ?_);refine Ab (Ak (Ab (Ak ?_)));refine Ak (a:=Fin.again (.call (.builtin "type.__call__") ⟨.ref 59::rest,[]⟩)) (And.intro rfl ?_);refine bY rfl (Hl _ (by decide +kernel)) entry_typeCall (check_slot tc_kind tc_split (looks_instIn X m_typ:Looks (model PW w) h (Mm (.ref 59) (.type "type")) true) (tc_args _ _ _) ?_);refine aK (wpAny_mroOf_exc hC ?_);refine aK (wpAny_madeBy_exc hC ?_);refine aW ?_;refine bV (Ml (codeAny_call_builtin_code (Hl _ Gw.quiet) (wpAny_check_new_subU Gw (bmB:=mBm) (by decide) OwnTail.base hC (aMt hC ?_ hrest))));have k:∀b o,h.get? b=some o->((h.push {cls:=.type "tuple",data:=.seq rest.toArray}).push (cS h.objs.size none)).get? b=some o:=fun b o e=>Ae _ (Ae _ e);have hx:((h.push {cls:=.type "tuple",data:=.seq rest.toArray}).push (cS h.objs.size none)).get? (h.objs.size+1)=some (cS h.objs.size none):=by heap_get
 have t1:Looks (model PW w) ((h.push {cls:=.type "tuple",data:=.seq rest.toArray}).push (cS h.objs.size none)) (Nn (.ref (h.objs.size+1))) (.ref 59):=(Ng hx).andThen .now;have i1:Looks (model PW w) ((h.push {cls:=.type "tuple",data:=.seq rest.toArray}).push (cS h.objs.size none)) (Mm (.ref (h.objs.size+1)) (.ref 59)) true:=t1.andThen ((looks_mroIn X aRj).keeps k);refine aK (i1.here ?_);have i2:Looks (model PW w) ((h.push {cls:=.type "tuple",data:=.seq rest.toArray}).push (cS h.objs.size none)) (Jp (.ref (h.objs.size+1)) "__init__") (some (.ref 36)):=t1.andThen ((Jo X m_init:Looks (model PW w) h (Dz (.ref 59) "__init__") (some (.ref 36))).keeps k);refine aE (aF (fH i2 ((bind_fn X _ aVz).keeps k) (cJ (kW hq fun r s' z=>?_))));rcases r with e| (v|_|_|_) <;> first|exact z|exact z.elim|skip
 obtain⟨rfl,z⟩:=z;exact aH z
end
end
section
open PySem PySem.W PyProof.Rows PySem.Calls PySem.SeqAt PySem.Builtin PySem.Builtin.ObjectAttr
noncomputable abbrev exc0:Ob:=.raw [] fun _ o=>∃t,o=cS t none
noncomputable abbrev exc1(nd:Lbl):Ob:=.raw [nd] fun as o=>∃t d,as=[d]/\o=cS t (some d)
section
variable{x:Addr}{name:Str}{tk:Tok}
theorem aIl:findCls (Mine.hd.heap_1 P) (.type "Exception") (.type "type") (Hb "__init__")=some (.val (.builtin "Exception.__init__")):=by rfl
theorem aId{pl:Sem Bool}{Q:Value×List Value->Ai->Prop}(X:(Mine.hd.heap_1 w.params).In s.heap)(h:Q (.builtin "Exception.__init__",[]) {s with toks:=s.toks+1}):
  wpAny (model PW w) A (getMethod (.type "Exception") (Hb "__init__") pl) Q E s:=by
 have hstub:No (.type "Exception")=pure none:=by unfold No;dsimp only;rw[show Manifest.isStub "Exception"=false by decide +kernel];rfl
 have ht:Nn (.type "Exception")=pure (.type "type"):=by first|rfl|kernel_rfl
 have L0:Looks (model PW w) s.heap (Nn (.type "Exception")) (.type "type"):=Fk ht;have hg:Cq (Mine.hd.heap_1 w.params) (.type "type") "__getattribute__"=some (some (.builtin "type.__getattribute__")):=PySem.W.type_tga;unfold getMethod Jp;refine Ab (Ab (L0.here ((Jo X hg).here ?_)));dsimp only;rw[if_pos canon_tga];refine Ab (Ey (Q:=fun v=>Q (v,[])) (E:=E) ?_ (fun _ _ z=>Ak z) fun _ _ z=>z);refine cls_open X (Fk hstub:Looks (model PW w) s.heap (No (.type "Exception")) none) L0 hg (looks_hook X (r:=none) (by rfl)) (by show subIn _ _ _=_;rfl) aIl ?_;exact Ak (handed_on rfl h)
theorem aEx{oe:Obj}{rest:List Value}{Q:Unit->Ai->Prop}{g:Array Om}{d:Drawn}{t:Nat}{os:Lj}
  (hC:h.get? 59=some sS)(he:h.get? x=some oe)(hcls:oe.cls = .ref 59)(hq:Q () ⟨h,g,d,t,os⟩):
  wpAny (model PW w) A (Gc "Exception.__init__" ⟨.ref x::rest,[]⟩) Q E ⟨h,g,d,t,os⟩:=by
 have F:=Gw;have hcB:(Ec 59::mBm).contains (.type "Exception")=true:=by decide
 have hshort:=F.noStar;simp only[Gc,F.initKind,F.initSplit,F.initRow]
 repeat(first| (with_reducible refine Eh he ?_;rw[hcls])|with_reducible refine Eh hC ?_| (with_reducible refine Md hC ?_;rw[hcB])|wp_step)
 refine wpAny_onRaise ?_;rw[show∀(a b:String) (n:Nat),Bind.check ⟨.positional,"*","Exception",.self,[⟨"args",.varPos,false⟩]⟩ a b n (List.map (fun x=>x.fst) ({pos:=Ec x::rest}:Args).kw)=pure () from
  fun a b n=>check_star_args _ _ _ _ _ _]
 exact Ak hq
theorem aIk{d0:Option Addr}(X:(Mine.hd.heap_1 w.params).In s.heap)(hx:s.heap.get? x=some (cS t0 d0))
  (h:∀h' t1,(∀b o,b≠x->s.heap.get? b=some o->h'.get? b=some o)->s.heap.objs.size<=h'.objs.size->h'.get? x=some (cS t1 d0)->Q .none {s with heap:=h'}):
  wpAny (model PW w) A (call (.builtin "Exception.__init__") [.ref x,v]) Q E s:=by
 obtain⟨hh,g,d,t,os⟩:=s;have F:=Gw;refine Ml (codeAny_call_builtin F.init.plain F.initEntry (aEx (X _ _ m_obj:hh.get? 59=some sS) hx rfl ?_));unfold Builtin.«BaseException.__init__»
 wp_walk
 have hx1:(hh.push {cls:=.type "tuple",data:=.seq #[v]}).get? x=some (cS t0 d0):=Ae _ hx;refine h _ hh.objs.size (fun b o n e=>(Ki _ _ (Bw n)).trans (Ae _ e)) ?_ ?_
 ·show hh.objs.size<=_;have:((hh.push {cls:=.type "tuple",data:=.seq #[v]}).update x (Obj.mapFields fun x=>x.setIfInBounds 0 (Ec hh.objs.size))).get? x≠none:=by rw[Dr _ hx1 rfl];exact fun z=>by cases z
  rw[((Dx (hh.push {cls:=.type "tuple",data:=.seq #[v]}) x (Obj.mapFields fun x=>x.setIfInBounds 0 (Ec hh.objs.size))).1),Bz];exact Cs _
 ·rw[Dr _ hx1 rfl];rfl
theorem zY(self:Value):refuseLoop self "__setattr__" (.ref 59::mBm)=pure ():=by
 rw[refuseLoop_ref,refuseLoop_ref];exact PySem.F.store_Exception.passes self
theorem aLr{d0:Option Addr}(X:(Mine.hd.heap_1 w.params).In s.heap)(hx:s.heap.get? x=some (cS t0 d0))(ht:Cq (Mine.hd.heap_1 w.params) (.ref 59) name=some none)
  (h:∀b,wpAny (model PW w) A.in1 (storeInOwnDict (.ref x) (.ref 59) (.str name tk) name v b) (fun fin s'=>match fin with| .done f=>R (.ok f) s'| .again c'=>c'.quiet=true/\Kh (model PW w) A c' R s') (fun e s'=>R (.error e) s') s):
  Kh (model PW w) A (.call (.builtin "object.__setattr__") ⟨[.ref x,.str name tk,v],[]⟩) R s:=by
 have SF:=PySem.F.store_object;have hC:s.heap.get? 59=some sS:=X _ _ m_obj;have typ:Looks (model PW w) s.heap (Nn (.ref x)) (.ref 59):=(Ng hx).andThen .now;refine codeAny_call_builtin SF.slot.plain SF.entry (@check_slot (model PW w) _ _ s "object.__setattr__" "object" "__setattr__" (.ref x) [.str name tk,v] [] _ SF.kind SF.split (typ.andThen (looks_mroIn X aRi):Looks (model PW w) s.heap (Mm (.ref x) (.type "object")) true) (SF.args (.ref x) (.str name tk) v) ?_);obtain⟨hh,g,d,t,os⟩:=s;rw[osa_eq,refuse_eq];refine Ab (Ab (typ.here (Ab (wpAny_mroOf_exc hC ?_))));rw[zY];refine Ak (Ab (typ.here (Ab ((Jo X ht).here (Ab (Ak ?_))))));exact h _
theorem aCi{d0:Option Addr}{Q:Unit->Ai->Prop}(X:(Mine.hd.heap_1 w.params).In s.heap)(hx:s.heap.get? x=some (cS t0 d0))(ht:Cq (Mine.hd.heap_1 w.params) (.ref 59) name=some none)
  (h:∀b,wpAny (model PW w) A.in1 (storeInOwnDict (.ref x) (.ref 59) (.str name s.toks) name v b) (fun fin s'=>match fin with| .done (.ret _)=>Q () s'| .done _=>False| .again c'=>c'.quiet=true/\Kh (model PW w) A c' (fun r s'=>match r with| .ok (.ret _)=>Q () s'| .ok _=>False| .error e=>E e s') s') (fun e s'=>E e s') {s with toks:=s.toks+1}):
  wpAny (model PW w) A (Na (.ref x) name v) Q E s:=by
 refine Ab (wpAny_mkText (Ab (Ab (Ab (((Ng hx).andThen .now:Looks (model PW w) s.heap (Nn (.ref x)) (.ref 59)) _ _ _ _ (fun _ _ e=>e) (Jo X aVy _ _ _ _ (fun _ _ e=>e) (Dv ?_)))))));rw[PySem.F.store_object.slot.bind];refine Ab (Ak (Ab (Ml (codeAny_mono (aLr (s:={s with toks:=s.toks+1}) (R:=fun r s'=>match r with| .ok (.ret _)=>Q () s'| .ok _=>False| .error e=>E e s') X hx ht fun b=>Ey (h b) (fun fin s' z=>?_) fun _ _ z=>z) fun r s' z=>?_))))
 ·rcases fin with(_|_|_|_)|_ <;> first|exact z|exact z.elim
 ·rcases r with e| (v|_|_|_) <;> first|exact z|exact Ak (Ak z)
theorem aEb{Q:Unit->Ai->Prop}(X:(Mine.hd.heap_1 w.params).In s.heap)(hx:s.heap.get? x=some (cS t0 none))(ht:Cq (Mine.hd.heap_1 w.params) (.ref 59) name=some none)
  (h:∀h' tk od,(∀b o,b≠x->s.heap.get? b=some o->h'.get? b=some o)->s.heap.objs.size<=h'.objs.size->h'.get? x=some (cS t0 (some s.heap.objs.size))->h'.get? s.heap.objs.size=some od->od.IsDictOf (Br PW w) [(name,v)]->Q () {s with heap:=h',toks:=tk}):
  wpAny (model PW w) A (Na (.ref x) name v) Q E s:=by
 refine aCi X hx ht fun b=>?_;obtain⟨hh,g,d,t,os⟩:=s;have hC:hh.get? 59=some sS:=X _ _ m_obj;dsimp only at hx h ⊢;unfold storeInOwnDict
 iterate 27 (first| (with_reducible refine Eh hx ?_)| (with_reducible refine Eh hC ?_)|wp_step)
 have hx1:(hh.push {cls:=.type "dict",data:=.dict #[]}).get? x=some (cS t0 none):=Ae _ hx;have ne:x≠hh.objs.size:=Bn (Aw hx);generalize hg1:((hh.push {cls:=.type "dict",data:=.dict #[]}).update x fun o=>{cls:=o.cls,dict:=some hh.objs.size,data:=o.data,slots:=o.slots})=h1;have hx2:h1.get? x=some (cS t0 (some hh.objs.size)):=by rw[<-hg1,Dr _ hx1 rfl]
 have hD:h1.get? hh.objs.size=some emptyDict:=by rw[<-hg1];exact(Ki _ _ ne).trans (Heap.get?_push_at rfl rfl)
 have kp:∀b o,b≠x->hh.get? b=some o->h1.get? b=some o:=fun b o n e=>by rw[<-hg1];exact(Ki _ _ (Bw n)).trans (Ae _ e)
 have e0:emptyDict.IsDictOf (Br PW w) []:=by
  obtain⟨o,ho,hdo⟩:=Bk.mp (Gv (knd:=Br PW w) hh);have:(hh.push emptyDict).get? hh.objs.size=some emptyDict:=Ao _ rfl;have e:o=emptyDict:=Cw (ho.symm.trans this);exact e▸hdo
 clear hg1;exact qG hD e0 (Fa _) fun h' tk od' sb G e'=>h _ _ _ (fun b o n e=>(sb.2 b (Bn (Aw e))).trans (kp b o n e)) (Ar (Ef (Aw hD):hh.objs.size<=h1.objs.size) (De sb.1.symm)) ((sb.2 x ne).trans hx2) G e'
theorem aEa{D:Addr}{od:Obj}{kv:List (Str×Value)}{Q:Unit->Ai->Prop}(X:(Mine.hd.heap_1 w.params).In s.heap)(hx:s.heap.get? x=some (cS t0 (some D)))(hD:s.heap.get? D=some od)(e0:od.IsDictOf (Br PW w) kv)(hz:kv.length<=900)(ht:Cq (Mine.hd.heap_1 w.params) (.ref 59) name=some none)
  (h:∀h' tk od',Ch D s.heap h'->h'.get? D=some od'->od'.IsDictOf (Br PW w) (Jt kv name v)->Q () {s with heap:=h',toks:=tk}):
  wpAny (model PW w) A (Na (.ref x) name v) Q E s:=by
 refine aCi X hx ht fun b=>?_;obtain⟨hh,g,d,t,os⟩:=s;have hC:hh.get? 59=some sS:=X _ _ m_obj;dsimp only at hx h hD ⊢;unfold storeInOwnDict
 iterate 21 (first| (with_reducible refine Eh hx ?_)| (with_reducible refine Eh hC ?_)|wp_step)
 exact qG hD e0 hz fun h' tk od' sb G e'=>h _ _ _ sb G e'
end
end
section
open PySem.SeqAt
structure RSt(Γ:Gm)(ms:Str->Option Sh)(σ:Sg)(t:Sem Flow)(σ':Sg):Prop where
 run:∀(c:Cf) (s:Ai) (Q:Flow->Ai->Prop) (E:Value->Ai->Prop),At Γ ms σ c->s.heap=c.h->
  (∀e c' tk,Rz Γ σ' c' e->At Γ (mL []) σ' c'->Step Γ.P c c'->E (.ref e) {s with heap:=c'.h,toks:=tk})->wpN (M Γ) Γ.Ad t Q E s
section
variable{name:Str}{an od:Option Addr}{osl:Array (Option Value)}{f:Addr}{names:List Str}
theorem dF{ms:List (Str×Sh)}(D:Dom σ σ')
  (ho:(Mine.hd.heap_1 w.params).lookup f=some ⟨oc,od,.func (fnOf name qual params body scope dV kV doc pm an cdv ct),osl⟩)(hcd:Ms (Mine.hd.heap_1 w.params) cdv qual=true)
  (hms:(names.zip (args++dsh)).reverse=ms)(hdv:∀(σ:Sg) (c:Cf),IsAll σ c dsh dv)
  (hbind:∀(s:Ai) (vs:List Value),(Mine.hd.heap_1 w.params).In s.heap->vs.length=args.length->Ll s (fnOf name qual params body scope dV kV doc pm an cdv ct) ⟨vs,[]⟩ (names.zip (vs++dv)))
  (h:∀(A:Ez) (base:Heap) (outer:List Env) (g:Heap) (mg mb:Str->Option Value) (L:Addr),RSt ⟨w,A.deeper (envOf qual scope L f cdv),base,envOf qual scope L f cdv::outer,g,eH base L,mg,mb,n,L,envOf qual scope L f cdv,dom σ,noF⟩ (mL ms) σ (execs body (envOf qual scope L f cdv)) σ')
  (ok:yH scope names=true:=by exact Eo true):FE w (n+1) (fun _=>.ref f) args σ σ':=
 ⟨D,fun A base outer g mg mb c s vs R C H hs hv q=>aDk ho hcd hms hdv hbind C H hs hv ok (fun L c1 tk a S=>(h A base outer g mg mb L).run c1 _ _ _ a rfl fun e c' tk' r a' S'=>
  xR (Γ:=⟨w,A.deeper (envOf qual scope L f cdv),base,envOf qual scope L f cdv::outer,g,eH base L,mg,mb,n,L,envOf qual scope L f cdv,dom σ,noF⟩) rfl rfl a' r rfl fun h' T hF o1 o2 H' S2=>q e T ⟨c'.ρ,h'⟩ tk' hF o1 o2 H' (S.trans (S'.trans (S2.mono D))))⟩
end
structure CallE(Γ:Gm)(ms:Str->Option Sh)(σ:Sg)(f:Value)(shs:List Sh)(σ':Sg):Prop where
 dom:Dom σ σ'
 run:∀(c:Cf) (s:Ai) (vs:List Value) (Q:Value->Ai->Prop) (E:Value->Ai->Prop),At Γ ms σ c->s.heap=c.h->IsAll σ c shs vs->
  (∀e c' tk,Rz Γ σ' c' e->At Γ (mL []) σ' c'->Step (Mine.dom σ) c c'->E (.ref e) {s with heap:=c'.h,toks:=tk})->wpN (M Γ) Γ.Ad (call f vs []) Q E s
theorem FE.callE{f:Value}(S:FE Γ.w n (fun _=>f) shs σ σ1)(hn:n<=Γ.n)(hF:∀l,¬Γ.F l):CallE Γ ms σ f shs σ1:=
 ⟨S.dom,fun c s vs Q E a hs hv q=>cJ (by
  refine bc fun nq=>?_;obtain⟨g',C,H,back,off⟩:=a.give hF;refine nq ?_;refine S.run _ _ _ g' Γ.mg Γ.mb c s vs _ (C Γ.Ad n rfl (by exact z8 hn) (by exact z9 hn) a.ok.hh) H hs hv fun e T c' tk hfl o1 o2 H' S'=>?_;have un:∀b,wE g' σ1 c' b->Un Γ σ1 c' b:=fun b o=>⟨(off b o.1).1,(off b o.1).2.1,(off b o.1).2.2,o.2⟩;exact q e c' tk ⟨un e o1,.inr ⟨T,un T o2,hfl⟩⟩ ((back σ1 c' S.dom H' S').weak fE) S')⟩
theorem EC.err{t:Sem Value}{f:Value}(h:EC Γ ms σ t f shs σ1)(h2:CallE Γ ms σ1 f shs σ2):ER Γ ms σ t σ2:=
 ⟨h.dom.trans h2.dom,fun c s Q E a hs q=>h.run c s Q E a hs fun vs c1 t1 i1 a1 s1=>h2.run c1 _ vs Q E a1 rfl i1 fun e c2 t2 r a2 s2=>q e c2 t2 r a2 (s1.trans (s2.mono h.dom))⟩
theorem eE{args:List Aj}{f:Value}(h0:EV Γ ms σ (eval fe Γ.env) (.con f) σ1)(k:Keeps Γ f)(h1:EL Γ ms σ1 (Co (Cc pos (Av args Γ.env))) shs σ2)(h2:CallE Γ ms σ2 f shs σ3)
  (ok:iS args=true:=by exact Eo true)
  (hc:eval (.Call fe args [] pos) Γ.env=(do Gs pos (<-eval fe Γ.env) [] (Cc pos (Av args Γ.env)) (Ht pos (Fh [] Γ.env))):=by rfl):ER Γ ms σ (eval (.Call fe args [] pos) Γ.env) σ3:=(aDo h0 k h1 ok hc).err h2
theorem aQi{f:Value}(h0:EV Γ ms σ (eval fe Γ.env) (.con f) σ1)(h1:ER Γ ms σ1 (Co (Cc pos (Av (e::rest) Γ.env))) σ2)(he:dY e=true)
  (hc:eval (.Call fe (e::rest) [] pos) Γ.env=(do Gs pos (<-eval fe Γ.env) [] (Cc pos (Av (e::rest) Γ.env)) (Ht pos (Fh [] Γ.env))):=by rfl):ER Γ ms σ (eval (.Call fe (e::rest) [] pos) Γ.env) σ2:=
 ⟨h0.dom.trans h1.dom,fun c s Q E a hs q=>by
  rw[hc];refine h0.bind a hs fun u c1 t1 i1 a1 s1=>?_;obtain rfl:=i1.con_inv;have z:=fun R=>h1.run c1 {s with heap:=c1.h,toks:=t1} R E a1 rfl fun e c2 t2 r a2 s2=>q e c2 t2 r a2 (s1.trans (s2.mono h0.dom));rw[cK he] at z ⊢;exact aE (aF (nH (z _)))⟩
theorem pI(h:ER Γ ms σ (eval e Γ.env) σ1)(he:dY e=true:=by exact Eo true):ER Γ ms σ (Co (Cc pos (Av (e::rest) Γ.env))) σ1:=
 ⟨h.dom,fun c s Q E a hs q=>by
  rw[cK he];show wpN _ _ (do
   let v <-eval e Γ.env
   let here <-(pure [v]:Sem (List Value))
   return here++(<-Dc here (Co (Cc pos (Av rest Γ.env))))) Q E s
  exact(h.bind a hs q)⟩
theorem aNy{x:Sh}(h1:EV Γ ms σ (eval e Γ.env) x σ1)(h2:ER Γ ms σ1 (Co (Cc pos (Av rest Γ.env))) σ2)(he:dY e=true:=by exact Eo true):
  ER Γ ms σ (Co (Cc pos (Av (e::rest) Γ.env))) σ2:=
 ⟨h1.dom.trans h2.dom,fun c s Q E a hs q=>by
  rw[cK he];show wpN _ _ (do
   let v <-eval e Γ.env
   let here <-(pure [v]:Sem (List Value))
   return here++(<-Dc here (Co (Cc pos (Av rest Γ.env))))) Q E s
  refine h1.bind a hs fun v c1 t1 i1 a1 s1=>?_;exact aW (h2.hold a1 rfl fun e c2 t2 r a2 s2=>q e c2 t2 r a2 (s1.trans (s2.mono h1.dom)))⟩
theorem rV{k:Nat}(h:ER Γ ms σ (Co (Cc pos (Av es Γ.env))) σ1):ER Γ ms σ (eval (.Tuple es k pos) Γ.env) σ1:=
 ⟨h.dom,fun c s Q E a hs q=>by
  exact aG (h.bind a hs fun e c1 t1 r a1 s1=>q e c1 t1 r a1 s1)⟩
theorem aNz{name:Str}{args:List Aj}{f:Addr}{kvs:List (Str×Sh)}(h0:EV Γ ms σ (eval o Γ.env) (.ref l) σ1)(hl:σ1 l=some (.inst C d))(hd:σ1 d=some (.sdict kvs))(hv:aY kvs name=none)(K:ClsOk Γ C)
  (hf:Cq (Mine.hd.heap_1 Γ.w.params) (.ref C) name=some (some (.ref f)))(ht:isFn (Mine.hd.heap_1 Γ.w.params) (.ref f)=true)(k:Keeps Γ (.ref f))
  (h1:EL Γ ms σ1 (Co (Cc pos (Av args Γ.env))) shs σ2)(h2:CallE Γ ms σ2 (.ref f) (.ref l::shs) σ3)
  (hb:Cd o name Γ.env (eval o Γ.env)=eval o Γ.env)(ok:cR args apos pos=true):ER Γ ms σ (eval (.Call (.Attribute o name apos) args [] pos) Γ.env) σ3:=(wP h0 hl hd hv K hf ht k h1 hb ok).err h2
theorem rW{name:Str}{args:List Aj}{f:Addr}{mc:Value}(h0:EV Γ ms σ (eval o Γ.env) (.con (.ref C)) σ1)(hg:Pc (Mine.hd.heap_1 Γ.w.params) (.ref C) "__getattribute__"=some (some (.builtin "type.__getattribute__")))
  (hr:readsIn (Mine.hd.heap_1 Γ.w.params) C mc=true)(hfc:findCls (Mine.hd.heap_1 Γ.w.params) (.ref C) mc name=some (.val (.ref f)))(k:Keeps Γ (.ref f))
  (h1:EL Γ ms σ1 (Co (Cc pos (Av args Γ.env))) shs σ2)(h2:CallE Γ ms σ2 (.ref f) shs σ3)
  (hb:Cd o name Γ.env (eval o Γ.env)=eval o Γ.env)(ok:cR args apos pos=true):ER Γ ms σ (eval (.Call (.Attribute o name apos) args [] pos) Γ.env) σ3:=(aKv h0 hg hr hfc k h1 hb ok).err h2
theorem bA{rest:List Stmt}(h:RSt Γ ms σ (exec st Γ.env) σ1):RSt Γ ms σ (execs (st::rest) Γ.env) σ1:=
 ⟨fun c s Q E a hs q=>cI (h.run c s _ E a hs q)⟩
theorem jU{rest:List Stmt}(h1:SS Γ ms σ (exec st Γ.env) .next ms1 σ1)(h2:RSt Γ ms1 σ1 (execs rest Γ.env) σ2):RSt Γ ms σ (execs (st::rest) Γ.env) σ2:=
 ⟨fun c s Q E a hs q=>cI (h1.run c s _ E a hs fun f c1 t1 i1 a1 s1=>by
  obtain rfl:=i1.next_inv;exact h2.run c1 _ _ E a1 rfl fun e c2 t2 r a2 s2=>q e c2 t2 r a2 (s1.trans s2))⟩
theorem cQ(h:EB Γ ms σ (isTrue test Γ.env (eval test Γ.env)) true σ1)(h2:RSt Γ ms σ1 (execs body Γ.env) σ2):RSt Γ ms σ (exec (.If test body orelse pos) Γ.env) σ2:=
 ⟨fun c s Q E a hs q=>by
  rw[exec_If];refine aG (h.bind a hs fun v c1 t1 i1 a1 s1=>?_);subst i1;exact h2.run c1 _ _ E a1 rfl fun e c2 t2 r a2 s2=>q e c2 t2 r a2 ((a.step s1).trans s2)⟩
theorem jP(h:EB Γ ms σ (isTrue test Γ.env (eval test Γ.env)) false σ1)(h2:RSt Γ ms σ1 (execs orelse Γ.env) σ2):RSt Γ ms σ (exec (.If test body orelse pos) Γ.env) σ2:=
 ⟨fun c s Q E a hs q=>by
  rw[exec_If];refine aG (h.bind a hs fun v c1 t1 i1 a1 s1=>?_);subst i1;exact h2.run c1 _ _ E a1 rfl fun e c2 t2 r a2 s2=>q e c2 t2 r a2 ((a.step s1).trans s2)⟩
theorem mQ(h:ER Γ ms σ (eval e Γ.env) σ1)(hi:Nr Γ.env=false)(hs:Gb e none pos.line Γ.env=pure false):RSt Γ ms σ (exec (.Expr e pos) Γ.env) σ1:=
 ⟨fun c s Q E a hs' q=>pN hi hs (h.run c s _ E a hs' fun e c1 t1 r a1 s1=>q e c1 t1 r a1 (a.step s1))⟩
theorem jQ{tg:Aj}(h:ER Γ ms σ (eval e Γ.env) σ1)(hs:Gb e (some tg) pos.line Γ.env=pure false):RSt Γ ms σ (exec (.Assign [tg] e pos) Γ.env) σ1:=
 ⟨fun c s Q E a hs' q=>by
  refine aG ?_;rw[show Kj [tg] e pos.line Γ.env=Gb e (some tg) pos.line Γ.env from rfl,hs]
  refine aW ?_;exact(h.bind a hs' fun e c1 t1 r a1 s1=>q e c1 t1 r a1 (a.step s1))⟩
end
section
open PySem.SeqAt
section
variable{n nd:Lbl}
theorem At.chg{o:Ob}{x:Obj}(a:At Γ ms σ c)(hl:σ l=some o)(hF:¬Γ.F l)(k:∀b ob,b≠c.ρ l->c.h.get? b=some ob->h'.get? b=some ob)(hx:h'.get? (c.ρ l)=some x)
  (i:ObIs Γ.w (upd σ l o') ⟨c.ρ,h'⟩ o' x):At Γ ms (upd σ l o') ⟨c.ρ,h'⟩/\Step (dom σ) c ⟨c.ρ,h'⟩:=by
 have hl':σ l≠none:=by rw[hl];exact fun z=>by cases z
 obtain⟨x0,x1,x2,x3,x4⟩:=a.ob l o hl;have S:Step (dom σ) c ⟨c.ρ,h'⟩:=⟨fun _ _=>rfl,fun b vs e=>k _ _ (fun q=>by rw[q,x1] at e;cases e;exact x2.notTup) e⟩;have D:Dom σ (upd σ l o'):=Dom.upd;have dom':∀y,upd σ l o' y≠none->σ y≠none:=fun y h=>by
  by_cases e:y=l
  ·exact e▸hl'
  ·unfold upd at h;rwa[if_neg e] at h
 have kg:∀b ob,Γ.g.get? b=some ob->Kept Γ.fr b ob h':=fun b ob e=>(a.keep b ob e).go fun o'=>k b o' fun q=>by rw[q,(x3.resolve_right hF)] at e;cases e
 refine⟨⟨⟨fun y ob e=>?_,fun y y' h h' e=>a.inj y y' (dom' y h) (dom' y' h') e,?_,kg⟩,a.ok,?_,fun y h=>a.offL y (dom' y h),fun z b hb=>?_,fun y p=>D y (a.prot y p)⟩,S⟩
 ·by_cases q:y=l
  ·subst q;unfold upd at e;rw[if_pos rfl] at e;cases e;exact⟨x,hx,i,x3,x4⟩
  ·unfold upd at e;rw[if_neg q] at e;obtain⟨z,h1,h2,h3,h4⟩:=a.ob y ob e;refine⟨z,k _ _ (fun w=>q (a.inj y l (by rw[e];exact fun z=>by cases z) hl' w)) h1,h2.mono D S,h3,h4⟩
 ·obtain⟨ls,hls⟩:=a.fin;exact⟨ls,fun y h=>hls y (dom' y h)⟩
 ·obtain⟨m,F,hm⟩:=a.fr;refine⟨m,⟨F.ns.at' fun o e=>k _ o (fun q=>(a.offL l hl').1 q.symm) e,kg,F.off⟩,fun z sh hk e=>?_⟩;obtain⟨v,h1,h2⟩:=hm z sh hk e;exact⟨v,h1,h2.mono D S⟩
 ·refine bc fun nq=>?_;obtain⟨⟨u,⟨oc,ho,hd⟩,hu⟩,h2,h3⟩:=a.cel z b hb;refine nq ?_;refine⟨⟨u,⟨oc,k _ _ (Bw (h3 l hl')) ho,hd⟩,fun sh e=>?_⟩,h2,fun y h=>h3 y (dom' y h)⟩;obtain⟨y,e1,hy⟩:=hu sh e;exact⟨y,e1,hy.mono D S⟩
theorem At.exc0(a:At Γ ms σ c)(hn:σ n=some exc0):∃t,c.h.get? (c.ρ n)=some (cS t none):=by
 obtain⟨y,h1,h2,_⟩:=a.ob n _ hn;obtain⟨t,rfl⟩:=(h2.raw_inv.2);exact⟨t,h1⟩
theorem At.exc1(a:At Γ ms σ c)(hn:σ n=some (exc1 nd)):∃t,c.h.get? (c.ρ n)=some (cS t (some (c.ρ nd))):=by
 obtain⟨y,h1,h2,_⟩:=a.ob n _ hn;refine bc fun nq=>?_;obtain⟨t,d,e,rfl⟩:=(h2.raw_inv.2);cases e;refine nq ?_;exact⟨t,h1⟩
theorem iK{t:Addr}{d:Option Addr}:cS t d≠cY vs:=fun e=>by
 have:=congrArg Il e;cases this
theorem wU(hn:σ n=some exc0)(hF:¬Γ.F n):CallOk Γ ms σ (.builtin "Exception.__init__") [.ref n,.str x] .none σ:=
 ⟨Dom.refl σ,fun c s vs Q E a hs i q=>wpN.of (by
  obtain⟨u,v,j,_⟩:=i.two;obtain rfl:=j.ref_inv;obtain⟨t,ht⟩:=a.exc0 hn;refine aIk (by rw[hs];exact a.K) (by rw[hs];exact ht) fun h' t1 kp hz hx=>?_;rw[hs] at kp;obtain⟨a1,s1⟩:=a.chg (l:=n) (o':=exc0) hn hF kp hx (.raw [] _ _ (fun _ h=>by cases h) ⟨t1,rfl⟩ fun _=>iK);rw[jA hn] at a1;exact q .none ⟨c.ρ,h'⟩ s.toks .none a1 s1)⟩
theorem aGj{args:List Aj}(h0:EV Γ ms σ (eval o Γ.env) (.con (.type "Exception")) σ1)
  (h1:EL Γ ms σ1 (Co (Cc pos (Av args Γ.env))) [.ref n,.str x] σ2)(hn:σ2 n=some exc0)(hF:¬Γ.F n)
  (hb:Cd o "__init__" Γ.env (eval o Γ.env)=eval o Γ.env)(ok:cR args apos pos=true):EV Γ ms σ (eval (.Call (.Attribute o "__init__" apos) args [] pos) Γ.env) .none σ2:=
 ⟨h0.dom.trans h1.dom,fun c s Q E a hs q=>by
  rw[Iz,hb];refine h0.bind a hs fun u c1 t1 i1 a1 s1=>?_;cases i1;refine aG ?_;unfold Lg;rw[show(args.length+([]:List Nv).length)=args.length+0 from rfl,qF ok]
  refine bV ?_;refine aId a1.K ?_;dsimp only;rw[xM ok];refine aW ?_;exact aLc (fsh:=[]) (first:=[]) (.inr (.inr ⟨_,rfl⟩)) h1 (wU hn hF) (lM ok) (aCk ok) c1 _ Q E a1 rfl .nil fun v c2 t2 i2 a2 s2=>q v c2 t2 i2 a2 (s1.trans (s2.mono h0.dom))⟩
theorem aOi{name:Str}(h2:EV Γ ms σ (eval o Γ.env) (.ref n) σ1)(hn:σ1 n=some exc0)(hd:σ1 nd=none)(hF:¬Γ.F n)(hf:∀P:Jz,Cq (Mine.hd.heap_1 P) (.ref 59) name=some none):
  AS Γ ms σ (.Attribute o name px) sh ms (upd (upd σ1 nd (.sdict [(name,sh)])) n (exc1 nd)):=
 ⟨(h2.dom.trans Dom.upd).trans Dom.upd,fun c s r Q E a hs i1 q=>by
  have ea:Hm (.Attribute o name px) Γ.env r=(do
   let ov <-Dc [r] (eval o Γ.env)
   Fb px.atName
   Dc [r,ov] (Na ov name r)
   Nb [r,ov] []):=rfl
  refine h2.hold a hs fun u c2 t2 i2 a2 s2=>?_;cases i2;obtain⟨t,ht⟩:=a2.exc0 hn;refine aG (aE (aF (wpN.of (aEb (s:={s with heap:=c2.h,toks:=t2}) a2.K ht (hf _) fun h' t3 od kp hz hx hod hdo=>?_))));dsimp only at kp hz hx hod;have hnn:nd≠n:=fun q=>by rw[q,hn] at hd;cases hd
  have ir:=i1.mono h2.dom s2;have hex:∃o',o'=cS t (some c2.h.objs.size):=⟨_,rfl⟩;refine bc fun nq=>?_;obtain⟨a3,s3⟩:=a2.chg (l:=n) (o':=.raw [] fun _ o=>o=cS t (some c2.h.objs.size)) hn hF kp hx (.raw [] _ _ (fun _ h=>by cases h) rfl fun _=>iK);have D3:Dom σ1 (upd σ1 n (.raw [] fun _ o=>o=cS t (some c2.h.objs.size))):=Dom.upd;have un:Un Γ (upd σ1 n (.raw [] fun _ o=>o=cS t (some c2.h.objs.size))) ⟨c2.ρ,h'⟩ c2.h.objs.size:=
   have u:=a2.newUn (Bs _)
   ⟨u.g,u.L,u.cel,fun l hl=>u.rho l fun e=>hl ((upd_ne fun z=>by rw[z,hn] at e;cases e).trans e)⟩
  have hd3:upd σ1 n (.raw [] fun _ o=>o=cS t (some c2.h.objs.size)) nd=none:=(upd_ne hnn).trans hd;obtain⟨a4,s4⟩:=a3.adopt (l:=nd) (o:=.sdict [(name,sh)]) (D:=c2.h.objs.size) un hd3 a2.big.1 hod (.sdict _ _ _ hdo (.cons ((ir.mono D3 s3).mono Dom.upd (⟨fun y h=>setρ_ne fun e=>h (e.symm▸hd3),fun _ _ e=>e⟩:Step (Mine.dom (upd σ1 n (.raw [] fun _ o=>o=cS t (some c2.h.objs.size)))) ⟨c2.ρ,h'⟩ ⟨aN c2.ρ nd c2.h.objs.size,h'⟩)) .nil));have eρ:aN c2.ρ nd c2.h.objs.size n=c2.ρ n:=setρ_ne (Bw hnn);obtain⟨a5,s5⟩:=a4.chg (h':=h') (l:=n) (o':=exc1 nd) ((upd_ne (Bw hnn)).trans aC:upd (upd σ1 n (.raw [] fun _ o=>o=cS t (some c2.h.objs.size))) nd (.sdict [(name,sh)]) n=some (.raw [] fun _ o=>o=cS t (some c2.h.objs.size))) hF (fun b ob _ e=>e) (by dsimp only;rw[eρ];exact hx) (.raw [nd] _ _ (fun l hl=>by
   rw[Ax.mp hl,upd_ne hnn,aC];exact fun z=>by cases z) ⟨t,c2.h.objs.size,by simp[(setρ_at:aN c2.ρ nd c2.h.objs.size nd=c2.h.objs.size)],rfl⟩ fun _=>iK)
  have es:upd (upd (upd σ1 n (.raw [] fun _ o=>o=cS t (some c2.h.objs.size))) nd (.sdict [(name,sh)])) n (exc1 nd)=upd (upd σ1 nd (.sdict [(name,sh)])) n (exc1 nd):=by
   rw[bT (Bw hnn),aX]
  rw[es] at a5;refine nq ?_;exact dB (q _ t3 a5 (s2.trans ((s3.trans ((s4.mono D3).trans (s5.mono (D3.trans Dom.upd)))).mono h2.dom)))⟩
theorem aOh{name:Str}{kvs:List (Str×Sh)}(h2:EV Γ ms σ (eval o Γ.env) (.ref n) σ1)(hn:σ1 n=some (exc1 nd))(hd:σ1 nd=some (.sdict kvs))(hz:kvs.length<=900)(hF:¬Γ.F nd)(hf:∀P:Jz,Cq (Mine.hd.heap_1 P) (.ref 59) name=some none):
  AS Γ ms σ (.Attribute o name px) sh ms (upd σ1 nd (.sdict (bW kvs name sh))):=
 ⟨h2.dom.trans Dom.upd,fun c s r Q E a hs i1 q=>by
  have ea:Hm (.Attribute o name px) Γ.env r=(do
   let ov <-Dc [r] (eval o Γ.env)
   Fb px.atName
   Dc [r,ov] (Na ov name r)
   Nb [r,ov] []):=rfl
  refine h2.hold a hs fun u c2 t2 i2 a2 s2=>?_;refine bc fun nq=>?_;cases i2;obtain⟨t,ht⟩:=a2.exc1 hn;obtain⟨od,kv,g1,g2,g3,_⟩:=a2.dict dkS hd;refine nq ?_;refine aG (aE (aF (wpN.of (aEa (s:={s with heap:=c2.h,toks:=t2}) a2.K ht g1 g2 (by rw[g3.length];exact hz) (hf _) fun h' t3 od' sb hod hdo=>?_))));dsimp only at sb hod;have ir:=i1.mono h2.dom s2;have S3:Step (Mine.dom σ1) c2 ⟨c2.ρ,h'⟩:=⟨fun _ _=>rfl,fun b us eb=>(sb.2 b (fun w=>by
   obtain⟨y,h1,h3,_⟩:=a2.ob nd _ hd;rw[w,h1] at eb;cases eb;exact h3.notTup)).trans eb⟩
  obtain⟨a3,s3⟩:=a2.put hd hF sb hod (.sdict (bW kvs name sh) _ _ hdo ((g3.mono Dom.upd S3).put (ir.mono Dom.upd S3)));exact dB (q _ t3 a3 (s2.trans (s3.mono h2.dom)))⟩
end
section
variable{n nd:Lbl}
theorem zL(S:FN Γ.w 1 (.ref 36) [.ref n,.str x] (upd σ n exc0) .none σ1)(hn:σ n=none)(hN:2<=Γ.n)(hF:∀l,¬Γ.F l):CallOk Γ ms σ (.ref 59) [.str x] (.ref n) σ1:=
 ⟨Dom.upd.trans S.dom,fun c s vs Q E a hs i q=>by
  obtain⟨u,j⟩:=i.one;obtain⟨h,g,dr,t,os⟩:=s;dsimp only at hs;subst hs;refine cJ (aIm a.K (by rw[Bh];exact Aa rfl) ?_);have k:∀b o,c.h.get? b=some o->((c.h.push {cls:=.type "tuple",data:=.seq [u].toArray}).push (cS c.h.objs.size none)).get? b=some o:=fun b o e=>Ae _ (Ae _ e);have hx:((c.h.push {cls:=.type "tuple",data:=.seq [u].toArray}).push (cS c.h.objs.size none)).get? (c.h.objs.size+1)=some (cS c.h.objs.size none):=by heap_get
  obtain⟨a1,s1⟩:=a.alloc (l:=n) (o:=exc0) (ad:=c.h.objs.size+1) (h':=(c.h.push {cls:=.type "tuple",data:=.seq [u].toArray}).push (cS c.h.objs.size none)) hn k (Ef (Nat.lt_of_succ_lt (Aw hx))) (Cs _) hx (.raw [] _ _ (fun _ h=>by cases h) ⟨_,rfl⟩ fun _=>iK);have en:aN c.ρ n (c.h.objs.size+1) n=c.h.objs.size+1:=setρ_at;have ir:Is (upd σ n exc0) ⟨aN c.ρ n (c.h.objs.size+1),(c.h.push {cls:=.type "tuple",data:=.seq [u].toArray}).push (cS c.h.objs.size none)⟩ (.ref n) (.ref (c.h.objs.size+1)):=by
   have:=Is.ref (σ:=upd σ n exc0) (c:=⟨aN c.ρ n (c.h.objs.size+1),(c.h.push {cls:=.type "tuple",data:=.seq [u].toArray}).push (cS c.h.objs.size none)⟩) n (by rw[aC];exact fun z=>by cases z);dsimp only at this;rwa[en] at this
  have un:(Γ.Ad.under (.builtin "type.__call__" ⟨.ref 59::[u],[]⟩)).units<=Γ.Ad.units+4:=Bx (show 1<=4 by decide) _;refine vM _ S hF rfl (by exact z70 hN (rfl:(Γ.Ad.under (.builtin "type.__call__" ⟨.ref 59::[u],[]⟩)).depth=Γ.Ad.depth+1)) (by exact z71 hN un) a.ok.hh a1 rfl (.cons ir (.cons (j.mono Dom.upd s1) .nil)) fun v c' tk iv a3 s3=>?_;cases iv;refine⟨rfl,q (.ref (c.h.objs.size+1)) c' tk ?_ a3 (s1.trans (s3.mono Dom.upd))⟩;have e3:c'.ρ n=c.h.objs.size+1:=(s3.rho n (by show upd _ _ _ _≠_;rw[aC];exact fun z=>by cases z)).trans en;have:=Is.ref (σ:=σ1) (c:=c') n (S.dom n (by rw[aC];exact fun z=>by cases z));rwa[e3] at this⟩
theorem aKj(h:EV Γ ms σ (eval e Γ.env) (.ref n) σ1)(hn1:σ1 n=some (exc1 nd))(hn:σ n=none)(L:Less σ σ1 σ)(hF:∀l,¬Γ.F l):RSt Γ ms σ (exec (.Raise (some e) none pos) Γ.env) σ:=
 ⟨fun c s Q E a hs q=>by
  refine aG ?_;show wpN _ _ (raiseStmt Γ.env (some (do let v <-eval e Γ.env;Fb pos;pure v)) none) _ _ _
  refine aE (h.bind a hs fun v c1 t1 i1 a1 s1=>aG (aH ?_));refine bc fun nq=>?_;cases i1;obtain⟨t,ht⟩:=a1.exc1 hn1;have hC:c1.h.get? 59=some sS:=a1.K _ _ m_obj;refine nq ?_;refine wpN.of ?_;have fin:E (.ref (c1.ρ n)) {s with heap:=c1.h,toks:=t1}:=by
   have hl:σ1 n≠none:=by rw[hn1];exact fun z=>by cases z
   obtain⟨y,h1,h2,h3,_⟩:=a1.ob n _ hn1;refine q (c1.ρ n) c1 t1 ⟨⟨h3.resolve_right (hF n),(a1.offL n hl).1.symm∘Eq.symm,fun y b hb e=>(a1.cel y b hb).2.2 n hl e.symm,fun l hσ e=>?_⟩,.inl ⟨_,_,_,ht,rfl,rfl,rfl,rfl⟩⟩ ((a1.drop L.le (L.closed a.toHp) (fun x sh k e=>(a.msok x sh k e).mono L.dm) fun l p=>L.dm l (a.prot l p)).weak fE) (a.step s1);have:l=n:=a1.inj l n (by
    cases z:σ l with
    |none=>exact absurd z hσ
    |some o=>rw[L.le l o z];exact fun y=>by cases y) hl e
   exact hσ (this▸hn)
  obtain⟨hh,g,d,tk,os⟩:=s
  repeat(first|with_reducible refine Eh ht ?_|with_reducible refine Eh hC ?_| (with_reducible refine Md hC ?_;rw[(show(Ec 59::mBm).contains (.type "BaseException")=true by decide)])|wp_step)
  exact wpAny_raiseNew_none a1.ok.hh fin⟩
end
end
section
open PySem.SeqAt
section
variable{hpos:Pos}{e T:Addr}
theorem At.stays{S:List Addr}(a:At Γ ms σ c)(k1:(Es c.h S).StaysIn h')(k4:c.h.UpToSlots h')(hS:∀b∈S,frs Γ.stk b\/Un Γ σ c b)(hT:∀b∈S,¬frs Γ.stk b->∀us,c.h.get? b≠some (cY us)):
  At Γ ms σ ⟨c.ρ,h'⟩/\Step (Mine.dom σ) c ⟨c.ρ,h'⟩:=by
 obtain⟨m,F,hm⟩:=a.fr;have G:=a.ok;have ex:∀b o,b∉S->c.h.get? b=some o->h'.get? b=some o:=fun b o n q=>k1 b o (Dl _ q n);have labS:∀l,σ l≠none->c.ρ l∉S:=fun l hl z=>by
  rcases hS _ z with q|q
  ·exact(a.offL l hl).2 ⟨q,(a.offL l hl).1⟩
  ·exact q.rho l hl rfl
 have frd:∀b,frs Γ.stk b->∀o,c.h.get? b=some o->∃es n,o.data = .dict es n:=fun b hb o q=>by
  by_cases w:b=Γ.L
  ·subst w;obtain⟨oL,es,ep,e1,e2⟩:=aEj F.ns;rw[q] at e1;cases e1;exact⟨es,ep,e2⟩
  ·obtain⟨o',es,n,e1,e2⟩:=G.frg b ⟨hb,w⟩;obtain⟨o2,e3,e4⟩:=(a.keep b o' e1).at;rw[q] at e3;cases e3;exact⟨es,n,e4.trans e2⟩
 have frx:∀b,frs Γ.stk b->∀o,c.h.get? b=some o->∃sl,h'.get? b=some {o with slots:=sl}:=fun b hb o q=>by
  obtain⟨es,n,hd⟩:=frd b hb o q;exact k4 b o q fun vs w=>by rw[hd] at w;cases w
 have St:Step (Mine.dom σ) c ⟨c.ρ,h'⟩:=⟨fun _ _=>rfl,fun b us q=>by
  by_cases z:b∈S
  ·by_cases w:frs Γ.stk b
   ·obtain⟨es,n,hd⟩:=frd b w _ q;cases hd
   ·exact absurd q (hT b z w us)
  ·exact ex _ _ z q⟩
 have kg:∀b o,Γ.g.get? b=some o->Kept Γ.fr b o h':=fun b o q=>(a.keep b o q).trans fun o' q'=>by
  by_cases z:b∈S
  ·rcases hS _ z with w|w
   ·exact .inr ⟨⟨w,fun q2=>by rw[q2,F.off] at q;cases q⟩,frd b w _ q',frx b w _ q'⟩
   ·rw[w.g] at q;cases q
  ·exact .inl (ex _ _ z q')
 refine⟨⟨⟨fun l o q=>?_,a.inj,a.fin,kg⟩,G,⟨m,⟨k4.ns F.ns,kg,F.off⟩,fun x sh hk q=>?_⟩,a.offL,fun x b hb=>?_,a.prot⟩,St⟩
 ·obtain⟨x,h1,h2,h3,h4⟩:=a.ob l o q;exact⟨x,ex _ _ (labS l (by rw[q];exact fun z=>by cases z)) h1,h2.mono (Dom.refl _) St,h3,h4⟩
 ·obtain⟨v,h1,h2⟩:=hm x sh hk q;exact⟨v,h1,h2.mono (Dom.refl _) St⟩
 ·refine bc fun nq=>?_;obtain⟨⟨u,⟨oc,ho,hd⟩,hu⟩,n1,n3⟩:=a.cel x b hb;refine nq ?_;refine⟨⟨u,⟨oc,ex _ _ (fun z=>?_) ho,hd⟩,fun sh q=>?_⟩,n1,n3⟩
  ·rcases hS _ z with w|w
   ·exact G.nofr n1.2 ⟨w,n1.1⟩
   ·exact w.cel x b hb rfl
  ·obtain⟨y,e1,hy⟩:=hu sh q;exact⟨y,e1,hy.mono (Dom.refl _) St⟩
theorem aPu{b₀:Stmt}{suite:List Stmt}{Q:Flow->Ai->Prop}(hstk:Γ.stk=Γ.env::outer)(hf:Γ.env.frame=some Γ.L)(a:At Γ ms σ c)(u:Un Γ σ c e)(uT:Un Γ σ c T)(fl:Fly c.h e T)(hs:s.heap=c.h)
  (hx:Γ.env.kindOf x=some .globalImplicit)(hd:(x==("__debug__":Str))=false)(hn:nsIn (Mine.hd.heap_1 Γ.w.params) mainGlobals x=some (some (.ref 59)))
  (k:∀h',At Γ ms σ ⟨c.ρ,h'⟩->Step (Mine.dom σ) c ⟨c.ρ,h'⟩->wpAny (M Γ) (Γ.Ad.mark (some (.ref e))) (execs (b₀::suite) Γ.env) Q (fun _ _=>False) {s with heap:=h'}):
  wpAny (M Γ) Γ.Ad (Ks (.ref e) Γ.env) (fun _ s₂=>wpAny (M Γ) Γ.Ad (setFlight (.ref e) none) (fun _ s₃=>wpAny (M Γ) Γ.Ad (handleBy (.ref e) Γ.env [.ExceptHandler (some (.Name x px)) none (b₀::suite) hpos]) Q E s₃) E s₂) E s:=by
 refine bc fun nq=>?_;obtain⟨oe,vs,oT,ts,a0,e1,e2,e3,e4,e5,e6,e7,e8,e9⟩:=fl;obtain⟨m,F,hm⟩:=a.fr;have Bl:=a.ok.B c.h m a.keep F.ns;have m1:∀b∈Γ.stk.filterMap (·.frame)++[e,T],frs Γ.stk b\/Un Γ σ c b:=fun b hb=>by
  rcases Ce.mp hb with hb|hb
  ·exact .inl hb
  ·rcases An.mp hb with rfl|hb
   ·exact .inr u
   ·exact .inr (Ax.mp hb▸uT)
 have m2:∀b∈Γ.stk.filterMap (·.frame)++[e,T],¬frs Γ.stk b->∀us,c.h.get? b≠some (cY us):=fun b hb nf us w=>by
  rcases Ce.mp hb with hb|hb
  ·exact nf hb
  ·rcases An.mp hb with rfl|hb
   ·rw[e1] at w;cases w;cases e3
   ·rw[Ax.mp hb,e7] at w;cases w;cases e8
 have fly:Heap.FlyingW (Es c.h (Γ.stk.filterMap (·.frame)++[e,T])) (Γ.env::outer) e (.ref 59) a0 s.heap:=by
  rw[hs];exact⟨fun b o q=>Ie _ q,Er _ (by simp),hstk▸Oh Bl.frames fun env he b hb=>Fj _ (Ck.mpr ⟨env,he,hb⟩),oe,vs,T,oT,ts,e1,⟨e2,e4⟩,e3,e5,Er _ (by simp),e6,e7,e8,e9⟩
 refine nq ?_;refine wpAny_looks_onW (hstk▸Bl.stack:Γ.Ad.frames=some (Γ.env::outer)) hf fly fun h₄ hheld₄ hsm₄=>?_;refine wpAny_landsW hheld₄ fun h₅ hheld hsm₅'=>?_;have hsm₅:=hsm₄.trans hsm₅';rw[hs] at hsm₅;refine bc fun nq=>?_;obtain⟨a5,s5⟩:=a.stays hheld.1 hsm₅ m1 m2;obtain⟨m5,F5,_⟩:=a5.fr;refine nq ?_;refine wpAny_handleBy_cons (codeAny_handlers_test (nameG_K (h₀:=Γ.g0) (L:=Γ.L) (m:=m5) (F5.lower a.ok) a.ok.X0 a.ok.T0 hn ?_ a.ok.eg a.ok.ek hx hd)) (by intro q;cases q);have hC:h₅.get? 59=some sS:=a5.K _ _ m_obj;obtain⟨ob,hob,hobc⟩:=hheld.there;refine wpAny_excMatches_sub_self hC hob hobc (by decide) (codeAny_handlers_suite ?_);refine lands_againW hheld fun h₆ hfl₆ hsm₆=>?_;refine bc fun nq=>?_;obtain⟨a6,s6⟩:=a.stays hfl₆.1 (hsm₅.trans hsm₆) m1 m2;refine nq ?_;exact wpAny_noRaise (k h₆ a6 s6)
structure ERF{α:Type}(Γ:Gm)(ms:Str->Option Sh)(σ:Sg)(t:Sem α)(σ':Sg):Prop where
 dom:Dom σ σ'
 run:∀(c:Cf) (s:Ai) (Q:α->Ai->Prop) (E:Value->Ai->Prop),At Γ ms σ c->s.heap=c.h->
  (∀e T c' tk,Un Γ σ' c' e->Un Γ σ' c' T->Fly c'.h e T->At Γ ms σ' c'->Step (Mine.dom σ) c c'->E (.ref e) {s with heap:=c'.h,toks:=tk})->wpN (M Γ) Γ.Ad t Q E s
theorem aGc{k:Nat}{kp rp:Pos}(hstk:Γ.stk=Γ.env::outer)(hf:Γ.env.frame=some Γ.L)(h:ERF Γ ms σ (execs body Γ.env) σ1)
  (hx:Γ.env.kindOf x=some .globalImplicit)(hd:(x==("__debug__":Str))=false)(hn:nsIn (Mine.hd.heap_1 Γ.w.params) mainGlobals x=some (some (.ref 59)))(hP:∀l,Γ.P l->σ l≠none):
  SS Γ ms σ (exec (.Try body [.ExceptHandler (some (.Name x px)) none [.Return (some (.Constant (.bool true) k kp)) rp] hpos] [] [] pos) Γ.env) (.ret (.bool true)) ms σ1:=
 ⟨fun c s Q E a hs q=>by
  refine aG ?_;refine aE (iY (h.run c s _ _ a hs fun e T c1 t1 u uT fl a1 s1=>?_));have z:=aPu (Q:=Q) (E:=E) (px:=px) (hpos:=hpos) (x:=x) (b₀:=.Return (some (.Constant (.bool true) k kp)) rp) (suite:=[]) hstk hf a1 u uT fl (s:={s with heap:=c1.h,toks:=t1}) rfl hx hd hn (fun h' a2 s2=>by
   refine wpAny_execs_cons ?_;refine Ab (Hs (Ab (wpAny_Constant_bool (Ak ?_))));exact q _ ⟨c1.ρ,h'⟩ t1 (.ret _ _ (.bool true)) a2 ((s1.mono hP).trans ((s2.mono h.dom).mono hP)))
  exact wpN.of (Ab (Ey z (fun _ _ h₂=>Ab h₂) fun _ _ x=>x))⟩
theorem aKg{h₀:ExceptHandler}(h:SS Γ ms σ (execs body Γ.env) .next ms1 σ1):SS Γ ms σ (exec (.Try body [h₀] [] [] pos) Γ.env) .next ms1 σ1:=
 ⟨fun c s Q E a hs q=>by
  refine aG ?_;refine aE (iY (h.run c s _ _ a hs fun f c1 t1 i1 a1 s1=>?_));have z:=q f c1 t1 i1 a1 s1;obtain rfl:=i1.next_inv;exact wpN.of (wpAny_execs_nil z)⟩
theorem aRu{ls:List Lbl}{p:List Addr->Obj->Prop}(hl:σ l=some (.raw ls p))(hfn:∀as o,p as o->∃oc od fd sl,o=⟨oc,od,.func fd,sl⟩)(S:FE Γ.w n (fun c=>.ref (c.ρ l)) [] σ σ1)(hN:n<=Γ.n)(hF:∀l,¬Γ.F l)(h0:EV Γ ms σ (eval fe Γ.env) (.ref l) σ)
  (hc:eval (.Call fe [] [] pos) Γ.env=(do Gs pos (<-eval fe Γ.env) [] (Cc pos (Av [] Γ.env)) (Ht pos (Fh [] Γ.env))):=by rfl):ERF Γ ms σ (eval (.Call fe [] [] pos) Γ.env) σ1:=
 ⟨S.dom,fun c s Q E a hs q=>by
  rw[hc];refine h0.bind a hs fun u c1 t1 i1 a1 s1=>?_;cases i1;refine fY (P:=FnAt (c1.ρ l)) rfl (fun h X=>keeps_F h X) (iL (aH ⟨?_,?_⟩))
  ·obtain⟨y,h1,h2,_⟩:=a1.ob l _ hl;have hp:=h2.raw_inv.2;obtain⟨oc,od,fd,sl,rfl⟩:=hfn _ _ hp;exact⟨oc,od,fd,sl,h1⟩
  ·refine cJ ?_;refine bc fun nq=>?_;obtain⟨g',C,H,back,off⟩:=a1.give hF;refine nq ?_;refine S.run _ _ _ g' Γ.mg Γ.mb c1 _ [] _ (C Γ.Ad n rfl (by exact z8 hN) (by exact z9 hN) a.ok.hh) H rfl .nil fun e T c' tk hfl o1 o2 H' S'=>?_;have un:∀b,wE g' σ1 c' b->Un Γ σ1 c' b:=fun b o=>⟨(off b o.1).1,(off b o.1).2.1,(off b o.1).2.2,o.2⟩;exact q e T c' tk (un e o1) (un T o2) hfl (back σ1 c' S.dom H' S') (s1.trans S')⟩
theorem aQl{e:Aj}(h:ERF Γ ms σ (eval e Γ.env) σ1)(hi:Nr Γ.env=false)(hs:Gb e none pos.line Γ.env=pure false):ERF Γ ms σ (exec (.Expr e pos) Γ.env) σ1:=
 ⟨h.dom,fun c s Q E a hs' q=>pN hi hs (h.run c s _ E a hs' q)⟩
theorem aQk{rest:List Stmt}(h:ERF Γ ms σ (exec st Γ.env) σ1):ERF Γ ms σ (execs (st::rest) Γ.env) σ1:=
 ⟨h.dom,fun c s Q E a hs q=>cI (h.run c s _ E a hs q)⟩
structure FNl(w:World)(n:Nat)(f:Cf->Value)(args:List Sh)(σ:Sg)(sh:Sh)(σ':Sg):Prop where
 dom:Dom σ σ'
 run:∀(A:Ez) (base:Heap) (outer:List Env) (g:Heap) (mg mb:Str->Option Value) (c:Cf) (s:Ai) (vs:List Value) (R:Jy->Ai->Prop),
  Cy w A base outer g mg mb n->Hp w (frs outer) noF g σ c->s.heap=c.h->IsAll σ c args vs->
  (∀v c' tk,Is σ' c' sh v->Hp w (frs outer) noF g σ' c'->Step (Mine.dom σ) c c'->R (.ok (.ret v)) {s with heap:=c'.h,toks:=tk})->codeN (model PW w) A (.call (f c) ⟨vs,[]⟩) R s
theorem aRt{ls:List Lbl}{p:List Addr->Obj->Prop}(hl:σ l=some (.raw ls p))(hfn:∀as o,p as o->∃oc od fd sl,o=⟨oc,od,.func fd,sl⟩)(S:FNl Γ.w n (fun c=>.ref (c.ρ l)) [] σ sh σ1)(hN:n<=Γ.n)(hF:∀l,¬Γ.F l)(h0:EV Γ ms σ (eval fe Γ.env) (.ref l) σ)
  (hc:eval (.Call fe [] [] pos) Γ.env=(do Gs pos (<-eval fe Γ.env) [] (Cc pos (Av [] Γ.env)) (Ht pos (Fh [] Γ.env))):=by rfl):EV Γ ms σ (eval (.Call fe [] [] pos) Γ.env) sh σ1:=
 ⟨S.dom,fun c s Q E a hs q=>by
  rw[hc];refine h0.bind a hs fun u c1 t1 i1 a1 s1=>?_;cases i1;refine fY (P:=FnAt (c1.ρ l)) rfl (fun h X=>keeps_F h X) (iL (aH ⟨?_,?_⟩))
  ·obtain⟨y,h1,h2,_⟩:=a1.ob l _ hl;have hp:=h2.raw_inv.2;obtain⟨oc,od,fd,sl,rfl⟩:=hfn _ _ hp;exact⟨oc,od,fd,sl,h1⟩
  ·refine cJ ?_;obtain⟨g',C,H,back,off⟩:=a1.give hF;exact S.run _ _ _ g' Γ.mg Γ.mb c1 _ [] _ (C Γ.Ad n rfl (by exact z8 hN) (by exact z9 hN) a.ok.hh) H rfl .nil fun v c' tk iv H' S'=>q v c' tk iv (back σ1 c' S.dom H' S') (s1.trans S')⟩
end
end
section
open PySem.SeqAt
theorem Rz.drop{e:Addr}(r:Rz Γ σ1 c e)(up:∀l,σ l≠none->σ1 l≠none):Rz Γ σ c e:=by
 obtain⟨u,r⟩:=r;have un:∀b,Un Γ σ1 c b->Un Γ σ c b:=fun b u=>⟨u.g,u.L,u.cel,fun l hl=>u.rho l (up l hl)⟩;rcases r with r| ⟨T,uT,r⟩
 ·exact⟨un e u,.inl r⟩
 ·exact⟨un e u,.inr ⟨T,un T uT,r⟩⟩
theorem cX(li d:Lbl)(S:FE Γ.w n (fun _=>.ref fI) (.ref li::args) (upd (upd σ d (.sdict [])) li (.inst C d)) (upd (upd σ d (.sdict [])) li (.inst C d)))(hn:n+1<=Γ.n)(hm:makesIn (Mine.hd.heap_1 Γ.w.params) C=true)(hi:Cq (Mine.hd.heap_1 Γ.w.params) (.ref C) "__init__"=some (some (.ref fI)))
  (hf:Of (Mine.hd.heap_1 Γ.w.params) (.ref fI)=some (.type "function"))(hd:σ d=none)(hl:σ li=none)(ne:li≠d)(hF:∀l,¬Γ.F l):CallE Γ ms σ (.ref C) args σ:=
 ⟨Dom.refl σ,fun c s vs Q E a hs hv q=>by
  obtain⟨h,g,dr,t,os⟩:=s;dsimp only at hs;subst hs;refine cJ (qK (makes_of a.K hm) (Jo a.K hi) (fun self=>bind_fn a.K self hf) ?_);have eD:ObIs Γ.w (upd σ d (.sdict [])) ⟨aN c.ρ d c.h.objs.size,c.h.push emptyDict⟩ (.sdict []) emptyDict:=by
   obtain⟨o,ho,hdo⟩:=Bk.mp (Gv (knd:=Br PW Γ.w) c.h);have:(c.h.push emptyDict).get? c.h.objs.size=some emptyDict:=Ao _ rfl;have e:o=emptyDict:=Cw (ho.symm.trans this);exact .sdict [] [] _ (e▸hdo) .nil
  refine bc fun nq=>?_;obtain⟨a1,s1⟩:=a.alloc (l:=d) (o:=.sdict []) (ad:=c.h.objs.size) (h':=c.h.push emptyDict) hd (fun b o e=>Ae _ e) (by rw[Bz];exact Cs _) (Bs _) (Ao _ rfl) eD;have eI:ObIs Γ.w (upd (upd σ d (.sdict [])) li (.inst C d)) ⟨aN (aN c.ρ d c.h.objs.size) li (c.h.push emptyDict).objs.size,(c.h.push emptyDict).push (Ej C c.h.objs.size)⟩ (.inst C d) (Ej C c.h.objs.size):=by
   have:=ObIs.inst (w:=Γ.w) (σ:=upd (upd σ d (.sdict [])) li (.inst C d)) (c:=⟨aN (aN c.ρ d c.h.objs.size) li (c.h.push emptyDict).objs.size,(c.h.push emptyDict).push (Ej C c.h.objs.size)⟩) C d (by
    rw[upd_ne (Bw ne),aC];exact fun z=>by cases z)
   dsimp only at this;rwa[(show aN (aN c.ρ d c.h.objs.size) li (c.h.push emptyDict).objs.size d=c.h.objs.size by unfold aN;rw[if_neg (Bw ne),if_pos rfl])] at this
  obtain⟨a2,s2⟩:=a1.alloc (l:=li) (o:=.inst C d) (ad:=(c.h.push emptyDict).objs.size) (h':=(c.h.push emptyDict).push (Ej C c.h.objs.size)) (show upd σ d (.sdict []) li=none by unfold upd;rw[if_neg ne];exact hl) (fun b o e=>Ae _ e) (by dsimp only;rw[Bz];simp) (Bs _) (Ao _ rfl) eI;have S12:Step (Mine.dom σ) c ⟨aN (aN c.ρ d c.h.objs.size) li (c.h.push emptyDict).objs.size,(c.h.push emptyDict).push (Ej C c.h.objs.size)⟩:=s1.trans (s2.mono Dom.upd);have sz:(c.h.push emptyDict).objs.size=c.h.objs.size+1:=Bz ..;have ir:Is (upd (upd σ d (.sdict [])) li (.inst C d)) ⟨aN (aN c.ρ d c.h.objs.size) li (c.h.push emptyDict).objs.size,(c.h.push emptyDict).push (Ej C c.h.objs.size)⟩ (.ref li) (.ref (c.h.objs.size+1)):=by
   have:=Is.ref (σ:=upd (upd σ d (.sdict [])) li (.inst C d)) (c:=⟨aN (aN c.ρ d c.h.objs.size) li (c.h.push emptyDict).objs.size,(c.h.push emptyDict).push (Ej C c.h.objs.size)⟩) li (by rw[aC];exact fun z=>by cases z);dsimp only at this;rwa[(show aN (aN c.ρ d c.h.objs.size) li (c.h.push emptyDict).objs.size li=c.h.objs.size+1 by unfold aN;rw[if_pos rfl,sz])] at this
  have un:(Γ.Ad.under (.builtin "type.__call__" ⟨.ref C::vs,[]⟩)).units<=Γ.Ad.units+4:=Bx (show 1<=4 by decide) _;obtain⟨g',CC,H,back,off⟩:=a2.give hF;refine nq ?_;refine S.run _ _ _ g' Γ.mg Γ.mb _ _ _ _ (CC (Γ.Ad.under (.builtin "type.__call__" ⟨.ref C::vs,[]⟩)) n rfl (by exact z31 hn (rfl:(Γ.Ad.under (.builtin "type.__call__" ⟨.ref C::vs,[]⟩)).depth=Γ.Ad.depth+1)) (by exact z32 hn un) a.ok.hh) H rfl (.cons ir (hv.mono (Dom.upd.trans Dom.upd) S12)) fun e T c' tk hfl o1 o2 H' S'=>?_;have uu:∀b,wE g' (upd (upd σ d (.sdict [])) li (.inst C d)) c' b->Un Γ (upd (upd σ d (.sdict [])) li (.inst C d)) c' b:=fun b o=>⟨(off b o.1).1,(off b o.1).2.1,(off b o.1).2.2,o.2⟩;have le:∀l o,σ l=some o->upd (upd σ d (.sdict [])) li (.inst C d) l=some o:=fun l o z=>by
   rw[upd_ne (fun q=>by rw[q,hl] at z;cases z),upd_ne (fun q=>by rw[q,hd] at z;cases z)];exact z
  have up:∀l,σ l≠none->upd (upd σ d (.sdict [])) li (.inst C d) l≠none:=fun l h=>by
   cases z:σ l with
   |none=>exact absurd z h
   |some o=>rw[le l o z];exact fun y=>by cases y
  have cl:∀l o,σ l=some o->OOk (dom σ) o:=fun l o z=>by
   obtain⟨x,_,h2,_⟩:=a.ob l o z;exact h2.ook
  refine q e c' tk (Rz.drop ⟨uu e o1,.inr ⟨T,uu T o2,hfl⟩⟩ up) (((back _ c' S.dom H' S').drop le cl (fun x sh k e=>?_) fun l p=>a.prot l p).weak fE) (S12.trans (S'.mono (Dom.upd.trans Dom.upd)));exact a.msok x sh k e⟩
end
section
open PySem.SeqAt
noncomputable abbrev BmX:Type:={o:Obj // o.cls = .type "module"/\o.dict=some builtinsNs/\o.data = .plain}
noncomputable abbrev aJa(X:BmX)(l:Lbl):Ob:=.raw [l] fun as o=>as=[4]/\o=X.1
noncomputable abbrev sL(σ:Sg)(l:Lbl):Prop:=∃X,σ l=some (aJa X l)
noncomputable def fR(es:List ((Nat×Nat)×Lbl))(as:List Addr):List Value:=(es.zip as).flatMap fun p=>[Hg p.1.1.1,Hg p.1.1.2,.ref p.2]
noncomputable abbrev bM(l:Lbl)(P:Addr)(es:List ((Nat×Nat)×Lbl)):Ob:=.raw (l::es.map (·.2)) fun as o=>as.head? = some P/\o=Mr (fR es as.tail).toArray
noncomputable abbrev aZ(qual:Str):Ob:=.raw [] fun _ o=>∃vs t,o.data = .fields vs/\vs[1]? = some (.str qual t)
noncomputable abbrev bI(nc:Lbl)(qual:Str)(params:Arguments)(body:Aj)(scope:Scope)(clos:List (Str×Addr)):Ob:=
 .raw [nc] fun as o=>∃pm ctv,o=kla_obj "<lambda>" qual params body scope clos pm (as.headD 0) ctv
theorem zV{es:List ((Nat×Nat)×Lbl)}{as:List Addr}{l c:Nat}{n:Lbl}{a:Addr}(h:as.length=es.length):fR (es++[((l,c),n)]) (as++[a])=fR es as++[Hg l,Hg c,.ref a]:=by
 unfold fR;rw[List.zip_append h.symm,List.flatMap_append];rfl
theorem xF{es:List ((Nat×Nat)×Lbl)}{as:List Addr}:TriplesOk (fR es as):=by
 unfold fR
 induction es.zip as with
 |nil=>trivial
 |cons e l ih=>exact ih
theorem aBg{es:List ((Nat×Nat)×Lbl)}:∀{as:List Addr},(∀e∈es,e.1≠(pos.line,pos.col))->codeAmong pos (fR es as)=none:=by
 induction es with
 |nil=>exact fun _=>rfl
 |cons e es ih=>
  intro as h
  cases as with
  |nil=>unfold fR;rw[Ls];rfl
  |cons a as=>
  unfold fR at*;simp only[List.zip_cons_cons,List.flatMap_cons];show(if((e.1.1:Int)==pos.line&& (e.1.2:Int)==pos.col)=true then _ else _)=none
  rw[if_neg]
  ·exact(ih (as:=as) fun x hx=>h x (.tail _ hx))
  ·intro w;simp only[Kg,beq_iff_eq] at w;exact(h e (.head _)) (Os (by exact_mod_cast w.1) (by exact_mod_cast w.2))
theorem aFw{ρ:Lbl->Addr}{es:List ((Nat×Nat)×Lbl)}(h:(es.find? fun e=>e.1=(pos.line,pos.col)).map (·.2)=some nc):codeAmong pos (fR es ((es.map (·.2)).map ρ))=some (.ref (ρ nc)):=by
 induction es with
 |nil=>cases h
 |cons e es ih=>
  show(if((e.1.1:Int)==pos.line&& (e.1.2:Int)==pos.col)=true then _ else _)=_
  by_cases q:e.1=(pos.line,pos.col)
  ·rw[Ga (by simpa using q)] at h;cases h;rw[if_pos (by rw[q];simp)]
  ·rw[Ex (by simpa using q)] at h;rw[if_neg]
   ·exact ih h
   ·intro w;simp only[Kg,beq_iff_eq] at w;exact q (Os (by exact_mod_cast w.1) (by exact_mod_cast w.2))
theorem At.bm{lB:Lbl}(a:At Γ ms σ c)(hB:sL σ lB):∃o,c.h.get? 4=some o/\o.cls = .type "module"/\o.dict=some builtinsNs/\o.data = .plain:=by
 obtain⟨X,hB⟩:=hB;obtain⟨y,h1,h2,_⟩:=a.ob lB _ hB;have hp:=h2.raw_inv.2;obtain⟨e,rfl⟩:=hp;have:c.ρ lB=4:=by simpa using e
 exact⟨_,this▸h1,X.2⟩
theorem At.tab{P:Addr}{es:List ((Nat×Nat)×Lbl)}(a:At Γ ms σ c)(hT:σ lT=some (bM lT P es)):c.ρ lT=P/\c.h.get? P=some (Mr (fR es ((es.map (·.2)).map c.ρ)).toArray):=by
 obtain⟨y,h1,h2,_⟩:=a.ob lT _ hT;obtain⟨e,rfl⟩:=(h2.raw_inv.2);have:c.ρ lT=P:=by simpa using e
 exact⟨this,by rw[<-this];exact h1⟩
theorem oH{fd:FuncData}:({cls:=.type "function",data:=.func fd}:Obj)≠cY vs:=fun e=>by
 have:=congrArg Obj.data e;cases this
theorem tN{lB:Lbl}{P:Addr}(a:At Γ ms σ c)(hB:sL σ lB)(hbm:nsIn (Mine.hd.heap_1 Γ.w.params) mainGlobals "__builtins__"=some (some (.ref 4)))(h4:P≠4):c.h.BuiltinsAt Γ.mg P:=by
 obtain⟨o,h1,h2,h3,h4'⟩:=a.bm hB;exact⟨4,o,mg_of a.ok.X0 a.ok.T0.g hbm,by decide,by decide,Bw h4,h1,h2,h3,h4'⟩
theorem cB{lB n:Lbl}{P:Addr}{es:List ((Nat×Nat)×Lbl)}{body:Aj}(hB:sL σ lB)(hT:σ lT=some (bM lT P es))(hnc:σ nc=none)(hn:σ n=none)(hne:n≠nc)
  (hdef:Mn params Γ.env=([],[]))(hcl:Gk scope Γ.env=pure clos)(hcode:Γ.env.code = .ref cc)(hq:Γ.env.qual++ "<lambda>"=qual)(C:∀h,(Mine.hd.heap_1 Γ.w.params).In h->Nq h cc P)(hnew:∀e∈es,e.1≠(pos.line,pos.col))
  (hbm:nsIn (Mine.hd.heap_1 Γ.w.params) mainGlobals "__builtins__"=some (some (.ref 4)))(hP4:P≠4)(hgP:mainGlobals≠P)(hF:∀l,¬Γ.F l):
  EV Γ ms σ (eval (.Lambda params body scope pos) Γ.env) (.ref n) (upd (upd (upd σ nc (aZ qual)) lT (bM lT P (es++[((pos.line,pos.col),nc)]))) n (bI nc qual params body scope clos)):=by
 have hTn:lT≠nc:=fun q=>by rw[q,hnc] at hT;cases hT
 have hTn2:lT≠n:=fun q=>by rw[q,hn] at hT;cases hT
 refine⟨(Dom.upd.trans Dom.upd).trans Dom.upd,fun c s Q E a hs q=>wpN.of ?_⟩;refine bc fun nq=>?_;obtain⟨eP,hP⟩:=a.tab hT;subst hq;refine nq ?_;refine kla_eval hdef (kla_makeFunction (mg:=Γ.mg) hcl a.ok.eg (by rw[hs];exact a.ok.T0.g.keeps a.g0) hcode (C _ (by rw[hs];exact a.K)) (by rw[hs];exact hP) xF (by rw[List.toList_toArray];exact aBg hnew) hgP (by rw[hs];exact tN a hB hbm hP4) fun c' ctv h' tk hx hge hlt hrec htb=>?_);rw[hs] at hx hge;generalize hob:kla_obj "<lambda>" (Γ.env.qual++ "<lambda>") params body scope clos ((Γ.mg "__name__").getD .none) c' ctv=ob;generalize hh:h'.push ob=h2;have kp:∀b o,b≠P->c.h.get? b=some o->h2.get? b=some o:=fun b o nb e=>by rw[<-hh];exact Ae _ (hx b o nb e)
 have hP2:h2.get? P=some (Mr ((fR es ((es.map (·.2)).map c.ρ)).toArray ++ #[Hg pos.line,Hg pos.col,.ref c'])):=by rw[<-hh];exact Ae _ htb
 have hf2:h2.get? h'.objs.size=some ob:=by rw[<-hh];exact Ao _ (by rw[<-hob];rfl)
 refine bc fun nq=>?_;obtain⟨c'',oc,vs,tq,e1,e2,e3,e4⟩:=hrec;cases e1;have hc2:h2.get? c'=some oc:=by rw[<-hh];exact Ae _ e2
 clear hh hx;obtain⟨a1,s1⟩:=a.chg (l:=lT) (o':=.raw [] fun _ o=>o=Mr ((fR es ((es.map (·.2)).map c.ρ)).toArray ++ #[Hg pos.line,Hg pos.col,.ref c'])) hT (hF _) (fun b o nb e=>kp b o (eP▸nb) e) (by rw[eP];exact hP2) (.raw [] _ _ (fun _ h=>by cases h) rfl fun vs e=>by
  have:=congrArg Il e;cases this)
 generalize hO:(Ob.raw [] fun _ o=>o=Mr ((fR es ((es.map (·.2)).map c.ρ)).toArray ++ #[Hg pos.line,Hg pos.col,.ref c']))=O at a1 s1;have D1:Dom σ (upd σ lT O):=Dom.upd;have un:∀b,c.h.objs.size<=b->Un Γ (upd σ lT O) ⟨c.ρ,h2⟩ b:=fun b hb=>by
  have u:=a.newUn hb;refine⟨u.g,u.L,u.cel,fun l hl=>u.rho l fun z=>hl ?_⟩;rw[upd_ne (fun q=>by rw[q,hT] at z;cases z)];exact z
 have hnc1:upd σ lT O nc=none:=(upd_ne (Bw hTn)).trans hnc;have hcodeIs:ObIs Γ.w (upd (upd σ lT O) nc (aZ (Γ.env.qual++ "<lambda>"))) ⟨aN c.ρ nc c',h2⟩ (aZ (Γ.env.qual++ "<lambda>")) oc:=.raw [] _ _ (fun _ h=>by cases h) ⟨vs,tq,e3,e4⟩ fun us e=>by
  rw[e] at e3;cases e3
 obtain⟨a2,s2⟩:=a1.adopt (l:=nc) (o:=aZ (Γ.env.qual++ "<lambda>")) (D:=c') (un c' hge) hnc1 (Bi a.big.1 hge) hc2 hcodeIs;have enc:aN c.ρ nc c' nc=c':=setρ_at;have un2:Un Γ (upd (upd σ lT O) nc (aZ (Γ.env.qual++ "<lambda>"))) ⟨aN c.ρ nc c',h2⟩ h'.objs.size:=by
  have u:=un h'.objs.size (Ef (Bf hge hlt));refine⟨u.g,u.L,u.cel,fun l hl=>?_⟩;by_cases z:l=nc
  ·subst z;show aN _ _ _ _≠_;rw[enc];exact Bn hlt
  ·show aN _ _ _ _≠_;unfold aN;rw[if_neg z];exact u.rho l (by rw[upd_ne z] at hl;exact hl)
 have hlamIs:ObIs Γ.w (upd (upd (upd σ lT O) nc (aZ (Γ.env.qual++ "<lambda>"))) n (bI nc (Γ.env.qual++ "<lambda>") params body scope clos)) ⟨aN (aN c.ρ nc c') n h'.objs.size,h2⟩ (bI nc (Γ.env.qual++ "<lambda>") params body scope clos) ob:=by
  refine .raw [nc] _ _ (fun l hl=>?_) ⟨(Γ.mg "__name__").getD .none,ctv,?_⟩ fun us e=>?_
  ·rw[Ax.mp hl,upd_ne (Bw hne),aC];exact fun z=>by cases z
  ·have:aN (aN c.ρ nc c') n h'.objs.size nc=c':=by unfold aN;rw[if_neg (Bw hne),if_pos rfl]
   simp only[Dh,Ib,List.headD_cons,this];exact hob.symm
  ·rw[<-hob] at e;exact oH e
 obtain⟨a3,s3⟩:=a2.adopt (l:=n) (o:=bI nc (Γ.env.qual++ "<lambda>") params body scope clos) (D:=h'.objs.size) un2 ((upd_ne hne).trans ((upd_ne (Bw hTn2)).trans hn):upd (upd σ lT O) nc (aZ (Γ.env.qual++ "<lambda>")) n=none) (Bi a.big.1 (Ef (Bf hge hlt))) hf2 hlamIs;have D2:Dom (upd σ lT O) (upd (upd σ lT O) nc (aZ (Γ.env.qual++ "<lambda>"))):=Dom.upd;have eT:aN (aN c.ρ nc c') n h'.objs.size lT=P:=by unfold aN;rw[if_neg hTn2,if_neg hTn];exact eP
 have em:(es.map (·.2)).map (aN (aN c.ρ nc c') n h'.objs.size)=(es.map (·.2)).map c.ρ:=by
  refine Dk fun l hl=>?_;have hσ:σ l≠none:=by
   obtain⟨y,_,h2',_⟩:=a.ob lT _ hT;have hd:=h2'.raw_inv.1;exact hd l (.tail _ hl)
  unfold aN;rw[if_neg (fun z:l=n=>hσ (by rw[z];exact hn)),if_neg (fun z:l=nc=>hσ (by rw[z];exact hnc))]
 have hTabIs:ObIs Γ.w (upd (upd (upd (upd σ lT O) nc (aZ (Γ.env.qual++ "<lambda>"))) n (bI nc (Γ.env.qual++ "<lambda>") params body scope clos)) lT (bM lT P (es++[((pos.line,pos.col),nc)]))) ⟨aN (aN c.ρ nc c') n h'.objs.size,h2⟩ (bM lT P (es++[((pos.line,pos.col),nc)])) (Mr ((fR es ((es.map (·.2)).map c.ρ)).toArray ++ #[Hg pos.line,Hg pos.col,.ref c'])):=by
  refine .raw _ _ _ (fun l hl=>?_) ⟨by simp[eT],?_⟩ fun vs e=>by have:=congrArg Il e;cases this
  ·by_cases z:l=lT
   ·rw[z,aC];exact fun y=>by cases y
   ·rw[upd_ne z];rcases An.mp hl with q|q
    ·exact absurd q z
    ·rw[Dg] at q;rcases Ce.mp q with q|q
     ·have hσ:σ l≠none:=by
       obtain⟨y,_,h2',_⟩:=a.ob lT _ hT;have hd:=h2'.raw_inv.1;exact hd l (.tail _ q)
      rw[upd_ne (fun w:l=n=>hσ (by rw[w];exact hn)),upd_ne (fun w:l=nc=>hσ (by rw[w];exact hnc)),upd_ne z];exact hσ
     ·rw[Dh,Ib] at q;rw[Ax.mp q,upd_ne (Bw hne),aC];exact fun y=>by cases y
  ·simp only[Dh,List.tail_cons,Dg,Ib,(show aN (aN c.ρ nc c') n h'.objs.size nc=c' by unfold aN;rw[if_neg (Bw hne),if_pos rfl]),em];rw[zV (by simp)];simp
 obtain⟨a4,s4⟩:=a3.chg (h':=h2) (l:=lT) (o':=bM lT P (es++[((pos.line,pos.col),nc)])) ((upd_ne hTn2).trans ((upd_ne hTn).trans aC):upd (upd (upd σ lT O) nc (aZ (Γ.env.qual++ "<lambda>"))) n (bI nc (Γ.env.qual++ "<lambda>") params body scope clos) lT=some O) (hF _) (fun b o _ e=>e) (by dsimp only;rw[eT];exact hP2) hTabIs;have es':upd (upd (upd (upd σ lT O) nc (aZ (Γ.env.qual++ "<lambda>"))) n (bI nc (Γ.env.qual++ "<lambda>") params body scope clos)) lT (bM lT P (es++[((pos.line,pos.col),nc)]))=
   upd (upd (upd σ nc (aZ (Γ.env.qual++ "<lambda>"))) lT (bM lT P (es++[((pos.line,pos.col),nc)]))) n (bI nc (Γ.env.qual++ "<lambda>") params body scope clos):=by
  rw[bT (Bw hTn2),bT (Bw hTn),aX,bT (a:=lT) (b:=nc) hTn]
 rw[es'] at a4;have ir:=Is.ref (σ:=upd (upd (upd σ nc (aZ (Γ.env.qual++ "<lambda>"))) lT (bM lT P (es++[((pos.line,pos.col),nc)]))) n (bI nc (Γ.env.qual++ "<lambda>") params body scope clos)) (c:=⟨aN (aN c.ρ nc c') n h'.objs.size,h2⟩) n (by rw[aC];exact fun z=>by cases z);have en:aN (aN c.ρ nc c') n h'.objs.size n=h'.objs.size:=setρ_at;refine nq ?_;dsimp only at ir;rw[en] at ir;exact q _ ⟨aN (aN c.ρ nc c') n h'.objs.size,h2⟩ tk ir a4 ((s1.trans ((s2.mono D1).trans (s3.mono (D1.trans D2))):Step (Mine.dom σ) c ⟨aN (aN c.ρ nc c') n h'.objs.size,h2⟩).trans (s4.mono ((D1.trans D2).trans Dom.upd)))
theorem aGh{lB n:Lbl}{P:Addr}{es:List ((Nat×Nat)×Lbl)}{body:Aj}(hB:sL σ lB)(hT:σ lT=some (bM lT P es))(hn:σ n=none)
  (hdef:Mn params Γ.env=([],[]))(hcl:Gk scope Γ.env=pure clos)(hcode:Γ.env.code = .ref cc)(hq:Γ.env.qual++ "<lambda>"=qual)(C:∀h,(Mine.hd.heap_1 Γ.w.params).In h->Nq h cc P)(hit:(es.find? fun e=>e.1=(pos.line,pos.col)).map (·.2)=some nc)
  (hbm:nsIn (Mine.hd.heap_1 Γ.w.params) mainGlobals "__builtins__"=some (some (.ref 4)))(hP4:P≠4):
  EV Γ ms σ (eval (.Lambda params body scope pos) Γ.env) (.ref n) (upd σ n (bI nc qual params body scope clos)):=by
 refine⟨Dom.upd,fun c s Q E a hs q=>wpN.of ?_⟩;obtain⟨eP,hP⟩:=a.tab hT;have hnc:σ nc≠none:=by
  obtain⟨y,_,h2',_⟩:=a.ob lT _ hT;obtain⟨e,he,rfl⟩:=Dn.mp hit;exact(h2'.raw_inv.1) _ (.tail _ (Fs (By he)))
 have hne:nc≠n:=fun z=>hnc (by rw[z];exact hn);subst hq;refine kla_eval hdef (kla_makeFunctionHit (mg:=Γ.mg) (cv:=.ref (c.ρ nc)) hcl a.ok.eg (by rw[hs];exact a.ok.T0.g.keeps a.g0) hcode (C _ (by rw[hs];exact a.K)) (by rw[hs];exact hP) xF (by rw[List.toList_toArray];exact aFw hit) (by rw[hs];exact tN a hB hbm hP4) fun ctv h' tk hk hsz=>?_);rw[hs] at hk hsz;have hlamIs:ObIs Γ.w (upd σ n (bI nc (Γ.env.qual++ "<lambda>") params body scope clos)) ⟨aN c.ρ n h'.objs.size,h'.push {cls:=.type "function",data:=.func (Np "<lambda>" (Γ.env.qual++ "<lambda>") params body scope clos ((Γ.mg "__name__").getD .none) (.ref (c.ρ nc)) ctv)}⟩ (bI nc (Γ.env.qual++ "<lambda>") params body scope clos) {cls:=.type "function",data:=.func (Np "<lambda>" (Γ.env.qual++ "<lambda>") params body scope clos ((Γ.mg "__name__").getD .none) (.ref (c.ρ nc)) ctv)}:=by
  refine .raw [nc] _ _ (fun l hl=>?_) ⟨(Γ.mg "__name__").getD .none,ctv,?_⟩ fun us e=>oH e
  ·rw[Ax.mp hl,upd_ne hne];exact hnc
  ·have:aN c.ρ n h'.objs.size nc=c.ρ nc:=setρ_ne hne;simp only[Dh,Ib,List.headD_cons,this]
 obtain⟨a1,s1⟩:=a.alloc (l:=n) (o:=bI nc (Γ.env.qual++ "<lambda>") params body scope clos) (ad:=h'.objs.size) (h':=h'.push {cls:=.type "function",data:=.func (Np "<lambda>" (Γ.env.qual++ "<lambda>") params body scope clos ((Γ.mg "__name__").getD .none) (.ref (c.ρ nc)) ctv)}) hn (fun b o e=>Ae _ (hk b o e)) (by rw[Bz];exact Ar hsz on0) hsz (Ao _ rfl) hlamIs;have ir:=Is.ref (σ:=upd σ n (bI nc (Γ.env.qual++ "<lambda>") params body scope clos)) (c:=⟨aN c.ρ n h'.objs.size,h'.push {cls:=.type "function",data:=.func (Np "<lambda>" (Γ.env.qual++ "<lambda>") params body scope clos ((Γ.mg "__name__").getD .none) (.ref (c.ρ nc)) ctv)}⟩) n (by rw[aC];exact fun z=>by cases z);dsimp only at ir;rw[(setρ_at:aN c.ρ n h'.objs.size n=h'.objs.size)] at ir;exact q _ _ tk ir a1 s1
end
section
open PySem.SeqAt
theorem aBa
  (h:wpN (model prog w) (A.deeper env) (eval e env) (fun v s'=>R (.ok (.ret v)) s')
   (fun e' s'=>wpAny (model prog w) (A.deeper env) (Lz env e') (fun _ s''=>R (.error e') s'') (fun e'' s''=>R (.error e'') s'') s') s):codeN (model prog w) A (.expr e env) R s:=by
 refine aT rfl ?_;show wpN _ (A.deeper env) (do point;ret (<-(eval e env).onRaise (Lz env))) _ _ s
 exact aK (wpAny_point (aE (bH (bX h (fun v s' h'=>aH h') fun _ _ h'=>h'))))
theorem yP{a:Addr}{args:Args}{o:Obj}{fd:FuncData}{body:Aj}(room:A.depth<Ij)(ho:s.heap.get? a=some o)(hd:o.data = .func fd)
  (hco:fd.scope.isCoroutine=false)(hgen:fd.scope.isGenerator=false)(hbody:fd.body = .expr body)(hcd:s.heap.CodeRec fd.code fd.qualname)
  (h:wpAny (model prog w) A.in1 (Oc fd args) (fun binds s₁=>
   wpAny (model prog w) A.in1 (newFunctionEnv fd.scope fd.globals fd.closure binds (fd.qualname++ ".<locals>.") (some a) fd.code none fd.builtins)
    (fun env s₂=>s₂.heap.NoLimit/\codeN (model prog w) A (.expr body env) R s₂) (fun e s'=>R (.error e) s') s₁) (fun e s'=>R (.error e) s') s):
  codeN (model prog w) A (.call (.ref a) args) R s:=by
 refine bc fun nq=>?_;obtain⟨c,oc,vs,tq,hc,hoc,hdc,hq⟩:=hcd;refine nq ?_;refine aT rfl (wpN.of ?_);show wpAny _ A.in1 (callAny (.ref a) args) _ _ s;refine Ab (Iu ho ?_);simp only[hd,callFunction,hco,hgen,hbody,hc];rw[hc] at h;refine Ab (m:=field (.ref c) 1) (Gh hoc hdc hq (Ab (Ak ?_)));refine Ab (Ey h (fun binds s₁ h₁=>?_) fun _ _ x=>x);refine Ab (Ey h₁ (fun env s₂ h₂=>?_) fun _ _ x=>x);exact Ab (wpAny_enterFrame h₂.1 room (Ak ⟨rfl,h₂.2⟩))
noncomputable abbrev dC(qual:Str)(scope:Scope)(L f c':Addr)(cl:List (Str×Addr)):Env:=envX qual scope L f (.ref c') cl
noncomputable abbrev qS(w:World)(A:Ez)(base:Heap)(outer:List Env)(g:Heap)(mg mb:Str->Option Value)(n:Nat)(L:Addr)(env:Env)(P:Lbl->Prop):Gm:=⟨w,A.deeper env,base,env::outer,g,eH base L,mg,mb,n,L,{env with cells:=[]},P,noF⟩
section
variable{N:Nat}{body:Aj}
theorem xT(hl:σ l=some (bI nc qual params body scope clos))(hnc:σ nc=some (aZ qual))
  (hbind:∀(pm cdv ct:Value),Oc (Np "<lambda>" qual params body scope clos pm cdv ct) ⟨[],[]⟩=pure [])(ci:∀x y b,clos.lookup x=some b->clos.lookup y=some b->x=y)
  (C:Cy w A base outer g mg mb (N+1))(H:Hp w (frs outer) noF g σ c)(hs:s.heap=c.h)
  (h:∀L f c' c1 tk,At (qS w A base outer g mg mb N L (dC qual scope L f c' clos) (dom σ)) (mL []) σ c1->Step (dom σ) c c1->
   wpN (model PW w) (A.deeper (dC qual scope L f c' clos)) (eval body (dC qual scope L f c' clos)) (fun v s'=>R (.ok (.ret v)) s')
    (fun e s'=>wpAny (model PW w) (A.deeper (dC qual scope L f c' clos)) (Lz (dC qual scope L f c' clos) e) (fun _ s''=>R (.error e) s'') (fun e' s''=>R (.error e') s'') s') {s with heap:=c1.h,toks:=tk})
  (hco:scope.isCoroutine=false:=by rfl)(hgen:scope.isGenerator=false:=by rfl)(hk:scope.kind = .function:=by rfl)
  (hcell:∀x∈scope.names,x.2≠.cell:=by decide):codeN (model PW w) A (.call (.ref (c.ρ l)) ⟨[],[]⟩) R s:=by
 obtain⟨y,h1,h2,_⟩:=H.ob l _ hl;obtain⟨yc,h3,h4,_⟩:=H.ob nc _ hnc;refine bc fun nq=>?_;obtain⟨pm,ctv,rfl⟩:=(h2.raw_inv.2);obtain⟨vs,tq,hd1,hd2⟩:=(h4.raw_inv.2);refine nq ?_;refine yP (fd:=Np "<lambda>" qual params body scope clos pm (.ref (c.ρ nc)) ctv) (body:=body) (by have:=C.hd;omega) (by rw[hs];exact h1) rfl hco hgen rfl ⟨c.ρ nc,yc,vs,tq,rfl,by rw[hs];exact h3,hd1,hd2⟩ ?_;rw[hbind];refine Ak ?_;refine Lv hcell (fun y hy=>by cases hy) (fun h₁ hns hsb=>⟨(C.T.nolimit.keeps (fun b o e=>hs▸C.low H b o e:∀b o,base.get? b=some o->s.heap.get? b=some o)).fresh _ hsb,aBa ?_⟩) hk;have hk₁:∀b o,c.h.get? b=some o->h₁.get? b=some o:=fun b o e=>hsb.extBut b o (Bn (by rw[hs];exact Aw e)) (Ae _ (hs▸e));exact h s.heap.objs.size (c.ρ l) (c.ρ nc) ⟨c.ρ,h₁⟩ _ (sM (env:=dC qual scope s.heap.objs.size (c.ρ l) (c.ρ nc) clos) (cl:=[]) C H (by rw[hs]) rfl rfl rfl rfl hk (fun x y b e=>by cases e) hk₁ hns (fun x sh _ e=>by cases e) fun x a e=>by cases e) ⟨fun _ _=>rfl,fun _ _ e=>hk₁ _ _ e⟩
theorem aMc{P:Lbl->Prop}(hf:env.frame=some L)(H:Hp w (qS w A base outer g mg mb n L env P).fr F' g σ c):Hp w (frs outer) F' g σ c:=
 ⟨H.ob,H.inj,H.fin,fun b o e=>(H.keep b o e).imp fun h=>by
  obtain⟨hb,ne⟩:=h;obtain⟨x,hx,hfx⟩:=Ck.mp hb;rcases An.mp hx with rfl|hx
  ·rw[hf] at hfx;cases hfx;exact absurd rfl ne
  ·exact Ck.mpr ⟨x,hx,hfx⟩⟩
theorem aAj(D:Dom σ σ')(hl:σ l=some (bI nc qual params body scope clos))(hnc:σ nc=some (aZ qual))
  (hbind:∀(pm cdv ct:Value),Oc (Np "<lambda>" qual params body scope clos pm cdv ct) ⟨[],[]⟩=pure [])(ci:∀x y b,clos.lookup x=some b->clos.lookup y=some b->x=y)
  (h:∀A base outer g mg mb L f c',ER (qS w A base outer g mg mb N L (dC qual scope L f c' clos) (dom σ)) (mL []) σ (eval body (dC qual scope L f c' clos)) σ')
  (hco:scope.isCoroutine=false:=by rfl)(hgen:scope.isGenerator=false:=by rfl)(hk:scope.kind = .function:=by rfl)
  (hcell:∀x∈scope.names,x.2≠.cell:=by decide):FE w (N+1) (fun c=>.ref (c.ρ l)) [] σ σ':=
 ⟨D,fun A base outer g mg mb c s vs R C H hs hv q=>by
  cases hv;exact xT hl hnc hbind ci C H hs (fun L f c' c1 tk a S=>(h A base outer g mg mb L f c').run c1 _ _ _ a rfl fun e c2 tk' r a' S'=>
   xR (Γ:=qS w A base outer g mg mb N L (dC qual scope L f c' clos) (dom σ)) (env:=dC qual scope L f c' clos) rfl rfl a' r rfl fun h' T hF o1 o2 H' S2=>q e T ⟨c2.ρ,h'⟩ tk' hF o1 o2 H' (S.trans (S'.trans (S2.mono D)))) hco hgen hk hcell⟩
theorem aPh{x:Sh}(hl:σ l=some (bI nc qual params body scope clos))(hnc:σ nc=some (aZ qual))
  (hbind:∀(pm cdv ct:Value),Oc (Np "<lambda>" qual params body scope clos pm cdv ct) ⟨[],[]⟩=pure [])(ci:∀x y b,clos.lookup x=some b->clos.lookup y=some b->x=y)
  (D:Dom σ σ')(h:∀A base outer g mg mb L f c',EV (qS w A base outer g mg mb N L (dC qual scope L f c' clos) (dom σ)) (mL []) σ (eval body (dC qual scope L f c' clos)) x σ')
  (hco:scope.isCoroutine=false:=by rfl)(hgen:scope.isGenerator=false:=by rfl)(hk:scope.kind = .function:=by rfl)
  (hcell:∀x∈scope.names,x.2≠.cell:=by decide):FNl w (N+1) (fun c=>.ref (c.ρ l)) [] σ x σ':=
 ⟨D,fun A base outer g mg mb c s vs R C H hs hv q=>by
  cases hv;exact xT hl hnc hbind ci C H hs (fun L f c' c1 tk a S=>(h A base outer g mg mb L f c').run c1 _ _ _ a rfl fun v c2 tk' iv a' S'=>
   q v c2 tk' iv (aMc (env:=dC qual scope L f c' clos) rfl a'.toHp) (S.trans S')) hco hgen hk hcell⟩
end
noncomputable def bN(k:Lbl)(a:Addr):Sh->Ob
 | .ref l=>.raw [k,l] fun as o=>∃b,as=[a,b]/\o.data = .cell (some (.ref b))
 | .bytes x=>.raw [k] fun as o=>∃t,as=[a]/\o.data = .cell (some (.bytes x.toArray t))
 |_=>.raw [] fun _ _=>False
theorem tZ{k:Lbl}{a:Addr}{o:Obj}(h:ObIs w σ c (bN k a sh) o):c.ρ k=a/\∃v,o.data = .cell (some v)/\Is σ c sh v:=by
 cases sh with
 |ref l=>
  have hp:=h.raw_inv.2;have hd:=h.raw_inv.1;obtain⟨b,e,hb⟩:=hp;simp only[Dh,Ib,Lw,and_true] at e;exact⟨e.1,_,hb,e.2▸.ref l (hd l (.tail _ (.head _)))⟩
 |bytes x=>
  have hp:=h.raw_inv.2;have hd:=h.raw_inv.1;obtain⟨t,e,hb⟩:=hp;simp only[Dh,Ib,Lw,and_true] at e;exact⟨e,_,hb,.bytes x t⟩
 |_=>exact h.raw_inv.2.elim
theorem sC{k:Lbl}{a:Addr}(hk:σ k=some (bN k a sh))(hs:env.scope.kind = .function)(hx:env.kindOf x=some .free)(hc:env.cells.lookup x=some a)(hd:(x==("__debug__":Str))=false)(hn:(x==("__classdict__":Str))=false):EV Γ ms σ (eval (.Name x pos) env) sh σ:=
 .look fun c s Q E at' hs' q=>by
  refine bc fun nq=>?_;obtain⟨y,h1,h2,_⟩:=at'.ob k _ hk;obtain⟨e,v,hv,iv⟩:=tZ h2;refine nq ?_;refine wpAny_Name (wpAny_loadName_free hs hx hc (v:=v) ⟨y,by rw[hs',<-e];exact h1,hv⟩ ?_ hn) hd;have:=q v s.toks iv;rwa[<-hs'] at this
end
section
open PySem.SeqAt
theorem aQm{n:Int}{k:Nat}:EV Γ ms σ (eval (.Constant (.int n) k pos) env) (.int n) σ:=.look fun c s Q E a hs q=>by
 refine wpAny_Constant_int ?_;exact fin hs (q _ (s.toks+1) (.int n s.toks))
theorem zD{name:Str}{args:List Aj}{f:Addr}{kvs:List (Str×Sh)}(h0:EV Γ ms σ (eval o env) (.ref l) σ1)(hl:σ1 l=some (.inst C d))(hd:σ1 d=some (.sdict kvs))(hv:aY kvs name=none)(K:ClsOk Γ C)
  (hf:Cq (Mine.hd.heap_1 Γ.w.params) (.ref C) name=some (some (.ref f)))(ht:isFn (Mine.hd.heap_1 Γ.w.params) (.ref f)=true)(k:Keeps Γ (.ref f))
  (h1:EL Γ ms σ1 (Co (Cc pos (Av args env))) shs σ2)(h2:CallE Γ ms σ2 (.ref f) (.ref l::shs) σ3)
  (hb:Cd o name env (eval o env)=eval o env)(ok:cR args apos pos=true)(hargs:args=e::rest):ER Γ ms σ (eval (.Call (.Attribute o name apos) args [] pos) env) σ3:=(wP h0 hl hd hv K hf ht k h1 hb ok).err h2
noncomputable def Gm.less(Γ:Gm)(x:Str):Gm:={Γ with env:={Γ.env with cells:=Γ.env.cells.filter fun p=>p.1≠x}}
theorem cE{y:Str}{a:Addr}{l:List (Str×Addr)}:(l.filter fun p=>decide (p.1≠x)).lookup y=some a↔l.lookup y=some a/\y≠x:=by
 induction l with
 |nil=>simp
 |cons p l ih=>
  obtain⟨z,b⟩:=p;by_cases h:z=x
  ·rw[Hr (by simpa using h),ih,Bj];by_cases hy:y=z
   ·subst hy;simp[h]
   ·rw[beq_eq_false_iff_ne.mpr hy]
  ·rw[Hq (by simpa using h),Bj,Bj];by_cases hy:y=z
   ·subst hy;simp[h]
   ·rw[beq_eq_false_iff_ne.mpr hy];exact ih
section
variable{k:Lbl}{a:Addr}{sh0:Sh}
theorem CallOk.cell(hx:Γ.env.cells.lookup x=some a)(hb:Γ.L<a)(hm:ms x=some sh0)(hk:σ k=none)(hsh:(∃l,sh0 = .ref l)\/∃b,sh0 = .bytes b)(hs:∀D,SOk D sh)
  (h:CallOk (Γ.less x) ms (upd σ k (bN k a sh0)) f args sh (upd σ k (bN k a sh0))):CallOk Γ ms σ f args sh σ:=
 ⟨Dom.refl σ,fun c s vs Q E at' hs' hv q=>by
  refine bc fun nq=>?_;obtain⟨⟨v,⟨oc,ho,hd⟩,hu⟩,⟨nL,ng⟩,nρ⟩:=at'.cel x a hx;obtain⟨u,rfl,iu⟩:=hu sh0 hm;obtain⟨m,F,hml⟩:=at'.fr;have G:=at'.ok;have Gl:GmOk (Γ.less x):=⟨G.B,G.XB,G.TB,G.X0,G.T0,G.sub,G.nfr,G.frg,G.low,G.hd,G.hu,G.hh,G.ek,G.el,G.eg,G.eb,fun y z b h1 h2=>G.ci y z b (cE.mp h1).1 (cE.mp h2).1⟩;have un:Un (Γ.less x) σ c a:=⟨ng,nL,fun y b hy e=>by
   obtain⟨h1,h2⟩:=cE.mp hy;exact h2 (G.ci y x a (e▸h1) hx),nρ⟩
  have big:1<a:=by
   obtain⟨o,_,_,h,_⟩:=G.T0.g;have h3:(1:Nat)<mainGlobals:=by decide
   have h4:=Aw h;exact Ee h3 (Ee (Bi h4 (G.low)) hb)
  have is:ObIs (Γ.less x).w (upd σ k (bN k a sh0)) ⟨aN c.ρ k a,c.h⟩ (bN k a sh0) oc:=by
   have ek:aN c.ρ k a k=a:=setρ_at;have kd:upd σ k (bN k a sh0) k≠none:=by rw[aC];exact fun z=>by cases z
   have nt:∀us,oc≠cY us:=fun us e=>by rw[e] at hd;cases hd
   rcases hsh with⟨l,rfl⟩| ⟨b,rfl⟩
   ·cases iu with
    |ref _ hl=>
    have hlk:l≠k:=fun z=>hl (by rw[z];exact hk);exact .raw [k,l] _ _ (fun y hy=>by
     rcases An.mp hy with rfl|hy
     ·exact kd
     ·rw[Ax.mp hy,upd_ne hlk];exact hl) ⟨c.ρ l,by simp[ek,(setρ_ne hlk:aN c.ρ k a l=c.ρ l)],hd⟩ nt
   ·obtain⟨t,rfl⟩:=iu.bytes_inv;exact .raw [k] _ _ (fun y hy=>by rw[Ax.mp hy];exact kd) ⟨t,by simp[ek],hd⟩ nt
  obtain⟨a1,s1⟩:=(⟨at'.toHp,Gl,⟨m,F,hml⟩,at'.offL,fun y b hy=>at'.cel y b (cE.mp hy).1,at'.prot⟩:At (Γ.less x) ms σ c).adopt (l:=k) (o:=bN k a sh0) (D:=a) un hk big ho is;refine nq ?_;refine h.run ⟨aN c.ρ k a,c.h⟩ s vs Q E a1 hs' (hv.mono Dom.upd s1) fun r c2 t2 ir a2 s2=>?_;have cl:∀l o,σ l=some o->OOk (Mine.dom σ) o:=fun l o e=>by
   obtain⟨y,_,h2,_⟩:=at'.ob l o e;exact h2.ook
  have le:∀l o,σ l=some o->upd σ k (bN k a sh0) l=some o:=fun l o e=>by rw[upd_ne (fun z=>by rw[z,hk] at e;cases e)];exact e
  have a3:=a2.drop le cl (fun y z h1 e=>by
   rcases h1 with h1|h1
   ·exact at'.msok y z (.inl h1) e
   ·obtain⟨b,hb⟩:=Cv.mp h1;exact at'.msok y z (.inr (by rw[(cE.mp hb).1];rfl)) e) at'.prot
  refine bc fun nq=>?_;obtain⟨yk,k1,k2,_⟩:=a2.ob k _ aC;obtain⟨ek,w,hw,iw⟩:=tZ k2;obtain⟨m3,F3,hm3⟩:=a3.fr;refine nq ?_;refine q r c2 t2 (ir.cut (hs _)) ⟨a3.toHp,G,⟨m3,F3,hm3⟩,a3.offL,fun y b hy=>?_,at'.prot⟩ (s1.trans (s2.mono Dom.upd):Step (Mine.dom σ) c c2);by_cases z:y=x
  ·subst z;rw[hx] at hy;cases hy;refine⟨⟨some w,⟨yk,by rw[<-ek];exact k1,hw⟩,fun sh' e=>?_⟩,⟨nL,ng⟩,fun l hl e=>?_⟩
   ·rw[hm] at e;cases e;exact⟨w,rfl,iw.cut iu.sok⟩
   ·have hlu:upd σ k (bN k a sh0) l≠none:=by
     cases w2:σ l with
     |none=>exact absurd w2 hl
     |some o=>rw[le l o w2];exact fun y=>by cases y
    have:=a2.inj l k hlu (by rw[aC];exact fun z=>by cases z) (e.trans ek.symm);exact hl (by rw[this];exact hk)
  ·exact a3.cel y b (cE.mpr ⟨hy,z⟩)⟩
end
end
section
open PySem.SeqAt
section
variable{l:Aj}
theorem aKt{x y:Lbl}{a b:List Sh}(n:Lbl)(h1:EV Γ ms σ (eval l Γ.env) (.ref x) σ1)(h2:EV Γ ms σ1 (eval r Γ.env) (.ref y) σ2)(hx:σ2 x=some (.list a))(hy:σ2 y=some (.list b))(hz:a.length+b.length<=1000)(hn:σ2 n=none):
  EV Γ ms σ (eval (.BinOp l .Add r pos) Γ.env) (.ref n) (upd σ2 n (.list (a++b))):=
 ⟨(h1.dom.trans h2.dom).trans Dom.upd,fun c s Q E A hs q=>by
  refine h1.bind A hs fun u c1 t1 i1 a1 s1=>?_;refine h2.hold a1 rfl fun v c2 t2 i2 a2 s2=>?_;refine aG (dU (wpN.of ?_));obtain rfl:=(i1.mono h2.dom s2).ref_inv;obtain rfl:=i2.ref_inv;refine bc fun nq=>?_;obtain⟨vs,k,e,hv⟩:=a2.list hx;obtain⟨ws,k',e',hw⟩:=a2.list hy;refine nq ?_;refine concat_meets ⟨_,e,rfl⟩ ⟨_,e',rfl⟩ noFill_list_add seq_list_add PySem.F.slot_list_add PySem.F.entry_list_add (PySem.F.args_list_add_2 _ _) (list_addW _ _ vs.toArray ws.toArray k k' none none #[] #[] (by simp only[Bg,hv.length,hw.length];rw[Bh];exact nle hz)) ⟨e,e',?_⟩;rw[List.append_toArray];obtain⟨c3,e3,r3,a3,s3⟩:=a2.newList (l:=x) (ys:=a++b) (h':=c2.h.push (listOf (vs++ws).toArray 0)) (k:=0) hn (fun b o e=>Ae _ e) (Ao _ rfl) fun c' S _=>(hv.mono Dom.upd S).append (hw.mono Dom.upd S);have:=q _ c3 t2 r3 a3 ((s1.trans (s2.mono h1.dom)).trans (s3.mono (h1.dom.trans h2.dom)));rw[e3] at this;exact this⟩
end
end
section
local macro_rules | `(tactic| ac_rfl) => `(tactic| all_goals k_extra "R")
local macro_rules | `(tactic| rfl') => `(tactic| repeat k_extra "e")
local macro_rules | `(tactic| case zz => $t) => `(tactic| ($t:tacticSeq))
theorem fill_C:kZ PySem.Challenge.rw_nu0358_01 Mine.hd.heap_1 True:=by
 k_with"g"=>first
  |case zz=>with_reducible first|exact aSa|exact aKn|exact aKo|exact aQo
  |case zz=>(with_reducible apply aOa);k_extra"R"
  |case zz=>(with_reducible apply aQn);k_extra"R";k_extra"R"
  |case zz=>(with_reducible apply aKr);k_extra"R";k_is;k_extra"gl"
  |case zz=>(with_reducible apply aQp);k_extra"R";k_is;k_extra"bb";decide
  |case zz=>with_reducible first|apply mS|apply sA|apply aBq|apply rZ|apply rY|apply aOd
  |case zz=>with_reducible apply aKp
  |case zz=>with_reducible apply aM
  |case zz=>with_reducible apply gM
  |case zz=>with_reducible apply aBr
  |case zz=>with_reducible first|apply wK|apply aKm
  |case zz=>with_reducible first|apply aDl|apply aOs|apply aRz|apply aDn|apply pL|apply dN|apply dO|apply aKc|apply aKe|apply mP|apply aBk|apply mO|exact uF|exact jN
  |case zz=>((with_reducible apply uE);(focus repeat k_extra"e");exact rfl)
  |case zz=>with_reducible first|apply rQ|exact aV|apply aJ
 k_with"e"=>first
  |case zz=>first| (with_reducible refine(?_:EG _ _ _ _ _ _));k_extra"g" | (with_reducible refine(?_:SS _ _ _ _ _ _ _));k_extra"s" | (with_reducible apply aBx);k_extra"sg"
  |case zz=>(focus((with_reducible show((_:Option Ob)=some _));(k_extra"sg")))
  |case zz=>(with_reducible change aY _ _=_);k_extra"at"
  |case zz=>(with_reducible refine(?_:∀u,_=Sh.con u->handedIn u=true);exact(fun _ h=>nomatch h))
  |case zz=>first| (with_reducible refine(?_:ClsOk _ _));k_extra"cl" | (with_reducible change Cq _ _ _=_);k_extra"fi" | (with_reducible change isFn _ _=_);k_extra"f2" | (with_reducible refine(?_:Keeps _ _));k_extra"kp" | (with_reducible apply zB);k_extra"sg";k_extra"sd";k_extra"AR";k_extra"sd";k_extra"U" | (with_reducible apply aGa);k_extra"sd";k_extra"sd";k_extra"sd";k_extra"U" | (with_reducible apply aFz);k_extra"sg";k_extra"at";k_extra"U" | (with_reducible apply aFy);k_extra"sg";k_extra"ad";k_extra"U" | (with_reducible apply wR);k_extra"sg" | (with_reducible apply pA);k_extra"sg" | (with_reducible first|apply BinI.ok|exact BinI.add|exact BinI.sub|exact BinI.and)
  |case zz=>first| (with_reducible exact BinI.xor)| (with_reducible apply BinI.mul);k_extra"mu" | (with_reducible apply BinI.fdivB);k_extra"sd";k_extra"sd" | (with_reducible apply BinI.mod);k_extra"sd" | (with_reducible apply BinI.pow);k_extra"sd";k_extra"sd";k_extra"sd" | (with_reducible apply BinI.shr);k_extra"sd" | (with_reducible apply BinI.shl);k_extra"sd";k_extra"sd";k_extra"sd" | (with_reducible apply gU);k_extra"sd" | (with_reducible first|apply CmpI.ok|exact CmpI.eq|exact CmpI.ne|exact CmpI.lt|exact CmpI.le|exact CmpI.gt)
  |case zz=>first| (with_reducible first|exact CmpI.ge|exact aOe|exact aBs|exact aGo|exact aGl)| (with_reducible apply aKx);k_extra"AR" | (with_reducible apply nR);k_extra"AR" | (with_reducible first|exact wQ|exact aGn|exact aGm)| (with_reducible refine(?_:mL _ _=_));k_extra"ml" | (with_reducible apply Keeps.K);k_is|k_extra"ky" |k_extra"kz"
  |case zz=>with_reducible apply aNz
  |case zz=>with_reducible apply eE
  |case zz=>first| (with_reducible refine(?_:CallE _ _ _ _ _ _));k_extra"ce" | (with_reducible apply aNu);decide;k_extra"R";k_extra"B";k_extra"U"
  |case zz=>first| (with_reducible refine(?_:CallOk _ _ _ _ _ _ _));k_extra"call" | (with_reducible apply gB);k_extra"sd";k_extra"sd" | (with_reducible apply sI);k_extra"sd" | (with_reducible apply sK);k_extra"sd";k_extra"sd" | (with_reducible apply tG);k_extra"sg";k_extra"sd" | (with_reducible apply kG);k_extra"sg";k_extra"sd" | (with_reducible apply sJ);k_extra"sg";k_extra"sd" | (with_reducible apply wT);k_extra"sg";k_extra"sd";exact fun h=>h| (with_reducible apply oR);k_extra"sg";k_extra"sd";exact fun h=>h| (with_reducible first|exact aLb|exact aKz|exact kH|exact aBy)| (with_reducible refine(?_:StoreOk _ _ _));k_extra"st"
  |case zz=>(with_reducible refine(?_:_<=900);k_extra"le")
  |case zz=>(with_reducible refine(?_:Iq _=Iq _);k_extra"sd")
  |case zz=>(with_reducible refine(?_:_<=1000);k_extra"sd")
  |case zz=>with_reducible first|apply dP|exact mU
  |case zz=>((with_reducible apply jW);(case henv=>k_extra"sc");(case hk'=>decide +kernel))
  |case zz=>first| (with_reducible apply aOj);k_extra"sc" | (with_reducible first|apply aLd|apply eY|apply jS)| (with_reducible apply uH);k_extra"sg";k_extra"sd";k_extra"IA" | (with_reducible apply cV);k_extra"sg";k_extra"sd";k_extra"IA" | (with_reducible apply aGb);k_extra"sg";k_extra"sd";k_extra"IA" | (with_reducible apply aKf);k_extra"sg";decide;k_extra"O";k_extra"sd";exact fun h=>h| (with_reducible first|exact fE|apply lO)| (with_reducible change Env.scope _=_);k_extra"sc"
  |case zz=>(refine(?_:Gz _ _=some _);decide +kernel)
  |case zz=>with_reducible refine fun(_:_=true)=>?_
  |case zz=>with_reducible refine fun(_:_=false)=>?_
  |case zz=>first|exact fun _ h=>h|exact fun h=>h|exact fun _=>rfl|apply fV| (with_reducible apply Or.inl);k_extra"R" |k_extra"R" |k_extra"B" |with_unfolding_all exact rfl
  |case zz=>with_reducible first|apply pM|apply zO
 k_with"s"=>first
  |case zz=>first| (with_reducible apply aQ);k_extra"sr" | (with_reducible first|exact dI|apply aB)
  |case zz=>((with_reducible apply dJ);(case henv=>k_extra"sc");(case hk'=>decide +kernel))
  |case zz=>first| (with_reducible apply aDh);k_extra"R" | (with_reducible apply aDg);k_extra"R" | (with_reducible first|apply fP|apply aQf|apply dK|apply eX)
 k_with"sst"=>simp at*
 k_with"sc2"=>(dsimp only[Gm.frz,envOf,Oo,envX];try exact rfl)
 k_with"ln4"=>(intro h;have h1:=congrArg Nj h;have h2:=congrArg En h;simp at h1 h2 <;> omega)
 k_with"R"=>first|exact Eo true|exact Eo false|exact rfl
 k_with"O"=>exact of_decide_eq_true rfl
 k_with"B"=>exact Aa rfl
 k_with"fn"=>first|assumption|k_extra"f"
 k_with"sg"=>first|assumption| (with_reducible exact aC)| (with_reducible apply aCd);k_extra"lne";k_extra"sg"
 k_with"sd"=>first|assumption|decide| (with_reducible exact oU)|exact nle (by assumption)|exact ile (by assumption)|omega| (focus(simp;done))| (focus(simp;omega))| (focus(k_extra"sst";omega))
 k_with"sc"=>first| (with_reducible apply aAz);k_extra"sc" | (focus(k_extra"sc2";done))|k_extra"R"
 k_with"lne"=>first|apply aA;k_extra"R" |decide|assumption|k_extra"ln4"
 k_with"dg"=>first| (with_reducible exact aIs)| (with_reducible apply aFg);decide +kernel;k_extra"dg" | (with_reducible exact aIr)|assumption|k_extra"R"
 k_with"tt"=>first|assumption| (focus(simp[*];done))|decide| (focus(simp[*];omega))| (focus(simp_all;done))| (focus(simp_all;omega))
 k_with"ifr"=>apply aQ;apply aP;apply EB.cast;(focus repeat k_extra"e");k_extra"tt"
 k_with"ift"=>apply aB;apply aP;apply EB.cast;(focus repeat k_extra"e");k_extra"tt"
 k_with"iff"=>apply aB;apply aD;apply EB.cast;(focus repeat k_extra"e");k_extra"tt";(with_reducible exact dI)
 k_with"call"=>first| (with_reducible apply kG);assumption;assumption|apply FN.call;k_extra"fn";k_extra"B";exact fun _ h=>h
 k_with"rz"=>apply aHa;assumption;kernel_rfl!;k_extra"B";exact fun _ h=>h
 k_with"mu"=>first|assumption|apply Ge.of_right;decide|apply Ge.of_left;decide
 k_with"gl"=>first|intro _ _;apply Is.int|intro _ _;apply Is.str|intro _ _;apply Is.con
 k_with"ce"=>apply FE.callE;assumption;k_extra"B";exact fun _ h=>h
 k_with"ky"=>apply Or.inr;apply Or.inl;apply Af;k_extra"R"
 k_with"kz"=>apply Or.inr;apply Or.inr;apply Af;k_extra"R"
 k_with"he"=>k_extra"R"
 k_with"ml"=>first| (with_reducible exact fV)| (with_reducible apply aWi);k_extra"R" | (with_reducible apply aWh);k_extra"R" | (with_reducible apply aWg);k_extra"R" | (with_reducible apply aWf);k_extra"R" | (with_reducible apply aWe);k_extra"R" | (with_reducible apply aWd);k_extra"R" | (with_reducible apply aWc);k_extra"R" | (with_reducible apply aWb);k_extra"R" | (with_reducible apply aCn);decide +kernel
 k_with"AR"=>first|assumption|k_extra"R"
 k_with"IA"=>first|exact fun h=>h|assumption
 k_with"ad"=>first|k_extra"at" |k_extra"dg"
 k_with"sr"=>(with_reducible apply bU)
 k_with"le"=>first|k_extra"B" | (with_reducible exact aMe)|assumption
 k_with"bb"=>with_reducible first|exact aJh|exact aQa|exact aJi|exact aFr|exact aJg|exact vW|exact aNl|exact aNm|exact aQb|exact aPy|exact aPz|exact aQc|exact vV|exact vX
 k_with"at"=>first| (with_reducible apply dgm);assumption| (with_reducible apply aWo);assumption| (with_reducible first|exact aNh|exact aFi|exact vI|exact rB|exact aNg|exact aFh)| (with_reducible apply aAx);assumption| (with_reducible apply rC);assumption|assumption| (with_reducible first|exact vG|exact qY|exact aFc|exact aFa|exact vE|exact aFd|exact aNe|exact yK|exact aNc|exact aIo|exact sV|exact yJ|exact aAw|exact aPr|exact aMy|exact aNf|exact aIp|exact aMz|exact aIq|exact aNa|exact aPq|exact aFe|exact aMx|exact vF|exact aNb|exact aNd|exact aFb|exact yL)
 k_with"cl"=>with_reducible first|apply aBb|exact aCv|exact aCx|exact aCw
 k_with"fi"=>first| (with_reducible first|apply aNr|apply aFu|apply wB|apply rK|apply aNq|apply aFt|apply uZ|apply qI|apply aEn|apply aEm|apply uY|apply aEo|apply aLx|apply xO|apply aLw|apply aHl|apply xN|apply aAd|apply aPc|apply aLt|apply aLy|apply aHm|apply aLu)| (with_reducible apply aHn);assumption| (with_reducible apply aRh);assumption| (with_reducible apply aLv);assumption|k_is
 k_with"st"=>with_reducible first|apply aLk|apply aEd|apply uM|apply pW|apply aLj|apply aEc|exact pX|exact kL
 k_with"f2"=>first|k_is| (with_reducible exact aMp)| (with_reducible apply aIe);assumption| (with_reducible apply aPn);assumption| (with_reducible first|exact iA|exact aMq|exact aIf|exact aMo|exact yG|exact tU|exact iB|exact aMr)
 k_with"kp"=>first| (with_reducible apply Keeps.K);k_is|k_extra"ky" |k_extra"kz" | (with_reducible exact aMg)| (with_reducible apply aHq);assumption| (with_reducible apply aPi);assumption| (with_reducible first|exact gY|exact aMh|exact aHr|exact aMf|exact xU|exact tO|exact gZ|exact aMi)
 k_with"U"=>exact fun _ _=>by with_unfolding_all rfl
 k_fill
 exact trivial
variable{g g' g2:Gn}{m:MC}{bks:List (List Int)}
noncomputable def aOl(f:Int)(o:UInt8):Int:=Di (PySem.Builtin.bitXor f (o.toNat:Int)*16777619) 4294967295
noncomputable def kT(b:List UInt8):Int:=b.foldl aOl 2166136261
theorem aMl{b:List UInt8}:FN w 1 (.ref 443) [.bytes b] σ (.int (kT b)) σ:=by
 refine aS (Dom.refl σ) (by k_is) (by k_is) ["key"] [("key",.bytes b)] rfl (fun s=>eA fun _=>Ah rfl) (fun A base outer g mg mb L=>?_);apply Af;apply aB;rfl';apply rU
 ·apply ItE.of
  ·k_extra"e"
   rfl'
  exact aBn
 ·refine pT (fun a:UInt8=>.int (a.toNat:Int)) (fun f=>[("found",.int f),("key",.bytes b)]) (fun _=>σ) aOl (fun _=>True) (fun _ _=>trivial) (fun _ _ _ _=>trivial) (fun f a g _ _=>?_) _ trivial;apply SS.weak;rfl'
 rfl'
theorem aLe{x y:Sh}:FN w 1 (.ref 491) [x,y] σ .none σ:=by
 k_with"f"=>apply aMl
 refine aS (Dom.refl σ) (by k_is) (by k_is) ["self","slot"] [("slot",y),("self",x)] rfl (fun s=>cF fun _ _=>Ah rfl) (fun A base outer g mg mb L=>?_);apply Af;rfl'
noncomputable def bC(flags:Int)(there:Bool):Int:=if¬flags∈[0,1,2] then -22 else if flags=1/\there=true then -17 else if flags=2/\there=false then -2 else 0
theorem aIh{there:Bool}:FN w 1 (.ref 311) [.int flags,.bool there] σ (.int (bC flags there)) σ:=by
 k_with"f"=>apply aLe
 refine aS (Dom.refl σ) (by k_is) (by k_is) ["flags","is_there"] [("is_there",.bool there),("flags",.int flags)] rfl (fun s=>cF fun _ _=>Ah rfl) (fun A base outer g mg mb L=>?_);by_cases h1:flags∈[0,1,2]
 ·by_cases h2:flags=1/\there=true
  ·apply Af;apply SS.cast
   k_extra"iff"
   k_extra"ifr"
   rfl'
   ·simp[bC,h1,h2]
   ·rfl
  ·by_cases h3:flags=2/\there=false
   ·apply Af;apply SS.cast
    k_extra"iff"
    k_extra"iff"
    k_extra"ifr"
    rfl'
    ·simp[bC,h1,h2,h3]
    ·rfl
   ·apply Af;apply SS.cast
    k_extra"iff"
    k_extra"iff"
    k_extra"iff"
    rfl'
    ·simp[bC,h1,h2,h3]
    ·rfl
 ·apply Af;apply SS.cast
  k_extra"ifr"
  rfl'
  ·simp[bC,h1]
  ·rfl
theorem aDz:FN w 1 (.ref 80) [.int width] σ (.int ((width+7).fdiv 8*8+8)) σ:=by
 k_with"f"=>apply aIh
 refine aS (Dom.refl σ) (by k_is) (by k_is) ["width"] [("width",.int width)] rfl (fun s=>eA fun _=>Ah rfl) (fun A base outer g mg mb L=>?_);apply Af;rfl'
noncomputable def bF(w:Int):Int:=(w+7).fdiv 8*8+8
theorem aDt{number slot:Int}(hm:Ge slot ((width+7).fdiv 8*8+8)):FN w 2 (.ref 87) [.int number,.int slot,.int width] σ (.int (16777216+1048576*number+slot*bF width)) σ:=by
 k_with"f"=>apply aDz
 refine aS (Dom.refl σ) (by k_is) (by k_is) ["number","slot","width"] [("width",.int width),("slot",.int slot),("number",.int number)] rfl (fun s=>qM fun _ _ _=>Ah rfl) (fun A base outer g mg mb L=>?_);apply Af;apply SS.cast;rfl'
noncomputable abbrev aRb(place width:Int):List Sh:=[.int ((place-16777216).fdiv 1048576),.int (((place-16777216).fmod 1048576).fdiv (bF width)),.int (((place-16777216).fmod 1048576).fmod (bF width))]
theorem sN{place:Int}(h0:0<width)(h1:width<=1000):FN w 2 (.ref 94) [.int place,.int width] σ (.tup (aRb place width)) σ:=by
 k_with"f"=>apply aDt;assumption
 refine aS (Dom.refl σ) (by k_is) (by k_is) ["place","width"] [("width",.int width),("place",.int place)] rfl (fun s=>cF fun _ _=>Ah rfl) (fun A base outer g mg mb L=>?_);have hs:0< (width+7).fdiv 8*8+8/\(width+7).fdiv 8*8+8<=2000:=by rw[Fg _ (by decide)];exact z89 h0 h1
 obtain⟨hs1,hs2⟩:=hs;apply Af;apply SS.cast;rfl'
noncomputable def bQ(most:Int):Int:=if most<=1 then 1 else if most<=2 then 2 else if most<=4 then 4 else 8
theorem vU(h:most<=8):∃n,jC (fun z:Int=>z+z) n 1=bQ most/\decide (bQ most<most)=false/\∀k,k<n->decide (jC (fun z:Int=>z+z) k 1<most)=true:=by
 k_with"f"=>apply sN;assumption;assumption
 unfold bQ;by_cases h1:most<=1
 ·exact⟨0,by simp[h1,jC],by simp[h1],by simp⟩
 by_cases h2:most<=2
 ·exact⟨1,by simp[h1,h2,jC],by simp[h1,h2],fun k hk=>by
   have:k=0:=by exact z75 hk
   subst this;exact decide_eq_true (show(1:Int)<most by exact Ff.mp h1)⟩
 by_cases h3:most<=4
 ·exact⟨2,by simp[h1,h2,h3,jC],by simp[h1,h2,h3],fun k hk=>by
   have:k=0\/k=1:=by exact z76 hk
   rcases this with rfl|rfl
   ·exact decide_eq_true (show(1:Int)<most by exact Ff.mp h1)
   ·exact decide_eq_true (show(2:Int)<most by exact Ff.mp h2)⟩
 ·exact⟨3,by simp[h1,h2,h3,jC],by simp[h1,h2,h3];exact h,fun k hk=>by
   have:k=0\/k=1\/k=2:=by exact z77 hk
   rcases this with rfl|rfl|rfl
   ·exact decide_eq_true (show(1:Int)<most by exact Ff.mp h1)
   ·exact decide_eq_true (show(2:Int)<most by exact Ff.mp h2)
   ·exact decide_eq_true (show(4:Int)<most by exact Ff.mp h3)⟩
theorem oZ(h0:most<=8):FN w 1 (.ref 450) [.int most] σ (.int (bQ most)) σ:=by
 obtain⟨n,hn,hs,hk⟩:=vU h0;refine aS (Dom.refl σ) (by k_is) (by k_is) ["most"] [("most",.int most)] rfl (fun s=>eA fun _=>Ah rfl) (fun A base outer g mg mb L=>?_);apply Af;apply SS.cast
 ·apply aB
  ·rfl'
  ·apply aB
   ·apply aNw;apply wX (Z:=Int) (fun z=>[("count",.int z),("most",.int most)]) (fun _=>σ) (fun z=>decide (z<most)) (fun z=>z+z) (z:=1) (n:=n)
    ·intro z;rfl'
    ·intro z _;apply SS.weak;rfl'
    ·rw[hn];exact hs
    ·exact hk
   ·rfl'
 ·rw[hn]
 ·rfl
theorem aQd(x:Int):0<=Di x 255/\Di x 255<256:=by rw[bitAnd_m8];exact z78
noncomputable def fF(n:Int)(k:Int):List UInt8:=(upI 0 k).map fun i=>(Di (n.fdiv (2 ^(8*i).toNat)) 255).toNat.toUInt8
theorem aEs{worth:Int}:FN w 1 (.ref 66) [.int worth,.int 4] σ (.bytes (fF worth 4)) σ:=by
 k_with"f"=>apply oZ;omega
 refine FN.fresh (Dom.refl _) fun k hk=>?_;have h0:=hk k (Az _);refine cM (Dom.refl σ) (by k_is) (by k_is) ["worth","width"] [("width",.int 4),("worth",.int worth)] rfl (fun s=>cF fun _ _=>Ah rfl) (by decide) (dA _) (dH (by decide +kernel)) (fun A base outer g mg mb L=>?_);apply Af;apply SS.cast
 ·apply aQ;apply bU;apply EV.drop (L:=Less.one (n:=(0,k)) h0) (k:=.bytes _);apply aM
  ·k_extra"e"
  ·k_extra"e"
  ·apply aJ
   ·apply iD (α:=Int) .int (fun i=>.int (Di (worth.fdiv (2 ^(8*i).toNat)) 255)) (0,k)
    ·apply dM
     ·rfl'
     ·rfl'
     ·decide
     all_goals exact rfl
    ·apply LcOk.one
     ·exact rfl
     ·exact rfl
     ·rfl'
     ·exact fun _=>rfl
     ·decide +kernel
     ·decide
    ·trivial
    ·exact h0
    ·intro a g C ha;have ha:=bJ.mp ha;rfl'
    ·exact fun _ h=>h.elim
    ·rw[aU];decide
   ·rfl'
   ac_rfl
  ·apply dR (ns:=(upI 0 4).map fun i=>(Di (worth.fdiv (2 ^(8*i).toNat)) 255))
   ·rw[aC,Bq];rfl
   ·intro x hx;obtain⟨i,_,rfl⟩:=Aq.mp hx;exact aQd _
   ·rw[Ag,aU];decide
  ac_rfl
 ·rw[Bq];rfl
 ·rfl
noncomputable def qO(b:List UInt8)(z:Int)(i:Int):Int:=z+((b.getD i.toNat 0).toNat:Int)*2 ^(8*i).toNat
theorem qV{b:List UInt8}(hz:b.length<=8):FN w 1 (.ref 73) [.bytes b] σ (.int ((upI 0 b.length).foldl (qO b) 0)) σ:=by
 k_with"f"=>apply aEs
 refine aS (Dom.refl σ) (by k_is) (by k_is) ["octets"] [("octets",.bytes b)] rfl (fun s=>eA fun _=>Ah rfl) (fun A base outer g mg mb L=>?_);apply Af;apply SS.cast
 ·apply aB
  ·rfl'
  ·apply aB
   ·apply aQh (α:=Int) (Z:=Int) .int (fun z=>[("worth",.int z),("octets",.bytes b)]) (fun _=>σ) (qO b) (fun _=>True) 0
    ·apply dM
     ·rfl'
     ·rfl'
     ·exact⟨ige oU,ule hz⟩
     all_goals exact rfl
    ·rfl
    ·trivial
    ·exact fun _ _=>trivial
    ·exact fun _ _ _ _=>trivial
    ·intro z i g _ hi;have hi:=bJ.mp hi;have hb:(((b.getD i.toNat 0).toNat:Nat):Int).natAbs<2 ^ 64:=by
      have:(b.getD i.toNat 0).toNat<256:=My _;rw[Int.natAbs_natCast];exact z87 this
     apply SS.weak;rfl'
    ·exact rfl
    ·exact rfl
    ·exact rfl
    ·exact fun _ h=>h.elim
   ·rfl'
 ·rfl
 ·rfl
theorem vO(M:MapB σ g m vals){b:List UInt8}(hz:(b.length:Int)=m.kw)(hw:m.kw<=600):FN w 1 (.ref 136) [.ref (lI g),.bytes b] σ (.bytes b) σ:=by
 k_with"f"=>apply qV;omega
 have hi:=M.hi;have hd:=M.hd;refine aS (Dom.refl σ) (by k_is) (by k_is) ["self","key"] [("key",.bytes b),("self",.ref (lI g))] rfl (fun s=>cF fun _ _=>Ah rfl) (fun A base outer g' mg mb L=>?_);apply Af
 k_extra"iff"
 rfl'
theorem rH(M:MapB σ g m vals){b:List UInt8}(hz:(b.length:Int)=m.vw)(hw:m.vw<=600):FN w 1 (.ref 143) [.ref (lI g),.bytes b] σ (.bytes b) σ:=by
 k_with"f"=>apply vO;assumption;assumption;assumption
 have hi:=M.hi;have hd:=M.hd;refine aS (Dom.refl σ) (by k_is) (by k_is) ["self","octets"] [("octets",.bytes b),("self",.ref (lI g))] rfl (fun s=>cF fun _ _=>Ah rfl) (fun A base outer g' mg mb L=>?_);apply Af
 k_extra"iff"
 rfl'
theorem xJ(M:MapB σ g m vals){slot:Int}(hm:Ge slot ((m.vw+7).fdiv 8*8+8)):FN w 3 (.ref 250) [.ref (lI g),.int slot] σ (.int (16777216+1048576*m.num+slot*bF m.vw)) σ:=by
 k_with"f"=>apply rH;assumption;assumption;assumption
 have hi:=M.hi;have hd:=M.hd;refine aS (Dom.refl σ) (by k_is) (by k_is) ["self","slot"] [("slot",.int slot),("self",.ref (lI g))] rfl (fun s=>cF fun _ _=>Ah rfl) (fun A base outer g' mg mb L=>?_);apply Af;rfl'
noncomputable def kN(m:MC)(vals:List (Int×List UInt8))(place:Int):Sh:=if(place-16777216).fdiv 1048576=m.num/\(aL vals (((place-16777216).fmod 1048576).fdiv (bF m.vw))).isSome=true/\((place-16777216).fmod 1048576).fmod (bF m.vw)<m.vw then .tup [.int (((place-16777216).fmod 1048576).fdiv (bF m.vw)),.int (((place-16777216).fmod 1048576).fmod (bF m.vw))] else .none
theorem pY(M:MapB σ g m vals){place:Int}(h0:0<m.vw)(h1:m.vw<=1000):FN w 3 (.ref 257) [.ref (lI g),.int place] σ (kN m vals place) σ:=by
 k_with"f"=>apply xJ;assumption;assumption
 have hi:=M.hi;have hd:=M.hd;have hv:=M.hv;refine aS (Dom.refl σ) (by k_is) (by k_is) ["self","place"] [("place",.int place),("self",.ref (lI g))] rfl (fun s=>cF fun _ _=>Ah rfl) (fun A base outer g' mg mb L=>?_);by_cases hc:(place-16777216).fdiv 1048576=m.num/\(aL vals (((place-16777216).fmod 1048576).fdiv (bF m.vw))).isSome=true/\((place-16777216).fmod 1048576).fmod (bF m.vw)<m.vw
 ·apply Af;apply SS.cast
  ·apply aB
   ·rfl'
   ·apply aQ;apply aP
    ·apply EB.cast
     ·rfl'
     ·simp only[Bool.and_true,Kg,decide_eq_true_eq,beq_iff_eq,vH];exact hc
    ·rfl'
  ·unfold kN;rw[if_pos hc]
  ·rfl
 ·apply Af;apply SS.cast
  ·apply aB
   ·rfl'
   ·apply aB
    ·apply aD
     ·apply EB.cast
      ·rfl'
      ·rw[<-Bool.not_eq_true];simp only[Bool.and_true,Kg,decide_eq_true_eq,beq_iff_eq,vH];exact hc
     ·rfl'
    ·rfl'
  ·unfold kN;rw[if_neg hc]
  ·rfl
theorem kR(M:MapB σ g m vals){slot:Int}{b old:List UInt8}(h:aL vals slot=some old)(hl:b.length=old.length)(hz:old.length<=1000):FN w 1 (.ref 264) [.ref (lI g),.int slot,.bytes b] σ .none (upd σ (lo g slot) (.ba b)):=by
 k_with"f"=>apply pY;assumption;omega;omega
 have hi:=M.hi;have hd:=M.hd;have hv:=M.hv;have ho:=M.ho _ (bL h);refine gK Dom.upd (by k_is) (by k_is) ["self","slot","octets"] [("octets",.bytes b),("slot",.int slot),("self",.ref (lI g))] rfl (fun s=>qM fun _ _ _=>Ah rfl) (fun A base outer g' mg mb L=>?_);apply Af;apply aB
 ·apply aP
  ·apply EB.cast
   ·rfl'
   ·rw[vH,h];rfl
  ·rfl'
 ·rfl'
theorem qP(M:MapB σ g m vals){slot:Int}{b:List UInt8}(h:aL vals slot=none)(hn:σ (lo g slot)=none)(hz:b.length<=1000)(hvz:vals.length<=1000):FN w 1 (.ref 264) [.ref (lI g),.int slot,.bytes b] σ .none (upd (upd σ (lo g slot) (.ba b)) (lV g) (.idict ((vput vals slot b).map fun p=>(p.1,.ref (lo g p.1))))):=by
 have hi:=M.hi;have hd:=M.hd;have hv:=M.hv;have hvz':(vals.map fun p=>(p.1,Sh.ref (lo g p.1))).length<=1000:=by rw[Ag];exact hvz
 refine gK (Dom.trans Dom.upd Dom.upd) (by k_is) (by k_is) ["self","slot","octets"] [("octets",.bytes b),("slot",.int slot),("self",.ref (lI g))] rfl (fun s=>qM fun _ _ _=>Ah rfl) (fun A base outer g' mg mb L=>?_);apply Af;apply SS.cast
 ·apply aB
  ·apply aD
   ·apply EB.cast
    ·rfl'
    ·rw[vH,h];rfl
   ·apply aB
    ·apply dK (sh:=.ref (lo g slot));rfl'
    ·rfl'
  ·rfl'
 ·rfl
 ·rw[<-dpm (f:=fun p=>Sh.ref (lo g p.1)) h]
noncomputable def cH(b:List UInt8):Int:=(upI 0 b.length).foldl (qO b) 0
theorem fG(b:List UInt8):0<=cH b:=by
 have:∀(l:List Int) (z:Int),0<=z->0<=l.foldl (qO b) z:=by
  intro l
  induction l with
  |nil=>exact fun _ h=>h
  |cons a l ih=>exact fun z h=>ih _ (by unfold qO;exact Int.add_nonneg h (Fy (Lx _) (Cu (Int.pow_pos (by decide)))))
 exact this _ 0 (Az _)
noncomputable def idx(m:MC)(b:List UInt8):Int:=if cH b<m.most then cH b else -1
theorem hH(M:MapB σ g m vals){b:List UInt8}(hz:(b.length:Int)=m.kw)(h4:m.kw=4):FN w 2 (.ref 332) [.ref (lI g),.bytes b] σ (.int (idx m b)) σ:=by
 have hi:=M.hi;have hd:=M.hd;have hw:m.kw<=600:=by exact hM h4 (by decide)
 refine aS (Dom.refl σ) (by k_is) (by k_is) ["self","key"] [("key",.bytes b),("self",.ref (lI g))] rfl (fun s=>cF fun _ _=>Ah rfl) (fun A base outer g' mg mb L=>?_);apply Af;apply SS.cast
 ·rfl'
 ·show Fl.ret (if decide (cH b<m.most)=true then Sh.int (cH b) else Sh.int (-1))=_
  unfold idx;by_cases h:cH b<m.most <;> simp[h]
 ·rfl
theorem aCg(M:MapB σ g m vals)(hk:m.k≠.hsh){i p:Int}(h0:0<=p)(h1:p<4):FN w 1 (.ref m.k.slotF) [.ref (lI g),.int i,.int p] σ (.int (eS m.k i p)) σ:=by
 k_with"f"=>apply hH;assumption;assumption;assumption
 cases e:m.k with
 |hsh=>exact absurd e hk
 |arr=>
  refine aS (Dom.refl σ) (by k_is) (by k_is) ["self","index","processor"] [("processor",.int p),("index",.int i),("self",.ref (lI g))] rfl (fun s=>qM fun _ _ _=>Ah rfl) (fun A base outer g' mg mb L=>?_);apply Af;rfl'
 |row=>
  refine aS (Dom.refl σ) (by k_is) (by k_is) ["self","index","processor"] [("processor",.int p),("index",.int i),("self",.ref (lI g))] rfl (fun s=>qM fun _ _ _=>Ah rfl) (fun A base outer g' mg mb L=>?_);apply Af
  k_extra"iff"
  apply SS.cast
  ·rfl'
  ·rfl
  ·rfl
theorem aJv(M:MapB σ g m vals)(hk:m.k≠.hsh){b:List UInt8}(hz:(b.length:Int)=m.kw)(h4:m.kw=4):FN w 3 (.ref 346) [.ref (lI g),.bytes b] σ (if cH b<m.most then .int (eS m.k (cH b) 0) else .none) σ:=by
 k_with"f"=>apply aCg;assumption;assumption;assumption;assumption
 k_with"f"=>apply aCg;assumption;assumption;omega;omega
 have hi:=M.hi;have hd:=M.hd;have hn:=fG b;refine aS (Dom.refl σ) (by k_is) (by k_is) ["self","key"] [("key",.bytes b),("self",.ref (lI g))] rfl (fun s=>cF fun _ _=>Ah rfl) (fun A base outer g' mg mb L=>?_);apply Af;apply SS.cast
 ·rfl'
 ·unfold idx;by_cases h:cH b<m.most
  ·simp only[h,if_true,decide_eq_true_eq];rw[if_neg (Eg.mpr hn)]
  ·simp[h]
 ·rfl
theorem aBh(M:MapB σ g m vals)(hk:m.k≠.hsh){b:List UInt8}{p:Int}(h0:0<=p)(h1:p<4)(hz:(b.length:Int)=m.kw)(h4:m.kw=4):FN w 3 (.ref 354) [.ref (lI g),.bytes b,.int p] σ (if cH b<m.most then .int (eS m.k (cH b) p) else .none) σ:=by
 have hi:=M.hi;have hd:=M.hd;have hn:=fG b;refine eQ (Dom.refl σ) (by k_is) (by k_is) ["self","key","processor"] [("processor",.int p),("key",.bytes b),("self",.ref (lI g))] rfl (by intro s vs X;revert vs;exact qM fun _ _ _=>by refine Bv rfl (X _ _ (by k_is)) rfl rfl rfl) (fun A base outer g' mg mb L=>?_);apply Af;apply SS.cast
 ·rfl'
 ·unfold idx;by_cases h:cH b<m.most
  ·simp only[h,if_true,decide_eq_true_eq];rw[if_neg (Eg.mpr hn)]
  ·simp[h]
 ·rfl
theorem aBi(M:MapB σ g m vals){b:List UInt8}(hz:(b.length:Int)=m.kw)(hw:m.kw<=600):FN w 2 (.ref 369) [.ref (lI g),.bytes b] σ (.int (-22)) σ:=by
 have hi:=M.hi;have hd:=M.hd;refine aS (Dom.refl σ) (by k_is) (by k_is) ["self","key"] [("key",.bytes b),("self",.ref (lI g))] rfl (fun s=>cF fun _ _=>Ah rfl) (fun A base outer g' mg mb L=>?_);apply Af;apply SS.cast
 ·rfl'
 ·rfl
 ·rfl
theorem aGs(M:MapB σ g m vals){b o:List UInt8}{s:Int}(S:FN w 3 (.ref m.k.peer) [.ref (lI g),.bytes b] σ (.int s) σ)(h:aL vals s=some o)(ho:o.length<=1000):FN w 4 (.ref 229) [.ref (lI g),.bytes b] σ (.bytes o) σ:=by
 have hi:=M.hi;have hd:=M.hd;have hv:=M.hv;have hb:=M.ho _ (bL h);refine aS (Dom.refl σ) (by k_is) (by k_is) ["self","key"] [("key",.bytes b),("self",.ref (lI g))] rfl (fun s=>cF fun _ _=>Ah rfl) (fun A base outer g' mg mb L=>?_);apply Af;apply aB
 ·rfl'
 ·apply aQ;apply bU;apply bE
  ·apply EB.cast
   ·rfl'
   ·rfl
  ·rfl'
theorem vA(M:MapB σ g m vals){b:List UInt8}{p:Int}{x:Sh}(S:FN w 4 (.ref m.k.lookup) [.ref (lI g),.bytes b,.int p] σ x σ):FN w 5 (.ref 166) [.ref (lI g),.bytes b,.int p] σ x σ:=by
 have hi:=M.hi;have hd:=M.hd;refine aS (Dom.refl σ) (by k_is) (by k_is) ["self","key","processor"] [("processor",.int p),("key",.bytes b),("self",.ref (lI g))] rfl (fun s=>qM fun _ _ _=>Ah rfl) (fun A base outer g' mg mb L=>?_);apply Af;rfl'
noncomputable def bix(bks:List (List Int))(b:List UInt8):Int:=kT b % bks.length
theorem vT(M:MapH σ g m vals kbs bks)(b:List UInt8):0<=bix bks b/\bix bks b<bks.length:=by
 have:=M.len;unfold bix;constructor
 ·exact Ni _ (by exact z79 this)
 ·exact Ly _ (by exact z80 this)
theorem MapH.bucket(M:MapH σ g m vals kbs bks)(b:List UInt8):∃l,bks[(bix bks b).toNat]? = some l/\σ (lb g (bix bks b))=some (.list (l.map .int)):=by
 have h:=vT M b;have hl:(bix bks b).toNat<bks.length:=by exact aGu h.1 h.2
 exact⟨_,Ba hl,M.hbk _ _ h.1 (Ba hl)⟩
theorem nJ(M:MapH σ g m vals kbs bks){b:List UInt8}:FN w 2 (.ref 469) [.ref (lI g),.bytes b] σ (.ref (lb g (bix bks b))) σ:=by
 have hi:=M.hi2;have hd:=M.hd;have hh:=M.kh;have hB:=M.hB;have hl:=vT M b;have hlen:((upI 0 bks.length).map fun i=>Sh.ref (lb g i)).length=bks.length:=by rw[Ag,aU];exact z81
 have hn:=M.len;have e:Di (kT b) ((((upI 0 bks.length).map fun i=>Sh.ref (lb g i)).length:Int)-1)=bix bks b:=by
  rw[hlen];exact aJj _ (by exact z82 hl hlen hn)
 have h0:0<=Di (kT b) ((((upI 0 bks.length).map fun i=>Sh.ref (lb g i)).length:Int)-1):=by rw[e];exact hl.1
 have h1:((upI 0 bks.length).map fun i=>Sh.ref (lb g i))[(Di (kT b) ((((upI 0 bks.length).map fun i=>Sh.ref (lb g i)).length:Int)-1)).toNat]? = some (.ref (lb g (bix bks b))):=by
  rw[e,Ci];unfold upI;rw[Ci,Hf (by exact z83 hl hlen e)];simp;exact z84 hl e
 have h2:((upI 0 bks.length).map fun i=>Sh.ref (lb g i)).length<=1000:=by exact z85 hlen hn
 clear e;refine aS (Dom.refl σ) (by k_is) (by k_is) ["self","key"] [("key",.bytes b),("self",.ref (lI g))] rfl (fun s=>cF fun _ _=>Ah rfl) (fun A base outer g' mg mb L=>?_);apply Af;rfl'
noncomputable def hpeer(kbs:List (Int×List UInt8))(bks:List (List Int))(b:List UInt8):Option Int:=(bks.getD (bix bks b).toNat []).find? fun s=>decide (aL kbs s=some b)
noncomputable def iU:Option Int->Sh
 |some s=>.int s
 |none=>.none
theorem jG(M:MapH σ g m vals kbs bks){b:List UInt8}(hz:(b.length:Int)=m.kw)(hw:m.kw<=600)(hin:∀l∈bks,∀s∈l,∃k,aL kbs s=some k):FN w 3 (.ref 476) [.ref (lI g),.bytes b] σ (iU (hpeer kbs bks b)) σ:=by
 k_with"f"=>apply nJ;assumption
 have B:=M.toMapB;have hi:=M.hi2;have hd:=M.hd;have hh:=M.kh;have hK:=M.hK;obtain⟨l,hl,hb⟩:=M.bucket b;have hml:l∈bks:=Bd hl;have el:hpeer kbs bks b=l.find? fun s=>decide (aL kbs s=some b):=by unfold hpeer;rw[Ay,hl];rfl
 rw[el];refine aS (Dom.refl σ) (by k_is) (by k_is) ["self","key"] [("key",.bytes b),("self",.ref (lI g))] rfl (fun s=>cF fun _ _=>Ah rfl) (fun A base outer g' mg mb L=>?_)
 cases hf:l.find? fun s=>decide (aL kbs s=some b) with
 |some s=>
  apply Af;apply aB
  ·rfl'
  apply aQ;apply uI (α:=Int) .int (fun s=>decide (aL kbs s=some b)) hf
  ·apply ItE.of
   ·k_extra"e"
    rfl'
   ·exact cW hb
  ·exact hb
  ·intro s2 g2 hs2 hp;obtain⟨k2,hk2⟩:=hin l hml s2 hs2;rw[hk2] at hp;apply SS.weak
   ·k_extra"iff"
    rfl'
   ·rfl'
  ·intro g2;have hk2:aL kbs s=some b:=by have:=Cr hf;simpa using this
   k_extra"ifr"
   rfl'
  all_goals first|exact rfl|exact fun _ h=>h
 |none=>
  apply Af;apply aB
  ·rfl'
  apply aB
  ·apply rT (α:=Int) .int
   ·apply ItE.of
    ·k_extra"e"
     rfl'
    ·exact cW hb
   ·exact hb
   ·intro s2 g2 hs2;obtain⟨k2,hk2⟩:=hin l hml s2 hs2;have hp:=Dm.mp hf s2 hs2;rw[hk2] at hp;apply SS.weak
    ·k_extra"iff"
     rfl'
    ·rfl'
   all_goals first|exact rfl|exact fun _ h=>h
  ·show SS _ _ _ _ (.ret .none) _ _;rfl'
theorem aAq(M:MapH σ g m vals kbs bks){b:List UInt8}{p:Int}{s:Option Int}(S:FN w 3 (.ref 476) [.ref (lI g),.bytes b] σ (iU s) σ):FN w 4 (.ref 484) [.ref (lI g),.bytes b,.int p] σ (iU s) σ:=by
 have hi:=M.hi2;have hd:=M.hd;refine eQ (Dom.refl σ) (by k_is) (by k_is) ["self","key","processor"] [("processor",.int p),("key",.bytes b),("self",.ref (lI g))] rfl (by intro s vs X;revert vs;exact qM fun _ _ _=>by refine Bv rfl (X _ _ (by k_is)) rfl rfl rfl) (fun A base outer g' mg mb L=>?_)
 cases s with
 |some s=>
  replace S:FN w 3 (.ref 476) [.ref (lI g),.bytes b] σ (.int s) σ:=S;apply Af;apply aB
  ·rfl'
  apply aB
  ·apply aP
   ·apply EB.cast
    ·rfl'
    ·rfl
   ·rfl'
  ·show SS _ _ _ _ (.ret (.int s)) _ _;rfl'
 |none=>
  replace S:FN w 3 (.ref 476) [.ref (lI g),.bytes b] σ .none σ:=S;apply Af;apply aB
  ·rfl'
  k_extra"iff"
  show SS _ _ _ _ (.ret .none) _ _;rfl'
noncomputable def fW(most:Int)(kbs:List (Int×List UInt8)):Option Int:=(upI 0 most).find? fun s=>!(aL kbs s).isSome
theorem vD(M:MapH σ g m vals kbs bks)(hm:0<=m.most/\m.most<=100):FN w 1 (.ref 505) [.ref (lI g)] σ (iU (fW m.most kbs)) σ:=by
 have hi:=M.hi2;have hd:=M.hd;have hh:=M.kh;have hK:=M.hK;refine aS (Dom.refl σ) (by k_is) (by k_is) ["self"] [("self",.ref (lI g))] rfl (fun s=>eA fun _=>Ah rfl) (fun A base outer g' mg mb L=>?_);unfold fW
 cases hf:(upI 0 m.most).find? fun s=>!(aL kbs s).isSome with
 |some s=>
  apply Af;apply aQ;apply uI (α:=Int) .int (fun s=>!(aL kbs s).isSome) hf
  ·apply dM
   ·rfl'
   ·rfl'
   ·exact⟨ige hm.1,ile hm.2⟩
   all_goals exact rfl
  ·trivial
  ·intro s2 g2 hs2 hp;apply SS.weak
   ·apply aB
    ·apply aD
     ·apply EB.cast
      ·rfl'
      ·rw[vH];exact hp
     ·rfl'
    ·rfl'
   ·rfl'
  ·intro g2;have hp:=Cr hf;apply aQ;apply aP
   ·apply EB.cast
    ·rfl'
    ·rw[vH];exact hp
   ·rfl'
  all_goals first|exact rfl|exact fun _ h=>h
 |none=>
  apply Af;apply aB
  ·apply rT (α:=Int) .int
   ·apply dM
    ·rfl'
    ·rfl'
    ·exact⟨ige hm.1,ile hm.2⟩
    all_goals exact rfl
   ·trivial
   ·intro s2 g2 hs2;have hp:=Dm.mp hf s2 hs2;apply SS.weak
    ·apply aB
     ·apply aD
      ·apply EB.cast
       ·rfl'
       ·rw[vH];exact Bool.eq_false_iff.mpr hp
      ·rfl'
     ·rfl'
    ·rfl'
   all_goals first|exact rfl|exact fun _ h=>h
  ·show SS _ _ _ _ (.ret .none) _ _;rfl'
theorem aLo(M:MapH σ g m vals kbs bks)(hm:0<=m.most/\m.most<=100):FN w 2 (.ref 512) [.ref (lI g)] σ (iU (fW m.most kbs)) σ:=by
 k_with"f"=>apply vD;assumption;assumption
 have hi:=M.hi2;have hd:=M.hd;refine aS (Dom.refl σ) (by k_is) (by k_is) ["self"] [("self",.ref (lI g))] rfl (fun s=>eA fun _=>Ah rfl) (fun A base outer g' mg mb L=>?_);apply Af;rfl'
theorem aMa(M:MapH σ g m vals kbs bks){b:List UInt8}{s:Int}(hn:aL kbs s=none)(hz:kbs.length<=100)(hb:∀l∈bks,l.length<=100):
  FN w 3 (.ref 527) [.ref (lI g),.bytes b,.int s] σ .none (upd (upd σ (lK g) (.idict ((vput kbs s b).map fun p=>(p.1,.bytes p.2)))) (lb g (bix bks b)) (.list ((s::bks.getD (bix bks b).toNat []).map .int))):=by
 have hi:=M.hi2;have hd:=M.hd;have hh:=M.kh;have hK:=M.hK;have M1:=M.keysTo (vput kbs s b);have S:FN w 2 (.ref 469) [.ref (lI g),.bytes b] (upd σ (lK g) (.idict ((vput kbs s b).map fun p=>(p.1,.bytes p.2)))) (.ref (lb g (bix bks b))) (upd σ (lK g) (.idict ((vput kbs s b).map fun p=>(p.1,.bytes p.2)))):=nJ M1;rw[<-dpm (f:=fun p=>Sh.bytes p.2) hn] at S;obtain⟨l,hl,hbl⟩:=M.bucket b;have hll:(l.map Sh.int).length<=1000:=by
  rw[Ag];have:=hb l (Bd hl);exact nle this
 have hkz:(kbs.map fun p=>(p.1,Sh.bytes p.2)).length<=1000:=by rw[Ag];exact nle hz
 refine gK (Dom.trans Dom.upd Dom.upd) (by k_is) (by k_is) ["self","key","slot"] [("slot",.int s),("key",.bytes b),("self",.ref (lI g))] rfl (fun s=>qM fun _ _ _=>Ah rfl) (fun A base outer g' mg mb L=>?_);apply Af;apply SS.cast
 ·rfl'
 ·rfl
 ·rw[<-dpm (f:=fun p=>Sh.bytes p.2) hn,Ay,hl];rfl
section
variable{K α:Type}[DecidableEq K]{l:List (K×α)}{k k':K}{x:α}
theorem wZ(h:aL l k=none):vput l k x=l++[(k,x)]:=by unfold vput;rw[h];rfl
theorem lE(h:aL l k=none):aL (l++[(k,x)]) k'=if k'=k then some x else aL l k':=by
 unfold aL;rw[List.find?_append,List.find?_singleton];by_cases e:k'=k
 ·subst e;rw[tV h,if_pos rfl];simp
 ·rw[if_neg e,if_neg (by simpa using Bw e),Option.or_none]
theorem iZ:aL (vput l k x) k'=if k'=k then some x else aL l k':=by
 cases h:aL l k with
 |none=>rw[wZ h];exact lE h
 |some y=>
  unfold vput;rw[h];show aL (l.map fun p=>if p.1=k then(p.1,x) else p) k'=_
  unfold aL;rw[Nk,Option.map_map];have e1:((fun p:K×α=>decide (p.1=k'))∘fun p=>if p.1=k then(p.1,x) else p)=fun p=>decide (p.1=k'):=by
   funext p;simp only[Mx];split <;> rfl
  rw[e1];by_cases e:k'=k
  ·subst e;rw[aCr h,if_pos rfl];simp
  ·rw[if_neg e]
   cases q:l.find? fun p=>decide (p.1=k') with
   |none=>rfl
   |some p=>
    have:p.1=k':=by simpa using Cr q
    simp[this,e]
theorem qB(h:aL (vput l k x) k'=none):k'≠k:=fun e=>by rw[iZ,if_pos e] at h;cases h
end
noncomputable def iW(m:MC)(vals kbs:List (Int×List UInt8))(bks:List (List Int))(b o:List UInt8)(flags:Int):Int×List (Int×List UInt8)×List (Int×List UInt8)×List (List Int):=
 if bC flags (hpeer kbs bks b).isSome≠0 then(bC flags (hpeer kbs bks b).isSome,vals,kbs,bks) else
 match hpeer kbs bks b with
 |some s=>(0,vput vals s o,kbs,bks)
 |none=>match fW m.most kbs with
  |none=>(-7,vals,kbs,bks)
  |some s=>(0,vput vals s o,vput kbs s b,bks.set (bix bks b).toNat (s::bks.getD (bix bks b).toNat []))
theorem aAn(M:MapH σ g m vals kbs bks){b o:List UInt8}{p:Int}(hz:(b.length:Int)=m.kw)(hw:m.kw<=600)(hoz:(o.length:Int)=m.vw)(how:m.vw<=600)(hin:∀l∈bks,∀s∈l,∃k,aL kbs s=some k)
  (hm:0<=m.most/\m.most<=100)(hkz:kbs.length<=100)(hvz:vals.length<=100)(hbz:∀l∈bks,l.length<=100)(hfree:∀s,0<=s->s<100->aL vals s=none->σ (lo g s)=none)(hlen:∀s x,aL vals s=some x->x.length=o.length)(hsl:∀s k,aL kbs s=some k->0<=s/\s<100):
  ∃σ',FN w 5 (.ref 520) [.ref (lI g),.bytes b,.bytes o,.int flags,.int p] σ (.int (iW m vals kbs bks b o flags).1) σ'/\MapH σ' g m (iW m vals kbs bks b o flags).2.1 (iW m vals kbs bks b o flags).2.2.1 (iW m vals kbs bks b o flags).2.2.2/\Only g σ σ'/\∀t,aL (iW m vals kbs bks b o flags).2.1 t=none->σ' (lo g t)=σ (lo g t):=by
 have B:=M.toMapB;have hi:=M.hi2;have hd:=M.hd;have P:=jG (w:=w) M hz hw hin;by_cases hfl:bC flags (hpeer kbs bks b).isSome=0
 ·cases hp:hpeer kbs bks b with
  |some s=>
   rw[hp] at P hfl;replace P:FN w 3 (.ref 476) [.ref (lI g),.bytes b] σ (.int s) σ:=P;have eu:iW m vals kbs bks b o flags=(0,vput vals s o,kbs,bks):=by unfold iW;rw[hp,hfl];rfl
   rw[eu];have lay:∃σ',FN w 1 (.ref 264) [.ref (lI g),.int s,.bytes o] σ .none σ'/\MapH σ' g m (vput vals s o) kbs bks/\Only g σ σ'/\∀t,aL (vput vals s o) t=none->σ' (lo g t)=σ (lo g t):=by
    obtain⟨k,hk⟩:∃k,aL kbs s=some k:=by
     have:=Cr hp;exact⟨b,by simpa using this⟩
    have hs:=hsl s k hk
    cases hv:aL vals s with
    |some x=>exact⟨_,kR B hv (hlen s x hv).symm (by have:=hlen s x hv;exact z88 hoz how this),M.old (by rw[hv];rfl),Only.refl.upd (eU (by exact⟨hs.1,ilt hs.2⟩)),fun t ht=>upd_ne (jE (qB ht))⟩
    |none=>exact⟨_,qP B hv (hfree s hs.1 hs.2 hv) (by exact cle (hM hoz how)) (by exact nle hvz),M.new hs,(Only.refl.upd (eU (by exact⟨hs.1,ilt hs.2⟩))).upd eV,fun t ht=>(upd_ne (aA rfl)).trans (upd_ne (jE (qB ht)))⟩
   obtain⟨σ',F,M',O,Z⟩:=lay;have hi':=M'.hi2;have hd':=M'.hd;refine⟨σ',?_,M',O,Z⟩;refine eQ F.dom (by k_is) (by k_is) ["self","key","octets","flags","processor"] [("processor",.int p),("flags",.int flags),("octets",.bytes o),("key",.bytes b),("self",.ref (lI g))] rfl (by intro s vs X;revert vs;exact sT fun _ _ _ _ _=>by refine Bv rfl (X _ _ (by k_is)) rfl rfl rfl) (fun A base outer g' mg mb L=>?_);apply Af;apply aB
   ·rfl'
   apply aB
   ·rfl'
   apply aB
   ·apply aD
    ·apply EB.cast
     ·rfl'
     ·have h2:bC flags (!fS (.int s))=0:=hfl;rw[h2];rfl
    ·rfl'
   apply aB
   ·apply aD
    ·apply EB.cast
     ·rfl'
     ·rfl
    ·rfl'
   rfl'
  |none=>
   rw[hp] at P hfl;replace P:FN w 3 (.ref 476) [.ref (lI g),.bytes b] σ .none σ:=P;have R:=aLo (w:=w) M hm
   cases hf:fW m.most kbs with
   |none=>
    rw[hf] at R;replace R:FN w 2 (.ref 512) [.ref (lI g)] σ .none σ:=R;have eu:iW m vals kbs bks b o flags=(-7,vals,kbs,bks):=by unfold iW;rw[hp,hfl,hf];rfl
    rw[eu];refine⟨σ,?_,M,Only.refl,fun _ _=>rfl⟩;refine eQ (Dom.refl σ) (by k_is) (by k_is) ["self","key","octets","flags","processor"] [("processor",.int p),("flags",.int flags),("octets",.bytes o),("key",.bytes b),("self",.ref (lI g))] rfl (by intro s vs X;revert vs;exact sT fun _ _ _ _ _=>by refine Bv rfl (X _ _ (by k_is)) rfl rfl rfl) (fun A base outer g' mg mb L=>?_);apply Af;apply SS.cast
    ·apply aB
     ·rfl'
     apply aB
     ·rfl'
     apply aB
     ·apply aD
      ·apply EB.cast
       ·rfl'
       ·have h2:bC flags (!fS .none)=0:=hfl;rw[h2];rfl
      ·rfl'
     apply aQ;apply aP
     ·apply EB.cast
      ·rfl'
      ·rfl
     apply aB
     ·rfl'
     apply aQ;apply aP
     ·apply EB.cast
      ·rfl'
      ·rfl
     rfl'
    ·rfl
    ·rfl
   |some s=>
    rw[hf] at R;replace R:FN w 2 (.ref 512) [.ref (lI g)] σ (.int s) σ:=R;have eu:iW m vals kbs bks b o flags=(0,vput vals s o,vput kbs s b,bks.set (bix bks b).toNat (s::bks.getD (bix bks b).toNat [])):=by unfold iW;rw[hp,hfl,hf];rfl
    rw[eu];have hs:0<=s/\s<m.most:=bJ.mp (By hf);have hns:aL kbs s=none:=by have:=Cr hf;simpa using this
    have K:=aMa (w:=w) M (b:=b) hns hkz hbz;have hbi:=vT M b;have M1:=(M.keysTo (vput kbs s b)).bucketTo hbi.1 hbi.2 (s::bks.getD (bix bks b).toNat []);have O1:Only g σ _:=((Only.refl (g:=g) (σ:=σ)).upd jZ (o:=.idict ((vput kbs s b).map fun p=>(p.1,.bytes p.2)))).upd (lL (g:=g) (i:=bix bks b) (by have:=M.len;exact z90 hbi this)) (o:=.list ((s::bks.getD (bix bks b).toNat []).map .int));have h1:∀s',0<=s'->s'<100->aL vals s'=none->upd (upd σ (lK g) (.idict ((vput kbs s b).map fun p=>(p.1,.bytes p.2)))) (lb g (bix bks b)) (.list ((s::bks.getD (bix bks b).toNat []).map .int)) (lo g s')=none:=fun s' h0 h1 h=>(upd_ne (aA rfl)).trans ((upd_ne (aA rfl)).trans (hfree s' h0 h1 h));have z1:∀t,upd (upd σ (lK g) (.idict ((vput kbs s b).map fun p=>(p.1,.bytes p.2)))) (lb g (bix bks b)) (.list ((s::bks.getD (bix bks b).toNat []).map .int)) (lo g t)=σ (lo g t):=fun t=>(upd_ne (aA rfl)).trans (upd_ne (aA rfl));generalize upd (upd σ (lK g) (.idict ((vput kbs s b).map fun p=>(p.1,.bytes p.2)))) (lb g (bix bks b)) (.list ((s::bks.getD (bix bks b).toNat []).map .int))=σ1 at K M1 O1 h1 z1;have B1:=M1.toMapB;have hi1:=M1.hi2;have hd1:=M1.hd;have lay:∃σ',FN w 1 (.ref 264) [.ref (lI g),.int s,.bytes o] σ1 .none σ'/\MapH σ' g m (vput vals s o) (vput kbs s b) (bks.set (bix bks b).toNat (s::bks.getD (bix bks b).toNat []))/\Only g σ1 σ'/\∀t,aL (vput vals s o) t=none->σ' (lo g t)=σ1 (lo g t):=by
     cases hv:aL vals s with
     |some x=>exact⟨_,kR B1 hv (hlen s x hv).symm (by have:=hlen s x hv;exact z88 hoz how this),M1.old (by rw[hv];rfl),Only.refl.upd (eU (by exact⟨hs.1,ilt (Am hs.2 hm.2)⟩)),fun t ht=>upd_ne (jE (qB ht))⟩
     |none=>exact⟨_,qP B1 hv (h1 s hs.1 (by exact Am hs.2 hm.2) hv) (by exact cle (hM hoz how)) (by exact nle hvz),M1.new (by exact⟨hs.1,Am hs.2 hm.2⟩),(Only.refl.upd (eU (by exact⟨hs.1,ilt (Am hs.2 hm.2)⟩))).upd eV,fun t ht=>(upd_ne (aA rfl)).trans (upd_ne (jE (qB ht)))⟩
    obtain⟨σ',F,M',O,Z⟩:=lay;have hi':=M'.hi2;have hd':=M'.hd;refine⟨σ',?_,M',O1.trans O,fun t ht=>(Z t ht).trans (z1 t)⟩;refine eQ (Dom.trans K.dom F.dom) (by k_is) (by k_is) ["self","key","octets","flags","processor"] [("processor",.int p),("flags",.int flags),("octets",.bytes o),("key",.bytes b),("self",.ref (lI g))] rfl (by intro s vs X;revert vs;exact sT fun _ _ _ _ _=>by refine Bv rfl (X _ _ (by k_is)) rfl rfl rfl) (fun A base outer g' mg mb L=>?_);apply Af;apply aB
    ·rfl'
    apply aB
    ·rfl'
    apply aB
    ·apply aD
     ·apply EB.cast
      ·rfl'
      ·have h2:bC flags (!fS .none)=0:=hfl;rw[h2];rfl
     ·rfl'
    apply aB
    ·apply aP
     ·apply EB.cast
      ·rfl'
      ·rfl
     apply aB
     ·rfl'
     apply aB
     ·apply aD
      ·apply EB.cast
       ·rfl'
       ·rfl
      ·rfl'
     rfl'
    rfl'
 ·have eu:iW m vals kbs bks b o flags=(bC flags (hpeer kbs bks b).isSome,vals,kbs,bks):=by unfold iW;rw[if_pos hfl]
  rw[eu];refine⟨σ,?_,M,Only.refl,fun _ _=>rfl⟩;have en:(hpeer kbs bks b).isSome = !fS (iU (hpeer kbs bks b)):=by cases hpeer kbs bks b <;> rfl
  rw[en] at hfl ⊢;have hnc:aHh (iU (hpeer kbs bks b))=true:=by cases hpeer kbs bks b <;> rfl
  generalize iU (hpeer kbs bks b)=x at*;refine eQ (Dom.refl σ) (by k_is) (by k_is) ["self","key","octets","flags","processor"] [("processor",.int p),("flags",.int flags),("octets",.bytes o),("key",.bytes b),("self",.ref (lI g))] rfl (by intro s vs X;revert vs;exact sT fun _ _ _ _ _=>by refine Bv rfl (X _ _ (by k_is)) rfl rfl rfl) (fun A base outer g' mg mb L=>?_);apply Af;apply aB
  ·rfl'
  apply aB
  ·rfl'
  apply aQ;apply aP
  ·apply EB.cast
   ·rfl'
   ·simpa using hfl
  rfl'
theorem aDv(M:MapH σ g m vals kbs bks){b:List UInt8}{s:Int}(hs:aL kbs s=some b)(hk:s∈bks.getD (bix bks b).toNat [])(hz:kbs.length<=100)(hb:∀l∈bks,l.length<=100):
  FN w 3 (.ref 534) [.ref (lI g),.int s] σ (.bytes b) (upd (upd σ (lK g) (.idict ((jX kbs s).map fun p=>(p.1,.bytes p.2)))) (lb g (bix bks b)) (.list (((bks.getD (bix bks b).toNat []).erase s).map .int))):=by
 have hi:=M.hi2;have hd:=M.hd;have hh:=M.kh;have hK:=M.hK;have M1:=M.keysTo (jX kbs s);have S:FN w 2 (.ref 469) [.ref (lI g),.bytes b] (upd σ (lK g) (.idict ((jX kbs s).map fun p=>(p.1,.bytes p.2)))) (.ref (lb g (bix bks b))) (upd σ (lK g) (.idict ((jX kbs s).map fun p=>(p.1,.bytes p.2)))):=nJ M1;rw[<-ddm (f:=fun p=>Sh.bytes p.2)] at S;obtain⟨l,hl,hbl⟩:=M.bucket b;have el:bks.getD (bix bks b).toNat []=l:=by rw[Ay,hl];rfl
 rw[el] at hk ⊢;have hll:l.length<=1000:=by
  have:=hb l (Bd hl);exact nle this
 have hkz:(kbs.map fun p=>(p.1,Sh.bytes p.2)).length<=1000:=by rw[Ag];exact nle hz
 refine aS (Dom.trans Dom.upd Dom.upd) (by k_is) (by k_is) ["self","slot"] [("slot",.int s),("self",.ref (lI g))] rfl (fun s=>cF fun _ _=>Ah rfl) (fun A base outer g' mg mb L=>?_);apply Af;apply SS.cast
 ·apply aB
  ·apply dJ (sh:=.bytes b)
   ·apply aOb
    ·rfl'
    ·rfl'
    ·rfl'
    ·apply aBu
     ·rfl'
     ·rfl'
     ·exact hkz
     ·exact fun h=>h
    ac_rfl
   all_goals first|exact rfl|decide +kernel
  apply aB
  ·apply eX
   ·apply rY
    ·k_extra"e"
     rfl'
    ·rfl'
    ·rfl'
    ·apply aOf
     ·rfl'
     ·exact hk
     ·exact hll
     ·exact fun h=>h
    ac_rfl
   all_goals exact rfl
  rfl'
 ·rfl
 ·rw[<-ddm (f:=fun p=>Sh.bytes p.2)]
noncomputable def yD(vals kbs:List (Int×List UInt8))(bks:List (List Int))(b:List UInt8):Int×List (Int×List UInt8)×List (List Int):=match hpeer kbs bks b with
 |none=>(-2,kbs,bks)
 |some s=>(0,jX kbs s,bks.set (bix bks b).toNat ((bks.getD (bix bks b).toNat []).erase s))
theorem aAs(M:MapH σ g m vals kbs bks){b:List UInt8}(hz:(b.length:Int)=m.kw)(hw:m.kw<=600)(hin:∀l∈bks,∀s∈l,∃k,aL kbs s=some k)(hkz:kbs.length<=100)(hbz:∀l∈bks,l.length<=100):
  ∃σ',FN w 5 (.ref 541) [.ref (lI g),.bytes b] σ (.int (yD vals kbs bks b).1) σ'/\MapH σ' g m vals (yD vals kbs bks b).2.1 (yD vals kbs bks b).2.2/\Only g σ σ'/\∀t,σ' (lo g t)=σ (lo g t):=by
 have hi:=M.hi2;have hd:=M.hd;have P:=jG (w:=w) M hz hw hin;unfold yD
 cases hp:hpeer kbs bks b with
 |none=>
  rw[hp] at P;replace P:FN w 3 (.ref 476) [.ref (lI g),.bytes b] σ .none σ:=P;refine⟨σ,?_,M,Only.refl,fun _=>rfl⟩;refine aS (Dom.refl σ) (by k_is) (by k_is) ["self","key"] [("key",.bytes b),("self",.ref (lI g))] rfl (fun s=>cF fun _ _=>Ah rfl) (fun A base outer g' mg mb L=>?_);apply Af;apply SS.cast
  ·apply aB
   ·rfl'
   apply aQ;apply aP
   ·apply EB.cast
    ·rfl'
    ·rfl
   rfl'
  ·rfl
  ·rfl
 |some s=>
  rw[hp] at P;replace P:FN w 3 (.ref 476) [.ref (lI g),.bytes b] σ (.int s) σ:=P;have hs:aL kbs s=some b:=by have:=Cr hp;simpa using this
  have hms:s∈bks.getD (bix bks b).toNat []:=By hp;have U:=aDv (w:=w) M hs hms hkz hbz;have hbi:=vT M b;have M1:=(M.keysTo (jX kbs s)).bucketTo hbi.1 hbi.2 ((bks.getD (bix bks b).toNat []).erase s);have O1:Only g σ _:=((Only.refl (g:=g) (σ:=σ)).upd jZ (o:=.idict ((jX kbs s).map fun p=>(p.1,.bytes p.2)))).upd (lL (g:=g) (i:=bix bks b) (by have:=M.len;exact z90 hbi this)) (o:=.list (((bks.getD (bix bks b).toNat []).erase s).map .int));refine⟨_,?_,M1,O1,fun t=>(upd_ne (aA rfl)).trans (upd_ne (aA rfl))⟩;refine aS U.dom (by k_is) (by k_is) ["self","key"] [("key",.bytes b),("self",.ref (lI g))] rfl (fun s=>cF fun _ _=>Ah rfl) (fun A base outer g' mg mb L=>?_);apply Af;apply aB
  ·rfl'
  apply aB
  ·apply aD
   ·apply EB.cast
    ·rfl'
    ·rfl
   ·rfl'
  rfl'
theorem dE:∀{l:List (List UInt8)},SAll D (l.map .bytes)
 | []=>.nil
 |_::_=>.cons (.bytes _) dE
theorem aIa(M:MapH σ g m vals kbs bks)(nd:(kbs.map (·.1)).Nodup)(hz:kbs.length<=50)(n:Lbl)(hn:σ n=none):FN w 1 (.ref 546) [.ref (lI g)] σ (.ref n) (upd σ n (.list ((cL (kbs.map (·.2))).map .bytes))):=by
 refine FN.fresh2 n Dom.upd fun k hk=>?_;obtain⟨h0,hne⟩:=hk k (Az _);have hi:=M.hi2;have hd:=M.hd;have hh:=M.kh;have hK:=M.hK;have hkk:σ (lK g)≠none:=by rw[hK];exact fun z=>by cases z
 refine cM Dom.upd (by k_is) (by k_is) ["self"] [("self",.ref (lI g))] rfl (fun s=>eA fun _=>Ah rfl) (by decide) (dA _) (dH (by decide +kernel)) (fun A base outer g' mg mb L=>?_);apply Af;apply aQ;apply bU;apply EV.drop (L:=Less.under (s:=(0,k)) (n:=n) (B:=.list ((cL (kbs.map (·.2))).map .bytes)) h0 dE) (k:=.ref n (by show upd _ _ _ _≠_;rw[aC];exact fun z=>by cases z));apply aM
 ·k_extra"e"
 ·k_extra"e"
 ·apply aJ
  ·apply iD (α:=Int×List UInt8) (xs:=kbs) (fun p=>.int p.1) (fun p=>.bytes p.2) (0,k)
   ·apply ItE.of
    ·k_extra"e"
     rfl'
    ·exact pJ (f:=fun p=>.bytes p.2) hK
   ·apply LcOk.one
    ·exact rfl
    ·exact rfl
    ·rfl'
    ·exact fun _=>rfl
    ·decide +kernel
    ·decide
   ·exact hkk
   ·exact h0
   ·intro a g2 C ha;have ha:=bP nd ha;rfl'
   ·exact fun _ h=>h.elim
   ·exact nle hz
  ·rfl'
  ac_rfl
 ·apply cG (bs:=kbs.map (·.2)) n
  ·rw[aC,Bq];rfl
  ·rw[Ag];exact nle hz
  ·rw[upd_ne (Bw hne)];exact hn
 ac_rfl
theorem xY(M:MapH σ g m vals kbs bks)(hb:∀l∈bks,l.length<=100)(n:Lbl)(hn:σ n=none):FN w 1 (.ref 553) [.ref (lI g)] σ (.ref n) (upd σ n (.list (bks.flatten.map .int))):=by
 have hi:=M.hi2;have hd:=M.hd;have hh:=M.kh;have hB:=M.hB;have hlen:=M.len;have nI:lI g≠n:=fun e=>by rw[e,hn] at hi;cases hi
 have nD:lD g≠n:=fun e=>by rw[e,hn] at hd;cases hd
 have ne:∀{l:Lbl} {o:Ob},σ l=some o->∀(z:List Int),upd σ n (.list (z.map .int)) l=some o:=fun {l o} h z=>(upd_ne (fun e=>by rw[e,hn] at h;cases h)).trans h;refine aS Dom.upd (by k_is) (by k_is) ["self"] [("self",.ref (lI g))] rfl (fun s=>eA fun _=>Ah rfl) (fun A base outer g' mg mb L=>?_);apply Af;apply SS.cast
 ·apply aB
  ·apply SS.cast (σ2:=upd σ n (.list (([]:List Int).map .int)))
   ·apply dJ (sh:=.ref n)
    ·apply dN
     ·rfl'
     ·decide
     ·exact hn
    all_goals first|exact rfl|decide +kernel
   ·rfl
   ·rfl
  apply aB
  ·apply nN (α:=Int) (xs:=upI 0 bks.length) (Z:=List Int) (fun i=>.ref (lb g i)) (fun _=>[("found",.ref n),("self",.ref (lI g))]) (fun z=>upd σ n (.list (z.map .int))) (fun z i=>z++bks.getD i.toNat []) (fun i z=>i<=8/\z.length<=100*i) []
   ·apply ItE.of
    ·k_extra"e"
     rfl'
    ·exact cW (ne hB [])
   ·rfl
   ·exact⟨by decide,by simp⟩
   ·exact fun _ z _=>ne hB z
   ·intro i z a hz ha;have ha1:=(As.mp ha).1;rw[aU] at ha1;have:(bks.getD a.toNat []).length<=100:=by
     cases e:bks[a.toNat]? with
     |none=>rw[Ay,e];simp
     |some l=>rw[Ay,e];exact hb l (Bd e)
    rw[Cz];exact z91 hlen hz ha1 this
   ·intro i z a g2 hz ha;have ha0:=bJ.mp (Bd ha);have hl:a.toNat<bks.length:=by exact aGu ha0.1 ha0.2
    have e:bks.getD a.toNat []=bks[a.toNat]:=by rw[Ay,Ba hl];rfl
    have hbk:=ne (M.hbk a bks[a.toNat] ha0.1 (Ba hl)) z;have hbl:=hb bks[a.toNat] (Mk hl);have hz1:(z.map Sh.int).length<=1000:=by rw[Ag];exact z92 hz hl
    have hz2:(bks[a.toNat].map Sh.int).length<=1000:=by rw[Ag];exact nle hbl
    rw[e];apply SS.weak
    ·apply SS.cast
     ·apply aB
      ·apply eX
       ·apply rZ
        ·k_extra"e"
         rfl'
        ·exact aC
        ·rfl'
        ·apply zN
         ·exact aC
         ·exact hbk
         ·exact hz1
         ·exact hz2
         ·exact fun h=>h
        ac_rfl
       all_goals exact rfl
      rfl'
     ·rfl
     ·rw[aX,<-Dg]
    ·rfl'
   all_goals first|exact rfl|exact fun _ h=>h
  rfl'
 ·rfl
 ·rw[aAu]
noncomputable def yB(kbs:List (Int×List UInt8))(bks:List (List Int)):Option (List UInt8)->Nat
 |none=>0
 |some b=>match hpeer kbs bks b with
  |none=>0
  |some s=>bks.flatten.idxOf s+1
noncomputable def hnext(kbs:List (Int×List UInt8))(bks:List (List Int))(k:Option (List UInt8)):Option (List UInt8):=(bks.flatten[yB kbs bks k]?).bind (aL kbs)
noncomputable def iV:Option (List UInt8)->Sh
 |some b=>.bytes b
 |none=>.none
theorem aPa{g:Gn}{k:Int}:¬own g (0,k):=fun h=>by
 rcases h with⟨h|h|h,_⟩| ⟨h|h,_⟩| ⟨h|h,_⟩ <;> cases h
theorem aHz(M:MapH σ g m vals kbs bks){kk:Option (List UInt8)}(hz:∀b,kk=some b->(b.length:Int)=m.kw)(hw:m.kw<=600)(hin:∀l∈bks,∀s∈l,∃k,aL kbs s=some k)(hb:∀l∈bks,l.length<=100)(hf:bks.flatten.length<=100):
  FN w 4 (.ref 560) [.ref (lI g),iV kk] σ (iV (hnext kbs bks kk)) σ:=by
 refine FN.fresh (Dom.refl σ) fun k hk=>?_;have h0:=hk k (Az _);have O:=xY (w:=w) M hb (0,k) h0;have M1:MapH (upd σ (0,k) (.list (bks.flatten.map .int))) g m vals kbs bks:=M.frame fun l hl=>upd_ne fun e=>aPa (e▸hl);have D:Dom σ (upd σ (0,k) (.list (bks.flatten.map .int))):=Dom.upd;have Le:=Less.one (n:=((0,k):Lbl)) (o:=.list (bks.flatten.map .int)) h0;have hn:upd σ (0,k) (.list (bks.flatten.map .int)) (0,k)=some (.list (bks.flatten.map .int)):=aC;have hi0:=M.hi2;have hd0:=M.hd;have hi:=M1.hi2;have hd:=M1.hd;have hh:=M1.kh;have hK:=M1.hK;have hfz:(bks.flatten.map Sh.int).length<=1000:=by rw[Ag];exact nle hf
 generalize upd σ (0,k) (.list (bks.flatten.map .int))=σ1 at*;have fin:∀(i:Nat) s,bks.flatten[i]? = some s->∃b,aL kbs s=some b/\(bks.flatten.map Sh.int)[((i:Int)).toNat]? = some (.int s)/\decide ((i:Int)< ((bks.flatten.map Sh.int).length:Int))=true:=fun i s e=>by
  obtain⟨l,hl,hs⟩:=List.mem_flatten.mp (Bd e);obtain⟨b,hb⟩:=hin l hl s hs;refine⟨b,hb,by rw[Dq,Ci,e];rfl,decide_eq_true ?_⟩;have:=(As.mp e).1;rw[Ag];exact Df.mpr this
 have fin0:∀(i:Nat),bks.flatten[i]? = none->decide ((i:Int)< ((bks.flatten.map Sh.int).length:Int))=false:=fun i e=>by
  have:=Cm.mp e;rw[Ag];exact decide_eq_false (by exact Eg.mpr (Ct.mpr this))
 refine FN.drop (σ1:=σ1) ?_ Le (by cases hnext kbs bks kk with|none=>exact .none|some b=>exact .bytes b)
 cases kk with
 |none=>
  refine aS D (by k_is) (by k_is) ["self","key"] [("key",.none),("self",.ref (lI g))] rfl (fun s=>cF fun _ _=>Ah rfl) (fun A base outer g' mg mb L=>?_);show∃ms',SS _ _ _ _ (.ret (iV ((bks.flatten[(0:Nat)]?).bind (aL kbs)))) ms' _;apply Af;apply aB
  ·rfl'
  apply aB
  ·apply dJ
   ·apply bK
    ·apply EB.cast
     ·rfl'
     ·rfl
    ·rfl'
   all_goals first|exact rfl|decide +kernel
  apply aB
  ·apply dJ
   ·apply bK
    ·apply EB.cast
     ·rfl'
     ·rfl
    ·rfl'
   all_goals first|exact rfl|decide +kernel
  cases e:bks.flatten[0]? with
  |some s=>
   obtain⟨b,hb,e1,e2⟩:=fin 0 s e;show SS _ _ _ _ (.ret (iV (aL kbs s))) _ _;rw[hb];show SS _ _ _ _ (.ret (.bytes b)) _ _;apply aQ;apply bU;apply bK
   ·apply EB.cast
    ·rfl'
    ·exact e2
   ·rfl'
  |none=>
   show SS _ _ _ _ (.ret .none) _ _;apply aQ;apply bU;apply bE
   ·apply EB.cast
    ·rfl'
    ·exact fin0 0 e
   ·rfl'
 |some b=>
  have hz:=hz b rfl;have P:=jG (w:=w) M1 hz hw hin
  cases hp:hpeer kbs bks b with
  |none=>
   rw[hp] at P;replace P:FN w 3 (.ref 476) [.ref (lI g),.bytes b] σ1 .none σ1:=P;refine aS D (by k_is) (by k_is) ["self","key"] [("key",.bytes b),("self",.ref (lI g))] rfl (fun s=>cF fun _ _=>Ah rfl) (fun A base outer g' mg mb L=>?_);show∃ms',SS _ _ _ _ (.ret (iV ((bks.flatten[(match hpeer kbs bks b with|none=>0|some s=>bks.flatten.idxOf s+1)]?).bind (aL kbs)))) ms' _
   rw[hp];apply Af;apply aB
   ·rfl'
   apply aB
   ·apply dJ
    ·apply bE
     ·apply EB.cast
      ·rfl'
      ·rfl
     ·rfl'
    all_goals first|exact rfl|decide +kernel
   apply aB
   ·apply dJ
    ·apply bK
     ·apply EB.cast
      ·rfl'
      ·rfl
     ·rfl'
    all_goals first|exact rfl|decide +kernel
   cases e:bks.flatten[0]? with
   |some s=>
    obtain⟨b,hb,e1,e2⟩:=fin 0 s e;show SS _ _ _ _ (.ret (iV (aL kbs s))) _ _;rw[hb];show SS _ _ _ _ (.ret (.bytes b)) _ _;apply aQ;apply bU;apply bK
    ·apply EB.cast
     ·rfl'
     ·exact e2
    ·rfl'
   |none=>
    show SS _ _ _ _ (.ret .none) _ _;apply aQ;apply bU;apply bE
    ·apply EB.cast
     ·rfl'
     ·exact fin0 0 e
    ·rfl'
  |some s0=>
   rw[hp] at P;replace P:FN w 3 (.ref 476) [.ref (lI g),.bytes b] σ1 (.int s0) σ1:=P;have hm0:s0∈bks.flatten:=by
    refine List.mem_flatten.mpr ⟨_,?_,By hp⟩;obtain⟨l,hl,_⟩:=M1.bucket b;rw[Ay,hl];exact Bd hl
   refine aS D (by k_is) (by k_is) ["self","key"] [("key",.bytes b),("self",.ref (lI g))] rfl (fun s=>cF fun _ _=>Ah rfl) (fun A base outer g' mg mb L=>?_);show∃ms',SS _ _ _ _ (.ret (iV ((bks.flatten[(match hpeer kbs bks b with|none=>0|some s=>bks.flatten.idxOf s+1)]?).bind (aL kbs)))) ms' _
   rw[hp];apply Af;apply aB
   ·rfl'
   apply aB
   ·apply dJ
    ·apply bE
     ·apply EB.cast
      ·rfl'
      ·rfl
     ·rfl'
    all_goals first|exact rfl|decide +kernel
   apply aB
   ·apply dJ (sh:=.int ((bks.flatten.idxOf s0+1:Nat):Int))
    ·apply bE
     ·apply EB.cast
      ·rfl'
      ·rfl
     ·apply EV.cast
      ·apply mS
       ·apply aGi
        ·k_extra"e"
         rfl'
        ·exact hn
        ·rfl'
        ·exact aOg hn hm0 (by exact nle hf)
        ac_rfl
       ·rfl'
       ·rfl'
      ·rfl
      ·rfl
    all_goals first|exact rfl|decide +kernel
   cases e:bks.flatten[bks.flatten.idxOf s0+1]? with
   |some s=>
    obtain⟨b,hb,e1,e2⟩:=fin _ s e;show SS _ _ _ _ (.ret (iV (aL kbs s))) _ _;rw[hb];show SS _ _ _ _ (.ret (.bytes b)) _ _;apply aQ;apply bU;apply bK
    ·apply EB.cast
     ·rfl'
     ·exact e2
    ·rfl'
   |none=>
    show SS _ _ _ _ (.ret .none) _ _;apply aQ;apply bU;apply bE
    ·apply EB.cast
     ·rfl'
     ·exact fin0 _ e
    ·rfl'
noncomputable def aFs(m:MC)(vals:List (Int×List UInt8))(b o:List UInt8)(flags p:Int):Int×List (Int×List UInt8):=
 if¬flags∈[0,1,2] then(-22,vals) else if¬cH b<m.most then(-7,vals) else if flags=1 then(-17,vals) else(0,vput vals (eS m.k (cH b) p) o)
theorem aBf(M:MapB σ g m vals)(hk:m.k≠.hsh){b o:List UInt8}{p:Int}(hz:(b.length:Int)=m.kw)(h4:m.kw=4)(hoz:(o.length:Int)=m.vw)(how:m.vw<=600)(hp0:0<=p)(hp1:p<4)
  (hall:cH b<m.most->∃x,aL vals (eS m.k (cH b) p)=some x/\x.length=o.length):
  ∃σ',FN w 5 (.ref 362) [.ref (lI g),.bytes b,.bytes o,.int flags,.int p] σ (.int (aFs m vals b o flags p).1) σ'/\MapB σ' g m (aFs m vals b o flags p).2/\Only g σ σ':=by
 have hi:=M.hi;have hd:=M.hd;have hn:=fG b;unfold aFs;by_cases h1:flags∈[0,1,2]
 ·rw[if_neg (not_not_intro h1)];by_cases h2:cH b<m.most
  ·rw[if_neg (not_not_intro h2)];have ei:idx m b=cH b:=if_pos h2;have I:FN w 2 (.ref 332) [.ref (lI g),.bytes b] σ (.int (cH b)) σ:=ei▸hH M hz h4;by_cases h3:flags=1
   ·rw[if_pos h3];refine⟨σ,?_,M,Only.refl⟩;refine eQ (Dom.refl σ) (by k_is) (by k_is) ["self","key","octets","flags","processor"] [("processor",.int p),("flags",.int flags),("octets",.bytes o),("key",.bytes b),("self",.ref (lI g))] rfl (by intro s vs X;revert vs;exact sT fun _ _ _ _ _=>by refine Bv rfl (X _ _ (by k_is)) rfl rfl rfl) (fun A base outer g' mg mb L=>?_);apply Af;apply SS.cast
    ·apply aB
     ·rfl'
     k_extra"iff"
     k_extra"iff"
     k_extra"ifr"
     rfl'
    ·rfl
    ·rfl
   ·rw[if_neg h3];obtain⟨x,hx,hxl⟩:=hall h2;have F:=kR (w:=w) M hx hxl.symm (by exact z88 hoz how hxl);have M':=M.old (b:=o) (s:=eS m.k (cH b) p) (by rw[hx];rfl);have hr:=M.rg _ (bL hx);have O:Only g σ (upd σ (lo g (eS m.k (cH b) p)) (.ba o)):=Only.refl.upd (eU (by dsimp only at hr;exact⟨hr.1,ilt hr.2⟩));refine⟨_,?_,M',O⟩;refine eQ Dom.upd (by k_is) (by k_is) ["self","key","octets","flags","processor"] [("processor",.int p),("flags",.int flags),("octets",.bytes o),("key",.bytes b),("self",.ref (lI g))] rfl (by intro s vs X;revert vs;exact sT fun _ _ _ _ _=>by refine Bv rfl (X _ _ (by k_is)) rfl rfl rfl) (fun A base outer g' mg mb L=>?_);apply Af;apply aB
    ·rfl'
    k_extra"iff"
    k_extra"iff"
    k_extra"iff"
    rfl'
  ·rw[if_pos h2];have ei:idx m b = -1:=if_neg h2;have I:FN w 2 (.ref 332) [.ref (lI g),.bytes b] σ (.int (-1)) σ:=ei▸hH M hz h4;refine⟨σ,?_,M,Only.refl⟩;refine eQ (Dom.refl σ) (by k_is) (by k_is) ["self","key","octets","flags","processor"] [("processor",.int p),("flags",.int flags),("octets",.bytes o),("key",.bytes b),("self",.ref (lI g))] rfl (by intro s vs X;revert vs;exact sT fun _ _ _ _ _=>by refine Bv rfl (X _ _ (by k_is)) rfl rfl rfl) (fun A base outer g' mg mb L=>?_);apply Af;apply SS.cast
   ·apply aB
    ·rfl'
    k_extra"iff"
    k_extra"ifr"
    rfl'
   ·rfl
   ·rfl
 ·rw[if_pos h1];refine⟨σ,?_,M,Only.refl⟩;refine eQ (Dom.refl σ) (by k_is) (by k_is) ["self","key","octets","flags","processor"] [("processor",.int p),("flags",.int flags),("octets",.bytes o),("key",.bytes b),("self",.ref (lI g))] rfl (by intro s vs X;revert vs;exact sT fun _ _ _ _ _=>by refine Bv rfl (X _ _ (by k_is)) rfl rfl rfl) (fun A base outer g' mg mb L=>?_);apply Af;apply SS.cast
  ·apply aB
   ·rfl'
   k_extra"ifr"
   rfl'
  ·rfl
  ·rfl
theorem aJz(M:MapB σ g m vals)(hm:0<=m.most/\m.most<=50)(n:Lbl)(hn:σ n=none):FN w 2 (.ref 374) [.ref (lI g)] σ (.ref n) (upd σ n (.list ((cL ((upI 0 m.most).map fun i=>fF i 4)).map .bytes))):=by
 refine FN.fresh2 n Dom.upd fun k hk=>?_;obtain⟨h0,hne⟩:=hk k (Az _);have hi:=M.hi;have hd:=M.hd;refine aS Dom.upd (by k_is) (by k_is) ["self"] [("self",.ref (lI g))] rfl (fun s=>eA fun _=>Ah rfl) (fun A base outer g' mg mb L=>?_);apply Af;apply aQ;apply bU;apply EV.drop (L:=Less.under (s:=(0,k)) (n:=n) (B:=.list ((cL ((upI 0 m.most).map fun i=>fF i 4)).map .bytes)) h0 dE) (k:=.ref n (by show upd _ _ _ _≠_;rw[aC];exact fun z=>by cases z));apply aM
 ·k_extra"e"
 ·k_extra"e"
 ·apply aJ
  ·apply iD (α:=Int) .int (fun i=>.bytes (fF i 4)) (0,k)
   ·apply dM
    ·rfl'
    ·rfl'
    ·exact⟨ige hm.1,ile hm.2⟩
    all_goals exact rfl
   ·apply LcOk.none
    ·exact rfl
    ·decide +kernel
   ·trivial
   ·exact h0
   ·intro a g2 C ha;rfl'
   ·exact fun _ h=>h.elim
   ·rw[aU];exact jB hm.2
  ·rfl'
  ac_rfl
 ·apply cG (bs:=(upI 0 m.most).map fun i=>fF i 4) n
  ·rw[aC,Bq];rfl
  ·rw[Ag,aU];exact jB hm.2
  ·rw[upd_ne (Bw hne)];exact hn
 ac_rfl
noncomputable def aix(m:MC):Option (List UInt8)->Int
 |none=>-1
 |some b=>idx m b
noncomputable def oP(m:MC)(kk:Option (List UInt8)):Option (List UInt8):=if aix m kk=m.most-1 then none else some (fF (aix m kk+1) 4)
theorem aJx(M:MapB σ g m vals)(hk:m.k≠.hsh){kk:Option (List UInt8)}(hz:∀b,kk=some b->(b.length:Int)=m.kw)(h4:m.kw=4):FN w 4 (.ref 381) [.ref (lI g),iV kk] σ (iV (oP m kk)) σ:=by
 have hi:=M.hi;have hd:=M.hd;have start:∃P:Prop,P:=⟨True,trivial⟩;clear start
 cases kk with
 |none=>
  unfold oP;refine aS (Dom.refl σ) (by k_is) (by k_is) ["self","key"] [("key",.none),("self",.ref (lI g))] rfl (fun s=>cF fun _ _=>Ah rfl) (fun A base outer g' mg mb L=>?_);apply Af;apply aB
  ·apply dJ (sh:=.int (aix m none))
   ·apply bK
    ·apply EB.cast
     ·rfl'
     ·rfl
    ·apply EV.cast
     ·rfl'
     ·rfl
     ·rfl
   all_goals first|exact rfl|decide +kernel
  by_cases h:aix m none=m.most-1
  ·rw[if_pos h];show SS _ _ _ _ (.ret .none) _ _
   k_extra"ifr"
   rfl'
  ·rw[if_neg h];show SS _ _ _ _ (.ret (.bytes _)) _ _
   k_extra"iff"
   rfl'
 |some b=>
  have hz:=hz b rfl;have I:=hH (w:=w) M hz h4;unfold oP;refine aS (Dom.refl σ) (by k_is) (by k_is) ["self","key"] [("key",.bytes b),("self",.ref (lI g))] rfl (fun s=>cF fun _ _=>Ah rfl) (fun A base outer g' mg mb L=>?_);apply Af;apply aB
  ·apply dJ (sh:=.int (aix m (some b)))
   ·apply bE
    ·apply EB.cast
     ·rfl'
     ·rfl
    ·apply EV.cast
     ·rfl'
     ·rfl
     ·rfl
   all_goals first|exact rfl|decide +kernel
  by_cases h:aix m (some b)=m.most-1
  ·rw[if_pos h];show SS _ _ _ _ (.ret .none) _ _
   k_extra"ifr"
   rfl'
  ·rw[if_neg h];show SS _ _ _ _ (.ret (.bytes _)) _ _
   k_extra"iff"
   rfl'
theorem jO{α:Type}{f:α->Sh}(h:∀a,SOk D (f a)):∀{l:List α},SAll D (l.map f)
 | []=>.nil
 |_::_=>.cons (h _) (jO h)
theorem Less.two{a b:Lbl}{A:Ob}(ha:σ a=none)(hb:σ b=none):Less σ (upd (upd σ a A) b B) σ:=
 ⟨fun l o e=>by rw[upd_ne (fun q=>by rw[q,hb] at e;cases e),upd_ne (fun q=>by rw[q,ha] at e;cases e)];exact e,Dom.refl _,fun l o e=>.inl e⟩
theorem aHe(M:MapB σ g m vals){ks:List (List UInt8)}{V:List UInt8->List UInt8}(hz:ks.length<=50)(K:∀n,σ n=none->FN w 4 (.ref m.k.keys) [.ref (lI g)] σ (.ref n) (upd σ n (.list (ks.map .bytes))))
  (W:∀n:Lbl,n.1=0->∀k∈ks,FN w 4 (.ref 229) [.ref (lI g),.bytes k] (upd σ n (.list (ks.map .bytes))) (.bytes (V k)) (upd σ n (.list (ks.map .bytes)))):
  FN w 5 (.ref 290) [.ref (lI g)] σ (.tup (ks.map fun k=>.tup [.bytes k,.bytes (V k)])) σ:=by
 refine FN.fresh (Dom.refl _) fun k hk=>?_;have h0:=hk k (Az _);have h1:=hk (k+1) (by exact of0);have K:=K (0,k) h0;have W:=W (0,k) rfl;have M1:MapB (upd σ (0,k) (.list (ks.map .bytes))) g m vals:=M.frame fun l hl=>upd_ne fun e=>aPa (e▸hl);have hi0:=M.hi;have hd0:=M.hd;have hi:=M1.hi;have hd:=M1.hd;have hk:upd σ (0,k) (.list (ks.map .bytes)) (0,k)=some (.list (ks.map .bytes)):=aC;have hn:upd σ (0,k) (.list (ks.map .bytes)) (0,k+1)=none:=(upd_ne (fun e=>by have:=congrArg En e;simp at this;exact absurd this (bO of1))).trans h1;have Le:=Less.two (a:=((0,k):Lbl)) (b:=(0,k+1)) (A:=.list (ks.map .bytes)) (B:=.list (ks.map fun k=>.tup [.bytes k,.bytes (V k)])) h0 h1;generalize upd σ (0,k) (.list (ks.map .bytes))=σ1 at*;refine cM (Dom.refl σ) (by k_is) (by k_is) ["self"] [("self",.ref (lI g))] rfl (fun s=>eA fun _=>Ah rfl) (by decide) (dA _) (dH (by decide +kernel)) (fun A base outer g' mg mb L=>?_);apply Af;apply aQ;apply bU;apply EV.drop (σ1:=upd σ1 (0,k+1) (.list (ks.map fun k=>.tup [.bytes k,.bytes (V k)])))
 ·apply aM
  ·k_extra"e"
  ·k_extra"e"
  ·apply aJ
   ·apply iD (α:=List UInt8) (xs:=ks) .bytes (fun k=>.tup [.bytes k,.bytes (V k)]) (0,k+1)
    ·apply ItE.of
     ·k_extra"e"
      rfl'
     ·exact cW hk
    ·apply LcOk.one
     ·exact rfl
     ·exact rfl
     ·rfl'
     ·exact fun _=>rfl
     ·decide +kernel
     ·decide
    ·exact hk
    ·exact hn
    ·intro a g2 C ha;have W:=W a ha;rfl'
    ·exact fun _ h=>h.elim
    ·exact nle hz
   ·rfl'
   ac_rfl
  ·apply gA
   ·exact aC
   ·rw[Ag];exact nle hz
  ac_rfl
 ·exact Le
 ·exact .tup _ (jO fun a=>.tup _ (.cons (.bytes _) (.cons (.bytes _) .nil)))
theorem aEg(M:MapB σ g m vals){ks:List (List UInt8)}{V:List UInt8->List (List UInt8)}(hk:m.k = .row)(hz:ks.length<=50)(K:∀n,σ n=none->FN w 4 (.ref 374) [.ref (lI g)] σ (.ref n) (upd σ n (.list (ks.map .bytes))))
  (W:∀n:Lbl,n.1=0->∀k∈ks,FN w 4 (.ref 419) [.ref (lI g),.bytes k] (upd σ n (.list (ks.map .bytes))) (.tup ((V k).map .bytes)) (upd σ n (.list (ks.map .bytes)))):
  FN w 5 (.ref 424) [.ref (lI g)] σ (.tup (ks.map fun k=>.tup [.bytes k,.tup ((V k).map .bytes)])) σ:=by
 refine FN.fresh (Dom.refl _) fun k hf=>?_;have h0:=hf k (Az _);have h1:=hf (k+1) (by exact of0);have K:=K (0,k) h0;have W:=W (0,k) rfl;have M1:MapB (upd σ (0,k) (.list (ks.map .bytes))) g m vals:=M.frame fun l hl=>upd_ne fun e=>aPa (e▸hl);have hi0:σ (lI g)=some (.inst 434 (lD g)):=by have:=M.hi;rw[hk] at this;exact this
 have hd0:=M.hd;have hi:upd σ (0,k) (.list (ks.map .bytes)) (lI g)=some (.inst 434 (lD g)):=by have:=M1.hi;rw[hk] at this;exact this
 have hd:=M1.hd;have hks:upd σ (0,k) (.list (ks.map .bytes)) (0,k)=some (.list (ks.map .bytes)):=aC;have hn:upd σ (0,k) (.list (ks.map .bytes)) (0,k+1)=none:=(upd_ne (fun e=>by have:=congrArg En e;simp at this;exact absurd this (bO of1))).trans h1;have Le:=Less.two (a:=((0,k):Lbl)) (b:=(0,k+1)) (A:=.list (ks.map .bytes)) (B:=.list (ks.map fun k=>.tup [.bytes k,.tup ((V k).map .bytes)])) h0 h1;generalize upd σ (0,k) (.list (ks.map .bytes))=σ1 at*;refine cM (Dom.refl σ) (by k_is) (by k_is) ["self"] [("self",.ref (lI g))] rfl (fun s=>eA fun _=>Ah rfl) (by decide) (dA _) (dH (by decide +kernel)) (fun A base outer g' mg mb L=>?_);apply Af;apply aQ;apply bU;apply EV.drop (σ1:=upd σ1 (0,k+1) (.list (ks.map fun k=>.tup [.bytes k,.tup ((V k).map .bytes)])))
 ·apply aM
  ·k_extra"e"
  ·k_extra"e"
  ·apply aJ
   ·apply iD (α:=List UInt8) (xs:=ks) .bytes (fun k=>.tup [.bytes k,.tup ((V k).map .bytes)]) (0,k+1)
    ·apply ItE.of
     ·k_extra"e"
      rfl'
     ·exact cW hks
    ·apply LcOk.one
     ·exact rfl
     ·exact rfl
     ·rfl'
     ·exact fun _=>rfl
     ·decide +kernel
     ·decide
    ·exact hks
    ·exact hn
    ·intro a g2 C ha;have W:=W a ha;rfl'
    ·exact fun _ h=>h.elim
    ·exact nle hz
   ·rfl'
   ac_rfl
  ·apply gA
   ·exact aC
   ·rw[Ag];exact nle hz
  ac_rfl
 ·exact Le
 ·exact .tup _ (jO fun a=>.tup _ (.cons (.bytes _) (.cons (.tup _ dE) .nil)))
theorem aLh(M:MapB σ g m vals){x:Sh}(S:FN w 5 (.ref m.k.parts) [.ref (lI g)] σ x σ):FN w 6 (.ref 297) [.ref (lI g)] σ (.tup [.str m.k.name,.int m.num,.int m.kw,.int m.vw,.int m.most,x]) σ:=by
 have hi:=M.hi;have hd:=M.hd;refine aS (Dom.refl σ) (by k_is) (by k_is) ["self"] [("self",.ref (lI g))] rfl (fun s=>eA fun _=>Ah rfl) (fun A base outer g' mg mb L=>?_);apply Af;rfl'
theorem aOy(M:MapB σ g m vals)(hk:m.k = .row){b:List UInt8}{R:Int->List UInt8}(hz:(b.length:Int)=m.kw)(h4:m.kw=4)(hl:cH b<m.most)(hR:∀p,0<=p->p<4->aL vals (eS m.k (cH b) p)=some (R p))(hRz:∀p,(R p).length<=1000):
  FN w 4 (.ref 419) [.ref (lI g),.bytes b] σ (.tup (((upI 0 4).map R).map .bytes)) σ:=by
 refine FN.fresh (Dom.refl _) fun k hf=>?_;have h0:=hf k (Az _);have hne:m.k≠.hsh:=by rw[hk];exact fun z=>by cases z
 have hi:=M.hi;have hd:=M.hd;have hv:=M.hv;have er:((upI 0 4).map R).map Sh.bytes=(upI 0 4).map fun p=>.bytes (R p):=by rw[Bq];rfl
 rw[er];have ei:idx m b=cH b:=if_pos hl;have I:FN w 2 (.ref 332) [.ref (lI g),.bytes b] σ (.int (cH b)) σ:=ei▸hH M hz h4;have hn:=fG b;refine cM (Dom.refl σ) (by k_is) (by k_is) ["self","key"] [("key",.bytes b),("self",.ref (lI g))] rfl (fun s=>cF fun _ _=>Ah rfl) (by decide) (dA _) (dH (by decide +kernel)) (fun A base outer g' mg mb L=>?_);apply Af;apply aB
 ·rfl'
 k_extra"iff"
 apply aQ;apply bU;apply EV.drop (L:=Less.one (n:=(0,k)) (o:=.list ((upI 0 4).map fun p=>.bytes (R p))) h0)
 ·apply aM
  ·k_extra"e"
  ·k_extra"e"
  ·apply aJ
   ·apply iD (α:=Int) (xs:=upI 0 4) .int (fun p=>.bytes (R p)) (0,k)
    ·apply dM
     ·rfl'
     ·rfl'
     ·decide
     all_goals exact rfl
    ·apply LcOk.two
     ·exact rfl
     ·exact rfl
     ·exact rfl
     ·rfl'
     ·rfl'
     ·exact fun _=>⟨rfl,rfl⟩
     ·decide +kernel
     ·decide
    ·trivial
    ·exact h0
    ·intro a g2 C ha;have ha:=bJ.mp ha;have h1:=hR a ha.1 ha.2;have h2:=hRz a;have h3:=M.ho _ (bL h1);rfl'
    ·exact fun _ h=>h.elim
    ·rw[aU];decide
   ·rfl'
   ac_rfl
  ·apply gA
   ·exact aC
   ·rw[Ag,aU];decide
  ac_rfl
 ·exact .tup _ (jO fun _=>.bytes _)
noncomputable def aMd(k:KC)(kw:Int):Prop:=(k≠.hsh->kw=4)/\(k = .hsh->1<=kw/\kw<=512)
theorem fX{k:KC}(h:aMd k kw):FN w 1 (.ref 108) [.str k.name,.int kw] σ .none σ:=by
 refine gK (Dom.refl σ) (by k_is) (by k_is) ["kind","key_width"] [("key_width",.int kw),("kind",.str k.name)] rfl (fun s=>cF fun _ _=>Ah rfl) (fun A base outer g' mg mb L=>?_);apply Af;apply aB
 ·apply aD
  ·apply EB.cast
   ·rfl'
   ·cases k <;> decide
  apply aB
  ·apply aD
   ·apply EB.cast
    ·rfl'
    ·cases k <;> decide
   by_cases hk:k = .hsh
   ·have h2:=h.2 hk;apply aB
    ·apply aD
     ·apply EB.cast
      ·rfl'
      ·rw[hk];decide
     apply aB
     ·apply aD
      ·apply EB.cast
       ·rfl'
       ·simp;exact⟨h2.1,h2.2⟩
      ·rfl'
     rfl'
    rfl'
   ·have h2:=h.1 hk;apply aB
    ·apply aP
     ·apply EB.cast
      ·rfl'
      ·cases k
       ·decide
       ·decide
       ·exact absurd rfl hk
     apply aB
     ·apply aD
      ·apply EB.cast
       ·rfl'
       ·simp[h2]
      ·rfl'
     rfl'
    rfl'
  rfl'
 rfl'
noncomputable def eM(k:KC)(kw vw most:Int):Prop:=aMd k kw/\(1<=vw/\vw<=100)/\1<=most/\most<=8
theorem iR{k:KC}(h:eM k kw vw most):FN w 2 (.ref 115) [.str k.name,.int kw,.int vw,.int most] σ .none σ:=by
 obtain⟨hk,hv,hm⟩:=h;refine FN.fresh (Dom.refl σ) fun i hi=>?_;have h0:=hi i (Az _);have hs:bF vw=(vw+7) / 8*8+8:=by unfold bF;rw[Fg _ (by decide)]
 have hs2:0<=(vw+7).fdiv 8*8+8/\(vw+7).fdiv 8*8+8<=200:=by unfold bF at hs;rw[hs];exact z93 hv
 have m1:Ge ((vw+7).fdiv 8*8+8) (most+1):=kQ (by exact⟨ige hs2.1,ile hs2.2⟩);have hq:((vw+7).fdiv 8*8+8)*(most+1)<=1800/\0<=((vw+7).fdiv 8*8+8)*(most+1):=by
  constructor
  ·exact Ac (Fz hs2.2 (by exact ige (Ac hm.1 of0))) (by exact z94 hm)
  ·exact Fy hs2.1 (by exact ige (Ac hm.1 of0))
 have m2:Ge (((vw+7).fdiv 8*8+8)*(most+1)) k.procs:=kQ (by exact⟨ige hq.2,ile hq.1⟩);have C:=fX (w:=w) (σ:=upd σ (0,i) (.list (cU.map .str))) hk;have Le:=Less.one (n:=((0,i):Lbl)) (o:=.list (cU.map .str)) h0;refine FN.drop (σ1:=upd σ (0,i) (.list (cU.map .str))) ?_ Le .none;refine gK Dom.upd (by k_is) (by k_is) ["kind","key_width","value_width","most"] [("most",.int most),("value_width",.int vw),("key_width",.int kw),("kind",.str k.name)] rfl (fun s=>aEu fun _ _ _ _=>Ah rfl) (fun A base outer g' mg mb L=>?_);apply Af;apply aB
 ·apply aD
  ·apply EB.cast
   ·apply dO
    ·rfl'
    ·apply pK
     ·rfl'
     ·rfl'
     ·exact iP (0,i) h0
     ac_rfl
    ·exact dQ aC
    ·exact rfl
   ·cases k <;> decide
  ·rfl'
 apply aB
 ·rfl'
 apply aB
 ·apply aD
  ·apply EB.cast
   ·rfl'
   ·cases k <;> decide
  ·rfl'
 k_extra"iff"
 apply aB
 ·apply aD
  ·apply EB.cast
   ·apply mP;apply mO
    ·rfl'
    ·apply mO
     ·apply dO
      ·apply mS
       ·rfl'
       ·apply EV.cast (v:=.int k.procs)
        ·rfl'
        ·cases k <;> rfl
        ·rfl
       ·rfl'
      ·rfl'
      ·rfl'
      ·exact rfl
     ·rfl'
   ·have hp:=k.procs_le;have:((vw+7).fdiv 8*8+8)*(most+1)*k.procs<=1800*4:=Lm hq.1 hp.2 (by exact ige hp.1) (by decide);simp;constructor
    ·exact hm.1
    ·exact z95 this
  ·rfl'
 rfl'
noncomputable def eG(m:MC)(g:Gn):List (Str×Sh):=[("kind",.str m.k.name),("number",.int m.num),("key_width",.int m.kw),("value_width",.int m.vw),("most",.int m.most),("values",.ref (lV g))]
theorem nY{m:MC}(hW:eM m.k m.kw m.vw m.most)(hn:0<=m.num/\m.num<64)(hi:σ (lI g)=some (.inst m.k.addr (lD g)))(hd:σ (lD g)=some (.sdict []))(hv:σ (lV g)=none):
  FN w 3 (.ref 129) [.ref (lI g),.str m.k.name,.int m.num,.int m.kw,.int m.vw,.int m.most] σ .none (upd (upd σ (lD g) (.sdict (eG m g))) (lV g) (.idict [])):=by
 have C:=iR (w:=w) (σ:=σ) hW;refine gK (Dom.trans Dom.upd Dom.upd) (by k_is) (by k_is) ["self","kind","number","key_width","value_width","most"] [("most",.int m.most),("value_width",.int m.vw),("key_width",.int m.kw),("number",.int m.num),("kind",.str m.k.name),("self",.ref (lI g))] rfl (fun s=>aAh fun _ _ _ _ _ _=>Ah rfl) (fun A base outer g' mg mb L=>?_);apply Af;apply SS.cast
 ·apply aB
  ·rfl'
  k_extra"iff"
  apply aB
  ·rfl'
  apply aB
  ·rfl'
  apply aB
  ·rfl'
  apply aB
  ·rfl'
  apply aB
  ·rfl'
  apply aB
  ·apply fP
   ·apply sB (lV g);exact upd_none (aA rfl) (upd_none (aA rfl) (upd_none (aA rfl) (upd_none (aA rfl) (upd_none (aA rfl) hv))))
   all_goals rfl'
  rfl'
 ·rfl
 ·rw[bT (aA rfl)];simp only[aX]
  rfl
theorem mV(a b:Int):(upI a b).Nodup:=by
 unfold upI List.Nodup;rw[List.pairwise_map];have h:(Jg (b-a).toNat).Pairwise (·≠·):=List.nodup_range;exact h.imp fun {x y} h e=>h (by exact z97 e)
theorem sO(hk:m.k≠.hsh){d:Lbl}(hi:σ (lI g)=some (.inst m.k.addr d))(hd:σ d=some (.sdict (eG m g))):FN w 1 (.ref m.k.scF) [.ref (lI g)] σ (.int (m.most*m.k.procs)) σ:=by
 have hg:aY (eG m g) "most"=some (.int m.most):=rfl
 cases e:m.k with
 |hsh=>exact absurd e hk
 |arr=>
  rw[e] at hi;replace hi:σ (lI g)=some (.inst 391 d):=hi;refine aS (Dom.refl σ) (by k_is) (by k_is) ["self"] [("self",.ref (lI g))] rfl (fun s=>eA fun _=>Ah rfl) (fun A base outer g' mg mb L=>?_);apply Af;apply SS.cast
  ·apply aQ;apply bU;apply aBr
   ·k_extra"e"
    rfl'
   ·exact hi
   ·exact hd
   ·exact hg
   all_goals rfl'
  ·show Fl.ret (.int m.most) = .ret (.int (m.most*1));rw[Ir]
  ·rfl
 |row=>
  rw[e] at hi;replace hi:σ (lI g)=some (.inst 434 d):=hi;refine aS (Dom.refl σ) (by k_is) (by k_is) ["self"] [("self",.ref (lI g))] rfl (fun s=>eA fun _=>Ah rfl) (fun A base outer g' mg mb L=>?_);apply Af;apply SS.cast
  ·apply aQ;apply bU;apply mS
   ·apply aBr
    ·k_extra"e"
     rfl'
    ·exact hi
    ·exact hd
    ·exact hg
    all_goals rfl'
   ·rfl'
   ·rfl'
  ·rfl
  ·rfl
noncomputable abbrev aBz(n:Int):List UInt8:=Ap n.toNat 0
noncomputable def gV(m:MC):List (Int×List UInt8):=(upI 0 (m.most*m.k.procs)).map fun s=>(s,aBz m.vw)
theorem fM{α β:Type}(f:α->β)(l:List α):∀(z:List β),l.foldl (fun z a=>z++[f a]) z=z++l.map f:=by
 induction l with
 |nil=>exact fun z=>(Et z).symm
 |cons a l ih=>intro z;rw[List.foldl_cons,ih,Ic];rfl
theorem mJ(hk:m.k≠.hsh)(hW:eM m.k m.kw m.vw m.most)(hn:0<=m.num/\m.num<64)(hi:σ (lI g)=some (.inst m.k.addr (lD g)))(hd:σ (lD g)=some (.sdict []))(hv:σ (lV g)=none)(hf:∀s,0<=s->s<100->σ (lo g s)=none):
  ∃σ',FN w 4 (.ref 325) [.ref (lI g),.str m.k.name,.int m.num,.int m.kw,.int m.vw,.int m.most] σ .none σ'/\MapB σ' g m (gV m)/\Only g σ σ':=by
 have I:=nY (w:=w) hW hn hi hd hv;have hz:eG m g=kvs m g:=by
  unfold eG kvs
  cases e:m.k with
  |hsh=>exact absurd e hk
  |arr=>rfl
  |row=>rfl
 obtain⟨hkw,hvw,hmost⟩:=hW;have hp:=m.k.procs_le;have hN:m.most*m.k.procs<=8*4/\0<=m.most*m.k.procs:=⟨Lm (by exact hmost.2) hp.2 (by exact ige hp.1) (by decide),Fy (by exact ige hmost.1) (by exact ige hp.1)⟩;have hi1:upd σ (lD g) (.sdict (eG m g)) (lI g)=some (.inst m.k.addr (lD g)):=(upd_ne (aA rfl)).trans hi;have hd1:upd σ (lD g) (.sdict (eG m g)) (lD g)=some (.sdict (eG m g)):=aC;have hf1:∀s,0<=s->s<100->upd σ (lD g) (.sdict (eG m g)) (lo g s)=none:=fun s h0 h1=>upd_none (aA rfl) (hf s h0 h1);have O1:Only g σ (upd σ (lD g) (.sdict (eG m g))):=Only.refl.upd eZ;have D1:Dom σ (upd σ (lD g) (.sdict (eG m g))):=Dom.upd;have e0:upd (upd σ (lD g) (.sdict (eG m g))) (lV g) (.idict [])=sgS g (upd σ (lD g) (.sdict (eG m g))) []:=rfl;rw[e0] at I;generalize upd σ (lD g) (.sdict (eG m g))=τ at*;have key:∀z,sgS g τ z (lI g)=some (.inst m.k.addr (lD g))/\sgS g τ z (lD g)=some (.sdict (kvs m g))/\sgS g τ z (lV g)=some (.idict (z.map fun p=>(p.1,.ref (lo g p.1)))):=fun z=>
  ⟨(upd_ne (aA rfl)).trans ((dL fun _ _=>aA rfl).trans hi1),(upd_ne (aA rfl)).trans ((dL fun _ _=>aA rfl).trans (hz▸hd1)),aC⟩
 have S:=sO (w:=w) hk (key []).1 (hz.symm▸(key []).2.1);have nd:((gV m).map (·.1)).Nodup:=by
  unfold gV;rw[Bq];show((upI 0 _).map id).Nodup;rw[List.map_id];exact mV _ _
 have rg:∀p∈gV m,0<=p.1/\p.1<100:=fun p hp=>by
  obtain⟨i,hi,rfl⟩:=Aq.mp hp;have:=bJ.mp hi;dsimp only;exact z98 hN this
 refine⟨sgS g τ (gV m),?_,⟨(key _).1,(key _).2.1,(key _).2.2,fun p hp=>(upd_ne (aA rfl)).trans (uO nd hp),rg,nd⟩,O1.trans ((lH rg).upd eV)⟩;refine gK (D1.trans (aCh.trans Dom.upd)) (by k_is) (by k_is) ["self","kind","number","key_width","value_width","most"] [("most",.int m.most),("value_width",.int m.vw),("key_width",.int m.kw),("number",.int m.num),("kind",.str m.k.name),("self",.ref (lI g))] rfl (fun s=>aAh fun _ _ _ _ _ _=>Ah rfl) (fun A base outer g' mg mb L=>?_);apply Af;apply SS.cast
 ·apply aB
  ·apply eX
   ·apply nQ (mc:=.type "type")
    ·rfl'
    ·k_is
    ·k_is
    ·k_is
    ·exact Keeps.K (by k_is)
    ·rfl'
    ·rfl'
    ac_rfl
   all_goals exact rfl
  apply aB
  ·apply nN (α:=Int) (xs:=upI 0 (m.most*m.k.procs)) (Z:=List (Int×List UInt8)) .int (fun _=>[("most",.int m.most),("value_width",.int m.vw),("key_width",.int m.kw),("number",.int m.num),("kind",.str m.k.name),("self",.ref (lI g))]) (fun z=>sgS g τ z) (fun z s=>z++[(s,aBz m.vw)]) (fun i z=>z=(upI 0 i).map fun s=>(s,aBz m.vw)) []
   ·have hi:=(key []).1;have hd:=(key []).2.1;apply dM
    ·rfl'
    ·rfl'
    ·exact z99 hN
    all_goals exact rfl
   ·rfl
   ·rfl
   ·exact fun _ _ _=>trivial
   ·intro i z a hz ha;have ea:a=i:=by
     have:=(As.mp ha);obtain⟨h1,h2⟩:=this;unfold upI at h2;simp at h2;exact h2.symm
    rw[hz,ea];unfold upI;simp[List.range_succ]
   ·intro i z a g2 hz ha;have ha0:=bJ.mp (Bd ha);have ea:a=i:=by
     obtain⟨h1,h2⟩:=As.mp ha;unfold upI at h2;simp at h2;exact h2.symm
    have hnz:aL z a=none:=by
     rw[cA,hz,Bq];intro hm;obtain⟨q,hq,e⟩:=Aq.mp hm;have:=bJ.mp hq;dsimp only[Mx] at e;exact absurd (Gj e ea) (gG this.2)
    have hfz:sgS g τ z (lo g a)=none:=by
     refine upd_none (aA rfl) ((dL fun p hp=>jE ?_).trans (hf1 a ha0.1 (by exact aVu hN ha0 ea)));rw[hz] at hp;obtain⟨q,hq,rfl⟩:=Aq.mp hp;have:=bJ.mp hq;dsimp only;exact bO (xZ this.2 ea.symm)
    have hlz:(z.map fun p=>(p.1,Sh.ref (lo g p.1))).length<=1000:=by
     rw[Ag,hz,Ag,aU];have:=(As.mp ha).1;rw[aU] at this;exact aVt hN ha0 ea
    rw[<-xI hnz];have hi:=(key z).1;have hd:=(key z).2.1;have hv:=(key z).2.2;generalize sgS g τ z=τz at*;apply SS.weak
    ·apply aB
     ·apply dK (sh:=.ref (lo g a))
      ·apply aM
       ·rfl'
       ·rfl'
       ·rfl'
       ·apply lA (lo g a)
        ·exact aHx hvw.1
        ·exact ile hvw.2
        ·exact hfz
       ac_rfl
      all_goals rfl'
     rfl'
    ·rfl'
   all_goals first|exact rfl|exact fun _ h=>h
  rfl'
 ·rfl
 ·rw[fM];rfl
theorem mF(most:Int):bQ most=1\/bQ most=2\/bQ most=4\/bQ most=8:=by
 unfold bQ;by_cases h1:most<=1
 ·simp[h1]
 by_cases h2:most<=2
 ·simp[h1,h2]
 by_cases h3:most<=4 <;> simp[h1,h2,h3]
theorem qE{α Z:Type}(step:Z->α->Z)(y:Z->α->Sh)(f:α->Sh)(l:List α):∀(z:Z),(∀(i:Nat) z a,l[i]? = some a->y z a=f a)->uR step y l z=l.map f:=by
 induction l with
 |nil=>exact fun _ _=>rfl
 |cons a l ih=>
  intro z h;show y z a::uR step y l _=_;rw[h 0 z a rfl,ih _ (fun i z b hb=>h (i+1) z b hb)];rfl
theorem lQ(hk:m.k = .hsh)(hW:eM m.k m.kw m.vw m.most)(hn:0<=m.num/\m.num<64)(hi:σ (lI g)=some (.inst m.k.addr (lD g)))(hd:σ (lD g)=some (.sdict []))(hv:σ (lV g)=none)(hkn:σ (lK g)=none)(hbn:σ (lB g)=none)(hf:∀s,0<=s->s<100->σ (lb g s)=none):
  ∃σ',FN w 4 (.ref 462) [.ref (lI g),.str m.k.name,.int m.num,.int m.kw,.int m.vw,.int m.most] σ .none σ'/\MapH σ' g m [] [] (Ap (bQ m.most).toNat [])/\Only g σ σ'/\∀t,σ' (lo g t)=σ (lo g t):=by
 have I:=nY (w:=w) hW hn hi hd hv;obtain⟨hkw,hvw,hmost⟩:=hW;have hb:=mF m.most;have hb2:0<=bQ m.most/\bQ m.most<=8:=by exact aVs hb
 have hi1:upd (upd σ (lD g) (.sdict (eG m g))) (lV g) (.idict []) (lI g)=some (.inst 582 (lD g)):=by
  rw[hk] at hi;exact((upd_ne (aA rfl)).trans (upd_ne (aA rfl))).trans hi
 have hd1:upd (upd σ (lD g) (.sdict (eG m g))) (lV g) (.idict []) (lD g)=some (.sdict (eG m g)):=(upd_ne (aA rfl)).trans aC;have hv1:upd (upd σ (lD g) (.sdict (eG m g))) (lV g) (.idict []) (lV g)=some (.idict []):=aC;have hk1:upd (upd σ (lD g) (.sdict (eG m g))) (lV g) (.idict []) (lK g)=none:=upd_none (aA rfl) (upd_none (aA rfl) hkn);have hb1:upd (upd σ (lD g) (.sdict (eG m g))) (lV g) (.idict []) (lB g)=none:=upd_none (aA rfl) (upd_none (aA rfl) hbn);have hf1:∀s,0<=s->s<100->upd (upd σ (lD g) (.sdict (eG m g))) (lV g) (.idict []) (lb g s)=none:=fun s h0 h1=>upd_none (aA rfl) (upd_none (aA rfl) (hf s h0 h1));have O1:Only g σ (upd (upd σ (lD g) (.sdict (eG m g))) (lV g) (.idict [])):=(Only.refl.upd eZ).upd eV;have D1:Dom σ (upd (upd σ (lD g) (.sdict (eG m g))) (lV g) (.idict [])):=Dom.trans Dom.upd Dom.upd;have z1:∀t,upd (upd σ (lD g) (.sdict (eG m g))) (lV g) (.idict []) (lo g t)=σ (lo g t):=fun t=>(upd_ne (aA rfl)).trans (upd_ne (aA rfl));generalize upd (upd σ (lD g) (.sdict (eG m g))) (lV g) (.idict [])=τ at*;have hs:∀s,0<=s->s<100->τ (lb g s)=none:=hf1;generalize hN:(bQ m.most).toNat=N at*;have hNl:N<=8:=by exact aVr hb2 hN
 have key:bkL g τ (Ap N []) (lI g)=some (.inst 582 (lD g))/\bkL g τ (Ap N []) (lD g)=some (.sdict (eG m g))/\bkL g τ (Ap N []) (lV g)=some (.idict [])/\bkL g τ (Ap N []) (lK g)=none/\bkL g τ (Ap N []) (lB g)=none:=
  ⟨(cP fun _ _=>aA rfl).trans hi1,(cP fun _ _=>aA rfl).trans hd1,(cP fun _ _=>aA rfl).trans hv1,(cP fun _ _=>aA rfl).trans hk1,(cP fun _ _=>aA rfl).trans hb1⟩
 obtain⟨hi2,hd2,hv2,hk2,hb3⟩:=key;have hbk:∀(i:Nat) l,(Ap N ([]:List Int))[i]? = some l->bkL g τ (Ap N []) (lb g i)=some (.list (l.map .int)):=fun i l h=>aDa h;have O2:Only g τ (bkL g τ (Ap N [])):=yU (by rw[Ek];exact nle hNl);have D2:Dom τ (bkL g τ (Ap N [])):=vS;have ef:(upI 0 (bQ m.most)).foldl (fun(z:List (List Int)) (_:Int)=>z++[[]]) []=Ap N []:=by
  rw[fM (fun _=>[])];unfold upI;rw[Kn,Bq,Cj,hN];exact List.eq_replicate_iff.mpr ⟨by simp,by simp⟩
 have ekv:bW (bW (eG m g) "buckets" (.ref (lB g))) "key_by_slot" (.ref (lK g))=kvs m g:=by
  unfold kvs;rw[hk];unfold eG;rw[hk];rfl
 have eN:bQ m.most=((Ap N ([]:List Int)).length:Int):=by rw[Ek];exact aVq hb2 hN hNl
 refine⟨upd (upd (upd (bkL g τ (Ap N [])) (lB g) (.list ((upI 0 (bQ m.most)).map fun i=>.ref (lb g i)))) (lK g) (.idict [])) (lD g) (.sdict (kvs m g)),?_,?_,?_,fun t=>(upd_ne (aA rfl)).trans ((upd_ne (aA rfl)).trans ((upd_ne (aA rfl)).trans ((cP fun _ _=>aA rfl).trans (z1 t))))⟩
 rotate_left
 ·refine⟨⟨?_,aC,?_,fun p hp=>(by cases hp),fun p hp=>(by cases hp),Ia⟩,hk,?_,?_,fun i l h0 hl=>?_,by rw[Ek];exact aVp hb hb2 hN hNl eN⟩
  ·rw[hk];exact(upd_ne (aA rfl)).trans ((upd_ne (aA rfl)).trans ((upd_ne (aA rfl)).trans hi2))
  ·exact(upd_ne (aA rfl)).trans ((upd_ne (aA rfl)).trans ((upd_ne (aA rfl)).trans hv2))
  ·exact(upd_ne (aA rfl)).trans aC
  ·rw[<-eN];exact(upd_ne (aA rfl)).trans ((upd_ne (aA rfl)).trans aC)
  ·have:=hbk i.toNat l hl;rw[show((i.toNat:Nat):Int)=i by exact aOw h0] at this;exact(upd_ne (aA rfl)).trans ((upd_ne (aA rfl)).trans ((upd_ne (aA rfl)).trans this))
 ·exact O1.trans (O2.trans (((Only.refl.upd tK).upd jZ).upd eZ))
 refine gK (D1.trans (D2.trans (Dom.trans Dom.upd (Dom.trans Dom.upd Dom.upd)))) (by k_is) (by k_is) ["self","kind","number","key_width","value_width","most"] [("most",.int m.most),("value_width",.int m.vw),("key_width",.int m.kw),("number",.int m.num),("kind",.str m.k.name),("self",.ref (lI g))] rfl (fun s=>aAh fun _ _ _ _ _ _=>Ah rfl) (fun A base outer g' mg mb L=>?_);apply Af;apply SS.cast
 ·apply aB
  ·apply eX
   ·apply nQ (mc:=.type "type")
    ·rfl'
    ·k_is
    ·k_is
    ·k_is
    ·exact Keeps.K (by k_is)
    ·rfl'
    ·rfl'
    ac_rfl
   all_goals exact rfl
  apply aB
  ·apply fP
   ·apply EV.cast (σ1:=upd (bkL g τ ((upI 0 (bQ m.most)).foldl (fun(z:List (List Int)) (_:Int)=>z++[[]]) [])) (lB g) (.list (uR (fun(z:List (List Int)) (_:Int)=>z++[[]]) (fun _ a=>.ref (lb g a)) (upI 0 (bQ m.most)) [])))
    ·apply wL (α:=Int) (Z:=List (List Int)) (xs:=upI 0 (bQ m.most)) .int (fun _ a=>.ref (lb g a)) (bkL g τ) (fun z _=>z++[[]]) (fun i z=>z.length=i) (lB g) []
     ·apply dM
      ·rfl'
      ·rfl'
      ·exact⟨ige hb2.1,ile hb2.2⟩
      all_goals exact rfl
     ·apply LcOk.none
      ·exact rfl
      ·decide +kernel
     ·rfl
     ·exact fun _ _ _=>trivial
     ·intro i z a hz ha;rw[Cz,hz];rfl
     ·rw[ef];exact hb3
     ·rw[ef];exact D2
     ·intro i z a g2 C hz ha;have ea:a=(z.length:Int):=by
       obtain⟨h1,h2⟩:=As.mp ha;unfold upI at h2;simp at h2;exact aRa hz h2
      have ha0:=bJ.mp (Bd ha);rw[yT,ea];apply dN
      ·exact aV
      ·decide
      ·exact(cP fun j hj=>aCp (by exact bO (Df.mpr hj))).trans (hs _ (by exact oU) (by exact ilt (aRk ea.symm (Am ha0.2 hb2.2))))
     ·exact fun _ h=>h
     ·rw[aU];exact jB hb2.2
    ·rfl
    ·show _=upd (bkL g τ (Ap N [])) (lB g) (.list ((upI 0 (bQ m.most)).map fun i=>.ref (lb g i)));rw[ef,qE _ _ (fun a=>.ref (lb g a)) _ _ (fun _ _ _ _=>rfl)]
   all_goals rfl'
  apply aB
  ·apply fP
   ·apply sB (lK g);exact upd_none (aA rfl) (upd_none (aA rfl) hk2)
   all_goals rfl'
  rfl'
 ·rfl
 ·rw[bT (a:=lK g) (b:=lD g) (aA rfl),aX,ekv,bT (a:=lD g) (b:=lK g) (aA rfl)]
theorem aJu(M:MapB σ g m vals)(hk:m.k≠.hsh)(hW:eM m.k m.kw m.vw m.most)(hn:0<=m.num/\m.num<64)(hf:∀l,own g' l->σ l=none):
  ∃σ',FN w 6 (.ref m.k.twin) [.ref (lI g)] σ (.ref (lI g')) σ'/\MapB σ' g' m (gV m)/\Only g' σ σ':=by
 have I:=mJ (w:=w) (σ:=upd (upd σ (lD g') (.sdict [])) (lI g') (.inst m.k.addr (lD g'))) (g:=g') hk hW hn aC ((upd_ne (aA rfl)).trans aC)
  (upd_none (aA rfl) (upd_none (aA rfl) (hf _ eV))) (fun s h0 h1=>upd_none (aA rfl) (upd_none (aA rfl) (hf _ (eU (by exact⟨h0,ilt h1⟩)))))
 obtain⟨σ',I,M',O⟩:=I;have hi:=M.hi;have hd:=M.hd;have hfI:=hf _ qD;have hfD:=hf _ eZ;have O0:Only g' σ (upd (upd σ (lD g') (.sdict [])) (lI g') (.inst m.k.addr (lD g'))):=(Only.refl.upd eZ).upd qD;have D0:Dom σ (upd (upd σ (lD g') (.sdict [])) (lI g') (.inst m.k.addr (lD g'))):=Dom.trans Dom.upd Dom.upd;refine⟨σ',?_,M',O0.trans O⟩;have D:Dom σ σ':=D0.trans I.dom
 cases e:m.k with
 |hsh=>exact absurd e hk
 |arr=>
  rw[e] at I hi;replace hi:σ (lI g)=some (.inst 391 (lD g)):=hi;refine aS D (by k_is) (by k_is) ["self"] [("self",.ref (lI g))] rfl (fun s=>eA fun _=>Ah rfl) (fun A base outer g' mg mb L=>?_);apply Af;apply aQ;apply bU;apply aM
  ·rfl'
  ·rfl'
  ·rfl'
  ·rw[e];exact iF _ _ I (Aa rfl) (by k_is) (by k_is) (by k_is) hfD hfI (aA rfl) (fun _ h=>h)
  ac_rfl
 |row=>
  rw[e] at I hi;replace hi:σ (lI g)=some (.inst 434 (lD g)):=hi;refine aS D (by k_is) (by k_is) ["self"] [("self",.ref (lI g))] rfl (fun s=>eA fun _=>Ah rfl) (fun A base outer g' mg mb L=>?_);apply Af;apply aQ;apply bU;apply aM
  ·rfl'
  ·rfl'
  ·rfl'
  ·rw[e];exact iF _ _ I (Aa rfl) (by k_is) (by k_is) (by k_is) hfD hfI (aA rfl) (fun _ h=>h)
  ac_rfl
theorem aHy(M:MapB σ g m vals)(hk:m.k = .hsh)(hW:eM m.k m.kw m.vw m.most)(hn:0<=m.num/\m.num<64)(hf:∀l,own g' l->σ l=none):
  ∃σ',FN w 6 (.ref m.k.twin) [.ref (lI g)] σ (.ref (lI g')) σ'/\MapH σ' g' m [] [] (Ap (bQ m.most).toNat [])/\Only g' σ σ':=by
 have I:=lQ (w:=w) (σ:=upd (upd σ (lD g') (.sdict [])) (lI g') (.inst m.k.addr (lD g'))) (g:=g') hk hW hn aC ((upd_ne (aA rfl)).trans aC)
  (upd_none (aA rfl) (upd_none (aA rfl) (hf _ eV))) (upd_none (aA rfl) (upd_none (aA rfl) (hf _ jZ))) (upd_none (aA rfl) (upd_none (aA rfl) (hf _ tK))) (fun s h0 h1=>upd_none (aA rfl) (upd_none (aA rfl) (hf _ (lL (by exact⟨h0,ilt h1⟩)))))
 obtain⟨σ',I,M',O,_⟩:=I;have hi:=M.hi;have hd:=M.hd;have hfI:=hf _ qD;have hfD:=hf _ eZ;have O0:Only g' σ (upd (upd σ (lD g') (.sdict [])) (lI g') (.inst m.k.addr (lD g'))):=(Only.refl.upd eZ).upd qD;have D0:Dom σ (upd (upd σ (lD g') (.sdict [])) (lI g') (.inst m.k.addr (lD g'))):=Dom.trans Dom.upd Dom.upd;refine⟨σ',?_,M',O0.trans O⟩;have D:Dom σ σ':=D0.trans I.dom;rw[hk] at I hi ⊢;replace hi:σ (lI g)=some (.inst 582 (lD g)):=hi;refine aS D (by k_is) (by k_is) ["self"] [("self",.ref (lI g))] rfl (fun s=>eA fun _=>Ah rfl) (fun A base outer g' mg mb L=>?_);apply Af;apply aQ;apply bU;apply aM
 ·rfl'
 ·rfl'
 ·rfl'
 ·rw[hk];exact iF _ _ I (Aa rfl) (by k_is) (by k_is) (by k_is) hfD hfI (aA rfl) (fun _ h=>h)
 ac_rfl
theorem tI{α:Type}{l:List (Int×α)}(nd:(l.map (·.1)).Nodup){i:Nat}{a:Int×α}(h:l[i]? = some a):aL (l.take i) a.1=none:=by
 rw[cA];intro hm;obtain⟨b,hb,e⟩:=Aq.mp hm;obtain⟨j,hj,hjb⟩:=List.getElem_of_mem hb;obtain⟨h1,h2⟩:=As.mp h;rw[Kc] at hj;rw[List.getElem_take] at hjb;have:=(List.getElem_inj (i:=j) (j:=i) (xs:=l.map (·.1)) (h₀:=by rw[Ag];omega) (h₁:=by rw[Ag];exact h1) nd).mp (by rw[Kf,Kf,hjb,h2];exact e);exact aVh hj h1 this
theorem nZ(M:MapB σ g m vals){KV:List (Str×Sh)}(hKV:bW (kvs m g') "values" (.ref (lV g2))=KV)(hτ:upd σ1 (lD g') (.sdict KV)=τ)(T:FN w 6 (.ref m.k.twin) [.ref (lI g)] σ (.ref (lI g')) σ1)(h1i:σ1 (lI g')=some (.inst m.k.addr (lD g')))(h1d:σ1 (lD g')=some (.sdict (kvs m g')))(hs:∀l,own g l->σ1 l=σ l)
  (hdis:∀l,own g l->¬own g2 l/\l≠lD g')(hD:¬g2.h=g'.h)(hfV:σ1 (lV g2)=none)(hfo:∀s,0<=s->s<100->σ1 (lo g2 s)=none)(hz:∀p∈vals,p.2.length<=1000)(hl:vals.length<=100):
  FN w 7 (.ref 285) [.ref (lI g)] σ (.ref (lI g')) (sgS g2 τ vals):=by
 have hi0:=M.hi;have hd0:=M.hd;have hgv:aY KV "values"=some (.ref (lV g2)):=by rw[<-hKV];rfl
 have hVn:lV g2≠lV g:=fun e=>(hdis _ eV).1 (e▸eV);have hVn':¬(lV g2=lV g):=hVn;have e0:upd (upd σ1 (lV g2) (.idict [])) (lD g') (.sdict (bW (kvs m g') "values" (.ref (lV g2))))=sgS g2 τ []:=by rw[hKV,<-hτ];exact bT (aA rfl)
 have Mτ:MapB τ g m vals:=hτ▸M.frame fun l hl=>(upd_ne (hdis l hl).2).trans (hs l hl);have hi1:τ (lI g')=some (.inst m.k.addr (lD g')):=hτ▸(upd_ne (aA rfl)).trans h1i;have hd1:τ (lD g')=some (.sdict KV):=hτ▸aC;have ho1:∀s,0<=s->s<100->τ (lo g2 s)=none:=fun s a b=>hτ▸upd_none (aA rfl) (hfo s a b);have D1:Dom σ1 τ:=hτ▸Dom.upd;have h1i':=h1i;have h1d':=h1d;refine aS (T.dom.trans (D1.trans (aCh.trans Dom.upd))) (by k_is) (by k_is) ["self"] [("self",.ref (lI g))] rfl (fun s=>eA fun _=>Ah rfl) (fun A base outer g0 mg mb L=>?_);apply Af;apply aB
 ·rfl'
 apply aB
 ·apply SS.cast
  ·apply fP
   ·apply sB (lV g2);exact hfV
   all_goals rfl'
  ·rfl
  ·exact e0
 have key:∀z,(∀p∈z,p∈vals)->MapB (sgS g2 τ z) g m vals/\sgS g2 τ z (lI g')=some (.inst m.k.addr (lD g'))/\sgS g2 τ z (lD g')=some (.sdict KV):=fun z hzv=>
  ⟨Mτ.frame fun l hl=>(upd_ne fun e=>(hdis l hl).1 (by rw[e];exact eV)).trans (dL fun p hp e=>(hdis l hl).1 (by rw[e];exact eU (by have:=M.rg p (hzv p hp);exact⟨this.1,ilt this.2⟩))),(upd_ne (aA rfl)).trans ((dL fun _ _=>aA rfl).trans hi1),(upd_ne (aA rfl)).trans ((dL fun _ _=>aA rfl).trans hd1)⟩
 apply aB
 ·apply SS.cast (σ1:=sgS g2 τ (vals.foldl (fun z p=>z++[p]) [])) (σ2:=sgS g2 τ vals)
  ·apply nN (α:=Int×List UInt8) (xs:=vals) (Z:=List (Int×List UInt8)) (fun p=>.int p.1) (fun _=>[("other",.ref (lI g')),("self",.ref (lI g))]) (fun z=>sgS g2 τ z) (fun z p=>z++[p]) (fun i z=>z=vals.take i) []
   ·have k0:=key [] (fun _ h=>by cases h);have hi:=k0.1.hi;have hd:=k0.1.hd;apply ItE.of
    ·k_extra"e"
     rfl'
    ·exact pJ (f:=fun p=>.ref (lo g p.1)) k0.1.hv
   ·rfl
   ·rfl
   ·intro i z hz2 e;rw[(key z fun p hp=>List.mem_of_mem_take (hz2▸hp)).1.hv] at e;cases e
   ·intro i z a hz ha;rw[hz,Hy,ha];rfl
   ·intro i z a g3 hz2 ha;have ha0:=Bd ha;have hra:=M.rg a ha0;have hza:=hz a ha0;have hnz:aL z a.1=none:=by rw[hz2];exact tI M.nd ha
    have hva:=bP M.nd (k:=a.1) (x:=a.2) ha0;have hfz:sgS g2 τ z (lo g2 a.1)=none:=by
     refine upd_none (aA rfl) ((dL fun p hp=>jE ?_).trans (ho1 a.1 hra.1 (by exact hra.2)));intro e;exact cA.mp hnz (by rw[e];exact Fs hp)
    have hlz:(z.map fun p=>(p.1,Sh.ref (lo g2 p.1))).length<=1000:=by
     rw[Ag,hz2,Kc];exact aQz hl
    rw[<-xI hnz];have key:=key z fun p hp=>List.mem_of_mem_take (hz2▸hp);have hi:=key.1.hi;have hd:=key.1.hd;have hv:=key.1.hv;have ho:=key.1.ho a ha0;have hi2:=key.2.1;have hd2:=key.2.2;have hv2:sgS g2 τ z (lV g2)=some (.idict (z.map fun p=>(p.1,.ref (lo g2 p.1)))):=aC;generalize sgS g2 τ z=τz at*;apply SS.weak
    ·apply aB
     ·apply dK (sh:=.ref (lo g2 a.1))
      ·apply aM
       ·rfl'
       ·rfl'
       ·rfl'
       ·exact mT (lo g2 a.1) ho hza hfz
       ac_rfl
      all_goals rfl'
     rfl'
    ·rfl'
   all_goals first|exact rfl|exact fun _ h=>h.elim
  ·rfl
  ·rw[fM (fun p=>p)];simp
 rfl'
theorem aHo{α:Type}(bks:List (List α)):(upI 0 bks.length).map (fun i=>bks.getD i.toNat [])=bks:=by
 apply List.ext_getElem?;intro i;unfold upI;rw[Bq,Ci];by_cases h:i<bks.length
 ·rw[Hf (by exact aVo h),Ba h];simp[Ay,Ba h]
 ·rw[El (by simp;exact Fc.mp h),El (by exact Fc.mp h)];rfl
theorem eI(h:g2.g=g'.g):lI g'=lI g2:=by show(1,g'.g)=(1,g2.g);rw[h]
theorem eD(h:g2.g=g'.g):lD g'=lD g2:=by show(2,g'.g)=(2,g2.g);rw[h]
theorem eK(h:g2.g=g'.g):lK g'=lK g2:=by show(4,g'.g)=(4,g2.g);rw[h]
structure Fresh3(σ:Sg)(g g' g2:Gn):Prop where
 gg:g2.g=g'.g
 hh:¬g2.h=g'.h
 f1:∀l,own g' l->σ l=none
 f2:∀l,own g2 l->σ l=none
 d1:∀l,own g l->¬own g' l
 d2:∀l,own g l->¬own g2 l
theorem tL(h:¬g2.h=g'.h):¬own g' (lV g2):=by
 rintro(⟨h1|h1|h1,_⟩| ⟨_,h2⟩| ⟨h1|h1,_⟩)
 ·cases h1
 ·cases h1
 ·cases h1
 ·exact h h2
 ·cases h1
 ·cases h1
theorem aEl(h:¬g2.h=g'.h):¬own g' (lB g2):=by
 rintro(⟨h1|h1|h1,_⟩| ⟨_,h2⟩| ⟨h1|h1,_⟩)
 ·cases h1
 ·cases h1
 ·cases h1
 ·exact h h2
 ·cases h1
 ·cases h1
theorem nA(h:¬g2.h=g'.h){s:Int}(hs:0<=s/\s<1000):¬own g' (lo g2 s):=by
 rintro(⟨h1|h1|h1,_⟩| ⟨h1|h1,_⟩| ⟨_,h2,h3⟩)
 ·cases h1
 ·cases h1
 ·cases h1
 ·cases h1
 ·cases h1
 ·dsimp only at h2 h3;omega
theorem aEk(h:¬g2.h=g'.h){s:Int}(hs:0<=s/\s<1000):¬own g' (lb g2 s):=by
 rintro(⟨h1|h1|h1,_⟩| ⟨h1|h1,_⟩| ⟨_,h2,h3⟩)
 ·cases h1
 ·cases h1
 ·cases h1
 ·cases h1
 ·cases h1
 ·dsimp only at h2 h3;omega
theorem aKa(M:MapB σ g m vals)(hk:m.k≠.hsh)(hW:eM m.k m.kw m.vw m.most)(hn:0<=m.num/\m.num<64)(Fr:Fresh3 σ g g' g2)(hz:∀p∈vals,p.2.length<=1000)(hl:vals.length<=100):
  ∃σ',FN w 7 (.ref 285) [.ref (lI g)] σ (.ref (lI g2)) σ'/\MapB σ' g2 m vals/\∀l,¬own g' l->¬own g2 l->σ' l=σ l:=by
 obtain⟨σ1,T,M1,O1⟩:=aJu (w:=w) (g':=g') M hk hW hn Fr.f1;have C:=nZ (w:=w) (g2:=g2) M rfl rfl T M1.hi M1.hd (fun l hl=>O1 l (Fr.d1 l hl)) (fun l hl=>⟨Fr.d2 l hl,fun e=>Fr.d1 l hl (by rw[e];exact eZ)⟩) Fr.hh
  ((O1 _ (tL Fr.hh)).trans (Fr.f2 _ eV)) (fun s h0 h1=>(O1 _ (nA Fr.hh (by exact⟨h0,ilt h1⟩))).trans (Fr.f2 _ (eU (by exact⟨h0,ilt h1⟩)))) hz hl
 rw[eI Fr.gg] at C;have ekv:bW (kvs m g') "values" (.ref (lV g2))=kvs m g2:=by
  unfold kvs
  cases e:m.k with
  |hsh=>exact absurd e hk
  |arr=>rfl
  |row=>rfl
 refine⟨_,C,⟨?_,?_,aC,fun p hp=>(upd_ne (aA rfl)).trans (uO M.nd hp),M.rg,M.nd⟩,fun l h1 h2=>?_⟩
 ·rw[<-eI Fr.gg,<-eD Fr.gg];exact(upd_ne (aA rfl)).trans ((dL fun _ _=>aA rfl).trans ((upd_ne (aA rfl)).trans M1.hi))
 ·rw[<-eD Fr.gg,ekv];exact(upd_ne (aA rfl)).trans ((dL fun _ _=>aA rfl).trans aC)
 ·exact(upd_ne fun e=>h2 (by rw[e];exact eV)).trans ((lH M.rg l h2).trans ((upd_ne fun e=>h1 (by rw[e];exact eZ)).trans (O1 l h1)))
theorem aIb(M:MapH σ g m vals kbs bks)(hW:eM m.k m.kw m.vw m.most)(hn:0<=m.num/\m.num<64)(Fr:Fresh3 σ g g' g2)(hz:∀p∈vals,p.2.length<=1000)(hl:vals.length<=100)(hkl:kbs.length<=100)(nd:(kbs.map (·.1)).Nodup)(hbz:∀l∈bks,l.length<=100):
  ∃σ',FN w 8 (.ref 572) [.ref (lI g)] σ (.ref (lI g2)) σ'/\MapH σ' g2 m vals kbs bks/\(∀l,¬own g' l->¬own g2 l->σ' l=σ l)/\∀t,0<=t->t<100->aL vals t=none->σ' (lo g2 t)=none:=by
 obtain⟨σ1,T,M1,O1⟩:=aHy (w:=w) (g':=g') M.toMapB M.kh hW hn Fr.f1;have C:=nZ (w:=w) (g2:=g2) M.toMapB rfl rfl T M1.hi M1.hd (fun l hl=>O1 l (Fr.d1 l hl)) (fun l hl=>⟨Fr.d2 l hl,fun e=>Fr.d1 l hl (by rw[e];exact eZ)⟩) Fr.hh
  ((O1 _ (tL Fr.hh)).trans (Fr.f2 _ eV)) (fun s h0 h1=>(O1 _ (nA Fr.hh (by exact⟨h0,ilt h1⟩))).trans (Fr.f2 _ (eU (by exact⟨h0,ilt h1⟩)))) hz hl
 have ekv:bW (bW (kvs m g') "values" (.ref (lV g2))) "buckets" (.ref (lB g2))=kvs m g2:=by
  unfold kvs ext;rw[M.kh,<-eK Fr.gg]
  rfl
 have hlen:=M.len;have a1:∀l,own g l->sgS g2 (upd σ1 (lD g') (.sdict (bW (kvs m g') "values" (.ref (lV g2))))) vals l=σ l:=fun l hl=>
  (upd_ne fun e=>Fr.d2 l hl (by rw[e];exact eV)).trans ((lH M.rg l (Fr.d2 l hl)).trans ((upd_ne fun e=>Fr.d1 l hl (by rw[e];exact eZ)).trans (O1 l (Fr.d1 l hl))))
 have a2:sgS g2 (upd σ1 (lD g') (.sdict (bW (kvs m g') "values" (.ref (lV g2))))) vals (lI g')=some (.inst 582 (lD g')):=
  (upd_ne (aA rfl)).trans ((dL fun _ _=>aA rfl).trans ((upd_ne (aA rfl)).trans M1.hi2))
 have a3:sgS g2 (upd σ1 (lD g') (.sdict (bW (kvs m g') "values" (.ref (lV g2))))) vals (lD g')=some (.sdict (bW (kvs m g') "values" (.ref (lV g2)))):=
  (upd_ne (aA rfl)).trans ((dL fun _ _=>aA rfl).trans aC)
 have a4:sgS g2 (upd σ1 (lD g') (.sdict (bW (kvs m g') "values" (.ref (lV g2))))) vals (lK g')=some (.idict (([]:List (Int×List UInt8)).map fun p=>(p.1,.bytes p.2))):=
  (upd_ne (aA rfl)).trans ((dL fun _ _=>aA rfl).trans ((upd_ne (aA rfl)).trans M1.hK))
 have a5:sgS g2 (upd σ1 (lD g') (.sdict (bW (kvs m g') "values" (.ref (lV g2))))) vals (lV g2)=some (.idict (vals.map fun p=>(p.1,.ref (lo g2 p.1)))):=aC;have a6:∀p∈vals,sgS g2 (upd σ1 (lD g') (.sdict (bW (kvs m g') "values" (.ref (lV g2))))) vals (lo g2 p.1)=some (.ba p.2):=fun p hp=>(upd_ne (aA rfl)).trans (uO M.nd hp);have a7:sgS g2 (upd σ1 (lD g') (.sdict (bW (kvs m g') "values" (.ref (lV g2))))) vals (lB g2)=none:=
  upd_none (aA rfl) ((dL fun _ _=>aA rfl).trans (upd_none (aA rfl) ((O1 _ (aEl Fr.hh)).trans (Fr.f2 _ tK))))
 have a8:∀s,0<=s->s<100->sgS g2 (upd σ1 (lD g') (.sdict (bW (kvs m g') "values" (.ref (lV g2))))) vals (lb g2 s)=none:=fun s h0 h1=>
  upd_none (aA rfl) ((dL fun _ _=>aA rfl).trans (upd_none (aA rfl) ((O1 _ (aEk Fr.hh (by exact⟨h0,ilt h1⟩))).trans (Fr.f2 _ (lL (by exact⟨h0,ilt h1⟩))))))
 have a9:∀l,¬own g' l->¬own g2 l->sgS g2 (upd σ1 (lD g') (.sdict (bW (kvs m g') "values" (.ref (lV g2))))) vals l=σ l:=fun l h1 h2=>
  (upd_ne fun e=>h2 (by rw[e];exact eV)).trans ((lH M.rg l h2).trans ((upd_ne fun e=>h1 (by rw[e];exact eZ)).trans (O1 l h1)))
 have a10:∀t,0<=t->t<100->aL vals t=none->sgS g2 (upd σ1 (lD g') (.sdict (bW (kvs m g') "values" (.ref (lV g2))))) vals (lo g2 t)=none:=fun t h0 h1 h=>
  upd_none (aA rfl) ((dL fun p hp=>jE fun e=>cA.mp h (Aq.mpr ⟨p,hp,e.symm⟩)).trans (upd_none (aA rfl) ((O1 _ (nA Fr.hh (by exact⟨h0,ilt h1⟩))).trans (Fr.f2 _ (eU (by exact⟨h0,ilt h1⟩))))))
 have hgk:aY (bW (kvs m g') "values" (.ref (lV g2))) "key_by_slot"=some (.ref (lK g')):=by unfold kvs;rw[M.kh];rfl
 generalize sgS g2 (upd σ1 (lD g') (.sdict (bW (kvs m g') "values" (.ref (lV g2))))) vals=τ at*;have hKlen:(bW (kvs m g') "values" (.ref (lV g2))).length<=900:=by unfold kvs;rw[M.kh];exact Aa rfl
 have hKlen2:(bW (kvs m g') "values" (.ref (lV g2))).length<=900:=hKlen;generalize bW (kvs m g') "values" (.ref (lV g2))=KV at*;have MA:MapH τ g m vals kbs bks:=M.frame a1;have nK:lK g'≠lK g:=fun e=>Fr.d1 _ jZ (by rw[<-e];exact jZ);have nK':¬(lK g'=lK g):=nK;refine⟨upd (upd (bkL g2 (upd τ (lK g') (.idict (kbs.map fun p=>(p.1,.bytes p.2)))) bks) (lB g2) (.list ((upI 0 bks.length).map fun i=>.ref (lb g2 i)))) (lD g') (.sdict (kvs m g2)),?_,?_,?_,fun t h0 h1 h=>(upd_ne (aA rfl)).trans ((upd_ne (aA rfl)).trans ((cP fun _ _=>aA rfl).trans ((upd_ne (aA rfl)).trans (a10 t h0 h1 h))))⟩
 ·have key:∀z:List (Int×List UInt8),MapH (upd τ (lK g') (.idict (z.map fun p=>(p.1,.bytes p.2)))) g m vals kbs bks:=fun z=>MA.frame fun l hl=>upd_ne fun e=>Fr.d1 l hl (by rw[e];exact jZ);have kI:∀z:List (Int×List UInt8),upd τ (lK g') (.idict (z.map fun p=>(p.1,.bytes p.2))) (lI g')=some (.inst 582 (lD g')):=fun z=>(upd_ne (aA rfl)).trans a2;have kD:∀z:List (Int×List UInt8),upd τ (lK g') (.idict (z.map fun p=>(p.1,.bytes p.2))) (lD g')=some (.sdict KV):=fun z=>(upd_ne (aA rfl)).trans a3;have kb:∀s,0<=s->s<100->upd τ (lK g') (.idict (kbs.map fun p=>(p.1,.bytes p.2))) (lb g2 s)=none:=fun s h0 h1=>upd_none (aA rfl) (a8 s h0 h1);have kB:upd τ (lK g') (.idict (kbs.map fun p=>(p.1,.bytes p.2))) (lB g2)=none:=upd_none (aA rfl) a7;have kM:=key kbs;have kI1:=kI kbs;have kD1:=kD kbs;have hD:Dom σ (upd (upd (bkL g2 (upd τ (lK g') (.idict (kbs.map fun p=>(p.1,.bytes p.2)))) bks) (lB g2) (.list ((upI 0 bks.length).map fun i=>.ref (lb g2 i)))) (lD g') (.sdict (kvs m g2))):=
   C.dom.trans (Dom.upd.trans (vS.trans (Dom.trans Dom.upd Dom.upd)))
  have eτ:τ=upd τ (lK g') (.idict (([]:List (Int×List UInt8)).map fun p=>(p.1,.bytes p.2))):=(jA a4).symm;obtain⟨τ2,hτ2⟩:∃τ2,upd τ (lK g') (.idict (kbs.map fun p=>(p.1,.bytes p.2)))=τ2:=⟨_,rfl⟩;rw[hτ2] at kb kB kM kI1 kD1 hD ⊢;rw[<-eI Fr.gg];refine aS hD (by k_is) (by k_is) ["self"] [("self",.ref (lI g))] rfl (fun s=>eA fun _=>Ah rfl) (fun A base outer g0 mg mb L=>?_);have hi0:=M.hi2;have hd0:=M.hd;have hh:=M.kh;apply Af;apply SS.cast
  ·apply aB
   ·apply SS.cast (σ2:=upd τ (lK g') (.idict (([]:List (Int×List UInt8)).map fun p=>(p.1,.bytes p.2))))
    ·apply dJ
     ·apply nQ (mc:=.type "type")
      ·rfl'
      ·k_is
      ·k_is
      ·k_is
      ·exact Keeps.K (by k_is)
      ·rfl'
      ·rfl'
      ac_rfl
     all_goals first|exact rfl|decide +kernel
    ·rfl
    ·exact eτ
   apply aB
   ·apply SS.cast (σ1:=upd τ (lK g') (.idict ((kbs.foldl (fun z p=>z++[p]) []).map fun p=>(p.1,.bytes p.2)))) (σ2:=τ2)
    ·apply nN (α:=Int×List UInt8) (xs:=kbs) (Z:=List (Int×List UInt8)) (fun p=>.int p.1) (fun _=>[("other",.ref (lI g')),("self",.ref (lI g))]) (fun z=>upd τ (lK g') (.idict (z.map fun p=>(p.1,.bytes p.2)))) (fun z p=>z++[p]) (fun i z=>z=kbs.take i) []
     ·have hi:=(key []).hi2;have hd:=(key []).hd;apply ItE.of
      ·k_extra"e"
       rfl'
      ·exact pJ (f:=fun p=>.bytes p.2) (key []).hK
     ·rfl
     ·rfl
     ·intro i z _ e;rw[(key z).hK] at e;cases e
     ·intro i z a hz ha;rw[hz,Hy,ha];rfl
     ·intro i z a g3 hz2 ha;have ha0:=Bd ha;have hnz:aL z a.1=none:=by rw[hz2];exact tI nd ha
      have hva:=bP nd (k:=a.1) (x:=a.2) ha0;have hlz:(z.map fun p=>(p.1,Sh.bytes p.2)).length<=1000:=by
       rw[Ag,hz2,Kc];exact aQz hkl
      have es:upd (upd τ (lK g') (.idict (z.map fun p=>(p.1,.bytes p.2)))) (lK g') (.idict (bW (z.map fun p=>(p.1,Sh.bytes p.2)) a.1 (.bytes a.2)))=upd τ (lK g') (.idict ((z++[a]).map fun p=>(p.1,.bytes p.2))):=by
       have e:=dpm (f:=fun p:Int×List UInt8=>Sh.bytes p.2) (x:=a.2) hnz;dsimp only at e;rw[aX,e];unfold vput;rw[hnz]
       rfl
      rw[<-es];have hi:=(key z).hi2;have hd:=(key z).hd;have hK:=(key z).hK;have hi2:=kI z;have hd2:=kD z;have hK2:upd τ (lK g') (.idict (z.map fun p=>(p.1,.bytes p.2))) (lK g')=some (.idict (z.map fun p=>(p.1,.bytes p.2))):=aC;generalize upd τ (lK g') (.idict (z.map fun p=>(p.1,.bytes p.2)))=τz at*;apply SS.weak
      ·apply aB
       ·apply dK (sh:=.bytes a.2)
        all_goals rfl'
       rfl'
      ·rfl'
     all_goals first|exact rfl|exact fun _ h=>h.elim
    ·rfl
    ·rw[fM (fun p=>p),<-hτ2];simp
   have kB2:∀z,bkL g2 τ2 z (lB g)=τ2 (lB g):=fun z=>cP fun _ _=>aA rfl;have hB2:=kM.hB;have ef:(upI 0 bks.length).foldl (fun(z:List (List Int)) (i:Int)=>z++[bks.getD i.toNat []]) []=bks:=by
    rw[fM (fun i:Int=>bks.getD i.toNat []),Kn];exact aHo bks
   have upd_none_bk:bkL g2 τ2 bks (lB g2)=none:=(cP fun _ _=>aA rfl).trans kB;have kI2:bkL g2 τ2 bks (lI g')=some (.inst 582 (lD g')):=(cP fun _ _=>aA rfl).trans kI1;have kD2:bkL g2 τ2 bks (lD g')=some (.sdict KV):=(cP fun _ _=>aA rfl).trans kD1;apply aB
   ·apply fP
    ·apply EV.cast (σ1:=upd (bkL g2 τ2 ((upI 0 bks.length).foldl (fun(z:List (List Int)) (i:Int)=>z++[bks.getD i.toNat []]) [])) (lB g2) (.list (uR (fun(z:List (List Int)) (i:Int)=>z++[bks.getD i.toNat []]) (fun _ i=>.ref (lb g2 i)) (upI 0 bks.length) []))) (σ2:=upd (bkL g2 τ2 bks) (lB g2) (.list ((upI 0 bks.length).map fun i=>.ref (lb g2 i))))
     ·apply wL (α:=Int) (Z:=List (List Int)) (xs:=upI 0 bks.length) (fun i=>.ref (lb g i)) (fun _ i=>.ref (lb g2 i)) (bkL g2 τ2) (fun z i=>z++[bks.getD i.toNat []]) (fun i z=>z.length=i) (lB g2) []
      ·have hi:=kM.hi2;have hd:=kM.hd;apply ItE.of
       ·apply EV.cast
        ·k_extra"e"
         rfl'
        ·rfl
        ·rfl
       ·exact cW hB2
      ·apply LcOk.none
       ·exact rfl
       ·decide +kernel
      ·rfl
      ·exact fun i z _=>(kB2 z).trans hB2
      ·intro i z a hz ha;rw[Cz,hz];rfl
      ·rw[ef];exact upd_none_bk
      ·rw[ef];exact vS
      ·intro i z a g3 C hz ha;have ha0:=bJ.mp (Bd ha);have ea:a=(z.length:Int):=by
        obtain⟨h1,h2⟩:=As.mp ha;unfold upI at h2;simp at h2;exact aRa hz h2
       have hl:a.toNat<bks.length:=by exact aGu ha0.1 ha0.2
       have hg:bks[a.toNat]? = some (bks.getD a.toNat []):=by rw[Ay,Ba hl];rfl
       have hbl:=hbz _ (Bd hg);have hbk:=kM.hbk a _ ha0.1 hg;have hbk2:bkL g2 τ2 z (lb g a)=some (.list ((bks.getD a.toNat []).map .int)):=(cP fun j hj e=>Fr.d2 _ (lL (g:=g) (i:=a) (by exact aVn hlen ha0)) (by rw[e];exact lL (by exact aVm hlen hz ha0 ea hj))).trans hbk;have hfr:bkL g2 τ2 z (lb g2 (z.length:Int))=none:=(cP fun j hj=>aCp (by exact bO (Df.mpr hj))).trans (kb _ (by exact oU) (by exact aVl hlen hz ha0 ea));rw[yT];rw[ea] at hbk2 ⊢;apply aM
       ·k_extra"e"
        rfl'
       ·rfl'
       ·rfl'
       ·exact aGp (lb g2 (z.length:Int)) hbk2 (by rw[Ag];rw[ea] at hbl;exact nle hbl) hfr
       ac_rfl
      ·exact fun _ h=>h
      ·rw[aU];exact aVk hlen
     ·rfl
     ·rw[ef,qE _ _ (fun i=>.ref (lb g2 i)) _ _ (fun _ _ _ _=>rfl)]
    all_goals rfl'
   rfl'
  ·rfl
  ·rw[ekv]
 ·refine⟨⟨?_,(by rw[<-eD Fr.gg];exact aC),?_,fun p hp=>?_,M.rg,M.nd⟩,M.kh,?_,?_,fun i l h0 hl=>?_,M.len⟩
  ·rw[M.kh,<-eI Fr.gg,<-eD Fr.gg];exact(upd_ne (aA rfl)).trans ((upd_ne (aA rfl)).trans ((cP fun _ _=>aA rfl).trans ((upd_ne (aA rfl)).trans a2)))
  ·exact(upd_ne (aA rfl)).trans ((upd_ne (aA rfl)).trans ((cP fun _ _=>aA rfl).trans ((upd_ne (aA rfl)).trans a5)))
  ·exact(upd_ne (aA rfl)).trans ((upd_ne (aA rfl)).trans ((cP fun _ _=>aA rfl).trans ((upd_ne (aA rfl)).trans (a6 p hp))))
  ·rw[<-eK Fr.gg];exact(upd_ne (aA rfl)).trans ((upd_ne (aA rfl)).trans ((cP fun _ _=>aA rfl).trans aC))
  ·exact(upd_ne (aA rfl)).trans aC
  ·have:=aDa (g:=g2) (σ:=upd τ (lK g') (.idict (kbs.map fun p=>(p.1,.bytes p.2)))) hl;rw[show((i.toNat:Nat):Int)=i by exact aOw h0] at this;exact(upd_ne (aA rfl)).trans ((upd_ne (aA rfl)).trans this)
 ·intro l h1 h2;exact(upd_ne fun e=>h1 (by rw[e];exact eZ)).trans ((upd_ne fun e=>h2 (by rw[e];exact tK)).trans ((yU (by exact aVi hlen) l h2).trans ((upd_ne fun e=>h1 (by rw[e];exact jZ)).trans (a9 l h1 h2))))
noncomputable abbrev lW:Lbl:=(8,0)
noncomputable abbrev lR:Lbl:=(9,0)
noncomputable abbrev lS:Lbl:=(10,0)
noncomputable abbrev lP:Lbl:=(11,0)
theorem aMw{l:Lbl}{p:Pen}{many:Int}(hl:σ l=some p.ob)(hk:0<=p.k)(hk2:p.k<=100000)(hm:0<many)(hm2:many<=1000000):
  FN w 1 (.ref 598) [.ref l,.int many] σ (.int (p.digit many)) (upd σ l (p.next many).ob):=by
 obtain⟨n,k⟩:=p;have hl':σ l=some (.list [.int n,.int k]):=hl;have hk:0<=k:=hk;have hk2:k<=100000:=hk2;refine aS Dom.upd (by k_is) (by k_is) ["pen","many"] [("many",.int many),("pen",.ref l)] rfl (fun s=>cF fun _ _=>Ah rfl) (fun A base outer g mg mb L=>?_);by_cases h:n=0
 ·apply Af;apply SS.cast
  ·apply aB
   ·apply aP
    ·apply EB.cast
     ·rfl'
     ·simp[h]
    ·rfl'
   rfl'
  ·simp[Pen.digit,Pen.norm,h]
  ·rw[aX,aX];simp[Pen.next,Pen.norm,Pen.ob,h]
 ·apply Af;apply SS.cast
  ·apply aB
   ·apply aD
    ·apply EB.cast
     ·rfl'
     ·simp[h]
    ·rfl'
   rfl'
  ·simp[Pen.digit,Pen.norm,h]
  ·simp[Pen.next,Pen.norm,Pen.ob,h]
theorem aR{p:Pen}{many:Int}(hm:0<many):0<=p.digit many/\p.digit many<many:=⟨Int.fmod_nonneg_of_pos _ hm,Int.fmod_lt_of_pos _ hm⟩
theorem fT{p:Pen}{many:Int}:p.k<=(p.next many).k/\(p.next many).k<=p.k+1:=by
 k_with"f"=>apply aMw;assumption;assumption;assumption;omega;omega
 unfold Pen.next Pen.norm;by_cases h:p.n=0 <;> simp[h] <;> omega
theorem dG{l ls:Lbl}{p:Pen}{x:Sh}(hl:σ l=some p.ob)(hs:σ ls=some (.list xs))(hn:ls≠l)(hk:0<=p.k)(hk2:p.k<=100000)(h0:0<xs.length)(h1:xs.length<=1000)(hx:xs[(p.digit xs.length).toNat]? = some x):
  FN w 2 (.ref 605) [.ref l,.ref ls] σ x (upd σ l (p.next xs.length).ob):=by
 have hr:=aR (p:=p) (many:=xs.length) (by exact ugt h0);obtain⟨hr0,hr1⟩:=hr;refine aS Dom.upd (by k_is) (by k_is) ["pen","some"] [("some",.ref ls),("pen",.ref l)] rfl (fun s=>cF fun _ _=>Ah rfl) (fun A base outer g mg mb L=>?_);apply Af;rfl'
noncomputable def iI:Nat->Pen->List Int
 |0,_=>[]
 |n+1,p=>p.digit 256::iI n (p.next 256)
noncomputable def gW:Nat->Pen->Pen
 |0,p=>p
 |n+1,p=>gW n (p.next 256)
theorem aHd:∀(n:Nat) (p:Pen),p.k<=(gW n p).k/\(gW n p).k<=p.k+n
 |0,p=>by simp[gW]
 |n+1,p=>by
  have h1:=aHd n (p.next 256);have h2:=fT (p:=p) (many:=256);unfold gW;exact aVg h1 h2
theorem lC:∀(n:Nat) (p:Pen),∀x∈iI n p,0<=x/\x<256
 |0,_,x,h=>by cases h
 |n+1,p,x,h=>by
  rcases An.mp h with rfl|h
  ·exact aR (by decide)
  ·exact lC n _ x h
theorem kJ:∀(n:Nat) (p:Pen),(iI n p).length=n
 |0,_=>rfl
 |n+1,p=>by unfold iI;rw[Fu,kJ n]
theorem pQ:∀(l:List Int) (p:Pen),uR (fun(p:Pen) (_:Int)=>p.next 256) (fun p _=>.int (p.digit 256)) l p=(iI l.length p).map .int
 | [],_=>rfl
 |_::l,p=>by
  show _::_=_;rw[pQ l];rfl
theorem tH:∀(l:List Int) (p:Pen),l.foldl (fun(p:Pen) (_:Int)=>p.next 256) p=gW l.length p
 | [],_=>rfl
 |_::l,p=>tH l _
noncomputable def eJ(n:Int)(p:Pen):List UInt8:=(iI n.toNat p).map fun n=>n.toNat.toUInt8
noncomputable def wkv(m:MC)(g:Gn):List (Str×Sh):=[("kind",.str m.k.name),("most",.int m.most),("number",.int m.num),("key",.int m.kw),("value",.int m.vw),("map",.ref (lI g)),("rooms",.ref lR),("slots",.ref lS)]
theorem wW{p:Pen}(hp:σ lP=some p.ob)(hw:σ lW=some (.sdict (wkv m g)))(hk:0<=p.k)(hk2:p.k<=50000)(hv:0<=m.vw/\m.vw<=100):
  FN w 2 (.ref 615) [.ref lP,.ref lW] σ (.bytes (eJ m.vw p)) (upd σ lP (gW m.vw.toNat p).ob):=by
 refine FN.fresh Dom.upd fun k hkf=>?_;have h0:=hkf k (Az _);have hne:lP≠(0,k):=aA rfl;have e1:upd σ lP p.ob=σ:=jA hp;have el:(upI 0 m.vw).length=m.vw.toNat:=by rw[aU];congr 1;exact aVf
 refine cM Dom.upd (by k_is) (by k_is) ["pen","world"] [("world",.ref lW),("pen",.ref lP)] rfl (fun s=>cF fun _ _=>Ah rfl) (by decide) (dA _) (dH (by decide +kernel)) (fun A base outer g mg mb L=>?_);apply Af;apply aQ;apply bU;apply EV.drop (L:=Less.last (n:=(0,k)) (B:=.list ((iI m.vw.toNat p).map .int)) Dom.upd (upd_none (Bw hne) h0) (aPt fun _=>mZ)) (k:=.bytes _);apply aM
 ·k_extra"e"
 ·k_extra"e"
 ·apply aJ
  ·apply EV.cast (σ1:=upd (upd σ lP ((upI 0 m.vw).foldl (fun(p:Pen) (_:Int)=>p.next 256) p).ob) (0,k) (.list (uR (fun(p:Pen) (_:Int)=>p.next 256) (fun p _=>.int (p.digit 256)) (upI 0 m.vw) p))) (σ2:=upd (upd σ lP (gW m.vw.toNat p).ob) (0,k) (.list ((iI m.vw.toNat p).map .int)))
   ·apply wL (α:=Int) (Z:=Pen) (xs:=upI 0 m.vw) .int (fun p _=>.int (p.digit 256)) (fun p=>upd σ lP p.ob) (fun p _=>p.next 256) (fun i q=>p.k<=q.k/\q.k<=p.k+i) (0,k) p
    ·rw[e1];apply dM
     ·rfl'
     ·rfl'
     ·exact⟨ige hv.1,ile hv.2⟩
     all_goals exact rfl
    ·apply LcOk.one
     ·exact rfl
     ·exact rfl
     ·rfl'
     ·exact fun _=>rfl
     ·decide +kernel
     ·decide
    ·simp
    ·exact fun _ _ _=>trivial
    ·intro i q a hq ha;have:=fT (p:=q) (many:=256);exact aVe hq this
    ·exact upd_none (Bw hne) h0
    ·rw[e1];exact Dom.upd
    ·intro i q a g2 C hq ha;have hi:=(As.mp ha).1;rw[aU] at hi;have hq0:0<=q.k:=by exact Ac hk hq.1
     have hq1:q.k<=100000:=by exact aVd hk hk2 hv hq hi
     have hP:upd σ lP q.ob lP=some q.ob:=aC;have ew:upd σ lP (q.next 256).ob=upd (upd σ lP q.ob) lP (q.next 256).ob:=aX.symm;rw[ew];rfl'
    ·exact fun _ h=>h.elim
    ·rw[aU];exact jB hv.2
   ·rfl
   ·rw[pQ,tH,el]
  ·rfl'
  ac_rfl
 ·apply dR (ns:=iI m.vw.toNat p)
  ·exact aC
  ·exact lC _ _
  ·rw[kJ];exact zU hv.2
 ac_rfl
noncomputable abbrev aPl(n:Int)(i:Int):Int:=(n.fdiv (256 ^ i.toNat)).fmod 256
noncomputable def bG(n kw:Int):List UInt8:=(upI 0 kw).map fun i=>(aPl n i).toNat.toUInt8
theorem eB{n:Int}(h:0<=kw):((bG n kw).length:Int)=kw:=by unfold bG;rw[Ag,aU];exact aVj h
theorem aOz{i:Int}(h0:0<=i)(h1:i<4):0< (256:Int) ^ i.toNat/\(256:Int) ^ i.toNat<1073741824:=by
 have:i=0\/i=1\/i=2\/i=3:=by exact aQy h0 h1
 rcases this with rfl|rfl|rfl|rfl <;> decide
theorem kS{n:Int}(hw:σ lW=some (.sdict (wkv m g)))(hk:0<=m.kw/\m.kw<=4):FN w 1 (.ref 610) [.ref lW,.int n] σ (.bytes (bG n m.kw)) σ:=by
 refine FN.fresh (Dom.refl σ) fun k hkf=>?_;have h0:=hkf k (Az _);refine cM (Dom.refl σ) (by k_is) (by k_is) ["world","number"] [("number",.int n),("world",.ref lW)] rfl (fun s=>cF fun _ _=>Ah rfl) (by decide) (dA _) (dH (by decide +kernel)) (fun A base outer g0 mg mb L=>?_);apply Af;apply SS.cast
 ·apply aQ;apply bU;apply EV.drop (L:=Less.one (n:=(0,k)) h0) (k:=.bytes _);apply aM
  ·k_extra"e"
  ·k_extra"e"
  ·apply aJ
   ·apply iD (α:=Int) .int (fun i=>.int (aPl n i)) (0,k)
    ·apply dM
     ·rfl'
     ·rfl'
     ·exact⟨ige hk.1,ile hk.2⟩
     all_goals exact rfl
    ·apply LcOk.one
     ·exact rfl
     ·exact rfl
     ·rfl'
     ·exact fun _=>rfl
     ·decide +kernel
     ·decide
    ·trivial
    ·exact h0
    ·intro i g C hi;have hi:=bJ.mp hi;have hp:=aOz (i:=i) hi.1 (by exact Am hi.2 hk.2);rfl'
    ·exact fun _ h=>h.elim
    ·rw[aU];exact jB hk.2
   ·rfl'
   ac_rfl
  ·apply dR (ns:=(upI 0 m.kw).map fun i=>aPl n i)
   ·rw[aC,Bq];rfl
   ·intro x hx;obtain⟨i,_,rfl⟩:=Aq.mp hx;exact⟨Int.fmod_nonneg_of_pos _ (by decide),Int.fmod_lt_of_pos _ (by decide)⟩
   ·rw[Ag,aU];exact jB hk.2
  ac_rfl
 ·rw[Bq];rfl
 ·rfl
noncomputable def cZ(m:MC)(kbs:List (Int×List UInt8))(n p:Int):Option Int:=match m.k with
 | .hsh=>(kbs.find? fun q=>q.2=bG n m.kw).map (·.1)
 | .arr=>if n>=m.most then none else some n
 | .row=>if n>=m.most then none else some (n*4+p)
theorem aFf(kbs:List (Int×List UInt8))(b:List UInt8):(aY (kbs.map fun p=>(p.2,Sh.int p.1)) b).getD .none=iU ((kbs.find? fun q=>q.2=b).map (·.1)):=by
 k_with"f"=>apply kS;assumption;assumption
 unfold aY;rw[Nk]
 cases h:kbs.find? fun q=>q.2=b with
 |none=>
  have:kbs.find? ((fun kv:List UInt8×Sh=>decide (kv.1=b))∘fun p=>(p.2,Sh.int p.1))=none:=h;rw[this];rfl
 |some q=>
  have:kbs.find? ((fun kv:List UInt8×Sh=>decide (kv.1=b))∘fun p=>(p.2,Sh.int p.1))=some q:=h;rw[this];rfl
theorem eW{n p:Int}(hw:σ lW=some (.sdict (wkv m g)))(hs:σ lS=some (.bdict (kbs.map fun p=>(p.2,.int p.1))))(hk:0<=m.kw/\m.kw<=4):FN w 2 (.ref 627) [.ref lW,.int n,.int p] σ (iU (cZ m kbs n p)) σ:=by
 refine aS (Dom.refl σ) (by k_is) (by k_is) ["world","number","processor"] [("processor",.int p),("number",.int n),("world",.ref lW)] rfl (fun s=>qM fun _ _ _=>Ah rfl) (fun A base outer g' mg mb L=>?_);unfold cZ
 cases hkk:m.k with
 |hsh=>
  apply Af;apply SS.cast
  ·apply aQ;apply aP
   ·apply EB.cast
    ·rfl'
    ·rw[hkk];decide
   rfl'
  ·rw[aFf]
  ·rfl
 |arr=>
  dsimp only;by_cases h:n>=m.most
  ·rw[if_pos h];apply Af;show SS _ _ _ _ (.ret .none) _ _;apply aB
   ·apply aD
    ·apply EB.cast
     ·rfl'
     ·rw[hkk];decide
    ·rfl'
   k_extra"ifr"
   rfl'
  ·rw[if_neg h];apply Af;apply SS.cast
   ·apply aB
    ·apply aD
     ·apply EB.cast
      ·rfl'
      ·rw[hkk];decide
     ·rfl'
    k_extra"iff"
    apply aQ;apply bU;apply bE
    ·apply EB.cast
     ·rfl'
     ·rw[hkk];decide
    ·rfl'
   ·rfl
   ·rfl
 |row=>
  dsimp only;by_cases h:n>=m.most
  ·rw[if_pos h];apply Af;show SS _ _ _ _ (.ret .none) _ _;apply aB
   ·apply aD
    ·apply EB.cast
     ·rfl'
     ·rw[hkk];decide
    ·rfl'
   k_extra"ifr"
   rfl'
  ·rw[if_neg h];apply Af;apply SS.cast
   ·apply aB
    ·apply aD
     ·apply EB.cast
      ·rfl'
      ·rw[hkk];decide
     ·rfl'
    k_extra"iff"
    apply aQ;apply bU;apply bK
    ·apply EB.cast
     ·rfl'
     ·rw[hkk];decide
    ·rfl'
   ·rfl
   ·rfl
noncomputable def aCc(kbs:List (Int×List UInt8))(b:List UInt8):List (Int×List UInt8):=kbs.filter fun p=>decide (p.2≠b)
noncomputable def oS(m:MC)(kbs:List (Int×List UInt8))(n:Int):Int×List (Int×List UInt8):=match m.k with
 | .hsh=>match kbs.find? fun q=>q.2=bG n m.kw with
  |some _=>(0,aCc kbs (bG n m.kw))
  |none=>(-2,kbs)
 |_=>(-22,kbs)
theorem qZ{b:List UInt8}{q:Option (Int×List UInt8)}(h:(kbs.find? fun q=>q.2=b)=q):aY (kbs.map fun p=>(p.2,Sh.int p.1)) b=q.map fun p=>.int p.1:=by
 subst h;unfold aY;rw[Nk,Option.map_map]
 rfl
theorem aFk{b:List UInt8}:vJ (kbs.map fun p=>(p.2,Sh.int p.1)) b=(aCc kbs b).map fun p=>(p.2,.int p.1):=by
 unfold vJ aCc;rw[List.filter_map];rfl
theorem qR{n:Int}(hw:σ lW=some (.sdict (wkv m g)))(hs:σ lS=some (.bdict (kbs.map fun p=>(p.2,.int p.1))))(hk:0<=m.kw/\m.kw<=4)(hz:kbs.length<=100):
  FN w 2 (.ref 639) [.ref lW,.int n] σ (.int (oS m kbs n).1) (upd σ lS (.bdict ((oS m kbs n).2.map fun p=>(p.2,.int p.1)))):=by
 have hz':(kbs.map fun p=>(p.2,Sh.int p.1)).length<=1000:=by rw[Ag];exact nle hz
 have es:upd σ lS (.bdict (kbs.map fun p=>(p.2,.int p.1)))=σ:=jA hs;refine aS Dom.upd (by k_is) (by k_is) ["world","number"] [("number",.int n),("world",.ref lW)] rfl (fun s=>cF fun _ _=>Ah rfl) (fun A base outer g' mg mb L=>?_);unfold oS;have arr:∀k,m.k=k->k≠.hsh->("hash":Str)≠k.name:=fun k _ h=>by cases k <;> first|decide|exact absurd rfl h
 cases hkk:m.k with
 |hsh=>
  dsimp only
  cases hf:kbs.find? fun q=>q.2=bG n m.kw with
  |some q=>
   have hg:=qZ hf;dsimp only;rw[<-aFk];apply Af;apply aB
   ·apply aD
    ·apply EB.cast
     ·rfl'
     ·rw[hkk];decide
    ·rfl'
   apply aQ;apply bU;apply bK
   ·apply EB.cast
    ·apply dO
     ·apply aDm
      ·k_extra"e"
       rfl'
      ·exact hs
      ·rfl'
      ·exact aBv hs hg hz' (fun h=>h)
      ac_rfl
     ·rfl'
     ·rfl'
     ·exact rfl
    ·rfl
   ·rfl'
  |none=>
   have hg:=qZ hf;dsimp only;rw[es];apply Af;apply SS.cast
   ·apply aB
    ·apply aD
     ·apply EB.cast
      ·rfl'
      ·rw[hkk];decide
     ·rfl'
    apply aQ;apply bU;apply bE
    ·apply EB.cast
     ·apply dO
      ·apply aDm
       ·k_extra"e"
        rfl'
       ·exact hs
       ·rfl'
       ·exact zJ hs hg
       ac_rfl
      ·rfl'
      ·rfl'
      ·exact rfl
     ·rfl
    ·rfl'
   ·rfl
   ·rfl
 |arr=>
  dsimp only;rw[es];apply Af;apply SS.cast
  ·apply aQ;apply aP
   ·apply EB.cast
    ·rfl'
    ·rw[hkk];decide
   rfl'
  ·rfl
  ·rfl
 |row=>
  dsimp only;rw[es];apply Af;apply SS.cast
  ·apply aQ;apply aP
   ·apply EB.cast
    ·rfl'
    ·rw[hkk];decide
   rfl'
  ·rfl
  ·rfl
noncomputable def aI(m:MC)(kbs:List (Int×List UInt8)):List (List UInt8):=match m.k with
 | .hsh=>cL (kbs.map (·.2))
 |_=>cL ((upI 0 m.most).map fun i=>bG i m.kw)
theorem jF(hw:σ lW=some (.sdict (wkv m g)))(hs:σ lS=some (.bdict (kbs.map fun p=>(p.2,.int p.1))))(hk:0<=m.kw/\m.kw<=4)(hz:kbs.length<=50)(hm:0<=m.most/\m.most<=50)(n:Lbl)(hn:σ n=none):
  FN w 2 (.ref 644) [.ref lW] σ (.ref n) (upd σ n (.list ((aI m kbs).map .bytes))):=by
 refine FN.fresh2 n Dom.upd fun k hkf=>?_;obtain⟨h0,hne⟩:=hkf k (Az _);have hz':(kbs.map fun p=>(p.2,Sh.int p.1)).length<=1000:=by rw[Ag];exact nle hz
 have Le:=fun(A B:Ob) (h:OOk (dom (upd σ n B)) B)=>Less.under (σ:=σ) (s:=(0,k)) (n:=n) (A:=A) (B:=B) h0 h;have hr:SOk (dom (upd σ n (.list ((aI m kbs).map .bytes)))) (.ref n):=.ref n (by show upd _ _ _ _≠_;rw[aC];exact fun z=>by cases z);refine cM Dom.upd (by k_is) (by k_is) ["world"] [("world",.ref lW)] rfl (fun s=>eA fun _=>Ah rfl) (by decide) (dA _) (dH (by decide +kernel)) (fun A base outer g' mg mb L=>?_);by_cases hkk:m.k = .hsh
 ·have ek:aI m kbs=cL (kbs.map (·.2)):=by unfold aI;rw[hkk]
  rw[ek] at hr ⊢;apply Af;apply aQ;apply aP
  ·apply EB.cast
   ·rfl'
   ·rw[hkk];decide
  apply aQ;apply bU;apply EV.drop (L:=Le (.list (kbs.map fun p=>.bytes p.2)) (.list ((cL (kbs.map (·.2))).map .bytes)) dE) (k:=hr);apply aM
  ·k_extra"e"
  ·k_extra"e"
  ·apply aJ
   ·apply aM
    ·k_extra"e"
    ·k_extra"e"
    ·rfl'
    ·exact sG (0,k) hs (by exact nle hz) h0
    ac_rfl
   ·rfl'
   ac_rfl
  ·apply cG (bs:=kbs.map (·.2)) n
   ·rw[Bq];exact aC
   ·rw[Ag];exact nle hz
   ·rw[upd_ne (Bw hne)];exact hn
  ac_rfl
 ·have ek:aI m kbs=cL ((upI 0 m.most).map fun i=>bG i m.kw):=by
   unfold aI
   cases e:m.k with
   |hsh=>exact absurd e hkk
   |arr=>rfl
   |row=>rfl
  rw[ek] at hr ⊢;apply Af;apply aB
  ·apply aD
   ·apply EB.cast
    ·rfl'
    ·cases e:m.k with
     |hsh=>exact absurd e hkk
     |arr=>decide
     |row=>decide
   ·rfl'
  apply aQ;apply bU;apply EV.drop (L:=Le (.list ((upI 0 m.most).map fun i=>.bytes (bG i m.kw))) (.list ((cL ((upI 0 m.most).map fun i=>bG i m.kw)).map .bytes)) dE) (k:=hr);apply aM
  ·k_extra"e"
  ·k_extra"e"
  ·apply aJ
   ·apply iD (α:=Int) .int (fun i=>.bytes (bG i m.kw)) (0,k)
    ·apply dM
     ·rfl'
     ·rfl'
     ·exact⟨ige hm.1,ile hm.2⟩
     all_goals exact rfl
    ·apply LcOk.one
     ·exact rfl
     ·exact rfl
     ·rfl'
     ·exact fun _=>rfl
     ·decide +kernel
     ·decide
    ·trivial
    ·exact h0
    ·intro i g C hi;rfl'
    ·exact fun _ h=>h.elim
    ·rw[aU];exact jB hm.2
   ·rfl'
   ac_rfl
  ·apply cG (bs:=(upI 0 m.most).map fun i=>bG i m.kw) n
   ·rw[aC,Bq];rfl
   ·rw[Ag,aU];exact jB hm.2
   ·rw[upd_ne (Bw hne)];exact hn
  ac_rfl
theorem aJw{α:Type}(p:α->Bool)(l:List α):l.any p=(l.find? p).isSome:=List.isSome_find?.symm
theorem dpv{K α:Type}[DecidableEq K]{f:α->Sh}{l:List (K×α)}{k:K}{x:α}:bW (l.map fun p=>(p.1,f p.2)) k (f x)=(vput l k x).map fun p=>(p.1,f p.2):=by
 have e:(l.map fun p=>(p.1,f p.2)).any (fun kv=>decide (kv.1=k))=(aL l k).isSome:=by
  rw[List.any_map];unfold aL;rw[Option.isSome_map];exact aJw _ _
 unfold bW vput;rw[e]
 split
 ·rw[Bq,Bq];apply Dk;intro p _;show(if p.1=k then(p.1,f x) else(p.1,f p.2))=((if p.1=k then(p.1,x) else p).1,f (if p.1=k then(p.1,x) else p).2)
  split <;> rfl
 ·rw[Dg];rfl
theorem aIn{b:List UInt8}{s:Int}(h:(kbs.find? fun q=>q.2=b)=none):bW (kbs.map fun p=>(p.2,Sh.int p.1)) b (.int s)=(kbs++[(s,b)]).map fun p=>(p.2,.int p.1):=by
 have e:(kbs.map fun p=>(p.2,Sh.int p.1)).any (fun kv=>decide (kv.1=b))=false:=by
  rw[List.any_map,List.any_eq_false];intro q hq;exact Dm.mp h q hq
 unfold bW;rw[e,Dg]
 rfl
noncomputable def fQ(m:MC)(vals kbs:List (Int×List UInt8))(n:Int)(o:List UInt8)(flags p:Int):Int×List (Int×List UInt8)×List (Int×List UInt8):=
 if flags>2 then(-22,vals,kbs) else
 match cZ m kbs n p with
 |some s=>if flags=1 then(-17,vals,kbs) else(0,vput vals s o,kbs)
 |none=>if m.k.name≠"hash" then(-7,vals,kbs) else if flags=2 then(-2,vals,kbs) else if(kbs.length:Int)=m.most then(-7,vals,kbs) else
  match fW m.most kbs with
  |some s=>(0,vput vals s o,kbs++[(s,bG n m.kw)])
  |none=>(0,vals,kbs)
theorem aIi{s:Int}{p:Int->Bool}(h:(upI 0 most).find? p=some s):s∈(upI 0 most).filter p/\∀x∈(upI 0 most).filter p,s<=x:=by
 refine⟨Db.mpr ⟨By h,Cr h⟩,fun x hx=>?_⟩;obtain⟨hx1,hx2⟩:=Db.mp hx;have srt:(upI 0 most).Pairwise (· < ·):=by
  unfold upI;rw[List.pairwise_map];exact List.pairwise_lt_range.imp fun h=>by exact aVc h
 obtain⟨_,a,b,hab,hna⟩:=List.find?_eq_some_iff_append.mp h;rw[hab] at hx1 srt;rcases Ce.mp hx1 with hx1|hx1
 ·have:=hna x hx1;rw[hx2] at this;cases this
 ·rcases An.mp hx1 with rfl|hx1
  ·exact Az _
  ·have:=(List.pairwise_append.mp srt).2.1;exact Cu ((Lu.mp this).1 x hx1)
theorem qQ{n p:Int}{o:List UInt8}(hw:σ lW=some (.sdict (wkv m g)))(hr:σ lR=some (.idict (vals.map fun p=>(p.1,.bytes p.2))))(hs:σ lS=some (.bdict (kbs.map fun p=>(p.2,.int p.1))))(hk:0<=m.kw/\m.kw<=4)(hz:kbs.length<=100)(hvz:vals.length<=100)(hm:0<=m.most/\m.most<=100)
  (hfree:(kbs.length:Int)≠m.most->∃s,fW m.most kbs=some s):
  FN w 3 (.ref 632) [.ref lW,.int n,.bytes o,.int flags,.int p] σ (.int (fQ m vals kbs n o flags p).1) (upd (upd σ lS (.bdict ((fQ m vals kbs n o flags p).2.2.map fun p=>(p.2,.int p.1)))) lR (.idict ((fQ m vals kbs n o flags p).2.1.map fun p=>(p.1,.bytes p.2)))):=by
 have LS:=eW (w:=w) (n:=n) (p:=p) hw hs hk;have hz':(kbs.map fun p=>(p.2,Sh.int p.1)).length<=1000:=by rw[Ag];exact nle hz
 have hvz':(vals.map fun p=>(p.1,Sh.bytes p.2)).length<=1000:=by rw[Ag];exact nle hvz
 have es:upd σ lS (.bdict (kbs.map fun p=>(p.2,.int p.1)))=σ:=jA hs;have er:upd σ lR (.idict (vals.map fun p=>(p.1,.bytes p.2)))=σ:=jA hr;have D:∀A B,Dom σ (upd (upd σ lS A) lR B):=fun _ _=>Dom.trans Dom.upd Dom.upd;have dv:=fun s=>dpv (f:=Sh.bytes) (l:=vals) (k:=s) (x:=o);refine FN.fresh (D _ _) fun k hkf=>?_;have h0:=hkf k (Az _);refine cM (D _ _) (by k_is) (by k_is) ["world","number","octets","flags","processor"] [("processor",.int p),("flags",.int flags),("octets",.bytes o),("number",.int n),("world",.ref lW)] rfl (fun s=>sT fun _ _ _ _ _=>Ah rfl) (by decide) (dA _) (dH (by decide +kernel)) (fun A base outer g' mg mb L=>?_);unfold fQ;by_cases h1:flags>2
 ·rw[if_pos h1];dsimp only;rw[es,er];generalize iU (cZ m kbs n p)=x at LS;apply Af;apply SS.cast
  ·apply aB
   ·rfl'
   k_extra"ifr"
   rfl'
  ·rfl
  ·rfl
 ·rw[if_neg h1]
  cases hws:cZ m kbs n p with
  |some s=>
   rw[hws] at LS;replace LS:FN w 2 (.ref 627) [.ref lW,.int n,.int p] σ (.int s) σ:=LS;dsimp only;by_cases h2:flags=1
   ·rw[if_pos h2];dsimp only;rw[es,er];apply Af;apply SS.cast
    ·apply aB
     ·rfl'
     k_extra"iff"
     apply aB
     ·apply aD
      ·apply EB.cast
       ·rfl'
       ·simp[fS]
      ·rfl'
     apply aQ;apply aP
     ·apply EB.cast
      ·rfl'
      ·simp[h2,fS]
     rfl'
    ·rfl
    ·rfl
   ·rw[if_neg h2];dsimp only;rw[es,<-dv s];apply Af;apply aB
    ·rfl'
    k_extra"iff"
    apply aB
    ·apply aD
     ·apply EB.cast
      ·rfl'
      ·simp[fS]
     ·rfl'
    apply aB
    ·apply aD
     ·apply EB.cast
      ·rfl'
      ·simp[h2]
     ·rfl'
    apply aB
    ·apply aD
     ·apply EB.cast
      ·rfl'
      ·simp[fS]
     ·rfl'
    apply aB
    ·apply aD
     ·apply EB.cast
      ·rfl'
      ·rfl
     ·rfl'
    rfl'
  |none=>
   rw[hws] at LS;replace LS:FN w 2 (.ref 627) [.ref lW,.int n,.int p] σ .none σ:=LS;dsimp only;by_cases hkk:m.k.name= "hash"
   ·rw[if_neg (not_not_intro hkk)];have hkh:m.k = .hsh:=by
     cases e:m.k with
     |hsh=>rfl
     |arr=>rw[e] at hkk;exact absurd hkk (by decide)
     |row=>rw[e] at hkk;exact absurd hkk (by decide)
    have t1:(decide (m.k.name≠"hash")&&true)=false:=by simp[hkk]
    by_cases h2:flags=2
    ·rw[if_pos h2];dsimp only;rw[es,er];apply Af;apply SS.cast
     ·apply aB
      ·rfl'
      k_extra"iff"
      apply aB
      ·apply aD
       ·apply EB.cast
        ·rfl'
        ·simp[hkk]
       ·rfl'
      apply aB
      ·apply aD
       ·apply EB.cast
        ·rfl'
        ·simp[fS]
       ·rfl'
      apply aQ;apply aP
      ·apply EB.cast
       ·rfl'
       ·simp[h2,fS]
      rfl'
     ·rfl
     ·rfl
    ·rw[if_neg h2];by_cases h3:(kbs.length:Int)=m.most
     ·rw[if_pos h3];dsimp only;rw[es,er];apply Af;apply SS.cast
      ·apply aB
       ·rfl'
       k_extra"iff"
       apply aB
       ·apply aD
        ·apply EB.cast
         ·rfl'
         ·simp[hkk]
        ·rfl'
       apply aB
       ·apply aD
        ·apply EB.cast
         ·rfl'
         ·simp[fS]
        ·rfl'
       apply aB
       ·apply aD
        ·apply EB.cast
         ·rfl'
         ·simp[h2]
        ·rfl'
       apply aQ;apply aP
       ·apply EB.cast
        ·rfl'
        ·rfl
       apply aQ;apply aP
       ·apply EB.cast
        ·rfl'
        ·rw[Ag];simp[h3]
       rfl'
      ·rfl
      ·rfl
     ·rw[if_neg h3];obtain⟨s,hfs⟩:=hfree h3;rw[hfs];dsimp only;have hmin:=aIi hfs;have hnk:(kbs.find? fun q=>q.2=bG n m.kw)=none:=by
       unfold cZ at hws;rw[hkh] at hws;exact Ka.mp hws
      rw[<-aIn hnk,<-dv s];have ef:∀i:Int,(!decide (i∈kbs.map (·.1))) = !(aL kbs i).isSome:=fun i=>by
       cases e:aL kbs i with
       |none=>have:=cA.mp e;simp[this]
       |some x=>
        have:i∈kbs.map (·.1):=Aq.mpr ⟨_,bL e,rfl⟩;simp[this]
      apply Af;apply aB
      ·rfl'
      k_extra"iff"
      apply aB
      ·apply aD
       ·apply EB.cast
        ·rfl'
        ·simp[hkk]
       ·rfl'
      apply aB
      ·apply aD
       ·apply EB.cast
        ·rfl'
        ·simp[fS]
       ·rfl'
      apply aB
      ·apply aD
       ·apply EB.cast
        ·rfl'
        ·simp[h2]
       ·rfl'
      apply aB
      ·apply aP
       ·apply EB.cast
        ·rfl'
        ·rfl
       apply aB
       ·apply aD
        ·apply EB.cast
         ·rfl'
         ·rw[Ag];simpa using h3
        ·rfl'
       apply aB
       ·apply dJ (sh:=.int s)
        ·apply EV.drop (L:=Less.one (n:=(0,k)) h0) (k:=.int _);apply aM
         ·k_extra"e"
         ·k_extra"e"
         ·apply aJ
          ·apply aKs (α:=Int) .int .int (fun i=>!(aL kbs i).isSome) (0,k)
           ·apply dM
            ·rfl'
            ·rfl'
            ·exact⟨ige hm.1,ile hm.2⟩
            all_goals exact rfl
           ·apply LcOk.one
            ·exact rfl
            ·exact rfl
            ·rfl'
            ·exact fun _=>rfl
            ·decide +kernel
            ·decide
           ·trivial
           ·exact h0
           ·intro i g2 C hi;rw[<-ef i];apply wC
            ·rfl'
            ·k_extra"e"
             rfl'
            ·exact hs
            all_goals exact rfl
           ·intro i g2 C hi hpi;rfl'
           ·exact fun _ h=>h
           ·rw[aU];exact jB hm.2
          ·rfl'
          ac_rfl
         ·exact aKy aC hmin.1 hmin.2
         ac_rfl
        all_goals first|exact rfl|decide +kernel
       rfl'
      rfl'
   ·rw[if_pos hkk];dsimp only;rw[es,er];apply Af;apply SS.cast
    ·apply aB
     ·rfl'
     k_extra"iff"
     apply aQ;apply aP
     ·apply EB.cast
      ·rfl'
      ·simp[hkk,fS]
     rfl'
    ·rfl
    ·rfl
theorem kK{v:Int}(h0:1<=v)(h1:v<=16):bF v=16/\v<=8\/bF v=24:=by
 unfold bF;rw[Fg _ (by decide)];exact aVb h0 h1
theorem fdm{a n:Int}(h:0<=n):a.fdiv n=a / n/\a.fmod n=a % n:=⟨Fg _ h,Int.fmod_eq_emod_of_nonneg _ h⟩
theorem dq{q d r:Int}(h0:0<=r)(h1:r<d):(q*d+r).fdiv d=q/\(q*d+r).fmod d=r:=by
 have hd:=Bu h0 h1;rw[(fdm (Cu hd)).1,(fdm (Cu hd)).2];exact(Int.ediv_emod_unique hd).mpr ⟨by rw[Int.mul_comm,Ko],h0,h1⟩
theorem uN{slot off:Int}(hv:1<=m.vw/\m.vw<=16)(h0:0<=slot)(h1:slot<=100)(h2:0<=off)(h3:off<bF m.vw):
  kN m vals (16777216+1048576*m.num+slot*bF m.vw+off)=if(aL vals slot).isSome=true/\off<m.vw then .tup [.int slot,.int off] else .none:=by
 have hs:=kK hv.1 hv.2;unfold kN;generalize bF m.vw=s at*;have hb:0<=slot*s+off/\slot*s+off<1048576:=by
  rcases hs with⟨rfl,_⟩|rfl <;> constructor <;> omega
 have e0:16777216+1048576*m.num+slot*s+off-16777216=m.num*1048576+(slot*s+off):=by
  clear hs hb;generalize slot*s=y;omega
 rw[e0,(dq hb.1 hb.2).1,(dq hb.1 hb.2).2,(dq h2 h3).1,(dq h2 h3).2];simp
theorem pZ{slot k:Int}(hv:1<=m.vw/\m.vw<=16)(h0:0<=slot)(h1:slot<=100)(hk:k=1048576\/k = -1048576):kN m vals (16777216+1048576*m.num+slot*bF m.vw+k) = .none:=by
 have hs:=kK hv.1 hv.2;unfold kN;rw[if_neg]
 rintro⟨h,_⟩
 generalize bF m.vw=s at*;have hb:0<=slot*s/\slot*s<1048576:=by rcases hs with⟨rfl,_⟩|rfl <;> constructor <;> omega
 have e0:16777216+1048576*m.num+slot*s+k-16777216=m.num*1048576+k+slot*s:=by
  clear hs hb h;generalize slot*s=y;omega
 rw[e0] at h;rcases hk with rfl|rfl
 ·rw[show m.num*1048576+1048576=(m.num+1)*1048576 by rw[Oy];rfl,(dq hb.1 hb.2).1] at h;exact absurd h (Int.ne_of_gt (Int.lt_succ _))
 ·rw[show m.num*1048576 + -1048576=(m.num + -1)*1048576 by rw[Oy];rfl,(dq hb.1 hb.2).1] at h;exact absurd h (Oq (Int.sub_lt_self _ (by decide)))
theorem aEi{p:Pen}(M:MapB σ g m vals)(hw:σ lW=some (.sdict (wkv m g)))(hr:σ lR=some (.idict (vals.map fun p=>(p.1,.bytes p.2))))(hp:σ lP=some p.ob)(hk:0<=p.k)(hk2:p.k<=50000)(hv:1<=m.vw/\m.vw<=16)(hm:1<=m.most/\m.most<=8):
  FN w 4 (.ref 670) [.ref lP,.ref lW] σ (.bool true) (upd σ lP ((p.next (m.most*4+2)).next (bF m.vw)).ob):=by
 have hs:=kK hv.1 hv.2;have nk:=fT (p:=p) (many:=m.most*4+2);have r1:=aR (p:=p) (many:=m.most*4+2) (by exact aVa hm);have r2:=aR (p:=p.next (m.most*4+2)) (many:=bF m.vw) (by exact aUz hs);have hqk:0<=(p.next (m.most*4+2)).k:=by exact Ac hk nk.1
 have hqk2:(p.next (m.most*4+2)).k<=100000:=by exact aQx hk hk2 nk
 have hk3:p.k<=100000:=by exact ile hk2
 have hq1:upd σ lP (p.next (m.most*4+2)).ob lP=some (p.next (m.most*4+2)).ob:=aC;have nP:∀l,own g l->l≠lP:=fun l hl e=>by
  subst e;rcases hl with⟨h|h|h,_⟩| ⟨h|h,_⟩| ⟨h|h,_⟩ <;> cases h
 have M2:MapB (upd (upd σ lP (p.next (m.most*4+2)).ob) lP ((p.next (m.most*4+2)).next ((m.vw+7).fdiv 8*8+8)).ob) g m vals:=M.frame fun l hl=>(upd_ne (nP l hl)).trans (upd_ne (nP l hl));have hi2:=M2.hi;have hd2:=M2.hd;have hs2:0< (m.vw+7).fdiv 8*8+8/\(m.vw+7).fdiv 8*8+8<=1000000:=by unfold bF at hs;exact aUy hs
 obtain⟨hs3,hs4⟩:=hs2;have mo:Ge (p.digit (m.most*4+2)) ((m.vw+7).fdiv 8*8+8):=kQ (by exact aUx hm r1);have a1:=uN (m:=m) (vals:=vals) hv (slot:=p.digit (m.most*4+2)) (off:=(p.next (m.most*4+2)).digit (bF m.vw)) (by exact r1.1) (by exact aOv hm r1) (by exact r2.1) (by exact r2.2);have a2:=pZ (m:=m) (vals:=vals) hv (slot:=p.digit (m.most*4+2)) (k:=1048576) (by exact r1.1) (by exact aOv hm r1) (.inl rfl);have a3:=pZ (m:=m) (vals:=vals) hv (slot:=p.digit (m.most*4+2)) (k:=-1048576) (by exact r1.1) (by exact aOv hm r1) (.inr rfl);rw[<-Int.sub_eq_add_neg] at a3;have c1:=fun s:Int=>pY (w:=w) M2 (place:=s) (by exact aHx hv.1) (by exact ile hv.2);have c2:=c1 (16777216+1048576*m.num+p.digit (m.most*4+2)*bF m.vw+(p.next (m.most*4+2)).digit (bF m.vw));have c3:=c1 (16777216+1048576*m.num+p.digit (m.most*4+2)*bF m.vw+1048576);have c4:=c1 (16777216+1048576*m.num+p.digit (m.most*4+2)*bF m.vw-1048576);rw[a1] at c2;rw[a2] at c3;rw[a3] at c4;by_cases hc:(aL vals (p.digit (m.most*4+2))).isSome=true/\(p.next (m.most*4+2)).digit (bF m.vw)<m.vw
 ·rw[if_pos hc] at c2;simp only[bF] at c2 c3 c4 hc;refine aS Dom.upd (by k_is) (by k_is) ["pen","world"] [("world",.ref lW),("pen",.ref lP)] rfl (fun s=>cF fun _ _=>Ah rfl) (fun A base outer g' mg mb L=>?_);apply Af;apply SS.cast
  ·apply aB
   ·rfl'
   apply aB
   ·rfl'
   apply aB
   ·rfl'
   apply aB
   ·apply dJ (sh:=.tup [.int (p.digit (m.most*4+2)),.int ((p.next (m.most*4+2)).digit ((m.vw+7).fdiv 8*8+8))])
    ·apply bK
     ·apply EB.cast
      ·rfl'
      ·rw[vH];simp[hc.1,hc.2]
     ·rfl'
    all_goals first|exact rfl|decide +kernel
   apply aB
   ·apply aD
    ·apply EB.cast
     ·apply mP;apply mO
      ·rfl'
      apply mO
      ·apply dO
       ·rfl'
       ·rfl'
       ·exact dW (n:=1) (.tup 0 _ (.cons (.int 0 _) (.cons (.int 0 _) (.nil 0)))) (by decide)
       ·exact rfl
      ·rfl'
     ·simp[bF]
    ·rfl'
   rfl'
  ·rfl
  ·exact aX
 ·rw[if_neg hc] at c2;simp only[bF] at c2 c3 c4 hc;refine aS Dom.upd (by k_is) (by k_is) ["pen","world"] [("world",.ref lW),("pen",.ref lP)] rfl (fun s=>cF fun _ _=>Ah rfl) (fun A base outer g' mg mb L=>?_);apply Af;apply SS.cast
  ·apply aB
   ·rfl'
   apply aB
   ·rfl'
   apply aB
   ·rfl'
   apply aB
   ·apply dJ (sh:=.none)
    ·apply bE
     ·apply EB.cast
      ·rfl'
      ·rw[vH];rw[<-Bool.not_eq_true];simpa using hc
     ·rfl'
    all_goals first|exact rfl|decide +kernel
   apply aB
   ·apply aD
    ·apply EB.cast
     ·apply mP;apply mO
      ·rfl'
      apply mO
      ·apply dO
       ·rfl'
       ·rfl'
       ·exact dW (n:=0) (.none 0) (by decide)
       ·exact rfl
      ·rfl'
     ·simp[bF]
    ·rfl'
   rfl'
  ·rfl
  ·exact aX
theorem MapB.off0(M:MapB σ g m vals)(h:Off0 τ σ):MapB τ g m vals:=M.frame fun l hl=>h l (by rcases hl with⟨h|h|h,_⟩| ⟨h|h,_⟩| ⟨h|h,_⟩ <;> rw[h] <;> decide)
theorem MapH.off0(M:MapH σ g m vals kbs bks)(h:Off0 τ σ):MapH τ g m vals kbs bks:=M.frame fun l hl=>h l (by rcases hl with⟨h|h|h,_⟩| ⟨h|h,_⟩| ⟨h|h,_⟩ <;> rw[h] <;> decide)
theorem bS{i j:Int}(h:i≠j):((0,i):Lbl)≠(0,j):=fun e=>h (congrArg En e)
theorem aMv{n:Nat}{x:Option (List UInt8)}:Dt n (iV x):=by cases x with|none=>exact .none n|some b=>exact .bytes n b
theorem lY{n:Nat}:∀{l:List (List UInt8)},DtAll n (l.map .bytes)
 | []=>.nil n
 |_::_=>.cons (.bytes n _) lY
theorem aCb{nx:Option (List UInt8)->Option (List UInt8)}{ks:List (List UInt8)}{n:Int}(M:MapB σ g m vals)(hw:σ lW=some (.sdict (wkv m g)))(hs:σ lS=some (.bdict (kbs.map fun p=>(p.2,.int p.1))))
  (hk:0<=m.kw/\m.kw<=4)(hz:kbs.length<=50)(hm:1<=m.most/\m.most<=8)
  (N:∀τ,Off0 τ σ->∀kk,(∀b,kk=some b->(b.length:Int)=m.kw)->FN w 4 (.ref m.k.next_key) [.ref (lI g),iV kk] τ (iV (nx kk)) τ)
  (KF:∀τ,Off0 τ σ->∀l,τ l=none->FN w 4 (.ref m.k.keys) [.ref (lI g)] τ (.ref l) (upd τ l (.list ((aI m kbs).map .bytes))))
  (hks:cL ks=aI m kbs)(hkl:(ks.length:Int)<=m.most)(hkw:∀b∈ks,(b.length:Int)=m.kw)
  (hnx:∀pre a post,ks=pre++a::post->nx pre.getLast? = some a)(hend:nx ks.getLast? = none)(hun:cZ m kbs n 0=none->nx (some (bG n m.kw))=ks.head?):
  FN w 5 (.ref 663) [.ref lW,.int n] σ (.bool true) σ:=by
 refine FN.fresh (Dom.refl _) fun k hf=>?_;have h0:=fun i (h:k<=i)=>hf i h;have hi0:=M.hi;have hd0:=M.hd;obtain⟨τ,hτ⟩:∃τ,τ=upd σ (0,k) (.list (ks.map .bytes)):=⟨_,rfl⟩;have sgw:∀z:List (List UInt8),Off0 (upd σ (0,k) (.list (z.map .bytes))) σ:=fun z=>Off0.refl.upd;refine FN.drop (σ1:=upd (upd (upd (upd (upd (upd σ (0,k) (.list (ks.map .bytes))) (0,k+1) (.list [])) (0,k+2) (.list ((cL ks).map .bytes))) (0,k+3) (.list ((aI m kbs).map .bytes))) (0,k+4) (.list ((aI m kbs).map .bytes))) (0,k+5) (.list ((aI m kbs).map .bytes))) ?_ (Less.scr ?_) (.bool _)
 ·refine aS ?_ (by k_is) (by k_is) ["world","number"] [("number",.int n),("world",.ref lW)] rfl (fun s=>cF fun _ _=>Ah rfl) (fun A base outer g' mg mb L=>?_)
  ·exact Dom.upd.trans (Dom.upd.trans (Dom.upd.trans (Dom.upd.trans (Dom.upd.trans Dom.upd))))
  apply Af;apply aB
  ·apply SS.cast (σ2:=upd σ (0,k) (.list (([]:List (List UInt8)).map .bytes)))
   ·apply aDg (u:=.ref (0,k)) (v:=.none) (z:=.ref (lI g))
    ·exact rfl
    ·apply gM
     ·apply aJ
      ·apply dN (0,k)
       ·exact aV
       ·decide
       ·exact h0 k (by exact Az _)
      ·rfl'
      ·exact rfl
     ·exact Aa rfl
    all_goals first|exact rfl|decide +kernel
   ·rfl
   ·rfl
  apply aB
  ·apply aBl ks (fun kk=>[("found",.ref (0,k)),("key",iV kk),("one",.ref (lI g)),("number",.int n),("world",.ref lW)]) [("key",.none),("found",.ref (0,k)),("one",.ref (lI g)),("number",.int n),("world",.ref lW)] (fun z=>upd σ (0,k) (.list (z.map .bytes)))
   ·apply dM
    ·rfl'
    ·rfl'
    ·exact aUw hm
    all_goals exact rfl
   ·rfl
   ·exact fun _=>trivial
   ·rw[Ag,aU];exact aUv hm hkl
   ·intro pre a post turn g2 e;have S:=N _ (sgw pre) pre.getLast? (fun b hb=>hkw b (by rw[e];exact Fj _ (List.mem_of_getLast? hb)));rw[hnx pre a post e] at S;replace S:FN w 4 (.ref m.k.next_key) [.ref (lI g),iV pre.getLast?] (upd σ (0,k) (.list (pre.map .bytes))) (.bytes a) (upd σ (0,k) (.list (pre.map .bytes))):=S;have hpl:(pre.map Sh.bytes).length<=1000:=by
     rw[Ag];have:=congrArg Iq e;simp at this;exact aUu hm hkl this
    have hn:upd σ (0,k) (.list (pre.map .bytes)) (0,k)=some (.list (pre.map .bytes)):=aC;have hi:=(M.off0 (sgw pre)).hi;have hd:=(M.off0 (sgw pre)).hd;apply SS.weak
    ·apply SS.cast
     ·apply aB
      ·rfl'
      apply aB
      ·apply aD
       ·apply EB.cast
        ·rfl'
        ·rfl
       ·rfl'
      rfl'
     ·rfl
     ·rw[aX,Dg];rfl
    ·rfl'
   ·intro turn g2;have S:=N _ (sgw ks) ks.getLast? (fun b hb=>hkw b (List.mem_of_getLast? hb));rw[hend] at S;replace S:FN w 4 (.ref m.k.next_key) [.ref (lI g),iV ks.getLast?] (upd σ (0,k) (.list (ks.map .bytes))) .none (upd σ (0,k) (.list (ks.map .bytes))):=S;have hi:=(M.off0 (sgw ks)).hi;have hd:=(M.off0 (sgw ks)).hd;apply SS.weak
    ·apply aB
     ·rfl'
     apply aDi;apply aP
     ·apply EB.cast
      ·rfl'
      ·rfl
     apply aDi;exact aNx
    ·rfl'
   all_goals first|exact rfl|exact fun _ h=>h
  obtain⟨A1,hA1⟩:∃A1,upd σ (0,k) (.list (ks.map .bytes))=A1:=⟨_,rfl⟩;have a1:A1 (0,k)=some (.list (ks.map .bytes)):=hA1▸aC;have o1:Off0 A1 σ:=hA1▸sgw ks;have n1:∀i:Int,k<i->A1 (0,i)=none:=fun i hi=>hA1▸upd_none (bS (by exact bO hi)) (h0 i (by exact Cu hi));rw[hA1];have a2:upd A1 (0,k+1) (.list []) (0,k)=some (.list (ks.map .bytes)):=(upd_ne (bS (by exact gG of1))).trans a1;apply aB
  ·apply dJ (sh:=iV ks.head?) (σ1:=upd A1 (0,k+1) (.list []))
   ·cases hh:ks with
    |nil=>
     rw[hh] at a2;apply bE
     ·apply dO
      ·rfl'
      ·apply dN (0,k+1)
       ·exact aV
       ·exact Aa rfl
       ·exact n1 _ (by exact of1)
      ·exact iE (n:=0) a2 aC (.nil 0) (by decide)
      ·exact rfl
     ·exact aKo
    |cons b tl=>
     rw[hh] at a2;have hzl:((b::tl).map Sh.bytes).length<=1000:=by rw[Ag,<-hh];exact cle (Ac hkl hm.2)
     apply bK
     ·apply dO
      ·rfl'
      ·apply dN (0,k+1)
       ·exact aV
       ·exact Aa rfl
       ·exact n1 _ (by exact of1)
      ·exact zF a2 aC (by simp)
      ·exact rfl
     ·apply aKm
      ·rfl'
      ·rfl'
      ·exact zB a2 (by decide) rfl hzl (fun _ _=>by with_unfolding_all rfl)
   all_goals first|exact rfl|decide +kernel
  obtain⟨A2,hA2⟩:∃A2,upd A1 (0,k+1) (.list [])=A2:=⟨_,rfl⟩;rw[hA2] at a2 ⊢;have o2:Off0 A2 σ:=hA2▸o1.upd;have n2:∀i:Int,k+1<i->A2 (0,i)=none:=fun i hi=>hA2▸upd_none (bS (by exact bO hi)) (n1 i (by exact Bu of0 hi));have LS:=eW (w:=w) (σ:=A2) (n:=n) (p:=0) ((o2 lW (by decide)).trans hw) ((o2 lS (by decide)).trans hs) hk;have KL:∀τ,Off0 τ σ->∀l,τ l=none->FN w 4 (.ref 644) [.ref lW] τ (.ref l) (upd τ l (.list ((aI m kbs).map .bytes))):=fun τ h l hl=>(jF ((h lW (by decide)).trans hw) ((h lS (by decide)).trans hs) hk hz ⟨by exact ige hm.1,by exact ile hm.2⟩ l hl).up (by decide);have LK:=kS (w:=w) (σ:=A2) (n:=n) ((o2 lW (by decide)).trans hw) hk;have hi:=(M.off0 o2).hi;have hd:=(M.off0 o2).hd;apply aB
  ·cases hws:cZ m kbs n 0 with
   |some s=>
    rw[hws] at LS;replace LS:FN w 2 (.ref 627) [.ref lW,.int n,.int 0] A2 (.int s) A2:=LS;apply aD
    ·apply aKe;apply rR;apply EB.cast
     ·rfl'
     ·rfl
    ·rfl'
   |none=>
    rw[hws] at LS;replace LS:FN w 2 (.ref 627) [.ref lW,.int n,.int 0] A2 .none A2:=LS;have S:=N _ o2 (some (bG n m.kw)) (fun b hb=>by cases hb;exact eB hk.1);rw[hun hws] at S;replace S:FN w 4 (.ref m.k.next_key) [.ref (lI g),.bytes (bG n m.kw)] A2 (iV ks.head?) A2:=S;apply aD
    ·apply EB.cast
     ·apply aKe;apply aBk
      ·rfl'
      apply aBk
      ·apply dO
       ·rfl'
       ·rfl'
       ·exact dW (n:=0) aMv (by decide)
       ·exact rfl
      ·exact uF
     ·rfl
    ·rfl'
  obtain⟨A3,hA3⟩:∃A3,upd A2 (0,k+2) (.list ((cL ks).map .bytes))=A3:=⟨_,rfl⟩;have o3:Off0 A3 σ:=hA3▸o2.upd;have n3:∀i:Int,k+2<i->A3 (0,i)=none:=fun i hi=>hA3▸upd_none (bS (by exact bO hi)) (n2 i (by exact Bu of2 hi));have a3:A3 (0,k+2)=some (.list ((aI m kbs).map .bytes)):=hA3▸hks▸aC;have K3:=KL _ o3 (0,k+3) (n3 _ (by exact of3));obtain⟨A4,hA4⟩:∃A4,upd A3 (0,k+3) (.list ((aI m kbs).map .bytes))=A4:=⟨_,rfl⟩;have o4:Off0 A4 σ:=hA4▸o3.upd;have n4:∀i:Int,k+3<i->A4 (0,i)=none:=fun i hi=>hA4▸upd_none (bS (by exact bO hi)) (n3 i (by exact Bu of2 hi));have a4:A4 (0,k+2)=some (.list ((aI m kbs).map .bytes)):=hA4▸(upd_ne (bS (by exact gG of3))).trans a3;have b4:A4 (0,k+3)=some (.list ((aI m kbs).map .bytes)):=hA4▸aC;have K4:=KF _ o4 (0,k+4) (n4 _ (by exact of3));have hi4:=(M.off0 o4).hi;have hd4:=(M.off0 o4).hd;obtain⟨A5,hA5⟩:∃A5,upd A4 (0,k+4) (.list ((aI m kbs).map .bytes))=A5:=⟨_,rfl⟩;have o5:Off0 A5 σ:=hA5▸o4.upd;have n5:∀i:Int,k+4<i->A5 (0,i)=none:=fun i hi=>hA5▸upd_none (bS (by exact bO hi)) (n4 i (by exact Bu of2 hi));have b5:A5 (0,k+4)=some (.list ((aI m kbs).map .bytes)):=hA5▸aC;have K5:=KL _ o5 (0,k+5) (n5 _ (by exact of3));have c5:upd A5 (0,k+5) (.list ((aI m kbs).map .bytes)) (0,k+4)=some (.list ((aI m kbs).map .bytes)):=(upd_ne (bS (by exact gG of3))).trans b5;rw[hA4] at K3;rw[hA5] at K4;rw[hA3,hA4,hA5];apply aQ;apply bU;apply aDn;apply zO (σ1:=A4)
  ·apply aDl (σ1:=A3)
   ·rw[<-hA3];apply aM
    ·k_extra"e"
    ·k_extra"e"
    ·rfl'
    ·exact cG (0,k+2) a2 (by exact cle (Ac hkl hm.2)) (n2 _ (by exact of3))
    ac_rfl
   ·rfl'
   ·exact gT (n:=0) a4 b4 lY (by decide)
   ·exact rfl
  apply zO
  ·rfl'
  apply pM;apply aDl (σ1:=A5)
  ·rfl'
  ·rfl'
  ·exact gT (n:=0) c5 aC lY (by decide)
  ·exact rfl
 ·intro l o e;have ne:∀i:Int,k<=i->l≠(0,i):=fun i hi q=>by rw[q,h0 i hi] at e;cases e
  rw[upd_ne (ne _ (by exact of0)),upd_ne (ne _ (by exact of0)),upd_ne (ne _ (by exact of0)),upd_ne (ne _ (by exact of0)),upd_ne (ne _ (by exact of0)),upd_ne (ne _ (by exact Az _))];exact e
theorem sD{x y:Str}{k:Nat}(hkind:sc.kind = .function)(hx:sc.names.lookup x=some .local)(hy:sc.names.lookup y=some .local):
  CpOk Γ (mL ml) (mL []) sc [] (pr x y) (.Tuple [.Name x p1,.Name y p2] k pt) aPm:=
 aGk (fun _ _ h=>(by cases h)) fE (fun _ h=>(by cases h)) hkind hx hy rfl rfl (fun _ _ _ h=>(by cases h)) (fun _ h=>(by cases h))
noncomputable def cO(b:List UInt8):Int:=(b.zipIdx.map fun p=>(p.1.toNat:Int)*256 ^((p.2:Int)).toNat).sum
noncomputable def bZ(m:MC)(V:List UInt8->List UInt8)(Rw:List UInt8->Int->List UInt8)(b:List UInt8):Sh:=
 .tup [.bytes b,if m.k.name= "rows" then .tup (((upI 0 4).map (Rw b)).map .bytes) else .bytes (V b)]
theorem xS{V:List UInt8->List UInt8}{Rw:List UInt8->Int->List UInt8}(hw:σ lW=some (.sdict (wkv m g)))(hr:σ lR=some (.idict (vals.map fun p=>(p.1,.bytes p.2))))(hs:σ lS=some (.bdict (kbs.map fun p=>(p.2,.int p.1))))(hk:0<=m.kw/\m.kw<=4)(hz:kbs.length<=50)(hm:0<=m.most/\m.most<=50)
  (hlen:∀b∈aI m kbs,b.length<=8)(hnum:∀b∈aI m kbs,0<=cO b/\cO b<=1000)(hkl:(aI m kbs).length<=50)
  (hRw:m.k.name= "rows"->∀b∈aI m kbs,∀p,0<=p->p<4->aL vals (cO b*4+p)=some (Rw b p))
  (hV:m.k.name≠"rows"->∀b∈aI m kbs,∃s,cZ m kbs (cO b) 0=some s/\aL vals s=some (V b)):
  FN w 3 (.ref 649) [.ref lW] σ (.tup [.str m.k.name,.int m.num,.int m.kw,.int m.vw,.int m.most,.tup ((aI m kbs).map (bZ m V Rw))]) σ:=by
 refine FN.fresh (Dom.refl _) fun k hf=>?_;have h0:=fun i (h:k<=i)=>hf i h;obtain⟨B,hB⟩:∃B,upd σ (0,k+1) (.list ((aI m kbs).map .bytes))=B:=⟨_,rfl⟩;have oB:Off0 B σ:=hB▸Off0.refl.upd;have bB:B (0,k+1)=some (.list ((aI m kbs).map .bytes)):=hB▸aC;have nB:∀i:Int,k<=i->i≠k+1->B (0,i)=none:=fun i hi hn=>hB▸upd_none (bS hn) (h0 i hi);have sg0:∀z:List (List UInt8),Off0 (upd B (0,k) (.list (z.map (bZ m V Rw)))) σ:=fun z=>oB.upd;refine FN.drop (σ1:=upd B (0,k) (.list ((aI m kbs).map (bZ m V Rw)))) ?_ (Less.scr ?_) ?_
 ·refine cM ?_ (by k_is) (by k_is) ["world"] [("world",.ref lW)] rfl (fun s=>eA fun _=>Ah rfl) (by decide) (dA _) (dH (by decide +kernel)) (fun A base outer g' mg mb L=>?_)
  ·exact(hB▸Dom.upd:Dom σ B).trans Dom.upd
  apply Af;apply SS.cast
  ·apply aB
   ·apply dK (sh:=.ref (0,k)) (σ1:=upd σ (0,k) (.list []))
    ·apply dN (0,k)
     ·exact aV
     ·exact Aa rfl
     ·exact h0 k (by exact Az _)
    all_goals rfl'
   apply aB
   ·apply SS.cast (σ1:=upd B (0,k) (.list (((aI m kbs).foldl (fun z b=>z++[b]) []).map (bZ m V Rw)))) (σ2:=upd B (0,k) (.list ((aI m kbs).map (bZ m V Rw))))
    ·apply nN (α:=List UInt8) (xs:=aI m kbs) (Z:=List (List UInt8)) .bytes (fun _=>[("rows",.ref (0,k)),("world",.ref lW)]) (fun z=>upd B (0,k) (.list (z.map (bZ m V Rw)))) (fun z b=>z++[b]) (fun i z=>z.length=i) []
     ·have KL:=jF (w:=w) (σ:=upd σ (0,k) (.list [])) (kbs:=kbs) ((upd_ne (aA rfl)).trans hw) ((upd_ne (aA rfl)).trans hs) hk hz hm (0,k+1) (upd_none (bS (by exact bO of1)) (h0 _ (by exact of0)));have e:upd (upd σ (0,k) (.list [])) (0,k+1) (.list ((aI m kbs).map .bytes))=upd B (0,k) (.list (([]:List (List UInt8)).map (bZ m V Rw))):=by rw[<-hB];exact bT (bS (by exact gG of1))
      rw[e] at KL;apply ItE.of
      ·k_extra"e"
       rfl'
      ·exact cW ((upd_ne (bS (by exact bO of1))).trans bB)
     ·rfl
     ·rfl
     ·exact fun i z _=>(upd_ne (bS (by exact bO of1))).trans bB
     ·intro i z a hzl ha;rw[Cz,hzl];rfl
     ·intro i z a g2 hzl hai;have ha:=Bd hai;have hil:=(As.mp hai).1;have hal:=hlen a ha;have han:=hnum a ha;have hzz:(z.map (bZ m V Rw)).length<=1000:=by rw[Ag];exact uW (nX hzl (Bi hil hkl))
      obtain⟨C,hC⟩:∃C,upd B (0,k) (.list (z.map (bZ m V Rw)))=C:=⟨_,rfl⟩;have oC:Off0 C σ:=hC▸sg0 z;have cC:C (0,k)=some (.list (z.map (bZ m V Rw))):=hC▸aC;have nC:C (0,k+2)=none:=hC▸upd_none (bS (by exact bO of1)) (nB _ (by exact of0) (by exact bO of3));have eC:upd B (0,k) (.list ((z++[a]).map (bZ m V Rw)))=upd C (0,k) (.list (z.map (bZ m V Rw)++[bZ m V Rw a])):=by rw[<-hC,aX,Dg];rfl
      have hwC:=(oC lW (by decide)).trans hw;have hrC:=(oC lR (by decide)).trans hr;rw[hC,eC];apply SS.weak
      ·apply aB
       ·apply dK (sh:=.int (cO a))
        ·apply EV.drop (L:=Less.one (n:=(0,k+2)) nC) (k:=.int _);apply aM
         ·k_extra"e"
         ·k_extra"e"
         ·apply aJ
          ·apply aKq (α:=UInt8×Nat) (xs:=a.zipIdx) (fun p=>.int (p.2:Int)) (fun p=>.int (p.1.toNat:Int)) (fun p=>.int ((p.1.toNat:Int)*256 ^((p.2:Int)).toNat)) (0,k+2)
           ·apply zE
            ·k_extra"e"
            ·rfl'
            all_goals exact rfl
           ·apply sD
            ·exact rfl
            ·decide +kernel
            ·decide +kernel
           ·exact rfl
           ·trivial
           ·exact nC
           ·intro p g3 C2 hp;have hpl:p.2<a.length:=by
             have:=List.mem_zipIdx hp;omega
            have hmul:Ge (p.1.toNat:Int) (256 ^((p.2:Int)).toNat):=kQ (by
             have:p.1.toNat<256:=My _;exact⟨ige oU,Cu (ult this)⟩)
            rfl'
           ·exact fun _ h=>h
           ·rw[List.length_zipIdx];exact nle hal
          ·rfl'
          ac_rfl
         ·apply zH (ns:=a.zipIdx.map fun p=>(p.1.toNat:Int)*256 ^((p.2:Int)).toNat);rw[aC,Bq];rfl
         ac_rfl
        all_goals rfl'
       apply aB (σ1:=upd C (0,k) (.list (z.map (bZ m V Rw)++[bZ m V Rw a])))
       ·by_cases hkr:m.k.name= "rows"
        ·have er:bZ m V Rw a = .tup [.bytes a,.tup (((upI 0 4).map (Rw a)).map .bytes)]:=by unfold bZ;rw[if_pos hkr]
         rw[er];apply aP
         ·apply EB.cast
          ·rfl'
          ·simp[hkr]
         apply aB
         ·apply eX
          ·apply sA
           ·k_extra"e"
            rfl'
           ·exact cC
           ·apply aJ (σ1:=C)
            ·apply gM
             ·apply aJ
              ·k_extra"e"
               rfl'
              ·apply aJ
               ·apply EV.drop (L:=Less.one (n:=(0,k+2)) (o:=.list ((upI 0 4).map fun p=>.bytes (Rw a p))) nC) (k:=.tup _ dE);apply EV.cast (u:=.tup ((upI 0 4).map fun p=>.bytes (Rw a p)))
                ·apply aM
                 ·k_extra"e"
                 ·k_extra"e"
                 ·apply aJ
                  ·apply iD (α:=Int) (xs:=upI 0 4) .int (fun p=>.bytes (Rw a p)) (0,k+2)
                   ·apply dM
                    ·rfl'
                    ·rfl'
                    ·decide
                    all_goals exact rfl
                   ·apply LcOk.two
                    ·exact rfl
                    ·exact rfl
                    ·exact rfl
                    ·rfl'
                    ·rfl'
                    ·exact fun _=>⟨rfl,rfl⟩
                    ·decide +kernel
                    ·decide
                   ·trivial
                   ·exact nC
                   ·intro p g3 C3 hp;have hp:=bJ.mp hp;have h1:=hRw hkr a ha p hp.1 hp.2;have hmul:Ge (cO a) 4:=kQ (by exact⟨ige han.1,ile han.2⟩);rfl'
                   ·exact fun _ h=>h
                   ·rw[aU];decide
                  ·rfl'
                  ac_rfl
                 ·apply gA
                  ·exact aC
                  ·rw[Ag,aU];decide
                 ac_rfl
                ·rw[Bq];rfl
                ·rfl
               ·exact aV
               ·exact rfl
              ·exact rfl
             ·exact Aa rfl
            ·exact aV
           ·exact oR cC hzz (fun h=>h)
           ac_rfl
          all_goals exact rfl
         rfl'
        ·obtain⟨s,hs1,hs2⟩:=hV hkr a ha;have er:bZ m V Rw a = .tup [.bytes a,.bytes (V a)]:=by unfold bZ;rw[if_neg hkr]
         rw[er];have LS:=eW (w:=w) (σ:=C) (n:=cO a) (p:=0) hwC ((oC lS (by decide)).trans hs) hk;rw[hs1] at LS;replace LS:FN w 2 (.ref 627) [.ref lW,.int (cO a),.int 0] C (.int s) C:=LS;apply aD
         ·apply EB.cast
          ·rfl'
          ·simp[hkr]
         rfl'
       rfl'
      ·rfl'
     all_goals first|exact rfl|exact fun _ h=>h.elim
    ·rfl
    ·rw[fM (fun b=>b)];simp
   apply aQ;apply bU;have hw':upd B (0,k) (.list ((aI m kbs).map (bZ m V Rw))) lW=some (.sdict (wkv m g)):=(sg0 _ lW (by decide)).trans hw;have hrw:upd B (0,k) (.list ((aI m kbs).map (bZ m V Rw))) (0,k)=some (.list ((aI m kbs).map (bZ m V Rw))):=aC;have hrl:((aI m kbs).map (bZ m V Rw)).length<=1000:=by rw[Ag];exact nle hkl
   apply EV.cast (σ1:=upd B (0,k) (.list ((aI m kbs).map (bZ m V Rw))))
   ·apply gM
    ·apply aJ
     ·rfl'
     ·apply aJ
      ·rfl'
      ·apply aJ
       ·rfl'
       ·apply aJ
        ·rfl'
        ·apply aJ
         ·rfl'
         ·apply aJ
          ·apply aM
           ·k_extra"e"
           ·k_extra"e"
           ·rfl'
           ·exact gA hrw hrl
           ac_rfl
          ·exact aV
          ·exact rfl
         ·exact rfl
        ·exact rfl
       ·exact rfl
      ·exact rfl
     ·exact rfl
    ·exact Aa rfl
   ·rfl
   ·rfl
  ·rfl
  ·rfl
 ·intro l o e;have ne:∀i:Int,k<=i->l≠(0,i):=fun i hi q=>by rw[q,h0 i hi] at e;cases e
  rw[upd_ne (ne _ (by exact Az _)),<-hB,upd_ne (ne _ (by exact of0))];exact e
 ·refine .tup _ (.cons (.str _) (.cons (.int _) (.cons (.int _) (.cons (.int _) (.cons (.int _) (.cons (.tup _ (jO fun b=>.tup _ (.cons (.bytes _) (.cons ?_ .nil)))) .nil))))))
  split
  ·exact .tup _ dE
  ·exact .bytes _
theorem aJy{X:Sh}{V:List UInt8->List UInt8}(M:MapB σ g m vals)(hw:σ lW=some (.sdict (wkv m g)))(hr:σ lR=some (.idict (vals.map fun p=>(p.1,.bytes p.2))))(hs:σ lS=some (.bdict (kbs.map fun p=>(p.2,.int p.1))))(hk:0<=m.kw/\m.kw<=4)(hz:kbs.length<=50)(hm:0<=m.most/\m.most<=50)
  (hlen:∀b∈aI m kbs,b.length<=8)(hkl:(aI m kbs).length<=50)(hvl:vals.length<=50)(hvz:∀p∈vals,p.2.length<=1000)
  (TM:FN w 6 (.ref 297) [.ref (lI g)] σ X σ)(TL:FN w 3 (.ref 649) [.ref lW] σ X σ)(hX:Dt 4 X)
  (W:∀τ,Off0 τ σ->∀b∈aI m kbs,FN w 4 (.ref 229) [.ref (lI g),.bytes b] τ (.bytes (V b)) τ)
  (S:∀b∈aI m kbs,∃s,cZ m kbs (cO b) 0=some s/\aL vals s=some (V b)):
  FN w 7 (.ref 682) [.ref lW] σ (.bool true) σ:=by
 refine FN.fresh (Dom.refl _) fun k hf=>?_;have h0:=fun i (h:k<=i)=>hf i h;have KL:∀τ,Off0 τ σ->∀l,τ l=none->FN w 4 (.ref 644) [.ref lW] τ (.ref l) (upd τ l (.list ((aI m kbs).map .bytes))):=fun τ h l hl=>(jF ((h lW (by decide)).trans hw) ((h lS (by decide)).trans hs) hk hz hm l hl).up (by decide);obtain⟨A1,hA1⟩:∃A1,upd σ (0,k) (.list ((aI m kbs).map .bytes))=A1:=⟨_,rfl⟩;have o1:Off0 A1 σ:=hA1▸Off0.refl.upd;have a1:A1 (0,k)=some (.list ((aI m kbs).map .bytes)):=hA1▸aC;have n1:∀i:Int,k<i->A1 (0,i)=none:=fun i hi=>hA1▸upd_none (bS (by exact bO hi)) (h0 i (by exact Cu hi));obtain⟨A2,hA2⟩:∃A2,upd A1 (0,k+1) (.list ((aI m kbs).map fun b=>.bytes (V b)))=A2:=⟨_,rfl⟩;have o2:Off0 A2 σ:=hA2▸o1.upd;have a2:A2 (0,k+1)=some (.list ((aI m kbs).map fun b=>.bytes (V b))):=hA2▸aC;have n2:∀i:Int,k+1<i->A2 (0,i)=none:=fun i hi=>hA2▸upd_none (bS (by exact bO hi)) (n1 i (by exact Bu of0 hi));obtain⟨A3,hA3⟩:∃A3,upd A2 (0,k+2) (.list ((aI m kbs).map .bytes))=A3:=⟨_,rfl⟩;have o3:Off0 A3 σ:=hA3▸o2.upd;have a3:A3 (0,k+2)=some (.list ((aI m kbs).map .bytes)):=hA3▸aC;have b3:A3 (0,k+1)=some (.list ((aI m kbs).map fun b=>.bytes (V b))):=hA3▸(upd_ne (bS (by exact gG of3))).trans a2;have n3:∀i:Int,k+2<i->A3 (0,i)=none:=fun i hi=>hA3▸upd_none (bS (by exact bO hi)) (n2 i (by exact Bu of2 hi));obtain⟨A4,hA4⟩:∃A4,upd A3 (0,k+3) (.list ((aI m kbs).map fun b=>.bytes (V b)))=A4:=⟨_,rfl⟩;have o4:Off0 A4 σ:=hA4▸o3.upd;have a4:A4 (0,k+3)=some (.list ((aI m kbs).map fun b=>.bytes (V b))):=hA4▸aC;have b4:A4 (0,k+1)=some (.list ((aI m kbs).map fun b=>.bytes (V b))):=hA4▸(upd_ne (bS (by exact gG of3))).trans b3;have n4:∀i:Int,k+3<i->A4 (0,i)=none:=fun i hi=>hA4▸upd_none (bS (by exact bO hi)) (n3 i (by exact Bu of2 hi));obtain⟨A5,hA5⟩:∃A5,upd A4 (0,k+4) (.list (vals.map fC))=A5:=⟨_,rfl⟩;have o5:Off0 A5 σ:=hA5▸o4.upd;have a5:A5 (0,k+4)=some (.list (vals.map fC)):=hA5▸aC;have n5:∀i:Int,k+4<i->A5 (0,i)=none:=fun i hi=>hA5▸upd_none (bS (by exact bO hi)) (n4 i (by exact Bu of2 hi));obtain⟨A6,hA6⟩:∃A6,upd A5 (0,k+5) (.list (bD vals (vals.map fC) .none))=A6:=⟨_,rfl⟩;have o6:Off0 A6 σ:=hA6▸o5.upd;have a6:A6 (0,k+5)=some (.list (bD vals (vals.map fC) .none)):=hA6▸aC;have n6:∀i:Int,k+5<i->A6 (0,i)=none:=fun i hi=>hA6▸upd_none (bS (by exact bO hi)) (n5 i (by exact Bu of2 hi));have a7:upd A6 (0,k+6) (.list (bD vals (vals.map fC) .none)) (0,k+5)=some (.list (bD vals (vals.map fC) .none)):=(upd_ne (bS (by exact gG of3))).trans a6;have d0:DtAll 0 ((aI m kbs).map fun b=>Sh.bytes (V b)):=DtAll.of fun x hx=>by
  obtain⟨b,_,rfl⟩:=Aq.mp hx;exact .bytes 0 _
 have hi:=M.hi;have hd:=M.hd;refine FN.drop (σ1:=upd A6 (0,k+6) (.list (bD vals (vals.map fC) .none))) ?_ (Less.scr ?_) (.bool _)
 ·refine cM ?_ (by k_is) (by k_is) ["world"] [("world",.ref lW)] rfl (fun s=>eA fun _=>Ah rfl) (by decide) (dA _) (dH (by decide +kernel)) (fun A base outer g' mg mb L=>?_)
  ·rw[<-hA6,<-hA5,<-hA4,<-hA3,<-hA2,<-hA1];exact Dom.upd.trans (Dom.upd.trans (Dom.upd.trans (Dom.upd.trans (Dom.upd.trans (Dom.upd.trans Dom.upd)))))
  apply Af;apply aB
  ·rfl'
  apply aB (σ1:=A4)
  ·apply aD (σ1:=A4)
   ·apply mP;apply fJ
    ·apply dO
     ·rfl'
     ·rfl'
     ·exact dW hX (by decide)
     ·exact rfl
    apply fJ (σ1:=A4)
    ·apply dO (σ1:=A2)
     ·rw[<-hA2];apply iD (α:=List UInt8) (xs:=aI m kbs) .bytes (fun b=>.bytes (V b)) (0,k+1)
      ·apply ItE.of
       ·have K1:=KL σ Off0.refl (0,k) (h0 k (by exact Az _));rw[hA1] at K1;rfl'
       ·exact cW a1
      ·apply LcOk.one
       ·exact rfl
       ·exact rfl
       ·rfl'
       ·exact fun _=>rfl
       ·decide +kernel
       ·decide
      ·exact a1
      ·exact n1 _ (by exact of1)
      ·intro b g2 C hb;have Wb:=W _ o1 b hb;have hi:=(M.off0 o1).hi;have hd:=(M.off0 o1).hd;rfl'
      ·exact fun _ h=>h.elim
      ·exact nle hkl
     ·rw[<-hA4];apply iD (α:=List UInt8) (xs:=aI m kbs) .bytes (fun b=>.bytes (V b)) (0,k+3)
      ·apply ItE.of
       ·have K1:=KL A2 o2 (0,k+2) (n2 _ (by exact of3));rw[hA3] at K1;rfl'
       ·exact cW a3
      ·apply LcOk.one
       ·exact rfl
       ·exact rfl
       ·rfl'
       ·exact fun _=>rfl
       ·decide +kernel
       ·decide
      ·exact a3
      ·exact n3 _ (by exact of3)
      ·intro b g2 C hb;obtain⟨s,hs1,hs2⟩:=S b hb;have hbl:=hlen b hb;have hw3:=(o3 lW (by decide)).trans hw;have hr3:=(o3 lR (by decide)).trans hr;have n34:A3 (0,k+4)=none:=n3 _ (by exact of3);have LS:=eW (w:=w) (σ:=A3) (n:=cO b) (p:=0) hw3 ((o3 lS (by decide)).trans hs) hk;rw[hs1] at LS;replace LS:FN w 2 (.ref 627) [.ref lW,.int (cO b),.int 0] A3 (.int s) A3:=LS;apply aKm
       ·rfl'
       ·apply aM
        ·k_extra"e"
        ·k_extra"e"
        ·apply aJ
         ·rfl'
         ·apply aJ
          ·apply EV.drop (L:=Less.one (n:=(0,k+4)) n34) (k:=.int _);apply aM
           ·k_extra"e"
           ·k_extra"e"
           ·apply aJ
            ·apply aKq (α:=UInt8×Nat) (xs:=b.zipIdx) (fun p=>.int (p.2:Int)) (fun p=>.int (p.1.toNat:Int)) (fun p=>.int ((p.1.toNat:Int)*256 ^((p.2:Int)).toNat)) (0,k+4)
             ·apply zE
              ·k_extra"e"
              ·rfl'
              all_goals exact rfl
             ·apply sD
              ·exact rfl
              ·decide +kernel
              ·decide +kernel
             ·exact rfl
             ·trivial
             ·exact n34
             ·intro p g3 C2 hp;have hpl:p.2<b.length:=by
               have:=List.mem_zipIdx hp;omega
              have hmul:Ge (p.1.toNat:Int) (256 ^((p.2:Int)).toNat):=kQ (by
               have:p.1.toNat<256:=My _;exact⟨ige oU,Cu (ult this)⟩)
              rfl'
             ·exact fun _ h=>h
             ·rw[List.length_zipIdx];exact nle hbl
            ·rfl'
            ac_rfl
           ·apply zH (ns:=b.zipIdx.map fun p=>(p.1.toNat:Int)*256 ^((p.2:Int)).toNat);rw[aC,Bq];rfl
           ac_rfl
          ·apply aJ
           ·rfl'
           ·exact aV
           ·exact rfl
          ·exact rfl
         ·exact rfl
        ·exact FN.call LS (Aa rfl)
        ac_rfl
       ·rfl'
      ·exact fun _ h=>h.elim
      ·exact nle hkl
     ·exact iE (n:=0) b4 a4 d0 (by decide)
    ·exact jN
   ·exact dI
  have hi4:=(M.off0 o4).hi;have hd4:=(M.off0 o4).hd;have hv4:=(M.off0 o4).hv;have hw6:=(o5 lW (by decide)).trans hw;have hw6:=(o6 lW (by decide)).trans hw;have hr6:=(o6 lR (by decide)).trans hr;apply aQ;apply bU;apply aDl (σ1:=A6)
  ·rw[<-hA6];apply aM (σ2:=A5)
   ·k_extra"e"
   ·k_extra"e"
   ·rw[<-hA5];apply aJ
    ·apply iD (α:=Int×List UInt8) (xs:=vals) (fun p=>.int p.1) fC (0,k+4)
     ·apply ItE.of
      ·rfl'
      ·exact pJ (f:=fun p=>.ref (lo g p.1)) hv4
     ·apply LcOk.one
      ·exact rfl
      ·exact rfl
      ·rfl'
      ·exact fun _=>rfl
      ·decide +kernel
      ·decide
     ·rw[hv4];exact fun z=>by cases z
     ·exact n4 _ (by exact of3)
     ·intro p g2 C hp;have h1:=bP M.nd (k:=p.1) (x:=p.2) hp;have h2:=(M.off0 o4).ho p hp;have h3:=hvz p hp;rfl'
     ·exact fun _ h=>h.elim
     ·exact nle hvl
    ·exact aV
    ·exact rfl
   ·exact pB (0,k+5) a5 M.nd (by exact sR hvl) (n5 _ (by exact of3))
   ac_rfl
  ·apply rX (0,k+6)
   ·k_extra"e"
   ·rfl'
   ·exact hr6
   ·exact M.nd
   ·exact sR hvl
   ·exact n6 _ (by exact of3)
   all_goals exact rfl
  ·exact gT (n:=1) a7 aC aPp (by decide)
  ·exact rfl
 ·intro l o e;have ne:∀i:Int,k<=i->l≠(0,i):=fun i hi q=>by rw[q,h0 i hi] at e;cases e
  rw[upd_ne (ne _ (by exact of0)),<-hA6,upd_ne (ne _ (by exact of0)),<-hA5,upd_ne (ne _ (by exact of0)),<-hA4,upd_ne (ne _ (by exact of0)),<-hA3,upd_ne (ne _ (by exact of0)),<-hA2,upd_ne (ne _ (by exact of0)),<-hA1,upd_ne (ne _ (by exact Az _))];exact e
noncomputable def dX(m:MC):List (Int×List UInt8):=match m.k with| .hsh=>[] |_=>gV m
theorem lF(h:m.k = .hsh):dX m=[]:=by unfold dX;rw[h]
theorem pD(h:m.k≠.hsh):dX m=gV m:=by
 unfold dX
 cases e:m.k with
 |hsh=>exact absurd e h
 |arr=>rfl
 |row=>rfl
theorem zM(hW:eM m.k m.kw m.vw m.most)(hn:0<=m.num/\m.num<64)(hf:∀l,own g l->σ l=none):
  ∃τ,(∀(Γ:Gm) (ms:Str->Option Sh),Γ.w=w->5<=Γ.n->(∀l,¬Γ.F l)->CallOk Γ ms σ (.ref m.k.addr) [.str m.k.name,.int m.num,.int m.kw,.int m.vw,.int m.most] (.ref (lI g)) τ)/\
   MapB τ g m (dX m)/\(m.k = .hsh->MapH τ g m [] [] (Ap (bQ m.most).toNat []))/\Only g σ τ/\Dom σ τ/\(m.k = .hsh->∀t,0<=t->t<100->τ (lo g t)=none):=by
 have D0:Dom σ (upd (upd σ (lD g) (.sdict [])) (lI g) (.inst m.k.addr (lD g))):=Dom.trans Dom.upd Dom.upd;have O0:Only g σ (upd (upd σ (lD g) (.sdict [])) (lI g) (.inst m.k.addr (lD g))):=(Only.refl.upd eZ).upd qD;have hfI:=hf _ qD;have hfD:=hf _ eZ;by_cases hk:m.k = .hsh
 ·obtain⟨τ,I,M,O,Z⟩:=lQ (w:=w) (σ:=upd (upd σ (lD g) (.sdict [])) (lI g) (.inst m.k.addr (lD g))) (g:=g) hk hW hn aC ((upd_ne (aA rfl)).trans aC)
   (upd_none (aA rfl) (upd_none (aA rfl) (hf _ eV))) (upd_none (aA rfl) (upd_none (aA rfl) (hf _ jZ))) (upd_none (aA rfl) (upd_none (aA rfl) (hf _ tK))) (fun s h0 h1=>upd_none (aA rfl) (upd_none (aA rfl) (hf _ (lL (by exact⟨h0,ilt h1⟩)))))
  refine⟨τ,fun Γ ms ew en hF=>?_,?_,fun _=>M,O0.trans O,D0.trans I.dom,fun _ t h0 h1=>(Z t).trans (upd_none (aA rfl) (upd_none (aA rfl) (hf _ (eU (by exact⟨h0,ilt h1⟩)))))⟩
  ·subst ew;rw[hk] at I ⊢;exact iF _ _ I en (by k_is) (by k_is) (by k_is) hfD hfI (aA rfl) hF
  ·rw[lF hk];exact M.toMapB
 ·obtain⟨τ,I,M,O⟩:=mJ (w:=w) (σ:=upd (upd σ (lD g) (.sdict [])) (lI g) (.inst m.k.addr (lD g))) (g:=g) hk hW hn aC ((upd_ne (aA rfl)).trans aC)
   (upd_none (aA rfl) (upd_none (aA rfl) (hf _ eV))) (fun s h0 h1=>upd_none (aA rfl) (upd_none (aA rfl) (hf _ (eU (by exact⟨h0,ilt h1⟩)))))
  refine⟨τ,fun Γ ms ew en hF=>?_,?_,fun h=>absurd h hk,O0.trans O,D0.trans I.dom,fun h=>absurd h hk⟩
  ·subst ew
   cases e:m.k with
   |hsh=>exact absurd e hk
   |arr=>
    rw[e] at I;exact iF _ _ I en (by k_is) (by k_is) (by k_is) hfD hfI (aA rfl) hF
   |row=>
    rw[e] at I;exact iF _ _ I en (by k_is) (by k_is) (by k_is) hfD hfI (aA rfl) hF
  ·rw[pD hk];exact M
theorem aKw(k:KC)(h:k≠.hsh):CmpOk Γ ms σ .Eq (.con (.ref k.addr)) (.con (.ref 434)) (decide (k.name= "rows")):=match k,h with
 | .arr,_=>tD (by decide) (by k_is) (by k_is)
 | .row,_=>wS (by k_is)
 | .hsh,h=>absurd rfl h
theorem tJ{n:Int}(k:KC):Ge n k.procs:=match k with| .arr=>.of_right (by decide)| .row=>.of_right (by decide)| .hsh=>.of_right (by decide)
theorem aHc(k:KC):(if decide (k.name= "rows")=true then Sh.int 4 else .int 1) = .int k.procs:=match k with| .arr=>rfl| .row=>rfl| .hsh=>rfl
theorem aGd(k:KC):Keeps Γ (.ref k.addr):=match k with| .arr=>Keeps.K (by k_is)| .row=>Keeps.K (by k_is)| .hsh=>Keeps.K (by k_is)
noncomputable def kOf(n:Int):KC:=if n=0 then .hsh else if n=1 then .arr else .row
noncomputable def oV(p:Pen):Pen:=((((p.next 3).next 5).next 10).next 3).next 12
noncomputable def mW(p:Pen):MC:=
 ⟨kOf (p.digit 3),((p.next 3).next 5).digit 10,if p.digit 3=0 then 1+(((p.next 3).next 5).next 10).digit 3 else 4,1+((((p.next 3).next 5).next 10).next 3).digit 12,1+(p.next 3).digit 5⟩
theorem aLz{p:Pen}:[Sh.str "hash",.str "array",.str "rows"][(p.digit ([Sh.str "hash",.str "array",.str "rows"].length:Int)).toNat]? = some (.str (mW p).k.name):=by
 have r:=aR (p:=p) (many:=3) (by decide);show [Sh.str "hash",.str "array",.str "rows"][(p.digit 3).toNat]? = some (.str (kOf (p.digit 3)).name);obtain⟨r0,r1⟩:=r;have:p.digit 3=0\/p.digit 3=1\/p.digit 3=2:=by exact aUt r0 r1
 rcases this with e|e|e <;> rw[e] <;> rfl
theorem aPf{p:Pen}(h:(mW p).k.name= "hash"):p.digit 3=0:=by
 show p.digit 3=0;have h:(kOf (p.digit 3)).name= "hash":=h;unfold kOf at h
 split at h
 ·assumption
 ·split at h <;> exact absurd h (by decide)
theorem aEq{p:Pen}:eM (mW p).k (mW p).kw (mW p).vw (mW p).most/\(0<=(mW p).num/\(mW p).num<64):=by
 have r1:=aR (p:=p.next 3) (many:=5) (by decide);have r2:=aR (p:=(p.next 3).next 5) (many:=10) (by decide);have r3:=aR (p:=((p.next 3).next 5).next 10) (many:=3) (by decide);have r4:=aR (p:=(((p.next 3).next 5).next 10).next 3) (many:=12) (by decide);unfold mW eM aMd kOf;dsimp only;generalize (p.next 3).digit 5=p1 at r1 ⊢;generalize ((p.next 3).next 5).digit 10=p2 at r2 ⊢;generalize (((p.next 3).next 5).next 10).digit 3=p3 at r3 ⊢;generalize ((((p.next 3).next 5).next 10).next 3).digit 12=p4 at r4 ⊢;refine⟨⟨⟨fun h=>?_,fun h=>?_⟩,by exact aUs r4,by exact aUr r1⟩,by exact⟨r2.1,ilt r2.2⟩⟩
 ·by_cases e:p.digit 3=0
  ·rw[if_pos e] at h;exact absurd rfl h
  ·rw[if_neg e]
 ·by_cases e:p.digit 3=0
  ·rw[if_pos e];exact aUq r3
  ·rw[if_neg e] at h;split at h <;> cases h
noncomputable def w3(m:MC):List (Str×Sh):=[("kind",.str m.k.name),("most",.int m.most),("number",.int m.num)]
noncomputable def w7(m:MC)(g:Gn):List (Str×Sh):=[("kind",.str m.k.name),("most",.int m.most),("number",.int m.num),("key",.int m.kw),("value",.int m.vw),("map",.ref (lI g)),("rooms",.ref lR)]
noncomputable def w5(m:MC)(kw:Int):List (Str×Sh):=[("kind",.str m.k.name),("most",.int m.most),("number",.int m.num),("key",.int kw),("value",.int m.vw)]
theorem aGq{p:Pen}(hp:σ lP=some p.ob)(hk:0<=p.k)(hk2:p.k<=50000)(hf:∀l:Lbl,l.1≠0->l.1<=10->σ l=none):
  ∃σ',FN w 6 (.ref 620) [.ref lP] σ (.ref lW) σ'/\σ' lW=some (.sdict (wkv (mW p) g))/\σ' lP=some (oV p).ob/\σ' lR=some (.idict ((dX (mW p)).map fun q=>(q.1,.bytes q.2)))/\σ' lS=some (.bdict [])/\
   MapB σ' g (mW p) (dX (mW p))/\((mW p).k = .hsh->MapH σ' g (mW p) [] [] (Ap (bQ (mW p).most).toNat []))/\(∀l,l≠lW->l≠lP->l≠lR->l≠lS->¬own g l->σ' l=σ l)/\((mW p).k = .hsh->∀t,0<=t->t<100->σ' (lo g t)=none):=by
 obtain⟨hW,hn⟩:=aEq (p:=p);have hf2:∀l:Lbl,l.1≠0->l.1<=10->l≠lW->upd (upd σ lP (oV p).ob) lW (.sdict (w5 (mW p) (mW p).kw)) l=none:=fun l h0 h1 h2=>upd_none h2 (upd_none (fun e=>by rw[e] at h1;exact absurd h1 (by decide)) (hf l h0 h1));obtain⟨τ,C,M,MH,O,DC,ZC⟩:=zM (w:=w) (σ:=upd (upd σ lP (oV p).ob) lW (.sdict (w5 (mW p) (mW p).kw))) (g:=g) hW hn fun l hl=>hf2 l (by rcases hl with⟨h|h|h,_⟩| ⟨h|h,_⟩| ⟨h|h,_⟩ <;> rw[h] <;> decide)
  (by rcases hl with⟨h|h|h,_⟩| ⟨h|h,_⟩| ⟨h|h,_⟩ <;> rw[h] <;> decide) (fun e=>by subst e;rcases hl with⟨h|h|h,_⟩| ⟨h|h,_⟩| ⟨h|h,_⟩ <;> cases h)
 have nO:∀l:Lbl,8<=l.1->¬own g l:=fun l h8 hl=>by rcases hl with⟨h|h|h,_⟩| ⟨h|h,_⟩| ⟨h|h,_⟩ <;> omega
 have tW:τ lW=some (.sdict (w5 (mW p) (mW p).kw)):=(O lW (nO lW (by decide))).trans aC;have tP:τ lP=some (oV p).ob:=(O lP (nO lP (by decide))).trans ((upd_ne (aA rfl)).trans aC);have tR:τ lR=none:=(O lR (nO lR (by decide))).trans (hf2 lR (by decide) (by decide) (by decide));have tS:τ lS=none:=(O lS (nO lS (by decide))).trans (hf2 lS (by decide) (by decide) (by decide));obtain⟨B,hB⟩:∃B,upd (upd τ lR (.idict ((dX (mW p)).map fun q=>(q.1,.bytes q.2)))) lS (.bdict [])=B:=⟨_,rfl⟩;have fB:∀l,l≠lR->l≠lS->B l=τ l:=fun l h1 h2=>by rw[<-hB];exact(upd_ne h2).trans (upd_ne h1)
 have fO:∀l,own g l->upd B lW (.sdict (wkv (mW p) g)) l=τ l:=fun l hl=>(upd_ne (fun e=>nO l (by rw[e];decide) hl)).trans (fB l (fun e=>nO l (by rw[e];decide) hl) (fun e=>nO l (by rw[e];decide) hl));refine⟨upd B lW (.sdict (wkv (mW p) g)),?_,aC,(upd_ne (aA rfl)).trans ((fB lP (by decide) (by decide)).trans tP),(upd_ne (aA rfl)).trans (by rw[<-hB];exact(upd_ne (aA rfl)).trans aC),(upd_ne (aA rfl)).trans (by rw[<-hB];exact aC),M.frame fO,fun h=>(MH h).frame fO,fun l h1 h2 h3 h4 h5=>(upd_ne h1).trans ((fB l h3 h4).trans ((O l h5).trans ((upd_ne h1).trans (upd_ne h2)))),fun h t h0 h1=>(fO _ (eU (by exact⟨h0,ilt h1⟩))).trans (ZC h t h0 h1)⟩;refine FN.fresh (((Dom.upd.trans Dom.upd).trans DC).trans ((hB▸Dom.upd.trans Dom.upd:Dom τ B).trans Dom.upd)) fun k hkf=>?_;have h0:=fun i (h:k<=i)=>hkf i h;have hfW:=hf lW (by decide) (by decide);obtain⟨T1,hT1⟩:∃A,upd (upd σ lP (((p.next 3).next 5).next 10).ob) lW (.sdict (w3 (mW p)))=A:=⟨_,rfl⟩;obtain⟨T2,hT2⟩:∃A,upd (upd σ lP (oV p).ob) lW (.sdict (w5 (mW p) (1+(((p.next 3).next 5).next 10).digit 3)))=A:=⟨_,rfl⟩;obtain⟨T3,hT3⟩:∃A,upd (upd σ lP (oV p).ob) lW (.sdict (w5 (mW p) (mW p).kw))=A:=⟨_,rfl⟩;rw[hT3] at C;have T1W:T1 lW=some (.sdict (w3 (mW p))):=hT1▸aC;have T1P:T1 lP=some (((p.next 3).next 5).next 10).ob:=hT1▸(upd_ne (aA rfl)).trans aC;have T2W:T2 lW=some (.sdict (w5 (mW p) (1+(((p.next 3).next 5).next 10).digit 3))):=hT2▸aC;have T3W:T3 lW=some (.sdict (w5 (mW p) (mW p).kw)):=hT3▸aC;refine cM (((Dom.upd.trans Dom.upd).trans DC).trans ((hB▸Dom.upd.trans Dom.upd:Dom τ B).trans Dom.upd)) (by k_is) (by k_is) ["pen"] [("pen",.ref lP)] rfl (fun s=>eA fun _=>Ah rfl) (by decide) (dA _) (dH (by decide +kernel)) (fun A base outer g' mg mb L=>?_);apply Af;apply SS.cast
 ·apply aB (σ1:=T1)
  ·have U0W:upd σ lW (.sdict []) lW=some (.sdict []):=aC;have U0P:upd σ lW (.sdict []) lP=some p.ob:=(upd_ne (aA rfl)).trans hp;have U0n:upd σ lW (.sdict []) (0,k)=none:=upd_none (aA rfl) (h0 _ (by exact Az _));have P:=dG (w:=w) (σ:=upd (upd σ lW (.sdict [])) (0,k) (.list [.str "hash",.str "array",.str "rows"])) (l:=lP) (ls:=(0,k)) (p:=p) ((upd_ne (aA rfl)).trans U0P) aC (aA rfl) hk (by exact ile hk2) (by decide) (by decide) aLz;have hk1:=fT (p:=p) (many:=3);have hk2':=fT (p:=p.next 3) (many:=5);have hk3:=fT (p:=(p.next 3).next 5) (many:=10);have U1P:upd (upd σ lW (.sdict [])) lP (p.next 3).ob lP=some (p.next 3).ob:=aC;have U2P:upd (upd (upd σ lW (.sdict [])) lP (p.next 3).ob) lP ((p.next 3).next 5).ob lP=some ((p.next 3).next 5).ob:=aC;have q1:0<=(p.next 3).k:=by exact Ac hk hk1.1
   have q2:(p.next 3).k<=100000:=by exact aQx hk hk2 hk1
   have q3:0<=((p.next 3).next 5).k:=by exact Ac hk (Ac hk1.1 hk2'.1)
   have q4:((p.next 3).next 5).k<=100000:=by exact aUp hk hk2 hk1 hk2'
   apply dK (sh:=.ref lW) (σ1:=T1)
   ·apply EV.cast (u:=.ref lW) (σ1:=upd (upd (upd (upd (upd σ lW (.sdict [])) lP (p.next 3).ob) lP ((p.next 3).next 5).ob) lP (((p.next 3).next 5).next 10).ob) lW (.sdict (w3 (mW p))))
    ·apply aOc lW
     ·exact hfW
     ·exact fun h=>h
     ·apply wN (x:=.str (mW p).k.name) (σ1:=upd (upd σ lW (.sdict [])) lP (p.next 3).ob)
      ·apply EV.drop (σ1:=upd (upd (upd σ lW (.sdict [])) (0,k) (.list [.str "hash",.str "array",.str "rows"])) lP (p.next 3).ob) (L:=Less.under U0n mZ) (k:=.str _);apply aM
       ·k_extra"e"
       ·k_extra"e"
       ·apply aJ
        ·k_extra"e"
         rfl'
        ·apply aJ
         ·apply dN (0,k)
          ·rfl'
          ·exact Aa rfl
          ·exact U0n
         ·exact aV
         ·exact rfl
        ·exact rfl
       ·exact FN.call P (Aa rfl)
       ac_rfl
      ·apply wN (x:=.int (1+(p.next 3).digit 5)) (σ1:=upd (upd (upd σ lW (.sdict [])) lP (p.next 3).ob) lP ((p.next 3).next 5).ob)
       ·rfl'
       ·apply wN (x:=.int (((p.next 3).next 5).digit 10))
        ·rfl'
        ·exact aQq
     ·exact(upd_ne (aA rfl)).trans ((upd_ne (aA rfl)).trans ((upd_ne (aA rfl)).trans aC))
     ·show(["kind","most","number"]:List Str).Nodup
      decide
     all_goals first|exact rfl|exact List.cons_ne_nil _ _|exact Aa rfl
    ·rfl
    ·rw[aX,aX,bT (a:=lW) (b:=lP) (aA rfl),aX];exact hT1
   all_goals rfl'
  have hk4:=fT (p:=p) (many:=3);have hk5:=fT (p:=p.next 3) (many:=5);have hk6:=fT (p:=(p.next 3).next 5) (many:=10);have hk7:=fT (p:=((p.next 3).next 5).next 10) (many:=3);have q5:0<=(((p.next 3).next 5).next 10).k:=by exact Ac (Ac hk hk4.1) (Ac hk5.1 hk6.1)
  have q6:(((p.next 3).next 5).next 10).k<=100000:=by exact aUo hk hk2 hk4 hk5 hk6
  have q7:0<=((((p.next 3).next 5).next 10).next 3).k:=by exact Ac hk (Ac (Ac hk4.1 hk5.1) (Ac hk6.1 hk7.1))
  have q8:((((p.next 3).next 5).next 10).next 3).k<=100000:=by exact aUn hk hk2 hk4 hk5 hk6 hk7
  apply aB (σ1:=T2)
  ·have U2P:upd T1 lP ((((p.next 3).next 5).next 10).next 3).ob lP=some ((((p.next 3).next 5).next 10).next 3).ob:=aC;have U2W:upd (upd T1 lP ((((p.next 3).next 5).next 10).next 3).ob) lP (((((p.next 3).next 5).next 10).next 3).next 12).ob lW=some (.sdict (w3 (mW p))):=(upd_ne (aA rfl)).trans ((upd_ne (aA rfl)).trans T1W);apply SS.cast (σ1:=upd (upd (upd (upd T1 lP ((((p.next 3).next 5).next 10).next 3).ob) lP (((((p.next 3).next 5).next 10).next 3).next 12).ob) lW (.sdict (bW (w3 (mW p)) "key" (.int (1+(((p.next 3).next 5).next 10).digit 3))))) lW (.sdict (w5 (mW p) (1+(((p.next 3).next 5).next 10).digit 3))))
   ·apply dK
    ·apply gM
     ·apply aJ
      ·k_extra"e"
       rfl'
      ·apply aJ
       ·k_extra"e"
        rfl'
       ·exact aV
       ·exact rfl
      ·exact rfl
     ·exact Aa rfl
    ·apply jS
     ·apply dP
      ·apply eY
       ·k_extra"e"
        rfl'
       ·rfl'
       ·exact cV U2W (Aa rfl) (fun h=>h)
      ·apply dP
       ·apply eY
        ·k_extra"e"
         rfl'
        ·rfl'
        ·exact cV aC (Aa rfl) (fun h=>h)
       ·exact mU
       ·exact rfl
      ·exact rfl
     all_goals exact rfl
    all_goals exact rfl
   ·rfl
   ·rw[aX,aX,<-hT1,bT (a:=lW) (b:=lP) (aA rfl),aX,aX];exact hT2
  apply aB (σ1:=T3)
  ·by_cases e:(mW p).k.name= "hash"
   ·apply SS.cast
    ·apply aD
     ·apply EB.cast
      ·rfl'
      ·simp[e]
     ·exact dI
    ·rfl
    ·rw[<-hT2,<-hT3];have:(mW p).kw=1+(((p.next 3).next 5).next 10).digit 3:=if_pos (aPf e);rw[this]
   ·apply SS.cast (σ1:=upd T2 lW (.sdict (w5 (mW p) 4)))
    ·apply aP
     ·apply EB.cast
      ·rfl'
      ·simp[e]
     ·apply aB
      ·apply dK
       ·k_extra"e"
        rfl'
       ·apply eY
        ·k_extra"e"
         rfl'
        ·rfl'
        ·exact cV T2W (Aa rfl) (fun h=>h)
       all_goals exact rfl
      ·exact dI
    ·rfl
    ·rw[<-hT2,<-hT3,aX];have:(mW p).kw=4:=if_neg fun h=>e (by show(kOf (p.digit 3)).name=_;rw[h];rfl);rw[this]
  apply aB (ms1:=mL [("parts",.tup [.str (mW p).k.name,.int (mW p).num,.int (mW p).kw,.int (mW p).vw,.int (mW p).most]),("world",.ref lW),("pen",.ref lP)]) (σ1:=T3)
  ·apply dJ (sh:=.tup [.str (mW p).k.name,.int (mW p).num,.int (mW p).kw,.int (mW p).vw,.int (mW p).most])
   ·apply gM
    ·rfl'
    ·exact Aa rfl
   all_goals first|exact rfl|decide +kernel
  apply aB (ms1:=mL [("parts",.tup [.str (mW p).k.name,.int (mW p).num,.int (mW p).kw,.int (mW p).vw,.int (mW p).most]),("world",.ref lW),("pen",.ref lP)]) (σ1:=upd (upd τ lR (.idict ((dX (mW p)).map fun q=>(q.1,.bytes q.2)))) lW (.sdict (w7 (mW p) g)))
  ·have T3R:T3 lR=none:=hT3▸hf2 lR (by decide) (by decide) (by decide);by_cases e:(mW p).k.name= "hash"
   ·have ek:(mW p).k = .hsh:=by cases z:(mW p).k <;> rw[z] at e <;> first|rfl|exact absurd e (by decide)
    have ea:(mW p).k.addr=582:=by rw[ek];rfl
    rw[ea] at C;apply SS.cast (σ1:=upd (upd (upd τ lR (.idict [])) lW (.sdict (bW (w5 (mW p) (mW p).kw) "map" (.ref (lI g))))) lW (.sdict (w7 (mW p) g)))
    ·apply aP
     ·apply EB.cast
      ·rfl'
      ·simp[e]
     apply aB
     ·apply dK (σ1:=upd τ lR (.idict []))
      ·apply gM
       ·apply aJ
        ·apply aM (σ3:=τ)
         ·rfl'
         ·rfl'
         ·rfl'
         ·exact C _ _ rfl (Aa rfl) (fun _ h=>h)
         ac_rfl
        ·apply aJ
         ·exact pL dkI lR tR
         ·exact aV
         ·exact rfl
        ·exact rfl
       ·exact Aa rfl
      ·apply jS
       ·apply dP
        ·apply eY
         ·k_extra"e"
          rfl'
         ·rfl'
         ·exact cV ((upd_ne (aA rfl)).trans tW) (Aa rfl) (fun h=>h)
        ·apply dP
         ·apply eY
          ·k_extra"e"
           rfl'
          ·rfl'
          ·exact cV aC (Aa rfl) (fun h=>h)
         ·exact mU
         ·exact rfl
        ·exact rfl
       all_goals exact rfl
      all_goals exact rfl
     ·exact dI
    ·rfl
    ·rw[aX,lF ek];rfl
   ·have ek:(mW p).k≠.hsh:=fun z=>e (by rw[z];rfl);apply SS.weak (ms1:=mL [("builder",.con (.ref (mW p).k.addr)),("parts",.tup [.str (mW p).k.name,.int (mW p).num,.int (mW p).kw,.int (mW p).vw,.int (mW p).most]),("world",.ref lW),("pen",.ref lP)])
    ·apply aD
     ·apply EB.cast
      ·rfl'
      ·simp[e]
     apply aB
     ·apply dJ (sh:=.con (.ref (mW p).k.addr))
      ·apply EV.cast
       ·apply wK
        ·rfl'
        ·rfl'
        ·rfl'
       ·cases z:(mW p).k <;> first|exact absurd z ek|rfl
       ·rfl
      all_goals first|exact rfl|decide +kernel
     apply aB
     ·apply dK (σ1:=τ)
      ·apply aM (f:=.ref (mW p).k.addr)
       ·rfl'
       ·exact aGd _
       ·rfl'
       ·exact C _ _ rfl (Aa rfl) (fun _ h=>h)
       ac_rfl
      ·apply eY
       ·k_extra"e"
        rfl'
       ·rfl'
       ·exact cV tW (Aa rfl) (fun h=>h)
      all_goals exact rfl
     apply aB
     ·obtain⟨τ2,hτ2⟩:∃A,upd τ lW (.sdict (bW (w5 (mW p) (mW p).kw) "map" (.ref (lI g))))=A:=⟨_,rfl⟩;have t2W:τ2 lW=some (.sdict (bW (w5 (mW p) (mW p).kw) "map" (.ref (lI g)))):=hτ2▸aC;have t2R:τ2 lR=none:=hτ2▸upd_none (aA rfl) tR;have t2n:τ2 (0,k)=none:=by
       rw[<-hτ2];refine upd_none (aA rfl) ((O _ fun hl=>by rcases hl with⟨h|h|h,_⟩| ⟨h|h,_⟩| ⟨h|h,_⟩ <;> cases h).trans (upd_none (aA rfl) (upd_none (aA rfl) (h0 _ (by exact Az _)))))
      have hvw:=hW.2.1;have hN:(mW p).most*(mW p).k.procs<=8*4/\0<=(mW p).most*(mW p).k.procs:=⟨Lm (by have:=hW.2.2;exact this.2) (KC.procs_le _).2 (by have:=KC.procs_le (mW p).k;exact ige this.1) (by decide),Fy (by have:=hW.2.2;exact ige this.1) (by have:=KC.procs_le (mW p).k;exact ige this.1)⟩;have nd1:((dX (mW p)).map (·.1)).Nodup:=M.nd;have len1':(dX (mW p)).length<=1000:=by rw[pD ek];unfold gV;rw[Ag,aU];exact aQw hN
      rw[hτ2];apply SS.cast (σ1:=upd (upd τ2 lR (.idict ((dX (mW p)).map fun q=>(q.1,.bytes q.2)))) lW (.sdict (w7 (mW p) g)))
      ·apply dK
       ·apply EV.drop (x:=.ref lR) (σ2:=upd τ2 lR (.idict ((dX (mW p)).map fun q=>(q.1,.bytes q.2)))) (L:=Less.under (s:=(0,k)) (A:=.list ((dX (mW p)).map fC)) t2n (fun q hq=>by obtain⟨z,_,rfl⟩:=Aq.mp hq;exact .bytes _)) (k:=.ref _ (by show upd _ _ _ _≠_;rw[aC];exact fun z=>by cases z));apply aM
        ·k_extra"e"
        ·k_extra"e"
        ·apply aJ
         ·apply EV.cast (u:=.ref (0,k)) (σ2:=upd τ2 (0,k) (.list ((dX (mW p)).map fC)))
          ·apply iD (α:=Int) (xs:=upI 0 ((mW p).most*(mW p).k.procs)) .int (fun s=>fC (s,aBz (mW p).vw)) (0,k)
           ·apply dM
            ·rfl'
            ·apply mS
             ·k_extra"e"
              rfl'
             ·apply EV.cast
              ·apply wK
               ·apply dO
                ·rfl'
                ·rfl'
                ·exact aKw _ ek
                ·exact rfl
               ·rfl'
               ·rfl'
              ·exact aHc _
              ·rfl
             ·exact(BinI.mul (tJ _)).ok
            ·exact z99 hN
            all_goals exact rfl
           ·apply LcOk.one
            ·exact rfl
            ·exact rfl
            ·rfl'
            ·exact fun _=>rfl
            ·decide +kernel
            ·decide
           ·trivial
           ·exact t2n
           ·intro s g3 C3 hs;rfl'
           ·exact fun _ h=>h
           ·rw[aU];exact aQw hN
          ·rfl
          ·rw[pD ek];unfold gV;rw[Bq];rfl
         ·exact aV
         ·exact rfl
        ·exact tF lR aC nd1 len1' (upd_none (aA rfl) t2R)
        ac_rfl
       ·apply eY
        ·k_extra"e"
         rfl'
        ·rfl'
        ·exact cV ((upd_ne (aA rfl)).trans t2W) (Aa rfl) (fun h=>h)
       all_goals exact rfl
      ·rfl
      ·rw[<-hτ2,bT (a:=lW) (b:=lR) (aA rfl),aX]
     ·exact dI
    ·rfl'
  apply aB (σ1:=upd B lW (.sdict (wkv (mW p) g)))
  ·apply SS.cast (σ1:=upd (upd (upd (upd τ lR (.idict ((dX (mW p)).map fun q=>(q.1,.bytes q.2)))) lW (.sdict (w7 (mW p) g))) lS (.bdict [])) lW (.sdict (wkv (mW p) g)))
   ·apply dK
    ·exact pL dkB lS (upd_none (aA rfl) (upd_none (aA rfl) tS))
    ·apply eY
     ·k_extra"e"
      rfl'
     ·rfl'
     ·exact cV ((upd_ne (aA rfl)).trans aC) (Aa rfl) (fun h=>h)
    all_goals exact rfl
   ·rfl
   ·rw[bT (a:=lW) (b:=lS) (aA rfl),aX,hB]
  rfl'
 ·rfl
 ·rfl
noncomputable def uQ(z c:Int):Int:=z*1019+(2*(if c<0 then -c else c)+(if decide (c<0)=true then 1 else 0)).fmod (10 ^ 40)
noncomputable def iT(ns:List Int):Pen:=⟨(ns.take 24).foldl uQ 13,0⟩
theorem aAi{ls:Lbl}{ns:List Int}{us:List Value}(hu:Nw us ns)(hl:σ ls=some (rawL us))(hz:ns.length<=63)(hn:σ lP=none):FN w 1 (.ref 591) [.ref ls] σ (.ref lP) (upd σ lP (iT ns).ob):=by
 refine FN.fresh2 lP Dom.upd fun k hkf=>?_;have h0:=(hkf k (Az _)).1;have hz1:(ns.map Sh.int).length<=1000:=by rw[Ag];exact nle hz
 refine FN.drop (σ1:=upd (upd σ (0,k) (.list ((ns.map Sh.int).take 24))) lP (iT ns).ob) ?_ (Less.under h0 mZ) (.ref _ (by show upd _ _ _ _≠_;rw[aC];exact fun z=>by cases z));refine aS (Dom.upd.trans Dom.upd) (by k_is) (by k_is) ["script"] [("script",.ref ls)] rfl (fun s=>eA fun _=>Ah rfl) (fun A base outer g' mg mb L=>?_);apply Af;apply SS.cast
 ·apply aB
  ·rfl'
  apply aB
  ·apply nN (α:=Int) (xs:=ns.take 24) (Z:=Int) .int (fun z=>[("number",.int z),("script",.ref ls)]) (fun _=>upd σ (0,k) (.list ((ns.map Sh.int).take 24))) uQ (fun _ _=>True) 13
   ·apply ItE.of
    ·apply wH
     ·k_extra"e"
      rfl'
     ·exact wG
     ·apply wF;rfl'
     ·exact aNv (k:=24) (0,k) (fun _ a=>a.rawL hu hl) hz1 h0 (fun _ _=>by with_unfolding_all rfl) (fun _ _=>by with_unfolding_all rfl)
    ·rw[List.map_take];exact cW aC
   ·rfl
   ·trivial
   ·exact fun _ _ _=>aC
   ·exact fun _ _ _ _ _=>trivial
   ·intro i z c g2 _ _;have m1:Ge z 1019:=.of_right (by decide);have m2:Ge 2 (if c<0 then -c else c):=.of_left (by decide)
    apply SS.weak
    ·apply aB
     ·apply dJ (sh:=.int (uQ z c))
      ·apply mS
       ·k_extra"e"
        rfl'
       ·apply mS
        ·apply mS
         ·k_extra"e"
          rfl'
         ·apply aM
          ·k_extra"e"
          ·k_extra"e"
          ·apply aJ
           ·k_extra"e"
            rfl'
           ·exact aV
           ·exact rfl
          ·exact kH
          ac_rfl
         ·rfl'
        ·apply mS
         ·rfl'
         ·rfl'
         ·exact(BinI.pow (by decide) (by decide) (by decide)).ok
        ·exact(BinI.mod (by decide)).ok
       ·exact BinI.add.ok
      all_goals first|exact rfl|decide +kernel
     ·exact dI
    ·rfl'
   all_goals first|exact rfl|exact fun _ h=>h.elim|decide +kernel
  apply aQ;apply bU;apply dN lP
  ·rfl'
  ·exact Aa rfl
  ·exact upd_none (hkf k (Az _)).2.symm hn
 ·rfl
 ·rfl
theorem FE.fresh{n:Nat}{f:Cf->Value}(D:Dom σ σ')(h:∀k:Int,(∀i,k<=i->σ (0,i)=none)->FE w n f args σ σ'):FE w n f args σ σ':=
 ⟨D,fun A base outer g mg mb c s vs R C H hs hv q=>by
  obtain⟨ls,hls⟩:=H.fin;have:∃k:Int,∀l∈ls,l.2<k:=by
   clear hls
   induction ls with
   |nil=>exact⟨0,fun _ h=>by cases h⟩
   |cons a ls ih=>
    obtain⟨k,hk⟩:=ih;refine⟨max k (a.2+1),fun l hl=>?_⟩;rcases An.mp hl with rfl|hl
    ·exact z62
    ·have:=hk l hl;exact z63 this
  obtain⟨k,hk⟩:=this;refine(h k fun i hi=>?_).run A base outer g mg mb c s vs R C H hs hv q
  cases e:σ (0,i) with
  |none=>rfl
  |some o=>
   have:=hk _ (hls (0,i) (by rw[e];exact fun z=>by cases z));dsimp only at this;omega⟩
theorem aEv{n nd:Lbl}{x:Str}(hn:σ n=some exc0)(hd:σ nd=none):FN w 1 (.ref 36) [.ref n,.str x] σ .none (upd (upd σ nd (.sdict [("what",.str x),("at",.none)])) n (exc1 nd)):=by
 have hne:nd≠n:=fun q=>by rw[q,hn] at hd;cases hd
 refine aDj (names:=["self","what","at"]) (dsh:=[.none]) (dv:=[.none]) (ms:=[("at",.none),("what",.str x),("self",.ref n)]) (Dom.upd.trans Dom.upd) (by k_is) (by k_is) rfl (fun _ _=>.cons .none .nil) (by intro s vs X;revert vs;exact cF fun _ _=>by refine Bv rfl (X _ _ (by k_is)) rfl rfl rfl) (fun A base outer g mg mb L=>?_);apply Af;refine⟨.next,rfl,?_⟩;have e2:upd (upd σ nd (.sdict [("what",.str x)])) n (exc1 nd) nd=some (.sdict [("what",.str x)]):=(upd_ne hne).trans aC;apply SS.cast (σ1:=upd (upd (upd σ nd (.sdict [("what",.str x)])) n (exc1 nd)) nd (.sdict (bW [("what",.str x)] "at" .none)))
 ·apply aB
  ·apply eX
   ·apply aGj (n:=n) (x:=x) (σ2:=σ)
    ·k_extra"e"
    ·rfl'
    ·exact hn
    ·exact fun h=>h
    all_goals first|exact rfl|exact .inr ⟨_,_,rfl,rfl⟩
   all_goals exact rfl
  apply aB
  ·apply dK (sh:=.str x) (σ1:=σ)
   ·rfl'
   ·apply aOi (nd:=nd) (n:=n) (σ1:=σ)
    ·k_extra"e"
     rfl'
    ·exact hn
    ·exact hd
    ·exact fun h=>h
    ·exact fun P=>aPe
   all_goals exact rfl
  apply aB
  ·apply dK (sh:=.none) (σ1:=upd (upd σ nd (.sdict [("what",.str x)])) n (exc1 nd))
   ·rfl'
   ·apply aOh (nd:=nd) (n:=n) (σ1:=upd (upd σ nd (.sdict [("what",.str x)])) n (exc1 nd))
    ·k_extra"e"
     rfl'
    ·exact aC
    ·exact e2
    ·exact Aa rfl
    ·exact fun h=>h
    ·exact fun P=>aWa
   all_goals exact rfl
  exact dI
 ·rfl
 ·rw[bT (Bw hne),aX]
  rfl
theorem aHa{k:Int}{x:Str}{u:Nat}{np sp cp:Pos}(h0:∀i,k<=i->σ (0,i)=none)(hk:aAc Γ.env "MapError" .globalImplicit=true)(hN:2<=Γ.n)(hF:∀l,¬Γ.F l):
  RSt Γ ms σ (exec (.Raise (some (.Call (.Name "MapError" np) [.Constant (.str x) u sp] [] cp)) none pos) Γ.env) σ:=by
 have hn:=h0 k (Az _);have hd:=h0 (k+1) (by exact of0);have hne:((0,k+1):Lbl)≠(0,k):=bS (by exact bO of1);have S:=aEv (w:=Γ.w) (σ:=upd σ (0,k) exc0) (n:=(0,k)) (nd:=(0,k+1)) (x:=x) aC (upd_none hne hd);apply aKj (n:=(0,k)) (nd:=(0,k+1)) (σ1:=upd (upd (upd σ (0,k) exc0) (0,k+1) (.sdict [("what",.str x),("at",.none)])) (0,k) (exc1 (0,k+1)))
 ·apply aM (f:=.ref 59)
  ·exact aKr hk (by k_is) (fun _ _=>.con _)
  ·exact Keeps.K (by k_is)
  ·apply aJ
   ·exact aKn
   ·exact aV
   ·exact rfl
  ·exact zL S hn hN hF
  all_goals first|exact rfl|exact .inr ⟨_,_,rfl,rfl⟩
 ·exact aC
 ·exact hn
 ·refine Less.scr fun l o e=>?_;have n1:l≠(0,k):=fun q=>by rw[q,hn] at e;cases e
  have n2:l≠(0,k+1):=fun q=>by rw[q,hd] at e;cases e
  exact(upd_ne n1).trans ((upd_ne n2).trans ((upd_ne n1).trans e))
 ·exact hF
theorem FE.up{n n':Nat}{f:Cf->Value}(S:FE w n f args σ σ')(h:n<=n'):FE w n' f args σ σ':=
 ⟨S.dom,fun A base outer g mg mb c s vs R C=>S.run A base outer g mg mb c s vs R ⟨C.B,C.fd,C.X,C.T,by have:=C.hd;exact z40 h this,by have:=C.hu;exact z41 h this,C.hh⟩⟩
theorem iN(M:MapB σ g m vals){b:List UInt8}(hz:(b.length:Int)≠m.kw)(hb:b.length<=900):FE w 3 (fun _=>.ref 136) [.ref (lI g),.bytes b] σ σ:=by
 refine FE.fresh (Dom.refl _) fun k h0=>?_;have hi:=M.hi;have hd:=M.hd;refine dF (names:=["self","key"]) (dsh:=[]) (dv:=[]) (ms:=[("key",.bytes b),("self",.ref (lI g))]) (Dom.refl σ) (by k_is) (by k_is) rfl (fun _ _=>.nil) (by intro s vs X;revert vs;exact cF fun _ _=>Ah rfl) (fun A base outer g' mg mb L=>?_);apply bA;apply cQ
 ·apply EB.cast
  ·rfl'
  ·simp[hz]
 apply bA
 k_extra"rz"
theorem jJ(M:MapB σ g m vals){b:List UInt8}(hz:(b.length:Int)≠m.vw)(hb:b.length<=900):FE w 3 (fun _=>.ref 143) [.ref (lI g),.bytes b] σ σ:=by
 refine FE.fresh (Dom.refl _) fun k h0=>?_;have hi:=M.hi;have hd:=M.hd;refine dF (names:=["self","octets"]) (dsh:=[]) (dv:=[]) (ms:=[("octets",.bytes b),("self",.ref (lI g))]) (Dom.refl σ) (by k_is) (by k_is) rfl (fun _ _=>.nil) (by intro s vs X;revert vs;exact cF fun _ _=>Ah rfl) (fun A base outer g' mg mb L=>?_);apply bA;apply cQ
 ·apply EB.cast
  ·rfl'
  ·simp[hz]
 apply bA
 k_extra"rz"
theorem xX(M:MapB σ g m vals){b:List UInt8}(hz:(b.length:Int)≠m.kw)(hb:b.length<=900):FE w 4 (fun _=>.ref 332) [.ref (lI g),.bytes b] σ σ:=by
 have hi:=M.hi;have hd:=M.hd;have C:=iN (w:=w) M hz hb;refine dF (names:=["self","key"]) (dsh:=[]) (dv:=[]) (ms:=[("key",.bytes b),("self",.ref (lI g))]) (Dom.refl σ) (by k_is) (by k_is) rfl (fun _ _=>.nil) (by intro s vs X;revert vs;exact cF fun _ _=>Ah rfl) (fun A base outer g' mg mb L=>?_);apply bA;apply jQ
 ·apply aQi
  ·k_extra"e"
   rfl'
  ·apply pI
   ·k_extra"e"
    rfl'
   ·exact rfl
  all_goals exact rfl
 ·exact rfl
theorem yC(M:MapH σ g m vals kbs bks){b:List UInt8}(hz:(b.length:Int)≠m.kw)(hb:b.length<=900):FE w 4 (fun _=>.ref 476) [.ref (lI g),.bytes b] σ σ:=by
 have hi:=M.hi2;have hd:=M.hd;have C:=iN (w:=w) M.toMapB hz hb;refine dF (names:=["self","key"]) (dsh:=[]) (dv:=[]) (ms:=[("key",.bytes b),("self",.ref (lI g))]) (Dom.refl σ) (by k_is) (by k_is) rfl (fun _ _=>.nil) (by intro s vs X;revert vs;exact cF fun _ _=>Ah rfl) (fun A base outer g' mg mb L=>?_);apply bA;apply jQ
 ·k_extra"e"
  rfl'
 ·exact rfl
theorem aAr(M:MapH σ g m vals kbs bks){b:List UInt8}(hz:(b.length:Int)≠m.kw)(hb:b.length<=900):FE w 5 (fun _=>.ref 484) [.ref (lI g),.bytes b] σ σ:=by
 have hi:=M.hi2;have hd:=M.hd;have C:=yC (w:=w) M hz hb;refine dF (names:=["self","key","processor"]) (dsh:=[.int 0]) (dv:=[.int 0 _]) (ms:=[("processor",.int 0),("key",.bytes b),("self",.ref (lI g))]) (Dom.refl σ) (by k_is) (by k_is) rfl (fun _ _=>.cons (.int _ _) .nil) (by intro s vs X;revert vs;exact cF fun _ _=>by refine Bv rfl (X _ _ (by k_is)) rfl rfl rfl) (fun A base outer g' mg mb L=>?_);apply bA;apply jQ
 ·k_extra"e"
  rfl'
 ·exact rfl
theorem aAt(M:MapH σ g m vals kbs bks){b:List UInt8}(hz:(b.length:Int)≠m.kw)(hb:b.length<=900):FE w 5 (fun _=>.ref 541) [.ref (lI g),.bytes b] σ σ:=by
 have hi:=M.hi2;have hd:=M.hd;have C:=yC (w:=w) M hz hb;refine dF (names:=["self","key"]) (dsh:=[]) (dv:=[]) (ms:=[("key",.bytes b),("self",.ref (lI g))]) (Dom.refl σ) (by k_is) (by k_is) rfl (fun _ _=>.nil) (by intro s vs X;revert vs;exact cF fun _ _=>Ah rfl) (fun A base outer g' mg mb L=>?_);apply bA;apply jQ
 ·k_extra"e"
  rfl'
 ·exact rfl
theorem aAo(M:MapH σ g m vals kbs bks){b o:List UInt8}{f:Int}(hz:(o.length:Int)≠m.vw)(hb:o.length<=900):FE w 4 (fun _=>.ref 520) [.ref (lI g),.bytes b,.bytes o,.int f] σ σ:=by
 have hi:=M.hi2;have hd:=M.hd;have C:=jJ (w:=w) M.toMapB hz hb;refine dF (names:=["self","key","octets","flags","processor"]) (dsh:=[.int 0]) (dv:=[.int 0 _]) (ms:=[("processor",.int 0),("flags",.int f),("octets",.bytes o),("key",.bytes b),("self",.ref (lI g))]) (Dom.refl σ) (by k_is) (by k_is) rfl (fun _ _=>.cons (.int _ _) .nil) (by intro s vs X;revert vs;exact aEu fun _ _ _ _=>by refine Bv rfl (X _ _ (by k_is)) rfl rfl rfl) (fun A base outer g' mg mb L=>?_);apply bA;apply jQ
 ·apply rV;apply pI
  ·k_extra"e"
   rfl'
  ·exact rfl
 ·exact rfl
theorem rO(M:MapB σ g m vals)(hk:m.k≠.hsh){b:List UInt8}(hz:(b.length:Int)≠m.kw)(hb:b.length<=900):FE w 5 (fun _=>.ref 354) [.ref (lI g),.bytes b] σ σ:=by
 have hi:=M.hi;have hd:=M.hd;have C:=xX (w:=w) M hz hb;refine dF (names:=["self","key","processor"]) (dsh:=[.int 0]) (dv:=[.int 0 _]) (ms:=[("processor",.int 0),("key",.bytes b),("self",.ref (lI g))]) (Dom.refl σ) (by k_is) (by k_is) rfl (fun _ _=>.cons (.int _ _) .nil) (by intro s vs X;revert vs;exact cF fun _ _=>by refine Bv rfl (X _ _ (by k_is)) rfl rfl rfl) (fun A base outer g' mg mb L=>?_);apply bA;apply jQ
 ·k_extra"e"
  rfl'
 ·exact rfl
theorem rP(M:MapB σ g m vals){b:List UInt8}(hz:(b.length:Int)≠m.kw)(hb:b.length<=900):FE w 4 (fun _=>.ref 369) [.ref (lI g),.bytes b] σ σ:=by
 have hi:=M.hi;have hd:=M.hd;have C:=iN (w:=w) M hz hb;refine dF (names:=["self","key"]) (dsh:=[]) (dv:=[]) (ms:=[("key",.bytes b),("self",.ref (lI g))]) (Dom.refl σ) (by k_is) (by k_is) rfl (fun _ _=>.nil) (by intro s vs X;revert vs;exact cF fun _ _=>Ah rfl) (fun A base outer g' mg mb L=>?_);apply bA;apply mQ
 ·k_extra"e"
  rfl'
 all_goals exact rfl
theorem oO(M:MapB σ g m vals)(hk:m.k≠.hsh){b o:List UInt8}{f:Int}(hz:(b.length:Int)≠m.kw)(hb:b.length<=900):FE w 5 (fun _=>.ref 362) [.ref (lI g),.bytes b,.bytes o,.int f] σ σ:=by
 have hi:=M.hi;have hd:=M.hd;have C:=xX (w:=w) M hz hb;refine dF (names:=["self","key","octets","flags","processor"]) (dsh:=[.int 0]) (dv:=[.int 0 _]) (ms:=[("processor",.int 0),("flags",.int f),("octets",.bytes o),("key",.bytes b),("self",.ref (lI g))]) (Dom.refl σ) (by k_is) (by k_is) rfl (fun _ _=>.cons (.int _ _) .nil) (by intro s vs X;revert vs;exact aEu fun _ _ _ _=>by refine Bv rfl (X _ _ (by k_is)) rfl rfl rfl) (fun A base outer g' mg mb L=>?_);apply bA;apply jQ
 ·apply rV;apply pI
  ·k_extra"e"
   rfl'
  ·exact rfl
 ·exact rfl
theorem oN(M:MapB σ g m vals)(hk:m.k≠.hsh){b o:List UInt8}{f:Int}(hz:(b.length:Int)=m.kw)(h4:m.kw=4)(ho:(o.length:Int)≠m.vw)(hb:o.length<=900):FE w 5 (fun _=>.ref 362) [.ref (lI g),.bytes b,.bytes o,.int f] σ σ:=by
 have hi:=M.hi;have hd:=M.hd;have C:=jJ (w:=w) M ho hb;have I:=hH (w:=w) M hz h4;refine dF (names:=["self","key","octets","flags","processor"]) (dsh:=[.int 0]) (dv:=[.int 0 _]) (ms:=[("processor",.int 0),("flags",.int f),("octets",.bytes o),("key",.bytes b),("self",.ref (lI g))]) (Dom.refl σ) (by k_is) (by k_is) rfl (fun _ _=>.cons (.int _ _) .nil) (by intro s vs X;revert vs;exact aEu fun _ _ _ _=>by refine Bv rfl (X _ _ (by k_is)) rfl rfl rfl) (fun A base outer g' mg mb L=>?_);apply bA;apply jQ
 ·apply rV;apply aNy
  ·k_extra"e"
   rfl'
  ·apply pI
   ·k_extra"e"
    rfl'
   ·exact rfl
  ·exact rfl
 ·exact rfl
theorem aEr(M:MapB σ g m vals)(H:m.k = .hsh->∃kbs bks,MapH σ g m vals kbs bks){b:List UInt8}(hz:(b.length:Int)≠m.kw)(hb:b.length<=900):FE w 5 (fun _=>.ref m.k.lookup) [.ref (lI g),.bytes b] σ σ:=by
 cases e:m.k with
 |hsh=>
  obtain⟨kbs,bks,H⟩:=H e;exact aAr H hz hb
 |arr=>exact rO M (by rw[e];exact fun z=>by cases z) hz hb
 |row=>exact rO M (by rw[e];exact fun z=>by cases z) hz hb
theorem aFj(M:MapB σ g m vals)(H:m.k = .hsh->∃kbs bks,MapH σ g m vals kbs bks){b:List UInt8}(hz:(b.length:Int)≠m.kw)(hb:b.length<=900):FE w 5 (fun _=>.ref m.k.delete) [.ref (lI g),.bytes b] σ σ:=by
 cases e:m.k with
 |hsh=>
  obtain⟨kbs,bks,H⟩:=H e;exact aAt H hz hb
 |arr=>exact(rP M hz hb).up (by decide)
 |row=>exact(rP M hz hb).up (by decide)
theorem aDu(M:MapB σ g m vals)(H:m.k = .hsh->∃kbs bks,MapH σ g m vals kbs bks){b o:List UInt8}{f:Int}(h4:m.k≠.hsh->m.kw=4)(ho:(o.length:Int)≠m.vw)(hb:b.length<=900)(hb2:o.length<=900):FE w 5 (fun _=>.ref m.k.update) [.ref (lI g),.bytes b,.bytes o,.int f] σ σ:=by
 cases e:m.k with
 |hsh=>
  obtain⟨kbs,bks,H⟩:=H e;exact(aAo H ho hb2).up (by decide)
 |arr=>
  by_cases hz:(b.length:Int)=m.kw
  ·exact oN M (by rw[e];exact fun z=>by cases z) hz (h4 (by rw[e];exact fun z=>by cases z)) ho hb2
  ·exact oO M (by rw[e];exact fun z=>by cases z) hz hb
 |row=>
  by_cases hz:(b.length:Int)=m.kw
  ·exact oN M (by rw[e];exact fun z=>by cases z) hz (h4 (by rw[e];exact fun z=>by cases z)) ho hb2
  ·exact oO M (by rw[e];exact fun z=>by cases z) hz hb
theorem FE.drop{n:Nat}{f:Cf->Value}(S:FE w n f args σ σ1)(L:Less σ σ1 σ2):FE w n f args σ σ2:=
 ⟨L.dm,fun A base outer g mg mb c s vs R C H hs hv q=>S.run A base outer g mg mb c s vs R C H hs hv fun e T c' tk hF o1 o2 H' S'=>by
  have up:∀l,σ2 l≠none->σ1 l≠none:=fun l hl=>by
   cases z:σ2 l with
   |none=>exact absurd z hl
   |some o=>rw[L.le l o z];exact fun y=>by cases y
  exact q e T c' tk hF ⟨o1.1,fun l hl=>o1.2 l (up l hl)⟩ ⟨o2.1,fun l hl=>o2.2 l (up l hl)⟩ (H'.drop L.le (L.closed H)) S'⟩
theorem kY{k:KC}(h1:k = .hsh->¬(1<=kw/\kw<=512))(h2:k≠.hsh->kw≠4):FE w 3 (fun _=>.ref 108) [.str k.name,.int kw] σ σ:=by
 refine FE.fresh (Dom.refl _) fun i h0=>?_;refine dF (names:=["kind","key_width"]) (dsh:=[]) (dv:=[]) (ms:=[("key_width",.int kw),("kind",.str k.name)]) (Dom.refl σ) (by k_is) (by k_is) rfl (fun _ _=>.nil) (by intro s vs X;revert vs;exact cF fun _ _=>Ah rfl) (fun A base outer g' mg mb L=>?_);apply bA;apply jP
 ·apply EB.cast
  ·rfl'
  ·cases k <;> decide
 apply bA;apply jP
 ·apply EB.cast
  ·rfl'
  ·cases k <;> decide
 apply bA;by_cases hk:k = .hsh
 ·have h2:=h1 hk;apply jP
  ·apply EB.cast
   ·rfl'
   ·rw[hk];decide
  apply bA;apply cQ
  ·apply EB.cast
   ·rfl'
   ·simp;exact aUm h2
  apply bA
  k_extra"rz"
 ·have h3:=h2 hk;apply cQ
  ·apply EB.cast
   ·rfl'
   ·cases k
    ·decide
    ·decide
    ·exact absurd rfl hk
  apply bA;apply cQ
  ·apply EB.cast
   ·rfl'
   ·simp[h3]
  apply bA
  k_extra"rz"
inductive BadW:Str->Int->Int->Int->Prop
 |kind {kw vw most:Int}:BadW "table" kw vw most
 |key {k:KC} {kw vw most:Int}:(k = .hsh->¬(1<=kw/\kw<=512))->(k≠.hsh->kw≠4)->BadW k.name kw vw most
 |late {k:KC} {kw vw most:Int}:aMd k kw->vw<1\/((1<=vw/\vw<=100)/\(-100000<=most/\most<=100000)/\(most<1\/((vw+7).fdiv 8*8+8)*(most+1)*k.procs>1048576))->BadW k.name kw vw most
theorem oY{k:Str}(h:BadW k kw vw most):FE w 4 (fun _=>.ref 115) [.str k,.int kw,.int vw,.int most] σ σ:=by
 refine FE.fresh (Dom.refl σ) fun i hi=>?_;have h0:=hi i (Az _);have Le:=Less.one (n:=((0,i):Lbl)) (o:=.list (cU.map .str)) h0;refine FE.drop (σ1:=upd σ (0,i) (.list (cU.map .str))) ?_ Le;have hi1:∀j,i+1<=j->upd σ (0,i) (.list (cU.map .str)) (0,j)=none:=fun j hj=>upd_none (bS (by exact bO (Am of1 hj))) (hi j (by exact Ac of0 hj));refine dF (names:=["kind","key_width","value_width","most"]) (dsh:=[]) (dv:=[]) (ms:=[("most",.int most),("value_width",.int vw),("key_width",.int kw),("kind",.str k)]) Dom.upd (by k_is) (by k_is) rfl (fun _ _=>.nil) (by intro s vs X;revert vs;exact aEu fun _ _ _ _=>Ah rfl) (fun A base outer g' mg mb L=>?_)
 cases h with
 |kind=>
  apply bA;apply cQ
  ·apply EB.cast
   ·apply dO
    ·rfl'
    ·apply pK
     ·rfl'
     ·rfl'
     ·exact iP (0,i) h0
     ac_rfl
    ·exact dQ aC
    ·exact rfl
   ·decide
  apply bA
  k_extra"rz"
 | @key k _ _ _ h1 h2=>
  have C:=kY (w:=w) (σ:=upd σ (0,i) (.list (cU.map .str))) h1 h2;apply jU
  ·apply aD
   ·apply EB.cast
    ·apply dO
     ·rfl'
     ·apply pK
      ·rfl'
      ·rfl'
      ·exact iP (0,i) h0
      ac_rfl
     ·exact dQ aC
     ·exact rfl
    ·cases k <;> decide
   ·rfl'
  ·apply bA;apply mQ
   ·rfl'
   all_goals exact rfl
 | @late k _ _ _ h1 h2=>
  have C:=fX (w:=w) (σ:=upd σ (0,i) (.list (cU.map .str))) h1;apply jU
  ·apply aD
   ·apply EB.cast
    ·apply dO
     ·rfl'
     ·apply pK
      ·rfl'
      ·rfl'
      ·exact iP (0,i) h0
      ac_rfl
     ·exact dQ aC
     ·exact rfl
    ·cases k <;> decide
   ·rfl'
  ·apply jU
   ·apply eX
    ·rfl'
    all_goals exact rfl
   ·apply jU
    ·apply aD
     ·apply EB.cast
      ·rfl'
      ·cases k <;> decide
     ·rfl'
    ·by_cases hv:vw<1
     ·apply bA;apply cQ
      ·apply EB.cast
       ·rfl'
       ·simp[hv]
      apply bA
      k_extra"rz"
     ·obtain⟨⟨v1,v2⟩,hm,h3⟩:=h2.resolve_left hv;have hs2:0<=(vw+7).fdiv 8*8+8/\(vw+7).fdiv 8*8+8<=200:=by rw[Fg _ (by decide)];exact aUk hv v2
      have m1:Ge ((vw+7).fdiv 8*8+8) (most+1):=kQ (by exact⟨ige hs2.1,ile hs2.2⟩);have m2:Ge (((vw+7).fdiv 8*8+8)*(most+1)) k.procs:=tJ k;apply jU
      ·apply aD
       ·apply EB.cast
        ·rfl'
        ·simp;exact v1
       ·rfl'
      ·apply bA;apply cQ
       ·apply EB.cast
        ·apply mP;apply mO
         ·rfl'
         ·apply mO
          ·apply dO
           ·apply mS
            ·rfl'
            ·apply EV.cast (v:=.int k.procs)
             ·rfl'
             ·cases k <;> rfl
             ·rfl
            ·rfl'
           ·rfl'
           ·rfl'
           ·exact rfl
          ·rfl'
        ·simp only[Bool.or_eq_true,Nt,decide_eq_true_eq];exact h3
       apply bA
       k_extra"rz"
theorem cN{l:Lbl}{k:Str}(h:BadW k kw vw most):FE w 5 (fun _=>.ref 129) [.ref l,.str k,.int num,.int kw,.int vw,.int most] σ σ:=by
 have C:=oY (w:=w) (σ:=σ) h;refine dF (names:=["self","kind","number","key_width","value_width","most"]) (dsh:=[]) (dv:=[]) (ms:=[("most",.int most),("value_width",.int vw),("key_width",.int kw),("number",.int num),("kind",.str k),("self",.ref l)]) (Dom.refl σ) (by k_is) (by k_is) rfl (fun _ _=>.nil) (by intro s vs X;revert vs;exact aAh fun _ _ _ _ _ _=>Ah rfl) (fun A base outer g' mg mb L=>?_);apply bA;apply mQ
 ·rfl'
 all_goals exact rfl
theorem lN{l:Lbl}{k:KC}(h:eM k kw vw most)(hn:¬(0<=num/\num<64)):FE w 5 (fun _=>.ref 129) [.ref l,.str k.name,.int num,.int kw,.int vw,.int most] σ σ:=by
 refine FE.fresh (Dom.refl _) fun i h0=>?_;have C:=iR (w:=w) (σ:=σ) h;refine dF (names:=["self","kind","number","key_width","value_width","most"]) (dsh:=[]) (dv:=[]) (ms:=[("most",.int most),("value_width",.int vw),("key_width",.int kw),("number",.int num),("kind",.str k.name),("self",.ref l)]) (Dom.refl σ) (by k_is) (by k_is) rfl (fun _ _=>.nil) (by intro s vs X;revert vs;exact aAh fun _ _ _ _ _ _=>Ah rfl) (fun A base outer g' mg mb L=>?_);apply jU
 ·apply eX
  ·rfl'
  all_goals exact rfl
 ·apply bA;apply cQ
  ·apply EB.cast
   ·rfl'
   ·simp;exact aTq hn
  apply bA
  k_extra"rz"
theorem hU{l:Lbl}{k:Str}(C:FE w 5 (fun _=>.ref 129) [.ref l,.str k,.int num,.int kw,.int vw,.int most] σ σ):FE w 6 (fun _=>.ref 462) [.ref l,.str k,.int num,.int kw,.int vw,.int most] σ σ:=by
 refine dF (names:=["self","kind","number","key_width","value_width","most"]) (dsh:=[]) (dv:=[]) (ms:=[("most",.int most),("value_width",.int vw),("key_width",.int kw),("number",.int num),("kind",.str k),("self",.ref l)]) (Dom.refl σ) (by k_is) (by k_is) rfl (fun _ _=>.nil) (by intro s vs X;revert vs;exact aAh fun _ _ _ _ _ _=>Ah rfl) (fun A base outer g' mg mb L=>?_);apply bA;apply mQ
 ·apply rW (mc:=.type "type")
  ·rfl'
  ·k_is
  ·k_is
  ·k_is
  ·exact Keeps.K (by k_is)
  ·rfl'
  ·rfl'
  ac_rfl
 all_goals exact rfl
theorem mN{l:Lbl}{k:Str}(C:FE w 5 (fun _=>.ref 129) [.ref l,.str k,.int num,.int kw,.int vw,.int most] σ σ):FE w 6 (fun _=>.ref 325) [.ref l,.str k,.int num,.int kw,.int vw,.int most] σ σ:=by
 refine dF (names:=["self","kind","number","key_width","value_width","most"]) (dsh:=[]) (dv:=[]) (ms:=[("most",.int most),("value_width",.int vw),("key_width",.int kw),("number",.int num),("kind",.str k),("self",.ref l)]) (Dom.refl σ) (by k_is) (by k_is) rfl (fun _ _=>.nil) (by intro s vs X;revert vs;exact aAh fun _ _ _ _ _ _=>Ah rfl) (fun A base outer g' mg mb L=>?_);apply bA;apply mQ
 ·apply rW (mc:=.type "type")
  ·rfl'
  ·k_is
  ·k_is
  ·k_is
  ·exact Keeps.K (by k_is)
  ·rfl'
  ·rfl'
  ac_rfl
 all_goals exact rfl
section
variable{l:Lbl}{ls:List Lbl}{p:List Addr->Obj->Prop}{n:Nat}
theorem mY(hl:σ l=some (.raw ls p))(hfn:∀as o,p as o->∃oc od fd sl,o=⟨oc,od,.func fd,sl⟩)(S:FE w n (fun c=>.ref (c.ρ l)) [] σ σ'):FN w (n+1) (.ref 656) [.ref l] σ (.bool true) σ':=by
 refine aS S.dom (by k_is) (by k_is) ["ask"] [("ask",.ref l)] rfl (fun s=>eA fun _=>Ah rfl) (fun A base outer g mg mb L=>?_);apply Af;apply aQ;apply aGc
 ·exact rfl
 ·exact rfl
 ·apply aQk;apply aQl
  ·apply aRu hl hfn S (Bs _) (fun _ h=>h)
   ·rfl'
  all_goals exact rfl
 ·exact rfl
 ·decide +kernel
 ·k_is
 ·exact fun _ h=>h
theorem aEh(hl:σ l=some (.raw ls p))(hfn:∀as o,p as o->∃oc od fd sl,o=⟨oc,od,.func fd,sl⟩)(S:FNl w n (fun c=>.ref (c.ρ l)) [] σ sh σ'):FN w (n+1) (.ref 656) [.ref l] σ (.bool false) σ':=by
 refine aS S.dom (by k_is) (by k_is) ["ask"] [("ask",.ref l)] rfl (fun s=>eA fun _=>Ah rfl) (fun A base outer g mg mb L=>?_);apply Af;apply aB
 ·apply aKg;apply aB
  ·apply eX
   ·apply aRt hl hfn S (Bs _) (fun _ h=>h)
    ·rfl'
   all_goals exact rfl
  ·exact dI
 rfl'
end
noncomputable abbrev lBm:Lbl:=(13,0)
noncomputable abbrev lTa:Lbl:=(14,0)
noncomputable abbrev lTb:Lbl:=(15,0)
noncomputable abbrev lCd(i:Int):Lbl:=(12,i)
noncomputable def aO(m:MC)(p:Pen):Pen:=((p.next 9).next (m.most+3)).next 4
noncomputable def lJ(m:MC)(p:Pen):Pen:=((aO m p).next 2).next 2
theorem vN{x y p:Str}{a c b:Nat}(h:a≠c)(h1:Gz x [(p,a),(q,c)]=some b)(h2:Gz y [(p,a),(q,c)]=some b):x=y:=by
 have m1:=mem_of_lookup h1;have m2:=mem_of_lookup h2;simp only[An,La,Kb,or_false] at m1 m2;rcases m1 with⟨e1,f1⟩| ⟨e1,f1⟩ <;> rcases m2 with⟨e2,f2⟩| ⟨e2,f2⟩ <;> first|exact e1.trans e2.symm| (exfalso;omega)
theorem mD{x y p r:Str}{a c d b:Nat}(h:a≠c)(h':a≠d)(h'':c≠d)(h1:Gz x [(p,a),(q,c),(r,d)]=some b)(h2:Gz y [(p,a),(q,c),(r,d)]=some b):x=y:=by
 have m1:=mem_of_lookup h1;have m2:=mem_of_lookup h2;simp only[An,La,Kb,or_false] at m1 m2;rcases m1 with⟨e1,f1⟩| ⟨e1,f1⟩| ⟨e1,f1⟩ <;> rcases m2 with⟨e2,f2⟩| ⟨e2,f2⟩| ⟨e2,f2⟩ <;> first|exact e1.trans e2.symm|exact absurd (f1.symm.trans f2) h|exact absurd (f2.symm.trans f1) h|exact absurd (f1.symm.trans f2) h'|exact absurd (f2.symm.trans f1) h'|exact absurd (f1.symm.trans f2) h''|exact absurd (f2.symm.trans f1) h''
noncomputable abbrev sP:Arguments:=⟨[],[],none,[],[],none,[]⟩
section
variable{x y z:Str}{a b d:Addr}{sx sy sz:Sh}{k j i:Lbl}{f:Value}
theorem CallOk.cell2(hx:Γ.env.cells.lookup x=some a)(hy:Γ.env.cells.lookup y=some b)(hxy:y≠x)(ha:Γ.L<a)(hb:Γ.L<b)(hmx:ms x=some sx)(hmy:ms y=some sy)(hk:σ k=none)(hj:σ j=none)(hjk:j≠k)
  (hsx:(∃l,sx = .ref l)\/∃b,sx = .bytes b)(hsy:(∃l,sy = .ref l)\/∃b,sy = .bytes b)(hs:∀D,SOk D sh)
  (h:∀Γ':Gm,Γ'.w=Γ.w->Γ'.n=Γ.n->Γ'.F=Γ.F->CallOk Γ' ms (upd (upd σ k (bN k a sx)) j (bN j b sy)) f args sh (upd (upd σ k (bN k a sx)) j (bN j b sy))):CallOk Γ ms σ f args sh σ:=
 CallOk.cell hx ha hmx hk hsx hs (CallOk.cell (Γ:=Γ.less x) (cE.mpr ⟨hy,hxy⟩) hb hmy (upd_none hjk hj) hsy hs (h _ rfl rfl rfl))
theorem CallOk.cell3(hx:Γ.env.cells.lookup x=some a)(hy:Γ.env.cells.lookup y=some b)(hz:Γ.env.cells.lookup z=some d)(hxy:y≠x)(hxz:z≠x)(hyz:z≠y)(ha:Γ.L<a)(hb:Γ.L<b)(hd:Γ.L<d)(hmx:ms x=some sx)(hmy:ms y=some sy)(hmz:ms z=some sz)(hk:σ k=none)(hj:σ j=none)(hi:σ i=none)(hjk:j≠k)(hik:i≠k)(hij:i≠j)
  (hsx:(∃l,sx = .ref l)\/∃b,sx = .bytes b)(hsy:(∃l,sy = .ref l)\/∃b,sy = .bytes b)(hsz:(∃l,sz = .ref l)\/∃b,sz = .bytes b)(hs:∀D,SOk D sh)
  (h:∀Γ':Gm,Γ'.w=Γ.w->Γ'.n=Γ.n->Γ'.F=Γ.F->CallOk Γ' ms (upd (upd (upd σ k (bN k a sx)) j (bN j b sy)) i (bN i d sz)) f args sh (upd (upd (upd σ k (bN k a sx)) j (bN j b sy)) i (bN i d sz))):CallOk Γ ms σ f args sh σ:=
 CallOk.cell hx ha hmx hk hsx hs (CallOk.cell2 (Γ:=Γ.less x) (cE.mpr ⟨hy,hxy⟩) (cE.mpr ⟨hz,hxz⟩) hyz hb hd hmy hmz (upd_none hjk hj) (upd_none hik hi) hij hsy hsz hs h)
end
section
variable{k j i n:Lbl}{a b d f:Addr}{nm y z:Str}{wb ob:List UInt8}{p4 p5 p6:Pos}
theorem aVw(M:MapB τ g m vals)(hn:τ n=some (bI nc qual sP (.Call (.Attribute (.Name "one" p1) nm p2) [.Name y p3] [] p4) scope clos))(hnc:τ nc=some (aZ qual))(hk:τ k=some (bN k a (.ref (lI g))))(hj:τ j=some (bN j b (.bytes wb)))
  (S:FE w 5 (fun _=>.ref f) [.ref (lI g),.bytes wb] τ τ)(hf:∀P:Jz,Cq (Mine.hd.heap_1 P) (.ref m.k.addr) nm=some (some (.ref f)))(ht:∀P:Jz,isFn (Mine.hd.heap_1 P) (.ref f)=true)(kk:∀Γ:Gm,Keeps Γ (.ref f))(hv:aY (kvs m g) nm=none)(hp:(p2.endLine==p4.line)=true)
  (ci:∀x y b,clos.lookup x=some b->clos.lookup y=some b->x=y)(ca:clos.lookup ("one":Str)=some a)(cb:clos.lookup y=some b)(sa:scope.names.lookup ("one":Str)=some Eu)(sb:scope.names.lookup y=some Eu)
  (hco:scope.isCoroutine=false)(hgen:scope.isGenerator=false)(hkd:scope.kind = .function)(hcell:∀x∈scope.names,x.2≠.cell)(y1:(y==("__debug__":Str))=false)(y2:(y==("__classdict__":Str))=false):FN w 7 (.ref 656) [.ref n] τ (.bool true) τ:=by
 refine mY hn (fun as o=>?_) (aAj (N:=5) (Dom.refl _) hn hnc (fun _ _ _=>rfl) ci (fun A base outer g' mg mb L f' c'=>?_) hco hgen hkd hcell)
 ·rintro⟨pm,ctv,rfl⟩;exact⟨_,_,_,_,rfl⟩
 ·apply zD (σ1:=τ) (σ2:=τ)
  ·exact sC hk hkd sa ca (by decide) (by decide)
  ·exact M.hi
  ·exact M.hd
  ·exact hv
  ·exact aBb _
  ·exact hf _
  ·exact ht _
  ·exact kk _
  ·apply jR
   ·exact sC hj hkd sb cb y1 y2
   ·exact wO
   ·exact rfl
  ·exact FE.callE S (Bs _) (fun _ h=>h)
  all_goals first|exact rfl|exact Bb.mpr ⟨rfl,hp⟩
theorem aVv(M:MapB τ g m vals)(hn:τ n=some (bI nc qual sP (.Call (.Attribute (.Name "one" p1) "update" p2) [.Name y p3,.Name z p5,.Constant (.int 0) 0 p6] [] p4) scope clos))(hnc:τ nc=some (aZ qual))(hk:τ k=some (bN k a (.ref (lI g))))(hj:τ j=some (bN j b (.bytes wb)))(hi:τ i=some (bN i d (.bytes ob)))
  (S:FE w 5 (fun _=>.ref m.k.update) [.ref (lI g),.bytes wb,.bytes ob,.int 0] τ τ)(hp:(p2.endLine==p4.line)=true)
  (ci:∀x y b,clos.lookup x=some b->clos.lookup y=some b->x=y)(ca:clos.lookup ("one":Str)=some a)(cb:clos.lookup y=some b)(cd:clos.lookup z=some d)(sa:scope.names.lookup ("one":Str)=some Eu)(sb:scope.names.lookup y=some Eu)(sd:scope.names.lookup z=some Eu)
  (hco:scope.isCoroutine=false)(hgen:scope.isGenerator=false)(hkd:scope.kind = .function)(hcell:∀x∈scope.names,x.2≠.cell)(y1:(y==("__debug__":Str))=false)(y2:(y==("__classdict__":Str))=false)(z1:(z==("__debug__":Str))=false)(z2:(z==("__classdict__":Str))=false):FN w 7 (.ref 656) [.ref n] τ (.bool true) τ:=by
 refine mY hn (fun as o=>?_) (aAj (N:=5) (Dom.refl _) hn hnc (fun _ _ _=>rfl) ci (fun A base outer g' mg mb L f' c'=>?_) hco hgen hkd hcell)
 ·rintro⟨pm,ctv,rfl⟩;exact⟨_,_,_,_,rfl⟩
 ·apply zD (σ1:=τ) (σ2:=τ)
  ·exact sC hk hkd sa ca (by decide) (by decide)
  ·exact M.hi
  ·exact M.hd
  ·k_extra"at"
  ·exact aBb _
  ·k_extra"fi"
  ·exact tU
  ·exact tO
  ·apply jR
   ·exact sC hj hkd sb cb y1 y2
   ·apply jR
    ·exact sC hi hkd sd cd z1 z2
    ·apply jR
     ·exact aQm
     ·exact wO
     ·exact rfl
    ·exact rfl
   ·exact rfl
  ·exact FE.callE S (Bs _) (fun _ h=>h)
  all_goals first|exact rfl|exact Bb.mpr ⟨rfl,hp⟩
end
section
variable{k:Int}{a b d f:Addr}{nm y z:Str}{wb ob:List UInt8}{p4 p5 p6:Pos}{bks:List (List Int)}
noncomputable def MH(σ:Sg)(g:Gn)(m:MC)(vals:List (Int×List UInt8)):Prop:=MapB σ g m vals/\(m.k = .hsh->∃kbs bks,MapH σ g m vals kbs bks)
theorem MH.frame(M:MH σ g m vals)(h:∀l,own g l->σ' l=σ l):MH σ' g m vals:=⟨M.1.frame h,fun e=>let⟨kbs,bks,X⟩:=M.2 e;⟨kbs,bks,X.frame h⟩⟩
theorem MH.upd{l:Lbl}{o:Ob}(M:MH σ g m vals)(h:l.1=0\/8<=l.1):MH (upd σ l o) g m vals:=M.frame fun x hx=>upd_ne fun e=>by
 subst e;rcases hx with⟨q|q|q,_⟩| ⟨q|q,_⟩| ⟨q|q,_⟩ <;> omega
theorem aOp(M:MH τ g m vals)(hz:∀i,k<=i->τ (0,i)=none)(hnc:τ nc=some (aZ qual))(ncz:nc.1=12)
  (ha:Γ.env.cells.lookup ("one":Str)=some a)(hb:Γ.env.cells.lookup y=some b)(hy:y≠("one":Str))(la:Γ.L<a)(lb:Γ.L<b)(ma:ms ("one":Str)=some (.ref (lI g)))(mb:ms y=some (.bytes wb))(hN:7<=Γ.n)(hF:∀l,¬Γ.F l)
  (S:∀τ',MH τ' g m vals->FE Γ.w 5 (fun _=>.ref f) [.ref (lI g),.bytes wb] τ' τ')(hf:∀P:Jz,Cq (Mine.hd.heap_1 P) (.ref m.k.addr) nm=some (some (.ref f)))(ht:∀P:Jz,isFn (Mine.hd.heap_1 P) (.ref f)=true)(kk:∀Γ:Gm,Keeps Γ (.ref f))(hv:aY (kvs m g) nm=none)(hp:(p2.endLine==p4.line)=true)
  (ci:∀x y b,clos.lookup x=some b->clos.lookup y=some b->x=y)(ca:clos.lookup ("one":Str)=some a)(cb:clos.lookup y=some b)(sa:scope.names.lookup ("one":Str)=some Eu)(sb:scope.names.lookup y=some Eu)
  (hco:scope.isCoroutine=false)(hgen:scope.isGenerator=false)(hkd:scope.kind = .function)(hcell:∀x∈scope.names,x.2≠.cell)(y1:(y==("__debug__":Str))=false)(y2:(y==("__classdict__":Str))=false):
  CallOk Γ ms (upd τ (0,k) (bI nc qual sP (.Call (.Attribute (.Name "one" p1) nm p2) [.Name y p3] [] p4) scope clos)) (.ref 656) [.ref (0,k)] (.bool true) (upd τ (0,k) (bI nc qual sP (.Call (.Attribute (.Name "one" p1) nm p2) [.Name y p3] [] p4) scope clos)):=by
 have n1:((0,k+1):Lbl)≠(0,k):=fun e=>by have:k+1=k:=congrArg En e;exact absurd this (bO of1)
 have n2:((0,k+2):Lbl)≠(0,k):=fun e=>by have:k+2=k:=congrArg En e;exact absurd this (bO of1)
 have n3:((0,k+2):Lbl)≠(0,k+1):=fun e=>by have:k+2=k+1:=congrArg En e;exact absurd this (bO of3)
 have nz:∀i:Int,nc≠(0,i):=fun i e=>by rw[e] at ncz;cases ncz
 refine CallOk.cell2 (k:=(0,k+1)) (j:=(0,k+2)) ha hb hy la lb ma mb (upd_none n1 (hz _ (by exact of0))) (upd_none n2 (hz _ (by exact of0))) n3 (.inl ⟨_,rfl⟩) (.inr ⟨_,rfl⟩) (fun _=>.bool _) fun Γ' ew en eF=>?_;have M2:=((M.upd (l:=(0,k)) (o:=bI nc qual sP (.Call (.Attribute (.Name "one" p1) nm p2) [.Name y p3] [] p4) scope clos) (.inl rfl)).upd (l:=(0,k+1)) (o:=bN (0,k+1) a (.ref (lI g))) (.inl rfl)).upd (l:=(0,k+2)) (o:=bN (0,k+2) b (.bytes wb)) (.inl rfl);refine FN.call (aVw (w:=Γ'.w) M2.1 ((upd_ne (Bw n2)).trans ((upd_ne (Bw n1)).trans aC)) ((upd_ne (nz _)).trans ((upd_ne (nz _)).trans ((upd_ne (nz _)).trans hnc))) ((upd_ne (Bw n3)).trans aC) aC (ew▸S _ M2) hf ht kk hv hp ci ca cb sa sb hco hgen hkd hcell y1 y2) (en▸hN) (eF▸hF)
theorem aOo(M:MH τ g m vals)(hz:∀i,k<=i->τ (0,i)=none)(hnc:τ nc=some (aZ qual))(ncz:nc.1=12)
  (ha:Γ.env.cells.lookup ("one":Str)=some a)(hb:Γ.env.cells.lookup y=some b)(hd:Γ.env.cells.lookup z=some d)(hy:y≠("one":Str))(hz1:z≠("one":Str))(hyz:z≠y)(la:Γ.L<a)(lb:Γ.L<b)(ld:Γ.L<d)(ma:ms ("one":Str)=some (.ref (lI g)))(mb:ms y=some (.bytes wb))(md:ms z=some (.bytes ob))(hN:7<=Γ.n)(hF:∀l,¬Γ.F l)
  (S:∀τ',MH τ' g m vals->FE Γ.w 5 (fun _=>.ref m.k.update) [.ref (lI g),.bytes wb,.bytes ob,.int 0] τ' τ')(hp:(p2.endLine==p4.line)=true)
  (ci:∀x y b,clos.lookup x=some b->clos.lookup y=some b->x=y)(ca:clos.lookup ("one":Str)=some a)(cb:clos.lookup y=some b)(cd:clos.lookup z=some d)(sa:scope.names.lookup ("one":Str)=some Eu)(sb:scope.names.lookup y=some Eu)(sd:scope.names.lookup z=some Eu)
  (hco:scope.isCoroutine=false)(hgen:scope.isGenerator=false)(hkd:scope.kind = .function)(hcell:∀x∈scope.names,x.2≠.cell)(y1:(y==("__debug__":Str))=false)(y2:(y==("__classdict__":Str))=false)(z1:(z==("__debug__":Str))=false)(z2:(z==("__classdict__":Str))=false):
  CallOk Γ ms (upd τ (0,k) (bI nc qual sP (.Call (.Attribute (.Name "one" p1) "update" p2) [.Name y p3,.Name z p5,.Constant (.int 0) 0 p6] [] p4) scope clos)) (.ref 656) [.ref (0,k)] (.bool true) (upd τ (0,k) (bI nc qual sP (.Call (.Attribute (.Name "one" p1) "update" p2) [.Name y p3,.Name z p5,.Constant (.int 0) 0 p6] [] p4) scope clos)):=by
 have n1:((0,k+1):Lbl)≠(0,k):=fun e=>by have:k+1=k:=congrArg En e;exact absurd this (bO of1)
 have n2:((0,k+2):Lbl)≠(0,k):=fun e=>by have:k+2=k:=congrArg En e;exact absurd this (bO of1)
 have n3:((0,k+2):Lbl)≠(0,k+1):=fun e=>by have:k+2=k+1:=congrArg En e;exact absurd this (bO of3)
 have n4:((0,k+3):Lbl)≠(0,k):=fun e=>by have:k+3=k:=congrArg En e;exact absurd this (bO of1)
 have n5:((0,k+3):Lbl)≠(0,k+1):=fun e=>by have:k+3=k+1:=congrArg En e;exact absurd this (bO of3)
 have n6:((0,k+3):Lbl)≠(0,k+2):=fun e=>by have:k+3=k+2:=congrArg En e;exact absurd this (bO of3)
 have nz:∀i:Int,nc≠(0,i):=fun i e=>by rw[e] at ncz;cases ncz
 refine CallOk.cell3 (k:=(0,k+1)) (j:=(0,k+2)) (i:=(0,k+3)) ha hb hd hy hz1 hyz la lb ld ma mb md (upd_none n1 (hz _ (by exact of0))) (upd_none n2 (hz _ (by exact of0))) (upd_none n4 (hz _ (by exact of0))) n3 n5 n6 (.inl ⟨_,rfl⟩) (.inr ⟨_,rfl⟩) (.inr ⟨_,rfl⟩) (fun _=>.bool _) fun Γ' ew en eF=>?_;have M2:=(((M.upd (l:=(0,k)) (o:=bI nc qual sP (.Call (.Attribute (.Name "one" p1) "update" p2) [.Name y p3,.Name z p5,.Constant (.int 0) 0 p6] [] p4) scope clos) (.inl rfl)).upd (l:=(0,k+1)) (o:=bN (0,k+1) a (.ref (lI g))) (.inl rfl)).upd (l:=(0,k+2)) (o:=bN (0,k+2) b (.bytes wb)) (.inl rfl)).upd (l:=(0,k+3)) (o:=bN (0,k+3) d (.bytes ob)) (.inl rfl);refine FN.call (aVv (w:=Γ'.w) M2.1 ((upd_ne (Bw n4)).trans ((upd_ne (Bw n2)).trans ((upd_ne (Bw n1)).trans aC))) ((upd_ne (nz _)).trans ((upd_ne (nz _)).trans ((upd_ne (nz _)).trans ((upd_ne (nz _)).trans hnc)))) ((upd_ne (Bw n5)).trans ((upd_ne (Bw n3)).trans aC)) ((upd_ne (Bw n6)).trans aC) aC (ew▸S _ M2) hp ci ca cb cd sa sb sd hco hgen hkd hcell y1 y2 z1 z2) (en▸hN) (eF▸hF)
end
noncomputable def d2(q:Pen):Int:=if q.digit 2=0 then 1 else -1
theorem aCu{q:Pen}{n:Int}(h:1<=n/\n<=12):((Ap (n+d2 q).toNat (0:UInt8)).length:Int)≠n/\(Ap (n+d2 q).toNat (0:UInt8)).length<=900/\(0<=n+d2 q/\n+d2 q<=1000):=by
 have hk:d2 q=1\/d2 q = -1:=by unfold d2;split <;> simp
 rw[Ek];generalize d2 q=k at*;have h0:0<=n+k/\n+k<=900/\n+k≠n:=by rcases hk with rfl|rfl <;> omega
 rw[Cb h0.1];exact⟨h0.2.2,Int.toNat_le.mpr h0.2.1,h0.1,Ac h0.2.1 (by decide)⟩
theorem xK{k:Int}{q:Pen}(hq:τ lP=some q.ob)(h0:0<=q.k)(h1:q.k<=100000):FN w 2 (.ref 605) [.ref lP,.ref (0,k)] (upd τ (0,k) (.list [.int 1,.int (-1)])) (.int (d2 q)) (upd (upd τ (0,k) (.list [.int 1,.int (-1)])) lP (q.next 2).ob):=by
 refine dG (xs:=[.int 1,.int (-1)]) ((upd_ne (aA rfl)).trans hq) aC (aA rfl) h0 h1 (by decide) (by decide) ?_;have r:=aR (p:=q) (many:=2) (by decide);show [Sh.int 1,.int (-1)][(q.digit 2).toNat]? = some (.int (d2 q));have:q.digit 2=0\/q.digit 2=1:=by exact aUl r
 unfold d2;rcases this with e|e <;> rw[e] <;> rfl
section
variable{n:Lbl}{P:Addr}{es:List ((Nat×Nat)×Lbl)}{p0:Pos}{body:Aj}
theorem wI(h0:EV Γ ms σ (eval (.Name ("_law_refused":Str) p0) Γ.env) (.con (.ref 656)) σ)(k0:Keeps Γ (.ref 656))(hB:sL σ lBm)(hT:σ lT=some (bM lT P es))(hE:∀e∈es,σ e.2≠none)(hnc:σ nc=none)(hn:σ n=none)(hne:n≠nc)
  (hdef:Mn params Γ.env=([],[]))(hcl:Gk scope Γ.env=pure clos)(hcode:Γ.env.code = .ref cc)(hq:Γ.env.qual++ "<lambda>"=qual)(C:∀h,(Mine.hd.heap_1 Γ.w.params).In h->Nq h cc P)(hnew:∀e∈es,e.1≠(pos.line,pos.col))
  (hbm:nsIn (Mine.hd.heap_1 Γ.w.params) mainGlobals "__builtins__"=some (some (.ref 4)))(hP4:P≠4)(hgP:mainGlobals≠P)(hF:∀l,¬Γ.F l)
  (h:CallOk Γ ms (upd (upd (upd σ nc (aZ qual)) lT (bM lT P (es++[((pos.line,pos.col),nc)]))) n (bI nc qual params body scope clos)) (.ref 656) [.ref n] (.bool true) (upd (upd (upd σ nc (aZ qual)) lT (bM lT P (es++[((pos.line,pos.col),nc)]))) n (bI nc qual params body scope clos))):
  EV Γ ms σ (eval (.Call (.Name ("_law_refused":Str) p0) [.Lambda params body scope pos] [] p1) Γ.env) (.bool true) (upd (upd σ nc (aZ qual)) lT (bM lT P (es++[((pos.line,pos.col),nc)]))):=by
 have hTn:lT≠n:=fun q=>by rw[q,hn] at hT;cases hT
 have hTc:lT≠nc:=fun q=>by rw[q,hnc] at hT;cases hT
 refine EV.drop (aM h0 k0 (aJ (cB hB hT hnc hn hne hdef hcl hcode hq C hnew hbm hP4 hgP hF) aV) h) (Less.last (Dom.upd.trans Dom.upd) (upd_none (Bw hTn) (upd_none hne hn)) fun l o e=>?_) (.bool _);by_cases q:l=lT
 ·subst q;rw[aC] at e;cases e;refine .inr fun y hy=>?_;rcases An.mp hy with rfl|hy
  ·show upd _ _ _ _≠none;rw[aC];exact fun z=>by cases z
  ·rw[Dg] at hy;rcases Ce.mp hy with hy|hy
   ·obtain⟨e,he,rfl⟩:=Aq.mp hy;exact(Dom.upd.trans Dom.upd) _ (hE e he)
   ·rw[Ax.mp hy];exact Dom.upd _ (by show upd _ _ _ _≠none;rw[aC];exact fun z=>by cases z)
 ·rw[upd_ne q] at e;by_cases q2:l=nc
  ·subst q2;rw[aC] at e;cases e;exact .inr fun y hy=>by cases hy
  ·rw[upd_ne q2] at e;exact .inl e
theorem wJ(h0:EV Γ ms σ (eval (.Name ("_law_refused":Str) p0) Γ.env) (.con (.ref 656)) σ)(k0:Keeps Γ (.ref 656))(hB:sL σ lBm)(hT:σ lT=some (bM lT P es))(hn:σ n=none)
  (hdef:Mn params Γ.env=([],[]))(hcl:Gk scope Γ.env=pure clos)(hcode:Γ.env.code = .ref cc)(hq:Γ.env.qual++ "<lambda>"=qual)(C:∀h,(Mine.hd.heap_1 Γ.w.params).In h->Nq h cc P)(hit:(es.find? fun e=>e.1=(pos.line,pos.col)).map (·.2)=some nc)
  (hbm:nsIn (Mine.hd.heap_1 Γ.w.params) mainGlobals "__builtins__"=some (some (.ref 4)))(hP4:P≠4)
  (h:CallOk Γ ms (upd σ n (bI nc qual params body scope clos)) (.ref 656) [.ref n] (.bool true) (upd σ n (bI nc qual params body scope clos))):
  EV Γ ms σ (eval (.Call (.Name ("_law_refused":Str) p0) [.Lambda params body scope pos] [] p1) Γ.env) (.bool true) σ:=
 EV.drop (aM h0 k0 (aJ (aGh hB hT hn hdef hcl hcode hq C hit hbm hP4) aV) h) (Less.one hn) (.bool _)
end
noncomputable def ins(es:List ((Nat×Nat)×Lbl))(q:Nat×Nat)(nc:Lbl):List ((Nat×Nat)×Lbl):=if(es.find? fun e=>e.1=q).isSome then es else es++[(q,nc)]
noncomputable def Stg(σ:Sg)(es:List ((Nat×Nat)×Lbl))(q:Nat×Nat)(nc:Lbl)(qual:Str):Prop:=((es.find? fun e=>e.1=q).map (·.2)=some nc/\σ nc=some (aZ qual))\/((∀e∈es,e.1≠q)/\σ nc=none)
section
variable{n:Lbl}{P:Addr}{es:List ((Nat×Nat)×Lbl)}{p0:Pos}{body:Aj}
theorem mR(st:Stg σ es (pos.line,pos.col) nc qual)(h0:EV Γ ms σ (eval (.Name ("_law_refused":Str) p0) Γ.env) (.con (.ref 656)) σ)(k0:Keeps Γ (.ref 656))(hB:sL σ lBm)(hT:σ lT=some (bM lT P es))(hE:∀e∈es,σ e.2≠none)(hn:σ n=none)(hne:n≠nc)
  (hdef:Mn params Γ.env=([],[]))(hcl:Gk scope Γ.env=pure clos)(hcode:Γ.env.code = .ref cc)(hq:Γ.env.qual++ "<lambda>"=qual)(C:∀h,(Mine.hd.heap_1 Γ.w.params).In h->Nq h cc P)
  (hbm:nsIn (Mine.hd.heap_1 Γ.w.params) mainGlobals "__builtins__"=some (some (.ref 4)))(hP4:P≠4)(hgP:mainGlobals≠P)(hF:∀l,¬Γ.F l)
  (h:CallOk Γ ms (upd (upd (upd σ nc (aZ qual)) lT (bM lT P (ins es (pos.line,pos.col) nc))) n (bI nc qual params body scope clos)) (.ref 656) [.ref n] (.bool true) (upd (upd (upd σ nc (aZ qual)) lT (bM lT P (ins es (pos.line,pos.col) nc))) n (bI nc qual params body scope clos))):
  EV Γ ms σ (eval (.Call (.Name ("_law_refused":Str) p0) [.Lambda params body scope pos] [] p1) Γ.env) (.bool true) (upd (upd σ nc (aZ qual)) lT (bM lT P (ins es (pos.line,pos.col) nc))):=by
 rcases st with⟨hit,hc⟩| ⟨hnew,hc⟩
 ·have e1:ins es (pos.line,pos.col) nc=es:=if_pos (by cases q:es.find? (fun e=>e.1=(pos.line,pos.col)) with|none=>rw[q] at hit;cases hit|some _=>rfl);rw[e1,jA hc,jA hT] at h ⊢;exact wJ h0 k0 hB hT hn hdef hcl hcode hq C hit hbm hP4 h
 ·have e1:ins es (pos.line,pos.col) nc=es++[((pos.line,pos.col),nc)]:=if_neg (by
   rw[Cv]
   rintro⟨x,hx⟩
   have h1:=Cr hx;exact hnew x (By hx) (by simpa using h1))
  rw[e1] at h ⊢;exact wI h0 k0 hB hT hE hc hn hne hdef hcl hcode hq C hnew hbm hP4 hgP hF h
end
theorem lZ{K:Frag}{c P:Addr}{vs:Array Value}{od:_}{sl:_}{file:_}{tf:_}{flags:_}{tg:_}{inF:_}{text:_}{tt:_}(ho:K.lookup c=some ⟨.type "code",od,.fields vs,sl⟩)(h1:vs[11]? = some (.ref P))(h2:vs.getD 11 .none = .ref P)(h3:vs.getD 18 .none = .str file tf)
  (h4:vs.getD 7 .none = .int flags tg)(h5:vs.getD 9 .none = .bool inF)(h6:vs.getD 10 .none = .int text tt)(h7:True=True)(h8:c≠P)(h:Heap)(X:K.In h):Nq h c P:=⟨_,vs,file,tf,flags,tg,inF,text,tt,X _ _ ho,rfl,rfl,h1,h2,h3,h4,h5,h6,h8⟩
noncomputable abbrev ql7:Str:="_law_deed_right.<locals>.<lambda>"
noncomputable abbrev lG(T:Sg)(es:List ((Nat×Nat)×Lbl))(q:Nat×Nat)(i:Int):Sg:=upd (upd T (lCd i) (aZ ql7)) lTa (bM lTa 672 (ins es q (lCd i)))
structure TS(T:Sg)(g:Gn)(m:MC)(vals:List (Int×List UInt8))(es:List ((Nat×Nat)×Lbl))(k:Int):Prop where
 B:sL T lBm
 Tb:T lTa=some (bM lTa 672 es)
 E:∀e∈es,T e.2≠none
 Z:∀i,k<=i->T (0,i)=none
 M:MH T g m vals
theorem TS.step{T:Sg}{es:List ((Nat×Nat)×Lbl)}{k:Int}(h:TS T g m vals es k)(q:Nat×Nat)(i:Int):TS (lG T es q i) g m vals (ins es q (lCd i)) k:=by
 refine⟨h.B.imp fun _ h=>(upd_ne (aA rfl)).trans ((upd_ne (aA rfl)).trans h),aC,fun e he=>?_,fun j hj=>upd_none (aA rfl) (upd_none (aA rfl) (h.Z j hj)),(h.M.upd (.inr (Aa rfl))).upd (.inr (Aa rfl))⟩;unfold ins at he
 split at he
 ·exact(Dom.upd.trans Dom.upd) _ (h.E e he)
 ·rcases Ce.mp he with he|he
  ·exact(Dom.upd.trans Dom.upd) _ (h.E e he)
  ·rw[Ax.mp he];exact Dom.upd _ (by show upd _ _ _ _≠none;rw[aC];exact fun z=>by cases z)
noncomputable abbrev aDy:List ((Nat×Nat)×Lbl):=[((484,0),lCd 0),((485,0),lCd 1),((488,0),lCd 2),((489,0),lCd 3)]
noncomputable def PreT(σ:Sg)(es:List ((Nat×Nat)×Lbl)):Prop:=(es=[]/\∀i,0<=i->i<4->σ (lCd i)=none)\/(es=aDy/\∀i,0<=i->i<4->σ (lCd i)=some (aZ ql7))
theorem PreT.all{es:List ((Nat×Nat)×Lbl)}(h:PreT σ es):Stg σ es (484,0) (lCd 0) ql7/\Stg (lG σ es (484,0) 0) (ins es (484,0) (lCd 0)) (485,0) (lCd 1) ql7/\
  Stg (lG (lG σ es (484,0) 0) (ins es (484,0) (lCd 0)) (485,0) 1) (ins (ins es (484,0) (lCd 0)) (485,0) (lCd 1)) (488,0) (lCd 2) ql7/\
  Stg (lG (lG (lG σ es (484,0) 0) (ins es (484,0) (lCd 0)) (485,0) 1) (ins (ins es (484,0) (lCd 0)) (485,0) (lCd 1)) (488,0) 2) (ins (ins (ins es (484,0) (lCd 0)) (485,0) (lCd 1)) (488,0) (lCd 2)) (489,0) (lCd 3) ql7/\
  ins (ins (ins (ins es (484,0) (lCd 0)) (485,0) (lCd 1)) (488,0) (lCd 2)) (489,0) (lCd 3)=aDy:=by
 have nt:∀i:Int,lCd i≠lTa:=fun i=>aA (by decide);have nc:∀i j:Int,i≠j->lCd i≠lCd j:=fun i j h e=>h (congrArg En e);rcases h with⟨rfl,h⟩| ⟨rfl,h⟩
 ·have u:∀(T:Sg) (es:List ((Nat×Nat)×Lbl)) (q:Nat×Nat) (i j:Int),j≠i->T (lCd j)=none->lG T es q i (lCd j)=none:=fun T es q i j hj e=>upd_none (nt _) (upd_none (nc _ _ hj) e);exact⟨.inr ⟨by decide,h 0 (by decide) (by decide)⟩,.inr ⟨by decide,u _ _ _ _ _ (by decide) (h 1 (by decide) (by decide))⟩,.inr ⟨by decide,u _ _ _ _ _ (by decide) (u _ _ _ _ _ (by decide) (h 2 (by decide) (by decide)))⟩,
   .inr ⟨by decide,u _ _ _ _ _ (by decide) (u _ _ _ _ _ (by decide) (u _ _ _ _ _ (by decide) (h 3 (by decide) (by decide))))⟩,by decide⟩
 ·have u:∀(T:Sg) (es:List ((Nat×Nat)×Lbl)) (q:Nat×Nat) (i j:Int),j≠i->T (lCd j)=some (aZ ql7)->lG T es q i (lCd j)=some (aZ ql7):=fun T es q i j hj e=>(upd_ne (nt _)).trans ((upd_ne (nc _ _ hj)).trans e);exact⟨.inl ⟨by decide,h 0 (by decide) (by decide)⟩,.inl ⟨by decide,u _ _ _ _ _ (by decide) (h 1 (by decide) (by decide))⟩,.inl ⟨by decide,u _ _ _ _ _ (by decide) (u _ _ _ _ _ (by decide) (h 2 (by decide) (by decide)))⟩,
   .inl ⟨by decide,u _ _ _ _ _ (by decide) (u _ _ _ _ _ (by decide) (u _ _ _ _ _ (by decide) (h 3 (by decide) (by decide))))⟩,by decide⟩
noncomputable abbrev nD(m:MC)(p:Pen):Int:=(p.next 9).digit (m.most+3)
noncomputable abbrev prD(m:MC)(p:Pen):Int:=((p.next 9).next (m.most+3)).digit 4
noncomputable abbrev kyD(m:MC)(p:Pen):List UInt8:=bG (nD m p) m.kw
noncomputable def xL(m:MC)(p:Pen):Pen:=(gW m.vw.toNat (aO m p)).next 5
noncomputable def kO(m:MC)(p:Pen):Pen:=((aO m p).next 256).next m.vw
noncomputable def wrt(m:MC)(p:Pen)(x:List UInt8):List UInt8:=x.set (((aO m p).next 256).digit m.vw).toNat ((aO m p).digit 256).toNat.toUInt8
theorem aLm(x:List UInt8)(i:Nat)(a:UInt8)(h:i<x.length):x.take i++[a]++x.drop (i+1)=x.set i a:=by
 rw[List.set_eq_take_append_cons_drop,if_pos h,Ic];rfl
structure Pk(p:Pen)(n:Int):Prop where
 lo:0<=p.k
 hi:p.k<=n
theorem Pk.next{p:Pen}{n many:Int}(h:Pk p n):Pk (p.next many) (n+1):=by
 have:=fT (p:=p) (many:=many);exact⟨Ac h.lo this.1,Ac this.2 (Be h.hi 1)⟩
theorem Pk.many{p:Pen}{n:Int}{k:Nat}(h:Pk p n):Pk (gW k p) (n+k):=by
 have:=aHd k p;exact⟨Ac h.lo this.1,Ac this.2 (Be h.hi _)⟩
theorem Pk.le{p:Pen}{n n':Int}(h:Pk p n)(l:n<=n'):Pk p n':=⟨h.lo,Ac h.hi l⟩
theorem pE{p:Pen}(h:Pk p 40000):Pk (aO m p) 40003:=h.next.next.next
theorem uG{value:Aj}{b:List UInt8}{lo hi:Option Int}(hz:b.length<=1000)
  (hs':∀o i:Value,Ih slice false o i=Jn [i,o] (Ma o i))(ht:∀(b:Array UInt8) (t:Tok) (r:Value),letTemporaryGo value (.bytes b t) r=pure ()):
  SlOk Γ ms τ value slice (.bytes b) lo hi (.bytes ((b.drop (lo.elim 0 (Jv b.length))).take (hi.elim b.length (Jv b.length)-lo.elim 0 (Jv b.length)))) τ:=
 ⟨Dom.refl τ,fun c s u vl vu Q E a hs i pl pu q=>by
  cases i with
  |bytes _ t=>
  refine subscriptTail_ops (Ei _ _ _) FB.slot_bytes_getitem.lookup (getItem_meets (Ei _ _ _) (by decide) FB.slot_bytes_getitem FB.entry_bytes_getitem (FB.args_bytes_getitem_2 _ _) (KBc.meets_slice2 b.toArray t _ pl pu)
   ⟨Heap.IsSliceOf.new _ _ _ _,?_,fun t' k=>?_⟩) (hs' _ _) (ht _ _)
  ·rw[KBc.picked_eq,Bg,Kc,Mj,Bh];simp only[Bg];have e:b.toArray.toList.length=b.length:=rfl;exact z35 hz e
  ·obtain⟨a1,s1⟩:=a.grow0 (h':=c.h.push {cls:=.type "slice",data:=.fields #[vl,vu,.none]}) fun b o e=>Ae _ e;have ep:KBy.picked b.toArray lo hi=((b.drop (lo.elim 0 (Jv b.length))).take (hi.elim b.length (Jv b.length)-lo.elim 0 (Jv b.length))).toArray:=by
    rw[KBc.picked_eq];simp
   rw[ep,hs];exact q _ ⟨c.ρ,c.h.push {cls:=.type "slice",data:=.fields #[vl,vu,.none]}⟩ k (.bytes _ t') a1 s1⟩
theorem vK{x:List UInt8}{i j:Nat}:((x.drop i).take j).length<=x.length:=Ar (List.length_take_le' _ _) (by rw[Mj];exact Nat.sub_le _ _)
theorem aCy{n:Nat}{k:Int}(h0:0<=k)(h1:k<=n):Jv n k=k.toNat:=by
 unfold Jv;rw[if_neg (Eg.mpr h0),Int.min_eq_left h1,Int.max_eq_right h0]
theorem aCt{n:Nat}{x:Option Int}:Dt n (iU x):=by cases x with|none=>exact .none n|some b=>exact .int n b
theorem SS.fin{t:Sem Flow}(h:SS Γ ms σ t fl ms1 σ1):SS Γ ms σ t fl (mL []) σ1:=h.weak fE
inductive D0(w:World)(g:Gn)(m:MC)(vals:List (Int×List UInt8))(p:Pen)(b:Bool)(σ σ5:Sg):Prop
 |mk (fl r r':Int) (σ4:Sg) (hfl:[Sh.int 0,.int 0,.int 1,.int 2,.int 3][((gW m.vw.toNat (aO m p)).digit 5).toNat]? = some (.int fl))
  (S1:FN w 9 (.ref m.k.update) [.ref (lI g),.bytes (kyD m p),.bytes (eJ m.vw (aO m p)),.int fl,.int (prD m p)] (upd σ lP (xL m p).ob) (.int r) σ4)
  (S2:FN w 9 (.ref 632) [.ref lW,.int (nD m p),.bytes (eJ m.vw (aO m p)),.int fl,.int (prD m p)] σ4 (.int r') σ5)(e:(r==r')=b):D0 w g m vals p b σ σ5
inductive D4(w:World)(g:Gn)(m:MC)(vals:List (Int×List UInt8))(p:Pen)(b:Bool)(σ σ5:Sg):Prop
 |mk (r r':Int) (σ4:Sg) (S1:FN w 9 (.ref m.k.delete) [.ref (lI g),.bytes (kyD m p)] (upd σ lP (aO m p).ob) (.int r) σ4) (S2:FN w 9 (.ref 639) [.ref lW,.int (nD m p)] σ4 (.int r') σ5) (e:(r==r')=b):D4 w g m vals p b σ σ5
inductive D5(w:World)(g:Gn)(m:MC)(vals:List (Int×List UInt8))(p:Pen)(b:Bool)(σ σ5:Sg):Prop
 |mk (e:true=b) (so:Option Int) (S1:FN w 9 (.ref m.k.lookup) [.ref (lI g),.bytes (kyD m p),.int (prD m p)] (upd σ lP (aO m p).ob) (iU so) (upd σ lP (aO m p).ob)) (S2:FN w 9 (.ref 166) [.ref (lI g),.bytes (kyD m p),.int (prD m p)] (upd σ lP (aO m p).ob) (iU so) (upd σ lP (aO m p).ob))
  (S3:FN w 9 (.ref 627) [.ref lW,.int (nD m p),.int (prD m p)] (upd σ lP (aO m p).ob) (iU so) (upd σ lP (aO m p).ob))(kn:so=none->upd σ lP (aO m p).ob=σ5)
  (ks:∀s,so=some s->∃x,aL vals s=some x/\(x.length:Int)=m.vw/\upd (upd (upd σ lP (kO m p).ob) (lo g s) (.ba (wrt m p x))) lR (.idict ((vput vals s (wrt m p x)).map fun p=>(p.1,.bytes p.2)))=σ5):D5 w g m vals p b σ σ5
inductive D6(w:World)(g:Gn)(m:MC)(vals:List (Int×List UInt8))(p:Pen)(b:Bool)(σ σ5:Sg):Prop
 |mk (e:true=b) (g2:Gn) (τ4 τ5:Sg) (r r2:Int) (S1:FN w 9 (.ref m.k.copy) [.ref (lI g)] (upd σ lP (aO m p).ob) (.ref (lI g2)) τ4) (tW:τ4 lW=some (.sdict (wkv m g))) (tP:τ4 lP=some (aO m p).ob) (M4:MH τ4 g m vals)
  (S2:FN w 9 (.ref m.k.update) [.ref (lI g),.bytes (kyD m p),.bytes (eJ m.vw (aO m p)),.int 0,.int (prD m p)] (upd (upd τ4 lW (.sdict (wkv m g2))) lP (gW m.vw.toNat (aO m p)).ob) (.int r) τ5)(ti:τ5 (lI g)=some (.inst m.k.addr (lD g)))(td:τ5 (lD g)=some (.sdict (kvs m g)))
  (S3:FN w 9 (.ref m.k.delete) [.ref (lI g),.bytes (kyD m p)] τ5 (.int r2) σ5):D6 w g m vals p b σ σ5
noncomputable abbrev aRp(m:MC)(p:Pen)(σ:Sg)(es:List ((Nat×Nat)×Lbl)):Sg:=upd (upd (upd (upd (upd (upd (upd (upd (upd σ lP (lJ m p).ob) (lCd 0) (aZ ql7)) lTa (bM lTa 672 (ins es (484,0) (lCd 0)))) (lCd 1) (aZ ql7)) lTa (bM lTa 672 (ins (ins es (484,0) (lCd 0)) (485,0) (lCd 1)))) (lCd 2) (aZ ql7)) lTa (bM lTa 672 (ins (ins (ins es (484,0) (lCd 0)) (485,0) (lCd 1)) (488,0) (lCd 2)))) (lCd 3) (aZ ql7)) lTa (bM lTa 672 aDy)
inductive D7(w:World)(g:Gn)(m:MC)(vals:List (Int×List UInt8))(p:Pen)(b:Bool)(σ σ5:Sg):Prop
 |mk (e:true=b) (es:List ((Nat×Nat)×Lbl)) (hst:PreT (upd σ lP (lJ m p).ob) es) (hB:sL σ lBm) (hT:σ lTa=some (bM lTa 672 es)) (hE:∀e∈es,σ e.2≠none) (e5:aRp m p σ es=σ5):D7 w g m vals p b σ σ5
inductive D8(w:World)(g:Gn)(m:MC)(vals:List (Int×List UInt8))(p:Pen)(b:Bool)(σ σ5:Sg):Prop
 |mk (e:true=b) (σ4:Sg) (S1:FN w 9 (.ref 663) [.ref lW,.int (nD m p)] (upd σ lP (aO m p).ob) (.bool true) σ4) (S2:FN w 9 (.ref 670) [.ref lP,.ref lW] σ4 (.bool true) σ5):D8 w g m vals p b σ σ5
structure Ds(w:World)(g:Gn)(m:MC)(vals:List (Int×List UInt8))(p:Pen)(b:Bool)(σ σ5:Sg):Prop where
 k0:p.digit 9<4->D0 w g m vals p b σ σ5
 k4:p.digit 9=4->D4 w g m vals p b σ σ5
 k5:p.digit 9=5->D5 w g m vals p b σ σ5
 k6:p.digit 9=6->D6 w g m vals p b σ σ5
 k7:p.digit 9=7->D7 w g m vals p b σ σ5
 k8:p.digit 9=8->D8 w g m vals p b σ σ5
section
variable{p:Pen}{b:Bool}{σ5:Sg}
theorem Ds.m0(hd:p.digit 9<4)(d:D0 w g m vals p b σ σ5):Ds w g m vals p b σ σ5:=⟨fun _=>d,fun h=>absurd h (by exact gG hd),fun h=>absurd h (by exact gG (ilt hd)),fun h=>absurd h (by exact gG (ilt hd)),fun h=>absurd h (by exact gG (ilt hd)),fun h=>absurd h (by exact gG (ilt hd))⟩
theorem Ds.mE{k:Int}(hd:p.digit 9=k)(h4:4<=k)(d4:k=4->D4 w g m vals p b σ σ5)(d5:k=5->D5 w g m vals p b σ σ5)(d6:k=6->D6 w g m vals p b σ σ5)(d7:k=7->D7 w g m vals p b σ σ5)(d8:k=8->D8 w g m vals p b σ σ5):Ds w g m vals p b σ σ5:=by
 subst hd;exact⟨fun h=>absurd h (Eg.mpr h4),d4,d5,d6,d7,d8⟩
theorem Ds.m4(hd:p.digit 9=4)(d:D4 w g m vals p b σ σ5):Ds w g m vals p b σ σ5:=.mE hd (by decide) (fun _=>d) nofun nofun nofun nofun
theorem Ds.m5(hd:p.digit 9=5)(d:D5 w g m vals p b σ σ5):Ds w g m vals p b σ σ5:=.mE hd (by decide) nofun (fun _=>d) nofun nofun nofun
theorem Ds.m6(hd:p.digit 9=6)(d:D6 w g m vals p b σ σ5):Ds w g m vals p b σ σ5:=.mE hd (by decide) nofun nofun (fun _=>d) nofun nofun
theorem Ds.m7(hd:p.digit 9=7)(d:D7 w g m vals p b σ σ5):Ds w g m vals p b σ σ5:=.mE hd (by decide) nofun nofun nofun (fun _=>d) nofun
theorem Ds.m8(hd:p.digit 9=8)(d:D8 w g m vals p b σ σ5):Ds w g m vals p b σ σ5:=.mE hd (by decide) nofun nofun nofun nofun (fun _=>d)
end
theorem iM{p:Pen}{b:Bool}{σ5:Sg}(M:MH σ g m vals)(hw:σ lW=some (.sdict (wkv m g)))(hr:σ lR=some (.idict (vals.map fun p=>(p.1,.bytes p.2))))(hp:σ lP=some p.ob)(hm:1<=m.most/\m.most<=5)(hkw:1<=m.kw/\m.kw<=4)(hvw:1<=m.vw/\m.vw<=12)(h4:m.k≠.hsh->m.kw=4)(hvl:vals.length<=100)(hpk:Pk p 40000)(D:Dom σ σ5)
  (K:Ds w g m vals p b σ σ5):
  FN w 10 (.ref 677) [.ref lP,.ref lW] σ (.bool b) σ5:=by
 obtain⟨q0,hk2⟩:=hpk.le (n':=100000) (by decide);obtain⟨q1,q2⟩:=(hpk.next (many:=9)).le (n':=100000) (by decide);obtain⟨q3,q4⟩:=((hpk.next (many:=9)).next (many:=m.most+3)).le (n':=100000) (by decide);obtain⟨q5,q6⟩:=(pE (m:=m) hpk).le (n':=50000) (by decide);have r9:=aR (p:=p) (many:=9) (by decide);have W3:upd σ lP (aO m p).ob lW=some (.sdict (wkv m g)):=(upd_ne (aA rfl)).trans hw;have hkey:=kS (w:=w) (n:=nD m p) W3 (by exact⟨ige hkw.1,hkw.2⟩);have hi3:=(M.upd (l:=lP) (o:=(aO m p).ob) (.inr (by decide))).1.hi;have hd3:=(M.upd (l:=lP) (o:=(aO m p).ob) (.inr (by decide))).1.hd;refine FN.fresh D fun k hkf=>?_;have hZ:∀o,upd σ lP o (0,k)=none:=fun o=>upd_none (aA rfl) (hkf k (Az _));refine cM D (by k_is) (by k_is) ["pen","world"] [("world",.ref lW),("pen",.ref lP)] rfl (fun s=>cF fun _ _=>Ah rfl) (by decide) (dA _) (dH (by decide +kernel)) (fun A base outer g' mg mb L=>?_);refine⟨mL [],?_⟩;apply aB (σ1:=upd σ lP (p.next 9).ob)
 ·rfl'
 apply aB (σ1:=upd σ lP (aO m p).ob)
 ·have P1:upd σ lP (p.next 9).ob lP=some (p.next 9).ob:=aC;have P2:upd (upd σ lP (p.next 9).ob) lP ((p.next 9).next (m.most+3)).ob lP=some ((p.next 9).next (m.most+3)).ob:=aC;apply SS.cast (σ1:=upd (upd (upd σ lP (p.next 9).ob) lP ((p.next 9).next (m.most+3)).ob) lP (((p.next 9).next (m.most+3)).next 4).ob)
  ·rfl'
  ·rfl
  ·rw[aX,aX];rfl
 apply aB (σ1:=upd σ lP (aO m p).ob)
 ·rfl'
 dsimp only;by_cases h0:p.digit 9<4
 ·have K:=K.k0 h0;obtain⟨fl,r,r',σ4,hfl,S1,S2,rfl⟩:=K;have pk:=(pE (m:=m) hpk).many (k:=m.vw.toNat);have pk:=pk.le (n':=100000) (by exact aSj hvw);obtain⟨q7,q8⟩:=pk;have hiN:=(M.upd (l:=lP) (o:=(xL m p).ob) (.inr (by decide))).1.hi;have hdN:=(M.upd (l:=lP) (o:=(xL m p).ob) (.inr (by decide))).1.hd;apply SS.fin;apply aQ;apply aP
  ·apply EB.cast
   ·rfl'
   ·simpa using h0
  apply aB (σ1:=upd σ lP (xL m p).ob)
  ·apply aDh (u:=.bytes (eJ m.vw (aO m p))) (v:=.int fl)
   ·exact rfl
   ·apply gM
    ·apply aJ (σ1:=upd σ lP (gW m.vw.toNat (aO m p)).ob)
     ·refine EV.cast (σ1:=upd (upd σ lP (aO m p).ob) lP (gW m.vw.toNat (aO m p)).ob) ?_ rfl aX;apply aM
      ·k_extra"e"
      ·k_extra"e"
      ·rfl'
      ·exact FN.call (wW aC W3 q5 q6 (by exact⟨ige hvw.1,ile hvw.2⟩)) (Aa rfl)
      ac_rfl
     ·apply aJ
      ·refine EV.cast (σ1:=upd (upd σ lP (gW m.vw.toNat (aO m p)).ob) lP (xL m p).ob) ?_ rfl aX;apply EV.drop (σ1:=upd (upd (upd σ lP (gW m.vw.toNat (aO m p)).ob) (0,k) (.list [.int 0,.int 0,.int 1,.int 2,.int 3])) lP (xL m p).ob) (L:=Less.under (hZ _) mZ) (k:=.int _);apply aM
       ·k_extra"e"
       ·k_extra"e"
       ·apply aJ
        ·k_extra"e"
         rfl'
        ·apply aJ
         ·apply dN (0,k)
          ·rfl'
          ·exact Aa rfl
          ·exact hZ _
         ·exact aV
         ·exact rfl
        ·exact rfl
       ·exact FN.call (dG ((upd_ne (aA rfl)).trans aC) aC (aA rfl) q7 q8 (by decide) (by decide) hfl) (Aa rfl)
       ac_rfl
      ·exact aV
      ·exact rfl
    ·exact Aa rfl
   all_goals first|exact rfl|decide +kernel
  rfl'
 apply aB
 ·apply aD
  ·apply EB.cast
   ·rfl'
   ·exact decide_eq_false h0
  ·exact dI
 by_cases h4':p.digit 9=4
 ·have K:=K.k4 h4';obtain⟨r,r',σ4,S1,S2,rfl⟩:=K;apply SS.fin;apply aQ;apply aP
  ·apply EB.cast
   ·rfl'
   ·rw[h4'];rfl
  rfl'
 apply aB
 ·apply aD
  ·apply EB.cast
   ·rfl'
   ·exact beq_eq_false_iff_ne.mpr (by exact h4')
  ·exact dI
 by_cases h5:p.digit 9=5
 ·have K:=K.k5 h5;obtain⟨rfl,so,S1,S2,S3,kn,ks⟩:=K;apply aQ;apply aP
  ·apply EB.cast
   ·rfl'
   ·rw[h5];rfl
  apply aB
  ·rfl'
  apply aB
  ·apply aD
   ·apply mP;apply fJ
    ·apply dO
     ·k_extra"e"
      rfl'
     ·rfl'
     ·exact dW (aCt (n:=0)) (by decide)
     ·exact rfl
    ·apply fJ
     ·apply dO
      ·k_extra"e"
       rfl'
      ·rfl'
      ·exact dW (aCt (n:=0)) (by decide)
      ·exact rfl
     ·exact jN
   ·exact dI
  cases so with
  |none=>
   have kn:=kn rfl;clear ks;subst kn;apply SS.fin;apply aB
   ·apply aD
    ·apply EB.cast
     ·apply dO
      ·rfl'
      ·rfl'
      ·exact nR rfl
      ·exact rfl
     ·rfl
    ·exact dI
   rfl'
  |some s=>
   have ks:=ks s rfl;clear kn;obtain⟨x,hx,hxl,rfl⟩:=ks;apply SS.fin;dsimp only[iU];have q6':(aO m p).k<=100000:=Ac q6 (by decide);have hat:=aR (p:=(aO m p).next 256) (many:=m.vw) (by exact aHx hvw.1);have hoc:=aR (p:=aO m p) (many:=256) (by decide);obtain⟨q7,q8⟩:=((pE (m:=m) hpk).next (many:=256)).le (n':=100000) (by decide);obtain⟨hat0,hat1⟩:=hat;obtain⟨hoc0,hoc1⟩:=hoc;have hi5:=(M.upd (l:=lP) (o:=(kO m p).ob) (.inr (by decide))).1.hi;have hd5:=(M.upd (l:=lP) (o:=(kO m p).ob) (.inr (by decide))).1.hd;have hv5:=(M.upd (l:=lP) (o:=(kO m p).ob) (.inr (by decide))).1.hv;have ho5:=(M.upd (l:=lP) (o:=(kO m p).ob) (.inr (by decide))).1.ho _ (bL hx);have W5:upd (upd σ lP (kO m p).ob) (lo g s) (.ba (wrt m p x)) lW=some (.sdict (wkv m g)):=(upd_ne (aA rfl)).trans ((upd_ne (aA rfl)).trans hw);have R5:upd (upd σ lP (kO m p).ob) (lo g s) (.ba (wrt m p x)) lR=some (.idict (vals.map fun p=>(p.1,.bytes p.2))):=(upd_ne (aA rfl)).trans ((upd_ne (aA rfl)).trans hr);apply aB (σ1:=upd (upd (upd σ lP (kO m p).ob) (lo g s) (.ba (wrt m p x))) lR (.idict ((vput vals s (wrt m p x)).map fun p=>(p.1,.bytes p.2))))
   ·apply aP
    ·apply EB.cast
     ·apply dO
      ·rfl'
      ·rfl'
      ·exact nR rfl
      ·exact rfl
     ·rfl
    apply aB (σ1:=upd σ lP (kO m p).ob)
    ·apply SS.cast (σ1:=upd (upd (upd σ lP (aO m p).ob) lP ((aO m p).next 256).ob) lP (((aO m p).next 256).next m.vw).ob) (fl:=.next)
     ·have P1:upd σ lP (aO m p).ob lP=some (aO m p).ob:=aC;have P2:upd (upd σ lP (aO m p).ob) lP ((aO m p).next 256).ob lP=some ((aO m p).next 256).ob:=aC;rfl'
     ·rfl
     ·rw[aX,aX];rfl
    apply aB (σ1:=upd (upd σ lP (kO m p).ob) (lo g s) (.ba (wrt m p x)))
    ·apply dK
     ·k_extra"e"
      rfl'
     ·apply eY
      ·k_extra"e"
       rfl'
      ·rfl'
      ·exact aQe ho5 hat0 (by exact xZ hat1 hxl.symm) hoc0 hoc1 (by exact cle (hM hxl hvw.2)) (fun h=>h)
     all_goals exact rfl
    have hlx:x.length<=1000:=by exact cle (hM hxl hvw.2)
    have hti:(((aO m p).next 256).digit m.vw).toNat<x.length:=by exact aGu hat0 (xZ hat1 hxl.symm)
    have eR:(x.drop 0).take (Jv x.length (((aO m p).next 256).digit m.vw)-0)++[((aO m p).digit 256).toNat.toUInt8]++(x.drop (Jv x.length (((aO m p).next 256).digit m.vw+1))).take (x.length-Jv x.length (((aO m p).next 256).digit m.vw+1))=wrt m p x:=by
     have c1:Jv x.length (((aO m p).next 256).digit m.vw)=(((aO m p).next 256).digit m.vw).toNat:=aCy hat0 (Cu (by exact xZ hat1 hxl.symm));have c2:Jv x.length (((aO m p).next 256).digit m.vw+1)=(((aO m p).next 256).digit m.vw).toNat+1:=(aCy (Ac hat0 (Ca (by decide))) (Int.add_one_le_of_lt (by exact xZ hat1 hxl.symm))).trans (Int.toNat_add hat0 (by decide));rw[c1,c2,Lb,Nat.sub_zero,Hx (l:=x.drop _) (by rw[Mj];exact Bs _)];exact aLm x _ _ hti
    have hvg:aY (vals.map fun p=>(p.1,Sh.bytes p.2)) s=some (.bytes x):=dgm (f:=fun p=>Sh.bytes p.2) hx;rw[<-dpv (f:=Sh.bytes)];apply aB
    ·apply dK (sh:=.bytes (wrt m p x)) (σ1:=upd (upd σ lP (kO m p).ob) (lo g s) (.ba (wrt m p x)))
     ·refine EV.cast (σ1:=upd (upd σ lP (kO m p).ob) (lo g s) (.ba (wrt m p x))) ?_ (congrArg Sh.bytes eR) rfl;apply mS
      ·apply mS
       ·apply wH (l:=none) (h:=some (((aO m p).next 256).digit m.vw))
        ·k_extra"e"
         rfl'
        ·exact wG
        ·apply wF;rfl'
        ·exact uG hlx (fun _ _=>by with_unfolding_all rfl) (fun _ _ _=>rfl)
       ·apply EV.drop (L:=Less.one (n:=(0,k)) (o:=.list [.int ((aO m p).digit 256)]) (upd_none (aA rfl) (upd_none (aA rfl) (hkf k (Az _))))) (k:=.bytes _);apply aM
        ·k_extra"e"
        ·k_extra"e"
        ·apply aJ
         ·apply dN (0,k)
          ·rfl'
          ·exact Aa rfl
          ·exact upd_none (aA rfl) (upd_none (aA rfl) (hkf k (Az _)))
         ·exact aV
         ·exact rfl
        ·exact dR (ns:=[(aO m p).digit 256]) aC (by intro n hn;rw[Ax.mp hn];exact⟨hoc0,hoc1⟩) (Aa rfl)
        ac_rfl
       ·apply gU;exact Ar (Ep vK 1) (by show x.length+1<=1000;exact aSh hvw hxl)
      ·apply wH (l:=some (((aO m p).next 256).digit m.vw+1)) (h:=none)
       ·k_extra"e"
        rfl'
       ·apply wF;rfl'
       ·exact wG
       ·exact uG hlx (fun _ _=>by with_unfolding_all rfl) (fun _ _ _=>rfl)
      ·apply gU;rw[Cz];exact Ar (Jl (Ep vK 1) vK) (by show x.length+1+x.length<=1000;exact aSg hvw hxl)
     ·apply eY
      ·k_extra"e"
       rfl'
      ·rfl'
      ·exact uH R5 (by rw[Ag];exact nle hvl) (fun h=>h)
     all_goals exact rfl
    exact dI
   rfl'
 apply aB
 ·apply aD
  ·apply EB.cast
   ·rfl'
   ·exact beq_eq_false_iff_ne.mpr (by exact h5)
  ·exact dI
 by_cases h6:p.digit 9=6
 ·have K:=K.k6 h6;obtain⟨rfl,g2,τ4,τ5,r,r2,S1,tW,tP,M4,S2,ti,td,S3⟩:=K;have hi6:upd τ4 lW (.sdict (wkv m g2)) (lI g)=some (.inst m.k.addr (lD g)):=(upd_ne (aA rfl)).trans M4.1.hi;have hd6:upd τ4 lW (.sdict (wkv m g2)) (lD g)=some (.sdict (kvs m g)):=(upd_ne (aA rfl)).trans M4.1.hd;have tP6:upd τ4 lW (.sdict (wkv m g2)) lP=some (aO m p).ob:=(upd_ne (aA rfl)).trans tP;apply SS.fin;apply aQ;apply aP
  ·apply EB.cast
   ·rfl'
   ·rw[h6];rfl
  apply aB (σ1:=upd τ4 lW (.sdict (wkv m g2)))
  ·apply SS.cast (σ1:=upd τ4 lW (.sdict (bW (wkv m g) "map" (.ref (lI g2)))))
   ·apply dK (sh:=.ref (lI g2)) (σ1:=τ4)
    ·k_extra"e"
     rfl'
    ·apply eY
     ·k_extra"e"
      rfl'
     ·rfl'
     ·exact cV tW (Aa rfl) (fun h=>h)
    all_goals exact rfl
   ·rfl
   ·rfl
  apply aB (σ1:=τ5)
  ·apply eX
   ·apply aKp
    case h0=>
     k_extra"e"
     rfl'
    case hl=>exact hi6
    case hd=>exact hd6
    case h2=>exact FN.call S2 (Aa rfl)
    case h1=>
     apply aJ
     ·k_extra"e"
      rfl'
     ·apply aJ
      ·apply aM
       ·k_extra"e"
       ·k_extra"e"
       ·rfl'
       ·exact FN.call (wW tP6 aC q5 q6 (by exact⟨ige hvw.1,ile hvw.2⟩)) (Aa rfl)
       ac_rfl
      ·rfl'
      ·exact rfl
     ·exact rfl
    all_goals rfl'
   ·exact rfl
   ·exact rfl
  apply aB (σ1:=σ5)
  ·apply eX
   ·k_extra"e"
    rfl'
   ·exact rfl
   ·exact rfl
  rfl'
 apply aB
 ·apply aD
  ·apply EB.cast
   ·rfl'
   ·exact beq_eq_false_iff_ne.mpr (by exact h6)
  ·exact dI
 by_cases h7:p.digit 9=7
 ·have K:=K.k7 h7;obtain⟨rfl,es,hst,hB,hT,hE,e5⟩:=K;unfold aRp at e5;subst e5;have q6:(aO m p).k<=100000:=Ac q6 (by decide);have z1:=(aCu (q:=aO m p) (n:=m.kw) (by exact⟨hkw.1,ile hkw.2⟩)).2.2;obtain⟨z1a,z1b⟩:=z1;have z2:=(aCu (q:=(aO m p).next 2) (n:=m.vw) (by exact⟨hvw.1,hvw.2⟩)).2.2;obtain⟨z2a,z2b⟩:=z2;obtain⟨q7,q8⟩:=((pE (m:=m) hpk).next (many:=2)).le (n':=100000) (by decide);have CH:∀h,(Mine.hd.heap_1 w.params).In h->Nq h 676 672:=fun h X=>lZ (by k_is) rfl rfl rfl rfl rfl rfl rfl (by decide) h X;have st:=hst.all;have ts0:TS (upd σ lP (lJ m p).ob) g m vals es k:=⟨hB.imp fun _ h=>(upd_ne (aA rfl)).trans h,(upd_ne (aA rfl)).trans hT,fun e he=>Dom.upd _ (hE e he),fun i hi=>upd_none (aA rfl) (hkf i hi),M.upd (.inr (by decide))⟩;obtain⟨st1,st2,st3,st4,stf⟩:=st;have ts1:=ts0.step (484,0) 0;have ts2:=ts1.step (485,0) 1;have ts3:=ts2.step (488,0) 2;have dk:=aCu (q:=aO m p) (n:=m.kw) (by exact⟨hkw.1,ile hkw.2⟩);have dv:=aCu (q:=(aO m p).next 2) (n:=m.vw) (by exact⟨hvw.1,hvw.2⟩);have fL:∀τ',MH τ' g m vals->FE w 5 (fun _=>.ref m.k.lookup) [.ref (lI g),.bytes (Ap (m.kw+d2 (aO m p)).toNat 0)] τ' τ':=fun τ' M'=>aEr M'.1 M'.2 dk.1 dk.2.1;have fD:∀τ',MH τ' g m vals->FE w 5 (fun _=>.ref m.k.delete) [.ref (lI g),.bytes (Ap (m.kw+d2 (aO m p)).toNat 0)] τ' τ':=fun τ' M'=>aFj M'.1 M'.2 dk.1 dk.2.1;have fU:∀b:List UInt8,b.length<=900->∀τ',MH τ' g m vals->FE w 5 (fun _=>.ref m.k.update) [.ref (lI g),.bytes b,.bytes (Ap (m.vw+d2 ((aO m p).next 2)).toNat 0),.int 0] τ' τ':=fun b hb τ' M'=>aDu M'.1 M'.2 h4 dv.1 hb dv.2.1;have kl:(bG ((p.next 9).digit (m.most+3)) m.kw).length<=900:=by unfold bG;rw[Ag,aU];exact jB hkw.2
  have hB1:sL (upd σ lP (lJ m p).ob) lBm:=hB.imp fun _ h=>(upd_ne (aA rfl)).trans h;have hT1:upd σ lP (lJ m p).ob lTa=some (bM lTa 672 es):=(upd_ne (aA rfl)).trans hT;have hE1:∀e∈es,upd σ lP (lJ m p).ob e.2≠none:=fun e he=>Dom.upd _ (hE e he);have W4:upd σ lP ((aO m p).next 2).ob lW=some (.sdict (wkv m g)):=(upd_ne (aA rfl)).trans hw;rw[<-stf];apply SS.fin;apply aQ;apply aP
  ·apply EB.cast
   ·rfl'
   ·rw[h7];rfl
  apply aB (σ1:=upd σ lP ((aO m p).next 2).ob)
  ·apply dK (sh:=.bytes (Ap (m.kw+d2 (aO m p)).toNat 0)) (σ1:=upd σ lP ((aO m p).next 2).ob)
   ·apply aM (σ1:=upd σ lP (aO m p).ob) (σ2:=upd σ lP ((aO m p).next 2).ob) (shs:=[.int (m.kw+d2 (aO m p))])
    ·k_extra"e"
    ·k_extra"e"
    ·apply aJ (σ1:=upd σ lP ((aO m p).next 2).ob)
     ·apply mS (x:=.int m.kw) (y:=.int (d2 (aO m p))) (σ1:=upd σ lP (aO m p).ob) (σ2:=upd σ lP ((aO m p).next 2).ob)
      ·rfl'
      ·refine EV.cast (σ1:=upd (upd σ lP (aO m p).ob) lP ((aO m p).next 2).ob) ?_ rfl aX;apply EV.drop (σ1:=upd (upd (upd σ lP (aO m p).ob) (0,k) (.list [.int 1,.int (-1)])) lP ((aO m p).next 2).ob) (L:=Less.under (hZ _) mZ) (k:=.int _);apply aM
       ·k_extra"e"
       ·k_extra"e"
       ·apply aJ
        ·k_extra"e"
         rfl'
        ·apply aJ
         ·apply dN (0,k)
          ·rfl'
          ·exact Aa rfl
          ·exact hZ _
         ·exact aV
         ·exact rfl
        ·exact rfl
       ·exact FN.call (xK aC (by assumption) (by assumption)) (Aa rfl)
       ac_rfl
      ·rfl'
     ·exact aV
    ·exact gB (by assumption) (by assumption)
    ac_rfl
   ·rfl'
   all_goals exact rfl
  apply aB (σ1:=upd σ lP (lJ m p).ob)
  ·apply dK (sh:=.bytes (Ap (m.vw+d2 ((aO m p).next 2)).toNat 0)) (σ1:=upd σ lP (lJ m p).ob)
   ·apply aM (σ1:=upd σ lP ((aO m p).next 2).ob) (σ2:=upd σ lP (lJ m p).ob) (shs:=[.int (m.vw+d2 ((aO m p).next 2))])
    ·k_extra"e"
    ·k_extra"e"
    ·apply aJ (σ1:=upd σ lP (lJ m p).ob)
     ·apply mS (x:=.int m.vw) (y:=.int (d2 ((aO m p).next 2))) (σ1:=upd σ lP ((aO m p).next 2).ob) (σ2:=upd σ lP (lJ m p).ob)
      ·rfl'
      ·refine EV.cast (σ1:=upd (upd σ lP ((aO m p).next 2).ob) lP (((aO m p).next 2).next 2).ob) ?_ rfl aX;apply EV.drop (σ1:=upd (upd (upd σ lP ((aO m p).next 2).ob) (0,k) (.list [.int 1,.int (-1)])) lP (((aO m p).next 2).next 2).ob) (L:=Less.under (hZ _) mZ) (k:=.int _);apply aM
       ·k_extra"e"
       ·k_extra"e"
       ·apply aJ
        ·k_extra"e"
         rfl'
        ·apply aJ
         ·apply dN (0,k)
          ·rfl'
          ·exact Aa rfl
          ·exact hZ _
         ·exact aV
         ·exact rfl
        ·exact rfl
       ·exact FN.call (xK aC (by assumption) (by assumption)) (Aa rfl)
       ac_rfl
      ·rfl'
     ·exact aV
    ·exact gB (by assumption) (by assumption)
    ac_rfl
   ·rfl'
   all_goals exact rfl
  apply aB
  ·apply aD
   ·apply mP;apply fJ
    ·apply EB.cast (x:=!true)
     ·apply rQ;apply uE
      ·skip
       apply mR (n:=(0,k)) (nc:=lCd 0) (lT:=lTa) (P:=672) (cc:=676) (qual:=ql7) (st:=st1)
       ·k_extra"e"
       ·k_extra"e"
       ·exact ts0.B
       ·exact ts0.Tb
       ·exact ts0.E
       ·exact ts0.Z _ (Az _)
       ·exact aA rfl
       ·exact rfl
       ·exact rfl
       ·exact rfl
       ·exact rfl
       ·exact CH
       ·k_is
       ·decide
       ·decide
       ·exact fun _ h=>h
       ·apply aOp (f:=m.k.lookup) (vals:=vals) (wb:=Ap (m.kw+d2 (aO m p)).toNat 0);exact(ts0.step (484,0) 0).M;exact(ts0.step (484,0) 0).Z
        all_goals first|exact fL|exact fD|exact fU _ dk.2.1|exact fU _ kl|exact fun _ _=>rfl|exact rfl|decide|exact fun _ h=>h|exact Aa rfl| (exact Au (Bp L))| (exact Bp L)| (exact Au (Au (Bp L)))| (exact Au (Au (Au (Bp L))))|exact fun _ _ _=>rfl|exact(upd_ne (aA rfl)).trans aC|exact fun _=>iA|exact fun _=>iB|exact fun _=>gY|exact fun _=>gZ|exact fun _=>at_lookup _| (focus(k_extra"at"))| (focus(intro P;k_extra"fi"))|exact fun _ _ _ h1 h2=>vN (by exact aOt) h1 h2|exact fun _ _ _ h1 h2=>mD (by omega) (by omega) (by omega) h1 h2
      ·exact rfl
     ·exact rfl
    ·apply fJ
     ·apply EB.cast (x:=!true)
      ·apply rQ;apply uE
       ·skip
        apply mR (n:=(0,k)) (nc:=lCd 1) (lT:=lTa) (P:=672) (cc:=676) (qual:=ql7) (st:=st2)
        ·k_extra"e"
        ·k_extra"e"
        ·exact ts1.B
        ·exact ts1.Tb
        ·exact ts1.E
        ·exact ts1.Z _ (Az _)
        ·exact aA rfl
        ·exact rfl
        ·exact rfl
        ·exact rfl
        ·exact rfl
        ·exact CH
        ·k_is
        ·decide
        ·decide
        ·exact fun _ h=>h
        ·apply aOp (f:=m.k.delete) (vals:=vals) (wb:=Ap (m.kw+d2 (aO m p)).toNat 0);exact(ts1.step (485,0) 1).M;exact(ts1.step (485,0) 1).Z
         all_goals first|exact fL|exact fD|exact fU _ dk.2.1|exact fU _ kl|exact fun _ _=>rfl|exact rfl|decide|exact fun _ h=>h|exact Aa rfl| (exact Au (Bp L))| (exact Bp L)| (exact Au (Au (Bp L)))| (exact Au (Au (Au (Bp L))))|exact fun _ _ _=>rfl|exact(upd_ne (aA rfl)).trans aC|exact fun _=>iA|exact fun _=>iB|exact fun _=>gY|exact fun _=>gZ|exact fun _=>at_lookup _| (focus(k_extra"at"))| (focus(intro P;k_extra"fi"))|exact fun _ _ _ h1 h2=>vN (by exact aOt) h1 h2|exact fun _ _ _ h1 h2=>mD (by omega) (by omega) (by omega) h1 h2
       ·exact rfl
      ·exact rfl
     ·exact jN
   ·exact dI
  apply aQ;apply bU;apply aDn;apply zO
  ·skip
   apply mR (n:=(0,k)) (nc:=lCd 2) (lT:=lTa) (P:=672) (cc:=676) (qual:=ql7) (st:=st3)
   ·k_extra"e"
   ·k_extra"e"
   ·exact ts2.B
   ·exact ts2.Tb
   ·exact ts2.E
   ·exact ts2.Z _ (Az _)
   ·exact aA rfl
   ·exact rfl
   ·exact rfl
   ·exact rfl
   ·exact rfl
   ·exact CH
   ·k_is
   ·decide
   ·decide
   ·exact fun _ h=>h
   ·apply aOo (vals:=vals) (wb:=Ap (m.kw+d2 (aO m p)).toNat 0) (ob:=Ap (m.vw+d2 ((aO m p).next 2)).toNat 0);exact(ts2.step (488,0) 2).M;exact(ts2.step (488,0) 2).Z
    all_goals first|exact fL|exact fD|exact fU _ dk.2.1|exact fU _ kl|exact fun _ _=>rfl|exact rfl|decide|exact fun _ h=>h|exact Aa rfl| (exact Au (Bp L))| (exact Bp L)| (exact Au (Au (Bp L)))| (exact Au (Au (Au (Bp L))))|exact fun _ _ _=>rfl|exact(upd_ne (aA rfl)).trans aC|exact fun _=>iA|exact fun _=>iB|exact fun _=>gY|exact fun _=>gZ|exact fun _=>at_lookup _| (focus(k_extra"at"))| (focus(intro P;k_extra"fi"))|exact fun _ _ _ h1 h2=>vN (by omega) h1 h2|exact fun _ _ _ h1 h2=>mD (by exact aSf) (by exact aOt) (by exact aQr) h1 h2
  ·apply pM;apply mR (n:=(0,k)) (nc:=lCd 3) (lT:=lTa) (P:=672) (cc:=676) (qual:=ql7) (st:=st4)
   ·k_extra"e"
   ·k_extra"e"
   ·exact ts3.B
   ·exact ts3.Tb
   ·exact ts3.E
   ·exact ts3.Z _ (Az _)
   ·exact aA rfl
   ·exact rfl
   ·exact rfl
   ·exact rfl
   ·exact rfl
   ·exact CH
   ·k_is
   ·decide
   ·decide
   ·exact fun _ h=>h
   ·apply aOo (vals:=vals) (wb:=bG ((p.next 9).digit (m.most+3)) m.kw) (ob:=Ap (m.vw+d2 ((aO m p).next 2)).toNat 0);exact(ts3.step (489,0) 3).M;exact(ts3.step (489,0) 3).Z
    all_goals first|exact fL|exact fD|exact fU _ dk.2.1|exact fU _ kl|exact fun _ _=>rfl|exact rfl|decide|exact fun _ h=>h|exact Aa rfl| (exact Au (Bp L))| (exact Bp L)| (exact Au (Au (Bp L)))| (exact Au (Au (Au (Bp L))))|exact fun _ _ _=>rfl|exact(upd_ne (aA rfl)).trans aC|exact fun _=>iA|exact fun _=>iB|exact fun _=>gY|exact fun _=>gZ|exact fun _=>at_lookup _| (focus(k_extra"at"))| (focus(intro P;k_extra"fi"))|exact fun _ _ _ h1 h2=>vN (by omega) h1 h2|exact fun _ _ _ h1 h2=>mD (by exact aQr) (by exact aSe) (by exact aSd) h1 h2
 apply aB
 ·apply aD
  ·apply EB.cast
   ·rfl'
   ·exact beq_eq_false_iff_ne.mpr (by exact h7)
  ·exact dI
 ·have K:=K.k8 (by exact aSc r9 h0 h4' h5 h6 h7);obtain⟨rfl,σ4,S1,S2⟩:=K;apply SS.fin;rfl'
noncomputable abbrev qlW:Str:="_law_widths_right.<locals>.<lambda>"
noncomputable abbrev lWc(i:Int):Lbl:=(16,i)
noncomputable abbrev lWl(i:Int):Lbl:=(17,i)
theorem qC{l:Lbl}(h:own g l):l.1<8:=by rcases h with⟨h|h|h,_⟩| ⟨h|h,_⟩| ⟨h|h,_⟩ <;> rw[h] <;> decide
theorem gS{n:Lbl}{body:Aj}(hn:τ n=some (bI nc qlW sP body scope []))(hnc:τ nc=some (aZ qlW))
  (h:∀A base outer g mg mb L f c',ER (qS w A base outer g mg mb 8 L (dC qlW scope L f c' []) (dom τ)) (mL []) τ (eval body (dC qlW scope L f c' [])) τ)
  (hco:scope.isCoroutine=false)(hgen:scope.isGenerator=false)(hkd:scope.kind = .function)(hcell:∀x∈scope.names,x.2≠.cell):FN w 10 (.ref 656) [.ref n] τ (.bool true) τ:=by
 refine mY hn (fun as o=>?_) (aAj (N:=8) (Dom.refl _) hn hnc (fun _ _ _=>rfl) (fun _ _ _ h=>by cases h) h hco hgen hkd hcell)
 rintro⟨pm,ctv,rfl⟩;exact⟨_,_,_,_,rfl⟩
theorem aMm{n:Lbl}{body:Aj}(hn:τ n=some (bI nc qlW sP body scope []))(hnc:τ nc=some (aZ qlW))(hf:∀l,own g l->τ l=none)
  (h:∀τ',(∀(Γ:Gm) (ms:Str->Option Sh),Γ.w=w->5<=Γ.n->(∀l,¬Γ.F l)->CallOk Γ ms τ (.ref 582) [.str "hash",.int 63,.int 512,.int 1,.int 2] (.ref (lI g)) τ')->∀A base outer g' mg mb L f c',EV (qS w A base outer g' mg mb 8 L (dC qlW scope L f c' []) (dom τ)) (mL []) τ (eval body (dC qlW scope L f c' [])) (.ref (lI g)) τ')
  (hco:scope.isCoroutine=false)(hgen:scope.isGenerator=false)(hkd:scope.kind = .function)(hcell:∀x∈scope.names,x.2≠.cell):FN w 10 (.ref 656) [.ref n] τ (.bool false) τ:=by
 obtain⟨τ',C,_,_,O,D,_⟩:=zM (w:=w) (σ:=τ) (g:=g) (m:=⟨.hsh,63,512,1,2⟩) ⟨⟨fun h=>absurd rfl h,fun _=>by decide⟩,by decide,by decide⟩ (by decide) hf;refine FN.drop (σ1:=τ') (aEh hn (fun as o=>?_) (aPh (N:=8) hn hnc (fun _ _ _=>rfl) (fun _ _ _ h=>by cases h) D (h τ' C) hco hgen hkd hcell)) ⟨fun l o e=>?_,Dom.refl _,fun l o e=>.inl e⟩ (.bool _)
 ·rintro⟨pm,ctv,rfl⟩;exact⟨_,_,_,_,rfl⟩
 ·by_cases q:own g l
  ·rw[hf l q] at e;cases e
  ·rw[O l q];exact e
theorem aDr{p:Pen}(hp:σ lP=some p.ob)(hpk:Pk p 90000)(hB:sL σ lBm)(hT:σ lTb=some (bM lTb 684 []))(hf:∀l:Lbl,16<=l.1->σ l=none)(hg:∀l,own g l->σ l=none):∃σ' es,FN w 12 (.ref 689) [.ref lP] σ (.bool true) σ'/\(∀l:Lbl,l.1<16->l≠lP->l≠lTb->σ' l=σ l)/\σ' lTb=some (bM lTb 684 es):=by
 obtain⟨q0,q1⟩:=hpk.le (n':=100000) (by decide);have CH:∀h,(Mine.hd.heap_1 w.params).In h->Nq h 688 684:=fun h X=>lZ (by k_is) rfl rfl rfl rfl rfl rfl rfl (by decide) h X;have r10:=aR (p:=p) (many:=10) (by decide);apply Af;apply Af;refine⟨?_,?_,?_⟩;refine aS (σ':=?s) ?D (by k_is) (by k_is) ["pen"] [("pen",.ref lP)] rfl (fun s=>eA fun _=>Ah rfl) (fun A base outer g' mg mb L=>?_)
 rotate_left 2
 ·apply Af;apply aB
  ·apply dJ
   ·apply dN (18,0)
    ·apply aJ
     ·apply cB (nc:=lWc 0) (n:=lWl 0) (cc:=688) (qual:=qlW) (lB:=lBm) (lT:=lTb) (P:=684)
      ·exact hB
      ·exact hT
      ·exact hf _ (by decide)
      ·exact hf _ (by decide)
      ·exact aA rfl
      ·exact rfl
      ·exact rfl
      ·exact rfl
      ·exact rfl
      ·exact CH
      ·decide
      ·k_is
      ·decide
      ·decide
      ·exact fun _ h=>h
     ·apply aJ
      ·apply cB (nc:=lWc 1) (n:=lWl 1) (cc:=688) (qual:=qlW) (lB:=lBm) (lT:=lTb) (P:=684)
       ·exact hB
       ·exact rfl
       ·exact hf _ (by decide)
       ·exact hf _ (by decide)
       ·exact aA rfl
       ·exact rfl
       ·exact rfl
       ·exact rfl
       ·exact rfl
       ·exact CH
       ·decide
       ·k_is
       ·decide
       ·decide
       ·exact fun _ h=>h
      ·apply aJ
       ·apply cB (nc:=lWc 2) (n:=lWl 2) (cc:=688) (qual:=qlW) (lB:=lBm) (lT:=lTb) (P:=684)
        ·exact hB
        ·exact rfl
        ·exact hf _ (by decide)
        ·exact hf _ (by decide)
        ·exact aA rfl
        ·exact rfl
        ·exact rfl
        ·exact rfl
        ·exact rfl
        ·exact CH
        ·decide
        ·k_is
        ·decide
        ·decide
        ·exact fun _ h=>h
       ·apply aJ
        ·apply cB (nc:=lWc 3) (n:=lWl 3) (cc:=688) (qual:=qlW) (lB:=lBm) (lT:=lTb) (P:=684)
         ·exact hB
         ·exact rfl
         ·exact hf _ (by decide)
         ·exact hf _ (by decide)
         ·exact aA rfl
         ·exact rfl
         ·exact rfl
         ·exact rfl
         ·exact rfl
         ·exact CH
         ·decide
         ·k_is
         ·decide
         ·decide
         ·exact fun _ h=>h
        ·exact aV
        ·exact rfl
       ·exact rfl
      ·exact rfl
     ·exact rfl
    ·exact Aa rfl
    ·exact hf _ (by decide)
   all_goals first|exact rfl|decide +kernel
  apply aB
  ·apply dJ
   ·apply aKt (x:=(18,0)) (y:=(18,1)) (18,2)
    ·rfl'
    ·apply dN (18,1)
     ·apply aJ
      ·apply cB (nc:=lWc 4) (n:=lWl 4) (cc:=688) (qual:=qlW) (lB:=lBm) (lT:=lTb) (P:=684)
       ·exact hB
       ·exact rfl
       ·exact hf _ (by decide)
       ·exact hf _ (by decide)
       ·exact aA rfl
       ·exact rfl
       ·exact rfl
       ·exact rfl
       ·exact rfl
       ·exact CH
       ·decide
       ·k_is
       ·decide
       ·decide
       ·exact fun _ h=>h
      ·apply aJ
       ·apply cB (nc:=lWc 5) (n:=lWl 5) (cc:=688) (qual:=qlW) (lB:=lBm) (lT:=lTb) (P:=684)
        ·exact hB
        ·exact rfl
        ·exact hf _ (by decide)
        ·exact hf _ (by decide)
        ·exact aA rfl
        ·exact rfl
        ·exact rfl
        ·exact rfl
        ·exact rfl
        ·exact CH
        ·decide
        ·k_is
        ·decide
        ·decide
        ·exact fun _ h=>h
       ·apply aJ
        ·apply cB (nc:=lWc 6) (n:=lWl 6) (cc:=688) (qual:=qlW) (lB:=lBm) (lT:=lTb) (P:=684)
         ·exact hB
         ·exact rfl
         ·exact hf _ (by decide)
         ·exact hf _ (by decide)
         ·exact aA rfl
         ·exact rfl
         ·exact rfl
         ·exact rfl
         ·exact rfl
         ·exact CH
         ·decide
         ·k_is
         ·decide
         ·decide
         ·exact fun _ h=>h
        ·apply aJ
         ·apply cB (nc:=lWc 7) (n:=lWl 7) (cc:=688) (qual:=qlW) (lB:=lBm) (lT:=lTb) (P:=684)
          ·exact hB
          ·exact rfl
          ·exact hf _ (by decide)
          ·exact hf _ (by decide)
          ·exact aA rfl
          ·exact rfl
          ·exact rfl
          ·exact rfl
          ·exact rfl
          ·exact CH
          ·decide
          ·k_is
          ·decide
          ·decide
          ·exact fun _ h=>h
         ·exact aV
         ·exact rfl
        ·exact rfl
       ·exact rfl
      ·exact rfl
     ·exact Aa rfl
     ·exact hf _ (by decide)
    ·exact rfl
    ·exact rfl
    ·exact Aa rfl
    ·exact hf _ (by decide)
   all_goals first|exact rfl|decide +kernel
  apply aB
  ·apply dJ
   ·apply aKt (x:=(18,2)) (y:=(18,3)) (18,4)
    ·rfl'
    ·apply dN (18,3)
     ·apply aJ
      ·apply cB (nc:=lWc 8) (n:=lWl 8) (cc:=688) (qual:=qlW) (lB:=lBm) (lT:=lTb) (P:=684)
       ·exact hB
       ·exact rfl
       ·exact hf _ (by decide)
       ·exact hf _ (by decide)
       ·exact aA rfl
       ·exact rfl
       ·exact rfl
       ·exact rfl
       ·exact rfl
       ·exact CH
       ·decide
       ·k_is
       ·decide
       ·decide
       ·exact fun _ h=>h
      ·apply aJ
       ·apply cB (nc:=lWc 9) (n:=lWl 9) (cc:=688) (qual:=qlW) (lB:=lBm) (lT:=lTb) (P:=684)
        ·exact hB
        ·exact rfl
        ·exact hf _ (by decide)
        ·exact hf _ (by decide)
        ·exact aA rfl
        ·exact rfl
        ·exact rfl
        ·exact rfl
        ·exact rfl
        ·exact CH
        ·decide
        ·k_is
        ·decide
        ·decide
        ·exact fun _ h=>h
       ·exact aV
       ·exact rfl
      ·exact rfl
     ·exact Aa rfl
     ·exact hf _ (by decide)
    ·exact rfl
    ·exact rfl
    ·exact Aa rfl
    ·exact hf _ (by decide)
   all_goals first|exact rfl|decide +kernel
  apply aQ;apply bU;apply aDn;apply zO
  ·have hd:p.digit 10=0\/p.digit 10=1\/p.digit 10=2\/p.digit 10=3\/p.digit 10=4\/p.digit 10=5\/p.digit 10=6\/p.digit 10=7\/p.digit 10=8\/p.digit 10=9:=by exact aTp r10
   rcases hd with e|e|e|e|e|e|e|e|e|e
   ·apply aM
    ·k_extra"e"
    ·k_extra"e"
    ·apply aJ
     ·apply aM
      ·k_extra"e"
      ·k_extra"e"
      ·rfl'
      ·exact FN.call (dG (xs:=[.ref (lWl 0),.ref (lWl 1),.ref (lWl 2),.ref (lWl 3),.ref (lWl 4),.ref (lWl 5),.ref (lWl 6),.ref (lWl 7),.ref (lWl 8),.ref (lWl 9)]) (x:=.ref (lWl 0)) hp rfl (aA rfl) q0 q1 (by decide) (by decide) (congrArg (fun d:Int=>([.ref (lWl 0),.ref (lWl 1),.ref (lWl 2),.ref (lWl 3),.ref (lWl 4),.ref (lWl 5),.ref (lWl 6),.ref (lWl 7),.ref (lWl 8),.ref (lWl 9)]:List Sh)[d.toNat]?) e)) (Aa rfl)
      ac_rfl
     ·exact aV
     ·exact rfl
    ·refine FN.call (gS (nc:=lWc 0) rfl rfl (fun A base outer g mg mb L f c'=>?_) rfl rfl rfl (by decide)) (Aa rfl);apply eE
     ·k_extra"e"
     ·k_extra"e"
     ·rfl'
     ·exact cX (18,8) (18,9) (hU (cN (.key (k:=.hsh) (fun _=>by decide) (fun h=>absurd rfl h)))) (Aa rfl) (by k_is) (by k_is) (by k_is) (hf _ (by decide)) (hf _ (by decide)) (by decide) (fun _ h=>h)
     ac_rfl
    ac_rfl
   ·apply aM
    ·k_extra"e"
    ·k_extra"e"
    ·apply aJ
     ·apply aM
      ·k_extra"e"
      ·k_extra"e"
      ·rfl'
      ·exact FN.call (dG (xs:=[.ref (lWl 0),.ref (lWl 1),.ref (lWl 2),.ref (lWl 3),.ref (lWl 4),.ref (lWl 5),.ref (lWl 6),.ref (lWl 7),.ref (lWl 8),.ref (lWl 9)]) (x:=.ref (lWl 1)) hp rfl (aA rfl) q0 q1 (by decide) (by decide) (congrArg (fun d:Int=>([.ref (lWl 0),.ref (lWl 1),.ref (lWl 2),.ref (lWl 3),.ref (lWl 4),.ref (lWl 5),.ref (lWl 6),.ref (lWl 7),.ref (lWl 8),.ref (lWl 9)]:List Sh)[d.toNat]?) e)) (Aa rfl)
      ac_rfl
     ·exact aV
     ·exact rfl
    ·refine FN.call (gS (nc:=lWc 1) rfl rfl (fun A base outer g mg mb L f c'=>?_) rfl rfl rfl (by decide)) (Aa rfl);apply eE
     ·k_extra"e"
     ·k_extra"e"
     ·rfl'
     ·exact cX (18,8) (18,9) (hU (cN (.key (k:=.hsh) (fun _=>by decide) (fun h=>absurd rfl h)))) (Aa rfl) (by k_is) (by k_is) (by k_is) (hf _ (by decide)) (hf _ (by decide)) (by decide) (fun _ h=>h)
     ac_rfl
    ac_rfl
   ·apply aM
    ·k_extra"e"
    ·k_extra"e"
    ·apply aJ
     ·apply aM
      ·k_extra"e"
      ·k_extra"e"
      ·rfl'
      ·exact FN.call (dG (xs:=[.ref (lWl 0),.ref (lWl 1),.ref (lWl 2),.ref (lWl 3),.ref (lWl 4),.ref (lWl 5),.ref (lWl 6),.ref (lWl 7),.ref (lWl 8),.ref (lWl 9)]) (x:=.ref (lWl 2)) hp rfl (aA rfl) q0 q1 (by decide) (by decide) (congrArg (fun d:Int=>([.ref (lWl 0),.ref (lWl 1),.ref (lWl 2),.ref (lWl 3),.ref (lWl 4),.ref (lWl 5),.ref (lWl 6),.ref (lWl 7),.ref (lWl 8),.ref (lWl 9)]:List Sh)[d.toNat]?) e)) (Aa rfl)
      ac_rfl
     ·exact aV
     ·exact rfl
    ·refine FN.call (gS (nc:=lWc 2) rfl rfl (fun A base outer g mg mb L f c'=>?_) rfl rfl rfl (by decide)) (Aa rfl);apply eE
     ·k_extra"e"
     ·k_extra"e"
     ·rfl'
     ·exact cX (18,8) (18,9) (hU (cN (.late (k:=.hsh) ⟨fun h=>absurd rfl h,fun _=>by decide⟩ (.inl (by decide))))) (Aa rfl) (by k_is) (by k_is) (by k_is) (hf _ (by decide)) (hf _ (by decide)) (by decide) (fun _ h=>h)
     ac_rfl
    ac_rfl
   ·apply aM
    ·k_extra"e"
    ·k_extra"e"
    ·apply aJ
     ·apply aM
      ·k_extra"e"
      ·k_extra"e"
      ·rfl'
      ·exact FN.call (dG (xs:=[.ref (lWl 0),.ref (lWl 1),.ref (lWl 2),.ref (lWl 3),.ref (lWl 4),.ref (lWl 5),.ref (lWl 6),.ref (lWl 7),.ref (lWl 8),.ref (lWl 9)]) (x:=.ref (lWl 3)) hp rfl (aA rfl) q0 q1 (by decide) (by decide) (congrArg (fun d:Int=>([.ref (lWl 0),.ref (lWl 1),.ref (lWl 2),.ref (lWl 3),.ref (lWl 4),.ref (lWl 5),.ref (lWl 6),.ref (lWl 7),.ref (lWl 8),.ref (lWl 9)]:List Sh)[d.toNat]?) e)) (Aa rfl)
      ac_rfl
     ·exact aV
     ·exact rfl
    ·refine FN.call (gS (nc:=lWc 3) rfl rfl (fun A base outer g mg mb L f c'=>?_) rfl rfl rfl (by decide)) (Aa rfl);apply eE
     ·k_extra"e"
     ·k_extra"e"
     ·rfl'
     ·exact cX (18,8) (18,9) (hU (cN (.late (k:=.hsh) ⟨fun h=>absurd rfl h,fun _=>by decide⟩ (.inr ⟨by decide,by decide,.inl (by decide)⟩)))) (Aa rfl) (by k_is) (by k_is) (by k_is) (hf _ (by decide)) (hf _ (by decide)) (by decide) (fun _ h=>h)
     ac_rfl
    ac_rfl
   ·apply aM
    ·k_extra"e"
    ·k_extra"e"
    ·apply aJ
     ·apply aM
      ·k_extra"e"
      ·k_extra"e"
      ·rfl'
      ·exact FN.call (dG (xs:=[.ref (lWl 0),.ref (lWl 1),.ref (lWl 2),.ref (lWl 3),.ref (lWl 4),.ref (lWl 5),.ref (lWl 6),.ref (lWl 7),.ref (lWl 8),.ref (lWl 9)]) (x:=.ref (lWl 4)) hp rfl (aA rfl) q0 q1 (by decide) (by decide) (congrArg (fun d:Int=>([.ref (lWl 0),.ref (lWl 1),.ref (lWl 2),.ref (lWl 3),.ref (lWl 4),.ref (lWl 5),.ref (lWl 6),.ref (lWl 7),.ref (lWl 8),.ref (lWl 9)]:List Sh)[d.toNat]?) e)) (Aa rfl)
      ac_rfl
     ·exact aV
     ·exact rfl
    ·refine FN.call (gS (nc:=lWc 4) rfl rfl (fun A base outer g mg mb L f c'=>?_) rfl rfl rfl (by decide)) (Aa rfl);apply eE
     ·k_extra"e"
     ·k_extra"e"
     ·rfl'
     ·exact cX (18,8) (18,9) (mN (cN (.key (k:=.arr) (fun h=>nomatch h) (fun _=>by decide)))) (Aa rfl) (by k_is) (by k_is) (by k_is) (hf _ (by decide)) (hf _ (by decide)) (by decide) (fun _ h=>h)
     ac_rfl
    ac_rfl
   ·apply aM
    ·k_extra"e"
    ·k_extra"e"
    ·apply aJ
     ·apply aM
      ·k_extra"e"
      ·k_extra"e"
      ·rfl'
      ·exact FN.call (dG (xs:=[.ref (lWl 0),.ref (lWl 1),.ref (lWl 2),.ref (lWl 3),.ref (lWl 4),.ref (lWl 5),.ref (lWl 6),.ref (lWl 7),.ref (lWl 8),.ref (lWl 9)]) (x:=.ref (lWl 5)) hp rfl (aA rfl) q0 q1 (by decide) (by decide) (congrArg (fun d:Int=>([.ref (lWl 0),.ref (lWl 1),.ref (lWl 2),.ref (lWl 3),.ref (lWl 4),.ref (lWl 5),.ref (lWl 6),.ref (lWl 7),.ref (lWl 8),.ref (lWl 9)]:List Sh)[d.toNat]?) e)) (Aa rfl)
      ac_rfl
     ·exact aV
     ·exact rfl
    ·refine FN.call (gS (nc:=lWc 5) rfl rfl (fun A base outer g mg mb L f c'=>?_) rfl rfl rfl (by decide)) (Aa rfl);apply eE
     ·k_extra"e"
     ·k_extra"e"
     ·rfl'
     ·exact cX (18,8) (18,9) (mN (cN (.key (k:=.arr) (fun h=>nomatch h) (fun _=>by decide)))) (Aa rfl) (by k_is) (by k_is) (by k_is) (hf _ (by decide)) (hf _ (by decide)) (by decide) (fun _ h=>h)
     ac_rfl
    ac_rfl
   ·apply aM
    ·k_extra"e"
    ·k_extra"e"
    ·apply aJ
     ·apply aM
      ·k_extra"e"
      ·k_extra"e"
      ·rfl'
      ·exact FN.call (dG (xs:=[.ref (lWl 0),.ref (lWl 1),.ref (lWl 2),.ref (lWl 3),.ref (lWl 4),.ref (lWl 5),.ref (lWl 6),.ref (lWl 7),.ref (lWl 8),.ref (lWl 9)]) (x:=.ref (lWl 6)) hp rfl (aA rfl) q0 q1 (by decide) (by decide) (congrArg (fun d:Int=>([.ref (lWl 0),.ref (lWl 1),.ref (lWl 2),.ref (lWl 3),.ref (lWl 4),.ref (lWl 5),.ref (lWl 6),.ref (lWl 7),.ref (lWl 8),.ref (lWl 9)]:List Sh)[d.toNat]?) e)) (Aa rfl)
      ac_rfl
     ·exact aV
     ·exact rfl
    ·refine FN.call (gS (nc:=lWc 6) rfl rfl (fun A base outer g mg mb L f c'=>?_) rfl rfl rfl (by decide)) (Aa rfl);apply eE
     ·k_extra"e"
     ·k_extra"e"
     ·rfl'
     ·exact cX (18,8) (18,9) (mN (lN (k:=.row) ⟨⟨fun _=>rfl,fun h=>nomatch h⟩,by decide,by decide⟩ (by decide))) (Aa rfl) (by k_is) (by k_is) (by k_is) (hf _ (by decide)) (hf _ (by decide)) (by decide) (fun _ h=>h)
     ac_rfl
    ac_rfl
   ·apply aM
    ·k_extra"e"
    ·k_extra"e"
    ·apply aJ
     ·apply aM
      ·k_extra"e"
      ·k_extra"e"
      ·rfl'
      ·exact FN.call (dG (xs:=[.ref (lWl 0),.ref (lWl 1),.ref (lWl 2),.ref (lWl 3),.ref (lWl 4),.ref (lWl 5),.ref (lWl 6),.ref (lWl 7),.ref (lWl 8),.ref (lWl 9)]) (x:=.ref (lWl 7)) hp rfl (aA rfl) q0 q1 (by decide) (by decide) (congrArg (fun d:Int=>([.ref (lWl 0),.ref (lWl 1),.ref (lWl 2),.ref (lWl 3),.ref (lWl 4),.ref (lWl 5),.ref (lWl 6),.ref (lWl 7),.ref (lWl 8),.ref (lWl 9)]:List Sh)[d.toNat]?) e)) (Aa rfl)
      ac_rfl
     ·exact aV
     ·exact rfl
    ·refine FN.call (gS (nc:=lWc 7) rfl rfl (fun A base outer g mg mb L f c'=>?_) rfl rfl rfl (by decide)) (Aa rfl);apply eE
     ·k_extra"e"
     ·k_extra"e"
     ·rfl'
     ·exact cX (18,8) (18,9) (mN (lN (k:=.arr) ⟨⟨fun _=>rfl,fun h=>nomatch h⟩,by decide,by decide⟩ (by decide))) (Aa rfl) (by k_is) (by k_is) (by k_is) (hf _ (by decide)) (hf _ (by decide)) (by decide) (fun _ h=>h)
     ac_rfl
    ac_rfl
   ·apply aM
    ·k_extra"e"
    ·k_extra"e"
    ·apply aJ
     ·apply aM
      ·k_extra"e"
      ·k_extra"e"
      ·rfl'
      ·exact FN.call (dG (xs:=[.ref (lWl 0),.ref (lWl 1),.ref (lWl 2),.ref (lWl 3),.ref (lWl 4),.ref (lWl 5),.ref (lWl 6),.ref (lWl 7),.ref (lWl 8),.ref (lWl 9)]) (x:=.ref (lWl 8)) hp rfl (aA rfl) q0 q1 (by decide) (by decide) (congrArg (fun d:Int=>([.ref (lWl 0),.ref (lWl 1),.ref (lWl 2),.ref (lWl 3),.ref (lWl 4),.ref (lWl 5),.ref (lWl 6),.ref (lWl 7),.ref (lWl 8),.ref (lWl 9)]:List Sh)[d.toNat]?) e)) (Aa rfl)
      ac_rfl
     ·exact aV
     ·exact rfl
    ·refine FN.call (gS (nc:=lWc 8) rfl rfl (fun A base outer g mg mb L f c'=>?_) rfl rfl rfl (by decide)) (Aa rfl);apply eE
     ·k_extra"e"
     ·k_extra"e"
     ·rfl'
     ·exact cX (18,8) (18,9) (hU (cN .kind)) (Aa rfl) (by k_is) (by k_is) (by k_is) (hf _ (by decide)) (hf _ (by decide)) (by decide) (fun _ h=>h)
     ac_rfl
    ac_rfl
   ·apply aM
    ·k_extra"e"
    ·k_extra"e"
    ·apply aJ
     ·apply aM
      ·k_extra"e"
      ·k_extra"e"
      ·rfl'
      ·exact FN.call (dG (xs:=[.ref (lWl 0),.ref (lWl 1),.ref (lWl 2),.ref (lWl 3),.ref (lWl 4),.ref (lWl 5),.ref (lWl 6),.ref (lWl 7),.ref (lWl 8),.ref (lWl 9)]) (x:=.ref (lWl 9)) hp rfl (aA rfl) q0 q1 (by decide) (by decide) (congrArg (fun d:Int=>([.ref (lWl 0),.ref (lWl 1),.ref (lWl 2),.ref (lWl 3),.ref (lWl 4),.ref (lWl 5),.ref (lWl 6),.ref (lWl 7),.ref (lWl 8),.ref (lWl 9)]:List Sh)[d.toNat]?) e)) (Aa rfl)
      ac_rfl
     ·exact aV
     ·exact rfl
    ·refine FN.call (gS (nc:=lWc 9) rfl rfl (fun A base outer g mg mb L f c'=>?_) rfl rfl rfl (by decide)) (Aa rfl);apply eE
     ·k_extra"e"
     ·k_extra"e"
     ·rfl'
     ·exact cX (18,8) (18,9) (hU (cN (.late (k:=.hsh) ⟨fun h=>absurd rfl h,fun _=>by decide⟩ (.inr ⟨by decide,by decide,.inr (by decide)⟩)))) (Aa rfl) (by k_is) (by k_is) (by k_is) (hf _ (by decide)) (hf _ (by decide)) (by decide) (fun _ h=>h)
     ac_rfl
    ac_rfl
  ·apply pM;apply EV.cast (u:=.bool (!false))
   ·apply aOs;apply aM
    ·k_extra"e"
    ·k_extra"e"
    ·apply aJ
     ·apply cB (nc:=lWc 10) (n:=lWl 10) (cc:=688) (qual:=qlW) (lB:=lBm) (lT:=lTb) (P:=684)
      ·exact hB
      ·exact rfl
      ·exact hf _ (by decide)
      ·exact hf _ (by decide)
      ·exact aA rfl
      ·exact rfl
      ·exact rfl
      ·exact rfl
      ·exact rfl
      ·exact CH
      ·decide
      ·k_is
      ·decide
      ·decide
      ·exact fun _ h=>h
     ·exact aV
     ·exact rfl
    ·refine FN.call (aMm (g:=g) (nc:=lWc 10) aC rfl (fun l hl=>?_) (fun τ' C A base outer g' mg mb L f c'=>?_) rfl rfl rfl (by decide)) (Aa rfl)
     ·have h8:=qC hl
      repeat(first|exact hg l hl|refine upd_none (fun e=>absurd (show(_:Lbl).1<8 from e▸h8) (by decide)) ?_)
     ·apply aM
      ·k_extra"e"
      ·k_extra"e"
      ·rfl'
      ·exact C _ _ rfl (Aa rfl) (fun _ h=>h)
      ac_rfl
    ac_rfl
   ·rfl
   ·rfl
 ·intro l h1 h2 h3
  repeat(first|exact rfl|refine(upd_ne h2).trans ?_|refine(upd_ne h3).trans ?_|refine(upd_ne fun e=>absurd (show(_:Lbl).1<16 from e▸h1) (by decide)).trans ?_)
 ·exact rfl
 ·repeat(first|exact Dom.refl _|exact Dom.upd|refine Dom.trans ?_ Dom.upd)
inductive Deeds(w:World):Nat->Sg->Sg->Prop
 |nil (σ:Sg):Deeds w 0 σ σ
 |cons {n:Nat} {σ σ1 σ2:Sg}:FN w 10 (.ref 677) [.ref lP,.ref lW] σ (.bool true) σ1->FN w 7 (.ref 682) [.ref lW] σ1 (.bool true) σ1->Deeds w n σ1 σ2->Deeds w (n+1) σ σ2
theorem Deeds.dom{n:Nat}(h:Deeds w n σ σ'):Dom σ σ':=by
 induction h with
 |nil σ=>exact Dom.refl σ
 |cons a _ _ ih=>exact a.dom.trans ih
theorem xD{body:List Stmt}{l:List (Str×Sh)}{x:Str}(B:∀σ σ1,FN Γ.w 10 (.ref 677) [.ref lP,.ref lW] σ (.bool true) σ1->FN Γ.w 7 (.ref 682) [.ref lW] σ1 (.bool true) σ1->∀g sh,SS (Γ.frz g (dom σ) noF) (mL ((x,sh)::l)) σ (execs body Γ.env) .next (mL l) σ1)
:∀{σ σ':Sg},Deeds Γ.w xs.length σ σ'->Turns Γ (fun _=>True) noF body (nm x) xs (mL l) σ .next (mL l) σ':=by
 induction xs with
 |nil=>intro σ σ' h;cases h;exact .nil trivial
 |cons sh xs ih=>
  intro σ σ' h
  cases h with
  |cons a b t=>
  exact .cons trivial (fun g=>by
   show SS _ (setm (mL l) x sh) _ _ _ _ _;rw[bR];exact B _ _ a b g sh) (ih t)
theorem aPg{ls:Lbl}{p:Pen}(F1:FN w 1 (.ref 591) [.ref ls] σ (.ref lP) σ1)(F2:FN w 6 (.ref 620) [.ref lP] σ1 (.ref lW) σ2)(F3:FN w 7 (.ref 682) [.ref lW] σ2 (.bool true) σ2)(hp:σ2 lP=some p.ob)(hpk:Pk p 100000)
  (F4:Deeds w (8+p.digit 7).toNat (upd σ2 lP (p.next 7).ob) σ3)(F5:FN w 12 (.ref 689) [.ref lP] σ3 (.bool true) σ4):FN w 14 (.ref 696) [.ref ls] σ (.bool true) σ4:=by
 obtain⟨q0,q1⟩:=hpk;have r7:=aR (p:=p) (many:=7) (by decide);refine aS (F1.dom.trans (F2.dom.trans (Dom.upd.trans (F4.dom.trans F5.dom)))) (by k_is) (by k_is) ["script"] [("script",.ref ls)] rfl (fun s=>eA fun _=>Ah rfl) (fun A base outer g mg mb L=>?_);apply Af;apply aB
 ·rfl'
 apply aB
 ·rfl'
 apply aB
 ·apply aD
  ·apply EB.cast
   ·apply rQ;apply uE
    ·k_extra"e"
     rfl'
    ·exact rfl
   ·rfl
  ·exact dI
 apply aB
 ·apply rU
  ·apply dM
   ·rfl'
   ·rfl'
   ·exact aTe r7
   all_goals exact rfl
  ·apply xD (l:=[("world",.ref lW),("pen",.ref lP),("script",.ref ls)])
   ·intro τ τ1 A1 A2 g2 sh;apply SS.weak
    ·apply aB
     ·apply aD
      ·apply EB.cast
       ·apply mP;apply fJ
        ·apply EB.cast (x:=!true)
         ·apply rQ;apply uE
          ·k_extra"e"
           rfl'
          ·exact rfl
         ·rfl
        ·apply fJ
         ·apply EB.cast (x:=!true)
          ·apply rQ;apply uE
           ·k_extra"e"
            rfl'
           ·exact rfl
          ·rfl
         ·exact jN
       ·rfl
      ·exact dI
     ·exact dI
    ·rfl'
   ·rw[Ag,aU,Cj];exact F4
  all_goals first|exact rfl|decide +kernel|exact fun _ h=>h|exact fun _=>rfl
 rfl'
end
theorem nG{α:Type}[DecidableEq α]{l:List α}:∀{r:List α},l.Nodup->(∀x∈l,x∈r)->l.length<=r.length:=by
 induction l with
 |nil=>exact fun _ _=>Fa _
 |cons x l ih=>
  intro r d h;have hx:=h x (.head _);obtain⟨d1,d2⟩:=Mw.mp d;have:=ih (r:=r.erase x) d2 fun y hy=>(List.mem_erase_of_ne fun e=>d1 (by rw[<-e];exact hy)).mpr (h y (.tail _ hy));rw[List.length_erase_of_mem hx] at this;have:=List.length_pos_of_mem hx;rw[Fu];omega
theorem aLq{α:Type}[DecidableEq α]{l:List α}:∀{r:List α},l.Nodup->r.Nodup->(∀x,x∈l↔x∈r)->l.Perm r:=by
 induction l with
 |nil=>intro r _ _ h;cases r with|nil=>exact .nil|cons y _=>exact nomatch (h y).mpr (.head _)
 |cons x l ih=>
  intro r d e h;obtain⟨d1,d2⟩:=Mw.mp d;refine(List.Perm.cons x (ih d2 (e.erase x) fun y=>?_)).trans (List.perm_cons_erase ((h x).mp (.head _))).symm;rw[e.mem_erase_iff];constructor
  ·exact fun hy=>⟨fun q=>d1 (q▸hy),(h y).mp (.tail _ hy)⟩
  ·rintro⟨n,hy⟩
   exact(An.mp ((h y).mpr hy)).resolve_left n
section
variable{K α:Type}[DecidableEq K]{l:List (K×α)}{k k':K}{x:α}
theorem aHs:(vput l k x).map (·.1)=if(aL l k).isSome then l.map (·.1) else l.map (·.1)++[k]:=by
 unfold vput
 split
 ·rw[Bq];congr 1;funext p;simp only[Mx];split <;> rfl
 ·rw[Dg];rfl
theorem aPb(nd:(l.map (·.1)).Nodup):((vput l k x).map (·.1)).Nodup:=by
 rw[aHs]
 split
 ·exact nd
 ·rename_i h;have:aL l k=none:=by simpa using h
  exact Gp.mpr ⟨nd,by simp,fun a ha b hb e=>cA.mp this (by rw[Ax.mp hb] at e;exact e▸ha)⟩
theorem mem_put{p:K×α}(h:p∈vput l k x):p∈l\/p=(k,x):=by
 unfold vput at h
 split at h
 ·obtain⟨q,hq,rfl⟩:=Aq.mp h;by_cases e:q.1=k
  ·rw[if_pos e,e];exact .inr rfl
  ·rw[if_neg e];exact .inl hq
 ·rcases Ce.mp h with h|h
  ·exact .inl h
  ·exact .inr (Ax.mp h)
theorem xA:aL (jX l k) k'=if k'=k then none else aL l k':=by
 unfold aL jX;rw[List.find?_filter];by_cases e:k'=k
 ·subst e;rw[if_pos rfl,Ka,Dm];intro p _;simp
 ·rw[if_neg e]
  congr 2
  funext p
  by_cases q:p.1=k' <;> simp[q,e]
end
noncomputable abbrev iX:=List (Int×List UInt8)
structure HK(m:MC)(vals kbs:iX)(bks:List (List Int)):Prop where
 nd:(kbs.map (·.1)).Nodup
 nk:(kbs.map (·.2)).Nodup
 rg:∀p∈kbs,0<=p.1/\p.1<m.most
 key:∀p∈kbs,∃n:Int,(0<=n/\n<8)/\p.2=bG n m.kw
 val:∀p∈kbs,(aL vals p.1).isSome=true
 pos:0<bks.length
 inb:∀(i:Nat) l,bks[i]? = some l->∀s∈l,∃k,aL kbs s=some k/\(bix bks k).toNat=i
 mem:∀s k,aL kbs s=some k->s∈bks.getD (bix bks k).toNat []
 ndb:∀l∈bks,l.Nodup
noncomputable def iQ(kbs:iX)(b:List UInt8):Option Int:=(kbs.find? fun q=>q.2=b).map (·.1)
section
variable{m:MC}{vals kbs:iX}{bks:List (List Int)}{o:List UInt8}{s:Int}
theorem aCm(nk:(kbs.map (·.2)).Nodup){s s':Int}(h:(s,b)∈kbs)(h':(s',b)∈kbs):s=s':=by
 induction kbs with
 |nil=>cases h
 |cons q l ih=>
  obtain⟨n1,n2⟩:=Mw.mp nk;rcases An.mp h with e|h <;> rcases An.mp h' with e'|h'
  ·exact congrArg Nj (e.trans e'.symm)
  ·exact absurd (Aq.mpr ⟨_,h',show b=q.2 from congrArg En e⟩) n1
  ·exact absurd (Aq.mpr ⟨_,h,show b=q.2 from congrArg En e'⟩) n1
  ·exact ih n2 h h'
theorem eL(nk:(kbs.map (·.2)).Nodup):iQ kbs b=some s↔(s,b)∈kbs:=by
 unfold iQ;constructor
 ·intro h;obtain⟨p,hp,rfl⟩:=Dn.mp h;have:p.2=b:=by simpa using Cr hp
  exact this▸By hp
 ·intro h
  cases e:kbs.find? fun q=>q.2=b with
  |none=>exact absurd (decide_eq_true rfl) (Dm.mp e _ h)
  |some p=>
   have:p.2=b:=by simpa using Cr e
   exact congrArg some (aCm nk (this▸By e) h)
theorem aAk:iQ kbs b=none↔b∉kbs.map (·.2):=by
 unfold iQ;rw[Ka,Dm];constructor
 ·intro h hm;obtain⟨p,hp,rfl⟩:=Aq.mp hm;exact h p hp (by simp)
 ·intro h p hp e;exact h (Aq.mpr ⟨p,hp,by simpa using e⟩)
theorem HK.ix(H:HK m vals kbs bks)(b:List UInt8):(bix bks b).toNat<bks.length:=by
 have h:=H.pos;unfold bix;have h1:=Ni (kT b) (b:=(bks.length:Int)) (by exact bO (ugt h));have h2:=Ly (kT b) (b:=(bks.length:Int)) (by exact ugt h);exact aUj h1 h2
theorem HK.peer(H:HK m vals kbs bks)(b:List UInt8):hpeer kbs bks b=iQ kbs b:=by
 cases e:hpeer kbs bks b with
 |some s=>
  have:aL kbs s=some b:=by simpa using Cr e
  exact((eL H.nk).mpr (bL this)).symm
 |none=>
  symm
  cases q:iQ kbs b with
  |none=>rfl
  |some s=>
   have hv:=bP H.nd ((eL H.nk).mp q);exact absurd (decide_eq_true hv) (Dm.mp e s (H.mem s b hv))
theorem pG{x:List Int}(k:List UInt8):bix (bks.set i x) k=bix bks k:=by unfold bix;rw[Gf]
theorem qA{k:Int}(h:(aL vals k).isSome=true):(aL (vput vals s o) k).isSome=true:=by rw[iZ];split <;> first|rfl|exact h
theorem HK.vals'(H:HK m vals kbs bks):HK m (vput vals s o) kbs bks:=
 ⟨H.nd,H.nk,H.rg,H.key,fun p hp=>qA (H.val p hp),H.pos,H.inb,H.mem,H.ndb⟩
theorem yE{x:List Int}(h:i<bks.length):(bks.set i x).getD j []=if i=j then x else bks.getD j []:=by
 rw[Ay,Ay,Mc,if_pos h]
 split <;> rfl
theorem jH(h:i<bks.length):bks[i]? = some (bks.getD i []):=by rw[Ay,Ba h];rfl
theorem HK.link(H:HK m vals kbs bks)(hs:aL kbs s=none)(hb:iQ kbs b=none)(hr:0<=s/\s<m.most)(hk:∃n:Int,(0<=n/\n<8)/\b=bG n m.kw):
  HK m (vput vals s o) (kbs++[(s,b)]) (bks.set (bix bks b).toNat (s::bks.getD (bix bks b).toNat [])):=by
 have hi:=H.ix b;have sp:∀{s' k},aL kbs s'=some k->s'≠s:=fun h e=>by rw[e,hs] at h;cases h
 have old:∀{s' k},aL kbs s'=some k->aL (kbs++[(s,b)]) s'=some k:=fun h=>by rw[lE hs,if_neg (sp h)];exact h
 have ap:∀{P:Int×List UInt8->Prop},(∀p∈kbs,P p)->P (s,b)->∀p∈kbs++[(s,b)],P p:=fun h h' p hp=>by
  rcases Ce.mp hp with hp|hp
  ·exact h p hp
  ·rw[Ax.mp hp];exact h'
 have inOld:∀s'∈bks.getD (bix bks b).toNat [],∃k,aL kbs s'=some k/\(bix bks k).toNat=(bix bks b).toNat:=H.inb _ _ (jH hi);refine⟨?_,?_,ap H.rg hr,ap H.key hk,ap (fun p hp=>?_) ?_,by rw[Gf];exact H.pos,fun i l hl s' hs'=>?_,fun s' k h=>?_,fun l hl=>?_⟩
 ·rw[Dg];exact Gp.mpr ⟨H.nd,by simp,fun x hx y hy e=>by rw[e,Ax.mp hy] at hx;exact cA.mp hs hx⟩
 ·rw[Dg];exact Gp.mpr ⟨H.nk,by simp,fun x hx y hy e=>by rw[e,Ax.mp hy] at hx;exact aAk.mp hb hx⟩
 ·exact qA (H.val p hp)
 ·rw[iZ,if_pos rfl];rfl
 ·simp only[pG];rw[Mc] at hl
  split at hl
  ·rename_i q;cases hl;rcases An.mp hs' with rfl|hs'
   ·exact⟨b,by rw[lE hs,if_pos rfl],q⟩
   ·refine bc fun nq=>?_;obtain⟨k,h1,h2⟩:=inOld s' hs';refine nq ?_;exact⟨k,old h1,h2.trans q⟩
  ·obtain⟨k,h1,h2⟩:=H.inb i l hl s' hs';exact⟨k,old h1,h2⟩
 ·rw[pG,yE hi];rw[lE hs] at h
  split at h
  ·rename_i q;cases h;rw[if_pos rfl,q];exact .head _
  ·have:=H.mem s' k h
   split
   ·rename_i q;rw[q];exact .tail _ this
   ·exact this
 ·rcases List.mem_or_eq_of_mem_set hl with hl|rfl
  ·exact H.ndb l hl
  ·exact Mw.mpr ⟨fun h=>by
    obtain⟨k,h1,_⟩:=inOld s h;exact sp h1 rfl,H.ndb _ (Bd (jH hi))⟩
theorem HK.unlink(H:HK m vals kbs bks)(hs:aL kbs s=some b):HK m vals (jX kbs s) (bks.set (bix bks b).toNat ((bks.getD (bix bks b).toNat []).erase s)):=by
 have hi:=H.ix b;have sub:∀p∈jX kbs s,p∈kbs:=fun p hp=>(Db.mp hp).1;have sl:(jX kbs s).Sublist kbs:=List.filter_sublist;have bn:=H.ndb _ (Bd (jH hi));refine⟨(sl.map _).nodup H.nd,(sl.map _).nodup H.nk,fun p hp=>H.rg p (sub p hp),fun p hp=>H.key p (sub p hp),fun p hp=>H.val p (sub p hp),by rw[Gf];exact H.pos,fun i l hl s' hs'=>?_,fun s' k h=>?_,fun l hl=>?_⟩
 ·simp only[pG];rw[Mc] at hl;have fin:∀l,bks[i]? = some l->s'∈l->s'≠s->∃k,aL (jX kbs s) s'=some k/\(bix bks k).toNat=i:=fun l hl hs' n=>by
   obtain⟨k,h1,h2⟩:=H.inb i l hl s' hs';exact⟨k,by rw[xA,if_neg n];exact h1,h2⟩
  split at hl
  ·rename_i q;cases hl;obtain⟨n,hm⟩:=(bn.mem_erase_iff).mp hs';exact fin _ (q▸jH hi) hm n
  ·refine fin l hl hs' fun e=>?_;refine bc fun nq=>?_;obtain⟨k,h1,h2⟩:=H.inb i l hl s' hs';rw[e,hs] at h1;cases h1;refine nq ?_;rename_i q;exact q h2
 ·rw[xA] at h
  split at h
  ·cases h
  ·rename_i n;have:=H.mem s' k h;rw[pG,yE hi]
   split
   ·rename_i q;rw[<-q] at this;exact(bn.mem_erase_iff).mpr ⟨n,this⟩
   ·exact this
 ·rcases List.mem_or_eq_of_mem_set hl with hl|rfl
  ·exact H.ndb l hl
  ·exact bn.erase s
end
section
variable{m:MC}{vals kbs:iX}{bks:List (List Int)}{o:List UInt8}{s:Int}
theorem HK.mem_flat(H:HK m vals kbs bks):s∈bks.flatten↔s∈kbs.map (·.1):=by
 rw[List.mem_flatten];constructor
 ·rintro⟨l,hl,hs⟩
  obtain⟨i,hi⟩:=Fd.mp hl;obtain⟨k,h1,_⟩:=H.inb i l hi s hs;exact Aq.mpr ⟨_,bL h1,rfl⟩
 ·intro h;obtain⟨⟨s,k⟩,hp,rfl⟩:=Aq.mp h;exact⟨_,Bd (jH (H.ix k)),H.mem s k (bP H.nd hp)⟩
theorem HK.nd_flat(H:HK m vals kbs bks):bks.flatten.Nodup:=by
 refine List.pairwise_flatten.mpr ⟨H.ndb,List.pairwise_iff_getElem.mpr fun i j hi hj l x hx y hy e=>?_⟩;obtain⟨k,h1,h2⟩:=H.inb i _ (Ba hi) x hx;obtain⟨k',h3,h4⟩:=H.inb j _ (Ba hj) y hy;rw[e,h3] at h1;cases h1;exact absurd (Gj h2.symm h4) (qH l)
theorem HK.flat(H:HK m vals kbs bks):bks.flatten.Perm (kbs.map (·.1)):=aLq H.nd_flat H.nd fun _=>H.mem_flat
theorem HK.len_flat(H:HK m vals kbs bks):bks.flatten.length=kbs.length:=by rw[H.flat.length_eq,Ag]
theorem HK.len(H:HK m vals kbs bks):(kbs.length:Int)<=m.most\/kbs=[]:=by
 cases kbs with
 |nil=>exact .inr rfl
 |cons p l=>
  have h0:=H.rg p (.head _);have:=nG (r:=upI 0 m.most) H.nd fun x hx=>by
   obtain⟨q,hq,rfl⟩:=Aq.mp hx;exact bJ.mpr (H.rg q hq)
  rw[aU,Ag] at this;exact .inl (by exact aUi h0 this)
theorem HK.blen(H:HK m vals kbs bks){l:List Int}(h:l∈bks):l.length<=kbs.length:=by
 rw[<-H.len_flat];exact nG (H.ndb l h) fun x hx=>List.mem_flatten.mpr ⟨l,h,hx⟩
noncomputable def kz(kbs:iX)(s:Int):List UInt8:=(aL kbs s).getD []
theorem HK.kz(H:HK m vals kbs bks)(h:s∈bks.flatten):aL kbs s=some (kz kbs s):=by
 obtain⟨⟨s,k⟩,hp,rfl⟩:=Aq.mp (H.mem_flat.mp h);have:=bP H.nd hp;unfold Mine.kz;rw[this];rfl
noncomputable def order(kbs:iX)(bks:List (List Int)):List (List UInt8):=bks.flatten.map (kz kbs)
theorem HK.perm(H:HK m vals kbs bks):(order kbs bks).Perm (kbs.map (·.2)):=by
 have e:kbs.map (·.2)=(kbs.map (·.1)).map (Mine.kz kbs):=by
  rw[Bq];refine Dk fun p hp=>?_;show p.2=(aL kbs p.1).getD [];rw[bP H.nd hp];rfl
 rw[e];exact H.flat.map _
theorem HK.spot(H:HK m vals kbs bks):∀n,n<=bks.flatten.length->yB kbs bks ((order kbs bks).take n).getLast? = n
 |0,_=>rfl
 |n+1,h=>by
  have hn:n<bks.flatten.length:=h;have e:((order kbs bks).take (n+1)).getLast? = some (Mine.kz kbs bks.flatten[n]):=by
   unfold order;rw[Hy,Ci,Ba hn];simp
  rw[e];unfold yB;have:hpeer kbs bks (Mine.kz kbs bks.flatten[n])=some bks.flatten[n]:=by
   rw[H.peer];exact(eL H.nk).mpr (bL (H.kz (Mk hn)))
  dsimp only;rw[this];show bks.flatten.idxOf bks.flatten[n]+1=n+1;rw[H.nd_flat.idxOf_getElem]
theorem HK.next(H:HK m vals kbs bks)(h:n<=bks.flatten.length):hnext kbs bks ((order kbs bks).take n).getLast? =(order kbs bks)[n]?:=by
 unfold hnext;rw[H.spot n h];unfold order;rw[Ci]
 cases e:bks.flatten[n]? with
 |none=>rfl
 |some s=>exact H.kz (Bd e)
theorem HK.next_end(H:HK m vals kbs bks):hnext kbs bks (order kbs bks).getLast? = none:=by
 have z:=H.next (Bs _);have hl:(order kbs bks).length=bks.flatten.length:=Ag _;rw[Hx (De hl),El (De hl)] at z;exact z
theorem HK.next_un(H:HK m vals kbs bks)(h:iQ kbs b=none):hnext kbs bks (some b)=(order kbs bks).head?:=by
 have z:=H.next (Fa _);have e:yB kbs bks (some b)=0:=by unfold yB;dsimp only;rw[H.peer,h]
 unfold hnext at z ⊢;rw[e];rw[List.head?_eq_getElem?];exact z
theorem HK.room(H:HK m vals kbs bks)(hm:0<=m.most):((kbs.length:Int)=m.most↔fW m.most kbs=none)/\∀s,fW m.most kbs=some s->aL kbs s=none/\0<=s/\s<m.most:=by
 have some_:∀s,fW m.most kbs=some s->aL kbs s=none/\0<=s/\s<m.most:=fun s h=>by
  have h1:=Cr h;have h2:=bJ.mp (By h);exact⟨by simpa using h1,h2⟩
 have sub:∀x∈kbs.map (·.1),x∈upI 0 m.most:=fun x hx=>by
  obtain⟨q,hq,rfl⟩:=Aq.mp hx;exact bJ.mpr (H.rg q hq)
 refine⟨⟨fun e=>?_,fun h=>?_⟩,some_⟩
 ·cases q:fW m.most kbs with
  |none=>rfl
  |some s=>
   obtain⟨h1,h2⟩:=some_ s q;have:=nG (l:=s::kbs.map (·.1)) (r:=upI 0 m.most) (Mw.mpr ⟨cA.mp h1,H.nd⟩) fun x hx=>by
    rcases An.mp hx with rfl|hx
    ·exact bJ.mpr h2
    ·exact sub x hx
   rw[aU,Fu,Ag] at this;omega
 ·have h1:=nG H.nd sub;have h2:=nG (l:=upI 0 m.most) (r:=kbs.map (·.1)) (mV _ _) fun x hx=>by
   have:=Dm.mp h x hx;simp only[Gq,Bool.not_eq_false',Cv] at this
   cases e:aL kbs x with
   |none=>rw[e] at this;simp at this
   |some k=>exact Aq.mpr ⟨_,bL e,rfl⟩
  rw[aU,Ag] at h1 h2;exact aUg hm h1 h2
theorem iG{n:Int}(hk:m.k = .hsh):cZ m kbs n p=iQ kbs (bG n m.kw):=by unfold cZ;rw[hk];rfl
theorem HK.upd(H:HK m vals kbs bks)(hk:m.k = .hsh)(hm:0<=m.most){n:Int}(hn:0<=n/\n<8)(hf:0<=flags):
  (iW m vals kbs bks (bG n m.kw) o flags).1=(fQ m vals kbs n o flags p).1/\(iW m vals kbs bks (bG n m.kw) o flags).2.1=(fQ m vals kbs n o flags p).2.1/\(iW m vals kbs bks (bG n m.kw) o flags).2.2.1=(fQ m vals kbs n o flags p).2.2/\
   HK m (fQ m vals kbs n o flags p).2.1 (fQ m vals kbs n o flags p).2.2 (iW m vals kbs bks (bG n m.kw) o flags).2.2.2:=by
 obtain⟨r1,r2⟩:=H.room hm;unfold iW fQ;rw[H.peer,iG hk];rw[if_neg (show¬m.k.name≠"hash" by rw[hk];decide)];by_cases h2:flags>2
 ·have:bC flags (iQ kbs (bG n m.kw)).isSome = -22:=if_pos (by simp;exact aQv h2);rw[this,if_pos h2,if_pos (by decide)];exact⟨rfl,rfl,rfl,H⟩
 ·rw[if_neg h2];have hin:flags=0\/flags=1\/flags=2:=by exact aUf hf h2
  cases q:iQ kbs (bG n m.kw) with
  |some s=>
   dsimp only;by_cases h1:flags=1
   ·have fa:bC flags (some s).isSome = -17:=by subst h1;rfl
    rw[fa,if_pos (by decide),if_pos h1];exact⟨rfl,rfl,rfl,H⟩
   ·have fa:bC flags (some s).isSome=0:=by rcases hin with rfl|e|rfl <;> first|rfl|exact absurd e h1
    rw[fa,if_neg (by decide),if_neg h1];exact⟨rfl,rfl,rfl,H.vals'⟩
  |none=>
   dsimp only;by_cases h1:flags=2
   ·have fa:bC flags (none:Option Int).isSome = -2:=by subst h1;rfl
    rw[fa,if_pos (by decide),if_pos h1];exact⟨rfl,rfl,rfl,H⟩
   ·have fa:bC flags (none:Option Int).isSome=0:=by rcases hin with rfl|rfl|e <;> first|rfl|exact absurd e h1
    rw[fa,if_neg (by decide),if_neg h1];by_cases e:(kbs.length:Int)=m.most
    ·rw[if_pos e,r1.mp e];exact⟨rfl,rfl,rfl,H⟩
    ·rw[if_neg e]
     cases f:fW m.most kbs with
     |none=>exact absurd (r1.mpr f) e
     |some s=>
      obtain⟨g1,g2⟩:=r2 s f;dsimp only;rw[wZ g1];exact⟨rfl,rfl,rfl,H.link g1 q g2 ⟨n,hn,rfl⟩⟩
theorem HK.del(H:HK m vals kbs bks)(hk:m.k = .hsh){n:Int}:
  (yD vals kbs bks (bG n m.kw)).1=(oS m kbs n).1/\(yD vals kbs bks (bG n m.kw)).2.1=(oS m kbs n).2/\HK m vals (oS m kbs n).2 (yD vals kbs bks (bG n m.kw)).2.2:=by
 unfold yD oS;rw[H.peer,hk];unfold iQ
 cases q:kbs.find? fun q=>q.2=bG n m.kw with
 |none=>exact⟨rfl,rfl,H⟩
 |some p=>
  have hp:=By q;have e2:p.2=bG n m.kw:=by simpa using Cr q
  have hv:aL kbs p.1=some (bG n m.kw):=bP H.nd (e2▸hp);have ed:jX kbs p.1=aCc kbs (bG n m.kw):=List.filter_congr fun r hr=>by
   have:r.1=p.1↔r.2=bG n m.kw:=⟨fun e=>by
    have:=bP H.nd (k:=r.1) (x:=r.2) hr;rw[e,hv] at this;exact(Cw this).symm,fun e=>aCm H.nk (b:=bG n m.kw) (e▸hr) (e2▸hp)⟩
   simp[this]
  dsimp only[Option.map_some];rw[<-ed];exact⟨rfl,rfl,H.unlink hv⟩
end
theorem small{P:Int->Prop}(h:∀n:Fin 8,P (n.val:Int)){n:Int}(h0:0<=n)(h1:n<8):P n:=by
 have:=h ⟨n.toNat,by exact aUe h0 h1⟩;rwa[show((n.toNat:Nat):Int)=n by exact aUd h0 h1] at this
theorem aOx{P:Int->Prop}(h:∀k:Fin 4,P (k.val+1:Int)){k:Int}(h0:1<=k)(h1:k<=4):P k:=by
 obtain⟨n,rfl⟩:=Int.eq_succ_of_zero_lt (Am (by decide) h0);exact h ⟨n,Ct.mp h1⟩
theorem xV{n k:Int}(h0:0<=n)(h1:n<8)(k0:1<=k)(k1:k<=4):cO (bG n k)=n:=
 aOx (P:=fun k=>cO (bG n k)=n) (fun k=>small (P:=fun n=>cO (bG n (k.val+1:Int))=n) (fun n=>by revert n k;decide +kernel) h0 h1) k0 k1
theorem dS{n:Int}(h0:0<=n)(h1:n<8):cH (bG n 4)=n:=small (P:=fun n=>cH (bG n 4)=n) (by decide +kernel) h0 h1
theorem oD{n:Int}(h0:0<=n)(h1:n<8):fF n 4=bG n 4:=small (P:=fun n=>fF n 4=bG n 4) (by decide +kernel) h0 h1
section
variable{ks:List (List UInt8)}{nx:Option (List UInt8)->Option (List UInt8)}
theorem aCa(T:∀n,n<=ks.length->nx (ks.take n).getLast? = ks[n]?)(pre:List (List UInt8))(a:List UInt8)(post:List (List UInt8))(e:ks=pre++a::post):nx pre.getLast? = some a:=by
 have hl:=congrArg Iq e;rw[Cz] at hl;have z:=T pre.length (by exact aUh hl);rw[e] at z;simpa using z
theorem wY(T:∀n,n<=ks.length->nx (ks.take n).getLast? = ks[n]?):nx ks.getLast? = none:=by
 have z:=T ks.length (Bs _);rwa[List.take_length,El (Bs _)] at z
end
structure Gd(m:MC):Prop where
 kw:1<=m.kw/\m.kw<=4
 k4:m.k≠.hsh->m.kw=4
 vw:1<=m.vw/\m.vw<=12
 most:1<=m.most/\m.most<=5
 num:0<=m.num/\m.num<10
theorem Gd.widths{m:MC}(G:Gd m):eM m.k m.kw m.vw m.most:=by
 obtain⟨h1,h2,h3,h4,h5⟩:=G;exact⟨⟨h2,fun _=>by exact⟨h1.1,ile h1.2⟩⟩,by exact⟨h3.1,ile h3.2⟩,by exact⟨h4.1,ile h4.2⟩⟩
structure VL(m:MC)(vals:iX):Prop where
 nd:(vals.map (·.1)).Nodup
 rg:∀p∈vals,0<=p.1/\p.1<m.most*m.k.procs
 len:∀p∈vals,(p.2.length:Int)=m.vw
 full:m.k≠.hsh->∀s,0<=s->s<m.most*m.k.procs->(aL vals s).isSome=true
section
variable{m:MC}{vals kbs:iX}{o:List UInt8}{s n:Int}
theorem Gd.slots(G:Gd m):m.most*m.k.procs<=20:=by
 obtain⟨h1,h2⟩:=G.most;obtain⟨h3,h4⟩:=m.k.procs_le;exact Ac (Lm h2 h4 (by exact ige h3) (by decide)) (by decide)
theorem VL.count(V:VL m vals)(G:Gd m):vals.length<=20:=by
 have:=nG (r:=upI 0 (m.most*m.k.procs)) V.nd fun x hx=>by
  obtain⟨q,hq,rfl⟩:=Aq.mp hx;exact bJ.mpr (V.rg q hq)
 rw[aU,Ag] at this;have:=G.slots;omega
theorem VL.put(V:VL m vals)(h0:0<=s)(h1:s<m.most*m.k.procs)(ho:(o.length:Int)=m.vw):VL m (vput vals s o):=
 ⟨aPb V.nd,fun p hp=>by
  rcases mem_put hp with hp|rfl
  ·exact V.rg p hp
  ·exact⟨h0,h1⟩,fun p hp=>by
  rcases mem_put hp with hp|rfl
  ·exact V.len p hp
  ·exact ho,fun hk t h0 h1=>qA (V.full hk t h0 h1)⟩
theorem iH(hk:m.k≠.hsh):cZ m kbs n p=if n>=m.most then none else some (eS m.k n p):=by
 unfold cZ eS
 cases e:m.k with
 |hsh=>exact absurd e hk
 |arr=>rfl
 |row=>rfl
theorem jD(hk:m.k≠.hsh)(h0:0<=n)(h1:n<m.most)(p0:0<=p)(p1:p<4):0<=eS m.k n p/\eS m.k n p<m.most*m.k.procs:=by
 cases e:m.k with
 |hsh=>exact absurd e hk
 |arr=>show 0<=n/\n<m.most*1;exact aUc h0 h1
 |row=>show 0<=n*4+p/\n*4+p<m.most*4;exact aUb h0 h1 p0 p1
theorem aNp(G:Gd m)(hk:m.k≠.hsh)(hn:0<=n/\n<8)(hf:0<=flags):(aFs m vals (bG n m.kw) o flags p).1=(fQ m vals kbs n o flags p).1/\(aFs m vals (bG n m.kw) o flags p).2=(fQ m vals kbs n o flags p).2.1/\(fQ m vals kbs n o flags p).2.2=kbs:=by
 unfold aFs fQ;rw[G.k4 hk,dS hn.1 hn.2,iH hk];by_cases h2:flags>2
 ·rw[if_pos (by simp;exact aQv h2),if_pos h2];exact⟨rfl,rfl,rfl⟩
 ·rw[if_neg (by simp;exact aUa hf h2),if_neg h2];by_cases h3:n<m.most
  ·rw[if_neg (show¬¬n<m.most from not_not_intro h3),if_neg (show¬n>=m.most by exact Ff.mpr h3)]
   dsimp only;by_cases h1:flags=1
   ·rw[if_pos h1,if_pos h1];exact⟨rfl,rfl,rfl⟩
   ·rw[if_neg h1,if_neg h1];exact⟨rfl,rfl,rfl⟩
  ·rw[if_pos h3,if_pos (show n>=m.most by exact Eg.mp h3)];dsimp only;rw[if_pos (show m.k.name≠"hash" by cases e:m.k <;> first|exact absurd e hk|decide)];exact⟨rfl,rfl,rfl⟩
theorem VL.upd(V:VL m vals)(G:Gd m)(hn:0<=n/\n<8)(p0:0<=p)(p1:p<4)(ho:(o.length:Int)=m.vw)(hr:∀s,cZ m kbs n p=some s->0<=s/\s<m.most*m.k.procs)(hr2:∀s,fW m.most kbs=some s->0<=s/\s<m.most*m.k.procs):VL m (fQ m vals kbs n o flags p).2.1:=by
 unfold fQ
 split
 ·exact V
 ·split
  ·rename_i s e
   split
   ·exact V
   ·exact V.put (hr s e).1 (hr s e).2 ho
  ·split
   ·exact V
   ·split
    ·exact V
    ·split
     ·exact V
     ·split
      ·rename_i s e;exact V.put (hr2 s e).1 (hr2 s e).2 ho
      ·exact V
theorem aOq(G:Gd m)(hk:m.k≠.hsh):∀i:Nat,i<=((upI 0 m.most).map fun i=>bG i m.kw).length->oP m (((upI 0 m.most).map fun i=>bG i m.kw).take i).getLast? =((upI 0 m.most).map fun i=>bG i m.kw)[i]?:=by
 intro i hi;have hm:=G.most;have hl:((upI 0 m.most).map fun i=>bG i m.kw).length=m.most.toNat:=by rw[Ag,aU,Cj]
 have at_:∀j:Nat,j<m.most.toNat->((upI 0 m.most).map fun i=>bG i m.kw)[j]? = some (bG j m.kw):=fun j hj=>by
  unfold upI;rw[Bq,Ci,Hf (by exact aTz hm hj)];simp
 have ea:aix m (((upI 0 m.most).map fun i=>bG i m.kw).take i).getLast? =(i:Int)-1:=by
  cases i with
  |zero=>rfl
  |succ j=>
   rw[Hy,at_ j (show j<m.most.toNat by exact Bi on1 (tM hi hl))];simp only[Option.toList_some,List.getLast?_append,List.getLast?_singleton,Option.some_or];show idx m (bG j m.kw)=_;unfold idx;rw[G.k4 hk,dS (by exact oU) (by exact aTy hm hl hi),if_pos (by exact aTx hm hl hi)];exact aTw
 unfold oP;rw[ea];by_cases e:i=m.most.toNat
 ·rw[if_pos (by exact aTv hm ea e),El (by exact aTu hl ea e)]
 ·rw[if_neg (by exact aTt hi hm hl ea e),at_ i (by exact aTs hi hl ea e),Int.sub_add_cancel,oD (by exact oU) (by exact aTr hi hm hl ea e),G.k4 hk]
theorem aJt(G:Gd m)(hk:m.k≠.hsh)(hn:0<=n/\n<8)(h:cZ m kbs n 0=none):oP m (some (bG n m.kw))=((upI 0 m.most).map fun i=>bG i m.kw).head?:=by
 have hm:=G.most;rw[iH hk] at h;have hge:n>=m.most:=by
  by_cases q:n>=m.most
  ·exact q
  ·rw[if_neg q] at h;cases h
 rw[List.head?_eq_getElem?,<-(aOq G hk 0 (Fa _))];have e:aix m (some (bG n m.kw)) = -1:=by
  show idx m _=_;unfold idx;rw[G.k4 hk,dS hn.1 hn.2,if_neg (by exact Eg.mpr hge)]
 unfold oP;rw[e];rfl
theorem mM(G:Gd m)(hk:m.k≠.hsh):cL ((upI 0 m.most).map fun i=>fF i 4)=aI m kbs/\cL ((upI 0 m.most).map fun i=>bG i m.kw)=aI m kbs:=by
 have hm:=G.most;have e:aI m kbs=cL ((upI 0 m.most).map fun i=>bG i m.kw):=by
  unfold aI
  cases e:m.k with
  |hsh=>exact absurd e hk
  |arr=>rfl
  |row=>rfl
 refine⟨?_,e.symm⟩;rw[e,G.k4 hk]
 congr 1
 exact Dk fun i hi=>oD (bJ.mp hi).1 (by have:=(bJ.mp hi).2;exact ilt (Am this hm.2))
end
structure Mq(σ:Sg)(g:Gn)(m:MC)(vals kbs:iX):Prop where
 M:MapB σ g m vals
 H:m.k = .hsh->∃bks,MapH σ g m vals kbs bks/\HK m vals kbs bks
 V:VL m vals
 A:m.k≠.hsh->kbs=[]
 F:m.k = .hsh->∀t,0<=t->t<100->aL vals t=none->σ (lo g t)=none
section
variable{g g' g2:Gn}{m:MC}{vals kbs:iX}{o:List UInt8}{s n:Int}
theorem Mq.frame(M:Mq σ g m vals kbs)(h:∀l,own g l->σ' l=σ l):Mq σ' g m vals kbs:=
 ⟨M.M.frame h,fun hk=>by
  obtain⟨bks,h1,h2⟩:=M.H hk;exact⟨bks,h1.frame h,h2⟩,M.V,M.A,fun hk t h0 h1 ht=>(h _ (eU (by exact⟨h0,ilt h1⟩))).trans (M.F hk t h0 h1 ht)⟩
theorem Mq.MH(M:Mq σ g m vals kbs):Mine.MH σ g m vals:=⟨M.M,fun hk=>by
 obtain⟨bks,h1,_⟩:=M.H hk;exact⟨kbs,bks,h1⟩⟩
theorem Mq.count(M:Mq σ g m vals kbs)(G:Gd m):(kbs.length:Int)<=m.most:=by
 have hm:=G.most;by_cases hk:m.k = .hsh
 ·obtain⟨bks,_,h⟩:=M.H hk;rcases h.len with h|h
  ·exact h
  ·rw[h];show(0:Int)<=_;exact ige hm.1
 ·rw[M.A hk];show(0:Int)<=_;exact ige hm.1
theorem aDq{t:Int}(h:aL (fQ m vals kbs n o flags p).2.1 t=none):aL vals t=none:=by
 unfold fQ at h;have put:∀s,aL (vput vals s o) t=none->aL vals t=none:=fun s h=>by
  rw[iZ] at h
  split at h
  ·cases h
  ·exact h
 repeat(first|exact h|exact put _ h|split at h)
theorem Mq.upd(M:Mq σ g m vals kbs)(G:Gd m)(hn:0<=n/\n<8)(hp:0<=p/\p<4)(hf:0<=flags)(ho:(o.length:Int)=m.vw):
  ∃σ',FN w 9 (.ref m.k.update) [.ref (lI g),.bytes (bG n m.kw),.bytes o,.int flags,.int p] σ (.int (fQ m vals kbs n o flags p).1) σ'/\Mq σ' g m (fQ m vals kbs n o flags p).2.1 (fQ m vals kbs n o flags p).2.2/\Only g σ σ':=by
 refine Al fun nq=>?_;obtain⟨k0,k1⟩:=G.kw;obtain⟨v0,v1⟩:=G.vw;obtain⟨m0,m1⟩:=G.most;have hz:=eB (n:=n) (kw:=m.kw) (by exact ige k0);refine nq ?_;by_cases hk:m.k = .hsh
 ·refine Al fun nq=>?_;obtain⟨bks,MM,HH⟩:=M.H hk;have kl:=M.count G;obtain⟨σ',F,M',O,Z⟩:=aAn (w:=w) MM (b:=bG n m.kw) (o:=o) (flags:=flags) (p:=p) hz (by exact ile k1) ho (by exact ile v1) (fun l hl s hs=>by
   obtain⟨i,hi⟩:=Fd.mp hl;obtain⟨k,h1,_⟩:=HH.inb i l hi s hs;exact⟨k,h1⟩) (by exact⟨ige m0,ile m1⟩) (by exact cle (Ac kl m1)) (by exact nle (M.V.count G)) (fun l hl=>by have:=HH.blen hl;exact aQu m0 m1 kl this) (M.F hk) (fun s x hx=>by have:=M.V.len _ (bL hx);dsimp only at this;exact aQt ho this) (fun s k hx=>by have:=HH.rg _ (bL hx);dsimp only at this;exact⟨this.1,ilt (Am this.2 m1)⟩)
  obtain⟨e1,e2,e3,H'⟩:=HH.upd (o:=o) (n:=n) (p:=p) (flags:=flags) hk (by exact ige m0) hn hf;rw[e1] at F;rw[e2,e3] at M';rw[e2] at Z;refine nq ?_;refine⟨σ',by rw[hk];exact F.up (by decide),⟨M'.toMapB,fun _=>⟨_,M',H'⟩,?_,fun h=>absurd hk h,fun _ t h0 h1 ht=>(Z t ht).trans (M.F hk t h0 h1 (aDq ht))⟩,O⟩;refine M.V.upd G hn hp.1 hp.2 ho (fun s e=>?_) (fun s e=>?_)
  ·rw[iG hk] at e;have:=HH.rg _ ((eL HH.nk).mp e);rw[hk];show 0<=s/\s<m.most*1;dsimp only at this;exact aTo this
  ·have:=(HH.room (by exact ige m0)).2 s e;rw[hk];show 0<=s/\s<m.most*1;omega
 ·have hz':=hz;refine Al fun nq=>?_;obtain⟨σ',F,M',O⟩:=aBf (w:=w) M.M hk (b:=bG n m.kw) (o:=o) (flags:=flags) (p:=p) hz (G.k4 hk) ho (by exact ile v1) hp.1 hp.2 (fun hl=>by
   rw[G.k4 hk,dS hn.1 hn.2] at hl ⊢;obtain⟨r0,r1⟩:=jD hk hn.1 hl hp.1 hp.2;obtain⟨x,hx⟩:=Cv.mp (M.V.full hk _ r0 r1);exact⟨x,hx,by have:=M.V.len _ (bL hx);dsimp only at this;exact aQt ho this⟩)
  obtain⟨e1,e2,e3⟩:=aNp (vals:=vals) (kbs:=kbs) (o:=o) (n:=n) (p:=p) (flags:=flags) G hk hn hf;rw[e1] at F;rw[e2] at M';refine nq ?_;refine⟨σ',?_,⟨M',fun h=>absurd h hk,?_,fun _=>e3.trans (M.A hk),fun h=>absurd h hk⟩,O⟩
  ·have:m.k.update=362:=by cases e:m.k <;> first|exact absurd e hk|rfl
   rw[this];exact F.up (by decide)
  ·refine M.V.upd G hn hp.1 hp.2 ho (fun s e=>?_) (fun s e=>?_)
   ·rw[iH hk] at e
    split at e
    ·cases e
    ·cases e;exact jD hk hn.1 (by omega) hp.1 hp.2
   ·have h2:=bJ.mp (By e);have h3:=It m.k.procs_le.1 (show(0:Int)<=m.most by exact ige m0);rw[Ir] at h3;exact⟨h2.1,Am h2.2 h3⟩
theorem Mq.del(M:Mq σ g m vals kbs)(G:Gd m)(hn:0<=n/\n<8):
  ∃σ',FN w 9 (.ref m.k.delete) [.ref (lI g),.bytes (bG n m.kw)] σ (.int (oS m kbs n).1) σ'/\Mq σ' g m vals (oS m kbs n).2/\Only g σ σ':=by
 obtain⟨k0,k1⟩:=G.kw;obtain⟨m0,m1⟩:=G.most;have hz:=eB (n:=n) (kw:=m.kw) (by exact ige k0);by_cases hk:m.k = .hsh
 ·refine Al fun nq=>?_;obtain⟨bks,MM,HH⟩:=M.H hk;have kl:=M.count G;obtain⟨σ',F,M',O,Z⟩:=aAs (w:=w) MM (b:=bG n m.kw) hz (by exact ile k1) (fun l hl s hs=>by
   obtain⟨i,hi⟩:=Fd.mp hl;obtain⟨k,h1,_⟩:=HH.inb i l hi s hs;exact⟨k,h1⟩) (by exact cle (Ac kl m1)) (fun l hl=>by have:=HH.blen hl;exact aQu m0 m1 kl this)
  obtain⟨e1,e2,H'⟩:=HH.del (n:=n) hk;rw[e1] at F;rw[e2] at M';refine nq ?_;exact⟨σ',by rw[hk];exact F.up (by decide),⟨M'.toMapB,fun _=>⟨_,M',H'⟩,M.V,fun h=>absurd hk h,fun _ t h0 h1 ht=>(Z t).trans (M.F hk t h0 h1 ht)⟩,O⟩
 ·have e:oS m kbs n=(-22,kbs):=by unfold oS;cases e:m.k <;> first|exact absurd e hk|rfl
  have:m.k.delete=369:=by cases e:m.k <;> first|exact absurd e hk|rfl
  rw[e,this];exact⟨σ,(aBi M.M hz (by exact ile k1)).up (by decide),M,Only.refl⟩
theorem Mq.look(M:Mq σ g m vals kbs)(G:Gd m)(hn:0<=n/\n<8)(hp:0<=p/\p<4):FN w 4 (.ref m.k.lookup) [.ref (lI g),.bytes (bG n m.kw),.int p] σ (iU (cZ m kbs n p)) σ:=by
 obtain⟨k0,k1⟩:=G.kw;have hz:=eB (n:=n) (kw:=m.kw) (by exact ige k0);by_cases hk:m.k = .hsh
 ·refine Al fun nq=>?_;obtain⟨bks,MM,HH⟩:=M.H hk;have P:=jG (w:=w) MM hz (by exact ile k1) (fun l hl s hs=>by
   refine Al fun nq=>?_;obtain⟨i,hi⟩:=Fd.mp hl;obtain⟨k,h1,_⟩:=HH.inb i l hi s hs;refine nq ?_;exact⟨k,h1⟩)
  rw[HH.peer] at P;refine nq ?_;rw[iG hk,hk];exact aAq MM P
 ·have L:=aBh (w:=w) M.M hk hp.1 hp.2 hz (G.k4 hk);have:m.k.lookup=354:=by cases e:m.k <;> first|exact absurd e hk|rfl
  rw[this,iH hk];rw[G.k4 hk,dS hn.1 hn.2] at L;rw[G.k4 hk];by_cases q:n<m.most
  ·rw[if_pos q] at L;rw[if_neg (by exact Ff.mpr q)];exact L.up (by decide)
  ·rw[if_neg q] at L;rw[if_pos (by exact Eg.mp q)];exact L.up (by decide)
theorem Mq.slot(M:Mq σ g m vals kbs)(hn:0<=n)(hp:0<=p/\p<4)(h:cZ m kbs n p=some s):∃x,aL vals s=some x:=by
 by_cases hk:m.k = .hsh
 ·obtain⟨bks,MM,HH⟩:=M.H hk;rw[iG hk] at h;exact Cv.mp (HH.val _ ((eL HH.nk).mp h))
 ·rw[iH hk] at h
  split at h
  ·cases h
  ·cases h;obtain⟨r0,r1⟩:=jD hk hn (by omega) hp.1 hp.2;exact Cv.mp (M.V.full hk _ r0 r1)
theorem Mq.copy(M:Mq σ g m vals kbs)(G:Gd m)(Fr:Fresh3 σ g g' g2):∃σ',FN w 9 (.ref m.k.copy) [.ref (lI g)] σ (.ref (lI g2)) σ'/\Mq σ' g2 m vals kbs/\∀l,¬own g' l->¬own g2 l->σ' l=σ l:=by
 have vl:=M.V.count G;have hz:∀p∈vals,p.2.length<=1000:=fun p hp=>by have:=M.V.len p hp;have:=G.vw;omega
 have hnum:0<=m.num/\m.num<64:=by have:=G.num;exact⟨this.1,ilt this.2⟩
 by_cases hk:m.k = .hsh
 ·refine Al fun nq=>?_;obtain⟨bks,MM,HH⟩:=M.H hk;have kl:=M.count G;have:=G.most;obtain⟨σ',F,M',O,Z⟩:=aIb (w:=w) MM G.widths hnum Fr hz (by exact nle vl) (by exact cle (Ac kl this.2)) HH.nd (fun l hl=>by have:=HH.blen hl;omega);refine nq ?_;exact⟨σ',by rw[hk];exact F.up (by decide),⟨M'.toMapB,fun _=>⟨_,M',HH⟩,M.V,M.A,fun _=>Z⟩,O⟩
 ·obtain⟨σ',F,M',O⟩:=aKa (w:=w) M.M hk G.widths hnum Fr hz (by exact nle vl);have:m.k.copy=285:=by cases e:m.k <;> first|exact absurd e hk|rfl
  exact⟨σ',by rw[this];exact F.up (by decide),⟨M',fun h=>absurd h hk,M.V,M.A,fun h=>absurd h hk⟩,O⟩
end
section
variable{g g' g2:Gn}{m:MC}{vals kbs:iX}{o:List UInt8}{s n:Int}
noncomputable def vOf(m:MC)(vals kbs:iX)(b:List UInt8):List UInt8:=((cZ m kbs (cO b) 0).bind (aL vals)).getD []
noncomputable def rOf(vals:iX)(b:List UInt8)(p:Int):List UInt8:=(aL vals (cO b*4+p)).getD []
theorem Mq.key(M:Mq σ g m vals kbs)(G:Gd m)(hb:b∈aI m kbs):∃n:Int,(0<=n/\n<8)/\(m.k≠.hsh->n<m.most)/\b=bG n m.kw/\cO b=n/\∃s x,cZ m kbs n 0=some s/\aL vals s=some x/\vOf m vals kbs b=x:=by
 have fin:∀n:Int,(0<=n/\n<8)->b=bG n m.kw->∀s,cZ m kbs n 0=some s->cO b=n/\∃s x,cZ m kbs n 0=some s/\aL vals s=some x/\vOf m vals kbs b=x:=fun n hn e s hs=>by
  have en:cO b=n:=by rw[e];exact xV hn.1 hn.2 G.kw.1 G.kw.2
  obtain⟨x,hx⟩:=M.slot hn.1 ⟨by decide,by decide⟩ hs;exact⟨en,s,x,hs,hx,by unfold vOf;rw[en,hs];show(aL vals s).getD []=x;rw[hx];rfl⟩
 by_cases hk:m.k = .hsh
 ·refine Al fun nq=>?_;obtain⟨bks,MM,HH⟩:=M.H hk;have hb':b∈kbs.map (·.2):=by
   unfold aI at hb;rw[hk] at hb;exact(dT _).mem_iff.mp hb
  obtain⟨⟨s,k⟩,hq,rfl⟩:=Aq.mp hb';obtain⟨n,hn,e⟩:=HH.key _ hq;refine nq ?_;exact⟨n,hn,fun h=>absurd hk h,e,fin n hn e s (by rw[iG hk,<-e];exact(eL HH.nk).mpr hq)⟩
 ·rw[<-(mM G hk).2] at hb;obtain⟨n,hn,rfl⟩:=Aq.mp ((dT _).mem_iff.mp hb);obtain⟨h0,h1⟩:=bJ.mp hn;have:=G.most;exact⟨n,by exact⟨h0,ilt (Am h1 this.2)⟩,fun _=>h1,rfl,fin n (by exact⟨h0,ilt (Am h1 this.2)⟩) rfl _ (by rw[iH hk,if_neg (by exact Ff.mpr h1)])⟩
theorem Mq.klen(M:Mq σ g m vals kbs)(G:Gd m):(aI m kbs).length<=5:=by
 have h:=M.count G;have:=G.most;by_cases hk:m.k = .hsh
 ·unfold aI;rw[hk];show(cL _).length<=5;rw[(dT _).length_eq,Ag];exact cle (Ac h this.2)
 ·rw[<-(mM G hk).2,(dT _).length_eq,Ag,aU];exact jB this.2
theorem Mq.keys(M:Mq σ g m vals kbs)(G:Gd m)(l:Lbl)(hl:σ l=none):FN w 4 (.ref m.k.keys) [.ref (lI g)] σ (.ref l) (Mine.upd σ l (.list ((aI m kbs).map .bytes))):=by
 have:=G.most;by_cases hk:m.k = .hsh
 ·obtain⟨bks,MM,HH⟩:=M.H hk;have h:=M.count G;unfold aI;rw[hk];exact(aIa (w:=w) MM HH.nd (by exact cle (Ac h this.2)) l hl).up (by decide)
 ·have F:=aJz (w:=w) M.M (by exact⟨ige this.1,ile this.2⟩) l hl;rw[(mM (kbs:=kbs) G hk).1] at F;rw[(show m.k.keys=374 by cases e:m.k <;> first|exact absurd e hk|rfl)]
  exact F.up (by decide)
theorem Mq.peer(M:Mq σ g m vals kbs)(G:Gd m)(hn:0<=n/\n<8):FN w 3 (.ref m.k.peer) [.ref (lI g),.bytes (bG n m.kw)] σ (iU (cZ m kbs n 0)) σ:=by
 obtain⟨k0,k1⟩:=G.kw;have hz:=eB (n:=n) (kw:=m.kw) (by exact ige k0);by_cases hk:m.k = .hsh
 ·obtain⟨bks,MM,HH⟩:=M.H hk;have P:=jG (w:=w) MM hz (by exact ile k1) (fun l hl s hs=>by
   obtain⟨i,hi⟩:=Fd.mp hl;obtain⟨k,h1,_⟩:=HH.inb i l hi s hs;exact⟨k,h1⟩)
  rw[HH.peer] at P;rw[iG hk,hk];exact P
 ·have L:=aJv (w:=w) M.M hk hz (G.k4 hk);have e:m.k.peer=346:=by cases e:m.k <;> first|exact absurd e hk|rfl
  rw[e,iH hk];rw[G.k4 hk,dS hn.1 hn.2] at L;rw[G.k4 hk];by_cases q:n<m.most
  ·rw[if_pos q] at L;rw[if_neg (by exact Ff.mpr q)];exact L
  ·rw[if_neg q] at L;rw[if_pos (by exact Eg.mp q)];exact L
theorem Mq.value(M:Mq σ g m vals kbs)(G:Gd m)(hb:b∈aI m kbs):FN w 4 (.ref 229) [.ref (lI g),.bytes b] σ (.bytes (vOf m vals kbs b)) σ:=by
 refine Al fun nq=>?_;obtain⟨n,hn,_,e,_,s,x,h1,h2,h3⟩:=M.key G hb;have P:=M.peer (w:=w) G hn;rw[h1,<-e] at P;refine nq ?_;rw[h3];exact aGs M.M P h2 (by have:=M.V.len _ (bL h2);have h:=G.vw;dsimp only at this;exact cle (hM this h.2))
theorem Mq.told(M:Mq σ g m vals kbs)(G:Gd m):FN w 6 (.ref 297) [.ref (lI g)] σ (.tup [.str m.k.name,.int m.num,.int m.kw,.int m.vw,.int m.most,.tup ((aI m kbs).map (bZ m (vOf m vals kbs) (rOf vals)))]) σ:=by
 have kl:=M.klen G;refine aLh M.M ?_;have off:∀l:Lbl,l.1=0->∀o,Mq (Mine.upd σ l o) g m vals kbs:=fun l hl o=>M.frame fun x hx=>upd_ne fun e=>by
  subst e;rcases hx with⟨h|h|h,_⟩| ⟨h|h,_⟩| ⟨h|h,_⟩ <;> rw[hl] at h <;> cases h
 by_cases hk:m.k = .row
 ·have e:m.k.parts=424:=by rw[hk];rfl
  have hk2:m.k≠.hsh:=by rw[hk];exact fun h=>nomatch h
  have P:=aEg (w:=w) M.M (ks:=aI m kbs) (V:=fun b=>(upI 0 4).map (rOf vals b)) hk (by exact nle kl) (fun l hl=>by have:=M.keys (w:=w) G l hl;rw[hk] at this;exact this) (fun l hl b hb=>by
   refine Al fun nq=>?_;obtain⟨n,hn,hm,e,en,_⟩:=M.key G hb;have hz:=eB (n:=n) (kw:=m.kw) (by have:=G.kw;exact ige this.1);have hle:cH b=n:=by rw[e,G.k4 hk2];exact dS hn.1 hn.2
   have val:∀p,0<=p->p<4->∃x,aL vals (eS m.k n p)=some x:=fun p h0 h1=>by
    obtain⟨r0,r1⟩:=jD hk2 hn.1 (hm hk2) h0 h1;exact Cv.mp (M.V.full hk2 _ r0 r1)
   have eR:∀p,rOf vals b p=(aL vals (eS m.k n p)).getD []:=fun p=>by unfold rOf eS;rw[en,hk]
   refine nq ?_;refine aOy (off l hl _).M hk (by rw[e];exact hz) (G.k4 hk2) (by rw[hle];exact hm hk2) (fun p h0 h1=>?_) (fun p=>?_)
   ·obtain⟨x,hx⟩:=val p h0 h1;rw[eR,hle,hx];rfl
   ·rw[eR]
    cases q:aL vals (eS m.k n p) with
    |none=>exact Fa _
    |some x=>have h1:=M.V.len _ (bL q);have h2:=G.vw;dsimp only at h1;show x.length<=1000;exact cle (hM h1 h2.2))
  rw[e];have er:(aI m kbs).map (bZ m (vOf m vals kbs) (rOf vals))=(aI m kbs).map fun k=>.tup [.bytes k,.tup (((upI 0 4).map (rOf vals k)).map .bytes)]:=Dk fun b _=>by
   unfold bZ;rw[if_pos (by rw[hk];decide)]
  rw[er];exact P
 ·have e:m.k.parts=290:=by cases e:m.k <;> first|exact absurd e hk|rfl
  rw[e];have er:(aI m kbs).map (bZ m (vOf m vals kbs) (rOf vals))=(aI m kbs).map fun k=>.tup [.bytes k,.bytes (vOf m vals kbs k)]:=Dk fun b _=>by
   unfold bZ;rw[if_neg (by cases e:m.k <;> first|exact absurd e hk|decide)]
  rw[er];exact(aHe (w:=w) M.M (ks:=aI m kbs) (V:=vOf m vals kbs) (by exact nle kl) (fun l hl=>M.keys G l hl) (fun l hl b hb=>(off l hl _).value G hb))
end
noncomputable def free(N:Int)(l:Lbl):Prop:=(1<=l.1/\l.1<=5/\N<=l.2)\/((l.1=6\/l.1=7)/\1000*N<=l.2)
theorem jI{g:Gn}(h1:N<=g.g)(h2:N<=g.h)(h:own g l):free N l:=by
 rcases h with⟨h|h|h,e⟩| ⟨h|h,e⟩| ⟨h,e,_⟩
 ·exact .inl ⟨by exact aTn h,by exact cD h (by decide),by exact yA h1 e.symm⟩
 ·exact .inl ⟨by exact aTm h,by exact cD h (by decide),by exact yA h1 e.symm⟩
 ·exact .inl ⟨by exact aTl h,by exact cD h (by decide),by exact yA h1 e.symm⟩
 ·exact .inl ⟨by exact aTk h,by exact cD h (by decide),by exact yA h2 e.symm⟩
 ·exact .inl ⟨by exact aTj h,by exact cD h (by decide),by exact yA h2 e.symm⟩
 ·exact .inr ⟨h,by omega⟩
theorem lU{g:Gn}(h1:g.g<N)(h2:g.h<N)(h:own g l):¬free N l:=by
 rcases h with⟨_,e⟩| ⟨_,e⟩| ⟨h,e1,e2⟩ <;> rintro(⟨a,b,c⟩| ⟨a,b⟩) <;> omega
theorem aMn{N':Int}(h:N<=N')(f:free N' l):free N l:=by
 rcases f with⟨a,b,c⟩| ⟨a,b⟩
 ·exact .inl ⟨a,b,by exact Ac h c⟩
 ·exact .inr ⟨a,by exact aTi h b⟩
theorem hY(f:free N l):1<=l.1/\l.1<=7:=by
 rcases f with⟨a,b,c⟩| ⟨a|a,b⟩ <;> omega
noncomputable abbrev lX:Lbl:=(15,1)
structure WI(bm:BmX)(xo:Ob)(σ:Sg)(g:Gn)(m:MC)(vals kbs:iX)(p:Pen)(N:Int)(es:List ((Nat×Nat)×Lbl)):Prop where
 W:σ lW=some (.sdict (wkv m g))
 R:σ lR=some (.idict (vals.map fun p=>(p.1,.bytes p.2)))
 S:σ lS=some (.bdict (kbs.map fun p=>(p.2,.int p.1)))
 P:σ lP=some p.ob
 M:Mq σ g m vals kbs
 B:σ lBm=some (aJa bm lBm)/\σ lX=some xo
 T:σ lTa=some (bM lTa 672 es)
 E:PreT σ es
 Tb:σ lTb=some (bM lTb 684 [])
 f16:∀l:Lbl,16<=l.1->σ l=none
 fN:∀l,free N l->σ l=none
 gN:g.g<N/\g.h<N
section
variable{g g' g2:Gn}{m:MC}{vals kbs:iX}{p:Pen}{n:Int}{es:List ((Nat×Nat)×Lbl)}{o:List UInt8}{s pr:Int}
theorem Mq.law(M:Mq σ g m vals kbs)(G:Gd m)(hw:σ lW=some (.sdict (wkv m g)))(hr:σ lR=some (.idict (vals.map fun p=>(p.1,.bytes p.2))))(hs:σ lS=some (.bdict (kbs.map fun p=>(p.2,.int p.1)))):
  FN w 7 (.ref 682) [.ref lW] σ (.bool true) σ:=by
 obtain⟨k0,k1⟩:=G.kw;obtain⟨m0,m1⟩:=G.most;have kl:=M.klen G;have vl:=M.V.count G;have kc:=M.count G;have bl:∀b∈aI m kbs,b.length<=8:=fun b hb=>by
  refine Al fun nq=>?_;obtain⟨n,_,_,e,_⟩:=M.key G hb;have:=eB (n:=n) (kw:=m.kw) (by exact ige k0);rw[<-e] at this;refine nq ?_;exact cle (hM this k1)
 have tl:=xS (w:=w) (V:=vOf m vals kbs) (Rw:=rOf vals) hw hr hs (by exact⟨ige k0,k1⟩) (by exact cle (Ac kc m1)) (by exact⟨ige m0,ile m1⟩) bl (fun b hb=>by
  refine Al fun nq=>?_;obtain⟨n,hn,_,_,en,_⟩:=M.key G hb;refine nq ?_;rw[en];exact⟨hn.1,aWl hn.2⟩) (by exact nle kl) (fun hk b hb q h0 h1=>by
  have hk2:m.k = .row:=by cases e:m.k <;> rw[e] at hk <;> first|rfl|exact absurd hk (by decide)
  have hk3:m.k≠.hsh:=by rw[hk2];exact fun h=>nomatch h
  refine Al fun nq=>?_;obtain⟨n,hn,hm,_,en,_⟩:=M.key G hb;obtain⟨r0,r1⟩:=jD hk3 hn.1 (hm hk3) h0 h1;obtain⟨x,hx⟩:=Cv.mp (M.V.full hk3 _ r0 r1);have e:eS m.k n q=n*4+q:=by rw[hk2];rfl
  rw[e] at hx;refine nq ?_;unfold rOf;rw[en,hx];rfl) (fun _ b hb=>by
  obtain⟨n,_,_,_,en,s,x,h1,h2,h3⟩:=M.key G hb;exact⟨s,by rw[en];exact h1,by rw[h3];exact h2⟩)
 refine aJy (V:=vOf m vals kbs) M.M hw hr hs (by exact⟨ige k0,k1⟩) (by exact cle (Ac kc m1)) (by exact⟨ige m0,ile m1⟩) bl (by exact nle kl) (by exact nle vl) (fun p hp=>by have h1:=M.V.len p hp;have h2:=G.vw;exact cle (hM h1 h2.2)) (M.told G) tl ?_ (fun τ ht b hb=>?_) fun b hb=>?_
 ·refine .tup 3 _ (.cons (.str _ _) (.cons (.int _ _) (.cons (.int _ _) (.cons (.int _ _) (.cons (.int _ _) (.cons (.tup 2 _ (DtAll.of fun x hx=>?_)) (.nil _)))))));obtain⟨b,_,rfl⟩:=Aq.mp hx;unfold bZ;refine .tup 1 _ (.cons (.bytes _ _) (.cons ?_ (.nil _)))
  split
  ·exact .tup 0 _ lY
  ·exact .bytes _ _
 ·exact(M.frame fun l hl=>ht l fun e=>by rcases hl with⟨h|h|h,_⟩| ⟨h|h,_⟩| ⟨h|h,_⟩ <;> rw[e] at h <;> cases h).value G hb
 ·obtain⟨n,_,_,_,en,s,x,h1,h2,h3⟩:=M.key G hb;exact⟨s,by rw[en];exact h1,by rw[h3];exact h2⟩
theorem Mq.off(M:Mq σ g m vals kbs)(h:Off0 τ σ):Mq τ g m vals kbs:=M.frame fun l hl=>h l fun e=>by rcases hl with⟨h|h|h,_⟩| ⟨h|h,_⟩| ⟨h|h,_⟩ <;> rw[e] at h <;> cases h
theorem Mq.walk(M:Mq σ g m vals kbs)(G:Gd m)(hw:σ lW=some (.sdict (wkv m g)))(hs:σ lS=some (.bdict (kbs.map fun p=>(p.2,.int p.1))))(hn:0<=n/\n<8):FN w 5 (.ref 663) [.ref lW,.int n] σ (.bool true) σ:=by
 refine Al fun nq=>?_;obtain⟨k0,k1⟩:=G.kw;obtain⟨m0,m1⟩:=G.most;have kc:=M.count G;refine nq ?_;by_cases hk:m.k = .hsh
 ·obtain⟨bks,MM,HH⟩:=M.H hk;have T:∀i,i<=(order kbs bks).length->hnext kbs bks ((order kbs bks).take i).getLast? =(order kbs bks)[i]?:=fun i hi=>HH.next (by unfold order at hi;rwa[Ag] at hi);have pl:=HH.perm.length_eq;rw[Ag] at pl;refine aCb (nx:=hnext kbs bks) (ks:=order kbs bks) M.M hw hs (by exact⟨ige k0,k1⟩) (by exact cle (Ac kc m1)) (by exact⟨m0,ile m1⟩) (fun τ ht kk hkk=>?_) (fun τ ht l hl=>(M.off ht).keys G l hl) ?_ (by exact aTh kc pl) (fun b hb=>?_) (aCa T) (wY T) fun h=>?_
  ·rw[hk];refine aHz (MM.frame (σ':=τ) fun l hl=>ht l fun e=>by rcases hl with⟨h|h|h,_⟩| ⟨h|h,_⟩| ⟨h|h,_⟩ <;> rw[e] at h <;> cases h) hkk (by exact ile k1) (fun l hl s hs=>?_) (fun l hl=>by have:=HH.blen hl;exact aTg m0 m1 kc pl this) (by rw[HH.len_flat];exact cle (Ac kc m1))
   obtain⟨i,hi⟩:=Fd.mp hl;obtain⟨k,h1,_⟩:=HH.inb i l hi s hs;exact⟨k,h1⟩
  ·unfold aI;rw[hk];exact sY HH.perm
  ·obtain⟨q,hq,rfl⟩:=Aq.mp (HH.perm.mem_iff.mp hb);obtain⟨n',_,e⟩:=HH.key q hq;rw[e];exact eB (by exact ige k0)
  ·rw[iG hk] at h;exact HH.next_un h
 ·have T:=aOq G hk;refine aCb (nx:=oP m) (ks:=(upI 0 m.most).map fun i=>bG i m.kw) M.M hw hs (by exact⟨ige k0,k1⟩) (by exact cle (Ac kc m1)) (by exact⟨m0,ile m1⟩) (fun τ ht kk hkk=>?_) (fun τ ht l hl=>(M.off ht).keys G l hl) (mM G hk).2 (by rw[Ag,aU];exact aTf m0 m1) (fun b hb=>?_) (aCa T) (wY T) fun h=>aJt G hk hn h
  ·have e:m.k.next_key=381:=by cases e:m.k <;> first|exact absurd e hk|rfl
   rw[e];exact aJx (M.off ht).M hk hkk (G.k4 hk)
  ·obtain⟨q,hq,rfl⟩:=Aq.mp hb;exact eB (by exact ige k0)
end
section
variable{bm:BmX}{xo:Ob}{g g' g2:Gn}{m:MC}{vals vals' kbs kbs':iX}{p p':Pen}{N' n:Int}{es:List ((Nat×Nat)×Lbl)}{o x:List UInt8}{s pr:Int}
theorem gQ(h:own g l)(h':8<=l'.1):l≠l':=fun e=>by have:=qC h;rw[e] at this;exact absurd (Bf h' this) (by decide)
theorem WI.next(I:WI bm xo σ g m vals kbs p N es)(W:σ' lW=some (.sdict (wkv m g')))(R:σ' lR=some (.idict (vals'.map fun p=>(p.1,.bytes p.2))))(S:σ' lS=some (.bdict (kbs'.map fun p=>(p.2,.int p.1))))(P:σ' lP=some p'.ob)(M:Mq σ' g' m vals' kbs')
  (off:∀l:Lbl,12<=l.1->σ' l=σ l)(fN:∀l,free N' l->σ' l=none)(gN:g'.g<N'/\g'.h<N'):WI bm xo σ' g' m vals' kbs' p' N' es:=
 ⟨W,R,S,P,M,⟨(off _ (by decide)).trans I.B.1,(off _ (by decide)).trans I.B.2⟩,(off _ (by decide)).trans I.T,I.E.imp (fun h=>⟨h.1,fun i h0 h1=>(off _ (by show 12<=12;decide)).trans (h.2 i h0 h1)⟩) (fun h=>⟨h.1,fun i h0 h1=>(off _ (by show 12<=12;decide)).trans (h.2 i h0 h1)⟩),
  (off _ (by decide)).trans I.Tb,fun l hl=>(off l (by exact nge hl)).trans (I.f16 l hl),fN,gN⟩
theorem Mq.pen(M:Mq σ g m vals kbs){o:Ob}(h:8<=l.1):Mq (Mine.upd σ l o) g m vals kbs:=M.frame fun _ hx=>upd_ne (gQ hx h)
theorem Mq.poke(M:Mq σ g m vals kbs)(hx:aL vals s=some x)(ho:(o.length:Int)=m.vw):Mq (Mine.upd σ (lo g s) (.ba o)) g m (vput vals s o) kbs:=by
 have hs:(aL vals s).isSome=true:=by rw[hx];rfl
 have hr:=M.V.rg _ (bL hx);refine⟨M.M.old hs,fun hk=>?_,M.V.put hr.1 hr.2 ho,M.A,fun hk t h0 h1 ht=>?_⟩
 ·obtain⟨bks,h1,h2⟩:=M.H hk;exact⟨bks,h1.old hs,h2.vals'⟩
 ·have ne:=qB ht;rw[iZ,if_neg ne] at ht;exact(upd_ne (jE ne)).trans (M.F hk t h0 h1 ht)
theorem Mq.room(M:Mq σ g m vals kbs)(G:Gd m)(h:(kbs.length:Int)≠m.most):∃s,fW m.most kbs=some s:=by
 have hm:=G.most
 cases e:fW m.most kbs with
 |some s=>exact⟨s,rfl⟩
 |none=>
  by_cases hk:m.k = .hsh
  ·obtain⟨bks,_,HH⟩:=M.H hk;exact absurd ((HH.room (by exact ige hm.1)).1.mpr e) h
  ·rw[M.A hk] at e;exact absurd rfl (Dm.mp e 0 (bJ.mpr (by exact⟨by decide,aHx hm.1⟩)))
theorem pR{q:Pen}(h:0<=n):((eJ n q).length:Int)=n:=by
 unfold eJ;rw[Ag,kJ];exact aOw h
theorem aVx(q:Pen):∃fl:Int,0<=fl/\[Sh.int 0,.int 0,.int 1,.int 2,.int 3][(q.digit 5).toNat]? = some (.int fl):=by
 have:q.digit 5=0\/q.digit 5=1\/q.digit 5=2\/q.digit 5=3\/q.digit 5=4:=by exact aTd (aR (p:=q) (many:=5) (by decide))
 rcases this with e|e|e|e|e <;> rw[e] <;> exact⟨_,by decide,rfl⟩
theorem step(I:WI bm xo σ g m vals kbs p N es)(G:Gd m)(hpk:Pk p n)(hn:n<=40000):
  ∃σ' g' vals' kbs' p' N' es',FN w 10 (.ref 677) [.ref lP,.ref lW] σ (.bool true) σ'/\WI bm xo σ' g' m vals' kbs' p' N' es'/\Pk p' (n+20):=by
 refine Al fun nq=>?_;obtain⟨k0,k1⟩:=G.kw;obtain⟨v0,v1⟩:=G.vw;obtain⟨m0,m1⟩:=G.most;have vl:=I.M.V.count G;have kc:=I.M.count G;have P0:=hpk.le (n':=40000) hn;have pk3:Pk (aO m p) (n+3):=by have:=(hpk.next (many:=9)).next (many:=m.most+3) |>.next (many:=4);exact this.le (by exact aTc)
 have rn:=aR (p:=p.next 9) (many:=m.most+3) (by exact aHx (Ac m0 of0));have rp:=aR (p:=(p.next 9).next (m.most+3)) (many:=4) (by decide);have hnD:0<=nD m p/\nD m p<8:=⟨rn.1,Am rn.2 (by exact aTb m0 m1)⟩;have g0:∀l,own g l->¬free N l:=fun l=>lU I.gN.1 I.gN.2;have fp:∀o l,free N l->Mine.upd σ lP o l=none:=fun o l f=>upd_none (fun e=>by have:=(hY f).2;rw[e] at this;exact absurd this (by decide)) (I.fN l f);have ng:∀l:Lbl,8<=l.1->¬own g l:=fun l hl h=>gQ h hl rfl;have nf:∀l,free N l->¬own g l:=fun l f h=>g0 l h f;have nl:∀l l',free N l->8<=l'.1->l≠l':=fun l l' f h e=>by have:=(hY f).2;rw[e] at this;exact absurd (Ar h this) (by decide)
 have DD:∀{a b:Lbl} {o o':Ob} {τ:Sg},Dom τ (upd (upd τ a o) b o'):=Dom.upd.trans Dom.upd;have hd:p.digit 9<4\/p.digit 9=4\/p.digit 9=5\/p.digit 9=6\/p.digit 9=7\/p.digit 9=8:=by exact aTa (aR (p:=p) (many:=9) (by decide))
 refine nq ?_;rcases hd with hd|hd|hd|hd|hd|hd
 ·refine Al fun nq=>?_;obtain⟨fl,f0,hfl⟩:=aVx (gW m.vw.toNat (aO m p));have lw:((eJ m.vw (aO m p)).length:Int)=m.vw:=pR (by exact ige v0);obtain⟨σ4,S1,M4,O4⟩:=(I.M.pen (l:=lP) (o:=(xL m p).ob) (by decide)).upd (w:=w) G hnD rp f0 lw;have a4:∀l:Lbl,8<=l.1->l≠lP->σ4 l=σ l:=fun l hl h=>(O4 l (ng l hl)).trans (upd_ne h);have S2:=qQ (w:=w) (σ:=σ4) (m:=m) (g:=g) (vals:=vals) (kbs:=kbs) (n:=nD m p) (flags:=fl) (p:=prD m p) (o:=eJ m.vw (aO m p)) ((a4 lW (by decide) (by decide)).trans I.W) ((a4 lR (by decide) (by decide)).trans I.R) ((a4 lS (by decide) (by decide)).trans I.S) (by exact⟨ige k0,k1⟩) (by exact cle (Ac kc m1)) (by exact nle vl) (by exact⟨ige m0,ile m1⟩) (I.M.room G);refine nq ?_;refine⟨_,g,(fQ m vals kbs (nD m p) (eJ m.vw (aO m p)) fl (prD m p)).2.1,(fQ m vals kbs (nD m p) (eJ m.vw (aO m p)) fl (prD m p)).2.2,xL m p,N,es,iM (b:=true) I.M.MH I.W I.R I.P ⟨m0,m1⟩ ⟨k0,k1⟩ ⟨v0,v1⟩ G.k4 (by exact nle vl) P0 (Dom.upd.trans (S1.dom.trans S2.dom))
   (.m0 hd ⟨fl,_,_,σ4,hfl,S1,S2.up (by decide),beq_self_eq_true _⟩),?_,?_⟩
  ·refine I.next (g':=g) ((upd_ne (by decide)).trans ((upd_ne (by decide)).trans ((a4 lW (by decide) (by decide)).trans I.W))) aC ((upd_ne (by decide)).trans aC) ((upd_ne (by decide)).trans ((upd_ne (by decide)).trans ((O4 lP (ng lP (by decide))).trans aC)))
    (M4.frame fun l hl=>(upd_ne (gQ hl (by decide))).trans (upd_ne (gQ hl (by decide)))) (fun l hl=>?_) (fun l f=>?_) I.gN
   ·exact(upd_ne fun e=>by rw[e] at hl;exact absurd hl (by decide)).trans ((upd_ne fun e=>by rw[e] at hl;exact absurd hl (by decide)).trans (a4 l (by exact nge hl) fun e=>by rw[e] at hl;exact absurd hl (by decide)))
   ·exact(upd_ne (nl l _ f (by decide))).trans ((upd_ne (nl l _ f (by decide))).trans ((O4 l (nf l f)).trans (fp _ l f)))
  ·have:=(pk3.many (k:=m.vw.toNat)).next (many:=5);exact this.le (by exact aSz v0 v1 lw)
 ·obtain⟨σ4,S1,M4,O4⟩:=(I.M.pen (l:=lP) (o:=(aO m p).ob) (by decide)).del (w:=w) G hnD;have a4:∀l:Lbl,8<=l.1->l≠lP->σ4 l=σ l:=fun l hl h=>(O4 l (ng l hl)).trans (upd_ne h);have S2:=qR (w:=w) (σ:=σ4) (m:=m) (g:=g) (kbs:=kbs) (n:=nD m p) ((a4 lW (by decide) (by decide)).trans I.W) ((a4 lS (by decide) (by decide)).trans I.S) (by exact⟨ige k0,k1⟩) (by exact cle (Ac kc m1));refine⟨_,g,vals,(oS m kbs (nD m p)).2,aO m p,N,es,iM (b:=true) I.M.MH I.W I.R I.P ⟨m0,m1⟩ ⟨k0,k1⟩ ⟨v0,v1⟩ G.k4 (by exact nle vl) P0 (Dom.upd.trans (S1.dom.trans S2.dom))
   (.m4 hd ⟨_,_,σ4,S1,S2.up (by decide),beq_self_eq_true _⟩),?_,pk3.le (by exact of2)⟩
  refine I.next (g':=g) ((upd_ne (by decide)).trans ((a4 lW (by decide) (by decide)).trans I.W)) ((upd_ne (by decide)).trans ((a4 lR (by decide) (by decide)).trans I.R)) aC ((upd_ne (by decide)).trans ((O4 lP (ng lP (by decide))).trans aC))
   (M4.frame fun l hl=>upd_ne (gQ hl (by decide))) (fun l hl=>?_) (fun l f=>?_) I.gN
  ·exact(upd_ne fun e=>by rw[e] at hl;exact absurd hl (by decide)).trans (a4 l (by exact nge hl) fun e=>by rw[e] at hl;exact absurd hl (by decide))
  ·exact(upd_ne (nl l _ f (by decide))).trans ((O4 l (nf l f)).trans (fp _ l f))
 ·have M3:=I.M.pen (l:=lP) (o:=(aO m p).ob) (by decide);have L1:=M3.look (w:=w) G hnD rp;have L2:=vA (w:=w) M3.M L1;have L3:=eW (w:=w) (σ:=upd σ lP (aO m p).ob) (m:=m) (g:=g) (kbs:=kbs) (n:=nD m p) (p:=prD m p) ((upd_ne (by decide)).trans I.W) ((upd_ne (by decide)).trans I.S) (by exact⟨ige k0,k1⟩)
  cases e:cZ m kbs (nD m p) (prD m p) with
  |none=>
   refine⟨_,g,vals,kbs,aO m p,N,es,iM (b:=true) I.M.MH I.W I.R I.P ⟨m0,m1⟩ ⟨k0,k1⟩ ⟨v0,v1⟩ G.k4 (by exact nle vl) P0 (Dom.upd (l:=lP) (o:=(aO m p).ob))
    (.m5 hd ⟨rfl,_,L1.up (by decide),L2.up (by decide),L3.up (by decide),fun _=>rfl,fun s hs=>by rw[e] at hs;cases hs⟩),?_,pk3.le (by exact of2)⟩
   exact I.next (g':=g) ((upd_ne (by decide)).trans I.W) ((upd_ne (by decide)).trans I.R) ((upd_ne (by decide)).trans I.S) aC M3 (fun l hl=>upd_ne fun e=>by rw[e] at hl;exact absurd hl (by decide)) (fun l f=>fp _ l f) I.gN
  |some s=>
   obtain⟨x,hx⟩:=I.M.slot hnD.1 rp e;have lx:=I.M.V.len _ (bL hx);have lw:((wrt m p x).length:Int)=m.vw:=by unfold wrt;rw[Gf];exact lx
   have M5:=(I.M.pen (l:=lP) (o:=(kO m p).ob) (by decide)).poke hx lw;refine⟨_,g,vput vals s (wrt m p x),kbs,kO m p,N,es,iM (b:=true) I.M.MH I.W I.R I.P ⟨m0,m1⟩ ⟨k0,k1⟩ ⟨v0,v1⟩ G.k4 (by exact nle vl) P0 ((Dom.upd (l:=lP) (o:=(kO m p).ob)).trans ((Dom.upd (l:=lo g s) (o:=.ba (wrt m p x))).trans (Dom.upd (l:=lR) (o:=.idict ((vput vals s (wrt m p x)).map fun p=>(p.1,.bytes p.2))))))
    (.m5 hd ⟨rfl,_,L1.up (by decide),L2.up (by decide),L3.up (by decide),fun h=>(by rw[e] at h;cases h),fun s' hs=>?_⟩),?_,?_⟩
   ·rw[e] at hs;cases hs;exact⟨x,hx,lx,rfl⟩
   ·have nh:∀l:Lbl,8<=l.1->l≠lo g s:=fun l hl e=>by rw[e] at hl;exact absurd hl (by show¬8<=7;decide)
    refine I.next (g':=g) ((upd_ne (by decide)).trans ((upd_ne (nh lW (by decide))).trans ((upd_ne (by decide)).trans I.W))) aC ((upd_ne (by decide)).trans ((upd_ne (nh lS (by decide))).trans ((upd_ne (by decide)).trans I.S))) ((upd_ne (by decide)).trans ((upd_ne (nh lP (by decide))).trans aC)) (M5.pen (by decide)) (fun l hl=>?_) (fun l f=>?_) I.gN
    ·exact(upd_ne fun e=>by rw[e] at hl;exact absurd hl (by decide)).trans ((upd_ne (nh l (by exact nge hl))).trans (upd_ne fun e=>by rw[e] at hl;exact absurd hl (by decide)))
    ·have hr:=I.M.V.rg _ (bL hx);dsimp only at hr;refine(upd_ne (nl l _ f (by decide))).trans ((upd_ne fun e=>nf l f ?_).trans (fp _ l f));rw[e];exact eU (by exact⟨hr.1,ilt (Am hr.2 (G.slots))⟩)
   ·have:=(pk3.next (many:=256)).next (many:=m.vw);exact this.le (by exact aOu)
 ·have F3:Fresh3 (upd σ lP (aO m p).ob) g ⟨N,N⟩ ⟨N,N+1⟩:=⟨rfl,fun h=>by have h:N+1=N:=h;exact absurd h (bO of1),fun l h=>fp _ l (jI (Az _) (Az _) h),fun l h=>fp _ l (jI (Az _) (by show N<=N+1;exact of0) h),fun l h h'=>g0 l h (jI (Az _) (Az _) h'),fun l h h'=>g0 l h (jI (Az _) (by show N<=N+1;exact of0) h')⟩;have M3:=I.M.pen (l:=lP) (o:=(aO m p).ob) (by decide);refine Al fun nq=>?_;obtain⟨τ4,C,M4,O4⟩:=M3.copy (w:=w) G F3;have Mo:Mq τ4 g m vals kbs:=M3.frame fun l hl=>O4 l (F3.d1 l hl) (F3.d2 l hl);have h4:∀l:Lbl,8<=l.1->τ4 l=upd σ lP (aO m p).ob l:=fun l hl=>O4 l (fun h=>gQ h hl rfl) (fun h=>gQ h hl rfl);have lw:((eJ m.vw (aO m p)).length:Int)=m.vw:=pR (by exact ige v0);obtain⟨τ5,U,M5,O5⟩:=((Mo.pen (l:=lW) (o:=.sdict (wkv m ⟨N,N+1⟩)) (by decide)).pen (l:=lP) (o:=(gW m.vw.toNat (aO m p)).ob) (by decide)).upd (w:=w) (o:=eJ m.vw (aO m p)) (flags:=0) G hnD rp (by decide) lw;obtain⟨τ6,D,M6,O6⟩:=M5.del (w:=w) G hnD;have h6:∀l:Lbl,¬own g l->τ6 l=upd (upd τ4 lW (.sdict (wkv m ⟨N,N+1⟩))) lP (gW m.vw.toNat (aO m p)).ob l:=fun l h=>(O6 l h).trans (O5 l h);refine nq ?_;refine⟨τ6,⟨N,N+1⟩,vals,kbs,gW m.vw.toNat (aO m p),N+2,es,iM (b:=true) I.M.MH I.W I.R I.P ⟨m0,m1⟩ ⟨k0,k1⟩ ⟨v0,v1⟩ G.k4 (by exact nle vl) P0 (Dom.upd.trans (C.dom.trans (DD.trans (U.dom.trans D.dom))))
   (.m6 hd ⟨rfl,⟨N,N+1⟩,τ4,τ5,_,_,C,(h4 lW (by decide)).trans ((upd_ne (by decide)).trans I.W),(h4 lP (by decide)).trans aC,Mo.MH,U,M5.M.hi,M5.M.hd,D⟩),?_,?_⟩
  ·have h7:∀l:Lbl,8<=l.1->l≠lW->l≠lP->τ6 l=σ l:=fun l hl h1 h2=>(h6 l (ng l hl)).trans ((upd_ne h2).trans ((upd_ne h1).trans ((h4 l hl).trans (upd_ne h2))));refine I.next ((h6 lW (ng lW (by decide))).trans ((upd_ne (by decide)).trans aC)) ((h7 lR (by decide) (by decide) (by decide)).trans I.R) ((h7 lS (by decide) (by decide) (by decide)).trans I.S) ((h6 lP (ng lP (by decide))).trans aC)
    (M4.frame fun l hl=>(h6 l ((fun l h h'=>F3.d2 l h' h:∀l,own (⟨N,N+1⟩:Gn) l->¬own g l) l hl)).trans ((upd_ne (gQ hl (by decide))).trans (upd_ne (gQ hl (by decide))))) (fun l hl=>h7 l (by exact nge hl) (fun e=>by rw[e] at hl;exact absurd hl (by decide)) fun e=>by rw[e] at hl;exact absurd hl (by decide)) (fun l f=>?_) ⟨by show N<N+2;exact of1,by show N+1<N+2;exact of3⟩
   have f0:=aMn (show N<=N+2 by exact of0) f;have a1:¬own (⟨N,N⟩:Gn) l:=fun h=>lU (N:=N+2) (by show N<N+2;exact of1) (by show N<N+2;exact of1) h f;have a2:¬own (⟨N,N+1⟩:Gn) l:=fun h=>lU (N:=N+2) (by show N<N+2;exact of1) (by show N+1<N+2;exact of3) h f;exact(h6 l (nf l f0)).trans ((upd_ne (nl l _ f0 (by decide))).trans ((upd_ne (nl l _ f0 (by decide))).trans ((O4 l a1 a2).trans (fp _ l f0))))
  ·exact(pk3.many (k:=m.vw.toNat)).le (by exact aSr v0 v1 lw)
 ·have nE:∀e∈es,σ e.2≠none:=fun e he=>by
   rcases I.E with⟨rfl,_⟩| ⟨rfl,h⟩
   ·cases he
   ·simp only[aDy,An,Kb,or_false] at he;rcases he with rfl|rfl|rfl|rfl <;> rw[h _ (by decide) (by decide)] <;> exact fun z=>by cases z
  refine⟨_,g,vals,kbs,lJ m p,N,aDy,iM (b:=true) I.M.MH I.W I.R I.P ⟨m0,m1⟩ ⟨k0,k1⟩ ⟨v0,v1⟩ G.k4 (by exact nle vl) P0 (Dom.upd.trans (DD.trans (DD.trans (DD.trans DD))))
   (.m7 hd ⟨rfl,es,(I.E.imp (fun h=>⟨h.1,fun i h0 h1=>(upd_ne (aA rfl)).trans (h.2 i h0 h1)⟩) (fun h=>⟨h.1,fun i h0 h1=>(upd_ne (aA rfl)).trans (h.2 i h0 h1)⟩):PreT (upd σ lP (lJ m p).ob) es),⟨bm,I.B.1⟩,I.T,nE,rfl⟩),?_,?_⟩
  ·have far:∀l:Lbl,l.1≠12->l.1≠14->l≠lP->upd (upd (upd (upd (upd (upd (upd (upd (upd σ lP (lJ m p).ob) (lCd 0) (aZ ql7)) lTa (bM lTa 672 (ins es (484,0) (lCd 0)))) (lCd 1) (aZ ql7)) lTa (bM lTa 672 (ins (ins es (484,0) (lCd 0)) (485,0) (lCd 1)))) (lCd 2) (aZ ql7)) lTa (bM lTa 672 (ins (ins (ins es (484,0) (lCd 0)) (485,0) (lCd 1)) (488,0) (lCd 2)))) (lCd 3) (aZ ql7)) lTa (bM lTa 672 aDy) l=σ l:=fun l h1 h2 h3=>by
    have a:∀i,l≠lCd i:=fun i e=>h1 (by rw[e]);have b:l≠lTa:=fun e=>h2 (by rw[e]);rw[upd_ne b,upd_ne (a 3),upd_ne b,upd_ne (a 2),upd_ne b,upd_ne (a 1),upd_ne b,upd_ne (a 0),upd_ne h3]
   refine⟨(far lW (by decide) (by decide) (by decide)).trans I.W,(far lR (by decide) (by decide) (by decide)).trans I.R,(far lS (by decide) (by decide) (by decide)).trans I.S,rfl,I.M.frame fun l hl=>far l (fun e=>by have:=qC hl;exact aSp e this) (fun e=>by have:=qC hl;exact aSo e this) (gQ hl (by decide)),
    ⟨(far lBm (by decide) (by decide) (by decide)).trans I.B.1,(far lX (by decide) (by decide) (by decide)).trans I.B.2⟩,aC,.inr ⟨rfl,fun i h0 h1=>?_⟩,(far lTb (by decide) (by decide) (by decide)).trans I.Tb,fun l hl=>(far l (by exact aHi (aHk hl)) (by exact aHi (aHk hl)) fun e=>by rw[e] at hl;exact absurd hl (by decide)).trans (I.f16 l hl),fun l f=>(far l (fun e=>by have:=(hY f).2;exact aSn e this) (fun e=>by have:=(hY f).2;exact aSm e this) (nl l _ f (by decide))).trans (I.fN l f),I.gN⟩
   have:i=0\/i=1\/i=2\/i=3:=by exact aQy h0 h1
   rcases this with rfl|rfl|rfl|rfl <;> rfl
  ·have:=(pk3.next (many:=2)).next (many:=2);exact this.le (by exact aOu)
 ·have W3:upd σ lP (aO m p).ob lW=some (.sdict (wkv m g)):=(upd_ne (by decide)).trans I.W;have M3:=I.M.pen (l:=lP) (o:=(aO m p).ob) (by decide);have wk:=M3.walk (w:=w) G W3 ((upd_ne (by decide)).trans I.S) hnD;have pl:=aEi (w:=w) (p:=aO m p) M3.M W3 ((upd_ne (by decide)).trans I.R) aC pk3.lo (Ac pk3.hi (by exact aSk hn)) (by exact⟨v0,ile v1⟩) (by exact⟨m0,ile m1⟩);refine⟨_,g,vals,kbs,((aO m p).next (m.most*4+2)).next (bF m.vw),N,es,iM (b:=true) I.M.MH I.W I.R I.P ⟨m0,m1⟩ ⟨k0,k1⟩ ⟨v0,v1⟩ G.k4 (by exact nle vl) P0 DD
   (.m8 hd ⟨rfl,_,wk.up (by decide),pl.up (by decide)⟩),?_,(pk3.next.next (many:=bF m.vw)).le (by exact aOu)⟩
  exact I.next (g':=g) ((upd_ne (by decide)).trans W3) ((upd_ne (by decide)).trans ((upd_ne (by decide)).trans I.R)) ((upd_ne (by decide)).trans ((upd_ne (by decide)).trans I.S)) aC (M3.pen (by decide)) (fun l hl=>(upd_ne fun e=>by rw[e] at hl;exact absurd hl (by decide)).trans (upd_ne fun e=>by rw[e] at hl;exact absurd hl (by decide))) (fun l f=>(upd_ne (nl l _ f (by decide))).trans (fp _ l f)) I.gN
end
section
variable{bm:BmX}{xo:Ob}{g:Gn}{m:MC}{vals kbs:iX}{p:Pen}{n:Int}{es:List ((Nat×Nat)×Lbl)}
theorem aIt(G:Gd m):∀(k:Nat) {σ:Sg} {g:Gn} {vals kbs:iX} {p:Pen} {N n:Int} {es:List ((Nat×Nat)×Lbl)},WI bm xo σ g m vals kbs p N es->Pk p n->n+20*k<=40000->∃σ' g' vals' kbs' p' N' es',Deeds w k σ σ'/\WI bm xo σ' g' m vals' kbs' p' N' es'/\Pk p' (n+20*k)
  :=fun k=>by
 induction k with
 |zero=>exact fun I hpk _=>⟨_,_,_,_,_,_,_,.nil _,I,hpk.le (by exact aSy)⟩
 |succ k ih=>
  intro σ g vals kbs p N n es I hpk h;refine Al fun nq=>?_;obtain⟨σ1,g1,v1,k1,p1,N1,es1,F,I1,h1⟩:=step (w:=w) I G hpk (by exact aSx h);obtain⟨σ2,g2,v2,k2,p2,N2,es2,D,I2,h2⟩:=ih I1 h1 (by exact aSw h);refine nq ?_;exact⟨σ2,g2,v2,k2,p2,N2,es2,.cons F (I1.M.law G I1.W I1.R I1.S) D,I2,h2.le (by exact aSv)⟩
theorem aRx(p:Pen):Gd (mW p):=by
 have r3:=aR (p:=((p.next 3).next 5).next 10) (many:=3) (by decide);refine⟨?_,fun h=>?_,?_,?_,(aR (p:=(p.next 3).next 5) (many:=10) (by decide))⟩
 ·show 1<=(if p.digit 3=0 then _ else _)/\(if p.digit 3=0 then _ else _)<=4
  split <;> omega
 ·show(if p.digit 3=0 then _ else(4:Int))=4
  rw[if_neg fun e=>h (by show kOf (p.digit 3) = .hsh;unfold kOf;rw[if_pos e])]
 ·show 1<=1+_/\1+_<=12;exact aSu (aR (p:=(((p.next 3).next 5).next 10).next 3) (many:=12) (by decide))
 ·show 1<=1+_/\1+_<=5;exact aSt (aR (p:=p.next 3) (many:=5) (by decide))
theorem aKb(G:Gd m):VL m (dX m):=by
 by_cases hk:m.k = .hsh
 ·rw[lF hk];exact⟨Ia,fun p hp=>(by cases hp),fun p hp=>(by cases hp),fun h=>absurd hk h⟩
 ·rw[pD hk];have ek:(gV m).map (·.1)=upI 0 (m.most*m.k.procs):=by unfold gV;rw[Bq];exact List.map_id _
  have nd:((gV m).map (·.1)).Nodup:=by rw[ek];exact mV _ _
  refine⟨nd,fun p hp=>?_,fun p hp=>?_,fun _ s h0 h1=>?_⟩
  ·exact bJ.mp (ek▸Fs hp)
  ·obtain⟨s,_,rfl⟩:=Aq.mp hp;have:=G.vw;show((Ap m.vw.toNat (0:UInt8)).length:Int)=m.vw;rw[Ek];exact aSs this
  ·rw[bP nd (Aq.mpr ⟨s,bJ.mpr ⟨h0,h1⟩,rfl⟩)];rfl
theorem aKl:HK m [] [] (Ap (bQ m.most).toNat []):=by
 have h:=mF m.most;have nil:∀l∈Ap (bQ m.most).toNat ([]:List Int),l=[]:=fun l hl=>List.eq_of_mem_replicate hl;refine⟨Ia,Ia,fun p hp=>(by cases hp),fun p hp=>(by cases hp),fun p hp=>(by cases hp),by rw[Ek];exact aSq h,fun i l hl s hs=>?_,fun s k h=>(by cases h),fun l hl=>?_⟩
 ·rw[nil l (Bd hl)] at hs;cases hs
 ·rw[nil l hl];exact Ia
theorem aMb{ns:List Int}{us:List Value}(hu:Nw us ns)(hz:ns.length<=63)(hl:σ lX=some (rawL us))(hB:σ lBm=some (aJa bm lBm))(hT:σ lTa=some (bM lTa 672 []))(hTb:σ lTb=some (bM lTb 684 []))
  (hf:∀l,l≠lX->l≠lBm->l≠lTa->l≠lTb->σ l=none):∃σ' es es',FN w 14 (.ref 696) [.ref lX] σ (.bool true) σ'/\σ' lX=some (rawL us)/\σ' lBm=some (aJa bm lBm)/\σ' lTa=some (bM lTa 672 es)/\σ' lTb=some (bM lTb 684 es'):=by
 have h0:∀l:Lbl,l.1≠13->l.1≠14->l.1≠15->l≠lP->upd σ lP (iT ns).ob l=none:=fun l b c d e=>upd_none e (hf l (fun q=>d (by rw[q])) (fun q=>b (by rw[q])) (fun q=>c (by rw[q])) fun q=>d (by rw[q]));refine Al fun nq=>?_;obtain⟨σ2,F2,hW,hP,hR,hS,M,MH,O,Z⟩:=aGq (w:=w) (σ:=upd σ lP (iT ns).ob) (g:=⟨0,0⟩) (p:=iT ns) aC (Az _) (by show(0:Int)<=50000;decide) fun l a b=>h0 l (by exact qH (sR b)) (by exact qH (sR b)) (by exact qH (sR b)) fun e=>by rw[e] at b;exact absurd b (by decide)
 have G:=aRx (iT ns);have Pw:Pk (oV (iT ns)) 5:=(((((⟨Az _,Az _⟩:Pk (iT ns) 0).next).next).next).next).next;have far:∀l:Lbl,11<l.1->σ2 l=σ l:=fun l h=>(O l (fun e=>by rw[e] at h;exact absurd h (by decide)) (fun e=>by rw[e] at h;exact absurd h (by decide)) (fun e=>by rw[e] at h;exact absurd h (by decide)) (fun e=>by rw[e] at h;exact absurd h (by decide)) fun q=>by have:=qC q;exact absurd (Ee h this) (by decide)).trans (upd_ne fun e=>by rw[e] at h;exact absurd h (by decide));have I:WI bm (rawL us) σ2 ⟨0,0⟩ (mW (iT ns)) (dX (mW (iT ns))) [] (oV (iT ns)) 1 []:=by
  refine⟨hW,hR,hS,hP,⟨M,fun hk=>⟨Ap (bQ (mW (iT ns)).most).toNat [],?_,?_⟩,aKb G,fun _=>rfl,fun hk t h0 h1 _=>Z hk t h0 h1⟩,⟨(far lBm (by decide)).trans hB,(far lX (by decide)).trans hl⟩,(far lTa (by decide)).trans hT,.inl ⟨rfl,fun i _ _=>?_⟩,(far lTb (by decide)).trans hTb,fun l hl=>?_,fun l f=>?_,by decide,by decide⟩
  ·rw[lF hk];exact MH hk
  ·rw[lF hk];exact aKl
  ·exact(far _ (by show 11<12;decide)).trans (hf _ (aA rfl) (aA rfl) (aA rfl) (aA rfl))
  ·exact(far l (by exact aHk hl)).trans (hf l (fun e=>by rw[e] at hl;exact absurd hl (by decide)) (fun e=>by rw[e] at hl;exact absurd hl (by decide)) (fun e=>by rw[e] at hl;exact absurd hl (by decide)) fun e=>by rw[e] at hl;exact absurd hl (by decide))
  ·have h1:=hY f;have ne:∀l':Lbl,8<=l'.1->l≠l':=fun l' h e=>by rw[e] at h1;exact absurd (Ar h h1.2) (by decide)
   exact(O l (ne _ (by decide)) (ne _ (by decide)) (ne _ (by decide)) (ne _ (by decide)) fun q=>lU (N:=1) (by decide) (by decide) q f).trans (h0 l (by exact qH (sR h1.2)) (by exact qH (sR h1.2)) (by exact qH (sR h1.2)) (ne _ (by decide)))
 have I2:WI bm (rawL us) (upd σ2 lP ((oV (iT ns)).next 7).ob) ⟨0,0⟩ (mW (iT ns)) (dX (mW (iT ns))) [] ((oV (iT ns)).next 7) 1 []:=
  I.next ((upd_ne (by decide)).trans I.W) ((upd_ne (by decide)).trans I.R) ((upd_ne (by decide)).trans I.S) aC (I.M.pen (by decide)) (fun l hl=>upd_ne fun e=>by rw[e] at hl;exact absurd hl (by decide)) (fun l f=>(upd_ne fun e=>by have:=(hY f).2;rw[e] at this;exact absurd this (by decide)).trans (I.fN l f)) I.gN
 have r7:=aR (p:=oV (iT ns)) (many:=7) (by decide);obtain⟨σ3,g3,v3,k3,p3,N3,es3,D,I3,h3⟩:=aIt (w:=w) G (8+(oV (iT ns)).digit 7).toNat I2 (Pw.next (many:=7)) (by exact aQs r7);obtain⟨σ4,es4,F5,O4,T4⟩:=aDr (w:=w) (g:=⟨N3,N3⟩) I3.P (h3.le (by exact aSl r7)) ⟨bm,I3.B.1⟩ I3.Tb I3.f16 fun l hl=>I3.fN l (jI (Az _) (Az _) hl);refine nq ?_;exact⟨σ4,es3,es4,aPg (aAi (w:=w) hu hl hz (hf lP (by decide) (by decide) (by decide) (by decide))) F2 (I.M.law G I.W I.R I.S) hP (Pw.le (by decide)) D F5,(O4 _ (by decide) (by decide) (by decide)).trans I3.B.2,(O4 _ (by decide) (by decide) (by decide)).trans I3.B.1,(O4 _ (by decide) (by decide) (by decide)).trans I3.T,T4⟩
end
theorem fill_P:kZ PySem.Challenge.rw_nu0358_01 Mine.hd.heap_1 True:=by
 k_fill
 exact trivial
theorem aAe{a:Addr}{o:Obj}{K:Frag}(e:K.lookup a=some o):(a,o)∈K:=by
 induction K with
 |nil=>cases e
 |cons p r ih=>
  rw[Bj] at e
  split at e
  ·rename_i q;cases e;rw[beq_iff_eq.mp q];exact .head _
  ·exact .tail _ (ih e)
theorem aRw(P:Jz):(Mine.hd.heap_1 P).all (fun p=>(match p.2.cls with| .type n=>n != "list" |_=>true) && !([4,672,684]:List Nat).contains p.1)=true:=by kernel_rfl
theorem uU{b:Addr}{l:List Addr}(x:h.Ns b m)(n:b∉l):(Es h l).Ns b m:=by
 refine Al fun nq=>?_;obtain⟨o,es,ep,e,r⟩:=x;refine nq ?_;exact⟨o,es,ep,Dl _ e n,r⟩
theorem aAb{b:Addr}{vs:Array Value}(x:h.Ns b m)(e:h.get? b=some (listOf vs n)):False:=by
 obtain⟨o,es,ep,e',d,_⟩:=x;rw[e] at e';cases e';cases d
noncomputable def ρ0(la:Addr)(l:Lbl):Addr:=if l=lX then la else if l=lBm then 4 else if l=lTa then 672 else 684
noncomputable def σ0(X:BmX)(vs:List Value)(l:Lbl):Option Ob:=if l=lX then some (rawL vs) else if l=lBm then some (aJa X lBm) else if l=lTa then some (bM lTa 672 []) else if l=lTb then some (bM lTb 684 []) else none
theorem σ0_cases{X:BmX}(h:σ0 X vs l≠none):l=lX\/l=lBm\/l=lTa\/l=lTb:=by
 unfold σ0 at h;by_cases h1:l=lX
 ·exact .inl h1
 by_cases h2:l=lBm
 ·exact .inr (.inl h2)
 by_cases h3:l=lTa
 ·exact .inr (.inr (.inl h3))
 by_cases h4:l=lTb
 ·exact .inr (.inr (.inr h4))
 rw[if_neg h1,if_neg h2,if_neg h3,if_neg h4] at h;exact absurd rfl h
theorem aLg{s₁:Ai}{la:Addr}{ns:List Int}{X:BmX}(KX:(Mine.hd.heap_1 w.params).In s₁.heap)(T:Nf q0 iJ mg mb s₁.heap)(h4:s₁.heap.get? 4=some X.1)
  (hT:∀P∈[684,672],s₁.heap.get? P=some (Mr #[]))(hl:s₁.heap.get? la=some (listOf vs.toArray 0))(h1:la≠1)(hi:Nw vs ns)(hz:ns.length<=63):
  wpN (model PW w) callerA (Je (.ref 696) [.ref la]) (fun v s'=>v = .bool true/\OldK s₁.heap s'.heap/\s'.os=s₁.os/\s'.gens=s₁.gens) (fun _ _=>False) s₁:=by
 have ta:=hT 672 (.tail _ (.head _));have tb:=hT 684 (.head _);have n0:la≠builtinsNs:=fun e=>by rw[e] at hl;exact aAb T.b hl
 have l4:la≠4:=fun e=>by
  rw[e,h4] at hl;have:=congrArg Il (Cw hl);rw[X.2.1] at this;injection this with q;exact absurd q (by decide)
 have l6:la≠672:=fun e=>by rw[e,ta] at hl;cases hl
 have l7:la≠684:=fun e=>by rw[e,tb] at hl;cases hl
 have big:1<la:=by
  match la,n0,h1 with
  |0,n,_=>exact absurd rfl n
  |1,_,n=>exact absurd rfl n
  |n+2,_,_=>exact Bi (by decide:1<2) (Nat.le_add_left 2 n)
 have far:∀b:Addr,b≠la->b≠4->b≠672->b≠684->b∉[la,4,672,684]:=fun b a1 a2 a3 a4 h=>by
  simp only[An,Kb,or_false] at h;rcases h with h|h|h|h <;> contradiction
 refine Al fun nq=>?_;obtain⟨σ',es,es',F,e1,e2,e3,e4⟩:=aMb (w:=w) (σ:=σ0 X vs) (bm:=X) hi hz rfl rfl rfl rfl fun l a b c d=>by unfold σ0;rw[if_neg a,if_neg b,if_neg c,if_neg d]
 have C:Cy w callerA (Es s₁.heap [la,4,672,684]) [] (Es s₁.heap [la,4,672,684]) mg mb 14:=by
  refine⟨below_caller _,fun b hb=>(by cases hb),fun a o e=>Dl _ (KX a o e) ?_,⟨uU T.g (far _ (Bw (fun e=>by rw[e] at hl;exact aAb T.g hl:la≠mainGlobals)) (by decide) (by decide) (by decide)),uU T.b (far _ (Bw n0) (by decide) (by decide) (by decide)),?_,T.builtins,T.free⟩,by decide,by decide,rfl⟩
  ·obtain⟨z1,z2⟩:=Bb.mp (Ha.mp (aRw w.params) _ (aAe e));have z2:a∉([4,672,684]:List Nat):=fun q=>by rw[List.contains_iff_mem.mpr q] at z2;cases z2
   refine far _ (fun q=>?_) (fun q=>z2 (by rw[q];decide)) (fun q=>z2 (by rw[q];decide)) fun q=>z2 (by rw[q];decide);have:=KX a o e;rw[q,hl] at this;cases this;cases z1
  ·obtain⟨mc,hn,hm⟩:=T.nolimit;exact⟨mc,uU hn (far _ (Bw (fun e=>by rw[e] at hl;obtain⟨_,hn,_⟩:=T.nolimit;exact aAb hn hl:la≠cStatics)) (by decide) (by decide) (by decide)),hm⟩
 have H:Hp w (frs []) noF (Es s₁.heap [la,4,672,684]) (σ0 X vs) ⟨ρ0 la,s₁.heap⟩:=by
  refine⟨fun l o e=>?_,fun l l' a b e=>?_,⟨[lX,lBm,lTa,lTb],fun l h=>?_⟩,fun b o e=>.inl (Ie _ e)⟩
  ·rcases σ0_cases (X:=X) (vs:=vs) (l:=l) (by rw[e];exact fun z=>by cases z) with rfl|rfl|rfl|rfl <;> cases e
   ·exact⟨_,hl,.raw [] _ _ (fun _ h=>by cases h) rfl (fun vs e=>by have:=congrArg Il e;injection this with q;exact absurd q (by decide)),.inl (Er _ (.head _)),big⟩
   ·refine⟨_,h4,.raw _ _ _ (fun l h=>?_) ⟨rfl,rfl⟩ (fun vs e=>?_),.inl (Er _ (.tail _ (.head _))),(by decide:1<4)⟩
    ·rw[Ax.mp h];exact fun z=>by cases z
    ·have:=congrArg Il e;rw[X.2.1] at this;injection this with q;exact absurd q (by decide)
   ·refine⟨_,ta,.raw _ _ _ (fun l h=>?_) ⟨rfl,rfl⟩ (fun vs e=>by cases e),.inl (Er _ (.tail _ (.tail _ (.head _)))),(by decide:1<672)⟩;rw[Ax.mp h];exact fun z=>by cases z
   ·refine⟨_,tb,.raw _ _ _ (fun l h=>?_) ⟨rfl,rfl⟩ (fun vs e=>by cases e),.inl (Er _ (.tail _ (.tail _ (.tail _ (.head _))))),(by decide:1<684)⟩;rw[Ax.mp h];exact fun z=>by cases z
  ·have iv:∀x,σ0 X vs x≠none->(if ρ0 la x=la then lX else if ρ0 la x=4 then lBm else if ρ0 la x=672 then lTa else lTb)=x:=fun x h=>by
    rcases σ0_cases h with q|q|q|q
    ·rw[q];exact if_pos rfl
    ·rw[q];exact(if_neg (Bw l4)).trans (if_pos rfl)
    ·rw[q];exact(if_neg (Bw l6)).trans ((if_neg (by decide:¬(672:Nat)=4)).trans (if_pos rfl))
    ·rw[q];exact(if_neg (Bw l7)).trans ((if_neg (by decide:¬(684:Nat)=4)).trans (if_neg (by decide:¬(684:Nat)=672)))
   have e:ρ0 la l=ρ0 la l':=e;have z:=iv l a;rw[e] at z;exact z.symm.trans (iv l' b)
  ·rcases σ0_cases h with rfl|rfl|rfl|rfl <;> simp
 refine nq ?_;refine cJ (F.run _ _ _ _ _ _ _ _ _ _ C H rfl (.cons (.ref (c:=⟨ρ0 la,s₁.heap⟩) lX fun z=>by cases z) .nil) fun v c' tk i H' S=>?_);cases i;refine⟨rfl,?_,rfl,rfl⟩;have rho:∀l,σ0 X vs l≠none->c'.ρ l=ρ0 la l:=S.rho;refine Al fun nq=>?_;obtain⟨x1,g1,i1,_⟩:=H'.ob _ _ e1;obtain⟨x2,g2,i2,_⟩:=H'.ob _ _ e2;obtain⟨x3,g3,i3,_⟩:=H'.ob _ _ e3;obtain⟨x4,g4,i4,_⟩:=H'.ob _ _ e4;rw[rho _ fun z=>by cases z] at g1 g2 g3 g4;have g1:c'.h.get? la=some (listOf vs.toArray 0):=by have p:=i1.raw_inv.2;exact g1.trans (congrArg some p)
 have g2:c'.h.get? 4=some X.1:=by have p:=i2.raw_inv.2;exact g2.trans (congrArg some p.2)
 obtain⟨ps,g3⟩:∃ps,c'.h.get? 672=some (Mr ps):=by have p:=i3.raw_inv.2;exact⟨_,g3.trans (congrArg some p.2)⟩
 obtain⟨ps',g4⟩:∃ps,c'.h.get? 684=some (Mr ps):=by have p:=i4.raw_inv.2;exact⟨_,g4.trans (congrArg some p.2)⟩
 have c3:isCodeTable s₁.heap 672:=((lZ (K:=Mine.hd.heap_1 w.params) (c:=676) (by k_is) rfl rfl rfl rfl rfl rfl rfl (by decide) _ KX).tab ta).isCodeTable;have c4:isCodeTable s₁.heap 684:=((lZ (K:=Mine.hd.heap_1 w.params) (c:=688) (by k_is) rfl rfl rfl rfl rfl rfl rfl (by decide) _ KX).tab tb).isCodeTable;have all:∀b o,s₁.heap.get? b=some o->asItWas s₁.heap c'.h b o/\∃o',c'.h.get? b=some o':=fun b o e=>by
  by_cases b1:b=la
  ·subst b1;rw[hl] at e;cases e;exact⟨.inl g1,_,g1⟩
  by_cases b2:b=4
  ·subst b2;rw[h4] at e;cases e;exact⟨.inl g2,_,g2⟩
  by_cases b3:b=672
  ·subst b3;rw[ta] at e;cases e;exact⟨.inr (.inl ⟨c3,rfl,#[],ps,rfl,by rw[Array.empty_append];exact g3⟩),_,g3⟩
  by_cases b4:b=684
  ·subst b4;rw[tb] at e;cases e;exact⟨.inr (.inl ⟨c4,rfl,#[],ps',rfl,by rw[Array.empty_append];exact g4⟩),_,g4⟩
  have k:=(H'.keep b o (Dl _ e (far b b1 b2 b3 b4))).ex fun z=>by cases z
  exact⟨.inl k,_,k⟩
 refine nq ?_;exact⟨fun b o e=>(all b o e).1,fun b o e=>(all b o e).2⟩
end
end Mine
set_option tactic.hygienic true in
theorem PySem.Challenge.cw_nu0358_01_holds : PySem.Challenge.rw_nu0358_01.Holds := by
 refine Mine.hd ?_;intro w s₀ s₁ mg mb G Y fa o pm cd doc dV kV ho hd hcd hD hmg hg args vals as hpre hlay hrd hwl hlo;refine Mine.bc fun nq=>?_;have KX:=km_in_of Y;have tabs:=km_tabs_of Y;have T:=G.T;have e:=mg_of KX T.g (n:="law") (v:=.ref 696) (by k_is);rw[show mg "law"=_ from hmg] at e
 cases e;have e4:=mg_of KX T.g (n:="__builtins__") (v:=.ref 4) (by k_is);obtain⟨bm,ob,q1,_,q2,q3⟩:=T.bmain;rw[e4] at q1;cases q1;have low:=hlo
 wrow_args hpre hlay hrd hwl hlo
 rename_i ns _ _ _ _ _ w4 w3 la vs w0 hL _ w1 r0 hI _ hz _;have hz:ns.length<=63:=by exact Mine.aSi hz
 have h1:la≠1:=fun e=>by
  cases r0;have:=low la (Fj _ (.head _));rw[e] at this;exact absurd this (by decide)
 have hl:s₁.heap.get? la=some {cls:=.type "list",data:=.seq vs.toArray}:=by
  obtain⟨o,e1,e2⟩:=hL;cases w1;rename_i us e3 _;rw[e1] at e3;refine Al fun nq=>?_;cases e3;obtain⟨_,n,d⟩:=e2;injection d with d _;refine nq ?_;rw[<-d];exact e1
 have go:∀v s',v = .bool true/\OldK s₁.heap s'.heap/\s'.os=s₁.os/\s'.gens=s₁.gens->GoodWG PySem.Challenge.rw_nu0358_01.row.claim (classAt s₀.heap) (ExcName.means s₀.heap) [ofPy (.list (ns.map .int))] s₁ (.ok (.ret v)) s':=by
  rintro v s' ⟨rfl,h2,h3,h4⟩
  exact⟨.inl ⟨_,.bool true,[],rfl,fun _=>rfl,.bool true,by wrow_post,fun _=>⟨Ia,fun _ h=>by cases h⟩⟩,h2,h3,.of_eq (h4.trans hg)⟩
 refine nq ?_;exact Mine.pP (Mine.bX (Mine.aLg (X:=⟨ob,q3⟩) KX (topRead_of T) q2 tabs hl h1 hI hz) go fun _ _ h=>h.elim) (go _ _ ⟨rfl,.refl _,rfl,rfl⟩)
