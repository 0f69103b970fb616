import PyProof.Rows.All
import Wide.All
import OpenK.AllK
import Wide.FinOn
import Lean
import PySem.Challenge.RW_nn0130_01
set_option Elab.async false
set_option linter.all false
set_option tactic.hygienic false
set_option maxRecDepth 100000
set_option maxHeartbeats 1000000
open PySem.Str renaming ofString -> aa
open Nat renaming sub_add_cancel -> ac, le_of_ble_eq_true -> ai, le_antisymm -> aj, le_trans -> ao, lt_sub_of_add_lt -> aA, le_of_not_lt -> aJ, not_le_of_lt -> aM, mul_div_le -> aQ, lt_of_le_of_lt -> aW, zero_lt_of_lt -> aX, le_refl -> ba, le_of_lt -> be, sub_le -> bk, add_sub_of_le -> bv, lt_trans -> bw, zero_add -> bA, le_of_eq -> bC, lt_of_lt_of_le -> bG, zero_le -> bS, lt_of_succ_lt_succ -> bX, add_assoc -> bZ, lt_of_not_le -> b8, not_lt_zero -> cn, lt_or_gt_of_ne -> cp, min_eq_left -> cu, lt_irrefl -> cB, add_comm -> cR, cast -> cV, le_of_lt_succ -> c7, div_add_mod -> dh, mod_lt -> dR, pos_of_ne_zero -> dQ, add_right_comm -> eE, lt_or_ge -> eI, two_pow_pos -> eO, le_add_right -> eQ, not_lt -> eU, mul_comm -> fw, sub_self -> fA, min_le_left -> fK, add_sub_cancel_left -> fY, div_le_div_right -> fX, lt_succ_self -> fR, pow_le_pow_right -> fW, ne_of_gt -> gk, ne_of_lt -> gj, add_mul_mod_self_left -> gw, min_le_right -> gC, mod_eq_of_lt -> gE, add_le_add_left -> g6, mul_succ -> hX, min_eq_right -> ie, add_le_add -> il, sub_eq_zero_of_le -> ix, lt_succ_of_le -> iP, succ_pos -> iQ, pow_succ' -> i3, le_max_right -> jb, div_div_eq_div_mul -> jq, eq_zero_of_not_pos -> ju, eq_zero_or_pos -> jr, pow_succ -> jp, le_succ_of_le -> jE, mul_add -> jN, mul_one -> jP, one_mul -> jO, one_pos -> jT, succ_ne_zero -> j1, mul_le_mul_left -> j8, mul_assoc -> kq, succ -> ky, div_le_self -> kG, le_add_left -> kC, lt_or_eq_of_le -> kQ, le_of_succ_le -> lG, lt_succ_of_lt -> lC, lt_trichotomy -> lI, pow_zero -> lF, sub_zero -> lH, zero_mul -> lB, and_two_pow_sub_one_eq_mod -> ma, not_le -> lY, succ_le_succ -> md, sub_le_sub_right -> mJ, max_eq_left -> mX, add_zero -> nD, two_pow_add_eq_or_of_lt -> nC, lt_of_le_of_ne -> og, div_one -> oW, pow_add -> oY, sub_pos_of_lt -> oS, div_eq_of_lt -> pT, le_min -> qy, le_max_left -> qM, add_mul -> rY, le_succ -> sa
open List renaming length_append -> af, getD_eq_getElem?_getD -> al, replicate -> ap, append_assoc -> au, length_map -> av, mem_append_right -> aw, mem_cons -> ax, range -> ay, map_cons -> az, map_append -> aC, mem_append_left -> aD, mem_map -> aE, getElem?_eq_getElem -> aI, all_eq_true -> aU, length_cons -> aV, mem_append -> a7, mem_range -> a9, not_mem_nil -> bj, append_nil -> bn, mem_singleton -> bl, getElem?_eq_some_iff -> bp, count_append -> bt, length_replicate -> bD, size_toArray -> bF, sum_cons -> bK, map_map -> bM, length_range -> bR, length_drop -> b9, getElem?_eq_none -> ch, take_of_length_le -> cv, map_congr_left -> cx, count_cons -> cy, foldl_cons -> cz, range' -> cA, getElem?_map -> cG, length_take -> cI, nodup_cons -> cN, mem_cons_self -> df, pairwise_cons -> dg, count_pos_iff -> dz, length_singleton -> dD, rel_of_pairwise_cons -> dK, map_nil -> dP, replicate_append_replicate -> dW, length_nil -> d0, lookup_cons -> ek, getElem?_set_ne -> eD, count_eq_zero -> eG, sum_replicate_nat -> eJ, zip_cons_cons -> eH, nil_append -> eN, Pairwise -> eS, cons_append -> eR, flatMap_cons -> eX, count_nil -> fm, mem_cons_of_mem -> fj, mem_of_mem_take -> fk, getElem?_set_self -> fy, take_append_drop -> fG, length_set -> fM, mem_filter -> fJ, getElem_map -> fZ, map_take -> f9, getElem?_append_right -> gq, takeWhile_cons_of_neg -> gu, takeWhile_cons_of_pos -> gr, take_succ_eq_append_getElem -> gm, contains_iff_mem -> gz, length_filter_le -> gA, eq_of_mem_replicate -> gK, drop_append_of_le_length -> gO, pairwise_append -> gQ, take_append_of_le_length -> gP, nodup_append -> gU, map_const' -> gX, length_reverse -> gZ, replicate_succ -> g7, drop_of_length_le -> hY, getElem_mem -> ib, take_length -> ig, append_of_mem -> ip, getElem_range -> io, map_replicate -> im, takeWhile_prefix -> iw, pairwise_iff_getElem -> iE, find?_cons -> iF, of_mem_zip -> iG, range_succ -> iH, foldl_append -> iV, mem_of_getElem? -> iT, pairwise_map -> iU, drop_drop -> jd, drop_zero -> jc, filter_cons -> ja, filter_eq_nil_iff -> jw, getElem_cons_drop -> jv, cons -> jz, getElem?_set -> jF, drop_eq_nil_iff -> jQ, mem_of_mem_drop -> jR, ext_getElem -> j0, extract_eq_take_drop -> j3, getElem?_append_left -> j5, mem_of_find?_eq_some -> j4, filter_eq_self -> kc, reverse_append -> j9, any_cons -> kz, map_drop -> ku, forIn_cons -> kF, sum_append -> kD, length_range' -> kU, pairwise_singleton -> Xe, ext_getElem? -> lD, reverse_cons -> lE, range_eq_range' -> mM, count_cons_self -> mH, length -> mK, flatMap_append -> m9, getElem?_range -> nc, nodup_iff_pairwise_ne -> oj, drop_range' -> pO, Perm -> pQ, any_eq_true -> pW, cons_ne_nil -> Xf, map -> pR, perm_middle -> pP, set_set -> qx, toArray -> qw, find?_some -> qO, range_add -> sf, set -> rZ
open Classical renaming byContradiction -> ak
open Int renaming ofNat_lt -> aN, ofNat_inj -> b7, ofNat_le -> c8, le_trans -> dZ, natCast_nonneg -> jo, fdiv_eq_ediv_of_nonneg -> jS, lt_of_le_of_lt -> kR, not_lt -> kS, natCast_ediv -> l9, natCast_add -> mY, toNat_of_nonneg -> m8, le_of_lt -> nB, add_sub_cancel -> oo, fmod_eq_emod_of_nonneg -> oq, lt_of_lt_of_le -> oh, natAbs_natCast -> on, max_eq_right -> pU, natCast_mul -> qP, natCast_pos -> qR, natCast_pow -> qQ
open PySem.Heap renaming get?_push_of_some -> aZ, SameBut -> dC, lt_size -> dY, get?_push_size -> fD, get?_none_of_le -> fV, get?_update_ne -> gY, ExtBut -> iR, size_push -> sd
open Bool renaming and_eq_true_iff -> cf, false_eq_true -> cq, false_ne_true -> cJ, and_eq_true -> gD, not_true -> mu, or_eq_true_iff -> kb, not_eq_true' -> oU, eq_false_iff -> oR, not_eq_true -> pV, or_eq_true -> qN, true -> Z8, false -> Z7
open Option renaming isSome_iff_exists -> cg, map_eq_some_iff -> eF, bind_some -> fB, some -> fU, elim_some -> jZ, bind_eq_some_iff -> kZ, elim -> se, none -> Z9
open Decidable renaming byContradiction -> gx
open Array renaming toList_inj -> ic, toList_map -> lZ, toList_extract -> mI, length_toList -> m7, getD_eq_getD_getElem? -> ny
open Iff renaming rfl -> kE
open Prod renaming mk -> nA, ext -> r7, snd -> sg
open Function renaming comp_def -> oV
open PySem renaming Value -> aF, Shared -> aG, wpAny_bind -> aH, wpAny -> br, wpAny_pure -> bB, World -> bN, Around -> bU, Addr -> bW, builtinLookup_eq_fast -> cj, wpAny_mono -> cW, Expr -> dH, typeLookup_type -> dJ, eval -> dS, model -> dX, starEach -> eB, Str -> eT, sizeLine -> eV, Params -> eY, typeLookup -> fp, OsState -> gv, letOwnedTupleGo -> gR, Stmt -> iW, wpAny_of_eq -> iY, Scope -> i5, wpAny_specialOf -> jg, wpAny_holding -> jx, clipAt -> jG, sysModules -> j2, backTo -> kA, foldedSetIterable -> kI, standAt -> kH, wpAny_assign_Name -> kJ, isSubtype_type -> k9, wpAny_load -> k8, assign -> lL, leftWithCleanup -> mx, spliced -> mw, isTrue -> mO, wpAny_Constant_int -> mQ, wpAny_rule -> mP, Env -> mR, bootBuiltins -> nF, execs -> nE, wpAny_loadPart_at -> nI, assignEach -> oE, checkBuiltinCall -> oG, treeTable -> w3, getItem -> oZ, swappedStores -> o4, keeperOf -> pg, importedModules -> pX, Heap -> qA, Program -> qz, specialOf -> qT, entryFor -> qY, mainGlobals -> sJ, Comprehension -> sN, binaryOp -> uf, compTurn -> ui, compareOp -> ug, entryFor_of_tree -> uj, loadName -> ue, wpAny_call_entry -> uh, allTrue -> u7, callSpecial? -> vb, closureFor -> va, pyNext -> u8, theTreesLotGoes -> vh, holding -> w4, swapsWith -> w5, exec -> yR, comprehension -> yX, wpAny_newList -> yW, argsOk -> zx, bindArgs -> BK, evalPart -> BH, intKind -> BL, setItem -> BJ, table -> BN, wpAny_newObj_type -> BG, wpAny_truthy_bool -> BM, Sem -> DB, cellsFrom -> DF, inplaceOp -> DC, noteFrame -> DD, seqIndex? -> DE, bm_if_false -> DP, Obj -> Hj, relabel -> Hl, valueAt -> Hk, NameKind -> IM, PyData -> II, callWith -> IF, call_meets -> IJ, isInstance -> Xn, methodCallForm -> IL, pyIter -> IG, recursionLimit -> IH, truthy -> IE, behindInMarks -> MF, methodCallPos -> MH, plainId_quiet -> MI, DictEntry -> MS, markedBehindIn_of_false -> MU, wpAny_callSpecial?_slot -> MV, wpAny_list_append_plain -> MW
open PyProof.Rows renaming wpS_bind -> bz, wpS_pure -> dF, seqObj -> gL, SortSt -> g8, get?_update_seq -> ke, IntsAre -> nH, tuples' -> o0, Keyed -> pY, wpS_forRange -> qC, wpS_get -> qB, sortedHeap -> u9, wpS_mono -> wF, wpS_modify -> zw, wpS -> BV, listUpdate_at -> MG
open PySem.W renaming boot_heap -> oD, tabObj -> qX, kas_item -> wG, kas_item_eq -> wH, kas_rev -> Hi
open PySem PySem.W PyProof.Rows
namespace Mine
theorem said1:sreFenced PySem.Challenge.pw_nn0130_01.main=true:=by kernel_rfl
theorem said2:((moduleNames PySem.Challenge.pw_nn0130_01.main.body).isEmpty||lookedIntoSs (moduleNames PySem.Challenge.pw_nn0130_01.main.body) PySem.Challenge.pw_nn0130_01.main.body)=true:=by kernel_rfl
theorem said3:namesResolve PySem.Challenge.pw_nn0130_01=true:=by kernel_rfl
theorem said4:(PySem.Challenge.pw_nn0130_01.boundNames.all (fun n=>!worldNames.contains n))=true:=by kernel_rfl
theorem said5:noRoadLSs {strict:= !(importedModules PySem.Challenge.pw_nn0130_01.main.body).all cThrough.contains,foot:=none,bare:=(["vars","dir","locals"]:List PySem.Str).filter (readsOut PySem.Challenge.pw_nn0130_01 PySem.Challenge.pw_nn0130_01.main.body)} PySem.Challenge.pw_nn0130_01.main.body=true:=by kernel_rfl
theorem said6:(namesMeet PySem.Challenge.pw_nn0130_01 PySem.Challenge.pw_nn0130_01.main.body fun _ n=>attrL n)=true:=by kernel_rfl
theorem said7:looksOpen PySem.Challenge.rw_nn0130_01.row.prog=true:=look_both (look_both (look_both (look_both (look_both said1 said2) said3) said4) said5) said6
theorem said8:PySem.Challenge.rw_nn0130_01.row.partSaid=true:=by
 unfold OpenRow.partSaid
 refine look_both (look_both (look_both (look_both (look_both (look_both (look_both (look_both (look_both (look_both (look_both (look_both (look_both said7 ?_) ?_) ?_) ?_) ?_) ?_) ?_) ?_) ?_) ?_) ?_) ?_) ?_
 all_goals kernel_rfl
theorem said9:PySem.Challenge.rw_nn0130_01.row.wellSaid=true:=look_both (look_both said8 (by kernel_rfl)) (by kernel_rfl)
theorem said0:PySem.Challenge.rw_nn0130_01.wellSaid=true:=by
 unfold OpenLaw.wellSaid
 refine look_both (look_both (look_both (look_both (look_both (look_both (look_both (look_both (look_both (look_both (look_both (look_both (look_both (look_both (look_both (look_both (look_both (look_both said9 ?_) ?_) ?_) ?_) ?_) ?_) ?_) ?_) ?_) ?_) ?_) ?_) ?_) ?_) ?_) ?_) ?_) ?_
 all_goals kernel_rfl
end Mine
namespace Mine
theorem dG{p:Prop}[i:Decidable p](h:decide p=Z8):p:=of_decide_eq_true h
theorem bT{p:Prop}[i:Decidable p](h:p):decide p=Z8:=decide_eq_true h
theorem Wq{p:Prop}[i:Decidable p](h:¬p):decide p=Z7:=decide_eq_false h
theorem aK{c:Prop}{h:Decidable c}(n:¬c){α:Sort u}{t e:α}:ite c t e=e:=if_neg n
theorem bf{c:Prop}{h:Decidable c}(n:c){α:Sort u}{t e:α}:ite c t e=t:=if_pos n
theorem bx{α:Sort u}{β:Sort v}{a b:α}(f:α->β)(h:a=b):f a=f b:=congrArg f h
theorem bq{a b:Prop}(h:a)(k:¬a):b:=absurd h k
theorem fN{α:Type u}[BEq α][LawfulBEq α]{a b:α}(h:(a==b)=Z8):a=b:=eq_of_beq h
set_option genSizeOf false
set_option genInjectivity false
set_option genCtorIdx false in
inductive Lx where
 |A|B|C|D|E|F|i|v (j:Nat)|n (k:Nat)|s (x:Lx)|p (x:Lx) (k:Nat)|a (x y:Lx)|m (k:Nat) (x:Lx)|r (x:Lx) (k:Nat)
noncomputable def Lx.ctorIdx(x:Lx):Nat:=Lx.casesOn x 0 1 2 3 4 5 6 (λa=>7) (λa=>8) (λa=>9) (λa a=>10) (λa a=>11) (λa a=>12) λa a=>13
@[reducible]noncomputable def yZ:List Nat->Nat->Nat
 |[],_=>0
 |x::_,0=>x
 |_::c,j+1=>yZ c j
@[reducible]noncomputable def Lx.d(c:List Nat):Lx->Nat
 |.A=>yZ c 0
 |.B=>yZ c 1
 |.C=>yZ c 2
 |.D=>yZ c 3
 |.E=>yZ c 4
 |.F=>yZ c 5
 |.i=>1
 |.v j=>yZ c j
 |.n k=>k
 |.s x=>x.d c+1
 |.p x k=>x.d c+k
 |.a x y=>x.d c+y.d c
 |.m k x=>k*x.d c
 |.r x k=>x.d c*k
noncomputable def DQ(l j:Nat):Nat:=bif Nat.beq l j then 1 else 0
noncomputable def Lx.co(j:Nat):Lx->Nat
 |.A=>DQ 0 j
 |.B=>DQ 1 j
 |.C=>DQ 2 j
 |.D=>DQ 3 j
 |.E=>DQ 4 j
 |.F=>DQ 5 j
 |.i=>0
 |.v l=>DQ l j
 |.n _=>0
 |.s x=>x.co j
 |.p x _=>x.co j
 |.a x y=>x.co j+y.co j
 |.m k x=>k*x.co j
 |.r x k=>x.co j*k
noncomputable def Lx.k:Lx->Nat
 |.A|.B|.C|.D|.E|.F|.v _=>0
 |.i=>1
 |.n k=>k
 |.s x=>x.k+1
 |.p x k=>x.k+k
 |.a x y=>x.k+y.k
 |.m k x=>k*x.k
 |.r x k=>x.k*k
noncomputable def lV(f:Nat->Nat):List Nat->Nat->Nat
 |[],_=>0
 |x::c,j=>f j*x+lV f c (j+1)
theorem LO:∀{j},lV (λi=>f i+g i) c j=lV f c j+lV g c j:=by
 induction c with
 |nil=>exact λ{uu}=>rfl
 |cons x c a=>intro j;show(f j+g j)*x+lV _ c (j+1)=(f j*x+_)+(g j*x+_);rw[a,rY,Nat.add_add_add_comm]
theorem CO:∀{j},lV (λi=>k*f i) c j=k*lV f c j:=by
 induction c with
 |nil=>exact λ{uu}=>rfl
 |cons x c a=>intro j;show k*f j*x+lV _ c (j+1)=k*(f j*x+_);rw[a,jN,kq]
theorem Ar:∀{j},lV (λb=>0) c j=0:=by
 induction c with
 |nil=>exact λ{b}=>rfl
 |cons x c a=>intro j;show 0*x+lV _ c (j+1)=0;rw[a,lB]
theorem U5(h:a≠b):Nat.beq a b=Z7:=oR.2 λe=>h<|Nat.eq_of_beq_eq_true e
theorem JZ:∀{j},l<j->lV (DQ l) c j=0:=by
 induction c with
 |nil=>exact λb=>rfl
 |cons x c a=>
  intro j h;show DQ l j*x+lV _ c (j+1)=0;unfold DQ at a⊢
  rw[U5<|gj h,cond_false,a<|lC h,lB]
theorem Kj:∀{j},lV (DQ<|l+j) c j=yZ c l:=by
 induction c generalizing l with
 |nil=>exact λ{uu}=>rfl
 |cons x c a=>
  intro j;show DQ (l+j) j*x+lV _ c (j+1)=_;cases l with
  |zero=>rw[bA,JZ<|fR j];unfold DQ;rw[Nat.beq_refl,cond_true,jO];rfl
  |succ l=>have:=a (l:=l) (j:=j+1);rw[<-bZ,eE] at this;rw[this];unfold DQ;rw[U5<|by rw[eE];exact gk<|iP<|kC ..,cond_false,lB,bA]
theorem tF(l:Nat)(c:List Nat):yZ c l=lV (DQ l) c 0+0:=(Kj (l:=l) (j:=0)).symm
theorem Lx.sp{c:List Nat}{x:Lx}:x.d c=lV (λj=>x.co j) c 0+x.k:=by
 induction x with
 |A=>exact tF 0 c
 |B=>exact tF 1 c
 |C=>exact tF 2 c
 |D=>exact tF 3 c
 |E=>exact tF 4 c
 |F=>exact tF 5 c
 |i=>show 1=lV (λe=>0) c 0+1;rw[Ar]
 |v l=>exact tF l c
 |n k=>show k=lV (λe=>0) c 0+k;rw[Ar,bA]
 |s x b=>show x.d c+1=lV (λj=>x.co j) c 0+(x.k+1);rw[b,bZ]
 |p x k b=>show x.d c+k=lV (λj=>x.co j) c 0+(x.k+k);rw[b,bZ]
 |a x y b d=>show x.d c+y.d c=lV (λj=>x.co j+y.co j) c 0+(x.k+y.k);rw[LO,b,d,Nat.add_add_add_comm]
 |m k x b=>show k*x.d c=lV (λj=>k*x.co j) c 0+k*x.k;rw[CO,b,jN]
 |r x k b=>show x.d c*k=lV (λj=>x.co j*k) c 0+x.k*k;simp only [fw _ k];rw[CO,b,jN]
theorem N6:∀{j},(∀i,i<c.length->f (j+i)<=g (j+i))->lV f c j<=lV g c j:=by
 induction c with
 |nil=>exact λb=>ba _
 |cons x c a=>intro j h;refine il (Nat.mul_le_mul_right x<|h 0<|iQ _)<|a λi hi=>?_;have:=h (i+1)<|Nat.succ_lt_succ hi;rwa [<-bZ,eE] at this
set_option genCtorIdx false in
inductive Lh where
 |e|z (x y:Lx)|o (x y:Lx) (t:Lh)|c (q:Nat) (x y:Lx) (t:Lh)
noncomputable def Lh.ctorIdx(x:Lh):Nat:=Lh.casesOn x 0 (λa a=>1) (λa a a=>2) λa a a a=>3
noncomputable def Lh.l:Lh->Lx
 |.e=>.n 0
 |.z x _=>x
 |.o x _ h=>.a x h.l
 |.c q x _ h=>.a (.m q x) h.l
noncomputable def Lh.r:Lh->Lx
 |.e=>.n 0
 |.z _ y=>y
 |.o _ y h=>.a y h.r
 |.c q _ y h=>.a (.m q y) h.r
@[reducible]def Lh.d(c:List Nat)(G:Prop):Lh->Prop
 |.e=>G
 |.z x y=>x.d c<=y.d c->G
 |.o x y h=>x.d c<=y.d c->h.d c G
 |.c _ x y h=>x.d c<=y.d c->h.d c G
noncomputable def Ri(x y:Lx):Nat->Bool
 |0=>Z8
 |j+1=>Nat.ble (x.co j) (y.co j)&&Ri x y j
theorem Gu:∀{n},Ri x y n=Z8->∀i,i<n->x.co i<=y.co i
 |0,_,i,h=>bq h<|cn i
 |n+1,h,i,hi=>by
  obtain⟨b,c⟩:=cf.1 h;rcases kQ (c7 hi) with a|a
  .exact Gu c i a
  .rw[a];exact ai b
noncomputable def mV(n:Nat)(l r:Lx):Bool:=Ri r l n&&Nat.blt r.k l.k
theorem FH(h:mV c.length l r=Z8)(a:l.d c<=r.d c):False:=by
 obtain⟨b,d⟩:=cf.1 h;rw[Lx.sp,Lx.sp] at a;have e:lV (λj=>r.co j) c 0<=lV (λj=>l.co j) c 0:=N6 λi hi=>by rw[bA];exact Gu b i hi
 exact bq a<|lY.2<|Nat.add_lt_add_of_le_of_lt e<|ai d
theorem Lh.go{c:List Nat}{h:Lh}:∀{L R:Lx},L.d c<=R.d c->(Lx.d c (.a L h.l)<=Lx.d c (.a R h.r)->G)->h.d c G:=by
 induction h with
 |e=>exact λa k=>k<|Nat.add_le_add_right a 0
 |z x y=>exact λa k b=>k<|il a b
 |o x y h f=>exact λ{L R} a k b=>f (L:=.a L x) (R:=.a R y) (il a b) λd=>k<|by show L.d c+(x.d c+h.l.d c)<=R.d c+(y.d c+h.r.d c);rw[<-bZ,<-bZ];exact d
 |c q x y h f=>exact λ{L R} a k b=>f (L:=.a L<|.m q x) (R:=.a R<|.m q y) (il a<|j8 q b) λd=>k<|by show L.d c+(q*x.d c+h.l.d c)<=R.d c+(q*y.d c+h.r.d c);rw[<-bZ,<-bZ];exact d
theorem lq(q:Nat)(x y:Lx)(h:Lh)(c:List Nat)(e:mV c.length (.a (.m q<|.s y) h.l) (.a (.m q x) h.r)=Z8):h.d c<|x.d c<=y.d c:=by
 by_cases a:x.d c<=y.d c
 .exact Lh.go (ba<|(Lx.n 0).d c) λb=>a
 .exact Lh.go (L:=.m q<|.s y) (R:=.m q x) (j8 q<|b8 a) λh=>bq h λh=>FH e h
theorem li(x y:Lx)(h:Lh)(c:List Nat)(e:mV c.length (.a (.m 1<|.s y) h.l) (.a (.m 1 x) h.r)=Z8):h.d c<|x.d c<=y.d c:=lq 1 x y h c e
theorem lo(h:Lh)(c:List Nat)(e:mV c.length h.l h.r=Z8):h.d c False:=
 Lh.go (L:=.n 0) (R:=.n 0) (ba 0) λa=>FH e (by have a:0+h.l.d c<=0+h.r.d c:=a;rwa [bA,bA] at a)
theorem Wz(x y:Lx)(h:Lh)(e:mV 0 (.a (.m 1<|.s y) h.l) (.a (.m 1 x) h.r)=Z8):h.d []<|x.d []<=y.d []:=li x y h [] e
theorem dL(x y:Lx)(h:Lh){a:Nat}(e:mV 1 (.a (.m 1<|.s y) h.l) (.a (.m 1 x) h.r)=Z8):h.d [a]<|x.d [a]<=y.d [a]:=li x y h [a] e
theorem c9(x y:Lx)(h:Lh){a b:Nat}(e:mV 2 (.a (.m 1<|.s y) h.l) (.a (.m 1 x) h.r)=Z8):h.d [a,b]<|x.d [a,b]<=y.d [a,b]:=li x y h [a,b] e
theorem dT(x y:Lx)(h:Lh){a b c:Nat}(e:mV 3 (.a (.m 1<|.s y) h.l) (.a (.m 1 x) h.r)=Z8):h.d [a,b,c]<|x.d [a,b,c]<=y.d [a,b,c]:=li x y h [a,b,c] e
theorem gy(x y:Lx)(h:Lh){a b c d:Nat}(e:mV 4 (.a (.m 1<|.s y) h.l) (.a (.m 1 x) h.r)=Z8):h.d [a,b,c,d]<|x.d [a,b,c,d]<=y.d [a,b,c,d]:=li x y h [a,b,c,d] e
theorem pI(x y:Lx)(h:Lh){a b c d f:Nat}(e:mV 5 (.a (.m 1<|.s y) h.l) (.a (.m 1 x) h.r)=Z8):h.d [a,b,c,d,f]<|x.d [a,b,c,d,f]<=y.d [a,b,c,d,f]:=li x y h [a,b,c,d,f] e
theorem vd(x y:Lx)(h:Lh){a b c d f g:Nat}(e:mV 6 (.a (.m 1<|.s y) h.l) (.a (.m 1 x) h.r)=Z8):h.d [a,b,c,d,f,g]<|x.d [a,b,c,d,f,g]<=y.d [a,b,c,d,f,g]:=li x y h [a,b,c,d,f,g] e
theorem WP(x y:Lx)(h:Lh){a b c d f g j:Nat}(e:mV 7 (.a (.m 1<|.s y) h.l) (.a (.m 1 x) h.r)=Z8):h.d [a,b,c,d,f,g,j]<|x.d [a,b,c,d,f,g,j]<=y.d [a,b,c,d,f,g,j]:=li x y h [a,b,c,d,f,g,j] e
theorem W6(x y:Lx)(h:Lh){a b c d f g j k l:Nat}(e:mV 9 (.a (.m 1<|.s y) h.l) (.a (.m 1 x) h.r)=Z8):h.d [a,b,c,d,f,g,j,k,l]<|x.d [a,b,c,d,f,g,j,k,l]<=y.d [a,b,c,d,f,g,j,k,l]:=li x y h [a,b,c,d,f,g,j,k,l] e
theorem VI(h:Lh)(e:mV 0 h.l h.r=Z8):h.d [] False:=lo h [] e
theorem lo1(h:Lh){a:Nat}(e:mV 1 h.l h.r=Z8):h.d [a] False:=lo h [a] e
theorem Ix(h:Lh){a b:Nat}(e:mV 2 h.l h.r=Z8):h.d [a,b] False:=lo h [a,b] e
theorem MP(h:Lh){a b c:Nat}(e:mV 3 h.l h.r=Z8):h.d [a,b,c] False:=lo h [a,b,c] e
theorem W1(h:Lh){a b c d:Nat}(e:mV 4 h.l h.r=Z8):h.d [a,b,c,d] False:=lo h [a,b,c,d] e
theorem Wk(h:Lh){a b c d f:Nat}(e:mV 5 h.l h.r=Z8):h.d [a,b,c,d,f] False:=lo h [a,b,c,d,f] e
theorem lq1(q:Nat)(x y:Lx)(h:Lh){a:Nat}(e:mV 1 (.a (.m q<|.s y) h.l) (.a (.m q x) h.r)=Z8):h.d [a]<|x.d [a]<=y.d [a]:=lq q x y h [a] e
theorem H1(q:Nat)(x y:Lx)(h:Lh){a b:Nat}(e:mV 2 (.a (.m q<|.s y) h.l) (.a (.m q x) h.r)=Z8):h.d [a,b]<|x.d [a,b]<=y.d [a,b]:=lq q x y h [a,b] e
theorem Ch(q:Nat)(x y:Lx)(h:Lh){a b c:Nat}(e:mV 3 (.a (.m q<|.s y) h.l) (.a (.m q x) h.r)=Z8):h.d [a,b,c]<|x.d [a,b,c]<=y.d [a,b,c]:=lq q x y h [a,b,c] e
theorem Ec(q:Nat)(x y:Lx)(h:Lh){a b c d:Nat}(e:mV 4 (.a (.m q<|.s y) h.l) (.a (.m q x) h.r)=Z8):h.d [a,b,c,d]<|x.d [a,b,c,d]<=y.d [a,b,c,d]:=lq q x y h [a,b,c,d] e
theorem Sd(q:Nat)(x y:Lx)(h:Lh){a b c d f:Nat}(e:mV 5 (.a (.m q<|.s y) h.l) (.a (.m q x) h.r)=Z8):h.d [a,b,c,d,f]<|x.d [a,b,c,d,f]<=y.d [a,b,c,d,f]:=lq q x y h [a,b,c,d,f] e
theorem Xb(q:Nat)(x y:Lx)(h:Lh){a b c d f g:Nat}(e:mV 6 (.a (.m q<|.s y) h.l) (.a (.m q x) h.r)=Z8):h.d [a,b,c,d,f,g]<|x.d [a,b,c,d,f,g]<=y.d [a,b,c,d,f,g]:=lq q x y h [a,b,c,d,f,g] e
theorem el{a b:Nat}(h:a=b):a<=b:=bC h
theorem eg{a b:Nat}(h:a=b):b<=a:=bC h.symm
theorem ck(x y:Nat):x<=x-y+y:=by omega
theorem wL(h:Nat.blt 0 k=Z8):x<k*(x/k)+k:=by have:=Nat.lt_mul_div_succ x<|ai h;rwa [hX] at this
universe u
@[elab_as_elim]theorem Rr{α:Sort u}{a:α}{motive:α->Prop}{b:α}(h:a=b)(m:motive b):motive a:=h.symm▸m
@[elab_as_elim]theorem Rl{α:Sort u}{a:α}{motive:α->Prop}{b:α}(h:b=a)(m:motive b):motive a:=h▸m
theorem hV{p q s r:Prop}(h:p/\q/\s)(k:p->q->s->r):r:=k h.1 h.2.1 h.2.2
theorem Gh{p q s t r:Prop}(h:p/\q/\s/\t)(k:p->q->s->t->r):r:=k h.1 h.2.1 h.2.2.1 h.2.2.2
theorem Jj{p q s t u r:Prop}(h:p/\q/\s/\t/\u)(k:p->q->s->t->u->r):r:=k h.1 h.2.1 h.2.2.1 h.2.2.2.1 h.2.2.2.2
theorem Gq{p q s t u v r:Prop}(h:p/\q/\s/\t/\u/\v)(k:p->q->s->t->u->v->r):r:=k h.1 h.2.1 h.2.2.1 h.2.2.2.1 h.2.2.2.2.1 h.2.2.2.2.2
theorem Jz{p q s t u v w r:Prop}(h:p/\q/\s/\t/\u/\v/\w)(k:p->q->s->t->u->v->w->r):r:=k h.1 h.2.1 h.2.2.1 h.2.2.2.1 h.2.2.2.2.1 h.2.2.2.2.2.1 h.2.2.2.2.2.2
theorem EB{p q s t u v w x y r:Prop}(h:p/\q/\s/\t/\u/\v/\w/\x/\y)(k:p->q->s->t->u->v->w->x->y->r):r:=k h.1 h.2.1 h.2.2.1 h.2.2.2.1 h.2.2.2.2.1 h.2.2.2.2.2.1 h.2.2.2.2.2.2.1 h.2.2.2.2.2.2.2.1 h.2.2.2.2.2.2.2.2
theorem C5{p r:Prop}{q:A->Prop}(h:p/\∃a,q a)(k:p->∀a,q a->r):r:=h.2.elim λa b=>k h.1 a b
theorem m5{p r:Prop}{q s:A->Prop}(h:p/\∃a,q a/\s a)(k:p->∀a,q a->s a->r):r:=h.2.elim λa b=>k h.1 a b.1 b.2
theorem lg{p r:Prop}{q s:A->B->Prop}(h:p/\∃a b,q a b/\s a b)(k:p->∀a b,q a b->s a b->r):r:=h.2.elim λa d=>d.elim λb c=>k h.1 a b c.1 c.2
theorem dI{p r:Prop}{q s t:A->B->Prop}(h:p/\∃a b,q a b/\s a b/\t a b)(k:p->∀a b,q a b->s a b->t a b->r):r:=h.2.elim λa d=>d.elim λb c=>k h.1 a b c.1 c.2.1 c.2.2
theorem Mw{p r:Prop}{q s t u:A->B->Prop}(h:p/\∃a b,q a b/\s a b/\t a b/\u a b)(k:p->∀a b,q a b->s a b->t a b->u a b->r):r:=h.2.elim λa d=>d.elim λb c=>k h.1 a b c.1 c.2.1 c.2.2.1 c.2.2.2
theorem zY{p r:Prop}{q s t u v:A->B->Prop}(h:p/\∃a b,q a b/\s a b/\t a b/\u a b/\v a b)(k:p->∀a b,q a b->s a b->t a b->u a b->v a b->r):r:=h.2.elim λa d=>d.elim λb c=>k h.1 a b c.1 c.2.1 c.2.2.1 c.2.2.2.1 c.2.2.2.2
theorem xe{p r:Prop}{q s t u v w x y z l:A->B->Prop}(h:p/\∃a b,q a b/\s a b/\t a b/\u a b/\v a b/\w a b/\x a b/\y a b/\z a b/\l a b)(k:p->∀a b,q a b->s a b->t a b->u a b->v a b->w a b->x a b->y a b->z a b->l a b->r):r:=h.2.elim λa d=>d.elim λb c=>k h.1 a b c.1 c.2.1 c.2.2.1 c.2.2.2.1 c.2.2.2.2.1 c.2.2.2.2.2.1 c.2.2.2.2.2.2.1 c.2.2.2.2.2.2.2.1 c.2.2.2.2.2.2.2.2.1 c.2.2.2.2.2.2.2.2.2
theorem IR{p r:Prop}{q s:A->B->Prop}{t u:A->B->C->D->Prop}{v w x:A->B->C->D->E->F->Prop}(h:p/\∃a b,q a b/\s a b/\∃c d,t a b c d/\u a b c d/\∃e f,v a b c d e f/\w a b c d e f/\x a b c d e f)(k:p->∀a b,q a b->s a b->∀c d,t a b c d->u a b c d->∀e f,v a b c d e f->w a b c d e f->x a b c d e f->r):r:=h.2.elim λa l=>l.elim λb g=>g.2.2.elim λc m=>m.elim λd i=>i.2.2.elim λe n=>n.elim λf j=>k h.1 a b g.1 g.2.1 c d i.1 i.2.1 e f j.1 j.2.1 j.2.2
theorem bO{p q:A->Prop}{r:Prop}(h:∃a,p a/\q a)(k:∀a,p a->q a->r):r:=h.elim λa b=>k a b.1 b.2
theorem ia{p q s:A->Prop}{r:Prop}(h:∃a,p a/\q a/\s a)(k:∀a,p a->q a->s a->r):r:=h.elim λa b=>k a b.1 b.2.1 b.2.2
theorem tS{p q s t:A->Prop}{r:Prop}(h:∃a,p a/\q a/\s a/\t a)(k:∀a,p a->q a->s a->t a->r):r:=h.elim λa b=>k a b.1 b.2.1 b.2.2.1 b.2.2.2
theorem p8{p q s t u:A->Prop}{r:Prop}(h:∃a,p a/\q a/\s a/\t a/\u a)(k:∀a,p a->q a->s a->t a->u a->r):r:=h.elim λa b=>k a b.1 b.2.1 b.2.2.1 b.2.2.2.1 b.2.2.2.2
theorem B5{p q:A->Prop}{s t u v w x:A->B->Prop}{r:Prop}(h:∃a,p a/\q a/\∃b,s a b/\t a b/\u a b/\v a b/\w a b/\x a b)(k:∀a,p a->q a->∀b,s a b->t a b->u a b->v a b->w a b->x a b->r):r:=h.elim λa d=>d.2.2.elim λb c=>k a d.1 d.2.1 b c.1 c.2.1 c.2.2.1 c.2.2.2.1 c.2.2.2.2.1 c.2.2.2.2.2
theorem E8{p q:A->Prop}{s t:A->B->C->D->E->Prop}{r:Prop}(h:∃a,p a/\q a/\∃b c d e,s a b c d e/\t a b c d e)(k:∀a,p a->q a->∀b c d e,s a b c d e->t a b c d e->r):r:=h.elim λa f=>f.2.2.elim λb i=>i.elim λc j=>j.elim λd l=>l.elim λe g=>k a f.1 f.2.1 b c d e g.1 g.2
theorem Dk{p q:A->Prop}{s t u:A->B->C->D->E->Prop}{r:Prop}(h:∃a,p a/\q a/\∃b c d e,s a b c d e/\t a b c d e/\u a b c d e)(k:∀a,p a->q a->∀b c d e,s a b c d e->t a b c d e->u a b c d e->r):r:=h.elim λa f=>f.2.2.elim λb i=>i.elim λc j=>j.elim λd l=>l.elim λe g=>k a f.1 f.2.1 b c d e g.1 g.2.1 g.2.2
theorem oP{p:A->Prop}{q:A->B->Prop}{r:Prop}(h:∃a,p a/\∃b,q a b)(k:∀a,p a->∀b,q a b->r):r:=h.elim λa c=>c.2.elim λb d=>k a c.1 b d
theorem LW{p:A->Prop}{q:A->B->C->Prop}{r:Prop}(h:∃a,p a/\∃b c,q a b c)(k:∀a,p a->∀b c,q a b c->r):r:=h.elim λa d=>d.2.elim λb e=>e.elim λc f=>k a d.1 b c f
theorem GR{p:A->Prop}{q s:A->B->C->Prop}{r:Prop}(h:∃a,p a/\∃b c,q a b c/\s a b c)(k:∀a,p a->∀b c,q a b c->s a b c->r):r:=h.elim λa d=>d.2.elim λb f=>f.elim λc e=>k a d.1 b c e.1 e.2
theorem Tt{p:A->Prop}{q s t u:A->B->C->Prop}{r:Prop}(h:∃a,p a/\∃b c,q a b c/\s a b c/\t a b c/\u a b c)(k:∀a,p a->∀b c,q a b c->s a b c->t a b c->u a b c->r):r:=h.elim λa e=>e.2.elim λb f=>f.elim λc d=>k a e.1 b c d.1 d.2.1 d.2.2.1 d.2.2.2
theorem OS{p:A->Prop}{q:A->B->C->D->Prop}{r:Prop}(h:∃a,p a/\∃b c d,q a b c d)(k:∀a,p a->∀b c d,q a b c d->r):r:=h.elim λa e=>e.2.elim λb f=>f.elim λc g=>g.elim λd i=>k a e.1 b c d i
theorem pK{p:A->B->Prop}{r:Prop}(h:∃a b,p a b)(k:∀a b,p a b->r):r:=h.elim λa c=>c.elim λb d=>k a b d
theorem mE{p q:A->B->Prop}{r:Prop}(h:∃a b,p a b/\q a b)(k:∀a b,p a b->q a b->r):r:=h.elim λa d=>d.elim λb c=>k a b c.1 c.2
theorem cU{p q s:A->B->Prop}{r:Prop}(h:∃a b,p a b/\q a b/\s a b)(k:∀a b,p a b->q a b->s a b->r):r:=h.elim λa d=>d.elim λb c=>k a b c.1 c.2.1 c.2.2
theorem jX{p q s t:A->B->Prop}{r:Prop}(h:∃a b,p a b/\q a b/\s a b/\t a b)(k:∀a b,p a b->q a b->s a b->t a b->r):r:=h.elim λa d=>d.elim λb c=>k a b c.1 c.2.1 c.2.2.1 c.2.2.2
theorem sC{p q s t u v:A->B->Prop}{r:Prop}(h:∃a b,p a b/\q a b/\s a b/\t a b/\u a b/\v a b)(k:∀a b,p a b->q a b->s a b->t a b->u a b->v a b->r):r:=h.elim λa d=>d.elim λb c=>k a b c.1 c.2.1 c.2.2.1 c.2.2.2.1 c.2.2.2.2.1 c.2.2.2.2.2
theorem D0{p q s t u v w:A->B->Prop}{r:Prop}(h:∃a b,p a b/\q a b/\s a b/\t a b/\u a b/\v a b/\w a b)(k:∀a b,p a b->q a b->s a b->t a b->u a b->v a b->w a b->r):r:=h.elim λa d=>d.elim λb c=>k a b c.1 c.2.1 c.2.2.1 c.2.2.2.1 c.2.2.2.2.1 c.2.2.2.2.2.1 c.2.2.2.2.2.2
theorem Ce{p:A->B->C->Prop}{r:Prop}(h:∃a b c,p a b c)(k:∀a b c,p a b c->r):r:=h.elim λa d=>d.elim λb e=>e.elim λc f=>k a b c f
theorem AN{p q:A->B->C->Prop}{r:Prop}(h:∃a b c,p a b c/\q a b c)(k:∀a b c,p a b c->q a b c->r):r:=h.elim λa e=>e.elim λb f=>f.elim λc d=>k a b c d.1 d.2
theorem p6{p q s:A->B->C->Prop}{r:Prop}(h:∃a b c,p a b c/\q a b c/\s a b c)(k:∀a b c,p a b c->q a b c->s a b c->r):r:=h.elim λa e=>e.elim λb f=>f.elim λc d=>k a b c d.1 d.2.1 d.2.2
theorem xi{p q s t:A->B->C->Prop}{r:Prop}(h:∃a b c,p a b c/\q a b c/\s a b c/\t a b c)(k:∀a b c,p a b c->q a b c->s a b c->t a b c->r):r:=h.elim λa e=>e.elim λb f=>f.elim λc d=>k a b c d.1 d.2.1 d.2.2.1 d.2.2.2
theorem It{p q s t u:A->B->C->Prop}{r:Prop}(h:∃a b c,p a b c/\q a b c/\s a b c/\t a b c/\u a b c)(k:∀a b c,p a b c->q a b c->s a b c->t a b c->u a b c->r):r:=h.elim λa e=>e.elim λb f=>f.elim λc d=>k a b c d.1 d.2.1 d.2.2.1 d.2.2.2.1 d.2.2.2.2
theorem EE{p q s t u v:A->B->C->Prop}{r:Prop}(h:∃a b c,p a b c/\q a b c/\s a b c/\t a b c/\u a b c/\v a b c)(k:∀a b c,p a b c->q a b c->s a b c->t a b c->u a b c->v a b c->r):r:=h.elim λa e=>e.elim λb f=>f.elim λc d=>k a b c d.1 d.2.1 d.2.2.1 d.2.2.2.1 d.2.2.2.2.1 d.2.2.2.2.2
theorem rc{p q s t u v w:A->B->C->Prop}{r:Prop}(h:∃a b c,p a b c/\q a b c/\s a b c/\t a b c/\u a b c/\v a b c/\w a b c)(k:∀a b c,p a b c->q a b c->s a b c->t a b c->u a b c->v a b c->w a b c->r):r:=h.elim λa e=>e.elim λb f=>f.elim λc d=>k a b c d.1 d.2.1 d.2.2.1 d.2.2.2.1 d.2.2.2.2.1 d.2.2.2.2.2.1 d.2.2.2.2.2.2
theorem rO{p q s t u v:A->B->C->Prop}{w:A->B->C->D->Prop}{x:A->B->C->D->E->Prop}{r:Prop}(h:∃a b c,p a b c/\q a b c/\s a b c/\t a b c/\u a b c/\v a b c/\∃d,w a b c d/\∃e,x a b c d e)(k:∀a b c,p a b c->q a b c->s a b c->t a b c->u a b c->v a b c->∀d,w a b c d->∀e,x a b c d e->r):r:=h.elim λa i=>i.elim λb j=>j.elim λc f=>f.2.2.2.2.2.2.elim λd g=>g.2.elim λe l=>k a b c f.1 f.2.1 f.2.2.1 f.2.2.2.1 f.2.2.2.2.1 f.2.2.2.2.2.1 d g.1 e l
theorem uP{p q:A->B->C->D->Prop}{r:Prop}(h:∃a b c d,p a b c d/\q a b c d)(k:∀a b c d,p a b c d->q a b c d->r):r:=h.elim λa f=>f.elim λb g=>g.elim λc i=>i.elim λd e=>k a b c d e.1 e.2
theorem xR{p q s:A->B->C->D->Prop}{r:Prop}(h:∃a b c d,p a b c d/\q a b c d/\s a b c d)(k:∀a b c d,p a b c d->q a b c d->s a b c d->r):r:=h.elim λa f=>f.elim λb g=>g.elim λc i=>i.elim λd e=>k a b c d e.1 e.2.1 e.2.2
theorem kY{p q s t:A->B->C->D->Prop}{r:Prop}(h:∃a b c d,p a b c d/\q a b c d/\s a b c d/\t a b c d)(k:∀a b c d,p a b c d->q a b c d->s a b c d->t a b c d->r):r:=h.elim λa f=>f.elim λb g=>g.elim λc i=>i.elim λd e=>k a b c d e.1 e.2.1 e.2.2.1 e.2.2.2
theorem Er{p q s t u:A->B->C->D->Prop}{r:Prop}(h:∃a b c d,p a b c d/\q a b c d/\s a b c d/\t a b c d/\u a b c d)(k:∀a b c d,p a b c d->q a b c d->s a b c d->t a b c d->u a b c d->r):r:=h.elim λa f=>f.elim λb g=>g.elim λc i=>i.elim λd e=>k a b c d e.1 e.2.1 e.2.2.1 e.2.2.2.1 e.2.2.2.2
theorem De{p q s t u v:A->B->C->D->Prop}{r:Prop}(h:∃a b c d,p a b c d/\q a b c d/\s a b c d/\t a b c d/\u a b c d/\v a b c d)(k:∀a b c d,p a b c d->q a b c d->s a b c d->t a b c d->u a b c d->v a b c d->r):r:=h.elim λa f=>f.elim λb g=>g.elim λc i=>i.elim λd e=>k a b c d e.1 e.2.1 e.2.2.1 e.2.2.2.1 e.2.2.2.2.1 e.2.2.2.2.2
theorem wD{p q s t u v w x y z:A->B->C->D->Prop}{r:Prop}(h:∃a b c d,p a b c d/\q a b c d/\s a b c d/\t a b c d/\u a b c d/\v a b c d/\w a b c d/\x a b c d/\y a b c d/\z a b c d)(k:∀a b c d,p a b c d->q a b c d->s a b c d->t a b c d->u a b c d->v a b c d->w a b c d->x a b c d->y a b c d->z a b c d->r):r:=h.elim λa f=>f.elim λb g=>g.elim λc i=>i.elim λd e=>k a b c d e.1 e.2.1 e.2.2.1 e.2.2.2.1 e.2.2.2.2.1 e.2.2.2.2.2.1 e.2.2.2.2.2.2.1 e.2.2.2.2.2.2.2.1 e.2.2.2.2.2.2.2.2.1 e.2.2.2.2.2.2.2.2.2
theorem RA{p:A->B->C->D->Prop}{q:A->B->C->D->E->Prop}{s:A->B->C->D->E->F->Prop}{r:Prop}(h:∃a b c d,p a b c d/\∃e,q a b c d e/\∃f,s a b c d e f)(k:∀a b c d,p a b c d->∀e,q a b c d e->∀f,s a b c d e f->r):r:=h.elim λa j=>j.elim λb l=>l.elim λc m=>m.elim λd g=>g.2.elim λe i=>i.2.elim λf n=>k a b c d g.1 e i.1 f n
theorem Pq{p:A->B->C->D->E->Prop}{r:Prop}(h:∃a b c d e,p a b c d e)(k:∀a b c d e,p a b c d e->r):r:=h.elim λa f=>f.elim λb g=>g.elim λc i=>i.elim λd j=>j.elim λe l=>k a b c d e l
theorem ua{p q s t:A->B->C->D->E->Prop}{r:Prop}(h:∃a b c d e,p a b c d e/\q a b c d e/\s a b c d e/\t a b c d e)(k:∀a b c d e,p a b c d e->q a b c d e->s a b c d e->t a b c d e->r):r:=h.elim λa g=>g.elim λb i=>i.elim λc j=>j.elim λd l=>l.elim λe f=>k a b c d e f.1 f.2.1 f.2.2.1 f.2.2.2
theorem zd{p q s t u v:A->B->C->D->E->F->Prop}{r:Prop}(h:∃a b c d e f,p a b c d e f/\q a b c d e f/\s a b c d e f/\t a b c d e f/\u a b c d e f/\v a b c d e f)(k:∀a b c d e f,p a b c d e f->q a b c d e f->s a b c d e f->t a b c d e f->u a b c d e f->v a b c d e f->r):r:=h.elim λa i=>i.elim λb j=>j.elim λc l=>l.elim λd m=>m.elim λe n=>n.elim λf g=>k a b c d e f g.1 g.2.1 g.2.2.1 g.2.2.2.1 g.2.2.2.2.1 g.2.2.2.2.2
theorem lW{p:A->B->C->D->E->F->G->Prop}{r:Prop}(h:∃a b c d e f g,p a b c d e f g)(k:∀a b c d e f g,p a b c d e f g->r):r:=h.elim λa i=>i.elim λb j=>j.elim λc l=>l.elim λd m=>m.elim λe n=>n.elim λf o=>o.elim λg q=>k a b c d e f g q
theorem EK{p q:A->B->C->D->E->F->G->Prop}{r:Prop}(h:∃a b c d e f g,p a b c d e f g/\q a b c d e f g)(k:∀a b c d e f g,p a b c d e f g->q a b c d e f g->r):r:=h.elim λa j=>j.elim λb l=>l.elim λc m=>m.elim λd n=>n.elim λe o=>o.elim λf s=>s.elim λg i=>k a b c d e f g i.1 i.2
theorem zf{p q s t u:A->B->C->D->E->F->G->Prop}{r:Prop}(h:∃a b c d e f g,p a b c d e f g/\q a b c d e f g/\s a b c d e f g/\t a b c d e f g/\u a b c d e f g)(k:∀a b c d e f g,p a b c d e f g->q a b c d e f g->s a b c d e f g->t a b c d e f g->u a b c d e f g->r):r:=h.elim λa j=>j.elim λb l=>l.elim λc m=>m.elim λd n=>n.elim λe o=>o.elim λf v=>v.elim λg i=>k a b c d e f g i.1 i.2.1 i.2.2.1 i.2.2.2.1 i.2.2.2.2
theorem ya{p q s t u v:A->B->C->D->E->F->G->Prop}{r:Prop}(h:∃a b c d e f g,p a b c d e f g/\q a b c d e f g/\s a b c d e f g/\t a b c d e f g/\u a b c d e f g/\v a b c d e f g)(k:∀a b c d e f g,p a b c d e f g->q a b c d e f g->s a b c d e f g->t a b c d e f g->u a b c d e f g->v a b c d e f g->r):r:=h.elim λa j=>j.elim λb l=>l.elim λc m=>m.elim λd n=>n.elim λe o=>o.elim λf w=>w.elim λg i=>k a b c d e f g i.1 i.2.1 i.2.2.1 i.2.2.2.1 i.2.2.2.2.1 i.2.2.2.2.2
theorem iB{p q r:Prop}(h:p/\q)(k:p->q->r):r:=k h.1 h.2
theorem Tj{p r:Prop}{q s t u v:A->B->C->Prop}(h:p/\∃a b c,q a b c/\s a b c/\t a b c/\u a b c/\v a b c)(k:p->∀a b c,q a b c->s a b c->t a b c->u a b c->v a b c->r):r:=h.2.elim λa e=>e.elim λb f=>f.elim λc d=>k h.1 a b c d.1 d.2.1 d.2.2.1 d.2.2.2.1 d.2.2.2.2
theorem rX{p:A->Prop}{r:Prop}(h:∃a,p a)(k:∀a,p a->r):r:=h.elim λa b=>k a b
theorem B4{p q s t u:A->B->Prop}{r:Prop}(h:∃a b,p a b/\q a b/\s a b/\t a b/\u a b)(k:∀a b,p a b->q a b->s a b->t a b->u a b->r):r:=h.elim λa d=>d.elim λb c=>k a b c.1 c.2.1 c.2.2.1 c.2.2.2.1 c.2.2.2.2
theorem ff{p:A->B->Prop}(a:A)(b:B)(z:p a b):∃a b,p a b:=⟨a,b,z⟩
theorem ou{p:A->B->C->Prop}(a:A)(b:B)(c:C)(z:p a b c):∃a b c,p a b c:=⟨a,b,c,z⟩
theorem B2{p:A->B->C->D->Prop}(a:A)(b:B)(c:C)(d:D)(z:p a b c d):∃a b c d,p a b c d:=⟨a,b,c,d,z⟩
theorem WN{p:A->B->C->D->E->Prop}(a:A)(b:B)(c:C)(d:D)(e:E)(z:p a b c d e):∃a b c d e,p a b c d e:=⟨a,b,c,d,e,z⟩
theorem W0{p:A->B->C->D->E->F->Prop}(a:A)(b:B)(c:C)(d:D)(e:E)(f:F)(z:p a b c d e f):∃a b c d e f,p a b c d e f:=⟨a,b,c,d,e,f,z⟩
theorem VB{p:A->B->C->D->E->F->G->Prop}(a:A)(b:B)(c:C)(d:D)(e:E)(f:F)(g:G)(z:p a b c d e f g):∃a b c d e f g,p a b c d e f g:=⟨a,b,c,d,e,f,g,z⟩
theorem Ei9{p:A->B->C->D->E->F->G->H->I->Prop}(a:A)(b:B)(c:C)(d:D)(e:E)(f:F)(g:G)(h:H)(i:I)(z:p a b c d e f g h i):∃a b c d e f g h i,p a b c d e f g h i:=⟨a,b,c,d,e,f,g,h,i,z⟩
structure AB (n:Nat) (lt:Nat->Nat->Bool):Prop where
 tr:∀i j k,lt i j=Z8->lt j k=Z8->lt i k=Z8
 irr:∀i,lt i i=Z7
 tri:∀i j,i<n->j<n->i≠j->lt i j=Z8\/lt j i=Z8
section
variable{n:Nat}{lt:Nat->Nat->Bool}
noncomputable abbrev gp(p:Array Nat)(k:Nat):Nat:=p.getD k 0
def Pm(n:Nat)(p:Array Nat):Prop:=p.1.Perm<|ay n
theorem Pm.size(h:Pm n p):p.size=n:=by have:=h.length_eq;simpa using this
theorem Cn(h:k<p.size):gp p k=p[k]:=by simp[gp,Array.getD,h]
theorem Pm.DI(h:Pm n p)(b:k<n):gp p k<n:=by
 have a:k<p.size:=by refine Rr h.size ?_;exact b
 refine Rr (Cn a) ?_;have:p[k]∈p.1:=by rw[<-Array.getElem_toList];exact ib _
 exact a9.1<|h.mem_iff.1 this
theorem Pm.ne(h:Pm n p){i j:Nat}(hi:i<n)(d:j<n)(a:i≠j):gp p i≠gp p j:=by
 have b:i<p.size:=by refine Rr h.size ?_;exact hi
 have c:j<p.size:=by refine Rr h.size ?_;exact d
 refine Rr (Cn b)<|Rr (Cn c) ?_;have f:p.1.Nodup:=h.nodup_iff.2 List.nodup_range;intro e;have:=(List.getElem_inj (i:=i) (j:=j) (h₀:=by simpa using b) (h₁:=by simpa using c) f).1 (by simpa using e);exact a this
theorem Pm.Gs(h:Pm n p)(a:q.Perm p):Pm n q:=(Array.perm_iff_toList_perm.1 a).trans h
def Up(lt:Nat->Nat->Bool)(p:Array Nat)(k:Nat):Prop:=∀i j,i<j->j<k->lt (gp p i) (gp p j)=Z8
def Dn(lt:Nat->Nat->Bool)(p:Array Nat)(k:Nat):Prop:=∀i j,i<j->j<k->lt (gp p j) (gp p i)=Z8
theorem Up.one:Up lt p 1:=λi j a b=>bq (bG a<|c7 b)<|cn _
theorem Up.snoc(O:AB n lt){k:Nat}(h:Up lt p k)(f:1<=k)(e:lt (gp p<|k-1) (gp p k)=Z8):Up lt p<|k+1:=λi j b d=>by
 by_cases c:j<k
 .exact h i j b c
 .obtain rfl:j=k:=aj (c9 .A .B (.z (.s .A)<|.s .B) rfl d)<|(aJ c);by_cases hi:i=j-1
  .refine Rr hi ?_;exact e
  .exact O.1 _ _ _ (h i (j-1) (((cp hi)).elim (λa=>a) λa=>Ch 0 (.s .A) .B (.o (.s .B) .A<|.o (.s .A) .C<|.z .C<|.s .B) rfl a b (ck _ _))<|(el<|ac<|f)) e
theorem Dn.snoc(O:AB n lt)(h:Dn lt p k)(f:1<=k)(e:lt (gp p k) (gp p<|k-1)=Z8):Dn lt p<|k+1:=λi j b d=>by
 by_cases c:j<k
 .exact h i j b c
 .obtain rfl:j=k:=aj (c9 .A .B (.z (.s .A)<|.s .B) rfl d)<|(aJ c);by_cases hi:i=j-1
  .refine Rr hi ?_;exact e
  .exact O.1 _ _ _ e<|h i (j-1) (((cp hi)).elim (λa=>a) λa=>Ch 0 (.s .A) .B (.o (.s .B) .A<|.o (.s .A) .C<|.z .C<|.s .B) rfl a b (ck _ _))<|(el<|ac<|f)
variable{cmp:Nat->Nat->(Bool->aG->Prop)->aG->Prop}{s:aG}
abbrev z9(cmp:Nat->Nat->(Bool->aG->Prop)->aG->Prop)(s:aG)(n:Nat)(lt:Nat->Nat->Bool):Prop:=∀i j C,i<n->j<n->C (lt i j) s->cmp i j C s
theorem L0(O:AB n lt)(hc:z9 cmp s n lt)(b:Pm n p):∀{f k:Nat} {G:Nat->aG->Prop},1<=k->k+f<=n->Up lt p k->
  (∀m,k<=m->m<=k+f->Up lt p m->(m<k+f->lt (gp p m) (gp p<|m-1)=Z8)->G m s)->(kas_asc p f k).kasWp cmp G s:=by
 intro f;induction f with
 |zero=>intro k G;exact λi a d c=>c k (ba _) (ba _) d λh=>bq h λg=>lo1 (.z (.s .A)<|.p .A 0) rfl g
 |succ f r=>
  intro k G i a d c;refine hc _ _ _ (b.DI<|dT (.s .A) .B (.z (.a .A<|.s .C) .B) rfl a) (b.DI<|gy (.s .A) .B (.o (.a .C<|.s .D) .B<|.z .A .C) rfl a (bk _ _)) ?_;cases e:lt (gp p k) (gp p<|k-1) with
  |true=>exact c k (ba _) (c9 .A (.a .A<|.s .B) .e rfl) d λt=>e
  |false=>
   have e':lt (gp p<|k-1) (gp p k)=Z8:=by
    rcases O.3 _ _ (b.DI (k:=k)<|dT (.s .A) .B (.z (.a .A<|.s .C) .B) rfl a) (b.DI (k:=k-1)<|gy (.s .A) .B (.o (.a .C<|.s .D) .B<|.z .A .C) rfl a (bk _ _)) (b.ne (dT (.s .A) .B (.z (.a .A<|.s .C) .B) rfl a) (gy (.s .A) .B (.o (.a .C<|.s .D) .B<|.z .A .C) rfl a (bk _ _)) λg=>aM (el<|ac<|i)<|el g) with h|h
    .rw[e] at h;cases h
    .exact h
   exact r (dL .i (.s .A) .e rfl) (dT (.a (.s .A) .B) .C (.z (.a .A<|.s .B) .C) rfl a) (d.snoc O i e') λm j l o q=>c m (be j) (dT .A (.a .B<|.s .C) (.z .A<|.a (.s .B) .C) rfl l) o λh=>q<|dT (.s .A) (.a (.s .B) .C) (.z (.s .A)<|.a .B<|.s .C) rfl h
theorem O6(O:AB n lt)(hc:z9 cmp s n lt)(b:Pm n p):∀{f k:Nat} {G:Array Nat×Nat×Nat->aG->Prop},1<=k->k+f<=n->Dn lt p k->
  (∀m,k<=m->m<=n->Dn lt p m->G (p,m,0) s)->(kas_desc f p k 0).kasWp cmp G s:=by
 intro f;induction f with
 |zero=>intro k G;exact λg a d c=>c k (ba _) (c9 .A .B (.z (.p .A 0) .B) rfl a) d
 |succ f q=>
  intro k G g a d c;refine hc _ _ _ (b.DI<|dT (.s .A) .B (.z (.a .A<|.s .C) .B) rfl a) (b.DI<|gy (.s .A) .B (.o (.a .C<|.s .D) .B<|.z .A .C) rfl a (bk _ _)) ?_;cases e:lt (gp p k) (gp p<|k-1) with
  |true=>exact q (dL .i (.s .A) .e rfl) (dT (.a (.s .A) .B) .C (.z (.a .A<|.s .B) .C) rfl a) (d.snoc O g e) λm j l o=>c m (be j) l o
  |false=>
   refine hc _ _ _ (b.DI<|gy (.s .A) .B (.o (.a .C<|.s .D) .B<|.z .A .C) rfl a (bk _ _)) (b.DI<|dT (.s .A) .B (.z (.a .A<|.s .C) .B) rfl a) ?_;have e':lt (gp p<|k-1) (gp p k)=Z8:=by
    rcases O.3 _ _ (b.DI (k:=k)<|dT (.s .A) .B (.z (.a .A<|.s .C) .B) rfl a) (b.DI (k:=k-1)<|gy (.s .A) .B (.o (.a .C<|.s .D) .B<|.z .A .C) rfl a (bk _ _)) (b.ne (dT (.s .A) .B (.z (.a .A<|.s .C) .B) rfl a) (gy (.s .A) .B (.o (.a .C<|.s .D) .B<|.z .A .C) rfl a (bk _ _)) λi=>aM (el<|ac<|g)<|el i) with h|h
    .rw[e] at h;injection h
    .exact h
   refine Rr (show lt (p.getD (k-1) 0) (p.getD k 0)=Z8 from e')<|c k (ba _) (dT .A .B (.z (.a .A<|.s .C) .B) rfl a) d
theorem Dw{i j:Nat}(h:p[i]?=q[j]?):gp p i=gp q j:=by unfold gp;exact Rr ny<|Rr ny<|Rr h rfl
theorem R9(c:m<=p.size)(h:Dn lt p m):Up lt (Hi p 0 m) m:=λi j b a=>by
 have d:gp (Hi p 0 m) i=gp p (m-1-i):=Dw (by unfold Hi;rewrite[getElem?_mirror_all c];refine Rr (bf ⟨by exact dL (.n 0) .A .e rfl,by exact dT (.s .A) .B (.o (.s .A) .C<|.z (.s .C) .B) rfl b a⟩) ?_;congr 1;exact aj (vd .A .B (.o .C (.a .B .D)<|.o .E (.s .C)<|.o (.a .A .D) .F<|.z (.s .F)<|.a (.n 0) .E) rfl (ck _ _) (ck _ _) (el<|ac<|gy .A .B (.o (.s .A) .C<|.o (.s .C) .D<|.z (.a (.n 0) .D)<|.s .B) rfl b a (ck _ _)) (el<|ac<|c9 .i (.a (.n 0) .A) (.z (.s .B) .A) rfl a))<|vd .A .B (.o .C (.a .B .D)<|.o (.a (.n 0) .E) (.s .C)<|.o (.a .A .D) .F<|.z (.s .F) .E) rfl (ck _ _) (ck _ _) (el<|ac<|gy .A .B (.o (.s .A) .C<|.o (.s .C) .D<|.z .D<|.s .B) rfl b a (ck _ _)) (el<|ac<|c9 .i .A (.z (.s .B) .A) rfl a));have e:gp (Hi p 0 m) j=gp p (m-1-j):=Dw (by unfold Hi;rewrite[getElem?_mirror_all c];refine Rr (bf ⟨by exact dL (.n 0) .A .e rfl,by exact a⟩) ?_;congr 1;exact aj (vd .A .B (.o .C (.a .B .D)<|.o .E (.s .C)<|.o (.a .A .D) .F<|.z (.s .F)<|.a (.n 0) .E) rfl (ck _ _) (ck _ _) (el<|ac<|dT .A .B (.o (.s .A) .C<|.z (.a (.n 0) .C)<|.s .B) rfl a (ck _ _)) (el<|ac<|c9 .i (.a (.n 0) .A) (.z (.s .B) .A) rfl a))<|vd .A .B (.o .C (.a .B .D)<|.o (.a (.n 0) .E) (.s .C)<|.o (.a .A .D) .F<|.z (.s .F) .E) rfl (ck _ _) (ck _ _) (el<|ac<|dT .A .B (.o (.s .A) .C<|.z .C<|.s .B) rfl a (ck _ _)) (el<|ac<|c9 .i .A (.z (.s .B) .A) rfl a));refine Rr d<|Rr e ?_;exact h _ _ (pI (.s .A) .B (.o (.s .C) .D<|.o .E (.a .B .C)<|.z (.a .A .D) .E) rfl b (ck _ _) (el<|ac<|dT .A .B (.o (.s .A) .C<|.z .C<|.s .B) rfl a (ck _ _)))<|dT (.s .A) .B (.o .A .C<|.z (.s .C) .B) rfl (bk _ _) (el<|ac<|c9 .i .A (.z (.s .B) .A) rfl a)
theorem Jp(O:AB n lt)(hc:z9 cmp s n lt)(a:Pm n p)(b:2<=n){G:Nat×Array Nat->aG->Prop}
  (o:∀m q,Pm n q->1<=m->m<=n->Up lt q m->G (m,q) s):(kas_count n p).kasWp cmp G s:=by
 unfold kas_count;rw[KasT.kasWp_bind];refine L0 O hc a (ba _) (c9 (.a .i .A) .B (.z (.s .A) .B) rfl (el<|ac<|dL .i .A (.z (.n 2) .A) rfl b)) Up.one λm d h k v=>?_;split
 .exact o m p a d (dT .A .B (.o .A (.a .i .C)<|.z (.s .C) .B) rfl h (el<|ac<|dL .i .A (.z (.n 2) .A) rfl b)) k
 .rename_i f;have f:m≠n:=λe=>f (by simp[e]);split
  .refine hc _ _ _ (a.DI<|dL (.s<|.n 0) .A (.z (.n 2) .A) rfl b) (a.DI<|gy (.s .A) .B (.o .C (.a .i .D)<|.o (.s .A) .C<|.z (.s .D) .B) rfl h (el<|ac<|d) (el<|ac<|dL .i .A (.z (.n 2) .A) rfl b)) ?_;refine Rr (show lt (p.getD 0 0) (p.getD (m-1) 0)=Z8 from k 0 (m-1) (by rename_i c;exact oS c)<|(el<|ac<|d))<|o m p a d (dT .A .B (.o .A (.a .i .C)<|.z (.s .C) .B) rfl h (el<|ac<|dL .i .A (.z (.n 2) .A) rfl b)) k
  .obtain rfl:m=1:=by rename_i c;exact aj (aJ c) d
   unfold kas_descPart;rw[KasT.kasWp_bind];have e:=v<|c9 (.s .i) (.a .i .A) (.o (.n 2) .B<|.z .B<|.s .A) rfl b (ck _ _);refine O6 O hc a (by decide) (c9 (.a (.s .i) .A) .B (.z (.a .A<|.s .i) .B) rfl (el<|ac<|dL (.s .i) .A (.z (.n 2) .A) rfl b)) (λi j hi t=>?_) λm r l w=>?_
   .obtain rfl:i=0:=aj (c9 .A (.n 0) (.o (.s .A) .B<|.z (.s .B)<|.s .i) rfl hi t)<|dL (.n 0) .A .e rfl;obtain rfl:j=1:=aj (dL .A .i (.z (.s .A)<|.s .i) rfl t)<|dL .i .A (.z (.s<|.n 0) .A) rfl hi;exact e
   .show(kas_tail3 m n p).kasWp cmp G s;unfold kas_tail3;rw[KasT.kasWp_bind];have u:Pm n<|Hi p 0 m:=a.Gs<|mirror_perm _ _ _ _;refine L0 O hc u (be r) (dT (.a .A .B) .C (.z (.a .B .A) .C) rfl (el<|ac<|l)) (R9 (by refine Rr a.size ?_;exact l) w) λz x y g A=>?_;exact o z _ u (c9 .i .A (.o (.s .i) .B<|.z .B .A) rfl r x) (gy .A .B (.o .A (.a .C .D)<|.z (.a .D .C) .B) rfl y (el<|ac<|l)) g
theorem Mc(O:AB n lt)(hc:z9 cmp s n lt)(q:Pm n p)(j:k<n):∀{f l r:Nat} {G:Nat->aG->Prop},l<=r->r<=k->r-l<=f->
  (∀i,i<l->lt (gp p i) (gp p k)=Z8)->(∀i,r<=i->i<k->lt (gp p k) (gp p i)=Z8)->Up lt p k->
  (∀l,l<=k->(∀i,i<l->lt (gp p i) (gp p k)=Z8)->(∀i,l<=i->i<k->lt (gp p k) (gp p i)=Z8)->G l s)->(kas_place p k f l r).kasWp cmp G s:=by
 intro f;induction f with
 |zero=>intro l r G m b u v w t o;obtain rfl:l=r:=aj (m)<|dT .A .B (.o .C (.n 0)<|.z .A<|.a .C .B) rfl u (ck _ _);exact o l b v w
 |succ f y=>
  intro l r G m b u v w t o;unfold kas_place;split
  .obtain rfl:l=r:=by rename_i c;exact aj m c
   exact o l b v w
  .refine hc _ _ _ (q.DI j) (q.DI<|Sd 2 (.s .A) .B (.c 2 (.s .C) .B<|.o .D .E<|.c 2 .E .C<|.z (.m 2 .A)<|.a .D .E) rfl j m b (aQ _ _)) ?_;have g:l<=(l+r)/2:=Ch 2 .A .B (.o .A .C<|.z (.s<|.a .A .C)<|.p (.m 2 .B) 2) rfl m (wL rfl);have a:(l+r)/2<r:=by rename_i c;exact Nat.div_lt_of_lt_mul<|Nat.two_mul r▸Nat.add_lt_add_right (b8 c) r
   cases e:lt (gp p k) (gp p<|(l+r)/2) with
   |true=>
    refine y g (dT .A .B (.o .C .B<|.z (.s .A) .C) rfl b a) (vd .A .B (.o .C (.s .B)<|.o (.s .D) .E<|.o .E (.a .C .F)<|.z (.a .A .F) .D) rfl u a (ck _ _) (el<|ac<|g)) v (λi x z=>?_) t o;by_cases hi:i=(l+r)/2
    .refine Rr hi ?_;exact e
    .exact O.1 _ _ _ e<|t _ _ (((cp hi)).elim (λd=>H1 0 (.s .A) .B (.o (.s .B) .A<|.z .A .B) rfl d x) λd=>d) z
   |false=>
    have e':lt (gp p<|(l+r)/2) (gp p k)=Z8:=by
     rcases O.3 _ _ (q.DI j) (q.DI (k:=(l+r)/2)<|gy (.s .A) .B (.o (.s .C) .B<|.o .D .C<|.z (.s .A) .D) rfl j b a) (q.ne j (gy (.s .A) .B (.o (.s .C) .B<|.o .D .C<|.z (.s .A) .D) rfl j b a) λd=>MP (.o .A .B<|.o .C .A<|.z (.s .B) .C) rfl (el d) b a) with h|h
     .rw[e] at h;injection h
     .exact h
    refine y (a) b (vd .A .B (.o .C (.s .B)<|.o .D .E<|.o .F (.a .C .D)<|.z (.a .A<|.s .E) .F) rfl u g (ck _ _) (el<|ac<|a)) (λi x=>?_) w t o;by_cases hi:i=(l+r)/2
    .refine Rr hi ?_;exact e'
    .exact O.1 _ _ _ (t i _ (((cp hi)).elim (λd=>d) λd=>H1 0 (.s .A) .B (.o (.s .B) .A<|.z (.s .A)<|.s .B) rfl d x)<|ao a b) e'
theorem Hv(t:k<p.size)(m:l<=k)(q:Up lt p k)(r:∀i,i<l->lt (gp p i) (gp p k)=Z8)(s:∀i,l<=i->i<k->lt (gp p k) (gp p i)=Z8):Up lt (bubble p k<|k-l)<|k+1:=λi j hi h=>by
 have g:∀x,x<=k->gp (bubble p k<|k-l) x=if x=l then gp p k else if l<x then gp p (x-1) else gp p x:=λx u=>by
  have:=getElem?_bubble t (k-l) (by exact(bk _ _)) x;by_cases a:x=l
  .refine Rr (bf a) ?_;rw[bf<|by exact aj (pI .A .B (.o .A .C<|.o .D (.a .B .E)<|.z (.a .E .C) .D) rfl (el a) (ck _ _) (el<|ac<|m))<|pI .A .B (.o .C .B<|.o .D (.a .E .C)<|.z (.a .A .E) .D) rfl (eg a) (ck _ _) (el<|ac<|(bk _ _))] at this;exact Dw this
  .refine Rr (aK a) ?_;rw[aK<|by exact λf=>((cp a)).elim (λn=>Wk (.o (.s .A) .B<|.o .C .A<|.o .D (.a .C .E)<|.z (.a .E .B) .D) rfl n (eg f) (ck _ _) (el<|ac<|m)) λn=>Wk (.o (.s .A) .B<|.o .B .C<|.o .D (.a .E .A)<|.z (.a .C .E) .D) rfl n (el f) (ck _ _) (el<|ac<|(bk _ _))] at this;by_cases b:l<x
   .refine Rr (bf b) ?_;rw[bf<|by exact⟨pI (.s .A) .B (.o (.s .C) .B<|.o .D (.a .E .C)<|.z (.a .A .E) .D) rfl b (ck _ _) (el<|ac<|(bk _ _)),u⟩] at this;exact Dw this
   .refine Rr (aK b) ?_;rw[aK<|by exact λf=>Wk (.o (.s .A) .B<|.o .B .C<|.o .D (.a .A .E)<|.z (.a .E .C) .D) rfl f.1 (aJ b) (ck _ _) (el<|ac<|m)] at this;exact Dw this
 refine Rr (g i<|by exact dT .A .B (.o (.s .A) .C<|.z (.s .C)<|.s .B) rfl hi h) (Rr (g j<|by exact c9 .A .B (.z (.s .A)<|.s .B) rfl h) ?_);by_cases a:i=l
 .refine Rr (bf a) (Rr (aK<|by exact λf=>MP (.o .A .B<|.o (.s .C) .A<|.z .B .C) rfl (el f) hi (eg a))<|Rr (bf<|by exact dT (.s .A) .B (.o (.s .C) .B<|.z .A .C) rfl hi (eg a)) ?_);exact s _ (gy .A .B (.o (.s .C) .D<|.o .A .C<|.z .D<|.s .B) rfl hi (eg a) (ck _ _))<|dT (.s .A) .B (.o (.s .C) (.s .B)<|.z (.s .A) .C) rfl h (el<|ac<|c9 .i .A (.z (.s .B) .A) rfl hi)
 .refine Rr (aK a) ?_;by_cases b:l<i
  .refine Rr (bf b)<|Rr (aK λf=>MP (.o .A .B<|.o (.s .C) .A<|.z (.s .B) .C) rfl (el f) hi b)<|Rr (bf<|dT (.s .A) .B (.o (.s .C) .B<|.z (.s .A) .C) rfl hi b) ?_;exact q _ _ (gy (.s .A) .B (.o (.s .C) .D<|.o .D (.s .B)<|.z (.s .A) .C) rfl hi (ck _ _) (el<|ac<|c9 .i .A (.z (.s .B) .A) rfl b))<|dT (.s .A) .B (.o (.s .C) (.s .B)<|.z (.s .A) .C) rfl h (el<|ac<|c9 .i .A (.z (.s .B) .A) rfl hi)
  .refine Rr (aK b) ?_;by_cases c:j=l
   .refine Rr (bf c) ?_;exact r _<|ao hi<|el c
   .refine Rr (aK c) ?_;by_cases d:l<j
    .refine Rr (bf d) ?_;by_cases e:i=j-1
     .exact bq (aj (e▸Nat.le_sub_one_of_lt d)<|aJ b).symm a
     .exact q _ _ (((cp a)).elim (λf=>gy (.s .A) .B (.o (.s .A) .C<|.o (.s .C) .D<|.z .D<|.s .B) rfl f d (ck _ _)) λf=>Ch 0 (.s .A) .B (.o (.s .C) .A<|.z .A .C) rfl f (aJ b))<|dT (.s .A) .B (.o (.s .C) (.s .B)<|.z (.s .A) .C) rfl h (el<|ac<|c9 .i .A (.z (.s .B) .A) rfl hi)
    .refine Rr (aK d) ?_;exact q _ _ hi<|((cp a)).elim (λf=>((cp c)).elim (λo=>ao o m) λo=>Ch 0 (.s .A) .B (.o (.s .C) .A<|.z .A .C) rfl o (aJ d)) λf=>Ec 0 (.s .A) .B (.o (.s .C) .D<|.z .D .C) rfl f (aJ b)
theorem SJ(O:AB n lt)(hc:z9 cmp s n lt)(j:∀p,Pm n p->Up lt p n->G p s):∀{f k:Nat} {p:Array Nat},Pm n p->k+f=n->Up lt p k->(kas_bin f p k).kasWp cmp G s:=by
 intro f;induction f with
 |zero=>
  intro k p a h b;obtain rfl:k=n:=by exact aj (c9 .A .B (.z (.p .A 0) .B) rfl (el h))<|c9 .A .B (.z .A<|.p .B 0) rfl (eg h)
  exact j p a b
 |succ f m=>intro k p a h b;refine Rr (show kas_bin (f+1) p k=(kas_place p k k 0 k).bind λl=>kas_bin f (bubble p k<|k-l) (k+1) from rfl) ?_;rw[KasT.kasWp_bind];refine Mc O hc a (by exact dT (.s .A) .B (.z (.a .A<|.s .C) .B) rfl (el h)) (bS _) (ba _) (by exact(bk _ _)) (λi h=>bq h λc=>lo1 (.z (.s .A)<|.n 0) rfl c) (λi d e=>bq d λc=>aM e c) b λl d e g=>m (a.Gs<|bubble_perm _ _ _) (aj (dT (.a (.s .A) .B) .C (.z (.a .A<|.s .B) .C) rfl (el h))<|dT .A (.a (.s .B) .C) (.z .A<|.a .B<|.s .C) rfl (eg h))<|Hv (by refine Rr a.size ?_;exact dT (.s .A) .B (.z (.a .A<|.s .C) .B) rfl (el h)) d b e g
theorem Pl(O:AB n lt)(hc:z9 cmp s n lt)(g:2<=n)(f:∀p,Pm n p->Up lt p n->G p s):(kas_sort n).kasWp cmp G s:=by
 unfold kas_sort;rw[KasT.kasWp_bind];have h:Pm n<|qw<|ay n:=by unfold Pm;simp
 refine Jp O hc h g λm i a b d e=>?_;dsimp only;split
 .refine SJ O hc f a (aj (dT (.a .A .B) .C (.z (.a .B .A) .C) rfl (el<|ac<|ao (el<|mX<|b) d))<|dT .A (.a .B .C) (.z .A<|.a .C .B) rfl (ck _ _)) ?_;refine Rr (show max m 1=m by exact aj ((el<|mX<|b))<|(qM _ _)) ?_;exact e
 .obtain rfl:m=n:=by rename_i c;exact aj d<|aJ c
  exact f i a e
end
abbrev pw:qz:=PySem.Challenge.pw_nn0130_01
noncomputable def sq(p:qz)(w:bN)(b:Nat)(a:Option aF):Nat->SharedT->Thread->Option SharedT
 |0,_,_=>Z9
 |n+1,s,t=>match through t with
  |true=>fU s
  |false=>match PySem.W.Fast.tw6613529449190102663 b a t with
   |false=>Z9
   |true=>match PySem.W.Fast.tw10156331382660048174 (PySem.W.Fast.tw11892475500146522536 PySem.W.Fast.tw14364793385576792824) p w s t with
    |some (s',t')=>sq p w b a n s' t'
    |none=>Z9
theorem Bb{p:qz}{w:bN}{b:Nat}{a:Option aF}:∀{n:Nat} {s s':SharedT} {t:Thread},
  sq p w b a n s t=fU s'->topRun w3 p w b a n s.abs t=fU s'.abs:=by
 intro n;induction n with
 |zero=>exact λh=>nomatch h
 |succ n g=>
  intro s s' t h;show(match through t with
   |true=>fU s.abs
   |false=>match stepOk b a t with
    |false=>Z9
    |true=>match step (denote w3) p w s.abs t with
     |.go s' t'=>topRun w3 p w b a n s' t'
     |.halt _ _=>Z9)=_
  replace h:(match through t with
   |true=>fU s
   |false=>match stepOk b a t with
    |false=>Z9
    |true=>match stepT (denote w3) p w s t with
     |some (s',t')=>sq p w b a n s' t'
     |none=>Z9)=fU s':=by rw[PySem.W.Fast.te6613529449190102663,PySem.W.Fast.te10156331382660048174,PySem.W.Fast.te11892475500146522536,PySem.W.Fast.te14364793385576792824];exact h
  cases f:through t with
  |true=>rw[f] at h;injection h with c;subst c;rfl
  |false=>
   rw[f] at h;cases e:stepOk b a t with
   |false=>rw[e] at h;injection h
   |true=>
    rw[e] at h;cases d:stepT (denote w3) p w s t with
    |none=>rw[d] at h;injection h
    |some r=>obtain⟨i,j⟩:=r;rw[d] at h;refine Rr (stepT_spec d)<|g h
theorem Fo{p q:qz}{a:List eT}{o:aG->Bool}{α:Type}{v:aG->α}{u:bN->α}{N:Nat}{g0:Bool}{H₀:eY->qA}{T₀:eY->BT}{n:Nat}{b:Life}{c:Array GenState}{l:Drawn}{m:Nat}{x:Nat}{g:Option aF}{M:Nat}
  (f:∀w:bN,(fencedOpening w3 p w N).map (λs=>(s.1,s.2,s.3,s.4))=fU (H₀ w.2,c,l,m))
  (hT:∀P,absHeap (T₀ P) n b=H₀ P)
  (size:∀w:bN,((H₀ w.2).isNs sJ&&c.size==0,(H₀ w.2).1.size,(H₀ w.2).nsMap sJ "__annotations__")=(Z8,x,g))
  (run:∀(w:bN),(λos=>(sq p w x g M ⟨T₀ w.2,n,b,c,l,m,os⟩<|topStub p).map λs=>
    ((staticsOk (pX p.1.1) (H₀ w.2) s.abs.1&&namesBound p s.abs.1&&gensDone s.abs&&laidKept (H₀ w.2) s.abs.1),
    openSeen q a (pX p.1.1) o g0 s.abs,v s.abs))=λH=>fU (Z8,openGood q a,u w))(le:Nat.ble M N=Z8):LeftO p q a o v u N g0:=λw=>by
 refine bO (eF.1<|f w) λj e e'=>?_;obtain⟨h,gs,d,k,os⟩:=j;obtain⟨rfl,rfl,rfl,rfl⟩:h=H₀ w.2/\gs=c/\d=l/\k=m:=by simpa using e'
 obtain⟨E,F,G⟩:_/\_/\_:=by simpa only [nA.injEq] using size w
 refine bO (eF.1<|congrFun (run w) os) λi A z=>?_;obtain⟨B,C,D⟩:_/\_/\_:=by simpa only [nA.injEq] using z
 have r:=topRun_mono (N-M) _ _ _ _<|Bb A;rw[show M+(N-M)=N by have:=ai le;exact aj (dT (.a .A .B) .C (.z (.a .B .A) .C) rfl (el<|ac<|this))<|dT .A (.a .B .C) (.z .A<|.a .C .B) rfl (ck _ _)] at r;have y:(SharedT.abs ⟨T₀ w.2,n,b,gs,d,k,os⟩)=⟨H₀ w.2,gs,d,k,os⟩:=by show Shared.mk (absHeap _ _ _) _ _ _ _=_;rw[hT]
 rw[y] at r;have t:topFrom w3 p w N ⟨H₀ w.2,gs,d,k,os⟩=fU i.abs:=by unfold topFrom;dsimp only;refine Rr E<|Rr F<|Rr G<|Rr r ?_;show(match staticsOk (pX p.1.1) (H₀ w.2) i.abs.1&&namesBound p i.abs.1&&gensDone i.abs&&laidKept (H₀ w.2) i.abs.1 with|true=>_|false=>_)=_;exact Rr B rfl
 unfold openEnds;refine Rr e ?_;show(topFrom w3 p w N ⟨H₀ w.2,gs,d,k,os⟩).map _=_;refine Rr t ?_;show fU (_,_)=fU (_,_);exact Rr C<|Rr D rfl
noncomputable def WW:List Hj->Nat->BT->BT
 |[],_,t=>t
 |o::r,n,t=>WW r (n+1)<|t.ins n o
noncomputable def Kn(P:eY):BT:=WW (oD P).1.1 0 .nil
theorem HI:∀P,absHeap (Kn P) 11 {}=oD P:=by intro P;kernel_rfl
noncomputable def en(P:eY)(x:eT)(t:Tok)(v:aF):MS:=⟨PyData.keyHash P x,.str x t,v⟩
noncomputable def OH:iW->Option (eT×Arguments×List iW×i5)
 |.FunctionDef name args body _ _ _ scope _ _ _=>fU (name,args,body,scope)
 |_=>Z9
noncomputable def kL(st:iW)(qual mod:eT)(mt:Tok)(code:bW):Hj:=(OH st).elim default λd=>⟨.type "function",Z9,.func {name:=d.1,qualname:=qual,params:=d.2.1,body:=.stmts d.2.2.1,scope:=d.2.2.2,globals:=3,closure:=[],defaults:=.none,kwdefaults:=.none,doc:=.none,pyModule:=.str mod mt,annotations:=Z9,code:=.ref code,closureTuple:=.none,builtins:=0},#[]⟩
noncomputable def st(i:Nat):iW:=pw.1.1[i]?.getD<|.Pass default
noncomputable def me(i j:Nat):iW:=match st i with
 |.ClassDef _ _ _ b _ _ _ _ _ _ _=>b[j]?.getD<|.Pass default
 |_=>.Pass default
noncomputable def oB(d:Nat)(n q:eT)(a:Nat)(l p:Int)(t:Nat):bW×Hj:=(d,⟨.type "code",Z9,.fields [.str n a,.str q<|a+1,.str "/claim/cut.py"<|a+2,.int l 0,.int p 0,.int (0) 0,.int (0) 0,.int (3) 0,.ref<|d-5,.bool Z8,.int (181) 0,.ref<|d-4,.none,.ref<|d-3,.ref<|d-2,.ref<|d-1,.int t 0,.int l 0,.str "/claim/cut.py"<|t+1].toArray,[].toArray⟩)
noncomputable def IW(d:Nat)(n q:eT)(a:Nat)(l p:Int)(t:Nat):bW×Hj:=(d,⟨.type "code",Z9,.fields [.str n a,.str q<|a+1,.str "/claim/cut.py"<|a+2,.int l 0,.int p 0,.int (0) 0,.int (0) 0,.int (3) 0,.ref<|d-3,.bool Z8,.int (181) 0,.ref<|d-2,.none,.none,.none,.ref<|d-1,.int t 0,.int l 0,.str "/claim/cut.py"<|t+1].toArray,[].toArray⟩)
noncomputable def KF(P:eY):Frag:=[
 (3,⟨.type "dict",Z9,.dict [en P "__name__" 165<|.str "law_nn0130_01" 783,en P "__doc__" 166<|.none,en P "__package__" 167<|.none,en P "__loader__" 168<|.builtin "__main__.__loader__#opaque",en P "__spec__" 169<|.none,en P "__annotations__" 170<|.ref 6,en P "__builtins__" 171<|.ref 4,en P "__file__" 173<|.str "/claim/cut.py" 172,en P "__cached__" 174<|.none,en P "PaperError" 228<|.ref 39,en P "FilterFault" 244<|.ref 52,en P "OCTET" 248<|.int (8) 247,en P "low_bits" 256<|.ref 61,en P "turned_about" 266<|.ref 68,en P "check_fit" 274<|.ref 75,en P "BitsOut" 342<|.ref 127,en P "greatest_length" 351<|.ref 138,en P "tally_of" 360<|.ref 145,en P "room_left" 369<|.ref 152,en P "is_over" 376<|.ref 159,en P "first_codes" 385<|.ref 166,en P "codes_of" 395<|.ref 173,en P "Encoder" 432<|.ref 195,en P "merged" 445<|.ref 206,en P "package_rows" 451<|.ref 211,en P "code_lengths" 457<|.ref 216,en P "length_order" 467<|.ref 223,en P "fixed_lengths" 473<|.ref 230,en P "cost_of" 485<|.ref 237,en P "END" 489<|.int (256) 488,en P "UNUSED_PRICE" 491<|.int (16) 490,en P "split_number" 500<|.ref 244,en P "length_symbol" 510<|.ref 251,en P "distance_symbol" 517<|.ref 258,en P "Prices" 570<|.ref 289,en P "counts_of" 580<|.ref 300,en P "with_two" 586<|.ref 305,en P "lengths_for" 595<|.ref 312,en P "cut_lengths" 604<|.ref 319,en P "run_rows" 614<|.ref 326,en P "nought_rows" 622<|.ref 333,en P "again_rows" 631<|.ref 340,en P "Head" 686<|.ref 369,en P "put_parts" 702<|.ref 380,en P "put_stored" 711<|.ref 387,en P "put_fixed" 722<|.ref 394,en P "fixed_bits" 731<|.ref 401,en P "stored_bits" 739<|.ref 408,en P "Block" 782<|.ref 432,en P "_law_ORDER" 804<|.ref 437,en P "_law_taker" 814<|.ref 444,en P "_law_number" 820<|.ref 449,en P "_law_codes" 826<|.ref 454,en P "_law_symbol" 837<|.ref 461,en P "_law_head" 853<|.ref 468,en P "_law_parts" 859<|.ref 473,en P "_law_part" 868<|.ref 480,en P "_law_bits" 874<|.ref 485,en P "_law_counts" 880<|.ref 490,en P "_law_is_good" 886<|.ref 495,en P "law" 892<|.ref 500].toArray 61,[].toArray⟩),
 oB 60 "low_bits" "low_bits" 249 15 2 254,
 (61,kL (st 5) "low_bits" "paperhold.bits" 245 60),
 oB 67 "turned_about" "turned_about" 257 17 2 264,
 (68,kL (st 6) "turned_about" "paperhold.bits" 245 67),
 oB 74 "check_fit" "check_fit" 267 22 2 272,
 (75,kL (st 7) "check_fit" "paperhold.bits" 245 74),
 oB 88 "__init__" "BitsOut.__init__" 287 27 1 291,
 (89,kL (me 8 0) "BitsOut.__init__" "paperhold.bits" 245 88),
 oB 95 "put" "BitsOut.put" 294 32 3 300,
 (96,kL (me 8 1) "BitsOut.put" "paperhold.bits" 245 95),
 oB 102 "align" "BitsOut.align" 303 41 1 307,
 (103,kL (me 8 2) "BitsOut.align" "paperhold.bits" 245 102),
 oB 109 "put_octets" "BitsOut.put_octets" 310 45 2 315,
 (110,kL (me 8 3) "BitsOut.put_octets" "paperhold.bits" 245 109),
 oB 116 "bit_count" "BitsOut.bit_count" 318 49 1 322,
 (117,kL (me 8 4) "BitsOut.bit_count" "paperhold.bits" 245 116),
 oB 123 "octets" "BitsOut.octets" 325 52 1 329,
 (124,kL (me 8 5) "BitsOut.octets" "paperhold.bits" 245 123),
 (126,⟨.type "dict",Z9,.dict [en P "__module__" 282<|.str "paperhold.bits" 245,en P "__firstlineno__" 286<|.int (25) 285,en P "__init__" 293<|.ref 89,en P "put" 302<|.ref 96,en P "align" 309<|.ref 103,en P "put_octets" 317<|.ref 110,en P "bit_count" 324<|.ref 117,en P "octets" 331<|.ref 124,en P "__static_attributes__" 335<|.ref 125,en P "__dict__" 337<|.ref 128,en P "__weakref__" 339<|.ref 129,en P "__doc__" 340<|.none].toArray 4,[].toArray⟩),
 (127,⟨.type "type",Z9,.cls {name:="BitsOut",bases:=[.type "object"],mro:=[.ref 127,.type "object"],ns:=126,qualname:="BitsOut",hasDict:=Z8,slotNames:=[],subclasses:=[],abstract:=Z7,collection:=Z9,hasDel:=Z7},[Z9,Z9,fU<|.str "BitsOut" 275,fU<|.str "BitsOut" 283,fU<|.builtin "object.__new__",fU<|.bool Z8].toArray⟩),
 oB 137 "greatest_length" "greatest_length" 345 57 1 349,
 (138,kL (st 10) "greatest_length" "paperhold.huffman" 343 137),
 oB 144 "tally_of" "tally_of" 352 59 1 358,
 (145,kL (st 11) "tally_of" "paperhold.huffman" 343 144),
 oB 151 "room_left" "room_left" 361 65 1 367,
 (152,kL (st 12) "room_left" "paperhold.huffman" 343 151),
 oB 158 "is_over" "is_over" 370 70 1 374,
 (159,kL (st 13) "is_over" "paperhold.huffman" 343 158),
 oB 165 "first_codes" "first_codes" 377 72 1 383,
 (166,kL (st 14) "first_codes" "paperhold.huffman" 343 165),
 oB 172 "codes_of" "codes_of" 386 77 1 393,
 (173,kL (st 15) "codes_of" "paperhold.huffman" 343 172),
 IW 184 "__init__" "Encoder.__init__" 408 88 2 411,
 (185,kL (me 16 0) "Encoder.__init__" "paperhold.huffman" 343 184),
 oB 191 "put" "Encoder.put" 414 93 3 420,
 (192,kL (me 16 1) "Encoder.put" "paperhold.huffman" 343 191),
 (194,⟨.type "dict",Z9,.dict [en P "__module__" 403<|.str "paperhold.huffman" 343,en P "__firstlineno__" 407<|.int (86) 406,en P "__init__" 413<|.ref 185,en P "put" 422<|.ref 192,en P "__static_attributes__" 425<|.ref 193,en P "__dict__" 427<|.ref 196,en P "__weakref__" 429<|.ref 197,en P "__doc__" 430<|.none].toArray 4,[].toArray⟩),
 (195,⟨.type "type",Z9,.cls {name:="Encoder",bases:=[.type "object"],mro:=[.ref 195,.type "object"],ns:=194,qualname:="Encoder",hasDict:=Z8,slotNames:=[],subclasses:=[],abstract:=Z7,collection:=Z9,hasDel:=Z7},[Z9,Z9,fU<|.str "Encoder" 396,fU<|.str "Encoder" 404,fU<|.builtin "object.__new__",fU<|.bool Z8].toArray⟩),
 oB 205 "merged" "merged" 433 97 2 443,
 (206,kL (st 17) "merged" "paperhold.huffman" 343 205),
 IW 210 "package_rows" "package_rows" 446 110 2 449,
 (211,kL (st 18) "package_rows" "paperhold.huffman" 343 210),
 IW 215 "code_lengths" "code_lengths" 452 118 2 455,
 (216,kL (st 19) "code_lengths" "paperhold.huffman" 343 215),
 oB 222 "length_order" "length_order" 460 136 0 465,
 (223,kL (st 21) "length_order" "paperhold.inflate" 458 222),
 oB 229 "fixed_lengths" "fixed_lengths" 468 144 0 471,
 (230,kL (st 22) "fixed_lengths" "paperhold.inflate" 458 229),
 oB 236 "cost_of" "cost_of" 476 147 2 483,
 (237,kL (st 24) "cost_of" "paperhold.matches" 474 236),
 oB 243 "split_number" "split_number" 492 158 2 498,
 (244,kL (st 28) "split_number" "paperhold.deflate" 486 243),
 oB 250 "length_symbol" "length_symbol" 501 163 1 508,
 (251,kL (st 29) "length_symbol" "paperhold.deflate" 486 250),
 oB 257 "distance_symbol" "distance_symbol" 511 168 1 515,
 (258,kL (st 30) "distance_symbol" "paperhold.deflate" 486 257),
 oB 271 "__init__" "Prices.__init__" 530 172 3 536,
 (272,kL (me 31 0) "Prices.__init__" "paperhold.deflate" 486 271),
 oB 278 "literal" "Prices.literal" 539 176 2 544,
 (279,kL (me 31 1) "Prices.literal" "paperhold.deflate" 486 278),
 oB 285 "match" "Prices.match" 547 179 3 558,
 (286,kL (me 31 2) "Prices.match" "paperhold.deflate" 486 285),
 (288,⟨.type "dict",Z9,.dict [en P "__module__" 525<|.str "paperhold.deflate" 486,en P "__firstlineno__" 529<|.int (170) 528,en P "__init__" 538<|.ref 272,en P "literal" 546<|.ref 279,en P "match" 560<|.ref 286,en P "__static_attributes__" 563<|.ref 287,en P "__dict__" 565<|.ref 290,en P "__weakref__" 567<|.ref 291,en P "__doc__" 568<|.none].toArray 4,[].toArray⟩),
 (289,⟨.type "type",Z9,.cls {name:="Prices",bases:=[.type "object"],mro:=[.ref 289,.type "object"],ns:=288,qualname:="Prices",hasDict:=Z8,slotNames:=[],subclasses:=[],abstract:=Z7,collection:=Z9,hasDel:=Z7},[Z9,Z9,fU<|.str "Prices" 518,fU<|.str "Prices" 526,fU<|.builtin "object.__new__",fU<|.bool Z8].toArray⟩),
 oB 299 "counts_of" "counts_of" 571 183 1 578,
 (300,kL (st 32) "counts_of" "paperhold.deflate" 486 299),
 IW 304 "with_two" "with_two" 581 194 1 584,
 (305,kL (st 33) "with_two" "paperhold.deflate" 486 304),
 oB 311 "lengths_for" "lengths_for" 587 204 1 593,
 (312,kL (st 34) "lengths_for" "paperhold.deflate" 486 311),
 oB 318 "cut_lengths" "cut_lengths" 596 207 2 602,
 (319,kL (st 35) "cut_lengths" "paperhold.deflate" 486 318),
 oB 325 "run_rows" "run_rows" 605 212 1 612,
 (326,kL (st 36) "run_rows" "paperhold.deflate" 486 325),
 oB 332 "nought_rows" "nought_rows" 615 226 1 620,
 (333,kL (st 37) "nought_rows" "paperhold.deflate" 486 332),
 oB 339 "again_rows" "again_rows" 623 235 2 629,
 (340,kL (st 38) "again_rows" "paperhold.deflate" 486 339),
 IW 351 "__init__" "Head.__init__" 644 243 3 647,
 (352,kL (me 39 0) "Head.__init__" "paperhold.deflate" 486 351),
 oB 358 "bit_count" "Head.bit_count" 650 253 1 658,
 (359,kL (me 39 1) "Head.bit_count" "paperhold.deflate" 486 358),
 oB 365 "put" "Head.put" 661 259 2 671,
 (366,kL (me 39 2) "Head.put" "paperhold.deflate" 486 365),
 (368,⟨.type "dict",Z9,.dict [en P "__module__" 639<|.str "paperhold.deflate" 486,en P "__firstlineno__" 643<|.int (241) 642,en P "__init__" 649<|.ref 352,en P "bit_count" 660<|.ref 359,en P "put" 673<|.ref 366,en P "__static_attributes__" 679<|.ref 367,en P "__dict__" 681<|.ref 370,en P "__weakref__" 683<|.ref 371,en P "__doc__" 684<|.none].toArray 4,[].toArray⟩),
 (369,⟨.type "type",Z9,.cls {name:="Head",bases:=[.type "object"],mro:=[.ref 369,.type "object"],ns:=368,qualname:="Head",hasDict:=Z8,slotNames:=[],subclasses:=[],abstract:=Z7,collection:=Z9,hasDel:=Z7},[Z9,Z9,fU<|.str "Head" 632,fU<|.str "Head" 640,fU<|.builtin "object.__new__",fU<|.bool Z8].toArray⟩),
 oB 379 "put_parts" "put_parts" 687 269 4 700,
 (380,kL (st 40) "put_parts" "paperhold.deflate" 486 379),
 oB 386 "put_stored" "put_stored" 703 283 3 709,
 (387,kL (st 41) "put_stored" "paperhold.deflate" 486 386),
 oB 393 "put_fixed" "put_fixed" 712 290 3 720,
 (394,kL (st 42) "put_fixed" "paperhold.deflate" 486 393),
 oB 400 "fixed_bits" "fixed_bits" 723 295 1 729,
 (401,kL (st 43) "fixed_bits" "paperhold.deflate" 486 400),
 oB 407 "stored_bits" "stored_bits" 732 298 2 737,
 (408,kL (st 44) "stored_bits" "paperhold.deflate" 486 407),
 oB 421 "__init__" "Block.__init__" 752 302 2 758,
 (422,kL (me 45 0) "Block.__init__" "paperhold.deflate" 486 421),
 oB 428 "put" "Block.put" 761 309 3 767,
 (429,kL (me 45 1) "Block.put" "paperhold.deflate" 486 428),
 (431,⟨.type "dict",Z9,.dict [en P "__module__" 747<|.str "paperhold.deflate" 486,en P "__firstlineno__" 751<|.int (300) 750,en P "__init__" 760<|.ref 422,en P "put" 769<|.ref 429,en P "__static_attributes__" 775<|.ref 430,en P "__dict__" 777<|.ref 433,en P "__weakref__" 779<|.ref 434,en P "__doc__" 780<|.none].toArray 4,[].toArray⟩),
 (432,⟨.type "type",Z9,.cls {name:="Block",bases:=[.type "object"],mro:=[.ref 432,.type "object"],ns:=431,qualname:="Block",hasDict:=Z8,slotNames:=[],subclasses:=[],abstract:=Z7,collection:=Z9,hasDel:=Z7},[Z9,Z9,fU<|.str "Block" 740,fU<|.str "Block" 748,fU<|.builtin "object.__new__",fU<|.bool Z8].toArray⟩),
 (437,⟨.type "tuple",Z9,.seq [.int 16 785,.int 17 786,.int 18 787,.int 0 788,.int 8 789,.int 7 790,.int 9 791,.int 6 792,.int 10 793,.int 5 794,.int 11 795,.int 4 796,.int 12 797,.int 3 798,.int 13 799,.int 2 800,.int 14 801,.int 1 802,.int 15 803].toArray 0,[].toArray⟩),
 oB 443 "_law_taker" "_law_taker" 805 316 1 812,
 (444,kL (st 48) "_law_taker" "law_nn0130_01" 783 443),
 IW 448 "_law_number" "_law_number" 815 328 3 818,
 (449,kL (st 49) "_law_number" "law_nn0130_01" 783 448),
 IW 453 "_law_codes" "_law_codes" 821 330 1 824,
 (454,kL (st 50) "_law_codes" "law_nn0130_01" 783 453),
 oB 460 "_law_symbol" "_law_symbol" 827 340 3 835,
 (461,kL (st 51) "_law_symbol" "law_nn0130_01" 783 460),
 oB 467 "_law_head" "_law_head" 838 347 2 851,
 (468,kL (st 52) "_law_head" "law_nn0130_01" 783 467),
 IW 472 "_law_parts" "_law_parts" 854 368 4 857,
 (473,kL (st 53) "_law_parts" "law_nn0130_01" 783 472),
 oB 479 "_law_part" "_law_part" 860 391 1 866,
 (480,kL (st 54) "_law_part" "law_nn0130_01" 783 479),
 IW 484 "_law_bits" "_law_bits" 869 397 1 872,
 (485,kL (st 55) "_law_bits" "law_nn0130_01" 783 484),
 IW 489 "_law_counts" "_law_counts" 875 399 1 878,
 (490,kL (st 56) "_law_counts" "law_nn0130_01" 783 489),
 IW 494 "_law_is_good" "_law_is_good" 881 410 2 884,
 (495,kL (st 57) "_law_is_good" "law_nn0130_01" 783 494),
 IW 499 "law" "law" 887 418 1 890,
 (500,kL (st 58) "law" "law_nn0130_01" 783 499)]
noncomputable def KA:List Nat:=[3,60,61,67,68,74,75,88,89,95,96,102,103,109,110,116,117,123,124,126,127,137,138,144,145,151,152,158,159,165,166,172,173,184,185,191,192,194,195,205,206,210,211,215,216,222,223,229,230,236,237,243,244,250,251,257,258,271,272,278,279,285,286,288,289,299,300,304,305,311,312,318,319,325,326,332,333,339,340,351,352,358,359,365,366,368,369,379,380,386,387,393,394,400,401,407,408,421,422,428,429,431,432,437,443,444,448,449,453,454,460,461,467,468,472,473,479,480,484,485,489,490,494,495,499,500]
noncomputable def VG:List Nat:=KA++[439]
noncomputable def Tx(P:eY):Frag:=KF P++[(439,qX #[])]
noncomputable def qv:qz:={pw with main:={pw.1 with body:=[st 58]}}
noncomputable def tT:List eT:=[aa "PaperError",aa "FilterFault",aa "OCTET",aa "low_bits",aa "turned_about",aa "check_fit",aa "BitsOut",aa "greatest_length",aa "tally_of",aa "room_left",aa "is_over",aa "first_codes",aa "codes_of",aa "Encoder",aa "merged",aa "package_rows",aa "code_lengths",aa "length_order",aa "fixed_lengths",aa "cost_of",aa "END",aa "UNUSED_PRICE",aa "split_number",aa "length_symbol",aa "distance_symbol",aa "Prices",aa "counts_of",aa "with_two",aa "lengths_for",aa "cut_lengths",aa "run_rows",aa "nought_rows",aa "again_rows",aa "Head",aa "put_parts",aa "put_stored",aa "put_fixed",aa "fixed_bits",aa "stored_bits",aa "Block",aa "_law_ORDER",aa "_law_taker",aa "_law_number",aa "_law_codes",aa "_law_symbol",aa "_law_head",aa "_law_parts",aa "_law_part",aa "_law_bits",aa "_law_counts",aa "_law_is_good"]
theorem Sf:∀(w:bN),(λos=>(sq pw w 11 (fU<|.ref 6) 4000 ⟨Kn w.2,11,{},#[],boot_drawn,boot_toks,os⟩<|topStub pw).map λs=>
    ((staticsOk (pX pw.1.1) (oD w.2) s.abs.1&&namesBound pw s.abs.1&&gensDone s.abs&&laidKept (oD w.2) s.abs.1),
    openSeen qv tT (pX pw.1.1) (λs=>xlAt qv [] s&&recOk [] s) Z8 s.abs,VG.map s.abs.1.get?))=λa=>fU (Z8,openGood qv tT,(Tx w.2).map λp=>fU p.2):=by
 intro w;kernel_rfl
theorem OM:∀w:bN,((oD w.2).isNs sJ&&(#[]:Array GenState).size==0,(oD w.2).1.size,(oD w.2).nsMap sJ "__annotations__")=(Z8,11,fU<|.ref 6):=by intro w;kernel_rfl
theorem Oz:∀w:bN,(fencedOpening w3 pw w 8000).map (λs=>(s.1,s.2,s.3,s.4))=fU (oD w.2,Array.mk [],boot_drawn,boot_toks):=
 boot_open (p:=pw) (N:=8000) (by kernel_rfl) (by decide) (λs=>by kernel_rfl)
theorem M1:LeftO pw qv tT (λs=>xlAt qv [] s&&recOk [] s) (λs=>VG.map s.1.get?) (λw=>(Tx w.2).map λp=>fU p.2) 8000:=
 Fo (H₀:=oD) (T₀:=Kn) Oz HI OM Sf (by decide)
abbrev IU:OpenLaw:=PySem.Challenge.rw_nn0130_01
noncomputable def H2:DefRec:=match st 58 with
 |.FunctionDef name args body _ _ _ scope _ _ pos=>⟨name,args,body,scope,pos⟩
 |_=>⟨aa "",default,[],default,default⟩
theorem UM:defOf qv IU.row.name=fU (H2,[]):=by kernel_rfl
theorem Sh:∀P,VG=(Tx P).map (·.1):=λP=>by kernel_rfl
theorem VU:IU.row.prog.theDef IU.row.name=fU (H2.2,H2.3,H2.4):=by kernel_rfl
theorem V6:kwWritten? H2.2.4 H2.2.5=fU []:=by kernel_rfl
theorem TO:(chainsOk qv&&opensWell IU.row.prog&&(frees IU.row.toRowW&&IU.row.within.isEmpty))=Z8:=by kernel_rfl
theorem Vq:IU.row.toRowW.promised:=by w_witness2
noncomputable def rf:List String:=Builtin.Bytes.decodersThatHold++["bytearray.__contains__","bytearray.__mod__","bytearray.__rmod__","_struct.pack_into.held","bytearray.find.held"]
noncomputable def vx:Code->Bool
 |.builtin id _=>!rf.contains id
 |_=>Z8
noncomputable abbrev Va:=Ctx
def MC(Γ:Va):Prop:=∀x∈Γ.4,vx x.1=Z8
def Py(Γ:Va):Prop:=vx Γ.1=Z8/\MC Γ
def bV(g:Bool)(M:Model)(A:bU)(t:DB α)(Q:α->aG->Prop)(E:aF->aG->Prop)(s:aG):Prop:=
 ∀Γ p,Γ.In A->(g=Z8->Py Γ)->Sem.wp M Γ t (λa b s'=>Q a s') (λe b s'=>E e s') p s
def iy(g:Bool)(M:Model)(A:bU)(c:Code)(R:Result->aG->Prop)(s:aG):Prop:=
 ∀Γ p,Γ.1=c->Γ.Below A->(g=Z8->MC Γ)->wpCode M Γ R p s
section
variable{g:Bool}{α β:Type}{M:Model}{A:bU}{E:aF->aG->Prop}{s:aG}{env:mR}
theorem bV.of(h:br M A t Q E s):bV g M A t Q E s:=λΓ p hΓ uu=>h Γ p hΓ
theorem bV.any(h:bV Z7 M A t Q E s):br M A t Q E s:=λΓ p hΓ=>h Γ p hΓ λe=>by injection e
theorem aO(h:Q a s):bV g M A (pure a) Q E s:=λb b b b=>h
theorem aR(h:bV g M A t Q E s)(c:∀a s,Q a s->j a s)(b:∀e s,E e s->i e s):bV g M A t j i s:=
 λΓ p hΓ hc=>Sem.wp_mono M Γ t (λa d s=>c a s) (λe d s=>b e s) p s<|h Γ p hΓ hc
theorem am(h:bV g M A m (λa s'=>bV g M A (f a) Q E s') E s):bV g M A (m>>=f) Q E s:=λΓ p hΓ hc=>by
 rw[Sem.wp_bind'];exact Sem.wp_mono M Γ m (λa c s' h'=>h' Γ c hΓ hc) (λb b b h'=>h') p s<|h Γ p hΓ hc
theorem Cm{m:DB α}{k:aF->DB Unit}{Q:α->aG->Prop}(h:bV g M A m Q (λe s'=>bV g M A (k e) (λb a=>E e a) E s') s):bV g M A (m.onRaise k) Q E s:=λΓ p hΓ hc=>by
 rw[Sem.wp_onRaise];exact Sem.wp_mono M Γ m (λb b b h'=>h') (λe c s' h'=>h' Γ c hΓ hc) p s<|h Γ p hΓ hc
theorem Co{Q:Except aF α->aG->Prop}(h:bV g M A m (λa=>Q<|.ok a) (λe=>Q<|.error e) s):bV g M A m.attempt Q E s:=λΓ p hΓ hc=>by
 rw[Sem.wp_attempt];exact h Γ p hΓ hc
theorem bJ(h:bV g M A m Q E s):bV g M A (w4 vs m) Q E s:=λΓ p hΓ hc=>by
 rw[Sem.wp_holding];exact h Γ p hΓ hc
theorem CX(h:bV g M A m Q E s):bV g M A (m.keep vs) Q E s:=λΓ p hΓ hc=>by
 rw[Sem.wp_keep];exact h Γ p hΓ hc
theorem kX(h:bV g M A m Q E s):bV g M A (operate vs m) Q E s:=λΓ p hΓ hc=>by
 rw[Sem.wp_operate];exact h Γ p hΓ hc
theorem bH(h:Q () s):bV g M A (kH pos) Q E s:=.of<|wpAny_standAt h
theorem zU(h:Q () s):bV g M A point Q E s:=.of<|wpAny_point h
theorem FM(hc:iy g M (A.mark h) c (λr s'=>match r with|.ok f=>Q f s'|.error e=>E e s') s)(a:h≠fU byPass):
  bV g M A (run c h) Q E s:=λΓ p hΓ hcl=>by
 rw[Sem.wp_run];refine hc _ p rfl (hΓ.enter c h p a) λd x b=>?_;rcases ax.1 b with rfl|b
 .exact(hcl d).1
 .exact(hcl d).2 x b
theorem Bn(hc:iy g M A c (λr s'=>match r with|.ok (.ret v)=>Q v s'|.ok _=>False|.error e=>E e s') s):bV g M A (runValue c) Q E s:=λΓ p hΓ hcl=>by
 rw[Sem.wp_runValue];refine hc _ p rfl (hΓ.enter c Z9 p<|by intro x;injection x) λb x a=>?_;rcases ax.1 a with rfl|a
 .exact(hcl b).1
 .exact(hcl b).2 x a
theorem lj
  (hc:iy g M A (.call f ⟨pos,kw⟩) (λr s'=>match r with|.ok (.ret v)=>Q v s'|.ok _=>False|.error e=>E e s') s):bV g M A (call f pos kw) Q E s:=Bn hc
theorem eP(i:vx c=Z8)
  (h:bV g M (A.under c) (M.1 c) (λfin s'=>match fin with|.done f=>R (.ok f) s'|.again a=>a.quiet=Z8/\iy g M A a R s') (λe s'=>R (.error e) s') s):iy g M A c R s:=λΓ p hc hΓ hcl=>by
 rewrite[wpCode_iff_wp];refine Rr hc ?_;refine Sem.wp_mono M Γ _ (λfin j s' h'=>?_) (λb b b h'=>h') p s (h Γ p (hc▸hΓ.in) λd=>⟨by refine Rr hc ?_;exact i,hcl d⟩);cases fin with
 |done f=>exact h'
 |again a=>exact⟨h'.1,h'.2 (Γ.goto a) j rfl (hΓ.goto a) hcl⟩
theorem kO(h:iy g M A c R s)(hR:∀r s,R r s->R' r s):iy g M A c R' s:=λΓ p hc hΓ hcl=>wpCode_mono hR<|h Γ p hc hΓ hcl
theorem xm(k:vx c=Z8)(o:c.quiet=Z8)(I:Nat->aG->Prop)
  (b:∀n s,I n s->bV g M (A.under c) (M.1 c) (λfin s'=>match fin with|.done f=>R (.ok f) s'|.again i=>i=c/\∃m,m<n/\I m s') (λe s'=>R (.error e) s') s)
  (n:Nat)(h:I n s):iy g M A c R s:=by
 induction n using Nat.strongRecOn generalizing s with
 |ind n p=>
  refine eP k<|aR (b n s h) (λfin s' d=>?_) λq q h'=>h';cases fin with
  |done f=>exact d
  |again i=>refine m5 d λa m l j=>?_;clear d;subst a;exact⟨o,p m l j⟩
theorem g9{x pos}(h:bV g M A (ue env x) Q E s)(hd:(x==("__debug__":eT))=Z7):bV g M A (dS (.Name x pos) env) Q E s:=by refine Rr (eval_Name env x pos hd)<|am<|bH h
theorem Po{l op r pos}(h:bV g M A (dS l env) (λa d=>bV g M A (dS r env) (λb f=>bV g M A (uf op a b) Q E f) E d) E s):bV g M A (dS (.BinOp l op r pos) env) Q E s:=by rw[arm_eval_BinOp];exact am<|aR h (λa d h₁=>am<|bJ<|aR h₁ (λb f i=>am<|bH<|kX i) λc c e=>e) λc c e=>e
theorem Hq(h:bV g M A (dS x env) (λv a=>bV g M A (unaryOp op v) Q E a) E s):bV g M A (dS (.UnaryOp op x pos) env) Q E s:=by rw[arm_eval_UnaryOp];exact am<|aR h (λv a h₁=>am<|bH<|bJ h₁) λb b e=>e
theorem D3{l op r pos}(h:bV g M A (dS l env) (λa d=>bV g M A (dS r env) (λb f=>bV g M A (ug op a b) Q E f) E d) E s)(i:MF op r=Z7):
  bV g M A (dS (.Compare l [op] [r] pos) env) Q E s:=by
 rewrite[eval_Compare1];refine Rr (MU i) ?_;exact am<|aR h (λa d h₁=>am<|bJ<|aR h₁ (λb f j=>am<|bH<|kX j) λc c e=>e) λc c e=>e
theorem oJ{l op r pos whole}
  (h:bV g M A (dS l env) (λa f=>bV g M A (dS r env) (λb i=>bV g M A (ug op a b) (λc j=>bV g M A (IE c) Q E j) E i) E f) E s)(k:MF op r=Z7):
  bV g M A (mO (.Compare l [op] [r] pos) env whole) Q E s:=by
 rewrite[isTrue_Compare1];refine Rr (MU k) ?_;exact am<|aR h (λa f h₁=>am<|bJ<|aR h₁ (λb i m=>am<|bH<|am<|kX<|aR m (λc j n=>bJ n) λd d e=>e) λd d e=>e) λd d e=>e
theorem OC
  (h:bV g M A (mO test env<|dS test env) (λb a=>if b then bV g M A (dS body env) Q E a else bV g M A (dS orelse env) Q E a) E s):bV g M A (dS (.IfExp test body orelse pos) env) Q E s:=by
 rw[arm_eval_IfExp];refine am<|aR h (λb a h₁=>?_) λc c e=>e;cases b<;>exact h₁
theorem T3
  (h:bV g M A (dS x env) (λv d=>bV g M A (IE v) (λt a=>if t then Q v a else bV g M A (dS y env) Q E a) E d) E s):bV g M A (dS (.BoolOp .Or [x,y] pos) env) Q E s:=by
 show bV g M A (do
  let v<-dS x env
  kH pos
  let t<-w4 [v]<|IE v
  match BoolOp.Or,t with
  |.And,Z7|.Or,Z8=>pure v
  |_,_=>boolOp pos .Or [dS y env]) Q E s
 refine am<|aR h (λv d h₁=>am<|bH<|am<|bJ<|aR h₁ (λt a c=>?_) λb b e=>e) λb b e=>e;cases t with
 |false=>exact c
 |true=>exact aO c
theorem rA(h:Q [] s):bV g M A (mw<|kA pos<|eB [] env) Q E s:=aO h
theorem i8
  (h:bV g M A x (λv b=>bV g M A (mw rest) (λvs c=>Q (v::vs) c) E b) E s):bV g M A (mw ((Z7,x)::rest)) Q E s:=by
 rw[mw];refine am<|aR h (λv b h₁=>?_) λa a e=>e;simp-iota only [cq,if_false];exact am<|aO<|am<|bJ<|aR h₁ (λvs c d=>aO d) λa a e=>e
theorem mh(h:Q [] s):bV g M A (mw []) Q E s:=aO h
theorem nu
  (h:bV g M A (dS e env) (λv b=>bV g M A (mw<|kA pos<|eB rest env) (λvs c=>Q (v::vs) c) E b) E s)
  (a:eB (e::rest) env=(Z7,dS e env)::eB rest env):bV g M A (mw<|kA pos<|eB (e::rest) env) Q E s:=by
 refine Rr a<|i8 h
theorem M8
  (h:bV g M A (mw<|kA pos<|eB elts env) (λvs a=>vs.length<=eV/\Q (.ref a.1.1.size) {a with heap:=a.1.push {cls:=.type "tuple",data:=.seq vs.toArray}}) E s):bV g M A (dS (.Tuple elts k pos) env) Q E s:=by
 rw[arm_eval_Tuple];exact am<|bH<|am<|aR h (λvs a h₁=>.of<|BG h₁.2<|by show vs.toArray.size<=eV;rw[bF];exact h₁.1) λb b e=>e
theorem QM
  (h:bV g M A (mw<|kA pos<|eB elts env) (λvs a=>vs.length<=eV/\Q (.ref a.1.1.size) {a with heap:=a.1.push {cls:=.type "list",data:=.seq vs.toArray}}) E s):bV g M A (dS (.List elts pos) env) Q E s:=by
 rw[arm_eval_List];exact am<|bH<|am<|aR h (λvs a h₁=>.of<|BG h₁.2<|by show vs.toArray.size<=eV;refine Rr bF ?_;exact h₁.1) λb b e=>e
theorem yl(h:bV g M A whole (λv a=>bV g M A (IE v) Q E a) E s)
  (b:mO e env whole=(do let v<-whole;kH e.pos;w4 [v] (IE v))):bV g M A (mO e env whole) Q E s:=by
 refine Rr b<|am<|aR h (λv a h₁=>am<|bH<|bJ h₁) λc c e=>e
theorem Bu(h:bV g M A (mO x env<|dS x env) (λb a=>Q (!b) a) E s):bV g M A (mO (.UnaryOp .Not x pos) env whole) Q E s:=by rw[arm_isTrue_UnaryOp];exact am<|aR h (λb a h₁=>aO h₁) λc c e=>e
theorem qE(h:bV g M A (u7 op values env) Q E s):bV g M A (mO (.BoolOp op values pos) env whole) Q E s:=by rw[arm_isTrue_BoolOp];exact h
theorem tK
  (h:bV g M A (mO x env<|dS x env) (λb a=>if b then bV g M A (u7 .And rest env) Q E a else Q Z7 a) E s):bV g M A (u7 .And (x::rest) env) Q E s:=by
 refine am<|aR h (λb a h₁=>?_) λc c e=>e;cases b
 .exact aO h₁
 .exact h₁
theorem uz
  (h:bV g M A (mO x env<|dS x env) (λb a=>if b then Q Z8 a else bV g M A (u7 .Or rest env) Q E a) E s):bV g M A (u7 .Or (x::rest) env) Q E s:=by
 refine am<|aR h (λb a h₁=>?_) λc c e=>e;cases b
 .exact h₁
 .exact aO h₁
theorem v8{value slice pos}
  (h:bV g M A (dS value env) (λo b=>bV g M A (dS slice env) (λi c=>bV g M A (subscriptTail value slice o i) Q E c) E b) E s):bV g M A (dS (.Subscript value slice pos) env) Q E s:=by
 rw[arm_eval_Subscript];exact am<|aR h (λo b h₁=>am<|bJ<|aR h₁ (λi c d=>am<|bH d) λa a e=>e) λa a e=>e
theorem OT{a b step:Option dH}{Q:aF->aG->Prop}
  (h:bV g M A (BH a env) (λl f=>bV g M A (BH b env) (λu i=>bV g M A (BH step env) (λst d=>Q (.ref d.1.1.size) {d with heap:=d.1.push {cls:=.type "slice",data:=.fields #[l,u,st]}}) E i) E f) E s):bV g M A (dS (.Slice a b step p) env) Q E s:=by
 rw[arm_eval_Slice];refine am<|aR h (λl f h₁=>am<|bJ<|aR h₁ (λu i j=>am<|bJ<|aR j (λst d k=>?_) λc c e=>e) λc c e=>e) λc c e=>e;exact .of<|BG k
theorem gG
  (h:bV g M A (dS (.Name x np) env) (λf a=>bV g M A (IF pos f [] (kA pos<|eB args env) []) Q E a) E s):bV g M A (dS (.Call (.Name x np) args [] pos) env) Q E s:=by
 exact am h
theorem El(a:args.any (·.1)=Z7)(h:bV g M A (mw args) (λvs s'=>Q ⟨vs,[]⟩ s') E s):bV g M A (evalArgs f Z8 args []) Q E s:=by
 match args,a,h with
 |[],_,h=>exact λΓ p hΓ hc=>PyProof.Rows.evalArgs_nil3 (h Γ p hΓ hc) Γ p hΓ
 |(Z8,_)::_,hp,_=>simp at hp
 |(Z7,x)::r,_,h=>delta evalArgs;refine am<|aR h (λvs s' h'=>?_) λb b e=>e;refine bJ<|am<|aO<|am<|aO<|aO h'
theorem i0(c:args.any (·.1)=Z7)
  (h:bV g M A (mw args) (λvs i=>br M A (pg f) (λd k=>k=i) (λd d=>False) i/\bV g M A (call f<|first++vs) Q E i) E s):
  bV g M A (IF pos f first args []) Q E s:=by
 delta IF;refine am<|bJ<|aR (El (Q:=λa i=>br M A (pg f) (λd k=>k=i) (λd d=>False) i/\bV g M A (call f (first++a.1) a.2) Q E i) c h) (λa i h₁=>am<|bH ?_) λd d x=>x;obtain⟨l,j⟩:=h₁;simp-iota only [c,List.any_nil,Bool.or_false];have b:∀{t:DB aF},bV g M A t Q E i->bV g M A (t>>=λr=>w4 [r] point>>=λd=>pure r) Q E i:=
  λn=>am<|aR n (λr k m=>am<|bJ<|zU<|aO m) λd d x=>x
 refine am<|aR (.of l) (λo k e=>?_) λd d e=>e.elim;subst e;cases o<;>simp only
 .split
  .exact b j
  .exact b<|by delta callMarked;exact CX j
 .split
  .exact b j
  .exact b<|by delta callMarked;exact CX j
 .exact b j
 .exact b<|kX j
end
abbrev vg:aF->aG->Prop:=λa a=>False
section
variable{g:Bool}{α β:Type}{prog:qz}{w:bN}{A:bU}{R:Result->aG->Prop}{s:aG}{env:mR}
theorem rN(h:bV g M A m Q vg s):bV g M A (m.onRaise k) Q E s:=Cm<|aR h (λa a q=>q) λa a e=>e.elim
theorem rJ(h:Q .next s):bV g M A (nE [] env) Q E s:=.of<|wpAny_execs_nil h
theorem dO{st rest}
  (h:bV g M A (yR st env) (λf s'=>match f with|.next=>bV g M A (nE rest env) Q E s'|f=>Q f s') E s):bV g M A (nE (st::rest) env) Q E s:=by
 rw[execs_cons];refine am<|aR h (λf s' h'=>?_) λa a e=>e;cases f<;>first|exact h'|exact aO h'
theorem WE{test body orelse pos}
  (h:bV g M A (mO test env<|dS test env) (λb a=>if b then bV g M A (nE body env) Q E a else bV g M A (nE orelse env) Q E a) E s):bV g M A (yR (.If test body orelse pos) env) Q E s:=by
 rw[arm_exec_If];refine am<|bH<|am<|aR h (λb a c=>?_) λd d e=>e;cases b<;>exact c
theorem yB(hc:iy g M A c (λr s'=>match r with|.ok f=>Q f s'|.error _=>False) s):bV g M A (runOwn c env) Q E s:=by delta runOwn;refine rN (FM ?_<|by intro x;cases x);have:A.mark Z9=A:=rfl;refine Rr this<|kO hc λr s' h=>by cases r<;>exact h
theorem yz{e pos}(h:bV g M A (dS e env) (λv=>Q<|.ret v) E s):bV g M A (yR (.Return (fU e) pos) env) Q E s:=by rw[exec_Return_some];exact am<|bH<|am<|aR h (λv s' h'=>aO h') λa a e=>e
theorem zI{x pos' op value pos}
  (h:br M A (ue env x) (λb c=>bV g M A (dS value env) (λv d=>br M A (DC op b v) (λr f=>br M A (storeName env x r) (λa=>Q .next) E f) E d) E c) E s):
  bV g M A (yR (.AugAssign (.Name x pos') op value pos) env) Q E s:=by
 rw[arm_exec_AugAssign];refine am<|bH<|am<|bV.of<|cW h (λb c h₁=>?_) λa a e=>e;refine am<|bJ<|aR h₁ (λv d i=>?_) λa a e=>e;refine am<|bH<|am<|kX<|bV.of<|cW i (λr f j=>?_) λa a e=>e;refine am<|bH<|am<|bV.of<|wpAny_bindName<|cW j (λa l k=>aO k) λa a e=>e
theorem tH(h:Q () s):br M A (release vs keep) Q E s:=λΓ p uu=>by
 rw[Sem.wp_release];exact h
theorem KD(j:∀d c b,augStore i d c b=(do w4 [b,d,c] (BJ d c b);release [b,d,c] [];pure Flow.next))
  (h:bV g M A (dS o env) (λd k=>bV g M A (dS i env) (λc l=>br M A (oZ d c) (λf m=>bV g M A (dS value env) (λv n=>br M A (DC op f v) (λr p=>br M A (BJ d c r) (λa=>Q .next) E p) E n) E m) E l) E k) E s):
  bV g M A (yR (.AugAssign (.Subscript o i y) op value pos) env) Q E s:=by
 rw[arm_exec_AugAssign_3];refine am<|bH<|am<|aR h (λd k h₁=>?_) λa a e=>e;refine am<|bJ<|aR h₁ (λc l q=>?_) λa a e=>e;refine am<|bJ<|am<|bH<|am<|bV.of<|cW q (λf m t=>?_) λa a e=>e;refine am<|bJ<|aR t (λv n u=>?_) λa a e=>e;refine am<|bH<|kX<|bV.of<|cW u (λr p w=>?_) λa a e=>e;refine am<|bH ?_;rw[j];refine am<|bJ<|bV.of<|cW w (λa z x=>?_) λa a e=>e;exact am<|bV.of<|tH<|aO x
theorem By{e pos}(hi:interactive env=Z7)(b:w5 e Z9 pos.1 env=pure Z7)
  (h:bV g M A (dS e env) (λv s'=>v=.none/\Q .next s') E s):bV g M A (yR (.Expr e pos) env) Q E s:=by
 refine Rr (exec_Expr env e pos hi b)<|am<|bH<|am<|aR h (λv s' h'=>?_) λc c e=>e;obtain⟨rfl,h'⟩:=h';refine Rr (dropValue_plain λa x=>by injection x)<|aO h'
theorem Cd{test body}(I:Nat->aG->Prop)
  (a:∀n s,I n s->bV g (dX prog w) A (mO test env<|dS test env) (λb i=>
    if b then bV g (dX prog w) A (nE body env) (λf e=>match f with
      |.next|.cont=>∃m,m<n/\I m e
      |.brk=>R (.ok .next) e
      |.ret v=>R (.ok<|.ret v) e) vg i
    else R (.ok .next) i) vg s)
  (n:Nat)(h:I n s):iy g (dX prog w) A (.whileLoop test body [] env) R s:=by
 refine xm rfl rfl I (λn s k=>?_) n h;show bV g _ A ((whileTurn test body [] env).onRaise λx=>do DD x env;vh x) _ _ s;refine rN ?_;simp-iota only [whileTurn];refine am<|aR (a n s k) (λb i c=>?_) λj j h'=>h';cases b with
 |false=>
  simp-iota only [cq,if_false] at c⊢
  exact am<|rJ<|aO c
 |true=>
  simp-iota only [if_true] at c⊢
  refine am<|aR c (λf e d=>?_) λj j h'=>h';cases f with
  |next=>exact aO ⟨rfl,d⟩
  |cont=>exact aO ⟨rfl,d⟩
  |brk=>exact aO d
  |ret v=>exact aO d
theorem NL{test body pos}(h:iy g (dX prog w) A (.whileLoop test body [] env) (λr s'=>match r with|.ok f=>Q f s'|.error _=>False) s):
  bV g (dX prog w) A (yR (.While test body [] pos) env) Q E s:=by
 rw[arm_exec_While];exact am<|bH<|yB h
theorem Dh(j:vx c=Z8)(k:c.quiet=Z8)(I:Nat->aG->Prop)
  (a:∀n s,I n s->bV g M (A.under c) (M.1 c) (λfin s'=>match fin with|.done f=>R (.ok f) s'|.again b=>(b=c/\∃m,m<n/\I m s')\/(b.quiet=Z8/\iy g M A b R s')) (λe s'=>R (.error e) s') s)
  (n:Nat)(h:I n s):iy g M A c R s:=by
 induction n using Nat.strongRecOn generalizing s with
 |ind n l=>
  refine eP j<|aR (a n s h) (λfin s' d=>?_) λo o h'=>h';cases fin with
  |done f=>exact d
  |again b=>
   rcases d with⟨rfl,m,hm,i⟩|d
   .exact⟨k,l m hm i⟩
   .exact d
theorem Di(h:R (.ok .next) s):iy g (dX prog w) A (.block [] env) R s:=by refine eP rfl ?_;show bV g _ A (do return Fin.done (<-(nE [] env).onRaise λx=>do DD x env;vh x)) _ _ s;exact am<|rN<|rJ<|aO h
theorem HE{target body}(I:Nat->aG->Prop)
  (c:∀n s,I n s->br (dX prog w) A (u8 it) (λr b=>match r with
   |none=>R (.ok .next) b
   |some v=>br (dX prog w) A (gR target it v) (λa b=>br (dX prog w) A (lL target env v) (λa i=>bV g (dX prog w) A (nE body env) (λf e=>match f with
     |.next|.cont=>∃m,m<n/\I m e
     |.brk=>R (.ok .next) e
     |.ret v=>R (.ok<|.ret v) e) vg i) vg b) vg b) vg s)
  (n:Nat)(h:I n s):iy g (dX prog w) A (.forLoop target it body [] env) R s:=by
 refine Dh rfl rfl I (λn s j=>?_) n h;show bV g _ A ((forTurn target it body [] env).onRaise λx=>do DD x env;vh x) _ _ s;refine rN ?_;simp-iota only [forTurn];refine am<|bH<|am<|rN<|bV.of<|cW (c n s j) (λr b h₁=>?_) λa a h'=>h';cases r with
 |none=>exact aO<|.inr ⟨rfl,Di h₁⟩
 |some v=>
  refine am<|bV.of<|cW h₁ (λa b h₁=>?_) λa a h'=>h';refine am<|bV.of<|cW h₁ (λa i k=>?_) λa a h'=>h';refine am<|aR k (λf e d=>?_) λa a h'=>h';cases f with
  |next=>exact aO<|.inl ⟨rfl,d⟩
  |cont=>exact aO<|.inl ⟨rfl,d⟩
  |brk=>exact aO d
  |ret v=>exact aO d
theorem PO{target iter body pos}(d:∀x,kI iter env x=pure x)
  (h:bV g (dX prog w) A (dS iter env) (λx b=>br (dX prog w) A (IG x) (λit c=>iy g (dX prog w) A (.forLoop target it body [] env) (λr s'=>match r with|.ok f=>Q f s'|.error _=>False) c) E b) E s):
  bV g (dX prog w) A (yR (.For target iter body [] pos) env) Q E s:=by
 rw[arm_exec_For];refine am<|bH<|am<|aR h (λx b h₁=>?_) λa a e=>e;rw[d];refine am<|aO<|am<|bH<|am<|bJ<|bV.of<|cW h₁ (λit c i=>yB i) λa a e=>e
theorem LJ{body}(h:bV g (dX prog w) (A.deeper env) (nE body env) (λf s'=>R (.ok<|.ret<|match f with|.ret v=>v|_=>.none) s') vg s):iy g (dX prog w) A (.func body env) R s:=by refine eP rfl ?_;show bV g _ (A.deeper env) (do point;match<-(nE body env).onRaise (leaving env) with|.ret v=>ret v|_=>ret .none) _ _ s;refine am<|zU<|am<|rN<|aR h (λf s' h'=>?_) λa a h'=>h';cases f<;>exact aO h'
theorem qI(d:A.2<IH)(ho:s.1.get? a=fU o)
  (j:o.3=.func fd)(i:fd.5.4=Z7)(e:fd.5.3=Z7)(b:fd.4=.stmts body)(f:s.1.CodeRec fd.13 fd.2)
  (h:br (dX prog w) A.in1 (BK fd args) (λbinds r=>br (dX prog w) A.in1 (newFunctionEnv fd.5 fd.6 fd.7 binds (fd.2++".<locals>.") (fU a) fd.13 Z9 fd.15)
    (λenv n=>n.1.NoLimit/\iy g (dX prog w) A (.func body env) R n) vg r) vg s):
  iy g (dX prog w) A (.call (.ref a) args) R s:=by
 refine eP rfl ?_;show bV g _ A.in1 (callAny (.ref a) args) _ _ s;simp-iota only [callAny];refine am<|bV.of<|k8 ho ?_;refine kY f λc u vs v hc l k t=>?_;rw[j];show bV g _ A.in1 (callFunction a fd args) _ _ _;delta callFunction;rw[i,e,b,hc];rw[hc] at h;refine am (m:=field (.ref c) 1)<|bV.of<|wpAny_field l k t<|am<|aO ?_;exact am (bV.of (cW h (λbinds r h₁=>am (bV.of (cW h₁ (λenv n q=>am (bV.of (wpAny_enterFrame q.1 d
  (aO<|And.intro rfl q.2)))) λp p h'=>h'.elim))) λp p h'=>h'.elim))
end
set_option genSizeOf false
set_option genInjectivity false
noncomputable abbrev MM(w:bN):Model:=dX pw w
abbrev ji:aF->aG->Prop:=λa a=>False
abbrev OP:=Hj->Prop
noncomputable abbrev dw:=List<|bW×OP
noncomputable abbrev FZ:=bW->Option Hj
abbrev iD(F F':FZ):Prop:=∀a o,F a=fU o->F' a=fU o
theorem iD.nv:iD F F:=λa a e=>e
theorem iD.trans(x:iD F G)(y:iD G H):iD F H:=λa o e=>y a o<|x a o e
abbrev DG(F:FZ)(h:qA):Prop:=∀a o,F a=fU o->h.get? a=fU o
abbrev Keeps(h h':qA):Prop:=∀a o,h.get? a=fU o->h'.get? a=fU o
structure Led (F:FZ) (h:qA) (L:dw):Prop where
 own:∀p∈L,(∃o,h.get? p.1=fU o/\p.2 o)/\F p.1=Z9
 cnt:∀a,(L.map (·.1)).count a<=1
structure qW (w:bN) (h:qA):Prop where
 k:(KF w.2).In h
 lim:h.NoLimit
 b:∃mb,h.Ns builtinsNs mb/\∀x:eT,x≠"__name__"->mb x=nF x
structure Cz (w:bN) (F:FZ):Prop where
 all:∀h,DG F h->qW w h
 kf:∀a o,(KF w.2).lookup a=fU o->F a=fU o
theorem Cz.le(B:Cz w F)(l:iD F F'):Cz w F':=⟨λh x=>B.1 h λa o e=>x a o<|l a o e,λa o e=>l _ _<|B.2 a o e⟩
structure Ad where
 aB:bW
 dB:bW
 mB:bW
 aP:bW
 aT:bW
 aS:bW
 cC:bW
 cP:bW
 tL:bW
 kT:bW
 cells:List Int
 os:gv
structure GS (w:bN) (os:gv) (F:FZ) (L:dw) (s:aG):Prop where
 base:Cz w F
 sub:DG F s.1
 led:Led F s.1 L
 gens:s.2=#[]
 os:s.5=os
section
variable{w:bN}{os:gv}{F:FZ}{L L':dw}{s:aG}{a:bW}{P P':OP}{o:Hj}{h':qA}
theorem GS.B(G:GS w os F L s):qW w s.1:=G.1.1 _ G.2
theorem GS.tok(G:GS w os F L s)(t:Nat):GS w os F L {s with toks:=t}:=⟨G.1,G.2,G.3,G.4,G.5⟩
theorem GS.zH(G:GS w os F L s)(b:∀p,p∈L'->p∈L)(hc:∀a,(L'.map (·.1)).count a<=(L.map (·.1)).count a):GS w os F L' s:=
 ⟨G.1,G.2,⟨λp c=>G.3.1 p<|b p c,λa=>ao (hc a)<|G.3.2 a⟩,G.4,G.5⟩
theorem GS.keep(G:GS w os F L s)(k:Keeps s.1 h'):GS w os F L {s with heap:=h'}:=
 ⟨G.1,λa o e=>k _ _<|G.2 a o e,⟨λp b=>(by obtain⟨⟨o,e,q⟩,f⟩:=G.3.1 p b;exact⟨⟨o,k _ _ e,q⟩,f⟩),G.3.2⟩,G.4,G.5⟩
theorem GS.Wj(G:GS w os F L s)(e:F a=fU o):a<s.1.1.size:=dY<|G.2 a o e
theorem GS.Ub(G:GS w os F L s):F s.1.1.size=Z9:=by
 cases e:F s.1.1.size with
 |none=>rfl
 |some o=>exact bq (G.Wj e)<|cB _
noncomputable def FZ.put(F:FZ)(a:bW)(o:Hj):FZ:=λb=>if b=a then fU o else F b
theorem FZ.K5:FZ.put F a o a=fU o:=by simp[FZ.put]
theorem FZ.JX(e:F a=Z9):iD F<|FZ.put F a o:=λb c e'=>by
 unfold FZ.put;by_cases h:b=a
 .subst h;rw[e] at e';injection e'
 .refine Rr (aK h) ?_;exact e'
theorem GS.push(G:GS w os F L s)(o:Hj):GS w os F L {s with heap:=s.1.push o}:=G.keep λa a e=>aZ o e
theorem GS.Gm(G:GS w os F ((a,P)::L) s):∀p∈L,p.1≠a:=by intro p c e;have:=G.3.2 a;rw[az,mH] at this;have b:0<(L.map (·.1)).count a:=dz.2<|aE.2 ⟨p,c,e⟩;exact lo1 (.o (.s .A) .i<|.z (.s<|.n 0) .A) rfl this b
theorem GS.freeze(G:GS w os F ((a,P)::L) s):∃o,s.1.get? a=fU o/\P o/\iD F (FZ.put F a o)/\FZ.put F a o a=fU o/\GS w os (FZ.put F a o) L s:=by
 obtain⟨⟨o,e,q⟩,f⟩:=G.3.1 _<|.head _;refine⟨o,e,q,FZ.JX f,FZ.K5,⟨G.1.le<|FZ.JX f,?_,⟨λp g=>?_,λb=>?_⟩,G.4,G.5⟩⟩
 .intro b h e';unfold FZ.put at e';by_cases d:b=a
  .rw[bf d] at e';injection e' with c;subst c;refine Rr d ?_;exact e
  .rw[aK d] at e';exact G.2 b h e'
 .obtain⟨x,y⟩:=G.3.1 p<|.tail _ g;exact⟨x,by unfold FZ.put;refine Rr (aK<|G.Gm p g) ?_;exact y⟩
 .have:=G.3.2 b;rw[az,cy] at this;exact c9 .A .i (.z (.a .A .B) .i) rfl this
theorem GS.alloc(G:GS w os F L s)(o:Hj)(j:o.isFreed=Z7)(i:P o):GS w os F ((s.1.1.size,P)::L) {s with heap:=s.1.push o}:=by
 have a:=G.push o;refine⟨a.1,a.2,⟨λp d=>?_,λb=>?_⟩,a.4,a.5⟩
 .rcases ax.1 d with rfl|d
  .exact⟨⟨o,fD _ j,i⟩,G.Ub⟩
  .exact a.3.1 p d
 .refine Rr az<|Rr cy ?_;have h:=G.3.2 b;by_cases c:(s.1.1.size==b)=Z8
  .refine Rr (bf c) ?_;have c:=beq_iff_eq.1 c;have:(L.map (·.1)).count b=0:=by
    refine Rr (propext eG) ?_;intro k;obtain⟨p,d,e⟩:=aE.1 k;obtain⟨⟨l,e',_⟩,_⟩:=G.3.1 p d;have f:=dY e';have g:p.1=b:=e;rw[g,<-c] at f;exact bq f<|cB _
   refine Rr this ?_;exact ba _
  .refine Rr (aK c) ?_;exact dL (.p .A 0) .i (.z .A .i) rfl h
theorem GS.rD(G:GS w os F L s)(o:Hj)(b:o.isFreed=Z7):
  iD F (FZ.put F s.1.1.size o)/\FZ.put F s.1.1.size o s.1.1.size=fU o/\GS w os (FZ.put F s.1.1.size o) L {s with heap:=s.1.push o}:=by
 refine p8 ((G.alloc (P:=λx=>x=o) o b rfl).freeze) λc e q l f a=>?_;subst q;exact⟨l,f,a⟩
theorem GS.TW(G:GS w os F ((a,P)::L) s)(d:iR a s.1 h'):GS w os F L {s with heap:=h'}:=by
 have fa:F a=Z9:=(G.3.1 _<|.head _).2;refine⟨G.1,λb o e=>?_,⟨λp c=>?_,λb=>?_⟩,G.4,G.5⟩
 .have:b≠a:=by rintro rfl;rw[fa] at e;injection e
  exact d b o this<|G.2 b o e
 .obtain⟨⟨o,e,q⟩,f⟩:=G.3.1 p<|.tail _ c;exact⟨⟨o,d _ _ (G.Gm p c) e,q⟩,f⟩
 .have:=G.3.2 b;rw[az,cy] at this;exact c9 .A .i (.z (.a .A .B) .i) rfl this
set_option genCtorIdx false in
inductive LT where|l (i:Nat)|n (a b:LT)
noncomputable def LT.ctorIdx(x:LT):Nat:=LT.casesOn x (λa=>0) λa a=>1
noncomputable def LT.den(B:List dw):LT->dw
 |.l i=>B.getD i []
 |.n a b=>a.den B++b.den B
noncomputable def LT.lv:LT->List Nat
 |.l i=>[i]
 |.n a b=>a.lv++b.lv
theorem LT.XK:(LT.l i).den B=B.getD i []:=rfl
theorem LT.XM{t u:LT}:(LT.n t u).den B=t.den B++u.den B:=rfl
theorem LT.XQ:(LT.l i).lv=[i]:=rfl
theorem LT.XR{t u:LT}:(LT.n t u).lv=t.lv++u.lv:=rfl
noncomputable def RR:List Nat->List Nat->Bool
 |[],_=>Z8
 |i::r,l=>l.contains i&&RR r (l.erase i)
theorem LT.mem:∀{t:LT},p∈t.den B↔∃i∈t.lv,p∈B.getD i []
 |.l i=>by simp[LT.XK,LT.XQ]
 |.n a b=>by simp only [LT.XM,LT.XR,a7,LT.mem (t:=a),LT.mem (t:=b),or_and_right,exists_or]
theorem LT.cnt:∀{t:LT},((t.den B).map (·.1)).count x=(t.lv.map λi=>((B.getD i []).map (·.1)).count x).sum
 |.l i=>by simp[LT.XK,LT.XQ]
 |.n a b=>by simp only [LT.XM,LT.XR,aC,bt,kD,LT.cnt (t:=a),LT.cnt (t:=b)]
theorem At{f:Nat->Nat}:∀{l:List Nat},i∈l->(l.map f).sum=f i+((l.erase i).map f).sum
 |j::l,h=>by
  by_cases a:j=i
  .subst a;simp
  .refine Rr (List.erase_cons_tail<|by simpa using a)<|Rr az<|Rr bK<|Rr az<|Rr bK<|Rr (At<|List.mem_of_ne_of_mem (Ne.symm a) h) ?_;exact aj (dT (.a .A<|.a .B .C) (.a .B<|.a .A .C) .e rfl)<|dT (.a .A<|.a .B .C) (.a .B<|.a .A .C) .e rfl
theorem Gj{f:Nat->Nat}:∀{r l:List Nat},RR r l=Z8->(∀i∈r,i∈l)/\(r.map f).sum<=(l.map f).sum:=by
 intro r;induction r with
 |nil=>intro _;exact λm=>⟨λm h=>(nomatch h),bS _⟩
 |cons i r k=>intro l h;obtain⟨a,c⟩:=cf.1 h;have a:=gz.1 a;obtain⟨d,g⟩:=k c;exact⟨λj b=>(ax.1 b).elim (λe=>e▸a) λb=>List.mem_of_mem_erase<|d j b,by refine Rr az<|Rr bK<|Rr (At a) ?_;exact dT (.a .A .B) (.a .A .C) (.z .B .C) rfl g⟩
theorem KW(h:∀i,n<=i->f i=0):∀{l:List Nat},(l.map f).sum=((l.filter (Nat.blt · n)).map f).sum:=by
 intro l;induction l with
 |nil=>exact rfl
 |cons i l b=>
  refine Rr az<|Rr bK<|Rr (b)<|Rr ja ?_;cases hi:Nat.blt i n with
  |true=>rfl
  |false=>(refine Rr (h i<|eU.1 λa=>by rw[Nat.blt_eq.mpr a] at hi;injection hi) ?_;rw[bA]);rfl
theorem GS.rg(B:List dw)(t d:LT)(G:GS w os F (t.den B) s)(h:RR (d.lv.filter (Nat.blt · B.length)) t.lv=Z8):GS w os F (d.den B) s:=
 have no:∀i,B.length<=i->B.getD i []=[]:=λi hi=>by refine Rr al<|Rr (ch hi) ?_;rfl
 G.zH (λp b=>by
  refine bO (LT.mem.1 b) λi hi b=>?_;have c:i<B.length:=lY.1 λc=>by rw[no i c] at b;cases b
  exact LT.mem.2 ⟨i,(Gj (f:=id) h).1 i<|fJ.2 ⟨hi,Nat.blt_eq.mpr c⟩,b⟩)
 λa=>by refine Rr LT.cnt (Rr LT.cnt<|Rr (KW (n:=B.length) λi hi=>by rw[no i hi];rfl) ?_);exact(Gj h).2
theorem GS.one(G:GS w os F L s)(a:p∈L)(b:q∈L)(e:p.1=q.1):p=q:=by
 have h:=G.3.2 q.1;clear G
 induction L with
 |nil=>cases a
 |cons y L i=>
  rw[az,cy] at h;have h':(L.map (·.1)).count q.1<=1:=ao (eQ _ _) h;have no:∀z∈L,z.1=q.1->y.1≠q.1:=λz g d c=>by
   have:=dz.2<|aE.2 ⟨z,g,d⟩;rw[bf<|beq_iff_eq.2 c] at h;have f:(L.map (·.1)).count q.1=0:=Nat.le_zero.1<|Nat.le_of_succ_le_succ h;exact bq (f▸this)<|cB 0
  rcases ax.1 a with a|a<;>rcases ax.1 b with b|b
  .exact Rr a<|Rr b rfl
  .exact bq (a▸e)<|no q b rfl
  .exact bq (bx Prod.fst b).symm (no p a e)
  .exact i a b h'
theorem GS.PH(G:GS w os F L s)(k:(a,P)∈L)(g:iR a s.1 h')(e:h'.get? a=fU h)(j:P' h)(l:∀p∈L',p=(a,P')\/(p∈L/\p.1≠a))(hc:∀b,(L'.map (·.1)).count b<=(L.map (·.1)).count b):
  GS w os F L' {s with heap:=h'}:=by
 have fa:F a=Z9:=(G.3.1 _ k).2;refine⟨G.1,λb i c=>?_,⟨λp n=>?_,λb=>ao (hc b)<|G.3.2 b⟩,G.4,G.5⟩
 .have:b≠a:=by rintro rfl;rw[fa] at c;injection c
  exact g b i this<|G.2 b i c
 .rcases l p n with rfl|⟨d,m⟩
  .exact⟨⟨h,e,j⟩,fa⟩
  .obtain⟨⟨o,e,q⟩,f⟩:=G.3.1 p d;exact⟨⟨o,g _ _ m e,q⟩,f⟩
theorem GS.RD(G:GS w os F ((a,P)::L) s)(d:iR a s.1 h')(e:h'.get? a=fU i)(b:P' i):GS w os F ((a,P')::L) {s with heap:=h'}:=
 G.PH (.head _) d e b (λp c=>(ax.1 c).elim .inl λh=>.inr ⟨.tail _ h,G.Gm p h⟩) λf=>ba _
theorem UZ(h:dC a s.1 h'):iR a s.1 h':=λb d c e=>(h.2 b c).trans e
theorem GS.upd(G:GS w os F ((a,P)::L) s)(c:dC a s.1 h')(e:h'.get? a=fU h)(b:P' h):GS w os F ((a,P')::L) {s with heap:=h'}:=G.RD (UZ c) e b
theorem GS.at(G:GS w os F L s)(b:(a,P)∈L):∃o,s.1.get? a=fU o/\P o:=(G.3.1 _ b).1
end
set_option genSizeOf false in
set_option genCtorIdx false in
inductive PV where
 |none|c (b:Bool)|i (i:Int)
 |b (l:List UInt8)
 |a (l:List PV)|l (l:List PV)
 |f (c:Nat) (fs:List PV)
 |p (l:List<|(Int×Int)×Int)|d (l:List<|Int×Int)|e (l:List Int)
 |r (a b c:Int)
 |o|m|g|t
noncomputable def PV.ctorIdx(x:PV):Nat:=PV.casesOn x 0 (λa=>1) (λa=>2) (λa=>3) (λa=>4) (λa=>5) (λa a=>6) (λa=>7) (λa=>8) (λa=>9) (λa a a=>10) 11 12 13 14
noncomputable def dj(vs:List aF):OP:=λo=>∃n,o={cls:=.type "list",data:=.seq vs.toArray n}
noncomputable def rx(vs:List aF):OP:=λo=>∃n,o={cls:=.type "tuple",data:=.seq vs.toArray n}
noncomputable def pj(m:eT->Option aF):OP:=λo=>∃es ep,o.3=.dict es ep/\StrKeys es/\∀name,nsFind es name=m name
noncomputable def jh(m:eT->Option aF):OP:=λo=>∃es ep,o.3=.dict es ep/\StrKeys es/\UniqKeys es/\∀name,nsFind es name=m name
noncomputable def iK(v:Option aF):OP:=λo=>o.3=.cell v
noncomputable def qZ(b:List UInt8):OP:=λo=>o={cls:=.type "bytearray",data:=.bytearray b.toArray 0}
noncomputable abbrev IK(w:bN):=BL pw w
noncomputable abbrev TK(w:bN):=tupleKind<|BL pw w
noncomputable def nW(w:bN)(kvs:List<|Int×aF):OP:=λo=>∃es ep,o.ExactDict/\o.3=.dict es ep/\KeysOf (IK w) es/\Pairs (IK w) es.1 kvs/\(kvs.map (·.1)).Nodup
noncomputable def qj(w:bN)(xs:List<|List Int×bW×aF):OP:=λo=>∃es ep,o.ExactDict/\o.3=.dict es ep/\es.1=xs.map (entryOfKey<|TK w)/\(xs.map (·.1)).Nodup
noncomputable def dp:Nat->List eT
 |195=>[aa "lengths",aa "turned"]
 |289=>[aa "literals",aa "distances"]
 |369=>[aa "literals",aa "distances",aa "rows",aa "lengths",aa "told"]
 |432=>[aa "parts",aa "literals",aa "distances",aa "head",aa "total"]
 |_=>[]
def n7(F:FZ)(a:bW)(P:OP):Prop:=∃o,F a=fU o/\P o
theorem n7.le(l:iD F F')(x:n7 F a P):n7 F' a P:=by refine bO x λo e q=>?_;exact⟨o,l _ _ e,q⟩
noncomputable def vC(c:Nat)(d:bW):OP:=λo=>o.1=.ref c/\(∀k,o.3≠.cls k)/\o.2=fU d
def Cx(F:FZ)(a:bW)(c:Nat)(vs:List aF):Prop:=
 ∃(d:bW) (m:eT->Option aF),d≠a/\n7 F a (vC c d)/\n7 F d (jh m)/\(∀(i:Nat) (x:eT),(dp c)[i]?=fU x->m x=vs[i]?)/\(∀x,x∉dp c->m x=Z9)
theorem Cx.le(l:iD F F')(x:Cx F a c vs):Cx F' a c vs:=
 by refine jX x λd m g e q r=>?_;exact(ff d m ⟨g,e.le l,q.le l,r⟩)
def Bs(F:FZ)(k:List Int)(a:bW):Prop:=∃i j t u,k=[i,j]/\n7 F a (rx [.int i t,.int j u])
theorem Bs.le(l:iD F F')(x:Bs F k a):Bs F' k a:=by refine uP x λi j t u e q=>?_;exact(B2 i j t u ⟨e,q.le l⟩)
def uE(F:FZ):List (List Int×bW×aF)->List ((Int×Int)×Int)->Prop
 |[],[]=>True
 |x::xs,e::es=>(x.1=[e.1.1,e.1.2]/\(∃t,x.2.2=.int e.2 t)/\Bs F x.1 x.2.1)/\uE F xs es
 |_,_=>False
theorem uE.le(l:iD F F'):∀{xs es},uE F xs es->uE F' xs es
 |[],[],_=>trivial
 |_::_,_::_,⟨⟨a,b,c⟩,r⟩=>⟨⟨a,b,c.le l⟩,uE.le l r⟩
 |[],_::_,h=>h.elim
 |_::_,[],h=>h.elim
def vX:List (Int×aF)->List (Int×Int)->Prop
 |[],[]=>True
 |x::xs,e::es=>(x.1=e.1/\∃t,x.2=.int e.2 t)/\vX xs es
 |_,_=>False
noncomputable def QJ(s:iW)(i:Nat):iW:=((OH s).bind λd=>d.2.2.1[i]?).getD<|.Pass default
noncomputable def HT:iW:=QJ (st 48) 3
noncomputable def tC:eT:=aa "_law_taker.<locals>.take"
noncomputable def uB(vB:List<|eT×bW)(kd:bW)(b a c:aF):FuncData:=(OH HT).elim default λd=>fnX d.1 tC d.2.1 d.2.2.1 d.2.2.2 vB .none .none a c Z9 (.ref kd) b
noncomputable def Ji(ad:Ad):OP:=λo=>o.1=.type "function"/\∃vB b a c,o.3=.func (uB vB ad.10 b a c)/\vB.lookup (aa "cells")=fU ad.7/\vB.lookup (aa "place")=fU ad.8
def lQ(ad:Ad)(F:FZ):Prop:=n7 F ad.5 (Ji ad)/\(∃us,n7 F ad.9 (dj us)/\nH us ad.11/\us.length<=63)/\n7 F ad.10 λo=>∃vs t,o.3=.fields vs/\vs[1]?=fU (.str tC t)
theorem lQ.le{ad:Ad}{F F':FZ}(l:iD F F')(h:lQ ad F):lQ ad F':=⟨h.1.le l,(by refine bO h.2.1 λus a b=>?_;exact⟨us,a.le l,b⟩),h.2.2.le l⟩
noncomputable def aq:Nat:=1048576
mutual
def VR(w:bN)(ad:Ad)(F:FZ):PV->aF->Prop
 |.none,v=>v=.none
 |.c b,v=>v=.bool b
 |.i i,v=>∃t,v=.int i t
 |.b l,v=>l.length<=aq/\∃t,v=.bytes l.toArray t
 |.a l,v=>l.length<=aq/\∃a vs,v=.ref a/\n7 F a (rx vs)/\fP w ad F l vs
 |.l l,v=>l.length<=aq/\∃a vs,v=.ref a/\n7 F a (dj vs)/\fP w ad F l vs
 |.f c fs,v=>∃a vs,v=.ref a/\Cx F a c vs/\fP w ad F fs vs
 |.p l,v=>∃a xs,v=.ref a/\(a==j2)=Z7/\n7 F a (qj w xs)/\uE F xs l
 |.d l,v=>∃a xs,v=.ref a/\(a==j2)=Z7/\n7 F a (nW w xs)/\vX xs l
 |.e l,v=>∃a,v=.ref a/\n7 F a λo=>o.SetObjOf (IK w) (λk=>l.any (·==k)) l.length/\l.length<=aq
 |.r a b c,v=>∃r t u x,v=.ref r/\F r=fU {cls:=.type "range",data:=.fields #[.int a t,.int b u,.int c x]}
 |.o,v=>v=.ref ad.1/\ad.2≠ad.1/\n7 F ad.1 (vC 127 ad.2)
 |.m,v=>v=.ref ad.3
 |.g,v=>v=.ref ad.4
 |.t,v=>v=.ref ad.5/\lQ ad F
def fP(w:bN)(ad:Ad)(F:FZ):List PV->List aF->Prop
 |[],vs=>vs=[]
 |p::ps,vs=>∃v r,vs=v::r/\VR w ad F p v/\fP w ad F ps r
end
section
variable{w:bN}{ad:Ad}{F F':FZ}{v:aF}{vs:List aF}
theorem pa:VR w ad F (.i i) v↔∃t,v=.int i t:=kE
theorem rU:VR w ad F (.b l) v↔l.length<=aq/\∃t,v=.bytes l.toArray t:=kE
theorem nZ:VR w ad F (.a l) v↔l.length<=aq/\∃a vs,v=.ref a/\n7 F a (rx vs)/\fP w ad F l vs:=kE
theorem jW:VR w ad F (.l l) v↔l.length<=aq/\∃a vs,v=.ref a/\n7 F a (dj vs)/\fP w ad F l vs:=kE
theorem nq:VR w ad F (.f c l) v↔∃a vs,v=.ref a/\Cx F a c vs/\fP w ad F l vs:=kE
theorem z4:VR w ad F (.p l) v↔∃a xs,v=.ref a/\(a==j2)=Z7/\n7 F a (qj w xs)/\uE F xs l:=kE
theorem rk:VR w ad F (.d l) v↔∃a xs,v=.ref a/\(a==j2)=Z7/\n7 F a (nW w xs)/\vX xs l:=kE
theorem AE:VR w ad F (.e l) v↔∃a,v=.ref a/\n7 F a λo=>o.SetObjOf (IK w) (λk=>l.any (·==k)) l.length/\l.length<=aq:=kE
theorem vK:VR w ad F (.r a b c) v↔∃r t u x,v=.ref r/\F r=fU {cls:=.type "range",data:=.fields #[.int a t,.int b u,.int c x]}:=kE
theorem xM:VR w ad F .o v↔v=.ref ad.1/\ad.2≠ad.1/\n7 F ad.1 (vC 127 ad.2):=kE
theorem pF:VR w ad F .t v↔v=.ref ad.5/\lQ ad F:=kE
theorem dN:fP w ad F [] vs↔vs=[]:=kE
theorem cZ:fP w ad F (p::ps) vs↔∃v r,vs=v::r/\VR w ad F p v/\fP w ad F ps r:=kE
mutual
theorem VR.le(l:iD F F'):∀{p:PV} {v:aF},VR w ad F p v->VR w ad F' p v
 |.none,_=>λh=>h
 |.c _,_=>λh=>h
 |.i _,_=>λh=>h
 |.b _,_=>λh=>h
 |.a _,_=>λh=>by refine dI (nZ.1 h) λn a vs e q r=>?_;exact nZ.2 ⟨n,ff a vs ⟨e,q.le l,fP.le l r⟩⟩
 |.l _,_=>λh=>by refine dI (jW.1 h) λn a vs e q r=>?_;exact jW.2 ⟨n,ff a vs ⟨e,q.le l,fP.le l r⟩⟩
 |.f _ _,_=>λh=>by refine cU (nq.1 h) λa vs e q r=>?_;exact nq.2<|ff a vs ⟨e,q.le l,fP.le l r⟩
 |.p _,_=>λh=>by refine jX (z4.1 h) λa vs e g q r=>?_;exact z4.2<|ff a vs ⟨e,g,q.le l,r.le l⟩
 |.d _,_=>λh=>by refine jX (rk.1 h) λa vs e g q r=>?_;exact rk.2<|ff a vs ⟨e,g,q.le l,r⟩
 |.e _,_=>λh=>by refine bO (AE.1 h) λa e q=>?_;exact AE.2 ⟨a,e,q.le l⟩
 |.r _ _ _,_=>λh=>by refine uP (vK.1 h) λr t u x e q=>?_;exact vK.2<|B2 r t u x ⟨e,l _ _ q⟩
 |.o,_=>λh=>let h:=xM.1 h;xM.2 ⟨h.1,h.2.1,h.2.2.le l⟩
 |.m,_=>λh=>h
 |.g,_=>λh=>h
 |.t,_=>λh=>let h:=pF.1 h;pF.2 ⟨h.1,h.2.le l⟩
theorem fP.le(l:iD F F'):∀{ps:List PV} {vs:List aF},fP w ad F ps vs->fP w ad F' ps vs
 |[],_=>λh=>h
 |_::_,_=>λh=>by refine cU (cZ.1 h) λv r e q k=>?_;exact cZ.2<|ff v r ⟨e,VR.le l q,fP.le l k⟩
end
end
set_option genSizeOf false
set_option genInjectivity false
set_option genCtorIdx false in
inductive LV where
 |u|m|f (p:PV)|o (l:List PV)|a (l:List<|(Int×Int)×Int)|b (l:List<|Int×Int)
noncomputable def LV.ctorIdx(x:LV):Nat:=LV.casesOn x 0 1 (λa=>2) (λa=>3) (λa=>4) λa=>5
structure CL where
 v:aF
 ow:Option OP
structure BO where
 made:List UInt8
 held:Int
 count:Int
structure Wd where
 bo:Option BO:=Z9
 pk:Option<|Int×List Int:=Z9
structure St where
 sl:List LV
 W:Wd
def ve(w:bN)(ad:Ad)(F:FZ):LV->CL->Prop
 |.u,c=>c.2=Z9
 |.m,c=>c=⟨.ref ad.6,Z9⟩
 |.f p,c=>c.2=Z9/\VR w ad F p c.1
 |.o l,c=>l.length<=aq/\∃a vs,c=⟨.ref a,fU<|dj vs⟩/\fP w ad F l vs
 |.a l,c=>∃a xs,(a==j2)=Z7/\c=⟨.ref a,fU<|qj w xs⟩/\uE F xs l
 |.b l,c=>∃a xs,(a==j2)=Z7/\c=⟨.ref a,fU<|nW w xs⟩/\vX xs l
theorem ve.le{ad:Ad}{F F':FZ}(l:iD F F'):∀{lv:LV} {c:CL},ve w ad F lv c->ve w ad F' lv c
 |.u,_=>λh=>h
 |.m,_=>λh=>h
 |.f _,_=>λh=>⟨h.1,h.2.le l⟩
 |.o _,_=>λh=>by refine lg h λn a vs e q=>?_;exact⟨n,ff a vs ⟨e,q.le l⟩⟩
 |.a _,_=>λh=>by refine cU h λa vs g e q=>?_;exact(ff a vs ⟨g,e,q.le l⟩)
 |.b _,_=>λh=>h
def jI(w:bN)(ad:Ad)(F:FZ):List LV->List CL->Prop
 |[],[]=>True
 |x::xs,c::cs=>ve w ad F x c/\jI w ad F xs cs
 |_,_=>False
section
variable{w:bN}{ad:Ad}{F F':FZ}
theorem jI.le(l:iD F F'):∀{xs:List LV} {cs:List CL},jI w ad F xs cs->jI w ad F' xs cs
 |[],[]=>λa=>trivial
 |_::_,_::_=>λh=>⟨h.1.le l,h.2.le l⟩
 |[],_::_=>λh=>h.elim
 |_::_,[]=>λh=>h.elim
theorem jI.get:∀{xs:List LV} {cs:List CL} {i:Nat} {lv:LV},jI w ad F xs cs->xs[i]?=fU lv->∃c,cs[i]?=fU c/\ve w ad F lv c
 |[],[],_,_=>λa e=>by simp at e
 |_::_,c::_,0,_=>λh e=>by simp at e;subst e;exact⟨c,rfl,h.1⟩
 |_::_,_::_,i+1,_=>λh e=>by simp at e;refine bO (h.2.get e) λc e' q=>?_;exact⟨c,by simpa using e',q⟩
 |[],_::_,_,_=>λh a=>h.elim
 |_::_,[],_,_=>λh a=>h.elim
theorem jI.set:∀{xs:List LV} {cs:List CL} {i:Nat} {lv:LV} {c:CL},jI w ad F xs cs->ve w ad F lv c->jI w ad F (xs.set i lv) (cs.set i c)
 |[],[],_,_,_=>λa a=>trivial
 |_::_,_::_,0,_,_=>λh q=>⟨q,h.2⟩
 |_::_,_::_,i+1,_,_=>λh q=>⟨h.1,h.2.set q⟩
 |[],_::_,_,_,_=>λh a=>h.elim
 |_::_,[],_,_,_=>λh a=>h.elim
theorem jI.length:∀{xs:List LV} {cs:List CL},jI w ad F xs cs->xs.length=cs.length
 |[],[]=>λa=>rfl
 |_::_,_::_=>λh=>by simp[h.2.length]
 |[],_::_=>λh=>h.elim
 |_::_,[]=>λh=>h.elim
end
noncomputable def gF:CL->dw
 |⟨.ref a,fU P⟩=>[(a,P)]
 |_=>[]
noncomputable def ci:List CL->dw
 |[]=>[]
 |c::r=>gF c++ci r
theorem XU:ci []=[]:=rfl
theorem qa:ci (c::r)=gF c++ci r:=rfl
theorem XT:gF ⟨.ref a,fU P⟩=[(a,P)]:=rfl
noncomputable abbrev je(L:dw):List bW:=L.map (·.1)
theorem ry:∀{cs:List CL} {i:Nat},p∈ci (cs.set i c)->p∈ci cs\/p∈gF c
 |[],_=>λh=>.inl h
 |x::r,0=>λh=>by
  rcases a7.1 h with h|h
  .exact .inr h
  .exact .inl<|aw _ h
 |x::r,i+1=>λh=>by
  rcases a7.1 h with h|h
  .exact .inl<|aD _ h
  .rcases ry (cs:=r) h with h|h
   .exact .inl<|aw _ h
   .exact .inr h
theorem rp:∀{cs:List CL} {i:Nat},(je<|ci<|cs.set i c).count a<=(je<|ci cs).count a+(je<|gF c).count a
 |[],_=>by simp[XU]
 |x::r,0=>by simp only [rZ,qa,je,aC,bt];exact dT (.a .A .B) (.a (.a .C .B) .A) .e rfl
 |x::r,i+1=>by
  have:=rp (c:=c) (a:=a) (cs:=r) (i:=i);simp only [rZ,qa,je,aC,bt] at this⊢;exact gy (.a .A .B) (.a (.a .A .C) .D) (.z .B<|.a .C .D) rfl this
theorem pB:∀{cs:List CL} {i:Nat} {c:CL},cs[i]?=fU c->∀p,p∈gF c++ci (cs.set i ⟨.none,Z9⟩)->p∈ci cs
 |x::r,0,c=>λe p h=>by
  injection e with e;subst e;exact h
 |x::r,i+1,c=>λe p h=>by
  simp at e;have:=pB (cs:=r) (i:=i) e p;simp only [rZ,qa,a7] at h this⊢
  rcases h with h|h|h
  .exact .inr<|this<|.inl h
  .exact .inl h
  .exact .inr<|this<|.inr h
 |[],_,_=>λe a a=>by simp at e
theorem mr:∀{cs:List CL} {i:Nat} {c:CL},cs[i]?=fU c->∀a,(je<|ci cs).count a=(je<|gF c).count a+(je<|ci<|cs.set i ⟨.none,Z9⟩).count a
 |x::r,0,c=>λe a=>by
  injection e with e;subst e;exact(bx (List.count a) aC).trans bt
 |x::r,i+1,c=>λe a=>by
  simp at e;have:=mr (cs:=r) (i:=i) e a;simp only [rZ,qa,je,aC,bt] at this⊢;exact aj (gy (.a .A .B) (.a .C<|.a .A .D) (.z .B<|.a .C .D) rfl (el this))<|gy (.a .A<|.a .B .C) (.a .B .D) (.z (.a .A .C) .D) rfl (eg this)
 |[],_,_=>λe b=>by simp at e
noncomputable def xj(ad:Ad)(b:BO):OP:=λo=>∃m,jh m o/\m (aa "made")=fU (.ref ad.3)/\(∃t,m (aa "held")=fU (.int b.2 t))/\(∃t,m (aa "count")=fU (.int b.3 t))/\
 ∀x,x≠aa "made"->x≠aa "held"->x≠aa "count"->m x=Z9
noncomputable def vz(k:Int):OP:=λo=>∃t,dj [.int k t] o
noncomputable def rK(ad:Ad):Option BO->dw
 |none=>[]
 |some b=>[(ad.2,xj ad b),(ad.3,qZ b.1)]
theorem XW{ad:Ad}{b:BO}:rK ad (fU b)=[(ad.2,xj ad b),(ad.3,qZ b.1)]:=rfl
noncomputable def qK(ad:Ad)(o:Option<|Int×List Int):dw:=
 o.elim [] λp=>[(ad.4,λo=>vz p.1 o/\ad.11=p.2),(ad.7,iK<|fU<|.ref ad.9),(ad.8,iK<|fU<|.ref ad.4)]
noncomputable def gB(ad:Ad)(W:Wd):dw:=rK ad W.1++qK ad W.2
set_option genCtorIdx false in
inductive Loc where
 |a|n (L:bW) (x:eT)|c (c:bW)
noncomputable def Loc.ctorIdx(x:Loc):Nat:=Loc.casesOn x 0 (λa a=>1) λa=>2
structure MT where
 t:List<|eT×Nat:=[]
 lim:Nat:=0
structure Fx where
 env:mR
 tbl:List (eT×Nat)
 loc:Nat->Loc
 nsA:List bW
 n1A:List bW
 ceA:List bW
 me:Option<|Nat×bW:=Z9
 mtb:MT:={}
 pin:List<|Nat×aF:=[]
noncomputable def dU(fx:Fx)(nm:bW->eT->Option aF)(cc:bW->Option aF):dw:=
 fx.4.map (λL=>(L,pj<|nm L))++(fx.5.map (λL=>(L,jh<|nm L))++fx.6.map (λc=>(c,iK<|cc c)))
def nh(nm:bW->eT->Option aF)(cc:bW->Option aF):Loc->aF->Prop
 |.a,_=>True
 |.n L x,v=>nm L x=fU v
 |.c c,v=>cc c=fU v
structure eA (fx:Fx):Prop where
 kind:fx.1.1.1=.function
 tb:∀x i,(x,i)∈fx.2->(x==("__debug__":eT))=Z7/\(x==("__classdict__":eT))=Z7/\
  ((fx.1.kindOf x=fU .local/\fx.3 i=(.n fx.1.2 x))\/
     ((fx.1.kindOf x=fU .cell\/fx.1.kindOf x=fU .free)/\∃c,fx.1.4.lookup x=fU c/\fx.3 i=(.c c)))
 inj:∀(i j:Nat) (l:Loc),fx.3 i=l->fx.3 j=l->l≠Loc.a->i=j
 nsM:fx.1.2∈fx.4
 ceM:∀(i:Nat) (c:bW),fx.3 i=(Loc.c c)->c∈fx.6
 mt:∀c D,fx.7=fU (c,D)->D∈fx.5/\∀x i,(x,i)∈fx.8.1->fx.3 i=.n D x
 nl:fx.1.2∉fx.5
 nsL:∀(i:Nat) (L:bW) (x:eT),fx.3 i=(.n L x)->L∈fx.4\/L∈fx.5
 mc:∀x i,(x,i)∈fx.8.1->∃c D,fx.7=fU (c,D)/\x∈dp c
 pl:∀i u,(i,u)∈fx.9->i<fx.8.2
 glob:fx.1.3=3
 bi:fx.1.9=0
structure cr (w:bN) (ad:Ad) (fx:Fx) (F:FZ) (ex:dw) (σ:St) (s:aG) where
 cl:List CL
 nm:bW->eT->Option aF
 cc:bW->Option aF
 lv:jI w ad F σ.1 cl
 st:∀(i:Nat) (lv:LV) (c:CL) (l:Loc),σ.1[i]?=fU lv->lv≠LV.u->cl[i]?=fU c->fx.3 i=l->nh nm cc l c.1
 pn:∀(i:Nat) (u:aF),(i,u)∈fx.9->∀(lv:LV) (c:CL),σ.1[i]?=fU lv->lv≠LV.u->cl[i]?=fU c->c.1=u
 mf:∀c D,fx.7=fU (c,D)->D≠ad.6/\n7 F ad.6 (vC c D)/\∀y,y∉dp c->nm D y=Z9
 gs:GS w ad.12 F (dU fx nm cc++(ci cl++(ex++gB ad σ.2))) s
section
variable{w:bN}{ad:Ad}{fx:Fx}{F:FZ}{ex ex':dw}{σ:St}{s:aG}{A:bU}
noncomputable def cr.Ra(S:cr w ad fx F ex σ s)(c:∀p,p∈ex'->p∈ex)(hc:∀a,(je ex').count a<=(je ex).count a):cr w ad fx F ex' σ s:=
 ⟨S.1,S.2,S.3,S.4,S.5,S.6,S.7,S.8.zH (λp b=>by
  simp only [a7] at b⊢
  rcases b with h|h|h|h
  .exact .inl h
  .exact .inr<|.inl h
  .exact .inr<|.inr<|.inl<|c p h
  .exact .inr<|.inr<|.inr h) λa=>by
  have:=hc a;simp only [je,aC,bt] at this⊢;exact pI (.a .A<|.a .B<|.a .C .D) (.a .A<|.a .B<|.a .E .D) (.z .C .E) rfl this⟩
noncomputable def cr.tok(S:cr w ad fx F ex σ s)(t:Nat):cr w ad fx F ex σ {s with toks:=t}:=⟨S.1,S.2,S.3,S.4,S.5,S.6,S.7,S.8.tok t⟩
noncomputable def cr.keep(S:cr w ad fx F ex σ s)(k:Keeps s.1 h'):cr w ad fx F ex σ {s with heap:=h'}:=⟨S.1,S.2,S.3,S.4,S.5,S.6,S.7,S.8.keep k⟩
theorem pj.at{h:qA}{m}(x:∃o,h.get? a=fU o/\pj m o):h.Ns a m:=by refine LW x λo e es ep r=>?_;exact(ou o es ep ⟨e,r⟩)
theorem pj.of{h:qA}{m}(x:h.Ns a m):∃o,h.get? a=fU o/\pj m o:=by refine AN x λo es ep e r=>?_;exact⟨o,e,ff es ep r⟩
theorem cr.load(O:eA fx)(S:cr w ad fx F ex σ s){x:eT}{i:Nat}(o:(x,i)∈fx.2){lv:LV}(hi:σ.1[i]?=fU lv)(l:lv≠LV.u){Q:aF->aG->Prop}{E:aF->aG->Prop}
  (h:∀c,S.1[i]?=fU c->ve w ad F lv c->Q c.1 s):br (MM w) A (ue fx.1 x) Q E s:=by
 refine bO (S.4.get hi) λc hc g=>hV (O.2 x i o) λp m n=>?_;rcases n with⟨d,e⟩|⟨d,a,k,e⟩
 .have j:S.2 fx.1.2 x=fU c.1:=S.5 i lv c _ hi l hc e;have f:(fx.1.2,pj<|S.2 fx.1.2)∈dU fx S.2 S.3++(ci S.1++(ex++gB ad σ.2)):=
   aD _ (aD _<|aE.2 ⟨_,O.4,rfl⟩)
  exact wpAny_loadName_local O.1 d (pj.at<|S.8.at f) j<|h c hc g
 .have j:S.3 a=fU c.1:=S.5 i lv c _ hi l hc e;have f:(a,iK<|S.3 a)∈dU fx S.2 S.3++(ci S.1++(ex++gB ad σ.2)):=
   aD _ (aw _<|aw _<|aE.2 ⟨_,O.5 i a e,rfl⟩)
  have b:s.1.IsCell a<|fU c.1:=j▸S.8.at f;rcases d with d|d
  .exact wpAny_loadName_cell O.1 d k b<|h c hc g
  .exact wpAny_loadName_free O.1 d k b (h c hc g) m
end
theorem Loc.ns.inj(h:Loc.n L x=.n M y):L=M/\x=y:=by injection h with a b;subst a b;exact⟨rfl,rfl⟩
theorem uK{α β:Type}{f g:α->β}{l:List α}(h:∀x∈l,f x=g x):l.map f=l.map g:=cx h
section
variable{w:bN}{ad:Ad}{fx:Fx}{F F':FZ}{ex ex':dw}{σ:St}{s:aG}{A:bU}
noncomputable def ln(nm:bW->eT->Option aF)(L:bW)(x:eT)(v:aF):bW->eT->Option aF:=λb=>if b=L then(λy=>if y=x then fU v else nm L y) else nm b
noncomputable def sW(cc:bW->Option aF)(a:bW)(v:aF):bW->Option aF:=λb=>if b=a then fU v else cc b
theorem GS.apart{os:gv}(G:GS w os F (X++Y) s){p q:bW×OP}(c:p∈X)(d:q∈Y):q.1≠p.1:=λe=>by
 have h:=G.3.2 p.1;rw[aC,bt] at h;have a:=dz.2 (aE.2 ⟨p,c,rfl⟩:p.1∈X.map (·.1));have b:=dz.2 (aE.2 ⟨q,d,e⟩:p.1∈Y.map (·.1));exact Ix (.o (.a .A .B) .i<|.o (.s<|.n 0) .A<|.z (.s<|.n 0) .B) rfl h a b
theorem O0{f:bW->OP}:∀{l:List bW},(l.map λb=>(b,f b)).map (·.1)=l:=by
 intro l;induction l with
 |nil=>exact rfl
 |cons b l a=>exact bx (b::·) a
theorem GS.DR{os:gv}{l:List bW}{f f':bW->OP}(G:GS w os F (X++(l.map (λb=>(b,f b))++Z)) s)(j:a∈l)(m:∀b,b≠a->f' b=f b)
  (o:iR a s.1 h')(e:h'.get? a=fU y)(i:f' a y):GS w os F (X++(l.map (λb=>(b,f' b))++Z)) {s with heap:=h'}:=by
 have d:(a,f a)∈l.map λb=>(b,f b):=aE.2 ⟨a,j,rfl⟩;refine G.PH (P':=f' a) (aw _<|aD _ d) o e i (λp n=>?_) λb=>?_
 .rcases a7.1 n with h|h
  .exact .inr ⟨aD _ h,λe=>G.apart h (aD _ d) e.symm⟩
  rcases a7.1 h with h|h
  .refine bO (aE.1 h) λb k c=>?_;subst c;by_cases e:b=a
   .subst e;exact .inl rfl
   .exact .inr ⟨aw _<|aD _<|aE.2 ⟨b,k,by exact Rr (m b e) rfl⟩,e⟩
  .have g:=G;rw[<-au] at g;exact .inr ⟨aw _<|aw _ h,g.apart (aw _ d) h⟩
 .simp only [aC,O0];exact ba _
theorem nh.Me:nh (ln nm L x v) cc (.n L x) v:=(congrFun (bf rfl:(if L=L then(λy=>if y=x then fU v else nm L y) else nm L)=_) x).trans<|bf rfl
theorem nh.Go(h:nh nm cc l u)(f:l≠.n L x):nh (ln nm L x v) cc l u:=by
 cases l with
 |a=>trivial
 |c c=>exact h
 |n L' d=>
  show ln nm L x v L' d=fU u;unfold ln;by_cases b:L'=L
  .subst b;have:d≠x:=λe=>f<|Rr e rfl;simp only [if_true,aK this];exact h
  .refine Rr (aK b) ?_;exact h
theorem nh.JN:nh nm (sW cc a v) (.c a) v:=(show sW cc a v a=fU v from bf rfl)
theorem nh.HW{nm:bW->eT->Option aF}{cc:bW->Option aF}{a:bW}{v u:aF}{l:Loc}(h:nh nm cc l u)(d:l≠.c a):nh nm (sW cc a v) l u:=by
 cases l with
 |a=>trivial
 |n L x=>exact h
 |c b=>show sW cc a v b=fU u;unfold sW;have:b≠a:=λe=>d<|Rr e rfl;refine Rr (aK this) ?_;exact h
theorem Em{loc:Nat->Loc}{nm d:bW->eT->Option aF}{cc b:bW->Option aF}{sl:List LV}{cl:List CL}{i:Nat}{lv:LV}{c:CL}{o:Loc}
  (st:∀(j:Nat) (lv:LV) (c:CL) (l:Loc),sl[j]?=fU lv->lv≠LV.u->cl[j]?=fU c->loc j=l->nh nm cc l c.1)
  (r:loc i=o)(n:sl.length=cl.length)(p:nh d b o c.1)(q:∀(j:Nat) (l:Loc) (u:aF),j≠i->loc j=l->nh nm cc l u->nh d b l u):
  ∀(j:Nat) (a:LV) (f:CL) (l:Loc),(sl.set i lv)[j]?=fU a->a≠LV.u->(cl.set i c)[j]?=fU f->loc j=l->nh d b l f.1:=by
 intro j a f l m s e g;by_cases h:j=i
 .subst h;rw[r] at g;subst g;have:j<cl.length:=by
   have:=(bp.1 e).1;simpa using this
  rw[fy this] at e;injection e with k;subst k;exact p
 .rw[eD<|Ne.symm h] at m e;exact q j l _ h g<|st j a f l m s e g
theorem rB(h:b≠L):ln nm L x v b=nm b:=aK h
theorem tx:ln nm L x v L=λy=>if y=x then fU v else nm L y:=bf rfl
theorem Hs{L:bW}{x:eT}{v:aF}(h:L∉fx.5):
  dU fx (ln nm L x v) cc=fx.4.map (λb=>(b,pj<|ln nm L x v b))++(fx.5.map (λb=>(b,jh<|nm b))++fx.6.map λc=>(c,iK<|cc c)):=by
 unfold dU;exact Rr (show fx.5.map (λb=>(b,jh<|ln nm L x v b))=fx.5.map (λb=>(b,jh<|nm b)) from uK λb a=>by rw[rB λe:b=L=>h<|e▸a]) rfl
theorem GS.XE{os:gv}{nm:bW->eT->Option aF}{cc:bW->Option aF}{L:bW}(G:GS w os F (dU fx nm cc++R) s)(c:L∈fx.4)(a:L∉fx.5)
  (g:dC L s.1 h')(e:h'.get? L=fU h)(d:pj (ln nm L x v L) h):GS w os F (dU fx (ln nm L x v) cc++R) {s with heap:=h'}:=by
 refine Rr (Hs a) ?_;rw[au];unfold dU at G;rw[au] at G;exact GS.DR (X:=[]) (f':=λb=>pj<|ln nm L x v b) G c (λb f=>by exact Rr (rB f) rfl) (UZ g) e d
theorem GS.OW{os:gv}{nm:bW->eT->Option aF}{cc:bW->Option aF}{a:bW}(G:GS w os F (dU fx nm cc++R) s)(d:a∈fx.6)
  (g:dC a s.1 h')(e:h'.get? a=fU h)(c:iK (fU v) h):GS w os F (dU fx nm (sW cc a v)++R) {s with heap:=h'}:=by
 unfold dU at G⊢
 rw[<-au,au] at G⊢
 exact GS.DR (f':=λb=>iK<|sW cc a v b) G d (λb f=>by unfold sW;exact Rr (aK f) rfl) (UZ g) e<|by unfold sW;refine Rr (bf rfl) ?_;exact c
theorem GS.Uk{os:gv}{nm:bW->eT->Option aF}{cc:bW->Option aF}{L:bW}{x:eT}{v:aF}{R:dw}{h':qA}{d:Hj}(G:GS w os F (dU fx nm cc++R) s)(c:L∈fx.5)
  (h:iR L s.1 h')(e:h'.get? L=fU d)(f:jh (ln nm L x v L) d):GS w os F (dU fx (ln nm L x v) cc++R) {s with heap:=h'}:=by
 unfold dU at G⊢
 rw[au,au] at G⊢
 have g:(L,jh<|nm L)∈fx.5.map λb=>(b,jh<|nm b):=aE.2 ⟨L,c,rfl⟩;refine Rr (show fx.4.map (λb=>(b,pj<|ln nm L x v b))=fx.4.map (λb=>(b,pj<|nm b)) from uK λb a=>by rw[rB<|Ne.symm<|G.apart (aE.2 ⟨b,a,rfl⟩)<|aD _ g])<|GS.DR (f':=λb=>jh<|ln nm L x v b) G c (λb a=>by exact Rr (rB a) rfl) h e f
theorem GS.setC{os:gv}{X W:dw}(G:GS w os F (X++(ci cl++(gF c++ex++W))) s):GS w os F (X++(ci (cl.set i c)++(ex++W))) s:=
 (G.rg [X,ci cl,gF c,ex,W] (.n (.l 0)<|.n (.l 1)<|.n (.n (.l 2)<|.l 3)<|.l 4) (.n (.l 0)<|.n (.n (.l 1)<|.l 2)<|.n (.l 3)<|.l 4) rfl).zH
  (λp b=>(a7.1 b).elim (aD _) λb=>aw _<|(a7.1 b).elim (λh=>aD _<|a7.2<|ry h)<|aw _)
  λa=>by
   have:=rp (c:=c) (a:=a) (cs:=cl) (i:=i);simp only [je,LT.XK,LT.XM,List.getD_cons_zero,List.getD_cons_succ,aC,bt] at this⊢;exact vd (.a .A<|.a .B<|.a .C .D) (.a .A<|.a (.a .E .F)<|.a .C .D) (.z .B<|.a .E .F) rfl this
theorem cr.store(O:eA fx)(S:cr w ad fx F (gF c++ex) σ s){x:eT}{i:Nat}{lv:LV}(R:(x,i)∈fx.2)(N:fx.1.kindOf x≠fU .free)(I:ve w ad F lv c)(n:∀u,(i,u)∉fx.9){Q:Unit->aG->Prop}{E:aF->aG->Prop}
  (h:∀s',cr w ad fx F ex {σ with sl:=σ.1.set i lv} s'->Q () s'):br (MM w) A (storeName fx.1 x c.1) Q E s:=by
 have J:=(O.2 x i R).2.2;have len:=S.4.length;have o:∀(j:Nat) (u:aF),(j,u)∈fx.9->∀(d:LV) (b:CL),(σ.1.set i lv)[j]?=fU d->d≠LV.u->(S.1.set i c)[j]?=fU b->b.1=u:=λj u g d b G P H=>by
  have r:i≠j:=λe=>n u<|e▸g;rw[eD r] at G H;exact S.6 j u g d b G P H
 rcases J with⟨t,k⟩|⟨t,a,M,k⟩
 .have v:(fx.1.2,pj<|S.2 fx.1.2)∈dU fx S.2 S.3:=aD _<|aE.2 ⟨_,O.4,rfl⟩;refine wpAny_storeName_local t (pj.at<|S.8.at<|aD _ v) (λh' z f=>?_) (by refine Rr O.1 ?_;rfl);refine bO (pj.of z) λU p C=>h _ ⟨S.1.set i c,ln S.2 fx.1.2 x c.1,S.3,S.4.set I,Em S.5 k len nh.Me λj l u g e B=>nh.Go B λe'=>g<|O.3 j i _ (e'▸e) k<|by simp,o,
   λb D e=>⟨(S.7 b D e).1,(S.7 b D e).2.1,λy T=>by
    have L:D≠fx.1.2:=λe'=>O.7<|e'▸(O.6 b D e).1;refine Rr (rB L) ?_;exact(S.7 b D e).2.2 y T⟩,
   (S.8.setC.XE O.4 O.7 f p<|tx▸C).tok _⟩
 .have m:=O.5 i a k;have v:(a,iK<|S.3 a)∈dU fx S.2 S.3:=aw _<|aw _<|aE.2 ⟨_,m,rfl⟩;refine wpAny_storeName_cell O.1 (t.resolve_right N) M (S.8.at<|aD _ v) λh' q f=>bO q λU p C=>?_;exact h _ ⟨S.1.set i c,S.2,sW S.3 a c.1,S.4.set I,Em S.5 k len nh.JN λj l u g e B=>nh.HW B λe'=>g<|O.3 j i _ (e'▸e) k<|by simp,o,S.7,S.8.setC.OW m f p C⟩
end
set_option genSizeOf false
set_option genInjectivity false
set_option genCtorIdx false in
mutual
inductive Tv where
 |a|s|m|f|e|b|d|c|g|p
inductive Vw where
 |l|b|g|a|e|n
end
noncomputable def Tv.ctorIdx(x:Tv):Nat:=Tv.casesOn x 0 1 2 3 4 5 6 7 8 9
noncomputable def Vw.ctorIdx(x:Vw):Nat:=Vw.casesOn x 0 1 2 3 4 5
set_option genCtorIdx false in
mutual
inductive Ex where
 |i (i:Int)|h (b:Bool)|none
 |v (i:Nat)|D (i:Nat)
 |g (g:Nat)
 |b (op:Tv) (l r:Ex)
 |x (e:Ex)
 |z (op:Vw) (l r:Ex)
 |y (l r:Ex)
 |p (t:Te) (a b:Ex)
 |t (es:ER)|l (es:ER)
 |s (e i:Ex)|k (v:Nat) (i:Ex)
 |n (e lo hi:Ex)
 |d (e:Ex) (c i:Nat)
 |j (i:Nat)
 |e (e:Ex) (f:Nat)
 |c (f:Nat) (args:ER)
 |f (v:Ex) (arg:Ex)
 |m (m c:Nat) (recv:Ex) (args:ER)
 |a (b:Nat) (args:ER)
 |w (v:Nat)
 |r (e:Ex)
 |q (v:Nat) (k d:Ex)
 |u (e:Ex) (k d:Ex)
 |o (elt:Ex) (is:List Nat) (it:Ex) (ifs:DL)
 |A (elt:Ex) (is:List Nat) (it:Ex) (js:List Nat) (jt:Ex) (ifs:DL)
 |C
 |B (k v:Int)
inductive ER where|n|c (e:Ex) (r:ER)
inductive Te where
 |c (op:Vw) (l r:Ex)
 |i (k d:Ex)
 |o (ts:DL)|a (ts:DL)|n (t:Te)
 |e (e:Ex)
inductive DL where|n|c (t:Te) (r:DL)
end
noncomputable def Ex.ctorIdx(x:Ex):Nat:=Ex.casesOn x (λa=>0) (λa=>1) 2 (λa=>3) (λa=>4) (λa=>5) (λa a a=>6) (λa=>7) (λa a a=>8) (λa a=>9) (λa a a=>10) (λa=>11) (λa=>12) (λa a=>13) (λa a=>14) (λa a a=>15) (λa a a=>16) (λa=>17) (λa a=>18) (λa a=>19) (λa a=>20) (λa a a a=>21) (λa a=>22) (λa=>23) (λa=>24) (λa a a=>25) (λa a a=>26) (λa a a a=>27) (λa a a a a a=>28) 29 λa a=>30
noncomputable def ER.ctorIdx(x:ER):Nat:=ER.casesOn x 0 λa a=>1
noncomputable def Te.ctorIdx(x:Te):Nat:=Te.casesOn x (λa a a=>0) (λa a=>1) (λa=>2) (λa=>3) (λa=>4) λa=>5
noncomputable def DL.ctorIdx(x:DL):Nat:=DL.casesOn x 0 λa a=>1
set_option genCtorIdx false in
mutual
inductive Sx where
 |a (i:Nat) (e:Ex)
 |c (is:List Nat) (e:Ex)
 |g (i:Nat) (e:Ex)
 |o (is:List Nat) (e:Ex)
 |h (f:Nat) (e:Ex)
 |s (v:Nat) (i e:Ex)
 |j (op:Tv) (i:Nat) (e:Ex)
 |p (i:Nat) (e:Ex)
 |b (v:Nat) (i e:Ex)
 |d (v:Nat) (e:Ex)
 |m (e:Ex)
 |k (e:Ex)
 |e (e:Ex)
 |r (e:Ex)|t
 |i (t:Te) (a b:iX)
 |w (t:Te) (b:iX)
 |f (is:List Nat) (it:Ex) (b:iX)
 |l (is:List Nat) (e:Ex) (b:iX)
 |q|n
inductive iX where|n|c (s:Sx) (r:iX)
end
noncomputable def Sx.ctorIdx(x:Sx):Nat:=Sx.casesOn x (λa a=>0) (λa a=>1) (λa a=>2) (λa a=>3) (λa a=>4) (λa a a=>5) (λa a a=>6) (λa a=>7) (λa a a=>8) (λa a=>9) (λa=>10) (λa=>11) (λa=>12) (λa=>13) 14 (λa a a=>15) (λa a=>16) (λa a a=>17) (λa a a=>18) 19 20
noncomputable def iX.ctorIdx(x:iX):Nat:=iX.casesOn x 0 λa a=>1
set_option genCtorIdx false in
inductive Fl where
 |n|c|r (lv:LV)
noncomputable def Fl.ctorIdx(x:Fl):Nat:=Fl.casesOn x 0 1 λa=>2
noncomputable abbrev St.set(σ:St)(i:Nat)(lv:LV):St:={σ with sl:=σ.1.set i lv}
noncomputable def sL:LV->Option PV
 |.u=>Z9
 |.m=>Z9
 |.f p=>fU p
 |.o l=>fU<|.l l
 |.a l=>fU<|.p l
 |.b l=>fU<|.d l
noncomputable def oz:PV->Option Int
 |.i i=>fU i
 |_=>Z9
noncomputable def VA:PV->Option Bool
 |.c b=>fU b
 |_=>Z9
noncomputable def Tm:PV->Option (List PV)
 |.a l=>fU l
 |_=>Z9
noncomputable def Wy:PV->Option (List<|(Int×Int)×Int)
 |.p l=>fU l
 |_=>Z9
noncomputable def VD:PV->Option (List<|Int×Int)
 |.d l=>fU l
 |_=>Z9
noncomputable def WQ:PV->Option (List Int)
 |.e l=>fU l
 |_=>Z9
noncomputable def BQ:PV->Option (List PV)
 |.l l=>fU l
 |_=>Z9
noncomputable def ML:PV->Option (List UInt8)
 |.b l=>fU l
 |_=>Z9
noncomputable def W3:PV->Option (Int×Int×Int)
 |.r a b c=>fU (a,b,c)
 |_=>Z9
noncomputable def Nl:PV->Option (Nat×List PV)
 |.f c fs=>fU (c,fs)
 |_=>Z9
noncomputable def Vb:PV->Bool
 |.t=>Z8
 |_=>Z7
noncomputable def Pb:PV->Bool
 |.none=>Z8
 |_=>Z7
noncomputable def FJ:PV->Bool
 |.o=>Z8
 |_=>Z7
noncomputable def Bv:PV->Bool
 |.m=>Z8
 |_=>Z7
noncomputable def VH{α:Type}:List α->Option (α×α)
 |[a,b]=>fU (a,b)
 |_=>Z9
noncomputable def PQ{α:Type}:List α->Option α
 |[a]=>fU a
 |_=>Z9
noncomputable def Tw(p:PV):Option<|Int×Int:=(Tm p).bind λl=>(VH l).bind λx=>(oz x.1).bind λi=>(oz x.2).map λj=>(i,j)
noncomputable def On:LV->Option (List PV)
 |.o l=>fU l
 |_=>Z9
noncomputable def Ww:LV->Option (List<|(Int×Int)×Int)
 |.a l=>fU l
 |_=>Z9
noncomputable def SU:LV->Option (List<|Int×Int)
 |.b l=>fU l
 |_=>Z9
noncomputable def Fe:LV->Option PV
 |.f p=>fU p
 |_=>Z9
noncomputable def VQ:LV->Bool
 |.m=>Z8
 |_=>Z7
noncomputable def BR:Fl->Option LV
 |.r lv=>fU lv
 |_=>Z9
noncomputable def gd{α:Type}(c:Bool)(x:Option α):Option α:=bif c then x else Z9
noncomputable def fr(x:Option<|LV×St):Option<|PV×St:=x.bind λa=>(sL a.1).map λp=>(p,a.2)
noncomputable def ww(p:PV)(σ:St):LV×St:=(.f p,σ)
noncomputable def Aa(σ:St)(v:Nat):Option<|List PV:=σ.1[v]?.bind On
noncomputable def tD(σ:St):Bool:=σ.1.head?.elim Z7 VQ
noncomputable def t9(σ:St)(v:Nat):Bool:=σ.1[v]?.elim Z7 λlv=>(Fe lv).isNone&&(sL lv).isSome
noncomputable def Un(σ:St)(v:Nat):Bool:=(σ.1[v]?.bind SU).isSome
noncomputable def Jn(σ:St)(v:Nat):Bool:=(Aa σ v).isSome
noncomputable def qG(σ:St):Bool:=(σ.1.head?.bind Fe).elim Z7 FJ
noncomputable def Mq(σ:St)(i:Nat):Option<|PV×St:=σ.1[i]?.bind λlv=>(sL lv).map λp=>(p,σ.set i<|.f p)
noncomputable def WU(σ:St)(i:Nat):Option<|LV×St:=σ.1[i]?.bind λlv=>(sL lv).map λa=>(lv,bif (Fe lv).isSome then σ else σ.set i .u)
noncomputable def small(a:Int):Bool:=decide (a.natAbs<2^64)
noncomputable def intOp:Tv->Int->Int->Option Int
 |.a,a,b=>fU<|a+b
 |.s,a,b=>fU<|a-b
 |.m,a,b=>gd (small a)<|fU<|a*b
 |.f,a,b=>gd (decide (b≠0/\b.natAbs.log2<9000))<|fU<|a.fdiv b
 |.e,a,b=>gd (decide (b≠0))<|fU<|a.fmod b
 |.b,a,b=>gd (decide (0<=b/\b<=1000000)&&small a)<|fU<|a*2^b.toNat
 |.d,a,b=>gd (decide (0<=b))<|fU<|a.fdiv<|2^b.toNat
 |.c,a,b=>fU<|Builtin.bitAnd a b
 |.g,a,b=>fU<|Builtin.bitOr a b
 |.p,a,b=>gd (decide (0<=b/\b<=1000000)&&small a)<|fU<|a^b.toNat
noncomputable def T5(p q:PV):Option LV:=(BQ p).elim ((ML p).bind λa=>(ML q).bind λb=>gd (decide (a.length+b.length<=aq))<|fU<|.f<|.b<|a++b)
 λa=>(BQ q).bind λb=>gd (decide (a.length+b.length<=aq))<|fU<|.o<|a++b
noncomputable def Vc(p q:PV):Option LV:=(BQ p).bind λa=>(oz q).bind λn=>gd (decide (a.length*n.toNat<=aq/\n<=aq/\-aq<=n))<|fU<|.o (ap n.toNat a).flatten
noncomputable def iJ(op:Tv)(p q:PV):Option LV:=(oz p).elim (bif Nat.beq op.ctorIdx 0 then T5 p q else gd (Nat.beq op.ctorIdx 2)<|Vc p q)
 λa=>(oz q).bind λb=>(intOp op a b).map λi=>.f<|.i i
mutual
noncomputable def IT:PV->Option II
 |.none=>fU .none
 |.c b=>fU<|.bool b
 |.i i=>fU<|.int i
 |.l l=>(xU l).map .list
 |.a l=>(xU l).map .tuple
 |_=>Z9
noncomputable def xU:List PV->Option (List II)
 |[]=>fU []
 |a::r=>(IT a).bind λx=>(xU r).map (x::·)
end
noncomputable def DV(p q:PV):Option Bool:=(IT p).bind λx=>(IT q).bind λy=>gd (decide (x.depth<=64))<|fU<|x.eqv y
noncomputable def PV.beq(p q:PV):Option Bool:=(oz p).elim ((ML p).elim (DV p q) λa=>(ML q).map λb=>a==b) λa=>(oz q).map λb=>a==b
noncomputable def Wm:Vw->Int->Int->Bool
 |.l,a,b=>decide (a<b)
 |.b,a,b=>decide (a<=b)
 |.g,a,b=>decide (b<a)
 |.a,a,b=>decide (b<=a)
 |_,_,_=>Z7
noncomputable def oe(op:Vw)(p q:PV):Option Bool:=bif Nat.beq op.ctorIdx 4 then PV.beq p q else bif Nat.beq op.ctorIdx 5 then(PV.beq p q).map not else(oz p).bind λa=>(oz q).map λb=>Wm op a b
noncomputable def qk(p:PV):Option Bool:=(VA p).elim ((oz p).elim ((BQ p).map λl=>!l.isEmpty) λi=>fU<|i !=0) fU
noncomputable def td(n:Nat)(i:Int):Option Nat:=gd (decide (-aq<=i/\i<aq))<|DE i n
noncomputable def Ts(l:List PV)(q:PV):Option PV:=(oz q).bind λi=>(td l.length i).bind λk=>l[k]?
noncomputable def mU(p q:PV):Option PV:=(BQ p).elim ((Tm p).elim ((Wy p).bind λl=>(Tw q).bind λk=>(l.find? λe=>decide (e.1=k)).map λe=>.i e.2) λl=>Ts l q) λl=>Ts l q
noncomputable def AP(p:PV):Option<|Option Int:=bif Pb p then fU Z9 else(oz p).map fU
noncomputable def No{α:Type}(l:List α)(lo hi:PV):Option<|List α:=(AP lo).bind λlo=>(AP hi).map λhi=>(l.drop<|lo.elim 0<|jG l.length).take<|hi.elim l.length (jG l.length)-lo.elim 0 (jG l.length)
noncomputable def wy(p a b:PV):Option LV:=(BQ p).elim ((ML p).bind λl=>(No l a b).map λx=>.f<|.b x) λl=>(No l a b).map .o
noncomputable def Hf:List Int:=[16,17,18,0,8,7,9,6,10,5,11,4,12,3,13,2,14,1,15]
noncomputable def Uf(g:Nat):Option PV:=[PV.i 8,.i 256,.i 16,.a<|Hf.map .i][g]?
noncomputable def iZ:List PV->Option (List Int)
 |[]=>fU []
 |p::r=>(oz p).bind λi=>(iZ r).map (i::·)
noncomputable def pairsOf:List PV->Option (List<|Int×Int)
 |[]=>fU []
 |p::r=>(Tw p).bind λx=>(pairsOf r).map (x::·)
noncomputable def insI(x:Int):List Int->List Int
 |[]=>[x]
 |y::r=>if x<y then x::y::r else y::insI x r
noncomputable def qD(x y:Int×Int):Bool:=x.1<y.1||(x.1==y.1&&x.2<y.2)
noncomputable def uI(x:Int×Int):List (Int×Int)->List (Int×Int)
 |[]=>[x]
 |y::r=>if qD x y then x::y::r else y::uI x r
noncomputable def sortI(l:List Int):List Int:=l.foldl (λa x=>insI x a) []
noncomputable def mZ(l:List<|Int×Int):List<|Int×Int:=l.foldl (λa x=>uI x a) []
noncomputable def jm:List<|Int×Int:=(ay 288).map λ(i:Nat)=>((if i<144 then 8 else if i<256 then 9 else if i<280 then 7 else 8:Int),(i:Int))
noncomputable def AO:List Int->Option Int
 |[]=>Z9
 |a::r=>fU<|(AO r).elim a λm=>if m<a then a else m
noncomputable def qr:List Int->Option (List UInt8)
 |[]=>fU []
 |i::r=>gd (decide (0<=i/\i<256))<|(qr r).map (UInt8.ofNat i.toNat::·)
noncomputable def intsFrom(x c:Int):Nat->List Int
 |0=>[]
 |n+1=>x::intsFrom (x+c) c n
noncomputable def y6(a b c:Int):Option<|List Int:=
 gd (decide ((c=1\/c=2)/\(-aq<=a/\a<=aq)/\-aq<=b/\b<=aq)) (fU<|intsFrom a c (Builtin.Range.rangeSize a b c).toNat)
noncomputable def Cq(f:PV->Option LV)(l:List PV):Option LV:=(PQ l).bind f
noncomputable def Ho(i:Int):LV:=.f<|.i i
noncomputable def XC(W:Wd)(p:PV):Option LV:=(BQ p).elim ((ML p).elim ((WQ p).elim (gd (Bv p)<|W.1.bind λb=>gd (decide (b.1.length<=aq))<|fU<|Ho b.1.length)
 λl=>fU<|Ho l.length) λl=>fU<|Ho l.length) λl=>fU<|Ho l.length
noncomputable def Pf:List Int->Option (Int×Int×Int)
 |[b]=>fU (0,b,1)
 |[a,b]=>fU (a,b,1)
 |[a,b,c]=>fU (a,b,c)
 |_=>Z9
noncomputable def IZ(l:List PV):Option LV:=(iZ l).bind λis=>(Pf is).bind λx=>(y6 x.1 x.2.1 x.2.2).map λa=>.f<|.r x.1 x.2.1 x.2.2
noncomputable def listE(p:PV):Option LV:=(BQ p).map .o
noncomputable def FX(p:PV):Option LV:=(BQ p).elim ((VD p).bind λl=>gd (decide (l.length<64))<|fU<|.o<|(sortI<|l.map (·.1)).map .i)
 λl=>(pairsOf l).bind λps=>gd (decide ((ps.length<64/\ps.Nodup)\/ps=jm))<|fU<|.o<|(mZ ps).map λp=>.a [.i p.1,.i p.2]
noncomputable def RX(l:List PV)(f:Int->Int->Int):Option LV:=(VH l).bind λx=>(oz x.1).bind λa=>(oz x.2).map λb=>Ho<|f a b
noncomputable def Uo(l:List PV):Option LV:=(PQ l).elim (RX l λa b=>if a<b then b else a) λp=>(BQ p).bind λl=>(iZ l).bind λis=>(AO is).map Ho
noncomputable def Vg(l:List PV):Option LV:=RX l λa b=>if b<a then b else a
noncomputable def Vn(p:PV):Option LV:=(BQ p).bind λl=>(iZ l).map λis=>Ho is.sum
noncomputable def KX(W:Wd)(p:PV):Option LV:=(BQ p).elim (gd (Bv p)<|W.1.bind λb=>gd (decide (b.1.length<=aq))<|fU<|.f<|.b b.1)
 λl=>(iZ l).bind λis=>(qr is).map λb=>.f<|.b b
noncomputable def Jf(p:PV):Option LV:=(Tm p).elim ((oz p).map λa=>.f<|.c Z7) λa=>fU<|.f<|.c Z8
noncomputable def Uq(p:PV):Option LV:=(BQ p).bind λl=>(iZ l).bind λis=>gd (decide (is.length<=1000))<|fU<|.f<|.e<|firstMet (λi=>is.getD i 0) is.length
noncomputable def zG(W:Wd)(b:Nat)(l:List PV):Option LV:=
 [Cq (XC W) l,IZ l,Cq listE l,Cq FX l,Uo l,Vg l,Cq Vn l,Cq (KX W) l,Cq Jf l,Cq Uq l].getD b Z9
noncomputable def f8(p:PV):Option<|List PV:=(BQ p).elim ((Tm p).elim ((ML p).elim ((W3 p).bind λx=>(y6 x.1 x.2.1 x.2.2).map λl=>l.map .i)
 λl=>fU<|l.map λb=>.i b.toNat) fU) fU
noncomputable def Ax:List Nat->List PV->St->St
 |i::is,p::ps,σ=>Ax is ps<|σ.set i<|.f p
 |_,_,σ=>σ
noncomputable def qU(is:List Nat)(p:PV)(σ:St):Option St:=(PQ is).elim ((Tm p).bind λl=>gd (l.length==is.length)<|fU<|Ax is l σ) λi=>fU<|σ.set i<|.f p
noncomputable def ii:List Nat->St->St
 |[],σ=>σ
 |i::r,σ=>ii r<|σ.set i .u
noncomputable abbrev jU:=Nat->List PV->Wd->Option (LV×Wd)
noncomputable def iC(a:St->Option (Bool×St))(body:St->Option (Fl×St)):Nat->St->Option (Fl×St)
 |0,_=>Z9
 |n+1,σ=>(a σ).bind λx=>bif x.1 then(body x.2).bind λy=>bif (BR y.1).isSome then fU y else iC a body n y.2 else fU (.n,x.2)
noncomputable def oy(is:List Nat)(body:St->Option (Fl×St)):List PV->St->Option (Fl×St)
 |[],σ=>fU (.n,σ)
 |p::ps,σ=>(qU is p σ).bind λσ₁=>(body σ₁).bind λy=>bif (BR y.1).isSome then fU y else oy is body ps y.2
noncomputable def km(is:List Nat)(body:St->Option (List PV×St)):List PV->St->Option (List PV×St)
 |[],σ=>fU ([],σ)
 |p::ps,σ=>(qU is p σ).bind λσ₁=>(body σ₁).bind λx=>(km is body ps x.2).map λy=>(x.1++y.1,y.2)
noncomputable def Il(c i:Nat)(p:PV):Option PV:=(Nl p).bind λx=>gd (x.1==c) x.2[i]?
noncomputable def Qv(f:Nat)(b:BO):Option PV:=[PV.m,.i b.2,.i b.3][f]?
noncomputable def D6(f:Nat)(b:BO)(i:Int):Option BO:=bif f==1 then fU {b with held:=i} else gd (f==2)<|fU {b with count:=i}
noncomputable def yN(c:Nat)(W:Wd)(p:PV):Bool:=(Nl p).elim (FJ p&&(c==127&&W.1.isSome)) λx=>x.1==c
noncomputable def EA:List PV->Option Int
 |[]=>fU 0
 |p::r=>(VA p).bind λb=>(EA r).map (·+(bif b then 1 else 0))
noncomputable def getD(l:List<|Int×Int)(i j:Int):Int:=((l.find? λe=>decide (e.1=i)).map (·.2)).getD j
noncomputable def wg(σ:St)(b:BO):St:={σ with W:={σ.2 with bo:=fU b}}
noncomputable def qV(t:Option<|Bool×St)(x:St->Option (LV×St)):Option<|List PV×St:=t.bind λt=>bif t.1 then(fr<|x t.2).map λx=>([x.1],x.2) else fU ([],t.2)
section
variable(N:Nat)(O:jU)
mutual
noncomputable def bQ:Ex->St->Option (LV×St)
 |.i i,σ=>fU<|ww (.i i) σ
 |.h b,σ=>fU<|ww (.c b) σ
 |.none,σ=>fU<|ww .none σ
 |.v i,σ=>(Mq σ i).map λx=>ww x.1 x.2
 |.D i,σ=>WU σ i
 |.g g,σ=>(Uf g).map λp=>ww p σ
 |.b op l r,σ=>(fr<|bQ l σ).bind λx=>(fr<|bQ r x.2).bind λy=>(iJ op x.1 y.1).map λlv=>(lv,y.2)
 |.x e,σ=>(fr<|bQ e σ).bind λx=>(oz x.1).map λi=>ww (.i<|-i) x.2
 |.z op l r,σ=>(fr<|bQ l σ).bind λx=>(fr<|bQ r x.2).bind λy=>(oe op x.1 y.1).map λb=>ww (.c b) y.2
 |.y l r,σ=>(fr<|bQ l σ).bind λx=>(qk x.1).bind λb=>bif b then fU (ww x.1 x.2) else bQ r x.2
 |.p t a b,σ=>(jJ t σ).bind λx=>bif x.1 then bQ a x.2 else bQ b x.2
 |.t es,σ=>(uF es σ).bind λx=>gd (decide (x.1.length<=100))<|fU<|ww (.a x.1) x.2
 |.l es,σ=>(uF es σ).bind λx=>gd (decide (x.1.length<=100))<|fU (.o x.1,x.2)
 |.s e i,σ=>(fr<|bQ e σ).bind λx=>(fr<|bQ i x.2).bind λy=>(mU x.1 y.1).map λp=>ww p y.2
 |.k v i,σ=>gd (t9 σ v)<|(fr<|bQ i σ).bind λy=>(Aa y.2 v).bind λl=>(mU (.l l) y.1).map λp=>ww p y.2
 |.n e lo hi,σ=>(fr<|bQ e σ).bind λx=>(fr<|bQ lo x.2).bind λy=>(fr<|bQ hi y.2).bind λz=>(wy x.1 y.1 z.1).map λlv=>(lv,z.2)
 |.d e c i,σ=>(fr<|bQ e σ).bind λx=>(Il c i x.1).map λp=>ww p x.2
 |.j i,σ=>gd (tD σ)<|(Mq σ i).map λx=>ww x.1 x.2
 |.e e f,σ=>(fr<|bQ e σ).bind λx=>gd (FJ x.1)<|x.2.2.1.bind λb=>(Qv f b).map λp=>ww p x.2
 |.c f args,σ=>(uF args σ).bind λx=>(O f x.1 x.2.2).map λy=>(y.1,{x.2 with W:=y.2})
 |.f v arg,σ=>(fr<|bQ v σ).bind λx=>gd (Vb x.1)<|(fr<|bQ arg x.2).bind λy=>(O 0 [y.1] y.2.2).map λz=>(z.1,{y.2 with W:=z.2})
 |.m m c recv args,σ=>(fr<|bQ recv σ).bind λx=>(uF args x.2).bind λy=>gd (yN c x.2.2 x.1)<|(O m (x.1::y.1) y.2.2).map λz=>(z.1,{y.2 with W:=z.2})
 |.a b args,σ=>(uF args σ).bind λx=>(zG x.2.2 b x.1).map λlv=>(lv,x.2)
 |.w v,σ=>(Aa σ v).map λl=>ww (.i l.length) σ
 |.r e,σ=>(bQ e σ).bind λx=>(On x.1).bind λl=>(EA l).map λn=>ww (.i n) x.2
 |.q v k d,σ=>gd (Un σ v)<|(fr<|bQ k σ).bind λx=>(oz x.1).bind λi=>(fr<|bQ d x.2).bind λy=>(oz y.1).bind λj=>(y.2.1[v]?.bind SU).map λl=>ww (.i<|getD l i j) y.2
 |.u e k d,σ=>(fr<|bQ e σ).bind λw=>(VD w.1).bind λl=>(fr<|bQ k w.2).bind λx=>(oz x.1).bind λi=>(fr<|bQ d x.2).bind λy=>(oz y.1).map λj=>ww (.i<|getD l i j) y.2
 |.o elt is it ifs,σ=>(fr<|bQ it σ).bind λa=>(f8 a.1).bind λps=>(km is (λσ=>qV (lK Z7 ifs σ)<|bQ elt) ps<|ii is a.2).bind λx=>gd (decide (x.1.length<=aq))<|fU (.o x.1,ii is x.2)
 |.A elt is it js jt ifs,σ=>(fr<|bQ it σ).bind λa=>(f8 a.1).bind λps=>
   (km is (λσ=>(fr<|bQ jt σ).bind λb=>(f8 b.1).bind λqs=>km js (λσ=>qV (lK Z7 ifs σ)<|bQ elt) qs b.2) ps<|ii js<|ii is a.2).bind λx=>gd (decide (x.1.length<=aq))<|fU (.o x.1,ii js<|ii is x.2)
 |.C,σ=>fU (.a [],σ)
 |.B k v,σ=>fU (.b [(k,v)],σ)
noncomputable def uF:ER->St->Option (List PV×St)
 |.n,σ=>fU ([],σ)
 |.c e r,σ=>(fr<|bQ e σ).bind λx=>(uF r x.2).map λy=>(x.1::y.1,y.2)
noncomputable def jJ:Te->St->Option (Bool×St)
 |.c op l r,σ=>(fr<|bQ l σ).bind λx=>(fr<|bQ r x.2).bind λy=>(oe op x.1 y.1).map λb=>(b,y.2)
 |.i k d,σ=>(fr<|bQ k σ).bind λx=>(Tw x.1).bind λi=>(fr<|bQ d x.2).bind λy=>(Wy y.1).map λl=>((l.find? λe=>decide (e.1=i)).isSome,y.2)
 |.o ts,σ=>lK Z8 ts σ
 |.a ts,σ=>lK Z7 ts σ
 |.n t,σ=>(jJ t σ).map λx=>(!x.1,x.2)
 |.e e,σ=>(fr<|bQ e σ).bind λx=>(qk x.1).map λb=>(b,x.2)
noncomputable def lK(stop:Bool):DL->St->Option (Bool×St)
 |.n,σ=>fU (!stop,σ)
 |.c t r,σ=>(jJ t σ).bind λx=>bif x.1==stop then fU (stop,x.2) else lK stop r x.2
end
end
noncomputable def uX(l:List<|(Int×Int)×Int)(k:Int×Int)(v:Int):List<|(Int×Int)×Int:=
 if l.any (λe=>decide (e.1=k)) then l.map (λe=>if e.1=k then(e.1,v) else e) else l++[(k,v)]
noncomputable def pN(l:List<|Int×Int)(k:Int)(v:Int):List<|Int×Int:=
 if l.any (λe=>decide (e.1=k)) then l.map (λe=>if e.1=k then(e.1,v) else e) else l++[(k,v)]
noncomputable def n8(lv:LV)(k v:PV):Option LV:=
 (On lv).elim ((Ww lv).elim ((SU lv).bind λl=>(oz k).bind λa=>(oz v).bind λc=>gd (decide (l.length<aq))<|fU<|.b<|pN l a c)
  λl=>(Tw k).bind λa=>(oz v).bind λc=>gd (decide (l.length<aq))<|fU<|.a<|uX l a c)
 λl=>(oz k).bind λi=>gd (decide (0<=i))<|(td l.length i).map λn=>.o<|l.set n v
noncomputable def fzI(lv:LV):Option Int:=(Fe lv).bind oz
noncomputable def E5:Fl->Bool
 |.n=>Z8
 |_=>Z7
section
variable(N:Nat)(O:jU)
mutual
noncomputable def ph:Sx->St->Option (Fl×St)
 |.a i e,σ=>(bQ O e σ).map λx=>(.n,x.2.set i x.1)
 |.c is e,σ=>(fr<|bQ O e σ).bind λx=>(qU is x.1 x.2).map λσ=>(.n,σ)
 |.g i e,σ=>(fr<|bQ O e σ).bind λx=>gd (tD x.2)<|fU (.n,x.2.set i<|.f x.1)
 |.o is e,σ=>(fr<|bQ O e σ).bind λx=>gd (tD x.2)<|(qU is x.1 x.2).map λσ=>(.n,σ)
 |.h f e,σ=>(fr<|bQ O e σ).bind λx=>(oz x.1).bind λi=>x.2.2.1.bind λb=>gd (qG x.2)<|(D6 f b i).map λb=>(.n,wg x.2 b)
 |.s v i e,σ=>(fr<|bQ O e σ).bind λx=>gd (t9 x.2 v)<|(fr<|bQ O i x.2).bind λy=>y.2.1[v]?.bind λz=>(n8 z y.1 x.1).map λu=>(.n,y.2.set v u)
 |.j op i e,σ=>σ.1[i]?.bind λz=>(fzI z).bind λa=>(fr<|bQ O e σ).bind λx=>(oz x.1).bind λb=>gd (Nat.ble op.ctorIdx 1)<|(intOp op a b).map λc=>(.n,x.2.set i<|.f<|.i c)
 |.p i e,σ=>gd (t9 σ i)<|(fr<|bQ O e σ).bind λx=>(BQ x.1).bind λr=>(Aa x.2 i).bind λl=>gd (decide (l.length+r.length<=aq))<|fU (.n,x.2.set i<|.o<|l++r)
 |.b v i e,σ=>gd (t9 σ v)<|(fr<|bQ O i σ).bind λx=>(oz x.1).bind λk=>(Aa x.2 v).bind λl=>(mU (.l l)<|.i k).bind λp=>(oz p).bind λa=>(fr<|bQ O e x.2).bind λy=>(oz y.1).bind λb=>y.2.1[v]?.bind λz=>gd (On z).isSome<|(n8 z (.i k)<|.i<|a+b).map λu=>(.n,y.2.set v u)
 |.d v e,σ=>gd (Jn σ v)<|(fr<|bQ O e σ).bind λx=>(Aa x.2 v).bind λl=>gd (decide (l.length<aq))<|fU (.n,x.2.set v<|.o<|l++[x.1])
 |.m e,σ=>gd (qG σ&&σ.2.1.isSome)<|(fr<|bQ O e σ).bind λx=>(oz x.1).bind λi=>x.2.2.1.bind λb=>gd (decide (0<=i/\i<256/\b.1.length<aq))<|fU (.n,wg x.2 {b with made:=b.1++[UInt8.ofNat i.toNat]})
 |.k e,σ=>gd (qG σ&&σ.2.1.isSome)<|(fr<|bQ O e σ).bind λx=>(ML x.1).bind λl=>x.2.2.1.bind λb=>gd (decide (b.1.length+l.length<=aq))<|fU (.n,wg x.2 {b with made:=b.1++l})
 |.e e,σ=>(fr<|bQ O e σ).bind λx=>gd (Pb x.1)<|fU (.n,x.2)
 |.r e,σ=>(bQ O e σ).map λx=>(.r x.1,x.2)
 |.t,σ=>fU (.r<|.f .none,σ)
 |.i t a b,σ=>(jJ O t σ).bind λx=>bif x.1 then gM a x.2 else gM b x.2
 |.w t b,σ=>iC (jJ O t) (gM b) N σ
 |.f is it b,σ=>(fr<|bQ O it σ).bind λx=>(f8 x.1).bind λps=>oy is (gM b) ps x.2
 |.l is e b,σ=>(fr<|bQ O e σ).bind λx=>(BQ x.1).bind λl=>oy is (gM b) l.reverse x.2
 |.q,σ=>fU (.c,σ)
 |.n,_=>Z9
noncomputable def gM:iX->St->Option (Fl×St)
 |.n,σ=>fU (.n,σ)
 |.c s r,σ=>(ph s σ).bind λx=>bif E5 x.1 then gM r x.2 else fU x
end
noncomputable def wh:List PV->List LV
 |[]=>[]
 |p::r=>.f p::wh r
noncomputable def uM(o:Option<|Fl×St):Option<|LV×Wd:=o.bind λx=>(BR x.1).elim (gd (E5 x.1)<|fU (.f .none,x.2.2)) λlv=>fU (lv,x.2.2)
noncomputable def Vs(body:iX)(extra:Nat)(args:List PV)(W:Wd):Option<|LV×Wd:=
 uM (gM N O body ⟨wh args++ap extra .u,W⟩)
noncomputable def uV(sl:List LV):List Nat->Option (List PV)
 |[]=>fU []
 |i::r=>(sl[i]?.bind Fe).bind λp=>(uV sl r).map (p::·)
noncomputable def runC(c:Nat)(body:iX)(extra:Nat)(fs:List Nat)(args:List PV)(W:Wd):Option<|LV×Wd:=
 (gM N O body ⟨.m::(wh args++ap extra .u),W⟩).bind λx=>gd (E5 x.1)<|(uV x.2.1 fs).map λps=>(.f<|.f c ps,x.2.2)
end
section
variable{prog:qz}{w:bN}{A:bU}{E:aF->aG->Prop}{s:aG}
def mW(h:qA)(v:aF)(p:Int×Int):Prop:=∃(a:bW) (o:Hj) (t u:Tok) (n:Nat),v=.ref a/\h.get? a=fU o/\o.1=.type "tuple"/\o.3=.seq #[.int p.1 t,.int p.2 u] n
theorem F0(k:mW s.1 x p)(l:mW s.1 y q)(h:Q (qD p q) s):br (dX prog w) A (keyLt' (o0 Z8) x y) Q E s:=by
 refine ua k λa C t u n d r z m=>?_;clear k;subst d;refine ua l λb D F G B e v z o=>?_;clear l;subst e;unfold qD at h;refine kat_lt r m v o<|kat_cons<|wpAny_eqBool_int<|kat_go (λf=>?_) λf=>?_
 .have c:=beq_iff_eq.1 f;refine kat_yes (kat_cons<|wpAny_eqBool_int<|kat_go (λj=>?_) λj=>?_)
  .have g:=beq_iff_eq.1 j;refine kat_yes<|kat_nil ?_;rw[c,g] at h;have i:(decide (q.1<q.1)||q.1==q.1&&decide (q.2<q.2))=Z7:=by simp
   rw[i] at h;exact h
  .refine kat_no<|kat_one _ _<|PyProof.Rows.lt_int ?_;rw[c] at h;have i:(decide (q.1<q.1)||q.1==q.1&&decide (p.2<q.2))=decide (p.2<q.2):=by simp
   rw[i] at h;exact h
 .refine kat_no<|oneLt_int ?_;rw[f] at h;simpa using h
theorem EZ{vs:List aF}{ps:List<|Int×Int}{Q:SortKind->aG->Prop}(x:0<ps.length)(b:vs.length=ps.length)(l:∀(i:Nat) v p,vs[i]?=fU v->ps[i]?=fU p->mW s.1 v p)(h:Q (o0 Z8) s):
  br (dX prog w) A (keyKind' vs.toArray) Q E s:=by
 have key:∀(vs:List aF) (ps:List<|Int×Int),vs.length=ps.length->(∀(i:Nat) v p,vs[i]?=fU v->ps[i]?=fU p->mW s.1 v p)->∃fs,KatTups s.1 vs fs/\fs.length=ps.length/\∀f∈fs,∃i t,f=Value.int i t:=by
  intro vs
  induction vs with
  |nil=>intro ps b _;cases ps with
   |nil=>exact⟨[],KatTups.nil,rfl,λf e=>nomatch e⟩
   |cons=>injection b
  |cons v vs C=>
   intro ps b l;cases ps with
   |nil=>injection b
   |cons p ps=>
    refine ia (C ps (by simpa using b) λi v p y z=>l (i+1) v p (by simpa using y)<|by simpa using z) λfs m q r=>ua (l 0 v p rfl rfl) λa o t u n j g c d=>?_;subst j;exact⟨.int p.1 t::fs,KatTups.cons g c d (by simp) m,by simp[q],λf e=>by
     rcases ax.1 e with rfl|e
     .exact(ff _ _ rfl)
     .exact r f e⟩
 refine ia (key vs ps b l) λfs m q r=>kat_kind (T:=.type "int") m (ao x<|eg q) (λv B=>?_) (by decide) h;refine pK (r v B) λi t k=>?_;subst k;exact .now
theorem zi{R:List aF->Prop}{a:bW}(ho:s.1.get? a=fU (gL "list" vs.toArray n))(l:vs.length<=eV)(v:vs.length<2->R vs)
  (z:∀h',(∀b o,b≠a->s.1.get? b=fU o->h'.get? b=fU o)->2<=vs.length->br (dX prog w) A (keyKind' vs.toArray) (λκ s'=>s'={s with heap:=h'}/\
   BV (dX prog w) A E {s with heap:=h'} sortRuns' (λf d=>failedOf d=Z9/\(arrOf d).size=vs.length/\R ((arrOf d).map (·.2)).1) (SortSt.mk' κ (vs.toArray.zip vs.toArray) #[] 7 Z9)) E {s with heap:=h'})
  (h:∀out:List aF,R out->P (.done<|.ret .none) {s with heap:=u9 s.1 a vs out.toArray}):
  br (dX prog w) A (Builtin.«list.sort» ⟨[.ref a],[]⟩) P E s:=by
 rw[list_sort_plain];have F:a<s.1.1.size:=dY ho;refine aH<|listItems_at ho rfl ?_;refine aH (MG ho rfl ?_ (by refine Rr bF ?_;exact l) (bS _));obtain⟨m,j⟩:∃m,(s.1.update a<|Obj.mapSeq λf=>#[]).get? a=fU (gL "list" #[] m):=⟨_,ke ho λf=>#[]⟩;refine aH<|seqEpoch_at j rfl ?_;refine aH<|wpAny_newTuple ?_<|l;refine aH<|yW ?_<|bS _;refine jx ?_;have p:∀b o,b≠a->s.1.get? b=fU o->(((s.1.update a<|Obj.mapSeq λf=>#[]).push<|gL "tuple" vs.toArray 0).push<|gL "list" #[] 0).get? b=fU o:=λb o x e=>aZ _<|aZ _<|by refine Rr (gY _ _ _ _ x) ?_;exact e
 have c:(((s.1.update a<|Obj.mapSeq λf=>#[]).push<|gL "tuple" vs.toArray 0).push<|gL "list" #[] 0).get? a=fU (gL "list" #[] m):=
  aZ _ (aZ _ j)
 show br (dX prog w) A _ P E {s with heap:=((s.1.update a<|Obj.mapSeq λf=>#[]).push<|gL "tuple" vs.toArray 0).push<|gL "list" #[] 0};dsimp only;have g:vs.toArray.size=vs.length:=by simp
 by_cases i:vs.toArray.size<2
 .refine Rr (bf i)<|Rr (bf i) ?_;refine aH<|bB ?_;rw[StateT.run_pure];refine aH<|bB ?_;dsimp only;have t:(vs.toArray.zip vs.toArray).map (·.2)=vs.toArray:=by
   apply ic.1;simp only [List.zip_toArray,List.map_toArray];exact List.map_snd_zip<|ba _
  refine aH<|seqEpoch_at c rfl ?_;refine aH (MG c rfl ?_ (bS _) (by refine Rr t<|Rr g ?_;exact jE l));simp only [bne_self_eq_false,cq,if_false];refine bB<|Rr t<|h vs<|v<|c9 (.s .A) (.n 2) (.o .A .B<|.z (.s .B)<|.n 2) rfl (eg g) i
 .refine Rr (aK i)<|Rr (aK i) ?_;refine aH (cW (z _ p<|by exact ao (aJ i)<|el g) (λκ D q=>?_) λf f e=>e);obtain⟨rfl,q⟩:=q;refine aH<|cW q (λr D u=>?_) λf f e=>e;obtain⟨⟨⟩,d⟩:=r;refine Gh u λk y C B=>?_;clear u;subst k;dsimp only;refine aH<|seqEpoch_at c rfl ?_;refine aH (MG c rfl ?_ (bS _) (by refine Rr Array.size_map<|Rr C ?_;exact jE l));refine Rr y ?_;simp only [bne_self_eq_false,cq,if_false];have:=h _ B;rw[Array.toArray_toList] at this;exact bB this
theorem E3{R:List aF->Prop}{l:bW}{vs:List aF}{Q:aF->aG->Prop}(y:s.1.IsList l vs.toArray)(i:vs.length<=eV)(t:vs.length<2->R vs)
  (x:∀s',(∀b o,s.1.get? b=fU o->s'.1.get? b=fU o)->2<=vs.length->∀E,br (dX prog w) A.in1.in1 (keyKind' vs.toArray) (λκ j=>j=s'/\
   BV (dX prog w) A.in1.in1 E s' sortRuns' (λr f=>failedOf f=Z9/\(arrOf f).size=vs.length/\R ((arrOf f).map (·.2)).1) (SortSt.mk' κ (vs.toArray.zip vs.toArray) #[] 7 Z9)) E s')
  (h:∀(out:List aF) h',R out->(∀b o,s.1.get? b=fU o->h'.get? b=fU o)->(∃n,h'.get? (s.1.1.size+1)=fU (gL "list" out.toArray n))->Q (.ref<|s.1.1.size+1) {s with heap:=h'}):
  br (dX prog w) A (call (.builtin "sorted") [.ref l]) Q E s:=by
 refine Calls.call_function_entry kind_sorted plain_sorted entry_sorted (args_sorted1 _) ?_;unfold Builtin.«sorted»;refine aH (m:=checkCount "sorted" 1 1 _)<|bB ?_;refine aH<|collect_list y ?_ i;refine aH<|yW ?_ i;have d:((s.1.push<|gL "list" #[] 0).update s.1.1.size<|Obj.mapSeq (·++vs.toArray)).1.size=s.1.1.size+1:=by rw[Heap.size_update,size_push']
 have c:(((s.1.push<|gL "list" #[] 0).update s.1.1.size<|Obj.mapSeq (·++vs.toArray)).push<|gL "list" vs.toArray 0).get? (s.1.1.size+1)=fU (gL "list" vs.toArray 0):=by refine Rl d ?_;exact fD _ rfl
 have keep:∀b o,s.1.get? b=fU o->(((s.1.push<|gL "list" #[] 0).update s.1.1.size<|Obj.mapSeq (·++vs.toArray)).push<|gL "list" vs.toArray 0).get? b=fU o:=λb o q=>by
  have a:b<s.1.1.size:=dY q;refine Rr (Heap.get?_push_ne _ _ _<|by rw[d];exact gj<|lC a)<|Rr (gY _ _ _ _<|gj a)<|Rr (Heap.get?_push_ne _ _ _<|gj a) ?_;exact q
 refine Rr d<|aH (jx<|uh slot_list_sort ⟨_,c,rfl⟩ entry_list_sort ?body<|args_list_sort _)
 case body=>
  refine zi (R:=R) (s:={s with heap:=((s.1.push<|gL "list" #[] 0).update s.1.1.size<|Obj.mapSeq (·++vs.toArray)).push<|gL "list" vs.toArray 0}) c i t (λh' v u=>x {s with heap:=h'} (λb o e=>v b o (gj<|lC<|dY e)<|keep b o e) u _) λout z=>⟨_,rfl,bB ⟨_,rfl,?_⟩⟩;refine h out _ z (λb o e=>?_) ?_
  .unfold u9;have p:b≠s.1.1.size+1:=gj<|lC<|dY e;refine Rr (gY _ _ _ _ p) ?_;refine aZ _<|aZ _ ?_;refine Rr (gY _ _ _ _ p) ?_;exact keep b o e
  .unfold u9;obtain⟨k,g⟩:∃k,((((s.1.push<|gL "list" #[] 0).update s.1.1.size<|Obj.mapSeq (·++vs.toArray)).push<|gL "list" vs.toArray 0).update (s.1.1.size+1)<|Obj.mapSeq λr=>#[]).get? (s.1.1.size+1)=fU (gL "list" #[] k):=⟨_,ke c λr=>#[]⟩;exact⟨_,ke (aZ _<|aZ _ g) _⟩
end
noncomputable def wY:Bool->pY->Array pY->Nat->Nat->Nat->StateT g8 DB (Option Nat):=sortPriv%PySem.Builtin.gallop
noncomputable def C7:Array pY->Array pY->StateT g8 DB (Array pY):=sortPriv%PySem.Builtin.mergeHi
section
variable{prog:qz}{w:bN}{A:bU}{E:aF->aG->Prop}{s:aG}{f:Nat->pY}{g:Nat->Int×Int}{N:Nat}
theorem Fg(H:∀i,i<N->mW s.1 (f i).1 (g i)){i j:Nat}(hi:i<N)(a:j<N){st:g8}(b:kindOf st=o0 Z8){Q:Option Bool->g8->Prop}(h:Q (fU<|qD (g i)<|g j) st):
  BV (dX prog w) A E s (lt' (f i)<|f j) Q st:=by
 rw[lt'_eq];refine bz<|qB ?_;refine Rr b<|bz<|wpS_lift<|wpAny_attempt<|F0 (H i hi) (H j a) ⟨rfl,?_⟩;exact dF h
theorem nV{p:Array Nat}(a:p[k]?=fU i){st:g8}{Q:pY->g8->Prop}(h:Q (f i) st):BV (dX prog w) A E s (elem' (p.map f) k) Q st:=by
 rw[elem'_eq];have:(p.map f)[k]?=fU (f i):=by simp-iota [a]
 refine Rr this<|dF h
theorem p5(H:∀i,i<N->mW s.1 (f i).1 (g i)){left:Bool}{key:Nat}{p:Array Nat}{base n hint k:Nat}(t:key<N)(T:hint<n)(V:k<=n)
  (hp:∀i,i<n->∃x,p[base+i]?=fU x/\x<N/\(if left then qD (g x) (g key) else !(qD (g key)<|g x))=decide (i<k))
  {st:g8}(hk:kindOf st=o0 Z8){Q:Option Nat->g8->Prop}(h:Q (fU k) st):BV (dX prog w) A E s (wY left (f key) (p.map f) base n hint) Q st:=by
 have q:∀{Q':Option Bool->g8->Prop} (i:Nat),i<n->Q' (fU<|decide (i<k)) st->
   BV (dX prog w) A E s (elem' (p.map f) (base+i)>>=λx=>if left=Z8 then lt' x (f key) else lt' (f key) x>>=λb=>pure<|Option.map (λx=>!x) b) Q' st:=by
  intro Q' i hi hq;refine ia (hp i hi) λx hx W hd=>bz<|nV hx ?_;cases left with
  |true=>exact Fg H W t hk<|by refine Rr (show qD (g x) (g key)=decide (i<k) from hd) ?_;exact hq
  |false=>refine bz<|Fg H t W hk<|dF ?_;refine Rr (show(Option.map (λx=>!x)<|fU<|qD (g key)<|g x)=fU (decide (i<k)) from bx fU hd) ?_;exact hq
 have fin:∀lo hi,lo<=k->k<=hi->hi<=n->∀(body:Nat->Option (Option Nat)×Nat×Nat->StateT g8 DB (ForInStep<|Option (Option Nat)×Nat×Nat)),
   (∀x lo hi,body x (Z9,lo,hi)=if lo≥hi then pure (ForInStep.done (Z9,lo,hi)) else
     (elem' (p.map f) (base+(lo+(hi-lo)/2))>>=λx=>if left=Z8 then lt' x (f key) else lt' (f key) x>>=λb=>pure<|Option.map (λx=>!x) b)>>=λr=>match r with
      |some more=>if more=Z8 then pure (ForInStep.yield (Z9,lo+(hi-lo)/2+1,hi)) else pure<|ForInStep.yield (Z9,lo,lo+(hi-lo)/2)
      |_=>pure<|ForInStep.done (fU Z9,lo,hi))->
   BV (dX prog w) A E s (forIn [0:n] ((Z9,lo,hi):Option (Option Nat)×Nat×Nat) body) (λc e=>e=st/\c=(Z9,k,k)) st:=by
  intro lo hi h1 h2 h3 body hb;refine qC (λi c e=>e=st/\∃lo hi,c=(Z9,lo,hi)/\lo<=k/\k<=hi/\hi<=n/\hi-lo+i<=n) (λi c e uu u m=>?_) (λc e m=>?_) ⟨rfl,ff lo hi ⟨rfl,h1,h2,h3,by exact dT (.p .A 0) .B (.o .C .B<|.z .A .C) rfl h3 (bk _ _)⟩⟩
  .refine zY m λv lo hi y j l Y U=>?_;clear m;subst v;subst y;rw[hb];split
   .rename_i c;exact dF ⟨rfl,by exact Rr (aj j<|ao l c)<|Rr (aj (ao c j) l) rfl⟩
   .rename_i c;refine bz (q _ (bG (Nat.add_lt_of_lt_sub'<|Nat.div_lt_self (oS<|b8 c)<|by decide) Y) ?_);by_cases o:lo+(hi-lo)/2<k
    .refine Rr (bT o) ?_;exact dF ⟨rfl,ff _ _ ⟨rfl,by exact o,l,Y,by exact WP (.a .A<|.s .B) .C (.o (.a .D .B) .C<|.o .E (.a .D .F)<|.z (.a .A<|.s<|.a .F<|.v 6) .E) rfl U (ck _ _) (el<|ac<|ao o l)⟩⟩
    .refine Rr (Wq o) ?_;exact dF ⟨rfl,ff _ _ ⟨rfl,j,by exact(aJ o),by exact Sd 2 (.a .A .B) .C (.c 2 .D .C<|.o (.m 2 .B) .E<|.c 2 (.a .E .A) .D .e) rfl Y (aQ _ _) (el<|ac<|ao j l),by exact Xb 2 (.a .A<|.s .B) .C (.o (.s .B) .C<|.o (.a .D .B) .C<|.o (.m 2 .E) .D<|.c 2 (.a .A .F) (.a .F .E) .e) rfl u U (aQ _ _) (el<|ac<|c9 .A (.a .A .B) .e rfl)⟩⟩
  .refine zY m λz lo hi B j l Y U=>?_;clear m;subst z;subst B;exact⟨rfl,by exact Rr (show lo=k by exact aj (j)<|vd .A .B (.o .A .C<|.o (.a .D .E) .F<|.o .C (.a .D .B)<|.z .F .E) rfl l U (ck _ _) (jb _ _))<|Rr (show hi=k by exact aj (vd .A .B (.o .C .B<|.o (.a .D .E) .F<|.o .A (.a .D .C)<|.z .F .E) rfl j U (ck _ _) (jb _ _))<|l) rfl⟩
 delta wY;refine bz<|q hint T ?_;dsimp only;by_cases Z:hint<k
 .refine Rr (bT Z)<|Rr (bf rfl) ?_;refine bz (wF (Q:=λc e=>e=st/\∃a d,c=(Z9,a,d)/\hint+a<k/\k<=hint+min d (n-hint)) ?_ λc e hc=>?_)
  .refine qC (λi c e=>e=st/\∃a d,c=(Z9,a,d)/\hint+a<k/\i<d) (λi c e uu u m=>?_) (λc e m=>?_) ⟨rfl,ff 0 1 ⟨rfl,by exact c9 (.s<|.p .A 0) .B (.z (.s .A) .B) rfl Z,by exact Wz (.s<|.n 0) .i .e rfl⟩⟩
   .refine dI m λC a d D j l=>?_;clear m;subst C;subst D;dsimp only;split
    .rename_i c;exact dF ⟨rfl,ff _ _ ⟨rfl,j,by rw[ie c,bv<|be T];exact V⟩⟩
    .refine bz (q (hint+d) (by rename_i c;exact Nat.add_lt_of_lt_sub'<|b8 c) ?_);by_cases o:hint+d<k
     .refine Rr (bT o) ?_;exact dF ⟨rfl,ff _ _ ⟨rfl,o,by exact c9 (.s<|.s .A) (.s<|.m 2 .B) (.z (.s .A) .B) rfl l⟩⟩
     .refine Rr (Wq o) ?_;rename_i c;exact dF ⟨rfl,ff _ _ ⟨rfl,j,by rw[cu<|be<|b8 c];exact aJ o⟩⟩
   .refine dI m λF a d G j l=>?_;clear m;subst F;subst G;exact⟨rfl,ff _ _ ⟨rfl,j,by exact pI .A (.a .B .C) (.o .A .D<|.o .D (.a .E .B)<|.z .E .C) rfl V (ck _ _) (eg<|ie<|gy .A .B (.o (.s .C) .B<|.o .D .C<|.z .A .D) rfl l (jb _ _) (bk _ _))⟩⟩
  .refine dI hc λI a d J j l=>?_;clear hc;subst I;subst J;dsimp only;refine bz (wF (fin _ _ (by exact j) l (by exact gy (.a .A .B) .C (.o .B .D<|.z (.a .D .A) .C) rfl (gC _ _) (el<|ac<|be T)) _ λx lo hi=>rfl) λc e hc=>?_);obtain⟨rfl,rfl⟩:=hc;exact dF h
 .refine Rr (Wq Z) ?_;simp-iota only [cq,if_false];refine bz (wF (Q:=λc e=>e=st/\∃a d,c=(Z9,a,d)/\k<=hint-a/\hint+1-min d (hint+1)<=k) ?_ λc e hc=>?_)
  .refine qC (λi c e=>e=st/\∃a d,c=(Z9,a,d)/\k<=hint-a/\i<d) (λi c e uu u m=>?_) (λc e m=>?_) ⟨rfl,ff 0 1 ⟨rfl,by exact dT .A .B (.o .A .C<|.z .C<|.p .B 0) rfl (aJ Z) (ck _ _),by exact Wz (.s<|.n 0) .i .e rfl⟩⟩
   .refine dI m λL a d M j l=>?_;clear m;subst L;subst M;dsimp only;split
    .rename_i c;exact dF ⟨rfl,ff _ _ ⟨rfl,j,by rw[ie c,fA];exact bS _⟩⟩
    .refine bz (q (hint-d) (by exact dT (.s .A) .B (.o (.s .C) .B<|.z .A .C) rfl T (bk _ _)) ?_);by_cases o:hint-d<k
     .refine Rr (bT o) ?_;rename_i c;exact dF ⟨rfl,ff _ _ ⟨rfl,j,by rw[cu<|be<|b8 c,Nat.sub_add_comm<|c7<|b8 c];exact o⟩⟩
     .refine Rr (Wq o) ?_;exact dF ⟨rfl,ff _ _ ⟨rfl,by exact(aJ o),by exact c9 (.s<|.s .A) (.s<|.m 2 .B) (.z (.s .A) .B) rfl l⟩⟩
   .refine dI m λO a d P j l=>?_;clear m;subst O;subst P;exact⟨rfl,ff _ _ ⟨rfl,j,by exact gy .A .B (.o (.a .A .C) (.s .D)<|.z (.s .D) .C) rfl (el<|ac<|(gC _ _)) (eg<|ie<|gy (.s .A) .B (.o (.s .A) .C<|.o (.s .D) .B<|.z .C .D) rfl T l (jb _ _))⟩⟩
  .refine dI hc λR a d S j l=>?_;clear hc;subst R;subst S;dsimp only;refine bz (wF (fin _ _ l j (by exact dT .A .B (.o (.s .C) .B<|.z .A .C) rfl T (bk _ _)) _ λx lo hi=>rfl) λc e hc=>?_);obtain⟨rfl,rfl⟩:=hc;exact dF h
end
noncomputable def up(a n:Nat):Array Nat:=(cA a n).toArray
noncomputable def N4:Nat->StateT g8 DB Unit:=sortPriv%PySem.Builtin.setMinGallop
section
variable{M:Model}{A:bU}{E:aF->aG->Prop}{s:aG}{σ:Type}
theorem nU[Decidable c]{a b:StateT σ DB α}{Q:α->σ->Prop}{st:σ}(hc:c)(h:BV M A E s a Q st):BV M A E s (if c then a else b) Q st:=by refine Rr (bf hc) ?_;exact h
theorem ki[Decidable c]{a b:StateT σ DB α}{Q:α->σ->Prop}{st:σ}(hc:¬c)(h:BV M A E s b Q st):BV M A E s (if c then a else b) Q st:=by refine Rr (aK hc) ?_;exact h
theorem lr{f:Nat->β->StateT σ DB (ForInStep β)}{Q:β->σ->Prop}{st:σ}(i:a<b)
  (h:BV M A E s (f a c) (λr d=>match r with|.done g=>Q g d|.yield g=>BV M A E s (forIn [a+1:b] g f) Q d) st):BV M A E s (forIn [a:b] c f) Q st:=by
 have e:∀(x:Nat) (c:β),(forIn ([x:b]:Std.Legacy.Range) c f:StateT σ DB β)=forIn (cA x<|b-x) c f:=λx c=>by
  rw[Std.Legacy.Range.forIn_eq_forIn_range'];have j:([x:b]:Std.Legacy.Range).size=b-x:=by simp[Std.Legacy.Range.size]
  exact Rr j rfl
 rw[e];have:b-a=(b-(a+1))+1:=aj (gy .A (.s .B) (.o .C (.a .B<|.s .D)<|.z (.a .A .D) .C) rfl (ck _ _) (el<|ac<|be i))<|gy (.s .A) .B (.o .C (.a .B .D)<|.z (.a .A<|.s .D) .C) rfl (ck _ _) (el<|ac<|i);refine Rr this<|Rr List.range'_succ ?_;rw[kF];refine bz<|wF h λr d h'=>?_;cases r with
 |done g=>exact dF h'
 |yield g=>have k:BV M A E s (forIn [a+1:b] g f) Q d:=h';rw[e] at k;exact k
theorem Fz{m g:Nat}{b:Option aF}{Q:Unit->g8->Prop}(h:Q ()<|SortSt.mk' k a p g b):BV M A E s (N4 g) Q<|SortSt.mk' k a p m b:=zw h
end
section
variable{prog:qz}{w:bN}{A:bU}{E:aF->aG->Prop}{s:aG}{f:Nat->pY}
noncomputable def vJ(i:Nat):Int×Int:=jm.getD i (0,0)
noncomputable abbrev KT:SortKind:=o0 Z8
theorem G7(H:∀i,i<288->mW s.1 (f i).1 (vJ i)){b:Bool}(hi:i<288)(a:j<288)(e:qD (vJ i) (vJ j)=b){st:g8}(c:kindOf st=KT){Q:Option Bool->g8->Prop}(h:Q (fU b) st):
  BV (dX prog w) A E s (lt' (f i)<|f j) Q st:=Fg H hi a c<|e▸h
theorem to{a n i:Nat}(h:i<n):(up a n)[i]?=fU (a+i):=by unfold up;simp[List.getElem?_range',h]
theorem MD{a n:Nat}:((up a n).map f).size=n:=by unfold up;simp
theorem AI{a n k:Nat}(h:k<=n):(cA a n).take k=cA a k:=by obtain⟨m,rfl⟩:∃m,n=k+m:=⟨n-k,by exact aj (dT .A (.a .B .C) (.z .A<|.a .C .B) rfl (ck _ _))<|dT (.a .A .B) .C (.z (.a .B .A) .C) rfl (el<|ac<|h)⟩;exact Rl List.range'_append_1<|Rr (List.take_left'<|by simp) rfl
noncomputable def OL(f:Nat->pY)(L:List Nat):Array pY:=(L.map f).toArray.reverse
theorem AV{x:Nat}:(OL f L).push (f x)=OL f (x::L):=by apply ic.1;simp[OL]
theorem Fc{a n i j:Nat}(h:j<=n):OL f L++(((up a n).map f).extract i j).reverse=OL f (cA (a+i) (j-i)++L):=by apply ic.1;simp only [OL,up,Array.toList_append,Array.toList_reverse,mI,lZ,aC,j9,j3,<-ku,<-f9];refine Rr pO<|Rr (AI<|mJ h _) ?_;rw[jP]
theorem Sn{a n i j:Nat}(h:j<=n){e:Array pY}(b:e=#[]):e++((up a n).map f).extract i j++(OL f L).reverse=((cA (a+i) (j-i)++L).map f).toArray:=by subst b;apply ic.1;simp only [OL,up,Array.toList_append,Array.toList_reverse,mI,lZ,aC,List.reverse_reverse,j3,<-ku,<-f9];refine Rr pO<|Rr (AI<|mJ h _) ?_;rw[jP];simp
noncomputable def n5:List Nat:=cA 256 24++(cA 0 143++(143::(cA 280 7++(287::(cA 144 104++cA 248 8)))))
theorem RM(H:∀i,i<288->mW s.1 (f i).1 (vJ i)){p:Array pY}{t:Array<|Nat×Nat×Nat}{Q:Array pY->g8->Prop}(h:∀m,Q ((n5.map f).toArray)<|SortSt.mk' KT p t m Z9):
  BV (dX prog w) A E s (C7 ((up 0 256).map f)<|(up 256 32).map f) Q (SortSt.mk' KT p t 7 Z9):=by
 unfold C7;refine bz<|wpS_lift<|mP ⟨rfl,?_⟩;generalize y:(up 0 256).map f=a;generalize z:(up 256 32).map f=b;have B:a.size=256:=by refine Rl y ?_;exact MD
 have C:b.size=32:=by refine Rl z ?_;exact MD
 have r:∀{i:Nat} {st:g8} {Q:pY->g8->Prop},i<256->Q (f i) st->BV (dX prog w) A E s (elem' a i) Q st:=λ{i st Q} hi h=>by refine Rl y ?_;exact nV (i:=i) (by refine Rr (to hi) ?_;rw[bA]) h
 have u:∀{i:Nat} {st:g8} {Q:pY->g8->Prop},i<32->Q (f<|256+i) st->BV (dX prog w) A E s (elem' b i) Q st:=λ{i st Q} hi h=>by refine Rl z ?_;exact nV (i:=256+i) (to hi) h
 have D:∀{key n k hint:Nat} {st:g8} {Q:Option Nat->g8->Prop},key<288->hint<n->k<=n->n<=256->(∀i,i<n->(!(qD (vJ key)<|vJ i))=decide (i<k))->kindOf st=KT->Q (fU k) st->BV (dX prog w) A E s (wY Z7 (f key) a 0 n hint) Q st:=
  λ{key n k hint st Q} h1 h2 h3 h4 h5 j h7=>by refine Rl y ?_;exact p5 (left:=Z7) H h1 h2 h3 (λi hi=>⟨i,by rewrite[bA];refine Rr (to<|by exact ao hi h4) ?_;rw[bA],by exact c9 (.s .A) (.n 288) (.o .B (.n 256)<|.z (.s .A) .B) rfl h4 hi,by simpa using h5 i hi⟩) j h7
 have G:∀{key n k hint:Nat} {st:g8} {Q:Option Nat->g8->Prop},key<288->hint<n->k<=n->n<=32->(∀i,i<n->qD (vJ<|256+i) (vJ key)=decide (i<k))->kindOf st=KT->Q (fU k) st->BV (dX prog w) A E s (wY Z8 (f key) b 0 n hint) Q st:=
  λ{key n k hint st Q} h1 h2 h3 h4 h5 j h7=>by refine Rl z ?_;exact p5 (left:=Z8) H h1 h2 h3 (λi hi=>⟨256+i,by rewrite[bA];exact Rr (to<|by exact ao hi h4) rfl,by exact c9 (.s<|.a (.n 256) .A) (.n 288) (.o .B (.n 32)<|.z (.s .A) .B) rfl h4 hi,by simpa using h5 i hi⟩) j h7
 refine Rr B<|Rr C ?_;refine bz (r (i:=255) (by exact Wz (.s<|.n 255) (.n 256) .e rfl) ?_);refine ki (by decide) (ki (by decide)<|bz<|qB ?_);refine bz (lr (by exact Wz (.s<|.n 0) (.p (.n 256) 32) .e rfl) ?_);refine bz<|wF (Q:=λc d=>d=SortSt.mk' KT p t 7 Z9/\c=(Z9,248,32,OL f<|cA 248 8,7,0)) ?_ λc d hc=>?_
 .refine qC (λi c d=>i<7/\d=SortSt.mk' KT p t 7 Z9/\c=(Z9,255-i,32,OL f<|cA (255-i)<|i+1,i,0)) (λi c d I I v=>?_) (λc d v=>bq v.1<|by decide) ⟨by exact Wz (.s<|.n 0) (.n 7) .e rfl,rfl,rfl⟩;refine hV v λhi l o=>?_;clear v;subst l;subst o;refine bz (u (i:=31) (by exact Wz (.s<|.n 31) (.n 32) .e rfl) ?_);refine bz (r (i:=255-i-1) (by exact c9 (.s .A) (.n 256) (.o .A .B<|.z .B<|.n 255) rfl (bk _ _) (bk _ _)) ?_);refine bz (G7 H (b:=Z8) (by exact Wz (.s<|.p (.n 256) 31) (.n 288) .e rfl) (by exact c9 (.s .A) (.n 288) (.o .A .B<|.z .B<|.n 255) rfl (bk _ _) (bk _ _)) ?_ rfl ?_)
  .have:∀i,i<7->qD (vJ<|256+31) (vJ<|255-i-1)=Z8:=by decide+kernel
   exact this i hi
  refine nU rfl (bz<|r (i:=255-i-1) (by exact c9 (.s .A) (.n 256) (.o .A .B<|.z .B<|.n 255) rfl (bk _ _) (bk _ _)) ?_);refine ki (by simp;exact λg=>MP (.o .A (.n 0)<|.o (.s .B) (.n 7)<|.o .C (.s .A)<|.z (.n 255)<|.a .C .B) rfl (el g) hi (ck _ _) (ck _ _)) ?_;have F:(OL f<|cA (255-i)<|i+1).push (f<|255-i-1)=OL f (cA (255-(i+1))<|i+1+1):=by exact Rr AV<|Rr (List.range'_succ (s:=255-(i+1)) (n:=i+1))<|Rr (show 255-(i+1)+1=255-i by exact aj (dT (.s .A) .B (.o (.n 255) (.a .B .C)<|.z (.a .A<|.s .C)<|.n 255) rfl (ck _ _) (el<|ac<|dL (.s .A) (.n 255) (.z (.s .A)<|.n 7) rfl hi))<|dT .A (.s .B) (.o (.n 255) (.a .B<|.s .C)<|.z (.a .A .C)<|.n 255) rfl (ck _ _) (el<|ac<|dL .A (.n 255) (.z (.s .A)<|.n 7) rfl hi))<|Rr (show 255-i-1=255-(i+1) by exact aj (gy .A .B (.o (.n 255) (.a .B<|.s .C)<|.o (.s .A) .D<|.z (.a .D .C)<|.n 255) rfl (ck _ _) (el<|ac<|c9 .i .A (.o (.s .B) (.n 7)<|.z (.n 255)<|.a .A .B) rfl hi (ck _ _)) (el<|ac<|dL .A (.n 255) (.z (.s .A)<|.n 7) rfl hi))<|gy .A .B (.o .C (.s .B)<|.o (.n 255) (.a .C .D)<|.z (.a .A<|.s .D)<|.n 255) rfl (ck _ _) (ck _ _) (el<|ac<|dL (.s .A) (.n 255) (.z (.s .A)<|.n 7) rfl hi)) rfl
  by_cases j:i=6
  .subst j;refine nU (by exact Wz (.n 7) (.s<|.n 6) .e rfl)<|dF ⟨rfl,?_⟩;exact bx (λx=>(Z9,248,32,x,7,0)) F
  .refine ki (by show ¬(i+1≥7);exact λg=>((cp j)).elim (λq=>lo1 (.o (.s .A) (.n 6)<|.z (.n 7)<|.s .A) rfl q g) λq=>lo1 (.o (.s<|.n 6) .A<|.z (.s .A)<|.n 7) rfl q hi) (dF ⟨by exact((cp j)).elim (λg=>dL (.s<|.s .A) (.n 7) (.z (.s .A)<|.n 6) rfl g) λg=>lq1 0 (.s<|.s .A) (.n 7) (.o (.s<|.n 6) .A<|.z (.s .A)<|.n 7) rfl g hi,rfl,?_⟩);have q:255-i-1=255-(i+1):=by exact aj (gy .A .B (.o (.n 255) (.a .B<|.s .C)<|.o (.s .A) .D<|.z (.a .D .C)<|.n 255) rfl (ck _ _) (el<|ac<|c9 .i .A (.o (.s .B) (.n 7)<|.z (.n 255)<|.a .A .B) rfl hi (ck _ _)) (el<|ac<|dL .A (.n 255) (.z (.s .A)<|.n 7) rfl hi))<|gy .A .B (.o .C (.s .B)<|.o (.n 255) (.a .C .D)<|.z (.a .A<|.s .D)<|.n 255) rfl (ck _ _) (ck _ _) (el<|ac<|dL (.s .A) (.n 255) (.z (.s .A)<|.n 7) rfl hi)
   show(Z9,255-i-1,32,_,i+1,0)=_;exact Rr F<|Rr q rfl
 obtain⟨rfl,rfl⟩:=hc;refine bz<|wpS_lift<|mP ⟨rfl,?_⟩;refine bz (lr (by exact Wz (.s<|.n 0) (.p (.n 256) 32) .e rfl) ?_);refine nU (by show(8:Nat)>1;decide) (bz<|Fz<|bz<|u (i:=31) (by exact Wz (.s<|.n 31) (.n 32) .e rfl) ?_);refine bz (D (key:=256+31) (n:=248) (hint:=248-1) (k:=144) (by exact Wz (.s<|.p (.n 256) 31) (.n 288) .e rfl) (by exact(el<|ac<|Wz .i (.n 248) .e rfl)) (by exact Wz (.n 144) (.n 248) .e rfl) (by exact Wz (.n 248) (.n 256) .e rfl) (by decide+kernel) rfl ?_);refine nU (by show 248-144>0;decide) (ki (by show ¬((144==0)=Z8);decide)<|bz<|u (i:=31) (by exact Wz (.s<|.n 31) (.n 32) .e rfl) ?_);refine ki (by show ¬((32-1==1)=Z8);decide) (bz<|r (i:=143) (by exact Wz (.s<|.n 143) (.n 256) .e rfl) ?_);refine bz (G (key:=143) (n:=31) (hint:=31-1) (k:=24) (by exact Wz (.s<|.n 143) (.n 288) .e rfl) (by exact(el<|ac<|Wz .i (.n 31) .e rfl)) (by exact Wz (.n 24) (.n 31) .e rfl) (by exact Wz (.n 31) (.n 32) .e rfl) (by decide+kernel) rfl ?_);refine nU (by show 31-24>0;decide) (ki (by decide)<|ki (by decide)<|bz<|r (i:=143) (by exact Wz (.s<|.n 143) (.n 256) .e rfl) ?_);refine ki (by show ¬((144-1==0)=Z8);decide) (ki (by show ¬((decide (248-144<7)&&decide (31-24<7))=Z8);simp)<|dF ?_);refine lr (by exact Wz (.s<|.s<|.n 0) (.p (.n 256) 32) .e rfl)<|nU (by show(7:Nat)>1;decide) (bz<|Fz<|bz<|u (i:=23) (by exact Wz (.s<|.n 23) (.n 32) .e rfl) ?_);refine bz (D (key:=256+23) (n:=143) (hint:=143-1) (k:=0) (by exact Wz (.s<|.p (.n 256) 23) (.n 288) .e rfl) (by exact(el<|ac<|Wz .i (.n 143) .e rfl)) (by exact Wz (.n 0) (.n 143) .e rfl) (by exact Wz (.n 143) (.n 256) .e rfl) (by decide+kernel) rfl ?_);refine nU (by show 143-0>0;decide) (nU (by decide)<|dF ?_);refine dF<|dF ?_;show Q (a.extract 0 0++b.extract 0 24++((((OL f (cA 248 8)++(a.extract 144 248).reverse).push (f 287)++(b.extract 24 31).reverse).push (f 143)++(a.extract 0 143).reverse)).reverse)<|SortSt.mk' KT p t 6 Z9;have e:a.extract 0 0++b.extract 0 24++((((OL f (cA 248 8)++(a.extract 144 248).reverse).push (f 287)++(b.extract 24 31).reverse).push (f 143)++(a.extract 0 143).reverse)).reverse=(n5.map f).toArray:=by rw[<-y,<-z,Fc<|by exact Wz (.n 248) (.n 256) .e rfl,AV,Fc<|by exact Wz (.n 31) (.n 32) .e rfl,AV,Fc<|by exact Wz (.n 143) (.n 256) .e rfl,Sn (by exact Wz (.n 24) (.n 32) .e rfl)<|by simp];rfl
 refine Rr e<|h 6
end
section
variable{prog:qz}{w:bN}{A:bU}{E:aF->aG->Prop}{s:aG}{f:Nat->pY}
theorem CW{α:Type}:∀(l:List α) (b:List α) (rest:List α),l.length<=rest.length->
  (l.zipIdx b.length).foldl (λ(a:Array α) (p:α×Nat)=>a.setIfInBounds (0+p.2) p.1) (b++rest).toArray=(b++(l++rest.drop l.length)).toArray
 |[],b,rest,_=>by simp
 |x::l,b,y::rest,h=>by
  have c:(b++y::rest).toArray.setIfInBounds (0+b.length) x=((b++[x])++rest).toArray:=by apply ic.1;simp
  refine Rr List.zipIdx_cons<|Rr cz ?_;dsimp only;refine Rr c ?_;have:=CW l (b++[x]) rest (by simpa using h);rw[af,dD] at this;refine Rr this ?_;simp
theorem OZ{st a:σ}{Q:PUnit->σ->Prop}(h:Q ⟨⟩ a):BV M A E s (set a:StateT σ DB PUnit) Q st:=by unfold BV;rw[StateT.run_set];exact bB ⟨rfl,h⟩
theorem KU(h:j<=n):((up a n).map f).extract i j=(up (a+i)<|j-i).map f:=by apply ic.1;simp only [up,mI,lZ,j3,<-ku,<-f9];refine Rr pO<|Rr (AI<|mJ h _) ?_;rw[jP]
theorem CS(H:∀i,i<288->mW s.1 (f i).1 (vJ i)){b c:Nat}{Q:Bool->g8->Prop}(h:∀m d,d.size=1->Q Z8 (SortSt.mk' KT (n5.map f).toArray d m Z9)):
  BV (dX prog w) A E s (mergeAt' 0) Q (SortSt.mk' KT ((up 0 288).map f) #[(0,256,b),(256,32,c)] 7 Z9):=by
 unfold mergeAt';refine bz<|qB<|bz<|OZ ?_;refine bz (nV (p:=up 0 288) (i:=256) (by exact Rr (to<|by exact Wz (.s<|.n 256) (.n 288) .e rfl) rfl) ?_);refine bz<|p5 (left:=Z7) H (key:=256) (p:=up 0 288) (base:=0) (n:=256) (hint:=0) (k:=0) (by exact Wz (.s<|.n 256) (.n 288) .e rfl) (by exact Wz (.s<|.n 0) (.n 256) .e rfl) (by exact Wz (.n 0) (.n 256) .e rfl) (λi hi=>⟨i,by rewrite[bA];refine Rr (to<|by exact dL (.s .A) (.n 288) (.z (.s .A)<|.n 256) rfl hi) ?_;rw[bA],by exact dL (.s .A) (.n 288) (.z (.s .A)<|.n 256) rfl hi,?_⟩) rfl ?_
 .have:∀i,i<256->(!(qD (vJ 256)<|vJ i))=decide (i<0):=by decide+kernel
  exact this i hi
 refine ki (by show ¬((256-0==0)=Z8);decide) (bz<|nV (p:=up 0 288) (i:=255) (by show(up 0 288)[0+0+(256-0)-1]?=_;exact Rr (to<|by exact c9 (.s .A) (.n 288) (.o .A (.a (.p (.n 0) 0) .B)<|.z .B<|.n 256) rfl (bk _ _) (bk _ _)) rfl) ?_);refine bz<|p5 (left:=Z8) H (key:=255) (p:=up 0 288) (base:=256) (n:=32) (hint:=32-1) (k:=32) (by exact Wz (.s<|.n 255) (.n 288) .e rfl) (by exact(el<|ac<|Wz .i (.n 32) .e rfl)) (by exact Wz (.n 32) (.n 32) .e rfl) (λi hi=>⟨256+i,by refine Rr (to<|by exact dL (.s<|.a (.n 256) .A) (.n 288) (.z (.s .A)<|.n 32) rfl hi) ?_;rw[bA],by exact dL (.s<|.a (.n 256) .A) (.n 288) (.z (.s .A)<|.n 32) rfl hi,?_⟩) rfl ?_
 .have:∀i,i<32->qD (vJ<|256+i) (vJ 255)=decide (i<32):=by decide+kernel
  exact this i hi
 refine ki (by decide) (ki (by show ¬(256-0<=32);decide)<|bz ?_);refine Rr (KU<|by exact Wz (.n 256) (.n 288) .e rfl) (Rr (KU<|by exact Wz (.p (.n 256) 32) (.n 288) .e rfl) ?_);refine RM H λm=>bz<|zw<|bz<|qB<|dF ?_;have e:(n5.map f).toArray.1.zipIdx.foldl (λ(a:Array pY) (p:pY×Nat)=>a.setIfInBounds (0+p.2) p.1) ((up 0 288).map f)=(n5.map f).toArray:=by
  have:=CW (n5.map f) [] ((cA 0 288).map f) (by simp[n5]);have g:((up 0 288).map f)=([]++(cA 0 288).map f).toArray:=by apply ic.1;simp[up]
  refine Rr g<|this.trans ?_;simp[n5]
 refine Rr e<|h m _<|by show((#[(0,256,b),(256,32,c)].setIfInBounds 0 (0,256+32,b)).eraseIdxIfInBounds 1).size=1;simp
theorem CB(H:∀i,i<288->mW s.1 (f i).1 (vJ i)){q:Array<|Nat×Nat×Nat}{lo nrem m:Nat}(x:1<=m)(v:m<=nrem)(p:lo+nrem<=288)(y:m≠nrem->1<m)(up1:∀k,k<m-1->qD (vJ<|lo+k+1) (vJ<|lo+k)=Z7)(z:m<nrem->qD (vJ<|lo+m) (vJ<|lo+m-1)=Z8)
  (B:m<nrem->qD (vJ lo) (vJ<|lo+m-1)=Z8){Q:Option Nat->g8->Prop}(h:Q (fU m)<|SortSt.mk' KT ((up 0 288).map f) q 7 Z9):
  BV (dX prog w) A E s (countRun' lo nrem) Q (SortSt.mk' KT ((up 0 288).map f) q 7 Z9):=by
 rw[countRun'_eq];have lt:∀{i j:Nat} {b:Bool} {Q:Option Bool->g8->Prop},i<288->j<288->qD (vJ i) (vJ j)=b->Q (fU b) (SortSt.mk' KT ((up 0 288).map f) q 7 Z9)->BV (dX prog w) A E s (ltAt' i j) Q (SortSt.mk' KT ((up 0 288).map f) q 7 Z9):=λ{i j b Q} hi hj e hq=>by
  rw[ltAt'_eq];refine bz<|qB<|bz<|nV (i:=i) (by refine Rr (to hi) ?_;rw[bA])<|bz<|nV (i:=j) (by refine Rr (to hj) ?_;rw[bA])<|G7 H hi hj e rfl hq
 refine bz<|wF (Q:=λc a=>a=SortSt.mk' KT ((up 0 288).map f) q 7 Z9/\c=(Z9,m)) ?_ λc a hc=>?_
 .refine qC (λi c a=>i<=m/\a=SortSt.mk' KT ((up 0 288).map f) q 7 Z9/\c=(Z9,i)) (λi c a o hi r=>?_) (λc a r=>?_) ⟨x,rfl,rfl⟩
  .refine hV r λl d g=>?_;clear r;subst d;subst g;by_cases e:i=m
   .subst e;refine bz<|lt (by exact dT (.s<|.a .A .B) (.n 288) (.o (.a .A .C) (.n 288)<|.z (.s .B) .C) rfl p hi) (by exact gy (.s .A) (.n 288) (.o (.a .B .C) (.n 288)<|.o (.s .D) .C<|.z .A<|.a .B .D) rfl p hi (bk _ _)) (z hi)<|nU rfl (dF ⟨rfl,rfl⟩)
   .have:=up1 (i-1)<|Nat.sub_lt_sub_right o<|og l e;rw[show lo+(i-1)+1=lo+i by rw[bZ,ac o],<-Nat.add_sub_assoc o] at this;exact bz<|lt (by exact dT (.s<|.a .A .B) (.n 288) (.o (.a .A .C) (.n 288)<|.z (.s .B) .C) rfl p hi) (by exact gy (.s .A) (.n 288) (.o (.a .B .C) (.n 288)<|.o (.s .D) .C<|.z .A<|.a .B .D) rfl p hi (bk _ _)) this<|ki (by decide)<|dF ⟨by exact((cp e)).elim (λn=>n) λn=>H1 0 (.s .A) .B (.o (.s .B) .A<|.z .A .B) rfl n l,rfl,rfl⟩
  .refine hV r λl t u=>?_;clear r;subst t;subst u;exact⟨rfl,by exact Rr (show max 1 nrem=m by exact aj (l)<|ao v<|jb _ _) rfl⟩
 refine iB hc λd g=>?_;clear hc;subst d;subst g;by_cases e:m=nrem
 .exact nU (by show(m==nrem)=Z8;refine Rr e ?_;exact beq_self_eq_true _)<|dF h
 .refine ki (by show ¬((m==nrem)=Z8);simpa using e)<|nU (y e)<|bz<|lt (by exact dT (.s .A) (.n 288) (.o .i .B<|.o .B .C<|.z (.a .A .C)<|.n 288) rfl x v p) (by exact gy (.s .A) (.n 288) (.o .B .C<|.o (.a .D .C) (.n 288)<|.z (.s .A)<|.a .D .B) rfl v p (el<|ac<|c9 .i (.a .A .B) (.z .i .B) rfl x)) (B<|by exact((cp e)).elim (λn=>n) λn=>H1 0 (.s .A) .B (.o (.s .B) .A<|.z .A .B) rfl n v)<|nU rfl (dF h)
theorem LA{c:β}{f:Nat->β->StateT σ DB (ForInStep β)}{Q:β->σ->Prop}{st:σ}(k:b<=a)(h:Q c st):BV M A E s (forIn [a:b] c f) Q st:=
 qC (λp j d=>j=c/\d=st) (λi j d n o p=>bq n λm=>MP (.o .A .B<|.o .C .A<|.z (.s .B) .C) rfl m k o) (λj d l=>by refine iB l λe g=>?_;clear l;subst e;subst g;exact h) ⟨rfl,rfl⟩
theorem I4{lo n ok:Nat}(a:n<=max ok 1){Q:Bool->g8->Prop}{st:g8}(h:Q Z8 st):BV (dX prog w) A E s (binarySort' lo n ok) Q st:=by rw[binarySort'_eq];exact bz<|LA a<|dF h
theorem EF(H:∀i,i<288->mW s.1 (f i).1 (vJ i)){Q:Unit->g8->Prop}(h:∀m d,Q ()<|SortSt.mk' KT (n5.map f).toArray d m Z9):
  BV (dX prog w) A E s sortRuns' Q (SortSt.mk' KT ((up 0 288).map f) #[] 7 Z9):=by
 refine Rr sortRuns'_eq<|bz<|qB ?_;have c:(arrOf<|SortSt.mk' KT ((up 0 288).map f) #[] 7 Z9).size=288:=MD;refine Rr c<|bz (lr (by exact Wz (.s<|.n 0) (.n 288) .e rfl) ?_);refine ki (by decide) (bz<|CB H (m:=256) (by exact Wz .i (.n 256) .e rfl) (by decide) (by decide) (λg=>by exact Wz (.s .i) (.n 256) .e rfl) (by decide+kernel) (λg=>by decide+kernel) (λg=>by decide+kernel) ?_);refine ki (by decide)<|bz<|qB ?_;refine bz<|zw<|dF ?_;refine lr (by exact Wz (.s<|.s<|.n 0) (.n 288) .e rfl)<|ki (by show ¬(0+256≥288);exact λa=>VI (.z (.n 288)<|.p (.n 0) 256) rfl a)<|bz ?_;refine CB H (lo:=256) (nrem:=32) (m:=32) (by exact Wz .i (.n 32) .e rfl) (by exact Wz (.n 32) (.n 32) .e rfl) (by exact Wz (.p (.n 256) 32) (.n 288) .e rfl) (λe=>bq rfl e) (by decide+kernel) (λe=>bq e<|by exact λa=>VI (.z (.s<|.n 32)<|.n 32) rfl a) (λe=>bq e<|by exact λa=>VI (.z (.s<|.n 32)<|.n 32) rfl a)<|nU (by decide+kernel)<|bz<|wpS_lift<|mP ⟨rfl,?_⟩;refine bz (I4 (by show min (288-256) _<=max 32 1;exact dT .A .B (.o .A .C<|.o (.n 32) .B<|.z (.p .C 256)<|.n 288) rfl (fK _ _) (qM _ _) (el<|ac<|Wz (.n 256) (.n 288) .e rfl)) ?_);refine ki (by decide)<|bz<|qB ?_;refine bz (lr (by exact Wz (.s<|.n 0) (.n 288) .e rfl) ?_);refine bz<|qB ?_;refine dF<|bz<|zw<|bz<|zw<|dF ?_;refine lr (by exact Wz (.s<|.s<|.s<|.n 0) (.n 288) .e rfl)<|nU (by show 256+min (288-256) (minRun' 288 288 0)≥288;decide+kernel)<|dF ?_;refine bz (lr (by exact Wz (.s<|.n 0) (.n 288) .e rfl)<|bz<|qB ?_);refine ki (by show ¬(2<=1);exact λa=>VI (.z (.n 2) .i) rfl a)<|bz ?_;refine CS H λm d b=>ki (by decide)<|dF ?_;refine lr (by exact Wz (.s<|.s<|.n 0) (.n 288) .e rfl)<|bz<|qB ?_;refine nU (by exact(el b))<|dF<|dF<|h m d
end
noncomputable abbrev te:=List<|eT×Nat
noncomputable def LF:Tv->Operator
 |.a=>.Add|.s=>.Sub|.m=>.Mult|.f=>.FloorDiv|.e=>.Mod|.b=>.LShift|.d=>.RShift|.c=>.BitAnd|.g=>.BitOr|.p=>.Pow
noncomputable def Rx:Vw->CmpOp
 |.l=>.Lt|.b=>.LtE|.g=>.Gt|.a=>.GtE|.e=>.Eq|.n=>.NotEq
noncomputable def so(x:String):eT:=aa x
noncomputable def uU(n:Nat):eT:=([so "OCTET",so "END",so "UNUSED_PRICE",so "_law_ORDER"][n]?).getD<|so ""
noncomputable def Hm:List<|Nat×eT:=[(61,so "low_bits"),(68,so "turned_about"),(75,so "check_fit"),(138,so "greatest_length"),(145,so "tally_of"),(152,so "room_left"),(159,so "is_over"),(166,so "first_codes"),(173,so "codes_of"),
 (195,so "Encoder"),(206,so "merged"),(211,so "package_rows"),(216,so "code_lengths"),(223,so "length_order"),(230,so "fixed_lengths"),(237,so "cost_of"),(244,so "split_number"),(251,so "length_symbol"),(258,so "distance_symbol"),
 (289,so "Prices"),(300,so "counts_of"),(305,so "with_two"),(312,so "lengths_for"),(319,so "cut_lengths"),(326,so "run_rows"),(333,so "nought_rows"),(340,so "again_rows"),(369,so "Head"),(380,so "put_parts"),(387,so "put_stored"),
 (394,so "put_fixed"),(401,so "fixed_bits"),(408,so "stored_bits"),(432,so "Block"),(449,so "_law_number"),(454,so "_law_codes"),(461,so "_law_symbol"),(468,so "_law_head"),(473,so "_law_parts"),(480,so "_law_part"),(485,so "_law_bits"),
 (490,so "_law_counts"),(495,so "_law_is_good")]
noncomputable def n9(a:Nat):eT:=(Hm.lookup a).getD<|so ""
noncomputable def y8:List<|(Nat×Nat)×eT:=[((96,127),so "put"),((103,127),so "align"),((110,127),so "put_octets"),((117,127),so "bit_count"),((124,127),so "octets"),((192,195),so "put"),((279,289),so "literal"),((286,289),so "match"),
 ((359,369),so "bit_count"),((366,369),so "put"),((429,432),so "put")]
noncomputable def rM(m c:Nat):eT:=(y8.lookup (m,c)).getD<|so ""
noncomputable def uC(n:Nat):eT:=([so "made",so "held"][n]?).getD<|so "count"
noncomputable def ll(n:Nat):eT:=([so "len",so "range",so "list",so "sorted",so "max",so "min",so "sum",so "bytes",so "isinstance"][n]?).getD<|so "set"
noncomputable def uD(sc:i5)(x:eT):Bool:=sc.2.lookup x==fU .globalImplicit
noncomputable def xH:dH:=.Name (so "") default
set_option genSizeOf false in
set_option genInjectivity false in
structure EV where
 n:Nat:=0
 a:dH:=xH
 b:dH:=xH
 c:dH:=xH
 l:List dH:=[]
 t:Nat:=0
 x:eT:=so ""
 lo:Option dH:=Z9
 hi:Option dH:=Z9
 g:List sN:=[]
 s:i5:=default
noncomputable def Rv:UnaryOp->Bool
 |.Not=>Z8
 |_=>Z7
noncomputable def ev:dH->EV
 |.Name x _=>{n:=1,x:=x}
 |.Attribute a x _=>{n:=2,a:=a,x:=x}
 |.Subscript a b _=>{n:=3,a:=a,b:=b}
 |.Compare a _ l _=>{n:=4,a:=a,l:=l}
 |.BoolOp _ l _=>{n:=5,l:=l}
 |.UnaryOp op a _=>{n:=bif Rv op then 6 else 0,a:=a}
 |.IfExp a b c _=>{n:=7,a:=a,b:=b,c:=c}
 |.Tuple l t _=>{n:=8,l:=l,t:=t}
 |.List l _=>{n:=9,l:=l}
 |.ListComp a g s _=>{n:=10,a:=a,g:=g,s:=s}
 |.SetComp .. =>{n:=11}
 |.DictComp .. =>{n:=11}
 |.BinOp a _ b _=>{a:=a,b:=b}
 |.Call a l _ _=>{a:=a,l:=l}
 |.Constant _ t _=>{t:=t}
 |.Slice lo hi _ _=>{lo:=lo,hi:=hi}
 |.Dict ks l _=>{lo:=ks.headD Z9,l:=l}
 |_=>{}
noncomputable def vo(e:dH):Bool:=(ev e).1==1
noncomputable def wM(e:dH):eT:=(ev e).7
noncomputable def k0(e:dH):dH:=(ev e).2
noncomputable def k1(e:dH):dH:=(ev e).3
noncomputable def k2(e:dH):dH:=(ev e).4
noncomputable def ka(e:dH):List dH:=(ev e).5
noncomputable def Ku(e:dH):Nat:=(ev e).6
noncomputable def gc(e:dH):List eT:=bif vo e then[wM e] else(ka e).map wM
noncomputable def yM(e:dH):Bool:=vo e||((ev e).1==8&&(decide (2<=(ka e).length)&&(ka e).all vo))
noncomputable def NJ(tb:te)(xs:List eT)(is:List Nat):Bool:=(xs.map λx=>tb.lookup x)==is.map fU
noncomputable def Ej(sc:i5)(tb:te)(t:dH)(is:List Nat):Bool:=
 yM t&&NJ tb (gc t) is&&(gc t).all λx=>sc.2.lookup x !=fU .free
noncomputable def zg(scope a:i5):i5:=
 {scope with names:=scope.2.map λ(n,k)=>if k==.free&&a.1==.function&&a.2.lookup n==fU .cell then(n,.cell) else(n,k)}
noncomputable def frees(scope:i5):List eT:=scope.2.filterMap λ(n,k)=>if k==.free then fU n else Z9
noncomputable def lR(scope:i5)(tb:te)(xs:List eT)(is:List Nat):te:=
 xs.zip is++(frees scope).filterMap λn=>(tb.lookup n).map (n,·)
noncomputable def u0(x:eT):Bool:=!(x==so "__debug__")&&!(x==so "__classdict__")
noncomputable def EX(scope sc:i5)(tb:te)(mtb:MT)(xs:List eT)(is:List Nat):Bool:=
 is.all (λi=>decide (mtb.2<=i)&&mtb.1.all (λp=>p.2 !=i))&&scope.1==.function&&sc.1==.function&&
 scope.2.all (λ(n,k)=>k !=.cell&&(k !=.local||(scope.2.lookup n==fU .local&&(xs.contains n||n==so ".0")))
  &&(k !=.free||(scope.2.lookup n==fU .free&&(tb.lookup n).isSome&&(sc.2.lookup n==fU .cell||sc.2.lookup n==fU .free))))&&
 xs.all (λx=>scope.2.lookup x==fU .local&&u0 x&&x !=so ".0")&&
 decide xs.Nodup&&decide is.Nodup&&(xs.length==is.length)&&
 (frees scope).all (λn=>match tb.lookup n with|some j=>!is.contains j|none=>Z7)
noncomputable def nX(e:dH):Bool:=[1,2,3].contains (ev e).1
noncomputable def zX(e:dH):Bool:=![4,5,6,7].contains (ev e).1
noncomputable def vV(e:dH):Bool:=![8,9].contains (ev e).1
noncomputable def mz(e:dH):Bool:=![10,11].contains (ev e).1
noncomputable def Vh(e:dH):Bool:=(ev e).1==8
noncomputable def rG:Ex->Bool
 |.none=>Z8
 |_=>Z7
noncomputable def hd(l:List dH):dH:=l.headD xH
noncomputable def oX(o:Option dH):dH:=o.getD xH
noncomputable def Wn(e:dH):Option dH:=(ev e).8
noncomputable def W9(e:dH):Option dH:=(ev e).9
noncomputable def BS(e:dH):i5:=(ev e).11
noncomputable def g0(e:dH):sN:=(ev e).10.headD ⟨xH,xH,[],0⟩
noncomputable def g1(e:dH):sN:=(ev e).10.tail.headD ⟨xH,xH,[],0⟩
noncomputable def dk(e:dH):dH:=oX<|Wn e
noncomputable def zk(e:dH):dH:=.Name (wM e) e.pos
mutual
noncomputable def fE:Ex->dH->dH
 |.i i,e=>.Constant (.int i) (Ku e) e.pos
 |.h b,e=>.Constant (.bool b) (Ku e) e.pos
 |.none,e=>.Constant .none (Ku e) e.pos
 |.v _,e=>zk e
 |.D _,e=>zk e
 |.g g,e=>.Name (uU g) e.pos
 |.b op l r,e=>.BinOp (fE l<|k0 e) (LF op) (fE r<|k1 e) e.pos
 |.x x,e=>.UnaryOp .USub (fE x<|k0 e) e.pos
 |.z op l r,e=>.Compare (fE l<|k0 e) [Rx op] [fE r<|hd<|ka e] e.pos
 |.y l r,e=>.BoolOp .Or [fE l<|hd<|ka e,fE r<|hd (ka e).tail] e.pos
 |.p t x y,e=>.IfExp (fT t<|k0 e) (fE x<|k1 e) (fE y<|k2 e) e.pos
 |.t es,e=>.Tuple (fL es<|ka e) (Ku e) e.pos
 |.l es,e=>.List (fL es<|ka e) e.pos
 |.s x i,e=>.Subscript (fE x<|k0 e) (fE i<|k1 e) e.pos
 |.k _ i,e=>.Subscript (zk<|k0 e) (fE i<|k1 e) e.pos
 |.n x lo hi,e=>.Subscript (fE x<|k0 e) (.Slice (bif rG lo then Z9 else fU<|fE lo<|oX<|Wn<|k1 e) (bif rG hi then Z9 else fU<|fE hi<|oX<|W9<|k1 e) Z9 (k1 e).pos) e.pos
 |.d x c i,e=>.Attribute (fE x<|k0 e) ((dp c)[i]?.getD<|so "") e.pos
 |.j _,e=>.Attribute (zk<|k0 e) (wM e) e.pos
 |.e x f,e=>.Attribute (fE x<|k0 e) (uC f) e.pos
 |.c f args,e=>.Call (.Name (n9 f) (k0 e).pos) (fL args<|ka e) [] e.pos
 |.f v a,e=>.Call (fE v<|k0 e) [fE a<|hd<|ka e] [] e.pos
 |.m m c x args,e=>.Call (.Attribute (fE x<|k0<|k0 e) (rM m c) (k0 e).pos) (fL args<|ka e) [] e.pos
 |.a b args,e=>.Call (.Name (ll b) (k0 e).pos) (bif b==8 then fL args (ka e)++[.Name (so "tuple") (hd (ka e).tail).pos] else fL args<|ka e) [] e.pos
 |.w _,e=>.Call (.Name (so "len") (k0 e).pos) [zk<|hd<|ka e] [] e.pos
 |.r x,e=>.Call (.Attribute (fE x<|k0<|k0 e) (so "count") (k0 e).pos) [.Constant (.bool Z8) (Ku<|hd<|ka e) (hd<|ka e).pos] [] e.pos
 |.q _ k d,e=>.Call (.Attribute (zk<|k0<|k0 e) (so "get") (k0 e).pos) [fE k<|hd<|ka e,fE d<|hd (ka e).tail] [] e.pos
 |.u x k d,e=>.Call (.Attribute (fE x<|k0<|k0 e) (so "get") (k0 e).pos) [fE k<|hd<|ka e,fE d<|hd (ka e).tail] [] e.pos
 |.o x _ it ifs,e=>.ListComp (fE x<|k0 e) [⟨(g0 e).1,fE it (g0 e).2,PJ ifs (g0 e).3,0⟩] (BS e) e.pos
 |.A x _ it _ jt ifs,e=>.ListComp (fE x<|k0 e) [⟨(g0 e).1,fE it (g0 e).2,[],0⟩,⟨(g1 e).1,fE jt (g1 e).2,PJ ifs (g1 e).3,0⟩] (BS e) e.pos
 |.C,e=>.Dict [] [] e.pos
 |.B k v,e=>.Dict [fU<|.Constant (.int k) (Ku<|dk e) (dk e).pos] [.Constant (.int v) (Ku<|hd<|ka e) (hd<|ka e).pos] e.pos
noncomputable def fL:ER->List dH->List dH
 |.n,_=>[]
 |.c x r,as=>fE x (hd as)::fL r as.tail
noncomputable def fT:Te->dH->dH
 |.c op l r,e=>.Compare (fE l<|k0 e) [Rx op] [fE r<|hd<|ka e] e.pos
 |.i k d,e=>.Compare (fE k<|k0 e) [.In] [fE d<|hd<|ka e] e.pos
 |.o ts,e=>.BoolOp .Or (PJ ts<|ka e) e.pos
 |.a ts,e=>.BoolOp .And (PJ ts<|ka e) e.pos
 |.n t,e=>.UnaryOp .Not (fT t<|k0 e) e.pos
 |.e x,e=>fE x e
noncomputable def PJ:DL->List dH->List dH
 |.n,_=>[]
 |.c t r,as=>fT t (hd as)::PJ r as.tail
end
mutual
noncomputable def kB(sc:i5)(tb:te)(mtb:MT):Ex->dH->Bool
 |.v i,e=>tb.lookup (wM e)==fU i
 |.D i,e=>tb.lookup (wM e)==fU i
 |.g g,_=>decide (g<4)&&uD sc (uU g)
 |.b _ l r,e=>kB sc tb mtb l (k0 e)&&kB sc tb mtb r (k1 e)
 |.x x,e=>kB sc tb mtb x<|k0 e
 |.z _ l r,e=>kB sc tb mtb l (k0 e)&&kB sc tb mtb r (hd<|ka e)
 |.y l r,e=>kB sc tb mtb l (hd<|ka e)&&kB sc tb mtb r (hd (ka e).tail)
 |.p t x y,e=>Ff sc tb mtb t (k0 e)&&(kB sc tb mtb x (k1 e)&&kB sc tb mtb y (k2 e))
 |.t es,e=>Pd sc tb mtb es<|ka e
 |.l es,e=>Pd sc tb mtb es<|ka e
 |.s x i,e=>kB sc tb mtb x (k0 e)&&kB sc tb mtb i (k1 e)
 |.k v i,e=>decide (v<mtb.2)&&(tb.lookup (wM<|k0 e)==fU v&&kB sc tb mtb i (k1 e))
 |.n x lo hi,e=>kB sc tb mtb x (k0 e)&&((rG lo||kB sc tb mtb lo (oX<|Wn<|k1 e))&&(rG hi||kB sc tb mtb hi (oX<|W9<|k1 e)))
 |.d x c i,e=>nX (fE x<|k0 e)&&(decide (i<(dp c).length)&&kB sc tb mtb x (k0 e))
 |.j i,e=>tb.lookup (wM<|k0 e)==fU 0&&mtb.1.lookup (wM e)==fU i
 |.e x f,e=>nX (fE x<|k0 e)&&(decide (f<3)&&kB sc tb mtb x (k0 e))
 |.c f args,e=>uD sc (n9 f)&&(n9 f !=so ""&&Pd sc tb mtb args (ka e))
 |.f v a,e=>vo (fE v<|k0 e)&&(kB sc tb mtb v (k0 e)&&kB sc tb mtb a (hd<|ka e))
 |.m m c x args,e=>nX (fE x<|k0<|k0 e)&&(decide ((fL args<|ka e).length<30)&&((k0 e).pos.3==e.pos.1&&(rM m c !=so ""&&(kB sc tb mtb x (k0<|k0 e)&&Pd sc tb mtb args (ka e)))))
 |.a b args,e=>uD sc (ll b)&&(decide (b<10)&&((b !=8||uD sc (so "tuple"))&&Pd sc tb mtb args (ka e)))
 |.w v,e=>uD sc (so "len")&&(decide (v<mtb.2)&&tb.lookup (wM<|hd<|ka e)==fU v)
 |.r x,e=>nX (fE x<|k0<|k0 e)&&((k0 e).pos.3==e.pos.1&&kB sc tb mtb x (k0<|k0 e))
 |.q v k d,e=>(k0 e).pos.3==e.pos.1&&(decide (v<mtb.2)&&(tb.lookup (wM<|k0<|k0 e)==fU v&&(kB sc tb mtb k (hd<|ka e)&&kB sc tb mtb d (hd (ka e).tail))))
 |.u x k d,e=>vo (fE x<|k0<|k0 e)&&((k0 e).pos.3==e.pos.1&&(kB sc tb mtb x (k0<|k0 e)&&(kB sc tb mtb k (hd<|ka e)&&kB sc tb mtb d (hd (ka e).tail))))
 |.o x is it ifs,e=>yM (g0 e).1&&(EX (BS e) sc tb mtb (gc (g0 e).1) is&&(kB sc tb mtb it (g0 e).2&&
   (kB (zg (BS e) sc) (lR (BS e) tb (gc (g0 e).1) is) mtb x (k0 e)&&EI (zg (BS e) sc) (lR (BS e) tb (gc (g0 e).1) is) mtb ifs (g0 e).3)))
 |.A x is it js jt ifs,e=>yM (g0 e).1&&(yM (g1 e).1&&(EX (BS e) sc tb mtb (gc (g0 e).1++gc (g1 e).1) (is++js)&&((gc (g0 e).1).length==is.length&&(kB sc tb mtb it (g0 e).2&&
   (kB (zg (BS e) sc) (lR (BS e) tb (gc (g0 e).1++gc (g1 e).1)<|is++js) mtb jt (g1 e).2&&(kB (zg (BS e) sc) (lR (BS e) tb (gc (g0 e).1++gc (g1 e).1)<|is++js) mtb x (k0 e)&&
    EI (zg (BS e) sc) (lR (BS e) tb (gc (g0 e).1++gc (g1 e).1)<|is++js) mtb ifs (g1 e).3))))))
 |_,_=>Z8
noncomputable def Pd(sc:i5)(tb:te)(mtb:MT):ER->List dH->Bool
 |.n,_=>Z8
 |.c x r,as=>kB sc tb mtb x (hd as)&&Pd sc tb mtb r as.tail
noncomputable def Ff(sc:i5)(tb:te)(mtb:MT):Te->dH->Bool
 |.c _ l r,e=>kB sc tb mtb l (k0 e)&&kB sc tb mtb r (hd<|ka e)
 |.i k d,e=>vo (fE d<|hd<|ka e)&&(kB sc tb mtb k (k0 e)&&kB sc tb mtb d (hd<|ka e))
 |.o ts,e=>EI sc tb mtb ts<|ka e
 |.a ts,e=>EI sc tb mtb ts<|ka e
 |.n t,e=>Ff sc tb mtb t<|k0 e
 |.e x,e=>zX (fE x e)&&kB sc tb mtb x e
noncomputable def EI(sc:i5)(tb:te)(mtb:MT):DL->List dH->Bool
 |.n,_=>Z8
 |.c t r,as=>Ff sc tb mtb t (hd as)&&EI sc tb mtb r as.tail
end
set_option genSizeOf false in
set_option genInjectivity false in
structure SV where
 v:dH:=xH
 t:dH:=xH
 b:List iW:=[]
 b2:List iW:=[]
noncomputable def sv:iW->SV
 |.Assign ts v _=>{v:=v,t:=hd ts}
 |.AugAssign t _ v _=>{v:=v,t:=t}
 |.Expr v _=>{v:=v}
 |.Return v _=>{v:=oX v}
 |.If u b c _=>{v:=u,b:=b,b2:=c}
 |.While u b _ _=>{v:=u,b:=b}
 |.For t u b _ _=>{v:=u,t:=t,b:=b}
 |_=>{}
noncomputable def sV(t:iW):dH:=(sv t).1
noncomputable def sT(t:iW):dH:=(sv t).2
noncomputable def sB(t:iW):List iW:=(sv t).3
noncomputable def W5(t:iW):List iW:=(sv t).4
noncomputable def WT(l:List iW):iW:=l.headD<|.Pass default
noncomputable def TS(tb:te)(mtb:MT)(e:dH)(i:Nat):Bool:=tb.lookup (wM<|k0 e)==fU 0&&mtb.1.lookup (wM e)==fU i
noncomputable def VJ(tb:te)(mtb:MT):List dH->List Nat->Bool
 |e::r,i::is=>TS tb mtb e i&&VJ tb mtb r is
 |[],[]=>Z8
 |_,_=>Z7
noncomputable def UT(e:dH):dH:=.Attribute (zk<|k0 e) (wM e) e.pos
noncomputable def vf(n:eT)(a:dH)(x:dH)(e:dH):dH:=.Call (.Attribute a n (k0 e).pos) [x] [] e.pos
mutual
noncomputable def fS:Sx->iW->iW
 |.a _ x,t=>.Assign [zk<|sT t] (fE x<|sV t) t.pos
 |.c _ x,t=>.Assign [sT t] (fE x<|sV t) t.pos
 |.g _ x,t=>.Assign [UT<|sT t] (fE x<|sV t) t.pos
 |.o _ x,t=>.Assign [.Tuple ((ka<|sT t).map UT) (Ku<|sT t) (sT t).pos] (fE x<|sV t) t.pos
 |.h f x,t=>.Assign [.Attribute (zk<|k0<|sT t) (uC f) (sT t).pos] (fE x<|sV t) t.pos
 |.s _ i x,t=>.Assign [.Subscript (zk<|k0<|sT t) (fE i<|k1<|sT t) (sT t).pos] (fE x<|sV t) t.pos
 |.j op _ x,t=>.AugAssign (zk<|sT t) (LF op) (fE x<|sV t) t.pos
 |.p _ x,t=>.AugAssign (zk<|sT t) .Add (fE x<|sV t) t.pos
 |.b _ i x,t=>.AugAssign (.Subscript (zk<|k0<|sT t) (fE i<|k1<|sT t) (sT t).pos) .Add (fE x<|sV t) t.pos
 |.d _ x,t=>.Expr (vf (so "append") (zk<|k0<|k0<|sV t) (fE x<|hd<|ka<|sV t)<|sV t) t.pos
 |.m x,t=>.Expr (vf (so "append") (.Attribute (zk<|k0<|k0<|k0<|sV t) (so "made") (k0<|k0<|sV t).pos) (fE x<|hd<|ka<|sV t)<|sV t) t.pos
 |.k x,t=>.Expr (vf (so "extend") (.Attribute (zk<|k0<|k0<|k0<|sV t) (so "made") (k0<|k0<|sV t).pos) (fE x<|hd<|ka<|sV t)<|sV t) t.pos
 |.e x,t=>.Expr (fE x<|sV t) t.pos
 |.r x,t=>.Return (fU<|fE x<|sV t) t.pos
 |.t,t=>.Return Z9 t.pos
 |.i c a b,t=>.If (fT c<|sV t) (DK a<|sB t) (DK b<|W5 t) t.pos
 |.w c b,t=>.While (fT c<|sV t) (DK b<|sB t) [] t.pos
 |.f _ x b,t=>.For (sT t) (fE x<|sV t) (DK b<|sB t) [] t.pos
 |.l _ x b,t=>.For (sT t) (.Call (.Name (so "reversed") (k0<|sV t).pos) [fE x<|hd<|ka<|sV t] [] (sV t).pos) (DK b<|sB t) [] t.pos
 |.q,t=>.Continue t.pos
 |.n,t=>t
noncomputable def DK:iX->List iW->List iW
 |.n,_=>[]
 |.c s r,b=>fS s (WT b)::DK r b.tail
end
noncomputable def JB(e:dH):Bool:=(k0 e).pos.3==e.pos.1
mutual
noncomputable def P9(sc:i5)(tb:te)(mtb:MT):Sx->iW->Bool
 |.a i x,t=>Ej sc tb (zk<|sT t) [i]&&kB sc tb mtb x (sV t)
 |.c is x,t=>Vh (sT t)&&(vV (fE x<|sV t)&&(mz (fE x<|sV t)&&(Ej sc tb (sT t) is&&kB sc tb mtb x (sV t))))
 |.g i x,t=>TS tb mtb (sT t) i&&kB sc tb mtb x (sV t)
 |.o is x,t=>decide (2<=is.length)&&(vV (fE x<|sV t)&&(mz (fE x<|sV t)&&(VJ tb mtb (ka<|sT t) is&&kB sc tb mtb x (sV t))))
 |.h f x,t=>tb.lookup (wM<|k0<|sT t)==fU 0&&(mz (fE x<|sV t)&&(decide (1<=f/\f<3)&&kB sc tb mtb x (sV t)))
 |.s v i x,t=>decide (v<mtb.2)&&(tb.lookup (wM<|k0<|sT t)==fU v&&(mz (fE x<|sV t)&&(kB sc tb mtb i (k1<|sT t)&&kB sc tb mtb x (sV t))))
 |.j _ i x,t=>Ej sc tb (zk<|sT t) [i]&&kB sc tb mtb x (sV t)
 |.p i x,t=>decide (i<mtb.2)&&(Ej sc tb (zk<|sT t) [i]&&kB sc tb mtb x (sV t))
 |.b v i x,t=>decide (v<mtb.2)&&(tb.lookup (wM<|k0<|sT t)==fU v&&(kB sc tb mtb i (k1<|sT t)&&kB sc tb mtb x (sV t)))
 |.d v x,t=>JB (sV t)&&(decide (v<mtb.2)&&(tb.lookup (wM<|k0<|k0<|sV t)==fU v&&kB sc tb mtb x (hd<|ka<|sV t)))
 |.m x,t=>JB (sV t)&&(tb.lookup (wM<|k0<|k0<|k0<|sV t)==fU 0&&kB sc tb mtb x (hd<|ka<|sV t))
 |.k x,t=>JB (sV t)&&(tb.lookup (wM<|k0<|k0<|k0<|sV t)==fU 0&&kB sc tb mtb x (hd<|ka<|sV t))
 |.e x,t=>mz (fE x<|sV t)&&kB sc tb mtb x (sV t)
 |.r x,t=>kB sc tb mtb x<|sV t
 |.i c a b,t=>Ff sc tb mtb c (sV t)&&(sK sc tb mtb a (sB t)&&sK sc tb mtb b (W5 t))
 |.w c b,t=>Ff sc tb mtb c (sV t)&&sK sc tb mtb b (sB t)
 |.f is x b,t=>Ej sc tb (sT t) is&&(kB sc tb mtb x (sV t)&&sK sc tb mtb b (sB t))
 |.l is x b,t=>Ej sc tb (sT t) is&&(uD sc (so "reversed")&&(kB sc tb mtb x (hd<|ka<|sV t)&&sK sc tb mtb b (sB t)))
 |_,_=>Z8
noncomputable def sK(sc:i5)(tb:te)(mtb:MT):iX->List iW->Bool
 |.n,_=>Z8
 |.c s r,b=>P9 sc tb mtb s (WT b)&&sK sc tb mtb r b.tail
end
structure Rm (k:Nat) (A:bU):Prop where
 d:A.2+4*k<990
 u:A.5+100*k<9800
 h:A.1=Z9
theorem Rm.room(R:Rm k A):A.2<IH:=by have:=R.1;exact c9 (.s .A) (.n 1000) (.z (.s<|.a .A<|.m 4 .B)<|.n 990) rfl this
section
variable{w:bN}{ad:Ad}{fx:Fx}{F F':FZ}{ex ex':dw}{σ σ':St}{s s':aG}{A:bU}
noncomputable def cr.WK(S:cr w ad fx F ex σ s)(l:iD F F')(G:GS w ad.12 F' (dU fx S.2 S.3++(ci S.1++(ex'++gB ad σ.2))) s'):cr w ad fx F' ex' σ s':=
 ⟨S.1,S.2,S.3,S.4.le l,S.5,S.6,λc D e=>⟨(S.7 c D e).1,(S.7 c D e).2.1.le l,(S.7 c D e).2.2⟩,G⟩
inductive bE (w:bN) (ad:Ad) (fx:Fx) (F:FZ) (ex:dw) (lv:LV) (σ:St) (v:aF) (s:aG):Prop
 |m (F':FZ) (c:CL) (l:iD F F') (e:c.1=v) (h:ve w ad F' lv c) (S:Nonempty<|cr w ad fx F' (gF c++ex) σ s)
inductive uZ (w:bN) (ad:Ad) (fx:Fx) (F:FZ) (ex:dw) (p:PV) (σ:St) (v:aF) (s:aG):Prop
 |m (F':FZ) (l:iD F F') (h:VR w ad F' p v) (S:Nonempty<|cr w ad fx F' ex σ s)
theorem ij:gF ⟨v,Z9⟩=[]:=by cases v<;>rfl
theorem ms(h:c.2=Z9):gF c=[]:=by obtain⟨v,o⟩:=c;cases h;exact ij
theorem bE.fz(h:bE w ad fx F ex (.f p) σ v s):uZ w ad fx F ex p σ v s:=by obtain⟨F',c,l,rfl,r,⟨S⟩⟩:=h;rw[ms r.1] at S;exact⟨F',l,r.2,⟨S⟩⟩
theorem uZ.VK(h:uZ w ad fx F ex p σ v s):bE w ad fx F ex (.f p) σ v s:=by obtain⟨F',l,r,⟨S⟩⟩:=h;exact⟨F',⟨v,Z9⟩,l,rfl,⟨rfl,r⟩,⟨by rw[ij];exact S⟩⟩
theorem cr.front(S:cr w ad fx F (p::ex) σ s):GS w ad.12 F (p::(dU fx S.2 S.3++(ci S.1++(ex++gB ad σ.2)))) s:=
 S.8.rg [dU fx S.2 S.3,ci S.1,[p],ex,gB ad σ.2] (.n (.l 0)<|.n (.l 1)<|.n (.n (.l 2)<|.l 3)<|.l 4) (.n (.l 2)<|.n (.l 0)<|.n (.l 1)<|.n (.l 3)<|.l 4) rfl
theorem GS.back{os:gv}{p:bW×OP}(G:GS w os F (p::(X++(Y++(ex++Z)))) s):GS w os F (X++(Y++((p::ex)++Z))) s:=
 G.rg [X,Y,[p],ex,Z] (.n (.l 2)<|.n (.l 0)<|.n (.l 1)<|.n (.l 3)<|.l 4) (.n (.l 0)<|.n (.l 1)<|.n (.n (.l 2)<|.l 3)<|.l 4) rfl
theorem cr.BZ(S:cr w ad fx F ((a,P)::ex) σ s):∃F',iD F F'/\n7 F' a P/\Nonempty (cr w ad fx F' ex σ s):=
 let⟨o,_,q,l,f,b⟩:=S.front.freeze
 ⟨_,l,⟨o,f,q⟩,⟨S.WK l b⟩⟩
theorem bE.sL(h:bE w ad fx F ex lv σ v s)(e:sL lv=fU p):uZ w ad fx F ex p σ v s:=by
 obtain⟨F',c,le,rfl,h,⟨S⟩⟩:=h;have key:∀(a:bW) (P:OP),c=⟨.ref a,fU P⟩->(∀d,iD F' d->n7 d a P->VR w ad d p (.ref a))->uZ w ad fx F ex p σ c.1 s:=λa P i k=>by
  subst i;refine ia (cr.BZ (ex:=ex) S) λd j fa A=>⟨d,le.trans j,k d j fa,A⟩
 cases lv with
 |u=>injection e
 |m=>injection e
 |f q=>injection e with r;subst r;rw[ms h.1] at S;exact⟨F',le,h.2,⟨S⟩⟩
 |o l=>(injection e with t;subst t);refine lg h λn a vs i q=>?_;exact key a _ i λz j fa=>jW.2 ⟨n,ff a vs ⟨rfl,fa,q.le j⟩⟩
 |a l=>(injection e with x;subst x);refine cU h λa xs g i q=>?_;exact key a _ i λz j fa=>z4.2<|ff a xs ⟨rfl,g,fa,q.le j⟩
 |b l=>(injection e with y;subst y);refine cU h λa xs g i q=>?_;exact key a _ i λz j fa=>rk.2<|ff a xs ⟨rfl,g,fa,q⟩
theorem bE.le(l:iD F₀ F):bE w ad fx F ex lv σ v s->bE w ad fx F₀ ex lv σ v s
 |⟨F',c,a,e,h,S⟩=>⟨F',c,l.trans a,e,h,S⟩
theorem GS.Mm{os:gv}{X R:dw}(G:GS w os F (X++(ci cl++R)) s)(hc:cl[i]?=fU c)(v:aF):GS w os F (gF c++(X++(ci (cl.set i ⟨v,Z9⟩)++R))) s:=by
 have e:gF c++ci (cl.set i ⟨v,Z9⟩)=gF c++ci (cl.set i ⟨.none,Z9⟩):=by
  congr 1
  clear G hc
  induction cl generalizing i with
  |nil=>rfl
  |cons x cl f=>cases i with
   |zero=>simp only [rZ,ci,ij]
   |succ i=>simp only [rZ,ci,f]
 have d:GS w os F (X++((gF c++ci (cl.set i ⟨v,Z9⟩))++R)) s:=e▸G.zH (λp b=>(a7.1 b).elim (aD _) λb=>aw _<|(a7.1 b).elim (λh=>aD _<|pB hc p h)<|aw _)
  λa=>by
   have:=mr hc a;simp only [je,aC,bt] at this⊢;exact pI (.a .A<|.a (.a .B .C) .D) (.a .A<|.a .E .D) (.z (.a .B .C) .E) rfl (eg this)
 exact d.rg [X,gF c,ci<|cl.set i ⟨v,Z9⟩,R] (.n (.l 0)<|.n (.n (.l 1)<|.l 2)<|.l 3) (.n (.l 1)<|.n (.l 0)<|.n (.l 2)<|.l 3) rfl
theorem St.Ma{cl:List CL}{c d:CL}(a:(σ.1.set i lv)[j]?=fU h)(b:(cl.set i c)[j]?=fU d):(j=i/\h=lv/\d=c)\/(σ.1[j]?=fU h/\cl[j]?=fU d):=by
 by_cases g:i=j
 .subst g;have e:=(bp.1 a).1;have f:=(bp.1 b).1;rw[fM] at e f;rw[fy e] at a;rw[fy f] at b;exact .inl ⟨rfl,(fU.inj a).symm,(fU.inj b).symm⟩
 .rw[eD g] at a b;exact .inr ⟨a,b⟩
noncomputable def cr.setC(S:cr w ad fx F ex σ s){i:Nat}{lv:LV}{c:CL}(l:iD F F')(H:ve w ad F' lv c)(E:lv≠.u->(∃a p,σ.1[i]?=fU a/\S.1[i]?=fU p/\a≠.u/\p.1=c.1))
  (G:GS w ad.12 F' (dU fx S.2 S.3++(ci (S.1.set i c)++(ex'++gB ad σ.2))) s'):cr w ad fx F' ex' (σ.set i lv) s':=
 ⟨S.1.set i c,S.2,S.3,(S.4.le l).set H,λj b q lc r d t B=>(St.Ma r t).elim (λh=>by
   refine ak λA=>hV h λf g k=>?_;clear h;subst f g k;refine jX (E d) λa p v x y z=>A<|z▸S.5 _ _ _ _ v y x B) λh=>S.5 j b q lc h.1 d h.2 B,
  λj u C b q r d t=>(St.Ma r t).elim (λh=>by
   refine ak λA=>hV h λm n o=>?_;clear h;subst m;subst n;subst o;refine jX (E d) λa p v x y z=>A<|z.symm.trans<|S.6 _ _ C _ _ v y x) λh=>S.6 j u C b q h.1 d h.2,
  λc D e=>⟨(S.7 c D e).1,(S.7 c D e).2.1.le l,(S.7 c D e).2.2⟩,G⟩
theorem cr.take(S:cr w ad fx F ex σ s){lv:LV}(hi:σ.1[i]?=fU lv):∃c,S.1[i]?=fU c/\ve w ad F lv c/\Nonempty (cr w ad fx F (gF c++ex) (σ.set i .u) s):=
 let⟨c,hc,a⟩:=S.4.get hi
 ⟨c,hc,a,⟨S.setC iD.nv (c:=⟨.none,Z9⟩) rfl (λh=>bq rfl h) ((S.8.Mm hc .none).rg [gF c,dU fx S.2 S.3,ci<|S.1.set i ⟨.none,Z9⟩,ex,gB ad σ.2]
  (.n (.l 0)<|.n (.l 1)<|.n (.l 2)<|.n (.l 3)<|.l 4) (.n (.l 1)<|.n (.l 2)<|.n (.n (.l 0)<|.l 3)<|.l 4) rfl)⟩⟩
theorem St.set_same(hi:σ.1[i]?=fU lv):σ.set i lv=σ:=by
 obtain⟨sl,W⟩:=σ;exact bx (St.mk · W) (lD λj=>by
  by_cases a:i=j
  .subst a;refine Rr (fy (bp.1 hi).1) ?_;exact hi.symm
  .exact Rr (eD a) rfl)
theorem cr.tW(S:cr w ad fx F ex σ s){lv:LV}{p:PV}(hi:σ.1[i]?=fU lv)(h:sL lv=fU p):
  ∃F' c,iD F F'/\S.1[i]?=fU c/\VR w ad F' p c.1/\Nonempty (cr w ad fx F' ex (σ.set i<|.f p) s):=by
 refine bO (S.4.get hi) λc hc t=>?_;have key:∀(a:bW) (P:OP),c=⟨.ref a,fU P⟩->lv≠.u->(∀F',iD F F'->n7 F' a P->VR w ad F' p (.ref a))->∃F' c,iD F F'/\S.1[i]?=fU c/\VR w ad F' p c.1/\Nonempty (cr w ad fx F' ex (σ.set i<|.f p) s):=by intro a P d A y;subst d;refine p8 ((S.8.Mm hc<|.ref a).freeze) λo B q l f z=>(ff _ _ ⟨l,hc,y _ l ⟨o,f,q⟩,⟨S.setC l (c:=⟨.ref a,Z9⟩) ⟨rfl,y _ l ⟨o,f,q⟩⟩ (λB=>⟨_,_,hi,hc,A,rfl⟩) z⟩⟩)
 cases lv with
 |u=>injection h
 |m=>injection h
 |f q=>(injection h with x;subst x);exact(ff F c ⟨iD.nv,hc,t.2,⟨by rw[St.set_same hi];exact S⟩⟩)
 |o l=>(injection h with j;subst j);refine lg t λn a vs d q=>?_;exact key a _ d (λe=>nomatch e) λF' v fa=>jW.2 ⟨n,ff a vs ⟨rfl,fa,q.le v⟩⟩
 |a l=>(injection h with k;subst k);refine cU t λa xs g d q=>?_;exact key a _ d (λe=>nomatch e) λF' v fa=>z4.2<|ff a xs ⟨rfl,g,fa,q.le v⟩
 |b l=>(injection h with r;subst r);refine cU t λa xs g d q=>?_;exact key a _ d (λe=>nomatch e) λF' v fa=>rk.2<|ff a xs ⟨rfl,g,fa,q⟩
theorem WS{P:Prop}(h:ji e s):P:=h.elim
theorem an(h:(a&&b)=Z8):a=Z8/\b=Z8:=cf.1 h
theorem A0(h:PQ l=fU a):l=[a]:=by
 cases l with
 |nil=>injection h
 |cons x r=>cases r with
  |nil=>(injection h with b;subst b);rfl
  |cons y r=>injection h
theorem LN(h:VH l=fU x):l=[x.1,x.2]:=by
 cases l with
 |nil=>injection h
 |cons a r=>cases r with
  |nil=>injection h
  |cons b r=>cases r with
   |nil=>(injection h with d;subst d);rfl
   |cons c r=>injection h
theorem dq{α β:Type}{x:Option α}{f:α->Option β}{r:β}{C:Prop}(h:x.bind f=fU r)(k:∀a,x=fU a->f a=fU r->C):C:=by refine bO (kZ.1 h) λa b c=>?_;exact k a b c
theorem jn{α β:Type}{x:Option α}{f:α->β}{r:β}{C:Prop}(h:x.map f=fU r)(k:∀a,x=fU a->f a=r->C):C:=by refine bO (eF.1 h) λa b c=>?_;exact k a b c
theorem wq{α β:Type}{x:Option α}{n:Option β}{f:α->Option β}{r:β}{C:Prop}(h:x.elim n f=fU r)(k0:n=fU r->C)(k:∀a,x=fU a->f a=fU r->C):C:=by
 cases x with
 |none=>exact k0 h
 |some a=>exact k a rfl h
theorem qp(h:gd c x=fU r):c=Z8/\x=fU r:=by
 cases c with
 |true=>exact⟨rfl,h⟩
 |false=>injection h
theorem A7[Decidable p]{a r:α}{C:Prop}(h:gd (decide p) (fU a)=fU r)(k:p->a=r->C):C:=k (dG (qp h).1)<|fU.inj (qp h).2
theorem lk{α β:Type}[BEq α][LawfulBEq α]{a:α}{b:β}:∀{l:List<|α×β},l.lookup a=fU b->(a,b)∈l:=by
 intro l;induction l with
 |nil=>exact λh=>nomatch h
 |cons p l e=>
  intro h;rw[ek] at h;cases d:a==p.1 with
  |true=>rw[d] at h;injection h with c;subst c;refine Rr (fN d) ?_;exact .head _
  |false=>rw[d] at h;exact .tail _<|e h
theorem Bz{tb:te}{x:eT}{i:Nat}(h:(tb.lookup x==fU i)=Z8):(x,i)∈tb:=lk<|beq_iff_eq.1 h
theorem tI(h:oz p=fU i):p=.i i:=by cases p<;>cases h;rfl
theorem SE(h:VA p=fU i):p=.c i:=by cases p<;>cases h;rfl
theorem qd(h:BQ p=fU l):p=.l l:=by cases p<;>cases h;rfl
theorem Fu(h:Tm p=fU l):p=.a l:=by cases p<;>cases h;rfl
theorem KY(h:ML p=fU l):p=.b l:=by cases p<;>cases h;rfl
theorem Ga(h:Pb p=Z8):p=.none:=by cases p<;>first|rfl|injection h
theorem Ba(h:sL lv=fU p):lv≠.u:=by rintro rfl;injection h
theorem Jq(h:sL lv=fU p)(b:(Fe lv).isSome=Z8):lv=.f p:=by cases lv<;>cases b;injection h with a;subst a;rfl
theorem Kp(O:eA fx)(S:cr w ad fx F ex σ s){i:Nat}{r:PV×St}(g:(x,i)∈fx.2)(h:Mq σ i=fU r):br (MM w) A (ue fx.1 x) (uZ w ad fx F ex r.1 r.2) ji s:=
 dq h λlv hi h=>jn h λp d e=>S.load O g hi (Ba d) λc hc l=>by
  subst e;refine jX (S.tW hi d) λF' k j a q f=>?_;rw[hc] at a;injection a with b;subst b
  exact⟨F',j,q,f⟩
theorem Ml(O:eA fx)(S:cr w ad fx F ex σ s){i:Nat}{r:LV×St}(l:(x,i)∈fx.2)(h:WU σ i=fU r):br (MM w) A (ue fx.1 x) (bE w ad fx F ex r.1 r.2) ji s:=
 dq h λlv hi h=>jn h λp d e=>S.load O l hi (Ba d) λc hc f=>by
  subst e;cases j:(Fe lv).isSome with
  |true=>cases Jq d j;exact uZ.VK ⟨F,iD.nv,f.2,⟨S⟩⟩
  |false=>
   refine ia (S.take hi) λm a k g=>?_;rw[hc] at a;injection a with b;subst b
   exact⟨F,c,iD.nv,rfl,f,g⟩
end
section
variable{w:bN}{ad:Ad}{fx:Fx}{F F':FZ}{ex ex':dw}{σ σ':St}{s s':aG}{A:bU}
theorem cr.B(S:cr w ad fx F ex σ s):qW w s.1:=S.8.B
theorem cr.sub(S:cr w ad fx F ex σ s):DG F s.1:=S.8.2
theorem n7.get(f:n7 F a P)(S:cr w ad fx F ex σ s):∃o,s.1.get? a=fU o/\P o:=by refine bO f λo e q=>?_;exact⟨o,S.sub _ _ e,q⟩
noncomputable def cr.alloc(S:cr w ad fx F ex σ s)(o:Hj){P:OP}(b:o.isFreed=Z7)(a:P o):cr w ad fx F ((s.1.1.size,P)::ex) σ {s with heap:=s.1.push o}:=
 ⟨S.1,S.2,S.3,S.4,S.5,S.6,S.7,(S.8.alloc o b a).back⟩
theorem cr.rD(S:cr w ad fx F ex σ s)(o:Hj)(a:o.isFreed=Z7):
  ∃F',iD F F'/\F' s.1.1.size=fU o/\Nonempty (cr w ad fx F' ex σ {s with heap:=s.1.push o}):=by
 refine hV (S.8.rD o a) λl e g=>⟨_,l,e,⟨S.WK l g⟩⟩
theorem fP.length:∀{ps:List PV} {vs:List aF},fP w ad F ps vs->ps.length=vs.length
 |[],_=>λh=>by cases dN.1 h;rfl
 |_::_,_=>λh=>by refine cU (cZ.1 h) λv r a b k=>?_;subst a;exact bx ky k.length
theorem fP.cons(h:VR w ad F p v)(k:fP w ad F ps vs):fP w ad F (p::ps) (v::vs):=cZ.2<|ff v vs ⟨rfl,h,k⟩
theorem fP.append(k:fP w ad F qs us):∀{ps:List PV} {vs:List aF},fP w ad F ps vs->fP w ad F (ps++qs) (vs++us)
 |[],_=>λh=>by cases dN.1 h;exact k
 |_::_,_=>λh=>by refine cU (cZ.1 h) λv r a q x=>?_;subst a;exact(append k x).cons q
theorem fP.get:∀{ps:List PV} {vs:List aF} {i:Nat} {p:PV},fP w ad F ps vs->ps[i]?=fU p->∃v,vs[i]?=fU v/\VR w ad F p v
 |[],_,_,_=>λd e=>nomatch e
 |_::_,_,0,_=>λh e=>by refine cU (cZ.1 h) λv r b x d=>?_;subst b;injection e with a;subst a;exact⟨v,rfl,x⟩
 |_::_,_,i+1,_=>λh e=>by refine cU (cZ.1 h) λv r c d k=>?_;subst c;exact k.get (i:=i) e
theorem fP.drop:∀{ps:List PV} {vs:List aF} {n:Nat},fP w ad F ps vs->fP w ad F (ps.drop n) (vs.drop n)
 |_,_,0=>λh=>h
 |[],_,n+1=>λh=>by cases dN.1 h;exact dN.2 rfl
 |_::_,_,n+1=>λh=>by refine cU (cZ.1 h) λv r a b k=>?_;subst a;exact k.drop (n:=n)
theorem fP.take:∀{ps:List PV} {vs:List aF} {n:Nat},fP w ad F ps vs->fP w ad F (ps.take n) (vs.take n)
 |_,_,0=>λh=>dN.2 rfl
 |[],_,n+1=>λh=>by cases dN.1 h;exact dN.2 rfl
 |_::_,_,n+1=>λh=>by refine cU (cZ.1 h) λv r a q k=>?_;subst a;exact(k.take (n:=n)).cons q
theorem fP.reverse:∀{ps:List PV} {vs:List aF},fP w ad F ps vs->fP w ad F ps.reverse vs.reverse
 |[],_=>λh=>by cases dN.1 h;exact dN.2 rfl
 |p::ps,_=>λh=>by
  refine cU (cZ.1 h) λv r a q k=>?_;subst a;refine Rr lE<|Rr lE ?_;exact((dN.2 rfl).cons q).append k.reverse
theorem fP.set(h:VR w ad F p v):∀{ps:List PV} {vs:List aF} {i:Nat},fP w ad F ps vs->fP w ad F (ps.set i p) (vs.set i v)
 |[],_,_=>λh=>by cases dN.1 h;exact dN.2 rfl
 |_::_,_,0=>λk=>by refine cU (cZ.1 k) λv r a x y=>?_;subst a;exact y.cons h
 |_::_,_,i+1=>λk=>by refine cU (cZ.1 k) λv r b x y=>?_;subst b;exact(set h (i:=i) y).cons x
theorem fP.V2(h:fP w ad F ps vs):∀n:Nat,fP w ad F (ap n ps).flatten (ap n vs).flatten:=by
 intro n;induction n with
 |zero=>exact dN.2 rfl
 |succ n a=>exact(a).append h
section
variable{p:PV}{v:aF}
theorem tR(e:oz p=fU i)(h:VR w ad F p v):∃t,v=.int i t:=pa.1<|tI e▸h
theorem W4(e:VA p=fU b)(h:VR w ad F p v):v=.bool b:=(SE e▸h:VR w ad F (.c b) v)
theorem Qc(e:BQ p=fU l)(h:VR w ad F p v):l.length<=aq/\∃a vs,v=.ref a/\n7 F a (dj vs)/\fP w ad F l vs:=jW.1<|qd e▸h
theorem Vy(e:Tm p=fU l)(h:VR w ad F p v):l.length<=aq/\∃a vs,v=.ref a/\n7 F a (rx vs)/\fP w ad F l vs:=nZ.1<|Fu e▸h
theorem QS(e:ML p=fU l)(h:VR w ad F p v):l.length<=aq/\∃t,v=.bytes l.toArray t:=rU.1<|KY e▸h
end
theorem bE.newList(S:cr w ad fx F ex σ s)(a:l.length<=aq)(b:fP w ad F l vs):
  bE w ad fx F ex (.o l) σ (.ref s.1.1.size) {s with heap:=s.1.push {cls:=.type "list",data:=.seq vs.toArray},toks:=t}:=
 ⟨F,⟨.ref s.1.1.size,fU<|dj vs⟩,iD.nv,rfl,⟨a,ff _ vs ⟨rfl,b⟩⟩,⟨(S.alloc (P:=dj vs) {cls:=.type "list",data:=.seq vs.toArray} rfl ⟨_,rfl⟩).tok t⟩⟩
theorem bE.val(S:cr w ad fx F ex σ s){p:PV}{v:aF}(h:VR w ad F p v):bE w ad fx F ex (.f p) σ v s:=uZ.VK ⟨F,iD.nv,h,⟨S⟩⟩
theorem bE.int(S:cr w ad fx F ex σ s):bE w ad fx F ex (.f<|.i i) σ (.int i t) s:=bE.val S<|pa.2 ⟨t,rfl⟩
theorem bE.bool(S:cr w ad fx F ex σ s):bE w ad fx F ex (.f<|.c b) σ (.bool b) s:=bE.val S rfl
theorem dj.isList{h:qA}{vs:List aF}(x:∃o,h.get? a=fU o/\dj vs o):h.IsList a vs.toArray:=by refine oP x λo e n b=>?_;subst b;exact⟨_,e,rfl,_,rfl⟩
theorem rx.Ov{h:qA}{vs:List aF}(x:∃o,h.get? a=fU o/\rx vs o):h.IsTuple a vs.toArray:=by refine oP x λo e n b=>?_;subst b;exact⟨_,e,rfl,_,rfl⟩
theorem vk:small a=Z8↔a.natAbs<2^64:=by unfold small;exact decide_eq_true_iff
theorem QX(h:intOp op a b=fU c)(S:cr w ad fx F ex σ s):
  br (MM w) A (uf (LF op) (.int a t)<|.int b u) (bE w ad fx F ex (.f<|.i c) σ) ji s:=
 have fin:∀{i:Int},i=c->bE w ad fx F ex (.f<|.i c) σ (.int i s.4) {s with toks:=s.4+1}:=λe=>e▸bE.int (S.tok _);have g:∀{k:Bool} {i:Int},gd k (fU i)=fU c->k=Z8/\i=c:=λh=>⟨(qp h).1,fU.inj (qp h).2⟩
 by cases op with
 |a=>exact PyProof.Rows.add_int<|fin<|fU.inj h
 |s=>exact PyProof.Rows.sub_int'<|fin<|fU.inj h
 |m=>exact PyProof.Rows.mul_int (fin (g h).2)<|have l:=vk.1 (g h).1;IntMulOk.of_left (intBits_le_64 (Int.neg_lt_of_neg_lt<|kR (Int.natAbs_neg a▸Int.le_natAbs)<|aN.2 l)<|kR Int.le_natAbs<|aN.2 l)
 |f=>exact have j:=dG (g h).1;PyProof.Rows.floordiv_int j.1 (fin (g h).2) (Or.inl<|PyProof.noPylong_of_log2 j.2)
 |e=>exact PyProof.Rows.mod_int' (dG (g h).1)<|fin (g h).2
 |b=>exact have j:=dG (an (g h).1).1;PyProof.Rows.lshift_int_small j.1 j.2 (vk.1 (an (g h).1).2) (fin (g h).2)
 |d=>exact PyProof.Rows.rshift_int (dG (g h).1)<|fin (g h).2
 |c=>exact PyProof.Rows.and_int<|fin<|fU.inj h
 |g=>exact PyProof.Rows.or_int<|fin<|fU.inj h
 |p=>exact have j:=dG (an (g h).1).1;PyProof.Rows.pow_int_small j.1 j.2 (vk.1 (an (g h).1).2) (fin (g h).2)
end
theorem hZ(h:n<=aq):n<=eV:=by refine Rr sizeLine_eq ?_;unfold aq at h;exact ao h<|by decide
section
variable{w:bN}{ad:Ad}{fx:Fx}{F F':FZ}{ex ex':dw}{σ σ':St}{s s':aG}{A:bU}
theorem Pe(S:cr w ad fx F ex σ s)(k:n7 F a<|dj us)(m:n7 F b<|dj vs)(f:fP w ad F l us)(h:fP w ad F r vs)
  (g:l.length+r.length<=aq):br (MM w) A (uf .Add (.ref a)<|.ref b) (bE w ad fx F ex (.o<|l++r) σ) ji s:=by
 refine ak λp=>?_;obtain⟨o,ho,n,rfl⟩:=k.get S;refine oP (m.get S) λq d n2 c=>?_;subst c;refine p ?_;have e:us.toArray++vs.toArray=(us++vs).toArray:=by simp
 refine concat_meets ⟨_,ho,rfl⟩ ⟨_,d,rfl⟩ noFill_list_add seq_list_add PySem.F.slot_list_add PySem.F.entry_list_add (PySem.F.args_list_add_2 _ _)
  (list_addW a b us.toArray vs.toArray n n2 Z9 Z9 #[] #[] (by have i:=f.length;have j:=h.length;simp only [bF];exact hZ<|by rw[<-i,<-j];exact g)) ⟨ho,d,?_⟩
 refine Rr e<|(bE.newList S (by simpa using g) (h.append f):bE w ad fx F ex (.o<|l++r) σ _ _)
theorem NB{a:bW}{x:Int}(S:cr w ad fx F ex σ s)(i:n7 F a<|dj us)(c:fP w ad F l us)(d:l.length*x.toNat<=aq)(e:x<=aq)(g:-aq<=x):
  br (MM w) A (uf .Mult (.ref a)<|.int x u) (bE w ad fx F ex (.o (ap x.toNat l).flatten) σ) ji s:=by
 refine ak λj=>?_;obtain⟨o,ho,n,rfl⟩:=i.get S;refine j ?_;have f:x<=1048576:=e;have h:-1048576<=x:=g;have b:us.toArray.size*x.toNat<=1048576:=by simpa [c.length,aq] using d
 refine wpAny_binaryOp_repeat_ref (T:="list") (U:="int") (by decide) ⟨_,ho,rfl⟩ (λs'=>typeIs_int s' x u) noFill_list_mul PySem.F.fills_int_mul PySem.F.slot_int_rmul repeat_list PySem.F.slot_int_index.1
  (IJ PySem.F.slot_int_rmul (typeIs_int s x u) PySem.F.entry_int_rmul (PySem.F.args_int_rmul_2 _ _) (int___rmul___int_list x u a us.toArray n)
   ⟨ho,rfl,⟨_,ho,rfl⟩,IJ PySem.F.slot_list_mul ⟨_,ho,rfl⟩ PySem.F.entry_list_mul (PySem.F.args_list_mul_2 _ _)
    (AutoListH.list___mul___list_int_3 a us.toArray n x u (by simp[Builtin.List.listFitsIndex];omega) (by omega)<|by simp[Builtin.List.listTooLong,eV];simp at b;omega)
    ⟨ho,?_⟩⟩)
 rw[listMul_foldl_if];exact(bE.newList S (by
  have:((ap x.toNat l).flatten).length=x.toNat*l.length:=by simp
  refine Rr this ?_;rw[fw];exact d) (c.V2 _):bE w ad fx F ex (.o (ap x.toNat l).flatten) σ _ _)
theorem M4(S:cr w ad fx F ex σ s)(c:a.length+b.length<=aq):
  br (MM w) A (uf .Add (.bytes a.toArray t)<|.bytes b.toArray u) (bE w ad fx F ex (.f<|.b<|a++b) σ) ji s:=by
 refine KBy.add_bytes (by simp only [bF];unfold aq at c;exact ao c<|by decide) λd k=>bE.val (S.tok k)<|rU.2 ⟨by simpa using c,d,by simp⟩
theorem RW(h:T5 p q=fU lv)(k:VR w ad F p a)(m:VR w ad F q b)(S:cr w ad fx F ex σ s):
  br (MM w) A (uf .Add a b) (bE w ad fx F ex lv σ) ji s:=
 wq h (λh=>dq h λl e h=>dq h λr f h=>A7 h λj i=>by
  subst i;obtain⟨_,t,rfl⟩:=QS e k;refine C5 (QS f m) λn u c=>?_;subst c;exact M4 S j) λl e h=>dq h λr f h=>A7 h λj i=>by
  subst i;refine dI (Qc e k) λn a us d fa v=>?_;subst d;refine dI (Qc f m) λn b vs g o x=>?_;subst g;exact Pe S fa o v x j
theorem Th{p q:PV}{lv:LV}{a b:aF}(h:Vc p q=fU lv)(g:VR w ad F p a)(i:VR w ad F q b)(S:cr w ad fx F ex σ s):
  br (MM w) A (uf .Mult a b) (bE w ad fx F ex lv σ) ji s:=
 dq h λl e h=>dq h λr f h=>A7 h λc d=>by
  subst d;obtain⟨_,a,us,rfl,fa,j⟩:=Qc e g;obtain⟨t,rfl⟩:=tR f i;exact NB S fa j c.1 c.2.1 c.2.2
theorem Qk{op:Tv}{lv:LV}{a b:aF}(h:iJ op p q=fU lv)(d:VR w ad F p a)(g:VR w ad F q b)(S:cr w ad fx F ex σ s):
  br (MM w) A (uf (LF op) a b) (bE w ad fx F ex lv σ) ji s:=
 wq h (λh=>by
  cases op with
  |a=>exact RW h d g S
  |m=>exact Th h d g S
  |_=>exact nomatch h)
  λi e h=>dq h λj f h=>jn h λc hc k=>by
  subst k;obtain⟨t,rfl⟩:=tR e d;obtain⟨u,rfl⟩:=tR f g;exact QX hc S
mutual
theorem VR.reads(m:DG F s.1):∀{p:PV} {v:aF} {d:II},VR w ad F p v->IT p=fU d->(∃as,Reads s.1 v d as)/\d.canLay0=Z8
 |.none,v,d=>λh e=>by cases(h:v=.none);injection e with g;subst g;exact⟨⟨_,.none⟩,rfl⟩
 |.c b,v,d=>λh e=>by cases(h:v=.bool b);injection e with j;subst j;exact⟨⟨_,.bool _⟩,rfl⟩
 |.i i,v,d=>λh e=>by obtain⟨t,rfl⟩:=pa.1 h;injection e with k;subst k;exact⟨⟨_,.int _ _⟩,rfl⟩
 |.l l,v,d=>λh e=>by
  obtain⟨_,a,vs,rfl,⟨o,u,n,rfl⟩,r⟩:=jW.1 h;refine jn e λz q f=>?_;subst f;obtain⟨⟨as,x⟩,y⟩:=fP.reads m r q;exact⟨⟨_,.list (m _ _ u) rfl rfl x⟩,y⟩
 |.a l,v,d=>λh e=>by
  obtain⟨_,a,vs,rfl,⟨o,u,n,rfl⟩,r⟩:=nZ.1 h;refine jn e λz q f=>?_;subst f;obtain⟨⟨as,x⟩,y⟩:=fP.reads m r q;exact⟨⟨_,.tuple (m _ _ u) rfl rfl x⟩,y⟩
 |.b _,_,_=>λc e=>nomatch e
 |.f _ _,_,_=>λc e=>nomatch e
 |.p _,_,_=>λc e=>nomatch e
 |.d _,_,_=>λc e=>nomatch e
 |.e _,_,_=>λc e=>nomatch e
 |.r _ _ _,_,_=>λc e=>nomatch e
 |.o,_,_=>λc e=>nomatch e
 |.m,_,_=>λc e=>nomatch e
 |.g,_,_=>λc e=>nomatch e
 |.t,_,_=>λc e=>nomatch e
theorem fP.reads(c:DG F s.1):∀{ps:List PV} {vs:List aF} {b:List II},fP w ad F ps vs->xU ps=fU b->(∃as,ReadsAll s.1 vs b as)/\PyData.canLayAll0 b=Z8
 |[],_,_=>λh e=>by cases dN.1 h;injection e with a;subst a;exact⟨⟨_,.nil⟩,rfl⟩
 |p::ps,_,b=>λh e=>by
  obtain⟨v,r,rfl,x,y⟩:=cZ.1 h;refine dq e λd hd e=>jn e λb e' f=>?_;subst f;obtain⟨⟨as,a1⟩,a2⟩:=VR.reads c x hd;obtain⟨⟨bs,g⟩,b2⟩:=fP.reads c y e';exact⟨⟨_,.cons a1 g⟩,cf.2 ⟨a2,b2⟩⟩
end
theorem Rg(h:DV p q=fU r)(g:VR w ad F p a)(i:VR w ad F q b)(S:cr w ad fx F ex σ s)(R:Rm 1 A):
  br (MM w) A (ug .Eq a b) (λv s'=>v=.bool r/\s'=s) ji s/\br (MM w) A (ug .NotEq a b) (λv s'=>v=.bool (!r)/\s'=s) ji s:=
 dq h λx j h=>dq h λy k h=>A7 h λhd c=>by
  refine ak λl=>?_;obtain⟨⟨as,e⟩,ca⟩:=VR.reads S.sub g j;obtain⟨⟨bs,f⟩,cb⟩:=VR.reads S.sub i k;refine l ?_;have d:A.5+min x.depth y.depth<cLine:=by have:=R.2;have m:min x.depth y.depth<=x.depth:=fK _ _;show _<9900;omega
  exact⟨SeqAt.compareEq_reads e f ca cb d ⟨by exact Rr c rfl,rfl⟩,SeqAt.compareNe_reads e f ca cb d ⟨by exact Rr c rfl,rfl⟩⟩
theorem PS(h:PV.beq p q=fU r)(g:VR w ad F p a)(k:VR w ad F q b)(S:cr w ad fx F ex σ s)(R:Rm 1 A):
  br (MM w) A (ug .Eq a b) (λv s'=>v=.bool r/\s'=s) ji s/\br (MM w) A (ug .NotEq a b) (λv s'=>v=.bool (!r)/\s'=s) ji s:=
 wq h (λh=>wq h (λh=>Rg h g k S R) λi e h=>jn h λj f d=>by
   subst d;obtain⟨_,t,rfl⟩:=QS e g;refine C5 (QS f k) λl u c=>?_;subst c;exact⟨PySem.W.eq_bytes ⟨rfl,rfl⟩,PySem.W.ne_bytes ⟨rfl,rfl⟩⟩)
  λi e h=>jn h λj f d=>by
   subst d;obtain⟨t,rfl⟩:=tR e g;obtain⟨u,rfl⟩:=tR f k;exact⟨PyProof.Rows.eq_int ⟨rfl,rfl⟩,PyProof.Rows.ne_int ⟨rfl,rfl⟩⟩
theorem wZ{a b:aF}{r:Bool}{c:Int->Int->Bool}(h:((oz p).bind λa=>(oz q).map λb=>c a b)=fU r)(g:VR w ad F p a)(k:VR w ad F q b):∃i j t u,a=.int i t/\b=.int j u/\c i j=r:=
 dq h λi e h=>jn h λj f d=>by obtain⟨t,x⟩:=tR e g;obtain⟨u,y⟩:=tR f k;exact(B2 i j t u ⟨x,y,d⟩)
theorem Mf{a b:aF}{r:Bool}(h:oe op p q=fU r)(d:VR w ad F p a)(i:VR w ad F q b)(S:cr w ad fx F ex σ s)(R:Rm 1 A):
  br (MM w) A (ug (Rx op) a b) (λv s'=>v=.bool r/\s'=s) ji s:=
 by cases op with
 |l=>obtain⟨_,_,_,_,e,f,g⟩:=wZ h d i;exact e▸f▸PyProof.Rows.lt_int ⟨bx _ g,rfl⟩
 |b=>refine xR (wZ h d i) λc c c c e f g=>?_;exact e▸f▸PyProof.Rows.le_int ⟨bx _ g,rfl⟩
 |g=>refine xR (wZ h d i) λc c c c e f g=>?_;exact e▸f▸PyProof.Rows.gt_int ⟨bx _ g,rfl⟩
 |a=>refine xR (wZ h d i) λc c c c e f g=>?_;exact e▸f▸PyProof.Rows.ge_int ⟨bx _ g,rfl⟩
 |e=>exact(PS h d i S R).1
 |n=>exact jn h λc hc e=>e▸(PS hc d i S R).2
theorem BX(h:qk p=fU b)(j:VR w ad F p v)(S:cr w ad fx F ex σ s):
  br (MM w) A (IE v) (λc s'=>c=b/\∃t,s'={s with toks:=t}) ji s:=
 wq h (λh=>wq h (λh=>jn h λl e g=>by
   obtain⟨k,a,vs,rfl,fa,r⟩:=Qc e j;refine wpAny_truthy_list (dj.isList<|fa.get S) ?_ ⟨?_,_,rfl⟩
   .have:=r.length;simp only [bF];unfold aq at k;omega
   .subst g;have:=r.length;cases vs<;>cases l<;>first|rfl|cases this)
  λi e g=>by
   injection g with d;subst d;obtain⟨t,rfl⟩:=tR e j;exact P.truthy_int ⟨rfl,_,rfl⟩) λi e g=>by
  injection g with f;subst f;cases W4 e j;exact BM ⟨rfl,_,rfl⟩
end
noncomputable def WJ:Data->Array MS×Nat
 |.dict es n=>(es,n)
 |_=>(#[],0)
noncomputable def dataOf(o:Option Hj):Array MS:=o.elim #[] λo=>(WJ o.3).1
noncomputable def VY(o:Option Hj):Nat:=o.elim 0 λo=>(WJ o.3).2
noncomputable def ux(e:MS):Bool:=match e.2 with
 |.str _ _=>Z8
 |_=>Z7
theorem yp(h:es.1.all ux=Z8):StrKeys es:=λe a=>by
 have h:=aU.1 h e (by simpa using a);cases b:e.2<;>first|exact(ff _ _ rfl)|(unfold ux at h;rw[b] at h;injection h)
noncomputable def x0(P:eY)(x:eT):Option aF:=nsFind (dataOf<|(KF P).lookup 3) x
theorem g3:∀P:eY,∃o,(KF P).lookup 3=fU o/\o.3=.dict (dataOf<|(KF P).lookup 3) (VY<|(KF P).lookup 3):=λP=>⟨_,rfl,rfl⟩
theorem g3k:∀P:eY,(dataOf<|(KF P).lookup 3).1.all ux=Z8:=by intro P;kernel_rfl
theorem qW.glob(B:qW w h):h.Ns 3<|x0 w.2:=by refine bO (g3 w.2) λo e d=>(ou o _ _ ⟨B.1 _ _ e,d,yp<|g3k _,λa=>rfl⟩)
theorem WR{α:Type}[BEq α][LawfulBEq α]{a:α}{b d:eT}{l:List<|α×eT}(h:(l.lookup a).getD d≠d):(a,(l.lookup a).getD d)∈l:=by
 cases e:l.lookup a with
 |none=>rw[e] at h;exact bq rfl h
 |some x=>exact lk e
theorem EN{a:Nat}(h:n9 a≠so ""):(a,n9 a)∈Hm:=WR (b:=so "") h
theorem V3:∀P:eY,Hm.map (λp=>x0 P p.2)=Hm.map (λp=>fU<|.ref p.1):=by intro P;kernel_rfl
theorem V5:∀P:eY,([0,1,2,3].map λi=>x0 P<|uU i)=[fU<|.int 8 247,fU<|.int 256 488,fU<|.int 16 490,fU<|.ref 437]:=by intro P;kernel_rfl
theorem Su:∀P:eY,(((ay 10).map ll++[aa "tuple",aa "reversed"]).map λx=>x0 P x)=((ay 10).map ll++[aa "tuple",aa "reversed"]).map (λa=>Z9):=by intro P;kernel_rfl
theorem T1:∀P:eY,(x0 P<|aa "BitsOut",x0 P<|aa "_law_taker")=(fU<|.ref 127,fU<|.ref 444):=by intro P;kernel_rfl
noncomputable def Tq:Nat->aF
 |0=>.builtin "len"|1=>.type "range"|2=>.type "list"|3=>.builtin "sorted"|4=>.builtin "max"|5=>.builtin "min"
 |6=>.builtin "sum"|7=>.type "bytes"|8=>.builtin "isinstance"|_=>.type "set"
theorem TX:(((ay 10).map ll++[aa "tuple",aa "reversed"]).map nF)=(ay 10).map (λi=>fU<|Tq i)++[fU<|.type "tuple",fU<|.type "reversed"]:=by kernel_rfl
section
variable{w:bN}{ad:Ad}{fx:Fx}{F F':FZ}{ex ex':dw}{σ σ':St}{s s':aG}{A:bU}
theorem zF(h:uD fx.1.1 x=Z8):fx.1.kindOf x=fU .globalImplicit:=by unfold uD at h;exact beq_iff_eq.1 h
theorem qi(O:eA fx)(B:qW w s.1)(b:uD fx.1.1 x=Z8)(a:x0 w.2 x=fU v)(h:Q v s):br (MM w) A (ue fx.1 x) Q E s:=by refine Rr (loadName_read O.1<|zF b)<|Calls.loadGlobal_global (by refine Rr O.11 ?_;exact B.glob) a h
theorem zV(O:eA fx)(B:qW w s.1)(f:uD fx.1.1 x=Z8)(d:x0 w.2 x=Z9)(e:nF x=fU v)(a:x≠"__name__")(h:Q v s):br (MM w) A (ue fx.1 x) Q E s:=by refine Rr (loadName_read O.1<|zF f)<|bO B.3 λmb b c=>Calls.loadGlobal_builtin (by refine Rr O.11 ?_;exact B.glob) d (by refine Rr O.12 ?_;exact b) (by refine Rr (c x a) ?_;exact e) h
theorem lX{α β:Type}{f g:α->β}:∀{l:List α},l.map f=l.map g->∀x∈l,f x=g x:=by
 intro l;induction l with
 |nil=>intro _ _ a;cases a
 |cons y l b=>
  intro e x a;simp only [az,jz.injEq] at e;rcases ax.1 a with rfl|a
  .exact e.1
  .exact b e.2 x a
theorem Se(h:n9 a≠so ""):x0 P (n9 a)=fU (.ref a):=lX (V3 P) _<|EN h
theorem EP(h:b<10):x0 P (ll b)=Z9/\nF (ll b)=fU (Tq b)/\ll b≠"__name__":=by
 have c:=Su P;have a:=TX;refine⟨lX c (ll b)<|aD _<|aE.2 ⟨b,a9.2 h,rfl⟩,?_,?_⟩
 .rw[aC,bM] at a;have d:=(List.append_inj a<|by simp).1;exact lX d b<|a9.2 h
 .have:∀b∈ay 10,ll b≠"__name__":=by decide+kernel
  exact this b<|a9.2 h
end
def bg(w:bN)(g:Bool)(O:jU)(k:Nat)(x:Ex):Prop:=
 ∀{ad:Ad} {fx:Fx} {e:dH} {F:FZ} {ex:dw} {σ:St} {r:LV×St} {s:aG} {A:bU},eA fx->kB fx.1.1 fx.2 fx.8 x e=Z8->bQ O x σ=fU r->cr w ad fx F ex σ s->Rm (k+1) A->
  bV g (MM w) A (dS (fE x e) fx.1) (bE w ad fx F ex r.1 r.2) ji s
inductive UW (w:bN) (ad:Ad) (fx:Fx) (F:FZ) (ex:dw) (ps:List PV) (σ:St) (vs:List aF) (s:aG):Prop
 |m (F':FZ) (l:iD F F') (h:fP w ad F' ps vs) (S:Nonempty<|cr w ad fx F' ex σ s)
def lU(w:bN)(g:Bool)(O:jU)(k:Nat)(x:ER):Prop:=
 ∀{ad:Ad} {fx:Fx} {es:List dH} {F:FZ} {ex:dw} {σ:St} {r:List PV×St} {s:aG} {A:bU} {pos:Pos},eA fx->Pd fx.1.1 fx.2 fx.8 x es=Z8->uF O x σ=fU r->cr w ad fx F ex σ s->Rm (k+1) A->
  bV g (MM w) A (mw<|kA pos<|eB (fL x es) fx.1) (UW w ad fx F ex r.1 r.2) ji s
inductive xJ (w:bN) (ad:Ad) (fx:Fx) (F:FZ) (ex:dw) (b:Bool) (σ:St) (c:Bool) (s:aG):Prop
 |m (e:c=b) (F':FZ) (l:iD F F') (S:Nonempty<|cr w ad fx F' ex σ s)
def ly(w:bN)(g:Bool)(O:jU)(k:Nat)(t:Te):Prop:=
 ∀{ad:Ad} {fx:Fx} {e:dH} {F:FZ} {ex:dw} {σ:St} {r:Bool×St} {s:aG} {A:bU},eA fx->Ff fx.1.1 fx.2 fx.8 t e=Z8->jJ O t σ=fU r->cr w ad fx F ex σ s->Rm (k+1) A->
  bV g (MM w) A (mO (fT t e) fx.1<|dS (fT t e) fx.1) (xJ w ad fx F ex r.1 r.2) ji s
def nj(w:bN)(g:Bool)(O:jU)(k:Nat)(ts:DL):Prop:=
 ∀{ad:Ad} {fx:Fx} {es:List dH} {F:FZ} {ex:dw} {σ:St} {r:Bool×St} {stop:Bool} {s:aG} {A:bU},eA fx->EI fx.1.1 fx.2 fx.8 ts es=Z8->lK O stop ts σ=fU r->cr w ad fx F ex σ s->Rm (k+1) A->
  bV g (MM w) A (u7 (bif stop then .Or else .And) (PJ ts es) fx.1) (xJ w ad fx F ex r.1 r.2) ji s
section
variable{w:bN}{g:Bool}{O:jU}{k:Nat}{ad:Ad}{fx:Fx}{F F':FZ}{ex ex':dw}{σ σ':St}{s s':aG}{A:bU}{α:Type}
theorem zZ(h:br (MM w) A t Q ji s)(b:∀a s',Q a s'->i a s'):br (MM w) A t i E s:=cW h b λc c e=>WS e
theorem pi(h:bV g (MM w) A t Q ji s)(b:∀a s',Q a s'->i a s'):bV g (MM w) A t i E s:=aR h b λc c e=>WS e
theorem Nx(h:br (MM w) A t Q ji s)(b:∀a s',Q a s'->i a s'):bV g (MM w) A t i E s:=.of<|zZ h b
theorem bg.fr(h:bg w g O k x)(c:eA fx)(t:kB fx.1.1 fx.2 fx.8 x e=Z8)(v:fr (bQ O x σ)=fU r)(S:cr w ad fx F ex σ s)(R:Rm (k+1) A)
  (i:∀u a b,iD F a->VR w ad a r.1 u->cr w ad fx a ex r.2 b->Q u b){E:aF->aG->Prop}:bV g (MM w) A (dS (fE x e) fx.1) Q E s:=
 dq v λj v1 v=>jn v λj f d=>pi (h c t v1 S R) λu b q=>by
  subst d;obtain⟨a,l,r,⟨S⟩⟩:=q.sL f;exact i u a b l r S
theorem bg.go(h:bg w g O k x)(d:eA fx)(t:kB fx.1.1 fx.2 fx.8 x e=Z8)(v:bQ O x σ=fU r)(S:cr w ad fx F ex σ s)(R:Rm (k+1) A)
  (f:∀c a b,iD F a->ve w ad a r.1 c->cr w ad fx a (gF c++ex) r.2 b->Q c.1 b){E:aF->aG->Prop}:bV g (MM w) A (dS (fE x e) fx.1) Q E s:=
 pi (h d t v S R) λu b q=>by obtain⟨a,c,l,e,r,⟨S⟩⟩:=q;exact e▸f c a b l r S
theorem lU.go(h:lU w g O k x)(c:eA fx)(t:Pd fx.1.1 fx.2 fx.8 x es=Z8)(v:uF O x σ=fU r)(S:cr w ad fx F ex σ s)(R:Rm (k+1) A)
  (d:∀u a b,iD F a->fP w ad a r.1 u->cr w ad fx a ex r.2 b->Q u b){E:aF->aG->Prop}:bV g (MM w) A (mw<|kA pos<|eB (fL x es) fx.1) Q E s:=
 pi (h c t v S R) λu b q=>by obtain⟨a,l,r,⟨S⟩⟩:=q;exact d u a b l r S
theorem ly.go(h:ly w g O k x)(c:eA fx)(t:Ff fx.1.1 fx.2 fx.8 x e=Z8)(v:jJ O x σ=fU r)(S:cr w ad fx F ex σ s)(R:Rm (k+1) A)
  (d:∀a b,iD F a->cr w ad fx a ex r.2 b->Q r.1 b){E:aF->aG->Prop}:bV g (MM w) A (mO (fT x e) fx.1<|dS (fT x e) fx.1) Q E s:=
 pi (h c t v S R) λu b q=>by obtain⟨e,a,l,⟨S⟩⟩:=q;exact e▸d a b l S
theorem lA(a:eA fx)(h:(x,i)∈fx.2):(x==("__debug__":eT))=Z7:=(a.2 x i h).1
theorem Rm.one(R:Rm (k+1) A):Rm 1 A:=⟨by have:=R.1;exact c9 (.s<|.a .A<|.m 4 .i) (.n 990) (.z (.s<|.a .A<|.m 4<|.s .B)<|.n 990) rfl this,by have:=R.2;exact c9 (.s<|.a .A<|.m 100 .i) (.n 9800) (.z (.s<|.a .A<|.m 100<|.s .B)<|.n 9800) rfl this,R.3⟩
theorem TR:bg w g O k<|.i i:=λb b v S b=>by injection v with a;subst a;exact .of<|mQ<|bE.int<|S.tok _
theorem R8:bg w g O k<|.h b:=λc c v S c=>by injection v with a;subst a;exact .of<|wpAny_Constant_bool<|bE.bool S
theorem Rf:bg w g O k .none:=λb b v S b=>by injection v with a;subst a;exact .of<|PySem.wpAny_Constant_none<|bE.val S rfl
theorem LD:bg w g O k<|.v i:=λb t v S a=>jn v λa c e=>by
 subst e;exact g9 (Nx (Kp b S (Bz t) c) λa a q=>q.VK)<|lA b<|Bz t
theorem VO:bg w g O k<|.D i:=λa t v S b=>g9 (.of<|Ml a S (Bz t) v)<|lA a<|Bz t
theorem SF(P:eY):∃o,(KF P).lookup 437=fU o/\rx ((Hf.zipIdx 785).map λp=>.int p.1 p.2) o:=⟨_,rfl,_,rfl⟩
theorem PG:∀{is:List Int} {n:Nat},fP w ad F (is.map PV.i)<|(is.zipIdx n).map λp=>.int p.1 p.2:=by
 intro is;cases is with
 |nil=>intro _;exact dN.2 rfl
 |cons _ _=>intro _;exact PG.cons<|pa.2 ⟨_,rfl⟩
theorem QE:bg w g O k<|.g n:=λ{ad fx e F ex σ r s A} OK t v S R=>jn v λp h m=>by
 subst m;obtain⟨f,j⟩:=an t;have f:=dG f;have gl:=V5 w.2;simp only [az,dP,jz.injEq,and_true] at gl;have q:∀i∈ay 4,(uU i==("__debug__":eT))=Z7:=by decide+kernel
 refine g9 (bV.of ?_)<|q n<|a9.2 f
 match n,f with
 |0,_=>(injection h with a;subst a);exact qi OK S.B j gl.1<|bE.int S
 |1,_=>(injection h with b;subst b);exact qi OK S.B j gl.2.1<|bE.int S
 |2,_=>(injection h with c;subst c);exact qi OK S.B j gl.2.2.1<|bE.int S
 |3,_=>injection h with d;subst d;refine bO (SF w.2) λo l u=>qi OK S.B j gl.2.2.2<|bE.val S<|nZ.2 ⟨by decide,ff 437 _ ⟨rfl,⟨o,S.8.1.2 _ _ l,u⟩,PG⟩⟩
theorem UB(i:bg w g O k l)(j:bg w g O k r):bg w g O k<|.b op l r:=
 λb t v S R=>dq v λa v1 v=>dq v λa v2 v=>jn v λa h f=>Po<|i.fr b (an t).1 v1 S R λa a a m n d=>j.fr b (an t).2 v2 d R λa a a c o e=>Nx (Qk h (n.le c) o e) λa a q=>f▸q.le (m.trans c)
theorem TZ(e:bg w g O k x):bg w g O k<|.x x:=
 λb t v S R=>dq v λa v1 v=>jn v λa hi d=>Hq (e.fr b t v1 S R λa a a f h c=>by
  subst d;obtain⟨u,rfl⟩:=tR hi h;exact .of<|PyProof.Rows.neg_int<|(bE.int<|c.tok _).le f)
theorem vW:MF op (fE x e)=Z7:=by cases x<;>rfl
theorem XD(j:bg w g O k l)(m:bg w g O k r):bg w g O k<|.z op l r:=
 λb t v S R=>dq v λa v1 v=>dq v λa v2 v=>jn v λa i f=>
  D3 (j.fr b (an t).1 v1 S R λa a a n o e=>m.fr b (an t).2 v2 e R λa a a d p c=>Nx (Mf i (o.le d) p c R.one) λa a h=>by
   obtain⟨rfl,rfl⟩:=h;subst f;exact(bE.bool c).le<|n.trans d) vW
theorem cw(j:bg w g O k l)(m:bg w g O k r):ly w g O k<|.c op l r:=
 λb t v S R=>dq v λa v1 v=>dq v λa v2 v=>jn v λa i f=>
  oJ (j.fr b (an t).1 v1 S R λa a a n o e=>m.fr b (an t).2 v2 e R λa a a d p c=>Nx (Mf i (o.le d) p c R.one) λa a h=>by
   obtain⟨rfl,rfl⟩:=h;subst f;exact .of<|BM ⟨rfl,_,n.trans d,⟨c⟩⟩) vW
theorem T0(o:bg w g O k l)(p:bg w g O k r):bg w g O k<|.y l r:=
 λh t v S R=>dq v λe v1 v=>dq v λe n v=>
  T3 (o.fr h (an t).1 v1 S R λe e e j m f=>Nx (BX n m f) λc s i=>by
   refine C5 i λb tk d=>?_;clear i;subst b d;cases c with
   |true=>(injection v with a;subst a);exact(bE.val (f.tok _) m).le j
   |false=>exact pi (p h (an t).2 v (f.tok _) R) λe e q=>q.le j)
theorem TG(e:ly w g O k t)(f:bg w g O k x)(h:bg w g O k y):bg w g O k<|.p t x y:=
 λb t v S R=>dq v λr v1 v=>OC (e.go b (an t).1 v1 S R λa a d c=>by
  cases hc:r.1 with
  |true=>rw[hc] at v;exact pi (f b (an (an t).2).1 v c R) λa a q=>q.le d
  |false=>rw[hc] at v;exact pi (h b (an (an t).2).2 v c R) λa a q=>q.le d)
theorem nP(rest:List dH)(env:mR):eB (fE x e::rest) env=(Z7,dS (fE x e) env)::eB rest env:=by cases x<;>rfl
theorem Xw:lU w g O k .n:=λb b v S b=>by injection v with a;subst a;exact rA ⟨_,iD.nv,dN.2 rfl,⟨S⟩⟩
theorem J5(i:bg w g O k x)(h:lU w g O k r):lU w g O k<|.c x r:=
 λb t v S R=>dq v λa v1 v=>jn v λa v2 f=>nu (i.fr b (an t).1 v1 S R λa a a j l d=>h.go b (an t).2 v2 d R λa a a c m e=>by
  subst f;exact⟨_,j.trans c,m.cons<|l.le c,⟨e⟩⟩) (nP _ _)
end
section
variable{w:bN}{g:Bool}{O:jU}{k:Nat}{ad:Ad}{fx:Fx}{F F':FZ}{ex ex':dw}{σ σ':St}{s s':aG}{A:bU}{α:Type}
noncomputable abbrev Fx.pinned(fx:Fx)(v:Nat)(u:aF):Fx:={fx with pin:=(v,u)::fx.9}
theorem eA.pinned(a:eA fx)(h:v<fx.8.2):eA<|fx.pinned v u:=
 ⟨a.1,a.2,a.3,a.4,a.5,a.6,a.7,a.8,a.9,λi x d=>by
  rcases ax.1 d with e|e
  .injection e with b c;subst b c;exact h
  .exact a.10 i x e,a.11,a.12⟩
noncomputable def cr.vy(S:cr w ad fx F ex σ s)(hc:S.1[v]?=fU c):cr w ad (fx.pinned v c.1) F ex σ s:=
 ⟨S.1,S.2,S.3,S.4,S.5,λi u k lv g h j f=>by
  rcases ax.1 k with e|e
  .injection e with a b;subst a b;rw[hc] at f;injection f with d;subst d;rfl
  .exact S.6 i u e lv g h j f,S.7,S.8⟩
noncomputable def cr.zB(S:cr w ad (fx.pinned v u) F ex σ s):cr w ad fx F ex σ s:=
 ⟨S.1,S.2,S.3,S.4,S.5,λi b a=>S.6 i b<|fj _ a,S.7,S.8⟩
theorem sA(h:t9 σ v=Z8):∃lv,σ.1[v]?=fU lv/\lv≠.u:=by
 unfold t9 at h;cases e:σ.1[v]? with
 |none=>rw[e] at h;injection h
 |some lv=>rw[e] at h;exact⟨lv,rfl,λe=>by subst e;injection h⟩
theorem mT(a:eA fx)(S:cr w ad fx F ex σ s)(d:(x,i)∈fx.2)(hi:σ.1[i]?=fU lv)(b:lv≠LV.u)
  (h:∀c,S.1[i]?=fU c->ve w ad F lv c->Q c.1 s):bV g (MM w) A (ue fx.1 x) Q E s:=.of<|S.load a d hi b h
theorem LG(f:∀o i,subscripted slice Z7 o i=operate [o,i] (oZ o i))
  (h:bV g (MM w) A (dS value env) (λo c=>bV g (MM w) A (dS slice env) (λi b=>∃T id,b.TypeIs o T/\fp (.type T) "__getitem__"=pure (fU<|.builtin id)/\br (MM w) A (oZ o i) Q E b) E c) E s):
  bV g (MM w) A (dS (.Subscript value slice pos) env) Q E s:=by
 refine v8<|aR h (λo c h₁=>aR h₁ (λi b j=>?_) λa a x=>x) λa a x=>x;refine cU j λT id hT e d=>?_;exact .of<|kba_turn (value':=PySem.Expr.Name (aa "_") ⟨0,0,0,0⟩) (λa=>rfl)<|subscriptTail_builtin hT e d (f o i) λa=>rfl
theorem LU(o i:aF):subscripted (fE x e) Z7 o i=operate [o,i] (oZ o i):=by cases x<;>rfl
theorem Qp:fp (.type "tuple") "__getitem__"=pure (fU<|.builtin "tuple.__getitem__"):=PySem.F.slot_tuple_getitem.1
theorem AA:fp (.type "list") "__getitem__"=pure (fU<|.builtin "list.__getitem__"):=list_getitem_lookup
theorem yA{a:bW}{vs:List aF}{b:Int}{t:Tok}(e:s.1.IsList a vs.toArray)(hi:td vs.length b=fU n)(f:vs[n]?=fU v)(h:Q v s):
  br (MM w) A (oZ (.ref a)<|.int b t) Q E s:=by
 obtain⟨c,hi⟩:=qp hi;have c:=dG c;unfold aq at c;unfold DE at hi;by_cases d:b<0
 .rw[bf d] at hi;by_cases hc:0<=b+↑vs.length/\b+↑vs.length<↑vs.length
  .simp only [hc,and_self,decide_true,Bool.and_true,if_true,fU.injEq] at hi;subst hi;exact wpAny_getItem_list_neg e d (by simp;omega) (dZ (by decide) c.1) (by simpa using f) h
  .simp at hi;exact bq hi.1 hc
 .rw[aK d] at hi;by_cases hc:0<=b/\b<↑vs.length
  .simp only [hc,and_self,decide_true,Bool.and_true,if_true,fU.injEq] at hi;subst hi;exact wpAny_getItem_list e hc.1 (oh c.2<|by decide) (by simpa using f) h
  .simp at hi;exact bq hi.1 hc
theorem Pa{a:bW}{vs:List aF}{b:Int}{t:Tok}(d:IsTup s.1 a vs.toArray)(hi:td vs.length b=fU n)(e:vs[n]?=fU v)(h:Q v s):
  br (MM w) A (oZ (.ref a)<|.int b t) Q E s:=by
 obtain⟨c,hi⟩:=qp hi;have c:=dG c;unfold aq at c;exact PyProof.Rows.getItem_tuple d (dZ (by decide) c.1) (oh c.2<|by decide) (by simpa using hi) (by simpa using e) h
theorem IsTup.of(x:∃o,h.get? a=fU o/\rx vs o):IsTup h a vs.toArray:=by refine oP x λo e n b=>?_;subst b;exact⟨_,e,rfl,_,rfl⟩
theorem cr.slotAt(S:cr w ad fx F ex σ s){v:Nat}{P:OP}(hc:S.1[v]?=fU ⟨.ref a,fU P⟩):∃o,s.1.get? a=fU o/\P o:=
 S.8.at (aw _<|aD _<|pB hc _<|aD _<|bl.2 rfl)
theorem Lw(h:On lv=fU l):lv=.o l:=by cases lv<;>cases h;rfl
theorem UC(h:On lv=fU l)(r:ve w ad F lv c):l.length<=aq/\∃a vs,c=⟨.ref a,fU<|dj vs⟩/\fP w ad F l vs:=(Lw h▸r:ve w ad F (.o l) c)
theorem cr.listAt{v:Nat}{u:aF}{l:List PV}(S:cr w ad (fx.pinned v u) F ex σ s)(h:Aa σ v=fU l):∃lv a vs,σ.1[v]?=fU lv/\On lv=fU l/\S.1[v]?=fU ⟨.ref a,fU<|dj vs⟩/\u=.ref a/\l.length<=aq/\fP w ad F l vs/\∃o,s.1.get? a=fU o/\dj vs o:=
 dq h λlv f b=>by
  refine ak λj=>bO (S.4.get f) λc hc i=>lg (UC b i) λg a vs d k=>?_;subst d;refine j<|(ou lv a vs ⟨f,b,hc,(S.6 v u df _ _ f (λe=>by subst e;injection b) hc).symm,g,k,S.slotAt hc⟩)
theorem Tk{v:Nat}(hi:bg w g O k i):bg w g O k<|.k v i:=λ{ad fx e F ex σ r s A} OK t j S R=>by
 obtain⟨ho,j⟩:=qp j;refine bO (sA ho) λN G n0=>?_;have D:=Bz (an (an t).2).1;refine dq j λy v1 j=>dq j λl J j=>jn j λp d H=>LG LU<|g9 (mT OK S D G n0 λc hc Q=>hi.fr (fx:=fx.pinned v c.1) (OK.pinned<|dG (an t).1) (an (an t).2).2 v1 (S.vy hc) R λf f f M P B=>?_)<|lA OK D;subst H;refine wq d (λh=>nomatch h) λT el d=>?_;injection el with m;subst m
 refine dq d λb I d=>dq d λn L d=>?_;obtain⟨tk,rfl⟩:=tR I P;refine rc (B.listAt J) λf a vs f f f q f E o=>?_;have C:=dj.isList o;refine bO (E.get d) λx u z=>Rr q<|(ff ("list") _ ⟨C.typeIs,AA,yA C (E.length▸L) u<|(bE.val B.zB z).le M⟩)
theorem VR.part(h:VR w ad F p v)(e:AP p=fU x):IsPart v x:=by
 unfold AP at e;cases b:Pb p with
 |true=>rw[b] at e;injection e with a;subst a;cases Ga b;cases(h:v=.none);exact .none
 |false=>rw[b] at e;exact jn e λi hi e=>by subst e;obtain⟨t,rfl⟩:=tR hi h;exact .int _ _
theorem Is{e f:aF}{lo hi:Option Int}{l:List PV}(S:cr w ad fx F ex σ s)(fa:n7 F a<|dj vs)(d:fP w ad F l vs)(c:l.length<=aq)
  (g:s.1.IsSliceOf sl e f .none)(pl:IsPart e lo)(h:IsPart f hi):
  br (MM w) A (oZ (.ref a)<|.ref sl) (bE w ad fx F ex (.o<|(l.drop<|lo.elim 0<|jG l.length).take<|hi.elim l.length (jG l.length)-lo.elim 0 (jG l.length)) σ) ji s:=by
 have b:=d.length;refine wpAny_getItem_list_slice (dj.isList<|fa.get S) g pl h .none (by simp) ?_ (by simp only [bF];exact hZ<|b▸c);rw[slicePick_plain];simp only [bF,<-b];refine bE.newList S ?_<|fP.take<|fP.drop d;simp only [cI,b9];exact gy .A .B (.o .C .B<|.o .A .D<|.z .D .C) rfl c (gC _ _) (bk _ _)
theorem DY{sl:bW}{l:List UInt8}{t:Tok}{c d:aF}{lo hi:Option Int}(S:cr w ad fx F ex σ s)(a:l.length<=aq)
  (e:s.1.IsSliceOf sl c d .none)(pl:IsPart c lo)(f:IsPart d hi):
  br (MM w) A (oZ (.bytes l.toArray t)<|.ref sl) (bE w ad fx F ex (.f<|.b<|(l.drop<|lo.elim 0<|jG l.length).take<|hi.elim l.length (jG l.length)-lo.elim 0 (jG l.length)) σ) ji s:=by
 refine getItem_meets (typeIs_bytes _ _ _) (by decide) FB.slot_bytes_getitem FB.entry_bytes_getitem (FB.args_bytes_getitem_2 _ _) (KBc.meets_slice2 l.toArray t sl pl f) ⟨e,?_,λb k=>?_⟩
 .refine ao (KBc.size_picked_le _ _ _) ?_;simp only [bF];exact hZ a
 .show bE w ad fx F ex _ σ (.bytes _ b) {s with toks:=k};rw[KBc.picked_eq];simp only [bF];refine bE.val (S.tok k) (rU.2 ⟨?_,b,by simp⟩);simp only [cI,b9];exact gy .A .B (.o .C .B<|.o .A .D<|.z .D .C) rfl a (gC _ _) (bk _ _)
theorem sZ{h:qA}:(h.push {cls:=.type "slice",data:=.fields #[l,u,.none]}).IsSliceOf h.1.size l u .none:=Heap.IsSliceOf.new ..
theorem Od{p x y:PV}{o l u:aF}(h:wy p x y=fU lv)(k:VR w ad F p o)(m:VR w ad F x l)(n:VR w ad F y u)(S:cr w ad fx F ex σ s):
  ∃T id,({s with heap:=s.1.push {cls:=.type "slice",data:=.fields #[l,u,.none]}}:aG).TypeIs o T/\fp (.type T) "__getitem__"=pure (fU<|.builtin id)/\
   br (MM w) A (oZ o<|.ref s.1.1.size) (bE w ad fx F ex lv σ) ji {s with heap:=s.1.push {cls:=.type "slice",data:=.fields #[l,u,.none]}}:=
 have f:=S.keep (h':=s.1.push {cls:=.type "slice",data:=.fields #[l,u,.none]}) λa o e=>aZ _ e
 wq h (λh=>dq h λl e h=>jn h λr b h=>dq b λlo g b=>jn b λhi i b=>by
  subst h b;refine C5 (QS e k) λj t c=>?_;subst c;exact(ff ("bytes") _ ⟨typeIs_bytes _ _ _,FB.slot_bytes_getitem.1,DY f j sZ (m.part g)<|n.part i⟩))
   λl e h=>jn h λr b h=>dq b λlo g b=>jn b λhi i b=>by
  subst h b;refine dI (Qc e k) λj a vs d fa q=>?_;subst d;exact(ff ("list") _ ⟨(dj.isList<|fa.get f).typeIs,AA,Is f fa q j sZ (m.part g)<|n.part i⟩)
theorem Xz
  (h:bV g (MM w) A (dS value env) (λo d=>bV g (MM w) A (BH lower env) (λl e=>bV g (MM w) A (BH upper env) (λu a=>
   ∃T id,({a with heap:=a.1.push {cls:=.type "slice",data:=.fields #[l,u,.none]}}:aG).TypeIs o T/\fp (.type T) "__getitem__"=pure (fU<|.builtin id)/\
    br (MM w) A (oZ o<|.ref a.1.1.size) Q E {a with heap:=a.1.push {cls:=.type "slice",data:=.fields #[l,u,.none]}}) E e) E d) E s):
  bV g (MM w) A (dS (.Subscript value (.Slice lower upper Z9 p) pos) env) Q E s:=by
 refine v8<|aR h (λo d h₁=>OT<|aR h₁ (λl e j=>aR j (λu a c=>?_) λb b x=>x) λb b x=>x) λb b x=>x;rw[evalPart_none];refine aO<|bV.of ?_;refine cU c λT id hT i f=>?_;refine kba_turn (value':=PySem.Expr.Name (aa "_") ⟨0,0,0,0⟩) (λb=>rfl) ?_;unfold subscriptTail;refine aH<|Rr (getitemInPython_of_ne hT.not_modules)<|aH<|jg hT i ?_;have fin:br (MM w) A (operate [.ref a.1.1.size,o]<|oZ o<|.ref a.1.1.size) (λr a=>br (MM w) A (letTemporaryGo (PySem.Expr.Name (aa "_") ⟨0,0,0,0⟩) o r>>=λb=>pure r) Q E a) E {a with heap:=a.1.push {cls:=.type "slice",data:=.fields #[l,u,.none]}}:=
  wpAny_operating (cW f (λr a c=>aH<|iY rfl (bB c)) λb b x=>x)
 first
  |exact bB<|aH fin
  |exact aH<|bB<|aH fin
  |exact aH fin
theorem H6(h:rG x=Z8):x=.none:=by cases x<;>first|rfl|injection h
theorem GB{lo:Ex}(c:bg w g O k lo)(i:eA fx)(t:(rG lo||kB fx.1.1 fx.2 fx.8 lo e)=Z8){r:PV×St}(v:fr (bQ O lo σ)=fU r)(S:cr w ad fx F ex σ s)(R:Rm (k+1) A)
  {Q:aF->aG->Prop}(f:∀u b h,iD F b->VR w ad b r.1 u->cr w ad fx b ex r.2 h->Q u h){E:aF->aG->Prop}:
  bV g (MM w) A (BH (bif rG lo then Z9 else fU<|fE lo e) fx.1) Q E s:=by
 cases d:rG lo with
 |true=>
  cases H6 d;injection v with a;subst a
  rw[cond_true,evalPart_none];exact aO<|f _ F s iD.nv rfl S
 |false=>rw[d] at t;rw[cond_false,evalPart_some];exact c.fr i t v S R f
theorem TN{x lo hi:Ex}(n:bg w g O k x)(d:bg w g O k lo)(c:bg w g O k hi):bg w g O k<|.n x lo hi:=
 λb t v S R=>dq v λa v1 v=>dq v λa v2 v=>dq v λa v3 v=>jn v λa m l=>Xz (n.fr b (an t).1 v1 S R λa a a o p h=>
  GB d b (an (an t).2).1 v2 h R λa a a f r i=>GB c b (an (an t).2).2 v3 i R λa a a e s j=>
   let⟨T,id,g1,g2,g3⟩:=Od m (p.le<|f.trans e) (r.le e) s j
   (ff T id ⟨g1,g2,zZ g3 λa a q=>l▸q.le (o.trans<|f.trans e)⟩))
theorem UO(h:lU w g O k es):bg w g O k<|.t es:=λi t v S R=>dq v λf v1 v=>A7 v λc n=>M8 (h.go i t v1 S R λvs f f o e j=>by
 subst n;have a:=e.length;refine⟨hZ<|by unfold aq;exact c9 .A (.n 1048576) (.o .B (.n 100)<|.z .A .B) rfl c (eg a),?_⟩;refine ia (j.rD {cls:=.type "tuple",data:=.seq vs.toArray} rfl) λp d m b=>?_;obtain⟨l⟩:=b;exact(bE.val l<|nZ.2 ⟨by unfold aq;exact dL .A (.n 1048576) (.z .A<|.n 100) rfl c,ff _ vs ⟨rfl,⟨_,m,_,rfl⟩,e.le d⟩⟩).le<|o.trans d)
theorem Ut(h:lU w g O k es):bg w g O k<|.l es:=λe t v S R=>dq v λd v1 v=>A7 v λb i=>QM (h.go e t v1 S R λvs d d j c f=>by
 subst i;have a:=c.length;exact⟨hZ<|by unfold aq;exact c9 .A (.n 1048576) (.o .B (.n 100)<|.z .A .B) rfl b (eg a),(bE.newList f (by unfold aq;exact dL .A (.n 1048576) (.z .A<|.n 100) rfl b) c).le j⟩)
theorem xJ.le(l:iD F₀ F):xJ w ad fx F ex b σ c s->xJ w ad fx F₀ ex b σ c s
 |⟨e,F',a,S⟩=>⟨e,F',l.trans a,S⟩
theorem iA:nj w g O k .n:=λ{ad fx es F ex σ r stop s A} OK t v S R=>by
 injection v with a;subst a;cases stop
 .exact .of<|wpAny_allTrue_And_nil ⟨rfl,F,iD.nv,⟨S⟩⟩
 .exact .of<|wpAny_allTrue_Or_nil ⟨rfl,F,iD.nv,⟨S⟩⟩
theorem NS(h:ly w g O k x)(i:nj w g O k r):nj w g O k<|.c x r:=λ{ad fx es F ex σ r' stop s A} OK t v S R=>dq v λy v1 v=>by
 have key:∀{a d},iD F a->cr w ad fx a ex y.2 d->(y.1==stop)=Z7->bV g (MM w) A (u7 (bif stop then .Or else .And) (PJ r es.tail) fx.1) (xJ w ad fx F ex r'.1 r'.2) ji d:=λc b e=>by
  rw[e] at v;exact pi (i (stop:=stop) OK (an t).2 v b R) λj j q=>q.le c
 have ID:∀{a d},iD F a->cr w ad fx a ex y.2 d->(y.1==stop)=Z8->xJ w ad fx F ex r'.1 r'.2 stop d:=λ{a d} c b e=>by
  rw[e] at v;injection v with f;subst f;exact⟨rfl,a,c,⟨b⟩⟩
 cases stop with
 |false=>
  refine tK<|h.go OK (an t).1 v1 S R λa d c b=>?_;cases hc:y.1 with
  |false=>exact ID c b<|by refine Rr hc ?_;rfl
  |true=>exact key c b<|by refine Rr hc ?_;rfl
 |true=>
  refine uz<|h.go OK (an t).1 v1 S R λa d c b=>?_;cases hc:y.1 with
  |true=>exact ID c b<|by refine Rr hc ?_;rfl
  |false=>exact key c b<|by refine Rr hc ?_;rfl
theorem rz(h:nj w g O k ts):ly w g O k<|.o ts:=λa t v S R=>qE<|h (stop:=Z8) a t v S R
theorem kj(h:nj w g O k ts):ly w g O k<|.a ts:=λa t v S R=>qE<|h (stop:=Z7) a t v S R
theorem FS(h:ly w g O k t):ly w g O k<|.n t:=λb t v S R=>jn v λi v1 d=>Bu<|h.go b t v1 S R λa f e c=>d▸⟨rfl,a,e,⟨c⟩⟩
set_option tactic.hygienic true in
theorem AK(h:zX e=Z8)(env:mR)(b:DB aF):mO e env b=(do let v<-b;kH e.pos;w4 [v] (IE v)):=by cases e<;>first|rfl|exact(cJ h).elim|(rename_i op a p;cases op<;>first|rfl|exact(cJ h).elim)
theorem wr(h:bg w g O k x):ly w g O k<|.e x:=λf t v S R=>dq v λc v1 v=>jn v λc hc i=>yl (h.fr f (an t).2 v1 S R λc c c j l d=>
 Nx (BX hc l d) λm n e=>by
  refine C5 e λa tk b=>?_;clear e;subst a b;subst i;exact⟨rfl,_,j,⟨d.tok _⟩⟩) (AK (an t).1 _ _)
end
section
variable{w:bN}{g:Bool}{O:jU}{k:Nat}{ad:Ad}{fx:Fx}{F F':FZ}{ex ex':dw}{σ σ':St}{s s':aG}{A:bU}{α:Type}
theorem JQ(S:cr w ad fx F ex σ s):(s.1.1.size==j2)=Z7:=by have h:(KF w.2).lookup 500=fU _:=rfl;have a:500<s.1.1.size:=dY<|S.B.1 _ _ h;refine beq_eq_false_iff_ne.2 λe=>?_;rw[e] at a;exact bq a<|by decide
theorem Bs.is(x:Bs F y a)(b:DG F h):(TK w).1 h y a:=by refine ak λc=>?_;obtain⟨i,j,t,u,rfl,o,e,n,rfl⟩:=x;refine c<|(ou _ _ n ⟨b _ _ e,rfl,rfl,?_⟩);exact .cons (by simp[BL,Value.isInt])<|.cons (by simp[BL,Value.isInt]) .nil
theorem uE.is:∀{xs:List<|List Int×bW×aF} {l:List<|(Int×Int)×Int} {h:qA},uE F xs l->DG F h->∀x∈xs,(TK w).1 h x.1 x.2.1
 |[],[],_=>λa a x b=>by cases b
 |y::xs,e::l,h=>λr c x b=>by
  rcases ax.1 b with rfl|b
  .exact r.1.2.2.is c
  .exact r.2.is c x b
 |[],_::_,_=>λr a a a=>r.elim
 |_::_,[],_=>λr a a a=>r.elim
theorem xA(x:∃o,h.get? a=fU o/\qj w xs o)(r:uE F xs l)(b:DG F h):h.DictOfH (TK w) a xs:=by refine ak λf=>?_;obtain⟨o,e,es,ep,d,hd,he,c⟩:=x;refine f<|(ou o es ep ⟨e,d,hd,he,r.is b,c⟩)
theorem ID{e:(Int×Int)×Int}{a b:Int}(h:x=[e.1.1,e.1.2]):decide (x=[a,b])=decide (e.1=(a,b)):=by subst h;obtain⟨⟨i,j⟩,v⟩:=e;simp
theorem uE.find:∀{xs:List<|List Int×bW×aF} {l:List<|(Int×Int)×Int} {a b:Int},uE F xs l->
  (l.find? (λe=>decide (e.1=(a,b)))=Z9/\atKey xs [a,b]=Z9)\/∃e p t,l.find? (λe=>decide (e.1=(a,b)))=fU e/\atKey xs [a,b]=fU (p,.int e.2 t)
 |[],[],a,b,_=>.inl ⟨rfl,rfl⟩
 |x::xs,e::l,a,b,⟨⟨h1,⟨t,c⟩,h3⟩,r⟩=>by
  have d:=ID (a:=a) (b:=b) h1;unfold atKey;refine Rr iF<|Rr iF<|Rr d ?_;cases hd:decide (e.1=(a,b)) with
  |true=>exact .inr<|ou e x.2.1 t ⟨rfl,by simp[<-c]⟩
  |false=>exact r.find
 |[],_::_,_,_,r=>r.elim
 |_::_,[],_,_,r=>r.elim
theorem Lc{k:Int×Int}(h:Tw p=fU k):p=.a [.i k.1,.i k.2]:=
 dq h λl b h=>dq h λx c h=>dq h λi hi h=>jn h λj a e=>by
  subst e;refine Rr (Fu b)<|Rl (tI hi)<|Rl (tI a) ?_;exact Rr (LN c) rfl
theorem EU{k:Int×Int}{u:aF}(e:Tw p=fU k)(h:VR w ad F p u):∃t,u=.ref t/\Bs F [k.1,k.2] t:=by refine ak λf=>dI (nZ.1<|Lc e▸h) λd t vs a fa r=>?_;subst a;refine cU (cZ.1 r) λd d b c g=>?_;subst b;obtain⟨t1,rfl⟩:=c;obtain⟨_,_,rfl,⟨i,rfl⟩,r3⟩:=cZ.1 g;refine f ?_;cases dN.1 r3;exact⟨t,rfl,B2 k.1 k.2 t1 i ⟨rfl,fa⟩⟩
theorem Jc(R:Rm (k+1) A):(TK w).4 A.in1:=tupleKind_room_in1 (by have:=R.2;exact c9 (.s<|.s .A) (.n 9900) (.z (.s<|.a .A<|.m 100<|.s .B)<|.n 9800) rfl this)
theorem NX:fp (.type "dict") "__getitem__"=pure (fU<|.builtin "dict.__getitem__"):=PySem.F.slot_dict_getitem.1
theorem K0(h:Wy p=fU l):p=.p l:=by cases p<;>cases h;rfl
theorem Nf(h:mU p q=fU r)(G:VR w ad F p o)(H:VR w ad F q u)(S:cr w ad fx F ex σ s)(R:Rm (k+1) A):
  ∃T id,s.TypeIs o T/\fp (.type T) "__getitem__"=pure (fU<|.builtin id)/\br (MM w) A (oZ o u) (bE w ad fx F ex (.f r) σ) ji s:=
 wq h (λh=>wq h (λh=>dq h λl e h=>dq h λi hi h=>jn h λe' J L=>by
  subst L;refine bO (EU hi H) λt f kf=>?_;subst f;refine jX (z4.1<|K0 e▸G) λd xs j g fa pr=>?_;subst j;have I:=xA (fa.get S) pr S.sub;rcases pr.find (a:=i.1) (b:=i.2) with⟨y,_⟩|⟨e',p,O,y,M⟩
  .rw[J] at y;injection y
  .rw[J] at y;injection y with c;subst c
   exact(ff ("dict") _ ⟨I.typeIs,NX,wpAny_getItem_heap (Jc R) (kf.is S.sub) I M<|bE.int<|S.tok _⟩))
   λl e h=>dq h λi hi h=>dq h λn E h=>by
  refine dI (Vy e G) λN a vs m fa B=>?_;subst m;obtain⟨t,rfl⟩:=tR hi H;refine bO (B.get h) λx C D=>?_;have z:=IsTup.of<|fa.get S;exact(ff ("tuple") _ ⟨z.typeIs,Qp,Pa z (B.length▸E) C<|bE.val S D⟩))
   λl e h=>dq h λi hi h=>dq h λn E h=>by
  refine dI (Qc e G) λN a vs v fa B=>?_;subst v;obtain⟨t,rfl⟩:=tR hi H;refine bO (B.get h) λx C D=>?_;have z:=dj.isList<|fa.get S;exact(ff ("list") _ ⟨z.typeIs,AA,yA z (B.length▸E) C<|bE.val S D⟩)
theorem TM(j:bg w g O k x)(hi:bg w g O k i):bg w g O k<|.s x i:=
 λb t v S R=>dq v λa v1 v=>dq v λa v2 v=>jn v λa h f=>LG LU (j.fr b (an t).1 v1 S R λa a a l m d=>hi.fr b (an t).2 v2 d R λa a a c n e=>
  let⟨T,id,g1,g2,g3⟩:=Nf h (m.le c) n e R
  (ff T id ⟨g1,g2,zZ g3 λa a q=>f▸q.le (l.trans c)⟩))
theorem GX(u:bg w g O k x)(hd:bg w g O k d):ly w g O k<|.i x d:=
 λj t v S R=>dq v λc v1 v=>dq v λi hi v=>dq v λc v2 v=>jn v λl s r=>oJ (u.fr j (an (an t).2).1 v1 S R λc c c y z q=>hd.fr j (an (an t).2).2 v2 q R λc c c o A h=>by
  subst r;refine bO (EU hi<|z.le o) λt e kf=>?_;subst e;refine jX (z4.1<|K0 s▸A) λd xs f g0 fa pr=>?_;subst f;refine .of<|wpAny_in_heap (Jc R) (kf.is h.sub) g0 (xA (fa.get h) pr h.sub)<|.of<|BM ⟨?_,_,y.trans o,⟨h.tok _⟩⟩;rcases pr.find (a:=i.1) (b:=i.2) with⟨m,n⟩|⟨e',p,B,m,n⟩<;>refine Rr m (Rr n ?_)<;>rfl) vW
theorem bE.newD(S:cr w ad fx F ex σ s)(o:Hj)(a:o.isFreed=Z7)(b:qj w [] o):bE w ad fx F ex (.a []) σ (.ref s.1.1.size) {s with heap:=s.1.push o}:=
 ⟨F,⟨.ref s.1.1.size,fU<|qj w []⟩,iD.nv,rfl,(ff _ [] ⟨JQ S,rfl,trivial⟩),⟨S.alloc (P:=qj w []) o a b⟩⟩
theorem Sv:bg w g O k .C:=λb b v S b=>by
 injection v with a;subst a;exact .of<|wpAny_Dict_empty<|bE.newD S _ rfl (ff (#[]) 0 ⟨⟨rfl,rfl,rfl⟩,rfl,rfl,List.nodup_nil⟩)
theorem nO{h:qA}(x:∃o,h.get? a=fU o/\nW w kvs o):h.DictOf (IK w) a kvs:=by refine ak λb=>?_;obtain⟨o,e,es,ep,q⟩:=x;refine b<|(ou o es ep ⟨e,q⟩)
theorem vQ{h:qA}(x:h.DictOf (IK w) a kvs):∃o,h.get? a=fU o/\nW w kvs o:=by obtain⟨o,es,ep,e,q⟩:=x;exact⟨o,e,ff es ep q⟩
theorem cr.uS(S:cr w ad fx F ((a,P)::ex) σ s)(c:dC a s.1 h')(e:h'.get? a=fU h)(b:P' h):Nonempty<|cr w ad fx F ((a,P')::ex) σ {s with heap:=h'}:=
 ⟨⟨S.1,S.2,S.3,S.4,S.5,S.6,S.7,(S.front.upd c e b).back⟩⟩
theorem QV{i j:Int}:bg w g O k<|.B i j:=λ{ad fx e F ex σ r s A} uu uu v S uu=>by
 injection v with a;subst a;refine bV.of (wpAny_Dict_pairs (knd:=IK w) (pairs:=[(dS (.Constant (.int i) (Ku<|dk e) (dk e).pos) fx.1,do let x<-dS (.Constant (.int j) (Ku<|hd<|ka e) (hd<|ka e).pos) fx.1;kH e.pos;pure x)]) rfl (by simp) (by simp) ?_);refine evalPairs_cons<|mQ<|aH<|mQ<|aH<|wpAny_standAt<|bB<|evalPairs_nil ?_;refine⟨[(i,.int j<|s.4+1)],⟨by simp[BL,Value.isInt],rfl,trivial⟩,Heap.DictOf.new _,λh' f h=>?_⟩;have c:=S.alloc (P:=nW w []) {cls:=.type "dict",data:=.dict #[]} rfl (by refine bO (vQ (w:=w)<|Heap.DictOf.new (knd:=IK w) s.1) λo e q=>?_;rw[fD _ rfl] at e;injection e with b;subst b;exact q)
 refine bO (vQ f) λm e' l=>?_;obtain⟨d⟩:=c.uS h e' l;exact⟨F,⟨.ref s.1.1.size,fU<|nW w [(i,.int j<|s.4+1)]⟩,iD.nv,rfl,(ff _ _ ⟨JQ S,rfl,⟨⟨rfl,_,rfl⟩,trivial⟩⟩),⟨d.tok _⟩⟩
theorem vX.find:∀{xs:List<|Int×aF} {l:List<|Int×Int} {i:Int},vX xs l->
  (l.find? (λe=>decide (e.1=i))=Z9/\Hk xs i=Z9)\/∃e t,l.find? (λe=>decide (e.1=i))=fU e/\Hk xs i=fU (.int e.2 t)
 |[],[],i,_=>.inl ⟨rfl,rfl⟩
 |x::xs,e::l,i,⟨⟨a,t,b⟩,r⟩=>by
  unfold Hk;refine Rr iF<|Rr iF<|Rr a ?_;cases hd:decide (e.1=i) with
  |true=>exact .inr<|ff e t ⟨rfl,by simp[<-b]⟩
  |false=>exact r.find
 |[],_::_,_,r=>r.elim
 |_::_,[],_,r=>r.elim
end
section
variable{w:bN}{g:Bool}{O:jU}{k:Nat}{ad:Ad}{fx:Fx}{F F':FZ}{ex ex':dw}{σ σ':St}{s s':aG}{A:bU}{α:Type}{env:mR}
theorem GH(h:nX o=Z8)(name:eT)(env:mR)(b:DB aF):attributeBase o name env b=b:=by cases o<;>first|rfl|exact(cJ h).elim|(rename_i op a p;cases op<;>exact(cJ h).elim)
theorem Hg{id:String}:br M A (pg<|.builtin id) (λa b=>b=s) (λa a=>False) s:=λa a a=>rfl
theorem SH(a:apos.3=pos.1)(h:Q pos s):br M A (MH Z8 o env apos pos) Q E s:=by
 have:MH Z8 o env apos pos=pure pos:=by unfold MH;simp[a]
 refine Rr this ?_;exact bB h
theorem Fd(n:nX o=Z8)(c:apos.3=pos.1)
  (d:IL args.length (kA pos<|eB args env) []=Z8)(a:(kA pos<|eB args env).any (·.1)=Z7)
  (h:bV g (MM w) A (dS o env) (λm i=>∃f first,(∀{l:aF×List aF->aG->Prop} {pl:DB Bool},l (f,first) i->br (MM w) A (getMethod m name pl) l E i)/\
   bV g (MM w) A (mw<|kA pos<|eB args env) (λvs k=>br (MM w) A (pg f) (λj q=>q=k) (λj j=>False) k/\bV g (MM w) A (call f<|first++vs) Q E k) E i) E s):
  bV g (MM w) A (dS (.Call (.Attribute o name apos) args [] pos) env) Q E s:=by
 rw[arm_eval_Call,GH n];refine am<|aR h (λm i h₁=>am<|bH ?_) λj j e=>e;refine mE h₁ λf first p hc=>?_
 have b:IL (args.length+([]:List Keyword).length) (kA pos<|eB args env) (backToKw pos<|keywordEach [] env)=Z8:=d;unfold methodCall;refine Rr b<|am<|bJ<|bV.of<|p ?_;exact am<|bV.of<|SH c<|i0 a hc
theorem GZ{o a:dH}{name:eT}{b pos:Pos}{Q:aF->aG->Prop}{E:aF->aG->Prop}(v:nX o=Z8)(c:(b.3==pos.1)=Z8)(i:eB [a] env=[(Z7,dS a env)])
  (h:bV g (MM w) A (dS o env) (λd f=>∃T id,PlainAttrs T/\Slot T name id/\typeOf (.builtin id)=pure (.type "method_descriptor")/\f.TypeIs d T/\(∀a,d=.ref a->∃l,f.1.get? a=fU l/\l.2=Z9)/\
   bV g (MM w) A (dS a env) (λy m=>bV g (MM w) A (call (.builtin id) [d,y]) Q E m) E f) E s):
  bV g (MM w) A (dS (.Call (.Attribute o name b) [a] [] pos) env) Q E s:=by
 have j:kA pos (eB [a] env)=[(Z7,dS a env)]:=by refine Rr i ?_;rfl
 refine Fd v (beq_iff_eq.1 c) (by refine Rr j ?_;rfl) (by refine Rr j ?_;rfl)<|aR h (λd f h₁=>?_) λk k e=>e;refine sC h₁ λT id n p q r t u=>?_;refine(ff (.builtin id) [d] ⟨λ{Q' pl} hq=>getMethod_builtin r n p q t hq,?_⟩);refine Rr j<|i8<|aR u (λy m x=>mh ⟨Hg,x⟩) λk k e=>e
theorem P0(x:nX o=Z8)(c:(apos.3==pos.1)=Z8)(j:eB [a,b] env=[(Z7,dS a env),(Z7,dS b env)])
  (h:bV g (MM w) A (dS o env) (λd i=>∃T id,PlainAttrs T/\Slot T name id/\typeOf (.builtin id)=pure (.type "method_descriptor")/\i.TypeIs d T/\(∀a,d=.ref a->∃l,i.1.get? a=fU l/\l.2=Z9)/\
   bV g (MM w) A (dS a env) (λy m=>bV g (MM w) A (dS b env) (λz n=>bV g (MM w) A (call (.builtin id) [d,y,z]) Q E n) E m) E i) E s):
  bV g (MM w) A (dS (.Call (.Attribute o name apos) [a,b] [] pos) env) Q E s:=by
 have k:kA pos (eB [a,b] env)=[(Z7,dS a env),(Z7,dS b env)]:=by refine Rr j ?_;rfl
 refine Fd x (beq_iff_eq.1 c) (by refine Rr k ?_;rfl) (by refine Rr k ?_;rfl)<|aR h (λd i h₁=>?_) λf f e=>e;refine sC h₁ λT id p q r t u v=>?_;refine(ff (.builtin id) [d] ⟨λ{Q' pl} hq=>getMethod_builtin t p q r u hq,?_⟩);refine Rr k<|i8<|aR v (λy m B=>i8<|aR B (λz n C=>mh ⟨Hg,C⟩) λf f e=>e) λf f e=>e
theorem Cc(hd:(d==j2)=Z7)(a:s.1.DictOf (IK w) d xs)(b:Q ((Hk xs i).getD u) {s with toks:=s.4+1}):
  br (MM w) A (call (.builtin "dict.get") [.ref d,.int i t,u]) Q E s:=
 call_meetsIn PySem.F.slot_dict_get a.typeIs PySem.F.entry_dict_get (PySem.F.args_dict_get_3 _ _ _) (meets_dict_get_default (IK w) d (k:=i) (by simp[BL,Value.isInt]) hd u) ⟨Hk xs,a.mapOf,b⟩
theorem xd:eB [fE x e] env=[(Z7,dS (fE x e) env)]:=nP [] env
theorem PY:eB [fE x e,fE y f] env=[(Z7,dS (fE x e) env),(Z7,dS (fE y f) env)]:=by rw[nP,nP];rfl
theorem GY(r:vX xs l)(i j:Int)(u:Tok)(S:cr w ad fx F ex σ s):
  bE w ad fx F ex (.f<|.i<|getD l i j) σ ((Hk xs i).getD<|.int j u) s:=by
 unfold getD;rcases r.find (i:=i) with⟨a,b⟩|⟨e,t,a,b⟩
 .refine Rr a<|Rr b ?_;exact bE.int S
 .refine Rr a<|Rr b ?_;exact bE.int S
theorem Pt(h:vo e=Z8):nX e=Z8:=by unfold nX;refine Rr (fN h) ?_;rfl
theorem KI(h:VD p=fU l):p=.d l:=by cases p<;>cases h;rfl
theorem Rb(h:SU lv=fU l):lv=.b l:=by cases lv<;>cases h;rfl
theorem PT(h:∃o,s.1.get? d=fU o/\nW w xs o):∀a,Value.ref d=.ref a->∃c,s.1.get? a=fU c/\c.2=Z9:=λa e=>by
 injection e with b;subst b;refine GR h λo ho es ep f g=>?_
 exact⟨o,ho,f.2.1⟩
theorem R6(A:bg w g O k x)(u:bg w g O k G)(hd:bg w g O k y):bg w g O k<|.u x G y:=
 λc t v S R=>dq v λa v1 v=>dq v λl z v=>dq v λa v2 v=>dq v λi hi v=>dq v λa v3 v=>jn v λj s r=>
  have p:=an (an t).2;have f:=an p.2
  P0 (Pt (an t).1) p.1 PY (A.fr c f.1 v1 S R λa a a C D e=>by
   refine jX (rk.1<|KI z▸D) λd xs b g0 fa B=>?_;subst b;refine(ff ("dict") ("dict.get") ⟨PySem.F.plainAttrs_dict,PySem.F.slot_dict_get,PySem.F.type_dict_get,(nO<|fa.get e).typeIs,PT<|fa.get e,?_⟩);refine u.fr c (an f.2).1 v2 e R λa a a n E q=>hd.fr c (an f.2).2 v3 q R λa a a o F m=>?_;obtain⟨H,rfl⟩:=tR hi E;obtain⟨h,rfl⟩:=tR s F;exact r▸.of (Cc g0 (nO<|(fa.le<|n.trans o).get m)<|(GY B i j h<|m.tok _).le<|C.trans<|n.trans o))
theorem VW(h:SU lv=fU l)(r:ve w ad F lv c):∃a xs,(a==j2)=Z7/\c=⟨.ref a,fU<|nW w xs⟩/\vX xs l:=(Rb h▸r:ve w ad F (.b l) c)
theorem cr.Pn(S:cr w ad (fx.pinned v u) F ex σ s)(h:σ.1[v]?.bind SU=fU l):∃lv a xs,σ.1[v]?=fU lv/\SU lv=fU l/\S.1[v]?=fU ⟨.ref a,fU<|nW w xs⟩/\(a==j2)=Z7/\u=.ref a/\vX xs l/\∃o,s.1.get? a=fU o/\nW w xs o:=
 dq h λlv f b=>by
  refine ak λk=>bO (S.4.get f) λc hc i=>cU (VW b i) λa xs g d j=>?_;subst d;refine k<|(ou lv a xs ⟨f,b,hc,g,(S.6 v u df _ _ f (λe=>by subst e;injection b) hc).symm,j,S.slotAt hc⟩)
theorem Ni(I:bg w g O k T)(hd:bg w g O k G):bg w g O k<|.q v T G:=λ{ad fx e F ex σ r s A} OK t b S R=>by
 obtain⟨ho,b⟩:=qp b;obtain⟨l0,h0⟩:=cg.1 ho;have B:=an (an t).2;have u:=an B.2;have z:=Bz u.1;refine dq h0 λP D n=>dq b λa v2 b=>dq b λi hi b=>dq b λa v3 b=>dq b λj H b=>jn b λl J E=>?_;have f:=dG B.1;refine P0 rfl (an t).1 PY (g9 (mT OK S z D (λe=>by subst e;injection n) λc hc L=>?_)<|lA OK z);refine cU (VW n L) λd xs g0 m Z=>?_;subst m;refine(ff ("dict") ("dict.get") ⟨PySem.F.plainAttrs_dict,PySem.F.slot_dict_get,PySem.F.type_dict_get,(nO<|S.slotAt hc).typeIs,PT<|S.slotAt hc,?_⟩);refine I.fr (fx:=fx.pinned v<|.ref d) (OK.pinned f) (an u.2).1 v2 (S.vy hc) R λa a a M Q C=>hd.fr (fx:=fx.pinned v<|.ref d) (OK.pinned f) (an u.2).2 v3 C R λa a a N U y=>?_;obtain⟨V,rfl⟩:=tR hi Q;obtain⟨x,rfl⟩:=tR H U;refine rc (y.Pn J) λa Y W a a a a p q o=>?_;injection p with h;subst h
 exact E▸.of (Cc g0 (nO o)<|(GY q i j x<|y.zB.tok _).le<|M.trans N)
theorem Ip:∀{l:List PV} {vs:List aF} {n:Int},fP w ad F l vs->EA l=fU n->(∀y∈vs,∃c,y=.bool c)/\((vs.countP (λy=>y==.bool Z8):Nat):Int)=n:=by
 intro l;induction l with
 |nil=>intro _ n h e;cases dN.1 h;injection e with a;subst a;exact⟨λo h=>(nomatch h),rfl⟩
 |cons p l k=>
  intro _ n;exact λh e=>dq e λc hc e=>jn e λm i d=>by
   refine cU (cZ.1 h) λv r b x y=>?_;subst b;cases W4 hc x;obtain⟨f,g⟩:=k y i;subst d;exact⟨λz j=>(ax.1 j).elim (λe=>⟨c,e⟩)<|f z,by refine Rr List.countP_cons<|Rl g ?_;cases c<;>rfl⟩
theorem SP(I:bg w g O k x):bg w g O k<|.r x:=λ{ad fx e F ex σ r s A} OK t v S R=>dq v λT v1 v=>dq v λl D v=>jn v λn E B=>
 have z:=an (an t).2
 GZ (an t).1 z.1 rfl (I.go OK z.2 v1 S R λc P u L H m=>by
  subst B;refine ak λM=>lg (UC D H) λq a vs d N=>?_;subst d;have i:∃o,u.1.get? a=fU o/\dj vs o:=m.8.at<|aw _<|aw _<|aD _<|aD _<|bl.2 rfl;have C:=dj.isList i;refine oP i λo ho nn f=>?_;subst f;refine M<|(ff ("list") ("list.count") ⟨PySem.F.plainAttrs_list,PySem.F.slot_list_count,PySem.F.type_list_count,C.typeIs,λQ e=>by injection e with b;subst b;exact⟨_,ho,rfl⟩,?_⟩);refine bV.of<|PySem.wpAny_Constant_bool<|bV.of ?_;obtain⟨h,j⟩:=Ip N E;refine IJ PySem.F.slot_list_count ⟨_,ho,rfl⟩ PySem.F.entry_list_count (PySem.F.args_list_count_2 _ _) (SeqAt.list_countAt a vs.toArray nn Z9 #[] (.bool Z8) (λy=>y==.bool Z8)) ⟨ho,λy J=>?_,?_⟩
  .obtain⟨c,rfl⟩:=h y (by simpa using J);have:=SeqAt.EqAt.bool_bool (A:=A.in1) (s:=u) c Z8;cases c<;>exact this
  .show bE w ad fx F ex _ _ (.int _ _) _;refine Rr (show vs.toArray.1=vs from rfl)<|Rr j ?_;exact(bE.int<|(m.Ra (ex':=ex) (λp G=>aw _ G) λa=>by simp[je,bt]).tok _).le L)
end
noncomputable def kl:List Nat:=[127,195,289,369,432]
noncomputable def H3(c:Nat):Nat:=c-1
noncomputable def mC(P:eY)(c:Nat)(x:eT):Option aF:=nsFind (dataOf<|(KF P).lookup<|H3 c) x
theorem vm(P:eY){c:Nat}(h:c∈kl):∃nm q k0 k1 k2 k3 k5,(KF P).lookup c=fU (excClassObj nm q c (H3 c) [.type "object"] [.type "object"] Z8 [] [] Z7 Z9 Z9 k0 k1 k2 k3 k5 "object.__new__"):=by simp only [kl,ax,bj,or_false] at h;rcases h with rfl|rfl|rfl|rfl|rfl<;>exact(VB _ _ _ _ _ _ _ rfl)
theorem L7(P:eY)(h:c∈kl):∃o n,(KF P).lookup (H3 c)=fU o/\o.3=.dict (dataOf<|(KF P).lookup<|H3 c) n:=by simp only [kl,ax,bj,or_false] at h;rcases h with rfl|rfl|rfl|rfl|rfl<;>exact(ff _ _ ⟨rfl,rfl⟩)
theorem OF:∀P:eY,(kl.all λc=>(dataOf<|(KF P).lookup<|H3 c).1.all ux)=Z8:=by intro P;kernel_rfl
theorem qW.Tz(B:qW w h)(hc:c∈kl):h.Ns (H3 c)<|mC w.2 c:=by refine mE (L7 w.2 hc) λo n e d=>(ou o _ _ ⟨B.1 _ _ e,d,yp<|aU.1 (OF _) c hc,λa=>rfl⟩)
noncomputable def qg:List eT:=[aa "__getattribute__",aa "__getattr__",aa "__setattr__"]
noncomputable def pD:List eT:=[aa "made",aa "held",aa "count"]
noncomputable def lJ(c:Nat):List eT:=if c=127 then pD else dp c
theorem Ok:∀P:eY,(kl.map λc=>(qg++lJ c).map<|mC P c)=(kl.map λc=>(qg++lJ c).map λa=>Z9):=by intro P;kernel_rfl
theorem su(hc:c∈kl)(a:x∈qg++lJ c):mC P c x=Z9:=
 lX (lX (Ok P) c hc) x a
theorem UK:∀P:eY,(y8.map λp=>mC P p.1.2 p.2)=(y8.map λp=>fU<|.ref p.1.1):=by intro P;kernel_rfl
noncomputable def A4:Nat->Nat
 |127=>89|195=>185|289=>272|369=>352|_=>422
theorem Xk:∀P:eY,(kl.map λc=>mC P c<|aa "__init__")=(kl.map λc=>fU<|.ref<|A4 c):=by intro P;kernel_rfl
theorem NR(h:rM m c≠so ""):((m,c),rM m c)∈y8:=WR (b:=so "") h
noncomputable def Xp(x:eT):Bool:=(PySem.fastLookup "object" x).elim Z7 Option.isNone
theorem L6(h:Xp x=Z8):fp (.type "object") x=pure Z9:=by
 rewrite[dJ];refine Rr cj ?_;unfold Xp at h;cases e:PySem.fastLookup "object" x with
 |none=>rw[e] at h;injection h
 |some r=>rw[e] at h;cases r with
  |none=>rfl
  |some y=>injection h
theorem I3:(kl.all λc=>(lJ c).all Xp)=Z8:=by kernel_rfl
theorem Aq(hc:c∈kl)(a:x∈lJ c):fp (.type "object") x=pure Z9:=
 L6 (aU.1 (aU.1 I3 c hc) x a)
noncomputable def Be(x:eT):Bool:=(PySem.fastLookup "object" x).isSome
theorem KL(h:Be x=Z8):∃y,fp (.type "object") x=pure y:=by rewrite[dJ];refine Rr cj ?_;unfold Be at h;refine rX (cg.1 h) λr e=>⟨r,by exact Rr e rfl⟩
theorem Q0:(y8.all λp=>Be p.2)=Z8:=by kernel_rfl
theorem My:(y8.all λp=>!(lJ p.1.2).contains p.2)=Z8:=by kernel_rfl
theorem RT:(y8.all λp=>kl.contains p.1.2)=Z8:=by kernel_rfl
section
variable{w:bN}{g:Bool}{O:jU}{k:Nat}{ad:Ad}{fx:Fx}{F F':FZ}{ex ex':dw}{σ σ':St}{s s':aG}{A:bU}{α:Type}{env:mR}
theorem jh.at{h:qA}{m}(x:∃o,h.get? a=fU o/\jh m o):h.Ns1 a m:=by refine LW x λo e es ep r=>?_;exact(ou o es ep ⟨e,r⟩)
theorem jh.of{h:qA}{m}(x:h.Ns1 a m):∃o,h.get? a=fU o/\jh m o:=by refine AN x λo es ep e r=>?_;exact⟨o,e,ff es ep r⟩
theorem u1{h:qA}{c:Nat}{m:eT->Option aF}(i:∃o,h.get? x=fU o/\vC c d o)(hd:∃o,h.get? d=fU o/\jh m o)(a:d≠x):h.Inst x c m:=by refine tS i λo e b f g=>?_;exact⟨o,e,b,f,.inr ⟨d,g,a,jh.at hd⟩⟩
theorem VR.handed:∀{p:PV} {v:aF},VR w ad F p v->handedOut v=pure v:=by
 intro p;cases p with
 |none=>intro _ h;exact(h:_=_)▸rfl
 |c _=>intro _ h;exact(h:_=_)▸rfl
 |i _=>intro _ n;obtain⟨_,h⟩:=n;exact h▸rfl
 |b _=>intro _ q;obtain⟨_,_,h⟩:=q;exact h▸rfl
 |a _=>intro _ s;obtain⟨_,_,_,h,_⟩:=s;exact h▸rfl
 |l _=>intro _ u;obtain⟨_,_,_,h,_⟩:=u;exact h▸rfl
 |f _ _=>intro _ x;obtain⟨_,_,h,_⟩:=x;exact h▸rfl
 |p _=>intro _ y;obtain⟨_,_,h,_⟩:=y;exact h▸rfl
 |d _=>intro _ z;obtain⟨_,_,h,_⟩:=z;exact h▸rfl
 |e _=>intro _ A;obtain⟨_,h,_⟩:=A;exact h▸rfl
 |r _ _ _=>intro _ B;obtain⟨_,_,_,_,h,_⟩:=B;exact h▸rfl
 |o=>intro _ j;obtain⟨h,_⟩:=j;exact h▸rfl
 |m=>intro _ h;exact(h:_=_)▸rfl
 |g=>intro _ h;exact(h:_=_)▸rfl
 |t=>intro _ k;obtain⟨h,_⟩:=k;exact h▸rfl
theorem Ht(B:qW w s.1)(hc:c∈kl)(a:f∈lJ c)(I:s.1.Inst x c m)(g:m f=fU v)(b:handedOut v=pure v)(d:Q v {s with toks:=s.4+1}):
  br (MM w) A (getAttr (.ref x) f Z8) Q E s:=by
 refine lW (vm w.2 hc) λnm q k0 k1 k2 k3 k5 e=>load_attr (B.1 _ _ e) (B.Tz hc) (su hc<|by simp[qg]) (su hc<|aw _ a) (Aq hc a) I g b d
theorem wO(c:nX value=Z8)(h:bV g (MM w) A (dS value env) (λo b=>br (MM w) A (getAttr o attr Z8) Q E b) E s):
  bV g (MM w) A (dS (.Attribute value attr pos) env) Q E s:=by
 rw[arm_eval_Attribute,GH c];exact am<|aR h (λo b h₁=>am<|bH<|am<|bJ<|bV.of<|cW h₁ (λr f d=>am<|bV.of<|wpAny_letTemporaryGo<|aO d) λa a e=>e) λa a e=>e
theorem Qu(h:i<(dp c).length):c∈kl/\c≠127:=by
 by_cases a:c=195
 .subst a;decide
 by_cases b:c=289
 .subst b;decide
 by_cases d:c=369
 .subst d;decide
 by_cases e:c=432
 .subst e;decide
 unfold dp at h;split at h
 .exact bq rfl a
 .exact bq rfl b
 .exact bq rfl d
 .exact bq rfl e
 .cases h
theorem E0{c i:Nat}(h:(dp c)[i]?=fU f):c∈kl/\f∈lJ c:=
 have k:=Qu (bp.1 h).1
 ⟨k.1,by unfold lJ;refine Rr (aK k.2) ?_;exact iT h⟩
theorem GV(h:Nl p=fU (c,l)):p=.f c l:=by cases p<;>cases h;rfl
theorem Rk{x:Ex}(M:bg w g O k x):bg w g O k<|.d x c i:=
 λ{ad fx e F ex σ r s A} OK t v S R=>dq v λy v1 v=>jn v λp q H=>dq q λz N q=>by
  subst H;obtain⟨C,fs⟩:=z;refine iB (qp q) λj B=>?_;cases fN j;have E:=an (an t).2;refine wO (an t).1<|M.fr OK E.2 v1 S R λo U V P Q h=>?_;refine cU (nq.1<|GV N▸Q) λa vs b f T=>?_;subst b;refine B4 f λd m n fa I J L=>?_;refine bO (T.get B) λu G D=>?_;have l:(dp C)[i]?=fU ((dp C)[i]?.getD<|so ""):=by refine Rr (aI<|dG E.1) ?_;rfl
  exact Ht h.B (E0 l).1 (E0 l).2 (u1 (fa.get h) (I.get h) n) ((J i _ l).trans G) (VR.handed D)<|(bE.val (h.tok _) D).le P
theorem ve.handed:∀{lv:LV} {c:CL},ve w ad F lv c->lv≠.u->handedOut c.1=pure c.1
 |.u,_,_=>λb=>bq rfl b
 |.m,_,h=>λa=>(h:_=_)▸rfl
 |.f _,_,h=>λa=>h.2.handed
 |.o _,_,⟨_,_,_,h,_⟩=>λa=>h▸rfl
 |.a _,_,⟨_,_,_,h,_⟩=>λa=>h▸rfl
 |.b _,_,⟨_,_,_,h,_⟩=>λa=>h▸rfl
theorem wP(h:tD σ=Z8):σ.1[0]?=fU .m:=by
 unfold tD at h;obtain⟨sl,W⟩:=σ;cases sl with
 |nil=>injection h
 |cons x sl=>cases x<;>first|rfl|injection h
theorem cr.Ru(d:eA fx)(S:cr w ad fx F ex σ s){c:Nat}(b:fx.7=fU (c,D)):s.1.Inst ad.6 c<|S.2 D:=by refine hV (S.7 c D b) λa fa e=>u1 (fa.get S) (S.8.at<|aD _<|aw _<|aD _<|aE.2 ⟨D,(d.6 c D b).1,rfl⟩) a
theorem GC{c:Nat}(h:x∈dp c):c∈kl/\x∈lJ c:=by refine rX (List.getElem?_of_mem h) λa h=>?_;exact E0 h
theorem Ss:bg w g O k<|.j i:=λ{ad fx e F ex σ r s A} OK t v S R=>by
 have x:=Bz (an t).1;have u:=Bz (an t).2;refine mE (OK.9 _ i u) λc D f d=>iB (qp v) λl v=>jn v λy v1 G=>dq v1 λlv hi v1=>jn v1 λp m H=>wO rfl (g9 (mT OK S x (wP l) (λe=>nomatch e) λB I n=>?_)<|lA OK x);subst G H;cases(n:B=_);refine jX (S.tW hi m) λF' C J b q j=>?_;obtain⟨z⟩:=j;refine bO (S.4.get hi) λE a o=>?_;rw[b] at a;injection a with h;subst h
 exact Ht S.B (GC d).1 (GC d).2 (S.Ru OK f) (S.5 i lv C _ hi (Ba m) b<|(OK.6 c D f).2 _ i u) (o.handed<|Ba m)<|uZ.VK ⟨F',J,q,⟨z.tok _⟩⟩
theorem cr.zu(S:cr w ad fx F ex σ s)(a:σ.2.1=fU b):(∃o,s.1.get? ad.2=fU o/\xj ad b o)/\(∃o,s.1.get? ad.3=fU o/\qZ b.1 o):=by
 have h:gB ad σ.2=(ad.2,xj ad b)::(ad.3,qZ b.1)::qK ad σ.2.2:=by unfold gB;refine Rr a ?_;rfl
 have at':∀{p:bW×OP},p∈gB ad σ.2->∃o,s.1.get? p.1=fU o/\p.2 o:=λc=>S.8.at<|aw _<|aw _<|aw _ c;exact⟨at' (p:=(ad.2,xj ad b))<|h▸df,at' (p:=(ad.3,qZ b.1))<|h▸fj _ df⟩
theorem A3{m:eT->Option aF}(S:cr w ad fx F ex σ s)(a:VR w ad F .o v)(hd:∃o,s.1.get? ad.2=fU o/\jh m o):v=.ref ad.1/\s.1.Inst ad.1 127 m:=
 have h:=xM.1 a
 ⟨h.1,u1 (h.2.2.get S) hd h.2.1⟩
theorem xB(h:FJ p=Z8):p=.o:=by cases p<;>first|rfl|injection h
theorem lt3(h:f<3):f=0\/f=1\/f=2:=by revert f;decide
theorem Td(E:bg w g O k x):bg w g O k<|.e x f:=
 λ{ad fx e F ex σ r s A} OK t v S R=>dq v λy v1 v=>by
  refine iB (qp v) λho v=>dq v λb q v=>jn v λp u D=>?_;subst D;have B:=an (an t).2;refine wO (an t).1<|E.fr OK B.2 v1 S R λo J L z H c=>?_;refine iB (c.zu q) λn P=>?_;obtain⟨G,C,m,pm,hmade,⟨N,d⟩,⟨M,a⟩,_⟩:=n;refine iB (A3 c (xB ho▸H) ⟨G,C,pm⟩) λl I=>?_;subst l;have hc:127∈kl:=.head _;rcases lt3 (dG B.1) with rfl|rfl|rfl
  .injection u with h;subst h;exact Ht c.B hc (by decide+kernel) I hmade rfl ((bE.val (p:=.m) (c.tok _) rfl).le z)
  .injection u with i;subst i;exact Ht c.B hc (by decide+kernel) I d rfl ((bE.int<|c.tok _).le z)
  .injection u with j;subst j;exact Ht c.B hc (by decide+kernel) I a rfl ((bE.int<|c.tok _).le z)
end
section
variable{w:bN}{g:Bool}{O:jU}{k:Nat}{ad:Ad}{fx:Fx}{F F':FZ}{ex ex':dw}{σ σ':St}{s s':aG}{A:bU}{α:Type}{env:mR}
noncomputable def Tl:Data->Option FuncData
 |.func fd=>fU fd
 |_=>Z9
noncomputable def K3(o:Option Hj):Bool:=o.elim Z7 λo=>(Tl o.3).isSome&&o.1==.type "function"
theorem Qz:∀P:eY,(Hm.all λp=>kl.contains p.1||K3 ((KF P).lookup p.1))=Z8:=by intro P;kernel_rfl
theorem Vt:∀P:eY,(y8.all λp=>K3<|(KF P).lookup p.1.1)=Z8:=by intro P;kernel_rfl
theorem Nd(h:Tl d=fU fd):d=.func fd:=by cases d<;>cases h;rfl
theorem Gr(h:K3 o=Z8):∃c a,o=fU c/\c.3=.func a/\c.1=.type "function":=by
 cases o with
 |none=>injection h
 |some o=>refine iB (an h) λb d=>rX (cg.1 b) λa b=>(ff o a ⟨rfl,Nd b,fN d⟩)
theorem wQ(ho:s.1.get? a=fU o)(hd:o.3=.func fd):br M A (pg<|.ref a) (λb c=>c=s) (λb b=>False) s:=by unfold pg;refine aH<|k8 ho ?_;refine Rr hd<|bB rfl
theorem Dc(B:qW w s.1)(hc:c∈kl):br (MM w) A (pg<|.ref c) (λa b=>b=s) (λa a=>False) s:=by refine lW (vm w.2 hc) λnm q k0 k1 k2 k3 k5 e=>?_;have ho:=B.1 _ _ e;have hT:s.TypeIs (.ref c) "type":=⟨_,ho,rfl⟩;unfold pg;refine aH<|k8 ho ?_;simp only;refine aH<|jg hT PySem.F.lookup_type_call ?_;split<;>exact bB rfl
theorem K1(B:qW w s.1){f:Nat}(h:n9 f≠so ""):br (MM w) A (pg<|.ref f) (λb c=>c=s) (λb b=>False) s:=by
 rcases kb.1 (aU.1 (Qz w.2) _<|EN h) with a|a
 .exact Dc B<|gz.1 a
 .refine cU (Gr a) λo g e d b=>?_;exact wQ (B.1 _ _ e) d
noncomputable def fv(ad:Ad)(f:Nat):aF:=if f=0 then .ref ad.5 else .ref f
inductive zR (w:bN) (ad:Ad) (F:FZ) (L:dw) (lv:LV) (W:Wd) (v:aF) (s:aG):Prop
 |m (F':FZ) (c:CL) (l:iD F F') (e:c.1=v) (h:ve w ad F' lv c) (G:GS w ad.12 F' (gF c++(L++gB ad W)) s)
def BP(w:bN)(g:Bool)(O:jU)(k:Nat):Prop:=
 ∀{f:Nat} {ps:List PV} {W:Wd} {y:LV×Wd},O f ps W=fU y->∀{ad:Ad} {F:FZ} {L:dw} {s:aG} {A:bU} {vs:List aF},
  GS w ad.12 F (L++gB ad W) s->fP w ad F ps vs->(f=0->lQ ad F)->Rm k A->bV g (MM w) A (call (fv ad f) vs) (zR w ad F L y.1 y.2) ji s
noncomputable def cr.leW(S:cr w ad fx F ex σ s)(l:iD F F')(G:GS w ad.12 F' (dU fx S.2 S.3++(ci S.1++(ex'++gB ad h))) s'):cr w ad fx F' ex' {σ with W:=h} s':=
 ⟨S.1,S.2,S.3,S.4.le l,S.5,S.6,λc D e=>⟨(S.7 c D e).1,(S.7 c D e).2.1.le l,(S.7 c D e).2.2⟩,G⟩
theorem Rm.pred(R:Rm (k+1) A):Rm k A:=⟨by have:=R.1;exact c9 (.s<|.a .A<|.m 4 .B) (.n 990) (.z (.s<|.a .A<|.m 4<|.s .B)<|.n 990) rfl this,by have:=R.2;exact c9 (.s<|.a .A<|.m 100 .B) (.n 9800) (.z (.s<|.a .A<|.m 100<|.s .B)<|.n 9800) rfl this,R.3⟩
theorem ye(b:BP w g O k)(h:O f ps σ.2=fU r)(S:cr w ad fx F ex σ s)(j:fP w ad F ps vs)(e:f=0->lQ ad F)(R:Rm (k+1) A):
  bV g (MM w) A (call (fv ad f) vs) (bE w ad fx F ex r.1 {σ with W:=r.2}) ji s:=
 pi (b h (S.8.rg [dU fx S.2 S.3,ci S.1,ex,gB ad σ.2] (.n (.l 0)<|.n (.l 1)<|.n (.l 2)<|.l 3) (.n (.n (.l 0)<|.n (.l 1)<|.l 2)<|.l 3) rfl) j e R.pred) λv s' h'=>by
  obtain⟨F',c,l,i,d,a⟩:=h';exact⟨F',c,l,i,d,⟨S.leW l<|a.rg [gF c,dU fx S.2 S.3,ci S.1,ex,gB ad r.2] (.n (.l 0)<|.n (.n (.l 1)<|.n (.l 2)<|.l 3)<|.l 4) (.n (.l 1)<|.n (.l 2)<|.n (.n (.l 0)<|.l 3)<|.l 4) rfl⟩⟩
theorem nK:∀{x:ER} {es:List dH},(kA pos<|eB (fL x es) env).any (·.1)=Z7/\(kA pos<|eB (fL x es) env).all (λy=>!y.1)=Z8
 |.n,_=>⟨rfl,rfl⟩
 |.c x r,es=>by
  show(kA pos<|eB (fE x (hd es)::fL r es.tail) env).any _=_/\(kA pos<|eB (fE x (hd es)::fL r es.tail) env).all _=_;rw[nP];exact nK (x:=r) (es:=es.tail)
theorem NY:(Hm.all λp=>!(p.2==("__debug__":eT)))=Z8:=by kernel_rfl
theorem R4(h:n9 f≠so ""):(n9 f==("__debug__":eT))=Z7:=by have:=aU.1 NY _<|EN h;simpa only [oU] using this
theorem Qj(h:(x !=so "")=Z8):x≠so "":=bne_iff_ne.1 h
theorem TP(h:n9 f≠so ""):fv ad f=.ref f:=aK λe:f=0=>h<|by refine Rr e ?_;rfl
theorem RV(i:BP w g O k)(j:lU w g O k args):bg w g O k<|.c f args:=
 λc t v S R=>dq v λa v1 v=>jn v λa hc h=>by
  subst h;have b:=Qj (an (an t).2).1;refine gG<|g9 (.of<|qi c S.B (an t).1 (Se b) ?_)<|R4 b;refine i0 nK.1<|j.go c (an (an t).2).2 v1 S R λa a a l m d=>⟨K1 d.B b,?_⟩;rw[<-TP (ad:=_) b];exact pi (ye i hc d m (λe=>bq (e▸rfl) b) R) λa a q=>q.le l
theorem RC(S:cr w ad fx F ex σ s)(h:yN c σ.2 p=Z8)(A:((m,c),rM m c)∈y8)(r:VR w ad F p o):∃x i,o=.ref x/\s.1.Inst x c i/\i (rM m c)=Z9:=by
 have j:rM m c∉lJ c:=by have:=aU.1 My _ A;simpa using this
 unfold yN at h;cases e:Nl p with
 |some z=>rw[e] at h;obtain⟨J,fs⟩:=z;cases fN h;refine cU (nq.1<|GV e▸r) λa vs k l L=>?_;subst k;refine B4 l λd i u fa C A t=>?_;refine(ff a i ⟨rfl,u1 (fa.get S) (C.get S) u,t _ λg=>j ?_⟩);exact(GC g).2
 |none=>rw[e] at h;refine iB (an h) λD n=>iB (an n) λn E=>?_;cases fN n;refine ak λG=>rX (cg.1 E) λb q=>iB (S.zu q) λy M=>?_;obtain⟨H,B,i,pm,_,_,_,f⟩:=y;refine iB (A3 S (xB D▸r) ⟨H,B,pm⟩) λv I=>?_;subst v;refine G ?_;have g:∀x∈pD,rM m 127≠x:=λx g e=>j<|e▸g;exact(ff _ i ⟨rfl,I,f _ (g _<|.head _) (g _<|.tail _<|.head _)<|g _<|.tail _<|.tail _<|.head _⟩)
theorem Qm:(y8.all λp=>p.1.1 !=0)=Z8:=by kernel_rfl
theorem Rz(M:BP w g O k)(T:bg w g O k x)(N:lU w g O k args):bg w g O k<|.m m c x args:=
 λ{ad fx e F ex σ r s A} OK t v S R=>dq v λy v1 v=>dq v λz v2 v=>by
  refine iB (qp v) λQ v=>jn v λq hc L=>?_;subst L;have D:=an (an t).2;have E:=an D.2;have G:=an E.2;have H:=an G.2;have P:=Qj G.1;have a:=NR P;have b:c∈kl:=gz.1<|aU.1 RT _ a;have f:m≠0:=bne_iff_ne.1<|aU.1 Qm _ a;refine cU (Gr<|aU.1 (Vt w.2) _ a) λfo fd u j i=>Fd (an t).1 (fN E.1) (by unfold IL;simp only [nK.2,Bool.true_and];simp[dG D.1]) nK.1<|T.fr OK H.1 v1 S R λo Z s1 V C d=>?_;refine cU (RC d Q a C) λx mm h I n=>?_;subst h;refine(ff (.ref m) [.ref x] ⟨λ{Q' pl} hq=>?_,?_⟩)
  .refine lW (vm w.2 b) λnm q k0 k1 k2 k3 k5 J=>?_;refine rX (KL<|aU.1 Q0 _ a) λy U=>method_of (d.B.1 _ _ J) (d.B.Tz b) (su b<|by simp[qg]) (su b<|by simp[qg]) (lX (UK w.2) _ a) (d.B.1 _ _ u) i U I n hq
  .refine N.go OK H.2 v2 d R λvs F2 s2 B W p=>⟨wQ (p.B.1 _ _ u) j,?_⟩;have l:fv ad m=.ref m:=aK f;refine Rl l<|pi (ye M hc p (W.cons<|C.le B) (λe=>bq e f) R) λY Y q=>q.le<|V.trans B
end
section
variable{w:bN}{g:Bool}{O:jU}{k:Nat}{ad:Ad}{fx:Fx}{F F':FZ}{ex ex':dw}{σ σ':St}{s s':aG}{A:bU}{α:Type}{env:mR}
theorem Nm(h:Vb p=Z8):p=.t:=by cases p<;>first|rfl|injection h
set_option tactic.hygienic true in
theorem FE(h:vo e=Z8):∃x p,e=.Name x p:=by cases e<;>first|exact(ff _ _ rfl)|exact(cJ h).elim|(rename_i op a p;cases op<;>exact(cJ h).elim)
theorem Hn(b:vo f=Z8)(h:bV g (MM w) A (dS f env) (λf c=>bV g (MM w) A (IF pos f [] (kA pos<|eB args env) []) Q E c) E s):bV g (MM w) A (dS (.Call f args [] pos) env) Q E s:=by refine pK (FE b) λx p a=>?_;subst a;exact gG h
theorem O3(m:BP w g O k)(B:bg w g O k x)(n:bg w g O k a):bg w g O k<|.f x a:=
 λ{ad fx e F ex σ r s A} OK t v S R=>dq v λy v1 v=>by
  refine iB (qp v) λp v=>dq v λz v2 v=>jn v λq hc l=>Hn (an t).1<|B.fr OK (an (an t).2).1 v1 S R λo G L C D h=>?_;subst l;obtain⟨rfl,fa⟩:=pF.1<|Nm p▸D;refine i0 (by refine Rr xd ?_;rfl) ?_;refine Rr xd<|i8<|n.fr OK (an (an t).2).2 v2 h R λu H M c E d=>mh ?_;refine E8 (((fa.le c).1).get d) λo j b vB I i J hd b=>⟨wQ j hd,pi (ye (f:=0) m hc d ((dN.2 rfl).cons E) (λb=>fa.le c) R) λb b q=>q.le<|C.trans c⟩
end
section
variable{w:bN}{g:Bool}{O:jU}{k:Nat}{ad:Ad}{fx:Fx}{F F':FZ}{ex ex':dw}{σ σ':St}{s s':aG}{A:bU}{α:Type}{env:mR}{os:gv}{L:dw}
theorem cr.GW(a:eA fx)(S:cr w ad fx F ex σ s):s.1.Ns fx.1.2<|S.2 fx.1.2:=
 pj.at (S.8.at<|aD _<|aD _<|aE.2 ⟨_,a.4,rfl⟩)
theorem GS.T7(G:GS w os F L s)(h:(a,pj m)∈L)(g:∀b o,b≠a->s.1.get? b=fU o->h'.get? b=fU o)(j:h'.Ns a m):GS w os F L {s with heap:=h'}:=by
 have fa:F a=Z9:=(G.3.1 _ h).2;refine⟨G.1,λb o e=>g b o ?_<|G.2 b o e,⟨λp i=>?_,G.3.2⟩,G.4,G.5⟩
 .rintro rfl;rw[fa] at e;injection e
 .refine iB (G.3.1 p i) λc f=>?_;obtain⟨o,e,q⟩:=c;by_cases d:p.1=a
  .cases G.one i h d;exact⟨pj.of j,f⟩
  .exact⟨⟨o,g _ _ d e,q⟩,f⟩
noncomputable def cr.ext(a:eA fx)(S:cr w ad fx F ex σ s)(c:∀b o,b≠fx.1.2->s.1.get? b=fU o->h'.get? b=fU o)(d:h'.Ns fx.1.2<|S.2 fx.1.2):cr w ad fx F ex σ {s with heap:=h'}:=
 ⟨S.1,S.2,S.3,S.4,S.5,S.6,S.7,S.8.T7 (aD _<|aD _<|aE.2 ⟨_,a.4,rfl⟩) c d⟩
theorem GS.add(G:GS w os F L s)(c:GS w os F L {s with heap:=h'})(h:s.1.get? a=Z9)(e:h'.get? a=fU o)(q:P o):GS w os F ((a,P)::L) {s with heap:=h'}:=by
 have fa:F a=Z9:=by
  cases f:F a with
  |none=>rfl
  |some o=>rw[G.2 _ _ f] at h;injection h
 refine⟨c.1,c.2,⟨λp g=>?_,λb=>?_⟩,c.4,c.5⟩
 .rcases ax.1 g with rfl|g
  .exact⟨⟨o,e,q⟩,fa⟩
  .exact c.3.1 p g
 .refine Rr az<|Rr cy ?_;have k:=G.3.2 b;by_cases d:(a==b)=Z8
  .refine Rr (bf d) ?_;have d:=beq_iff_eq.1 d;have:(L.map (·.1)).count b=0:=by
    refine Rr (propext eG) ?_;intro l;refine bO (aE.1 l) λp g e=>iB (G.3.1 p g) λi n=>?_;obtain⟨m,e',_⟩:=i;have j:p.1=b:=e;rw[j,<-d,h] at e';injection e'
   refine Rr this ?_;exact ba _
  .refine Rr (aK d) ?_;exact dL (.p .A 0) .i (.z .A .i) rfl k
theorem cr.KN(a:eA fx)(S:cr w ad fx F ex σ s)(d:∀b o,b≠fx.1.2->s.1.get? b=fU o->h'.get? b=fU o)(f:h'.Ns fx.1.2<|S.2 fx.1.2)
  (c:s.1.get? D=Z9)(e:h'.get? D=fU o)(q:P o):Nonempty<|cr w ad fx F ((D,P)::ex) σ {s with heap:=h'}:=by
 exact⟨⟨S.1,S.2,S.3,S.4,S.5,S.6,S.7,(GS.add S.8 (S.ext a d f).8 c e q).back⟩⟩
theorem Gx(h:qA):h.get? h.1.size=Z9:=by
 cases e:h.get? h.1.size with
 |none=>rfl
 |some o=>exact bq (dY e)<|cB _
theorem bE.xC(c:eA fx)(S:cr w ad fx F ex σ s)(h:l.length<=aq)(i:fP w ad F l vs)
  (g:∀b o,b≠fx.1.2->s.1.get? b=fU o->h'.get? b=fU o)(a:h'.Ns fx.1.2<|S.2 fx.1.2)(f:s.1.get? D=Z9)(e:h'.get? D=fU {cls:=.type "list",data:=.seq vs.toArray n}):
  bE w ad fx F ex (.o l) σ (.ref D) {s with heap:=h',toks:=t}:=by
 obtain⟨d⟩:=S.KN c (P:=dj vs) g a f e ⟨n,rfl⟩;exact⟨F,⟨.ref D,fU<|dj vs⟩,iD.nv,rfl,⟨h,ff _ vs ⟨rfl,i⟩⟩,⟨d.tok t⟩⟩
theorem fP.ints:∀{l:List PV} {is:List Int} {vs:List aF},fP w ad F l vs->iZ l=fU is->nH vs is/\is.length=l.length
 |[],is,vs=>λh e=>by cases dN.1 h;injection e with a;subst a;exact⟨.nil,rfl⟩
 |p::l,is,vs=>λh e=>dq e λi hi e=>jn e λjs f e=>by
  subst e;refine cU (cZ.1 h) λv r b x y=>?_;subst b;obtain⟨t,rfl⟩:=tR hi x;obtain⟨c,d⟩:=y.ints f;exact⟨.cons i t c,bx ky d⟩
theorem fP.ofInts:∀{is:List Int} {vs:List aF},nH vs is->fP w ad F (is.map PV.i) vs
 |_,_,.nil=>dN.2 rfl
 |_,_,.cons i t r=>(fP.ofInts r).cons<|pa.2 ⟨t,rfl⟩
theorem H8(S:cr w ad fx F ex σ s):br (MM w) A (call (.type "range") [.int b t]) (bE w ad fx F ex (.f<|.r 0 b 1) σ) ji s:=by refine call_range_1<|ia (S.rD {cls:=.type "range",data:=.fields #[.int 0 s.4,.int b t,.int 1<|s.4+1]} rfl) λF' l e a=>?_;obtain⟨c⟩:=a;exact(bE.val (c.tok _)<|vK.2<|B2 _ _ _ _ ⟨rfl,e⟩).le l
theorem Ij(S:cr w ad fx F ex σ s):br (MM w) A (call (.type "range") [.int a t,.int b u]) (bE w ad fx F ex (.f<|.r a b 1) σ) ji s:=by refine call_range_2<|ia (S.rD {cls:=.type "range",data:=.fields #[.int a t,.int b u,.int 1 s.4]} rfl) λF' l e c=>?_;obtain⟨d⟩:=c;exact(bE.val (d.tok _)<|vK.2<|B2 _ _ _ _ ⟨rfl,e⟩).le l
theorem Iw(S:cr w ad fx F ex σ s)(hc:c=1\/c=2):br (MM w) A (call (.type "range") [.int a t,.int b u,.int c v]) (bE w ad fx F ex (.f<|.r a b c) σ) ji s:=by refine call_range_3 (by omega) ?_ (.inl<|PyProof.noPylong_small<|by omega);refine ia (S.rD {cls:=.type "range",data:=.fields #[.int a t,.int b u,.int c v]} rfl) λF' l e d=>?_;obtain⟨f⟩:=d;exact(bE.val (f.tok _)<|vK.2<|B2 _ _ _ _ ⟨rfl,e⟩).le l
theorem OR(g:eA fx)(S:cr w ad fx F ex σ s)(j:VR w ad F (.l l) v):br (MM w) A (call (.type "list") [v]) (bE w ad fx F ex (.o l) σ) ji s:=by refine dI j λi a vs d fa r=>?_;clear j;subst d;refine oP (fa.get S) λo ho n f=>?_;subst f;have c:=r.length;refine call_list_seq a (T:="list") (.inl rfl) ho rfl rfl (λh' k h e=>?_) (by simp-iota only [bF];exact hZ<|c▸i);exact bE.xC g S i r (λb o m e=>h b o e) ((S.GW g).keeps h) (Gx _) e
end
theorem HB:∀{l:List Int},AO l=Z9->l=[]
 |[],_=>rfl
theorem zQ:∀{l:List Int} {m:Int},AO l=fU m->m∈l/\∀a∈l,a<=m
 |a::r,m,h0=>by
  have h:=fU.inj h0;cases e:AO r with
  |none=>rw[e] at h;have i:=HB e;clear h0;subst i h;exact⟨.head _,λb d=>bl.1 d▸Int.le_refl _⟩
  |some j=>
   rw[e] at h;obtain⟨g,f⟩:=zQ e;rw[jZ] at h;by_cases c:j<a
   .rw[bf c] at h;subst h;exact⟨.head _,λb d=>(ax.1 d).elim (λe=>e▸Int.le_refl _) λd=>dZ (f b d)<|nB c⟩
   .rw[aK c] at h;subst h;exact⟨.tail _ g,λb d=>(ax.1 d).elim (λe=>e▸kS.1 c)<|f b⟩
section
variable{w:bN}{g:Bool}{O:jU}{k:Nat}{ad:Ad}{fx:Fx}{F F':FZ}{ex ex':dw}{σ σ':St}{s s':aG}{A:bU}{α:Type}{env:mR}
noncomputable def cr.w6(S:cr w ad fx F ex σ s)(k:Keeps s.1 h'):cr w ad fx F ex σ {s with heap:=h',toks:=t}:=(S.keep k).tok t
theorem NN(S:cr w ad fx F ex σ s)(R:Rm (k+1) A)(u:VR w ad F (.l l) v)(hi:iZ l=fU is)(B:AO is=fU m):
  br (MM w) A (call (.builtin "max") [v]) (bE w ad fx F ex (.f<|.i m) σ) ji s:=by
 refine dI u λE a vs d fa r=>?_;clear u;subst d;obtain⟨n,D⟩:=r.ints hi;obtain⟨h,y⟩:=zQ B;obtain⟨xs,e⟩:=n.allInts.items;have c:is=xs.1.map (·.1):=by refine Rl n.numsOf ?_;rewrite[<-nums_intItems];exact Rl e rfl
 have g:0<xs.size:=by
  cases is with
  |nil=>cases h
  |cons b q=>have:=bx mK c;simp at this;exact c9 (.s<|.n 0) .A (.z (.s .B) .A) rfl (el this)
 have o:=dj.isList<|fa.get S;rw[e] at o;refine max_intList R.3 o g λv h' tk C z=>?_;obtain⟨t,rfl⟩:=intItems_at C;obtain⟨x,b2⟩:=argBest_gt (numAt xs)<|xs.size-1;have key:numAt xs (argBest (λi j=>decide (numAt xs i>numAt xs j))<|xs.size-1)=m:=by
  apply Int.le_antisymm
  .apply y;refine Rr c ?_;rw[numAt_eq];exact getD_mem<|by rewrite[av];refine Rr m7 ?_;exact dT (.s .A) .B (.o .A .C<|.z (.s .C) .B) rfl x (el<|ac<|dL .i .A (.z (.s<|.n 0) .A) rfl g)
  .rw[c] at h;refine bO (mem_getD h) λj p f=>?_;subst f;rw[av,m7] at p;rw[<-numAt_eq];exact b2 j<|by exact dT .A .B (.o (.s .A) .C<|.z .C<|.s .B) rfl p (ck _ _)
 refine Rr key<|bE.int<|S.w6 z
theorem M0(S:cr w ad fx F ex σ s)(R:Rm (k+1) A):br (MM w) A (call (.builtin "max") [.int a t,.int b u]) (bE w ad fx F ex (.f<|.i<|if a<b then b else a) σ) ji s:=by
 refine max_two_ints R.3 λh' tk c=>?_;by_cases hc:a<b
 .refine Rr (bf hc)<|Rr (bf hc) ?_;exact bE.int<|S.w6 c
 .refine Rr (aK hc)<|Rr (aK hc) ?_;exact bE.int<|S.w6 c
theorem NK(S:cr w ad fx F ex σ s)(R:Rm (k+1) A):br (MM w) A (call (.builtin "min") [.int a t,.int b u]) (bE w ad fx F ex (.f<|.i<|if b<a then b else a) σ) ji s:=by
 refine min_two_ints R.3 λh' tk c=>?_;by_cases hc:b<a
 .refine Rr (bf hc)<|Rr (bf hc) ?_;exact bE.int<|S.w6 c
 .refine Rr (aK hc)<|Rr (aK hc) ?_;exact bE.int<|S.w6 c
theorem yn(S:cr w ad fx F ex σ s)(R:Rm (k+1) A)(g:VR w ad F (.l l) v)(hi:iZ l=fU is):
  br (MM w) A (call (.builtin "sum") [v]) (bE w ad fx F ex (.f<|.i is.sum) σ) ji s:=by
 refine dI g λj a vs b fa r=>?_;clear g;subst b;obtain⟨d,i⟩:=r.ints hi;obtain⟨xs,e⟩:=d.allInts.items;have c:is=xs.1.map (·.1):=by refine Rl d.numsOf ?_;rewrite[<-nums_intItems];exact Rl e rfl
 have f:=dj.isList<|fa.get S;rw[e] at f;refine sum_intListG R.3 f λh' tk m h=>?_;have key:preSum (numAt xs) xs.size=is.sum:=by rewrite[preSum_eq];exact Rr (cv<|by simp)<|Rr c rfl
 refine Rr key<|bE.int<|S.w6 h
theorem Do(S:cr w ad fx F ex σ s)(d:VR w ad F (.l l) v):br (MM w) A (call (.builtin "len") [v]) (bE w ad fx F ex (.f<|.i l.length) σ) ji s:=by refine dI d λe a vs b fa r=>?_;clear d;subst b;have c:=r.length;unfold aq at e;refine Calls.call_len_list (dj.isList<|fa.get S) (by simp only [bF];omega) ?_;simp only [bF,<-c];exact bE.int<|S.tok _
theorem A8(S:cr w ad fx F ex σ s)(c:VR w ad F (.b l) v):br (MM w) A (call (.builtin "len") [v]) (bE w ad fx F ex (.f<|.i l.length) σ) ji s:=by refine C5 c λb t a=>?_;clear c;subst a;unfold aq at b;refine PySem.W.len_bytes (by simp only [bF];exact dL .A (.n 1099511627776) (.z .A<|.n 1048576) rfl b) ?_;simp only [bF];exact bE.int<|S.tok _
theorem ES(S:cr w ad fx F ex σ s)(d:VR w ad F (.e l) v):br (MM w) A (call (.builtin "len") [v]) (bE w ad fx F ex (.f<|.i l.length) σ) ji s:=by refine ak λg=>bO d λa b fa=>?_;clear d;subst b;refine ia (fa.get S) λo ho c e=>?_;obtain⟨hex,es,ep,t,hd,_,_,f,hf⟩:=c;refine g ?_;unfold aq at e;refine call_len_set ho hex hd hf (by omega)<|Rr f<|bE.int<|S.tok _
theorem DU(n:eA fx)(S:cr w ad fx F ex σ s)(R:Rm (k+1) A)(t:VR w ad F (.l l) v)(hi:iZ l=fU is)(p:is.length<=1000):
  br (MM w) A (call (.type "set") [v]) (bE w ad fx F ex (.f<|.e<|firstMet (λi=>is.getD i 0) is.length) σ) ji s:=by
 refine dI t λC a vs d fa r=>?_;clear t;subst d;obtain⟨y,q⟩:=r.ints hi;have c:=r.length;have g:vs.length=is.length:=by exact aj (ao (eg c)<|eg q)<|ao (el q)<|el c
 refine call_set_list R.3 (dj.isList<|fa.get S) (ns:=is) (by simpa using y) (by simp only [bF];unfold scanBound;exact c9 (.s<|.s .A) (.n 4096) (.o .B (.n 1000)<|.z .A .B) rfl p (el g)) λh' tk hS z=>?_;simp only [bF,g] at hS;refine bO hS.objOf λo ho m=>?_;have f:∀b o,s.1.get? b=fU o->h'.get? b=fU o:=λb o e=>z b o (dY e) e;have j:=firstMet_length_le (λi=>is.getD i 0) is.length;obtain⟨u⟩:=S.KN n (P:=λo=>o.SetObjOf (IK w) (λk=>(firstMet (λi=>is.getD i 0) is.length).any (·==k)) (firstMet (λi=>is.getD i 0) is.length).length/\(firstMet (λi=>is.getD i 0) is.length).length<=aq)
  (λb o D e=>f b o e) ((S.GW n).keeps f) (Gx _) ho ⟨m,by unfold aq;exact c9 .A (.n 1048576) (.o .B (.n 1000)<|.z .A .B) rfl p j⟩
 refine ia (cr.BZ u) λF' B h x=>(bE.val ((Classical.choice x).tok tk)<|AE.2 ⟨_,rfl,h⟩).le B
theorem A1:∀{is:List Int} {b:List UInt8},qr is=fU b->(∀n∈is,0<=n/\n<256)/\byteArr is=b.toArray/\b.length=is.length:=by
 intro is;induction is with
 |nil=>intro b h;injection h with c;subst c;exact⟨λo h=>(nomatch h),rfl,rfl⟩
 |cons i r l=>
  intro b h;obtain⟨hi,h⟩:=qp h;refine jn h λm j e=>?_;subst e;refine hV (l j) λd f g=>⟨λn k=>(ax.1 k).elim (λe=>e▸dG hi)<|d n,?_,bx ky g⟩;have a:=bx Array.toList f;simp only [byteArr] at a⊢
  simp at a⊢
  first|exact a|simp[a]
theorem uq(S:cr w ad fx F ex σ s)(R:Rm (k+1) A)(f:VR w ad F (.l l) v)(hi:iZ l=fU is)(m:qr is=fU b):
  br (MM w) A (call (.type "bytes") [v]) (bE w ad fx F ex (.f<|.b b) σ) ji s:=by
 refine dI f λe a vs c fa r=>?_;clear f;subst c;obtain⟨j,o⟩:=r.ints hi;refine hV (A1 m) λg h i=>?_;have d:=r.length;refine call_bytes_ints (dj.isList<|fa.get S) j g (hZ<|by exact ao (eg d) e) R.3 λh' t k n=>Rr h<|bE.val (S.w6 n)<|rU.2 ⟨by exact gy .A .B (.o .C .B<|.o .D .C<|.z .A .D) rfl e (el o) (el i),t,rfl⟩
theorem Ef(S:cr w ad fx F ex σ s)(d:VR w ad F (.a l) v):br (MM w) A (call (.builtin "isinstance") [v,.type "tuple"]) (bE w ad fx F ex (.f<|.c Z8) σ) ji s:=by refine dI d λe a vs b fa r=>?_;clear d;subst b;refine oP (fa.get S) λo ho n c=>?_;subst c;exact IsiPair.tuple_tuple ho rfl (bE.bool S)
theorem Eb(S:cr w ad fx F ex σ s)(a:VR w ad F (.i i) v):br (MM w) A (call (.builtin "isinstance") [v,.type "tuple"]) (bE w ad fx F ex (.f<|.c Z7) σ) ji s:=by obtain⟨t,rfl⟩:=a;exact IsiPair.int_tuple<|bE.bool<|S.tok _
end
section
variable{w:bN}{g:Bool}{O:jU}{k:Nat}{ad:Ad}{fx:Fx}{F F' F₀:FZ}{ex ex':dw}{σ σ':St}{s s':aG}{A:bU}{α:Type}{env:mR}
inductive DM (w:bN) (ad:Ad) (F:FZ) (ps:List PV) (o:Hj):Prop
 |l (a:bW) (vs:List aF) (i:Nat) (hc:o.1=.type "list_iterator") (hd:o.3=.fields #[.ref a,.int i 0]) (fa:n7 F a<|dj vs) (r:fP w ad F ps<|vs.drop i)
 |t (a:bW) (vs:List aF) (i:Nat) (hc:o.1=.type "tuple_iterator") (hd:o.3=.fields #[.ref a,.int i 0]) (fa:n7 F a<|rx vs) (r:fP w ad F ps<|vs.drop i)
 |a (x c:Int) (n:Nat) (ho:o={cls:=.type "range_iterator",dict:=Z9,data:=.fields #[rawInt x,rawInt n,rawInt c],slots:=#[]}) (hps:ps=(intsFrom x c n).map PV.i)
 |b (b:List UInt8) (t:Tok) (i:Nat) (hc:o.1=.type "bytes_iterator") (hd:o.3=.fields #[.bytes b.toArray t,.int i 0]) (hps:ps=(b.drop i).map λu=>PV.i u.toNat)
 |r (a:bW) (vs:List aF) (hc:o.1=.type "list_reverseiterator") (hd:o.3=.fields #[.ref a,rawInt<|(ps.length:Int)-1]) (fa:n7 F a<|dj vs) (r:fP w ad F ps (vs.take ps.length).reverse)
theorem dj.at'(f:n7 F a<|dj vs)(b:DG F h):h.IsList a vs.toArray:=by refine bO f λo e q=>?_;exact dj.isList ⟨o,b _ _ e,q⟩
theorem rx.at'(f:n7 F a<|rx vs)(b:DG F h):h.IsTuple a vs.toArray:=by refine bO f λo e q=>?_;exact rx.Ov ⟨o,b _ _ e,q⟩
theorem vO{l r:List α}{v:α}{i:Nat}(h:l.drop i=v::r):l[i]?=fU v/\l.drop (i+1)=r:=by
 constructor
 .have:=bx (·[0]?) h;simpa using this
 .have:=bx List.tail h;simpa using this
theorem drop_nil{l:List α}{i:Nat}(h:l.drop i=[]):l[i]?=Z9:=by have:l.length<=i:=jQ.1 h;exact ch this
theorem cr.tA(S:cr w ad fx F ((a,P)::ex) σ s):∃o,s.1.get? a=fU o/\P o:=
 S.8.at (aw _<|aw _<|aD _ df)
theorem cr.tE(S:cr w ad fx F ((a,P)::ex) σ s)(b:iR a s.1 h'):Nonempty<|cr w ad fx F ex σ {s with heap:=h'}:=
 ⟨⟨S.1,S.2,S.3,S.4,S.5,S.6,S.7,S.front.TW b⟩⟩
theorem FQ{p:PV}{ps:List PV}(S:cr w ad fx F ((I,DM w ad F₀ (p::ps))::ex) σ s)(M:iD F₀ F):
  br (MM w) A (u8<|.ref I) (λr s'=>∃v,r=fU v/\VR w ad F p v/\Nonempty (cr w ad fx F ((I,DM w ad F₀ ps)::ex) σ s')) ji s:=by
 have y:DG F₀ s.1:=λa o e=>S.sub _ _<|M a o e;refine bO S.tA λo ho O=>?_;rcases O with⟨a,vs,i,hc,hd,fa,r⟩|⟨a,vs,i,hc,hd,fa,r⟩|⟨x,c,n,rfl,hps⟩|⟨b,t,i,hc,hd,hps⟩|⟨a,vs,hc,hd,fa,r⟩
 .refine cU (cZ.1 r) λv q e E z=>?_;refine iB (vO e) λB C=>wpAny_pyNext_list_item (i:=i) ⟨o,ho,hc,hd⟩ (dj.at' fa y) (by simpa using B) λh' d k=>ia d λP h f g=>?_;clear d;obtain⟨j⟩:=S.uS (P':=DM w ad F₀ ps) k h (.l a vs (i+1) f g fa<|by refine Rr C ?_;exact z);exact⟨v,rfl,E.le M,⟨j⟩⟩
 .refine cU (cZ.1 r) λv q e E z=>?_;refine iB (vO e) λB C=>wpAny_pyNext_tuple_item (i:=i) ⟨o,ho,hc,hd⟩ (rx.at' fa y) (by simpa using B) λh' d k=>ia d λP h f g=>?_;clear d;obtain⟨j⟩:=S.uS (P':=DM w ad F₀ ps) k h (.t a vs (i+1) f g fa<|by refine Rr C ?_;exact z);exact⟨v,rfl,E.le M,⟨j⟩⟩
 .cases n with
  |zero=>exact bq hps<|Xf _ _
  |succ n=>
   replace hps:=jz.inj<|show _=PV.i x::(intsFrom (x+c) c n).map PV.i from hps
   refine iB hps λG H=>?_;clear hps;subst G;subst H;refine wpAny_pyNext_range_item ho (by omega) λh' d k=>?_;obtain⟨j⟩:=S.uS (P':=DM w ad F₀<|(intsFrom (x+c) c n).map PV.i) k d (.a (x+c) c n (by simp) rfl);exact⟨_,rfl,pa.2 ⟨_,rfl⟩,⟨j.tok _⟩⟩
 .cases N:b.drop i with
  |nil=>rw[N] at hps;injection hps
  |cons u q=>rw[N] at hps;simp only [az,jz.injEq] at hps;refine iB hps λJ L=>?_;clear hps;subst J L;refine iB (vO N) λB C=>KBw.next_item (i:=i) (b:=b.toArray) (t:=t) ⟨o,ho,hc,hd⟩ (by simpa using B) λh' d k=>ia d λP h f g=>?_;obtain⟨j⟩:=S.uS (P':=DM w ad F₀<|q.map λu=>PV.i u.toNat) k h<|.b b t (i+1) f g<|Rr C rfl;exact⟨_,rfl,pa.2 ⟨_,rfl⟩,⟨j.tok _⟩⟩
 .rw[aV] at r hd;refine cU (cZ.1 r) λv q e E z=>?_;have Q:vs[ps.length]?=fU v/\(vs.take ps.length).reverse=q:=by
   have m:=bx mK e;simp only [gZ,cI,aV] at m;have R:ps.length=q.length:=z.length;have D:ps.length<vs.length:=gy (.s .A) .B (.o (.s .C) .D<|.o .A .C<|.z .D .B) rfl (eg m) (el R) (gC _ _);rw[gm D,j9] at e;simp only [lE,List.reverse_nil,eN,eR,jz.injEq] at e;exact⟨by exact Rr (aI D)<|Rr e.1 rfl,e.2⟩
  refine wpAny_pyNext_rev_item (i:=ps.length) (l:=a) (items:=vs.toArray) ⟨o,ho,hc,by refine Rr hd ?_;congr 3;simp⟩ (dj.at' fa y) (by simpa using Q.1) λh' d k=>?_;refine ia d λP h f g=>?_;obtain⟨j⟩:=S.uS (P':=DM w ad F₀ ps) k h (.r a vs f g fa<|by refine Rr Q.2 ?_;exact z);exact⟨v,rfl,E.le M,⟨j⟩⟩
theorem Lg{I:bW}(S:cr w ad fx F ((I,DM w ad F₀ [])::ex) σ s)(k:iD F₀ F)(g:A.1=Z9):
  br (MM w) A (u8<|.ref I) (λr s'=>r=Z9/\Nonempty (cr w ad fx F ex σ s')) ji s:=by
 have f:DG F₀ s.1:=λa o e=>S.sub _ _<|k a o e;refine ak λm=>bO S.tA λo ho h=>m ?_;rcases h with⟨a,vs,i,hc,hd,fa,r⟩|⟨a,vs,i,hc,hd,fa,r⟩|⟨x,c,n,rfl,hps⟩|⟨b,t,i,hc,hd,hps⟩|⟨a,vs,hc,hd,fa,r⟩
 .have r:=dN.1 r;exact wpAny_pyNext_list_end (i:=i) g ⟨o,ho,hc,hd⟩ (dj.at' fa f) (by simpa using drop_nil r) λh' d=>⟨rfl,S.tE d⟩
 .have r:=dN.1 r;exact wpAny_pyNext_tuple_end (i:=i) g ⟨o,ho,hc,hd⟩ (rx.at' fa f) (by simpa using drop_nil r) λh' d=>⟨rfl,S.tE d⟩
 .cases n with
  |zero=>exact wpAny_pyNext_range_end g ho (by omega) λh' d=>⟨rfl,S.tE d⟩
  |succ n=>exact bq hps.symm<|Xf _ _
 .have:b.drop i=[]:=by
   cases j:b.drop i with
   |nil=>rfl
   |cons u q=>rw[j] at hps;injection hps
  exact KBw.next_end (i:=i) (b:=b.toArray) (t:=t) g ⟨o,ho,hc,hd⟩ (by simpa using drop_nil this) λh' d=>⟨rfl,S.tE d⟩
 .exact wpAny_pyNext_rev_end (l:=a) g ⟨o,ho,hc,by refine Rr hd ?_;rfl⟩ λh' d=>⟨rfl,S.tE d⟩
theorem HN{a b c:Int}(hc:c=1\/c=2)(f:-aq<=a)(g:a<=aq)(j:-aq<=b)(h:b<=aq):Builtin.Range.small a b c=Z8/\0<=Builtin.Range.rangeSize a b c:=by
 unfold aq at*
 have key:0<=Builtin.Range.rangeSize a b c/\Builtin.Range.rangeSize a b c<=4194304:=by
  unfold Builtin.Range.rangeSize;rw[bf<|by rcases hc with rfl|rfl<;>decide];by_cases d:a<b
  .rw[bf d];have p:0<=b-a-1:=Int.sub_nonneg_of_le<|Int.le_sub_left_of_add_le<|Int.add_one_le_of_lt d;have q:b-a-1<=4000000:=dZ (Int.sub_le_sub_right (Int.sub_le_sub h f) 1) (by decide);have k:0<=c:=by rcases hc with rfl|rfl<;>decide
   exact⟨Int.add_nonneg (Int.ediv_nonneg p k)<|by decide,dZ (Int.add_le_add_right (dZ (Int.ediv_le_self _ p) q) 1)<|by decide⟩
  .rw[aK d];decide
 refine⟨?_,key.1⟩;unfold Builtin.Range.small;have e:∀i:Int,-9000000<=i->i<=9000000->Builtin.Range.rangeFitsLong i=Z8:=λi f g=>by
  unfold Builtin.Range.rangeFitsLong;simp;exact⟨dZ (by decide) f,kR g<|by decide⟩
 refine Rr (e a (dZ (by decide) f)<|dZ g<|by decide) (Rr (e b (dZ (by decide) j)<|dZ h<|by decide)<|Rr (e c (by rcases hc with rfl|rfl<;>decide)<|by rcases hc with rfl|rfl<;>decide)<|Rr (e _ (dZ (by decide) key.1)<|dZ key.2<|by decide) ?_);simp only [Bool.true_and];have:(if c>0 then Builtin.Range.rangeFitsLong (b+(c-1)) else Builtin.Range.rangeFitsLong<|b+(c+1))=Z8:=by split<;>exact e _ (dZ (show(-9000000:Int)<=-↑1048576+-9 by decide)<|Int.add_le_add j<|by rcases hc with rfl|rfl<;>decide)<|dZ (Int.add_le_add h<|show _<=(9:Int) by rcases hc with rfl|rfl<;>decide)<|by decide
 refine Rr this ?_;simp
theorem Xx(h:W3 p=fU (a,b,c)):p=.r a b c:=by cases p<;>cases h;rfl
theorem yL(S:cr w ad fx F ex σ s)(q:VR w ad F p v)(h:f8 p=fU ps):
  br (MM w) A (IG v) (λit s'=>∃I,it=.ref I/\Nonempty (cr w ad fx F ((I,DM w ad F ps)::ex) σ s')) ji s:=by
 refine wq h (λh=>wq h (λh=>wq h (λh=>dq h λx L h=>jn h λl y h=>?_) λl e h=>?_) λl e h=>?_) λl e h=>?_
 .subst h;obtain⟨a,b,c⟩:=x;refine iB (qp y) λH y=>?_;injection y with d;subst d
  refine Gh (dG H) λhc o E G=>?_;refine iB o λC D=>?_;refine iB (HN hc C D E G) λJ B=>uP (vK.1<|Xx L▸q) λr t u x j fr=>?_;subst j;exact wpAny_pyIter_range (S.sub _ _ fr) J ⟨_,rfl,⟨S.alloc _ rfl (.a a c (Builtin.Range.rangeSize a b c).toNat (Rr (m8 B) rfl) rfl)⟩⟩
 .injection h with f;subst f;refine C5 (QS e q) λz t k=>?_;subst k
  exact KBw.pyIter_bytes ⟨_,rfl,⟨S.alloc _ rfl (.b l t 0 rfl rfl rfl)⟩⟩
 .injection h with g;subst g;refine dI (Vy e q) λz a vs m fa r=>?_;subst m
  exact wpAny_pyIter_tuple (rx.at' fa S.sub) ⟨_,rfl,⟨S.alloc _ rfl (.t a vs 0 rfl rfl fa r)⟩⟩
 .injection h with i;subst i;refine dI (Qc e q) λz a vs n fa r=>?_;subst n
  exact wpAny_pyIter_list (dj.at' fa S.sub) ⟨_,rfl,⟨S.alloc _ rfl (.l a vs 0 rfl rfl fa r)⟩⟩
theorem Re(S:cr w ad fx F ex σ s)(d:VR w ad F (.l l) v):
  br (MM w) A (call (.type "reversed") [v]) (λit s'=>∃I,it=.ref I/\Nonempty (cr w ad fx F ((I,DM w ad F l.reverse)::ex) σ s')) ji s:=by
 refine dI d λe a vs c fa r=>?_;clear d;subst c;refine call_reversed_list (dj.at' fa S.sub) ?_;have b:=r.length;exact⟨_,rfl,⟨S.alloc _ rfl (.r a vs rfl (by simp[revObj,b]) fa (by refine Rr gZ<|Rr b<|Rr ig ?_;exact r.reverse))⟩⟩
theorem xu(S:cr w ad fx F ((I,DM w ad F₀ ps)::ex) σ s)(e:iD F₀ F)(h:Q (.ref I) s):br (MM w) A (IG<|.ref I) Q E s:=by
 refine bO S.tA λo ho d=>?_;rcases d with⟨a,vs,i,hc,hd,fa,r⟩|⟨a,vs,i,hc,hd,fa,r⟩|⟨x,c,n,rfl,hps⟩|⟨b,t,i,hc,hd,hps⟩|⟨a,vs,hc,hd,fa,r⟩
 .exact wpAny_pyIter_listiter (i:=i) ⟨o,ho,hc,hd⟩ h
 .exact wpAny_pyIter_tupleiter (i:=i) ⟨o,ho,hc,hd⟩ h
 .exact wpAny_pyIter_rangeiter ho h
 .exact KBw.pyIter_self (b:=b.toArray) (t:=t) (i:=i) ⟨o,ho,hc,hd⟩ h
 .exact wpAny_pyIter_revIter (l:=a) ⟨o,ho,hc,hd⟩ h
theorem wIf[Decidable c](hc:¬c)(h:br M A e Q E s):br M A (ite c t e) Q E s:=Rr (aK hc) h
theorem CM(S:cr w ad fx F ((I,DM w ad F₀ ps)::ex) σ s)(h:Q () s):br (MM w) A (gR target (.ref I) v) Q E s:=by
 refine bO S.tA λo ho d=>?_;have key:∃n,o.1=.type n/\["enumerate","zip","dict_itemiterator","dict_reverseitemiterator","odict_iterator","itertools.zip_longest","itertools.pairwise"].contains n=Z7:=by
  rcases d with⟨a,vs,i,hc,_⟩|⟨a,vs,i,hc,_⟩|⟨x,c,m,rfl,_⟩|⟨b,t,i,hc,_⟩|⟨a,vs,hc,_⟩
  .exact⟨_,hc,by decide+kernel⟩
  .exact⟨_,hc,by decide+kernel⟩
  .exact⟨_,rfl,by decide+kernel⟩
  .exact⟨_,hc,by decide+kernel⟩
  .exact⟨_,hc,by decide+kernel⟩
 refine bO key λn hc e=>?_;clear key d S;obtain⟨f,j,g,k⟩:=o;cases(hc:f=_);cases target<;>first
  |exact bB h
  |(cases v<;>first
    |exact bB h
    |(refine aH<|k8 ho ?_;cases g<;>first|exact bB h|(refine wIf (λz=>?_)<|bB h;rw[e] at z;cases z)))
end
section
variable{w:bN}{g:Bool}{N:Nat}{O:jU}{k:Nat}{ad:Ad}{fx:Fx}{F F' F₀:FZ}{ex ex':dw}{σ σ' σ₂:St}{s s':aG}{A:bU}{α:Type}{env:mR}
def GQ(w:bN)(ad:Ad)(fx:Fx)(F:FZ)(ex:dw)(σ:St):Unit->aG->Prop:=λa s=>Nonempty<|cr w ad fx F ex σ s
theorem Du(b:eA fx)(S:cr w ad fx F ex σ s)(f:VR w ad F p v)(g:(x,i)∈fx.2)(e:fx.1.kindOf x≠fU .free)(a:∀u,(i,u)∉fx.9):
  br (MM w) A (lL (.Name x pos) fx.1 v) (GQ w ad fx F ex<|σ.set i<|.f p) ji s:=
 kJ (cr.store (c:=⟨v,Z9⟩) (ex:=ex) b (by rw[ij];exact S) g e (lv:=.f p) ⟨rfl,f⟩ a λs' d=>⟨d⟩)
structure MK (fx:Fx) (xs:List eT) (is:List Nat):Prop where
 m:xs.map (λx=>fx.2.lookup x)=is.map fU
 f:∀x∈xs,fx.1.kindOf x≠fU .free
theorem MK.hd(h:MK fx (x::xs) (i::is)):(x,i)∈fx.2/\fx.1.kindOf x≠fU .free:=⟨lk (jz.inj h.1).1,h.2 _<|.head _⟩
theorem MK.tl(h:MK fx (x::xs) (i::is)):MK fx xs is:=⟨(jz.inj h.1).2,λy a=>h.2 y<|.tail _ a⟩
theorem MK.len(h:MK fx xs is):xs.length=is.length:=by have:=bx mK h.1;simpa using this
theorem LP(h:Ej fx.1.1 fx.2 t is=Z8):yM t=Z8/\MK fx (gc t) is:=
 have a:=an h;have b:=an a.1
 ⟨b.1,fN b.2,λx c=>bne_iff_ne.1<|aU.1 a.2 x c⟩
theorem FC(g:eA fx):∀{es:List dH} {is:List Nat} {ps:List PV} {vs:List aF} {σ:St} {s:aG},(∀e∈es,vo e=Z8)->MK fx (es.map wM) is->(∀i∈is,∀u,(i,u)∉fx.9)->fP w ad F ps vs->ps.length=es.length->cr w ad fx F ex σ s->
  br (MM w) A (assignInOrder ((oE es fx.1).map (·.2)) vs) (GQ w ad fx F ex<|Ax is ps σ) ji s
 |[],is,ps,vs,σ,s=>λa T a a a S=>by
  cases is with
  |nil=>exact bB<|by cases ps<;>exact⟨S⟩
  |cons i is=>exact nomatch T.len
 |e::es,[],_,_,_,_=>λa T a a a a=>nomatch T.len
 |e::es,i::is,[],_,_,_=>λa a a a f a=>nomatch f
 |e::es,i::is,p::ps,_,σ,s=>λh T b r f S=>by
  refine cU (cZ.1 r) λv vs c m n=>?_;subst c;refine pK (FE<|h _<|.head _) λx pos d=>?_;subst d;exact aH (jx (zZ (Du g S m T.hd.1 T.hd.2<|b i<|.head _) λa o k=>by
   obtain⟨j⟩:=k;exact FC g (is:=is) (ps:=ps) (λe l=>h e<|.tail _ l) T.tl (λi hi=>b i<|.tail _ hi) n (ky.inj f) j))
theorem Kf:∀{es:List dH},(∀e∈es,vo e=Z8)->(oE es env).findIdx? (·.1)=Z9/\(oE es env).length=es.length:=by
 intro es;induction es with
 |nil=>exact λg=>⟨rfl,rfl⟩
 |cons e es f=>intro h;refine pK (FE<|h _<|.head _) λx pos a=>?_;subst a;obtain⟨b,c⟩:=f λe d=>h e<|.tail _ d;refine⟨?_,bx ky c⟩;refine Rr List.findIdx?_cons ?_;simp only [cq,if_false,b,Option.map_none]
set_option tactic.hygienic true in
theorem L5(h:((ev e).1==8)=Z8):∃es k p,e=.Tuple es k p:=by cases e<;>first|exact(ou _ _ _ rfl)|exact(cJ h).elim|(rename_i op a p;cases op<;>exact(cJ h).elim)
theorem Ln{i:Nat}(h:PQ is=fU i):is=[i]:=A0 h
theorem D1(z:eA fx)(S:cr w ad fx F ex σ s)(D:VR w ad F p v)(M:Ej fx.1.1 fx.2 t is=Z8)
  (b:∀i∈is,∀u,(i,u)∉fx.9)(c:qU is p σ=fU σ₂)(I:A.1=Z9):
  br (MM w) A (lL t fx.1 v) (GQ w ad fx F ex σ₂) ji s:=by
 obtain⟨y,T⟩:=LP M;cases C:vo t with
 |true=>
  refine pK (FE C) λx pos j=>?_;subst j
  match is,T.len,T,b,c with
  |[i],_,T,b,c=>(injection c with g;subst g);exact Du z S D T.hd.1 T.hd.2<|b i<|.head _
 |false=>
  unfold yM at y;rw[C] at y;obtain⟨E,G⟩:=an y;obtain⟨n,H⟩:=an G;refine Ce (L5 E) λes k' pos k=>?_;subst k;have f:∀e∈es,vo e=Z8:=aU.1 H;have T:MK fx (es.map wM) is:=T;have d:es.length=is.length:=by refine Rl T.len ?_;rw[av]
  refine wq c (λc=>dq c λl J c=>?_) λi hi c=>?_
  .obtain⟨q,c⟩:=qp c;injection c with h;subst h
   refine dI (Vy J D) λN a vs m fa r=>?_;subst m;have B:=Kf (env:=fx.1) f;have q:=fN q;exact wpAny_assign_Tuple I (rx.at' fa S.sub) (Rr B.2<|Rr bF<|Rl r.length<|Rr q<|Rr d rfl) B.1 λh' L=>FC z f T b r (q.trans d.symm)<|S.keep λa o e=>L a o (λe'=>cB _<|e'▸dY e) e
  .cases Ln hi;have n:2<=es.length:=dG n;rw[d] at n;exact bq n<|Nat.not_succ_le_self 1
end
noncomputable def Rd:Fl->Flow
 |.c=>.cont
 |_=>.next
def oN(w:bN)(ad:Ad)(fx:Fx)(F:FZ)(ex:dw)(r:Fl×St)(f:Flow)(s:aG):Prop:=
 (BR r.1).elim (f=Rd r.1/\∃F',iD F F'/\Nonempty (cr w ad fx F' ex r.2 s)) λlv=>∃v,f=.ret v/\bE w ad fx F ex lv r.2 v s
theorem oN.le{w:bN}{ad:Ad}{fx:Fx}{F F₀:FZ}(l:iD F₀ F)(h:oN w ad fx F ex r f s):oN w ad fx F₀ ex r f s:=by
 unfold oN at h⊢
 cases e:BR r.1 with
 |none=>rw[e] at h;refine m5 h λe F' a S=>?_;exact⟨e,F',l.trans a,S⟩
 |some lv=>rw[e] at h;refine bO h λv e q=>?_;exact⟨v,e,q.le l⟩
theorem oN.nx{w:bN}{ad:Ad}{fx:Fx}(l:iD F F')(S:Nonempty<|cr w ad fx F' ex σ s):oN w ad fx F ex (.n,σ) .next s:=⟨rfl,F',l,S⟩
def gV(w:bN)(g:Bool)(N:Nat)(O:jU)(k:Nat)(x:Sx):Prop:=
 ∀{ad:Ad} {fx:Fx} {st:iW} {F:FZ} {ex:dw} {σ:St} {r:Fl×St} {s:aG} {A:bU},eA fx->fx.9=[]->P9 fx.1.1 fx.2 fx.8 x st=Z8->ph N O x σ=fU r->cr w ad fx F ex σ s->Rm (k+1) A->
  bV g (MM w) A (yR (fS x st) fx.1) (oN w ad fx F ex r) ji s
def jV(w:bN)(g:Bool)(N:Nat)(O:jU)(k:Nat)(x:iX):Prop:=
 ∀{ad:Ad} {fx:Fx} {st:List iW} {F:FZ} {ex:dw} {σ:St} {r:Fl×St} {s:aG} {A:bU},eA fx->fx.9=[]->sK fx.1.1 fx.2 fx.8 x st=Z8->gM N O x σ=fU r->cr w ad fx F ex σ s->Rm (k+1) A->
  bV g (MM w) A (nE (DK x st) fx.1) (oN w ad fx F ex r) ji s
section
variable{w:bN}{g:Bool}{N:Nat}{O:jU}{k:Nat}{ad:Ad}{fx:Fx}{F F' F₀:FZ}{ex ex':dw}{σ σ' σ₂:St}{s s':aG}{A:bU}{α:Type}{env:mR}
theorem jy{t value pos}(c:w5 value (fU t) pos.1 env=pure Z7)(b:o4 [t] value env=pure Z9)(d:oE [t] env=[(Z7,lL t env)])
  (h:bV g M A (dS value env) (λv f=>bV g M A (lL t env v) (λa=>Q .next) E f) E s):bV g M A (yR (.Assign [t] value pos) env) Q E s:=by
 rw[arm_exec_Assign];refine am<|bH<|am ?_;show bV g M A (w5 value (fU t) pos.1 env) _ E s;refine Rr c<|aO ?_;simp only [cq,if_false];refine am<|aR h (λv f h₁=>?_) λa a e=>e;refine Rr b<|Rr d ?_;refine am<|aO ?_;show bV g M A (do assignAll v [lL t env];pure Flow.next) Q E f;exact am<|aR h₁ (λa j i=>aO i) λa a e=>e
theorem tw(h:mz v=Z8):w5 v t l env=pure Z7:=by cases v<;>first|rfl|exact(cJ h).elim
theorem sh:o4 [.Name x p] v env=pure Z9:=rfl
theorem vH:o4 [.Attribute o x p] v env=pure Z9:=rfl
theorem KH:o4 [.Subscript o i p] v env=pure Z9:=rfl
theorem CK(h:vV v=Z8):o4 [.Tuple es k p] v env=pure Z9:=by cases v<;>first|rfl|exact(cJ h).elim
noncomputable def v7:Ex->Bool
 |.o .. =>Z8
 |.A .. =>Z8
 |_=>Z7
theorem UE(a:v7 x=Z7):mz (fE x v)=Z8:=by cases x<;>first|rfl|injection a
theorem uY(h:Ej fx.1.1 fx.2 (zk x) [i]=Z8):(wM x,i)∈fx.2/\fx.1.kindOf (wM x)≠fU .free:=(LP h).2.hd
theorem qt(h:fx.9=[])(i:Nat)(u:aF):(i,u)∉fx.9:=by refine Rr h ?_;exact bj
theorem AU{st:iW}{x:Ex}{r:Fl×St}(l:bg w g O k x)(b:v7 x=Z7)(d:eA fx)(a:∀u,(i,u)∉fx.9)(t:P9 fx.1.1 fx.2 fx.8 (.a i x) st=Z8)(v:ph N O (.a i x) σ=fU r)(S:cr w ad fx F ex σ s)(R:Rm (k+1) A):
  bV g (MM w) A (yR (fS (.a i x) st) fx.1) (oN w ad fx F ex r) ji s:=
 jn v λc v1 j=>jy (tw<|UE b) sh rfl (l.go d (an t).2 v1 S R λc c c m n f=>
  have h:=uY (an t).1
  j▸bV.of (kJ<|cr.store d f h.1 h.2 n a λs' e=>.nx m ⟨e⟩))
theorem cY(d:bg w g O k x)(b:v7 x=Z7):gV w g N O k<|.a i x:=λc a t v S R=>AU d b c (qt a i) t v S R
theorem kP(n:bg w g O k x):gV w g N O k<|.c is x:=
 λ{ad fx st F ex σ r s A} OK hpin t v S R=>dq v λy v1 v=>jn v λa m l=>by
  subst l;have d:=an (an t).2;have e:=an d.2;have h:=an e.2;refine Ce (L5 (an t).1) λes k' p c=>?_;have b:o4 [sT st] (fE x<|sV st) fx.1=pure Z9:=by refine Rr c ?_;exact CK d.1
  have j:oE [sT st] fx.1=[(Z7,lL (sT st) fx.1)]:=by refine Rr c ?_;rfl
  exact jy (tw e.1) b j<|n.fr OK h.2 v1 S R λa a a o q f=>bV.of<|zZ (D1 OK f q h.1 (λi a=>qt hpin i) m R.3) λa s' h'=>.nx o h'
theorem GI(h:intOp op a b=fU c)(S:cr w ad fx F ex σ s)(d:Nat.ble op.ctorIdx 1=Z8):
  br (MM w) A (DC (LF op) (.int a t)<|.int b u) (bE w ad fx F ex (.f<|.i c) σ) ji s:=by
 have fin:∀{i:Int},i=c->bE w ad fx F ex (.f<|.i c) σ (.int i s.4) {s with toks:=s.4+1}:=λe=>e▸bE.int (S.tok _);cases op with
 |a=>exact P.iadd_int<|fin<|fU.inj h
 |s=>exact P.isub_int<|fin<|fU.inj h
 |_=>exact nomatch d
theorem BC(h:Fe lv=fU p):lv=.f p:=by cases lv<;>cases h;rfl
theorem V1(h:Fe lv=fU p)(r:ve w ad F lv c):c.2=Z9/\VR w ad F p c.1:=(BC h▸r:ve w ad F (.f p) c)
theorem Ky(h:Fe lv=fU p):lv≠.u:=by rintro rfl;injection h
theorem nS(D:bg w g O k x):gV w g N O k<|.j op i x:=
 λ{ad fx st F ex σ r s A} OK hpin t v S R=>dq v λz hi v=>dq v λa d v=>dq v λy v1 v=>dq v λb B v=>by
  obtain⟨e,v⟩:=qp v;refine jn v λc hc o=>dq d λp h d=>?_;subst o;obtain⟨hm,hf⟩:=uY (an t).1;refine zI<|S.load OK hm hi (Ky h) λM C f=>?_;obtain⟨tk,n⟩:=tR d (V1 h f).2;refine Rr n<|D.fr OK (an t).2 v1 S R λu L P E H l=>?_;obtain⟨J,rfl⟩:=tR B H;refine zZ (GI hc l e) λr Q q=>ak λG=>?_;obtain⟨F2,l2,I,⟨m⟩⟩:=q.fz;refine G<|cr.store (c:=⟨r,Z9⟩) (lv:=.f<|.i c) OK (by rw[ij];exact m) hm hf ⟨rfl,I⟩ (qt hpin i) λs' j=>.nx (E.trans l2) ⟨j⟩
theorem uk(a:eA fx):interactive fx.1=Z7:=by unfold interactive;refine Rr a.1 ?_;rfl
theorem j6{x:Ex}(h:bg w g O k x):gV w g N O k<|.e x:=
 λc d t v S R=>dq v λb v1 v=>by
  obtain⟨f,v⟩:=qp v;injection v with a;subst a
  exact By (uk c) (tw (an t).1)<|h.fr c (an t).2 v1 S R λb b b i j e=>⟨(Ga f▸j:VR _ _ _ .none _),.nx i ⟨e⟩⟩
theorem fh(d:bg w g O k x):gV w g N O k<|.r x:=
 λa e t v S R=>jn v λe v1 b=>yz<|pi (d a t v1 S R) λu f c=>b▸⟨u,rfl,c⟩
theorem QI:gV w g N O k .t:=λ{ad fx st F ex σ r s A} b b b v S b=>by
 injection v with a;subst a;show bV g _ A (kH _>>=λb=>pure<|Flow.ret .none) _ _ s;exact am<|bH<|aO ⟨_,rfl,bE.val S rfl⟩
theorem Rq:gV w g N O k .q:=λ{ad fx st F ex σ r s A} uu uu uu v S uu=>by
 injection v with a;subst a;exact am<|bH<|aO ⟨rfl,F,iD.nv,⟨S⟩⟩
theorem NG:gV w g N O k .n:=λa a a v a a=>nomatch v
theorem Ua(l:ly w g O k t)(i:jV w g N O k a)(j:jV w g N O k b):gV w g N O k<|.i t a b:=
 λe c t v S R=>dq v λy v1 v=>WE (l.go e (an t).1 v1 S R λd d h f=>by
  cases hc:y.1 with
  |true=>rw[hc] at v;exact pi (i e c (an (an t).2).1 v f R) λd d q=>q.le h
  |false=>rw[hc] at v;exact pi (j e c (an (an t).2).2 v f R) λd d q=>q.le h)
theorem Q8:jV w g N O k .n:=λb b b v S b=>by injection v with a;subst a;exact rJ<|.nx iD.nv ⟨S⟩
theorem F9(h:E5 f=Z8):f=.n:=by cases f<;>first|rfl|injection h
theorem Pu(p:gV w g N O k x)(o:jV w g N O k r):jV w g N O k<|.c x r:=
 λl a t v S R=>dq v λy v1 v=>dO (pi (p l a (an t).1 v1 S R) λc A i=>by
  obtain⟨f,σ1⟩:=y;cases j:E5 f with
  |true=>rw[j] at v;cases F9 j;refine m5 i λd z s h=>?_;clear i;subst d;obtain⟨m⟩:=h;exact pi (o l a (an t).2 v m R) λu u q=>q.le s
  |false=>
   rw[j] at v;injection v with b;subst b
   cases f with
   |n=>injection j
   |c=>obtain⟨rfl,q⟩:=i;exact⟨rfl,q⟩
   |r lv=>refine bO i λv e q=>?_;clear i;subst e;exact⟨v,rfl,q⟩)
end
section
variable{w:bN}{g:Bool}{N:Nat}{O:jU}{k:Nat}{ad:Ad}{fx:Fx}{F F' F₀:FZ}{ex ex':dw}{σ σ' σ₂:St}{s s':aG}{A:bU}{α:Type}{env:mR}
theorem cr.OQ(S:cr w ad fx F (L++p::ex) σ s):Nonempty<|cr w ad fx F (L++ex) σ s:=
 ⟨⟨S.1,S.2,S.3,S.4,S.5,S.6,S.7,S.8.rg [dU fx S.2 S.3,ci S.1,L,[p],ex,gB ad σ.2] (.n (.l 0)<|.n (.l 1)<|.n (.n (.l 2)<|.n (.l 3)<|.l 4)<|.l 5) (.n (.l 0)<|.n (.l 1)<|.n (.n (.l 2)<|.l 4)<|.l 5) rfl⟩⟩
theorem bE.Qq(h:bE w ad fx F (p::ex) lv σ v s):bE w ad fx F ex lv σ v s:=by obtain⟨F',c,l,e,r,⟨S⟩⟩:=h;exact⟨F',c,l,e,r,S.OQ⟩
theorem pp(B:ly w g O k t)(z:jV w g N O k b):gV w g N O k<|.w t b:=λ{ad fx st F ex σ r s A} OK hpin t v S R=>
 NL (Cd (R:=λq s'=>match q with|.ok f'=>oN w ad fx F ex r f' s'|.error _=>False)
   (λn s=>∃σ₀ F1,iD F F1/\iC (jJ O _) (gM N O b) n σ₀=fU r/\Nonempty (cr w ad fx F1 ex σ₀ s)) (λn s p=>by
  refine cU p λσ₀ F1 l1 v zt41=>?_;clear p;obtain⟨S⟩:=zt41;cases n with
  |zero=>exact nomatch v
  |succ m=>
   refine dq v λx v1 v=>B.go OK (an t).1 v1 S R λC D h o=>?_;cases hc:x.1 with
   |false=>rw[hc] at v;injection v with d;subst d;exact .nx (l1.trans h) ⟨o⟩
   |true=>
    rw[hc] at v;refine dq v λy v2 v=>pi (z OK hpin (an t).2 v2 o R) λc E a=>?_;obtain⟨f,σ3⟩:=y;cases f with
    |r lv=>(injection v with e;subst e);obtain⟨u,rfl,a⟩:=a;exact⟨u,rfl,a.le<|l1.trans h⟩
    |n=>obtain⟨rfl,i,l,j⟩:=a;exact⟨m,fR m,ff _ i ⟨(l1.trans h).trans l,v,j⟩⟩
    |c=>obtain⟨rfl,i,l,j⟩:=a;exact⟨m,fR m,ff _ i ⟨(l1.trans h).trans l,v,j⟩⟩) N (ff σ F ⟨iD.nv,v,⟨S⟩⟩))
theorem JA(E:eA fx)(a:fx.9=[])(J:jV w g N O k b)(L:Ej fx.1.1 fx.2 IP is=Z8)(T:sK fx.1.1 fx.2 fx.8 b body=Z8)
  (v:oy is (gM N O b) ps σ=fU r)(S:cr w ad fx F ((I,DM w ad F ps)::ex) σ s)(R:Rm (k+1) A)(G:iD F₀ F):
  iy g (MM w) A (.forLoop IP (.ref I) (DK b body) [] fx.1) (λq s'=>match q with|.ok f'=>oN w ad fx F₀ ex r f' s'|.error _=>False) s:=by
 refine HE (λn s=>∃ps σ₀ F1,ps.length=n/\iD F F1/\oy is (gM N O b) ps σ₀=fU r/\Nonempty (cr w ad fx F1 ((I,DM w ad F ps)::ex) σ₀ s)) ?_ ps.length<|ou ps σ F ⟨rfl,iD.nv,v,⟨S⟩⟩;intro n s z;refine xi z λps σ₀ F1 hn l1 v zt45=>?_;clear z;obtain⟨S⟩:=zt45;cases ps with
 |nil=>injection v with j;subst j;exact zZ (Lg S l1 R.3) λq P d=>by refine iB d λm x=>?_;clear d;subst m;exact .nx (G.trans l1) x
 |cons p ps=>
  refine dq v λσ1 ha v=>dq v λy v2 v=>zZ (FQ S l1) λq P d=>ia d λu o M t=>?_;clear d;subst o;obtain⟨x⟩:=t;refine CM x<|zZ (D1 E x M L (λi U=>qt a i) ha R.3) λU Q z=>?_;obtain⟨H⟩:=z;refine pi (J E a T v2 H R) λc Q e=>?_;have h:ps.length<n:=hn▸fR _;obtain⟨f,σ3⟩:=y;cases f with
  |r lv=>(injection v with l;subst l);obtain⟨u,rfl,e⟩:=e;exact⟨u,rfl,(e.le<|G.trans l1).Qq⟩
  |n=>obtain⟨rfl,B,D,C⟩:=e;exact⟨ps.length,h,ou ps _ B ⟨rfl,l1.trans D,v,C⟩⟩
  |c=>obtain⟨rfl,B,D,C⟩:=e;exact⟨ps.length,h,ou ps _ B ⟨rfl,l1.trans D,v,C⟩⟩
theorem Lp(env:mR)(v:aF):kI (fE x e) env v=pure v:=by cases x<;>rfl
theorem kn(m:bg w g O k x)(l:jV w g N O k b):gV w g N O k<|.f is x b:=
 λf a t v S R=>dq v λe v1 v=>dq v λe hi v=>PO (Lp _) (m.fr f (an (an t).2).1 v1 S R λe e e n o i=>zZ (yL i o hi) λit p h=>by
  refine bO h λI c d=>?_;clear h;subst c;obtain⟨j⟩:=d;exact JA f a l (an t).1 (an (an t).2).2 v j R n)
theorem LH(P:eY):x0 P (so "reversed")=Z9/\nF (so "reversed")=fU (.type "reversed"):=by refine⟨lX (Su P) _<|aw _<|.tail _<|.head _,?_⟩;have:=TX;rw[aC] at this;have:=(List.append_inj this<|by simp).2;simp only [az,dP,jz.injEq] at this;exact this.2.1
theorem yq(y:bg w g O k x)(o:jV w g N O k b):gV w g N O k<|.l is x b:=
 λ{ad fx st F ex σ r s A} OK hpin t v S R=>dq v λf v1 v=>dq v λl p v=>by
  have j:=an (an t).2;have m:=an j.2;refine PO (λf=>rfl) (gG<|g9 (Nx (zV OK S.B j.1 (LH _).1 (LH w.2).2 (by decide+kernel) (Q:=λv s'=>v=.type "reversed"/\s'=s) (E:=ji) ⟨rfl,rfl⟩) λf f q=>?_)<|by decide+kernel);refine iB q λa c=>?_;clear q;subst a c;refine i0 (by refine Rr xd ?_;rfl) ?_;refine Rr xd<|i8<|y.fr OK m.1 v1 S R λu C D z B n=>mh ⟨bB rfl,bV.of<|zZ (Re n<|qd p▸B) λit G i=>?_⟩;refine bO i λI d e=>?_;clear i;subst d;obtain⟨h⟩:=e;exact xu h iD.nv<|JA OK hpin o (an t).1 m.2 v h R z
end
section
variable{w:bN}{g:Bool}{N:Nat}{O:jU}{k:Nat}{ad:Ad}{fx:Fx}{F F' F₀:FZ}{ex ex':dw}{σ σ' σ₂:St}{s s':aG}{A:bU}{α:Type}{env:mR}
theorem GS.V9{os:gv}{X Z:dw}{cl:List CL}(G:GS w os F (gF c++(X++(ci (cl.set i ⟨v,Z9⟩)++(ex++Z)))) s):GS w os F (X++(ci (cl.set i c)++(ex++Z))) s:=by have:=(G.rg [gF c,X,ci<|cl.set i ⟨v,Z9⟩,ex,Z] (.n (.l 0)<|.n (.l 1)<|.n (.l 2)<|.n (.l 3)<|.l 4) (.n (.l 1)<|.n (.l 2)<|.n (.n (.l 0)<|.l 3)<|.l 4) rfl:GS w os F (X++(ci (cl.set i ⟨v,Z9⟩)++(gF c++ex++Z))) s).setC (i:=i);rw[qx] at this;exact this
theorem cr.wU(S:cr w ad fx F ex σ s){b lv:LV}{h':qA}{f:Hj}(hi:σ.1[v]?=fU b)(d:b≠.u)(hc:S.1[v]?=fU ⟨.ref a,fU P⟩)
  (i:dC a s.1 h')(e:h'.get? a=fU f)(g:P' f)(h:ve w ad F lv ⟨.ref a,fU P'⟩):Nonempty<|cr w ad fx F ex (σ.set v lv) {s with heap:=h'}:=
 ⟨S.setC iD.nv h (λj=>(ff _ _ ⟨hi,hc,d,rfl⟩))<|GS.V9 (c:=⟨.ref a,fU P'⟩) (v:=.none)<|(S.8.Mm hc .none).upd i e g⟩
theorem yY{l:bW}{items:Array aF}{k:Int}(g:s.1.PlainList l items)
  (e:0<=k)(b:k<2^63)(m:k<items.size)
  (f:∀h',h'.PlainList l (items.setIfInBounds k.toNat v)->dC l s.1 h'->Q () {s with heap:=h'}):
  br (MM w) A (BJ (.ref l) (.int k t) v) Q E s:=by
 refine rX g λne ho=>?_;have c:=g.isList;delta BJ
 try with_reducible refine jx ?_
 first|refine aH (bB ?_)|skip
 refine aH (wpAny_sequenceKey c.typeIs (by decide) ?_);refine aH (MV (name:=aa "__setitem__") c.typeIs slot_list_setitem
  (uh slot_list_setitem c.typeIs entry_list_setitem ?_<|args_list_setitem _ _ _))
 show br _ _ (Builtin.List.listSubscript? (.int k t)>>=_) _ _ s;refine aH<|wpAny_listSubscript_int (fitsIndex_of e b) ?_;clear b;obtain⟨j,rfl⟩:=Int.eq_ofNat_of_zero_le e;have i:j<items.size:=by omega
 have d:items[j]?=fU items[j]:=Array.getElem?_eq_getElem i;refine aH<|aH<|wpAny_seqItemAt ho rfl (bB ?_);refine Rr d ?_;have h:(s.1.update l<|Obj.mapSeq (·.setIfInBounds j v)).get? l=fU {cls:=.type "list",data:=.seq (items.setIfInBounds j v) ne}:=by have:=ke ho (·.setIfInBounds j v);simpa using this
 have a:(s.1.update l<|Obj.mapSeq (·.setIfInBounds j v)).PlainList l<|items.setIfInBounds j v:=⟨_,h⟩;refine aH<|wpAny_setSeqItemAt ho rfl ?_
 first
  |exact aH<|bB<|bB ⟨.none,rfl,bB<|f _ a<|dC.update ..⟩
  |exact bB ⟨.none,rfl,bB<|f _ a<|dC.update ..⟩
theorem I2{h:qA}(x:h.DictOfH (TK w) a xs):∃o,h.get? a=fU o/\qj w xs o:=by refine EE x λo es ep e d hd b f c=>?_;exact⟨o,e,ff es ep ⟨d,hd,b,c⟩⟩
theorem uE.any:∀{xs:List<|List Int×bW×aF} {l:List<|(Int×Int)×Int} {a b:Int},uE F xs l->l.any (λe=>decide (e.1=(a,b)))=(atKey xs [a,b]).isSome
 |[],[],a,b,_=>rfl
 |x::xs,e::l,a,b,⟨⟨c,_,_⟩,r⟩=>by
  have d:=ID (a:=a) (b:=b) c;delta atKey;refine Rr kz<|Rr iF<|Rr d ?_;cases hd:decide (e.1=(a,b)) with
  |true=>simp
  |false=>rw[Bool.false_or];exact r.any
 |[],_::_,_,_,r=>r.elim
 |_::_,[],_,_,r=>r.elim
theorem uE.app{a b c:Int}{u:Tok}(kf:Bs F [a,b] t):∀{xs:List<|List Int×bW×aF} {l:List<|(Int×Int)×Int},uE F xs l->uE F (xs++[([a,b],t,.int c u)]) (l++[((a,b),c)])
 |[],[]=>λd=>⟨⟨rfl,⟨u,rfl⟩,kf⟩,trivial⟩
 |_::_,_::_=>λh=>⟨h.1,uE.app kf h.2⟩
 |[],_::_=>λr=>r.elim
 |_::_,[]=>λr=>r.elim
theorem uE.xp:∀{xs:List<|List Int×bW×aF} {l:List<|(Int×Int)×Int},uE F xs l->uE F (xs.map<|putAt [a,b]<|.int c u) (l.map λe=>if e.1=(a,b) then(e.1,c) else e)
 |[],[],_=>trivial
 |x::xs,e::l,⟨⟨d,j,f⟩,r⟩=>by
  refine⟨?_,uE.xp r⟩;have g:=ID (a:=a) (b:=b) d;obtain⟨h,m,n⟩:=x;obtain⟨i,k⟩:=e;simp-iota only [putAt] at*
  by_cases hd:i=(a,b)
  .have:h=[a,b]:=by simpa [hd] using g
   refine Rr (bf hd)<|Rr (bf this) ?_;exact⟨d,⟨u,rfl⟩,f⟩
  .have:¬h=[a,b]:=by simpa [hd] using g
   refine Rr (aK hd)<|Rr (aK this) ?_;exact⟨d,j,f⟩
 |[],_::_,r=>r.elim
 |_::_,[],r=>r.elim
theorem uE.put(r:uE F xs l)(kf:Bs F [a,b] t):uE F (storedH xs [a,b] t<|.int c u)<|uX l (a,b) c:=by
 delta storedH uX;refine Rr r.any ?_;split
 .exact r.xp
 .exact r.app kf
theorem vX.any:∀{xs:List<|Int×aF} {l:List<|Int×Int} {a:Int},vX xs l->l.any (λe=>decide (e.1=a))=xs.any (λc=>decide (c.1=a))
 |[],[],a,_=>rfl
 |x::xs,e::l,a,⟨⟨b,_⟩,r⟩=>by exact Rr kz<|Rr kz<|Rr b<|Rr r.any rfl
 |[],_::_,_,r=>r.elim
 |_::_,[],_,r=>r.elim
theorem vX.app:∀{xs:List<|Int×aF} {l:List<|Int×Int},vX xs l->vX (xs++[(a,.int c u)]) (l++[(a,c)])
 |[],[]=>λb=>⟨⟨rfl,u,rfl⟩,trivial⟩
 |_::_,_::_=>λh=>⟨h.1,vX.app h.2⟩
 |[],_::_=>λr=>r.elim
 |_::_,[]=>λr=>r.elim
theorem vX.xp:∀{xs:List<|Int×aF} {l:List<|Int×Int},vX xs l->vX (xs.map λb=>if b.1=a then(b.1,.int c u) else b) (l.map λe=>if e.1=a then(e.1,c) else e)
 |[],[],_=>trivial
 |x::xs,e::l,⟨⟨d,f⟩,r⟩=>by
  refine⟨?_,vX.xp r⟩;dsimp only;refine Rr d ?_;by_cases hd:e.1=a
  .refine Rr (bf hd)<|Rr (bf hd) ?_;exact⟨rfl,u,rfl⟩
  .refine Rr (aK hd)<|Rr (aK hd) ?_;exact⟨d,f⟩
 |[],_::_,r=>r.elim
 |_::_,[],r=>r.elim
theorem vX.put(r:vX xs l):vX (stored xs a<|.int c u)<|pN l a c:=by
 delta stored pN;refine Rr r.any ?_;split
 .exact r.xp
 .exact r.app
theorem uE.length:∀{xs:List<|List Int×bW×aF} {l:List<|(Int×Int)×Int},uE F xs l->xs.length=l.length
 |[],[]=>λa=>rfl
 |_::_,_::_=>λh=>by simp-iota [h.2.length]
 |[],_::_=>λr=>r.elim
 |_::_,[]=>λr=>r.elim
theorem vX.length:∀{xs:List<|Int×aF} {l:List<|Int×Int},vX xs l->xs.length=l.length
 |[],[]=>λa=>rfl
 |_::_,_::_=>λh=>by simp-iota [h.2.length]
 |[],_::_=>λr=>r.elim
 |_::_,[]=>λr=>r.elim
theorem JY(h:td n i=fU j)(b:0<=i):j=i.toNat/\i<n/\i<2^63:=by
 refine iB (qp h) λa h=>?_;have a:=dG a;unfold aq at a;unfold DE at h;rw[aK<|kS.2 b] at h;by_cases hc:i<n
 .simp-iota [b,hc] at h;exact⟨h.symm,hc,by omega⟩
 .simp-iota [hc] at h
theorem Q1(h:Ww lv=fU l):lv=.a l:=by cases lv<;>cases h;rfl
theorem lvD(h:Ww lv=fU l)(r:ve w ad F lv c):∃a xs,(a==j2)=Z7/\c=⟨.ref a,fU<|qj w xs⟩/\uE F xs l:=(Q1 h▸r:ve w ad F (.a l) c)
theorem G6(S:cr w ad fx F ex σ s)(R:Rm (k+1) A){v:Nat}{x y:LV}{c:CL}{q p:PV}{u z:aF}(hi:σ.1[v]?=fU x)(hc:S.1[v]?=fU c)(f:n8 x q p=fU y)(Q:VR w ad F q u)(T:VR w ad F p z):
  br (MM w) A (BJ c.1 u z) (λuu s'=>Nonempty<|cr w ad fx F ex (σ.set v y) s') ji s:=by
 refine bO (S.4.get hi) λc' E P=>?_;rw[hc] at E;injection E with I;subst I
 refine wq f (λf=>wq f (λf=>dq f λl h f=>dq f λa L f=>dq f λb M f=>A7 f λg e=>?_) λl h f=>dq f λa L f=>dq f λb M f=>A7 f λg e=>?_) λl h f=>dq f λi Z f=>?_
 .subst e;refine cU (VW h P) λd xs g0 j pr=>?_;subst j;obtain⟨t,rfl⟩:=tR L Q;obtain⟨tz,rfl⟩:=tR M T;refine wpAny_setItem_pairs (knd:=IK w) (k:=a) (by simp[BL,Value.isInt]) (nO<|S.slotAt hc) (λh' O H=>?_) (by refine Rr pr.length ?_;unfold aq at g;delta eV;exact dL .A (.n 16777216) (.z (.s .A)<|.n 1048576) rfl g);refine bO (vQ O) λo' e' U=>?_;obtain⟨J⟩:=S.wU hi (λe=>by subst e;injection h) hc H e' U (lv:=.b<|pN l a b)<|ff d _ ⟨g0,rfl,pr.put⟩;exact⟨J.tok _⟩
 .subst e;refine cU (lvD h P) λd xs g0 m pr=>?_;subst m;refine bO (EU L Q) λt r kf=>?_;subst r;obtain⟨tz,rfl⟩:=tR M T;refine wpAny_setItem_heap (Jc R) (kf.is S.sub) (xA (S.slotAt hc) pr S.sub) (λh' O H=>?_) (by refine Rr pr.length ?_;unfold aq at g;delta eV;exact dL .A (.n 16777216) (.z (.s .A)<|.n 1048576) rfl g);refine bO (I2 O) λo' e' U=>?_;obtain⟨J⟩:=S.wU hi (λe=>by subst e;injection h) hc H e' U (lv:=.a<|uX l a b)<|ff d _ ⟨g0,rfl,pr.put kf⟩;exact⟨J.tok _⟩
 .obtain⟨g,f⟩:=qp f;refine jn f λn hn e=>?_;subst e;refine lg (UC h P) λG a vs B V=>?_;subst B;obtain⟨t,rfl⟩:=tR Z Q;have g:=dG g;refine hV (JY hn g) λC W Y=>?_;subst C;refine oP (S.slotAt hc) λo ho ne D=>?_;subst D;refine yY (items:=vs.toArray) ⟨ne,ho⟩ g Y (by refine Rr bF<|Rl V.length ?_;exact W) λh' N H=>?_;refine rX N λn' e'=>?_;exact S.wU hi (λe=>by subst e;injection h) hc H e' (P':=dj<|vs.set i.toNat z) ⟨n',by simp⟩ ⟨by simpa using G,ff a _ ⟨rfl,fP.set T V⟩⟩
theorem C6
  (h:bV g (MM w) A (dS o env) (λc d=>bV g (MM w) A (dS i env) (λb f=>br (MM w) A (BJ c b v) (λa=>Q ()) E f) E d) E s):bV g (MM w) A (lL (.Subscript o i pos) env v) Q E s:=by
 rw[arm_assign_Subscript];refine am<|bJ<|aR h (λc d h₁=>?_) λa a e=>e;refine am<|bJ<|aR h₁ (λb f j=>?_) λa a e=>e;refine am<|bH<|am<|bJ<|bV.of<|cW j (λa l k=>bV.of<|tH k) λa a e=>e
theorem Iu(h:n8 .u q p=fU y):False:=nomatch h
theorem PN{st:iW}{r:Fl×St}(hi:bg w g O k i)(E:bg w g O k x)(h:eA fx)(t:P9 fx.1.1 fx.2 fx.8 (.s v i x) st=Z8)(a:ph N O (.s v i x) σ=fU r)(S:cr w ad fx F ex σ s)(R:Rm (k+1) A):
  bV g (MM w) A (yR (fS (.s v i x) st) fx.1) (oN w ad fx F ex r) ji s:=
 dq a λZ v1 a=>by
  refine iB (qp a) λho a=>bO (sA ho) λH y n0=>?_;have p:=an (an t).2;have q:=an p.2;have u:=an q.2;have n:=Bz p.1;refine dq a λy2 v2 a=>dq a λY d a=>jn a λz b B=>?_;subst B;refine jy (tw q.1) KH rfl (E.fr h u.2 v1 S R λz L Q G I m=>C6<|g9 (mT h m n y n0 λc hc P=>?_)<|lA h n);refine hi.fr (fx:=fx.pinned v c.1) (h.pinned<|dG (an t).1) u.1 v2 (m.vy hc) R λV M T o J j=>bO (j.4.get d) λc2 f D=>?_;have l:c2.1=c.1:=j.6 v c.1 df _ _ d (λe=>by subst e;exact Iu b) f;refine Rl l<|zZ (G6 j.zB R d f b J<|I.le o) λW U C=>.nx (G.trans o) C
theorem pz(hi:bg w g O k i)(b:bg w g O k x):gV w g N O k<|.s v i x:=λa c t v S R=>PN hi b a t v S R
end
theorem y0:seqSlot? (.type "list") (dunderI "add")=pure (fU<|.builtin "list.__iadd__"):=PySem.seqSlot_of PySem.F.slot_list_iadd.1<|by decide+kernel
theorem vN:fillsInplaceSlot (.type "list") "add" Z8=pure Z7:=by unfold fillsInplaceSlot;refine Rr PySem.F.slot_list_iadd.1 ?_;rfl
section
variable{w:bN}{g:Bool}{N:Nat}{O:jU}{k:Nat}{ad:Ad}{fx:Fx}{F F' F₀:FZ}{ex ex':dw}{σ σ' σ₂:St}{s s':aG}{A:bU}{α:Type}{env:mR}
theorem HU(f:s.1.get? a=fU {cls:=.type "list",data:=.seq xs n})(g:s.1.get? b=fU {cls:=.type "list",data:=.seq ys m})
  (c:xs.size+ys.size<=aq)(h:Q (.ref a) {s with heap:=s.1.update a<|Obj.mapSeq λx=>x++ys}):br (MM w) A (DC .Add (.ref a)<|.ref b) Q E s:=by
 have e:s.TypeIs (.ref a) "list":=⟨_,f,rfl⟩;have tb:s.TypeIs (.ref b) "list":=⟨_,g,rfl⟩;unfold DC;refine jx<|aH<|wpAny_typeOf e<|aH<|iY vN ?_;refine Rr (aK cJ)<|aH<|wpAny_binaryOp1_none (nm:="add") e tb noFill_list_add ?_;refine aH<|iY y0 ?_;unfold aq at c;have j:eV=2^20\/1048576<=eV:=by right;unfold eV;exact Wz (.n 1048576) (.n 16777216) .e rfl
 have d:1048576<=eV:=by unfold eV;exact Wz (.n 1048576) (.n 16777216) .e rfl
 refine aH<|mP<|IJ PySem.F.slot_list_iadd e PySem.F.entry_list_iadd (PySem.F.args_list_iadd_2 _ _) (AutoSeq1.list___iadd___list_list_0 a xs n b ys m ?_ ?_ ?_) ⟨f,g,?_⟩
 .unfold Builtin.List.listTooLong;simp only [gD,decide_eq_true_eq,not_and];intro _;exact λi=>MP (.o (.s .A) (.a .B .C)<|.o (.a .B .C) (.n 1048576)<|.z (.n 1048576) .A) rfl i c d
 .exact dT .A .B (.o (.a .A .C) (.n 1048576)<|.z (.n 1048576) .B) rfl c d
 .exact dT (.a .A .B) (.s .C) (.o (.a .A .B) (.n 1048576)<|.z (.n 1048576) .C) rfl c d
 .exact h
theorem Im:(σ.set i a).set i b=σ.set i b:=by show St.mk ((σ.1.set i a).set i b) σ.2=St.mk (σ.1.set i b) σ.2;rw[qx]
theorem Bo(hx:bg w g O k x):gV w g N O k<|.p i x:=
 λ{ad fx st F ex σ r s A} OK hpin t v S R=>by
  obtain⟨ho,v⟩:=qp v;refine bO (sA ho) λXd J n0=>?_;have D:=an (an t).2;obtain⟨hm,hf⟩:=uY D.1;refine dq v λy v1 v=>dq v λr Y v=>dq v λl T v=>A7 v λd L=>zI<|S.load OK hm J n0 λc hc Z=>?_;subst L;refine hx.fr (fx:=fx.pinned i c.1) (OK.pinned<|dG (an t).1) D.2 v1 (S.vy hc) R λu E s1 l1 r1 m=>rO (m.listAt T) λpq a vs q W n p U C uu z na e=>?_;subst e;refine Rr p<|dI (Qc Y r1) λV b us f M B=>?_;subst f;refine oP (M.get m) λob Q nb h=>?_;subst h;have P:∀N,dj (vs++us)<|gL "list" (vs.toArray++us.toArray) N:=λN=>⟨N,by simp[gL]⟩;refine HU z Q (by simp only [bF,<-C.length,<-B.length];exact d)<|ia (m.zB.take q) λc2 o hr2 j=>?_;obtain⟨H⟩:=j;cases n.symm.trans o;obtain⟨I⟩:=cr.uS (P':=dj<|vs++us) (ex:=ex) H (dC.update ..) (ke z λx=>x++us.toArray)<|P _;exact cr.store (c:=⟨.ref a,fU<|dj<|vs++us⟩) (lv:=.o<|l++r) OK I hm hf ⟨by refine Rr af ?_;exact d,ff a _ ⟨rfl,B.append C⟩⟩ (qt hpin i) λs' G=>oN.nx l1 ⟨(Im▸G:cr w ad fx E ex (y.2.set i<|.o<|l++r) s')⟩
theorem Tc(c b a:aF):augStore (fE x e) c b a=(do w4 [a,c,b] (BJ c b a);release [a,c,b] [];pure Flow.next):=by cases x<;>rfl
theorem pH(hi:bg w g O k i)(hx:bg w g O k x):gV w g N O k<|.b v i x:=
 λ{ad fx st F ex σ r s A} OK hpin t d S R=>by
  obtain⟨ho,d⟩:=qp d;refine bO (sA ho) λXd e0 n0=>?_;have Z:=an (an t).2;have t3:=an Z.2;have W:=Bz Z.1;have f:=dG (an t).1;refine dq d λy1 v1 d=>dq d λq hq d=>dq d λl hl d=>dq d λp hp d=>dq d λa ha d=>dq d λy2 v2 d=>dq d λb hb d=>dq d λz U d=>?_;obtain⟨J,d⟩:=qp d;refine jn d λz2 C er=>KD Tc<|g9 (mT OK S W e0 n0 λc hc hr=>hi.fr (fx:=fx.pinned v c.1) (OK.pinned f) t3.1 v1 (S.vy hc) R λu F1 s1 l1 Y V=>?_)<|lA OK W;subst er;have hu:=Y;obtain⟨tq,rfl⟩:=tR hq Y;refine rc (V.listAt hl) λE a1 vs1 E E E y E D H=>wq hp (λh=>nomatch h) λl' el L=>dq L λi' I M=>dq M λn hn P=>?_;injection el with j;subst j;injection I with m;subst m
  refine bO (D.get P) λxv Q T=>Rr y<|yA (dj.isList H) (D.length▸hn) Q ?_;obtain⟨ta,rfl⟩:=tR ha T;refine hx.fr (fx:=fx.pinned v c.1) (OK.pinned f) t3.2 v2 V R λz F2 s2 l2 r2 S2=>?_;obtain⟨tb,rfl⟩:=tR hb r2;refine zZ (GI (op:=.a) (c:=a+b) rfl S2 rfl) λr s3 h3=>?_;obtain⟨F3,l3,r3,⟨G⟩⟩:=h3.fz;refine bO (G.4.get U) λc3 o hr3=>?_;have B:c3.1=c.1:=G.6 v c.1 df _ _ U (λe=>by subst e;injection J) o;refine Rl y<|Rl B ?_;exact zZ (G6 (k:=k) G.zB R U o C (pa.2 ⟨tq,rfl⟩) r3) λE s4 h4=>.nx (l1.trans<|l2.trans l3) h4
theorem py(hx:bg w g O k x):gV w g N O k<|.d v x:=
 λ{ad fx st F ex σ r s A} OK hpin t d S R=>by
  obtain⟨ho,d⟩:=qp d;obtain⟨l0,ho⟩:=cg.1 ho;have M:=an (an t).2;have P:=an M.2;have L:=Bz P.1;refine dq ho λXd T p=>dq d λy v1 d=>dq d λl V d=>A7 d λb U=>?_;subst U;refine By (uk OK) (tw rfl) (GZ rfl (an t).1 xd (g9 (mT OK S L T (λe=>by subst e;injection p) λc hc Z=>?_)<|lA OK L));refine ak λG=>lg (UC p Z) λW J vs0 i rv0=>?_;subst i;refine oP (S.slotAt hc) λo ho n j=>?_;subst j;refine G<|(ff ("list") ("list.append") ⟨PySem.F.plainAttrs_list,PySem.F.slot_list_append,PySem.F.type_list_append,⟨_,ho,rfl⟩,λa e=>by injection e with f;subst f;exact⟨_,ho,rfl⟩,?_⟩);refine hx.fr (fx:=fx.pinned v<|.ref J) (OK.pinned<|dG M.1) P.2 v1 (S.vy hc) R λz F1 s1 l1 r1 I=>ak λG=>rO (I.listAt V) λpq a1 u E H B C Y q uu ho n m=>?_;subst m;refine G ?_;injection C with h;subst h
  refine bV.of (MW (items:=u.toArray) ⟨n,ho⟩ (λh' D hs=>?_)<|by refine Rr bF<|Rl q.length ?_;unfold aq at b;unfold eV;exact dL .A (.n 16777216) (.z (.s .A)<|.n 1048576) rfl b);obtain⟨n',e'⟩:=D;obtain⟨Q⟩:=I.zB.wU (lv:=.o<|l++[y.1]) (P':=dj<|u++[z]) E (λe=>by subst e;injection H) B hs e' ⟨n',by simp⟩ ⟨by simp;exact b,ff J _ ⟨rfl,((dN.2 rfl).cons r1).append q⟩⟩;exact⟨rfl,.nx l1 ⟨Q⟩⟩
end
theorem Jl(hc:c∈kl):(lJ c).length<=eV:=by
 have a:∀c∈kl,(lJ c).length<=5:=by decide+kernel
 have:=a c hc;unfold eV;exact dL .A (.n 16777216) (.z .A<|.n 5) rfl this
section
variable{w:bN}{g:Bool}{N:Nat}{O:jU}{k:Nat}{ad:Ad}{fx:Fx}{F F' F₀:FZ}{ex ex' L:dw}{σ σ' σ₂:St}{s s':aG}{A:bU}{α:Type}{env:mR}{os:gv}
theorem Fv(B:qW w s.1)(hc:c∈kl)(R:f∈lJ c)
  (T:∃o,s.1.get? x=fU o/\vC c d o)(hd:∃o,s.1.get? d=fU o/\jh m o)(H:d≠x)(hw:Within m<|lJ c)
  (hq:∀h' i,iR d s.1 h'->(∃o,h'.get? d=fU o/\jh (λy=>if y=f then fU v else m y) o)->Q () {s with heap:=h',toks:=i}):
  br (MM w) A (setAttr (.ref x) f v) Q E s:=by
 refine lW (vm w.2 hc) λnm q k0 k1 k2 k3 k5 e=>?_;have O:=B.1 _ _ e;refine tS T λL k P n a=>?_;have J:x≠c:=by
  rintro rfl
  rw[O] at k;injection k with p;subst p
  exact n _ rfl
 obtain⟨h,gn,dr,t,os⟩:=s;refine store_attr (ns:=lJ c) PySem.F.store_object O (B.Tz hc) (su hc<|by simp[qg]) (su hc<|aw _ R) (Aq hc R) J (u1 T hd H) (λh' i Z hk g=>?_) hw<|Jl hc;refine p8 (g L k) λG M V W Y s4=>?_;have ho:G=L:=by have:=s4 d a;obtain⟨a1,a2,a3,a4⟩:=G;obtain⟨b1,b2,b3,b4⟩:=L;simp only at V W Y this a;exact Rr V<|Rr W<|Rr Y<|Rr this<|Rr a rfl
 subst ho;refine hq h' i (λb o hb N=>?_) ?_
 .by_cases l:b=x
  .subst l;have:fU o=fU G:=N.symm.trans k;injection this with r;subst r;exact M
  .refine hk b o l (λU dx F j=>?_) N;have:fU U=fU G:=F.symm.trans k;injection this with u;subst u
   rw[a] at j;injection j with z;subst z;exact hb
 .refine tS Z λU F uu uu I=>?_;rw[M] at F;injection F with C;subst C
  rcases I with⟨S,_⟩|⟨d',j,_,hN⟩
  .rw[a] at S;injection S
  .rw[a] at j;injection j with D;subst D
   exact jh.of hN
theorem cr.Fy(G:eA fx)(S:cr w ad fx F ex σ s)(a:fx.7=fU (c,D))(U:(f,i)∈fx.8.1)(hp:VR w ad F p v)(t:∀u,(i,u)∉fx.9)
  {Q:Unit->aG->Prop}{E:aF->aG->Prop}(h:∀s',cr w ad fx F ex (σ.set i<|.f p) s'->Q () s'):br (MM w) A (setAttr (.ref ad.6) f v) Q E s:=by
 refine mE (G.9 f i U) λH W b g=>?_;rw[a] at b;injection b with x;cases x
 refine iB (GC g) λJ M=>iB (G.6 c D a) λn O=>?_;have V:=O f i U;refine hV (S.7 c D a) λr fa d=>?_;have m:c≠127:=by rintro rfl;exact bq g bj
 have k:lJ c=dp c:=by unfold lJ;exact Rr (aK m) rfl
 have Y:(D,jh<|S.2 D)∈dU fx S.2 S.3:=aw _<|aD _<|aE.2 ⟨D,n,rfl⟩;refine Fv S.B J M (fa.get S) (S.8.at<|aD _ Y) r (λy C=>by
  refine Rr k ?_;by_cases q:y∈dp c
  .exact q
  .exact bq (d y q) C) λh' R o L=>?_
 refine bO L λo' e' po=>?_;refine h _ ⟨S.1.set i ⟨v,Z9⟩,ln S.2 D f v,S.3,S.4.set ⟨rfl,hp⟩,Em S.5 V S.4.length nh.Me λj l u B e hu=>nh.Go hu λe'=>B<|G.3 j i _ (e'▸e) V<|by simp,
  λj u B P H I Z T=>?_,λH W e=>?_,(GS.Uk (GS.setC (c:=⟨v,Z9⟩)<|by refine Rr ij ?_;exact S.8) n o e'<|tx▸po).tok R⟩
 .have N:i≠j:=λe=>t u<|e▸B;simp only at I;rw[eD N] at I T;exact S.6 j u B P H I Z T
 .rw[a] at e;injection e with z;cases z
  refine⟨r,fa,λy C=>?_⟩;refine Rr tx<|(aK λe:y=f=>C<|e▸g).trans<|d y C
end
section
variable{w:bN}{g:Bool}{N:Nat}{O:jU}{k:Nat}{ad:Ad}{fx:Fx}{F F' F₀:FZ}{ex ex' L:dw}{σ σ' σ₂:St}{s s':aG}{A:bU}{α:Type}{env:mR}{os:gv}
theorem Bp:w5 v (fU<|.Attribute o f p) l env=pure Z7:=by cases v<;>rfl
theorem ni
  (h:bV g (MM w) A (dS o env) (λb c=>br (MM w) A (setAttr b f v) (λa=>Q ()) E c) E s):bV g (MM w) A (lL (.Attribute o f pos) env v) Q E s:=by
 rw[arm_assign_Attribute];refine am<|bJ<|aR h (λb c h₁=>?_) λa a e=>e;exact am<|bH<|am<|bJ<|bV.of<|cW h₁ (λa i d=>bV.of<|tH d) λa a e=>e
theorem Bw
  (h:br (MM w) A (dS o env) (λa b=>br (MM w) A (setAttr a f v) (λc=>Q ()) E b) E s):br (MM w) A (lL (.Attribute o f pos) env v) Q E s:=
 (ni (g:=Z7)<|.of h).any
theorem jD(o:bg w g O k x):gV w g N O k<|.g i x:=
 λ{ad fx st F ex σ r s A} OK hpin t v S R=>dq v λy v1 v=>by
  obtain⟨d,v⟩:=qp v;injection v with a;subst a
  have l:=an (an t).1;have h:=Bz l.1;have j:=Bz l.2;refine jy Bp vH rfl (o.fr OK (an t).2 v1 S R λz u C p q f=>ni<|g9 (mT OK f h (wP d) (λe=>nomatch e) λc hc n=>?_)<|lA OK h);cases(n:c=_);refine mE (OK.9 _ _ j) λB D b E=>f.Fy OK b j q (qt hpin i) λs' m=>.nx p ⟨m⟩
theorem Ox(b:eA fx)(S:cr w ad fx F ex σ s)(a:tD σ=Z8)(d:(x,0)∈fx.2)(h:Q (.ref ad.6) s):br (MM w) A (dS (.Name x p) fx.1) Q E s:=
 (g9 (g:=Z7) (mT b S d (wP a) (λe=>nomatch e) λc hc f=>by cases(f:c=_);exact h)<|lA b d).any
theorem Mt(h:tD σ=Z8)(hi:i≠0):tD (σ.set i<|.f p)=Z8:=by
 obtain⟨sl,W⟩:=σ;cases sl with
 |nil=>injection h
 |cons a r=>
  cases i with
  |zero=>exact bq rfl hi
  |succ i=>exact h
theorem Rs(c:eA fx)(j:(x,i)∈fx.8.1)(k:(y,0)∈fx.2):i≠0:=λe=>by
 subst e;refine mE (c.9 _ _ j) λg D f l=>?_;have h:=(c.6 g D f).2 _ _ j;rcases(c.2 y 0 k).2.2 with⟨_,d⟩|⟨_,cc,_,d⟩
 .rw[h] at d;injection d with a b;subst a b
  exact c.7 (c.6 g _ f).1
 .rw[h] at d;injection d
theorem Lb(d:eA fx)(b:fx.9=[]):∀{es:List dH} {is:List Nat} {ps:List PV} {vs:List aF} {σ:St} {s:aG},VJ fx.2 fx.8 es is=Z8->fP w ad F ps vs->ps.length=es.length->tD σ=Z8->cr w ad fx F ex σ s->
  br (MM w) A (assignInOrder ((oE (es.map UT) fx.1).map (·.2)) vs) (GQ w ad fx F ex<|Ax is ps σ) ji s
 |[],is,ps,vs,σ,s=>λT a a a S=>by
  cases is with
  |nil=>exact bB<|by cases ps<;>exact⟨S⟩
  |cons i is=>exact nomatch T
 |e::es,[],_,_,_,_=>λT a a a a=>nomatch T
 |e::es,i::is,[],_,_,_=>λa a h a a=>nomatch h
 |e::es,i::is,p::ps,_,σ,s=>λT r h f S=>by
  refine cU (cZ.1 r) λv vs c m n=>?_;subst c;obtain⟨t1,o⟩:=an T;have k:=Bz (an t1).1;have g:=Bz (an t1).2;refine mE (d.9 _ _ g) λq D j a=>aH<|jx<|Bw<|Ox d S f k<|S.Fy d j g m (qt b i) λt l=>Lb d b (is:=is) (ps:=ps) o n (ky.inj h) (Mt f<|Rs d g k) l
theorem CC:∀{es:List dH},(oE (es.map UT) env).findIdx? (·.1)=Z9/\(oE (es.map UT) env).length=es.length:=by
 intro es;induction es with
 |nil=>exact⟨rfl,rfl⟩
 |cons e es c=>obtain⟨a,b⟩:=c;refine⟨?_,bx ky b⟩;refine Rr List.findIdx?_cons ?_;simp only [cq,if_false,a,Option.map_none]
theorem GJ:∀{es:List dH} {is:List Nat},VJ tb mtb es is=Z8->es.length=is.length
 |[],[]=>λa=>rfl
 |_::_,_::_=>λh=>bx ky<|GJ (an h).2
 |[],_::_=>λh=>nomatch h
 |_::_,[]=>λh=>nomatch h
theorem yb(E:bg w g O k x):gV w g N O k<|.o is x:=
 λ{ad fx st F ex σ r s A} OK hpin t v S R=>dq v λy v1 v=>by
  obtain⟨j,v⟩:=qp v;refine jn v λσ2 b er=>?_;subst er;have B:=(an t).1;have p:=an (an t).2;have q:=an p.2;have m:=an q.2;have c:=GJ m.1;refine jy (tw q.1) (CK p.1) rfl (E.fr OK m.2 v1 S R λu J L G H n=>?_);refine wq b (λb=>dq b λl C b=>?_) λi hi b=>?_
  .obtain⟨h,b⟩:=qp b;injection b with d;subst d
   refine dI (Vy C H) λI a vs f fa rr=>?_;subst f;have h:=fN h;exact bV.of<|wpAny_assign_Tuple R.3 (rx.at' fa n.sub) (Rr CC.2<|Rr bF<|Rl rr.length<|Rr h<|Rr c rfl) CC.1 λh' D=>zZ (Lb OK hpin m.1 rr (h.trans c.symm) j<|n.keep λa o e=>D a o (λe'=>cB _<|e'▸dY e) e) λI M z=>.nx G z
  .cases Ln hi;exact bq (dG B)<|Nat.not_succ_le_self 1
theorem He(a:W.1=fU b):gB ad W=(ad.2,xj ad b)::(ad.3,qZ b.1)::qK ad W.2:=by unfold gB;refine Rr a ?_;rfl
theorem cr.Ue(S:cr w ad fx F ex σ s)(c:σ.2.1=fU b)(d:h.1=b.1)(a:iR ad.2 s.1 h')(e:∃o,h'.get? ad.2=fU o/\xj ad h o):
  Nonempty (cr w ad fx F ex (wg σ h) {s with heap:=h',toks:=t}):=by
 refine bO e λg e' f=>?_;have G:=S.8;rw[He c,<-d] at G;exact⟨⟨S.1,S.2,S.3,S.4,S.5,S.6,S.7,(((G.rg [dU fx S.2 S.3,ci S.1,ex,[(ad.2,xj ad b)],(ad.3,qZ h.1)::qK ad σ.2.2] (.n (.l 0)<|.n (.l 1)<|.n (.l 2)<|.n (.l 3)<|.l 4) (.n (.l 3)<|.n (.l 0)<|.n (.l 1)<|.n (.l 2)<|.l 4) rfl).RD a e' f).rg
  [dU fx S.2 S.3,ci S.1,ex,[(ad.2,xj ad h)],(ad.3,qZ h.1)::qK ad σ.2.2] (.n (.l 3)<|.n (.l 0)<|.n (.l 1)<|.n (.l 2)<|.l 4) (.n (.l 0)<|.n (.l 1)<|.n (.l 2)<|.n (.l 3)<|.l 4) rfl).tok t⟩⟩
theorem Dd(h:qG σ=Z8):∃lv,σ.1[0]?=fU lv/\Fe lv=fU .o:=by
 unfold qG at h;obtain⟨sl,W⟩:=σ;cases sl with
 |nil=>injection h
 |cons x sl=>cases x<;>first|cases h|exact⟨_,rfl,bx fU<|xB h⟩
theorem N0{m:eT->Option aF}{l:Hj}(a:m (aa "made")=fU (.ref ad.3))(p:f=aa "held"\/∃t,m (aa "held")=fU (.int h.2 t))(hc:f=aa "count"\/∃t,m (aa "count")=fU (.int h.3 t))
  (k:∀x,x≠aa "made"->x≠aa "held"->x≠aa "count"->m x=Z9)(o:f=aa "held"/\(∃t,v=.int h.2 t)\/f=aa "count"/\∃t,v=.int h.3 t)(n:jh (λy=>if y=f then fU v else m y) l):xj ad h l:=by
 have j:aa "made"≠aa "held":=by decide+kernel
 have i:aa "made"≠aa "count":=by decide+kernel
 have b:aa "held"≠aa "count":=by decide+kernel
 rcases o with⟨rfl,t,rfl⟩|⟨rfl,t,rfl⟩
 .exact⟨_,n,(aK j).trans a,⟨t,bf rfl⟩,(by obtain⟨u,e⟩:=hc.resolve_left b;exact⟨u,(aK<|Ne.symm b).trans e⟩),λy g c d=>(aK c).trans<|k y g c d⟩
 .exact⟨_,n,(aK i).trans a,(by obtain⟨u,e⟩:=p.resolve_left<|Ne.symm b;exact⟨u,(aK b).trans e⟩),⟨t,bf rfl⟩,λy g c d=>(aK d).trans<|k y g c d⟩
theorem Nj:∀{f:Nat},1<=f->f<3->f=1\/f=2:=by
 intro f a b
 revert a;revert f;decide
theorem pv{f:Nat}(Y:bg w g O k x):gV w g N O k<|.h f x:=
 λ{ad fx st F ex σ r s A} OK hpin t v S R=>dq v λy v1 v=>dq v λi hi v=>dq v λb u v=>by
  obtain⟨ho,v⟩:=qp v;refine jn v λq P V=>?_;subst V;have J:=Bz (an t).1;have t2:=an (an t).2;have Q:=an t2.2;refine bO (Dd ho) λXd C T=>jy Bp vH rfl (Y.fr OK Q.2 v1 S R λz F1 s1 l1 r1 p=>ni<|g9 (mT OK p J C (Ky T) λc hc W=>?_)<|lA OK J);obtain⟨tz,rfl⟩:=tR hi r1;refine hV (xM.1 (V1 T W).2) λC I fa=>Rr C ?_;obtain⟨⟨od,U,m,pm,l,j,d,a⟩,_⟩:=p.zu u;have H:uC f∈pD/\q.1=b.1/\(uC f=aa "held"/\(∃t,Value.int i tz=.int q.2 t)/\q.3=b.3\/uC f=aa "count"/\(∃t,Value.int i tz=.int q.3 t)/\q.2=b.2):=by
   have M:=dG Q.1;rcases Nj M.1 M.2 with rfl|rfl
   .injection P with n;subst n;exact⟨.tail _<|.head _,rfl,.inl ⟨rfl,⟨tz,rfl⟩,rfl⟩⟩
   .injection P with o;subst o;exact⟨.tail _<|.tail _<|.head _,rfl,.inr ⟨rfl,⟨tz,rfl⟩,rfl⟩⟩
  refine hV H λE G e=>?_;refine Fv (c:=127) (m:=m) p.B (.head _) E (fa.get p) ⟨od,U,pm⟩ I (λy Z=>?_) λh' tk' B D=>?_
  .by_cases L:y=aa "made"
   .refine Rr L ?_;exact .head _
   .by_cases u:y=aa "held"
    .refine Rr u ?_;exact .tail _<|.head _
    .by_cases hc:y=aa "count"
     .refine Rr hc ?_;exact .tail _<|.tail _<|.head _
     .exact bq (a y L u hc) Z
  .refine bO D λo' e' po=>?_;exact .nx l1<|p.Ue u G B ⟨o',e',N0 l (e.elim (λh=>.inl h.1) λh=>.inr<|h.2.2▸j) (e.elim (λh=>.inr<|h.2.2▸d) λh=>.inl h.1) a (e.elim (λh=>.inl ⟨h.1,h.2.1⟩) λh=>.inr ⟨h.1,h.2.1⟩) po⟩
end
section
variable{g:Bool}{α:Type}{w:bN}{A:bU}{s:aG}{env:mR}{R:Result->aG->Prop}
theorem Cb[Decidable c](h:bV g M A (k ()) Q E s):
  bV g M A (if c then(kH pos>>=k) else k ()) Q E s:=by
 split
 .exact am<|bH h
 .exact h
def M5(M:Model)(A:bU)(b:Option<|aF->DB Unit)(Q:aF->aG->Prop)(acc:aF)(C:bW)(s':aG):Prop:=
 match b with
 |none=>∃m,s'.1.Ns C m/\∀h',dC C s'.1 h'->Q acc {s' with heap:=h'}
 |some u=>br M A (u acc) (λc a=>∃m,a.1.Ns C m/\∀h',dC C a.1 h'->Q .none {a with heap:=h'}) vg s'
theorem wC
  {Q:aF->aG->Prop}
  (p:clausesOf e=G::gs)(F:∀x,kI G.2 env x=pure x)(d:va scope env=pure cl)
  (b:scope.1=.function)(c:∀x∈scope.2,x.2=.local->scope.2.lookup x.1=fU .local)
  (h:bV g (MM w) A first (λx B=>br (MM w) A (IG x) (λit C=>br (MM w) A i (λacc D=>
   br (MM w) A (newFunctionEnv scope env.3 cl [] env.5 Z9 .none<|fU env) (λcenv E=>iy g (MM w) A (.compStart e 0 it acc {cenv with scope:=Hl scope env}) (λr s'=>match r with|.ok _=>M5 (MM w) A use Q acc cenv.2 s'|.error _=>False) E) vg D) vg C) vg B) vg s):
  bV g (MM w) A (yX e scope env pos i Z7 first use) Q vg s:=by
 delta yX;refine Rr d<|Rr p ?_;refine am<|aR h (λx B h₁=>am<|bH<|am ?_) λa a h'=>h';show bV g (MM w) A (kI G.2 env x) _ _ B;refine Rr (F x)<|aO (am (bJ (bV.of (cW h₁ (λit C H=>
  Cb (am<|bV.of<|cW H (λacc D I=>am<|aO<|am<|bV.of<|cW I (λcenv E J=>?_) λa a h'=>h') λa a h'=>h'))
   λa a h'=>h'))))
 dsimp only;have t:∀x∈(scope.2.filter λx=>(x.2==.local||x.2==.cell)&&x.1 !=(".0":eT)).reverse,x.2=.local->
   Env.kindOf {cenv with scope:=Hl scope env} x.1=fU .local:=λx y n=>lookup_relabel_local<|c x (fJ.1<|List.mem_reverse.1 y).1 n
 have v:∀x∈(scope.2.filter λx=>(x.2==.local||x.2==.cell)&&x.1 !=(".0":eT)).reverse.drop 1++(scope.2.filter λx=>(x.2==.local||x.2==.cell)&&x.1 !=(".0":eT)).reverse.take 1,
   x.2=.local->Env.kindOf {cenv with scope:=Hl scope env} x.1=fU .local:=λx y n=>by
  rcases a7.1 y with o|o
  .exact t x (jR o) n
  .exact t x (fk o) n
 refine bJ (am<|Co<|bJ<|FM (kO J λr s' l=>?_)<|by intro x;cases x);cases r with
 |ok f=>
  cases use with
  |none=>obtain⟨m,q,l⟩:=l;exact am<|bV.of<|jx<|wpAny_comp_letGo (cenv:={cenv with scope:=Hl scope env}) b _ s' m t q λh' L a k=>aO<|l h' k
  |some u=>refine am<|bV.of<|mP<|am<|bJ<|bV.of<|cW l (λa z j=>?_) λa a h'=>h';obtain⟨m,q,j⟩:=j;exact am<|bV.of<|wpAny_comp_letGo (cenv:={cenv with scope:=Hl scope env}) b _ z m v q λh' L a k=>aO<|j h' k
 |error x=>exact l.elim
theorem vY(k:gens[d]?=fU i)(j:i.4=0)
  (c:iy g (MM w) A (.compLoop (.ListComp elt gens scope pos) d it acc env) R s)
  (h:br (MM w) A (IG it) (λa s'=>iy g (MM w) A (.compLoop (.ListComp elt gens scope pos) d a acc env) R s') vg s):
  iy g (MM w) A (.compStart (.ListComp elt gens scope pos) d it acc env) R s:=by
 refine eP rfl ?_;show bV g _ _ ((compStart (.ListComp elt gens scope pos) d it acc env).onRaise λx=>do DD x env;kH theWindowsPlace) _ _ s;refine rN ?_;delta compStart;have e:clausesOf (.ListComp elt gens scope pos)=gens:=rfl;refine Rr e<|Rr k ?_;have f:((fU i).elim Z7 λx=>x.4 !=0)=Z7:=by simp-iota [j]
 refine Rr f ?_;simp-iota only [cq,if_false];refine am<|bV.of<|wpAny_askSetting ?_;split
 .first
   |exact am<|aO<|aO<|And.intro rfl c
   |exact aO<|And.intro rfl c
 .first
   |exact am<|bV.of<|mP<|am<|bH<|am<|bV.of<|cW h (λa s' h'=>aO<|And.intro rfl h') λb b x=>x
   |(refine am<|bV.of<|mP ?_;exact am<|bH<|am<|bV.of<|cW h (λa s' h'=>aO<|And.intro rfl h') λb b x=>x)
def HQ(g:Bool)(w:bN)(A:bU)(c:Code)(n:Nat)(I:Nat->aG->Prop)(a:DB Fin)(s:aG):Prop:=
 bV g (MM w) A a (λfin s'=>match fin with|.done _=>False|.again c'=>c'=c/\∃m,m<n/\I m s') vg s
theorem Fa(I:Nat->aG->Prop)
  (j:ui (.ListComp elt gens scope pos) d it acc env=(kH p>>=λa=>u8 it>>=λr=>match r with
   |none=>pure<|.done .next
   |some v=>gR IP it v>>=λa=>lL IP env v>>=λa=>tail))
  (i:∀n s,I n s->br (MM w) A (u8 it) (λr b=>match r with
   |none=>R (.ok .next) b
   |some v=>br (MM w) A (gR IP it v) (λa b=>br (MM w) A (lL IP env v) (λa k=>HQ g w A (.compLoop (.ListComp elt gens scope pos) d it acc env) n I tail k) vg b) vg b) vg s)
  (n:Nat)(h:I n s):iy g (MM w) A (.compLoop (.ListComp elt gens scope pos) d it acc env) R s:=by
 refine xm rfl rfl I (λn s l=>?_) n h;show bV g _ A ((ui (.ListComp elt gens scope pos) d it acc env).onRaise λx=>do DD x env;vh x) _ _ s;refine rN<|Rr j<|am<|bH<|am<|bV.of<|cW (i n s l) (λr b h₁=>?_) λa a h'=>h';cases r with
 |none=>exact aO h₁
 |some v=>refine am<|bV.of<|cW h₁ (λa b h₁=>?_) λa a h'=>h';refine am<|bV.of<|cW h₁ (λa k m=>?_) λa a h'=>h';exact aR m (λfin s' q=>by cases fin with|done f=>exact q.elim|again c=>exact q) λa a e=>e
theorem Fh{f:dH->Bool->DB (ForInStep Bool)}(a:∀c,f c Z7=pure (.yield Z7)):∀l:List dH,forIn l Z7 f=pure Z7:=by
 intro l;induction l with
 |nil=>exact rfl
 |cons c r b=>exact by rw[kF,a,pure_bind];exact b
theorem HG{f:dH->Bool->DB (ForInStep Bool)}(a:∀c,f c Z7=pure (.yield Z7))(d:∀c,f c Z8=(mO c env (dS c env)>>=λb=>pure<|.yield b)):∀l:List dH,forIn l Z8 f=u7 .And l env:=by
 intro l;induction l with
 |nil=>exact rfl
 |cons c r e=>
  rw[kF,d,bind_assoc]
  congr 1
  funext b
  rw[pure_bind];cases b with
  |false=>exact Fh a r
  |true=>exact e
noncomputable def yu(ifs:List dH)(env:mR)(X:DB Unit)(c:Code):DB Fin:=do
    let mut ok:=Z8
    for c in ifs do
     if ok then ok<-mO c env<|dS c env
    if ok then X
    again c
noncomputable def Bi(elt:dH)(env:mR)(acc:aF):DB Unit:=do let _<-call (.builtin "list.append") [acc,<-dS elt env]
theorem N7
  (h:bV g (MM w) A (u7 .And ifs env) (λb d=>if b then bV g (MM w) A X (λa s'=>∃m,m<n/\I m s') vg d else∃m,m<n/\I m d) vg s):HQ g w A c n I (yu ifs env X c) s:=by
 delta HQ yu;refine am<|Rr (HG (env:=env) (λc=>by simp) (λc=>by simp) ifs)<|aR h (λb d q=>?_) λa a e=>e;cases b with
 |false=>exact aO ⟨rfl,q⟩
 |true=>exact am<|aR q (λa s' q=>aO ⟨rfl,q⟩) λa a e=>e
theorem Qw(elt t i:dH)(ifs:List dH)(scope:i5)(pos:Pos)(it acc:aF)(env:mR):
  ui (.ListComp elt [⟨t,i,ifs,0⟩] scope pos) 0 it acc env=(kH i.pos>>=λa=>u8 it>>=λr=>match r with
   |none=>pure<|.done .next
   |some v=>gR t it v>>=λa=>lL t env v>>=λa=>yu ifs env (Bi elt env acc)<|.compLoop (.ListComp elt [⟨t,i,ifs,0⟩] scope pos) 0 it acc env):=by rfl
theorem MZ(elt t i u j:dH)(ifs a:List dH)(scope:i5)(pos:Pos)(it acc:aF)(env:mR):
  ui (.ListComp elt [⟨t,i,ifs,0⟩,⟨u,j,a,0⟩] scope pos) 1 it acc env=(kH j.pos>>=λb=>u8 it>>=λr=>match r with
   |none=>pure<|.done .next
   |some v=>gR u it v>>=λb=>lL u env v>>=λb=>yu a env (Bi elt env acc)<|.compLoop (.ListComp elt [⟨t,i,ifs,0⟩,⟨u,j,a,0⟩] scope pos) 1 it acc env):=by rfl
noncomputable def uT(e j:dH)(d:Nat)(env:mR)(acc:aF)(c:Code):DB Fin:=do
    let mut ok:=Z8
    for c in([]:List dH) do
     if ok then ok<-mO c env<|dS c env
    if ok then
     let x<-dS j env
     kH j.pos
     let x<-kI j env x
     let _<-runOwn (.compStart e d (<-w4 [x]<|IG x) acc env) env
    again c
theorem NW(elt t i u j:dH)(a:List dH)(scope:i5)(pos:Pos)(it acc:aF)(env:mR):
  ui (.ListComp elt [⟨t,i,[],0⟩,⟨u,j,a,0⟩] scope pos) 0 it acc env=(kH i.pos>>=λb=>u8 it>>=λr=>match r with
   |none=>pure<|.done .next
   |some v=>gR t it v>>=λb=>lL t env v>>=λb=>uT (.ListComp elt [⟨t,i,[],0⟩,⟨u,j,a,0⟩] scope pos) j 1 env acc<|.compLoop (.ListComp elt [⟨t,i,[],0⟩,⟨u,j,a,0⟩] scope pos) 0 it acc env):=by
 rfl
theorem Rt(k:∀x,kI j env x=pure x)
  (h:bV g (MM w) A (dS j env) (λx b=>br (MM w) A (IG x) (λit i=>iy g (MM w) A (.compStart e d it acc env) (λr s'=>match r with|.ok _=>∃m,m<n/\I m s'|.error _=>False) i) vg b) vg s):
  HQ g w A c n I (uT e j d env acc c) s:=by
 delta HQ uT;simp-iota only [List.forIn_nil];refine am<|aO ?_;simp-iota only [if_true];refine am<|aR h (λx b h₁=>am<|bH ?_) λa a e=>e;rw[k];refine am<|aO<|am<|bJ<|bV.of<|cW h₁ (λit i l=>?_) λa a e=>e;exact am<|yB<|kO l λr s' q=>by cases r with|ok f=>exact aO ⟨rfl,q⟩|error e=>exact q
end
theorem tM(h:sc.2.lookup n=fU k):
  (zg sc outer).2.lookup n=fU (if k==.free&&outer.1==.function&&outer.2.lookup n==fU .cell then .cell else k):=by
 unfold zg;show(sc.2.map _).lookup n=_;generalize sc.2=names at h⊢
 induction names with
 |nil=>simp at h
 |cons p r c=>
  obtain⟨m,k'⟩:=p;refine Rr az ?_;show List.lookup n ((if(k'==.free&&outer.1==.function&&outer.2.lookup m==fU .cell)=Z8 then(m,NameKind.cell) else(m,k'))::_)=_;rw[ek] at h;cases b:n==m with
  |true=>
   rw[b] at h;injection h with a;subst a
   have:n=m:=fN b;subst this;split<;>simp_all [ek]
  |false=>rw[b] at h;split<;>(refine Rr ek ?_;simp only [b];exact c h)
theorem zo{β:Type}[BEq β][LawfulBEq β]{γ:Type}{f:β->Option γ}:∀{l:List<|β×γ} {n:β},(∀p∈l,f p.1=fU p.2)->n∈l.map (·.1)->l.lookup n=f n:=by
 intro l;induction l with
 |nil=>intro n _ h;simp at h
 |cons p l g=>
  intro n a h;obtain⟨m,c⟩:=p;refine Rr ek ?_;cases b:n==m with
  |true=>have:n=m:=fN b;subst this;exact(a _ df).symm
  |false=>
   refine g (λp d=>a p<|fj _ d) ?_;rcases ax.1 h with e|e
   .simp only at e;subst e;simp at b
   .exact e
noncomputable def uR(env:mR)(names:List<|eT×IM)(acc:List<|eT×bW):List<|eT×bW:=
 names.foldl (λcs x=>if x.2==.free then(x.1,(env.4.lookup x.1).getD 0)::cs else cs) acc
theorem H7:∀{names:List<|eT×IM} {acc:List<|eT×bW} {p:eT×bW},p∈uR env names acc->p∈acc\/∃x∈names,x.2=.free/\p=(x.1,(env.4.lookup x.1).getD 0):=by
 intro names;induction names with
 |nil=>intro _ p;exact λh=>.inl h
 |cons x r c=>
  intro acc p h;rcases c h with h|⟨y,b,h⟩
  .dsimp only at h;by_cases a:(x.2==.free)=Z8
   .rw[bf a] at h;rcases ax.1 h with e|e
    .exact .inr ⟨x,df,by simpa using a,e⟩
    .exact .inl e
   .rw[aK a] at h;exact .inl h
  .exact .inr ⟨y,fj _ b,h⟩
theorem H5:∀{names:List<|eT×IM} {acc:List<|eT×bW} {n:eT},(n,NameKind.free)∈names\/n∈acc.map (·.1)->n∈(uR env names acc).map (·.1):=by
 intro names;induction names with
 |nil=>
  intro _ n h;rcases h with h|h
  .cases h
  .exact h
 |cons x r a=>
  intro acc n h;refine a ?_;rcases h with h|h
  .rcases ax.1 h with e|e
   .subst e;right;simp
   .exact .inl e
  .right
   dsimp only;split
   .exact fj _ h
   .exact h
theorem zh(h:∀x∈scope.2,x.2=.free->(env.4.lookup x.1).isSome=Z8):va scope env=pure (uR env scope.2 []):=by
 simp only [va];generalize ([]:List<|eT×bW)=acc;generalize scope.2=names at h⊢
 induction names generalizing acc with
 |nil=>rfl
 |cons x r f=>
  obtain⟨n,k⟩:=x;rw[kF];have e:=λy g=>h y<|fj _ g;by_cases c:(k==NameKind.free)=Z8
  .refine rX (cg.1<|h (n,k) df<|by simpa using c) λa d=>?_;have d:env.4.lookup n=fU a:=d;have b:cellOf env n=pure a:=by unfold cellOf;exact Rr d rfl
   simp only [c,if_true,b,pure_bind];refine Rr (f _ e) ?_;show _=pure (uR env r (if(k==NameKind.free)=Z8 then(n,(env.4.lookup n).getD 0)::acc else acc));refine Rr (bf c)<|Rr d ?_;rfl
  .simp only [c,if_false,pure_bind,cq];refine Rr (f _ e) ?_;show _=pure (uR env r (if(k==NameKind.free)=Z8 then(n,(env.4.lookup n).getD 0)::acc else acc));exact Rr (aK c) rfl
noncomputable def iM(fx:Fx)(xs:List eT)(is:List Nat)(L:bW):Nat->Loc:=λi=>((is.zip xs).lookup i).elim (fx.3 i) λx=>.n L x
noncomputable abbrev Fx.inner(fx:Fx)(cenv:mR)(tb:te)(xs:List eT)(is:List Nat)(L:bW):Fx:={fx with env:=cenv,tbl:=tb,loc:=iM fx xs is L,nsA:=L::fx.4}
theorem xF:∀{xs:List eT} {is:List Nat} {x:eT} {i:Nat},is.Nodup->(x,i)∈xs.zip is->(is.zip xs).lookup i=fU x
 |[],_,_,_=>λd h=>by simp at h
 |_::_,[],_,_=>λd h=>by simp at h
 |y::xs,j::is,x,i=>λc h=>by
  refine Rr eH<|Rr ek ?_;rw[eH] at h;rcases ax.1 h with e|e
  .injection e with a b;subst a b;simp
  .have hi:i∈is:=(iG e).2;have:i≠j:=λe=>(cN.1 c).1<|e▸hi;refine Rr (show(i==j)=Z7 by simpa using this)<|xF (cN.1 c).2 e
theorem yH:∀{xs:List eT} {is:List Nat} {x:eT} {i:Nat},(is.zip xs).lookup i=fU x->(x,i)∈xs.zip is
 |[],is,_,_=>λh=>by cases is<;>simp at h
 |_::_,[],_,_=>λh=>by simp at h
 |y::xs,j::is,x,i=>λh=>by
  rw[eH,ek] at h;refine Rr eH ?_;cases b:i==j with
  |true=>rw[b] at h;have:i=j:=fN b;injection h with a;subst a this;exact df
  |false=>rw[b] at h;exact fj _<|yH h
theorem yC{xs:List eT}{is:List Nat}{i:Nat}(h:i∉is):(is.zip xs).lookup i=Z9:=by
 cases e:(is.zip xs).lookup i with
 |none=>rfl
 |some x=>exact bq (iG<|yH e).2 h
theorem Gg:∀{xs:List eT} {is:List Nat} {x:eT} {i j:Nat},xs.Nodup->(x,i)∈xs.zip is->(x,j)∈xs.zip is->i=j
 |[],_,_,_,_=>λn h n=>by simp at h
 |_::_,[],_,_,_=>λn h n=>by simp at h
 |y::xs,a::is,x,i,j=>λo h h'=>by
  rw[eH] at h h';have no:∀{b},x=y->(x,b)∈xs.zip is->False:=λe p=>(cN.1 o).1<|e▸(iG p).1;rcases ax.1 h with e|e<;>rcases ax.1 h' with e'|e'
  .injection e with c d;subst c d;injection e' with _ f;subst f;rfl
  .injection e with g k;subst g k;exact(no rfl e').elim
  .injection e' with l m;subst l m;exact(no rfl e).elim
  .exact Gg (cN.1 o).2 e e'
section
variable{w:bN}{g:Bool}{N:Nat}{O:jU}{k:Nat}{ad:Ad}{fx:Fx}{F F' F₀:FZ}{ex ex':dw}{σ σ' σ₂:St}{s s':aG}{A:bU}{α:Type}{env:mR}
structure pc (scope sc:i5) (tb:te) (mtb:MT) (xs:List eT) (is:List Nat):Prop where
 lim:∀i∈is,mtb.2<=i/\∀p∈mtb.1,p.2≠i
 kind:scope.1=.function
 Wg:∀x∈scope.2,x.2≠.cell
 loc:∀x∈scope.2,x.2=.local->scope.2.lookup x.1=fU .local
 fre:∀n,(n,NameKind.free)∈scope.2->scope.2.lookup n=fU .free/\(∃j,tb.lookup n=fU j/\j∉is)/\(sc.2.lookup n=fU .cell\/sc.2.lookup n=fU .free)
 xv:∀x∈xs,scope.2.lookup x=fU .local/\(x==("__debug__":eT))=Z7/\(x==("__classdict__":eT))=Z7
 xn:xs.Nodup
 isn:is.Nodup
 len:xs.length=is.length
theorem zK:n∈frees scope↔(n,NameKind.free)∈scope.2:=by
 unfold frees;refine Rr (propext List.mem_filterMap) ?_;constructor
 .rintro⟨⟨m,k⟩,hm,e⟩
  by_cases a:(k==NameKind.free)=Z8
  .simp only [a,if_true,fU.injEq] at e;subst e;cases fN a;exact hm
  .simp[a] at e
 .intro h;exact⟨_,h,rfl⟩
theorem VC(h:(!b)=Z8):b=Z7:=by cases b<;>first|rfl|injection h
theorem WY[BEq α][LawfulBEq α]{a b:α}{c:Bool}(h:(a !=b||c)=Z8)(e:a=b):c=Z8:=by
 subst e;rcases kb.1 h with h|h
 .exact bq rfl (bne_iff_ne.1 h)
 .exact h
theorem pc.of{mtb:MT}{xs:List eT}{is:List Nat}(h:EX scope sc tb mtb xs is=Z8):pc scope sc tb mtb xs is:=by
 refine ak λy=>iB (an h) λh t=>iB (an h) λh s=>iB (an h) λh r=>iB (an h) λh q=>iB (an h) λh o=>iB (an h) λh f=>iB (an h) λh z=>iB (an h) λk m=>y ?_;have k:=aU.1 k;have f:=aU.1 f;refine⟨λi hi=>⟨dG (an<|k i hi).1,λp w=>bne_iff_ne.1<|aU.1 (an<|k i hi).2 p w⟩,fN m,λx g=>bne_iff_ne.1 (an (an<|f x g).1).1,λx g v=>?_,λn l=>?_,λx g=>?_,dG q,dG r,fN s⟩
 .exact fN (an<|WY (an (an<|f x g).1).2 v).1
 .refine iB (an<|WY (an<|f _ l).2 rfl) λa b=>?_;refine iB (an a) λa c=>⟨fN a,?_,(kb.1 b).imp fN fN⟩;have d:=aU.1 t n<|zK.2 l;cases e:tb.lookup n with
  |none=>rw[e] at d;injection d
  |some j=>rw[e] at d;exact⟨j,rfl,λu=>bq (gz.2 u)<|by refine Rr (VC d) ?_;exact cJ⟩
 .refine iB (an<|aU.1 o x g) λa c=>?_;refine iB (an a) λa b=>⟨fN a,VC (an b).1,VC (an b).2⟩
variable{scope:i5}{xs:List eT}{is:List Nat}
theorem pc.closure(C:pc scope fx.1.1 fx.2 fx.8 xs is)(m:eA fx):va scope fx.1=pure (uR fx.1 scope.2 [])/\∀n,(n,NameKind.free)∈scope.2->(uR fx.1 scope.2 []).lookup n=fx.1.4.lookup n:=by
 have a:∀x∈scope.2,x.2=.free->(fx.1.4.lookup x.1).isSome=Z8:=λx i g=>by
  obtain⟨n,k⟩:=x;cases g;refine hV (C.5 n i) λu d q=>?_;refine bO d λj o u=>?_;have r:=lk o;rcases(m.2 n j r).2.2 with⟨e,_⟩|⟨_,c,hc,_⟩
  .have e:fx.1.1.2.lookup n=fU .local:=e;rcases q with l|l<;>(rw[l] at e;injection e with b;cases b)
  .refine Rr hc ?_;rfl
 refine⟨zh a,λn s=>?_⟩;refine zo (f:=λn=>fx.1.4.lookup n) (λp t=>?_)<|H5<|.inl s;rcases H7 t with h|⟨x,i,g,rfl⟩
 .cases h
 .refine rX (cg.1<|a x i g) λc hc=>?_;simp only [hc,Option.getD_some]
theorem CZ{i:Nat}(h:i∉is):iM fx xs is L i=fx.3 i:=by unfold iM;refine Rr (yC h) ?_;rfl
theorem LR(a:is.Nodup)(h:(x,i)∈xs.zip is):iM fx xs is L i=.n L x:=by unfold iM;refine Rr (xF a h) ?_;rfl
theorem sj{L:bW}(i:Nat):(∃x,(x,i)∈xs.zip is/\iM fx xs is L i=.n L x)\/iM fx xs is L i=fx.3 i:=by
 unfold iM;cases e:(is.zip xs).lookup i with
 |none=>exact .inr rfl
 |some x=>exact .inl ⟨x,yH e,rfl⟩
theorem eA.inner(f:eA fx)(C:pc scope fx.1.1 fx.2 fx.8 xs is)(F:L∉fx.4)(m:L∉fx.5)(B:cenv.1=zg scope fx.1.1)(E:cenv.2=L)
  (Q:cenv.4=uR fx.1 scope.2 [])(R:cenv.3=3)(S:cenv.9=0):eA<|fx.inner cenv (lR scope fx.2 xs is) xs is L:=by
 have o:∀i x,fx.3 i≠.n L x:=λi x e=>by
  rcases f.8 i L x e with h|h
  .exact F h
  .exact m h
 refine⟨by refine Rr B ?_;exact C.2,λx i k=>?_,λi j l g d G=>?_,by refine Rr E ?_;exact df,λi c h=>?_,λc D h=>?_,by refine Rr E ?_;exact m,λi L' x h=>?_,f.9,f.10,R,S⟩
 .rcases a7.1 k with h|h
  .refine hV (C.6 x (iG h).1) λa b c=>?_;refine⟨b,c,.inl ⟨?_,?_⟩⟩
   .show cenv.1.2.lookup x=_;refine Rr B<|Rr (tM a) ?_;rfl
   .refine Rr E ?_;exact LR C.8 h
  .refine bO (List.mem_filterMap.1 h) λn G e=>?_;refine bO (eF.1 e) λj J e'=>?_;injection e' with r s;subst r s
   have p:=zK.1 G;refine hV (C.5 _ p) λg A T=>?_;refine bO A λW q H=>?_;rw[J] at q;injection q with t;subst t
   have V:=lk J;refine hV (f.2 _ _ V) λN O P=>⟨N,O,.inr ⟨?_,?_⟩⟩
   .show cenv.1.2.lookup _=_\/cenv.1.2.lookup _=_;refine Rr B<|Rr (tM g) ?_;split
    .exact .inl rfl
    .exact .inr rfl
   .rcases P with⟨d,_⟩|⟨_,c,hc,U⟩
    .have d:fx.1.1.2.lookup _=fU .local:=d;rcases T with I|I<;>(rw[I] at d;injection d with u;cases u)
    .refine⟨c,?_,?_⟩
     .refine Rr Q<|Rr ((C.closure f).2 _ p) ?_;exact hc
     .show iM fx xs is L _=_;refine Rr (CZ H) ?_;exact U
 .rcases sj i with⟨x,k,e⟩|e<;>rcases sj j with⟨y,M,e'⟩|e'
  .have:Loc.n L x=.n L y:=e.symm.trans<|g.trans<|d.symm.trans e';injection this with _ v;subst v
   exact Gg C.7 k M
  .exact bq (e'.symm.trans<|d.trans<|g.symm.trans e)<|o j x
  .exact bq (e.symm.trans<|g.trans<|d.symm.trans e')<|o i y
  .exact f.3 i j l (e.symm.trans g) (e'.symm.trans d) G
 .rcases sj i with⟨x,k,e⟩|e
  .have:=e.symm.trans h;injection this
  .exact f.5 i c<|e.symm.trans h
 .refine iB (f.6 c D h) λg d=>?_;refine⟨g,λx i k=>?_⟩;have:i∉is:=λhi=>(C.1 i hi).2 _ k rfl;show iM fx xs is L i=_;refine Rr (CZ this) ?_;exact d x i k
 .rcases sj i with⟨y,M,e⟩|e
  .have:=e.symm.trans h;injection this with w z;subst w z;exact .inl df
  .rcases f.8 i L' x (e.symm.trans h) with h|h
   .exact .inl<|fj _ h
   .exact .inr h
end
section
variable{w:bN}{g:Bool}{N:Nat}{O:jU}{k:Nat}{ad:Ad}{fx:Fx}{F F' F₀:FZ}{ex ex':dw}{σ σ' σ₂:St}{s s':aG}{A:bU}{α:Type}{env:mR}{scope:i5}{xs:List eT}{is:List Nat}
theorem cr.forget(S:cr w ad fx F ex σ s)(i:Nat):Nonempty<|cr w ad fx F ex (σ.set i .u) s:=by
 cases hi:σ.1[i]? with
 |none=>
  have:σ.set i .u=σ:=by obtain⟨sl,W⟩:=σ;show St.mk (sl.set i .u) W=_;exact Rr (List.set_eq_of_length_le<|List.getElem?_eq_none_iff.1 hi) rfl
  refine Rr this ?_;exact⟨S⟩
 |some lv=>refine ia (S.take hi) λc f f b=>?_;obtain⟨d⟩:=b;exact⟨d.Ra (λp e=>aw _ e) λa=>by simp only [je,aC,bt];exact c9 .A (.a .B .A) .e rfl⟩
theorem cr.G8(S:cr w ad fx F ex σ s):∀is:List Nat,Nonempty<|cr w ad fx F ex (ii is σ) s:=by
 intro is
 induction is generalizing σ with
 |nil=>exact⟨S⟩
 |cons i r b=>obtain⟨a⟩:=S.forget i;exact b a
theorem Xh:∀{is:List Nat} {σ:St} {i:Nat},(∀lv,σ.1[i]?=fU lv->lv=.u)->∀lv,(ii is σ).1[i]?=fU lv->lv=.u:=by
 intro is;induction is with
 |nil=>intro _ _;exact λh=>h
 |cons j r c=>
  intro σ i;exact λh=>c (σ:=σ.set j .u) λlv e=>by
   by_cases a:j=i
   .subst a;have e:(σ.1.set j LV.u)[j]?=fU lv:=e;rw[jF] at e;simp only [if_true] at e;split at e
    .injection e with b;subst b;rfl
    .injection e
   .have e:(σ.1.set j LV.u)[i]?=fU lv:=e;rw[eD a] at e;exact h lv e
theorem vt:∀{is:List Nat} {σ:St} {i:Nat},i∈is->∀lv,(ii is σ).1[i]?=fU lv->lv=.u
 |j::r,σ,i,h=>by
  rcases ax.1 h with rfl|h
  .refine Xh (is:=r) (σ:=σ.set i .u) λlv e=>?_;have e:(σ.1.set i LV.u)[i]?=fU lv:=e;rw[jF] at e;simp only [if_true] at e;split at e
   .injection e with a;subst a;rfl
   .injection e
  .exact vt (is:=r) (σ:=σ.set j .u) h
noncomputable def Ed(nm:bW->eT->Option aF)(L:bW):bW->eT->Option aF:=λb=>if b=L then(λa=>Z9) else nm b
theorem HM:Ed nm L L=λa=>Z9:=bf rfl
theorem wT(h:b≠L):Ed nm L b=nm b:=aK h
theorem cr.enter(t:eA fx){L:bW}(S:cr w ad fx F ((L,pj λm=>Z9)::ex) σ s)(r:∀i∈is,∀lv,σ.1[i]?=fU lv->lv=.u)(cenv:mR)(tb:te):
  L∉fx.4/\L∉fx.5/\Nonempty (cr w ad (fx.inner cenv tb xs is L) F ex σ s):=by
 have k:(L,pj λm=>Z9)∈ci S.1++(((L,pj λm=>Z9)::ex)++gB ad σ.2):=aw _<|.head _;have o:L∉fx.4:=λh=>S.8.apart (aD _<|aE.2 ⟨L,h,rfl⟩) k rfl;have g:L∉fx.5:=λh=>S.8.apart (aw _<|aD _<|aE.2 ⟨L,h,rfl⟩) k rfl;refine⟨o,g,⟨⟨S.1,Ed S.2 L,S.3,S.4,?_,S.6,?_,?_⟩⟩⟩
 .intro j lv c l u v z f;have B:j∉is:=λk=>v<|r j k lv u;have f:iM fx xs is L j=l:=f;unfold iM at f;rw[yC B] at f;have:=S.5 j lv c l u v z f;cases l with
  |a=>trivial
  |c c=>exact this
  |n L' x=>
   have p:L'≠L:=by
    rintro rfl
    rcases t.8 j L' x f with h|h
    .exact o h
    .exact g h
   show Ed S.2 L L' x=_;refine Rr (wT p) ?_;exact this
 .intro c D e;refine hV (S.7 c D e) λa b d=>⟨a,b,λy C=>?_⟩;have A:D≠L:=λe'=>g<|e'▸(t.6 c D e).1;refine Rr (wT A) ?_;exact d y C
 .have E:fx.4.map (λb=>(b,pj<|Ed S.2 L b))=fx.4.map (λb=>(b,pj<|S.2 b)):=uK λb q=>by
   exact Rr (wT (L:=L) (b:=b) λe=>o<|e▸q) rfl
  have G:fx.5.map (λb=>(b,jh<|Ed S.2 L b))=fx.5.map (λb=>(b,jh<|S.2 b)):=uK λb q=>by
   exact Rr (wT (L:=L) (b:=b) λe=>g<|e▸q) rfl
  have e:dU (fx.inner cenv tb xs is L) (Ed S.2 L) S.3=(L,pj λm=>Z9)::dU fx S.2 S.3:=by unfold dU;refine Rr az<|Rr E<|Rr G<|Rr HM ?_;rfl
  refine Rr e<|S.8.rg [dU fx S.2 S.3,ci S.1,[(L,pj λm=>Z9)],ex,gB ad σ.2] (.n (.l 0)<|.n (.l 1)<|.n (.n (.l 2)<|.l 3)<|.l 4) (.n (.n (.l 2)<|.l 0)<|.n (.l 1)<|.n (.l 3)<|.l 4) rfl
theorem cr.leave(S:cr w ad (fx.inner cenv tb xs is L) F ex σ s)(i:L∉fx.4/\L∉fx.5):∃m,Nonempty<|cr w ad fx F ((L,pj m)::ex) (ii is σ) s:=by
 obtain⟨S⟩:=S.G8 is;refine⟨S.2 L,⟨⟨S.1,S.2,S.3,S.4,?_,S.6,S.7,?_⟩⟩⟩
 .intro j lv c l a b d f;have g:j∉is:=λh=>b<|vt h lv a;refine S.5 j lv c l a b d ?_;show iM fx xs is L j=l;unfold iM;refine Rr (yC g) ?_;exact f
 .have e:dU (fx.inner cenv tb xs is L) S.2 S.3=(L,pj<|S.2 L)::dU fx S.2 S.3:=rfl;have G:=S.8;rw[e] at G;exact G.rg [dU fx S.2 S.3,ci S.1,[(L,pj<|S.2 L)],ex,gB ad (ii is σ).2] (.n (.n (.l 2)<|.l 0)<|.n (.l 1)<|.n (.l 3)<|.l 4) (.n (.l 0)<|.n (.l 1)<|.n (.n (.l 2)<|.l 3)<|.l 4) rfl
end
section
variable{w:bN}{g:Bool}{N:Nat}{O:jU}{k:Nat}{ad:Ad}{fx:Fx}{F F' F₀:FZ}{ex ex':dw}{σ σ' σ₂:St}{s s':aG}{A:bU}{α:Type}{env:mR}{scope:i5}{xs:List eT}{is:List Nat}
noncomputable def cr.Bh(S:cr w ad fx F (a::b::ex) σ s):cr w ad fx F (b::a::ex) σ s:=
 ⟨S.1,S.2,S.3,S.4,S.5,S.6,S.7,S.8.rg [dU fx S.2 S.3,ci S.1,[a],[b],ex,gB ad σ.2] (.n (.l 0)<|.n (.l 1)<|.n (.n (.l 2)<|.n (.l 3)<|.l 4)<|.l 5) (.n (.l 0)<|.n (.l 1)<|.n (.n (.l 3)<|.n (.l 2)<|.l 4)<|.l 5) rfl⟩
def Cu(w:bN)(g:Bool)(k:Nat)(ad:Ad)(fx:Fx)(acc:bW)(c:Code)(a:DB Fin)(f:St->Option (List PV×St)):Prop:=
 ∀{F:FZ} {ex:dw} {σ:St} {r:List PV×St} {us:List PV} {vs:List aF} {s:aG} {A:bU} {n:Nat} {I:Nat->aG->Prop},f σ=fU r->cr w ad fx F ((acc,dj vs)::ex) σ s->fP w ad F us vs->us.length+r.1.length<=aq->Rm (k+1) A->
  (∀F' b s',iD F F'->fP w ad F' (us++r.1) b->cr w ad fx F' ((acc,dj b)::ex) r.2 s'->∃m,m<n/\I m s')->HQ g w A c n I a s
inductive Qi (w:bN) (ad:Ad) (fx:Fx) (F:FZ) (ex:dw) (acc:bW) (zs:List PV) (σ:St) (s:aG):Prop
 |m (F':FZ) (vs:List aF) (l:iD F F') (h:fP w ad F' zs vs) (S:Nonempty<|cr w ad fx F' ((acc,dj vs)::ex) σ s)
theorem Gw(O:eA fx)
  (G:ui (.ListComp elt gens scope pos) d (.ref I) (.ref acc) fx.1=(kH p>>=λL=>u8 (.ref I)>>=λr=>match r with
   |none=>pure<|.done .next
   |some v=>gR IP (.ref I) v>>=λL=>lL IP fx.1 v>>=λL=>tail))
  (W:Ej fx.1.1 fx.2 IP is=Z8)(l:∀i∈is,∀u,(i,u)∉fx.9)
  (hT:Cu w g k ad fx acc (.compLoop (.ListComp elt gens scope pos) d (.ref I) (.ref acc) fx.1) tail f)
  (v:km is f ps σ=fU r)(S:cr w ad fx F ((I,DM w ad F₀ ps)::(acc,dj vs)::ex) σ s)(N:iD F₀ F)(C:fP w ad F us vs)(j:us.length+r.1.length<=aq)(R:Rm (k+1) A):
  iy g (MM w) A (.compLoop (.ListComp elt gens scope pos) d (.ref I) (.ref acc) fx.1) (λq s'=>match q with|.ok _=>Qi w ad fx F ex acc (us++r.1) r.2 s'|.error _=>False) s:=by
 refine Fa (λn s=>∃b σ₁ zs₁ us₁ c e,b.length=n/\iD F e/\km is f b σ₁=fU (zs₁,r.2)/\us₁++zs₁=us++r.1/\fP w ad e us₁ c/\Nonempty (cr w ad fx e ((I,DM w ad F₀ b)::(acc,dj c)::ex) σ₁ s))
  G ?_ ps.length (W0 ps σ r.1 us vs F ⟨rfl,iD.nv,v,rfl,C,⟨S⟩⟩)
 intro n s E;refine zd E λb σ₁ zs₁ us₁ c e hn D v he C zt72=>?_;obtain⟨S⟩:=zt72;cases b with
 |nil=>
  injection v with m;cases m;refine zZ (Lg S (N.trans D) R.3) λr s1 h=>iB h λo B=>?_;clear h;subst o
  rw[bn] at he;exact⟨e,c,D,he▸C,B⟩
 |cons p b=>
  refine dq v λσ2 ha v=>dq v λy v2 v=>jn v λz v3 V=>zZ (FQ S<|N.trans D) λr s1 h=>ia h λu t Y x=>?_;clear h;subst t;obtain⟨B⟩:=x;refine iB (nA.inj V) λT U=>?_;subst T;have v3:=v3.trans<|bx (λa=>fU (z.1,a)) U;refine CM B<|zZ (D1 O B Y W l ha R.3) λL s2 E=>?_;obtain⟨Q⟩:=E;have H:us₁.length+y.1.length<=aq:=by have:=bx mK he;simp only [af] at this;exact vd (.a .A .B) .C (.o (.a .D .E) .C<|.z (.a .A<|.a .B .F)<|.a .D .E) rfl j (el this)
  exact hT v2 Q.Bh C H R λF' M s' Z J P=>⟨b.length,hn▸fR _,W0 b y.2 z.1 (us₁++y.1) M F' ⟨rfl,D.trans Z,v3,by refine Rl he ?_;rw[au],J,⟨P.Bh⟩⟩⟩
theorem Ny(p:bg w g O k x)(i:eA fx)(t:kB fx.1.1 fx.2 fx.8 x elt=Z8)(v:fr (bQ O x σ)=fU r)
  (S:cr w ad fx F ((acc,dj vs)::ex) σ s)(e:fP w ad F us vs)(a:us.length<aq)(R:Rm (k+1) A):
  bV g (MM w) A (Bi (fE x elt) fx.1<|.ref acc) (λB s'=>Qi w ad fx F ex acc (us++[r.1]) r.2 s') vg s:=by
 refine am<|p.fr i t v S R λu h z f y d=>?_;refine oP d.tA λo ho n b=>?_;subst b;have l:=e.length;refine am (bV.of<|MW (items:=vs.toArray) ⟨n,ho⟩ (λh' c m=>aO ?_)<|by refine Rr bF<|Rl l ?_;unfold aq at a;unfold eV;exact dL .A (.n 16777216) (.z (.s .A)<|.n 1048576) rfl a);refine rX c λq e'=>?_;obtain⟨j⟩:=d.uS (P':=dj<|vs++[u]) m e' ⟨q,by simp⟩;exact⟨h,vs++[u],f,((dN.2 rfl).cons y).append<|e.le f,⟨j⟩⟩
theorem Dq(p:bg w g O k x)(o:nj w g O k ts)(d:eA fx)(t:kB fx.1.1 fx.2 fx.8 x elt=Z8)(B:EI fx.1.1 fx.2 fx.8 ts es=Z8):
  Cu w g k ad fx acc c (yu (PJ ts es) fx.1 (Bi (fE x elt) fx.1<|.ref acc) c) (λσ=>qV (lK O Z7 ts σ)<|bQ O x):=by
 intro F ex σ r us vs s A n I v S hv hlen R hI;refine dq v λy v1 v=>N7<|pi (o (stop:=Z7) d B v1 S R) λb u m=>?_;obtain⟨rfl,F1,l1,⟨f⟩⟩:=m;cases h:y.1 with
 |false=>
  rw[h] at v;injection v with a;subst a
  exact hI F1 vs u l1 (by rw[bn];exact hv.le l1) f
 |true=>rw[h] at v;refine jn v λz v2 l=>?_;subst l;exact aR (Ny p d t v2 f (hv.le l1) (bG (fR _) hlen) R) (λi s' q=>(by obtain⟨F',vs',l',hv',⟨j⟩⟩:=q;exact hI F' vs' s' (l1.trans l') hv' j)) λi i e=>e
end
section
variable{w:bN}{g:Bool}{N:Nat}{O:jU}{k:Nat}{ad:Ad}{fx:Fx}{F F' F₀:FZ}{ex ex':dw}{σ σ' σ₁ σ₂:St}{s s':aG}{A:bU}{α:Type}{env:mR}{scope:i5}{xs:List eT}{is js:List Nat}
theorem Ig(o:eA fx){c:Code}{t:sN}{jt:Ex}{a:bW->DB Fin}{f2:St->Option (List PV×St)}(H:gens[1]?=fU t)(G:t.4=0)
  (L:bg w g O k jt)(Q:kB fx.1.1 fx.2 fx.8 jt j=Z8)
  (l:∀J:bW,ui (.ListComp elt gens scope pos) 1 (.ref J) (.ref acc) fx.1=(kH (fE jt j).pos>>=λC=>u8 (.ref J)>>=λr=>match r with
   |none=>pure<|.done .next
   |some v=>gR u (.ref J) v>>=λC=>lL u fx.1 v>>=λC=>a J))
  (M:Ej fx.1.1 fx.2 u js=Z8)(d:∀i∈js,∀u,(i,u)∉fx.9)
  (hT:∀J:bW,Cu w g k ad fx acc (.compLoop (.ListComp elt gens scope pos) 1 (.ref J) (.ref acc) fx.1) (a J) f2):
  Cu w g k ad fx acc c (uT (.ListComp elt gens scope pos) (fE jt j) 1 fx.1 (.ref acc) c) (λσ=>(fr<|bQ O jt σ).bind λb=>(f8 b.1).bind λqs=>km js f2 qs b.2):=by
 intro F ex σ r us vs s A n I v S hv hlen R hI;refine dq v λy v1 v=>dq v λqs hi v=>Rt (Lp _)<|L.fr o Q v1 S R λx T V B N E=>zZ (yL E N hi) λit P z=>?_;refine bO z λJ f h=>?_;clear z;subst f;obtain⟨p⟩:=h;have go:iy g (MM w) A (.compLoop (.ListComp elt gens scope pos) 1 (.ref J) (.ref acc) fx.1) (λr s'=>match r with|.ok _=>∃m,m<n/\I m s'|.error _=>False) P:=
  kO (Gw o (l J) M d (hT J) v p iD.nv (hv.le B) hlen R) λr s' q=>by
   cases r with
   |ok U=>obtain⟨F',vs',l',hv',⟨D⟩⟩:=q;exact hI F' vs' s' (B.trans l') hv' D
   |error e=>exact q
 exact vY H G go<|xu p iD.nv go
theorem zT(c:eA fx)(C:pc scope fx.1.1 fx.2 fx.8 xs is)
  (H:bg w g O k it)(ti:kB fx.1.1 fx.2 fx.8 it i=Z8)(v1:fr (bQ O it σ)=fU a)(hi:f8 a.1=fU ps)(v:km isT f ps (ii is a.2)=fU r)(l:r.1.length<=aq)
  (S:cr w ad fx F ex σ s)(R:Rm (k+1) A)
  (d:∀(cenv:mR) (L:bW),eA (fx.inner cenv (lR scope fx.2 xs is) xs is L)->cenv.1=zg scope fx.1.1->∀I acc:bW,∃(b:DB Fin),
   (ui (.ListComp elt (⟨t,fE it i,ifs,0⟩::rest) scope pos) 0 (.ref I) (.ref acc) cenv=(kH (fE it i).pos>>=λp=>u8 (.ref I)>>=λr=>match r with
    |none=>pure<|.done .next
    |some v=>gR t (.ref I) v>>=λp=>lL t cenv v>>=λp=>b))/\
   Ej cenv.1 (lR scope fx.2 xs is) t isT=Z8/\(∀i∈isT,i∈is)/\
   Cu w g k ad (fx.inner cenv (lR scope fx.2 xs is) xs is L) acc (.compLoop (.ListComp elt (⟨t,fE it i,ifs,0⟩::rest) scope pos) 0 (.ref I) (.ref acc) cenv) b f)
  (hQ:∀(acc L:bW) (F':FZ) (vs:List aF) (m:eT->Option aF) (s':aG),iD F F'->fP w ad F' r.1 vs->cr w ad fx F' ((L,pj m)::(acc,dj vs)::ex) (ii is r.2) s'->M5 (MM w) A use Q (.ref acc) L s'):
  bV g (MM w) A (yX (.ListComp elt (⟨t,fE it i,ifs,0⟩::rest) scope pos) scope fx.1 (firstIterPos (⟨t,fE it i,ifs,0⟩::rest) pos) (newList []) Z7 (dS (fE it i) fx.1) use) Q vg s:=by
 refine wC rfl (Lp _) (C.closure c).1 C.2 C.4 (H.fr c ti v1 S R λx U s1 l1 r1 W=>zZ (yL W r1 hi) λit D j=>?_);refine bO j λI y z=>?_;clear j;subst y;obtain⟨Y⟩:=z;refine yW ?_ (by simp);have Z:=Y.alloc (P:=dj []) {cls:=.type "list",data:=.seq ([]:List aF).toArray} rfl ⟨_,rfl⟩;refine wpAny_newFunctionEnv C.3 (by simp) (λh' hn hs=>?_) C.2;have S4:=Z.alloc (P:=pj λp=>Z9) {cls:=.type "dict",data:=.dict #[]} rfl (ff (#[]) _ ⟨rfl,λe he=>by simp at he,λp=>rfl⟩);refine bO (pj.of hn) λo' eo po=>?_;obtain⟨S5⟩:=S4.uS (P':=pj λp=>Z9) (h':=h') hs eo po;obtain⟨S6⟩:=S5.G8 is;generalize hL:(D.1.push {cls:=.type "list",data:=.seq ([]:List aF).toArray}).1.size=L at*
 let cenv:mR:={newEnv scope L fx.1.3 (uR fx.1 scope.2 []) fx.1.5 Z9 .none (fU fx.1) builtinsNs with scope:=Hl scope fx.1}
 refine ak λJ=>hV (S6.enter c (is:=is) (xs:=xs) (λi hi=>vt hi) cenv<|lR scope fx.2 xs is) λT j B=>?_;obtain⟨S7⟩:=B;have h:eA<|fx.inner cenv (lR scope fx.2 xs is) xs is L:=eA.inner c C T j rfl rfl rfl c.11 c.12;refine tS (d cenv L h rfl I D.1.1.size) λb G ht o hT=>J ?_;have n:∀i∈isT,∀u,(i,u)∉(fx.inner cenv (lR scope fx.2 xs is) xs is L).9:=λi hi u hu=>eU.2 (C.1 i<|o i hi).1<|c.10 i u hu;have N:=S7.Bh.tok<|D.4+0;have go:=kO (R':=λr s'=>match r with|.ok _=>M5 (MM w) A use Q (.ref D.1.1.size) L s'|.error _=>False)
  (Gw (ex:=ex) (F₀:=U) (us:=[]) (vs:=[]) h G ht n hT v N iD.nv (dN.2 rfl) (by refine Rr d0 ?_;rw[bA];exact l) R) λr s' q=>by
   cases r with
   |ok fl=>refine ak λJ=>?_;obtain⟨F',M,l',hv',⟨V⟩⟩:=q;obtain⟨m,⟨E⟩⟩:=V.leave ⟨T,j⟩;refine J<|hQ _ L F' M m s' (l1.trans l') hv' E
   |error e=>exact q
 exact vY rfl rfl go (xu N iD.nv go)
end
theorem w8:∀{xs:List eT} {is:List Nat} {x:eT} {i:Nat} {r:te},xs.Nodup->(x,i)∈xs.zip is->(xs.zip is++r).lookup x=fU i
 |[],_,_,_,_=>λf h=>by simp at h
 |_::_,[],_,_,_=>λf h=>by simp at h
 |y::xs,j::is,x,i,r=>λc h=>by
  rw[eH] at h;refine Rr eH<|Rr eR<|Rr ek ?_;rcases ax.1 h with e|e
  .injection e with a b;subst a b;simp
  .have d:x∈xs:=(iG e).1;have:x≠y:=λe=>(cN.1 c).1<|e▸d;refine Rr (show(x==y)=Z7 by simpa using this)<|w8 (cN.1 c).2 e
theorem Cs{tb:te}:∀{xs:List eT} {is:List Nat},xs.length=is.length->(∀x i,(x,i)∈xs.zip is->tb.lookup x=fU i)->xs.map (λx=>tb.lookup x)=is.map fU
 |[],[]=>λa a=>rfl
 |[],_::_=>λh a=>nomatch h
 |_::_,[]=>λh a=>nomatch h
 |x::xs,i::is=>λh b=>by
  exact Rr az<|Rr az<|Rr (b x i<|.head _)<|Rr (Cs (ky.inj h) λy j c=>b y j<|.tail _ c) rfl
theorem sX:∀{is js:List Nat} {σ:St},ii (is++js) σ=ii js (ii is σ):=by
 intro is;induction is with
 |nil=>intro _ _;exact rfl
 |cons _ r a=>intro _ _;exact a
section
variable{w:bN}{g:Bool}{N:Nat}{O:jU}{k:Nat}{ad:Ad}{fx:Fx}{F F' F₀:FZ}{ex ex':dw}{σ σ' σ₁ σ₂:St}{s s':aG}{A:bU}{α:Type}{env:mR}{scope:i5}{xs:List eT}{is js:List Nat}
theorem pc.IP{a:List Nat}(C:pc scope sc tb mtb all a){t:dH}{f:List Nat}(j:yM t=Z8)(k:(gc t).length=f.length)(c:∀x i,(x,i)∈(gc t).zip f->(x,i)∈all.zip a)(d:∀y∈gc t,y∈all){cenv:mR}(g:cenv.1=zg scope sc):
  Ej cenv.1 (lR scope tb all a) t f=Z8:=by
 unfold Ej;refine Rr j ?_;rewrite[Bool.true_and];refine Rr (propext cf)<|⟨beq_iff_eq.2<|Cs k λx i h=>w8 C.7<|c x i h,aU.2 λx l=>bne_iff_ne.2 λe=>?_⟩;rw[g,tM (C.6 x<|d x l).1] at e;injection e with b;cases b
theorem LX(h:v7 x=Z8)(e:dH):∃elt gens,fE x e=.ListComp elt gens (BS e) e.pos:=by cases x<;>first|exact(ff _ _ rfl)|injection h
def xD(w:bN)(g:Bool)(O:jU)(k:Nat)(x:Ex):Prop:=
 ∀{ad:Ad} {fx:Fx} {e elt:dH} {gens:List sN} {F:FZ} {ex:dw} {σ:St} {r:LV×St} {s:aG} {A:bU} {a:Option<|aF->DB Unit} {Q:aF->aG->Prop},
  fE x e=.ListComp elt gens (BS e) e.pos->eA fx->kB fx.1.1 fx.2 fx.8 x e=Z8->bQ O x σ=fU r->cr w ad fx F ex σ s->Rm (k+1) A->
  (∀(zs:List PV) (acc L:bW) (F':FZ) (vs:List aF) (m:eT->Option aF) (s':aG),r.1=.o zs->zs.length<=aq->iD F F'->fP w ad F' zs vs->cr w ad fx F' ((L,pj m)::(acc,dj vs)::ex) r.2 s'->M5 (MM w) A a Q (.ref acc) L s')->
  bV g (MM w) A (yX (.ListComp elt gens (BS e) e.pos) (BS e) fx.1 (firstIterPos gens e.pos) (newList []) (firstAsync gens) (firstIter gens fx.1) a) Q vg s
theorem PR(u:bg w g O k elt)(hi:bg w g O k it)(x:nj w g O k ts):xD w g O k<|.o elt is it ts:=by
 intro ad fx e l gens F ex σ r s A use Q hf OK t v S R hQ;injection hf with c d _ _;subst c d
 have n:=an (an t).2;have o:=an n.2;have p:=an o.2;have C:=pc.of n.1;refine dq v λa v1 v=>dq v λps hps v=>dq v λz v2 v=>A7 v λb q=>?_;subst q;refine zT OK C hi o.1 v1 hps v2 b S R (λcenv L f i I acc=>⟨_,Qw _ _ _ _ _ _ (.ref I) (.ref acc) cenv,C.IP (an t).1 C.9 (λj j h=>h) (λj h=>h) i,λj h=>h,?_⟩) λacc L F' vs m s'=>hQ z.1 acc L F' vs m s' rfl b;exact Dq u x f (by refine Rr i ?_;exact p.1)<|by refine Rr i ?_;exact p.2
theorem U6(h:xs.length=is.length)(a:(x,i)∈xs.zip is):(x,i)∈(xs++j).zip (is++js):=by refine Rr (List.zip_append h) ?_;exact aD _ a
theorem Ui(h:xs.length=is.length)(a:(x,i)∈j.zip js):(x,i)∈(xs++j).zip (is++js):=by rw[List.zip_append h];exact aw _ a
theorem PD(N:bg w g O k elt)(hi:bg w g O k it)(P:bg w g O k jt)(T:nj w g O k ts):xD w g O k<|.A elt is it js jt ts:=by
 intro ad fx e x gens F ex σ r s A use Q hf OK t v S R hQ;injection hf with c d _ _;subst c d
 have y:=an (an t).2;have B:=an y.2;have D:=an B.2;have E:=an D.2;have G:=an E.2;have H:=an G.2;have C:=pc.of B.1;have o:=fN D.1;have p:(gc (g1 e).1).length=js.length:=by have:=C.9;simp only [af] at this;exact aj (gy .A .B (.o .C .D<|.z (.a .D .A)<|.a .C .B) rfl (eg o) (el this))<|gy .A .B (.o .C .D<|.z (.a .D .A)<|.a .C .B) rfl (el o) (eg this)
 refine dq v λa v1 v=>dq v λps hps v=>dq v λz v2 v=>A7 v λb M=>?_;subst M;rw[<-sX] at v2;refine zT (isT:=is) OK C hi E.1 v1 hps v2 b S R (λcenv L j n I acc=>⟨_,NW _ _ _ _ _ _ _ _ (.ref I) (.ref acc) cenv,C.IP (an t).1 o (λf f h=>U6 o h) (λf h=>aD _ h) n,λf h=>aD _ h,?_⟩)
  λacc L F' vs m s' l V q=>hQ z.1 acc L F' vs m s' rfl b l V (by rw[sX] at q;exact q)
 exact Ig (u:=(g1 e).1) (js:=js) j rfl rfl P (by refine Rr n ?_;exact G.1) (λJ=>MZ _ _ _ _ _ _ _ _ _ (.ref J) (.ref acc) cenv)
  (C.IP y.1 p (λf f h=>Ui o h) (λf h=>aw _ h) n) (λi hi u U=>eU.2 (C.1 i<|aw _ hi).1<|OK.10 i u U)
  (λJ=>Dq N T j (by refine Rr n ?_;exact H.1)<|by refine Rr n ?_;exact H.2)
end
section
variable{w:bN}{g:Bool}{N:Nat}{O:jU}{k:Nat}{ad:Ad}{fx:Fx}{F F' F₀:FZ}{ex ex':dw}{σ σ' σ₁ σ₂:St}{s s':aG}{A:bU}{α:Type}{env:mR}{scope:i5}{xs:List eT}{is js:List Nat}
theorem Ep(hc:v7 x=Z8)(h:xD w g O k x):bg w g O k x:=λ{ad fx e F ex σ r s A} OK t v S R=>by
 refine pK (LX hc e) λelt gens d=>Rr d ?_;rw[eval_ListComp];refine h d OK t v S R λzs acc L F' vs m s' j a l i c=>⟨m,pj.at c.tA,λh' f=>?_⟩;obtain⟨b⟩:=c.tE (h':=h')<|UZ f;exact⟨F',⟨.ref acc,fU<|dj vs⟩,l,rfl,j▸⟨a,ff acc vs ⟨rfl,i⟩⟩,⟨b⟩⟩
theorem SD(hc:v7 x=Z8)(h:xD w g O k x):gV w g N O k<|.a i x:=λ{ad fx st F ex σ r s A} OK hpin t v S R=>jn v λy v1 z=>by
 subst z;refine ak λG=>iB (uY (an t).1) λp o=>pK (LX hc<|sV st) λelt gens d=>G ?_;have a:∃b,w5 (fE x<|sV st) (fU<|zk<|sT st) st.pos.1 fx.1=pure b:=by refine Rr d ?_;exact⟨_,rfl⟩
 obtain⟨b,a⟩:=a;cases b with
 |false=>exact jy a sh rfl (bg.go (Ep hc h) OK (an t).2 v1 S R λc I J E H q=>bV.of<|kJ<|cr.store OK q p o H (qt hpin i) λs' f=>.nx E ⟨f⟩)
 |true=>refine Rr (exec_Assign_Name_used _ _ _ _ a)<|Rr d ?_;refine am<|bH ?_;refine am<|am<|h d OK (an t).2 v1 S R λzs acc L F' vs m s' D e l C f=>kJ ?_;have j:cr w ad fx F' (gF ⟨.ref acc,fU<|dj vs⟩++((L,pj m)::ex)) y.2 s':=f.Bh;refine cr.store (c:=⟨.ref acc,fU<|dj vs⟩) (lv:=y.1) OK j p o (D▸⟨e,ff acc vs ⟨rfl,C⟩⟩) (qt hpin i) λM n=>⟨m,pj.at n.tA,λh' B=>?_⟩;obtain⟨u⟩:=n.tE (h':=h')<|UZ B;exact aO<|aO<|.nx l ⟨u⟩
end
section
variable{w:bN}{A:bU}{s:aG}
theorem QN{id:String}(h:rf.contains id=Z7):Builtin.Bytes.decodersThatHold.contains id=Z7/\id≠"bytearray.__contains__"/\id≠"bytearray.__mod__"/\id≠"bytearray.__rmod__"/\id≠"_struct.pack_into.held"/\id≠"bytearray.find.held":=by unfold rf at h;simp only [List.contains_eq_any_beq,List.any_append,Bool.or_eq_false_iff,kz,List.any_nil,Bool.or_false] at h;refine Gq h λa b c d e f=>?_;clear h;refine⟨by refine Rr List.contains_eq_any_beq ?_;exact a,?_,?_,?_,?_,?_⟩<;>(rintro rfl;simp at*)
theorem yP{E:aF->aG->Prop}(h:Q Z7 s):bV Z8 (MM w) A (Builtin.Bytes.exported self) Q E s:=by
 intro Γ p hΓ hc;have d:=hc rfl;unfold Builtin.Bytes.exported;rw[Sem.wp_bind'];show Sem.wp _ Γ (.stack .pure) _ _ p s;rw[Sem.wp_stack];refine Eq.mp (bx (λb=>Q b s) ?_) h;symm;refine Rr (propext List.any_eq_false) ?_;intro x a;have ho:vx x.1=Z8:=by
  rcases ax.1 a with rfl|a
  .exact d.1
  .exact d.2 x a
 obtain⟨c,q⟩:=x;refine oR.1 ?_;cases c with
 |builtin id args=>
  have l:rf.contains id=Z7:=VC ho;refine Gq (QN l) λe f g i j k=>?_;delta Builtin.Bytes.exported.match_1;dsimp only;simp only [dif_neg f,dif_neg g,dif_neg i,dif_neg j,dif_neg k];obtain⟨pos,kw⟩:=args;cases pos with
  |nil=>rfl
  |cons v r=>exact(bx (Builtin.Bytes.sameRef v self&&·) e).trans<|Bool.and_false _
 |_=>rfl
end
section
variable{w:bN}{A:bU}{s:aG}
theorem sO(ho:∃o,s.1.get? a=fU o/\qZ b o)(h:Q () s):bV Z8 (MM w) A (Builtin.Bytes.checkResize<|.ref a) Q E s:=by refine ak λc=>?_;obtain⟨o,ho,rfl⟩:=ho;refine c ?_;unfold Builtin.Bytes.checkResize;refine am (m:=_<||>_) ?_;unfold orM;refine am<|yP ?_;simp only [toBool];refine am (m:=Builtin.Bytes.exportsOf<|.ref a) ?_;unfold Builtin.Bytes.exportsOf;refine am<|bV.of<|k8 ho ?_;refine aO<|aO ?_;exact aO h
theorem Bc(ho:∃o,s.1.get? a=fU o/\qZ b o)(d:(f b.toArray).size<=eV)
  (h:∀h',dC a s.1 h'->(∃o,h'.get? a=fU o/\qZ (f b.toArray).1 o)->Q () {s with heap:=h'}):br (MM w) A (Builtin.Bytes.write (.ref a) f) Q E s:=by
 refine ak λe=>?_;obtain⟨o,ho,rfl⟩:=ho;refine e ?_;show br _ _ (updateBytearray a f) _ _ _;unfold updateBytearray;refine aH<|k8 ho ?_;refine aH<|wpAny_update ho ?_;have hS:(s.1.update a<|Obj.mapBytearray f).get? a=fU {cls:=.type "bytearray",data:=.bytearray (f b.toArray) 0}:=Heap.get?_update_self (Obj.mapBytearray f) ho rfl;refine wpAny_lookBehind hS ?_ (h _ (dC.update ..) ⟨_,hS,by unfold qZ;simp⟩);show(if(f b.toArray).size>eV then fU "bytearray:memory" else Z9)=Z9;exact Rr (aK<|by exact λc=>aM c d) rfl
end
theorem tm:PlainAttrs "bytearray":=
 ⟨⟨"bytearray.__getattribute__",by rewrite[dJ];refine Rr cj ?_;kernel_rfl,by decide+kernel⟩,by rewrite[dJ];refine Rr cj ?_;kernel_rfl⟩
theorem q7:Slot "bytearray" "append" "bytearray.append":=
 .of (owner:="bytearray") (n:="append") (by rewrite[dJ];refine Rr cj ?_;kernel_rfl) (by decide+kernel) (by decide+kernel) (by decide+kernel)
  (by first|exact .inl (by decide+kernel)|exact .inr<|by decide+kernel) (by rw[k9];kernel_rfl)
theorem yw:typeOf (.builtin "bytearray.append")=pure (.type "method_descriptor"):=by refine Rr builtinType_eq_fast ?_;kernel_rfl
theorem wo:qY BN "bytearray.append"=fU Builtin.«bytearray.append»:=uj<|by kernel_rfl
theorem yI(a b:aF):zx "bytearray.append" ⟨[a,b],[]⟩:=by unfold zx;kernel_rfl
theorem q9:Slot "bytearray" "extend" "bytearray.extend":=
 .of (owner:="bytearray") (n:="extend") (by rewrite[dJ];refine Rr cj ?_;kernel_rfl) (by decide+kernel) (by decide+kernel) (by decide+kernel)
  (by first|exact .inl (by decide+kernel)|exact .inr<|by decide+kernel) (by rw[k9];kernel_rfl)
theorem xh:typeOf (.builtin "bytearray.extend")=pure (.type "method_descriptor"):=by refine Rr builtinType_eq_fast ?_;kernel_rfl
theorem wE:qY BN "bytearray.extend"=fU Builtin.«bytearray.extend»:=uj<|by kernel_rfl
theorem xT(a b:aF):zx "bytearray.extend" ⟨[a,b],[]⟩:=by unfold zx;kernel_rfl
theorem wd:Slot "bytearray" "__len__" "bytearray.__len__":=
 .of (owner:="bytearray") (n:="__len__") (by rewrite[dJ];refine Rr cj ?_;kernel_rfl) (by decide+kernel) (by decide+kernel) (by decide+kernel)
  (by first|exact .inl (by decide+kernel)|exact .inr<|by decide+kernel) (by rw[k9];kernel_rfl)
theorem AF:qY BN "bytearray.__len__"=fU Builtin.«bytearray.__len__»:=uj<|by kernel_rfl
theorem CT(a:aF):zx "bytearray.__len__" ⟨[a],[]⟩:=by unfold zx;kernel_rfl
section
variable{w:bN}{A:bU}{s:aG}{g:Bool}
theorem qo{E:aF->aG->Prop}{T:String}{name:eT}{id:String}(h:Slot T name id)(hT:s.TypeIs self T)
  (f:qY BN id=fU b)(a:rf.contains id=Z7)
  (hc:bV g (MM w) A.in1 (b ⟨self::rest,[]⟩) (λfin s'=>∃v,fin=.done (.ret v)/\Q v s') E s)(d:zx id ⟨self::rest,[]⟩):
  bV g (MM w) A (call (.builtin id) (self::rest)) Q E s:=by
 refine lj<|eP rfl ?_;show bV g _ A.in1 (do oG id ⟨self::rest,[]⟩;again (.builtin id ⟨self::rest,[]⟩)) _ _ s;refine am (bV.of<|h.3 _ _ _ _ _ _ _ _ hT d<|aO<|And.intro (MI h.4 _)<|eP (by show(!rf.contains id)=Z8;refine Rr a ?_;rfl) ?_);refine Rr (Around.under_plainId h.4 _) ?_;show bV g _ _ (match qY BN id with|some b=>b ⟨self::rest,[]⟩|none=>unsupported<|(withoutEnding? id "#data").getD id) _ _ s;refine Rr f<|aR hc (λfin s' h'=>?_) λj j e=>e;refine bO h' λv c i=>?_;clear h';subst c;exact i
theorem HD(ho:∃o,s.1.get? a=fU o/\qZ b o)(l:0<=n)(m:n<256)(j:b.length<eV)
  (h:∀h',dC a s.1 h'->(∃o,h'.get? a=fU o/\qZ (b++[UInt8.ofNat n.toNat]) o)->Q .none {s with heap:=h'}):
  bV Z8 (MM w) A (call (.builtin "bytearray.append") [.ref a,.int n t]) Q E s:=by
 have hT:s.TypeIs (.ref a) "bytearray":=by refine bO ho λo e f=>?_;subst f;exact⟨_,e,rfl⟩
 refine qo q7 hT wo (by decide+kernel) ?_<|yI _ _;show bV Z8 _ _ (Builtin.Bytes.byteValue (.int n t)>>=λc=>Builtin.Bytes.checkResize (.ref a)>>=λk=>Builtin.Bytes.write (.ref a) (·.push c)>>=λk=>ret .none) _ _ s;have d:Builtin.Bytes.byteValue (.int n t)=pure n.toNat.toUInt8:=by
  unfold Builtin.Bytes.byteValue;show(pure n>>=_)=_;rw[pure_bind];have:(decide (n<0)||decide (n≥256))=Z7:=by simp;omega
  refine Rr this ?_;rfl
 refine Rr d<|am<|aO<|am<|sO ho<|am<|bV.of<|Bc ho ?_ λh' i g=>?_
 .simp;exact j
 .refine aO ⟨.none,rfl,h h' i ?_⟩;refine bO g λo e p=>?_;exact⟨o,e,by simpa using p⟩
end
section
variable{w:bN}{N:Nat}{O:jU}{k:Nat}{ad:Ad}{fx:Fx}{F F' F₀:FZ}{ex ex' L:dw}{σ σ' σ₂:St}{s s':aG}{A:bU}{env:mR}
theorem cr.GG(S:cr w ad fx F ex σ s)(a:σ.2.1=fU b)(c:dC ad.3 s.1 h')(e:∃o,h'.get? ad.3=fU o/\qZ l o):
  Nonempty (cr w ad fx F ex (wg σ {b with made:=l}) {s with heap:=h'}):=by
 refine bO e λf e' d=>?_;have G:=S.8;rw[He a] at G;exact⟨⟨S.1,S.2,S.3,S.4,S.5,S.6,S.7,((G.rg [dU fx S.2 S.3,ci S.1,ex,[(ad.2,xj ad b)],[(ad.3,qZ b.1)],qK ad σ.2.2] (.n (.l 0)<|.n (.l 1)<|.n (.l 2)<|.n (.l 3)<|.n (.l 4)<|.l 5) (.n (.l 4)<|.n (.l 0)<|.n (.l 1)<|.n (.l 2)<|.n (.l 3)<|.l 5) rfl).upd c e' d).rg
  [dU fx S.2 S.3,ci S.1,ex,[(ad.2,xj ad b)],[(ad.3,qZ l)],qK ad σ.2.2] (.n (.l 4)<|.n (.l 0)<|.n (.l 1)<|.n (.l 2)<|.n (.l 3)<|.l 5) (.n (.l 0)<|.n (.l 1)<|.n (.l 2)<|.n (.l 3)<|.n (.l 4)<|.l 5) rfl⟩⟩
theorem zO(f:eA fx)(S:cr w ad fx F ex σ s)(ho:qG σ=Z8)(k:σ.2.1=fU b)(g:(x,0)∈fx.2)
  (h:cr w ad fx F ex σ {s with toks:=s.4+1}->Q (.ref ad.3) {s with toks:=s.4+1}):bV Z8 (MM w) A (dS (.Attribute (.Name x p) (so "made") q) fx.1) Q E s:=by
 refine bO (Dd ho) λn e i=>wO rfl (g9 (mT f S g e (Ky i) λc hc l=>?_)<|lA f g);refine iB (S.zu k) λd r=>?_;obtain⟨o,j,m,pm,a,_,_,_⟩:=d;refine iB (A3 S (V1 i l).2 ⟨o,j,pm⟩) λe I=>Rr e<|Ht S.B (.head _) (.head _) I a rfl (h<|S.tok _)
theorem vD{x:Ex}(C:bg w Z8 O k x):gV w Z8 N O k<|.m x:=
 λ{ad fx st F ex σ r s A} OK hpin t v S R=>by
  refine iB (qp v) λho v=>rX (cg.1 (an ho).2) λH d=>?_;have o:=an (an t).2;refine dq v λy v1 v=>dq v λi q v=>dq v λb l v=>A7 v λhi p=>?_;subst p;refine By (uk OK) (tw rfl)<|GZ rfl (an t).1 xd (zO OK S (an ho).1 d (Bz o.1) λg=>?_);refine m5 (g.zu d) λL m j n=>(ff ("bytearray") ("bytearray.append") ⟨tm,q7,yw,⟨m,j,by exact Rr n rfl⟩,λa e=>by injection e with c;subst c;exact⟨m,j,by exact Rr n rfl⟩,?_⟩);refine C.fr OK o.2 v1 g R λz G I D E h=>rX (tR q E) λJ f=>?_;subst f;exact HD (h.zu l).2 hi.1 hi.2.1 (by have:=hi.2.2;unfold aq at this;unfold eV;exact dL (.s .A) (.n 16777216) (.z (.s .A)<|.n 1048576) rfl this) λh' B u=>⟨rfl,.nx D<|h.GG l B u⟩
end
section
variable{w:bN}{A:bU}{s:aG}{b:Array UInt8}{t:Tok}
theorem D8:qT (.bytes b t) "__buffer__"=pure (fU<|.builtin "bytes.__buffer__"):=by show fp (.type "bytes") _=_;rewrite[dJ];refine Rr cj ?_;kernel_rfl
theorem Q6:qT (.bytes b t) "__release_buffer__"=pure Z9:=by show fp (.type "bytes") _=_;rewrite[dJ];refine Rr cj ?_;kernel_rfl
theorem MY:Builtin.Bytes.slotIsOwn (.bytes b t) "__buffer__"=pure Z8:=by
 delta Builtin.Bytes.slotIsOwn;have h:qT (.bytes b t) (aa "__buffer__")=pure (fU<|.builtin "bytes.__buffer__"):=D8;rewrite[show((("__buffer__":String):eT))=aa "__buffer__" from rfl];refine Rr h ?_;rw[pure_bind];have a:("bytes.__buffer__".endsWith<|"."++"__buffer__")=Z8:=by decide+kernel
 have c:("bytes.__buffer__".dropRight<|"__buffer__".length+1)="bytes":=by decide+kernel
 simp only [a,c,mu,cq,if_false];show isSubtype (.type "bytes") (.type "bytes")=_;rw[k9];kernel_rfl
theorem M6:Builtin.Bytes.ownRelease (.bytes b t)=pure Z7:=by delta Builtin.Bytes.ownRelease Builtin.Bytes.slotIsOwn;have h:qT (.bytes b t) (aa "__release_buffer__")=pure Z9:=Q6;rewrite[show((("__release_buffer__":String):eT))=aa "__release_buffer__" from rfl];refine Rr h ?_;rw[pure_bind];rfl
theorem Ly:Builtin.Bytes.takeBufferQuiet? "bytearray.extend" (.bytes b t) 0=pure (fU (b,Z9)):=by delta Builtin.Bytes.takeBufferQuiet? Builtin.Bytes.takeBuffer? Builtin.Bytes.buffer?;have h:qT (.bytes b t) (aa "__buffer__")=pure (fU<|.builtin "bytes.__buffer__"):=D8;simp-iota only [show((("__buffer__":String):eT))=aa "__buffer__" from rfl,h,pure_bind,MY,M6];rfl
end
section
variable{w:bN}{N:Nat}{O:jU}{k:Nat}{ad:Ad}{fx:Fx}{F F' F₀:FZ}{ex ex' L:dw}{σ σ' σ₂:St}{s s':aG}{A:bU}{env:mR}
theorem HX(ho:∃o,s.1.get? a=fU o/\qZ b o)(k:b.length+l.length<=eV)
  (h:∀h',dC a s.1 h'->(∃o,h'.get? a=fU o/\qZ (b++l) o)->Q .none {s with heap:=h'}):
  bV Z8 (MM w) A (call (.builtin "bytearray.extend") [.ref a,.bytes l.toArray t]) Q E s:=by
 have hT:s.TypeIs (.ref a) "bytearray":=by refine bO ho λo e c=>?_;subst c;exact⟨_,e,rfl⟩
 refine qo q9 hT wE (by decide+kernel) ?_<|xT _ _;have f:bV Z8 (MM w) A.in1 (Builtin.Bytes.write (.ref a) (·++l.toArray)>>=λd=>ret .none) (λfin s'=>∃v,fin=.done (.ret v)/\Q v s') E s:=by refine am (bV.of<|Bc ho (by simpa using k) λh' j i=>?_);refine aO ⟨.none,rfl,h h' j ?_⟩;refine bO i λo e p=>?_;exact⟨o,e,by simpa using p⟩
 delta Builtin.«bytearray.extend»;show bV Z8 _ _ (qT (.bytes l.toArray t) _>>=_) _ _ s;refine Rr (show qT (.bytes l.toArray t) (aa "__buffer__")=pure (fU<|.builtin "bytes.__buffer__") from D8)<|am<|aO ?_;simp-iota only [Option.isSome_some,if_true];refine am<|bV.of<|mP ?_;refine bO ho λo g m=>?_;delta Builtin.Bytes.payload Builtin.Bytes.payload?;subst m;refine am<|am<|am<|bV.of<|k8 g<|aO<|aO ?_;refine Rr Ly<|am<|aO ?_;show bV Z8 _ _ (if(!l.toArray.isEmpty)=Z8 then(Builtin.Bytes.checkResize (.ref a)>>=λd=>Builtin.Bytes.write (.ref a) (·++l.toArray)>>=λd=>ret .none) else(Builtin.Bytes.write (.ref a) (·++l.toArray)>>=λd=>ret .none)) _ _ s;split
 .exact am<|sO ho f
 .exact f
end
section
variable{w:bN}{N:Nat}{O:jU}{k:Nat}{ad:Ad}{fx:Fx}{F F' F₀:FZ}{ex ex' L:dw}{σ σ' σ₂:St}{s s':aG}{A:bU}{env:mR}
theorem vq(C:bg w Z8 O k x):gV w Z8 N O k<|.k x:=
 λ{ad fx st F ex σ r s A} OK hpin t v S R=>by
  refine iB (qp v) λho v=>rX (cg.1 (an ho).2) λI c=>?_;have o:=an (an t).2;refine dq v λy v1 v=>dq v λl q v=>dq v λb j v=>A7 v λhi p=>?_;subst p;refine By (uk OK) (tw rfl)<|GZ rfl (an t).1 xd (zO OK S (an ho).1 c (Bz o.1) λg=>?_);refine m5 (g.zu c) λG m i n=>(ff ("bytearray") ("bytearray.extend") ⟨tm,q9,xh,⟨m,i,by exact Rr n rfl⟩,λa e=>by injection e with d;subst d;exact⟨m,i,by exact Rr n rfl⟩,?_⟩);refine C.fr OK o.2 v1 g R λz H J D E h=>C5 (QS q E) λG L f=>?_;subst f;exact HX (h.zu j).2 (by unfold aq at hi;unfold eV;exact c9 (.a .A .B) (.n 16777216) (.z (.a .A .B)<|.n 1048576) rfl hi) λh' B u=>⟨rfl,.nx D<|h.GG j B u⟩
end
theorem wz:fp (.type "bytearray") "__bytes__"=pure Z9:=by rewrite[dJ];refine Rr cj ?_;kernel_rfl
theorem ws:fp (.type "bytearray") "__index__"=pure Z9:=by rewrite[dJ];refine Rr cj ?_;kernel_rfl
theorem lT:fp (.type "bytearray") "__buffer__"=pure (fU<|.builtin "bytearray.__buffer__"):=by rewrite[dJ];refine Rr cj ?_;kernel_rfl
theorem sY:fp (.type "bytearray") "__release_buffer__"=pure (fU<|.builtin "bytearray.__release_buffer__"):=by rewrite[dJ];refine Rr cj ?_;kernel_rfl
theorem Eg:isSubtype (.type "bytearray") (.type "bytearray")=pure Z8:=by rw[k9];kernel_rfl
section
variable{w:bN}{N:Nat}{O:jU}{k:Nat}{ad:Ad}{fx:Fx}{F F' F₀:FZ}{ex ex' L:dw}{σ σ' σ₂:St}{s s':aG}{A:bU}{env:mR}{E:aF->aG->Prop}
theorem nt(ho:∃o,s.1.get? a=fU o/\qZ b o):s.TypeIs (.ref a) "bytearray":=by refine bO ho λo e c=>?_;subst c;exact⟨_,e,rfl⟩
theorem yG(ho:∃o,s.1.get? a=fU o/\qZ b o)(h:Q b.toArray s):br (MM w) A (Builtin.Bytes.payload<|.ref a) Q E s:=by refine bO ho λo c d=>?_;subst d;delta Builtin.Bytes.payload Builtin.Bytes.payload?;exact aH<|aH<|k8 c<|bB<|bB h
theorem To(ho:∃o,s.1.get? a=fU o/\qZ b o)(c:(b.length:Int)<2^63)
  (h:Q (.int b.length<|s.4+1) {s with toks:=s.4+1+1}):br (MM w) A (call (.builtin "len") [.ref a]) Q E s:=by
 refine Calls.call_function_entry kind_len plain_len entry_len (args_len1 _) ?_;delta Builtin.«len»;refine aH (m:=oneArg "len" _)<|bB ?_;refine aH (m:=vb (.ref a)<|aa "__len__") (MV (name:=aa "__len__") (nt ho) wd
  (uh wd (nt ho) AF ?_<|CT _))
 show br _ _ (do retInt (<-Builtin.Bytes.payload<|.ref a).size) _ _ s;refine aH<|yG ho ?_;refine aH<|wpAny_mkInt<|bB ⟨_,rfl,?_⟩;refine aH<|jx<|bB ?_;refine aH<|wpAny_letGo ?_;refine Rr (aK<|by simp) ?_;show br _ _ (if((b.toArray.size:Nat):Int)≥2^63 then _ else _) _ _ _;refine Rr (aK<|by simpa using c)<|aH<|wpAny_mkInt<|bB ⟨_,rfl,by simpa using h⟩
theorem tY{nm:String}{id:String}{Q:Bool->aG->Prop}(ho:∃o,s.1.get? a=fU o/\qZ b o)(e:fp (.type "bytearray") (nm:eT)=pure (fU<|.builtin id))
  (c:id.endsWith ("."++nm)=Z8)(d:id.dropRight (nm.length+1)="bytearray")(h:Q Z8 s):br (MM w) A (Builtin.Bytes.slotIsOwn (.ref a) nm) Q E s:=by
 delta Builtin.Bytes.slotIsOwn;refine aH<|jg (nt ho) e ?_;simp only [c,d,mu,cq,if_false];exact wpAny_isInstance (nt ho) Eg h
theorem HF{id:String}{c:Bool}{Q:Option (Array UInt8)->aG->Prop}(ho:∃o,s.1.get? a=fU o/\qZ b o)(h:Q (fU b.toArray) s):br (MM w) A (Builtin.Bytes.buffer? id (.ref a) c) Q E s:=by
 delta Builtin.Bytes.buffer?;refine aH<|jg (nt ho) lT ?_
 try dsimp only
 refine aH (tY ho lT (by decide+kernel) (by decide+kernel) ?_);simp-iota only [mu,cq,if_false];refine aH<|jg (nt ho) lT ?_
 try dsimp only
 delta Builtin.Bytes.ownRelease;refine aH (aH<|tY ho sY (by decide+kernel) (by decide+kernel)<|bB ?_);simp-iota only [mu,cq,if_false];exact aH<|yG ho<|bB h
theorem Db(ho:∃o,s.1.get? a=fU o/\qZ b o)(e:b.length<=eV)(c:∀t k,Q (.bytes b.toArray t) {s with toks:=k}):
  codeAny (MM w) A (.call (.builtin "bytes.__new__") ⟨[.type "bytes",.ref a],[]⟩) (wants Q E) s:=by
 refine codeAny_of_tree ?_;show br _ A.in1 (do oG "bytes.__new__" ⟨[.type "bytes",.ref a],[]⟩;again (.builtin "bytes.__new__" ⟨[.type "bytes",.ref a],[]⟩)) _ _ s;refine aH<|iY (F.bm_newCall _)<|bB ⟨MI F.bm_plain _,codeAny_builtin F.bm_entry ?_⟩;refine Rr (Around.under_plainId F.bm_plain _) ?_;have hT:s.TypeIs (.ref a) "bytearray":=nt ho;refine bO ho λo d f=>?_;subst f;delta Builtin.«bytes.__new__»;refine aH<|iY (a:=Z8) rfl ?_;refine DP rfl<|aH<|iY F.bm_sub ?_;refine DP rfl<|aH<|iY (F.bm_bind _) ?_;refine aH<|iY (a:=()) rfl ?_;refine aH<|iY (a:=()) rfl ?_;refine DP rfl<|aH<|jg hT wz ?_;refine aH<|aH ?_;refine aH<|k8 d ?_;refine bB<|bB ?_;refine DP rfl<|aH<|jg hT ws ?_;refine bm_if_true rfl ?_
 first
  |show br _ _ (Builtin.Bytes.buffer? "bytes.__new__" (.ref a) Z8>>=_) _ _ _
  |(refine aH ?_;show br _ _ (Builtin.Bytes.buffer? "bytes.__new__" (.ref a) Z8>>=_) _ _ _)
 refine aH<|HF ho ?_;dsimp only
 first
  |refine aH<|mP ?_
  |skip
 refine aH (wpAny_mkBytes ?_<|by simpa using e);refine bm_if_true (by decide) ?_
 first
  |exact bB<|c _ _
  |exact aH<|bB<|bB<|c _ _
  |exact bB<|bB<|c _ _
theorem zt(S:cr w ad fx F ex σ s)(e:σ.2.1=fU b)(d:b.1.length<=aq):br (MM w) A (call (.type "bytes") [.ref ad.3]) (bE w ad fx F ex (.f<|.b b.1) σ) ji s:=by
 refine callType_codes (Q₁:=λa c=>c.TypeIs a "bytes"/\bE w ad fx F ex (.f<|.b b.1) σ a c) PySem.F.bm_called (PySem.F.bm_typeCall _) PySem.F.entry_object_init
  (Db (S.zu e).2 (hZ d) λt k=>⟨PySem.W.typeIs_bytes _ _ _,bE.val (S.tok _)<|rU.2 ⟨d,t,rfl⟩⟩) λa c h₁=>?_
 exact⟨h₁.1,PySem.F.args_object_init_2 a _,object_init_meets PySem.F.bm_called.7.1 PySem.F.bm_called.4 (by decide) pw w A.in1 _ c ⟨h₁.1,rfl,h₁.2⟩⟩
theorem WA(S:cr w ad fx F ex σ s)(a:σ.2.1=fU b)(c:b.1.length<=aq):br (MM w) A (call (.builtin "len") [.ref ad.3]) (bE w ad fx F ex (.f<|.i b.1.length) σ) ji s:=
 To (S.zu a).2 (by unfold aq at c;omega) (bE.int<|S.tok _)
end
theorem AJ:qD a b=Z8↔a.1<b.1\/(a.1=b.1/\a.2<b.2):=by simp[qD]
theorem Eu(h:qD a b=Z8)(k:qD b c=Z8):qD a c=Z8:=by rw[AJ] at*;exact h.elim (λh=>k.elim (λk=>.inl<|Int.lt_trans h k) λk=>.inl<|oh h<|Int.le_of_eq k.1) λh=>k.elim (λk=>.inl<|kR (Int.le_of_eq h.1) k) λk=>.inr ⟨h.1.trans k.1,Int.lt_trans h.2 k.2⟩
theorem Gd(a:Int×Int):qD a a=Z7:=by simp[qD]
theorem FK(h:a≠b):qD a b=Z8\/qD b a=Z8:=by refine Rr (propext AJ)<|Rr (propext AJ) ?_;exact(Int.lt_trichotomy a.1 b.1).elim (λq=>.inl<|.inl q) λq=>q.elim (λq=>(Int.lt_trichotomy a.2 b.2).elim (λr=>.inl<|.inr ⟨q,r⟩) λr=>r.elim (λr=>bq (r7 q r) h) λr=>.inr<|.inr ⟨q.symm,r⟩) λq=>.inr<|.inl q
theorem XH:uI x (y::r)=if qD x y then x::y::r else y::uI x r:=rfl
theorem Af(x:Int×Int):∀l:List<|Int×Int,(uI x l).Perm (x::l):=by
 intro l;induction l with
 |nil=>exact .refl _
 |cons y r a=>
  refine Rr XH ?_;split
  .exact .refl _
  .exact((a).cons y).trans<|.swap x y r
theorem Nt:∀{l:List<|Int×Int},l.Pairwise (λa b=>qD a b=Z8)->x∉l->(uI x l).Pairwise (λa b=>qD a b=Z8):=by
 intro l;induction l with
 |nil=>intro _ _;exact Xe _ _
 |cons y r i=>
  intro h g;refine Rr XH ?_;have f:=dg.1 h;split
  .rename_i e;exact dg.2 ⟨λz c=>by
    rcases ax.1 c with rfl|c
    .exact e
    .exact Eu e<|f.1 z c,h⟩
  .rename_i e;refine dg.2 ⟨λz c=>?_,i f.2 λc=>g<|.tail _ c⟩;rcases ax.1 ((Af x r).mem_iff.1 c) with rfl|c
   .rcases FK (a:=z) (b:=y) (λe'=>g<|by refine Rr e' ?_;exact .head _) with d|d
    .exact bq d e
    .exact d
   .exact f.1 z c
theorem Lq:∀(l acc:List<|Int×Int),acc.Pairwise (λa b=>qD a b=Z8)->(acc++l).Nodup->
  (l.foldl (λa x=>uI x a) acc).Perm (acc++l)/\(l.foldl (λa x=>uI x a) acc).Pairwise (λa b=>qD a b=Z8):=by
 intro l;induction l with
 |nil=>exact λacc h i=>⟨by simp,h⟩
 |cons x l g=>intro acc h c;have e:x∉acc:=λf=>(gU.1 c).2.2 x f x (.head _) rfl;have d:(uI x acc++l).Perm (acc++x::l):=((Af x acc).append_right l).trans<|pP.symm;refine iB (g (uI x acc) (Nt h e)<|d.nodup_iff.2 c) λa b=>⟨a.trans d,b⟩
theorem ud(h:l.Nodup):(mZ l).Perm l/\(mZ l).Pairwise (λa b=>qD a b=Z8):=by have:=Lq l [] .nil (by simpa using h);simpa [mZ] using this
theorem sU:∀{l k:List<|Int×Int},l.Perm k->l.Pairwise (λa b=>qD a b=Z8)->k.Pairwise (λa b=>qD a b=Z8)->l=k
 |[],k=>λp c c=>(pQ.nil_eq p)
 |x::l,[]=>λp c c=>by simpa using p.length_eq
 |x::l,y::k=>λp h g=>by
  have d:=dg.1 h;have f:=dg.1 g;have e:x=y:=by
   rcases ax.1 (p.mem_iff.1<|.head l) with e|e
   .exact e
   .rcases ax.1 (p.mem_iff.2<|.head k) with e'|e'
    .exact e'.symm
    .have:=Eu (d.1 y e')<|f.1 x e;rw[Gd] at this;cases this
  subst e;exact Rr (sU (pQ.cons_inv p) d.2 f.2) rfl
theorem XG{x y:Int}:insI x (y::r)=if x<y then x::y::r else y::insI x r:=rfl
theorem insI_perm(x:Int):∀l:List Int,(insI x l).Perm (x::l):=by
 intro l;induction l with
 |nil=>exact .refl _
 |cons y r a=>
  refine Rr XG ?_;split
  .exact .refl _
  .exact((a).cons y).trans<|.swap x y r
theorem Ph:∀{l:List Int},l.Pairwise (·<=·)->(insI x l).Pairwise (·<=·):=by
 intro l;induction l with
 |nil=>intro _;exact Xe _ _
 |cons y r c=>
  intro h;refine Rr XG ?_;have b:=dg.1 h;split
  .rename_i e;exact dg.2 ⟨λz a=>by
    rcases ax.1 a with rfl|a
    .exact nB e
    .exact dZ (nB e)<|b.1 z a,h⟩
  .rename_i e;refine dg.2 ⟨λz a=>?_,c b.2⟩;rcases ax.1 ((insI_perm x r).mem_iff.1 a) with rfl|a
   .omega
   .exact b.1 z a
theorem Jb:∀(l acc:List Int),acc.Pairwise (·<=·)->(l.foldl (λa x=>insI x a) acc).Perm (acc++l)/\(l.foldl (λa x=>insI x a) acc).Pairwise (·<=·):=by
 intro l;induction l with
 |nil=>exact λacc h=>⟨by simp,h⟩
 |cons x l c=>intro acc h;refine iB (c (insI x acc)<|Ph h) λa b=>⟨a.trans<|((insI_perm x acc).append_right l).trans<|pP.symm,b⟩
theorem Ai:∀{l k:List Int},l.Perm k->l.Pairwise (·<=·)->k.Pairwise (·<=·)->l=k
 |[],k=>λp a a=>(pQ.nil_eq p)
 |x::l,[]=>λp a a=>by simpa using p.length_eq
 |x::l,y::k=>λp f d=>by
  have b:=dg.1 f;have c:=dg.1 d;have e:x=y:=by
   rcases ax.1 (p.mem_iff.1<|.head l) with e|e
   .exact e
   .rcases ax.1 (p.mem_iff.2<|.head k) with e'|e'
    .exact e'.symm
    .exact Int.le_antisymm (b.1 y e')<|c.1 x e
  subst e;exact Rr (Ai (pQ.cons_inv p) b.2 c.2) rfl
theorem As:n5.map vJ=mZ jm:=by decide+kernel
theorem Eo:jm.length=288:=by decide+kernel
theorem range_getD{α:Type}(l:List α)(d:α):(ay l.length).map (λi=>l.getD i d)=l:=by apply j0 (by simp);intro i b a;simp[a]
theorem CQ:∀{ps:List<|Int×Int},ps.length<2->mZ ps=ps
 |[]=>λa=>rfl
 |[p]=>λa=>rfl
 |_::_::_=>λh=>bq h<|by simp
section
variable{w:bN}{g:Bool}{O:jU}{k:Nat}{ad:Ad}{fx:Fx}{F F':FZ}{ex ex':dw}{σ σ':St}{s s':aG}{A:bU}{α:Type}{env:mR}
theorem fP.pairs:∀{l:List PV} {ps:List<|Int×Int} {vs:List aF},fP w ad F l vs->pairsOf l=fU ps->ps.length=l.length/\∀(i:Nat) v p,vs[i]?=fU v->ps[i]?=fU p->VR w ad F (.a [.i p.1,.i p.2]) v:=by
 intro l;induction l with
 |nil=>intro ps vs h e;injection e with a;subst a;exact⟨rfl,λg g g g e=>nomatch e⟩
 |cons x l t=>
  intro ps vs;exact λh e=>dq e λk o e=>jn e λqs q d=>by
   subst d;refine ak λu=>?_;obtain⟨v,z,rfl,s,r⟩:=cZ.1 h;obtain⟨m,n⟩:=t r q;refine u<|⟨bx ky m,λf y p j d=>?_⟩;cases f with
   |zero=>(injection j with b;subst b);injection d with c;subst c;exact Lc o▸s
   |succ f=>exact n f y p j d
theorem VR.pairAt(h:VR w ad F (.a [.i p.1,.i p.2]) v)(c:DG F s.1):mW s.1 v p:=by refine ak λd=>?_;obtain⟨_,a,vs,rfl,⟨o,b,n,po⟩,v1,r1,rfl,⟨t,rfl⟩,v2,r2,rfl,⟨u,rfl⟩,rfl⟩:=h;refine d<|(WN a o t u n ⟨rfl,c a o b,by exact Rr po rfl,by exact Rr po rfl⟩)
theorem wx(OK:eA fx)(S:cr w ad fx F ex σ s)(hp:VR w ad F (.l l) v)(hps:pairsOf l=fU ps)(hc:(ps.length<64/\ps.Nodup)\/ps=jm):
  br (MM w) A (call (.builtin "sorted") [v]) (bE w ad fx F ex (.o<|(mZ ps).map λp=>.a [.i p.1,.i p.2]) σ) ji s:=by
 refine dI hp λhn a vs O fa r=>?_;clear hp;subst O;have c:=r.length;obtain⟨f,U⟩:=r.pairs hps;have hz:vs.length<=eV:=hZ (by exact ao (eg c) hn);have W:∀(i:Nat),i<ps.length->VR w ad F (.a [.i (ps.getD i (0,0)).1,.i (ps.getD i (0,0)).2]) (vs.getD i .none):=λi hi=>by
  have z:i<vs.length:=by exact gy (.s .A) .B (.o .C .B<|.o .D .C<|.z (.s .A) .D) rfl (el c) (el f) hi
  have J:vs[i]?=fU (vs.getD i .none):=by refine Rr al<|Rr (aI z) ?_;rfl
  have u:ps[i]?=fU (ps.getD i (0,0)):=by refine Rr al<|Rr (aI hi) ?_;rfl
  exact U i _ _ J u
 let R:List aF->Prop:=λout=>∃d:List Nat,out=d.map (λi=>vs.getD i .none)/\d.map (λi=>ps.getD i (0,0))=mZ ps/\∀i∈d,i<ps.length
 refine E3 (R:=R) (dj.isList<|fa.get S) hz (λz=>?_) (λs' Y q E=>?_) λout h' hr Y h=>?_
 .have q:vs.length=ps.length:=by exact aj (ao (eg c)<|eg f)<|ao (el f)<|el c
  exact⟨ay vs.length,(range_getD vs _).symm,by refine Rr q ?_;rewrite[range_getD];exact Rr (CQ<|by exact c9 (.s .A) (.n 2) (.o (.s .B) (.n 2)<|.z .A .B) rfl z (eg q)) rfl,λi hi=>by rw[a9] at hi;exact ao hi<|el q⟩
 .have B:DG F s'.1:=λa o e=>Y a o<|S.sub a o e;refine EZ (ps:=ps) (by exact dT (.s<|.n 0) .A (.o .B .C<|.o .C .A<|.z (.n 2) .B) rfl (eg c) (eg f) q) (by exact aj (ao (eg c)<|eg f)<|ao (el f)<|el c) (λi v p J u=>(U i v p J u).pairAt B) ⟨rfl,?_⟩;rcases hc with⟨T,y⟩|g
  .have hO:AB vs.length λi j=>qD (ps.getD i (0,0))<|ps.getD j (0,0):=⟨λi j k z q=>Eu z q,λi=>Gd _,λi j hi I L=>FK λe=>by
    have z:i<ps.length:=by exact gy (.s .A) .B (.o .C .D<|.o .D .B<|.z (.s .A) .C) rfl (eg c) (eg f) hi
    have q:j<ps.length:=by exact gy (.s .A) .B (.o .C .D<|.o .D .B<|.z (.s .A) .C) rfl (eg c) (eg f) I
    have e':ps[i]=ps[j]:=by simpa [al,z,q] using e
    exact L<|(List.getElem_inj y).1 e'⟩
   have run:=kas_runs (prog:=pw) (w:=w) (A:=A.in1.in1) (E:=E) (κ:=o0 Z8) (it:=PyProof.Rows.pairsOf vs) (s:=s') (n:=vs.length)
    (Q:=λuu D Z=>Z=s'/\failedOf D=Z9/\(arrOf D).size=vs.length/\R ((arrOf D).map (·.2)).1) q (by exact dT (.s .A) (.n 64) (.o .A .B<|.o .B .C<|.z (.s .C)<|.n 64) rfl (eg c) (eg f) T)
    (G:=λp Z=>Z=s'/\Pm vs.length p/\Up (λi j=>qD (ps.getD i (0,0))<|ps.getD j (0,0)) p vs.length)
    (λp' D Z Wa ha hf hg=>by
     refine hV hg λP N hup=>?_;clear hg;subst P;refine⟨rfl,hf,by exact Rr ha<|Rr Array.size_map<|Rr Wa rfl,p'.1,?_,?_,λi hi=>?_⟩
     .refine Rr ha ?_;simp only [Array.map_map,lZ];refine cx λi hi=>?_;show(wG (PyProof.Rows.pairsOf vs) i).2=_;rw[wH]
     .refine sU ?_ ?_ (ud y).2
      .refine pQ.trans ?_ (ud y).1.symm;have:=N.map λi=>ps.getD i (0,0);refine this.trans<|pQ.of_eq ?_;refine Rr (show vs.length=ps.length by exact aj (ao (eg c)<|eg f)<|ao (el f)<|el c)<|range_getD ps _
      .refine Rr (propext iU)<|Rr (propext iE) ?_;intro i j hi I L;have hps:p'.size=vs.length:=N.size;have:=hup i j L (by simpa [hps] using I);rw[Cn<|by simpa using hi,Cn<|by simpa using I] at this;simpa using this
     .have:=a9.1<|N.mem_iff.1 hi;exact gy (.s .A) .B (.o .C .D<|.o .D .B<|.z (.s .A) .C) rfl (eg c) (eg f) this)
    (by refine Pl hO (λi j C hi I hC=>?_) q λp z q=>⟨rfl,z,q⟩;show br _ _ (keyLt' (o0 Z8) (wG (PyProof.Rows.pairsOf vs) i).1 (wG (PyProof.Rows.pairsOf vs) j).1) C _ s';rw[wH,wH];exact F0 ((W i<|by exact gy (.s .A) .B (.o .C .D<|.o .D .B<|.z (.s .A) .C) rfl (eg c) (eg f) hi).pairAt B) ((W j<|by exact gy (.s .A) .B (.o .C .D<|.o .D .B<|.z (.s .A) .C) rfl (eg c) (eg f) I).pairAt B) hC)
   have J:SortSt.mk' (o0 Z8) (vs.toArray.zip vs.toArray) #[] 7 Z9=kas_st (o0 Z8) (PyProof.Rows.pairsOf vs) (qw<|ay vs.length):=by have e:=kas_range<|PyProof.Rows.pairsOf vs;rw[pairsOf_size] at e;show SortSt.mk' (o0 Z8) (PyProof.Rows.pairsOf vs) #[] 7 Z9=SortSt.mk' (o0 Z8) ((qw<|ay vs.length).map<|wG<|PyProof.Rows.pairsOf vs) #[] 7 Z9;exact Rr e rfl
   refine Rr J<|run
  .have H:vs.length=288:=by exact Rl c<|Rl f<|Rr g<|Rr Eo rfl
   have J:SortSt.mk' (o0 Z8) (vs.toArray.zip vs.toArray) #[] 7 Z9=SortSt.mk' KT ((up 0 288).map<|wG<|PyProof.Rows.pairsOf vs) #[] 7 Z9:=by
    have e:=kas_range<|PyProof.Rows.pairsOf vs;rw[pairsOf_size,H] at e;have u:up 0 288=qw (ay 288):=by unfold up;exact Rr mM rfl
    refine Rr u<|Rr e ?_;rfl
   refine Rr J<|EF (λi hi=>?_) λm pd=>⟨rfl,?_,n5,?_,?_,λi hi=>?_⟩
   .rw[wH];have:=(W i<|by refine Rr g<|Rr Eo ?_;exact hi).pairAt B;unfold vJ;rw[g] at this;exact this
   .show(pR _ n5).toArray.size=_;refine Rr H ?_;simp[n5]
   .show((pR (wG<|PyProof.Rows.pairsOf vs) n5).toArray.map (·.2)).1=_;simp only [List.map_toArray,bM];refine cx λi hi=>?_;show(wG (PyProof.Rows.pairsOf vs) i).2=_;rw[wH]
   .refine Rr g ?_;exact As
   .refine Rr g<|Rr Eo ?_;have:∀i∈n5,i<288:=by decide+kernel
    exact this i hi
 .obtain⟨d,rfl,u,h3⟩:=hr;obtain⟨n,h⟩:=h;have V:fP w ad F ((mZ ps).map λp=>.a [.i p.1,.i p.2])<|d.map λi=>vs.getD i .none:=by
   refine Rl u ?_;clear u h
   induction d with
   |nil=>exact rfl
   |cons i d ih=>exact cZ.2<|ff _ _ ⟨rfl,W i<|h3 i<|.head _,ih λj I=>h3 j<|.tail _ I⟩
  have M:(mZ ps).length<=aq:=by
   refine Rl u ?_;rw[av];rcases hc with⟨T,y⟩|g
   .have:(mZ ps).length=ps.length:=(ud y).1.length_eq;rw[<-u,av] at this;exact gy .A .B (.o .C .B<|.o .D .C<|.z .A .D) rfl hn (el f) (el this)
   .have:(d.map λi=>ps.getD i (0,0)).length=(mZ ps).length:=by exact Rr u rfl
    rw[av,g] at this;have h4:(mZ jm).length=288:=by refine Rl As ?_;decide+kernel
    unfold aq;exact c9 .A (.n 1048576) (.o .A .B<|.z .B<|.n 288) rfl (el this) (el h4)
  exact bE.xC (t:=s.4) OK S (by rw[av];exact M) V (λb o uu e=>Y b o e) (by refine AN (S.GW OK) λo es ep e x=>?_;exact(ou o es ep ⟨Y _ _ e,x⟩)) (fV<|sa _) h
end
section
variable{w:bN}{g:Bool}{O:jU}{k:Nat}{ad:Ad}{fx:Fx}{F F':FZ}{ex ex':dw}{σ σ':St}{s s':aG}{A:bU}{α:Type}{env:mR}
theorem vX.at:∀{xs:List<|Int×aF} {l:List<|Int×Int} {i:Nat} {a:Int×aF},vX xs l->xs[i]?=fU a->(l.map (·.1))[i]?=fU a.1
 |[],_,i,a=>λb e=>by simp at e
 |x::xs,[],_,_=>λh b=>h.elim
 |x::xs,y::l,0,a=>λh e=>by simp at e;subst e;simp[h.1.1]
 |x::xs,y::l,i+1,a=>λh e=>by simpa using h.2.at (by simpa using e)
theorem GP:∀{vs:List aF} {ns:List Int},vs.length=ns.length->(∀(j:Nat) (v:aF),vs[j]?=fU v->∃n t,ns[j]?=fU n/\v=.int n t)->nH vs ns
 |[],[]=>λb b=>.nil
 |[],_::_=>λh b=>by simp at h
 |_::_,[]=>λh b=>by simp at h
 |v::vs,n::ns=>λh c=>by
  refine mE (c 0 v rfl) λd t e a=>?_;subst a;simp at e;subst e;exact .cons _ _<|GP (by simpa using h) λj u e=>c (j+1) u<|by simpa using e
theorem wn(E:eA fx)(S:cr w ad fx F ex σ s)(P:A.1=Z9)(I:VR w ad F (.d l) v)(d:l.length<64):
  br (MM w) A (call (.builtin "sorted") [v]) (bE w ad fx F ex (.o<|(sortI<|l.map (·.1)).map .i) σ) ji s:=by
 refine jX I λa xs p lo fa r=>?_;clear I;subst p;obtain⟨ep,u⟩:=(nO<|fa.get S).dictAt;have k:=r.length;refine Calls.call_function_entry kind_sorted plain_sorted entry_sorted (args_sorted1 _) ?_;unfold Builtin.«sorted»;refine aH (m:=checkCount "sorted" 1 1 _)<|bB ?_;have J:xs.length<=eV:=hZ (by unfold aq;exact c9 .A (.n 1048576) (.o (.s .B) (.n 64)<|.z .A .B) rfl d (el k));refine aH<|kdu_collect (A:=A.in1) (kdl_dict (knd:=IK w) (kvs:=xs) (ep:=ep) lo) P u J λh' tk acc y c=>?_;have f:acc.1.length=xs.length:=by refine Rr m7 ?_;exact c.1
 have O:nH acc.1<|l.map (·.1):=by refine GP (by refine Rr f ?_;rewrite[av];exact Rr k rfl) λj v e=>?_;refine mE (c.2 j v<|by refine Rl Array.getElem?_toList ?_;exact e) λi x q N=>?_;obtain⟨t,rfl⟩:=Value.isInt_shape N;exact(ff i t ⟨r.at q,rfl⟩)
 refine aH (yW ?_<|by refine Rr f ?_;exact J);have h:(h'.push<|gL "list" acc.1.toArray 0).get? h'.1.size=fU (gL "list" acc.1.toArray 0):=fD _ rfl;refine aH (jx<|uh slot_list_sort ⟨_,h,rfl⟩ entry_list_sort ?body<|args_list_sort _)
 case body=>
  refine list_sort_tree (s:={s with heap:=h'.push<|gL "list" acc.1.toArray 0,toks:=tk}) h O (dT (.s .A) (.n 64) (.o (.s .B) (.n 64)<|.o .C .B<|.z .A .C) rfl d (el k) (el f)) λout C L G M=>⟨_,rfl,bB ⟨_,rfl,?_⟩⟩;have q:C=sortI (l.map (·.1)):=by have:=Jb (l.map (·.1)) [] .nil;exact Ai (G.trans<|by simpa [sortI] using this.1.symm) M<|by simpa [sortI] using this.2
  have keep:∀b o,s.1.get? b=fU o->(u9 (h'.push<|gL "list" acc.1.toArray 0) h'.1.size acc.1 out).get? b=fU o:=λb o e=>by
   have H:b≠h'.1.size:=gj<|dY<|y b o e;unfold u9;refine Rr (gY _ _ _ _ H) ?_;refine aZ _<|aZ _ ?_;refine Rr (gY _ _ _ _ H) ?_;exact aZ _<|y b o e
  obtain⟨n1,z⟩:∃n,((h'.push<|gL "list" acc.1.toArray 0).update h'.1.size<|Obj.mapSeq λD=>#[]).get? h'.1.size=fU (gL "list" #[] n):=⟨_,ke h λD=>#[]⟩;obtain⟨n2,B⟩:∃n,(u9 (h'.push<|gL "list" acc.1.toArray 0) h'.1.size acc.1 out).get? h'.1.size=fU (gL "list" out n):=
   ⟨_,ke (aZ _<|aZ _ z) λD=>out⟩
  have g:s.1.get? h'.1.size=Z9:=by
   cases e:s.1.get? h'.1.size with
   |none=>rfl
   |some o=>exact bq (dY<|y _ _ e)<|cB _
  refine bE.xC (vs:=out.1) (n:=n2) (t:=tk) E S (l:=(sortI<|l.map (·.1)).map .i) ?_ ?_ (λb o D e=>keep b o e) (by refine AN (S.GW E) λo es ep e x=>?_;exact(ou o es ep ⟨keep _ _ e,x⟩)) g<|by refine Rr Array.toArray_toList ?_;exact B
  .rewrite[av];refine Rl q<|Rr G.length_eq ?_;rw[av];unfold aq;exact dL .A (.n 1048576) (.z (.s .A)<|.n 64) rfl d
  .refine Rl q ?_;exact fP.ofInts L
end
section
variable{w:bN}{g:Bool}{O:jU}{k:Nat}{ad:Ad}{fx:Fx}{F F':FZ}{ex ex':dw}{σ σ':St}{s s':aG}{A:bU}{α:Type}{env:mR}
theorem fP.lu(h:fP w ad F [p] vs):∃v,vs=[v]/\VR w ad F p v:=
 by refine cU (cZ.1 h) λv r e q k=>?_;exact⟨v,by cases dN.1 k;exact e,q⟩
theorem lu(h:Cq f ps=fU lv)(r:fP w ad F ps vs):∃p v,ps=[p]/\vs=[v]/\f p=fU lv/\VR w ad F p v:=
 dq h λp b h=>by
  cases A0 b;refine bO r.lu λv a q=>?_;subst a;exact(ff p v ⟨rfl,rfl,h,q⟩)
theorem Oo(h:VH ps=fU x)(r:fP w ad F ps vs):∃u v,vs=[u,v]/\VR w ad F x.1 u/\VR w ad F x.2 v:=by cases LN h;refine cU (cZ.1 r) λu d a q k=>?_;subst a;refine bO k.lu λv b c=>?_;subst b;exact(ff u v ⟨rfl,q,c⟩)
noncomputable def Xa(b:Nat):List aF:=if b=8 then[.type "tuple"] else[]
def IQ(w:bN)(ad:Ad)(fx:Fx)(F:FZ)(ex:dw)(σ:St)(s:aG)(A:bU)(b:Nat)(vs:List aF)(lv:LV):Prop:=
 br (MM w) A (call (Tq b)<|vs++Xa b) (bE w ad fx F ex lv σ) ji s
theorem QZ(h:WQ p=fU l):p=.e l:=by cases p<;>cases h;rfl
theorem HK(h:Bv p=Z8):p=.m:=by cases p<;>first|rfl|injection h
theorem W8(h:Bv p=Z8)(q:VR w ad F p v):v=.ref ad.3:=(HK h▸q:VR w ad F .m v)
theorem RG(S:cr w ad fx F ex σ s)(h:XC σ.2 p=fU lv)(q:VR w ad F p v):IQ w ad fx F ex σ s A 0 [v] lv:=
 wq h (λh=>wq h (λh=>wq h (λh=>by
   obtain⟨hm,h⟩:=qp h;refine dq h λb f h=>A7 h λg e=>?_;subst e;cases W8 hm q;exact WA S f g)
  λl e h=>by injection h with a;subst a;exact ES S<|QZ e▸q) λl e h=>by injection h with c;subst c;exact A8 S<|KY e▸q) λl e h=>by injection h with d;subst d;exact Do S<|qd e▸q
theorem ints1(h:nH vs [b]):∃t,vs=[.int b t]:=by cases h with|cons _ t r=>cases r;exact⟨t,rfl⟩
theorem I7{a:Int}{is:List Int}{vs:List aF}(h:nH vs (a::is)):∃t r,vs=.int a t::r/\nH r is:=by cases h with|cons _ t r=>exact(ff t _ ⟨rfl,r⟩)
theorem J3(h:Pf is=fU x):(∃b,is=[b]/\x=(0,b,1))\/(∃a b,is=[a,b]/\x=(a,b,1))\/∃a b c,is=[a,b,c]/\x=(a,b,c):=by
 cases is with
 |nil=>injection h
 |cons a r=>cases r with
  |nil=>(injection h with e;subst e);exact .inl ⟨a,rfl,rfl⟩
  |cons b r=>cases r with
   |nil=>(injection h with f;subst f);exact .inr<|.inl<|ff a b ⟨rfl,rfl⟩
   |cons c r=>cases r with
    |nil=>(injection h with g;subst g);exact .inr<|.inr<|ou a b c ⟨rfl,rfl⟩
    |cons d r=>injection h
theorem Kb(S:cr w ad fx F ex σ s)(h:IZ ps=fU lv)(q:fP w ad F ps vs):IQ w ad fx F ex σ s A 1 vs lv:=
 dq h λis hi h=>dq h λx n h=>jn h λl m e=>by
  subst e;obtain⟨j,_⟩:=q.ints hi;rcases J3 n with⟨b,rfl,rfl⟩|⟨a,b,rfl,rfl⟩|⟨a,b,c,rfl,rfl⟩
  .obtain⟨t,rfl⟩:=ints1 j;exact H8 S
  .refine mE (I7 j) λt r f d=>?_;subst f;obtain⟨u,rfl⟩:=ints1 d;exact Ij S
  .refine mE (I7 j) λt r g d=>?_;subst g;refine mE (I7 d) λu o i k=>?_;subst i;obtain⟨v,rfl⟩:=ints1 k;exact Iw S (dG (qp m).1).1
theorem N9(a:eA fx)(S:cr w ad fx F ex σ s)(h:listE p=fU lv)(q:VR w ad F p v):IQ w ad fx F ex σ s A 2 [v] lv:=
 jn h λl e h=>h▸OR a S (qd e▸q)
theorem IC(a:eA fx)(S:cr w ad fx F ex σ s)(b:A.1=Z9)(h:FX p=fU lv)(q:VR w ad F p v):IQ w ad fx F ex σ s A 3 [v] lv:=
 wq h (λh=>dq h λl e h=>A7 h λhc h=>h▸wn a S b (KI e▸q) hc)
  λl e h=>dq h λps hps h=>A7 h λhc h=>h▸wx a S (qd e▸q) hps hc
theorem Kh(h:RX ps f=fU lv)(q:fP w ad F ps vs):∃a b t u,vs=[.int a t,.int b u]/\lv=Ho (f a b):=
 dq h λx g h=>dq h λa d h=>jn h λb e h=>by
  refine cU (Oo g q) λu v c i j=>?_;subst c;obtain⟨t,rfl⟩:=tR d i;obtain⟨u,rfl⟩:=tR e j;exact(B2 a b t u ⟨rfl,h.symm⟩)
theorem RO(S:cr w ad fx F ex σ s)(R:Rm (k+1) A)(h:Uo ps=fU lv)(q:fP w ad F ps vs):IQ w ad fx F ex σ s A 4 vs lv:=
 wq h (λh=>by refine uP (Kh h q) λa b t u c d=>?_;subst c d;exact M0 S R) λp i h=>dq h λl e h=>dq h λis hi h=>jn h λm g h=>by
  subst h;cases A0 i;refine bO q.lu λv f j=>?_;subst f;exact NN S R (qd e▸j) hi g
theorem RH(S:cr w ad fx F ex σ s)(R:Rm (k+1) A)(h:Vg ps=fU lv)(q:fP w ad F ps vs):IQ w ad fx F ex σ s A 5 vs lv:=by refine uP (Kh h q) λa b t u c d=>?_;subst c d;exact NK S R
theorem R7(S:cr w ad fx F ex σ s)(R:Rm (k+1) A)(h:Vn p=fU lv)(q:VR w ad F p v):IQ w ad fx F ex σ s A 6 [v] lv:=
 dq h λl e h=>jn h λis hi h=>h▸yn S R (qd e▸q) hi
theorem ME(S:cr w ad fx F ex σ s)(R:Rm (k+1) A)(h:KX σ.2 p=fU lv)(q:VR w ad F p v):IQ w ad fx F ex σ s A 7 [v] lv:=
 wq h (λh=>by
   obtain⟨hm,h⟩:=qp h;refine dq h λb a h=>A7 h λc e=>?_;subst e;cases W8 hm q;exact zt S a c)
  λl e h=>dq h λis hi h=>jn h λb a h=>h▸uq S R (qd e▸q) hi a
theorem KP(S:cr w ad fx F ex σ s)(h:Jf p=fU lv)(q:VR w ad F p v):IQ w ad fx F ex σ s A 8 [v] lv:=
 wq h (λh=>jn h λi e h=>h▸Eb S (tI e▸q)) λl e h=>by injection h with a;subst a;exact Ef S<|Fu e▸q
theorem R5(a:eA fx)(S:cr w ad fx F ex σ s)(R:Rm (k+1) A)(h:Uq p=fU lv)(q:VR w ad F p v):IQ w ad fx F ex σ s A 9 [v] lv:=
 dq h λl e h=>dq h λis hi h=>A7 h λb h=>h▸DU a S R (qd e▸q) hi b
theorem ten(a:b<10):b=0\/b=1\/b=2\/b=3\/b=4\/b=5\/b=6\/b=7\/b=8\/b=9:=by revert a;revert b;decide
theorem Px(a:eA fx)(S:cr w ad fx F ex σ s)(R:Rm (k+1) A)(c:b<10)(h:zG σ.2 b ps=fU lv)(q:fP w ad F ps vs):IQ w ad fx F ex σ s A b vs lv:=by
 rcases(ten c:b=0\/b=1\/b=2\/b=3\/b=4\/b=5\/b=6\/b=7\/b=8\/b=9) with rfl|rfl|rfl|rfl|rfl|rfl|rfl|rfl|rfl|rfl
 .obtain⟨p,v,rfl,rfl,h,q⟩:=lu h q;exact RG S h q
 .exact Kb S h q
 .obtain⟨p,v,rfl,rfl,h,q⟩:=lu h q;exact N9 a S h q
 .obtain⟨p,v,rfl,rfl,h,q⟩:=lu h q;exact IC a S R.3 h q
 .exact RO S R h q
 .exact RH S R h q
 .obtain⟨p,v,rfl,rfl,h,q⟩:=lu h q;exact R7 S R h q
 .obtain⟨p,v,rfl,rfl,h,q⟩:=lu h q;exact ME S R h q
 .obtain⟨p,v,rfl,rfl,h,q⟩:=lu h q;exact KP S h q
 .obtain⟨p,v,rfl,rfl,h,q⟩:=lu h q;exact R5 a S R h q
theorem yF:br M A (pg<|Tq b) (λa c=>c=s) (λa a=>False) s:=by
 rcases b with _|b;· exact λa a a=>rfl
 rcases b with _|b;· exact λa a a=>rfl
 rcases b with _|b;· exact λa a a=>rfl
 rcases b with _|b;· exact λa a a=>rfl
 rcases b with _|b;· exact λa a a=>rfl
 rcases b with _|b;· exact λa a a=>rfl
 rcases b with _|b;· exact λa a a=>rfl
 rcases b with _|b;· exact λa a a=>rfl
 rcases b with _|b;· exact λa a a=>rfl
 exact λa a a=>rfl
theorem tV(h:b<10):(ll b==("__debug__":eT))=Z7:=by
 have:∀b,b<10->(ll b==("__debug__":eT))=Z7:=by decide+kernel
 exact this b h
theorem J2(P:eY):x0 P (so "tuple")=Z9/\nF (so "tuple")=fU (.type "tuple"):=
 ⟨lX (Su P) (so "tuple")<|aw _<|.head _,by kernel_rfl⟩
theorem Vm(m:lU w g O k args)(c:b≠8):bg w g O k<|.a b args:=
 λ{ad fx e F ex σ r s A} OK t v S R=>dq v λy v1 v=>jn v λlv o h=>by
  subst h;have d:=an (an t).2;have a:=dG d.1;refine hV (EP (P:=w.2) a) λi j l=>?_;have n:fE (.a b args) e=.Call (.Name (ll b) (k0 e).pos) (fL args<|ka e) [] e.pos:=by show Expr.Call _ (bif b==8 then _ else _) _ _=_;refine Rr (show(b==8)=Z7 from beq_eq_false_iff_ne.2 c) ?_;rfl
  refine Rr n<|gG<|g9 (.of<|zV OK S.B (an t).1 i j l ?_)<|tV a;refine i0 nK.1<|m.go OK (an d.2).2 v1 S R λvs z B p u f=>⟨yF,?_⟩;have:=Px (A:=A) OK f R a o u;unfold IQ Xa at this;rw[aK c,bn] at this;exact Nx this λx x q=>q.le p
theorem Ux(p:bg w g O k x):bg w g O k<|.a 8<|.c x .n:=
 λ{ad fx e F ex σ r s A} OK t v S R=>dq v λy v1 v=>jn v λlv o j=>by
  subst j;have f:=an (an t).2;have h:=an f.2;have c:=dG f.1;refine hV (EP (P:=w.2) c) λl m n=>?_;obtain⟨k1,k2⟩:=J2 w.2;refine dq v1 λz v2 v1=>jn v1 λH v3 i=>?_;injection v3 with a;subst a
  subst i;have b:∀env,eB [fE x<|hd<|ka e,.Name (so "tuple") (hd (ka e).tail).pos] env=(Z7,dS (fE x<|hd<|ka e) env)::eB [.Name (so "tuple") (hd (ka e).tail).pos] env:=λenv=>nP _ env;refine gG<|g9 (.of<|zV OK S.B (an t).1 l m n ?_)<|tV c;show bV g (MM w) A (IF e.pos (Tq 8) [] (kA e.pos<|eB [fE x<|hd<|ka e,.Name (so "tuple") (hd (ka e).tail).pos] fx.1) []) _ _ _;refine i0 (by rw[b];rfl)<|nu (p.fr OK (an h.2).1 v2 S R λu E G B C d=>?_)<|b _;refine nu (g9 (.of<|zV OK d.B h.1 k1 k2 (by decide+kernel) ?_)<|by decide+kernel) rfl;exact rA ⟨yF,Nx (Px (A:=A) OK d R c o<|(dN.2 rfl).cons C) λD D q=>q.le B⟩
theorem SQ(j:lU w g O k args)(i:∀x,args=.c x .n->bg w g O k x):bg w g O k<|.a b args:=by
 by_cases e:b=8
 .subst e;cases args with
  |n=>exact λa a v a a=>dq v λy v1 v=>by injection v1 with d;subst d;exact nomatch v
  |c x r=>cases r with
  |n=>exact Ux<|i x rfl
  |c y r=>exact λa a v a a=>dq v λy v1 v=>dq v1 λa a v1=>jn v1 λa v2 f=>dq v2 λa a v2=>jn v2 λa v3 h=>by subst f h;exact nomatch v
 .exact Vm j e
theorem Rn:bg w g O k<|.w v:=
 λ{ad fx e F ex σ r s A} OK t v' S R=>jn v' λl y n=>dq y λB m f=>by
  subst n;have D:=an (an t).2;have j:=Bz D.2;refine hV (EP (P:=w.2)<|show 0<10 by decide) λo p q=>gG (g9 (.of<|zV (v:=Tq 0) OK S.B (x:=ll 0) (an t).1 o p q ?_)<|tV (b:=0)<|by decide);refine i0 rfl (nu (g9 (mT OK S j m (λe=>by subst e;injection f) λc hc z=>?_)<|lA OK j) rfl);refine rA ⟨yF,?_⟩;refine lg (UC f z) λd a vs h C=>?_;subst h;have u:=dj.isList<|S.slotAt hc;have i:=C.length;unfold aq at d;refine .of (Calls.call_len_list u (by simp only [bF];omega) ?_);simp only [bF,<-i];exact bE.int<|S.tok _
end
section
variable{prog:qz}{w:bN}{g:Bool}{A:bU}{E:aF->aG->Prop}{s:aG}{nm q:eT}{C N:bW}{bs:List aF}{sn:List eT}{sub:List aF}{col:Option Bool}{dd:Option bW}{k0 k1 k2 k3 k5:Option aF}
noncomputable abbrev Ee(nm q:eT)(C N:bW)(bs:List aF)(sn:List eT)(sub:List aF)(col:Option Bool)(dd:Option bW)(k0 k1 k2 k3 k5:Option aF):Hj:=excClassObj nm q C N bs [.type "object"] Z8 sn sub Z7 col dd k0 k1 k2 k3 k5 "object.__new__"
theorem Sy(a:s.1.get? C=fU (Ee nm q C N bs sn sub col dd k0 k1 k2 k3 k5)):br M A (mroOf<|.ref C) (λl s'=>l.isEmpty=Z7/\s'=s) E s:=by
 repeat (first|with_reducible refine nI a ?_|with_reducible refine wpAny_madeBy_exc a ?_|wp_step)
 exact⟨rfl,rfl⟩
theorem Vr(a:s.1.get? C=fU (Ee nm q C N bs sn sub col dd k0 k1 k2 k3 k5)):br M A (Bind.madeBy<|.ref C) (λl s'=>l=fU "object.__new__"/\s'=s) E s:=by refine wpAny_madeBy_exc a<|⟨rfl,rfl⟩
noncomputable def w7(h:qA)(C:bW):qA:=(h.push {cls:=.type "dict",data:=.dict #[]}).push {cls:=.ref C,dict:=fU h.1.size,data:=.plain}
theorem RB(a:s.1.get? C=fU (Ee nm q C N bs sn sub col dd k0 k1 k2 k3 k5))(b:s.1.Ns N i)(hi:i "__init__"=fU (.ref j)):
  br (dX prog w) A (call (.builtin "object.__new__") (.ref C::rest)) (λv s'=>v=.ref (s.1.1.size+1)/\s'={s with heap:=w7 s.1 C}) E s:=by
 obtain⟨h,c,d,t,os⟩:=s;refine wpAny_call<|codeAny_call_builtin_code (Code.quiet_builtin _ PySem.F.objNew.5)<|wpAny_check_obj_new PySem.F.objNew a ?_;exact codeAny_obj_new PySem.F.objNew a b hi ⟨rfl,rfl⟩
theorem Xu(c:s.1.get? C=fU (Ee nm q C N bs sn sub col dd k0 k1 k2 k3 k5))(d:s.1.get? x=fU h)(hc:h.1=.ref C):br M A (Xn (.ref x)<|.ref C) (λb s'=>b=Z8/\s'=s) E s:=by
 have a:(Value.ref C::[Value.type "object"]).contains (.ref C)=Z8:=by simp
 unfold Xn;obtain⟨cl,f,e,sl⟩:=h;cases hc
 repeat (first|with_reducible refine nI d ?_|(with_reducible refine wpAny_isSubtype_exc c ?_;rw[a])|wp_step)
 exact⟨rfl,rfl⟩
theorem OG(l:s.1.get? C=fU (Ee nm q C N bs sn sub col dd k0 k1 k2 k3 k5))(n:s.1.Ns N y)(hi:y "__init__"=fU (.ref i))
  (m:s.1.get? i=fU z)(b:z.1=.type "function"){x:bW}{f:Hj}(o:s.1.get? x=fU f)(hc:f.1=.ref C){rest:List aF}{Q:Option aF->aG->Prop}
  (h:bV g (dX prog w) A (call (.ref i) (.ref x::rest)) (λv s'=>Q (fU v) s') E s):bV g (dX prog w) A (vb (.ref x) "__init__" rest) Q E s:=by
 have a:mroOf (.type "object")=pure [.type "object"]:=by kernel_rfl
 have c:fp (.type "object") "__init__"=pure (fU<|.builtin "object.__init__"):=by rw[dJ,cj];kernel_rfl
 have k:br (dX prog w) A (qT (.ref x) "__init__") (λr s'=>r=fU (.ref i)/\s'=s) E s:=by
  obtain⟨h0,B,d,t,os⟩:=s;obtain⟨cl,u,p,sl⟩:=f;cases hc
  repeat (first|with_reducible refine nI o ?_|wp_step)
  refine wpAny_typeLookup_exc l n a c ?_;rw[hi];exact⟨rfl,rfl⟩
 unfold vb;refine am<|aR (.of k) (λr s' e=>?_) λj j x=>x;obtain⟨rfl,rfl⟩:=e;dsimp only;refine bJ<|am ?_;unfold bindSpecial;refine am<|.of<|wpAny_typeOf (T:="function") ⟨_,m,b⟩ ?_;rw[bf<|by decide];refine aO<|am<|aR h (λv s' q=>aO q) λj j x=>x
theorem EW(c:s.1.get? C=fU (Ee nm q C N bs sn sub col dd k0 k1 k2 k3 k5))(j:s.1.Ns N y)(hi:y "__init__"=fU (.ref i))
  (m:s.1.get? i=fU z)(f:z.1=.type "function"){rest:List aF}{Q:PySem.Fin->aG->Prop}
  (h:bV g (dX prog w) A (call (.ref i) (.ref (s.1.1.size+1)::rest)) (λv s'=>v=.none/\Q (.done<|.ret<|.ref<|s.1.1.size+1) s') E {s with heap:=w7 s.1 C}):
  bV g (dX prog w) A (Builtin.«type.__call__» ⟨.ref C::rest,[]⟩) Q E s:=by
 unfold Builtin.«type.__call__»;refine am<|aR (.of<|Sy c) (λl s' e=>?_) λa a x=>x;obtain⟨n,e⟩:=e;rw[e,aK<|by rw[n];decide];refine am<|aR (.of<|Vr c) (λl s' e=>?_) λa a x=>x;obtain⟨rfl,e⟩:=e;rw[e];refine am<|aO ?_;refine am<|bJ<|aR (.of<|RB c j hi) (λv s' e=>?_) λa a x=>x;obtain⟨rfl,e⟩:=e;rw[e];have d:∀b o,s.1.get? b=fU o->(w7 s.1 C).get? b=fU o:=λb o e=>aZ _<|aZ _ e;have k:(w7 s.1 C).get? (s.1.1.size+1)=fU {cls:=.ref C,dict:=fU s.1.1.size,data:=.plain}:=by unfold w7;rw[show s.1.1.size+1=(s.1.push {cls:=.type "dict",data:=.dict #[]}).1.size by rw[sd]];exact fD _ rfl
 refine am<|aR (.of<|Xu (s:={s with heap:=w7 s.1 C}) (d _ _ c) k rfl) (λb s' e=>?_) λa a x=>x;obtain⟨rfl,e⟩:=e;rw[e,aK<|by decide];refine am (bJ<|OG (s:={s with heap:=w7 s.1 C}) (d _ _ c) (by obtain⟨o,es,ep,e,x⟩:=j;exact⟨o,es,ep,d _ _ e,x⟩) hi (d _ _ m) f k rfl (aR h (λv s' q=>?_) λa a x=>x));obtain⟨rfl,q⟩:=q;dsimp only;rw[aK<|by decide];exact aO q
theorem XV{id:String}{args:Args}{b:Builtin}(a:qY BN id=fU b):(dX prog w).1 (.builtin id args)=b args:=by show(match qY BN id with|some b=>b args|none=>unsupported<|(withoutEnding? id "#data").getD id)=_;rw[a]
theorem KV(b:s.1.get? C=fU (Ee nm q C N bs sn sub col dd k0 k1 k2 k3 k5))(k:s.1.Ns N y)(hi:y "__init__"=fU (.ref i))
  (j:s.1.get? i=fU z)(c:z.1=.type "function"){rest:List aF}{Q:aF->aG->Prop}
  (h:bV g (dX prog w) (A.under<|.builtin "type.__call__" ⟨.ref C::rest,[]⟩) (call (.ref i) (.ref (s.1.1.size+1)::rest)) (λv s'=>v=.none/\Q (.ref<|s.1.1.size+1) s') E {s with heap:=w7 s.1 C}):
  bV g (dX prog w) A (call (.ref C) rest) Q E s:=by
 have hT:s.TypeIs (.ref C) "type":=⟨_,b,rfl⟩;refine lj<|eP rfl ?_;have f1:=tc_lookup;have f2:=tc_bind<|.ref C;have f:br (dX prog w) (A.under<|.call (.ref C) ⟨rest,[]⟩) (callAny (.ref C) ⟨rest,[]⟩) (λfin s'=>fin=.again (.call (.builtin "type.__call__") ⟨.ref C::rest,[]⟩)/\s'=s) E s:=by
  obtain⟨h0,l,d,t,os⟩:=s
  repeat (any_goals (first|assumption|with_reducible refine nI b ?_|wp_step))
  all_goals exact⟨rfl,rfl⟩
 refine aR (.of f) (λfin s' e=>?_) λa a x=>x;obtain⟨rfl,e⟩:=e;rw[e];refine⟨rfl,eP rfl ?_⟩;show bV g _ _ (do oG "type.__call__" ⟨.ref C::rest,[]⟩;again (.builtin "type.__call__" ⟨.ref C::rest,[]⟩)) _ _ s;refine am<|aR (.of<|wpAny_check_type_call_sub (g:=s.2) (d:=s.3) (t:=s.4) (os:=s.5) (h:=s.1) b (Q:=λa s'=>s'=s) rfl) (λa s' e=>?_) λa a x=>x;rw[e];refine aO ⟨Code.quiet_builtin _<|by decide+kernel,eP (by show(!rf.contains "type.__call__")=Z8;decide+kernel) ?_⟩;refine Rr (XV entry_typeCall) ?_;refine EW b k hi j c<|aR h (λv s' q=>q) λa a x=>x
theorem Rm.made(R:Rm (k+1) A):Rm k<|A.under<|.builtin "type.__call__" ⟨.ref C::rest,[]⟩:=by
 have b:(Code.builtin "type.__call__" ⟨.ref C::rest,[]⟩).weight=1:=by kernel_rfl
 have a:(Code.builtin "type.__call__" ⟨.ref C::rest,[]⟩).cUnits<=50:=by
  have:(Code.builtin "type.__call__" ⟨.ref C::rest,[]⟩).cUnits=1:=by kernel_rfl
  exact dL .A (.n 50) (.z .A .i) rfl (el this)
 refine⟨?_,?_,R.3⟩
 .have:=R.1;exact dT (.s<|.a (.a .A .B)<|.m 4 .C) (.n 990) (.o .B .i<|.z (.s<|.a .A<|.m 4<|.s .C)<|.n 990) rfl (el b) this
 .have:=R.2;exact dT (.s<|.a (.a .A .B)<|.m 100 .C) (.n 9800) (.o .B (.n 50)<|.z (.s<|.a .A<|.m 100<|.s .C)<|.n 9800) rfl a this
end
noncomputable def ut(tb:te)(sc:i5)(cs:List<|eT×bW)(L:bW)(mt:List<|eT×Nat)(D:bW)(i:Nat):Loc:=
 (tb.find? λp=>p.2==i).elim ((mt.find? λp=>p.2==i).elim .a λp=>.n D p.1)
  λp=>bif sc.2.lookup p.1==fU .local then .n L p.1 else bif sc.2.lookup p.1==fU .cell then(cs.lookup p.1).elim .a .c else .a
structure zr (sc:i5) (tb:te) (mtb:MT) (c:Nat):Prop where
 kind:sc.1=.function
 good:∀x i,(x,i)∈tb->u0 x=Z8/\(sc.2.lookup x=fU .local\/(sc.2.lookup x=fU .cell/\(x,NameKind.cell)∈sc.2))
 slots:(tb.map (·.2)++mtb.1.map (·.2)).Nodup
 names:(tb.map (·.1)).Nodup
 VN:(mtb.1.map (·.1)).Nodup
 lJ:∀x i,(x,i)∈mtb.1->x∈dp c
noncomputable def Oy(sc:i5)(tb:te)(mtb:MT)(c:Nat):Bool:=
 sc.1==.function&&tb.all (λp=>u0 p.1&&(sc.2.lookup p.1==fU .local||(sc.2.lookup p.1==fU .cell&&sc.2.contains (p.1,NameKind.cell))))&&
 decide (tb.map (·.2)++mtb.1.map (·.2)).Nodup&&decide (tb.map (·.1)).Nodup&&decide (mtb.1.map (·.1)).Nodup&&mtb.1.all (λp=>(dp c).contains p.1)
theorem zr.of(h:Oy sc tb mtb c=Z8):zr sc tb mtb c:=by unfold Oy at h;simp only [gD,aU,decide_eq_true_eq,qN,beq_iff_eq,gz] at h;refine iB h λa k=>?_;obtain⟨⟨⟨⟨d,e⟩,f⟩,g⟩,j⟩:=a;exact⟨d,λx i b=>e _ b,f,g,j,λx i b=>k _ b⟩
theorem pA:∀{tb:te} {x:eT} {i:Nat},(tb.map (·.2)).Nodup->(x,i)∈tb->tb.find? (λp=>p.2==i)=fU (x,i)
 |p::tb,x,i,a,hm=>by
  rw[az,cN] at a;refine Rr iF ?_;rcases ax.1 hm with e|hm
  .refine Rl e ?_;simp
  .have:p.2≠i:=λe=>a.1<|e▸aE.2 ⟨(x,i),hm,rfl⟩;refine Rr (show(p.2==i)=Z7 from by simpa using this)<|pA a.2 hm
theorem CI{tb:te}{p:eT×Nat}(h:tb.find? (λp=>p.2==i)=fU p):p∈tb/\p.2=i:=⟨j4 h,by simpa using qO h⟩
theorem vi{tb:te}(h:(tb.map (·.1)).Nodup){x:eT}{i j:Nat}(b:(x,i)∈tb)(c:(x,j)∈tb):i=j:=by
 induction tb with
 |nil=>cases b
 |cons p tb f=>
  rw[az,cN] at h;rcases ax.1 b with e|b<;>rcases ax.1 c with d|c
  .rw[<-e] at d;injection d with _ a;subst a;rfl
  .exact bq (aE.2 ⟨_,c,rfl⟩)<|by rw[<-e] at h;exact h.1
  .exact bq (aE.2 ⟨_,b,rfl⟩)<|by rw[<-d] at h;exact h.1
  .exact f h.2 b c
section
variable{sc:i5}{tb:te}{mtb:MT}{c:Nat}{cs:List (eT×bW)}{L D:bW}
theorem p9:∀{names:List<|eT×IM} {n:Nat} {acc:List<|eT×bW} {x:eT},(x,NameKind.cell)∈names\/(acc.lookup x).isSome=Z8->((DF n names acc).lookup x).isSome=Z8
 |[],n,acc,x=>λh=>by
  rcases h with h|h
  .cases h
  .exact h
 |(y,k)::r,n,acc,x=>λh=>by
  unfold DF;split
  .refine p9 ?_;rcases h with h|h
   .rcases ax.1 h with e|h
    .injection e with a b;subst a b;right;simp
    .exact .inl h
   .right
    refine Rr ek ?_;split
    .rfl
    .exact h
  .rename_i f;refine p9 ?_;rcases h with h|h
   .rcases ax.1 h with e|h
    .injection e with c d;subst c d;exact bq rfl f
    .exact .inl h
   .exact .inr h
theorem z6(O:zr sc tb mtb c)(b:(x,i)∈tb)(a:sc.2.lookup x=fU .local):ut tb sc cs L mtb.1 D i=.n L x:=by unfold ut;refine Rr (pA (gU.1 O.3).1 b) ?_;rewrite[jZ];refine Rr a ?_;rfl
theorem Dm(O:zr sc tb mtb c)(d:(x,i)∈tb)(b:sc.2.lookup x=fU .cell)(hc:cs.lookup x=fU a):ut tb sc cs L mtb.1 D i=.c a:=by unfold ut;refine Rr (pA (gU.1 O.3).1 d) ?_;rewrite[jZ];refine Rr b<|Rr hc ?_;rfl
theorem Ql(O:zr sc tb mtb c)(a:(x,i)∈mtb.1):ut tb sc cs L mtb.1 D i=.n D x:=by
 unfold ut;have b:tb.find? (λp=>p.2==i)=Z9:=by refine Rr (propext List.find?_eq_none) ?_;intro p d e;exact(gU.1 O.3).2.2 p.2 (aE.2 ⟨p,d,rfl⟩) i (aE.2 ⟨_,a,rfl⟩)<|by simpa using e
 refine Rr b<|Rr (pA (gU.1 O.3).2.1 a) ?_;rfl
theorem si{i:Nat}{l:Loc}(h:ut tb sc cs L mtb.1 D i=l):l=.a\/(∃x,(x,i)∈tb/\l=.n L x)\/(∃x a,(x,i)∈tb/\cs.lookup x=fU a/\l=.c a)\/(∃x,(x,i)∈mtb.1/\l=.n D x):=by
 unfold ut at h;cases f:tb.find? (λp=>p.2==i) with
 |some p=>
  refine iB (CI f) λb e=>?_;subst e;rw[f,jZ] at h;cases c:sc.2.lookup p.1==fU .local with
  |true=>rw[c] at h;exact .inr<|.inl ⟨_,b,h.symm⟩
  |false=>
   cases j:sc.2.lookup p.1==fU .cell with
   |true=>
    rw[c,j] at h;cases d:cs.lookup p.1 with
    |none=>rw[d] at h;exact .inl h.symm
    |some a=>rw[d] at h;exact .inr<|.inr<|.inl<|ff _ a ⟨b,d,h.symm⟩
   |false=>rw[c,j] at h;exact .inl h.symm
 |none=>
  rw[f,Option.elim_none] at h;cases g:mtb.1.find? (λp=>p.2==i) with
  |some p=>refine iB (CI g) λb e=>?_;subst e;rw[g] at h;exact .inr<|.inr<|.inr ⟨p.1,b,h.symm⟩
  |none=>rw[g] at h;exact .inl h.symm
noncomputable abbrev Fx.call(env:mR)(tb:te)(mtb:MT)(me:Option<|Nat×bW):Fx:=
 {env:=env,tbl:=tb,loc:=ut tb env.1 env.4 env.2 mtb.1<|me.elim 0 (·.2),nsA:=[env.2],n1A:=me.elim [] λp=>[p.2],ceA:=env.4.map (·.2),me:=me,mtb:=mtb}
theorem eA.call{env:mR}{me:Option<|Nat×bW}(O:zr env.1 tb mtb<|me.elim 0 (·.1))(k:me=Z9->mtb.1=[])(A:∀p,me=fU p->p.2≠env.2)
  (m:∀x,(x,NameKind.cell)∈env.1.2->(env.4.lookup x).isSome=Z8)(B:env.4.Pairwise λx y=>x.2≠y.2)(G:env.3=3)(F:env.9=0):eA (Fx.call env tb mtb me) where
 kind:=O.1
 tb:=λx i f=>by
  refine iB (O.2 x i f) λc d=>?_;have g:(x==("__debug__":eT))=Z7/\(x==("__classdict__":eT))=Z7:=by unfold u0 at c;simp only [gD,oU] at c;exact c
  refine⟨g.1,g.2,?_⟩;rcases d with d|⟨d,E⟩
  .exact .inl ⟨d,z6 O f d⟩
  .obtain⟨a,D⟩:=cg.1<|m x E;exact .inr ⟨.inl d,a,D,Dm O f d D⟩
 inj:=λi j l hi C z=>by
  rcases si hi with e|⟨x,c,e⟩|⟨x,a,c,d,e⟩|⟨x,c,e⟩
  .exact bq e z
  .rcases si C with e'|⟨y,k1,e'⟩|⟨y,b,k1,k2,e'⟩|⟨y,k1,e'⟩
   .exact bq e' z
   .rw[e] at e';injection e' with _ n;subst n;exact vi O.4 c k1
   .rw[e] at e';injection e'
   .rw[e] at e';cases me with
    |none=>rw[k rfl] at k1;cases k1
    |some p=>have:env.2=p.2:=(Loc.ns.inj e').1;exact bq this.symm<|A p rfl
  .rcases si C with e'|⟨y,k1,e'⟩|⟨y,b,k1,k2,e'⟩|⟨y,k1,e'⟩
   .exact bq e' z
   .rw[e] at e';injection e'
   .rw[e] at e';injection e' with o;subst o
    have:=name_of_addr B (mem_of_lookup d)<|mem_of_lookup k2;subst this;exact vi O.4 c k1
   .rw[e] at e';injection e'
  .rcases si C with e'|⟨y,k1,e'⟩|⟨y,b,k1,k2,e'⟩|⟨y,k1,e'⟩
   .exact bq e' z
   .rw[e] at e';cases me with
    |none=>rw[k rfl] at c;cases c
    |some p=>have:p.2=env.2:=(Loc.ns.inj e').1;exact bq this<|A p rfl
   .rw[e] at e';injection e'
   .rw[e] at e';injection e' with _ q;subst q;exact vi O.5 c k1
 nsM:=.head _
 ceM:=λi a h=>by
  rcases si h with e|⟨x,c,e⟩|⟨x,b,c,d,e⟩|⟨x,c,e⟩<;>cases e
  exact aE.2 ⟨_,mem_of_lookup d,rfl⟩
 mt:=λI H e=>by
  cases me with
  |none=>injection e
  |some p=>(injection e with r;subst r);exact⟨.head _,λx i f=>Ql O f⟩
 nl:=by
  cases me with
  |none=>exact λh=>nomatch h
  |some p=>exact λh=>A p rfl (bl.1 h).symm
 nsL:=λi L' x h=>by
  rcases si h with e|⟨y,c,e⟩|⟨y,b,c,d,e⟩|⟨y,c,e⟩
  .injection e
  .injection e with s t;subst s t;exact .inl<|.head _
  .injection e
  .cases me with
   |none=>rw[k rfl] at c;cases c
   |some p=>(injection e with v w;subst v w);exact .inr (.head _)
 mc:=λx i f=>by
  cases me with
  |none=>rw[k rfl] at f;cases f
  |some p=>exact(ff p.1 p.2 ⟨rfl,O.6 x i f⟩)
 pl:=λi u h=>nomatch h
 glob:=G
 bi:=F
end
section
variable{w:bN}{ad:Ad}{os:gv}{F:FZ}{L ex:dw}{s s':aG}{h':qA}{t:Nat}
theorem GS.AR(G:GS w os F L s)(k:Keeps s.1 h')(f:∀p∈news,s.1.get? p.1=Z9/\∃o,h'.get? p.1=fU o/\p.2 o)(hd:(je news).Nodup):GS w os F (news++L) {s with heap:=h',toks:=t}:=by
 have c:=(G.keep k).tok t;refine⟨c.1,c.2,⟨λp b=>?_,λa=>?_⟩,c.4,c.5⟩
 .rcases a7.1 b with b|b
  .refine⟨(f p b).2,?_⟩;cases e:F p.1 with
   |none=>rfl
   |some o=>have:=G.2 _ _ e;rw[(f p b).1] at this;injection this
  .exact c.3.1 p b
 .refine Rr aC<|Rr bt ?_;have j:(news.map (·.1)).count a<=1:=List.nodup_iff_count.1 hd a;have l:=G.3.2 a;by_cases i:a∈je news
  .refine bO (aE.1 i) λp b d=>?_;subst d;have:(L.map (·.1)).count p.1=0:=by
    refine Rr (propext eG) ?_;intro g;refine bO (aE.1 g) λq g e=>?_;obtain⟨⟨o,h,_⟩,_⟩:=G.3.1 q g;rw[show q.1=p.1 from e,(f p b).1] at h;injection h
   exact c9 (.a .A .B) .i (.o .A .i<|.z .B<|.n 0) rfl j (el this)
  .have:(news.map (·.1)).count a=0:=eG.2 i;exact c9 (.a .A .B) .i (.o .B .i<|.z .A<|.n 0) rfl l (el this)
noncomputable def yr(me:Option<|Nat×bW):dw:=me.elim [] λp=>[(p.2,jh λa=>Z9)]
theorem D4:∀{cl:List CL},(∀c∈cl,c.2=Z9)->ci cl=[]:=by
 intro cl;induction cl with
 |nil=>exact λb=>rfl
 |cons c r a=>intro h;unfold ci;refine Rr (ms<|h c<|.head _)<|Rr (a λc hc=>h c<|.tail _ hc) ?_;rfl
theorem jI.VZ:∀{sl:List LV} {cl:List CL} {n:Nat},jI w ad F sl cl->jI w ad F (sl++ap n .u) (cl++ap n ⟨.none,Z9⟩)
 |[],[],0=>λa=>trivial
 |[],[],n+1=>λa=>⟨rfl,jI.VZ (sl:=[]) (cl:=[]) (n:=n) trivial⟩
 |_::_,_::_,n=>λh=>⟨h.1,jI.VZ h.2⟩
 |[],_::_,_=>λh=>h.elim
 |_::_,[],_=>λh=>h.elim
theorem cr.entry{env:mR}{tb:te}{mtb:MT}{me:Option<|Nat×bW}{m cm:eT->Option aF}{sl0:List LV}{vf:List CL}{W:Wd}{extra:Nat}(O:zr env.1 tb mtb<|me.elim 0 (·.1))(V:∀p,me=fU p->p.2≠env.2)
  (x:InCallC s env.2 m env.4 cm s')(N:jI w ad F sl0 vf)(R:∀c∈vf,c.2=Z9)
  (Q:∀(i:Nat) (c:CL),vf[i]?=fU c->∃y,(y,i)∈tb/\((env.1.2.lookup y=fU .local/\m y=fU c.1)\/(env.1.2.lookup y=fU .cell/\cm y=fU c.1)))
  (d:∀x,(x,NameKind.cell)∈env.1.2->(env.4.lookup x).isSome=Z8)(L:(env.4.map (·.1)).Nodup)
  (f:∀c D,me=fU (c,D)->D≠ad.6/\n7 F ad.6 (vC c D))(G:GS w ad.12 F (yr me++(ex++gB ad W)) s)(k:sl0.length=vf.length):
  Nonempty (cr w ad (Fx.call env tb mtb me) F ex ⟨sl0++ap extra .u,W⟩ s'):=by
 refine mE x.done λh' tk A hk=>?_;subst A
 let nm:bW->eT->Option aF:=λa=>if a=env.2 then m else λE=>Z9
 let cc:bW->Option aF:=λa=>(env.4.find? λp=>p.2==a).bind λp=>cm p.1
 have b:∀y a,env.4.lookup y=fU a->cc a=cm y:=λy a z=>by
  have r:=mem_of_lookup z;have P:(env.4.map (·.2)).Nodup:=by have:=x.3;refine Rr (propext oj)<|Rr (propext iU) ?_;exact this
  show(env.4.find? λp=>p.2==a).bind _=_;refine Rr (pA P r) ?_;rfl
 refine⟨⟨vf++ap extra ⟨.none,Z9⟩,nm,cc,N.VZ,?_,(λi u hu=>nomatch hu),λc D e=>⟨(f c D e).1,(f c D e).2,λy E=>?_⟩,?_⟩⟩
 .intro i lv c l S v T U;by_cases hi:i<vf.length
  .rw[j5 hi] at T;refine bO (Q i c T) λy z h=>?_;rcases h with⟨g,H⟩|⟨g,H⟩
   .have:l=.n env.2 y:=U▸z6 O z g;refine Rr this ?_;show nm env.2 y=fU c.1;show(if env.2=env.2 then m else λE=>Z9) y=_;refine Rr (bf rfl) ?_;exact H
   .have I:=(O.2 y i z).2.resolve_left (by refine Rr g ?_;simp);obtain⟨a,Y⟩:=cg.1<|d y I.2;have:l=.c a:=U▸Dm O z g Y;refine Rr this ?_;show cc a=fU c.1;refine Rr (b y a Y) ?_;exact H
  .exfalso;have M:sl0.length<=i:=ao (el k)<|aJ hi;rw[gq M] at S;have:=iT S;exact v<|gK this
 .show(if D=env.2 then m else λE=>Z9) y=Z9;exact Rr (aK<|V _ e) rfl
 .have J:ci (vf++ap extra ⟨.none,Z9⟩)=[]:=D4 λc hc=>by
   rcases a7.1 hc with hc|hc
   .exact R c hc
   .exact Rr (gK hc) rfl
  refine Rr J ?_;have Z:=G.AR (t:=tk) (h':=h') (news:=(env.2,pj<|nm env.2)::env.4.map (λp=>(p.2,iK<|cc p.2))) hk (λp j=>?_) ?_
  .refine Z.zH (λp j=>?_) λa=>?_
   .simp only [dU,az,dP,a7,ax,bj,or_false,bM,false_or] at j⊢
    rcases j with(h|h|h)|h|h
    .exact .inl<|.inl h
    .refine .inr<|.inl ?_;cases me with
     |none=>exact bq h<|by simp
     |some q=>simp only [se,az,dP,bl] at h;have e:nm q.2=λE=>Z9:=aK<|V q rfl;rw[e] at h;simp only [yr,se,bl];exact h
    .exact .inl<|.inr h
    .exact .inr<|.inr<|.inl h
    .exact .inr<|.inr<|.inr h
   .cases me with
    |none=>simp only [dU,yr,se,je,az,dP,aC,bM,bt,cy,fm,oV,eN,eR];exact gy (.a (.a .A<|.a .B .C) .D) (.a (.a .A<|.a .B .C) .D) .e rfl
    |some q=>simp only [dU,yr,se,je,az,dP,aC,bM,bt,cy,fm,oV,eN,eR];exact pI (.a (.a (.a .A<|.a .B .C) .D) .E) (.a (.a .A<|.a (.a .B .C) .D) .E) .e rfl
  .rcases ax.1 j with rfl|j
   .refine⟨fV x.1.4,?_⟩;have e:nm env.2=m:=bf rfl;show∃o,h'.get? env.2=fU o/\pj (nm env.2) o;refine Rr e<|pj.of x.1.2
   .refine bO (aE.1 j) λq C B=>?_;subst B;obtain⟨y,a⟩:=q;have n:env.4.lookup y=fU a:=by
     have g:∀(l:List<|eT×bW),(l.map (·.1)).Nodup->(y,a)∈l->l.lookup y=fU a:=by
      intro l
      induction l with
      |nil=>intro _ h;cases h
      |cons p l ih=>
       intro v f;rw[az,cN] at v;refine Rr ek ?_;rcases ax.1 f with e|f
       .refine Rl e ?_;simp
       .have:(y==p.1)=Z7:=by
         have:y≠p.1:=λe=>v.1<|e▸aE.2 ⟨_,f,rfl⟩;simpa using this
        refine Rr this ?_;exact ih v.2 f
     exact g _ L C
    refine⟨fV<|ao x.1.4<|be<|x.4 y a C,?_⟩;have:=x.2 y a n;show∃o,h'.get? a=fU o/\iK (cc a) o;refine Rr (b y a n)<|this
  .show(env.2::(env.4.map λp=>(p.2,iK<|cc p.2)).map (·.1)).Nodup;refine Rr bM<|Rr (propext cN) ?_;refine⟨λh=>?_,?_⟩
   .refine bO (aE.1 h) λq C e=>?_;have:=x.4 q.1 q.2 C;have e':q.2=env.2:=e;rw[e'] at this;exact cB _ this
   .refine Rr (propext oj)<|Rr (propext iU) ?_;exact x.3
end
noncomputable def EY:iX:=(.c (.r<|.b .c (.v 0)<|.b .s (.b .b (.i 1)<|.v 1)<|.i 1) .n)
noncomputable def xO:iX:=(.c (.a 2<|.i 0)<|.c (.f [3] (.a 1<|.c (.v 1) .n)<|.c (.a 2<|.b .g (.b .b (.v 2)<|.i 1)<|.b .c (.b .d (.v 0)<|.v 3)<|.i 1) .n)<|.c (.r<|.v 2) .n)
noncomputable def C2:iX:=(.c (.i (.o<|.c (.c .l (.v 1)<|.i 0)<|.c (.c .l (.v 0)<|.i 0)<|.c (.c .n (.b .d (.v 0)<|.v 1)<|.i 0) .n) (.c .n .n) .n) .n)
noncomputable def zn:iX:=(.c (.e<|.c 75<|.c (.v 1)<|.c (.v 2) .n)<|.c (.h 1<|.b .g (.e (.v 0) 1)<|.b .b (.v 1)<|.e (.v 0) 2)<|.c (.h 2<|.b .a (.e (.v 0) 2)<|.v 2)<|.c (.w (.c .a (.e (.v 0) 2)<|.g 0)<|.c (.m<|.c 61<|.c (.e (.v 0) 1)<|.c (.g 0) .n)<|.c (.h 1<|.b .d (.e (.v 0) 1)<|.g 0)<|.c (.h 2<|.b .s (.e (.v 0) 2)<|.g 0) .n) .n)
noncomputable def wm:iX:=(.c (.i (.c .g (.e (.v 0) 2)<|.i 0) (.c (.e<|.m 96 127 (.v 0)<|.c (.i 0)<|.c (.b .s (.g 0)<|.e (.v 0) 2) .n) .n) .n) .n)
noncomputable def rs:iX:=(.c (.e<|.m 103 127 (.v 0) .n)<|.c (.k<|.v 1) .n)
noncomputable def sM:iX:=(.c (.r<|.b .a (.b .m (.g 0)<|.a 0<|.c (.e (.v 0) 0) .n)<|.e (.v 0) 2) .n)
noncomputable def vM:iX:=(.c (.i (.c .e (.e (.v 0) 2)<|.i 0) (.c (.r<|.a 7<|.c (.e (.v 0) 0) .n) .n) .n)<|.c (.r<|.b .a (.a 7<|.c (.e (.v 0) 0) .n)<|.a 7<|.c (.l<|.c (.e (.v 0) 1) .n) .n) .n)
noncomputable def uW:iX:=(.c (.r<|.a 4<|.c (.b .a (.l<|.c (.i 0) .n)<|.a 2<|.c (.v 0) .n) .n) .n)
noncomputable def Ek:iX:=(.c (.a 1<|.b .m (.l<|.c (.i 0) .n)<|.b .a (.c 138<|.c (.v 0) .n)<|.i 1)<|.c (.f [2] (.v 0)<|.c (.i (.c .g (.v 2)<|.i 0) (.c (.b 1 (.v 2)<|.i 1) .n) .n) .n)<|.c (.r<|.D 1) .n)
noncomputable def Dy:iX:=(.c (.a 1<|.i 1)<|.c (.f [2] (.n (.c 145<|.c (.v 0) .n) (.i 1) .none)<|.c (.a 1<|.b .s (.b .m (.i 2)<|.v 1)<|.v 2) .n)<|.c (.r<|.v 1) .n)
noncomputable def IA:iX:=(.c (.r<|.z .l (.c 152<|.c (.v 0) .n)<|.i 0) .n)
noncomputable def y7:iX:=(.c (.a 1<|.b .m (.l<|.c (.i 0) .n)<|.a 0<|.c (.v 0) .n)<|.c (.f [2] (.a 1<|.c (.i 1)<|.c (.a 0<|.c (.v 0) .n) .n)<|.c (.s 1 (.v 2)<|.b .m (.i 2)<|.b .a (.k 1<|.b .s (.v 2)<|.i 1)<|.s (.v 0)<|.b .s (.v 2)<|.i 1) .n)<|.c (.r<|.D 1) .n)
noncomputable def Ei:iX:=(.c (.i (.e<|.c 159<|.c (.v 0) .n) (.c .n .n) .n)<|.c (.a 1<|.c 166<|.c (.c 145<|.c (.v 0) .n) .n)<|.c (.a 2<|.l .n)<|.c (.f [3] (.v 0)<|.c (.d 2<|.p (.c .g (.v 3)<|.i 0) (.k 1<|.v 3)<|.i 0)<|.c (.b 1 (.v 3)<|.i 1) .n)<|.c (.r<|.D 2) .n)
noncomputable def yj:iX:=(.c (.g 2<|.a 2<|.c (.v 1) .n)<|.c (.a 4<|.c 173<|.c (.v 1) .n)<|.c (.g 3<|.o (.c 68<|.c (.s (.v 4)<|.v 5)<|.c (.s (.v 1)<|.v 5) .n) [5] (.a 1<|.c (.a 0<|.c (.v 1) .n) .n) .n) .n)
noncomputable def zm:iX:=(.c (.i (.o<|.c (.c .l (.v 2)<|.i 0)<|.c (.c .a (.v 2)<|.a 0<|.c (.d (.v 0) 195 0) .n)<|.c (.c .e (.s (.d (.v 0) 195 0)<|.v 2)<|.i 0) .n) (.c .n .n) .n)<|.c (.e<|.m 96 127 (.v 1)<|.c (.s (.d (.v 0) 195 1)<|.v 2)<|.c (.s (.d (.v 0) 195 0)<|.v 2) .n) .n)
noncomputable def Li:iX:=(.c (.a 2<|.l .n)<|.c (.a 3<|.l .n)<|.c (.a 4<|.i 0)<|.c (.f [5] (.v 0)<|.c (.w (.a<|.c (.c .l (.v 4)<|.a 0<|.c (.v 1) .n)<|.c (.c .l (.s (.v 1)<|.v 4)<|.v 5) .n)<|.c (.d 2<|.s (.v 1)<|.v 4)<|.c (.d 3<|.h Z7)<|.c (.j .a 4<|.i 1) .n)<|.c (.d 2<|.v 5)<|.c (.d 3<|.h Z8) .n)<|.c (.a 6<|.n (.v 1) (.v 4) .none)<|.c (.r<|.t<|.c (.b .a (.v 2)<|.v 6)<|.c (.b .a (.v 3)<|.b .m (.l<|.c (.h Z7) .n)<|.a 0<|.c (.v 6) .n) .n) .n)
noncomputable def yv:iX:=(.c (.a 2<|.l .n)<|.c (.a 3<|.l .n)<|.c (.f [4] (.a 1<|.c (.v 1) .n)<|.c (.c [5,6]<|.c 206<|.c (.v 0)<|.c (.v 3) .n)<|.c (.d 2<|.v 6)<|.c (.a 3<|.o (.b .a (.s (.v 5)<|.v 7)<|.s (.v 5)<|.b .a (.v 7)<|.i 1) [7] (.a 1<|.c (.i 0)<|.c (.b .s (.a 0<|.c (.v 5) .n)<|.i 1)<|.c (.i 2) .n) .n) .n)<|.c (.r<|.D 2) .n)
noncomputable def xN:iX:=(.c (.a 2<|.a 3<|.c (.o (.t<|.c (.s (.v 0)<|.v 10)<|.c (.v 10) .n) [10] (.a 1<|.c (.a 0<|.c (.v 0) .n) .n)<|.c (.c .g (.s (.v 0)<|.v 10)<|.i 0) .n) .n)<|.c (.a 3<|.b .m (.l<|.c (.i 0) .n)<|.a 0<|.c (.v 0) .n)<|.c (.i (.a<|.c (.e<|.v 2)<|.c (.o<|.c (.c .l (.v 1)<|.i 1)<|.c (.c .g (.a 0<|.c (.v 2) .n)<|.b .b (.i 1)<|.v 1) .n) .n) (.c .n .n) .n)<|.c (.i (.c .e (.a 0<|.c (.v 2) .n)<|.i 1) (.c (.s 3 (.s (.s (.v 2)<|.i 0)<|.i 1)<|.i 1) .n) .n)<|.c (.i (.c .l (.a 0<|.c (.v 2) .n)<|.i 2) (.c (.r<|.D 3) .n) .n)<|.c (.a 4<|.c 211<|.c (.o (.v 11) [11,12] (.v 2) .n)<|.c (.v 1) .n)<|.c (.a 5<|.b .s (.b .m (.i 2)<|.a 0<|.c (.v 2) .n)<|.i 2)<|.c (.l [6] (.v 4)<|.c (.a 7<|.r<|.n (.v 6) .none<|.v 5)<|.c (.f [8,9] (.n (.v 2) .none<|.v 7)<|.c (.b 3 (.v 9)<|.i 1) .n)<|.c (.a 5<|.b .m (.i 2)<|.b .s (.v 5)<|.v 7) .n)<|.c (.r<|.D 3) .n)
noncomputable def xb:iX:=(.c (.a 0<|.l<|.c (.i 16)<|.c (.i 17)<|.c (.i 18)<|.c (.i 0) .n)<|.c (.f [1] (.a 1<|.c (.i 15) .n)<|.c (.i (.c .e (.b .e (.v 1)<|.i 2)<|.i 0) (.c (.d 0<|.b .a (.i 8)<|.b .f (.v 1)<|.i 2) .n)<|.c (.d 0<|.b .s (.i 7)<|.b .f (.v 1)<|.i 2) .n) .n)<|.c (.r<|.D 0) .n)
noncomputable def wl:iX:=(.c (.r<|.t<|.c (.b .a (.b .a (.b .a (.b .m (.l<|.c (.i 8) .n)<|.i 144)<|.b .m (.l<|.c (.i 9) .n)<|.i 112)<|.b .m (.l<|.c (.i 7) .n)<|.i 24)<|.b .m (.l<|.c (.i 8) .n)<|.i 8)<|.c (.b .m (.l<|.c (.i 5) .n)<|.i 32) .n) .n)
noncomputable def HV:iX:=(.c (.a 2<|.i 0)<|.c (.f [3] (.v 0)<|.c (.i (.e<|.a 8<|.c (.v 3) .n) (.c (.j .a 2<|.m 286 289 (.v 1)<|.c (.s (.v 3)<|.i 0)<|.c (.s (.v 3)<|.i 1) .n) .n)<|.c (.j .a 2<|.m 279 289 (.v 1)<|.c (.v 3) .n) .n) .n)<|.c (.r<|.v 2) .n)
noncomputable def xI:iX:=(.c (.a 2<|.i 0)<|.c (.w (.c .a (.b .d (.v 0)<|.v 2)<|.b .m (.i 2)<|.v 1)<|.c (.j .a 2<|.i 1) .n)<|.c (.r<|.t<|.c (.b .a (.b .m (.v 1)<|.v 2)<|.b .d (.v 0)<|.v 2)<|.c (.v 2)<|.c (.b .c (.v 0)<|.b .s (.b .b (.i 1)<|.v 2)<|.i 1) .n) .n)
noncomputable def wt:iX:=(.c (.i (.c .e (.v 0)<|.i 258) (.c (.r<|.t<|.c (.i 285)<|.c (.i 0)<|.c (.i 0) .n) .n) .n)<|.c (.c [1,2,3]<|.c 244<|.c (.b .s (.v 0)<|.i 3)<|.c (.i 4) .n)<|.c (.r<|.t<|.c (.b .a (.i 257)<|.v 1)<|.c (.v 2)<|.c (.v 3) .n) .n)
noncomputable def uA:iX:=(.c (.r<|.c 244<|.c (.b .s (.v 0)<|.i 1)<|.c (.i 2) .n) .n)
noncomputable def zl:iX:=(.c (.g 3<|.v 1)<|.c (.g 4<|.v 2) .n)
noncomputable def vS:iX:=(.c (.r<|.y (.s (.d (.v 0) 289 0)<|.v 1)<|.g 2) .n)
noncomputable def yJ:iX:=(.c (.c [3,4,5]<|.c 251<|.c (.v 1) .n)<|.c (.c [6,7,5]<|.c 258<|.c (.v 2) .n)<|.c (.r<|.b .a (.b .a (.b .a (.y (.s (.d (.v 0) 289 0)<|.v 3)<|.g 2)<|.v 4)<|.y (.s (.d (.v 0) 289 1)<|.v 6)<|.g 2)<|.v 7) .n)
noncomputable def C8:iX:=(.c (.a 1<|.b .m (.l<|.c (.i 0) .n)<|.i 286)<|.c (.a 2<|.b .m (.l<|.c (.i 0) .n)<|.i 30)<|.c (.f [3] (.v 0)<|.c (.i (.e<|.a 8<|.c (.v 3) .n) (.c (.b 1 (.s (.c 251<|.c (.s (.v 3)<|.i 0) .n)<|.i 0)<|.i 1)<|.c (.b 2 (.s (.c 258<|.c (.s (.v 3)<|.i 1) .n)<|.i 0)<|.i 1) .n)<|.c (.b 1 (.v 3)<|.i 1) .n) .n)<|.c (.s 1 (.g 1)<|.i 1)<|.c (.r<|.t<|.c (.v 1)<|.c (.v 2) .n) .n)
noncomputable def EC:iX:=(.c (.a 1<|.a 2<|.c (.v 0) .n)<|.c (.a 2<|.b .s (.i 2)<|.a 0<|.c (.o (.v 4) [4] (.v 0)<|.c (.c .g (.v 4)<|.i 0) .n) .n)<|.c (.a 3<|.i 0)<|.c (.w (.c .g (.v 2)<|.i 0)<|.c (.i (.c .e (.k 1<|.v 3)<|.i 0) (.c (.s 1 (.v 3)<|.i 1)<|.c (.j .s 2<|.i 1) .n) .n)<|.c (.j .a 3<|.i 1) .n)<|.c (.r<|.D 1) .n)
noncomputable def zq:iX:=(.c (.c [1,2]<|.c 300<|.c (.v 0) .n)<|.c (.r<|.t<|.c (.c 216<|.c (.c 305<|.c (.v 1) .n)<|.c (.i 15) .n)<|.c (.c 216<|.c (.v 2)<|.c (.i 15) .n) .n) .n)
noncomputable def ze:iX:=(.c (.a 2<|.a 0<|.c (.v 0) .n)<|.c (.w (.a<|.c (.c .g (.v 2)<|.v 1)<|.c (.c .e (.s (.v 0)<|.b .s (.v 2)<|.i 1)<|.i 0) .n)<|.c (.j .s 2<|.i 1) .n)<|.c (.r<|.n (.v 0) .none<|.v 2) .n)
noncomputable def D9:iX:=(.c (.a 1<|.l .n)<|.c (.a 2<|.i 0)<|.c (.w (.c .l (.v 2)<|.a 0<|.c (.v 0) .n)<|.c (.a 3<|.i 1)<|.c (.w (.a<|.c (.c .l (.b .a (.v 2)<|.v 3)<|.a 0<|.c (.v 0) .n)<|.c (.c .e (.s (.v 0)<|.b .a (.v 2)<|.v 3)<|.s (.v 0)<|.v 2) .n)<|.c (.j .a 3<|.i 1) .n)<|.c (.i (.c .e (.s (.v 0)<|.v 2)<|.i 0) (.c (.p 1<|.c 333<|.c (.v 3) .n) .n)<|.c (.d 1<|.t<|.c (.s (.v 0)<|.v 2)<|.c (.i 0)<|.c (.i 0) .n)<|.c (.p 1<|.c 340<|.c (.s (.v 0)<|.v 2)<|.c (.b .s (.v 3)<|.i 1) .n) .n)<|.c (.j .a 2<|.v 3) .n)<|.c (.r<|.D 1) .n)
noncomputable def zp:iX:=(.c (.a 1<|.l .n)<|.c (.w (.c .a (.v 0)<|.i 11)<|.c (.d 1<|.t<|.c (.i 18)<|.c (.i 7)<|.c (.b .s (.a 5<|.c (.v 0)<|.c (.i 138) .n)<|.i 11) .n)<|.c (.j .s 0<|.a 5<|.c (.v 0)<|.c (.i 138) .n) .n)<|.c (.i (.c .a (.v 0)<|.i 3) (.c (.d 1<|.t<|.c (.i 17)<|.c (.i 3)<|.c (.b .s (.v 0)<|.i 3) .n)<|.c (.a 0<|.i 0) .n) .n)<|.c (.r<|.b .a (.v 1)<|.b .m (.l<|.c (.t<|.c (.i 0)<|.c (.i 0)<|.c (.i 0) .n) .n)<|.v 0) .n)
noncomputable def BF:iX:=(.c (.a 2<|.l .n)<|.c (.w (.c .a (.v 1)<|.i 3)<|.c (.d 2<|.t<|.c (.i 16)<|.c (.i 2)<|.c (.b .s (.a 5<|.c (.v 1)<|.c (.i 6) .n)<|.i 3) .n)<|.c (.j .s 1<|.a 5<|.c (.v 1)<|.c (.i 6) .n) .n)<|.c (.r<|.b .a (.v 2)<|.b .m (.l<|.c (.t<|.c (.v 0)<|.c (.i 0)<|.c (.i 0) .n) .n)<|.v 1) .n)
noncomputable def B1:iX:=(.c (.g 3<|.c 319<|.c (.v 1)<|.c (.i 257) .n)<|.c (.g 4<|.c 319<|.c (.v 2)<|.c (.i 1) .n)<|.c (.g 5<|.c 326<|.c (.b .a (.j 3)<|.j 4) .n)<|.c (.a 8<|.b .m (.l<|.c (.i 0) .n)<|.i 19)<|.c (.f [9,10,11] (.j 5)<|.c (.b 8 (.v 9)<|.i 1) .n)<|.c (.g 6<|.c 216<|.c (.c 305<|.c (.v 8) .n)<|.c (.i 7) .n)<|.c (.g 7<|.c 319<|.c (.o (.s (.j 6)<|.v 12) [12] (.c 223 .n) .n)<|.c (.i 4) .n) .n)
noncomputable def vL:iX:=(.c (.a 1<|.b .a (.i 14)<|.b .m (.i 3)<|.a 0<|.c (.d (.v 0) 369 4) .n)<|.c (.f [2,3,4] (.d (.v 0) 369 2)<|.c (.j .a 1<|.b .a (.s (.d (.v 0) 369 3)<|.v 2)<|.v 3) .n)<|.c (.r<|.v 1) .n)
noncomputable def EO:iX:=(.c (.e<|.m 96 127 (.v 1)<|.c (.b .s (.a 0<|.c (.d (.v 0) 369 0) .n)<|.i 257)<|.c (.i 5) .n)<|.c (.e<|.m 96 127 (.v 1)<|.c (.b .s (.a 0<|.c (.d (.v 0) 369 1) .n)<|.i 1)<|.c (.i 5) .n)<|.c (.e<|.m 96 127 (.v 1)<|.c (.b .s (.a 0<|.c (.d (.v 0) 369 4) .n)<|.i 4)<|.c (.i 4) .n)<|.c (.f [2] (.d (.v 0) 369 4)<|.c (.e<|.m 96 127 (.v 1)<|.c (.v 2)<|.c (.i 3) .n) .n)<|.c (.a 3<|.c 195<|.c (.d (.v 0) 369 3) .n)<|.c (.f [4,5,6] (.d (.v 0) 369 2)<|.c (.e<|.m 192 195 (.v 3)<|.c (.v 1)<|.c (.v 4) .n)<|.c (.e<|.m 96 127 (.v 1)<|.c (.v 6)<|.c (.v 5) .n) .n) .n)
noncomputable def Cw:iX:=(.c (.a 4<|.c 195<|.c (.v 2) .n)<|.c (.a 5<|.c 195<|.c (.v 3) .n)<|.c (.f [6] (.v 1)<|.c (.i (.e<|.a 8<|.c (.v 6) .n) (.c (.c [7,8,9]<|.c 251<|.c (.s (.v 6)<|.i 0) .n)<|.c (.e<|.m 192 195 (.v 4)<|.c (.v 0)<|.c (.v 7) .n)<|.c (.e<|.m 96 127 (.v 0)<|.c (.v 9)<|.c (.v 8) .n)<|.c (.c [7,8,9]<|.c 258<|.c (.s (.v 6)<|.i 1) .n)<|.c (.e<|.m 192 195 (.v 5)<|.c (.v 0)<|.c (.v 7) .n)<|.c (.e<|.m 96 127 (.v 0)<|.c (.v 9)<|.c (.v 8) .n) .n)<|.c (.e<|.m 192 195 (.v 4)<|.c (.v 0)<|.c (.v 6) .n) .n) .n)<|.c (.e<|.m 192 195 (.v 4)<|.c (.v 0)<|.c (.g 1) .n) .n)
noncomputable def um:iX:=(.c (.e<|.m 96 127 (.v 0)<|.c (.v 2)<|.c (.i 1) .n)<|.c (.e<|.m 96 127 (.v 0)<|.c (.i 0)<|.c (.i 2) .n)<|.c (.e<|.m 103 127 (.v 0) .n)<|.c (.e<|.m 96 127 (.v 0)<|.c (.a 0<|.c (.v 1) .n)<|.c (.i 16) .n)<|.c (.e<|.m 96 127 (.v 0)<|.c (.b .s (.i 65535)<|.a 0<|.c (.v 1) .n)<|.c (.i 16) .n)<|.c (.e<|.m 110 127 (.v 0)<|.c (.v 1) .n) .n)
noncomputable def wj:iX:=(.c (.e<|.m 96 127 (.v 0)<|.c (.v 2)<|.c (.i 1) .n)<|.c (.e<|.m 96 127 (.v 0)<|.c (.i 1)<|.c (.i 2) .n)<|.c (.c [3,4]<|.c 230 .n)<|.c (.e<|.c 380<|.c (.v 0)<|.c (.v 1)<|.c (.v 3)<|.c (.v 4) .n) .n)
noncomputable def Bl:iX:=(.c (.c [1,2]<|.c 230 .n)<|.c (.r<|.b .a (.b .a (.i 3)<|.c 237<|.c (.v 0)<|.c (.c 289<|.c (.v 1)<|.c (.v 2) .n) .n)<|.s (.v 1)<|.g 1) .n)
noncomputable def zc:iX:=(.c (.r<|.b .a (.b .a (.b .a (.i 3)<|.b .e (.x<|.b .a (.v 0)<|.i 3)<|.i 8)<|.i 32)<|.b .m (.i 8)<|.v 1) .n)
noncomputable def AT:iX:=(.c (.g 2<|.v 1)<|.c (.o [3,4]<|.c 312<|.c (.v 1) .n)<|.c (.g 5<|.c 369<|.c (.j 3)<|.c (.j 4) .n)<|.c (.a 7<|.c 237<|.c (.v 1)<|.c (.c 289<|.c (.j 3)<|.c (.j 4) .n) .n)<|.c (.g 6<|.b .a (.b .a (.b .a (.i 3)<|.m 359 369 (.j 5) .n)<|.v 7)<|.s (.j 3)<|.g 1) .n)
noncomputable def wc:iX:=(.c (.e<|.m 96 127 (.v 1)<|.c (.v 2)<|.c (.i 1) .n)<|.c (.e<|.m 96 127 (.v 1)<|.c (.i 2)<|.c (.i 2) .n)<|.c (.e<|.m 366 369 (.d (.v 0) 432 3)<|.c (.v 1) .n)<|.c (.e<|.c 380<|.c (.v 1)<|.c (.d (.v 0) 432 0)<|.c (.d (.v 0) 432 1)<|.c (.d (.v 0) 432 2) .n) .n)
noncomputable def Bx:iX:=(.c (.r<|.a 6<|.c (.o (.b .b (.s (.v 0)<|.b .a (.v 1)<|.v 3)<|.v 3) [3] (.a 1<|.c (.v 2) .n) .n) .n) .n)
noncomputable def Dj:iX:=(.c (.a 1 .C)<|.c (.a 2<|.i 0)<|.c (.a 3<|.i 0)<|.c (.f [4,5] (.a 3<|.c (.o (.t<|.c (.s (.v 0)<|.v 6)<|.c (.v 6) .n) [6] (.a 1<|.c (.a 0<|.c (.v 0) .n) .n)<|.c (.c .g (.s (.v 0)<|.v 6)<|.i 0) .n) .n)<|.c (.a 2<|.b .b (.v 2)<|.b .s (.v 4)<|.v 3)<|.c (.s 1 (.t<|.c (.v 4)<|.c (.v 2) .n)<|.v 5)<|.c (.a 2<|.b .a (.v 2)<|.i 1)<|.c (.a 3<|.v 4) .n)<|.c (.r<|.D 1) .n)
noncomputable def BE:iX:=(.c (.a 3<|.i 0)<|.c (.f [4] (.a 1<|.c (.i 1)<|.c (.i 16) .n)<|.c (.a 3<|.b .a (.b .m (.i 2)<|.v 3)<|.s (.v 0)<|.b .s (.b .a (.v 1)<|.v 4)<|.i 1)<|.c (.i (.i (.t<|.c (.v 4)<|.c (.v 3) .n)<|.v 2) (.c (.r<|.t<|.c (.s (.v 2)<|.t<|.c (.v 4)<|.c (.v 3) .n)<|.c (.b .a (.v 1)<|.v 4) .n) .n) .n) .n)<|.c (.r<|.t<|.c (.x<|.i 1)<|.c (.v 1) .n) .n)
noncomputable def EM:iX:=(.c (.a 2<|.t<|.c (.b .a (.i 257)<|.c 449<|.c (.v 0)<|.c (.v 1)<|.c (.i 5) .n)<|.c (.b .a (.i 1)<|.c 449<|.c (.v 0)<|.c (.b .a (.v 1)<|.i 5)<|.c (.i 5) .n)<|.c (.b .a (.i 4)<|.c 449<|.c (.v 0)<|.c (.b .a (.v 1)<|.i 10)<|.c (.i 4) .n) .n)<|.c (.a 1<|.b .a (.v 1)<|.i 14)<|.c (.a 3<|.b .m (.l<|.c (.i 0) .n)<|.i 19)<|.c (.f [4] (.a 1<|.c (.s (.v 2)<|.i 2) .n)<|.c (.s 3 (.s (.g 3)<|.v 4)<|.c 449<|.c (.v 0)<|.c (.v 1)<|.c (.i 3) .n)<|.c (.a 1<|.b .a (.v 1)<|.i 3) .n)<|.c (.a 5<|.c 454<|.c (.v 3) .n)<|.c (.a 6<|.l .n)<|.c (.w (.c .l (.w 6)<|.b .a (.s (.v 2)<|.i 0)<|.s (.v 2)<|.i 1)<|.c (.c [7,1]<|.c 461<|.c (.v 0)<|.c (.v 1)<|.c (.v 5) .n)<|.c (.i (.c .l (.v 7)<|.i 0) (.c (.r<|.t<|.c (.l .n)<|.c (.l .n)<|.c (.v 1) .n) .n) .n)<|.c (.i (.c .l (.v 7)<|.i 16) (.c (.d 6<|.v 7) .n)<|.c (.a 8<|.s (.t<|.c (.i 2)<|.c (.i 3)<|.c (.i 7) .n)<|.b .s (.v 7)<|.i 16)<|.c (.a 9<|.b .a (.s (.t<|.c (.i 3)<|.c (.i 3)<|.c (.i 11) .n)<|.b .s (.v 7)<|.i 16)<|.c 449<|.c (.v 0)<|.c (.v 1)<|.c (.v 8) .n)<|.c (.a 1<|.b .a (.v 1)<|.v 8)<|.c (.a 6<|.b .a (.v 6)<|.b .m (.l<|.c (.p (.c .e (.v 7)<|.i 16) (.s (.v 6)<|.x<|.i 1)<|.i 0) .n)<|.v 9) .n) .n)<|.c (.r<|.t<|.c (.n (.v 6) .none<|.s (.v 2)<|.i 0)<|.c (.n (.v 6) (.s (.v 2)<|.i 0) .none)<|.c (.v 1) .n) .n)
noncomputable def Df:iX:=(.c (.a 4<|.c 454<|.c (.v 2) .n)<|.c (.a 5<|.c 454<|.c (.v 3) .n)<|.c (.a 6<|.l .n)<|.c (.w (.e<|.h Z8)<|.c (.c [7,1]<|.c 461<|.c (.v 0)<|.c (.v 1)<|.c (.v 4) .n)<|.c (.i (.o<|.c (.c .l (.v 7)<|.i 0)<|.c (.c .g (.v 7)<|.i 285) .n) (.c (.r<|.t<|.c .none<|.c (.v 1) .n) .n) .n)<|.c (.i (.c .e (.v 7)<|.i 256) (.c (.r<|.t<|.c (.v 6)<|.c (.v 1) .n) .n) .n)<|.c (.i (.c .l (.v 7)<|.i 256) (.c (.d 6<|.v 7)<|.c .q .n) .n)<|.c (.a 8<|.p (.o<|.c (.c .l (.v 7)<|.i 265)<|.c (.c .e (.v 7)<|.i 285) .n) (.i 0)<|.b .f (.b .s (.v 7)<|.i 261)<|.i 4)<|.c (.a 9<|.p (.c .e (.v 7)<|.i 285) (.i 258)<|.b .a (.i 3)<|.a 6<|.c (.o (.b .b (.i 1)<|.a 4<|.c (.b .f (.b .s (.v 11)<|.i 261)<|.i 4)<|.c (.i 0) .n) [11] (.a 1<|.c (.i 257)<|.c (.v 7) .n) .n) .n)<|.c (.a 10<|.b .a (.v 9)<|.c 449<|.c (.v 0)<|.c (.v 1)<|.c (.v 8) .n)<|.c (.c [7,1]<|.c 461<|.c (.v 0)<|.c (.b .a (.v 1)<|.v 8)<|.c (.v 5) .n)<|.c (.i (.o<|.c (.c .l (.v 7)<|.i 0)<|.c (.c .g (.v 7)<|.i 29) .n) (.c (.r<|.t<|.c .none<|.c (.v 1) .n) .n) .n)<|.c (.a 8<|.a 4<|.c (.b .s (.b .f (.v 7)<|.i 2)<|.i 1)<|.c (.i 0) .n)<|.c (.a 9<|.b .a (.i 1)<|.a 6<|.c (.o (.b .b (.i 1)<|.a 4<|.c (.b .s (.b .f (.v 12)<|.i 2)<|.i 1)<|.c (.i 0) .n) [12] (.a 1<|.c (.v 7) .n) .n) .n)<|.c (.d 6<|.t<|.c (.v 10)<|.c (.b .a (.v 9)<|.c 449<|.c (.v 0)<|.c (.v 1)<|.c (.v 8) .n) .n)<|.c (.a 1<|.b .a (.v 1)<|.v 8) .n) .n)
noncomputable def Ew:iX:=(.c (.i (.c .e (.f (.v 0)<|.i 2)<|.i 0) (.c (.r<|.b .a (.b .m (.f (.v 0)<|.i 16)<|.i 16)<|.f (.v 0)<|.i 16) .n) .n)<|.c (.a 1<|.s (.t<|.c (.i 3)<|.c (.i 4)<|.c (.i 10)<|.c (.i 11)<|.c (.i 12)<|.c (.i 18)<|.c (.i 19)<|.c (.i 66)<|.c (.i 67)<|.c (.i 130)<|.c (.i 131)<|.c (.i 226)<|.c (.i 227)<|.c (.i 257)<|.c (.i 258)<|.c (.i 5) .n)<|.f (.v 0)<|.i 16)<|.c (.a 2<|.b .a (.i 1)<|.b .f (.b .a (.b .a (.b .a (.f (.v 0)<|.i 16)<|.b .m (.i 16)<|.f (.v 0)<|.i 16)<|.b .m (.i 256)<|.f (.v 0)<|.i 16)<|.b .m (.i 4096)<|.f (.v 0)<|.i 8)<|.s (.t<|.c (.i 1)<|.c (.i 16)<|.c (.i 256)<|.c (.i 4096)<|.c (.i 16) .n)<|.f (.v 0)<|.i 5)<|.c (.r<|.t<|.c (.v 1)<|.c (.v 2) .n) .n)
noncomputable def En:iX:=(.c (.r<|.b .a (.A (.b .c (.b .d (.v 1)<|.v 2)<|.i 1) [1] (.m 124 127 (.v 0) .n) [2] (.a 1<|.c (.i 8) .n) .n)<|.b .m (.l<|.c (.i 0) .n)<|.i 24) .n)
noncomputable def A2:iX:=(.c (.a 1<|.B 256 1)<|.c (.a 2<|.l<|.c (.i 3) .n)<|.c (.f [3] (.a 1<|.c (.i 257)<|.c (.i 284) .n)<|.c (.d 2<|.b .a (.k 2<|.x<|.i 1)<|.b .b (.i 1)<|.a 4<|.c (.b .f (.b .s (.v 3)<|.i 261)<|.i 4)<|.c (.i 0) .n) .n)<|.c (.f [4] (.v 0)<|.c (.a 3<|.v 4)<|.c (.i (.e<|.a 8<|.c (.v 4) .n) (.c (.a 3<|.p (.c .e (.s (.v 4)<|.i 0)<|.i 258) (.i 285)<|.b .a (.i 256)<|.a 0<|.c (.o (.v 5) [5] (.v 2)<|.c (.c .b (.v 5)<|.s (.v 4)<|.i 0) .n) .n) .n) .n)<|.c (.s 1 (.v 3)<|.b .a (.q 1 (.v 3)<|.i 0)<|.i 1) .n)<|.c (.r<|.D 1) .n)
noncomputable def zb:iX:=(.c (.a 2<|.d (.v 0) 432 1)<|.c (.a 3<|.o (.t<|.c (.u (.v 1) (.v 4)<|.i 0)<|.c (.s (.v 2)<|.v 4) .n) [4] (.a 1<|.c (.a 0<|.c (.v 2) .n) .n)<|.c (.c .g (.s (.v 2)<|.v 4)<|.i 0) .n)<|.c (.i (.o<|.c (.c .n (.a 6<|.c (.o (.b .b (.i 1)<|.b .s (.i 15)<|.v 8) [7,8] (.v 3) .n) .n)<|.b .b (.i 1)<|.i 15)<|.c (.c .g (.a 4<|.c (.o (.v 6) [5,6] (.v 3) .n) .n)<|.i 15) .n) (.c (.r<|.h Z7) .n) .n)<|.c (.i (.c .n (.o (.v 9) [9] (.a 3<|.c (.v 1) .n)<|.c (.c .e (.s (.v 2)<|.v 9)<|.i 0) .n)<|.l .n) (.c (.r<|.h Z7) .n) .n)<|.c (.r<|.z .e (.A (.i 1) [10] (.v 3) [11] (.v 3)<|.c (.a<|.c (.c .g (.s (.v 10)<|.i 0)<|.s (.v 11)<|.i 0)<|.c (.c .g (.s (.v 10)<|.i 1)<|.s (.v 11)<|.i 1) .n) .n)<|.l .n) .n)
set_option genInjectivity false in
set_option genSizeOf false in
structure Cr where
 key:Nat
 fa:Nat
 st:iW
 body:iX
 tb:te
 mtb:MT
 np:Nat
 extra:Nat
 cls:Option (Nat×List Nat)
 qual:eT
 mod:eT
 mt:Tok
 code:bW
noncomputable def AL:List Cr:=[
 ⟨61,61,st 5,EY,[(aa "value",0),(aa "count",1)],⟨[],2⟩,2,0,Z9,"low_bits","paperhold.bits",245,60⟩,
 ⟨68,68,st 6,xO,[(aa "value",0),(aa "count",1),(aa "turned",2),(aa "turn",3)],⟨[],4⟩,2,2,Z9,"turned_about","paperhold.bits",245,67⟩,
 ⟨75,75,st 7,C2,[(aa "value",0),(aa "count",1)],⟨[],2⟩,2,0,Z9,"check_fit","paperhold.bits",245,74⟩,
 ⟨96,96,me 8 1,zn,[(aa "self",0),(aa "value",1),(aa "count",2)],⟨[],3⟩,3,0,Z9,"BitsOut.put","paperhold.bits",245,95⟩,
 ⟨103,103,me 8 2,wm,[(aa "self",0)],⟨[],1⟩,1,0,Z9,"BitsOut.align","paperhold.bits",245,102⟩,
 ⟨110,110,me 8 3,rs,[(aa "self",0),(aa "octets",1)],⟨[],2⟩,2,0,Z9,"BitsOut.put_octets","paperhold.bits",245,109⟩,
 ⟨117,117,me 8 4,sM,[(aa "self",0)],⟨[],1⟩,1,0,Z9,"BitsOut.bit_count","paperhold.bits",245,116⟩,
 ⟨124,124,me 8 5,vM,[(aa "self",0)],⟨[],1⟩,1,0,Z9,"BitsOut.octets","paperhold.bits",245,123⟩,
 ⟨138,138,st 10,uW,[(aa "lengths",0)],⟨[],1⟩,1,0,Z9,"greatest_length","paperhold.huffman",343,137⟩,
 ⟨145,145,st 11,Ek,[(aa "lengths",0),(aa "tally",1),(aa "length",2)],⟨[],3⟩,1,2,Z9,"tally_of","paperhold.huffman",343,144⟩,
 ⟨152,152,st 12,Dy,[(aa "lengths",0),(aa "room",1),(aa "taken",2)],⟨[],3⟩,1,2,Z9,"room_left","paperhold.huffman",343,151⟩,
 ⟨159,159,st 13,IA,[(aa "lengths",0)],⟨[],1⟩,1,0,Z9,"is_over","paperhold.huffman",343,158⟩,
 ⟨166,166,st 14,y7,[(aa "tally",0),(aa "firsts",1),(aa "length",2)],⟨[],3⟩,1,2,Z9,"first_codes","paperhold.huffman",343,165⟩,
 ⟨173,173,st 15,Ei,[(aa "lengths",0),(aa "behind",1),(aa "codes",2),(aa "length",3)],⟨[],4⟩,1,3,Z9,"codes_of","paperhold.huffman",343,172⟩,
 ⟨195,185,me 16 0,yj,[(aa "self",0),(aa "lengths",1),(aa "codes",4)],⟨[(aa "lengths",2),(aa "turned",3)],5⟩,2,4,fU (195,[2,3]),"Encoder.__init__","paperhold.huffman",343,184⟩,
 ⟨192,192,me 16 1,zm,[(aa "self",0),(aa "bits",1),(aa "symbol",2)],⟨[],3⟩,3,0,Z9,"Encoder.put","paperhold.huffman",343,191⟩,
 ⟨206,206,st 17,Li,[(aa "leaves",0),(aa "packages",1),(aa "weights",2),(aa "flags",3),(aa "place",4),(aa "leaf",5),(aa "rest",6)],⟨[],7⟩,2,5,Z9,"merged","paperhold.huffman",343,205⟩,
 ⟨211,211,st 18,yv,[(aa "leaves",0),(aa "most",1),(aa "rows",2),(aa "packages",3),(aa "level",4),(aa "weights",5),(aa "flags",6)],⟨[],7⟩,2,6,Z9,"package_rows","paperhold.huffman",343,210⟩,
 ⟨216,216,st 19,xN,[(aa "counts",0),(aa "most",1),(aa "order",2),(aa "lengths",3),(aa "rows",4),(aa "wanted",5),(aa "flags",6),(aa "leaves",7),(aa "weight",8),(aa "symbol",9)],⟨[],10⟩,2,11,Z9,"code_lengths","paperhold.huffman",343,215⟩,
 ⟨223,223,st 21,xb,[(aa "order",0),(aa "place",1)],⟨[],2⟩,0,2,Z9,"length_order","paperhold.inflate",458,222⟩,
 ⟨230,230,st 22,wl,[],⟨[],0⟩,0,0,Z9,"fixed_lengths","paperhold.inflate",458,229⟩,
 ⟨237,237,st 24,HV,[(aa "parts",0),(aa "prices",1),(aa "total",2),(aa "part",3)],⟨[],4⟩,2,2,Z9,"cost_of","paperhold.matches",474,236⟩,
 ⟨244,244,st 28,xI,[(aa "number",0),(aa "small",1),(aa "bits",2)],⟨[],3⟩,2,1,Z9,"split_number","paperhold.deflate",486,243⟩,
 ⟨251,251,st 29,wt,[(aa "length",0),(aa "group",1),(aa "bits",2),(aa "rest",3)],⟨[],4⟩,1,3,Z9,"length_symbol","paperhold.deflate",486,250⟩,
 ⟨258,258,st 30,uA,[(aa "distance",0)],⟨[],1⟩,1,0,Z9,"distance_symbol","paperhold.deflate",486,257⟩,
 ⟨289,272,me 31 0,zl,[(aa "self",0),(aa "literals",1),(aa "distances",2)],⟨[(aa "literals",3),(aa "distances",4)],5⟩,3,2,fU (289,[3,4]),"Prices.__init__","paperhold.deflate",486,271⟩,
 ⟨279,279,me 31 1,vS,[(aa "self",0),(aa "octet",1)],⟨[],2⟩,2,0,Z9,"Prices.literal","paperhold.deflate",486,278⟩,
 ⟨286,286,me 31 2,yJ,[(aa "self",0),(aa "length",1),(aa "distance",2),(aa "symbol",3),(aa "bits",4),(aa "rest",5),(aa "back",6),(aa "more",7)],⟨[],8⟩,3,5,Z9,"Prices.match","paperhold.deflate",486,285⟩,
 ⟨300,300,st 32,C8,[(aa "parts",0),(aa "literals",1),(aa "distances",2),(aa "part",3)],⟨[],4⟩,1,3,Z9,"counts_of","paperhold.deflate",486,299⟩,
 ⟨305,305,st 33,EC,[(aa "counts",0),(aa "found",1),(aa "lacking",2),(aa "at",3)],⟨[],4⟩,1,4,Z9,"with_two","paperhold.deflate",486,304⟩,
 ⟨312,312,st 34,zq,[(aa "parts",0),(aa "literals",1),(aa "distances",2)],⟨[],3⟩,1,2,Z9,"lengths_for","paperhold.deflate",486,311⟩,
 ⟨319,319,st 35,ze,[(aa "lengths",0),(aa "fewest",1),(aa "end",2)],⟨[],3⟩,2,1,Z9,"cut_lengths","paperhold.deflate",486,318⟩,
 ⟨326,326,st 36,D9,[(aa "lengths",0),(aa "rows",1),(aa "at",2),(aa "run",3)],⟨[],4⟩,1,3,Z9,"run_rows","paperhold.deflate",486,325⟩,
 ⟨333,333,st 37,zp,[(aa "run",0),(aa "rows",1)],⟨[],2⟩,1,1,Z9,"nought_rows","paperhold.deflate",486,332⟩,
 ⟨340,340,st 38,BF,[(aa "length",0),(aa "run",1),(aa "rows",2)],⟨[],3⟩,2,1,Z9,"again_rows","paperhold.deflate",486,339⟩,
 ⟨369,352,me 39 0,B1,[(aa "self",0),(aa "literals",1),(aa "distances",2),(aa "counts",8),(aa "symbol",9),(aa "bits",10),(aa "rest",11)],⟨[(aa "literals",3),(aa "distances",4),(aa "rows",5),(aa "lengths",6),(aa "told",7)],12⟩,3,10,fU (369,[3,4,5,6,7]),"Head.__init__","paperhold.deflate",486,351⟩,
 ⟨359,359,me 39 1,vL,[(aa "self",0),(aa "total",1),(aa "symbol",2),(aa "bits",3),(aa "rest",4)],⟨[],5⟩,1,4,Z9,"Head.bit_count","paperhold.deflate",486,358⟩,
 ⟨366,366,me 39 2,EO,[(aa "self",0),(aa "out",1),(aa "length",2),(aa "coder",3),(aa "symbol",4),(aa "bits",5),(aa "rest",6)],⟨[],7⟩,2,5,Z9,"Head.put","paperhold.deflate",486,365⟩,
 ⟨380,380,st 40,Cw,[(aa "out",0),(aa "parts",1),(aa "literals",2),(aa "distances",3),(aa "ahead",4),(aa "behind",5),(aa "part",6),(aa "symbol",7),(aa "bits",8),(aa "rest",9)],⟨[],10⟩,4,6,Z9,"put_parts","paperhold.deflate",486,379⟩,
 ⟨387,387,st 41,um,[(aa "out",0),(aa "octets",1),(aa "is_last",2)],⟨[],3⟩,3,0,Z9,"put_stored","paperhold.deflate",486,386⟩,
 ⟨394,394,st 42,wj,[(aa "out",0),(aa "parts",1),(aa "is_last",2),(aa "literals",3),(aa "distances",4)],⟨[],5⟩,3,2,Z9,"put_fixed","paperhold.deflate",486,393⟩,
 ⟨401,401,st 43,Bl,[(aa "parts",0),(aa "literals",1),(aa "distances",2)],⟨[],3⟩,1,2,Z9,"fixed_bits","paperhold.deflate",486,400⟩,
 ⟨408,408,st 44,zc,[(aa "place",0),(aa "size",1)],⟨[],2⟩,2,0,Z9,"stored_bits","paperhold.deflate",486,407⟩,
 ⟨432,422,me 45 0,AT,[(aa "self",0),(aa "parts",1),(aa "price",7)],⟨[(aa "parts",2),(aa "literals",3),(aa "distances",4),(aa "head",5),(aa "total",6)],8⟩,2,6,fU (432,[2,3,4,5,6]),"Block.__init__","paperhold.deflate",486,421⟩,
 ⟨429,429,me 45 1,wc,[(aa "self",0),(aa "out",1),(aa "is_last",2)],⟨[],3⟩,3,0,Z9,"Block.put","paperhold.deflate",486,428⟩,
 ⟨449,449,st 49,Bx,[(aa "bits",0),(aa "at",1),(aa "count",2)],⟨[],3⟩,3,1,Z9,"_law_number","law_nn0130_01",783,448⟩,
 ⟨454,454,st 50,Dj,[(aa "lengths",0),(aa "found",1),(aa "code",2),(aa "before",3),(aa "length",4),(aa "symbol",5)],⟨[],6⟩,1,6,Z9,"_law_codes","law_nn0130_01",783,453⟩,
 ⟨461,461,st 51,BE,[(aa "bits",0),(aa "at",1),(aa "codes",2),(aa "code",3),(aa "length",4)],⟨[],5⟩,3,2,Z9,"_law_symbol","law_nn0130_01",783,460⟩,
 ⟨468,468,st 52,EM,[(aa "bits",0),(aa "at",1),(aa "counts",2),(aa "small",3),(aa "turn",4),(aa "codes",5),(aa "lengths",6),(aa "symbol",7),(aa "extra",8),(aa "times",9)],⟨[],10⟩,2,8,Z9,"_law_head","law_nn0130_01",783,467⟩,
 ⟨473,473,st 53,Df,[(aa "bits",0),(aa "at",1),(aa "literals",2),(aa "distances",3),(aa "ahead",4),(aa "behind",5),(aa "parts",6),(aa "symbol",7),(aa "extra",8),(aa "base",9),(aa "length",10)],⟨[],11⟩,4,9,Z9,"_law_parts","law_nn0130_01",783,472⟩,
 ⟨480,480,st 54,Ew,[(aa "take",0),(aa "length",1),(aa "distance",2)],⟨[],3⟩,1,2,Z9,"_law_part","law_nn0130_01",783,479⟩,
 ⟨485,485,st 55,En,[(aa "out",0)],⟨[],1⟩,1,2,Z9,"_law_bits","law_nn0130_01",783,484⟩,
 ⟨490,490,st 56,A2,[(aa "parts",0),(aa "counts",1),(aa "bases",2),(aa "symbol",3),(aa "part",4)],⟨[],5⟩,1,5,Z9,"_law_counts","law_nn0130_01",783,489⟩,
 ⟨495,495,st 57,zb,[(aa "block",0),(aa "counts",1),(aa "lengths",2),(aa "used",3)],⟨[],4⟩,2,10,Z9,"_law_is_good","law_nn0130_01",783,494⟩]
noncomputable abbrev Vx(d:iW):eT×Arguments×List iW×i5:=(OH d).getD ("",default,[],default)
noncomputable def dv(f:Cr):i5:=(Vx f.3).2.2.2
noncomputable def bodyOf(f:Cr):List iW:=(Vx f.3).2.2.1
noncomputable def fdOf(f:Cr):FuncData:=(Tl (kL f.3 f.10 f.11 f.12 f.13).3).getD default
noncomputable def Uy(f:Cr):Bool:=
 (OH f.3).isSome&&sK (dv f) f.5 f.6 f.4 (bodyOf f)&&Oy (dv f) f.5 f.6 (f.9.elim 0 (·.1))&&
 !(dv f).4&&!(dv f).3&&decide ((dv f).2.map (·.1)).Nodup&&((f.5.take f.7).map (·.2)==ay f.7)&&decide (f.7<=f.5.length)&&decide (f.7<=4)&&
 f.9.elim (f.6.1.isEmpty&&f.1==f.2) λp=>f.6.1==(dp p.1).zip p.2&&(dp p.1).length==p.2.length&&kl.contains p.1&&f.2==A4 p.1&&f.1==p.1&&decide (1<=f.7)
theorem XA:AL.all Uy=Z8:=by kernel_rfl
theorem U9:(AL.map λf=>DK f.4<|bodyOf f)=AL.map bodyOf:=by kernel_rfl
theorem UH:∀P:eY,(AL.map λf=>(KF P).lookup f.2)=AL.map λf=>fU<|kL f.3 f.10 f.11 f.12 f.13:=λP=>by kernel_rfl
noncomputable def Qa:Data->Option (Array aF)
 |.fields vs=>fU vs
 |_=>Z9
noncomputable def UG:aF->Option eT
 |.str x _=>fU x
 |_=>Z9
noncomputable def GD(q:eT)(o:Option Hj):Bool:=((o.bind λo=>Qa o.3).bind λvs=>vs[1]?.bind UG)==fU q
theorem Nh:∀P:eY,(AL.all λf=>GD f.10<|(KF P).lookup f.13)=Z8:=λP=>by kernel_rfl
theorem NE:∀v1 v2 v3 v4:aF,(AL.map λf=>BK (fdOf f) ⟨[v1,v2,v3,v4].take f.7,[]⟩)=AL.map λf=>pure<|(f.5.map (·.1)).zip<|[v1,v2,v3,v4].take f.7:=λv1 v2 v3 v4=>by kernel_rfl
theorem I9(h:(OH f.3).isSome=Z8):
  (kL f.3 f.10 f.11 f.12 f.13).3=.func (fdOf f)/\(fdOf f).5=dv f/\(fdOf f).4=.stmts (bodyOf f)/\(fdOf f).6=3/\(fdOf f).7=[]/\(fdOf f).13=.ref f.13/\(fdOf f).15=0/\(fdOf f).2=f.10/\(kL f.3 f.10 f.11 f.12 f.13).1=.type "function":=by
 refine rX (cg.1 h) λd e=>?_;delta fdOf dv bodyOf kL Vx;refine Rr e<|⟨rfl,rfl,rfl,rfl,rfl,rfl,rfl,rfl,rfl⟩
theorem MA(h:Qa d=fU vs):d=.fields vs:=by cases d<;>cases h;rfl
theorem Oh(h:UG v=fU x):∃t,v=.str x t:=by cases v<;>cases h;exact⟨_,rfl⟩
structure FnEnt (P:eY) (f:Cr):Prop where
 ko:∃o,(KF P).lookup f.2=fU o/\o.3=.func (fdOf f)/\o.1=.type "function"
 sc:(fdOf f).5=dv f
 bd:(fdOf f).4=.stmts (bodyOf f)
 gl:(fdOf f).6=3
 vB:(fdOf f).7=[]
 co:(fdOf f).13=.ref f.13
 bu:(fdOf f).15=0
 qu:(fdOf f).2=f.10
 cd:∃o vs t,(KF P).lookup f.13=fU o/\o.3=.fields vs/\vs[1]?=fU (.str f.10 t)
 fr:zr (dv f) f.5 f.6 (f.9.elim 0 (·.1))
 co0:(dv f).4=Z7
 ge0:(dv f).3=Z7
 nn:((dv f).2.map (·.1)).Nodup
 pr:(f.5.take f.7).map (·.2)=ay f.7
 np:f.7<=f.5.length/\f.7<=4
 bi:∀v1 v2 v3 v4:aF,BK (fdOf f) ⟨[v1,v2,v3,v4].take f.7,[]⟩=pure ((f.5.map (·.1)).zip<|[v1,v2,v3,v4].take f.7)
structure Ps (P:eY) (f:Cr):Prop extends FnEnt P f where
 tr:sK (dv f) f.5 f.6 f.4 (bodyOf f)=Z8
 fs:DK f.4 (bodyOf f)=bodyOf f
 cl:(f.9=Z9/\f.6.1=[]/\f.1=f.2)\/∃c fs,f.9=fU (c,fs)/\f.6.1=(dp c).zip fs/\(dp c).length=fs.length/\c∈kl/\f.2=A4 c/\f.1=c/\1<=f.7
theorem FnEnt.of{f:Cr}(r:(OH f.3).isSome=Z8)(s:Oy (dv f) f.5 f.6 (f.9.elim 0 (·.1))=Z8)(u:(dv f).4=Z7)(w:(dv f).3=Z7)
  (x:((dv f).2.map (·.1)).Nodup)(y:(f.5.take f.7).map (·.2)=ay f.7)(z:f.7<=f.5.length/\f.7<=4)(B:(KF P).lookup f.2=fU (kL f.3 f.10 f.11 f.12 f.13))(hc:GD f.10 ((KF P).lookup f.13)=Z8)
  (A:∀v1 v2 v3 v4:aF,BK (fdOf f) ⟨[v1,v2,v3,v4].take f.7,[]⟩=pure ((f.5.map (·.1)).zip<|[v1,v2,v3,v4].take f.7)):FnEnt P f:=by
 refine EB (I9 r) λa b c d e g h i j=>⟨⟨_,B,a,j⟩,b,c,d,e,g,h,i,?_,zr.of s,u,w,x,y,z,A⟩;refine dq (fN hc) λvs k l=>dq k λo m n=>dq l λv p q=>?_;obtain⟨t,rfl⟩:=Oh q;exact(ou o vs t ⟨m,MA n,p⟩)
theorem uw(P:eY){f:Cr}(b:f∈AL):Ps P f:=by
 have h:=aU.1 XA f b;unfold Uy at h;simp-iota only [gD,oU,decide_eq_true_eq,beq_iff_eq] at h;refine ak λd=>iB h λc a=>?_;obtain⟨⟨⟨⟨⟨⟨⟨⟨n,o⟩,h3⟩,h4⟩,h5⟩,h6⟩,h7⟩,q⟩,r⟩:=c;refine d<|⟨FnEnt.of n h3 h4 h5 h6 h7 ⟨q,r⟩ (lX (UH P) f b) (aU.1 (Nh P) f b) λv1 v2 v3 v4=>lX (NE v1 v2 v3 v4) f b,o,lX U9 f b,?_⟩;cases e:f.9 with
 |none=>rw[e] at a;exact .inl ⟨rfl,List.isEmpty_iff.1 (an a).1,fN (an a).2⟩
 |some p=>rw[e] at a;refine ak λd=>iB (an a) λa m=>iB (an a) λa l=>iB (an a) λa k=>iB (an a) λa j=>iB (an a) λg i=>d<|.inr<|ff p.1 p.2 ⟨rfl,fN g,fN i,gz.1 j,fN k,fN l,dG m⟩
theorem UR{α:Type}{d:α}:∀{vs:List α},vs.length<=4->[vs.getD 0 d,vs.getD 1 d,vs.getD 2 d,vs.getD 3 d].take vs.length=vs
 |[]=>λa=>rfl
 |[_]=>λa=>rfl
 |[_,_]=>λa=>rfl
 |[_,_,_]=>λa=>rfl
 |[_,_,_,_]=>λa=>rfl
 |_::_::_::_::_::_=>λh=>bq h<|by simp
theorem FnEnt.binds(a:FnEnt P f)(b:vs.length=f.7):BK (fdOf f) ⟨vs,[]⟩=pure ((f.5.map (·.1)).zip vs):=by have h:=a.bi (vs.getD 0 .none) (vs.getD 1 .none) (vs.getD 2 .none)<|vs.getD 3 .none;rw[<-b,UR (by have:=a.np.2;exact ao (el b) this)] at h;exact h
theorem Ik:∀{l:List<|eT×aF} {m:eT->Option aF},(∀p∈l,p.1≠x)->bindL kd l m x=m x:=by
 intro l;induction l with
 |nil=>intro m;exact λc=>rfl
 |cons p r b=>
  intro m h;unfold bindL;refine Rr (b λq a=>h q<|.tail _ a) ?_;split
  .exact aK<|Ne.symm<|h p<|.head _
  .rfl
theorem H4:∀{l:List<|eT×aF} {m:eT->Option aF},(∀p∈l,p.1≠x)->bindC kd l m x=m x:=by
 intro l;induction l with
 |nil=>intro m;exact λc=>rfl
 |cons p r b=>
  intro m h;unfold bindC;refine Rr (b λq a=>h q<|.tail _ a) ?_;split
  .rfl
  .exact aK<|Ne.symm<|h p<|.head _
theorem FY:∀{names:List eT} {vs:List aF} {i:Nat} {x:eT} {v:aF} {m cm:eT->Option aF},names.Nodup->names[i]?=fU x->vs[i]?=fU v->
  (kd x=fU .local->bindL kd (names.zip vs) m x=fU v)/\(kd x≠fU .local->bindC kd (names.zip vs) cm x=fU v)
 |[],_,i,x,v,m,cm=>λg h g=>by simp at h
 |n::names,[],i,x,v,m,cm=>λg g h=>by simp at h
 |n::names,u::vs,0,x,v,m,cm=>λf b c=>by
  simp at b c;subst b c;have a:∀p∈names.zip vs,p.1≠n:=λp j e=>(cN.1 f).1<|e▸(iG j).1;refine⟨λd=>?_,λd=>?_⟩
  .refine Rr eH ?_;unfold bindL;refine Rr (Ik a)<|Rr (bf d) ?_;simp
  .refine Rr eH ?_;unfold bindC;refine Rr (H4 a)<|Rr (aK d) ?_;simp
 |n::names,u::vs,i+1,x,v,m,cm=>λf b c=>by
  refine Rr eH ?_;unfold bindL bindC;exact FY (cN.1 f).2 (by simpa using b)<|by simpa using c
theorem tG:∀{names:List<|eT×IM} {n:Nat} {acc:List<|eT×bW},(names.map (·.1)).Nodup->(acc.map (·.1)).Nodup->(∀x∈acc.map (·.1),x∉names.map (·.1))->((DF n names acc).map (·.1)).Nodup
 |[],n,acc=>λf h f=>h
 |(y,k)::r,n,acc=>λb d hd=>by
  rw[az,cN] at b;unfold DF;split
  .refine tG b.2 ?_ λx a c=>?_
   .refine Rr az<|Rr (propext cN) ?_;exact⟨λh=>hd y h<|.head _,d⟩
   .rw[az] at a;rcases ax.1 a with e|a
    .exact b.1<|e▸c
    .exact hd x a<|.tail _ c
  .exact tG b.2 d λx a c=>hd x a<|.tail _ c
theorem Rm.deep(R:Rm (k+1) A):Rm k<|A.deeper env:=by
 refine⟨?_,?_,R.3⟩
 .have:=R.1;exact c9 (.s<|.a (.s .A)<|.m 4 .B) (.n 990) (.z (.s<|.a .A<|.m 4<|.s .B)<|.n 990) rfl this
 .have:=R.2;exact c9 (.s<|.a (.p .A 3)<|.m 100 .B) (.n 9800) (.z (.s<|.a .A<|.m 100<|.s .B)<|.n 9800) rfl this
section
variable{w:bN}{N:Nat}{O:jU}{k:Nat}{ad:Ad}{F:FZ}{ex:dw}{s:aG}{A:bU}
def U1(w:bN)(ad:Ad)(F:FZ)(ex:dw)(f:Cr)(me:Option<|Nat×bW)(x:Fl×St)(r:Result)(s:aG):Prop:=
 ∃(env:mR) (fr:Flow),eA (Fx.call env f.5 f.6 me)/\oN w ad (Fx.call env f.5 f.6 me) F ex x fr s/\r=.ok (.ret<|match fr with|.ret v=>v|_=>.none)
theorem wX{f:Cr}(a:FnEnt w.2 f){me:Option<|Nat×bW}{sl0:List LV}{vf:List CL}{W:Wd}{Z:Result->aG->Prop}(J:me.elim 0 (·.1)=f.9.elim 0 (·.1))(L:me=Z9->f.6.1=[])
  (n:jI w ad F sl0 vf)(N:∀c∈vf,c.2=Z9)(hn:vf.length=f.7)(hm:∀c D,me=fU (c,D)->D≠ad.6/\n7 F ad.6 (vC c D))(G:GS w ad.12 F (yr me++(ex++gB ad W)) s)(j:A.2<IH)
  (r:∀(env:mR) (s':aG),eA (Fx.call env f.5 f.6 me)->env.1=dv f->env.7=.ref f.13->env.5=f.10++".<locals>."->cr w ad (Fx.call env f.5 f.6 me) F ex ⟨sl0++ap f.8 .u,W⟩ s'->
   bV Z8 (MM w) (A.deeper env) (nE (bodyOf f) env) (λfr s'=>Z (.ok<|.ret<|match fr with|.ret v=>v|_=>.none) s') ji s'):
  iy Z8 (MM w) A (.call (.ref f.2) ⟨vf.map (·.1),[]⟩) Z s:=by
 refine ia a.ko λo ho hd hc=>?_;have M:=G.B.1 _ _ ho;refine p6 a.cd λoc vc tc u z B=>?_;have C:s.1.CodeRec (fdOf f).13 (fdOf f).2:=(B2 f.13 oc vc tc ⟨a.co,G.B.1 _ _ u,z,by refine Rr a.qu ?_;exact B⟩);have Q:(vf.map (·.1)).length=f.7:=by rewrite[av];exact Rr hn rfl
 have P:∀(i:Nat),i<f.7->∃x,(f.5.map (·.1))[i]?=fU x/\(x,i)∈f.5:=λi hi=>by
  have l:i<f.5.length:=by have:=a.np.1;exact ao hi this
  refine⟨(f.5[i]).1,by simp-iota [l],?_⟩;have h1:((f.5.take f.7).map (·.2))[i]?=(ay f.7)[i]?:=Rr a.pr rfl;have h2:(f.5[i]).2=i:=by simp-iota [hi,l] at h1;exact h1
  have:f.5[i]=((f.5[i]).1,i):=r7 rfl h2;refine Rl this ?_;exact ib _
 refine qI j M hd (by refine Rr a.sc ?_;exact a.co0) (by refine Rr a.sc ?_;exact a.ge0) a.bd C ?_;refine Rr (a.binds Q)<|Rr a.vB<|Rr a.sc ?_;refine bB<|wpAny_newFunctionEnv_cells a.fr.1 (λx R=>?_) λenv b s' x=>?_
 .obtain⟨y,T⟩:=x;have I:=(iG R).1;refine bO (aE.1 I) λp O e=>?_;rcases(a.fr.2 p.1 p.2 O).2 with h|⟨h,h'⟩
  .left;refine Rl e ?_;exact h
  .right;refine Rl e ?_;exact⟨h,p9<|.inl h'⟩
 .have d:env.1=dv f:=by refine Rr b ?_;rfl
  have E:env.3=3:=by refine Rr b ?_;exact a.gl
  have t:env.9=0:=by refine Rr b ?_;exact a.bu
  have H:env.2=s.1.1.size:=by refine Rr b ?_;rfl
  have k:env.4=DF (s.1.1.size+1) (dv f).2 []:=by refine Rr b ?_;rfl
  have Y:zr env.1 f.5 f.6<|me.elim 0 (·.1):=by refine Rr d<|Rr J ?_;exact a.fr
  have hD:∀p,me=fU p->p.2≠env.2:=λp O e=>by
   have:(p.2,jh λV=>Z9)∈yr me++(ex++gB ad W):=aD _ (by refine Rr O ?_;exact .head _);refine bO (G.at this) λo e1 V=>?_;have:=dY e1;rw[e,H] at this;exact cB _ this
  have g:∀x,(x,NameKind.cell)∈env.1.2->(env.4.lookup x).isSome=Z8:=λy T=>by
   refine Rr k ?_;rw[d] at T;exact p9<|.inl T
  have OK:eA<|Fx.call env f.5 f.6 me:=eA.call Y L hD g x.3 E t;obtain⟨S⟩:=cr.entry (extra:=f.8) Y hD x n N (λi c hc=>by
    have hi:i<f.7:=by refine Rl hn ?_;exact(bp.1 hc).1
    refine bO (P i hi) λy U q=>?_;have hv:(vf.map (·.1))[i]?=fU c.1:=by refine Rr cG<|Rr hc ?_;rfl
    have r:=FY (kd:=env.kindOf) (m:=λV=>Z9) (cm:=λV=>Z9) a.fr.4 U hv;refine⟨y,q,?_⟩;refine Rr d ?_;rcases(a.fr.2 y i q).2 with h|⟨h,_⟩
    .exact .inl ⟨h,r.1<|by show env.1.2.lookup y=_;refine Rr d ?_;exact h⟩
    .exact .inr ⟨h,r.2<|by show env.1.2.lookup y≠_;refine Rr d<|Rr h ?_;simp⟩) g
   (by refine Rr k ?_;exact tG a.nn .nil λx R=>nomatch R) hm G n.length
  refine⟨G.B.2.keeps x.1.3,LJ ?_⟩;exact r env s' OK d (by refine Rr b ?_;exact a.co) (by refine Rr b ?_;show(fdOf f).2++_=_;exact Rr a.qu rfl) S
theorem FV{f:Cr}(p:f∈AL){me:Option<|Nat×bW}{sl0:List LV}{vf:List CL}{W:Wd}{x:Fl×St}(d:me.elim 0 (·.1)=f.9.elim 0 (·.1))(g:me=Z9->f.6.1=[])
  (b:jI w ad F sl0 vf)(h:∀c∈vf,c.2=Z9)(t:vf.length=f.7)(r:∀c D,me=fU (c,D)->D≠ad.6/\n7 F ad.6 (vC c D))(G:GS w ad.12 F (yr me++(ex++gB ad W)) s)(R:Rm (k+2) A)
  (n:jV w Z8 N O k f.4)(o:gM N O f.4 ⟨sl0++ap f.8 .u,W⟩=fU x):
  iy Z8 (MM w) A (.call (.ref f.2) ⟨vf.map (·.1),[]⟩) (U1 w ad F ex f me x) s:=by
 have a:=uw w.2 p;refine wX a.toFnEnt d g b h t r G R.room λenv s' l i j j S=>?_;have m:=n (s:=s') (A:=A.deeper env) l rfl (by refine Rr i ?_;exact a.tr) o S R.deep;rw[a.fs] at m;exact aR m (λfr u q=>(ff env fr ⟨l,q,rfl⟩)) λj j e=>e.elim
end
section
variable{w:bN}{N:Nat}{O:jU}{k:Nat}{ad kK:Ad}{F:FZ}{ex:dw}{s:aG}{A:bU}
mutual
theorem VR.aS:∀{p:PV} {v:aF},VR w ad F p v->VR w {ad with aS:=x} F p v
 |.none,_=>λh=>h
 |.c _,_=>λh=>h
 |.i _,_=>λh=>h
 |.b _,_=>λh=>h
 |.a _,_=>λh=>by refine dI (nZ.1 h) λn a vs e q r=>?_;exact nZ.2 ⟨n,ff a vs ⟨e,q,fP.aS r⟩⟩
 |.l _,_=>λh=>by refine dI (jW.1 h) λn a vs e q r=>?_;exact jW.2 ⟨n,ff a vs ⟨e,q,fP.aS r⟩⟩
 |.f _ _,_=>λh=>by refine cU (nq.1 h) λa vs e q r=>?_;exact nq.2<|ff a vs ⟨e,q,fP.aS r⟩
 |.p _,_=>λh=>h
 |.d _,_=>λh=>h
 |.e _,_=>λh=>h
 |.r _ _ _,_=>λh=>h
 |.o,_=>λh=>h
 |.m,_=>λh=>h
 |.g,_=>λh=>h
 |.t,_=>λh=>h
theorem fP.aS:∀{ps:List PV} {vs:List aF},fP w ad F ps vs->fP w {ad with aS:=x} F ps vs
 |[],_=>λh=>h
 |_::_,_=>λh=>by refine cU (cZ.1 h) λv r e q k=>?_;exact cZ.2<|ff v r ⟨e,VR.aS q,fP.aS k⟩
end
theorem jI.fz:∀{ps:List PV} {vs:List aF},fP w ad F ps vs->jI w ad F (wh ps) (vs.map λv=>⟨v,Z9⟩):=by
 intro ps;induction ps with
 |nil=>intro vs h;cases dN.1 h;trivial
 |cons p ps b=>intro vs h;refine cU (cZ.1 h) λv r a q k=>?_;subst a;exact⟨⟨rfl,q⟩,b k⟩
theorem Rc(ho:uM (fU x)=fU y)(h:U1 w ad F ex f Z9 x r s):∃v,r=.ok (.ret v)/\zR w ad F ex y.1 y.2 v s:=by
 refine cU h λenv fr o q d=>?_;clear h;subst d;obtain⟨i,σ'⟩:=x;cases i with
 |n=>
  injection ho with a;subst a;refine m5 q λe F' l g=>?_;clear q;subst e;obtain⟨S⟩:=g
  exact⟨.none,rfl,F',⟨.none,Z9⟩,l,rfl,⟨rfl,rfl⟩,S.8.rg [_,ci S.1,ex,gB ad σ'.2] (.n (.l 0)<|.n (.l 1)<|.n (.l 2)<|.l 3) (.n (.l 4)<|.n (.l 2)<|.l 3) rfl⟩
 |r m=>injection ho with b;subst b;obtain⟨v,rfl,F',c,l,k,j,⟨S⟩⟩:=q;exact⟨v,rfl,F',c,l,k,j,S.8.rg [_,ci S.1,gF c,ex,gB ad σ'.2] (.n (.l 0)<|.n (.l 1)<|.n (.n (.l 2)<|.l 3)<|.l 4) (.n (.l 2)<|.n (.l 3)<|.l 4) rfl⟩
 |c=>injection ho
theorem Pc(i:f∈AL)(hc:f.9=Z9)(l:ps.length=f.7)(g:Vs N O f.4 f.8 ps W=fU y)
  (G:GS w ad.12 F (ex++gB ad W) s)(r:fP w ad F ps vs)(R:Rm (k+2) A)(o:jV w Z8 N O k f.4):bV Z8 (MM w) A (call (.ref f.2) vs) (zR w ad F ex y.1 y.2) ji s:=
 dq g λx p g=>by
  have j:=r.length;have d:f.6.1=[]:=(uw w.2 i).cl.elim (λh=>h.2.1) λ⟨c,fs,e,_⟩=>nomatch hc.symm.trans e;have n:((vs.map λv=>(⟨v,Z9⟩:CL)).map (·.1))=vs:=by refine Rr bM ?_;exact List.map_id'' (λm=>rfl) _
  have:=FV (A:=A) (s:=s) (me:=Z9) i (vf:=vs.map λv=>⟨v,Z9⟩) (by refine Rr hc ?_;rfl) (λm=>d) (jI.fz r) (λc hc=>by refine bO (aE.1 hc) λv m a=>?_;subst a;rfl) (by rw[av];exact aj (ao (eg j)<|el l)<|ao (eg l)<|el j) (λc D e=>nomatch e) G R o p;rw[n] at this;refine lj<|kO this λr s' q=>?_;refine bO (Rc (y:=y) g q) λv b z=>?_;subst b;exact z
theorem Iq:∀{fs:List Nat} {qs:List PV} {sl:List LV} {cl:List CL},uV sl fs=fU qs->jI w ad F sl cl->∃a,fP w ad F qs a/\a.length=fs.length/\∀(i j:Nat),fs[i]?=fU j->∃p c,sl[j]?=fU (.f p)/\cl[j]?=fU c/\a[i]?=fU c.1:=by
 intro fs;induction fs with
 |nil=>intro qs sl cl h _;injection h with b;subst b;exact⟨[],dN.2 rfl,rfl,λi j e=>nomatch e⟩
 |cons j fs r=>
  intro qs sl cl;exact λh l=>dq h λp k h=>jn h λu q e=>dq k λlv f k=>by
   subst e;cases BC k;refine ak λt=>ia (r q l) λa m n o=>bO (l.get f) λc hc g=>t<|⟨c.1::a,m.cons g.2,bx ky n,λi s e=>?_⟩;cases i with
   |zero=>(injection e with d;subst d);exact(ff p c ⟨f,hc,rfl⟩)
   |succ i=>exact o i s e
end
section
variable{w:bN}{N:Nat}{O:jU}{k:Nat}{ad kK:Ad}{F:FZ}{ex:dw}{s:aG}{A:bU}
theorem GS.JJ{os:gv}{a:bW}{P:OP}(G:GS w os F (h++(a,P)::L2) s):∃F',iD F F'/\n7 F' a P/\GS w os F' (h++L2) s:=
 let⟨o,_,q,l,f,b⟩:=(G.rg [h,[(a,P)],L2] (.n (.l 0)<|.n (.l 1)<|.l 2) (.n (.l 1)<|.n (.l 0)<|.l 2) rfl).freeze
 ⟨_,l,⟨o,f,q⟩,b⟩
theorem call_cls(hf:f∈AL)(hc:f.9=fU (c,fs))(hp:ps.length+1=f.7)(H:runC N O c f.4 f.8 fs ps W=fU y)
  (G:GS w ad.12 F (ex++gB ad W) s)(r:fP w ad F ps vs)(R:Rm (k+3) A)(hb:jV w Z8 N O k f.4):bV Z8 (MM w) A (call (.ref f.1) vs) (zR w ad F ex y.1 y.2) ji s:=by
 refine dq H λx T H=>?_;obtain⟨hn,H⟩:=qp H;refine jn H λqs hq e=>?_;subst e;obtain⟨fl,σ'⟩:=x;cases F9 hn;have FF:=uw w.2 hf;obtain⟨c1,c2,M,c4,c5,c6⟩:f.6.1=(dp c).zip fs/\(dp c).length=fs.length/\c∈kl/\f.2=A4 c/\f.1=c/\1<=f.7:=FF.cl.elim (λh=>nomatch hc.symm.trans h.1) λ⟨c',fs',e,h⟩=>by
  have e:=hc.symm.trans e;injection e with d;cases d;exact h
 refine lW (vm w.2 M) λnm q k0 k1 k2 k3 k5 hC=>?_;have Q:=G.B.1 _ _ hC;have hi:mC w.2 c (aa "__init__")=fU (.ref f.2):=by refine Rr c4 ?_;exact lX (Xk w.2) c M
 refine ia FF.ko λo ho hd U=>Rr c5<|KV Q (G.B.Tz M) hi (G.B.1 _ _ ho) U ?_;have V:(s.1.push {cls:=.type "dict",data:=.dict #[]}).1.size=s.1.1.size+1:=sd ..
 have g1:=G.alloc (P:=jh λL=>Z9) {cls:=.type "dict",data:=.dict #[]} rfl (ff (#[]) _ ⟨rfl,(λe T=>bq T<|by simp),(by unfold UniqKeys;simp),λL=>rfl⟩);refine hV (g1.rD {cls:=.ref c,dict:=fU s.1.1.size,data:=.plain} rfl) λJ t u=>?_;have u:GS w ad.12 _ ((s.1.1.size,jh λL=>Z9)::(ex++gB ad W)) {s with heap:=w7 s.1 c}:=u;rw[show({s with heap:=s.1.push {cls:=.type "dict",data:=.dict #[]}}:aG).1.1.size=s.1.1.size+1 from V] at J t u;generalize FZ.put F (s.1.1.size+1) {cls:=.ref c,dict:=fU s.1.1.size,data:=.plain}=F1 at J t u;have a:n7 F1 (s.1.1.size+1)<|vC c s.1.1.size:=⟨_,t,rfl,λk=>by simp,rfl⟩
 let b:Ad:={ad with aS:=s.1.1.size+1}
 have r1:fP w b F1 ps vs:=fP.aS<|r.le J;have hl:=r.length;have t:(((⟨.ref<|s.1.1.size+1,Z9⟩:CL)::vs.map λv=>(⟨v,Z9⟩:CL)).map (·.1))=.ref (s.1.1.size+1)::vs:=by
  refine Rr az<|Rr bM ?_
  congr 1
  exact List.map_id'' (λL=>rfl) _
 have cc:=FV (A:=A.under<|.builtin "type.__call__" ⟨.ref c::vs,[]⟩) (s:={s with heap:=w7 s.1 c}) (ad:=b) (me:=fU (c,s.1.1.size)) (F:=F1) (ex:=ex) hf (sl0:=.m::wh ps) (vf:=⟨.ref<|s.1.1.size+1,Z9⟩::vs.map λv=>⟨v,Z9⟩)
  (by refine Rr hc ?_;rfl) (λe=>nomatch e) ⟨rfl,jI.fz r1⟩ (λx n=>by
   rcases ax.1 n with rfl|n
   .rfl
   .refine bO (aE.1 n) λv L j=>?_;subst j;rfl) (by refine Rr aV ?_;rw[av];exact aj (dT (.s .A) .B (.o (.s .C) .B<|.z .A .C) rfl (el hp) (eg hl))<|dT .A (.s .B) (.o .A (.s .C)<|.z .C .B) rfl (eg hp) (el hl))
  (λc' D e=>by injection e with g;cases g;exact⟨by exact λe0=>lo1 (.z (.s .A) .A) rfl (eg e0),a⟩) u R.made hb T
 rw[t] at cc;refine lj<|kO cc λr s' z=>?_;refine ak λI=>cU z λenv fr OK m l=>?_;clear z;obtain⟨rfl,F2,l2,⟨S⟩⟩:=m;subst l;refine I<|⟨rfl,?_⟩;refine ak λI=>ia (Iq hq S.4) λZ h1 h2 h3=>?_;have gg:GS w ad.12 F2 ([(env.2,pj<|S.2 env.2)]++(s.1.1.size,jh<|S.2 s.1.1.size)::((env.4.map (·.2)).map (λc=>(c,iK<|S.3 c))++(ci S.1++(ex++gB ad σ'.2)))) s':=S.8;refine ia gg.JJ λF3 Y f3 g3=>I<|⟨F3,⟨.ref<|s.1.1.size+1,Z9⟩,J.trans<|l2.trans Y,rfl,⟨rfl,?_⟩,?_⟩
 .refine nq.2 ⟨s.1.1.size+1,Z,rfl,⟨s.1.1.size,S.2 s.1.1.size,gj<|fR _,a.le<|l2.trans Y,f3,λi x n=>?_,(S.7 c s.1.1.size rfl).2.2⟩,fP.aS (ad:=b) (x:=ad.6)<|h1.le Y⟩;have B:i<fs.length:=by refine Rl c2 ?_;exact(bp.1 n).1
  refine ak λI=>cU (h3 i fs[i]<|aI B) λp cl z1 z2 z3=>?_;refine I<|Rr z3 ?_;have E:(x,fs[i])∈f.6.1:=by
   refine Rr c1 ?_;have:((dp c).zip fs)[i]?=fU (x,fs[i]):=by refine Rr (propext List.getElem?_zip_eq_some) ?_;exact⟨n,aI B⟩
   exact iT this
  have C:=(OK.6 c s.1.1.size rfl).2 x fs[i] E;exact S.5 fs[i] (.f p) cl _ z1 (by simp) z2 C
 .exact g3.rg [_,_,ci S.1,ex,gB ad σ'.2] (.n (.l 0)<|.n (.l 1)<|.n (.l 2)<|.n (.l 3)<|.l 4) (.n (.l 5)<|.n (.l 3)<|.l 4) rfl
end
section
variable{w:bN}{g:Bool}{N:Nat}{O:jU}{k:Nat}
mutual
theorem fF(c:BP w g O k):∀x:Ex,bg w g O k x
 |.i _=>TR
 |.h _=>R8
 |.none=>Rf
 |.v _=>LD
 |.D _=>VO
 |.g _=>QE
 |.b _ l r=>UB (fF c l)<|fF c r
 |.x e=>TZ<|fF c e
 |.z _ l r=>XD (fF c l)<|fF c r
 |.y l r=>T0 (fF c l)<|fF c r
 |.p t a b=>TG (Ms c t) (fF c a)<|fF c b
 |.t es=>UO<|CA c es
 |.l es=>Ut<|CA c es
 |.s e i=>TM (fF c e)<|fF c i
 |.k _ i=>Tk<|fF c i
 |.n e a b=>TN (fF c e) (fF c a)<|fF c b
 |.d e _ _=>Rk<|fF c e
 |.j _=>Ss
 |.e e _=>Td<|fF c e
 |.c _ args=>RV c<|CA c args
 |.f v a=>O3 c (fF c v)<|fF c a
 |.m _ _ r args=>Rz c (fF c r)<|CA c args
 |.a _ .n=>SQ (CA c .n) λf e=>nomatch e
 |.a _ (.c x .n)=>SQ (CA c<|.c x .n) (λf e=>by injection e with d _;subst d;exact fF c x)
 |.a _ (.c x<|.c y r)=>SQ (CA c<|.c x<|.c y r) λf e=>nomatch e
 |.w _=>Rn
 |.r e=>SP<|fF c e
 |.q _ a b=>Ni (fF c a)<|fF c b
 |.u e a b=>R6 (fF c e) (fF c a)<|fF c b
 |.o e _ i t=>Ep rfl (PR (fF c e) (fF c i)<|xK c t)
 |.A e _ i _ j t=>Ep rfl (PD (fF c e) (fF c i) (fF c j)<|xK c t)
 |.C=>Sv
 |.B _ _=>QV
theorem CA(a:BP w g O k):∀x:ER,lU w g O k x
 |.n=>Xw
 |.c e r=>J5 (fF a e)<|CA a r
theorem Ms(c:BP w g O k):∀x:Te,ly w g O k x
 |.c _ l r=>cw (fF c l)<|fF c r
 |.i a b=>GX (fF c a)<|fF c b
 |.o ts=>rz<|xK c ts
 |.a ts=>kj<|xK c ts
 |.n t=>FS<|Ms c t
 |.e e=>wr<|fF c e
theorem xK(a:BP w g O k):∀x:DL,nj w g O k x
 |.n=>iA
 |.c t r=>NS (Ms a t)<|xK a r
end
theorem V7(a:BP w g O k)(x:Ex)(h:v7 x=Z8):xD w g O k x:=by
 cases x with
 |o e _ i t=>exact PR (fF a e) (fF a i)<|xK a t
 |A e _ i _ j t=>exact PD (fF a e) (fF a i) (fF a j)<|xK a t
 |_=>exact Bool.noConfusion h
theorem Hx(a:BP w g O k)(i:Nat)(x:Ex):gV w g N O k<|.a i x:=by
 cases h:v7 x with
 |true=>exact SD h<|V7 a x h
 |false=>exact cY (fF a x) h
mutual
theorem OB(c:BP w Z8 O k):∀x:Sx,gV w Z8 N O k x
 |.a i x=>Hx c i x
 |.c _ e=>kP<|fF c e
 |.g _ e=>jD<|fF c e
 |.o _ e=>yb<|fF c e
 |.h _ e=>pv<|fF c e
 |.s _ i e=>pz (fF c i)<|fF c e
 |.j _ _ e=>nS<|fF c e
 |.p _ e=>Bo<|fF c e
 |.b _ i e=>pH (fF c i)<|fF c e
 |.d _ e=>py<|fF c e
 |.m e=>vD<|fF c e
 |.k e=>vq<|fF c e
 |.e e=>j6<|fF c e
 |.r e=>fh<|fF c e
 |.t=>QI
 |.i t a b=>Ua (Ms c t) (qF c a)<|qF c b
 |.w t b=>pp (Ms c t)<|qF c b
 |.f _ e b=>kn (fF c e)<|qF c b
 |.l _ e b=>yq (fF c e)<|qF c b
 |.q=>Rq
 |.n=>NG
theorem qF(a:BP w Z8 O k):∀x:iX,jV w Z8 N O k x
 |.n=>Q8
 |.c s r=>Pu (OB a s)<|qF a r
end
end
noncomputable def Ud:Sx:=.a 1<|.k 4<|.i 0
noncomputable def Vp:Sx:=.s 4 (.i 0)<|.b .a (.v 1)<|.i 1
noncomputable def T6:Sx:=.a 2<|.b .f (.v 1)<|.a 0<|.c (.v 3) .n
noncomputable def Uz:Ex:=.b .e (.b .a (.b .f (.s (.v 3)<|.b .e (.v 1)<|.a 0<|.c (.v 3) .n)<|.b .p (.i 720720)<|.v 2)<|.b .m (.v 2)<|.b .a (.b .m (.i 7)<|.v 1)<|.i 3)<|.v 0
noncomputable def iq:i5:=((OH HT).elim default λd=>d.2.2.2)
noncomputable def vR:List iW:=((OH HT).elim [] λd=>d.2.2.1)
noncomputable def NI:te:=[(aa "limit",0),(aa "k",1),(aa "level",2),(aa "cells",3),(aa "place",4)]
noncomputable def QD:MT:=⟨[],5⟩
noncomputable def MN:iX:=.c Ud<|.c Vp<|.c T6<|.c (.r Uz) .n
theorem Us:DK MN vR=vR:=by kernel_rfl
theorem Uc:sK iq NI QD MN vR=Z8:=by kernel_rfl
theorem UA(vB:List<|eT×bW)(kd:bW)(b a c:aF):(uB vB kd b a c).5=iq/\(uB vB kd b a c).4=.stmts vR/\(uB vB kd b a c).6=3/\(uB vB kd b a c).7=vB/\(uB vB kd b a c).13=.ref kd/\(uB vB kd b a c).15=0/\(uB vB kd b a c).2=tC:=
 ⟨by kernel_rfl,by kernel_rfl,by kernel_rfl,by kernel_rfl,by kernel_rfl,by kernel_rfl,by kernel_rfl⟩
theorem O4(vB:List<|eT×bW)(kd:bW)(b a c v:aF):BK (uB vB kd b a c) ⟨[v],[]⟩=pure [(aa "limit",v)]:=by kernel_rfl
theorem JP:iq.4=Z7/\iq.3=Z7/\iq.1=.function/\iq.2.lookup (aa "limit")=fU .local/\iq.2.lookup (aa "k")=fU .local/\iq.2.lookup (aa "level")=fU .local/\
  iq.2.lookup (aa "cells")=fU .free/\iq.2.lookup (aa "place")=fU .free:=⟨by kernel_rfl,by kernel_rfl,by kernel_rfl,by kernel_rfl,by kernel_rfl,by kernel_rfl,by kernel_rfl,by kernel_rfl⟩
theorem Hw:(iq.2.all λx=>x.2 !=.cell)=Z8:=by kernel_rfl
noncomputable def KR(L cC cP:bW)(i:Nat):Loc:=[Loc.n L<|aa "limit",.n L<|aa "k",.n L<|aa "level",.c cC,.c cP].getD i .a
noncomputable def pC(env:mR)(ad:Ad):Fx:={env:=env,tbl:=NI,loc:=KR env.2 ad.7 ad.8,nsA:=[env.2],n1A:=[],ceA:=[ad.7,ad.8],mtb:=QD,pin:=[(3,.ref ad.9),(4,.ref ad.4)]}
theorem Wc{ad:Ad}(m:env.1=iq)(k:ad.7≠ad.8)(s:env.4.lookup (aa "cells")=fU ad.7)(t:env.4.lookup (aa "place")=fU ad.8)(w:env.3=3)(v:env.9=0):eA (pC env ad) where
 kind:=by refine Rr m ?_;exact JP.2.2.1
 tb:=λx i g=>by
  obtain⟨_,_,_,k1,k2,k3,B,k5⟩:=JP;have key:∀y,env.kindOf y=iq.2.lookup y:=λy=>by show env.1.2.lookup y=_;exact Rr m rfl
  simp only [pC,NI,ax,bj,or_false] at g;rcases g with e|e|e|e|e<;>(injection e with a b;subst a b)
  .exact⟨by decide+kernel,by decide+kernel,.inl ⟨(key _).trans k1,rfl⟩⟩
  .exact⟨by decide+kernel,by decide+kernel,.inl ⟨(key _).trans k2,rfl⟩⟩
  .exact⟨by decide+kernel,by decide+kernel,.inl ⟨(key _).trans k3,rfl⟩⟩
  .exact⟨by decide+kernel,by decide+kernel,.inr ⟨.inr<|(key _).trans B,_,s,rfl⟩⟩
  .exact⟨by decide+kernel,by decide+kernel,.inr ⟨.inr<|(key _).trans k5,_,t,rfl⟩⟩
 inj:=λi j l hi z A=>by
  have p:aa "limit"≠aa "k":=by decide+kernel
  have q:aa "limit"≠aa "level":=by decide+kernel
  have r:aa "k"≠aa "level":=by decide+kernel
  have n:[Loc.n env.2<|aa "limit",.n env.2<|aa "k",.n env.2<|aa "level",.c ad.7,.c ad.8].Nodup:=by simp;exact⟨⟨λe=>p (Loc.ns.inj e).2,λe=>q (Loc.ns.inj e).2⟩,λe=>r (Loc.ns.inj e).2,λe=>k<|by injection e⟩
  have at':∀{i:Nat},KR env.2 ad.7 ad.8 i=l->[Loc.n env.2<|aa "limit",.n env.2<|aa "k",.n env.2<|aa "level",.c ad.7,.c ad.8][i]?=fU l:=λ{i} h=>by
   have h:_=l:=h;unfold KR at h;rw[al] at h;cases e:[Loc.n env.2<|aa "limit",.n env.2<|aa "k",.n env.2<|aa "level",.c ad.7,.c ad.8][i]? with
   |none=>rw[e] at h;exact bq h.symm A
   |some x=>rw[e] at h;refine Rl h ?_;rfl
  exact(List.getElem?_inj (bp.1<|at' hi).1 n).1 ((at' hi).trans (at' z).symm)
 nsM:=.head _
 ceM:=λi c h=>by
  rcases i with _|_|_|_|_|n<;>cases h
  .exact .head _
  .exact .tail _ (.head _)
 mt:=λc D e=>nomatch e
 nl:=λh=>nomatch h
 nsL:=λi L x h=>by
  rcases i with _|_|_|_|_|n<;>cases h<;>exact .inl (.head _)
 mc:=λx i g=>nomatch g
 pl:=λi u o=>by
  simp only [pC,ax,bj,or_false] at o;rcases o with e|e<;>(injection e with d f;subst d f)<;>show _<5<;>omega
 glob:=w
 bi:=v
noncomputable def yT:jU:=λa a a=>Z9
noncomputable def Kl(cs:List Int)(o:Option<|Fl×St):Option<|LV×Wd:=o.bind λx=>(BR x.1).bind λlv=>(Fe lv).bind λp=>(oz p).bind λr=>(x.2.1[3]?.bind Fe).bind λa=>(Aa x.2 4).bind λl=>(PQ l).bind λq=>(oz q).map λk'=>(.f<|.i r,{x.2.2 with pk:=fU (k',cs)})
noncomputable def wa(ps:List PV)(W:Wd):Option<|LV×Wd:=(PQ ps).bind λp=>(oz p).bind λl=>W.2.bind λy=>Kl y.2<|gM 0 yT MN ⟨[.f<|.i l,.u,.u,.f<|.l<|y.2.map .i,.o [.i y.1]],{W with pk:=Z9}⟩
theorem EJ:BP w g yT k:=λh=>nomatch h
section
variable{w:bN}{N:Nat}{O:jU}{k:Nat}{ad:Ad}{F:FZ}{ex:dw}{s:aG}{A:bU}{os:gv}{L L':dw}
theorem GS.weak(G:GS w os F L s)(d:∀p∈L',∃q∈L,q.1=p.1/\∀o,s.1.get? q.1=fU o->q.2 o->p.2 o)(hc:∀a,(je L').count a<=(je L).count a):GS w os F L' s:=
 ⟨G.1,G.2,⟨λp f=>by
  refine ak λi=>ia (d p f) λq g e h=>?_;obtain⟨⟨o,b,c⟩,e3⟩:=G.3.1 q g;refine i<|⟨⟨o,by refine Rl e ?_;exact b,h o b c⟩,by refine Rl e ?_;exact e3⟩,λa=>ao (hc a)<|G.3.2 a⟩,G.4,G.5⟩
theorem Q9(h:BR f=fU lv):f=.r lv:=by cases f<;>cases h;rfl
theorem PC{p:PV}(h:PQ l=fU p):l=[p]:=A0 h
theorem HY(h:wa ps W=fU y):∃l k cs r σ p k',ps=[.i l]/\W.2=fU (k,cs)/\
  gM 0 yT MN ⟨[.f<|.i l,.u,.u,.f<|.l<|cs.map .i,.o [.i k]],{W with pk:=Z9}⟩=fU (.r<|.f<|.i r,σ)/\
  σ.1[3]?=fU (.f p)/\σ.1[4]?=fU (.o [.i k'])/\y=(.f<|.i r,{σ.2 with pk:=fU (k',cs)}):=
 dq h λC d h=>dq h λl f h=>dq h λz u h=>dq h λx t h=>dq h λlv g h=>dq h λp i h=>dq h λr j h=>dq h λA m h=>dq h λB n h=>dq h λq o h=>jn h λk' s e=>
  dq m λv a b=>dq n λw c b2=>by
   refine(VB l z.1 z.2 r x.2 A k' ⟨(PC d).trans<|bx (λp=>[p])<|tI f,u,?_,a.trans<|bx fU<|BC b,c.trans<|bx fU<|(Lw b2).trans ?_,e.symm⟩)
   .exact Rr t<|Rl (tI j)<|Rl (BC i)<|Rl (Q9 g) rfl
   .exact Rr (PC o)<|Rr (tI s) rfl
theorem E1{lv:LV}{st:List iW}(o:eA<|pC env ad)(t:sK env.1 NI QD MN st=Z8)(v:gM N yT MN σ=fU (.r lv,σ'))(S:cr w ad (pC env ad) F ex σ s)(R:Rm 1 A):
  bV Z8 (MM w) A (nE (DK MN st) env) (λf s=>∃v,f=.ret v/\bE w ad (pC env ad) F ex lv σ' v s) ji s:=by
 have d:BP w Z8 yT 0:=EJ;have np:∀i,i<3->∀u,(i,u)∉(pC env ad).9:=λi hi u h=>by
  simp only [pC,ax,bj,or_false,nA.injEq] at h;exact h.elim (λp=>aM hi<|eg p.1) λp=>lo1 (.o (.n 4) .A<|.z (.s .A)<|.n 3) rfl (eg p.1) hi
 have y:=an t;have B:=an y.2;have C:=an B.2;have Q:=an C.2;refine dq v λU v1 v=>dO (pi (AU (fx:=pC env ad) (fF d _) rfl o (np 1<|by exact Wz (.s .i) (.n 3) .e rfl) y.1 v1 S R) λc s1 q=>?_);have H:∃σ1,U=(.n,σ1):=jn v1 λa a e=>⟨_,e.symm⟩;obtain⟨σ1,rfl⟩:=H;refine m5 q λg Y M l=>?_;clear q;subst g;obtain⟨D⟩:=l;refine dq v λV v2 v=>dO<|pi (PN (fx:=pC env ad) (fF d _) (fF d _) o B.1 v2 D R) λc s2 r=>?_;have I:∃σ2,V=(.n,σ2):=dq v2 λa a h=>dq (qp h).2 λa a h=>dq h λa a h=>jn h λa a e=>⟨_,e.symm⟩;obtain⟨σ2,rfl⟩:=I;refine m5 r λj Z O m=>?_;clear r;subst j;obtain⟨E⟩:=m;refine dq v λW v3 v=>dO (pi (AU (fx:=pC env ad) (fF d _) rfl o (np 2<|by exact Wz (.s<|.n 2) (.n 3) .e rfl) C.1 v3 E R) λc s3 x=>?_);have J:∃σ3,W=(.n,σ3):=jn v3 λa a e=>⟨_,e.symm⟩;obtain⟨σ3,rfl⟩:=J;refine m5 x λk F3 P n=>?_;clear x;subst k;obtain⟨G⟩:=n;refine dq v λy4 v4 v=>jn v4 λz T e=>?_;subst e;injection v with b;cases b
 exact dO<|yz<|pi (fF d _ (fx:=pC env ad) o Q.1 T G R) λu s4 L=>⟨u,rfl,L.le<|M.trans<|O.trans P⟩
end
section
variable{w:bN}{N:Nat}{O:jU}{k:Nat}{ad:Ad}{F:FZ}{ex:dw}{s:aG}{A:bU}{os:gv}{L L':dw}
theorem HR(e:W.2=fU (i,cs))(G:GS w ad.12 F (ex++gB ad W) s):
  cs=ad.11/\(∃t,ad.7≠ad.8/\GS w ad.12 F ((ad.4,dj [.int i t])::(ad.7,iK<|fU<|.ref ad.9)::(ad.8,iK<|fU<|.ref ad.4)::(ex++gB ad {W with pk:=Z9})) s):=by
 have m:gB ad W=rK ad W.1++[(ad.4,λo=>vz i o/\ad.11=cs),(ad.7,iK<|fU<|.ref ad.9),(ad.8,iK<|fU<|.ref ad.4)]:=by unfold gB;refine Rr e ?_;rfl
 have d:gB ad {W with pk:=Z9}=rK ad W.1:=by unfold gB;show _++[]=_;rw[bn]
 rw[m] at G;refine ak λn=>ia (G.at (a:=ad.4) (P:=λo=>vz i o/\ad.11=cs)<|by simp) λo k f hc=>?_;refine rX f λt l=>?_;refine n<|⟨hc.symm,t,?_,?_⟩
 .have:=G.3.2 ad.7;intro h;simp only [aC,az,dP,bt,cy,fm,<-h,beq_self_eq_true,if_true] at this;exact MP (.z (.a .A<|.a .B<|.a (.s<|.s<|.n 0) .C) .i) rfl this
 .refine Rr d ?_;refine G.weak (λp j=>?_) λa=>?_
  .simp only [ax,a7] at j;rcases j with rfl|rfl|rfl|h|h
   .refine⟨(ad.4,λo=>vz i o/\ad.11=cs),by simp,rfl,λr g b=>?_⟩;rw[k] at g;injection g with c;subst c;exact l
   .exact⟨(ad.7,iK<|fU<|.ref ad.9),by simp,rfl,λb b q=>q⟩
   .exact⟨(ad.8,iK<|fU<|.ref ad.4),by simp,rfl,λb b q=>q⟩
   .exact⟨p,by simp[h],rfl,λb b q=>q⟩
   .exact⟨p,by simp[h],rfl,λb b q=>q⟩
  .simp only [je,aC,az,dP,bt,cy,fm];exact pI (.a (.a (.a (.a .A .B) .C) .D) .E) (.a .A<|.a .B<|.a (.a (.a (.n 0) .C) .D) .E) .e rfl
theorem K4(C:env.2=s.1.1.size)
  (N:h'.Ns s.1.1.size λx=>[(aa "limit",Value.int l lt)].reverse.lookup x)(O:dC s.1.1.size (s.1.push {cls:=.type "frame",data:=.dict #[]}) h')
  (E:ad.7≠ad.8)(P:n7 F ad.9<|dj us)(A:nH us ad.11)(B:us.length<=63)
  (G:GS w ad.12 F ((ad.4,dj [.int kk kt])::(ad.7,iK<|fU<|.ref ad.9)::(ad.8,iK<|fU<|.ref ad.4)::(ex++gB ad W)) s):
  Nonempty (cr w ad (pC env ad) F ex ⟨[.f<|.i l,.u,.u,.f<|.l<|ad.11.map .i,.o [.i kk]],W⟩ {s with heap:=h',toks:=t}):=by
 have S:Keeps s.1 h':=λa o e=>by
  have:a≠s.1.1.size:=λe'=>by
   have:=dY e;rw[e'] at this;exact cB _ this
  exact(O.2 a this).trans<|aZ _ e
 have J:s.1.get? s.1.1.size=Z9:=fV<|ba _;have R:=G.AR (t:=t) (h':=h') (news:=[(env.2,pj λx=>[(aa "limit",Value.int l lt)].reverse.lookup x)]) S (λp H=>by
  rw[bl] at H;subst H;exact⟨by refine Rr C ?_;exact J,by refine Rr C ?_;exact pj.of N⟩) (by simp)
 refine⟨⟨[⟨.int l lt,Z9⟩,⟨.none,Z9⟩,⟨.none,Z9⟩,⟨.ref ad.9,Z9⟩,⟨.ref ad.4,fU<|dj [.int kk kt]⟩],λT x=>[(aa "limit",Value.int l lt)].reverse.lookup x,λa=>if a=ad.7 then fU (.ref ad.9) else fU<|.ref ad.4,?_,?_,?_,λc D e=>(by injection e),?_⟩⟩
 .refine⟨⟨rfl,pa.2 ⟨lt,rfl⟩⟩,rfl,rfl,⟨rfl,?_⟩,⟨by show 1<=1048576;decide,ad.4,_,rfl,(dN.2 rfl).cons<|pa.2 ⟨kt,rfl⟩⟩,trivial⟩
  .have L:(ad.11.map PV.i).length<=aq:=by
    rewrite[av];refine Rl A.length ?_;exact ao B<|by decide
   exact jW.2 ⟨L,ad.9,us,rfl,P,fP.ofInts A⟩
 .intro i lv c lo b M z I;rcases i with _|_|_|_|_|n
  .injection b with d;subst d;injection z with f;subst f I;show List.lookup _ _=_;simp
  .injection b with g;subst g;exact bq rfl M
  .injection b with j;subst j;exact bq rfl M
  .injection b with k;subst k;injection z with m;subst m I;exact bf rfl
  .injection b with q;subst q;injection z with r;subst r I;exact aK<|Ne.symm E
  .simp at b
 .intro i u Q lv c b M z;simp only [pC,ax,bj,or_false,nA.injEq] at Q;rcases Q with⟨rfl,rfl⟩|⟨rfl,rfl⟩
  .injection z with v;subst v;rfl
  .injection z with y;subst y;rfl
 .refine R.zH (λp H=>?_) λa=>?_
  .simp only [dU,pC,az,dP,bf,aK<|Ne.symm E,XU,qa,ij,XT,a7,ax,bj,or_false,false_or] at H⊢
   rcases H with(h|h|h)|h|h
   .exact .inl h
   .exact .inr<|.inr<|.inl h
   .exact .inr<|.inr<|.inr<|.inl h
   .exact .inr<|.inl h
   .exact .inr<|.inr<|.inr<|.inr h
  .simp only [dU,pC,XU,qa,ij,XT,je,az,dP,aC,bt,cy,fm,eN,eR];exact vd (.a (.a (.a (.a (.a .A .B) .C) .D) .E) .F) (.a (.a (.a (.a (.a .A .B) .D) .E) .C) .F) .e rfl
theorem NP(n:cs=ad.11)(S:cr w ad (pC env ad) F ex σ s)(l:σ.1[3]?=fU (.f p))(m:σ.1[4]?=fU (.o [.i k'])):GS w ad.12 F (ex++gB ad {σ.2 with pk:=fU (k',cs)}) s:=by
 refine bO (S.4.get l) λI B O=>bO (S.4.get m) λJ k E=>?_;have L:=S.6 3 (.ref ad.9) (.head _) _ _ l (by simp) B;have D:=S.6 4 (.ref ad.4) (.tail _<|.head _) _ _ m (by simp) k;have G:S.3 ad.7=fU I.1:=S.5 3 _ _ _ l (by simp) B rfl;have H:S.3 ad.8=fU J.1:=S.5 4 _ _ _ m (by simp) k rfl;rw[L] at G;rw[D] at H;refine ak λy=>lg E λc a vs z r=>?_;clear E;subst z;refine y ?_;injection D with d;subst d
 refine ak λy=>cU (cZ.1 r) λv N A j M=>?_;subst A;refine rX j λt i=>?_;clear j;subst i;refine y ?_;cases dN.1 M;have f:=λq=>pB k q;have e:=λb=>mr k b;have C:gB ad {σ.2 with pk:=fU (k',cs)}=rK ad σ.2.1++[(ad.4,λo=>vz k' o/\ad.11=cs),(ad.7,iK<|fU<|.ref ad.9),(ad.8,iK<|fU<|.ref ad.4)]:=rfl;have g:gB ad σ.2=rK ad σ.2.1++qK ad σ.2.2:=rfl;refine S.8.weak (λq u=>?_) λb=>?_
 .rw[C] at u;simp only [a7,ax,bj,or_false] at u;rcases u with h|h|h|h|h
  .exact⟨q,by simp[h],rfl,λc c x=>x⟩
  .exact⟨q,by refine Rr g ?_;simp[h],rfl,λc c x=>x⟩
  .subst h;refine⟨(ad.4,dj [.int k' t]),aw _<|aD _<|f _<|by simp[XT],rfl,λo c x=>⟨⟨t,x⟩,n.symm⟩⟩
  .subst h;exact⟨(ad.7,iK<|S.3 ad.7),aD _<|by simp[dU,pC],rfl,λo c x=>by rw[G] at x;exact x⟩
  .subst h;exact⟨(ad.8,iK<|S.3 ad.8),aD _<|by simp[dU,pC],rfl,λo c x=>by rw[H] at x;exact x⟩
 .have:=e b;refine Rr C<|Rr g ?_;simp only [dU,pC,XT,je,az,dP,aC,bt,cy,fm,eN,eR] at this⊢
  exact W6 (.a .A<|.a .B<|.a (.a (.a (.n 0) .C) .D) .E) (.a (.a (.a (.a .F<|.a .A<|.a .B<|.v 6) .C) .D)<|.v 7) (.z (.a (.a (.n 0) .E)<|.v 8) .F) rfl (eg this)
end
section
variable{w:bN}{ad:Ad}{F:FZ}{ex:dw}{s:aG}{A:bU}
theorem NQ(h:wa ps W=fU y)(G:GS w ad.12 F (ex++gB ad W) s)(r:fP w ad F ps vs)(Y:lQ ad F)(R:Rm 2 A):
  bV Z8 (MM w) A (call (.ref ad.5) vs) (zR w ad F ex y.1 y.2) ji s:=by
 refine ya (HY h) λl kk cs r0 σ' p k' zq7 hpk hev h3 h4 zq8=>?_;subst zq7;subst zq8;refine m5 (HR hpk G) λI kt i Z=>cU (cZ.1 r) λv vr P d r2=>?_;subst P;refine rX d λlt k=>?_;clear d;subst k;cases dN.1 r2;refine ak λO=>hV Y λJ m f=>?_;clear Y;refine ia m λus N hint g=>?_;refine Dk J λo ho U vB n b z hd B C=>?_;refine GR f λoc M vc tc D E=>?_;refine Jz (UA vB ad.10 n b z) λf1 f2 f3 f4 f5 f6 f7=>?_;obtain⟨x1,x2,x3,x4,x5,x6,x7,x8⟩:=JP;refine O ?_;have H:s.1.CodeRec (uB vB ad.10 n b z).13 (uB vB ad.10 n b z).2:=⟨ad.10,oc,vc,tc,f5,G.2 _ _ M,D,by refine Rr f7 ?_;exact E⟩;refine lj (qI R.room (G.2 _ _ ho) hd (by refine Rr f1 ?_;exact x1) (by refine Rr f1 ?_;exact x2) f2 H ?_);rewrite[O4];refine Rr f1<|Rr f3<|Rr f4<|Rr f6<|Rl Us ?_;refine bB<|wpAny_newFunctionEnv (λx u=>?_) (λx u=>?_) (λh' L j=>?_) x3
 .have:=aU.1 Hw x u;simpa using this
 .rw[bl] at u;subst u;exact x4
 .subst I;obtain⟨S⟩:=K4 (t:=s.4+1) (env:=newEnv iq s.1.1.size 3 vB ((uB vB ad.10 n b z).2++".<locals>.") (fU ad.5) (.ref ad.10) Z9 0) rfl L j i N hint g Z;refine⟨G.B.2.keeps ?_,LJ ?_⟩
  .exact λa o e=>by
    have:a≠s.1.1.size:=λe'=>by
     have:=dY e;rw[e'] at this;exact cB _ this
    exact(j.2 a this).trans<|aZ _ e
  .refine aR (E1 (Wc rfl i B C rfl rfl) Uc hev S R.deep) (λfl s2 q=>?_) λuu uu e=>e.elim;refine ak λO=>?_;obtain⟨v,rfl,F',c,l',hv,V,⟨Q⟩⟩:=q;refine O ?_;have T:gF c=[]:=ms V.1;rw[T] at Q;refine⟨F',c,l',hv,V,?_⟩;refine Rr T<|NP rfl Q h3 h4
end
noncomputable def za(N:Nat)(O:jU)(i:Cr)(ps:List PV)(W:Wd):Option<|LV×Wd:=
 i.9.elim (gd (ps.length==i.7)<|Vs N O i.4 i.8 ps W) λc=>gd (ps.length+1==i.7)<|runC N O c.1 i.4 i.8 c.2 ps W
noncomputable def dn:Nat:=100000
noncomputable def cK:Nat->jU
 |0=>yT
 |n+1=>λf ps W=>bif f==0 then wa ps W else(AL.find? λi=>i.1==f).bind λi=>za dn (cK n) i ps W
theorem Rm.mono(R:Rm k A)(h:k'<=k):Rm k' A:=⟨by have:=R.1;exact dT (.s<|.a .A<|.m 4 .B) (.n 990) (.c 4 .B .C<|.z (.s<|.a .A<|.m 4 .C)<|.n 990) rfl h this,by have:=R.2;exact dT (.s<|.a .A<|.m 100 .B) (.n 9800) (.c 100 .B .C<|.z (.s<|.a .A<|.m 100 .C)<|.n 9800) rfl h this,R.3⟩
theorem NC(b:BP w Z8 O k)(hi:i∈AL){y:LV×Wd}(h:za N O i ps W=fU y){ad:Ad}{F:FZ}{L:dw}{s:aG}{A:bU}{vs:List aF}
  (G:GS w ad.12 F (L++gB ad W) s)(r:fP w ad F ps vs)(R:Rm (k+3) A):bV Z8 (MM w) A (call (.ref i.1) vs) (zR w ad F L y.1 y.2) ji s:=by
 unfold za at h;cases e:i.9 with
 |none=>rw[e] at h;refine iB (qp h) λa h=>?_;have d:i.1=i.2:=(uw w.2 hi).cl.elim (λh=>h.2.2) λ⟨c,fs,e',_⟩=>nomatch e.symm.trans e';refine Rr d<|Pc hi e (fN a) h G r (R.mono<|by exact dL (.p .A 2) (.p .A 3) .e rfl)<|qF b _
 |some c=>rw[e] at h;refine iB (qp h) λa h=>call_cls hi (c:=c.1) (fs:=c.2) e (fN a) h G r R<|qF b _
theorem Sw(n:Nat):BP w Z8 (cK n)<|3*n:=by
 induction n with
 |zero=>exact EJ
 |succ n d=>
  intro f ps W y h ad F L s A vs G r c R;have h:(bif f==0 then wa ps W else(AL.find? λi=>i.1==f).bind λi=>za dn (cK n) i ps W)=fU y:=h;cases e:f==0 with
  |true=>rw[e] at h;cases fN e;exact NQ h G r (c rfl)<|R.mono<|dL (.n 2) (.m 3<|.s .A) .e rfl
  |false=>rw[e] at h;refine dq h λi a h=>?_;have b:i.1=f:=fN<|qO (p:=λi:Cr=>i.1==f) a;have:fv ad f=.ref f:=aK<|beq_eq_false_iff_ne.1 e;refine Rr this<|Rl b ?_;exact NC d (j4 a) h G r R
end Mine
namespace Mine.V
section
variable{O:jU}{σ σ1 σ2 σ3:St}{e l r:Ex}{p q u:PV}{lv:LV}{N:Nat}{b:Bool}{out:Option (Fl×St)}
theorem cE(h:x=fU (.f p,σ)):fr x=fU (p,σ):=h▸rfl
theorem de(h:x=fU (lv,σ))(a:sL lv=fU p):fr x=fU (p,σ):=by refine Rr h ?_;show(sL lv).map _=_;refine Rr a ?_;rfl
theorem set_same(h:σ.1[i]?=fU lv):σ.set i lv=σ:=by
 obtain⟨sl,W⟩:=σ;show St.mk (sl.set i lv) W=_
 congr 1
 refine lD λj=>Rr jF ?_;split
 .rename_i e;subst e;split
  .exact h.symm
  .rename_i a;exact(ch<|aJ a).symm
 .rfl
theorem Jh(h:σ.1[i]?=fU (.f p)):Mq σ i=fU (p,σ):=by delta Mq;refine Rr h ?_;show fU (p,σ.set i<|.f p)=_;exact Rr (set_same h) rfl
theorem Uu(h:σ.1[i]?=fU lv)(a:sL lv=fU p):Mq σ i=fU (p,σ.set i<|.f p):=by delta Mq;refine Rr h ?_;show(sL lv).map _=_;refine Rr a ?_;rfl
theorem tJ(h:σ.1[i]?=fU (.f p)):bQ O (.v i) σ=fU (.f p,σ):=by show(Mq σ i).map _=_;rw[Jh h];rfl
theorem sR(h:σ.1[i]?=fU lv)(b:sL lv=fU p)(a:Fe lv=Z9):bQ O (.D i) σ=fU (lv,σ.set i .u):=by show(σ.1[i]?.bind _)=_;refine Rr h ?_;show(sL lv).map _=_;refine Rr b ?_;show fU (lv,bif (Fe lv).isSome then σ else σ.set i .u)=_;refine Rr a ?_;rfl
theorem ag(h:σ.1[i]?=fU (.f p)):fr (bQ O (.v i) σ)=fU (p,σ):=cE<|by show(Mq σ i).map _=_;refine Rr (Jh h) ?_;rfl
theorem e9(h:σ.1[i]?=fU lv)(a:sL lv=fU p)(b:σ.set i (.f p)=σ1):fr (bQ O (.v i) σ)=fU (p,σ1):=cE<|by show(Mq σ i).map _=_;refine Rr (Uu h a) ?_;exact bx (λs=>fU<|ww p s) b
theorem mq(a:tD σ=Z8)(h:σ.1[i]?=fU (.f p)):fr (bQ O (.j i) σ)=fU (p,σ):=cE<|by show gd _ ((Mq σ i).map _)=_;refine Rr a<|Rr (Jh h) ?_;rfl
theorem du(a:fr (bQ O l σ)=fU (p,σ1))(b:fr (bQ O r σ1)=fU (q,σ2))(c:iJ op p q=fU lv):bQ O (.b op l r) σ=fU (lv,σ2):=by show(fr<|bQ O l σ).bind _=_;refine Rr a ?_;show(fr<|bQ O r σ1).bind _=_;refine Rr b ?_;show(iJ op p q).map _=_;refine Rr c ?_;rfl
theorem aY(a:fr (bQ O l σ)=fU (p,σ1))(b:fr (bQ O r σ1)=fU (q,σ2))(c:iJ op p q=fU (.f u)):fr (bQ O (.b op l r) σ)=fU (u,σ2):=cE<|du a b c
theorem oM(b:fr (bQ O l σ)=fU (p,σ1))(c:fr (bQ O r σ1)=fU (q,σ2))(d:iJ op p q=fU (.o a)):fr (bQ O (.b op l r) σ)=fU (.l a,σ2):=de (du b c d) rfl
theorem EQ(a:fr (bQ O l σ)=fU (p,σ1))(c:fr (bQ O r σ1)=fU (q,σ2))(d:oe op p q=fU b):bQ O (.z op l r) σ=fU (.f<|.c b,σ2):=by show(fr<|bQ O l σ).bind _=_;refine Rr a ?_;show(fr<|bQ O r σ1).bind _=_;refine Rr c ?_;show(oe op p q).map _=_;refine Rr d ?_;rfl
theorem Fn(a:fr (bQ O l σ)=fU (p,σ1))(b:fr (bQ O r σ1)=fU (q,σ2))(c:mU p q=fU u):bQ O (.s l r) σ=fU (.f u,σ2):=by show(fr<|bQ O l σ).bind _=_;refine Rr a ?_;show(fr<|bQ O r σ1).bind _=_;refine Rr b ?_;show(mU p q).map _=_;refine Rr c ?_;rfl
theorem cQ(a:fr (bQ O l σ)=fU (p,σ1))(b:fr (bQ O r σ1)=fU (q,σ2))(c:mU p q=fU u):fr (bQ O (.s l r) σ)=fU (u,σ2):=cE<|Fn a b c
theorem Bf{v:Nat}(ho:t9 σ v=Z8)(b:fr (bQ O r σ)=fU (q,σ1))(d:σ1.1[v]?=fU (.o a))(c:mU (.l a) q=fU u):fr (bQ O (.k v r) σ)=fU (u,σ1):=cE<|by
 show gd _ ((fr<|bQ O r σ).bind _)=_;refine Rr ho<|Rr b ?_;show(Aa σ1 v).bind _=_;have:Aa σ1 v=fU a:=by delta Aa;refine Rr d ?_;rfl
 refine Rr this ?_;show(mU _ _).map _=_;refine Rr c ?_;rfl
theorem o5(a:fr (bQ O e σ)=fU (p,σ1))(b:fr (bQ O i σ1)=fU (y,σ2))(c:fr (bQ O j σ2)=fU (z,σ3))(h:wy p y z=fU lv):bQ O (.n e i j) σ=fU (lv,σ3):=by show(fr<|bQ O e σ).bind _=_;refine Rr a ?_;show(fr<|bQ O i σ1).bind _=_;refine Rr b ?_;show(fr<|bQ O j σ2).bind _=_;refine Rr c ?_;show(wy p y z).map _=_;refine Rr h ?_;rfl
theorem gI(a:fr (bQ O e σ)=fU (p,σ1))(h:Il c i p=fU u):fr (bQ O (.d e c i) σ)=fU (u,σ1):=cE<|by show(fr<|bQ O e σ).bind _=_;refine Rr a ?_;show(Il c i p).map _=_;refine Rr h ?_;rfl
theorem nr(a:fr (bQ O e σ)=fU (.o,σ1))(b:σ1.2.1=fU w)(h:Qv f w=fU u):fr (bQ O (.e e f) σ)=fU (u,σ1):=cE<|by show(fr<|bQ O e σ).bind _=_;refine Rr a ?_;show(σ1.2.1.bind _)=_;refine Rr b ?_;show(Qv f w).map _=_;refine Rr h ?_;rfl
theorem jl:uF O .n σ=fU ([],σ):=rfl
theorem nR(a:fr (bQ O e σ)=fU (p,σ1))(b:uF O es σ1=fU (ps,σ2)):uF O (.c e es) σ=fU (p::ps,σ2):=by show(fr<|bQ O e σ).bind _=_;refine Rr a ?_;show(uF O es σ1).map _=_;refine Rr b ?_;rfl
theorem bI(a:fr (bQ O e σ)=fU (p,σ1)):uF O (.c e .n) σ=fU ([p],σ1):=nR a jl
theorem eK(a:fr (bQ O e σ)=fU (p,σ1))(b:fr (bQ O h σ1)=fU (q,σ2)):uF O (.c e<|.c h .n) σ=fU ([p,q],σ2):=nR a<|bI b
theorem jM(a:fr (bQ O e σ)=fU (p,σ1))(b:fr (bQ O h σ1)=fU (q,σ2))(c:fr (bQ O i σ2)=fU (u,σ3)):uF O (.c e<|.c h<|.c i .n) σ=fU ([p,q,u],σ3):=nR a<|eK b c
theorem i7(h:uF O es σ=fU (ps,σ1))(a:ps.length<=100):bQ O (.t es) σ=fU (.f<|.a ps,σ1):=by show(uF O es σ).bind _=_;rw[h];show gd _ _=_;rw[bT a];rfl
theorem LI(h:uF O es σ=fU (ps,σ1))(a:ps.length<=100):bQ O (.l es) σ=fU (.o ps,σ1):=by show(uF O es σ).bind _=_;refine Rr h ?_;show gd _ _=_;refine Rr (bT a) ?_;rfl
theorem iz(h:uF O es σ=fU (ps,σ1))(a:ps.length<=100):fr (bQ O (.l es) σ)=fU (.l ps,σ1):=de (LI h a) rfl
theorem sk(h:uF O es σ=fU (ps,σ1))(hc:O f ps σ1.2=fU (lv,W)):bQ O (.c f es) σ=fU (lv,⟨σ1.1,W⟩):=by show(uF O es σ).bind _=_;refine Rr h ?_;show(O f ps σ1.2).map _=_;refine Rr hc ?_;rfl
theorem bh(h:uF O es σ=fU (ps,σ1))(hc:O f ps σ1.2=fU (lv,σ1.2)):bQ O (.c f es) σ=fU (lv,σ1):=sk h hc
theorem Ge(a:fr (bQ O e σ)=fU (p,σ1))(h:uF O es σ1=fU (ps,σ2))(b:yN c σ1.2 p=Z8)(hc:O m (p::ps) σ2.2=fU (lv,W)):bQ O (.m m c e es) σ=fU (lv,⟨σ2.1,W⟩):=by show(fr<|bQ O e σ).bind _=_;refine Rr a ?_;show(uF O es σ1).bind _=_;refine Rr h ?_;show gd (yN c σ1.2 p) _=_;refine Rr b ?_;show(O m (p::ps) σ2.2).map _=_;refine Rr hc ?_;rfl
theorem i6(a:fr (bQ O e σ)=fU (p,σ1))(h:uF O es σ1=fU (ps,σ2))(d:yN c σ1.2 p=Z8)(hc:O m (p::ps) σ2.2=fU (lv,W))(b:sL lv=fU q):fr (bQ O (.m m c e es) σ)=fU (q,⟨σ2.1,W⟩):=de (Ge a h d hc) b
theorem LL(a:fr (bQ O v σ)=fU (.t,σ1))(b:fr (bQ O e σ1)=fU (p,σ2))(hc:O 0 [p] σ2.2=fU (Ho i,W)):fr (bQ O (.f v e) σ)=fU (.i i,⟨σ2.1,W⟩):=cE<|by show(fr<|bQ O v σ).bind _=_;refine Rr a ?_;show(fr<|bQ O e σ1).bind _=_;refine Rr b ?_;show(O 0 [p] σ2.2).map _=_;refine Rr hc ?_;rfl
theorem lN(h:uF O es σ=fU (ps,σ1))(hc:zG σ1.2 f ps=fU lv):bQ O (.a f es) σ=fU (lv,σ1):=by show(uF O es σ).bind _=_;refine Rr h ?_;show(zG σ1.2 f ps).map _=_;refine Rr hc ?_;rfl
theorem eL(h:uF O es σ=fU (ps,σ1))(hc:zG σ1.2 f ps=fU lv)(a:sL lv=fU p):fr (bQ O (.a f es) σ)=fU (p,σ1):=de (lN h hc) a
theorem Mx(a:fr (bQ O l σ)=fU (p,σ1))(b:qk p=fU Z8):bQ O (.y l r) σ=fU (.f p,σ1):=by show(fr<|bQ O l σ).bind _=_;refine Rr a ?_;show(qk p).bind _=_;refine Rr b ?_;rfl
theorem LC(a:fr (bQ O l σ)=fU (p,σ1))(b:qk p=fU Z7)(h:bQ O r σ1=y):bQ O (.y l r) σ=y:=by show(fr<|bQ O l σ).bind _=_;refine Rr a ?_;show(qk p).bind _=_;refine Rr b ?_;exact h
theorem pM{t:Te}{a c:Ex}(b:jJ O t σ=fU (Z8,σ1)){y:Option<|LV×St}(h:bQ O a σ1=y):bQ O (.p t a c) σ=y:=by show(jJ O t σ).bind _=_;refine Rr b ?_;exact h
theorem rm(b:jJ O t σ=fU (Z7,σ1))(h:bQ O c σ1=y):bQ O (.p t a c) σ=y:=by show(jJ O t σ).bind _=_;refine Rr b ?_;exact h
theorem cw(a:fr (bQ O l σ)=fU (p,σ1))(c:fr (bQ O r σ1)=fU (q,σ2))(d:oe op p q=fU b):jJ O (.c op l r) σ=fU (b,σ2):=by show(fr<|bQ O l σ).bind _=_;refine Rr a ?_;show(fr<|bQ O r σ1).bind _=_;refine Rr c ?_;show(oe op p q).map _=_;refine Rr d ?_;rfl
theorem wr(a:fr (bQ O e σ)=fU (p,σ1))(c:qk p=fU b):jJ O (.e e) σ=fU (b,σ1):=by show(fr<|bQ O e σ).bind _=_;refine Rr a ?_;show(qk p).map _=_;refine Rr c ?_;rfl
theorem FS(h:jJ O t σ=fU (b,σ1)):jJ O (.n t) σ=fU (!b,σ1):=by show(jJ O t σ).map _=_;refine Rr h ?_;rfl
theorem iA:lK O s .n σ=fU (!s,σ):=rfl
theorem fq(h:jJ O t σ=fU (!s,σ1))(a:lK O s ts σ1=y):lK O s (.c t ts) σ=y:=by show(jJ O t σ).bind _=_;refine Rr h ?_;cases s<;>exact a
theorem gi{s:Bool}{t:Te}{ts:DL}(h:jJ O t σ=fU (s,σ1)):lK O s (.c t ts) σ=fU (s,σ1):=by show(jJ O t σ).bind _=_;refine Rr h ?_;cases s<;>rfl
theorem rz(h:lK O Z8 ts σ=y):jJ O (.o ts) σ=y:=h
theorem kj(h:lK O Z7 ts σ=y):jJ O (.a ts) σ=y:=h
theorem bY:gM N O .n σ=fU (.n,σ):=rfl
theorem aL(h:ph N O s σ=fU (.n,σ1))(a:gM N O ss σ1=out):gM N O (.c s ss) σ=out:=by show(ph N O s σ).bind _=_;refine Rr h ?_;exact a
theorem ee(a:E5 f=Z7)(h:ph N O s σ=fU (f,σ1)):gM N O (.c s ss) σ=fU (f,σ1):=by show(ph N O s σ).bind _=_;refine Rr h ?_;show(bif E5 f then _ else _)=_;refine Rr a ?_;rfl
theorem cY(h:bQ O e σ=fU (lv,σ1)):ph N O (.a i e) σ=fU (.n,σ1.set i lv):=by show(bQ O e σ).map _=_;refine Rr h ?_;rfl
theorem kP(h:fr (bQ O e σ)=fU (p,σ1))(a:qU is p σ1=fU σ2):ph N O (.c is e) σ=fU (.n,σ2):=by show(fr<|bQ O e σ).bind _=_;refine Rr h ?_;show(qU is p σ1).map _=_;refine Rr a ?_;rfl
theorem jD(h:fr (bQ O e σ)=fU (p,σ1))(a:tD σ1=Z8):ph N O (.g i e) σ=fU (.n,σ1.set i<|.f p):=by show(fr<|bQ O e σ).bind _=_;refine Rr h ?_;show gd (tD σ1) _=_;refine Rr a ?_;rfl
theorem yb(h:fr (bQ O e σ)=fU (p,σ1))(b:tD σ1=Z8)(a:qU is p σ1=fU σ2):ph N O (.o is e) σ=fU (.n,σ2):=by show(fr<|bQ O e σ).bind _=_;refine Rr h ?_;show gd (tD σ1) _=_;refine Rr b ?_;show(qU is p σ1).map _=_;refine Rr a ?_;rfl
theorem pv(h:fr (bQ O e σ)=fU (.i i,σ1))(b:σ1.2.1=fU w)(ho:qG σ1=Z8)(a:D6 f w i=fU j):ph N O (.h f e) σ=fU (.n,wg σ1 j):=by show(fr<|bQ O e σ).bind _=_;refine Rr h ?_;show(σ1.2.1.bind _)=_;refine Rr b ?_;show gd (qG σ1) _=_;refine Rr ho ?_;show(D6 f w i).map _=_;refine Rr a ?_;rfl
theorem pz(h:fr (bQ O e σ)=fU (p,σ1))(ho:t9 σ1 v=Z8)(hi:fr (bQ O i σ1)=fU (q,σ2))(b:σ2.1[v]?=fU z)(a:n8 z q p=fU lv):ph N O (.s v i e) σ=fU (.n,σ2.set v lv):=by show(fr<|bQ O e σ).bind _=_;refine Rr h ?_;show gd (t9 σ1 v) _=_;refine Rr ho ?_;show(fr<|bQ O i σ1).bind _=_;refine Rr hi ?_;show(σ2.1[v]?.bind _)=_;refine Rr b ?_;show(n8 z q p).map _=_;refine Rr a ?_;rfl
theorem nS{a b c:Int}(d:σ.1[i]?=fU (.f<|.i a))(h:fr (bQ O e σ)=fU (.i b,σ1))(ho:(Nat.ble op.ctorIdx 1)=Z8)(hc:intOp op a b=fU c):ph N O (.j op i e) σ=fU (.n,σ1.set i<|.f<|.i c):=by show(σ.1[i]?.bind _)=_;refine Rr d ?_;show(fr<|bQ O e σ).bind _=_;refine Rr h ?_;show gd (Nat.ble op.ctorIdx 1) _=_;refine Rr ho ?_;show(intOp op a b).map _=_;refine Rr hc ?_;rfl
theorem Bo{a b:List PV}(ho:t9 σ i=Z8)(h:fr (bQ O e σ)=fU (.l b,σ1))(d:σ1.1[i]?=fU (.o a))(c:a.length+b.length<=aq):ph N O (.p i e) σ=fU (.n,σ1.set i<|.o<|a++b):=by
 show gd (t9 σ i) _=_;refine Rr ho ?_;show(fr<|bQ O e σ).bind _=_;refine Rr h ?_;show(Aa σ1 i).bind _=_;have:Aa σ1 i=fU a:=by delta Aa;refine Rr d ?_;rfl
 refine Rr this ?_;show gd _ _=_;refine Rr (bT c) ?_;rfl
theorem py(b:Jn σ v=Z8)(h:fr (bQ O e σ)=fU (p,σ1))(d:σ1.1[v]?=fU (.o a))(c:a.length<aq):ph N O (.d v e) σ=fU (.n,σ1.set v<|.o<|a++[p]):=by
 show gd (Jn σ v) _=_;refine Rr b ?_;show(fr<|bQ O e σ).bind _=_;refine Rr h ?_;show(Aa σ1 v).bind _=_;have:Aa σ1 v=fU a:=by delta Aa;refine Rr d ?_;rfl
 refine Rr this ?_;show gd _ _=_;refine Rr (bT c) ?_;rfl
theorem pH(ho:t9 σ v=Z8)(hi:fr (bQ O i σ)=fU (.i k,σ1))(b:σ1.1[v]?=fU (.o a))(f:mU (.l a) (.i k)=fU (.i x))
  (c:fr (bQ O e σ1)=fU (.i y,σ2))(g:σ2.1[v]?=fU (.o a))(d:n8 (.o a) (.i k) (.i<|x+y)=fU lv):ph N O (.b v i e) σ=fU (.n,σ2.set v lv):=by
 show gd (t9 σ v) _=_;refine Rr ho ?_;show(fr<|bQ O i σ).bind _=_;refine Rr hi ?_;show(Aa σ1 v).bind _=_;have:Aa σ1 v=fU a:=by delta Aa;refine Rr b ?_;rfl
 refine Rr this ?_;show(mU (.l a)<|.i k).bind _=_;refine Rr f ?_;show(fr<|bQ O e σ1).bind _=_;refine Rr c ?_;show(σ2.1[v]?.bind _)=_;refine Rr g ?_;show(n8 (.o a) (.i k)<|.i<|x+y).map _=_;refine Rr d ?_;rfl
theorem vD(ho:qG σ=Z8)(a:σ.2.1=fU j)(h:fr (bQ O e σ)=fU (.i i,σ1))(c:σ1.2.1=fU w)(b:0<=i/\i<256/\w.1.length<aq):ph N O (.m e) σ=fU (.n,wg σ1 {w with made:=w.1++[UInt8.ofNat i.toNat]}):=by show gd (qG σ&&σ.2.1.isSome) _=_;refine Rr ho<|Rr a ?_;show(fr<|bQ O e σ).bind _=_;refine Rr h ?_;show(σ1.2.1.bind _)=_;refine Rr c ?_;show gd _ _=_;refine Rr (bT b) ?_;rfl
theorem vq{l:List UInt8}(ho:qG σ=Z8)(a:σ.2.1=fU i)(h:fr (bQ O e σ)=fU (.b l,σ1))(c:σ1.2.1=fU w)(b:w.1.length+l.length<=aq):ph N O (.k e) σ=fU (.n,wg σ1 {w with made:=w.1++l}):=by show gd (qG σ&&σ.2.1.isSome) _=_;refine Rr ho<|Rr a ?_;show(fr<|bQ O e σ).bind _=_;refine Rr h ?_;show(σ1.2.1.bind _)=_;refine Rr c ?_;show gd _ _=_;refine Rr (bT b) ?_;rfl
theorem j6(h:fr (bQ O e σ)=fU (.none,σ1)):ph N O (.e e) σ=fU (.n,σ1):=by show(fr<|bQ O e σ).bind _=_;refine Rr h ?_;rfl
theorem fh(h:bQ O e σ=fU (lv,σ1)):ph N O (.r e) σ=fU (.r lv,σ1):=by show(bQ O e σ).map _=_;refine Rr h ?_;rfl
theorem jK(h:jJ O t σ=fU (Z8,σ1))(b:gM N O a σ1=out):ph N O (.i t a c) σ=out:=by show(jJ O t σ).bind _=_;refine Rr h ?_;exact b
theorem fg{a c:iX}(h:jJ O t σ=fU (Z7,σ1))(b:gM N O c σ1=out):ph N O (.i t a c) σ=out:=by show(jJ O t σ).bind _=_;refine Rr h ?_;exact b
theorem Vu(h:jJ O t σ=fU (b,σ1))(d:b=Z8->gM N O a σ1=out)(e:b=Z7->gM N O c σ1=out):ph N O (.i t a c) σ=out:=by
 cases b
 .exact fg h<|e rfl
 .exact jK h<|d rfl
theorem pp(h:iC (jJ O t) (gM N O ss) N σ=out):ph N O (.w t ss) σ=out:=h
theorem kn(h:fr (bQ O e σ)=fU (p,σ1))(hi:f8 p=fU ps)(a:oy is (gM N O ss) ps σ1=out):ph N O (.f is e ss) σ=out:=by show(fr<|bQ O e σ).bind _=_;refine Rr h ?_;show(f8 p).bind _=_;refine Rr hi ?_;exact a
theorem yq(h:fr (bQ O e σ)=fU (.l ps,σ1))(a:oy is (gM N O ss) ps.reverse σ1=out):ph N O (.l is e ss) σ=out:=by show(fr<|bQ O e σ).bind _=_;refine Rr h ?_;exact a
end
theorem lm(a:qU is p σ=fU σ1)(b:body σ1=fU (f,σ2))(c:(BR f).isSome=Z7)(h:oy is body ps σ2=out):oy is body (p::ps) σ=out:=by show(qU is p σ).bind _=_;refine Rr a ?_;show(body σ1).bind _=_;refine Rr b ?_;show(bif (BR f).isSome then _ else _)=_;refine Rr c ?_;exact h
theorem xE{body:St->Option (Fl×St)}(S:β->α->St)(f:ι->PV)(b:β->ι->β){l:List ι}:∀{x:β} {lv:α},
  (∀y lv,∀i∈l,∃σ1 j a,qU is (f i) (S y lv)=fU σ1/\body σ1=fU (j,S (b y i) a)/\(BR j).isSome=Z7)->∃a,oy is body (l.map f) (S x lv)=fU (.n,S (l.foldl b x) a):=by
 induction l with
 |nil=>exact λ{uu lv} uu=>⟨lv,rfl⟩
 |cons i l d=>intro x lv h;refine ak λg=>p6 (h x lv i<|.head _) λσ1 j pq ha hb hf=>rX (d (x:=b x i) (lv:=pq) λy lv q c=>h y lv q<|.tail _ c) λa e=>g<|⟨a,lm ha hb hf e⟩
theorem SW(I:Nat->St->Prop)(ps:List PV)(a:I 0 σ)(b:∀k p,ps[k]?=fU p->∀σ,I k σ->∃σ1 f σ2,qU is p σ=fU σ1/\body σ1=fU (f,σ2)/\(BR f).isSome=Z7/\I (k+1) σ2):
  ∃σ',oy is body ps σ=fU (.n,σ')/\I ps.length σ':=by
 induction ps generalizing I σ with
 |nil=>exact⟨σ,rfl,a⟩
 |cons p ps d=>refine ak λg=>xi (b 0 p rfl σ a) λσ1 f σ2 ha hb hf h2=>bO (d (λk=>I<|k+1) h2 λk q c σ hI=>b (k+1) q c σ hI) λσ' e h'=>g<|⟨σ',lm ha hb hf e,h'⟩
theorem jk(h:t σ=fU (Z7,σ1)):iC t body (n+1) σ=fU (.n,σ1):=by show(t σ).bind _=_;refine Rr h ?_;rfl
theorem qL{t:St->Option (Bool×St)}{body:St->Option (Fl×St)}{n:Nat}{σ σ1 σ2:St}{f:Fl}(h:t σ=fU (Z8,σ1))(b:body σ1=fU (f,σ2))(c:(BR f).isSome=Z7){out:Option<|Fl×St}(a:iC t body n σ2=out):iC t body (n+1) σ=out:=by show(t σ).bind _=_;refine Rr h ?_;show(body σ1).bind _=_;refine Rr b ?_;show(bif (BR f).isSome then _ else _)=_;refine Rr c ?_;exact a
theorem QF(h:t σ=fU (Z8,σ1))(a:body σ1=fU (.r lv,σ2)):iC t body (n+1) σ=fU (.r lv,σ2):=by show(t σ).bind _=_;refine Rr h ?_;show(body σ1).bind _=_;refine Rr a ?_;rfl
theorem n6{α ι:Type}{is:List Nat}{body:St->Option (List PV×St)}(S:α->St)(f:ι->PV)(g:ι->List PV){l:List ι}:∀{lv:α},
  (∀lv,∀i∈l,∃σ1 a,qU is (f i) (S lv)=fU σ1/\body σ1=fU (g i,S a))->∃a,km is body (l.map f) (S lv)=fU (l.flatMap g,S a):=by
 induction l with
 |nil=>exact λ{lv} uu=>⟨lv,rfl⟩
 |cons i l c=>intro lv h;refine ak λd=>mE (h lv i<|.head _) λσ1 pq ha hb=>rX (c (lv:=pq) λlv q b=>h lv q<|.tail _ b) λa e=>d<|⟨a,?_⟩;show(qU is (f i)<|S lv).bind _=_;refine Rr ha ?_;show(body σ1).bind _=_;refine Rr hb ?_;show(km is body (l.map f)<|S pq).map _=_;refine Rr e ?_;rfl
theorem xt(h:t=fU (Z8,σ))(a:fr (x σ)=fU (p,σ1)):qV t x=fU ([p],σ1):=by refine Rr h ?_;show(fr<|x σ).map _=_;refine Rr a ?_;rfl
theorem Eh(h:t=fU (Z7,σ)):qV t x=fU ([],σ):=by refine Rr h ?_;rfl
theorem AC(h:fr (bQ O it σ)=fU (p,σ1))(hi:f8 p=fU ps)(hc:km is (λσ=>qV (lK O Z7 ifs σ)<|bQ O elt) ps (ii is σ1)=fU (qs,σ2))(a:qs.length<=aq):
  bQ O (.o elt is it ifs) σ=fU (.o qs,ii is σ2):=by
 show(fr<|bQ O it σ).bind _=_;refine Rr h ?_;show(f8 p).bind _=_;refine Rr hi ?_;show(km _ _ _ _).bind _=_;refine Rr hc ?_;show gd _ _=_;refine Rr (bT a) ?_;rfl
theorem Kq(h:fr (bQ O jt σ)=fU (p,σ1))(hi:f8 p=fU qs)(hc:km js (λσ=>qV (lK O Z7 ifs σ)<|bQ O elt) qs σ1=fU (xs,σ2)):
  ((fr<|bQ O jt σ).bind λb=>(f8 b.1).bind λqs=>km js (λσ=>qV (lK O Z7 ifs σ)<|bQ O elt) qs b.2)=fU (xs,σ2):=by
 refine Rr h ?_;show(f8 p).bind _=_;refine Rr hi ?_;exact hc
theorem La(h:fr (bQ O it σ)=fU (p,σ1))(hi:f8 p=fU ps)
  (hc:km is (λσ=>(fr<|bQ O jt σ).bind λb=>(f8 b.1).bind λqs=>km js (λσ=>qV (lK O Z7 ifs σ)<|bQ O elt) qs b.2) ps (ii js<|ii is σ1)=fU (qs,σ2))(a:qs.length<=aq):
  bQ O (.A elt is it js jt ifs) σ=fU (.o qs,ii js<|ii is σ2):=by
 show(fr<|bQ O it σ).bind _=_;refine Rr h ?_;show(f8 p).bind _=_;refine Rr hi ?_;show(km _ _ _ _).bind _=_;refine Rr hc ?_;show gd _ _=_;refine Rr (bT a) ?_;rfl
theorem cX(b:0<k)(a:(f==0)=Z7)(hi:AL.find? (λi=>i.1==f)=fU i)(hc:i.9=Z9)(c:ps.length=i.7)
  (h:uM (gM dn (cK<|k-1) i.4 ⟨wh ps++ap i.8 .u,W⟩)=fU y):cK k f ps W=fU y:=by
 obtain⟨k,rfl⟩:∃n,k=n+1:=⟨k-1,by exact aj ((ck _ _))<|(el<|ac<|dL .i .A (.z (.s<|.n 0) .A) rfl b)⟩;show(bif f==0 then wa ps W else(AL.find? λi=>i.1==f).bind λi=>za dn (cK k) i ps W)=_;refine Rr a<|Rr hi ?_;show za dn (cK k) i ps W=_;delta za;refine Rr hc<|Rr (beq_iff_eq.2 c)<|h
theorem Bq(b:0<k)(a:(f==0)=Z7)(hi:AL.find? (λi=>i.1==f)=fU i)(hc:i.9=fU (c,fs))(d:ps.length+1=i.7)
  (h:gM dn (cK<|k-1) i.4 ⟨.m::(wh ps++ap i.8 .u),W⟩=fU (.n,σ))(e:uV σ.1 fs=fU qs):cK k f ps W=fU (.f<|.f c qs,σ.2):=by
 obtain⟨k,rfl⟩:∃n,k=n+1:=⟨k-1,by exact aj ((ck _ _))<|(el<|ac<|dL .i .A (.z (.s<|.n 0) .A) rfl b)⟩;show(bif f==0 then wa ps W else(AL.find? λi=>i.1==f).bind λi=>za dn (cK k) i ps W)=_;refine Rr a<|Rr hi ?_;show za dn (cK k) i ps W=_;delta za;refine Rr hc<|Rr (beq_iff_eq.2 d) ?_;show(gM _ _ _ _).bind _=_;have h:gM dn (cK k) i.4 ⟨.m::(wh ps++ap i.8 .u),W⟩=fU (.n,σ):=h;refine Rr h ?_;show(uV σ.1 fs).map _=_;refine Rr e ?_;rfl
theorem dM(h:o=fU (.r lv,σ)):uM o=fU (lv,σ.2):=by refine Rr h ?_;rfl
theorem pe(h:o=fU (.n,σ)):uM o=fU (.f .none,σ.2):=by refine Rr h ?_;rfl
noncomputable abbrev iN(n:Nat):PV:=.i n
noncomputable abbrev nL(l:List Nat):List PV:=l.map iN
theorem we(h:c=Z8):gd c x=x:=by refine Rr h ?_;rfl
theorem wJ{n:Nat}(h:n<2^64):small n=Z8:=bT<|by rw[on];exact h
theorem Vo:iJ .a (.i a) (.i b)=fU (.f<|.i<|a+b):=rfl
theorem CD:iJ .s (.i a) (.i b)=fU (.f<|.i<|a-b):=rfl
theorem dE:iJ .a (iN a) (iN b)=fU (.f<|iN<|a+b):=rfl
theorem Ie{a b c:Nat}(h:a=b+c):(a:Int)-b=c:=by refine Rr h ?_;rw[mY,Int.add_comm,oo]
theorem nn(n:Nat):(0:Int)<=n:=jo n
theorem O5(n:Nat):-(aq:Int)<=n:=dZ (Int.neg_nonpos_of_nonneg<|nn _)<|nn n
theorem W7{n:Nat}(h:0<n):(n:Int)≠0:=λe=>gk h<|b7.1 e
theorem jf{a b c:Nat}(h:a=b+c):iJ .s (iN a) (iN b)=fU (.f<|iN c):=by have:((a:Int)-b)=c:=Ie h;exact bx (λi=>fU<|LV.f<|.i i) this
theorem m4{a b:Nat}(h:a<2^64):iJ .m (iN a) (iN b)=fU (.f<|iN<|a*b):=by show(gd (small a) _).map _=_;refine Rr (we<|wJ h) ?_;show fU (LV.f<|.i<|(a:Int)*b)=_;rw[<-qP]
theorem rh{a b:Nat}(c:a<2^64)(d:b<=1000000):iJ .b (iN a) (iN b)=fU (.f<|iN<|a*2^b):=by
 show(gd _ _).map _=_;rw[we]
 .show fU (LV.f<|.i<|(a:Int)*2^b)=fU (LV.f<|.i ((a*2^b:Nat):Int));rw[qP,qQ];rfl
 .refine Rr (wJ c)<|Rr (bT ⟨nn b,c8.2 d⟩) ?_;rfl
theorem Am:iJ .d (iN a) (iN b)=fU (.f<|iN<|a/2^b):=by
 show(gd (decide (0<=(b:Int)))<|fU<|(a:Int).fdiv<|2^(b:Int).toNat).map (λi=>LV.f<|.i i)=_;refine Rr (we<|bT<|nn b) ?_;show fU (LV.f<|.i<|(a:Int).fdiv<|2^b)=fU (LV.f<|.i ((a/2^b:Nat):Int));rw[l9,qQ,jS];· rfl
 exact Int.pow_nonneg<|by decide
theorem zz{a b:Nat}(h:0<b)(d:b<2^64):iJ .f (iN a) (iN b)=fU (.f<|iN<|a/b):=by
 show(gd _ _).map _=_;rw[we]
 .show fU (LV.f<|.i<|(a:Int).fdiv b)=fU (LV.f<|.i ((a/b:Nat):Int));rw[l9,jS];exact nn b
 .refine bT ⟨W7 h,?_⟩;rw[on];have:b.log2<64:=(Nat.log2_lt λc=>aM h<|el c).2 d;exact dL (.s .A) (.n 9000) (.z (.s .A)<|.n 64) rfl this
theorem P6{a b:Nat}(h:0<b):iJ .e (iN a) (iN b)=fU (.f<|iN<|a%b):=by
 show(gd _ _).map _=_;rw[we]
 .show fU (LV.f<|.i<|(a:Int).fmod b)=fU (LV.f<|.i ((a%b:Nat):Int));rw[Int.natCast_emod,oq];exact nn b
 .exact bT<|W7 h
theorem FW:iJ .c (iN a) (iN b)=fU (.f<|iN<|a&&&b):=by
 show fU (LV.f<|.i<|Builtin.bitAnd a b)=_;have:Builtin.bitAnd a b=(a&&&b:Nat):=by delta Builtin.bitAnd;refine Rr (bT<|nn a)<|Rr (bT<|nn b) ?_;rfl
 exact Rr this rfl
theorem Uv(a:Nat):¬(0:Int)<=-a-1:=by omega
theorem E4(a:Int):-(-a-1)-1=a:=by omega
theorem UD:iJ .g (iN a) (iN b)=fU (.f<|iN<|a|||b):=by
 show fU (LV.f<|.i<|Builtin.bitOr a b)=_;have:Builtin.bitOr a b=(a|||b:Nat):=by have c:∀n:Nat,(Builtin.bitNot n:Int)=-n-1:=λn=>rfl;delta Builtin.bitOr Builtin.bitAnd;refine Rr (Wq<|by rw[c];exact Uv a) (Rr (Wq<|by rw[c];exact Uv b) ?_);show-(-(((-(-(a:Int)-1)-1).toNat|||(-(-(b:Int)-1)-1).toNat:Nat):Int)-1)-1=_;refine Rr (E4 a)<|Rr (E4 b) ?_;exact E4 _
 exact Rr this rfl
theorem pG(h:decide (a<b)=c):oe .l (.i a) (.i b)=fU c:=bx fU h
theorem WC(h:decide (a<=b)=c):oe .b (.i a) (.i b)=fU c:=bx fU h
theorem pJ(h:decide (b<a)=c):oe .g (.i a) (.i b)=fU c:=bx fU h
theorem Aw(h:decide (b<=a)=c):oe .a (.i a) (.i b)=fU c:=bx fU h
theorem o8(h:decide (a=b)=c):oe .e (.i a) (.i b)=fU c:=by refine Rl h ?_;rfl
theorem Ko(h:decide (a=b)=!c):oe .n (.i a) (.i b)=fU c:=by show fU (!(a==b))=_;have:(a==b)=decide (a=b):=rfl;refine Rr this<|Rr h ?_;rw[Bool.not_not]
theorem Mb(h:k<n)(a:n<=aq):td n k=fU k:=by delta td;refine Rr (we<|bT ⟨O5 k,aN.2<|bG h a⟩) ?_;delta DE;show(if(decide (0<=if(k:Int)<0 then(k:Int)+n else k)&&decide ((if(k:Int)<0 then(k:Int)+n else k)<n))=Z8 then fU (if(k:Int)<0 then(k:Int)+n else k).toNat else Z9)=_;rewrite[aK<|kS.2<|nn k];refine Rr (bT<|nn k)<|Rr (bT<|aN.2 h) ?_;rfl
theorem A6:Ts l (.i i)=(td l.length i).bind λk=>l[k]?:=by delta Ts;refine Rr (show oz (.i i)=fU i from rfl) ?_;rw[fB]
theorem Ag:mU (.l l) q=Ts l q:=rfl
theorem JO:mU (.a l) q=Ts l q:=rfl
theorem xZ(h:l[k]?=fU p)(a:l.length<=aq):mU (.l l) (iN k)=fU p:=by refine Rr Ag<|Rr A6<|Rr (Mb (bp.1 h).1 a) ?_;exact h
theorem m6(h:l[k]?=fU p)(a:l.length<=aq):mU (.a l) (iN k)=fU p:=by rw[JO,A6,Mb (bp.1 h).1 a];exact h
theorem Qf(h:k<l.length)(a:l.length<=aq):n8 (.o l) (iN k) p=fU (.o<|l.set k p):=by delta n8;refine Rr (show On (.o l)=fU l from rfl) ?_;rewrite[jZ];refine Rr (show oz (iN k)=fU (k:Int) from rfl) ?_;rewrite[fB];refine Rr (we<|bT<|nn k)<|Rr (Mb h a) ?_;rfl
theorem DW{c:Nat}:∀{n a:Nat},intsFrom a c n=(cA a n c).map cV:=by
 intro n;induction n with
 |zero=>intro _;exact rfl
 |succ n b=>intro a;exact bx ((a:Int)::·)<|b (a:=a+c)
theorem Wp{a b c n:Nat}(hc:0<c)(g:b<=a+c*n)(f:a+c*n<b+c):(Builtin.Range.rangeSize a b c).toNat=n:=by
 delta Builtin.Range.rangeSize;refine Rr (bf<|qR.2 hc) ?_;rcases eI a b with h|h
 .refine Rr (bf<|aN.2 h) ?_;obtain⟨d,rfl⟩:∃d,b=a+(d+1):=⟨b-a-1,by rw[ac<|oS h,bv<|be h]⟩;obtain⟨m,rfl⟩:∃m,n=m+1:=⟨n-1,(ac<|dQ λe=>by rw[e,Nat.mul_zero] at g;exact eU.2 g h).symm⟩;rw[hX] at g f;refine Rr (Ie rfl) (Rr (show((d+1:Nat):Int)-1=d from Ie<|cR d 1) ?_);rw[<-l9];show d/c+1=m+1;exact Rr (Nat.div_eq_of_lt_le (k:=m) (by rw[fw];exact gy .A .B (.z (.s<|.a .C<|.a .A .D)<|.a (.a .C<|.s .B) .D) rfl f)<|by rw[fw,hX];exact gy (.s .A) (.a .B .C) (.z (.a .D<|.s .A)<|.a .D<|.a .B .C) rfl g) rfl
 .refine Rr (aK<|kS.2<|c8.2 h) ?_;cases n with
  |zero=>rfl
  |succ n=>rw[hX] at f;exact(W1 (.o (.s<|.a .A<|.a .B .C) (.a .D .C)<|.z .D .A) rfl f h).elim
theorem Ck{a b c n:Nat}(hc:c=1\/c=2)(e:a<=aq)(f:b<=aq)(g:b<=a+c*n)(d:a+c*n<b+c):f8 (.r a b c)=fU (nL<|cA a n c):=by
 have i:=Wp (by rcases hc with rfl|rfl<;>decide) g d;have h:y6 a b c=fU (intsFrom a c n):=by delta y6;exact Rr (we<|bT ⟨hc.imp (bx cV)<|bx cV,⟨O5 a,c8.2 e⟩,O5 b,c8.2 f⟩)<|Rr i rfl
 show((y6 a b c).map λl=>l.map PV.i)=_;refine Rr h<|Rr DW ?_;show fU (pR PV.i<|pR cV _)=_;refine Rr bM ?_;rfl
theorem jj(e:n=b)(d:b<=aq):f8 (.r 0 b 1)=fU (nL<|ay n):=by subst e;have h:=Ck (a:=0) (b:=n) (c:=1) (n:=n) (.inl rfl) (bS _) d (dL .A (.a (.n 0)<|.m 1 .A) .e rfl)<|dL (.s<|.a (.n 0)<|.m 1 .A) (.s .A) .e rfl;refine Rr mM ?_;exact h
theorem rF(h:y6 a b c=fU n)(l:List PV)(f:(iZ l).bind Pf=fU (a,b,c)):zG W 1 l=fU (.f<|.r a b c):=by refine bO (kZ.1 f) λis d e=>?_;show(iZ l).bind (λis=>(Pf is).bind λx=>(y6 x.1 x.2.1 x.2.2).map λg=>LV.f<|.r x.1 x.2.1 x.2.2)=_;refine Rr d ?_;rewrite[fB];refine Rr e ?_;rw[fB];refine Rr h ?_;rfl
theorem uo(h:f8 (.r a b c)=fU l):∃n,y6 a b c=fU n:=by
 have h:((y6 a b c).map λl=>l.map PV.i)=fU l:=h;cases e:y6 a b c with
 |none=>rw[e] at h;injection h
 |some n=>exact⟨n,rfl⟩
theorem i9(h:f8 (.r 0 b 1)=fU l):zG W 1 [.i b]=fU (.f<|.r 0 b 1):=let⟨_,e⟩:=uo h;rF e _ rfl
theorem DS:zG W 0 [.l l]=fU (.f<|iN l.length):=rfl
noncomputable def val:List Bool->Nat
 |[]=>0
 |b::r=>b.toNat+2*val r
noncomputable def cM:Nat->Nat->List Bool
 |_,0=>[]
 |v,c+1=>(v%2==1)::cM (v/2) c
theorem a8:∀{v c:Nat},(cM v c).length=c
 |_,0=>rfl
 |v,c+1=>bx (·+1)<|a8 (v:=v/2) (c:=c)
theorem vT(v:Nat):(v%2==1).toNat=v%2:=by rcases Nat.mod_two_eq_zero_or_one v with h|h<;>refine Rr h ?_<;>rfl
theorem uH:∀{v c:Nat},val (cM v c)=v%2^c
 |v,0=>(Nat.mod_one v).symm
 |v,c+1=>by
  show(v%2==1).toNat+2*val (cM (v/2) c)=_;refine Rr uH ?_;rewrite[vT,jp];exact Rr (fw (2^c) 2)<|Rr Nat.mod_mul rfl
theorem rE:∀{l:List Bool},val l<2^l.length:=by
 intro l;induction l with
 |nil=>exact jT
 |cons b r c=>have:=c;have a:b.toNat<=1:=Bool.toNat_le b;show b.toNat+2*val r<2^(r.length+1);rw[jp];exact dT (.s<|.a .A<|.m 2 .B) (.r .C 2) (.c 2 (.s .B) .C<|.z .A .i) rfl this a
theorem qf:∀{a b:List Bool},val (a++b)=val a+2^a.length*val b:=by
 intro a;induction a with
 |nil=>intro b;show val b=0+1*val b;exact aj (dL .A (.a (.n 0)<|.m 1 .A) .e rfl)<|dL (.a (.n 0)<|.m 1 .A) .A .e rfl
 |cons x r c=>intro b;show x.toNat+2*val (r++b)=x.toNat+2*val r+2^(r.length+1)*val b;refine Rr c ?_;rewrite[jp,jN,<-kq];refine Rr (fw 2<|2^_) ?_;rw[bZ]
theorem Dz:val (l.drop n)=val l/2^n:=by
 by_cases h:n<=l.length
 .have a:val l=val (l.take n)+2^n*val (l.drop n):=by
   conv=>lhs;rw[<-fG n l,qf,cI,cu h]
  have b:val (l.take n)<2^n:=by have:=rE (l:=l.take n);rwa [cI,cu h] at this
  refine Rr a<|Rr (Nat.add_mul_div_left _ _<|eO n)<|Rr (pT b) ?_;rw[bA]
 .refine Rr (List.drop_eq_nil_of_le<|be<|b8 h) ?_;rw[pT];· rfl
  exact bG rE<|fW (by decide)<|be<|b8 h
theorem Lo:val (l.take n)=val l%2^n:=by
 by_cases h:n<=l.length
 .have a:val l=val (l.take n)+2^n*val (l.drop n):=by
   conv=>lhs;rw[<-fG n l,qf,cI,cu h]
  have b:val (l.take n)<2^n:=by have:=rE (l:=l.take n);rwa [cI,cu h] at this
  refine Rr a ?_;rewrite[gw];exact Rr (gE b) rfl
 .refine Rr (cv<|be<|b8 h) ?_;rw[gE];exact bG rE<|fW (by decide)<|be<|b8 h
theorem FD:∀{l:List Bool},cM (val l) l.length=l:=by
 intro l;induction l with
 |nil=>exact rfl
 |cons b r c=>
  have a:(b.toNat+2*val r)%2=b.toNat:=by rw[gw];cases b<;>rfl
  have hd:(b.toNat+2*val r)/2=val r:=by refine Rr (Nat.add_mul_div_left _ _<|by decide) ?_;cases b<;>exact bA _
  show((b.toNat+2*val r)%2==1)::cM ((b.toNat+2*val r)/2) r.length=_;refine Rr a<|Rr hd<|Rr c ?_;cases b<;>rfl
theorem Ha:∀{v c i:Nat},i<c->(cM v c)[i]?=fU (v/2^i%2==1)
 |v,c+1,0,_=>by show fU (v%2==1)=_;rw[lF,oW]
 |v,c+1,i+1,h=>by
  show(cM (v/2) c)[i]?=_;refine Rr (Ha<|by exact c9 (.s .A) .B (.z (.s<|.s .A)<|.s .B) rfl h) ?_;rewrite[jq];exact Rl i3 rfl
noncomputable def iO(bs:List Bool)(i:Nat):UInt8:=UInt8.ofNat<|val<|(bs.drop<|8*i).take 8
noncomputable def UP(bs:List Bool)(k:Nat):BO:=⟨(ay k).map<|iO bs,(val (bs.drop<|8*k):Nat),((bs.length-8*k:Nat):Int)⟩
noncomputable def fQ(bs:List Bool):BO:=UP bs<|bs.length/8
theorem H0(h:8*i+8<=a.length):iO (a++b) i=iO a i:=by unfold iO;exact Rr (gO<|by exact c9 (.m 8 .A) .B (.z (.p (.m 8 .A) 8) .B) rfl h)<|Rr (gP<|by rw[b9];exact dT (.n 8) .A (.o (.p (.m 8 .B) 8) .C<|.z .C<|.a .A<|.m 8 .B) rfl h (ck _ _)) rfl
theorem zW(h:8*k<=a.length):(ay k).map (iO<|a++b)=(ay k).map (iO a):=
 cx λi hi=>H0 (by have:=a9.1 hi;exact dT (.p (.m 8 .A) 8) .B (.o (.m 8 .C) .B<|.c 8 (.s .A) .C .e) rfl h this)
noncomputable def IS(bs:List Bool):List UInt8:=(ay<|(bs.length+7)/8).map<|iO bs
noncomputable def dm(l:List UInt8):List Bool:=l.flatMap λo=>cM o.toNat 8
theorem Ib:val (ap n Z7)=0:=by
 induction n with
 |zero=>rfl
 |succ n a=>show 0+2*val (ap n Z7)=0;exact Rr a rfl
theorem Op:val (l++ap n Z7)=val l:=by refine Rr qf<|Rr Ib ?_;rfl
theorem Og:cM (val l) (l.length+n)=l++ap n Z7:=by have h:=FD (l:=l++ap n Z7);rwa [Op,af,bD] at h
theorem Hh(h:l.length<=8):cM (UInt8.ofNat<|val l).toNat 8=l++ap (8-l.length) Z7:=by have a:val l<256:=bG rE (fW (n:=2) (by decide) h);have b:(UInt8.ofNat<|val l).toNat=val l:=gE a;exact Rr b<|Rl Og<|Rr (bv h) rfl
theorem Ds:∀n,8*n<=bs.length->dm ((ay n).map<|iO bs)=bs.take (8*n):=by
 intro n
 induction n with
 |zero=>exact λc=>rfl
 |succ n b=>
  intro h;have a:((bs.drop<|8*n).take 8).length=8:=by refine Rr cI<|Rr b9 ?_;exact aj ((fK _ _))<|(eg<|cu<|dT (.n 8) .A (.o (.m 8<|.s .B) .C<|.z .C<|.a .A<|.m 8 .B) rfl h (ck _ _))
  refine Rr iH<|Rr aC ?_;unfold dm at b⊢
  refine Rr m9<|Rr (b<|ao (j8 8<|sa n) h) ?_;show _++(cM (iO bs n).toNat 8++[])=_;rw[bn];unfold iO;refine Rr (Hh<|bC a)<|Rr a ?_;rewrite[hX];refine Rr List.take_add<|bx _<|bn _
theorem mF:(dm l).length=8*l.length:=by
 unfold dm
 induction l with
 |nil=>rfl
 |cons a r b=>(refine Rr eX<|Rr af<|Rr b<|Rr a8<|Rr aV ?_;rw[hX,cR])
theorem DA:(ay l.length).map (iO<|dm l)=l:=by
 induction l with
 |nil=>rfl
 |cons a r d=>
  have e:dm (a::r)=cM a.toNat 8++dm r:=rfl;have b:iO (dm (a::r)) 0=a:=by refine Rr e ?_;unfold iO;rewrite[Nat.mul_zero];exact Rr jc<|Rr (gP<|bC a8.symm)<|Rr (cv<|bC a8)<|Rr uH<|Rr (gE a.toNat_lt)<|Rr UInt8.ofNat_toNat rfl
  have c:∀i,iO (dm (a::r)) (i+1)=iO (dm r) i:=λi=>by
   refine Rr e ?_;unfold iO;rewrite[hX,cR];refine Rl jd<|Rr (gO<|bC a8.symm)<|Rr (hY<|bC a8) ?_;rfl
  refine Rr aV<|Rr List.range_succ_eq_map<|Rr az<|Rr b<|Rr bM ?_;exact bx _<|(cx λi f=>c i).trans d
theorem Cf(h:c.length=8*(c.length/8)):(ay<|(c++dm l).length/8).map (iO<|c++dm l)=(ay<|c.length/8).map (iO c)++l:=by
 have e:(c++dm l).length/8=c.length/8+l.length:=by refine Rr af<|Rr mF ?_;exact aj (Ec 8 .A (.a .B .C) (.o .D (.m 8 .B)<|.z (.m 8 .A)<|.a .D<|.m 8 .C) rfl (el h) (aQ _ _))<|Ec 8 (.a .A .B) .C (.o (.m 8 .A) .D<|.z (.s<|.a .D<|.m 8 .B)<|.p (.m 8 .C) 8) rfl (eg h) (wL rfl)
 refine Rr e<|Rr sf<|Rr aC<|Rr (zW<|bC h.symm)<|Rr bM ?_;refine bx _<|Eq.trans (cx λi a=>?_) DA;show iO (c++dm l) (c.length/8+i)=_;unfold iO;rewrite[jN];refine Rl jd<|Rr (gO<|bC h.symm)<|Rr (hY<|bC h) ?_;rfl
noncomputable def gf(n:Nat):Nat:=(8-n%8)%8
theorem CN:(n+gf n)%8=0:=by
 have h:∀r,r<8->(r+(8-r)%8)%8=0:=by decide
 unfold gf;rw[Nat.add_mod,Nat.mod_mod];exact h _<|dR _<|by decide
theorem Dx(h:0<n%8):gf n=8-n%8:=gE<|Nat.sub_lt (by decide) h
theorem Jg:dm (IS bs)=bs++ap (gf bs.length) Z7:=by
 have a:=Ds (bs:=bs) (bs.length/8)<|aQ _ _;unfold IS;rcases jr (bs.length%8) with h|h
 .refine Rr (show(bs.length+7)/8=bs.length/8 by exact aj (Ec 8 .A .B (.o .C (.n 0)<|.o (.m 8 .A) (.p .D 7)<|.z .D<|.a (.m 8 .B) .C) rfl (el h) (aQ _ _) (eg<|dh _ _))<|Ch 8 .A .B (.o (.m 8 .A) .C<|.z (.s<|.p .C 7)<|.p (.m 8 .B) 8) rfl (aQ _ _) (wL rfl)) (Rr a<|Rr (show 8*(bs.length/8)=bs.length by exact aj ((aQ _ _))<|dT .A (.m 8 .B) (.o .C (.n 0)<|.z .A<|.a (.m 8 .B) .C) rfl (el h) (eg<|dh _ _))<|Rr ig<|Rr (show gf bs.length=0 by unfold gf;rw[h]) ?_);exact(bn _).symm
 .have hd:(bs.drop<|8*(bs.length/8)).length=bs.length%8:=by refine Rr b9 ?_;exact aj (gy .A .B (.o .C (.a (.m 8 .D) .B)<|.z (.a .A<|.m 8 .D) .C) rfl (eg<|dh _ _) (el<|ac<|(aQ _ _)))<|gy .A .B (.o (.a (.m 8 .C) .A) .D<|.z .D<|.a .B<|.m 8 .C) rfl (el<|dh _ _) (ck _ _)
  have ho:iO bs (bs.length/8)=UInt8.ofNat (val<|bs.drop<|8*(bs.length/8)):=by unfold iO;exact Rr (cv<|by rw[hd];exact be<|dR _<|by decide) rfl
  refine Rr (show(bs.length+7)/8=bs.length/8+1 by exact aj (Ch 8 .A (.s .B) (.o (.m 8 .A) (.p .C 7)<|.z (.s .C)<|.p (.m 8 .B) 8) rfl (aQ _ _) (wL rfl))<|Ec 8 (.s .A) .B (.o (.s<|.n 0) .C<|.o (.s<|.p .D 7) (.p (.m 8 .B) 8)<|.z (.a (.m 8 .A) .C) .D) rfl h (wL rfl) (el<|dh _ _))<|Rr iH<|Rr aC ?_;unfold dm at a⊢
  refine Rr m9<|Rr a ?_;show _++(cM (iO bs<|bs.length/8).toNat 8++[])=_;rewrite[bn];refine Rr ho (Rr (Hh<|by rw[hd];exact be<|dR _<|by decide)<|Rr hd<|Rr (Dx h) ?_);rw[<-au,fG]
section
variable{k:Nat}{W:Wd}
theorem eZ:fr (bQ O (.i i) σ)=fU (.i i,σ):=rfl
theorem bc:fr (bQ O (.i (i:Nat)) σ)=fU (iN i,σ):=rfl
theorem E6:fr (bQ O (.g 0) σ)=fU (iN 8,σ):=rfl
theorem TC(a:0<k)(hc:c<=1000000):cK k 61 [iN v,iN c] W=fU (.f<|iN<|v%2^c,W):=
 cX a rfl rfl rfl rfl<|dM<|ee (σ1:=⟨[.f<|iN v,.f<|iN c],W⟩) rfl<|fh<|by have h:=du (O:=cK<|k-1) (σ:=⟨[.f<|iN v,.f<|iN c],W⟩) (ag (i:=0) rfl) (aY (op:=.s) (aY (op:=.b) (bc (i:=1)) (ag (i:=1) rfl)<|rh (by decide) hc) (bc (i:=1))<|jf (c:=2^c-1) (by have:=eO c;exact aj (c9 (.m 1 .A) (.a .i .B) (.z .A<|.s .B) rfl (ck _ _))<|c9 (.a .i .A) (.m 1 .B) (.z (.s .A) .B) rfl (el<|ac<|dL .i .A (.z (.s<|.n 0) .A) rfl this))) FW;rw[ma] at h;exact h
theorem U2{v c:Nat}(a:0<k)(h:v<2^c):cK k 75 [iN v,iN c] W=fU (.f .none,W):=
 cX a rfl rfl rfl rfl<|pe<|aL (σ1:=⟨[.f<|iN v,.f<|iN c],W⟩) (fg (rz (fq (cw (ag rfl) eZ<|pG<|Wq<|by omega) (fq (cw (ag rfl) eZ<|pG<|Wq<|by omega)
  (fq (cw (aY (ag rfl) (ag rfl) Am) eZ<|Ko<|bT<|by refine Rr (pT h) ?_;rfl) iA)))) bY) bY
noncomputable def wB(W:Wd)(b:BO):Wd:={W with bo:=fU b}
noncomputable def sP(W:Wd)(v c:Nat)(b:BO):St:=⟨[.f .o,.f<|iN v,.f<|iN c],wB W b⟩
theorem Xj:fr (bQ O (.e (.v 0) 1)<|sP W v c b)=fU (.i b.2,sP W v c b):=nr (ag rfl) rfl rfl
theorem yk:fr (bQ O (.e (.v 0) 2)<|sP W v c b)=fU (.i b.3,sP W v c b):=nr (ag rfl) rfl rfl
noncomputable abbrev UQ:Te:=.c .a (.e (.v 0) 2)<|.g 0
noncomputable abbrev putL:iX:=.c (.m<|.c 61<|.c (.e (.v 0) 1)<|.c (.g 0) .n)<|.c (.h 1<|.b .d (.e (.v 0) 1)<|.g 0)<|.c (.h 2<|.b .s (.e (.v 0) 2)<|.g 0) .n
theorem Fw(a:m=b.1)(d:h=b.2)(e:c=b.3):(⟨m,h,c⟩:BO)=b:=by subst a d e;rfl
theorem J4(g:0<k)(f:bs.length<=aq)(e:8*j+8<=bs.length):gM dn (cK k) putL (sP W v c<|UP bs j)=fU (.n,sP W v c<|UP bs<|j+1):=by
 have d:val (bs.drop<|8*j)%2^8=val ((bs.drop<|8*j).take 8):=Lo.symm;have a:val ((bs.drop<|8*j).take 8)<256:=by refine Rl d ?_;exact dR _<|by decide
 refine aL (vD rfl rfl (cE<|bh (eK Xj E6)<|TC g<|by decide) rfl ⟨nn _,aN.2<|by refine Rr d ?_;exact a,?_⟩)<|aL (pv (aY (nr (ag rfl) rfl rfl) E6 Am) rfl rfl rfl)<|aL (pv (aY (nr (ag rfl) rfl rfl) E6 CD) rfl rfl rfl) ?_
 .show((ay j).map _).length<aq;rewrite[av];refine Rr bR ?_;exact Ch 8 (.s .A) .B (.c 8 .C .B<|.z (.p (.m 8 .A) 8) .C) rfl f e
 refine bx (λb=>fU (Fl.n,sP W v c b))<|Fw ?_ ?_ ?_
 .show(ay j).map (iO bs)++[UInt8.ofNat<|val (bs.drop<|8*j)%2^8]=(ay<|j+1).map (iO bs);refine Rr iH<|Rr aC<|Rr d ?_;rfl
 .show((val (bs.drop<|8*j)/2^8:Nat):Int)=(val (bs.drop<|8*(j+1)):Nat);refine Rl Dz<|Rr jd ?_;rfl
 .show((bs.length-8*j:Nat):Int)-(8:Nat)=((bs.length-8*(j+1):Nat):Int);exact Ie<|by rw[hX,<-Nat.sub_sub,cR,ac<|Nat.le_sub_of_add_le<|cR _ _▸e]
theorem Kv(b:0<k)(a:bs.length<=aq):∀n j:Nat,8*j+8*n<=bs.length->bs.length<8*j+8*n+8->∀N,n<N->
  iC (jJ (cK k) UQ) (gM dn (cK k) putL) N (sP W v c<|UP bs j)=fU (.n,sP W v c<|UP bs<|j+n)
 |0,j,hl,hm,N+1,_=>jk<|cw yk E6<|Aw<|Wq<|by show ¬((8:Nat):Int)<=((bs.length-8*j:Nat):Int);refine Rr (propext c8) ?_;omega
 |n+1,j,hl,hm,N+1,hN=>by
  have e:=Kv (v:=v) (c:=c) b a n (j+1) (dT (.a (.m 8<|.s .A)<|.m 8 .B) .C (.z (.a (.m 8 .A)<|.m 8<|.s .B) .C) rfl hl) (dT (.s .A) (.p (.a (.m 8<|.s .B)<|.m 8 .C) 8) (.z (.s .A)<|.p (.a (.m 8 .B)<|.m 8<|.s .C) 8) rfl hm) N (by exact c9 (.s .A) .B (.z (.s<|.s .A)<|.s .B) rfl hN);rw[eE] at e;exact qL (cw yk E6<|Aw<|bT<|c8.2<|by omega) (J4 b a<|by exact dT (.p (.m 8 .A) 8) .B (.z (.a (.m 8 .A)<|.m 8<|.s .C) .B) rfl hl) rfl e
theorem MB(d:1<k)(f:v<2^c)(hc:c<64)(m:W.1=fU (fQ bs))(i:bs.length+c<=aq):
  cK k 96 [.o,iN v,iN c] W=fU (.f .none,wB W<|fQ<|bs++cM v c):=by
 have j:W=wB W (fQ bs):=by unfold wB;exact Rl m rfl
 have g:v<2^64:=bG f (fW (by decide)<|be hc);have a:(bs++cM v c).length=bs.length+c:=Rr af<|Rr a8 rfl;refine cX (dL (.s<|.n 0) .A (.z (.s .i) .A) rfl d) rfl rfl rfl rfl<|pe<|aL (σ1:=sP W v c<|fQ bs) (j6 ?_)<|aL (pv (aY Xj (aY (ag rfl) yk<|rh g<|by unfold aq at i;exact dT .A (.n 1000000) (.o (.s .B) (.p (.m 8 .C) 8)<|.z (.a .A<|.m 8 .C) .B) rfl (wL rfl) (el<|ac<|(aQ _ _))) UD) rfl rfl rfl)<|
  aL (pv (aY (nr (ag rfl) rfl rfl) (ag rfl) dE) rfl rfl rfl)<|aL (σ1:=sP W v c<|fQ<|bs++cM v c) ?_ bY
 .conv=>lhs;rw[j]
  exact cE<|bh (eK (ag rfl)<|ag rfl)<|U2 (c9 (.s<|.n 0) .A (.o (.s .i) .B<|.z .B<|.s .A) rfl d (ck _ _)) f
 .have e:=Kv (W:=W) (bs:=bs++cM v c) (v:=v) (c:=c) (k:=k-1) (c9 (.s<|.n 0) .A (.o (.s .i) .B<|.z .B<|.s .A) rfl d (ck _ _)) (by refine Rr a ?_;exact i) ((bs.length+c)/8-bs.length/8) (bs.length/8) (vd (.a (.m 8 .A)<|.m 8 .B) .C (.o (.a .D .E) .C<|.o (.m 8 .F) (.a .D .E)<|.c 8 (.a .B .A) .F .e) rfl (eg a) (aQ _ _) (el<|ac<|Ec 8 .A .B (.o (.m 8 .A) .C<|.z (.s<|.a .C .D)<|.p (.m 8 .B) 8) rfl (aQ _ _) (wL rfl))) (vd (.s .A) (.p (.a (.m 8 .B)<|.m 8 .C) 8) (.o .A (.a .D .E)<|.c 8 .F (.a .C .B)<|.z (.s<|.a .D .E)<|.p (.m 8 .F) 8) rfl (el a) (ck _ _) (wL rfl)) dn (by unfold dn aq at*;exact Sd 8 (.s .A) (.n 100000) (.o (.s .B) (.n 64)<|.o (.m 8 .C) (.a .D .B)<|.o (.s .D) (.p (.m 8 .E) 8)<|.c 8 (.a .A .E) .C .e) rfl hc (aQ _ _) (wL rfl) (el<|ac<|Ec 8 .A .B (.o (.s<|.a .C .D) (.p (.m 8 .B) 8)<|.z (.m 8 .A) .C) rfl (wL rfl) (aQ _ _)));rw[bv<|fX<|eQ ..,<-a] at e;refine(bx (λb=>iC (jJ (cK<|k-1) UQ) (gM dn (cK<|k-1) putL) dn<|sP W v c b)<|Fw ?_ ?_ ?_).trans e
  .exact(zW<|(aQ _ _)).symm
  .show((val (bs.drop<|8*(bs.length/8))|||v*2^(bs.length-8*(bs.length/8)):Nat):Int)=(val ((bs++cM v c).drop<|8*(bs.length/8)):Nat);have h:=rE (l:=bs.drop<|8*(bs.length/8));rw[b9] at h;refine Rr (gO<|(aQ _ _))<|Rr qf<|Rr uH<|Rr (gE f)<|Rr b9 ?_;rw[Nat.or_comm,fw v,<-nC h,cR]
  .exact bx cV<|(Nat.sub_add_comm<|aQ _ _).symm.trans<|bx (·-_) a.symm
end
section
variable{k:Nat}{W:Wd}{bs:List Bool}
theorem wf(n:Nat):n-8*(n/8)=n%8:=Nat.sub_eq_of_eq_add (Nat.mod_add_div n 8).symm
theorem E9:(fQ bs).3=((bs.length%8:Nat):Int):=bx (λn:Nat=>(n:Int))<|wf _
theorem Ev(h:σ.1[i]?=fU (.f .o))(a:σ.2.1=fU (fQ bs)):fr (bQ O (.e (.v i) 2) σ)=fU (iN<|bs.length%8,σ):=nr (ag h) a<|bx (λc=>fU<|PV.i c) E9
theorem sE(a:W.1=fU b):wB W b=W:=by unfold wB;exact Rl a rfl
theorem Gb(b:2<k)(a:W.1=fU (fQ bs))(d:bs.length+8<=aq):cK k 103 [.o] W=fU (.f .none,wB W<|fQ<|bs++cM 0 (gf bs.length)):=by
 have hc:=Ev (O:=cK<|k-1) (σ:=⟨[.f .o],W⟩) (i:=0) rfl a;refine cX (aX b) rfl rfl rfl rfl<|pe<|aL (σ1:=⟨[.f .o],wB W<|fQ<|bs++cM 0 (gf bs.length)⟩) (Vu (cw hc eZ<|pJ rfl) (λh=>?_) λh=>?_) bY
 .have h:0<bs.length%8:=aN.1<|dG h;refine aL (j6 (i6 (ag rfl) (eK (bc (i:=0))<|aY E6 hc<|jf (c:=gf bs.length)<|by refine Rr (Dx h) ?_;exact(bv<|be<|dR _<|by decide).symm) ?_
   (MB (aA b) (eO _) (bG (dR _<|by decide)<|by decide) a<|ao (g6 (be<|dR _<|by decide) _) d) rfl)) bY
  show(Z8&&((127:Nat)==127&&W.1.isSome))=Z8;refine Rr a ?_;rfl
 .have h:bs.length%8=0:=ju λh'=>bq (aN.2 h')<|of_decide_eq_false h;have:gf bs.length=0:=by unfold gf;exact Rr h rfl
  refine Rr this (Rr (show cM 0 0=[] from rfl) ?_);rewrite[bn];refine Rr (sE a) ?_;exact bY
theorem cO:((ay n).map f).length=n:=by rewrite[av];exact Rr bR rfl
theorem A5(d:0<k)(a:W.1=fU (fQ bs))(c:bs.length<=aq):cK k 117 [.o] W=fU (.f<|iN bs.length,W):=by
 refine cX d rfl rfl rfl rfl<|dM<|ee (σ1:=⟨[.f .o],W⟩) rfl<|fh<|(du (lv:=.f<|iN<|8*(bs.length/8)+bs.length%8) (aY (p:=iN 8) (q:=iN<|bs.length/8) (op:=.m) E6 (eL (lv:=.f<|iN<|bs.length/8) (bI<|nr (ag rfl) a rfl) ?_ rfl)<|m4<|by decide)
  (Ev rfl a) dE).trans (by rw[dh];rfl)
 show gd Z8 (W.1.bind λb=>gd (decide (b.1.length<=aq))<|fU<|Ho b.1.length)=_;have:(fQ bs).1.length=bs.length/8:=cO;refine Rr a ?_;show gd (decide ((fQ bs).1.length<=aq)) (fU<|Ho (fQ bs).1.length)=_;refine Rr this<|Rr (we<|bT<|ao (kG _ _) c) ?_;rfl
theorem GN(c:W.1=fU (fQ bs))(a:bs.length<=aq):zG W 7 [.m]=fU (.f<|.b<|(ay<|bs.length/8).map<|iO bs):=by show gd Z8 (W.1.bind λb=>gd (decide (b.1.length<=aq))<|fU<|LV.f<|.b b.1)=_;refine Rr c<|Rr (we<|bT<|ao (bC<|show(fQ bs).1.length=bs.length/8 from cO)<|ao (kG _ _) a) ?_;rfl
theorem GK(h:a.length+b.length<=aq):iJ .a (.b a) (.b b)=fU (.f<|.b<|a++b):=by show gd (decide (a.length+b.length<=aq)) (fU<|LV.f<|.b<|a++b)=_;exact Rr (we<|bT h) rfl
theorem Kw(h:n<256):zG W 7 [.l [iN n]]=fU (.f<|.b [UInt8.ofNat n]):=by show((gd (decide ((0:Int)<=n/\(n:Int)<256))<|fU [UInt8.ofNat (n:Int).toNat]).map λb=>LV.f<|.b b)=_;refine Rr (we<|bT ⟨jo n,aN.2 h⟩) ?_;rfl
theorem Pw(f:0<k)(a:W.1=fU (fQ bs))(b:bs.length<=aq):cK k 124 [.o] W=fU (.f<|.b<|IS bs,W):=by
 have hc:=Ev (O:=cK<|k-1) (σ:=⟨[.f .o],W⟩) (i:=0) rfl a;have d:fr (bQ (cK<|k-1) (.e (.v 0) 0) ⟨[.f .o],W⟩)=fU (.m,⟨[.f .o],W⟩):=nr (ag rfl) a rfl;refine cX f rfl rfl rfl rfl<|dM (σ:=⟨[.f .o],W⟩) ?_;rcases jr (bs.length%8) with h|h
 .refine ee rfl<|jK (cw hc eZ<|o8<|bT<|bx cV h)<|ee rfl<|fh<|(lN (bI d)<|GN a b).trans ?_;unfold IS;exact Rr (show(bs.length+7)/8=bs.length/8 by exact aj (Ec 8 .A .B (.o .C (.n 0)<|.o (.m 8 .A) (.p .D 7)<|.z .D<|.a (.m 8 .B) .C) rfl (el h) (aQ _ _) (eg<|dh _ _))<|Ch 8 .A .B (.o (.m 8 .A) .C<|.z (.s<|.p .C 7)<|.p (.m 8 .B) 8) rfl (aQ _ _) (wL rfl)) rfl
 .refine aL (fg (cw hc eZ<|o8<|Wq λe=>bq (b7.1 e)<|gk h) bY)<|ee rfl<|fh ?_;have hd:(bs.drop<|8*(bs.length/8)).length=bs.length%8:=by refine Rr b9 ?_;exact wf _
  have c:bs.length%8<=8:=be (dR _<|by decide);have g:val (bs.drop<|8*(bs.length/8))<256:=bG rE (fW (n:=2) (by decide)<|hd▸c);refine(du (eL (bI d) (GN a b) rfl) (eL (bI<|iz (bI<|nr (u:=iN<|val<|bs.drop<|8*(bs.length/8)) (ag rfl) a rfl)<|ai rfl) (Kw g) rfl)<|GK ?_).trans ?_
  .refine Rr cO ?_;exact gy (.s .A) .B (.o .C .B<|.o (.s<|.n 0) .D<|.z (.a (.m 8 .A) .D) .C) rfl b h (el<|dh _ _)
  .unfold IS;refine Rr (show(bs.length+7)/8=bs.length/8+1 by exact aj (Ch 8 .A (.s .B) (.o (.m 8 .A) (.p .C 7)<|.z (.s .C)<|.p (.m 8 .B) 8) rfl (aQ _ _) (wL rfl))<|Ec 8 (.s .A) .B (.o (.s<|.n 0) .C<|.o (.s<|.p .D 7) (.p (.m 8 .B) 8)<|.z (.a (.m 8 .A) .C) .D) rfl h (wL rfl) (el<|dh _ _)) (Rr iH (Rr aC (Rr az (Rr (show iO bs (bs.length/8)=UInt8.ofNat (val<|bs.drop<|8*(bs.length/8)) by
    unfold iO;rw[cv<|hd▸c]) ?_))))
   rfl
theorem JG(g:3<k)(i:W.1=fU (fQ bs))(f:bs.length+8+8*l.length<=aq):cK k 110 [.o,.b l] W=fU (.f .none,wB W<|fQ<|bs++cM 0 (gf bs.length)++dm l):=by
 let c:=bs++cM 0 (gf bs.length)
 have a:c.length%8=0:=by refine Rr af<|Rr a8 ?_;exact CN
 have d:c.length<=bs.length+8:=by show(bs++cM 0 (gf bs.length)).length<=_;refine Rr af<|Rr a8 ?_;exact g6 (be<|dR _<|by decide) _
 refine cX (aX g) rfl rfl rfl rfl<|pe<|aL (σ1:=⟨[.f .o,.f<|.b l],wB W<|fQ c⟩) (j6<|i6 (ag rfl) jl ?_ (Gb (aA g) i<|dT (.p .A 8) .B (.z (.a (.p .A 8)<|.m 8 .C) .B) rfl f) rfl)<|
  aL (σ1:=⟨[.f .o,.f<|.b l],wB W<|fQ<|c++dm l⟩) ((vq rfl rfl (ag rfl) rfl ?_).trans ?_) bY
 .show(Z8&&((127:Nat)==127&&W.1.isSome))=Z8;refine Rr i ?_;rfl
 .show((ay<|c.length/8).map<|iO c).length+l.length<=aq;refine Rr cO ?_;exact Sd 8 (.a .A .B) .C (.o (.a (.p .D 8)<|.m 8 .B) .C<|.o .E (.p .D 8)<|.z (.m 8 .A) .E) rfl f d (aQ _ _)
 .have h:c.length=8*(c.length/8):=aj (dT .A (.m 8 .B) (.o .C (.n 0)<|.z .A<|.a (.m 8 .B) .C) rfl (el a) (eg<|dh _ _))<|(aQ _ _);have e:(c++dm l).length=8*((c++dm l).length/8):=by refine Rr af<|Rr mF ?_;exact(Nat.mul_div_cancel'<|Nat.dvd_of_mod_eq_zero<|by rw[gw];exact a).symm
  refine bx (λb=>fU (Fl.n,St.mk [.f .o,.f<|.b l]<|wB W b))<|Fw (Cf h).symm ?_ ?_
  .show((val (c.drop<|8*(c.length/8)):Nat):Int)=(val ((c++dm l).drop<|8*((c++dm l).length/8)):Nat);exact Rl h<|Rl e<|Rr List.drop_length<|Rr List.drop_length rfl
  .show((c.length-8*(c.length/8):Nat):Int)=(((c++dm l).length-8*((c++dm l).length/8):Nat):Int);refine Rl h<|Rl e ?_;rw[fA,fA]
end
section
variable{k:Nat}{W:Wd}{O:jU}{σ:St}{p:PV}{elt it:Ex}
theorem set_set:(σ.set i a).set i b=σ.set i b:=bx (λl=>St.mk l σ.2)<|qx ..
theorem set_comm(h:i≠j):(σ.set i a).set j b=(σ.set j b).set i a:=bx (λl=>St.mk l σ.2)<|List.set_comm _ _ h
theorem mj{ι:Type}{i:Nat}{f:ι->PV}{l:List ι}{g:ι->PV}{t:ι->Bool}{ifs:DL}(h:fr (bQ O it σ)=fU (p,σ))(hi:f8 p=fU (l.map f))(m:σ.1[i]?=fU .u)(j:l.length<=aq)
  (c:∀a∈l,lK O Z7 ifs (σ.set i<|.f<|f a)=fU (t a,σ.set i<|.f<|f a))(d:∀a∈l,t a=Z8->fr (bQ O elt<|σ.set i<|.f<|f a)=fU (g a,σ.set i<|.f<|f a)):
  bQ O (.o elt [i] it ifs) σ=fU (.o<|(l.filter t).map g,σ):=by
 obtain⟨lv,e⟩:=n6 (is:=[i]) (body:=λσ=>qV (lK O Z7 ifs σ)<|bQ O elt) (σ.set i) f (λa=>bif t a then[g a] else[]) (l:=l) (lv:=.u) λlv a b=>by
  refine(ff _ (.f<|f a) ⟨bx fU set_set,?_⟩);cases e:t a
  .exact Eh<|Rr (c a b)<|Rr e rfl
  .exact xt (Rr (c a b)<|Rr e rfl)<|d a b e
 have k:l.flatMap (λa=>bif t a then[g a] else[])=(l.filter t).map g:=by
  clear e c d j hi
  induction l with
  |nil=>rfl
  |cons a l n=>refine Rr eX<|Rr n<|Rr ja ?_;cases t a<;>rfl
 rw[k] at e;refine(AC h hi e<|ao (bC<|av ..)<|ao (gA ..) j).trans ?_;show fU (_,(σ.set i lv).set i .u)=_;exact Rr set_set<|Rr (set_same m) rfl
theorem BD{ι:Type}{i:Nat}{f:ι->PV}{l:List ι}{g:ι->PV}(h:fr (bQ O it σ)=fU (p,σ))(hi:f8 p=fU (l.map f))(k:σ.1[i]?=fU .u)(j:l.length<=aq)
  (d:∀a∈l,fr (bQ O elt<|σ.set i<|.f<|f a)=fU (g a,σ.set i<|.f<|f a)):bQ O (.o elt [i] it .n) σ=fU (.o<|l.map g,σ):=by
 have e:=mj (ifs:=.n) (t:=λb=>Z8) h hi k j (λb b=>rfl) λa c b=>d a c;rwa [kc.2 λb b=>rfl] at e
theorem yE{ι:Type}{i j:Nat}{f1 f2:ι->PV}{l:List ι}{g:ι->PV}{t:ι->Bool}{ifs:DL}(b:i≠j)(h:fr (bQ O it σ)=fU (p,σ))(hi:f8 p=fU (l.map λa=>.a [f1 a,f2 a]))(n:σ.1[i]?=fU .u)(o:σ.1[j]?=fU .u)(k:l.length<=aq)
  (d:∀a∈l,lK O Z7 ifs ((σ.set i<|.f<|f1 a).set j<|.f<|f2 a)=fU (t a,(σ.set i<|.f<|f1 a).set j<|.f<|f2 a))
  (f:∀a∈l,t a=Z8->fr (bQ O elt<|(σ.set i<|.f<|f1 a).set j<|.f<|f2 a)=fU (g a,(σ.set i<|.f<|f1 a).set j<|.f<|f2 a)):
  bQ O (.o elt [i,j] it ifs) σ=fU (.o<|(l.filter t).map g,σ):=by
 obtain⟨lv,e⟩:=n6 (is:=[i,j]) (body:=λσ=>qV (lK O Z7 ifs σ)<|bQ O elt) (λx:LV×LV=>(σ.set i x.1).set j x.2) (λa=>.a [f1 a,f2 a]) (λa=>bif t a then[g a] else[]) (l:=l) (lv:=(.u,.u)) λlv a c=>by
  refine(ff ((σ.set i<|.f<|f1 a).set j<|.f<|f2 a) (.f<|f1 a,.f<|f2 a) ⟨?_,?_⟩)
  .show fU ((((σ.set i lv.1).set j lv.2).set i<|.f<|f1 a).set j<|.f<|f2 a)=_;exact Rr (set_comm b.symm)<|Rr set_set<|Rr set_set rfl
  cases e:t a
  .exact Eh<|Rr (d a c)<|Rr e rfl
  .exact xt (Rr (d a c)<|Rr e rfl)<|f a c e
 have m:l.flatMap (λa=>bif t a then[g a] else[])=(l.filter t).map g:=by
  clear e d f k hi
  induction l with
  |nil=>rfl
  |cons a l q=>refine Rr eX<|Rr q<|Rr ja ?_;cases t a<;>rfl
 rw[m] at e;refine(AC (is:=[i,j]) h hi e<|ao (bC<|av ..)<|ao (gA ..) k).trans ?_
 .show fU (_,(((σ.set i lv.1).set j lv.2).set i .u).set j .u)=_;exact Rr (set_comm b.symm)<|Rr set_set<|Rr set_set<|Rr (set_same (σ:=σ) (i:=i) n)<|Rr (set_same o) rfl
noncomputable def bP(l:List Bool):List PV:=l.map λb=>iN b.toNat
theorem JT:f8 (.b l)=fU (l.map λo=>iN o.toNat):=rfl
theorem Um(o i:Nat):(o/2^i%2==1).toNat=o/2^i%2:=vT _
theorem Tn(o:Nat):(ay 8).map (λi=>iN<|o/2^i%2)=bP (cM o 8):=by
 refine lD λi=>?_;delta bP;refine Rr cG<|Rr cG ?_;by_cases h:i<8
 .refine Rr (Ha h)<|Rr (nc h) ?_;exact bx (λn=>fU<|iN n) (Um o i).symm
 .refine Rr (ch<|by rw[bR];exact aJ h) (Rr (ch<|by rw[a8];exact aJ h) ?_);rfl
theorem jH(h:n<=aq):iJ .m (.l [p]) (iN n)=fU (.o<|ap n p):=by
 show gd (decide (1*(n:Int).toNat<=aq/\(n:Int)<=aq/\-(aq:Int)<=n)) (fU<|LV.o (ap (n:Int).toNat [p]).flatten)=_;refine Rr (we<|bT ⟨by rw[jO];exact h,c8.2 h,O5 n⟩) ?_
 congr 2
 induction n with
 |zero=>rfl
 |succ n a=>refine Rr g7<|Rr List.flatten_cons<|Rr (a<|lG h) ?_;rfl
theorem qh(h:a.length+b.length<=aq):iJ .a (.l a) (.l b)=fU (.o<|a++b):=by show gd (decide (a.length+b.length<=aq)) (fU<|LV.o<|a++b)=_;exact Rr (we<|bT h) rfl
theorem Bg:(bP l).length=l.length:=av ..
theorem Sm:bP (a++b)=bP a++bP b:=aC
theorem BW:bP (ap n Z7)=ap n (iN 0):=im
theorem nw(a:W.1=fU b):yN 127 W .o=Z8:=by show(Z8&&((127:Nat)==127&&W.1.isSome))=Z8;refine Rr a ?_;rfl
theorem Xi(c:1<k)(f:W.1=fU (fQ bs))(a:bs.length+100<=aq):cK k 485 [.o] W=fU (.o<|bP<|bs++ap (gf bs.length+24) Z7,W):=by
 have h:gf bs.length<8:=dR _ (by decide);have d:(bP<|bs++ap (gf bs.length) Z7).length<=bs.length+8:=by refine Rr Bg<|Rr af<|Rr bD ?_;exact c9 (.a .A .B) (.p .A 8) (.z (.s .B)<|.n 8) rfl h
 have j:=nw f;refine cX (aX c) rfl rfl rfl rfl<|dM (σ:=⟨[.f .o,.u,.u],W⟩)<|ee rfl<|fh ?_
 let S:LV×LV->St:=λx=>⟨[.f .o,x.1,x.2],W⟩
 obtain⟨lv,e⟩:=n6 (is:=[1]) (body:=λσ=>(fr<|bQ (cK<|k-1) (.a 1<|.c (.i 8) .n) σ).bind λb=>(f8 b.1).bind λqs=>km [2] (λσ=>qV (lK (cK<|k-1) Z7 .n σ)<|bQ (cK<|k-1)<|.b .c (.b .d (.v 1)<|.v 2)<|.i 1) qs b.2) S (λo:UInt8=>iN o.toNat) (λo=>bP<|cM o.toNat 8) (l:=IS bs) (lv:=(.u,.u)) λlv o p=>by
  refine⟨S (.f<|iN o.toNat,lv.2),?_⟩;obtain⟨m,e⟩:=n6 (is:=[2]) (body:=λσ=>qV (lK (cK<|k-1) Z7 .n σ)<|bQ (cK<|k-1)<|.b .c (.b .d (.v 1)<|.v 2)<|.i 1) (λx=>S (.f<|iN o.toNat,x)) iN (λi=>[iN<|o.toNat/2^i%2]) (l:=ay 8) (lv:=lv.2) λlv i p=>(ff _ (.f<|iN i) ⟨rfl,xt rfl (aY (aY (ag rfl) (ag rfl) Am) (bc (i:=1))<|by refine Rr FW ?_;rw[Nat.and_one_is_mod])⟩)
  rw[<-List.map_eq_flatMap,Tn] at e;exact⟨_,rfl,Kq (eL (bI eZ) (i9<|jj (b:=8) rfl (by decide)) rfl) (jj (b:=8) rfl (by decide)) e⟩
 have g:(IS bs).flatMap (λo=>bP<|cM o.toNat 8)=bP (bs++ap (gf bs.length) Z7):=by refine Rl Jg ?_;delta dm bP;exact Rr List.map_flatMap rfl
 rw[g] at e;refine(du (de (La (cE<|Ge (ag rfl) jl j<|Pw (aA c) f<|ao (eQ ..) a) JT e<|ao d<|c9 (.p .A 8) .B (.z (.p .A 100) .B) rfl a) rfl) (de (du (iz (bI eZ)<|by decide) eZ<|jH (n:=24)<|by decide) rfl)<|qh ?_).trans ?_
 .refine Rr bD ?_;exact dT (.p .A 24) .B (.o (.p .C 100) .B<|.z .A<|.p .C 8) rfl a d
 .refine Rl dW ?_;rewrite[<-au];refine Rr (Sm (b:=ap 24 Z7))<|Rr (BW (n:=24)) ?_;rfl
end
theorem ur(I:Nat->St->Prop)(f:ι->PV)(l:List ι)(c:I 0 σ)(d:∀k i,l[k]?=fU i->∀σ,I k σ->∃σ1 j σ2,qU is (f i) σ=fU σ1/\body σ1=fU (j,σ2)/\(BR j).isSome=Z7/\I (k+1) σ2):
  ∃σ',oy is body (l.map f) σ=fU (.n,σ')/\I l.length σ':=by
 have h:=SW I (l.map f) c λk p b σ hI=>by
  rw[cG] at b;refine bO (eF.1 b) λi hi a=>?_;subst a;exact d k i hi σ hI
 rwa [av] at h
theorem z7{n k i:Nat}(h:(ay n)[k]?=fU i):i=k/\k<n:=by refine rX (bp.1 h) λa b=>?_;rw[io] at b;rw[bR] at a;exact⟨b.symm,a⟩
theorem zv{f:Nat->α}{n i:Nat}(h:i<n):((ay n).map f)[i]?=fU (f i):=by refine Rr cG<|Rr (nc h) ?_;rfl
theorem pf{α:Type}{f:Nat->α}{n i:Nat}{v:α}:((ay n).map f).set i v=(ay n).map λj=>if j=i then v else f j:=by
 refine lD λj=>Rr jF ?_;rewrite[av];refine Rr bR<|Rr cG<|Rr cG ?_;by_cases a:j<n
 .refine Rr (nc a) ?_;split
  .rename_i e;subst e;refine Rr (bf a) ?_;exact bx fU (bf rfl).symm
  .rename_i e;exact bx fU (aK λh=>e h.symm).symm
 .refine Rr (ch<|ao (bC bR)<|aJ a) ?_;split
  .rename_i e;subst e;refine Rr (aK a) ?_;rfl
  .rfl
section
variable{k:Nat}{W:Wd}
theorem u3:iZ (nL l)=fU (l.map cV):=by
 induction l with
 |nil=>rfl
 |cons a r b=>show(iZ<|nL r).map _=_;refine Rr b ?_;rfl
theorem Mv{l:List Nat}:(l.map cV:List Int).sum=(l.sum:Nat):=by
 induction l with
 |nil=>rfl
 |cons a r b=>(refine Rr az<|Rr bK<|Rr bK<|Rr b ?_;rw[mY])
theorem yn:zG W 6 [.l<|nL l]=fU (.f<|iN l.sum):=by show(iZ<|nL l).map (λis=>Ho is.sum)=_;refine Rr u3 ?_;exact bx (λi=>fU<|LV.f<|.i i) Mv
theorem NV:((ay b.length).map λi=>(b.getD i Z7).toNat*2^i).sum=val b:=by
 induction b with
 |nil=>rfl
 |cons x r c=>
  refine Rr aV<|Rr List.range_succ_eq_map<|Rr az<|Rr bK<|Rr bM ?_;show x.toNat*2^0+_=x.toNat+2*val r;refine Rl c ?_;rw[lF,jP]
  congr 1
  generalize ay r.length=l
  induction l with
  |nil=>rfl
  |cons a l c=>(refine Rr az<|Rr az<|Rr bK<|Rr bK<|Rr c ?_;rw[jN]);show(r.getD a Z7).toNat*2^(a+1)+_=_;rewrite[jp];refine Rr (fw 2<|_*_) ?_;rw[kq]
theorem Kk(h:i<l.length):(bP l)[i]?=fU (iN (l.getD i Z7).toNat):=by unfold bP;refine Rr cG<|Rr al<|Rr (aI h) ?_;rfl
theorem TU(n:0<k)(d:b.length<=64)(h:(a++(b++c)).length<=aq):cK k 449 [.l<|bP<|a++(b++c),iN a.length,iN b.length] W=fU (.f<|iN<|val b,W):=by
 have e:b.length<=aq:=by rw[af,af] at h;exact gy .A .B (.z (.a .C<|.a .A .D) .B) rfl h
 refine cX n rfl rfl rfl rfl<|dM (σ:=⟨[.f<|.l<|bP<|a++(b++c),.f<|iN a.length,.f<|iN b.length,.u],W⟩)<|ee rfl<|fh<|
  (lN (bI<|de (BD (f:=iN) (l:=ay b.length) (g:=λi=>iN<|(b.getD i Z7).toNat*2^i) (eL (bI<|ag rfl) (i9<|jj rfl e) rfl) (jj rfl e) rfl (by refine Rr bR ?_;exact e) λi hi=>?_) rfl) ?_)
 .have hi:i<b.length:=a9.1 hi;have m:(a++(b++c)).getD (a.length+i) Z7=b.getD i Z7:=by
   refine Rr al<|Rr (gq<|eQ ..) ?_;rewrite[fY];exact Rr (j5 hi)<|Rr al rfl
  have j:a.length+i<(a++(b++c)).length:=by refine Rr af<|Rr af ?_;exact gy (.s<|.a .A .B) (.a .A<|.a .C .D) (.z (.s .B) .C) rfl hi
  exact aY (cQ (ag rfl) (aY (ag rfl) (ag rfl) dE)<|xZ (Kk j)<|by refine Rr Bg ?_;exact h) (ag rfl)<|by refine Rr m ?_;exact rh (aW (Bool.toNat_le _)<|by decide)<|c9 .A (.n 1000000) (.o .B (.n 64)<|.z (.s .A) .B) rfl d hi
 .exact Rr (show(ay b.length).map (λi=>iN<|(b.getD i Z7).toNat*2^i)=nL ((ay b.length).map λi=>(b.getD i Z7).toNat*2^i) from (bM (f:=λi=>(b.getD i Z7).toNat*2^i) (g:=iN)).symm)<|Rr yn<|Rr NV rfl
theorem Ah:∀{v c:Nat},cM v (c+1)=cM v c++[v/2^c%2==1]
 |v,0=>by rw[lF,oW];rfl
 |v,c+1=>by
  show(v%2==1)::cM (v/2) (c+1)=_;refine Rr Ah ?_;rewrite[jq];refine Rl i3 ?_;rfl
noncomputable def tb(v c:Nat):Nat:=val (cM v c).reverse
theorem Pp:tb v (c+1)=tb v c*2+v/2^c%2:=by unfold tb;refine Rr Ah<|Rr j9 ?_;show(v/2^c%2==1).toNat+2*val (cM v c).reverse=_;rw[vT,cR,fw]
theorem P7:tb v c<2^c:=by have:=rE (l:=(cM v c).reverse);rwa [gZ,a8] at this
theorem QG(h:b<2):t*2|||b=t*2+b:=by have:=nC (i:=1) h t;rewrite[fw];exact Rr (show(2:Nat)*t=2^1*t from rfl)<|Rl this rfl
theorem QP(f:0<k)(hc:c<=64):cK k 68 [iN v,iN c] W=fU (.f<|iN<|tb v c,W):=by
 have b:c<=aq:=by unfold aq;exact dL .A (.n 1048576) (.z .A<|.n 64) rfl hc
 refine oP (ur (is:=[3]) (body:=gM dn (cK<|k-1)<|.c (.a 2<|.b .g (.b .b (.v 2)<|.i 1)<|.b .c (.b .d (.v 0)<|.v 3)<|.i 1) .n) (λj σ=>∃lv,σ=⟨[.f<|iN v,.f<|iN c,.f<|iN<|tb v j,lv],W⟩) iN (ay c) (σ:=⟨[.f<|iN v,.f<|iN c,.f<|iN 0,.u],W⟩) ⟨.u,rfl⟩
  λj i hi σ hI=>by
   refine rX hI λlv a=>?_;clear hI;subst a;obtain⟨rfl,d⟩:=z7 hi;have g:tb v i<2^64:=bG P7 (fW (by decide)<|ao (be d) hc);refine(ou _ .n _ ⟨rfl,aL (cY<|du (aY (ag rfl) (bc (i:=1))<|rh g<|by decide) (aY (aY (ag rfl) (ag rfl) Am) (bc (i:=1)) FW) UD) bY,rfl,.f<|iN i,?_⟩);rewrite[Nat.and_one_is_mod];refine Rr (show tb v i*2^1|||v/2^i%2=tb v (i+1) from (QG<|dR _<|by decide).trans Pp.symm) ?_;rfl) λσ e lv VS=>?_;subst VS
 rw[bR] at e;exact cX f rfl rfl rfl rfl<|dM (σ:=⟨[.f<|iN v,.f<|iN c,.f<|iN<|tb v c,lv],W⟩)<|aL (σ1:=⟨[.f<|iN v,.f<|iN c,.f<|iN 0,.u],W⟩) rfl<|aL (kn (eL (bI<|ag rfl) (i9<|jj rfl b) rfl) (jj rfl b) e)<|ee rfl<|fh<|tJ rfl
end
noncomputable def kh(L:List Nat):Nat:=L.foldr max 0
theorem q8(h:x∈L):x<=kh L:=by
 induction L with
 |nil=>cases h
 |cons a r b=>
  show x<=max a (kh r);rcases ax.1 h with rfl|h
  .exact qM ..
  .exact ao (b h)<|jb ..
noncomputable def ro(L:List Nat):List Nat:=(ay<|kh L+1).map λl=>if l=0 then 0 else L.count l
theorem Rj:AO ((a::r).map cV)=fU ((kh (a::r):Nat):Int):=by
 induction r generalizing a with
 |nil=>exact bx (λn:Nat=>fU (n:Int)) (Nat.max_zero a).symm
 |cons b r c=>
  show fU ((AO<|(b::r).map cV).elim (a:Int) λm=>if m<(a:Int) then(a:Int) else m)=_;refine Rr c ?_;show fU (if((kh (b::r):Nat):Int)<a then(a:Int) else(kh (b::r):Nat))=fU ((max a (kh (b::r)):Nat):Int);split
  .rename_i h;exact Rr (mX<|be<|aN.1 h) rfl
  .rename_i h;exact Rr (Nat.max_eq_right<|aJ λh'=>h<|aN.2 h') rfl
section
variable{k:Nat}{W:Wd}{L:List Nat}
theorem jA:(nL L).length=L.length:=av ..
theorem gH:zG W 0 [.l<|nL L]=fU (.f<|iN L.length):=DS.trans<|Rr jA rfl
theorem KE:zG W 4 [.l<|nL (a::r)]=fU (.f<|iN<|kh (a::r)):=by show(iZ<|nL (a::r)).bind (λis=>(AO is).map Ho)=_;refine Rr u3 ?_;rewrite[fB];refine Rr Rj ?_;rfl
theorem OO(a:0<k)(b:L.length<aq):cK k 138 [.l<|nL L] W=fU (.f<|iN<|kh L,W):=
 cX a rfl rfl rfl rfl<|dM (σ:=⟨[.f<|.l<|nL L],W⟩)<|ee rfl<|fh<|lN (bI<|oM (iz (bI<|bc (i:=0))<|by decide) (eL (lv:=.o<|nL L) (bI<|ag rfl) rfl rfl)<|qh<|ao (bC<|by refine Rr jA ?_;exact cR ..) b)
  (KE.trans<|by show fU (LV.f<|iN<|max 0<|kh L)=_;rw[Nat.zero_max])
theorem DZ(h:i<L.length):(nL L)[i]?=fU (iN<|L.getD i 0):=by refine Rr cG<|Rr al<|Rr (aI h) ?_;rfl
theorem fu(h:i<L.length)(a:L.length<=aq):mU (.l<|nL L) (iN i)=fU (iN<|L.getD i 0):=xZ (DZ h)<|by refine Rr jA ?_;exact a
theorem yQ(h:i<L.length)(a:L.length<=aq):n8 (.o<|nL L) (iN i) (iN v)=fU (.o<|nL<|L.set i v):=by exact Rr (Qf (by rw[jA];exact h)<|by rw[jA];exact a)<|Rl List.map_set rfl
theorem ik(h:i<n):((ay n).map f).getD i 0=f i:=by refine Rr al<|Rr (zv h) ?_;rfl
theorem dy:f8 (.l l)=fU l:=rfl
theorem tQ:ap n (iN m)=nL (ap n m):=im.symm
theorem BA:nL (l++[x])=nL l++[iN x]:=aC
theorem zP{n m:Nat}:ap n m=(ay n).map λa=>m:=Rr gX<|Rr bR rfl
theorem tZ(h:L[j]?=fU x):(L.take<|j+1).count l=(L.take j).count l+if l=x then 1 else 0:=by
 obtain⟨b,rfl⟩:=bp.1 h;refine Rr (gm b)<|Rr bt<|Rr List.count_singleton ?_
 congr 1
 by_cases e:L[j]=l
 .subst e;exact Rr (bf rfl)<|Rr (bf<|BEq.rfl (a:=L[j])) rfl
 .exact Rr (aK λh:l=L[j]=>e h.symm)<|Rr (aK λh:(L[j]==l)=Z8=>e<|fN h) rfl
noncomputable def ub(L:List Nat)(j:Nat):List Nat:=(ay<|kh L+1).map λl=>if l=0 then 0 else(L.take j).count l
theorem C4:(ub L j).length=kh L+1:=cO
theorem Xl(g:1<k)(p:L.length<aq)(q:kh L<1000):cK k 145 [.l<|nL L] W=fU (.o<|nL<|ro L,W):=by
 have f:kh L+1<=aq:=by unfold aq;exact dL (.s .A) (.n 1048576) (.z (.s .A)<|.n 1000) rfl q
 refine oP (ur (is:=[2]) (body:=gM dn (cK<|k-1)<|.c (.i (.c .g (.v 2)<|.i 0) (.c (.b 1 (.v 2)<|.i 1) .n) .n) .n) (λj σ=>∃lv,σ=⟨[.f<|.l<|nL L,.o<|nL<|ub L j,lv],W⟩) iN L (σ:=⟨[.f<|.l<|nL L,.o<|nL<|ub L 0,.u],W⟩) ⟨.u,rfl⟩
  λj x d σ hI=>by
   obtain⟨lv,rfl⟩:=hI;have c:x<kh L+1:=iP<|q8<|iT d;refine(ou ⟨[.f<|.l<|nL L,.o<|nL<|ub L j,.f<|iN x],W⟩ .n ⟨[.f<|.l<|nL L,.o<|nL<|ub L<|j+1,.f<|iN x],W⟩ ⟨rfl,aL (Vu (cw (ag rfl) eZ<|pJ rfl) (λh=>?_) λh=>?_) bY,rfl,_,rfl⟩)
   .have h:0<x:=aN.1<|dG h;have b:x<(ub L j).length:=by refine Rr C4 ?_;exact c
    have a:(ub L j).length<=aq:=by refine Rr C4 ?_;exact f
    refine aL ((pH rfl (ag rfl) rfl (fu b a) (bc (i:=1)) rfl (yQ (v:=(ub L j).getD x 0+1) b a)).trans ?_) bY;refine bx (λl=>fU (Fl.n,St.mk [.f<|.l<|nL L,.o<|nL l,.f<|iN x] W)) ?_;unfold ub;refine Rr (ik c)<|Rr pf ?_;refine cx λl m=>Rr (tZ d) ?_;by_cases e:l=x
    .subst e;exact Rr (bf rfl)<|Rr (bf rfl)<|Rr (aK<|gk h)<|Rr (aK<|gk h) rfl
    .refine Rr (aK e)<|Rr (aK e) ?_;rfl
   .have h:x=0:=ju λh'=>bq (aN.2 h')<|of_decide_eq_false h;subst h;have:ub L j=ub L (j+1):=cx λl m=>by
     refine Rr (tZ d) ?_;by_cases e:l=0
     .exact Rr (bf e)<|Rr (bf e) rfl
     .refine Rr (aK e)<|Rr (aK e)<|Rr (aK e) ?_;rfl
    refine Rr this ?_;exact bY) λσ e lv Vv=>?_;subst Vv
 have n:ub L 0=ap (kh L+1) 0:=by refine Rr zP<|cx λl m=>by refine Rr List.take_zero<|Rr fm ?_;exact ite_self _
 have o:ub L L.length=ro L:=by unfold ub;refine Rr ig ?_;rfl
 rw[o] at e;exact cX (aX g) rfl rfl rfl rfl<|dM (σ:=⟨[.f<|.l<|nL L,.u,lv],W⟩)<|aL (σ1:=⟨[.f<|.l<|nL L,.o<|nL<|ub L 0,.u],W⟩) (cY (du (iz (bI<|bc (i:=0))<|by decide)
  (aY (cE<|bh (bI<|ag rfl)<|OO (aA g) p) (bc (i:=1)) dE) ((jH f).trans<|by exact Rr n<|Rr tQ rfl)))<|aL (kn (ag rfl) dy e)<|ee rfl<|fh<|sR rfl rfl rfl
end
theorem xg{n i:Nat}:jG n (i:Int)=min i n:=by
 unfold jG;refine Rr (aK<|kS.2<|nn i) ?_;rcases Nat.le_total i n with h|h
 .refine Rr (cu h)<|Rr (Int.min_eq_left<|c8.2 h)<|Rr (pU<|nn i) ?_;rfl
 .refine Rr (ie h)<|Rr (Int.min_eq_right<|c8.2 h)<|Rr (pU<|nn n) ?_;rfl
theorem C1{i:Nat}(h:i<=l.length):wy (.l l) (iN i) .none=fU (.o<|l.drop i):=by show fU (LV.o<|(l.drop<|jG l.length (i:Int)).take<|l.length-jG l.length (i:Int))=_;exact Rr xg<|Rr (cu h)<|Rr (cv<|bC b9) rfl
theorem Ft:wy (.l l) .none (iN i)=fU (.o<|l.take i):=by
 show fU (LV.o<|(l.drop 0).take<|jG l.length (i:Int)-0)=_;refine Rr xg<|Rr jc ?_;rw[lH];rcases Nat.le_total i l.length with h|h
 .exact Rr (cu h) rfl
 .exact Rr (ie h)<|Rr ig<|Rr (cv h) rfl
theorem Nc(h:i<=j)(a:j<=l.length):wy (.l l) (iN i) (iN j)=fU (.o<|(l.drop i).take<|j-i):=by show fU (LV.o<|(l.drop<|jG l.length (i:Int)).take<|jG l.length (j:Int)-jG l.length (i:Int))=_;exact Rr xg<|Rr xg<|Rr (cu<|ao h a)<|Rr (cu a) rfl
theorem Ao(h:i<=l.length):wy (.l<|nL l) (iN i) .none=fU (.o<|nL<|l.drop i):=by exact Rr (C1<|ao h<|bC (av ..).symm)<|Rl ku rfl
theorem Gn:wy (.l<|nL l) .none (iN i)=fU (.o<|nL<|l.take i):=Rr Ft<|Rl f9 rfl
theorem Vf(h:a<2^64):iJ .m (iN a) (.i r)=fU (.f<|.i<|a*r):=by show(gd (small a)<|fU<|(a:Int)*r).map (λi=>LV.f<|.i i)=_;refine Rr (we<|wJ h) ?_;rfl
section
variable{k:Nat}{W:Wd}{L:List Nat}
noncomputable def room(l:List Nat)(r:Int):Int:=l.foldl (λr (t:Nat)=>2*r-t) r
theorem oH:(ro L).length=kh L+1:=cO
theorem QY(a:2<k)(b:L.length<aq)(c:kh L<1000):cK k 152 [.l<|nL L] W=fU (.f<|.i<|room ((ro L).drop 1) 1,W):=by
 refine rX (xE (is:=[2]) (body:=gM dn (cK<|k-1)<|.c (.a 1<|.b .s (.b .m (.i 2)<|.v 1)<|.v 2) .n) (λr lv=>⟨[.f<|.l<|nL L,.f<|.i r,lv],W⟩) iN (λr t=>2*r-t) (l:=(ro L).drop 1) (x:=1) (lv:=.u)
  λr lv t d=>(ou _ .n (.f<|iN t) ⟨rfl,aL (cY<|du (aY (bc (i:=2)) (ag rfl)<|Vf<|by decide) (ag rfl) CD) bY,rfl⟩)) λlv e=>?_
 rw[ku] at e;exact cX (aX a) rfl rfl rfl rfl<|dM (σ:=⟨[.f<|.l<|nL L,.f<|.i<|room ((ro L).drop 1) 1,lv],W⟩)<|aL (σ1:=⟨[.f<|.l<|nL L,.f<|.i 1,.u],W⟩) rfl<|
  aL (kn (de (o5 (de (bh (bI<|ag rfl)<|Xl (aA a) b c) rfl) (bc (i:=1)) rfl (C1<|by refine Rr jA<|Rr oH ?_;exact kC ..)) rfl) dy e)<|ee rfl<|fh<|tJ rfl
theorem Sk(a:3<k)(b:L.length<aq)(c:kh L<1000)(h:0<=room ((ro L).drop 1) 1):cK k 159 [.l<|nL L] W=fU (.f<|.c Z7,W):=
 cX (aX a) rfl rfl rfl rfl<|dM (σ:=⟨[.f<|.l<|nL L],W⟩)<|ee rfl<|fh<|EQ (de (bh (bI<|ag rfl)<|QY (aA a) b c) rfl) eZ<|pG<|Wq<|kS.2 h
noncomputable def fc(t:List Nat):Nat->Nat
 |0=>0
 |i+1=>2*(fc t i+t.getD i 0)
noncomputable def MR(t:List Nat)(j:Nat):List Nat:=(ay t.length).map λi=>if i<=j then fc t i else 0
theorem xW(h:fr (bQ O e σ)=fU (iN x,σ1))(ho:t9 σ1 v=Z8)(hi:fr (bQ O i σ1)=fU (iN j,σ2))(c:σ2.1[v]?=fU (.o<|nL L))(a:j<L.length)(b:L.length<=aq):
  ph N O (.s v i e) σ=fU (.n,σ2.set v<|.o<|nL<|L.set j x):=pz h ho hi c<|yQ a b
theorem Lz(y:0<k)(q:0<t.length)(A:t.length<1000):cK k 166 [.l<|nL t] W=fU (.o<|nL<|(ay t.length).map<|fc t,W):=by
 have g:t.length<=aq:=by unfold aq;exact dL .A (.n 1048576) (.z (.s .A)<|.n 1000) rfl A
 refine oP (ur (is:=[2]) (body:=gM dn (cK<|k-1)<|.c (.s 1 (.v 2)<|.b .m (.i 2)<|.b .a (.k 1<|.b .s (.v 2)<|.i 1)<|.s (.v 0)<|.b .s (.v 2)<|.i 1) .n) (λj σ=>∃lv,σ=⟨[.f<|.l<|nL t,.o<|nL<|MR t j,lv],W⟩) iN (cA 1<|t.length-1) (σ:=⟨[.f<|.l<|nL t,.o<|nL<|MR t 0,.u],W⟩) ⟨.u,rfl⟩
  λj x f σ hI=>by
   obtain⟨lv,rfl⟩:=hI;obtain⟨r,f⟩:=bp.1 f;rw[List.getElem_range',jO] at f;rw[kU] at r;have f:x=j+1:=aj (c9 .A (.s .B) (.z .A<|.a .i .B) rfl (eg f))<|c9 (.s .A) .B (.z (.a .i .A) .B) rfl (el f);subst f;have m:j+1<t.length:=dT (.s<|.s .A) .B (.o (.s .A) .C<|.z (.s .C) .B) rfl r (el<|ac<|dL .i .A (.z (.s<|.n 0) .A) rfl q);have d:j<t.length:=Nat.lt_of_succ_lt m;have o:(MR t j).length=t.length:=cO;have s:iJ .s (iN<|j+1) (iN 1)=fU (.f<|iN j):=jf<|cR j 1;refine(ou ⟨[.f<|.l<|nL t,.o<|nL<|MR t j,.f<|iN<|j+1],W⟩ .n ⟨[.f<|.l<|nL t,.o<|nL<|MR t<|j+1,.f<|iN<|j+1],W⟩ ⟨rfl,aL ((xW (L:=MR t j) (aY (bc (i:=2)) (aY (Bf rfl (aY (ag rfl) (bc (i:=1)) s) rfl (fu (o▸d)<|o▸g)) (cQ (ag rfl) (aY (ag rfl) (bc (i:=1)) s)<|fu d g) dE)<|m4<|by decide) rfl (ag rfl) rfl (o▸m) (o▸g)).trans ?_) bY,rfl,_,rfl⟩);refine bx (λl=>fU (Fl.n,St.mk [.f<|.l<|nL t,.o<|nL l,.f<|iN<|j+1] W)) ?_;unfold MR;refine Rr (ik d)<|Rr (bf<|ba j)<|Rr pf ?_;refine cx λi B=>?_;by_cases h:i=j+1
   .subst h;refine Rr (bf rfl)<|Rr (bf<|ba _) ?_;rfl
   .refine Rr (aK h) ?_;by_cases h':i<=j
    .exact Rr (bf h')<|Rr (bf<|jE h') rfl
    .exact Rr (aK h')<|Rr (aK λw=>h'<|c7<|og w h) rfl) λσ e lv Ws=>?_;subst Ws
 have u:MR t 0=ap t.length 0:=by
  refine Rr zP<|cx λi B=>by
   cases i with
   |zero=>rfl
   |succ i=>exact aK<|Nat.not_succ_le_zero i
 have v:MR t (cA 1<|t.length-1).length=(ay t.length).map (fc t):=by refine Rr kU<|cx λi hi=>bf<|Nat.le_sub_one_of_lt<|a9.1 hi
 rw[v] at e;have p:=Ck (a:=1) (b:=t.length) (c:=1) (n:=t.length-1) (.inl rfl) (by decide) g (by exact c9 .A (.a .i<|.m 1 .B) (.z .A<|.s .B) rfl (ck _ _));have p:=p (by exact c9 (.s<|.a .i<|.m 1 .A) (.s .B) (.z (.s .A) .B) rfl (el<|ac<|dL .i .A (.z (.s<|.n 0) .A) rfl q));refine rX (uo p) λn z=>cX y rfl rfl rfl rfl<|dM (σ:=⟨[.f<|.l<|nL t,.u,lv],W⟩)<|aL (σ1:=⟨[.f<|.l<|nL t,.o<|nL<|MR t 0,.u],W⟩) (cY<|du (iz (bI<|bc (i:=0))<|by decide) (eL (bI<|ag rfl) gH rfl)<|(jH g).trans<|by exact Rr u<|Rr tQ rfl)<|
  aL (kn (eL (eK eZ<|eL (bI<|ag rfl) gH rfl) (rF z _ rfl) rfl) p e)<|ee rfl<|fh<|sR rfl rfl rfl
end
section
variable{k:Nat}{W:Wd}{L:List Nat}
noncomputable def i4(L:List Nat)(s:Nat):Nat:=if 0<L.getD s 0 then fc (ro L) (L.getD s 0)+(L.take s).count (L.getD s 0) else 0
noncomputable def DN(L:List Nat)(j:Nat):List Nat:=(ay<|kh L+1).map λl=>fc (ro L) l+(L.take j).count l
noncomputable def uJ(L:List Nat):List Nat:=(ay L.length).map<|i4 L
theorem OA(d:4<k)(o:L.length<aq)(f:kh L<900)(h:0<=room ((ro L).drop 1) 1):cK k 173 [.l<|nL L] W=fU (.o<|nL<|uJ L,W):=by
 have u:kh L+1<=aq:=by unfold aq;exact dL (.s .A) (.n 1048576) (.z (.s .A)<|.n 900) rfl f
 obtain⟨σ,e,lv,rfl⟩:=ur (is:=[3]) (body:=gM dn (cK<|k-1)<|.c (.d 2<|.p (.c .g (.v 3)<|.i 0) (.k 1<|.v 3)<|.i 0)<|.c (.b 1 (.v 3)<|.i 1) .n) (λj σ=>∃lv,σ=⟨[.f<|.l<|nL L,.o<|nL<|DN L j,.o<|nL<|(ay j).map<|i4 L,lv],W⟩) iN L (σ:=⟨[.f<|.l<|nL L,.o<|nL<|DN L 0,.o [],.u],W⟩) ⟨.u,rfl⟩
  λj x g σ hI=>by
   obtain⟨lv,rfl⟩:=hI;have c:x<kh L+1:=iP<|q8<|iT g;have hB:(DN L j).length=kh L+1:=cO;have a:x<(DN L j).length:=hB▸c;have b:(DN L j).length<=aq:=hB▸u;have q:(DN L j).getD x 0=fc (ro L) x+(L.take j).count x:=ik c;have n:L.getD j 0=x:=by refine Rr al<|Rr g ?_;rfl
   have m:j<L.length:=(bp.1 g).1
   let S:List LV:=[.f<|.l<|nL L,.o<|nL<|DN L j,.o<|nL<|(ay j).map<|i4 L,.f<|iN x]
   have s:fr (bQ (cK<|k-1) (.p (.c .g (.v 3)<|.i 0) (.k 1<|.v 3)<|.i 0) ⟨S,W⟩)=fU (iN<|i4 L j,⟨S,W⟩):=by
    unfold i4;refine Rr n ?_;rcases jr x with h|h
    .refine Rr (aK<|eU.2<|bC h) ?_;exact(bx fr<|rm (cw (ag rfl) eZ<|pJ<|Wq λh'=>bq (aN.1 h')<|eU.2<|bC h) rfl).trans rfl
    .refine Rr (bf h) ?_;exact(bx fr<|pM (cw (ag rfl) eZ<|pJ<|bT<|aN.2 h) rfl).trans<|Bf rfl (ag rfl) rfl ((fu a b).trans<|Rr q rfl)
   refine(ou ⟨S,W⟩ .n ⟨[.f<|.l<|nL L,.o<|nL<|DN L<|j+1,.o<|nL<|(ay<|j+1).map<|i4 L,.f<|iN x],W⟩ ⟨rfl,aL (σ1:=⟨[.f<|.l<|nL L,.o<|nL<|DN L j,.o<|nL<|(ay<|j+1).map<|i4 L,.f<|iN x],W⟩) ((py rfl s rfl ?_).trans ?_)<|aL ((pH rfl (ag rfl) rfl (fu a b) (bc (i:=1)) rfl (yQ (v:=(DN L j).getD x 0+1) a b)).trans ?_) bY,rfl,_,rfl⟩)
   .refine Rr jA<|Rr cO ?_;exact bw m o
   .refine bx (λl=>fU (Fl.n,St.mk [.f<|.l<|nL L,.o<|nL<|DN L j,.o l,.f<|iN x] W)) ?_;refine Rr iH<|Rr aC ?_;exact BA.symm
   .refine bx (λl=>fU (Fl.n,St.mk [.f<|.l<|nL L,.o<|nL l,.o<|nL<|(ay<|j+1).map<|i4 L,.f<|iN x] W)) ?_;refine Rr q ?_;unfold DN;refine Rr pf<|cx λl w=>Rr (tZ g) ?_;by_cases e:l=x
    .subst e;refine Rr (bf rfl)<|Rr (bf rfl) ?_;rfl
    .refine Rr (aK e)<|Rr (aK e) ?_;rfl
 have r:DN L 0=(ay (ro L).length).map (fc<|ro L):=by refine Rr oH<|cx λl w=>by refine Rr List.take_zero<|Rr fm ?_;rfl
 have p:=Lz (k:=k-1) (W:=W) (t:=ro L) (c9 (.s<|.n 0) .A (.o (.s<|.n 4) .B<|.z .B<|.s .A) rfl d (ck _ _)) (by refine Rr oH ?_;exact iQ _) (by refine Rr oH ?_;exact dL (.s<|.s .A) (.n 1000) (.z (.s .A)<|.n 900) rfl f);rw[<-r] at p;exact cX (aX d) rfl rfl rfl rfl<|dM (σ:=⟨[.f<|.l<|nL L,.o<|nL<|DN L L.length,.u,lv],W⟩)<|aL (fg (wr (de (bh (bI<|ag rfl)<|Sk (aA d) o (bw f<|by decide) h) rfl) rfl) bY)<|
  aL (σ1:=⟨[.f<|.l<|nL L,.o<|nL<|DN L 0,.u,.u],W⟩) (cY<|bh (bI<|de (bh (bI<|ag rfl)<|Xl (aA<|bw (by decide) d) o<|bw f<|by decide) rfl) p)<|
  aL (σ1:=⟨[.f<|.l<|nL L,.o<|nL<|DN L 0,.o [],.u],W⟩) rfl<|aL (kn (ag rfl) dy e)<|ee rfl<|fh<|sR rfl rfl rfl
noncomputable def xY(L:List Nat):List Nat:=(ay L.length).map λs=>tb (i4 L s)<|L.getD s 0
noncomputable def vw(L:List Nat):PV:=.f 195 [.l<|nL L,.l<|nL<|xY L]
theorem K8(i:5<k)(j:L.length<aq)(m:kh L<=64)(h:0<=room ((ro L).drop 1) 1):cK k 195 [.l<|nL L] W=fU (.f<|vw L,W):=by
 have d:L.length<=aq:=be j;have c:L.length=(uJ L).length:=cO.symm
 let σ1:St:=⟨[.m,.f<|.l<|nL L,.f<|.l<|nL L,.u,.u,.u],W⟩
 let S:Bool×LV->St:=λx=>⟨[.m,.f<|.l<|nL L,.f<|.l<|nL L,.u,bif x.1 then .o (nL<|uJ L) else .f<|.l<|nL<|uJ L,x.2],W⟩
 obtain⟨lv,e⟩:=n6 (is:=[5]) (body:=λσ=>qV (lK (cK<|k-1) Z7 .n σ)<|bQ (cK<|k-1)<|.c 68<|.c (.s (.v 4)<|.v 5)<|.c (.s (.v 1)<|.v 5) .n) S iN (λs=>[iN<|tb (i4 L s)<|L.getD s 0]) (l:=ay L.length) (lv:=(Z8,.u)) λlv s a=>by
  have a:s<L.length:=a9.1 a;refine(ff (S (lv.1,.f<|iN s)) (Z7,.f<|iN s) ⟨rfl,xt rfl (cE<|bh (σ1:=S (Z7,.f<|iN s)) (eK (cQ (e9 (lv:=bif lv.1 then .o (nL<|uJ L) else .f<|.l<|nL<|uJ L) rfl (by cases lv.1<;>rfl) rfl) (ag rfl)<|(fu (c▸a)<|c▸d).trans<|by unfold uJ;exact Rr (ik a) rfl)<|cQ (ag rfl) (ag rfl)<|fu a d)<|QP (aA<|bw (by decide) i) ?_)⟩);refine ao (q8 ?_) m;refine Rr al<|Rr (aI a) ?_;exact ib a
 rw[<-List.map_eq_flatMap,show(ay L.length).map (λs=>iN<|tb (i4 L s)<|L.getD s 0)=nL (xY L) from (bM (f:=λs=>tb (i4 L s)<|L.getD s 0) (g:=iN)).symm] at e;have n:=jj (b:=L.length) rfl d;exact Bq (σ:=⟨[.m,.f<|.l<|nL L,.f<|.l<|nL L,.f<|.l<|nL<|xY L,bif lv.1 then .o (nL<|uJ L) else .f<|.l<|nL<|uJ L,.u],W⟩) (aX i) rfl rfl rfl rfl (aL (σ1:=σ1) (jD (de (lN (bI<|ag rfl) rfl) rfl) rfl)<|
  aL (σ1:=S (Z8,.u)) (cY<|bh (bI<|ag rfl)<|OA (aA i) j (dL (.s .A) (.n 900) (.z .A<|.n 64) rfl m) h)<|aL (jD (de (AC (eL (bI<|eL (bI<|ag rfl) gH rfl) (i9 n) rfl) n e<|ao (bC<|jA.trans cO) d) rfl) rfl) bY) rfl
noncomputable def ft(L:List Nat)(s:Nat):List Bool:=(cM (i4 L s)<|L.getD s 0).reverse
theorem J9(g:2<k)(f:L.length<=aq)(h:0<L.getD s 0)(a:L.getD s 0<64)(i:W.1=fU (fQ bs))(j:bs.length+64<=aq):cK k 192 [vw L,.o,iN s] W=fU (.f .none,wB W<|fQ<|bs++ft L s):=by
 have b:s<L.length:=b8 λh'=>by rw[al,ch h'] at h;exact bq h<|cB 0
 have n:s<(xY L).length:=by unfold xY;refine Rr cO ?_;exact b
 have m:(xY L).getD s 0=tb (i4 L s) (L.getD s 0):=ik b;have d:∀{O:jU},fr (bQ O (.d (.v 0) 195 0) ⟨[.f<|vw L,.f .o,.f<|iN s],W⟩)=fU (.l<|nL L,⟨[.f<|vw L,.f .o,.f<|iN s],W⟩):=gI (ag rfl) rfl;have e:=MB (k:=k-1) (W:=W) (bs:=bs) (aA g) (P7 (v:=i4 L s) (c:=L.getD s 0)) a i<|dT (.a .A .B) .C (.o (.s .B) (.n 64)<|.z (.p .A 64) .C) rfl a j;rw[show cM (tb (i4 L s)<|L.getD s 0) (L.getD s 0)=ft L s by have h:=FD (l:=(cM (i4 L s)<|L.getD s 0).reverse);rwa [gZ,a8] at h] at e
 exact cX (aX g) rfl rfl rfl rfl<|pe (σ:=⟨[.f<|vw L,.f .o,.f<|iN s],wB W<|fQ<|bs++ft L s⟩)<|
  aL (σ1:=⟨[.f<|vw L,.f .o,.f<|iN s],W⟩) (fg (rz (fq (cw (ag rfl) eZ<|pG<|Wq<|kS.2<|jo s) (fq (cw (ag rfl) (eL (bI d) gH rfl)<|Aw<|Wq λh'=>bq (c8.1 h')<|lY.2 b)
   (fq (cw (cQ d (ag rfl)<|fu b f) eZ<|o8<|Wq λh'=>bq (b7.1 h')<|gk h) iA)))) bY)<|
  aL (j6<|i6 (ag rfl) (eK (cQ (gI (ag rfl) rfl) (ag rfl)<|(fu n<|by unfold xY;refine Rr cO ?_;exact f).trans<|Rr m rfl)<|cQ d (ag rfl)<|fu b f) (nw i) e rfl) bY
end
theorem sr{α β ι:Type}{body:St->Option (Fl×St)}(P:β->Prop)(S:β->α->St)(f:ι->PV)(b:β->ι->β){l:List ι}:∀{x:β} {lv:α},P x->
  (∀y lv,P y->∀i∈l,∃σ1 j a,qU is (f i) (S y lv)=fU σ1/\body σ1=fU (j,S (b y i) a)/\(BR j).isSome=Z7/\P (b y i))->∃a,oy is body (l.map f) (S x lv)=fU (.n,S (l.foldl b x) a)/\P (l.foldl b x):=by
 induction l with
 |nil=>exact λ{uu lv} d uu=>⟨lv,rfl,d⟩
 |cons i l m=>intro x lv d h;refine ak λn=>xi (h x lv d i<|.head _) λσ1 j pq ha hb hf hP'=>bO (m (x:=b x i) (lv:=pq) hP' λy lv k q g=>h y lv k q<|.tail _ g) λa e c=>n<|⟨a,lm ha hb hf e,c⟩
noncomputable def BU(x:Nat):Nat×Bool:=(x,Z7)
noncomputable def tk(l:Nat)(P:List Nat):List Nat:=P.takeWhile (·<l)
noncomputable def yV:List Nat->List Nat->List (Nat×Bool)×List Nat
 |[],P=>([],P)
 |l::ls,P=>((tk l P).map BU++(l,Z8)::(yV ls<|P.drop (tk l P).length).1,(yV ls<|P.drop (tk l P).length).2)
noncomputable def mg(L P:List Nat):List<|Nat×Bool:=(yV L P).1++(yV L P).2.map BU
noncomputable abbrev bL(l:List Bool):List PV:=l.map .c
section
variable{k:Nat}{W:Wd}{L P:List Nat}
noncomputable def mS(L P:List Nat)(W:Wd)(acc:List<|Nat×Bool)(pl:Nat)(lv:LV):St:=⟨[.f<|.l<|nL L,.f<|.l<|nL P,.o<|nL<|acc.map (·.1),.o<|bL<|acc.map (·.2),.f<|iN pl,lv,.u],W⟩
theorem Ki(h:fr (bQ O e<|mS L P W acc pl lv)=fU (iN x,mS L P W acc pl lv))(c:acc.length<aq)(a:gM N O r (mS L P W (acc++[(x,b)]) pl lv)=out):
  gM N O (.c (.d 2 e)<|.c (.d 3<|.h b) r) (mS L P W acc pl lv)=out:=by
 have d:nL ((acc++[(x,b)]).map (·.1))=nL (acc.map (·.1))++[iN x]:=by refine Rr aC ?_;exact BA
 have f:bL ((acc++[(x,b)]).map (·.2))=bL (acc.map (·.2))++[.c b]:=by refine Rr aC ?_;exact aC
 unfold mS at a;rw[d,f] at a;exact aL (py rfl h rfl (by refine Rr jA ?_;rw[av];exact c))<|aL (py rfl rfl rfl (by rw[av,av];exact c)) a
noncomputable abbrev Xc:Te:=.a<|.c (.c .l (.v 4)<|.a 0<|.c (.v 1) .n)<|.c (.c .l (.s (.v 1)<|.v 4)<|.v 5) .n
noncomputable abbrev WH:iX:=.c (.d 2<|.s (.v 1)<|.v 4)<|.c (.d 3<|.h Z7)<|.c (.j .a 4<|.i 1) .n
theorem Vi(n:P.length<=aq):∀(rest:List Nat) (acc:List<|Nat×Bool) (pl:Nat),P.drop pl=rest->pl<=P.length->acc.length+rest.length<=aq->∀N,rest.length<N->
  iC (jJ O Xc) (gM dn O WH) N (mS L P W acc pl<|.f<|iN l)=fU (.n,mS L P W (acc++(tk l rest).map BU) (pl+(tk l rest).length)<|.f<|iN l):=by
 intro rest;induction rest with
 |nil=>
  intro acc pl hd k f N;cases N with
  |zero=>intro c;exact bq c<|cn _
  |succ N=>intro _;have j:P.length<=pl:=jQ.1 hd;refine Rr (show tk l []=[] from rfl)<|Rr dP ?_;rw[bn];exact jk<|kj<|gi<|cw (ag rfl) (eL (bI<|ag rfl) gH rfl)<|pG<|Wq λh=>bq (aN.1 h)<|eU.2 j
 |cons x rest d=>
  intro acc pl hd k f N;cases N with
  |zero=>intro c;exact bq c<|cn _
  |succ N=>
   intro c;have a:pl<P.length:=b8 λh=>by rw[hY h] at hd;injection hd
   have p:P.getD pl 0=x:=by have:=jv a;rw[hd] at this;refine Rr al<|Rr (aI a) ?_;exact(jz.inj this).1
   have g:P.drop (pl+1)=rest:=by have:=jv a;rw[hd] at this;exact(jz.inj this).2
   have m:∀{s},s=mS L P W acc pl (.f<|iN l)->jJ O (.c .l (.v 4)<|.a 0<|.c (.v 1) .n) s=fU (Z8,mS L P W acc pl<|.f<|iN l):=λe=>by
    subst e;exact cw (ag rfl) (eL (bI<|ag rfl) gH rfl)<|pG<|bT<|aN.2 a
   have o:mU (.l<|nL P) (iN pl)=fU (iN x):=(fu a n).trans<|Rr p rfl;have b:fr (bQ O (.s (.v 1)<|.v 4)<|mS L P W acc pl<|.f<|iN l)=fU (iN x,mS L P W acc pl<|.f<|iN l):=cQ (ag rfl) (ag rfl) o;by_cases h:x<l
   .have e:tk l (x::rest)=x::tk l rest:=gr<|bT h;have d:=d (acc++[(x,Z7)]) (pl+1) g a (by refine Rr af ?_;show acc.length+1+rest.length<=aq;rw[bZ,cR 1];exact f) N<|bX c;rw[au,bZ,cR 1] at d;refine Rr e<|qL (kj<|fq (m rfl)<|fq (cw b (ag rfl)<|pG<|bT<|aN.2 h) iA) (Ki b (bG (Nat.lt_add_of_pos_right<|iQ _) f)<|aL (nS rfl (bc (i:=1)) rfl rfl) bY) rfl d
   .have e:tk l (x::rest)=[]:=gu λh'=>h<|dG h';refine Rr e<|Rr dP ?_;rw[bn];exact jk<|kj<|fq (m rfl)<|gi<|cw b (ag rfl)<|pG<|Wq λh'=>h<|aN.1 h'
theorem K7:(tk l P).length<=P.length:=(iw _).length_le
theorem v6:(P.drop (tk l P).length).length+(tk l P).length=P.length:=by refine Rr b9 ?_;exact ac K7
noncomputable abbrev mgF:iX:=.c (.w Xc WH)<|.c (.d 2<|.v 5)<|.c (.d 3<|.h Z8) .n
theorem KG(i:P.length<=aq):∀(f:List Nat) (acc:List<|Nat×Bool) (pl:Nat) (lv:LV),pl<=P.length->acc.length+f.length+(P.drop pl).length<=aq->P.length<dn->
  ∃c a,oy [5] (gM dn O mgF) (nL f) (mS L P W acc pl lv)=fU (.n,mS L P W (acc++(yV f<|P.drop pl).1) a c)/\P.drop a=(yV f<|P.drop pl).2/\a<=P.length
 |[]=>λacc pl lv b o o=>(ff lv pl ⟨by refine Rr (show(yV []<|P.drop pl).1=[] from rfl) ?_;rw[bn];rfl,rfl,b⟩)
 |l::f=>λacc pl lv b d j=>by
  have k:=v6 (l:=l) (P:=P.drop pl);have n:=Vi (W:=W) (L:=L) (O:=O) (l:=l) i (P.drop pl) acc pl rfl b (by rw[aV] at d;exact gy (.a .A .B) .C (.z (.a (.a .A<|.s .D) .B) .C) rfl d) dn (aW (by refine Rr b9 ?_;exact bk ..) j);have g:pl+(tk l<|P.drop pl).length<=P.length:=by have:=K7 (l:=l) (P:=P.drop pl);rw[b9] at this;exact gy (.a .A .B) .C (.o .B .D<|.z (.a .D .A) .C) rfl this (el<|ac<|b)
  refine cU (KG (O:=O) i f (acc++(tk l<|P.drop pl).map BU++[(l,Z8)]) (pl+(tk l<|P.drop pl).length) (.f<|iN l) g (by refine Rr af<|Rr af ?_;rewrite[av];refine Rl jd<|Rr dD ?_;rw[aV] at d;exact vd (.a (.a (.s<|.a .A .B) .C) .D) .E (.o (.a (.a .A<|.s .C) .F) .E<|.z (.a .D .B) .F) rfl d (el k)) j) λc a e h m=>?_
  rw[<-jd,au (_++_) [_],au acc _<|_++_] at e;rw[<-jd] at h;refine(ff c a ⟨lm (σ1:=mS L P W acc pl<|.f<|iN l) rfl (aL (pp n)<|Ki (ag rfl) ?_ bY) rfl ?_,h,m⟩)
  .refine Rr af ?_;rw[av];rw[aV] at d;exact vd (.s<|.a .A .B) .C (.o (.a (.a .A<|.s .D) .E) .C<|.z (.a .F .B) .E) rfl d (el k)
  .exact e
theorem QC:ap n (PV.c Z7)=bL (ap n Z7):=im.symm
theorem Gk:∀{L P:List Nat},(yV L P).1.length+(yV L P).2.length=L.length+P.length:=by
 intro L;induction L with
 |nil=>intro P;show 0+P.length=_;rfl
 |cons l ls a=>intro P;have h:=a (P:=P.drop (tk l P).length);have:=v6 (l:=l) (P:=P);refine Rr af ?_;rewrite[av];refine Rr aV<|Rr aV ?_;exact aj (vd (.a (.a .A<|.s .B) .C) (.a (.s .D) .E) (.o (.a .B .C) (.a .D .F)<|.z (.a .F .A) .E) rfl (el h) (el this))<|vd (.a (.s .A) .B) (.a (.a .C<|.s .D) .E) (.o (.a .A .F) (.a .D .E)<|.z .B<|.a .F .C) rfl (eg h) (eg this)
theorem uc:(mg L P).length=L.length+P.length:=by unfold mg;refine Rr af ?_;rewrite[av];exact Rr Gk rfl
theorem K2(i:0<k)(h:L.length+P.length<1000):cK k 206 [.l<|nL L,.l<|nL P] W=fU (.f<|.a [.l<|nL<|(mg L P).map (·.1),.l<|bL<|(mg L P).map (·.2)],W):=by
 have g:P.length<=aq:=by unfold aq;exact c9 .A (.n 1048576) (.z (.s<|.a .B .A)<|.n 1000) rfl h
 have hS:L.length+P.length<=aq:=by unfold aq;exact c9 (.a .A .B) (.n 1048576) (.z (.s<|.a .A .B)<|.n 1000) rfl h
 refine cU (KG (O:=cK<|k-1) (W:=W) (L:=L) g L [] 0 .u (bS _) (by refine Rr d0 ?_;rewrite[bA];refine Rr jc ?_;exact hS)<|by unfold dn;exact c9 (.s .A) (.n 100000) (.z (.s<|.a .B .A)<|.n 1000) rfl h) λlv pl e a d=>?_;rw[jc] at e a;have b:((yV L P).1.map (·.1)).length+(P.drop pl).length<=aq:=by have:=Gk (L:=L) (P:=P);refine Rr a ?_;rw[av];exact ao (el this) hS
 have c:(bL<|(yV L P).1.map (·.2)).length+(bL<|ap (P.drop pl).length Z7).length<=aq:=by rw[av] at b;rewrite[av,av,av];refine Rr bD ?_;exact b
 have j:(P.drop pl).length<=aq:=ao (kC ..) b
 let σ:St:=⟨[.f<|.l<|nL L,.f<|.l<|nL P,.o<|nL<|(yV L P).1.map (·.1),.o<|bL<|(yV L P).1.map (·.2),.f<|iN pl,lv,.o<|nL<|P.drop pl],W⟩
 let σ1:St:=⟨[.f<|.l<|nL L,.f<|.l<|nL P,.f<|.l<|nL<|(yV L P).1.map (·.1),.o<|bL<|(yV L P).1.map (·.2),.f<|iN pl,lv,.f<|.l<|nL<|P.drop pl],W⟩
 let σ2:St:=⟨[.f<|.l<|nL L,.f<|.l<|nL P,.f<|.l<|nL<|(yV L P).1.map (·.1),.f<|.l<|bL<|(yV L P).1.map (·.2),.f<|iN pl,lv,.f<|.l<|nL<|P.drop pl],W⟩
 have m:nL ((mg L P).map (·.1))=nL ((yV L P).1.map (·.1))++nL (P.drop pl):=by unfold mg;refine Rr aC<|Rl a ?_;show pR iN (_++_)=_;refine Rr aC<|Rr (bM (f:=BU)) ?_;exact bx (λl=>nL ((yV L P).1.map (·.1))++nL l)<|List.map_id _
 have n:bL ((mg L P).map (·.2))=bL ((yV L P).1.map (·.2))++bL (ap (P.drop pl).length Z7):=by unfold mg;refine Rr aC<|Rl a ?_;show pR PV.c (_++_)=_;refine Rr aC<|Rr (bM (f:=BU))<|Rl gX ?_;rfl
 refine Rr m<|Rr n ?_;refine cX i rfl rfl rfl rfl<|dM (σ:=σ2)<|aL (σ1:=⟨[.f<|.l<|nL L,.f<|.l<|nL P,.o [],.u,.u,.u,.u],W⟩) rfl<|aL (σ1:=⟨[.f<|.l<|nL L,.f<|.l<|nL P,.o [],.o [],.u,.u,.u],W⟩) rfl<|
  aL (σ1:=mS L P W [] 0 .u) rfl<|aL (kn (ag rfl) dy e)<|aL (σ1:=σ) (cY (σ1:=mS L P W ([]++(yV L P).1) pl lv)<|o5 (ag rfl) (ag rfl) rfl (Ao d))<|
  ee rfl<|fh<|i7 (eK (oM (e9 (σ:=σ) rfl rfl rfl) (e9 (σ1:=σ1) rfl rfl rfl)<|qh<|by refine Rr jA<|Rr jA ?_;exact b)
   (oM (e9 (σ:=σ1) (σ1:=σ2) rfl rfl rfl) (oM (iz (bI (p:=.c Z7) rfl)<|by decide) (eL (bI<|ag rfl) gH rfl)<|(jH j).trans<|Rr QC rfl)<|qh c)) (ai rfl)
end
noncomputable def yK(w:List Nat):List Nat:=(ay<|w.length/2).map λi=>w.getD (2*i) 0+w.getD (2*i+1) 0
noncomputable def pk(L:List Nat):Nat->List Nat
 |0=>[]
 |j+1=>yK<|(mg L<|pk L j).map (·.1)
noncomputable def row(L:List Nat)(j:Nat):List Bool:=(mg L<|pk L j).map (·.2)
section
variable{k:Nat}{W:Wd}{L:List Nat}
theorem n4:(yK w).length=w.length/2:=cO
theorem Ls:∀{j:Nat},(pk L j).length<=L.length:=by
 intro j;induction j with
 |zero=>exact bS _
 |succ j a=>have h:=a;refine Rr n4 ?_;rewrite[av];refine Rr uc<|Ch 2 .A .B (.o .C .B<|.z (.m 2 .A)<|.a .B .C) rfl h (aQ _ _)
theorem rd{l:List ι}:nL (l.map f)=l.map λi=>iN<|f i:=bM
noncomputable def oO(L:List Nat)(j:Nat):List PV:=(ay j).map λi=>.l<|bL<|row L i
theorem Lk{w:List Nat}(q:0<w.length)(k:w.length<=aq)(m:σ.1[5]?=fU (.f<|.l<|nL w))(o:σ.1[7]?=fU .u):
  bQ O (.o (.b .a (.s (.v 5)<|.v 7)<|.s (.v 5)<|.b .a (.v 7)<|.i 1) [7] (.a 1<|.c (.i 0)<|.c (.b .s (.a 0<|.c (.v 5) .n)<|.i 1)<|.c (.i 2) .n) .n) σ=fU (.o<|nL<|yK w,σ):=by
 have s:=Ck (a:=0) (b:=w.length-1) (c:=2) (n:=w.length/2) (.inr rfl) (bS _) (ao (bk ..) k) (dT .A (.a (.n 0)<|.m 2 .B) (.o (.s .C) (.p (.m 2 .B) 2)<|.z (.s .A) .C) rfl (wL rfl) (el<|ac<|dL .i .A (.z (.s<|.n 0) .A) rfl q))<|dT (.s<|.a (.n 0)<|.m 2 .A) (.p .B 2) (.o (.m 2 .A) .C<|.z .C<|.s .B) rfl (aQ _ _) (ck _ _);have j:f8 (.r (0:Nat) (w.length-1:Nat) (2:Nat))=fU ((ay<|w.length/2).map λi=>iN<|2*i):=by refine Rr s<|bx fU (j0 (by rewrite[av,av];exact Rr kU<|Rr bR rfl) λi t u=>?_);rw[fZ,fZ,List.getElem_range',io,bA]
 refine rX (uo j) λn r=>?_;have d:∀p,(σ.set 7<|.f p).1[5]?=fU (.f<|.l<|nL w):=λp=>by
  refine Rr (eD<|by decide) ?_;exact m
 have h:∀p,(σ.set 7<|.f p).1[7]?=fU (.f p):=λp=>by
  exact Rr (fy (bp.1 o).1) rfl
 have e:=BD (O:=O) (σ:=σ) (i:=7) (f:=λi=>iN<|2*i) (l:=ay<|w.length/2) (g:=λi=>iN<|w.getD (2*i) 0+w.getD (2*i+1) 0) (elt:=.b .a (.s (.v 5)<|.v 7)<|.s (.v 5)<|.b .a (.v 7)<|.i 1)
  (eL (jM (bc (i:=0)) (aY (eL (bI<|ag m) gH rfl) (bc (i:=1))<|jf (c:=w.length-1)<|aj (c9 .A (.a .i .B) (.z .A<|.s .B) rfl (ck _ _))<|c9 (.a .i .A) .B (.z (.s .A) .B) rfl (el<|ac<|dL .i .A (.z (.s<|.n 0) .A) rfl q))<|bc (i:=2)) (rF r _ rfl) rfl) j o (by refine Rr bR ?_;exact ao (kG ..) k)
  λi hi=>by
   have hi:i<w.length/2:=a9.1 hi;exact aY (cQ (ag<|d _) (ag<|h _)<|fu (dT (.s<|.m 2 .A) .B (.c 2 (.s .A) .C<|.z (.m 2 .C) .B) rfl hi (aQ _ _)) k) (cQ (ag<|d _) (aY (ag<|h _) (bc (i:=1)) dE)<|fu (dT (.s<|.s<|.m 2 .A) .B (.c 2 (.s .A) .C<|.z (.m 2 .C) .B) rfl hi (aQ _ _)) k) dE
 exact e.trans<|bx (λl=>fU (LV.o l,σ)) (rd (f:=λi=>w.getD (2*i) 0+w.getD (2*i+1) 0)).symm
theorem Qn(n:1<k)(q:0<L.length)(h:L.length<400)(s:m<1000):cK k 211 [.l<|nL L,iN m] W=fU (.o<|oO L m,W):=by
 have c:m<=aq:=by unfold aq;exact dL .A (.n 1048576) (.z (.s .A)<|.n 1000) rfl s
 refine OS (ur (is:=[4]) (body:=gM dn (cK<|k-1)<|.c (.c [5,6]<|.c 206<|.c (.v 0)<|.c (.v 3) .n)<|.c (.d 2<|.v 6)<|.c (.a 3<|.o (.b .a (.s (.v 5)<|.v 7)<|.s (.v 5)<|.b .a (.v 7)<|.i 1) [7] (.a 1<|.c (.i 0)<|.c (.b .s (.a 0<|.c (.v 5) .n)<|.i 1)<|.c (.i 2) .n) .n) .n)
  (λj σ=>∃lv b a,σ=⟨[.f<|.l<|nL L,.f<|iN m,.o<|oO L j,.o<|nL<|pk L j,lv,b,a,.u],W⟩) iN (ay m) (σ:=⟨[.f<|.l<|nL L,.f<|iN m,.o [],.o [],.u,.u,.u,.u],W⟩) (ou .u .u .u rfl)
  λj i hi σ hI=>by
   refine Ce hI λlv b a d=>?_;clear hI;subst d;refine iB (z7 hi) λg r=>?_;subst g;have o:=Ls (L:=L) (j:=i);have p:((mg L<|pk L i).map (·.1)).length=L.length+(pk L i).length:=by rewrite[av];exact Rr uc rfl
   let w:PV:=.l<|nL<|(mg L<|pk L i).map (·.1)
   let f:PV:=.l<|bL<|row L i
   refine(ou ⟨[.f<|.l<|nL L,.f<|iN m,.o<|oO L i,.o<|nL<|pk L i,.f<|iN i,b,a,.u],W⟩ .n ⟨[.f<|.l<|nL L,.f<|iN m,.o<|oO L<|i+1,.o<|nL<|pk L<|i+1,.f<|iN i,.f w,.f f,.u],W⟩ ⟨rfl,?_,rfl,ou _ _ _ rfl⟩);refine aL (σ1:=⟨[.f<|.l<|nL L,.f<|iN m,.o<|oO L i,.f<|.l<|nL<|pk L i,.f<|iN i,.f w,.f f,.u],W⟩) (kP (σ1:=⟨[.f<|.l<|nL L,.f<|iN m,.o<|oO L i,.f<|.l<|nL<|pk L i,.f<|iN i,b,a,.u],W⟩) (cE<|bh (eK (ag rfl)<|e9 rfl rfl rfl)<|K2 (aA n)<|c9 (.s<|.a .A .B) (.n 1000) (.c 2 (.s .A) (.n 400)<|.z .B .A) rfl h o) rfl)<|
    aL (σ1:=⟨[.f<|.l<|nL L,.f<|iN m,.o<|oO L<|i+1,.f<|.l<|nL<|pk L i,.f<|iN i,.f w,.f f,.u],W⟩) ((py rfl (ag rfl) rfl (by show(oO L i).length<aq;unfold oO;refine Rr cO ?_;exact bG r c)).trans ?_)<|
    aL (cY<|Lk (w:=(mg L<|pk L i).map (·.1)) (by exact dT (.s<|.n 0) .A (.o (.s<|.n 0) .B<|.z (.a .B .C) .A) rfl q (eg p)) (by refine Rr p ?_;unfold aq;exact c9 (.a .A .B) (.n 1048576) (.c 2 (.s .A) (.n 400)<|.z .B .A) rfl h o) rfl rfl) bY
   refine bx (λl=>fU (Fl.n,St.mk [.f<|.l<|nL L,.f<|iN m,.o l,.f<|.l<|nL<|pk L i,.f<|iN i,.f w,.f f,.u] W)) ?_;unfold oO;refine Rr iH<|Rr aC ?_;rfl) λσ e lv b a zq2=>?_;subst zq2
 rw[bR] at e;exact cX (aX n) rfl rfl rfl rfl<|dM (σ:=⟨[.f<|.l<|nL L,.f<|iN m,.u,.o<|nL<|pk L m,lv,b,a,.u],W⟩)<|aL (σ1:=⟨[.f<|.l<|nL L,.f<|iN m,.o [],.u,.u,.u,.u,.u],W⟩) rfl<|aL (σ1:=⟨[.f<|.l<|nL L,.f<|iN m,.o [],.o [],.u,.u,.u,.u],W⟩) rfl<|
  aL (kn (eL (bI<|ag rfl) (i9<|jj rfl c) rfl) (jj rfl c) e)<|ee rfl<|fh<|sR rfl rfl rfl
end
noncomputable def ltN(x y:Nat×Nat):Bool:=decide (x.1<y.1)||(x.1==y.1&&decide (x.2<y.2))
noncomputable def wu(x:Nat×Nat):List (Nat×Nat)->List (Nat×Nat)
 |[]=>[x]
 |y::r=>if ltN x y then x::y::r else y::wu x r
noncomputable def Ac(l:List<|Nat×Nat):List<|Nat×Nat:=l.foldl (λa x=>wu x a) []
noncomputable def c2(x:Nat×Nat):Int×Int:=(x.1,x.2)
theorem Q4:qD (c2 x) (c2 y)=ltN x y:=by have a:decide ((x.1:Int)<y.1)=decide (x.1<y.1):=decide_eq_decide.2 aN;have b:decide ((x.2:Int)<y.2)=decide (x.2<y.2):=decide_eq_decide.2 aN;have c:((x.1:Int)==y.1)=(x.1==y.1):=Bool.eq_iff_iff.2 (by refine Rr (propext beq_iff_eq)<|Rr (propext beq_iff_eq) ?_;exact b7);show(decide ((x.1:Int)<y.1)||((x.1:Int)==y.1&&decide ((x.2:Int)<y.2)))=_;refine Rr a<|Rr b<|Rr c ?_;rfl
theorem N8:uI (c2 x) (l.map c2)=(wu x l).map c2:=by
 induction l with
 |nil=>rfl
 |cons y r a=>show(if qD (c2 x) (c2 y) then _ else c2 y::uI (c2 x) (r.map c2))=(if ltN x y then x::y::r else y::wu x r).map c2;refine Rr Q4<|Rr a ?_;split<;>rfl
theorem Jm:mZ (l.map c2)=(Ac l).map c2:=by
 delta mZ Ac;refine Rr List.foldl_map ?_;have:∀(l a:List<|Nat×Nat),l.foldl (λa x=>uI (c2 x) a) (a.map c2)=(l.foldl (λa x=>wu x a) a).map c2:=λl=>by
  induction l with
  |nil=>exact λc=>rfl
  |cons x r b=>intro a;refine Rr cz ?_;rewrite[cz];refine Rr N8 ?_;rw[b]
 exact this l []
theorem Al:(wu x l).Perm (x::l):=by
 induction l with
 |nil=>exact .refl _
 |cons y r a=>
  show(if ltN x y then x::y::r else y::wu x r).Perm _;split
  .exact .refl _
  .exact(a.cons y).trans<|.swap ..
theorem jL:(Ac l).Perm l:=by
 have:∀(l a:List<|Nat×Nat),(l.foldl (λa x=>wu x a) a).Perm<|l++a:=λl=>by
  induction l with
  |nil=>exact λc=>.refl _
  |cons x r b=>intro a;refine Rr cz<|(b<|wu x a).trans<|(Al.append_left r).trans pP
 have h:=this l [];rwa [bn] at h
def ml(l:List<|Nat×Nat):Prop:=l.Pairwise λx y=>ltN y x=Z7
theorem sG:ltN x y=Z8↔x.1<y.1\/(x.1=y.1/\x.2<y.2):=by delta ltN;rw[qN,gD,decide_eq_true_iff,decide_eq_true_iff,beq_iff_eq]
theorem nJ:ltN x y=Z7↔¬(x.1<y.1\/(x.1=y.1/\x.2<y.2)):=by refine Rl (propext sG) ?_;rw[pV]
theorem QH(h:ltN a b=Z8)(k:ltN b c=Z8):ltN a c=Z8:=by rw[sG] at*;exact h.elim (λh=>k.elim (λk=>.inl<|bw h k) λk=>.inl<|bG h<|bC k.1) λh=>k.elim (λk=>.inl<|aW (bC h.1) k) λk=>.inr ⟨h.1.trans k.1,bw h.2 k.2⟩
theorem OY(h:a≠b):ltN a b=Z8\/ltN b a=Z8:=by rw[sG,sG];exact(lI a.1 b.1).elim (λq=>.inl<|.inl q) λq=>q.elim (λq=>(lI a.2 b.2).elim (λr=>.inl<|.inr ⟨q,r⟩) λr=>r.elim (λr=>bq (r7 q r) h) λr=>.inr<|.inr ⟨q.symm,r⟩) λq=>.inr<|.inl q
theorem C0(h:ml l):ml<|wu x l:=by
 induction l with
 |nil=>exact Xe ..
 |cons y r j=>
  have f:∀z∈r,ltN z y=Z7:=λz=>dK h;have i:=eS.of_cons h;show ml (if ltN x y then x::y::r else y::wu x r);split
  .rename_i e;refine dg.2 ⟨λz b=>?_,h⟩;rcases ax.1 b with rfl|b
   .rw[sG] at e;refine Rr (propext nJ) ?_;exact λg=>g.elim (λd=>e.elim (λa=>Ix (.o (.s .A) .B<|.z (.s .B) .A) rfl a d) λa=>aM d<|el a.1) λd=>e.elim (λa=>aM a<|el d.1) λa=>Ix (.o (.s .A) .B<|.z (.s .B) .A) rfl a.2 d.2
   .exact oR.2 λc=>Bool.noConfusion<|(QH c e).symm.trans<|f _ b
  .rename_i e;refine dg.2 ⟨λz b=>?_,j i⟩;rcases ax.1 (Al.mem_iff.1 b) with rfl|b
   .exact pV _▸e
   .exact f _ b
theorem ng:ml<|Ac l:=by
 have:∀(l a:List<|Nat×Nat),ml a->ml (l.foldl (λa x=>wu x a) a):=λl=>by
  induction l with
  |nil=>exact λc h=>h
  |cons x r b=>exact λa h=>b _<|C0 h
 exact this l [] eS.nil
noncomputable def IB:List<|Nat×Nat:=(ay 288).map λi=>(if i<144 then 8 else if i<256 then 9 else if i<280 then 7 else 8,i)
theorem Sb:jm=IB.map c2:=by decide+kernel
noncomputable def tp(x:Nat×Nat):PV:=.a [iN x.1,iN x.2]
theorem D2{l:List<|Nat×Nat}:pairsOf (l.map tp)=fU (l.map c2):=by
 induction l with
 |nil=>rfl
 |cons x r a=>show(pairsOf<|r.map tp).map (c2 x::·)=_;refine Rr a ?_;rfl
theorem Ab(h:l.length<64/\l.Nodup\/l=IB):zG W 3 [.l<|l.map tp]=fU (.o<|(Ac l).map tp):=by
 have g:(((l.map c2).length<64/\(l.map c2).Nodup)\/l.map c2=jm):=by
  rcases h with⟨d,f⟩|h
  .refine .inl ⟨by rw[av];exact d,eS.map c2 (λa b (c:a≠b) e=>c ?_) f⟩;exact r7 (b7.1<|bx Prod.fst e)<|b7.1<|bx sg e
  .exact .inr<|Rr h<|Rr Sb rfl
 show(pairsOf<|l.map tp).bind (λps=>gd (decide ((ps.length<64/\ps.Nodup)\/ps=jm))<|fU<|LV.o<|(mZ ps).map λp=>.a [.i p.1,.i p.2])=_;refine Rr D2 ?_;rewrite[fB];refine Rr (we<|bT g)<|Rr Jm<|Rr bM ?_;rfl
noncomputable def nT(C:List Nat):List<|Nat×Nat:=((ay C.length).filter λs=>decide (0<C.getD s 0)).map λs=>(C.getD s 0,s)
noncomputable def ord(C:List Nat):List<|Nat×Nat:=Ac<|nT C
noncomputable def bump(l:List Nat)(s:Nat):List Nat:=l.set s<|l.getD s 0+1
noncomputable def MQ(O:List<|Nat×Nat)(x:Nat×List Nat)(a:List Bool):Nat×List Nat:=(2*(x.1-(a.take x.1).count Z8),(O.take<|(a.take x.1).count Z8).foldl (λl e=>bump l e.2) x.2)
noncomputable def eW(n:Nat):List Nat:=ap n 0
noncomputable def cl(C:List Nat)(m:Nat):List Nat:=
 if(ord C).length<2 then(ord C).foldl (λl e=>l.set e.2 1) (eW C.length)
 else(((ay m).reverse.map<|row<|(ord C).map (·.1)).foldl (MQ<|ord C) (2*(ord C).length-2,eW C.length)).2
theorem JE(h:x∈nT C):x.2<C.length/\x.1=C.getD x.2 0/\0<x.1:=by refine bO (aE.1 h) λs d a=>?_;subst a;refine iB (fJ.1 d) λb c=>⟨a9.1 b,rfl,dG c⟩
theorem iu(h:x∈ord C):x.2<C.length/\x.1=C.getD x.2 0/\0<x.1:=JE<|jL.mem_iff.1 h
theorem tX:(nT C).Nodup:=by refine eS.map _ (λa b (c:a≠b) e=>c ?_)<|eS.filter _ List.nodup_range;exact bx sg e
theorem wI:(ord C).length=(nT C).length:=jL.length_eq
section
variable{k:Nat}{W:Wd}{C:List Nat}{m:Nat}
theorem e8:(eW n).length=n:=bD ..
theorem mG:(bump l s).length=l.length:=fM ..
theorem RN:EA (bL l)=fU ((l.count Z8:Nat):Int):=by
 induction l with
 |nil=>rfl
 |cons b r a=>
  show(EA<|bL r).map (·+(bif b then 1 else 0))=_;refine Rr a ?_;cases b
  .exact bx fU<|Int.add_zero _
  .refine Rr mH ?_;rfl
noncomputable def vZ(C:List Nat)(m:Nat)(W:Wd)(o l:LV)(x:LV×LV×LV×LV×LV×LV):St:=⟨[.f<|.l<|nL C,.f<|iN m,o,l,x.1,x.2.1,x.2.2.1,x.2.2.2.1,x.2.2.2.2.1,x.2.2.2.2.2,.u,.u,.u],W⟩
noncomputable abbrev oF(C:List Nat):LV:=.f<|.l<|(ord C).map tp
theorem Q2(k:C.length<1000)(h:(ord C).length<64):bQ O (.a 3<|.c (.o (.t<|.c (.s (.v 0)<|.v 10)<|.c (.v 10) .n) [10] (.a 1<|.c (.a 0<|.c (.v 0) .n) .n)<|.c (.c .g (.s (.v 0)<|.v 10)<|.i 0) .n) .n) (vZ C m W .u .u (.u,.u,.u,.u,.u,.u))=
  fU (.o<|(ord C).map tp,vZ C m W .u .u (.u,.u,.u,.u,.u,.u)):=by
 have d:C.length<=aq:=by unfold aq;exact dL .A (.n 1048576) (.z (.s .A)<|.n 1000) rfl k
 have j:=jj (b:=C.length) rfl d;have e:=mj (O:=O) (σ:=vZ C m W .u .u (.u,.u,.u,.u,.u,.u)) (i:=10) (f:=iN) (l:=ay C.length) (g:=λs=>tp (C.getD s 0,s)) (t:=λs=>decide (0<C.getD s 0)) (elt:=.t<|.c (.s (.v 0)<|.v 10)<|.c (.v 10) .n) (ifs:=.c (.c .g (.s (.v 0)<|.v 10)<|.i 0) .n)
  (eL (bI<|eL (bI<|ag (i:=0) rfl) gH rfl) (i9 j) rfl) j rfl (by refine Rr bR ?_;exact d)
  (λs a=>by
   have a:s<C.length:=a9.1 a;have n:decide ((0:Int)<(C.getD s 0:Nat))=decide (0<C.getD s 0):=decide_eq_decide.2 aN;have c:=cw (O:=O) (op:=.g) (cQ (σ:=(vZ C m W .u .u (.u,.u,.u,.u,.u,.u)).set 10<|.f<|iN s) (l:=.v 0) (r:=.v 10) (ag rfl) (ag rfl)<|fu a d) (eZ (i:=0))<|pJ n;cases hd:decide (0<C.getD s 0)
   .rw[hd] at c;exact gi c
   .rw[hd] at c;exact fq c iA)
  λs a o=>cE<|i7 (eK (cQ (ag rfl) (ag rfl)<|fu (a9.1 a) d)<|ag rfl)<|ai rfl
 refine lN (bI<|de e rfl)<|Rr (show((ay C.length).filter λs=>decide (0<C.getD s 0)).map (λs=>tp (C.getD s 0,s))=(nT C).map tp from (bM (g:=tp)).symm)<|Ab<|.inl ⟨wI▸h,tX⟩
theorem Rp{l:List<|Nat×Nat}{i:Nat}{x:Nat×Nat}(h:l[i]?=fU x):(l.map tp)[i]?=fU (tp x):=by refine Rr cG<|Rr h ?_;rfl
theorem O2{O:jU}{N:Nat}{x:LV×LV×LV×LV×LV×LV}{e:Nat×Nat}(b:C.length<1000)(a:(ord C)=[e]):gM N O (.c (.s 3 (.s (.s (.v 2)<|.i 0)<|.i 1)<|.i 1) .n) (vZ C m W (oF C) (.o<|nL<|eW C.length) x)=fU (.n,vZ C m W (oF C) (.o<|nL<|(eW C.length).set e.2 1) x):=by have c:=(iu (a▸.head _:e∈ord C)).1;exact aL (xW (bc (i:=1)) rfl (cQ (cQ (ag rfl) (bc (i:=0))<|xZ (Rp<|by refine Rr a ?_;rfl)<|by refine Rr a ?_;exact ai rfl) (bc (i:=1))<|m6 (k:=1) rfl (ai rfl)) rfl (by refine Rr e8 ?_;exact c) (by refine Rr e8 ?_;unfold aq;exact dL .A (.n 1048576) (.z (.s .A)<|.n 1000) rfl b)) bY
noncomputable abbrev Wf:iX:=.c (.b 3 (.v 9)<|.i 1) .n
theorem RL{l:List Nat}{E:List<|Nat×Nat}(o:C.length<1000)(r:l.length=C.length)(p:∀e∈E,e.2<C.length){u v:LV}:
  ∃h j,oy [8,9] (gM dn O Wf) (E.map tp) (vZ C m W (oF C) (.o<|nL l) (a,b,c,d,u,v))=fU (.n,vZ C m W (oF C) (.o<|nL<|E.foldl (λl e=>bump l e.2) l) (a,b,c,d,h,j)):=by
 refine bO (sr (is:=[8,9]) (body:=gM dn O Wf) (λl:List Nat=>l.length=C.length) (λl (x:LV×LV)=>vZ C m W (oF C) (.o<|nL l) (a,b,c,d,x.1,x.2)) tp (λl e=>bump l e.2) (l:=E) (x:=l) (lv:=(u,v)) r
  λy lv g e q=>by
   have k:e.2<y.length:=g▸p e q;have n:y.length<=aq:=by refine Rr g ?_;unfold aq;exact dL .A (.n 1048576) (.z (.s .A)<|.n 1000) rfl o
   exact(ou (vZ C m W (oF C) (.o<|nL y) (a,b,c,d,.f<|iN e.1,.f<|iN e.2)) .n (.f<|iN e.1,.f<|iN e.2) ⟨rfl,aL (pH rfl (ag rfl) rfl (fu k n) (bc (i:=1)) rfl (yQ (v:=y.getD e.2 0+1) k n)) bY,rfl,mG.trans g⟩)) λf e s=>?_;obtain⟨h,j⟩:=f
 exact(ff h j e)
noncomputable abbrev W2:iX:=.c (.a 7<|.r<|.n (.v 6) .none<|.v 5)<|.c (.f [8,9] (.n (.v 2) .none<|.v 7) Wf)<|.c (.a 5<|.b .m (.i 2)<|.b .s (.v 5)<|.v 7) .n
theorem OJ(h:bQ O e σ=fU (.o<|bL l,σ1)):bQ O (.r e) σ=fU (.f<|iN<|l.count Z8,σ1):=by show(bQ O e σ).bind (λx=>(On x.1).bind λl=>(EA l).map λn=>ww (.i n) x.2)=_;refine Rr h ?_;show(EA<|bL l).map _=_;refine Rr RN ?_;rfl
theorem OI{R:List<|List Bool}{w:Nat}{l:List Nat}(s:C.length<1000)(z:l.length=C.length):∃D j k f g,
  oy [6] (gM dn O W2) (R.map λr=>.l<|bL r) (vZ C m W (oF C) (.o<|nL l) (a,.f<|iN w,b,c,u,v))=fU (.n,vZ C m W (oF C) (.o<|nL (R.foldl (MQ<|ord C) (w,l)).2) (a,.f<|iN D,j,k,f,g)):=by
 refine ak λB=>bO (sr (is:=[6]) (body:=gM dn O W2) (λy:Nat×List Nat=>y.2.length=C.length) (λy (x:LV×LV×LV×LV)=>vZ C m W (oF C) (.o<|nL y.2) (a,.f<|iN y.1,x.1,x.2.1,x.2.2.1,x.2.2.2)) (λr=>.l<|bL r) (MQ<|ord C) (l:=R) (x:=(w,l)) (lv:=(b,c,u,v)) z
  λy x p r q=>by
   have o:(r.take y.1).count Z8<=y.1:=ao List.count_le_length (by refine Rr cI ?_;exact fK ..);obtain⟨f,g,e⟩:=RL (O:=O) (W:=W) (m:=m) (a:=a) (b:=.f<|iN y.1) (c:=.f<|.l<|bL r) (d:=.f<|iN<|(r.take y.1).count Z8) (l:=y.2) (E:=(ord C).take<|(r.take y.1).count Z8) (u:=x.2.2.1) (v:=x.2.2.2) s p λe t=>(iu<|fk t).1;have n:bQ O (.r<|.n (.v 6) .none<|.v 5) (vZ C m W (oF C) (.o<|nL y.2) (a,.f<|iN y.1,.f<|.l<|bL r,x.2.1,x.2.2.1,x.2.2.2))=fU (.f<|iN<|(r.take y.1).count Z8,vZ C m W (oF C) (.o<|nL y.2) (a,.f<|iN y.1,.f<|.l<|bL r,x.2.1,x.2.2.1,x.2.2.2)):=
    OJ ((o5 (ag rfl) rfl (ag rfl) Ft).trans<|by refine Rl f9 ?_;rfl)
   refine(ou (vZ C m W (oF C) (.o<|nL y.2) (a,.f<|iN y.1,.f<|.l<|bL r,x.2.1,x.2.2.1,x.2.2.2)) .n (.f<|.l<|bL r,.f<|iN<|(r.take y.1).count Z8,f,g) ⟨rfl,aL (σ1:=vZ C m W (oF C) (.o<|nL y.2) (a,.f<|iN y.1,.f<|.l<|bL r,.f<|iN<|(r.take y.1).count Z8,x.2.2.1,x.2.2.2)) (cY n)<|
    aL (kn (de ((o5 (ag rfl) rfl (ag rfl) Ft)) rfl) (dy.trans<|bx fU f9.symm) e)<|
    aL (cY<|du (bc (i:=2)) (aY (ag rfl) (ag rfl)<|jf (c:=y.1-(r.take y.1).count Z8) (bv o).symm)<|m4<|by decide) bY,rfl,?_⟩)
   have:∀(E:List<|Nat×Nat) (l:List Nat),(E.foldl (λl e=>bump l e.2) l).length=l.length:=λE=>by
    induction E with
    |nil=>exact λq=>rfl
    |cons e r A=>exact λl=>(A _).trans mG
   exact(this _ _).trans p) λh e q=>?_;obtain⟨j,k,f,g⟩:=h
 refine B<|(WN _ j k f g e)
theorem yi(h:σ.1[2]?=fU (oF C))(a:(ord C).length=n):fr (bQ O (.a 0<|.c (.v 2) .n) σ)=fU (iN n,σ):=eL (bI<|ag h) (DS.trans<|by rewrite[av];exact Rr a rfl) rfl
theorem QW(s:2<k)(r:C.length<1000)(n:(ord C).length<64)(y:1<=m/\m<20)(E:(ord C).length<=2^m):cK k 216 [.l<|nL C,iN m] W=fU (.o<|nL<|cl C m,W):=by
 have D:C.length<=aq:=by unfold aq;exact dL .A (.n 1048576) (.z (.s .A)<|.n 1000) rfl r
 let U:LV×LV×LV×LV×LV×LV:=(.u,.u,.u,.u,.u,.u)
 let σ1:St:=vZ C m W (.o<|(ord C).map tp) (.o<|nL<|eW C.length) U
 let σ2:St:=vZ C m W (oF C) (.o<|nL<|eW C.length) U
 have F:jJ (cK<|k-1) (.a<|.c (.e<|.v 2)<|.c (.o<|.c (.c .l (.v 1)<|.i 1)<|.c (.c .g (.a 0<|.c (.v 2) .n)<|.b .b (.i 1)<|.v 1) .n) .n) σ1=fU (Z7,σ2):=by
  have z:fr (bQ (cK<|k-1) (.v 2) σ1)=fU (.l<|(ord C).map tp,σ2):=e9 rfl rfl rfl;cases ho:((ord C).map tp).isEmpty
  .exact kj<|fq (wr z<|bx fU<|bx not ho)<|gi<|rz<|fq (cw (ag rfl) eZ<|pG<|Wq<|by omega)<|fq (cw (yi rfl rfl) (aY (bc (i:=1)) (ag rfl)<|rh (by decide)<|dL .A (.n 1000000) (.z (.s .A)<|.n 20) rfl y.2)<|pJ<|Wq λh=>bq (aN.1 h)<|eU.2<|by rw[jO];exact E) iA
  .exact kj<|gi<|wr z<|bx fU<|bx not ho
 have q:∀{out ss},gM dn (cK<|k-1) ss σ2=out->gM dn (cK<|k-1) (.c (.a 2<|.a 3<|.c (.o (.t<|.c (.s (.v 0)<|.v 10)<|.c (.v 10) .n) [10] (.a 1<|.c (.a 0<|.c (.v 0) .n) .n)<|.c (.c .g (.s (.v 0)<|.v 10)<|.i 0) .n) .n)<|.c (.a 3<|.b .m (.l<|.c (.i 0) .n)<|.a 0<|.c (.v 0) .n)<|.c (.i (.a<|.c (.e<|.v 2)<|.c (.o<|.c (.c .l (.v 1)<|.i 1)<|.c (.c .g (.a 0<|.c (.v 2) .n)<|.b .b (.i 1)<|.v 1) .n) .n) (.c .n .n) .n) ss) (vZ C m W .u .u U)=out:=λh=>aL (σ1:=vZ C m W (.o<|(ord C).map tp) .u U) (cY<|Q2 r n)<|aL (σ1:=σ1) (cY (σ1:=vZ C m W (.o<|(ord C).map tp) .u U)<|du (iz (bI<|bc (i:=0))<|by decide) (eL (bI<|ag rfl) gH rfl)<|(jH D).trans<|by refine Rr tQ ?_;rfl)<|aL (fg F bY) h
 rcases eI (ord C).length 2 with d|d
 .have o:cl C m=(ord C).foldl (λl e=>l.set e.2 1) (eW C.length):=bf d;refine cX (aX s) rfl rfl rfl rfl<|dM (σ:=vZ C m W (oF C) .u U)<|q<|aL (σ1:=vZ C m W (oF C) (.o<|nL<|cl C m) U) ?_<|ee rfl (jK (cw (yi rfl rfl) eZ<|pG<|bT<|aN.2 d)<|ee rfl (fh<|sR rfl rfl rfl));refine Rr o ?_
  match ho:ord C,d with
  |[],_=>exact fg (cw (yi rfl (Rr ho rfl)) eZ<|o8 rfl) bY
  |[e],_=>exact jK (cw (yi rfl (Rr ho rfl)) eZ<|o8 rfl)<|O2 r ho
 .have o:cl C m=_:=aK<|eU.2 d;have A:((ord C).map (·.1)).length=(ord C).length:=av ..
  refine Pq (OI (O:=cK<|k-1) (W:=W) (m:=m) (a:=.f<|.l<|oO ((ord C).map (·.1)) m) (b:=.u) (c:=.u) (u:=.u) (v:=.u) (R:=(ay m).reverse.map<|row<|(ord C).map (·.1)) (w:=2*(ord C).length-2) (l:=eW C.length) r e8) λw b c u v e=>?_;rw[<-o] at e;have B:bQ (cK<|k-1) (.c 211<|.c (.o (.v 11) [11,12] (.v 2) .n)<|.c (.v 1) .n) σ2=fU (.o<|oO ((ord C).map (·.1)) m,σ2):=by have h:=yE (O:=cK<|k-1) (σ:=σ2) (i:=11) (j:=12) (f1:=λx:Nat×Nat=>iN x.1) (f2:=λx=>iN x.2) (l:=ord C) (g:=λx=>iN x.1) (t:=λp=>Z8) (elt:=.v 11) (ifs:=.n) (by decide) (ag (i:=2) rfl) rfl rfl rfl (by unfold aq;exact dL .A (.n 1048576) (.z (.s .A)<|.n 64) rfl n) (λp p=>rfl) λx p p=>ag rfl;rw[kc.2 λp p=>rfl,<-rd (f:=λx:Nat×Nat=>x.1)] at h;exact bh (eK (de h rfl)<|ag rfl)<|Qn (aA s) (c9 (.s<|.n 0) .A (.o (.n 2) .B<|.z .B .A) rfl d (eg A)) (c9 (.s .A) (.n 400) (.o (.s .B) (.n 64)<|.z .A .B) rfl n (el A))<|dL (.s .A) (.n 1000) (.z (.s .A)<|.n 20) rfl y.2
  refine cX (aX s) rfl rfl rfl rfl<|dM (σ:=vZ C m W (oF C) .u (.f<|.l<|oO ((ord C).map (·.1)) m,.f<|iN w,b,c,u,v))<|q<|aL (fg (cw (yi rfl rfl) eZ<|o8<|Wq λh=>bq (b7.1 h)<|gk d) bY)<|
   aL (fg (cw (yi rfl rfl) eZ<|pG<|Wq λh=>bq (aN.1 h)<|eU.2 d) bY)<|aL (cY B)<|
   aL (cY<|du (aY (bc (i:=2)) (yi rfl rfl)<|m4<|by decide) (bc (i:=2))<|jf (c:=2*(ord C).length-2)<|aj (c9 (.m 2 .A) (.a (.n 2) .B) (.z (.m 2 .A)<|.p .B 2) rfl (ck _ _))<|c9 (.a (.n 2) .A) (.m 2 .B) (.z (.p .A 2)<|.m 2 .B) rfl (el<|ac<|dL (.n 2) (.m 2 .A) (.c 2 (.n 2) .A .e) rfl d))<|
   aL (σ1:=vZ C m W (oF C) (.o<|nL<|cl C m) (.f<|.l<|oO ((ord C).map (·.1)) m,.f<|iN w,b,c,u,v)) (yq (e9 rfl rfl rfl) ?_)<|ee rfl (fh<|sR rfl rfl rfl)
  rw[bM,List.map_reverse] at e;exact e
end
section
variable{k:Nat}{W:Wd}
noncomputable def MO(n s:Nat):Nat->Nat->Nat
 |0,b=>b
 |f+1,b=>if 2*s<=n/2^b then MO n s f (b+1) else b
theorem XN{n s f b:Nat}:MO n s (f+1) b=if 2*s<=n/2^b then MO n s f (b+1) else b:=rfl
noncomputable def sb(n s:Nat):Nat:=MO n s 16 0
noncomputable def split(n s:Nat):Nat×Nat×Nat:=(s*sb n s+n/2^sb n s,sb n s,n%2^sb n s)
theorem yo:∀{f b:Nat},n/2^(b+f)<2*s->n/2^MO n s f b<2*s/\b<=MO n s f b/\(MO n s f b=b\/2*s<=n/2^(MO n s f b-1))/\∀c,b<=c->n/2^c<2*s->MO n s f b<=c:=by
 intro f;induction f with
 |zero=>intro b;exact λh=>⟨h,ba _,.inl rfl,λc hc m=>hc⟩
 |succ f l=>
  intro b h;refine Rr XN ?_;split
  .rename_i g;refine Gh (l (b:=b+1)<|by rw[eE];exact h) λi j a k=>⟨i,lG j,.inr ?_,λc hc d=>k c (og hc λe=>?_) d⟩
   .rcases a with a|a
    .refine Rr a ?_;exact g
    .exact a
   .subst e;exact bq d<|eU.2 g
  .rename_i g;exact⟨b8 g,ba _,.inl rfl,λc hc m=>hc⟩
theorem Ca{n s:Nat}(d:s<100):∀(f b N:Nat),n/2^(b+f)<2*s->f<N->
  iC (jJ O<|.c .a (.b .d (.v 0)<|.v 2)<|.b .m (.i 2)<|.v 1) (gM dn O<|.c (.j .a 2<|.i 1) .n) N ⟨[.f<|iN n,.f<|iN s,.f<|iN b],W⟩=fU (.n,⟨[.f<|iN n,.f<|iN s,.f<|iN<|MO n s f b],W⟩)
 |f,b,N+1,h,hN=>by
  have t:∀c,decide (((2*s:Nat):Int)<=(n/2^b:Nat))=c->jJ O (.c .a (.b .d (.v 0)<|.v 2)<|.b .m (.i 2)<|.v 1) ⟨[.f<|iN n,.f<|iN s,.f<|iN b],W⟩=fU (c,⟨[.f<|iN n,.f<|iN s,.f<|iN b],W⟩):=
   λc hc=>cw (aY (ag rfl) (ag rfl) Am) (aY (bc (i:=2)) (ag rfl)<|m4<|by decide)<|Aw hc
  match f with
  |0=>exact jk<|t Z7<|Wq λh'=>bq (c8.1 h')<|lY.2 h
  |f+1=>
   refine Rr XN ?_;split
   .rename_i a;exact qL (t Z8<|bT<|c8.2 a) (aL (nS rfl (bc (i:=1)) rfl rfl) bY) rfl (Ca d f (b+1) N (by rw[eE];exact h)<|bX hN)
   .rename_i a;exact jk<|t Z7<|Wq λh'=>a<|c8.1 h'
noncomputable def wN(x:Nat×Nat×Nat):PV:=.a [iN x.1,iN x.2.1,iN x.2.2]
theorem Lm(h:n/2^16<2*s):sb n s<=16:=(yo<|by rw[bA];exact h).2.2.2 16 (bS _) h
theorem Hd(e:0<k)(b:s<100)(h:n/2^16<2*s):cK k 244 [iN n,iN s] W=fU (.f<|wN<|split n s,W):=by
 have d:=Lm h;have a:sb n s<=1000000:=ao d (by decide);refine cX e rfl rfl rfl rfl<|dM (σ:=⟨[.f<|iN n,.f<|iN s,.f<|iN<|sb n s],W⟩)<|aL (σ1:=⟨[.f<|iN n,.f<|iN s,.f<|iN 0],W⟩) rfl<|aL (pp<|Ca b 16 0 dn (by rw[bA];exact h)<|by decide)<|
  ee rfl<|fh<|i7 (jM (aY (aY (ag rfl) (ag rfl)<|m4<|bw b<|by decide) (aY (ag rfl) (ag rfl) Am) dE) (ag rfl) ?_)<|ai rfl
 have c:1*2^sb n s=1+(2^sb n s-1):=by rw[jO];exact(bv<|eO _).symm
 exact aY (ag rfl) (aY (aY (bc (i:=1)) (ag rfl)<|rh (by decide) a) (bc (i:=1))<|jf c)<|FW.trans<|by rw[ma];rfl
noncomputable def iI(l:Nat):Nat×Nat×Nat:=if l=258 then(285,0,0) else(257+(split (l-3) 4).1,(split (l-3) 4).2)
noncomputable def jB(d:Nat):Nat×Nat×Nat:=split (d-1) 2
theorem DX(a:1<k)(b:3<=l)(h:l<=258):cK k 251 [iN l] W=fU (.f<|wN<|iI l,W):=by
 refine cX (aX a) rfl rfl rfl rfl ?_;unfold iI;split
 .rename_i e;exact dM (σ:=⟨[.f<|iN l,.u,.u,.u],W⟩)<|ee rfl (jK (cw (ag rfl) eZ<|o8<|bT<|bx cV e)<|ee rfl (fh<|i7 (jM (bc (i:=285)) (bc (i:=0))<|bc (i:=0))<|ai rfl))
 .rename_i e;exact dM (σ:=⟨[.f<|iN l,.f<|iN (split (l-3) 4).1,.f<|iN (split (l-3) 4).2.1,.f<|iN (split (l-3) 4).2.2],W⟩)<|aL (fg (cw (ag rfl) eZ<|o8<|Wq λh'=>e<|b7.1 h') bY)<|
   aL (kP (cE<|bh (eK (aY (ag rfl) (bc (i:=3))<|jf (c:=l-3) (bv b).symm)<|bc (i:=4))<|Hd (aA a) (by decide)<|aW (fX<|ao (bk ..) h)<|by decide) rfl)<|
   ee rfl<|fh<|i7 (jM (aY (bc (i:=257)) (ag rfl) dE) (ag rfl)<|ag rfl)<|ai rfl
theorem ET(a:1<k)(b:1<=d)(h:d<=32768):cK k 258 [iN d] W=fU (.f<|wN<|jB d,W):=
 cX (aX a) rfl rfl rfl rfl<|dM (σ:=⟨[.f<|iN d],W⟩)<|ee rfl<|fh<|bh (eK (aY (ag rfl) (bc (i:=1))<|jf (c:=d-1) (bv b).symm)<|bc (i:=2))
  (Hd (aA a) (by decide)<|aW (fX<|ao (bk ..) h)<|by decide)
noncomputable def gN:List Nat:=[16,17,18,0,8,7,9,6,10,5,11,4,12,3,13,2,14,1,15]
theorem RY(a:0<k):cK k 223 [] W=fU (.o<|nL gN,W):=
 cX a rfl rfl rfl rfl<|dM (σ:=⟨[.u,.f<|iN 14],W⟩)<|by kernel_rfl
noncomputable def jY:List Nat:=ap 144 8++ap 112 9++ap 24 7++ap 8 8
noncomputable def nQ:List Nat:=ap 32 5
theorem FT(a:0<k):cK k 230 [] W=fU (.f<|.a [.l<|nL jY,.l<|nL nQ],W):=
 cX a rfl rfl rfl rfl<|dM (σ:=⟨[],W⟩)<|by kernel_rfl
end
noncomputable def hU(p:Nat×Nat):PV:=if p.2=0 then iN p.1 else .a [iN p.1,iN p.2]
def o7(p:Nat×Nat):Prop:=if p.2=0 then p.1<256 else p.2<=32768/\3<=p.1/\p.1<=258
theorem LK:(ay 256).all (λi=>decide (257<=(iI<|i+3).1/\(iI<|i+3).1<286))=Z8:=by decide+kernel
theorem sx(a:3<=l)(h:l<=258):257<=(iI l).1/\(iI l).1<286:=by have:=dG<|aU.1 LK (l-3)<|a9.2<|c9 (.s .A) (.n 256) (.o .B (.n 258)<|.z (.p .A 3) .B) rfl h (el<|ac<|a);rwa [ac a] at this
theorem dsb(h:d<=32768)(c:1<=d):(d-1)/2^sb (d-1) 2<4/\sb (d-1) 2<=13:=by have a:(d-1)/2^(0+16)<2*2:=aW (fX<|ao (bk ..) h) (by decide);have b:=yo (n:=d-1) (s:=2) a;exact⟨b.1,b.2.2.2 13 (bS _)<|Ch 8192 (.s .A) (.m 2<|.n 2) (.o .B (.n 32768)<|.o (.m 8192 .A) .C<|.z (.s .C) .B) rfl h (aQ _ _) (el<|ac<|c)⟩
theorem qq(c:1<=d)(h:d<=32768):(jB d).1<30:=by refine iB (dsb h c) λa b=>c9 (.s<|.a (.m 2 .A) .B) (.n 30) (.o (.s .B) (.n 4)<|.c 2 .A (.n 13) .e) rfl a b
theorem vE:zG W 8 [hU p]=fU (.f<|.c<|decide (p.2≠0)):=by
 unfold hU;split
 .rename_i h;refine Rr (Wq<|not_not_intro h) ?_;rfl
 .rename_i h;refine Rr (bT h) ?_;rfl
theorem ql(h:p.2=0):hU p=iN p.1:=bf h
theorem p7(h:p.2≠0):hU p=.a [iN p.1,iN p.2]:=aK h
noncomputable def O9(L:List Nat)(s:Nat):Nat:=if L.getD s 0=0 then 16 else L.getD s 0
noncomputable def Gv(L D:List Nat)(p:Nat×Nat):Nat:=if p.2=0 then O9 L p.1 else O9 L (iI p.1).1+(iI p.1).2.1+O9 D (jB p.2).1+(jB p.2).2.1
noncomputable def MJ(L D:List Nat):PV:=.f 289 [.l<|nL L,.l<|nL D]
noncomputable def E2(L D:List Nat)(ps:List<|Nat×Nat):Nat:=ps.foldl (λt p=>t+Gv L D p) 0
section
variable{k:Nat}{W:Wd}{L D:List Nat}
theorem C9(a:0<k):cK k 289 [.l<|nL L,.l<|nL D] W=fU (.f<|MJ L D,W):=
 Bq (σ:=⟨[.m,.f<|.l<|nL L,.f<|.l<|nL D,.f<|.l<|nL L,.f<|.l<|nL D],W⟩) a rfl rfl rfl rfl (aL (jD (ag rfl) rfl)<|aL (jD (ag rfl) rfl) bY) rfl
theorem Es(h:fr (bQ O (.s e i) σ)=fU (iN<|L.getD s 0,σ)):bQ O (.y (.s e i)<|.g 2) σ=fU (.f<|iN<|O9 L s,σ):=by
 unfold O9;split
 .rename_i e;rw[e] at h;exact LC h rfl rfl
 .rename_i e;refine Mx h<|bx fU ?_;show(((L.getD s 0:Nat):Int) !=0)=Z8;exact bne_iff_ne.2 λh'=>e<|b7.1 h'
theorem U3(a:0<k)(c:s<L.length)(b:L.length<=aq):cK k 279 [MJ L D,iN s] W=fU (.f<|iN<|O9 L s,W):=
 cX a rfl rfl rfl rfl<|dM (σ:=⟨[.f<|MJ L D,.f<|iN s],W⟩)<|ee rfl<|fh<|Es<|cQ (gI (ag rfl) rfl) (ag rfl)<|fu c b
theorem NA(h:2<k)(o:286<=L.length)(p:L.length<=aq)(n:30<=D.length)(hd:D.length<=aq)(j:3<=l)(f:l<=258)(i:1<=d)(g:d<=32768):
  cK k 286 [MJ L D,iN l,iN d] W=fU (.f<|iN<|O9 L (iI l).1+(iI l).2.1+O9 D (jB d).1+(jB d).2.1,W):=by
 let S:LV->LV->LV->LV->LV->St:=λa b c m e=>⟨[.f<|MJ L D,.f<|iN l,.f<|iN d,a,b,c,m,e],W⟩
 let a:LV:=.f<|iN (iI l).1
 let b:LV:=.f<|iN (iI l).2.1
 let σ:St:=S a b (.f<|iN (jB d).2.2) (.f<|iN (jB d).1)<|.f<|iN (jB d).2.1
 exact cX (aX h) rfl rfl rfl rfl<|dM (σ:=σ)<|aL (σ1:=S a b (.f<|iN (iI l).2.2) .u .u) (kP (σ1:=S .u .u .u .u .u) (cE<|bh (bI<|ag rfl)<|DX (aA h) j f) rfl)<|
  aL (σ1:=σ) (kP (σ1:=S a b (.f<|iN (iI l).2.2) .u .u) (cE<|bh (bI<|ag rfl)<|ET (aA h) i g) rfl)<|ee rfl<|fh<|
  du (aY (aY (cE<|Es<|cQ (gI (ag rfl) rfl) (ag rfl)<|fu (bG (sx j f).2 o) p) (ag rfl) dE) (cE<|Es<|cQ (gI (ag rfl) rfl) (ag rfl)<|fu (bG (qq i g) n) hd) dE) (ag rfl) dE
theorem qb(h:o7 p)(e:p.2=0):p.1<256:=by unfold o7 at h;rwa [bf e] at h
theorem mi(h:o7 p)(e:p.2≠0):p.2<=32768/\3<=p.1/\p.1<=258:=by unfold o7 at h;rwa [aK e] at h
theorem J8(d:3<k)(j:∀p∈ps,o7 p)(g:286<=L.length)(h:L.length<=aq)(r:30<=D.length)(hd:D.length<=aq):cK k 237 [.l<|ps.map hU,MJ L D] W=fU (.f<|iN<|E2 L D ps,W):=by
 refine rX (xE (is:=[3]) (body:=gM dn (cK<|k-1)<|.c (.i (.e<|.a 8<|.c (.v 3) .n) (.c (.j .a 2<|.m 286 289 (.v 1)<|.c (.s (.v 3)<|.i 0)<|.c (.s (.v 3)<|.i 1) .n) .n)<|.c (.j .a 2<|.m 279 289 (.v 1)<|.c (.v 3) .n) .n) .n)
  (λt lv=>⟨[.f<|.l<|ps.map hU,.f<|MJ L D,.f<|iN t,lv],W⟩) hU (λt p=>t+Gv L D p) (l:=ps) (x:=0) (lv:=.u) λt lv p c=>by
   let σ:St:=⟨[.f<|.l<|ps.map hU,.f<|MJ L D,.f<|iN t,.f<|hU p],W⟩
   have m:∀b,decide (p.2≠0)=b->jJ (cK<|k-1) (.e<|.a 8<|.c (.v 3) .n) σ=fU (b,σ):=λb s=>wr (cE<|lN (bI<|ag rfl) vE)<|bx fU s;refine(ou σ .n (.f<|hU p) ⟨rfl,aL ?_ bY,rfl⟩);unfold Gv;by_cases a:p.2=0
   .refine Rr (bf a) ?_;exact fg (m Z7<|Wq<|not_not_intro a)<|aL (nS rfl (i6 (ag rfl) (bI (p:=iN p.1)<|ag<|by refine Rl (ql a) ?_;rfl) rfl (U3 (aA<|bw (by decide) d) (bG (qb (j p c) a)<|ao (by decide) g) h) rfl) rfl rfl) bY
   .refine Rr (aK a) ?_;refine hV (mi (j p c) a) λn o q=>?_;have f:σ.1[3]?=fU (.f<|.a [iN p.1,iN p.2]):=by refine Rl (p7 a) ?_;rfl
    exact jK (m Z8<|bT a)<|aL (nS rfl (i6 (ag rfl) (eK (cQ (ag f) (bc (i:=0))<|m6 (k:=0) rfl (ai rfl))<|cQ (ag f) (bc (i:=1))<|m6 (k:=1) rfl (ai rfl)) rfl (NA (aA d) g h r hd o q (dQ a) n) rfl) rfl rfl) bY) λlv e=>?_
 exact cX (aX d) rfl rfl rfl rfl<|dM (σ:=⟨[.f<|.l<|ps.map hU,.f<|MJ L D,.f<|iN<|E2 L D ps,lv],W⟩)<|aL (σ1:=⟨[.f<|.l<|ps.map hU,.f<|MJ L D,.f<|iN 0,.u],W⟩) rfl<|aL (kn (ag rfl) dy e)<|ee rfl<|fh<|tJ rfl
end
noncomputable def vG(x:List Nat×List Nat)(p:Nat×Nat):List Nat×List Nat:=if p.2=0 then(bump x.1 p.1,x.2) else(bump x.1 (iI p.1).1,bump x.2 (jB p.2).1)
noncomputable def C3(ps:List<|Nat×Nat):List Nat×List Nat:=ps.foldl vG (eW 286,eW 30)
noncomputable def kg(ps:List<|Nat×Nat):List Nat:=(C3 ps).1.set 256 1
noncomputable def oA(ps:List<|Nat×Nat):List Nat:=(C3 ps).2
theorem CF(h:x.1.length=286/\x.2.length=30):(vG x p).1.length=286/\(vG x p).2.length=30:=by
 unfold vG;split
 .exact⟨mG.trans h.1,h.2⟩
 .exact⟨mG.trans h.1,mG.trans h.2⟩
theorem rn:(C3 ps).1.length=286/\(C3 ps).2.length=30:=by
 have:∀(ps:List<|Nat×Nat) x,x.1.length=286/\x.2.length=30->(ps.foldl vG x).1.length=286/\(ps.foldl vG x).2.length=30:=λps=>by
  induction ps with
  |nil=>exact λb h=>h
  |cons p r a=>exact λx h=>a _<|CF h
 exact this ps _ ⟨e8,e8⟩
theorem q0:(kg ps).length=286:=(fM ..).trans rn.1
theorem uO:(oA ps).length=30:=rn.2
section
variable{k:Nat}{W:Wd}
theorem AG:fr (bQ O (.g 1) σ)=fU (iN 256,σ):=rfl
theorem wR(c:σ.1[v]?=fU (.o<|nL l))(ho:t9 σ v=Z8)(hi:fr (bQ O i σ)=fU (iN s,σ))(b:s<l.length)(a:l.length<=aq):ph N O (.b v i<|.i 1) σ=fU (.n,σ.set v<|.o<|nL<|bump l s):=
 pH ho hi c (fu b a) (bc (i:=1)) c (yQ (v:=l.getD s 0+1) b a)
theorem uy:mU (wN x) (iN 0)=fU (iN x.1):=m6 (k:=0) rfl (ai rfl)
theorem Xq(h:2<k)(r:∀p∈ps,o7 p):cK k 300 [.l<|ps.map hU] W=fU (.f<|.a [.l<|nL<|kg ps,.l<|nL<|oA ps],W):=by
 let S:List Nat×List Nat->LV->St:=λx lv=>⟨[.f<|.l<|ps.map hU,.o<|nL x.1,.o<|nL x.2,lv],W⟩
 refine bO (sr (is:=[3]) (body:=gM dn (cK<|k-1)<|.c (.i (.e<|.a 8<|.c (.v 3) .n) (.c (.b 1 (.s (.c 251<|.c (.s (.v 3)<|.i 0) .n)<|.i 0)<|.i 1)<|.c (.b 2 (.s (.c 258<|.c (.s (.v 3)<|.i 1) .n)<|.i 0)<|.i 1) .n)<|.c (.b 1 (.v 3)<|.i 1) .n) .n)
  (λx:List Nat×List Nat=>x.1.length=286/\x.2.length=30) S hU vG (l:=ps) (x:=(eW 286,eW 30)) (lv:=.u) ⟨e8,e8⟩ λx lv d p f=>by
   let σ:St:=S x<|.f<|hU p
   have s:∀b,decide (p.2≠0)=b->jJ (cK<|k-1) (.e<|.a 8<|.c (.v 3) .n) σ=fU (b,σ):=λb u=>wr (cE<|lN (bI<|ag rfl) vE)<|bx fU u;have g:∀{n},n=286\/n=30->n<=aq:=by rintro n (rfl|rfl)<;>exact ai rfl
   refine(ou σ .n (.f<|hU p) ⟨rfl,aL ?_ bY,rfl,CF d⟩);by_cases c:p.2=0
   .refine Rr (show vG x p=(bump x.1 p.1,x.2) from bf c) ?_;exact fg (s Z7<|Wq<|not_not_intro c)<|aL (wR rfl rfl (ag<|by refine Rl (ql c) ?_;rfl) (d.1▸bw (qb (r p f) c) (by decide)) (g<|.inl d.1)) bY
   .refine Rr (show vG x p=(bump x.1 (iI p.1).1,bump x.2 (jB p.2).1) from aK c) ?_;refine hV (mi (r p f) c) λj m o=>?_;have q:∀a b,(St.mk [.f<|.l<|ps.map hU,a,b,.f<|hU p] W).1[3]?=fU (.f<|.a [iN p.1,iN p.2]):=λa b=>by refine Rl (p7 c) ?_;rfl
    exact jK (s Z8<|bT c)<|aL (σ1:=S (bump x.1 (iI p.1).1,x.2)<|.f<|hU p) (wR rfl rfl (cQ (cE<|bh (bI<|cQ (ag<|q _ _) (bc (i:=0))<|m6 (k:=0) rfl (ai rfl))<|DX (aA h) m o) (bc (i:=0)) uy) (d.1▸(sx m o).2) (g<|.inl d.1))<|
     aL (wR rfl rfl (cQ (cE<|bh (bI<|cQ (ag<|q _ _) (bc (i:=1))<|m6 (k:=1) rfl (ai rfl))<|ET (aA h) (dQ c) j) (bc (i:=0)) uy) (d.2▸qq (dQ c) j) (g<|.inr d.2)) bY) λlv e w=>?_
 have t:∀n,n<=aq->iJ .m (.l [iN 0]) (iN n)=fU (.o<|nL<|eW n):=λn v=>(jH v).trans<|by refine Rr tQ ?_;rfl
 let σ:St:=⟨[.f<|.l<|ps.map hU,.o<|nL<|kg ps,.o<|nL<|oA ps,lv],W⟩
 exact cX (aX h) rfl rfl rfl rfl<|dM (σ:=⟨[.f<|.l<|ps.map hU,.f<|.l<|nL<|kg ps,.f<|.l<|nL<|oA ps,lv],W⟩)<|
  aL (σ1:=⟨[.f<|.l<|ps.map hU,.o<|nL<|eW 286,.u,.u],W⟩) (cY (σ1:=⟨[.f<|.l<|ps.map hU,.u,.u,.u],W⟩)<|du (iz (bI<|bc (i:=0))<|by decide) (bc (i:=286))<|t 286<|by decide)<|
  aL (σ1:=S (eW 286,eW 30) .u) (cY (σ1:=⟨[.f<|.l<|ps.map hU,.o<|nL<|eW 286,.u,.u],W⟩)<|du (iz (bI<|bc (i:=0))<|by decide) (bc (i:=30))<|t 30<|by decide)<|
  aL (kn (ag rfl) dy e)<|aL (σ1:=σ) (xW (L:=(C3 ps).1) (bc (i:=1)) rfl AG rfl (by refine Rr rn.1 ?_;decide) (by refine Rr rn.1 ?_;exact ai rfl))<|
  ee rfl<|fh<|i7 (eK (e9 (σ:=σ) (σ1:=⟨[.f<|.l<|ps.map hU,.f<|.l<|nL<|kg ps,.o<|nL<|oA ps,lv],W⟩) rfl rfl rfl)<|e9 rfl rfl rfl)<|ai rfl
noncomputable def ce(L:List Nat)(m:Nat):Nat->Nat
 |0=>0
 |e+1=>if m<e+1/\L.getD e 0=0 then ce L m e else e+1
theorem XS{L:List Nat}{m e:Nat}:ce L m (e+1)=if m<e+1/\L.getD e 0=0 then ce L m e else e+1:=rfl
noncomputable def Iy(L:List Nat)(m:Nat):List Nat:=L.take<|ce L m L.length
theorem Sj(n:L.length<=aq):∀(e N:Nat),e<=L.length->e<N->
  iC (jJ O<|.a<|.c (.c .g (.v 2)<|.v 1)<|.c (.c .e (.s (.v 0)<|.b .s (.v 2)<|.i 1)<|.i 0) .n) (gM dn O<|.c (.j .s 2<|.i 1) .n) N ⟨[.f<|.l<|nL L,.f<|iN m,.f<|iN e],W⟩=fU (.n,⟨[.f<|.l<|nL L,.f<|iN m,.f<|iN<|ce L m e],W⟩):=by
 intro e;induction e with
 |zero=>
  intro N;cases N with
  |zero=>intro _ d;exact bq d<|cn _
  |succ N=>intro _ _;exact jk<|kj<|gi<|cw (ag rfl) (ag rfl)<|pJ<|Wq λh=>bq (aN.1 h)<|cn _
 |succ e o=>
  intro N;cases N with
  |zero=>intro _ d;exact bq d<|cn _
  |succ N=>
   intro k d
   let σ:St:=⟨[.f<|.l<|nL L,.f<|iN m,.f<|iN<|e+1],W⟩
   have l:∀b,decide (((L.getD e 0:Nat):Int)=(0:Nat))=b->jJ O (.c .e (.s (.v 0)<|.b .s (.v 2)<|.i 1)<|.i 0) σ=fU (b,σ):=λb g=>cw (cQ (ag rfl) (aY (ag rfl) (bc (i:=1))<|jf<|cR e 1)<|fu k n) (bc (i:=0))<|o8 g;have j:∀b,decide (((m:Nat):Int)<(e+1:Nat))=b->jJ O (.c .g (.v 2)<|.v 1) σ=fU (b,σ):=λb g=>cw (ag rfl) (ag rfl)<|pJ g;refine Rr XS ?_;by_cases a:m<e+1
   .by_cases f:L.getD e 0=0
    .refine Rr (bf ⟨a,f⟩) ?_;exact qL (kj<|fq (j Z8<|bT<|aN.2 a)<|fq (l Z8<|bT<|bx cV f) iA) (aL (nS (c:=(e:Nat)) rfl (bc (i:=1)) rfl (by exact bx fU<|oo (e:Int) 1)) bY) rfl (o N (lG k)<|bX d)
    .refine Rr (aK λh=>f h.2) ?_;exact jk<|kj<|fq (j Z8<|bT<|aN.2 a)<|gi<|l Z7<|Wq λh=>f<|b7.1 h
   .refine Rr (aK λh=>a h.1) ?_;exact jk<|kj<|gi<|j Z7<|Wq λh=>a<|aN.1 h
theorem Kr(c:0<k)(a:L.length<1000):cK k 319 [.l<|nL L,iN m] W=fU (.o<|nL<|Iy L m,W):=by
 have b:L.length<=aq:=by unfold aq;exact dL .A (.n 1048576) (.z (.s .A)<|.n 1000) rfl a
 exact cX c rfl rfl rfl rfl<|dM (σ:=⟨[.f<|.l<|nL L,.f<|iN m,.f<|iN<|ce L m L.length],W⟩)<|aL (σ1:=⟨[.f<|.l<|nL L,.f<|iN m,.f<|iN L.length],W⟩) (cY (σ1:=⟨[.f<|.l<|nL L,.f<|iN m,.u],W⟩)<|lN (bI<|ag rfl) gH)<|
  aL (pp<|Sj b L.length dn (ba _)<|by unfold dn;exact dL (.s .A) (.n 100000) (.z (.s .A)<|.n 1000) rfl a)<|ee rfl<|fh<|o5 (ag rfl) rfl (ag rfl) Gn
end
noncomputable def DJ:Nat->List Nat->Nat->Nat->List Nat
 |0,l,_,_=>l
 |f+1,l,lk,a=>if lk=0 then l else if l.getD a 0=0 then DJ f (l.set a 1) (lk-1) (a+1) else DJ f l lk<|a+1
theorem XJ{f lk a:Nat}{l:List Nat}:DJ (f+1) l lk a=if lk=0 then l else if l.getD a 0=0 then DJ f (l.set a 1) (lk-1) (a+1) else DJ f l lk<|a+1:=rfl
noncomputable def nz(C:List Nat):Nat:=(C.filter λc=>decide (0<c)).length
noncomputable def fH(C:List Nat):List Nat:=DJ C.length C (2-nz C) 0
section
variable{k:Nat}{W:Wd}{C:List Nat}
noncomputable def wS(C l:List Nat)(W:Wd)(lk:Int)(a:Nat):St:=⟨[.f<|.l<|nL C,.o<|nL l,.f<|.i lk,.f<|iN a,.u],W⟩
noncomputable abbrev VM:iX:=.c (.i (.c .e (.k 1<|.v 3)<|.i 0) (.c (.s 1 (.v 3)<|.i 1)<|.c (.j .s 2<|.i 1) .n) .n)<|.c (.j .a 3<|.i 1) .n
theorem FP{lk:Int}{a N:Nat}(h:¬0<lk):iC (jJ O<|.c .g (.v 2)<|.i 0) (gM dn O VM) (N+1) (wS C l W lk a)=fU (.n,wS C l W lk a):=jk<|cw (ag rfl) eZ<|pJ<|Wq h
theorem Jd{O:jU}:∀(f:Nat) (l:List Nat) (lk a N:Nat),lk<=(l.drop a).count 0->l.length=a+f->l.length<=aq->f<N->
  ∃d g,iC (jJ O<|.c .g (.v 2)<|.i 0) (gM dn O VM) N (wS C l W lk a)=fU (.n,wS C (DJ f l lk a) W d g)
 |f,l,0,a,N+1,_,_,_,_=>(ff 0 a<|by refine Rr (show DJ f l 0 a=l by cases f<;>rfl) ?_;exact FP<|Int.lt_irrefl 0)
 |0,l,lk+1,a,N+1,h,hl,_,_=>by
  rw[hY (i:=a)<|bC hl,fm] at h;exact bq h<|Nat.not_succ_le_zero _
 |f+1,l,lk+1,a,N+1,h,hl,hM,hN=>by
  have k:a<l.length:=by refine Rr hl ?_;exact Nat.lt_add_of_pos_right<|iQ f
  have p:l.getD a 0=l[a]:=by refine Rr al<|Rr (aI k) ?_;rfl
  rw[<-jv k,cy,<-p] at h;have j:l.length=a+1+f:=by refine Rr hl ?_;rw[eE,bZ]
  have t:∀b,decide (((l.getD a 0:Nat):Int)=(0:Nat))=b->jJ O (.c .e (.k 1<|.v 3)<|.i 0) (wS C l W (lk+1:Nat) a)=fU (b,wS C l W (lk+1:Nat) a):=λb o=>cw (Bf rfl (ag rfl) rfl (fu k hM)) (bc (i:=0))<|o8 o;have n:jJ O (.c .g (.v 2)<|.i 0) (wS C l W (lk+1:Nat) a)=fU (Z8,wS C l W (lk+1:Nat) a):=cw (ag rfl) eZ<|pJ<|bT<|qR.2<|iQ lk;by_cases e:l.getD a 0=0
  .rw[e,bf BEq.rfl] at h;obtain⟨d,g,m⟩:=Jd f (l.set a 1) lk (a+1) N (by refine Rr (List.drop_set_of_lt<|fR a) ?_;exact Nat.le_of_succ_le_succ h) (by refine Rr fM ?_;exact j) (by refine Rr fM ?_;exact hM)<|bX hN;refine(ff d g ?_);refine Rr (show DJ (f+1) l (lk+1) a=DJ f (l.set a 1) lk (a+1) by rw[XJ,aK<|j1 lk,bf e,Nat.add_sub_cancel])<|qL n (aL (σ1:=wS C (l.set a 1) W lk a) (jK (t Z8<|bT<|bx cV e)<|aL (xW (bc (i:=1)) rfl (ag rfl) rfl k hM)<|aL (nS (c:=(lk:Nat)) rfl (bc (i:=1)) rfl (by exact bx fU<|oo (lk:Int) 1)) bY)<|aL (nS rfl (bc (i:=1)) rfl rfl) bY) rfl m
  .rw[aK λh'=>e<|fN h'] at h;obtain⟨d,g,m⟩:=Jd f l (lk+1) (a+1) N h j hM<|bX hN;refine(ff d g ?_);refine Rr (show DJ (f+1) l (lk+1) a=DJ f l (lk+1) (a+1) by rw[XJ,aK<|j1 lk,aK e])<|qL n (aL (fg (t Z7<|Wq λh=>e<|b7.1 h) bY)<|aL (nS rfl (bc (i:=1)) rfl rfl) bY) rfl m
theorem KZ:nz C+C.count 0=C.length:=by
 unfold nz
 induction C with
 |nil=>rfl
 |cons c r a=>
  refine Rr ja<|Rr cy<|Rr aV ?_;cases c with
  |zero=>(refine Rr (aK<|by decide)<|Rr (bf BEq.rfl) ?_;rewrite[<-bZ];exact Rr a rfl)
  |succ c=>(refine Rr (bf<|bT<|iQ c) (Rr (aK<|by rw[beq_iff_eq];exact j1 c)<|Rr aV ?_);rw[eE]);exact bx (·+1) a
theorem PM(q:0<k)(p:2<=C.length)(d:C.length<1000):cK k 305 [.l<|nL C] W=fU (.o<|nL<|fH C,W):=by
 have j:C.length<=aq:=by unfold aq;exact dL .A (.n 1048576) (.z (.s .A)<|.n 1000) rfl d
 let σ:St:=⟨[.f<|.l<|nL C,.o<|nL C,.u,.u,.u],W⟩
 have n:bQ (cK<|k-1) (.o (.v 4) [4] (.v 0)<|.c (.c .g (.v 4)<|.i 0) .n) σ=fU (.o<|nL<|C.filter λc=>decide (0<c),σ):=
  mj (O:=cK<|k-1) (f:=iN) (g:=iN) (ag rfl) dy rfl j (λc m=>by
   have r:decide ((0:Int)<(c:Nat))=decide (0<c):=decide_eq_decide.2 aN;have b:=cw (O:=cK<|k-1) (op:=.g) (σ:=σ.set 4<|.f<|iN c) (l:=.v 4) (ag rfl) (eZ (i:=0))<|pJ r;cases hd:decide (0<c)
   .rw[hd] at b;exact gi b
   .rw[hd] at b;exact fq b iA) λc m m=>ag rfl
 refine ak λs=>?_;obtain⟨lk,a,e⟩:∃lk a,iC (jJ (cK<|k-1)<|.c .g (.v 2)<|.i 0) (gM dn (cK<|k-1) VM) dn (wS C C W ((2:Nat)-(nz C:Nat):Int) 0)=fU (.n,wS C (fH C) W lk a):=by
  rcases eI 2 (nz C) with h|h
  .have o:2-nz C=0:=ix<|be h;unfold fH;refine Rr o (Rr (show DJ C.length C 0 0=C by cases C.length<;>rfl) ?_);exact(ff _ _<|FP<|by omega)
  .have hi:((2:Nat)-(nz C:Nat):Int)=((2-nz C:Nat):Int):=by omega
   refine Rr hi<|pK (Jd (C:=C) (W:=W) (O:=cK<|k-1) C.length C (2-nz C) 0 dn (by refine Rr jc ?_;have:=KZ (C:=C);exact gy .A .B (.o (.n 2) .C<|.o .C (.a .D .B)<|.z (.a .A .D)<|.n 2) rfl p (eg this) (el<|ac<|h)) (bA _).symm j (by unfold dn;exact dL (.s .A) (.n 100000) (.z (.s .A)<|.n 1000) rfl d)) λlk a e=>?_;exact(ff _ _ e)
 refine s<|cX q rfl rfl rfl rfl<|dM (σ:=⟨[.f<|.l<|nL C,.u,.f<|.i lk,.f<|iN a,.u],W⟩)<|aL (σ1:=σ) (cY (σ1:=⟨[.f<|.l<|nL C,.u,.u,.u,.u],W⟩)<|lN (lv:=.o<|nL C) (bI<|ag rfl) rfl)<|
  aL (cY (σ1:=σ)<|du (bc (i:=2)) (eL (bI<|de n rfl) gH rfl) CD)<|aL (σ1:=wS C C W ((2:Nat)-(nz C:Nat):Int) 0) rfl<|aL (pp e)<|ee rfl<|fh<|sR rfl rfl rfl
theorem sI:∀{f:Nat} {l:List Nat} {lk a:Nat},(DJ f l lk a).length=l.length:=by
 intro f;induction f with
 |zero=>intro _ _ _;exact rfl
 |succ f b=>
  intro l lk a;refine Rr XJ ?_;split
  .rfl
  .split
   .exact Rr b<|Rr fM rfl
   .exact b
noncomputable def eM(ps:List<|Nat×Nat):List Nat:=cl (fH<|kg ps) 15
noncomputable def fi(ps:List<|Nat×Nat):List Nat:=cl (oA ps) 15
theorem RQ(e:4<k)(f:∀p∈ps,o7 p)(c:(ord<|fH<|kg ps).length<64)(d:(ord<|oA ps).length<64):cK k 312 [.l<|ps.map hU] W=fU (.f<|.a [.l<|nL<|eM ps,.l<|nL<|fi ps],W):=by
 have g:(fH<|kg ps).length=286:=sI.trans q0;have b:∀n,n<64->n<=2^15:=λn h=>ao (be h) (by decide);have a:2<k-1:=aA<|bw (by decide) e
 let σ:St:=⟨[.f<|.l<|ps.map hU,.f<|.l<|nL<|kg ps,.f<|.l<|nL<|oA ps],W⟩
 exact cX (aX e) rfl rfl rfl rfl<|dM (σ:=σ)<|aL (kP (σ1:=⟨[.f<|.l<|ps.map hU,.u,.u],W⟩) (cE<|bh (bI<|ag rfl)<|Xq a f) rfl)<|ee rfl<|fh<|i7 (eK
  (de (bh (eK (de (bh (bI<|ag rfl)<|PM (aX a) (by refine Rr q0 ?_;decide)<|by refine Rr q0 ?_;decide) rfl)<|bc (i:=15))<|QW a (by refine Rr g ?_;decide) c (by decide)<|b _ c) rfl)
  (de (bh (eK (ag rfl)<|bc (i:=15))<|QW a (by refine Rr uO ?_;decide) d (by decide)<|b _ d) rfl)) (ai rfl)
end
noncomputable def rl(s b lo hi:Nat):Nat->Nat->List (Nat×Nat×Nat)×Nat
 |0,r=>([],r)
 |f+1,r=>if lo<=r then((s,b,min r hi-lo)::(rl s b lo hi f<|r-min r hi).1,(rl s b lo hi f<|r-min r hi).2) else([],r)
noncomputable def uL(r:Nat):List<|Nat×Nat×Nat:=(rl 18 7 11 138 r r).1++if 3<=(rl 18 7 11 138 r r).2 then[(17,3,(rl 18 7 11 138 r r).2-3)] else ap (rl 18 7 11 138 r r).2 (0,0,0)
noncomputable def z5(l r:Nat):List<|Nat×Nat×Nat:=(rl 16 2 3 6 r r).1++ap (rl 16 2 3 6 r r).2 (l,0,0)
theorem XO{s b lo hi f r:Nat}:rl s b lo hi (f+1) r=if lo<=r then((s,b,min r hi-lo)::(rl s b lo hi f<|r-min r hi).1,(rl s b lo hi f<|r-min r hi).2) else([],r):=rfl
theorem AZ{s b lo hi:Nat}(h:0<lo/\lo<=hi):∀{f r:Nat},(rl s b lo hi f r).1.length+(rl s b lo hi f r).2<=r:=by
 intro f;induction f with
 |zero=>intro r;exact bC<|bA r
 |succ f a=>
  intro r;refine Rr XO ?_;split
  .have:=a (r:=r-min r hi);refine Rr aV ?_;rename_i c;exact pI (.a (.s .A) .B) .E (.o (.a .A .B) .C<|.o .i .D<|.z (.a .C .D) .E) rfl this (qy.2 ⟨ao h.1 c,ao h.1 h.2⟩) (el<|ac<|fK r hi)
  .exact bC<|bA r
theorem zC{r:Nat}:(uL r).length<=r:=by
 have:=AZ (s:=18) (b:=7) (lo:=11) (hi:=138) (by decide) (f:=r) (r:=r);unfold uL;refine Rr af ?_;split
 .refine Rr dD ?_;omega
 .refine Rr bD ?_;exact this
theorem zL{l r:Nat}:(z5 l r).length<=r:=by have:=AZ (s:=16) (b:=2) (lo:=3) (hi:=6) (by decide) (f:=r) (r:=r);unfold z5;refine Rr af<|Rr bD ?_;exact this
noncomputable abbrev rV(l:List<|Nat×Nat×Nat):List PV:=l.map wN
section
variable{k:Nat}{W:Wd}
theorem pb:(rV l).length=l.length:=av ..
theorem I8:zG W 5 [iN a,iN b]=fU (.f<|iN<|min a b):=by
 show fU (LV.f<|.i<|if(b:Int)<a then(b:Int) else a)=_;split
 .rename_i h;exact Rr (ie<|be<|aN.1 h) rfl
 .rename_i h;exact Rr (cu<|aJ λh'=>h<|aN.2 h') rfl
theorem FN{a b c:Nat}(h:a=b+c):intOp .s a b=fU ((c:Nat):Int):=bx fU<|Ie h
theorem qn(d:fr (bQ O a σ)=fU (iN x,σ))(e:fr (bQ O b σ)=fU (iN y,σ))(f:fr (bQ O c σ)=fU (iN z,σ)):fr (bQ O (.t<|.c a<|.c b<|.c c .n) σ)=fU (wN (x,y,z),σ):=
 cE (i7 (jM d e f)<|ai rfl)
theorem Qd{O:jU}:∀(f r N:Nat) (acc:List<|Nat×Nat×Nat),r<=f->f<N->acc.length+r<=aq->
  iC (jJ O<|.c .a (.v 0)<|.i 11) (gM dn O<|.c (.d 1<|.t<|.c (.i 18)<|.c (.i 7)<|.c (.b .s (.a 5<|.c (.v 0)<|.c (.i 138) .n)<|.i 11) .n)<|.c (.j .s 0<|.a 5<|.c (.v 0)<|.c (.i 138) .n) .n) N ⟨[.f<|iN r,.o<|rV acc],W⟩=
   fU (.n,⟨[.f<|iN (rl 18 7 11 138 f r).2,.o<|rV<|acc++(rl 18 7 11 138 f r).1],W⟩)
 |f,r,N+1,acc,hr,hN,hl=>by
  by_cases h:11<=r
  .obtain⟨f,rfl⟩:∃g,f=g+1:=⟨f-1,by exact aj ((ck _ _))<|(el<|ac<|c9 .i .A (.o .B .A<|.z (.n 11) .B) rfl hr h)⟩;have c:min r 138<=r:=fK ..
   have b:11<=min r 138:=qy.2 ⟨h,by decide⟩;have d:=Qd (O:=O) f (r-min r 138) N (acc++[(18,7,min r 138-11)]) (gy .A .B (.o .C (.s .B)<|.o (.n 11) .D<|.z (.a .A .D) .C) rfl hr b (el<|ac<|c)) (bX hN) (by refine Rr af<|Rr dD ?_;exact pI (.a (.s .A) .B) .C (.o (.a .A .D) .C<|.o (.n 11) .E<|.z (.a .B .E) .D) rfl hl b (el<|ac<|c));rw[au] at d;have a:∀{l},fr (bQ O (.a 5<|.c (.v 0)<|.c (.i 138) .n) ⟨[.f<|iN r,l],W⟩)=fU (iN<|min r 138,⟨[.f<|iN r,l],W⟩):=eL (eK (ag rfl)<|bc (i:=138)) I8 rfl;refine Rr XO ?_;refine Rr (bf h)<|qL (cw (ag rfl) eZ<|Aw<|bT<|c8.2 h) (aL (σ1:=⟨[.f<|iN r,.o<|rV<|acc++[(18,7,min r 138-11)]],W⟩) ((py rfl (qn (bc (i:=18)) (bc (i:=7))<|aY a (bc (i:=11))<|jf (bv b).symm) rfl (by refine Rr pb ?_;exact dT (.s .A) .B (.o (.a .A .C) .B<|.z (.n 11) .C) rfl hl h)).trans<|by refine Rr (show rV (acc++[(18,7,min r 138-11)])=rV acc++[wN (18,7,min r 138-11)] from aC) ?_;rfl)
    (aL (nS rfl a rfl (FN (bv c).symm)) bY)) rfl d
  .refine Rr (show rl 18 7 11 138 f r=([],r) from (by cases f with
   |zero=>rfl
   |succ f=>exact aK h)) ?_;rw[bn]
   exact jk<|cw (ag rfl) eZ<|Aw<|Wq λh'=>h<|c8.1 h'
theorem PA:∀(f r N:Nat) (acc:List<|Nat×Nat×Nat),r<=f->f<N->acc.length+r<=aq->
  iC (jJ O<|.c .a (.v 1)<|.i 3) (gM dn O<|.c (.d 2<|.t<|.c (.i 16)<|.c (.i 2)<|.c (.b .s (.a 5<|.c (.v 1)<|.c (.i 6) .n)<|.i 3) .n)<|.c (.j .s 1<|.a 5<|.c (.v 1)<|.c (.i 6) .n) .n) N ⟨[l,.f<|iN r,.o<|rV acc],W⟩=
   fU (.n,⟨[l,.f<|iN (rl 16 2 3 6 f r).2,.o<|rV<|acc++(rl 16 2 3 6 f r).1],W⟩)
 |f,r,N+1,acc,hr,hN,hl=>by
  by_cases h:3<=r
  .obtain⟨f,rfl⟩:∃g,f=g+1:=⟨f-1,by exact aj ((ck _ _))<|(el<|ac<|c9 .i .A (.o .B .A<|.z (.n 3) .B) rfl hr h)⟩;have c:min r 6<=r:=fK ..
   have b:3<=min r 6:=qy.2 ⟨h,by decide⟩;have d:=PA (O:=O) (l:=l) f (r-min r 6) N (acc++[(16,2,min r 6-3)]) (gy .A .B (.o .C (.s .B)<|.o (.n 3) .D<|.z (.a .A .D) .C) rfl hr b (el<|ac<|c)) (bX hN) (by refine Rr af<|Rr dD ?_;exact pI (.a (.s .A) .B) .C (.o (.a .A .D) .C<|.o (.n 3) .E<|.z (.a .B .E) .D) rfl hl b (el<|ac<|c));rw[au] at d;have a:∀{x},fr (bQ O (.a 5<|.c (.v 1)<|.c (.i 6) .n) ⟨[l,.f<|iN r,x],W⟩)=fU (iN<|min r 6,⟨[l,.f<|iN r,x],W⟩):=eL (eK (ag rfl)<|bc (i:=6)) I8 rfl;refine Rr XO ?_;refine Rr (bf h)<|qL (cw (ag rfl) eZ<|Aw<|bT<|c8.2 h) (aL (σ1:=⟨[l,.f<|iN r,.o<|rV<|acc++[(16,2,min r 6-3)]],W⟩) ((py rfl (qn (bc (i:=16)) (bc (i:=2))<|aY a (bc (i:=3))<|jf (bv b).symm) rfl (by refine Rr pb ?_;exact dT (.s .A) .B (.o (.a .A .C) .B<|.z (.n 3) .C) rfl hl h)).trans<|by refine Rr (show rV (acc++[(16,2,min r 6-3)])=rV acc++[wN (16,2,min r 6-3)] from aC) ?_;rfl)
    (aL (nS rfl a rfl (FN (bv c).symm)) bY)) rfl d
  .refine Rr (show rl 16 2 3 6 f r=([],r) from (by cases f with
   |zero=>rfl
   |succ f=>exact aK h)) ?_;rw[bn]
   exact jk<|cw (ag rfl) eZ<|Aw<|Wq λh'=>h<|c8.1 h'
theorem A9(h:n<=aq):iJ .m (.l [wN x]) (iN n)=fU (.o<|rV<|ap n x):=(jH h).trans<|Rr (show rV (ap n x)=ap n (wN x) from im) rfl
theorem Fm(h:a.length+b.length<=aq):iJ .a (.l<|rV a) (.l<|rV b)=fU (.o<|rV<|a++b):=(qh<|by refine Rr pb<|Rr pb ?_;exact h).trans<|Rr (show rV (a++b)=rV a++rV b from aC) rfl
theorem Om{r:Nat}(l:0<k)(c:r<1000):cK k 333 [iN r] W=fU (.o<|rV<|uL r,W):=by
 have d:=Qd (W:=W) (O:=cK<|k-1) r r dn [] (ba _) (by unfold dn;exact dL (.s .A) (.n 100000) (.z (.s .A)<|.n 1000) rfl c) (by unfold aq;refine Rr d0 ?_;exact dL (.a (.n 0) .A) (.n 1048576) (.z (.s .A)<|.n 1000) rfl c);rw[eN] at d;have a:=AZ (s:=18) (b:=7) (lo:=11) (hi:=138) (by decide) (f:=r) (r:=r);unfold uL
 revert d a
 generalize rl 18 7 11 138 r r=x;intro d a;have e:1000<=aq:=ai rfl;have g:∀b,decide (((3:Nat):Int)<=(x.2:Nat))=b->jJ (cK<|k-1) (.c .a (.v 0)<|.i 3) ⟨[.f<|iN x.2,.o<|rV x.1],W⟩=fU (b,⟨[.f<|iN x.2,.o<|rV x.1],W⟩):=λb j=>cw (ag rfl) (bc (i:=3))<|Aw j;refine cX l rfl rfl rfl rfl ?_;by_cases h:3<=x.2
 .refine Rr (bf h) ?_;exact dM (σ:=⟨[.f<|iN 0,.f<|.l<|rV<|x.1++[(17,3,x.2-3)]],W⟩)<|aL (σ1:=⟨[.f<|iN r,.o<|rV []],W⟩) rfl<|aL (pp d)<|aL (σ1:=⟨[.f<|iN 0,.o<|rV<|x.1++[(17,3,x.2-3)]],W⟩) (jK (g Z8<|bT<|c8.2 h)
   (aL (σ1:=⟨[.f<|iN x.2,.o<|rV<|x.1++[(17,3,x.2-3)]],W⟩) ((py rfl (qn (bc (i:=17)) (bc (i:=3))<|aY (ag rfl) (bc (i:=3))<|jf (bv h).symm) rfl (by refine Rr pb ?_;exact gy (.s .A) .B (.o (.s .C) (.n 1000)<|.o (.a .A .D) .C<|.z (.n 1000) .B) rfl c a e)).trans<|by refine Rr (show rV (x.1++[(17,3,x.2-3)])=rV x.1++[wN (17,3,x.2-3)] from aC) ?_;rfl)<|aL rfl bY))<|
   ee rfl<|fh<|(du (e9 rfl rfl rfl) (de (du (iz (bI<|qn (bc (i:=0)) (bc (i:=0))<|bc (i:=0))<|ai rfl) (ag rfl)<|A9<|bS _) rfl)<|Fm<|by refine Rr af<|Rr dD ?_;exact gy (.p (.s .A) 0) .B (.o (.s .C) (.n 1000)<|.o (.a .A .D) .C<|.z (.n 1000) .B) rfl c a e).trans<|by refine Rr List.replicate_zero ?_;rw[bn];rfl
 .refine Rr (aK h) ?_;exact dM (σ:=⟨[.f<|iN x.2,.f<|.l<|rV x.1],W⟩)<|aL (σ1:=⟨[.f<|iN r,.o<|rV []],W⟩) rfl<|aL (pp d)<|aL (fg (g Z7<|Wq λh'=>h<|c8.1 h') bY)<|
   ee rfl<|fh<|du (e9 rfl rfl rfl) (de (du (iz (bI<|qn (bc (i:=0)) (bc (i:=0))<|bc (i:=0))<|ai rfl) (ag rfl)<|A9<|c9 .A .B (.o (.n 1000) .B<|.z (.s .A)<|.n 3) rfl e (b8 h)) rfl)<|Fm<|by refine Rr bD ?_;exact gy (.a .A .B) .C (.o (.s .D) (.n 1000)<|.o (.a .A .B) .D<|.z (.n 1000) .C) rfl c a e
theorem Nu{l r:Nat}(g:0<k)(a:r<1000):cK k 340 [iN l,iN r] W=fU (.o<|rV<|z5 l r,W):=by
 have e:=PA (W:=W) (O:=cK<|k-1) (l:=.f<|iN l) r r dn [] (ba _) (by unfold dn;exact dL (.s .A) (.n 100000) (.z (.s .A)<|.n 1000) rfl a) (by unfold aq;refine Rr d0 ?_;exact dL (.a (.n 0) .A) (.n 1048576) (.z (.s .A)<|.n 1000) rfl a);rw[eN] at e;have d:=AZ (s:=16) (b:=2) (lo:=3) (hi:=6) (by decide) (f:=r) (r:=r);have c:1000<=aq:=ai rfl;exact cX g rfl rfl rfl rfl<|dM (σ:=⟨[.f<|iN l,.f<|iN (rl 16 2 3 6 r r).2,.f<|.l<|rV (rl 16 2 3 6 r r).1],W⟩)<|aL (σ1:=⟨[.f<|iN l,.f<|iN r,.o<|rV []],W⟩) rfl<|aL (pp e)<|
  ee rfl<|fh<|du (e9 rfl rfl rfl) (de (du (iz (bI<|qn (ag rfl) (bc (i:=0))<|bc (i:=0))<|ai rfl) (ag rfl)<|A9<|gy .A .B (.o (.s .C) (.n 1000)<|.o (.a .D .A) .C<|.z (.n 1000) .B) rfl a d c) rfl)<|Fm<|by refine Rr bD ?_;exact gy (.a .A .B) .C (.o (.s .D) (.n 1000)<|.o (.a .A .B) .D<|.z (.n 1000) .C) rfl a d c
end
noncomputable def gW(x:Nat)(r:List Nat):Nat:=(r.takeWhile λy=>decide (y=x)).length
theorem vI:gW x r<=r.length:=(iw _).length_le
noncomputable def kM(x n:Nat):List<|Nat×Nat×Nat:=if x=0 then uL (n+1) else(x,0,0)::z5 x n
noncomputable def rr:Nat->List Nat->List (Nat×Nat×Nat)
 |0,_=>[]
 |_+1,[]=>[]
 |f+1,x::r=>kM x (gW x r)++rr f (r.drop<|gW x r)
theorem yf:(kM x n).length<=n+1:=by
 unfold kM;split
 .exact zC
 .exact md zL
theorem vp{L:List Nat}{r:List Nat}(h:L.drop a=x::r):a<L.length/\L.getD a 0=x/\L.drop (a+1)=r:=by
 have b:a<L.length:=b8 λh'=>by rw[hY h'] at h;injection h
 rw[<-jv b] at h;refine iB (jz.inj h) λc d=>⟨b,by refine Rr al<|Rr (aI b) ?_;exact c,d⟩
section
variable{k:Nat}{W:Wd}{L:List Nat}
noncomputable def rS(L:List Nat)(W:Wd)(acc:List<|Nat×Nat×Nat)(a:Nat)(lv:LV):St:=⟨[.f<|.l<|nL L,.o<|rV acc,.f<|iN a,lv],W⟩
noncomputable abbrev rT:Te:=.a<|.c (.c .l (.b .a (.v 2)<|.v 3)<|.a 0<|.c (.v 0) .n)<|.c (.c .e (.s (.v 0)<|.b .a (.v 2)<|.v 3)<|.s (.v 0)<|.v 2) .n
theorem Rh{O:jU}{a x:Nat}(j:L.length<=aq)(r:a<L.length)(t:L.getD a 0=x):∀(q:List Nat) (n N:Nat),L.drop (a+n)=q->q.length<N->
  iC (jJ O rT) (gM dn O<|.c (.j .a 3<|.i 1) .n) N (rS L W acc a<|.f<|iN n)=fU (.n,rS L W acc a<|.f<|iN<|n+gW x q):=by
 intro q;induction q with
 |nil=>
  intro n N;cases N with
  |zero=>intro _ c;exact bq c<|cn _
  |succ N=>intro f _;exact jk<|kj<|gi<|cw (aY (ag rfl) (ag rfl) dE) (eL (bI<|ag rfl) gH rfl)<|pG<|Wq λh=>bq (aN.1 h)<|eU.2<|jQ.1 f
 |cons y q d=>
  intro n N;cases N with
  |zero=>intro _ c;exact bq c<|cn _
  |succ N=>
   intro f c;refine hV (vp f) λg m o=>?_;have k:jJ O (.c .l (.b .a (.v 2)<|.v 3)<|.a 0<|.c (.v 0) .n) (rS L W acc a<|.f<|iN n)=fU (Z8,rS L W acc a<|.f<|iN n):=cw (aY (ag rfl) (ag rfl) dE) (eL (bI<|ag rfl) gH rfl)<|pG<|bT<|aN.2 g;have l:∀b,decide (((y:Nat):Int)=(x:Nat))=b->jJ O (.c .e (.s (.v 0)<|.b .a (.v 2)<|.v 3)<|.s (.v 0)<|.v 2) (rS L W acc a<|.f<|iN n)=fU (b,rS L W acc a<|.f<|iN n):=λb s=>cw (cQ (ag rfl) (aY (ag rfl) (ag rfl) dE)<|(fu g j).trans<|Rr m rfl) (cQ (ag rfl) (ag rfl)<|(fu r j).trans<|Rr t rfl)<|o8 s
   by_cases e:y=x
   .have d:=d (n+1) N o<|bX c;rw[show n+1+gW x q=n+gW x (y::q) by unfold gW;refine Rr (gr (p:=λy=>decide (y=x))<|bT e)<|Rr aV ?_;rw[eE,bZ]] at d;exact qL (kj<|fq k<|fq (l Z8<|bT<|bx cV e) iA) (aL (nS rfl (bc (i:=1)) rfl rfl) bY) rfl d
   .refine Rr (show gW x (y::q)=0 by unfold gW;rw[gu (p:=λy=>decide (y=x)) λh=>e<|dG h];rfl) ?_;exact jk<|kj<|fq k<|gi<|l Z7<|Wq λh=>e<|b7.1 h
theorem QK:rV (a++b)=rV a++rV b:=aC
noncomputable abbrev rrT:Te:=.c .l (.v 2)<|.a 0<|.c (.v 0) .n
noncomputable abbrev WZ:iX:=.c (.a 3<|.i 1)<|.c (.w rT<|.c (.j .a 3<|.i 1) .n)<|.c (.i (.c .e (.s (.v 0)<|.v 2)<|.i 0) (.c (.p 1<|.c 333<|.c (.v 3) .n) .n)<|.c (.d 1<|.t<|.c (.s (.v 0)<|.v 2)<|.c (.i 0)<|.c (.i 0) .n)<|.c (.p 1<|.c 340<|.c (.s (.v 0)<|.v 2)<|.c (.b .s (.v 3)<|.i 1) .n) .n)<|.c (.j .a 2<|.v 3) .n
theorem Nz{acc:List<|Nat×Nat×Nat}{r:List Nat}{lv:LV}(m:0<k)(g:L.length<900)(hd:L.drop a=x::r)(o:gW x r=n)(hA:acc.length<900):
  gM dn (cK k) WZ (rS L W acc a lv)=fU (.n,rS L W (acc++kM x n) (a+(n+1))<|.f<|iN<|n+1):=by
 have c:3000<=aq:=ai rfl;refine hV (vp hd) λj s d=>?_;have p:r.length<900:=by have:=bx mK d;rw[b9] at this;exact dT (.s .A) (.n 900) (.o (.s .B) (.n 900)<|.o .A .C<|.z .C .B) rfl g (eg this) (bk _ _)
 have b:n<900:=aW (o▸vI) p;have q:=Rh (W:=W) (O:=cK k) (acc:=acc) (be<|bG g<|ao (by decide) c) j s r 1 dn d (bw p<|by decide);rw[o,cR 1] at q;have f:∀{σ:St},σ.1[0]?=fU (.f<|.l<|nL L)->σ.1[2]?=fU (.f<|iN a)->fr (bQ (cK k) (.s (.v 0)<|.v 2) σ)=fU (iN x,σ):=λt u=>cQ (ag t) (ag u)<|(fu j<|c9 .A .B (.o (.s .A) (.n 900)<|.z (.n 3000) .B) rfl g c).trans<|Rr s rfl;refine aL (σ1:=rS L W acc a<|.f<|iN 1) rfl<|aL (pp q)<|aL (σ1:=rS L W (acc++kM x n) a<|.f<|iN<|n+1) ?_<|aL (nS rfl (ag rfl) rfl rfl) bY;unfold rS;refine Rr QK ?_;unfold kM;by_cases e:x=0
 .refine Rr (bf e) ?_;exact jK (cw (f rfl rfl) (bc (i:=0))<|o8<|bT<|bx cV e)<|aL (Bo rfl (de (bh (bI<|ag rfl)<|Om m<|dL (.s<|.s .A) (.n 1000) (.z (.s .A)<|.n 900) rfl b) rfl) rfl (by refine Rr pb<|Rr pb ?_;have:=zC (r:=n+1);exact gy (.a .A .B) .C (.o (.s .A) (.n 900)<|.o (.n 3000) .C<|.o (.s .D) (.n 900)<|.z .B<|.s .D) rfl hA c b this)) bY
 .refine Rr (aK e) ?_;have:=zL (l:=x) (r:=n);exact fg (cw (f rfl rfl) (bc (i:=0))<|o8<|Wq λh=>e<|b7.1 h) (aL (σ1:=⟨[.f<|.l<|nL L,.o<|rV acc++[wN (x,0,0)],.f<|iN a,.f<|iN<|n+1],W⟩) (py rfl (qn (f rfl rfl) (bc (i:=0))<|bc (i:=0)) rfl (by refine Rr pb ?_;exact c9 (.s .A) .B (.o (.s .A) (.n 900)<|.z (.n 3000) .B) rfl hA c))
   (aL ((Bo rfl (de (bh (eK (f rfl rfl)<|aY (ag rfl) (bc (i:=1))<|jf<|cR n 1)<|Nu m<|dL (.s .A) (.n 1000) (.z (.s .A)<|.n 900) rfl b) rfl) rfl (by refine Rr af<|Rr pb<|Rr pb<|Rr dD ?_;exact gy (.a (.s .A) .B) .C (.o (.s .A) (.n 900)<|.o (.n 3000) .C<|.o (.s .D) (.n 900)<|.z .B .D) rfl hA c b this)).trans<|by rw[au];rfl) bY))
theorem PX(d:0<k)(e:L.length<900):∀(f:Nat) (q:List Nat) (acc:List<|Nat×Nat×Nat) (a N:Nat) (lv:LV),L.drop a=q->q.length<=f->f<N->acc.length+q.length<900->
  ∃c b,iC (jJ (cK k) rrT) (gM dn (cK k) WZ) N (rS L W acc a lv)=fU (.n,rS L W (acc++rr f q) c b)
 |f,[],acc,a,N+1,lv,hq,_,_,_=>(ff a lv<|by refine Rr (show rr f []=[] by cases f<;>rfl) ?_;rw[bn];exact jk<|cw (ag rfl) (eL (bI<|ag rfl) gH rfl)<|pG<|Wq λh=>bq (aN.1 h)<|eU.2<|jQ.1 hq)
 |f+1,x::r,acc,a,N+1,lv,hq,hf,hN,hA=>by
  refine hV (vp hq) λl m hd=>?_;have i:=yf (x:=x) (n:=gW x r);have j:=vI (x:=x) (r:=r);rw[aV] at hf hA;refine pK (PX d e f (r.drop<|gW x r) (acc++kM x (gW x r)) (a+(gW x r+1)) N (.f<|iN<|gW x r+1) (by refine Rl hd<|Rr jd ?_;rw[bZ,cR 1]) (by refine Rr b9 ?_;exact dT .A .B (.o (.s .C) (.s .B)<|.z .A .C) rfl hf (bk _ _)) (bX hN)<|by refine Rr af<|Rr b9 ?_;exact pI (.s<|.a (.a .A .B) .C) (.n 900) (.o (.s<|.a .A<|.s .D) (.n 900)<|.o .B (.s .E)<|.z (.a .C .E) .D) rfl hA i (el<|ac<|j)) λc b g=>?_;rw[au] at g;exact(ff c b<|qL (cw (ag rfl) (eL (bI<|ag rfl) gH rfl)<|pG<|bT<|aN.2 l) (Nz d e hq rfl (c9 (.s .A) (.n 900) (.z (.s<|.a .A<|.s .B)<|.n 900) rfl hA)) rfl g)
noncomputable def Qx(L:List Nat):List<|Nat×Nat×Nat:=rr L.length L
theorem SI(c:1<k)(b:L.length<900):cK k 326 [.l<|nL L] W=fU (.o<|rV<|Qx L,W):=by refine pK (PX (W:=W) (k:=k-1) (aA c) b L.length L [] 0 dn .u jc (ba _) (bw b<|by decide)<|by refine Rr d0 ?_;rw[bA];exact b) λa lv e=>?_;exact cX (aX c) rfl rfl rfl rfl<|dM (σ:=⟨[.f<|.l<|nL L,.u,.f<|iN a,lv],W⟩)<|aL (σ1:=⟨[.f<|.l<|nL L,.o [],.u,.u],W⟩) rfl<|aL (σ1:=rS L W [] 0 .u) rfl<|aL (pp e)<|ee rfl<|fh<|sR rfl rfl rfl
end
theorem kN:(ord C).length<=C.length:=by refine Rr wI ?_;delta nT;rw[av];exact ao (gA ..)<|bC bR
noncomputable def hA(L:List Nat):List Nat:=Iy L 257
noncomputable def hB(D:List Nat):List Nat:=Iy D 1
noncomputable def hR(L D:List Nat):List<|Nat×Nat×Nat:=Qx<|hA L++hB D
noncomputable def wA(R:List<|Nat×Nat×Nat):List Nat:=R.foldl (λc x=>bump c x.1)<|eW 19
noncomputable def hH(L D:List Nat):List Nat:=cl (fH<|wA<|hR L D) 7
noncomputable def hT(L D:List Nat):List Nat:=Iy (gN.map λs=>(hH L D).getD s 0) 4
noncomputable def px(L D:List Nat):PV:=.f 369 [.l<|nL<|hA L,.l<|nL<|hB D,.l<|rV<|hR L D,.l<|nL<|hH L D,.l<|nL<|hT L D]
theorem vn{ι:Type}{f:ι->Nat}{E:List ι}:∀{l:List Nat},(E.foldl (λl e=>bump l<|f e) l).length=l.length:=by
 induction E with
 |nil=>exact rfl
 |cons e r a=>exact a.trans mG
theorem rW:(wA R).length=19:=vn.trans e8
theorem Av:(cl C m).length=C.length:=by
 delta cl;split
 .have:∀(E:List<|Nat×Nat) (l:List Nat),(E.foldl (λl e=>l.set e.2 1) l).length=l.length:=λE=>by
   induction E with
   |nil=>exact λb=>rfl
   |cons e r a=>exact λl=>(a _).trans<|fM ..
  exact(this _ _).trans e8
 .have:∀(R:List<|List Bool) (x:Nat×List Nat),(R.foldl (MQ<|ord C) x).2.length=x.2.length:=λR=>by
   induction R with
   |nil=>exact λb=>rfl
   |cons e r a=>exact λl=>(a _).trans vn
  exact(this _ _).trans e8
theorem qm:(hH L D).length=19:=Av.trans<|sI.trans rW
theorem sz:(Iy L m).length<=L.length:=by delta Iy;refine Rr cI ?_;exact gC ..
section
variable{k:Nat}{W:Wd}{L D:List Nat}
noncomputable def hS(L D:List Nat)(W:Wd)(f:List LV)(c:LV)(x:LV×LV×LV):St:=⟨[.m,.f<|.l<|nL L,.f<|.l<|nL D]++f++[c,x.1,x.2.1,x.2.2,.u],W⟩
theorem Rw(r:4<k)(q:L.length<400)(o:D.length<400)(n:∀x∈hR L D,x.1<19):cK k 369 [.l<|nL L,.l<|nL D] W=fU (.f<|px L D,W):=by
 have u:3000<=aq:=ai rfl;have d:=sz (L:=L) (m:=257);have h:=sz (L:=D) (m:=1);have a:0<k-1:=aA (bw (by decide) r);have j:2<k-1:=aA<|bw (by decide) r
 let f1:LV:=.f<|.l<|nL<|hA L
 let f2:LV:=.f<|.l<|nL<|hB D
 let b:LV:=.f<|.l<|rV<|hR L D
 let t:LV:=.f<|.l<|nL<|hH L D
 let y:LV:=.f<|.l<|nL<|hT L D
 let U:LV×LV×LV:=(.u,.u,.u)
 refine bO (sr (is:=[9,10,11]) (body:=gM dn (cK<|k-1)<|.c (.b 8 (.v 9)<|.i 1) .n) (λc:List Nat=>c.length=19) (λc x=>hS L D W [f1,f2,b,.u,.u] (.o<|nL c) x) wN (λc x=>bump c x.1) (l:=hR L D) (x:=eW 19) (lv:=U) e8
  λc lv hc x z=>(ou (hS L D W [f1,f2,b,.u,.u] (.o<|nL c) (.f<|iN x.1,.f<|iN x.2.1,.f<|iN x.2.2)) .n (.f<|iN x.1,.f<|iN x.2.1,.f<|iN x.2.2) ⟨rfl,aL (wR rfl rfl (ag rfl) (hc▸n x z) (c9 .A .B (.o (.n 3000) .B<|.z .A<|.n 19) rfl u (el hc))) bY,rfl,mG.trans hc⟩)) λlv e A=>?_
 let σ5:St:=hS L D W [f1,f2,b,.u,.u] (.o<|nL<|wA<|hR L D) lv
 let σ6:St:=hS L D W [f1,f2,b,t,.u] (.f<|.l<|nL<|wA<|hR L D) lv
 have v:(fH<|wA<|hR L D).length=19:=sI.trans rW;have ho:(ord<|fH<|wA<|hR L D).length<=19:=v▸kN;have w:bQ (cK<|k-1) (.o (.s (.j 6)<|.v 12) [12] (.c 223 .n) .n) σ6=fU (.o<|nL<|gN.map λs=>(hH L D).getD s 0,σ6):=by
  refine(BD (O:=cK<|k-1) (i:=12) (f:=iN) (l:=gN) (g:=λs=>iN<|(hH L D).getD s 0) (de (bh jl<|RY a) rfl) dy rfl (ai rfl) λs n=>?_).trans<|Rr rd rfl;have n:s<(hH L D).length:=by refine Rr qm<|dG<|aU.1 (by decide:gN.all (λs=>decide (s<19))=Z8) s n
  exact cQ (mq rfl rfl) (ag rfl)<|fu n<|by refine Rr qm ?_;exact ai rfl
 exact Bq (σ:=hS L D W [f1,f2,b,t,y] (.f<|.l<|nL<|wA<|hR L D) lv) (aX r) rfl rfl rfl rfl
  (aL (σ1:=hS L D W [f1,.u,.u,.u,.u] .u U) (jD (σ1:=hS L D W [.u,.u,.u,.u,.u] .u U) (de (bh (eK (ag rfl)<|bc (i:=257))<|Kr a<|dL (.s .A) (.n 1000) (.z (.s .A)<|.n 400) rfl q) rfl) rfl)<|
  aL (σ1:=hS L D W [f1,f2,.u,.u,.u] .u U) (jD (σ1:=hS L D W [f1,.u,.u,.u,.u] .u U) (de (bh (eK (ag rfl)<|bc (i:=1))<|Kr a<|dL (.s .A) (.n 1000) (.z (.s .A)<|.n 400) rfl o) rfl) rfl)<|
  aL (σ1:=hS L D W [f1,f2,b,.u,.u] .u U) (jD (σ1:=hS L D W [f1,f2,.u,.u,.u] .u U) (de (bh (bI (p:=.l<|nL<|hA L++hB D)<|oM (mq rfl rfl) (mq rfl rfl)<|(qh<|by refine Rr jA<|Rr jA ?_;delta hA hB;exact pI (.a .A .B) .C (.o (.s .D) (.n 400)<|.o (.s .E) (.n 400)<|.o (.n 3000) .C<|.o .A .D<|.z .B .E) rfl q o u d h).trans<|Rl aC rfl)<|SI (bw (by decide) j)<|by refine Rr af ?_;delta hA hB;exact gy (.s<|.a .A .B) (.n 900) (.o (.s .C) (.n 400)<|.o (.s .D) (.n 400)<|.o .A .C<|.z .B .D) rfl q o d h) rfl) rfl)<|
  aL (σ1:=hS L D W [f1,f2,b,.u,.u] (.o<|nL<|eW 19) U) (cY (σ1:=hS L D W [f1,f2,b,.u,.u] .u U)<|du (iz (bI<|bc (i:=0))<|by decide) (bc (i:=19))<|(jH<|by decide).trans<|by refine Rr tQ ?_;rfl)<|
  aL (σ1:=σ5) (kn (mq rfl rfl) dy e)<|
  aL (σ1:=σ6) (jD (σ1:=hS L D W [f1,f2,b,.u,.u] (.f<|.l<|nL<|wA<|hR L D) lv) (de (bh (eK (de (bh (bI<|e9 rfl rfl rfl)<|PM a (by refine Rr rW ?_;decide)<|by refine Rr rW ?_;decide) rfl)<|bc (i:=7))<|QW j (by refine Rr v ?_;decide) (dL (.s .A) (.n 64) (.z .A<|.n 19) rfl ho) (by decide)<|dL .A (.n 128) (.z .A<|.n 19) rfl ho) rfl) rfl)<|
  aL (jD (σ1:=σ6) (de (bh (eK (de w rfl)<|bc (i:=4))<|Kr a<|by rw[av];decide) rfl) rfl) bY) rfl
end
theorem xy{α ι:Type}{body:St->Option (Fl×St)}(S:List Bool->α->St)(f:ι->PV)(g:ι->List Bool)(c M:Nat){l:List ι}:∀{bs:List Bool} {lv:α},bs.length+c*l.length<=M->(∀i∈l,(g i).length<=c)->
  (∀bs lv,bs.length+c<=M->∀i∈l,∃σ1 j a,qU is (f i) (S bs lv)=fU σ1/\body σ1=fU (j,S (bs++g i) a)/\(BR j).isSome=Z7)->∃a,oy is body (l.map f) (S bs lv)=fU (.n,S (bs++l.flatMap g) a):=by
 induction l with
 |nil=>exact λ{bs lv} uu uu uu=>⟨lv,by refine Rr List.flatMap_nil ?_;rw[bn];rfl⟩
 |cons i l n=>intro bs lv b k h;rw[aV,hX] at b;refine p6 (h bs lv (gy (.a .A .B) .C (.z (.a .A<|.a .D .B) .C) rfl b) i<|.head _) λσ1 j pq ha hb' hf=>?_;have m:=k i<|.head _;refine rX (n (bs:=bs++g i) (lv:=pq) (by refine Rr af ?_;exact pI (.a (.a .A .B) .C) .D (.o (.a .A<|.a .C .E) .D<|.z .B .E) rfl b m) (λq d=>k q<|.tail _ d) λbs lv b q d=>h bs lv b q<|.tail _ d) λa e=>?_;refine⟨a,?_⟩;refine Rr eX ?_;rw[<-au];exact lm ha hb' hf e
section
variable{k:Nat}{W:Wd}{L D:List Nat}
noncomputable def Dt(L D:List Nat):Nat:=(hR L D).foldl (λt x=>t+((hH L D).getD x.1 0+x.2.1))<|14+3*(hT L D).length
theorem Mh(b:0<k)(c:∀x∈hR L D,x.1<19):cK k 359 [px L D] W=fU (.f<|iN<|Dt L D,W):=by
 have a:3000<=aq:=ai rfl;refine rX (xE (is:=[2,3,4]) (body:=gM dn (cK<|k-1)<|.c (.j .a 1<|.b .a (.s (.d (.v 0) 369 3)<|.v 2)<|.v 3) .n) (λt (x:LV×LV×LV)=>⟨[.f<|px L D,.f<|iN t,x.1,x.2.1,x.2.2],W⟩) wN (λt x=>t+((hH L D).getD x.1 0+x.2.1)) (l:=hR L D) (x:=14+3*(hT L D).length) (lv:=(.u,.u,.u))
  λt lv x d=>(ou ⟨[.f<|px L D,.f<|iN t,.f<|iN x.1,.f<|iN x.2.1,.f<|iN x.2.2],W⟩ .n (.f<|iN x.1,.f<|iN x.2.1,.f<|iN x.2.2) ⟨rfl,aL (nS rfl (aY (cQ (gI (ag rfl) rfl) (ag rfl)<|fu (qm▸c x d)<|by refine Rr qm ?_;exact dL (.n 19) .A (.z (.n 3000) .A) rfl a) (ag rfl) dE) rfl rfl) bY,rfl⟩)) λlv e=>?_
 exact cX b rfl rfl rfl rfl<|dM (σ:=⟨[.f<|px L D,.f<|iN<|Dt L D,lv.1,lv.2.1,lv.2.2],W⟩)<|aL (σ1:=⟨[.f<|px L D,.f<|iN<|14+3*(hT L D).length,.u,.u,.u],W⟩) (cY (σ1:=⟨[.f<|px L D,.u,.u,.u,.u],W⟩)<|du (bc (i:=14)) (aY (bc (i:=3)) (eL (bI<|gI (ag rfl) rfl) gH rfl)<|m4<|by decide) dE)<|
  aL (kn (gI (ag rfl) rfl) dy e)<|ee rfl<|fh<|tJ rfl
theorem jC(e:1<k)(ho:sl[i]?=fU (.f .o))(a:fr (bQ (cK k) h ⟨sl,wB W<|fQ bs⟩)=fU (iN v,⟨sl,wB W<|fQ bs⟩))(b:fr (bQ (cK k) j ⟨sl,wB W<|fQ bs⟩)=fU (iN c,⟨sl,wB W<|fQ bs⟩))
  (f:v<2^c)(hc:c<64)(d:bs.length+c<=aq):ph N (cK k) (.e<|.m 96 127 (.v i)<|.c h<|.c j .n) ⟨sl,wB W<|fQ bs⟩=fU (.n,⟨sl,wB W<|fQ<|bs++cM v c⟩):=
 j6 (i6 (ag ho) (eK a b) (nw rfl) (MB e f hc rfl d) rfl)
theorem yc{N s i j:Nat}{e:Ex}{sl:List LV}{bs:List Bool}(c:2<k)(hi:sl[i]?=fU (.f<|vw L))(ho:sl[j]?=fU (.f .o))(h:fr (bQ (cK k) e ⟨sl,wB W<|fQ bs⟩)=fU (iN s,⟨sl,wB W<|fQ bs⟩))
  (d:L.length<=aq)(f:0<L.getD s 0)(a:L.getD s 0<64)(b:bs.length+64<=aq):ph N (cK k) (.e<|.m 192 195 (.v i)<|.c (.v j)<|.c e .n) ⟨sl,wB W<|fQ bs⟩=fU (.n,⟨sl,wB W<|fQ<|bs++ft L s⟩):=
 j6 (i6 (ag hi) (eK (ag ho) h) rfl (J9 c d f a rfl b) rfl)
noncomputable def hJ(H:List Nat)(x:Nat×Nat×Nat):List Bool:=ft H x.1++cM x.2.2 x.2.1
noncomputable def fC(L D:List Nat):List Bool:=cM ((hA L).length-257) 5++cM ((hB D).length-1) 5++cM ((hT L D).length-4) 4++(hT L D).flatMap (λt=>cM t 3)++(hR L D).flatMap (hJ<|hH L D)
theorem gT:(ft H s).length=H.getD s 0:=by unfold ft;exact Rr gZ<|Rr a8 rfl
structure tU (L D:List Nat):Prop where
 a:257<=(hA L).length/\(hA L).length<289
 b:1<=(hB D).length/\(hB D).length<33
 t:4<=(hT L D).length/\(hT L D).length<20
 t8:∀t∈hT L D,t<8
 room:0<=room ((ro<|hH L D).drop 1) 1
 h:kh (hH L D)<8
 r:∀x∈hR L D,x.1<19/\0<(hH L D).getD x.1 0/\x.2.1<8/\x.2.2<2^x.2.1
theorem eC:L.getD s 0<=kh L:=by
 refine Rr al ?_;rcases eI s L.length with h|h
 .refine Rr (aI h) ?_;exact q8<|ib h
 .refine Rr (ch h) ?_;exact bS _
theorem my{ι:Type}{g:ι->List Bool}{c:Nat}{l:List ι}(h:∀i∈l,(g i).length<=c):(l.flatMap g).length<=c*l.length:=by
 induction l with
 |nil=>exact bS _
 |cons a r b=>refine Rr eX<|Rr af<|Rr aV ?_;rw[hX,cR];exact il (b λi hi=>h i<|.tail _ hi)<|h a<|.head _
theorem wb(h:tU L D):∀x∈hR L D,(hJ (hH L D) x).length<=16:=λx c=>by
 have a:=(h.7 x c).2.2.1;have b:=aW eC h.6 (n:=(hH L D).getD x.1 0);unfold hJ;rw[af,gT,a8];exact c9 (.a .A .B) (.n 16) (.o (.s .B) (.n 8)<|.z (.s .A)<|.n 8) rfl a b
theorem u6(h:tU L D)(a:(hR L D).length<900):(fC L D).length<=20000:=by have b:=my (l:=hT L D) (g:=λt=>cM t 3) (c:=3) λe e=>bC a8;have d:=my<|wb h;have:=h.3.2;unfold fC;rw[af,af,af,af,a8,a8,a8];exact gy (.a (.a (.p (.p (.n 5) 5) 4) .A) .B) (.n 20000) (.c 16 (.s .C) (.n 900)<|.o .A (.m 3 .D)<|.o .B (.m 16 .C)<|.c 3 (.s .D) (.n 20) .e) rfl a b d this
theorem Xy{bs:List Bool}(s:6<k)(h:tU L D)(u:(hR L D).length<900)(I:W.1=fU (fQ bs))(a:bs.length+200000<=aq):cK k 366 [px L D,.o] W=fU (.f .none,wB W<|fQ<|bs++fC L D):=by
 have A:3000<=aq:=ai rfl;have b:1<k-1:=aA (bw (by decide) s);have y:2<k-1:=aA<|bw (by decide) s
 let S:LV->LV->LV×LV×LV->List Bool->St:=λl c x bs=>⟨[.f<|px L D,.f .o,l,c,x.1,x.2.1,x.2.2],wB W<|fQ bs⟩
 let U:LV×LV×LV:=(.u,.u,.u)
 let m:=bs++cM ((hA L).length-257) 5
 let b2:=m++cM ((hB D).length-1) 5
 let n:=b2++cM ((hT L D).length-4) 4
 have B:m.length=bs.length+5:=by show(bs++_).length=_;exact Rr af<|Rr a8 rfl
 have C:b2.length=bs.length+10:=by show(m++_).length=_;exact Rr af<|Rr a8<|Rr B rfl
 have E:n.length=bs.length+14:=by show(b2++_).length=_;exact Rr af<|Rr a8<|Rr C rfl
 refine iB h.1 λo v=>iB h.2 λp w=>iB h.3 λr j=>rX (xy (is:=[2]) (body:=gM dn (cK<|k-1)<|.c (.e<|.m 96 127 (.v 1)<|.c (.v 2)<|.c (.i 3) .n) .n) (λbs l=>S l .u U bs) iN (λt=>cM t 3) 3 (aq-100) (l:=hT L D) (bs:=n) (lv:=.u) (by rw[E];exact gy (.a (.p .A 14)<|.m 3 .B) .C (.o (.p .A 200000) .D<|.c 3 (.s .B) (.n 20)<|.z .D<|.p .C 100) rfl a j (ck _ _)) (λt G=>bC a8)
  λbs lv a t H=>(ou (S (.f<|iN t) .u U bs) .n (.f<|iN t) ⟨rfl,aL (jC b rfl (ag rfl) (bc (i:=3)) (h.4 t H) (by decide) (ao a<|bk _ _)) bY,rfl⟩)) λlv e=>?_
 let f:=n++(hT L D).flatMap λt=>cM t 3
 have M:f.length<=bs.length+74:=by have:=my (l:=hT L D) (g:=λt=>cM t 3) (c:=3) λG G=>bC a8;rw[af,E];exact dT (.a (.p .A 14) .B) (.p .A 74) (.c 3 (.s .C) (.n 20)<|.z .B<|.m 3 .C) rfl j this
 refine rX (xy (is:=[4,5,6]) (body:=gM dn (cK<|k-1)<|.c (.e<|.m 192 195 (.v 3)<|.c (.v 1)<|.c (.v 4) .n)<|.c (.e<|.m 96 127 (.v 1)<|.c (.v 6)<|.c (.v 5) .n) .n) (λbs x=>S lv (.f<|vw<|hH L D) x bs) wN (hJ<|hH L D) 16 (aq-100) (l:=hR L D) (bs:=f) (lv:=U) (pI (.a .A<|.m 16 .B) .C (.c 16 (.s .B) (.n 900)<|.o (.p .D 200000) .E<|.o .A (.p .D 74)<|.z .E<|.p .C 100) rfl u a M (ck _ _))
  (wb h)
  λbs Q a x J=>by
   obtain⟨R,O,F,P⟩:=h.7 x J;have z:(hH L D).getD x.1 0<8:=aW eC h.6;refine(ou (S lv (.f<|vw<|hH L D) (.f<|iN x.1,.f<|iN x.2.1,.f<|iN x.2.2) bs) .n (.f<|iN x.1,.f<|iN x.2.1,.f<|iN x.2.2) ⟨rfl,?_,rfl⟩);unfold hJ;rw[<-au];exact aL (yc y rfl rfl (ag rfl) (by refine Rr qm ?_;exact dL (.n 19) .A (.z (.n 3000) .A) rfl A) O (bw z<|by decide) (dT (.p .A 64) .B (.o (.p .A 16) .C<|.z (.p .C 100) .B) rfl a (el<|ac<|dL (.n 100) .A (.z (.n 3000) .A) rfl A)))<|aL (jC b rfl (ag rfl) (ag rfl) P (bw F<|by decide) (by refine Rr af<|Rr gT ?_;exact pI (.a (.a .A .B) .C) .D (.o (.p .A 16) .E<|.o (.s .C) (.n 8)<|.o (.s .B) (.n 8)<|.z .E .D) rfl a F z (bk _ _))) bY) λN e'=>?_
 have d:∀{i l},∀{σ:St},fr (bQ (cK<|k-1) (.d (.v 0) 369 i) σ)=fU (.l<|nL l,σ)->fr (bQ (cK<|k-1) (.a 0<|.c (.d (.v 0) 369 i) .n) σ)=fU (iN l.length,σ):=λh=>eL (bI h) gH rfl;have q:bs++fC L D=f++(hR L D).flatMap (hJ<|hH L D):=by unfold fC;simp only [f,n,b2,m,au]
 refine Rr q<|cX (aX s) rfl rfl rfl rfl<|pe (σ:=S lv (.f<|vw<|hH L D) N<|f++(hR L D).flatMap (hJ<|hH L D))<|Rl (sE I)<|aL (σ1:=S .u .u U m) (jC b rfl (aY (d<|gI (ag rfl) rfl) (bc (i:=257))<|jf (bv o).symm) (bc (i:=5)) (c9 (.s .A) (.n 32) (.o (.s .B) (.n 289)<|.z (.p .A 257) .B) rfl v (el<|ac<|o)) (by decide) (c9 (.p .A 5) .B (.z (.p .A 200000) .B) rfl a))<|
  aL (σ1:=S .u .u U b2) (jC b rfl (aY (d<|gI (ag rfl) rfl) (bc (i:=1))<|jf (bv p).symm) (bc (i:=5)) (c9 (.s .A) (.n 32) (.o (.s .B) (.n 33)<|.z (.s .A) .B) rfl w (el<|ac<|p)) (by decide) (dT (.p .A 5) .B (.o (.p .C 200000) .B<|.z .A<|.p .C 5) rfl a (el B)))<|
  aL (σ1:=S .u .u U n) (jC b rfl (aY (d<|gI (ag rfl) rfl) (bc (i:=4))<|jf (bv r).symm) (bc (i:=4)) (c9 (.s .A) (.n 16) (.o (.s .B) (.n 20)<|.z (.p .A 4) .B) rfl j (el<|ac<|r)) (by decide) (dT (.p .A 4) .B (.o (.p .C 200000) .B<|.z .A<|.p .C 10) rfl a (el C)))<|
  aL (kn (gI (ag rfl) rfl) dy e)<|
  aL (σ1:=S lv (.f<|vw<|hH L D) U f) (cY (σ1:=S lv .u U f)<|bh (bI<|gI (ag rfl) rfl)<|K8 (aA s) (by refine Rr qm ?_;exact c9 (.s<|.n 19) .A (.z (.p .B 200000) .A) rfl a) (ao (be h.6)<|by decide) h.5)<|
  aL (kn (gI (ag rfl) rfl) dy e') bY
end
structure lP (L:List Nat):Prop where
 len:L.length<1000
 max:kh L<=15
 room:0<=room ((ro L).drop 1) 1
noncomputable def j7(L D:List Nat)(p:Nat×Nat):List Bool:=
 if p.2=0 then ft L p.1 else ft L (iI p.1).1++(cM (iI p.1).2.2 (iI p.1).2.1++(ft D (jB p.2).1++cM (jB p.2).2.2 (jB p.2).2.1))
noncomputable def fO(L D:List Nat)(ps:List<|Nat×Nat):List Bool:=ps.flatMap (j7 L D)++ft L 256
def wv(L D:List Nat)(p:Nat×Nat):Prop:=if p.2=0 then 0<L.getD p.1 0 else 0<L.getD (iI p.1).1 0/\0<D.getD (jB p.2).1 0
theorem yh:(split n s).2.2<2^(split n s).2.1:=dR _<|eO _
theorem zy:(iI l).2.2<2^(iI l).2.1:=by
 unfold iI;split
 .exact jT
 .exact yh
theorem vA(h:l<=258):(iI l).2.1<=16:=by
 unfold iI;split
 .exact bS _
 .exact Lm<|aW (fX<|ao (bk ..) h)<|by decide
theorem vF(h:d<=32768):(jB d).2.1<=16:=Lm<|aW (fX<|ao (bk ..) h)<|by decide
theorem w9(h:o7 p)(g:lP L)(f:lP D):(j7 L D p).length<=64:=by
 have d:=eC (L:=L) (s:=p.1);have i:=eC (L:=L) (s:=(iI p.1).1);have j:=eC (L:=D) (s:=(jB p.2).1);have e:=g.2;have k:=f.2;unfold j7;split
 .refine Rr gT ?_;exact c9 .A (.n 64) (.o .A .B<|.z .B<|.n 15) rfl d e
 .rename_i b;refine hV (mi h b) λa l c=>?_;have:=vA c;have:=vF a;refine Rr af<|Rr af<|Rr af<|Rr gT<|Rr gT<|Rr a8<|Rr a8 ?_;omega
theorem yx(c:∀p∈ps,o7 p)(a:lP L)(b:lP D):(fO L D ps).length<=64*ps.length+15:=by unfold fO;refine Rr af<|Rr gT ?_;exact il (my λp h=>w9 (c p h) a b)<|ao eC a.2
section
variable{k:Nat}{W:Wd}{L D:List Nat}
theorem Gz(N:6<k)(hp:∀p∈ps,o7 p/\wv L D p)(F:0<L.getD 256 0)(Z:ps.length<1000)(w:lP L)(G:lP D)(hw:W.1=fU (fQ bs))(y:bs.length+200000<=aq):
  cK k 380 [.o,.l<|ps.map hU,.l<|nL L,.l<|nL D] W=fU (.f .none,wB W<|fQ<|bs++fO L D ps):=by
 have v:3000<=aq:=ai rfl;have m:1<k-1:=aA (bw (by decide) N);have n:2<k-1:=aA (bw (by decide) N);have I:5<k-1:=aA N;have j:=w.1;have H:=G.1
 let S:LV->LV->LV×LV×LV×LV->List Bool->St:=λa d x bs=>⟨[.f .o,.f<|.l<|ps.map hU,.f<|.l<|nL L,.f<|.l<|nL D,a,d,x.1,x.2.1,x.2.2.1,x.2.2.2],wB W<|fQ bs⟩
 let U:LV×LV×LV×LV:=(.u,.u,.u,.u)
 let A:LV:=.f<|vw L
 let B:LV:=.f<|vw D
 have Y:∀p∈ps,(j7 L D p).length<=64:=λp P=>w9 (hp p P).1 w G;obtain⟨lv,e⟩:=xy (is:=[6]) (body:=gM dn (cK<|k-1)<|.c (.i (.e<|.a 8<|.c (.v 6) .n) (.c (.c [7,8,9]<|.c 251<|.c (.s (.v 6)<|.i 0) .n)<|.c (.e<|.m 192 195 (.v 4)<|.c (.v 0)<|.c (.v 7) .n)<|.c (.e<|.m 96 127 (.v 0)<|.c (.v 9)<|.c (.v 8) .n)<|.c (.c [7,8,9]<|.c 258<|.c (.s (.v 6)<|.i 1) .n)<|.c (.e<|.m 192 195 (.v 5)<|.c (.v 0)<|.c (.v 7) .n)<|.c (.e<|.m 96 127 (.v 0)<|.c (.v 9)<|.c (.v 8) .n) .n)<|.c (.e<|.m 192 195 (.v 4)<|.c (.v 0)<|.c (.v 6) .n) .n) .n)
  (λbs x=>S A B x bs) hU (j7 L D) 64 (aq-200) (l:=ps) (bs:=bs) (lv:=U) (gy (.a .A<|.m 64 .B) .C (.c 64 (.s .B) (.n 1000)<|.o (.p .A 200000) .D<|.z .D<|.p .C 200) rfl Z y (ck _ _))
  Y
  λbs x y p Q=>by
   obtain⟨O,z⟩:=hp p Q;have f:bs.length+264<=aq:=dT (.p .A 264) .B (.o (.p .A 64) .C<|.z (.p .C 200) .B) rfl y (el<|ac<|dL (.n 200) .A (.z (.n 3000) .A) rfl v);have ht:∀b,decide (p.2≠0)=b->jJ (cK<|k-1) (.e<|.a 8<|.c (.v 6) .n) (S A B (.f<|hU p,x.2.1,x.2.2.1,x.2.2.2) bs)=fU (b,S A B (.f<|hU p,x.2.1,x.2.2.1,x.2.2.2) bs):=λb y=>wr (cE<|lN (bI<|ag rfl) vE)<|bx fU y;have u:∀{s},L.getD s 0<64:=λ{s}=>aW eC (aW w.2<|by decide);have E:∀{s},D.getD s 0<64:=λ{s}=>aW eC (aW G.2<|by decide);unfold j7;unfold wv at z;by_cases o:p.2=0
   .rw[bf o] at z⊢
    exact(ou _ .n (.f<|hU p,x.2.1,x.2.2.1,x.2.2.2) ⟨rfl,aL (fg (ht Z7<|Wq<|not_not_intro o)<|aL (yc n rfl rfl (ag<|by refine Rl (ql o) ?_;rfl) (c9 .A .B (.o (.n 3000) .B<|.z (.s .A)<|.n 1000) rfl v j) z u (c9 (.p .A 64) .B (.z (.p .A 264) .B) rfl f)) bY) bY,rfl⟩)
   .rw[aK o] at z⊢
    refine hV (mi O o) λR h2 T=>?_;have V:∀a b c bs,(S A B (.f<|hU p,a,b,c) bs).1[6]?=fU (.f<|.a [iN p.1,iN p.2]):=λa b c bs=>by refine Rl (p7 o) ?_;rfl
    let q:=iI p.1
    let r:=jB p.2
    let C:=bs++ft L q.1
    let b2:=C++cM q.2.2 q.2.1
    let M:=b2++ft D r.1
    have h:q.2.1<=16:=vA T;have t:r.2.1<=16:=vF R;have l1:C.length<=bs.length+64:=by show(bs++ft L q.1).length<=_;refine Rr af<|Rr gT ?_;exact g6 (be u) _
    have l2:b2.length<=bs.length+80:=by show(C++_).length<=_;refine Rr af<|Rr a8 ?_;exact dT (.a .A .B) (.p .C 80) (.o .B (.n 16)<|.z .A<|.p .C 64) rfl h l1
    have l3:M.length<=bs.length+144:=by show(b2++ft D r.1).length<=_;refine Rr af<|Rr gT ?_;have:=E (s:=r.1);exact dT (.a .A .B) (.p .C 144) (.o .A (.p .C 80)<|.z (.s .B)<|.n 64) rfl l2 this
    have g:bs++(ft L q.1++(cM q.2.2 q.2.1++(ft D r.1++cM r.2.2 r.2.1)))=M++cM r.2.2 r.2.1:=by simp only [M,b2,C,au]
    refine(ou (S A B (.f<|hU p,x.2.1,x.2.2.1,x.2.2.2) bs) .n (.f<|hU p,.f<|iN r.1,.f<|iN r.2.1,.f<|iN r.2.2) ⟨rfl,?_,rfl⟩);refine Rr g<|aL (jK (ht Z8<|bT o)<|
     aL (σ1:=S A B (.f<|hU p,.f<|iN q.1,.f<|iN q.2.1,.f<|iN q.2.2) bs) (kP (σ1:=S A B (.f<|hU p,x.2.1,x.2.2.1,x.2.2.2) bs) (cE<|bh (bI<|cQ (ag<|V _ _ _ _) (bc (i:=0))<|m6 (k:=0) rfl (ai rfl))<|DX m h2 T) rfl)<|
     aL (σ1:=S A B (.f<|hU p,.f<|iN q.1,.f<|iN q.2.1,.f<|iN q.2.2) C) (yc n rfl rfl (ag rfl) (c9 .A .B (.o (.n 3000) .B<|.z (.s .A)<|.n 1000) rfl v j) z.1 u (c9 (.p .A 64) .B (.z (.p .A 264) .B) rfl f))<|
     aL (σ1:=S A B (.f<|hU p,.f<|iN q.1,.f<|iN q.2.1,.f<|iN q.2.2) b2) (jC m rfl (ag rfl) (ag rfl) zy (aW h<|by decide) (gy (.a .A .B) .C (.o (.p .D 264) .C<|.o .B (.n 16)<|.z .A<|.p .D 64) rfl f h l1))<|
     aL (σ1:=S A B (.f<|hU p,.f<|iN r.1,.f<|iN r.2.1,.f<|iN r.2.2) b2) (kP (σ1:=S A B (.f<|hU p,.f<|iN q.1,.f<|iN q.2.1,.f<|iN q.2.2) b2) (cE<|bh (bI<|cQ (ag<|V _ _ _ _) (bc (i:=1))<|m6 (k:=1) rfl (ai rfl))<|ET m (dQ o) R) rfl)<|
     aL (σ1:=S A B (.f<|hU p,.f<|iN r.1,.f<|iN r.2.1,.f<|iN r.2.2) M) (yc n rfl rfl (ag rfl) (c9 .A .B (.o (.n 3000) .B<|.z (.s .A)<|.n 1000) rfl v H) z.2 E (dT (.p .A 64) .B (.o (.p .C 264) .B<|.z .A<|.p .C 80) rfl f l2))<|
     aL (jC m rfl (ag rfl) (ag rfl) yh (aW t<|by decide) (gy (.a .A .B) .C (.o (.p .D 264) .C<|.o .B (.n 16)<|.z .A<|.p .D 144) rfl f t l3)) bY) bY
 have J:(bs++ps.flatMap (j7 L D)).length<=bs.length+64000:=by have:=my Y;refine Rr af ?_;exact dT (.a .A .B) (.p .A 64000) (.c 64 (.s .C) (.n 1000)<|.z .B<|.m 64 .C) rfl Z this
 have g:bs++fO L D ps=bs++ps.flatMap (j7 L D)++ft L 256:=(au ..).symm;refine Rr g<|cX (aX N) rfl rfl rfl rfl<|pe (σ:=S A B lv<|bs++ps.flatMap (j7 L D)++ft L 256)<|Rl (sE hw)<|aL (σ1:=S A .u U bs) (cY (σ1:=S .u .u U bs)<|bh (bI<|ag rfl)<|K8 I (c9 (.s .A) .B (.o (.n 3000) .B<|.z (.s .A)<|.n 1000) rfl v j) (ao w.2<|by decide) w.3)<|aL (σ1:=S A B U bs) (cY (σ1:=S A .u U bs)<|bh (bI<|ag rfl)<|K8 I (c9 (.s .A) .B (.o (.n 3000) .B<|.z (.s .A)<|.n 1000) rfl v H) (ao G.2<|by decide) G.3)<|
  aL (kn (ag rfl) dy e)<|aL (yc n rfl rfl AG (c9 .A .B (.o (.n 3000) .B<|.z (.s .A)<|.n 1000) rfl v j) F (aW eC<|aW w.2<|by decide) (dT (.p .A 64) .B (.o (.p .C 200000) .B<|.z .A<|.p .C 64000) rfl y J)) bY
end
noncomputable def stored(bs:List Bool)(l:List UInt8)(last:Nat):List Bool:=
 let a:=bs++cM last 1++cM 0 2
 let b:=a++cM 0 (gf a.length)++cM l.length 16++cM (65535-l.length) 16
 b++cM 0 (gf b.length)++dm l
noncomputable def ri(ps:List<|Nat×Nat):Nat:=3+E2 jY nQ ps+jY.getD 256 0
section
variable{k:Nat}{W:Wd}{L D:List Nat}
theorem OX(f:0<k):cK k 408 [iN p,iN n] W=fU (.f<|iN<|3+gf (p+3)+32+8*n,W):=by
 have g:iJ .e (.i<|-((p+3:Nat):Int)) (iN 8)=fU (.f<|iN<|gf<|p+3):=by
  show(gd (decide (((8:Nat):Int)≠0))<|fU<|(-((p+3:Nat):Int)).fmod 8).map (λi=>LV.f<|.i i)=_;refine Rr (we<|by decide) ?_;have:(-((p+3:Nat):Int)).fmod 8=(gf (p+3):Nat):=by
   obtain⟨y,c⟩:∃y,y=8-(p+3)%8:=⟨_,rfl⟩;have a:y+(p+3)%8=8:=c▸ac (be<|dR _<|by decide);have d:p+3+y=8*((p+3)/8+1):=aj (gy (.a (.p .A 3) .B) (.m 8<|.s .C) (.o (.p .A 3) (.a (.m 8 .C) .D)<|.z (.a .B .D)<|.n 8) rfl (eg<|dh (p+3) 8) (el a))<|gy (.m 8<|.s .C) (.a (.p .A 3) .B) (.o (.a (.m 8 .C) .D) (.p .A 3)<|.z (.n 8)<|.a .B .D) rfl (el<|dh (p+3) 8) (eg a);have e:-((p+3:Nat):Int)=(y:Nat)+8*-(((p+3)/8+1:Nat):Int):=by have b:=bx (cV (R:=Int)) d;rw[mY,qP] at b;rewrite[Int.mul_neg];refine Rl Int.sub_eq_add_neg (Rr (show(8:Int)=((8:Nat):Int) from rfl)<|Rl b ?_);rw[Int.add_comm,<-Int.sub_sub,Int.sub_self,Int.zero_sub]
   refine Rr (oq _<|by decide)<|Rr e ?_;show((y:Int)+8*_)%8=_;rewrite[Int.add_mul_emod_self_left];refine Rr c ?_;rfl
  exact bx (λi=>fU<|LV.f<|.i i) this
 have j:fr (bQ (cK<|k-1) (.x<|.b .a (.v 0)<|.i 3) ⟨[.f<|iN p,.f<|iN n],W⟩)=fU (.i<|-((p+3:Nat):Int),⟨[.f<|iN p,.f<|iN n],W⟩):=by have h:=aY (O:=cK<|k-1) (σ:=⟨[.f<|iN p,.f<|iN n],W⟩) (l:=.v 0) (op:=.a) (ag rfl) (bc (i:=3)) dE;refine cE<|(bx (λo=>Option.bind o _) h).trans rfl
 exact cX f rfl rfl rfl rfl<|dM (σ:=⟨[.f<|iN p,.f<|iN n],W⟩)<|ee rfl<|fh<|du (aY (aY (bc (i:=3)) (aY j (bc (i:=8)) g) dE) (bc (i:=32)) dE) (aY (bc (i:=8)) (ag rfl)<|m4<|by decide) dE
theorem Le(j:4<k)(t:last<2)(m:l.length<1000)(v:W.1=fU (fQ bs))(e:bs.length+20000<=aq):cK k 387 [.o,.b l,iN last] W=fU (.f .none,wB W<|fQ<|stored bs l last):=by
 let S:List Bool->St:=λb=>⟨[.f .o,.f<|.b l,.f<|iN last],wB W<|fQ b⟩
 have a:1<k-1:=aA<|bw (by decide) j
 let g:=bs++cM last 1
 let f:=g++cM 0 2
 let b2:=f++cM 0 (gf f.length)
 let h:=b2++cM l.length 16
 let o:=h++cM (65535-l.length) 16
 have u:∀n,gf n<=8:=λn=>be (dR _<|by decide);have p:g.length=bs.length+1:=by show(bs++_).length=_;exact Rr af<|Rr a8 rfl
 have q:f.length=bs.length+3:=by show(g++_).length=_;exact Rr af<|Rr a8<|Rr p rfl
 have r:b2.length<=bs.length+11:=by show(f++_).length<=_;refine Rr af<|Rr a8<|Rr q ?_;have:=u<|bs.length+3;exact c9 (.a (.p .A 3) .B) (.p .A 11) (.z .B<|.n 8) rfl this
 have s:h.length<=bs.length+27:=by show(b2++_).length<=_;refine Rr af<|Rr a8 ?_;exact c9 (.p .A 16) (.p .B 27) (.z .A<|.p .B 11) rfl r
 have w:o.length<=bs.length+43:=by show(h++_).length<=_;refine Rr af<|Rr a8 ?_;exact c9 (.p .A 16) (.p .B 43) (.z .A<|.p .B 27) rfl s
 have d:∀{b},fr (bQ (cK<|k-1) (.a 0<|.c (.v 1) .n)<|S b)=fU (iN l.length,S b):=λ{b}=>eL (bI<|ag rfl) rfl rfl;refine cX (aX j) rfl rfl rfl rfl<|pe (σ:=S<|stored bs l last) ?_;show gM dn (cK<|k-1) um ⟨[.f .o,.f<|.b l,.f<|iN last],W⟩=_;refine Rl (sE v)<|aL (σ1:=S g) (jC a rfl (ag rfl) (bc (i:=1)) t (by decide) (c9 (.s .A) .B (.z (.p .A 20000) .B) rfl e))<|aL (σ1:=S f) (jC a rfl (bc (i:=0)) (bc (i:=2)) (by decide) (by decide) (dT (.p .A 2) .B (.o (.p .C 20000) .B<|.z .A<|.s .C) rfl e (el p)))<|
  aL (σ1:=S b2) (j6<|i6 (ag rfl) jl (nw rfl) (Gb (aA<|bw (by decide) j) rfl (dT (.p .A 8) .B (.o (.p .C 20000) .B<|.z .A<|.p .C 3) rfl e (el q))) rfl)<|
  aL (σ1:=S h) (jC a rfl d (bc (i:=16)) (bw m<|by decide) (by decide) (dT (.p .A 16) .B (.o (.p .C 20000) .B<|.z .A<|.p .C 11) rfl e r))<|
  aL (σ1:=S o) (jC a rfl (aY (bc (i:=65535)) d<|jf (c:=65535-l.length)<|aj (c9 (.n 65535) (.a .A .B) (.z (.n 65535)<|.a .B .A) rfl (ck _ _))<|c9 (.a .A .B) (.n 65535) (.z (.a .B .A)<|.n 65535) rfl (el<|ac<|dL .A (.n 65535) (.z (.s .A)<|.n 1000) rfl m)) (bc (i:=16)) (dL (.s .A) (.n 65536) (.z .A<|.n 65535) rfl (bk _ _)) (by decide) (dT (.p .A 16) .B (.o (.p .C 20000) .B<|.z .A<|.p .C 27) rfl e s))<|
  aL (j6<|i6 (ag rfl) (bI<|ag rfl) (nw rfl) (JG (aA j) rfl (gy (.a (.p .A 8)<|.m 8 .B) .C (.c 8 (.s .B) (.n 1000)<|.o (.p .D 20000) .C<|.z .A<|.p .D 43) rfl m e w)) rfl) bY
theorem Kg:jY.length=288:=by decide
theorem NH(b:4<k)(c:∀p∈ps,o7 p):cK k 401 [.l<|ps.map hU] W=fU (.f<|iN<|ri ps,W):=by
 have d:3000<=aq:=ai rfl;have a:0<k-1:=aA<|bw (by decide) b
 let σ:St:=⟨[.f<|.l<|ps.map hU,.f<|.l<|nL jY,.f<|.l<|nL nQ],W⟩
 exact cX (aX b) rfl rfl rfl rfl<|dM (σ:=σ)<|aL (σ1:=σ) (kP (σ1:=⟨[.f<|.l<|ps.map hU,.u,.u],W⟩) (cE<|bh jl<|FT a) rfl)<|ee rfl<|fh<|
  du (aY (bc (i:=3)) (cE<|bh (eK (ag rfl)<|cE<|bh (eK (ag rfl)<|ag rfl)<|C9 a)<|J8 (aA b) c (by decide) (by decide) (by decide)<|by decide) dE) (cQ (ag rfl) AG<|fu (by decide)<|by decide) dE
theorem xQ:lP jY/\lP nQ:=⟨⟨by decide,by decide+kernel,by decide+kernel⟩,⟨by decide,by decide+kernel,by decide+kernel⟩⟩
theorem G9:(ay 288).all (λs=>decide (0<jY.getD s 0))=Z8/\(ay 30).all (λs=>decide (0<nQ.getD s 0))=Z8:=by decide+kernel
theorem xX(h:o7 p):wv jY nQ p:=by
 unfold wv;have c:∀s,s<288->0<jY.getD s 0:=λs b=>dG<|aU.1 G9.1 s<|a9.2 b;have hd:∀s,s<30->0<nQ.getD s 0:=λs b=>dG<|aU.1 G9.2 s<|a9.2 b;split
 .rename_i a;exact c _<|bw (qb h a)<|by decide
 .rename_i a;refine hV (mi h a) λd e f=>⟨c _<|bw (sx e f).2<|by decide,hd _<|qq (dQ a) d⟩
theorem So(g:7<k)(l:last<2)(h:∀p∈ps,o7 p)(m:ps.length<1000)(n:W.1=fU (fQ bs))(f:bs.length+200010<=aq):cK k 394 [.o,.l<|ps.map hU,iN last] W=fU (.f .none,wB W<|fQ<|bs++cM last 1++cM 1 2++fO jY nQ ps):=by
 have a:1<k-1:=aA<|bw (by decide) g
 let e:=bs++cM last 1
 let c:=e++cM 1 2
 have j:e.length=bs.length+1:=by show(bs++_).length=_;exact Rr af<|Rr a8 rfl
 have o:c.length=bs.length+3:=by show(e++_).length=_;exact Rr af<|Rr a8<|Rr j rfl
 let S:LV->LV->List Bool->St:=λx y b=>⟨[.f .o,.f<|.l<|ps.map hU,.f<|iN last,x,y],wB W<|fQ b⟩
 let A:LV:=.f<|.l<|nL jY
 let B:LV:=.f<|.l<|nL nQ
 refine cX (aX g) rfl rfl rfl rfl<|pe (σ:=S A B<|c++fO jY nQ ps) ?_;show gM dn (cK<|k-1) wj ⟨[.f .o,.f<|.l<|ps.map hU,.f<|iN last,.u,.u],W⟩=_;refine Rl (sE n)<|aL (σ1:=S .u .u e) (jC a rfl (ag rfl) (bc (i:=1)) l (by decide) (c9 (.s .A) .B (.z (.p .A 200010) .B) rfl f))<|aL (σ1:=S .u .u c) (jC a rfl (bc (i:=1)) (bc (i:=2)) (by decide) (by decide) (dT (.p .A 2) .B (.o (.p .C 200010) .B<|.z .A<|.s .C) rfl f (el j)))<|
  aL (σ1:=S A B c) (kP (σ1:=S .u .u c) (cE<|bh jl<|FT<|aX a) rfl)<|
  aL (j6<|cE<|sk (nR (ag rfl)<|jM (ag rfl) (ag rfl)<|ag rfl)<|Gz (aA g) (λp d=>⟨h p d,xX<|h p d⟩) (by decide+kernel) m xQ.1 xQ.2 rfl (dT (.p .A 200000) .B (.o (.p .C 200010) .B<|.z .A<|.p .C 3) rfl f (el o))) bY
end
theorem xa:(eM ps).length=286:=Av.trans<|sI.trans q0
theorem xG:(fi ps).length=30:=Av.trans uO
noncomputable def lz(ps:List<|Nat×Nat):Nat:=3+Dt (eM ps) (fi ps)+E2 (eM ps) (fi ps) ps+(eM ps).getD 256 0
noncomputable def xk(ps:List<|Nat×Nat):PV:=.f 432 [.l<|ps.map hU,.l<|nL<|eM ps,.l<|nL<|fi ps,px (eM ps)<|fi ps,iN<|lz ps]
noncomputable def gJ(ps:List<|Nat×Nat)(last:Nat):List Bool:=cM last 1++cM 2 2++fC (eM ps) (fi ps)++fO (eM ps) (fi ps) ps
section
variable{k:Nat}{W:Wd}{ps:List (Nat×Nat)}
theorem Na(n:5<k)(o:∀p∈ps,o7 p)(r:(ord<|fH<|kg ps).length<64)(q:∀x∈hR (eM ps) (fi ps),x.1<19):cK k 432 [.l<|ps.map hU] W=fU (.f<|xk ps,W):=by
 have m:3000<=aq:=ai rfl;have g:4<k-1:=aA n;have j:0<k-1:=aX g;have h:(eM ps).length=286:=xa;have l:(fi ps).length=30:=xG;have s:(ord<|oA ps).length<64:=aW kN<|by refine Rr uO ?_;decide
 let P:LV:=.f<|.l<|ps.map hU
 let S:LV->LV->LV->LV->LV->LV->St:=λa b c d e f=>⟨[.m,P,a,b,c,d,e,f],W⟩
 let A:LV:=.f<|.l<|nL<|eM ps
 let B:LV:=.f<|.l<|nL<|fi ps
 let H:LV:=.f<|px (eM ps)<|fi ps
 let c:Nat:=E2 (eM ps) (fi ps) ps
 exact Bq (σ:=S P A B H (.f<|iN<|lz ps)<|.f<|iN c) (aX n) rfl rfl rfl rfl
  (aL (σ1:=S P .u .u .u .u .u) (jD (σ1:=S .u .u .u .u .u .u) (ag rfl) rfl)<|aL (σ1:=S P A B .u .u .u) (yb (σ1:=S P .u .u .u .u .u) (cE<|bh (bI<|ag rfl)<|RQ g o r s) rfl rfl)<|
  aL (σ1:=S P A B H .u .u) (jD (σ1:=S P A B .u .u .u) (cE<|bh (eK (mq rfl rfl)<|mq rfl rfl)<|Rw g (dL (.s .A) (.n 400) (.z .A<|.n 286) rfl (el h)) (dL (.s .A) (.n 400) (.z .A<|.n 30) rfl (el l)) q) rfl)<|
  aL (σ1:=S P A B H .u<|.f<|iN c) (cY (σ1:=S P A B H .u .u)<|bh (eK (ag rfl)<|cE<|bh (eK (mq rfl rfl)<|mq rfl rfl)<|C9 j)<|J8 (bw (by decide) g) o ((eg h)) (c9 .A .B (.o (.n 3000) .B<|.z .A<|.n 286) rfl m (el h)) ((eg l))<|c9 .A .B (.o (.n 3000) .B<|.z .A<|.n 30) rfl m (el l))<|
  aL (jD (σ1:=S P A B H .u<|.f<|iN c) (aY (aY (aY (bc (i:=3)) (i6 (mq rfl rfl) jl rfl (Mh j q) rfl) dE) (ag rfl) dE) (cQ (mq rfl rfl) AG<|fu (dL (.s<|.n 256) .A (.z (.n 286) .A) rfl (eg h))<|c9 .A .B (.o (.n 3000) .B<|.z .A<|.n 286) rfl m (el h)) dE) rfl) bY) rfl
theorem RI(l:7<k)(o:last<2)(s:ps.length<1000)(t:∀p∈ps,o7 p/\wv (eM ps) (fi ps) p)(d:0<(eM ps).getD 256 0)(r:lP<|eM ps)(q:lP<|fi ps)(ho:tU (eM ps)<|fi ps)(e:(hR (eM ps)<|fi ps).length<900)
  (u:W.1=fU (fQ bs))(j:bs.length+300000<=aq):cK k 429 [xk ps,.o,iN last] W=fU (.f .none,wB W<|fQ<|bs++gJ ps last):=by
 have g:1<k-1:=aA (bw (by decide) l);have h:6<k-1:=aA l
 let a:=bs++cM last 1
 let c:=a++cM 2 2
 let b2:=c++fC (eM ps) (fi ps)
 have m:a.length=bs.length+1:=by show(bs++_).length=_;exact Rr af<|Rr a8 rfl
 have n:c.length=bs.length+3:=by show(a++_).length=_;exact Rr af<|Rr a8<|Rr m rfl
 have w:=u6 ho e;have v:b2.length<=bs.length+20003:=by show(c++_).length<=_;refine Rr af ?_;exact dT (.a .A .B) (.p .C 20003) (.o .A (.p .C 3)<|.z .B<|.n 20000) rfl (el n) w
 have f:bs++gJ ps last=b2++fO (eM ps) (fi ps) ps:=by unfold gJ;simp only [b2,c,a,au]
 refine Rr f ?_
 let S:List Bool->St:=λb=>⟨[.f<|xk ps,.f .o,.f<|iN last],wB W<|fQ b⟩
 refine cX (aX l) rfl rfl rfl rfl<|pe (σ:=S<|b2++fO (eM ps) (fi ps) ps) ?_;show gM dn (cK<|k-1) wc ⟨[.f<|xk ps,.f .o,.f<|iN last],W⟩=_;refine Rl (sE u)<|aL (σ1:=S a) (jC g rfl (ag rfl) (bc (i:=1)) o (by decide) (c9 (.s .A) .B (.z (.p .A 300000) .B) rfl j))<|aL (σ1:=S c) (jC g rfl (bc (i:=2)) (bc (i:=2)) (by decide) (by decide) (dT (.p .A 2) .B (.o (.p .C 300000) .B<|.z .A<|.s .C) rfl j (el m)))<|
  aL (σ1:=S b2) (j6<|i6 (gI (ag rfl) rfl) (bI<|ag rfl) rfl (Xy h ho e rfl (dT (.p .A 200000) .B (.o (.p .C 300000) .B<|.z .A<|.p .C 3) rfl j (el n))) rfl)<|
  aL (j6<|cE<|sk (nR (ag rfl)<|jM (gI (ag rfl) rfl) (gI (ag rfl) rfl)<|gI (ag rfl) rfl)<|Gz h t d s r q rfl (dT (.p .A 200000) .B (.o (.p .C 300000) .B<|.z .A<|.p .C 20003) rfl j v)) bY
end
end Mine.V
section
open PySem.Calls
namespace Mine
theorem Bj:Py (⟨.builtin "claim.caller" {},Z9,Z9,[],Z9⟩:Ctx):=⟨by decide+kernel,λx a=>nomatch a⟩
theorem Ez{s:aG}{R:Result->aG->Prop}(a:s.asleep)
  (h:bV Z8 (dX pw w) callerA t (λfin s'=>∃f,fin=.done f/\(R (.ok f) s'/\mx s'.2=Z7)) (λe s'=>R (.error e) s'/\mx s'.2=Z7) s):
  ∃n r s' b,runN (denote BN) pw w n s ⟨t,.builtin "claim.caller" {},default,[]⟩=.halted (outcomeOf r) s'/\
   schedN (denote BN) pw w n (.single s ⟨t,.builtin "claim.caller" {},default,[]⟩)=.halted (outcomeOf r) s'/\s'.forget=b.forget/\R r b:=by
 have i:=h _ default caller_in λd=>Bj;have j:Sem.wp (dX pw w) ⟨.builtin "claim.caller" {},Z9,Z9,[],Z9⟩ t (Sem.finPost (dX pw w) ⟨.builtin "claim.caller" {},Z9,Z9,[],Z9⟩ λr s'=>R r s'/\mx s'.2=Z7)
   (λe d s'=>R (.error e) s'/\mx s'.2=Z7) default s:=
  Sem.wp_mono _ _ t (λfin p s' x=>by refine bO x λf c y=>?_;clear x;subst c;exact y) (λd d d x=>x) _ _ i
 refine kY (wp_halts_full (M:=dX pw w) (R:=R) a j) λn r m o l k g hR=>(B2 n r o m ⟨k,l,g,hR⟩)
def PZ:Prop:=
 ∀(w:bN) (a:aG),qW w a.1->a.1.TableAt 443 439 #[]->a.1.BuiltinsAt (x0 w.2) 439->
  ∀(l:bW) (items:Array aF) (n:Nat) (ns:List Int),a.1.get? l=fU {cls:=.type "list",data:=.seq items n}->nH items.1 ns->ns.length<=63->a.2=#[]->
   bV Z8 (dX pw w) callerA (call (.ref 500) [.ref l]) (λv s'=>v=.bool Z8/\OldK a.1 s'.1/\s'.5=a.5/\s'.2=#[]) (λb b=>False) a
abbrev rR:RowW:=IU.row.toRowW
theorem items_int:∀{vs:List aF} {xs:List WData} {as:List bW},WShape.hasItems R xs .int=Z8->ReadsAllW R cl h vs xs as->∃ns:List Int,nH vs ns/\ns.length=xs.length
 |_,[],_=>λo r=>by refine iB (readsAllW_nil_inv r) λf o=>?_;subst f;exact⟨[],.nil,rfl⟩
 |_,x::xs,_=>λe r=>by
  refine kY (readsAllW_cons_inv r) λv vs g j a b m n=>?_;subst a b;simp only [WShape.hasItems,gD] at e;obtain⟨i,rfl⟩:=hasW_int e.1;refine bO (readsW_int_inv m) λt c d=>?_;subst c d;refine bO (items_int e.2 n) λns k l=>⟨i::ns,.cons _ _ k,by simp[l]⟩
set_option tactic.hygienic true in
theorem Et(h:layAllW R cl P ord [.list xs] s=fU (vs,i)):
  ∃l c,vs=[.ref l]/\i.1.get? l=fU {cls:=.type "list",data:=.seq c}:=by
 simp only [layAllW,layW] at h;split at h
 .rename_i r e;injection h with a;cases a
  split at e
  .injection e with b;subst b;exact(ff _ _ ⟨rfl,fD _ rfl⟩)
  .injection e
 .injection h
set_option tactic.hygienic true in
theorem Ob(f:rR.claim.3 args=Z8)(c:layAllW R I P ord args s=fU (vs,G))(w:ReadsAllW rR.records cl G.1 vs args as):
  ∃(l:bW) (items:Array aF) (n:Nat) (ns:List Int),vs=[.ref l]/\G.1.get? l=fU {cls:=.type "list",data:=.seq items n}/\nH items.1 ns/\ns.length<=63:=by
 refine iB (pre_splitW f) λx b=>cU (hasAllW_cons x) λd r m hd C=>?_;subst m;obtain rfl:=hasAllW_nil C;refine bO (hasW_list hd) λxs p D=>?_;subst p;refine kY (readsAllW_cons_inv w) λv M A B q t H J=>?_;subst q t;refine iB (readsAllW_nil_inv J) λk Q=>?_;subst k;cases H with
 |list ho hc u L=>
  rename_i a o vs n as;refine bO (items_int D L) λns E O=>mE (Et c) λl F el y=>?_;injection el with g _;cases g
  rw[ho] at y;injection y with h;subst h
  injection u with i j;subst i j;refine(B2 a _ _ ns ⟨rfl,ho,E,?_⟩);have z:(WTm.not<|.lt (.lit<|.int 63)<|.len<|.arg 0).holds rR.records {args:=[.list xs]}=Z8:=(holds_andW b).1;have e:(WTm.not<|.lt (.lit<|.int 63)<|.len<|.arg 0).value rR.records {args:=[.list xs]}=fU (.bool<|!decide ((63:Int)<(xs.length:Int))):=rfl;rw[holdsW_of_value e] at z;have N:¬((63:Int)<(xs.length:Int)):=by simpa using z
  omega
theorem AH(G:Ground qv tT [] (XL qv []) w s₀ mg mb h)(Y:(KF w.2).In h):qW w h:=
 ⟨Y,G.1.3,mb,G.1.2,G.1.9⟩
theorem ON{s₀ b s':aG}{v:aF}(f:v=.bool Z8)(e:OldK b.1 s'.1)(ho:s'.5=b.5)(d:s'.2=#[]):
  GoodWG rR.claim (classAt s₀.1) (ExcName.means s₀.1) args b (.ok<|.ret v) s':=by
 subst f;exact⟨.inl<|ou (.bool Z8) (.bool Z8) [] ⟨rfl,λcls=>rfl,.bool Z8,postW_of rfl rfl (by simp[same]),λg=>⟨.nil,λa c=>nomatch c⟩⟩,e,ho,.of_eq d⟩
theorem BY:∀{K c:Frag} {a:bW} {o:Hj},K.lookup a=fU o->(K++c).lookup a=fU o
 |[],_,_,_=>λe=>by injection e
 |(b,x)::r,c,a,o=>λe=>by
  refine Rr eR<|Rr ek ?_;rw[ek] at e;cases d:a==b with
  |true=>rw[d] at e;exact e
  |false=>rw[d] at e;exact BY e
theorem V4:∀P:eY,(Tx P).lookup 439=fU (qX #[]):=λP=>by kernel_rfl
noncomputable def sQ(P:eY):Array aF:=match(KF P).lookup 443 with
 |some o=>(match o.3 with|.fields vs=>vs|_=>#[])
 |none=>#[]
theorem Vk:∀P:eY,(KF P).lookup 443=fU ⟨.type "code",Z9,.fields<|sQ P,#[]⟩/\(sQ P)[11]?=fU (.ref 439):=λP=>⟨by kernel_rfl,by kernel_rfl⟩
theorem M7(G:Ground qv tT [] (XL qv []) w s₀ mg mb h)(Y:(KF w.2).In h)(b:h.get? 439=fU (qX #[])):h.BuiltinsAt (x0 w.2) 439:=by
 refine sC G.1.11 λk l i b2 a g j f=>(ff k l ⟨(Heap.Ns.agree (AH G Y).glob G.1.1 _).trans i,b2,λq=>?_,λq=>?_,a,g,j,f⟩)
 .refine p6 G.1.1 λo es ep e hd m=>?_;rw[q,e] at a;injection a with c;subst c;rw[hd] at f;injection f
 .rw[q,b] at a;injection a with d;subst d;injection g
theorem U8:∀P:eY,x0 P (aa "law")=fU (.ref 500):=λP=>by kernel_rfl
theorem U7(u:IU.wellSaid=Z8)(V:PZ):PySem.Challenge.rw_nn0130_01.Holds:=by
 refine holds_law u λu=>?_;have left:LeftO pw qv tT (λs=>xlAt qv [] s&&recOk [] s) (λs=>VG.map s.1.get?) (λw=>(Tx w.2).map λp=>fU p.2) 8000:=M1;refine iB (cf.1 TO) λok k5=>iB (cf.1 ok) λhch o1=>iB (cf.1 k5) λk5 k6=>Jj (frees_parts k5) λI hu ha hap hm=>?_;have M:=λw=>left.behind (XP:=λmg h=>XL qv [] mg h/\RecFacts [] h) (λs hs=>⟨xl_of s (cf.1 hs).1,recFacts_of (cf.1 hs).2⟩) hch w;refine⟨u,Vq,⟨⟨rfl,rfl,rfl,rfl,rfl,by decide+kernel⟩,o1,rfl⟩,Vq.witness,λw=>⟨(M w).1,λs' hs'=>?_⟩⟩;refine B5 ((M w).2 s' hs') λs₀ hf hg0 s hT hz j hg d y=>?_;have G0:Ground qv tT [] (XL qv []) w s (s.1.nsMap sJ) (s.1.nsMap builtinsNs) s.1:=⟨d.1,d.2,d.3,d.4,d.5,d.6,d.7.1,d.8,d.9,d.10,d.11,d.12⟩;have RF:=d.7.2;refine⟨s₀,hf,hg0,s,hT,λn hn=>?_,RF.1,RF.2.1,?_⟩
 .obtain⟨_,rfl⟩:_/\n=IU.row.name:=by simpa using hn
  exact pinned_of_view hg G0 UM VU V6
 have j:s.2=#[]:=Array.eq_empty_of_size_eq_zero<|beq_iff_eq.1 j;intro args G O ord F;refine ak λnG=>rX (cg.1<|layAllW_isSome (P:=w.2) (ord:=ord) G0.9 args rR.args s (pre_splitW G).1) λZ g=>?_;obtain⟨vs,A⟩:=Z;have t:=layAllW_keeps _ _ _ g;have C:=layAllW_rest _ _ _ g;refine ia (reads_layAllW F _ _ _ g O A.1 λB B e=>e) λas T hin Q=>?_;have L:Laid [] w s A args vs as:=⟨⟨ord,F,g⟩,T,hin,Q,t,C.1.trans j,C.2.2.1⟩;have J:=G0.keeps XL.keeps t;have hi:=ident_freeW hu ha hap;have Y1:(Tx w.2).In A.1:=(Frag.in_of (Sh w.2) y).keeps t;have Y:(KF w.2).In A.1:=λa o e=>Y1 a o<|BY e;have E:=Y1 _ _<|V4 w.2;refine iB (Vk w.2) λc1 c2=>kY (Ob G g T) λl items n ns W e1 e4 e5=>?_;subst W;refine zf (J.fn UM) λa of pm cd doc dV kV h1 h2 h3 h4 h5=>?_;have N:x0 w.2 (aa "law")=fU (.ref 500):=U8 w.2;have hmg:(s.1.nsMap sJ) (aa "law")=fU (.ref 500):=(Heap.Ns.agree J.1.1 (AH J Y).glob _).trans N;have wk:=V w A (AH J Y) ⟨(ff _ _ ⟨Y _ _ c1,rfl,rfl,c2⟩),E⟩ (M7 J Y E) l items n ns e1 e4 e5 L.6;have wk':bV Z8 (dX pw w) callerA (do match<-nsGet mainNs rR.name with
   |some f=>do ret (<-PySem.call f [.ref l])
   |none=>unsupported "claim.caller:no-such-global")
   (λfin s'=>∃f,fin=.done f/\((rR.claim.Ends s args [.ref l] A (.ok f) s'/\s'.5=s.5/\True)/\mx s'.2=Z7)) (λe s'=>(rR.claim.Ends s args [.ref l] A (.error e) s'/\s'.5=s.5/\True)/\mx s'.2=Z7) A:=by
  refine am<|bV.of<|wpAny_nsGet J.1.1 ?_;refine Rr (show rR.name=aa "law" from rfl)<|Rr hmg ?_;refine am<|aR wk (λv s' q=>?_) λB B x=>x.elim;refine Gh q λq1 q2 q3 q4=>?_;have z:=(ON q1 q2 q3 q4 (s₀:=s) (args:=args)).laid (c:=rR.claim) I (List.isEmpty_iff.1 k6) hi L;exact aO ⟨_,rfl,⟨z.1,z.2.1,trivial⟩,leftWithCleanup_false_of_bare z.2.2⟩
 refine De (Ez (R:=λr s'=>rR.claim.Ends s args [.ref l] A r s'/\s'.5=s.5/\True) (Shared.asleep_of_life C.2.2.2 hz) wk') λk r s' s'' U D hfo m S B=>Jj (Shared.forget_eq hfo) λeh B B eo B=>nG ?_;have m:=m.congr eh;rw[<-eo] at S;have H:s'.1.2=s.1.2:=(runN_life _ _ _ U).trans C.2.2.2;refine(ff _ A ⟨g,ou k _ s' ⟨D,?_,(λB i x hx=>by rw[j] at hx;simp at hx),(λq=>nomatch q),by exact Rr H rfl,Shared.rest_eq S⟩⟩);rcases m with⟨v,rfl,d1,d2,d3,d4,d5⟩|⟨e,ob,cls,rfl,d1,d2,d3,d4,d5⟩
 .exact .inl ⟨v,rfl,d1,d2,d3,λb o y B=>d4 b o y,d5⟩
 .exact .inr<|ou e ob cls ⟨rfl,d1,d2,d3,d4,λb o y B=>d5 b o y⟩
end Mine
end
namespace Mine
noncomputable def Wi:Sx:=(.a 2<|.f (.v 1)<|.i 8)
noncomputable def Wu:Sx:=(.a 3<|.f (.v 1)<|.i 9)
noncomputable def VT:Sx:=(.a 4<|.o (.c 480<|.c (.v 1) .n) [17] (.a 1<|.c (.v 3) .n) .n)
noncomputable def Wx:Sx:=(.a 5<|.c 432<|.c (.v 4) .n)
noncomputable def xS:iX:=(.c Wi<|.c Wu<|.c VT<|.c Wx .n)
noncomputable def TL:Sx:=(.e<|.m 96 127 (.v 6)<|.c (.i 0)<|.c (.v 2) .n)
noncomputable def T9:Sx:=(.e<|.m 429 432 (.v 5)<|.c (.v 6)<|.c (.i 1) .n)
noncomputable def TA:Sx:=(.i (.c .n (.m 117 127 (.v 6) .n)<|.b .a (.v 2)<|.d (.v 5) 432 4) (.c (.r<|.h Z7) .n) .n)
noncomputable def UU:Sx:=(.a 7<|.c 485<|.c (.v 6) .n)
noncomputable def Ul:Sx:=(.c [8,9,10]<|.c 468<|.c (.v 7)<|.c (.b .a (.v 2)<|.i 3) .n)
noncomputable def Vd:Sx:=(.i (.o<|.c (.c .n (.n (.v 7) (.v 2)<|.b .a (.v 2)<|.i 3)<|.l<|.c (.i 1)<|.c (.i 0)<|.c (.i 1) .n)<|.c (.c .n (.c 473<|.c (.v 7)<|.c (.v 10)<|.c (.v 8)<|.c (.v 9) .n)<|.t<|.c (.v 4)<|.c (.b .a (.v 2)<|.d (.v 5) 432 4) .n) .n) (.c (.r<|.h Z7) .n) .n)
noncomputable def TY:Sx:=(.i (.n<|.e<|.c 495<|.c (.v 5)<|.c (.c 490<|.c (.v 4) .n) .n) (.c (.r<|.h Z7) .n) .n)
noncomputable def Sg:Sx:=(.a 11<|.a 9<|.c (.o (.s (.v 18)<|.i 1) [18] (.v 4)<|.c (.e<|.a 8<|.c (.v 18) .n) .n) .n)
noncomputable def Qy:Sx:=(.a 12<|.o (.v 19) [19] (.d (.v 5) 432 2)<|.c (.c .g (.v 19)<|.i 0) .n)
noncomputable def Sz:Sx:=(.i (.o<|.c (.a<|.c (.c .e (.a 0<|.c (.v 11) .n)<|.i 0)<|.c (.c .n (.v 12)<|.l .n) .n)<|.c (.a<|.c (.c .e (.a 0<|.c (.v 11) .n)<|.i 1)<|.c (.c .n (.v 12)<|.l<|.c (.i 1) .n) .n) .n) (.c (.r<|.h Z7) .n) .n)
noncomputable def yd:iX:=(.c TL<|.c T9<|.c TA<|.c UU<|.c Ul<|.c Vd<|.c TY<|.c Sg<|.c Qy<|.c Sz .n)
noncomputable def Wt:Sx:=(.e<|.m 96 127 (.v 6)<|.c (.i 0)<|.c (.v 2) .n)
noncomputable def V0:Sx:=(.e<|.c 394<|.c (.v 6)<|.c (.v 4)<|.c (.i 0) .n)
noncomputable def Wv:Sx:=(.i (.c .n (.m 117 127 (.v 6) .n)<|.b .a (.v 2)<|.c 401<|.c (.v 4) .n) (.c (.r<|.h Z7) .n) .n)
noncomputable def VP:Sx:=(.a 7<|.c 485<|.c (.v 6) .n)
noncomputable def Wo:Sx:=(.a 13<|.b .a (.b .a (.b .a (.b .m (.l<|.c (.i 8) .n)<|.i 144)<|.b .m (.l<|.c (.i 9) .n)<|.i 112)<|.b .m (.l<|.c (.i 7) .n)<|.i 24)<|.b .m (.l<|.c (.i 8) .n)<|.i 8)
noncomputable def VX:Sx:=(.i (.o<|.c (.c .n (.n (.v 7) (.v 2)<|.b .a (.v 2)<|.i 3)<|.l<|.c (.i 0)<|.c (.i 1)<|.c (.i 0) .n)<|.c (.c .n (.c 473<|.c (.v 7)<|.c (.b .a (.v 2)<|.i 3)<|.c (.v 13)<|.c (.b .m (.l<|.c (.i 5) .n)<|.i 30) .n)<|.t<|.c (.v 4)<|.c (.b .a (.v 2)<|.c 401<|.c (.v 4) .n) .n) .n) (.c (.r<|.h Z7) .n) .n)
noncomputable def WD:Sx:=(.a 14<|.a 7<|.c (.o (.v 20) [20] (.v 4)<|.c (.n<|.e<|.a 8<|.c (.v 20) .n) .n) .n)
noncomputable def xw:iX:=(.c Wt<|.c V0<|.c Wv<|.c VP<|.c Wo<|.c VX<|.c WD .n)
noncomputable def V8:Sx:=(.e<|.m 96 127 (.v 6)<|.c (.i 0)<|.c (.v 2) .n)
noncomputable def VV:Sx:=(.e<|.c 387<|.c (.v 6)<|.c (.v 14)<|.c (.i 1) .n)
noncomputable def UJ:Sx:=(.a 15<|.b .f (.b .a (.v 2)<|.i 10)<|.i 8)
noncomputable def T4:Sx:=(.a 16<|.l<|.c (.b .e (.a 0<|.c (.v 14) .n)<|.i 256)<|.c (.b .f (.a 0<|.c (.v 14) .n)<|.i 256) .n)
noncomputable def Wh:Sx:=(.i (.o<|.c (.c .n (.m 117 127 (.v 6) .n)<|.b .a (.v 2)<|.c 408<|.c (.v 2)<|.c (.a 0<|.c (.v 14) .n) .n)<|.c (.c .n (.n (.c 485<|.c (.v 6) .n) (.v 2)<|.b .m (.i 8)<|.v 15)<|.b .a (.l<|.c (.i 1) .n)<|.b .m (.l<|.c (.i 0) .n)<|.b .s (.b .s (.b .m (.i 8)<|.v 15)<|.v 2)<|.i 1) .n) (.c (.r<|.h Z7) .n) .n)
noncomputable def We:Sx:=(.r<|.z .e (.n (.m 124 127 (.v 6) .n) (.v 15) .none)<|.b .a (.a 7<|.c (.b .a (.v 16)<|.l<|.c (.b .s (.i 255)<|.s (.v 16)<|.i 0)<|.c (.b .s (.i 255)<|.s (.v 16)<|.i 1) .n) .n)<|.v 14)
noncomputable def xc:iX:=(.c V8<|.c VV<|.c UJ<|.c T4<|.c Wh<|.c We .n)
noncomputable def tu:te:=[(aa "script",0),(aa "take",1),(aa "ahead",2),(aa "many",3),(aa "parts",4),(aa "block",5),(aa "out",6),(aa "bits",7),(aa "literals",8),(aa "distances",9),(aa "at",10),(aa "backs",11),(aa "codes",12),(aa "fixed_codes",13),(aa "octets",14),(aa "begun",15),(aa "size",16)]
noncomputable def Aj:MT:=⟨[],17⟩
noncomputable def TJ:Nat:=20
noncomputable def oQ:Cr:=⟨500,500,st 58,.n,tu,Aj,1,20,Z9,"law","law_nn0130_01",783,499⟩
noncomputable def qJ:te:=[(aa "script",0),(aa "cells",1),(aa "place",2),(aa "take",3)]
noncomputable def vv:Cr:=⟨444,444,st 48,.n,qJ,⟨[],4⟩,1,3,Z9,"_law_taker","law_nn0130_01",783,443⟩
theorem Ol(P:eY):FnEnt P oQ:=FnEnt.of (by kernel_rfl) (by kernel_rfl) (by kernel_rfl) (by kernel_rfl) (dG<|by kernel_rfl) (by kernel_rfl) ⟨by decide,by decide⟩ (by kernel_rfl) (by kernel_rfl) λv1 v2 v3 v4=>by kernel_rfl
theorem IY(P:eY):FnEnt P vv:=FnEnt.of (by kernel_rfl) (by kernel_rfl) (by kernel_rfl) (by kernel_rfl) (dG<|by kernel_rfl) (by kernel_rfl) ⟨by decide,by decide⟩ (by kernel_rfl) (by kernel_rfl) λv1 v2 v3 v4=>by kernel_rfl
noncomputable def EL(i:Nat):iW:=(bodyOf oQ)[i]?.getD<|.Pass default
noncomputable def ul(i:Nat):iW:=(bodyOf vv)[i]?.getD<|.Pass default
noncomputable def qH(i n:Nat):List iW:=((bodyOf oQ).drop i).take n
noncomputable def JD:Sx:=.a 1<|.n (.v 0) .none<|.i 63
noncomputable def JU:Sx:=.i (.c .e (.v 1)<|.l .n) (.c (.a 1<|.l<|.c (.i 1) .n) .n) .n
noncomputable def N3:Sx:=.a 2<|.l<|.c (.i 0) .n
theorem S9:(sK (dv oQ) tu Aj xS (qH 1 4)&&sK (dv oQ) tu Aj yd (qH 6 10)&&sK (dv oQ) tu Aj xw (qH 17 7)&&sK (dv oQ) tu Aj xc (qH 25 6))=Z8:=by kernel_rfl
theorem J1:bodyOf vv=[fS JD<|ul 0,fS JU<|ul 1,fS N3<|ul 2,ul 3,fS (.r<|.v 3)<|ul 4]:=by kernel_rfl
theorem Q3:(P9 (dv vv) qJ ⟨[],4⟩ JD (ul 0)&&P9 (dv vv) qJ ⟨[],4⟩ JU (ul 1)&&P9 (dv vv) qJ ⟨[],4⟩ N3 (ul 2)&&P9 (dv vv) qJ ⟨[],4⟩ (.r<|.v 3) (ul 4))=Z8:=by kernel_rfl
noncomputable def Kd(y x:eT)(args:List dH)(t:iW):iW:=.Assign [.Name y (sT t).pos] (.Call (.Name x (k0<|sV t).pos) args [] (sV t).pos) t.pos
noncomputable def Gi(t:iW):iW:=Kd (so "out") (so "BitsOut") [] t
noncomputable def Lv(t:iW):iW:=Kd (so "take") (so "_law_taker") [.Name (so "script") (hd<|ka<|sV t).pos] t
theorem LM:bodyOf oQ=Lv (EL 0)::(DK xS (qH 1 4)++(Gi (EL 5)::(DK yd (qH 6 10)++(Gi (EL 16)::(DK xw (qH 17 7)++(Gi (EL 24)::DK xc (qH 25 6))))))):=by kernel_rfl
theorem Xr:(uD (dv oQ) (so "BitsOut")&&uD (dv oQ) (so "_law_taker"))=Z8:=by kernel_rfl
mutual
noncomputable def PV.nb(t:Bool):PV->Bool
 |.a l=>Oa.nb t l
 |.l l=>Oa.nb t l
 |.f _ l=>Oa.nb t l
 |.o=>Z7
 |.m=>Z7
 |.g=>Z7
 |.t=>t
 |_=>Z8
noncomputable def Oa.nb(t:Bool):List PV->Bool
 |[]=>Z8
 |p::r=>PV.nb t p&&Oa.nb t r
end
noncomputable def LV.nb(t:Bool):LV->Bool
 |.u=>Z8
 |.m=>Z7
 |.f p=>p.nb t
 |.o l=>Oa.nb t l
 |_=>Z8
abbrev Lu(ad kK:Ad):Prop:=∀(F:FZ) (v:aF),v=.ref ad.5/\lQ ad F->v=.ref kK.5/\lQ kK F
section
variable{w:bN}{ad kK:Ad}{F F':FZ}{fx:Fx}{ex ex' L L' news:dw}{σ σ':St}{s s':aG}{A:bU}{t:Bool}{os:gv}
mutual
theorem VR.re(h:t=Z8->Lu ad kK):∀{p:PV} {v:aF},p.nb t=Z8->VR w ad F p v->VR w kK F p v
 |.none,_=>λb h=>h
 |.c _,_=>λb h=>h
 |.i _,_=>λb h=>h
 |.b _,_=>λb h=>h
 |.a ps,_=>λn r=>by refine dI (nZ.1 r) λm a vs e q r=>?_;exact nZ.2 ⟨m,ff a vs ⟨e,q,fP.re h n r⟩⟩
 |.l ps,_=>λn r=>by refine dI (jW.1 r) λm a vs e q r=>?_;exact jW.2 ⟨m,ff a vs ⟨e,q,fP.re h n r⟩⟩
 |.f c ps,_=>λn r=>by obtain⟨a,vs,e,q,r⟩:=nq.1 r;exact nq.2<|ff a vs ⟨e,q,fP.re h n r⟩
 |.p _,_=>λb h=>h
 |.d _,_=>λb h=>h
 |.e _,_=>λb h=>h
 |.r _ _ _,_=>λb h=>h
 |.o,_=>λn b=>nomatch n
 |.m,_=>λn b=>nomatch n
 |.g,_=>λn b=>nomatch n
 |.t,v=>λn r=>h n F v r
theorem fP.re(h:t=Z8->Lu ad kK):∀{ps:List PV} {vs:List aF},Oa.nb t ps=Z8->fP w ad F ps vs->fP w kK F ps vs
 |[],_=>λb h=>h
 |_::_,_=>λn r=>by obtain⟨v,a,e,q,k⟩:=cZ.1 r;exact cZ.2<|ff v a ⟨e,VR.re h (an n).1 q,fP.re h (an n).2 k⟩
end
theorem ve.re(h:t=Z8->Lu ad kK):∀{lv:LV} {c:CL},lv.nb t=Z8->ve w ad F lv c->ve w kK F lv c
 |.u,_=>λb r=>r
 |.m,_=>λn b=>nomatch n
 |.f _,_=>λn r=>⟨r.1,r.2.re h n⟩
 |.o _,_=>λn r=>by obtain⟨m,a,vs,e,q⟩:=r;exact⟨m,ff a vs ⟨e,q.re h n⟩⟩
 |.a _,_=>λb r=>r
 |.b _,_=>λb r=>r
theorem jI.re(h:t=Z8->Lu ad kK):∀{xs:List LV} {cs:List CL},xs.all (LV.nb t)=Z8->jI w ad F xs cs->jI w kK F xs cs
 |[],[]=>λa a=>trivial
 |_::_,_::_=>λn r=>by
  rw[List.all_cons,gD] at n;exact⟨r.1.re h n.1,jI.re h n.2 r.2⟩
 |[],_::_=>λa r=>r.elim
 |_::_,[]=>λa r=>r.elim
theorem GS.Nw(G:GS w os F L s)(c:∀p∈news,F p.1=Z9/\p.1∉je L/\∃o,s.1.get? p.1=fU o/\p.2 o)(hd:(je news).Nodup):GS w os F (news++L) s:=by
 refine⟨G.1,G.2,⟨λp b=>?_,λa=>?_⟩,G.4,G.5⟩
 .rcases a7.1 b with b|b
  .exact⟨(c p b).2.2,(c p b).1⟩
  .exact G.3.1 p b
 .refine Rr aC<|Rr bt ?_;have e:(news.map (·.1)).count a<=1:=List.nodup_iff_count.1 hd a;have f:=G.3.2 a;by_cases d:a∈je news
  .obtain⟨p,b,rfl⟩:=aE.1 d;have:(L.map (·.1)).count p.1=0:=eG.2 (c p b).2.1;exact c9 (.a .A .B) .i (.o .A .i<|.z .B<|.n 0) rfl e (el this)
  .have:(news.map (·.1)).count a=0:=eG.2 d;exact c9 (.a .A .B) .i (.o .B .i<|.z .A<|.n 0) rfl f (el this)
theorem GS.step(G:GS w os F ((a,P)::L) s)(t:iR a s.1 h')(e:h'.get? a=fU k)(r:P' k)(j:∀p∈news,s.1.get? p.1=Z9/\∃o,h'.get? p.1=fU o/\p.2 o)(hd:(je news).Nodup):
  GS w os F ((a,P')::(news++L)) {s with heap:=h',toks:=tk}:=by
 have l:=(G.TW t).tok tk;have f:∀p,s.1.get? p=Z9->F p=Z9/\p∉je L:=λp b=>by
  constructor
  .cases e:F p with
   |none=>rfl
   |some o=>have:=G.2 _ _ e;rw[b] at this;injection this
  .intro d;refine bO (aE.1 d) λq g c=>?_;subst c;obtain⟨⟨o,h,_⟩,_⟩:=G.3.1 q<|.tail _ g;rw[b] at h;injection h
 obtain⟨⟨u,m,_⟩,fa⟩:=G.3.1 _<|.head _;refine l.Nw (news:=(a,P')::news) (λp b=>?_) ?_
 .rcases ax.1 b with rfl|b
  .refine⟨fa,λd=>?_,k,e,r⟩;refine bO (aE.1 d) λq g e=>G.Gm q g e
  .obtain⟨i,n⟩:=j p b;exact⟨(f _ i).1,(f _ i).2,n⟩
 .show(a::je news).Nodup;refine Rr (propext cN)<|⟨λd=>?_,hd⟩;obtain⟨p,b,e⟩:=aE.1 d;have:=(j p b).1;rw[show p.1=a from e,m] at this;injection this
end
noncomputable def tP:eT:=(Vx HT).1
noncomputable def yD:Arguments:=(Vx HT).2.1
noncomputable def Mg:Pos:=HT.pos
theorem Np:ul 3=.FunctionDef tP yD vR [] Z9 [] iq Z9 tP Mg:=by kernel_rfl
theorem NT:yD.7=[]/\yD.5=[]/\(∀env,annTrees yD Z9 env=[])/\tP=aa "take":=⟨by kernel_rfl,by kernel_rfl,λenv=>by kernel_rfl,by kernel_rfl⟩
theorem Ry(vB:List<|eT×bW)(kd:bW)(b a c:aF):fnX tP tC yD vR iq vB .none .none a c Z9 (.ref kd) b=uB vB kd b a c:=by kernel_rfl
theorem Jw:iq.2=[(aa "limit",.local),(aa "k",.local),(aa "level",.local),(aa "cells",.free),(aa "place",.free),(aa "len",.globalImplicit)]:=by kernel_rfl
theorem Tb(d:env.4.lookup (aa "cells")=fU cC)(e:env.4.lookup (aa "place")=fU cP):va iq env=pure [(aa "place",cP),(aa "cells",cC)]:=by unfold va;refine Rr Jw ?_;have a:(NameKind.local==NameKind.free)=Z7:=rfl;have b:(NameKind.free==NameKind.free)=Z8:=rfl;have c:(NameKind.globalImplicit==NameKind.free)=Z7:=rfl;simp only [kF,List.forIn_nil,a,b,c,cq,if_false,if_true,pure_bind,cellOf,d,e]
theorem UN:∀P:eY,(KF P).lookup 443=fU ⟨.type "code",Z9,.fields<|sQ P,#[]⟩:=λP=>(Vk P).1
theorem UV:∀P:eY,∃b e a f d c g,(sQ P)[11]?=fU (.ref 439)/\(sQ P).getD 11 .none=.ref 439/\(sQ P).getD 18 .none=.str b e/\
  (sQ P).getD 7 .none=.int a f/\(sQ P).getD 9 .none=.bool d/\(sQ P).getD 10 .none=.int c g:=λP=>by
 have h:sQ P=#[.str "_law_taker" 805,.str "_law_taker" 806,.str "/claim/cut.py" 807,.int (316) 0,.int (1) 0,.int (0) 0,.int (0) 0,.int (3) 0,.ref 438,.bool Z8,.int (181) 0,.ref 439,.none,.ref 440,.ref 441,.ref 442,.int (812) 0,.int (316) 0,.str "/claim/cut.py" 813]:=by kernel_rfl
 refine Rr h<|(VB _ _ _ _ _ _ _ ⟨rfl,rfl,rfl,rfl,rfl,rfl⟩)
theorem NM(B:qW w h):CodeHd h 443 439:=by refine lW (UV w.2) λb e a f d c g r=>(Ei9 _ _ b e a f d c g ⟨B.1 _ _<|UN w.2,rfl,rfl,r.1,r.2.1,r.2.2.1,r.2.2.2.1,r.2.2.2.2.1,r.2.2.2.2.2,by decide⟩)
abbrev BB(w:bN)(F:FZ):Prop:=∀h,DG F h->h.BuiltinsAt (x0 w.2) 439
noncomputable abbrev o9(env:mR):Fx:=Fx.call env qJ ⟨[],4⟩ Z9
noncomputable def xx:OP:=λo=>o=qX #[]
section
variable{w:bN}{ad kK:Ad}{F F':FZ}{fx:Fx}{ex ex' L L' news:dw}{σ σ':St}{s s':aG}{A:bU}{t:Bool}{os:gv}{env:mR}{cells:List Int}
noncomputable abbrev tv(env:mR)(ad:Ad):Fx:={o9 env with pin:=[(1,.ref ad.9),(2,.ref ad.4)]}
theorem tv.ok(a:eA<|o9 env):eA<|tv env ad:=
 ⟨a.1,a.2,a.3,a.4,a.5,a.6,a.7,a.8,a.9,λi u h=>by
  simp only [ax,bj,or_false,nA.injEq] at h;exact h.elim (λb=>dL (.s .A) (.n 4) (.z .A .i) rfl (el b.1)) λb=>dL (.s .A) (.n 4) (.z .A<|.n 2) rfl (el b.1),a.11,a.12⟩
theorem z8:(dv vv).2.lookup (aa "cells")=fU .cell/\(dv vv).2.lookup (aa "place")=fU .cell/\(dv vv).2.lookup (aa "take")=fU .local:=⟨by kernel_rfl,by kernel_rfl,by kernel_rfl⟩
theorem Io(c:eA<|o9 env)(d:env.1=dv vv):∃cC cP,env.4.lookup (aa "cells")=fU cC/\env.4.lookup (aa "place")=fU cP/\(o9 env).3 1=.c cC/\(o9 env).3 2=.c cP:=by
 refine ak λk=>?_;obtain⟨k1,k2,k3⟩:=z8;refine hV (c.2 (aa "cells") 1<|by show _∈qJ;unfold qJ;simp) λl l i=>?_;obtain⟨_,_,j⟩:=c.2 (aa "place") 2 (by show _∈qJ;unfold qJ;simp);refine k ?_;have f:env.kindOf (aa "cells")=fU .cell:=by show env.1.2.lookup _=_;refine Rr d ?_;exact k1
 have g:env.kindOf (aa "place")=fU .cell:=by show env.1.2.lookup _=_;refine Rr d ?_;exact k2
 rcases i with⟨h,_⟩|⟨_,cC,a1,a2⟩
 .have h:env.kindOf (aa "cells")=fU .local:=h;rw[f] at h;injection h with a;cases a
 rcases j with⟨h,_⟩|⟨_,cP,e,b2⟩
 .have h:env.kindOf (aa "place")=fU .local:=h;rw[g] at h;injection h with b;cases b
 exact(ff cC cP ⟨a1,e,a2,b2⟩)
theorem QT(I:eA<|o9 env)(V:env.1=dv vv)(j:env.7=.ref 443)(hq:env.5=vv.10++".<locals>.")(bb:BB w F)
  (S:cr w ad (o9 env) F ((439,xx)::ex) σ s)(hn:σ.1.all (LV.nb Z7)=Z8)(hW:σ.2={})(h1:σ.1[1]?=fU (.f<|.l<|cells.map .i))(J:cells.length<=63)(h2:σ.1[2]?=fU (.o [.i 0])):
  bV Z8 (MM w) A (yR (ul 3) env) (λf s'=>f=.next/\∃kK F',iD F F'/\kK.12=ad.12/\kK.11=cells/\lQ kK F'/\(∃ps,F' 439=fU (qX ps))/\env.4.lookup (aa "cells")=fU kK.7/\env.4.lookup (aa "place")=fU kK.8/\
   (o9 env).3 1=.c kK.7/\(o9 env).3 2=.c kK.8/\Nonempty (cr w kK (tv env kK) F' ex (σ.set 3<|.f .t) s')) ji s:=by
 refine ak λnG=>jX (Io I V) λcC cP lc lp o1 o2=>?_;obtain⟨k1,k2,k3⟩:=z8;obtain⟨g1,g2,g3,g4⟩:=NT;refine bO (S.4.get h1) λc1 e1 r1=>bO (S.4.get h2) λc2 e2 r2=>?_;obtain⟨ho1,r1⟩:=r1;refine dI (jW.1 r1) λC a1 us Z Y U=>lg r2 λC a2 vs2 E C=>?_;clear r2;subst E;have hint:nH us cells:=(fP.ints U (by
  have:∀l:List Int,iZ (l.map PV.i)=fU l:=λl=>by
   induction l with
   |nil=>rfl
   |cons i l ih=>show((iZ<|l.map PV.i).map (i::·))=_;refine Rr ih ?_;rfl
  exact this cells)).1
 have G:GS w ad.12 F ((439,xx)::(dU (o9 env) S.2 S.3++(ci S.1++(ex++gB ad σ.2)))) s:=S.front;refine bO (G.at<|.head _) λot R d=>nG ?_;unfold xx at d;subst d;have T:qualnameIn env tP tP=tC:=by
  have:env.kindOf tP=fU .local:=by show env.1.2.lookup _=_;refine Rr V<|Rr g4 ?_;exact k3
  unfold qualnameIn;refine Rr this<|Rr hq ?_;kernel_rfl
 refine Rr Np<|.of<|nestDef_K g1 g2 (g3 env) ?_;refine Rr T<|makeFunction_K (Tb lc lp) I.11 S.8.B.glob j (NM S.8.B) R (by trivial) rfl (by decide) (bb _ S.8.2) λq g h h' tk hx r v y W=>?_;have N:=Ry [(aa "place",cP),(aa "cells",cC)] q g h<|(x0 w.2 "__name__").getD .none;unfold fnMade;refine Rr N ?_;generalize (x0 w.2 "__name__").getD .none=pm
 let kK:Ad:={ad with aP:=a2,aT:=h'.1.size,cC:=cC,cP:=cP,tL:=a1,kT:=q,cells:=cells}
 refine kY y λc2' oc vs tq e3 Q L M=>?_;injection e3 with k;subst k
 have G2:=G.step (tk:=tk) (h':=h'.push {cls:=.type "function",data:=.func<|uB [(aa "place",cP),(aa "cells",cC)] q g h pm}) (P':=λo=>o=qX (#[]++#[rawInt Mg.1,rawInt Mg.2,.ref q]))
  (news:=[(q,λo=>∃vs t,o.3=.fields vs/\vs[1]?=fU (.str tC t)),(h'.1.size,Ji kK)])
  (λb o hb e=>aZ _<|hx b o hb e) (aZ _ W) rfl (λp hp=>by
   simp only [ax,bj,or_false] at hp;rcases hp with rfl|rfl
   .exact⟨fV r,oc,aZ _ Q,ff vs tq ⟨L,M⟩⟩
   .exact⟨fV<|by exact dT .A .B (.o .A .C<|.z (.s .C) .B) rfl r v,_,fD _ rfl,rfl,B2 _ g h pm ⟨rfl,by kernel_rfl,by kernel_rfl⟩⟩)
  (by simp only [je,az,dP,cN,bl,bj,not_false_eq_true,List.nodup_nil,and_true];exact gj v)
 refine ak λnG=>p8 G2.freeze λoT C q1 l1 f1 G3=>p8 (GS.freeze (P:=λo=>∃vs t,o.3=.fields vs/\vs[1]?=fU (.str tC t)) G3) λoC C q2 l2 f2 G4=>p8 (GS.freeze (P:=Ji kK) G4) λoF C q3 l3 f3 G5=>nG ?_;have B:=l2.trans l3;have l:iD F _:=l1.trans B;have O:jI w kK _ σ.1 S.1:=jI.re (t:=Z7) (λe=>nomatch e) hn<|S.4.le l;have hw:gB kK σ.2=gB ad σ.2:=by refine Rr hW ?_;rfl
 have z:lQ kK _:=⟨⟨oF,f3,q3⟩,⟨us,Y.le l,hint,by refine Rr hint.length ?_;exact J⟩,⟨oC,l3 _ _ f2,q2⟩⟩;have S2:cr w kK (tv env kK) _ (gF ⟨.ref h'.1.size,Z9⟩++ex) σ _:=⟨S.1,S.2,S.3,O,S.5,λi u H lv' q h1' hn' a=>by
  simp only [ax,bj,or_false,nA.injEq] at H;rcases H with⟨rfl,rfl⟩|⟨rfl,rfl⟩
  .rw[e1] at a;injection a with m;subst m;exact Z
  .rw[e2] at a;injection a with n;subst n;rfl,(λc D e=>nomatch e),by refine Rr hw<|Rr ij ?_;exact G5⟩
 refine Rr g4<|cr.store (tv.ok I) S2 (x:=aa "take") (i:=3) (lv:=.f .t) (by show _∈qJ;unfold qJ;simp) (by show env.1.2.lookup _≠_;refine Rr V<|Rr k3 ?_;simp) ⟨rfl,pF.2 ⟨rfl,z⟩⟩ (λu H=>by simp at H) λs' S'=>?_
 exact⟨rfl,ff kK _ ⟨l,rfl,rfl,z,⟨_,(B _ _ f1).trans<|bx fU q1⟩,lc,lp,o1,o2,⟨S'⟩⟩⟩
end
noncomputable abbrev iL(l:List Int):List PV:=l.map PV.i
theorem An:∀l:List Int,xU (iL l)=fU (l.map PyData.int)
 |[]=>rfl
 |i::l=>by
  show(xU<|iL l).map (.int i::·)=_;refine Rr (An l) ?_;rfl
theorem CE(l:List Int):IT (.l<|iL l)=fU (.list<|l.map PyData.int):=by show(xU<|iL l).map _=_;rw[An];rfl
theorem xq:∀l:List Int,PyData.depthAll (l.map PyData.int)=0
 |[]=>rfl
 |i::l=>by
  refine Rr az ?_;rewrite[PyData.depthAll];refine Rr (xq l) ?_;rfl
theorem Dg:∀l m:List Int,PyData.eqvAll (l.map .int) (m.map .int)=decide (l=m)
 |[],[]=>by simp-iota [PyData.eqvAll]
 |[],_::_=>by simp-iota [PyData.eqvAll]
 |_::_,[]=>by simp-iota [PyData.eqvAll]
 |i::l,j::m=>by
  refine Rr az<|Rr az ?_;rewrite[PyData.eqvAll];refine Rr (Dg l m) ?_;by_cases h:i=j
  .subst h;by_cases a:l=m<;>simp[PyData.eqv,a]
  .simp[PyData.eqv,h]
theorem FI(a:IT p=fU x)(b:IT q=fU y)(hd:x.depth<=64):DV p q=fU (x.eqv y):=by delta DV gd;refine Rr a<|Rr b ?_;rewrite[fB,fB];refine Rr (bT hd) ?_;rw[cond_true]
theorem CP(l m:List Int):PV.beq (.l<|iL l) (.l<|iL m)=fU (decide (l=m)):=by show DV _ _=_;refine Rr (FI (CE l) (CE m)<|by rw[PyData.depth,xq];decide) ?_;rw[PyData.eqv,Dg]
mutual
theorem Gy:∀{p:PV} {d:II},IT p=fU d->d.canLay0=Z8:=by
 intro p;cases p with
 |none=>intro d;exact λh=>by injection h with j;subst j;rfl
 |c b=>intro d;exact λh=>by injection h with k;subst k;rfl
 |i i=>intro d;exact λh=>by injection h with n;subst n;rfl
 |l l=>intro d;exact λh=>by refine bO (eF.1 h) λx u q=>?_;subst q;exact xV u
 |a l=>intro d;exact λh=>by refine bO (eF.1 h) λx u s=>?_;subst s;exact xV u
 |b _=>intro _;exact λh=>nomatch h
 |f _ _=>intro _;exact λh=>nomatch h
 |p _=>intro _;exact λh=>nomatch h
 |d _=>intro _;exact λh=>nomatch h
 |e _=>intro _;exact λh=>nomatch h
 |r _ _ _=>intro _;exact λh=>nomatch h
 |o=>intro _;exact λh=>nomatch h
 |m=>intro _;exact λh=>nomatch h
 |g=>intro _;exact λh=>nomatch h
 |t=>intro _;exact λh=>nomatch h
theorem xV:∀{p:List PV} {d:List II},xU p=fU d->PyData.canLayAll0 d=Z8
 |[],d=>λh=>by injection h with a;subst a;rfl
 |p::ps,d=>λh=>by
  refine bO (kZ.1 h) λx c h=>bO (eF.1 h) λy e b=>?_;subst b;exact cf.2 ⟨Gy c,xV e⟩
end
theorem HC(h:IT p=fU d)(hd:d.depth<=64):DV p p=fU Z8:=by exact Rr (FI h h hd)<|Rr (PySem.SeqAt.eqv_refl d<|Gy h) rfl
noncomputable def gh(ns:List Int):List Int:=if ns=[] then[1] else ns
theorem Vj(h:ns.length<=63):No (iL ns) .none (.i 63)=fU (iL ns):=by
 have e:jG (iL ns).length 63=(iL ns).length:=by unfold jG;rw[av];simp only [show ¬((63:Int)<0) by decide,if_false];have h':(ns.length:Int)<=63:=c8.2 h;rw[Int.min_eq_right h',pU<|jo _,Int.toNat_natCast]
 show fU (((iL ns).drop 0).take<|jG (iL ns).length 63-0)=_;refine Rr e<|Rr jc ?_;rewrite[lH];exact Rr ig rfl
theorem Sa(h:ns.length<=63):∃σ1 σ2 lv,ph 0 yT JD ⟨[.f<|.l<|iL ns,.u,.u,.u],{}⟩=fU (.n,σ1)/\ph 0 yT JU σ1=fU (.n,σ2)/\
  ph 0 yT N3 σ2=fU (.n,⟨[.f<|.l<|iL ns,lv,.o [.i 0],.u],{}⟩)/\sL lv=fU (.l<|iL<|gh ns)/\lv.nb Z7=Z8:=by
 have d:ph 0 yT JD ⟨[.f<|.l<|iL ns,.u,.u,.u],{}⟩=fU (.n,⟨[.f<|.l<|iL ns,.o<|iL ns,.u,.u],{}⟩):=by show((((No (iL ns) .none<|.i 63).map LV.o).map λlv=>(lv,(⟨[.f<|.l<|iL ns,.u,.u,.u],{}⟩:St))).map λx=>(Fl.n,x.2.set 1 x.1))=_;refine Rr (Vj h) ?_;rfl
 have f:PV.beq (.l<|iL ns) (.l [])=fU (decide (ns=[])):=CP ns [];have c:∀l:List Int,Oa.nb Z7 (iL l)=Z8:=λl=>by
  induction l with
  |nil=>rfl
  |cons i l g=>exact g
 have e:∀σ',(bif decide (ns=[]) then gM 0 yT (.c (.a 1<|.l<|.c (.i 1) .n) .n) ⟨[.f<|.l<|iL ns,.f<|.l<|iL ns,.u,.u],{}⟩ else gM 0 yT .n ⟨[.f<|.l<|iL ns,.f<|.l<|iL ns,.u,.u],{}⟩)=fU (.n,σ')->
   ph 0 yT JU ⟨[.f<|.l<|iL ns,.o<|iL ns,.u,.u],{}⟩=fU (.n,σ'):=λσ' h=>by
  show(((PV.beq (.l<|iL ns)<|.l []).map λb=>(b,(⟨[.f<|.l<|iL ns,.f<|.l<|iL ns,.u,.u],{}⟩:St))).bind λx=>bif x.1 then gM 0 yT _ x.2 else gM 0 yT .n x.2)=_;refine Rr f ?_;exact h
 unfold gh;by_cases a:ns=[]
 .refine(ou _ _ (.o [.i 1]) ⟨d,e ⟨[.f<|.l<|iL ns,.o [.i 1],.u,.u],{}⟩<|by refine Rr (bT a) ?_;rfl,rfl,?_,rfl⟩);refine Rr (bf a) ?_;rfl
 .refine(ou _ _ (.f<|.l<|iL ns) ⟨d,e ⟨[.f<|.l<|iL ns,.f<|.l<|iL ns,.u,.u],{}⟩<|by refine Rr (Wq a) ?_;rfl,rfl,?_,c _⟩);refine Rr (aK a) ?_;rfl
section
variable{w:bN}{ad kK:Ad}{F F':FZ}{fx:Fx}{ex ex' L L' news:dw}{σ σ':St}{s s':aG}{A:bU}{t:Bool}{os:gv}{env:mR}{cells:List Int}
theorem JH{l:List bW}(b:x≠y)(e:x∈l)(f:y∈l)(a:bW):[x,y].count a<=l.count a:=by
 by_cases c:x=a
 .subst c;have:[x,y].count x=1:=by simp[Ne.symm b]
  refine Rr this ?_;exact dz.2 e
 .by_cases d:y=a
  .subst d;have:[x,y].count y=1:=by simp[b]
   refine Rr this ?_;exact dz.2 f
  .have:[x,y].count a=0:=by simp[c,d]
   exact c9 .A .B (.z .A<|.n 0) rfl (el this)
theorem JC{p:PV}(E:ad.11=cells)(B:eA<|o9 env)(I:(o9 env).3 1=.c ad.7)(J:(o9 env).3 2=.c ad.8)(S:cr w ad (tv env ad) F ex σ s)(Y:σ.2={})(C:σ.1[1]?=fU (.f p))(D:σ.1[2]?=fU (.o [.i 0])):
  GS w ad.12 F (ex++gB ad {pk:=fU (0,cells)}) s:=by
 obtain⟨U,z,r1⟩:=S.4.get C;refine bO (S.4.get D) λc2 A Q=>?_;have V:=S.6 1 (.ref ad.9) (.head _) _ _ C (by simp) z;have P:=S.6 2 (.ref ad.4) (.tail _<|.head _) _ _ D (by simp) A;have R:S.3 ad.7=fU U.1:=S.5 1 _ _ _ C (by simp) z I;have T:S.3 ad.8=fU c2.1:=S.5 2 _ _ _ D (by simp) A J;rw[V] at R;rw[P] at T;refine lg Q λy a vs g r=>?_;clear Q;subst g;injection P with d;subst d
 refine cU (cZ.1 r) λv Z i j W=>?_;subst i;obtain⟨t,rfl⟩:=j;cases dN.1 W;have u:=λq=>pB A q;have k:=λb=>mr A b;have G:ad.7≠ad.8:=λe=>by
  have:=B.3 1 2 (.c ad.7) I (Rr J<|Rr e rfl) (by simp);injection this with f;cases f
 have m:ad.7∈(o9 env).6:=B.5 1 _ I;have n:ad.8∈(o9 env).6:=B.5 2 _ J;have O:gB ad {pk:=fU (0,cells)}=[(ad.4,λo=>vz 0 o/\ad.11=cells),(ad.7,iK<|fU<|.ref ad.9),(ad.8,iK<|fU<|.ref ad.4)]:=rfl;refine S.8.weak (λq H=>?_) λb=>?_
 .rw[O] at H;simp only [a7,ax,bj,or_false] at H;rcases H with h|h|h|h
  .exact⟨q,by simp[h],rfl,λy y x=>x⟩
  .subst h;refine⟨(ad.4,dj [.int 0 t]),aw _<|aD _<|u _<|by simp[gF],rfl,λo y x=>⟨⟨t,x⟩,E⟩⟩
  .subst h;exact⟨(ad.7,iK<|S.3 ad.7),aD _<|aw _<|aw _<|aE.2 ⟨_,m,rfl⟩,rfl,λo y x=>by rw[R] at x;exact x⟩
  .subst h;exact⟨(ad.8,iK<|S.3 ad.8),aD _<|aw _<|aw _<|aE.2 ⟨_,n,rfl⟩,rfl,λo y x=>by rw[T] at x;exact x⟩
 .have L:=k b;have M:=JH G m n b;refine Rr O ?_;have z:∀l:List bW,je (l.map λc=>(c,iK<|S.3 c))=l:=λl=>by simp[je,oV]
  have N:(o9 env).6.count b<=(je<|dU (tv env ad) S.2 S.3).count b:=by rewrite[je];refine Rr aC<|Rr aC<|Rr bt<|Rr bt ?_;have:=bx (List.count b)<|z (o9 env).6;unfold je at this;exact gy .A (.a .B<|.a .C .D) (.z .A .D) rfl (eg this)
  simp only [gF,je,az,dP,aC,bt,cy,fm] at L M N⊢
  exact W6 (.a .A<|.a (.a (.a (.n 0) .B) .C) .D) (.a .E<|.a .F<|.a .A<|.v 6) (.o (.v 7) .E<|.o (.a (.a (.n 0) .D)<|.v 8) .F<|.z (.a (.a (.n 0) .B) .C)<|.v 7) rfl N (eg L) M
end
section
variable{w:bN}{ad kK:Ad}{F F':FZ}{fx:Fx}{ex ex' L L' news:dw}{σ σ':St}{s s':aG}{A:bU}{t:Bool}{os:gv}{env:mR}{cells ns:List Int}
theorem Mp(t:Bool):∀l:List Int,Oa.nb t (iL l)=Z8:=by
 intro l;induction l with
 |nil=>exact rfl
 |cons i l a=>exact a
theorem xo:gB ad {}=[]:=rfl
theorem Jk(bb:BB w F)(B:ns.length<=63)(r:VR w ad F (.l<|iL ns) v)(G:GS w ad.12 F ((439,xx)::ex) s)(R:Rm 2 A):
  bV Z8 (MM w) A (call (.ref 444) [v]) (λu s'=>∃kK F',iD F F'/\kK.12=ad.12/\kK.11=gh ns/\u=.ref kK.5/\lQ kK F'/\(∃ps,F' 439=fU (qX ps))/\
   GS w kK.12 F' (ex++gB kK {pk:=fU (0,gh ns)}) s') ji s:=by
 refine It (Sa B) λσ1 σ2 lv v0 v1 v2 hfz hnb=>?_;have H:=Q3;refine iB (an H) λH I=>iB (an H) λH t2=>iB (an H) λt0 t1=>?_;have T:BP w Z8 yT 0:=EJ;refine lj<|wX (ad:=ad) (F:=F) (ex:=(439,xx)::ex) (W:={}) (IY w.2) (me:=Z9) (sl0:=[.f<|.l<|iL ns]) (vf:=[⟨v,Z9⟩]) rfl (λuu=>rfl) ⟨⟨rfl,r⟩,trivial⟩ (λc hc=>by rw[bl] at hc;subst hc;rfl) rfl
  (λc D e=>nomatch e) (by refine Rr xo ?_;rw[bn];exact G) R.room λenv s' b C d hq S=>?_
 have b:eA<|o9 env:=b;rw[<-C] at t0 t1 t2 I;have J:Rm (0+1)<|A.deeper env:=R.deep;refine Rr J1<|dO<|pi (OB (N:=0) T JD (fx:=o9 env) (st:=ul 0) b rfl t0 v0 S J) λc s1 Y=>?_;refine m5 Y λf F1 l1 m=>?_;clear Y;subst f;obtain⟨S1⟩:=m;refine dO<|pi (OB (N:=0) T JU (fx:=o9 env) (st:=ul 1) b rfl t1 v1 S1 J) λc s2 Z=>?_;refine m5 Z λg F2 l2 n=>?_;clear Z;subst g;obtain⟨S2⟩:=n;refine dO<|pi (OB (N:=0) T N3 (fx:=o9 env) (st:=ul 2) b rfl t2 v2 S2 J) λc s3 h3=>?_;refine m5 h3 λj F3 l3 q=>?_;clear h3;subst j;obtain⟨S3⟩:=q;refine jX (S3.tW (i:=1) (lv:=lv) rfl hfz) λV c1 l4 hc1 hv1 t=>?_;obtain⟨S4⟩:=t;have E:iD F V:=l1.trans<|l2.trans<|l3.trans l4;have P:BB w V:=λh hF=>bb h λa o e=>hF a o<|E a o e;have Q:(gh ns).length<=63:=by
  unfold gh;split
  .decide
  .exact B
 refine dO<|pi (QT b C d hq P S4 (by exact cf.2 ⟨Mp _ _,cf.2 ⟨Mp _ _,rfl⟩⟩) rfl rfl Q rfl) λc s5 h5=>?_
 refine xe h5 λl kK F5 l5 U z hta hps lc lp o1 o2 y=>?_;clear h5;subst l;obtain⟨S5⟩:=y;have M:eA<|tv env kK:=tv.ok b;refine dO<|yz<|bg.fr (x:=.v 3) (fx:=tv env kK) (O:=yT) (k:=0) (r:=(.t,_)) LD M I rfl S5 J λu F6 s6 l6 L S6=>?_;have L:=pF.1 L;refine(ff kK F6 ⟨E.trans<|l5.trans l6,U,z,L.1,L.2,?_,JC (p:=.l<|iL<|gh ns) z b o1 o2 S6 rfl rfl rfl⟩);obtain⟨ps,hps⟩:=hps;exact⟨ps,l6 _ _ hps⟩
end
theorem I6:mroOf (.type "bytearray")=pure [.type "bytearray",.type "object"]:=by rw[mroOf_type];kernel_rfl
theorem y5:fp (.type "bytearray") "__new__"=pure (fU<|.builtin "bytearray.__new__"):=by rewrite[dJ];refine Rr cj ?_;kernel_rfl
theorem rI:fp (.type "bytearray") "__init__"=pure (fU<|.builtin "bytearray.__init__"):=by rewrite[dJ];refine Rr cj ?_;kernel_rfl
theorem pZ:Slot "bytearray" "__init__" "bytearray.__init__":=
 .of (owner:="bytearray") (n:="__init__") rI (by decide+kernel) (by decide+kernel) (by decide+kernel)
  (by first|exact .inl (by decide+kernel)|exact .inr<|by decide+kernel) (by rw[k9];kernel_rfl)
theorem vP:TypeCalled "bytearray" "bytearray.__new__" "bytearray.__init__":=
 ⟨by decide+kernel,by decide+kernel,(ff _ _ I6),madeBy_type I6 y5<|by decide+kernel,by decide+kernel,by rw[k9];kernel_rfl,pZ⟩
theorem Dv:checkTypeCall "bytearray" ⟨[],[]⟩=pure ():=by kernel_rfl
theorem D7:oG "bytearray.__new__" ⟨[.type "bytearray"],[]⟩=pure ():=by kernel_rfl
theorem uN:plainId "bytearray.__new__"=Z8:=by decide+kernel
theorem AY:qY BN "bytearray.__new__"=fU Builtin.«list.__new__»:=entryFor_alias (id':="list.__new__") (by rw[fastTable_eq_tree];kernel_rfl) (by first|rfl|decide+kernel) (by decide+kernel)<|by rw[fastTable_eq_tree];kernel_rfl
theorem y9:qY BN "bytearray.__init__"=fU Builtin.«bytearray.__init__»:=uj<|by kernel_rfl
theorem AQ(a:aF):zx "bytearray.__init__" ⟨[a],[]⟩:=by unfold zx;kernel_rfl
theorem Kx:Builtin.Bytes.bindOptional "bytearray.__init__" "bytearray" ["source","encoding","errors"] [] []=pure [Z9,Z9,Z9]:=by kernel_rfl
set_option maxRecDepth 1000000 in
set_option maxHeartbeats 4000000 in
theorem KQ:("bytearray.__new__".splitOn ".__new__").headD ""="bytearray":=by simp+decide [String.splitOn,String.splitOnAux]
section
variable{w:bN}{A:bU}{s:aG}{g:Bool}
theorem CV(h:Q₁ (.ref s.1.1.size) {s with heap:=s.1.push {cls:=.type "bytearray",data:=.bytearray #[]}}):
  codeAny (MM w) A (.call (.builtin "bytearray.__new__") ⟨[.type "bytearray"],[]⟩) (wants Q₁ E) s:=by
 refine codeAny_of_tree ?_;show br _ A.in1 (do oG "bytearray.__new__" ⟨[.type "bytearray"],[]⟩;again (.builtin "bytearray.__new__" ⟨[.type "bytearray"],[]⟩)) _ _ s;refine aH<|iY D7<|bB ⟨MI uN _,codeAny_builtin_stack AY rfl λp st=>?_⟩;rw[Around.under_plainId uN _];have b:=Eg;have a:=KQ;obtain⟨e,c,d,tk,os⟩:=s;simp only [a]
 wp_walk
 exact h
end
section
variable{w:bN}{A:bU}{s:aG}{g:Bool}{E:aF->aG->Prop}
theorem O7(ho:∃o,s.1.get? a=fU o/\qZ [] o)(h:∀h',dC a s.1 h'->(∃o,h'.get? a=fU o/\qZ [] o)->Q .none {s with heap:=h'}):
  bV Z8 (MM w) A (call (.builtin "bytearray.__init__") [.ref a]) Q E s:=by
 refine qo pZ (nt ho) y9 (by decide+kernel) ?_<|AQ _;delta Builtin.«bytearray.__init__»;dsimp only;delta Builtin.Bytes.ownRelease;refine am (bV.of<|aH<|tY ho sY (by decide+kernel) (by decide+kernel)<|bB ?_);simp-iota only [mu,cq,if_false];refine Rr Kx<|am<|aO ?_;dsimp only;refine am<|bV.of<|iY (a:=()) rfl ?_;refine am<|bV.of<|iY (a:=()) rfl ?_;refine am (m:=_<||>_) ?_;delta orM;refine am<|yP ?_;simp-iota only [toBool];refine bO ho λo b e=>am (m:=Builtin.Bytes.exportsOf<|.ref a) ?_;delta Builtin.Bytes.exportsOf;rw[e] at b;refine am<|bV.of<|k8 b ?_;refine aO<|aO ?_;refine am<|bV.of<|Bc (f:=λg=>#[]) ho (bS _) λh' d c=>?_;exact aO ⟨.none,rfl,h h' d c⟩
theorem KS:callAny (.type "bytearray") ⟨[],[]⟩=pure (.again<|.builtin "type.__call__" ⟨[.type "bytearray"],[]⟩):=rfl
end
section
variable{w:bN}{A:bU}{s:aG}{g:Bool}{E:aF->aG->Prop}
theorem Iz(ho:∃o,s.1.get? a=fU o/\qZ b o):br (MM w) A (Xn (.ref a)<|.type "bytearray") (λr s'=>r=Z8/\s'=s) E s:=by
 obtain⟨o,d,po⟩:=ho;subst po;have c:=Eg;delta Xn
 repeat (first|with_reducible refine nI d ?_|(rw[c])|wp_step)
 exact⟨rfl,rfl⟩
theorem DT(ho:∃o,s.1.get? a=fU o/\qZ b o)(h:bV g (MM w) A (call (.builtin "bytearray.__init__") [.ref a]) (λv s'=>Q (fU v) s') E s):
  bV g (MM w) A (vb (.ref a) "__init__" []) Q E s:=by
 delta vb;refine am<|.of<|jg (nt ho) rI ?_;dsimp only;refine bJ<|am ?_;rw[pZ.2<|.ref a];refine aO<|am<|aR h (λv s' q=>aO q) λc c x=>x
theorem CU(h:∀h',Keeps s.1 h'->(∃o,h'.get? s.1.1.size=fU o/\qZ [] o)->Q (.ref s.1.1.size) {s with heap:=h'}):
  bV Z8 (MM w) A (call (.type "bytearray") []) Q E s:=by
 obtain⟨c,tl,d⟩:=vP.3;have a:=vP.4;refine lj<|eP rfl ?_;show bV Z8 _ _ (callAny (.type "bytearray") ⟨[],[]⟩) _ _ s;rw[KS];refine aO ⟨Code.quiet_builtin _<|by decide+kernel,eP (by show(!rf.contains "type.__call__")=Z8;decide+kernel) ?_⟩;refine Rr (XV entry_typeCall) ?_;delta Builtin.«type.__call__»;dsimp only;rw[aK<|by decide,aK<|by rw[vP.2];decide];rw[Dv,d,a];simp-iota only [pure_bind,List.isEmpty_cons,cq,if_false];have f:({s with heap:=s.1.push {cls:=.type "bytearray",data:=.bytearray #[]}}:aG).1.get? s.1.1.size=fU {cls:=.type "bytearray",data:=.bytearray #[]}:=fD _ rfl;have ho:∃o,({s with heap:=s.1.push {cls:=.type "bytearray",data:=.bytearray #[]}}:aG).1.get? s.1.1.size=fU o/\qZ [] o:=⟨_,f,rfl⟩;refine am<|bJ<|aR (.of<|wpAny_call<|CV (Q₁:=λv s'=>v=.ref s.1.1.size/\s'={s with heap:=s.1.push {cls:=.type "bytearray",data:=.bytearray #[]}}) ⟨rfl,rfl⟩) (λv s' e=>?_) λg g x=>x;obtain⟨rfl,e⟩:=e;rw[e];refine am<|aR (.of<|Iz ho) (λb s' e=>?_) λg g x=>x;obtain⟨rfl,e⟩:=e;rw[e,aK<|by decide];refine am<|bJ<|DT ho<|O7 ho λh' j i=>?_;dsimp only;rw[aK<|by decide];refine aO<|h h' (λb o e=>?_) i;have:b≠s.1.1.size:=λe'=>by
  have:=dY e;rw[e'] at this;exact cB _ this
 exact(j.2 b this).trans<|aZ _ e
end
noncomputable def Fb:Cr:=⟨89,89,me 8 0,.n,[(aa "self",0)],⟨[],1⟩,1,0,Z9,"BitsOut.__init__","paperhold.bits",245,88⟩
theorem Kt(P:eY):FnEnt P Fb:=FnEnt.of (by kernel_rfl) (by kernel_rfl) (by kernel_rfl) (by kernel_rfl) (dG<|by kernel_rfl) (by kernel_rfl) ⟨by decide,by decide⟩ (by kernel_rfl) (by kernel_rfl) λv1 v2 v3 v4=>by kernel_rfl
noncomputable def Wr(i:Nat):iW:=(bodyOf Fb)[i]?.getD<|.Pass default
noncomputable def bo0(t:iW):iW:=.Assign [.Attribute (.Name (so "self") (k0<|sT t).pos) (so "made") (sT t).pos] (.Call (.Name (so "bytearray") (k0<|sV t).pos) [] [] (sV t).pos) t.pos
noncomputable def WV(f:eT)(t:iW):iW:=.Assign [.Attribute (.Name (so "self") (k0<|sT t).pos) f (sT t).pos] (.Constant (.int 0) (Ku<|sV t) (sV t).pos) t.pos
theorem Oq:bodyOf Fb=[bo0<|Wr 0,WV (so "held")<|Wr 1,WV (so "count")<|Wr 2]:=by kernel_rfl
theorem TQ:uD (dv Fb) (so "bytearray")=Z8:=by kernel_rfl
theorem N2:∀P:eY,x0 P (aa "bytearray")=Z9/\nF (aa "bytearray")=fU (.type "bytearray"):=λP=>⟨by kernel_rfl,by kernel_rfl⟩
section
variable{w:bN}{ad kK:Ad}{F F':FZ}{fx:Fx}{ex VL:dw}{σ σ':St}{s s':aG}{A:bU}{env:mR}{d:bW}{m:eT->Option aF}
noncomputable def yO(m:eT->Option aF)(f:eT)(v:aF):eT->Option aF:=λy=>if y=f then fU v else m y
theorem tO(b:f∈l)(c:Within m l):Within (yO m f v) l:=λy a=>by
 unfold yO at a;by_cases h:y=f
 .refine Rr h ?_;exact b
 .rw[aK h] at a;exact c y a
theorem Fj(l:eA fx)(i:tD σ=Z8){e:dH}(n:(x,0)∈fx.2)(E:n7 F ad.6<|vC 127 d)(j:d≠ad.6)(z:f∈lJ 127)(D:Within m<|lJ 127)(B:mz e=Z8){P:aF->dw->Prop}
  (h:bV Z8 (MM w) A (dS e fx.1) (λv o=>∃L,P v L/\Nonempty (cr w ad fx F ((d,jh m)::L) σ o)) ji s):
  bV Z8 (MM w) A (yR (.Assign [.Attribute (.Name x p) f q] e pos) fx.1) (λr s'=>r=.next/\∃v L,P v L/\Nonempty (cr w ad fx F ((d,jh<|yO m f v)::L) σ s')) ji s:=by
 refine jy Bp vH rfl (pi h λv o u=>?_);refine bO u λL y b=>?_;obtain⟨S⟩:=b;refine ni<|g9 (mT l S n (wP i) (λe=>nomatch e) λc hc C=>?_)<|lA l n;cases(C:c=_);have G:=S.front;refine Fv S.B (by simp[kl]) z (E.get S) (G.at<|.head _) j D λh' k a g=>bO g λI e' H=>?_;have t:=(G.RD (P':=jh<|yO m f v) a e' H).tok k;exact⟨rfl,ff v L ⟨y,⟨⟨S.1,S.2,S.3,S.4,S.5,S.6,S.7,t.back⟩⟩⟩⟩
theorem Of(c:eA fx)(g:uD fx.1.1 x=Z8)(f:x=aa "bytearray")(S:cr w ad fx F ((d,jh m)::ex) σ s):
  bV Z8 (MM w) A (dS (.Call (.Name x np) [] [] pos) fx.1) (λv h=>∃L,(∃mB,v=.ref mB/\L=(mB,qZ [])::ex)/\Nonempty (cr w ad fx F ((d,jh m)::L) σ h)) ji s:=by
 subst f;have a:=N2 w.2;refine gG (g9 (.of<|zV c S.B g a.1 a.2 (by decide+kernel) ?_)<|by decide+kernel);refine i0 (args:=[]) rfl<|aO ⟨?_,?_⟩
 .exact bB rfl
 .refine CU λh' e ho=>?_;have G:=S.8.AR (t:=s.4) (h':=h') (news:=[(s.1.1.size,qZ [])]) e (λp b=>by
   rw[bl] at b;subst b;exact⟨fV<|ba _,ho⟩) (by simp)
  exact⟨_,⟨_,rfl,rfl⟩,⟨⟨S.1,S.2,S.3,S.4,S.5,S.6,S.7,G.rg [[(s.1.1.size,qZ [])],dU fx S.2 S.3,ci S.1,[(d,jh m)],ex,gB ad σ.2] (.n (.l 0)<|.n (.l 1)<|.n (.l 2)<|.n (.n (.l 3)<|.l 4)<|.l 5) (.n (.l 1)<|.n (.l 2)<|.n (.n (.l 3)<|.n (.l 0)<|.l 4)<|.l 5) rfl⟩⟩⟩
end
section
variable{w:bN}{ad kK:Ad}{F F':FZ}{fx:Fx}{ex VL:dw}{σ σ':St}{s s':aG}{A:bU}{env:mR}{d:bW}{m:eT->Option aF}{os:gv}
theorem Oc(G:GS w os F ex s)(R:Rm 3 A):bV Z8 (MM w) A (call (.ref 127) []) (λu s'=>∃x d mB F',iD F F'/\u=.ref x/\d≠x/\n7 F' x (vC 127 d)/\∀ad:Ad,GS w os F' (rK {ad with aB:=x,dB:=d,mB:=mB} (fU ⟨[],0,0⟩)++ex) s') ji s:=by
 have i:127∈kl:=by simp-iota [kl]
 refine lW (vm w.2 i) λnm q k0 k1 k2 k3 k5 hC=>?_;have hC':=G.B.1 _ _ hC;have hi:mC w.2 127 (aa "__init__")=fU (.ref 89):=lX (Xk w.2) 127 i;refine ia ((Kt w.2).ko) λo ho hd hoc=>KV hC' (G.B.Tz i) hi (G.B.1 _ _ ho) hoc ?_;have Wa:(s.1.push {cls:=.type "dict",data:=.dict #[]}).1.size=s.1.1.size+1:=sd ..
 have g1:=G.alloc (P:=jh λB=>Z9) {cls:=.type "dict",data:=.dict #[]} rfl (ff (#[]) _ ⟨rfl,(λe he=>bq he<|by simp),(by delta UniqKeys;simp),λB=>rfl⟩);refine hV (g1.rD {cls:=.ref 127,dict:=fU s.1.1.size,data:=.plain} rfl) λl1 e1 Q=>?_;have Q:GS w os _ ((s.1.1.size,jh λB=>Z9)::ex) {s with heap:=w7 s.1 127}:=Q;rw[show({s with heap:=s.1.push {cls:=.type "dict",data:=.dict #[]}}:aG).1.1.size=s.1.1.size+1 from Wa] at l1 e1 Q;generalize FZ.put F (s.1.1.size+1) {cls:=.ref 127,dict:=fU s.1.1.size,data:=.plain}=F1 at l1 e1 Q;have g:n7 F1 (s.1.1.size+1)<|vC 127 s.1.1.size:=⟨_,e1,rfl,λk=>by simp,rfl⟩;have z:s.1.1.size≠s.1.1.size+1:=by exact λe0=>lo1 (.z (.s .A) .A) rfl (eg e0)
 generalize s.1.1.size=d at*
 let WG:Ad:={aB:=0,dB:=0,mB:=0,aP:=0,aT:=0,aS:=d+1,cC:=0,cP:=0,tL:=0,kT:=0,cells:=[],os:=os}
 have R2:=R.made (C:=127) (rest:=[]);refine lj (wX (ad:=WG) (F:=F1) (ex:=(d,jh λB=>Z9)::ex) (W:={}) (A:=A.under<|.builtin "type.__call__" ⟨[.ref 127],[]⟩) (Kt w.2) (me:=Z9) (sl0:=[.m]) (vf:=[⟨.ref<|d+1,Z9⟩]) rfl (λB=>rfl) ⟨rfl,trivial⟩ (λc hc=>by rw[bl] at hc;subst hc;rfl) rfl
  (λc D e=>nomatch e) (by refine Rr xo ?_;rw[bn];exact Q) (R2.mono (k':=2)<|by exact Wz (.n 2) (.n 2) .e rfl).room λenv s' OK hsc UI hq S=>?_)
 have f:(aa "self",0)∈(Fx.call env Fb.5 Fb.6 Z9).2:=by delta Fb;simp
 have a:aa "made"∈lJ 127:=by delta lJ pD;simp
 have j:aa "held"∈lJ 127:=by delta lJ pD;simp
 have r:aa "count"∈lJ 127:=by delta lJ pD;simp
 have E:Within (λB=>Z9)<|lJ 127:=λy hy=>bq rfl hy;refine Rr Oq<|dO (pi (Fj OK rfl f g z a E rfl (Of OK (by refine Rr hsc ?_;exact TQ) rfl S)) λc s1 h1=>?_);refine ak λT=>lg h1 λH v1 L1 l M=>?_;clear h1;subst H;refine bO l λmB Y Z=>?_;clear l;subst Y;subst Z;obtain⟨S1⟩:=M;refine T<|dO<|pi (Fj (P:=λv L=>(∃t,v=.int 0 t)/\L=(mB,qZ [])::ex) OK rfl f g z j (tO a E) rfl (.of<|mQ ⟨_,⟨⟨_,rfl⟩,rfl⟩,⟨S1.tok _⟩⟩)) λc s2 h2=>?_;refine ak λT=>lg h2 λI v2 L2 m N=>?_;clear h2;subst I;refine iB m λXg WO=>?_;clear m;obtain⟨U,rfl⟩:=Xg;subst WO;obtain⟨S2⟩:=N;refine T<|dO<|pi (Fj (P:=λv L=>(∃t,v=.int 0 t)/\L=(mB,qZ [])::ex) OK rfl f g z r (tO j<|tO a E) rfl (.of<|mQ ⟨_,⟨⟨_,rfl⟩,rfl⟩,⟨S2.tok _⟩⟩)) λc s3 h3=>?_;refine ak λT=>lg h3 λJ v3 L3 n O=>?_;clear h3;subst J;refine iB n λXI XF=>?_;clear n;obtain⟨V,rfl⟩:=XI;subst XF;obtain⟨S3⟩:=O;refine T<|aO ⟨rfl,B2 (d+1) d mB F1 ⟨l1,rfl,z,g,λad=>?_⟩⟩;have d1:aa "made"≠aa "held":=by decide+kernel
 have d2:aa "made"≠aa "count":=by decide+kernel
 have d3:aa "held"≠aa "count":=by decide+kernel
 refine S3.8.weak (λp hp=>?_) λb=>?_
 .simp only [XW,eR,eN,ax] at hp;rcases hp with rfl|rfl|h
  .refine⟨(d,jh<|yO (yO (yO (λB=>Z9) (aa "made")<|.ref mB) (aa "held")<|.int 0 U) (aa "count")<|.int 0 V),by simp,rfl,λo B q=>?_⟩;refine⟨_,q,?_,⟨U,?_⟩,⟨V,?_⟩,λx h1 h2 h3=>?_⟩
   .simp-iota [yO,d1,d2]
   .simp-iota [yO,d3]
   .simp-iota [yO]
   .simp-iota [yO,h1,h2,h3]
  .exact⟨(mB,qZ []),by simp,rfl,λo B q=>q⟩
  .exact⟨p,by simp-iota [h],rfl,λo B q=>q⟩
 .simp only [XW,je,az,dP,aC,bt,cy,fm,eR,eN];exact vd (.a (.a .A .B) .C) (.a .D<|.a .E<|.a (.a (.a .A .F) .B) .C) .e rfl
end
section
variable{w:bN}{ad kK:Ad}{F F':FZ}{fx:Fx}{ex VL:dw}{σ σ':St}{s s':aG}{A:bU}{env:mR}{d:bW}{os:gv}
theorem cr.Si(S:cr w ad fx F ex σ s){lv:LV}(hi:σ.1[i]?=fU lv):Nonempty<|cr w ad fx F ex (σ.set i .u) s:=by refine ia (S.take hi) λc hc f b=>?_;obtain⟨d⟩:=b;exact⟨d.Ra (λp e=>aw _ e) λa=>by simp only [je,aC,bt];exact c9 .A (.a .B .A) .e rfl⟩
noncomputable abbrev Ad.out(ad:Ad)(x d mB:bW):Ad:={ad with aB:=x,dB:=d,mB:=mB}
theorem Ju:Lu ad<|ad.out x d mB:=λa a h=>h
def Mk(σ:St):Prop:=(σ.1.set 6 .u).all (LV.nb Z8)=Z8
noncomputable def o6(σ:St):St:=⟨σ.1.set 6<|.f .o,{σ.2 with bo:=fU ⟨[],0,0⟩}⟩
noncomputable abbrev zj(env:mR):Fx:=Fx.call env oQ.5 oQ.6 Z9
theorem Au(m:eA<|zj env)(o:env.1=dv oQ){st:iW}(S:cr w ad (zj env) F ex σ s){lv:LV}(E:σ.1[6]?=fU lv)(h:Mk σ)(R:Rm 3 A):
  bV Z8 (MM w) A (yR (Gi st) env) (λr s'=>r=.next/\∃kK F',iD F F'/\kK.12=ad.12/\Nonempty (cr w kK (zj env) F' ex (o6 σ) s')) ji s:=by
 obtain⟨a⟩:=S.Si E;have H:x0 w.2 (aa "BitsOut")=fU (.ref 127):=(nA.inj<|T1 w.2).1;refine jy (tw rfl) sh rfl (gG<|g9 (.of<|qi m S.B (by refine Rr o ?_;exact(an Xr).1) H ?_)<|by decide+kernel);refine i0 (args:=[]) rfl (aO ⟨Dc S.B<|by simp[kl],?_⟩);have G:GS w ad.12 F (dU (zj env) a.2 a.3++(ci a.1++(ex++qK ad σ.2.2))) s:=a.8.rg [dU (zj env) a.2 a.3,ci a.1,ex,rK ad σ.2.1,qK ad σ.2.2] (.n (.l 0)<|.n (.l 1)<|.n (.l 2)<|.n (.l 3)<|.l 4) (.n (.l 0)<|.n (.l 1)<|.n (.l 2)<|.l 4) rfl;refine pi (Oc G R) λu q n=>Er n λx d mB b p l g f C=>?_;clear n;subst l;have v:GS w ad.12 b (rK (ad.out x d mB) (fU ⟨[],0,0⟩)++(dU (zj env) a.2 a.3++(ci a.1++(ex++qK ad σ.2.2)))) q:=C ad;have k:jI w (ad.out x d mB) b (σ.1.set 6 .u) a.1:=jI.re (t:=Z8) (λI=>Ju) h<|a.4.le p;have z:cr w (ad.out x d mB) (zj env) b (gF ⟨.ref x,Z9⟩++ex) ⟨σ.1.set 6 .u,{σ.2 with bo:=fU ⟨[],0,0⟩}⟩ q:=⟨a.1,a.2,a.3,k,a.5,(λi u j=>nomatch j),(λc D e=>nomatch e),by refine Rr ij<|v.rg [rK (ad.out x d mB)<|fU ⟨[],0,0⟩,dU (zj env) a.2 a.3,ci a.1,ex,qK ad σ.2.2] (.n (.l 0)<|.n (.l 1)<|.n (.l 2)<|.n (.l 3)<|.l 4) (.n (.l 1)<|.n (.l 2)<|.n (.n (.l 5)<|.l 3)<|.n (.l 0)<|.l 4) rfl⟩
 refine .of<|kJ ?_;refine cr.store m z (x:=aa "out") (i:=6) (lv:=.f .o) (by show _∈tu;unfold tu;simp) (by show env.1.2.lookup _≠_;refine Rr o ?_;decide+kernel) ⟨rfl,xM.2 ⟨rfl,g,f⟩⟩ (λu j=>nomatch j) λs' y=>?_
 refine⟨rfl,ff (ad.out x d mB) b ⟨p,rfl,⟨?_⟩⟩⟩;have e:(σ.1.set 6 .u).set 6 (.f .o)=σ.1.set 6 (.f .o):=qx ..
 have B:({sl:=(σ.1.set 6 .u).set 6<|.f .o,W:={σ.2 with bo:=fU ⟨[],0,0⟩}}:St)=o6 σ:=by unfold o6;exact Rr e rfl
 rw[<-B];exact y
end
section
variable{w:bN}{ad kK:Ad}{F F':FZ}{fx:Fx}{ex VL:dw}{σ σ':St}{s s':aG}{A:bU}{env:mR}{d:bW}{os:gv}{ns:List Int}
noncomputable def f0(h:qA):FZ:=λa=>if a=439 then Z9 else h.get? a
theorem Qg(c:h.get? 439=fU (qX #[]))(x:h.Ns a m)(d:DG (f0 h) h'):h'.Ns a m:=by
 refine p6 x λo es ep e hd r=>?_;clear x;refine(ou o es ep ⟨d a o ?_,hd,r⟩);unfold f0;rw[aK]
 .exact e
 .rintro rfl
  rw[c] at e;injection e with b;subst b;injection hd
theorem Uh:∀P:eY,(KF P).lookup 439=Z9:=λP=>by kernel_rfl
theorem NU(B:qW w h)(b:h.get? 439=fU (qX #[])):Cz w<|f0 h:=by
 have d:∀a o,(KF w.2).lookup a=fU o->f0 h a=fU o:=λa o e=>by
  unfold f0;rw[aK]
  .exact B.1 _ _ e
  .rintro rfl
   rw[Uh] at e;injection e
 refine⟨λh' c=>⟨λa o e=>c _ _<|d a o e,?_,?_⟩,d⟩
 .refine bO B.2 λmc x y=>?_;exact⟨mc,Qg b x c,y⟩
 .refine bO B.3 λmb x y=>?_;exact⟨mb,Qg b x c,y⟩
theorem TH(d:h.get? 439=fU (qX #[]))(b:h.BuiltinsAt (x0 w.2) 439):BB w<|f0 h:=λh' j=>by
 refine sC b λc o e b2 f a g i=>?_;refine(ff c o ⟨e,b2,f,a,j c o ?_,i⟩);unfold f0;refine Rr (aK a) ?_;exact g
theorem Uj(B:qW w s.1)(b:s.1.get? 439=fU (qX #[]))(d:s.2=#[]):GS w s.5 (f0 s.1) [(439,xx)] s:=by
 refine⟨NU B b,λa o e=>?_,⟨λp c=>?_,λa=>?_⟩,d,rfl⟩
 .unfold f0 at e;split at e
  .injection e
  .exact e
 .rw[bl] at c;subst c;exact⟨⟨_,b,rfl⟩,bf rfl⟩
 .refine Rr az<|Rr dP<|Rr cy<|Rr fm ?_;split<;>omega
noncomputable def Gp(ns:List Int):St:=⟨[.f<|.l<|iL ns]++ap 20 .u,{}⟩
noncomputable def EH(ns:List Int):St:=⟨[.f<|.l<|iL ns,.f .t]++ap 19 .u,{pk:=fU (0,gh ns)}⟩
theorem Mi(l:eA<|zj env)(B:env.1=dv oQ)(M:BB w F)(m:ns.length<=63)(S:cr w ad (zj env) F [(439,xx)] (Gp ns) s)(R:Rm 3 A):
  bV Z8 (MM w) A (yR (Lv<|EL 0) env) (λr s'=>r=.next/\∃kK F',iD F F'/\kK.12=ad.12/\(∃ps,F' 439=fU (qX ps))/\Nonempty (cr w kK (zj env) F' [] (EH ns) s')) ji s:=by
 have Q:x0 w.2 (aa "_law_taker")=fU (.ref 444):=(nA.inj<|T1 w.2).2;refine ia ((IY w.2).ko) λo ho U T=>?_;have hR:Rm (0+1) A:=R.mono (by exact Wz (.s<|.n 0) (.n 3) .e rfl);refine jy (tw rfl) sh rfl (gG<|g9 (.of<|qi l S.B (by refine Rr B ?_;exact(an Xr).2) Q ?_)<|by decide+kernel);have t1:Pd env.1 tu Aj (.c (.v 0) .n) [.Name (so "script") (hd<|ka<|sV<|EL 0).pos]=Z8:=by kernel_rfl
 refine i0 (nK (x:=.c (.v 0) .n) (es:=[.Name (so "script") (hd<|ka<|sV<|EL 0).pos])).1<|lU.go (r:=([.l<|iL ns],Gp ns)) (J5 (O:=yT) (k:=0) LD Xw) l t1 rfl S hR λvs H Y C W b=>?_;refine cU (cZ.1 W) λv r d V rr=>?_;subst d;cases dN.1 rr;refine⟨wQ (b.B.1 _ _ ho) U,?_⟩;have G:GS w ad.12 H ((439,xx)::(dU (zj env) b.2 b.3++ci b.1)) Y:=b.8.rg [dU (zj env) b.2 b.3,ci b.1,[(439,xx)]] (.n (.l 0)<|.n (.l 1)<|.n (.l 2)<|.l 3) (.n (.l 2)<|.n (.l 0)<|.l 1) rfl;refine pi (Jk (ex:=dU (zj env) b.2 b.3++ci b.1) (λh N=>M h λa o e=>N a o<|C a o e) m V G<|R.mono<|by exact Wz (.n 2) (.n 3) .e rfl) λu Z z=>D0 z λkK j E n P f p g I=>?_;clear z;subst f;obtain⟨ps,hps⟩:=g;have y:jI w kK j (Gp ns).1 b.1:=jI.re (t:=Z7) (λe=>nomatch e) (by exact cf.2 ⟨Mp _ _,rfl⟩)<|b.4.le E
 have L:cr w kK (zj env) j (gF ⟨.ref kK.5,Z9⟩++[]) ⟨(Gp ns).1,{pk:=fU (0,gh ns)}⟩ Z:=⟨b.1,b.2,b.3,y,b.5,(λi u q=>nomatch q),(λc D e=>nomatch e),by refine Rr ij<|I.rg [dU (zj env) b.2 b.3,ci b.1,gB kK {pk:=fU (0,gh ns)}] (.n (.n (.l 0)<|.l 1)<|.l 2) (.n (.l 0)<|.n (.l 1)<|.n (.l 3)<|.l 2) rfl⟩
 refine .of<|kJ ?_;refine cr.store l L (x:=aa "take") (i:=1) (lv:=.f .t) (by show _∈tu;unfold tu;simp) (by show env.1.2.lookup _≠_;refine Rr B ?_;decide+kernel) ⟨rfl,pF.2 ⟨rfl,p⟩⟩ (λu q=>nomatch q) λs' J=>?_
 exact⟨rfl,ff kK j ⟨C.trans E,n,⟨ps,hps⟩,⟨J⟩⟩⟩
end
noncomputable def Jt:Nat:=10
def I0(ns:List Int):Prop:=∃σ1 σ2 σ3 σ4,
 gM dn (cK Jt) xS (EH ns)=fU (.n,σ1)/\Mk σ1/\(∃lv,σ1.1[6]?=fU lv)/\
 gM dn (cK Jt) yd (o6 σ1)=fU (.n,σ2)/\Mk σ2/\(∃lv,σ2.1[6]?=fU lv)/\
 gM dn (cK Jt) xw (o6 σ2)=fU (.n,σ3)/\Mk σ3/\(∃lv,σ3.1[6]?=fU lv)/\
 gM dn (cK Jt) xc (o6 σ3)=fU (.r<|.f<|.c Z8,σ4)
section
variable{w:bN}{ad kK:Ad}{F F':FZ}{fx:Fx}{ex VL:dw}{σ σ':St}{s s':aG}{A:bU}{env:mR}{d:bW}{os:gv}{ns:List Int}
theorem HZ:∀(a b:List iW),nE (a++b) env=(nE a env>>=λf=>match f with|.next=>nE b env|f=>pure f):=by
 intro a;induction a with
 |nil=>exact λb=>rfl
 |cons x r c=>
  intro b;show(yR x env>>=λf=>match f with|.next=>nE (r++b) env|f=>pure f)=((yR x env>>=λf=>match f with|.next=>nE r env|f=>pure f)>>=_);rw[bind_assoc]
  congr 1
  funext f
  cases f with
  |next=>exact c b
  |_=>rfl
theorem rP(h:bV Z8 M A (nE a env) (λf s'=>match f with|.next=>bV Z8 M A (nE b env) Q E s'|f=>Q f s') E s):bV Z8 M A (nE (a++b) env) Q E s:=by rw[HZ];refine am<|aR h (λf s' h'=>?_) λc c e=>e;cases f<;>first|exact h'|exact aO h'
theorem zM:Rm 33 callerA:=⟨by decide+kernel,by decide+kernel,rfl⟩
theorem M3(ev:∀ns:List Int,ns.length<=63->I0 ns):PZ:=by
 intro w h B T BI l items n ns Q hi j hg;have d:=T.2;refine wD (ev ns j) λσ1 σ2 σ3 σ4 v1 o1 zt74 v2 o2 zt75 v3 o3 zt76 v4=>?_;obtain⟨q1,p1⟩:=zt74;obtain⟨q2,p2⟩:=zt75;obtain⟨q3,p3⟩:=zt76;have N:=S9;obtain⟨t4',N⟩:=an N;obtain⟨t3',t3⟩:=an t4';obtain⟨t1,t2⟩:=an t3';have M:BP w Z8 (cK Jt) 30:=Sw 10
 let i:Ad:={aB:=0,dB:=0,mB:=0,aP:=0,aT:=0,aS:=0,cC:=0,cP:=0,tL:=0,kT:=0,cells:=[],os:=h.5}
 have G0:GS w i.12 (f0 h.1) [(439,xx)] h:=Uj B d hg;have hv:VR w i (f0 h.1) (.l<|iL ns)<|.ref l:=by
  refine jW.2 ⟨by rw[av];unfold aq;exact dL .A (.n 1048576) (.z .A<|.n 63) rfl j,ff l items.1 ⟨rfl,⟨_,?_,n,rfl⟩,fP.ofInts hi⟩⟩;unfold f0;rw[aK]
  .exact Q
  .rintro rfl
   rw[d] at Q;injection Q with k;cases k
 refine lj (wX (ad:=i) (F:=f0 h.1) (ex:=[(439,xx)]) (W:={}) (Ol w.2) (me:=Z9) (sl0:=[.f<|.l<|iL ns]) (vf:=[⟨.ref l,Z9⟩]) rfl (λuu=>rfl) ⟨⟨rfl,hv⟩,trivial⟩ (λc hc=>by rw[bl] at hc;subst hc;rfl) rfl
  (λc D e=>nomatch e) (by refine Rr xo ?_;rw[bn];exact G0) zM.room λenv s' g f P hq S=>?_)
 have g:eA<|zj env:=g;have a:Rm (30+1)<|callerA.deeper env:=(zM.mono (k':=32)<|by decide).deep;rw[<-f] at t1 t2 t3 N;refine Rr LM<|dO (pi (Mi g f (TH d BI) j S<|a.mono<|by decide) λc s1 h1=>?_);refine Mw h1 λq WG F1 l1 V z A=>?_;clear h1;subst q;obtain⟨pt,R⟩:=z;obtain⟨S1⟩:=A;refine rP<|pi (qF M xS (fx:=zj env) (st:=qH 1 4) g rfl t1 v1 S1 a) λc s2 h2=>?_;refine m5 h2 λr F2 l2 C=>?_;clear h2;subst r;obtain⟨S2⟩:=C;refine dO (pi (Au g f S2 p1 o1<|a.mono<|by decide) λc s3 h3=>?_);refine dI h3 λs ad3 F3 l3 Y E=>?_;clear h3;subst s;obtain⟨S3⟩:=E;refine rP<|pi (qF M yd (fx:=zj env) (st:=qH 6 10) g rfl t2 v2 S3 a) λc s4 h4=>?_;refine m5 h4 λt F4 l4 G=>?_;clear h4;subst t;obtain⟨S4⟩:=G;refine dO (pi (Au g f S4 p2 o2<|a.mono<|by decide) λc s5 h5=>?_);refine dI h5 λu ad5 F5 l5 Z H=>?_;clear h5;subst u;obtain⟨S5⟩:=H;refine rP<|pi (qF M xw (fx:=zj env) (st:=qH 17 7) g rfl t3 v3 S5 a) λc s6 h6=>?_;refine m5 h6 λx F6 l6 I=>?_;clear h6;subst x;obtain⟨S6⟩:=I;refine dO (pi (Au g f S6 p3 o3<|a.mono<|by decide) λc s7 h7=>?_);refine dI h7 λy ad7 F7 l7 os7 J=>?_;clear h7;subst y;obtain⟨S7⟩:=J;refine pi (qF M xc (fx:=zj env) (st:=qH 25 6) g rfl N v4 S7 a) λc s8 h8=>?_;obtain⟨v,rfl,F8,cl,l8,rfl,p,⟨L⟩⟩:=h8;obtain⟨_,p⟩:=p;have p:cl.1=.bool Z8:=p;have m:iD F1 F8:=l2.trans<|l3.trans<|l4.trans<|l5.trans<|l6.trans<|l7.trans l8;have U:iD (f0 h.1) F8:=l1.trans m;have keep:∀b o,b≠439->h.1.get? b=fU o->s8.1.get? b=fU o:=λb o O e=>L.8.2 b o (U b o<|by unfold f0;refine Rr (aK O) ?_;exact e);have ht:s8.1.get? 439=fU (qX pt):=L.8.2 _ _<|m _ _ R;refine⟨p,?_,?_,L.8.4⟩
 .obtain⟨⟨o,vs,e1,e2,e3,e4⟩,_⟩:=id T;refine(OldK.refl h.1).step_table T T (more:=pt) ⟨(ff o vs ⟨keep _ _ (by decide) e1,e2,e3,e4⟩),?_⟩ (λb o O e=>keep b o O e) (by decide);exact Rr ht<|Rr Array.empty_append rfl
 .exact Rr L.8.5<|Rr os7<|Rr Z<|Rr Y<|Rr V rfl
theorem Lf(a:IU.wellSaid=Z8)(ev:∀ns:List Int,ns.length<=63->I0 ns):PySem.Challenge.rw_nn0130_01.Holds:=U7 a<|M3 ev
end
end Mine
namespace Mine.V
section
variable{k:Nat}{W:Wd}
theorem UX(c:a<2^64)(d:b<=1000000):iJ .p (iN a) (iN b)=fU (.f<|iN<|a^b):=by
 show(gd (decide (0<=(b:Int)/\(b:Int)<=1000000)&&small a)<|fU<|(a:Int)^(b:Int).toNat).map (λi=>LV.f<|.i i)=_;rw[we]
 .show fU (LV.f<|.i<|(a:Int)^b)=fU (LV.f<|.i ((a^b:Nat):Int));rw[qQ]
 .refine Rr (wJ c) (Rr (bT<|by omega) ?_);rfl
theorem Qe(h:0<b)(a:b.log2<9000):iJ .f (.i x) (iN b)=fU (.f<|.i<|x.fdiv b):=by show(gd (decide ((b:Int)≠0/\(b:Int).natAbs.log2<9000))<|fU<|x.fdiv b).map (λi=>LV.f<|.i i)=_;refine Rr (we<|bT ⟨by omega,by rw[on];exact a⟩) ?_;rfl
theorem UL(h:0<b):iJ .e (.i x) (iN b)=fU (.f<|.i<|x.fmod b):=by show(gd (decide ((b:Int)≠0))<|fU<|x.fmod b).map (λi=>LV.f<|.i i)=_;refine Rr (we<|bT<|by omega) ?_;rfl
theorem LZ{l n:Nat}(t:0<k)(u:0<l)(hc:cs≠[])(f:cs.length<=63)(w:n<400)(B:W.2=fU ((n:Int),cs)):
  ∃r:Nat,r<l/\cK k 0 [iN l] W=fU (.f<|iN r,{W with pk:=fU (((n+1:Nat):Int),cs)}):=by
 obtain⟨k,rfl⟩:∃j,k=j+1:=⟨k-1,(ac t).symm⟩;have h:0<cs.length:=List.length_pos_iff.2 hc
 let c:=n/cs.length
 have d:c<400:=aW (kG ..) w
 let m:=n%cs.length
 have v:m<cs.length:=dR _ h
 let x:Int:=(cs.getD m 0).fdiv ((720720^c:Nat):Int)+((c*(7*n+3):Nat):Int)
 obtain⟨r,A⟩:∃r:Nat,x.fmod l=r:=⟨(x.fmod l).toNat,(m8<|Int.fmod_nonneg_of_pos _<|by omega).symm⟩;have s:r<l:=by have:=Int.fmod_lt_of_pos x (show(0:Int)<l by omega);omega
 refine⟨r,s,?_⟩;have z:720720^c<2^8000:=by refine aW (Nat.pow_le_pow_left (show 720720<=2^20 by decide) c) ?_;rw[<-Nat.pow_mul];exact Nat.pow_lt_pow_right (by decide)<|dL (.s<|.m 20 .A) (.n 8000) (.c 20 (.s .A) (.n 400) .e) rfl d
 have o:(720720^c).log2<9000:=bw ((Nat.log2_lt<|gk<|Nat.pow_pos<|by decide).2 z)<|by decide
 let S:LV->LV->LV->St:=λa b p=>⟨[.f<|iN l,a,b,.f<|.l<|cs.map .i,p],{W with pk:=Z9}⟩
 have g:∀{a b p},fr (bQ yT (.a 0<|.c (.v 3) .n)<|S a b p)=fU (iN cs.length,S a b p):=λ{a b p}=>eL (bI<|ag rfl) (DS.trans<|by rw[av]) rfl;have q:mU (.l<|cs.map .i) (iN m)=fU (.i<|cs.getD m 0):=xZ (by refine Rr cG<|Rr al<|Rr (aI v) ?_;rfl) (by rw[av];unfold aq;exact dL .A (.n 1048576) (.z .A<|.n 63) rfl f);have e:gM 0 yT MN (S .u .u<|.o [iN n])=fU (.r<|.f<|.i<|x.fmod l,S (.f<|iN n) (.f<|iN c)<|.o [iN<|n+1]):=
  aL (σ1:=S (.f<|iN n) .u<|.o [iN n]) (cY (σ1:=S .u .u<|.o [iN n]) (lv:=.f<|iN n)<|by show(mU (.l [iN n])<|iN 0).map (λp=>ww p<|S .u .u<|.o [iN n])=_;refine Rr (xZ (k:=0) (p:=iN n) rfl (ai rfl)) ?_;rfl)<|
  aL (σ1:=S (.f<|iN n) .u<|.o [iN<|n+1]) (pz (σ1:=S (.f<|iN n) .u<|.o [iN n]) (p:=iN<|n+1) (aY (ag rfl) (bc (i:=1)) dE) rfl (bc (i:=0)) rfl (Qf (k:=0) jT<|ai rfl))<|
  aL (σ1:=S (.f<|iN n) (.f<|iN c)<|.o [iN<|n+1]) (cY (σ1:=S (.f<|iN n) .u<|.o [iN<|n+1])<|du (ag rfl) g<|zz h<|dL (.s .A) (.n 18446744073709551616) (.z .A<|.n 63) rfl f)<|
  ee rfl<|fh<|du (aY (aY (cQ (ag rfl) (aY (ag rfl) g<|P6 h) q) (aY (bc (i:=720720)) (ag rfl)<|UX (by decide)<|dL .A (.n 1000000) (.z (.s .A)<|.n 400) rfl d)<|Qe (Nat.pow_pos<|by decide) o)
   (aY (ag rfl) (aY (aY (bc (i:=7)) (ag rfl)<|m4<|by decide) (bc (i:=3)) dE)<|m4<|dL (.s .A) (.n 18446744073709551616) (.z (.s .A)<|.n 400) rfl d) Vo) (ag rfl) (UL u)
 show wa [iN l] W=_;unfold wa;show(W.2.bind λy=>Kl y.2<|gM 0 yT MN ⟨[.f<|.i l,.u,.u,.f<|.l<|y.2.map .i,.o [.i y.1]],{W with pk:=Z9}⟩)=_;refine Rr B ?_;show Kl cs (gM 0 yT MN<|S .u .u<|.o [iN n])=_;refine Rr e<|Rr A ?_;rfl
end
section
variable{k:Nat}{W:Wd}{cs:List Int}
noncomputable def Bm(W:Wd)(cs:List Int)(n:Nat):Wd:={W with pk:=fU ((n:Int),cs)}
theorem nk(e:0<k)(f:0<l)(hc:cs≠[])(a:cs.length<=63)(g:n<400)(b:sl[i]?=fU (.f .t)):
  ∃r:Nat,r<l/\fr (bQ (cK k) (.f (.v i)<|.i l) ⟨sl,Bm W cs n⟩)=fU (iN r,⟨sl,Bm W cs<|n+1⟩):=by
 refine bO (LZ (W:=Bm W cs n) e f hc a g rfl) λr c d=>⟨r,c,LL (ag b) (bc (i:=l)) d⟩
noncomputable def xl:List Nat:=[3,4,10,11,12,18,19,66,67,130,131,226,227,257,258,5]
noncomputable def Sl:List Nat:=[1,16,256,4096,16]
theorem zN:xl.all (λl=>decide (3<=l/\l<=258))=Z8/\Sl.all (λd=>decide (0<d/\d<2^64))=Z8:=by decide
theorem Ja{l:List Nat}(h:i<l.length):l.getD i 0∈l:=by refine Rr al<|Rr (aI h) ?_;exact ib h
theorem ED(h:i<L.length)(a:L.length<=aq):mU (.a<|nL L) (iN i)=fU (iN<|L.getD i 0):=m6 (DZ h)<|by refine Rr jA ?_;exact a
theorem SN{n:Nat}(t:1<k)(hc:cs≠[])(b:cs.length<=63)(d:n<390):∃p z,o7 p/\z<=n+7/\cK k 480 [.t] (Bm W cs n)=fU (.f<|hU p,Bm W cs z):=by
 have c:0<k-1:=aA t
 let S:LV->Nat->St:=λa n=>⟨[.f .t,a,.u],Bm W cs n⟩
 refine bO (nk (W:=W) (sl:=[.f .t,.u,.u]) (i:=0) (n:=n) (l:=2) c (by decide) hc b (dL (.s .A) (.n 400) (.z (.s .A)<|.n 390) rfl d) rfl) λP Q v=>?_;by_cases w:P=0
 .refine bO (nk (W:=W) (sl:=[.f .t,.u,.u]) (i:=0) (n:=n+1) (l:=16) c (by decide) hc b (dL (.s<|.s .A) (.n 400) (.z (.s .A)<|.n 390) rfl d) rfl) λg e o=>?_;refine bO (nk (W:=W) (sl:=[.f .t,.u,.u]) (i:=0) (n:=n+2) (l:=16) c (by decide) hc b (dL (.s<|.p .A 2) (.n 400) (.z (.s .A)<|.n 390) rfl d) rfl) λm r q=>(ff (g*16+m,0) (n+3) ⟨by unfold o7;refine Rr (bf rfl) ?_;exact c9 (.s<|.a (.r .A 16) .B) (.n 256) (.c 16 (.s .A) (.n 16)<|.z (.s .B)<|.n 16) rfl e r,by exact dL (.p .A 3) (.p .A 7) .e rfl,?_⟩);refine Rr (ql rfl)<|cX (aX t) rfl rfl rfl rfl<|dM (σ:=S .u<|n+3)<|ee rfl<|jK (cw v eZ<|o8<|bT<|bx cV w)<|ee rfl<|fh<|du (aY o (bc (i:=16))<|m4<|dL (.s .A) (.n 18446744073709551616) (.z (.s .A)<|.n 16) rfl e) q dE
 .refine bO (nk (W:=W) (sl:=[.f .t,.u,.u]) (i:=0) (n:=n+1) (l:=16) c (by decide) hc b (dL (.s<|.s .A) (.n 400) (.z (.s .A)<|.n 390) rfl d) rfl) λg e o=>?_
  let A:LV:=.f<|iN<|xl.getD g 0
  refine bO (nk (W:=W) (sl:=[.f .t,A,.u]) (i:=0) (n:=n+2) (l:=16) c (by decide) hc b (dL (.s<|.p .A 2) (.n 400) (.z (.s .A)<|.n 390) rfl d) rfl) λm r q=>bO (nk (W:=W) (sl:=[.f .t,A,.u]) (i:=0) (n:=n+3) (l:=16) c (by decide) hc b (dL (.s<|.p .A 3) (.n 400) (.z (.s .A)<|.n 390) rfl d) rfl) λC J F=>bO (nk (W:=W) (sl:=[.f .t,A,.u]) (i:=0) (n:=n+4) (l:=16) c (by decide) hc b (dL (.s<|.p .A 4) (.n 400) (.z (.s .A)<|.n 390) rfl d) rfl) λD L G=>bO (nk (W:=W) (sl:=[.f .t,A,.u]) (i:=0) (n:=n+5) (l:=8) c (by decide) hc b (dL (.s<|.p .A 5) (.n 400) (.z (.s .A)<|.n 390) rfl d) rfl) λE M H=>bO (nk (W:=W) (sl:=[.f .t,A,.u]) (i:=0) (n:=n+6) (l:=5) c (by decide) hc b (dL (.s<|.p .A 6) (.n 400) (.z (.s .A)<|.n 390) rfl d) rfl) λj x I=>?_;have N:=dG (aU.1 zN.1 _<|Ja<|show g<xl.length from e);have y:=dG<|aU.1 zN.2 _<|Ja<|show j<Sl.length from x
  let s:=m+16*C+256*D+4096*E
  have u:m+16*C+256*D+4096*E<32768:=gy (.s<|.a (.a (.a .A<|.m 16 .B)<|.m 256 .C)<|.m 4096 .D) (.n 32768) (.o (.s .A) (.n 16)<|.c 16 (.s .B) (.n 16)<|.c 256 (.s .C) (.n 16)<|.c 4096 (.s .D) (.n 8) .e) rfl r J L M;have O:s<32768:=u;have hd:s/Sl.getD j 0<=s:=kG ..
  let p:Nat×Nat:=(xl.getD g 0,1+s/Sl.getD j 0)
  have f:p.2≠0:=by show 1+s/Sl.getD j 0≠0;rw[cR];exact j1 _
  refine(ff p (n+7) ⟨by unfold o7;refine Rr (aK f) ?_;exact⟨by show 1+s/Sl.getD j 0<=32768;rw[cR];exact aW hd O,N⟩,ba _,?_⟩);refine Rr (p7 f) ?_
  let B:LV:=.f<|iN p.2
  exact cX (aX t) rfl rfl rfl rfl<|dM (σ:=⟨[.f .t,A,B],Bm W cs<|n+7⟩)<|aL (fg (cw v eZ<|o8<|Wq λh=>w<|b7.1 h) bY)<|
   aL (σ1:=S A<|n+2) (cY (σ1:=S .u<|n+2)<|Fn (p:=.a<|nL xl) (σ1:=S .u<|n+1) rfl o (ED e<|ai rfl))<|
   aL (σ1:=⟨[.f .t,A,B],Bm W cs<|n+7⟩) (cY (σ1:=S A<|n+7) (du (bc (i:=1)) (aY (aY (aY (aY q (aY (bc (i:=16)) F<|m4<|by decide) dE) (aY (bc (i:=256)) G<|m4<|by decide) dE) (aY (bc (i:=4096)) H<|m4<|by decide) dE)
    (cQ (p:=.a<|nL Sl) (σ1:=S A<|n+6) rfl I (ED x<|ai rfl)) (zz y.1 y.2)) dE))<|
   ee rfl<|fh<|i7 (eK (ag rfl)<|ag rfl)<|ai rfl
end
section
variable{k:Nat}{W:Wd}{L:List Nat}
theorem ND(m:σ.1[0]?=fU (.f<|.l<|nL L))(n:σ.1[j+1]?=fU .u)(d:L.length<=aq)(a:(nT L).length<64\/nT L=IB):
  bQ O (.a 3<|.c (.o (.t<|.c (.s (.v 0)<|.v<|j+1)<|.c (.v<|j+1) .n) [j+1] (.a 1<|.c (.a 0<|.c (.v 0) .n) .n)<|.c (.c .g (.s (.v 0)<|.v<|j+1)<|.i 0) .n) .n) σ=fU (.o<|(ord L).map tp,σ):=by
 have o:=jj (b:=L.length) rfl d;have p:∀x,(σ.set (j+1) x).1[0]?=fU (.f<|.l<|nL L):=λx=>by
  refine Rr (eD<|j1 j) ?_;exact m
 have k:∀x,(σ.set (j+1) x).1[j+1]?=fU x:=λx=>by
  exact Rr (fy (bp.1 n).1) rfl
 have e:=mj (O:=O) (σ:=σ) (i:=j+1) (f:=iN) (l:=ay L.length) (g:=λs=>tp (L.getD s 0,s)) (t:=λs=>decide (0<L.getD s 0)) (elt:=.t<|.c (.s (.v 0)<|.v<|j+1)<|.c (.v<|j+1) .n) (ifs:=.c (.c .g (.s (.v 0)<|.v<|j+1)<|.i 0) .n)
  (eL (bI<|eL (bI<|ag m) gH rfl) (i9 o) rfl) o n (by refine Rr bR ?_;exact d)
  (λs a=>by
   have a:s<L.length:=a9.1 a;have q:decide ((0:Int)<(L.getD s 0:Nat))=decide (0<L.getD s 0):=decide_eq_decide.2 aN;have c:=cw (O:=O) (op:=.g) (cQ (σ:=σ.set (j+1)<|.f<|iN s) (ag<|p _) (ag<|k _)<|fu a d) (eZ (i:=0))<|pJ q;cases hd:decide (0<L.getD s 0)
   .rw[hd] at c;exact gi c
   .rw[hd] at c;exact fq c iA)
  λs a r=>cE<|i7 (eK (cQ (ag<|p _) (ag<|k _)<|fu (a9.1 a) d)<|ag<|k _)<|ai rfl
 refine lN (bI<|de e rfl)<|Rr (show((ay L.length).filter λs=>decide (0<L.getD s 0)).map (λs=>tp (L.getD s 0,s))=(nT L).map tp from (bM (g:=tp)).symm)<|Ab<|a.imp (λh=>⟨h,tX⟩) id
noncomputable def Qh:List (Nat×Nat)->Nat->Nat->List ((Nat×Nat)×Nat)
 |[],_,_=>[]
 |e::r,c,b=>((e.1,c*2^(e.1-b)),e.2)::Qh r (c*2^(e.1-b)+1) e.1
def Tu:Nat->List (Nat×Nat)->Prop
 |_,[]=>True
 |b,e::r=>b<=e.1/\Tu e.1 r
noncomputable def Cp(d:List<|(Int×Int)×Int)(e:(Nat×Nat)×Nat):List<|(Int×Int)×Int:=uX d ((e.1.1:Int),(e.1.2:Int)) (e.2:Int)
theorem HP{k:Int×Int}{v:Int}:(uX d k v).length<=d.length+1:=by
 unfold uX;split
 .rw[av];exact sa _
 .refine Rr af ?_;exact ba _
noncomputable def lS(L:List Nat)(W:Wd)(d:List<|(Int×Int)×Int)(c b:Nat)(x:LV×LV):St:=⟨[.f<|.l<|nL L,.a d,.f<|iN c,.f<|iN b,x.1,x.2,.u],W⟩
theorem RK:∀(E:List<|Nat×Nat) (d:List<|(Int×Int)×Int) (c b:Nat) (x:LV×LV),Tu b E->(∀e∈E,e.1<=64)->(∀e∈Qh E c b,e.1.2+1<2^64)->c<2^64->d.length+E.length<1000->
  ∃h g n,oy [4,5] (gM dn O<|.c (.a 2<|.b .b (.v 2)<|.b .s (.v 4)<|.v 3)<|.c (.s 1 (.t<|.c (.v 4)<|.c (.v 2) .n)<|.v 5)<|.c (.a 2<|.b .a (.v 2)<|.i 1)<|.c (.a 3<|.v 4) .n) (E.map tp) (lS L W d c b x)=fU (.n,lS L W ((Qh E c b).foldl Cp d) h g n):=by
 intro E;induction E with
 |nil=>exact λd c b x f f f f f=>(ou c b x rfl)
 |cons e E m=>
  intro d c b x j a hc k hd;obtain⟨p,j⟩:=j;have r:=a e<|.head _;have o:=hc _<|.head _;have s:(Cp d ((e.1,c*2^(e.1-b)),e.2)).length<=d.length+1:=HP;rw[aV] at hd;refine Ce (m (Cp d ((e.1,c*2^(e.1-b)),e.2)) (c*2^(e.1-b)+1) e.1 (.f<|iN e.1,.f<|iN e.2) j (λq l=>a q<|.tail _ l) (λq l=>hc q<|.tail _ l) o<|dT (.s<|.a .A .B) (.n 1000) (.o (.s<|.a .C<|.s .B) (.n 1000)<|.z .A<|.s .C) rfl hd s) λh g n m=>(ou h g n (lm (σ1:=lS L W d c b (.f<|iN e.1,.f<|iN e.2)) rfl (aL (σ1:=lS L W d (c*2^(e.1-b)) b (.f<|iN e.1,.f<|iN e.2)) (cY<|du (ag rfl) (aY (ag rfl) (ag rfl)<|jf (bv p).symm)<|rh k<|c9 .A (.n 1000000) (.o .B (.n 64)<|.z .A .B) rfl r (bk _ _))<|
   aL (σ1:=lS L W (Cp d ((e.1,c*2^(e.1-b)),e.2)) (c*2^(e.1-b)) b (.f<|iN e.1,.f<|iN e.2)) (pz (ag rfl) rfl (cE<|i7 (eK (ag rfl)<|ag rfl)<|ai rfl) rfl ?_)<|
   aL (cY<|du (ag rfl) (bc (i:=1)) dE)<|aL (cY<|tJ rfl) bY) rfl m))
  show gd (decide (d.length<aq)) (fU<|LV.a<|uX d ((e.1:Int),((c*2^(e.1-b):Nat):Int)) (e.2:Int))=_;refine Rr (we<|bT<|by unfold aq;exact c9 (.s .A) (.n 1048576) (.z (.s<|.a .A<|.s .B)<|.n 1000) rfl hd) ?_;rfl
noncomputable def Km(L:List Nat):List<|(Int×Int)×Int:=(Qh (ord L) 0 0).foldl Cp []
theorem KJ(i:0<k)(d:L.length<1000)(l:(nT L).length<64\/nT L=IB)(g:Tu 0<|ord L)(a:kh L<=64)(hc:∀e∈Qh (ord L) 0 0,e.1.2+1<2^64):cK k 454 [.l<|nL L] W=fU (.a<|Km L,W):=by
 have f:L.length<=aq:=by unfold aq;exact dL .A (.n 1048576) (.z (.s .A)<|.n 1000) rfl d
 refine Ce (RK (W:=W) (L:=L) (O:=cK<|k-1) (ord L) [] 0 0 (.u,.u) g (λe h=>by refine Rr ((iu h).2.1) ?_;exact ao eC a) hc (by decide)<|by refine Rr d0 ?_;rw[bA];exact aW kN d) λc b x e=>?_;exact cX i rfl rfl rfl rfl<|dM (σ:=⟨[.f<|.l<|nL L,.u,.f<|iN c,.f<|iN b,x.1,x.2,.u],W⟩)<|aL (σ1:=⟨[.f<|.l<|nL L,.a [],.u,.u,.u,.u,.u],W⟩) rfl<|aL (σ1:=⟨[.f<|.l<|nL L,.a [],.f<|iN 0,.u,.u,.u,.u],W⟩) rfl<|aL (σ1:=lS L W [] 0 0 (.u,.u)) rfl<|
  aL (kn (de (ND (j:=5) rfl rfl f l) rfl) dy e)<|ee rfl<|fh<|sR rfl rfl rfl
end
noncomputable def qe(w:List Bool):Nat:=w.foldl (λt b=>2*t+b.toNat) 0
theorem Hr{w:List Bool}(h:j<w.length):qe (w.take<|j+1)=2*qe (w.take j)+(w.getD j Z7).toNat:=by unfold qe;refine Rr (gm h)<|Rr iV<|Rr al<|Rr (aI h) ?_;rfl
noncomputable abbrev vU(d:List<|(Int×Int)×Int)(j v:Nat):Option<|(Int×Int)×Int:=d.find? λe=>decide (e.1=((j:Int),(v:Int)))
section
variable{k:Nat}{W:Wd}{O:jU}{σ σ1 σ2:St}{d:List ((Int×Int)×Int)}
theorem GX(a:fr (bQ O i σ)=fU (.a [iN x,iN y],σ1))(c:fr (bQ O j σ1)=fU (.p d,σ2))(h:(vU d x y).isSome=b):jJ O (.i i j) σ=fU (b,σ2):=by show(fr<|bQ O i σ).bind _=_;refine Rr a ?_;show(fr<|bQ O j σ1).bind _=_;refine Rr c ?_;exact bx (λb=>fU (b,σ2)) h
theorem RP(h:vU d x y=fU q):mU (.p d) (.a [iN x,iN y])=fU (.i q.2):=by show(vU d x y).map _=_;refine Rr h ?_;rfl
noncomputable def yS(B:List Bool)(a:Nat)(d:List<|(Int×Int)×Int)(W:Wd)(c:Nat)(lv:LV):St:=⟨[.f<|.l<|bP B,.f<|iN a,.f<|.p d,.f<|iN c,lv],W⟩
noncomputable abbrev T8:iX:=.c (.a 3<|.b .a (.b .m (.i 2)<|.v 3)<|.s (.v 0)<|.b .s (.b .a (.v 1)<|.v 4)<|.i 1)<|.c (.i (.i (.t<|.c (.v 4)<|.c (.v 3) .n)<|.v 2) (.c (.r<|.t<|.c (.s (.v 2)<|.t<|.c (.v 4)<|.c (.v 3) .n)<|.c (.b .a (.v 1)<|.v 4) .n) .n) .n) .n
theorem Gc(f:w.length<=15)(v:(a++(w++c)).length<=aq)(k:∀j,0<j->j<w.length->vU d j (qe<|w.take j)=Z9)(x:vU d w.length (qe w)=fU q):
  ∀(m j:Nat) (lv:LV),j+m=15->j<w.length->∃σ,oy [4] (gM dn O T8) (nL<|cA (j+1) m) (yS (a++(w++c)) a.length d W (qe<|w.take j) lv)=
   fU (.r<|.f<|.a [.i q.2,iN<|a.length+w.length],σ)/\σ.2=W
 |0=>λj lv p b=>bq b λz=>Ix (.o (.s .A) .B<|.o .B (.n 15)<|.z (.n 15)<|.p .A 0) rfl z f (eg p)
 |m+1=>λj lv p b=>by
  have C:(a++(w++c)).getD (a.length+j) Z7=w.getD j Z7:=by refine Rr al<|Rr (gq<|eQ ..) ?_;rewrite[fY];exact Rr (j5 b)<|Rr al rfl
  have t:a.length+j<(a++(w++c)).length:=by refine Rr af<|Rr af ?_;exact gy (.s<|.a .A .B) (.a .A<|.a .C .D) (.z (.s .B) .C) rfl b
  let σ1:St:=yS (a++(w++c)) a.length d W (qe<|w.take j)<|.f<|iN<|j+1
  let σ2:St:=yS (a++(w++c)) a.length d W (qe<|w.take<|j+1)<|.f<|iN<|j+1
  have u:ph dn O (.a 3<|.b .a (.b .m (.i 2)<|.v 3)<|.s (.v 0)<|.b .s (.b .a (.v 1)<|.v 4)<|.i 1) σ1=fU (.n,σ2):=by have h:=cY (O:=O) (N:=dn) (i:=3) (du (σ:=σ1) (op:=.a) (aY (op:=.m) (bc (i:=2)) (ag (i:=3) rfl)<|m4<|by decide) (cQ (l:=.v 0) (ag (i:=0) rfl) (aY (op:=.s) (aY (op:=.a) (ag (i:=1) rfl) (ag (i:=4) rfl) dE) (bc (i:=1))<|jf (c:=a.length+j)<|aj (c9 (.a .A<|.s .B) (.a .i<|.a .A .B) .e rfl)<|c9 (.a .i<|.a .A .B) (.a .A<|.s .B) .e rfl)<|xZ (Kk t)<|by refine Rr Bg ?_;exact v) dE);rw[C,<-Hr b] at h;exact h
  have r:∀{s},s=σ2->fr (bQ O (.t<|.c (.v 4)<|.c (.v 3) .n) s)=fU (.a [iN<|j+1,iN<|qe<|w.take<|j+1],s):=λe=>by subst e;exact cE<|i7 (eK (ag rfl)<|ag rfl)<|ai rfl
  rcases eI (j+1) w.length with h|h
  .refine bO (Gc f v k x m (j+1) (.f<|iN<|j+1) (aj (c9 (.a (.s .A) .B) (.n 15) (.z (.a .A<|.s .B)<|.n 15) rfl (el p))<|c9 (.n 15) (.a (.s .A) .B) (.z (.n 15)<|.a .A<|.s .B) rfl (eg p)) h) λσ ih A=>?_;exact⟨σ,lm (σ1:=σ1) rfl (aL u<|aL (fg (GX (r rfl) (ag rfl)<|by refine Rr (k (j+1) (iQ j) h) ?_;rfl) bY) bY) rfl ih,A⟩
  .have g:j+1=w.length:=aj b h;have n:vU d (j+1) (qe<|w.take<|j+1)=fU q:=by refine Rr g<|Rr ig ?_;exact x
   refine⟨σ2,?_,rfl⟩;have B:gM dn O T8 σ1=fU (.r<|.f<|.a [.i q.2,iN<|a.length+(j+1)],σ2):=aL u (ee rfl (jK (GX (r rfl) (ag rfl)<|by refine Rr n ?_;rfl)<|ee rfl (fh<|i7 (eK (cQ (ag rfl) (r rfl)<|RP n)<|aY (ag rfl) (ag rfl) dE)<|ai rfl)));refine Rl g ?_;exact(bx (λo=>Option.bind o λy=>bif (BR y.1).isSome then fU y else oy [4] _ _ y.2) B).trans rfl
theorem QQ(p:0<k)(m:0<w.length)(g:w.length<=15)(o:(a++(w++c)).length<=aq)(h:∀j,0<j->j<w.length->vU d j (qe<|w.take j)=Z9)(s:vU d w.length (qe w)=fU q):
  cK k 461 [.l<|bP<|a++(w++c),iN a.length,.p d] W=fU (.f<|.a [.i q.2,iN<|a.length+w.length],W):=by
 refine bO (Gc (O:=cK<|k-1) (W:=W) g o h s 15 0 .u rfl m) λσ e hW=>?_;have l:=Ck (a:=1) (b:=16) (c:=1) (n:=15) (.inl rfl) (by decide) (by decide) (by decide) (by decide);obtain⟨n,r⟩:=uo l;have ho:=cX (k:=k) (f:=461) (W:=W) (ps:=[.l<|bP<|a++(w++c),iN a.length,.p d]) p rfl rfl rfl rfl (dM<|aL (σ1:=yS (a++(w++c)) a.length d W 0 .u) rfl (ee rfl (kn (eL (eK (bc (i:=1))<|bc (i:=16)) (rF r _ rfl) rfl) l e)));rw[hW] at ho;exact ho
end
structure Ii (d:List<|(Int×Int)×Int) (w:List Bool) (s:Nat):Prop where
 pos:0<w.length
 le:w.length<=15
 no:∀j,0<j->j<w.length->vU d j (qe<|w.take j)=Z9
 yes:∃q,vU d w.length (qe w)=fU q/\q.2=s
section
variable{k:Nat}{W:Wd}{B a w c:List Bool}{d:List ((Int×Int)×Int)}{n t s:Nat}
theorem E7(i:0<k)(hB:B=a++(w++c))(j:t=a.length)(g:B.length<=aq)(h:Ii d w s):cK k 461 [.l<|bP B,iN t,.p d] W=fU (.f<|.a [iN s,iN<|t+w.length],W):=by subst hB j;refine bO h.4 λq b f=>?_;have e:=QQ (W:=W) i h.1 h.2 g h.3 b;rw[f] at e;exact e
theorem Qs(e:0<k)(hB:B=a++(w++c))(g:t=a.length)(f:n=w.length)(b:n<=64)(d:B.length<=aq):cK k 449 [.l<|bP B,iN t,iN n] W=fU (.f<|iN<|val w,W):=by subst hB g f;exact TU e b d
theorem tB(e:0<k)(hB:B=a++(cM v n++c))(f:t=a.length)(g:v<2^n)(b:n<=64)(d:B.length<=aq):cK k 449 [.l<|bP B,iN t,iN n] W=fU (.f<|iN v,W):=by have h:=Qs (W:=W) e hB f a8.symm b d;rwa [uH,gE g] at h
theorem U4(h:x.toNat=m):zG W 4 [.i x,iN 0]=fU (.f<|iN m):=by
 show fU (LV.f<|.i<|if x<(0:Nat) then((0:Nat):Int) else x)=_;subst h;split
 .rename_i h;exact Rr (Int.toNat_of_nonpos<|nB h) rfl
 .rename_i h;exact bx (λi=>fU<|LV.f<|.i i) (m8<|kS.1 h).symm
noncomputable def VF(s:Nat):Nat:=if s<265\/s=285 then 0 else(s-261)/4
noncomputable def Wb(s:Nat):Nat:=1*2^((s-261)/4)
noncomputable def PW(s:Nat):Nat:=if s=285 then 258 else 3+((cA 257<|s-257).map Wb).sum
noncomputable def Vz(s:Nat):Nat:=s/2-1
noncomputable def done(s:Nat):Nat:=1*2^(s/2-1)
noncomputable def Tr(s:Nat):Nat:=1+((ay s).map done).sum
theorem Sc:(ay 256).all (λi=>decide (VF (iI<|i+3).1=(iI<|i+3).2.1/\PW (iI<|i+3).1+(iI<|i+3).2.2=i+3))=Z8:=by decide+kernel
theorem US(a:3<=l)(h:l<=258):VF (iI l).1=(iI l).2.1/\PW (iI l).1+(iI l).2.2=l:=by have:=dG<|aU.1 Sc (l-3)<|a9.2<|c9 (.s .A) (.n 256) (.o .B (.n 258)<|.z (.p .A 3) .B) rfl h (el<|ac<|a);rwa [ac a] at this
theorem NZ:(ay 30).all (λs=>decide (Tr s=1+if s<4 then s else(2+s%2)*2^(s/2-1)))=Z8:=by decide+kernel
theorem U0{d:Nat}(l:1<=d)(h:d<=32768):Vz (jB d).1=(jB d).2.1/\Tr (jB d).1+(jB d).2.2=d:=by
 have o:=qq l h;have r:=yo (n:=d-1) (s:=2) (f:=16) (b:=0) (aW (fX<|ao (bk ..) h)<|by decide);have u:=dG<|aU.1 NZ (jB d).1<|a9.2 o;refine Rr u ?_;have e:(jB d).1=2*sb (d-1) 2+(d-1)/2^sb (d-1) 2:=rfl;have t:(jB d).2.1=sb (d-1) 2:=rfl;have g:(jB d).2.2=(d-1)%2^sb (d-1) 2:=rfl;refine Rr e<|Rr t<|Rr g ?_;have i:=dh (d-1)<|2^sb (d-1) 2;have a:(d-1)/2^sb (d-1) 2<4:=r.1;have hc:=r.2.2.1
 revert i a hc
 show _->_->(sb (d-1) 2=0\/2*2<=(d-1)/2^(sb (d-1) 2-1))->_;generalize sb (d-1) 2=b;intro i a hc;unfold Vz;rcases jr b with h0|h0
 .subst h0;rw[lF,oW,jO] at*
  refine Rr (bf<|by exact dL (.s<|.a (.m 2<|.n 0) .A) (.n 4) (.z (.s .A)<|.n 4) rfl a) ?_;exact⟨aj ((el<|ix<|H1 2 .A .i (.o (.s .B) (.n 4)<|.z (.m 2 .A)<|.a (.m 2<|.n 0) .B) rfl a (aQ _ _)))<|dL (.n 0) .A .e rfl,aj (dT (.a (.a .i<|.a (.m 2<|.n 0) .A) .B) .C (.o (.a .A .B) .A<|.z (.s .A) .C) rfl (el i) (el<|ac<|l))<|dT .A (.a (.a .i<|.a (.m 2<|.n 0) .B) .C) (.z .A<|.s .B) rfl (ck _ _)⟩
 .obtain⟨b,rfl⟩:∃c,b=c+1:=⟨b-1,by exact aj ((ck _ _))<|(el<|ac<|dL .i .A (.z (.s<|.n 0) .A) rfl h0)⟩;rcases hc with hc|hc
  .exact⟨aj (H1 0 .A (.s .B) (.z (.s .B)<|.n 0) rfl (el hc))<|H1 0 (.s .A) .B (.z (.s .A)<|.n 0) rfl (el hc),aj (Ec 0 (.a (.a .i .A) .B) .C (.z (.s .D)<|.n 0) rfl (el hc))<|Ec 0 .A (.a (.a .i .B) .C) (.z (.s .D)<|.n 0) rfl (el hc)⟩
  .rw[Nat.add_sub_cancel] at hc;have m:2<=(d-1)/2^(b+1):=by
    rw[jp,<-jq];exact H1 2 (.n 2) .A (.o (.m 2<|.n 2) .B<|.z (.s .B)<|.p (.m 2 .A) 2) rfl hc (wL rfl)
   generalize v:(d-1)/2^(b+1)=q at*
   have p:q=2\/q=3:=gx λj=>((cp<|(not_or.1 j).1)).elim (λk=>aM k m) λk=>((cp<|(not_or.1 j).2)).elim (λg=>lo1 (.o (.s .A) (.n 3)<|.z (.s<|.n 2) .A) rfl g k) λg=>lo1 (.o (.s<|.n 3) .A<|.z (.s .A)<|.n 4) rfl g a;refine Rr (aK<|by exact λj=>Ix (.o (.s<|.a (.m 2<|.s .A) .B) (.n 4)<|.z (.n 2) .B) rfl j m) (Rr (show(2*(b+1)+q)/2-1=b+1 by exact aj (Ec 2 .A (.s .B) (.o (.s .C) (.n 4)<|.o (.m 2 .D) (.a (.m 2<|.s .B) .C)<|.c 2 (.s .A) .D .e) rfl a (aQ _ _) (el<|ac<|Ch 2 .i .A (.z (.s<|.a (.m 2<|.s .B) .C)<|.p (.m 2 .A) 2) rfl (wL rfl)))<|Ec 2 (.s .A) .B (.o (.n 2) .C<|.c 2 .D (.s .B)<|.z (.s<|.a (.m 2<|.s .A) .C)<|.p (.m 2 .D) 2) rfl m (ck _ _) (wL rfl))<|Rr (show 2+(2*(b+1)+q)%2=q from p.elim (λe=>by rw[e,Nat.mul_add_mod]) λe=>by rw[e,Nat.mul_add_mod]) ?_);rw[fw q];exact⟨aj (dL (.s .A) (.s .A) .e rfl)<|dL (.s .A) (.s .A) .e rfl,aj (gy (.a (.a .i .A) .B) .C (.o (.a .A .B) .D<|.z (.s .D) .C) rfl (el i) (el<|ac<|l))<|gy .A (.a (.a .i .B) .C) (.o .D (.a .B .C)<|.z .A<|.s .D) rfl (eg i) (ck _ _)⟩
end
section
variable{k:Nat}{W:Wd}{B a w c:List Bool}{dA dB:List ((Int×Int)×Int)}{n t s:Nat}{O:jU}{σ:St}{L D:List Nat}
theorem SA(a b:Nat){c:Nat}(hc:0<c):(((a:Int)-(b:Nat)).fdiv (c:Nat)).toNat=(a-b)/c:=by
 refine Rr (jS _<|nn c) ?_;rcases eI a b with h|h
 .refine Rr (ix<|be h) ?_;rewrite[Nat.zero_div];exact Rr (Int.toNat_of_nonpos<|nB<|Int.ediv_neg_of_neg_of_pos (Int.sub_neg_of_lt<|aN.2 h)<|qR.2 hc) rfl
 .refine Rr (Ie (bv h).symm) ?_;rw[<-l9];rfl
theorem FU(h:fr (bQ O it σ)=fU (p,σ))(hi:f8 p=fU (nL l))(d:σ.1[i]?=fU .u)(c:l.length<=aq)
  (b:∀a∈l,fr (bQ O elt<|σ.set i<|.f<|iN a)=fU (iN<|f a,σ.set i<|.f<|iN a)):bQ O (.b .a (.i (j:Nat))<|.a 6<|.c (.o elt [i] it .n) .n) σ=fU (.f<|iN<|j+(l.map f).sum,σ):=
 du (bc (i:=j)) (eL (bI<|de ((BD (f:=iN) h hi d c b).trans<|Rl rd rfl) rfl) yn rfl) dE
theorem wV(h:σ.1[i]?=fU x):(σ.set i y).1[i]?=fU y:=fy (bp.1 h).1
theorem Hp(a:i≠j)(h:σ.1[j]?=fU x):(σ.set i y).1[j]?=fU x:=(eD a).trans h
theorem R3(h:σ.1[7]?=fU (.f<|iN s)):bQ O (.p (.o<|.c (.c .l (.v 7)<|.i 265)<|.c (.c .e (.v 7)<|.i 285) .n) (.i 0)<|.b .f (.b .s (.v 7)<|.i 261)<|.i 4) σ=fU (.f<|iN<|VF s,σ):=by
 have d:∀b,decide ((s:Int)<(265:Nat))=b->jJ O (.c .l (.v 7)<|.i 265) σ=fU (b,σ):=λb f=>cw (ag h) (bc (i:=265))<|pG f;have g:∀b,decide ((s:Int)=(285:Nat))=b->jJ O (.c .e (.v 7)<|.i 285) σ=fU (b,σ):=λb f=>cw (ag h) (bc (i:=285))<|o8 f;unfold VF;by_cases a:s<265
 .refine Rr (bf<|.inl a) ?_;exact pM (rz<|gi<|d Z8<|bT<|aN.2 a) rfl
 .have d:=d Z7<|Wq λh=>a<|aN.1 h;by_cases e:s=285
  .refine Rr (bf<|.inr e) ?_;exact pM (rz<|fq d<|gi<|g Z8<|bT<|bx cV e) rfl
  .refine Rr (aK<|not_or.2 ⟨a,e⟩) ?_;exact rm (rz<|fq d<|fq (g Z7<|Wq λh=>e<|b7.1 h) iA)<|du (aY (ag h) (bc (i:=261))<|jf (c:=s-261)<|aj (c9 .A (.a (.n 261) .B) (.z .A<|.p .B 261) rfl (ck _ _))<|c9 (.a (.n 261) .A) .B (.z (.p .A 261) .B) rfl (el<|ac<|dL (.n 261) .A (.z (.n 265) .A) rfl (aJ a))) (bc (i:=4))<|zz (by decide)<|by decide
theorem QO(h:σ.1[7]?=fU (.f<|iN s))(d:σ.1[11]?=fU .u)(j:257<=s)(f:s<286):
  bQ O (.p (.c .e (.v 7)<|.i 285) (.i 258)<|.b .a (.i 3)<|.a 6<|.c (.o (.b .b (.i 1)<|.a 4<|.c (.b .f (.b .s (.v 11)<|.i 261)<|.i 4)<|.c (.i 0) .n) [11] (.a 1<|.c (.i 257)<|.c (.v 7) .n) .n) .n) σ=fU (.f<|iN<|PW s,σ):=by
 have o:∀b,decide ((s:Int)=(285:Nat))=b->jJ O (.c .e (.v 7)<|.i 285) σ=fU (b,σ):=λb p=>cw (ag h) (bc (i:=285))<|o8 p;unfold PW;by_cases e:s=285
 .refine Rr (bf e) ?_;exact pM (o Z8<|bT<|bx cV e) rfl
 .refine Rr (aK e) ?_;have k:1000<=aq:=ai rfl;have l:=Ck (a:=257) (b:=s) (c:=1) (n:=s-257) (.inl rfl) (ai rfl) (c9 .A .B (.o (.s .A) (.n 286)<|.z (.n 1000) .B) rfl f k) (c9 .A (.a (.n 257)<|.m 1 .B) (.z .A<|.p .B 257) rfl (ck _ _))<|c9 (.s<|.a (.n 257)<|.m 1 .A) (.s .B) (.z (.p .A 257) .B) rfl (el<|ac<|j);refine rX (uo l) λn q=>rm (o Z7<|Wq λh=>e<|b7.1 h) (FU (eL (eK (bc (i:=257))<|ag h) (rF q _ rfl) rfl) l d (by refine Rr kU ?_;exact dT .A .B (.o (.s .C) (.n 286)<|.o (.n 1000) .B<|.z .A .C) rfl f k (bk _ _)) λa g=>?_);have g:a<s:=by have:=(List.mem_range'_1.1 g).2;exact dT (.s .A) .B (.o (.s .A) (.a (.n 257) .C)<|.z (.p .C 257) .B) rfl this (el<|ac<|j)
  exact aY (bc (i:=1)) (eL (eK (aY (aY (ag<|wV d) (bc (i:=261)) CD) (bc (i:=4))<|Qe (by decide)<|by decide)<|bc (i:=0)) (U4 (m:=(a-261)/4)<|SA a 261 (c:=4)<|by decide) rfl)<|rh (by decide)<|Ec 4 .A (.n 1000000) (.o (.s .B) (.n 286)<|.o (.s .C) .B<|.o (.m 4 .A) .D<|.z .D .C) rfl f g (aQ _ _) (bk _ _)
theorem PK(h:fr (bQ O e σ)=fU (iN s,σ)):bQ O (.a 4<|.c (.b .s (.b .f e<|.i 2)<|.i 1)<|.c (.i 0) .n) σ=fU (.f<|iN<|Vz s,σ):=
 lN (eK (aY (aY h (bc (i:=2))<|zz (by decide)<|by decide) (bc (i:=1)) CD)<|bc (i:=0)) (U4<|Int.toNat_sub _ 1)
theorem QR(h:σ.1[7]?=fU (.f<|iN s))(c:σ.1[12]?=fU .u)(d:s<30):
  bQ O (.b .a (.i 1)<|.a 6<|.c (.o (.b .b (.i 1)<|.a 4<|.c (.b .s (.b .f (.v 12)<|.i 2)<|.i 1)<|.c (.i 0) .n) [12] (.a 1<|.c (.v 7) .n) .n) .n) σ=fU (.f<|iN<|Tr s,σ):=by
 have f:1000<=aq:=ai rfl;have g:=jj (b:=s) rfl (c9 .A .B (.o (.s .A) (.n 30)<|.z (.n 1000) .B) rfl d f);refine FU (j:=1) (eL (bI<|ag h) (i9 g) rfl) g c (by refine Rr bR ?_;exact c9 .A .B (.o (.s .A) (.n 30)<|.z (.n 1000) .B) rfl d f) λa e=>?_;have e:a<s:=a9.1 e;exact aY (bc (i:=1)) (cE<|PK<|ag<|wV c)<|rh (by decide)<|by unfold Vz;exact Ec 2 .A (.n 1000000) (.o (.s .B) (.n 30)<|.o (.s .C) .B<|.c 2 .A .D<|.z (.m 2 .D) .C) rfl d e (bk _ _) (aQ _ _)
def Ic(dA dB:List<|(Int×Int)×Int)(L D:List Nat)(p:Nat×Nat):Prop:=if p.2=0 then Ii dA (ft L p.1) p.1 else Ii dA (ft L (iI p.1).1) (iI p.1).1/\Ii dB (ft D (jB p.2).1) (jB p.2).1
noncomputable def pS(B:List Bool)(e f:LV)(W:Wd)(t:Nat)(la lb:LV)(acc:List PV)(x:LV×LV×LV×LV):St:=⟨[.f<|.l<|bP B,.f<|iN t,e,f,la,lb,.o acc,x.1,x.2.1,x.2.2.1,x.2.2.2,.u,.u],W⟩
variable{e f la lb:LV}{acc:List PV}{x:LV×LV×LV×LV}{r:iX}{out:Option (Fl×St)}{N:Nat}
theorem D5(j:0<k)(hB:B=a++(w++c))(m:t=a.length)(g:B.length<=aq)(h:Ii dA w s)(l:s<286)(b:sL la=fU (.p dA))(d:gM N (cK k) r (pS B e f W (t+w.length) (.f<|.p dA) lb acc (.f<|iN s,x.2))=out):
  gM N (cK k) (.c (.c [7,1]<|.c 461<|.c (.v 0)<|.c (.v 1)<|.c (.v 4) .n)<|.c (.i (.o<|.c (.c .l (.v 7)<|.i 0)<|.c (.c .g (.v 7)<|.i 285) .n) (.c (.r<|.t<|.c .none<|.c (.v 1) .n) .n) .n) r) (pS B e f W t la lb acc x)=out:=
 aL (σ1:=pS B e f W (t+w.length) (.f<|.p dA) lb acc (.f<|iN s,x.2)) (kP (σ1:=pS B e f W t (.f<|.p dA) lb acc x) (cE<|bh (jM (ag rfl) (ag rfl)<|e9 rfl b rfl)<|E7 j hB m g h) rfl)<|
 aL (fg (rz<|fq (cw (ag rfl) (bc (i:=0))<|pG<|Wq λh=>bq (aN.1 h)<|cn _)<|fq (cw (ag rfl) (bc (i:=285))<|pJ<|Wq λh=>bq (aN.1 h)<|eU.2<|c7 l) iA) bY) d
theorem OE(j:0<k)(hB:B=a++(w++c))(m:t+n=a.length)(g:B.length<=aq)(h:Ii dB w s)(l:s<30)(b:sL lb=fU (.p dB)){y z u:LV}(d:gM N (cK k) r (pS B e f W (t+n+w.length) la (.f<|.p dB) acc (.f<|iN s,.f<|iN n,z,u))=out):
  gM N (cK k) (.c (.c [7,1]<|.c 461<|.c (.v 0)<|.c (.b .a (.v 1)<|.v 8)<|.c (.v 5) .n)<|.c (.i (.o<|.c (.c .l (.v 7)<|.i 0)<|.c (.c .g (.v 7)<|.i 29) .n) (.c (.r<|.t<|.c .none<|.c (.v 1) .n) .n) .n) r) (pS B e f W t la lb acc (y,.f<|iN n,z,u))=out:=
 aL (σ1:=pS B e f W (t+n+w.length) la (.f<|.p dB) acc (.f<|iN s,.f<|iN n,z,u)) (kP (σ1:=pS B e f W t la (.f<|.p dB) acc (y,.f<|iN n,z,u)) (cE<|bh (jM (ag rfl) (aY (ag rfl) (ag rfl) dE)<|e9 rfl b rfl)<|E7 j hB m g h) rfl)<|
 aL (fg (rz<|fq (cw (ag rfl) (bc (i:=0))<|pG<|Wq λh=>bq (aN.1 h)<|cn _)<|fq (cw (ag rfl) (bc (i:=29))<|pJ<|Wq λh=>bq (aN.1 h)<|eU.2<|c7 l) iA) bY) d
theorem B6(h:σ.1[i]?=fU (.f<|iN s))(a:decide (s=v)=b):jJ O (.c .e (.v i)<|.i (v:Nat)) σ=fU (b,σ):=cw (ag h) (bc (i:=v))<|o8<|(decide_eq_decide.2 b7).trans a
theorem Cy(h:σ.1[i]?=fU (.f<|iN s))(a:decide (s<v)=b):jJ O (.c .l (.v i)<|.i (v:Nat)) σ=fU (b,σ):=cw (ag h) (bc (i:=v))<|pG<|(decide_eq_decide.2 aN).trans a
end
section
variable{k:Nat}{W:Wd}{B c:List Bool}{dA dB:List ((Int×Int)×Int)}{O:jU}{σ:St}{L D:List Nat}{e f:LV}
noncomputable abbrev WL:iX:=.c (.c [7,1]<|.c 461<|.c (.v 0)<|.c (.v 1)<|.c (.v 4) .n)<|.c (.i (.o<|.c (.c .l (.v 7)<|.i 0)<|.c (.c .g (.v 7)<|.i 285) .n) (.c (.r<|.t<|.c .none<|.c (.v 1) .n) .n) .n)<|.c (.i (.c .e (.v 7)<|.i 256) (.c (.r<|.t<|.c (.v 6)<|.c (.v 1) .n) .n) .n)<|.c (.i (.c .l (.v 7)<|.i 256) (.c (.d 6<|.v 7)<|.c .q .n) .n)<|.c (.a 8<|.p (.o<|.c (.c .l (.v 7)<|.i 265)<|.c (.c .e (.v 7)<|.i 285) .n) (.i 0)<|.b .f (.b .s (.v 7)<|.i 261)<|.i 4)<|.c (.a 9<|.p (.c .e (.v 7)<|.i 285) (.i 258)<|.b .a (.i 3)<|.a 6<|.c (.o (.b .b (.i 1)<|.a 4<|.c (.b .f (.b .s (.v 11)<|.i 261)<|.i 4)<|.c (.i 0) .n) [11] (.a 1<|.c (.i 257)<|.c (.v 7) .n) .n) .n)<|.c (.a 10<|.b .a (.v 9)<|.c 449<|.c (.v 0)<|.c (.v 1)<|.c (.v 8) .n)<|.c (.c [7,1]<|.c 461<|.c (.v 0)<|.c (.b .a (.v 1)<|.v 8)<|.c (.v 5) .n)<|.c (.i (.o<|.c (.c .l (.v 7)<|.i 0)<|.c (.c .g (.v 7)<|.i 29) .n) (.c (.r<|.t<|.c .none<|.c (.v 1) .n) .n) .n)<|.c (.a 8<|.a 4<|.c (.b .s (.b .f (.v 7)<|.i 2)<|.i 1)<|.c (.i 0) .n)<|.c (.a 9<|.b .a (.i 1)<|.a 6<|.c (.o (.b .b (.i 1)<|.a 4<|.c (.b .s (.b .f (.v 12)<|.i 2)<|.i 1)<|.c (.i 0) .n) [12] (.a 1<|.c (.v 7) .n) .n) .n)<|.c (.d 6<|.t<|.c (.v 10)<|.c (.b .a (.v 9)<|.c 449<|.c (.v 0)<|.c (.v 1)<|.c (.v 8) .n) .n)<|.c (.a 1<|.b .a (.v 1)<|.v 8) .n
theorem RU(q:0<k)(hB:B=a++(j7 L D p++c))(I:t=a.length)(o:B.length<=aq)(V:o7 p)(hd:Ic dA dB L D p)(r:sL la=fU (.p dA))(s:sL lb=fU (.p dB))(m:acc.length<aq):
  ∃T u w x',gM dn (cK k) WL (pS B e f W t la lb acc x)=fU (T,pS B e f W (t+(j7 L D p).length) u w (acc++[hU p]) x')/\(BR T).isSome=Z7/\sL u=fU (.p dA)/\sL w=fU (.p dB):=by
 unfold j7 at hB⊢
 unfold Ic at hd;by_cases j:p.2=0
 .rw[bf j] at hB hd;refine Rr (bf j)<|Rr (ql j) ?_;have h:=qb V j;refine(B2 .c (.f<|.p dA) lb (.f<|iN p.1,x.2) ⟨D5 q hB I o hd (bw h<|by decide) r ?_,rfl,rfl,s⟩);exact aL (fg (B6 (v:=256) rfl (Wq<|gj h)) bY)<|ee rfl (jK (Cy (v:=256) rfl (bT h))<|aL (py rfl (ag rfl) rfl m)<|ee rfl rfl)
 .rw[aK j] at hB hd;refine Rr (aK j)<|Rr (p7 j) ?_;refine hV (mi V j) λG U H=>?_;have n:=sx U H;have A:=qq (dQ j) G;refine iB (US U H) λC b2=>iB (U0 (dQ j) G) λE c2=>?_;have J:=vA H;have M:=vF G;have N:=zy (l:=p.1);have O:(jB p.2).2.2<2^(jB p.2).2.1:=yh
  revert hB hd C b2 E c2 n A J M N O
  generalize iI p.1=y;generalize jB p.2=z;intro hB ⟨d1,d2⟩ n A C b2 E c2 J M N O
  let g:=ft L y.1
  let i:=ft D z.1
  have P:B=a++(g++(cM y.2.2 y.2.1++(i++cM z.2.2 z.2.1)++c)):=by refine Rr hB ?_;rw[au g]
  have Q:B=(a++g)++(cM y.2.2 y.2.1++(i++(cM z.2.2 z.2.1++c))):=by refine Rr P ?_;rw[au a,au<|cM _ _,au i]
  have R:B=(a++g++cM y.2.2 y.2.1)++(i++(cM z.2.2 z.2.1++c)):=by refine Rr Q ?_;rw[au<|a++g]
  have e4:B=(a++g++cM y.2.2 y.2.1++i)++(cM z.2.2 z.2.1++c):=by refine Rr R ?_;rw[au<|a++g++_]
  have Y:t+g.length=(a++g).length:=Rr af<|Rr I rfl;have Z:t+g.length+y.2.1=(a++g++cM y.2.2 y.2.1).length:=Rr (af (as:=a++g))<|Rl Y<|Rr a8 rfl;have q4:t+g.length+y.2.1+i.length=(a++g++cM y.2.2 y.2.1++i).length:=Rr (af (bs:=i))<|Rl Z rfl;have q5:t+(g++(cM y.2.2 y.2.1++(i++cM z.2.2 z.2.1))).length=t+g.length+y.2.1+i.length+z.2.1:=by refine Rr af<|Rr af<|Rr af<|Rr a8<|Rr a8 ?_;rw[<-bZ,<-bZ,<-bZ]
  refine Rr q5 ?_
  let S:Nat->LV->List PV->LV->LV->LV->LV->St:=λt lb acc a b c d=>pS B e f W t (.f<|.p dA) lb acc (a,b,c,d)
  refine(B2 .n (.f<|.p dA) (.f<|.p dB) (.f<|iN z.1,.f<|iN z.2.1,.f<|iN<|Tr z.1,.f<|iN p.1) ⟨D5 q P I o d1 n.2 r ?_,rfl,rfl,rfl⟩);refine aL (fg (B6 (v:=256) rfl (Wq λF=>lo1 (.o .A (.n 256)<|.z (.n 257) .A) rfl (el F) n.1)) bY)<|aL (fg (Cy (v:=256) rfl (Wq λF=>lo1 (.o (.s .A) (.n 256)<|.z (.n 257) .A) rfl F n.1)) bY)<|
   aL (σ1:=S (t+g.length) lb acc (.f<|iN y.1) (.f<|iN y.2.1) x.2.2.1 x.2.2.2) (C▸cY (R3 rfl))<|
   aL (σ1:=S (t+g.length) lb acc (.f<|iN y.1) (.f<|iN y.2.1) (.f<|iN<|PW y.1) x.2.2.2) (cY<|QO rfl rfl n.1 n.2)<|
   aL (σ1:=S (t+g.length) lb acc (.f<|iN y.1) (.f<|iN y.2.1) (.f<|iN<|PW y.1)<|.f<|iN p.1) (b2▸cY (du (ag rfl) (cE<|bh (jM (ag rfl) (ag rfl)<|ag rfl)<|tB q Q Y N (dL .A (.n 64) (.z .A<|.n 16) rfl J) o) dE)) ?_
  refine OE q R Z o d2 A s<|aL (σ1:=S (t+g.length+y.2.1+i.length) (.f<|.p dB) acc (.f<|iN z.1) (.f<|iN z.2.1) (.f<|iN<|PW y.1)<|.f<|iN p.1) (E▸cY (PK<|ag rfl))<|
   aL (σ1:=S (t+g.length+y.2.1+i.length) (.f<|.p dB) acc (.f<|iN z.1) (.f<|iN z.2.1) (.f<|iN<|Tr z.1)<|.f<|iN p.1) (cY<|QR rfl rfl A)<|
   aL (σ1:=S (t+g.length+y.2.1+i.length) (.f<|.p dB) (acc++[.a [iN p.1,iN p.2]]) (.f<|iN z.1) (.f<|iN z.2.1) (.f<|iN<|Tr z.1)<|.f<|iN p.1) (py rfl (cE<|i7 (eK (ag rfl)<|c2▸aY (ag rfl) (cE<|bh (jM (ag rfl) (ag rfl)<|ag rfl)<|tB q e4 q4 O (dL .A (.n 64) (.z .A<|.n 16) rfl M) o) dE)<|ai rfl) rfl m)<|
   aL (cY<|du (ag rfl) (ag rfl) dE) bY
end
section
variable{k:Nat}{W:Wd}{B c:List Bool}{dA dB:List ((Int×Int)×Int)}{O:jU}{σ:St}{L D:List Nat}{e f:LV}
theorem UY(u:0<k)(s:B.length<=aq)(h:Ii dA (ft L 256) 256):∀(ps:List<|Nat×Nat) (a:List Bool) (t:Nat) (la lb:LV) (acc:List PV) (x:LV×LV×LV×LV) (N:Nat),B=a++(fO L D ps++c)->t=a.length->(∀p∈ps,o7 p/\Ic dA dB L D p)->sL la=fU (.p dA)->sL lb=fU (.p dB)->acc.length+ps.length<aq->ps.length<N->
  ∃σ,iC (jJ (cK k)<|.e<|.h Z8) (gM dn (cK k) WL) N (pS B e f W t la lb acc x)=fU (.r<|.f<|.a [.l<|acc++ps.map hU,iN<|t+(fO L D ps).length],σ)/\σ.2=W:=by
 intro ps;induction ps with
 |nil=>
  intro a t la lb acc x N;cases N with
  |zero=>intro _ _ _ _ _ _ d;exact bq d<|cn _
  |succ N=>intro hB j m g i b d;refine⟨pS B e f W (t+(ft L 256).length) (.f<|.p dA) lb acc (.f<|iN 256,x.2)|>.set 6 (.f<|.l acc),?_,rfl⟩;refine Rr (show acc++[].map hU=acc from bn _)<|QF rfl (D5 u hB j s h (by decide) g<|ee rfl (jK (B6 (v:=256) rfl (bT rfl))<|ee rfl (fh<|i7 (eK (e9 rfl rfl rfl)<|ag rfl)<|ai rfl)))
 |cons p ps l=>
  intro a t la lb acc x N;cases N with
  |zero=>intro _ _ _ _ _ _ d;exact bq d<|cn _
  |succ N=>
   intro hB j m g i b d;have r:fO L D (p::ps)=j7 L D p++fO L D ps:=au ..
   rw[r,au] at hB;rw[aV] at b d;refine iB (m p<|.head _) λC E=>kY (RU (W:=W) (e:=e) (f:=f) (x:=x) (acc:=acc) u hB j s C E g i<|dT (.s .A) .B (.z (.s<|.a .A<|.s .C) .B) rfl b) λI n o H w y z A=>bO (l (a++j7 L D p) (t+(j7 L D p).length) n o (acc++[hU p]) H N (by refine Rr hB ?_;rw[au]) (Rr af<|Rr j rfl) (λq G=>m q<|.tail _ G) z A (by refine Rr af<|Rr dD ?_;exact dT (.s<|.a (.s .A) .B) .C (.z (.s<|.a .A<|.s .B) .C) rfl b)<|bX d) λσ l F=>?_;refine⟨σ,?_,F⟩;refine Rr r<|Rr af ?_;rw[<-bZ];rw[au] at l;exact qL rfl w y l
theorem Cj(g:1<k)(hA:cK (k-1) 454 [.l<|nL j] W=fU (.a dA,W))(m:cK (k-1) 454 [.l<|nL i] W=fU (.a dB,W))(n:B.length<=aq)(d:Ii dA (ft L 256) 256)
  (hB:B=a++(fO L D ps++c))(q:t=a.length)(o:∀p∈ps,o7 p/\Ic dA dB L D p)(l:ps.length<1000):cK k 473 [.l<|bP B,iN t,.l<|nL j,.l<|nL i] W=fU (.f<|.a [.l<|ps.map hU,iN<|t+(fO L D ps).length],W):=by
 let E:LV:=.f<|.l<|nL j
 let F:LV:=.f<|.l<|nL i
 have b:1000<=aq:=ai rfl;refine bO (UY (W:=W) (e:=E) (f:=F) (k:=k-1) (c:=c) (aA g) n d ps a t (.a dA) (.a dB) [] (.u,.u,.u,.u) dn hB q o rfl rfl (by refine Rr d0 ?_;exact c9 (.s<|.a (.n 0) .A) .B (.o (.s .A) (.n 1000)<|.z (.n 1000) .B) rfl l b) (by unfold dn;exact dL (.s .A) (.n 100000) (.z (.s .A)<|.n 1000) rfl l)) λσ e hW=>?_;have h:=cX (k:=k) (f:=473) (W:=W) (ps:=[.l<|bP B,iN t,.l<|nL j,.l<|nL i]) (aX g) rfl rfl rfl rfl (dM (aL (σ1:=⟨[.f<|.l<|bP B,.f<|iN t,E,F,.a dA,.u,.u,.u,.u,.u,.u,.u,.u],W⟩) (cY (σ1:=⟨[.f<|.l<|bP B,.f<|iN t,E,F,.u,.u,.u,.u,.u,.u,.u,.u,.u],W⟩)<|bh (bI<|ag rfl) hA)<|
  aL (σ1:=⟨[.f<|.l<|bP B,.f<|iN t,E,F,.a dA,.a dB,.u,.u,.u,.u,.u,.u,.u],W⟩) (cY (σ1:=⟨[.f<|.l<|bP B,.f<|iN t,E,F,.a dA,.u,.u,.u,.u,.u,.u,.u,.u],W⟩)<|bh (bI<|ag rfl) m)<|
  aL (σ1:=pS B E F W t (.a dA) (.a dB) [] (.u,.u,.u,.u)) rfl<|ee rfl (pp e)))
 rw[hW] at h;exact h
end
noncomputable def OD:List Nat->Nat->List Nat->List Nat
 |[],_,l=>l
 |t::T,j,l=>OD T (j+1)<|l.set (gN.getD j 0) t
noncomputable def Ct(x:Nat×Nat×Nat):Nat:=(if x.1=18 then 11 else 3)+x.2.2
noncomputable def sS(acc:List Nat)(x:Nat×Nat×Nat):List Nat:=if x.1<16 then acc++[x.1] else acc++ap (Ct x) (if x.1=16 then acc.getLastD 0 else 0)
def rC(x:Nat×Nat×Nat):Prop:=(x.1<16/\x.2=(0,0))\/((x.1=16/\x.2.1=2\/x.1=17/\x.2.1=3\/x.1=18/\x.2.1=7)/\x.2.2<2^x.2.1)
theorem Bt:acc.length<(sS acc x).length:=by
 delta sS Ct;split
 .refine Rr af ?_;exact fR _
 .refine Rr af<|Rr bD ?_;split<;>omega
theorem J7{R:List<|Nat×Nat×Nat}:∀{acc:List Nat},acc.length+R.length<=(R.foldl sS acc).length:=by
 induction R with
 |nil=>exact λ{uu}=>ba _
 |cons x R c=>intro acc;have a:=Bt (x:=x) (acc:=acc);have b:=c (acc:=sS acc x);refine Rr aV<|Rr cz ?_;exact gy (.a .A<|.s .B) .C (.o (.s .A) .D<|.z (.a .D .B) .C) rfl a b
section
variable{k:Nat}{W:Wd}{B c:List Bool}{d:List ((Int×Int)×Int)}{O:jU}{σ:St}{H:List Nat}
theorem JR(h:l≠[])(_:l.length<=aq):mU (.l<|nL l) (.i<|-1)=fU (iN<|l.getLastD 0):=by
 have a:0<l.length:=List.length_pos_iff.2 h;have hi:td l.length (-1)=fU (l.length-1):=by delta td;refine Rr (we<|bT<|by unfold aq at*;omega) ?_;delta DE;show(if(decide (0<=if(-1:Int)<0 then(-1:Int)+l.length else-1)&&decide ((if(-1:Int)<0 then(-1:Int)+l.length else-1)<l.length))=Z8 then fU (if(-1:Int)<0 then(-1:Int)+l.length else-1).toNat else Z9)=_;rewrite[bf (by decide:(-1:Int)<0)];refine Rr (bT (by omega:(0:Int)<=-1+l.length)) (Rr (bT (by omega:(-1+l.length:Int)<l.length)) ?_);exact bx fU<|by omega
 refine Rr Ag<|Rr A6<|Rr jA<|Rr hi ?_;show(nL l)[l.length-1]?=_;exact Rr (DZ<|Nat.sub_lt a jT)<|Rr al<|Rl List.getLast?_eq_getElem?<|Rr List.getLastD_eq_getLast? rfl
noncomputable def gS(B:List Bool)(C:LV)(W:Wd)(t:Nat)(sm tn lc:LV)(acc:List Nat)(x:LV×LV×LV):St:=⟨[.f<|.l<|bP B,.f<|iN t,C,sm,tn,lc,.o<|nL acc,x.1,x.2.1,x.2.2],W⟩
noncomputable abbrev WX:iX:=.c (.c [7,1]<|.c 461<|.c (.v 0)<|.c (.v 1)<|.c (.v 5) .n)<|.c (.i (.c .l (.v 7)<|.i 0) (.c (.r<|.t<|.c (.l .n)<|.c (.l .n)<|.c (.v 1) .n) .n) .n)<|.c (.i (.c .l (.v 7)<|.i 16) (.c (.d 6<|.v 7) .n)<|.c (.a 8<|.s (.t<|.c (.i 2)<|.c (.i 3)<|.c (.i 7) .n)<|.b .s (.v 7)<|.i 16)<|.c (.a 9<|.b .a (.s (.t<|.c (.i 3)<|.c (.i 3)<|.c (.i 11) .n)<|.b .s (.v 7)<|.i 16)<|.c 449<|.c (.v 0)<|.c (.v 1)<|.c (.v 8) .n)<|.c (.a 1<|.b .a (.v 1)<|.v 8)<|.c (.a 6<|.b .a (.v 6)<|.b .m (.l<|.c (.p (.c .e (.v 7)<|.i 16) (.s (.v 6)<|.x<|.i 1)<|.i 0) .n)<|.v 9) .n) .n
theorem P8{i j l v x n:Nat}(h:σ.1[7]?=fU (.f<|iN x))(b:x=16+v)(a:[i,j,l][v]?=fU n):bQ O (.s (.t<|.c (.i i)<|.c (.i j)<|.c (.i l) .n)<|.b .s (.v 7)<|.i 16) σ=fU (.f<|iN n,σ):=
 Fn (p:=.a<|nL [i,j,l]) rfl (aY (ag h) (bc (i:=16))<|jf b) (m6 (by refine Rr cG<|Rr a ?_;rfl)<|ai rfl)
theorem Ro{acc:List Nat}{y:LV×LV×LV}{x:Nat×Nat×Nat}(G:0<k)(hB:B=a++(hJ H x++c))(I:t=a.length)(F:B.length<=aq)(n:rC x)(hd:Ii d (ft H x.1) x.1)(E:sL lc=fU (.p d))(f:(sS acc x).length<1000)(D:acc=[]->x.1≠16):
  ∃u T,gM dn (cK k) WX (gS B C W t sm tn lc acc y)=fU (.n,gS B C W (t+(hJ H x).length) sm tn u (sS acc x) T)/\sL u=fU (.p d):=by
 have g:1000<=aq:=ai rfl;have m:=Bt (x:=x) (acc:=acc);have o:B=a++(ft H x.1++(cM x.2.2 x.2.1++c)):=by refine Rr hB ?_;delta hJ;rw[au]
 have M:B=(a++ft H x.1)++(cM x.2.2 x.2.1++c):=by refine Rr o ?_;rw[au]
 have Q:t+(ft H x.1).length=(a++ft H x.1).length:=Rr af<|Rr I rfl;have L:t+(hJ H x).length=t+(ft H x.1).length+x.2.1:=by delta hJ;refine Rr af<|Rr a8 ?_;rw[bZ]
 let S:Nat->List Nat->LV->LV->LV->St:=λt acc a b c=>gS B C W t sm tn (.f<|.p d) acc (a,b,c)
 have w:∀{r out},gM dn (cK k) r (S (t+(ft H x.1).length) acc (.f<|iN x.1) y.2.1 y.2.2)=out->gM dn (cK k) (.c (.c [7,1]<|.c 461<|.c (.v 0)<|.c (.v 1)<|.c (.v 5) .n)<|.c (.i (.c .l (.v 7)<|.i 0) (.c (.r<|.t<|.c (.l .n)<|.c (.l .n)<|.c (.v 1) .n) .n) .n) r) (gS B C W t sm tn lc acc y)=out:=λh=>
  aL (σ1:=S (t+(ft H x.1).length) acc (.f<|iN x.1) y.2.1 y.2.2) (kP (σ1:=gS B C W t sm tn (.f<|.p d) acc y) (cE<|bh (jM (ag rfl) (ag rfl)<|e9 rfl E rfl)<|E7 G o I F hd) rfl)<|
  aL (fg (Cy (v:=0) rfl (Wq<|cn _)) bY) h
 rcases n with⟨n,O⟩|⟨n,N⟩
 .refine Rr L<|Rr O ?_;unfold sS at f m⊢
  rw[bf n] at f m⊢
  refine(ff (.f<|.p d) (.f<|iN x.1,y.2) ⟨w<|aL (jK (Cy (v:=16) rfl (bT n))<|aL ((py rfl (ag rfl) rfl (by refine Rr jA ?_;exact dT (.s .A) .B (.o (.s .C) (.n 1000)<|.o (.n 1000) .B<|.z (.s .A) .C) rfl f g m)).trans ?_) bY) bY,rfl⟩);exact bx (λl=>fU (Fl.n,St.mk [.f<|.l<|bP B,.f<|iN<|t+(ft H x.1).length,C,sm,tn,.f<|.p d,.o l,.f<|iN x.1,y.2.1,y.2.2] W)) BA.symm
 .have j:¬x.1<16:=λz=>n.elim (λo=>aM z<|eg o.1) λo=>o.elim (λA=>lo1 (.o (.n 17) .A<|.z (.s .A)<|.n 16) rfl (eg A.1) z) λA=>lo1 (.o (.n 18) .A<|.z (.s .A)<|.n 16) rfl (eg A.1) z;refine Rr L ?_;unfold sS at f⊢
  rw[aK j] at f⊢
  rw[af,bD] at f;refine(ff (.f<|.p d) (.f<|iN x.1,.f<|iN x.2.1,.f<|iN<|Ct x) ⟨w<|aL (fg (Cy (v:=16) rfl (Wq j)) ?_) bY,rfl⟩);refine ak λP=>?_;obtain⟨v,J,t1,R⟩:∃v,x.1=16+v/\[2,3,7][v]?=fU x.2.1/\[3,3,11][v]?=fU (if x.1=18 then 11 else 3):=by
   rcases n with⟨i,s⟩|⟨i,s⟩|⟨i,s⟩
   .exact⟨0,i,by refine Rr s ?_;rfl,by refine Rr i ?_;rfl⟩
   .exact⟨1,i,by refine Rr s ?_;rfl,by refine Rr i ?_;rfl⟩
   .exact⟨2,i,by refine Rr s ?_;rfl,by refine Rr i ?_;rfl⟩
  refine P ?_
  let p:=t+(ft H x.1).length
  let X:LV:=.f<|iN x.1
  let σ4:St:=S (p+x.2.1) acc X (.f<|iN x.2.1)<|.f<|iN<|Ct x
  let σ5:St:=⟨[.f<|.l<|bP B,.f<|iN<|p+x.2.1,C,sm,tn,.f<|.p d,.f<|.l<|nL acc,X,.f<|iN x.2.1,.f<|iN<|Ct x],W⟩
  have el:fr (bQ (cK k) (.p (.c .e (.v 7)<|.i 16) (.s (.v 6)<|.x<|.i 1)<|.i 0) σ5)=fU (iN<|if x.1=16 then acc.getLastD 0 else 0,σ5):=by
   by_cases h:x.1=16
   .refine Rr (bf h) ?_;exact(bx fr<|pM (B6 (v:=16) rfl (bT h)) rfl).trans<|cQ (q:=.i<|-1) (ag rfl) rfl (JR (λe=>D e h)<|dT .A .B (.o (.s<|.a .A .C) (.n 1000)<|.z (.n 1000) .B) rfl f g)
   .refine Rr (aK h) ?_;exact(bx fr<|rm (B6 (v:=16) rfl (Wq h)) rfl).trans rfl
  refine aL (σ1:=S p acc X (.f<|iN x.2.1) y.2.2) (cY (σ1:=S p acc X y.2.1 y.2.2)<|P8 rfl J t1)<|aL (σ1:=S p acc X (.f<|iN x.2.1)<|.f<|iN<|Ct x) (cY (σ1:=S p acc X (.f<|iN x.2.1) y.2.2)<|du (cE<|P8 rfl J R) (cE<|bh (jM (ag rfl) (ag rfl)<|ag rfl)<|tB G M Q N (by omega) F) dE)<|
   aL (σ1:=σ4) (cY<|du (ag rfl) (ag rfl) dE)<|aL (cY (σ1:=σ5)<|du (e9 (σ:=σ4) (σ1:=σ5) rfl rfl rfl) (de (du (iz (bI el)<|ai rfl) (ag rfl)<|jH<|dT .A .B (.o (.s<|.a .C .A) (.n 1000)<|.z (.n 1000) .B) rfl f g) rfl)<|(qh<|by refine Rr jA<|Rr bD ?_;exact dT (.a .A .B) .C (.o (.s<|.a .A .B) (.n 1000)<|.z (.n 1000) .C) rfl f g).trans<|Rr tQ<|Rl aC rfl) bY
end
section
variable{k:Nat}{W:Wd}{B c:List Bool}{d:List ((Int×Int)×Int)}{O:jU}{σ:St}{H:List Nat}{tn:LV}
theorem Ot:mU (wN x) (iN 1)=fU (iN x.2.1):=m6 (k:=1) rfl (ai rfl)
theorem O8:mU (wN x) (iN 2)=fU (iN x.2.2):=m6 (k:=2) rfl (ai rfl)
theorem PI(n:0<k)(m:B.length<=aq):∀(R:List<|Nat×Nat×Nat) (a:List Bool) (t:Nat) (lc:LV) (acc:List Nat) (y:LV×LV×LV) (N:Nat),B=a++(R.flatMap (hJ H)++c)->t=a.length->(∀x∈R,rC x/\Ii d (ft H x.1) x.1)->sL lc=fU (.p d)->(acc=[]->∀x∈R.head?,x.1≠16)->(R.foldl sS acc).length=n0+n1->n0+n1<1000->R.length<N->
  ∃f j,iC (jJ (cK k)<|.c .l (.w 6)<|.b .a (.s (.v 2)<|.i 0)<|.s (.v 2)<|.i 1) (gM dn (cK k) WX) N (gS B (.f<|wN (n0,n1,n2)) W t sm tn lc acc y)=fU (.n,gS B (.f<|wN (n0,n1,n2)) W (t+(R.flatMap<|hJ H).length) sm tn f (R.foldl sS acc) j)
 |R,a,t,lc,acc,y,N+1,hB,ht,hR,hlc,h16,hn,hs,hN=>by
  have o:∀b,decide (acc.length<n0+n1)=b->jJ (cK k) (.c .l (.w 6)<|.b .a (.s (.v 2)<|.i 0)<|.s (.v 2)<|.i 1) (gS B (.f<|wN (n0,n1,n2)) W t sm tn lc acc y)=fU (b,gS B (.f<|wN (n0,n1,n2)) W t sm tn lc acc y):=λb w=>cw (p:=iN acc.length) (cE<|by show fU (ww (.i ((nL acc).length:Nat)) _)=_;refine Rr jA ?_;rfl) (aY (cQ (ag rfl) (bc (i:=0)) uy) (cQ (ag rfl) (bc (i:=1)) Ot) dE)<|pG<|(decide_eq_decide.2 aN).trans w
  match R with
  |[]=>exact(ff lc y<|jk<|o Z7<|Wq<|eU.2<|bC hn.symm)
  |x::R=>have g:=Bt (x:=x) (acc:=acc);have l:=J7 (R:=R) (acc:=sS acc x);rw[cz] at hn;rw[eX,au] at hB;refine ak λD=>iB (hR x<|.head _) λu v=>mE (Ro (W:=W) (C:=.f<|wN (n0,n1,n2)) (sm:=sm) (tn:=tn) (y:=y) n hB ht m u v hlc (pI (.s .A) (.n 1000) (.o (.s<|.a .B .C) (.n 1000)<|.o .D (.a .B .C)<|.z (.a .A .E) .D) rfl hs (el hn) l) λe=>h16 e x rfl) λf j r s=>pK (PI (sm:=sm) (n2:=n2) n m R (a++hJ H x) (t+(hJ H x).length) f (sS acc x) j N (by refine Rr hB ?_;rw[au]) (by rw[af,ht]) (λq z=>hR q<|.tail _ z) s (λe=>by rw[e] at g;exact bq g<|cn _) hn hs<|bX hN) λh E A=>?_;refine D<|(ff h E ?_);rw[eX,af,<-bZ,cz];exact qL (o Z8<|bT<|vd (.s .A) (.a .B .C) (.o .D (.a .B .C)<|.o (.s .A) .E<|.z (.a .E .F) .D) rfl (el hn) g l) r rfl A
theorem zS(h:j<19):gN.getD j 0<19:=dG<|aU.1 (by decide:(ay 19).all (λj=>decide (gN.getD j 0<19))=Z8) j<|a9.2 h
theorem Tp(σ:St):fr (bQ O (.g 3) σ)=fU (.a<|nL gN,σ):=rfl
theorem RE{x:LV×LV×LV×LV}(o:0<k)(n:B.length<=aq):∀(T:List Nat) (a:List Bool) (t j:Nat) (l:List Nat) (tn:LV),B=a++(T.flatMap (λt=>cM t 3)++c)->t=a.length->(∀t∈T,t<8)->j+T.length<=19->l.length=19->
  ∃b,oy [4] (gM dn (cK k)<|.c (.s 3 (.s (.g 3)<|.v 4)<|.c 449<|.c (.v 0)<|.c (.v 1)<|.c (.i 3) .n)<|.c (.a 1<|.b .a (.v 1)<|.i 3) .n) (nL<|cA j T.length) ⟨[.f<|.l<|bP B,.f<|iN t,C,.o<|nL l,tn,lc,x.1,x.2.1,x.2.2.1,x.2.2.2],W⟩=
   fU (.n,⟨[.f<|.l<|bP B,.f<|iN<|t+(T.flatMap λt=>cM t 3).length,C,.o<|nL<|OD T j l,b,lc,x.1,x.2.1,x.2.2.1,x.2.2.2],W⟩):=by
 intro T;induction T with
 |nil=>exact λa t j l tn hB h hT f g=>⟨tn,rfl⟩
 |cons v T m=>
  intro a t j l tn hB h hT f g;rw[eX,au] at hB;rw[aV] at f;have e:j<19:=c9 (.s .A) (.n 19) (.z (.a .A<|.s .B)<|.n 19) rfl f;have d:19<=aq:=ai rfl;obtain⟨b,m⟩:=m (a++cM v 3) (t+3) (j+1) (l.set (gN.getD j 0) v) (.f<|iN j) (by refine Rr hB ?_;rw[au]) (Rr af<|Rr a8<|Rr h rfl) (λq p=>hT q<|.tail _ p) (c9 (.a (.s .A) .B) (.n 19) (.z (.a .A<|.s .B)<|.n 19) rfl f) (by refine Rr fM ?_;exact g);refine⟨b,?_⟩;refine Rr eX<|Rr af<|Rr a8 ?_;rw[<-bZ];exact lm (σ1:=⟨[.f<|.l<|bP B,.f<|iN t,C,.o<|nL l,.f<|iN j,lc,x.1,x.2.1,x.2.2.1,x.2.2.2],W⟩) rfl (aL (σ1:=⟨[.f<|.l<|bP B,.f<|iN t,C,.o<|nL<|l.set (gN.getD j 0) v,.f<|iN j,lc,x.1,x.2.1,x.2.2.1,x.2.2.2],W⟩)
   (xW (L:=l) (σ2:=⟨[.f<|.l<|bP B,.f<|iN t,C,.o<|nL l,.f<|iN j,lc,x.1,x.2.1,x.2.2.1,x.2.2.2],W⟩) (cE<|bh (jM (ag rfl) (ag rfl)<|bc (i:=3))<|tB o hB h (hT v<|.head _) (by decide) n) rfl (cQ (Tp _) (ag rfl)<|ED e d) rfl (by refine Rr g ?_;exact zS e) (ao (el g) d))
   (aL (cY<|du (ag rfl) (bc (i:=3)) dE) bY)) rfl m
theorem NF{a b c:Ex}(d:fr (bQ O a σ)=fU (iN x,σ))(e:fr (bQ O b σ)=fU (iN y,σ))(f:fr (bQ O c σ)=fU (iN z,σ)):bQ O (.t<|.c a<|.c b<|.c c .n) σ=fU (.f<|wN (x,y,z),σ):=
 i7 (jM d e f) (ai rfl)
theorem Pr{L D:List Nat}{a:List Bool}{t:Nat}(N:1<k)(s:B.length<=aq)(G:B=a++(fC L D++c))(O:t=a.length)(ho:tU L D)(M:OD (hT L D) 0 (eW 19)=hH L D)(hd:cK (k-1) 454 [.l<|nL<|hH L D] W=fU (.a d,W))
  (I:∀x∈hR L D,rC x/\Ii d (ft (hH L D) x.1) x.1)(F:∀x∈(hR L D).head?,x.1≠16)(Q:(hR L D).foldl sS []=hA L++hB D)(H:(hR L D).length<900):
  cK k 468 [.l<|bP B,iN t] W=fU (.f<|.a [.l<|nL<|hA L,.l<|nL<|hB D,iN<|t+(fC L D).length],W):=by
 refine ak λE=>iB ho.1 λu v=>iB ho.2 λw z=>iB ho.3 λA p=>E ?_;have j:0<k-1:=aA N;have r:1000<=aq:=ai rfl
 let T:=hT L D
 let R:=hR L D
 let f:=cM ((hA L).length-257) 5
 let b2:=cM ((hB D).length-1) 5
 let h:=cM (T.length-4) 4
 let e:=T.flatMap λt=>cM t 3
 let l:=R.flatMap<|hJ<|hH L D
 have q:B=a++(f++b2++h++e++l++c):=G;have Y:B=a++(f++(b2++h++e++l++c)):=by refine Rr q ?_;simp only [au]
 have Z:B=(a++f)++(b2++(h++e++l++c)):=by refine Rr q ?_;simp only [au]
 have e3:B=(a++f++b2)++(h++(e++l++c)):=by refine Rr q ?_;simp only [au]
 have e4:B=(a++f++b2++h)++(e++(l++c)):=by refine Rr q ?_;simp only [au]
 have e5:B=(a++f++b2++h++e)++(l++c):=by refine Rr q ?_;simp only [au]
 have S:t+5=(a++f).length:=Rr af<|Rr O<|Rr a8 rfl;have U:t+10=(a++f++b2).length:=Rr af<|Rl S<|Rr a8 rfl;have V:t+14=(a++f++b2++h).length:=Rr af<|Rl U<|Rr a8 rfl;have q5:t+14+e.length=(a++f++b2++h++e).length:=by rw[af,<-V]
 have q6:t+(fC L D).length=t+14+e.length+l.length:=by show t+(f++b2++h++e++l).length=_;rw[af,af,af,af,a8,a8,a8];exact aj (dT (.a .A<|.a (.a (.p (.p (.n 5) 5) 4) .B) .C) (.a (.a (.p .A 14) .B) .C) .e rfl)<|dT (.a (.a (.p .A 14) .B) .C) (.a .A<|.a (.a (.p (.p (.n 5) 5) 4) .B) .C) .e rfl
 refine ak λE=>?_;obtain⟨n0,g⟩:∃n,(hA L).length=n:=⟨_,rfl⟩;obtain⟨n1,m⟩:∃n,(hB D).length=n:=⟨_,rfl⟩;obtain⟨n2,o⟩:∃n,T.length=n:=⟨_,rfl⟩
 let C:LV:=.f<|wN (n0,n1,n2)
 let P:LV:=.f<|.l<|bP B
 refine rX (RE (W:=W) (C:=C) (lc:=.u) (x:=(.u,.u,.u,.u)) j s T (a++f++b2++h) (t+14) 0 (eW 19) .u e4 V ho.4 (by show 0+(hT L D).length<=19;exact dL (.a (.n 0) .A) (.n 19) (.z (.s .A)<|.n 20) rfl p) e8) λtn f1=>E ?_;rw[M,o] at f1
 let sm:LV:=.f<|.l<|nL<|hH L D
 refine ak λE=>pK (PI (W:=W) (tn:=tn) (sm:=sm) (n0:=n0) (n1:=n1) (n2:=n2) j s R (a++f++b2++h++e) (t+14+e.length) (.a d) [] (.u,.u,.u) dn e5 q5 I rfl (λuu=>F) (Rr Q<|Rr af<|Rr g<|Rr m rfl) (gy (.s<|.a .A .B) (.n 1000) (.o (.s .C) (.n 289)<|.o (.s .D) (.n 33)<|.o .A .C<|.z .B .D) rfl v z (eg g) (eg m)) (bw H<|by decide)) λlc y f2=>E ?_;rw[Q] at f2;have J:=jj (b:=n2) rfl (by refine Rl o ?_;exact c9 .A .B (.o (.s .A) (.n 20)<|.z (.n 1000) .B) rfl p r);rw[mM] at J;refine Rr q6 ?_
 let σe:St:=⟨[P,.f<|iN<|t+14+e.length+l.length,C,sm,tn,lc,.f<|.l<|nL<|hA L++hB D,y.1,y.2.1,y.2.2],W⟩
 refine cX (aX N) rfl rfl rfl rfl<|dM (σ:=σe)<|
  aL (σ1:=⟨[P,.f<|iN t,C,.u,.u,.u,.u,.u,.u,.u],W⟩) (cY (σ1:=⟨[P,.f<|iN t,.u,.u,.u,.u,.u,.u,.u,.u],W⟩) (lv:=C)<|NF ?_ ?_ ?_)<|
  aL (cY (σ1:=⟨[P,.f<|iN t,C,.u,.u,.u,.u,.u,.u,.u],W⟩)<|du (ag rfl) (bc (i:=14)) dE)<|
  aL (σ1:=⟨[P,.f<|iN<|t+14,C,.o<|nL<|eW 19,.u,.u,.u,.u,.u,.u],W⟩) (cY (σ1:=⟨[P,.f<|iN<|t+14,C,.u,.u,.u,.u,.u,.u,.u],W⟩)<|du (iz (bI<|bc (i:=0))<|by decide) (bc (i:=19))<|(jH<|by decide).trans<|by refine Rr tQ ?_;rfl)<|
  aL (kn (eL (bI<|cQ (ag rfl) (bc (i:=2)) O8) (i9 J) rfl) J f1)<|
  aL (σ1:=⟨[P,.f<|iN<|t+14+e.length,C,sm,tn,.a d,.u,.u,.u,.u],W⟩) (cY (σ1:=⟨[P,.f<|iN<|t+14+e.length,C,sm,tn,.u,.u,.u,.u,.u],W⟩)<|bh (bI<|e9 rfl rfl rfl) hd)<|
  aL (σ1:=gS B C W (t+14+e.length) sm tn (.a d) [] (.u,.u,.u)) rfl<|aL (pp f2)<|
  ee rfl<|fh<|i7 (jM (de (o5 (e9 rfl rfl (σ1:=σe) rfl) rfl (cQ (ag rfl) (bc (i:=0)) uy) Gn) ?_) (de (o5 (ag rfl) (cQ (ag rfl) (bc (i:=0)) uy) rfl (Ao<|by refine Rr af<|Rl g ?_;exact eQ ..)) ?_)<|ag rfl)<|ai rfl
 .exact aY (bc (i:=257)) (cE<|bh (jM (ag rfl) (ag rfl)<|bc (i:=5))<|tB j Y O (c9 (.s .A) (.n 32) (.o (.s .B) (.n 289)<|.z (.p .A 257) .B) rfl v (el<|ac<|u)) (by decide) s)<|dE.trans<|Rr (bv u)<|Rr g rfl
 .exact aY (bc (i:=1)) (cE<|bh (jM (ag rfl) (aY (ag rfl) (bc (i:=5)) dE)<|bc (i:=5))<|tB j Z S (c9 (.s .A) (.n 32) (.o (.s .B) (.n 33)<|.z (.s .A) .B) rfl z (el<|ac<|w)) (by decide) s)<|dE.trans<|Rr (bv w)<|Rr m rfl
 .exact aY (bc (i:=4)) (cE<|bh (jM (ag rfl) (aY (ag rfl) (bc (i:=10)) dE)<|bc (i:=4))<|tB j e3 U (by show(hT L D).length-4<2^4;exact c9 (.s .A) (.n 16) (.o (.s .B) (.n 20)<|.z (.p .A 4) .B) rfl p (el<|ac<|A)) (by decide) s)<|dE.trans<|Rr (bv A)<|Rr o rfl
 .refine Rl g<|Rr List.take_left ?_;rfl
 .refine Rl g<|Rr List.drop_left ?_;rfl
end
noncomputable def tN:List Nat:=(ay 28).map λi=>PW<|257+i
noncomputable def sy(p:Nat×Nat):Nat:=if p.2=0 then p.1 else(iI p.1).1
noncomputable def IV(d:List<|Int×Int)(p:Nat×Nat):List<|Int×Int:=pN d (sy p)<|getD d (sy p) 0+1
noncomputable def dc(ps:List<|Nat×Nat):List<|Int×Int:=ps.foldl IV [(256,1)]
theorem SG:(ay 256).all (λi=>decide ((iI<|i+3).1=if i+3=258 then 285 else 256+((tN.filter λb=>decide (b<=i+3)).length)))=Z8:=by decide+kernel
theorem Vl(a:3<=l)(h:l<=258):(iI l).1=if l=258 then 285 else 256+((tN.filter λb=>decide (b<=l)).length):=by have:=dG<|aU.1 SG (l-3)<|a9.2<|c9 (.s .A) (.n 256) (.o .B (.n 258)<|.z (.p .A 3) .B) rfl h (el<|ac<|a);rwa [ac a] at this
section
variable{k:Nat}{W:Wd}{O:jU}{σ:St}
noncomputable def cS(P:LV)(W:Wd)(d:List<|Int×Int)(bs:LV)(x:LV×LV):St:=⟨[P,.b d,bs,x.1,x.2,.u],W⟩
theorem zJ{k v:Int}:(pN d k v).length<=d.length+1:=by
 delta pN;split
 .rw[av];exact sa _
 .refine Rr af ?_;exact ba _
theorem Ll(hd:d.length<1000):ph dn O (.s 1 (.v 3)<|.b .a (.q 1 (.v 3)<|.i 0)<|.i 1) (cS P W d bs (.f<|iN s,x))=fU (.n,cS P W (pN d s<|getD d s 0+1) bs (.f<|iN s,x)):=by refine pz (p:=.i<|getD d s 0+1) (q:=iN s) (lv:=.b<|pN d s<|getD d s 0+1) (σ1:=cS P W d bs (.f<|iN s,x)) (aY (p:=.i<|getD d s 0) rfl (eZ (i:=1)) rfl) rfl (ag rfl) rfl<|we<|bT (by have:1000<=aq:=ai rfl;exact ao hd this)
theorem yg(h:fr (bQ O it σ)=fr (bQ O it σ1)):bQ O (.o elt is it ifs) σ=bQ O (.o elt is it ifs) σ1:=by show(fr<|bQ O it σ).bind _=(fr<|bQ O it σ1).bind _;exact Rr h rfl
theorem ty(h:jJ O t σ=fU (b,σ)):lK O Z7 (.c t .n) σ=fU (b,σ):=by
 cases b
 .exact gi h
 .exact fq h iA
noncomputable def yU(b:Bool):LV:=bif b then .o (nL tN) else .f<|.l<|nL tN
theorem XB:sL (yU b)=fU (.l<|nL tN):=by cases b<;>rfl
theorem Fq:tN.length<=28:=bC cO
noncomputable abbrev WM:iX:=.c (.a 3<|.v 4)<|.c (.i (.e<|.a 8<|.c (.v 4) .n) (.c (.a 3<|.p (.c .e (.s (.v 4)<|.i 0)<|.i 258) (.i 285)<|.b .a (.i 256)<|.a 0<|.c (.o (.v 5) [5] (.v 2)<|.c (.c .b (.v 5)<|.s (.v 4)<|.i 0) .n) .n) .n) .n)<|.c (.s 1 (.v 3)<|.b .a (.q 1 (.v 3)<|.i 0)<|.i 1) .n
theorem Ta(r:3<=l)(h:l<=258):∃j,bQ O (.p (.c .e (.s (.v 4)<|.i 0)<|.i 258) (.i 285)<|.b .a (.i 256)<|.a 0<|.c (.o (.v 5) [5] (.v 2)<|.c (.c .b (.v 5)<|.s (.v 4)<|.i 0) .n) .n) (cS P W d (yU b) (x,.f<|.a [iN l,iN e]))=
  fU (.f<|iN (iI l).1,cS P W d (yU j) (x,.f<|.a [iN l,iN e])):=by
 refine Rr (Vl r h) ?_;have c:1000<=aq:=ai rfl;have n:=Fq;have g:∀{σ:St},σ.1[4]?=fU (.f<|.a [iN l,iN e])->fr (bQ O (.s (.v 4)<|.i 0) σ)=fU (iN l,σ):=λh=>cQ (ag h) (bc (i:=0))<|m6 (k:=0) rfl (ai rfl);have o:∀j,decide (((l:Nat):Int)=(258:Nat))=j->jJ O (.c .e (.s (.v 4)<|.i 0)<|.i 258) (cS P W d (yU b) (x,.f<|.a [iN l,iN e]))=fU (j,cS P W d (yU b) (x,.f<|.a [iN l,iN e])):=λj n=>cw (g rfl) (bc (i:=258))<|o8 n;by_cases m:l=258
 .refine Rr (bf m) ?_;exact⟨b,pM (o Z8<|bT<|bx cV m) rfl⟩
 .refine Rr (aK m) ?_;refine⟨Z7,rm (o Z7<|Wq λh=>m<|b7.1 h) ?_⟩;have q:=mj (O:=O) (σ:=cS P W d (yU Z7) (x,.f<|.a [iN l,iN e])) (i:=5) (f:=iN) (l:=tN) (g:=iN) (t:=λb=>decide (b<=l)) (elt:=.v 5) (it:=.v 2) (ifs:=.c (.c .b (.v 5)<|.s (.v 4)<|.i 0) .n) (ag rfl) dy rfl (c9 .A .B (.o (.n 1000) .B<|.z .A<|.n 28) rfl c n)
   (λa p=>ty<|cw (ag rfl) (g rfl)<|WC<|decide_eq_decide.2 c8) λa p p=>ag rfl
  exact du (bc (i:=256)) (eL (bI<|de ((yg (σ1:=cS P W d (yU Z7) (x,.f<|.a [iN l,iN e]))<|(e9 rfl XB rfl).trans (ag rfl).symm).trans q) rfl) gH rfl) dE
theorem Tf:∀(ps:List<|Nat×Nat) (d:List<|Int×Int) (b:Bool) (x:LV×LV),(∀p∈ps,o7 p)->d.length+ps.length<1000->∃a g,oy [4] (gM dn O WM) (ps.map hU) (cS P W d (yU b) x)=fU (.n,cS P W (ps.foldl IV d) (yU a) g):=by
 intro ps;induction ps with
 |nil=>exact λd b x u u=>(ff b x rfl)
 |cons p ps f=>
  intro d b x h hd;have s:(IV d p).length<=d.length+1:=zJ;rw[aV] at hd;have key:∃a,gM dn O WM (cS P W d (yU b) (x.1,.f<|hU p))=fU (.n,cS P W (IV d p) (yU a) (.f<|iN<|sy p,.f<|hU p)):=by
   have i:∀a,decide (p.2≠0)=a->jJ O (.e<|.a 8<|.c (.v 4) .n) (cS P W d (yU b) (.f<|hU p,.f<|hU p))=fU (a,cS P W d (yU b) (.f<|hU p,.f<|hU p)):=λa r=>wr (cE<|lN (bI<|ag rfl) vE)<|bx fU r;delta IV sy;by_cases c:p.2=0
   .refine Rr (bf c) ?_;have o:(cS P W d (yU b) (.f<|hU p,.f<|hU p))=(cS P W d (yU b) (.f<|iN p.1,.f<|hU p)):=Rr (ql c) rfl;exact⟨b,aL (cY (σ1:=cS P W d (yU b) (x.1,.f<|hU p))<|tJ rfl)<|aL (σ1:=cS P W d (yU b) (.f<|iN p.1,.f<|hU p)) (o▸fg (i Z7<|Wq<|not_not_intro c) bY)<|aL (Ll<|c9 (.s .A) (.n 1000) (.z (.s<|.a .A<|.s .B)<|.n 1000) rfl hd) bY⟩
   .refine Rr (aK c) ?_;refine hV (mi (h p<|.head _) c) λv m n=>?_;obtain⟨a,e⟩:=Ta (O:=O) (W:=W) (P:=P) (d:=d) (b:=b) (l:=p.1) (e:=p.2) (x:=.f<|hU p) m n;rw[<-p7 c] at e;exact⟨a,aL (cY (σ1:=cS P W d (yU b) (x.1,.f<|hU p))<|tJ rfl)<|aL (σ1:=cS P W d (yU a) (.f<|iN (iI p.1).1,.f<|hU p)) (jK (i Z8<|bT c)<|aL (cY e) bY)<|aL (Ll<|c9 (.s .A) (.n 1000) (.z (.s<|.a .A<|.s .B)<|.n 1000) rfl hd) bY⟩
  obtain⟨j,k⟩:=key;refine pK (f (IV d p) j (.f<|iN<|sy p,.f<|hU p) (λq t=>h q<|.tail _ t)<|dT (.s<|.a .A .B) (.n 1000) (.o (.s<|.a .C<|.s .B) (.n 1000)<|.z .A<|.s .C) rfl hd s) λa g f=>(ff a g<|lm (σ1:=cS P W d (yU b) (x.1,.f<|hU p)) rfl k rfl f)
theorem Ih(a:0<k)(d:∀p∈ps,o7 p)(c:ps.length<900):cK k 490 [.l<|ps.map hU] W=fU (.b<|dc ps,W):=by
 let P:LV:=.f<|.l<|ps.map hU
 have f1:ph dn (cK<|k-1) (.f [3] (.a 1<|.c (.i 257)<|.c (.i 284) .n)<|.c (.d 2<|.b .a (.k 2<|.x<|.i 1)<|.b .b (.i 1)<|.a 4<|.c (.b .f (.b .s (.v 3)<|.i 261)<|.i 4)<|.c (.i 0) .n) .n) (cS P W [(256,1)] (.o [iN 3]) (.u,.u))=fU (.n,cS P W [(256,1)] (yU Z8) (.f<|iN 283,.u)):=by kernel_rfl
 refine pK (Tf (O:=cK<|k-1) (W:=W) (P:=P) ps [(256,1)] Z8 (.f<|iN 283,.u) d<|by refine Rr dD ?_;exact dL (.s<|.a .i .A) (.n 1000) (.z (.s .A)<|.n 900) rfl c) λb x f2=>?_;exact cX a rfl rfl rfl rfl<|dM (σ:=⟨[P,.u,yU b,x.1,x.2,.u],W⟩)<|aL (σ1:=⟨[P,.b [(256,1)],.u,.u,.u,.u],W⟩) rfl<|aL (σ1:=cS P W [(256,1)] (.o [iN 3]) (.u,.u)) rfl<|aL f1<|aL (kn (ag rfl) dy f2)<|ee rfl<|fh<|sR rfl rfl rfl
end
noncomputable def lM(L:List Nat)(g:Nat->Nat):List<|Nat×Nat:=((ay L.length).filter λs=>decide (0<L.getD s 0)).map λs=>(g s,L.getD s 0)
theorem Md(h:y∈insI x l):y=x\/y∈l:=by
 induction l with
 |nil=>exact .inl<|bl.1 h
 |cons z r a=>
  have h:y∈(if x<z then x::z::r else z::insI x r):=h;split at h
  .exact ax.1 h
  .rcases ax.1 h with h|h
   .exact .inr<|h▸.head _
   .exact(a h).imp id<|.tail _
theorem H9(h:y∈sortI l):y∈l:=by
 have:∀(l a:List Int),y∈l.foldl (λa x=>insI x a) a->y∈l\/y∈a:=λl=>by
  induction l with
  |nil=>exact λc h=>.inr h
  |cons x r b=>
   intro a h;rcases b _ h with h|h
   .exact .inl<|.tail _ h
   .rcases Md h with h|h
    .exact .inl<|h▸.head _
    .exact .inr h
 exact(this l [] h).resolve_right bj
theorem JF:(insI x l).length=l.length+1:=by
 induction l with
 |nil=>rfl
 |cons z r a=>
  show(if x<z then x::z::r else z::insI x r).length=_;split
  .rfl
  .exact bx (·+1) a
theorem HA:(sortI l).length=l.length:=by
 have:∀(l a:List Int),(l.foldl (λa x=>insI x a) a).length=l.length+a.length:=λl=>by
  induction l with
  |nil=>exact λc=>(bA _).symm
  |cons x r b=>intro a;refine Rr cz ?_;rewrite[b];refine Rr JF<|Rr aV ?_;exact aj (c9 (.a .A<|.s .B) (.a (.s .A) .B) .e rfl)<|c9 (.a (.s .A) .B) (.a .A<|.s .B) .e rfl
 exact this l []
section
variable{k:Nat}{W:Wd}{O:jU}{σ:St}{L:List Nat}{cs:List (Int×Int)}{g:Nat->Nat}
theorem Pg{s:Nat}(h:σ.1[1]?=fU (.f<|.d cs))(hi:σ.1[i]?=fU (.f<|iN s))(a:getD cs s 0=(g s:Nat)):fr (bQ O (.u (.v 1) (.v i)<|.i 0) σ)=fU (iN<|g s,σ):=by refine cE ?_;show((fr<|bQ O (.v 1) σ).bind λw=>(VD w.1).bind λl=>(fr<|bQ O (.v i) w.2).bind λx=>(oz x.1).bind λi=>(fr<|bQ O (.i 0) x.2).bind λy=>(oz y.1).map λj=>ww (.i<|getD l i j) y.2)=_;refine Rr (ag h) ?_;show((fr<|bQ O (.v i) σ).bind λx=>(oz x.1).bind λi=>(fr<|bQ O (.i 0) x.2).bind λy=>(oz y.1).map λj=>ww (.i<|getD cs i j) y.2)=_;refine Rr (ag hi)<|bx (λi=>fU (LV.f<|.i i,σ)) a
noncomputable def iS(b:PV)(cs:List<|Int×Int)(L:List Nat)(W:Wd)(U:LV):St:=⟨[.f b,.f<|.d cs,.f<|.l<|nL L,U,.u,.u,.u,.u,.u,.u,.u,.u],W⟩
theorem M2(a:L.length<=aq)(e:∀s:Nat,getD cs s 0=(g s:Nat)):bQ O (.o (.t<|.c (.u (.v 1) (.v 4)<|.i 0)<|.c (.s (.v 2)<|.v 4) .n) [4] (.a 1<|.c (.a 0<|.c (.v 2) .n) .n)<|.c (.c .g (.s (.v 2)<|.v 4)<|.i 0) .n) (iS b cs L W .u)=fU (.o<|(lM L g).map tp,iS b cs L W .u):=by
 have d:=jj (b:=L.length) rfl a;refine(mj (O:=O) (σ:=iS b cs L W .u) (i:=4) (f:=iN) (l:=ay L.length) (g:=λs=>tp (g s,L.getD s 0)) (t:=λs=>decide (0<L.getD s 0)) (eL (bI<|eL (bI<|ag rfl) gH rfl) (i9 d) rfl) d rfl (by refine Rr bR ?_;exact a)
  (λs c=>ty<|cw (cQ (ag rfl) (ag rfl)<|fu (a9.1 c) a) (bc (i:=0))<|pJ<|decide_eq_decide.2 aN)
  λs c h=>cE<|i7 (eK (Pg rfl rfl (e s))<|cQ (ag rfl) (ag rfl)<|fu (a9.1 c) a)<|ai rfl).trans ?_
 unfold lM;refine Rr bM ?_;rfl
theorem Cg{α:Type}{l:List α}:(l.filter λa=>Z8)=l:=kc.2 λa a=>rfl
theorem Tg(hk:0<k)(Z:Il 432 1 b=fU (.l<|nL L))(Y:L.length<1000)(D:cs.length<64)(hg:∀s:Nat,getD cs s 0=(g s:Nat))(B:lM L g≠[])(q:((lM L g).map λu=>2^(15-u.2)).sum=2^15)(n:∀u∈lM L g,u.2<=15)
  (A:∀e∈cs,∃s:Nat,e.1=s/\0<L.getD s 0)(d:∀u∈lM L g,∀v∈lM L g,¬(v.1<u.1/\v.2<u.2)):cK k 495 [b,.d cs] W=fU (.f<|.c Z8,W):=by
 have o:1000<=aq:=ai rfl;have M:L.length<=aq:=c9 .A .B (.o (.s .A) (.n 1000)<|.z (.n 1000) .B) rfl Y o;have I:=M2 (O:=cK<|k-1) (W:=W) (b:=b) M hg;have w:(lM L g).length<=aq:=by refine ao ?_ M;unfold lM;rw[av];exact ao (gA ..) (bC bR)
 revert I B q n d w
 generalize lM L g=U;intro B q n d I w
 let σ1:St:=iS b cs L W<|.o<|U.map tp
 let σ2:St:=iS b cs L W<|.f<|.l<|U.map tp
 have v3:fr (bQ (cK<|k-1) (.v 3) σ1)=fU (.l<|U.map tp,σ2):=e9 rfl rfl rfl;have y:fr (bQ (cK<|k-1) (.v 3) σ2)=fU (.l<|U.map tp,σ2):=ag rfl;have R:fr (bQ (cK<|k-1) (.a 6<|.c (.o (.b .b (.i 1)<|.b .s (.i 15)<|.v 8) [7,8] (.v 3) .n) .n) σ1)=fU (iN<|2^15,σ2):=by
  have h:=yE (O:=cK<|k-1) (σ:=σ2) (i:=7) (j:=8) (f1:=λx:Nat×Nat=>iN x.1) (f2:=λx=>iN x.2) (l:=U) (g:=λx=>iN<|1*2^(15-x.2)) (t:=λc=>Z8) (elt:=.b .b (.i 1)<|.b .s (.i 15)<|.v 8) (ifs:=.n) (by decide) y rfl rfl rfl w (λc c=>rfl)
   λx E c=>aY (bc (i:=1)) (aY (bc (i:=15)) (ag rfl)<|jf (bv<|n x E).symm)<|rh (by decide)<|dL .A (.n 1000000) (.z .A<|.n 15) rfl (bk _ _)
  rw[Cg,<-rd (f:=λx:Nat×Nat=>1*2^(15-x.2))] at h;refine eL (lv:=.f<|iN<|2^15) (bI<|de ((yg (σ1:=σ2)<|v3.trans y.symm).trans h) rfl) (yn.trans ?_) rfl;simp only [jO];exact Rr q rfl
 have H:∃m,m<=15/\fr (bQ (cK<|k-1) (.a 4<|.c (.o (.v 6) [5,6] (.v 3) .n) .n) σ2)=fU (iN m,σ2):=by
  have h:=yE (O:=cK<|k-1) (σ:=σ2) (i:=5) (j:=6) (f1:=λx:Nat×Nat=>iN x.1) (f2:=λx=>iN x.2) (l:=U) (g:=λx=>iN x.2) (t:=λc=>Z8) (elt:=.v 6) (ifs:=.n) (by decide) y rfl rfl rfl w (λc c=>rfl) λx c c=>ag rfl;rw[Cg,<-rd (f:=λx:Nat×Nat=>x.2)] at h;refine⟨kh<|U.map (·.2),?_,eL (lv:=.f<|iN<|kh<|U.map (·.2)) (bI<|de h rfl) ?_ rfl⟩
  .have:∀l:List Nat,(∀x∈l,x<=15)->kh l<=15:=λl=>by
    induction l with
    |nil=>exact λc=>bS _
    |cons a r ih=>exact λh=>Nat.max_le.2 ⟨h a<|.head _,ih λx E=>h x<|.tail _ E⟩
   exact this _ λx E=>by
    refine bO (aE.1 E) λu P F=>?_;subst F;exact n u P
  .cases U with
   |nil=>exact bq rfl B
   |cons u r=>exact KE
 obtain⟨m,hm,H⟩:=H;have T:fr (bQ (cK<|k-1) (.o (.v 9) [9] (.a 3<|.c (.v 1) .n)<|.c (.c .e (.s (.v 2)<|.v 9)<|.i 0) .n) σ2)=fU (.l [],σ2):=by
  have N:zG W 3 [.d cs]=fU (.o<|(sortI<|cs.map (·.1)).map .i):=by show gd (decide (cs.length<64)) (fU<|LV.o<|(sortI<|cs.map (·.1)).map .i)=_;exact we<|bT D
  have h:=mj (O:=cK<|k-1) (σ:=σ2) (i:=9) (f:=PV.i) (l:=sortI<|cs.map (·.1)) (g:=PV.i) (t:=λc=>Z7) (elt:=.v 9) (it:=.a 3<|.c (.v 1) .n) (ifs:=.c (.c .e (.s (.v 2)<|.v 9)<|.i 0) .n) (eL (bI<|ag rfl) N rfl) dy rfl (by refine Rr HA ?_;rw[av];exact c9 .A .B (.o (.s .A) (.n 64)<|.z (.n 1000) .B) rfl D o)
   (λi hi=>by
    refine bO (aE.1<|H9 hi) λe he G=>?_;subst G;refine bO (A e he) λs C J=>?_;have N:s<L.length:=b8 λh'=>by rw[al,ch h'] at J;exact bq J<|cB 0
    refine Rr C<|ty<|cw (cQ (ag rfl) (ag rfl)<|fu N M) (bc (i:=0))<|o8<|Wq λh=>bq (b7.1 h)<|gk J) λc c h=>nomatch h
  rw[show∀l:List Int,(l.filter λc=>Z7)=[] from λl=>jw.2 λc c h=>nomatch h] at h;exact de h rfl
 let S:LV×LV->St:=λx=>⟨[.f b,.f<|.d cs,.f<|.l<|nL L,.f<|.l<|U.map tp,.u,.u,.u,.u,.u,.u,x.1,x.2],W⟩
 have V:fr (bQ (cK<|k-1) (.A (.i 1) [10] (.v 3) [11] (.v 3)<|.c (.a<|.c (.c .g (.s (.v 10)<|.i 0)<|.s (.v 11)<|.i 0)<|.c (.c .g (.s (.v 10)<|.i 1)<|.s (.v 11)<|.i 1) .n) .n) σ2)=fU (.l [],σ2):=by
  have z:∀l:List<|Nat×Nat,l.flatMap (λc=>([]:List PV))=[]:=λl=>List.flatMap_eq_nil_iff.2 λc c=>rfl;obtain⟨lv,h⟩:=n6 (is:=[10]) (body:=λσ=>(fr<|bQ (cK<|k-1) (.v 3) σ).bind λb=>(f8 b.1).bind λqs=>km [11] (λσ=>qV (lK (cK<|k-1) Z7 (.c (.a<|.c (.c .g (.s (.v 10)<|.i 0)<|.s (.v 11)<|.i 0)<|.c (.c .g (.s (.v 10)<|.i 1)<|.s (.v 11)<|.i 1) .n) .n) σ)<|bQ (cK<|k-1)<|.i 1) qs b.2) S tp (λc=>[]) (l:=U) (lv:=(.u,.u)) λlv u P=>by
   obtain⟨Q,h⟩:=n6 (is:=[11]) (body:=λσ=>qV (lK (cK<|k-1) Z7 (.c (.a<|.c (.c .g (.s (.v 10)<|.i 0)<|.s (.v 11)<|.i 0)<|.c (.c .g (.s (.v 10)<|.i 1)<|.s (.v 11)<|.i 1) .n) .n) σ)<|bQ (cK<|k-1)<|.i 1) (λx=>S (.f<|tp u,x)) tp (λc=>[]) (l:=U) (lv:=lv.2) λlv v hv=>by
    refine(ff (S (.f<|tp u,.f<|tp v)) (.f<|tp v) ⟨rfl,Eh<|ty<|kj ?_⟩);have g0:∀{i:Nat} {x:Nat×Nat} {σ:St},σ.1[i]?=fU (.f<|tp x)->fr (bQ (cK<|k-1) (.s (.v i)<|.i 0) σ)=fU (iN x.1,σ):=λh=>cQ (ag h) (bc (i:=0))<|m6 (k:=0) rfl (ai rfl);have g1:∀{i:Nat} {x:Nat×Nat} {σ:St},σ.1[i]?=fU (.f<|tp x)->fr (bQ (cK<|k-1) (.s (.v i)<|.i 1) σ)=fU (iN x.2,σ):=λh=>cQ (ag h) (bc (i:=1))<|m6 (k:=1) rfl (ai rfl);by_cases C:v.1<u.1
    .exact fq (cw (g0 rfl) (g0 rfl)<|pJ<|bT<|aN.2 C)<|gi<|cw (g1 rfl) (g1 rfl)<|pJ<|Wq λh=>d u P v hv ⟨C,aN.1 h⟩
    .exact gi<|cw (g0 rfl) (g0 rfl)<|pJ<|Wq λh=>C<|aN.1 h
   rw[z] at h;exact(ff (S (.f<|tp u,lv.2)) (.f<|tp u,Q) ⟨rfl,Kq (ag rfl) dy h⟩)
  rw[z] at h;exact de (La y dy h<|bS _) rfl
 exact cX hk rfl rfl rfl rfl<|dM (σ:=σ2)<|aL (σ1:=iS b cs L W .u) (cY (σ1:=⟨[.f b,.f<|.d cs,.u,.u,.u,.u,.u,.u,.u,.u,.u,.u],W⟩) (lv:=.f<|.l<|nL L)<|by show(fr<|bQ (cK<|k-1) (.v 0) _).bind (λx=>(Il 432 1 x.1).map λp=>ww p x.2)=_;refine Rr (ag (p:=b) rfl) ?_;show(Il 432 1 b).map _=_;refine Rr Z ?_;rfl)<|
  aL (σ1:=σ1) (cY I)<|aL (fg (rz<|fq (cw R (aY (bc (i:=1)) (bc (i:=15))<|rh (by decide)<|by decide)<|Ko<|bT rfl)<|fq (cw H (bc (i:=15))<|pJ<|Wq λh=>bq (aN.1 h)<|eU.2 hm) iA) bY)<|
  aL (fg (cw T (iz jl<|bS _) rfl) bY)<|ee rfl<|fh<|EQ V (iz jl<|bS _) rfl
end
section
variable{k:Nat}{W:Wd}{O:jU}{cs:List Int}
theorem GF(e:0<k)(f:0<l)(hc:cs≠[])(a:cs.length<=63)(g:n<400)(b:sl[i]?=fU (.f .t)):
  ∃r:Nat,r<l/\bQ (cK k) (.f (.v i)<|.i l) ⟨sl,Bm W cs n⟩=fU (.f<|iN r,⟨sl,Bm W cs<|n+1⟩):=by
 refine bO (LZ (W:=Bm W cs n) e f hc a g rfl) λr c d=>⟨r,c,?_⟩;show(fr<|bQ (cK k) (.v i) ⟨sl,Bm W cs n⟩).bind _=_;refine Rr (ag (O:=cK k) (σ:=⟨sl,Bm W cs n⟩) b) ?_;show(cK k 0 [iN l]<|Bm W cs n).map _=_;refine Rr d ?_;rfl
noncomputable def LS(ns:List Int)(ah mn:Nat)(ps:List<|Nat×Nat)(W:Wd)(l:List LV):St:=⟨[.f<|.l<|iL ns,.f .t,.f<|iN ah,.f<|iN mn,.f<|.l<|ps.map hU,.f<|xk ps]++l,W⟩
noncomputable abbrev QB:List LV:=[.u,.u,.u,.u,.u,.u,.u,.u,.u,.u,.u,.u,.u,.u,.u]
noncomputable def qS(S a b:LV)(W:Wd)(cs:List Int)(n:Nat)(lv:LV):St:=⟨[S,.f .t,a,b,.u,.u,.u,.u,.u,.u,.u,.u,.u,.u,.u,.u,.u,lv,.u,.u,.u],Bm W cs n⟩
theorem Ey(v:1<k)(hc:cs≠[])(c:cs.length<=63):∀(l:List Nat) (n:Nat) (lv:LV),n+7*l.length<390->∃(ps:List<|Nat×Nat) (d:Nat) (m:LV),ps.length=l.length/\(∀p∈ps,o7 p)/\
   km [17] (λσ=>qV (lK (cK k) Z7 .n σ)<|bQ (cK k)<|.c 480<|.c (.v 1) .n) (nL l) (qS S a b W cs n lv)=fU (ps.map hU,qS S a b W cs d m):=by
 intro l;induction l with
 |nil=>exact λn lv w=>(ou [] n lv ⟨rfl,(λw h=>nomatch h),rfl⟩)
 |cons i l j=>
  intro n lv f;rw[aV] at f;refine cU (SN (W:=W) (k:=k) (n:=n) v hc c<|c9 (.s .A) (.n 390) (.z (.s<|.a .A<|.m 7<|.s .B)<|.n 390) rfl f) λp d r s e=>p6 (j d (.f<|iN i)<|dT (.s<|.a .A<|.m 7 .B) (.n 390) (.o (.s<|.a .C<|.m 7<|.s .B) (.n 390)<|.z .A<|.p .C 7) rfl f s) λps n2 o t u j=>(ou (p::ps) n2 o ⟨bx (·+1) t,λq g=>?_,?_⟩)
  .rcases ax.1 g with rfl|g
   .exact r
   .exact u q g
  .show(qV (fU (Z8,qS S a b W cs n<|.f<|iN i))<|bQ (cK k)<|.c 480<|.c (.v 1) .n).bind _=_;refine Rr (xt rfl (cE<|sk (bI<|ag rfl) e)) ?_;show(km [17] _ (nL l)<|qS S a b W cs d<|.f<|iN i).map _=_;refine Rr j ?_;rfl
theorem Q5(h:ns.length<=63)(t:∀ps:List<|Nat×Nat,ps.length<=8->(∀p∈ps,o7 p)->(ord<|fH<|kg ps).length<64/\∀x∈hR (eM ps) (fi ps),x.1<19):
  ∃ah mn ps W,ah<8/\ps.length<=8/\(∀p∈ps,o7 p)/\gM dn (cK 10) xS (EH ns)=fU (.n,LS ns ah mn ps W QB):=by
 have hc:gh ns≠[]:=by
  unfold gh;split
  .exact Xf _ _
  .assumption
 have c:(gh ns).length<=63:=by
  unfold gh;split
  .exact ai rfl
  .exact h
 let S:LV:=.f<|.l<|iL ns
 refine bO (GF (k:=10) (W:={}) (n:=0) (l:=8) (sl:=(qS S .u .u {} (gh ns) 0 .u).1) (i:=1) (by decide) (by decide) hc c (by decide) rfl) λah s o=>bO (GF (k:=10) (W:={}) (n:=1) (l:=9) (sl:=(qS S (.f<|iN ah) .u {} (gh ns) 0 .u).1) (i:=1) (by decide) (by decide) hc c (by decide) rfl) λmn d q=>?_;have m:=jj (b:=mn) rfl (by have:1000<=aq:=ai rfl;exact c9 .A .B (.o (.s .A) (.n 9)<|.z (.n 1000) .B) rfl d this);refine p6 (Ey (S:=S) (a:=.f<|iN ah) (b:=.f<|iN mn) (W:={}) (k:=10) (by decide) hc c (ay mn) 2 .u<|by refine Rr bR ?_;exact dL (.s<|.a (.n 2)<|.m 7 .A) (.n 390) (.c 7 (.s .A) (.n 9) .e) rfl d) λps e j f g r=>?_;rw[bR] at f;obtain⟨g1,g2⟩:=t ps (c9 .A (.n 8) (.o (.s .B) (.n 9)<|.z .A .B) rfl d (el f)) g;refine(B2 ah mn ps (Bm {} (gh ns) e) ⟨s,by exact c9 .A (.n 8) (.o (.s .B) (.n 9)<|.z .A .B) rfl d (el f),g,?_⟩)
 let l5 (a b:LV):List LV:=[S,.f .t,.f<|iN ah,.f<|iN mn,a,b,.u,.u,.u,.u,.u,.u,.u,.u,.u,.u,.u,.u,.u,.u,.u]
 exact aL (σ1:=qS S (.f<|iN ah) .u {} (gh ns) 1 .u) (cY o)<|aL (σ1:=qS S (.f<|iN ah) (.f<|iN mn) {} (gh ns) 2 .u) (cY q)<|
  aL (σ1:=⟨l5 (.o<|ps.map hU) .u,Bm {} (gh ns) e⟩) (cY (σ1:=⟨l5 .u .u,Bm {} (gh ns) e⟩)<|AC (is:=[17]) (σ2:=qS S (.f<|iN ah) (.f<|iN mn) {} (gh ns) e j) (qs:=ps.map hU) (eL (bI<|ag rfl) (i9 m) rfl) m r (by rw[av];have:1000<=aq:=ai rfl;exact dT .A .B (.o (.s .C) (.n 9)<|.o .A .C<|.z (.n 1000) .B) rfl d (el f) this))<|
  aL (cY (σ1:=⟨l5 (.f<|.l<|ps.map hU) .u,Bm {} (gh ns) e⟩)<|bh (bI<|e9 rfl rfl rfl)<|Na (by decide) g g1 g2) bY
end
structure LawC (n:Nat) (L L':List Nat):Prop where
 ev:∀{k W},0<k->cK k 454 [.l<|nL L'] W=fU (.a<|Km L',W)
 dec:∀s,s<n->0<L.getD s 0->Ii (Km L') (ft L s) s
noncomputable def mA(ps:List<|Nat×Nat):List Nat:=(ps.filter λp=>decide (p.2≠0)).map (·.2)
noncomputable def pos(L:List Nat):List Nat:=L.filter λx=>decide (0<x)
structure Good (ps:List<|Nat×Nat):Prop where
 L:lP (eM ps)
 D:lP (fi ps)
 used:∀p∈ps,wv (eM ps) (fi ps) p
 eob:0<(eM ps).getD 256 0
 ho:tU (eM ps) (fi ps)
 r9:(hR (eM ps)<|fi ps).length<900
 tot:(gJ ps 1).length=lz ps
 sm:OD (hT (eM ps)<|fi ps) 0 (eW 19)=hH (eM ps) (fi ps)
 rok:∀x∈hR (eM ps) (fi ps),rC x
 r16:∀x∈(hR (eM ps)<|fi ps).head?,x.1≠16
 sS:(hR (eM ps)<|fi ps).foldl sS []=hA (eM ps)++hB (fi ps)
 cH:LawC 19 (hH (eM ps)<|fi ps) (hH (eM ps)<|fi ps)
 cL:LawC 286 (eM ps) (hA<|eM ps)
 cD:LawC 30 (fi ps) (hB<|fi ps)
 cs:(dc ps).length<64
 g:∃g:Nat->Nat,(∀s:Nat,getD (dc ps) s 0=(g s:Nat))/\lM (eM ps) g≠[]/\((lM (eM ps) g).map λu=>2^(15-u.2)).sum=2^15/\(∀u∈lM (eM ps) g,u.2<=15)/\∀u∈lM (eM ps) g,∀v∈lM (eM ps) g,¬(v.1<u.1/\v.2<u.2)
 keys:∀e∈dc ps,∃s:Nat,e.1=s/\0<(eM ps).getD s 0
 far:(mA ps=[]->pos (fi ps)=[])/\(mA ps≠[]->(∀a∈mA ps,∀b∈mA ps,a=b)->pos (fi ps)=[1])
section
variable{k:Nat}{W:Wd}{O:jU}{σ:St}{ps:List (Nat×Nat)}
noncomputable def P5(p:Nat×Nat):II:=if p.2=0 then .int p.1 else .tuple [.int p.1,.int p.2]
theorem Nk:IT (hU p)=fU (P5 p):=by delta hU P5;split<;>rfl
theorem K9:xU (ps.map hU)=fU (ps.map P5):=by
 induction ps with
 |nil=>rfl
 |cons p r a=>show(IT<|hU p).bind (λx=>(xU<|r.map hU).map (x::·))=_;refine Rr Nk<|Rr a ?_;rfl
theorem Iv:PyData.depthAll (ps.map P5)<=1:=by
 induction ps with
 |nil=>exact bS _
 |cons p r a=>
  have h:PyData.depth (P5 p)<=1:=by
   delta P5;split
   .exact bS _
   .exact ai rfl
  refine Rr az ?_;rw[PyData.depthAll];exact Nat.max_le.2 ⟨h,a⟩
theorem Hc:oe .n (.a [.l<|ps.map hU,iN n]) (.a [.l<|ps.map hU,iN n])=fU Z7:=by
 have h:IT (.a [.l<|ps.map hU,iN n])=fU (.tuple [.list<|ps.map P5,.int n]):=by show((((xU<|ps.map hU).map PyData.list).bind λx=>fU [x,PyData.int n])).map PyData.tuple=_;refine Rr K9 ?_;rfl
 have hd:PyData.depth (.tuple [.list<|ps.map P5,.int n])<=64:=by have:=Iv (ps:=ps);exact c9 (.s .A) (.n 64) (.o .B .i<|.z .A<|.s .B) rfl this (el<|mX<|c9 .A (.s .B) (.z .A<|.n 0) rfl (el<|Nat.max_eq_right<|Wz (.n 0) (.n 0) .e rfl))
 show(DV _ _).map not=_;refine Rr (HC h hd) ?_;rfl
theorem wW(c:a=iL x)(d:b=iL x):oe .n (.l a) (.l b)=fU Z7:=by subst c d;show(PV.beq _ _).map not=_;rewrite[CP];refine Rr (bT rfl) ?_;rfl
theorem DU(p:l.length<=1000):∃F:List Int,zG W 9 [.l<|nL l]=fU (.f<|.e F)/\(F.length=0->l=[])/\(F.length=1->l≠[]/\∀a∈l,∀b∈l,a=b):=by
 have hc:(l.map cV:List Int).length=l.length:=av ..
 refine⟨firstMet (λi=>(l.map cV:List Int).getD i 0) (l.map cV:List Int).length,?_,?_⟩
 .show(iZ<|nL l).bind (λis=>gd (decide (is.length<=1000))<|fU<|LV.f<|.e<|firstMet (λi=>is.getD i 0) is.length)=_;refine Rr u3 ?_;rewrite[fB];exact Rr (we<|bT<|by rw[hc];exact p) rfl
 .have c:∀k:Int,k∈firstMet (λi=>(l.map cV:List Int).getD i 0) (l.map cV:List Int).length↔k∈(l.map cV:List Int):=λk=>by
   have h:=firstMet_any (λi=>(l.map cV:List Int).getD i 0) (l.map cV:List Int).length k;have d:(ay (l.map cV:List Int).length).map (λi=>(l.map cV:List Int).getD i 0)=l.map cV:=by refine j0 (by rewrite[av];exact Rr bR rfl) λi s d=>?_;rewrite[fZ,io];refine Rr al<|Rr (aI d) ?_;rfl
   rw[d] at h;have e:∀m:List Int,m.any (·==k)=Z8↔k∈m:=λm=>by
    rw[pW];exact⟨λ⟨x,q,e⟩=>fN e▸q,λh=>⟨k,h,BEq.rfl⟩⟩
   rw[<-e,<-e,h]
  revert c
  generalize firstMet (λi=>(l.map cV:List Int).getD i 0) (l.map cV:List Int).length=F;intro c;refine⟨λh=>?_,λh=>?_⟩
  .cases l with
   |nil=>rfl
   |cons a r=>rw[List.length_eq_zero_iff.1 h] at c;exact bq ((c a).2<|.head _) bj
  .refine rX (List.length_eq_one_iff.1 h) λf j=>?_;subst j;have n:∀a∈l,(a:Int)=f:=λa g=>bl.1<|(c a).2<|aE.2 ⟨a,g,rfl⟩;refine⟨λe=>?_,λa g b o=>b7.1<|(n a g).trans (n b o).symm⟩;subst e;exact bq ((c f).1<|.head _) bj
theorem TB(b:LawC 286 L L')(g:LawC n D i)(j:30<=n)(c:o7 p)(a:wv L D p):Ic (Km L') (Km i) L D p:=by
 delta Ic;unfold wv at a;split at a
 .rename_i h;refine Rr (bf h)<|b.2 _ (bw (qb c h)<|by decide) a
 .rename_i h;refine Rr (aK h)<|hV (mi c h) λd e f=>⟨b.2 _ (sx e f).2 a.1,g.2 _ (bG (qq (dQ h) d) j) a.2⟩
end
section
variable{ns:List Int}{ah mn:Nat}{ps:List (Nat×Nat)}{W:Wd}{k:Nat}{L D:List Nat}
theorem Dl:(bs++ap n Z7).length=bs.length+n:=Rr af<|Rr bD rfl
theorem Pk(G:Good ps)(d:∀p∈ps,o7 p)(c:ps.length<=8):lz ps<=30000:=by refine Rl G.7 ?_;have a:=u6 G.5 G.6;have b:=yx d G.1 G.2;unfold gJ;rw[af,af,af,a8,a8];exact dT (.a (.a (.p .i 2) .A) .B) (.n 30000) (.c 64 .C (.n 8)<|.o .A (.n 20000)<|.z .B<|.p (.m 64 .C) 15) rfl c a b
noncomputable abbrev un8:List LV:=[.u,.u,.u,.u,.u,.u,.u,.u]
noncomputable def L2(ns:List Int)(ah mn:Nat)(ps:List<|Nat×Nat)(W:Wd)(bs:List Bool)(a b c d e f:LV):St:=LS ns ah mn ps (wB W<|fQ bs) (.f .o::a::b::c::d::e::f::un8)
theorem CH(h:b.length=n):wy (.l<|bP<|a++(b++c)) (iN a.length) (iN<|a.length+n)=fU (.o<|bP b):=by refine Rr (Nc (eQ ..)<|by rw[Bg,af,af,<-bZ,h];exact eQ ..) ?_;rw[fY];unfold bP;exact Rl ku<|Rl f9<|Rr List.drop_left<|Rl h<|Rr List.take_left rfl
theorem Nq(d:ah<8)(k:ps.length<=8)(l:∀p∈ps,o7 p)(G:Good ps):∃B,B=cM 0 ah++(cM 5 3++(fC (eM ps) (fi ps)++(fO (eM ps) (fi ps) ps++ap (gf (ah+lz ps)+24) Z7)))/\B.length<=31000/\(cM 0 ah++gJ ps 1).length=ah+lz ps/\
  ∀r,gM dn (cK 10) (.c TL<|.c T9<|.c TA<|.c UU r) (o6<|LS ns ah mn ps W QB)=gM dn (cK 10) r (L2 ns ah mn ps W (cM 0 ah++gJ ps 1) (.o<|bP B) .u .u .u .u .u):=by
 have a:400000<=aq:=ai rfl;have h:=Pk G l k;have b:(cM 0 ah++gJ ps 1).length=ah+lz ps:=Rr af<|Rr a8<|Rr G.7 rfl;have j:(cM 0 ah).length=ah:=a8;have hB:cM 0 ah++gJ ps 1++ap (gf (cM 0 ah++gJ ps 1).length+24) Z7=cM 0 ah++(cM 5 3++(fC (eM ps) (fi ps)++(fO (eM ps) (fi ps) ps++ap (gf (ah+lz ps)+24) Z7))):=by refine Rr b ?_;unfold gJ;rw[show cM 1 1++cM 2 2=cM 5 3 from rfl];simp only [au]
 refine⟨_,hB,by have:gf (ah+lz ps)<8:=dR _ (by decide);refine Rr (Dl (n:=gf (cM 0 ah++gJ ps 1).length+24))<|Rr b ?_;exact dT (.a (.a .A .B)<|.p .C 24) (.n 31000) (.o (.s .A) (.n 8)<|.o .B (.n 30000)<|.z (.s .C)<|.n 8) rfl d h this,b,λr=>?_⟩
 obtain⟨tt,g⟩:∃n,lz ps=n:=⟨_,rfl⟩;rw[g] at b h;have o:fr (bQ (cK 10) (.m 117 127 (.v 6) .n)<|L2 ns ah mn ps W (cM 0 ah++gJ ps 1) .u .u .u .u .u .u)=fU (iN<|ah+tt,L2 ns ah mn ps W (cM 0 ah++gJ ps 1) .u .u .u .u .u .u):=by have:=i6 (O:=cK 10) (m:=117) (c:=127) (e:=.v 6) (σ:=L2 ns ah mn ps W (cM 0 ah++gJ ps 1) .u .u .u .u .u .u) (ag rfl) jl (nw rfl) (A5 (by decide) rfl (by refine Rr b ?_;exact dT (.a .A .B) .C (.o (.s .A) (.n 8)<|.o (.n 400000) .C<|.z .B<|.n 30000) rfl d a h)) rfl;rw[b] at this;exact this
 have q:xk ps=.f 432 [.l<|ps.map hU,.l<|nL<|eM ps,.l<|nL<|fi ps,px (eM ps)<|fi ps,iN tt]:=by refine Rl g ?_;rfl
 refine aL (σ1:=L2 ns ah mn ps W (cM 0 ah) .u .u .u .u .u .u) (jC (bs:=[]) (by decide) rfl (bc (i:=0)) (ag rfl) (eO _) (bw d<|by decide) (by refine Rr d0 ?_;exact c9 (.a (.n 0) .A) .B (.o (.s .A) (.n 8)<|.z (.n 400000) .B) rfl d a))<|
  aL (σ1:=L2 ns ah mn ps W (cM 0 ah++gJ ps 1) .u .u .u .u .u .u) (j6<|i6 (ag rfl) (eK (ag rfl)<|bc (i:=1)) rfl (RI (by decide) (by decide) (dL (.s .A) (.n 1000) (.z .A<|.n 8) rfl k) (λp f=>⟨l p f,G.3 p f⟩) G.4 G.1 G.2 G.5 G.6 rfl (by refine Rr j ?_;exact c9 (.p .A 300000) .B (.o (.s .A) (.n 8)<|.z (.n 400000) .B) rfl d a)) rfl)<|
  aL (fg (cw o (aY (ag rfl) (gI (u:=iN tt) (ag rfl)<|by refine Rr q ?_;rfl) dE)<|Ko<|bT rfl) bY)<|
  aL (cY<|bh (bI<|ag rfl)<|Xi (by decide) rfl (by refine Rr b ?_;exact dT (.p (.a .A .B) 100) .C (.o (.s .A) (.n 8)<|.o (.n 400000) .C<|.z .B<|.n 30000) rfl d a h)) rfl
end
section
variable{ns:List Int}{ah mn:Nat}{ps:List (Nat×Nat)}{W:Wd}{k:Nat}{L D:List Nat}{O:jU}
theorem FO(hB:B=cM 0 ah++(w++c))(g:w.length=3)(e:fr (bQ O (.v 7) σ)=fU (.l<|bP B,σ1))(b:σ1.1[2]?=fU (.f<|iN ah))(f:fr (bQ O (.l es) σ1)=fU (.l<|iL x,σ1))(h:bP w=iL x):
  jJ O (.c .n (.n (.v 7) (.v 2)<|.b .a (.v 2)<|.i 3)<|.l es) σ=fU (Z7,σ1):=by
 have d:=CH (a:=cM 0 ah) (c:=c) g;rw[a8,<-hB] at d;exact cw (de (o5 e (ag b) (aY (ag b) (bc (i:=3)) dE) d) rfl) f<|wW h rfl
theorem Lj(b:σ.1[5]?=fU (.f<|xk ps))(a:σ.1[2]?=fU (.f<|iN ah))(d:ah+lz ps=n):fr (bQ O (.b .a (.v 2)<|.d (.v 5) 432 4) σ)=fU (iN n,σ):=by have h:=aY (O:=O) (op:=.a) (ag a) (gI (c:=432) (i:=4) (u:=iN<|lz ps) (ag b) rfl) dE;rw[d] at h;exact h
theorem Xv{B:List Bool}(A:ps.length<=8)(u:∀p∈ps,o7 p)(G:Good ps)(o:B=cM 0 ah++(cM 5 3++(fC (eM ps) (fi ps)++(fO (eM ps) (fi ps) ps++ap (gf (ah+lz ps)+24) Z7))))(O:B.length<=31000)(P:(cM 0 ah++gJ ps 1).length=ah+lz ps)
  {bs:List Bool}:∃c,∀r,gM dn (cK 10) (.c Ul<|.c Vd<|.c TY r) (L2 ns ah mn ps W bs (.o<|bP B) .u .u .u .u .u)=
   gM dn (cK 10) r (L2 ns ah mn ps W bs (.f<|.l<|bP B) (.f<|.l<|nL<|hA<|eM ps) (.f<|.l<|nL<|hB<|fi ps) (.f<|iN c) .u .u):=by
 have l:400000<=aq:=ai rfl;have q:B.length<=aq:=c9 .A .B (.o .A (.n 31000)<|.z (.n 400000) .B) rfl O l;have y:B=(cM 0 ah++cM 5 3)++(fC (eM ps) (fi ps)++(fO (eM ps) (fi ps) ps++ap (gf (ah+lz ps)+24) Z7)):=by refine Rr o ?_;rw[au]
 have E:B=(cM 0 ah++cM 5 3++fC (eM ps) (fi ps))++(fO (eM ps) (fi ps) ps++ap (gf (ah+lz ps)+24) Z7):=by refine Rr y ?_;rw[au<|cM 0 ah++cM 5 3]
 have C:ah+3=(cM 0 ah++cM 5 3).length:=Rr af<|Rr a8<|Rr a8 rfl;have Q:ah+3+(fC (eM ps)<|fi ps).length=(cM 0 ah++cM 5 3++fC (eM ps) (fi ps)).length:=by rw[af (bs:=fC _ _),<-C]
 have D:ah+lz ps=ah+3+(fC (eM ps)<|fi ps).length+(fO (eM ps) (fi ps) ps).length:=by rw[<-P];unfold gJ;rw[af,af,af,af,a8,a8,a8];exact aj (dT (.a .A<|.a (.a (.p .i 2) .B) .C) (.a (.a (.p .A 3) .B) .C) .e rfl)<|dT (.a (.a (.p .A 3) .B) .C) (.a .A<|.a (.a (.p .i 2) .B) .C) .e rfl
 obtain⟨z,s⟩:∃n,(fC (eM ps)<|fi ps).length=n:=⟨_,rfl⟩;have f1:=Pr (W:=wB W<|fQ bs) (k:=10) (by decide) q y C G.5 G.8 (G.12.1<|by decide) (λx v=>⟨G.9 x v,G.12.2 _ (G.5.7 x v).1 (G.5.7 x v).2.1⟩) G.10 G.11 G.6;have f2:=Cj (W:=wB W<|fQ bs) (k:=10) (by decide) (G.13.1<|by decide) (G.14.1<|by decide) q (G.13.2 256 (by decide) G.4) E Q (λp m=>⟨u p m,TB G.13 G.14 (by decide) (u p m)<|G.3 p m⟩)<|dL (.s .A) (.n 1000) (.z .A<|.n 8) rfl A;rw[s] at f1 D;rw[s,<-D] at f2;refine p8 G.16 λg g1 L g3 M N=>?_;have I:=Ih (W:=wB W<|fQ bs) (k:=10) (by decide) u<|dL (.s .A) (.n 900) (.z .A<|.n 8) rfl A;have J:=Tg (W:=wB W<|fQ bs) (k:=10) (b:=xk ps) (by decide) rfl (by refine Rr xa ?_;decide) G.15 g1 L g3 M G.17 N;obtain⟨tt,t⟩:∃n,ah+lz ps=n:=⟨_,rfl⟩;rw[t] at f2
 let S:LV->LV->LV->LV->St:=λa b c d=>L2 ns ah mn ps W bs a b c d .u .u
 let f:LV:=.f<|.l<|bP B
 let h:LV:=.f<|.l<|nL<|hA<|eM ps
 let j:LV:=.f<|.l<|nL<|hB<|fi ps
 let e:LV:=.f<|iN<|ah+3+z
 have F:fr (bQ (cK 10) (.c 490<|.c (.v 4) .n)<|S f h j e)=fU (.d<|dc ps,S f h j e):=de (bh (bI<|ag rfl) I) rfl;have H:fr (bQ (cK 10) (.c 495<|.c (.v 5)<|.c (.c 490<|.c (.v 4) .n) .n)<|S f h j e)=fU (.c Z8,S f h j e):=cE<|bh (ps:=[xk ps,.d<|dc ps]) (eK (ag rfl) F) J;refine⟨ah+3+z,λr=>?_⟩;exact aL (σ1:=S f h j e) (kP (σ1:=S f .u .u .u) (cE<|bh (eK (e9 rfl rfl rfl)<|aY (ag rfl) (bc (i:=3)) dE) f1) rfl)<|
  aL (σ1:=S f h j e) (fg (σ1:=S f h j e) (rz<|fq (FO (w:=cM 5 3) (x:=[1,0,1]) o rfl (ag rfl) rfl rfl rfl)<|fq (cw (σ1:=S f h j e) (cE<|bh (nR (ag rfl)<|jM (ag rfl) (ag rfl)<|ag rfl) f2) (cE<|i7 (eK (ag rfl)<|Lj rfl rfl t)<|ai rfl) Hc) iA) bY)<|
  aL (σ1:=S f h j e) (fg (σ1:=S f h j e) (FS<|wr H rfl) bY) rfl
end
section
variable{ns:List Int}{ah mn:Nat}{ps:List (Nat×Nat)}{W:Wd}{k:Nat}{O:jU}{bs:List Bool}{x7 x8 x9 x10:LV}
theorem OV(a:σ.1[11]?=fU (.f<|.e F))(f:σ.1[12]?=fU lv)(g:sL lv=fU (.l<|nL D))(j:(F.length=0->D=[])/\(F.length=1->D=[1])):
  ∃σ',jJ O (.o<|.c (.a<|.c (.c .e (.a 0<|.c (.v 11) .n)<|.i 0)<|.c (.c .n (.v 12)<|.l .n) .n)<|.c (.a<|.c (.c .e (.a 0<|.c (.v 11) .n)<|.i 1)<|.c (.c .n (.v 12)<|.l<|.c (.i 1) .n) .n) .n) σ=fU (Z7,σ')/\(σ'=σ\/σ'=σ.set 12 (.f<|.l<|nL D)):=by
 have t:∀{s:St} {v:Nat} {b:Bool},s.1[11]?=fU (.f<|.e F)->decide (F.length=v)=b->jJ O (.c .e (.a 0<|.c (.v 11) .n)<|.i (v:Nat)) s=fU (b,s):=λh l=>cw (p:=iN F.length) (eL (bI<|ag h) rfl rfl) (bc (i:=_))<|o8<|(decide_eq_decide.2 b7).trans l;have v:fr (bQ O (.v 12) σ)=fU (.l<|nL D,σ.set 12<|.f<|.l<|nL D):=e9 f g rfl;by_cases c:F.length=0
 .have e:=j.1 c;exact⟨_,rz<|fq (kj<|fq (t (v:=0) a<|bT c)<|gi<|cw v (iz jl<|bS _)<|wW (x:=[]) (by refine Rr e ?_;rfl) rfl)<|fq (kj<|gi<|t (v:=1) (Hp (by decide) a)<|Wq λk=>lo1 (.o .i .A<|.z .A<|.n 0) rfl (eg k) (el c)) iA,.inr rfl⟩
 .by_cases d:F.length=1
  .have e:=j.2 d;exact⟨_,rz<|fq (kj<|gi<|t (v:=0) a<|Wq c)<|fq (kj<|fq (t (v:=1) a<|bT d)<|gi<|cw v (iz (bI<|bc (i:=1))<|ai rfl)<|wW (x:=[1]) (by refine Rr e ?_;rfl) rfl) iA,.inr rfl⟩
  .exact⟨_,rz<|fq (kj<|gi<|t (v:=0) a<|Wq c)<|fq (kj<|gi<|t (v:=1) a<|Wq d) iA,.inl rfl⟩
theorem Oe(m:ps.length<=8)(G:Good ps):∃F lv,(lv=.o (nL<|pos<|fi ps)\/lv=.f (.l<|nL<|pos<|fi ps))/\gM dn O (.c Sg<|.c Qy<|.c Sz .n) (L2 ns ah mn ps W bs x7 x8 x9 x10 .u .u)=fU (.n,L2 ns ah mn ps W bs x7 x8 x9 x10 (.f<|.e F) lv):=by
 have c:400000<=aq:=ai rfl;have r:(mA ps).length<=ps.length:=by unfold mA;rw[av];exact gA ..
 refine ia (DU (W:=wB W<|fQ bs) (l:=mA ps)<|c9 .A (.n 1000) (.o .B (.n 8)<|.z .A .B) rfl m r) λF f1 f2 j=>?_
 let S:LV->LV->St:=λa b=>L2 ns ah mn ps W bs x7 x8 x9 x10 a b
 have n:bQ O (.o (.s (.v 18)<|.i 1) [18] (.v 4)<|.c (.e<|.a 8<|.c (.v 18) .n) .n) (S .u .u)=fU (.o<|nL<|mA ps,S .u .u):=by
  have h:=mj (O:=O) (σ:=S .u .u) (i:=18) (f:=hU) (l:=ps) (g:=λp=>iN p.2) (t:=λp=>decide (p.2≠0)) (elt:=.s (.v 18)<|.i 1) (it:=.v 4) (ifs:=.c (.e<|.a 8<|.c (.v 18) .n) .n) (ag rfl) dy rfl (c9 .A .B (.o .A (.n 8)<|.z (.n 400000) .B) rfl m c)
   (λp d=>ty<|wr (cE<|lN (bI<|ag rfl) vE) rfl) λp d h=>by
    have q:p.2≠0:=dG h;exact cQ (p:=.a [iN p.1,iN p.2]) (ag<|by refine Rl (p7 q) ?_;rfl) (bc (i:=1))<|m6 (k:=1) rfl (ai rfl)
  refine Rr h ?_;unfold mA;exact Rr rd rfl
 have o:bQ O (.o (.v 19) [19] (.d (.v 5) 432 2)<|.c (.c .g (.v 19)<|.i 0) .n) (S (.f<|.e F) .u)=fU (.o<|nL<|pos<|fi ps,S (.f<|.e F) .u):=
  mj (O:=O) (σ:=S (.f<|.e F) .u) (i:=19) (f:=iN) (g:=iN) (t:=λx=>decide (0<x)) (gI (u:=.l<|nL<|fi ps) (ag (p:=xk ps) rfl) rfl) dy rfl (by refine Rr xG ?_;exact dL (.n 30) .A (.z (.n 400000) .A) rfl c)
   (λx d=>ty<|cw (ag rfl) (bc (i:=0))<|pJ<|decide_eq_decide.2 aN) λx d d=>ag rfl
 refine bO (OV (O:=O) (σ:=S (.f<|.e F)<|.o<|nL<|pos<|fi ps) rfl rfl rfl ⟨λh=>G.18.1<|f2 h,λh=>G.18.2 (j h).1 (j h).2⟩) λσ' e3 e4=>?_;have e:gM dn O (.c Sg<|.c Qy<|.c Sz .n) (S .u .u)=fU (.n,σ'):=aL (cY (σ1:=S .u .u)<|lN (bI<|de n rfl) f1)<|aL (cY (σ1:=S (.f<|.e F) .u) o)<|aL (fg e3 bY) bY;rcases e4 with rfl|rfl
 .exact(ff F _ ⟨.inl rfl,e⟩)
 .exact(ff F _ ⟨.inr rfl,e⟩)
theorem Ti(m:ah<8)(d:ps.length<=8)(e:∀p∈ps,o7 p)(G:Good ps):∃bs B a b c F lv,(lv=.o (nL<|pos<|fi ps)\/lv=.f (.l<|nL<|pos<|fi ps))/\
  gM dn (cK 10) yd (o6<|LS ns ah mn ps W QB)=fU (.n,L2 ns ah mn ps W bs (.f<|.l<|bP B) (.f<|.l<|nL a) (.f<|.l<|nL b) (.f<|iN c) (.f<|.e F) lv):=by
 refine tS (Nq (ns:=ns) (mn:=mn) (W:=W) m d e G) λB f g h i=>rX (Xv (ns:=ns) (mn:=mn) (W:=W) (bs:=cM 0 ah++gJ ps 1) d e G f g h) λc j=>mE (Oe (ns:=ns) (mn:=mn) (ah:=ah) (W:=W) (O:=cK 10) (bs:=cM 0 ah++gJ ps 1) (x7:=.f<|.l<|bP B) (x8:=.f<|.l<|nL<|hA<|eM ps) (x9:=.f<|.l<|nL<|hB<|fi ps) (x10:=.f<|iN c) d G) λF lv k l=>(VB _ B _ _ c F lv ⟨k,(i _).trans<|(j _).trans l⟩)
end
noncomputable def Ke(ps:List<|Nat×Nat):List UInt8:=(ps.filter λp=>decide (p.2=0)).map λp=>UInt8.ofNat p.1
section
variable{ns:List Int}{ah mn:Nat}{ps:List (Nat×Nat)}{W:Wd}{k:Nat}{O:jU}{x8 x9 x10 x11 x12:LV}
noncomputable def L3(ns:List Int)(ah mn:Nat)(ps:List<|Nat×Nat)(W:Wd)(bs:List Bool)(x8 x9 x10 x11 x12:LV)(a b c:LV):St:=LS ns ah mn ps (wB W<|fQ bs) (.f .o::a::x8::x9::x10::x11::x12::b::c::[.u,.u,.u,.u,.u,.u])
theorem Ka{l:List Nat}(h:∀x∈l,x<256):qr (l.map cV)=fU (l.map UInt8.ofNat):=by
 induction l with
 |nil=>rfl
 |cons a r c=>show gd (decide ((0:Int)<=a/\(a:Int)<256)) ((qr<|r.map cV).map (UInt8.ofNat (a:Int).toNat::·))=_;refine Rr (c λx b=>h x<|.tail _ b)<|Rr (we<|bT ⟨jo a,aN.2<|h a<|.head _⟩) ?_;rfl
theorem uq{l:List Nat}(h:∀x∈l,x<256):zG W 7 [.l<|nL l]=fU (.f<|.b<|l.map UInt8.ofNat):=by show(iZ<|nL l).bind (λis=>(qr is).map λb=>LV.f<|.b b)=_;refine Rr u3 ?_;rewrite[fB];refine Rr (Ka h) ?_;rfl
theorem OU(m:ps.length<=8)(n:∀p∈ps,o7 p)(k:σ.1[4]?=fU (.f<|.l<|ps.map hU))(a:σ.1[20]?=fU .u):bQ O (.a 7<|.c (.o (.v 20) [20] (.v 4)<|.c (.n<|.e<|.a 8<|.c (.v 20) .n) .n) .n) σ=fU (.f<|.b<|Ke ps,σ):=by
 have h:=mj (O:=O) (σ:=σ) (i:=20) (f:=hU) (l:=ps) (g:=λp=>iN p.1) (t:=λp=>!decide (p.2≠0)) (elt:=.v 20) (it:=.v 4) (ifs:=.c (.n<|.e<|.a 8<|.c (.v 20) .n) .n) (ag k) dy a (by have:1000<=aq:=ai rfl;exact c9 .A .B (.o .A (.n 8)<|.z (.n 1000) .B) rfl m this)
  (λp q=>ty<|FS<|wr (cE<|lN (bI<|ag<|wV a) vE) rfl) λp q h=>by
   have b:p.2=0:=gx λb=>by rw[bT b] at h;exact nomatch h
   exact ag<|by refine Rl (ql b) ?_;exact wV a
 rw[<-rd (f:=λp:Nat×Nat=>p.1)] at h;refine lN (bI<|de h rfl)<|(uq λx o=>?_).trans ?_
 .refine bO (aE.1 o) λp d c=>?_;subst c;obtain⟨j,e⟩:=fJ.1 d;exact qb (n p j)<|gx λb=>by rw[bT b] at e;exact nomatch e
 .unfold Ke;refine Rr bM (Rr (show(λp:Nat×Nat=>!decide (p.2≠0))=λp=>decide (p.2=0) from funext λp=>by rw[decide_not,Bool.not_not]) ?_);rfl
theorem QU(j:ah<8)(q:ps.length<=8)(g:∀p∈ps,o7 p)(cF:LawC 286 jY jY)(cD:LawC 30 nQ<|ap 30 5)(u:(cM 0 1++cM 1 2++fO jY nQ ps).length=ri ps):
  ∃bs B,gM dn (cK 10) xw (o6<|L3 ns ah mn ps W [] x8 x9 x10 x11 x12 x7 .u .u)=fU (.n,L3 ns ah mn ps W bs x8 x9 x10 x11 x12 (.f<|.l<|bP B) (.f<|.l<|nL jY)<|.f<|.b<|Ke ps):=by
 have d:400000<=aq:=ai rfl
 let bs:=cM 0 ah++cM 0 1++cM 1 2++fO jY nQ ps
 have l:bs.length=ah+ri ps:=by rw[<-u];rw[af,af,af,af,af,a8,a8,a8];exact aj (c9 (.a (.p (.s .A) 2) .B) (.a .A<|.a (.p .i 2) .B) .e rfl)<|c9 (.a .A<|.a (.p .i 2) .B) (.a (.p (.s .A) 2) .B) .e rfl
 have hc:ri ps<=600:=by rw[<-u,af,af,a8,a8];have:=yx g xQ.1 xQ.2;exact c9 (.a (.p .i 2) .A) (.n 600) (.c 64 .B (.n 8)<|.z .A<|.p (.m 64 .B) 15) rfl q this
 obtain⟨tt,o⟩:∃n,ri ps=n:=⟨_,rfl⟩;have r:=NH (W:=wB W<|fQ bs) (k:=10) (by decide) g;rw[o] at l hc r
 let c:=ap (gf bs.length+24) Z7
 let B:=bs++c
 have hB:B=cM 0 ah++(cM 2 3++(fO jY nQ ps++c)):=by show cM 0 ah++cM 0 1++cM 1 2++fO jY nQ ps++c=_;rw[show cM 2 3=cM 0 1++cM 1 2 from rfl];simp only [au]
 have s:B=(cM 0 ah++cM 2 3)++(fO jY nQ ps++c):=by rw[hB,au]
 have A:ah+3=(cM 0 ah++cM 2 3).length:=by rw[af,a8,a8]
 have v:B.length<=aq:=by have:gf bs.length<8:=dR _ (by decide);rw[Dl (n:=gf bs.length+24)];exact pI (.a .A<|.p .B 24) .C (.o (.s .D) (.n 8)<|.o (.n 400000) .C<|.o .E (.n 600)<|.o .A (.a .D .E)<|.z (.s .B)<|.n 8) rfl j d hc (el l) this
 have f2:=Cj (W:=wB W<|fQ bs) (k:=10) (by decide) (cF.1<|by decide) (cD.1<|by decide) v (cF.2 256 (by decide)<|by decide+kernel) s A (λp h=>⟨g p h,TB cF cD (by decide) (g p h)<|xX<|g p h⟩)<|dL (.s .A) (.n 1000) (.z .A<|.n 8) rfl q;have C:ah+3+(fO jY nQ ps).length=ah+tt:=by rw[<-o,<-u,af,af,a8,a8];exact aj (c9 (.a (.p .A 3) .B) (.a .A<|.a (.p .i 2) .B) .e rfl)<|c9 (.a .A<|.a (.p .i 2) .B) (.a (.p .A 3) .B) .e rfl
 rw[C] at f2
 let S:List Bool->LV->LV->LV->St:=λbs a b c=>L3 ns ah mn ps W bs x8 x9 x10 x11 x12 a b c
 have y:fr (bQ (cK 10) (.m 117 127 (.v 6) .n)<|S bs x7 .u .u)=fU (iN<|ah+tt,S bs x7 .u .u):=by have:=i6 (O:=cK 10) (m:=117) (c:=127) (e:=.v 6) (σ:=S bs x7 .u .u) (ag rfl) jl (nw rfl) (A5 (by decide) rfl (by rw[l];exact dT (.a .A .B) .C (.o (.s .A) (.n 8)<|.o (.n 400000) .C<|.z .B<|.n 600) rfl j d hc)) rfl;rw[l] at this;exact this
 have z:∀σ,bQ (cK 10) (.b .a (.b .a (.b .a (.b .m (.l<|.c (.i 8) .n)<|.i 144)<|.b .m (.l<|.c (.i 9) .n)<|.i 112)<|.b .m (.l<|.c (.i 7) .n)<|.i 24)<|.b .m (.l<|.c (.i 8) .n)<|.i 8) σ=fU (.o<|nL jY,σ):=λσ=>by kernel_rfl
 have t:∀σ,fr (bQ (cK 10) (.b .m (.l<|.c (.i 5) .n)<|.i 30) σ)=fU (.l<|nL<|ap 30 5,σ):=λσ=>by kernel_rfl
 let f:LV:=.f<|.l<|bP B
 let F:LV:=.f<|.l<|nL jY
 refine(ff bs B (aL (σ1:=S (cM 0 ah) x7 .u .u) (jC (bs:=[]) (by decide) rfl (bc (i:=0)) (ag rfl) (eO _) (bw j<|by decide) (by rw[d0];exact c9 (.a (.n 0) .A) .B (.o (.s .A) (.n 8)<|.z (.n 400000) .B) rfl j d))<|
  aL (σ1:=S bs x7 .u .u) (j6<|cE<|sk (jM (ag rfl) (ag rfl)<|bc (i:=0))<|So (by decide) (by decide) g (dL (.s .A) (.n 1000) (.z .A<|.n 8) rfl q) rfl (by rw[a8];exact c9 (.p .A 200010) .B (.o (.s .A) (.n 8)<|.z (.n 400000) .B) rfl j d))<|
  aL (σ1:=S bs x7 .u .u) (fg (σ1:=S bs x7 .u .u) (cw y (aY (ag rfl) (cE<|bh (bI<|ag rfl) r) dE)<|Ko<|bT rfl) bY)<|
  aL (σ1:=S bs (.o<|bP B) .u .u) (cY (σ1:=S bs x7 .u .u)<|bh (bI<|ag rfl)<|Xi (by decide) rfl (by rw[l];exact dT (.p (.a .A .B) 100) .C (.o (.s .A) (.n 8)<|.o (.n 400000) .C<|.z .B<|.n 600) rfl j d hc))<|
  aL (σ1:=S bs (.o<|bP B) (.o<|nL jY) .u) (cY (σ1:=S bs (.o<|bP B) .u .u)<|z _)<|
  aL (σ1:=S bs f F .u) (fg (σ1:=S bs f F .u) (rz<|fq (σ1:=S bs f (.o<|nL jY) .u) (FO (w:=cM 2 3) (x:=[0,1,0]) hB rfl (e9 rfl rfl rfl) rfl rfl rfl)<|fq (cw (σ1:=S bs f F .u) (cE<|bh (nR (σ1:=S bs f (.o<|nL jY) .u) (ag rfl)<|jM (aY (ag rfl) (bc (i:=3)) dE) (e9 (σ:=S bs f (.o<|nL jY) .u) (σ1:=S bs f F .u) rfl rfl rfl)<|t _) f2) (cE<|i7 (eK (ag rfl)<|aY (ag rfl) (cE<|bh (bI<|ag rfl) r) dE)<|ai rfl) Hc) iA) bY)<|
  aL (cY (σ1:=S bs f F .u)<|OU q g rfl rfl) bY))
end
theorem CY:∀{c:Nat},cM 0 c=ap c Z7:=by
 intro c;induction c with
 |zero=>exact rfl
 |succ c a=>exact bx (Z7::·)<|a
theorem Gf:∀{v a b:Nat},cM v (a+b)=cM v a++cM (v/2^a) b
 |v,0,b=>by rw[bA,lF,oW];rfl
 |v,a+1,b=>by
  rw[eE];show(v%2==1)::cM (v/2) (a+b)=(v%2==1)::(cM (v/2) a++cM (v/2^(a+1)) b);refine Rr Gf ?_;rewrite[jq];exact Rl i3 rfl
theorem u5:∀{v c:Nat},cM (v%2^c) c=cM v c
 |v,0=>rfl
 |v,c+1=>by
  have a:v%2^(c+1)%2=v%2:=Nat.mod_mod_of_dvd _ ⟨2^c,i3⟩;have b:v%2^(c+1)/2=v/2%2^c:=by refine Rr i3 ?_;rw[Nat.mod_mul_right_div_self]
  show(v%2^(c+1)%2==1)::cM (v%2^(c+1)/2) c=_;refine Rr a<|Rr b<|Rr u5 ?_;rfl
theorem oL:dm [UInt8.ofNat v]=cM v 8:=by show cM (UInt8.ofNat v).toNat 8++[]=_;rw[bn];exact u5 (c:=8)
theorem oK:dm (a++b)=dm a++dm b:=m9
theorem N1(h:c.length=8*q):(IS<|c++dm l).drop q=l:=by
 have a:c.length/8=q:=aj (Ch 8 .A .B (.o .C (.m 8 .B)<|.z (.m 8 .A) .C) rfl (el h) (aQ _ _))<|Ch 8 .A .B (.o (.m 8 .A) .C<|.z (.s .C)<|.p (.m 8 .B) 8) rfl (eg h) (wL rfl);have b:=Cf (c:=c) (l:=l) (by refine Rr a ?_;exact h);have d:((c++dm l).length+7)/8=(c++dm l).length/8:=by refine Rr af<|Rr mF<|Rr h ?_;rewrite[<-jN,Nat.mul_add_div<|by decide];refine Rr (Nat.mul_div_cancel_left _<|by decide) ?_;rfl
 unfold IS;exact Rr d<|Rr b<|Rr a<|Rr (List.drop_left' cO) rfl
noncomputable def CG(n:Nat):List Nat:=[n%256,n/256,255-n%256,255-n/256]
theorem Hz(h:n<65536):cM n 16++cM (65535-n) 16=dm ((CG n).map UInt8.ofNat):=by
 have e:∀v,cM v 16=cM v 8++cM (v/256) 8:=λv=>Gf (a:=8) (b:=8);have d:cM (65535-n) 8=cM (255-n%256) 8:=by refine Rl (u5 (v:=65535-n) (c:=8))<|Rl (u5 (v:=255-n%256) (c:=8)) ?_;have q:=c7 (Nat.div_lt_of_lt_mul<|show n<256*256 from h);have key:65535-n=(255-n%256)+256*(255-n/256):=Nat.sub_eq_of_eq_add (aj (pI (.n 65535) (.a (.a .A<|.m 256 .B) .C) (.o (.n 255) (.a .A .D)<|.c 256 (.n 255) (.a .B .E)<|.z (.a (.m 256 .E) .D) .C) rfl (eg<|ac<|c7<|dR n (by decide:0<256)) (eg<|ac q) (el<|dh n 256))<|pI (.a (.a .A<|.m 256 .B) .C) (.n 65535) (.o (.a .A .D) (.n 255)<|.c 256 (.a .B .E) (.n 255)<|.z .C<|.a (.m 256 .E) .D) rfl (el<|ac<|c7<|dR n (by decide:0<256)) (el<|ac q) (eg<|dh n 256));refine bx (cM · 8) ?_;show(65535-n)%256=(255-n%256)%256;rw[key,gw]
 rewrite[e];refine Rr (e<|65535-n) (Rr d<|Rr (show(65535-n)/256=255-n/256 by exact aj (Sd 256 .A .B (.o (.m 256 .A) .C<|.c 256 (.n 255) (.a .B .D)<|.o (.m 256 .D) .E<|.z (.a .C .E)<|.n 65535) rfl (aQ _ _) (ck _ _) (aQ _ _) (el<|ac<|dL .A (.n 65535) (.z (.s .A)<|.n 65536) rfl h))<|Sd 256 .A .B (.o (.s .C) (.p (.m 256 .B) 256)<|.o (.s .D) (.p (.m 256 .E) 256)<|.o (.n 65535) (.a .C .D)<|.c 256 (.a .A .E) (.n 255) .e) rfl (wL rfl) (wL rfl) (ck _ _) (el<|ac<|H1 256 .A (.n 255) (.o (.s .B) (.n 65536)<|.z (.m 256 .A) .B) rfl h (aQ _ _)))<|Rl (u5 (v:=n) (c:=8)) ?_);refine Rl oL<|Rl oL<|Rl oL<|Rl oL<|Rl oK<|Rl oK<|Rl oK ?_;rfl
theorem HL(h:l.length<65536):stored (cM 0 ah) l 1=cM 0 ah++((Z8::ap (2+gf (ah+3)) Z7)++dm ((CG l.length).map UInt8.ofNat++l)):=by
 have a:(cM 0 ah++cM 1 1++cM 0 2).length=ah+3:=Rr af<|Rr af<|Rr a8<|Rr a8<|Rr a8 rfl;unfold stored;show(cM 0 ah++cM 1 1++cM 0 2++cM 0 (gf (cM 0 ah++cM 1 1++cM 0 2).length)++cM l.length 16++cM (65535-l.length) 16)++cM 0 (gf (cM 0 ah++cM 1 1++cM 0 2++cM 0 (gf (cM 0 ah++cM 1 1++cM 0 2).length)++cM l.length 16++cM (65535-l.length) 16).length)++dm l=_;rewrite[au (_++cM 0 (gf _))<|cM l.length 16];refine Rr (Hz h) ?_;have b:gf (cM 0 ah++cM 1 1++cM 0 2++cM 0 (gf (cM 0 ah++cM 1 1++cM 0 2).length)++dm ((CG l.length).map UInt8.ofNat)).length=0:=by refine Rr af<|Rr af<|Rr a<|Rr a8<|Rr mF ?_;rw[av];show(8-(ah+3+gf (ah+3)+8*4)%8)%8=0;rw[gw,CN]
 refine Rr b (Rr a<|Rr oK<|Rr (show cM 1 1=[Z8] from rfl)<|Rr (CY (c:=2))<|Rr (CY (c:=gf _))<|Rr (show cM 0 0=[] from rfl) ?_);rewrite[bn];refine Rl dW ?_;simp only [au,eR,eN]
section
variable{ns:List Int}{ah mn:Nat}{ps:List (Nat×Nat)}{W:Wd}{k:Nat}{O:jU}{x7 x8 x9 x10 x11 x12 x13:LV}
noncomputable def L4(ns:List Int)(ah mn:Nat)(ps:List<|Nat×Nat)(W:Wd)(bs:List Bool)(x7 x8 x9 x10 x11 x12 x13:LV)(l:List UInt8)(b c:LV):St:=LS ns ah mn ps (wB W<|fQ bs) (.f .o::x7::x8::x9::x10::x11::x12::x13::.f (.b l)::b::c::[.u,.u,.u,.u])
theorem Ia(h:i<=l.length):wy (.b l) (iN i) .none=fU (.f<|.b<|l.drop i):=by show fU (LV.f<|.b<|(l.drop<|jG l.length (i:Int)).take<|l.length-jG l.length (i:Int))=_;exact Rr xg<|Rr (cu h)<|Rr (cv<|bC b9) rfl
theorem Ak(m:Nat):iN 1::ap m (iN 0)=iL (1::ap m 0):=bx (iN 1::·) (im (f:=PV.i)).symm
theorem Sq(u:ah<8)(g:l.length<=8):∃σ,gM dn (cK 10) xc (o6<|L4 ns ah mn ps W [] x7 x8 x9 x10 x11 x12 x13 l .u .u)=fU (.r<|.f<|.c Z8,σ):=by
 have d:400000<=aq:=ai rfl;obtain⟨n,p⟩:∃n,l.length=n:=⟨_,rfl⟩;have s:=HL (ah:=ah) (l:=l)<|dL (.s .A) (.n 65536) (.z .A<|.n 8) rfl g;obtain⟨bs,w⟩:∃bs,stored (cM 0 ah) l 1=bs:=⟨_,rfl⟩;have j:gf (ah+3)<8:=dR _ (by decide);obtain⟨q,J,o⟩:∃q,(ah+10)/8=q/\8*q=ah+(3+gf (ah+3)):=⟨_,rfl,by
  have A:=dh (ah+10) 8;have e:(ah+10)%8=7-gf (ah+3):=by
   have:∀r,r<8->(r+7)%8=7-(8-r)%8:=by decide
   unfold gf;rw[show ah+10=ah+3+7 from rfl,Nat.add_mod];exact this _<|dR _<|by decide
  rw[e] at A;exact aj (gy (.m 8 .A) (.a .B<|.a (.n 3) .C) (.o (.a (.m 8 .A) .D) (.p .B 10)<|.z (.n 7)<|.a .D .C) rfl (el A) (eg<|ac<|c7 j))<|gy (.a .B<|.a (.n 3) .C) (.m 8 .A) (.o (.p .B 10) (.a (.m 8 .A) .D)<|.z (.a .D .C)<|.n 7) rfl (eg A) (el<|ac<|c7 j)⟩
 rw[w,p] at s;have f:bs.length=ah+(3+gf (ah+3)+32+8*n):=by refine Rr s<|Rr af<|Rr af<|Rr a8<|Rr mF<|Rr af<|Rr aV<|Rr bD ?_;rewrite[av];refine Rr p<|aj (dT (.a .A<|.a (.s<|.a (.n 2) .B)<|.m 8<|.a (.n 4) .C) (.a .A<|.a (.p (.a (.n 3) .B) 32)<|.m 8 .C) .e rfl)<|dT (.a .A<|.a (.p (.a (.n 3) .B) 32)<|.m 8 .C) (.a .A<|.a (.s<|.a (.n 2) .B)<|.m 8<|.a (.n 4) .C) .e rfl
 have y:(IS bs).drop q=(CG n).map UInt8.ofNat++l:=by have h:=N1 (c:=cM 0 ah++(Z8::ap (2+gf (ah+3)) Z7)) (l:=(CG n).map UInt8.ofNat++l) (q:=q) (by refine Rr af<|Rr a8<|Rr aV<|Rr bD ?_;exact aj (dT (.a .A<|.s<|.a (.n 2) .B) (.m 8 .C) (.z (.a .A<|.a (.n 3) .B)<|.m 8 .C) rfl (eg o))<|dT (.m 8 .A) (.a .B<|.s<|.a (.n 2) .C) (.z (.m 8 .A)<|.a .B<|.a (.n 3) .C) rfl (el o));rwa [au,<-s] at h
 have B:q<=(IS bs).length:=by unfold IS;refine Rr cO ?_;exact Xb 8 .A .B (.o (.m 8 .A) (.a .C<|.a (.n 3) .D)<|.o (.a .C<|.a (.p (.a (.n 3) .D) 32)<|.m 8 .E) .F<|.z (.s<|.p .F 7)<|.p (.m 8 .B) 8) rfl (el o) (eg f) (wL rfl)
 have f1:=Le (k:=10) (W:=wB W<|fQ<|cM 0 ah) (l:=l) (last:=1) (by decide) (by decide) (dL (.s .A) (.n 1000) (.z .A<|.n 8) rfl g) rfl (by refine Rr a8 ?_;exact c9 (.p .A 20000) .B (.o (.s .A) (.n 8)<|.z (.n 400000) .B) rfl u d);rw[w] at f1;have f2:=Xi (k:=10) (W:=wB W<|fQ bs) (by decide) rfl (by refine Rr f ?_;exact pI (.p (.a .A<|.a (.p (.a (.n 3) .B) 32)<|.m 8 .C) 100) .D (.o (.s .A) (.n 8)<|.c 8 .E (.n 8)<|.o (.n 400000) .D<|.c 8 .C .E<|.z (.s .B)<|.n 8) rfl u g d (eg p) j);have H:wy (.l<|bP<|bs++ap (gf bs.length+24) Z7) (iN ah) (iN<|8*q)=fU (.o (iN 1::ap (2+gf (ah+3)) (iN 0))):=by have h:=CH (a:=cM 0 ah) (b:=Z8::ap (2+gf (ah+3)) Z7) (c:=dm ((CG n).map UInt8.ofNat++l)++ap (gf bs.length+24) Z7) (n:=3+gf (ah+3)) (by refine Rr aV<|Rr bD ?_;exact aj (dL (.s<|.a (.n 2) .A) (.a (.n 3) .A) .e rfl)<|dL (.a (.n 3) .A) (.s<|.a (.n 2) .A) .e rfl);rw[<-au _<|dm _,<-au,<-s,a8,<-o] at h;refine Rr h<|bx (λl=>fU<|LV.o (iN 1::l)) BW
 let S:List Bool->LV->LV->St:=λbs b c=>L4 ns ah mn ps W bs x7 x8 x9 x10 x11 x12 x13 l b c
 let Q:LV:=.f<|iN q
 let Z:LV:=.o<|nL [n%256,n/256]
 let z:LV:=.f<|.l<|nL [n%256,n/256]
 have t:∀{b c},fr (bQ (cK 10) (.a 0<|.c (.v 14) .n)<|S bs b c)=fU (iN n,S bs b c):=λ{b c}=>eL (lv:=.f<|iN n) (bI<|ag rfl) (by show fU (LV.f<|iN l.length)=_;exact Rr p rfl) rfl;have E:ph dn (cK 10) UJ (S bs .u .u)=fU (.n,S bs Q .u):=cY (du (aY (ag rfl) (bc (i:=10)) dE) (bc (i:=8))<|(zz (by decide)<|by decide).trans<|Rr J rfl);have F:ph dn (cK 10) T4 (S bs Q .u)=fU (.n,S bs Q Z):=cY (LI (eK (aY t (bc (i:=256))<|P6<|by decide)<|aY t (bc (i:=256))<|zz (by decide)<|by decide)<|ai rfl);have I:fr (bQ (cK 10) (.m 117 127 (.v 6) .n)<|S bs Q Z)=fU (iN<|ah+(3+gf (ah+3)+32+8*n),S bs Q Z):=by have:=i6 (O:=cK 10) (m:=117) (c:=127) (e:=.v 6) (σ:=S bs Q Z) (ag rfl) jl (nw rfl) (A5 (by decide) rfl (by refine Rr f ?_;exact pI (.a .A<|.a (.p (.a (.n 3) .B) 32)<|.m 8 .C) .D (.o (.s .A) (.n 8)<|.c 8 .E (.n 8)<|.o (.n 400000) .D<|.c 8 .C .E<|.z (.s .B)<|.n 8) rfl u g d (eg p) j)) rfl;rw[f] at this;exact this
 have M:jJ (cK 10) (.c .n (.m 117 127 (.v 6) .n)<|.b .a (.v 2)<|.c 408<|.c (.v 2)<|.c (.a 0<|.c (.v 14) .n) .n) (S bs Q Z)=fU (Z7,S bs Q Z):=
  cw I (aY (ag rfl) (cE<|bh (eK (ag rfl) t)<|OX<|by decide) dE) (Ko<|bT rfl)
 have C:fr (bQ (cK 10) (.b .m (.i 8)<|.v 15)<|S bs Q Z)=fU (iN<|8*q,S bs Q Z):=aY (bc (i:=8)) (ag rfl) (m4<|by decide);have N:jJ (cK 10) (.c .n (.n (.c 485<|.c (.v 6) .n) (.v 2)<|.b .m (.i 8)<|.v 15)<|.b .a (.l<|.c (.i 1) .n)<|.b .m (.l<|.c (.i 0) .n)<|.b .s (.b .s (.b .m (.i 8)<|.v 15)<|.v 2)<|.i 1) (S bs Q Z)=fU (Z7,S bs Q Z):=
  cw (de (o5 (de (bh (bI<|ag rfl) f2) rfl) (ag rfl) C H) rfl)
   (oM (iz (bI<|bc (i:=1))<|ai rfl) (oM (iz (bI<|bc (i:=0))<|ai rfl) (aY (aY C (ag rfl)<|jf o) (bc (i:=1))<|jf (c:=2+gf (ah+3))<|aj (dL (.a (.n 3) .A) (.a .i<|.a (.n 2) .A) .e rfl)<|dL (.a .i<|.a (.n 2) .A) (.a (.n 3) .A) .e rfl)<|jH<|c9 (.a (.n 2) .A) .B (.o (.n 400000) .B<|.z (.s .A)<|.n 8) rfl d j)<|qh<|by refine Rr bD ?_;exact c9 (.a .i<|.a (.n 2) .A) .B (.o (.n 400000) .B<|.z (.s .A)<|.n 8) rfl d j)
   (wW (x:=1::ap (2+gf (ah+3)) 0) (Ak _)<|Ak _)
 have D:∀{i v:Nat},[n%256,n/256][i]?=fU v->v<256->fr (bQ (cK 10) (.b .s (.i 255)<|.s (.v 16)<|.i i)<|S bs Q z)=fU (iN<|255-v,S bs Q z):=λ{i v} h hv=>aY (bc (i:=255)) (cQ (ag rfl) (bc (i:=i))<|xZ (by refine Rr cG<|Rr h ?_;rfl)<|ai rfl)<|jf (bv<|c7 hv).symm
 have G:bQ (cK 10) (.z .e (.n (.m 124 127 (.v 6) .n) (.v 15) .none)<|.b .a (.a 7<|.c (.b .a (.v 16)<|.l<|.c (.b .s (.i 255)<|.s (.v 16)<|.i 0)<|.c (.b .s (.i 255)<|.s (.v 16)<|.i 1) .n) .n)<|.v 14) (S bs Q Z)=fU (.f<|.c Z8,S bs Q z):=by
  refine EQ (cE<|o5 (i6 (ag rfl) jl (nw rfl) (Pw (by decide) rfl (by refine Rr f ?_;exact pI (.a .A<|.a (.p (.a (.n 3) .B) 32)<|.m 8 .C) .D (.o (.s .A) (.n 8)<|.c 8 .E (.n 8)<|.o (.n 400000) .D<|.c 8 .C .E<|.z (.s .B)<|.n 8) rfl u g d (eg p) j)) rfl) (ag rfl) rfl (Ia B))
   (aY (eL (bI<|oM (e9 (σ:=S bs Q Z) (σ1:=S bs Q z) rfl rfl rfl) (iz (eK (D (i:=0) rfl (dR _<|by decide))<|D (i:=1) rfl (Ch 256 (.s .A) (.n 256) (.o .B (.n 8)<|.o .C .B<|.z (.m 256 .A) .C) rfl g (eg p) (aQ _ _)))<|ai rfl)<|qh<|ai rfl) (uq (l:=CG n) λx L=>?_) rfl) (ag rfl)<|GK<|by rewrite[av];refine Rr p ?_;exact dT (.a (.n 4) .A) .B (.o .C (.n 8)<|.o (.n 400000) .B<|.z .A .C) rfl g d (eg p)) ?_
  .simp only [CG,ax,bj,or_false] at L;omega
  .refine Rr y ?_;exact bx fU BEq.rfl
 exact⟨_,aL (σ1:=S (cM 0 ah) .u .u) (jC (bs:=[]) (by decide) rfl (bc (i:=0)) (ag rfl) (eO _) (bw u<|by decide) (by refine Rr d0 ?_;exact c9 (.a (.n 0) .A) .B (.o (.s .A) (.n 8)<|.z (.n 400000) .B) rfl u d))<|
  aL (σ1:=S bs .u .u) (j6<|cE<|sk (jM (ag rfl) (ag rfl)<|bc (i:=1)) f1)<|aL E<|aL F<|
  aL (fg (rz<|fq M<|fq N iA) bY)<|ee rfl<|fh G⟩
end
theorem xP{ι:Type}{f:ι->PV}{l:List ι}(h:∀i∈l,(f i).nb Z8=Z8):Oa.nb Z8 (l.map f)=Z8:=by
 induction l with
 |nil=>rfl
 |cons a r b=>exact cf.2 ⟨h a<|.head _,b λi hi=>h i<|.tail _ hi⟩
theorem pE{l:List Nat}:(PV.l<|nL l).nb Z8=Z8:=xP λa a=>rfl
theorem PL{l:List Bool}:(PV.l<|bP l).nb Z8=Z8:=xP λa a=>rfl
theorem JM{ps:List<|Nat×Nat}:(PV.l<|ps.map hU).nb Z8=Z8:=xP λp a=>by unfold hU;split<;>rfl
theorem Ug{l:List<|Nat×Nat×Nat}:(PV.l<|rV l).nb Z8=Z8:=xP λa a=>rfl
theorem T2{l:List Int}:(PV.l<|iL l).nb Z8=Z8:=xP λa a=>rfl
theorem k7(c:a=Z8)(d:b=Z8):(a&&b)=Z8:=by refine Rr c<|Rr d ?_;rfl
theorem SY:(xk ps).nb Z8=Z8:=
 k7 JM<|k7 pE<|k7 pE<|k7 (show(px _ _).nb Z8=Z8 from k7 pE<|k7 pE<|k7 Ug<|k7 pE<|k7 pE rfl) rfl
theorem LY(h:l.all (LV.nb Z8)=Z8):Mk<|LS ns ah mn ps W (a::l):=
 show(_&&_)=Z8 from k7 T2<|k7 rfl<|k7 rfl<|k7 rfl<|k7 JM<|k7 SY<|k7 rfl h
theorem Qt(cF:LawC 286 jY jY)(cD:LawC 30 nQ<|ap 30 5)(i:∀ps:List<|Nat×Nat,ps.length<=8->(∀p∈ps,o7 p)->(ord<|fH<|kg ps).length<64/\Good ps/\(cM 0 1++cM 1 2++fO jY nQ ps).length=ri ps)(g:ns.length<=63):I0 ns:=by
 refine kY (Q5 g λps d e=>⟨(i ps d e).1,λx r=>((i ps d e).2.1.5.7 x r).1⟩) λah mn ps W h d e m=>hV (i ps d e) λt G q=>EK (Ti (ns:=ns) (mn:=mn) (W:=W) h d e G) λb2 B a b c F lv j n=>pK (QU (ns:=ns) (mn:=mn) (W:=W) (x8:=.f<|.l<|nL a) (x9:=.f<|.l<|nL b) (x10:=.f<|iN c) (x11:=.f<|.e F) (x12:=lv) (x7:=.f<|.l<|bP B) h d e cF cD q) λs l o=>?_;have f:lv.nb Z8=Z8:=by
  rcases j with rfl|rfl
  .exact pE
  .exact pE
 have k:(Ke ps).length<=8:=by unfold Ke;rw[av];exact ao (gA ..) d
 refine rX (Sq (ns:=ns) (mn:=mn) (ps:=ps) (W:=W) (x7:=.f<|.l<|bP l) (x8:=.f<|.l<|nL a) (x9:=.f<|.l<|nL b) (x10:=.f<|iN c) (x11:=.f<|.e F) (x12:=lv) (x13:=.f<|.l<|nL jY) h k) λσ4 e4=>(B2 _ _ _ σ4 ⟨m,LY rfl,⟨_,rfl⟩,n,LY ?_,⟨_,rfl⟩,o,LY ?_,⟨_,rfl⟩,e4⟩)
 .exact k7 PL<|k7 pE<|k7 pE<|k7 rfl<|k7 rfl<|k7 f rfl
 .exact k7 PL<|k7 pE<|k7 pE<|k7 rfl<|k7 rfl<|k7 f<|k7 pE<|k7 rfl rfl
theorem sum_map_add{α:Type}{f g:α->Nat}{l:List α}:(l.map λx=>f x+g x).sum=(l.map f).sum+(l.map g).sum:=by
 induction l with
 |nil=>rfl
 |cons a r b=>simp-iota only [az,bK,b];exact aj (gy (.a (.a .A .B)<|.a .C .D) (.a (.a .A .C)<|.a .B .D) .e rfl)<|gy (.a (.a .A .B)<|.a .C .D) (.a (.a .A .C)<|.a .B .D) .e rfl
theorem rQ{α:Type}{f:α->Nat}{c:Nat}{l:List α}:(l.map λx=>c*f x).sum=c*(l.map f).sum:=by
 induction l with
 |nil=>rfl
 |cons a r b=>(refine Rr az<|Rr bK<|Rr b<|Rr az<|Rr bK ?_;rw[jN])
theorem Sr{α:Type}{f g:α->Nat}{l:List α}(h:∀x∈l,f x<=g x):(l.map f).sum<=(l.map g).sum:=by
 induction l with
 |nil=>exact ba _
 |cons a r c=>refine Rr az<|Rr bK<|Rr az<|Rr bK ?_;exact il (h a<|.head _)<|c λx b=>h x<|.tail _ b
theorem e7{α:Type}{f g:α->Nat}{l:List α}(h:∀x∈l,f x=g x):(l.map f).sum=(l.map g).sum:=Rr (cx h) rfl
noncomputable def PE(L:List Nat)(l:Nat):Nat:=(L.map λx=>if 0<x/\x<l then 2^(l-x) else 0).sum
theorem Bd{L:List Nat}{i:Nat}:(ro L).getD i 0=if i=0 then 0 else L.count i:=by
 rcases eI i (kh L+1) with h|h
 .exact ik (f:=λl=>if l=0 then 0 else L.count l) h
 .refine Rr al (Rr (ch<|by rw[oH];exact h)<|Rr (aK<|by exact λa=>Ix (.o .A (.n 0)<|.z (.s .B) .A) rfl (el a) h) ?_);exact(eG.2 λb=>by have:=q8 b;exact aM h this).symm
theorem zD{L:List Nat}{l:Nat}:L.count l=(L.map λx=>if x=l then 1 else 0).sum:=by
 induction L with
 |nil=>rfl
 |cons a r b=>
  refine Rr cy<|Rr az<|Rr bK<|Rr b ?_;rw[cR]
  congr 1
  by_cases e:a=l
  .exact Rr (bf e)<|Rr (bf<|beq_iff_eq.2 e) rfl
  .exact Rr (aK e)<|Rr (aK λh=>e<|fN h) rfl
theorem Ap{L:List Nat}{l:Nat}:(if l=0 then 0 else L.count l)=(L.map λx=>if 0<x/\x=l then 1 else 0).sum:=by
 split
 .rename_i h;subst h
  induction L with
  |nil=>rfl
  |cons a r d=>exact Rr az<|Rr bK<|Rr (aK<|by exact λc=>aM c.1<|el c.2)<|Rl d rfl
 .refine Rr zD ?_;exact e7 λx e=>by
   by_cases b:x=l
   .exact Rr (bf b)<|Rr (bf ⟨by omega,b⟩) rfl
   .exact Rr (aK b)<|Rr (aK λh=>b h.2) rfl
theorem JL{L:List Nat}:∀{l:Nat},fc (ro L) l=PE L l:=by
 intro l;induction l with
 |zero=>
  have:∀L:List Nat,0=PE L 0:=λL=>by
   delta PE
   induction L with
   |nil=>rfl
   |cons a r d=>exact Rr az<|Rr bK<|Rr (aK λh=>cn _ h.2)<|Rl d rfl
  exact this L
 |succ l d=>
  show 2*(fc (ro L) l+(ro L).getD l 0)=PE L (l+1);refine Rr d<|Rr Bd ?_;refine Rr Ap ?_;delta PE;refine Rl sum_map_add<|Rl rQ ?_;refine e7 λx e=>?_;by_cases c:0<x
  .rcases lI x l with h|h|h
   .refine Rr (bf ⟨c,h⟩) (Rr (aK λb=>aM h<|eg b.2)<|Rr (bf ⟨c,by exact c9 (.s .A) (.s .B) (.z (.s .A) .B) rfl h⟩) ?_);rewrite[nD,fw,<-jp];exact Rr (Nat.succ_sub<|be h) rfl
   .subst h;refine Rr (aK λb=>lo1 (.z (.s .A) .A) rfl b.2) (Rr (bf ⟨c,rfl⟩)<|Rr (bf ⟨c,by exact dL (.s .A) (.s .A) .e rfl⟩) ?_);rw[fY]
   .exact Rr (aK λb=>Ix (.o (.s .A) .B<|.z (.s .B) .A) rfl b.2 h)<|Rr (aK λb=>aM h<|el b.2)<|Rr (aK λb=>aM b.2 h) rfl
  .exact Rr (aK λb=>aM b.1<|aJ c)<|Rr (aK λb=>aM b.1<|aJ c)<|Rr (aK λb=>aM b.1<|aJ c) rfl
theorem I5{L:List Nat}{s:Nat}(h:0<L.getD s 0):i4 L s=PE L (L.getD s 0)+(L.take s).count (L.getD s 0):=by delta i4;exact Rr (bf h)<|Rr JL rfl
noncomputable def kr(M:Nat)(L:List Nat):Nat:=(L.map λx=>if 0<x then 2^(M-x) else 0).sum
theorem Ir{L:List Nat}:∀(m:Nat),m<=kh L->room (((ro L).drop 1).take m) 1=((2^m:Nat):Int)-((fc (ro L) m+(ro L).getD m 0:Nat):Int):=by
 intro m;induction m with
 |zero=>intro _;refine Rr Bd ?_;rfl
 |succ m c=>
  intro h;have b:m<((ro L).drop 1).length:=by refine Rr b9<|Rr oH ?_;exact dT (.s .A) .B (.o (.s .A) .C<|.z (.s .C)<|.s .B) rfl h (ck _ _)
  have a:((ro L).drop 1)[m]=(ro L).getD (m+1) 0:=by refine Rr List.getElem_drop (Rr al<|Rr (aI<|by rw[oH];exact c9 (.s<|.s .A) (.s .B) (.z (.s .A) .B) rfl h) ?_);simp-iota only [cR 1 m,Option.getD_some]
  refine Rr (gm b)<|Rr a ?_;delta room;refine Rr iV ?_;show 2*room (((ro L).drop 1).take m) 1-(((ro L).getD (m+1) 0:Nat):Int)=_;refine Rr (c<|lG h) ?_;show _=_-((2*(fc (ro L) m+(ro L).getD m 0)+(ro L).getD (m+1) 0:Nat):Int);rw[jp];omega
theorem GL{L:List Nat}(h:kr (kh L) L<=2^kh L):0<=room ((ro L).drop 1) 1:=by
 have e:=Ir (L:=L) (kh L)<|ba _;rw[cv<|by refine Rr b9<|Rr oH ?_;exact c9 .A .B (.z (.s .A)<|.s .B) rfl (el<|ac<|dL .i (.s .A) .e rfl)] at e;refine Rr e ?_;have:fc (ro L) (kh L)+(ro L).getD (kh L) 0=kr (kh L) L:=by
  refine Rr JL<|Rr Bd<|Rr Ap ?_;delta PE kr;refine Rl sum_map_add<|e7 λx d=>?_;have c:=q8 d;by_cases b:0<x
  .refine Rr (bf b) ?_;rcases kQ c with h|h
   .refine Rr (bf ⟨b,h⟩)<|Rr (aK λa=>aM h<|eg a.2) ?_;rw[nD]
   .refine Rr (aK λa=>aM a.2<|eg h)<|Rr (bf ⟨b,h⟩)<|Rr h ?_;rw[fA]
  .exact Rr (aK b)<|Rr (aK λa=>aM a.1<|aJ b)<|Rr (aK λa=>aM a.1<|aJ b) rfl
 omega
theorem Ci(h:kh L<=M):kr M L=2^(M-kh L)*kr (kh L) L:=by
 delta kr;refine Rl rQ<|e7 λx a=>?_;have:=q8 a;split
 .rw[<-oY];congr 1;exact aj (vd .A (.a .B .C) (.o .D (.a .B .E)<|.o .E (.a .C .F)<|.z (.a .A .F) .D) rfl (ck _ _) (ck _ _) (el<|ac<|ao this h))<|vd (.a .A .B) .C (.o .D (.a .C .E)<|.o (.a .A .F) .D<|.z (.a .B .E) .F) rfl (ck _ _) (el<|ac<|h) (el<|ac<|this)
 .rfl
theorem L8(h:kh L<=M)(a:kr M L<=2^M):kr (kh L) L<=2^kh L:=by rw[Ci h,show 2^M=2^(M-kh L)*2^kh L by rw[<-oY];congr 1;exact aj ((ck _ _))<|(el<|ac<|h)] at a;exact Nat.le_of_mul_le_mul_left a<|eO _
noncomputable def yt(P:List<|Nat×Nat)(l:Nat):Nat:=(P.map λe=>2^(l-e.1)).sum
theorem sH(h:∀e∈P,e.1<=b)(a:b<=l):yt P l=yt P b*2^(l-b):=by delta yt;rewrite[fw];refine Rl rQ ?_;refine e7 λx c=>?_;have:=h x c;rw[<-oY];congr 1;exact aj (vd .A (.a .B .C) (.o .D (.a .B .E)<|.o .E (.a .C .F)<|.z (.a .A .F) .D) rfl (ck _ _) (ck _ _) (el<|ac<|ao this a))<|vd (.a .A .B) .C (.o .D (.a .C .E)<|.o (.a .A .F) .D<|.z (.a .B .E) .F) rfl (ck _ _) (el<|ac<|a) (el<|ac<|this)
theorem Mz:∀{R:List<|Nat×Nat},ml R->(∀e∈R,b<=e.1)->Tu b R
 |[]=>λd d=>trivial
 |e::R=>λh a=>⟨a e<|.head _,Mz (eS.of_cons h) λx c=>by
  have:=dK h c;rw[nJ] at this;exact(aJ<|(not_or.1 this).1)⟩
theorem FL:Tu 0<|ord L:=Mz ng λa a=>bS _
theorem UF(j:ml E)(i:E.Nodup)(h:E=P++e::R):E.filter (λx=>ltN x e)=P:=by
 subst h;refine hV (gQ.1 j) λl c g=>hV (gU.1 i) λl n2 k=>?_;rw[List.filter_append,kc.2 λx a=>?_,jw.2 λx a=>?_,bn]
 .rcases ax.1 a with rfl|a
  .rewrite[pV];refine Rr (propext nJ) ?_;exact λd=>d.elim (λb=>lo1 (.z (.s .A) .A) rfl b) λb=>lo1 (.z (.s .A) .A) rfl b.2
  .refine Rr (dK c a) ?_;exact cJ
 .have f:=g x a e<|.head _;have c:x≠e:=k x a e<|.head _;exact(OY c).resolve_right<|by rw[f];exact cJ
theorem sF:(ord L).Nodup:=(jL.nodup_iff).2 tX
theorem ym{f:α->Nat}{a b:List α}(h:a.Perm b):(a.map f).sum=(b.map f).sum:=(h.map f).sum_nat
theorem nY{α:Type}{f:α->Nat}{t:α->Bool}{l:List α}:((l.filter t).map f).sum=(l.map λx=>if t x=Z8 then f x else 0).sum:=by
 induction l with
 |nil=>rfl
 |cons a r b=>
  refine Rr ja<|Rr az<|Rr bK<|Rl b ?_;split
  .exact Rr az<|Rr bK rfl
  .rw[bA]
theorem lO{L:List Nat}{f:Nat->Nat}:((ay L.length).map λs=>f<|L.getD s 0).sum=(L.map f).sum:=by
 congr 1
 refine j0 (by rewrite[av,av];exact Rr bR rfl) λi b a=>?_;rewrite[fZ,fZ,io];refine Rr al (Rr (aI<|by rwa [av] at a) ?_);rfl
theorem Jy{L:List Nat}{s l:Nat}(c:s<=L.length):(L.take s).count l=((ay L.length).map λt=>if L.getD t 0=l/\t<s then 1 else 0).sum:=by
 refine Rr zD (Rl lO<|Rr cI<|Rr (cu c) ?_)
 conv=>rhs;rw[<-bv c,sf,aC,kD,bM]
 have e:(((ay<|L.length-s).map<|(λt=>if L.getD t 0=l/\t<s then 1 else 0)∘(s+·)).sum:Nat)=0:=by
  generalize ay (L.length-s)=r
  induction r with
  |nil=>rfl
  |cons a r f=>refine Rr az<|Rr bK<|Rr f ?_;show(if _/\s+a<s then 1 else 0)+0=0;exact Rr (aK λd=>Ix (.z (.s<|.a .A .B) .A) rfl d.2) rfl
 refine Rr e ?_;rw[nD];refine e7 λt b=>?_;have b:t<s:=a9.1 b;refine Rr al<|Rr (List.getElem?_take_of_lt b)<|Rl al ?_;by_cases h:L.getD t 0=l
 .exact Rr (bf h)<|Rr (bf ⟨h,b⟩) rfl
 .exact Rr (aK h)<|Rr (aK λh'=>h h'.1) rfl
theorem nN{P R:List<|Nat×Nat}{e:Nat×Nat}(h:ord L=P++e::R):yt P e.1=i4 L e.2:=by
 refine hV (iu (h▸aw P (.head _):e∈ord L)) λl i j=>Rr (I5<|i▸j)<|Rl i<|Rl (UF ng sF h) ?_;delta yt;refine Rr (ym<|jL.filter _) ?_;delta nT PE;refine Rr List.filter_map<|Rr bM<|Rr List.filter_filter<|Rr nY<|Rr (Jy<|be l)<|Rl (lO (f:=λx=>if 0<x/\x<e.1 then 2^(e.1-x) else 0))<|Rl sum_map_add ?_;refine e7 λs k=>?_;show(if(ltN (L.getD s 0,s) e&&decide (0<L.getD s 0))=Z8 then 2^(e.1-L.getD s 0) else 0)=_;generalize L.getD s 0=x;refine(ite_congr (c:=(x<e.1\/x=e.1/\s<e.2)/\0<x) (by rewrite[gD];exact Rr (propext sG)<|Rr (propext decide_eq_true_iff) rfl) (λk=>rfl) λk=>rfl).trans ?_;by_cases d:0<x
 .rcases lI x e.1 with h|h|h
  .refine Rr (bf ⟨.inl h,d⟩)<|Rr (bf ⟨d,h⟩)<|Rr (aK λa=>aM h<|eg a.1) ?_;rw[nD]
  .by_cases g:s<e.2
   .refine Rr (bf ⟨.inr ⟨h,g⟩,d⟩)<|Rr (aK λa=>aM a.2<|eg h)<|Rr (bf ⟨h,g⟩)<|Rr h ?_;rw[fA]
   .exact Rr (aK λa=>a.1.elim (λb=>aM b<|eg h) λb=>aM b.2<|aJ g)<|Rr (aK λa=>aM a.2<|eg h)<|Rr (aK λa=>aM a.2<|aJ g) rfl
  .exact Rr (aK λa=>a.1.elim (λb=>Ix (.o (.s .A) .B<|.z (.s .B) .A) rfl b h) λb=>aM h<|el b.1)<|Rr (aK λa=>Ix (.o (.s .A) .B<|.z (.s .B) .A) rfl a.2 h)<|Rr (aK λa=>aM h<|el a.1) rfl
 .exact Rr (aK λa=>aM a.2<|aJ d)<|Rr (aK λa=>aM a.1<|aJ d)<|Rr (aK λa=>Ix (.o .A .B<|.o (.s<|.n 0) .A<|.z .B<|.n 0) rfl (eg a.1) j (aJ d)) rfl
theorem Nn:∀{R P:List<|Nat×Nat} {b:Nat},ord L=P++R->(∀e∈P,e.1<=b)->Tu b R->Qh R (yt P b) b=R.map λe=>((e.1,i4 L e.2),e.2):=by
 intro R;induction R with
 |nil=>intro _ _;exact λf f f=>rfl
 |cons e R i=>
  intro P b h d c;show((e.1,yt P b*2^(e.1-b)),e.2)::Qh R (yt P b*2^(e.1-b)+1) e.1=_;have g:yt P b*2^(e.1-b)+1=yt (P++[e]) e.1:=by refine Rl (sH d c.1) ?_;delta yt;refine Rr aC<|Rr kD<|Rr az<|Rr dP<|Rr bK<|Rr List.sum_nil ?_;rw[fA];rfl
  rw[g,i (P:=P++[e]) (by rw[h,au];rfl) (λx a=>?_) c.2,<-sH d c.1,nN h];rfl;rcases a7.1 a with a|a
  .exact ao (d x a) c.1
  .rw[bl.1 a];exact ba _
theorem GU:Qh (ord L) 0 0=(ord L).map λe=>((e.1,i4 L e.2),e.2):=Nn (P:=[]) rfl (λa h=>nomatch h) FL
theorem Fp:yt (ord L) M=kr M L:=by delta yt kr;refine Rr (ym (a:=ord L) (b:=nT L) jL) ?_;delta nT;refine Rr bM<|Rr nY<|Rl (lO (f:=λx=>if 0<x then 2^(M-x) else 0)) ?_;exact e7 λs c=>ite_congr decide_eq_true_eq (λc=>rfl) λc=>rfl
theorem uv:yt (P++Q) l=yt P l+yt Q l:=by delta yt;exact Rr aC<|Rr kD rfl
theorem rL:yt (e::Q) l=2^(l-e.1)+yt Q l:=by delta yt;exact Rr az<|Rr bK rfl
section
variable{L:List Nat}{e e':Nat×Nat}{P R Q:List (Nat×Nat)}
theorem Fs(h:ord L=P++e::R):∀x∈P,x.1<=e.1:=λx b=>by
 have a:ml<|ord L:=ng;rw[h] at a;have:=(gQ.1 a).2.2 x b e<|.head _;rw[nJ] at this;exact(aJ<|(not_or.1 this).1)
theorem B0(_:ord L=P++e::R):yt P e.1+1=yt (P++[e]) e.1:=by refine Rr uv<|Rr rL ?_;rw[fA];rfl
theorem WF(h:ord L=(P++e'::Q)++e::R):e'.1<=e.1/\(i4 L e'.2+1)*2^(e.1-e'.1)<=i4 L e.2:=by
 have c:=Fs h e'<|aw P<|.head _;have b:ord L=P++e'::(Q++e::R):=by refine Rr h ?_;rw[au];rfl
 refine⟨c,?_⟩;rw[<-nN h,<-nN b,B0 b,<-sH (λx a=>?_) c,uv,uv,rL,rL]
 .exact dT (.a .A<|.p .B 0) (.a .A<|.a .B .C) .e rfl
 .rcases a7.1 a with a|a
  .exact Fs b x a
  .refine Rr (bl.1 a) ?_;exact ba _
theorem TV(h:e∈ord L)(h':e'∈ord L):e'=e\/(e'.1<=e.1/\(i4 L e'.2+1)*2^(e.1-e'.1)<=i4 L e.2)\/(e.1<=e'.1/\(i4 L e.2+1)*2^(e'.1-e.1)<=i4 L e'.2):=by
 refine pK (ip h) λP R c=>?_;rw[c] at h';rcases a7.1 h' with h'|h'
 .refine pK (ip h') λg i a=>?_;subst a;exact .inr<|.inl<|WF c
 .rcases ax.1 h' with h'|h'
  .exact .inl h'
  .refine pK (ip h') λd f b=>?_;subst b;exact .inr<|.inr<|WF (P:=P) (Q:=d) (R:=f)<|by refine Rr c ?_;rw[au];rfl
theorem Pz(i:kh L<=15)(g:kr 15 L<=2^15)(h:e∈ord L):i4 L e.2+1<=2^e.1:=by
 refine pK (ip h) λP R c=>?_;have f:e.1<=15:=by refine Rr ((iu h).2.1) ?_;exact ao eC i
 have d:yt (P++[e]) 15<=2^15:=by refine ao ?_ g;refine Rl Fp<|Rr c<|Rr uv<|Rr uv<|Rr rL<|Rr rL ?_;exact g6 (g6 (bS _) _) _
 rw[sH (b:=e.1) (λx a=>?_) f,<-B0 c,nN c,show(2:Nat)^15=2^e.1*2^(15-e.1) by rw[<-oY];congr 1;exact aj (c9 (.n 15) (.a .A .B) (.z (.n 15)<|.a .B .A) rfl (ck _ _))<|c9 (.a .A .B) (.n 15) (.z (.a .B .A)<|.n 15) rfl (el<|ac<|f)] at d
 .exact Nat.le_of_mul_le_mul_right d<|eO _
 .rcases a7.1 a with a|a
  .exact Fs c x a
  .refine Rr (bl.1 a) ?_;exact ba _
noncomputable def WI(x:(Nat×Nat)×Nat):(Int×Int)×Int:=(((x.1.1:Int),(x.1.2:Int)),(x.2:Int))
theorem L9{E:List<|(Nat×Nat)×Nat}:∀{d:List<|(Int×Int)×Int},E.Pairwise (λx y=>x.1≠y.1)->(∀x∈E,∀q∈d,q.1≠((x.1.1:Int),(x.1.2:Int)))->E.foldl Cp d=d++E.map WI:=by
 induction E with
 |nil=>exact λ{d} uu uu=>(bn d).symm
 |cons x E i=>
  intro d c hd;have f:Cp d x=d++[WI x]:=by delta Cp uX;rw[aK λh=>?_];rfl;refine bO (pW.1 h) λq a b=>hd x (.head _) q a<|dG b
  rw[cz,f,i (eS.of_cons c) λy e q a=>?_,au];rfl;rcases a7.1 a with a|a
  .exact hd y (.tail _ e) q a
  .refine Rr (bl.1 a) ?_;have g:=dK c e;exact λh=>g<|r7 (b7.1<|bx Prod.fst h)<|b7.1<|bx sg h
noncomputable def SO(L:List Nat)(e:Nat×Nat):(Int×Int)×Int:=(((e.1:Int),(i4 L e.2:Int)),(e.2:Int))
theorem JS(h:e∈ord L)(h':e'∈ord L)(b:e'.1=e.1)(c:i4 L e'.2=i4 L e.2):e'=e:=by
 rcases TV h h' with a|⟨_,a⟩|⟨_,a⟩
 .exact a
 .rw[b,fA,c] at a;omega
 .rw[b,fA,c] at a;omega
theorem I1:Km L=(ord L).map (SO L):=by delta Km;rw[GU,L9 (d:=[]) ?_ λc c c h=>bq h bj,eN,bM];rfl;refine iU.2<|eS.imp_of_mem (λ{a b} ha hb hne h=>?_)<|sF (L:=L);obtain⟨e,f⟩:=nA.inj h;exact hne<|JS hb ha e f
theorem Kz:qe w.reverse=val w:=by
 induction w with
 |nil=>rfl
 |cons b r a=>
  unfold qe at a⊢
  refine Rr lE<|Rr iV<|Rr a ?_;exact cR ..
theorem zE(a:v<2^l):qe ((cM v l).reverse.take j)=v/2^(l-j):=by exact Rr List.take_reverse<|Rr Kz<|Rr Dz<|Rr uH<|Rr (gE a)<|Rr a8 rfl
theorem Q7(t:kh L<=15)(w:kr 15 L<=2^15)(n:0<L.getD s 0):Ii (Km L) (ft L s) s:=by
 have r:s<L.length:=b8 λh'=>by rw[al,ch h'] at n;exact bq n<|cB 0
 have l:(L.getD s 0,s)∈ord L:=jL.mem_iff.2<|aE.2 ⟨s,fJ.2 ⟨a9.2 r,bT n⟩,rfl⟩;have m:=Pz t w l;have o:(ft L s).length=L.getD s 0:=gT;have d:∀{j v:Nat} {q},vU (Km L) j v=fU q->∃e∈ord L,SO L e=q/\e.1=j/\i4 L e.2=v:=λ{j v q} h=>by
  have f:=qO h;have b:=j4 h;rw[I1] at b;refine bO (aE.1 b) λe l i=>?_;subst i;have c:=dG f;exact⟨e,l,rfl,b7.1<|bx Prod.fst c,b7.1<|bx sg c⟩
 refine⟨by refine Rr o ?_;exact n,by refine Rr o ?_;exact ao eC t,λj y p=>?_,?_⟩
 .rw[o] at p;cases h:vU (Km L) j (qe<|(ft L s).take j) with
  |none=>rfl
  |some q=>
   refine tS (d h) λe f z b c=>?_;unfold ft at c;rw[zE m] at c;rcases TV l f with rfl|⟨_,g⟩|⟨g,_⟩
   .exact bq b<|gk p
   .rw[b,c] at g;have u:=Nat.lt_div_mul_add (a:=i4 L s)<|eO<|L.getD s 0-j;rw[rY,jO] at g;exact bq g<|lY.2 u
   .exact bq g<|lY.2<|b▸p
 .refine Rr o ?_;have x:qe (ft L s)=i4 L s:=by
   have h:=zE (j:=L.getD s 0) m;rwa [fA,lF,oW,cv<|by refine Rr gZ<|Rr a8 ?_;exact ba _] at h
  refine Rr x ?_;cases h:vU (Km L) (L.getD s 0) (i4 L s) with
  |none=>have f:=List.find?_eq_none.1 h (SO L (L.getD s 0,s)) (by refine Rr I1 ?_;exact aE.2 ⟨_,l,rfl⟩);exact bq (bT rfl) f
  |some q=>refine tS (d h) λe f k b c=>?_;subst k;have g:=JS l f b c;subst g;exact⟨_,rfl,rfl⟩
theorem Bk(k:L'.length<1000)(f:(nT L').length<64\/nT L'=IB)(d:kh L'<=15)(g:kr 15 L'<=2^15)(l:∀s,s<n->0<L.getD s 0->L'.getD s 0=L.getD s 0/\i4 L' s=i4 L s):LawC n L L' where
 ev:=λc=>KJ c k f FL (ao d<|by decide) λx i=>by
  rw[GU] at i;refine bO (aE.1 i) λe b a=>?_;subst a;refine aW (Pz d g b) (Nat.pow_lt_pow_right (by decide) ?_);refine Rr ((iu b).2.1)<|aW (ao eC d) (by decide)
 dec:=λs f c=>by
  obtain⟨b,j⟩:=l s f c;have h:=Q7 d g<|b▸c;unfold ft at h⊢
  rwa [b,j] at h
end
noncomputable def cT(l:List<|Nat×Bool):Nat:=(l.map (·.2)).count Z8
noncomputable def cF(l:List<|Nat×Bool):Nat:=(l.map (·.2)).count Z7
def DH(l:List Nat):Prop:=l.Pairwise (·<=·)
theorem rH:cT (a++b)=cT a+cT b:=by delta cT;exact Rr aC<|Rr bt rfl
theorem AM:cF (a++b)=cF a+cF b:=by delta cF;exact Rr aC<|Rr bt rfl
theorem VE:cT l+cF l=l.length:=by
 induction l with
 |nil=>rfl
 |cons a r d=>
  have e:cT (a::r)=cT [a]+cT r:=rH (a:=[a]);have f:cF (a::r)=cF [a]+cF r:=AM (a:=[a]);have c:cT [a]+cF [a]=1:=by obtain⟨x,b⟩:=a;cases b<;>rfl
  refine Rr e<|Rr f<|Rr aV ?_;exact aj (pI (.a (.a .A .B)<|.a .C .D) (.s .E) (.o (.a .B .D) .E<|.z (.a .A .C) .i) rfl (el d) (el c))<|pI (.s .A) (.a (.a .B .C)<|.a .D .E) (.o .A (.a .C .E)<|.z .i<|.a .B .D) rfl (eg d) (eg c)
theorem wi{P:List Nat}:cT (P.map BU)=0/\cF (P.map BU)=P.length:=by
 have h:cT (P.map BU)=0:=by delta cT;refine Rr bM<|eG.2 λh=>by refine bO (aE.1 h) λx a h=>?_;exact nomatch h
 have:=VE (l:=P.map BU);rw[av] at this;exact⟨h,by exact aj (dT .A .B (.z (.a .C .A) .B) rfl (el this))<|dT .A .B (.o .C (.n 0)<|.z .A<|.a .C .B) rfl (el h) (eg this)⟩
theorem Fk:mg [] P=P.map BU:=rfl
theorem uG:mg (l::ls) P=(tk l P).map BU++((l,Z8)::mg ls (P.drop (tk l P).length)):=by delta mg;show((tk l P).map BU++(l,Z8)::(yV ls<|P.drop (tk l P).length).1)++_=_;rw[au];rfl
theorem xf{L:List Nat}:∀{P:List Nat},cT (mg L P)=L.length:=by
 induction L with
 |nil=>exact wi.1
 |cons l ls b=>intro P;refine Rr uG (Rr rH<|Rr wi.1<|Rr (show cT ((l,Z8)::mg ls (P.drop (tk l P).length))=1+cT (mg ls<|P.drop (tk l P).length) from rH (a:=[(l,Z8)]))<|Rr b<|Rr aV ?_);exact aj (dL (.a (.n 0)<|.a .i .A) (.s .A) .e rfl)<|dL (.s .A) (.a (.n 0)<|.a .i .A) .e rfl
theorem Qb(h:x∈tk l P):x<l:=by
 unfold tk at h
 induction P with
 |nil=>exact bq h bj
 |cons p P b=>
  by_cases a:p<l
  .rw[gr (p:=λx=>decide (x<l))<|bT a] at h;rcases ax.1 h with rfl|h
   .exact a
   .exact b h
  .rw[gu (p:=λx=>decide (x<l)) λh=>a<|dG h] at h;exact bq h bj
theorem xL(h:a.length<k):(a++x::b).take k=a++x::b.take (k-a.length-1):=by refine Rr List.take_append<|Rr (cv<|be h) ?_;obtain⟨j,c⟩:∃j,k-a.length=j+1:=⟨k-a.length-1,by exact aj ((ck _ _))<|(el<|ac<|dT .i .A (.o (.s .B) .C<|.z .C<|.a .A .B) rfl h (ck _ _))⟩;refine Rr c ?_;rfl
theorem Gl:∀{P:List Nat} {k q i:Nat},DH L->(hi:i<L.length)->q<P.length->L.getD i 0<=P.getD q 0->q<cF ((mg L P).take k)->i<cT ((mg L P).take k):=by
 induction L with
 |nil=>exact λp h=>bq h<|cn _
 |cons l ls o=>
  intro P k q i e hi d c hc;have n:l<=(l::ls).getD i 0:=by
   cases i with
   |zero=>exact ba _
   |succ i=>have hi:i<ls.length:=bX hi;show l<=ls.getD i 0;refine Rr al<|Rr (aI hi) ?_;exact dK e<|ib hi
  have b:¬q<(tk l P).length:=λh=>by
   have j:(tk l P)[q]<l:=Qb<|ib h;have m:P.getD q 0=(tk l P)[q]:=by refine Rr al<|Rr (aI d) ?_;exact(List.IsPrefix.getElem (iw _) h).symm
   exact W1 (.o .A .B<|.o .C .A<|.o (.s .D) .C<|.z .B .D) rfl c n j (el m)
  rw[uG] at hc⊢
  rcases eI ((tk l P).map BU).length k with h|h
  .rw[xL h,AM,wi.2] at hc;refine Rr (xL h)<|Rr rH<|Rr wi.1 ?_;have f:∀r,cT ((l,Z8)::r)=1+cT r:=λr=>rH (a:=[(l,Z8)]);have g:∀r,cF ((l,Z8)::r)=cF r:=λr=>(AM (a:=[(l,Z8)])).trans<|bA _;rw[g] at hc;rw[f];cases i with
   |zero=>exact dL (.s<|.n 0) (.a (.n 0)<|.a .i .A) .e rfl
   |succ i=>
    have hd:(P.drop (tk l P).length).getD (q-(tk l P).length) 0=P.getD q 0:=by
     refine Rr al<|Rr List.getElem?_drop<|Rr al ?_
     congr 2;exact aj (dT (.a .A .B) .C (.z (.a .B .A) .C) rfl (el<|ac<|(aJ b)))<|dT .A (.a .B .C) (.z .A<|.a .C .B) rfl (ck _ _)
    have:=o (P:=P.drop (tk l P).length) (k:=k-((tk l P).map BU).length-1) (q:=q-(tk l P).length) (i:=i) (eS.of_cons e) (bX hi) (by refine Rr b9 ?_;exact pI (.s .A) .B (.o (.s .C) .D<|.o .D (.a .B .E)<|.z (.a .A .E) .C) rfl d (ck _ _) (el<|ac<|(aJ b))) (by refine Rr hd ?_;exact c)<|gy (.s .A) .B (.o (.s .C) (.a .D .B)<|.z (.a .A .D) .C) rfl hc (el<|ac<|(aJ b));exact c9 (.s<|.s .A) (.a (.n 0)<|.a .i .B) (.z (.s .A) .B) rfl this
  .rw[gP h,<-f9,wi.2] at hc;have:=List.length_take_le k<|tk l P;rw[av] at h;rw[cI] at hc;exact Sd 0 (.s .A) .B (.o (.s .C) .D<|.o .E .C<|.z .D .E) rfl hc (aJ b) (gC _ _)
theorem PU:∀{P:List Nat} {k i:Nat},i<cT ((mg L P).take k)->∃r,r<k/\(mg L P)[r]?=fU (L.getD i 0,Z8):=by
 induction L with
 |nil=>intro P k i h;rw[Fk,<-f9,wi.1] at h;exact bq h<|cn _
 |cons l ls d=>
  intro P k i hc;rw[uG] at hc⊢
  rcases eI ((tk l P).map BU).length k with h|h
  .rw[xL h,rH,wi.1,show∀r,cT ((l,Z8)::r)=1+cT r from λr=>rH (a:=[(l,Z8)])] at hc;cases i with
   |zero=>exact⟨_,h,by refine Rr (gq<|ba _) ?_;rw[fA];rfl⟩
   |succ i=>refine bO (d (P:=P.drop (tk l P).length) (k:=k-((tk l P).map BU).length-1) (i:=i)<|c9 (.s .A) .B (.z (.s<|.s .A)<|.a (.n 0)<|.a .i .B) rfl hc) λr b c=>⟨((tk l P).map BU).length+(r+1),by exact pI (.s<|.a .A<|.s .B) .C (.o (.s .B) .D<|.o (.s .D) .E<|.z (.a .E .A) .C) rfl b (el<|ac<|dT .i .A (.o (.s .B) .C<|.z .C<|.a .A .B) rfl h (ck _ _)) (el<|ac<|be h),?_⟩;refine Rr (gq<|eQ ..) ?_;rw[fY];exact c
  .rw[gP h,<-f9,wi.1] at hc;exact bq hc<|cn _
theorem QL:∀{P:List Nat} {x:Nat},x∈(mg L P).map (·.1)->x∈L\/x∈P:=by
 induction L with
 |nil=>intro P x h;rw[Fk,bM] at h;refine bO (aE.1 h) λy c a=>?_;subst a;exact .inr c
 |cons l ls d=>
  intro P x h;rw[uG,aC,az] at h;rcases a7.1 h with h|h
  .rw[bM] at h;refine bO (aE.1 h) λy c b=>?_;subst b;exact .inr<|(iw _).subset c
  .rcases ax.1 h with h|h
   .exact .inl<|h▸.head _
   .rcases d h with h|h
    .exact .inl<|.tail _ h
    .exact .inr<|jR h
theorem Ng(h:DH P):∀x∈P.drop (tk l P).length,l<=x:=by
 induction P with
 |nil=>exact λx a=>bq a<|by refine Rr List.drop_nil ?_;exact bj
 |cons p P c=>
  intro x a;by_cases b:p<l
  .rw[show tk l (p::P)=p::tk l P from gr<|bT b] at a;exact c (eS.of_cons h) x a
  .rw[show tk l (p::P)=[] from gu λh=>b<|dG h] at a;rcases ax.1 a with rfl|a
   .exact aJ b
   .exact ao (aJ b)<|dK h a
theorem JW:∀{P:List Nat},DH L->DH P->DH ((mg L P).map (·.1)):=by
 induction L with
 |nil=>intro P _ h;refine Rr Fk<|Rr bM ?_;exact(List.map_id P).symm▸h
 |cons l ls j=>
  intro P f d;refine Rr uG<|Rr aC<|Rr az<|Rr bM ?_;have a:∀y∈(mg ls<|P.drop (tk l P).length).map (·.1),l<=y:=λy b=>by
   rcases QL b with h|h
   .exact dK f h
   .exact Ng d y h
  refine gQ.2 ⟨?_,dg.2 ⟨a,j (eS.of_cons f)<|d.sublist<|List.drop_sublist ..⟩,λx g y b=>?_⟩
  .exact(List.map_id<|tk l P).symm▸d.sublist (iw _).sublist
  .refine bO (aE.1 g) λz i c=>?_;subst c;have e:z<l:=Qb i;rcases ax.1 b with rfl|b
   .exact be e
   .exact be<|bG e<|a y b
theorem Fi(h:DH w):DH<|yK w:=by
 have d:∀{i j:Nat},i<=j->j<w.length->w.getD i 0<=w.getD j 0:=λ{i j} a b=>by
  refine Rr al<|Rr al<|Rr (aI b)<|Rr (aI<|aW a b) ?_;rcases kQ a with h'|h'
  .exact iE.1 h i j _ b h'
  .subst h';exact ba _
 delta yK DH;refine iE.2 λi j hi b a=>?_;have c:j<w.length/2:=by rwa [cO] at b
 rw[fZ,fZ,io,io];exact il (d (c9 (.m 2 .A) (.m 2 .B) (.c 2 (.s .A) .B .e) rfl a)<|dT (.s<|.m 2 .A) .B (.c 2 (.s .A) .C<|.z (.m 2 .C) .B) rfl c (aQ _ _))<|d (c9 (.s<|.m 2 .A) (.s<|.m 2 .B) (.c 2 (.s .A) .B .e) rfl a)<|dT (.s<|.s<|.m 2 .A) .B (.c 2 (.s .A) .C<|.z (.m 2 .C) .B) rfl c (aQ _ _)
theorem Mo(h:DH L):∀j,DH (pk L j)
 |0=>eS.nil
 |j+1=>Fi<|JW h<|Mo h j
section
variable{W:List Nat}
noncomputable abbrev xr(W:List Nat)(j:Nat):List<|Nat×Bool:=mg W<|pk W j
theorem Ks:cF (xr W j)=(pk W j).length:=by have a:=VE (l:=xr W j);have b:cT (xr W j)=W.length:=xf;have c:(xr W j).length=W.length+(pk W j).length:=uc;exact aj (pI .A .B (.o (.a .C .A) .D<|.o .E .C<|.z .D<|.a .E .B) rfl (el a) (eg b) (el c))<|pI .A .B (.o .C (.a .D .B)<|.o .D .E<|.z (.a .E .A) .C) rfl (eg a) (el b) (eg c)
theorem AW:cF (l.take k)<=cF l:=by have h:=AM (a:=l.take k) (b:=l.drop k);rw[fG] at h;exact dT .A .B (.z (.a .A .C) .B) rfl (eg h)
theorem wK:cT (l.take k)<=cT l:=by have h:=rH (a:=l.take k) (b:=l.drop k);rw[fG] at h;exact dT .A .B (.z (.a .A .C) .B) rfl (eg h)
theorem KC(h:q<(pk W<|j+1).length)(k:r/2=q)(n:(xr W j)[r]?=fU (y,b)):y<=(pk W<|j+1).getD q 0:=by
 have m:(pk W<|j+1).length=((xr W j).map (·.1)).length/2:=n4;have l:(pk W<|j+1).getD q 0=((xr W j).map (·.1)).getD (2*q) 0+((xr W j).map (·.1)).getD (2*q+1) 0:=ik (f:=λi=>((xr W j).map (·.1)).getD (2*i) 0+((xr W j).map (·.1)).getD (2*i+1) 0)<|m▸h;have a:((xr W j).map (·.1)).getD r 0=y:=by refine Rr al<|Rr cG<|Rr n ?_;rfl
 refine Rr l ?_;rcases(gx λg=>((cp<|(not_or.1 g).1)).elim (λc=>MP (.o (.s .A) (.m 2 .B)<|.c 2 .B .C<|.z (.m 2 .C) .A) rfl c (eg k) (aQ _ _)) (λc=>((cp<|(not_or.1 g).2)).elim (λd=>aM d c) λd=>MP (.o (.s<|.s<|.m 2 .A) .B<|.c 2 .C .A<|.z (.s .B)<|.p (.m 2 .C) 2) rfl d (el k) (wL rfl)):r=2*q\/r=2*q+1) with e|e
 .refine Rl e<|Rr a ?_;exact eQ ..
 .refine Rl e<|Rr a ?_;exact kC ..
theorem nest(g:DH W)(d:p<=cF ((xr W<|j+1).take k)):cT ((xr W j).take<|2*p)<=cT ((xr W<|j+1).take k):=by
 refine aJ λh=>?_;have c:cT ((xr W<|j+1).take k)<cT ((xr W j).take<|2*p):=h;obtain⟨r,f,b⟩:=PU c;have e:r/2<p:=Ch 2 (.s .A) .B (.o (.s .C) (.m 2 .B)<|.z (.m 2 .A) .C) rfl f (aQ _ _);have a:r/2<(pk W<|j+1).length:=by have:=AW (l:=xr W<|j+1) (k:=k);rw[Ks] at this;exact gy (.s .A) .B (.o .C .D<|.o (.s .A) .C<|.z .D .B) rfl d e this
 have hi:cT ((xr W<|j+1).take k)<W.length:=by have:=wK (l:=xr W j) (k:=2*p);have b:cT (xr W j)=W.length:=xf;exact gy (.s .A) .B (.o (.s .A) .C<|.o .C .D<|.z .D .B) rfl h this (el b)
 exact cB _<|Gl g hi a (KC a rfl b)<|bG e d
theorem Hb(a:1<=W.length):∀j,(W.length-(pk W j).length-1)*2^j<=W.length-1
 |0=>by show(W.length-0-1)*1<=_;exact gy (.r .A 1) .B (.o .C (.s .B)<|.o .D .C<|.z (.s .A) .D) rfl (ck _ _) (bk _ _) (el<|ac<|c9 .i .A (.o .i .B<|.z .B<|.p .A 0) rfl a (ck _ _))
 |j+1=>by
  have e:=Hb a j;have b:(pk W<|j+1).length=(W.length+(pk W j).length)/2:=by refine Rr n4 ?_;rewrite[av];exact Rr uc rfl
  have f:=Ls (L:=W) (j:=j);refine Rr b ?_;rewrite[jp];refine Rr (fw (2^j) 2) ?_;rw[<-kq];have d:=wL (k:=2) (x:=W.length+(pk W j).length) rfl;refine ao (Nat.mul_le_mul_right _ ?_) e;generalize (W.length+(pk W j).length)/2=x at*
  generalize (pk W j).length=p at*
  rcases eI x W.length with c|c
  .rw[Nat.sub_sub,Nat.sub_sub];exact Nat.le_sub_of_add_le<|gy (.a (.r .A 2)<|.s .B) .C (.c 2 (.a .A<|.s .D) .C<|.z (.s<|.a .C .B)<|.p (.m 2 .D) 2) rfl (el<|ac c) d
  .rw[ix c,Nat.zero_sub,lB];exact bS _
theorem Jx(e:DH W)(a:2<=W.length):∀j,W.length-1<cT ((xr W j).take<|2*W.length-2)
 |0=>by
  have f:(xr W 0).length=W.length:=uc;refine Rr (cv<|dT .A .B (.o (.n 2) .C<|.o .A .C<|.z (.m 2 .C)<|.p .B 2) rfl a (el f) (ck _ _)) (Rr (show cT (xr W 0)=W.length from xf) ?_);exact(el<|ac<|dL .i .A (.z (.n 2) .A) rfl a)
 |j+1=>by
  have v:=Jx e a j;have c:(xr W<|j+1).length=W.length+(pk W<|j+1).length:=uc;have hT:cT (xr W<|j+1)=W.length:=xf;rcases eI (pk W<|j+1).length (W.length-1) with h|h
  .refine Rr (cv<|pI .A .B (.o .A (.a .C .D)<|.o (.s .D) .E<|.o (.m 2 .C) (.p .B 2)<|.z (.s .E) .C) rfl (el c) h (ck _ _) (el<|ac<|dL .i .A (.z (.n 2) .A) rfl a))<|Rr hT ?_;exact(el<|ac<|dL .i .A (.z (.n 2) .A) rfl a)
  .have d:=VE (l:=(xr W<|j+1).take<|2*W.length-2);rw[cI] at d;refine gx λhc=>hc ?_;have k:W.length-2<cF ((xr W<|j+1).take<|2*W.length-2):=WP (.s .A) .B (.o .C (.a .D .B)<|.o .D .E<|.o (.m 2 .F) (.p (.v 6) 2)<|.o (.p .A 2) .F<|.o (.s .E) .F<|.z (.v 6) .C) rfl (eg d) (aJ hc) (ck _ _) (el<|ac<|a) (el<|ac<|dL .i .A (.z (.n 2) .A) rfl a) (eg<|cu<|pI .A .B (.o (.a .C .D) .B<|.o .E .D<|.o .C (.s .E)<|.z (.p .A 2)<|.m 2 .C) rfl (eg c) h (ck _ _) (el<|ac<|dL (.n 2) (.m 2 .A) (.c 2 (.n 2) .A .e) rfl a));have q:((xr W j).map (·.1)).length/2=(pk W<|j+1).length:=n4.symm;rw[av] at q;have m:W.length-2<(pk W<|j+1).length:=gy (.s .A) .B (.o .C .B<|.o .D (.s .C)<|.z (.p .A 2) .D) rfl h (ck _ _) (el<|ac<|a);obtain⟨r,f,s⟩:=PU v;have p:2*(W.length-2)+1<(xr W j).length:=gy (.s<|.s<|.m 2 .A) .B (.c 2 .C .D<|.c 2 (.s .A) .C<|.z (.m 2 .D) .B) rfl (eg q) m (aQ _ _);have o:DH<|(xr W j).map (·.1):=JW e<|Mo e j;have u:W.getD (W.length-1) 0<=((xr W j)[2*(W.length-2)+1]).1:=by
    obtain⟨n,he⟩:=bp.1 s;rcases eI r (2*(W.length-2)+1) with g|g
    .have:=iE.1 o r (2*(W.length-2)+1) (by rw[av];exact n) (by rw[av];exact p) g;rw[fZ,fZ,he] at this;exact this
    .have t:r=2*(W.length-2)+1:=aj (gy .A (.s<|.m 2 .B) (.o (.s .A) .C<|.c 2 .D (.p .B 2)<|.z (.p .C 2)<|.m 2 .D) rfl f (ck _ _) (el<|ac<|dL (.n 2) (.m 2 .A) (.c 2 (.n 2) .A .e) rfl a))<|g;subst t;refine Rr he ?_;exact ba _
   exact Gl e (i:=W.length-1) ((el<|ac<|dL .i .A (.z (.n 2) .A) rfl a)) m (ao u<|KC m (r:=2*(W.length-2)+1) (aj (H1 2 .A .B (.z (.m 2 .A)<|.s<|.m 2 .B) rfl (aQ _ _))<|H1 2 .A .B (.z (.s<|.s<|.m 2 .A)<|.p (.m 2 .B) 2) rfl (wL rfl)) (b:=((xr W j)[2*(W.length-2)+1]).2)<|Rr (aI p) rfl) k
end
theorem RZ{α:Type}{R:α->α->Prop}{l:List α}(h:l.Pairwise R){a b:α}(f:a∈l)(c:b∈l):a=b\/R a b\/R b a:=by
 refine ak λg=>?_;obtain⟨P,Q,rfl⟩:=ip f;obtain⟨_,d,e⟩:=gQ.1 h;refine g ?_;rcases a7.1 c with c|c
 .exact .inr<|.inr<|e b c a<|.head _
 .rcases ax.1 c with c|c
  .exact .inl c.symm
  .exact .inr<|.inl<|dK d c
theorem rj{l:List Nat}{i j v:Nat}(h:i<l.length):(l.set i v).getD j 0=if i=j then v else l.getD j 0:=by
 refine Rr al<|Rr jF ?_;split
 .rfl
 .exact Rr al rfl
noncomputable def Je(E:List<|Nat×Nat)(l:List Nat):List Nat:=E.foldl (λl e=>bump l e.2) l
theorem Ou{E:List<|Nat×Nat}{l:List Nat}:(Je E l).length=l.length:=vn
theorem sD{ι:Type}{f:ι->Nat}{E:List ι}:∀{l:List Nat} {s:Nat},(∀e∈E,f e<l.length)->(E.foldl (λl e=>bump l<|f e) l).getD s 0=l.getD s 0+(E.map f).count s:=by
 induction E with
 |nil=>exact λd=>rfl
 |cons e E c=>
  intro l s h;refine Rr cz (Rr (c λx b=>by rw[mG];exact h x<|.tail _ b)<|Rr az<|Rr cy ?_);delta bump;refine Rr (rj<|h e<|.head _) ?_;by_cases a:f e=s
  .refine Rr (bf a)<|Rr (bf<|beq_iff_eq.2 a)<|Rr a ?_;exact aj (c9 (.a (.s .A) .B) (.a .A<|.s .B) .e rfl)<|c9 (.a .A<|.s .B) (.a (.s .A) .B) .e rfl
  .refine Rr (aK a)<|Rr (aK λh=>a<|fN h) ?_;rfl
theorem FR{E:List<|Nat×Nat}{l:List Nat}{s:Nat}(h:∀e∈E,e.2<l.length):(Je E l).getD s 0=l.getD s 0+(E.map (·.2)).count s:=sD h
structure Inv (W O:List<|Nat×Nat) (N m t:Nat) (x:Nat×List Nat) (A:Nat):Prop where
 len:x.2.length=N
 fit:t<m->x.1<=(xr (W.map (·.1))<|m-1-t).length
 top:∀e∈O.take A,x.2.getD e.2 0=t
 le:∀e∈O,x.2.getD e.2 0<=t
 nst:t<m->cT ((xr (W.map (·.1))<|m-1-t).take x.1)<=A
 sum:x.1*2^(m-t)+2*2^m=2*(O.map λe=>2^(m-x.2.getD e.2 0)).sum
 mono:O.Pairwise λe e'=>x.2.getD e'.2 0<=x.2.getD e.2 0
 pos:0<t->∀e∈O,0<x.2.getD e.2 0
 zero:∀s,(∀e∈O,e.2≠s)->x.2.getD s 0=0
 fin:t=m->x.1=0
section
variable{O:List (Nat×Nat)}{N m:Nat}
theorem Wl(i:2<=O.length)(t:O.length<=2^m)(j:1<=m):Inv O O N m 0 (2*O.length-2,eW N) O.length:=by
 have c:∀s,(eW N).getD s 0=0:=λs=>by
  delta eW;refine Rr al ?_;rcases eI s N with h|h
  .refine Rr (aI<|by rw[bD];exact h) ?_;rw[List.getElem_replicate];rfl
  .refine Rr (ch<|by rw[bD];exact h) ?_;rfl
 have d:(O.map (·.1)).length=O.length:=av ..
 refine⟨e8,λb=>?_,λe b=>c _,λe b=>bC<|c _,λb=>?_,?_,eS.imp_of_mem (λb b b=>by rw[c,c];exact ba _)<|List.pairwise_of_forall (R:=λb b=>True) λb b=>trivial,λh=>bq h<|cB 0,λs b=>c s,λh=>bq h λp=>lo1 (.o .A (.n 0)<|.z .i .A) rfl (eg p) j⟩
 .have n:=Hb (W:=O.map (·.1)) (c9 .i .A (.o (.n 2) .B<|.z .B .A) rfl i (eg d))<|m-1;have o:(xr (O.map (·.1))<|m-1).length=(O.map (·.1)).length+(pk (O.map (·.1))<|m-1).length:=uc;rw[d] at n o;have f:(O.length-(pk (O.map (·.1))<|m-1).length-1)*2^(m-1)<2*2^(m-1):=by
   refine Rl i3 ?_;rewrite[Nat.succ_eq_add_one];refine Rr (ac j) ?_;exact gy (.s .A) .B (.o .C .B<|.o .A .D<|.z (.s .D) .C) rfl t n (el<|ac<|dL .i .A (.z (.n 2) .A) rfl i)
  have:=Nat.lt_of_mul_lt_mul_right f;rw[lH,o];exact Nat.sub_le_of_le_add<|gy (.m 2 .A) (.p (.a .A .B) 2) (.o .A (.a .C .B)<|.o .C (.s .D)<|.z (.s .D)<|.n 2) rfl (ck _ _) (ck _ _) this
 .have h:=wK (l:=xr (O.map (·.1))<|m-1-0) (k:=2*O.length-2);have q:cT (xr (O.map (·.1))<|m-1-0)=(O.map (·.1)).length:=xf;exact gy .A .B (.o .C .B<|.o .A .D<|.z .D .C) rfl (el d) h (el q)
 .refine Rr (show(O.map λe=>2^(m-(eW N).getD e.2 0)).sum=O.length*2^m by
   rw[e7 (g:=λb=>2^m) λe b=>by rw[c,lH]];generalize O=K
   induction K with
   |nil=>rw[d0,lB];rfl
   |cons a r u=>rw[az,bK,u,aV,Nat.succ_mul,cR]) ?_
  rewrite[lH,<-rY];refine Rr (ac<|by exact dL (.n 2) (.m 2 .A) (.c 2 (.n 2) .A .e) rfl i) ?_;rw[kq]
theorem Mj(G:DH<|O.map (·.1))(R:(O.map (·.2)).Nodup)(V:∀e∈O,e.2<N){t A:Nat}{x:Nat×List Nat}(B:t<m)(hA:0<t\/cT ((xr (O.map (·.1))<|m-1-t).take x.1)=O.length)(h:Inv O O N m t x A):
  Inv O O N m (t+1) (MQ O x<|row (O.map (·.1))<|m-1-t) (cT<|(xr (O.map (·.1))<|m-1-t).take x.1):=by
 obtain⟨j,E⟩:∃j,m-1-t=j:=⟨_,rfl⟩;have y:=h.2 B;have r:=h.5 B;rw[E] at y r hA⊢
 obtain⟨a,D⟩:∃a,cT ((xr (O.map (·.1)) j).take x.1)=a:=⟨_,rfl⟩;have P:((row (O.map (·.1)) j).take x.1).count Z8=a:=by refine Rl D ?_;delta cT row;exact Rr f9 rfl
 have Q:MQ O x (row (O.map (·.1)) j)=(2*(x.1-a),Je (O.take a) x.2):=by delta MQ;refine Rr P ?_;rfl
 have n:=VE (l:=(xr (O.map (·.1)) j).take x.1);rw[cI,cu y,D] at n;rw[D] at r hA⊢
 refine Rr Q ?_;have d:O=O.take a++O.drop a:=(fG a O).symm;have z:=R;rw[d,aC] at z;refine hV (gU.1 z) λn1 L n3=>?_;have H:∀e∈O.take a,e.2<x.2.length:=λe b=>by refine Rr h.1 ?_;exact V e<|fk b
 have g1:∀e∈O.take a,(Je (O.take a) x.2).getD e.2 0=x.2.getD e.2 0+1:=λe b=>by
  exact Rr (FR H)<|Rr (List.Nodup.count n1)<|Rr (bf<|aE.2 ⟨e,b,rfl⟩) rfl
 have S:∀s,(∀e∈O.take a,e.2≠s)->(Je (O.take a) x.2).getD s 0=x.2.getD s 0:=λs G=>by
  refine Rr (FR H) (Rr (eG.2 λJ=>by
   refine bO (aE.1 J) λe b h=>G e b h) ?_);rfl
 have g3:∀e∈O.drop a,(Je (O.take a) x.2).getD e.2 0=x.2.getD e.2 0:=λe b=>S _ λe' M h'=>n3 _ (aE.2 ⟨e',M,rfl⟩) _ (aE.2 ⟨e,b,rfl⟩) h';have T:∀e∈O,x.2.getD e.2 0<=(Je (O.take a) x.2).getD e.2 0/\(Je (O.take a) x.2).getD e.2 0<=x.2.getD e.2 0+1:=λe b=>by
  rw[d] at b;rcases a7.1 b with b|b
  .refine Rr (g1 e b) ?_;exact⟨dL .A (.s .A) .e rfl,dL (.s .A) (.s .A) .e rfl⟩
  .refine Rr (g3 e b) ?_;exact⟨dL .A .A .e rfl,dL .A (.s .A) .e rfl⟩
 have u:∀e∈O.take a,x.2.getD e.2 0=t:=λe b=>h.3 e<|by rw[<-cu r,<-List.take_take] at b;exact fk b
 have I:t+1<m->∃i,j=i+1/\m-1-(t+1)=i:=λh=>⟨j-1,by exact aj ((ck _ _))<|(el<|ac<|pI .i .A (.o .B .A<|.o (.s<|.s .C) .D<|.o .E (.a .B .C)<|.z .D<|.s .E) rfl (el E) h (ck _ _) (ck _ _)),by exact aj (vd .A .B (.o .C .D<|.o .D (.s .B)<|.o .E (.a .C .F)<|.z (.a .A<|.s .F) .E) rfl (el E) (ck _ _) (ck _ _) (el<|ac<|dT (.s .A) .B (.o (.s<|.s .A) .C<|.z .C<|.s .B) rfl h (ck _ _)))<|vd .A .B (.o .C .D<|.o .E (.a .B<|.s .F)<|.o (.s .A) .C<|.z (.a .D .F) .E) rfl (eg E) (ck _ _) (el<|ac<|pI .i .A (.o .B .A<|.o (.s<|.s .C) .D<|.o .E (.a .B .C)<|.z .D<|.s .E) rfl (el E) h (ck _ _) (ck _ _)) (el<|ac<|dT .A .B (.z (.a .C<|.s .A) .B) rfl (el<|ac<|dT (.s .A) .B (.o (.s<|.s .A) .C<|.z .C<|.s .B) rfl h (ck _ _)))⟩;refine⟨Ou.trans h.1,λC=>?_,λe b=>by exact Rr (g1 e b)<|Rr (u e b) rfl,λe b=>ao (T e b).2<|md<|h.4 e b,λC=>?_,?_,?_,λL e b=>?_,λs G=>?_,λC=>?_⟩
 .obtain⟨i,rfl,hi⟩:=I C;have v:=AW (l:=xr (O.map (·.1))<|i+1) (k:=x.1);rw[Ks,show(pk (O.map (·.1))<|i+1).length=((xr (O.map (·.1)) i).map (·.1)).length/2 from n4,av] at v;refine Rr hi<|vd (.m 2 .A) .B (.c 2 .C (.a .D .E)<|.c 2 .E .F<|.o (.m 2 .F) .B<|.c 2 (.a .A .D) .C .e) rfl (eg n) v (aQ _ _) (el<|ac<|dT .A .B (.z (.a .A .C) .B) rfl (el n))
 .obtain⟨i,rfl,hi⟩:=I C;refine Rr hi<|Rl D ?_;have v:=nest (k:=x.1) (p:=x.1-a) G (j:=i)<|gy .A .B (.o .C (.a .D .B)<|.z (.a .A .D) .C) rfl (eg n) (el<|ac<|dT .A .B (.z (.a .A .C) .B) rfl (el n));rw[D] at v⊢
  exact v
 .have U:∀f:Nat->Nat,(O.map λe=>f e.2).sum=((O.take a).map λe=>f e.2).sum+((O.drop a).map λe=>f e.2).sum:=λf=>by
   conv=>lhs;rw[d,aC,kD]
  have o:=h.6;rw[U λs=>2^(m-x.2.getD s 0),e7 (l:=O.take a) (g:=λL=>2*2^(m-(t+1))) λe b=>by
   refine Rr (u e b)<|Rl i3 ?_;congr 1;exact aj (gy .A (.s .B) (.o .C (.a .B<|.s .D)<|.z (.a .A .D) .C) rfl (ck _ _) (el<|ac<|be B))<|gy (.s .A) .B (.o .C (.a .B .D)<|.z (.a .A<|.s .D) .C) rfl (ck _ _) (el<|ac<|B)] at o
  refine Rr (U λs=>2^(m-(Je (O.take a) x.2).getD s 0)) (Rr (e7 (l:=O.take a) (g:=λL=>2^(m-(t+1))) λe b=>by rw[g1 e b,u e b])<|Rr (e7 (l:=O.drop a) (g:=λe=>2^(m-x.2.getD e.2 0)) λe b=>by rw[g3 e b]) ?_);have W:(O.take a).length=a:=by
   refine Rr cI ?_;have C:cT ((xr (O.map (·.1)) j).take x.1)<=O.length:=by have v:=wK (l:=xr (O.map (·.1)) j) (k:=x.1);rwa [show cT (xr (O.map (·.1)) j)=(O.map (·.1)).length from xf,av] at v
   exact aj ((fK _ _))<|(eg<|cu<|ao (eg D) C)
  have hc:∀c:Nat,((O.take a).map λL=>c).sum=a*c:=λc=>by exact Rr gX<|Rr eJ<|Rr W rfl
  rw[hc] at o⊢
  obtain⟨p,w⟩:∃p,x.1=a+p:=⟨x.1-a,by exact aj (dT .A (.a .B .C) (.z .A<|.a .C .B) rfl (ck _ _))<|dT (.a .A .B) .C (.z (.a .B .A) .C) rfl (el<|ac<|dT .A .B (.z (.a .A .C) .B) rfl (el n))⟩;rw[show m-t=m-(t+1)+1 by exact aj (gy .A (.s .B) (.o .C (.a .B<|.s .D)<|.z (.a .A .D) .C) rfl (ck _ _) (el<|ac<|be B))<|gy (.s .A) .B (.o .C (.a .B .D)<|.z (.a .A<|.s .D) .C) rfl (ck _ _) (el<|ac<|B),i3,w,rY] at o;show 2*(x.1-a)*2^(m-(t+1))+_=_;simp-iota only [Nat.mul_left_comm _ 2] at o;refine Rr w ?_;rw[fY,kq];exact aj (gy (.a (.m 2 .A)<|.m 2 .B) (.m 2<|.a .C .D) (.z (.a (.a (.m 2 .C)<|.m 2 .A)<|.m 2 .B)<|.m 2<|.a (.m 2 .C) .D) rfl (el o))<|gy (.m 2<|.a .A .B) (.a (.m 2 .C)<|.m 2 .D) (.z (.m 2<|.a (.m 2 .A) .B)<|.a (.a (.m 2 .A)<|.m 2 .C)<|.m 2 .D) rfl (eg o)
 .have J:=h.7;rw[d] at J;refine hV (gQ.1 J) λY Z m3=>?_;have:(O.take a++O.drop a).Pairwise λe e'=>(Je (O.take a) x.2).getD e'.2 0<=(Je (O.take a) x.2).getD e.2 0:=gQ.2 ⟨Y.imp_of_mem λ{p q} w F h=>by refine Rr (g1 p w)<|Rr (g1 q F) ?_;exact md h,Z.imp_of_mem λ{p q} w F h=>by refine Rr (g3 p w)<|Rr (g3 q F) ?_;exact h,λp w q F=>by
   refine Rr (g1 p w)<|Rr (g3 q F) ?_;exact jE<|m3 p w q F⟩
  rwa [fG] at this
 .rcases hA with h0|h0
  .exact bG (h.8 h0 e b) (T e b).1
  .have b:e∈O.take a:=by refine Rr h0<|Rr ig ?_;exact b
   refine Rr (g1 e b) ?_;exact iQ _
 .refine Rr (S s λe b=>G e<|fk b) ?_;exact h.9 s G
 .obtain rfl:j=0:=aj (pI .A (.n 0) (.o .A .B<|.o .C (.s .D)<|.o (.a .B .D) .E<|.z (.s .E) .C) rfl (eg E) (eg C) (el<|ac<|dT .A .B (.o (.s .A) .C<|.z .C<|.s .B) rfl B (ck _ _)) (el<|ac<|c9 .i .A (.z (.s .B) .A) rfl B))<|dL (.n 0) .A .e rfl;have v:=AW (l:=xr (O.map (·.1)) 0) (k:=x.1);rw[Ks,show(pk (O.map (·.1)) 0).length=0 from rfl] at v;exact aj (gy (.m 2 .A) (.n 0) (.c 2 .B (.a .C .D)<|.c 2 .D (.n 0)<|.c 2 (.a .A .C) .B .e) rfl (eg n) v (el<|ac<|dT .A .B (.z (.a .A .C) .B) rfl (el n)))<|dL (.n 0) (.m 2 .A) .e rfl
end
theorem NO(g:DH<|O.map (·.1))(b:(O.map (·.2)).Nodup)(f:∀e∈O,e.2<N):∀{k t A:Nat} {x:Nat×List Nat},t+k=m->(0<t\/cT ((xr (O.map (·.1))<|m-1-t).take x.1)=O.length)->Inv O O N m t x A->
  ∃a,Inv O O N m m (((ay k).reverse.map<|row<|O.map (·.1)).foldl (MQ O) x) a:=by
 intro k;induction k with
 |zero=>intro t A x;exact λh j hi=>⟨A,h▸hi⟩
 |succ k i=>intro t A x h hA hi;have c:=Mj g b f (by exact dT (.s .A) .B (.z (.a .A<|.s .C) .B) rfl (el h)) hA hi;obtain⟨a,d⟩:=i (t:=t+1) (aj (dT (.a (.s .A) .B) .C (.z (.a .A<|.s .B) .C) rfl (el h))<|dT .A (.a (.s .B) .C) (.z .A<|.a .B<|.s .C) rfl (eg h)) (.inl<|iQ t) c;refine⟨a,?_⟩;refine Rr iH<|Rr j9 ?_;rwa [show m-1-t=k by exact aj (pI .A .B (.o .C (.a .D<|.s .B)<|.o (.a .A .D) .E<|.z (.s .E) .C) rfl (eg h) (el<|ac<|gy .A .B (.o (.a .A<|.s .C) .D<|.z .D<|.s .B) rfl (el h) (ck _ _)) (el<|ac<|dT .i .A (.z (.a .B<|.s .C) .A) rfl (el h)))<|pI .A .B (.o (.a .C<|.s .A) .D<|.o .E (.a .B .C)<|.z .D<|.s .E) rfl (el h) (ck _ _) (ck _ _)] at d
structure Qr (C L:List Nat) (m:Nat):Prop where
 pos:∀s,0<L.getD s 0↔0<C.getD s 0
 max:kh L<=m
 kr:kr m L=2^m
 mono:∀s s',0<C.getD s 0->C.getD s 0<C.getD s' 0->L.getD s' 0<=L.getD s 0
theorem Az(h:∀s,L.getD s 0<=m):kh L<=m:=by
 have:∀L:List Nat,(∀x∈L,x<=m)->kh L<=m:=λL=>by
  induction L with
  |nil=>exact λd=>bS _
  |cons a r c=>exact λh=>Nat.max_le.2 ⟨h a<|.head _,c λx b=>h x<|.tail _ b⟩
 refine this L λx b=>?_;obtain⟨i,hi,rfl⟩:=List.mem_iff_getElem.1 b;have:=h i;rwa [al,aI hi] at this
theorem mo:(C.getD s 0,s)∈ord C↔0<C.getD s 0:=by refine⟨λh=>(iu h).2.2,λh=>jL.mem_iff.2<|aE.2 ⟨s,fJ.2 ⟨a9.2 ?_,bT h⟩,rfl⟩⟩;exact b8 λh'=>by rw[al,ch h'] at h;exact bq h<|cB 0
theorem AD(h:e∈ord C):e=(C.getD e.2 0,e.2):=r7 (iu h).2.1 rfl
theorem u4{f:Nat->Nat}:((ord C).map λe=>f e.2).sum=((ay C.length).map λs=>if 0<C.getD s 0 then f s else 0).sum:=by refine Rr (ym (a:=ord C) (b:=nT C) jL) ?_;unfold nT;refine Rr bM<|Rr nY ?_;exact e7 λs c=>ite_congr decide_eq_true_eq (λc=>rfl) λc=>rfl
theorem Xo(t:2<=(ord C).length)(r:(ord C).length<=2^m)(v:1<=m):Qr C (cl C m) m:=by
 have n:ml<|ord C:=ng;have w:DH<|(ord C).map (·.1):=iU.2 (n.imp λh=>by rw[nJ] at h;exact(aJ<|(not_or.1 h).1));have u:((ord C).map (·.2)).Nodup:=iU.2<|(sF (L:=C)).imp_of_mem λ{a b} ha hb hne h=>hne<|Rr (AD ha)<|Rr (AD hb)<|Rr h rfl;have D:∀e∈ord C,e.2<C.length:=λe q=>(iu q).1;have B:=Wl (N:=C.length) t r v;have hA:cT ((xr ((ord C).map (·.1))<|m-1-0).take<|2*(ord C).length-2)=(ord C).length:=by have c:=Jx w (by rw[av];exact t)<|m-1;have i:=wK (l:=xr ((ord C).map (·.1))<|m-1) (k:=2*(ord C).length-2);rw[show cT (xr ((ord C).map (·.1))<|m-1)=((ord C).map (·.1)).length from xf,av] at i;rw[av] at c;rw[lH];omega
 obtain⟨A,h⟩:=NO w u D (bA m) (.inr hA) B;have p:cl C m=(((ay m).reverse.map<|row<|(ord C).map (·.1)).foldl (MQ<|ord C) (2*(ord C).length-2,eW C.length)).2:=aK λo=>aM o t;have d:(cl C m).length=C.length:=Av
 revert h d
 refine Rr p ?_;generalize ((ay m).reverse.map<|row<|(ord C).map (·.1)).foldl (MQ<|ord C) (2*(ord C).length-2,eW C.length)=x;intro h d;have g:∀s,0<x.2.getD s 0↔0<C.getD s 0:=λs=>by
  refine⟨λc=>dQ λi=>?_,λc=>h.8 (dL (.s<|.n 0) .A (.z .i .A) rfl v) _<|mo.2 c⟩;rw[h.9 s λe q j=>by
   have:=(iu q).2;rw[j] at this;exact Ix (.o .A (.n 0)<|.o .B .A<|.z (.s<|.n 0) .B) rfl (el i) (el this.1) this.2] at c
  exact cB 0 c
 refine⟨g,Az λs=>?_,?_,λs s' c i=>?_⟩
 .rcases jr (C.getD s 0) with c|c
  .refine Rr (ju λi=>bq ((g s).1 i) λo=>aM o<|el c) ?_;exact bS _
  .exact h.4 _<|mo.2 c
 .have c:=h.6;rw[h.10 rfl,lB,bA,u4 (f:=λs=>2^(m-x.2.getD s 0))] at c;unfold kr;refine Rl (lO (f:=λy=>if 0<y then 2^(m-y) else 0))<|Rr d<|Rr (e7 λs z=>ite_congr (propext<|g s) (λz=>rfl) λz=>rfl) ?_;exact aj (H1 2 .A .B (.z (.m 2 .A)<|.m 2 .B) rfl (eg c))<|H1 2 .A .B (.z (.m 2 .A)<|.m 2 .B) rfl (el c)
 .have r:=eS.and n h.7;rcases RZ r (mo.2 c) (mo.2<|bw c i) with j|j|j
  .exact bq (bx Prod.fst j)<|gj i
  .exact j.2
  .have:=j.1;rw[nJ] at this;exact bq (.inl i) this
theorem kW:(eW N).getD s 0=0:=by delta eW;refine Rr al<|Rr List.getElem?_replicate ?_;split<;>rfl
theorem Dp:kr M (eW N)=0:=by delta kr eW;refine Rr im<|Rr (aK<|cB 0)<|Rr eJ ?_;rw[Nat.mul_zero]
theorem SR(hi:i<L.length)(b:L.getD i 0=0)(c:0<v):kr M (L.set i v)=kr M L+2^(M-v):=by
 delta kr
 induction L generalizing i with
 |nil=>exact bq hi<|cn _
 |cons a r d=>
  cases i with
  |zero=>have b:a=0:=b;subst b;show(if 0<v then 2^(M-v) else 0)+_=0+_+_;refine Rr (bf c) ?_;exact aj (c9 (.a .A .B) (.a (.a (.n 0) .B) .A) .e rfl)<|c9 (.a (.a (.n 0) .A) .B) (.a .B .A) .e rfl
  |succ i=>refine Rr List.set_cons_succ<|Rr az<|Rr bK<|Rr (d (bX hi) b)<|Rr az<|Rr bK ?_;rw[bZ]
theorem M9(h:ord C=[])(s:Nat):C.getD s 0=0:=ju λa=>by
 have:=mo.2 a;rw[h] at this;exact bq this bj
theorem Mr(h:ord C=[]):cl C m=eW C.length:=by delta cl;refine Rr h ?_;rfl
theorem KO(h:ord C=[e]):cl C m=(eW C.length).set e.2 1:=by delta cl;refine Rr h ?_;rfl
structure WB (C L:List Nat) (m:Nat):Prop where
 pos:∀s,0<L.getD s 0↔0<C.getD s 0
 max:kh L<=m
 kr:kr m L<=2^m
theorem Ve(j:(ord C).length<=2^m)(d:1<=m):WB C (cl C m) m:=by
 rcases eI (ord C).length 2 with c|c
 .match h:ord C,c with
  |[],_=>refine Rr (Mr h)<|⟨λs=>by rw[kW,M9 h s],Az λs=>by rw[kW];exact bS _,by rw[Dp];exact bS _⟩
  |[e],_=>
   have a:e∈ord C:=h▸.head _;have g:∀s,((eW C.length).set e.2 1).getD s 0=if e.2=s then 1 else 0:=λs=>by
    exact Rr (rj<|by rw[e8];exact(iu a).1)<|Rr kW rfl
   refine Rr (KO h)<|⟨λs=>?_,Az λs=>?_,?_⟩
   .rw[g];by_cases b:e.2=s
    .refine Rr (bf b)<|Rl b<|Rl ((iu a).2.1) ?_;exact⟨λk=>(iu a).2.2,λk=>jT⟩
    .refine Rr (aK b) ?_;refine⟨λh=>bq h<|cB 0,λi=>?_⟩;have f:=mo.2 i;rw[h] at f;exact bq (bx sg<|bl.1 f).symm b
   .rw[g];split
    .exact d
    .exact bS _
   .refine Rr (SR (by rw[e8];exact(iu a).1) kW jT)<|Rr Dp ?_;rw[bA];exact fW (by decide)<|bk ..
 .have h:=Xo c j d;exact⟨h.1,h.2,bC h.3⟩
theorem B8(a:v<16):∀{acc:List Nat},(ap n (v,0,0)).foldl sS acc=acc++ap n v:=by
 induction n with
 |zero=>exact(bn _).symm
 |succ n b=>intro acc;refine Rr g7 (Rr cz<|Rr b<|Rr (show sS acc (v,0,0)=acc++[v] from bf a) ?_);rewrite[au];refine Rr g7 ?_;rfl
theorem FA{s b lo hi v:Nat}(p:16<=s)(a:lo=if s=18 then 11 else 3)(h:lo<=hi):∀{f r:Nat} {acc:List Nat},(s=16->acc≠[]/\acc.getLastD 0=v)->(s≠16->v=0)->
  (rl s b lo hi f r).2<=r/\(rl s b lo hi f r).1.foldl sS acc=acc++ap (r-(rl s b lo hi f r).2) v:=by
 intro f;induction f with
 |zero=>intro r acc;exact λw w=>⟨ba _,by show acc=acc++ap (r-r) v;rw[fA];exact(bn _).symm⟩
 |succ f u=>
  intro r acc l j;unfold rl;split
  .rename_i o;have k:lo<=min r hi:=qy.2 ⟨o,h⟩;have g:min r hi<=r:=fK ..
   have q:sS acc (s,b,min r hi-lo)=acc++ap (min r hi) v:=by
    delta sS Ct;refine Rr (aK<|eU.2 p)<|Rl a<|Rr (bv k) ?_;split
    .rename_i d;exact Rr ((l d).2) rfl
    .rename_i d;exact Rr (j d) rfl
   have c:0<min r hi:=by refine bG ?_ k;refine Rr a ?_;split<;>decide
   refine iB (u (r:=r-min r hi) (acc:=acc++ap (min r hi) v) (λd=>⟨λe=>by
    have:=bx mK e;rw[af,bD,d0] at this;omega,by
    obtain⟨n,m⟩:∃n,min r hi=n+1:=⟨min r hi-1,by exact aj ((ck _ _))<|(el<|ac<|dL .i .A (.z (.s<|.n 0) .A) rfl c)⟩;refine Rr m<|Rr List.replicate_succ' ?_;rewrite[<-au];exact Rr List.getLastD_concat rfl⟩) j) λi t=>?_
   refine⟨ao i<|bk ..,?_⟩;show List.foldl sS (sS acc (s,b,min r hi-lo)) _=_;refine Rr q<|Rr t ?_;rewrite[au];refine Rr dW ?_
   congr 2;exact aj (vd (.a .A .B) .C (.o .D (.a .C .E)<|.o (.a .B .E) .F<|.z (.a .F .A) .D) rfl (ck _ _) (el<|ac<|i) (el<|ac<|g))<|vd .A (.a .B .C) (.o .D (.a .C .E)<|.o .F (.a .D .B)<|.z (.a .A .E) .F) rfl (ck _ _) (ck _ _) (el<|ac<|ao i<|bk _ _)
  .exact⟨ba _,by show acc=acc++ap (r-r) v;rw[fA];exact(bn _).symm⟩
theorem Pj{s b lo hi:Nat}(h:0<lo)(c:lo<=hi):∀{f r:Nat},r<=f->(rl s b lo hi f r).2<lo:=by
 intro f;induction f with
 |zero=>intro r a;show r<lo;exact c9 (.s .A) .B (.o (.s<|.n 0) .B<|.z .A<|.n 0) rfl h a
 |succ f d=>
  intro r a;unfold rl;split
  .have:lo<=min r hi:=qy.2 ⟨by assumption,c⟩;exact d<|pI .A .B (.o (.s<|.n 0) .C<|.o .D (.s .B)<|.o .C .E<|.z (.a .A .E) .D) rfl h a this (el<|ac<|(fK _ _))
  .exact b8<|by assumption
theorem HS:(uL r).foldl sS acc=acc++ap r 0:=by
 obtain⟨a,c⟩:=FA (s:=18) (b:=7) (lo:=11) (hi:=138) (v:=0) (by decide) rfl (by decide) (f:=r) (r:=r) (acc:=acc) (λh=>bq h<|by decide) λe=>rfl;delta uL;refine Rr iV (Rr c ?_)
 revert a
 generalize (rl 18 7 11 138 r r).2=q;intro a;split
 .rename_i d;show sS _ (17,3,q-3)=_;delta sS Ct;refine Rr (aK<|show ¬(17:Nat)<16 by decide) (Rr (aK<|show ¬(17:Nat)=18 by decide)<|Rr (aK<|show ¬(17:Nat)=16 by decide) ?_);rewrite[au];refine Rr dW ?_
  congr 2
  exact aj (gy (.a .A<|.a (.n 3) .B) .C (.o (.a .A .D) .C<|.z (.p .B 3) .D) rfl (el<|ac<|a) (el<|ac<|d))<|gy .A (.a .B<|.a (.n 3) .C) (.o .A (.a .B .D)<|.z .D<|.p .C 3) rfl (ck _ _) (ck _ _)
 .refine Rr (B8<|by decide) ?_;rewrite[au];refine Rr dW ?_
  congr 2;exact aj ((el<|ac<|a))<|(ck _ _)
theorem Xm(e:x<16)(h:acc≠[])(d:acc.getLastD 0=x):(z5 x r).foldl sS acc=acc++ap r x:=by
 obtain⟨a,c⟩:=FA (s:=16) (b:=2) (lo:=3) (hi:=6) (v:=x) (by decide) rfl (by decide) (f:=r) (r:=r) (acc:=acc) (λg=>⟨h,d⟩) λh=>bq rfl h;delta z5;refine Rr iV<|Rr c<|Rr (B8 e) ?_;rewrite[au];refine Rr dW ?_
 congr 2;exact aj ((el<|ac<|a))<|(ck _ _)
theorem GO(a:x<16):(kM x n).foldl sS acc=acc++ap (n+1) x:=by
 delta kM;split
 .rename_i h;subst h;exact HS
 .refine Rr cz (Rr (show sS acc (x,0,0)=acc++[x] from bf a)<|Rr (Xm a (by simp) List.getLastD_concat) ?_);rewrite[au];refine Rr g7 ?_;rfl
theorem Hy:r=ap (gW x r) x++r.drop (gW x r):=by
 delta gW
 induction r with
 |nil=>rfl
 |cons y r a=>
  by_cases h:y=x
  .refine Rr (gr (p:=λy=>decide (y=x))<|bT h)<|Rr aV<|Rr g7<|Rr h ?_;exact bx (x::·) a
  .refine Rr (gu (p:=λy=>decide (y=x)) λh'=>h<|dG h') ?_;rfl
theorem JV:∀{f:Nat} {q acc:List Nat},q.length<=f->(∀x∈q,x<16)->(rr f q).foldl sS acc=acc++q
 |0,q,acc=>λh b=>by refine Rr (List.length_eq_zero_iff.1<|Nat.le_zero.1 h) ?_;exact(bn _).symm
 |f+1,[],acc=>λb b=>(bn _).symm
 |f+1,x::r,acc=>λh a=>by
  rw[aV] at h;refine Rr iV (Rr (GO<|a x<|.head _)<|Rr (JV (by rw[b9];exact dT .A .B (.o (.s .C) (.s .B)<|.z .A .C) rfl h (bk _ _)) λy c=>a y<|.tail _<|jR c) ?_);rewrite[au];refine Rr g7 ?_
  conv=>rhs;rw[Hy (x:=x) (r:=r)]
  rfl
theorem Ld(h:∀x∈L,x<16):(Qx L).foldl sS []=L:=(JV (ba _) h).trans<|eN _
theorem P4{s b lo hi:Nat}(d:hi<lo+2^b)(a:s=16/\b=2\/s=17/\b=3\/s=18/\b=7):∀{f r:Nat} {x:Nat×Nat×Nat},x∈(rl s b lo hi f r).1->rC x/\x.1=s:=by
 intro f;induction f with
 |zero=>intro _ _;exact λh=>bq h bj
 |succ f c=>
  intro r x h;unfold rl at h;split at h
  .rcases ax.1 h with rfl|h
   .refine⟨.inr ⟨a,?_⟩,rfl⟩;have:min r hi<=hi:=gC ..
    show min r hi-lo<2^b;have:=eO b;omega
   .exact c h
  .exact bq h bj
theorem B9(h:x∈uL r):rC x/\x.1≠16:=by
 unfold uL at h;have d:=Pj (s:=18) (b:=7) (lo:=11) (hi:=138) (by decide) (by decide)<|ba r;rcases a7.1 h with h|h
 .obtain⟨a,c⟩:=P4 (by decide) (.inr<|.inr ⟨rfl,rfl⟩) h;exact⟨a,by refine Rr c ?_;decide⟩
 .split at h
  .refine Rr (bl.1 h) ?_;refine⟨.inr ⟨.inr<|.inl ⟨rfl,rfl⟩,?_⟩,show(17:Nat)≠16 by decide⟩;show _-3<2^3;omega
  .refine Rr (gK h) ?_;exact⟨.inl ⟨by decide,rfl⟩,by decide⟩
theorem HJ(a:x<16)(h:y∈kM x n):rC y:=by
 unfold kM at h;split at h
 .exact(B9 h).1
 .rcases ax.1 h with rfl|h
  .exact .inl ⟨a,rfl⟩
  .rcases a7.1 h with h|h
   .exact(P4 (by decide) (.inl ⟨rfl,rfl⟩) h).1
   .refine Rr (gK h) ?_;exact .inl ⟨a,rfl⟩
theorem PP:∀{f:Nat} {q:List Nat} {y:Nat×Nat×Nat},(∀x∈q,x<16)->y∈rr f q->rC y
 |0,_,_=>λc h=>bq h bj
 |_+1,[],_=>λc h=>bq h bj
 |f+1,x::r,y=>λa h=>by
  rcases a7.1 h with h|h
  .exact HJ (a x<|.head _) h
  .exact PP (λz b=>a z<|.tail _<|jR b) h
theorem Nr(e:∀x∈q,x<16):∀y∈(rr f q).head?,y.1≠16:=λy b=>by
 match f,q with
 |0,_=>exact nomatch b
 |_+1,[]=>exact nomatch b
 |f+1,x::r=>
  have d:kM x (gW x r)≠[]:=λh=>by
   have:=GO (n:=gW x r) (acc:=[])<|e x<|.head _;rw[h] at this;exact nomatch this
  have c:(kM x<|gW x r).head?=fU y:=by
   have b:(kM x (gW x r)++rr f (r.drop<|gW x r)).head?=fU y:=b;obtain⟨z,zs,g⟩:=List.exists_cons_of_ne_nil d;rw[g] at b⊢
   exact b
  unfold kM at c;split at c
  .exact(B9<|List.mem_of_head? c).2
  .injection c with a;subst a;exact gj<|e x<|.head _
theorem Mn:∀{f:Nat} {q:List Nat},(rr f q).length<=q.length
 |0,_=>bS _
 |_+1,[]=>ba _
 |f+1,x::r=>by
  have b:=yf (x:=x) (n:=gW x r);have a:=Mn (f:=f) (q:=r.drop<|gW x r);have c:=vI (x:=x) (r:=r);rw[b9] at a;refine Rr af<|Rr aV ?_;exact pI (.a .A .B) (.s .C) (.o .A (.s .D)<|.o .B .E<|.z (.a .E .D) .C) rfl b a (el<|ac<|c)
theorem sw:∀{e:Nat},ce L m e<=e/\(m<=e->m<=ce L m e)/\∀i,ce L m e<=i->i<e->L.getD i 0=0:=by
 intro e;induction e with
 |zero=>exact⟨ba _,λh=>h,λi j h=>bq h<|cn _⟩
 |succ e g=>
  refine hV (g) λc d f=>?_;unfold ce;split
  .rename_i h;refine⟨jE c,λj=>d<|c7 h.1,λi hi a=>?_⟩;rcases kQ (c7 a) with b|b
   .exact f i hi b
   .refine Rr b ?_;exact h.2
  .exact⟨ba _,λh=>h,λi hi a=>bq hi<|lY.2 a⟩
theorem qc:(Iy L m).length=ce L m L.length:=by unfold Iy;exact Rr cI<|Rr (cu sw.1) rfl
theorem Br:(Iy L m).getD i 0=L.getD i 0:=by
 unfold Iy;refine Rr al<|Rr List.getElem?_take<|Rr al ?_;split
 .rfl
 .rename_i h;rcases eI i L.length with a|a
  .have:=sw.2.2 i (aJ h) a;rw[al] at this;exact this.symm
  .exact Rr (ch a) rfl
theorem AS:ord (Iy L m)=ord L:=by
 have:nT (Iy L m)=nT L:=by
  unfold nT;simp only [Br];rw[qc];refine hV (sw (L:=L) (m:=m) (e:=L.length)) λb f c=>?_
  conv=>rhs;rw[<-bv b,sf,List.filter_append]
  rw[jw (l:=pR _ _)|>.2 λs d=>?_,bn];refine bO (aE.1 d) λi hi a=>?_;subst a;have hi:=a9.1 hi;refine Rr (c _ (eQ ..)<|gy (.s<|.a .A .B) .C (.o (.s .B) .D<|.z (.a .D .A) .C) rfl hi (el<|ac<|b)) ?_;decide
 unfold ord;rw[this]
theorem RS(h:ord L'=ord L)(c:0<L.getD s 0):L'.getD s 0=L.getD s 0/\i4 L' s=i4 L s:=by have a:(L.getD s 0,s)∈ord L:=mo.2 c;refine pK (ip a) λP R b=>⟨(iu (h▸a:(L.getD s 0,s)∈ord L')).2.1.symm,(nN<|h.trans b).symm.trans<|nN b⟩
theorem CR(a:L.length<1000)(d:(ord L).length<64)(c:kh L<=15)(b:kr 15 L<=2^15):LawC n L<|Iy L m:=
 Bk (aW sz a) (.inl<|by refine Rl wI<|Rr AS ?_;exact d) (Az λs=>by refine Rr Br ?_;exact ao eC c) (by refine Rl Fp<|Rr AS<|Rr Fp ?_;exact b) λs e h=>RS AS h
theorem Ae(b:L.length<1000)(e:(nT L).length<64\/nT L=IB)(d:kh L<=15)(c:kr 15 L<=2^15):LawC n L L:=Bk b e d c λa a a=>⟨rfl,rfl⟩
theorem FG(b:L.length<1000)(a:kh L<=15)(c:kr 15 L<=2^15):lP L:=⟨b,a,GL<|L8 a c⟩
theorem Ur(h:kh L<=m)(a:m<=M)(c:kr m L<=2^m):kr M L<=2^M:=by have b:=L8 h c;refine Rr (Ci<|ao h a) (Rr (show 2^M=2^(M-kh L)*2^kh L by rw[<-oY];congr 1;exact aj ((ck _ _))<|(el<|ac<|ao h a)) ?_);exact j8 _ b
theorem SX(hi:i<19)(a:j<19)(h:gN.getD i 0=gN.getD j 0):i=j:=
 dG (aU.1 (aU.1 (by decide:(ay 19).all (λi=>(ay 19).all λj=>decide (gN.getD i 0=gN.getD j 0->i=j))=Z8) i<|a9.2 hi) j<|a9.2 a) h
theorem SM(c:s<19):∃i,i<19/\gN.getD i 0=s:=by have:=pW.1 (aU.1 (by decide:(ay 19).all (λs=>(ay 19).any λi=>decide (gN.getD i 0=s))=Z8) s<|a9.2 c);refine bO this λi a b=>?_;exact⟨i,a9.1 a,dG b⟩
theorem K6{a b:List Nat}(h:a.length=b.length)(e:∀s,s<a.length->a.getD s 0=b.getD s 0):a=b:=j0 h λs c d=>by
 have:=e s c;rwa [al,aI c,al,aI d] at this
theorem MX:∀{T:List Nat} {j:Nat} {l:List Nat},(OD T j l).length=l.length:=by
 intro T;induction T with
 |nil=>intro _ _;exact rfl
 |cons t T a=>intro j l;exact(a (j:=j+1) (l:=l.set (gN.getD j 0) t)).trans<|fM ..
theorem Nv:∀{T:List Nat} {j:Nat} {l:List Nat} {i:Nat},l.length=19->j+T.length<=19->i<19->(OD T j l).getD (gN.getD i 0) 0=if j<=i/\i<j+T.length then T.getD (i-j) 0 else l.getD (gN.getD i 0) 0:=by
 intro T;induction T with
 |nil=>intro j l i _ _ _;refine Rr (aK<|by rw[d0];exact λb=>Ix (.o .A .B<|.z (.s .B)<|.p .A 0) rfl b.1 b.2) ?_;rfl
 |cons t T n=>
  intro j l i m c hi;rw[aV] at c⊢
  refine Rr (n (by rw[fM];exact m) (by exact c9 (.a (.s .A) .B) (.n 19) (.z (.a .A<|.s .B)<|.n 19) rfl c) hi) (Rr (rj<|by rw[m];exact zS<|by exact c9 (.s .A) (.n 19) (.z (.a .A<|.s .B)<|.n 19) rfl c) ?_);by_cases a:j+1<=i/\i<j+1+T.length
  .refine Rr (bf a) (Rr (bf<|by exact⟨be a.1,dT (.s .A) (.a .B<|.s .C) (.z (.s .A)<|.a (.s .B) .C) rfl a.2⟩) ?_);obtain⟨k,g⟩:∃k,i-j=k+1:=⟨i-j-1,by exact aj ((ck _ _))<|(el<|ac<|dT .i .A (.o (.s .B) .C<|.z .C<|.a .A .B) rfl a.1 (ck _ _))⟩;refine Rr g (Rr (show i-(j+1)=k by exact aj (pI .A .B (.o .C (.s .B)<|.o .D (.a .C .E)<|.z (.a .A<|.s .E) .D) rfl (el g) (ck _ _) (el<|ac<|a.1))<|pI .A .B (.o (.s .A) .C<|.o .D (.a .B<|.s .E)<|.z (.a .C .E) .D) rfl (eg g) (ck _ _) (el<|ac<|be a.1)) ?_);rfl
  .refine Rr (aK a) ?_;by_cases f:i=j
   .subst f;refine Rr (bf rfl) (Rr (bf<|by exact⟨dL .A .A .e rfl,c9 (.s .A) (.a .A<|.s .B) .e rfl⟩) ?_);rw[fA];rfl
   .exact Rr (aK λh=>f (SX (by exact c9 (.s .A) (.n 19) (.z (.a .A<|.s .B)<|.n 19) rfl c) hi h).symm)<|Rr (aK<|by exact λb=>((Decidable.not_and_iff_or_not.1 a)).elim (λd=>((cp f)).elim (λe=>aM e b.1) λe=>aM (b8 d) e) λd=>MP (.o (.a (.s .A) .B) .C<|.z (.s .C)<|.a .A<|.s .B) rfl (aJ d) b.2) rfl
theorem Oi{H T:List Nat}(hH:H.length=19)(hT:T.length<=19)(h:∀i,T.getD i 0=(gN.map λs=>H.getD s 0).getD i 0):OD T 0 (eW 19)=H:=by
 have b:(OD T 0<|eW 19).length=19:=MX.trans e8;refine K6 (b.trans hH.symm) λs c=>bO (SM (s:=s)<|ao c<|el b) λi hi a=>?_;subst a;have d:=Nv (T:=T) (j:=0) (l:=eW 19) (i:=i) e8 (dL (.a (.n 0) .A) (.n 19) (.z .A<|.n 19) rfl hT) hi;have e:(gN.map λs=>H.getD s 0).getD i 0=H.getD (gN.getD i 0) 0:=by refine Rr al (Rr cG<|Rr (al (l:=gN))<|Rr (aI<|show i<gN.length from hi) ?_);rfl
 refine Rr d<|Rl e<|Rl (h i) ?_;split
 .rfl
 .refine Rr kW (Rr al<|Rr (ch<|by omega) ?_);rfl
section
variable{ps:List (Nat×Nat)}
theorem JK(h:o7 p):sy p<286/\sy p≠256:=by
 delta sy;split
 .rename_i a;have:=qb h a;exact⟨dL (.s .A) (.n 286) (.z (.s .A)<|.n 256) rfl this,λb=>aM this<|eg b⟩
 .rename_i a;refine hV (mi h a) λf c d=>?_;have:=sx c d;refine⟨this.2,λe=>?_⟩;exact lo1 (.o (.n 257) .A<|.z .A<|.n 256) rfl this.1 (el e)
theorem PB:∀{x:List Nat×List Nat},(ps.foldl vG x).1=ps.foldl (λl p=>bump l<|sy p) x.1:=by
 induction ps with
 |nil=>exact rfl
 |cons p r a=>
  intro x;refine Rr cz ?_;rewrite[cz];refine Rr a ?_
  congr 1
  delta vG sy;split<;>rfl
theorem Uw:∀{x:List Nat×List Nat},(ps.foldl vG x).2=(mA ps).foldl (λl d=>bump l (jB d).1) x.2:=by
 delta mA
 induction ps with
 |nil=>exact rfl
 |cons p r a=>
  intro x;refine Rr cz<|Rr a<|Rr ja ?_;delta vG;by_cases h:p.2=0
  .exact Rr (bf h)<|Rr (aK<|by rw[decide_eq_true_iff];exact not_not_intro h) rfl
  .refine Rr (aK h)<|Rr (bf<|bT h) ?_;rfl
theorem pL(a:∀p∈ps,o7 p):(kg ps).getD s 0=(if 256=s then 1 else 0)+(ps.map sy).count s:=by
 delta kg;refine Rr (rj<|by rw[rn.1];decide) ?_;delta C3;refine Rr PB (Rr (sD (f:=sy) λp h=>by rw[e8];exact(JK<|a p h).1)<|Rr kW ?_);split
 .rename_i h;rw[eG.2 λb=>?_];refine bO (aE.1 b) λp c d=>(JK<|a p c).2<|d.trans h.symm
 .rfl
theorem Cv(g:∀p∈ps,o7 p):∀d∈mA ps,1<=d/\d<=32768:=λd hd=>by
 refine bO (aE.1 hd) λp c a=>?_;subst a;obtain⟨e,f⟩:=fJ.1 c;have b:=dG f;exact⟨dQ b,(mi (g p e) b).1⟩
theorem uQ(a:∀p∈ps,o7 p):(oA ps).getD s 0=((mA ps).map λd=>(jB d).1).count s:=by delta oA C3;refine Rr Uw (Rr (sD (f:=λd=>(jB d).1) λd h=>by rw[e8];exact qq (Cv a d h).1 (Cv a d h).2)<|Rr kW ?_);rw[bA]
theorem nM:getD (e::r) k 0=if e.1=k then e.2 else getD r k 0:=by
 delta getD;refine Rr iF ?_;by_cases h:e.1=k
 .refine Rr (bT h)<|Rr (bf h) ?_;rfl
 .exact Rr (Wq h)<|Rr (aK h) rfl
theorem Jo:getD (pN d k v) k' 0=if k=k' then v else getD d k' 0:=by
 have g:∀(d:List<|Int×Int),getD (d.map λe=>if e.1=k then(e.1,v) else e) k' 0=if k=k'/\(d.any λe=>decide (e.1=k))=Z8 then v else getD d k' 0:=λd=>by
  induction d with
  |nil=>refine Rr (aK λh=>nomatch h.2) ?_;rfl
  |cons e r c=>
   refine Rr az<|Rr nM<|Rr c<|Rr nM<|Rr kz ?_;by_cases b:e.1=k
   .refine Rr (bf b)<|Rr (bT b)<|Rr b ?_;by_cases a:k=k'
    .exact Rr (bf a)<|Rr (bf ⟨a,rfl⟩) rfl
    .exact Rr (aK a)<|Rr (aK λh=>a h.1)<|Rr (aK λh=>a h.1)<|Rr (aK a) rfl
   .refine Rr (aK b)<|Rr (Wq b) ?_;rw[Bool.false_or];by_cases a:e.1=k'
    .refine Rr (bf a)<|Rr (aK λh=>b<|a.trans h.1.symm) ?_;exact(bf a).symm
    .exact Rr (aK a)<|Rr (aK a) rfl
 delta pN;split
 .rename_i h;rw[g];by_cases a:k=k'
  .exact Rr (bf ⟨a,h⟩)<|Rr (bf a) rfl
  .exact Rr (aK λh=>a h.1)<|Rr (aK a) rfl
 .rename_i h
  induction d with
  |nil=>exact nM
  |cons e r c=>
   rw[kz,qN,not_or] at h;refine Rr eR<|Rr nM<|Rr (c h.2)<|Rr nM ?_;by_cases a:e.1=k'
   .exact Rr (bf a)<|Rr (aK λf=>h.1<|bT<|a.trans f.symm)<|Rr (bf a) rfl
   .exact Rr (aK a)<|Rr (aK a) rfl
theorem SS{s:Nat}:∀{d:List<|Int×Int},getD (ps.foldl IV d) s 0=getD d s 0+((ps.map sy).count s:Nat):=by
 induction ps with
 |nil=>exact λ{uu}=>(Int.add_zero _).symm
 |cons p r b=>
  intro d;refine Rr cz<|Rr b<|Rr az<|Rr cy ?_;delta IV;refine Rr Jo ?_;by_cases h:sy p=s
  .refine Rr (bf<|bx cV h)<|Rr (bf<|beq_iff_eq.2 h)<|Rr h ?_;omega
  .refine Rr (aK λa=>h<|b7.1 a)<|Rr (aK λa=>h<|fN a) ?_;rfl
theorem Sp(b:∀p∈ps,o7 p)(s:Nat):getD (dc ps) s 0=((kg ps).getD s 0:Nat):=by
 delta dc;refine Rr SS<|Rr (pL b) ?_;by_cases h:256=s
 .subst h;refine Rr (bf rfl) ?_;exact(mY ..).symm
 .rw[aK h,show getD [(256,1)] (s:Int) 0=0 from ?_]
  .rw[bA,Int.zero_add]
  .exact nM.trans<|aK λa=>h<|b7.1 a
theorem Oj(h:e∈pN d k v):e.1=k\/∃x∈d,e.1=x.1:=by
 unfold pN at h;split at h
 .refine bO (aE.1 h) λx a b=>?_;refine .inr ⟨x,a,?_⟩;refine Rl b ?_;split<;>rfl
 .rcases a7.1 h with h|h
  .exact .inr ⟨e,h,rfl⟩
  .refine Rr (bl.1 h) ?_;exact .inl rfl
theorem N5{P:Int->Prop}(hps:∀p∈ps,P<|sy p):∀{d:List<|Int×Int},(∀e∈d,P e.1)->∀e∈ps.foldl IV d,P e.1:=by
 induction ps with
 |nil=>exact λh=>h
 |cons p r g=>
  intro d hd;refine g (λq f=>hps q<|.tail _ f) λe c=>?_;rcases Oj c with h|⟨x,a,b⟩
  .refine Rr h ?_;exact hps p<|.head _
  .refine Rr b ?_;exact hd x a
theorem Qo:∀{d:List<|Int×Int},(ps.foldl IV d).length<=d.length+ps.length:=by
 induction ps with
 |nil=>exact λ{uu}=>ba _
 |cons p r c=>intro d;have a:=c (d:=IV d p);have b:(IV d p).length<=d.length+1:=zJ;refine Rr cz<|Rr aV ?_;exact gy .A (.a .B<|.s .C) (.o .A (.a .D .C)<|.z .D<|.s .B) rfl a b
theorem sum_set{l:List Nat}:(l.set i v).sum<=l.sum+v:=by
 induction l generalizing i with
 |nil=>exact bS _
 |cons a r b=>
  cases i with
  |zero=>refine Rr List.set_cons_zero<|Rr bK<|Rr bK ?_;exact dT (.a .A .B) (.a (.a .C .B) .A) .e rfl
  |succ i=>(refine Rr List.set_cons_succ<|Rr bK<|Rr bK ?_;rw[bZ]);exact g6 b a
theorem Kc:(bump l i).sum<=l.sum+1:=by
 delta bump
 induction l generalizing i with
 |nil=>exact bS _
 |cons a r b=>
  cases i with
  |zero=>show a+1+r.sum<=a+r.sum+1;exact c9 (.a (.s .A) .B) (.s<|.a .A .B) .e rfl
  |succ i=>have:=b (i:=i);show a+(r.set i<|r.getD i 0+1).sum<=a+r.sum+1;exact dT (.a .A .B) (.s<|.a .A .C) (.z .B<|.s .C) rfl this
theorem HO{ι:Type}{f:ι->Nat}{E:List ι}:∀{l:List Nat},(E.foldl (λl e=>bump l<|f e) l).sum<=l.sum+E.length:=by
 induction E with
 |nil=>exact λ{uu}=>ba _
 |cons e E c=>intro l;have a:=c (l:=bump l<|f e);have b:=Kc (l:=l) (i:=f e);refine Rr cz<|Rr aV ?_;exact gy .A (.a .B<|.s .C) (.o .A (.a .D .C)<|.z .D<|.s .B) rfl a b
theorem Ea:(ord C).length<=C.sum:=by
 have h:=u4 (C:=C) (f:=λa=>1);rw[gX,eJ,jP] at h;refine Rr h<|Rr (lO (f:=λx=>if 0<x then 1 else 0)) ?_;have:=Sr (l:=C) (f:=λx=>if 0<x then 1 else 0) (g:=λx=>x) λx a=>by
  show(if 0<x then 1 else 0)<=x;split<;>omega
 rwa [List.map_id'] at this
theorem JI:(ord<|kg ps).length<=ps.length+1:=by
 refine ao Ea ?_;delta kg C3;refine ao sum_set<|Rr PB ?_;have h:=HO (f:=sy) (E:=ps) (l:=eW 286);have a:(eW 286).sum=0:=by delta eW;exact Rr eJ rfl
 have:(ps.foldl (λl p=>bump l<|sy p)<|eW 286).sum<=ps.length:=dT .A .B (.o .A (.a .C .B)<|.z .C<|.n 0) rfl h (el a);exact md this
theorem SK{α:Type}{l:List α}{a b:α}(c:a∈l)(d:b∈l)(h:a≠b):2<=l.length:=by
 match l,c,d with
 |[x],c,d=>exact bq ((bl.1 c).trans (bl.1 d).symm) h
 |_::_::r,_,_=>exact kC 2 r.length
theorem J6:nz C=(ord C).length:=by have h:=u4 (C:=C) (f:=λa=>1);rw[gX,eJ,jP] at h;have b:=nY (f:=λa=>1) (t:=λc=>decide (0<c)) (l:=C);rw[gX,eJ,jP] at b;refine Rr h<|Rr (lO (f:=λx=>if 0<x then 1 else 0)) ?_;exact b.trans<|e7 λx a=>ite_congr decide_eq_true_eq (λa=>rfl) λa=>rfl
end
theorem Nb:∀{f:Nat} {l:List Nat} {lk a s:Nat},0<l.getD s 0->0<(DJ f l lk a).getD s 0:=by
 intro f;induction f with
 |zero=>intro _ _ _ _;exact λh=>h
 |succ f c=>
  intro l lk a s h;unfold DJ;split
  .exact h
  .split
   .rename_i d;refine c ?_;rcases eI a l.length with b|b
    .refine Rr (rj b) ?_;split
     .exact jT
     .exact h
    .rwa [List.set_eq_of_length_le b]
   .exact c h
theorem v9(h:0<C.getD s 0):0<(fH C).getD s 0:=Nb h
theorem nf(h:2<=(ord C).length):fH C=C:=by unfold fH;refine Rr J6<|Rr (ix h) ?_;cases C.length<;>rfl
structure J0 (ps:List<|Nat×Nat):Prop where
 n:2<=(ord<|fH<|kg ps).length/\(ord<|fH<|kg ps).length<64
 ok:Qr (fH<|kg ps) (eM ps) 15
 mono:∀s s',0<(eM ps).getD s 0->(kg ps).getD s 0<(kg ps).getD s' 0->(eM ps).getD s' 0<=(eM ps).getD s 0
theorem TF:nz (fH<|kg [])=2/\kh (eM [])=1:=by decide+kernel
theorem QA(j:ps.length<=8)(d:∀p∈ps,o7 p):J0 ps:=by
 cases ps with
 |nil=>have a:(ord<|fH<|kg []).length=2:=J6.symm.trans TF.1;refine⟨by omega,Xo ((eg a)) (dL .A (.n 32768) (.z .A<|.n 2) rfl (el a))<|by decide,λs s' h n=>?_⟩;exact ao eC<|ao (bC TF.2) h
 |cons p r=>
  have e:=d p<|.head _;have c:0<(kg (p::r)).getD 256 0:=by refine Rr (pL d)<|Rr (bf rfl) ?_;exact dL (.s<|.n 0) (.a .i .A) .e rfl
  have f:0<(kg (p::r)).getD (sy p) 0:=by refine Rr (pL d)<|Rr az<|Rr mH ?_;exact c9 (.s<|.n 0) (.a .A<|.s .B) .e rfl
  have a:2<=(ord<|kg (p::r)).length:=SK (mo.2 c) (mo.2 f) λh=>(JK e).2 (bx sg h).symm;have k:=JI (ps:=p::r);have b:Qr (fH<|kg (p::r)) (eM (p::r)) 15:=Xo (by refine Rr (nf a) ?_;exact a) (by refine Rr (nf a) ?_;exact c9 .A (.n 32768) (.o .B (.n 8)<|.z .A<|.s .B) rfl j k) (by decide);refine⟨by refine Rr (nf a) ?_;exact⟨a,c9 (.s .A) (.n 64) (.o .B (.n 8)<|.z .A<|.s .B) rfl j k⟩,b,λs s' l m=>?_⟩;have g:=(b.1 s).1 l;have i:=b.4 s s';rw[nf a] at g i;exact i g m
section
variable{ps:List (Nat×Nat)}
theorem AX(h:J0 ps)(a:0<(kg ps).getD s 0):0<(eM ps).getD s 0:=(h.2.1 s).2<|v9 a
theorem PF:WB (oA ps) (fi ps) 15:=Ve (ao kN<|by refine Rr uO ?_;decide)<|by decide
theorem LQ(h:J0 ps)(d:∀p∈ps,o7 p):∀p∈ps,wv (eM ps) (fi ps) p:=λp c=>by
 have b:0<(eM ps).getD (sy p) 0:=AX h (by refine Rr (pL d) ?_;have:=dz.2 (aE.2 ⟨p,c,rfl⟩:sy p∈ps.map sy);exact c9 (.s<|.n 0) (.a .A .B) (.z (.s<|.n 0) .B) rfl this)
 unfold wv;unfold sy at b;split
 .rename_i a;rwa [bf a] at b
 .rename_i a;rw[aK a] at b;refine⟨b,(PF.1 _).2 ?_⟩;refine Rr (uQ d)<|dz.2<|aE.2 ⟨p.2,aE.2 ⟨p,fJ.2 ⟨c,bT a⟩,rfl⟩,rfl⟩
theorem zA:pos (eW n)=[]:=jw.2 λx a=>by refine Rr (gK a) ?_;decide
theorem GA:∀{n i:Nat},i<n->pos ((eW n).set i 1)=[1]
 |n+1,0,_=>by
  exact bx (1::·) zA
 |n+1,i+1,h=>by
  show pos (0::(eW n).set i 1)=[1];exact GA<|bX h
theorem RJ(m:∀p∈ps,o7 p):(mA ps=[]->pos (fi ps)=[])/\(mA ps≠[]->(∀a∈mA ps,∀b∈mA ps,a=b)->pos (fi ps)=[1]):=by
 refine⟨λh=>?_,λh s=>?_⟩
 .have q:ord (oA ps)=[]:=List.eq_nil_iff_forall_not_mem.2 λe g=>by
   have c:=(iu g).2;rw[uQ m,h] at c;exact bq c.1<|gk c.2
  unfold fi;exact Rr (Mr q)<|Rr zA rfl
 .obtain⟨d,hd⟩:=List.exists_mem_of_ne_nil _ h;have f:∀e∈ord (oA ps),e.2=(jB d).1:=λe g=>by
   have c:=(iu g).2;rw[uQ m] at c;obtain⟨x,t,u⟩:=aE.1<|dz.1<|c.1▸c.2;exact Rl u<|Rr (s x t d hd) rfl
  have i:((oA ps).getD (jB d).1 0,(jB d).1)∈ord (oA ps):=mo.2<|by refine Rr (uQ m)<|dz.2<|aE.2 ⟨d,hd,rfl⟩
  have k:∃e,ord (oA ps)=[e]:=by
   match c:ord (oA ps) with
   |[]=>rw[c] at i;exact bq i bj
   |[e]=>exact⟨e,rfl⟩
   |a::b::r=>have n:a∈ord (oA ps):=c▸.head _;have o:b∈ord (oA ps):=c▸.tail _ (.head _);have l:a=b:=Rr (AD n)<|Rr (AD o)<|Rr (f a n)<|Rr (f b o) rfl;have j:=sF (L:=oA ps);rw[c] at j;exact bq (l▸.head _) (cN.1 j).1
  obtain⟨e,g⟩:=k;unfold fi;refine Rr (KO g)<|GA (iu (g▸.head _:e∈ord (oA ps))).1
theorem CJ{C L:List Nat}(d:L.length=C.length)(h:∀s,0<L.getD s 0↔0<C.getD s 0):(ord L).length=(ord C).length:=by have b:=u4 (C:=C) (f:=λa=>1);have c:=u4 (C:=L) (f:=λa=>1);rw[gX,eJ,jP] at b c;refine Rr b<|Rr c<|Rr d ?_;exact e7 λs a=>ite_congr (propext<|h s) (λa=>rfl) λa=>rfl
end
section
variable{L D:List Nat}
theorem Js{R:List<|Nat×Nat×Nat}(h:∀x∈R,x.1<19){s:Nat}:(wA R).getD s 0=(R.map (·.1)).count s:=by delta wA;refine Rr (sD (f:=λx:Nat×Nat×Nat=>x.1) λx a=>by rw[e8];exact h x a)<|Rr kW ?_;rw[bA]
theorem LB{x:Nat×Nat×Nat}(h:rC x):x.1<19/\x.2.1<8/\x.2.2<2^x.2.1:=by
 rcases h with⟨c,d⟩|⟨c,d⟩
 .refine Rr d ?_;exact⟨bw c<|by decide,by decide,jT⟩
 .exact⟨by exact c.elim (λa=>dL (.s .A) (.n 19) (.z .A<|.n 16) rfl (el a.1)) λa=>a.elim (λb=>dL (.s .A) (.n 19) (.z .A<|.n 17) rfl (el b.1)) λb=>dL (.s .A) (.n 19) (.z .A<|.n 18) rfl (el b.1),by exact c.elim (λa=>dL (.s .A) (.n 8) (.z .A<|.n 2) rfl (el a.2)) λa=>a.elim (λb=>dL (.s .A) (.n 8) (.z .A<|.n 3) rfl (el b.2)) λb=>dL (.s .A) (.n 8) (.z .A<|.n 7) rfl (el b.2),d⟩
theorem IX{L:List Nat}{m x:Nat}(h:kh L<=m)(a:x∈L):x<=m:=ao (q8 a) h
structure HH (L D:List Nat):Prop where
 ho:tU L D
 r9:(hR L D).length<900
 sm:OD (hT L D) 0 (eW 19)=hH L D
 rok:∀x∈hR L D,rC x
 r16:∀x∈(hR L D).head?,x.1≠16
 sS:(hR L D).foldl sS []=hA L++hB D
 cH:LawC 19 (hH L D)<|hH L D
theorem Xs(p:L.length=286)(o:D.length=30)(B:kh L<=15)(A:kh D<=15):HH L D:=by
 have d:∀x∈hA L++hB D,x<16:=λx c=>iP (by
  rcases a7.1 c with c|c
  .exact IX B<|fk c
  .exact IX A<|fk c)
 have b:∀x∈hR L D,rC x:=λx c=>PP d c;have a:WB (fH<|wA<|hR L D) (hH L D) 7:=Ve (ao kN<|by refine Rr (show(fH<|wA<|hR L D).length=19 from sI.trans rW) ?_;decide) (by decide);have g:(hA L).length<=286:=p▸sz;have l:257<=(hA L).length:=by delta hA;refine Rr qc<|Rr p ?_;exact sw.2.1<|by decide
 have h:(hB D).length<=30:=o▸sz;have m:1<=(hB D).length:=by delta hB;refine Rr qc<|Rr o ?_;exact sw.2.1<|by decide
 have k:(gN.map λs=>(hH L D).getD s 0).length=19:=av ..
 have j:(hT L D).length<=19:=ao sz<|bC k;have n:4<=(hT L D).length:=by delta hT;refine Rr qc<|Rr k ?_;exact sw.2.1<|by decide
 refine⟨⟨⟨l,by exact dL (.s .A) (.n 289) (.z .A<|.n 286) rfl g⟩,⟨m,by exact dL (.s .A) (.n 33) (.z .A<|.n 30) rfl h⟩,⟨n,by exact dL (.s .A) (.n 20) (.z .A<|.n 19) rfl j⟩,λt w=>?_,GL<|L8 a.2 a.3,iP a.2,λx c=>?_⟩,?_,Oi qm j λi=>Br,b,Nr d,Ld d,Ae (by refine Rr qm ?_;decide) (.inl ?_) (ao a.2<|by decide)<|Ur a.2 (by decide) a.3⟩
 .refine bO (aE.1<|fk w) λs C e=>?_;subst e;exact iP<|ao eC a.2
 .refine hV (LB<|b x c) λr u v=>?_;refine⟨r,(a.1 _).2<|v9 ?_,u,v⟩;refine Rr (Js λy z=>(LB<|b y z).1)<|dz.2<|aE.2 ⟨x,c,rfl⟩
 .refine aW (Mn (f:=(hA L++hB D).length) (q:=hA L++hB D)) ?_;refine Rr af ?_;exact c9 (.s<|.a .A .B) (.n 900) (.o .A (.n 286)<|.z .B<|.n 30) rfl g h
 .refine Rl wI ?_;exact aW kN<|by refine Rr qm ?_;decide
theorem foldl_add{ι:Type}{f:ι->Nat}{l:List ι}:∀{t:Nat},l.foldl (λt x=>t+f x) t=t+(l.map f).sum:=by
 induction l with
 |nil=>exact λ{t}=>(nD t).symm
 |cons a r b=>intro t;refine Rr cz<|Rr b<|Rr az<|Rr bK ?_;rw[bZ]
theorem xz{ι:Type}{g:ι->List Bool}{l:List ι}:(l.flatMap g).length=(l.map λx=>(g x).length).sum:=by
 induction l with
 |nil=>rfl
 |cons a r b=>exact Rr eX<|Rr af<|Rr b<|Rr az<|Rr bK rfl
theorem Mu:(fC L D).length=Dt L D:=by
 delta fC Dt;rw[foldl_add,af,af,af,af,a8,a8,a8,xz,xz,e7 (f:=λt=>(cM t 3).length) (g:=λa=>3) λa a=>a8,gX,eJ,
  e7 (f:=λx=>(hJ (hH L D) x).length) (g:=λx=>(hH L D).getD x.1 0+x.2.1) λx a=>by delta hJ;rw[af,gT,a8]]
 exact aj (c9 (.a (.a (.p (.p (.n 5) 5) 4)<|.r .A 3) .B) (.a (.a (.n 14)<|.m 3 .A) .B) .e rfl)<|c9 (.a (.a (.n 14)<|.m 3 .A) .B) (.a (.a (.p (.p (.n 5) 5) 4)<|.r .A 3) .B) .e rfl
theorem Ay{s:Nat}(h:0<L.getD s 0):O9 L s=L.getD s 0:=aK<|gk h
theorem Jv{ps:List<|Nat×Nat}(h:∀p∈ps,wv L D p):(fO L D ps).length=E2 L D ps+L.getD 256 0:=by
 delta fO E2;refine Rr foldl_add<|Rr af<|Rr gT<|Rr xz ?_;rw[bA]
 congr 1
 refine e7 λp c=>?_;have a:=h p c;delta j7 Gv;unfold wv at a;split
 .rename_i b;rw[bf b] at a;exact Rr gT<|Rr (Ay a) rfl
 .rename_i b;rw[aK b] at a;refine Rr af<|Rr af<|Rr af<|Rr gT<|Rr gT<|Rr a8<|Rr a8<|Rr (Ay a.1)<|Rr (Ay a.2) ?_;exact aj (gy (.a .A<|.a .B<|.a .C .D) (.a (.a (.a .A .B) .C) .D) .e rfl)<|gy (.a (.a (.a .A .B) .C) .D) (.a .A<|.a .B<|.a .C .D) .e rfl
end
theorem Hu:LawC 286 jY jY:=Ae (by rw[Kg];decide) (.inr<|by decide+kernel) xQ.1.2<|by decide+kernel
theorem Jr:(ay 30).all (λs=>decide ((ap 30 5).getD s 0=nQ.getD s 0/\i4 (ap 30 5) s=i4 nQ s))=Z8:=by decide+kernel
theorem EG:LawC 30 nQ<|ap 30 5:=
 Bk (by decide) (.inl<|by decide+kernel) (by decide+kernel) (by decide+kernel) λs a b=>dG<|aU.1 Jr s<|a9.2 a
section
variable{ps:List (Nat×Nat)}
theorem Ow:((lM L g).map λu=>2^(M-u.2)).sum=kr M L:=by delta lM kr;rw[bM,nY,<-lO (f:=λx=>if 0<x then 2^(M-x) else 0)];exact e7 λs a=>ite_congr decide_eq_true_eq (λa=>rfl) λa=>rfl
theorem yy(h:u∈lM L g):∃s,u=(g s,L.getD s 0)/\0<L.getD s 0:=by refine bO (aE.1 h) λs a b=>⟨s,b.symm,dG (fJ.1 a).2⟩
theorem good(o:ps.length<=8)(i:∀p∈ps,o7 p):(ord<|fH<|kg ps).length<64/\Good ps/\(cM 0 1++cM 1 2++fO jY nQ ps).length=ri ps:=by
 have a:=QA o i;have hd:=PF (ps:=ps);have c:(eM ps).length=286:=xa;have f:(fi ps).length=30:=xG;have n:=bC a.2.3;have g:=Xs c f a.2.2 hd.2;have q:=LQ a i;have b:0<(eM ps).getD 256 0:=AX a (by refine Rr (pL i)<|Rr (bf rfl) ?_;exact dL (.s<|.n 0) (.a .i .A) .e rfl);have ho:(ord<|eM ps).length<64:=by refine Rr (CJ (C:=fH<|kg ps) (c.trans (sI.trans q0).symm) a.2.1) ?_;exact a.1.2
 refine⟨a.1.2,⟨FG (dL (.s .A) (.n 1000) (.z .A<|.n 286) rfl (el c)) a.2.2 n,FG (dL (.s .A) (.n 1000) (.z .A<|.n 30) rfl (el f)) hd.2 hd.3,q,b,g.1,g.2,?_,g.3,g.4,g.5,g.6,g.7,CR (dL (.s .A) (.n 1000) (.z .A<|.n 286) rfl (el c)) ho a.2.2 n,
  CR (dL (.s .A) (.n 1000) (.z .A<|.n 30) rfl (el f)) (aW kN<|dL (.s .A) (.n 64) (.z .A<|.n 30) rfl (el f)) hd.2 hd.3,?_,⟨λs=>(kg ps).getD s 0,Sp i,?_,Ow.trans a.2.3,λu h=>?_,λu h v h'=>?_⟩,?_,RJ i⟩,?_⟩
 .delta gJ lz;rw[af,af,af,a8,a8,Mu,Jv q];exact aj (dT (.a (.a (.p .i 2) .A)<|.a .B .C) (.a (.a (.a (.n 3) .A) .B) .C) .e rfl)<|dT (.a (.a (.a (.n 3) .A) .B) .C) (.a (.a (.p .i 2) .A)<|.a .B .C) .e rfl
 .have:=Qo (ps:=ps) (d:=[(256,1)]);delta dc;rw[dD] at this;exact c9 (.s .A) (.n 64) (.o .B (.n 8)<|.z .A<|.a .i .B) rfl o this
 .exact List.ne_nil_of_mem<|aE.2 ⟨256,fJ.2 ⟨a9.2<|dL (.s<|.n 256) .A (.z (.n 286) .A) rfl (eg c),bT b⟩,rfl⟩
 .refine bO (yy h) λs j A=>?_;subst j;exact ao eC a.2.2
 .refine bO (yy h) λs k z=>?_;subst k;refine bO (yy h') λt l r=>?_;subst l;exact λm=>bq m.2<|eU.2<|a.3 t s r m.1
 .refine N5 (P:=λx=>∃s:Nat,x=s/\0<(eM ps).getD s 0) (λp y=>⟨sy p,rfl,AX a ?_⟩) λe w=>?_
  .rw[pL i];have:=dz.2 (aE.2 ⟨p,y,rfl⟩:sy p∈ps.map sy);exact c9 (.s<|.n 0) (.a .A .B) (.z (.s<|.n 0) .B) rfl this
  .rw[bl.1 w];exact⟨256,rfl,b⟩
 .delta ri;rw[af,af,a8,a8,Jv λp h=>xX<|i p h];exact aj (c9 (.a (.p .i 2)<|.a .A .B) (.a (.a (.n 3) .A) .B) .e rfl)<|c9 (.a (.a (.n 3) .A) .B) (.a (.p .i 2)<|.a .A .B) .e rfl
end
theorem all_done(a:IU.wellSaid=Z8):PySem.Challenge.rw_nn0130_01.Holds:=Lf a λe b=>Qt Hu EG (λe c d=>good c d) b
end Mine.V
theorem PySem.Challenge.cw_nn0130_01_holds : PySem.Challenge.rw_nn0130_01.Holds := by
  exact Mine.V.all_done Mine.said0
