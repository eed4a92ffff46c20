import PyProof.Rows.All
import Wide.All
import OpenK.AllK
import Wide.FinOn
import PySem.Challenge.RW_xm0110_01
set_option Elab.async false
set_option maxRecDepth 100000
set_option backward.eqns.nonrecursive false
set_option backward.eqns.deepRecursiveSplit false
set_option backward.match.sparseCases false
set_option genSizeOfSpec false
set_option genInjectivity false
set_option linter.all false
open Bool renaming and_eq_true → ay, false_ne_true → aR, false_eq_true → bR, or_eq_true → dU, true_and → jb, false_or → jc, and_true → kK, not_eq_true' → nR, not_true → nU, or_false → n6, false_and → rI, and_self → AT, or_assoc → AV
open Int renaming toNat_natCast → cE, mul_le_mul_of_nonneg_left → cH, le_trans → cK, natCast_nonneg → dG, eq_ofNat_of_zero_le → eF, le_refl → e8, add_comm → iM, zero_add → iN, add_assoc → kQ, mul_one → nT, lt_of_le_of_lt → uJ, one_mul → xW, toNat_mul → CC, toNat_of_nonneg → G0, add_right_comm → JW, lt_of_lt_of_le → JX
open List renaming mem_singleton → ae, length_append → aj, casesOn → am, append_assoc → aw, mem_cons → aA, map_cons → aE, append_nil → aF, size_toArray → aJ, all_eq_true → aM, length_map → aN, length_cons → aP, mem_of_getElem → a8, filter_cons → bk, map_congr_left → bp, lookup_cons → bA, range → bF, mem_append_right → bJ, nodup_cons → bK, nil_append → bL, map_append → bS, map_map → bZ, length_nil → ch, cons_append → ck, mem_append_left → cm, flatMap_cons → co, length_drop → cO, nodup_append → dw, pairwise_singleton → dI, nodup_nil → dP, drop_eq_getElem_cons → dZ, foldr_cons → eG, all_cons → eV, length_take → fb, length_filter_le → fk, length_singleton → fm, mem_iff_getElem → fS, findIdx → gN, foldl_cons → gY, any_cons → gZ, eraseIdx_sublist → hH, take_append_drop → hJ, exists_cons_of_ne_nil → iu, flatMap_nil → iC, any_eq_true → iD, isEmpty_iff → iE, sum_cons → jd, map_nil → jC, take_nil → kJ, mem_cons_of_mem → kR, forIn_cons → lE, sum_append → lF, map_eq_nil_iff → ma, eraseIdx_cons_succ → po, not_mem_nil → pt, filterMap_cons → sA, mem_map_of_mem → sB, filter_sublist → sC, zip_cons_cons → tP, filter_append → tQ, all_map → vj, filter_congr → vm, length_range → vn, reverse_cons → vp, eraseIdx_eq_take_drop_succ → vH, mem_nil_iff → wb, getElem_mem → we, map_id → xQ, all_append → xV, dropLast_concat_getLast → xY, forIn_nil → zn, length_eraseIdx_of_lt → zo, filterMap_cons_some → AR, map_take → AS, mem_of_mem_eraseIdx → AU, eraseIdx_cons_zero → CB, drop_eq_nil_of_le → CI, take_of_length_le → CJ, mem_of_mem_drop → Fg, mem_erase_of_ne → Fh, append_toArray → GQ, flatMap_append → GR, take_succ_cons → GS, contains_cons → G3
open Nat renaming le_trans → aa, le_of_eq → ah, le_refl → ak, le_add_right → ao, sub_add_cancel → az, le_antisymm → aC, le_add_left → aD, le_max_left → aS, le_of_succ_le → aW, le_of_succ_le_succ → aX, zero_le → a7, lt_of_le_of_lt → ba, succ_le_succ → bh, add_assoc → bz, mul_le_mul → bG, le_sub_one_of_lt → bI, add_le_add_left → bM, le_max_right → bQ, div_mul_le_self → bV, zero_add → ce, lt_of_succ_lt_succ → cp, le_of_not_lt → cB, add_right_comm → cL, lt_succ_of_le → cS, casesAuxOn → cZ, lt_of_lt_of_le → dc, sub_le → dH, pow_le_pow_right → dJ, mul_le_mul_right → dK, le_succ_of_le → dQ, pow_le_pow_left → dR, min_le_left → dW, ne_of_lt → eg, mul_le_mul_left → eN, le_mul_of_pos_left → eW, lt_succ_self → fg, not_lt_zero → fT, le_of_lt → fU, add_comm → fV, mul_assoc → gh, succ → gA, casesOn → gM, lt_div_mul_add → gR, lt_irrefl → g9, le_of_lt_succ → ij, add_le_add_right → iB, ne_of_gt → jU, add_le_add → jV, mul_left_comm → jW, le_of_ble_eq_true → kC, not_succ_le_zero → ll, le_sub_of_add_le → lm, lt_two_pow_self → me, sub_le_sub_left → mf, beq → mr, lt_or_ge → ms, le_succ → nW, add_mul → nY, one_mul → nZ, mul_one → n0, le_mul_of_pos_right → pv, succ_pos → qr, mul_comm → qu, add_zero → qv, eq_of_beq_eq_true → rz, sub_self → vE, succ_min_succ → vF, pow_succ → vG, pow_one → xX, min_eq_left → yq, sub_eq_zero_of_le → Ff
open Option renaming map_eq_some_iff → aH, map_some → gO, bind_some → nV, getD_some → nX, map → sv
open PyProof.Rows renaming tail_any → o8, subscriptTail → GU
open PySem renaming PyData → ab, wpAny_bind → af, Shared → ag, Value → ai, wpAny_pure → ap, wpAny → au, Addr → aI, NameKind → aK, model → aZ, World → bi, Heap → bv, Around → bC, wpAny_holding → bD, wpAny_standAt → cy, Program → cD, sizeLine → cG, wpAny_call_entry → cT, DictEntry → cU, sizeLine_eq → dD, wpAny_mono → dN, wpAny_newObj_type → eO, pyIter → fQ, cLine → gB, wpAny_typeNameOfWhole_itemiter → gS, wpAny_truthy_bool → iF, wpAny_dictEntries → iG, sysModules → iW, IsItemIter → iX, notedBy → jg, wpAny_typeNameOf_itemiter → jh, assignInOrder → jA, wpAny_ite_false → jD, wpAny_rule → jX, rawInt → jY, wpAny_setField_rec → jZ, compareOp → j8, wpAny_field → j9, codeAny → kL, wpAny_notOrdered_dict → lG, assignEach → mc, bindName → mu, assign → m6, Scope → o7, MethodOn → o9, foldedSetIterable → pz, valueOrNone → pA, callEnvC → rB, pyNext → si, wpAny_isOneOf_itemiter → sn, codeAny_builtin → sD, letOwnedTupleGo → sE, ReadsAll → uK, wpAny_seqItems → uL, firstArgMember → uN, isTrue → uO, compEnvC → uQ, plainId_quiet → wf, IsItemIterOut → wg, strKind_is → xR, call_meets → xS, Result → xT, concat_meets → yr, wpAny_sequenceKey → yt, beq_builtin_none → AL, wpAny_isInstance → AM, noFill_tuple_add → AN, swapsWith → AO, wpAny_specialOf → CD, wpAny_loadPart' → CE, wpAny_dictEpoch → CF, wpAny_execs_nil → CG, wpAny_setField → D8, constantsAlone → D9, seq_tuple_add → GT, swappedStores → GV
open PySem.Calls renaming spliced_cons → nS, spliced_nil → py, callWith_builtin → rA, Name_function_global → uM, evalArgs_plain → uP
open PySem.Expr renaming casesOn → cI, Name → wc
open PySem.PyData renaming casesOn → aq, eqv → aO, canLayAll0 → bo, canLay0 → bN, strOk → bW, int → bX, depthAll → cf, eqvAll → cN, tuple → dB, depth → ed, str → e9, dict → fI
open PySem PySem.W PySem.Calls PyProof.Rows
open PySem.Str (ofString)
namespace Mine
inductive Ln where
 |v (i:Nat)
 |k (n:Nat)
 |s (x:Ln)
 |a (x y:Ln)
 |m (c:Nat) (x:Ln)
 |w (c:Nat) (x:Ln)
inductive Lc where
 |n
 |d (l r:Ln) (t:Lc)
 |c (k:Nat) (l r:Ln) (t:Lc)
noncomputable abbrev yA:=Ln.v 0
noncomputable abbrev yB:=Ln.v 1
noncomputable abbrev yC:=Ln.v 2
noncomputable abbrev yD:=Ln.v 3
noncomputable abbrev yE:=Ln.v 4
noncomputable abbrev yF:=Ln.v 5
noncomputable def J8{α:Type}(z:α):List α→Nat→α
 | [],_=>z
 |x::_,0=>x
 |_::r,i+1=>J8 z r i
noncomputable def AW(c:List Nat):Ln→Nat
 |.v i=>J8 0 c i
 |.k n=>n
 |.s x=>AW c x+1
 |.a x y=>AW c x+AW c y
 |.m k x=>k*AW c x
 |.w k x=>AW c x*k
noncomputable def NV(c:List Nat)(g:Prop):Lc→Prop
 |.n=>g
 |.d l r t=>AW c l≤AW c r→NV c g t
 |.c _ l r t=>AW c l≤AW c r→NV c g t
noncomputable def J9:List Int→Nat→Int→List Int
 | [],0,z=> [z]
 | [],i+1,z=>0::J9 [] i z
 |x::r,0,z=>(x+z)::r
 |x::r,i+1,z=>x::J9 r i z
noncomputable def Ea:Ln→Int→List Int→List Int
 |.v i,z,p=>J9 p (i+1) z
 |.k n,z,p=>J9 p 0 (z*n)
 |.s x,z,p=>Ea x z (J9 p 0 z)
 |.a x y,z,p=>Ea x z (Ea y z p)
 |.m k x,z,p=>Ea x (z*k) p
 |.w k x,z,p=>Ea x (z*k) p
noncomputable def NW:Lc→List Int→List Int
 |.n,p=>p
 |.d l r t,p=>NW t (Ea r 1 (Ea l (-1) p))
 |.c k l r t,p=>NW t (Ea r k (Ea l (-k) p))
noncomputable def N4:List Int→Bool
 | []=>false
 |x::r=>decide (x<0)&&r.all λy=>decide (y≤0)
noncomputable def MH(c:List Nat):List Int→Int
 | []=>0
 |x::r=>x*(J8 0 c 0:Nat)+MH c.tail r
noncomputable def Ka(c:List Nat):List Int→Int
 | []=>0
 |x::r=>x+MH c r
theorem AX(c:List Nat)(i:Nat):J8 0 c.tail i=J8 0 c (i+1):=by induction c using am<;>rfl
theorem AY(z:Int):∀(p:List Int)(i:Nat)(c:List Nat),MH c (J9 p i z)=MH c p+z*(J8 0 c i:Nat):=by
 have e0:∀(i:Nat)(c:List Nat),MH c (J9 [] i z)=0+z*(J8 0 c i:Nat):=λi=>by
  induction i with
  |zero=>exact λc=>iM _ _
  |succ i ih=>exact λc=>(congrArg (_+·) ((ih c.tail).trans (by rw[AX]))).trans ((congrArg (·+_) (Int.zero_mul _)).trans (iN _))
 intro p
 induction p with
 |nil=>exact e0
 |cons x r ih=>
  intro i c
  induction i using cZ with
  |zero=>exact(congrArg (·+MH c.tail r) (Int.add_mul x z _)).trans (JW _ _ _)
  |succ i=>exact(congrArg (x*(J8 0 c 0:Nat)+·) ((ih i c.tail).trans (by rw[AX]))).trans (kQ _ _ _).symm
theorem AZ(z:Int)(p:List Int)(c:List Nat):Ka c (J9 p 0 z)=Ka c p+z:=by
 induction p using am with
 |nil=>exact iM z 0
 |cons x r=>exact JW x z _
theorem Fi(z:Int)(p:List Int)(i:Nat)(c:List Nat):Ka c (J9 p (i+1) z)=Ka c p+z*(J8 0 c i:Nat):=by
 induction p using am with
 |nil=>exact(congrArg (0+·) (AY z [] i c)).trans (kQ 0 0 _).symm
 |cons x r=>exact(congrArg (x+·) (AY z r i c)).trans (kQ x _ _).symm
theorem tR(c:List Nat)(e:Ln):∀(z:Int)(p:List Int),Ka c (Ea e z p)=Ka c p+z*(AW c e:Nat):=by
 induction e with
 |v i=>exact λz p=>Fi z p i c
 |k n=>exact λz p=>AZ _ p c
 |s x h=>exact λz p=>(h z _).trans (by rw[AZ,kQ,iM z];exact congrArg (_+·) ((Int.mul_add z (AW c x:Nat) 1).trans (congrArg (_+·) (nT z))).symm)
 |a x y h1 h2=>exact λz p=>(h1 z _).trans (by rw[h2,kQ,iM (z*_)];exact congrArg (_+·) (Int.mul_add z _ _).symm)
 |m k x h=>exact λz p=>(h _ p).trans (congrArg (_+·) (Int.mul_assoc z k _))
 |w k x h=>exact λz p=>(h _ p).trans (congrArg (_+·) ((Int.mul_assoc z k _).trans (congrArg (z*·) (Int.mul_comm _ _))))
theorem Kb(c:List Nat)(p:List Int):(p.all λy=>decide (y≤0))=true→MH c p≤0:=by
 induction p generalizing c with
 |nil=>exact λ_=>e8 0
 |cons x r ih=>
  intro h;have h:=Bool.and_eq_true_iff.mp (eV▸h);exact Int.add_nonpos (Int.mul_nonpos_of_nonpos_of_nonneg (of_decide_eq_true h.1) (dG _)) (ih _ h.2)
theorem Kc{c:List Nat}{p:List Int}(h:N4 p=true):Ka c p<0:=by
 induction p using am with
 |nil=>cases h
 |cons x r=>
  have h:=Bool.and_eq_true_iff.mp h;exact uJ (Int.add_le_add_left (Kb c r h.2) x) (by rw[Int.add_zero];exact of_decide_eq_true h.1)
theorem G4{a d:Int}{k l r:Nat}(hl:l≤r)(w:a+ -(k:Int)*l+k*r<d):a<d:=
 uJ (by
  rw[Int.neg_mul,kQ];exact Int.le_add_of_nonneg_right (iM _ _▸Int.sub_nonneg.mpr (cH (Int.ofNat_le.mpr hl) (dG k)))) w
theorem Eb{c:List Nat}{g:Prop}(t:Lc):∀(p:List Int),N4 (NW t p)=true→(Ka c p<0→g)→NV c g t:=by
 induction t with
 |n=>exact λp h k=>k (Kc h)
 |d l r t ih=>exact λp h q hl=>ih _ h λw=>q (G4 (k:=1) hl (by rw[tR,tR]at w;exact w))
 |c k l r t ih=>exact λp h q hl=>ih _ h λw=>q (G4 hl (by rw[tR,tR]at w;exact w))
theorem nk(c:List Nat)(t:Lc)(k:Nat)(l r:Ln)(h:N4 (NW t (Ea l k (Ea r (-k) [-k])))=true):NV c (AW c l≤AW c r) t:=
 Eb t _ h λw=>cB λq=>by
  rw[tR,tR]at w;refine Int.lt_irrefl 0 (uJ ?_ w);have:=cH (Int.ofNat_le.mpr (Nat.succ_le_of_lt q)) (dG k);rw[show((AW c r).succ:Int)=(AW c r:Int)+1 from rfl,Int.mul_add,nT]at this;show(0:Int)≤-(k:Int)+0+_+_;rw[Int.add_zero,Int.neg_mul,←Int.neg_add,iM,iM (k:Int)];exact Int.sub_nonneg.mpr this
theorem nw(c:List Nat)(t:Lc)(l r:Ln)(h:N4 (NW t (Ea l 1 (Ea r (-1) [-1])))=true):NV c (AW c l≤AW c r) t:=nk c t 1 l r h
theorem nz(c:List Nat)(t:Lc)(h:N4 (NW t [])=true):NV c False t:=Eb t _ h λw=>by simp[Ka]at w
theorem nsN{α:Type}{a:α}{P:Prop}(h:none=some a):P:=nomatch h
theorem sN{α:Type}{a:α}{P:Prop}(h:some a=none):P:=nomatch h
theorem cg{α:Type}{a:α}{P:Prop}(h:a∈([]:List α)):P:=nomatch h
theorem dC{P:Prop}(h:false=true):P:=nomatch h
theorem m7{P:Prop}(h:true=false):P:=nomatch h
theorem Qo{p:Prop}(h:(p→False)→False):p:=Classical.byContradiction h
theorem a6(a b:Nat):a≤a-b+b:=Nat.sub_le_iff_le_add.mp (ak _)
theorem dX{a b:Nat}{p:Prop}(h:max a b≤a→p)(h':max a b≤b→p):p:=by
 refine(Nat.le_total a b).elim (λq=>?_) λq=>?_
 ·exact h' (Nat.max_le.mpr ⟨q,ak _⟩)
 ·exact h (Nat.max_le.mpr ⟨ak _,q⟩)
theorem Fj{a b:Nat}{p:Prop}(h:a≤min a b→p)(h':b≤min a b→p):p:=by
 refine(Nat.le_total a b).elim (λq=>?_) λq=>?_
 ·exact h (Nat.le_min.mpr ⟨ak _,q⟩)
 ·exact h' (Nat.le_min.mpr ⟨q,ak _⟩)
theorem Px{α:Type}{P:List α→Prop}{l:List α}(h:2≤l.length)(k:∀a b r,P (a::b::r)):P l:=by
 rcases l with _|⟨a,_|⟨b,l⟩⟩
 ·exact absurd h (ll 1)
 ·exact absurd (aX h) (ll 0)
 ·exact k a b l
theorem aB{A B:Prop}{Z:Prop}(h:A∧B)(k:A→B→Z):Z:=k h.1 h.2
theorem dE{A B C:Prop}{Z:Prop}(h:A∧B∧C)(k:A→B→C→Z):Z:=k h.1 h.2.1 h.2.2
theorem eL{A B C D:Prop}{Z:Prop}(h:A∧B∧C∧D)(k:A→B→C→D→Z):Z:=k h.1 h.2.1 h.2.2.1 h.2.2.2
theorem m8{A B C D E:Prop}{Z:Prop}(h:A∧B∧C∧D∧E)(k:A→B→C→D→E→Z):Z:=k h.1 h.2.1 h.2.2.1 h.2.2.2.1 h.2.2.2.2
theorem CK{A B C D E F:Prop}{Z:Prop}(h:A∧B∧C∧D∧E∧F)(k:A→B→C→D→E→F→Z):Z:=k h.1 h.2.1 h.2.2.1 h.2.2.2.1 h.2.2.2.2.1 h.2.2.2.2.2
theorem N5{A B C D E F G:Prop}{Z:Prop}(h:A∧B∧C∧D∧E∧F∧G)(k:A→B→C→D→E→F→G→Z):Z:=k h.1 h.2.1 h.2.2.1 h.2.2.2.1 h.2.2.2.2.1 h.2.2.2.2.2.1 h.2.2.2.2.2.2
theorem Py{A B C D E F G H:Prop}{Z:Prop}(h:A∧B∧C∧D∧E∧F∧G∧H)(k:A→B→C→D→E→F→G→H→Z):Z:=k h.1 h.2.1 h.2.2.1 h.2.2.2.1 h.2.2.2.2.1 h.2.2.2.2.2.1 h.2.2.2.2.2.2.1 h.2.2.2.2.2.2.2
theorem aY{α:Sort _}{A:α→Prop}{Z:Prop}(h:∃x,A x)(k:∀x,A x→Z):Z:=h.elim λx h=>k x h
theorem aG{α:Sort _}{A B:α→Prop}{Z:Prop}(h:∃x,A x∧B x)(k:∀x,A x→B x→Z):Z:=h.elim λx h=>k x h.1 h.2
theorem eo{α:Sort _}{A B C:α→Prop}{Z:Prop}(h:∃x,A x∧B x∧C x)(k:∀x,A x→B x→C x→Z):Z:=h.elim λx h=>k x h.1 h.2.1 h.2.2
theorem Pz{α:Sort _}{A B C D:α→Prop}{Z:Prop}(h:∃x,A x∧B x∧C x∧D x)(k:∀x,A x→B x→C x→D x→Z):Z:=h.elim λx h=>k x h.1 h.2.1 h.2.2.1 h.2.2.2
theorem MI{α:Sort _}{A B C D E:α→Prop}{Z:Prop}(h:∃x,A x∧B x∧C x∧D x∧E x)(k:∀x,A x→B x→C x→D x→E x→Z):Z:=h.elim λx h=>k x h.1 h.2.1 h.2.2.1 h.2.2.2.1 h.2.2.2.2
theorem fe{α:Sort _}{β:Sort _}{A:α→β→Prop}{Z:Prop}(h:∃x y,A x y)(k:∀x y,A x y→Z):Z:=h.elim λx h=>h.elim λy h=>k x y h
theorem ff{α:Sort _}{β:Sort _}{A B:α→β→Prop}{Z:Prop}(h:∃x y,A x y∧B x y)(k:∀x y,A x y→B x y→Z):Z:=h.elim λx h=>h.elim λy h=>k x y h.1 h.2
theorem dS{α:Sort _}{β:Sort _}{A B C:α→β→Prop}{Z:Prop}(h:∃x y,A x y∧B x y∧C x y)(k:∀x y,A x y→B x y→C x y→Z):Z:=h.elim λx h=>h.elim λy h=>k x y h.1 h.2.1 h.2.2
theorem kD{α:Sort _}{β:Sort _}{A B C D:α→β→Prop}{Z:Prop}(h:∃x y,A x y∧B x y∧C x y∧D x y)(k:∀x y,A x y→B x y→C x y→D x y→Z):Z:=h.elim λx h=>h.elim λy h=>k x y h.1 h.2.1 h.2.2.1 h.2.2.2
theorem Kd{α:Sort _}{β:Sort _}{A B C D E F:α→β→Prop}{Z:Prop}(h:∃x y,A x y∧B x y∧C x y∧D x y∧E x y∧F x y)(k:∀x y,A x y→B x y→C x y→D x y→E x y→F x y→Z):Z:=h.elim λx h=>h.elim λy h=>k x y h.1 h.2.1 h.2.2.1 h.2.2.2.1 h.2.2.2.2.1 h.2.2.2.2.2
theorem CL{α:Sort _}{β:Sort _}{A B C D E F G:α→β→Prop}{Z:Prop}(h:∃x y,A x y∧B x y∧C x y∧D x y∧E x y∧F x y∧G x y)(k:∀x y,A x y→B x y→C x y→D x y→E x y→F x y→G x y→Z):Z:=h.elim λx h=>h.elim λy h=>k x y h.1 h.2.1 h.2.2.1 h.2.2.2.1 h.2.2.2.2.1 h.2.2.2.2.2.1 h.2.2.2.2.2.2
theorem wi{α:Sort _}{β:Sort _}{γ:Sort _}{A:α→β→γ→Prop}{Z:Prop}(h:∃x y z,A x y z)(k:∀x y z,A x y z→Z):Z:=h.elim λx h=>h.elim λy h=>h.elim λz h=>k x y z h
theorem Ke{α:Sort _}{β:Sort _}{γ:Sort _}{A B:α→β→γ→Prop}{Z:Prop}(h:∃x y z,A x y z∧B x y z)(k:∀x y z,A x y z→B x y z→Z):Z:=h.elim λx h=>h.elim λy h=>h.elim λz h=>k x y z h.1 h.2
theorem xZ{α:Sort _}{β:Sort _}{γ:Sort _}{A B C:α→β→γ→Prop}{Z:Prop}(h:∃x y z,A x y z∧B x y z∧C x y z)(k:∀x y z,A x y z→B x y z→C x y z→Z):Z:=h.elim λx h=>h.elim λy h=>h.elim λz h=>k x y z h.1 h.2.1 h.2.2
theorem lH{α:Sort _}{β:Sort _}{γ:Sort _}{A B C D:α→β→γ→Prop}{Z:Prop}(h:∃x y z,A x y z∧B x y z∧C x y z∧D x y z)(k:∀x y z,A x y z→B x y z→C x y z→D x y z→Z):Z:=h.elim λx h=>h.elim λy h=>h.elim λz h=>k x y z h.1 h.2.1 h.2.2.1 h.2.2.2
theorem A0{α:Sort _}{β:Sort _}{γ:Sort _}{A B C D E:α→β→γ→Prop}{Z:Prop}(h:∃x y z,A x y z∧B x y z∧C x y z∧D x y z∧E x y z)(k:∀x y z,A x y z→B x y z→C x y z→D x y z→E x y z→Z):Z:=h.elim λx h=>h.elim λy h=>h.elim λz h=>k x y z h.1 h.2.1 h.2.2.1 h.2.2.2.1 h.2.2.2.2
theorem PA{α:Sort _}{β:Sort _}{γ:Sort _}{A B C D E F:α→β→γ→Prop}{Z:Prop}(h:∃x y z,A x y z∧B x y z∧C x y z∧D x y z∧E x y z∧F x y z)(k:∀x y z,A x y z→B x y z→C x y z→D x y z→E x y z→F x y z→Z):Z:=h.elim λx h=>h.elim λy h=>h.elim λz h=>k x y z h.1 h.2.1 h.2.2.1 h.2.2.2.1 h.2.2.2.2.1 h.2.2.2.2.2
theorem vq{α:Sort _}{β:Sort _}{γ:Sort _}{δ:Sort _}{A:α→β→γ→δ→Prop}{Z:Prop}(h:∃x y z u,A x y z u)(k:∀x y z u,A x y z u→Z):Z:=h.elim λx h=>h.elim λy h=>h.elim λz h=>h.elim λu h=>k x y z u h
theorem N6{α:Sort _}{β:Sort _}{γ:Sort _}{δ:Sort _}{A B:α→β→γ→δ→Prop}{Z:Prop}(h:∃x y z u,A x y z u∧B x y z u)(k:∀x y z u,A x y z u→B x y z u→Z):Z:=h.elim λx h=>h.elim λy h=>h.elim λz h=>h.elim λu h=>k x y z u h.1 h.2
theorem PB{α:Sort _}{β:Sort _}{γ:Sort _}{δ:Sort _}{A B C:α→β→γ→δ→Prop}{Z:Prop}(h:∃x y z u,A x y z u∧B x y z u∧C x y z u)(k:∀x y z u,A x y z u→B x y z u→C x y z u→Z):Z:=h.elim λx h=>h.elim λy h=>h.elim λz h=>h.elim λu h=>k x y z u h.1 h.2.1 h.2.2
theorem G5{α:Sort _}{β:Sort _}{γ:Sort _}{δ:Sort _}{A B C D:α→β→γ→δ→Prop}{Z:Prop}(h:∃x y z u,A x y z u∧B x y z u∧C x y z u∧D x y z u)(k:∀x y z u,A x y z u→B x y z u→C x y z u→D x y z u→Z):Z:=h.elim λx h=>h.elim λy h=>h.elim λz h=>h.elim λu h=>k x y z u h.1 h.2.1 h.2.2.1 h.2.2.2
theorem Kf{α:Sort _}{β:Sort _}{γ:Sort _}{δ:Sort _}{A B C D E:α→β→γ→δ→Prop}{Z:Prop}(h:∃x y z u,A x y z u∧B x y z u∧C x y z u∧D x y z u∧E x y z u)(k:∀x y z u,A x y z u→B x y z u→C x y z u→D x y z u→E x y z u→Z):Z:=h.elim λx h=>h.elim λy h=>h.elim λz h=>h.elim λu h=>k x y z u h.1 h.2.1 h.2.2.1 h.2.2.2.1 h.2.2.2.2
theorem PC{α:Sort _}{β:Sort _}{γ:Sort _}{δ:Sort _}{ε:Sort _}{A:α→β→γ→δ→ε→Prop}{Z:Prop}(h:∃x y z u v,A x y z u v)(k:∀x y z u v,A x y z u v→Z):Z:=h.elim λx h=>h.elim λy h=>h.elim λz h=>h.elim λu h=>h.elim λv h=>k x y z u v h
theorem PD{α:Sort _}{β:Sort _}{γ:Sort _}{δ:Sort _}{ε:Sort _}{A B:α→β→γ→δ→ε→Prop}{Z:Prop}(h:∃x y z u v,A x y z u v∧B x y z u v)(k:∀x y z u v,A x y z u v→B x y z u v→Z):Z:=h.elim λx h=>h.elim λy h=>h.elim λz h=>h.elim λu h=>h.elim λv h=>k x y z u v h.1 h.2
theorem wj{α:Sort _}{β:Sort _}{γ:Sort _}{δ:Sort _}{ε:Sort _}{A B C D:α→β→γ→δ→ε→Prop}{Z:Prop}(h:∃x y z u v,A x y z u v∧B x y z u v∧C x y z u v∧D x y z u v)(k:∀x y z u v,A x y z u v→B x y z u v→C x y z u v→D x y z u v→Z):Z:=h.elim λx h=>h.elim λy h=>h.elim λz h=>h.elim λu h=>h.elim λv h=>k x y z u v h.1 h.2.1 h.2.2.1 h.2.2.2
theorem MJ{α:Sort _}{β:Sort _}{γ:Sort _}{δ:Sort _}{ε:Sort _}{ζ:Sort _}{A B:α→β→γ→δ→ε→ζ→Prop}{Z:Prop}(h:∃x y z u v p,A x y z u v p∧B x y z u v p)(k:∀x y z u v p,A x y z u v p→B x y z u v p→Z):Z:=h.elim λx h=>h.elim λy h=>h.elim λz h=>h.elim λu h=>h.elim λv h=>h.elim λp h=>k x y z u v p h.1 h.2
theorem N7{α:Sort _}{β:Sort _}{γ:Sort _}{δ:Sort _}{ε:Sort _}{ζ:Sort _}{η:Sort _}{A:α→β→γ→δ→ε→ζ→η→Prop}{Z:Prop}(h:∃x y z u v p q,A x y z u v p q)(k:∀x y z u v p q,A x y z u v p q→Z):Z:=h.elim λx h=>h.elim λy h=>h.elim λz h=>h.elim λu h=>h.elim λv h=>h.elim λp h=>h.elim λq h=>k x y z u v p q h
theorem aV{α:Sort _}{A B:α→Prop}(x:α)(h0:A x)(h1:B x):∃x,A x∧B x:=⟨x,h0,h1⟩
theorem iw{α:Sort _}{A B C:α→Prop}(x:α)(h0:A x)(h1:B x)(h2:C x):∃x,A x∧B x∧C x:=⟨x,h0,h1,h2⟩
theorem G6{α:Sort _}{A B C D:α→Prop}(x:α)(h0:A x)(h1:B x)(h2:C x)(h3:D x):∃x,A x∧B x∧C x∧D x:=⟨x,h0,h1,h2,h3⟩
theorem MK{α:Sort _}{A B C D E:α→Prop}(x:α)(h0:A x)(h1:B x)(h2:C x)(h3:D x)(h4:E x):∃x,A x∧B x∧C x∧D x∧E x:=⟨x,h0,h1,h2,h3,h4⟩
theorem ik{α:Sort _}{β:Sort _}{A:α→β→Prop}(x:α)(y:β)(h0:A x y):∃x y,A x y:=⟨x,y,h0⟩
theorem kS{α:Sort _}{β:Sort _}{A B:α→β→Prop}(x:α)(y:β)(h0:A x y)(h1:B x y):∃x y,A x y∧B x y:=⟨x,y,h0,h1⟩
theorem kT{α:Sort _}{β:Sort _}{A B C:α→β→Prop}(x:α)(y:β)(h0:A x y)(h1:B x y)(h2:C x y):∃x y,A x y∧B x y∧C x y:=⟨x,y,h0,h1,h2⟩
theorem zp{α:Sort _}{β:Sort _}{A B C D:α→β→Prop}(x:α)(y:β)(h0:A x y)(h1:B x y)(h2:C x y)(h3:D x y):∃x y,A x y∧B x y∧C x y∧D x y:=⟨x,y,h0,h1,h2,h3⟩
theorem PE{α:Sort _}{β:Sort _}{A B C D E:α→β→Prop}(x:α)(y:β)(h0:A x y)(h1:B x y)(h2:C x y)(h3:D x y)(h4:E x y):∃x y,A x y∧B x y∧C x y∧D x y∧E x y:=⟨x,y,h0,h1,h2,h3,h4⟩
theorem zq{α:Sort _}{β:Sort _}{γ:Sort _}{A:α→β→γ→Prop}(x:α)(y:β)(z:γ)(h0:A x y z):∃x y z,A x y z:=⟨x,y,z,h0⟩
theorem PG{α:Sort _}{β:Sort _}{γ:Sort _}{A B:α→β→γ→Prop}(x:α)(y:β)(z:γ)(h0:A x y z)(h1:B x y z):∃x y z,A x y z∧B x y z:=⟨x,y,z,h0,h1⟩
theorem CM{α:Sort _}{β:Sort _}{γ:Sort _}{A B C:α→β→γ→Prop}(x:α)(y:β)(z:γ)(h0:A x y z)(h1:B x y z)(h2:C x y z):∃x y z,A x y z∧B x y z∧C x y z:=⟨x,y,z,h0,h1,h2⟩
theorem N8{α:Sort _}{β:Sort _}{γ:Sort _}{A B C D:α→β→γ→Prop}(x:α)(y:β)(z:γ)(h0:A x y z)(h1:B x y z)(h2:C x y z)(h3:D x y z):∃x y z,A x y z∧B x y z∧C x y z∧D x y z:=⟨x,y,z,h0,h1,h2,h3⟩
theorem ML{α:Sort _}{β:Sort _}{γ:Sort _}{A B C D E:α→β→γ→Prop}(x:α)(y:β)(z:γ)(h0:A x y z)(h1:B x y z)(h2:C x y z)(h3:D x y z)(h4:E x y z):∃x y z,A x y z∧B x y z∧C x y z∧D x y z∧E x y z:=⟨x,y,z,h0,h1,h2,h3,h4⟩
theorem PH{α:Sort _}{β:Sort _}{γ:Sort _}{A B C D E F:α→β→γ→Prop}(x:α)(y:β)(z:γ)(h0:A x y z)(h1:B x y z)(h2:C x y z)(h3:D x y z)(h4:E x y z)(h5:F x y z):∃x y z,A x y z∧B x y z∧C x y z∧D x y z∧E x y z∧F x y z:=⟨x,y,z,h0,h1,h2,h3,h4,h5⟩
theorem CN{α:Sort _}{β:Sort _}{γ:Sort _}{δ:Sort _}{A:α→β→γ→δ→Prop}(x:α)(y:β)(z:γ)(u:δ)(h0:A x y z u):∃x y z u,A x y z u:=⟨x,y,z,u,h0⟩
theorem MM{α:Sort _}{β:Sort _}{γ:Sort _}{δ:Sort _}{A B:α→β→γ→δ→Prop}(x:α)(y:β)(z:γ)(u:δ)(h0:A x y z u)(h1:B x y z u):∃x y z u,A x y z u∧B x y z u:=⟨x,y,z,u,h0,h1⟩
theorem Kg{α:Sort _}{β:Sort _}{γ:Sort _}{δ:Sort _}{A B C D:α→β→γ→δ→Prop}(x:α)(y:β)(z:γ)(u:δ)(h0:A x y z u)(h1:B x y z u)(h2:C x y z u)(h3:D x y z u):∃x y z u,A x y z u∧B x y z u∧C x y z u∧D x y z u:=⟨x,y,z,u,h0,h1,h2,h3⟩
theorem G7{α:Sort _}{β:Sort _}{γ:Sort _}{δ:Sort _}{A B C D E:α→β→γ→δ→Prop}(x:α)(y:β)(z:γ)(u:δ)(h0:A x y z u)(h1:B x y z u)(h2:C x y z u)(h3:D x y z u)(h4:E x y z u):∃x y z u,A x y z u∧B x y z u∧C x y z u∧D x y z u∧E x y z u:=⟨x,y,z,u,h0,h1,h2,h3,h4⟩
theorem Fk{α:Sort _}{β:Sort _}{γ:Sort _}{δ:Sort _}{ε:Sort _}{A:α→β→γ→δ→ε→Prop}(x:α)(y:β)(z:γ)(u:δ)(v:ε)(h0:A x y z u v):∃x y z u v,A x y z u v:=⟨x,y,z,u,v,h0⟩
theorem PI{α:Sort _}{β:Sort _}{γ:Sort _}{δ:Sort _}{ε:Sort _}{A B C D:α→β→γ→δ→ε→Prop}(x:α)(y:β)(z:γ)(u:δ)(v:ε)(h0:A x y z u v)(h1:B x y z u v)(h2:C x y z u v)(h3:D x y z u v):∃x y z u v,A x y z u v∧B x y z u v∧C x y z u v∧D x y z u v:=⟨x,y,z,u,v,h0,h1,h2,h3⟩
theorem N9{α:Sort _}{β:Sort _}{γ:Sort _}{δ:Sort _}{ε:Sort _}{ζ:Sort _}{A B:α→β→γ→δ→ε→ζ→Prop}(x:α)(y:β)(z:γ)(u:δ)(v:ε)(p:ζ)(h0:A x y z u v p)(h1:B x y z u v p):∃x y z u v p,A x y z u v p∧B x y z u v p:=⟨x,y,z,u,v,p,h0,h1⟩
theorem PJ{α:Sort _}{β:Sort _}{γ:Sort _}{δ:Sort _}{ε:Sort _}{ζ:Sort _}{A B C:α→β→γ→δ→ε→ζ→Prop}(x:α)(y:β)(z:γ)(u:δ)(v:ε)(p:ζ)(h0:A x y z u v p)(h1:B x y z u v p)(h2:C x y z u v p):∃x y z u v p,A x y z u v p∧B x y z u v p∧C x y z u v p:=⟨x,y,z,u,v,p,h0,h1,h2⟩
theorem PK{α:Sort _}{β:Sort _}{γ:Sort _}{δ:Sort _}{ε:Sort _}{ζ:Sort _}{η:Sort _}{A:α→β→γ→δ→ε→ζ→η→Prop}(x:α)(y:β)(z:γ)(u:δ)(v:ε)(p:ζ)(q:η)(h0:A x y z u v p q):∃x y z u v p q,A x y z u v p q:=⟨x,y,z,u,v,p,q,h0⟩
theorem PL{α:Sort _}{β:Sort _}{γ:Sort _}{δ:Sort _}{ε:Sort _}{ζ:Sort _}{η:Sort _}{A B:α→β→γ→δ→ε→ζ→η→Prop}(x:α)(y:β)(z:γ)(u:δ)(v:ε)(p:ζ)(q:η)(h0:A x y z u v p q)(h1:B x y z u v p q):∃x y z u v p q,A x y z u v p q∧B x y z u v p q:=⟨x,y,z,u,v,p,q,h0,h1⟩
inductive B where
 |v (d:ab)
 |l (n:Nat)
inductive bE where
 |lst (xs:List B)
 |dct (kvs:List (ab×ab))
noncomputable abbrev fH:=List (Option bE)
noncomputable abbrev je:=List (Str×Option B)
structure St where
 ρ:je
 σ:fH
inductive Fl where
 |next|brk|cont
 |ret (b:B)
noncomputable def j0:List B→Option (List ab)
 | []=>some []
 |.v d::r=>(j0 r).map (d::·)
 |.l _::_=>none
theorem yv:(j0 []=some [])∧(∀(d:ab)(r:List B),j0 (B.v d::r)=sv (λx ↦ d::x) (j0 r))∧(∀(n:Nat)(tail:List B),j0 (B.l n::tail)=none):=⟨rfl,λ_ _=>rfl,λ_ _=>rfl⟩
noncomputable def hU:bE→Option ab
 |.lst bs=>(j0 bs).map .list
 |.dct kvs=>some (.dict kvs)
theorem CO(bs:List B):hU (.lst bs)=(j0 bs).map .list:=rfl
noncomputable def kE(n:Nat)(d:ab):Str×Option B→Str×Option B
 |(x,some (.l m))=>if m=n then(x,some (.v d))else(x,some (.l m))
 |p=>p
noncomputable def zr(b:B)(st:St):Option (ab×St):=match b with
 |.v d=>some (d,st)
 |.l n=>match st.σ[n]? with
  |some (some c)=>(hU c).map λd=>(d,⟨st.ρ.map (kE n d),st.σ.set n none⟩)
  |_=>none
noncomputable def iP(ρ:je)(x:Str)(b:B):je:=ρ.map λp=>if p.1==x then(p.1,some b)else p
noncomputable def G8:Const→Option ab
 |.none=>some .none
 |.bool b=>some (.bool b)
 |.int i=>some (.int i)
 |.str s=>some (.str s)
 |_=>none
noncomputable def yw:ab→Option Bool
 |.none=>some false
 |.bool b=>some b
 |.int i=>some (i !=0)
 |_=>none
noncomputable def jz(n:Nat):Bool:=decide (n≤1048576)
noncomputable def pB(i:Int):Bool:=decide (i.natAbs<2^64)
noncomputable def rC(f:Int→Int→Option ab)(a b:ab):Option ab:=match a with
 |.int x=>(match b with|.int y=>f x y|_=>none)
 |_=>none
noncomputable def PM(a b:ab):Option ab:=match a with
 |.int x=>(match b with|.int y=>some (.int (x+y))|_=>none)
 |.tuple xs=>(match b with|.tuple ys=>if jz (xs.length+ys.length)then some (.tuple (xs++ys))else none|_=>none)
 |.list xs=>(match b with|.list ys=>if jz (xs.length+ys.length)then some (.list (xs++ys))else none|_=>none)
 |_=>none
noncomputable def jE(op:Operator)(a b:ab):Option ab:=match op with
 |.Add=>PM a b
 |.Sub=>rC (λx y=>some (.int (x-y))) a b
 |.Mult=>rC (λx y=>if pB x&&pB y then some (.int (x*y))else none) a b
 |.FloorDiv=>rC (λx y=>if decide (y.natAbs<1073741824)&&y !=0 then some (.int (x.fdiv y))else none) a b
 |.Mod=>rC (λx y=>if y !=0 then some (.int (x.fmod y))else none) a b
 |.Pow=>rC (λx y=>if pB x&&decide (0≤y)&&decide (y≤5000)then some (.int (x^y.toNat))else none) a b
 |_=>none
noncomputable def gE(kvs:List (ab×ab))(k:ab):Option ab:=(kvs.find? λp=>aO p.1 k).map (·.2)
noncomputable def m9(kvs:List (ab×ab))(k v:ab):List (ab×ab):=
 if kvs.any λp=>aO p.1 k then kvs.map λp=>if aO p.1 k then(p.1,v)else p else kvs++ [(k,v)]
noncomputable def sF(kvs:List (ab×ab))(k:ab):List (ab×ab):=kvs.filter λp=>!aO p.1 k
mutual
noncomputable def bT:ab→Bool
 |.int _=>true
 |.str x=>bW x
 |.tuple xs=>il xs
 |_=>false
noncomputable def il:List ab→Bool
 | []=>true
 |x::r=>bT x&&il r
end
theorem hX:(il []=true)∧(∀(x_1:ab)(r:List ab),il (x_1::r)=(bT x_1&&il r)):=⟨rfl,λ_ _=>rfl⟩
theorem jF:(∀(i:Int),bT (bX i)=true)∧(∀(x_1:Str),bT (e9 x_1)=bW x_1)∧(∀(xs:List ab),bT (dB xs)=il xs):=⟨λ_=>rfl,λ_=>rfl,λ_=>rfl⟩
noncomputable def iH(d:ab):Bool:=(match d with|.tuple _=>true|_=>false)&&bT d&&decide (d.depth≤8)
noncomputable def ci:ab→Bool
 |.str x=>bW x
 |_=>false
noncomputable def cP(kvs:List (ab×ab))(k:ab):Bool:=
 (ci k&&kvs.all λp=>ci p.1)||(iH k&&kvs.all λp=>iH p.1)
noncomputable def ji(kvs:List (ab×ab)):Bool:=kvs.all λp=>ci p.1&&SeqAt.shaped p.2
noncomputable def mU(a b:List (ab×ab)):Bool:=a.length==b.length&&a.all λp=>match gE b p.1 with|some w=>aO p.2 w|none=>false
noncomputable def Fn(a b:ab):Option Bool:=
 if SeqAt.shaped a&&SeqAt.shaped b then some (aO a b)else match a,b with
 |.list xs,.list []=>some xs.isEmpty
 |_,_=>none
noncomputable def Kh(d:ab)(xs:List ab):Option Bool:=
 if SeqAt.shaped d&&xs.all SeqAt.shaped then some (xs.any λy=>aO y d)else match d with
 |.dict kvs=>if ji kvs&&xs.all (λy=>match y with|.dict ws=>ji ws|_=>false)then some (xs.any λy=>match y with|.dict ws=>mU ws kvs|_=>false)else none
 |_=>none
noncomputable def zs:ab→Bool
 |.none=>true
 |_=>false
noncomputable def QY(a b:ab):Option Bool:=if SeqAt.shaped a&&SeqAt.shaped b then some (!aO a b)else none
noncomputable def Ki(f:Int→Int→Bool)(a b:ab):Option Bool:=match a with
 |.int x=>(match b with|.int y=>some (f x y)|_=>none)
 |_=>none
noncomputable def QZ(a b:ab):Option Bool:=match a with
 |.str x=>(match b with|.str y=>some (decide (x.cps.toList<y.cps.toList))|_=>none)
 |.int x=>(match b with|.int y=>some (decide (x<y))|_=>none)
 |_=>none
noncomputable def Qp(n:Bool)(a b:ab):Option Bool:=match b with
 |.none=>some (match n with|true=>zs a|false=>!zs a)
 |_=>none
noncomputable def Kj(a:ab)(xs:List ab):Option Bool:=if SeqAt.shaped a&&xs.all SeqAt.shaped then some (xs.any λy=>aO y a)else none
noncomputable def PN(a b:ab):Option Bool:=match b with
 |.list xs=>Kj a xs
 |.tuple xs=>Kj a xs
 |.dict kvs=>if ci a&&cP kvs a then some (gE kvs a).isSome else none
 |_=>none
noncomputable def Oa(a b:ab):Option Bool:=match b with
 |.list xs=>(Kh a xs).map (!·)
 |.tuple xs=>(Kj a xs).map (!·)
 |_=>none
noncomputable def wk(op:CmpOp)(a b:ab):Option Bool:=match op with
 |.Eq=>Fn a b
 |.NotEq=>QY a b
 |.Lt=>QZ a b
 |.LtE=>Ki (λx y=>decide (x≤y)) a b
 |.Gt=>Ki (λx y=>decide (x>y)) a b
 |.GtE=>Ki (λx y=>decide (x≥y)) a b
 |.Is=>Qp true a b
 |.IsNot=>Qp false a b
 |.In=>PN a b
 |.NotIn=>Oa a b
noncomputable def Fo{α:Type}(xs:List α)(i:Int):Option α:=match i with
 |.ofNat n=>match Nat.blt n 4611686018427387904 with
  |true=>xs[n]?
  |false=>none
 |.negSucc _=>none
theorem Ec{α:Type}{xs:List α}{i:Int}{a:α}(h:Fo xs i=some a):∃n:Nat,i=n∧n<4611686018427387904∧xs[n]?=some a:=by
 induction i using Int.casesOn with
 |negSucc _=>exact nsN h
 |ofNat n=>
  have h:(match Nat.blt n 4611686018427387904 with|true=>xs[n]?|false=>none)=some a:=h
  induction q:Nat.blt n 4611686018427387904<;>rw[q]at h
  ·exact nsN h
  ·exact iw n rfl (kC q) h
noncomputable def G9(xs:List ab)(i:ab):Option ab:=match i with
 |.int k=>Fo xs k
 |_=>none
theorem Ed{xs:List ab}{i a:ab}(h:G9 xs i=some a):∃n:Nat,i=.int n∧n<4611686018427387904∧xs[n]?=some a:=by
 induction i using aq<;>first|exact nsN h|exact dC h|(cases h;done)|skip
 refine aG (Ec h) λn e h=>?_;exact aV n (congrArg bX e) h
theorem gU{α:Type}{c:Prop} [Decidable c]{a d:α}(h:(if c then some a else none)=some d):c∧a=d:=by
 by_cases q:c
 ·rw[if_pos q]at h;exact⟨q,Option.some.inj h⟩
 ·rw[if_neg q]at h;exact nsN h
noncomputable def tS(o:ab)(l u:Option ab):Option ab:=match o with
 |.str x=>(match l,u with
  |some (.int k),none=>if k= -1 then(x.cps.toList.getLast?).map λc=>.str ⟨#[c]⟩else none
  |_,_=>none)
 |.list xs=>(match l with
  |some (.int a)=>(match u with|none=>if 0≤a then some (.list (xs.drop a.toNat))else none|_=>none)
  |none=>(match u with|some (.int b)=>if 0≤b then some (.list (xs.take b.toNat))else none|_=>none)
  |_=>none)
 |.tuple xs=>(match l,u with
  |some (.int a),none=>if 1≤a∧a≤xs.length then some (.tuple (xs.drop a.toNat))else none
  |_,_=>none)
 |_=>none
noncomputable def jB:ab→Option (List ab)
 |.list xs=>some xs
 |.tuple xs=>some xs
 |_=>none
noncomputable def Ha:ab→Option Nat
 |.list xs=>some xs.length
 |.tuple xs=>some xs.length
 |_=>none
noncomputable def iO:List ab→Option (List (ab×ab))
 | []=>some []
 |.tuple [a,b]::r=>(iO r).map ((a,b)::·)
 |_::_=>none
theorem yx:(iO []=some [])∧(∀(a b:ab)(r:List ab),iO (dB [a,b]::r)=sv (λx ↦ (a,b)::x) (iO r)):=⟨rfl,λ_ _ _=>rfl⟩
noncomputable def fq:List (ab×ab)→List (ab×ab)→Option (List (ab×ab))
 |acc,[]=>some acc
 |acc,(k,v)::r=>if ci k&&jz acc.length then fq (m9 acc k v) r else none
theorem j2:(∀(x:List (ab×ab)),fq x []=some x)∧(∀(x:List (ab×ab))(k v:ab)(r:List (ab×ab)),fq x ((k,v)::r)=if(ci k&&jz x.length)=true then fq (m9 x k v) r else none):=⟨λ_=>rfl,λ_ _ _ _=>rfl⟩
noncomputable def A3:List ab→List ab→List ab
 |a::r,b::t=>.tuple [a,b]::A3 r t
 |_,_=> []
noncomputable def kM(n:Nat):List ab→List ab
 | []=> []
 |a::r=>.tuple [.int n,a]::kM (n+1) r
theorem Kk:(∀(n:Nat),kM n []= [])∧(∀(n:Nat)(x_1:ab)(r:List ab),kM n (x_1::r)=dB [bX ↑n,x_1]::kM (n+1) r):=⟨λ_=>rfl,λ_ _ _=>rfl⟩
noncomputable def lI(a b:Int):List ab:=(bF (b-a).toNat).map λ(i:Nat)=>.int (a+(i:Int))
noncomputable def mW(i:Int):Bool:=decide (i.natAbs<2^20)
noncomputable def Ob(a:ab):Option ab:=match a with
 |.int x=>some (.int x.natAbs)
 |_=>none
noncomputable def one(f:ab→Option ab)(as:List ab):Option ab:=match as with
 | [a]=>f a
 |_=>none
noncomputable def two(f:ab→ab→Option ab)(as:List ab):Option ab:=match as with
 | [a,b]=>f a b
 |_=>none
noncomputable def Oc(as:List ab):Option ab:=two (rC λa b=>some (.int (if b>a then b else a))) as
noncomputable def Od(as:List ab):Option ab:=two (rC λa b=>some (.int (if b<a then b else a))) as
noncomputable def Oe(as:List ab):Option ab:=one (λa=>(jB a).map .tuple) as
theorem wl{f:Int→Int→Option ab}{a b d:ab}(h:rC f a b=some d):∃x y,a=.int x∧b=.int y∧f x y=some d:=by
 induction a using aq<;>first|exact nsN h|exact dC h|(cases h;done)|skip
 induction b using aq<;>first|exact nsN h|exact dC h|(cases h;done)|exact kT _ _ rfl rfl h
theorem Hb{f:ab→Option ab}{as:List ab}{d:ab}(h:one f as=some d):∃a,as= [a]∧f a=some d:=by
 induction as using am with
 |nil=>exact nsN h
 |cons a r=>induction r using am with
  |nil=>exact aV a rfl h
  |cons _ _=>exact nsN h
theorem MN{f:ab→ab→Option ab}{as:List ab}{d:ab}(h:two f as=some d):∃a b,as= [a,b]∧f a b=some d:=by
 induction as using am with
 |nil=>exact nsN h
 |cons a r=>induction r using am with
  |nil=>exact nsN h
  |cons b r=>induction r using am with
   |nil=>exact kS a b rfl h
   |cons _ _=>exact nsN h
noncomputable def CQ:List (Str×ab):=
 [(ofString "MOST_BITS",.int 200000),(ofString "T_ONE",.tuple [.str (ofString "num"),.int 1,.int 1]),(ofString "MOST_NARROW",.int 100),
  (ofString "ZERO",.tuple [.str (ofString "num"),.int 0,.int 1]),(ofString "ONE",.tuple [.str (ofString "num"),.int 1,.int 1]),(ofString "MINUS_ONE",.tuple [.str (ofString "num"),.int (-1),.int 1]),
  (ofString "EXP_ONE",.tuple [.str (ofString "call"),.str (ofString "exp"),.tuple [.tuple [.str (ofString "num"),.int 1,.int 1]]]),
  (ofString "ODD_CALLS",.tuple [.str (ofString "sin"),.str (ofString "tan"),.str (ofString "atan")]),
  (ofString "MOST_PARTS",.int 6),(ofString "MOST_TRIES",.int 100000),(ofString "MOST_LEVELS",.int 120),(ofString "MOST_TERMS",.int 20000),
  (ofString "RANKS",.dict [(.str (ofString "sym"),.int 0),(.str (ofString "call"),.int 1),(.str (ofString "sum"),.int 2),(.str (ofString "prod"),.int 3),(.str (ofString "num"),.int 4),(.str (ofString "pow"),.int 5),(.str (ofString "eq"),.int 6),(.str (ofString "list"),.int 7)])]
noncomputable def Of(f:Str)(i:Nat):Bool:=
 (i==0&&(f==ofString "_law_take"||f==ofString "_law_leaf"||f==ofString "_law_term"||f==ofString "_law_opened"||f==ofString "_law_lead_out"))||
 (i==3&&(f==ofString "match_rows"||f==ofString "match_with"))||(i==4&&f==ofString "match_parts")
noncomputable def builtins:List String:= ["len","list","tuple","dict","min","max","abs","sum","range","enumerate","zip"]
noncomputable def dF(e:Expr):Bool:=!mr e.ctorIdx 22
noncomputable def tU(e:Expr):Bool:=!mr e.ctorIdx 7
noncomputable def kg(e:Expr):Bool:=!mr e.ctorIdx 26
noncomputable def Ef(e:Expr):Bool:=!(mr e.ctorIdx 8||(mr e.ctorIdx 9||mr e.ctorIdx 10))
noncomputable def Hc(e:Expr):Bool:=mr e.ctorIdx 16
noncomputable def PO(e:Expr):Bool:=mr e.ctorIdx 25
noncomputable def lJ(o:Expr)(apos pos:Pos)(args:List Expr):Bool:=!Hc o&&apos.endLine==pos.line&&args.all dF&&decide (args.length<20)
noncomputable def qw(names:List (Str×aK))(ρ:je)(scope:o7)(gens:List Comprehension):Bool:=
 scope.kind==.function&&scope.names.all (λx=>x.2 !=.cell&&(x.2 !=.local||scope.names.lookup x.1==some .local)&&(x.2 !=.free||(names.lookup x.1==some .cell&&(ρ.lookup x.1).isSome&&scope.names.lookup x.1==some .free)))
  &&(scope.names.lookup (ofString "__debug__")).isNone&&gens.all (λg=>g.is_async==0&&tU g.iter)
noncomputable def yy(names:List (Str×aK)):Expr→Bool
 |.Name x _=>names.lookup x==some .local
 |.Tuple ts _ _=>ts.all λt=>match t with|.Name x _=>names.lookup x==some .local|_=>false
 |_=>false
noncomputable def sG:Expr→Bool
 |.Call (.Name f _) _ _ _=>f==ofString "enumerate"||f==ofString "zip"
 |.Call (.Attribute ..) _ _ _=>true
 |_=>false
noncomputable def mw(names:List (Str×aK))(ρ:je):je:=
 names.filterMap λp=>if p.2==.local&&p.1 !=ofString ".0" then some (p.1,none)else if p.2==.free then(ρ.lookup p.1).map λb=>(p.1,b)else none
noncomputable def vI:Expr→Bool
 |.List .. =>true
 |.Dict .. =>true
 |.ListComp .. =>true
 |.Call (.Name f _) _ _ _=>f==ofString "list"||f==ofString "dict"
 |_=>false
noncomputable def eZ(ρ:je):List (Str×B)→Option je
 | []=>some ρ
 |(x,b)::r=>if(ρ.lookup x).isSome then eZ (iP ρ x b) r else none
theorem jG:(∀(ρ:je),eZ ρ []=some ρ)∧(∀(ρ:je)(x_1:Str)(b:B)(r:List (Str×B)),eZ ρ ((x_1,b)::r)=if(List.lookup x_1 ρ).isSome=true then eZ (iP ρ x_1 b) r else none):=⟨λ_=>rfl,λ_ _ _ _=>rfl⟩
structure sr where
 params:List Str
 body:List Stmt
 names:List (Str×aK)
noncomputable def zt(f:Str):List Str:=
 if f=ofString "flat_parts"∨f=ofString "merged_terms" then [ofString "found"]
 else if f=ofString "gathered_sum" then [ofString "counts"]
 else if f=ofString "gathered_product" then [ofString "exponents",ofString "found"]
 else if f=ofString "match_rows"∨f=ofString "bind_blank"∨f=ofString "_law_rows" then [ofString "later"]
 else if f=ofString "match_parts" then [ofString "rows"]
 else if f=ofString "_law_opened" then [ofString "parts"]
 else if f=ofString "_law_both" then [ofString "found"]
 else if f=ofString "_law_parted" then [ofString "some"]
 else if f=ofString "_law_lead_out" then [ofString "rules"]
 else []
noncomputable def rJ(f:Str):Bool:=f==ofString "_law_box"
noncomputable def Og:B→Nat
 |.v _=>0
 |.l n=>n+1
noncomputable def mh(args:List B):Nat:=args.foldr (λb m=>max (Og b) m) 0
section
variable {P:ab→Prop} (hi:∀i,P (.int i)) (hs:∀x,bW x=true→P (.str x)) (ht:∀xs,(∀x∈xs,bT x=true∧P x)→P (.tuple xs))
include hi hs ht
mutual
theorem qx:∀d:ab,bT d=true→P d
 |.int i,_=>hi i
 |.str x,h=>hs x h
 |.tuple xs,h=>ht xs (A4 xs h)
theorem A4:∀xs:List ab,il xs=true→∀x∈xs,bT x=true∧P x
 | [],_,_,m=>nomatch m
 |y::r,h,x,m=>by
  have h:=Bool.and_eq_true_iff.mp h;cases m with
  |head=>exact⟨h.1,qx y h.1⟩
  |tail _ m=>exact A4 r h.2 x m
end
end
theorem n7(d:ab)(h:bT d=true):d.canLay0=true:=by
 refine qx (P:=λd=>d.canLay0=true) (λ_=>by simp[bN]) (λx h=>by simpa[bN]using h) (λxs h=>?_) d h;have:bo xs=true:=by
  induction xs with
  |nil=>simp[bo]
  |cons x r ih=>simp[bo,(h x (.head _)).2,ih λy hy=>h y (.tail _ hy)]
 simpa[bN]using this
theorem x0(d:ab)(h:bT d=true):∀e:ab,bT e=true→(aO d e=true↔d=e):=by
 refine qx (P:=λd=>∀e:ab,bT e=true→(aO d e=true↔d=e)) (λi e k=>?_) (λx _ e k=>?_) (λxs h e k=>?_) d h
 ·induction e using aq<;>first|exact nsN k|exact dC k|(cases k;done)|simp[aO]
 ·induction e using aq<;>first|exact nsN k|exact dC k|(cases k;done)|simp[aO]
 ·induction e using aq<;>first|exact nsN k|exact dC k|(cases k;done)|(simp[aO];done)|skip
  rename_i ys
  replace k:il ys=true:=k
  have:cN xs ys=true↔xs=ys:=by
   induction xs generalizing ys with
   |nil=>induction ys using am<;>simp[cN]
   |cons x r ih=>induction ys using am with
    |nil=>simp[cN]
    |cons y t=>
     have k:=Bool.and_eq_true_iff.mp k;simp only[cN,ay,(h x (.head _)).2 y k.1,ih (λz hz=>h z (.tail _ hz)) t k.2,List.cons.injEq]
  simp only[aO,dB.injEq];exact this
theorem d6(d e:ab)(h:bT d=true)(k:bT e=true):aO d e=true↔d=e:=x0 d h e k
open Classical in
theorem zu{d e:ab}(h:bT d=true)(k:bT e=true):aO d e=decide (d=e):=by
 by_cases q:d=e
 ·refine decide_eq_true q ..▸?_;exact(d6 d e h k).mpr q
 ·refine decide_eq_false q ..▸?_;exact Bool.eq_false_iff.mpr λx=>q ((d6 d e h k).mp x)
mutual
noncomputable def hashP(w:bi):ab→Int
 |.int i=>hashInt i
 |.str x=>hashStr w x
 |.tuple xs=>reduceHash (Builtin.Tuple.tupleHashOf (zv w xs))
 |_=>0
noncomputable def zv(w:bi):List ab→List Int
 | []=> []
 |x::r=>hashP w x::zv w r
end
theorem Kl:(∀(w:bi)(i:Int),hashP w (bX i)=hashInt i)∧(∀(w:bi)(x_1:Str),hashP w (e9 x_1)=hashStr w x_1)∧(∀(w:bi)(xs:List ab),hashP w (dB xs)=reduceHash (Builtin.Tuple.tupleHashOf (zv w xs))):=⟨λ_ _=>rfl,λ_ _=>rfl,λ_ _=>rfl⟩
mutual
noncomputable def gn:ab→Nat
 |.int _=>1
 |.str _=>1
 |.tuple xs=>zw xs+1
 |_=>0
noncomputable def zw:List ab→Nat
 | []=>0
 |x::r=>gn x+zw r
end
section
variable {prog:cD} {w:bi} {E:ai→ag→Prop}
theorem wm(k:ab)(v:ai)(as:List aI)(A:bC)(s:ag)(Q:Int→ag→Prop)(hk:bT k=true):Reads s.heap v k as→A.units+k.depth<gB→
  Q (hashP w k) {s with toks:=s.toks+gn k}→au (aZ prog w) A (pyHash v) Q E s:=by
 refine qx (P:=λk=>∀(v:ai)(as:List aI)(A:bC)(s:ag)(Q:Int→ag→Prop),Reads s.heap v k as→A.units+k.depth<gB→Q (hashP w k) {s with toks:=s.toks+gn k}→au (aZ prog w) A (pyHash v) Q E s)
  (λi v as A s Q x _ h=>by cases x;exact wpAny_pyHash_int h) (λy _ v as A s Q x _ h=>by cases x;exact wpAny_pyHash_str h) (λxs ih v as A s Q x hu h=>?_) k hk v as A s Q
 cases x with
 |@tuple a o vs n _ _ hg hc hd hw=>
  refine pyHash_slot (T:="tuple") (aV _ hg hc) F.slot_tuple_hash F.entry_tuple_hash (F.args_tuple_hash_1 _) (AL _) (.inr (nw [_,_,_] (.d (.s (.a yA yB)) yC .n) (.s yA) yC rfl hu)) ?_;show au _ _ (Builtin.Tuple.tupleItemsOf (.ref a)>>=_) _ _ s;refine af (wpAny_tupleItemsOf hg hd ?_);refine af ?_;rw[←Array.forIn_toList];have hu:A.in1.units+cf xs<gB:=by
   simp only[ed]at hu;show A.units+1+_<gB;exact nw [_,_,_] (.d (.s (.a yA (.s yB))) yC .n) (.s (.a (.s yA) yB)) yC rfl hu
  have loop:∀(xs:List ab)(vs:List ai)(as:List aI)(s:ag)(b:Array Int)(Q:Array Int→ag→Prop),(∀x∈xs,bT x=true∧∀(v:ai)(as:List aI)(A:bC)(s:ag)(Q:Int→ag→Prop),Reads s.heap v x as→A.units+x.depth<gB→Q (hashP w x) {s with toks:=s.toks+gn x}→au (aZ prog w) A (pyHash v) Q E s)→uK s.heap vs xs as→A.in1.units+cf xs<gB→
    (∀b',b'.toList=b.toList++zv w xs→Q b' {s with toks:=s.toks+zw xs})→au (aZ prog w) A.in1 (forIn vs b λx r=>do let h←pyHash x;pure PUnit.unit;pure (ForInStep.yield (r.push h))) Q E s:=by
   intro xs
   induction xs with
   |nil=>intro vs as s b Q _ x _ h;cases x;exact ap (h b (aF _).symm)
   |cons k xs ihx=>
    intro vs as s b Q ih x hu h;cases x with
    |cons x1 x2=>
     simp only[cf]at hu;rw[lE];refine af (af ((ih k (.head _)).2 _ _ _ s _ x1 (nw [_,_,_,_] (.d (.s (.a yA yB)) yC (.d yD yB .n)) (.s (.a yA yD)) yC rfl hu (aS _ _)) ?_));refine af (ap (ap ?_));refine ihx _ _ _ _ Q (λy hy=>ih y (.tail _ hy)) x2 (nw [_,_,_,_] (.d (.s (.a yA yB)) yC (.d yD yB .n)) (.s (.a yA yD)) yC rfl hu (bQ _ _)) λb' hb=>?_;refine bz ..▸?_;exact(h b' (by refine hb ..▸Array.toList_push ..▸aw ..▸?_;rfl))
  refine loop xs vs.toList _ s #[] _ ih hw hu λb hb=>?_;show au _ _ (retInt (Builtin.Tuple.tupleHashOf b.toList)) _ _ _;refine hb ..▸?_;refine af (wpAny_mkInt (ap (kS _ _ rfl ?_)));exact h
theorem x5(n:Nat)(k:ab)(v:ai)(as:List aI)(A:bC)(s:ag)(Q:Bool→ag→Prop)(hk:bT k=true):Reads s.heap v k as→k.depth≤n→
  Q true s→au (aZ prog w) A (eqIsQuiet n v) Q E s:=by
 refine qx (P:=λk=>∀(n:Nat)(v:ai)(as:List aI)(s:ag)(Q:Bool→ag→Prop),Reads s.heap v k as→k.depth≤n→Q true s→au (aZ prog w) A (eqIsQuiet n v) Q E s)
  (λi n v as s Q x _ h=>by cases x;rw[eqIsQuiet_byValue n rfl];exact ap h) (λy _ n v as s Q x _ h=>by cases x;rw[eqIsQuiet_byValue n rfl];exact ap h) (λxs ih n v as s Q x hn h=>?_) k hk n v as s Q
 simp only[ed]at hn
 induction n using cZ with
 |zero=>cases hn
 |succ n=>
 cases x with
 |@tuple a o vs m _ as' hg hc hd hw=>
  unfold eqIsQuiet;refine af (CD (aV _ hg hc) F.slot_tuple_eq.lookup ?_);show au _ _ (isInstance (.ref a) (.type "tuple")>>=_) _ _ s;refine af (AM (aV _ hg hc) isSubtype_tuple_tuple ?_);simp only[nU,bR,if_false];refine af (uL hg hd ?_);refine af ?_;show au _ _ (forIn vs _ _) _ _ s;rw[←Array.forIn_toList];refine wpAny_forIn_list _ (λrest r s'=>r.1=none∧s'=s∧∃ds bs,uK s.heap rest ds bs∧(∀d∈ds,d∈xs)∧cf ds≤n) _ ?_ ?_ _ _ ⟨rfl,rfl,xs,_,hw,λ_ q=>q,aX hn⟩
  ·rintro v rest r s' ⟨hr,rfl,ds,bs,hds,hpk,hdp⟩
   cases hds with
   |cons h1 h2=>
    simp only[cf]at hdp;refine af ((ih _ (hpk _ (.head _))).2 n _ _ s' _ h1 (aa (aS _ _) hdp) ?_);simp only[nU,bR,if_false];exact ap ⟨rfl,rfl,_,_,h2,λd q=>hpk d (.tail _ q),aa (bQ _ _) hdp⟩
  ·rintro ⟨r1,r2⟩ s' ⟨hr,rfl,_⟩
   simp only at hr;subst hr;exact ap h
end
structure Hd (h:bv) (d:ab) (a:aI):Prop where
 reads:∃as,Reads h (.ref a) d as
 plain:bT d=true
 deep:d.depth≤8
theorem x6{h h':bv}{d:aI}{o:Obj}{es:Array cU}{ep:Nat}(ho:h.get? d=some o)(hd:o.data=.dict es ep)(hs:Heap.SameBut d h h')
  (k:ab) (v:ai) (as:List aI) (hk:bT k=true):Reads h v k as→Reads h' v k as:=by
 refine qx (P:=λk=>∀(v:ai)(as:List aI),Reads h v k as→Reads h' v k as) (λ_ v as x=>by cases x;exact .int _ _) (λ_ _ v as x=>by cases x;exact .str _ _) (λxs ih v as x=>?_) k hk v as;cases x with
 |@tuple a o' vs n _ _ hg hc hdd hw=>
  have all:∀(vs:List ai)(as:List aI),uK h vs xs as→uK h' vs xs as:=by
   clear hw
   induction xs with
   |nil=>intro vs as x;cases x;exact .nil
   |cons k xs ihx=>intro vs as x;cases x with|cons x1 x2=>exact .cons ((ih k (.head _)).2 _ _ x1) (ihx (λy hy=>ih y (.tail _ hy)) _ _ x2)
  refine .tuple ((hs.2 a ?_).trans hg) hc hdd (all _ _ hw)
  rintro rfl
  rw[ho]at hg;obtain rfl:=Option.some.inj hg;rw[hd]at hdd;cases hdd
open Classical in
noncomputable def Eg(prog:cD)(w:bi):HeapKind prog w ab where
 is:=Hd
 hash:=hashP w
 draws:=gn
 room:=λA=>A.units+16<gB
 inj:=λx y=>by
  obtain⟨⟨as,r⟩,p,_⟩:=x;obtain⟨⟨bs,q⟩,_,_⟩:=y;exact SeqAt.Reads.unique _ _ _ _ _ (n7 _ p) r q
 keeps:=λx ho hd hs=>by
  obtain⟨⟨as,r⟩,p,q⟩:=x;exact⟨⟨as,x6 ho hd hs _ _ _ p r⟩,p,q⟩
 pyHash:=λhu x h=>by
  obtain⟨⟨as,r⟩,p,q⟩:=x;exact wm _ _ _ _ _ _ p r (nw [_,_,_] (.d (.s (.a yA (.k 16))) yB (.d yC (.k 8) .n)) (.s (.a yA yC)) yB rfl hu q) h
 eqBool:=λhu x y h=>by
  obtain⟨⟨as,r⟩,p,q⟩:=x;obtain⟨⟨bs,r'⟩,p',q'⟩:=y;exact SeqAt.eqAt_reads _ _ _ _ _ _ _ _ r r' (n7 _ p) (n7 _ p') (nw [_,_,_,_] (.d (.s (.a yA (.k 16))) yB (.d yC (.k 8) (.d yD yC .n))) (.s (.a yA yD)) yB rfl hu q (dW _ _)) _ _ _ _ (by refine zu p p' ..▸?_;exact h)
 quiet:=λx h=>by
  obtain⟨⟨as,r⟩,p,q⟩:=x;exact x5 8 _ _ _ _ _ _ p r q h
end Mine
set_option maxHeartbeats 0
namespace MineH
noncomputable def He(stp:SharedT→Thread→Option (SharedT×Thread))(ok:Thread→Bool):Nat→SharedT→Thread→Option SharedT
 |0,_,_=>none
 |n+1,s,t=>match through t with
  |true=>some s
  |false=>match ok t with
   |false=>none
   |true=>match stp s t with
    |some (s',t')=>He stp ok n s' t'
    |none=>none
theorem Fp{tb:String→Option Builtin}{p:cD}{w:bi}{n₀:Nat}{ann:Option ai}(n:Nat):∀(s:SharedT)(t:Thread)(r:SharedT),
  He (stepT (denote tb) p w) (stepOk n₀ ann) n s t=some r→topRun tb p w n₀ ann n s.abs t=some r.abs:=by
 induction n with
 |zero=>exact λ_ _ _ h=>Mine.nsN h
 |succ n ih=>
  intro s t r h
  have h:(match through t with
   |true=>some s
   |false=>match stepOk n₀ ann t with
    |false=>none
    |true=>match stepT (denote tb) p w s t with
     |some (s',t')=>He (stepT (denote tb) p w) (stepOk n₀ ann) n s' t'
     |none=>none)=some r:=h
  unfold topRun
  induction ht:through t with
  |true=>rw[ht]at h;exact Option.some.inj h▸rfl
  |false=>
   rw[ht]at h
   induction hk:stepOk n₀ ann t with
   |false=>rw[hk]at h;exact Mine.nsN h
   |true=>
    rw[hk]at h
    induction hs:stepT (denote tb) p w s t with
    |none=>rw[hs]at h;exact Mine.nsN h
    |some x=>
     obtain⟨s',t'⟩:=x
     rw[hs]at h
     rw[stepT_spec hs]
     exact ih s' t' r h
noncomputable abbrev pw:cD:=PySem.Challenge.pw_xm0110_01
noncomputable def Oh:Stmt→Bool
 |.Assign [.Name x _] _ _=>startupNames.contains x
 |_=>false
noncomputable def vw:cD:={pw with main:={pw.main with body:=pw.main.body.filter λs=>!Oh s}}
noncomputable def loose:List PySem.Str:= [ofString "RANKS",ofString "EXP_ONE",ofString "MOST_FACTORED"]
noncomputable def wn(P:Params):BT:=(bF 11).foldl (λt i=>t.ins i (((boot_heap P).objs[i]?).getD default)) .nil
theorem Hf(P:Params):absHeap (wn P) 11 (boot_heap P).life=boot_heap P:=by kernel_rfl
noncomputable abbrev PQ(w:bi)(os:OsState):SharedT:=⟨wn w.params,11,(boot_heap w.params).life,#[],boot_drawn,boot_toks,os⟩
noncomputable abbrev T':=PySem.W.Fast.tw14364793385576792824
noncomputable abbrev PR:=PySem.W.Fast.tw11892475500146522536
noncomputable abbrev MQ:=PySem.W.Fast.tw10156331382660048174
noncomputable abbrev Q0:=PySem.W.Fast.tw6613529449190102663
noncomputable abbrev fZ:=PySem.W.Fast.tw4187177175401517315
noncomputable abbrev lK(w:bi)(os:OsState)(n:Nat):Option SharedT:=He (MQ (PR T') pw w) (Q0 11 (some (.ref 6))) n (PQ w os) (topStub pw)
noncomputable abbrev xt:ag→Bool:=λs=>recOk [] s
noncomputable def MR:List (PySem.Str×ai):= [(ofString "MOST_BITS",.int 200000 261),(ofString "T_ONE",.ref 105),(ofString "MOST_NARROW",.int 100 317),(ofString "ZERO",.ref 229),(ofString "ONE",.ref 230),(ofString "MINUS_ONE",.ref 231),(ofString "EXP_ONE",.ref 234),(ofString "ODD_CALLS",.ref 235),(ofString "MOST_PARTS",.int 6 715),(ofString "MOST_TRIES",.int 100000 717),(ofString "MOST_LEVELS",.int 120 719),(ofString "MOST_TERMS",.int 20000 721),(ofString "RANKS",.ref 146)]
noncomputable def CR(vs:List ai):Obj:={cls:=.type "tuple",data:=.seq vs.toArray}
noncomputable def objs(w:bi):List (aI×Obj):= [(105,CR [.str (ofString "num") 313,.int 1 314,.int 1 315]),(229,CR [.str (ofString "num") 501,.int 0 502,.int 1 503]),(230,CR [.str (ofString "num") 505,.int 1 506,.int 1 507]),(231,CR [.str (ofString "num") 509,.int (-1) 511,.int 1 512]),(235,CR [.str (ofString "sin") 527,.str (ofString "tan") 528,.str (ofString "atan") 529]),
 (234,CR [.str (ofString "call") 518,.str (ofString "exp") 519,.ref 233]),(233,CR [.ref 230]),(146,{cls:=.type "dict",data:=.dict [⟨Mine.hashP w (.str (ofString "sym")),.str (ofString "sym") 365,.int 0 366⟩,⟨Mine.hashP w (.str (ofString "call")),.str (ofString "call") 367,.int 1 368⟩,⟨Mine.hashP w (.str (ofString "sum")),.str (ofString "sum") 369,.int 2 370⟩,⟨Mine.hashP w (.str (ofString "prod")),.str (ofString "prod") 371,.int 3 372⟩,⟨Mine.hashP w (.str (ofString "num")),.str (ofString "num") 373,.int 4 374⟩,⟨Mine.hashP w (.str (ofString "pow")),.str (ofString "pow") 375,.int 5 376⟩,⟨Mine.hashP w (.str (ofString "eq")),.str (ofString "eq") 377,.int 6 378⟩,⟨Mine.hashP w (.str (ofString "list")),.str (ofString "list") 379,.int 7 380⟩].toArray 8})]
noncomputable def Yf(s:ag):List (Option ai)×List (Option Obj):=(MR.map λp=>s.heap.nsMap mainGlobals p.1,[105,229,230,231,235,234,233,146].map s.heap.get?)
noncomputable def Ya(w:bi):List (Option ai)×List (Option Obj):=(MR.map λp=>some p.2,(objs w).map λp=>some p.2)
structure YP (w:bi) (h:bv):Prop where
 g:∀p∈MR,h.nsMap mainGlobals p.1=some p.2
 o:∀p∈objs w,h.get? p.1=some p.2
theorem Eh{α β:Type}{f g:α→β}{l:List α}(h:l.map f=l.map g):∀a∈l,f a=g a:=List.map_inj_left.mp h
theorem Qq(w:bi)(s:ag)(h:Yf s=Ya w):YP w s.heap:=by
 refine⟨Eh (f:=λp:PySem.Str×ai=>s.heap.nsMap mainGlobals p.1) (g:=λp=>some p.2) (Prod.mk.inj h).1,Eh (f:=λp:aI×Obj=>s.heap.get? p.1) (g:=λp=>some p.2) ?_⟩
 exact(Prod.mk.inj h).2
theorem Oi(w:bi)(h h':bv)(Y:YP w h)(k:∀b o,h.get? b=some o→h'.get? b=some o):YP w h':=by
 refine⟨λp hp=>?_,λp hp=>k _ _ (Y.o p hp)⟩
 have:=Y.g p hp
 unfold Heap.nsMap at this⊢
 induction q:h.get? mainGlobals with
 |none=>rw[q]at this;exact Mine.nsN this
 |some o=>rw[k _ _ q];rw[q]at this;exact this
theorem CS:opening pw=plainProg pw.main.scope.names:=by kernel_rfl
theorem Hg:∀s,fenceModules? pw s=some s:=λs=>by kernel_rfl
theorem Km(w:bi):((boot_heap w.params).isNs mainGlobals&&(Array.mk ([]:List GenState)).size==0,(boot_heap w.params).objs.size,(boot_heap w.params).nsMap mainGlobals "__annotations__")=(true,11,some (.ref 6)):=by kernel_rfl
noncomputable abbrev Ei(P:Params)(s:ag):Bool:=staticsOk (importedModules pw.main.body) (boot_heap P) s.heap&&namesBound pw s.heap&&gensDone s&&laidKept (boot_heap P) s.heap
noncomputable abbrev fw(w:bi)(b:Bool):bi:=w.withFollow "special-get-raises" b
theorem Hh(w:bi)(os:OsState):(lK (fw w false) os 3000).map (λs=>((Ei w.params s.abs,(fZ vw loose (importedModules pw.main.body) xt true s.abs).2.1),Yf s.abs))=some (((true,bltViewBooted),Ya (fw w false))):=by kernel_rfl
theorem Kn(w:bi)(os:OsState):(lK (fw w true) os 3000).map (λs=>((Ei w.params s.abs,(fZ vw loose (importedModules pw.main.body) xt true s.abs).2.1),Yf s.abs))=some (((true,bltViewBooted),Ya (fw w true))):=by kernel_rfl
theorem Hi(w:bi)(os:OsState):(lK (fw w false) os 3000).map (λs=>(fZ vw loose (importedModules pw.main.body) xt true s.abs).1)=some (expectedOf vw):=by kernel_rfl
theorem Ko(w:bi)(os:OsState):(lK (fw w true) os 3000).map (λs=>(fZ vw loose (importedModules pw.main.body) xt true s.abs).1)=some (expectedOf vw):=by kernel_rfl
theorem Hj(w:bi)(os:OsState):(lK (fw w false) os 3000).map (λs=>((fZ vw loose (importedModules pw.main.body) xt true s.abs).2.2.1,(fZ vw loose (importedModules pw.main.body) xt true s.abs).2.2.2.1))=some ((true,true)):=by kernel_rfl
theorem Kp(w:bi)(os:OsState):(lK (fw w true) os 3000).map (λs=>((fZ vw loose (importedModules pw.main.body) xt true s.abs).2.2.1,(fZ vw loose (importedModules pw.main.body) xt true s.abs).2.2.2.1))=some ((true,true)):=by kernel_rfl
theorem Hk(w:bi)(os:OsState):(lK (fw w false) os 3000).map (λs=>((fZ vw loose (importedModules pw.main.body) xt true s.abs).2.2.2.2.1,(fZ vw loose (importedModules pw.main.body) xt true s.abs).2.2.2.2.2.1,(fZ vw loose (importedModules pw.main.body) xt true s.abs).2.2.2.2.2.2.1))=some ((pinGoodD (drecsOf vw),plainGoodE vw (looseW vw loose),plainGoodD vw loose)):=by kernel_rfl
theorem Kq(w:bi)(os:OsState):(lK (fw w true) os 3000).map (λs=>((fZ vw loose (importedModules pw.main.body) xt true s.abs).2.2.2.2.1,(fZ vw loose (importedModules pw.main.body) xt true s.abs).2.2.2.2.2.1,(fZ vw loose (importedModules pw.main.body) xt true s.abs).2.2.2.2.2.2.1))=some ((pinGoodD (drecsOf vw),plainGoodE vw (looseW vw loose),plainGoodD vw loose)):=by kernel_rfl
theorem Hl(w:bi)(os:OsState):(lK (fw w false) os 3000).map (λs=>((fZ vw loose (importedModules pw.main.body) xt true s.abs).2.2.2.2.2.2.2.1,(fZ vw loose (importedModules pw.main.body) xt true s.abs).2.2.2.2.2.2.2.2))=some ((wideGood vw,clsGoodW vw loose)):=by kernel_rfl
theorem Kr(w:bi)(os:OsState):(lK (fw w true) os 3000).map (λs=>((fZ vw loose (importedModules pw.main.body) xt true s.abs).2.2.2.2.2.2.2.1,(fZ vw loose (importedModules pw.main.body) xt true s.abs).2.2.2.2.2.2.2.2))=some ((wideGood vw,clsGoodW vw loose)):=by kernel_rfl
theorem zx{α β:Type}{o:Option SharedT}{f:SharedT→α}{g:SharedT→β}{a:α}{b:β}(h:o.map f=some a)(k:o.map g=some b):o.map (λs=>(f s,g s))=some (a,b):=by
 obtain⟨r,rfl,rfl⟩:=aH.mp h
 exact congrArg some (Prod.ext rfl (Option.some.inj k))
theorem g1(w:bi)(os:OsState):(lK w os 3000).map (λs=>((Ei w.params s.abs,(fZ vw loose (importedModules pw.main.body) xt true s.abs).2.1),Yf s.abs))=some (((true,bltViewBooted),Ya w)):=by
 have e:=bi.withFollow_self w "special-get-raises"
 cases hb:w.params.followText "special-get-raises"<;>rw[hb]at e
 ·have:=Hh w os;unfold fw at this;rw[e]at this;exact this
 ·have:=Kn w os;unfold fw at this;rw[e]at this;exact this
theorem g2(w:bi)(os:OsState):(lK w os 3000).map (λs=>(fZ vw loose (importedModules pw.main.body) xt true s.abs).1)=some (expectedOf vw):=by
 have e:=bi.withFollow_self w "special-get-raises"
 cases hb:w.params.followText "special-get-raises"<;>rw[hb]at e
 ·have:=Hi w os;unfold fw at this;rw[e]at this;exact this
 ·have:=Ko w os;unfold fw at this;rw[e]at this;exact this
theorem g3(w:bi)(os:OsState):(lK w os 3000).map (λs=>((fZ vw loose (importedModules pw.main.body) xt true s.abs).2.2.1,(fZ vw loose (importedModules pw.main.body) xt true s.abs).2.2.2.1))=some ((true,true)):=by
 have e:=bi.withFollow_self w "special-get-raises"
 cases hb:w.params.followText "special-get-raises"<;>rw[hb]at e
 ·have:=Hj w os;unfold fw at this;rw[e]at this;exact this
 ·have:=Kp w os;unfold fw at this;rw[e]at this;exact this
theorem g4(w:bi)(os:OsState):(lK w os 3000).map (λs=>((fZ vw loose (importedModules pw.main.body) xt true s.abs).2.2.2.2.1,(fZ vw loose (importedModules pw.main.body) xt true s.abs).2.2.2.2.2.1,(fZ vw loose (importedModules pw.main.body) xt true s.abs).2.2.2.2.2.2.1))=some ((pinGoodD (drecsOf vw),plainGoodE vw (looseW vw loose),plainGoodD vw loose)):=by
 have e:=bi.withFollow_self w "special-get-raises"
 cases hb:w.params.followText "special-get-raises"<;>rw[hb]at e
 ·have:=Hk w os;unfold fw at this;rw[e]at this;exact this
 ·have:=Kq w os;unfold fw at this;rw[e]at this;exact this
theorem g5(w:bi)(os:OsState):(lK w os 3000).map (λs=>((fZ vw loose (importedModules pw.main.body) xt true s.abs).2.2.2.2.2.2.2.1,(fZ vw loose (importedModules pw.main.body) xt true s.abs).2.2.2.2.2.2.2.2))=some ((wideGood vw,clsGoodW vw loose)):=by
 have e:=bi.withFollow_self w "special-get-raises"
 cases hb:w.params.followText "special-get-raises"<;>rw[hb]at e
 ·have:=Hl w os;unfold fw at this;rw[e]at this;exact this
 ·have:=Kr w os;unfold fw at this;rw[e]at this;exact this
theorem left:LeftO pw vw loose xt Yf Ya 3000:=λw=>by
 obtain⟨⟨h,gs,d,k,os⟩,e,e'⟩:=aH.mp (boot_open (p:=pw) (N:=3000) CS rfl Hg w)
 obtain⟨rfl,rfl,rfl,rfl⟩:h=boot_heap w.params∧gs= #[]∧d=boot_drawn∧k=boot_toks:=by simpa using e'
 obtain⟨z1,z2,z3⟩:_∧_∧_:=by simpa only[Prod.mk.injEq]using Km w
 obtain⟨r,hr,hv⟩:=aH.mp (zx (zx (zx (zx (g1 w os) (g2 w os)) (g3 w os)) (g4 w os)) (g5 w os))
 obtain⟨⟨⟨⟨⟨⟨v1,b2⟩,v3⟩,b1⟩,b3,b4⟩,b5,b6,b7⟩,b8,b9⟩:(((((_∧_)∧_)∧_)∧_∧_)∧_∧_∧_)∧_∧_:=by simpa only[Prod.mk.injEq]using hv
 have hrun:He (stepT (denote treeTable) pw w) (stepOk 11 (some (.ref 6))) 3000 (PQ w os) (topStub pw)=some r:=by
  rw[PySem.W.Fast.te14364793385576792824,PySem.W.Fast.te11892475500146522536,PySem.W.Fast.te10156331382660048174,PySem.W.Fast.te6613529449190102663];exact hr
 have ht:=Fp _ _ _ _ hrun
 have ha:(PQ w os).abs=⟨boot_heap w.params,#[],boot_drawn,boot_toks,os⟩:=by
  show Shared.mk (absHeap (wn w.params) 11 (boot_heap w.params).life) #[] boot_drawn boot_toks os=_
  rw[Hf]
 rw[ha]at ht
 have t:topFrom treeTable pw w 3000 ⟨boot_heap w.params,#[],boot_drawn,boot_toks,os⟩=some r.abs:=by
  unfold topFrom
  dsimp only
  rw[z1,z2,z3,ht]
  show(match Ei w.params r.abs with|true=>_|false=>_)=_
  rw[v1]
 unfold openEnds
 rw[e]
 show(topFrom treeTable pw w 3000 _).map _=_
 rw[t]
 refine congrArg some (Prod.ext ?_ v3)
 show openSeen vw loose (importedModules pw.main.body) xt true r.abs=openGood vw loose
 rw[PySem.W.Fast.te4187177175401517315]
 exact Prod.ext b1 (Prod.ext b2 (Prod.ext b3 (Prod.ext b4 (Prod.ext b5 (Prod.ext b6 (Prod.ext b7 (Prod.ext b8 b9)))))))
theorem Q1:PySem.Challenge.rw_xm0110_01.wellSaid=true:=by kernel_rfl
end MineH
set_option maxHeartbeats 200000
namespace Mine
noncomputable abbrev Fz:=aI→Option Obj
noncomputable def x7(kvs:List (ab×ab)):Prop:=(kvs.map (·.1)).Nodup∧((kvs.all λp=>ci p.1)=true∨(kvs.all λp=>iH p.1)=true)∧kvs.length≤cG
inductive eP {α β:Type} (R:α→β→Prop):List α→List β→Prop
 |nil:eP R [] []
 |cons {v:α} {vs:List α} {d:β} {ds:List β}:R v d→eP R vs ds→eP R (v::vs) (d::ds)
section
variable {α β:Type} {R S:α→β→Prop} {vs vs':List α} {ds ds':List β}
theorem eP.imp(h:∀v d,R v d→S v d)(r:eP R vs ds):eP S vs ds:=by
 induction r with
 |nil=>exact .nil
 |cons a _ ih=>exact .cons (h _ _ a) ih
theorem eP.length(r:eP R vs ds):vs.length=ds.length:=by
 induction r with
 |nil=>rfl
 |cons _ _ ih=>exact congrArg gA ih
theorem eP.append(r:eP R vs ds)(h:eP R vs' ds'):eP R (vs++vs') (ds++ds'):=by
 induction r with
 |nil=>exact h
 |cons a _ ih=>exact .cons a ih
theorem eP.get(r:eP R vs ds):∀ {i:Nat} {d:β},ds[i]?=some d→∃v,vs[i]?=some v∧R v d:=by
 induction r with
 |nil=>exact λh=>nomatch h
 |cons a _ ih=>exact λ{i d}=>gM i (λh=>aV _ rfl (Option.some.inj h▸a)) λi h=>ih (i:=i) h
theorem eP.take(r:eP R vs ds):∀n,eP R (vs.take n) (ds.take n):=by
 induction r with
 |nil=>exact λn=>by refine(kJ ..).symm▸(kJ ..).symm▸?_;exact .nil
 |cons a _ ih=>exact λn=>gM n .nil λn=>.cons a (ih n)
theorem eP.drop(r:eP R vs ds):∀n,eP R (vs.drop n) (ds.drop n):=by
 induction r with
 |nil=>exact λn=>by refine(List.drop_nil ..).symm▸(List.drop_nil ..).symm▸?_;exact .nil
 |cons a b ih=>exact λn=>gM n (.cons a b) λn=>ih n
theorem eP.get2(r:eP R vs ds):∀ {i:Nat} {v:α} {d:β},vs[i]?=some v→ds[i]?=some d→R v d:=by
 induction r with
 |nil=>exact λh=>nomatch h
 |cons a _ ih=>exact λ{i v d}=>gM i (λh k=>Option.some.inj h▸Option.some.inj k▸a) λi h k=>ih (i:=i) h k
theorem eP.mem{v:α}(r:eP R vs ds)(h:v∈vs):∃d∈ds,R v d:=by
 induction r with
 |nil=>exact nomatch h
 |cons a _ ih=>cases h with
  |head=>exact aV _ (.head _) a
  |tail _ h=>exact(ih h).elim λd q=>aV d (.tail _ q.1) q.2
theorem eP.modify{f:α→α}{g:β→β}(h:∀v d,R v d→R (f v) (g d))(r:eP R vs ds):∀i,eP R (vs.modify i f) (ds.modify i g):=by
 induction r with
 |nil=>exact λi=>gM i .nil λ_=>.nil
 |cons a b ih=>exact λi=>gM i (.cons (h _ _ a) b) λi=>.cons a (ih i)
theorem eP.erase(r:eP R vs ds):∀i,eP R (vs.eraseIdx i) (ds.eraseIdx i):=by
 induction r with
 |nil=>exact λi=>.nil
 |cons a b ih=>exact λi=>gM i b λi=>.cons a (ih i)
theorem eP.set{v:α}{d:β}(h:R v d)(r:eP R vs ds):∀i,eP R (vs.set i v) (ds.set i d):=by
 induction r with
 |nil=>exact λi=>.nil
 |cons a b ih=>exact λi=>gM i (.cons h b) λi=>.cons a (ih i)
end
mutual
inductive Rp (w:bi) (G:Fz):ai→ab→Prop
 |none:Rp w G .none .none
 |bool (b:Bool):Rp w G (.bool b) (.bool b)
 |int (i:Int) (t:Tok):Rp w G (.int i t) (.int i)
 |str (x:Str) (t:Tok):Rp w G (.str x t) (.str x)
 |tuple {a:aI} {vs:List ai} {dd:Option aI} {n:Nat} {sl:Array (Option ai)} {xs:List ab}:G a=some {cls:=.type "tuple",dict:=dd,data:=.seq vs.toArray n,slots:=sl}→eP (Rp w G) vs xs→xs.length≤cG→Rp w G (.ref a) (.tuple xs)
 |list {a:aI} {vs:List ai} {n:Nat} {xs:List ab}:G a=some {cls:=.type "list",data:=.seq vs.toArray n}→eP (Rp w G) vs xs→xs.length≤cG→Rp w G (.ref a) (.list xs)
 |dict {a:aI} {es:List cU} {n:Nat} {kvs:List (ab×ab)}:G a=some {cls:=.type "dict",data:=.dict es.toArray n}→eP (Ph w G) es kvs→x7 kvs→(a==iW)=false→Rp w G (.ref a) (.dict kvs)
inductive Ph (w:bi) (G:Fz):cU→ab×ab→Prop
 |mk {e:cU} {p:ab×ab}:e.hash=hashP w p.1→Rp w G e.key p.1→Rp w G e.val p.2→Ph w G e p
end
abbrev ei(w:bi)(G:Fz):List ai→List ab→Prop:=eP (Rp w G)
abbrev mi(w:bi)(G:Fz):List cU→List (ab×ab)→Prop:=eP (Ph w G)
section
variable {w:bi} {G G':Fz}
theorem Rp.mono(hg:∀a o,G a=some o→G' a=some o){v:ai}{d:ab}(r:Rp w G v d):Rp w G' v d:=
 r.rec (motive_1:=λv d _=>Rp w G' v d) (motive_2:=λe p _=>Ph w G' e p) (motive_3:=λvs ds _=>ei w G' vs ds) (motive_4:=λes kvs _=>mi w G' es kvs) .none .bool .int .str (λh _ l i=>.tuple (hg _ _ h) i l) (λh _ l i=>.list (hg _ _ h) i l) (λh _ k q i=>.dict (hg _ _ h) i k q) (λe _ _ i j=>.mk e i j) .nil (λ_ _ i j=>.cons i j) .nil (λ_ _ i j=>.cons i j)
theorem ei.mono(hg:∀a o,G a=some o→G' a=some o){vs:List ai}{ds:List ab}(r:ei w G vs ds):ei w G' vs ds:=eP.imp (λ_ _=>Rp.mono hg) r
theorem eP.mono(hg:∀a o,G a=some o→G' a=some o){vs:List ai}{ds:List ab}(r:eP (Rp w G) vs ds):eP (Rp w G') vs ds:=ei.mono hg r
theorem mi.mono(hg:∀a o,G a=some o→G' a=some o){es:List cU}{kvs:List (ab×ab)}(r:mi w G es kvs):mi w G' es kvs:=eP.imp (λ_ _=>λ⟨e,a,b⟩=>.mk e (a.mono hg) (b.mono hg)) r
theorem Rp.reads{h:bv}(hg:∀a o,G a=some o→h.get? a=some o){v:ai}{d:ab}(r:Rp w G v d):∃as,Reads h v d as:=
 r.rec (motive_1:=λv d _=>∃as,Reads h v d as) (motive_2:=λe p _=>(∃as,Reads h e.key p.1 as)∧∃as,Reads h e.val p.2 as) (motive_3:=λvs ds _=>∃as,uK h vs ds as) (motive_4:=λ(es:List cU) (kvs:List (ab×ab)) _=>(∃as,uK h (es.map DictEntry.key) (kvs.map Prod.fst) as)∧∃as,uK h (es.map DictEntry.val) (kvs.map Prod.snd) as)
  ⟨_,.none⟩ (λb=>⟨_,.bool b⟩) (λi t=>⟨_,.int i t⟩) (λx t=>⟨_,.str x t⟩) (λe _ _ i=>i.elim λas q=>⟨_,.tuple (hg _ _ e) rfl rfl q⟩) (λe _ _ i=>i.elim λas q=>⟨_,.list (hg _ _ e) rfl rfl q⟩)
  (λe _ _ _ i=>i.1.elim λas q=>i.2.elim λbs q'=>⟨_,.dict (hg _ _ e) rfl rfl q q'⟩) (λ_ _ _ i j=>⟨i,j⟩) ⟨_,.nil⟩ (λ_ _ i j=>i.elim λ_ q=>j.elim λ_ q'=>⟨_,.cons q q'⟩) ⟨⟨_,.nil⟩,_,.nil⟩ (λ_ _ i k=>⟨i.1.elim λ_ q=>k.1.elim λ_ q'=>⟨_,.cons q q'⟩,i.2.elim λ_ q=>k.2.elim λ_ q'=>⟨_,.cons q q'⟩⟩)
end
noncomputable def rD(w:bi)(G:Fz)(θ:List aI)(v:ai):B→Prop
 |.v d=>Rp w G v d
 |.l n=>∃a,θ[n]?=some a∧v=.ref a
abbrev jj(w:bi)(G:Fz)(θ:List aI):List ai→List B→Prop:=eP (rD w G θ)
theorem rD.mono{w:bi}{G G':Fz}{θ θ':List aI}(hg:∀a o,G a=some o→G' a=some o)(ht:∃t,θ'=θ++t){v:ai}{b:B}(h:rD w G θ v b):rD w G' θ' v b:=by
 induction b using B.casesOn with
 |v d=>exact Rp.mono hg h
 |l n=>exact h.elim λa e=>ht.elim λt q=>aV a (by refine q ..▸List.getElem?_append_left (List.getElem?_eq_some_iff.mp e.1).1 ..▸?_;exact e.1) e.2
theorem jj.mono{w:bi}{G G':Fz}{θ θ':List aI}(hg:∀a o,G a=some o→G' a=some o)(ht:∃t,θ'=θ++t){vs:List ai}{bs:List B}(r:jj w G θ vs bs):jj w G' θ' vs bs:=eP.imp (λ_ _=>rD.mono hg ht) r
theorem jj.of_all{w:bi}{G:Fz}{θ:List aI}{vs:List ai}{ds:List ab}(r:ei w G vs ds):jj w G θ vs (ds.map .v):=by
 induction r with
 |nil=>exact .nil
 |cons a _ ih=>exact .cons a ih
theorem jj.set{w:bi}{G:Fz}{θ:List aI}{vs:List ai}{ds:List B}(r:jj w G θ vs ds){v:ai}{d:B}(h:rD w G θ v d)(i:Nat):jj w G θ (vs.set i v) (ds.set i d):=eP.set h r i
theorem jj.data{w:bi}{G:Fz}{θ:List aI}{vs:List ai}{bs:List B}(r:jj w G θ vs bs):∀ {ds:List ab},j0 bs=some ds→ei w G vs ds:=by
 induction r with
 |nil=>exact λh=>Option.some.inj h▸.nil
 |@cons v vs b bs a _ ih=>induction b using B.casesOn with
  |v d=>exact λh=>(aH.mp h).elim λr q=>q.2▸.cons a (ih q.1)
  |l n=>exact λh=>nomatch h
noncomputable def gP(w:bi)(G:Fz)(θ:List aI)(h:bv)(a:aI):bE→Prop
 |.lst bs=>∃vs n,h.get? a=some {cls:=.type "list",data:=.seq vs.toArray n}∧jj w G θ vs bs∧bs.length≤cG
 |.dct kvs=>∃es n,h.get? a=some {cls:=.type "dict",data:=.dict es.toArray n}∧mi w G es kvs∧x7 kvs∧(a==iW)=false
theorem gP.mono{w:bi}{G G':Fz}{θ θ':List aI}{h h':bv}{a:aI}(hg:∀a o,G a=some o→G' a=some o)(ht:∃t,θ'=θ++t)(hh:∀o,h.get? a=some o→h'.get? a=some o):
  ∀ {c:bE},gP w G θ h a c→gP w G' θ' h' a c:=λ{c} H=>by
 induction c with
 |lst _=>refine dS H λvs n e r l=>?_;clear H;exact⟨vs,n,hh _ e,jj.mono hg ht r,l⟩
 |dct _=>refine dS H λes n e r k=>?_;clear H;exact⟨es,n,hh _ e,mi.mono hg r,k⟩
theorem gP.there{w:bi}{G:Fz}{θ:List aI}{h:bv}{a:aI}:∀ {c:bE},gP w G θ h a c→∃o,h.get? a=some o:=λ{c} H=>by
 induction c with
 |lst _=>refine ff H λ_ _ e _=>?_;clear H;exact⟨_,e⟩
 |dct _=>refine ff H λ_ _ e _=>?_;clear H;exact⟨_,e⟩
structure Wd (w:bi) (h₀:bv) (G:Fz) (θ:List aI) (σ:fH) (h:bv):Prop where
 base:∀a o,h₀.get? a=some o→G a=some o
 froz:∀a o,G a=some o→h.get? a=some o
 len:θ.length=σ.length
 cell:∀(n:Nat)(c:bE),σ[n]?=some (some c)→∃a,θ[n]?=some a∧gP w G θ h a c∧G a=none
 nd:∀(n m:Nat)(a:aI),θ[n]?=some a→θ[m]?=some a→n=m
 dom:∀a∈θ,∃o,h.get? a=some o
 low:∀(n:Nat)(bs:List B),σ[n]?=some (some (.lst bs))→∀m:Nat,B.l m∈bs→m<n
theorem Wd.apart{w:bi}{h₀:bv}{G:Fz}{θ:List aI}{σ:fH}{h:bv}(W:Wd w h₀ G θ σ h)(n m:Nat)(a:aI)(c c':bE)(h1:θ[n]?=some a)(h2:θ[m]?=some a)(_:σ[n]?=some (some c))(_:σ[m]?=some (some c')):n=m:=W.nd n m a h1 h2
structure dg (F:List aI) (θ:List aI) (G:Fz) (h:bv) (θ':List aI) (G':Fz) (h':bv):Prop where
 pre:∃t,θ'=θ++t∧∀a∈t,h.get? a=none
 keep:∀a o,a∉θ→a∉F→h.get? a=some o→h'.get? a=some o
 grow:∀a o,G a=some o→G' a=some o
 newG:∀a o,h.get? a=some o→a∉θ→G' a=G a
 dom:∀a o,h.get? a=some o→∃o',h'.get? a=some o'
theorem dg.refl(F θ:List aI)(G:Fz)(h:bv):dg F θ G h θ G h:=⟨⟨[],by simp⟩,λ_ _ _ _ e=>e,λ_ _ e=>e,λ_ _ _ _=>rfl,λ_ o e=>⟨o,e⟩⟩
theorem dg.off{F θ θ':List aI}{G G':Fz}{h h':bv}(x:dg F θ G h θ' G' h'){a:aI}{o:Obj}(ha:a∉θ)(ho:h.get? a=some o):a∉θ':=λhm=>by
 refine aG x.pre λt e1 l1=>?_;rw[e1]at hm;refine(List.mem_append.mp hm).elim (λq=>?_) λq=>?_
 ·exact ha q
 ·rw[l1 a q]at ho;exact nsN ho
theorem dg.trans{F θ θ₁ θ₂:List aI}{G G₁ G₂:Fz}{h h₁ h₂:bv}(x:dg F θ G h θ₁ G₁ h₁)(y:dg F θ₁ G₁ h₁ θ₂ G₂ h₂):dg F θ G h θ₂ G₂ h₂:=by
 refine aG x.pre λt e1 l1=>?_;refine aG y.pre λt' e2 l2=>?_;refine⟨(aV (t++t') (e2 ..▸e1 ..▸aw ..▸rfl) (λa ha=>?_)),λa o ha hF e=>y.keep a o (x.off ha e) hF (x.keep a o ha hF e),λa o e=>y.grow a o (x.grow a o e),λa o e ha=>?_,λa o e=>?_⟩
 ·refine(List.mem_append.mp ha).elim (λq=>?_) λq=>?_
  ·exact l1 a q
  ·induction hq:h.get? a with
   |none=>rfl
   |some o=>refine aY (x.dom a o hq) λo' e'=>?_;rw[l2 a q]at e';exact nsN e'
 ·refine aY (x.dom a o e) λo' e'=>?_;exact y.newG a o' e' (x.off ha e) ..▸x.newG a o e ha ..▸rfl
 ·refine aY (x.dom a o e) λo' e'=>?_;exact y.dom a o' e'
theorem dg.weaken{F F' θ θ₁:List aI}{G G₁:Fz}{h h₁:bv}(x:dg F θ G h θ₁ G₁ h₁)(hf:∀a∈F,a∈F'):dg F' θ G h θ₁ G₁ h₁:=
 ⟨x.pre,λa o h1 h2 e=>x.keep a o h1 (λq=>h2 (hf a q)) e,x.grow,x.newG,x.dom⟩
theorem dg.of_keeps{F θ:List aI}{G:Fz}{h h':bv}(k:∀a o,h.get? a=some o→h'.get? a=some o):dg F θ G h θ G h':=
 ⟨⟨[],by simp⟩,λa o _ _ e=>k a o e,λ_ _ e=>e,λ_ _ _ _=>rfl,λa o e=>⟨o,k a o e⟩⟩
noncomputable def jf(G:Fz)(a:aI)(o:Obj):Fz:=λb=>if b=a then some o else G b
theorem ej(G:Fz)(a:aI)(o:Obj):jf G a o a=some o:=by simp[jf]
theorem cw{G:Fz}{a:aI}{o:Obj}(hn:G a=none):∀b o',G b=some o'→jf G a o b=some o':=λb o' e=>by
 unfold jf
 by_cases h:b=a
 ·subst h;rw[hn]at e;exact nsN e
 ·refine if_neg h ..▸?_;exact e
section
variable {w:bi} {h₀ h:bv} {G:Fz} {θ:List aI} {σ:fH}
theorem Wd.fresh(W:Wd w h₀ G θ σ h){a:aI}(ha:h.objs.size≤a):G a=none:=by
 induction q:G a with
 |none=>rfl
 |some o=>exact absurd (Heap.lt_size (W.froz a o q)) (Nat.not_lt.mpr ha)
theorem Wd.heap(W:Wd w h₀ G θ σ h){h':bv}(k:∀a o,h.get? a=some o→(G a=some o∨a∈θ)→h'.get? a=some o):Wd w h₀ G θ σ h' where
 base:=W.base
 froz:=λa o e=>k a o (W.froz a o e) (.inl e)
 len:=W.len
 cell:=λn c e=>by
  refine eo (W.cell n c e) λa h1 h2 h3=>?_;exact iw a h1 (h2.mono (λ_ _ e=>e) ⟨[],by simp⟩ λo e=>k a o e (.inr (List.mem_of_getElem? h1))) h3
 nd:=W.nd
 dom:=λa ha=>let⟨o,e⟩:=W.dom a ha;⟨o,k a o e (.inr ha)⟩
 low:=W.low
theorem Wd.add(W:Wd w h₀ G θ σ h){a:aI}{o:Obj}(hn:G a=none)(ho:h.get? a=some o)(hl:∀(n:Nat)(c:bE),θ[n]?=some a→σ[n]?≠some (some c)):Wd w h₀ (jf G a o) θ σ h where
 base:=λb o' e=>cw hn b o' (W.base b o' e)
 froz:=λb o' e=>by
  unfold jf at e
  by_cases q:b=a
  ·subst q;rw[if_pos rfl]at e;obtain rfl:=Option.some.inj e;exact ho
  ·rw[if_neg q]at e;exact W.froz b o' e
 len:=W.len
 cell:=λn c e=>by
  refine eo (W.cell n c e) λb h1 h2 h3=>?_;refine iw b h1 (h2.mono (cw hn) ⟨[],by simp⟩ λ_ e=>e) ?_;unfold jf;rw[if_neg]
  ·exact h3
  ·rintro rfl;exact hl n c h1 e
 nd:=W.nd
 dom:=W.dom
 low:=W.low
theorem Wd.newCell(W:Wd w h₀ G θ σ h){a:aI}{c:bE}(hn:G a=none)(hc:gP w G θ h a c)(hl:a∉θ)(hlow:∀bs,c=.lst bs→∀m,B.l m∈bs→m<σ.length):Wd w h₀ G (θ++ [a]) (σ++ [some c]) h where
 base:=W.base
 froz:=W.froz
 len:=by simp[W.len]
 cell:=λn c' e=>by
  by_cases q:n<σ.length
  ·rw[List.getElem?_append_left q]at e;refine eo (W.cell n c' e) λb h1 h2 h3=>?_;exact iw b (by refine List.getElem?_append_left (by rw[W.len];exact q) ..▸?_;exact h1) (h2.mono (λ_ _ e=>e) ⟨_,rfl⟩ λ_ e=>e) h3
  ·have q':n=σ.length:=by
    have:=(List.getElem?_eq_some_iff.mp e).1;simp at this;exact aC (aX this) ((cB q))
   subst q';simp at e;subst e;refine iw a (by refine(W.len ..)▸?_;simp) (hc.mono (λ_ _ e=>e) ⟨_,rfl⟩ λ_ e=>e) hn
 nd:=λn m b h1 h2=>by
  have g:∀k d,(θ++ [a])[k]?=some d→k<θ.length∨k=θ.length:=λk d e=>by
   have:=(List.getElem?_eq_some_iff.mp e).1;simp at this;omega
  have lo:∀k d,k<θ.length→(θ++ [a])[k]?=some d→θ[k]?=some d:=λk d hk e=>by rwa [List.getElem?_append_left hk]at e
  have hi:∀d,(θ++ [a])[θ.length]?=some d→d=a:=λd e=>by simp at e;exact e.symm
  refine(g n _ h1).elim (λq=>?_) λq=>?_<;>(refine(g m _ h2).elim (λr=>?_) λr=>?_)
  ·exact W.nd n m b (lo _ _ q h1) (lo _ _ r h2)
  ·subst r;have:=hi _ h2;subst this;exact absurd (List.mem_of_getElem? (lo _ _ q h1)) hl
  ·subst q;have:=hi _ h1;subst this;exact absurd (List.mem_of_getElem? (lo _ _ r h2)) hl
  ·exact aC (aa (ah q) (ah r.symm)) (aa (ah r) (ah q.symm))
 dom:=λb hb=>by
  refine(List.mem_append.mp hb).elim (λq=>?_) λq=>?_
  ·exact W.dom b q
  ·refine ae.mp q ..▸?_;exact hc.there
 low:=λn bs e m hm=>by
  by_cases q:n<σ.length
  ·rw[List.getElem?_append_left q]at e;exact W.low n bs e m hm
  ·have q':n=σ.length:=by
    have:=(List.getElem?_eq_some_iff.mp e).1;simp at this;exact aC (aX this) ((cB q))
   subst q';simp at e;exact hlow bs e m hm
theorem Wd.setCell(W:Wd w h₀ G θ σ h){n:Nat}{c c':bE}{a:aI}{h':bv}(hs:σ[n]?=some (some c))(ha:θ[n]?=some a)(hk:∀b o,b≠a→h.get? b=some o→h'.get? b=some o)
  (hc:gP w G θ h' a c') (hlow:∀bs,c'=.lst bs→∀m,B.l m∈bs→m<n):Wd w h₀ G θ (σ.set n (some c')) h' where
 base:=W.base
 froz:=λb o e=>hk b o (λq=>by
  refine eo (W.cell n c hs) λa' h1 _ h3=>?_;rw[ha]at h1;obtain rfl:=Option.some.inj h1;rw[q,h3]at e;exact nsN e) (W.froz b o e)
 len:=by simp[W.len]
 cell:=λm c'' e=>by
  rw[List.getElem?_set]at e
  by_cases q:n=m
  ·subst q;rw[if_pos rfl]at e;have hl:=(List.getElem?_eq_some_iff.mp hs).1;rw[if_pos hl]at e;cases e
   refine eo (W.cell n c hs) λa' h1 _ h3=>?_;rw[ha]at h1;obtain rfl:=Option.some.inj h1;exact iw a ha hc h3
  ·rw[if_neg q]at e;refine eo (W.cell m c'' e) λb h1 h2 h3=>?_;exact iw b h1 (h2.mono (λ_ _ e=>e) ⟨[],by simp⟩ λo e'=>hk b o (λr=>q (W.apart n m a c c'' ha (r▸h1) hs e)) e') h3
 nd:=W.nd
 dom:=λb hb=>by
  by_cases q:b=a
  ·refine q ..▸?_;exact hc.there
  ·refine aY (W.dom b hb) λo e=>?_;exact⟨o,hk b o q e⟩
 low:=λm bs e k hm=>by
  rw[List.getElem?_set]at e
  by_cases q:n=m
  ·subst q;rw[if_pos rfl,if_pos (List.getElem?_eq_some_iff.mp hs).1]at e;cases e
   exact hlow bs rfl k hm
  ·rw[if_neg q]at e;exact W.low m bs e k hm
theorem Wd.dropCell(W:Wd w h₀ G θ σ h)(n:Nat):Wd w h₀ G θ (σ.set n none) h:=by
 have g:∀k d,(σ.set n none)[k]?=some (some d)→σ[k]?=some (some d)∧n≠k:=λk d e=>by
  rw[List.getElem?_set]at e
  by_cases q:n=k
  ·subst q;rw[if_pos rfl]at e;split at e<;>simp at e
  ·rw[if_neg q]at e;exact⟨e,q⟩
 exact⟨W.base,W.froz,by simp[W.len],λm c e=>W.cell m c (g m c e).1,W.nd,W.dom,λm bs e=>W.low m bs (g m _ e).1⟩
end
noncomputable def uR(env:Env)(h:bv)(x:Str)(v:ai):Prop:=
 (env.kindOf x=some .local∧∃m,h.Ns env.locals m∧m x=some v)∨(env.kindOf x=some .cell∧∃c,env.cells.lookup x=some c∧h.IsCell c (some v))
noncomputable def sH(env:Env)(h:bv)(x:Str):Prop:=
 env.kindOf x=some .local∨(env.kindOf x=some .cell∧∃c v₀,env.cells.lookup x=some c∧h.IsCell c v₀)
noncomputable def priv(env:Env):List aI:=env.locals::env.cells.map (·.2)
structure bO (env:Env) (names:List (Str×aK)):Prop where
 kind:env.scope.kind=.function
 glob:env.globals=mainGlobals
 blt:env.builtins=builtinsNs
 loc:∀x,names.lookup x=some .local→env.kindOf x=some .local
 cel:∀x,names.lookup x=some .cell→env.kindOf x=some .cell
 names:∀x,names.lookup x=some .globalImplicit→env.kindOf x=some .globalImplicit
 debug:env.kindOf "__debug__"=none
structure A5 (w:bi) (env:Env) (G:Fz) (θ:List aI) (h:bv) (ρ:je):Prop where
 ns:∃m,h.Ns env.locals m
 priv:∀a∈priv env,G a=none∧a∉θ∧∃o,h.get? a=some o
 var:∀(x:Str)(ob:Option B),ρ.lookup x=some ob→sH env h x∧∀b,ob=some b→∃v,uR env h x v∧rD w G θ v b
 apart:∀x c,env.cells.lookup x=some c→c≠env.locals∧∀y c',env.cells.lookup y=some c'→c=c'→x=y
theorem jH{α:Type}{l:List (Str×α)}{x:Str}{c:α}(h:l.lookup x=some c):c∈l.map (·.2):=List.mem_map.mpr (aV _ (mem_of_lookup h) rfl)
theorem uR.heap{env:Env}{h h':bv}{x:Str}{v:ai}(k:∀a∈priv env,∀o,h.get? a=some o→h'.get? a=some o):uR env h x v→uR env h' x v:=λH=>by
 refine H.elim (λH=>.inl ?_) λH=>.inr ?_
 ·refine aB H λk1 z1=>?_;refine aG z1 λm n e=>?_;clear H;exact⟨k1,m,n.at' λo e=>k _ (.head _) o e,e⟩
 ·refine aB H λk1 z2=>?_;refine aG z2 λc l z3=>?_;refine aG z3 λo ho r=>?_;clear H;exact⟨k1,c,l,o,k _ (.tail _ (jH l)) o ho,r⟩
theorem sH.heap{env:Env}{h h':bv}{x:Str}(k:∀a∈priv env,∀o,h.get? a=some o→h'.get? a=some o):sH env h x→sH env h' x:=λH=>by
 refine H.elim .inl λH=>.inr ?_;refine aB H λk1 z4=>?_;refine ff z4 λc v l z5=>?_;refine aG z5 λo ho r=>?_;clear H;exact⟨k1,c,v,l,o,k _ (.tail _ (jH l)) o ho,r⟩
section
variable {w:bi} {env:Env} {G G':Fz} {θ θ':List aI} {h h':bv} {ρ:je}
theorem A5.evo(R:A5 w env G θ h ρ)(e:dg [] θ G h θ' G' h'):A5 w env G' θ' h' ρ:=by
 have k:∀a∈Mine.priv env,∀o,h.get? a=some o→h'.get? a=some o:=λa ha o q=>e.keep a o (R.priv a ha).2.1 (by simp) q;refine aG e.pre λt et lt=>?_;refine⟨?_,λa ha=>?_,λx ob q=>?_,R.apart⟩
 ·refine aY R.ns λm n=>?_;exact⟨m,n.at' λo q=>k _ (.head _) o q⟩
 ·refine dE (R.priv a ha) λp1 p2 z1=>?_;refine aY z1 λo p3=>?_;exact⟨by refine e.newG a o p3 p2 ..▸?_;exact p1,e.off p2 p3,o,k a ha o p3⟩
 ·refine aB (R.var x ob q) λh1 h2=>?_;refine⟨h1.heap k,λb hb=>?_⟩;refine aG (h2 b hb) λv h3 h4=>?_;exact aV v (h3.heap k) (h4.mono e.grow ⟨t,et⟩)
end
structure gi (A:bC) (n k:Nat):Prop where
 handled:A.handled=none
 depth:A.depth+n+2≤recursionLimit
 units:A.units+120*n+8*k+100<gB
theorem gi.less{A:bC}{n k:Nat}(b:gi A n (k+1)):gi A n k:=⟨b.handled,b.depth,by have:=b.units;exact nw [_,_,_,_] (.d (.s (.a (.a (.a yA (.m 120 yB)) (.m 8 (.s yC))) (.k 100))) yD .n) (.s (.a (.a (.a yA (.m 120 yB)) (.m 8 yC)) (.k 100))) yD rfl this⟩
theorem gi.room{A:bC}{n k:Nat}(b:gi A n k):A.units+64<gB:=by have:=b.units;exact nw [_,_,_,_] (.d (.s (.a (.a (.a yA (.m 120 yB)) (.m 8 yC)) (.k 100))) yD .n) (.s (.a yA (.k 64))) yD rfl this
structure pE (w:bi) (h₀:bv) (mg mb:Str→Option ai):Prop where
 g:h₀.Ns mainGlobals mg
 b:h₀.Ns builtinsNs mb
 nolimit:h₀.NoLimit
 sysm:∃o,h₀.get? iW=some o
 const:∀x d,CQ.lookup x=some d→∃v,mg x=some v∧Rp w h₀.get? v d
 free:∀b∈builtins,mg (ofString b)=none
 lenB:mb (ofString "len")=some (.builtin "len")
 minB:mb (ofString "min")=some (.builtin "min")
 maxB:mb (ofString "max")=some (.builtin "max")
 absB:mb (ofString "abs")=some (.builtin "abs")
 sumB:mb (ofString "sum")=some (.builtin "sum")
 listT:mb (ofString "list")=some (.type "list")
 tupleT:mb (ofString "tuple")=some (.type "tuple")
 dictT:mb (ofString "dict")=some (.type "dict")
 rangeT:mb (ofString "range")=some (.type "range")
 enumT:mb (ofString "enumerate")=some (.type "enumerate")
 zipT:mb (ofString "zip")=some (.type "zip")
variable {prog:cD} {w:bi}
structure Ok (w:bi) (h₀:bv) (env:Env) (G:Fz) (θ:List aI) (st:St) (h:bv):Prop where
 wd:Wd w h₀ G θ st.σ h
 fr:A5 w env G θ h st.ρ
noncomputable def mx(w:bi)(h₀:bv)(env:Env)(G:Fz)(θ:List aI)(s:ag)(st':St)(b:B)(Q:ai→ag→Prop):Prop:=
 ∀v h' tk G' θ',Ok w h₀ env G' θ' st' h'→rD w G' θ' v b→dg [] θ G s.heap θ' G' h'→Q v {s with heap:=h',toks:=tk}
theorem my(x:Str)(b:B)(y:Str):∀l:je,(iP l x b).lookup y=if y=x then(l.lookup y).map λ_=>some b else l.lookup y
 | []=>by simp[iP]
 |(z,oz)::l=>by
  have ih:=my x b y l
  by_cases hz:z=x
  ·subst hz;rw[(by simp[iP]:iP ((z,oz)::l) z b=(z,some b)::iP l z b),bA,bA,ih]
   by_cases hy:y=z
   ·subst hy;simp
   ·have:(y==z)=false:=by simpa using hy
    simp[this,hy]
  ·have e:iP ((z,oz)::l) x b=(z,oz)::iP l x b:=by simp[iP,hz]
   rw[e,bA,bA,ih]
   induction hyz:y==z with
   |true=>
    have:=beq_iff_eq.mp hyz;subst this;simp[hz]
   |false=>rfl
theorem Ks{α β:Type}{c:Prop} [Decidable c]{a:α}{x y:β}:(if c then(a,x)else(a,y))=(a,(if c then(a,x)else(a,y)).2):=by split<;>rfl
theorem rE(n:Nat)(d:ab)(x:Str):∀l:je,(l.map (kE n d)).lookup x=(l.lookup x).map λob=>(kE n d (x,ob)).2
 | []=>rfl
 |(y,ob)::l=>by
  have e1:kE n d (y,ob)=(y,(kE n d (y,ob)).2):=by
   rcases ob with _|(_|m)
   ·rfl
   ·rfl
   ·exact Ks
  rw[aE,e1,bA,bA,(rE n d x l)]
  induction hxy:x==y with
  |true=>refine beq_iff_eq.mp hxy ..▸?_;rfl
  |false=>rfl
theorem Fq{h₀:bv}{env:Env}{G:Fz}{θ:List aI}{st st':St}{h:bv}{b:B}{d:ab}{v:ai}(O:Ok w h₀ env G θ st h)(r:rD w G θ v b)(e:zr b st=some (d,st')):
  ∃G',Ok w h₀ env G' θ st' h∧Rp w G' v d∧dg [] θ G h θ G' h:=by
 induction b using B.casesOn with
 |v d'=>simp only[zr,Option.some.injEq,Prod.mk.injEq]at e;refine aB e λz4 z5=>?_;clear e;obtain rfl:=z4;obtain rfl:=z5;exact iw G O r (.refl ..)
 |l n=>
  refine aG r λa ha z6=>?_;clear r;obtain rfl:=z6;simp only[zr]at e;split at e
  ·rename_i c hc;simp only[aH,Prod.mk.injEq]at e;refine eo e λd' hd z7 z8=>?_;clear e;obtain rfl:=z7;obtain rfl:=z8;refine eo (O.wd.cell n c hc) λa' h1 h2 h3=>?_;rw[ha]at h1;obtain rfl:=Option.some.inj h1;have hl:∀(m:Nat)(c':bE),θ[m]?=some a→(st.σ.set n none)[m]?≠some (some c'):=λm c' hm q=>by
    rw[List.getElem?_set]at q
    by_cases qq:n=m
    ·subst qq;rw[if_pos rfl]at q;split at q<;>simp at q
    ·rw[if_neg qq]at q;exact qq (O.wd.apart n m a c c' ha hm hc q)
   have obj:∃o,h.get? a=some o∧Rp w (jf G a o) (.ref a) d':=by
    induction c using bE.casesOn with
    |lst bs=>
     refine dS h2 λvs k q rb ln=>?_;clear h2;simp only[hU,aH]at hd;refine aG hd λds hds z9=>?_;clear hd;obtain rfl:=z9;have ra:=rb.data hds;refine aV _ q (.list (ej ..) (ra.mono (cw h3)) ?_);rw[←ra.length,rb.length];exact ln
    |dct kvs=>
     refine kD h2 λes k q rk dk lo=>?_;clear h2;simp only[hU,Option.some.injEq]at hd;subst hd;exact aV _ q (.dict (ej ..) (rk.mono (cw h3)) dk lo)
   refine aG obj λo ho rp=>?_;clear obj;have E:dg [] θ G h θ (jf G a o) h:=⟨⟨[],by simp⟩,λ_ _ _ _ q=>q,cw h3,λb _ _ hb=>by
    unfold jf;rw[if_neg];rintro rfl;exact hb (List.mem_of_getElem? ha),λ_ o e=>⟨o,e⟩⟩
   refine iw _ ⟨(O.wd.dropCell n).add h3 ho hl,?_⟩ rp E;have F:=O.fr.evo E;refine⟨F.ns,F.priv,λx ob q=>?_,F.apart⟩;have q:(st.ρ.map (kE n d')).lookup x=some ob:=q;rw[rE]at q;refine aG (aH.mp q) λob₀ q0 q1=>?_;refine aB (F.var x ob₀ q0) λk1 k2=>?_;refine⟨k1,λb hb=>?_⟩;subst hb
   induction ob₀ with
   |none=>simp[kE]at q1
   |some b₀=>
    refine aG (k2 b₀ rfl) λv' k3 k4=>?_
    induction b₀ using B.casesOn with
    |v d₀=>simp only[kE,Option.some.injEq]at q1;subst q1;exact aV v' k3 k4
    |l m=>
     simp only[kE]at q1
     by_cases hm:m=n
     ·subst hm;simp only[if_true,Option.some.injEq]at q1;subst q1;refine aG k4 λa₂ e2 z10=>?_;clear k4;obtain rfl:=z10;rw[ha]at e2;obtain rfl:=Option.some.inj e2;exact aV _ k3 rp
     ·rw[if_neg hm]at q1;simp only[Option.some.injEq]at q1;subst q1;exact aV v' k3 k4
  ·exact nsN e
section
variable {A:bC} {E:ai→ag→Prop} {s:ag} {h₀:bv} {env:Env} {G:Fz} {θ:List aI} {st:St} {names:List (Str×aK)} {mg mb:Str→Option ai}
theorem A6{x:Str}{v:ai}{Q:ai→ag→Prop}(K:bO env names)(h:uR env s.heap x v)(hQ:Q v s):au (aZ prog w) A (loadName env x) Q E s:=by
 rcases h with⟨k,m,n,e⟩|⟨k,c,l,hc⟩
 ·exact wpAny_loadName_local K.kind k n e hQ
 ·exact wpAny_loadName_cell K.kind k l hc hQ
theorem sI{x:Str}(K:bO env names)(h:env.kindOf x≠none):(x==("__debug__":Str))=false:=by
 induction q:x==("__debug__":Str)with
 |false=>rfl
 |true=>exact absurd (beq_iff_eq.mp q▸K.debug) h
theorem CT{h:bv}{x:Str}:sH env h x→env.kindOf x≠none
 |.inl k=>by refine k ..▸?_;simp
 |.inr ⟨k,_⟩=>by refine k ..▸?_;simp
theorem CU{x:Str}{pos:Pos}{b:B}{Q:ai→ag→Prop}(K:bO env names)(O:Ok w h₀ env G θ st s.heap)(e:st.ρ.lookup x=some (some b))(hQ:mx w h₀ env G θ s st b Q):
  au (aZ prog w) A (eval (.Name x pos) env) Q E s:=by
 refine aB (O.fr.var x _ e) λk h2=>?_;refine aG (h2 b rfl) λv h3 h4=>?_;exact wpAny_Name (A6 K h3 (hQ v s.heap s.toks G θ O h4 (.refl ..))) (sI K (CT k))
theorem qy(W:Wd w h₀ G θ st.σ s.heap):∀b o,h₀.get? b=some o→s.heap.get? b=some o:=λb o e=>W.froz b o (W.base b o e)
theorem CV{x:Str}{pos:Pos}{d:ab}{Q:ai→ag→Prop}(T:pE w h₀ mg mb)(K:bO env names)(O:Ok w h₀ env G θ st s.heap)(hn:names.lookup x=some .globalImplicit)
  (e:CQ.lookup x=some d) (hQ:mx w h₀ env G θ s st (.v d) Q):au (aZ prog w) A (eval (.Name x pos) env) Q E s:=by
 refine aG (T.const x d e) λv e1 e2=>?_;have hk:=K.names x hn;refine uM K.kind hk (loadGlobal_global (K.glob▸T.g.keeps (qy O.wd)) e1 ?_) (sI K (by refine hk ..▸?_;simp));exact hQ v s.heap s.toks G θ O (e2.mono O.wd.base) (.refl ..)
theorem kU{x:String}{pos:Pos}{v:ai}{Q:ai→ag→Prop}(T:pE w h₀ mg mb)(K:bO env names)(O:Ok w h₀ env G θ st s.heap)(hn:names.lookup (ofString x)=some .globalImplicit)
  (hx:x∈builtins) (hv:mb (ofString x)=some v) (hQ:Q v s):au (aZ prog w) A (eval (.Name (ofString x) pos) env) Q E s:=by
 have hk:=K.names _ hn;exact uM K.kind hk (loadGlobal_builtin (K.glob▸T.g.keeps (qy O.wd)) (T.free x hx) (K.blt▸T.b.keeps (qy O.wd)) hv hQ) (sI K (by refine hk ..▸?_;simp))
theorem na{a:aI}{h h':bv}(hs:Heap.SameBut a h h')(ha:∃o,h'.get? a=some o):∀b o,h.get? b=some o→∃o',h'.get? b=some o':=λb o e=>by
 by_cases q:b=a
 ·subst q;exact ha
 ·exact⟨o,(hs.2 b q).trans e⟩
theorem Hm{x:Str}{b:B}{v:ai}{Q:Unit→ag→Prop}(K:bO env names)(O:Ok w h₀ env G θ st s.heap)(hx:(st.ρ.lookup x).isSome=true)(r:rD w G θ v b)
  (hQ:∀h' tk,Ok w h₀ env G θ ⟨iP st.ρ x b,st.σ⟩ h'→dg (priv env) θ G s.heap θ G h'→Q () {s with heap:=h',toks:=tk}):
  au (aZ prog w) A (mu env x v) Q E s:=by
 refine wpAny_bindName ?_;refine aY (Option.isSome_iff_exists.mp hx) λob hob=>?_;refine aB (O.fr.var x ob hob) λk _=>?_;have fin:∀h':bv,(∀a o,a∉priv env→s.heap.get? a=some o→h'.get? a=some o)→(∀a o,s.heap.get? a=some o→∃o',h'.get? a=some o')→(∃m,h'.Ns env.locals m)→(∀y,sH env s.heap y→sH env h' y)→uR env h' x v→(∀y u,y≠x→uR env s.heap y u→uR env h' y u)→
   Ok w h₀ env G θ ⟨iP st.ρ x b,st.σ⟩ h'∧dg (priv env) θ G s.heap θ G h':=by
  intro h' kp sz ns vo va vk;have nG:∀a o,G a=some o→a∉priv env:=λa o q hp=>by rw[(O.fr.priv a hp).1]at q;exact nsN q
  refine⟨⟨O.wd.heap λa o q qq=>kp a o (λhp=>?_) q,ns,λa ha=>⟨(O.fr.priv a ha).1,(O.fr.priv a ha).2.1,let⟨o,ho⟩:=(O.fr.priv a ha).2.2;sz a o ho⟩,λy ob q=>?_,O.fr.apart⟩,⟨⟨[],by simp⟩,λa o _ hp q=>kp a o hp q,λ_ _ q=>q,λ_ _ _ _=>rfl,sz⟩⟩
  ·refine qq.elim (λq1=>?_) λq1=>?_
   ·exact nG a o q1 hp
   ·exact(O.fr.priv a hp).2.1 q1
  ·have q:(iP st.ρ x b).lookup y=some ob:=q;rw[my]at q
   by_cases hy:y=x
   ·subst hy;rw[if_pos rfl]at q;refine aG (aH.mp q) λob' q1 q2=>?_;refine⟨vo y (O.fr.var y _ q1).1,λb' hb=>?_⟩;subst hb;obtain rfl:=Option.some.inj q2;exact aV v va r
   ·rw[if_neg hy]at q;refine aB (O.fr.var y ob q) λk1 k2=>?_;refine⟨vo y k1,λb' hb=>?_⟩;refine aG (k2 b' hb) λu k3 k4=>?_;exact aV u (vk y u hy k3) k4
 rcases k with k|⟨k,c,v₀,l,hc⟩
 ·refine aY O.fr.ns λm n=>?_;refine wpAny_storeName_local k n (λh' hn' hs=>?_) (by refine K.kind ..▸?_;rfl);have:=fin h' (λa o hp q=>(hs.2 a (λe=>hp (e▸.head _))).trans q) (na hs (let⟨o,_,_,q,_⟩:=hn';⟨o,q⟩)) ⟨_,hn'⟩ (λy=>?_) (.inl ⟨k,_,hn',by simp⟩) (λy u hy=>?_)
  ·exact hQ _ _ this.1 this.2
  ·rintro (k1|⟨k1,c,v₀,l,hc⟩)
   ·exact .inl k1
   ·exact .inr ⟨k1,c,v₀,l,hc.sameBut hs (O.fr.apart y c l).1⟩
  ·rintro (⟨k1,m',n',e⟩|⟨k1,c,l,hc⟩)
   ·refine .inl ⟨k1,_,hn',?_⟩;show(if y=x then some v else m y)=some u;refine if_neg hy ..▸?_;refine lH n λo1 es1 ep1 g1 d1 _ f1=>?_;clear n;refine lH n' λo2 es2 ep2 g2 d2 _ f2=>?_;clear n';rw[g1]at g2;obtain rfl:=Option.some.inj g2;rw[d1]at d2;cases d2;refine(f1 y ..)▸f2 y ..▸?_;exact e
   ·exact .inr ⟨k1,c,l,hc.sameBut hs (O.fr.apart y c l).1⟩
 ·refine wpAny_storeName_cell K.kind k l hc λh' hc' hs=>?_;have hL:=(O.fr.apart x c l).1;have:=fin h' (λa o hp q=>(hs.2 a (λe=>hp (e▸(.tail _ (jH l):c∈priv env)))).trans q) (na hs (let⟨o,q,_⟩:=hc';⟨o,q⟩)) (by refine aY O.fr.ns λm n=>?_;exact⟨m,n.sameBut hs (Ne.symm hL)⟩) (λy=>?_) (.inr ⟨k,c,l,hc'⟩) (λy u hy=>?_)
  ·have q:=hQ h' s.toks this.1 this.2;exact q
  ·rintro (k1|⟨k1,c',v₁,l',hc''⟩)
   ·exact .inl k1
   ·by_cases e:c'=c
    ·subst e;exact .inr ⟨k1,c',_,l',hc'⟩
    ·exact .inr ⟨k1,c',v₁,l',hc''.sameBut hs e⟩
  ·rintro (⟨k1,m',n',e⟩|⟨k1,c',l',hc''⟩)
   ·exact .inl ⟨k1,m',n'.sameBut hs (Ne.symm hL),e⟩
   ·refine .inr ⟨k1,c',l',hc''.sameBut hs λe=>hy ?_⟩;exact(O.fr.apart y c' l').2 x c l e
end
section
variable {prog:cD} {w:bi} {A:bC} {E:ai→ag→Prop} {s:ag} {h₀:bv} {env:Env} {G:Fz} {θ:List aI} {st:St}
theorem iY{h:bv}{o:Obj}(O:Ok w h₀ env G θ st h)(ho:o.isFreed=false):
  Ok w h₀ env (jf G h.objs.size o) θ st (h.push o)∧dg [] θ G h θ (jf G h.objs.size o) (h.push o):=by
 have hn:=O.wd.fresh (ak h.objs.size);have E:dg [] θ G h θ (jf G h.objs.size o) (h.push o):=⟨⟨[],by simp⟩,λa o' _ _ e=>Heap.get?_push_of_some _ e,cw hn,λa o' e _=>by unfold jf;exact if_neg (eg (Heap.lt_size e)) ..▸rfl,λa o' e=>⟨o',Heap.get?_push_of_some _ e⟩⟩
 refine⟨⟨(O.wd.heap λa o' e _=>Heap.get?_push_of_some _ e).add hn (Heap.get?_push_size _ ho) λn c hc hs=>?_,O.fr.evo E⟩,E⟩;refine eo (O.wd.cell n c hs) λa h1 h2 _=>?_;rw[hc]at h1;obtain rfl:=Option.some.inj h1;have:∃o,h.get? h.objs.size=some o:=by
  induction c using bE.casesOn with
  |lst bs=>refine ff h2 λ_ _ q _=>?_;clear h2;exact⟨_,q⟩
  |dct kvs=>refine ff h2 λ_ _ q _=>?_;clear h2;exact⟨_,q⟩
 refine aY this λo' q=>?_;clear this;exact absurd (Heap.lt_size q) (g9 _)
theorem eQ{h:bv}(o:Obj)(O:Ok w h₀ env G θ st h):Ok w h₀ env G θ st (h.push o)∧dg [] θ G h θ G (h.push o):=by
 have E:dg [] θ G h θ G (h.push o):=⟨⟨[],by simp⟩,λa o' _ _ e=>Heap.get?_push_of_some _ e,λ_ _ e=>e,λ_ _ _ _=>rfl,λa o' e=>⟨o',Heap.get?_push_of_some _ e⟩⟩
 exact⟨⟨O.wd.heap λa o' e _=>Heap.get?_push_of_some _ e,O.fr.evo E⟩,E⟩
theorem cV{v:ai}{i:Int}(r:Rp w G v (.int i)):∃t,v=.int i t:=by cases r;exact⟨_,rfl⟩
theorem CW{v:ai}{x:Str}(r:Rp w G v (.str x)):∃t,v=.str x t:=by cases r;exact⟨_,rfl⟩
theorem gF{v:ai}{xs:List ab}(r:Rp w G v (.tuple xs)):∃a vs dd n sl,v=.ref a∧G a=some {cls:=.type "tuple",dict:=dd,data:=.seq vs.toArray n,slots:=sl}∧ei w G vs xs∧xs.length≤cG:=by
 cases r with|tuple h r l=>exact PI _ _ _ _ _ rfl h r l
theorem fx{v:ai}{xs:List ab}(r:Rp w G v (.list xs)):∃a vs n,v=.ref a∧G a=some {cls:=.type "list",data:=.seq vs.toArray n}∧ei w G vs xs∧xs.length≤cG:=by
 cases r with|list h r l=>exact N8 _ _ _ rfl h r l
theorem mz{v:ai}{kvs:List (ab×ab)}(r:Rp w G v (.dict kvs)):∃a es n,v=.ref a∧G a=some {cls:=.type "dict",data:=.dict es.toArray n}∧mi w G es kvs∧x7 kvs∧(a==iW)=false:=by
 cases r with|dict h r k q=>exact ML _ _ _ rfl h r k q
theorem wo{i:Int}(h:pB i=true):Builtin.Int.intBits i≤64:=by
 unfold Builtin.Int.intBits;split
 ·exact by decide
 ·rename_i h0;exact((Nat.log2_lt (by simpa using h0:i.natAbs≠0)).mpr (of_decide_eq_true h:i.natAbs<2^64))
theorem Ej{n:Nat}(h:jz n=true):n≤cG:=aa (of_decide_eq_true h) (by refine(dD ..).symm▸?_;decide)
theorem CX{u v:ai}{xs ys:List ab}{Q:ai→ag→Prop}(O:Ok w h₀ env G θ st s.heap)(ra:Rp w G u (.tuple xs))(rb:Rp w G v (.tuple ys))(hc:jz (xs.length+ys.length)=true)
  (hQ:mx w h₀ env G θ s st (.v (.tuple (xs++ys))) Q):au (aZ prog w) A (binaryOp .Add u v) Q E s:=by
 refine wj (gF ra) λx vs dx nx sx z1 gx rx _=>?_;obtain rfl:=z1;refine wj (gF rb) λy ws dy ny sy z2 gy ry _=>?_;obtain rfl:=z2;have hs:=Ej hc;have gx':=O.wd.froz _ _ gx;have gy':=O.wd.froz _ _ gy
 by_cases hv:vs= []
 ·subst hv;cases rx
  exact yr (aV _ gx' rfl) (aV _ gy' rfl) AN GT PySem.F.slot_tuple_add PySem.F.entry_tuple_add (PySem.F.args_tuple_add_2 _ _)
   (tuple_addW0 x y _ _ _ _ _ _ _ _ rfl) ⟨gx',gy',hQ _ s.heap s.toks G θ O rb (.refl ..)⟩
 have nv:vs.toArray≠#[]:=λe=>hv (congrArg Array.toList e)
 by_cases hw:ws= []
 ·subst hw;cases ry
  refine yr (aV _ gx' rfl) (aV _ gy' rfl) AN GT PySem.F.slot_tuple_add PySem.F.entry_tuple_add (PySem.F.args_tuple_add_2 _ _)
   (tuple_addW1 x y _ _ _ _ _ _ _ _ (by simpa using hv) rfl) ⟨gx',gy',hQ _ s.heap s.toks G θ O ?_ (.refl ..)⟩
  show Rp w G _ (.tuple (_++ []));refine aF ..▸?_;exact ra
 refine yr (aV _ gx' rfl) (aV _ gy' rfl) AN GT PySem.F.slot_tuple_add PySem.F.entry_tuple_add (PySem.F.args_tuple_add_2 _ _)
  (tuple_addW2 x y _ _ _ _ _ _ _ _ (by simpa using hv) (by simpa using hw) (by refine(aJ ..).symm▸(aJ ..).symm▸(rx.length ..).symm▸(ry.length ..).symm▸?_;exact hs)) ⟨gx',gy',?_⟩
 have e:=iY (o:={cls:=.type "tuple",data:=.seq (vs.toArray++ws.toArray)}) O rfl;refine hQ _ _ s.toks _ θ e.1 (.tuple (vs:=vs++ws) (dd:=none) (n:=0) (sl:= #[]) ?_ ((rx.append ry).mono (cw (O.wd.fresh (ak _)))) (by refine aj ..▸?_;exact hs)) e.2;exact(ej ..).symm▸(GQ ..).symm▸rfl
theorem Fr{u v:ai}{xs ys:List ab}{Q:ai→ag→Prop}(O:Ok w h₀ env G θ st s.heap)(ra:Rp w G u (.list xs))(rb:Rp w G v (.list ys))(hc:jz (xs.length+ys.length)=true)
  (hQ:mx w h₀ env G θ s st (.v (.list (xs++ys))) Q):au (aZ prog w) A (binaryOp .Add u v) Q E s:=by
 refine lH (fx ra) λx vs n z3 gx rx _=>?_;obtain rfl:=z3;refine lH (fx rb) λy ws m z4 gy ry _=>?_;obtain rfl:=z4;have hs:=Ej hc;have gx':=O.wd.froz _ _ gx;have gy':=O.wd.froz _ _ gy;refine yr (aV _ gx' rfl) (aV _ gy' rfl) noFill_list_add seq_list_add PySem.F.slot_list_add PySem.F.entry_list_add (PySem.F.args_list_add_2 _ _) (list_addW x y _ _ _ _ _ _ _ _ (by refine(aJ ..).symm▸(aJ ..).symm▸(rx.length ..).symm▸(ry.length ..).symm▸?_;exact hs)) ⟨gx',gy',?_⟩;have e:=iY (o:={cls:=.type "list",data:=.seq (vs.toArray++ws.toArray)}) O rfl;refine hQ _ _ s.toks _ θ e.1 (.list (vs:=vs++ws) (n:=0) ?_ ((rx.append ry).mono (cw (O.wd.fresh (ak _)))) (by refine aj ..▸?_;exact hs)) e.2;exact(ej ..).symm▸(GQ ..).symm▸rfl
theorem MS{op:Operator}{u v:ai}{a b d:ab}{Q:ai→ag→Prop}(hh:A.handled=none)(O:Ok w h₀ env G θ st s.heap)(ra:Rp w G u a)(rb:Rp w G v b)(e:jE op a b=some d)
  (hQ:mx w h₀ env G θ s st (.v d) Q):au (aZ prog w) A (binaryOp op u v) Q E s:=by
 have int:∀ {i tk},d=.int i→∀ {t},Q (.int i t) {s with toks:=tk}:=λ{i tk} e {t}=>hQ _ s.heap tk G θ O (e▸.int _ _) (.refl ..)
 induction op using Operator.casesOn<;>first|exact nsN e|exact dC e|(cases e;done)|skip
 case Add=>
  induction a using aq<;>first|exact nsN e|exact dC e|(cases e;done)|skip
  ·induction b using aq<;>first|exact nsN e|exact dC e|(obtain rfl:=Option.some.inj e;done)|skip
   obtain rfl:=Option.some.inj e;refine aY (cV ra) λt z5=>?_;obtain rfl:=z5;refine aY (cV rb) λt' z6=>?_;obtain rfl:=z6;exact P.add_int (int rfl)
  ·induction b using aq<;>first|exact nsN e|exact dC e|(cases e;done)|skip
   refine aB (gU e) λhc z7=>?_;obtain rfl:=z7;exact Fr O ra rb hc hQ
  ·induction b using aq<;>first|exact nsN e|exact dC e|(cases e;done)|skip
   refine aB (gU e) λhc z8=>?_;obtain rfl:=z8;exact CX O ra rb hc hQ
 all_goals
  refine dS (wl e) λx y z9 z10 e=>?_;obtain rfl:=z9;obtain rfl:=z10;refine aY (cV ra) λt z11=>?_;obtain rfl:=z11;refine aY (cV rb) λt' z12=>?_;obtain rfl:=z12
 case Sub=>exact P.sub_int (int (Option.some.inj e).symm)
 all_goals refine aB (gU e) λhc e=>?_
 case Mult=>exact P.mul_int (int e.symm) (IntMulOk.of_left (wo (Bool.and_eq_true_iff.mp hc).1))
 case FloorDiv=>
  refine aB (Bool.and_eq_true_iff.mp hc) λh1 h2=>?_;exact PyProof.Rows.floordiv_int (bne_iff_ne.mp h2) (int e.symm) (.inl (PyProof.noPylong_small (of_decide_eq_true h1)))
 case Mod=>exact PyProof.Rows.mod_int' (bne_iff_ne.mp hc) (int e.symm)
 case Pow=>
  refine aB (Bool.and_eq_true_iff.mp hc) λh1 h3=>?_;refine aB (Bool.and_eq_true_iff.mp h1) λh1 h2=>?_;exact PyProof.Rows.pow_int (of_decide_eq_true h2) (cK (Int.mul_le_mul (Int.ofNat_le.mpr (wo h1)) (of_decide_eq_true h3) (of_decide_eq_true h2) (by decide)) (by decide)) (int e.symm)
theorem wp{v:ai}{d:ab}{b:Bool}{Q:Bool→ag→Prop}(r:Rp w G v d)(e:yw d=some b)(hQ:Q b s):au (aZ prog w) A (truthy v) Q E s:=by
 induction d using aq<;>simp only[yw,Option.some.injEq,reduceCtorEq]at e
 ·subst e;cases r;exact λ_ _ _=>hQ
 ·subst e;cases r;exact iF hQ
 ·subst e;refine aY (cV r) λt z13=>?_;obtain rfl:=z13;exact P.truthy_int hQ
theorem nc(O:Ok w h₀ env G θ st s.heap){v:ai}{d:ab}(r:Rp w G v d):∃as,Reads s.heap v d as:=r.reads O.wd.froz
theorem iQ{d:ab}(h:SeqAt.shaped d=true):d.canLay0=true:=SeqAt.canLay_of_shaped h
theorem vJ:∀ {xs:List ab},xs.all SeqAt.shaped=true→bo xs=true∧cf xs≤64
 | [],_=>by simp[bo,cf]
 |x::r,h=>by
  simp only[eV,ay]at h;refine aB (vJ h.2) λh1 h2=>?_;exact⟨by simp[bo,iQ h.1,h1],by simp only[cf];exact dX (λq0=>aa q0 (SeqAt.depth_of_shaped h.1)) (λq0=>aa q0 h2)⟩
theorem jk{i:Expr}(hsl:kg i=true)(u v:ai):subscripted i false u v=operate [u,v] (getItem u v):=by
 induction i using cI<;>first|rfl|exact dC hsl
theorem Fs{o i:ai}{xs:List ab}{k d:ab}{value slice:Expr}{Q:ai→ag→Prop}(O:Ok w h₀ env G θ st s.heap)(hsl:kg slice=true)(ro:Rp w G o (.list xs))(ri:Rp w G i k)
  (e:G9 xs k=some d) (hQ:mx w h₀ env G θ s st (.v d) Q):au (aZ prog w) A (GU value slice o i) Q E s:=by
 obtain⟨n,rfl,hn,e⟩:=Ed e;obtain⟨x,vs,_,rfl,gx,rx,_⟩:=fx ro;obtain⟨t,rfl⟩:=cV ri;obtain⟨v,hv,rv⟩:=rx.get e;have hL:s.heap.IsList x vs.toArray:=⟨_,O.wd.froz _ _ gx,rfl,_,rfl⟩
 exact o8 hL.typeIs slot_list_getitem.lookup (wpAny_getItem_list hL (dG _) (Int.lt_trans (Int.ofNat_lt.mpr hn) (by decide)) (List.getElem?_toArray .. ▸hv) (hQ _ s.heap s.toks G θ O rv (.refl ..))) (jk hsl _ _)
theorem CY{o i:ai}{xs:List ab}{k d:ab}{value slice:Expr}{Q:ai→ag→Prop}(O:Ok w h₀ env G θ st s.heap)(hsl:kg slice=true)(ro:Rp w G o (.tuple xs))(ri:Rp w G i k)
  (e:G9 xs k=some d) (hQ:mx w h₀ env G θ s st (.v d) Q):au (aZ prog w) A (GU value slice o i) Q E s:=by
 obtain⟨n,rfl,hn,e⟩:=Ed e;obtain⟨x,vs,dx,nx,sx,rfl,gx,rx,hlen⟩:=gF ro;obtain⟨t,rfl⟩:=cV ri;obtain⟨v,hv,rv⟩:=rx.get e;have hL:IsTup s.heap x vs.toArray:=⟨_,O.wd.froz _ _ gx,rfl,_,rfl⟩
 have h0:=dG n;refine o8 hL.typeIs slot_tuple_getitem.lookup (PyProof.Rows.getItem_tuple (j:=n) hL (cK (by decide) h0) (Int.lt_trans (Int.ofNat_lt.mpr hn) (by decide)) ?_ (List.getElem?_toArray .. ▸hv) (hQ _ s.heap s.toks G θ O rv (.refl ..))) (jk hsl _ _);exact seqIndex_of h0 (Int.ofNat_lt.mpr (List.getElem?_eq_some_iff.mp hv).1)
end
noncomputable def fi(kvs:List (ab×ab))(k:ab):Option Nat:=kvs.findIdx? λp=>aO p.1 k
theorem mA{d:ab}(h:ci d=true):bT d=true:=by
 induction d using aq<;>first|exact dC h|exact h
theorem uS{d:ab}(h:iH d=true):bT d=true:=by
 simp only[iH,ay]at h;exact h.1.2
theorem lL{kvs:List (ab×ab)}{k:ab}(h:cP kvs k=true):bT k=true∧∀p∈kvs,bT p.1=true:=by
 simp only[cP,dU,ay,aM]at h;refine h.elim (λz1=>aB z1 λh1 h2=>?_) λz2=>aB z2 λh1 h2=>?_
 ·exact⟨mA h1,λp hp=>mA (h2 p hp)⟩
 ·exact⟨uS h1,λp hp=>uS (h2 p hp)⟩
theorem n8(p:ab×ab)(r:List (ab×ab))(k:ab):fi (p::r) k=if aO p.1 k=true then some 0 else(fi r k).map (·+1):=by
 simp only[fi,List.findIdx?_cons]
section
variable {kvs:List (ab×ab)} {k:ab}
theorem Ek(hk:bT k=true)(hp:∀p∈kvs,bT p.1=true){j:Nat}{v:ab}(hn:(kvs.map (·.1)).Nodup)(h:kvs[j]?=some (k,v)):fi kvs k=some j:=by
 induction kvs generalizing j with
 |nil=>simp at h
 |cons p r ih=>
  rw[n8];rw[aE,bK]at hn
  induction j using cZ with
  |zero=>
   simp only[List.getElem?_cons_zero,Option.some.injEq]at h;subst h;rw[if_pos ((d6 k k hk hk).mpr rfl)]
  |succ j=>
   simp only[List.getElem?_cons_succ]at h;have hne:¬aO p.1 k=true:=λe=>by
    exact hn.1 (((d6 p.1 k (hp p (.head _)) hk).mp e)▸List.mem_map.mpr (aV _ (List.mem_of_getElem? h) rfl))
   rw[if_neg hne,ih (λq hq=>hp q (.tail _ hq)) hn.2 h];rfl
theorem Kt(hk:bT k=true)(hp:∀p∈kvs,bT p.1=true)(h:k∉kvs.map (·.1)):fi kvs k=none:=by
 induction kvs with
 |nil=>rfl
 |cons p r ih=>
  simp only[aE,aA,not_or]at h;rw[n8,if_neg λe=>h.1 ((d6 p.1 k (hp p (.head _)) hk).mp e).symm,ih (λq hq=>hp q (.tail _ hq)) h.2];rfl
theorem zy:gE kvs k=(fi kvs k).bind λi=>(kvs[i]?).map (·.2):=by
 induction kvs with
 |nil=>rfl
 |cons p r ih=>
  rw[n8];unfold gE at ih⊢;rw[List.find?_cons]
  induction h:aO p.1 k with
  |true=>simp
  |false=>simp only[bR,if_false];rw[ih];induction fi r k<;>simp
theorem Hn:(kvs.any λp=>aO p.1 k)=(fi kvs k).isSome:=by
 induction kvs with
 |nil=>rfl
 |cons p r ih=>
  rw[n8,gZ,ih]
  induction h:aO p.1 k<;>simp
end
section
variable {w:bi} {G:Fz}
theorem kh{v:ai}{k:ab}(h:ci k=true)(r:Rp w G v k):∃x t,v=.str x t∧k=.str x:=by
 induction k using aq<;>first|exact nsN h|exact dC h|(cases h;done)|skip
 cases r;exact kS _ _ rfl rfl
theorem uT{hp:bv}(hg:∀a o,G a=some o→hp.get? a=some o){v:ai}{k:ab}(h:iH k=true)(r:Rp w G v k):∃a,v=.ref a∧Hd hp k a:=by
 have h':=Bool.and_eq_true_iff.mp h;have q:=(Bool.and_eq_true_iff.mp h'.1)
 induction k using aq<;>first|(cases q.1;done)|skip
 refine PD (gF r) λad vs _ _ _ z1 _=>?_;obtain rfl:=z1;exact⟨_,rfl,r.reads hg,q.2,of_decide_eq_true h'.2⟩
theorem mi.strs{es:List cU}{kvs:List (ab×ab)}(r:mi w G es kvs)(h:(kvs.all λp=>ci p.1)=true)(x:Str):
  (∀e∈es,∃y t,e.key=.str y t∧e.hash=hashStr w y)∧es.findIdx? (λe=>Value.isStrOf x e.key)=fi kvs (.str x):=by
 refine⟨λe he=>?_,?_⟩
 ·obtain⟨p,hp,a,b,_⟩:=r.mem he;refine ff (kh (aM.mp h p hp) b) λy t e1 e2=>?_;exact kS y t e1 (a.trans (by rw[e2];rfl))
 ·induction r with
  |nil=>rfl
  |@cons e _ p _ a _ ih=>
   have h:=Bool.and_eq_true_iff.mp (eV▸h);obtain⟨_,b,_⟩:=a;refine ff (kh h.1 b) λy t e1 e2=>?_;rw[n8,List.findIdx?_cons,ih h.2,e1,e2];simp[Value.isStrOf,aO]
open Classical in
theorem mi.tups{prog:cD}{h:bv}(hg:∀a o,G a=some o→h.get? a=some o){es:List cU}{kvs:List (ab×ab)}(r:mi w G es kvs)(hh:(kvs.all λp=>iH p.1)=true):
  ∃xs:List (ab×aI×ai),es=xs.map (entryOfKey (Eg prog w))∧(∀x∈xs,Hd h x.1 x.2.1)∧xs.map (·.1)=kvs.map (·.1):=by
 induction r with
 |nil=>exact iw ([]) rfl (λ_ h=>(nomatch h)) rfl
 |@cons e _ p _ a _ ih=>
  have hh:=Bool.and_eq_true_iff.mp (eV▸hh);refine eo (ih hh.2) λxs h1 h2 h3=>?_;obtain⟨a,b,_⟩:=a;refine aG (uT hg hh.1 b) λad e1 k=>?_;obtain⟨eh,ek,ev⟩:=e;refine iw ((p.1,ad,ev)::xs) ?_ (λx hx=>?_) (congrArg (p.1::·) h3)
  ·have a:eh=hashP w p.1:=a;have e1:ek=.ref ad:=e1;rw[h1,a,e1];rfl
  ·rcases aA.mp hx with rfl|hx
   ·exact k
   ·exact h2 x hx
end
section
variable {prog:cD} {w:bi} {A:bC} {E:ai→ag→Prop} {s:ag} {G:Fz} {d:aI} {es:List cU} {n:Nat} {kvs:List (ab×ab)} {kv:ai} {k:ab}
noncomputable abbrev fJ(es:List cU)(n:Nat):Obj:={cls:=.type "dict",data:=.dict es.toArray n}
open Classical in
theorem zz{Q:Option Nat→ag→Prop}(ho:s.heap.get? d=some (fJ es n))(R:mi w G es kvs)(D:x7 kvs)(hg:∀a o,G a=some o→s.heap.get? a=some o)(rk:Rp w G kv k)(hf:cP kvs k=true)
  (hu:A.units+16<gB) (h:Q (fi kvs k) s):au (aZ prog w) A (dictFind d kv (hashP w k)) Q E s:=by
 have hpl:=lL hf;simp only[cP,dU,ay]at hf;refine hf.elim (λz3=>aB z3 λh1 h2=>?_) λz4=>aB z4 λh1 h2=>?_
 ·refine ff (kh h1 rk) λx t z2 z3=>?_;obtain rfl:=z2;obtain rfl:=z3;refine aB (R.strs h2 x) λq1 q2=>?_;have e:hashP w (.str x)=(PySem.strKind prog w).hash x:=by simp[Kl,PySem.strKind]
  rw[e];refine wpAny_dictFind_of (knd:=PySem.strKind prog w) (xR prog w x t) ho rfl (λe he=>?_) ?_
  ·refine ff (q1 e (by simpa using he)) λy t' e1 e2=>?_;exact aV y (by rw[e1];exact xR prog w y t') e2
  ·have:(es.toArray.findIdx? λe=>(PySem.strKind prog w).is x e.key)=fi kvs (.str x):=by rw[List.findIdx?_toArray];exact q2
   rw[this];exact h
 ·refine aG (uT hg h1 rk) λa z4 ka=>?_;obtain rfl:=z4;refine eo (R.tups (prog:=prog) hg h2) λxs e1 e2 e3=>?_;refine wpAny_dictFind_heap (knd:=Eg prog w) (xs:=xs) (k:=k) hu ka ho rfl (by simpa using e1) e2 (e3▸D.1) (λhno=>?_) (λj p hj=>?_)
  ·have hni:k∉kvs.map (·.1):=λhm=>by
    rw[←e3]at hm;refine aG (List.mem_map.mp hm) λx hx z5=>?_;obtain rfl:=z5;refine aY (List.mem_iff_getElem?.mp hx) λj hj=>?_;exact hno j x.2 hj
   rw[Kt hpl.1 hpl.2 hni]at h;exact h
  ·have:(kvs.map (·.1))[j]?=some k:=by rw[←e3,List.getElem?_map,hj];rfl
   rw[List.getElem?_map]at this;refine aG (aH.mp this) λp' hp' e=>?_;obtain⟨k',v'⟩:=p';simp only at e;subst e;rw[Ek hpl.1 hpl.2 D.1 hp']at h;exact h
theorem zA{Q:Int→ag→Prop}(hg:∀a o,G a=some o→s.heap.get? a=some o)(rk:Rp w G kv k)(hf:cP kvs k=true)(hu:A.units+16<gB)(h:Q (hashP w k) {s with toks:=s.toks+gn k}):
  au (aZ prog w) A (pyHash kv) Q E s:=by
 refine aY (rk.reads hg) λas r=>?_;refine wm k kv as A s Q (lL hf).1 r ?_ h;simp only[cP,dU,ay]at hf;refine hf.elim (λz5=>aB z5 λh1 _=>?_) λz6=>aB z6 λh1 _=>?_
 ·induction k using aq<;>simp_all [ci,ed];exact nw [_,_] (.d (.s (.a yA (.k 16))) yB .n) (.s yA) yB rfl hu
 ·simp only[iH,ay,decide_eq_true_eq]at h1;exact nw [_,_,_] (.d (.s (.a yA (.k 16))) yB (.d yC (.k 8) .n)) (.s (.a yA yC)) yB rfl hu h1.2
theorem CZ{Q:Option ai→ag→Prop}(ho:s.heap.get? d=some (fJ es n))(R:mi w G es kvs)(D:x7 kvs)(hg:∀a o,G a=some o→s.heap.get? a=some o)(rk:Rp w G kv k)(hf:cP kvs k=true)
  (hu:A.units+16<gB) (h0:gE kvs k=none→Q none {s with toks:=s.toks+gn k}) (h1:∀v b,gE kvs k=some b→Rp w G v b→Q (some v) {s with toks:=s.toks+gn k}):au (aZ prog w) A (dictGet d kv) Q E s:=by
 unfold dictGet
 try with_reducible refine bD ?_
 refine af (zA hg rk hf hu (af (zz (s:={s with toks:=s.toks+gn k}) ho R D hg rk hf hu ?_)));have hg':=zy (kvs:=kvs) (k:=k)
 induction hi:fi kvs k with
 |none=>rw[hi]at hg';exact ap (h0 hg')
 |some i=>
  rw[hi]at hg';have hlt:i<kvs.length:=by
   have:=List.findIdx?_eq_some_iff_getElem.mp hi;exact this.1
  obtain⟨p,hp⟩:∃p,kvs[i]?=some p:=⟨_,List.getElem?_eq_getElem hlt⟩
  refine aG (R.get hp) λe e1 e2=>?_;simp only[nV,hp,gO]at hg';refine af (iG (s:={s with toks:=s.toks+gn k}) ho rfl ?_);rw[show es.toArray[i]?=some e from List.getElem?_toArray.trans e1];exact ap (h1 e.val p.2 hg' (e2.casesOn λ_ _ q=>q))
theorem Ku{v:ab}{i:Nat}(hf:cP kvs k=true)(hn:(kvs.map (·.1)).Nodup)(hi:fi kvs k=some i):m9 kvs k v=kvs.modify i λp=>(p.1,v):=by
 refine aB (lL hf) λhk hp=>?_;unfold m9;rw[Hn,hi];simp only[Option.isSome_some,if_true];clear hf
 induction kvs generalizing i with
 |nil=>simp[fi]at hi
 |cons p r ih=>
  rw[n8]at hi;rw[aE,bK]at hn;have hp':∀q∈r,bT q.1=true:=λq hq=>hp q (.tail _ hq)
  by_cases he:aO p.1 k=true
  ·rw[if_pos he]at hi;obtain rfl:=Option.some.inj hi;rw[aE,if_pos he,List.modify_zero_cons]
   congr 1
   rw[bp (g:=id) (λq hq=>?_),xQ];rw[if_neg];rfl;intro e2;exact hn.1 (((d6 p.1 k (hp p (.head _)) hk).mp he)▸((d6 q.1 k (hp' q hq) hk).mp e2)▸List.mem_map.mpr (aV q hq rfl))
  ·rw[if_neg he]at hi;refine aG (aH.mp hi) λj hj z6=>?_;obtain rfl:=z6;rw[aE,if_neg he,List.modify_succ_cons,ih hn.2 hj hp']
theorem Ho{v:ab}(hi:fi kvs k=none):m9 kvs k v=kvs++ [(k,v)]:=by
 unfold m9;rw[Hn,hi];simp
theorem Kv{i:Nat}(hf:cP kvs k=true)(hn:(kvs.map (·.1)).Nodup)(hi:fi kvs k=some i):sF kvs k=kvs.eraseIdx i:=by
 refine aB (lL hf) λhk hp=>?_;unfold sF;clear hf
 induction kvs generalizing i with
 |nil=>simp[fi]at hi
 |cons p r ih=>
  rw[n8]at hi;rw[aE,bK]at hn;have hp':∀q∈r,bT q.1=true:=λq hq=>hp q (.tail _ hq)
  by_cases he:aO p.1 k=true
  ·rw[if_pos he]at hi;obtain rfl:=Option.some.inj hi;rw[bk,if_neg (by simp[he]),CB,List.filter_eq_self.mpr];intro q hq
   induction e2:aO q.1 k with
   |false=>rfl
   |true=>
    exact absurd (((d6 p.1 k (hp p (.head _)) hk).mp he)▸((d6 q.1 k (hp' q hq) hk).mp e2)▸List.mem_map.mpr (aV q hq rfl)) hn.1
  ·rw[if_neg he]at hi;refine aG (aH.mp hi) λj hj z7=>?_;obtain rfl:=z7;rw[bk,if_pos (by simpa using he),po,ih hn.2 hj hp']
theorem Ft(hi:fi kvs k=none):sF kvs k=kvs:=by
 unfold sF;rw[List.filter_eq_self];intro q hq;simpa using(List.findIdx?_eq_none_iff.mp hi q hq)
theorem mB(v:ab):∀(l:List (ab×ab))(i:Nat),(l.modify i λp=>(p.1,v)).map (·.1)=l.map (·.1)
 | [],i=>by induction i using cZ<;>rfl
 |p::r,0=>by simp
 |p::r,i+1=>by simp[mB v r i]
theorem A7{f:ab→Bool}{a b:List (ab×ab)}(h:a.map (·.1)=b.map (·.1))(hb:(b.all λp=>f p.1)=true):(a.all λp=>f p.1)=true:=by
 have:∀l:List (ab×ab),(l.all λp=>f p.1)=(l.map (·.1)).all f:=λl=>by rw[vj];rfl
 rw[this,h,←this];exact hb
theorem x7.modify{v:ab}(D:x7 kvs)(i:Nat):x7 (kvs.modify i λp=>(p.1,v)):=by
 refine⟨by rw[mB];exact D.1,D.2.1.imp (A7 (mB ..)) (A7 (mB ..)),?_⟩;rw[List.length_modify];exact D.2.2
theorem x7.push{v:ab}(D:x7 kvs)(hf:cP kvs k=true)(hl:kvs.length+1≤cG)(hi:fi kvs k=none):x7 (kvs++ [(k,v)]):=by
 refine aB (lL hf) λhk hp=>?_;have hni:k∉kvs.map (·.1):=λhm=>by
  refine aG (List.mem_map.mp hm) λq hq z8=>?_;obtain rfl:=z8;have:=List.findIdx?_eq_none_iff.mp hi q hq;rw[(d6 _ _ hk hk).mpr rfl]at this;exact m7 this
 refine⟨?_,?_,by simpa using hl⟩
 ·rw[bS,dw];refine⟨D.1,by simp,λx hx y hy e=>?_⟩;simp only[aE,jC,ae]at hy;subst hy;subst e;exact hni hx
 ·simp only[cP,dU,ay]at hf;refine hf.elim (λz7=>aB z7 λh1 h2=>?_) λz8=>aB z8 λh1 h2=>?_
  ·left;rw[xV,h2];simp[h1]
  ·right;rw[xV,h2];simp[h1]
theorem x7.erase(D:x7 kvs)(i:Nat):x7 (kvs.eraseIdx i):=by
 have sub:(kvs.eraseIdx i).Sublist kvs:=hH ..;refine⟨D.1.sublist (sub.map _),?_,aa sub.length_le D.2.2⟩;refine D.2.1.imp (λh=>?_) (λh=>?_)<;>(rw[aM]at h⊢;exact λp hp=>h p (sub.subset hp))
theorem C0{vv:ai}{v:ab}{Q:Unit→ag→Prop}(ho:s.heap.get? d=some (fJ es n))(R:mi w G es kvs)(D:x7 kvs)(hg:∀a o,G a=some o→s.heap.get? a=some o)(rk:Rp w G kv k)(rv:Rp w G vv v)
  (hf:cP kvs k=true) (hl:kvs.length+1≤cG) (hu:A.units+16<gB)
  (h:∀h' es' n',Heap.SameBut d s.heap h'→h'.get? d=some (fJ es' n')→mi w G es' (m9 kvs k v)→x7 (m9 kvs k v)→Q () {s with heap:=h',toks:=s.toks+gn k}):au (aZ prog w) A (dictSet d kv vv) Q E s:=by
 unfold dictSet
 try with_reducible refine bD ?_
 refine af (zA hg rk hf hu ?_);unfold dictSetHashed
 try with_reducible refine bD ?_
 refine af (zz (s:={s with toks:=s.toks+gn k}) ho R D hg rk hf hu ?_)
 induction hi:fi kvs k with
 |none=>
  refine af (jX (wpAny_updateDictKeys (s:={s with toks:=s.toks+gn k}) ho rfl ?_ (by rw[aJ,R.length];exact aW hl)));have e:=Ho (v:=v) hi;refine h _ (es++ [⟨hashP w k,kv,vv⟩]) (n+1) (Heap.SameBut.update ..) ?_ (by rw[e];exact R.append (.cons (.mk rfl rk rv) .nil)) (by rw[e];exact D.push hf hl hi);exact(Heap.get?_update_self _ ho rfl).trans (congrArg (λa=>some (⟨_,_,.dict a _,_⟩:Obj)) (by simp))
 |some i=>
  refine af (jX (af (wpAny_updateDict (s:={s with toks:=s.toks+gn k}) ho rfl (wpAny_point ?_))));have e:=Ku (v:=v) hf D.1 hi;refine h _ (es.modify i λe=>{e with val:=vv}) n (Heap.SameBut.update ..) ?_ (by rw[e];exact R.modify (λ_ _ q=>q.casesOn λa b _=>.mk a b rv) i) (by rw[e];exact D.modify i);exact(Heap.get?_update_self _ ho rfl).trans (congrArg (λa=>some (⟨_,_,.dict a _,_⟩:Obj)) (by simp))
end
mutual
theorem A8:∀d:ab,d.canLay0=true→aO d d=true
 |.none,_=>by simp[aO]
 |.bool _,_=>by simp[aO]
 |.int _,_=>by simp[aO]
 |.str _,_=>by simp[aO]
 |.list xs,h=>by simp only[aO];exact pF xs (by simpa[bN]using h)
 |.tuple xs,h=>by simp only[aO];exact pF xs (by simpa[bN]using h)
 |.dict _,h=>by simp[bN]at h
theorem pF:∀xs:List ab,bo xs=true→cN xs xs=true
 | [],_=>by simp[cN]
 |x::r,h=>by
  simp only[bo,ay]at h;simp[cN,A8 x h.1,pF r h.2]
end
section
variable {prog:cD} {w:bi} {A:bC} {E:ai→ag→Prop} {s:ag} {h₀:bv} {env:Env} {G:Fz} {θ:List aI} {st:St}
abbrev L3(w:bi)(G:Fz):List (Str×ai)→List (ab×ab)→Prop:=eP λp q=>q.1=.str p.1∧Rp w G p.2 q.2
theorem L3.keys{ks:List (Str×ai)}{kvs:List (ab×ab)}(r:L3 w G ks kvs):kvs.map (·.1)=(ks.map (·.1)).map e9:=by
 induction r with
 |nil=>rfl
 |cons a _ ih=>exact congr (congrArg List.cons a.1) ih
theorem mi.dictOf{es:List cU}{kvs:List (ab×ab)}(r:mi w G es kvs)(hs:(kvs.all λp=>ci p.1)=true):∃ks:List (Str×ai),Pairs (PySem.strKind prog w) es ks∧L3 w G ks kvs:=by
 induction r with
 |nil=>exact aV ([]) .nil .nil
 |@cons e _ p _ a _ ih=>
  have hs:=Bool.and_eq_true_iff.mp (eV▸hs);refine aG (ih hs.2) λks h1 h2=>?_;obtain⟨_,ra,rb⟩:=a;refine ff (kh hs.1 ra) λx t e1 e2=>?_;exact aV ((x,e.val)::ks) (.cons (e1▸xR prog w x t) rfl h1) (.cons ⟨e2,rb⟩ h2)
theorem nh{d:aI}{es:List cU}{n:Nat}{kvs:List (ab×ab)}(ho:s.heap.get? d=some (fJ es n))(R:mi w G es kvs)(D:x7 kvs)(hs:(kvs.all λp=>ci p.1)=true):
  ∃ks:List (Str×ai),s.heap.DictOf (PySem.strKind prog w) d ks∧L3 w G ks kvs:=by
 refine aG (R.dictOf (prog:=prog) hs) λks h1 h3=>?_;refine⟨ks,(PH _ es.toArray n ho ⟨rfl,rfl,rfl⟩ rfl (λe he=>?_) h1 ?_),h3⟩
 ·refine ff ((R.strs hs (ofString "")).1 e (List.mem_toArray.mp he)) λy t e1 e2=>?_;exact aV y (e1▸xR prog w y t) e2
 ·have:=D.1;rw[h3.keys]at this;exact List.Pairwise.of_map e9 (λa b h e=>h (e▸rfl)) this
theorem sJ{ks:List (Str×ai)}{kvs:List (ab×ab)}(r:L3 w G ks kvs)(x:Str):(valueAt ks x=none∧gE kvs (.str x)=none)∨∃v b,valueAt ks x=some v∧gE kvs (.str x)=some b∧Rp w G v b:=by
 induction r with
 |nil=>exact .inl ⟨rfl,rfl⟩
 |@cons p ks q kvs a _ ih=>
  unfold valueAt gE at ih⊢;refine List.find?_cons ..▸List.find?_cons ..▸a.1 ..▸?_
  by_cases hk:p.1=x
  ·refine decide_eq_true hk ..▸(show aO (.str p.1) (.str x)=true by simp[aO,hk]).symm▸?_;exact .inr (kT _ _ rfl rfl a.2)
  ·refine decide_eq_false hk ..▸(show aO (.str p.1) (.str x)=false by simp[aO,hk]).symm▸?_;exact ih
theorem Kw(O:∀a o,G a=some o→s.heap.get? a=some o){kb:List (Str×ai)}{ws:List (ab×ab)}(hb:L3 w G kb ws)
  (hbs:(ws.all λp=>SeqAt.shaped p.2)=true) (hu:A.units+64<gB) {ka:List (Str×ai)} {kvs:List (ab×ab)} (r:L3 w G ka kvs)
  (hs:(kvs.all λp=>SeqAt.shaped p.2)=true):KeqHits A s kb ka (kvs.all λp=>match gE ws p.1 with|some x=>aO p.2 x|none=>false):=by
 induction r with
 |nil=>exact .nil
 |@cons p ka q kvs a _ ih=>
  have hs:=Bool.and_eq_true_iff.mp (eV▸hs);refine eV ..▸a.1 ..▸?_;refine(sJ hb p.1).elim (λz1=>aB z1 λe1 e2=>?_) λz2=>dS z2 λy b' e1 e2 ry=>?_
  ·refine e2 ..▸?_;exact .miss e1
  ·refine e2 ..▸?_;refine .hit e1 ?_ (ih hs.2);refine aY (a.2.reads O) λas q1=>?_;refine aY (ry.reads O) λbs q2=>?_;have sh:SeqAt.shaped b'=true:=by
    refine aG (aH.mp e2) λp hp z1=>?_;obtain rfl:=z1;exact aM.mp hbs p (List.mem_of_find?_eq_some hp)
   exact SeqAt.eqAt_reads _ _ _ _ _ _ _ _ q1 q2 (iQ hs.1) (iQ sh) (SeqAt.room_of_shaped hs.1 hu)
theorem A9{kvs:List (ab×ab)}(D:x7 kvs)(hs:ji kvs=true):mU kvs kvs=true:=by
 unfold mU;simp only[beq_self_eq_true,jb,aM];intro p hp;unfold ji at hs;rw[aM]at hs;have h1:=hs p hp;simp only[ay]at h1;refine aY (List.mem_iff_getElem?.mp hp) λj hj=>?_;refine zy ..▸(Ek (k:=p.1) (v:=p.2) (mA h1.1) (λq hq=>mA (by have:=hs q hq;simp only[ay]at this;exact this.1)) D.1 hj) ..▸?_;simp only[nV,hj,gO];exact A8 _ (iQ h1.2)
theorem C1(hg:∀a o,G a=some o→s.heap.get? a=some o){u v:ai}{ws kvs:List (ab×ab)}(ru:Rp w G u (.dict ws))(rv:Rp w G v (.dict kvs))(hw:ji ws=true)(hk:ji kvs=true)
  (hu:A.units+70<gB):∀(E:ai→ag→Prop)(Q:Bool→ag→Prop),Q (mU ws kvs) s→au (aZ prog w) A (eqBool u v) Q E s:=by
 intro E Q hQ;refine A0 (mz ru) λa es n z2 ga ra da loa=>?_;obtain rfl:=z2;refine A0 (mz rv) λb es' n' z3 gb rb db lob=>?_;obtain rfl:=z3;have spl:∀l:List (ab×ab),ji l=true→(l.all λp=>ci p.1)=true∧(l.all λp=>SeqAt.shaped p.2)=true:=λl h=>by
  unfold ji at h;simp only[aM,ay]at h⊢;exact⟨λp hp=>(h p hp).1,λp hp=>(h p hp).2⟩
 unfold eqBool
 try with_reducible refine bD ?_
 show au _ _ (if(Value.ref a==Value.ref b)=true then _ else _) Q E s
 by_cases hab:(Value.ref a==Value.ref b)=true
 ·refine if_pos hab ..▸?_;have e:a=b:=by have:=eq_of_beq hab;injection this
  subst e;refine aY (ru.reads hg) λas q1=>?_;refine aY (rv.reads hg) λbs q2=>?_;have this:ws=kvs:=fI.inj (PySem.Reads.unique q1 _ _ q2).1;subst this;rw[A9 da hw]at hQ;exact af (jX (ap hQ))
 ·refine if_neg hab ..▸?_;refine aG (nh (prog:=prog) (hg _ _ ga) ra da (spl ws hw).1) λka k1 k2=>?_;refine aG (nh (prog:=prog) (hg _ _ gb) rb db (spl kvs hk).1) λkb l1 l2=>?_;refine af (keq_eq loa lob k1 l1 (nw [_,_] (.d (.s (.a yA (.k 70))) yB .n) (.s yA) yB rfl hu) (λ_=>Kw hg l2 (spl kvs hk).2 (by show A.units+1+64<gB;exact nw [_,_] (.d (.s (.a yA (.k 70))) yB .n) (.s (.a (.s yA) (.k 64))) yB rfl hu) k2 (spl ws hw).2) ?_);refine iF ?_;refine k2.length ..▸l2.length ..▸?_;exact hQ
end
section
variable {prog:cD} {w:bi} {A:bC} {E:ai→ag→Prop} {s:ag} {h₀:bv} {env:Env} {G:Fz} {θ:List aI} {st:St}
theorem Ok.keeps{h h':bv}(O:Ok w h₀ env G θ st h)(k:∀a o,h.get? a=some o→h'.get? a=some o):Ok w h₀ env G θ st h'∧dg [] θ G h θ G h':=
 have E:=dg.of_keeps (F:= []) (θ:=θ) (G:=G) k
 ⟨⟨O.wd.heap λa o e _=>k a o e,O.fr.evo E⟩,E⟩
open MeetsSeq MeetsSeq2 MeetsSeq3 SeqRoads2 in
theorem wq(l:aI)(items:Array ai)(n:Nat)(x:ai)(e:ai→Bool)(k:Nat):
  ∀i:Nat,items.size-i=k→MeetsIn prog w (Builtin.«list.__contains__.loop» ⟨[.ref l,x,jY i],[]⟩)
   (λA R s=>s.heap.get? l=some {cls:=.type "list",data:=.seq items n}∧(∀y,y∈items→∀(E:ai→ag→Prop)(Q:Bool→ag→Prop),Q (e y) s→au (aZ prog w) A.in1 (eqBool y x) Q E s)∧
    R (.ok (.ret (.bool ((items.toList.drop i).any e)))) s):=by
 induction k with
 |zero=>
  intro i hk A R s h;obtain⟨hp,g,d,tk,os⟩:=s;refine dE h λhl he h=>?_
  wp_walk using CE hl
  have hi:items[((i:Nat):Int).toNat]?=none:=by simp;exact nw [_,_,_] (.d yA (.k 0) (.d yB (.a yA yC) .n)) yB yC rfl (ah hk) (a6 _ _)
  have hd:items.toList.drop i= []:=by simp;exact nw [_,_,_] (.d yA (.k 0) (.d yB (.a yA yC) .n)) yB yC rfl (ah hk) (a6 _ _)
  rw[hd]at h;refine hi ..▸?_
  wp_walk
  exact h
 |succ k ih=>
  intro i hk A R s h;obtain⟨hp,g,d,tk,os⟩:=s;refine dE h λhl he h=>?_
  wp_walk using CE hl
  have hlt:i<items.size:=by exact(ms _ _).elim (λq0=>nk [_,_,_,_] (.d (.s yA) yB (.d yB (.k 0) .n)) 0 (.s yC) yD rfl (ah hk.symm) (ah (Ff (fU q0)))) (λq0=>nw [_,_,_,_] (.d (.s yA) yB (.d (.a yB yC) yD .n)) (.s yC) yD rfl (ah hk.symm) (ah (az q0)))
  rw[(by simp[dZ,hlt]:items.toList.drop i=items[i]::items.toList.drop (i+1)),gZ]at h;refine (by simp[hlt]:items[((i:Nat):Int).toNat]?=some items[i]) ..▸?_;refine af (he _ (Array.getElem_mem hlt) _ _ ?_)
  induction hb:e items[i]with
  |true=>
   rw[hb]at h
   wp_walk
   exact h
  |false=>
   rw[hb]at h;have hc:((i:Int)+1)=((i+1:Nat):Int):=by push_cast;rfl
   wp_walk
   refine hc ..▸?_;exact⟨wf plain_contains_loop _,sD entry_contains_loop (by
    refine Around.under_plainId plain_contains_loop _ ..▸?_;exact ih (i+1) (aC (nw [_,_,_,_,_] (.d yA (.s yB) (.d yC (.a yA yD) (.d (.a yE (.s yD)) yC .n))) yE yB rfl (ah hk) (a6 _ _) (ah (az (hlt)))) (nw [_,_,_,_,_] (.d (.s yA) yB (.d yC (.a yD (.s yE)) (.d (.a yB yE) yC .n))) yA yD rfl (ah hk.symm) (a6 _ _) (ah (az (aW hlt))))) A R _ ⟨hl,he,by simpa using h⟩)⟩
open MeetsSeq MeetsSeq2 MeetsSeq3 SeqRoads2 in
theorem Fu(l:aI)(items:Array ai)(n:Nat)(x:ai)(e:ai→Bool):
  MeetsIn prog w (Builtin.«list.__contains__» ⟨[.ref l,x],[]⟩)
   (λA R s=>s.heap.get? l=some {cls:=.type "list",data:=.seq items n}∧(∀y,y∈items→∀(E:ai→ag→Prop)(Q:Bool→ag→Prop),Q (e y) s→au (aZ prog w) A.in1 (eqBool y x) Q E s)∧
    R (.ok (.ret (.bool (items.any e)))) s):=by
 intro A R s h;obtain⟨hp,g,d,tk,os⟩:=s;refine dE h λhl he h=>?_
 wp_walk using CE hl
 exact⟨wf plain_contains_loop _,sD entry_contains_loop (by
  refine Around.under_plainId plain_contains_loop _ ..▸?_;exact wq l items n x e _ 0 rfl A R _ ⟨hl,he,by simpa using h⟩)⟩
theorem MT{l:aI}{vs:List ai}{n:Nat}{x:ai}{e:ai→Bool}{Q:ai→ag→Prop}(ho:s.heap.get? l=some {cls:=.type "list",data:=.seq vs.toArray n})
  (he:∀y,y∈vs→∀(E:ai→ag→Prop)(Q:Bool→ag→Prop),Q (e y) s→au (aZ prog w) A.in1 (eqBool y x) Q E s) (hQ:Q (.bool (!vs.any e)) s):
  au (aZ prog w) A (j8 .NotIn x (.ref l)) Q E s:=by
 have hT:s.TypeIs (.ref l) "list":=aV _ ho rfl;show au _ _ (do return .bool (!(←contains (.ref l) x))) Q E s;refine af ?_;unfold contains
 try with_reducible refine bD ?_
 refine af (CD hT F.slot_list_contains.lookup ?_);show au _ _ (if(some (Value.builtin "list.__contains__")==some Value.none)=true then _ else _) _ E s;rw[if_neg (by rw[AL];exact aR)];refine af (wpAny_callSpecialUnlessNone?_slot (name:=Str.ofString "__contains__") hT F.slot_list_contains ?_);refine call_meetsIn F.slot_list_contains hT F.entry_list_contains (F.args_list_contains_2 _ _) (Fu l vs.toArray n x e) ⟨ho,λy hy=>he y (by simpa using hy),?_⟩;refine iF (ap ?_);refine(show vs.toArray.any e=vs.any e by simp).symm▸?_;exact hQ
theorem Ba{u v:ai}{kvs:List (ab×ab)}{xs:List ab}{Q:ai→ag→Prop}(hu:A.units+80<gB)(O:Ok w h₀ env G θ st s.heap)(ra:Rp w G u (.dict kvs))(rb:Rp w G v (.list xs))(hk:ji kvs=true)
  (hx:∀y∈xs,(match y with|.dict ws=>ji ws|_=>false)=true) (hQ:Q (.bool (!xs.any λy=>match y with|.dict ws=>mU ws kvs|_=>false)) s):au (aZ prog w) A (j8 .NotIn u v) Q E s:=by
 classical
 refine lH (fx rb) λa vs n z1 ga rs _=>?_;obtain rfl:=z1
 let T:ab→Bool:=λy=>match y with|.dict ws=>mU ws kvs|_=>false
 let f:ai→Bool:=λy=>if h:∃d,Rp w G y d then T h.choose else false
 have uniq:∀y d d',Rp w G y d→Rp w G y d'→d=d':=λy d d' r r'=>by
  refine aY (nc O r) λas q=>?_;refine aY (nc O r') λbs q'=>?_;exact(PySem.Reads.unique q _ _ q').1
 have fv:∀y d,Rp w G y d→f y=T d:=λy d r=>by
  have hx:∃d,Rp w G y d:=⟨d,r⟩
  show(if h:∃d,Rp w G y d then T h.choose else false)=T d;exact dif_pos hx ..▸uniq y _ _ hx.choose_spec r ..▸rfl
 have anyE:∀ {vs:List ai} {xs:List ab},ei w G vs xs→vs.any f=xs.any T:=by
  intro vs
  induction vs with
  |nil=>intro xs r;cases r;rfl
  |cons v vs ih=>intro xs r;cases r with|cons r1 r2=>exact(gZ ..).symm▸(gZ ..).symm▸(fv _ _ r1 ..).symm▸(ih r2 ..).symm▸rfl
 refine MT (e:=f) (O.wd.froz _ _ ga) (λy hy E' Q' hq=>?_) (by refine anyE rs ..▸?_;exact hQ);refine aY (List.mem_iff_getElem?.mp hy) λj hj=>?_;obtain⟨d,hd⟩:∃d,xs[j]?=some d:=⟨_,List.getElem?_eq_getElem (by refine(rs.length ..)▸?_;exact((List.getElem?_eq_some_iff.mp hj).1))⟩
 refine aG (rs.get hd) λy' e1 r=>?_;rw[hj]at e1;obtain rfl:=Option.some.inj e1;have hdd:=hx d (List.mem_of_getElem? hd);rw[fv _ _ r]at hq
 induction d using aq with
 |dict ws=>exact C1 O.wd.froz r ra hdd hk (by show A.units+1+70<gB;exact nw [_,_] (.d (.s (.a yA (.k 80))) yB .n) (.s (.a (.s yA) (.k 70))) yB rfl hu) E' Q' hq
 |_=>simp at hdd
theorem sK{x y:Nat}(hx:x≤64)(hu:A.units+80<gB):A.units+1+min x y<gB:=by
 have:=dW x y;exact nw [_,_,_,_] (.d yA (.k 64) (.d (.s (.a yB (.k 80))) yC (.d yD yA .n))) (.s (.a (.s yB) yD)) yC rfl hx hu this
theorem yz{v:ai}{d:ab}(r:Rp w G v d):(v==Value.none)=zs d:=by
 cases r<;>rfl
theorem Oj{u v:ai}{a b:ab}{t:Bool}{Q:ai→ag→Prop}(hu:A.units+80<gB)(O:Ok w h₀ env G θ st s.heap)(ra:Rp w G u a)(rb:Rp w G v b)(e:Fn a b=some t)(hQ:Q (.bool t) s):au (aZ prog w) A (j8 .Eq u v) Q E s:=by
 refine aY (nc O ra) λas qa=>?_;refine aY (nc O rb) λbs qb=>?_;unfold Fn at e
 by_cases hc:(SeqAt.shaped a&&SeqAt.shaped b)=true
 ·rw[if_pos hc]at e;obtain rfl:=Option.some.inj e;refine aB (Bool.and_eq_true_iff.mp hc) λh1 h2=>?_;exact eq_dataH qa qb h1 h2 (ba (bM (by decide) _) hu) hQ
 rw[if_neg hc]at e
 induction a using aq<;>first|exact nsN e|exact dC e|(cases e;done)|skip
 induction b using aq<;>first|exact nsN e|exact dC e|(cases e;done)|skip
 rename_i xs ys
 induction ys using am with
 |cons _ _=>exact nsN e
 |nil=>
  obtain rfl:=Option.some.inj e;refine lH (fx ra) λx vs n z2 gx rx _=>?_;obtain rfl:=z2;refine lH (fx rb) λy ws m z3 gy ry _=>?_;obtain rfl:=z3;cases ry
  have hL:s.heap.IsList x vs.toArray:=⟨_,O.wd.froz _ _ gx,rfl,_,rfl⟩
  have hM:s.heap.IsList y #[]:=⟨_,O.wd.froz _ _ gy,rfl,_,rfl⟩
  cases rx with
  |nil=>exact absurd (by decide+kernel) hc
  |cons _ _=>exact SeqAt.RcAt.lists_lengths hL hM rfl (ba (ao _ _) hu) prog w E Q hQ
theorem Kx{u v:ai}{a:ab}{kvs:List (ab×ab)}{Q:ai→ag→Prop}(O:Ok w h₀ env G θ st s.heap)(ra:Rp w G u a)(rb:Rp w G v (.dict kvs))(hc:(ci a&&cP kvs a)=true)
  (hQ:∀tk,Q (.bool (gE kvs a).isSome) {s with toks:=tk}):au (aZ prog w) A (j8 .In u v) Q E s:=by
 refine aB (Bool.and_eq_true_iff.mp hc) λhc hf=>?_;refine A0 (mz rb) λd es n z4 gd rd dk lo=>?_;obtain rfl:=z4;refine ff (kh hc ra) λx t z5 z6=>?_;obtain rfl:=z5;obtain rfl:=z6;have hs:(ci (.str x)&&kvs.all λp=>ci p.1)=true:=by
  refine(Bool.or_eq_true_iff.mp hf).elim (λh=>?_) λh=>?_
  ·exact h
  ·exact dC h
 refine aG (nh (prog:=prog) (O.wd.froz _ _ gd) rd dk (Bool.and_eq_true_iff.mp hs).2) λks k1 k2=>?_;refine PA k1 λo z7 ep g1 g2 g3 g4 g5 g6=>?_;clear k1;obtain⟨l⟩:=z7;refine wpAny_in_of (f:=λk=>valueAt ks k) (xR prog w x t) lo (ML o ⟨l⟩ ep g1 g2 g3 g4 (λk=>?_)) ?_
 ·show findBy _ _ _=valueAt ks k;refine(g5.find k ..)▸?_;simp[findBy]
 ·have:=hQ (s.toks+1);refine(sJ k2 x).elim (λz1=>aB z1 λe1 e2=>?_) λz2=>dS z2 λ_ _ e1 e2 _=>?_<;>rw[e2]at this<;>simp only[e1]<;>exact this
theorem zB{f:Int→Int→Bool}{a b:ab}{t:Bool}(h:Ki f a b=some t):∃x y,a=.int x∧b=.int y∧f x y=t:=by
 induction a using aq<;>first|exact nsN h|exact dC h|(cases h;done)|skip
 induction b using aq<;>first|exact nsN h|exact dC h|(obtain rfl:=Option.some.inj h;done)|exact kT _ _ rfl rfl (Option.some.inj h)
theorem MU{op:CmpOp}{u v:ai}{a b:ab}{t:Bool}{Q:ai→ag→Prop}(hu:A.units+80<gB)(O:Ok w h₀ env G θ st s.heap)(ra:Rp w G u a)(rb:Rp w G v b)(e:wk op a b=some t)
  (hQ:∀tk,Q (.bool t) {s with toks:=tk}):au (aZ prog w) A (j8 op u v) Q E s:=by
 have hQ0:Q (.bool t) s:=hQ s.toks;refine Qo λng=>?_;refine aY (nc O ra) λas qa=>?_;refine aY (nc O rb) λbs qb=>?_;have any:∀ {xs},Kj a xs=some t→(xs.any λy=>aO y a)=t∧a.canLay0=true∧bo xs=true∧cf xs≤64:=λh=>by
  refine aB (gU h) λhc z8=>?_;obtain rfl:=z8;refine aB (Bool.and_eq_true_iff.mp hc) λh1 h2=>?_;exact⟨rfl,iQ h1,vJ h2⟩
 induction op using CmpOp.casesOn
 case Eq=>exact ng (Oj hu O ra rb e hQ0)
 case NotEq=>
  refine aB (gU e) λhc z9=>?_;obtain rfl:=z9;refine aB (Bool.and_eq_true_iff.mp hc) λh1 h2=>?_;exact ng (ne_dataH qa qb h1 h2 (ba (bM (by decide) _) hu) hQ0)
 case Lt=>
  induction a using aq<;>first|exact nsN e|exact dC e|(cases e;done)|skip
  ·induction b using aq<;>first|exact nsN e|exact dC e|(obtain rfl:=Option.some.inj e;done)|skip
   obtain rfl:=Option.some.inj e;refine aY (cV ra) λt z10=>?_;obtain rfl:=z10;refine aY (cV rb) λt' z11=>?_;obtain rfl:=z11;exact ng (P.lt_int hQ0)
  ·induction b using aq<;>first|exact nsN e|exact dC e|(obtain rfl:=Option.some.inj e;done)|skip
   obtain rfl:=Option.some.inj e;refine aY (CW ra) λt z12=>?_;obtain rfl:=z12;refine aY (CW rb) λt' z13=>?_;obtain rfl:=z13;exact ng (P.lt_str hQ0)
 case LtE=>refine dS (zB e) λx y z14 z15 z16=>?_;obtain rfl:=z14;obtain rfl:=z15;obtain rfl:=z16;refine aY (cV ra) λt z17=>?_;obtain rfl:=z17;refine aY (cV rb) λt' z18=>?_;obtain rfl:=z18;exact ng (P.le_int hQ0)
 case Gt=>refine dS (zB e) λx y z19 z20 z21=>?_;obtain rfl:=z19;obtain rfl:=z20;obtain rfl:=z21;refine aY (cV ra) λt z22=>?_;obtain rfl:=z22;refine aY (cV rb) λt' z23=>?_;obtain rfl:=z23;exact ng (P.gt_int hQ0)
 case GtE=>refine dS (zB e) λx y z24 z25 z26=>?_;obtain rfl:=z24;obtain rfl:=z25;obtain rfl:=z26;refine aY (cV ra) λt z27=>?_;obtain rfl:=z27;refine aY (cV rb) λt' z28=>?_;obtain rfl:=z28;exact ng (P.ge_int hQ0)
 case Is=>
  induction b using aq<;>first|exact nsN e|exact dC e|(obtain rfl:=Option.some.inj e;done)|skip
  obtain rfl:=Option.some.inj e;cases rb;exact ng (is_none (by refine yz ra ..▸?_;exact hQ0))
 case IsNot=>
  induction b using aq<;>first|exact nsN e|exact dC e|(obtain rfl:=Option.some.inj e;done)|skip
  obtain rfl:=Option.some.inj e;cases rb;exact ng (isNot_none (by refine yz ra ..▸?_;exact hQ0))
 case In=>
  induction b using aq<;>first|exact nsN e|exact dC e|(cases e;done)|skip
  ·refine eL (any e) λz29 h1 h2 h3=>?_;obtain rfl:=z29;exact ng (SeqAt.in_list_reads qb qa h2 h1 (sK h3 hu) hQ0)
  ·refine eL (any e) λz30 h1 h2 h3=>?_;obtain rfl:=z30;exact ng (SeqAt.in_tuple_reads qb qa h2 h1 (sK h3 hu) hQ0)
  ·refine aB (gU e) λhc z31=>?_;obtain rfl:=z31;exact ng (Kx O ra rb hc hQ)
 case NotIn=>
  induction b using aq<;>first|exact nsN e|exact dC e|(cases e;done)|skip
  ·refine aG (aH.mp e) λb hb z32=>?_;obtain rfl:=z32;unfold Kh at hb;split at hb
   ·rename_i hc;refine aB (Bool.and_eq_true_iff.mp hc) λh1 h2=>?_;refine aB (vJ h2) λh3 h4=>?_;obtain rfl:=Option.some.inj hb;exact ng (SeqAt.notIn_list_reads qb qa h3 (iQ h1) (sK h4 hu) hQ0)
   ·induction a using aq<;>first|exact nsN hb|exact dC hb|(cases hb;done)|skip
    refine aB (gU hb) λhc z33=>?_;obtain rfl:=z33;refine aB (Bool.and_eq_true_iff.mp hc) λh1 h2=>?_;exact ng (Ba hu O ra rb h1 (aM.mp h2) hQ0)
  ·refine aG (aH.mp e) λb hb z34=>?_;obtain rfl:=z34;refine aB (gU hb) λhc z35=>?_;obtain rfl:=z35;refine aB (Bool.and_eq_true_iff.mp hc) λh1 h2=>?_;refine aB (vJ h2) λh3 h4=>?_;exact ng (SeqAt.notIn_tuple_reads qb qa h3 (iQ h1) (sK h4 hu) hQ0)
theorem Fv {a d : ab} {l u : Option ab} (e : tS a l u = some d) {P : ab → Option ab → Option ab → Prop} (h1 : ∀ x c, x.cps.toList.getLast? = some c → d = .str ⟨#[c]⟩ → P (.str x) (some (.int (-1))) none)
    (h2 : ∀ xs k, 0 ≤ k → d = .list (xs.drop k.toNat) → P (.list xs) (some (.int k)) none) (h3 : ∀ xs k, 0 ≤ k → d = .list (xs.take k.toNat) → P (.list xs) none (some (.int k)))
    (h4 : ∀ xs k, 1 ≤ k ∧ k ≤ xs.length → d = .tuple (xs.drop k.toNat) → P (.tuple xs) (some (.int k)) none) : P a l u := by
  refine Qo λng => ?_
  induction a using aq <;> first | exact nsN e | exact dC e | (cases e; done) | skip
  · induction l <;> first | exact nsN e | exact dC e | (cases e; done) | skip
    rename_i l; induction l using aq <;> first | exact nsN e | exact dC e | (cases e; done) | skip
    induction u <;> first | exact nsN e | exact dC e | (cases e; done) | skip
    rename_i k
    by_cases hk : k = -1
    · subst hk
      exact (aH.mp e).elim λc h => ng (h1 _ c h.1 h.2.symm)
    · cases (if_neg hk).symm.trans e
  · induction l with
    | none => induction u <;> first | exact nsN e | exact dC e | (cases e; done) | skip
              rename_i u; induction u using aq <;> first | exact nsN e | exact dC e | (cases e; done) | skip
              exact ng (h3 _ _ (gU e).1 (gU e).2.symm)
    | some l => induction l using aq <;> first | exact nsN e | exact dC e | (cases e; done) | skip
                induction u <;> first | exact nsN e | exact dC e | (cases e; done) | skip
                exact ng (h2 _ _ (gU e).1 (gU e).2.symm)
  · induction l <;> first | exact nsN e | exact dC e | (cases e; done) | skip
    rename_i l; induction l using aq <;> first | exact nsN e | exact dC e | (cases e; done) | skip
    induction u <;> first | exact nsN e | exact dC e | (cases e; done) | skip
    exact ng (h4 _ _ (gU e).1 (gU e).2.symm)
theorem wt{x:Str}{t t':Tok}{c:Nat}(hc:x.cps.toList.getLast?=some c):(sliceMade x t (some (-1,t')) none none=.val (.str x t)∧x=⟨#[c]⟩)∨sliceMade x t (some (-1,t')) none none=.str ⟨#[c]⟩:=by
 refine aY (List.getLast?_eq_some_iff.mp hc) λys e=>?_;have hl:x.length=ys.length+1:=(congrArg List.length e).trans aj;have hp:slicePicked x (some (-1,t')) none none= [ys.length]:=by
  show Builtin.Str.strSliceIndices (some (-1)) none 1 x.length=_;refine(hl ..).symm▸(StrLaws.sliceIdx_none_hi ..).symm▸(StrLaws.sliceIdx_neg_lo (i:= -1) _ _ (by decide) (Int.neg_le_neg (Int.ofNat_le.mpr (aD 1 _))) ..).symm▸(show(-1:Int)+((ys.length+1:Nat):Int)=(ys.length:Nat)from(iM _ _).trans (Int.add_neg_cancel_right (ys.length:Int) 1)).symm▸(StrLaws.strSliceIndices_plain (nW _) (ak _) ..).symm▸(show ys.length.succ-ys.length=1 from Nat.add_sub_cancel_left (n:=ys.length) (m:=1)).symm▸?_;rfl
 have hx:x.cps[ys.length]?=some c:=by refine(Array.getElem?_toList ..)▸(e ..).symm▸(List.getElem?_append_right (ak _) ..).symm▸(vE ..).symm▸?_;rfl
 unfold sliceMade;refine hp ..▸?_
 induction ys using am with
 |nil=>exact .inl ⟨if_pos (by refine hl ..▸?_;rfl),PySem.Str.ext' (Array.toList_inj.mp e)⟩
 |cons y ys=>exact .inr ((if_neg (by refine hl ..▸?_;exact aR)).trans (congrArg (λl:List Nat=>Made.str ⟨l.toArray⟩) (AR hx)))
theorem Hp{o:ai}{a d:ab}{l u:Option ab}{vl vu:ai}{value:Expr}{lo up:Option Expr}{p:Pos}{Q:ai→ag→Prop}(O:Ok w h₀ env G θ st s.heap)(ro:Rp w G o a)
  (rl:match l with|some x=>Rp w G vl x|none=>vl=.none) (ru:match u with|some x=>Rp w G vu x|none=>vu=.none) (e:tS a l u=some d) (hQ:mx w h₀ env G θ s st (.v d) Q):
  au (aZ prog w) A (newFields "slice" [vl,vu,.none]) (λi s₁=>au (aZ prog w) A (GU value (.Slice lo up none p) o i) Q E s₁) E s:=by
 have sub:∀o i:ai,subscripted (.Slice lo up none p) false o i=operate [i,o] (getItem o i):=λ_ _=>rfl;refine aB (eQ {cls:=.type "slice",data:=.fields #[vl,vu,.none]} O) λO1 E1=>?_;refine eO ?_ (by simp only[sizeOk,aJ,aP,ch,dD];exact by decide);have hsl:=Heap.IsSliceOf.new s.heap vl vu .none
 revert rl ru ro
 refine Fv e (P:=λa l u=>Rp w G o a→(match l with|some x=>Rp w G vl x|none=>vl=.none)→(match u with|some x=>Rp w G vu x|none=>vu=.none)→_) (λx c hc hd ro rl ru=>?_) (λxs k hk hd ro rl ru=>?_) (λxs k hk hd ro rl ru=>?_) λxs k hk hd ro rl ru=>?_
 ·refine aY (CW ro) λt z36=>?_;obtain rfl:=z36;refine aY (cV rl) λt' z37=>?_;obtain rfl:=z37;cases ru
  refine o8 (T:="str") (typeIs_str _ x t) F.slot_str_getitem.lookup (wpAny_getItem_str_slice (l:=some (-1,t')) (u:=none) (st:=none) (iw _ (Heap.get?_push_size _ rfl) rfl rfl) rfl ?_) (sub _ _);refine(wt (t:=t) (t':=t') hc).elim (λz3=>aB z3 λe1 e2=>?_) λe1=>?_
  ·refine e1 ..▸?_;exact hQ (.str x t) _ s.toks G θ O1 (by refine hd ..▸(e2 ..)▸?_;exact .str x t) E1
  ·refine e1 ..▸?_;exact⟨by refine dD ..▸?_;exact(by decide:1≤16777216),hQ (.str ⟨#[c]⟩ _) _ (s.toks+1) G θ O1 (hd▸.str _ _) E1⟩
 ·refine lH (fx ro) λx vs n z38 gx rx ln=>?_;obtain rfl:=z38;refine aY (cV rl) λt' z39=>?_;obtain rfl:=z39;cases ru
  have hL:(s.heap.push {cls:=.type "slice",data:=.fields #[.int k t',.none,.none]}).IsList x vs.toArray:=⟨_,O1.wd.froz _ _ gx,rfl,_,rfl⟩
  refine o8 hL.typeIs slot_list_getitem.lookup (wpAny_getItem_list_slice hL hsl (.int k t') .none .none (by decide) ?_ (by refine aJ ..▸rx.length ..▸?_;exact ln)) (sub _ _);refine ((congrArg (λk=>slicePick vs.toArray (some k) none none) (G0 hk).symm).trans (slicePick_from' vs.toArray k.toNat):slicePick vs.toArray (some k) none none=(vs.drop k.toNat).toArray) ..▸?_;refine aB (iY (o:={cls:=.type "list",data:=.seq (vs.drop k.toNat).toArray}) O1 rfl) λO2 E2=>?_;exact hQ _ _ s.toks _ θ O2 (hd▸.list (ej ..) ((rx.drop k.toNat).mono (cw (O1.wd.fresh (ak _)))) (by refine cO ..▸?_;exact aa (dH _ _) ln)) (E1.trans E2)
 ·refine lH (fx ro) λx vs n z40 gx rx ln=>?_;obtain rfl:=z40;refine aY (cV ru) λt' z41=>?_;obtain rfl:=z41;cases rl
  have hL:(s.heap.push {cls:=.type "slice",data:=.fields #[.none,.int k t',.none]}).IsList x vs.toArray:=⟨_,O1.wd.froz _ _ gx,rfl,_,rfl⟩
  refine o8 hL.typeIs slot_list_getitem.lookup (wpAny_getItem_list_slice hL hsl .none (.int k t') .none (by decide) ?_ (by refine aJ ..▸rx.length ..▸?_;exact ln)) (sub _ _);refine ((congrArg (λk=>slicePick vs.toArray none (some k) none) (G0 hk).symm).trans (slicePick_upto' vs.toArray k.toNat):slicePick vs.toArray none (some k) none=(vs.take k.toNat).toArray) ..▸?_;refine aB (iY (o:={cls:=.type "list",data:=.seq (vs.take k.toNat).toArray}) O1 rfl) λO2 E2=>?_;exact hQ _ _ s.toks _ θ O2 (hd▸.list (ej ..) ((rx.take k.toNat).mono (cw (O1.wd.fresh (ak _)))) (by refine fb ..▸?_;exact aa (Nat.min_le_right _ _) ln)) (E1.trans E2)
 ·refine wj (gF ro) λx vs _ _ _ z42 gx rx ln=>?_;obtain rfl:=z42;refine aY (cV rl) λt' z43=>?_;obtain rfl:=z43;cases ru
  refine aY (eF (cK (by decide) hk.1)) λk z44=>?_;obtain rfl:=z44;have hL:IsTup (s.heap.push {cls:=.type "slice",data:=.fields #[.int k t',.none,.none]}) x vs.toArray:=⟨_,O1.wd.froz _ _ gx,rfl,_,rfl⟩
  refine o8 hL.typeIs slot_tuple_getitem.lookup (getItem_tuple_from (a:=k) hL hsl (Int.ofNat_le.mp hk.1) (by refine aJ ..▸rx.length ..▸?_;exact Int.ofNat_le.mp hk.2) ?_ (by refine aJ ..▸rx.length ..▸?_;exact ln)) (sub _ _);refine aB (iY (o:={cls:=.type "tuple",data:=.seq (vs.toArray.toList.drop k).toArray}) O1 rfl) λO2 E2=>?_;exact hQ _ _ s.toks _ θ O2 (hd▸.tuple (vs:=vs.drop k) (by rw[ej]) ((rx.drop k).mono (cw (O1.wd.fresh (ak _)))) (by rw[cO];exact aa (dH _ _) ln)) (E1.trans E2)
end
set_option backward.match.sparseCases true
noncomputable def n9:List String:= ["enumerate","zip","dict_itemiterator","dict_reverseitemiterator","odict_iterator","itertools.zip_longest","itertools.pairwise"]
structure It (prog:cD) (w:bi) (I:aI) (fp wr:List aI) (G₀:Fz) (ds:List ab) (tup:Bool) (St:Nat→bv→Prop):Prop where
 sub:∀b∈wr,b∈fp
 live:∀i h,St i h→∀b∈fp,∃o,h.get? b=some o
 frame:∀i h h',St i h→(∀b∈fp,∀o,h.get? b=some o→h'.get? b=some o)→St i h'
 item:∀(A:bC),A.handled=none→∀(i:Nat)(d:ab)(target:Expr)(s:ag)(G:Fz)(Q:ai→ag→Prop)(E:ai→ag→Prop),ds[i]?=some d→(tup=true→∃es k p,target=.Tuple es k p)→St i s.heap→
  (∀a o,G₀ a=some o→G a=some o)→(∀a o,G a=some o→s.heap.get? a=some o)→
  (∀v h' tk G',St (i+1) h'→Rp w G' v d→(∀b o,b∉wr→s.heap.get? b=some o→h'.get? b=some o)→(∀a o,G' a=some o→G a=some o∨(s.heap.get? a=none∧h'.get? a=some o))→(∀a o,G a=some o→G' a=some o)→Q v {s with heap:=h',toks:=tk})→
  au (aZ prog w) A (si (.ref I)) (λr s₁=>∃v,r=some v∧au (aZ prog w) A (sE target (.ref I) v) (λ_ s₂=>Q v s₂) E s₁) E s
 done:∀(A:bC),A.handled=none→∀(s:ag)(Q:Option ai→ag→Prop)(E:ai→ag→Prop),St ds.length s.heap→
  (∀h' tk,(∀b o,b∉wr→s.heap.get? b=some o→h'.get? b=some o)→Q none {s with heap:=h',toks:=tk})→au (aZ prog w) A (si (.ref I)) Q E s
 self:∀(A:bC),A.handled=none→∀i (s:ag) (Q:ai→ag→Prop) (E:ai→ag→Prop),St i s.heap→Q (.ref I) s→au (aZ prog w) A (fQ (.ref I)) Q E s
section
variable {prog:cD} {w:bi} {A:bC} {E:ai→ag→Prop} {s:ag}
theorem Fw{target:Expr}{I:aI}{v:ai}{o:Obj}{T:String}{Q:Unit→ag→Prop}(ho:s.heap.get? I=some o)(hc:o.cls=.type T)(hT:n9.contains T=false)(h:Q () s):
  au (aZ prog w) A (sE target (.ref I) v) Q E s:=by
 have key:au (aZ prog w) A (do
   let(.ref r,.ref a):=((Value.ref I,v):ai×ai)|return
   let o←load r
   match o.cls,o.data with
   |.type n,.fields vs=>
    if ["enumerate","zip","dict_itemiterator","dict_reverseitemiterator","odict_iterator","itertools.zip_longest","itertools.pairwise"].contains n&&vs[0]?==some (jY a)then
     rule "for.unpacks-the-owned-tuple"
     updateField r 0 .none
   |_,_=>pure ():Sem Unit) Q E s:=by
  induction v using Value.casesOn with
  |ref a=>
   refine af (wpAny_load ho ?_);obtain⟨c,d,dt,sl⟩:=o;simp only at hc;subst hc
   induction dt using Data.casesOn with
   |fields vs=>
    dsimp only;refine((hT:(["enumerate","zip","dict_itemiterator","dict_reverseitemiterator","odict_iterator","itertools.zip_longest","itertools.pairwise"]:List String).contains T=false) ..).symm▸(rI ..).symm▸(if_neg aR ..).symm▸?_;exact ap h
   |_=>exact ap h
  |_=>exact ap h
 induction target using cI<;>first|exact key|exact ap h
theorem mT{I:aI}{fp wr:List aI}{n:Nat}{P:Nat→ai→Prop}{St:Nat→bv→Prop}{G₀:Fz}{ds:List ab}(W:∀A:bC,A.handled=none→Walks prog w A I fp wr n P St)(hn:n=ds.length)
  (hP:∀i v d,P i v→ds[i]?=some d→Rp w G₀ v d) (hc:∀i h,St i h→∃o T,h.get? I=some o∧o.cls=.type T∧n9.contains T=false) (hv:∀i h,St i h→∀b∈fp,∃o,h.get? b=some o):It prog w I fp wr G₀ ds false St where
 live:=hv
 sub:=(W {handled:=none} rfl).sub
 frame:=(W {handled:=none} rfl).frame
 item:=λA hh i d target s G Q E hd _ st g0 gf hQ=>by
  have hlt:i<n:=by refine hn ..▸?_;exact(List.getElem?_eq_some_iff.mp hd).1
  refine(W A hh).item i s _ E hlt st λv h' tk hp st' kp=>aV v rfl ?_;refine dS (hc _ _ st') λo T ho hcl hT=>?_;exact Fw (s:={s with heap:=h',toks:=tk}) ho hcl hT (hQ v h' tk G st' ((hP i v d hp hd).mono g0) kp (λa o e=>.inl e) λ_ _ e=>e)
 done:=λA hh s Q E st hQ=>(W A hh).done s Q E (hn▸st) hQ
 self:=λA hh i s Q E st hQ=>(W A hh).self i s Q E st hQ
theorem o6{I:aI}{fp wr:List aI}{n:Nat}{Pt:Nat→Array ai→Prop}{St:Nat→bv→Prop}{Mid:Nat→aI→bv→Prop}{G₀:Fz}{ds:List ab}(W:∀A:bC,A.handled=none→WalksT prog w A I fp wr n Pt St Mid)(hn:n=ds.length)
  (hP:∀i vals d,Pt i vals→ds[i]?=some d→∃xs,d=.tuple xs∧ei w G₀ vals.toList xs∧xs.length≤cG) (hv:∀i h,St i h→∀b∈fp,∃o,h.get? b=some o):It prog w I fp wr G₀ ds true St where
 live:=hv
 sub:=(W {handled:=none} rfl).sub
 frame:=(W {handled:=none} rfl).frame
 item:=λA hh i d target s G Q E hd htgt st g0 gf hQ=>by
  have hlt:i<n:=by refine hn ..▸?_;exact(List.getElem?_eq_some_iff.mp hd).1
  refine wi (htgt rfl) λes k p z1=>?_;obtain rfl:=z1;refine(W A hh).item i s _ E hlt st λT vals h' tk hp hT htup mid kp=>aV (.ref T) rfl ?_;refine(W A hh).go es k p i T {s with heap:=h',toks:=tk} _ E mid λh'' st' kp'=>?_;refine eo (hP i vals d hp hd) λxs z2 rx lx=>?_;obtain rfl:=z2;refine eo htup λz3 ho hcl z4=>?_;refine aY z4 λm hdt=>?_;clear htup;obtain⟨c,dd,dt,sl⟩:=z3;simp only at hcl hdt;subst hcl hdt;have hTw:T∉wr:=(W A hh).apart _ _ _ mid;have hTn:s.heap.get? T=none:=by
   induction q:s.heap.get? T with
   |none=>rfl
   |some o=>exact absurd (Heap.lt_size q) (Nat.not_lt.mpr hT)
  have hGn:G T=none:=by
   induction q:G T with
   |none=>rfl
   |some o=>rw[gf _ _ q]at hTn;exact sN hTn
  have ho'':=kp' T _ hTw ho;refine hQ (.ref T) h'' tk (jf G T ⟨.type "tuple",dd,.seq vals m,sl⟩) st' (.tuple (vs:=vals.toList) (dd:=dd) (n:=m) (sl:=sl) (ej ..▸rfl) ((rx.mono g0).mono (cw hGn)) lx) (λb o hb e=>kp' b o hb (kp b o hb e)) (λa o e=>?_) (cw hGn);unfold jf at e
  by_cases q:a=T
  ·subst q;rw[if_pos rfl]at e;obtain rfl:=Option.some.inj e;exact .inr ⟨hTn,ho''⟩
  ·rw[if_neg q]at e;exact .inl e
 done:=λA hh s Q E st hQ=>(W A hh).done s Q E (hn▸st) hQ
 self:=λA hh i s Q E st hQ=>(W A hh).self i s Q E st hQ
theorem sL{it l:aI}{i:Nat}{items:Array ai}{x:ai}{Q:ai→ag→Prop}(hit:s.heap.IsTupleIter it l i)(hl:s.heap.IsTuple l items)(hx:items[i]?=some x)
  (hQ:∀h',h'.IsTupleIter it l (i+1)→Heap.SameBut it s.heap h'→Q x {s with heap:=h'}):au (aZ prog w) A (Builtin.SmallTypes.nextOf (.ref it)) Q E s:=by
 refine eo (id hit) λo ho hc hd=>?_;refine eo hl λol hol _ z5=>?_;refine aY z5 λnl hdl=>?_;clear hl;unfold Builtin.SmallTypes.nextOf;refine af (wpAny_callSpecial?_slot (name:=Str.ofString "__next__") hit.typeIs F.slot_tuple_iterator_next
  (cT F.slot_tuple_iterator_next hit.typeIs F.entry_tuple_iterator_next ?_ (F.args_tuple_iterator_next_1 _)))
 show au _ _ (field (.ref it) 0>>=_) _ _ s;refine af (j9 ho hd (x:=.ref l) rfl ?_);show au _ _ (if(Value.ref l==Value.none)=true then _ else _) _ _ s;refine if_neg (show¬ ((Value.ref l==Value.none)=true)from aR) ..▸?_;show au _ _ (field (.ref it) 1>>=_) _ _ s;refine af (j9 ho hd (x:=.int i 0) rfl ?_);show au _ _ (seqItems? (.ref l)>>=_) _ _ s;refine af (uL hol hdl ?_);rw[cE];show au _ _ (match items[i]? with|some _=>_|none=>_) _ _ _;rw[hx];refine af (D8 ho hd (by simp) (ap (aV x rfl (ap (hQ _ ?_ (Heap.SameBut.update ..))))));exact⟨_,Heap.get?_update_self _ ho (Obj.isFreed_of_fields (Obj.data_mapFields hd _)),(Obj.cls_mapFields ..).trans hc,by
  refine Obj.data_mapFields hd ..▸?_;simp[jY]⟩
theorem tV{it l:aI}{i:Nat}{items:Array ai}{Q:ai→ag→Prop}(hh:A.handled=none)(hit:s.heap.IsTupleIter it l i)(hl:s.heap.IsTuple l items)(hx:items[i]?=none)
  (hE:∀h' e,Heap.ExtBut it s.heap h'→(∃o,h'.get? e=some o∧o.cls=.type "StopIteration")→E (.ref e) {s with heap:=h'}):au (aZ prog w) A (Builtin.SmallTypes.nextOf (.ref it)) Q E s:=by
 refine eo (id hit) λo ho hc hd=>?_;refine eo hl λol hol _ z6=>?_;refine aY z6 λnl hdl=>?_;clear hl;unfold Builtin.SmallTypes.nextOf;refine af (wpAny_callSpecial?_slot (name:=Str.ofString "__next__") hit.typeIs F.slot_tuple_iterator_next
  (cT F.slot_tuple_iterator_next hit.typeIs F.entry_tuple_iterator_next ?_ (F.args_tuple_iterator_next_1 _)))
 show au _ _ (field (.ref it) 0>>=_) _ _ s;refine af (j9 ho hd (x:=.ref l) rfl ?_);show au _ _ (if(Value.ref l==Value.none)=true then _ else _) _ _ s;refine if_neg (show¬ ((Value.ref l==Value.none)=true)from aR) ..▸?_;show au _ _ (field (.ref it) 1>>=_) _ _ s;refine af (j9 ho hd (x:=.int i 0) rfl ?_);show au _ _ (seqItems? (.ref l)>>=_) _ _ s;refine af (uL hol hdl ?_);rw[cE];show au _ _ (match items[i]? with|some _=>_|none=>_) _ _ _;rw[hx];refine af (jX (af (D8 ho hd (by simp) ?_)));show au _ _ (newExc (.type "StopIteration") []>>=_) _ _ _;refine af ?_;simp only[newExc,newTuple];refine af (eO ?_ (by size_fits));refine af (m:=uN _ _) (wpAny_of_eq (a:=Value.none) (by first|rfl|(simp only[uN];rfl)) ?_);refine eO ?_ (by size_fits);unfold raiseNew;refine af (wpAny_handled ?_)
 first|refine(show A.in1.handled=none from hh).symm▸?_|rw[hh]
 refine af (ap (wpAny_throw ?_));exact hE _ _ (((Heap.SameBut.update ..).extBut.push _).push _) (aV _ (Heap.get?_push_size _ rfl) rfl)
theorem drawsTuple(hh:A.handled=none)(it l:aI)(hne:l≠it)(items:Array ai):
  Draws prog w A it [it,l] items.size (λi v=>items[i]?=some v) (λi h=>h.IsTupleIter it l i∧h.IsTuple l items) where
 live:=λ_ _ st=>let⟨o,ho,_⟩:=st.1;⟨o,ho⟩
 frame:=λ_ _ _ st hk=>⟨st.1.at λo e=>hk it (by simp) o e,st.2.at λo e=>hk l (by simp) o e⟩
 item:=λi s Q E hi st hQ=>by
  refine sL st.1 st.2 (x:=items[i]) (by simp[hi]) λh' hit' hs'=>?_;exact hQ _ h' s.toks (by simp[hi]) ⟨hit',st.2.extBut hs'.extBut hne⟩ hs'
 done:=λs Q E st hE=>tV hh st.1 st.2 (by simp) hE
set_option maxHeartbeats 1000000 in
theorem Bb(l:aI)(items:Array ai)(n:Nat)(dct:Option aI)(sl:Array (Option ai)):
  Meets (Builtin.«enumerate.__new__» ⟨[.type "enumerate",.ref l],[]⟩) (λ_ R s=>s.heap.get? l=some {cls:=.type "tuple",dict:=dct,data:=.seq items n,slots:=sl}∧
   R (.ok (.ret (.ref (s.heap.push {cls:=.type "tuple_iterator",data:=.fields #[.ref l,.int 0 0]}).objs.size)))
    {s with heap:=(s.heap.push {cls:=.type "tuple_iterator",data:=.fields #[.ref l,.int 0 0]}).push {cls:=.type "enumerate",data:=.fields #[.none,.bool false,.ref s.heap.objs.size,jY 0,.none,.none]}}):=
 .of_wp λprog w A R s h=>by
  obtain⟨hp,g,d,tk,os⟩:=s;refine aB h λhl h=>?_;have hsub:=sub_enumerate;have fin:∀ {A:bC} {P:ai→ag→Prop} {E':ai→ag→Prop},(True→P (.ref hp.objs.size) {heap:=hp.push {cls:=.type "tuple_iterator",data:=.fields #[.ref l,.int 0 0]},gens:=g,drawn:=d,toks:=tk,os:=os})→
    au (aZ prog w) A (fQ (.ref l)) P E' {heap:=hp,gens:=g,drawn:=d,toks:=tk,os:=os}:=λhq=>wpAny_pyIter_tuple (⟨_,hl,rfl,n,rfl⟩:Heap.IsTuple (Shared.heap ⟨hp,g,d,tk,os⟩) l items) (hq trivial)
  wp_walk using fin
  refine wpAny_stack_any λst=>(λ(k:∀b:Bool,au _ _ (pure b) _ _ _)=>k _) λb=>ap ?_
  induction b
  ·wp_walk using fin
   intro _
   wp_walk
   exact aV _ rfl h
  ·wp_walk using fin
   intro _
   wp_walk
   exact aV _ rfl h
theorem C2{l:aI}{items:Array ai}{n:Nat}{dct:Option aI}{sl:Array (Option ai)}{Q:ai→ag→Prop}(hl:s.heap.get? l=some {cls:=.type "tuple",dict:=dct,data:=.seq items n,slots:=sl})
  (h:∀h',IsEnum h' (s.heap.objs.size+1) s.heap.objs.size 0 .none→h'.IsTupleIter s.heap.objs.size l 0→h'.objs.size=s.heap.objs.size+2→
   (∀b o,s.heap.get? b=some o→h'.get? b=some o)→Q (.ref (s.heap.objs.size+1)) {s with heap:=h'}):
  au (aZ prog w) A (call (.type "enumerate") [.ref l]) Q E s:=by
 refine callType_new F.called_enumerate (by decide) (F.typeCall_enumerate_1 _) (F.newCall_enumerate_1 _) (λobj=>F.args_object_init_2 obj _) F.entry_enumerate_new
  (Bb l items n dct sl) ⟨hl,?_⟩
 have hz:(s.heap.push {cls:=.type "tuple_iterator",data:=.fields #[.ref l,.int 0 0]}).objs.size=s.heap.objs.size+1:=Heap.size_push ..;show _∧_;refine hz ..▸?_;have he:IsEnum ((s.heap.push {cls:=.type "tuple_iterator",data:=.fields #[.ref l,.int 0 0]}).push
   {cls:=.type "enumerate",data:=.fields #[.none,.bool false,.ref s.heap.objs.size,jY 0,.none,.none]}) (s.heap.objs.size+1) s.heap.objs.size 0 .none:=by
  have:=Heap.get?_push_size (s.heap.push {cls:=.type "tuple_iterator",data:=.fields #[.ref l,.int 0 0]})
   (o:={cls:=.type "enumerate",data:=.fields #[.none,.bool false,.ref s.heap.objs.size,jY 0,.none,.none]}) rfl
  rw[hz]at this;exact this
 refine⟨(aV _ he rfl),h _ he (iw _ (Heap.get?_push_of_some _ (Heap.get?_push_size _ rfl)) rfl rfl) (Heap.size_push ..▸hz ..▸rfl) λb o x=>Heap.get?_push_of_some _ (Heap.get?_push_of_some _ x)⟩
end
set_option backward.match.sparseCases false
section
variable {prog:cD} {w:bi} {A:bC} {E:ai→ag→Prop} {s:ag} {es:List cU}
theorem uU(d:aI)(hd:(d==iW)=false):
  Meets (Builtin.«dict.items» ⟨[.ref d],[]⟩) (λ_ R s=>s.TypeIs (.ref d) "dict"∧
   R (.ok (.ret (.ref s.heap.objs.size))) {s with heap:=s.heap.push {cls:=.type "dict_items",data:=.fields #[.ref d]}}):=
 .of_wp λprog w A R s ⟨hm,h⟩=>by
  unfold Builtin.«dict.items»;refine af ?_;unfold Builtin.Dict.noArgs;refine af (lG hm ?_);show au _ _ (pure d) _ _ s;refine ap ?_;show au _ _ (Builtin.Dict.showsAll d>>=_) _ _ s;unfold Builtin.Dict.showsAll;rw[if_neg (by rw[hd];exact aR)];refine af (ap ?_);exact af (eO (ap (aV _ rfl h)))
theorem C3{v d:aI}{n:Nat}{Q:ai→ag→Prop}(hv:s.heap.IsItemsView v d)(ho:s.heap.get? d=some (fJ es n))
  (hQ:Q (.ref s.heap.objs.size) {s with heap:=s.heap.push {cls:=.type "dict_itemiterator",data:=.fields #[.none,.bool false,.ref d,.int 0 0,.int es.length 0,.int n 0,.none,.none]}}):
  au (aZ prog w) A (fQ (.ref v)) Q E s:=by
 refine eo (id hv) λov hov hcv hdv=>?_;refine wpAny_pyIter_slot hv.typeIs F.slot_dict_items_iter (cT F.slot_dict_items_iter hv.typeIs F.entry_dict_items_iter ?_ (F.args_dict_items_iter_1 _));unfold Builtin.«dict_items.__iter__»;refine af (ap ?_);refine af ?_;unfold Builtin.Dict_items.dictOf;refine af (j9 hov hdv (x:=.ref d) rfl (ap ?_));refine af ?_;unfold Builtin.Dict_items.newIterator;refine af (iG ho rfl ?_);refine af (CF ho rfl ?_);simp only[(by decide:Builtin.Dict_items.ownsTuple "dict_itemiterator"=true),if_true];refine eO (ap ⟨_,rfl,"dict_itemiterator",_,(aV _ (Heap.get?_push_size _ rfl) rfl),F.slot_dict_itemiterator_next.lookup,?_⟩)
  (by simp only[sizeOk,Builtin.Dict_items.ownedTupleFields,aJ,aj,aP,ch,dD];exact by decide)
 simpa[jY,Builtin.Dict_items.ownedTupleFields]using hQ
theorem vr{it d:aI}{i ep:Nat}{e:cU}{ok ov:ai}{Q:Option ai→ag→Prop}(hit:iX s.heap it d i es.length ep ok ov)
  (hod:s.heap.get? d=some (fJ es ep)) (hx:es[i]?=some e)
  (hQ:∀h',wg h' it d (i+1) es.length ep e.key e.val s.heap.objs.size→
   h'.get? s.heap.objs.size=some {cls:=.type "tuple",data:=.seq #[e.key,e.val]}→h'.objs.size=s.heap.objs.size+1→
   (∀b o,b≠it→s.heap.get? b=some o→h'.get? b=some o)→Q (some (.ref s.heap.objs.size)) {s with heap:=h'}):
  au (aZ prog w) A (si (.ref it)) Q E s:=by
 obtain⟨hp,g,dr,tk,os⟩:=s;have hdd:(fJ es ep).data=.dict es.toArray ep:=rfl;have hT:Shared.TypeIs ⟨hp,g,dr,tk,os⟩ (.ref it) "dict_itemiterator":=aV _ hit rfl;unfold si;refine af (wpAny_attempt (wpAny_callSpecial?_slot (name:=Str.ofString "__next__") hT F.slot_dict_itemiterator_next
  (cT F.slot_dict_itemiterator_next hT F.entry_dict_itemiterator_next ?_ (F.args_dict_itemiterator_next_1 _))))
 refine af (ap ?_);refine af ?_;refine af ?_
 first|refine af (gS hT (ap ?_))|refine af (jh hT (ap ?_))
 refine af (wpAny_fieldsOf hit rfl ?_);show au _ _ (if(Value.ref d==Value.none)=true then _ else _) _ _ _;refine jD rfl ?_;refine af (ap ?_);refine af (iG hod hdd ?_);refine jD (decide_eq_false (by simp)) ?_;refine af (ap ?_);refine af (CF hod hdd ?_);refine jD (decide_eq_false (by simp)) ?_;refine ap ?_;simp only[show¬ ((i:Int)<0)from by omega,if_false,cE,(by simpa using hx:es.toArray[i]?=some e)];refine af ?_
 first|refine af (gS hT (ap ?_))|refine af (jh hT (ap ?_))
 refine af (sn hT ?_);show au _ _ (setField (.ref it) 3 (jY ((i:Int)+1))>>=_) _ _ ⟨hp,g,dr,tk,os⟩;refine af (jZ hit (by simp) λh₁ he₁ hs₁=>?_)
 replace hs₁:Heap.SameBut it hp h₁:=hs₁
 replace he₁:iX h₁ it d (i+1) es.length ep ok ov:=by
  unfold iX;refine (by omega:((i+1:Nat):Int)=(i:Int)+1) ..▸?_;simpa[jY]using he₁
 have hT₁:Shared.TypeIs ⟨h₁,g,dr,tk,os⟩ (.ref it) "dict_itemiterator":=aV _ he₁ rfl;refine af (bD ?_);refine af (sn hT₁ ?_);refine af (sn hT₁ ?_);show au _ _ (Builtin.Dict_items.pairFromOwner (.ref it) 6 e.key e.val) _ _ ⟨h₁,g,dr,tk,os⟩;unfold Builtin.Dict_items.pairFromOwner;refine af (wpAny_newTuple ?_);have he₂:iX (h₁.push {cls:=.type "tuple",data:=.seq #[e.key,e.val]}) it d (i+1) es.length ep ok ov:=Heap.get?_push_of_some _ he₁
 generalize hh₂:h₁.push {cls:=.type "tuple",data:=.seq #[e.key,e.val]}=h₂ at he₂
 have hz₁:h₁.objs.size=hp.objs.size:=hs₁.1;have hil:it<hp.objs.size:=Heap.lt_size hit;have ht₂:h₂.get? hp.objs.size=some {cls:=.type "tuple",data:=.seq #[e.key,e.val]}:=by refine(hh₂ ..)▸(hz₁ ..)▸?_;exact Heap.get?_push_size _ rfl
 have hz₂:h₂.objs.size=hp.objs.size+1:=by exact(hh₂ ..)▸(Heap.size_push ..).symm▸(hz₁ ..).symm▸rfl
 have hk₂:∀b o,b≠it→hp.get? b=some o→h₂.get? b=some o:=λb o hb e=>by refine(hh₂ ..)▸?_;exact Heap.get?_push_of_some _ (hs₁.extBut b o hb e)
 show au _ _ (Builtin.Dict_items.ownedTupleIsFree (.ref it)>>=_) _ _ ⟨h₂,g,dr,tk,os⟩;refine hz₁ ..▸?_;clear hh₂ he₁ hs₁ hT₁ hz₁ h₁;refine af ?_;unfold Builtin.Dict_items.ownedTupleIsFree;refine af (j9 he₂ rfl (x:=.none) rfl (ap ?_));simp only[if_true];refine af (j9 he₂ rfl (x:=ok) rfl ?_);refine af (j9 he₂ rfl (x:=ov) rfl ?_);refine af (jZ he₂ (by simp) λh₃ he₃ hs₃=>?_)
 replace hs₃:Heap.SameBut it h₂ h₃:=hs₃
 replace he₃:iX h₃ it d (i+1) es.length ep e.key ov:=he₃
 refine af (jZ he₃ (by simp) λh₄ he₄ hs₄=>?_)
 replace hs₄:Heap.SameBut it h₃ h₄:=hs₄
 replace he₄:iX h₄ it d (i+1) es.length ep e.key e.val:=he₄
 refine af (jZ he₄ (by simp) λh₅ he₅ hs₅=>?_)
 replace hs₅:Heap.SameBut it h₄ h₅:=hs₅
 replace he₅:wg h₅ it d (i+1) es.length ep e.key e.val hp.objs.size:=he₅
 refine af (jZ he₅ (by simp) λh₆ he₆ hs₆=>?_)
 replace hs₆:Heap.SameBut it h₅ h₆:=hs₆
 replace he₆:wg h₆ it d (i+1) es.length ep e.key e.val hp.objs.size:=he₆
 refine af (wpAny_letGo (ap (ap (aV _ rfl (ap (hQ h₆ he₆ ?_ ?_ ?_))))))
 ·exact hs₆.extBut _ _ (jU hil) (hs₅.extBut _ _ (jU hil) (hs₄.extBut _ _ (jU hil) (hs₃.extBut _ _ (jU hil) ht₂)))
 ·show h₆.objs.size=hp.objs.size+1;exact hs₆.1 ..▸hs₅.1 ..▸hs₄.1 ..▸hs₃.1 ..▸hz₂ ..▸rfl
 ·exact λb o hb e=>hs₆.extBut b o hb (hs₅.extBut b o hb (hs₄.extBut b o hb (hs₃.extBut b o hb (hk₂ b o hb e))))
theorem wu{it d:aI}{i ep:Nat}{ok ov:ai}{Q:Option ai→ag→Prop}(hh:A.handled=none)(hit:iX s.heap it d i es.length ep ok ov)
  (hod:s.heap.get? d=some (fJ es ep)) (hx:es[i]?=none)
  (hQ:∀h',Heap.ExtBut it s.heap h'→Q none {s with heap:=h'}):au (aZ prog w) A (si (.ref it)) Q E s:=by
 have hdd:(fJ es ep).data=.dict es.toArray ep:=rfl;have hT:s.TypeIs (.ref it) "dict_itemiterator":=aV _ hit rfl;unfold si;refine af (wpAny_attempt (wpAny_callSpecial?_slot (name:=Str.ofString "__next__") hT F.slot_dict_itemiterator_next
  (cT F.slot_dict_itemiterator_next hT F.entry_dict_itemiterator_next ?_ (F.args_dict_itemiterator_next_1 _))))
 refine af (ap ?_);refine af ?_;refine af ?_
 first|refine af (gS hT (ap ?_))|refine af (jh hT (ap ?_))
 refine af (wpAny_fieldsOf hit rfl ?_);show au _ _ (if(Value.ref d==Value.none)=true then _ else _) _ _ s;refine jD rfl ?_;refine af (ap ?_);refine af (iG hod hdd ?_);refine jD (decide_eq_false (by simp)) ?_;refine af (ap ?_);refine af (CF hod hdd ?_);refine jD (decide_eq_false (by simp)) ?_;refine ap ?_;simp only[show¬ ((i:Int)<0)from by omega,if_false,cE,(by simpa using hx:es.toArray[i]?=none)];refine af ?_
 first|refine af (gS hT (ap ?_))|refine af (jh hT (ap ?_))
 show au _ _ (setField (.ref it) 2 .none>>=_) _ _ s;refine af (D8 hit rfl (by simp) ?_);show au _ _ (newExc (.type "StopIteration") []>>=_) _ _ _;refine af ?_;simp only[newExc,newTuple];refine af (eO ?_ (by size_fits));refine af (m:=uN _ _) (wpAny_of_eq (a:=Value.none) (by first|rfl|(simp only[uN];rfl)) ?_);refine eO ?_ (by size_fits);unfold raiseNew;refine af (wpAny_handled ?_);refine(show A.in1.handled=none from hh).symm▸?_;refine af (ap (wpAny_throw ?_));refine af (AM (T:="StopIteration") (b:=true) (aV _ (Heap.get?_push_size _ rfl) rfl) isSubtype_stop ?_);exact ap (hQ _ (((Heap.SameBut.update ..).extBut.push _).push _))
theorem wv:entryFor table "dict_itemiterator.__iter__"=some Builtin.«dict_keyiterator.__iter__» :=
 entryFor_alias (id':="dict_keyiterator.__iter__") (by kernel_rfl) rfl (by decide+kernel) (by kernel_rfl)
theorem x8{it d:aI}{i n ep:Nat}{ok ov:ai}{Q:ai→ag→Prop}(hit:iX s.heap it d i n ep ok ov)(h:Q (.ref it) s):
  au (aZ prog w) A (fQ (.ref it)) Q E s:=by
 have hT:s.TypeIs (.ref it) "dict_itemiterator":=aV _ hit rfl;refine wpAny_pyIter_slot hT F.slot_dict_itemiterator_iter (cT F.slot_dict_itemiterator_iter hT wv ?_ (F.args_dict_itemiterator_iter_1 _));show au _ _ (ret (.ref it)) _ _ s;exact ap ⟨_,rfl,"dict_itemiterator",_,hT,F.slot_dict_itemiterator_next.lookup,h⟩
theorem C4(hh:A.handled=none)(I d:aI)(hne:d≠I)(es:List cU)(ep:Nat):
  WalksT prog w A I [I,d] [I] es.length (λi vals=>∃e,es[i]?=some e∧vals= #[e.key,e.val])
   (λi h=>(∃ok ov,iX h I d i es.length ep ok ov)∧h.get? d=some (fJ es ep))
   (λi T h=>(∃ok ov,wg h I d (i+1) es.length ep ok ov T)∧h.get? d=some (fJ es ep)∧T≠I) where
 sub:=λb hb=>by simp at hb;simp[hb]
 frame:=λi h h' st hk=>⟨let⟨ok,ov,q⟩:=st.1;⟨ok,ov,hk I (by simp) _ q⟩,hk d (by simp) _ st.2⟩
 item:=λi s Q E hi st hQ=>by
  refine aB st λz1 q2=>?_;clear st;refine fe z1 λok ov q=>?_;clear z1;have hx:es[i]?=some es[i]:=List.getElem?_eq_getElem hi;refine vr q q2 hx λh' ho hT hsz hk=>?_;exact hQ s.heap.objs.size _ h' s.toks (aV _ hx rfl) (ak _) ⟨_,hT,rfl,_,rfl⟩ ⟨(ik _ _ ho),hk d _ hne q2,jU (Heap.lt_size q)⟩ λb o hb e=>hk b o (λh=>hb (by simp[h])) e
 go:=λelts k pos i T s Q E hm hQ=>by
  refine dE hm λz2 q2 hT=>?_;clear hm;refine fe z2 λok ov ho=>?_;clear z2;refine wpAny_letOwnedTupleGo_items ho λh' he' hs'=>hQ h' ⟨(ik _ _ he'),(hs'.2 d hne).trans q2⟩ λb o hb y=>(hs'.2 b λe'=>hb (by simp[e'])).trans y
 apart:=λi T h hm hT=>hm.2.2 (by simpa using hT)
 done:=λs Q E st hQ=>by
  refine aB st λz3 q2=>?_;clear st;refine fe z3 λok ov q=>?_;clear z3;exact wu hh q q2 (by simp) λh' hx=>hQ h' s.toks λb o hb y=>hx b o (λe'=>hb (by simp[e'])) y
 self:=λi s Q E st hQ=>by
  refine aB st λz4 q2=>?_;clear st;refine fe z4 λok ov q=>?_;clear z4;exact x8 q hQ
end
theorem dg.thenNew{F wr θ θ₁ θ₂:List aI}{G G₁ G₂:Fz}{h h₁ h₂:bv}(x:dg F θ G h θ₁ G₁ h₁)(y:dg wr θ₁ G₁ h₁ θ₂ G₂ h₂)(hn:∀b∈wr,h.get? b=none):dg F θ G h θ₂ G₂ h₂:=by
 have z:=(x.weaken (F':=F++wr) λa ha=>cm _ ha).trans (y.weaken (F':=F++wr) λa ha=>bJ _ ha);refine⟨z.pre,λa o h1 h2 e=>z.keep a o h1 (λq=>?_) e,z.grow,z.newG,z.dom⟩;refine(List.mem_append.mp q).elim (λq=>?_) λq=>?_
 ·exact h2 q
 ·rw[hn a q]at e;exact nsN e
theorem A5.evoF{w:bi}{env:Env}{F:List aI}{G G':Fz}{θ θ':List aI}{h h':bv}{ρ:je}(R:A5 w env G θ h ρ)(e:dg F θ G h θ' G' h')(hF:∀b∈F,b∉Mine.priv env):A5 w env G' θ' h' ρ:=by
 have k:∀a∈Mine.priv env,∀o,h.get? a=some o→h'.get? a=some o:=λa ha o q=>e.keep a o (R.priv a ha).2.1 (λq=>hF a q ha) q;refine aG e.pre λt et lt=>?_;refine⟨?_,λa ha=>?_,λx ob q=>?_,R.apart⟩
 ·refine aY R.ns λm n=>?_;exact⟨m,n.at' λo q=>k _ (.head _) o q⟩
 ·refine dE (R.priv a ha) λp1 p2 z1=>?_;refine aY z1 λo p3=>?_;exact⟨by refine e.newG a o p3 p2 ..▸?_;exact p1,e.off p2 p3,o,k a ha o p3⟩
 ·refine aB (R.var x ob q) λh1 h2=>?_;refine⟨h1.heap k,λb hb=>?_⟩;refine aG (h2 b hb) λv h3 h4=>?_;exact aV v (h3.heap k) (h4.mono e.grow ⟨t,et⟩)
theorem A5.heap{w:bi}{env:Env}{G:Fz}{θ:List aI}{h h':bv}{ρ:je}(R:A5 w env G θ h ρ)(k:∀a∈Mine.priv env,∀o,h.get? a=some o→h'.get? a=some o):A5 w env G θ h' ρ:=by
 refine⟨?_,λa ha=>?_,λx ob q=>?_,R.apart⟩
 ·refine aY R.ns λm n=>?_;exact⟨m,n.at' λo q=>k _ (.head _) o q⟩
 ·refine dE (R.priv a ha) λp1 p2 z2=>?_;refine aY z2 λo p3=>?_;exact⟨p1,p2,o,k a ha o p3⟩
 ·refine aB (R.var x ob q) λh1 h2=>?_;refine⟨h1.heap k,λb hb=>?_⟩;refine aG (h2 b hb) λv h3 h4=>?_;exact aV v (h3.heap k) h4
structure NX (P:List aI) (G:Fz) (θ:List aI) (h:bv) (fp wr:List aI):Prop where
 fp:∀b∈fp,(∃o,G b=some o)∨(b∉θ∧b∉P∧G b=none∧∃o,h.get? b=some o)
 wr:∀b∈wr,b∉θ∧b∉P∧G b=none∧∃o,h.get? b=some o
structure pb (prog:cD) (w:bi) (P:List aI) (hb:bv) (I:aI) (ds:List ab) (tup:Bool) (i:Nat) (G:Fz) (θ:List aI) (h:bv):Prop where
 ex:∃(fp wr:List aI) (Gi:Fz) (St:Nat→bv→Prop),It prog w I fp wr Gi ds tup St∧St i h∧(∀a o,Gi a=some o→G a=some o)∧NX P G θ h fp wr∧∀b∈wr,hb.get? b=none
section
variable {prog:cD} {w:bi} {A:bC} {E:ai→ag→Prop} {s:ag} {h₀:bv} {env:Env} {G:Fz} {θ:List aI} {st:St}
theorem Ok.item{G':Fz}{h h':bv}{wr:List aI}(O:Ok w h₀ env G θ st h)(own:∀b∈wr,b∉θ∧b∉priv env∧G b=none∧∃o,h.get? b=some o)(kp:∀b o,b∉wr→h.get? b=some o→h'.get? b=some o)
  (hl:∀b∈wr,∃o,h'.get? b=some o) (ng:∀a o,G' a=some o→G a=some o∨(h.get? a=none∧h'.get? a=some o)) (gr:∀a o,G a=some o→G' a=some o):Ok w h₀ env G' θ st h'∧dg wr θ G h θ G' h':=by
 have nw:∀a,a∈wr→∀o,G a≠some o:=λa ha o e=>by rw[(own a ha).2.2.1]at e;exact nsN e
 have nt:∀a,a∈θ→a∉wr:=λa ha q=>(own a q).1 ha;have Ev:dg wr θ G h θ G' h':=by
  refine⟨⟨[],by simp⟩,λa o _ q e=>kp a o q e,gr,λa o e q=>?_,λa o e=>?_⟩
  ·induction r:G' a with
   |none=>
    induction r':G a with
    |none=>rfl
    |some o'=>rw[gr a o' r']at r;exact sN r
   |some o'=>
    refine(ng a o' r).elim (λx=>?_) λz1=>aB z1 λx _=>?_
    ·exact x.symm
    ·rw[e]at x;exact sN x
  ·by_cases q:a∈wr
   ·exact hl a q
   ·exact⟨o,kp a o q e⟩
 refine⟨⟨⟨λa o e=>gr a o (O.wd.base a o e),λa o e=>?_,O.wd.len,λn c e=>?_,O.wd.nd,λa ha=>let⟨o,e⟩:=O.wd.dom a ha;⟨o,kp a o (nt a ha) e⟩,O.wd.low⟩,O.fr.evoF Ev λb hb=>(own b hb).2.1⟩,Ev⟩
 ·refine(ng a o e).elim (λx=>?_) λz2=>aB z2 λ_ x=>?_
  ·exact kp a o (λq=>nw a q o x) (O.wd.froz a o x)
  ·exact x
 ·refine eo (O.wd.cell n c e) λa h1 h2 h3=>?_;refine iw a h1 (h2.mono gr ⟨[],by simp⟩ λo e=>kp a o (nt a (List.mem_of_getElem? h1)) e) ?_
  induction r:G' a with
  |none=>rfl
  |some o'=>
   refine(ng a o' r).elim (λx=>?_) λz3=>aB z3 λx _=>?_
   ·rw[h3]at x;exact nsN x
   ·refine aY h2.there λo e=>?_;rw[e]at x;exact sN x
theorem NX.evo{P F:List aI}{G':Fz}{θ':List aI}{h h':bv}{fp wr:List aI}(X:NX P G θ h fp wr)(e:dg F θ G h θ' G' h')(hF:∀b∈F,b∈P):NX P G' θ' h' fp wr:=by
 have g:∀b,(b∉θ∧b∉P∧G b=none∧∃o,h.get? b=some o)→(b∉θ'∧b∉P∧G' b=none∧∃o,h'.get? b=some o):=λb ⟨h1,h2,h3,o,h4⟩=>
  ⟨e.off h1 h4,h2,by refine e.newG b o h4 h1 ..▸?_;exact h3,e.dom b o h4⟩
 refine⟨λb hb=>?_,λb hb=>g b (X.wr b hb)⟩;refine(X.fp b hb).elim (λz4=>aY z4 λo q=>?_) λq=>?_
 ·exact .inl ⟨o,e.grow _ _ q⟩
 ·exact .inr (g b q)
theorem NX.keeps{P F:List aI}{G':Fz}{θ':List aI}{h h':bv}{fp wr:List aI}(X:NX P G θ h fp wr)(e:dg F θ G h θ' G' h')(hF:∀b∈F,b∈P)(f:∀a o,G a=some o→h.get? a=some o)(f':∀a o,G' a=some o→h'.get? a=some o):
  ∀b∈fp,∀o,h.get? b=some o→h'.get? b=some o:=λb hb o q=>by
 refine(X.fp b hb).elim (λz5=>aY z5 λo' q'=>?_) λz6=>dE z6 λh1 h2 _=>?_
 ·rw[f _ _ q']at q;obtain rfl:=Option.some.inj q;exact f' _ _ (e.grow _ _ q')
 ·exact e.keep b o h1 (λr=>h2 (hF b r)) q
variable {hb:bv} {I:aI} {ds:List ab} {tup:Bool} {i:Nat}
theorem pb.frame{P F:List aI}{G':Fz}{θ':List aI}{h h':bv}(R:pb prog w P hb I ds tup i G θ h)(e:dg F θ G h θ' G' h')(hF:∀b∈F,b∈P)(f:∀a o,G a=some o→h.get? a=some o)(f':∀a o,G' a=some o→h'.get? a=some o):
  pb prog w P hb I ds tup i G' θ' h':=by
 refine Kf R.ex λfp wr Gi St it q1 q2 q3 q4=>?_;exact⟨(G7 fp wr Gi St it (it.frame _ _ _ q1 (q3.keeps e hF f f')) (λa o x=>e.grow _ _ (q2 a o x)) (q3.evo e hF) q4)⟩
theorem pb.item{P:List aI}{target:Expr}{d:ab}{Q:ai→ag→Prop}(hh:A.handled=none)(hP:∀b∈priv env,b∈P)(R:pb prog w P hb I ds tup i G θ s.heap)(O:Ok w h₀ env G θ st s.heap)(hd:ds[i]?=some d)(ht:tup=true→∃es k p,target=.Tuple es k p)
  (hQ:∀v h' tk G',Ok w h₀ env G' θ st h'→Rp w G' v d→pb prog w P hb I ds tup (i+1) G' θ h'→(∀F θx Gx,dg F θx Gx hb θ G s.heap→dg F θx Gx hb θ G' h')→(∃wr,(∀b∈wr,b∉P)∧dg wr θ G s.heap θ G' h')→Q v {s with heap:=h',toks:=tk}):
  au (aZ prog w) A (si (.ref I)) (λr s₁=>∃v,r=some v∧au (aZ prog w) A (sE target (.ref I) v) (λ_ s₂=>Q v s₂) E s₁) E s:=by
 refine Kf R.ex λfp wr Gi St it q1 q2 q3 q4=>?_;refine it.item A hh i d target s G Q E hd ht q1 q2 O.wd.froz λv h' tk G' st' rp kp ng gr=>?_;refine aB (O.item (λb hb=>let⟨x,y,z⟩:=q3.wr b hb;⟨x,λq=>y (hP b q),z⟩) kp (λb hb=>it.live _ _ st' b (it.sub b hb)) ng gr) λO' Ev=>?_;refine hQ v h' tk G' O' rp ⟨(G7 fp wr Gi St it st' (λa o x=>gr _ _ (q2 a o x)) ⟨λb hb=>?_,λb hb=>?_⟩ q4)⟩ (λF θx Gx y=>y.thenNew Ev q4) (aV wr (λb hb=>(q3.wr b hb).2.1) Ev)
 ·rcases q3.fp b hb with⟨o,x⟩|⟨h1,h2,h3,o,h4⟩
  ·exact .inl ⟨o,gr _ _ x⟩
  ·exact .inr ⟨h1,h2,by refine Ev.newG b o h4 h1 ..▸?_;exact h3,Ev.dom b o h4⟩
 ·refine eL (q3.wr b hb) λh1 h2 h3 z3=>?_;refine aY z3 λo h4=>?_;exact⟨h1,h2,by refine Ev.newG b o h4 h1 ..▸?_;exact h3,Ev.dom b o h4⟩
theorem pb.done{P:List aI}{Q:Option ai→ag→Prop}(hh:A.handled=none)(hP:∀b∈priv env,b∈P)(R:pb prog w P hb I ds tup ds.length G θ s.heap)(O:Ok w h₀ env G θ st s.heap)
  (hQ:∀h' tk,Ok w h₀ env G θ st h'→(∀F θx Gx,dg F θx Gx hb θ G s.heap→dg F θx Gx hb θ G h')→(∀b∈P,∀o,s.heap.get? b=some o→h'.get? b=some o)→Q none {s with heap:=h',toks:=tk}):au (aZ prog w) A (si (.ref I)) Q E s:=by
 refine Kf R.ex λfp wr Gi St it q1 q2 q3 q4=>?_;refine it.done A hh s Q E q1 λh' tk kp=>?_;refine hQ h' tk ⟨O.wd.heap λa o e q=>kp a o (λr=>?_) e,O.fr.heap (λa ha o e=>kp a o (λq=>(q3.wr a q).2.1 (hP a ha)) e:∀a∈priv env,∀o,s.heap.get? a=some o→h'.get? a=some o)⟩ (λF θx Gx y=>⟨y.pre,λa o h1 h2 e=>kp a o (λr=>?_) (y.keep a o h1 h2 e),y.grow,y.newG,λa o e=>?_⟩) λb hb o e=>kp b o (λq=>(q3.wr b q).2.1 hb) e
 ·refine q.elim (λq=>?_) λq=>?_
  ·rw[(q3.wr a r).2.2.1]at q;exact nsN q
  ·exact(q3.wr a r).1 q
 ·rw[q4 a r]at e;exact nsN e
 ·refine aY (y.dom a o e) λo' e'=>?_;exact⟨o',kp a o' (λr=>by rw[q4 a r]at e;exact nsN e) e'⟩
end
section
variable {prog:cD} {w:bi} {A:bC} {E:ai→ag→Prop} {s:ag} {h₀:bv} {env:Env} {G:Fz} {θ:List aI} {st:St}
variable {P θb:List aI} {Gb:Fz} {hb:bv} {I:aI} {ds:List ab} {tup:Bool} {i:Nat}
theorem jT{h h':bv}{fp wr:List aI}{St:Nat→bv→Prop}(hP:∀b∈P,∃o,h.get? b=some o)(O:Ok w h₀ env G θ st h)(E0:dg [] θb Gb hb θ G h)(it:It prog w I fp wr G ds tup St)(kp:∀a o,h.get? a=some o→h'.get? a=some o)(st0:St 0 h')
  (fpc:∀b∈fp,(∃o,G b=some o)∨h.get? b=none) (wrc:∀b∈wr,h.get? b=none):Ok w h₀ env G θ st h'∧pb prog w P hb I ds tup 0 G θ h'∧dg [] θb Gb hb θ G h':=by
 refine aB (O.keeps kp) λO' E'=>?_;have g:∀b,h.get? b=none→(∃o,h'.get? b=some o)→(b∉θ∧b∉P∧G b=none∧∃o,h'.get? b=some o):=λb hb ho=>by
  refine⟨λq=>?_,λq=>?_,?_,ho⟩
  ·refine aY (O.wd.dom b q) λo e=>?_;rw[hb]at e;exact nsN e
  ·refine aY (hP b q) λo e=>?_;rw[hb]at e;exact nsN e
  ·induction q:G b with
   |none=>rfl
   |some o=>have:=O.wd.froz b o q;rw[hb]at this;exact nsN this
 refine⟨O',⟨(G7 fp wr G St it st0 (λ_ _ e=>e) ⟨λb hb=>?_,λb hb=>g b (wrc b hb) (it.live _ _ st0 b (it.sub b hb))⟩ (λb hb'=>?_))⟩,E0.trans E'⟩
 ·refine(fpc b hb).elim (λq=>?_) λq=>?_
  ·exact .inl q
  ·exact .inr (g b q (it.live _ _ st0 b hb))
 ·induction q:hb.get? b with
  |none=>rfl
  |some o=>refine aY (E0.dom b o q) λo' e=>?_;rw[wrc b hb']at e;exact nsN e
theorem dY{h:bv}{a:aI}(ha:h.objs.size≤a):h.get? a=none:=by
 induction q:h.get? a with
 |none=>rfl
 |some o=>exact absurd (Heap.lt_size q) (Nat.not_lt.mpr ha)
theorem jI{h:bv}{a l:aI}{i:Nat}(x:h.IsListIter a l i):∃o T,h.get? a=some o∧o.cls=.type T∧n9.contains T=false:=let⟨o,h1,h2,_⟩:=x;⟨o,_,h1,h2,by decide⟩
theorem jl{h:bv}{a l:aI}{i:Nat}(x:h.IsTupleIter a l i):∃o T,h.get? a=some o∧o.cls=.type T∧n9.contains T=false:=let⟨o,h1,h2,_⟩:=x;⟨o,_,h1,h2,by decide⟩
theorem Ky{I ax:aI}{vs:List ai}(hne:ax≠I)(r:ei w G vs ds):It prog w I [I,ax] [I] G ds false (λi h=>h.IsListIter I ax i∧h.IsList ax vs.toArray):=
 mT (λA hh=>Walks.list hh I ax hne vs.toArray) (by simp[r.length]) (λi v d h1 h2=>by
  refine aG (r.get h2) λv' h3 h4=>?_;rw[show vs.toArray[i]?=vs[i]? by simp,h3]at h1;obtain rfl:=Option.some.inj h1;exact h4) (λi h x=>jI x.1) (λi h x b hb=>by
  rcases aA.mp hb with rfl|hb
  ·refine ff (jI x.1) λo _ q _=>?_;exact⟨o,q⟩
  ·refine ae.mp hb ..▸?_;refine aG x.2 λo q _=>?_;exact⟨o,q⟩)
theorem Hq{I ax:aI}{vs:List ai}(hne:ax≠I)(r:ei w G vs ds):It prog w I [I,ax] [I] G ds false (λi h=>h.IsTupleIter I ax i∧h.IsTuple ax vs.toArray):=
 mT (λA hh=>Walks.tuple hh I ax hne vs.toArray) (by simp[r.length]) (λi v d h1 h2=>by
  refine aG (r.get h2) λv' h3 h4=>?_;rw[show vs.toArray[i]?=vs[i]? by simp,h3]at h1;obtain rfl:=Option.some.inj h1;exact h4) (λi h x=>jl x.1) (λi h x b hb=>by
  rcases aA.mp hb with rfl|hb
  ·refine ff (jl x.1) λo _ q _=>?_;exact⟨o,q⟩
  ·refine ae.mp hb ..▸?_;refine aG x.2 λo q _=>?_;exact⟨o,q⟩)
theorem Kz{I ax:aI}{ks:List (Str×ai)}{ep:Nat}{kvs:List (ab×ab)}(hne:ax≠I)(h1:kvs.map (·.1)=(ks.map (·.1)).map e9):It prog w I [I,ax] [I] G (kvs.map (·.1)) false (λi h=>h.IsKeyIter I ax i ks.length ep∧h.DictAt (PySem.strKind prog w) ax ks ep):=
 mT (λA hh=>Walks.dictKeys (knd:=PySem.strKind prog w) hh I ax hne ks ep) (by refine h1 ..▸?_;simp) (λi v d h2 h3=>by
  refine ff h2 λk x h4 h5=>?_;clear h2;rw[h1]at h3;simp only[List.getElem?_map,h4,gO,Option.some.injEq]at h3;subst h3
  induction v using Value.casesOn with
  |str y t=>
   have:y=k:=beq_iff_eq.mp h5;subst this;exact .str _ _
  |_=>exact absurd h5 aR) (λi h x=>let⟨o,h1,h2,_⟩:=x.1;⟨o,_,h1,h2,by decide⟩) (λi h x b hb=>by
  rcases aA.mp hb with rfl|hb
  ·refine aG x.1 λo q _=>?_;exact⟨o,q⟩
  ·refine ae.mp hb ..▸?_;refine ff x.2 λo _ q _=>?_;exact⟨o,q⟩)
theorem Hr{I:aI}(a:Int)(n:Nat):It prog w I [I] [I] G ((bF n).map λ(i:Nat)=>bX (a+(i:Int))) false (λi h=>IsRangeIter h I (a+(i:Nat)*1) ((n:Int)-(i:Nat)) 1):=
 mT (λA hh=>Walks.range hh I a 1 n) (by simp) (λi v d h2 h3=>by
  refine aY h2 λt z1=>?_;clear h2;obtain rfl:=z1;simp only[List.getElem?_map,aH]at h3;refine aG h3 λj h4 z2=>?_;clear h3;obtain rfl:=z2;refine aY (List.getElem?_eq_some_iff.mp h4) λhlt e=>?_;simp at e;subst e;refine nT ..▸?_;exact .int _ _) (λi h x=>kT _ _ x rfl (by decide)) (λi h x b hb=>by
  refine ae.mp hb ..▸?_;exact⟨_,x⟩)
theorem Hs{I ax:aI}{es:List cU}{ep:Nat}{kvs:List (ab×ab)}(hne:ax≠I)(r:mi w G es kvs):
  It prog w I [I,ax] [I] G (kvs.map λp=>.tuple [p.1,p.2]) true (λi h=>(∃ok ov,iX h I ax i es.length ep ok ov)∧h.get? ax=some (fJ es ep)):=
 o6 (λA hh=>C4 hh I ax hne es ep) (by refine r.length ..▸?_;simp) (λi vals d h1 h2=>by
  refine aG h1 λe h3 z3=>?_;clear h1;obtain rfl:=z3;simp only[List.getElem?_map,aH]at h2;refine aG h2 λp h4 z4=>?_;clear h2;obtain rfl:=z4;refine iw _ rfl ?_ (by simp[dD]);obtain⟨_,q1,q2⟩:=r.get2 h3 h4;exact .cons q1 (.cons q2 .nil)) (λi h x b hb=>by
  rcases aA.mp hb with rfl|hb
  ·refine fe x.1 λ_ _ q=>?_;exact⟨_,q⟩
  ·refine ae.mp hb ..▸?_;exact⟨_,x.2⟩)
theorem Fy{ds:List ab}{d:ab}:∀ {k i:Nat},(kM k ds)[i]?=some d→∃a,ds[i]?=some a∧d=.tuple [.int (k+i:Nat),a]:=by
 induction ds with
 |nil=>exact λh=>nomatch h
 |cons a r ih=>exact λ{k i}=>gM i (λh=>aV a rfl ((Option.some.inj h).symm)) λi h=>(ih (i:=i) h).elim λb q=>aV b q.1 (q.2.trans (cL ..▸bz ..▸rfl))
theorem sM:∀ {ds:List ab} {k:Nat},(kM k ds).length=ds.length
 | [],_=>rfl
 |a::r,k=>by simp[Kk,sM]
theorem KB{e it:aI}{fp:List aI}{P:Nat→ai→Prop}{S:Nat→bv→Prop}(D:∀A:bC,A.handled=none→Draws prog w A.in1 it fp ds.length P S)(hei:e≠it)(hef:e∉fp)(hif:it∈fp)
  (hP:∀i v d,P i v→ds[i]?=some d→Rp w G v d) (hlv:∀i h,S i h→∀b∈fp,∃o,h.get? b=some o):
  It prog w e (e::fp) [e,it] G (kM 0 ds) true (λi h=>(∃old,IsEnum h e it i old)∧S i h):=
 o6 (λA hh=>WalksT.enumerateD (D A hh) e hei hef hif) sM.symm (λi vals d h1 h2=>by
  refine ff h1 λt x h3 z5=>?_;clear h1;obtain rfl:=z5;refine aG (Fy h2) λa h4 z6=>?_;obtain rfl:=z6;refine iw _ rfl ?_ (by simp[dD]);refine ce ..▸?_;exact .cons (.int _ _) (.cons (hP _ _ _ h3 h4) .nil)) (λi h x b hb=>by
  rcases aA.mp hb with rfl|hb
  ·refine aY x.1 λ_ q=>?_;exact⟨_,q⟩
  ·exact hlv _ _ x.2 b hb)
theorem Ht{xs:List ab}{d:ab}:∀ {ys:List ab} {i:Nat},(A3 xs ys)[i]?=some d→∃a b,xs[i]?=some a∧ys[i]?=some b∧d=.tuple [a,b]:=by
 induction xs with
 |nil=>exact λh=>nomatch h
 |cons a r ih=>exact λ{ys i}=>am ys (λh=>nomatch h) λb t=>gM i (λh=>kT a b rfl rfl ((Option.some.inj h).symm)) λi h=>ih (i:=i) h
theorem Bc{xs:List ab}:∀ {ys:List ab},(A3 xs ys).length=min xs.length ys.length:=by
 induction xs with
 |nil=>exact(Nat.zero_min _).symm
 |cons a r ih=>exact λ{ys}=>am ys rfl λb t=>(congrArg gA ih).trans (vF _ _).symm
theorem MV{z TI TO i1 i2 l1 l2:aI}{us vs:List ai}{xs ys:List ab}(D:ZipApart z TI TO i1 i2 l1 l2)(r1:ei w G us xs)(r2:ei w G vs ys):
  It prog w z [z,TI,TO,i1,i2,l1,l2] [z,TO,i1,i2] G (A3 xs ys) true
   (λi h=>IsZip h z TI TO .none∧IsPair h TI (.ref i1) (.ref i2)∧(∃a b,IsPair h TO a b)∧h.IsListIter i1 l1 i∧h.IsListIter i2 l2 i∧h.IsList l1 us.toArray∧h.IsList l2 vs.toArray):=
 o6 (λA hh=>WalksT.zip2 hh z TI TO i1 i2 l1 l2 D us.toArray vs.toArray) (by refine Bc ..▸?_;simp[r1.length,r2.length]) (λi vals d h1 h2=>by
  refine dS h1 λx y h3 h4 z7=>?_;clear h1;obtain rfl:=z7;refine dS (Ht h2) λa b h5 h6 z8=>?_;obtain rfl:=z8;refine aG (r1.get h5) λu h7 h8=>?_;refine aG (r2.get h6) λv h9 h10=>?_;rw[show us.toArray[i]?=us[i]? by simp,h7]at h3;obtain rfl:=Option.some.inj h3;rw[show vs.toArray[i]?=vs[i]? by simp,h9]at h4;obtain rfl:=Option.some.inj h4;exact iw _ rfl (.cons h8 (.cons h10 .nil)) (by simp[dD])) (λi h x b hb=>by
  refine N5 x λh1 h2 z9 z10 z11 z12 z13=>?_;clear x;refine fe z9 λ_ _ h3=>?_;clear z9;refine aG z10 λ_ h4 _=>?_;clear z10;refine aG z11 λ_ h5 _=>?_;clear z11;refine aG z12 λ_ h6 _=>?_;clear z12;refine aG z13 λ_ h7 _=>?_;clear z13;simp only[aA,wb,or_false]at hb;rcases hb with rfl|rfl|rfl|rfl|rfl|rfl|rfl
  ·exact⟨_,h1⟩
  ·exact⟨_,h2⟩
  ·exact⟨_,h3⟩
  ·exact⟨_,h4⟩
  ·exact⟨_,h5⟩
  ·exact⟨_,h6⟩
  ·exact⟨_,h7⟩)
noncomputable def sO:ab→Option (List ab)
 |.dict kvs=>if kvs.all λp=>ci p.1 then some (kvs.map (·.1))else none
 |d=>jB d
theorem mC(O:Ok w h₀ env G θ st s.heap){a:aI}{o:Obj}(e:G a=some o):a<s.heap.objs.size:=Heap.lt_size (O.wd.froz a o e)
theorem yG{v:ai}{d:ab}{Q:ai→ag→Prop}(hP:∀b∈P,∃o,s.heap.get? b=some o)(O:Ok w h₀ env G θ st s.heap)(E0:dg [] θb Gb hb θ G s.heap)(r:Rp w G v d)(e:sO d=some ds)
  (hQ:∀I h' tk,Ok w h₀ env G θ st h'→pb prog w P hb I ds false 0 G θ h'→dg [] θb Gb hb θ G h'→Q (.ref I) {s with heap:=h',toks:=tk}):au (aZ prog w) A (fQ v) Q E s:=by
 have kp:∀(o:Obj) a o',s.heap.get? a=some o'→(s.heap.push o).get? a=some o':=λo a o' e=>Heap.get?_push_of_some _ e;have fr:=dY (h:=s.heap) (ak s.heap.objs.size)
 induction d using aq with
 |list xs=>
  simp only[sO,jB,Option.some.injEq]at e;subst e;refine lH (fx r) λa vs n z14 ga ra _=>?_;obtain rfl:=z14;have hl:s.heap.IsList a vs.toArray:=⟨_,O.wd.froz _ _ ga,rfl,n,rfl⟩
  refine wpAny_pyIter_list hl ?_;obtain⟨O',R,E'⟩:=jT (h':=s.heap.push {cls:=.type "list_iterator",data:=.fields #[.ref a,.int 0 0]}) hP O E0 (Ky (prog:=prog) (eg (mC O ga):a≠s.heap.objs.size) ra) (kp _) ⟨(iw _ (Heap.get?_push_size _ rfl) rfl rfl),hl.push _⟩ (λb hb=>by
   rcases aA.mp hb with rfl|hb
   ·exact .inr fr
   ·refine ae.mp hb ..▸?_;exact .inl ⟨_,ga⟩) (λb hb=>by refine ae.mp hb ..▸?_;exact fr)
  exact hQ _ _ s.toks O' R E'
 |tuple xs=>
  simp only[sO,jB,Option.some.injEq]at e;subst e;refine wj (gF r) λa vs dd n sl z15 ga ra _=>?_;obtain rfl:=z15;have hl:s.heap.IsTuple a vs.toArray:=⟨_,O.wd.froz _ _ ga,rfl,n,rfl⟩
  refine wpAny_pyIter_tuple hl ?_;obtain⟨O',R,E'⟩:=jT (h':=s.heap.push {cls:=.type "tuple_iterator",data:=.fields #[.ref a,.int 0 0]}) hP O E0 (Hq (prog:=prog) (eg (mC O ga):a≠s.heap.objs.size) ra) (kp _) ⟨(iw _ (Heap.get?_push_size _ rfl) rfl rfl),hl.push _⟩ (λb hb=>by
   rcases aA.mp hb with rfl|hb
   ·exact .inr fr
   ·refine ae.mp hb ..▸?_;exact .inl ⟨_,ga⟩) (λb hb=>by refine ae.mp hb ..▸?_;exact fr)
  exact hQ _ _ s.toks O' R E'
 |dict kvs=>
  simp only[sO]at e;split at e
  ·rename_i hs;simp only[Option.some.injEq]at e;subst e;refine A0 (mz r) λa es n z16 ga ra dk hm=>?_;obtain rfl:=z16;refine aG (nh (prog:=prog) (O.wd.froz _ _ ga) ra dk hs) λks z17 h2=>?_;refine wi z17 λo es' ep x=>?_;clear z17;have hD:s.heap.DictAt (PySem.strKind prog w) a ks ep:=ik o es' x;refine wpAny_pyIter_dict hm hD ?_;obtain⟨O',R,E'⟩:=jT (h':=s.heap.push {cls:=.type "dict_keyiterator",data:=.fields #[.ref a,.int 0 0,.int ks.length 0,.int ep 0]}) hP O E0 (Kz (prog:=prog) (ep:=ep) (eg (mC O ga):a≠s.heap.objs.size) h2.keys) (kp _) ⟨(iw _ (Heap.get?_push_size _ rfl) rfl rfl),hD.push _⟩ (λb hb=>by
    rcases aA.mp hb with rfl|hb
    ·exact .inr fr
    ·refine ae.mp hb ..▸?_;exact .inl ⟨_,ga⟩) (λb hb=>by refine ae.mp hb ..▸?_;exact fr)
   exact hQ _ _ s.toks O' R E'
  ·exact nsN e
 |_=>simp[sO,jB]at e
theorem C5{r:aI}{a b:Int}{t u v:Tok}{Q:ai→ag→Prop}(hP:∀b∈P,∃o,s.heap.get? b=some o)(O:Ok w h₀ env G θ st s.heap)(E0:dg [] θb Gb hb θ G s.heap)(hr:IsRange s.heap r a b 1 t u v)(ha:mW a=true)(hb':mW b=true)
  (hQ:∀I h' tk,Ok w h₀ env G θ st h'→pb prog w P hb I (lI a b) false 0 G θ h'→dg [] θb Gb hb θ G h'→Q (.ref I) {s with heap:=h',toks:=tk}):au (aZ prog w) A (fQ (.ref r)) Q E s:=by
 have ha:a.natAbs<2^20:=of_decide_eq_true ha;have hb':b.natAbs<2^20:=of_decide_eq_true hb';refine wpAny_pyIter_range hr (small_one (by omega) (by omega) (by omega) (by omega)) ?_;have fr:=dY (h:=s.heap) (ak s.heap.objs.size);obtain⟨O',R,E'⟩:=jT (h':=s.heap.push {cls:=.type "range_iterator",data:=.fields #[jY a,jY (Builtin.Range.rangeSize a b 1),jY 1]}) hP O E0 (Hr (prog:=prog) a (b-a).toNat) (λa o' e=>Heap.get?_push_of_some _ e) (by
   show IsRangeIter _ s.heap.objs.size _ _ _;have e:Builtin.Range.rangeSize a b 1=(((b-a).toNat:Nat):Int):=by refine rangeSize_one ..▸?_;split<;>omega
   unfold IsRangeIter;refine (Heap.get?_push_size s.heap (o:={cls:=.type "range_iterator",data:=.fields #[jY a,jY (Builtin.Range.rangeSize a b 1),jY 1]}) rfl) ..▸?_;simp[e]) (λb hb=>by refine ae.mp hb ..▸?_;exact .inr fr) (λb hb=>by refine ae.mp hb ..▸?_;exact fr)
 exact hQ _ _ s.toks O' R E'
end
section
variable {prog:cD} {w:bi} {A:bC} {E:ai→ag→Prop} {s:ag} {h₀:bv} {env:Env} {G:Fz} {θ:List aI} {st:St}
theorem zC{n:Nat}(h:n≤cG):(n:Int)<2^63:=by rw[dD]at h;omega
theorem Hu{v:ai}{d:ab}{n:Nat}{Q:ai→ag→Prop}(O:Ok w h₀ env G θ st s.heap)(r:Rp w G v d)(e:Ha d=some n)(hQ:∀t tk,Q (.int n t) {s with toks:=tk}):
  au (aZ prog w) A (call (.builtin "len") [v]) Q E s:=by
 induction d using aq<;>simp only[Ha,Option.some.injEq,reduceCtorEq]at e
 ·subst e;refine lH (fx r) λa vs m z1 ga ra hl=>?_;obtain rfl:=z1;refine call_len_list (items:=vs.toArray) ⟨_,O.wd.froz _ _ ga,rfl,m,rfl⟩ (by refine aJ ..▸ra.length ..▸?_;exact zC hl) (by refine aJ ..▸ra.length ..▸?_;exact(hQ (s.toks+1) (s.toks+1+1)))
 ·subst e;refine wj (gF r) λa vs dd m sl z2 ga ra hl=>?_;obtain rfl:=z2;refine len_tuple (items:=vs.toArray) ⟨_,O.wd.froz _ _ ga,rfl,m,rfl⟩ (by refine aJ ..▸ra.length ..▸?_;exact zC hl) (by refine aJ ..▸ra.length ..▸?_;exact(hQ (s.toks+1) (s.toks+1+1)))
theorem Hv{n:Nat}{bs:List B}{v:ai}{Q:ai→ag→Prop}(O:Ok w h₀ env G θ st s.heap)(r:rD w G θ v (.l n))(e:st.σ[n]?=some (some (.lst bs)))(hQ:∀t tk,Q (.int bs.length t) {s with toks:=tk}):
  au (aZ prog w) A (call (.builtin "len") [v]) Q E s:=by
 refine aG r λa ha z3=>?_;clear r;obtain rfl:=z3;refine eo (O.wd.cell n _ e) λa' h1 z4 _=>?_;refine dS z4 λvs m ho rb hl=>?_;clear z4;rw[ha]at h1;obtain rfl:=Option.some.inj h1;refine call_len_list (items:=vs.toArray) ⟨_,ho,rfl,m,rfl⟩ (by rw[aJ,rb.length];exact zC hl) (by rw[aJ,rb.length];exact(hQ (s.toks+1) (s.toks+1+1)))
theorem Ok.push_at{h h':bv}{a:aI}{o:Obj}(O:Ok w h₀ env G θ st h)(kp:∀b o,h.get? b=some o→h'.get? b=some o)(ha:h.get? a=none)(ho:h'.get? a=some o):
  Ok w h₀ env (jf G a o) θ st h'∧dg [] θ G h θ (jf G a o) h':=by
 have hn:G a=none:=by
  induction q:G a with
  |none=>rfl
  |some o=>have:=O.wd.froz a o q;rw[ha]at this;exact nsN this
 have Ev:dg [] θ G h θ (jf G a o) h':=⟨⟨[],by simp⟩,λa o' _ _ e=>kp a o' e,cw hn,λb o' e _=>(by
  unfold jf;rw[if_neg];rintro rfl;rw[ha]at e;exact nsN e),λb o' e=>⟨o',kp b o' e⟩⟩
 refine⟨⟨(O.wd.heap λb o' e _=>kp b o' e).add hn ho λn c hc hs=>?_,O.fr.evo Ev⟩,Ev⟩;refine eo (O.wd.cell n c hs) λb h1 h2 _=>?_;rw[hc]at h1;obtain rfl:=Option.some.inj h1;refine aY h2.there λo' e=>?_;rw[ha]at e;exact nsN e
theorem ei.one{d:ab}{vs:List ai}(r:ei w G vs [d]):∃v,vs= [v]∧Rp w G v d:=by
 cases r with|cons r1 r2=>cases r2;exact aV _ rfl r1
theorem ei.two{d d':ab}{vs:List ai}(r:ei w G vs [d,d']):∃v v',vs= [v,v']∧Rp w G v d∧Rp w G v' d':=by
 cases r with|cons r1 r2=>cases r2 with|cons r3 r4=>cases r4;exact kT _ _ rfl r1 r3
theorem vK{d:ab}{Q:ai→ag→Prop}(O:Ok w h₀ env G θ st s.heap)(hQ:mx w h₀ env G θ s st (.v d) Q){v:ai}{h':bv}{tk:Tok}(rv:Rp w G v d)(kp:∀b o,s.heap.get? b=some o→h'.get? b=some o):Q v {s with heap:=h',toks:=tk}:=by
 refine aB (O.keeps kp) λO' E'=>?_;exact hQ v h' tk G θ O' rv E'
theorem MW{vs:List ai}{as:List ab}{d:ab}{Q:ai→ag→Prop}(O:Ok w h₀ env G θ st s.heap)(r:ei w G vs as)(e:Oe as=some d)(hQ:mx w h₀ env G θ s st (.v d) Q):au (aZ prog w) A (call (.type "tuple") vs) Q E s:=by
 refine aG (Hb e) λa z5 e=>?_;obtain rfl:=z5;refine aG r.one λv z6 r1=>?_;obtain rfl:=z6;refine aG (aH.mp e) λxs h1 z7=>?_;obtain rfl:=z7
 induction a using aq<;>first|exact nsN h1|exact dC h1|(obtain rfl:=Option.some.inj h1;done)|skip
 ·obtain rfl:=Option.some.inj h1;refine lH (fx r1) λa vs m z8 ga ra hl=>?_;obtain rfl:=z8;refine call_tuple_list (items:=vs.toArray) ⟨_,O.wd.froz _ _ ga,rfl,m,rfl⟩ (λh' kp=>?_) (by refine aJ ..▸ra.length ..▸?_;exact hl);have kp':∀b o,s.heap.get? b=some o→(h'.push {cls:=.type "tuple",data:=.seq vs.toArray}).get? b=some o:=λb o e=>Heap.get?_push_of_some _ (kp b o e);have hf:s.heap.get? h'.objs.size=none:=by
   induction q:s.heap.get? h'.objs.size with
   |none=>rfl
   |some o=>exact absurd (Heap.lt_size (kp _ _ q)) (g9 _)
  have hn:G h'.objs.size=none:=by
   induction q:G h'.objs.size with
   |none=>rfl
   |some o=>have:=O.wd.froz _ o q;rw[hf]at this;exact nsN this
  refine aB (O.push_at kp' hf (Heap.get?_push_size h' rfl)) λO' E'=>?_;exact hQ _ _ s.toks _ θ O' (.tuple (ej ..) (ra.mono (cw hn)) hl) E'
 ·obtain rfl:=Option.some.inj h1;refine wj (gF r1) λa vs dd m sl z9 ga ra hl=>?_;obtain rfl:=z9;exact call_tuple_same (items:=vs.toArray) ⟨_,O.wd.froz _ _ ga,rfl,m,rfl⟩ (vK O hQ r1 λ_ _ e=>e)
theorem Hw{c:Prop} [Decidable c]{a b:Int}{t u:Tok}:Rp w G (if c then .int a t else .int b u) (.int (if c then a else b)):=by
 by_cases q:c
 ·refine if_pos q ..▸if_pos q ..▸?_;exact .int _ _
 ·refine if_neg q ..▸if_neg q ..▸?_;exact .int _ _
theorem Bd{f:Int→Int→Option ab}{vs:List ai}{as:List ab}{d:ab}(r:ei w G vs as)(e:two (rC f) as=some d):∃x y t u,vs= [.int x t,.int y u]∧f x y=some d:=by
 refine ff (MN e) λa b z10 e=>?_;obtain rfl:=z10;refine dS r.two λv v' z11 r1 r3=>?_;obtain rfl:=z11;refine dS (wl e) λx y z12 z13 e=>?_;obtain rfl:=z12;obtain rfl:=z13;refine aY (cV r1) λt z14=>?_;obtain rfl:=z14;refine aY (cV r3) λu z15=>?_;obtain rfl:=z15;exact MM x y t u rfl e
theorem MX{vs:List ai}{as:List ab}{d:ab}{Q:ai→ag→Prop}(hh:A.handled=none)(O:Ok w h₀ env G θ st s.heap)(r:ei w G vs as)(e:Od as=some d)(hQ:mx w h₀ env G θ s st (.v d) Q):au (aZ prog w) A (call (.builtin "min") vs) Q E s:=by
 refine N6 (Bd r e) λx y t u z16 e=>?_;obtain rfl:=z16;obtain rfl:=Option.some.inj e;exact min_two_ints hh λh' tk kp=>vK O hQ Hw kp
theorem MY{vs:List ai}{as:List ab}{d:ab}{Q:ai→ag→Prop}(hh:A.handled=none)(O:Ok w h₀ env G θ st s.heap)(r:ei w G vs as)(e:Oc as=some d)(hQ:mx w h₀ env G θ s st (.v d) Q):au (aZ prog w) A (call (.builtin "max") vs) Q E s:=by
 refine N6 (Bd r e) λx y t u z17 e=>?_;obtain rfl:=z17;obtain rfl:=Option.some.inj e;exact max_two_ints hh λh' tk kp=>vK O hQ Hw kp
theorem MZ{vs:List ai}{as:List ab}{d:ab}{Q:ai→ag→Prop}(O:Ok w h₀ env G θ st s.heap)(r:ei w G vs as)(e:one Ob as=some d)(hQ:mx w h₀ env G θ s st (.v d) Q):au (aZ prog w) A (call (.builtin "abs") vs) Q E s:=by
 refine aG (Hb e) λa z18 e=>?_;obtain rfl:=z18;refine aG r.one λv z19 r1=>?_;obtain rfl:=z19
 induction a using aq<;>first|exact nsN e|exact dC e|(obtain rfl:=Option.some.inj e;done)|skip
 cases e
 refine aY (cV r1) λt z20=>?_;obtain rfl:=z20;rename_i a;refine call_abs_int λu tk=>?_;have e:(if a<0 then-a else a)=(a.natAbs:Int):=by split<;>omega
 refine e ..▸?_;exact vK O hQ (.int _ _) λ_ _ e=>e
end
section
variable {prog:cD} {w:bi} {A:bC} {E:ai→ag→Prop} {s:ag} {h₀:bv} {env:Env} {G:Fz} {θ:List aI} {st:St}
noncomputable def sP(w:bi)(h₀:bv)(env:Env)(G:Fz)(θ:List aI)(s:ag)(st':St)(c:bE)(Q:ai→ag→Prop):Prop:=
 ∀a h' tk G' θ',Ok w h₀ env G' θ' st' h'→gP w G' θ' h' a c→s.heap.get? a=none→G' a=none→a∉θ'→a∉priv env→dg [] θ G s.heap θ' G' h'→Q (.ref a) {s with heap:=h',toks:=tk}
theorem Ok.setCell{h h':bv}{n:Nat}{c c':bE}{a:aI}(O:Ok w h₀ env G θ st h)(hs:st.σ[n]?=some (some c))(ha:θ[n]?=some a)(k:Heap.SameBut a h h')(hc:gP w G θ h' a c')(hlow:∀bs,c'=.lst bs→∀m,B.l m∈bs→m<n):
  Ok w h₀ env G θ ⟨st.ρ,st.σ.set n (some c')⟩ h'∧dg [] θ G h θ G h':=by
 have Ev:dg [] θ G h θ G h':=⟨⟨[],by simp⟩,λb o hb _ e=>(k.2 b λq=>hb (q▸(List.mem_of_getElem? ha:a∈θ))).trans e,λ_ _ e=>e,λ_ _ _ _=>rfl,na k hc.there⟩
 exact⟨⟨O.wd.setCell hs ha (λb o q e=>(k.2 b q).trans e) hc hlow,O.fr.evo Ev⟩,Ev⟩
theorem Ok.newCell{h h':bv}{G':Fz}{θ':List aI}{st':St}{a:aI}{c:bE}(O:Ok w h₀ env G' θ' st' h')(hc:gP w G' θ' h' a c)(hn:h.get? a=none)(hg:G' a=none)(ht:a∉θ')(hp:a∉priv env)(hlow:∀bs,c=.lst bs→∀m,B.l m∈bs→m<st'.σ.length)(Ev:dg [] θ G h θ' G' h'):
  Ok w h₀ env G' (θ'++ [a]) ⟨st'.ρ,st'.σ++ [some c]⟩ h'∧dg [] θ G h (θ'++ [a]) G' h'∧(θ'++ [a])[st'.σ.length]?=some a:=by
 refine⟨⟨O.wd.newCell hg hc ht hlow,⟨O.fr.ns,λb hb=>⟨(O.fr.priv b hb).1,λq=>?_,(O.fr.priv b hb).2.2⟩,λx ob q=>?_,O.fr.apart⟩⟩,⟨?_,Ev.keep,Ev.grow,Ev.newG,Ev.dom⟩,by refine(O.wd.len ..)▸?_;simp⟩
 ·refine(List.mem_append.mp q).elim (λq=>?_) λq=>?_
  ·exact(O.fr.priv b hb).2.1 q
  ·rw[ae.mp q]at hb;exact hp hb
 ·refine aB (O.fr.var x ob q) λh1 h2=>?_;exact⟨h1,λb hb=>let⟨v,h3,h4⟩:=h2 b hb;⟨v,h3,h4.mono (λ_ _ e=>e) ⟨_,rfl⟩⟩⟩
 ·refine aG Ev.pre λt e l=>?_;exact⟨t++ [a],by exact e ..▸aw ..▸rfl,λb hb=>by
   refine(List.mem_append.mp hb).elim (λq=>?_) λq=>?_
   ·exact l b q
   ·refine ae.mp q ..▸?_;exact hn⟩
theorem Ok.freeze{h h':bv}{G':Fz}{θ':List aI}{st':St}{a:aI}{c:bE}{d:ab}(O:Ok w h₀ env G' θ' st' h')(hc:gP w G' θ' h' a c)(hn:h.get? a=none)(hg:G' a=none)(ht:a∉θ')(hp:a∉priv env)(hd:hU c=some d)(Ev:dg [] θ G h θ' G' h'):
  ∃G'',Ok w h₀ env G'' θ' st' h'∧Rp w G'' (.ref a) d∧dg [] θ G h θ' G'' h':=by
 have obj:∃o,h'.get? a=some o∧Rp w (jf G' a o) (.ref a) d:=by
  induction c using bE.casesOn with
  |lst bs=>
   refine dS hc λvs k q rb ln=>?_;clear hc;simp only[hU,aH]at hd;refine aG hd λds hds z1=>?_;clear hd;obtain rfl:=z1;have ra:=rb.data hds;refine aV _ q (.list (ej ..) (ra.mono (cw hg)) ?_);refine(ra.length ..)▸rb.length ..▸?_;exact ln
  |dct kvs=>
   refine kD hc λes k q rk dk lo=>?_;clear hc;simp only[hU,Option.some.injEq]at hd;subst hd;exact aV _ q (.dict (ej ..) (rk.mono (cw hg)) dk lo)
 refine aG obj λo ho rp=>?_;clear obj;have nG:∀b,b≠a→jf G' a o b=G' b:=λb q=>by unfold jf;exact if_neg q ..▸rfl
 refine iw _ ⟨O.wd.add hg ho λn c' h1 _=>ht (List.mem_of_getElem? h1),⟨O.fr.ns,λb hb=>⟨by refine nG b (λq=>hp (q▸hb)) ..▸?_;exact(O.fr.priv b hb).1,(O.fr.priv b hb).2⟩,λx ob q=>?_,O.fr.apart⟩⟩ rp ⟨Ev.pre,Ev.keep,λb o' e=>cw hg _ _ (Ev.grow b o' e),λb o' e q=>?_,Ev.dom⟩
 ·refine aB (O.fr.var x ob q) λh1 h2=>?_;exact⟨h1,λb hb=>let⟨v,h3,h4⟩:=h2 b hb;⟨v,h3,h4.mono (cw hg) ⟨[],by simp⟩⟩⟩
 ·refine nG b (λr=>by rw[r,hn]at e;exact nsN e) ..▸?_;exact Ev.newG b o' e q
theorem hY{h:bv}{ρ:je}(R:A5 w env G θ h ρ){a:aI}(ha:h.get? a=none):a∉priv env:=λq=>by
 refine dE (R.priv a q) λ_ _ z2=>?_;refine aY z2 λo e=>?_;rw[ha]at e;exact nsN e
theorem Wd.no{h:bv}{σ:fH}(W:Wd w h₀ G θ σ h){a:aI}(ha:h.get? a=none):G a=none∧a∉θ:=by
 refine⟨?_,λq=>?_⟩
 ·induction q:G a with
  |none=>rfl
  |some o=>have:=W.froz a o q;rw[ha]at this;exact nsN this
 ·refine aY (W.dom a q) λo e=>?_;rw[ha]at e;exact nsN e
theorem KE{v:ai}{d:ab}{xs:List ab}{Q:ai→ag→Prop}(O:Ok w h₀ env G θ st s.heap)(r:Rp w G v d)(e:jB d=some xs)(hQ:sP w h₀ env G θ s st (.lst (xs.map .v)) Q):
  au (aZ prog w) A (call (.type "list") [v]) Q E s:=by
 have fr:=dY (h:=s.heap) (ak s.heap.objs.size);have hp:=hY O.fr fr;refine aB (O.wd.no fr) λhg ht=>?_
 induction d using aq<;>simp only[jB,Option.some.injEq,reduceCtorEq]at e
 ·subst e;refine lH (fx r) λa vs m z3 ga ra hl=>?_;obtain rfl:=z3;refine call_list_seq a (.inl rfl) (O.wd.froz _ _ ga) rfl rfl (λh' c' kp ho=>?_) (by refine aJ ..▸ra.length ..▸?_;exact hl);refine aB (O.keeps kp) λO' E'=>?_;exact hQ _ h' s.toks G θ O' (kT vs c' ho (.of_all ra) (by simpa using hl)) fr hg ht hp E'
 ·subst e;refine wj (gF r) λa vs dd m sl z4 ga ra hl=>?_;obtain rfl:=z4;refine call_list_seq a (.inr rfl) (O.wd.froz _ _ ga) rfl rfl (λh' c' kp ho=>?_) (by refine aJ ..▸ra.length ..▸?_;exact hl);refine aB (O.keeps kp) λO' E'=>?_;exact hQ _ h' s.toks G θ O' (kT vs c' ho (.of_all ra) (by simpa using hl)) fr hg ht hp E'
theorem Ok.push_many{h h':bv}{as:List aI}(O:Ok w h₀ env G θ st h)(kp:∀b o,h.get? b=some o→h'.get? b=some o)(ha:∀a∈as,h.get? a=none)(ho:∀a∈as,∃o,h'.get? a=some o):
  ∃G',Ok w h₀ env G' θ st h'∧(∀a∈as,G' a=h'.get? a)∧(∀a,a∉as→G' a=G a)∧dg [] θ G h θ G' h':=by
 induction as with
 |nil=>
  refine aB (O.keeps kp) λO' E'=>?_;refine G6 G O' (λa h=>?_) (λ_ _=>rfl) E';exact cg h
 |cons a as ih=>
  refine Pz (ih (λb hb=>ha b (.tail _ hb)) (λb hb=>ho b (.tail _ hb))) λG' O' h1 h2 E'=>?_
  by_cases hm:a∈as
  ·refine G6 G' O' (λb hb=>?_) (λb hb=>h2 b λq=>hb (.tail _ q)) E';rcases aA.mp hb with rfl|hb
   ·exact h1 _ hm
   ·exact h1 _ hb
  ·refine aY (ho a (.head _)) λo e=>?_;have f:=ha a (.head _);refine aB (O.wd.no f) λhg ht=>?_;have hg':G' a=none:=by refine h2 a hm ..▸?_;exact hg
   have nG:∀b,b≠a→jf G' a o b=G' b:=λb q=>by unfold jf;exact if_neg q ..▸rfl
   refine⟨jf G' a o,⟨O'.wd.add hg' e λn c' h1 _=>ht (List.mem_of_getElem? h1),⟨O'.fr.ns,λb hb=>⟨by refine nG b (λq=>(hY O.fr f) (q▸hb)) ..▸?_;exact(O'.fr.priv b hb).1,(O'.fr.priv b hb).2⟩,λx ob q=>?_,O'.fr.apart⟩⟩,λb hb=>?_,λb hb=>?_,
    ⟨E'.pre,E'.keep,λb o' e=>cw hg' _ _ (E'.grow b o' e),λb o' e q=>?_,E'.dom⟩⟩
   ·refine aB (O'.fr.var x ob q) λh1 h2=>?_;exact⟨h1,λb hb=>let⟨v,h3,h4⟩:=h2 b hb;⟨v,h3,h4.mono (cw hg') ⟨[],by simp⟩⟩⟩
   ·by_cases q:b=a
    ·subst q;exact ej ..▸e ..▸rfl
    ·refine nG b q ..▸?_;refine(aA.mp hb).elim (λr=>?_) λhb=>?_
     ·exact absurd r q
     ·exact h1 b hb
   ·refine nG b (λq=>hb (q▸.head _)) ..▸?_;exact h2 b λq=>hb (.tail _ q)
   ·refine nG b (λr=>by rw[r,f]at e;exact nsN e) ..▸?_;exact E'.newG b o' e q
theorem zD{r d:aI}{kvs:List (ab×ab)}{Q:ai→ag→Prop}(hh:A.handled=none)(O:Ok w h₀ env G θ st s.heap)(rd:Rp w G (.ref d) (.dict kvs))(hs:(kvs.all λp=>ci p.1)=true)(hv:s.heap.IsItemsView r d)
  (hQ:sP w h₀ env G θ s st (.lst (kvs.map λp=>.v (.tuple [p.1,p.2]))) Q):au (aZ prog w) A (call (.type "list") [.ref r]) Q E s:=by
 have fr:=dY (h:=s.heap) (ak s.heap.objs.size);refine aB (O.wd.no fr) λhg ht=>?_;refine A0 (mz rd) λd' es n e ga ra dk hm=>?_;cases e
 refine aG (nh (prog:=prog) (O.wd.froz _ _ ga) ra dk hs) λks z5 h2=>?_;refine wi z5 λo es' ep x=>?_;clear z5;refine kdx_call hh hv (ik o es' x:s.heap.DictAt (PySem.strKind prog w) d ks ep) (by refine h2.length ..▸?_;exact dk.2.2) λh' tk acc c as kp ho hl K hacc=>?_;obtain⟨G',O',g1,g2,E'⟩:=O.push_many kp (λa ha=>dY (fU (K.above a ha)):∀a∈as,s.heap.get? a=none) (λa ha=>by
  refine aY (List.mem_iff_getElem?.mp ha) λj hj=>?_;refine xZ (K.pairs j a hj) λ_ _ _ _ _ q=>?_;exact⟨_,q⟩)
 have hacc':acc=(as.map Value.ref).toArray:=by exact(hacc ..)▸rfl
 subst hacc';refine hQ s.heap.objs.size h' tk G' θ O' (kT (as.map Value.ref) c ho ?_ (by refine(aN ..).symm▸?_;exact dk.2.2)) fr (by refine(g2 _ (λq=>g9 _ (K.above _ q):s.heap.objs.size∉as) ..).symm▸?_;exact hg) ht (hY O.fr fr) E';have key:∀ {ks:List (Str×ai)} {kvs:List (ab×ab)} (r:L3 w G ks kvs) (as:List aI),as.length=ks.length→
   (∀(j:Nat) a,as[j]?=some a→∃key k x,ks[j]?=some (k,x)∧(PySem.strKind prog w).is k key=true∧G' a=some {cls:=.type "tuple",data:=.seq #[key,x]})→jj w G' θ (as.map Value.ref) (kvs.map λp=>.v (.tuple [p.1,p.2])):=by
  intro ks kvs r
  induction r with
  |nil=>intro as h1 _;refine List.length_eq_zero_iff.mp h1 ..▸?_;exact .nil
  |@cons k ks p kvs r _ ih=>
   intro as h1 h4
   induction as using am with
   |nil=>cases h1
   |cons a as=>
    refine xZ (h4 0 a rfl) λkey k' x q1 q2 q3=>?_;cases Option.some.inj q1
    refine .cons ?_ (ih as (gA.inj h1) λj a' hj=>h4 (j+1) a' hj);have hk:Rp w G' key p.1:=by
     refine r.1 ..▸?_
     induction key using Value.casesOn with
     |str y t=>exact beq_iff_eq.mp q2▸.str _ _
     |_=>exact absurd q2 aR
    exact Rp.tuple (vs:= [key,x]) q3 (.cons hk (.cons (r.2.mono E'.grow) .nil)) (by refine dD ..▸?_;exact(by decide:2≤16777216))
 refine key h2 as hl λj a hj=>?_;refine xZ (K.pairs j a hj) λkey k x q1 q2 q3=>?_;exact CM key k x q1 q2 (by refine g1 a (List.mem_of_getElem? hj) ..▸?_;exact q3)
end
section
variable {prog:cD} {w:bi} {A:bC} {E:ai→ag→Prop} {s:ag} {h₀:bv} {env:Env} {G:Fz} {θ:List aI} {st:St}
theorem ww{vs us:List ai}{m:Nat}(f:Array ai→Array ai)(e:f vs.toArray=us.toArray):
  ∃m',Obj.mapSeq f {cls:=.type "list",data:=.seq vs.toArray m}={cls:=.type "list",data:=.seq us.toArray m'}:=by
 simp only[Obj.mapSeq];exact⟨if(f vs.toArray).size==vs.toArray.size then m else m+1,by exact(e ..)▸rfl⟩
theorem Be{h:bv}{σ:fH}{n:Nat}{bs:List B}(W:Wd w h₀ G θ σ h)(hs:σ[n]?=some (some (.lst bs))){ds:List ab}:∀xs,bE.lst (bs++ds.map .v)=.lst xs→∀m,B.l m∈xs→m<n:=by
 intro xs e m hm;cases e
 refine(List.mem_append.mp hm).elim (λq=>?_) λq=>?_
 ·exact W.low n bs hs m q
 ·refine aG (List.mem_map.mp q) λd _ q=>?_;cases q
theorem FA{n:Nat}{bs:List B}{a:aI}{v:ai}{d:ab}{Q:ai→ag→Prop}(O:Ok w h₀ env G θ st s.heap)(hs:st.σ[n]?=some (some (.lst bs)))(ha:θ[n]?=some a)(r:Rp w G v d)(hl:bs.length+1≤cG)
  (hQ:∀h',Ok w h₀ env G θ ⟨st.ρ,st.σ.set n (some (.lst (bs++ [.v d])))⟩ h'→dg [] θ G s.heap θ G h'→Q .none {s with heap:=h'}):au (aZ prog w) A (call (.builtin "list.append") [.ref a,v]) Q E s:=by
 refine eo (O.wd.cell n _ hs) λa' h1 z1 _=>?_;refine dS z1 λvs m ho rb hlen=>?_;clear z1;rw[ha]at h1;obtain rfl:=Option.some.inj h1;refine append_at ho (λh' k ho'=>?_) (by refine aJ ..▸rb.length ..▸?_;exact hlen);have c':gP w G θ h' a (.lst (bs++ [.v d])):=kT (vs++ [v]) (m+1) (by refine ho' ..▸?_;simp) (rb.append (.cons r .nil)) (by simpa using hl);refine aB (O.setCell hs ha k c' (Be O.wd hs (ds:= [d]))) λO' E'=>?_;exact hQ h' O' E'
theorem FB{n:Nat}{bs:List B}{a:aI}{v:ai}{ds:List ab}{Q:ai→ag→Prop}(O:Ok w h₀ env G θ st s.heap)(hs:st.σ[n]?=some (some (.lst bs)))(ha:θ[n]?=some a)(r:Rp w G v (.list ds))(hl:bs.length+ds.length≤cG)
  (hQ:∀h',Ok w h₀ env G θ ⟨st.ρ,st.σ.set n (some (.lst (bs++ds.map .v)))⟩ h'→dg [] θ G s.heap θ G h'→Q .none {s with heap:=h'}):au (aZ prog w) A (call (.builtin "list.extend") [.ref a,v]) Q E s:=by
 refine eo (O.wd.cell n _ hs) λa' h1 z2 _=>?_;refine dS z2 λvs m ho rb hlen=>?_;clear z2;rw[ha]at h1;obtain rfl:=Option.some.inj h1;refine lH (fx r) λb us m2 z3 gb ru hlu=>?_;obtain rfl:=z3;have l1:=rb.length;have l2:=ru.length;refine xS PySem.F.slot_list_extend (aV _ ho rfl) PySem.F.entry_list_extend (PySem.F.args_list_extend_2 _ _) (AutoSeq1.list_extend_list_list_0 a vs.toArray m b us.toArray m2 (extend_door (by simp only[aJ];omega)) (by simp only[aJ];omega) (by simp only[aJ];omega)) ⟨ho,O.wd.froz _ _ gb,?_⟩;have ho':∃m',(s.heap.update a (Obj.mapSeq λxs=>xs++us.toArray)).get? a=some {cls:=.type "list",data:=.seq (vs++us).toArray m'}:=by
  rw[Heap.get?_update_self _ ho (by simp[Obj.mapSeq,Obj.isFreed])];simp only[Obj.mapSeq];exact⟨_,by congr 3;simp⟩
 refine aY ho' λm' ho'=>?_;have k:Heap.SameBut a s.heap (s.heap.update a (Obj.mapSeq λxs=>xs++us.toArray)):=.update ..;have c':gP w G θ (s.heap.update a (Obj.mapSeq λxs=>xs++us.toArray)) a (.lst (bs++ds.map .v)):=kT (vs++us) m' ho' (rb.append (jj.of_all ru)) (by simpa using hl);refine aB (O.setCell hs ha k c' (Be O.wd hs)) λO' E'=>?_;exact hQ _ O' E'
theorem M0{n:Nat}{bs:List B}{a:aI}{u:Tok}{d:ab}{Q:ai→ag→Prop}(O:Ok w h₀ env G θ st s.heap)(hs:st.σ[n]?=some (some (.lst (.v d::bs))))(ha:θ[n]?=some a)
  (hQ:∀v h',Ok w h₀ env G θ ⟨st.ρ,st.σ.set n (some (.lst bs))⟩ h'→Rp w G v d→dg [] θ G s.heap θ G h'→Q v {s with heap:=h'}):au (aZ prog w) A (call (.builtin "list.pop") [.ref a,.int 0 u]) Q E s:=by
 refine eo (O.wd.cell n _ hs) λa' h1 z4 _=>?_;refine dS z4 λvs m ho rb hlen=>?_;clear z4;rw[ha]at h1;obtain rfl:=Option.some.inj h1;cases rb with
 |cons r1 r2=>
  rename_i v vs;refine xS PySem.F.slot_list_pop (aV _ ho rfl) PySem.F.entry_list_pop (PySem.F.args_list_pop_2 _ _) (PySem.MeetsSeq.list_pop_at a (v::vs).toArray m 0 u 0 v (by decide) (by simp[seqIndex?]) (by simp) (by have:=r2.length;simp only[aJ,aP]at*;omega)) ⟨ho,?_⟩;have k:Heap.SameBut a s.heap (s.heap.update a (Obj.mapSeq λxs=>xs.eraseIdxIfInBounds 0)):=.update ..;have ho':∃m',(s.heap.update a (Obj.mapSeq λxs=>xs.eraseIdxIfInBounds 0)).get? a=some {cls:=.type "list",data:=.seq vs.toArray m'}:=by
   rw[Heap.get?_update_self _ ho (by simp[Obj.mapSeq,Obj.isFreed])];refine aY (ww (vs:=v::vs) (us:=vs) (m:=m) (λxs=>xs.eraseIdxIfInBounds 0) (by simp)) λm' e=>?_;exact⟨m',by exact e ..▸rfl⟩
  refine aY ho' λm' ho'=>?_;have c':gP w G θ (s.heap.update a (Obj.mapSeq λxs=>xs.eraseIdxIfInBounds 0)) a (.lst bs):=kT vs m' ho' r2 (by simp at hlen;exact aW hlen);refine aB (O.setCell hs ha k c' (λxs e m hm=>by cases e;exact O.wd.low n _ hs m (.tail _ hm))) λO' E'=>?_;exact hQ v _ O' r1 E'
theorem Hx{n:Nat}{bs:List B}{a:aI}{k:Int}{t:Tok}{v:ai}{d:ab}{Q:Unit→ag→Prop}(O:Ok w h₀ env G θ st s.heap)(hs:st.σ[n]?=some (some (.lst bs)))(ha:θ[n]?=some a)(r:Rp w G v d)(h0:0≤k)(hk:k<bs.length)
  (hQ:∀h',Ok w h₀ env G θ ⟨st.ρ,st.σ.set n (some (.lst (bs.set k.toNat (.v d))))⟩ h'→dg [] θ G s.heap θ G h'→Q () {s with heap:=h'}):au (aZ prog w) A (setItem (.ref a) (.int k t) v) Q E s:=by
 refine eo (O.wd.cell n _ hs) λa' h1 z5 _=>?_;refine dS z5 λvs m ho rb hlen=>?_;clear z5;rw[ha]at h1;obtain rfl:=Option.some.inj h1;have hl:s.heap.IsList a vs.toArray:=⟨_,ho,rfl,m,rfl⟩
 have hfit:k<2^63:=by rw[dD]at hlen;omega
 unfold setItem
 try with_reducible refine bD ?_
 refine af (yt hl.typeIs (by decide) ?_);refine af (wpAny_callSpecial?_slot (name:=Str.ofString "__setitem__") hl.typeIs slot_list_setitem
  (cT slot_list_setitem hl.typeIs entry_list_setitem ?_ (args_list_setitem _ _ _)))
 show au _ _ (Builtin.List.listSubscript? (.int k t)>>=_) _ _ s;refine af (wpAny_listSubscript_int (fitsIndex_of h0 hfit) ?_);clear hfit;refine aY (eF h0) λj z6=>?_;obtain rfl:=z6;have hj:j<vs.toArray.size:=by refine aJ ..▸rb.length ..▸?_;omega
 show au _ _ ((seqItemAt a j>>=λr=>pure (r.map (j,·)))>>=_) _ _ s;refine af (af (wpAny_seqItemAt ho rfl (ap ?_)));refine (Array.getElem?_eq_getElem hj:vs.toArray[j]?=some vs.toArray[j]) ..▸?_;show au _ _ (setSeqItemAt a j v>>=_) _ _ s;have k:Heap.SameBut a s.heap (s.heap.update a (Obj.mapSeq λxs=>xs.setIfInBounds j v)):=.update ..;have ho':∃m',(s.heap.update a (Obj.mapSeq λxs=>xs.setIfInBounds j v)).get? a=some {cls:=.type "list",data:=.seq (vs.set j v).toArray m'}:=by
  rw[Heap.get?_update_self _ ho (by simp[Obj.mapSeq,Obj.isFreed])];refine aY (ww (vs:=vs) (us:=vs.set j v) (m:=m) (λxs=>xs.setIfInBounds j v) (by simp)) λm' e=>?_;exact⟨m',by exact e ..▸rfl⟩
 refine aY ho' λm' ho'=>?_;have c':gP w G θ (s.heap.update a (Obj.mapSeq λxs=>xs.setIfInBounds j v)) a (.lst (bs.set j (.v d))):=kT (vs.set j v) m' ho' (rb.set (show rD w G θ v (.v d)from r) j) (by simpa using hlen);obtain⟨O',E'⟩:=O.setCell hs ha k c' (λxs e m hm=>by
  cases e
  refine(List.mem_or_eq_of_mem_set hm).elim (λq=>?_) λq=>?_
  ·exact O.wd.low n _ hs m q
  ·cases q)
 have fin:=hQ _ O' E';refine af (wpAny_setSeqItemAt ho rfl ?_)
 first
  |exact af (ap (ap ⟨.none,rfl,ap fin⟩))
  |exact ap ⟨.none,rfl,ap fin⟩
theorem Bf{n:Nat}{bs:List B}{a:aI}{k:Int}{t:Tok}{b:B}{Q:ai→ag→Prop}(O:Ok w h₀ env G θ st s.heap)(hs:st.σ[n]?=some (some (.lst bs)))(ha:θ[n]?=some a)(e:Fo bs k=some b)
  (hQ:∀v,rD w G θ v b→Q v s):au (aZ prog w) A (getItem (.ref a) (.int k t)) Q E s:=by
 refine eo (O.wd.cell n _ hs) λa' h1 z7 _=>?_;refine dS z7 λvs m ho rb hlen=>?_;clear z7;rw[ha]at h1;obtain rfl:=Option.some.inj h1;obtain⟨k,rfl,hk,e⟩:=Ec e;obtain⟨v,q1,q2⟩:=rb.get e;exact wpAny_getItem_list (items:=vs.toArray) ⟨_,ho,rfl,m,rfl⟩ (dG _) (Int.lt_trans (Int.ofNat_lt.mpr hk) (by decide)) (List.getElem?_toArray .. ▸q1) (hQ v q2)
structure Ol (w:bi) (G:Fz) (h:bv) (a:aI) (es:List cU) (n:Nat) (kvs:List (ab×ab)):Prop where
 o:h.get? a=some (fJ es n)
 r:mi w G es kvs
 d:x7 kvs
 s:(a==iW)=false
theorem wx{v:ai}{kvs:List (ab×ab)}(O:Ok w h₀ env G θ st s.heap)(r:Rp w G v (.dict kvs)):∃a es n,v=.ref a∧Ol w G s.heap a es n kvs:=by
 refine A0 (mz r) λa es n z9 ga ra dk hm=>?_;obtain rfl:=z9;exact⟨a,es,n,rfl,O.wd.froz _ _ ga,ra,dk,hm⟩
theorem lM{n:Nat}{a:aI}{kvs:List (ab×ab)}(O:Ok w h₀ env G θ st s.heap)(hs:st.σ[n]?=some (some (.dct kvs)))(ha:θ[n]?=some a):∃es m,Ol w G s.heap a es m kvs:=by
 refine eo (O.wd.cell n _ hs) λa' h1 z10 _=>?_;refine kD z10 λes m ho r dk hm=>?_;clear z10;rw[ha]at h1;obtain rfl:=Option.some.inj h1;exact⟨es,m,ho,r,dk,hm⟩
variable {d:aI} {es:List cU} {n:Nat} {kvs:List (ab×ab)} {k:ab} {kv:ai}
theorem uV{b:ab}{Q:ai→ag→Prop}(hu:A.units+64<gB)(D:Ol w G s.heap d es n kvs)(hg:∀a o,G a=some o→s.heap.get? a=some o)(rk:Rp w G kv k)(hf:cP kvs k=true)(hv:gE kvs k=some b)
  (h:∀v tk,Rp w G v b→Q v {s with toks:=tk}):au (aZ prog w) A (getItem (.ref d) kv) Q E s:=by
 have hT:s.TypeIs (.ref d) "dict":=aV _ D.o rfl;unfold getItem
 try with_reducible refine bD ?_
 refine af (yt hT (by decide) ?_);refine af (wpAny_callSpecial?_slot (name:=Str.ofString "__getitem__") hT slot_dict_getitem
  (cT slot_dict_getitem hT entry_dict_getitem ?_ (args_dict_getitem _ _)))
 show au _ _ (dictGet d kv>>=_) _ _ s;refine af (CZ D.o D.r D.d hg rk hf (by show A.units+1+16<_;exact nw [_,_] (.d (.s (.a yA (.k 64))) yB .n) (.s (.a (.s yA) (.k 16))) yB rfl hu) (λq=>by rw[hv]at q;exact sN q) λv b' q r=>?_);rw[hv]at q;obtain rfl:=Option.some.inj q;exact ap (aV v rfl (ap (h v _ r)))
theorem M1{Q:ai→ag→Prop}(hu:A.units+64<gB)(D:Ol w G s.heap d es n kvs)(hg:∀a o,G a=some o→s.heap.get? a=some o)(rk:Rp w G kv k)(hf:cP kvs k=true)
  (h:∀tk,Q (.bool (gE kvs k).isSome) {s with toks:=tk}):au (aZ prog w) A (j8 .In kv (.ref d)) Q E s:=by
 have hT:s.TypeIs (.ref d) "dict":=aV _ D.o rfl;show au _ _ (do return .bool (←contains (.ref d) kv)) Q E s;refine af ?_;unfold contains
 try with_reducible refine bD ?_
 refine af (CD hT slot_dict_contains.lookup ?_);show au _ _ (if(some (Value.builtin "dict.__contains__")==some Value.none)=true then _ else _) _ E s;rw[if_neg (by rw[AL];exact aR)];refine af (wpAny_callSpecialUnlessNone?_slot (name:=Str.ofString "__contains__") hT slot_dict_contains
  (cT slot_dict_contains hT entry_dict_contains ?_ (args_dict_contains _ _)))
 show au _ _ (dictGet d kv>>=_) _ _ s;refine af (CZ D.o D.r D.d hg rk hf (by show A.units+1+16<_;exact nw [_,_] (.d (.s (.a yA (.k 64))) yB .n) (.s (.a (.s yA) (.k 16))) yB rfl hu) (λq=>?_) λv b' q r=>?_)
 ·have:=h (s.toks+gn k);rw[q]at this;show au _ _ (Builtin.Dict.pendingKey? d kv>>=_) _ _ _;exact af (wpAny_pendingKey_other D.s (ap (aV _ rfl (iF (ap this)))))
 ·have:=h (s.toks+gn k);rw[q]at this;show au _ _ (ret (.bool true)) _ _ _;exact ap (aV _ rfl (iF (ap this)))
theorem El{dv:ai}{b:ab}{Q:ai→ag→Prop}(hu:A.units+64<gB)(D:Ol w G s.heap d es n kvs)(hg:∀a o,G a=some o→s.heap.get? a=some o)(rk:Rp w G kv k)(rd:Rp w G dv b)(hf:cP kvs k=true)
  (h:∀v tk,Rp w G v ((gE kvs k).getD b)→Q v {s with toks:=tk}):au (aZ prog w) A (call (.builtin "dict.get") [.ref d,kv,dv]) Q E s:=by
 refine cT PySem.F.slot_dict_get (aV _ D.o rfl:s.TypeIs (.ref d) "dict") PySem.F.entry_dict_get ?_ (PySem.F.args_dict_get_3 _ _ _);show au _ _ (dictGet d kv>>=_) _ _ s;refine af (CZ D.o D.r D.d hg rk hf (by show A.units+1+16<_;exact nw [_,_] (.d (.s (.a yA (.k 64))) yB .n) (.s (.a (.s yA) (.k 16))) yB rfl hu) (λq=>?_) λv b' q r=>?_)
 ·rw[q]at h;show au _ _ (Builtin.Dict.missed d kv>>=_) _ _ _;exact af (wpAny_missed_other D.s (ap (aV dv rfl (h dv _ rd))))
 ·rw[q]at h;exact ap (aV v rfl (h v _ r))
theorem KG{c:Nat}{a:aI}{vv:ai}{v:ab}{Q:Unit→ag→Prop}(hu:A.units+64<gB)(O:Ok w h₀ env G θ st s.heap)(hs:st.σ[c]?=some (some (.dct kvs)))(ha:θ[c]?=some a)(rk:Rp w G kv k)(rv:Rp w G vv v)(hf:cP kvs k=true)(hl:kvs.length+1≤cG)
  (hQ:∀h' tk,Ok w h₀ env G θ ⟨st.ρ,st.σ.set c (some (.dct (m9 kvs k v)))⟩ h'→dg [] θ G s.heap θ G h'→Q () {s with heap:=h',toks:=tk}):au (aZ prog w) A (setItem (.ref a) kv vv) Q E s:=by
 refine fe (lM O hs ha) λes m D=>?_;have hT:s.TypeIs (.ref a) "dict":=aV _ D.o rfl;unfold setItem
 try with_reducible refine bD ?_
 refine af (yt hT (by decide) ?_);refine af (wpAny_callSpecial?_slot (name:=Str.ofString "__setitem__") hT slot_dict_setitem
  (cT slot_dict_setitem hT entry_dict_setitem ?_ (args_dict_setitem _ _ _)))
 show au _ _ (Builtin.Dict.notOrdered "__setitem__" ⟨[.ref a,kv,vv],[]⟩>>=_) _ _ s;refine af (lG hT ?_);show au _ _ (dictSet a kv vv>>=_) _ _ s;refine af (C0 D.o D.r D.d O.wd.froz rk rv hf hl (by show A.units+1+16<_;exact nw [_,_] (.d (.s (.a yA (.k 64))) yB .n) (.s (.a (.s yA) (.k 16))) yB rfl hu) λh' es' n' sb ho' r' d'=>ap (aV .none rfl (ap ?_)));refine aB (O.setCell hs ha sb (c':=.dct (m9 kvs k v)) (zp es' n' ho' r' d' D.s) (λ_ e=>nomatch e)) λO' E'=>?_;exact hQ h' _ O' E'
theorem KH{c:Nat}{a:aI}{dv:ai}{b:ab}{Q:ai→ag→Prop}(hu:A.units+64<gB)(O:Ok w h₀ env G θ st s.heap)(hs:st.σ[c]?=some (some (.dct kvs)))(ha:θ[c]?=some a)(rk:Rp w G kv k)(rd:Rp w G dv b)(hf:cP kvs k=true)
  (hQ:∀v h' tk,Ok w h₀ env G θ ⟨st.ρ,st.σ.set c (some (.dct (sF kvs k)))⟩ h'→Rp w G v ((gE kvs k).getD b)→dg [] θ G s.heap θ G h'→Q v {s with heap:=h',toks:=tk}):au (aZ prog w) A (call (.builtin "dict.pop") [.ref a,kv,dv]) Q E s:=by
 refine fe (lM O hs ha) λes m D=>?_;have hT:s.TypeIs (.ref a) "dict":=aV _ D.o rfl;have take:∀ {Q:Option cU→ag→Prop},(∀h' tk r,Ok w h₀ env G θ ⟨st.ρ,st.σ.set c (some (.dct (sF kvs k)))⟩ h'→dg [] θ G s.heap θ G h'→(r=none∧gE kvs k=none∨∃e b',r=some e∧gE kvs k=some b'∧Rp w G e.val b')→Q r {s with heap:=h',toks:=tk})→
   au (aZ prog w) A.in1 (Builtin.Dict.takeOut a kv) Q E s:=λ{Q} h=>by
  unfold Builtin.Dict.takeOut
  try with_reducible refine bD ?_
  refine af (zA O.wd.froz rk hf (by show A.units+1+16<_;exact nw [_,_] (.d (.s (.a yA (.k 64))) yB .n) (.s (.a (.s yA) (.k 16))) yB rfl hu) (af (zz (s:={s with toks:=s.toks+gn k}) D.o D.r D.d O.wd.froz rk hf (by show A.units+1+16<_;exact nw [_,_] (.d (.s (.a yA (.k 64))) yB .n) (.s (.a (.s yA) (.k 16))) yB rfl hu) ?_)));have hg':=zy (kvs:=kvs) (k:=k)
  induction hi:fi kvs k with
  |none=>
   rw[hi]at hg';have e:=Ft hi;refine aB (O.setCell hs ha (.refl ..) (c':=.dct (sF kvs k)) (zp es m D.o (by refine(e ..).symm▸?_;exact D.r) (by refine(e ..).symm▸?_;exact D.d) D.s) (λ_ e=>nomatch e)) λO' E'=>?_;exact ap (h s.heap _ none O' E' (.inl ⟨rfl,hg'⟩))
  |some i=>
   rw[hi]at hg';obtain⟨p,hp⟩:∃p,kvs[i]?=some p:=⟨_,List.getElem?_eq_getElem ((List.findIdx?_eq_some_iff_getElem.mp hi).1:i<kvs.length)⟩
   refine aG (D.r.get hp) λe0 e1 e2=>?_;simp only[nV,hp,gO]at hg';refine af (iG (s:={s with toks:=s.toks+gn k}) D.o rfl ?_);refine(show es.toArray[i]?=some e0 from List.getElem?_toArray.trans e1).symm▸?_;refine af (wpAny_updateDictKeys (s:={s with toks:=s.toks+gn k}) D.o rfl (ap ?_) (by refine aJ ..▸D.r.length ..▸?_;exact D.d.2.2) (by refine(show(es.toArray.eraseIdxIfInBounds i)=(es.eraseIdx i).toArray by simp).symm▸?_;refine aJ ..▸aJ ..▸?_;have:=List.length_eraseIdx_le es i;exact aa this (ao _ _)));have e:=Kv hf D.d.1 hi;have ho':(s.heap.update a (Obj.mapDictKeys λxs=>xs.eraseIdxIfInBounds i)).get? a=some (fJ (es.eraseIdx i) (m+1)):=by
    rw[Heap.get?_update_self _ D.o rfl];simp[Obj.mapDictKeys]
   refine aB (O.setCell hs ha (.update .. :Heap.SameBut a s.heap (s.heap.update a (Obj.mapDictKeys λxs=>xs.eraseIdxIfInBounds i))) (c':=.dct (sF kvs k)) (zp (es.eraseIdx i) (m+1) ho' (by refine e ..▸?_;exact D.r.erase i) (by refine e ..▸?_;exact D.d.erase i) D.s) (λ_ e=>nomatch e)) λO' E'=>?_;exact h _ _ _ O' E' (.inr (kT _ p.2 rfl hg' (e2.casesOn λ_ _ q=>q)))
 refine cT PySem.F.slot_dict_pop hT PySem.F.entry_dict_pop ?_ (PySem.F.args_dict_pop_3 _ _ _);unfold Builtin.«dict.pop»;refine af ?_;unfold Builtin.Dict.keyAndDefault;refine af (lG hT ?_);show au _ _ (pure (a,kv,some dv)) _ _ s;refine ap ?_;have rest:∀h' tk r,Ok w h₀ env G θ ⟨st.ρ,st.σ.set c (some (.dct (sF kvs k)))⟩ h'→dg [] θ G s.heap θ G h'→(r=none∧gE kvs k=none∨∃e b',r=some e∧gE kvs k=some b'∧Rp w G e.val b')→
   au (aZ prog w) A.in1 (do
    if Option.isNone (α:=cU) r then Builtin.Dict.missedRemoval a kv
    match r,some dv with
    |some e,_=>letGo [e.key] [e.val];ret e.val
    |none,some x=>rule "dict.pop.default";ret x
    |none,none=>rule "dict.pop.keyerror";raiseNew (←newExc (.type "KeyError") [kv])) (λfin s'=>∃v,fin=.done (.ret v)∧Q v s') E {s with heap:=h',toks:=tk}:=λh' tk r O' E' hr=>by
  rcases hr with⟨rfl,q⟩|⟨e,b',rfl,q,q'⟩
  ·simp only[Option.isNone_none,if_true];refine af (wpAny_missedRemoval_other D.s ?_);exact af (jX (ap (aV dv rfl (hQ dv h' tk O' (by refine q ..▸?_;exact rd) E'))))
  ·simp only[Option.isNone_some,bR,if_false];exact af (wpAny_letGo (ap (aV e.val rfl (hQ _ h' tk O' (by refine q ..▸?_;exact q') E'))))
 induction hkp:(keyPart kv).isSome with
 |true=>
  simp only[hkp,if_true];refine af (ap ?_);simp only[bR,if_false];exact af (take λh' tk r O' E' hr=>rest h' tk r O' E' hr)
 |false=>
  simp only[hkp,bR,if_false];refine af (iG D.o rfl ?_);refine af (ap ?_)
  induction hem:es.toArray.isEmpty with
  |false=>
   simp only[bR,if_false];exact af (take λh' tk r O' E' hr=>rest h' tk r O' E' hr)
  |true=>
   simp only[if_true];have hk:kvs= []:=by have:=D.r.length;rw[(by simpa using hem:es= [])]at this;exact List.length_eq_zero_iff.mp this.symm
   subst hk;refine aB (O.setCell hs ha (.refl ..) (c':=.dct (sF [] k)) (zp es m D.o D.r D.d D.s) (λ_ e=>nomatch e)) λO' E'=>?_;exact af (jX (af (ap (rest s.heap s.toks none O' E' (.inl ⟨rfl,rfl⟩)))))
end
section
variable {prog:cD} {w:bi} {A:bC} {E:ai→ag→Prop} {s:ag} {h₀:bv} {env:Env} {G:Fz} {θ:List aI} {st:St}
theorem Bg:typeLookup (.type "list") (ofString "keys")=pure none:=by refine typeLookup_type ..▸builtinLookup_eq_fast ..▸?_;kernel_rfl
theorem Bh{a:aI}{xs:Array ai}{k:Nat}{u:Tok}{Q:ai→ag→Prop}{hp:bv}{g:Array GenState}{d:Drawn}{tk:Nat}{os:OsState}
  (hx:hp.get? a=some {cls:=.type "list",data:=.seq xs k}) (hA:A.handled=none)
  (h:∀h' tk e,Heap.NewExcOf hp h' e "AttributeError"→E (.ref e) ⟨h',g,d,tk,os⟩):au (aZ prog w) A (getAttrBy (.ref a) (.str (ofString "keys") u) false) Q E ⟨hp,g,d,tk,os⟩:=by
 have hT:∀tk',(⟨hp,g,d,tk',os⟩:ag).TypeIs (.ref a) "list":=λ_=>aV _ hx rfl;have f1:=sub_AttributeError;have f3:=PySem.F.slot_list_getattribute.lookup;have f4:=PySem.F.slot_list_getattribute.bind (.ref a);have f5:=am_list_getattr_none;unfold getAttrBy
 repeat (any_goals (first|assumption|exact hT _|((with_reducible show au _ _ (call (Value.builtin "list.__getattribute__") _ _) _ _ _);refine xS PySem.F.slot_list_getattribute (hT _) am_entry_list_getattribute (PySem.F.args_list_getattribute_2 _ _) (meets_getattribute_miss_list a xs k #[] (ofString "keys") _ Bg (by decide) (by decide)) ⟨hx,hA,λh' tk' e hx'=>?_⟩)|wp_step))
 refine fe hx'.there λt' u' he=>?_;show au _ _ (getattributeRaised _ _ _ _ _ _ _) _ _ _;unfold getattributeRaised
 repeat (any_goals (first|assumption|wp_step))
 exact h _ _ _ hx'.of
theorem FC{a:aI}{xs:Array ai}{k:Nat}{Q:Option ai→ag→Prop}(hx:s.heap.get? a=some {cls:=.type "list",data:=.seq xs k})(hA:A.handled=none)
  (h:∀h' tk,(∀b o,s.heap.get? b=some o→h'.get? b=some o)→Q none {s with heap:=h',toks:=tk}):au (aZ prog w) A (getAttr? (.ref a) (ofString "keys")) Q E s:=by
 obtain⟨hp,g,d,tk,os⟩:=s;unfold getAttr? getAttrBy?
 repeat (any_goals (first|assumption|(with_reducible refine Bh hx hA ?_)|wp_step))
 intro h' tk' e he;refine dS he.there λob vs h1 h2 _=>?_;show au _ _ (isInstance (.ref e) (.type "AttributeError")>>=_) _ _ _;refine af (AM (T:="AttributeError") (b:=true) (aV ob h1 h2) sub_AttributeError ?_);exact ap (h h' tk' he.keeps)
theorem Ok.off{h h':bv}{F:List aI}(O:Ok w h₀ env G θ st h)(hF:∀b∈F,G b=none∧b∉θ∧b∉priv env)(kp:∀b o,b∉F→h.get? b=some o→h'.get? b=some o):Ok w h₀ env G θ st h':=
 ⟨O.wd.heap λa o e q=>kp a o (λr=>by
  refine q.elim (λq=>?_) λq=>?_
  ·rw[(hF a r).1]at q;exact nsN q
  ·exact(hF a r).2.1 q) e,O.fr.heap λa ha o e=>kp a o (λr=>(hF a r).2.2 ha) e⟩
theorem FD{kvs:List (ab×ab)}{k v:ab}(h:(kvs.all λp=>ci p.1)=true)(hk:ci k=true):((m9 kvs k v).all λp=>ci p.1)=true:=by
 unfold m9;split
 ·refine vj ..▸?_;rw[aM]at h⊢;intro p hp;have:=h p hp;simp only[Function.comp];split
  ·exact this
  ·exact this
 ·refine xV ..▸h ..▸?_;simp[hk]
theorem gV:plainId "dict.update.loop"=true:=by decide+kernel
theorem mD:entryFor table "dict.update.loop"=some Builtin.«dict.update.loop» :=entryFor_of_fast (by kernel_rfl)
theorem zE{d:ab}{ds:List ab}{ps:List (ab×ab)}(h:iO (d::ds)=some ps):∃a b r,d=.tuple [a,b]∧iO ds=some r∧ps=(a,b)::r:=by
 induction d using aq with
 |tuple l=>
  rcases l with _|⟨a,_|⟨b,_|⟨c,l⟩⟩⟩
  ·exact nsN h
  ·exact nsN h
  ·refine aG (aH.mp (show(iO ds).map _=some ps from h)) λq q1 q2=>?_;exact CM a b q rfl q1 q2.symm
  ·exact nsN h
 |_=>exact nsN h
theorem Hy{D I l:aI}{vs:List ai}{m:Nat}{hB:bv}{R:xT→ag→Prop}(hu:A.units+64<gB)(hh:A.handled=none)(gl:G l=some {cls:=.type "list",data:=.seq vs.toArray m})(hDI:D≠I)(hD:hB.get? D=none)(hI:hB.get? I=none)
  (hF:∀b∈ [D,I],G b=none∧b∉θ∧b∉priv env) (res:ai):
  ∀(ds:List ab)(ps:List (ab×ab))(i:Nat)(s:ag)(acc:List (ab×ab))(es:List cU)(n:Nat)(kvs:List (ab×ab)),iO ds=some ps→fq acc ps=some kvs→ei w G (vs.drop i) ds→
   Ok w h₀ env G θ st s.heap→(∀b o,hB.get? b=some o→s.heap.get? b=some o)→s.heap.IsListIter I l i→s.heap.get? D=some (fJ es n)→mi w G es acc→x7 acc→(acc.all λp=>ci p.1)=true→
   (∀h' tk es' n',Ok w h₀ env G θ st h'→(∀b o,hB.get? b=some o→h'.get? b=some o)→h'.get? D=some (fJ es' n')→mi w G es' kvs→x7 kvs→R (.ok (.ret res)) {s with heap:=h',toks:=tk})→
   kL (aZ prog w) A (.builtin "dict.update.loop" ⟨[.ref D,.ref I,.int i 0,res],[]⟩) R s:=by
 intro ds;have nDG:∀b∈ [D,I],∀o,G b≠some o:=λb hb o e=>by rw[(hF b hb).1]at e;exact nsN e
 have nlI:l≠I:=λe=>nDG I (by simp) _ (e▸gl);have nlD:l≠D:=λe=>nDG D (by simp) _ (e▸gl)
 induction ds with
 |nil=>
  intro ps i s acc es n kvs h1 h2 h3 O kb hit ho hr hd hs hR;simp only[yx,Option.some.injEq]at h1;subst h1;simp only[j2,Option.some.injEq]at h2;subst h2;have hend:vs.toArray[i]?=none:=by
   have:=h3.length;simp only[cO,ch]at this;refine(show vs.toArray[i]?=vs[i]? by simp).symm▸?_;exact List.getElem?_eq_none (nw [_,_,_] (.d yA (.k 0) (.d yB (.a yA yC) .n)) yB yC rfl (ah this) (a6 _ _))
  refine sD mD ?_;refine Around.under_plainId gV _ ..▸?_;show au _ A.in1 (si (.ref I)>>=_) _ _ s;refine af (wpAny_pyNext_list_end hh hit (⟨_,O.wd.froz _ _ gl,rfl,m,rfl⟩:s.heap.IsList l vs.toArray) hend λh' he=>?_);show au _ _ (Builtin.Dict.addKeywords D []>>=_) _ _ _;refine af (ap ?_);have kp:∀b o,b∉ [I]→s.heap.get? b=some o→h'.get? b=some o:=λb o hb e=>he b o (λq=>hb (by simp[q])) e;exact ap (hR h' s.toks es n (O.off (F:= [I]) (λb hb=>hF b (.tail _ hb)) kp) (λb o e=>kp b o (λq=>by rw[ae.mp q,hI]at e;exact nsN e) (kb b o e)) (kp D _ (by simpa using hDI) ho) hr hd)
 |cons d ds ih=>
  intro ps i s acc es n kvs h1 h2 h3 O kb hit ho hr hd hs hR;obtain⟨a,b,r,rfl,hps,rfl⟩:∃a b r,d=.tuple [a,b]∧iO ds=some r∧ps=(a,b)::r:=by
   exact zE h1
  rw[j2.2]at h2;split at h2
  ·rename_i hk;simp only[ay]at hk;refine aB hk λhk hfit=>?_;have hlt:i<vs.length:=by
    have:=h3.length;simp only[cO,aP]at this;exact(ms _ _).elim (λq0=>nk [_,_,_,_] (.d (.s yA) yB (.d yB (.k 0) .n)) 0 (.s yC) yD rfl (ah this.symm) (ah (Ff (fU q0)))) (λq0=>nw [_,_,_,_] (.d (.s yA) yB (.d (.a yB yC) yD .n)) (.s yC) yD rfl (ah this.symm) (ah (az q0)))
   rw[dZ hlt]at h3
   generalize hv:vs[i]=v at h3
   cases h3 with
   |cons r1 r2=>
    refine wj (gF r1) λT us dd mm sl z1 gT ru _=>?_;obtain rfl:=z1;refine dS ru.two λkv vv z2 rk rv=>?_;obtain rfl:=z2;refine sD mD ?_;refine Around.under_plainId gV _ ..▸?_;show au _ A.in1 (si (.ref I)>>=_) _ _ s;refine af (wpAny_pyNext_list_item hit (⟨_,O.wd.froz _ _ gl,rfl,m,rfl⟩:s.heap.IsList l vs.toArray) (by exact(show vs.toArray[i]?=vs[i]? by simp).symm▸List.getElem?_eq_getElem hlt ..▸hv ..▸rfl:vs.toArray[i]?=some (.ref T)) λh' hit' sb=>?_);have kp:∀b o,b∉ [I]→s.heap.get? b=some o→h'.get? b=some o:=λb o hb e=>sb.extBut b o (λq=>hb (by simp[q])) e;have O1:=O.off (F:= [I]) (λb hb=>hF b (.tail _ hb)) kp;have hT:=O1.wd.froz _ _ gT;refine af ?_;refine bD ?_;refine af (wpAny_tryCatch ?_);unfold Builtin.Dict.pairItems;refine af (wpAny_typeOf ((λ_=>aV _ hT rfl:∀tk,(⟨h',s.gens,s.drawn,tk,s.os⟩:ag).TypeIs (.ref T) "tuple") _) ?_);rw[if_pos (by decide)];refine af (uL hT rfl (ap ?_));show au _ _ (holding [kv,vv] (dictSet D kv vv)) _ _ _;refine bD ?_;have hlen:acc.length+1≤cG:=by have:acc.length≤1048576:=of_decide_eq_true hfit;refine dD ..▸?_;exact nw [_] (.d yA (.k 1048576) .n) (.s yA) (.k 16777216) rfl this
    refine C0 (s:=⟨h',s.gens,s.drawn,s.toks,s.os⟩) (kp D _ (by simpa using hDI) ho) hr hd O1.wd.froz rk rv (by simp[cP,hk,hs]:cP acc a=true) hlen (by show A.units+1+16<_;exact nw [_,_] (.d (.s (.a yA (.k 64))) yB .n) (.s (.a (.s yA) (.k 16))) yB rfl hu) λh'' es' n' sb' ho' hr' hd'=>?_;have kp':∀b o,b∉ [D]→h'.get? b=some o→h''.get? b=some o:=λb o hb e=>sb'.extBut b o (λq=>hb (by simp[q])) e;refine ap ⟨wf gV _,?_⟩;have e:(jY ((i:Int)+1))=.int ((i+1:Nat):Int) 0:=by simp[jY]
    refine e ..▸?_;refine ih r (i+1) ⟨h'',s.gens,s.drawn,_,s.os⟩ (m9 acc a b) es' n' kvs hps h2 r2 (O1.off (F:= [D]) (λb hb=>hF b (by refine ae.mp hb ..▸?_;simp)) kp') (λb o e=>kp' b o (λq=>by rw[ae.mp q,hD]at e;exact nsN e) (kp b o (λq=>by rw[ae.mp q,hI]at e;cases e) (kb b o e))) ?_ ho' hr' hd' (FD hs hk) λh3 tk es3 n3 O3 k3 ho3 hr3 hd3=>hR h3 tk es3 n3 O3 k3 ho3 hr3 hd3;refine eo hit' λoi q1 q2 q3=>?_;clear hit';exact iw oi (kp' I _ (by simpa using Ne.symm hDI) q1) q2 q3
  ·exact nsN h2
theorem KJ{mg mb:Str→Option ai}{v:ai}{ds:List ab}{ps kvs:List (ab×ab)}{Q:ai→ag→Prop}(T:pE w h₀ mg mb)(hu:A.units+80<gB)(hh:A.handled=none)(O:Ok w h₀ env G θ st s.heap)(r:Rp w G v (.list ds))(e1:iO ds=some ps)(e2:fq [] ps=some kvs)
  (hQ:sP w h₀ env G θ s st (.dct kvs) Q):au (aZ prog w) A (call (.type "dict") [v]) Q E s:=by
 refine lH (fx r) λl vs m z3 gl ra hl=>?_;obtain rfl:=z3;have fr:=dY (h:=s.heap) (ak s.heap.objs.size);have hp:=hY O.fr fr;refine aB (O.wd.no fr) λhg ht=>?_;refine callType_codes (Q₁:=λobj s₁=>obj=.ref s.heap.objs.size∧s₁={s with heap:=s.heap.push {cls:=.type "dict",data:=.dict #[]}}) PySem.F.kt_called_dict (PySem.F.kt_typeCall_dict_1 _) PySem.F.entry_dict_init (kt_code_dict_new _ ⟨rfl,rfl⟩) ?_
 rintro obj s₁ ⟨rfl,rfl⟩
 refine aB (eQ {cls:=.type "dict",data:=.dict #[]} O) λO1 E1=>?_;have ho:(s.heap.push {cls:=.type "dict",data:=.dict #[]}).get? s.heap.objs.size=some (fJ [] 0):=Heap.get?_push_size _ rfl;have hT:∀tk,(⟨s.heap.push {cls:=.type "dict",data:=.dict #[]},s.gens,s.drawn,tk,s.os⟩:ag).TypeIs (.ref s.heap.objs.size) "dict":=λ_=>aV _ ho rfl;refine⟨hT _,PySem.F.args_dict_init_2 _ _,?_⟩;unfold Builtin.«dict.__init__»;refine af ?_;unfold Builtin.Dict.selfAndRest;refine af (lG (hT _) ?_);show au _ _ (pure (s.heap.objs.size,[Value.ref l])) _ _ _;refine ap ?_;show au _ _ (Builtin.Dict.updateFrom "dict.__init__" s.heap.objs.size (.ref l) [] .none) _ _ _;unfold Builtin.Dict.updateFrom;have hl1:=O1.wd.froz _ _ gl;refine af (wpAny_typeOf (s:={s with heap:=s.heap.push {cls:=.type "dict",data:=.dict #[]}}) (aV _ hl1 rfl) ?_);rw[if_pos (by decide)];refine af (FC (s:={s with heap:=s.heap.push {cls:=.type "dict",data:=.dict #[]}}) hl1 hh λh' tk kp=>?_);rw[if_pos (by rfl)];refine aB (O1.keeps kp) λO2 E2=>?_;refine af (jX ?_);refine af (wpAny_pyIter_list (items:=vs.toArray) ⟨_,(O2.wd.froz _ _ gl),rfl,m,rfl⟩ ?_);have ho2:=kp _ _ ho;refine aB (eQ {cls:=.type "list_iterator",data:=.fields #[.ref l,.int 0 0]} O2) λO3 E3=>?_;have ho3:(h'.push {cls:=.type "list_iterator",data:=.fields #[.ref l,.int 0 0]}).get? s.heap.objs.size=some (fJ [] 0):=Heap.get?_push_of_some _ ho2;have kAll:∀b o,s.heap.get? b=some o→(h'.push {cls:=.type "list_iterator",data:=.fields #[.ref l,.int 0 0]}).get? b=some o:=λb o e=>Heap.get?_push_of_some _ (kp b o (Heap.get?_push_of_some _ e));have frI:s.heap.get? h'.objs.size=none:=by
  induction q:s.heap.get? h'.objs.size with
  |none=>rfl
  |some o=>exact absurd (Heap.lt_size (kp _ _ (Heap.get?_push_of_some _ q))) (g9 _)
 refine aB (O.wd.no frI) λhgI htI=>?_;refine ap ⟨wf gV _,?_⟩;refine Hy (A:=A.in1) (hB:=s.heap) (by show A.units+1+64<_;exact nw [_,_] (.d (.s (.a yA (.k 80))) yB .n) (.s (.a (.s yA) (.k 64))) yB rfl hu) hh gl (λq=>g9 _ (q▸Heap.lt_size ho2):s.heap.objs.size≠h'.objs.size) fr frI (λb hb=>?_) .none ds ps 0 _ [] [] 0 kvs e1 e2 (by simpa using ra) O3 kAll (iw _ (Heap.get?_push_size _ rfl) rfl rfl) ho3 .nil ⟨.nil,.inl rfl,by simp⟩ rfl λh4 tk4 es4 n4 O4 k4 ho4 hr4 hd4=>?_
 ·rcases aA.mp hb with rfl|hb
  ·exact⟨hg,ht,hp⟩
  ·refine ae.mp hb ..▸?_;exact⟨hgI,htI,(hY O.fr frI)⟩
 ·have hsys:(s.heap.objs.size==iW)=false:=by
   refine aY T.sysm λo e=>?_;exact beq_eq_false_iff_ne.mpr (jU (Heap.lt_size (qy (s:=s) O.wd _ _ e):iW<s.heap.objs.size))
  exact⟨rfl,hQ _ h4 tk4 G θ O4 (zp es4 n4 ho4 hr4 hd4 hsys) fr hg ht hp (.of_keeps k4)⟩
end
noncomputable def PT:Stmt→Option PySem.DefRec
 |.FunctionDef name args body _ _ _ scope _ _ pos=>some ⟨name,args,body,scope,pos⟩
 |_=>none
noncomputable def Hz:List PySem.DefRec:=PySem.Challenge.pw_xm0110_01.main.body.filterMap PT
noncomputable def bm(f:Str):Option sr:=(Hz.find? λr=>r.name==f).map λr=>⟨r.params.args.map (·.arg),r.body,r.scope.names⟩
theorem sQ(a b:String):(ofString a=ofString b)=(a=b):=by
 apply propext
 constructor
 ·intro h;rw[Str.ofString_eq_toList,Str.ofString_eq_toList]at h;have h:=congrArg (λs:Str=>s.cps.toList) h;simp only at h;exact String.toList_inj.mp ((List.map_inj_right (λa b h=>Char.ext (UInt32.toNat_inj.mp h):Function.Injective Char.toNat)).mp h)
 ·rintro rfl;rfl
theorem gp(a b:String):(ofString a==ofString b)=(a==b):=by
 by_cases h:a=b
 ·subst h;simp
 ·have h':ofString a≠ofString b:=λe=>h ((sQ a b)▸e);exact (by simpa using h':(ofString a==ofString b)=false) ..▸(by simpa using h:(a==b)=false) ..▸rfl
inductive Nm where
 |x|y|z|a_|b_|c_
 deriving DecidableEq,Inhabited
noncomputable def Nm.str:Nm→Str
 |.x=>ofString "x"|.y=>ofString "y"|.z=>ofString "z"|.a_=>ofString "a_"|.b_=>ofString "b_"|.c_=>ofString "c_"
set_option genInjectivity true in
set_option genSizeOfSpec true in
inductive T where
 |num (i:Int)
 |sym (x:Nm)
 |sum (ts:List T)
 |prod (ts:List T)
 |pow (b:T) (i:Int)
 |call (t:T)
 deriving Inhabited
noncomputable def dl(i:Int):ab:=.tuple [.str (ofString "num"),.int i,.int 1]
mutual
noncomputable def a9:T→ab
 |.num i=>dl i
 |.sym x=>.tuple [.str (ofString "sym"),.str x.str]
 |.sum ts=>.tuple [.str (ofString "sum"),.tuple (aL ts)]
 |.prod ts=>.tuple [.str (ofString "prod"),.tuple (aL ts)]
 |.pow b i=>.tuple [.str (ofString "pow"),a9 b,dl i]
 |.call t=>.tuple [.str (ofString "call"),.str (ofString "f"),.tuple [a9 t]]
noncomputable def aL:List T→List ab
 | []=> []
 |t::r=>a9 t::aL r
end
theorem pG:(aL []= [])∧(∀(t:T)(r:List T),aL (t::r)=a9 t::aL r):=⟨rfl,λ_ _=>rfl⟩
theorem fy:(∀(i:Int),a9 (T.num i)=dl i)∧(∀(x_1:Nm),a9 (T.sym x_1)=dB [e9 (Str.ofString "sym"),e9 x_1.str])∧(∀(ts:List T),a9 (T.sum ts)=dB [e9 (Str.ofString "sum"),dB (aL ts)])∧(∀(ts:List T),a9 (T.prod ts)=dB [e9 (Str.ofString "prod"),dB (aL ts)])∧(∀(b:T)(i:Int),a9 (b.pow i)=dB [e9 (Str.ofString "pow"),a9 b,dl i])∧(∀(t:T),a9 t.call=dB [e9 (Str.ofString "call"),e9 (Str.ofString "f"),dB [a9 t]]):=⟨λ_=>rfl,λ_=>rfl,λ_=>rfl,λ_=>rfl,λ_ _=>rfl,λ_=>rfl⟩
theorem jm:∀ts:List T,aL ts=ts.map a9
 | []=>rfl
 |t::r=>by rw[pG.2,jm r];rfl
theorem Nm.str_ok(x:Nm):bW x.str=true:=by induction x using Nm.casesOn<;>decide+kernel
theorem xN{x y:Nm}:(x.str=y.str)=(x=y):=by
 induction x using Nm.casesOn<;>induction y using Nm.casesOn<;>simp[Nm.str,sQ]
mutual
theorem qz:∀t:T,bT (a9 t)=true
 |.num i=>by simp only[fy,dl,jF,hX,kK];decide+kernel
 |.sym x=>by
  simp[fy,jF,hX,x.str_ok,(by decide+kernel:bW (ofString "sym")=true)]
 |.sum ts=>by
  simp[fy,jF,hX,rK ts,(by decide+kernel:bW (ofString "sum")=true)]
 |.prod ts=>by
  simp[fy,jF,hX,rK ts,(by decide+kernel:bW (ofString "prod")=true)]
 |.pow b i=>by
  simp[fy,dl,jF,hX,qz b,(by decide+kernel:bW (ofString "pow")=true),(by decide+kernel:bW (ofString "num")=true)]
 |.call t=>by
  simp[fy,jF,hX,qz t,(by decide+kernel:bW (ofString "call")=true),(by decide+kernel:bW (ofString "f")=true)]
theorem rK:∀ts:List T,il (aL ts)=true
 | []=>rfl
 |t::r=>by simp[pG,hX,qz t,rK r]
end
theorem jo(x y:Str):aO (.str x) (.str y)=(x==y):=rfl
theorem lN(x y:Int):aO (.int x) (.int y)=(x==y):=rfl
theorem jp(x y:List ab):aO (.tuple x) (.tuple y)=cN x y:=rfl
theorem fW(a b:ab)(x y:List ab):cN (a::x) (b::y)=(aO a b&&cN x y):=rfl
theorem jq:cN [] []=true:=rfl
theorem kW(b:ab)(y:List ab):cN [] (b::y)=false:=rfl
theorem kX(b:ab)(y:List ab):cN (b::y) []=false:=rfl
mutual
theorem vL:∀a b:T,aO (a9 a) (a9 b)=true→a=b
 |.num i,b=>λh=>by
  induction b using T.casesOn<;>simp[fy,dl,jo,lN,jp,fW,jq,kW,kX,gp]at h
  exact h ..▸rfl
 |.sym x,b=>λh=>by
  induction b using T.casesOn<;>simp[fy,dl,jo,lN,jp,fW,jq,kW,kX,gp]at h
  rw[xN]at h;exact h ..▸rfl
 |.sum ts,b=>λh=>by
  induction b using T.casesOn<;>simp[fy,dl,jo,lN,jp,fW,jq,kW,kX,gp]at h
  rename_i us;exact wy ts us h ..▸rfl
 |.prod ts,b=>λh=>by
  induction b using T.casesOn<;>simp[fy,dl,jo,lN,jp,fW,jq,kW,kX,gp]at h
  rename_i us;exact wy ts us h ..▸rfl
 |.pow c i,b=>λh=>by
  induction b using T.casesOn<;>simp[fy,dl,jo,lN,jp,fW,jq,kW,kX,gp]at h
  rename_i d j;exact vL c d h.1 ..▸h.2 ..▸rfl
 |.call t,b=>λh=>by
  induction b using T.casesOn<;>simp[fy,dl,jo,lN,jp,fW,jq,kW,kX,gp]at h
  rename_i u;exact vL t u h ..▸rfl
termination_by a=>sizeOf a
theorem wy:∀a b:List T,cN (aL a) (aL b)=true→a=b
 | [],[]=>λ_=>rfl
 | [],t::r=>λh=>by simp[pG,kW,kX]at h
 |t::r,[]=>λh=>by simp[pG,kW,kX]at h
 |t::r,u::q=>λh=>by
  simp only[pG,fW,ay]at h;exact vL t u h.1 ..▸wy r q h.2 ..▸rfl
termination_by a=>sizeOf a
end
noncomputable def sR(a b:Int):Int:=if a=b then 0 else if a<b then-1 else 1
noncomputable def rL(a b:Int):Int:=if a=0 then b else a
noncomputable def mj:List Int→List Int→Int
 | [],[]=>0
 | [],_::_=> -1
 |_::_,[]=>1
 |a::x,b::y=>rL (sR a b) (mj x y)
theorem eH(a b:Int)(x y:List Int):mj (a::x) (b::y)=rL (sR a b) (mj x y):=rfl
theorem kY:mj [] []=0:=rfl
theorem kZ(b:Int)(y:List Int):mj [] (b::y)= -1:=rfl
theorem k0(a:Int)(x:List Int):mj (a::x) []=1:=rfl
theorem lO(a:Int):sR a a=0:=by simp[sR]
theorem KK(a b:Int):sR b a= -sR a b:=by unfold sR;split<;>split<;>(try split)<;>omega
theorem M2{a b:Int}(h:sR a b=0):a=b:=by unfold sR at h;split at h<;>(try split at h)<;>omega
theorem yH(a b c:Int):rL (rL a b) c=rL a (rL b c):=by unfold rL;split<;>simp_all
theorem sS(a:Int):rL a 0=a:=by unfold rL;split<;>simp_all
theorem ki(a:Int):rL 0 a=a:=by simp[rL]
theorem Bi:∀x:List Int,mj x x=0
 | []=>rfl
 |a::x=>by rw[eH,lO,ki,Bi x]
theorem Em:∀x y:List Int,mj y x= -mj x y
 | [],[]=>rfl
 | [],_::_=>rfl
 |_::_,[]=>rfl
 |a::x,b::y=>by
  rw[eH,eH,Em x y,KK a b];unfold rL;split<;>split<;>omega
theorem yI:∀x y z:List Int,mj x y≤0→mj y z≤0→mj x z≤0
 | [],[],_,_,h=>h
 | [],_::_,[],_,h=>by simp[eH,kY,kZ,k0]at h
 | [],_::_,_::_,_,_=>by simp[eH,kY,kZ,k0]
 |_::_,[],_,h,_=>by simp[eH,kY,kZ,k0]at h
 |_::_,_::_,[],_,h=>by simp[eH,kY,kZ,k0]at h
 |a::x,b::y,c::z,h,k=>by
  rw[eH]at h k⊢;have ih:=yI x y z;unfold rL sR at*;split at h<;>split at k<;>(repeat' split)<;>(try split at h)<;>(try split at k)<;>(try simp_all)<;>omega
noncomputable def PF(x y:List Int):Prop:=∀u v,mj (x++u) (y++v)=rL (mj x y) (mj u v)
theorem PF.nil:PF [] []:=λu v=>by simp[eH,kY,kZ,k0,ki]
theorem PF.cons{a b:Int}{x y:List Int}(h:a=b→PF x y):PF (a::x) (b::y):=λu v=>by
 rw[ck,ck,eH,eH]
 by_cases e:a=b
 ·exact h e u v ..▸yH ..▸rfl
 ·have:sR a b≠0:=λq=>e (M2 q);simp[rL,this]
theorem PF.app{x y x' y':List Int}(h:PF x y)(h':PF x' y'):PF (x++x') (y++y'):=λu v=>by
 exact(aw ..).symm▸(aw ..).symm▸(h ..).symm▸(h' ..).symm▸(h ..).symm▸(yH ..).symm▸rfl
structure Cs where
 n:Option Int
 code:List Int
 fc:List Int
 bc:List Int
noncomputable def gj(l:List Cs):List Int:=l.flatMap (λc=>0::c.code)++ [1]
noncomputable def En(l:List Cs):List Int:=(l.filter (·.n.isNone)).flatMap (λc=>0::c.fc)++ [1]
noncomputable def zG:List Cs→Int
 |c::_=>c.n.getD 1
 | []=>1
noncomputable def Nm.ix:Nm→Int
 |.a_=>0|.b_=>1|.c_=>2|.x=>3|.y=>4|.z=>5
noncomputable def oa(b:List Int)(i:Int):List Int:=0::0::((b++ [-i])++ [1,1])
mutual
noncomputable def cs:T→Cs
 |.num i=>⟨some i,[1,i],[4,i,-1],[4,i]⟩
 |.sym x=>⟨none,oa [0,x.ix] 1,[0,x.ix]++ [-1],[0,x.ix]⟩
 |.sum ts=>⟨none,oa (2::gj (vt ts)) 1,(2::gj (vt ts))++ [-1],2::gj (vt ts)⟩
 |.prod ts=>⟨none,0::(En (vt ts)++ [zG (vt ts)]),(3::gj (vt ts))++ [-1],3::gj (vt ts)⟩
 |.pow b i=>⟨none,oa (cs b).bc i,(cs b).bc++ [-i],5::gj [cs b,⟨some i,[1,i],[4,i,-1],[4,i]⟩]⟩
 |.call t=>⟨none,oa (1::gj [cs t]) 1,(1::gj [cs t])++ [-1],1::gj [cs t]⟩
noncomputable def vt:List T→List Cs
 | []=> []
 |t::r=>cs t::vt r
end
theorem Om:(vt []= [])∧(∀(t:T)(r:List T),vt (t::r)=cs t::vt r):=⟨rfl,λ_ _=>rfl⟩
theorem M3:(∀(i:Int),cs (T.num i)={n:=some i,code:= [1,i],fc:= [4,i,-1],bc:= [4,i]})∧(∀(x_1:Nm),cs (T.sym x_1)={n:=none,code:=oa [0,x_1.ix] 1,fc:= [0,x_1.ix]++ [-1],bc:= [0,x_1.ix]})∧(∀(ts:List T),cs (T.sum ts)={n:=none,code:=oa (2::gj (vt ts)) 1,fc:=2::gj (vt ts)++ [-1],bc:=2::gj (vt ts)})∧(∀(ts:List T),cs (T.prod ts)={n:=none,code:=0::(En (vt ts)++ [zG (vt ts)]),fc:=3::gj (vt ts)++ [-1],bc:=3::gj (vt ts)})∧(∀(b:T)(i:Int),cs (b.pow i)={n:=none,code:=oa (cs b).bc i,fc:=(cs b).bc++ [-i],bc:=5::gj [cs b,{n:=some i,code:= [1,i],fc:= [4,i,-1],bc:= [4,i]}]})∧(∀(t:T),cs t.call={n:=none,code:=oa (1::gj [cs t]) 1,fc:=1::gj [cs t]++ [-1],bc:=1::gj [cs t]}):=⟨λ_=>rfl,λ_=>rfl,λ_=>rfl,λ_=>rfl,λ_ _=>rfl,λ_=>rfl⟩
theorem qA:∀ts:List T,vt ts=ts.map cs
 | []=>rfl
 |t::r=>by rw[Om.2,qA r];rfl
noncomputable def x9{α:Type}(c:α→α→Int):List α→List α→Int
 | [],[]=>0
 | [],_::_=>1
 |_::_,[]=> -1
 |a::x,b::y=>rL (c a b) (x9 c x y)
theorem od{f:Cs→List Int}:∀ {l m:List Cs},(∀c∈l,∀d∈m,PF (f c) (f d))→PF (l.flatMap (λc=>0::f c)++ [1]) (m.flatMap (λc=>0::f c)++ [1])∧
  mj (l.flatMap (λc=>0::f c)++ [1]) (m.flatMap (λc=>0::f c)++ [1])=x9 (λc d=>mj (f c) (f d)) l m
 | [],[],_=>⟨.cons λ_=>.nil,rfl⟩
 | [],d::m,_=>⟨.cons λe=>absurd e (by decide),rfl⟩
 |c::l,[],_=>⟨.cons λe=>absurd e (by decide),rfl⟩
 |c::l,d::m,h=>by
  have h0:=h c (.head _) d (.head _);have⟨i1,i2⟩:=od (l:=l) (m:=m) λc hc d hd=>h c (.tail _ hc) d (.tail _ hd);simp only[co,aw,ck]at i1 i2⊢;refine⟨.cons λ_=>h0.app i1,?_⟩;rw[eH,lO,ki,h0,i2];rfl
theorem wz{α β:Type}(f:α→β)(c:β→β→Int):∀l m:List α,x9 c (l.map f) (m.map f)=x9 (λa b=>c (f a) (f b)) l m
 | [],[]=>rfl
 | [],_::_=>rfl
 |_::_,[]=>rfl
 |a::x,b::y=>congrArg (rL (c (f a) (f b))) (wz f c x y)
theorem PF.base{b c:List Int}{i j:Int}(h:PF b c):PF (b++ [-i]) (c++ [-j]):=h.app (.cons λ_=>.nil)
theorem PF.heads{a b:Int}{x y:List Int}(h:a≠b):PF (a::x) (b::y):=.cons λe=>absurd e h
noncomputable def T.isNum:T→Bool
 |.num _=>true
 |_=>false
noncomputable def bf:T→List T
 |.prod ts=>ts.filter λt=>!t.isNum
 |t=> [t]
noncomputable def fv:T→Int
 |.prod (.num i::_)=>i
 |_=>1
noncomputable def be:T→T×Int
 |.pow b i=>(b,i)
 |t=>(t,1)
theorem PU(t:T):(cs t).n.isNone=!t.isNum:=by induction t using T.casesOn<;>rfl
theorem HA:∀ts:List T,zG (vt ts)=fv (.prod ts)
 | []=>rfl
 |t::r=>by induction t using T.casesOn<;>rfl
theorem oe{t:T}(h:t.isNum=false):(cs t).code=0::((((bf t).map cs).flatMap (λc=>0::c.fc)++ [1])++ [fv t]):=by
 induction t using T.casesOn with
 |num i=>exact m7 h
 |prod ts=>
  have e:(vt ts).filter (λc=>c.n.isNone)=(ts.filter λt=>!t.isNum).map cs:=by
   refine(qA ..).symm▸(List.filter_map ..).symm▸?_
   congr 1
   exact vm λt _=>PU t
  show 0::(En (vt ts)++ [zG (vt ts)])=_;rw[En,e,HA];rfl
 |_=>simp[M3,oa,bf,fv]
theorem Eo(t:T):(cs t).fc=(cs (be t).1).bc++ [-(be t).2]:=by induction t using T.casesOn<;>rfl
structure PV (s t:T):Prop where
 code:PF (cs s).code (cs t).code
 fc:PF (cs s).fc (cs t).fc
 bc:PF (cs s).bc (cs t).bc
theorem tW{s:T}(hbc:∀t,PF (cs s).bc (cs t).bc)(hb:∀b i,s=.pow b i→∀t,PF (cs b).bc (cs t).bc)(hp:∀ts,s=.prod ts→∀a∈ts,∀t,PF (cs a).fc (cs t).fc)(t:T):PV s t:=by
 have hfc:∀t,PF (cs s).fc (cs t).fc:=λt=>by
  refine Eo s ..▸Eo t ..▸?_;refine .base ?_
  induction s using T.casesOn with
  |pow b i=>exact hb b i rfl _
  |_=>exact hbc _
 refine⟨?_,hfc t,hbc t⟩
 by_cases h1:s.isNum=true
 ·induction s using T.casesOn<;>first|exact nsN h1|exact dC h1|cases h1|skip
  by_cases h2:t.isNum=true
  ·induction t using T.casesOn<;>first|exact nsN h2|exact dC h2|cases h2|skip
   exact .cons λ_=>.cons λ_=>.nil
  ·refine oe (t:=t) (by simpa using h2) ..▸?_;exact .heads (by decide)
 refine oe (t:=s) (by simpa using h1) ..▸?_
 by_cases h2:t.isNum=true
 ·induction t using T.casesOn<;>first|exact nsN h2|exact dC h2|cases h2|skip
  exact .heads (by decide)
 refine oe (t:=t) (by simpa using h2) ..▸?_;refine .cons λ_=>.app (od (f:=(·.fc)) λc hc d hd=>?_).1 (.cons λ_=>.nil);refine aG (List.mem_map.mp hc) λa ha z1=>?_;obtain rfl:=z1;refine aG (List.mem_map.mp hd) λb _ z2=>?_;obtain rfl:=z2
 induction s using T.casesOn with
 |prod ts=>exact hp ts rfl a (List.mem_filter.mp ha).1 b
 |_=>refine ae.mp ha ..▸?_;exact hfc b
mutual
theorem L4:∀s t:T,PV s t
 |.num i=>tW (λt=>by induction t using T.casesOn<;>first|exact .heads (by decide)|exact .cons λ_=>.cons λ_=>.nil) (λ_ _ e=>by cases e) (λ_ e=>by cases e)
 |.sym x=>tW (λt=>by induction t using T.casesOn<;>first|exact .heads (by decide)|exact .cons λ_=>.cons λ_=>.nil) (λ_ _ e=>by cases e) (λ_ e=>by cases e)
 |.sum ts=>tW (λt=>by
   induction t using T.casesOn<;>first|exact .heads (by decide)|skip
   exact .cons λ_=>(od (f:=(·.code)) λc hc d hd=>by
    rw[qA]at hc hd;refine aG (List.mem_map.mp hc) λs hs z3=>?_;obtain rfl:=z3;refine aG (List.mem_map.mp hd) λu hu z4=>?_;obtain rfl:=z4;exact(KM ts s hs u).code).1) (λ_ _ e=>by cases e) (λ_ e=>by cases e)
 |.prod ts=>tW (λt=>by
   induction t using T.casesOn<;>first|exact .heads (by decide)|skip
   exact .cons λ_=>(od (f:=(·.code)) λc hc d hd=>by
    rw[qA]at hc hd;refine aG (List.mem_map.mp hc) λs hs z5=>?_;obtain rfl:=z5;refine aG (List.mem_map.mp hd) λu hu z6=>?_;obtain rfl:=z6;exact(KM ts s hs u).code).1) (λ_ _ e=>by cases e) (λus e a ha t=>by cases e;exact(KM ts a ha t).fc)
 |.pow b i=>tW (λt=>by
   induction t using T.casesOn<;>first|exact .heads (by decide)|skip
   rename_i c j;refine .cons λ_=>?_;simp only[gj,co,iC,aF,aw,ck];exact .cons λ_=>(L4 b c).code.app (.cons λ_=>.cons λ_=>.cons λ_=>.cons λ_=>.nil)) (λc j e t=>by cases e;exact(L4 b t).bc) (λ_ e=>by cases e)
 |.call u=>tW (λt=>by
   induction t using T.casesOn<;>first|exact .heads (by decide)|skip
   rename_i v;refine .cons λ_=>?_;simp only[gj,co,iC,aF,ck];exact .cons λ_=>(L4 u v).code.app (.cons λ_=>.nil)) (λ_ _ e=>by cases e) (λ_ e=>by cases e)
theorem KM:∀(ts:List T)(s:T),s∈ts→∀t,PV s t
 | [],_,h,_=>by exact cg h
 |t::r,s,h,u=>by
  refine(aA.mp h).elim (λe=>?_) λh=>?_
  ·refine e ..▸?_;exact L4 t u
  ·exact KM r s h u
end
noncomputable def f0(s t:T):Int:=mj (cs s).code (cs t).code
noncomputable def ml(s t:T):Int:=mj (cs s).fc (cs t).fc
noncomputable def wA(s t:T):Int:=mj (cs s).bc (cs t).bc
theorem HB(i j:Int):f0 (.num i) (.num j)=sR i j:=by
 simp[f0,M3,eH,kY,kZ,k0,lO,ki,sS]
theorem FE{i:Int}{t:T}(h:t.isNum=false):f0 (.num i) t=1:=by
 unfold f0;refine oe h ..▸?_;rfl
theorem FF{i:Int}{t:T}(h:t.isNum=false):f0 t (.num i)= -1:=by
 unfold f0;refine oe h ..▸?_;rfl
theorem FG{s t:T}(h1:s.isNum=false)(h2:t.isNum=false):f0 s t=rL (x9 ml (bf s) (bf t)) (sR (fv s) (fv t)):=by
 have⟨p,q⟩:=od (f:=(·.fc)) (l:=(bf s).map cs) (m:=(bf t).map cs) λc hc d hd=>by
  refine aG (List.mem_map.mp hc) λa ha z7=>?_;obtain rfl:=z7;refine aG (List.mem_map.mp hd) λb _ z8=>?_;obtain rfl:=z8;exact(L4 a b).fc
 unfold f0;rw[oe h1,oe h2,eH,lO,ki,p,q,wz]
 congr 1
 simp[eH,kY,kZ,k0,sS]
theorem KN(s t:T):ml s t=rL (wA (be s).1 (be t).1) (sR (be t).2 (be s).2):=by
 unfold ml;refine Eo s ..▸Eo t ..▸(L4 (be s).1 (be t).1).bc ..▸?_
 congr 1
 simp only[eH,kY,kZ,k0,sS];unfold sR;split<;>split<;>(try split)<;>(try split)<;>omega
theorem HC(l m:List T):wA (.sum l) (.sum m)=x9 f0 l m:=by
 show mj (2::gj (vt l)) (2::gj (vt m))=_;rw[eH,lO,ki,qA,qA];have:=(od (f:=(·.code)) (l:=l.map cs) (m:=m.map cs) λc hc d hd=>by
  refine aG (List.mem_map.mp hc) λa ha z9=>?_;obtain rfl:=z9;refine aG (List.mem_map.mp hd) λb _ z10=>?_;obtain rfl:=z10;exact(L4 a b).code).2
 unfold gj;refine(this ..).symm▸(wz ..).symm▸?_;rfl
theorem FH(s t:T):wA (.call s) (.call t)=x9 f0 [s] [t]:=by
 show mj (1::gj [cs s]) (1::gj [cs t])=_;rw[eH,lO,ki];have:=(od (f:=(·.code)) (l:= [cs s]) (m:= [cs t]) λc hc d hd=>by
  refine ae.mp hc ..▸ae.mp hd ..▸?_;exact(L4 s t).code).2
 unfold gj;refine this ..▸?_;rfl
theorem HD(x y:Nm):wA (.sym x) (.sym y)=sR x.ix y.ix:=by
 simp[wA,M3,eH,kY,kZ,k0,lO,ki,sS]
theorem NY(s:T):f0 s s=0:=Bi _
theorem HE(s t:T):f0 t s= -f0 s t:=Em _ _
theorem wB{s t u:T}(h:f0 s t≤0)(k:f0 t u≤0):f0 s u≤0:=yI _ _ _ h k
noncomputable def On(s t:T):Bool:=decide (f0 s t≤0)
noncomputable def Qr(x:T)(rest:List T→List T):List T→List T
 | []=>x::rest []
 |y::ys=>if On x y then x::rest (y::ys)else y::Qr x rest ys
noncomputable def hZ:List T→List T→List T
 | []=>id
 |x::xs=>Qr x (hZ xs)
theorem jJ:∀xs:List T,hZ xs []=xs
 | []=>rfl
 |x::xs=>congrArg (x::·) (jJ xs)
theorem og(x y:T)(xs ys:List T):hZ (x::xs) (y::ys)=if On x y then x::hZ xs (y::ys)else y::hZ (x::xs) ys:=rfl
noncomputable def kN:Nat→List T→List T
 |0,ts=>ts
 |k+1,ts=>if ts.length<2 then ts else hZ (kN k (ts.take (ts.length/2))) (kN k (ts.drop (ts.length/2)))
theorem oh:(∀(x:List T),kN 0 x=x)∧(∀(x:List T)(k:Nat),kN k.succ x=if x.length<2 then x else hZ (kN k (List.take (x.length/2) x)) (kN k (List.drop (x.length/2) x))):=⟨λ_=>rfl,λ_ _=>rfl⟩
noncomputable def eK(ts:List T):List T:=kN ts.length ts
theorem oj:∀(k m:Nat)(ts:List T),ts.length≤k→ts.length≤m→kN k ts=kN m ts
 |0,0,_,_,_=>rfl
 |0,m+1,ts,h,_=>by rw[kN,kN,if_pos (by exact nw [_] (.d yA (.k 0) .n) (.s yA) (.k 2) rfl h)]
 |k+1,0,ts,_,h=>by rw[kN,kN,if_pos (by exact nw [_] (.d yA (.k 0) .n) (.s yA) (.k 2) rfl h)]
 |k+1,m+1,ts,h,h'=>by
  rw[oh.2,oh.2];split
  ·rfl
  ·exact oj k m (ts.take (ts.length/2)) (by rw[fb];exact nk [_,_,_,_] (.d yA (.s yB) (.c 2 yC yD (.d (.w 2 yD) yA .n))) 2 yC yB rfl h (dW _ _) (bV _ _)) (by rw[fb];exact nk [_,_,_,_] (.d yA (.s yB) (.c 2 yC yD (.d (.w 2 yD) yA .n))) 2 yC yB rfl h' (dW _ _) (bV _ _)) ..▸oj k m (ts.drop (ts.length/2)) (by rw[cO];exact nk [_,_,_,_] (.c 2 yA (.s yB) (.d (.k 2) yA (.d (.s yA) (.a (.w 2 yC) (.k 2)) (.c 2 (.a yD yC) yA .n)))) 2 yD yB rfl h (cB (by assumption)) (gR (by decide)) (ah (az (nk [_,_] (.d (.w 2 yA) yB .n) 2 yA yB rfl (bV _ _))))) (by rw[cO];exact nk [_,_,_,_] (.c 2 yA (.s yB) (.d (.k 2) yA (.d (.s yA) (.a (.w 2 yC) (.k 2)) (.c 2 (.a yD yC) yA .n)))) 2 yD yB rfl h' (cB (by assumption)) (gR (by decide)) (ah (az (nk [_,_] (.d (.w 2 yA) yB .n) 2 yA yB rfl (bV _ _))))) ..▸rfl
theorem Bj(ts:List T):eK ts=if ts.length<2 then ts else hZ (eK (ts.take (ts.length/2))) (eK (ts.drop (ts.length/2))):=by
 unfold eK
 induction h:ts.length using cZ with
 |zero=>rfl
 |succ k=>
  rw[oh.2,h];split
  ·rfl
  ·exact oj k _ (ts.take ((k+1)/2)) (by rw[fb];exact nk [_,_,_] (.c 2 yA yB (.d (.w 2 yB) (.s yC) .n)) 2 yA yC rfl (dW _ _) (bV _ _)) (ak _) ..▸oj k _ (ts.drop ((k+1)/2)) (by rw[cO];exact nk [_,_,_,_] (.c 2 yA (.s yB) (.d (.k 2) (.s yB) (.d (.s (.s yB)) (.a (.w 2 yC) (.k 2)) (.c 2 (.a yD yC) yA .n)))) 2 yD yB rfl (ah h) (cB (by assumption)) (gR (by decide)) (ah (az (nk [_,_,_] (.c 2 (.s yA) yB (.d (.w 2 yC) (.s yA) .n)) 2 yC yB rfl (ah h.symm) (bV _ _))))) (ak _) ..▸rfl
theorem lP:∀xs ys:List T,(hZ xs ys).Perm (xs++ys)
 | [],ys=>.refl _
 |x::xs,[]=>by refine jJ ..▸?_;simp
 |x::xs,y::ys=>by
  refine og ..▸?_;split
  ·exact .cons _ (lP xs (y::ys))
  ·exact(List.Perm.cons _ (lP (x::xs) ys)).trans List.perm_middle.symm
theorem rM:∀(k:Nat)(ts:List T),(kN k ts).Perm ts
 |0,_=>.refl _
 |k+1,ts=>by
  rw[oh.2];split
  ·exact .refl _
  ·refine(lP _ _).trans ?_;have:=(rM k (ts.take (ts.length/2))).append (rM k (ts.drop (ts.length/2)))
   rwa [hJ]at this
theorem fK(ts:List T):(eK ts).Perm ts:=rM _ _
noncomputable abbrev fX(ts:List T):Prop:=ts.Pairwise λs t=>f0 s t≤0
theorem om:∀xs ys:List T,fX xs→fX ys→fX (hZ xs ys)
 | [],ys,_,h=>h
 |x::xs,[],h,_=>by refine jJ ..▸?_;exact h
 |x::xs,y::ys,h,k=>by
  refine og ..▸?_;have h':=List.pairwise_cons.mp h;have k':=List.pairwise_cons.mp k;split
  ·rename_i q;have q:f0 x y≤0:=of_decide_eq_true q;refine List.pairwise_cons.mpr ⟨λt ht=>?_,om xs (y::ys) h'.2 k⟩;refine(List.mem_append.mp ((lP _ _).mem_iff.mp ht)).elim (λr=>?_) λr=>?_
   ·exact h'.1 t r
   ·rcases aA.mp r with rfl|r
    ·exact q
    ·exact wB q (k'.1 t r)
  ·rename_i q;have q:f0 y x≤0:=by
    have:¬f0 x y≤0:=λe=>q (decide_eq_true e);refine HE x y ..▸?_;omega
   refine List.pairwise_cons.mpr ⟨λt ht=>?_,om (x::xs) ys h k'.2⟩;refine(List.mem_append.mp ((lP _ _).mem_iff.mp ht)).elim (λr=>?_) λr=>?_
   ·rcases aA.mp r with rfl|r
    ·exact q
    ·exact wB q (h'.1 t r)
   ·exact k'.1 t r
theorem sT{ts:List T}(h:ts.length<2):fX ts:=by
 rcases ts with _|⟨t,_|⟨u,ts⟩⟩
 ·exact .nil
 ·exact dI _ _
 ·exact absurd h (Nat.not_lt.mpr (aD 2 _))
theorem oo:∀(k:Nat)(ts:List T),ts.length≤k→fX (kN k ts)
 |0,ts,h=>sT (by rw[oh.1];exact nw [_] (.d yA (.k 0) .n) (.s yA) (.k 2) rfl h)
 |k+1,ts,h=>by
  rw[oh.2];split
  ·exact sT (by assumption)
  ·exact om _ _ (oo k _ (by refine fb ..▸?_;exact nk [_,_,_,_] (.d yA (.s yB) (.c 2 yC yD (.d (.w 2 yD) yA .n))) 2 yC yB rfl h (dW _ _) (bV _ _))) (oo k _ (by refine cO ..▸?_;exact nk [_,_,_,_] (.c 2 yA (.s yB) (.d (.k 2) yA (.d (.s yA) (.a (.w 2 yC) (.k 2)) (.c 2 (.a yD yC) yA .n)))) 2 yD yB rfl h (cB (by assumption)) (gR (by decide)) (ah (az (nk [_,_] (.d (.w 2 yA) yB .n) 2 yA yB rfl (bV _ _))))))
theorem k5(ts:List T):fX (eK ts):=oo _ _ (ak _)
theorem Bk:∀xs ys:List T,(∀x∈xs,∀y∈ys,f0 x y≤0)→hZ xs ys=xs++ys
 | [],ys,_=>rfl
 |x::xs,[],_=>by refine jJ ..▸?_;simp
 |x::xs,y::ys,h=>by
  refine(og ..).symm▸(if_pos (show On x y=true from decide_eq_true (h x (.head _) y (.head _))) ..).symm▸(Bk xs (y::ys) λa ha b hb=>h a (.tail _ ha) b hb ..).symm▸?_;rfl
theorem wC:∀(k:Nat)(ts:List T),fX ts→kN k ts=ts
 |0,_,_=>rfl
 |k+1,ts,h=>by
  rw[oh.2];split
  ·rfl
  ·have h':fX (ts.take (ts.length/2)++ts.drop (ts.length/2)):=by refine hJ ..▸?_;exact h
   have h':=List.pairwise_append.mp h';exact(wC k _ h'.1 ..).symm▸(wC k _ h'.2.1 ..).symm▸(Bk _ _ h'.2.2 ..).symm▸(hJ ..).symm▸rfl
theorem Bl{ts:List T}(h:fX ts):eK ts=ts:=wC _ _ h
mutual
noncomputable def lQ:T→T→Bool
 |.num i,.num j=>i==j
 |.sym x,.sym y=>x==y
 |.sum l,.sum m=>HF l m
 |.prod l,.prod m=>HF l m
 |.pow b i,.pow c j=>lQ b c&&i==j
 |.call s,.call t=>lQ s t
 |_,_=>false
noncomputable def HF:List T→List T→Bool
 | [],[]=>true
 |s::l,t::m=>lQ s t&&HF l m
 |_,_=>false
end
mutual
theorem de:∀t:T,lQ t t=true
 |.num i=>beq_self_eq_true i
 |.sym x=>beq_self_eq_true x
 |.sum l=>tY l
 |.prod l=>tY l
 |.pow b i=>Bool.and_eq_true_iff.mpr ⟨de b,beq_self_eq_true i⟩
 |.call t=>de t
theorem tY:∀l:List T,HF l l=true
 | []=>rfl
 |t::l=>Bool.and_eq_true_iff.mpr ⟨de t,tY l⟩
end
mutual
theorem iy:∀s t:T,lQ s t=true→s=t
 |.num i,t=>by induction t using T.casesOn<;>first|exact dC|exact λh=>congrArg T.num (beq_iff_eq.mp h)
 |.sym x,t=>by induction t using T.casesOn<;>first|exact dC|exact λh=>congrArg T.sym (beq_iff_eq.mp h)
 |.sum l,t=>by induction t using T.casesOn<;>first|exact dC|exact λh=>congrArg T.sum (zH l _ h)
 |.prod l,t=>by induction t using T.casesOn<;>first|exact dC|exact λh=>congrArg T.prod (zH l _ h)
 |.pow b i,t=>by induction t using T.casesOn<;>first|exact dC|exact λh=>congr (congrArg T.pow (iy b _ (Bool.and_eq_true_iff.mp h).1)) (beq_iff_eq.mp (Bool.and_eq_true_iff.mp h).2)
 |.call u,t=>by induction t using T.casesOn<;>first|exact dC|exact λh=>congrArg T.call (iy u _ h)
theorem zH:∀l m:List T,HF l m=true→l=m
 | [],m=>by induction m using am<;>first|exact dC|exact λ_=>rfl
 |s::l,m=>by induction m using am<;>first|exact dC|exact λh=>congr (congrArg List.cons (iy s _ (Bool.and_eq_true_iff.mp h).1)) (zH l _ (Bool.and_eq_true_iff.mp h).2)
end
theorem Pi{s t:T}:lQ s t=true↔s=t:=⟨iy s t,λh=>h▸de s⟩
theorem oq{s t:T}(h:s≠t):lQ s t=false:=by
 induction q:lQ s t with
 |false=>rfl
 |true=>exact absurd (iy s t q) h
mutual
theorem sU:∀t:T,aO (a9 t) (a9 t)=true
 |.num i=>by simp[fy,dl,jo,lN,jp,fW,jq]
 |.sym x=>by simp[fy,jo,jp,fW,jq]
 |.sum l=>by simp[fy,jo,jp,fW,jq,tZ l]
 |.prod l=>by simp[fy,jo,jp,fW,jq,tZ l]
 |.pow b i=>by simp[fy,dl,jo,lN,jp,fW,jq,sU b]
 |.call t=>by simp[fy,jo,jp,fW,jq,sU t]
theorem tZ:∀l:List T,cN (aL l) (aL l)=true
 | []=>rfl
 |t::l=>by simp[pG,fW,sU t,tZ l]
end
theorem mE(s t:T):aO (a9 s) (a9 t)=lQ s t:=by
 induction q:lQ s t with
 |true=>refine(iy s t q ..).symm▸?_;exact sU t
 |false=>
  induction r:aO (a9 s) (a9 t)with
  |false=>rfl
  |true=>rw[vL s t r,de]at q;exact m7 q
mutual
noncomputable def T.dp:T→Nat
 |.num _=>1
 |.sym _=>1
 |.sum l=>k6 l+2
 |.prod l=>k6 l+2
 |.pow b _=>max b.dp 1+1
 |.call t=>t.dp+2
noncomputable def k6:List T→Nat
 | []=>0
 |t::l=>max t.dp (k6 l)
end
theorem pH:(k6 []=0)∧(∀(t:T)(r:List T),k6 (t::r)=max t.dp (k6 r)):=⟨rfl,λ_ _=>rfl⟩
theorem cA:(∀(i:Int),(T.num i).dp=1)∧(∀(x_1:Nm),(T.sym x_1).dp=1)∧(∀(ts:List T),(T.sum ts).dp=k6 ts+2)∧(∀(ts:List T),(T.prod ts).dp=k6 ts+2)∧(∀(b:T)(i:Int),(b.pow i).dp=max b.dp 1+1)∧(∀(t:T),t.call.dp=t.dp+2):=⟨λ_=>rfl,λ_=>rfl,λ_=>rfl,λ_=>rfl,λ_ _=>rfl,λ_=>rfl⟩
mutual
theorem ni:∀t:T,(a9 t).depth=t.dp
 |.num i=>rfl
 |.sym x=>rfl
 |.sum l=>by simp[fy,ed,cf,cA,ou l]
 |.prod l=>by simp[fy,ed,cf,cA,ou l]
 |.pow b i=>by simp[fy,dl,ed,cf,cA,ni b]
 |.call t=>by simp[fy,ed,cf,cA,ni t]
theorem ou:∀l:List T,cf (aL l)=k6 l
 | []=>rfl
 |t::l=>by simp[pG,cf,pH,ni t,ou l]
end
theorem fL{l:List T}{k:Nat}:k6 l≤k↔∀t∈l,t.dp≤k:=by
 induction l with
 |nil=>simp[pH]
 |cons t l ih=>simp[pH,Nat.max_le,ih]
mutual
theorem ow:∀t:T,(a9 t).canLay0=true
 |.num i=>by simp only[fy,dl,bN,bo,kK];decide+kernel
 |.sym x=>by
  simp[fy,bN,bo,x.str_ok,(by decide+kernel:bW (ofString "sym")=true)]
 |.sum ts=>by
  simp[fy,bN,bo,mF ts,(by decide+kernel:bW (ofString "sum")=true)]
 |.prod ts=>by
  simp[fy,bN,bo,mF ts,(by decide+kernel:bW (ofString "prod")=true)]
 |.pow b i=>by
  simp[fy,dl,bN,bo,ow b,(by decide+kernel:bW (ofString "pow")=true),(by decide+kernel:bW (ofString "num")=true)]
 |.call t=>by
  simp[fy,bN,bo,ow t,(by decide+kernel:bW (ofString "call")=true),(by decide+kernel:bW (ofString "f")=true)]
theorem mF:∀ts:List T,bo (aL ts)=true
 | []=>rfl
 |t::r=>by simp[pG,bo,ow t,mF r]
end
theorem ia{t:T}(h:t.dp≤64):SeqAt.shaped (a9 t)=true:=by
 unfold SeqAt.shaped;refine(ow ..).symm▸(ni ..).symm▸?_;simpa using h
theorem KO{s t:T}(hs:s.dp≤64)(ht:t.dp≤64):Fn (a9 s) (a9 t)=some (lQ s t):=by
 unfold Fn;refine(ia hs ..).symm▸(ia ht ..).symm▸(mE ..).symm▸?_;rfl
noncomputable def Sm(i:Int):Prop:=i.natAbs<2^64
noncomputable def er:T→Bool
 |.sym _=>true
 |.call _=>true
 |.sum _=>true
 |_=>false
mutual
noncomputable def Gd:T→Prop
 |.num i=>Sm i
 |.sym _=>True
 |.sum ts=>Bm ts∧ts.length≤1000
 |.prod ts=>Bm ts∧ts.length≤1000∧ts≠ []∧∀t∈ts,er t=true∨(∃b i,t=.pow b i)∨∃i,t=.num i
 |.pow b i=>Gd b∧er b=true∧Sm i
 |.call t=>Gd t
noncomputable def Bm:List T→Prop
 | []=>True
 |t::r=>Gd t∧Bm r
end
theorem L5:(Bm []=True)∧(∀(t:T)(r:List T),Bm (t::r)=(Gd t∧Bm r)):=⟨rfl,λ_ _=>rfl⟩
theorem jr:∀ {ts:List T},Bm ts↔∀t∈ts,Gd t
 | []=>by simp[L5]
 |t::r=>by simp[L5,jr (ts:=r)]
mutual
noncomputable def T.ht:T→Nat
 |.num _=>0
 |.sym _=>0
 |.sum l=>tO l+1
 |.prod l=>tO l
 |.pow b _=>b.ht
 |.call t=>t.ht+1
noncomputable def tO:List T→Nat
 | []=>0
 |t::l=>max t.ht (tO l)
end
theorem Bn:(tO []=0)∧(∀(t:T)(r:List T),tO (t::r)=max t.ht (tO r)):=⟨rfl,λ_ _=>rfl⟩
theorem qp:(∀(i:Int),(T.num i).ht=0)∧(∀(x_1:Nm),(T.sym x_1).ht=0)∧(∀(ts:List T),(T.sum ts).ht=tO ts+1)∧(∀(ts:List T),(T.prod ts).ht=tO ts)∧(∀(b:T)(i:Int),(b.pow i).ht=b.ht)∧(∀(t:T),t.call.ht=t.ht+1):=⟨λ_=>rfl,λ_=>rfl,λ_=>rfl,λ_=>rfl,λ_ _=>rfl,λ_=>rfl⟩
theorem t7{l:List T}{k:Nat}:tO l≤k↔∀t∈l,t.ht≤k:=by
 induction l with
 |nil=>simp[Bn]
 |cons t l ih=>simp[Bn,Nat.max_le,ih]
noncomputable def okS(x:Str):Bool:=x.cps.toList.all λc=>Nat.blt c 0x110000
theorem C6{x:Str}(h:okS x=true):bW x=true:=by
 unfold okS at h;unfold bW;refine(Array.all_toList ..)▸?_;simpa[aM,Nat.blt_eq]using h
theorem ox{x:Str}(h:okS x=true):SeqAt.shaped (.str x)=true:=by
 unfold SeqAt.shaped;simp[bN,ed,(C6 h)]
noncomputable def AP:ab→Bool
 |.str x=>okS x
 |_=>false
theorem rN{d:ab}(h:AP d=true):ci d=true:=by
 induction d using aq<;>first|exact nsN h|exact dC h|cases h|exact C6 h
theorem C7{d:ab}(h:AP d=true):SeqAt.shaped d=true:=by
 induction d using aq<;>first|exact nsN h|exact dC h|cases h|exact ox h
theorem oy(i:Int):SeqAt.shaped (.int i)=true:=by
 unfold SeqAt.shaped;simp[bN,ed]
theorem uW(i:Bool):SeqAt.shaped (.bool i)=true:=by
 unfold SeqAt.shaped;simp[bN,ed]
noncomputable def Bo(x:Str):ab→Bool
 |.str y=>y==x
 |_=>false
noncomputable def wD:List (ab×ab)→Str→Option ab
 | [],_=>none
 |(k,v)::r,x=>match Bo x k with
  |true=>some v
  |false=>wD r x
theorem Bp{x:Str}{d:ab}(h:AP d=true):Bo x d=aO d (.str x):=by
 induction d using aq<;>first|exact nsN h|exact dC h|cases h|rfl
theorem wE{x:Str}:∀ {kvs:List (ab×ab)},(kvs.all λp=>AP p.1)=true→wD kvs x=gE kvs (.str x)
 | [],_=>rfl
 |(k,v)::r,h=>by
  simp only[eV,ay]at h;unfold wD gE;refine(List.find?_cons ..).symm▸(Bp h.1 ..).symm▸?_
  induction aO k (.str x)with
  |true=>rfl
  |false=>exact wE h.2
noncomputable def L6(kvs:List (ab×ab))(i:ab):Option ab:=match i with
 |.str k=>match okS k&&kvs.all λp=>AP p.1 with
  |true=>wD kvs k
  |false=>none
 |_=>none
noncomputable def uX(o i:ab):Option ab:=match o with
 |.list xs=>G9 xs i
 |.tuple xs=>G9 xs i
 |.dict kvs=>L6 kvs i
 |_=>none
theorem HG{kvs:List (ab×ab)}{i r:ab}(h:L6 kvs i=some r):cP kvs i=true∧gE kvs i=some r:=by
 induction i using aq<;>first|exact nsN h|exact dC h|(cases h;done)|skip
 rename_i k;have h:(match okS k&&kvs.all λp=>AP p.1 with|true=>wD kvs k|false=>none)=some r:=h
 induction hq:okS k&&kvs.all λp=>AP p.1<;>rw[hq]at h
 ·exact nsN h
 refine aB (Bool.and_eq_true_iff.mp hq) λh1 h2=>?_;rw[wE h2]at h;refine⟨Bool.or_eq_true_iff.mpr (.inl (Bool.and_eq_true_iff.mpr ⟨C6 h1,aM.mpr λp hp=>rN (aM.mp h2 p hp)⟩)),h⟩
theorem Ep:∃f:CmpOp→ab→ab→Option Bool,f=wk:=⟨_,rfl⟩
noncomputable def nj:CmpOp→ab→ab→Option Bool:=Classical.choose Ep
theorem im:nj=wk:=Classical.choose_spec Ep
theorem Er:∃f:List (ab×ab)→ab→Bool,f=cP:=⟨_,rfl⟩
noncomputable def vx:List (ab×ab)→ab→Bool:=Classical.choose Er
theorem zI:vx=cP:=Classical.choose_spec Er
theorem Bq:∃f:List (ab×ab)→Bool,f=λkvs=>kvs.all λp=>ci p.1:=⟨_,rfl⟩
noncomputable def Br:List (ab×ab)→Bool:=Classical.choose Bq
theorem Bs:Br=λkvs=>kvs.all λp=>ci p.1:=Classical.choose_spec Bq
theorem oA{kvs:List (ab×ab)}{k:ab}(h:vx kvs k=true):cP kvs k=true:=by rw[zI]at h;exact h
theorem Bt{kvs:List (ab×ab)}(h:Br kvs=true):(kvs.all λp=>ci p.1)=true:=by rw[Bs]at h;exact h
noncomputable def PW(op:CmpOp)(f:Bool→Bool)(a b:ab):Option Bool:=match a with
 |.str x=>(match b with
  |.str y=>(match okS x&&okS y with|true=>some (f (x==y))|false=>none)
  |b=>nj op a b)
 |.int x=>(match b with|.int y=>some (f (x==y))|b=>nj op a b)
 |.bool x=>(match b with|.bool y=>some (f (x==y))|b=>nj op a b)
 |a=>nj op a b
noncomputable def PX(op:CmpOp)(f:Bool→Bool)(a b:ab):Option Bool:=match b with
 |.tuple ys=>(match a with
  |.str x=>(match okS x&&ys.all AP with|true=>some (f (ys.any (Bo x)))|false=>none)
  |a=>nj op a b)
 |b=>nj op a b
noncomputable def iI(op:CmpOp)(a b:ab):Option Bool:=match op with
 |.Eq=>PW .Eq (λt=>t) a b
 |.NotEq=>PW .NotEq (λt=>!t) a b
 |.In=>PX .In (λt=>t) a b
 |.NotIn=>PX .NotIn (λt=>!t) a b
 |op=>wk op a b
theorem KP{x:Str}{ys:List ab}(h:ys.all AP=true):ys.any (Bo x)=ys.any λy=>aO y (.str x):=by
 induction ys with
 |nil=>rfl
 |cons y r ih=>
  refine aB (Bool.and_eq_true_iff.mp (eV▸h)) λh1 h2=>?_;exact(gZ ..).symm▸(gZ ..).symm▸(Bp h1 ..).symm▸(ih h2 ..).symm▸rfl
theorem HH{op:CmpOp}{f:Bool→Bool}(hop:∀a b t,SeqAt.shaped a=true→SeqAt.shaped b=true→f (aO a b)=t→wk op a b=some t){a b:ab}{t:Bool}(h:PW op f a b=some t):wk op a b=some t:=by
 have X:∀ {a b},nj op a b=some t→wk op a b=some t:=λh=>by rw[im]at h;exact h
 induction a using aq<;>first|exact X h|skip
 ·induction b using aq<;>first|exact X h|exact hop _ _ t (uW _) (uW _) (Option.some.inj h)
 ·induction b using aq<;>first|exact X h|exact hop _ _ t (oy _) (oy _) (Option.some.inj h)
 ·induction b using aq<;>first|exact X h|skip
  rename_i x y;have h:(match okS x&&okS y with|true=>some (f (x==y))|false=>none)=some t:=h
  induction hq:okS x&&okS y<;>rw[hq]at h
  ·exact nsN h
  refine aB (Bool.and_eq_true_iff.mp hq) λh1 h2=>?_;exact hop _ _ t (ox h1) (ox h2) (Option.some.inj h)
theorem HI{op:CmpOp}{f:Bool→Bool}(hop:∀a ys t,SeqAt.shaped a=true→ys.all SeqAt.shaped=true→f (ys.any λy=>aO y a)=t→wk op a (.tuple ys)=some t){a b:ab}{t:Bool}(h:PX op f a b=some t):wk op a b=some t:=by
 have X:∀ {a b},nj op a b=some t→wk op a b=some t:=λh=>by rw[im]at h;exact h
 induction b using aq<;>first|exact X h|skip
 induction a using aq<;>first|exact X h|skip
 rename_i ys x;have h:(match okS x&&ys.all AP with|true=>some (f (ys.any (Bo x)))|false=>none)=some t:=h
 induction hq:okS x&&ys.all AP<;>rw[hq]at h
 ·exact nsN h
 refine aB (Bool.and_eq_true_iff.mp hq) λh1 h2=>?_;rw[KP h2]at h;exact hop _ _ t (ox h1) (aM.mpr λy hy=>C7 (aM.mp h2 y hy)) (Option.some.inj h)
theorem zJ{c d:Bool}{α:Type}{t e:α}(h1:c=true)(h2:d=true):(if(c&&d)=true then t else e)=t:=if_pos (by refine(h1 ..).symm▸(h2 ..).symm▸?_;rfl)
theorem KQ{op:CmpOp}{a b:ab}{t:Bool}(h:iI op a b=some t):wk op a b=some t:=by
 induction op using CmpOp.casesOn<;>first|exact h|skip
 ·exact HH (op:=.Eq) (f:=λt=>t) (λa b t h1 h2 e=>e▸zJ h1 h2) h
 ·exact HH (op:=.NotEq) (f:=λt=>!t) (λa b t h1 h2 e=>e▸zJ h1 h2) h
 ·exact HI (op:=.In) (f:=λt=>t) (λa ys t h1 h2 e=>e▸zJ h1 h2) h
 ·exact HI (op:=.NotIn) (f:=λt=>!t) (λa ys t h1 h2 e=>e▸congrArg (sv λx=>!x) (zJ h1 h2)) h
noncomputable def t8(σ:fH)(n:Nat):Option bE:=(σ[n]?).join
theorem FI{σ:fH}{n:Nat}{c:bE}(h:t8 σ n=some c):σ[n]?=some (some c):=by
 unfold t8 at h
 induction q:σ[n]? with
 |none=>rw[q]at h;exact nsN h
 |some x=>rw[q]at h;induction x with
  |none=>exact nsN h
  |some y=>obtain rfl:=Option.some.inj h;rfl
noncomputable def C8(n:Nat)(d:ab)(b:Option B):Option B:=match b with
 |some (.l m)=>match mr m n with
  |true=>some (.v d)
  |false=>some (.l m)
 |b=>b
noncomputable def Pj(f:Str)(as:List ab):Option ab:=match f==ofString "max" with
 |true=>Oc as
 |false=>match f==ofString "abs" with
 |true=>one Ob as
 |false=>match f==ofString "min" with
 |true=>Od as
 |false=>match f==ofString "tuple" with
 |true=>Oe as
 |false=>none
noncomputable def KR(op:Operator)(a b:ab):Option ab:=match op with
 |.Add=>rC (λx y=>some (.int (x+y))) a b
 |_=>none
inductive U where
 |d (x:ab)
 |ds (l:List ab)
 |b (x:Bool)
 |n (x:Nat)
 |e (x:B)
 |c (x:B) (σ:fH)
 |f (x:Fl) (s:St)
 |s (l:List ab) (s:St)
 |cl (c:bE)
inductive Tr where
 |ret (u:U)
 |fail
 |opt (o:Option U) (k:U→Tr)
 |bool (b:Bool) (k:Bool→Tr)
 |rel (P:U→Prop) (k:U→Tr)
noncomputable def Tr.sat(R:U→Prop):Tr→Prop
 |.ret u=>R u
 |.fail=>False
 |.opt o k=>∃u,o=some u∧(k u).sat R
 |.bool b k=>(k b).sat R
 |.rel P k=>∃u,P u∧(k u).sat R
structure lR where
 P:Prop
 h:P
 u:U
noncomputable def Tr.go:Tr→List (Nat×lR)→Option (List Prop×U):=
 @Tr.rec (λ_=>List (Nat×lR)→Option (List Prop×U))
  (λu as=>match as with| []=>some ([],u)|_=>none)
  (λ_=>none)
  (λo k ih as=>match as with
   | []=>match o with|some u=>ih u []|none=>none
   |(0,f)::r=>(ih f.u r).map λq=>((o=some f.u)::q.1,q.2)
   |(m+1,f)::r=>match o with|some u=>ih u ((m,f)::r)|none=>none)
  (λb k ih as=>match as with
   | []=>match b with|true=>ih true []|false=>ih false []
   |(0,f)::r=>match f.u with|.b x=>(ih x r).map λq=>((b=x)::q.1,q.2)|_=>none
   |(m+1,f)::r=>match b with|true=>ih true ((m,f)::r)|false=>ih false ((m,f)::r))
  (λP k ih as=>match as with
   |(0,f)::r=>(ih f.u r).map λq=>(P f.u::q.1,q.2)
   |_=>none)
noncomputable def Ps(as:List (Nat×lR)):List Prop:=as.map λa=>a.2.P
theorem Q2{α:Type}{u:U}{g:Bool→Option α}{r:α}(h:(match u with|.b x=>g x|_=>none)=some r):∃x,u=.b x∧g x=some r:=by
 induction u using U.casesOn<;>first|exact nsN h|exact aV _ rfl h
theorem Oo{R:U→Prop}:∀(T:Tr)(as:List (Nat×lR))(ps:List Prop)(u:U),T.go as=some (ps,u)→(∀p∈ps,p)→R u→T.sat R:=by
 intro T
 induction T with
 |ret v=>intro as ps u h hp r;induction as using am with
  |nil=>cases h;exact r
  |cons _ _=>exact nsN h
 |fail=>intro as ps u h;exact nsN h
 |opt o k ih=>intro as ps u h hp r;match as,h with
  | [],h=>induction o with
   |none=>exact nsN h
   |some v=>exact aV v rfl (ih v [] ps u h hp r)
  |(0,f)::t,h=>
   refine aG (aH.mp (show((k f.u).go t).map _=some (ps,u)from h)) λq e h=>?_;cases h
   exact aV f.u (hp _ (.head _)) (ih f.u t _ _ e (λp m=>hp p (.tail _ m)) r)
  |(m+1,f)::t,h=>induction o with
   |none=>exact nsN h
   |some v=>exact aV v rfl (ih v _ ps u h hp r)
 |bool b k ih=>intro as ps u h hp r;match as,h with
  | [],h=>induction b with
   |true=>exact ih true [] ps u h hp r
   |false=>exact ih false [] ps u h hp r
  |(0,f)::t,h=>
   have h:(match f.u with|.b x=>((k x).go t).map λq=>((b=x)::q.1,q.2)|_=>none)=some (ps,u):=h;refine aG (Q2 h) λx _ h=>?_;refine aG (aH.mp h) λq e h=>?_;cases h
   have hb:b=x:=hp _ (.head _);subst hb;exact ih b t _ _ e (λp m=>hp p (.tail _ m)) r
  |(m+1,f)::t,h=>induction b with
   |true=>exact ih true _ ps u h hp r
   |false=>exact ih false _ ps u h hp r
 |rel P k ih=>intro as ps u h hp r;match as,h with
  | [],h=>exact nsN h
  |(0,f)::t,h=>
   refine aG (aH.mp (show((k f.u).go t).map _=some (ps,u)from h)) λq e h=>?_;cases h
   exact aV f.u (hp _ (.head _)) (ih f.u t _ _ e (λp m=>hp p (.tail _ m)) r)
  |(m+1,f)::t,h=>exact nsN h
noncomputable def mX(b:Bool)(t:Tr):Tr:=match b with
 |true=>t
 |false=>.fail
noncomputable def ya(b:Bool)(t e:Tr):Tr:=match b with
 |true=>t
 |false=>e
noncomputable def oB(b:Bool)(t:Tr):Tr:=.bool b λx=>match x with
 |true=>t
 |false=>.fail
noncomputable def GW(b:Bool)(t e:Tr):Tr:=.bool b λx=>match x with
 |true=>t
 |false=>e
noncomputable def t9(o:Option ab)(k:ab→Tr):Tr:=.opt (o.map .d) λu=>match u with
 |.d x=>k x
 |_=>.fail
noncomputable def uY(o:Option (List ab))(k:List ab→Tr):Tr:=.opt (o.map .ds) λu=>match u with
 |.ds x=>k x
 |_=>.fail
noncomputable def C9(o:Option Bool)(k:Bool→Tr):Tr:=.opt (o.map .b) λu=>match u with
 |.b x=>k x
 |_=>.fail
noncomputable def Op(o:Option Nat)(k:Nat→Tr):Tr:=.opt (o.map .n) λu=>match u with
 |.n x=>k x
 |_=>.fail
noncomputable def M4(o:Option B)(k:B→Tr):Tr:=.opt (o.map .e) λu=>match u with
 |.e x=>k x
 |_=>.fail
noncomputable def Pk(x:ab)(k:ab→Tr):Tr:=t9 (some x) k
noncomputable def NZ(c:bE)(k:bE→Tr):Tr:=.opt (some (.cl c)) λu=>match u with
 |.cl x=>k x
 |_=>.fail
noncomputable def wF{α:Type}(o:Option α)(k:α→Tr):Tr:=match o with
 |some a=>k a
 |none=>.fail
inductive EV where
 |const (c:Const) (k:Nat) (p:Pos)
 |name (x:Str) (p:Pos)
 |bin (l:Expr) (op:Operator) (r:Expr) (p:Pos)
 |not (x:Expr) (p:Pos)
 |neg (x:Expr) (p:Pos)
 |bool (op:BoolOp) (es:List Expr) (p:Pos)
 |ife (t a b:Expr) (p:Pos)
 |cmp (l:Expr) (op:CmpOp) (r:Expr) (p:Pos)
 |tup (es:List Expr) (k:Nat) (p:Pos)
 |slice (o:Expr) (l u:Option Expr) (q p:Pos)
 |item (o i:Expr) (p:Pos)
 |meth (o:Expr) (m:Str) (q:Pos) (args:List Expr) (p:Pos)
 |call (f:Str) (q:Pos) (args:List Expr) (p:Pos)
 |list (es:List Expr) (p:Pos)
 |dict0 (p:Pos)
 |dict1 (k v:Expr) (p:Pos)
 |comp (elt:Expr) (gs:List Comprehension) (sc:o7) (p:Pos)
 |other (e:Expr)
noncomputable def EV.ex:EV→Expr
 |.const c k p=>.Constant c k p
 |.name x p=>.Name x p
 |.bin l op r p=>.BinOp l op r p
 |.not x p=>.UnaryOp .Not x p
 |.neg x p=>.UnaryOp .USub x p
 |.bool op es p=>.BoolOp op es p
 |.ife t a b p=>.IfExp t a b p
 |.cmp l op r p=>.Compare l [op] [r] p
 |.tup es k p=>.Tuple es k p
 |.slice o l u q p=>.Subscript o (.Slice l u none q) p
 |.item o i p=>.Subscript o i p
 |.meth o m q args p=>.Call (.Attribute o m q) args [] p
 |.call f q args p=>.Call (.Name f q) args [] p
 |.list es p=>.List es p
 |.dict0 p=>.Dict [] [] p
 |.dict1 k v p=>.Dict [some k] [v] p
 |.comp elt gs sc p=>.ListComp elt gs sc p
 |.other e=>e
noncomputable def M5(op:UnaryOp)(x:Expr)(p:Pos):EV:=match op with
 |.Not=>.not x p
 |.USub=>.neg x p
 |_=>.other (.UnaryOp op x p)
noncomputable def KU(l:Expr)(ops:List CmpOp)(rs:List Expr)(p:Pos):EV:=match ops,rs with
 | [op],[r]=>.cmp l op r p
 |_,_=>.other (.Compare l ops rs p)
noncomputable def KV(o i:Expr)(p:Pos):EV:=match i with
 |.Slice l u none q=>.slice o l u q p
 |i=>.item o i p
noncomputable def HJ(f:Expr)(args:List Expr)(kw:List Keyword)(p:Pos):EV:=match kw with
 | []=>(match f with
  |.Attribute o m q=>.meth o m q args p
  |.Name f q=>.call f q args p
  |f=>.other (.Call f args [] p))
 |kw=>.other (.Call f args kw p)
noncomputable def HK(ks:List (Option Expr))(vs:List Expr)(p:Pos):EV:=match ks,vs with
 | [],[]=>.dict0 p
 | [some k],[v]=>.dict1 k v p
 |_,_=>.other (.Dict ks vs p)
noncomputable def ee(e:Expr):EV:=match e with
 |.Constant c k p=>.const c k p
 |.Name x p=>.name x p
 |.BinOp l op r p=>.bin l op r p
 |.UnaryOp op x p=>M5 op x p
 |.BoolOp op es p=>.bool op es p
 |.IfExp t a b p=>.ife t a b p
 |.Compare l ops rs p=>KU l ops rs p
 |.Tuple es k p=>.tup es k p
 |.Subscript o i p=>KV o i p
 |.Call f args kw p=>HJ f args kw p
 |.List es p=>.list es p
 |.Dict ks vs p=>HK ks vs p
 |.ListComp elt gs sc p=>.comp elt gs sc p
 |e=>.other e
inductive SV where
 |exM (o:Expr) (m:Str) (q:Pos) (args:List Expr) (p p':Pos)
 |exN (f:Str) (q:Pos) (args:List Expr) (p p':Pos)
 |ret (e:Expr) (p:Pos)
 |asC (x:Str) (q:Pos) (elt:Expr) (gs:List Comprehension) (sc:o7) (p p':Pos)
 |asg (x:Str) (q:Pos) (e:Expr) (p:Pos)
 |tup (ts:List Expr) (k:Nat) (q:Pos) (es:List Expr) (k':Nat) (p p':Pos)
 |tup1 (ts:List Expr) (k:Nat) (q:Pos) (e:Expr) (p:Pos)
 |sub (o i:Expr) (q:Pos) (e:Expr) (p:Pos)
 |aug (x:Str) (q:Pos) (op:Operator) (e:Expr) (p:Pos)
 |augS (o i:Expr) (q:Pos) (op:Operator) (e:Expr) (p:Pos)
 |ife (t:Expr) (a b:List Stmt) (p:Pos)
 |whl (t:Expr) (b:List Stmt) (p:Pos)
 |for_ (t it:Expr) (b:List Stmt) (p:Pos)
 |brk (p:Pos)
 |cont (p:Pos)
 |other (s:Stmt)
noncomputable def SV.st:SV→Stmt
 |.exM o m q args p p'=>.Expr (.Call (.Attribute o m q) args [] p) p'
 |.exN f q args p p'=>.Expr (.Call (.Name f q) args [] p) p'
 |.ret e p=>.Return (some e) p
 |.asC x q elt gs sc p p'=>.Assign [.Name x q] (.ListComp elt gs sc p) p'
 |.asg x q e p=>.Assign [.Name x q] e p
 |.tup ts k q es k' p p'=>.Assign [.Tuple ts k q] (.Tuple es k' p) p'
 |.tup1 ts k q e p=>.Assign [.Tuple ts k q] e p
 |.sub o i q e p=>.Assign [.Subscript o i q] e p
 |.aug x q op e p=>.AugAssign (.Name x q) op e p
 |.augS o i q op e p=>.AugAssign (.Subscript o i q) op e p
 |.ife t a b p=>.If t a b p
 |.whl t b p=>.While t b [] p
 |.for_ t it b p=>.For t it b [] p
 |.brk p=>.Break p
 |.cont p=>.Continue p
 |.other s=>s
noncomputable def Qs(v:EV)(p:Pos):SV:=match v with
 |.meth o m q args p'=>.exM o m q args p' p
 |.call f q args p'=>.exN f q args p' p
 |v=>.other (.Expr v.ex p)
noncomputable def Qt(v w:EV)(p:Pos):SV:=match v with
 |.name x q=>(match w with
  |.comp elt gs sc p'=>.asC x q elt gs sc p' p
  |w=>.asg x q w.ex p)
 |.tup ts k q=>(match w with
  |.tup es k' p'=>.tup ts k q es k' p' p
  |w=>.tup1 ts k q w.ex p)
 |.item o i q=>.sub o i q w.ex p
 |v=>.other (.Assign [v.ex] w.ex p)
noncomputable def Oq(v:EV)(op:Operator)(e:Expr)(p:Pos):SV:=match v with
 |.name x q=>.aug x q op e p
 |.item o i q=>.augS o i q op e p
 |v=>.other (.AugAssign v.ex op e p)
noncomputable def M6(ts:List Expr)(e:Expr)(p:Pos):SV:=match ts with
 | [t]=>Qt (ee t) (ee e) p
 |ts=>.other (.Assign ts e p)
noncomputable def KW(e:Option Expr)(p:Pos):SV:=match e with
 |some e=>.ret e p
 |none=>.other (.Return none p)
noncomputable def KY(t:Expr)(b o:List Stmt)(p:Pos):SV:=match o with
 | []=>.whl t b p
 |o=>.other (.While t b o p)
noncomputable def KZ(t it:Expr)(b o:List Stmt)(p:Pos):SV:=match o with
 | []=>.for_ t it b p
 |o=>.other (.For t it b o p)
noncomputable def HL(s:Stmt):SV:=match s with
 |.Expr e p=>Qs (ee e) p
 |.Return e p=>KW e p
 |.Assign ts e p=>M6 ts e p
 |.AugAssign t op e p=>Oq (ee t) op e p
 |.If t a b p=>.ife t a b p
 |.While t b o p=>KY t b o p
 |.For t it b o p=>KZ t it b o p
 |.Break p=>.brk p
 |.Continue p=>.cont p
 |s=>.other s
theorem f6(e:Expr):(ee e).ex=e:=by
 induction e using cI with
 |UnaryOp op x p=>induction op using UnaryOp.casesOn<;>rfl
 |Compare l ops rs p=>induction ops using am with
  |nil=>rfl
  |cons op ops=>induction ops using am with
   |nil=>induction rs using am with
    |nil=>rfl
    |cons r rs=>induction rs using am<;>rfl
   |cons _ _=>rfl
 |Subscript o i p=>induction i using cI with
  |Slice l u s q=>induction s<;>rfl
  |_=>rfl
 |Call f args kw p=>induction kw using am with
  |nil=>induction f using cI<;>rfl
  |cons _ _=>rfl
 |Dict ks vs p=>induction ks using am with
  |nil=>induction vs using am<;>rfl
  |cons k ks=>induction k with
   |none=>rfl
   |some k=>induction ks using am with
    |nil=>induction vs using am with
     |nil=>rfl
     |cons v vs=>induction vs using am<;>rfl
    |cons _ _=>rfl
 |_=>rfl
theorem M7(v:EV)(p:Pos):(Qs v p).st=.Expr v.ex p:=by induction v using EV.casesOn<;>rfl
theorem M8(v w:EV)(p:Pos):(Qt v w p).st=.Assign [v.ex] w.ex p:=by induction v using EV.casesOn<;>first|rfl|(induction w using EV.casesOn<;>rfl)
theorem K0(v:EV)(op:Operator)(e:Expr)(p:Pos):(Oq v op e p).st=.AugAssign v.ex op e p:=by induction v using EV.casesOn<;>rfl
theorem HM(s:Stmt):(HL s).st=s:=by
 induction s using Stmt.casesOn with
 |Expr e p=>have h:=M7 (ee e) p;rw[f6]at h;exact h
 |Return e p=>induction e<;>rfl
 |Assign ts e p=>induction ts using am with
  |nil=>rfl
  |cons t ts=>induction ts using am with
   |nil=>have h:=M8 (ee t) (ee e) p;rw[f6,f6]at h;exact h
   |cons _ _=>rfl
 |AugAssign t op e p=>have h:=K0 (ee t) op e p;rw[f6]at h;exact h
 |While t b o p=>induction o using am<;>rfl
 |For t it b o p=>induction o using am<;>rfl
 |_=>rfl
structure VL where
 ev:Expr→St→(B→St→Tr)→Tr
 evT:Expr→St→(Bool→St→Tr)→Tr
 exec:Stmt→St→(Fl→St→Tr)→Tr
noncomputable def np:je→Str→B→(je→Tr)→Tr
 | [],_,_,k=>k []
 |(y,v)::r,x,b,k=>match y==x with
  |true=>np r x b λr'=>k ((y,some b)::r')
  |false=>np r x b λr'=>k ((y,v)::r')
noncomputable def M9{γ:Type}:fH→Option bE→(fH→γ)→γ
 | [],c,k=>k [c]
 |a::r,c,k=>M9 r c λr'=>k (a::r')
noncomputable def Na{γ:Type}:fH→Nat→Option bE→(fH→γ)→γ
 | [],_,_,k=>k []
 |a::r,0,c,k=>k (c::r)
 |a::r,n+1,c,k=>Na r n c λr'=>k (a::r')
noncomputable def Nb(σ:fH)(c:Option bE):Option U:=M9 σ c λσ'=>some (.c (.l σ.length) σ')
noncomputable def Nc(σ:fH)(n:Nat)(c:Option bE):Option U:=Na σ n c λσ'=>some (.c (.l n) σ')
noncomputable def zK(σ:fH)(c:bE)(k:fH→Tr):Tr:=.opt (Nb σ (some c)) λu=>match u with
 |.c _ σ'=>k σ'
 |_=>.fail
noncomputable def K2(σ:fH)(n:Nat)(c:Option bE)(k:fH→Tr):Tr:=.opt (Nc σ n c) λu=>match u with
 |.c _ σ'=>k σ'
 |_=>.fail
noncomputable def FJ(σ:fH)(n:Nat)(k:bE→Tr):Tr:=.opt ((t8 σ n).map .cl) λu=>match u with
 |.cl c=>k c
 |_=>.fail
theorem zL(σ:fH)(c:Option bE):Nb σ c=some (.c (.l σ.length) (σ++ [c])):=by
 have key:∀(γ:Type)(σ:fH)(k:fH→γ),M9 σ c k=k (σ++ [c]):=λγ σ=>by
  induction σ with
  |nil=>exact λk=>rfl
  |cons a r ih=>exact λk=>ih _
 exact key _ σ _
theorem Es(σ:fH)(n:Nat)(c:Option bE):Nc σ n c=some (.c (.l n) (σ.set n c)):=by
 have key:∀(γ:Type)(σ:fH)(n:Nat)(k:fH→γ),Na σ n c k=k (σ.set n c):=λγ σ=>by
  induction σ with
  |nil=>exact λn k=>rfl
  |cons a r ih=>intro n k;induction n using cZ with
   |zero=>rfl
   |succ n=>exact ih n _
 exact key _ σ n _
noncomputable def Os{α β:Type}:List (α×β)→(List (α×β)→Tr)→Tr
 | [],k=>k []
 |(x,y)::r,k=>Os r λr'=>k ((x,y)::r')
noncomputable def PY{α:Type}:List α→(List α→Tr)→Tr
 | [],k=>k []
 |x::r,k=>PY r λr'=>k (x::r')
noncomputable def Qu(b:Bool)(k:Bool→Tr):Tr:=match b with
 |true=>k true
 |false=>k false
noncomputable def PZ(b:Option B)(k:Option B→Tr):Tr:=match b with
 |none=>k none
 |some b=>k (some b)
noncomputable def P0(n:Nat)(d:ab):je→(je→Tr)→Tr
 | [],k=>k []
 |(x,v)::r,k=>P0 n d r λr'=>k ((x,C8 n d v)::r')
noncomputable def P3(b:B)(st:St)(κ:ab→St→Tr):Tr:=match b with
 |.v d=>κ d st
 |.l n=>match st with|⟨ρ,σ⟩=>FJ σ n λc=>t9 (hU c) λd=>P0 n d ρ λρ=>K2 σ n none λσ=>κ d ⟨ρ,σ⟩
noncomputable def VL.evD(V:VL)(e:Expr)(st:St)(κ:ab→St→Tr):Tr:=V.ev e st λb s=>P3 b s κ
noncomputable def VL.evDs(V:VL)(es:List Expr):St→(List ab→St→Tr)→Tr:=
 @List.rec Expr (λ_=>St→(List ab→St→Tr)→Tr) (λst κ=>κ [] st) (λe _ ih st κ=>V.evD e st λa s=>ih s λb s'=>κ (a::b) s') es
noncomputable def VL.evO(V:VL):Option Expr→St→(Option ab→St→Tr)→Tr
 |none,st,κ=>κ none st
 |some e,st,κ=>V.evD e st λa s=>κ (some a) s
structure Cy where
 C:Str→List B→fH→U→Prop
 names:List (Str×aK)
 mv:List Str
 kl:Bool
section
variable (cx:Cy)
noncomputable def Bu(ρ:je)(x:Str):Bool:=(ρ.lookup x).isNone&&cx.names.lookup x==some .globalImplicit
noncomputable def Da(as:List ab):Option (Int×Int):=match as with
 | [.int b]=>some (0,b)
 | [.int b,.int c]=>some (b,c)
 |_=>none
noncomputable def HN(κ:List ab→St→Tr)(a:ab)(s:St):Tr:=match a with
 |.dict kvs=>oB (Br kvs) (κ (kvs.map (·.1)) s)
 |d=>uY (jB d) λxs=>κ xs s
noncomputable def Ot(V:VL)(v:EV)(st:St)(κ:List ab→St→Tr):Tr:=match v with
 |.call f q args p=>
  mX (Bu cx st.ρ f&&args.all dF)<|
   ya (f==ofString "range") (V.evDs args st λa s=>wF (Da a) λr=>oB (mW r.1&&mW r.2) (κ (lI r.1 r.2) s))<|
   ya (f==ofString "enumerate") (V.evDs args st λa s=>match a with
    | [x]=>uY (jB x) λxs=>κ (kM 0 xs) s
    |_=>.fail)<|
   ya (f==ofString "zip") (V.evDs args st λa s=>match a with
    | [.list x,.list y]=>κ (A3 x y) s
    |_=>.fail)<|
   V.evD (.Call (.Name f q) args [] p) st λa s=>uY (jB a) λxs=>κ xs s
 |.meth o m q [] p=>
  mX (m==ofString "items"&&lJ o q p [])<|V.evD o st λa s=>match a with
   |.dict kvs=>κ (kvs.map λp=>.tuple [p.1,p.2]) s
   |_=>.fail
 |v=>V.evD v.ex st (HN κ)
noncomputable def P4(V:VL)(e:Expr)(st:St)(κ:List ab→St→Tr):Tr:=Ot cx V (ee e) st κ
noncomputable def wG(V:VL)(t e:Expr)(st:St)(κ:List ab→St→Tr):Tr:=mX (!((sG e&&!PO t)||!tU e)) (P4 cx V e st κ)
noncomputable def VL.allIfs(V:VL)(es:List Expr):St→(Bool→St→Tr)→Tr:=
 @List.rec Expr (λ_=>St→(Bool→St→Tr)→Tr) (λst κ=>κ true st) (λc _ ih st κ=>V.evT c st λb s=>GW b (ih s κ) (κ false s)) es
noncomputable def qB(ρ:je):List Expr→List ab→(je→Tr)→Tr
 |t::ts,d::ds,k=>(match ee t with
  |.name x _=>mX (ρ.lookup x).isSome (np ρ x (.v d) λρ'=>qB ρ' ts ds k)
  |_=>.fail)
 | [],[],k=>k ρ
 |_,_,_=>.fail
noncomputable def L7(ρ:je)(t:EV)(d:ab)(k:je→Tr):Tr:=match t with
 |.name x _=>mX (ρ.lookup x).isSome (np ρ x (.v d) k)
 |.tup ts _ _=>(match d with
  |.tuple ds=>mX (mr ts.length ds.length) (qB ρ ts ds k)
  |_=>.fail)
 |_=>.fail
noncomputable def yJ(ρ:je)(t:Expr)(d:ab)(k:je→Tr):Tr:=L7 ρ (ee t) d k
noncomputable def Et(names:List (Str×aK))(V:VL)(target:Expr)(ifs:List Expr)(cJ:List ab→St→(List ab→St→Tr)→Tr)(d:ab)(acc:List ab)(st:St):Tr:=
 mX (yy names target) (yJ st.ρ target d λρ₁=>V.allIfs ifs ⟨ρ₁,st.σ⟩ λb s=>GW b (cJ acc s λacc' s'=>.ret (.s acc' s')) (.ret (.s acc s)))
noncomputable def sV(names:List (Str×aK))(V:VL)(target:Expr)(ifs:List Expr)(cJ:List ab→St→(List ab→St→Tr)→Tr):List ab→List ab→St→(List ab→St→Prop)→Prop
 | [],acc,st,R=>R acc st
 |d::r,acc,st,R=>(Et names V target ifs cJ d acc st).sat λu=>match u with
  |.s acc' s'=>sV names V target ifs cJ r acc' s' R
  |_=>False
noncomputable def Db(V:VL)(one:Bool)(elt:Expr)(go:List ab→List ab→St→(List ab→St→Prop)→Prop)(gs:List Comprehension)(acc:List ab)(st:St)(κ:List ab→St→Tr):Tr:=match gs with
 | []=>match one with
  |true=>V.evD elt st λb s=>κ (acc++ [b]) s
  |false=>oB (jz acc.length) (V.evD elt st λb s=>κ (acc++ [b]) s)
 |g'::_=>wG cx V g'.target g'.iter st λit s=>.rel (λu=>match u with|.s r s'=>go it acc s (λr' s''=>r'=r∧s''=s')|_=>False) λu=>match u with
  |.s r s'=>κ r s'
  |_=>.fail
noncomputable def oC(V:VL)(one:Bool)(elt:Expr):List Comprehension→List ab→List ab→St→(List ab→St→Prop)→Prop
 | [],_,_,_,_=>False
 |g::gs,items,acc,st,R=>sV cx.names V g.target g.ifs (Db cx V one elt (oC V one elt gs) gs) items acc st R
noncomputable def zM(gs:List Comprehension):Bool:=match gs with
 | [_]=>true
 |_=>false
noncomputable def mG:List (Str×aK)→je→(je→Tr)→Tr
 | [],_,k=>k []
 |(x,q)::r,ρ,k=>match q with
  |.local=>match x==ofString ".0" with
   |true=>mG r ρ k
   |false=>mG r ρ λr'=>k ((x,none)::r')
  |.free=>match ρ.lookup x with
   |some b=>mG r ρ λr'=>k ((x,b)::r')
   |none=>mG r ρ k
  |_=>mG r ρ k
noncomputable def Eu(Vc:List (Str×aK)→VL)(V:VL)(elt:Expr)(gens:List Comprehension)(scope:o7)(st:St)(κ:List ab→St→Tr):Tr:=match gens with
 | []=>.fail
 |g::_=>mX (qw cx.names st.ρ scope gens)<|wG cx V g.target g.iter st λit s=>mX (qw cx.names s.ρ scope gens)<|
   match s with|⟨ρ,σ⟩=>Os scope.names λns=>mG ns ρ λρ₁=>.rel (λu=>match u with|.s r s'=>oC ⟨cx.C,ns,[],false⟩ (Vc ns) (zM gens) elt gens it [] ⟨ρ₁,σ⟩ (λr' s''=>r'=r∧s''=s')|_=>False) λu=>match u with
    |.s r s'=>match s' with|⟨_,σ'⟩=>match zM gens with|true=>κ r ⟨ρ,σ'⟩|false=>oB (jz r.length) (κ r ⟨ρ,σ'⟩)
    |_=>.fail
noncomputable def VL.evBs(V:VL)(fresh:Expr→St→(bE→St→Tr)→Tr)(es:List Expr):St→(List B→St→Tr)→Tr:=
 @List.rec Expr (λ_=>St→(List B→St→Tr)→Tr) (λst κ=>κ [] st)
  (λe _ ih st κ=>ya (vI e) (fresh e st λc s=>match s with|⟨ρ,σ⟩=>zK σ c λσ'=>ih ⟨ρ,σ'⟩ λb s'=>κ (.l σ.length::b) s') (V.evD e st λd s=>ih s λb s'=>κ (.v d::b) s')) es
noncomputable def Ew(xs:List ab):Option ab:=(iO xs).bind λps=>(fq [] ps).map .dict
noncomputable def HO(V:VL)(v:EV)(st:St)(κ:ab→St→Tr):Tr:=match v with
 |.meth o m q [] p=>mX (m==ofString "items"&&lJ o q p []) (V.evD o st λa s=>match a with
  |.dict kvs=>oB (Br kvs) (κ (.list (kvs.map λp=>.tuple [p.1,p.2])) s)
  |_=>.fail)
 |v=>V.evD v.ex st λa s=>uY (jB a) λxs=>κ (.list xs) s
noncomputable def FK(Vc:List (Str×aK)→VL)(V:VL)(v:EV)(st:St)(κ:ab→St→Tr):Tr:=match v with
 |.list es _=>mX (jz es.length&&es.all dF) (V.evDs es st λa s=>κ (.list a) s)
 |.dict0 _=>κ (.dict []) st
 |.dict1 k v _=>V.evD k st λa s=>V.evD v s λb s'=>oB (AP a) (κ (.dict [(a,b)]) s')
 |.comp elt gens scope _=>Eu cx Vc V elt gens scope st λa s=>κ (.list a) s
 |.call f _ [a] _=>
  mX (Bu cx st.ρ f&&dF a)<|
   ya (f==ofString "list") (HO V (ee a) st κ)<|
   mX (f==ofString "dict")<|V.evD a st λa s=>match a with
    |.list xs=>t9 (Ew xs) λd=>κ d s
    |_=>.fail
 |_=>.fail
noncomputable def Q3(Vc:List (Str×aK)→VL)(V:VL)(e:Expr)(st:St)(κ:ab→St→Tr):Tr:=FK cx Vc V (ee e) st κ
noncomputable def oD:ab→Option bE
 |.list xs=>some (.lst (xs.map .v))
 |.dict kvs=>some (.dct kvs)
 |_=>none
noncomputable def K3(Vc:List (Str×aK)→VL)(V:VL)(e:Expr)(st:St)(κ:bE→St→Tr):Tr:=Q3 cx Vc V e st λd s=>wF (oD d) λc=>κ c s
noncomputable def Qv(Vc:List (Str×aK)→VL)(V:VL)(v:EV)(st:St)(κ:bE→St→Tr):Tr:=match v with
 |.list es _=>mX (jz es.length&&es.all dF) (V.evBs (K3 cx Vc V) es st λa s=>κ (.lst a) s)
 |v=>FK cx Vc V v st λd s=>wF (oD d) λc=>κ c s
noncomputable def tF(Vc:List (Str×aK)→VL)(V:VL)(e:Expr)(st:St)(κ:bE→St→Tr):Tr:=match cx.kl with
 |true=>Qv cx Vc V (ee e) st κ
 |false=>K3 cx Vc V e st κ
noncomputable def VL.evArgs(V:VL)(f:Str)(fresh:Expr→St→(bE→St→Tr)→Tr)(i:Nat)(es:List Expr):St→(List B→St→Tr)→Tr:=
 @List.rec Expr (λ_=>Nat→St→(List B→St→Tr)→Tr) (λ_ st κ=>κ [] st)
  (λe _ ih i st κ=>ya (Of f i) (ya (vI e) (fresh e st λc s=>match s with|⟨ρ,σ⟩=>zK σ c λσ'=>ih (i+1) ⟨ρ,σ'⟩ λb s'=>κ (.l σ.length::b) s') (V.ev e st λa s=>ih (i+1) s λb s'=>κ (a::b) s'))
   (V.evD e st λd s=>ih (i+1) s λb s'=>κ (.v d::b) s')) es i
noncomputable def L8(V:VL)(op:BoolOp)(es:List Expr):St→(ab→St→Tr)→Tr:=
 @List.rec Expr (λ_=>St→(ab→St→Tr)→Tr) (λ_ _=>.fail)
  (λe r ih st κ=>match r with
   | []=>V.evD e st κ
   |_::_=>V.evD e st λa s=>C9 (yw a) λt=>match op with
    |.And=>GW t (ih s κ) (κ a s)
    |.Or=>GW t (κ a s) (ih s κ)) es
noncomputable def HP(V:VL)(op:BoolOp)(es:List Expr):St→(Bool→St→Tr)→Tr:=
 @List.rec Expr (λ_=>St→(Bool→St→Tr)→Tr) (λst κ=>κ (match op with|.And=>true|.Or=>false) st)
  (λe _ ih st κ=>V.evT e st λt s=>match op with
   |.And=>GW t (ih s κ) (κ false s)
   |.Or=>GW t (κ true s) (ih s κ)) es
noncomputable def HQ(op:CmpOp)(a:ab)(b:B)(st:St)(κ:Bool→St→Tr):Tr:=P3 b st λd s=>C9 (iI op a d) λt=>κ t s
noncomputable def L9(op:CmpOp)(a:ab)(b:B)(st:St)(κ:Bool→St→Tr):Tr:=match b with
 |.v d=>C9 (iI op a d) λt=>κ t st
 |.l n=>FJ st.σ n λc=>match c with
  |.lst _=>HQ op a (.l n) st κ
  |.dct kvs=>match op with
   |.In=>oB (vx kvs a) (κ (gE kvs a).isSome st)
   |op=>HQ op a (.l n) st κ
noncomputable def Nd(V:VL)(l:Expr)(op:CmpOp)(r:Expr)(st:St)(κ:Bool→St→Tr):Tr:=
 mX (tU r)<|V.evD l st λa s=>V.ev r s λb s'=>L9 op a b s' κ
noncomputable def K4(n:Nat)(c:bE)(d:ab)(κ:ab→St→Tr)(s:St):Tr:=match s with|⟨ρ,σ⟩=>K2 σ n (some c) λσ'=>κ d ⟨ρ,σ'⟩
noncomputable def Ey(V:VL)(n:Nat)(args:List Expr)(s:St)(κ:ab→St→Tr):Tr:=V.evDs args s λas s'=>FJ s'.σ n λc=>match c with
 |.dct _=>.fail
 |.lst xs=>match as with
  | [d]=>oB (jz xs.length) (NZ (.lst (xs++ [.v d])) λc'=>K4 n c' .none κ s')
  |_=>.fail
noncomputable def Ez(V:VL)(n:Nat)(args:List Expr)(s:St)(κ:ab→St→Tr):Tr:=V.evDs args s λas s'=>FJ s'.σ n λc=>match c with
 |.dct _=>.fail
 |.lst xs=>match as with
  | [.list ds]=>oB (jz (xs.length+ds.length)) (NZ (.lst (xs++ds.map .v)) λc'=>K4 n c' .none κ s')
  |_=>.fail
noncomputable def Ou(V:VL)(n:Nat)(args:List Expr)(s:St)(κ:ab→St→Tr):Tr:=V.evDs args s λas s'=>FJ s'.σ n λc=>match c with
 |.dct _=>.fail
 |.lst xs=>match as,xs with
  | [.int 0],.v d::r=>K4 n (.lst r) d κ s'
  |_,_=>.fail
noncomputable def Ov(V:VL)(n:Nat)(args:List Expr)(s:St)(κ:ab→St→Tr):Tr:=V.evDs args s λas s'=>FJ s'.σ n λc=>match c with
 |.lst _=>.fail
 |.dct kvs=>match as with
  | [k,d]=>oB (vx kvs k) (Pk ((gE kvs k).getD d) λx=>κ x s')
  |_=>.fail
noncomputable def Ma(V:VL)(n:Nat)(args:List Expr)(s:St)(κ:ab→St→Tr):Tr:=V.evDs args s λas s'=>FJ s'.σ n λc=>match c with
 |.lst _=>.fail
 |.dct kvs=>match as with
  | [k,d]=>oB (vx kvs k) (Pk ((gE kvs k).getD d) λx=>NZ (.dct (sF kvs k)) λc'=>K4 n c' x κ s')
  |_=>.fail
noncomputable def Mb(V:VL)(kvs:List (ab×ab))(args:List Expr)(s:St)(κ:ab→St→Tr):Tr:=V.evDs args s λas s'=>match as with
 | [k,d]=>oB (AP k&&vx kvs k) (Pk ((gE kvs k).getD d) λx=>κ x s')
 |_=>.fail
noncomputable def Mc(V:VL)(o:Expr)(m:Str)(args:List Expr)(st:St)(κ:ab→St→Tr):Tr:=V.ev o st λob s=>match ob with
 |.v d=>(match d with
  |.dict kvs=>mX (m==ofString "get") (Mb V kvs args s κ)
  |_=>.fail)
 |.l n=>FJ s.σ n λc0=>match c0 with
  |.lst _=>
   ya (m==ofString "append") (Ey V n args s κ)<|
   ya (m==ofString "extend") (Ez V n args s κ)<|
   mX (m==ofString "pop") (Ou V n args s κ)
  |.dct _=>
   ya (m==ofString "get") (Ov V n args s κ)<|
   mX (m==ofString "pop") (Ma V n args s κ)
noncomputable def Md(V:VL)(o i:Expr)(st:St)(κ:B→St→Tr):Tr:=
 V.ev o st λob s=>V.evD i s λib s'=>match ob with
  |.v d=>t9 (uX d ib) λr=>κ (.v r) s'
  |.l n=>FJ s'.σ n λc=>match c with
   |.lst xs=>(match ib with
    |.int k=>M4 (Fo xs k) λb=>κ b s'
    |_=>.fail)
   |.dct kvs=>oB (vx kvs ib) (t9 (gE kvs ib) λd=>κ (.v d) s')
noncomputable def Dc(f:Str):Bool:=f==ofString "max"||(f==ofString "abs"||(f==ofString "min"||f==ofString "tuple"))
noncomputable def Bv:List String:= ["gcd","bits_of","rat","radd","rmul","rpower","is_num","num_of","is_whole_num","inner_terms","with_inner","is_too_great","sign_between","compare_values","bare_factors","front_value","base_and_exponent","compare_rows","compare_exponents","compare_bases","compare_factors","compare_terms","merged_terms","sort_terms","number_term","number_and_rest","with_number","flat_parts","gathered_sum","is_one_call","as_power","gathered_product","power_of","number_power","call_of","simplify","has_ratio","settled","is_blank","put_together","bind_blank","match_rows","match_parts","blanks_last","match_with","match","put_blanks","not_too_great","rule_at","rule_once","apply_rules","_law_take","_law_leaf","_law_term","_law_opened","_law_both","_law_rows","_law_choices","_law_parted","_law_readings","_law_is_small","_law_lead_out","law","_law_box"]
noncomputable def wH(f:Str):Bool:=Bv.any λx=>f==ofString x
noncomputable def Ow(V:VL)(a:Expr)(st:St)(κ:ab→St→Tr):Tr:=V.ev a st λx s=>match x with
 |.v d=>Op (Ha d) λ(n:Nat)=>κ (.int n) s
 |.l n=>FJ s.σ n λc=>match c with|.lst xs=>κ (.int xs.length) s|_=>.fail
noncomputable def Me(Vc:List (Str×aK)→VL)(V:VL)(f:Str)(q:Pos)(args:List Expr)(p:Pos)(st:St)(κ:B→St→Tr):Tr:=
 mX (Bu cx st.ρ f&&args.all dF)<|
  ya (f==ofString "list"||f==ofString "dict") (FK cx Vc V (.call f q args p) st λd s=>κ (.v d) s)<|
  ya (f==ofString "len") (match args with
   | [a]=>Ow V a st λd s=>κ (.v d) s
   |_=>.fail)<|
  ya (Dc f) (V.evDs args st λa s=>t9 (Pj f a) λd=>κ (.v d) s)<|
  mX (wH f)<|V.evArgs f (K3 cx Vc V) 0 args st λa s=>match s with|⟨ρ,σ⟩=>.rel (cx.C f a (σ.take (mh a))) λu=>match u with|.c (.v x) σ'=>κ (.v x) ⟨ρ,σ'++σ.drop (mh a)⟩|.c (.l m) σ'=>(match σ with| []=>κ (.l m) ⟨ρ,σ'⟩|_=>.fail)|_=>.fail
noncomputable def HR(x:Str)(st:St)(κ:B→St→Tr):Tr:=match st.ρ.lookup x with
 |some b=>wF b λb=>κ b st
 |none=>mX (cx.names.lookup x==some .globalImplicit) (wF (CQ.lookup x) λd=>κ (.v d) st)
noncomputable def Ox(Vc:List (Str×aK)→VL)(V:VL)(v:EV)(st:St)(κ:B→St→Tr):Tr:=match v with
 |.const c _ _=>wF (G8 c) λd=>κ (.v d) st
 |.name x _=>HR cx x st κ
 |.bin l op r _=>V.evD l st λa s=>V.evD r s λb s'=>t9 (jE op a b) λd=>κ (.v d) s'
 |.not x _=>V.evD x st λa s=>C9 (yw a) λt=>κ (.v (.bool (!t))) s
 |.neg x _=>V.evD x st λa s=>match a with|.int i=>κ (.v (.int (-i))) s|_=>.fail
 |.bool op es _=>L8 V op es st λa s=>κ (.v a) s
 |.ife t a b _=>V.evT t st λr s=>GW r (V.evD a s λx s'=>κ (.v x) s') (V.evD b s λx s'=>κ (.v x) s')
 |.cmp l op r _=>Nd V l op r st λa s=>κ (.v (.bool a)) s
 |.tup es _ _=>mX (jz es.length&&es.all dF) (V.evDs es st λa s=>κ (.v (.tuple a)) s)
 |.slice o l u _ _=>V.evD o st λa s=>V.evO l s λx s'=>V.evO u s' λy s''=>t9 (tS a x y) λd=>κ (.v d) s''
 |.item o i _=>mX (kg i) (Md V o i st κ)
 |.meth o m q args p=>mX (lJ o q p args) (Mc V o m args st λa s=>κ (.v a) s)
 |.call f q args p=>Me cx Vc V f q args p st κ
 |.other _=>.fail
 |v=>FK cx Vc V v st λd s=>κ (.v d) s
noncomputable def Qw(Vc:List (Str×aK)→VL)(V:VL)(e:Expr)(st:St)(κ:B→St→Tr):Tr:=Ox cx Vc V (ee e) st κ
noncomputable def Qx(V:VL)(v:EV)(st:St)(κ:Bool→St→Tr):Tr:=match v with
 |.not x _=>V.evT x st λa s=>κ (!a) s
 |.bool op es _=>HP V op es st κ
 |.ife t a b _=>V.evT t st λr s=>GW r (V.evT a s κ) (V.evT b s κ)
 |.cmp l op r _=>Nd V l op r st κ
 |.other _=>.fail
 |v=>V.evD v.ex st λa s=>C9 (yw a) λt=>κ t s
noncomputable def tT(V:VL)(e:Expr)(st:St)(κ:Bool→St→Tr):Tr:=Qx V (ee e) st κ
noncomputable def pI(V:VL)(b:List Stmt):St→(Fl→St→Tr)→Tr:=
 @List.rec Stmt (λ_=>St→(Fl→St→Tr)→Tr) (λst κ=>κ .next st) (λs _ ih st κ=>V.exec s st λf s'=>match f with
  |.next=>ih s' κ
  |f=>κ f s') b
noncomputable def rO(V:VL)(t:Expr)(body:List Stmt):List ab→St→(Fl→St→Prop)→Prop
 | [],st,R=>R .next st
 |d::r,st,R=>(yJ st.ρ t d λρ₁=>pI V body ⟨ρ₁,st.σ⟩ λf s=>.ret (.f f s)).sat λu=>match u with
  |.f .next s=>rO V t body r s R
  |.f .cont s=>rO V t body r s R
  |.f .brk s=>R .next s
  |.f (.ret b) s=>R (.ret b) s
  |_=>False
noncomputable def nq(V:VL)(t:Expr)(body:List Stmt):Nat→St→(Fl→St→Prop)→Prop
 |0,_,_=>False
 |n+1,st,R=>(V.evT t st λb s=>GW b (pI V body s λf s=>.ret (.f f s)) (.ret (.s [] s))).sat λu=>match u with
  |.s _ s=>R .next s
  |.f .next s=>nq V t body n s R
  |.f .cont s=>nq V t body n s R
  |.f .brk s=>R .next s
  |.f (.ret b) s=>R (.ret b) s
  |_=>False
noncomputable def K5(Vc:List (Str×aK)→VL)(V:VL)(x:Str)(e:Expr)(st:St)(κ:B→St→Tr):Tr:=
 ya (cx.mv.contains x&&vI e) (tF cx Vc V e st λc s=>match s with|⟨ρ,σ⟩=>zK σ c λσ'=>κ (.l σ.length) ⟨ρ,σ'⟩)<|
 ya (Hc e) (V.ev e st κ) (V.evD e st λd s=>κ (.v d) s)
noncomputable def EA(Vc:List (Str×aK)→VL)(V:VL)(ts:List Expr):List Expr→St→(List (Str×B)→St→Tr)→Tr:=
 @List.rec Expr (λ_=>List Expr→St→(List (Str×B)→St→Tr)→Tr) (λes st κ=>match es with| []=>κ [] st|_=>.fail)
  (λt _ ih es st κ=>match t,es with
   |.Name x _,e::es=>K5 cx Vc V x e st λa s=>ih es s λb s'=>κ ((x,a)::b) s'
   |_,_=>.fail) ts
noncomputable def sW(ρ:je):List (Str×B)→(je→Tr)→Tr
 | [],k=>k ρ
 |(x,b)::r,k=>mX (ρ.lookup x).isSome (np ρ x b λρ'=>sW ρ' r k)
noncomputable def Oy(n:Nat)(c:bE)(κ:St→Tr)(s:St):Tr:=match s with|⟨ρ,σ⟩=>K2 σ n (some c) λσ'=>κ ⟨ρ,σ'⟩
noncomputable def Dd(o:B)(i v:ab)(st:St)(κ:St→Tr):Tr:=match o with
 |.l n=>FJ st.σ n λc=>match c with
  |.lst xs=>(match i with
   |.int k=>oB (decide (0≤k∧k<xs.length)) (NZ (.lst (xs.set k.toNat (.v v))) λc'=>Oy n c' κ st)
   |_=>.fail)
  |.dct kvs=>oB (vx kvs i) (oB (jz kvs.length) (NZ (.dct (m9 kvs i v)) λc'=>Oy n c' κ st))
 |.v _=>.fail
noncomputable def EB(x:Str)(b:B)(s:St)(κ:Fl→St→Tr):Tr:=match s with
 |⟨ρ,σ⟩=>mX (ρ.lookup x).isSome (np ρ x b λρ'=>κ .next ⟨ρ',σ⟩)
noncomputable def Mf(V:VL)(o i:Expr)(op:Operator)(e:Expr)(st:St)(κ:Fl→St→Tr):Tr:=V.ev o st λb s=>V.evD i s λc s'=>match b with
 |.l n=>FJ s'.σ n λcc=>match cc,c with
  |.lst xs,.int k=>M4 (Fo xs k) λq=>match q with
   |.v old=>V.evD e s' λa s''=>t9 (KR op old a) λr=>Dd b c r s'' λs=>κ .next s
   |.l _=>.fail
  |_,_=>.fail
 |.v _=>.fail
noncomputable def Qy(Vc:List (Str×aK)→VL)(W:Nat)(V:VL)(v:SV)(st:St)(κ:Fl→St→Tr):Tr:=match v with
 |.exM o m q args p _=>V.evD (.Call (.Attribute o m q) args [] p) st λa s=>match a with|.none=>κ .next s|_=>.fail
 |.exN f q args p _=>V.evD (.Call (.Name f q) args [] p) st λa s=>κ .next s
 |.ret e _=>ya cx.kl (mX (vI e) (tF cx Vc V e st λc s=>match s with|⟨ρ,σ⟩=>zK σ c λσ'=>κ (.ret (.l σ.length)) ⟨ρ,σ'⟩)) (V.evD e st λa s=>κ (.ret (.v a)) s)
 |.asC x _ elt gens scope _ _=>Eu cx Vc V elt gens scope st λa s=>match s with|⟨ρ,σ⟩=>mX (ρ.lookup x).isSome (ya (cx.mv.contains x) (np ρ x (.l σ.length) λρ'=>zK σ (.lst (a.map .v)) λσ'=>κ .next ⟨ρ',σ'⟩) (np ρ x (.v (.list a)) λρ'=>κ .next ⟨ρ',σ⟩))
 |.asg x _ e _=>mX (Ef e)<|K5 cx Vc V x e st λa s=>EB x a s κ
 |.tup ts _ _ es _ _ _=>mX (!(es.all (D9 8)||!es.all dF||!jz es.length))<|EA cx Vc V ts es st λa s=>mX (decide (a.map (·.1)).Nodup) (match s with|⟨ρ,σ⟩=>sW ρ a λρ'=>κ .next ⟨ρ',σ⟩)
 |.tup1 ts k p e _=>mX (!PO e)<|V.evD e st λa s=>match s with|⟨ρ,σ⟩=>yJ ρ (.Tuple ts k p) a λρ'=>κ .next ⟨ρ',σ⟩
 |.sub o i _ e _=>mX (kg i)<|V.evD e st λa s=>V.ev o s λb s'=>V.evD i s' λc s''=>Dd b c a s'' λs=>κ .next s
 |.aug x _ op e _=>(match st.ρ.lookup x with
  |some (some (.v d))=>V.evD e st λa s=>t9 (KR op d a) λr=>EB x (.v r) s κ
  |_=>.fail)
 |.augS o i _ op e _=>mX (kg i)<|Mf V o i op e st κ
 |.ife t a b _=>V.evT t st λr s=>GW r (pI V a s κ) (pI V b s κ)
 |.whl t body _=>.rel (λu=>match u with|.f f s=>nq V t body W st (λf' s'=>f'=f∧s'=s)|_=>False) λu=>match u with|.f f s=>κ f s|_=>.fail
 |.for_ t it body _=>wG cx V t it st λa s=>.rel (λu=>match u with|.f f s'=>rO V t body a s (λf' s''=>f'=f∧s''=s')|_=>False) λu=>match u with|.f f s=>κ f s|_=>.fail
 |.brk _=>κ .brk st
 |.cont _=>κ .cont st
 |.other _=>.fail
noncomputable def tX(Vc:List (Str×aK)→VL)(W:Nat)(V:VL)(s:Stmt)(st:St)(κ:Fl→St→Tr):Tr:=Qy cx Vc W V (HL s) st κ
end
noncomputable def zN(C:Str→List B→fH→U→Prop)(W:Nat):Nat→List (Str×aK)→List Str→Bool→VL
 |0,_,_,_=>⟨λ_ _ _=>.fail,λ_ _ _=>.fail,λ_ _ _=>.fail⟩
 |k+1,names,mv,kl=>⟨Qw ⟨C,names,mv,kl⟩ (λns=>zN C W k ns [] false) (zN C W k names mv kl),tT (zN C W k names mv kl),tX ⟨C,names,mv,kl⟩ (λns=>zN C W k ns [] false) W (zN C W k names mv kl)⟩
noncomputable def yK(ps:List (Str×B)):List (Str×aK)→(je→Tr)→Tr
 | [],k=>k []
 |(x,q)::r,k=>match q with
  |.local=>PZ (ps.lookup x) λb=>yK ps r λr'=>k ((x,b)::r')
  |.cell=>PZ (ps.lookup x) λb=>yK ps r λr'=>k ((x,b)::r')
  |_=>yK ps r k
noncomputable def P5(C:Str→List B→fH→U→Prop)(W:Nat)(f:Str)(d:sr)(args:List B)(σ:fH)(κ:Fl→St→Tr):Tr:=match d with
 |⟨ps,body,ns⟩=>mX (mr ps.length args.length)<|Os ns λns=>PY (zt f) λmv=>Qu (rJ f) λkl=>yK (ps.zip args) ns λρ=>
  pI (zN C W 14 ns mv kl) body ⟨ρ,σ⟩ κ
noncomputable def bY(i:Nat):sr:=match PySem.Challenge.pw_xm0110_01.main.body[i]? with
 |some (.FunctionDef _ args body _ _ _ scope _ _ _)=>⟨args.args.map (·.arg),body,scope.names⟩
 |_=>⟨[],[],[]⟩
theorem bg: [(bm (ofString "gcd")),(bm (ofString "bits_of")),(bm (ofString "rat")),(bm (ofString "radd")),(bm (ofString "rmul")),(bm (ofString "rpower")),(bm (ofString "is_num")),(bm (ofString "num_of")),(bm (ofString "is_whole_num")),(bm (ofString "inner_terms")),(bm (ofString "with_inner")),(bm (ofString "is_too_great")),(bm (ofString "sign_between")),(bm (ofString "compare_values")),(bm (ofString "bare_factors")),(bm (ofString "front_value")),(bm (ofString "base_and_exponent")),(bm (ofString "compare_rows")),(bm (ofString "compare_exponents")),(bm (ofString "compare_bases")),(bm (ofString "compare_factors")),(bm (ofString "compare_terms")),(bm (ofString "merged_terms")),(bm (ofString "sort_terms")),(bm (ofString "number_term")),(bm (ofString "number_and_rest")),(bm (ofString "with_number")),(bm (ofString "flat_parts")),(bm (ofString "gathered_sum")),(bm (ofString "is_one_call")),(bm (ofString "as_power")),(bm (ofString "gathered_product")),(bm (ofString "power_of")),(bm (ofString "number_power")),(bm (ofString "call_of")),(bm (ofString "simplify")),(bm (ofString "has_ratio")),(bm (ofString "settled")),(bm (ofString "is_blank")),(bm (ofString "put_together")),(bm (ofString "bind_blank")),(bm (ofString "match_rows")),(bm (ofString "match_parts")),(bm (ofString "blanks_last")),(bm (ofString "match_with")),(bm (ofString "match")),(bm (ofString "put_blanks")),(bm (ofString "not_too_great")),(bm (ofString "rule_at")),(bm (ofString "rule_once")),(bm (ofString "apply_rules")),(bm (ofString "_law_take")),(bm (ofString "_law_leaf")),(bm (ofString "_law_term")),(bm (ofString "_law_opened")),(bm (ofString "_law_both")),(bm (ofString "_law_rows")),(bm (ofString "_law_choices")),(bm (ofString "_law_parted")),(bm (ofString "_law_readings")),(bm (ofString "_law_is_small")),(bm (ofString "_law_lead_out")),(bm (ofString "law"))]= [some (bY 3),some (bY 4),some (bY 9),some (bY 10),some (bY 11),some (bY 13),some (bY 18),some (bY 19),some (bY 20),some (bY 21),some (bY 22),some (bY 23),some (bY 26),some (bY 27),some (bY 28),some (bY 29),some (bY 30),some (bY 31),some (bY 32),some (bY 33),some (bY 34),some (bY 35),some (bY 36),some (bY 37),some (bY 47),some (bY 48),some (bY 49),some (bY 50),some (bY 51),some (bY 52),some (bY 53),some (bY 54),some (bY 55),some (bY 57),some (bY 64),some (bY 65),some (bY 67),some (bY 68),some (bY 74),some (bY 75),some (bY 76),some (bY 77),some (bY 78),some (bY 79),some (bY 80),some (bY 81),some (bY 82),some (bY 83),some (bY 84),some (bY 85),some (bY 86),some (bY 88),some (bY 90),some (bY 91),some (bY 92),some (bY 93),some (bY 94),some (bY 95),some (bY 96),some (bY 97),some (bY 98),some (bY 99),some (bY 100)]:=by kernel_rfl
theorem Oz:bm (ofString "gcd")=some (bY 3):=Option.some.inj (congrArg (λl=>l[0]?) bg)
theorem FL:bm (ofString "bits_of")=some (bY 4):=Option.some.inj (congrArg (λl=>l[1]?) bg)
theorem OA:bm (ofString "rat")=some (bY 9):=Option.some.inj (congrArg (λl=>l[2]?) bg)
theorem Nf:bm (ofString "radd")=some (bY 10):=Option.some.inj (congrArg (λl=>l[3]?) bg)
theorem Ng:bm (ofString "rmul")=some (bY 11):=Option.some.inj (congrArg (λl=>l[4]?) bg)
theorem wI:bm (ofString "rpower")=some (bY 13):=Option.some.inj (congrArg (λl=>l[5]?) bg)
theorem HS:bm (ofString "is_num")=some (bY 18):=Option.some.inj (congrArg (λl=>l[6]?) bg)
theorem HT:bm (ofString "num_of")=some (bY 19):=Option.some.inj (congrArg (λl=>l[7]?) bg)
theorem pJ:bm (ofString "is_whole_num")=some (bY 20):=Option.some.inj (congrArg (λl=>l[8]?) bg)
theorem yb:bm (ofString "inner_terms")=some (bY 21):=Option.some.inj (congrArg (λl=>l[9]?) bg)
theorem js:bm (ofString "with_inner")=some (bY 22):=Option.some.inj (congrArg (λl=>l[10]?) bg)
theorem wJ:bm (ofString "is_too_great")=some (bY 23):=Option.some.inj (congrArg (λl=>l[11]?) bg)
theorem eS:bm (ofString "sign_between")=some (bY 26):=Option.some.inj (congrArg (λl=>l[12]?) bg)
theorem ua:bm (ofString "compare_values")=some (bY 27):=Option.some.inj (congrArg (λl=>l[13]?) bg)
theorem pK:bm (ofString "bare_factors")=some (bY 28):=Option.some.inj (congrArg (λl=>l[14]?) bg)
theorem fM:bm (ofString "front_value")=some (bY 29):=Option.some.inj (congrArg (λl=>l[15]?) bg)
theorem kO:bm (ofString "base_and_exponent")=some (bY 30):=Option.some.inj (congrArg (λl=>l[16]?) bg)
theorem pL:bm (ofString "compare_rows")=some (bY 31):=Option.some.inj (congrArg (λl=>l[17]?) bg)
theorem rf:bm (ofString "compare_exponents")=some (bY 32):=Option.some.inj (congrArg (λl=>l[18]?) bg)
theorem dz:bm (ofString "compare_bases")=some (bY 33):=Option.some.inj (congrArg (λl=>l[19]?) bg)
theorem mH:bm (ofString "compare_factors")=some (bY 34):=Option.some.inj (congrArg (λl=>l[20]?) bg)
theorem fo:bm (ofString "compare_terms")=some (bY 35):=Option.some.inj (congrArg (λl=>l[21]?) bg)
theorem wK:bm (ofString "merged_terms")=some (bY 36):=Option.some.inj (congrArg (λl=>l[22]?) bg)
theorem oE:bm (ofString "sort_terms")=some (bY 37):=Option.some.inj (congrArg (λl=>l[23]?) bg)
theorem yc:bm (ofString "number_term")=some (bY 47):=Option.some.inj (congrArg (λl=>l[24]?) bg)
theorem bP:bm (ofString "number_and_rest")=some (bY 48):=Option.some.inj (congrArg (λl=>l[25]?) bg)
theorem d7:bm (ofString "with_number")=some (bY 49):=Option.some.inj (congrArg (λl=>l[26]?) bg)
theorem sX:bm (ofString "flat_parts")=some (bY 50):=Option.some.inj (congrArg (λl=>l[27]?) bg)
theorem f7:bm (ofString "gathered_sum")=some (bY 51):=Option.some.inj (congrArg (λl=>l[28]?) bg)
theorem ye:bm (ofString "is_one_call")=some (bY 52):=Option.some.inj (congrArg (λl=>l[29]?) bg)
theorem jK:bm (ofString "as_power")=some (bY 53):=Option.some.inj (congrArg (λl=>l[30]?) bg)
theorem iR:bm (ofString "gathered_product")=some (bY 54):=Option.some.inj (congrArg (λl=>l[31]?) bg)
theorem fN:bm (ofString "power_of")=some (bY 55):=Option.some.inj (congrArg (λl=>l[32]?) bg)
theorem pM:bm (ofString "number_power")=some (bY 57):=Option.some.inj (congrArg (λl=>l[33]?) bg)
theorem FM:bm (ofString "call_of")=some (bY 64):=Option.some.inj (congrArg (λl=>l[34]?) bg)
theorem jL:bm (ofString "simplify")=some (bY 65):=Option.some.inj (congrArg (λl=>l[35]?) bg)
theorem iZ:bm (ofString "has_ratio")=some (bY 67):=Option.some.inj (congrArg (λl=>l[36]?) bg)
theorem nr:bm (ofString "settled")=some (bY 68):=Option.some.inj (congrArg (λl=>l[37]?) bg)
theorem jM:bm (ofString "is_blank")=some (bY 74):=Option.some.inj (congrArg (λl=>l[38]?) bg)
theorem pN:bm (ofString "put_together")=some (bY 75):=Option.some.inj (congrArg (λl=>l[39]?) bg)
theorem oF:bm (ofString "bind_blank")=some (bY 76):=Option.some.inj (congrArg (λl=>l[40]?) bg)
theorem sY:bm (ofString "match_rows")=some (bY 77):=Option.some.inj (congrArg (λl=>l[41]?) bg)
theorem gK:bm (ofString "match_parts")=some (bY 78):=Option.some.inj (congrArg (λl=>l[42]?) bg)
theorem yf:bm (ofString "blanks_last")=some (bY 79):=Option.some.inj (congrArg (λl=>l[43]?) bg)
theorem d8:bm (ofString "match_with")=some (bY 80):=Option.some.inj (congrArg (λl=>l[44]?) bg)
theorem EC:bm (ofString "match")=some (bY 81):=Option.some.inj (congrArg (λl=>l[45]?) bg)
theorem sZ:bm (ofString "put_blanks")=some (bY 82):=Option.some.inj (congrArg (λl=>l[46]?) bg)
theorem vy:bm (ofString "not_too_great")=some (bY 83):=Option.some.inj (congrArg (λl=>l[47]?) bg)
theorem yL:bm (ofString "rule_at")=some (bY 84):=Option.some.inj (congrArg (λl=>l[48]?) bg)
theorem kj:bm (ofString "rule_once")=some (bY 85):=Option.some.inj (congrArg (λl=>l[49]?) bg)
theorem yg:bm (ofString "apply_rules")=some (bY 86):=Option.some.inj (congrArg (λl=>l[50]?) bg)
theorem wL:bm (ofString "_law_take")=some (bY 88):=Option.some.inj (congrArg (λl=>l[51]?) bg)
theorem dL:bm (ofString "_law_leaf")=some (bY 90):=Option.some.inj (congrArg (λl=>l[52]?) bg)
theorem jN:bm (ofString "_law_term")=some (bY 91):=Option.some.inj (congrArg (λl=>l[53]?) bg)
theorem eI:bm (ofString "_law_opened")=some (bY 92):=Option.some.inj (congrArg (λl=>l[54]?) bg)
theorem wM:bm (ofString "_law_both")=some (bY 93):=Option.some.inj (congrArg (λl=>l[55]?) bg)
theorem De:bm (ofString "_law_rows")=some (bY 94):=Option.some.inj (congrArg (λl=>l[56]?) bg)
theorem yh:bm (ofString "_law_choices")=some (bY 95):=Option.some.inj (congrArg (λl=>l[57]?) bg)
theorem s0:bm (ofString "_law_parted")=some (bY 96):=Option.some.inj (congrArg (λl=>l[58]?) bg)
theorem bj:bm (ofString "_law_readings")=some (bY 97):=Option.some.inj (congrArg (λl=>l[59]?) bg)
theorem dm:bm (ofString "_law_is_small")=some (bY 98):=Option.some.inj (congrArg (λl=>l[60]?) bg)
theorem wN:bm (ofString "_law_lead_out")=some (bY 99):=Option.some.inj (congrArg (λl=>l[61]?) bg)
theorem OB:bm (ofString "law")=some (bY 100):=Option.some.inj (congrArg (λl=>l[62]?) bg)
noncomputable def OC:Stmt→List Stmt
 |.If _ a b _=>a++b
 |.For _ _ body _ _=>body
 |.While _ body _ _=>body
 |_=> []
noncomputable def zO:List Stmt→List Nat→Option Stmt
 |_,[]=>none
 |b,[i]=>b[i]?
 |b,i::p=>(b[i]?).bind λs=>zO (OC s) p
noncomputable def OD:Expr→List Expr
 |.Call f as _ _=>f::as
 |.BinOp l _ r _=> [l,r]
 |.Compare l _ rs _=>l::rs
 |.Subscript o i _=> [o,i]
 |.Tuple es _ _=>es
 |.List es _=>es
 |.IfExp t a b _=> [t,a,b]
 |.BoolOp _ es _=>es
 |.UnaryOp _ x _=> [x]
 |.ListComp e gs _ _=>e::gs.map (·.iter)
 |_=> []
noncomputable def OE:Stmt→Option Expr
 |.Assign _ e _=>some e
 |.Return e _=>e
 |.If t _ _ _=>some t
 |.For _ it _ _ _=>some it
 |.While t _ _ _=>some t
 |.Expr e _=>some e
 |.AugAssign _ _ e _=>some e
 |_=>none
noncomputable def HU:Option Expr→List Nat→Option Expr
 |e,[]=>e
 |e,i::p=>HU (e.bind λe=>(OD e)[i]?) p
noncomputable def OF(C:Str→List B→fH→U→Prop)(f:Str)(d:sr)(k:Nat):VL:=zN C 1000 k d.names (zt f) (rJ f)
noncomputable def Mg(d:sr)(p:List Nat):Option (Expr×List Stmt):=(zO d.body p).bind λs=>match s with
 |.For t _ body _ _=>some (t,body)
 |_=>none
noncomputable def ED(d:sr)(p:List Nat):Option (Expr×List Stmt):=(zO d.body p).bind λs=>match s with
 |.While t body _ _=>some (t,body)
 |_=>none
noncomputable def zP(d:sr)(p q:List Nat):Option (Expr×List Comprehension×o7):=(HU ((zO d.body p).bind OE) q).bind λe=>match e with
 |.ListComp elt gs sc _=>some (elt,gs,sc)
 |_=>none
theorem CA{R S:U→Prop}(h:∀u,R u→S u):∀ {T:Tr},T.sat R→T.sat S:=by
 intro T
 induction T with
 |ret u=>exact h u
 |fail=>exact id
 |opt o k ih=>exact λ⟨u,e,q⟩=>⟨u,e,ih u q⟩
 |bool b k ih=>exact ih b
 |rel P k ih=>exact λ⟨u,e,q⟩=>⟨u,e,ih u q⟩
theorem pO{α:Type}{o:Option α}{T:α→Tr}{v:U}{L L':α→Prop}(h:(o.elim .fail T).sat (·=v))(k:o.elim False L)(m:∀a,L a→(T a).sat (·=v)→L' a):o.elim False L':=by
 induction o with
 |none=>exact k
 |some a=>exact m a k h
theorem ub{α:Type}{o:Option α}{T:α→Tr}{v:U}{L':α→Prop}(h:(o.elim .fail T).sat (·=v))(m:∀a,(T a).sat (·=v)→L' a):o.elim False L':=by
 induction o with
 |none=>exact h
 |some a=>exact m a h
theorem mI{T:Tr}{v:U}{S:U→Prop}(h:T.sat (·=v))(k:S v):T.sat S:=CA (λu e=>by cases e;exact k) h
noncomputable def wO(C:Str→List B→fH→U→Prop)(f:Str)(d:sr)(p:List Nat)(x:ab)(st:St):Tr:=(Mg d p).elim .fail λa=>yJ st.ρ a.1 x λρ₁=>pI (OF C f d (14-p.length)) a.2 ⟨ρ₁,st.σ⟩ λf s=>.ret (.f f s)
noncomputable def fO(C:Str→List B→fH→U→Prop)(f:Str)(d:sr)(p:List Nat)(items:List ab)(st:St)(fl:Fl)(st':St):Prop:=(Mg d p).elim False λa=>rO (OF C f d (14-p.length)) a.1 a.2 items st λf' s''=>f'=fl∧s''=st'
section
variable {C:Str→List B→fH→U→Prop} {f:Str} {d:sr} {p:List Nat} {x:ab} {r:List ab} {st s st':St} {fl:Fl}
theorem fO.next(h:(wO C f d p x st).sat (·=.f .next s))(k:fO C f d p r s fl st'):fO C f d p (x::r) st fl st':=pO h k λa k h=>mI h k
theorem fO.cont(h:(wO C f d p x st).sat (·=.f .cont s))(k:fO C f d p r s fl st'):fO C f d p (x::r) st fl st':=pO h k λa k h=>mI h k
theorem fO.brk(h:(wO C f d p x st).sat (·=.f .brk s)):fO C f d p (x::r) st .next s:=ub h λa h=>mI h ⟨rfl,rfl⟩
theorem fO.ret{b:B}(h:(wO C f d p x st).sat (·=.f (.ret b) s)):fO C f d p (x::r) st (.ret b) s:=ub h λa h=>mI h ⟨rfl,rfl⟩
end
noncomputable def Mh(C:Str→List B→fH→U→Prop)(f:Str)(d:sr)(p:List Nat)(st:St):Tr:=(ED d p).elim .fail λa=>(OF C f d (14-p.length)).evT a.1 st λb s=>GW b (pI (OF C f d (14-p.length)) a.2 s λf s=>.ret (.f f s)) (.ret (.s [] s))
noncomputable def kF(C:Str→List B→fH→U→Prop)(f:Str)(d:sr)(p:List Nat)(W:Nat)(st:St)(fl:Fl)(st':St):Prop:=(ED d p).elim False λa=>nq (OF C f d (14-p.length)) a.1 a.2 W st λf' s''=>f'=fl∧s''=st'
section
variable {C:Str→List B→fH→U→Prop} {f:Str} {d:sr} {p:List Nat} {st s st':St} {fl:Fl} {W:Nat}
theorem kF.done{l:List ab}(h:(Mh C f d p st).sat (·=.s l s)):kF C f d p (W+1) st .next s:=ub h λa h=>mI h ⟨rfl,rfl⟩
theorem kF.next(h:(Mh C f d p st).sat (·=.f .next s))(k:kF C f d p W s fl st'):kF C f d p (W+1) st fl st':=pO h k λa k h=>mI h k
end
noncomputable def EE{β:Type}(z:β)(gs:List Comprehension)(k:Comprehension→List Comprehension→β):β:=@List.rec Comprehension (λ_=>β) z (λg gs _=>k g gs) gs
noncomputable def OG(C:Str→List B→fH→U→Prop)(d:sr)(p q:List Nat)(k:Nat)(x:ab)(acc:List ab)(st:St):Tr:=(zP d p q).elim .fail λa=>EE .fail a.2.1 λg gs=>Et a.2.2.names (zN C 1000 k a.2.2.names [] false) g.target g.ifs (Db ⟨C,a.2.2.names,[],false⟩ (zN C 1000 k a.2.2.names [] false) (zM a.2.1) a.1 (oC ⟨C,a.2.2.names,[],false⟩ (zN C 1000 k a.2.2.names [] false) (zM a.2.1) a.1 gs) gs) x acc st
noncomputable def fh(C:Str→List B→fH→U→Prop)(d:sr)(p q:List Nat)(k:Nat)(items acc:List ab)(st:St)(res:List ab)(st':St):Prop:=(zP d p q).elim False λa=>oC ⟨C,a.2.2.names,[],false⟩ (zN C 1000 k a.2.2.names [] false) (zM a.2.1) a.1 a.2.1 items acc st λr' s''=>r'=res∧s''=st'
theorem fh.cons{C:Str→List B→fH→U→Prop}{d:sr}{p q:List Nat}{k:Nat}{x:ab}{r acc acc' res:List ab}{st s st':St}(h:(OG C d p q k x acc st).sat (·=.s acc' s))(hk:fh C d p q k r acc' s res st'):fh C d p q k (x::r) acc st res st':=pO h hk λa k h=>by
 obtain⟨elt,gs,sc⟩:=a
 induction gs using am with
 |nil=>exact h.elim
 |cons g gs=>exact mI h k
noncomputable def OH(C:Str→List B→fH→U→Prop)(d:sr)(p q:List Nat)(k:Nat)(x:ab)(acc:List ab)(st:St):Tr:=(zP d p q).elim .fail λa=>EE .fail a.2.1 λ_ gs1=>EE .fail gs1 λg gs=>Et a.2.2.names (zN C 1000 k a.2.2.names [] false) g.target g.ifs (Db ⟨C,a.2.2.names,[],false⟩ (zN C 1000 k a.2.2.names [] false) (zM a.2.1) a.1 (oC ⟨C,a.2.2.names,[],false⟩ (zN C 1000 k a.2.2.names [] false) (zM a.2.1) a.1 gs) gs) x acc st
noncomputable def yM(C:Str→List B→fH→U→Prop)(d:sr)(p q:List Nat)(k:Nat)(items acc:List ab)(st:St)(res:List ab)(st':St):Prop:=(zP d p q).elim False λa=>EE False a.2.1 λ_ gs=>oC ⟨C,a.2.2.names,[],false⟩ (zN C 1000 k a.2.2.names [] false) (zM a.2.1) a.1 gs items acc st λr' s''=>r'=res∧s''=st'
theorem yM.cons{C:Str→List B→fH→U→Prop}{d:sr}{p q:List Nat}{k:Nat}{x:ab}{r acc acc' res:List ab}{st s st':St}(h:(OH C d p q k x acc st).sat (·=.s acc' s))(hk:yM C d p q k r acc' s res st'):yM C d p q k (x::r) acc st res st':=pO h hk λa k h=>by
 obtain⟨elt,gs,sc⟩:=a
 induction gs using am with
 |nil=>exact h.elim
 |cons g gs=>induction gs using am with
  |nil=>exact h.elim
  |cons g gs=>exact mI h k
noncomputable def OI(σ:fH)(fl:Fl)(s:St):Tr:=match fl with
 |.next=>.ret (.c (.v .none) (s.σ.take σ.length))
 |.ret (.v y)=>.ret (.c (.v y) (s.σ.take σ.length))
 |.ret (.l m)=>.ret (.c (.l m) s.σ)
 |_=>.fail
noncomputable def EF(C:Str→List B→fH→U→Prop)(f:Str)(d:sr)(args:List B)(σ:fH):Tr:=P5 C 1000 f d args σ (OI σ)
noncomputable def Call:Nat→Str→List B→fH→U→Prop
 |0=>λ_ _ _ _=>False
 |n+1=>λf args σ u=>∃d,bm f=some d∧(EF (Call n) f d args σ).sat (·=u)
noncomputable def F.call{n:Nat}{f:Str}{args:List B}{σ σ':fH}{b:B}(h:Call n f args σ (.c b σ')):lR:=⟨Call n f args σ (.c b σ'),h,.c b σ'⟩
noncomputable def F.b{b c:Bool}(h:b=c):lR:=⟨b=c,h,.b c⟩
noncomputable def bx{o:Option Bool}{c:Bool}(h:o=some c):lR:=⟨o.map U.b=some (.b c),by refine h ..▸?_;rfl,.b c⟩
noncomputable def F.d{o:Option ab}{c:ab}(h:o=some c):lR:=⟨o.map U.d=some (.d c),by refine h ..▸?_;rfl,.d c⟩
noncomputable def F.ds{o:Option (List ab)}{c:List ab}(h:o=some c):lR:=⟨o.map U.ds=some (.ds c),by refine h ..▸?_;rfl,.ds c⟩
noncomputable def F.n{o:Option Nat}{c:Nat}(h:o=some c):lR:=⟨o.map U.n=some (.n c),by refine h ..▸?_;rfl,.n c⟩
noncomputable def vD{o:Option bE}{c:bE}(h:o=some c):lR:=⟨o.map U.cl=some (.cl c),by refine h ..▸?_;rfl,.cl c⟩
noncomputable def F.u{o:Option U}{u:U}(h:o=some u):lR:=⟨o=some u,h,u⟩
noncomputable def F.x{x y:ab}(h:x=y):lR:=⟨(some (U.d x))=some (.d y),by exact h ..▸rfl,.d y⟩
noncomputable def F.cl{x y:bE}(h:x=y):lR:=⟨(some (U.cl x))=some (.cl y),by exact h ..▸rfl,.cl y⟩
noncomputable def F.loop{C:Str→List B→fH→U→Prop}{f:Str}{d:sr}{p:List Nat}{items:List ab}{st:St}{fl:Fl}{st':St}(h:fO C f d p items st fl st'):lR:=⟨_,h,.f fl st'⟩
noncomputable def GP{C:Str→List B→fH→U→Prop}{f:Str}{d:sr}{p:List Nat}{st:St}{fl:Fl}{st':St}(h:kF C f d p 1000 st fl st'):lR:=⟨_,h,.f fl st'⟩
noncomputable def F.comp{C:Str→List B→fH→U→Prop}{d:sr}{p q:List Nat}{k:Nat}{items acc:List ab}{st:St}{res:List ab}{st':St}(h:fh C d p q k items acc st res st'):lR:=⟨_,h,.s res st'⟩
noncomputable def JV{C:Str→List B→fH→U→Prop}{d:sr}{p q:List Nat}{k:Nat}{items acc:List ab}{st:St}{res:List ab}{st':St}(h:yM C d p q k items acc st res st'):lR:=⟨_,h,.s res st'⟩
theorem Nh{as:List (Nat×lR)}:∀p∈Ps as,p:=by
 intro p h;refine aG (List.mem_map.mp h) λa _ z1=>?_;obtain rfl:=z1;exact a.2.h
theorem le{T:Tr}(as:List (Nat×lR)){u:U}(h:T.go as=some (Ps as,u)):T.sat (·=u):=Oo T as _ u h Nh rfl
theorem br{n:Nat}(hn:1≤n){f:Str}{d:sr}{args:List B}{σ:fH}{u:U}(hd:bm f=some d)(as:List (Nat×lR))(h:(EF (Call (n-1)) f d args σ).go as=some (Ps as,u)):Call n f args σ u:=by
 induction n using cZ with
 |zero=>cases hn
 |succ n=>exact aV d hd (le as h)
noncomputable def bU(n:Nat)(f:Str)(as:List ab)(r:ab):Prop:=Call n f (as.map .v) [] (.c (.v r) [])
noncomputable def ar{n:Nat}{f:Str}{as:List ab}{r:ab}(h:bU n f as r):lR:=⟨bU n f as r,h,.c (.v r) []⟩
theorem aT{n:Nat}(hn:1≤n){f:Str}{d:sr}{args:List ab}{r:ab}(hd:bm f=some d)(as:List (Nat×lR))(h:(EF (Call (n-1)) f d (args.map .v) []).go as=some (Ps as,.c (.v r) [])):bU n f args r:=br hn hd as h
theorem pos{k n:Nat}(hn:k+1≤n):1≤n:=aa (qr k) hn
theorem fu{x c n:Nat}(c':Nat)(hn:x+c≤n)(h:Nat.ble (c'+1) c=true:=by rfl):x+c'≤n-1:=by
 exact nw [_,_,_,_,_] (.d (.a yA yB) yC (.d (.s yD) yB (.d yC (.s yE) .n))) (.a yA yD) yE rfl hn (kC h) (a6 _ _)
theorem fz{c n:Nat}(c':Nat)(hn:c≤n)(h:Nat.ble (c'+1) c=true:=by rfl):c'≤n-1:=by
 exact nw [_,_,_,_] (.d yA yB (.d (.s yC) yA (.d yB (.s yD) .n))) yC yD rfl hn (kC h) (a6 _ _)
section
variable {R:U→Prop}
theorem gG{o:Option ab}{k:ab→Tr}(h:(t9 o k).sat R):∃d,o=some d∧(k d).sat R:=by
 refine aG h λu e h=>?_
 induction o with
 |none=>exact nsN e
 |some d=>obtain rfl:=Option.some.inj e;exact aV d rfl h
theorem qC{o:Option (List ab)}{k:List ab→Tr}(h:(uY o k).sat R):∃d,o=some d∧(k d).sat R:=by
 refine aG h λu e h=>?_
 induction o with
 |none=>exact nsN e
 |some d=>obtain rfl:=Option.some.inj e;exact aV d rfl h
theorem s5{o:Option Bool}{k:Bool→Tr}(h:(C9 o k).sat R):∃d,o=some d∧(k d).sat R:=by
 refine aG h λu e h=>?_
 induction o with
 |none=>exact nsN e
 |some d=>obtain rfl:=Option.some.inj e;exact aV d rfl h
theorem HV{o:Option Nat}{k:Nat→Tr}(h:(Op o k).sat R):∃d,o=some d∧(k d).sat R:=by
 refine aG h λu e h=>?_
 induction o with
 |none=>exact nsN e
 |some d=>obtain rfl:=Option.some.inj e;exact aV d rfl h
theorem Bw{o:Option B}{k:B→Tr}(h:(M4 o k).sat R):∃d,o=some d∧(k d).sat R:=by
 refine aG h λu e h=>?_
 induction o with
 |none=>exact nsN e
 |some d=>obtain rfl:=Option.some.inj e;exact aV d rfl h
theorem zQ{x:ab}{k:ab→Tr}(h:(Pk x k).sat R):(k x).sat R:=by
 refine aG h λu e h=>?_;obtain rfl:=Option.some.inj e;exact h
theorem s6{x:bE}{k:bE→Tr}(h:(NZ x k).sat R):(k x).sat R:=by
 refine aG h λu e h=>?_;obtain rfl:=Option.some.inj e;exact h
theorem kG{σ:fH}{n:Nat}{k:bE→Tr}(h:(FJ σ n k).sat R):∃c,σ[n]?=some (some c)∧(k c).sat R:=by
 refine aG h λu e h=>?_
 induction hc:t8 σ n with
 |none=>rw[hc]at e;exact nsN e
 |some c=>rw[hc]at e;obtain rfl:=Option.some.inj e;exact aV c (FI hc) h
theorem s7{σ:fH}{c:bE}{k:fH→Tr}(h:(zK σ c k).sat R):(k (σ++ [some c])).sat R:=by
 refine aG h λu e h=>?_;rw[zL]at e;obtain rfl:=Option.some.inj e;exact h
theorem oG{σ:fH}{n:Nat}{c:Option bE}{k:fH→Tr}(h:(K2 σ n c k).sat R):(k (σ.set n c)).sat R:=by
 refine aG h λu e h=>?_;rw[Es]at e;obtain rfl:=Option.some.inj e;exact h
theorem cq{b:Bool}{t:Tr}(h:(mX b t).sat R):b=true∧t.sat R:=by
 induction b with
 |true=>exact⟨rfl,h⟩
 |false=>exact h.elim
theorem eB{b:Bool}{t:Tr}(h:(oB b t).sat R):b=true∧t.sat R:=by
 induction b with
 |true=>exact⟨rfl,h⟩
 |false=>exact h.elim
theorem s8{α:Type}{o:Option α}{k:α→Tr}(h:(wF o k).sat R):∃a,o=some a∧(k a).sat R:=by
 induction o with
 |none=>exact h.elim
 |some a=>exact aV a rfl h
theorem HW{α β:Type}(l:List (α×β))(k:List (α×β)→Tr):Os l k=k l:=by
 induction l generalizing k with
 |nil=>rfl
 |cons a l ih=>exact ih _
theorem Ni{α:Type}(l:List α)(k:List α→Tr):PY l k=k l:=by
 induction l generalizing k with
 |nil=>rfl
 |cons a l ih=>exact ih _
theorem Nj(b:Bool)(k:Bool→Tr):Qu b k=k b:=by induction b<;>rfl
theorem Nk(b:Option B)(k:Option B→Tr):PZ b k=k b:=by induction b<;>rfl
theorem Nl(n:Nat)(d:ab)(x:Str)(v:Option B):(x,C8 n d v)=kE n d (x,v):=by
 induction v with
 |none=>rfl
 |some b=>induction b using B.casesOn with
  |v _=>rfl
  |l m=>
   show(x,match mr m n with|true=>some (B.v d)|false=>some (B.l m))=if m=n then(x,some (B.v d))else(x,some (B.l m))
   induction h:mr m n with
   |true=>exact if_pos (rz h) ..▸rfl
   |false=>exact if_neg (Nat.ne_of_beq_eq_false h) ..▸rfl
theorem Nn(n:Nat)(d:ab)(ρ:je)(k:je→Tr):P0 n d ρ k=k (ρ.map (kE n d)):=by
 induction ρ generalizing k with
 |nil=>rfl
 |cons p l ih=>exact(ih _).trans (aE ..▸(Nl ..)▸rfl)
theorem s9(ρ:je)(x:Str)(b:B)(k:je→Tr):np ρ x b k=k (iP ρ x b):=by
 induction ρ generalizing k with
 |nil=>rfl
 |cons p l ih=>
  obtain⟨y,v⟩:=p;show(match y==x with|true=>np l x b λr'=>k ((y,some b)::r')|false=>np l x b λr'=>k ((y,v)::r'))=_;have e:iP ((y,v)::l) x b=(if(y==x)=true then(y,some b)else(y,v))::iP l x b:=rfl;refine e ..▸?_
  induction h:y==x with
  |true=>exact ih _
  |false=>exact ih _
end
structure Cf where
 prog:cD
 w:bi
 h₀:bv
 mg:Str→Option ai
 mb:Str→Option ai
 T:pE w h₀ mg mb
noncomputable abbrev Cf.M(c:Cf):Model:=aZ c.prog c.w
structure Fm where
 env:Env
 names:List (Str×aK)
 K:bO env names
structure At (c:Cf) (env:Env) (st:St) where
 h:bv
 tk:Tok
 G:Fz
 θ:List aI
 ok:Ok c.w c.h₀ env G θ st h
section
variable {c:Cf} {env:Env} {st st' st'':St} {z:ag}
noncomputable def At.s(S:At c env st)(z:ag):ag:={z with heap:=S.h,toks:=S.tk}
noncomputable def At.To(S:At c env st){st':St}(S':At c env st'):Prop:=dg [] S.θ S.G S.h S'.θ S'.G S'.h
noncomputable def At.ToX(S:At c env st){st':St}(S':At c env st'):Prop:=dg (priv env) S.θ S.G S.h S'.θ S'.G S'.h
theorem At.To.trans{S:At c env st}{S':At c env st'}{S'':At c env st''}(x:S.To S')(y:S'.To S''):S.To S'':=dg.trans x y
theorem At.To.rp{S:At c env st}{S':At c env st'}(x:S.To S'){v:ai}{d:ab}(r:Rp c.w S.G v d):Rp c.w S'.G v d:=r.mono x.grow
theorem At.To.rb{S:At c env st}{S':At c env st'}(x:S.To S'){v:ai}{b:B}(r:rD c.w S.G S.θ v b):rD c.w S'.G S'.θ v b:=by
 refine aG x.pre λt e _=>?_;exact r.mono x.grow ⟨t,e⟩
theorem At.To.x{S:At c env st}{S':At c env st'}(x:S.To S'):S.ToX S':=dg.weaken x λa ha=>(cg ha)
theorem At.ToX.trans{S:At c env st}{S':At c env st'}{S'':At c env st''}(x:S.ToX S')(y:S'.ToX S''):S.ToX S'':=dg.trans x y
theorem At.refl(S:At c env st):S.To S:=dg.refl ..
theorem zR{S:At c env st}{b:B}{Q:ai→ag→Prop}(hQ:∀(S':At c env st')(v:ai),S.To S'→rD c.w S'.G S'.θ v b→Q v (S'.s z)):mx c.w c.h₀ env S.G S.θ (S.s z) st' b Q:=λv h' tk G' θ' O r e=>hQ ⟨h',tk,G',θ',O⟩ v e r
variable {R:U→Prop}
noncomputable def JY(S:At c env st)(z:ag)(R:U→Prop)(κ:B→St→Tr)(Q:ai→ag→Prop):Prop:=∀b st' (S':At c env st') v,S.To S'→rD c.w S'.G S'.θ v b→(κ b st').sat R→Q v (S'.s z)
noncomputable def KD(S:At c env st)(z:ag)(R:U→Prop)(κ:ab→St→Tr)(Q:ai→ag→Prop):Prop:=∀d st' (S':At c env st') v,S.To S'→Rp c.w S'.G v d→(κ d st').sat R→Q v (S'.s z)
noncomputable def HX(S:At c env st)(z:ag)(R:U→Prop)(κ:Bool→St→Tr)(Q:Bool→ag→Prop):Prop:=∀t st' (S':At c env st'),S.To S'→(κ t st').sat R→Q t (S'.s z)
noncomputable def KA(S:At c env st)(z:ag)(R:U→Prop)(m:Nat)(κ:List ab→St→Tr)(Q:List ai→ag→Prop):Prop:=∀ds st' (S':At c env st') vs,S.To S'→ds.length=m→ei c.w S'.G vs ds→(κ ds st').sat R→Q vs (S'.s z)
noncomputable def Qz(S:At c env st)(z:ag)(R:U→Prop)(κ:List B→St→Tr)(Q:List ai→ag→Prop):Prop:=∀bs st' (S':At c env st') vs,S.To S'→jj c.w S'.G S'.θ vs bs→(κ bs st').sat R→Q vs (S'.s z)
noncomputable def QA(w:bi)(G:Fz)(θ:List aI)(fl:Flow):Fl→Prop
 |.next=>fl=.next
 |.brk=>fl=.brk
 |.cont=>fl=.cont
 |.ret b=>∃v,fl=.ret v∧rD w G θ v b
noncomputable def KX(S:At c env st)(z:ag)(R:U→Prop)(κ:Fl→St→Tr)(Q:Flow→ag→Prop):Prop:=∀f st' (S':At c env st') fl,S.ToX S'→QA c.w S'.G S'.θ fl f→(κ f st').sat R→Q fl (S'.s z)
end
structure fj (c:Cf) (env:Env) (n k:Nat) (V:VL):Prop where
 ev:∀ {A:bC} {E:ai→ag→Prop} {e:Expr} {st:St} {κ:B→St→Tr} {R:U→Prop} {z:ag} {Q:ai→ag→Prop} (_:gi A n k) (S:At c env st),(V.ev e st κ).sat R→JY S z R κ Q→au c.M A (eval e env) Q E (S.s z)
 evT:∀ {A:bC} {E:ai→ag→Prop} {e:Expr} {st:St} {κ:Bool→St→Tr} {R:U→Prop} {z:ag} {Q:Bool→ag→Prop} (_:gi A n k) (S:At c env st),(V.evT e st κ).sat R→HX S z R κ Q→au c.M A (uO e env (eval e env)) Q E (S.s z)
 exec:∀ {A:bC} {E:ai→ag→Prop} {e:Stmt} {st:St} {κ:Fl→St→Tr} {R:U→Prop} {z:ag} {Q:Flow→ag→Prop} (_:gi A n k) (S:At c env st),(V.exec e st κ).sat R→KX S z R κ Q→au c.M A (exec e env) Q E (S.s z)
theorem ic{env:Env}{pos:Pos}:∀ {args:List Expr},args.all dF=true→backTo pos (starEach args env)=args.map λe=>(false,eval e env)
 | [],_=>rfl
 |e::r,h=>by
  simp only[eV,ay]at h;have ih:=ic (env:=env) (pos:=pos) h.2;have:starEach (e::r) env=(false,eval e env)::starEach r env:=by
   induction e using cI<;>first|rfl|(exact absurd h.1 aR)
  refine this ..▸?_;unfold backTo at ih⊢;refine aE ..▸aE ..▸ih ..▸?_;rfl
theorem gq{env:Env}:∀ {args:List Expr},(args.map λe=>((false,eval e env):Bool×Sem ai)).any (·.1)=false
 | []=>rfl
 |e::r=>by refine(aE ..).symm▸(gZ ..).symm▸(gq ..).symm▸?_;rfl
section
variable {c:Cf} {env:Env} {n k:Nat} {V:VL} {A:bC} {E:ai→ag→Prop} {R:U→Prop} {z:ag} {st:St}
theorem HY{b:B}{S:At c env st}{v:ai}{κ:ab→St→Tr}{Q:ai→ag→Prop}(r:rD c.w S.G S.θ v b)(h:(P3 b st κ).sat R)(hQ:KD S z R κ Q):Q v (S.s z):=by
 induction b using B.casesOn with
 |v d=>exact hQ d st S v S.refl r h
 |l n=>
  obtain⟨ρ,σ⟩:=st;refine aG (kG h) λa e1 h=>?_;refine aG (gG h) λd e2 h=>?_;rw[Nn]at h;refine eo (Fq (st':=⟨ρ.map (kE n d),σ.set n none⟩) S.ok r (d:=d) (by simp only[zr];refine e1 ..▸?_;simp only;refine e2 ..▸?_;rfl)) λG' O rd ev=>?_;exact hQ d _ ⟨S.h,S.tk,G',S.θ,O⟩ v ev rd (oG h)
theorem fj.evD(X:fj c env n k V)(B:gi A n k)(S:At c env st){e:Expr}{κ:ab→St→Tr}{Q:ai→ag→Prop}(h:(V.evD e st κ).sat R)(hQ:KD S z R κ Q):au c.M A (eval e env) Q E (S.s z):=
 X.ev B S h λb st' S' v t r h'=>HY r h' λd st'' S'' v' t'=>hQ d st'' S'' v' (t.trans t')
theorem fj.evDs(X:fj c env n k V)(B:gi A n k){es:List Expr}:∀ {st:St} (S:At c env st) {κ:List ab→St→Tr} {Q:List ai→ag→Prop},(V.evDs es st κ).sat R→KA S z R es.length κ Q→au c.M A (spliced (es.map λe=>(false,eval e env))) Q E (S.s z):=by
 induction es with
 |nil=>exact λS _ _ h hQ=>py (hQ [] _ S [] S.refl rfl .nil h)
 |cons e r ih=>exact λS _ _ h hQ=>nS (X.evD B S h λd st' S' v t rv h'=>ih S' h' λds st'' S'' vs t' l rs h''=>hQ (d::ds) st'' S'' (v::vs) (t.trans t') (congrArg gA l) (.cons (t'.rp rv) rs) h'')
theorem fj.args(X:fj c env n k V)(B:gi A n k)(S:At c env st){es:List Expr}{f:ai}{κ:List ab→St→Tr}{Q:Args→ag→Prop}(h:(V.evDs es st κ).sat R)(hQ:KA S z R es.length κ λvs=>Q ⟨vs,[]⟩):
  au c.M A (evalArgs f true (es.map λe=>(false,eval e env)) []) Q E (S.s z):=by
 induction es using am with
 |nil=>exact PySem.evalArgs_none (hQ [] _ S [] S.refl rfl .nil h)
 |cons e r=>exact uP (X.evDs B S h hQ)
end
section
variable {prog:cD} {w:bi} {A:bC} {E:ai→ag→Prop} {s:ag} {env:Env}
theorem pP{f:Str}{p pos:Pos}{args:List Expr}{Q:ai→ag→Prop}(hs:args.all dF=true)
  (h:au (aZ prog w) A (eval (.Name f p) env) (λfv s₁=>au (aZ prog w) A (callWith pos fv [] (args.map λe=>(false,eval e env)) []) Q E s₁) E s):au (aZ prog w) A (eval (.Call (.Name f p) args [] pos) env) Q E s:=by
 refine arm_eval_Call_Name' ..▸ic hs ..▸?_;exact af h
theorem HZ{o:Expr}{m:Str}{whole:Sem ai}(h:Hc o=false):attributeBase o m env whole=whole:=by
 induction o using cI<;>first|rfl|exact m7 h
theorem wP{o:Expr}{m:Str}{apos pos:Pos}{args:List Expr}{Q:ai→ag→Prop}(hm:lJ o apos pos args=true)
  (h:au (aZ prog w) A (eval o env) (λov s₁=>o9 prog w A m pos ov (args.map λe=>(false,eval e env)) Q E s₁) E s):au (aZ prog w) A (eval (.Call (.Attribute o m apos) args [] pos) env) Q E s:=by
 simp only[lJ,ay,nR,decide_eq_true_eq]at hm;refine aB hm λz1 h4=>?_;clear hm;refine aB z1 λz1 h3=>?_;obtain⟨h1,h2⟩:=z1;refine wpAny_Call_method_late (HZ h1) ?_ h2 (ic h3) h;refine ic h3 ..▸?_;simp only[vj,ay,decide_eq_true_eq,ch,List.isEmpty_nil,if_true];refine⟨⟨?_,rfl⟩,by exact nw [_] (.d (.s yA) (.k 20) .n) (.s (.a (.a yA (.k 0)) (.k 0))) (.k 30) rfl h4⟩;simp[Function.comp]
theorem pQ{m:Str}{id:String}{pos:Pos}{a:aI}{es:List cU}{j:Nat}{mM:List (Bool×Sem ai)}{Q:ai→ag→Prop}(ho:s.heap.get? a=some (fJ es j))(slot:Slot "dict" m id)(hty:typeOf (.builtin id)=pure (.type "method_descriptor"))
  (ht:mM.any (·.1)=false) (h:au (aZ prog w) A (evalArgs (.builtin id) true mM []) (λx s₁=>au (aZ prog w) A (call (.builtin id) ([.ref a]++x.pos) x.kw) Q E s₁) E s):o9 prog w A m pos (.ref a) mM Q E s:=
 ⟨"dict",id,PySem.F.plainAttrs_dict,slot,hty,(aV _ ho rfl),λb e=>by cases e;exact aV _ ho rfl,rA ht h⟩
theorem wQ{m:Str}{id:String}{pos:Pos}{a:aI}{vs:Array ai}{j:Nat}{mM:List (Bool×Sem ai)}{Q:ai→ag→Prop}(ho:s.heap.get? a=some {cls:=.type "list",data:=.seq vs j})(slot:Slot "list" m id)(hty:typeOf (.builtin id)=pure (.type "method_descriptor"))
  (ht:mM.any (·.1)=false) (h:au (aZ prog w) A (evalArgs (.builtin id) true mM []) (λx s₁=>au (aZ prog w) A (call (.builtin id) ([.ref a]++x.pos) x.kw) Q E s₁) E s):o9 prog w A m pos (.ref a) mM Q E s:=
 ⟨"list",id,PySem.F.plainAttrs_list,slot,hty,(aV _ ho rfl),λb e=>by cases e;exact aV _ ho rfl,rA ht h⟩
end
theorem pR{cx:Cy}{ρ:je}{f:Str}(h:Bu cx ρ f=true):cx.names.lookup f=some .globalImplicit:=by
 simp only[Bu,ay,beq_iff_eq]at h;exact h.2
section
variable {c:Cf} {f:Fm} {n k:Nat} {V:VL} {A:bC} {E:ai→ag→Prop} {R:U→Prop} {z:ag} {st:St}
theorem lh(X:fj c f.env n k V)(B:gi A n k)(S:At c f.env st){g:String}{p pos:Pos}{args:List Expr}{κ:List ab→St→Tr}{Q:ai→ag→Prop}(hs:args.all dF=true)(hg:f.names.lookup (ofString g)=some .globalImplicit)(hf:g∈builtins)
  (hv:c.mb (ofString g)=some (.type g)) (h:(V.evDs args st κ).sat R) (hQ:KA S z R args.length κ λvs=>au c.M A (call (.type g) vs) Q E):au c.M A (eval (.Call (.Name (ofString g) p) args [] pos) f.env) Q E (S.s z):=
 pP hs (kU c.T f.K S.ok hg hf hv (PySem.callWith_type gq (X.args B S h hQ)))
theorem qo(X:fj c f.env n k V)(B:gi A n k)(S:At c f.env st){g:String}{p pos:Pos}{args:List Expr}{κ:List ab→St→Tr}{Q:ai→ag→Prop}(hs:args.all dF=true)(hg:f.names.lookup (ofString g)=some .globalImplicit)(hf:g∈builtins)
  (hv:c.mb (ofString g)=some (.builtin g)) (h:(V.evDs args st κ).sat R) (hQ:KA S z R args.length κ λvs=>au c.M A (call (.builtin g) vs) Q E):au c.M A (eval (.Call (.Name (ofString g) p) args [] pos) f.env) Q E (S.s z):=
 pP hs (kU c.T f.K S.ok hg hf hv (rA gq (X.args B S h hQ)))
end
section
variable {prog:cD} {w:bi} {A:bC} {E:ai→ag→Prop} {s:ag} {h₀:bv} {env:Env} {G:Fz} {θ:List aI} {st:St}
variable {P θb:List aI} {Gb:Fz} {hb:bv}
theorem K6{v:ai}{d:ab}{xs:List ab}{Q:ai→ag→Prop}(hPe:∀b∈P,∃o,s.heap.get? b=some o)(O:Ok w h₀ env G θ st s.heap)(E0:dg [] θb Gb hb θ G s.heap)(r:Rp w G v d)(e:jB d=some xs)
  (hQ:∀I h',Ok w h₀ env G θ st h'→pb prog w P hb I (kM 0 xs) true 0 G θ h'→dg [] θb Gb hb θ G h'→au (aZ prog w) A (fQ (.ref I)) Q E {s with heap:=h'}):au (aZ prog w) A (call (.type "enumerate") [v]) (λr s₁=>au (aZ prog w) A (fQ r) Q E s₁) E s:=by
 have z:s.heap.objs.size+1≠s.heap.objs.size:=Nat.succ_ne_self _;have fr:=dY (h:=s.heap) (ak s.heap.objs.size);have fr1:=dY (h:=s.heap) (nW s.heap.objs.size);have main:∀(a:aI)(o:Obj)(Pv:Nat→ai→Prop)(S:Nat→bv→Prop)(h':bv),G a=some o→(∀A:bC,A.handled=none→Draws prog w A.in1 s.heap.objs.size [s.heap.objs.size,a] xs.length Pv S)→(∀i v d,Pv i v→xs[i]?=some d→Rp w G v d)→
   (∀i h,S i h→∀b∈ [s.heap.objs.size,a],∃o,h.get? b=some o)→IsEnum h' (s.heap.objs.size+1) s.heap.objs.size 0 .none→S 0 h'→(∀b o,s.heap.get? b=some o→h'.get? b=some o)→au (aZ prog w) A (fQ (.ref (s.heap.objs.size+1))) Q E {s with heap:=h'}:=by
  intro a o Pv S h' ga D hP hlv he hS kp;obtain⟨O',R,Ex⟩:=jT hPe O E0 (KB (ds:=xs) (G:=G) D z (by
   intro q;refine(aA.mp q).elim (λq=>?_) λq=>?_
   ·exact z q
   ·exact g9 _ (Nat.lt_trans (fg _) (show @LT.lt Nat _ (s.heap.objs.size+1) s.heap.objs.size from(ae.mp q)▸(mC O ga:a<s.heap.objs.size)))) (by simp) hP hlv) kp ⟨⟨.none,he⟩,hS⟩ (λb hb=>by
    rcases aA.mp hb with rfl|hb
    ·exact .inr fr1
    ·rcases aA.mp hb with rfl|hb
     ·exact .inr fr
     ·refine ae.mp hb ..▸?_;exact .inl ⟨_,ga⟩) (λb hb=>by
    rcases aA.mp hb with rfl|hb
    ·exact fr1
    ·refine ae.mp hb ..▸?_;exact fr)
  exact hQ _ _ O' R Ex
 induction d using aq<;>simp only[jB,Option.some.injEq,reduceCtorEq]at e
 ·subst e;refine lH (fx r) λa vs m z1 ga ra hl=>?_;obtain rfl:=z1;have hL:s.heap.IsList a vs.toArray:=⟨_,O.wd.froz _ _ ga,rfl,m,rfl⟩
  refine call_enumerate_list hL λh' he hit hsz kp=>?_;refine main a _ (λi v=>vs.toArray[i]?=some v) (λi h=>h.IsListIter s.heap.objs.size a i∧h.IsList a vs.toArray) h' ga (λA hh=>?_) (λi v d h1 h2=>?_) (λi h x b hb=>?_) he ⟨hit,hL.at λo e=>kp _ o e⟩ kp
  ·have:=Draws.list (prog:=prog) (w:=w) (A:=A.in1) hh s.heap.objs.size a (eg (mC O ga:a<s.heap.objs.size)) vs.toArray;rw[(aJ .. :vs.toArray.size=vs.length),ra.length]at this;exact this
  ·refine aG (ra.get h2) λv' h3 h4=>?_;rw[show vs.toArray[i]?=vs[i]? by simp,h3]at h1;obtain rfl:=Option.some.inj h1;exact h4
  ·rcases aA.mp hb with rfl|hb
   ·refine ff (jI x.1) λo _ q _=>?_;exact⟨o,q⟩
   ·refine ae.mp hb ..▸?_;refine aG x.2 λo q _=>?_;exact⟨o,q⟩
 ·subst e;refine wj (gF r) λa vs dd m sl z2 ga ra hl=>?_;obtain rfl:=z2;have hL:s.heap.IsTuple a vs.toArray:=⟨_,O.wd.froz _ _ ga,rfl,m,rfl⟩
  refine C2 (O.wd.froz _ _ ga) λh' he hit hsz kp=>?_;refine main a _ (λi v=>vs.toArray[i]?=some v) (λi h=>h.IsTupleIter s.heap.objs.size a i∧h.IsTuple a vs.toArray) h' ga (λA hh=>?_) (λi v d h1 h2=>?_) (λi h x b hb=>?_) he ⟨hit,hL.at λo e=>kp _ o e⟩ kp
  ·have:=drawsTuple (prog:=prog) (w:=w) (A:=A.in1) hh s.heap.objs.size a (eg (mC O ga:a<s.heap.objs.size)) vs.toArray;rw[(aJ .. :vs.toArray.size=vs.length),ra.length]at this;exact this
  ·refine aG (ra.get h2) λv' h3 h4=>?_;rw[show vs.toArray[i]?=vs[i]? by simp,h3]at h1;obtain rfl:=Option.some.inj h1;exact h4
  ·rcases aA.mp hb with rfl|hb
   ·refine ff (jl x.1) λo _ q _=>?_;exact⟨o,q⟩
   ·refine ae.mp hb ..▸?_;refine aG x.2 λo q _=>?_;exact⟨o,q⟩
theorem No{u v:ai}{xs ys:List ab}{Q:ai→ag→Prop}(hP:∀b∈P,∃o,s.heap.get? b=some o)(O:Ok w h₀ env G θ st s.heap)(E0:dg [] θb Gb hb θ G s.heap)(r1:Rp w G u (.list xs))(r2:Rp w G v (.list ys))
  (hQ:∀I h',Ok w h₀ env G θ st h'→pb prog w P hb I (A3 xs ys) true 0 G θ h'→dg [] θb Gb hb θ G h'→au (aZ prog w) A (fQ (.ref I)) Q E {s with heap:=h'}):au (aZ prog w) A (call (.type "zip") [u,v]) (λr s₁=>au (aZ prog w) A (fQ r) Q E s₁) E s:=by
 refine lH (fx r1) λa us m z3 ga ra _=>?_;obtain rfl:=z3;refine lH (fx r2) λb vs m' z4 gb rb _=>?_;obtain rfl:=z4;have ha:s.heap.IsList a us.toArray:=⟨_,O.wd.froz _ _ ga,rfl,m,rfl⟩
 have hb:s.heap.IsList b vs.toArray:=⟨_,O.wd.froz _ _ gb,rfl,m',rfl⟩
 have la:@LT.lt Nat _ a s.heap.objs.size:=mC O ga;have lb:@LT.lt Nat _ b s.heap.objs.size:=mC O gb;refine call_zip_2 ha hb λh' z p1 p2 i1 i2 hsz kp=>?_;have fr:∀j,s.heap.get? (s.heap.objs.size+j)=none:=λj=>dY (ao _ _);have D:ZipApart (s.heap.objs.size+4) (s.heap.objs.size+2) (s.heap.objs.size+3) s.heap.objs.size (s.heap.objs.size+1) a b:=by
  constructor<;>(show @Ne Nat _ _;omega)
 obtain⟨O',R,Ex⟩:=jT hP O E0 (MV (prog:=prog) (G:=G) D ra rb) kp ⟨z,p1,(ik _ _ p2),i1,i2,ha.at λo e=>kp _ o e,hb.at λo e=>kp _ o e⟩ (λc hc=>by
   simp only[aA,wb,or_false]at hc;rcases hc with rfl|rfl|rfl|rfl|rfl|rfl|rfl
   ·exact .inr (fr 4)
   ·exact .inr (fr 2)
   ·exact .inr (fr 3)
   ·exact .inr (fr 0)
   ·exact .inr (fr 1)
   ·exact .inl ⟨_,ga⟩
   ·exact .inl ⟨_,gb⟩) (λc hc=>by
   simp only[aA,wb,or_false]at hc;rcases hc with rfl|rfl|rfl|rfl
   ·exact fr 4
   ·exact fr 3
   ·exact fr 0
   ·exact fr 1)
 exact hQ _ _ O' R Ex
theorem pb.self{I:aI}{ds:List ab}{tup:Bool}{i:Nat}{Q:ai→ag→Prop}(hh:A.handled=none)(R:pb prog w P hb I ds tup i G θ s.heap)(h:Q (.ref I) s):au (aZ prog w) A (fQ (.ref I)) Q E s:=by
 refine PB R.ex λfp wr Gi St it q1 _=>?_;exact it.self A hh i s Q E q1 h
theorem It.any{I:aI}{fp wr:List aI}{Gi:Fz}{ds:List ab}{St:Nat→bv→Prop}{tup:Bool}(x:It prog w I fp wr Gi ds false St):It prog w I fp wr Gi ds tup St:=
 ⟨x.sub,x.live,x.frame,λA hh i d target s G Q E hd _ st g0 gf hQ=>x.item A hh i d target s G Q E hd (λe=>nomatch e) st g0 gf hQ,x.done,x.self⟩
theorem pb.any{I:aI}{ds:List ab}{tup:Bool}{i:Nat}{h:bv}(R:pb prog w P hb I ds false i G θ h):pb prog w P hb I ds tup i G θ h:=by
 obtain⟨⟨fp,wr,Gi,St,it,q⟩⟩:=R;exact⟨(MM fp wr Gi St it.any q)⟩
end
section
variable {c:Cf} {env:Env} {n k:Nat} {V:VL} {A:bC} {E:ai→ag→Prop} {R:U→Prop} {z:ag} {st:St} {P:List aI}
noncomputable def KI(S:At c env st)(z:ag)(R:U→Prop)(P:List aI)(tup:Bool)(κ:List ab→St→Tr)(Q:ai→ag→Prop):Prop:=∀ds st' (S':At c env st') I,S.To S'→ds.length≤cG→pb c.prog c.w P S.h I ds tup 0 S'.G S'.θ S'.h→(κ ds st').sat R→Q (.ref I) (S'.s z)
noncomputable def H0(P:List aI)(h:bv):Prop:=∀b∈P,∃o,h.get? b=some o
theorem At.To.liv{st':St}{S:At c env st}{S':At c env st'}(x:S.To S')(hP:H0 P S.h):H0 P S'.h:=λb hb=>let⟨o,q⟩:=hP b hb;x.dom b o q
theorem qD{w:bi}{G:Fz}{v:ai}{d:ab}{xs:List ab}(r:Rp w G v d)(h:sO d=some xs):xs.length≤cG:=by
 cases r<;>first|exact nsN h|exact dC h|obtain rfl:=Option.some.inj h|skip
 ·assumption
 ·assumption
 ·rename_i kvs _ _ q _;have h:(if(kvs.all λp=>ci p.1)=true then some (kvs.map (·.1))else none)=some xs:=h;split at h
  ·obtain rfl:=Option.some.inj h;refine(aN ..).symm▸?_;exact q.2.2
  ·exact nsN h
theorem FO(xs:List ab):∀n,(kM n xs).length=xs.length:=by
 induction xs with
 |nil=>exact λn=>rfl
 |cons a r ih=>exact λn=>congrArg gA (ih (n+1))
theorem H3(xs:List ab):∀ys,(A3 xs ys).length≤xs.length:=by
 induction xs with
 |nil=>exact λys=>ak _
 |cons a r ih=>intro ys;induction ys using am with
  |nil=>exact a7 _
  |cons b t=>exact bh (ih t)
theorem Df{a b:Int}(ha:mW a=true)(hb:mW b=true):(lI a b).length≤cG:=by
 have ha:=of_decide_eq_true ha;have hb:=of_decide_eq_true hb;rw[lI,aN,vn,dD];omega
theorem qE{d:ab}{xs:List ab}(h:jB d=some xs):sO d=some xs:=by induction d using aq<;>first|exact h|exact nsN h
theorem fj.plainIt(X:fj c env n k V)(B:gi A n k)(S:At c env st)(hP:H0 P S.h){e:Expr}{t:Bool}{κ:List ab→St→Tr}{Q:ai→ag→Prop}(h:(V.evD e st (HN κ)).sat R)(hQ:KI S z R P t κ Q):au c.M A (eval e env) (λr s₁=>au c.M A (fQ r) Q E s₁) E (S.s z):=
 X.evD B S h λd st' S' v t' r h=>by
  have fin:∀xs,sO d=some xs→(κ xs st').sat R→au c.M A (fQ v) Q E (S'.s z):=λxs e h=>yG (s:=S'.s z) (t'.liv hP) S'.ok t' r e λI h'' tk O it ev=>hQ xs st' ⟨h'',tk,S'.G,S'.θ,O⟩ I ev (qD r e) it.any h
  induction d using aq with
  |dict kvs=>
   refine aB (eB h) λe h=>?_;exact fin _ (by simp only[sO];exact if_pos (Bt e) ..▸rfl) h
  |_=>
   refine aG (qC h) λxs e h=>?_;exact fin xs (qE e) h
theorem fj.seqIt(X:fj c env n k V)(B:gi A n k)(S:At c env st)(hP:H0 P S.h){e:Expr}{t:Bool}{κ:List ab→St→Tr}{Q:ai→ag→Prop}(h:(V.evD e st λa s=>uY (jB a) λxs=>κ xs s).sat R)(hQ:KI S z R P t κ Q):au c.M A (eval e env) (λr s₁=>au c.M A (fQ r) Q E s₁) E (S.s z):=
 X.evD B S h λd st' S' v t' r h=>by
  refine aG (qC h) λxs e h=>?_;exact yG (s:=S'.s z) (t'.liv hP) S'.ok t' r (qE e) λI h'' tk O it ev=>hQ xs st' ⟨h'',tk,S'.G,S'.θ,O⟩ I ev (qD r (qE e)) it.any h
variable {cx:Cy}
theorem FP{ds:List ab}{q:Int×Int}(h:Da ds=some q):ds= [.int q.2]∧q.1=0∨ds= [.int q.1,.int q.2]:=by
 rcases ds with _|⟨a,_|⟨b,_|⟨c,r⟩⟩⟩
 ·exact nsN h
 ·induction a using aq<;>first|exact nsN h|exact .inl (Option.some.inj h▸⟨rfl,rfl⟩)
 ·induction a using aq<;>first|exact nsN h|(induction b using aq<;>first|exact nsN h|exact .inr (Option.some.inj h▸rfl))
 ·induction a using aq<;>first|exact nsN h|(induction b using aq<;>exact nsN h)
theorem H4(K:bO env cx.names)(X:fj c env n k V)(B:gi A n k)(S:At c env st)(hP:H0 P S.h){p pos:Pos}{args:List Expr}{t:Bool}{κ:List ab→St→Tr}{Q:ai→ag→Prop}(hs:args.all dF=true)(hl:cx.names.lookup (ofString "range")=some .globalImplicit)(h:(V.evDs args st λa s=>wF (Da a) λr=>oB (mW r.1&&mW r.2) (κ (lI r.1 r.2) s)).sat R)(hQ:KI S z R P t κ Q):au c.M A (eval (.Call (.Name (ofString "range") p) args [] pos) env) (λr s₁=>au c.M A (fQ r) Q E s₁) E (S.s z):=
 lh (f:=⟨env,cx.names,K⟩) X B S hs hl (by decide) c.T.rangeT h λds st' S' vs t' _ rs h=>by
  refine aG (s8 h) λz5 e h=>?_;obtain⟨a,b⟩:=z5;refine aB (eB h) λhb h=>?_;rw[ay]at hb;have fin:∀(r1 r2 r3:Tok)(tk:Tok),IsRange (S'.h.push {cls:=.type "range",data:=.fields #[.int a r1,.int b r2,.int 1 r3]}) S'.h.objs.size a b 1 r1 r2 r3→au c.M A (fQ (.ref S'.h.objs.size)) Q E {S'.s z with heap:=S'.h.push {cls:=.type "range",data:=.fields #[.int a r1,.int b r2,.int 1 r3]},toks:=tk}:=λr1 r2 r3 tk ir=>by
   refine aB (eQ {cls:=.type "range",data:=.fields #[.int a r1,.int b r2,.int 1 r3]} S'.ok) λO1 E1=>?_;exact C5 (s:={S'.s z with heap:=S'.h.push {cls:=.type "range",data:=.fields #[.int a r1,.int b r2,.int 1 r3]},toks:=tk}) (λx hx=>let⟨o,q⟩:=t'.liv hP x hx;E1.dom x o q) O1 (dg.trans t' E1) ir hb.1 hb.2 λI h'' tk'' O'' it ev=>hQ _ st' ⟨h'',tk'',S'.G,S'.θ,O''⟩ I ev (Df hb.1 hb.2) it.any h
  rcases FP e with⟨rfl,e0⟩|rfl
  ·cases e0
   refine aG (ei.one rs) λv z6 rv=>?_;obtain rfl:=z6;refine aY (cV rv) λt z7=>?_;obtain rfl:=z7;exact call_range_1 (fin _ _ _ _ (.new ..))
  ·refine dS (ei.two rs) λv v' z8 rv rv'=>?_;obtain rfl:=z8;refine aY (cV rv) λt z9=>?_;obtain rfl:=z9;refine aY (cV rv') λt2 z10=>?_;obtain rfl:=z10;exact call_range_2 (fin _ _ _ _ (.new ..))
theorem zS(K:bO env cx.names)(X:fj c env n k V)(B:gi A n k)(S:At c env st)(hP:H0 P S.h){p pos:Pos}{args:List Expr}{κ:List ab→St→Tr}{Q:ai→ag→Prop}(hs:args.all dF=true)(hl:cx.names.lookup (ofString "enumerate")=some .globalImplicit)(h:(V.evDs args st λa s=>match a with
    | [x]=>uY (jB x) λxs=>κ (kM 0 xs) s
    |_=>.fail).sat R) (hQ:KI S z R P true κ Q):au c.M A (eval (.Call (.Name (ofString "enumerate") p) args [] pos) env) (λr s₁=>au c.M A (fQ r) Q E s₁) E (S.s z):=
 lh (f:=⟨env,cx.names,K⟩) X B S hs hl (by decide) c.T.enumT h λds st' S' vs t' _ rs h=>by
  induction ds using am with
  |nil=>exact h.elim
  |cons x ds=>induction ds using am with
   |nil=>
    refine aG (qC h) λxs e h=>?_;refine aG (ei.one rs) λv z11 rv=>?_;obtain rfl:=z11;exact K6 (s:=S'.s z) (t'.liv hP) S'.ok t' rv e λI h'' O'' it ev=>pb.self (s:={S'.s z with heap:=h''}) B.handled it (hQ _ st' ⟨h'',S'.tk,S'.G,S'.θ,O''⟩ I ev (by refine(FO ..).symm▸?_;exact qD rv (qE e)) it h)
   |cons _ _=>exact h.elim
theorem Np(K:bO env cx.names)(X:fj c env n k V)(B:gi A n k)(S:At c env st)(hP:H0 P S.h){p pos:Pos}{args:List Expr}{κ:List ab→St→Tr}{Q:ai→ag→Prop}(hs:args.all dF=true)(hl:cx.names.lookup (ofString "zip")=some .globalImplicit)(h:(V.evDs args st λa s=>match a with
    | [.list x,.list y]=>κ (A3 x y) s
    |_=>.fail).sat R) (hQ:KI S z R P true κ Q):au c.M A (eval (.Call (.Name (ofString "zip") p) args [] pos) env) (λr s₁=>au c.M A (fQ r) Q E s₁) E (S.s z):=
 lh (f:=⟨env,cx.names,K⟩) X B S hs hl (by decide) c.T.zipT h λds st' S' vs t' _ rs h=>by
  induction ds using am with
  |nil=>exact h.elim
  |cons a ds=>induction a using aq with
   |list x=>induction ds using am with
    |nil=>exact h.elim
    |cons a ds=>induction a using aq with
     |list y=>induction ds using am with
      |nil=>
       refine dS (ei.two rs) λv v' z12 rv rv'=>?_;obtain rfl:=z12;exact No (s:=S'.s z) (t'.liv hP) S'.ok t' rv rv' λI h'' O'' it ev=>pb.self (s:={S'.s z with heap:=h''}) B.handled it (hQ _ st' ⟨h'',S'.tk,S'.G,S'.θ,O''⟩ I ev (aa (H3 x y) (qD rv (d:=.list x) rfl)) it h)
      |cons _ _=>exact h.elim
     |_=>exact h.elim
   |_=>exact h.elim
theorem H5(X:fj c env n k V)(B:gi A n k)(S:At c env st)(hP:H0 P S.h){o:Expr}{apos pos:Pos}{κ:List ab→St→Tr}{Q:ai→ag→Prop}(hf:lJ o apos pos []=true)(h:(V.evD o st λa s=>match a with
   |.dict kvs=>κ (kvs.map λp=>.tuple [p.1,p.2]) s
   |_=>.fail).sat R) (hQ:KI S z R P true κ Q):au c.M A (eval (.Call (.Attribute o (ofString "items") apos) [] [] pos) env) (λr s₁=>au c.M A (fQ r) Q E s₁) E (S.s z):=
 wP hf (X.evD B S h λd st' S' v t' r h=>by
  induction d using aq with
  |dict kvs=>
   refine A0 (mz r) λa es j z13 ga ra dk hsys=>?_;obtain rfl:=z13;refine pQ (s:=S'.s z) (id:="dict.items") (S'.ok.wd.froz _ _ ga) PySem.F.slot_dict_items PySem.F.type_dict_items rfl (PySem.evalArgs_none ?_);have hT:(S'.s z).TypeIs (.ref a) "dict":=aV _ (S'.ok.wd.froz _ _ ga) rfl;refine xS PySem.F.slot_dict_items hT PySem.F.entry_dict_items (PySem.F.args_dict_items_1 _) (uU a hsys) ⟨hT,?_⟩;refine aB (eQ {cls:=.type "dict_items",data:=.fields #[.ref a]} S'.ok) λO1 E1=>?_;show au c.M A (fQ (.ref S'.h.objs.size)) Q E {S'.s z with heap:=S'.h.push {cls:=.type "dict_items",data:=.fields #[.ref a]}}
   generalize hv:S'.h.push {cls:=.type "dict_items",data:=.fields #[.ref a]}=h1 at*
   have gv:=O1.wd.froz _ _ ga;refine C3 (s:={S'.s z with heap:=h1}) (es:=es) (n:=j) (hv▸(iw _ (Heap.get?_push_size _ rfl) rfl rfl):h1.IsItemsView S'.h.objs.size a) gv ?_;have fr:=dY (h:=h1) (ak _);obtain⟨O2,it,ev⟩:=jT (h':=h1.push {cls:=.type "dict_itemiterator",data:=.fields #[.none,.bool false,.ref a,.int 0 0,.int es.length 0,.int j 0,.none,.none]}) (λx hx=>let⟨o,q⟩:=t'.liv hP x hx;E1.dom x o q) O1 (dg.trans t' E1)
    (Hs (prog:=c.prog) (ep:=j) (I:=h1.objs.size) (eg (Heap.lt_size gv)) ra) (λb o e=>Heap.get?_push_of_some _ e) ⟨(ik .none .none (Heap.get?_push_size _ rfl)),Heap.get?_push_of_some _ gv⟩ (λb hb=>by
    rcases aA.mp hb with rfl|hb
    ·exact .inr fr
    ·refine ae.mp hb ..▸?_;exact .inl ⟨_,ga⟩) (λb hb=>by refine ae.mp hb ..▸?_;exact fr)
   exact hQ _ st' ⟨_,S'.tk,S'.G,S'.θ,O2⟩ _ ev (by refine(aN ..).symm▸?_;exact dk.2.2) it h
  |_=>exact h.elim)
theorem fA{b:Bool}{t e:Tr}(h:(ya b t e).sat R):b=true∧t.sat R∨b=false∧e.sat R:=by
 induction b with
 |true=>exact .inl ⟨rfl,h⟩
 |false=>exact .inr ⟨rfl,h⟩
theorem K7(K:bO env cx.names)(X:fj c env n k V)(B:gi A n k)(S:At c env st)(hP:H0 P S.h)(v:EV){κ:List ab→St→Tr}{Q:ai→ag→Prop}(h:(Ot cx V v st κ).sat R)(hQ:KI S z R P (sG v.ex) κ Q):au c.M A (eval v.ex env) (λr s₁=>au c.M A (fQ r) Q E s₁) E (S.s z):=by
 induction v using EV.casesOn with
 |call f q args p=>
  refine aB (cq h) λhg h=>?_;rw[ay]at hg;have hl:=pR hg.1;refine(fA h).elim (λz1=>aB z1 λe h=>?_) λz2=>aB z2 λ_ h=>?_
  ·cases beq_iff_eq.mp e
   exact H4 K X B S hP hg.2 hl h hQ
  refine(fA h).elim (λz3=>aB z3 λe h=>?_) λz4=>aB z4 λ_ h=>?_
  ·cases beq_iff_eq.mp e
   exact zS K X B S hP hg.2 hl h hQ
  refine(fA h).elim (λz5=>aB z5 λe h=>?_) λz6=>aB z6 λ_ h=>?_
  ·cases beq_iff_eq.mp e
   exact Np K X B S hP hg.2 hl h hQ
  exact X.seqIt B S hP h hQ
 |meth o m q args p=>induction args using am with
  |nil=>
   refine aB (cq h) λhm h2=>?_;rw[ay]at hm;cases beq_iff_eq.mp hm.1
   exact H5 X B S hP hm.2 h2 hQ
  |cons _ _=>exact X.plainIt B S hP h hQ
 |_=>exact X.plainIt B S hP h hQ
theorem Dg(K:bO env cx.names)(X:fj c env n k V)(B:gi A n k)(S:At c env st)(hP:H0 P S.h){e:Expr}{κ:List ab→St→Tr}{Q:ai→ag→Prop}(h:(P4 cx V e st κ).sat R)(hQ:KI S z R P (sG e) κ Q):au c.M A (eval e env) (λr s₁=>au c.M A (fQ r) Q E s₁) E (S.s z):=by
 have e1:=f6 e;have r:=K7 (E:=E) (Q:=Q) K X B S hP (ee e) h (by rw[e1];exact hQ);rw[e1]at r;exact r
end
section
variable {prog:cD} {w:bi} {A:bC} {E:ai→ag→Prop} {s:ag} {h₀:bv} {env:Env} {G:Fz} {θ:List aI} {st:St} {names:List (Str×aK)}
structure zT (prog:cD) (w:bi) (h₀:bv) (env:Env) (F:List aI) (allow:Str→Prop):Prop where
 go:∀ {A:bC} {E:ai→ag→Prop} {s:ag} {G:Fz} {θ:List aI} {st:St} {x:Str} {b:B} {v:ai} {Q:Unit→ag→Prop},Ok w h₀ env G θ st s.heap→(st.ρ.lookup x).isSome=true→allow x→rD w G θ v b→
  (∀h' tk,Ok w h₀ env G θ ⟨iP st.ρ x b,st.σ⟩ h'→dg F θ G s.heap θ G h'→Q () {s with heap:=h',toks:=tk})→au (aZ prog w) A (mu env x v) Q E s
theorem pS(K:bO env names):zT prog w h₀ env (priv env) λ_=>True:=⟨λO hx _ r hQ=>Hm K O hx r hQ⟩
theorem H6(K:bO env names):zT prog w h₀ env [env.locals] λx=>names.lookup x=some .local:=by
 constructor
 intro A E s G θ st x b v Q O hx hl r hQ;have kd:=K.loc x hl;refine aY O.fr.ns λm nn=>?_;refine aY (Option.isSome_iff_exists.mp hx) λob hob=>?_;have pl:=O.fr.priv env.locals (.head _);refine wpAny_bindName (wpAny_storeName_local kd nn (λh' hn' hs=>?_) (by refine K.kind ..▸?_;rfl));have there:∃o,h'.get? env.locals=some o:=let⟨o,_,_,q,_⟩:=hn';⟨o,q⟩;have kp:∀a o,a≠env.locals→s.heap.get? a=some o→h'.get? a=some o:=λa o h e=>(hs.2 a h).trans e;refine hQ h' _ ⟨O.wd.heap λa o e q=>kp a o (λr=>?_) e,⟨⟨_,hn'⟩,λa ha=>⟨(O.fr.priv a ha).1,(O.fr.priv a ha).2.1,let⟨o,ho⟩:=(O.fr.priv a ha).2.2;na hs there a o ho⟩,λy ob' q=>?_,O.fr.apart⟩⟩ ⟨⟨[],by simp⟩,λa o _ h e=>kp a o (by simpa using h) e,λ_ _ e=>e,λ_ _ _ _=>rfl,na hs there⟩
 ·subst r;refine q.elim (λq=>?_) λq=>?_
  ·rw[pl.1]at q;exact nsN q
  ·exact pl.2.1 q
 ·have q:(iP st.ρ x b).lookup y=some ob':=q;rw[my]at q;have vo:∀y,sH env s.heap y→sH env h' y:=λy=>by
   rintro (k1|⟨k1,c,v₀,l,hc⟩)
   ·exact .inl k1
   ·exact .inr ⟨k1,c,v₀,l,hc.sameBut hs (O.fr.apart y c l).1⟩
  by_cases hy:y=x
  ·subst hy;rw[if_pos rfl]at q;refine aG (aH.mp q) λob'' q1 q2=>?_;refine⟨vo y (O.fr.var y _ q1).1,λb' hb=>?_⟩;subst hb;obtain rfl:=Option.some.inj q2;exact aV v (.inl ⟨kd,_,hn',by simp⟩) r
  ·rw[if_neg hy]at q;refine aB (O.fr.var y ob' q) λk1 k2=>?_;refine⟨vo y k1,λb' hb=>?_⟩;refine aG (k2 b' hb) λu k3 k4=>?_;refine aV u ?_ k4;rcases k3 with⟨k1,m',n',e⟩|⟨k1,c,l,hc⟩
   ·refine .inl ⟨k1,_,hn',?_⟩;show(if y=x then some v else m y)=some u;refine if_neg hy ..▸?_;refine lH nn λo1 es1 ep1 g1 d1 _ f1=>?_;clear nn;refine lH n' λo2 es2 ep2 g2 d2 _ f2=>?_;clear n';rw[g1]at g2;obtain rfl:=Option.some.inj g2;rw[d1]at d2;cases d2;refine(f1 y ..)▸f2 y ..▸?_;exact e
   ·exact .inr ⟨k1,c,l,hc.sameBut hs (O.fr.apart y c l).1⟩
end
section
variable {c:Cf} {env:Env} {A:bC} {E:ai→ag→Prop} {R:U→Prop} {z:ag} {F:List aI} {allow:Str→Prop}
noncomputable def At.ToF{st st':St}(F:List aI)(S:At c env st)(S':At c env st'):Prop:=dg F S.θ S.G S.h S'.θ S'.G S'.h
noncomputable def P6(allow:Str→Prop):EV→Prop
 |.name x _=>allow x
 |.tup ts _ _=>∀t∈ts,∀x q,ee t=.name x q→allow x
 |_=>True
noncomputable def KS{st:St}(S:At c env st)(z:ag)(R:U→Prop)(F:List aI)(k:je→Tr)(Q:Unit→ag→Prop):Prop:=∀ρ₁ (S':At c env ⟨ρ₁,st.σ⟩),S.ToF F S'→(k ρ₁).sat R→Q () (S'.s z)
theorem zU(T:zT c.prog c.w c.h₀ env F allow){st:St}(S:At c env st){x:Str}{b:B}{v:ai}{k:je→Tr}{Q:Unit→ag→Prop}(al:allow x)(r:rD c.w S.G S.θ v b)(h:(mX (st.ρ.lookup x).isSome (np st.ρ x b k)).sat R)(hQ:KS S z R F k Q):au c.M A (mu env x v) Q E (S.s z):=by
 refine aB (cq h) λhx h=>?_;rw[s9]at h;exact T.go (s:=S.s z) S.ok hx al r λh' tk O e=>hQ _ ⟨h',tk,S.G,S.θ,O⟩ e h
theorem rP{t:Expr}{x:Str}{q:Pos}(h:ee t=.name x q):t=.Name x q:=by refine(f6 t ..)▸h ..▸?_;rfl
theorem QB(t:ai→Sem Unit)(ts:List (ai→Sem Unit))(x:ai)(xs:List ai):jA (t::ts) (x::xs)=(holding xs (t x)>>=λ_=>jA ts xs):=rfl
theorem mJ{x:Str}{q:Pos}{v:ai}{s:ag}{Q:Unit→ag→Prop}(h:au c.M A (mu env x v) Q E s):au c.M A (m6 (.Name x q) env v) Q E s:=by
 refine PySem.assign_Name ..▸?_;exact af (cy h)
theorem FQ(T:zT c.prog c.w c.h₀ env F allow):∀ {ts:List Expr} {vs:List ai} {ds:List ab} {st:St} (S:At c env st) {k:je→Tr} {Q:Unit→ag→Prop},(qB st.ρ ts ds k).sat R→(∀t∈ts,∀x q,ee t=.name x q→allow x)→ei c.w S.G vs ds→KS S z R F k Q→
  au c.M A (jA ((mc ts env).map (·.2)) vs) Q E (S.s z):=by
 intro ts
 induction ts with
 |nil=>
  intro vs ds st S k Q h _ r hQ;cases r with
  |nil=>exact ap (hQ st.ρ S (dg.refl ..) h)
  |cons _ _=>exact h.elim
 |cons t ts ih=>
  intro vs ds st S k Q h al r hQ;cases r with
  |nil=>exact h.elim
  |cons r1 r2=>
   have hm:(match ee t with
    |.name x _=>mX (st.ρ.lookup x).isSome (np st.ρ x (.v _) λρ'=>qB ρ' ts _ k)
    |_=>.fail).sat R:=h
   induction hv:ee t using EV.casesOn<;>rw[hv]at hm<;>first|exact hm.elim|skip
   rename_i x q;have e:=rP hv;subst e;show au _ _ (jA (m6 (.Name x q) env::(mc ts env).map (·.2)) (_::_)) _ _ _;refine QB ..▸?_;exact af (bD (mJ (zU T S (b:=.v _) (al _ (.head _) x q hv) r1 hm λρ₁ S' t' h=>ih S' h (λt ht=>al t (.tail _ ht)) (r2.mono t'.grow) λρ₂ S'' t'' h=>hQ ρ₂ S'' (dg.trans t' t'') h)))
theorem Dh:∀ {ts:List Expr} {ds:List ab} {ρ:je} {k:je→Tr},(qB ρ ts ds k).sat R→(mc ts env).length=ts.length∧(mc ts env).findIdx? (·.1)=none:=by
 intro ts
 induction ts with
 |nil=>exact λ_=>⟨rfl,rfl⟩
 |cons t ts ih=>
  intro ds ρ k h
  induction ds using am with
  |nil=>exact h.elim
  |cons d ds=>
   have hm:(match ee t with
    |.name x _=>mX (ρ.lookup x).isSome (np ρ x (.v d) λρ'=>qB ρ' ts ds k)
    |_=>.fail).sat R:=h
   induction hv:ee t using EV.casesOn<;>rw[hv]at hm<;>first|exact hm.elim|skip
   rename_i x q;have e:=rP hv;subst e;refine(show mc (.Name x q::ts) env=(false,m6 (.Name x q) env)::mc ts env from rfl).symm▸?_;have hm:=(cq hm).2;rw[s9]at hm;refine aB (ih hm) λi1 i2=>?_;exact⟨congrArg gA i1,by refine(List.findIdx?_cons ..).symm▸(i2 ..).symm▸?_;rfl⟩
theorem zV(hh:A.handled=none)(T:zT c.prog c.w c.h₀ env F allow){st:St}(S:At c env st){t:Expr}{d:ab}{v:ai}{k:je→Tr}{Q:Unit→ag→Prop}(al:P6 allow (ee t))(r:Rp c.w S.G v d)(h:(yJ st.ρ t d k).sat R)(hQ:KS S z R F k Q):au c.M A (m6 t env v) Q E (S.s z):=by
 have e:=f6 t;have h:(L7 st.ρ (ee t) d k).sat R:=h
 induction hv:ee t using EV.casesOn<;>rw[hv]at h al e<;>first|exact h.elim|skip
 ·refine(e ..)▸?_;exact mJ (zU T S (b:=.v d) al r h hQ)
 ·rename_i ts kk p;refine(e ..)▸?_
  induction d using aq with
  |tuple ds=>
   refine aB (cq h) λhl h=>?_;refine wj (gF r) λT1 vs dd m sl z1 gT rs _=>?_;obtain rfl:=z1;refine aB (Dh (env:=env) h) λt1 t2=>?_;refine wpAny_assign_Tuple hh (items:=vs.toArray) ⟨_,S.ok.wd.froz _ _ gT,rfl,m,rfl⟩ (by exact(t1 ..).symm▸(rz hl ..).symm▸(aJ ..).symm▸(rs.length ..).symm▸rfl) t2 λh' eb=>?_;refine aB (S.ok.keeps λb o e=>eb b o (eg (Heap.lt_size e)) e) λO' E'=>?_;exact FQ T ⟨h',S.tk,S.G,S.θ,O'⟩ h al (by simpa using rs) λρ₁ S' t' h=>hQ ρ₁ S' (dg.trans (dg.weaken E' λa ha=>(cg ha)) t') h
  |_=>exact h.elim
end
section
variable {c:Cf} {env:Env} {n k:Nat} {V:VL} {A:bC} {E:ai→ag→Prop} {R:U→Prop} {z:ag}
theorem j3{b:Bool}{t e:Tr}(h:(GW b t e).sat R):b=true∧t.sat R∨b=false∧e.sat R:=by
 induction b with
 |true=>exact .inl ⟨rfl,h⟩
 |false=>exact .inr ⟨rfl,h⟩
theorem H7:∀(ifs:List Expr){s:ag} {Q:Bool→ag→Prop},Q false s→au c.M A (forIn ifs false λc r=>if r=true then do let ok←uO c env (eval c env);pure (ForInStep.yield ok)else pure (ForInStep.yield r)) Q E s:=by
 intro ifs
 induction ifs with
 |nil=>intro s Q h;rw[zn];exact ap h
 |cons c r ih=>
  intro s Q h;rw[lE,if_neg aR];exact af (ap (ih h))
theorem fj.ifs(X:fj c env n k V)(B:gi A n k):∀ {ifs:List Expr} {st:St} (S:At c env st) {κ:Bool→St→Tr} {Q:Bool→ag→Prop},(V.allIfs ifs st κ).sat R→HX S z R κ Q→
  au c.M A (forIn ifs true λc r=>if r=true then do let ok←uO c env (eval c env);pure (ForInStep.yield ok)else pure (ForInStep.yield r)) Q E (S.s z):=by
 intro ifs
 induction ifs with
 |nil=>intro st S κ Q h hQ;rw[zn];exact ap (hQ _ st S S.refl h)
 |cons i r ih=>
  intro st S κ Q h hQ;rw[lE,if_pos rfl];refine af (af (X.evT B S h λt st' S' t' h=>ap ?_));rcases j3 h with⟨rfl,h⟩|⟨rfl,h⟩
  ·exact ih S' h λt st'' S'' t'' h=>hQ t st'' S'' (t'.trans t'') h
  ·exact H7 r (hQ false st' S' t' h)
end
section
variable {prog:cD} {w:bi} {A:bC} {E:ai→ag→Prop} {s:ag}
noncomputable def lp(prog:cD)(w:bi)(A:bC)(e elt:Expr)(gens:List Comprehension)(j:Nat)(acc:ai)(env:Env)(Q:ag→Prop)(N:ai→ag→Prop)(s:ag):Prop:=match gens[j+1]? with
 |some g'=>au (aZ prog w) A (eval g'.iter env) (λx s₅=>au (aZ prog w) A (fQ x) (λit' s₆=>kL (aZ prog w) A (.compStart e (j+1) it' acc env) (λr s'=>match r with|.ok _=>Q s'|.error _=>False) s₆) N s₅) N s
 |none=>au (aZ prog w) A (eval elt env) (λx s₅=>au (aZ prog w) A (call (.builtin "list.append") [acc,x]) (λ_ s₆=>Q s₆) N s₅) N s
theorem te{elt:Expr}{gens:List Comprehension}{scope:o7}{pos:Pos}{j:Nat}{g:Comprehension}{it acc:ai}{env:Env}{R:xT→ag→Prop}(hg:gens[j]?=some g)(ha:∀g∈gens,(g.is_async !=0)=false∧∀x,pz g.iter env x=pure x)(I:Nat→ag→Prop)
  (turn:∀n s,I n s→au (aZ prog w) A (si it) (λr s₁=>match r with
   |none=>R (.ok .next) s₁
   |some v=>au (aZ prog w) A (sE g.target it v) (λ_ s₂=>au (aZ prog w) A (m6 g.target env v) (λ_ s₃=>
     au (aZ prog w) A (forIn g.ifs true λc r=>if r=true then do let ok←uO c env (eval c env);pure (ForInStep.yield ok)else pure (ForInStep.yield r)) (λok s₄=>
      if ok=true then lp prog w A (.ListComp elt gens scope pos) elt gens j acc env (λs₅=>∃m,m<n∧I m s₅) (jg (aZ prog w) A env λe s'=>R (.error e) s') s₄
      else∃m,m<n∧I m s₄) (jg (aZ prog w) A env λe s'=>R (.error e) s') s₃) (jg (aZ prog w) A env λe s'=>R (.error e) s') s₂) (jg (aZ prog w) A env λe s'=>R (.error e) s') s₁) (jg (aZ prog w) A env λe s'=>R (.error e) s') s)
  (n:Nat) (h:I n s):kL (aZ prog w) A (.compLoop (.ListComp elt gens scope pos) j it acc env) R s:=by
 refine codeAny_loop rfl I (λn s hI=>?_) n h;show au _ A ((compTurn (.ListComp elt gens scope pos) j it acc env).onRaise (λx=>do noteFrame x env;theTreesLotGoes x)) _ _ s;refine wpAny_noted ?_;unfold compTurn;dsimp only;refine hg ..▸?_;dsimp only;refine (ha g (List.mem_of_getElem? hg)).1 ..▸?_;simp only[bR,if_false];refine af (cy (af (dN (turn n s hI) (λr s₁ h₁=>?_) λ_ _ h'=>h')))
 induction r with
 |none=>exact ap h₁
 |some v=>
  refine af (dN h₁ (λ_ s₂ h₂=>af (dN h₂ (λ_ s₃ h₃=>?_) λ_ _ h'=>h')) λ_ _ h'=>h');refine af (dN h₃ (λok s₄ h₄=>?_) λ_ _ h'=>h')
  induction ok with
  |false=>exact ap ⟨rfl,h₄⟩
  |true=>
   simp only[if_true]at h₄⊢;unfold lp at h₄
   induction hg':gens[j+1]? with
   |none=>
    rw[hg']at h₄;exact af (af (dN h₄ (λ_ s₅ h₅=>af (dN h₅ (λ_ s₆ h₆=>ap (ap ⟨rfl,h₆⟩)) λ_ _ h'=>h')) λ_ _ h'=>h'))
   |some g'=>
    rw[hg']at h₄;dsimp only at h₄⊢;refine aB (ha g' (List.mem_of_getElem? hg')) λa1 a2=>?_;refine a1 ..▸?_;simp only[bR,if_false];refine af (dN h₄ (λx s₅ h₅=>af (cy (af (wpAny_of_eq (a2 x) ?_)))) λ_ _ h'=>h');refine af (bD (dN h₅ (λit' s₆ h₆=>?_) λ_ _ h'=>h'));refine af (wpAny_runOwn (codeAny_mono h₆ λr s' hr=>?_))
    induction r with
    |ok f=>exact ap ⟨rfl,hr⟩
    |error e=>exact hr.elim
theorem lS{elt:Expr}{gens:List Comprehension}{scope:o7}{pos:Pos}{j:Nat}{g:Comprehension}{it acc:ai}{env:Env}{R:xT→ag→Prop}(hg:gens[j]?=some g)(ha:(g.is_async !=0)=false)
  (h0:kL (aZ prog w) A (.compLoop (.ListComp elt gens scope pos) j it acc env) R s)
  (h:au (aZ prog w) A (fQ it) (λit' s'=>kL (aZ prog w) A (.compLoop (.ListComp elt gens scope pos) j it' acc env) R s') (jg (aZ prog w) A env λx s'=>R (.error x) s') s):
  kL (aZ prog w) A (.compStart (.ListComp elt gens scope pos) j it acc env) R s:=by
 refine codeAny_of_tree ?_;show au _ _ ((compStart (.ListComp elt gens scope pos) j it acc env).onRaise (λx=>do noteFrame x env;standAt theWindowsPlace)) _ _ s;refine wpAny_notedAt ?_;unfold compStart;refine (hg:(clausesOf (.ListComp elt gens scope pos))[j]?=some g) ..▸?_;simp only[Option.elim_some,ha,bR,if_false];refine af (wpAny_askSetting ?_);split
 ·exact ap (And.intro rfl h0)
 ·exact af (jX (af (cy (af (dN h (λit' s' h'=>ap (And.intro rfl h')) λ_ _ x=>x)))))
end
noncomputable def oH(env:Env):List (Str×aK)→List (Str×aI)→List (Str×aI)
 | [],acc=>acc
 |(n,k)::r,acc=>if k==.free then oH env r ((n,(env.cells.lookup n).getD 0)::acc)else oH env r acc
theorem Di:(∀(env:Env)(x:List (Str×aI)),oH env [] x=x)∧(∀(env:Env)(x:List (Str×aI))(n:Str)(k:aK)(r:List (Str×aK)),oH env ((n,k)::r) x=if(k==NameKind.free)=true then oH env r ((n,(List.lookup n env.cells).getD 0)::x)else oH env r x):=⟨λ_ _=>rfl,λ_ _ _ _ _=>rfl⟩
theorem pT{env:Env}:∀ {names:List (Str×aK)} {acc:List (Str×aI)} {x:Str} {c:aI},(x,c)∈oH env names acc→(x,c)∈acc∨((x,.free)∈names∧c=(env.cells.lookup x).getD 0)
 | [],_,_,_,h=>.inl h
 |(n,k)::r,acc,x,c,h=>by
  rw[Di.2]at h;split at h
  ·rename_i hk;have hk:=beq_iff_eq.mp hk;subst hk;refine(pT h).elim (λh=>?_) λz1=>aB z1 λh e=>?_
   ·refine(aA.mp h).elim (λe=>?_) λh=>?_
    ·cases e;exact .inr ⟨.head _,rfl⟩
    ·exact .inl h
   ·exact .inr ⟨.tail _ h,e⟩
  ·refine(pT h).elim (λh=>?_) λz2=>aB z2 λh e=>?_
   ·exact .inl h
   ·exact .inr ⟨.tail _ h,e⟩
theorem wR{env:Env}:∀ {names:List (Str×aK)} {acc:List (Str×aI)} {x:Str},((x,.free)∈names∨∃c,(x,c)∈acc)→∃c,(x,c)∈oH env names acc
 | [],_,_,h=>by
  refine h.elim (λh=>?_) λh=>?_
  ·exact cg h
  ·exact h
 |(n,k)::r,acc,x,h=>by
  rw[Di.2];split
  ·refine wR ?_;refine h.elim (λh=>?_) λz3=>aY z3 λc h=>?_
   ·refine(aA.mp h).elim (λe=>?_) λh=>?_
    ·cases e;exact .inr ⟨_,.head _⟩
    ·exact .inl h
   ·exact .inr ⟨c,.tail _ h⟩
  ·rename_i hk;refine wR ?_;refine h.elim (λh=>?_) λh=>?_
   ·refine(aA.mp h).elim (λe=>?_) λh=>?_
    ·cases e;exact absurd rfl hk
    ·exact .inl h
   ·exact .inr h
theorem uZ{env:Env}{names:List (Str×aK)}{x:Str}{c:aI}(h:(oH env names []).lookup x=some c):(x,.free)∈names∧c=(env.cells.lookup x).getD 0:=by
 refine(pT (mem_of_lookup h)).elim (λh=>?_) λh=>?_
 ·exact cg h
 ·exact h
theorem yi{α:Type}:∀ {l:List (Str×α)} {x:Str} {c:α},(x,c)∈l→∃c',l.lookup x=some c':=λ{l}=>by
 induction l with
 |nil=>exact λh=>cg h
 |cons yd r ih=>
  refine λ{x c} h=>?_;obtain⟨y,d⟩:=yd;rw[bA]
  induction e:x==y with
  |true=>exact⟨d,rfl⟩
  |false=>
   refine(aA.mp h).elim (λq=>?_) λq=>?_
   ·cases q;simp at e
   ·exact ih q
theorem FR{env:Env}{names:List (Str×aK)}{x:Str}{c:aI}(h:(x,.free)∈names)(hc:env.cells.lookup x=some c):(oH env names []).lookup x=some c:=by
 refine aY (wR (env:=env) (acc:= []) (.inl h)) λc' h'=>?_;refine aY (yi h') λc2 h2=>?_;refine aB (uZ h2) λ_ e=>?_;refine(h2 ..).symm▸(e ..).symm▸(hc ..).symm▸?_;rfl
theorem vz{env:Env}{scope:o7}(h:∀x∈scope.names,x.2=.free→(env.cells.lookup x.1).isSome=true):closureFor scope env=pure (oH env scope.names []):=by
 unfold closureFor;have key:∀(names:List (Str×aK))(acc:List (Str×aI)),(∀x∈names,x.2=.free→(env.cells.lookup x.1).isSome=true)→
   (forIn names acc λ(x:Str×aK)(r:List (Str×aI))=>(match x with|(name,kind)=>if(kind==NameKind.free)=true then do let a←cellOf env name;pure (ForInStep.yield ((name,a)::r))else pure (ForInStep.yield r):Sem (ForInStep (List (Str×aI)))))=pure (oH env names acc):=by
  intro names
  induction names with
  |nil=>intro acc _;rfl
  |cons x r ih=>
   intro acc h;obtain⟨n,k⟩:=x;rw[lE];rw[Di.2];dsimp only;split
   ·rename_i hk;refine aY (Option.isSome_iff_exists.mp (h (n,k) (.head _) (beq_iff_eq.mp hk))) λc hc=>?_;have e:cellOf env n=pure c:=by unfold cellOf;exact hc ..▸rfl
    refine e ..▸hc ..▸?_;simp only[pure_bind,nX];exact ih _ λx hx=>h x (.tail _ hx)
   ·simp only[pure_bind];exact ih _ λx hx=>h x (.tail _ hx)
 simp only[bind_pure];exact(key scope.names [] h)
noncomputable def FS(env:Env)(n:Str)(k:aK):aK:=if(k==.free&&env.scope.kind==.function&&env.kindOf n==some .cell)then .cell else k
theorem rQ{env:Env}{x:Str}:∀ {names:List (Str×aK)},(names.map λ(n,k)=>if(k==NameKind.free&&env.scope.kind==.function&&env.kindOf n==some .cell)then(n,NameKind.cell)else(n,k)).lookup x=(names.lookup x).map (FS env x)
 | []=>rfl
 |(n,k)::r=>by
  have e:(if(k==NameKind.free&&env.scope.kind==.function&&env.kindOf n==some .cell)=true then(n,NameKind.cell)else(n,k))=(n,FS env n k):=by
   unfold FS;split<;>rfl
  rw[aE,bA];dsimp only;rw[e,bA]
  induction q:x==n with
  |true=>refine beq_iff_eq.mp q ..▸?_;rfl
  |false=>exact rQ
structure u3 (w:bi) (G:Fz) (θ:List aI) (h:bv) (D:aI) (acc:List ab):Prop where
 at_:∃vs m,h.get? D=some {cls:=.type "list",data:=.seq (vs:List ai).toArray m}∧ei w G vs acc
 len:acc.length≤cG
 g:G D=none
 t:D∉θ
structure zW (P θ:List aI) (G:Fz) (h:bv) (θ':List aI) (G':Fz) (h':bv):Prop where
 pre:∃t,θ'=θ++t
 grow:∀a o,G a=some o→G' a=some o
 keep:∀b∈P,b∉θ→∀o,h.get? b=some o→h'.get? b=some o∧G' b=G b∧b∉θ'
theorem zW.refl(P θ:List aI)(G:Fz)(h:bv):zW P θ G h θ G h:=⟨⟨[],by simp⟩,λ_ _ e=>e,λ_ _ ht _ e=>⟨e,rfl,ht⟩⟩
theorem zW.trans{P θ θ₁ θ₂:List aI}{G G₁ G₂:Fz}{h h₁ h₂:bv}(x:zW P θ G h θ₁ G₁ h₁)(y:zW P θ₁ G₁ h₁ θ₂ G₂ h₂):zW P θ G h θ₂ G₂ h₂:=by
 refine aY x.pre λt e=>?_;refine aY y.pre λt' e'=>?_;refine⟨⟨t++t',by exact e' ..▸e ..▸aw ..▸rfl⟩,λa o q=>y.grow a o (x.grow a o q),λb hb ht o q=>?_⟩;refine dE (x.keep b hb ht o q) λq1 q2 q3=>?_;refine dE (y.keep b hb q3 o q1) λr1 r2 r3=>?_;exact⟨r1,by exact r2 ..▸q2 ..▸rfl,r3⟩
theorem dg.kept{F P θ θ':List aI}{G G':Fz}{h h':bv}(e:dg F θ G h θ' G' h')(hF:∀b∈F,b∉P):zW P θ G h θ' G' h':=
 ⟨let⟨t,q,_⟩:=e.pre;⟨t,q⟩,e.grow,λb hb ht o q=>⟨e.keep b o ht (λr=>hF b r hb) q,e.newG b o q ht,e.off ht q⟩⟩
theorem A5.kept{w:bi}{env:Env}{G G':Fz}{θ θ':List aI}{h h':bv}{ρ:je}(R:A5 w env G θ h ρ)(e:zW (Mine.priv env) θ G h θ' G' h'):A5 w env G' θ' h' ρ:=by
 have k:∀a∈Mine.priv env,∀o,h.get? a=some o→h'.get? a=some o:=λa ha o q=>(e.keep a ha (R.priv a ha).2.1 o q).1;refine aY e.pre λt et=>?_;refine⟨?_,λa ha=>?_,λx ob q=>?_,R.apart⟩
 ·refine aY R.ns λm n=>?_;exact⟨m,n.at' λo q=>k _ (.head _) o q⟩
 ·refine dE (R.priv a ha) λp1 p2 z1=>?_;refine aY z1 λo p3=>?_;refine dE (e.keep a ha p2 o p3) λq1 q2 q3=>?_;exact⟨by refine q2 ..▸?_;exact p1,q3,o,q1⟩
 ·refine aB (R.var x ob q) λh1 h2=>?_;refine⟨h1.heap k,λb hb=>?_⟩;refine aG (h2 b hb) λv h3 h4=>?_;exact aV v (h3.heap k) (h4.mono e.grow ⟨t,et⟩)
section
variable {prog:cD} {w:bi} {A:bC} {E:ai→ag→Prop} {s:ag} {h₀:bv} {cenv:Env} {G:Fz} {θ:List aI} {st:St}
theorem u3.evo{F θ':List aI}{G':Fz}{h h':bv}{D:aI}{acc:List ab}(x:u3 w G θ h D acc)(e:dg F θ G h θ' G' h')(hF:D∉F):u3 w G' θ' h' D acc:=by
 refine ff x.at_ λvs m h1 h2=>?_;exact⟨(kS vs m (e.keep D _ x.t hF h1) (h2.mono e.grow)),x.len,by refine e.newG D _ h1 x.t ..▸?_;exact x.g,e.off x.t h1⟩
theorem Dj{D:aI}{acc:List ab}{v:ai}{d:ab}{Q:ai→ag→Prop}(hDp:D∉priv cenv)(O:Ok w h₀ cenv G θ st s.heap)(x:u3 w G θ s.heap D acc)(r:Rp w G v d)(hl:acc.length+1≤cG)
  (hQ:∀h',Ok w h₀ cenv G θ st h'→u3 w G θ h' D (acc++ [d])→dg [D] θ G s.heap θ G h'→Q .none {s with heap:=h'}):au (aZ prog w) A (call (.builtin "list.append") [.ref D,v]) Q E s:=by
 refine ff x.at_ λvs m h1 h2=>?_;refine append_at h1 (λh' sb ho'=>?_) (by refine aJ ..▸h2.length ..▸?_;exact x.len);have kp:∀b o,b∉ [D]→s.heap.get? b=some o→h'.get? b=some o:=λb o hb e=>sb.extBut b o (by simpa using hb) e;refine hQ h' (O.off (F:= [D]) (λb hb=>by refine ae.mp hb ..▸?_;exact⟨x.g,x.t,hDp⟩) kp) ⟨(kS (vs++ [v]) (m+1) (by refine ho' ..▸?_;simp) (h2.append (.cons r .nil))),by simpa using hl,x.g,x.t⟩ ⟨⟨[],by simp⟩,λa o _ h e=>kp a o h e,λ_ _ e=>e,λ_ _ _ _=>rfl,na sb ⟨_,ho'⟩⟩
end
theorem K8{names:List (Str×aK)}{t:Expr}(h:yy names t=true):P6 (λx=>names.lookup x=some .local) (ee t):=by
 have e:=f6 t
 induction hv:ee t using EV.casesOn<;>rw[hv]at e<;>first|exact trivial|skip
 ·rw[←e]at h;exact beq_iff_eq.mp h
 ·rw[←e]at h;intro u hu x q hx;have:=aM.mp (show List.all _ _=true from h) u hu;rw[rP hx]at this;exact beq_iff_eq.mp this
theorem uc{cx:Cy}{V:VL}{t e:Expr}{st:St}{κ:List ab→St→Tr}{R:U→Prop}(h:(wG cx V t e st κ).sat R):tU e=true∧(sG e=true→∃es k p,t=.Tuple es k p)∧(P4 cx V e st κ).sat R:=by
 refine aB (cq h) λhc h=>?_;simp only[nR,Bool.or_eq_false_iff,Bool.and_eq_false_iff,Bool.not_eq_false']at hc;refine⟨hc.2,λht=>?_,h⟩;refine hc.1.elim (λq=>?_) λq=>?_
 ·rw[ht]at q;exact m7 q
 ·induction t using cI<;>first|exact nsN q|exact dC q|(cases q;done)|exact zq _ _ _ rfl
section
variable {c:Cf} {cenv:Env} {n k:Nat} {V:VL} {A:bC} {z:ag}
noncomputable def At.acc{st:St}(S:At c cenv st)(D:aI)(acc:List ab):Prop:=u3 c.w S.G S.θ S.h D acc
structure JZ {st st':St} (D:aI) (hb:bv) (Po:List aI) (S:At c cenv st) (S':At c cenv st'):Prop where
 y:∀Fx θx Gx,cenv.locals∈Fx→D∈Fx→dg Fx θx Gx hb S.θ S.G S.h→dg Fx θx Gx hb S'.θ S'.G S'.h
 kept:zW Po S.θ S.G S.h S'.θ S'.G S'.h
theorem JZ.refl{st:St}{D:aI}{hb:bv}{Po:List aI}(S:At c cenv st):JZ D hb Po S S:=⟨λ_ _ _ _ _ y=>y,.refl ..⟩
theorem JZ.step{st st' st'':St}{D:aI}{hb:bv}{Po:List aI}{S:At c cenv st}{S':At c cenv st'}{S'':At c cenv st''}(x:JZ D hb Po S S')(e:S'.ToF [cenv.locals,D] S'')(av:∀b∈ [cenv.locals,D],b∉Po):JZ D hb Po S S'':=
 ⟨λFx θx Gx m1 m2 y=>(x.y Fx θx Gx m1 m2 y).trans (dg.weaken e λb hb=>by
  rcases aA.mp hb with rfl|hb
  ·exact m1
  ·refine ae.mp hb ..▸?_;exact m2),x.kept.trans (dg.kept e av)⟩
noncomputable abbrev P7(ifs:List Expr)(cenv:Env):Sem Bool:=forIn ifs true λc r=>if r=true then do let ok←uO c cenv (eval c cenv);pure (ForInStep.yield ok)else pure (ForInStep.yield r)
theorem wS{names:List (Str×aK)}{elt:Expr}{gens:List Comprehension}{scope:o7}{pos:Pos}{D:aI}(K:bO cenv names)(X:fj c cenv n k V)(B:gi A n k)(ha:∀g∈gens,(g.is_async !=0)=false∧∀x,pz g.iter cenv x=pure x)
  {Po:List aI} (hPo:∀b∈Po,b≠cenv.locals∧b≠D) (hDp:D∉priv cenv) {j:Nat} {g:Comprehension} (hg:gens[j]?=some g) {cJ:List ab→St→(List ab→St→Tr)→Tr} {one:Bool}
  (hin:∀ {acc1:List ab} {st1:St} {κ:List ab→St→Tr} {R:U→Prop} {Q:ag→Prop} {N:ai→ag→Prop} (S:At c cenv st1),(cJ acc1 st1 κ).sat R→S.acc D acc1→(one=true→acc1.length+1≤cG)→
   (∀acc2 st2 (S':At c cenv st2),S'.acc D acc2→(one=true→acc2.length=acc1.length+1)→S.ToF [cenv.locals,D] S'→(κ acc2 st2).sat R→Q (S'.s z))→lp c.prog c.w A (.ListComp elt gens scope pos) elt gens j (.ref D) cenv Q N (S.s z))
  {items acc:List ab} {st:St} {hb:bv} {I:aI} {tup:Bool} {Rr:xT→ag→Prop} {F:List ab→St→Prop} (S:At c cenv st) (h:sV names V g.target g.ifs cJ items acc st F) (R0:pb c.prog c.w (D::(priv cenv++Po)) hb I items tup 0 S.G S.θ S.h)
  (ht:tup=true→∃es k p,g.target=.Tuple es k p) (AC:S.acc D acc) (h1:one=true→acc.length+items.length≤cG) (hR:∀acc' st' (S':At c cenv st'),F acc' st'→S'.acc D acc'→JZ D hb Po S S'→Rr (.ok .next) (S'.s z)):
  kL c.M A (.compLoop (.ListComp elt gens scope pos) j (.ref I) (.ref D) cenv) Rr (S.s z):=by
 have hh:=B.handled;have av1:∀b∈ [cenv.locals,D],b∉Po:=λb hb q=>by
  rcases aA.mp hb with rfl|hb
  ·exact(hPo _ q).1 rfl
  ·rw[ae.mp hb]at q;exact(hPo _ q).2 rfl
 have sub2:∀b∈ [cenv.locals,D],b∈D::(priv cenv++Po):=λb hb=>by
  rcases aA.mp hb with rfl|hb
  ·exact .tail _ (cm _ (.head _))
  ·refine ae.mp hb ..▸?_;exact .head _
 have priv2:∀b∈priv cenv,b∈D::(priv cenv++Po):=λb hb=>.tail _ (cm _ hb)
 let Inv:Nat→ag→Prop:=λnn s'=>∃i st1 acc1,∃S1:At c cenv st1,s'=S1.s z∧nn=items.length-i∧i≤items.length∧sV names V g.target g.ifs cJ (items.drop i) acc1 st1 F∧pb c.prog c.w (D::(priv cenv++Po)) hb I items tup i S1.G S1.θ S1.h∧S1.acc D acc1∧JZ D hb Po S S1∧(one=true→acc1.length+(items.length-i)≤cG)
 refine te hg ha Inv ?_ items.length ⟨0,st,acc,S,rfl,rfl,a7 _,h,R0,AC,.refl S,h1⟩
 rintro nn s' ⟨i,st1,acc1,S1,rfl,rfl,hi,hc,R1,AC1,Y1,L1⟩
 refine(ms i items.length).elim (λhlt=>?_) λhge=>?_
 ·have dn:items.length-(i+1)<items.length-i:=Nat.sub_succ_lt_self _ _ hlt;rw[dZ hlt]at hc;refine aB (cq (show(Et names V g.target g.ifs cJ items[i] acc1 st1).sat _ from hc)) λhown hc=>?_;refine dN (R1.item (s:=S1.s z) (target:=g.target) (d:=items[i]) (E:=jg c.M A cenv λe s'=>Rr (.error e) s') (Q:=λv s₂=>au c.M A (m6 g.target cenv v) (λ_ s₃=>au c.M A (P7 g.ifs cenv) (λok s₄=>
     if ok=true then lp c.prog c.w A (.ListComp elt gens scope pos) elt gens j (.ref D) cenv (λs₅=>∃m,m<items.length-i∧Inv m s₅) (jg c.M A cenv λe s'=>Rr (.error e) s') s₄
     else∃m,m<items.length-i∧Inv m s₄) (jg c.M A cenv λe s'=>Rr (.error e) s') s₃) (jg c.M A cenv λe s'=>Rr (.error e) s') s₂) hh priv2 S1.ok (List.getElem?_eq_getElem hlt) ht λv h2 tk2 G2 O2 r2 R2 Y2 P2=>?_) (λr s₁ hq=>by obtain⟨v,rfl,hq⟩:=hq;exact hq) λ_ _ e=>e
  refine aG P2 λwr P1 P2=>?_
  let S2:At c cenv st1:=⟨h2,tk2,G2,S1.θ,O2⟩
  refine zV hh (H6 K:zT c.prog c.w c.h₀ cenv [cenv.locals] (λx=>names.lookup x=some .local)) S2 (K8 hown) r2 hc λρ₁ S3 t3 hc=>?_;refine X.ifs B S3 hc λok st4 S4 t4 hc=>?_;have AC4:S4.acc D acc1:=((AC1.evo P2 λq=>P1 D q (.head _):S2.acc D acc1).evo t3 λq=>(λe=>hDp (e▸.head _):D≠cenv.locals) (ae.mp q):S3.acc D acc1).evo t4 (λq=>nomatch q);have R4:=(R2.frame t3 (λb hb=>sub2 b (by refine ae.mp hb ..▸?_;exact .head _)) O2.wd.froz S3.ok.wd.froz).frame t4 (λb q=>nomatch q) S3.ok.wd.froz S4.ok.wd.froz;have Y4:JZ D hb Po S S4:=(⟨λFx θx Gx m1 m2 y=>Y2 Fx θx Gx (Y1.y Fx θx Gx m1 m2 y),Y1.kept.trans (P2.kept λb hb q=>P1 b hb (.tail _ (bJ _ q)))⟩:JZ D hb Po S S2).step ((dg.weaken t3 λb hb=>by refine ae.mp hb ..▸?_;exact .head _).trans (dg.weaken t4 λb q=>nomatch q)) av1;rcases j3 hc with⟨rfl,hc⟩|⟨rfl,hc⟩
  ·refine if_pos rfl ..▸?_;have e1:items.length-i=items.length-(i+1)+1:=(Nat.succ_pred_eq_of_pos (Nat.sub_pos_of_lt hlt)).symm;exact hin S4 hc AC4 (λq=>aa (bM (Nat.succ_le_of_lt (Nat.sub_pos_of_lt hlt)) _) (L1 q)) λacc5 st5 S5 AC5 l5 t5 hc=>⟨_,dn,i+1,st5,acc5,S5,rfl,rfl,hlt,hc,R4.frame t5 sub2 S4.ok.wd.froz S5.ok.wd.froz,AC5,Y4.step t5 av1,λq=>by refine(l5 q ..).symm▸(bz ..).symm▸(fV 1 ..).symm▸(e1 ..)▸?_;exact L1 q⟩
  ·refine if_neg aR ..▸?_;exact⟨_,dn,i+1,st4,acc1,S4,rfl,rfl,hlt,hc,R4,AC4,Y4,λq=>aa (bM (fU dn) _) (L1 q)⟩
 ·have hi':i=items.length:=aC hi hge;subst hi';rw[List.drop_length]at hc;refine dN (R1.done (s:=S1.s z) (E:=jg c.M A cenv λe s'=>Rr (.error e) s') (Q:=λr s₁=>r=none∧Rr (.ok .next) s₁) hh priv2 S1.ok λh2 tk2 O2 Y2 P2=>⟨rfl,?_⟩) (λr s₁ hq=>by obtain⟨rfl,hq⟩:=hq;exact hq) λ_ _ e=>e;refine ff AC1.at_ λvs m q1 q2=>?_;exact hR acc1 st1 ⟨h2,tk2,S1.G,S1.θ,O2⟩ hc ⟨(kS vs m (P2 D (.head _) _ q1) q2),AC1.len,AC1.g,AC1.t⟩ ⟨λFx θx Gx m1 m2 y=>Y2 Fx θx Gx (Y1.y Fx θx Gx m1 m2 y),Y1.kept.trans ⟨⟨[],by simp⟩,λ_ _ e=>e,λb hb ht o e=>⟨P2 b (.tail _ (bJ _ hb)) o e,rfl,ht⟩⟩⟩
end
section
variable {prog:cD} {w:bi} {A:bC} {E:ai→ag→Prop} {s:ag} {h₀:bv} {env:Env} {G:Fz} {θ:List aI} {st:St} {n k:Nat}
structure vM (names:List (Str×aK)) (ρ:je) (scope:o7):Prop where
 kind:scope.kind=.function
 nocell:∀x∈scope.names,x.2≠.cell
 loc:∀x∈scope.names,x.2=.local→scope.names.lookup x.1=some .local
 free:∀x∈scope.names,x.2=.free→names.lookup x.1=some .cell∧(ρ.lookup x.1).isSome=true∧scope.names.lookup x.1=some .free
 debug:scope.names.lookup (ofString "__debug__")=none
theorem Bx{names:List (Str×aK)}{ρ:je}{scope:o7}{gens:List Comprehension}(h:qw names ρ scope gens=true):vM names ρ scope∧∀g∈gens,(g.is_async !=0)=false∧tU g.iter=true:=by
 simp only[qw,ay,aM]at h;refine aB h λz1 h4=>?_;clear h;refine aB z1 λz1 h3=>?_;obtain⟨h1,h2⟩:=z1;refine⟨⟨beq_iff_eq.mp h1,λx hx e=>?_,λx hx e=>?_,λx hx e=>?_,by simpa using h3⟩,λg hg=>?_⟩
 ·have:=(h2 x hx).1.1;simp[e]at this
 ·have:=(h2 x hx).1.2;simpa[e]using this
 ·have:=(h2 x hx).2;simp only[e,bne_self_eq_false,jc,ay,beq_iff_eq]at this;exact⟨this.1.1,this.1.2,this.2⟩
 ·have:=h4 g hg;simp only[beq_iff_eq,ay]at this;exact⟨by simp[this.1],this.2⟩
theorem Dk{names:List (Str×aK)}{ρ:je}{scope:o7}{C:aI}{cl:List (Str×aI)}(K:bO env names)(S:vM names ρ scope):bO (uQ scope cl C env) scope.names:=by
 have kd:∀x,(uQ scope cl C env).kindOf x=(scope.names.lookup x).map (FS env x):=λx=>rQ;refine⟨S.kind,K.glob,K.blt,λx h=>?_,λx h=>?_,λx h=>?_,?_⟩
 ·refine(kd ..).symm▸(h ..).symm▸?_;rfl
 ·exact absurd rfl (S.nocell (x,.cell) (mem_of_lookup h))
 ·refine(kd ..).symm▸(h ..).symm▸?_;rfl
 ·refine(kd ..).symm▸(S.debug ..).symm▸?_;rfl
theorem pU{ρ:je}{x:Str}{ob:Option B}:∀ {names:List (Str×aK)},(mw names ρ).lookup x=some ob→((x,.local)∈names∧ob=none)∨((x,.free)∈names∧ρ.lookup x=some ob)
 | [],h=>by simp[mw]at h
 |(y,k)::r,h=>by
  unfold mw at h;rw[sA]at h;have ih:=pU (ρ:=ρ) (x:=x) (ob:=ob) (names:=r);unfold mw at ih;have up:(((x,NameKind.local)∈r∧ob=none)∨((x,.free)∈r∧ρ.lookup x=some ob))→((x,NameKind.local)∈(y,k)::r∧ob=none)∨((x,.free)∈(y,k)::r∧ρ.lookup x=some ob):=λq=>by
   refine q.elim (λz1=>aB z1 λq e=>?_) λz2=>aB z2 λq e=>?_
   ·exact .inl ⟨.tail _ q,e⟩
   ·exact .inr ⟨.tail _ q,e⟩
  by_cases h1:((k==NameKind.local)&&(y !=ofString ".0"))=true
  ·simp only[h1,if_true]at h;rw[bA]at h
   induction q:x==y with
   |true=>
    rw[q]at h;simp only[ay,beq_iff_eq]at h1;obtain rfl:=Option.some.inj h;refine beq_iff_eq.mp q ..▸h1.1 ..▸?_;exact .inl ⟨.head _,rfl⟩
   |false=>rw[q]at h;exact up (ih h)
  ·by_cases h2:(k==NameKind.free)=true
   ·rw[if_neg h1,if_pos h2]at h
    induction q:ρ.lookup y with
    |none=>rw[q]at h;exact up (ih h)
    |some b=>
     rw[q]at h;simp only[gO]at h;rw[bA]at h
     induction q':x==y with
     |true=>
      rw[q']at h;obtain rfl:=Option.some.inj h;refine(beq_iff_eq.mp q' ..).symm▸(beq_iff_eq.mp h2 ..).symm▸?_;exact .inr ⟨.head _,q⟩
     |false=>rw[q']at h;exact up (ih h)
   ·rw[if_neg h1,if_neg h2]at h;exact up (ih h)
theorem lq{names:List (Str×aK)}{scope:o7}{h:bv}(K:bO env names)(S:vM names st.ρ scope)(R:A5 w env G θ h st.ρ){x:Str}(hx:(x,.free)∈scope.names):
  env.kindOf x=some .cell∧∃c v₀,env.cells.lookup x=some c∧h.IsCell c v₀:=by
 refine dE (S.free (x,.free) hx rfl) λh1 h2 _=>?_;have kd:=K.cel x h1;refine aY (Option.isSome_iff_exists.mp h2) λob hob=>?_;refine aB (R.var x ob hob) λh3 _=>?_;refine⟨kd,?_⟩;rcases h3 with h3|⟨_,c,v₀,q1,q2⟩
 ·rw[kd]at h3;cases h3
 ·exact kS c v₀ q1 q2
theorem K9{names:List (Str×aK)}{scope:o7}{h h':bv}{C:aI}{m:Str→Option ai}(K:bO env names)(S:vM names st.ρ scope)(O:Ok w h₀ env G θ st h')(hC:h.get? C=none)(hO:∀a∈priv env,∃o,h.get? a=some o)(gC:G C=none)(tC:C∉θ)(hn:h'.Ns C m):
  A5 w (uQ scope (oH env scope.names []) C env) G θ h' (mw scope.names st.ρ):=by
 have kd:∀x,(uQ scope (oH env scope.names []) C env).kindOf x=(scope.names.lookup x).map (FS env x):=λx=>rQ;have kfree:∀x,(x,.free)∈scope.names→(uQ scope (oH env scope.names []) C env).kindOf x=some .cell:=λx hx=>by
  refine aB (lq K S O.fr hx) λk1 _=>?_;refine kd ..▸((S.free (x,.free) hx rfl).2.2) ..▸?_;simp[FS,K.kind,k1]
 have cmem:∀x c,(oH env scope.names []).lookup x=some c→env.cells.lookup x=some c:=λx c q=>by
  refine aB (uZ q) λq1 q2=>?_;refine aB (lq K S O.fr q1) λ_ z2=>?_;refine ff z2 λc' _ q3 _=>?_;refine(q3 ..).symm▸(q2 ..).symm▸(q3 ..).symm▸?_;rfl
 refine⟨⟨m,hn⟩,λa ha=>?_,λx ob q=>?_,λx c q=>⟨λe=>?_,λy c' q' e=>?_⟩⟩
 ·rcases aA.mp ha with rfl|ha
  ·exact⟨gC,tC,let⟨o,_,_,e,_⟩:=hn;⟨o,e⟩⟩
  ·refine aG (List.mem_map.mp ha) λp hp z3=>?_;obtain rfl:=z3;obtain⟨x,c⟩:=p;refine(pT hp).elim (λq=>?_) λz3=>aB z3 λq1 q2=>?_
   ·exact cg q
   ·refine aB (lq K S O.fr q1) λ_ z4=>?_;refine ff z4 λc' _ q3 _=>?_;have:c=c':=by refine q2 ..▸q3 ..▸?_;rfl
    subst this;exact O.fr.priv c (.tail _ (jH q3))
 ·rcases pU q with⟨q1,rfl⟩|⟨q1,q2⟩
  ·exact⟨.inl (by refine(kd ..).symm▸(S.loc (x,.local) q1 rfl ..).symm▸?_;rfl),λb hb=>by cases hb⟩
  ·refine aB (lq K S O.fr q1) λk1 z5=>?_;refine ff z5 λc v₀ q3 q4=>?_;have q5:=FR q1 q3;refine⟨.inr ⟨kfree x q1,c,v₀,q5,q4⟩,λb hb=>?_⟩;refine aB (O.fr.var x ob q2) λ_ h2=>?_;refine aG (h2 b hb) λv h3 h4=>?_;refine aV v ?_ h4;rcases h3 with⟨h3,_⟩|⟨_,c2,q6,q7⟩
   ·rw[k1]at h3;cases h3
   ·rw[q3]at q6;obtain rfl:=Option.some.inj q6;exact .inr ⟨kfree x q1,c,q5,q7⟩
 ·have e:c=C:=e;refine aY (hO c (.tail _ (jH (cmem x c q)))) λo e'=>?_;rw[e,hC]at e';exact nsN e'
 ·exact(O.fr.apart x c (cmem x c q)).2 y c' (cmem y c' q') e
theorem pb.widen{P P':List aI}{hb:bv}{I:aI}{ds:List ab}{tup:Bool}{i:Nat}{h:bv}(R:pb prog w P hb I ds tup i G θ h)(hP:∀b∈P',b∈P∨h.get? b=none):pb prog w P' hb I ds tup i G θ h:=by
 refine Kf R.ex λfp wr Gi St it q1 q2 q3 q4=>?_;have g:∀b,(b∉θ∧b∉P∧G b=none∧∃o,h.get? b=some o)→(b∉θ∧b∉P'∧G b=none∧∃o,h.get? b=some o):=λb ⟨h1,h2,h3,o,h4⟩=>by
  refine⟨h1,λq=>?_,h3,o,h4⟩;refine(hP b q).elim (λq=>?_) λq=>?_
  ·exact h2 q
  ·rw[q]at h4;exact nsN h4
 refine⟨fp,wr,Gi,St,it,q1,q2,⟨λb hb=>?_,λb hb=>g b (q3.wr b hb)⟩,q4⟩;refine(q3.fp b hb).elim (λq=>?_) λq=>?_
 ·exact .inl q
 ·exact .inr (g b q)
theorem dg.drop{F θ':List aI}{G':Fz}{h h':bv}(e:dg F θ G h θ' G' h')(hF:∀b∈F,h.get? b=none):dg [] θ G h θ' G' h':=
 ⟨e.pre,λa o h1 _ q=>e.keep a o h1 (λr=>by rw[hF a r]at q;exact nsN q) q,e.grow,e.newG,e.dom⟩
theorem Dl(g:Comprehension)(gs:List Comprehension):firstIter (g::gs) env=eval g.iter env:=by induction g using Comprehension.casesOn;rfl
theorem ud{e:Expr}(h:tU e=true)(x:ai):pz e env x=pure x:=by
 induction e using cI<;>first|rfl|(exact dC h)
end
section
variable {c:Cf} {cenv:Env} {n k:Nat} {V:VL} {A:bC} {z:ag} {cx:Cy}
theorem H8{α:Type}(names:List (Str×aK))(ρ:je)(k:je→Tr):mG names ρ k=k (mw names ρ):=by
 unfold mw
 induction names generalizing k with
 |nil=>rfl
 |cons p r ih=>
  obtain⟨x,q⟩:=p;refine sA ..▸?_
  induction q using NameKind.casesOn with
  | «local» =>
   induction h:x==ofString ".0" with
   |true=>
    have e:(bne x (ofString ".0"))=false:=by rw[bne,h];rfl
    simp only[e,Bool.and_false,bR,if_false];show(match x==ofString ".0" with|true=>mG r ρ k|false=>mG r ρ λr'=>k ((x,none)::r'))=_;refine(h ..).symm▸?_;exact ih k
   |false=>
    have e:(bne x (ofString ".0"))=true:=by rw[bne,h];rfl
    simp only[e,kK,beq_self_eq_true,if_true];show(match x==ofString ".0" with|true=>mG r ρ k|false=>mG r ρ λr'=>k ((x,none)::r'))=_;refine h ..▸?_;exact ih _
  |free=>
   show(match ρ.lookup x with|some b=>mG r ρ λr'=>k ((x,b)::r')|none=>mG r ρ k)=_
   induction h:ρ.lookup x with
   |none=>exact ih k
   |some b=>exact ih _
  |_=>exact ih k
theorem La{elt:Expr}{gens:List Comprehension}{scope:o7}{pos:Pos}{D:aI}{one:Bool}(K:bO cenv cx.names)(X:fj c cenv n k V)(B:gi A n k)(ha:∀g∈gens,(g.is_async !=0)=false∧∀x,pz g.iter cenv x=pure x)(hDp:D∉priv cenv):
  ∀(gs:List Comprehension)(j:Nat)(g:Comprehension),gens.drop j=g::gs→(one=true→gs= [])→∀ {Po:List aI} {items acc:List ab} {st:St} {hb:bv} {I:aI} {tup:Bool} {Rr:xT→ag→Prop} {F:List ab→St→Prop} (S:At c cenv st),(∀b∈Po,b≠cenv.locals∧b≠D)→
   oC cx V one elt (g::gs) items acc st F→pb c.prog c.w (D::(priv cenv++Po)) hb I items tup 0 S.G S.θ S.h→(tup=true→∃es k p,g.target=.Tuple es k p)→S.acc D acc→(one=true→acc.length+items.length≤cG)→
   (∀acc' st' (S':At c cenv st'),F acc' st'→S'.acc D acc'→JZ D hb Po S S'→Rr (.ok .next) (S'.s z))→kL c.M A (.compLoop (.ListComp elt gens scope pos) j (.ref I) (.ref D) cenv) Rr (S.s z):=by
 intro gs
 induction gs with
 |nil=>
  intro j g hd ho Po items acc st hb I tup Rr F S hPo h R0 ht AC hl hR;have hg:gens[j]?=some g:=by have:=congrArg List.head? hd;simpa using this
  have hg':gens[j+1]?=none:=by
   have:=congrArg List.length hd;simp only[cO,aP,ch]at this;exact List.getElem?_eq_none (nw [_,_,_] (.d yA (.s (.k 0)) (.d yB (.a yA yC) .n)) yB (.s yC) rfl (ah this) (a6 _ _))
  refine wS (one:=one) K X B ha hPo hDp hg (λ{acc1 st1 κ R Q N} S1 hi AC1 l1 hQ=>?_) S h R0 ht AC hl hR;unfold lp;refine hg' ..▸?_;have fin:acc1.length+1≤cG→(V.evD elt st1 λb s=>κ (acc1++ [b]) s).sat R→au c.M A (eval elt cenv) (λx s₅=>au c.M A (call (.builtin "list.append") [.ref D,x]) (λ_ s₆=>Q s₆) N s₅) N (S1.s z):=λhl hi=>X.evD B S1 hi λd st2 S2 v t2 r hi=>by
   refine Dj (s:=S2.s z) hDp S2.ok (u3.evo AC1 t2 λq=>nomatch q) r hl λh3 O3 AC3 E3=>?_;exact hQ (acc1++ [d]) st2 ⟨h3,S2.tk,S2.G,S2.θ,O3⟩ AC3 (λ_=>by refine aj ..▸?_;rfl) ((dg.weaken t2 λb q=>nomatch q).trans (dg.weaken E3 λb hb=>by refine ae.mp hb ..▸?_;exact .tail _ (.head _))) hi
  induction one with
  |true=>exact fin (l1 rfl) hi
  |false=>
   refine aB (eB hi) λhf hi=>?_;exact fin (aa (bh (of_decide_eq_true hf)) (by refine dD ..▸?_;decide)) hi
 |cons g2 gs ih=>
  intro j g hd ho Po items acc st hb I tup Rr F S hPo h R0 ht AC hl hR;have hone:one=false:=by
   induction one with
   |true=>cases ho rfl
   |false=>rfl
  subst hone;have hg:gens[j]?=some g:=by have:=congrArg List.head? hd;simpa using this
  have hd2:gens.drop (j+1)=g2::gs:=by have:=congrArg List.tail hd;simpa using this
  have hg':gens[j+1]?=some g2:=by have:=congrArg List.head? hd2;simpa using this
  refine wS (one:=false) K X B ha hPo hDp hg (λ{acc1 st1 κ R Q N} S1 hi AC1 l1 hQ=>?_) S h R0 ht AC hl hR;unfold lp;refine hg' ..▸?_;refine dE (uc (show(wG cx V g2.target g2.iter st1 _).sat R from hi)) λf1 f2 f3=>?_;have hP:H0 (D::(priv cenv++ [])) S1.h:=λb hb=>by
   rcases aA.mp hb with rfl|hb
   ·refine ff AC1.at_ λ_ _ q _=>?_;exact⟨_,q⟩
   ·refine(List.mem_append.mp hb).elim (λhb=>?_) λhb=>?_
    ·exact(S1.ok.fr.priv b hb).2.2
    ·exact cg hb
  refine Dg (P:=D::(priv cenv++ [])) K X B S1 hP f3 λds st2 S2 I2 t2 ld R2 hi=>?_;refine aG hi λu hu hi=>?_
  induction u using U.casesOn<;>first|exact hu.elim|skip
  rename_i r st3;have fin:kL c.M A (.compLoop (.ListComp elt gens scope pos) (j+1) (.ref I2) (.ref D) cenv) (λr s'=>match r with|.ok _=>Q s'|.error _=>False) (S2.s z):=
   ih (j+1) g2 hd2 (λq=>nomatch q) (Po:= []) S2 (λ_ h=>nomatch h) hu R2 f2 (u3.evo AC1 t2 λq=>nomatch q) (λq=>nomatch q) λacc4 st4 S4 hF AC4 Y4=>by
    refine aB hF λz6 z7=>?_;clear hF;obtain rfl:=z6;obtain rfl:=z7;exact hQ acc4 st4 S4 AC4 (λq=>nomatch q) (Y4.y _ _ _ (.head _) (.tail _ (.head _)) (dg.weaken t2 λb q=>nomatch q)) hi
  exact lS hg' (ha g2 (List.mem_of_getElem? hg')).1 fin (R2.self (s:=S2.s z) B.handled fin)
end
structure J0 {c:Cf} {env:Env} {st st':St} (S:At c env st) (S':At c env st') (a:aI) (cl:bE):Prop where
 cell:gP c.w S'.G S'.θ S'.h a cl
 old:S.h.get? a=none
 g:S'.G a=none
 t:a∉S'.θ
 p:a∉priv env
section
variable {c:Cf} {env:Env} {n k:Nat} {V:VL} {A:bC} {E:ai→ag→Prop} {R:U→Prop} {z:ag} {st:St} {cx:Cy} {Vc:List (Str×aK)→VL}
theorem yN{elt:Expr}{gens:List Comprehension}{scope:o7}{pos pos':Pos}{κ:List ab→St→Tr}{use:Option (ai→Sem Unit)}{Q:ai→ag→Prop}(K:bO env cx.names)(X:fj c env n k V)(XL:∀(cenv:Env)(ns:List (Str×aK)),bO cenv ns→fj c cenv n k (Vc ns))(B:gi A n k)(S:At c env st)(h:(Eu cx Vc V elt gens scope st κ).sat R)
  (hQ:∀acc a C st' (S':At c env st') m,S.To S'→J0 S S' a (.lst (acc.map .v))→S'.h.Ns C m→S.h.get? C=none→S'.G C=none→C∉S'.θ→C∉priv env→C≠a→(κ acc st').sat R→compPost c.M A E use Q (.ref a) C (.ok .next) (S'.s z)):
  firstAsync gens=false∧au c.M A (comprehension (.ListComp elt gens scope pos) scope env pos' (newList []) false (firstIter gens env) use) Q E (S.s z):=by
 induction gens using am with
 |nil=>exact h.elim
 |cons g gs=>
 refine aB (cq h) λhsc h=>?_;refine aB (Bx hsc) λSc ha=>?_;refine dE (uc h) λf1 f2 f3=>?_;refine⟨by induction g using Comprehension.casesOn;exact(ha _ (.head _)).1,?_⟩;have hcl:closureFor scope env=pure (oH env scope.names []):=vz λx hx e=>by
  obtain⟨y,ky⟩:=x;have e:ky=.free:=e;subst e;refine aB (lq K Sc S.ok.fr hx) λ_ z8=>?_;refine ff z8 λc _ q _=>?_;show(env.cells.lookup y).isSome=true;refine q ..▸?_;rfl
 refine wpAny_comprehension_free (g:=g) (gs:=gs) rfl (ud f1) hcl Sc.kind Sc.loc ?_;refine Dl ..▸?_;refine Dg (P:=priv env) K X B S (λb hb=>(S.ok.fr.priv b hb).2.2) f3 λitems st1 S1 I t1 ld R1 h=>?_;refine aB (cq h) λhsc1 h=>?_;refine aB (Bx hsc1) λSc1 _=>?_;obtain⟨ρ1,σ1⟩:=st1;have h:(Os scope.names λns=>mG ns ρ1 λρ₁=>.rel _ _).sat R:=h;rw[HW,H8 (α:=Unit)]at h;refine aG h λu hu h=>?_
 induction u using U.casesOn<;>first|exact hu.elim|skip
 rename_i racc rst;refine eO (wpAny_newFunctionEnv Sc.nocell (by intro y hy;simp at hy) (λh₁ hns₁ hsb₁=>?_) Sc.kind);dsimp only at hns₁ hsb₁⊢
 generalize hH2:(S1.s z).heap.push {cls:=.type "list",dict:=none,data:=.seq ([]:List ai).toArray}=H2 at hns₁ hsb₁⊢
 have hH2:S1.h.push {cls:=.type "list",dict:=none,data:=.seq ([]:List ai).toArray}=H2:=hH2;have hC:H2.objs.size=S1.h.objs.size+1:=by exact(hH2 ..)▸Heap.size_push ..▸rfl
 have hDC:S1.h.objs.size≠H2.objs.size:=by refine hC ..▸?_;exact eg (cS (ak _))
 have hD:h₁.get? S1.h.objs.size=some {cls:=.type "list",data:=.seq #[]}:=hsb₁.extBut _ _ hDC (Heap.get?_push_of_some _ (hH2▸Heap.get?_push_size _ rfl));have fD:S1.h.get? S1.h.objs.size=none:=dY (ak _);have fC:S1.h.get? H2.objs.size=none:=dY (by refine hC ..▸?_;exact nW _);have nb:∀b,S1.h.get? b=none→S.h.get? b=none:=λb q=>by
  induction r:S.h.get? b with
  |none=>rfl
  |some o=>refine aY (t1.dom b o r) λo' e=>?_;rw[q]at e;exact nsN e
 refine aB (S1.ok.wd.no fD) λgD tD=>?_;refine aB (S1.ok.wd.no fC) λgC tC=>?_;have pD:=hY S1.ok.fr fD;have pC:=hY S1.ok.fr fC;refine aB (S1.ok.keeps (λb o e=>hsb₁.extBut b o (by refine hC ..▸?_;exact eg (Nat.lt_succ_of_lt (Heap.lt_size e))) (Heap.get?_push_of_some _ (hH2▸Heap.get?_push_of_some _ e)):∀b o,S1.h.get? b=some o→h₁.get? b=some o)) λO1 E1=>?_
 generalize hce:uQ scope (oH env scope.names []) H2.objs.size env=cenv
 have K1:bO cenv scope.names:=hce▸Dk K Sc;have F1:=K9 (C:=H2.objs.size) (h:=S1.h) K Sc1 O1 fC (λa ha=>(S1.ok.fr.priv a ha).2.2) gC tC hns₁;have lC:cenv.locals=H2.objs.size:=hce▸rfl;rw[hce]at F1
 let S2:At c cenv ⟨mw scope.names ρ1,σ1⟩:=⟨h₁,S1.tk+([]:List (Str×ai)).length,S1.G,S1.θ,⟨O1.wd,F1⟩⟩
 have pcl:∀b∈priv cenv,b=H2.objs.size∨b∈priv env:=λb hb=>by
  rw[←hce]at hb;rcases aA.mp hb with rfl|hb
  ·exact .inl rfl
  ·refine aG (List.mem_map.mp hb) λp hp z9=>?_;obtain rfl:=z9;obtain⟨x,c⟩:=p;refine(pT hp).elim (λq=>?_) λz5=>aB z5 λq1 q2=>?_
   ·exact cg q
   ·refine aB (lq K Sc S.ok.fr q1) λ_ z10=>?_;refine ff z10 λc' _ q3 _=>?_;have:c=c':=by refine q2 ..▸q3 ..▸?_;rfl
    subst this;exact .inr (.tail _ (jH q3))
 have Rw:pb c.prog c.w (S1.h.objs.size::(priv cenv++priv env)) S.h I items (sG g.iter) 0 S1.G S1.θ S1.h:=R1.widen λb hb=>by
  rcases aA.mp hb with rfl|hb
  ·exact .inr fD
  ·refine(List.mem_append.mp hb).elim (λhb=>?_) λhb=>?_
   ·rcases pcl b hb with rfl|hb
    ·exact .inr fC
    ·exact .inl hb
   ·exact .inl hb
 have R2:=Rw.frame E1 (λb q=>nomatch q) S1.ok.wd.froz O1.wd.froz;have loop:kL c.M A (.compLoop (.ListComp elt (g::gs) scope pos) 0 (.ref I) (.ref S1.h.objs.size) cenv) (compPost c.M A E use Q (.ref S1.h.objs.size) H2.objs.size) (S2.s z):=by
  refine La (cx:=⟨cx.C,scope.names,[],false⟩) (one:=zM (g::gs)) K1 (XL _ _ K1) B (λg' hg'=>⟨(ha g' hg').1,ud (ha g' hg').2⟩) (λq=>(pcl _ q).elim hDC pD:S1.h.objs.size∉priv cenv) gs 0 g rfl (λq=>by induction gs using am<;>first|rfl|exact dC q) (Po:=priv env) S2 (λb hb=>⟨λq=>by
   rw[lC]at q;subst q;exact pC hb,λq=>by subst q;exact pD hb⟩) hu R2 f2 ⟨(kS ([]) 0 hD .nil),a7 _,gD,tD⟩ (λ_=>by refine ch ..▸ce ..▸?_;exact ld) λacc4 st4 S4 hF AC4 Y4=>?_
  refine aB hF λz11 z12=>?_;clear hF;obtain rfl:=z11;obtain rfl:=z12;obtain⟨ρ4,σ4⟩:=st4
  let S5:At c env ⟨ρ1,σ4⟩:=⟨S4.h,S4.tk,S4.G,S4.θ,⟨S4.ok.wd,O1.fr.kept Y4.kept⟩⟩
  have Ee:S.To S5:=(Y4.y [H2.objs.size,S1.h.objs.size] S.θ S.G (by refine lC ..▸?_;exact .head _) (.tail _ (.head _)) ((dg.trans t1 E1).weaken λb q=>nomatch q)).drop λb hb=>by
   rcases aA.mp hb with rfl|hb
   ·exact nb _ fC
   ·refine ae.mp hb ..▸?_;exact nb _ fD
  refine ff AC4.at_ λvs mm q1 q2=>?_;refine aY S4.ok.fr.ns λm hm=>?_;refine dE (S4.ok.fr.priv cenv.locals (.head _)) λc1 c2 _=>?_;rw[lC]at hm c1 c2;have h:(κ acc4 ⟨ρ1,σ4⟩).sat R:=by
   induction gs using am with
   |nil=>exact h
   |cons _ _=>exact(eB h).2
  exact hQ acc4 S1.h.objs.size H2.objs.size _ S5 m Ee ⟨(kT vs mm q1 (.of_all q2) (by refine(aN ..).symm▸?_;exact AC4.len)),nb _ fD,AC4.g,AC4.t,pD⟩ hm (nb _ fC) c1 c2 pC (Ne.symm hDC) h
 show kL c.M A (.compStart (.ListComp elt (g::gs) scope pos) 0 (.ref I) (.ref S1.h.objs.size) (uQ scope (oH env scope.names []) H2.objs.size env)) (compPost c.M A E use Q (.ref S1.h.objs.size) H2.objs.size) (S2.s z);refine(hce ..).symm▸?_;exact lS (j:=0) (g:=g) rfl (ha g (.head _)).1 loop (R2.self (s:=S2.s z) B.handled loop)
end
section
variable {prog:cD} {w:bi} {A:bC} {E:ai→ag→Prop} {s:ag} {h₀:bv} {env:Env} {G:Fz} {θ:List aI} {st:St} {mg mb:Str→Option ai}
theorem sP.off{st':St}{c:bE}{Q:ai→ag→Prop}(hQ:sP w h₀ env G θ s st' c Q){a C:aI}{h' h'':bv}{tk:Nat}{G':Fz}{θ':List aI}(O:Ok w h₀ env G' θ' st' h')(hc:gP w G' θ' h' a c)(fa:s.heap.get? a=none)(ga:G' a=none)(ta:a∉θ')(pa:a∉priv env)(e:dg [] θ G s.heap θ' G' h')
  (fC:s.heap.get? C=none) (gC:G' C=none) (tC:C∉θ') (pC:C∉priv env) (hne:C≠a) (sb:Heap.SameBut C h' h''):Q (.ref a) {s with heap:=h'',toks:=tk}:=by
 have kp:∀b o,b∉ [C]→h'.get? b=some o→h''.get? b=some o:=λb o hb q=>sb.extBut b o (by simpa using hb) q;have O':=O.off (F:= [C]) (λb hb=>by refine ae.mp hb ..▸?_;exact⟨gC,tC,pC⟩) kp;have nC:∀b o,s.heap.get? b=some o→b≠C:=λb o q r=>by rw[r,fC]at q;exact nsN q
 refine hQ a h'' tk G' θ' O' (hc.mono (λ_ _ e=>e) ⟨[],by simp⟩ λo q=>kp a o (by simpa using Ne.symm hne) q) fa ga ta pa ⟨e.pre,λb o h1 h2 q=>kp b o (by simpa using nC b o q) (e.keep b o h1 h2 q),e.grow,e.newG,λb o q=>?_⟩;refine aY (e.dom b o q) λo' q'=>?_;exact⟨o',kp b o' (by simpa using nC b o q) q'⟩
theorem lT{h:bv}(O:Ok w h₀ env G θ st h):h.get? h.objs.size=none∧G h.objs.size=none∧h.objs.size∉θ∧h.objs.size∉priv env:=by
 have fr:=dY (h:=h) (ak h.objs.size);refine aB (O.wd.no fr) λa b=>?_;exact⟨fr,a,b,hY O.fr fr⟩
theorem rR{h h':bv}{F θ':List aI}{G':Fz}(e:dg F θ G h θ' G' h'){a:aI}(ha:h'.get? a=none):h.get? a=none:=by
 induction q:h.get? a with
 |none=>rfl
 |some o=>refine aY (e.dom a o q) λo' r=>?_;rw[ha]at r;exact nsN r
theorem H9(T:pE w h₀ mg mb){h:bv}{σ:fH}(W:Wd w h₀ G θ σ h){a:aI}(ha:h.get? a=none):(a==iW)=false:=by
 refine aY T.sysm λo e=>?_;have:h.get? iW=some o:=W.froz _ _ (W.base _ _ e);refine beq_eq_false_iff_ne.mpr λq=>?_;rw[q,this]at ha;exact sN ha
theorem Dm(T:pE w h₀ mg mb){pos:Pos}{Q:ai→ag→Prop}(O:Ok w h₀ env G θ st s.heap)(hQ:sP w h₀ env G θ s st (.dct []) Q):au (aZ prog w) A (eval (.Dict [] [] pos) env) Q E s:=by
 refine wpAny_Dict_empty ?_;refine aB (eQ {cls:=.type "dict",data:=.dict #[]} O) λO1 E1=>?_;refine eL (lT O) λf1 f2 f3 f4=>?_;exact hQ _ _ s.toks G θ O1 (zp ([]) 0 (Heap.get?_push_size _ rfl) .nil ⟨.nil,.inl rfl,by simp⟩ (H9 T O.wd f1)) f1 f2 f3 f4 E1
theorem Ia{names:List (Str×aK)}{f:String}{a:Expr}{p pos:Pos}{Q:ai→ag→Prop}(T:pE w h₀ mg mb)(K:bO env names)(hs:dF a=true)(hg:names.lookup (ofString f)=some .globalImplicit)(hf:f∈builtins)(hv:mb (ofString f)=some (.type f))(O:Ok w h₀ env G θ st s.heap)
  (h:au (aZ prog w) A (eval a env) (λv s₁=>au (aZ prog w) A (call (.type f) [v]) Q E s₁) E s):au (aZ prog w) A (eval (.Call (.Name (ofString f) p) [a] [] pos) env) Q E s:=
 pP (by simp[hs]) (kU T K O hg hf hv (PySem.callWith_type rfl (uP (nS (dN h (λv s₁ h₁=>py h₁) λ_ _ e=>e)))))
theorem P8{names:List (Str×aK)}{f:String}{a:Expr}{p pos:Pos}{Q:ai→ag→Prop}(T:pE w h₀ mg mb)(K:bO env names)(hs:dF a=true)(hg:names.lookup (ofString f)=some .globalImplicit)(hf:f∈builtins)(hv:mb (ofString f)=some (.builtin f))(O:Ok w h₀ env G θ st s.heap)
  (h:au (aZ prog w) A (eval a env) (λv s₁=>au (aZ prog w) A (call (.builtin f) [v]) Q E s₁) E s):au (aZ prog w) A (eval (.Call (.Name (ofString f) p) [a] [] pos) env) Q E s:=
 pP (by simp[hs]) (kU T K O hg hf hv (rA rfl (uP (nS (dN h (λv s₁ h₁=>py h₁) λ_ _ e=>e)))))
end
section
variable {c:Cf} {env:Env} {n k:Nat} {V:VL} {A:bC} {E:ai→ag→Prop} {R:U→Prop} {z:ag} {st:St} {cx:Cy} {Vc:List (Str×aK)→VL}
noncomputable def KF(S:At c env st)(z:ag)(R:U→Prop)(κ:ab→St→Tr)(Q:ai→ag→Prop):Prop:=∀d cl st' (S':At c env st') a,S.To S'→J0 S S' a cl→oD d=some cl→(κ d st').sat R→Q (.ref a) (S'.s z)
theorem gi.room80{A:bC}{n k:Nat}(b:gi A n k):A.units+80<gB:=by have:=b.units;exact nw [_,_,_,_] (.d (.s (.a (.a (.a yA (.m 120 yB)) (.m 8 yC)) (.k 100))) yD .n) (.s (.a yA (.k 80))) yD rfl this
theorem yO(xs:List ab):j0 (xs.map .v)=some xs:=by
 induction xs with
 |nil=>rfl
 |cons x r ih=>rw[aE,yv.2.1,ih];rfl
theorem J0.back{st1 st':St}{S:At c env st}{S1:At c env st1}{S':At c env st'}{a:aI}{cl:bE}(f:J0 S1 S' a cl)(t:S.To S1):J0 S S' a cl:=⟨f.cell,rR t f.old,f.g,f.t,f.p⟩
theorem OJ{S:At c env st}{st':St}{cl:bE}{Q:ai→ag→Prop}(hQ:∀(S':At c env st')(a:aI),S.To S'→J0 S S' a cl→Q (.ref a) (S'.s z)):sP c.w c.h₀ env S.G S.θ (S.s z) st' cl Q:=λa h' tk G' θ' O hc fa ga ta pa e=>hQ ⟨h',tk,G',θ',O⟩ a e ⟨hc,fa,ga,ta,pa⟩
theorem KF.from{st1:St}{S:At c env st}{S1:At c env st1}{κ:ab→St→Tr}{Q:ai→ag→Prop}(hQ:KF S z R κ Q)(t:S.To S1){st':St}{cl:bE}{d:ab}(e:oD d=some cl)(h:(κ d st').sat R):sP c.w c.h₀ env S1.G S1.θ (S1.s z) st' cl Q:=OJ λS' a t' f=>hQ d cl st' S' a (t.trans t') (f.back t) e h
theorem zX(X:fj c env n k V)(B:gi A n k)(S:At c env st){es:List Expr}{pos:Pos}{κ:ab→St→Tr}{Q:ai→ag→Prop}(hf:(jz es.length&&es.all dF)=true)(h:(V.evDs es st λa s=>κ (.list a) s).sat R)(hQ:KF S z R κ Q):au c.M A (eval (.List es pos) env) Q E (S.s z):=by
 rw[ay]at hf;refine wpAny_List ?_;refine ic hf.2 ..▸?_;refine X.evDs B S h λds st' S' vs t l rs h=>?_;have hl:ds.length≤cG:=by refine l ..▸?_;exact aa (of_decide_eq_true hf.1) (by refine dD ..▸?_;decide)
 refine⟨by refine rs.length ..▸?_;exact hl,?_⟩;refine aB (eQ {cls:=.type "list",data:=.seq vs.toArray} S'.ok) λO1 E1=>?_;refine eL (lT S'.ok) λf1 f2 f3 f4=>?_;exact hQ (.list ds) (.lst (ds.map .v)) st' ⟨_,S'.tk,S'.G,S'.θ,O1⟩ _ (dg.trans t E1) ⟨(kT vs 0 (Heap.get?_push_size _ rfl) (.of_all rs) (by refine(aN ..).symm▸?_;exact hl)),rR t f1,f2,f3,f4⟩ rfl h
theorem Ib(X:fj c env n k V)(B:gi A n k)(S:At c env st){ke ve:Expr}{pos:Pos}{κ:ab→St→Tr}{Q:ai→ag→Prop}(h:(V.evD ke st λa s=>V.evD ve s λb s'=>oB (AP a) (κ (.dict [(a,b)]) s')).sat R)(hQ:KF S z R κ Q):au c.M A (eval (.Dict [some ke] [ve] pos) env) Q E (S.s z):=by
 have hu:=B.room;refine arm_eval_Dict ..▸?_;have e:(evalEachOpt [some ke] env).zip ((evalEach [ve] env).map λv=>do let x←v;standAt pos;pure x)=([(eval ke env,do let x←eval ve env;standAt pos;pure x)]:List (Sem ai×Sem ai)).map λp=>(some p.1,p.2):=rfl;rw[e,dictDisplay_pairs _ (by simp) (by simp)];refine af (cy (af ?_));unfold subDict;refine af (wpAny_alloc (af (bD ?_)));rw[if_pos (by simp)];refine aB (eQ {cls:=.type "dict",data:=.dict #[]} S.ok) λO1 E1=>?_;refine eL (lT S.ok) λf1 f2 f3 f4=>?_;have hD:(S.h.push {cls:=.type "dict",data:=.dict #[]}).get? S.h.objs.size=some (fJ [] 0):=Heap.get?_push_size _ rfl
 let S1:At c env st:=⟨_,S.tk,S.G,S.θ,O1⟩
 unfold evalPairs;refine af (af (X.evD B S1 h λa st2 S2 kv t2 rk h=>?_));refine af (bD (af (X.evD B S2 h λb st3 S3 vv t3 rv h=>?_)));refine aB (eB h) λhk h=>?_;refine af (cy (ap ?_));unfold evalPairs;refine af (bD (ap (ap ?_)));refine bD ?_;have t13:S1.To S3:=t2.trans t3;have hD2:=t13.keep _ _ f3 (λq=>nomatch q) hD;have g2:S3.G S.h.objs.size=none:=by refine t13.newG _ _ hD f3 ..▸?_;exact f2
 have d2:=t13.off f3 hD;rw[lE];refine af ?_;refine af (af ?_);refine C0 (s:=S3.s z) (n:=0) hD2 .nil ⟨.nil,.inl rfl,a7 _⟩ S3.ok.wd.froz (t3.rp rk) rv (by simp[cP,rN hk]) (by simp[dD]) (nw [_,_] (.d (.s (.a yA (.k 64))) yB .n) (.s (.a yA (.k 16))) yB rfl hu) λh3 es' n' sb ho r d=>?_;refine ap ?_;dsimp only;rw[zn];refine ap (ap (ap (ap ?_)));have kp:∀b o,b∉ [S.h.objs.size]→S3.h.get? b=some o→h3.get? b=some o:=λb o hb q=>sb.extBut b o (λe=>hb (e▸.head _)) q;have O3:=S3.ok.off (F:= [S.h.objs.size]) (λb hb=>by refine ae.mp hb ..▸?_;exact⟨g2,d2,f4⟩) kp;have e2:=E1.trans t13;have ne:∀a o,S.h.get? a=some o→a∉ [S.h.objs.size]:=λa o q r=>by rw[ae.mp r,f1]at q;exact nsN q
 exact hQ (.dict [(a,b)]) (.dct [(a,b)]) st3 ⟨h3,_,S3.G,S3.θ,O3⟩ _ ⟨e2.pre,λa o q1 q2 q=>kp a o (ne a o q) (e2.keep a o q1 q2 q),e2.grow,e2.newG,λa o q=>let⟨o',q'⟩:=e2.dom a o q;⟨o',kp a o' (ne a o q) q'⟩⟩ ⟨(zp es' n' ho r d (H9 c.T S.ok.wd f1)),f1,g2,d2,f4⟩ rfl h
theorem FT(K:bO env cx.names)(X:fj c env n k V)(B:gi A n k)(S:At c env st){p pos:Pos}(v:EV){κ:ab→St→Tr}{Q:ai→ag→Prop}(hs:dF v.ex=true)(hl:cx.names.lookup (ofString "list")=some .globalImplicit)(h:(HO V v st κ).sat R)(hQ:KF S z R κ Q):au c.M A (eval (.Call (.Name (ofString "list") p) [v.ex] [] pos) env) Q E (S.s z):=by
 have plain:(V.evD v.ex st λa s=>uY (jB a) λxs=>κ (.list xs) s).sat R→au c.M A (eval (.Call (.Name (ofString "list") p) [v.ex] [] pos) env) Q E (S.s z):=λh=>
  Ia c.T K hs hl (by decide) c.T.listT S.ok (X.evD B S h λd st' S' v t r h=>by
   refine aG (qC h) λxs e h=>?_;exact KE (s:=S'.s z) S'.ok r e (hQ.from t (d:=.list xs) rfl h))
 induction v using EV.casesOn with
 |meth o m q args p'=>induction args using am with
  |nil=>
   refine aB (cq h) λhm h2=>?_;rw[ay]at hm;cases beq_iff_eq.mp hm.1
   refine Ia c.T K hs hl (by decide) c.T.listT S.ok (wP hm.2 (X.evD B S h2 λd st' S' v t r h=>?_))
   induction d using aq with
   |dict kvs=>
    refine aB (eB h) λhk h=>?_;refine A0 (mz r) λa es j z1 ga ra dk hsys=>?_;obtain rfl:=z1;refine pQ (s:=S'.s z) (id:="dict.items") (S'.ok.wd.froz _ _ ga) PySem.F.slot_dict_items PySem.F.type_dict_items rfl (PySem.evalArgs_none ?_);have hT:(S'.s z).TypeIs (.ref a) "dict":=aV _ (S'.ok.wd.froz _ _ ga) rfl;refine xS PySem.F.slot_dict_items hT PySem.F.entry_dict_items (PySem.F.args_dict_items_1 _) (uU a hsys) ⟨hT,?_⟩;refine aB (eQ {cls:=.type "dict_items",data:=.fields #[.ref a]} S'.ok) λO1 E1=>?_
    let S1:At c env st':=⟨_,S'.tk,S'.G,S'.θ,O1⟩
    exact zD (s:=S1.s z) B.handled O1 r (Bt hk) (iw _ (Heap.get?_push_size _ rfl) rfl rfl) (by
     have:=hQ.from (S1:=S1) (dg.trans t E1) (d:=.list (kvs.map λp=>.tuple [p.1,p.2])) rfl h;rw[bZ]at this;exact this)
   |_=>exact h.elim
  |cons _ _=>exact plain h
 |_=>exact plain h
theorem mK(K:bO env cx.names)(X:fj c env n k V)(XL:∀(cenv:Env)(ns:List (Str×aK)),bO cenv ns→fj c cenv n k (Vc ns))(B:gi A n k)(S:At c env st)(v:EV){κ:ab→St→Tr}{Q:ai→ag→Prop}(h:(FK cx Vc V v st κ).sat R)(hQ:KF S z R κ Q):au c.M A (eval v.ex env) Q E (S.s z):=by
 induction v using EV.casesOn with
 |list es p=>
  refine aB (cq h) λhf h=>?_;exact zX X B S hf h hQ
 |dict0 p=>exact Dm c.T S.ok (hQ.from S.refl (d:=.dict []) rfl h)
 |dict1 ke ve p=>exact Ib X B S h hQ
 |comp elt gs sc p=>
  show au _ _ (eval (.ListComp elt gs sc p) env) _ _ _;refine eval_ListComp ..▸?_;have r:=yN (use:=none) (E:=E) (Q:=Q) (z:=z) (pos:=p) (pos':=firstIterPos gs p) K X XL B S h λacc a C st' S' m t f hm fC gC tC pC hne h=>aV m hm (λh'' sb=>sP.off (hQ.from S.refl (d:=.list acc) rfl h) S'.ok f.cell f.old f.g f.t f.p t fC gC tC pC hne sb);refine r.1 ..▸?_;exact r.2
 |call f q args p=>induction args using am with
  |nil=>exact h.elim
  |cons a args=>induction args using am with
   |nil=>
    refine aB (cq h) λhg h=>?_;rw[ay]at hg;have hl:=pR hg.1;refine(fA h).elim (λz1=>aB z1 λe h2=>?_) λz2=>aB z2 λ_ h=>?_
    ·cases beq_iff_eq.mp e
     have ea:=f6 a;have r:=FT (E:=E) (Q:=Q) (p:=q) (pos:=p) K X B S (ee a) (by refine(ea ..).symm▸?_;exact hg.2) hl h2 hQ;rw[ea]at r;exact r
    ·refine aB (cq h) λe h2=>?_;cases beq_iff_eq.mp e
     refine Ia c.T K hg.2 hl (by decide) c.T.dictT S.ok (X.evD B S h2 λd st' S' v t r h=>?_)
     induction d using aq with
     |list xs=>
      refine aG (gG h) λd e h=>?_;unfold Ew at e;refine aG (Option.bind_eq_some_iff.mp e) λps e1 e2=>?_;refine aG (aH.mp e2) λkvs e3 z2=>?_;obtain rfl:=z2;exact KJ (s:=S'.s z) c.T B.room80 B.handled S'.ok r e1 e3 (hQ.from t (d:=.dict kvs) rfl h)
     |_=>exact h.elim
   |cons _ _=>exact h.elim
 |_=>exact h.elim
theorem KF.data{S:At c env st}{κ:ab→St→Tr}{Q:ai→ag→Prop}(hQ:KD S z R κ Q):KF S z R κ Q:=λd cl st' S' a t f e h=>by
 have hd:hU cl=some d:=by
  induction d using aq<;>first|exact nsN e|exact dC e|(obtain rfl:=Option.some.inj e;done)|skip
  ·obtain rfl:=Option.some.inj e;refine CO ..▸yO ..▸?_;rfl
  ·obtain rfl:=Option.some.inj e;rfl
 refine eo (S'.ok.freeze f.cell f.old f.g f.t f.p hd t) λG'' O' r E'=>?_;exact hQ d st' ⟨S'.h,S'.tk,G'',S'.θ,O'⟩ (.ref a) E' r h
noncomputable def KC(S:At c env st)(z:ag)(R:U→Prop)(κ:bE→St→Tr)(Q:ai→ag→Prop):Prop:=∀cl st' (S':At c env ⟨st'.ρ,st'.σ++ [some cl]⟩) v,S.To S'→rD c.w S'.G S'.θ v (.l st'.σ.length)→(κ cl st').sat R→Q v (S'.s z)
theorem J0.keep{st':St}{S:At c env st}{S':At c env st'}{a:aI}{cl:bE}(f:J0 S S' a cl)(t:S.To S')(hl:∀bs,cl=.lst bs→∀m,B.l m∈bs→m<st'.σ.length):∃O:Ok c.w c.h₀ env S'.G (S'.θ++ [a]) ⟨st'.ρ,st'.σ++ [some cl]⟩ S'.h,dg [] S.θ S.G S.h (S'.θ++ [a]) S'.G S'.h∧(S'.θ++ [a])[st'.σ.length]?=some a:=by
 refine dE (S'.ok.newCell f.cell f.old f.g f.t f.p hl t) λO' E' q=>?_;exact aV O' E' q
theorem KF.cell{S:At c env st}{κ:bE→St→Tr}{Q:ai→ag→Prop}(hQ:KC S z R κ Q):KF S z R (λd s=>wF (oD d) λc=>κ c s) Q:=λd cl st' S' a t f e h=>by
 have h:(wF (oD d) λc=>κ c st').sat R:=h;rw[e]at h;obtain⟨O',E',q⟩:=f.keep t (λbs eb m hm=>by
  subst eb
  induction d using aq<;>first|exact nsN e|exact dC e|(cases e;done)|skip
  cases e
  refine aG (List.mem_map.mp hm) λd _ q=>?_;cases q)
 exact hQ cl st' ⟨S'.h,S'.tk,S'.G,S'.θ++ [a],O'⟩ (.ref a) E' (aV a q rfl) h
theorem Dn(K:bO env cx.names)(X:fj c env n k V)(XL:∀(cenv:Env)(ns:List (Str×aK)),bO cenv ns→fj c cenv n k (Vc ns))(B:gi A n k)(S:At c env st){e:Expr}{κ:bE→St→Tr}{Q:ai→ag→Prop}(h:(K3 cx Vc V e st κ).sat R)(hQ:KC S z R κ Q):au c.M A (eval e env) Q E (S.s z):=by
 have r:=mK (E:=E) (Q:=Q) K X XL B S (ee e) h (KF.cell hQ);rw[f6]at r;exact r
end
theorem dg.at{θ' θ'':List aI}{G' G'':Fz}{h' h'':bv}{F:List aI}(e:dg F θ' G' h' θ'' G'' h''){c:Nat}{a:aI}(ha:θ'[c]?=some a):θ''[c]?=some a:=by
 refine aG e.pre λt z1 _=>?_;obtain rfl:=z1;refine List.getElem?_append_left (List.getElem?_eq_some_iff.mp ha).1 ..▸?_;exact ha
theorem lu{n:Nat}(h:jz n=true):n+1≤cG:=aa (bh (of_decide_eq_true h)) (by refine dD ..▸?_;decide)
theorem yj{op:CmpOp}{r:Expr}(h:tU r=true):behindInMarks op r=false:=by
 induction r using cI<;>first|rfl|(exact dC h)
section
variable {c:Cf} {env:Env} {n k:Nat} {V:VL} {A:bC} {E:ai→ag→Prop} {R:U→Prop} {z:ag} {st:St}
noncomputable def mM(env:Env)(args:List Expr):List (Bool×Sem ai):=args.map λe=>(false,eval e env)
variable {m:Nat} {a:aI} {pos:Pos} {args:List Expr} {κ:ab→St→Tr} {Q:ai→ag→Prop}
theorem At.lst{S:At c env st}{bs:List B}(hc:st.σ[m]?=some (some (.lst bs)))(ha:S.θ[m]?=some a):∃(us:List ai) (j:Nat),S.h.get? a=some {cls:=.type "list",data:=.seq us.toArray j}:=by
 refine eo (S.ok.wd.cell m _ hc) λa' q1 z2 _=>?_;refine ff z2 λus j ho _=>?_;clear z2;rw[ha]at q1;obtain rfl:=Option.some.inj q1;exact ik us j ho
theorem Ic(X:fj c env n k V)(B:gi A n k)(S:At c env st){xs0:List Mine.B}(hc0:st.σ[m]?=some (some (.lst xs0)))(ha:S.θ[m]?=some a)(h:(Ey V m args st κ).sat R)(hQ:KD S z R κ Q):o9 c.prog c.w A (ofString "append") pos (.ref a) (mM env args) Q E (S.s z):=by
 refine fe (At.lst hc0 ha) λus j ho=>?_;refine wQ (s:=S.s z) (id:="list.append") ho slot_list_append type_list_append gq (X.args B S h λas st' S' vs t _ rs h=>?_);refine aG (kG h) λcl hc h=>?_
 induction cl using bE.casesOn with
 |dct _=>exact h.elim
 |lst xs=>cases rs with
  |nil=>exact h.elim
  |cons rv rs=>cases rs with
   |cons _ _=>exact h.elim
   |nil=>
    refine aB (eB h) λhf h=>?_;exact FA (s:=S'.s z) S'.ok hc (t.at ha) rv (lu hf) λh3 O3 E3=>hQ .none _ ⟨h3,S'.tk,S'.G,S'.θ,O3⟩ .none (dg.trans t E3) .none (oG (s6 h))
theorem Id(X:fj c env n k V)(B:gi A n k)(S:At c env st){xs0:List Mine.B}(hc0:st.σ[m]?=some (some (.lst xs0)))(ha:S.θ[m]?=some a)(h:(Ez V m args st κ).sat R)(hQ:KD S z R κ Q):o9 c.prog c.w A (ofString "extend") pos (.ref a) (mM env args) Q E (S.s z):=by
  refine fe (At.lst hc0 ha) λus j ho=>?_;refine wQ (s:=S.s z) (id:="list.extend") ho PySem.F.slot_list_extend PySem.F.type_list_extend gq (X.args B S h λas st' S' vs t _ rs h=>?_);refine aG (kG h) λcl hc h=>?_
  induction cl using bE.casesOn with
  |dct _=>exact h.elim
  |lst xs=>cases rs with
    |nil=>exact h.elim
    | @cons v vs d ds rv rs => induction d using aq <;> first | exact h.elim | skip
                               cases rs with
      |cons _ _=>exact h.elim
      |nil=>
        refine aB (eB h) λhf h=>?_;exact FB (s:=S'.s z) S'.ok hc (t.at ha) rv (aW (lu hf)) λh3 O3 E3=>hQ .none _ ⟨h3,S'.tk,S'.G,S'.θ,O3⟩ .none (dg.trans t E3) .none (oG (s6 h))
theorem Lb{as:List ab}{xs:List Mine.B}{f:ab→List Mine.B→Tr}{R:U→Prop}(h:(match as,xs with
  | [.int 0],.v d::r=>f d r
  |_,_=>.fail).sat R):∃d r,as= [.int 0]∧xs=.v d::r∧(f d r).sat R:=by
 rcases as with _|⟨a,as⟩
 ·exact h.elim
 ·induction a using aq with
  |int i=>
   rcases i with(_|i)|i
   ·rcases as with _|⟨b,as⟩
    ·rcases xs with _|⟨x,xs⟩
     ·exact h.elim
     ·induction x using B.casesOn with
      |v d=>exact kT d xs rfl rfl h
      |_=>exact h.elim
    ·exact h.elim
   ·rcases as with _|⟨b,as⟩<;>exact h.elim
   ·rcases as with _|⟨b,as⟩<;>exact h.elim
  |_=>exact h.elim
theorem OK(X:fj c env n k V)(B:gi A n k)(S:At c env st){xs0:List Mine.B}(hc0:st.σ[m]?=some (some (.lst xs0)))(ha:S.θ[m]?=some a)(h:(Ou V m args st κ).sat R)(hQ:KD S z R κ Q):o9 c.prog c.w A (ofString "pop") pos (.ref a) (mM env args) Q E (S.s z):=by
 refine fe (At.lst hc0 ha) λus j ho=>?_;refine wQ (s:=S.s z) (id:="list.pop") ho PySem.F.slot_list_pop PySem.F.type_list_pop gq (X.args B S h λas st' S' vs t _ rs h=>?_);refine aG (kG h) λcl hc h=>?_
 induction cl using bE.casesOn with
 |dct _=>exact h.elim
 |lst xs=>
  refine dS (Lb h) λd r z1 z2 h=>?_;obtain rfl:=z1;obtain rfl:=z2
  ·refine aG (ei.one rs) λv z3 rv=>?_;obtain rfl:=z3;refine aY (cV rv) λu z4=>?_;obtain rfl:=z4;exact M0 (s:=S'.s z) S'.ok hc (t.at ha) λv h3 O3 r3 E3=>hQ _ _ ⟨h3,S'.tk,S'.G,S'.θ,O3⟩ v (dg.trans t E3) r3 (oG h)
theorem OL(X:fj c env n k V)(B:gi A n k)(S:At c env st){kvs0:List (ab×ab)}(hc0:st.σ[m]?=some (some (.dct kvs0)))(ha:S.θ[m]?=some a)(h:(Ov V m args st κ).sat R)(hQ:KD S z R κ Q):o9 c.prog c.w A (ofString "get") pos (.ref a) (mM env args) Q E (S.s z):=by
 refine fe (lM (s:=S.s z) S.ok hc0 ha) λes j D=>?_;refine pQ (s:=S.s z) (id:="dict.get") D.o PySem.F.slot_dict_get PySem.F.type_dict_get gq (X.args B S h λas st' S' vs t _ rs h=>?_);refine aG (kG h) λcl hc h=>?_
 induction cl using bE.casesOn with
 |lst _=>exact h.elim
 |dct kvs=>cases rs with
  |nil=>exact h.elim
  |cons rv rs=>cases rs with
   |nil=>exact h.elim
   |cons rd rs=>cases rs with
    |cons _ _=>exact h.elim
    |nil=>
     refine aB (eB h) λhk h=>?_;refine fe (lM (s:=S'.s z) S'.ok hc (t.at ha)) λes' j' D'=>?_;exact El (s:=S'.s z) B.room D' S'.ok.wd.froz rv rd (oA hk) λv tk r=>hQ _ _ ⟨S'.h,tk,S'.G,S'.θ,S'.ok⟩ v t r (zQ h)
theorem Nq(X:fj c env n k V)(B:gi A n k)(S:At c env st){kvs0:List (ab×ab)}(hc0:st.σ[m]?=some (some (.dct kvs0)))(ha:S.θ[m]?=some a)(h:(Ma V m args st κ).sat R)(hQ:KD S z R κ Q):o9 c.prog c.w A (ofString "pop") pos (.ref a) (mM env args) Q E (S.s z):=by
 refine fe (lM (s:=S.s z) S.ok hc0 ha) λes j D=>?_;refine pQ (s:=S.s z) (id:="dict.pop") D.o PySem.F.slot_dict_pop PySem.F.type_dict_pop gq (X.args B S h λas st' S' vs t _ rs h=>?_);refine aG (kG h) λcl hc h=>?_
 induction cl using bE.casesOn with
 |lst _=>exact h.elim
 |dct kvs=>cases rs with
  |nil=>exact h.elim
  |cons rv rs=>cases rs with
   |nil=>exact h.elim
   |cons rd rs=>cases rs with
    |cons _ _=>exact h.elim
    |nil=>
     refine aB (eB h) λhk h=>?_;exact KH (s:=S'.s z) B.room S'.ok hc (t.at ha) rv rd (oA hk) λv h3 tk O3 r3 E3=>hQ _ _ ⟨h3,tk,S'.G,S'.θ,O3⟩ v (dg.trans t E3) r3 (oG (s6 (zQ h)))
theorem Nr(X:fj c env n k V)(B:gi A n k)(S:At c env st){kvs:List (ab×ab)}{v:ai}(r:Rp c.w S.G v (.dict kvs))(h:(Mb V kvs args st κ).sat R)(hQ:KD S z R κ Q):o9 c.prog c.w A (ofString "get") pos v (mM env args) Q E (S.s z):=by
 refine Ke (wx (s:=S.s z) S.ok r) λa es j z5 D=>?_;obtain rfl:=z5;refine pQ (s:=S.s z) (id:="dict.get") D.o PySem.F.slot_dict_get PySem.F.type_dict_get gq (X.args B S h λas st' S' vs t _ rs h=>?_);cases rs with
 |nil=>exact h.elim
 |cons rv rs=>cases rs with
  |nil=>exact h.elim
  |cons rd rs=>cases rs with
   |cons _ _=>exact h.elim
   |nil=>
    refine aB (eB h) λhk h=>?_;rw[ay]at hk;refine Ke (wx (s:=S'.s z) S'.ok (t.rp r)) λa' es' j' e D'=>?_;cases e
    exact El (s:=S'.s z) B.room D' S'.ok.wd.froz rv rd (oA hk.2) λv tk r=>hQ _ _ ⟨S'.h,tk,S'.G,S'.θ,S'.ok⟩ v t r (zQ h)
theorem Ie(X:fj c env n k V)(B:gi A n k)(S:At c env st){o:Expr}{mt:Str}{apos:Pos}(hm:lJ o apos pos args=true)(h:(Mc V o mt args st κ).sat R)(hQ:KD S z R κ Q):au c.M A (eval (.Call (.Attribute o mt apos) args [] pos) env) Q E (S.s z):=by
 refine wP hm (X.ev B S h λb st' S' v t r h=>?_);have hQ':KD S' z R κ Q:=λd st'' S'' v t'=>hQ d st'' S'' v (t.trans t');cases b with
 |v d=>induction d using aq with
  |dict kvs=>
   refine aB (cq h) λe h2=>?_;cases beq_iff_eq.mp e
   exact Nr X B S' r h2 hQ'
  |_=>exact h.elim
 |l m=>
  refine aG (kG h) λc0 hc h=>?_;refine aG r λa ha z6=>?_;clear r;obtain rfl:=z6
  induction c0 using bE.casesOn with
  |lst xs=>
   refine(fA h).elim (λz1=>aB z1 λe h2=>?_) λz2=>aB z2 λ_ h=>?_
   ·cases beq_iff_eq.mp e;exact Ic X B S' hc ha h2 hQ'
   refine(fA h).elim (λz3=>aB z3 λe h2=>?_) λz4=>aB z4 λ_ h=>?_
   ·cases beq_iff_eq.mp e;exact Id X B S' hc ha h2 hQ'
   refine aB (cq h) λe h2=>?_;cases beq_iff_eq.mp e;exact OK X B S' hc ha h2 hQ'
  |dct kvs=>
   refine(fA h).elim (λz5=>aB z5 λe h2=>?_) λz6=>aB z6 λ_ h=>?_
   ·cases beq_iff_eq.mp e;exact OL X B S' hc ha h2 hQ'
   refine aB (cq h) λe h2=>?_;cases beq_iff_eq.mp e;exact Nq X B S' hc ha h2 hQ'
theorem Ig(X:fj c env n k V)(B:gi A n k)(S:At c env st){o i:Expr}{κ:Mine.B→St→Tr}(hsl:kg i=true)(h:(Md V o i st κ).sat R)(hQ:JY S z R κ Q):au c.M A (eval (.Subscript o i pos) env) Q E (S.s z):=by
 have hs:=jk hsl;refine Subscript_ (X.ev B S h λob st1 S1 ov t1 ro h=>X.evD B S1 h λib st2 S2 iv t2 ri h=>?_);have t:=t1.trans t2;cases ob with
 |v d=>
  have ro:=t2.rp ro;refine aG (gG h) λr e h2=>?_;have pq:=zR (S:=S2) (b:=.v r) λS3 v t3 rv=>hQ (.v r) _ S3 v (t.trans t3) rv h2
  induction d using aq with
  |dict kvs=>
   refine aB (HG e) λhk e=>?_;refine Ke (wx (s:=S2.s z) S2.ok ro) λa es j z7 D=>?_;obtain rfl:=z7;exact o8 (aV _ D.o rfl) slot_dict_getitem.lookup (uV (s:=S2.s z) B.room D S2.ok.wd.froz ri hk e λv tk rv=>hQ (.v r) _ ⟨S2.h,tk,S2.G,S2.θ,S2.ok⟩ v t rv h2) (hs _ _)
  |list xs=>exact Fs (s:=S2.s z) S2.ok hsl ro ri e pq
  |tuple xs=>exact CY (s:=S2.s z) S2.ok hsl ro ri e pq
  |_=>exact nsN e
 |l m=>
  refine aG ro λa ha z8=>?_;clear ro;obtain rfl:=z8;have ha:=t2.at ha;refine aG (kG h) λcl hc h=>?_
  induction cl using bE.casesOn with
  |lst xs=>induction ib using aq with
   |int kk=>
    refine aG (Bw h) λb e h=>?_;refine aY (cV ri) λu z9=>?_;obtain rfl:=z9;refine fe (At.lst hc ha) λus j ho=>?_;exact o8 (aV _ ho rfl) slot_list_getitem.lookup (Bf (s:=S2.s z) S2.ok hc ha e λv rv=>hQ b _ S2 v t rv h) (hs _ _)
   |_=>exact h.elim
  |dct kvs=>
   refine aB (eB h) λhk h=>?_;refine aG (gG h) λd e h=>?_;refine fe (lM (s:=S2.s z) S2.ok hc ha) λes j D=>?_;exact o8 (aV _ D.o rfl) slot_dict_getitem.lookup (uV (s:=S2.s z) B.room D S2.ok.wd.froz ri (oA hk) e λv tk rv=>hQ (.v d) _ ⟨S2.h,tk,S2.G,S2.θ,S2.ok⟩ v t rv h) (hs _ _)
variable {κb:Bool→St→Tr}
theorem zY(B:gi A n k){S:At c env st}{op:CmpOp}{u v:ai}{a:ab}{b:Mine.B}(ra:Rp c.w S.G u a)(rb:rD c.w S.G S.θ v b)(h:(HQ op a b st κb).sat R)(hQ:HX S z R κb λt=>Q (.bool t)):au c.M A (j8 op u v) Q E (S.s z):=
 HY (Q:=λv s=>au c.M A (j8 op u v) Q E s) rb h λd st' S' v t r h=>by
  refine aG (s5 h) λx e h=>?_;refine MU (s:=S'.s z) B.room80 S'.ok (t.rp ra) r (KQ e) λtk=>?_;exact hQ x st' ⟨S'.h,tk,S'.G,S'.θ,S'.ok⟩ t h
theorem Ld(B:gi A n k){S:At c env st}{op:CmpOp}{u v:ai}{a:ab}{b:Mine.B}(ra:Rp c.w S.G u a)(rb:rD c.w S.G S.θ v b)(h:(L9 op a b st κb).sat R)(hQ:HX S z R κb λt=>Q (.bool t)):au c.M A (j8 op u v) Q E (S.s z):=by
 cases b with
 |v d=>exact zY B ra rb h hQ
 |l m=>
  refine aG (kG h) λcl hc h=>?_
  induction cl using bE.casesOn with
  |lst _=>exact zY B ra rb h hQ
  |dct kvs=>induction op using CmpOp.casesOn with
   |In=>
    refine aB (eB h) λhk h=>?_;refine aG rb λx ha z10=>?_;clear rb;obtain rfl:=z10;refine fe (lM (s:=S.s z) S.ok hc ha) λes j D=>?_;exact M1 (s:=S.s z) B.room D S.ok.wd.froz ra (oA hk) λtk=>hQ _ _ ⟨S.h,tk,S.G,S.θ,S.ok⟩ S.refl h
   |_=>exact zY B ra rb h hQ
theorem EG(X:fj c env n k V)(B:gi A n k)(S:At c env st){l r:Expr}{op:CmpOp}(h:(Nd V l op r st κb).sat R)(hQ:HX S z R κb λt=>Q (.bool t)):
  behindInMarks op r=false∧au c.M A (eval l env) (λa s₁=>au c.M A (eval r env) (λb s₂=>au c.M A (j8 op a b) Q E s₂) E s₁) E (S.s z):=by
 refine aB (cq h) λhn h=>?_;exact⟨yj hn,X.evD B S h λa st1 S1 u t1 ra h=>X.ev B S1 h λb st2 S2 v t2 rb h=>Ld B (t2.rp ra) rb h λt st3 S3 t3 h=>hQ t st3 S3 (t1.trans (t2.trans t3)) h⟩
end
set_option backward.match.sparseCases true
noncomputable def Pl(k:Nat)(σ:fH)(u:U)(b:B)(σ':fH):Prop:=match u with
 |.c (.v x) τ=>b=.v x∧σ'=τ++σ.drop k
 |.c (.l m) τ=>σ= []∧b=.l m∧σ'=τ
 |_=>False
structure oI (c:Cf) (n:Nat) (C:Str→List B→fH→U→Prop):Prop where
 fn:∀ {f:Str},wH f=true→∃a o fd,c.mg f=some (.ref a)∧c.h₀.get? a=some o∧o.data=.func fd
 go:∀ {A:bC} {E:ai→ag→Prop} {f:Str} {args:List B} {σ:fH} {u:U} {s:ag} {G:Fz} {θ:List aI} {vs:List ai} {a:aI} {Q:ai→ag→Prop},gi A n 0→C f args (σ.take (mh args)) u→(∃b σ',Pl (mh args) σ u b σ')→c.mg f=some (.ref a)→Wd c.w c.h₀ G θ σ s.heap→jj c.w G θ vs args→
  (∀b σ' v h' tk G' θ',Pl (mh args) σ u b σ'→Wd c.w c.h₀ G' θ' σ' h'→rD c.w G' θ' v b→dg [] θ G s.heap θ' G' h'→Q v {s with heap:=h',toks:=tk})→au c.M A (call (.ref a) vs) Q E s
theorem gi.none{A:bC}{n k:Nat}(b:gi A n k):gi A n 0:=⟨b.handled,b.depth,by have:=b.units;exact nw [_,_,_,_] (.d (.s (.a (.a (.a yA (.m 120 yB)) (.m 8 yC)) (.k 100))) yD .n) (.s (.a (.a (.a yA (.m 120 yB)) (.m 8 (.k 0))) (.k 100))) yD rfl this⟩
section
variable {prog:cD} {w:bi} {A:bC} {E:ai→ag→Prop} {s:ag} {env:Env}
theorem Do{lo up:Option Expr}{p:Pos}{Q:ai→ag→Prop}(h:au (aZ prog w) A (pA (evalOpt lo env)) (λl s₁=>au (aZ prog w) A (pA (evalOpt up env)) (λu s₂=>au (aZ prog w) A (newFields "slice" [l,u,.none]) Q E s₂) E s₁) E s):
  au (aZ prog w) A (eval (.Slice lo up none p) env) Q E s:=by
 show au _ _ (do
  let l←pA (evalOpt lo env)
  let u←holding [l] (pA (evalOpt up env))
  let s←holding [l,u] (pA none)
  newFields "slice" [l,u,s]) _ _ _
 refine af (dN h (λl s₁ h₁=>af (bD (dN h₁ (λu s₂ h₂=>?_) λ_ _ e=>e))) λ_ _ e=>e);exact af (bD (ap h₂))
end
section
variable {c:Cf} {env:Env} {n k:Nat} {V:VL} {A:bC} {E:ai→ag→Prop} {R:U→Prop} {z:ag} {st:St} {cx:Cy} {Vc:List (Str×aK)→VL}
theorem KD.after{st1:St}{S:At c env st}{S1:At c env st1}{κ:ab→St→Tr}{Q:ai→ag→Prop}(hQ:KD S z R κ Q)(t:S.To S1):KD S1 z R κ Q:=λb st' S' v t'=>hQ b st' S' v (t.trans t')
theorem HX.after{st1:St}{S:At c env st}{S1:At c env st1}{κ:Bool→St→Tr}{Q:Bool→ag→Prop}(hQ:HX S z R κ Q)(t:S.To S1):HX S1 z R κ Q:=λb st' S' t'=>hQ b st' S' (t.trans t')
theorem JY.d{S:At c env st}{κ:Mine.B→St→Tr}{Q:ai→ag→Prop}(hQ:JY S z R κ Q):KD S z R (λd s=>κ (.v d) s) Q:=λd st' S' v t r h=>hQ (.v d) st' S' v t r h
theorem FU{g:Str}(K:bO env cx.names)(X:fj c env n k V)(XL:∀(cenv:Env)(ns:List (Str×aK)),bO cenv ns→fj c cenv n k (Vc ns))(B:gi A n k){es:List Expr}:∀ {i:Nat} {st:St} (S:At c env st) {κ:List Mine.B→St→Tr} {Q:List ai→ag→Prop},
  (V.evArgs g (K3 cx Vc V) i es st κ).sat R→Qz S z R κ Q→au c.M A (spliced (es.map λe=>(false,eval e env))) Q E (S.s z):=by
 induction es with
 |nil=>exact λS _ _ h hQ=>py (hQ [] _ S [] S.refl .nil h)
 |cons e r ih=>
  intro i st S κ Q h hQ;have rest:∀ {b:Mine.B} {st1:St} {S1:At c env st1} {v:ai},S.To S1→rD c.w S1.G S1.θ v b→(V.evArgs g (K3 cx Vc V) (i+1) r st1 λbs s=>κ (b::bs) s).sat R→au c.M A (spliced (r.map λe=>(false,eval e env))) (λvs s₂=>Q (v::vs) s₂) E (S1.s z):=λ{b} {st1} {S1} {v} t rv h=>
   ih S1 h λbs st2 S2 vs t2 rs h=>hQ (b::bs) st2 S2 (v::vs) (t.trans t2) (.cons (t2.rb rv) rs) h
  refine nS ?_;refine(fA h).elim (λz1=>aB z1 λ_ h=>?_) λz2=>aB z2 λ_ h=>?_
  ·refine(fA h).elim (λz3=>aB z3 λ_ h=>?_) λz4=>aB z4 λ_ h=>?_
   ·exact Dn K X XL B S h λcl st1 S1 v t rv h=>rest t rv (s7 h)
   ·exact X.ev B S h λb st1 S1 v t rv h=>rest t rv h
  ·exact X.evD B S h λd st1 S1 v t rv h=>rest (b:=.v d) t rv h
theorem Ih (X : fj c env n k V) (B : gi A n k) {op : BoolOp} {pos : Pos} {es : List Expr} : ∀ {st : St} (S : At c env st) {κ : ab → St → Tr} {Q : ai → ag → Prop}, (L8 V op es st κ).sat R → KD S z R κ Q → au c.M A (boolOp pos op (evalEach es env)) Q E (S.s z) := by
  induction es with
  | nil => exact λS _ _ h => h.elim
  | cons e r ih =>
    intro st S κ Q h hQ
    induction r using am with
    | nil => exact X.evD B S h hQ
    | cons e2 r =>
      show au _ _ (do
        let v ← eval e env
        standAt pos
        let t ← holding [v] (truthy v)
        match op, t with
        | .And, false | .Or, true => pure v
        | _, _ => boolOp pos op (evalEach (e2 :: r) env)) _ _ _
      refine af (X.evD B S h λa st1 S1 v t1 rv h => ?_);refine aG (s5 h) λt e1 h => ?_;refine af (cy (af (bD (wp (s := S1.s z) rv e1 ?_))))
      induction op using BoolOp.casesOn with
      | And => rcases j3 h with ⟨rfl, h⟩ | ⟨rfl, h⟩
               · exact ih S1 h (hQ.after t1)
               · exact ap (hQ a st1 S1 v t1 rv h)
      | Or => rcases j3 h with ⟨rfl, h⟩ | ⟨rfl, h⟩
              · exact ap (hQ a st1 S1 v t1 rv h)
              · exact ih S1 h (hQ.after t1)
theorem FV(X:fj c env n k V)(B:gi A n k){op:BoolOp}{es:List Expr}:∀ {st:St} (S:At c env st) {κ:Bool→St→Tr} {Q:Bool→ag→Prop},(HP V op es st κ).sat R→HX S z R κ Q→au c.M A (allTrue op es env) Q E (S.s z):=by
 induction es with
 |nil=>
  intro st S κ Q h hQ
  induction op using BoolOp.casesOn with
  |And=>exact wpAny_allTrue_And_nil (hQ true st S S.refl h)
  |Or=>exact wpAny_allTrue_Or_nil (hQ false st S S.refl h)
 |cons e r ih=>
  intro st S κ Q h hQ
  induction op using BoolOp.casesOn with
  |And=>exact wpAny_allTrue_And_cons (X.evT B S h λa st1 S1 t1 h=>by
    rcases j3 h with⟨rfl,h⟩|⟨rfl,h⟩
    ·exact ih S1 h (hQ.after t1)
    ·exact hQ false st1 S1 t1 h)
  |Or=>exact wpAny_allTrue_Or_cons (X.evT B S h λa st1 S1 t1 h=>by
    rcases j3 h with⟨rfl,h⟩|⟨rfl,h⟩
    ·exact hQ true st1 S1 t1 h
    ·exact ih S1 h (hQ.after t1))
noncomputable def Pm(w:bi)(G:Fz)(v:ai)(d:Option ab):Prop:=match d with|some x=>Rp w G v x|none=>v=.none
theorem Ii(X:fj c env n k V)(B:gi A n k)(S:At c env st){e:Option Expr}{κ:Option ab→St→Tr}{Q:ai→ag→Prop}(h:(V.evO e st κ).sat R)(hQ:∀d st' (S':At c env st') v,S.To S'→Pm c.w S'.G v d→(κ d st').sat R→Q v (S'.s z)):au c.M A (pA (evalOpt e env)) Q E (S.s z):=by
 induction e with
 |none=>exact ap (hQ .none st S .none S.refl rfl h)
 |some e=>exact X.evD B S h λd st' S' v t r h=>hQ (some d) st' S' v t r h
theorem Pm.to{st st':St}{S:At c env st}{S':At c env st'}(t:S.To S'){v:ai}{d:Option ab}(r:Pm c.w S.G v d):Pm c.w S'.G v d:=by
 induction d with
 |none=>exact r
 |some x=>exact t.rp r
theorem Ij(K:bO env cx.names)(S:At c env st){x:Str}{p:Pos}{κ:Mine.B→St→Tr}{Q:ai→ag→Prop}(h:(HR cx x st κ).sat R)(hQ:JY S z R κ Q):au c.M A (eval (.Name x p) env) Q E (S.s z):=by
 unfold HR at h
 induction hx:st.ρ.lookup x with
 |some ob=>
  rw[hx]at h;refine aG (s8 h) λb e h=>?_;subst e;exact CU (s:=S.s z) K S.ok hx (zR λS' v t r=>hQ b st S' v t r h)
 |none=>
  rw[hx]at h;refine aB (cq h) λhn h=>?_;refine aG (s8 h) λd e h=>?_;exact CV (s:=S.s z) c.T K S.ok (beq_iff_eq.mp hn) e (zR λS' v t r=>hQ (.v d) st S' v t r h)
theorem Le(K:bO env cx.names)(X:fj c env n k V)(B:gi A n k)(S:At c env st){a:Expr}{p pos:Pos}{κ:ab→St→Tr}{Q:ai→ag→Prop}(hs:dF a=true)(hl:cx.names.lookup (ofString "len")=some .globalImplicit)(h:(Ow V a st κ).sat R)(hQ:KD S z R κ Q):au c.M A (eval (.Call (.Name (ofString "len") p) [a] [] pos) env) Q E (S.s z):=by
 refine P8 c.T K hs hl (by decide) c.T.lenB S.ok (X.ev B S h λx st' S' v t r h=>?_);cases x with
 |v d=>
  refine aG (HV h) λm e h=>?_;exact Hu (s:=S'.s z) S'.ok r e λu tk=>hQ (.int m) st' ⟨S'.h,tk,S'.G,S'.θ,S'.ok⟩ _ t (.int _ _) h
 |l m=>
  refine aG (kG h) λcl hc h=>?_
  induction cl using bE.casesOn with
  |lst xs=>exact Hv (s:=S'.s z) S'.ok r hc λu tk=>hQ (.int xs.length) st' ⟨S'.h,tk,S'.G,S'.θ,S'.ok⟩ _ t (.int _ _) h
  |dct _=>exact h.elim
theorem Lf(K:bO env cx.names)(X:fj c env n k V)(B:gi A n k)(S:At c env st){f:Str}{args:List Expr}{p pos:Pos}{κ:ab→St→Tr}{Q:ai→ag→Prop}(hs:args.all dF=true)(hl:cx.names.lookup f=some .globalImplicit)(hb:f=ofString "max"∨f=ofString "abs"∨f=ofString "min"∨f=ofString "tuple")(h:(V.evDs args st λa s=>t9 (Pj f a) λd=>κ d s).sat R)(hQ:KD S z R κ Q):au c.M A (eval (.Call (.Name f p) args [] pos) env) Q E (S.s z):=by
 rcases hb with rfl|rfl|rfl|rfl
 ·exact qo (f:=⟨env,cx.names,K⟩) X B S hs hl (by decide) c.T.maxB h λds st' S' vs t _ rs h=>by
   refine aG (gG h) λd e h=>?_;exact MY (s:=S'.s z) B.handled S'.ok rs e (zR λS'' v t' r=>hQ d st' S'' v (t.trans t') r h)
 ·exact qo (f:=⟨env,cx.names,K⟩) X B S hs hl (by decide) c.T.absB h λds st' S' vs t _ rs h=>by
   refine aG (gG h) λd e h=>?_;exact MZ (s:=S'.s z) S'.ok rs e (zR λS'' v t' r=>hQ d st' S'' v (t.trans t') r h)
 ·exact qo (f:=⟨env,cx.names,K⟩) X B S hs hl (by decide) c.T.minB h λds st' S' vs t _ rs h=>by
   refine aG (gG h) λd e h=>?_;exact MX (s:=S'.s z) B.handled S'.ok rs e (zR λS'' v t' r=>hQ d st' S'' v (t.trans t') r h)
 ·exact lh (f:=⟨env,cx.names,K⟩) X B S hs hl (by decide) c.T.tupleT h λds st' S' vs t _ rs h=>by
   refine aG (gG h) λd e h=>?_;exact MW (s:=S'.s z) S'.ok rs e (zR λS'' v t' r=>hQ d st' S'' v (t.trans t') r h)
end
set_option backward.match.sparseCases false
section
variable {c:Cf} {env:Env} {n k:Nat} {V:VL} {A:bC} {E:ai→ag→Prop} {R:U→Prop} {z:ag} {st:St} {cx:Cy} {Vc:List (Str×aK)→VL}
theorem Ik{f:Str}{p:Pos}{v:ai}{Q:ai→ag→Prop}(K:bO env cx.names)(S:At c env st)(hn:cx.names.lookup f=some .globalImplicit)(hv:c.mg f=some v)(hQ:Q v (S.s z)):au c.M A (eval (.Name f p) env) Q E (S.s z):=by
 have hk:=K.names _ hn;exact uM K.kind hk (loadGlobal_global (K.glob▸c.T.g.keeps (qy (s:=S.s z) S.ok.wd)) hv hQ) (sI K (by refine hk ..▸?_;simp))
theorem Il{f:Str}{p pos:Pos}{args:List Expr}{κ:Mine.B→St→Tr}{Q:ai→ag→Prop}(K:bO env cx.names)(X:fj c env n k V)(XL:∀(cenv:Env)(ns:List (Str×aK)),bO cenv ns→fj c cenv n k (Vc ns))(XC:oI c n cx.C)(B:gi A n k)(S:At c env st)(hs:args.all dF=true)(hl:cx.names.lookup f=some .globalImplicit)(hd:wH f=true)
  (h:(V.evArgs f (K3 cx Vc V) 0 args st λa s=>match s with|⟨ρ,σ⟩=>.rel (cx.C f a (σ.take (mh a))) λu=>match u with|.c (.v x) σ'=>κ (.v x) ⟨ρ,σ'++σ.drop (mh a)⟩|.c (.l m) σ'=>(match σ with| []=>κ (.l m) ⟨ρ,σ'⟩|_=>.fail)|_=>.fail).sat R) (hQ:JY S z R κ Q):au c.M A (eval (.Call (.Name f p) args [] pos) env) Q E (S.s z):=by
 refine xZ (XC.fn hd) λa o fd q1 q2 q3=>?_;refine pP hs (Ik K S hl q1 (callWith_function (o:=o) (fd:=fd) ?_));have fin:Qz S z R (λa s=>match s with|⟨ρ,σ⟩=>.rel (cx.C f a (σ.take (mh a))) λu=>match u with|.c (.v x) σ'=>κ (.v x) ⟨ρ,σ'++σ.drop (mh a)⟩|.c (.l m) σ'=>(match σ with| []=>κ (.l m) ⟨ρ,σ'⟩|_=>.fail)|_=>.fail) λvs s'=>(s'.heap.get? a=some o∧o.data=.func fd)∧au c.M A (call (.ref a) ([]++vs) []) Q E s':=λbs st1 S1 vs t rs h=>by
  refine⟨⟨qy (s:=S1.s z) S1.ok.wd a o q2,q3⟩,?_⟩;obtain⟨ρ,σ⟩:=st1;refine aG h λu hu h=>?_;have step:∀b σ',Pl (mh bs) σ u b σ'→(κ b ⟨ρ,σ'⟩).sat R:=λb σ' r=>by
   induction u using U.casesOn<;>first|exact r.elim|skip
   rename_i b' τ;cases b' with
   |v x=>refine aB r λz1 z2=>?_;clear r;obtain rfl:=z1;obtain rfl:=z2;exact h
   |l m=>refine dE r λz3 z4 z5=>?_;clear r;obtain rfl:=z3;obtain rfl:=z4;obtain rfl:=z5;exact h
  have ex:∃b σ',Pl (mh bs) σ u b σ':=by
   induction u using U.casesOn<;>first|exact h.elim|skip
   rename_i b' τ;cases b' with
   |v x=>exact kS _ _ rfl rfl
   |l m=>induction σ using am with
    |nil=>exact kT _ _ rfl rfl rfl
    |cons _ _=>exact h.elim
  exact XC.go (s:=S1.s z) B.none hu ex q1 S1.ok.wd rs λb σ' v h' tk G' θ' r W rv e=>hQ b ⟨ρ,σ'⟩ ⟨h',tk,G',θ',⟨W,S1.ok.fr.evo e⟩⟩ v (dg.trans t e) rv (step b σ' r)
 induction args using am with
 |nil=>exact PySem.evalArgs_none (fin [] st S [] S.refl .nil h)
 |cons e r=>exact uP (FU K X XL B S h fin)
theorem FW{f:Str}(h:Dc f=true):f=ofString "max"∨f=ofString "abs"∨f=ofString "min"∨f=ofString "tuple":=by
 simpa only[Dc,dU,beq_iff_eq]using h
theorem Im{f:Str}{p pos:Pos}{args:List Expr}{κ:Mine.B→St→Tr}{Q:ai→ag→Prop}(K:bO env cx.names)(X:fj c env n k V)(XL:∀(cenv:Env)(ns:List (Str×aK)),bO cenv ns→fj c cenv n k (Vc ns))(XC:oI c n cx.C)(B:gi A n k)(S:At c env st)(h:(Me cx Vc V f p args pos st κ).sat R)(hQ:JY S z R κ Q):au c.M A (eval (.Call (.Name f p) args [] pos) env) Q E (S.s z):=by
 refine aB (cq h) λhg h=>?_;rw[ay]at hg;have hl:=pR hg.1;refine(fA h).elim (λz1=>aB z1 λ_ h=>?_) λz2=>aB z2 λ_ h=>?_
 ·exact mK K X XL B S (.call f p args pos) h (KF.data hQ.d)
 refine(fA h).elim (λz3=>aB z3 λe h2=>?_) λz4=>aB z4 λ_ h=>?_
 ·cases beq_iff_eq.mp e
  induction args using am with
  |nil=>exact h2.elim
  |cons a args=>induction args using am with
   |nil=>exact Le K X B S (by simpa using hg.2) hl h2 hQ.d
   |cons _ _=>exact h2.elim
 refine(fA h).elim (λz5=>aB z5 λe h=>?_) λz6=>aB z6 λ_ h=>?_
 ·exact Lf K X B S hg.2 hl (FW e) h hQ.d
 refine aB (cq h) λhd h=>?_;exact Il K X XL XC B S hg.2 hl hd h hQ
theorem Lg(K:bO env cx.names)(X:fj c env n k V)(XL:∀(cenv:Env)(ns:List (Str×aK)),bO cenv ns→fj c cenv n k (Vc ns))(XC:oI c n cx.C)(B:gi A n k)(S:At c env st)(v:EV){κ:Mine.B→St→Tr}{Q:ai→ag→Prop}(h:(Ox cx Vc V v st κ).sat R)(hQ:JY S z R κ Q):au c.M A (eval v.ex env) Q E (S.s z):=by
 induction v using EV.casesOn with
 |const q kk p=>
  refine aG (s8 h) λd e h=>?_
  induction q using Const.casesOn<;>simp only[G8,Option.some.injEq,reduceCtorEq]at e<;>subst e
  ·exact PySem.wpAny_Constant_none (hQ.d _ st S .none S.refl .none h)
  ·exact PySem.wpAny_Constant_bool (hQ.d _ st S _ S.refl (.bool _) h)
  ·exact PySem.wpAny_Constant_int (hQ.d _ st ⟨S.h,_,S.G,S.θ,S.ok⟩ _ S.refl (.int _ _) h)
  ·exact PySem.wpAny_Constant_str (hQ.d _ st ⟨S.h,_,S.G,S.θ,S.ok⟩ _ S.refl (.str _ _) h)
 |name x p=>exact Ij K S h hQ
 |bin l op r p=>
  exact PySem.wpAny_BinOp (X.evD B S h λa st1 S1 u t1 ru h=>X.evD B S1 h λb st2 S2 v t2 rv h=>by
   refine aG (gG h) λd e h=>?_;exact MS (s:=S2.s z) B.handled S2.ok (t2.rp ru) rv e (zR λS3 v t3 r3=>hQ (.v d) _ S3 v (t1.trans (t2.trans t3)) r3 h))
 |not x p=>
  exact PySem.wpAny_UnaryOp (X.evD B S h λa st1 S1 u t1 ru h=>by
   refine aG (s5 h) λt e h=>?_;exact PySem.not_value (wp (s:=S1.s z) ru e (hQ.d (.bool (!t)) st1 S1 _ t1 (.bool _) h)))
 |neg x p=>
  refine PySem.wpAny_UnaryOp (X.evD B S h λa st1 S1 u t1 ru h=>?_)
  induction a using aq<;>first|exact h.elim|skip
  refine aY (cV ru) λt z6=>?_;obtain rfl:=z6;exact P.neg_int (hQ.d _ st1 ⟨S1.h,_,S1.G,S1.θ,S1.ok⟩ _ t1 (.int _ _) h)
 |bool op es p=>
  show au _ _ (eval (.BoolOp op es p) env) _ _ _;refine arm_eval_BoolOp ..▸?_;exact Ih X B S h hQ.d
 |ife t a b p=>
  exact PySem.wpAny_IfExp (X.evT B S h λr st1 S1 t1 h=>by
   rcases j3 h with⟨rfl,h⟩|⟨rfl,h⟩
   ·exact X.evD B S1 h (hQ.d.after t1)
   ·exact X.evD B S1 h (hQ.d.after t1))
 |cmp l op r p=>
  have q:=EG (E:=E) (Q:=Q) X B S h λt st1 S1 t1 h=>hQ.d (.bool t) st1 S1 _ t1 (.bool _) h;exact PySem.wpAny_Compare1 q.2 q.1
 |tup es kk p=>
  refine aB (cq h) λhf h=>?_;rw[ay]at hf;refine PySem.wpAny_Tuple ?_;refine ic hf.2 ..▸?_;refine X.evDs B S h λds st1 S1 vs t1 l rs h=>?_;have hl:ds.length≤cG:=by refine l ..▸?_;exact aW (lu hf.1)
  refine⟨by refine rs.length ..▸?_;exact hl,?_⟩;refine eL (lT S1.ok) λf1 f2 f3 f4=>?_;refine aB (iY (o:={cls:=.type "tuple",data:=.seq vs.toArray}) S1.ok rfl) λO1 E1=>?_;exact hQ.d (.tuple ds) st1 ⟨_,S1.tk,_,S1.θ,O1⟩ _ (dg.trans t1 E1) (.tuple (ej ..) (rs.mono (cw f2)) hl) h
 |slice o lo up q p=>
  exact Subscript_ (X.evD B S h λa st1 S1 ov t1 ro h=>Do (Ii X B S1 h λx st2 S2 lv t2 rl h=>Ii X B S2 h λy st3 S3 uv t3 ru h=>by
   refine aG (gG h) λd e h=>?_;exact Hp (s:=S3.s z) (l:=x) (u:=y) S3.ok (t3.rp (t2.rp ro)) (rl.to t3) ru e (zR λS4 v t4 r4=>hQ (.v d) _ S4 v (t1.trans (t2.trans (t3.trans t4))) r4 h)))
 |item o i p=>
  refine aB (cq h) λhn h=>?_;exact Ig X B S hn h hQ
 |meth o m q args p=>
  refine aB (cq h) λhm h=>?_;exact Ie X B S hm h hQ.d
 |call f q args p=>exact Im K X XL XC B S h hQ
 |other e=>exact h.elim
 |list es p=>exact mK (κ:=λd s=>κ (.v d) s) K X XL B S (.list es p) h (KF.data hQ.d)
 |dict0 p=>exact mK (κ:=λd s=>κ (.v d) s) K X XL B S (.dict0 p) h (KF.data hQ.d)
 |dict1 a b p=>exact mK (κ:=λd s=>κ (.v d) s) K X XL B S (.dict1 a b p) h (KF.data hQ.d)
 |comp elt gs sc p=>exact mK (κ:=λd s=>κ (.v d) s) K X XL B S (.comp elt gs sc p) h (KF.data hQ.d)
theorem Nt(X:fj c env n k V)(B:gi A n k)(S:At c env st)(v:EV){κ:Bool→St→Tr}{Q:Bool→ag→Prop}(h:(Qx V v st κ).sat R)(hQ:HX S z R κ Q):au c.M A (uO v.ex env (eval v.ex env)) Q E (S.s z):=by
 have plain:(V.evD v.ex st λa s=>C9 (yw a) λt=>κ t s).sat R→au c.M A (eval v.ex env) (λv s₁=>au c.M A (truthy v) Q E s₁) E (S.s z):=λh=>X.evD B S h λa st1 S1 u t1 ru h=>by
  refine aG (s5 h) λt e h=>?_;exact wp (s:=S1.s z) ru e (hQ t st1 S1 t1 h)
 induction v using EV.casesOn with
 |not x p=>exact wpAny_isTrue_Not (X.evT B S h λt st1 S1 t1 h=>hQ (!t) st1 S1 t1 h)
 |bool op es p=>exact wpAny_isTrue_BoolOp (FV X B S h hQ)
 |ife t a b p=>
  show au _ _ (do if←uO t env (eval t env)then uO a env (eval a env)else uO b env (eval b env)) _ _ _;refine af (X.evT B S h λr st1 S1 t1 h=>?_);rcases j3 h with⟨rfl,h⟩|⟨rfl,h⟩
  ·exact X.evT B S1 h (hQ.after t1)
  ·exact X.evT B S1 h (hQ.after t1)
 |cmp l op r p=>
  have q:=EG (E:=E) (Q:=λv s₃=>au c.M A (truthy v) Q E s₃) X B S h λt st1 S1 t1 h=>iF (hQ t st1 S1 t1 h);exact wpAny_isTrue_Compare1 q.2 q.1
 |other e=>exact h.elim
 |_=>
  refine wpAny_isTrue_value (plain h) ?_
  generalize eval _ env=w
  rfl
theorem Nu(K:bO env cx.names)(X:fj c env n k V)(XL:∀(cenv:Env)(ns:List (Str×aK)),bO cenv ns→fj c cenv n k (Vc ns))(XC:oI c n cx.C)(B:gi A n k)(S:At c env st){e:Expr}{κ:Mine.B→St→Tr}{Q:ai→ag→Prop}(h:(Qw cx Vc V e st κ).sat R)(hQ:JY S z R κ Q):au c.M A (eval e env) Q E (S.s z):=by
 have r:=Lg (E:=E) (Q:=Q) K X XL XC B S (ee e) h hQ;rw[f6]at r;exact r
theorem OM(X:fj c env n k V)(B:gi A n k)(S:At c env st){e:Expr}{κ:Bool→St→Tr}{Q:Bool→ag→Prop}(h:(tT V e st κ).sat R)(hQ:HX S z R κ Q):au c.M A (uO e env (eval e env)) Q E (S.s z):=by
 have r:=Nt (E:=E) (Q:=Q) X B S (ee e) h hQ;rw[f6]at r;exact r
end
section
variable {w:bi} {G:Fz} {θ:List aI}
theorem Ip{vs:List ai}{bs:List Mine.B}(r:jj w G θ vs bs):∀m,Mine.B.l m∈bs→m<θ.length:=by
 intro m hm;refine aY (List.mem_iff_getElem?.mp hm) λi hi=>?_;refine aG (r.get hi) λv _ z1=>?_;refine aG z1 λa q _=>?_;exact(List.getElem?_eq_some_iff.mp q).1
end
section
variable {c:Cf} {env:Env} {n k:Nat} {V:VL} {A:bC} {E:ai→ag→Prop} {R:U→Prop} {z:ag} {st:St} {cx:Cy} {Vc:List (Str×aK)→VL}
theorem KX.after{st1:St}{S:At c env st}{S1:At c env st1}{κ:Fl→St→Tr}{Q:Flow→ag→Prop}(hQ:KX S z R κ Q)(t:S.ToX S1):KX S1 z R κ Q:=λb st' S' v t'=>hQ b st' S' v (t.trans t')
theorem Lh(K:bO env cx.names)(X:fj c env n k V)(XL:∀(cenv:Env)(ns:List (Str×aK)),bO cenv ns→fj c cenv n k (Vc ns))(B:gi A n k){es:List Expr}:∀ {st:St} (S:At c env st) {κ:List Mine.B→St→Tr} {Q:List ai→ag→Prop},
  (V.evBs (K3 cx Vc V) es st κ).sat R→(∀bs st' (S':At c env st') vs,S.To S'→bs.length=es.length→jj c.w S'.G S'.θ vs bs→(κ bs st').sat R→Q vs (S'.s z))→au c.M A (spliced (es.map λe=>(false,eval e env))) Q E (S.s z):=by
 induction es with
 |nil=>exact λS _ _ h hQ=>py (hQ [] _ S [] S.refl rfl .nil h)
 |cons e r ih=>
  intro st S κ Q h hQ;have rest:∀ {b:Mine.B} {st1:St} {S1:At c env st1} {v:ai},S.To S1→rD c.w S1.G S1.θ v b→(V.evBs (K3 cx Vc V) r st1 λbs s=>κ (b::bs) s).sat R→au c.M A (spliced (r.map λe=>(false,eval e env))) (λvs s₂=>Q (v::vs) s₂) E (S1.s z):=λ{b} {st1} {S1} {v} t rv h=>
   ih S1 h λbs st2 S2 vs t2 l rs h=>hQ (b::bs) st2 S2 (v::vs) (t.trans t2) (congrArg gA l) (.cons (t2.rb rv) rs) h
  refine nS ?_;refine(fA h).elim (λz1=>aB z1 λ_ h=>?_) λz2=>aB z2 λ_ h=>?_
  ·exact Dn K X XL B S h λcl st1 S1 v t rv h=>rest t rv (s7 h)
  ·exact X.evD B S h λd st1 S1 v t rv h=>rest (b:=.v d) t rv h
theorem Nv(K:bO env cx.names)(X:fj c env n k V)(XL:∀(cenv:Env)(ns:List (Str×aK)),bO cenv ns→fj c cenv n k (Vc ns))(B:gi A n k)(S:At c env st)(v:EV){κ:bE→St→Tr}{Q:ai→ag→Prop}(h:(Qv cx Vc V v st κ).sat R)(hQ:KC S z R κ Q):au c.M A (eval v.ex env) Q E (S.s z):=by
 have old:(FK cx Vc V v st λd s=>wF (oD d) λc=>κ c s).sat R→au c.M A (eval v.ex env) Q E (S.s z):=λh=>mK K X XL B S v h (KF.cell hQ)
 induction v using EV.casesOn with
 |list es p=>
  refine aB (cq h) λhf h=>?_;rw[ay]at hf;refine PySem.wpAny_List ?_;refine ic hf.2 ..▸?_;refine Lh K X XL B S h λbs st1 S1 vs t l rs h=>?_;have hl:bs.length≤cG:=by refine l ..▸?_;exact aW (lu hf.1)
  refine⟨by refine rs.length ..▸?_;exact hl,?_⟩;refine aB (eQ {cls:=.type "list",data:=.seq vs.toArray} S1.ok) λO1 E1=>?_;refine eL (lT S1.ok) λf1 f2 f3 f4=>?_;refine dE (O1.newCell (h:=S.h) (c:=.lst bs) (kT vs 0 (Heap.get?_push_size _ rfl) rs hl) (rR t f1) f2 f3 f4 (λbs' e m hm=>by cases e;refine(S1.ok.wd.len ..)▸?_;exact Ip rs m hm) (dg.trans t E1)) λO2 E2 q=>?_;exact hQ _ st1 ⟨_,S1.tk,S1.G,_,O2⟩ _ E2 (aV _ q rfl) h
 |_=>exact old h
theorem Mi(K:bO env cx.names)(X:fj c env n k V)(XL:∀(cenv:Env)(ns:List (Str×aK)),bO cenv ns→fj c cenv n k (Vc ns))(B:gi A n k)(S:At c env st){e:Expr}{κ:bE→St→Tr}{Q:ai→ag→Prop}(h:(tF cx Vc V e st κ).sat R)(hQ:KC S z R κ Q):au c.M A (eval e env) Q E (S.s z):=by
 unfold tF at h
 induction hk:cx.kl<;>rw[hk]at h
 ·exact Dn K X XL B S h hQ
 ·have r:=Nv (E:=E) (Q:=Q) K X XL B S (ee e) h hQ;rw[f6]at r;exact r
theorem EH{x:Str}(K:bO env cx.names)(X:fj c env n k V)(XL:∀(cenv:Env)(ns:List (Str×aK)),bO cenv ns→fj c cenv n k (Vc ns))(B:gi A n k)(S:At c env st){e:Expr}{κ:Mine.B→St→Tr}{Q:ai→ag→Prop}(h:(K5 cx Vc V x e st κ).sat R)(hQ:JY S z R κ Q):au c.M A (eval e env) Q E (S.s z):=by
 refine(fA h).elim (λz3=>aB z3 λ_ h=>?_) λz4=>aB z4 λ_ h=>?_
 ·exact Mi K X XL B S h λcl st1 S1 v t rv h=>hQ _ _ S1 v t rv (s7 h)
 refine(fA h).elim (λz5=>aB z5 λ_ h=>?_) λz6=>aB z6 λ_ h=>?_
 ·exact X.ev B S h hQ
 ·exact X.evD B S h hQ.d
theorem nu(X:fj c env n k V)(B:gi A n k){ss:List Stmt}:∀ {st:St} (S:At c env st) {κ:Fl→St→Tr} {Q:Flow→ag→Prop},(pI V ss st κ).sat R→KX S z R κ Q→au c.M A (execs ss env) Q E (S.s z):=by
 induction ss with
 |nil=>exact λS _ _ h hQ=>CG (hQ .next _ S .next S.refl.x rfl h)
 |cons s r ih=>
  intro st S κ Q h hQ;refine wpAny_execs_cons (X.exec B S h λf st1 S1 fl t hf h=>?_)
  induction f using Fl.casesOn with
  |next=>cases hf;exact ih S1 h (hQ.after t)
  |brk=>cases hf;exact hQ .brk st1 S1 .brk t rfl h
  |cont=>cases hf;exact hQ .cont st1 S1 .cont t rfl h
  |ret b=>refine aG hf λv e rv=>?_;clear hf;cases e;exact hQ (.ret b) st1 S1 (.ret v) t (aV v rfl rv) h
noncomputable def KL(S:At c env st)(z:ag)(P:Fl→St→Prop)(Rr:xT→ag→Prop):Prop:=∀f st' (S':At c env st') fl,S.ToX S'→QA c.w S'.G S'.θ fl f→P f st'→Rr (.ok fl) (S'.s z)
theorem KL.next{P:Fl→St→Prop}{Rr:xT→ag→Prop}{S:At c env st}(hR:KL S z P Rr){st':St}{S':At c env st'}(t:S.ToX S')(p:P .next st'):Rr (.ok .next) (S'.s z):=hR .next st' S' .next t rfl p
theorem Iq(X:fj c env n k V)(B:gi A n k)(S:At c env st){t:Expr}{body:List Stmt}{m:Nat}{P:Fl→St→Prop}{Rr:xT→ag→Prop}(h:nq V t body m st P)(hR:KL S z P Rr):kL c.M A (.whileLoop t body [] env) Rr (S.s z):=by
 let Inv:Nat→ag→Prop:=λm s'=>∃st1,∃S1:At c env st1,s'=S1.s z∧nq V t body m st1 P∧S.ToX S1
 refine codeAny_whileLoop Inv ?_ m ⟨st,S,rfl,h,S.refl.x⟩
 rintro m s' ⟨st1,S1,rfl,h1,t1⟩
 induction m using cZ with
 |zero=>exact h1.elim
 |succ m=>
  refine X.evT B S1 h1 λb st2 S2 t2 h=>?_;have t2:=t1.trans t2.x;rcases j3 h with⟨rfl,h⟩|⟨rfl,h⟩
  ·refine nu X B S2 h λf st3 S3 fl t3 hf h=>?_;have t4:=t2.trans t3
   induction f using Fl.casesOn with
   |next=>cases hf;exact⟨m,fg _,st3,S3,rfl,h,t4⟩
   |cont=>cases hf;exact⟨m,fg _,st3,S3,rfl,h,t4⟩
   |brk=>cases hf;exact hR.next t4 h
   |ret b=>refine aG hf λv e rv=>?_;clear hf;cases e;exact hR (.ret b) st3 S3 (.ret v) t4 (aV v rfl rv) h
  ·exact CG (hR.next t2 h)
theorem EI(v:EV):P6 (λ_=>True) v:=by
 induction v using EV.casesOn<;>first|trivial|exact λ_ _ _ _ _=>trivial
theorem Nw{st0:St}(K:bO env cx.names)(X:fj c env n k V)(B:gi A n k)(S0:At c env st0)(S:At c env st){t:Expr}{body:List Stmt}{items:List ab}{P:Fl→St→Prop}{Rr:xT→ag→Prop}{I:aI}{tup:Bool}(h:rO V t body items st P)
  (R0:pb c.prog c.w (priv env) S0.h I items tup 0 S.G S.θ S.h) (ht:tup=true→∃es k p,t=.Tuple es k p) (E0:S0.ToX S) (hR:KL S0 z P Rr):kL c.M A (.forLoop t (.ref I) body [] env) Rr (S.s z):=by
 have hh:=B.handled
 let Inv:Nat→ag→Prop:=λnn s'=>∃i st1,∃S1:At c env st1,s'=S1.s z∧nn=items.length+1-i∧i≤items.length∧rO V t body (items.drop i) st1 P∧pb c.prog c.w (priv env) S0.h I items tup i S1.G S1.θ S1.h∧S0.ToX S1
 refine codeAny_forLoop_any Inv ?_ (items.length+1) ⟨0,st,S,rfl,rfl,a7 _,h,R0,E0⟩
 rintro nn s' ⟨i,st1,S1,rfl,rfl,hi,hc,R',E'⟩
 refine(ms i items.length).elim (λhlt=>?_) λhge=>?_
 ·rw[dZ hlt]at hc;refine dN (R'.item (s:=S1.s z) (target:=t) (d:=items[i]) (E:=jg c.M A env λe s'=>Rr (.error e) s') (Q:=λv s₂=>au c.M A (m6 t env v) (λ_ s₂=>au c.M A (execs body env) (λf s₃=>match f with
      |.next|.cont=>∃m,m<items.length+1-i∧Inv m s₃
      |.brk=>Rr (.ok .next) s₃
      |.ret v=>Rr (.ok (.ret v)) s₃) (jg c.M A env λe s'=>Rr (.error e) s') s₂) (jg c.M A env λe s'=>Rr (.error e) s') s₂) hh (λb hb=>hb) S1.ok (List.getElem?_eq_getElem hlt) ht λv h1 tk1 G1 O1 r1 R1 Y1 P1=>?_) (λr s₁ hq=>by obtain⟨v,rfl,hq⟩:=hq;exact hq) λ_ _ e=>e
  refine zV (S:=⟨h1,tk1,G1,_,O1⟩) hh (pS K) (EI _) r1 hc λρ₁ S2 t2 h=>?_;refine nu X B S2 h λf st3 S3 fl t3 hf h=>?_;have E4:S0.ToX S3:=(Y1 _ _ _ E').trans (dg.trans t2 t3);have again:rO V t body (items.drop (i+1)) st3 P→∃m,m<items.length+1-i∧Inv m (S3.s z):=λh=>⟨items.length+1-(i+1),by exact nw [_,_,_,_] (.d (.s yA) (.a yB yC) (.d (.a yD (.s yC)) (.s yA) .n)) (.s yD) yB rfl (a6 _ _) (ah (az (aa hlt (ao _ _)))),i+1,st3,S3,rfl,rfl,hlt,h,((R1.frame t2 (λb hb=>hb) O1.wd.froz S2.ok.wd.froz).frame t3 (λb hb=>hb) S2.ok.wd.froz S3.ok.wd.froz),E4⟩
  induction f using Fl.casesOn with
  |next=>cases hf;exact again h
  |cont=>cases hf;exact again h
  |brk=>cases hf;exact hR.next E4 h
  |ret b=>refine aG hf λv e rv=>?_;clear hf;cases e;exact hR (.ret b) st3 S3 (.ret v) E4 (aV v rfl rv) h
 ·have hi':i=items.length:=aC hi hge;subst hi';rw[List.drop_length]at hc;refine dN (R'.done (s:=S1.s z) (E:=jg c.M A env λe s'=>Rr (.error e) s') (Q:=λr s₁=>r=none∧Rr (.ok .next) s₁) hh (λb hb=>hb) S1.ok λh1 tk1 O1 Y1 P1=>⟨rfl,hR.next (S':=⟨h1,tk1,S1.G,S1.θ,O1⟩) (Y1 _ _ _ E') hc⟩) (λr s₁ hq=>by obtain⟨rfl,hq⟩:=hq;exact CG hq) λ_ _ e=>e
theorem yP(B:gi A n k)(S:At c env st){ov iv vv:ai}{o:Mine.B}{i v:ab}{κ:St→Tr}{Q:Unit→ag→Prop}(ro:rD c.w S.G S.θ ov o)(ri:Rp c.w S.G iv i)(rv:Rp c.w S.G vv v)(h:(Dd o i v st κ).sat R)
  (hQ:∀st' (S':At c env st'),S.To S'→(κ st').sat R→Q () (S'.s z)):au c.M A (setItem ov iv vv) Q E (S.s z):=by
 cases o with
 |v _=>exact h.elim
 |l m=>
  refine aG ro λa ha z4=>?_;clear ro;obtain rfl:=z4;refine aG (kG h) λcl hc h=>?_
  induction cl using bE.casesOn with
  |lst xs=>
   induction i using aq<;>first|exact h.elim|skip
   refine aB (eB h) λhk h=>?_;have hk:=of_decide_eq_true hk;refine aY (cV ri) λt z5=>?_;obtain rfl:=z5;exact Hx (s:=S.s z) S.ok hc ha rv hk.1 hk.2 λh' O' E'=>hQ _ ⟨h',S.tk,S.G,S.θ,O'⟩ E' (oG (s6 h))
  |dct kvs=>
   refine aB (eB h) λh1 h=>?_;refine aB (eB h) λh2 h=>?_;exact KG (s:=S.s z) B.room S.ok hc ha ri rv (oA h1) (lu h2) λh' tk O' E'=>hQ _ ⟨h',tk,S.G,S.θ,O'⟩ E' (oG (s6 h))
end
set_option backward.match.sparseCases true
section
variable {prog:cD} {w:bi} {A:bC} {E:ai→ag→Prop} {s:ag} {h₀:bv} {env:Env} {G:Fz} {θ:List aI} {st:St}
theorem Dp{e:Expr}{x:Str}{p:Pos}{ln:Nat}(h:Ef e=true):AO e (some (.Name x p)) ln env=pure false:=by
 induction e using cI<;>first|rfl|exact dC h
theorem FX{e o i:Expr}{p:Pos}{ln:Nat}:AO e (some (.Subscript o i p)) ln env=pure false:=by
 induction e using cI<;>rfl
theorem pe{names:List (Str×aK)}(K:bO env names):interactive env=false:=by unfold interactive;refine K.kind ..▸?_;rfl
theorem u4{ρ:je}{x y:Str}{b:Mine.B}:((iP ρ x b).lookup y).isSome=(ρ.lookup y).isSome:=by
 refine my ..▸?_;split
 ·simp
 ·rfl
theorem FY{x y:Str}{a b:Mine.B}(h:x≠y)(ρ:je):iP (iP ρ x a) y b=iP (iP ρ y b) x a:=by
 unfold iP;refine(bZ ..).symm▸(bZ ..).symm▸?_;refine bp λp _=>?_;simp only[Function.comp]
 by_cases h1:p.1==x<;>by_cases h2:p.1==y
 ·exact absurd ((beq_iff_eq.mp h1).symm.trans (beq_iff_eq.mp h2)) h
 ·simp[h1,h2]
 ·simp[h1,h2]
 ·simp[h1,h2]
theorem u5 {x : Str} {b : Mine.B} : ∀ {ps : List (Str × Mine.B)} {ρ : je}, x ∉ ps.map (·.1) → eZ (iP ρ x b) ps = (eZ ρ ps).map (iP · x b)
 | [],ρ,_=>rfl
 |(y,c)::r,ρ,h=>by
  simp only[aE,aA,not_or]at h;rw[jG.2,jG.2];refine(u4 ..).symm▸(FY h.1 ..).symm▸(u5 h.2 ..).symm▸?_;split<;>rfl
theorem pV:∀ {ps qs:List (Str×Mine.B)} {ρ:je},eZ ρ (ps++qs)=(eZ ρ ps).bind λρ'=>eZ ρ' qs
 | [],qs,ρ=>rfl
 |(y,c)::r,qs,ρ=>by
  show(if(ρ.lookup y).isSome then eZ (iP ρ y c) (r++qs)else none)=(if(ρ.lookup y).isSome then eZ (iP ρ y c) r else none).bind λρ'=>eZ ρ' qs;split
  ·exact pV
  ·rfl
theorem pW:∀ {ps:List (Str×Mine.B)} {ρ ρ':je} {y:Str},eZ ρ ps=some ρ'→(ρ'.lookup y).isSome=(ρ.lookup y).isSome
 | [],ρ,ρ',y,h=>by simp only[jG,Option.some.injEq]at h;exact h ..▸rfl
 |(x,c)::r,ρ,ρ',y,h=>by
  rw[jG.2]at h;split at h
  ·exact(pW h ..).symm▸(u4 ..).symm▸rfl
  ·exact nsN h
theorem pf:∀ {ps:List (Str×Mine.B)} {ρ ρ':je},(ps.map (·.1)).Nodup→eZ ρ ps=some ρ'→eZ ρ ps.reverse=some ρ'
 | [],ρ,ρ',_,h=>h
 |(x,c)::r,ρ,ρ',hn,h=>by
  simp only[aE,bK]at hn;rw[jG.2]at h;split at h
  ·rename_i hx;rw [u5 hn.1] at h;refine aG (aH.mp h) λρ1 h1 h2=>?_;refine vp ..▸pV ..▸pf hn.2 h1 ..▸?_;simp only[nV,jG];refine pW h1 ..▸hx ..▸?_;simp[h2]
  ·exact nsN h
theorem zZ:∀ {vs:List ai} {bs:List Mine.B},jj w G θ vs bs→jj w G θ vs.reverse bs.reverse:=λh=>by
 induction h with
 |nil=>exact .nil
 |cons a b ih=>exact(vp ..).symm▸(vp ..).symm▸ih.append (.cons a .nil)
theorem u6{v:ai}{f:ai→Sem Unit}:assignStores env v none [f]=(f v>>=λ_=>pure .next):=rfl
theorem By{v:ai}{names:List Str}{fs:List (ai→Sem Unit)}:assignStores env v (some names) fs=(do
   rule "assign.swapped-stores"
   let items←unpackItems v names.length none
   jA (names.reverse.map λn=>mu env n) items.reverse
   pure Flow.next):=rfl
theorem Bz{t:Expr}(h:dF t=true):(mc [t] env).map (·.2)= [m6 t env]:=by
 induction t using cI<;>first|rfl|exact absurd h aR
theorem FZ{ps:List (Str×Mine.B)}{qs:List Pos}{f:Str→Pos→Bool}{g:Expr→Option Str}(hg:∀x p,g (.Name x p)=if f x p then some x else none)(h:(((ps.zip qs).map λp=>wc p.1.1 p.2).filterMap g).length=((ps.zip qs).map λp=>wc p.1.1 p.2).length)(hl:qs.length=ps.length):
  (((ps.zip qs).map λp=>wc p.1.1 p.2).filterMap g)=ps.map (·.1):=by
 induction ps generalizing qs with
 |nil=>rfl
 |cons p ps ih=>
  induction qs using am with
  |nil=>simp at hl
  |cons q qs=>
   rw[tP,aE]at h⊢
   induction e:f p.1 q with
   |false=>
    rw[List.filterMap_cons_none ((hg ..).trans (if_neg (e▸aR)))]at h;exact absurd h (eg (cS (List.length_filterMap_le ..)))
   |true=>
    rw[AR ((hg p.1 q).trans (if_pos e))]at h⊢;exact congrArg (p.1::·) (ih (gA.inj h) (gA.inj hl))
theorem z0{α β:Type}{c:Prop} [Decidable c]{x y:α}{f:β→α}{q:β→Prop}(h1:∃o,x=f o∧q o)(h2:¬c→∃o,y=f o∧q o):∃o,(if c then x else y)=f o∧q o:=if h:c then(if_pos h).symm▸h1 else(if_neg h).symm▸h2 h
theorem Li{es:List Expr}{k1 k2:Nat}{p1 p2:Pos}{ps:List (Str×Mine.B)}{qs:List Pos}(hl:qs.length=ps.length)(hc:es.all (D9 8)=false):
  ∃o:Option (List Str),GV [.Tuple ((ps.zip qs).map λp=>.Name p.1.1 p.2) k1 p1] (.Tuple es k2 p2) env=pure o∧(o=none∨o=some (ps.map (·.1))):=by
 unfold GV;have no:∃o:Option (List Str),(pure none:Sem (Option (List Str)))=pure o∧(o=none∨o=some (ps.map (·.1))):=aV none rfl (.inl rfl);refine z0 no λ_=>z0 no λ_=>z0 no λh3=>z0 no λ_=>?_;refine hc ..▸?_;simp only[bR,if_false];refine aV _ rfl (.inr ?_);simp only[dU,bne_iff_ne,not_or,ne_eq,Decidable.not_not]at h3;exact congrArg some (FZ (f:=λid pos=>env.kindOf id==some .local&&pos.line==_) (λ_ _=>rfl) h3.1 hl)
theorem rS(l:List ((Str×Mine.B)×Pos)):(mc (l.map λp=>wc p.1.1 p.2) env)=l.map λp=>(false,m6 (.Name p.1.1 p.2) env):=by
 induction l with
 |nil=>rfl
 |cons a l ih=>refine aE ..▸aE ..▸(ih ..)▸?_;rfl
theorem Lj(l:List ((Str×Mine.B)×Pos)):(l.map λp=>((false,m6 (.Name p.1.1 p.2) env):Bool×(ai→Sem Unit))).findIdx? (·.1)=none:=by
 induction l with
 |nil=>rfl
 |cons a l ih=>refine(aE ..).symm▸(List.findIdx?_cons ..).symm▸(ih ..).symm▸?_;rfl
end
section
variable {c:Cf} {env:Env} {n k:Nat} {V:VL} {A:bC} {E:ai→ag→Prop} {R:U→Prop} {z:ag} {st:St} {cx:Cy} {Vc:List (Str×aK)→VL}
theorem Ir(K:bO env cx.names)(X:fj c env n k V)(XL:∀(cenv:Env)(ns:List (Str×aK)),bO cenv ns→fj c cenv n k (Vc ns))(B:gi A n k){ts:List Expr}:∀ {es:List Expr} {st:St} (S:At c env st) {κ:List (Str×Mine.B)→St→Tr} {Q:List ai→ag→Prop},
  (EA cx Vc V ts es st κ).sat R→(∀(ps:List (Str×Mine.B)) (qs:List Pos) st' (S':At c env st') vs,S.To S'→qs.length=ps.length→ts=((ps.zip qs).map λp=>.Name p.1.1 p.2)→es.length=ps.length→jj c.w S'.G S'.θ vs (ps.map (·.2))→(κ ps st').sat R→Q vs (S'.s z))→au c.M A (spliced (es.map λe=>(false,eval e env))) Q E (S.s z):=by
 induction ts with
 |nil=>
  intro es st S κ Q h hQ
  induction es using am with
  |nil=>exact py (hQ [] [] st S [] S.refl rfl rfl rfl .nil h)
  |cons _ _=>exact h.elim
 |cons t ts ih=>
  intro es st S κ Q h hQ
  induction t using cI<;>induction es using am<;>first|exact h.elim|skip
  rename_i x p e es;have h:(K5 cx Vc V x e st λa s=>EA cx Vc V ts es s λb s'=>κ ((x,a)::b) s').sat R:=h;refine nS (EH K X XL B S h λb st1 S1 v t1 rv h=>?_);exact ih S1 h λps qs st2 S2 vs t2 l1 e1 l2 rs h=>hQ ((x,b)::ps) (p::qs) st2 S2 (v::vs) (t1.trans t2) (congrArg gA l1) (congrArg (wc x p::·) e1) (congrArg gA l2) (.cons (t2.rb rv) rs) h
theorem BA{ps:List (Str×Mine.B)}:∀ {ρ:je} {κ:je→Tr},(sW ρ ps κ).sat R→∃ρ₁,eZ ρ ps=some ρ₁∧(κ ρ₁).sat R:=by
 induction ps with
 |nil=>exact λ{ρ} _ h=>aV ρ rfl h
 |cons p ps ih=>
  intro ρ κ h;refine aB (cq h) λhx h=>?_;rw[s9]at h;refine aG (ih h) λρ₁ e h=>?_;exact aV ρ₁ (by rw[jG.2];refine if_pos hx ..▸?_;exact e) h
theorem rF{F:List aI}(S:zT c.prog c.w c.h₀ env F λ_=>True){α:Type}(nm:α→Str×Mine.B)(f:α→ai→Sem Unit)(hf:∀ {A:bC} {E:ai→ag→Prop} {s:ag} {p:α} {v:ai} {Q:Unit→ag→Prop},au c.M A (mu env (nm p).1 v) Q E s→au c.M A (f p v) Q E s){ps:List α}:
  ∀ {vs:List ai} {st:St} {ρ₁:je} (S0:At c env st) {Q:Unit→ag→Prop},eZ st.ρ (ps.map nm)=some ρ₁→jj c.w S0.G S0.θ vs (ps.map λp=>(nm p).2)→(∀(S':At c env ⟨ρ₁,st.σ⟩),S0.ToF F S'→Q () (S'.s z))→
   au c.M A (jA (ps.map f) vs) Q E (S0.s z):=by
 induction ps with
 |nil=>
  intro vs st ρ₁ S0 Q h r hQ;obtain rfl:=Option.some.inj h;cases r
  exact ap (hQ S0 (dg.refl ..))
 |cons p ps ih=>
  intro vs st ρ₁ S0 Q h r hQ;cases r with
  |cons r1 r2=>
   have h:(if(st.ρ.lookup (nm p).1).isSome then eZ (iP st.ρ (nm p).1 (nm p).2) (ps.map nm)else none)=some ρ₁:=h
   induction hx:(st.ρ.lookup (nm p).1).isSome with
   |false=>rw[hx]at h;exact nsN h
   |true=>
    rw[hx]at h;show au _ _ (jA (f p::ps.map f) (_::_)) _ _ _;refine QB ..▸?_;refine af (bD (hf (S.go (s:=S0.s z) S0.ok hx trivial r1 λh' tk O' E'=>?_)));exact ih (st:=⟨iP st.ρ (nm p).1 (nm p).2,st.σ⟩) ⟨h',tk,S0.G,S0.θ,O'⟩ h r2 λS' e'=>hQ S' (dg.trans E' e')
theorem KX.next{S:At c env st}{κ:Fl→St→Tr}{Q:Flow→ag→Prop}(hQ:KX S z R κ Q){st':St}{S':At c env st'}(t:S.ToX S')(h:(κ .next st').sat R):Q .next (S'.s z):=hQ .next st' S' .next t rfl h
theorem EJ{ps:List (Str×Mine.B)}:∀ {qs:List Pos},qs.length=ps.length→(ps.zip qs).map (·.1)=ps:=by
 induction ps with
 |nil=>exact λ_=>rfl
 |cons p ps ih=>intro qs h;induction qs using am with
  |nil=>cases h
  |cons q qs=>exact congrArg (p::·) (ih (gA.inj h))
theorem F0{ts es:List Expr}{k1 k2:Nat}{p1 p2 pos:Pos}{κ:Fl→St→Tr}{Q:Flow→ag→Prop}(K:bO env cx.names)(X:fj c env n k V)(XL:∀(cenv:Env)(ns:List (Str×aK)),bO cenv ns→fj c cenv n k (Vc ns))(B:gi A n k)(S:At c env st)(hc:es.all (D9 8)=false)(hn:es.all dF=true)(hf:jz es.length=true)
  (h:(EA cx Vc V ts es st λa s=>mX (decide (a.map (·.1)).Nodup) (match s with|⟨ρ,σ⟩=>sW ρ a λρ'=>κ .next ⟨ρ',σ⟩)).sat R) (hQ:KX S z R κ Q):au c.M A (exec (.Assign [.Tuple ts k1 p1] (.Tuple es k2 p2) pos) env) Q E (S.s z):=by
 have hh:=B.handled;have T:zT c.prog c.w c.h₀ env (priv env) λ_=>True:=pS K;refine arm_exec_Assign ..▸?_;refine af (cy ?_);refine (rfl:swapsWithSole [Expr.Tuple ts k1 p1] (.Tuple es k2 p2) pos.line env=pure false) ..▸?_;refine af (ap ?_);refine if_neg aR ..▸?_;refine af (PySem.wpAny_Tuple ?_);refine ic hn ..▸?_;refine Ir K X XL B S h λps qs st1 S1 vs t1 q1 e1 q3 rs h2=>?_;clear h;subst e1;refine aB (cq h2) λhnd h=>?_;obtain⟨ρ,σ⟩:=st1;refine aG (BA h) λρ₁ hb h=>?_;have lvs:vs.length=ps.length:=by exact(rs.length ..).symm▸(aN ..).symm▸rfl
 refine⟨by refine lvs ..▸(q3 ..)▸?_;exact aW (lu hf),?_⟩;refine aG (Li (env:=env) (k1:=k1) (k2:=k2) (p1:=p1) (p2:=p2) q1 hc) λo ho ho2=>?_;refine ho ..▸?_;refine af (ap ?_);refine aB (eQ {cls:=.type "tuple",data:=.seq vs.toArray} S1.ok) λO1 E1=>?_;have hT:(S1.h.push {cls:=.type "tuple",data:=.seq vs.toArray}).IsTuple S1.h.objs.size vs.toArray:=⟨_,Heap.get?_push_size _ rfl,rfl,0,rfl⟩
 have kept:∀ {h2:bv},(∀b o,b≠(S1.h.push {cls:=.type "tuple",data:=.seq vs.toArray}).objs.size→(S1.h.push {cls:=.type "tuple",data:=.seq vs.toArray}).get? b=some o→h2.get? b=some o)→∃O2:Ok c.w c.h₀ env S1.G S1.θ ⟨ρ,σ⟩ h2,dg [] S.θ S.G S.h S1.θ S1.G h2:=λ{h2} eb=>by
  refine aB (O1.keeps λb o e=>eb b o (eg (Heap.lt_size e)) e) λO2 E2=>?_;exact⟨O2,dg.trans t1 (dg.trans E1 E2)⟩
 rcases ho2 with rfl|rfl
 ·rw[Bz rfl,u6];refine af ?_;refine wpAny_assign_Tuple hh (items:=vs.toArray) hT (by exact(rS ..).symm▸(aN ..).symm▸(aJ ..).symm▸(lvs ..).symm▸(List.length_zip ..).symm▸(q1 ..).symm▸(Nat.min_self ..).symm▸rfl) (by refine(rS ..).symm▸?_;exact Lj _) λh2 eb=>?_;refine aY (kept eb) λO2 E2=>?_;refine(rS ..).symm▸(bZ ..).symm▸?_;refine rF (z:=z) (ps:=ps.zip qs) (st:=⟨ρ,σ⟩) (ρ₁:=ρ₁) (Q:=λ_ s'=>au c.M A (pure Flow.next) Q E s') T (λp=>p.1) (λp=>m6 (.Name p.1.1 p.2) env) (λh=>mJ h) ⟨h2,S1.tk,S1.G,S1.θ,O2⟩ (by refine(EJ q1 ..).symm▸?_;exact hb) ?_ λS3 E3=>ap (hQ.next (S':=S3) (dg.trans (dg.weaken E2 λa ha=>(by exact cg ha)) E3) h);have e2:((ps.zip qs).map λp=>p.1.2)=ps.map (·.2):=by refine(congrArg (List.map λq:Str×Mine.B=>q.2) (EJ q1) ..)▸bZ ..▸?_;rfl
  exact e2▸rs
 ·refine By ..▸?_;refine af (jX (af ?_));refine((by exact(aN ..).symm▸(aJ ..).symm▸(lvs ..).symm▸rfl:(ps.map (·.1)).length=vs.toArray.size) ..).symm▸?_;refine wpAny_unpackItems_tuple hh hT λh2 eb=>?_;refine aY (kept eb) λO2 E2=>?_;refine af ?_;have e1:((ps.map (·.1)).reverse.map λn=>mu env n)=ps.reverse.map λp=>mu env p.1:=by refine(List.map_reverse ..)▸(bZ ..).symm▸?_;rfl
  refine e1 ..▸?_;refine rF (z:=z) (ps:=ps.reverse) (st:=⟨ρ,σ⟩) (ρ₁:=ρ₁) (Q:=λ_ s'=>au c.M A (pure Flow.next) Q E s') T (λp=>p) (λp v=>mu env p.1 v) (λh=>h) ⟨h2,S1.tk,S1.G,S1.θ,O2⟩ (by refine List.map_id' ..▸?_;exact pf (of_decide_eq_true hnd) hb) ?_ λS3 E3=>ap (hQ.next (S':=S3) (dg.trans (dg.weaken E2 λa ha=>(cg ha)) E3) h);have:=zZ rs;rw[←List.map_reverse]at this;exact this
end
set_option backward.match.sparseCases false
section
variable {c:Cf} {env:Env} {n k:Nat} {V:VL} {A:bC} {E:ai→ag→Prop} {R:U→Prop} {z:ag} {st:St} {cx:Cy} {Vc:List (Str×aK)→VL}
theorem J0.named{st1:St}{S:At c env st}{S1:At c env st1}{a:aI}{acc:List ab}{x:Str}{κ:Fl→St→Tr}(t:S.To S1)(f:J0 S S1 a (.lst (acc.map .v)))
  (h:(match st1 with|⟨ρ,σ⟩=>mX (ρ.lookup x).isSome (ya (cx.mv.contains x) (np ρ x (.l σ.length) λρ'=>zK σ (.lst (acc.map .v)) λσ'=>κ .next ⟨ρ',σ'⟩) (np ρ x (.v (.list acc)) λρ'=>κ .next ⟨ρ',σ⟩))).sat R):
  ∃(b:Mine.B) (st2:St) (G2:Fz) (θ2:List aI) (O2:Ok c.w c.h₀ env G2 θ2 st2 S1.h),S.To (⟨S1.h,S1.tk,G2,θ2,O2⟩:At c env st2)∧rD c.w G2 θ2 (.ref a) b∧(st2.ρ.lookup x).isSome=true∧(κ .next ⟨iP st2.ρ x b,st2.σ⟩).sat R∧∀C,S1.G C=none→C∉S1.θ→C≠a→G2 C=none∧C∉θ2:=by
 obtain⟨ρ,σ⟩:=st1;refine aB (cq h) λhx h=>?_;refine(fA h).elim (λz1=>aB z1 λ_ h=>?_) λz2=>aB z2 λ_ h=>?_
 ·rw[s9]at h;have h:=s7 h;obtain⟨O',E',q⟩:=f.keep t λbs eb m hm=>by
   cases eb
   refine aG (List.mem_map.mp hm) λd _ q=>?_;cases q
  refine⟨.l σ.length,_,S1.G,_,O',E',(aV a q rfl),hx,h,λC c1 c2 c3=>⟨c1,λq=>?_⟩⟩;refine(List.mem_append.mp q).elim (λq=>?_) λq=>?_
  ·exact c2 q
  ·exact c3 (ae.mp q)
 ·rw[s9]at h;refine dS f.cell λvs kk q rb ln=>?_;have ra:=rb.data (yO acc);have nG:∀b,b≠a→jf S1.G a {cls:=.type "list",data:=.seq vs.toArray kk} b=S1.G b:=λb q=>by unfold jf;exact if_neg q ..▸rfl
  have gr:=cw (o:={cls:=.type "list",data:=.seq vs.toArray kk}) f.g;have rp:Rp c.w (jf S1.G a {cls:=.type "list",data:=.seq vs.toArray kk}) (.ref a) (.list acc):=.list (ej ..) (ra.mono gr) (by rw[aN]at ln;exact ln);have O:=S1.ok;refine⟨.v (.list acc),⟨ρ,σ⟩,jf S1.G a {cls:=.type "list",data:=.seq vs.toArray kk},S1.θ,⟨O.wd.add f.g q λn c' h1 _=>f.t (List.mem_of_getElem? h1),⟨O.fr.ns,λb hb=>⟨by refine nG b (λq=>f.p (q▸hb)) ..▸?_;exact(O.fr.priv b hb).1,(O.fr.priv b hb).2⟩,λx ob q=>?_,O.fr.apart⟩⟩,
   ⟨t.pre,t.keep,λb o' e=>gr _ _ (t.grow b o' e),λb o' e q=>?_,t.dom⟩,rp,hx,h,λC c1 c2 c3=>⟨by refine nG C c3 ..▸?_;exact c1,c2⟩⟩
  ·refine aB (O.fr.var x ob q) λh1 h2=>?_;exact⟨h1,λb hb=>let⟨v,h3,h4⟩:=h2 b hb;⟨v,h3,h4.mono gr ⟨[],by exact aF ..▸rfl⟩⟩⟩
  ·have:=nG b λr=>by rw[r,f.old]at e;exact nsN e
   exact this.trans (t.newG b o' e q)
theorem yk{x:Str}{px pos cpos:Pos}{elt:Expr}{gens:List Comprehension}{scope:o7}{κ:Fl→St→Tr}{Q:Flow→ag→Prop}(K:bO env cx.names)(X:fj c env n k V)(XL:∀(cenv:Env)(ns:List (Str×aK)),bO cenv ns→fj c cenv n k (Vc ns))(B:gi A n k)(S:At c env st)
  (h:(Eu cx Vc V elt gens scope st λa s=>match s with|⟨ρ,σ⟩=>mX (ρ.lookup x).isSome (ya (cx.mv.contains x) (np ρ x (.l σ.length) λρ'=>zK σ (.lst (a.map .v)) λσ'=>κ .next ⟨ρ',σ'⟩) (np ρ x (.v (.list a)) λρ'=>κ .next ⟨ρ',σ⟩))).sat R) (hQ:KX S z R κ Q):
  au c.M A (exec (.Assign [.Name x px] (.ListComp elt gens scope cpos) pos) env) Q E (S.s z):=by
 have T:zT c.prog c.w c.h₀ env (priv env) λ_=>True:=pS K;have sw:AO (.ListComp elt gens scope cpos) (some (.Name x px)) pos.line env=pure true∨AO (.ListComp elt gens scope cpos) (some (.Name x px)) pos.line env=pure false:=by
  have e:∃b:Bool,AO (.ListComp elt gens scope cpos) (some (.Name x px)) pos.line env=pure b:=⟨_,rfl⟩
  refine aY e λb e=>?_
  induction b
  ·exact .inr e
  ·exact .inl e
 refine sw.elim (λsw=>?_) λsw=>?_
 ·refine exec_Assign_Name_used _ _ _ _ sw ..▸?_;refine af (cy (af ?_));have r:=yN (use:=some (m6 (.Name x px) env)) (E:=E) (z:=z) (Q:=λ_ s'=>au c.M A (pure ()) (λ_ s'=>au c.M A (pure Flow.next) Q E s') E s') (pos:=cpos) (pos':=firstIterPos gens cpos) K X XL B S h λacc a C st1 S1 m t f hm fC gC tC pC hne h=>by
   refine vq (f.named t h) λb st2 G2 θ2 z1=>?_;refine MI z1 λO2 E2 r2 hx h off=>?_;refine aB (off C gC tC hne) λgC2 tC2=>?_;show au _ _ (m6 (.Name x px) env (.ref a)) _ _ _;refine mJ (T.go (s:=S1.s z) O2 hx trivial r2 λh3 tk3 O3 E3=>?_);have hm3:h3.Ns C m:=hm.at' λo q=>E3.keep C o tC2 pC q;refine aV m hm3 (λh4 sb=>ap (ap ?_));have kp:∀b o,b∉ [C]→h3.get? b=some o→h4.get? b=some o:=λb o hb q=>sb.extBut b o (λe=>hb (e▸.head _)) q;have O4:=O3.off (F:= [C]) (λb hb=>by refine ae.mp hb ..▸?_;exact⟨gC2,tC2,pC⟩) kp;have E23:dg (priv env) S.θ S.G S.h θ2 G2 h3:=(dg.weaken E2 λa ha=>(cg ha)).trans E3;have nC:∀b o,S.h.get? b=some o→b∉ [C]:=λb o q r=>by rw[ae.mp r,fC]at q;exact nsN q
   exact hQ.next (S':=⟨h4,tk3,G2,θ2,O4⟩) ⟨E23.pre,λb o h1 h2 q=>kp b o (nC b o q) (E23.keep b o h1 h2 q),E23.grow,E23.newG,λb o q=>let⟨o',q'⟩:=E23.dom b o q;⟨o',kp b o' (nC b o q) q'⟩⟩ h
  show au _ A (do let _←comprehension (.ListComp elt gens scope cpos) scope env (firstIterPos gens cpos) (newList []) (firstAsync gens) (firstIter gens env) (some (m6 (.Name x px) env))) _ _ (S.s z);refine r.1 ..▸?_;exact af r.2
 ·refine exec_Assign_Name _ _ _ _ _ sw ..▸?_;refine af (cy (af ?_));refine mK (z:=z) (κ:=λd st1=>match d with|.list a=>(match st1 with|⟨ρ,σ⟩=>mX (ρ.lookup x).isSome (ya (cx.mv.contains x) (np ρ x (.l σ.length) λρ'=>zK σ (.lst (a.map .v)) λσ'=>κ .next ⟨ρ',σ'⟩) (np ρ x (.v (.list a)) λρ'=>κ .next ⟨ρ',σ⟩)))|_=>.fail) K X XL B S (.comp elt gens scope cpos) h λd cl st1 S1 a t f e h=>?_
  induction d using aq<;>first|exact h.elim|skip
  obtain rfl:=Option.some.inj e;refine vq (f.named t h) λb st2 G2 θ2 z2=>?_;refine MI z2 λO2 E2 r2 hx h off=>?_;exact af (cy (af (T.go (s:=S1.s z) O2 hx trivial r2 λh3 tk3 O3 E3=>ap (hQ.next (S':=⟨h3,tk3,G2,θ2,O3⟩) (dg.trans (dg.weaken E2 λa ha=>(cg ha)) E3) h))))
theorem Lk{ts:List Expr}{k1:Nat}{p1 pos:Pos}{e:Expr}{κ:Fl→St→Tr}{Q:Flow→ag→Prop}(K:bO env cx.names)(X:fj c env n k V)(B:gi A n k)(S:At c env st)(hne:∀es k p,e≠.Tuple es k p)
  (h:(V.evD e st λa s=>match s with|⟨ρ,σ⟩=>yJ ρ (.Tuple ts k1 p1) a λρ'=>κ .next ⟨ρ',σ⟩).sat R) (hQ:KX S z R κ Q):au c.M A (exec (.Assign [.Tuple ts k1 p1] e pos) env) Q E (S.s z):=by
 have hsw:swapsWithSole [Expr.Tuple ts k1 p1] e pos.line env=pure false:=by induction e using cI<;>rfl
 have hst:GV [Expr.Tuple ts k1 p1] e env=pure none:=by
  induction e using cI<;>first|rfl|exact absurd rfl (hne _ _ _)
 refine arm_exec_Assign ..▸hsw ..▸hst ..▸?_;refine af (cy (af (ap ?_)));refine if_neg aR ..▸?_;refine af (X.evD B S h λd st1 S1 v t1 r h=>af (ap ?_));rw[Bz rfl,u6];obtain⟨ρ,σ⟩:=st1;exact af (zV B.handled (pS K) S1 (EI _) r h λρ₁ S2 t2 h=>ap (hQ.next (S':=S2) (t1.x.trans t2) h))
theorem BB{x:Str}{b:Mine.B}{v:ai}{κ:Fl→St→Tr}{Q:Flow→ag→Prop}(K:bO env cx.names){S:At c env st}{st1:St}(S1:At c env st1)(t:S.To S1)(r:rD c.w S1.G S1.θ v b)(h:(EB x b st1 κ).sat R)(hQ:KX S z R κ Q):au c.M A (mu env x v) (λ_ s'=>au c.M A (pure Flow.next) Q E s') E (S1.s z):=by
 obtain⟨ρ,σ⟩:=st1;exact zU (F:=priv env) (pS K) S1 trivial r h λρ₁ S2 t2 h=>ap (hQ.next (S':=S2) (t.x.trans t2) h)
theorem EK{op:Operator}{a b r:ab}(h:KR op a b=some r):∃x y,op=.Add∧a=.int x∧b=.int y∧r=.int (x+y):=by
 induction op using Operator.casesOn<;>first|exact nsN h|exact dC h|(cases h;done)|skip
 refine dS (wl h) λx y z3 z4 e=>?_;obtain rfl:=z3;obtain rfl:=z4;obtain rfl:=Option.some.inj e;exact zp _ _ rfl rfl rfl rfl
theorem Nx{x:Str}{q pos:Pos}{op:Operator}{e:Expr}{κ:Fl→St→Tr}{Q:Flow→ag→Prop}(K:bO env cx.names)(X:fj c env n k V)(B:gi A n k)(S:At c env st)
  (h:(match st.ρ.lookup x with
  |some (some (.v d))=>V.evD e st λa s=>t9 (KR op d a) λr=>EB x (.v r) s κ
  |_=>.fail).sat R) (hQ:KX S z R κ Q):au c.M A (exec (.AugAssign (.Name x q) op e pos) env) Q E (S.s z):=by
 induction hx:st.ρ.lookup x with
 |none=>rw[hx]at h;exact h.elim
 |some ob=>
  induction ob with
  |none=>rw[hx]at h;exact h.elim
  |some b=>
   cases b with
   |l _=>rw[hx]at h;exact h.elim
   |v d=>
    rw[hx]at h;refine aB (S.ok.fr.var x _ hx) λk1 k2=>?_;refine aG (k2 _ rfl) λold k3 k4=>?_;refine arm_exec_AugAssign ..▸?_;refine af (cy (af (A6 (s:=S.s z) K k3 ?_)));refine af (bD (X.evD B S h λa st1 S1 v t1 rv h=>?_));refine aG (gG h) λr e1 h=>?_;refine kD (EK e1) λi j z5 z6 z7 z8=>?_;obtain rfl:=z5;obtain rfl:=z6;obtain rfl:=z7;obtain rfl:=z8;refine aY (cV (show Rp c.w S.G old _ from k4)) λt z9=>?_;obtain rfl:=z9;refine aY (cV rv) λt' z10=>?_;obtain rfl:=z10;refine af (cy (af (wpAny_operating (P.iadd_int ?_))));refine af (cy (af ?_));exact BB (z:=z) (b:=.v (.int _)) K ⟨S1.h,S1.tk+1,S1.G,S1.θ,S1.ok⟩ t1 (.int _ _) h hQ
theorem Ll{o i:Expr}{q pos:Pos}{op:Operator}{e:Expr}{κ:Fl→St→Tr}{Q:Flow→ag→Prop}(X:fj c env n k V)(B:gi A n k)(S:At c env st)(hsl:kg i=true)(h:(Mf V o i op e st κ).sat R)(hQ:KX S z R κ Q):au c.M A (exec (.AugAssign (.Subscript o i q) op e pos) env) Q E (S.s z):=by
 refine wpAny_AugAssign_Subscript_any (X.ev B S h λob st1 S1 ov t1 r1 h=>X.evD B S1 h λib st2 S2 iv t2 r2 h=>?_) ?_
 ·cases ob with
  |v _=>exact h.elim
  |l m=>
   refine aG (t2.rb r1) λa ha z11=>?_;obtain rfl:=z11;refine aG (kG h) λcl hc h=>?_
   induction cl using bE.casesOn with
   |dct _=>exact h.elim
   |lst xs=>
    induction ib using aq<;>first|exact h.elim|skip
    refine aG (Bw h) λd hd h=>?_;cases d with
    |l _=>exact h.elim
    |v old=>
     refine aY (cV r2) λt z12=>?_;obtain rfl:=z12;refine Bf (s:=S2.s z) S2.ok hc ha hd λoldv ro=>?_;refine X.evD B S2 h λa' st3 S3 v t3 r3 h=>?_;refine aG (gG h) λr e1 h=>?_;refine kD (EK e1) λi' j' z13 z14 z15 z16=>?_;obtain rfl:=z13;obtain rfl:=z14;obtain rfl:=z15;obtain rfl:=z16;refine aY (cV (show Rp c.w S2.G oldv _ from ro)) λt5 z17=>?_;obtain rfl:=z17;refine aY (cV r3) λt6 z18=>?_;obtain rfl:=z18;refine P.iadd_int ?_;exact yP (z:=z) (o:=.l m) B ⟨S3.h,S3.tk+1,S3.G,S3.θ,S3.ok⟩ (aV a (dg.at t3 ha) rfl) (.int _ _) (.int _ _) h λst4 S4 t4 h=>hQ.next (S':=S4) (t1.trans (t2.trans (t3.trans t4))).x h
 ·intro ov iv new
  induction i using cI<;>first|rfl|exact dC hsl
theorem Ny{W:Nat}(K:bO env cx.names)(X:fj c env n k V)(XL:∀(cenv:Env)(ns:List (Str×aK)),bO cenv ns→fj c cenv n k (Vc ns))(B:gi A n k)(S:At c env st)(v:SV){κ:Fl→St→Tr}{Q:Flow→ag→Prop}(h:(Qy cx Vc W V v st κ).sat R)(hQ:KX S z R κ Q):au c.M A (exec v.st env) Q E (S.s z):=by
 induction v using SV.casesOn with
 |exM o m q args p p'=>
  refine wpAny_Expr_any (X.evD B S h λd st1 S1 v t r h=>?_) (pe K) rfl
  induction d using aq<;>first|exact h.elim|skip
  exact hQ.next (S':=S1) t.x h
 |exN f q args p p'=>exact wpAny_Expr_any (X.evD B S h λd st1 S1 v t r h=>hQ.next (S':=S1) t.x h) (pe K) rfl
 |ret e p=>
  refine(fA h).elim (λz3=>aB z3 λ_ h=>?_) λz4=>aB z4 λ_ h=>?_
  ·refine aB (cq h) λ_ h=>?_;exact PySem.wpAny_Return_some (Mi K X XL B S h λcl st1 S1 v t rv h=>hQ (.ret (.l st1.σ.length)) _ S1 _ t.x (aV v rfl rv) (s7 h))
  ·exact PySem.wpAny_Return_some (X.evD B S h λd st1 S1 v t rv h=>hQ (.ret (.v d)) _ S1 _ t.x (aV v rfl rv) h)
 |asC x q elt gs sc p p'=>exact yk K X XL B S h hQ
 |asg x q e p=>
  refine aB (cq h) λhc h=>?_;show au _ _ (exec (.Assign [.Name x q] e p) env) _ _ _;refine exec_Assign_Name _ _ _ _ _ (Dp hc) ..▸?_;refine af (cy (af (EH K X XL B S h λb st1 S1 v t r h=>?_)));exact af (cy (af (BB K S1 t r h hQ)))
 |tup ts k q es k' p p'=>
  refine aB (cq h) λhc h=>?_;simp only[Bool.not_or,Bool.not_not,ay,nR]at hc;exact F0 K X XL B S hc.1.1 hc.1.2 hc.2 h hQ
 |tup1 ts k q e p=>
  refine aB (cq h) λhc h=>?_;exact Lk K X B S (λes k p e=>by subst e;exact dC hc) h hQ
 |sub o i q e p=>
  refine aB (cq h) λhn h=>?_;refine wpAny_Assign_Subscript (X.evD B S h λd st1 S1 v t1 r1 h=>X.ev B S1 h λob st2 S2 ov t2 r2 h=>X.evD B S2 h λib st3 S3 iv t3 r3 h=>?_) FX;exact yP B S3 (t3.rb r2) r3 (t3.rp (t2.rp r1)) h λst4 S4 t4 h=>hQ.next (S':=S4) (t1.trans (t2.trans (t3.trans t4))).x h
 |aug x q op e p=>exact Nx K X B S h hQ
 |augS o i q op e p=>
  refine aB (cq h) λhn h=>?_;exact Ll X B S hn h hQ
 |ife t a b p=>
  refine PySem.wpAny_If (X.evT B S h λr st1 S1 t1 h=>?_);rcases j3 h with⟨rfl,h⟩|⟨rfl,h⟩
  ·exact nu X B S1 h (hQ.after t1.x)
  ·exact nu X B S1 h (hQ.after t1.x)
 |whl t b p=>
  refine aG h λu hu h=>?_
  induction u using U.casesOn<;>first|exact h.elim|skip
  refine PySem.wpAny_While (codeAny_mono (Iq (Rr:=λr s'=>match r with|.ok fl=>Q fl s'|.error _=>False) X B S hu λf st1 S1 fl t hf e=>by
   refine aB e λz19 z20=>?_;clear e;obtain rfl:=z19;obtain rfl:=z20;exact hQ f st1 S1 fl t hf h) λr s' hr=>?_)
  induction r with
  |ok f=>exact hr
  |error e=>exact hr.elim
 |for_ t it b p=>
  refine dE (uc h) λf1 f2 f3=>?_;refine PySem.wpAny_For (Dg (P:=priv env) K X B S (λb hb=>(S.ok.fr.priv b hb).2.2) f3 λds st1 S1 I t1 hl Ri h=>?_) (ud f1);refine aG h λu hu h=>?_
  induction u using U.casesOn<;>first|exact h.elim|skip
  refine codeAny_mono (Nw (Rr:=λr s'=>match r with|.ok fl=>Q fl s'|.error _=>False) K X B S S1 hu Ri f2 t1.x λf st2 S2 fl t hf e=>by
   refine aB e λz21 z22=>?_;clear e;obtain rfl:=z21;obtain rfl:=z22;exact hQ f st2 S2 fl t hf h) λr s' hr=>?_
  induction r with
  |ok f=>exact hr
  |error e=>exact hr.elim
 |brk p=>exact PySem.wpAny_Break (hQ .brk st S .brk S.refl.x rfl h)
 |cont p=>exact PySem.wpAny_Continue (hQ .cont st S .cont S.refl.x rfl h)
 |other s=>exact h.elim
end
section
variable {c:Cf} {env:Env} {n k:Nat} {V:VL} {A:bC} {E:ai→ag→Prop} {R:U→Prop} {z:ag} {st:St} {cx:Cy} {Vc:List (Str×aK)→VL}
theorem ON{W:Nat}(K:bO env cx.names)(X:fj c env n k V)(XL:∀(cenv:Env)(ns:List (Str×aK)),bO cenv ns→fj c cenv n k (Vc ns))(B:gi A n k)(S:At c env st){e:Stmt}{κ:Fl→St→Tr}{Q:Flow→ag→Prop}(h:(tX cx Vc W V e st κ).sat R)(hQ:KX S z R κ Q):au c.M A (exec e env) Q E (S.s z):=by
 have r:=Ny (E:=E) (Q:=Q) K X XL B S (HL e) h hQ;rw[HM]at r;exact r
end
theorem Nz{c:Cf}{C:Str→List B→fH→U→Prop}{n:Nat}(XC:oI c n C)(W:Nat)(k:Nat):∀(env:Env)(names:List (Str×aK))(mv:List Str)(kl:Bool),bO env names→fj c env n k (zN C W k names mv kl):=by
 induction k with
 |zero=>exact λenv names mv kl K=>⟨λ_ _ h=>h.elim,λ_ _ h=>h.elim,λ_ _ h=>h.elim⟩
 |succ k ih=>
  intro env names mv kl K;have XL:∀(cenv:Env)(ns:List (Str×aK)),bO cenv ns→fj c cenv n k (zN C W k ns [] false):=λcenv ns K'=>ih cenv ns [] false K';have X:=ih env names mv kl K;exact⟨λB S h hQ=>Nu (cx:=⟨C,names,mv,kl⟩) (Vc:=λns=>zN C W k ns [] false) K X XL XC B.less S h hQ,λB S h hQ=>OM X B.less S h hQ,
   λB S h hQ=>ON (cx:=⟨C,names,mv,kl⟩) (Vc:=λns=>zN C W k ns [] false) K X XL B.less S h hQ⟩
section
variable {prog:cD} {w:bi} {h₀:bv} {mg mb:Str→Option ai}
structure Lm (h₀:bv) (mg:Str→Option ai) (f:Str) (d:sr):Prop where
 ex:∃a o fd,mg f=some (.ref a)∧h₀.get? a=some o∧o.data=.func fd∧h₀.CodeRec fd.code fd.qualname∧fd.body=.stmts d.body∧fd.closure= []∧fd.scope.names=d.names∧fd.scope.kind=.function∧fd.scope.isCoroutine=false∧fd.scope.isGenerator=false∧
  fd.globals=mainGlobals∧fd.builtins=builtinsNs∧∀vals:List ai,vals.length=d.params.length→bindArgs fd ⟨vals,[]⟩=pure (d.params.zip vals)
 names:∀x∈d.params,d.names.lookup x=some .local∨d.names.lookup x=some .cell
 nodup:d.params.Nodup
 keys:(d.names.map (·.1)).Nodup
 debug:d.names.lookup (ofString "__debug__")=none
theorem tf{kindOf:Str→Option aK}:∀ {ps:List (Str×ai)} {m:Str→Option ai} {x:Str},(ps.map (·.1)).Nodup→kindOf x=some .local→bindL kindOf ps m x=(ps.lookup x).or (m x)
 | [],m,x,_,_=>rfl
 |(y,v)::r,m,x,hn,hk=>by
  simp only[aE,bK]at hn;unfold bindL;rw[tf hn.2 hk,bA]
  by_cases hy:x=y
  ·subst hy;have:r.lookup x=none:=by
    induction q:r.lookup x with
    |none=>rfl
    |some v=>exact absurd (List.mem_map.mpr (aV _ (mem_of_lookup q) rfl)) hn.1
   refine this ..▸if_pos hk ..▸?_;simp
  ·have hb:(x==y)=false:=by simpa using hy
   refine hb ..▸?_;split
   ·simp[hy]
   ·rfl
theorem tg{kindOf:Str→Option aK}:∀ {ps:List (Str×ai)} {m:Str→Option ai} {x:Str},(ps.map (·.1)).Nodup→kindOf x≠some .local→bindC kindOf ps m x=(ps.lookup x).or (m x)
 | [],m,x,_,_=>rfl
 |(y,v)::r,m,x,hn,hk=>by
  simp only[aE,bK]at hn;unfold bindC;rw[tg hn.2 hk,bA]
  by_cases hy:x=y
  ·subst hy;have:r.lookup x=none:=by
    induction q:r.lookup x with
    |none=>rfl
    |some v=>exact absurd (List.mem_map.mpr (aV _ (mem_of_lookup q) rfl)) hn.1
   refine this ..▸if_neg hk ..▸?_;simp
  ·have hb:(x==y)=false:=by simpa using hy
   refine hb ..▸?_;split
   ·rfl
   ·simp[hy]
theorem nA{names:List (Str×aK)}{x:Str}:∀ {m:Nat} {acc:List (Str×aI)},((x,NameKind.cell)∈names∨(acc.lookup x).isSome=true)→((cellsFrom m names acc).lookup x).isSome=true:=by
 induction names with
 |nil=>
  intro m acc h;refine h.elim (λh=>?_) λh=>?_
  ·exact cg h
  ·exact h
 |cons p r ih=>
  intro m acc h;obtain⟨y,k⟩:=p;unfold cellsFrom;split
  ·refine ih ?_;refine h.elim (λh=>?_) λh=>?_
   ·refine(aA.mp h).elim (λe=>?_) λh=>?_
    ·cases e;exact .inr (by simp[bA])
    ·exact .inl h
   ·right
    rw[bA];split
    ·rfl
    ·exact h
  ·rename_i hk;refine ih ?_;refine h.elim (λh=>?_) λh=>?_
   ·refine(aA.mp h).elim (λe=>?_) λh=>?_
    ·cases e;exact absurd rfl hk
    ·exact .inl h
   ·exact .inr h
theorem oJ{α:Type}:∀ {l:List (Str×α)} {x:Str} {c:α},(l.map (·.1)).Nodup→(x,c)∈l→l.lookup x=some c:=λ{l}=>by
 induction l with
 |nil=>exact λ_ h=>cg h
 |cons yd r ih=>
  refine λ{x c} hn h=>?_;obtain⟨y,d⟩:=yd;simp only[aE,bK]at hn;rw[bA];refine(aA.mp h).elim (λe=>?_) λh=>?_
  ·cases e;simp
  ·have:x≠y:=λe=>hn.1 (e▸List.mem_map.mpr (aV _ h rfl));refine (by simpa using this:(x==y)=false) ..▸?_;exact ih hn.2 h
theorem wT{G:Fz}{θ:List aI}{w:bi}{ps:List Str}{vs:List ai}{bs:List B}{x:Str}{b:B}(r:jj w G θ vs bs):(ps.zip bs).lookup x=some b→∃v,(ps.zip vs).lookup x=some v∧rD w G θ v b:=by
 induction r generalizing ps with
 |nil=>intro h;rw[List.zip_nil_right]at h;exact nsN h
 |cons r1 _ ih=>
  induction ps using am with
  |nil=>exact λh=>nomatch h
  |cons p ps=>
   rw[tP,tP,bA,bA]
   induction x==p with
   |true=>exact λh=>aV _ rfl (Option.some.inj h▸r1)
   |false=>exact ih
theorem lU{d:sr}{args:List B}{x:Str}{ob:Option B}:∀ {names:List (Str×aK)},(names.filterMap λp=>if p.2==.local||p.2==.cell then some (p.1,(d.params.zip args).lookup p.1)else none).lookup x=some ob→
  ((x,NameKind.local)∈names∨(x,NameKind.cell)∈names)∧ob=(d.params.zip args).lookup x
 | [],h=>by simp at h
 |(y,k)::r,h=>by
  rw[sA]at h;have up:((x,NameKind.local)∈r∨(x,NameKind.cell)∈r)∧ob=(d.params.zip args).lookup x→((x,NameKind.local)∈(y,k)::r∨(x,NameKind.cell)∈(y,k)::r)∧ob=(d.params.zip args).lookup x:=λq=>⟨q.1.imp (.tail _) (.tail _),q.2⟩
  by_cases hk:(k==NameKind.local||k==NameKind.cell)=true
  ·simp only[hk,if_true]at h;rw[bA]at h
   induction q:x==y with
   |true=>
    rw[q]at h;obtain rfl:=Option.some.inj h;have:=beq_iff_eq.mp q;subst this;simp only[dU,beq_iff_eq]at hk;rcases hk with rfl|rfl
    ·exact⟨.inl (.head _),rfl⟩
    ·exact⟨.inr (.head _),rfl⟩
   |false=>rw[q]at h;exact up (lU h)
  ·simp only[hk]at h;exact up (lU h)
theorem jj.shrink{G:Fz}{θ t:List aI}{vs:List ai}{bs:List B}(h:∀k,B.l k∈bs→k<θ.length)(r:jj w G (θ++t) vs bs):jj w G θ vs bs:=by
 induction r with
 |nil=>exact .nil
 |@cons v vs b bs r1 r2 ih=>
  refine .cons ?_ (ih λk hk=>h k (.tail _ hk))
  induction b using B.casesOn with
  |v d=>exact r1
  |l n=>
   refine aG r1 λa e q=>?_;clear r1;refine aV a ?_ q
   rwa [List.getElem?_append_left (h n (.head _))]at e
theorem wU{names:List (Str×aK)}:∀ {m:Nat} {acc:List (Str×aI)},(names.map (·.1)).Nodup→(acc.map (·.1)).Nodup→(∀x∈acc.map (·.1),x∉names.map (·.1))→((cellsFrom m names acc).map (·.1)).Nodup:=by
 induction names with
 |nil=>intro m acc _ h _;exact h
 |cons p r ih=>
  intro m acc h1 h2 h3;obtain⟨y,k⟩:=p;simp only[aE,bK]at h1;unfold cellsFrom;split
  ·refine ih h1.2 ?_ λx hx=>?_
   ·rw[aE,bK];exact⟨λq=>h3 y q (by simp),h2⟩
   ·rw[aE]at hx;rcases aA.mp hx with rfl|hx
    ·exact h1.1
    ·have:=h3 x hx;simp only[aE,aA,not_or]at this;exact this.2
  ·refine ih h1.2 h2 λx hx=>?_;have:=h3 x hx;simp only[aE,aA,not_or]at this;exact this.2
theorem Wd.take{G:Fz}{θ t:List aI}{σ:fH}{h:bv}(W:Wd w h₀ G (θ++t) σ h)(m:Nat)(hm:θ.length=m):Wd w h₀ G θ (σ.take m) h:=by
 have hl:m≤σ.length:=by refine(W.len ..)▸aj ..▸?_;exact aa (ah hm.symm) (ao _ _)
 have g:∀k c,(σ.take m)[k]?=some (some c)→σ[k]?=some (some c)∧k<m:=λk c e=>by
  rw[List.getElem?_take]at e;split at e
  ·exact⟨e,by assumption⟩
  ·exact nsN e
 have up:∀ {k:Nat} {a:aI},θ[k]?=some a→(θ++t)[k]?=some a:=λe=>by
  refine List.getElem?_append_left (List.getElem?_eq_some_iff.mp e).1 ..▸?_;exact e
 refine⟨W.base,W.froz,by refine fb ..▸?_;exact aC (Fj (λq0=>aa (ah hm) q0) (λq0=>nw [_,_,_,_] (.d yA yB (.d yB yC (.d yC yD .n))) yA yD rfl (ah hm) hl q0)) (aa (dW _ _) (ah hm.symm)),λk c e=>?_,λi j a h1 h2=>W.nd i j a (up h1) (up h2),λa ha=>W.dom a (cm _ ha),λk bs e=>W.low k bs (g _ _ e).1⟩;refine aB (g _ _ e) λe1 hk=>?_;refine eo (W.cell k c e1) λa h1 h2 h3=>?_;rw[List.getElem?_append_left (aa hk (ah hm.symm))]at h1;refine iw a h1 ?_ h3
 induction c using bE.casesOn with
 |lst bs=>
  refine dS h2 λvs mm q r l=>?_;clear h2;exact kT vs mm q (r.shrink λj hj=>by have:=W.low k bs e1 j hj;exact nw [_,_,_,_] (.d yA yB (.d (.s yC) yA (.d (.s yD) yC .n))) (.s yD) yB rfl (ah hm.symm) hk this) l
 |dct kvs=>exact h2
theorem gi.call{A:bC}{n K:Nat}{env:Env}(b:gi A (n+1) 0)(hK:K≤14):gi (A.deeper env) n K:=
 ⟨b.handled,by have:=b.depth;show A.depth+1+n+2≤_;exact nw [_,_,_] (.d (.a (.a yA (.s yB)) (.k 2)) yC .n) (.a (.a (.s yA) yB) (.k 2)) yC rfl this,by have:=b.units;show A.units+3+120*n+8*K+100<_;exact nw [_,_,_,_] (.c 8 yA (.k 14) (.d (.s (.a (.a (.a yB (.m 120 (.s yC))) (.m 8 (.k 0))) (.k 100))) yD .n)) (.s (.a (.a (.a (.a yB (.k 3)) (.m 120 yC)) (.m 8 yA)) (.k 100))) yD rfl hK this⟩
theorem Lo{G:Fz}{θ:List aI}{vs:List ai}{bs:List B}(r:jj w G θ vs bs):mh bs≤θ.length:=by
 induction r with
 |nil=>exact a7 _
 |@cons v vs b bs r1 r2 ih=>
  refine Nat.max_le.mpr ⟨?_,ih⟩
  induction b using B.casesOn with
  |v d=>exact a7 _
  |l n=>
   refine aG r1 λa e _=>?_;clear r1;exact(List.getElem?_eq_some_iff.mp e).1
theorem BC:∀ {bs:List B} {k:Nat},B.l k∈bs→k<mh bs
 |b::bs,k,h=>by
  show k<max (Og b) (mh bs);rcases aA.mp h with rfl|h
  ·exact dc (fg k) (aS _ _)
  ·exact dc (BC h) (bQ _ _)
theorem Wd.join{G G':Fz}{θ t:List aI}{σ σ₁:fH}{h h':bv}{r:Nat}(W0:Wd w h₀ G (θ++t) σ h)(hr:θ.length=r)(W1:Wd w h₀ G' θ σ₁ h')(E:dg [] θ G h θ G' h'):Wd w h₀ G' (θ++t) (σ₁++σ.drop r) h'∧dg [] (θ++t) G h (θ++t) G' h':=by
 have l1:σ₁.length=r:=by exact(W1.len ..)▸hr ..▸rfl
 have lσ:r≤σ.length:=by refine(W0.len ..)▸aj ..▸?_;exact aa (ah hr.symm) (ao _ _)
 have off:∀(n:Nat)(a:aI),r≤n→(θ++t)[n]?=some a→a∉θ:=λn a hn e hm=>by
  refine aY (fS.mp hm) λm z1=>?_;refine aY z1 λhm em=>?_;exact nz [_,_,_,_] (.d yA yB (.d yB yC (.d (.s yD) yA (.d yC yD .n)))) rfl (ah hr) hn hm (ah (W0.nd n m a e (List.getElem?_append_left hm ..▸List.getElem?_eq_getElem hm ..▸em ..▸rfl:(θ++t)[m]?=some a)))
 have lo:∀(n:Nat)(c:bE),r≤n→(σ₁++σ.drop r)[n]?=some (some c)→σ[n]?=some (some c):=λn c hn e=>by
  rw[List.getElem?_append_right (aa (ah l1) hn),List.getElem?_drop]at e
  rwa [l1,show r+(n-r)=n by exact aC (nw [_,_,_] (.d (.a yA yB) yC .n) (.a yB yA) yC rfl (ah (az (hn)))) (nw [_,_,_] (.d yA (.a yB yC) .n) yA (.a yC yB) rfl (a6 _ _))]at e
 have li:∀(n:Nat)(c:bE),n<r→(σ₁++σ.drop r)[n]?=some (some c)→σ₁[n]?=some (some c):=λn c hn e=>by
  rwa [List.getElem?_append_left (aa hn (ah l1.symm))]at e
 refine⟨⟨W1.base,W1.froz,?_,λn c e=>?_,W0.nd,λa ha=>?_,λn bs e=>?_⟩,⟨⟨[],by simp⟩,λa o ha hF e=>E.keep a o (λq=>ha (cm _ q)) hF e,E.grow,λa o e ha=>E.newG a o e λq=>ha (cm _ q),E.dom⟩⟩
 ·have:=W0.len;rw[aj]at this;refine(aj ..).symm▸(aj ..).symm▸(cO ..).symm▸(l1 ..).symm▸(hr ..).symm▸?_;exact aC (nw [_,_,_,_,_] (.d yA yB (.d (.a yB yC) yD (.d yD (.a yE yA) .n))) (.a yA yC) (.a yA yE) rfl (ah hr.symm) (ah this) (a6 _ _)) (nw [_,_,_,_,_] (.d yA yB (.d yC (.a yA yD) (.d (.a yE yB) yC .n))) (.a yB yE) (.a yB yD) rfl (ah hr) (ah this.symm) (ah (az (lσ))))
 ·by_cases hn:n<r
  ·refine eo (W1.cell n c (li n c hn e)) λa q1 q2 q3=>?_;exact iw a (by refine List.getElem?_append_left (aa hn (ah hr.symm)) ..▸?_;exact q1) (q2.mono (λ_ _ e=>e) ⟨t,rfl⟩ λ_ e=>e) q3
  ·refine eo (W0.cell n c (lo n c (by exact(cB hn)) e)) λa q1 q2 q3=>?_;have ha:=off n a (by exact(cB hn)) q1;refine aY q2.there λo ho=>?_;exact iw a q1 (q2.mono E.grow ⟨[],by simp⟩ λo e=>E.keep a o ha (by simp) e) (by refine E.newG a o ho ha ..▸?_;exact q3)
 ·refine aY (W0.dom a ha) λo e=>?_;exact E.dom a o e
 ·by_cases hn:n<r
  ·exact W1.low n bs (li n _ hn e)
  ·exact W0.low n bs (lo n _ (by exact(cB hn)) e)
end
theorem Iu(ps:List (Str×B))(ns:List (Str×aK))(k:je→Tr):yK ps ns k=k (ns.filterMap λp=>if p.2==.local||p.2==.cell then some (p.1,ps.lookup p.1)else none):=by
 induction ns generalizing k with
 |nil=>rfl
 |cons p r ih=>
  obtain⟨x,q⟩:=p
  induction q using NameKind.casesOn<;>first|exact ih k|exact(Nk (ps.lookup x) (λb=>yK ps r λr'=>k ((x,b)::r'))).trans (ih λr'=>k ((x,ps.lookup x)::r'))
section
variable {c:Cf} {n:Nat} {C:Str→List B→fH→U→Prop}
theorem NA(XC:oI c n C){A:bC}{E:ai→ag→Prop}{f:Str}{d:sr}{args:List B}{σ:fH}{u:U}{s:ag}{G:Fz}{θ:List aI}{vs:List ai}{a:aI}{Q:ai→ag→Prop}
  (D:Lm c.h₀ c.mg f d) (B:gi A (n+1) 0) (h:(EF C f d args σ).sat (·=u)) (hf:c.mg f=some (.ref a)) (W0:Wd c.w c.h₀ G θ σ s.heap) (rs:jj c.w G θ vs args)
  (hQ:∀b σ' v h' tk G' θ',u=.c b σ'→Wd c.w c.h₀ G' θ' σ' h'→rD c.w G' θ' v b→dg [] θ G s.heap θ' G' h'→(∀x,b=.v x→θ'=θ)→Q v {s with heap:=h',toks:=tk}):au c.M A (call (.ref a) vs) Q E s:=by
 obtain⟨a',o,fd,q1,q2,q3,q4,q5,q6,q7,q8,q9,q10,q11,q12,q13⟩:=D.ex;rw[hf]at q1;cases q1;obtain⟨ps,body,ns⟩:=d;refine aB (cq h) λhlen h=>?_;rw[HW,Ni,Nj,Iu]at h;have kb:∀b o,c.h₀.get? b=some o→s.heap.get? b=some o:=λb o e=>W0.froz _ _ (W0.base _ _ e);have lvs:vs.length=ps.length:=by exact rs.length ..▸(rz hlen) ..▸rfl
 have bn:((ps.zip vs).map (·.1))=ps:=by rw[List.map_fst_zip];exact ah lvs.symm
 refine wpAny_call (codeAny_call_cells (binds:=ps.zip vs) (body:=body) (by have:=B.depth;exact nw [_,_,_] (.d (.a (.a yA (.s yB)) (.k 2)) yC .n) (.s yA) yC rfl this) (kb _ _ q2) q3 (c.T.nolimit.keeps kb) (q4.keeps kb) q5 (q13 vs lvs) q6 (λx hx=>?_) (λs₁ IC=>?_) q9 q10 q8)
 ·have hx':x.1∈ps:=by refine(bn ..)▸?_;exact List.mem_map.mpr (aV _ hx rfl)
  refine q7 ..▸?_;refine(D.names x.1 hx').elim (λe=>?_) λe=>?_
  ·exact .inl e
  ·exact .inr ⟨e,nA (.inl (mem_of_lookup e))⟩
 ·refine fe IC.toInCall.same λH1 tk1 z2=>?_;obtain rfl:=z2;have keep:=IC.toInCall.keep;have kd:∀x,(rB fd s.heap.objs.size a).kindOf x=ns.lookup x:=λx=>by refine(show fd.scope.names=ns from q7)▸?_;rfl
  have frP:∀b∈priv (rB fd s.heap.objs.size a),s.heap.get? b=none∧∃o,H1.get? b=some o:=λb hb=>by
   rcases aA.mp hb with rfl|hb
   ·refine Ke IC.toInCall.ns λo _ _ e _=>?_;exact⟨(dY (ak _):s.heap.get? s.heap.objs.size=none),o,e⟩
   ·refine aG (List.mem_map.mp hb) λp hp z3=>?_;obtain rfl:=z3;refine aG (IC.cell p.1 p.2 (oJ (wU (by refine q7 ..▸?_;exact D.keys) .nil (λx hx=>by exact cg hx):((rB fd s.heap.objs.size a).cells.map (·.1)).Nodup) hp)) λo e _=>?_;exact⟨dY (fU (IC.above p.1 p.2 hp)),o,e⟩
  have F1:A5 c.w (rB fd s.heap.objs.size a) G θ H1 (ns.filterMap λp=>if p.2==.local||p.2==.cell then some (p.1,(ps.zip args).lookup p.1)else none):=by
   refine⟨⟨_,IC.toInCall.ns⟩,λb hb=>?_,λx ob q=>?_,λx c q=>⟨?_,λy c' q' e=>?_⟩⟩
   ·refine aB (frP b hb) λe1 e2=>?_;refine aB (W0.no e1) λe3 e4=>?_;exact⟨e3,e4,e2⟩
   ·refine aB (lU (d:=⟨ps,body,ns⟩) q) λe1 z4=>?_;obtain rfl:=z4;refine e1.elim (λe1=>?_) λe1=>?_
    ·have kl:(rB fd s.heap.objs.size a).kindOf x=some .local:=by refine kd ..▸?_;exact oJ D.keys e1
     refine⟨.inl kl,λb hb=>?_⟩;refine aG (wT rs hb) λv e2 e3=>?_;refine aV v (.inl ⟨kl,_,IC.toInCall.ns,?_⟩) e3;refine(tf (by rw[bn];exact D.nodup) kl ..).symm▸(e2 ..).symm▸?_;rfl
    ·have kc:(rB fd s.heap.objs.size a).kindOf x=some .cell:=by refine kd ..▸?_;exact oJ D.keys e1
     refine aY (Option.isSome_iff_exists.mp (nA (m:=s.heap.objs.size+1) (acc:= []) (.inl (q7▸e1:(x,NameKind.cell)∈fd.scope.names)))) λcc hc=>?_;have hcell:=IC.cell x cc hc;refine⟨.inr ⟨kc,cc,_,hc,hcell⟩,λb hb=>?_⟩;refine aG (wT rs hb) λv e2 e3=>?_;refine aV v (.inr ⟨kc,cc,hc,?_⟩) e3;rw[tg (by refine(bn ..).symm▸?_;exact D.nodup) (by refine(kc ..).symm▸?_;exact λe=>by cases e),e2]at hcell;exact hcell
   ·exact jU (IC.above x c (mem_of_lookup q))
   ·exact name_of_addr IC.apart (mem_of_lookup q) (e▸mem_of_lookup q')
  refine nu (z:=s) (Nz XC 1000 14 _ ns (zt f) (rJ f) (⟨q8,q11,q12,λx e=>by refine kd ..▸?_;exact e,λx e=>by refine kd ..▸?_;exact e,λx e=>by refine kd ..▸?_;exact e,by refine kd ..▸?_;exact D.debug⟩:bO (rB fd s.heap.objs.size a) ns)) (B.call (ak _)) ⟨H1,tk1,G,θ,⟨(W0.heap λb o e _=>keep b o e:Wd c.w c.h₀ G θ σ H1),F1⟩⟩ h λfl st1 S1 fl' E' hfl h=>?_;have E2:dg [] θ G s.heap S1.θ S1.G S1.h:=((dg.of_keeps (F:=priv (rB fd s.heap.objs.size a)) keep).trans E').drop λb hb=>(frP b hb).1;have cut:Wd c.w c.h₀ S1.G θ (st1.σ.take σ.length) S1.h∧dg [] θ G s.heap θ S1.G S1.h:=by
   refine aG E2.pre λt et _=>?_;have W:=S1.ok.wd;rw[et]at W;exact⟨W.take σ.length W0.len,⟨⟨[],by simp⟩,E2.keep,E2.grow,E2.newG,E2.dom⟩⟩
  induction fl using Fl.casesOn with
  |next=>cases hfl;exact hQ _ _ .none S1.h S1.tk S1.G θ (Eq.symm h) cut.1 (.none:Rp c.w S1.G .none .none) cut.2 λ_ _=>rfl
  |brk=>exact h.elim
  |cont=>exact h.elim
  |ret b=>
   refine aG hfl λv e rv=>?_;clear hfl;cases e
   cases b with
   |v x=>exact hQ (.v x) _ v S1.h S1.tk S1.G θ (Eq.symm h) cut.1 rv cut.2 λ_ _=>rfl
   |l m=>exact hQ (.l m) _ v S1.h S1.tk S1.G S1.θ (Eq.symm h) S1.ok.wd rv E2 λ_ e=>by cases e
theorem Lp:(Bv.all λx=>(bm (ofString x)).isSome)=true:=by kernel_rfl
theorem Lq{f:Str}(h:wH f=true):∃d,bm f=some d:=by
 refine aG (iD.mp h) λx hx e=>?_;cases beq_iff_eq.mp e
 exact Option.isSome_iff_exists.mp (aM.mp Lp x hx)
theorem Iv(FN:∀f d,bm f=some d→Lm c.h₀ c.mg f d):∀n,oI c n (Call n):=by
 have fn:∀ {f:Str},wH f=true→∃a o fd,c.mg f=some (.ref a)∧c.h₀.get? a=some o∧o.data=.func fd:=λ{f} h=>by
  refine aY (Lq h) λd hd=>?_;refine lH ((FN f d hd).ex) λa o fd q1 q2 q3 _=>?_;exact CM a o fd q1 q2 q3
 intro n
 induction n with
 |zero=>exact⟨fn,λ_ h=>h.elim⟩
 |succ n ih=>
  refine⟨fn,λ{A E f args σ u s G θ vs a Q} B h ex hf W0 rs hQ=>?_⟩;refine aG h λd hd h=>?_;have hθ:θ.take (mh args)++θ.drop (mh args)=θ:=hJ _ _;have lt:(θ.take (mh args)).length=mh args:=by refine fb ..▸?_;exact yq (Lo rs)
  have W0':Wd c.w c.h₀ G (θ.take (mh args)++θ.drop (mh args)) σ s.heap:=by refine(hθ ..).symm▸?_;exact W0
  have rs':jj c.w G (θ.take (mh args)++θ.drop (mh args)) vs args:=by refine(hθ ..).symm▸?_;exact rs
  refine NA ih (FN f d hd) B h hf (W0'.take _ lt) (rs'.shrink λk hk=>by refine(lt ..).symm▸?_;exact BC hk) λb τ v h' tk G' θ' eu W1 rv E1 hv=>?_;subst eu;cases b with
  |v x=>
   cases hv x rfl
   refine aB (W0'.join lt W1 E1) λJ1 J2=>?_;rw[hθ]at J1 J2;exact hQ (.v x) _ v h' tk G' θ ⟨rfl,rfl⟩ J1 rv J2
  |l m=>
   refine ff ex λ_ _ e _=>?_;clear ex;have e0:θ= []:=List.eq_nil_of_length_eq_zero (by refine W0.len ..▸e ..▸?_;rfl);subst e0;rw[kJ]at E1;exact hQ (.l m) _ v h' tk G' θ' ⟨e,rfl,rfl⟩ W1 rv E1
end
theorem Nm.okS(x:Nm):Mine.okS x.str=true:=by induction x using Nm.casesOn<;>rfl
noncomputable def rt(i:Int):ab:=.tuple [.int i,.int 1]
theorem Sm.s{i:Int}(h:Sm i):pB i=true:=decide_eq_true h
theorem Iw{a b:Int}(ha:Sm a)(hb:Sm b):jE .Mult (.int a) (.int b)=some (.int (a*b)):=by
 exact if_pos (show(pB a&&pB b)=true by refine(ha.s ..).symm▸(hb.s ..).symm▸?_;rfl)
theorem Sm.one:Sm 1:=by unfold Sm;decide
theorem EL{a:Int}(ha:Sm a):jE .Mult (.int a) (.int 1)=some (.int a):=by exact Iw ha .one ..▸nT ..▸rfl
theorem OO(a:Int):jE .FloorDiv (.int a) (.int 1)=some (.int a):=congrArg (λx=>some (bX x)) (Int.fdiv_one a)
theorem OQ(a:Int):jE .Mod (.int a) (.int 1)=some (.int 0):=congrArg (λx=>some (bX x)) (Int.fmod_one a)
theorem j4{k:Nat}(h:k≤1048576):jz k=true:=decide_eq_true h
theorem cr(ts:List T):(aL ts).length=ts.length:=by exact(jm ..).symm▸(aN ..).symm▸rfl
theorem nB(a b:List T):aL (a++b)=aL a++aL b:=by simp[jm]
theorem dt{p:Prop} [Decidable p](h:p):decide p=true:=decide_eq_true h
theorem df{p:Prop} [Decidable p](h:¬p):decide p=false:=decide_eq_false h
section
variable {n:Nat}
noncomputable def NB(a b:Int):St:=⟨[(ofString "a",some (.v (.int a))),(ofString "b",some (.v (.int b)))],[]⟩
theorem Ix{C:Str→List B→fH→U→Prop}(a:Int):kF C (ofString "gcd") (bY 3) [1] 1000 (NB a 1) .next (NB 1 0):=by
 refine .next (s:=NB 1 0) ?_ (.done (l:= []) (W:=998) ?_)
 ·exact le [(2,F.d (OQ a))] (by kernel_rfl)
 ·exact le [] (by kernel_rfl)
theorem Lr(hn:1≤n)(a:Int):bU n (ofString "gcd") [.int a,.int 1] (.int 1):=by
 exact aT (pos hn) Oz [(2,GP (Ix (C:=Call (n-1)) (a.natAbs:Int)))] (by kernel_rfl)
theorem Aa(hn:2≤n)(a:Int):bU n (ofString "rat") [.int a,.int 1] (rt a):=by
 exact aT (pos hn) OA [(4,ar (Lr (n:=n-1) (fz 1 hn) a)),(0,F.d (OO a))] (by kernel_rfl)
theorem Iy(hn:3≤n){a b:Int}(ha:Sm a)(hb:Sm b):bU n (ofString "radd") [rt a,rt b] (rt (a+b)):=by
 exact aT (pos hn) Nf [(2,F.d (EL ha)),(2,F.d (EL hb)),(4,ar (Aa (fz 2 hn) (a+b)))] (by kernel_rfl)
theorem Iz(hn:3≤n){a b:Int}(ha:Sm a)(hb:Sm b):bU n (ofString "rmul") [rt a,rt b] (rt (a*b)):=by
 exact aT (pos hn) Ng [(2,F.d (Iw ha hb)),(3,ar (Aa (fz 2 hn) (a*b)))] (by kernel_rfl)
theorem ew(hn:1≤n)(t:T):bU n (ofString "is_num") [a9 t] (.bool t.isNum):=by
 induction t using T.casesOn<;>exact aT (pos hn) HS [] (by kernel_rfl)
theorem lV(hn:1≤n)(i:Int):bU n (ofString "num_of") [dl i] (rt i):=by
 exact aT (pos hn) HT [] (by kernel_rfl)
theorem gH(hn:1≤n)(i:Int):bU n (ofString "number_term") [rt i] (dl i):=by
 exact aT (pos hn) yc [] (by kernel_rfl)
theorem io(hn:1≤n)(t:T):bU n (ofString "is_whole_num") [a9 t] (.bool t.isNum):=by
 induction t using T.casesOn with
 |num i=>exact aT (pos hn) pJ [] (by kernel_rfl)
 |_=>exact aT (pos hn) pJ [] (by kernel_rfl)
theorem th(hn:1≤n)(a b:Int):bU n (ofString "sign_between") [.int a,.int b] (.int (sR a b)):=by
 unfold sR
 induction h:(a==b)with
 |true=>refine if_pos (beq_iff_eq.mp h) ..▸?_;exact aT (pos hn) eS [(1,F.b (h))] (by kernel_rfl)
 |false=>
  refine if_neg (by simpa using h) ..▸?_
  induction h':decide (a<b)with
  |true=>refine if_pos (of_decide_eq_true h') ..▸?_;exact aT (pos hn) eS [(1,F.b (h)),(1,F.b (h'))] (by kernel_rfl)
  |false=>refine if_neg (of_decide_eq_false h') ..▸?_;exact aT (pos hn) eS [(1,F.b (h)),(1,F.b (h'))] (by kernel_rfl)
theorem iS(hn:2≤n){a b:Int}(ha:Sm a)(hb:Sm b):bU n (ofString "compare_values") [rt a,rt b] (.int (sR a b)):=by
 exact aT (pos hn) ua [(2,F.d (EL ha)),(2,F.d (EL hb)),(0,ar (th (fz 1 hn) a b))] (by kernel_rfl)
theorem nt{b:Bool}(h:b=false):(!b)=true:=by refine h ..▸?_;rfl
theorem nf{b:Bool}(h:b=true):(!b)=false:=by refine h ..▸?_;rfl
theorem ue(hn:1≤n):∀ {us:List T} {acc res:List ab} {x:Option B},acc++aL (us.filter λt=>!t.isNum)=res→∃x',fh (Call n) (bY 28) [1] [] 12 (aL us) acc ⟨[(ofString "factor",x)],[]⟩ res ⟨[(ofString "factor",x')],[]⟩
 | [],acc,res,x,h=>aV x (by refine(h ..)▸?_;exact(aF _).symm) rfl
 |u::us,acc,res,x,h=>by
  rw[bk]at h
  induction hu:u.isNum with
  |true=>
   rw[hu]at h;refine aY (ue hn (x:=some (.v (a9 u))) h) λx' k=>?_;refine⟨x',.cons (s:=⟨[(ofString "factor",some (.v (a9 u)))],[]⟩) ?_ k⟩;exact le [(0,ar (ew hn u)),(1,F.b (nf hu))] (by kernel_rfl)
  |false=>
   rw[hu]at h;refine aY (ue hn (us:=us) (acc:=acc++ [a9 u]) (x:=some (.v (a9 u))) ((aw ..).trans h)) λx' k=>?_;refine⟨x',.cons (s:=⟨[(ofString "factor",some (.v (a9 u)))],[]⟩) ?_ k⟩;exact le [(0,ar (ew hn u)),(1,F.b (nt hu))] (by kernel_rfl)
theorem wV:∀xs:List ab,j0 (xs.map .v)=some xs
 | []=>rfl
 |x::xs=>by rw[aE,yv.2.1,wV xs];rfl
theorem nD(hn:2≤n){t:T}(h:Gd t):bU n (ofString "bare_factors") [a9 t] (.list (aL (bf t))):=by
 induction t using T.casesOn with
 |prod ts=>
  refine aY (ue (n:=n-1) (fz 1 hn) (us:=ts) (acc:= []) (x:=none) rfl) λx' k=>?_;exact aT (pos hn) pK [(5,F.comp (k))] (by kernel_rfl)
 |_=>exact aT (pos hn) pK [] (by kernel_rfl)
theorem pg(hn:2≤n){t:T}(h:Gd t):bU n (ofString "front_value") [a9 t] (rt (fv t)):=by
 induction t using T.casesOn with
 |prod ts=>
  induction ts using am with
  |nil=>exact absurd rfl h.2.2.1
  |cons t ts=>induction t using T.casesOn with
   |num i=>exact aT (pos hn) fM [(5,ar (ew (fz 1 hn) (.num i))),(5,ar (lV (fz 1 hn) i))] (by kernel_rfl)
   |sym x=>exact aT (pos hn) fM [(5,ar (ew (fz 1 hn) (.sym x)))] (by kernel_rfl)
   |sum l=>exact aT (pos hn) fM [(5,ar (ew (fz 1 hn) (.sum l)))] (by kernel_rfl)
   |prod l=>exact aT (pos hn) fM [(5,ar (ew (fz 1 hn) (.prod l)))] (by kernel_rfl)
   |pow b i=>exact aT (pos hn) fM [(5,ar (ew (fz 1 hn) (.pow b i)))] (by kernel_rfl)
   |call t=>exact aT (pos hn) fM [(5,ar (ew (fz 1 hn) (.call t)))] (by kernel_rfl)
 |_=>exact aT (pos hn) fM [] (by kernel_rfl)
theorem e7(hn:1≤n)(t:T):bU n (ofString "base_and_exponent") [a9 t] (.tuple [a9 (be t).1,dl (be t).2]):=by
 induction t using T.casesOn with
 |pow b i=>exact aT (pos hn) kO [] (by kernel_rfl)
 |_=>exact aT (pos hn) kO [] (by kernel_rfl)
theorem pu(hn:3≤n){i j:Int}(hi:Sm i)(hj:Sm j):bU n (ofString "compare_exponents") [dl i,dl j] (.int (sR j i)):=by
 exact aT (pos hn) rf [(0,ar (ew (fz 1 hn) (.num i))),(2,ar (ew (fz 1 hn) (.num j))),(3,ar (lV (fz 1 hn) j)),(0,ar (lV (fz 1 hn) i)),(0,ar (iS (fz 2 hn) hj hi))] (by kernel_rfl)
noncomputable def rg(k:Nat):Nat→List ab
 |0=> []
 |j+1=>.int k::rg (k+1) j
theorem P9:(∀(k:Nat),rg k 0= [])∧(∀(k j:Nat),rg k j.succ=bX ↑k::rg (k+1) j):=⟨λ_=>rfl,λ_ _=>rfl⟩
theorem IA:∀(j k:Nat),rg k j=(bF j).map λ(i:Nat)=>bX ((k+i:Nat):Int)
 |0,_=>rfl
 |j+1,k=>by
  rw[P9.2,IA j (k+1),List.range_succ_eq_map,aE,bZ];exact congrArg _ (bp λi _=>by show bX ((k+1+i:Nat):Int)=.int ((k+(i+1):Nat):Int);rw[bz,fV 1])
theorem qF(m:Nat):lI 0 (m:Int)=rg 0 m:=by
 rw[IA,lI,Int.sub_zero,cE];exact bp λi _=>by rw[iN,ce]
theorem NC{α:Type}(p:List α)(a:α)(r:List α)(h:p.length≤1000):Fo (p++a::r) (p.length:Int)=some a:=by
 show(match Nat.blt p.length 4611686018427387904 with|true=>(p++a::r)[p.length]?|false=>none)=_;refine (Nat.blt_eq.mpr (ba h (by decide)):Nat.blt p.length 4611686018427387904=true) ..▸?_;exact List.getElem?_append_right (ak _)|>.trans (by refine vE ..▸?_;rfl)
theorem qG(p:List T)(a:T)(r:List T){k:Nat}(hk:p.length=k)(h:k≤1000):uX (.tuple (aL (p++a::r))) (.int k)=some (a9 a):=by
 subst hk;refine nB ..▸?_;have:=NC (aL p) (a9 a) (aL r) (by refine cr ..▸?_;exact h)
 rwa [cr]at this
noncomputable def zc{α:Type}(c:α→α→Int):List α→List α→Int
 |a::x,b::y=>rL (c a b) (zc c x y)
 |_,_=>0
theorem Ab{α:Type}(c:α→α→Int):∀x y:List α,x9 c x y=rL (zc c x y) (sR (y.length:Int) x.length)
 | [],[]=>rfl
 | [],b::y=>by
  show(1:Int)=rL 0 (sR _ _);unfold rL sR;exact if_pos rfl ..▸if_neg (by show¬ (((y.length+1:Nat):Int)=0);omega) ..▸if_neg (by show¬ (((y.length+1:Nat):Int)<0);omega) ..▸rfl
 |a::x,[]=>by
  show(-1:Int)=rL 0 (sR _ _);unfold rL sR;exact if_pos rfl ..▸if_neg (by show¬ ((0:Int)=((x.length+1:Nat):Int));omega) ..▸if_pos (by show(0:Int)<((x.length+1:Nat):Int);omega) ..▸rfl
 |a::x,b::y=>by
  show rL _ (x9 c x y)=rL (rL _ _) _;refine Ab c x y ..▸?_;unfold rL sR;simp only[aP];split
  ·simp
  ·rfl
noncomputable def RC(h:Nat):Prop:=∀n,4*h+1≤n→∀s t,Gd s→Gd t→s.ht<h→bU n (ofString "compare_terms") [a9 s,a9 t] (.int (f0 s t))
noncomputable def zF(d:Int):Fl:=match d==0 with
 |true=>.next
 |false=>.ret (.v (.int d))
theorem rT{a b:Int}(h:a≠0):rL a b=a:=if_neg h
theorem uf{a b:Int}(h:a=0):rL a b=b:=if_pos h
noncomputable def OR(x y:List T)(u v:Option B):St:=⟨[(ofString "ones",some (.v (.tuple (aL x)))),(ofString "others",some (.v (.tuple (aL y)))),(ofString "at",u),(ofString "found",v)],[]⟩
theorem yQ{X Y:List T}(hx:X.length≤1000)(hy:Y.length≤1000)(H:∀a∈X,∀b∈Y,bU n (ofString "compare_terms") [a9 a,a9 b] (.int (f0 a b))):∀(x y p q:List T)(k:Nat)(u v:Option B),X=p++x→Y=q++y→p.length=k→q.length=k→
  ∃u' v',fO (Call n) (ofString "compare_rows") (bY 31) [0] (rg k (min x.length y.length)) (OR X Y u v) (zF (zc f0 x y)) (OR X Y u' v')
 | [],_,p,q,k,u,v,_,_,_,_=>ik u v (by refine(ch ..).symm▸(Nat.zero_min ..).symm▸?_;exact⟨rfl,rfl⟩)
 |_::_,[],p,q,k,u,v,_,_,_,_=>ik u v (by refine(ch ..).symm▸(Nat.min_zero ..).symm▸?_;exact⟨rfl,rfl⟩)
 |a::x,b::y,p,q,k,u,v,eX,eY,hp,hq=>by
  subst eX eY;have hk:k≤1000:=by refine(hp ..)▸?_;exact aa (aj▸ao _ _) hx
  refine(aP ..).symm▸(aP ..).symm▸(vF ..).symm▸?_;have h:=H a (bJ _ (.head _)) b (bJ _ (.head _))
  induction e:(f0 a b==0)with
  |true=>
   refine fe (yQ hx hy H x y (p++ [a]) (q++ [b]) (k+1) (some (.v (.int k))) (some (.v (.int (f0 a b)))) (aw p [a] x).symm (aw q [b] y).symm (by refine aj ..▸hp ..▸?_;rfl) (by refine aj ..▸hq ..▸?_;rfl)) λu' v' r=>?_;refine ik u' v' ?_;refine(show zc f0 (a::x) (b::y)=zc f0 x y from uf (beq_iff_eq.mp e)).symm▸?_;refine .next ?_ r;exact le [(0,F.d (qG p a x hp hk)),(0,F.d (qG q b y hq hk)),(0,ar (h)),(1,F.b (nf e))] (by kernel_rfl)
  |false=>
   refine ik (some (.v (.int k))) (some (.v (.int (f0 a b)))) ?_;refine(show zc f0 (a::x) (b::y)=f0 a b from rT (by simpa using e)).symm▸(show zF (f0 a b)=.ret (.v (.int (f0 a b))) by unfold zF;rw[e]).symm▸?_;refine .ret ?_;exact le [(0,F.d (qG p a x hp hk)),(0,F.d (qG q b y hq hk)),(0,ar (h)),(1,F.b (nt e))] (by kernel_rfl)
theorem wW(a b:Nat):Pj (ofString "min") [.int a,.int b]=some (.int (min a b:Nat)):=by
 show some (bX (if(b:Int)<a then b else a))=_
 by_cases h:(b:Int)<a
 ·rw[if_pos h,Nat.min_eq_right (by omega)]
 ·rw[if_neg h,yq (by omega)]
theorem lw{k:Nat}(h:k≤1000):mW (k:Int)=true:=decide_eq_true (by omega)
theorem fY(x:List T):Ha (.tuple (aL x))=some x.length:=congrArg some (cr x)
theorem nE{h:Nat}(hn:4*h+2≤n)(H:RC h){xs ys:List T}(gx:Bm xs)(gy:Bm ys)(hx:tO xs<h)(lx:xs.length≤1000)(ly:ys.length≤1000):
  bU n (ofString "compare_rows") [.tuple (aL xs),.tuple (aL ys)] (.int (x9 f0 xs ys)):=by
 refine fe (yQ (n:=n-1) lx ly (λa ha b hb=>H _ (fu 1 hn) a b (jr.mp gx a ha) (jr.mp gy b hb) (ba (t7.mp (ak _) a ha) hx)) xs ys [] [] 0 none none rfl rfl rfl rfl) λu v r=>?_;rw[←qF]at r;refine Ab ..▸?_
 induction e:(zc f0 xs ys==0)with
 |true=>
  refine uf (beq_iff_eq.mp e) ..▸?_;rw[show zF (zc f0 xs ys)=.next by unfold zF;exact e ..▸rfl]at r;exact aT (pos hn) pL [(0,F.n (fY xs)),(0,F.n (fY ys)),(0,F.d (wW xs.length ys.length)),(0,F.b (lw (aa (dW xs.length ys.length) lx))),(0,F.loop (r)),(0,F.n (fY ys)),(0,F.n (fY xs)),(0,ar (th (fz 1 (aa (aD _ _) hn)) ys.length xs.length))] (by kernel_rfl)
 |false=>
  refine(rT (by simpa using e) ..).symm▸?_;rw[show zF (zc f0 xs ys)=.ret (.v (.int (zc f0 xs ys))) by unfold zF;exact e ..▸rfl]at r;exact aT (pos hn) pL [(0,F.n (fY xs)),(0,F.n (fY ys)),(0,F.d (wW xs.length ys.length)),(0,F.b (lw (aa (dW xs.length ys.length) lx))),(0,F.loop (r))] (by kernel_rfl)
theorem oK{t:T}(h:er t=true):(∃x,t=.sym x)∨(∃u,t=.call u)∨∃l,t=.sum l:=by
 induction t using T.casesOn<;>first|exact .inl ⟨_,rfl⟩|exact .inr (.inl ⟨_,rfl⟩)|exact .inr (.inr ⟨_,rfl⟩)|exact dC h
theorem IB(x y:Nm):iI .Eq (.str x.str) (.str y.str)=some (x.ix==y.ix):=by induction x using Nm.casesOn<;>induction y using Nm.casesOn<;>rfl
theorem Mj(x y:Nm):decide (x.str.cps.toList<y.str.cps.toList)=decide (x.ix<y.ix):=by induction x using Nm.casesOn<;>induction y using Nm.casesOn<;>rfl
theorem BD(hn:1≤n)(x y:Nm):bU n (ofString "sign_between") [.str x.str,.str y.str] (.int (sR x.ix y.ix)):=by
 unfold sR
 induction h:(x.ix==y.ix)with
 |true=>refine if_pos (beq_iff_eq.mp h) ..▸?_;exact aT (pos hn) eS [(0,bx ((IB x y).trans (congrArg some h)))] (by kernel_rfl)
 |false=>
  refine if_neg (by simpa using h) ..▸?_
  induction h':decide (x.ix<y.ix)with
  |true=>refine if_pos (of_decide_eq_true h') ..▸?_;exact aT (pos hn) eS [(0,bx ((IB x y).trans (congrArg some h))),(2,F.b ((Mj x y).trans h'))] (by kernel_rfl)
  |false=>refine if_neg (of_decide_eq_false h') ..▸?_;exact aT (pos hn) eS [(0,bx ((IB x y).trans (congrArg some h))),(2,F.b ((Mj x y).trans h'))] (by kernel_rfl)
theorem Dq(hn:1≤n):bU n (ofString "sign_between") [.str (ofString "f"),.str (ofString "f")] (.int 0):=by
 exact aT (pos hn) eS [] (by kernel_rfl)
theorem ti{h:Nat}(hn:4*h+3≤n)(H:RC h){s t:T}(gs:Gd s)(gt:Gd t)(bs:er s=true)(bt:er t=true)(hs:s.ht≤h):
  bU n (ofString "compare_bases") [a9 s,a9 t] (.int (wA s t)):=by
 have sg:=λa b=>th (n:=n-1) (fz 1 (aa (aD 3 (4*h)) hn)) a b;rcases oK bs with⟨x,rfl⟩|⟨u,rfl⟩|⟨l,rfl⟩<;>rcases oK bt with⟨y,rfl⟩|⟨v,rfl⟩|⟨m,rfl⟩
 ·refine HD ..▸?_;exact aT (pos hn) dz [(4,ar (sg 0 0)),(9,ar (BD (n:=n-1) (fz 1 (aa (aD 3 (4*h)) hn)) x y))] (by kernel_rfl)
 ·exact aT (pos hn) dz [(4,ar (sg 0 1))] (by kernel_rfl)
 ·exact aT (pos hn) dz [(4,ar (sg 0 2))] (by kernel_rfl)
 ·exact aT (pos hn) dz [(4,ar (sg 1 0))] (by kernel_rfl)
 ·refine FH ..▸?_;exact aT (pos hn) dz [(4,ar (sg 1 1)),(11,ar (Dq (n:=n-1) (fz 1 (aa (aD 3 (4*h)) hn)))),(4,ar (nE (fu 2 hn) H (xs:= [u]) (ys:= [v]) ⟨gs,trivial⟩ ⟨gt,trivial⟩ (by simp only[qp]at hs;simp[Bn];exact hs) (by simp) (by simp)))] (by kernel_rfl)
 ·exact aT (pos hn) dz [(4,ar (sg 1 2))] (by kernel_rfl)
 ·exact aT (pos hn) dz [(4,ar (sg 2 0))] (by kernel_rfl)
 ·exact aT (pos hn) dz [(4,ar (sg 2 1))] (by kernel_rfl)
 ·refine HC ..▸?_;exact aT (pos hn) dz [(4,ar (sg 2 2)),(13,ar (nE (fu 2 hn) H gs.1 gt.1 (by simp only[qp]at hs;exact hs) gs.2 gt.2))] (by kernel_rfl)
theorem EM{t:T}(h:Gd t):Gd (be t).1∧Sm (be t).2:=by
 induction t using T.casesOn<;>first|exact⟨h.1,h.2.2⟩|exact⟨h,.one⟩
theorem Mk{t:T}(h:Gd t):Sm (fv t):=by
 induction t using T.casesOn<;>first|exact .one|skip
 rename_i ts
 induction ts using am with
 |nil=>exact .one
 |cons t r=>induction t using T.casesOn<;>first|exact .one|exact h.1.1
theorem OS(t:T):(be t).1.ht=t.ht:=by induction t using T.casesOn<;>rfl
theorem rh{h:Nat}(hn:4*h+4≤n)(H:RC h){s t:T}(gs:Gd s)(gt:Gd t)(bs:er (be s).1=true)(bt:er (be t).1=true)(hs:s.ht≤h):
  bU n (ofString "compare_factors") [a9 s,a9 t] (.int (ml s t)):=by
 have h4:4≤n:=aa (aD 4 (4*h)) hn;have cb:=ti (fu 3 hn) H (EM gs).1 (EM gt).1 bs bt (by refine(OS ..).symm▸?_;exact hs);refine KN ..▸?_
 induction q:(wA (be s).1 (be t).1==0)with
 |false=>
  refine(rT (by simpa using q) ..).symm▸?_;exact aT (pos hn) mH [(0,ar (e7 (fz 1 h4) s)),(0,ar (e7 (fz 1 h4) t)),(0,ar (cb)),(1,F.b (nt q))] (by kernel_rfl)
 |true=>
  refine uf (beq_iff_eq.mp q) ..▸?_;exact aT (pos hn) mH [(0,ar (e7 (fz 1 h4) s)),(0,ar (e7 (fz 1 h4) t)),(0,ar (cb)),(1,F.b (nf q)),(0,ar (pu (fz 3 h4) (EM gs).2 (EM gt).2))] (by kernel_rfl)
theorem Ml{t:T}(h:Gd t)(hn:t.isNum=false):(∀u∈bf t,Gd u∧er (be u).1=true∧u.ht≤t.ht)∧(bf t).length≤1000:=by
 induction t using T.casesOn with
 |prod ts=>
  refine⟨λu hu=>?_,aa (fk _ _) h.2.1⟩;refine aB (List.mem_filter.mp hu) λhu hq=>?_;refine⟨jr.mp h.1 u hu,?_,t7.mp (ak _) u hu⟩;rcases h.2.2.2 u hu with q|⟨b,i,rfl⟩|⟨i,rfl⟩
  ·induction u using T.casesOn<;>first|exact q|exact dC q
  ·exact(jr.mp h.1 _ hu).2.1
  ·exact dC hq
 |num i=>exact m7 hn
 |pow b i=>exact⟨λu hu=>by refine(ae.mp hu ..).symm▸?_;exact⟨h,h.2.1,ak _⟩,by simp[bf]⟩
 |_=>exact⟨λu hu=>by refine(ae.mp hu ..).symm▸?_;exact⟨h,rfl,ak _⟩,by simp[bf]⟩
theorem gI(p:List T)(a:T)(r:List T){k:Nat}(hk:p.length=k)(h:k≤1000):uX (.list (aL (p++a::r))) (.int k)=some (a9 a):=qG p a r hk h
noncomputable def Mm(s t:T)(x y:List T)(u v:Option B):St:=⟨[(ofString "one",some (.v (a9 s))),(ofString "other",some (.v (a9 t))),(ofString "ones",some (.v (.list (aL x)))),(ofString "others",some (.v (.list (aL y)))),(ofString "at",u),(ofString "found",v)],[]⟩
theorem wX{s t:T}{X Y:List T}(hx:X.length≤1000)(H:∀a∈X,∀b∈Y,bU n (ofString "compare_factors") [a9 a,a9 b] (.int (ml a b))):∀(x y p q:List T)(k:Nat)(u v:Option B),X=p++x→Y=q++y→p.length=k→q.length=k→
  ∃u' v',fO (Call n) (ofString "compare_terms") (bY 35) [3] (rg k (min x.length y.length)) (Mm s t X Y u v) (zF (zc ml x y)) (Mm s t X Y u' v')
 | [],_,p,q,k,u,v,_,_,_,_=>ik u v (by refine(ch ..).symm▸(Nat.zero_min ..).symm▸?_;exact⟨rfl,rfl⟩)
 |_::_,[],p,q,k,u,v,_,_,_,_=>ik u v (by refine(ch ..).symm▸(Nat.min_zero ..).symm▸?_;exact⟨rfl,rfl⟩)
 |a::x,b::y,p,q,k,u,v,eX,eY,hp,hq=>by
  subst eX eY;have hk:k≤1000:=by refine(hp ..)▸?_;exact aa (aj▸ao _ _) hx
  refine(aP ..).symm▸(aP ..).symm▸(vF ..).symm▸?_;have h:=H a (bJ _ (.head _)) b (bJ _ (.head _))
  induction e:(ml a b==0)with
  |true=>
   refine fe (wX (s:=s) (t:=t) hx H x y (p++ [a]) (q++ [b]) (k+1) (some (.v (.int k))) (some (.v (.int (ml a b)))) (aw p [a] x).symm (aw q [b] y).symm (by refine aj ..▸hp ..▸?_;rfl) (by refine aj ..▸hq ..▸?_;rfl)) λu' v' r=>?_;refine ik u' v' ?_;refine(show zc ml (a::x) (b::y)=zc ml x y from uf (beq_iff_eq.mp e)).symm▸?_;refine .next ?_ r;exact le [(0,F.d (gI p a x hp hk)),(0,F.d (gI q b y hq hk)),(0,ar (h)),(1,F.b (nf e))] (by kernel_rfl)
  |false=>
   refine ik (some (.v (.int k))) (some (.v (.int (ml a b)))) ?_;refine(show zc ml (a::x) (b::y)=ml a b from rT (by simpa using e)).symm▸(show zF (ml a b)=.ret (.v (.int (ml a b))) by unfold zF;rw[e]).symm▸?_;refine .ret ?_;exact le [(0,F.d (gI p a x hp hk)),(0,F.d (gI q b y hq hk)),(0,ar (h)),(1,F.b (nt e))] (by kernel_rfl)
theorem tj{h:Nat}(hn:4*h+5≤n)(H:RC h){s t:T}(gs:Gd s)(gt:Gd t)(hs:s.ht≤h):
  bU n (ofString "compare_terms") [a9 s,a9 t] (.int (f0 s t)):=by
 have h5:5≤n:=aa (aD 5 (4*h)) hn;have is:=ew (fz 1 h5) s;have it:=ew (fz 1 h5) t
 induction qs:s.isNum with
 |true=>
  induction s using T.casesOn<;>first|exact nsN qs|exact dC qs|cases qs|skip
  rename_i i
  induction qt:t.isNum with
  |true=>
   induction t using T.casesOn<;>first|exact nsN qt|exact dC qt|cases qt|skip
   rename_i j;refine HB ..▸?_;exact aT (pos hn) fo [(0,ar (is)),(2,ar (it)),(3,ar (lV (fz 1 h5) i)),(0,ar (lV (fz 1 h5) j)),(0,ar (iS (fz 2 h5) gs gt))] (by kernel_rfl)
  |false=>
   refine FE qt ..▸?_;rw[qt]at it;exact aT (pos hn) fo [(0,ar (is)),(2,ar (it)),(3,ar (is)),(0,ar (it)),(2,ar (is))] (by kernel_rfl)
 |false=>
  rw[qs]at is
  induction qt:t.isNum with
  |true=>
   induction t using T.casesOn<;>first|exact nsN qt|exact dC qt|cases qt|skip
   refine FF qs ..▸?_;exact aT (pos hn) fo [(0,ar (is)),(3,ar (is)),(0,ar (it)),(2,ar (is))] (by kernel_rfl)
  |false=>
   rw[qt]at it;have⟨os,ls⟩:=Ml gs qs;have⟨ot,lt⟩:=Ml gt qt;refine fe (wX (n:=n-1) (s:=s) (t:=t) ls (λa ha b hb=>rh (fu 4 hn) H (os a ha).1 (ot b hb).1 (os a ha).2.1 (ot b hb).2.1 (aa (os a ha).2.2 hs)) (bf s) (bf t) [] [] 0 none none rfl rfl rfl rfl) λu v r=>?_;rw[←qF]at r;refine FG qs qt ..▸Ab ..▸?_;have bs:=nD (fz 2 h5) gs;have bt:=nD (fz 2 h5) gt;have sm:=lw (aa (dW (bf s).length (bf t).length) ls)
   induction e:(zc ml (bf s) (bf t)==0)with
   |false=>
    refine(rT (a:=zc ml (bf s) (bf t)) (by simpa using e) ..).symm▸(rT (a:=zc ml (bf s) (bf t)) (by simpa using e) ..).symm▸?_;rw[show zF (zc ml (bf s) (bf t))=.ret (.v (.int (zc ml (bf s) (bf t)))) by unfold zF;exact e ..▸rfl]at r;exact aT (pos hn) fo [(0,ar (is)),(3,ar (is)),(0,ar (it)),(2,ar (bs)),(0,ar (bt)),(0,F.n (fY (bf s))),(0,F.n (fY (bf t))),(0,F.d (wW (bf s).length (bf t).length)),(0,F.b (sm)),(0,F.loop (r))] (by kernel_rfl)
   |true=>
    refine uf (a:=zc ml (bf s) (bf t)) (beq_iff_eq.mp e) ..▸?_;rw[show zF (zc ml (bf s) (bf t))=.next by unfold zF;exact e ..▸rfl]at r;have sg:=th (n:=n-1) (fz 1 h5) (bf t).length (bf s).length
    induction q:(sR ((bf t).length:Int) (bf s).length==0)with
    |false=>
     refine(rT (by simpa using q) ..).symm▸?_;exact aT (pos hn) fo [(0,ar (is)),(3,ar (is)),(0,ar (it)),(2,ar (bs)),(0,ar (bt)),(0,F.n (fY (bf s))),(0,F.n (fY (bf t))),(0,F.d (wW (bf s).length (bf t).length)),(0,F.b (sm)),(0,F.loop (r)),(0,F.n (fY (bf t))),(0,F.n (fY (bf s))),(0,ar (sg)),(1,F.b (nt q))] (by kernel_rfl)
    |true=>
     refine uf (beq_iff_eq.mp q) ..▸?_;exact aT (pos hn) fo [(0,ar (is)),(3,ar (is)),(0,ar (it)),(2,ar (bs)),(0,ar (bt)),(0,F.n (fY (bf s))),(0,F.n (fY (bf t))),(0,F.d (wW (bf s).length (bf t).length)),(0,F.b (sm)),(0,F.loop (r)),(0,F.n (fY (bf t))),(0,F.n (fY (bf s))),(0,ar (sg)),(1,F.b (nf q)),(0,ar (pg (fz 2 h5) gs)),(0,ar (pg (fz 2 h5) gt)),(0,ar (iS (fz 2 h5) (Mk gs) (Mk gt)))] (by kernel_rfl)
end
theorem ID:∀h,RC h
 |0=>λn hn s t gs gt hs=>absurd hs (fT _)
 |h+1=>λn hn s t gs gt hs=>tj (h:=h) hn (ID h) gs gt (ij hs)
noncomputable def T.isSum:T→Bool
 |.sum _=>true
 |_=>false
noncomputable def T.isProd:T→Bool
 |.prod _=>true
 |_=>false
noncomputable def T.split:T→Int×T
 |.num i=>(i,.num 1)
 |.prod [.num i,t]=>(i,t)
 |.prod (.num i::r)=>(i,.prod r)
 |t=>(1,t)
noncomputable def f8:T→List T
 |.prod l=>l
 |t=> [t]
noncomputable def dT(i:Int)(t:T):T:=if i=0∨lQ t (.num 1)=true then .num i else if i=1 then t else .prod (.num i::f8 t)
noncomputable def gu:T→List T
 |.sum l=>l
 |t=> [t]
noncomputable def cv(ts:List T):List T:=ts.flatMap gu
noncomputable def jO:T→List T
 |.prod l=>l
 |t=> [t]
noncomputable def bu(ts:List T):List T:=ts.flatMap jO
noncomputable abbrev gw:=List (T×Int)
noncomputable def di:gw→T→Option Int
 | [],_=>none
 |(s,i)::r,t=>if lQ s t then some i else di r t
theorem qH:(∀(x:T),di [] x=none)∧(∀(x s:T)(i:Int)(r:List (T×Int)),di ((s,i)::r) x=if lQ s x=true then some i else di r x):=⟨λ_=>rfl,λ_ _ _ _=>rfl⟩
noncomputable def rU(c:gw)(t:T)(i:Int):gw:=if c.any (λp=>lQ p.1 t)then c.map λp=>if lQ p.1 t then(p.1,i)else p else c++ [(t,i)]
noncomputable def mY(c:gw)(t:T):gw:=c.filter λp=>!lQ p.1 t
noncomputable def jt(c:gw)(t:T)(i:Int):gw:=rU c t ((di c t).getD 0+i)
noncomputable def rj(ts:List T):gw:=ts.foldl (λc t=>jt c t.split.2 t.split.1) []
noncomputable def ph(ts:List T):T:=match ts with
 | []=>.num 0
 | [t]=>t
 |ts=>.sum ts
noncomputable def mn(ts:List T):Int:=(di (rj (cv ts)) (.num 1)).getD 0
noncomputable def ie(ts:List T):List T:=((mY (rj (cv ts)) (.num 1)).filter λp=>!(p.2==0)).map λp=>dT p.2 p.1
noncomputable def km(ts:List T):T:=ph (eK (ie ts)++if mn ts=0 then []else [.num (mn ts)])
noncomputable def md(b:T)(j:Int):T:=if j=1 then b else .pow b j
noncomputable def mN(k:Int)(t:T):Int:=match t with
 |.num i=>k*i
 |_=>k
noncomputable def nF(ts:List T):Int:=ts.foldl mN 1
noncomputable def BE(c:gw):T→gw
 |.num _=>c
 |t=>jt c (be t).1 (be t).2
noncomputable def Ac(ts:List T):gw:=ts.foldl BE []
noncomputable def d4(ts:List T):List T:=(Ac (bu ts)).map λp=>md p.1 p.2
noncomputable def rV(ts:List T):T:=match ts with
 | [t]=>t
 |ts=>.prod ts
noncomputable def fR(ts:List T):T:=match eK (d4 ts)with
 | []=>.num (nF (bu ts))
 |fs=>dT (nF (bu ts)) (rV fs)
noncomputable def su(t:T)(j:Int):T:=match t with
 |.num i=>.num (i^j.toNat)
 |.pow c k=>md c (k*j)
 |t=>md t j
noncomputable def pw(t:T)(j:Int):T:=match t with
 |.prod l=>if j=1 then .prod l else fR (l.map λt=>su t j)
 |t=>su t j
theorem F2{a b:Int}(h:a+b≠0):km [.num a,.num b]=.num (a+b):=by
 unfold km;refine(((rfl:mn [.num a,.num b]=0+a+b).trans (congrArg (·+b) (iN a)):mn [.num a,.num b]=a+b) ..).symm▸((rfl:ie [.num a,.num b]= []) ..).symm▸(if_neg h ..).symm▸?_;rfl
theorem yR(a b:Int):ie [.num a,.num b]= []:=rfl
theorem gL:∀ {c:gw} {t:T} {i:Int},di c t=some i→(t,i)∈c
 |(s,j)::r,t,i,h=>by
  rw[qH.2]at h;split at h
  ·rename_i q;obtain rfl:=Option.some.inj h;refine(iy _ _ q ..)▸?_;exact .head _
  ·exact .tail _ (gL h)
theorem nH{c:gw}{t:T}{i:Int}{p:T×Int}(h:p∈rU c t i):p∈c∨p=(t,i):=by
 unfold rU at h;split at h
 ·refine aG (List.mem_map.mp h) λq hq z1=>?_;obtain rfl:=z1;split
  ·rename_i e;exact .inr (iy _ _ e ..▸rfl)
  ·exact .inl hq
 ·refine(List.mem_append.mp h).elim (λh=>?_) λh=>?_
  ·exact .inl h
  ·exact .inr (ae.mp h)
theorem IE(c:gw)(t:T)(i:Int):(rU c t i).length≤c.length+1:=by
 unfold rU;split<;>simp
theorem oL(t:T):1≤t.dp:=by induction t using T.casesOn<;>simp only[cA]<;>omega
theorem BF(t:T):t.split.2.dp≤t.dp:=by
 induction t using T.casesOn with
 |prod l=>
  have key:∀(a:T) r,(T.prod r).dp≤(T.prod (a::r)).dp:=λa r=>by simp only[cA,pH];exact nw [_,_] (.d yA yB .n) (.a yA (.k 2)) (.a yB (.k 2)) rfl (bQ _ _)
  rcases l with _|⟨a,l⟩
  ·exact ak _
  ·induction a using T.casesOn with
   |num k=>
    rcases l with _|⟨b,_|⟨c,r⟩⟩
    ·exact key _ _
    ·simp only[T.split,cA,pH];exact nw [_,_,_] (.d yA yB (.d yC yA .n)) yC (.a yB (.k 2)) rfl (bQ _ _) (aS _ _)
    ·exact key _ _
   |_=>exact ak _
 |_=>exact ak _
noncomputable def wY(ts:List T):Nat:=(ts.map λt=>t.split.1.natAbs).sum
section
variable {n:Nat}
theorem fP(xs:List T)(x:T):(aL xs).map B.v++ [.v (a9 x)]=(aL (xs++ [x])).map B.v:=by refine nB ..▸bS ..▸?_;rfl
theorem f9(xs:List T):hU (.lst ((aL xs).map .v))=some (.list (aL xs)):=by refine CO ..▸wV ..▸?_;rfl
theorem yS(p:List T)(a:T)(x:List T){k:Nat}(hk:p.length=k):decide ((k:Int)<((aL (p++a::x)).length:Int))=true:=by
 refine cr ..▸aj ..▸aP ..▸?_;exact dt (by omega)
theorem IF{p:List T}{k:Nat}(hk:p.length=k):decide ((k:Int)<((aL (p++ [])).length:Int))=false:=by
 refine cr ..▸aF ..▸?_;exact df (by omega)
theorem so{a b:Bool}(h:a=b):some a=some b:=congrArg some h
theorem EN(p:List T):decide ((p.length:Int)<((aL p).length:Int))=false:=by refine cr ..▸?_;exact df (Int.lt_irrefl _)
theorem IG(p:List T)(a:T)(x:List T){k:Nat}(hk:p.length=k):decide ((k:Int)≥((aL (p++a::x)).length:Int))=false:=by
 refine cr ..▸aj ..▸aP ..▸?_;exact df (by omega)
theorem ND{p:List T}{k:Nat}(hk:p.length=k):decide ((k:Int)≥((aL (p++ [])).length:Int))=true:=by
 refine cr ..▸aF ..▸?_;exact dt (by omega)
noncomputable def QC(xs ys:List T)(a b:Nat)(fs:List T)(z:Option B):St:=⟨[(ofString "ones",some (.v (.list (aL xs)))),(ofString "others",some (.v (.list (aL ys)))),(ofString "found",some (.l 0)),(ofString "at",some (.v (.int a))),(ofString "spot",some (.v (.int b))),(ofString "is_first",z)],[some (.lst ((aL fs).map .v))]⟩
theorem vN{fs:List T}{m:Nat}(hf:fs.length=m)(h:m≤1000):jz ((aL fs).map B.v).length=true:=j4 (by refine(aN ..).symm▸(cr ..).symm▸(hf ..).symm▸?_;exact aa h (by decide))
theorem Dr{h:Nat}(hn:4*h+1≤n){X Y:List T}(gx:Bm X)(gy:Bm Y)(hx:tO X<h)(hl:X.length+Y.length<1000):∀(W:Nat)(x y p q fs:List T)(k j:Nat)(z:Option B),X=p++x→Y=q++y→p.length=k→q.length=j→fs.length=k+j→x.length+y.length<W→
  ∃z',kF (Call n) (ofString "merged_terms") (bY 36) [1] W (QC X Y k j fs z) .next (QC X Y X.length Y.length (fs++hZ x y) z'):=by
 intro W
 induction W with
 |zero=>intro x y p q fs k j z _ _ _ _ _ h;cases h
 |succ W ih=>
  intro x y p q fs k j z eX eY hp hq hf hW;subst eX eY;have lk:k≤1000:=by refine(hp ..)▸?_;exact aa (aj▸ao _ _) (aa (ao _ _) (fU hl))
  have lj:j≤1000:=by refine(hq ..)▸?_;exact aa (aj▸ao _ _) (aa (aD _ _) (fU hl))
  have lf:k+j≤1000:=by refine(hp ..)▸(hq ..)▸?_;exact aa (jV (aj▸ao _ _) (aj▸ao _ _)) (fU hl)
  have ft:=vN hf lf
  induction x using am with
  |nil=>induction y using am with
   |nil=>
    rw[aF,aF,←hp,←hq]at*;refine⟨z,?_⟩;refine(show fs++hZ [] []=fs by rw[jJ,aF]).symm▸?_;refine .done (l:= []) ?_;exact le [(2,F.b (EN p)),(2,F.b (EN q))] (by kernel_rfl)
   |cons b y=>
    refine aY (ih [] y p (q++ [b]) (fs++ [b]) k (j+1) (some (.v (.bool false))) rfl (aw q [b] y).symm hp (by refine aj ..▸hq ..▸?_;rfl) (by refine aj ..▸hf ..▸?_;rfl) (cp hW)) λz' r=>?_;rw[aw]at r;refine⟨z',.next ?_ r⟩;exact le [(2,F.b (IF hp)),(2,F.b (yS q b y hq)),(4,F.b (IG q b y hq)),(1,bx (so (IF (p:=p) hp))),(5,F.d (gI q b y hq lj)),(1,F.b (ft)),(0,F.cl (congrArg bE.lst (fP fs b)))] (by kernel_rfl)
  |cons a x=>induction y using am with
   |nil=>
    refine aY (ih x [] (p++ [a]) q (fs++ [a]) (k+1) j (some (.v (.bool true))) (aw p [a] x).symm rfl (by refine aj ..▸hp ..▸?_;rfl) hq (by refine aj ..▸hf ..▸?_;exact cL k j 1) (cp hW)) λz' r=>?_;rw[aw]at r;refine(show hZ (a::x) []= [a]++hZ x [] by rw[jJ,jJ];rfl).symm▸?_;refine⟨z',.next ?_ r⟩;exact le [(2,F.b (yS p a x hp)),(2,bx (so (ND (p:=q) hq))),(5,F.d (gI p a x hp lk)),(1,F.b (ft)),(0,F.cl (congrArg bE.lst (fP fs a)))] (by kernel_rfl)
   |cons b y=>
    have rc:=ID h n hn a b (jr.mp gx a (bJ _ (.head _))) (jr.mp gy b (bJ _ (.head _))) (ba (t7.mp (ak _) a (bJ _ (.head _))) hx);refine og ..▸?_
    induction qc:decide (f0 a b≤0)with
    |true=>
     refine aY (ih x (b::y) (p++ [a]) q (fs++ [a]) (k+1) j (some (.v (.bool true))) (aw p [a] x).symm rfl (by refine aj ..▸hp ..▸?_;rfl) hq (by refine aj ..▸hf ..▸?_;exact cL k j 1) (by rw[aP,Nat.succ_add]at hW;exact cp hW)) λz' r=>?_;rw[aw]at r;refine if_pos (show On a b=true from qc) ..▸?_;refine⟨z',.next ?_ r⟩;exact le [(2,F.b (yS p a x hp)),(4,F.b (IG q b y hq)),(3,F.b (yS p a x hp)),(0,F.d (gI p a x hp lk)),(0,F.d (gI q b y hq lj)),(0,ar (rc)),(0,bx (so qc)),(3,F.d (gI p a x hp lk)),(1,F.b (ft)),(0,F.cl (congrArg bE.lst (fP fs a)))] (by kernel_rfl)
    |false=>
     refine aY (ih (a::x) y p (q++ [b]) (fs++ [b]) k (j+1) (some (.v (.bool false))) rfl (aw q [b] y).symm hp (by refine aj ..▸hq ..▸?_;rfl) (by refine aj ..▸hf ..▸?_;rfl) (cp hW)) λz' r=>?_;rw[aw]at r;rw[if_neg (by rw[show On a b=false from qc];exact aR)];refine⟨z',.next ?_ r⟩;exact le [(2,F.b (yS p a x hp)),(4,F.b (IG q b y hq)),(3,F.b (yS p a x hp)),(0,F.d (gI p a x hp lk)),(0,F.d (gI q b y hq lj)),(0,ar (rc)),(0,bx (so qc)),(3,F.d (gI q b y hq lj)),(1,F.b (ft)),(0,F.cl (congrArg bE.lst (fP fs b)))] (by kernel_rfl)
theorem ug{h:Nat}(hn:4*h+2≤n){xs ys:List T}(gx:Bm xs)(gy:Bm ys)(hx:tO xs<h)(hl:xs.length+ys.length<1000):
  bU n (ofString "merged_terms") [.list (aL xs),.list (aL ys)] (.list (aL (hZ xs ys))):=by
 refine aY (Dr (n:=n-1) (fu 1 hn) gx gy hx hl 1000 xs ys [] [] [] 0 0 none rfl rfl rfl rfl rfl hl) λz r=>?_;exact aT (pos hn) wK [(1,GP (r)),(1,F.d (f9 (hZ xs ys)))] (by kernel_rfl)
end
theorem uh(ts:List T)(k:Nat):(aL ts).take k=aL (ts.take k):=by exact(jm ..).symm▸(jm ..).symm▸(AS ..).symm▸rfl
theorem ui(ts:List T)(k:Nat):(aL ts).drop k=aL (ts.drop k):=by exact(jm ..).symm▸(jm ..).symm▸(List.map_drop ..).symm▸rfl
theorem Ad{l m:List T}(h:∀t∈l,t∈m):tO l≤tO m:=t7.mpr λt ht=>t7.mp (ak _) t (h t ht)
theorem vO{l m:List T}(h:∀t∈l,t∈m)(g:Bm m):Bm l:=jr.mpr λt ht=>jr.mp g t (h t ht)
theorem Mn(k:Nat):(k:Int).fdiv 2=((k/2:Nat):Int):=Int.fdiv_eq_ediv_of_nonneg _ (by decide)
theorem Qa(ts:List T):jE .FloorDiv (.int ((aL ts).length:Int)) (.int 2)=some (.int ((ts.length/2:Nat):Int)):=by
 refine cr ..▸(Mn ..)▸?_;rfl
theorem Ds(ts:List T)(k:Nat):tS (.list (aL ts)) none (some (.int (k:Nat)))=some (.list (aL (ts.take k))):=by
 show(if 0≤(k:Int)then some (PyData.list ((aL ts).take ((k:Nat):Int).toNat))else none)=_;exact if_pos (dG _) ..▸cE ..▸uh ..▸rfl
theorem Dt(ts:List T)(k:Nat):tS (.list (aL ts)) (some (.int (k:Nat))) none=some (.list (aL (ts.drop k))):=by
 show(if 0≤(k:Int)then some (PyData.list ((aL ts).drop ((k:Nat):Int).toNat))else none)=_;exact if_pos (dG _) ..▸cE ..▸ui ..▸rfl
theorem Ls{l K:Nat}(h:l≤2*K)(hl:2≤l):l/2≤K∧l-l/2≤K∧l/2≤l∧l/2+(l-l/2)=l:=by exact⟨nk [_,_,_] (.d yA (.m 2 yB) (.d (.w 2 yC) yA .n)) 2 yC yB rfl h (bV _ _),⟨nk [_,_,_,_] (.d yA (.m 2 yB) (.d (.s yA) (.a (.w 2 yC) (.k 2)) (.c 2 (.a yD yC) yA .n))) 2 yD yB rfl h (gR (by decide)) (ah (az (nk [_,_] (.d (.w 2 yA) yB .n) 2 yA yB rfl (bV _ _)))),⟨nk [_,_] (.d (.w 2 yA) yB .n) 2 yA yB rfl (bV _ _),aC (nw [_,_,_] (.d (.a yA yB) yC .n) (.a yB yA) yC rfl (ah (az (nk [_,_] (.d (.w 2 yA) yB .n) 2 yA yB rfl (bV _ _))))) (nw [_,_,_] (.d yA (.a yB yC) .n) yA (.a yC yB) rfl (a6 _ _))⟩⟩⟩
theorem pX{h:Nat}:∀(k n:Nat)(ts:List T),ts.length≤2^k→ts.length<1000→4*h+3+k≤n→Bm ts→tO ts<h→
  bU n (ofString "sort_terms") [.list (aL ts)] (.list (aL (eK ts))):=by
 intro k
 induction k with
 |zero=>
  intro n ts hk hk' hn g hh;refine Bj ..▸if_pos (cS hk) ..▸?_;exact aT (pos hn) oE [(2,F.b (show decide (((aL ts).length:Int)<2)=true by refine cr ..▸?_;exact dt (Int.ofNat_lt.mpr (cS hk))))] (by kernel_rfl)
 |succ k ih=>
  intro n ts hk hk' hn g hh;refine Bj ..▸?_
  by_cases q:ts.length<2
  ·refine if_pos q ..▸?_;exact aT (pos hn) oE [(2,F.b (show decide (((aL ts).length:Int)<2)=true by refine cr ..▸?_;exact dt (Int.ofNat_lt.mpr q)))] (by kernel_rfl)
  ·refine if_neg q ..▸?_;rw[vG,qu]at hk;have⟨a1,a2,a3,a4⟩:=Ls hk (cB q);have l1:(ts.take (ts.length/2)).length=ts.length/2:=by exact(fb ..).symm▸(yq a3 ..).symm▸rfl
   have l2:(ts.drop (ts.length/2)).length=ts.length-ts.length/2:=cO;have s1:∀t∈ts.take (ts.length/2),t∈ts:=λt ht=>List.mem_of_mem_take ht;have s2:∀t∈ts.drop (ts.length/2),t∈ts:=λt ht=>Fg ht;have p1:=fK (ts.take (ts.length/2));have p2:=fK (ts.drop (ts.length/2));have t1:∀t∈eK (ts.take (ts.length/2)),t∈ts:=λt ht=>s1 t (p1.mem_iff.mp ht);have hn':4*h+3+k≤n-1:=lm hn;exact aT (pos hn) oE [(2,F.b (show decide (((aL ts).length:Int)<2)=false by refine(cr ..).symm▸?_;exact df (λw=>q (Int.ofNat_lt.mp w)))),(1,F.d (Qa ts)),(0,F.d (Ds ts (ts.length/2))),(0,ar ((ih (n-1) (ts.take (ts.length/2)) (by refine(l1 ..).symm▸?_;exact a1) (by refine(l1 ..).symm▸?_;exact ba a3 hk') hn' (vO s1 g) (ba (Ad s1) hh)))),(0,F.d (Dt ts (ts.length/2))),(0,ar ((ih (n-1) (ts.drop (ts.length/2)) (by refine(l2 ..).symm▸?_;exact a2) (by refine(l2 ..).symm▸?_;exact ba (dH _ _) hk') hn' (vO s2 g) (ba (Ad s2) hh)))),(0,ar ((ug (h:=h) (n:=n-1) (aa (aa (nW _) (ao _ _)) hn') (vO t1 g) (vO (λt ht=>s2 t (p2.mem_iff.mp ht):∀t∈eK (ts.drop (ts.length/2)),t∈ts) g) (ba (Ad t1) hh) (by refine(p1.length_eq ..).symm▸(p2.length_eq ..).symm▸(l1 ..).symm▸(l2 ..).symm▸(a4 ..).symm▸?_;exact hk'))))] (by kernel_rfl)
section
variable {n:Nat}
theorem oM{s t:T}(hs:s.dp≤64)(ht:t.dp≤64):iI .Eq (a9 s) (a9 t)=some (lQ s t):=by
 have:iI .Eq (a9 s) (a9 t)=nj .Eq (a9 s) (a9 t):=by induction s using T.casesOn<;>rfl
 refine this ..▸im ..▸?_;exact KO hs ht
theorem pY{s t:T}(hs:s.dp≤64)(ht:t.dp≤64):iI .NotEq (a9 s) (a9 t)=some (!lQ s t):=by
 have:iI .NotEq (a9 s) (a9 t)=nj .NotEq (a9 s) (a9 t):=by induction s using T.casesOn<;>rfl
 refine this ..▸im ..▸?_;show(if SeqAt.shaped (a9 s)&&SeqAt.shaped (a9 t)then some (!aO (a9 s) (a9 t))else none)=_;refine(ia hs ..).symm▸(ia ht ..).symm▸(mE ..).symm▸?_;rfl
theorem F3(x:T){xs:List T}:tS (.tuple (aL (x::xs))) (some (.int 1)) none=some (.tuple (aL xs)):=by
 show(if(1:Int)≤1∧(1:Int)≤((aL (x::xs)).length:Int)then some (dB ((aL (x::xs)).drop 1))else none)=_;rw[if_pos ⟨e8 _,Int.ofNat_le.mpr (bh (a7 _))⟩];rfl
theorem rq(hn:1≤n){t:T}(h:t≠.prod []):bU n (ofString "number_and_rest") [a9 t] (.tuple [rt t.split.1,a9 t.split.2]):=by
 induction t using T.casesOn with
 |prod ts=>induction ts using am with
  |nil=>exact absurd rfl h
  |cons a r=>induction a using T.casesOn with
   |num i=>induction r using am with
    |nil=>exact aT (pos hn) bP [] (by kernel_rfl)
    |cons t r=>induction r using am with
     |nil=>exact aT (pos hn) bP [] (by kernel_rfl)
     |cons u r=>exact aT (pos hn) bP [(17,F.d (F3 (.num i) (xs:=t::u::r)))] (by kernel_rfl)
   |sym _=>exact aT (pos hn) bP [] (by kernel_rfl)
   |sum _=>exact aT (pos hn) bP [] (by kernel_rfl)
   |prod _=>exact aT (pos hn) bP [] (by kernel_rfl)
   |pow _ _=>exact aT (pos hn) bP [] (by kernel_rfl)
   |call _=>exact aT (pos hn) bP [] (by kernel_rfl)
 |num _=>exact aT (pos hn) bP [] (by kernel_rfl)
 |sym _=>exact aT (pos hn) bP [] (by kernel_rfl)
 |sum _=>exact aT (pos hn) bP [] (by kernel_rfl)
 |pow _ _=>exact aT (pos hn) bP [] (by kernel_rfl)
 |call _=>exact aT (pos hn) bP [] (by kernel_rfl)
theorem yT(i:Int):SeqAt.shaped (rt i)=true:=by simp[rt,SeqAt.shaped,bN,bo,ed,cf]
theorem rW(i j:Int):iI .Eq (rt i) (rt j)=some (i==j):=by
 show nj .Eq (rt i) (rt j)=_;refine im ..▸?_;show Fn _ _=_;unfold Fn;rw[yT,yT];simp[rt,jp,fW,lN,jq]
theorem Lu{xs ys:List ab}(h:xs.length+ys.length≤1001):jE .Add (.tuple xs) (.tuple ys)=some (.tuple (xs++ys)):=if_pos (j4 (aa h (by decide)))
theorem kH(hn:2≤n)(i:Int){t:T}(hd:t.dp≤64)(hl:(f8 t).length≤1000):bU n (ofString "with_number") [rt i,a9 t] (a9 (dT i t)):=by
 have rn:=gH (fz 1 hn) i;have c1:=oM (t:=.num 1) hd (by decide)
 induction h0:(i==0)with
 |true=>
  refine(show dT i t=.num i from if_pos (.inl (beq_iff_eq.mp h0))).symm▸?_;exact aT (pos hn) d7 [(2,F.b (h0)),(1,ar (rn))] (by kernel_rfl)
 |false=>induction q:lQ t (.num 1)with
  |true=>
   refine(show dT i t=.num i from if_pos (.inr q)).symm▸?_;exact aT (pos hn) d7 [(2,F.b (h0)),(0,bx (c1.trans (so q))),(2,ar (rn))] (by kernel_rfl)
  |false=>
   have hq:¬ (i=0∨lQ t (.num 1)=true):=λw=>w.elim (beq_eq_false_iff_ne.mp h0) λw=>absurd (q.symm.trans w) aR
   induction h1:(i==1)with
   |true=>
    refine(show dT i t=t from(if_neg hq).trans (if_pos (beq_iff_eq.mp h1))).symm▸?_;exact aT (pos hn) d7 [(2,F.b (h0)),(0,bx (c1.trans (so q))),(2,bx ((rW i 1).trans (so h1)))] (by kernel_rfl)
   |false=>
    have e:dT i t=.prod (.num i::f8 t):=(if_neg hq).trans (if_neg (beq_eq_false_iff_ne.mp h1));refine e ..▸?_
    induction t using T.casesOn with
    |prod l=>exact aT (pos hn) d7 [(2,F.b (h0)),(0,bx (c1.trans (so q))),(2,bx ((rW i 1).trans (so h1))),(1,ar (rn)),(4,F.d (Lu (xs:= [dl i]) (ys:=aL l) (by refine cr ..▸fV ..▸?_;exact bh hl)))] (by kernel_rfl)
    |num _=>exact aT (pos hn) d7 [(2,F.b (h0)),(0,bx (c1.trans (so q))),(2,bx ((rW i 1).trans (so h1))),(1,ar (rn))] (by kernel_rfl)
    |sym _=>exact aT (pos hn) d7 [(2,F.b (h0)),(0,bx (c1.trans (so q))),(2,bx ((rW i 1).trans (so h1))),(1,ar (rn))] (by kernel_rfl)
    |sum _=>exact aT (pos hn) d7 [(2,F.b (h0)),(0,bx (c1.trans (so q))),(2,bx ((rW i 1).trans (so h1))),(1,ar (rn))] (by kernel_rfl)
    |pow _ _=>exact aT (pos hn) d7 [(2,F.b (h0)),(0,bx (c1.trans (so q))),(2,bx ((rW i 1).trans (so h1))),(1,ar (rn))] (by kernel_rfl)
    |call _=>exact aT (pos hn) d7 [(2,F.b (h0)),(0,bx (c1.trans (so q))),(2,bx ((rW i 1).trans (so h1))),(1,ar (rn))] (by kernel_rfl)
theorem IH(xs ys:List T):(aL xs).map B.v++(aL ys).map B.v=(aL (xs++ys)).map B.v:=by exact nB ..▸bS ..▸rfl
noncomputable def Pn(ts fs:List T)(k:Str)(z:Option B):St:=⟨[(ofString "parts",some (.v (.list (aL ts)))),(ofString "kind",some (.v (.str k))),(ofString "found",some (.l 0)),(ofString "part",z)],[some (.lst ((aL fs).map .v))]⟩
theorem Ae{fs l:List T}(h:(fs++l).length≤1000):jz (((aL fs).map B.v).length+(aL l).length)=true:=j4 (by refine(aN ..).symm▸(cr ..).symm▸(cr ..).symm▸(aj ..)▸?_;exact aa h (by decide))
theorem j5{fs:List T}{u:T}(h:(fs++ [u]).length≤1000):jz (((aL fs).map B.v).length+1)=true:=Ae (l:= [u]) h
theorem Du{ts:List T}:∀(us fs:List T)(z:Option B),(fs++cv us).length≤1000→
  ∃z',fO (Call n) (ofString "flat_parts") (bY 50) [1] (aL us) (Pn ts fs (ofString "sum") z) .next (Pn ts (fs++cv us) (ofString "sum") z'):=by
 intro us
 induction us with
 |nil=>exact λfs z _=>⟨z,by refine(show cv []= []from rfl).symm▸aF ..▸?_;exact⟨rfl,rfl⟩⟩
 |cons u us ih=>
  intro fs z h;rw[show cv (u::us)=gu u++cv us from rfl,←aw]at h⊢;refine aY (ih (fs++gu u) (some (.v (a9 u))) h) λz' r=>?_;have h1:(fs++gu u).length≤1000:=aa (by refine aj (bs:=cv us) ..▸?_;exact ao _ _) h;refine⟨z',.next ?_ r⟩
  induction u using T.casesOn with
  |sum l=>exact le [(7,F.b (Ae h1)),(0,F.cl (congrArg bE.lst (IH fs l)))] (by kernel_rfl)
  |num i=>exact le [(5,F.b (j5 h1)),(0,F.cl (congrArg bE.lst (fP fs (.num i))))] (by kernel_rfl)
  |sym i=>exact le [(5,F.b (j5 h1)),(0,F.cl (congrArg bE.lst (fP fs (.sym i))))] (by kernel_rfl)
  |prod i=>exact le [(5,F.b (j5 h1)),(0,F.cl (congrArg bE.lst (fP fs (.prod i))))] (by kernel_rfl)
  |pow b i=>exact le [(5,F.b (j5 h1)),(0,F.cl (congrArg bE.lst (fP fs (.pow b i))))] (by kernel_rfl)
  |call i=>exact le [(5,F.b (j5 h1)),(0,F.cl (congrArg bE.lst (fP fs (.call i))))] (by kernel_rfl)
theorem ip(hn:1≤n){ts:List T}(hf:(cv ts).length≤1000):bU n (ofString "flat_parts") [.list (aL ts),.str (ofString "sum")] (.list (aL (cv ts))):=by
 refine aY (Du (n:=n-1) (ts:=ts) ts [] none hf) λz' r=>?_;exact aT (pos hn) sX [(2,F.loop (r)),(1,F.d (f9 (cv ts)))] (by kernel_rfl)
end
noncomputable def ko(g:Int→ab)(c:gw):List (ab×ab):=c.map λp=>(a9 p.1,g p.2)
noncomputable abbrev F4:=ko rt
noncomputable def OT(c:gw):Prop:=∀p∈c,p.1.dp≤8∧(f8 p.1).length≤900
theorem II{t:T}(h:t.dp≤8):iH (a9 t)=true:=by
 unfold iH;refine(qz ..).symm▸(ni ..).symm▸(dt h ..).symm▸?_
 induction t using T.casesOn<;>rfl
section
variable {g:Int→ab}
theorem IJ{c:gw}{t:T}(hc:∀p∈c,p.1.dp≤8)(ht:t.dp≤8):vx (ko g c) (a9 t)=true:=by
 refine zI ..▸?_;unfold cP;refine(II ht ..).symm▸(jb ..).symm▸(dU ..).symm▸?_;refine .inr (aM.mpr λp hp=>?_);refine aG (List.mem_map.mp hp) λq hq z1=>?_;obtain rfl:=z1;exact II (hc q hq)
theorem pZ{c:gw}{t:T}(hc:OT c)(ht:t.dp≤8):vx (ko g c) (a9 t)=true:=IJ (λp hp=>(hc p hp).1) ht
theorem Dv(c:gw)(t:T):gE (ko g c) (a9 t)=(di c t).map g:=by
 induction c with
 |nil=>rfl
 |cons p r ih=>
  unfold gE at ih⊢;rw[qH.2];show((_::ko g r).find? _).map _=_;refine List.find?_cons ..▸?_;refine(mE ..).symm▸?_
  induction lQ p.1 t with
  |true=>rfl
  |false=>exact ih
theorem IK(c:gw)(t:T)(i:Int):(gE (ko g c) (a9 t)).getD (g i)=g ((di c t).getD i):=by
 refine(Dv ..).symm▸?_;induction di c t<;>rfl
theorem OU(c:gw)(t:T):((ko g c).any λp=>aO p.1 (a9 t))=c.any λp=>lQ p.1 t:=by
 rw[ko,List.any_map];exact congrArg (c.any ·) (funext λp=>mE p.1 t)
theorem IL(c:gw)(t:T)(i:Int):m9 (ko g c) (a9 t) (g i)=ko g (rU c t i):=by
 unfold m9 rU;refine(OU ..).symm▸?_;split
 ·rw[ko,ko,bZ,bZ];refine bp λp _=>?_;show(if aO (a9 p.1) (a9 t)=true then _ else _)=_;refine mE ..▸?_;show _=(a9 (if lQ p.1 t=true then(p.1,i)else p).1,g (if lQ p.1 t=true then(p.1,i)else p).2);split<;>rfl
 ·rw[ko,ko,bS];rfl
theorem NE(c:gw)(t:T):sF (ko g c) (a9 t)=ko g (mY c t):=by
 unfold sF mY ko;refine List.filter_map ..▸?_;refine congrArg _ (vm λp _=>?_);show(!aO (a9 p.1) (a9 t))=_;exact mE ..▸rfl
theorem Mo(c:gw):(ko g c).length=c.length:=aN _
end
noncomputable def T.kind:T→Str
 |.num _=>ofString "num"|.sym _=>ofString "sym"|.sum _=>ofString "sum"|.prod _=>ofString "prod"|.pow _ _=>ofString "pow"|.call _=>ofString "call"
theorem dO(t:T):uX (a9 t) (.int 0)=some (.str t.kind):=by induction t using T.casesOn<;>rfl
theorem IM(t:T):iI .Eq (.str t.kind) (.str (ofString "sum"))=some t.isSum:=by induction t using T.casesOn<;>rfl
theorem IN{l:List T}{h:Nat}(h0:0<h)(hl:∀t∈l,t.ht<h):tO l<h:=
 ba ((t7 (k:=h-1)).mpr λt ht=>bI (hl t ht)) (Nat.sub_lt h0 Nat.one_pos)
theorem EO{xs ys:List ab}(h:xs.length+ys.length≤1001):jE .Add (.list xs) (.list ys)=some (.list (xs++ys)):=if_pos (j4 (aa h (by decide)))
theorem nI(xs ys:List T)(h:(xs++ys).length≤1001):jE .Add (.list (aL xs)) (.list (aL ys))=some (.list (aL (xs++ys))):=by
 rw[EO (by rw[cr,cr,←aj];exact h),nB]
theorem wZ{c:gw}{t:T}{i:Int}{a m:Nat}(ha:i.natAbs+a≤m)(hb:∀p∈c,p.2.natAbs+(i.natAbs+a)≤m):((di c t).getD 0).natAbs+(i.natAbs+a)≤m:=by
 induction q:di c t with
 |none=>exact(ce _).symm▸ha
 |some i=>exact hb _ (gL q)
theorem w5{c:gw}{t:T}{i:Int}{a m:Nat}(ha:i.natAbs+a≤m)(hb:∀p∈c,p.2.natAbs+(i.natAbs+a)≤m):∀p∈jt c t i,p.2.natAbs+a≤m:=λp hp=>by
 rcases nH hp with h|rfl
 ·exact aa (bM (aD _ _) _) (hb p h)
 ·exact aa (iB (Int.natAbs_add_le _ _) a) (by refine bz ..▸?_;exact wZ ha hb)
theorem uj{c:gw}{t:T}{i:Int}{l m:Nat}(h:c.length+(l+1)≤m):(jt c t i).length+l≤m:=
 aa (iB (IE c t _) l) (by refine bz ..▸fV 1 ..▸?_;exact h)
theorem Mp{i:Int}{a m:Nat}(h:i.natAbs+a≤m)(hm:m<2^64):Sm i:=ba (aa (ao _ _) h) hm
theorem qI{k:Nat}{m:Nat}(h:k≤m)(hm:Nat.ble m 1048576=true:=by rfl):jz k=true:=j4 (aa h (kC hm))
section
variable {n:Nat}
noncomputable def QD(ts:List T)(c:gw)(x y z:Option B):St:=⟨[(ofString "parts",some (.v (.list (aL ts)))),(ofString "counts",some (.l 0)),(ofString "part",x),(ofString "r",y),(ofString "rest",z),(ofString "number",none),(ofString "found",none)],[some (.dct (F4 c))]⟩
theorem Lv{ts:List T}(hn:4≤n){m:Nat}(hm:m<2^64):∀(us:List T)(c:gw)(x y z:Option B),(∀u∈us,u≠.prod []∧(f8 u).length≤900∧(f8 u.split.2).length≤900∧u.dp≤8)→OT c→wY us≤m→(∀p∈c,p.2.natAbs+wY us≤m)→c.length+us.length≤900→
  ∃x' y' z' c',c'=us.foldl (λc t=>jt c t.split.2 t.split.1) c∧OT c'∧c'.length≤900∧fO (Call n) (ofString "gathered_sum") (bY 51) [1] (aL us) (QD ts c x y z) .next (QD ts c' x' y' z'):=by
 intro us
 induction us with
 |nil=>exact λc x y z hp hk ha hb hl=>G7 x y z c rfl hk hl rfl rfl
 |cons u us ih=>
  intro c x y z hp hk ha hb hl;refine eL (hp u (.head _)) λp1 p2 p4 p3=>?_;have hd:u.split.2.dp≤8:=aa (BF u) p3;rw[(rfl:wY (u::us)=u.split.1.natAbs+wY us)]at ha hb;obtain⟨x',y',z',c',e1,e2,e3,h⟩:=ih (jt c u.split.2 u.split.1) (some (.v (a9 u))) (some (.v (rt u.split.1))) (some (.v (a9 u.split.2))) (λv hv=>hp v (.tail _ hv)) (λp h=>by
    rcases nH h with h|rfl
    ·exact hk p h
    ·exact⟨hd,p4⟩) (aa (aD _ _) ha) (w5 ha hb) (uj hl)
  refine Kg x' y' z' c' e1 e2 e3 (.next ?_ h);exact le [(0,ar (rq (n:=n) (aa (by decide) hn) p1)),(2,F.b (pZ (g:=rt) hk hd)),(0,F.x (IK (g:=rt) c u.split.2 0)),(0,ar (Iy (n:=n) (aa (by decide) hn) (Mp (i:=(di c u.split.2).getD 0) (wZ ha hb) hm) (Mp (i:=u.split.1) ha hm))),(1,F.b (pZ (g:=rt) hk hd)),(0,F.b (qI (k:=(F4 c).length) (by rw[Mo];exact aa (ao _ _) hl))),(0,F.cl (congrArg bE.dct (IL (g:=rt) c u.split.2 ((di c u.split.2).getD 0+u.split.1))))] (by kernel_rfl)
noncomputable def QE(x y:Option B):St:=⟨[(ofString "rest",x),(ofString "r",y)],[none]⟩
theorem Lw(hn:2≤n):∀(ds:gw)(acc:List ab)(x y:Option B),OT ds→
  ∃x' y',fh (Call n) (bY 51) [3] [] 13 ((F4 ds).map λp=>.tuple [p.1,p.2]) acc (QE x y) (acc++aL ((ds.filter λp=>!(p.2==0)).map λp=>dT p.2 p.1)) (QE x' y'):=by
 intro ds
 induction ds with
 |nil=>exact λacc x y _=>kS x y ((aF _).symm) rfl
 |cons p ds ih=>
  intro acc x y hk;have ih:=λacc=>ih acc (some (.v (a9 p.1))) (some (.v (rt p.2))) λq hq=>hk q (.tail _ hq);refine bk ..▸?_
  induction q:(p.2==0)with
  |true=>
   refine fe (ih acc) λx' y' r=>?_;refine ik x' y' (.cons ?_ r);exact le [(2,F.b (nf q))] (by kernel_rfl)
  |false=>
   refine fe (ih (acc++ [a9 (dT p.2 p.1)])) λx' y' r=>?_;rw[aw]at r;refine ik x' y' (.cons ?_ r);have⟨k1,k2⟩:=hk p (.head _);exact le [(2,F.b (nt q)),(1,ar (kH hn p.2 (t:=p.1) (aa k1 (by decide)) (aa k2 (by decide))))] (by kernel_rfl)
theorem Lx:∀(us:List T)(x:Option B),(∀u∈us,u.isSum=false)→∃x',fh (Call n) (bY 51) [4] [0,1] 10 (aL us) [] ⟨[(ofString "one",x)],[none]⟩ [] ⟨[(ofString "one",x')],[none]⟩:=by
 intro us
 induction us with
 |nil=>exact λx _=>aV x rfl rfl
 |cons u us ih=>
  intro x h;refine aY (ih (some (.v (a9 u))) λv hv=>h v (.tail _ hv)) λx' r=>?_;refine⟨x',.cons ?_ r⟩;exact le [(0,F.d (dO u)),(0,bx ((IM u).trans (so (h u (.head _)))))] (by kernel_rfl)
theorem Ly(c:gw):(gE (F4 c) (dl 1)).getD (rt 0)=rt ((di c (.num 1)).getD 0):=IK c (.num 1) 0
theorem qJ(c:gw):sF (F4 c) (dl 1)=F4 (mY c (.num 1)):=NE c (.num 1)
theorem nJ{h k:Nat}{ts:List T}(h0:0<h)(hn:4*h+4+k≤n)(hk2:(ie ts).length≤2^k)(hf:(cv ts).length≤900)(hp:∀t∈cv ts,t≠.prod []∧(f8 t).length≤900∧(f8 t.split.2).length≤900∧t.dp≤8)(ha:wY (cv ts)<2^64)
  (hr:∀t∈ie ts,Gd t∧t.ht<h∧t.isSum=false):bU n (ofString "gathered_sum") [.list (aL ts)] (a9 (km ts)):=by
 have hn1:4*h+3+k≤n-1:=bI (dc (by refine cL ..▸?_;exact fg _) (cL (4*h) 4 k▸hn));have hn7:7≤n-1:=aa (aa (iB (eN 4 h0) 3) (ao _ _)) hn1;have hn:1≤n:=aa (aD 1 _) (aa (bM (by decide:1≤4) (4*h)) (aa (ao _ k) hn));refine G5 (Lv (ts:=ts) (aa (by decide) hn7:4≤n-1) ha (cv ts) [] none none none hp (λp h=>by exact cg h) (ak _) (λp h=>by cases h) ((ce _).symm▸hf)) λx y z c ec kc lc r=>?_;have ec:c=rj (cv ts):=ec;refine fe (Lw (n:=n-1) (aa (by decide) hn7) (mY c (.num 1)) [] none none (λp hp=>kc p (List.mem_filter.mp hp).1:OT (mY c (.num 1)))) λx2 y2 r2=>?_;have eR:(((mY c (.num 1)).filter λp=>!(p.2==0)).map λp=>dT p.2 p.1)=ie ts:=by refine ec ..▸?_;rfl
 rw[eR,bL]at r2;refine aY (Lx (n:=n-1) (ie ts) none λu hu=>(hr u hu).2.2) λx3 r3=>?_;have lr:(ie ts).length≤900:=by
  refine(eR ..)▸(aN ..).symm▸?_;exact aa (fk _ _) (aa (fk _ _) lc)
 have r4:=pX k (n-1) (ie ts) hk2 (ba lr (by decide)) hn1 (jr.mpr λt ht=>(hr t ht).1) (IN h0 λt ht=>(hr t ht).2.1);have r5:=gH (n:=n-1) (aa (by decide) hn7) (mn ts);have sl:(eK (ie ts)).length≤900:=by refine((fK _).length_eq ..).symm▸?_;exact lr
 have p1:=Ly c;rw[show(di c (.num 1)).getD 0=mn ts by refine ec ..▸?_;rfl]at p1;have key:∀xs,km ts=ph (eK (ie ts)++xs)→mn ts=0∧xs= []∨mn ts≠0∧xs= [.num (mn ts)]→bU n (ofString "gathered_sum") [.list (aL ts)] (a9 (km ts)):=λxs e hx=>by
  have la:(eK (ie ts)++xs).length≤1001:=by
   refine aj ..▸?_;refine aa (jV sl (?_:_≤1)) (by decide);rcases hx with⟨_,rfl⟩|⟨_,rfl⟩
   ·exact a7 _
   ·exact ak _
  have r6:=nI (eK (ie ts)) xs la;refine e ..▸?_
  generalize hL:eK (ie ts)++xs=L at r6
  have q:(mn ts==0)=true∧xs= []∨(mn ts==0)=false∧xs= [.num (mn ts)]:=hx.imp (λw=>⟨beq_iff_eq.mpr w.1,w.2⟩) (λw=>⟨beq_eq_false_iff_ne.mpr w.1,w.2⟩);rcases q with⟨q,rfl⟩|⟨q,rfl⟩
  ·induction L using am with
   |nil=>exact aT (pos hn) f7 [(1,ar (ip (n:=n-1) (aa (by decide) hn7) (ts:=ts) (aa hf (by decide)))),(1,F.loop (r)),(2,F.b (pZ (g:=rt) (t:=.num 1) kc (by decide))),(0,F.x (p1)),(0,F.cl (congrArg bE.dct (qJ c))),(4,F.comp (r2)),(1,F.comp (r3)),(3,ar (r4)),(2,F.b (nf q)),(0,F.d (r6))] (by kernel_rfl)
   |cons t L=>induction L using am with
    |nil=>exact aT (pos hn) f7 [(1,ar (ip (n:=n-1) (aa (by decide) hn7) (ts:=ts) (aa hf (by decide)))),(1,F.loop (r)),(2,F.b (pZ (g:=rt) (t:=.num 1) kc (by decide))),(0,F.x (p1)),(0,F.cl (congrArg bE.dct (qJ c))),(4,F.comp (r2)),(1,F.comp (r3)),(3,ar (r4)),(2,F.b (nf q)),(0,F.d (r6))] (by kernel_rfl)
    |cons u L=>exact aT (pos hn) f7 [(1,ar (ip (n:=n-1) (aa (by decide) hn7) (ts:=ts) (aa hf (by decide)))),(1,F.loop (r)),(2,F.b (pZ (g:=rt) (t:=.num 1) kc (by decide))),(0,F.x (p1)),(0,F.cl (congrArg bE.dct (qJ c))),(4,F.comp (r2)),(1,F.comp (r3)),(3,ar (r4)),(2,F.b (nf q)),(0,F.d (r6))] (by kernel_rfl)
  ·induction L using am with
   |nil=>exact aT (pos hn) f7 [(1,ar (ip (n:=n-1) (aa (by decide) hn7) (ts:=ts) (aa hf (by decide)))),(1,F.loop (r)),(2,F.b (pZ (g:=rt) (t:=.num 1) kc (by decide))),(0,F.x (p1)),(0,F.cl (congrArg bE.dct (qJ c))),(4,F.comp (r2)),(1,F.comp (r3)),(3,ar (r4)),(2,F.b (nt q)),(0,ar (r5)),(0,F.d (r6))] (by kernel_rfl)
   |cons t L=>induction L using am with
    |nil=>exact aT (pos hn) f7 [(1,ar (ip (n:=n-1) (aa (by decide) hn7) (ts:=ts) (aa hf (by decide)))),(1,F.loop (r)),(2,F.b (pZ (g:=rt) (t:=.num 1) kc (by decide))),(0,F.x (p1)),(0,F.cl (congrArg bE.dct (qJ c))),(4,F.comp (r2)),(1,F.comp (r3)),(3,ar (r4)),(2,F.b (nt q)),(0,ar (r5)),(0,F.d (r6))] (by kernel_rfl)
    |cons u L=>exact aT (pos hn) f7 [(1,ar (ip (n:=n-1) (aa (by decide) hn7) (ts:=ts) (aa hf (by decide)))),(1,F.loop (r)),(2,F.b (pZ (g:=rt) (t:=.num 1) kc (by decide))),(0,F.x (p1)),(0,F.cl (congrArg bE.dct (qJ c))),(4,F.comp (r2)),(1,F.comp (r3)),(3,ar (r4)),(2,F.b (nt q)),(0,ar (r5)),(0,F.d (r6))] (by kernel_rfl)
 by_cases q:mn ts=0
 ·exact key [] (by unfold km;exact if_pos q ..▸rfl) (.inl ⟨q,rfl⟩)
 ·exact key [.num (mn ts)] (by unfold km;exact if_neg q ..▸rfl) (.inr ⟨q,rfl⟩)
end
section
variable {n:Nat}
theorem w6(hn:1≤n)(t:T):bU n (ofString "is_one_call") [a9 t,.str (ofString "exp")] (.bool false):=by
 induction t using T.casesOn<;>exact aT (pos hn) ye [] (by kernel_rfl)
theorem tm(hn:2≤n)(t:T):bU n (ofString "as_power") [a9 t] (.tuple [a9 (be t).1,dl (be t).2]):=by
 have r:=w6 (fz 1 hn) t
 induction t using T.casesOn with
 |pow b i=>exact aT (pos hn) jK [] (by kernel_rfl)
 |num i=>exact aT (pos hn) jK [(3,ar (r))] (by kernel_rfl)
 |sym i=>exact aT (pos hn) jK [(3,ar (r))] (by kernel_rfl)
 |sum i=>exact aT (pos hn) jK [(3,ar (r))] (by kernel_rfl)
 |prod i=>exact aT (pos hn) jK [(3,ar (r))] (by kernel_rfl)
 |call i=>exact aT (pos hn) jK [(3,ar (r))] (by kernel_rfl)
theorem NF{a:Int}{j:Nat}(ha:Sm a)(h:j≤5000):jE .Pow (.int a) (.int (j:Nat))=some (.int (a^j)):=by
 show(if(pB a&&decide ((0:Int)≤(j:Nat))&&decide (((j:Nat):Int)≤5000))=true then some (bX (a^((j:Nat):Int).toNat))else none)=_;refine(ha.s ..).symm▸(dt (dG _) ..).symm▸(dt (p:=((j:Nat):Int)≤5000) (Int.ofNat_le.mpr h) ..).symm▸(cE ..).symm▸?_;rfl
theorem pow_two{j:Nat}(h:64≤j)(h':j≤5000):∃z:Int,jE .Pow (.int 2) (.int (j:Nat))=some (.int z)∧∀M:Nat,M<2^64→decide ((M:Int)≥z)=false:=by
 refine aV _ (NF (by unfold Sm;decide) h') (λM hM=>df λw=>?_);rw[show((2:Int)^j)=((2^j:Nat):Int)from(Int.natCast_pow 2 j).symm]at w;exact g9 _ (dc hM (aa (dJ (by decide) h) (Int.ofNat_le.mp w)))
noncomputable def w7(m f:Nat)(x y:Option B):St:=⟨[(ofString "n",some (.v (.int m))),(ofString "found",some (.v (.int f))),(ofString "many",x),(ofString "step",y)],[]⟩
theorem OV(M:Nat):jE .FloorDiv (.int M) (.int 2)=some (.int ((M/2:Nat):Int)):=by refine(Mn ..)▸?_;rfl
theorem F5:∀(k M e W:Nat),1≤M→M<2^k→e+k≤64→k<W→∃e',e'≤64∧kF (Call n) (ofString "bits_of") (bY 4) [1,1] W (w7 M e (some (.v (.int 1))) (some (.v (.int 2)))) .next (w7 1 e' (some (.v (.int 1))) (some (.v (.int 2)))):=by
 intro k
 induction k with
 |zero=>exact λM e W h1 h2=>absurd (ba h1 h2) (g9 1)
 |succ k ih=>
  intro M e W h1 h2 h3 h4
  induction W using cZ with
  |zero=>cases h4
  |succ W=>
   by_cases q:2≤M
   ·refine aG (ih (M/2) (e+1) W (Nat.div_le_div_right (c:=2) q) (Nat.div_lt_of_lt_mul (by refine qu ..▸(vG ..)▸?_;exact h2)) (by refine bz ..▸fV 1 ..▸?_;exact h3) (cp h4)) λe' g1 r=>?_;refine aV e' g1 (.next ?_ r);exact le [(1,F.b (show decide ((M:Int)≥2)=true from dt (Int.ofNat_le.mpr q))),(0,F.d (OV M))] (by kernel_rfl)
   ·have eM:M=1:=aC (ij (Nat.lt_of_not_le q)) h1;subst eM;refine aV e (aa (ao _ _) h3) (.done (l:= []) ?_);exact le [] (by kernel_rfl)
theorem u7(hn:1≤n){M:Nat}(h1:1≤M)(h2:M<2^64):∃e:Nat,e≤64∧bU n (ofString "bits_of") [.int M] (.int ((e:Int)+1)):=by
 refine aG (pow_two (j:=4096) (by decide) (by decide)) λz ez lz=>?_;refine aG (pow_two (j:=64) (by decide) (by decide)) λy ey ly=>?_;refine aG (F5 (n:=n-1) 64 M 0 1000 h1 h2 (ak _) (by decide)) λe le1 re1=>?_;refine aV e le1 ?_;have w1:kF (Call (n-1)) (ofString "bits_of") (bY 4) [1,1] 1000 (w7 M 0 (some (.v (.int 4096))) (some (.v (.int z)))) .next (w7 M 0 (some (.v (.int 4096))) (some (.v (.int z)))):=by
  refine .done (l:= []) (W:=999) ?_;exact le [(1,F.b (lz M h2))] (by kernel_rfl)
 have w2:kF (Call (n-1)) (ofString "bits_of") (bY 4) [1,1] 1000 (w7 M 0 (some (.v (.int 64))) (some (.v (.int y)))) .next (w7 M 0 (some (.v (.int 64))) (some (.v (.int y)))):=by
  refine .done (l:= []) (W:=999) ?_;exact le [(1,F.b (ly M h2))] (by kernel_rfl)
 have f:fO (Call (n-1)) (ofString "bits_of") (bY 4) [1] [.int 4096,.int 64,.int 1] (w7 M 0 none none) .next (w7 1 e (some (.v (.int 1))) (some (.v (.int 2)))):=by
  refine .next (s:=w7 M 0 (some (.v (.int 4096))) (some (.v (.int z)))) ?_ (.next (s:=w7 M 0 (some (.v (.int 64))) (some (.v (.int y)))) ?_ (.next (s:=w7 1 e (some (.v (.int 1))) (some (.v (.int 2)))) ?_ ⟨rfl,rfl⟩))
  ·exact le [(0,F.d (ez)),(0,GP (w1))] (by kernel_rfl)
  ·exact le [(0,F.d (ey)),(0,GP (w2))] (by kernel_rfl)
  ·exact le [(1,GP (re1))] (by kernel_rfl)
 exact aT (pos hn) FL [(1,F.loop (f))] (by kernel_rfl)
theorem pow_one{j:Nat}(h:j≤5000):jE .Pow (.int 1) (.int (j:Nat))=some (.int 1):=by exact(NF .one h ..).symm▸(Int.one_pow ..).symm▸rfl
theorem vP{M:Nat}(h:1≤M):Pj (ofString "max") [.int (((M:Int).natAbs:Nat):Int),.int 1]=some (.int M):=by
 exact congrArg (λx=>some (bX x)) (if_neg (λw=>absurd (Int.ofNat_lt.mp w) (Nat.not_lt.mpr h)))
theorem IP{j:Nat}(h:j≤5000):Sm j:=ba h (by decide)
theorem Dw(hn:2≤n){M j:Nat}(h1:1≤M)(h2:M<2^64)(h3:1≤j)(h4:j≤1000):bU n (ofString "rpower") [rt M,.int j] (rt ((M:Int)^j)):=by
 have h5:j≤5000:=aa h4 (by decide);have p1:=NF (a:=(M:Int)) (j:=j) h2 h5
 induction q1:decide ((j:Int)>1)with
 |false=>exact aT (pos hn) wI [(5,F.d (vP h1)),(1,F.b (q1)),(2,F.d (p1)),(1,F.d (pow_one h5))] (by kernel_rfl)
 |true=>induction q2:decide ((M:Int)>1)with
  |false=>exact aT (pos hn) wI [(5,F.d (vP h1)),(1,F.b (q1)),(1,F.b (q2)),(2,F.d (p1)),(1,F.d (pow_one h5))] (by kernel_rfl)
  |true=>
   refine aG (u7 (n:=n-1) (fz 1 hn) h1 h2) λe le1 re1=>?_;exact aT (pos hn) wI [(5,F.d (vP h1)),(1,F.b (q1)),(1,F.b (q2)),(0,ar (re1)),(0,F.d ((Iw (a:=(j:Int)) (b:=(e:Int)+1) (IP h5) (IP (j:=e+1) (aa (bh le1) (by decide)))))),(1,F.b ((df λw=>absurd (Int.ofNat_lt.mp (show((200000:Nat):Int)<((j*(e+1):Nat):Int)from w)) (Nat.not_lt.mpr (aa (bG h4 (bh le1)) (by decide))):decide ((j:Int)*((e:Int)+1)>200000)=false))),(2,F.d (p1)),(1,F.d (pow_one h5))] (by kernel_rfl)
theorem Dx(i:Int):(T.num i).dp≤64:=by show 1≤64;decide
theorem en(i j:Int):iI .Eq (dl i) (dl j)=some (i==j):=oM (s:=.num i) (t:=.num j) (Dx _) (Dx _)
theorem IQ{i j:Int}(h:i≠j):(i==j)=false:=beq_eq_false_iff_ne.mpr h
theorem uk{i:Int}(h:1≤i):(i==0)=false:=IQ (λe=>by subst e;exact absurd h (by decide))
theorem ul(hn:3≤n){i j:Int}(h1:1≤i)(h2:Sm i)(h3:1≤j)(h4:j≤1000):bU n (ofString "number_power") [dl i,dl j] (dl (i^j.toNat)):=by
 refine aY (eF (cK (by decide) h1)) λM z1=>?_;obtain rfl:=z1;refine aY (eF (cK (by decide) h3)) λk z2=>?_;obtain rfl:=z2;refine cE ..▸?_
 induction q:((M:Int)==1)with
 |true=>
  refine(beq_iff_eq.mp q ..).symm▸(Int.one_pow ..).symm▸?_;exact aT (pos hn) pM [(0,bx (en 1 1))] (by kernel_rfl)
 |false=>exact aT (pos hn) pM [(0,bx ((en M 1).trans (so q))),(4,bx ((en M 0).trans (so (uk h1)))),(7,ar (Dw (fz 2 hn) (Int.ofNat_le.mp h1) h2 (Int.ofNat_le.mp h3) (Int.ofNat_le.mp h4))),(0,ar (gH (fz 1 hn) ((M:Int)^k)))] (by kernel_rfl)
theorem Dy:SeqAt.shaped (.tuple [.str (ofString "call"),.str (ofString "exp"),.tuple [.tuple [.str (ofString "num"),.int 1,.int 1]]])=true:=by decide+kernel
theorem qK{b:T}(h:b.dp≤64):iI .Eq (a9 b) (.tuple [.str (ofString "call"),.str (ofString "exp"),.tuple [.tuple [.str (ofString "num"),.int 1,.int 1]]])=some false:=by
 have e:∀d,iI .Eq (a9 b) (.tuple d)=nj .Eq (a9 b) (.tuple d):=λd=>by induction b using T.casesOn<;>rfl
 refine e ..▸im ..▸?_;show Fn _ _=_;unfold Fn;refine(ia h ..).symm▸(Dy ..).symm▸?_;have h3:aO (a9 b) (.tuple [.str (ofString "call"),.str (ofString "exp"),.tuple [.tuple [.str (ofString "num"),.int 1,.int 1]]])=false:=by
  induction b using T.casesOn<;>simp[fy,dl,jo,lN,jp,fW,jq,kW,kX,gp]
 refine(h3 ..).symm▸?_;rfl
theorem lW(hn:2≤n){b:T}{j:Int}(hb:er b=true)(hd:b.dp≤64)(h1:1≤j):bU n (ofString "power_of") [a9 b,dl j] (a9 (md b j)):=by
 have c0:=(en j 0).trans (so (uk h1));have w:=io (fz 1 hn) (.num j);have x:=w6 (fz 1 hn) b;unfold md
 induction q:(j==1)with
 |true=>
  refine if_pos (beq_iff_eq.mp q) ..▸?_;exact aT (pos hn) fN [(0,bx (c0)),(1,bx ((en j 1).trans (so q)))] (by kernel_rfl)
 |false=>
  refine if_neg (beq_eq_false_iff_ne.mp q) ..▸?_;have c1:=(en j 1).trans (so q);rcases oK hb with⟨y,rfl⟩|⟨u,rfl⟩|⟨l,rfl⟩
  ·exact aT (pos hn) fN [(0,bx (c0)),(1,bx (c1)),(1,bx (qK hd)),(4,ar (w)),(6,ar (w)),(6,ar (w)),(2,ar (x)),(9,ar (x))] (by kernel_rfl)
  ·exact aT (pos hn) fN [(0,bx (c0)),(1,bx (c1)),(1,bx (qK hd)),(4,ar (w)),(6,ar (w)),(6,ar (w)),(2,ar (x)),(9,ar (x))] (by kernel_rfl)
  ·exact aT (pos hn) fN [(0,bx (c0)),(1,bx (c1)),(1,bx (qK hd)),(4,ar (w)),(6,ar (w)),(6,ar (w)),(2,ar (x)),(9,ar (x))] (by kernel_rfl)
theorem Dz{ts:List T}:∀(us fs:List T)(z:Option B),(fs++bu us).length≤1000→
  ∃z',fO (Call n) (ofString "flat_parts") (bY 50) [1] (aL us) (Pn ts fs (ofString "prod") z) .next (Pn ts (fs++bu us) (ofString "prod") z'):=by
 intro us
 induction us with
 |nil=>exact λfs z _=>⟨z,by refine(show bu []= []from rfl).symm▸aF ..▸?_;exact⟨rfl,rfl⟩⟩
 |cons u us ih=>
  intro fs z h;rw[show bu (u::us)=jO u++bu us from rfl,←aw]at h⊢;refine aY (ih (fs++jO u) (some (.v (a9 u))) h) λz' r=>?_;have h1:(fs++jO u).length≤1000:=aa (by refine aj (bs:=bu us) ..▸?_;exact ao _ _) h;refine⟨z',.next ?_ r⟩
  induction u using T.casesOn with
  |prod l=>exact le [(7,F.b (Ae h1)),(0,F.cl (congrArg bE.lst (IH fs l)))] (by kernel_rfl)
  |num i=>exact le [(5,F.b (j5 h1)),(0,F.cl (congrArg bE.lst (fP fs (.num i))))] (by kernel_rfl)
  |sym i=>exact le [(5,F.b (j5 h1)),(0,F.cl (congrArg bE.lst (fP fs (.sym i))))] (by kernel_rfl)
  |sum i=>exact le [(5,F.b (j5 h1)),(0,F.cl (congrArg bE.lst (fP fs (.sum i))))] (by kernel_rfl)
  |pow b i=>exact le [(5,F.b (j5 h1)),(0,F.cl (congrArg bE.lst (fP fs (.pow b i))))] (by kernel_rfl)
  |call i=>exact le [(5,F.b (j5 h1)),(0,F.cl (congrArg bE.lst (fP fs (.call i))))] (by kernel_rfl)
theorem yl(hn:1≤n){ts:List T}(hf:(bu ts).length≤1000):bU n (ofString "flat_parts") [.list (aL ts),.str (ofString "prod")] (.list (aL (bu ts))):=by
 refine aY (Dz (n:=n-1) (ts:=ts) ts [] none hf) λz' r=>?_;exact aT (pos hn) sX [(2,F.loop (r)),(1,F.d (f9 (bu ts)))] (by kernel_rfl)
theorem Af(hn:9≤n){a b:Int}(ha:1≤a)(hb:1≤b)(hs:a.natAbs+b.natAbs<2^64):bU n (ofString "gathered_sum") [.list [dl a,dl b]] (dl (a+b)):=by
 have h:=nJ (n:=n) (h:=1) (k:=0) (ts:= [.num a,.num b]) (by decide) (aa (by decide) hn) (by refine(yR ..).symm▸?_;decide) (show 2≤900 by decide) (λt ht=>by
  have ht:t∈ [T.num a,T.num b]:=ht;rcases aA.mp ht with rfl|ht
  ·exact⟨λe=>(by cases e),show 1≤900 by decide,show 1≤900 by decide,show 1≤8 by decide⟩
  ·refine(ae.mp ht ..).symm▸?_;exact⟨λe=>(by cases e),show 1≤900 by decide,show 1≤900 by decide,show 1≤8 by decide⟩) hs (by refine(yR ..).symm▸?_;intro t ht;cases ht)
 rw[F2 (λe=>by omega)]at h;exact h
end
noncomputable def yU(t:T):Prop:=(∃i,t=.num i∧1≤i)∨(t.isNum=false∧er (be t).1=true∧1≤(be t).2∧(be t).1.dp≤8)
noncomputable def mZ(ts:List T):Nat:=(ts.map λt=>(be t).2.natAbs).sum
theorem w8{k i:Int}(hk:1≤k)(hi:1≤i):k≤k*i∧i≤k*i∧1≤k*i:=by
 have a:=cH hi (cK (by decide) hk);have b:=Int.mul_le_mul_of_nonneg_right hk (cK (by decide) hi);rw[nT]at a;rw[xW]at b;exact⟨a,b,cK hk a⟩
theorem w9{k:Int}{t:T}(h:t.isNum=false):mN k t=k:=by induction t using T.casesOn<;>first|rfl|exact m7 h
theorem BG:∀ {us:List T} {k:Int},(∀t∈us,yU t)→1≤k→k≤us.foldl mN k:=by
 intro us
 induction us with
 |nil=>exact λ_ _=>e8 _
 |cons t us ih=>
  intro k h hk;have h':=λt ht=>h t (kR _ ht);rcases h t (.head _)with⟨i,rfl,hi⟩|⟨hn,_⟩
  ·exact cK (w8 hk hi).1 (ih (k:=mN k (.num i)) h' (w8 hk hi).2.2)
  ·refine(gY ..).symm▸(w9 hn ..).symm▸?_;exact ih h' hk
theorem DA{c:gw}{t:T}(h:t.isNum=false):BE c t=jt c (be t).1 (be t).2:=by induction t using T.casesOn<;>first|rfl|exact m7 h
theorem xa(t:T):iI .Eq (.str t.kind) (.str (ofString "num"))=some t.isNum:=by induction t using T.casesOn<;>rfl
theorem DB(t:T):iI .NotEq (.str t.kind) (.str (ofString "prod"))=some (!t.isProd):=by induction t using T.casesOn<;>rfl
theorem IR{b:T}{j:Int}(h:er b=true):be (md b j)=(b,j)∧(md b j).isNum=false∧(md b j).isProd=false∧(md b j).dp≤max b.dp 1+1:=by
 unfold md;split
 ·rename_i e;subst e
  induction b using T.casesOn<;>first|exact⟨rfl,rfl,rfl,dQ (aS _ _)⟩|exact dC h
 ·exact⟨rfl,rfl,rfl,ak _⟩
theorem IS{x K:Int}(h1:1≤x)(h:x≤K)(hK:K.natAbs<2^64):Sm x:=by unfold Sm;omega
theorem IT{c:gw}{t:T}{g:Int→ab}{o:Option Int}(h:di c t=o):(gE (ko g c) (a9 t)).isSome=o.isSome:=by exact(Dv ..).symm▸(h ..).symm▸(Option.isSome_map ..).symm▸rfl
noncomputable def CP(m:Nat)(a:Nat)(c:gw):Prop:=∀p∈c,p.1.dp≤8∧er p.1=true∧1≤p.2∧p.2.natAbs+a≤m
theorem CP.drop{m a j:Nat}{c:gw}(h:CP m (j+a) c):CP m a c:=λp hp=>⟨(h p hp).1,(h p hp).2.1,(h p hp).2.2.1,aa (bM (aD _ _) _) (h p hp).2.2.2⟩
theorem CP.add{m a:Nat}{c:gw}{t:T}{j:Int}(h:CP m (j.natAbs+a) c)(h1:t.dp≤8)(h2:er t=true)(h3:1≤j)(h4:j.natAbs+a≤m):CP m a (jt c t j):=λp hp=>by
 have h5:=w5 h4 (λp hp=>(h p hp).2.2.2) p hp;rcases nH hp with hq|rfl
 ·exact⟨(h p hq).1,(h p hq).2.1,(h p hq).2.2.1,h5⟩
 ·refine⟨h1,h2,?_,h5⟩;show 1≤(di c t).getD 0+j
  induction q:di c t with
  |none=>exact(iN j).symm▸h3
  |some i=>exact cK h3 (Int.le_add_of_nonneg_left (cK (by decide) (h _ (gL q)).2.2.1))
section
variable {n:Nat}
noncomputable def QF(ts:List T)(k:Int)(c:gw)(x y z:Option B):St:=⟨[(ofString "parts",some (.v (.list (aL ts)))),(ofString "number",some (.v (rt k))),(ofString "exponents",some (.l 0)),(ofString "part",x),(ofString "base",y),(ofString "exponent",z),(ofString "found",none),(ofString "is_done",none),(ofString "made",none)],[some (.dct (ko dl c))]⟩
theorem Lz{ts:List T}(hn:9≤n){m:Nat}(hm:m<2^64):∀(us:List T)(k:Int)(c:gw)(x y z:Option B),(∀u∈us,yU u)→1≤k→(us.foldl mN k).natAbs<2^64→CP m (mZ us) c→mZ us≤m→c.length+us.length≤900→
  ∃x' y' z' c',c'=us.foldl BE c∧CP m 0 c'∧c'.length≤900∧fO (Call n) (ofString "gathered_product") (bY 54) [1] (aL us) (QF ts k c x y z) .next (QF ts (us.foldl mN k) c' x' y' z'):=by
 intro us
 induction us with
 |nil=>exact λk c x y z _ _ _ hc _ hl=>G7 x y z c rfl hc hl rfl rfl
 |cons u us ih=>
  intro k c x y z hp hk hK hc he hl;have hp':=λv hv=>hp v (.tail _ hv);rw[(rfl:mZ (u::us)=(be u).2.natAbs+mZ us)]at hc he;have he':=aa (aD _ _) he;rcases hp u (.head _)with⟨i,rfl,hi⟩|⟨p1,p2,p3,p4⟩
  ·have⟨g1,g2,g3⟩:=w8 hk hi;have hle:=BG (k:=k*i) hp' g3;refine G5 (ih (k*i) c (some (.v (dl i))) y z hp' g3 hK hc.drop he' (aa (bM (nW _) _) hl)) λx' y' z' c' e1 e2 e3 r=>?_;refine Kg x' y' z' c' e1 e2 e3 (.next ?_ r);exact le [(5,ar (Iz (n:=n) (a:=k) (b:=i) (aa (by decide) hn) (IS hk (cK g1 hle) hK) (IS hi (cK g2 hle) hK)))] (by kernel_rfl)
  ·rw[gY,gY,w9 p1,DA p1]at*;have kf:=IJ (g:=dl) (c:=c) (t:=(be u).1) (λp hp=>(hc p hp).1) p4;have fl:jz (ko dl c).length=true:=qI (m:=900) (by refine Mo ..▸?_;exact aa (ao _ _) hl);have ra:=tm (n:=n) (aa (by decide) hn) u;have cl:=congrArg bE.dct (IL (g:=dl) c (be u).1 ((di c (be u).1).getD 0+(be u).2))
   induction q:di c (be u).1 with
   |none=>
    refine G5 (ih k (jt c (be u).1 (be u).2) (some (.v (a9 u))) (some (.v (a9 (be u).1))) (some (.v (dl (be u).2))) hp' hk hK (hc.add p4 p2 p3 he) he' (uj hl)) λx' y' z' c' e1 e2 e3 r=>?_;refine Kg x' y' z' c' e1 e2 e3 (.next ?_ r);rw[q,show(none.getD 0:Int)+(be u).2=(be u).2 from iN _]at cl;unfold jt;refine q ..▸(show(none.getD 0:Int)+(be u).2=(be u).2 from iN _).symm▸?_;exact le [(0,F.d (dO u)),(0,bx ((xa u).trans (so p1))),(1,ar (ra)),(1,F.b (kf)),(0,F.b (IT (g:=dl) q)),(1,F.b (kf)),(0,F.b (fl)),(0,F.cl (cl))] (by kernel_rfl)
   |some old=>
    refine eL (hc _ (gL q)) λ_ _ c3 c4=>?_;refine G5 (ih k (jt c (be u).1 (be u).2) (some (.v (a9 u))) (some (.v (a9 (be u).1))) (some (.v (dl (be u).2))) hp' hk hK (hc.add p4 p2 p3 he) he' (uj hl)) λx' y' z' c' e1 e2 e3 r=>?_;refine Kg x' y' z' c' e1 e2 e3 (.next ?_ r);rw[q]at cl;unfold jt;refine q ..▸?_;exact le [(0,F.d (dO u)),(0,bx ((xa u).trans (so p1))),(1,ar (ra)),(1,F.b (kf)),(0,F.b (IT (g:=dl) q)),(1,F.b (kf)),(0,F.d ((Dv (g:=dl) c (be u).1).trans (congrArg (sv dl) q))),(0,ar (Af hn (a:=old) (b:=(be u).2) c3 p3 (ba (aa (bM (ao _ _) _) c4) hm))),(1,F.b (kf)),(0,F.b (fl)),(0,F.cl (cl))] (by kernel_rfl)
noncomputable def QG(ts:List T)(k:Int)(D:gw)(fs:List T)(x y z w:Option B):St:=⟨[(ofString "parts",some (.v (.list (aL ts)))),(ofString "number",some (.v (rt k))),(ofString "exponents",some (.v (.dict (ko dl D)))),(ofString "part",x),(ofString "base",y),(ofString "exponent",z),(ofString "found",some (.l 1)),(ofString "is_done",some (.v (.bool true))),(ofString "made",w)],[none,some (.lst ((aL fs).map .v))]⟩
theorem IU{ts:List T}{K:Int}{D:gw}{x:Option B}{m:Nat}(hn:2≤n):∀(ds:gw)(fs:List T)(y z w:Option B),CP m 0 ds→fs.length+ds.length≤900→
  ∃y' z' w',fO (Call n) (ofString "gathered_product") (bY 54) [4] ((ko dl ds).map λp=>.tuple [p.1,p.2]) (QG ts K D fs x y z w) .next (QG ts K D (fs++ds.map λp=>md p.1 p.2) x y' z' w'):=by
 intro ds
 induction ds with
 |nil=>exact λfs y z w _ _=>zq y z w (by refine(jC ..).symm▸(aF ..).symm▸?_;exact⟨rfl,rfl⟩)
 |cons p ds ih=>
  intro fs y z w hc hl;refine eL (hc p (.head _)) λc1 c2 c3 _=>?_;refine eL (IR (j:=p.2) c2) λb1 b2 b3 b4=>?_;have d64:=aa c1 (by decide:8≤64);refine wi (ih (fs++ [md p.1 p.2]) (some (.v (a9 p.1))) (some (.v (dl p.2))) (some (.v (a9 (md p.1 p.2)))) (λq hq=>hc q (.tail _ hq)) (by refine(aj ..).symm▸(bz ..).symm▸(fV [_].length ..).symm▸?_;exact hl)) λy' z' w' r=>?_;rw[aw]at r;refine zq y' z' w' (.next ?_ r);have ra:=tm (n:=n) hn (md p.1 p.2);rw[b1]at ra;exact le [(0,ar (lW (n:=n) hn c2 d64 c3)),(0,F.d (dO (md p.1 p.2))),(0,bx ((xa (md p.1 p.2)).trans (so b2))),(3,F.d (dO (md p.1 p.2))),(0,bx ((DB (md p.1 p.2)).trans (so (nt b3)))),(2,ar (ra)),(1,bx (((oM (s:=p.1) (t:=p.1) d64 d64).trans (so (de p.1))))),(2,F.b (vN (m:=fs.length) rfl (aa (ao _ _) (aa hl (by decide))))),(0,F.cl (congrArg bE.lst (fP fs (md p.1 p.2))))] (by kernel_rfl)
theorem ig{h k:Nat}{ts:List T}(h0:0<h)(hn:10≤n)(hn2:4*h+4+k≤n)(hk2:(d4 ts).length≤2^k)(hf:(bu ts).length≤900)(hp:∀t∈bu ts,yU t)(ha:(nF (bu ts)).natAbs<2^64)(he:mZ (bu ts)<2^64)
  (hr:∀t∈d4 ts,Gd t∧t.ht<h):bU n (ofString "gathered_product") [.list (aL ts)] (a9 (fR ts)):=by
 have hn9:9≤n-1:=fz 9 hn;have hn2':2≤n-1:=aa (by decide) hn9;have hn1':1≤n-1:=aa (by decide) hn9;refine G5 (Lz (n:=n-1) (ts:=ts) hn9 he (bu ts) 1 [] none none none hp (by decide) ha (λp h=>by exact cg h) (ak _) ((ce _).symm▸hf)) λx y z c ec kc lc r=>?_;have hrs:c.map (λp=>md p.1 p.2)=d4 ts:=by refine (ec:c=Ac (bu ts)) ..▸?_;rfl
 refine wi (IU (n:=n-1) (ts:=ts) (K:=nF (bu ts)) (D:=c) (x:=C8 0 (.dict (ko dl c)) x) hn2' c [] (C8 0 (.dict (ko dl c)) y) (C8 0 (.dict (ko dl c)) z) none kc ((ce _).symm▸lc)) λy2 z2 w2 r2=>?_;rw[hrs,bL]at r2;have lr:(d4 ts).length≤900:=by refine(hrs ..)▸(aN ..).symm▸?_;exact lc
 have r4:=pX k (n-1) (d4 ts) hk2 (ba lr (by decide)) (bI (dc (by refine cL ..▸?_;exact fg _) (cL (4*h) 4 k▸hn2)):4*h+3+k≤n-1) (jr.mpr λt ht=>(hr t ht).1) (IN h0 λt ht=>(hr t ht).2);have sl:(eK (d4 ts)).length≤900:=by refine((fK _).length_eq ..).symm▸?_;exact lr
 have sd:∀t∈eK (d4 ts),t.dp≤9∧(f8 t).length≤1000:=λt ht=>by
  rw[(fK _).mem_iff,←hrs]at ht;refine aG (List.mem_map.mp ht) λp hp z1=>?_;obtain rfl:=z1;refine eL (kc p hp) λc1 c2 c3 _=>?_;have⟨_,_,b3,b4⟩:=IR (j:=p.2) c2;refine⟨aa b4 (bh (Nat.max_le.mpr ⟨c1,by decide⟩)),?_⟩
  induction q:md p.1 p.2 using T.casesOn with
  |prod l=>rw[q]at b3;exact m7 b3
  |_=>exact(by decide:1≤1000)
 have fp:=yl (n:=n-1) hn1' (ts:=ts) (aa hf (by decide));have q0:=uk (BG hp (by decide):1≤nF (bu ts));unfold fR
 generalize eK (d4 ts)=L at r4 sl sd
 induction L using am with
 |nil=>exact aT (pos hn) iR [(1,ar (fp)),(1,F.loop (r)),(2,F.b (q0)),(4,F.loop (r2)),(3,F.d (f9 (d4 ts))),(1,ar (r4)),(4,ar (gH (n:=n-1) hn1' (nF (bu ts))))] (by kernel_rfl)
 |cons t L=>induction L using am with
  |nil=>exact aT (pos hn) iR [(1,ar (fp)),(1,F.loop (r)),(2,F.b (q0)),(4,F.loop (r2)),(3,F.d (f9 (d4 ts))),(1,ar (r4)),(5,F.b (q0)),(5,ar (kH (n:=n-1) hn2' (nF (bu ts)) (t:=t) (aa (sd t (.head _)).1 (by decide)) (sd t (.head _)).2))] (by kernel_rfl)
  |cons u L=>exact aT (pos hn) iR [(1,ar (fp)),(1,F.loop (r)),(2,F.b (q0)),(4,F.loop (r2)),(3,F.d (f9 (d4 ts))),(1,ar (r4)),(5,F.b (q0)),(5,ar (kH (n:=n-1) hn2' (nF (bu ts)) (t:=.prod (t::u::L)) (aa (iB (fL.mpr λt ht=>(sd t ht).1) 2) (by decide)) (aa sl (by decide))))] (by kernel_rfl)
end
noncomputable def p0(c:gw):Prop:=(c.map (·.1)).Nodup
theorem DC:∀ {c:gw} {t:T},di c t=none→∀p∈c,p.1≠t:=λ{c}=>by
 induction c with
 |nil=>exact λ_ _ h=>cg h
 |cons sj r ih=>
  refine λ{t} h p hp=>?_;obtain⟨s,j⟩:=sj;rw[qH.2]at h;split at h
  ·exact sN h
  ·rename_i q;rcases aA.mp hp with rfl|hp
   ·exact λe=>q (e▸de _)
   ·exact ih h p hp
theorem oN{c:gw}{t:T}{i:Int}(h:p0 c):
  (di c t=none∧(∀p∈c,p.1≠t)∧rU c t i=c++ [(t,i)])∨∃a old b,c=a++(t,old)::b∧di c t=some old∧rU c t i=a++(t,i)::b:=by
 induction q:di c t with
 |none=>
  have hn:=DC q;refine .inl ⟨rfl,hn,?_⟩;unfold rU;rw[if_neg];simp only[iD,not_exists,not_and];exact λp hp e=>hn p hp (iy _ _ e)
 |some old=>
  refine fe (List.append_of_mem (gL q)) λa b z1=>?_;obtain rfl:=z1;refine .inr (CM a old b rfl rfl ?_);unfold p0 at h;rw[bS,aE,dw,bK]at h;have id (l:gw) (hl:∀p∈l,p.1≠t):(l.map λp=>if lQ p.1 t then(p.1,i)else p)=l:=by
   conv=>rhs;rw[←xQ l]
   refine bp λp hp=>?_;rw[oq (hl p hp)];rfl
  unfold rU;rw[if_pos (by simp[de]),bS,aE,id a (λp hp e=>h.2.2 p.1 (sB hp) t (.head _) e:∀p∈a,p.1≠t),id b (λp hp e=>h.2.1.1 (List.mem_map.mpr (aV p hp e)):∀p∈b,p.1≠t)];simp[de]
theorem p0.set{c:gw}{t:T}{i:Int}(h:p0 c):p0 (rU c t i):=by
 rcases oN (t:=t) (i:=i) h with⟨_,hn,e⟩|⟨a,old,b,rfl,_,e⟩
 ·refine e ..▸?_;unfold p0;rw[bS,dw];refine⟨h,by simp,λx hx y hy=>?_⟩;refine aG (List.mem_map.mp hx) λp hp z2=>?_;obtain rfl:=z2;simp only[aE,jC,ae]at hy;refine hy ..▸?_;exact hn p hp
 ·refine e ..▸?_;unfold p0 at h⊢;simpa using h
noncomputable def dq(k:Int):List T:=if k=0 then []else [.num k]
noncomputable def eC(k:Int):List T:=if k=1 then []else [.num k]
noncomputable def Qb(ts:List T):Prop:=∃fs k,ts=fs++dq k∧0≤k∧2≤ts.length∧fX fs∧(∀t∈fs,t.isNum=false∧t.isSum=false)∧(fs.map (λt=>t.split.2)).Nodup
noncomputable def Mq(ts:List T):Prop:=∃k fs,ts=eC k++fs∧1≤k∧2≤ts.length∧fs≠ []∧fX fs∧(∀t∈fs,t.isNum=false∧t.isProd=false)∧(fs.map (λt=>(be t).1)).Nodup
mutual
noncomputable def Cn:T→Prop
 |.num i=>1≤i
 |.sym _=>True
 |.call t=>Cn t
 |.pow b i=>Cn b∧er b=true∧2≤i
 |.sum ts=>xU ts∧Qb ts
 |.prod ts=>xU ts∧Mq ts
noncomputable def xU:List T→Prop
 | []=>True
 |t::r=>Cn t∧xU r
end
theorem Mr:(xU []=True)∧(∀(t:T)(r:List T),xU (t::r)=(Cn t∧xU r)):=⟨rfl,λ_ _=>rfl⟩
theorem cW:∀ {ts:List T},xU ts↔∀t∈ts,Cn t
 | []=>by simp[Mr]
 |t::r=>by simp[Mr,cW (ts:=r)]
structure rX (r:T):Prop where
 cn:Cn r
 nn:r.isNum=false
 hd:∀k l,r≠.prod (.num k::l)
theorem Ag{l:List T}(h:Mq l)(hd:∀k r,l≠.num k::r):fX l∧(∀t∈l,t.isNum=false∧t.isProd=false)∧(l.map (λt=>(be t).1)).Nodup∧2≤l.length:=by
 refine CL h λk fs z3 h1 h2 h3 h4 h5 h6=>?_;clear h;obtain rfl:=z3;unfold eC at*
 by_cases q:k=1
 ·rw[if_pos q]at*;exact⟨h4,h5,h6,h2⟩
 ·rw[if_neg q]at*;exact absurd rfl (hd k fs)
theorem xb{t:T}(h1:t.isNum=false)(h2:∀k l,t≠.prod (.num k::l)):t.split=(1,t):=by
 induction t using T.casesOn with
 |num i=>exact m7 h1
 |prod l=>
  rcases l with _|⟨a,l⟩
  ·rfl
  ·induction a using T.casesOn<;>first|rfl|exact absurd rfl (h2 _ _)
 |_=>rfl
theorem nK{r:T}(h:r.isNum=false):dT 1 r=r:=by
 unfold dT;rw[oq (by intro e;rw[e]at h;exact m7 h)];simp
theorem lA{r:T}{i:Int}(h:r.isNum=false)(hi:2≤i):dT i r=.prod (.num i::f8 r):=by
 unfold dT;rw[oq (by intro e;rw[e]at h;exact m7 h),if_neg (by simp;omega),if_neg (by omega)]
theorem BH{r:T}{i:Int}(h:rX r)(hi:1≤i)(hs:r.isSum=true→2≤i):Cn (dT i r)∧(dT i r).isNum=false∧(dT i r).isSum=false∧(dT i r).split=(i,r):=by
 by_cases q:i=1
 ·subst q;refine(nK h.nn ..).symm▸?_;exact⟨h.cn,h.nn,by induction e:r.isSum with|false=>rfl|true=>exact absurd (hs e) (by decide),xb h.nn h.hd⟩
 ·rw[lA h.nn (by omega)];have hq:eC i= [.num i]:=by unfold eC;rw[if_neg q]
  induction hr:r using T.casesOn with
  |prod l=>
   rw[hr]at h;refine aB h.cn λp1 p2=>?_;refine eL (Ag p2 λk r e=>h.hd k r (e ..▸rfl)) λq1 q2 q3 q4=>?_;refine⟨⟨⟨hi,p1⟩,i,l,by refine hq ..▸?_;rfl,hi,by simp only[f8,aP];exact aa q4 (ao _ _),by intro e;rw[e]at q4;simp at q4,q1,q2,q3⟩,rfl,rfl,?_⟩;exact Px (P:=λl=>(T.prod (.num i::l)).split=(i,.prod l)) q4 λa b l=>rfl
  |num k=>have:=h.nn;rw[hr]at this;exact m7 this
  |sym x=>exact⟨⟨⟨hi,trivial,trivial⟩,i,[.sym x],by refine hq ..▸?_;rfl,hi,by simp[f8],by simp,dI _ _,by simp[T.isNum,T.isProd],by simp⟩,rfl,rfl,rfl⟩
  |sum x=>exact⟨⟨⟨hi,hr▸h.cn,trivial⟩,i,[.sum x],by refine hq ..▸?_;rfl,hi,by simp[f8],by simp,dI _ _,by simp[T.isNum,T.isProd],by simp⟩,rfl,rfl,rfl⟩
  |pow x j=>exact⟨⟨⟨hi,hr▸h.cn,trivial⟩,i,[.pow x j],by refine hq ..▸?_;rfl,hi,by simp[f8],by simp,dI _ _,by simp[T.isNum,T.isProd],by simp⟩,rfl,rfl,rfl⟩
  |call x=>exact⟨⟨⟨hi,hr▸h.cn,trivial⟩,i,[.call x],by refine hq ..▸?_;rfl,hi,by simp[f8],by simp,dI _ _,by simp[T.isNum,T.isProd],by simp⟩,rfl,rfl,rfl⟩
theorem xc{p:T}(h:Cn p)(hn:p.isNum=false)(hs:p.isSum=false):rX p.split.2∧1≤p.split.1∧(p.split.2.isSum=true→2≤p.split.1)∧dT p.split.1 p.split.2=p:=by
 by_cases hp:∃k l,p=.prod (.num k::l)
 ·refine fe hp λk l z4=>?_;clear hp;obtain rfl:=z4;refine aB h λp1 z5=>?_;refine CL z5 λk' fs e h1 h2 h3 h4 h5 h6=>?_;clear h;unfold eC at e
  by_cases q:k'=1
  ·rw[if_pos q]at e;subst e;exact m7 ((h5 (.num k) (.head _)).1)
  rw[if_neg q]at e;simp only[ck,bL,List.cons.injEq,T.num.injEq]at e;refine aB e λz6 z7=>?_;clear e;obtain rfl:=z6;obtain rfl:=z7;rcases l with _|⟨t,_|⟨u,l⟩⟩
  ·exact absurd rfl h3
  ·have h5:=h5 t (.head _);refine⟨⟨(cW.mp p1) t (.tail _ (.head _)),h5.1,λk l e=>?_⟩,h1,λ_=>by show 2≤k;omega,?_⟩
   ·have:=h5.2;rw[show(T.prod [T.num _,t]).split.2=t from rfl]at e;rw[e]at this;exact m7 this
   ·show dT k t=_;rw[lA h5.1 (by omega)]
    induction t using T.casesOn<;>first|rfl|exact m7 h5.2
  ·have hh:∀j r,t::u::l≠.num j::r:=λj r e=>by
    have:=(h5 t (.head _)).1;simp only[List.cons.injEq]at e;rw[e.1]at this;exact m7 this
   refine⟨⟨⟨p1.2,1,t::u::l,rfl,by decide,by simp,by simp,h4,h5,h6⟩,rfl,λj r e=>?_⟩,h1,(λe=>by exact dC e),?_⟩
   ·have e:T.prod (t::u::l)=.prod (.num j::r):=e;simp only[T.prod.injEq]at e;exact hh j r e
   ·show dT k (.prod (t::u::l))=_;rw[lA rfl (by omega)];rfl
 ·have hp':∀k l,p≠.prod (.num k::l):=λk l e=>hp (ik k l e);refine xb hn hp' ..▸?_;exact⟨⟨h,hn,hp'⟩,e8 _,(λe=>by rw[hs]at e;exact dC e),nK hn⟩
noncomputable def mq(m:T→Int→Nat)(c:gw):Nat:=(c.map λp=>m p.1 p.2).sum
noncomputable def i0(m:T→Int→Nat):gw→Nat
 | []=>1
 |p::c=>m p.1 p.2*i0 m c
theorem tn:(∀(m:T→Int→Nat),i0 m []=1)∧(∀(m:T→Int→Nat)(p:T×Int)(c:List (T×Int)),i0 m (p::c)=m p.fst p.snd*i0 m c):=⟨λ_=>rfl,λ_ _ _=>rfl⟩
theorem qL(m:T→Int→Nat):∀a b:gw,i0 m (a++b)=i0 m a*i0 m b
 | [],b=>by simp[tn]
 |p::a,b=>by simp only[ck,tn,qL m a b,gh]
noncomputable abbrev kP(key:T→T×Int)(us:List T)(c:gw):gw:=us.foldl (λc u=>jt c (key u).1 (key u).2) c
theorem tp{c:gw}{t:T}{i:Int}(h:∀p∈c,1≤p.2)(hi:1≤i):∀p∈jt c t i,1≤p.2:=λp hp=>by
 rcases nH hp with hp|rfl
 ·exact h p hp
 ·show 1≤(di c t).getD 0+i
  induction q:di c t with
  |none=>simpa using hi
  |some j=>have:=h _ (gL q);show 1≤j+i;have:1≤j:=this;omega
theorem IV{m:T→Int→Nat}(sub:∀t a b,1≤a→1≤b→m t (a+b)≤m t a+m t b){c:gw}{t:T}{i:Int}(hN:p0 c)(h:∀p∈c,1≤p.2)(hi:1≤i):mq m (jt c t i)≤mq m c+m t i:=by
 unfold jt;rcases oN (t:=t) (i:=(di c t).getD 0+i) hN with⟨q,_,e⟩|⟨a,old,b,rfl,q,e⟩
 ·refine(e ..).symm▸(q ..).symm▸?_;simp[mq,lF]
 ·refine(e ..).symm▸(q ..).symm▸?_;simp only[mq,bS,aE,lF,jd,nX];exact nw [_,_,_,_,_] (.d yA (.a yB yC) .n) (.a yD (.a yA yE)) (.a (.a yD (.a yB yE)) yC) rfl (sub t old i (h (t,old) (by simp)) hi)
theorem F6{m:T→Int→Nat}(sub:∀t a b,1≤a→1≤b→m t (a+b)≤m t a*m t b){c:gw}{t:T}{i:Int}(hN:p0 c)(h:∀p∈c,1≤p.2)(hi:1≤i):i0 m (jt c t i)≤i0 m c*m t i:=by
 unfold jt;rcases oN (t:=t) (i:=(di c t).getD 0+i) hN with⟨q,_,e⟩|⟨a,old,b,rfl,q,e⟩
 ·refine(e ..).symm▸(q ..).symm▸(qL ..).symm▸?_;simp[tn]
 ·refine(e ..).symm▸(q ..).symm▸(qL ..).symm▸(qL ..).symm▸?_;simp only[tn,nX]
  calc i0 m a*(m t (old+i)*i0 m b)≤i0 m a*((m t old*m t i)*i0 m b):=eN _ (dK _ (sub t old i (h (t,old) (by simp)) hi))
   _=i0 m a*(m t old*i0 m b)*m t i:=by
    refine(gh ..).symm▸(gh ..).symm▸(qu (m t i) ..).symm▸?_;simp only[gh]
theorem BI{key:T→T×Int}:∀ {us:List T} {c:gw},p0 c→(∀p∈c,1≤p.2)→(∀u∈us,1≤(key u).2)→p0 (kP key us c)∧∀p∈kP key us c,1≤p.2
 | [],c,hN,hp,_=>⟨hN,hp⟩
 |u::us,c,hN,hp,hu=>BI (us:=us) (c:=jt c (key u).1 (key u).2) hN.set (tp hp (hu u (.head _))) λv hv=>hu v (.tail _ hv)
theorem qM{m:T→Int→Nat}(sub:∀t a b,1≤a→1≤b→m t (a+b)≤m t a+m t b){key:T→T×Int}:∀ {us:List T} {c:gw},p0 c→(∀p∈c,1≤p.2)→(∀u∈us,1≤(key u).2)→mq m (kP key us c)≤mq m c+(us.map λu=>m (key u).1 (key u).2).sum
 | [],c,_,_,_=>by simp
 |u::us,c,hN,hp,hu=>by
  rw[aE,jd];show mq m (kP key us (jt c (key u).1 (key u).2))≤_;exact nw [_,_,_,_,_] (.d yA (.a yB yC) (.d yB (.a yD yE) .n)) yA (.a yD (.a yE yC)) rfl (qM sub (key:=key) (us:=us) (c:=jt c (key u).1 (key u).2) hN.set (tp hp (hu u (.head _))) λv hv=>hu v (.tail _ hv)) (IV sub (t:=(key u).1) hN hp (hu u (.head _)))
noncomputable def tq:List Nat→Nat
 | []=>1
 |a::l=>a*tq l
theorem tr:(tq []=1)∧(∀(a:Nat)(l:List Nat),tq (a::l)=a*tq l):=⟨rfl,λ_ _=>rfl⟩
theorem xd{m:T→Int→Nat}(sub:∀t a b,1≤a→1≤b→m t (a+b)≤m t a*m t b){key:T→T×Int}:∀ {us:List T} {c:gw},p0 c→(∀p∈c,1≤p.2)→(∀u∈us,1≤(key u).2)→i0 m (kP key us c)≤i0 m c*tq (us.map λu=>m (key u).1 (key u).2)
 | [],c,_,_,_=>by simp[tr]
 |u::us,c,hN,hp,hu=>by
  rw[aE,tr.2,←gh];exact aa (xd sub (key:=key) (us:=us) (c:=jt c (key u).1 (key u).2) hN.set (tp hp (hu u (.head _))) λv hv=>hu v (.tail _ hv)) (dK _ (F6 sub (t:=(key u).1) hN hp (hu u (.head _))))
mutual
noncomputable def T.val:T→Nat
 |.num i=>i.toNat
 |.sym _=>2
 |.sum l=>fB l
 |.prod l=>dA l
 |.pow b i=>b.val^i.toNat
 |.call t=>t.val+1
noncomputable def fB:List T→Nat
 | []=>0
 |t::l=>t.val+fB l
noncomputable def dA:List T→Nat
 | []=>1
 |t::l=>t.val*dA l
end
theorem iz:(fB []=0)∧(∀(t:T)(l:List T),fB (t::l)=t.val+fB l):=⟨rfl,λ_ _=>rfl⟩
theorem ju:(dA []=1)∧(∀(t:T)(l:List T),dA (t::l)=t.val*dA l):=⟨rfl,λ_ _=>rfl⟩
theorem fG:(∀(i:Int),(T.num i).val=i.toNat)∧(∀(x_1:Nm),(T.sym x_1).val=2)∧(∀(l:List T),(T.sum l).val=fB l)∧(∀(l:List T),(T.prod l).val=dA l)∧(∀(b:T)(i:Int),(b.pow i).val=b.val^i.toNat)∧(∀(t:T),t.call.val=t.val+1):=⟨λ_=>rfl,λ_=>rfl,λ_=>rfl,λ_=>rfl,λ_ _=>rfl,λ_=>rfl⟩
mutual
noncomputable def T.lf:T→Nat
 |.num _=>1
 |.sym _=>1
 |.sum l=>eD l
 |.prod l=>eD l
 |.pow b _=>b.lf+1
 |.call t=>t.lf+1
noncomputable def eD:List T→Nat
 | []=>0
 |t::l=>t.lf+eD l
end
theorem iJ:(eD []=0)∧(∀(t:T)(l:List T),eD (t::l)=t.lf+eD l):=⟨rfl,λ_ _=>rfl⟩
theorem qn:(∀(i:Int),(T.num i).lf=1)∧(∀(x_1:Nm),(T.sym x_1).lf=1)∧(∀(l:List T),(T.sum l).lf=eD l)∧(∀(l:List T),(T.prod l).lf=eD l)∧(∀(b:T)(i:Int),(b.pow i).lf=b.lf+1)∧(∀(t:T),t.call.lf=t.lf+1):=⟨λ_=>rfl,λ_=>rfl,λ_=>rfl,λ_=>rfl,λ_ _=>rfl,λ_=>rfl⟩
theorem p5:∀l:List T,fB l=(l.map T.val).sum
 | []=>rfl
 |t::l=>by simp[iz,p5 l]
theorem xe:∀l:List T,dA l=tq (l.map T.val)
 | []=>rfl
 |t::l=>by simp[ju,tr,xe l]
theorem mO:∀l:List T,eD l=(l.map T.lf).sum
 | []=>rfl
 |t::l=>by simp[iJ,mO l]
theorem p6(a b:List T):fB (a++b)=fB a+fB b:=by simp[p5,lF]
theorem qN(a b:List T):eD (a++b)=eD a+eD b:=by simp[mO,lF]
theorem yV:∀a b:List Nat,tq (a++b)=tq a*tq b
 | [],b=>by simp[tr]
 |x::a,b=>by simp only[ck,tr,yV a b,gh]
theorem IW(a b:List T):dA (a++b)=dA a*dA b:=by simp[xe,yV]
theorem F7{a b:List T}(h:a.Perm b):fB a=fB b:=by refine(p5 ..).symm▸(p5 ..).symm▸?_;exact(h.map _).sum_nat
theorem BJ{a b:List T}(h:a.Perm b):eD a=eD b:=by refine(mO ..).symm▸(mO ..).symm▸?_;exact(h.map _).sum_nat
theorem F8{a b:List T}(h:a.Perm b):dA a=dA b:=by
 induction h with
 |nil=>rfl
 |cons x _ ih=>simp[ju,ih]
 |swap x y l=>simp only[ju,jW]
 |trans _ _ ih1 ih2=>exact ih1.trans ih2
theorem p7{l:List T}{t:T}(h:t∈l):t.val≤fB l:=by
 induction l with
 |nil=>exact cg h
 |cons a l ih=>
  simp only[iz];rcases aA.mp h with rfl|h
  ·exact ao _ _
  ·have:=ih h;exact aa this (aD _ _)
theorem k7{l:List T}{t:T}(h:t∈l):t.lf≤eD l:=by
 induction l with
 |nil=>exact cg h
 |cons a l ih=>
  simp only[iJ];rcases aA.mp h with rfl|h
  ·exact ao _ _
  ·have:=ih h;exact aa this (aD _ _)
theorem kq{l:List T}{t:T}(h:t∈l)(hp:∀u∈l,1≤u.val):t.val≤dA l∧1≤dA l:=by
 induction l with
 |nil=>exact cg h
 |cons a l ih=>
  simp only[ju];have h1:=hp a (.head _);have hl:1≤dA l:=by
   clear ih h
   induction l with
   |nil=>exact ak _
   |cons b l ih2=>
    exact bG (hp b (by simp)) (ih2 (λu hu=>hp u (by rcases aA.mp hu with rfl|hu<;>simp[*])))
  refine⟨?_,bG h1 hl⟩;rcases aA.mp h with rfl|h
  ·exact pv _ hl
  ·exact aa (ih h λu hu=>hp u (.tail _ hu)).1 (eW _ h1)
theorem IX{l:List T}(hp:∀u∈l,1≤u.val):1≤dA l:=by
 induction l with
 |nil=>exact ak _
 |cons a l ih=>exact bG (hp a (.head _)) (ih λu hu=>hp u (.tail _ hu))
mutual
theorem cz:∀ {t:T},Cn t→1≤t.val∧1≤t.lf∧(t.isNum=false→2≤t.val)
 |.num i,h=>⟨by have:(1:Int)≤i:=h;simp only[fG];omega,ak _,λe=>by cases e⟩
 |.sym _,_=>⟨(by show 1≤2;decide),ak _,λ_=>ak _⟩
 |.call t,h=>by have:=cz (t:=t) h;simp only[fG,qn];exact⟨by exact aD _ _,by exact aD _ _,λ_=>by exact nw [_] (.d (.k 1) yA .n) (.k 2) (.s yA) rfl this.1⟩
 |.pow b i,h=>by
  have:=cz (t:=b) h.1;have hb:b.isNum=false:=by have:=h.2.1;induction b using T.casesOn<;>first|rfl|exact dC this
  have:2^i.toNat≤b.val^i.toNat:=dR (this.2.2 hb) _;have h3:2^1≤2^i.toNat:=dJ (by decide) (by have:=h.2.2;omega);simp only[fG,qn];exact⟨by exact aa (by decide) (aa h3 this),by exact aD _ _,λ_=>by exact aa h3 this⟩
 |.sum l,h=>by
  have hv:=gW (l:=l) h.1;refine kD h.2 λfs k e _ h2 _=>?_;simp only[fG,qn];exact⟨by exact aa (by decide) (aa h2 hv.1),by exact aa (by decide) (aa h2 hv.2.1),λ_=>by exact aa h2 hv.1⟩
 |.prod l,h=>by
  have hv:=gW (l:=l) h.1;refine CL h.2 λk fs e hk h2 hne _ h5 _=>?_;have hp:=hv.2.2;simp only[fG,qn];refine fe (iu hne) λf fs' z1=>?_;obtain rfl:=z1;have hm:f∈l:=by refine(e ..).symm▸?_;simp
  have:=(hp f hm).2 (h5 f (.head _)).1;have:=(kq hm λu hu=>(hp u hu).1).1;exact⟨by omega,by exact aa (by decide) (aa h2 hv.2.1),λ_=>by exact aa (by assumption) this⟩
theorem gW:∀ {l:List T},xU l→l.length≤fB l∧l.length≤eD l∧∀t∈l,1≤t.val∧(t.isNum=false→2≤t.val)
 | [],_=>⟨ak _,ak _,λ_ h=>by cases h⟩
 |t::l,h=>by
  have h1:=cz (t:=t) h.1;have h2:=gW (l:=l) h.2;simp only[aP,iz,iJ];refine⟨by exact nw [_,_,_] (.d (.k 1) yA (.d yB yC .n)) (.s yB) (.a yA yC) rfl h1.1 h2.1,by exact nw [_,_,_] (.d (.k 1) yA (.d yB yC .n)) (.s yB) (.a yA yC) rfl h1.2.1 h2.2.1,λu hu=>?_⟩;rcases aA.mp hu with rfl|hu
  ·exact⟨h1.1,h1.2.2⟩
  ·exact h2.2.2 u hu
end
theorem xf{ts:List T}(h:∀t∈ts,Cn t):(∀p∈cv ts,Cn p∧p.isSum=false)∧fB (cv ts)=fB ts∧eD (cv ts)=eD ts:=by
 induction ts with
 |nil=>exact⟨(λ_ h=>by exact cg h),rfl,rfl⟩
 |cons t ts ih=>
  refine dE (ih λu hu=>h u (.tail _ hu)) λi1 i2 i3=>?_;have ht:=h t (.head _);show(∀p∈gu t++cv ts,_)∧fB (gu t++cv ts)=_∧eD (gu t++cv ts)=_;rw[p6,qN,i2,i3,iz.2,iJ.2]
  induction t using T.casesOn with
  |sum l=>
   refine⟨λp hp=>?_,rfl,rfl⟩;refine(List.mem_append.mp hp).elim (λhp=>?_) λhp=>?_
   ·have hp:p∈l:=hp;refine⟨cW.mp ht.1 p hp,?_⟩;refine Kd ht.2 λfs k z1 _ _ _ h5 _=>?_;obtain rfl:=z1;refine(List.mem_append.mp hp).elim (λhp=>?_) λhp=>?_
    ·exact(h5 p hp).2
    ·unfold dq at hp;split at hp
     ·exact cg hp
     ·refine(ae.mp hp ..).symm▸?_;rfl
   ·exact i1 p hp
  |_=>
   refine⟨λp hp=>?_,by simp[gu,iz],by simp[gu,iJ]⟩;refine(List.mem_append.mp hp).elim (λhp=>?_) λhp=>?_
   ·refine(ae.mp hp ..).symm▸?_;exact⟨ht,rfl⟩
   ·exact i1 p hp
theorem vQ{p:T}(h:Cn p)(hs:p.isSum=false):1≤p.split.1∧((∃k,p=.num k∧p.split=(k,.num 1))∨(p.isNum=false∧rX p.split.2∧(p.split.2.isSum=true→2≤p.split.1)∧dT p.split.1 p.split.2=p)):=by
 by_cases hn:p.isNum=true
 ·induction p using T.casesOn<;>first|(exact⟨h,.inl (aV _ rfl rfl)⟩)|exact dC hn
 ·have hn:p.isNum=false:=by simpa using hn
  refine eL (xc h hn hs) λa b c d=>?_;exact⟨b,.inr ⟨hn,a,c,d⟩⟩
structure pi (c:gw):Prop where
 nod:p0 c
 pos:∀p∈c,1≤p.2
 key:∀p∈c,p.1=.num 1∨(rX p.1∧(p.1.isSum=true→2≤p.2))
theorem pi.add{c:gw}{t:T}{i:Int}(h:pi c)(hi:1≤i)(ht:t=.num 1∨(rX t∧(t.isSum=true→2≤i))):pi (jt c t i):=by
 refine⟨h.nod.set,tp h.pos hi,λp hp=>?_⟩;rcases nH hp with hp|rfl
 ·exact h.key p hp
 ·refine ht.imp_right λht=>⟨ht.1,λe=>?_⟩
  show 2≤(di c t).getD 0+i
  induction q:di c t with
  |none=>simpa using(ht.2 e)
  |some j=>have:1≤j:=h.pos _ (gL q);show 2≤j+i;omega
theorem Ah:∀ {us:List T} {c:gw},pi c→(∀u∈us,Cn u∧u.isSum=false)→pi (kP (λt=>(t.split.2,t.split.1)) us c)
 | [],c,h,_=>h
 |u::us,c,h,hu=>by
  refine aB (vQ (hu u (.head _)).1 (hu u (.head _)).2) λh1 h2=>?_;refine Ah (us:=us) (h.add h1 ?_) λv hv=>hu v (.tail _ hv);refine h2.elim (λz1=>aG z1 λk _ e=>?_) λz2=>eL z2 λ_ a b _=>?_
  ·exact .inl (by show u.split.2=_;exact(e ..).symm▸rfl)
  ·exact .inr ⟨a,b⟩
theorem pi.nil:pi []:=⟨dP,(λ_ h=>by exact cg h),(λ_ h=>by cases h)⟩
noncomputable def jP(c:gw):List T:=((mY c (.num 1)).filter λp=>!(p.2==0)).map λp=>dT p.2 p.1
theorem um{c:gw}(h:pi c):jP c=(mY c (.num 1)).map (λp=>dT p.2 p.1)∧(∀t∈jP c,Cn t∧t.isNum=false∧t.isSum=false∧(t.split.2,t.split.1)∈c)∧((jP c).map λt=>t.split.2).Nodup:=by
 have e:((mY c (.num 1)).filter λp=>!(p.2==0))=mY c (.num 1):=by
  refine List.filter_eq_self.mpr λp hp=>?_;have:=h.pos p (List.mem_filter.mp hp).1;simp;omega
 have e2:jP c=(mY c (.num 1)).map (λp=>dT p.2 p.1):=by unfold jP;exact(e ..).symm▸rfl
 have k:∀p∈mY c (.num 1),rX p.1∧(p.1.isSum=true→2≤p.2)∧1≤p.2∧p∈c:=λp hp=>by
  refine aB (List.mem_filter.mp hp) λhp hq=>?_;refine(h.key p hp).elim (λe=>?_) λe=>?_
  ·rw[e,de]at hq;exact dC hq
  ·exact⟨e.1,e.2,h.pos p hp,hp⟩
 refine⟨e2,λt ht=>?_,?_⟩
 ·rw[e2]at ht;refine aG (List.mem_map.mp ht) λp hp z2=>?_;obtain rfl:=z2;refine eL (k p hp) λk1 k2 k3 k4=>?_;refine eL (BH k1 k3 k2) λw1 w2 w3 w4=>?_;refine⟨w1,w2,w3,?_⟩;refine(w4 ..).symm▸?_;exact k4
 ·refine(e2 ..).symm▸(bZ ..).symm▸?_;have:(mY c (.num 1)).map ((λt=>t.split.2)∘λp=>dT p.2 p.1)=(mY c (.num 1)).map (·.1):=bp λp hp=>by
   refine eL (k p hp) λk1 k2 k3 _=>?_;show(dT p.2 p.1).split.2=p.1;exact((BH k1 k3 k2).2.2.2 ..).symm▸rfl
  refine(this ..).symm▸?_;exact(sC.map _).nodup h.nod
theorem IY{fs:List T}{k:Int}(hk:0≤k)(hs:fX fs)(hf:∀t∈fs,Cn t∧t.isNum=false∧t.isSum=false)(hN:(fs.map λt=>t.split.2).Nodup)(hne:fs++dq k≠ []):Cn (ph (fs++dq k)):=by
 have hc:∀t∈fs++dq k,Cn t:=λt ht=>by
  refine(List.mem_append.mp ht).elim (λht=>?_) λht=>?_
  ·exact(hf t ht).1
  ·unfold dq at ht;split at ht
   ·exact cg ht
   ·refine(ae.mp ht ..).symm▸?_;show 1≤k;omega
 have key (l:List T) (hl:l=fs++dq k):Cn (ph l):=by
  match l,hl with
  | [],e=>exact absurd e.symm hne
  | [t],e=>exact hc t (by refine(e ..)▸?_;simp)
  |t::u::r,e=>exact⟨cW.mpr λv hv=>hc v (by refine(e ..)▸?_;exact hv),fs,k,e,hk,by simp,hs,λv hv=>(hf v hv).2,hN⟩
 exact key _ rfl
theorem IZ{c:gw}(h:pi c):0≤(di c (.num 1)).getD 0:=by
 induction q:di c (.num 1)with
 |none=>exact e8 _
 |some j=>have:1≤j:=h.pos _ (gL q);show 0≤j;omega
theorem yW(ts:List T):fB ts=(ph ts).val∧(ts≠ []→eD ts=(ph ts).lf):=by
 match ts with
 | []=>exact⟨rfl,λh=>absurd rfl h⟩
 | [t]=>simp[ph,iz,iJ]
 |t::u::r=>exact⟨rfl,λ_=>rfl⟩
theorem F9(k:Int):fB (dq k)=k.toNat:=by
 unfold dq;split
 ·rename_i h;subst h;rfl
 ·simp[iz,fG]
theorem I0{k:Int}:eD (dq k)=if k=0 then 0 else 1:=by
 unfold dq;split<;>simp[iJ,qn]
noncomputable def mV(t:T)(i:Int):Nat:=i.toNat*t.val
noncomputable def mL(t:T)(i:Int):Nat:=if lQ t (.num 1)=true then 1 else max t.lf 1+if i=1 then 0 else 1
theorem yX{r:T}{i:Int}(h:rX r)(hi:1≤i):(dT i r).val=mV r i∧(dT i r).lf=mL r i:=by
 unfold mV mL;refine((oq (by intro e;have:=h.nn;rw[e]at this;exact m7 this):lQ r (.num 1)=false) ..).symm▸(show max r.lf 1=r.lf by exact aC (dX (λq0=>q0) (λq0=>aa q0 ((cz h.cn).2.1))) ((aS _ _))).symm▸?_
 by_cases q:i=1
 ·subst q;refine(nK h.nn ..).symm▸?_;simp
 ·rw[lA h.nn (by omega),if_neg q]
  induction r using T.casesOn<;>simp[fG,qn,ju,iJ,f8]<;>omega
theorem yY{c:gw}(h:p0 c):(di c (.num 1)=none∧mY c (.num 1)=c)∨∃a k b,c=a++(.num 1,k)::b∧di c (.num 1)=some k∧mY c (.num 1)=a++b:=by
 refine(oN (t:=.num 1) (i:=0) h).elim (λz3=>dE z3 λq hn _=>?_) λz4=>xZ z4 λa k b e q _=>?_
 ·refine .inl ⟨q,List.filter_eq_self.mpr λp hp=>?_⟩;refine(oq (hn p hp) ..).symm▸?_;rfl
 ·refine .inr (CM a k b e q ?_);rw[e]at h⊢;unfold p0 at h;rw[bS,aE,dw,bK]at h;unfold mY;refine(tQ ..).symm▸(bk ..).symm▸(de ..).symm▸?_;have f1:a.filter (λp=>!lQ p.1 (.num 1))=a:=List.filter_eq_self.mpr λp hp=>by
   refine(oq (λe=>h.2.2 p.1 (sB hp) (.num 1) (.head _) e) ..).symm▸?_;rfl
  have f2:b.filter (λp=>!lQ p.1 (.num 1))=b:=List.filter_eq_self.mpr λp hp=>by
   refine(oq (λe=>h.2.1.1 (List.mem_map.mpr (aV p hp e))) ..).symm▸?_;rfl
  refine(f1 ..).symm▸(f2 ..).symm▸?_;simp
theorem Ga{c:gw}(h:pi c):fB (jP c++dq ((di c (.num 1)).getD 0))≤mq mV c∧eD (jP c++dq ((di c (.num 1)).getD 0))≤mq mL c:=by
 refine dE (um h) λe _ _=>?_;refine(p6 ..).symm▸(qN ..).symm▸(F9 ..).symm▸(I0 ..).symm▸?_;have key (d:gw) (hd:∀p∈d,p∈c∧p.1≠.num 1):fB (d.map λp=>dT p.2 p.1)=mq mV d∧eD (d.map λp=>dT p.2 p.1)=mq mL d:=by
  induction d with
  |nil=>exact⟨rfl,rfl⟩
  |cons p d ih=>
   refine aB (ih λq hq=>hd q (.tail _ hq)) λi1 i2=>?_;refine aB (hd p (.head _)) λhp hne=>?_;refine aB (yX ((h.key p hp).resolve_left hne).1 (h.pos p hp)) λv1 v2=>?_;simp only[aE,iz,iJ,mq,jd]at i1 i2⊢;exact⟨aC (nw [_,_,_,_] (.d yA yB (.d yC yD .n)) (.a yC yA) (.a yD yB) rfl (ah i1) (ah v1)) (nw [_,_,_,_] (.d yA yB (.d yC yD .n)) (.a yC yA) (.a yD yB) rfl (ah i1.symm) (ah v1.symm)),aC (nw [_,_,_,_] (.d yA yB (.d yC yD .n)) (.a yC yA) (.a yD yB) rfl (ah i2) (ah v2)) (nw [_,_,_,_] (.d yA yB (.d yC yD .n)) (.a yC yA) (.a yD yB) rfl (ah i2.symm) (ah v2.symm))⟩
 have hdel:∀p∈mY c (.num 1),p∈c∧p.1≠.num 1:=λp hp=>by
  refine aB (List.mem_filter.mp hp) λhp hq=>?_;exact⟨hp,λe=>by rw[e,de]at hq;cases hq⟩
 refine aB (key _ hdel) λk1 k2=>?_;refine(e ..).symm▸(k1 ..).symm▸(k2 ..).symm▸?_;refine(yY h.nod).elim (λz5=>aB z5 λq e2=>?_) λz6=>xZ z6 λa k b e1 q e2=>?_
 ·refine(q ..).symm▸(e2 ..).symm▸?_;simp
 ·have hk:1≤k:=h.pos (.num 1,k) (by refine(e1 ..).symm▸?_;simp);refine(e2 ..).symm▸(q ..).symm▸(e1 ..).symm▸?_;simp only[mq,bS,aE,lF,jd,nX];rw[if_neg (by omega)];have:mV (.num 1) k=k.toNat:=by simp[mV,fG]
  have:mL (.num 1) k=1:=by simp[mL,de]
  omega
theorem NG(t:T)(a b:Int)(ha:1≤a)(hb:1≤b):mV t (a+b)≤mV t a+mV t b:=by
 unfold mV;rw[←nY,Int.toNat_add (by omega) (by omega)];exact ak _
theorem NH(t:T)(a b:Int)(ha:1≤a)(hb:1≤b):mL t (a+b)≤mL t a+mL t b:=by
 unfold mL;split
 ·exact ao _ _
 ·split<;>split<;>split<;>omega
theorem uo{p:T}(h:Cn p)(hs:p.isSum=false):mV p.split.2 p.split.1=p.val∧mL p.split.2 p.split.1=p.lf:=by
 refine aB (vQ h hs) λh1 h2=>?_;rcases h2 with⟨k,rfl,e⟩|⟨_,a,b,e⟩
 ·refine(e ..).symm▸?_;simp[mV,mL,fG,qn,de]
 ·refine aB (yX a h1) λv1 v2=>?_;rw[e]at v1 v2;exact⟨v1.symm,v2.symm⟩
noncomputable abbrev nL(t:T):T×Int:=(t.split.2,t.split.1)
theorem Ai(us:List T):rj us=kP nL us []:=rfl
theorem Aj(ts:List T):km ts=ph (eK (jP (rj (cv ts)))++dq (mn ts)):=rfl
theorem LA{c:gw}{t:T}{i:Int}:rU c t i≠ []:=by
 unfold rU;split
 ·rename_i h;intro e;rw[ma]at e;rw[e]at h;simp at h
 ·simp
theorem BK{key:T→T×Int}:∀ {us:List T} {c:gw},c≠ []∨us≠ []→kP key us c≠ []
 | [],c,h=>h.elim id λh=>absurd rfl h
 |u::us,c,_=>BK (us:=us) (c:=jt c (key u).1 (key u).2) (.inl LA)
theorem qO{key:T→T×Int}:∀ {us:List T} {c:gw} {p:T×Int},p∈kP key us c→(∃q∈c,p.1=q.1)∨∃u∈us,p.1=(key u).1
 | [],c,p,h=>.inl (aV p h rfl)
 |u::us,c,p,h=>by
  refine(qO (us:=us) (c:=jt c (key u).1 (key u).2) h).elim (λz7=>aG z7 λq hq e=>?_) λz8=>aG z8 λv hv e=>?_
  ·rcases nH hq with hq|rfl
   ·exact .inl (aV q hq e)
   ·exact .inr (aV u (.head _) e)
  ·exact .inr (aV v (.tail _ hv) e)
theorem I1{r:T}{i:Int}(h:r.isNum=false)(hi:1≤i):(dT i r).dp≤r.dp+2:=by
 by_cases q:i=1
 ·subst q;refine(nK h ..).symm▸?_;exact ao _ _
 ·rw[lA h (by omega)];have:=oL r
  induction r using T.casesOn<;>simp only[f8,cA,pH]at* <;>omega
theorem I3{ts:List T}(h:∀t∈ts,Cn t)(hne:ts≠ []):cv ts≠ []:=by
 refine fe (iu hne) λt r z3=>?_;obtain rfl:=z3;have ht:=h t (.head _);show gu t++cv r≠ []
 induction t using T.casesOn with
 |sum l=>
  refine kD ht.2 λfs k e _ h2 _=>?_;intro e2;have:=(List.append_eq_nil_iff.mp e2).1;rw[show gu (T.sum l)=l from rfl]at this;rw[this]at h2;simp at h2
 |_=>simp[gu]
theorem Ak{ts:List T}(h:∀t∈ts,Cn t)(hne:ts≠ []):Cn (km ts)∧(km ts).val≤fB ts∧(km ts).lf≤eD ts∧(∀t∈ie ts,Cn t∧t.isNum=false∧t.isSum=false)∧fB (ie ts)≤fB ts∧eD (ie ts)≤eD ts:=by
 refine dE (xf h) λf1 f2 f3=>?_;have hc:pi (rj (cv ts)):=Ah .nil f1;refine dE (um hc) λp1 p2 p3=>?_;refine aB (Ga hc) λm1 m2=>?_;have hpos:∀u∈cv ts,1≤(nL u).2:=λu hu=>(vQ (f1 u hu).1 (f1 u hu).2).1;have n1:mq mV (rj (cv ts))≤fB ts:=by
  have:=qM NG (key:=nL) (us:=cv ts) (c:= []) dP (λ_ h=>by exact cg h) hpos;rw[←Ai]at this;rw[(bp λu hu=>(uo (f1 u hu).1 (f1 u hu).2).1:(cv ts).map (λu=>mV (nL u).1 (nL u).2)=(cv ts).map T.val),←p5,f2]at this;simpa[mq]using this
 have n2:mq mL (rj (cv ts))≤eD ts:=by
  have:=qM NH (key:=nL) (us:=cv ts) (c:= []) dP (λ_ h=>by exact cg h) hpos;rw[←Ai]at this;rw[(bp λu hu=>(uo (f1 u hu).1 (f1 u hu).2).2:(cv ts).map (λu=>mL (nL u).1 (nL u).2)=(cv ts).map T.lf),←mO,f3]at this;simpa[mq]using this
 have hp:=fK (jP (rj (cv ts)));have hcne:rj (cv ts)≠ []:=BK (key:=nL) (c:= []) (.inr (I3 h hne));have hout:eK (jP (rj (cv ts)))++dq (mn ts)≠ []:=λe=>by
  refine aB (List.append_eq_nil_iff.mp e) λe1 e2=>?_;rw[e1]at hp;have e3:jP (rj (cv ts))= []:=hp.symm.eq_nil;rw[p1,ma]at e3;refine(yY hc.nod).elim (λz9=>aB z9 λq e4=>?_) λz10=>xZ z10 λa k b e1' q e4=>?_
  ·exact hcne (e4▸e3)
  ·have hk:1≤k:=hc.pos (.num 1,k) (by refine(e1' ..).symm▸?_;simp);unfold mn at e2;rw[q]at e2;unfold dq at e2;rw[if_neg (show¬ (some k).getD 0=0 by show¬k=0;omega)]at e2;cases e2
 have v1:fB (eK (jP (rj (cv ts)))++dq (mn ts))≤fB ts:=by refine(p6 ..).symm▸(F7 hp ..).symm▸(p6 ..)▸?_;exact aa m1 n1
 have v2:eD (eK (jP (rj (cv ts)))++dq (mn ts))≤eD ts:=by refine(qN ..).symm▸(BJ hp ..).symm▸(qN ..)▸?_;exact aa m2 n2
 refine(Aj ..).symm▸?_;refine⟨IY (IZ hc) (k5 _) (λt ht=>?_) ?_ hout,?_,?_,λt ht=>?_,?_,?_⟩
 ·refine eL (p2 t (hp.mem_iff.mp ht)) λa b c _=>?_;exact⟨a,b,c⟩
 ·exact(hp.map _).nodup_iff.mpr p3
 ·refine((yW _).1 ..)▸?_;exact v1
 ·refine((yW _).2 hout ..)▸?_;exact v2
 ·refine eL (p2 t ht) λa b c _=>?_;exact⟨a,b,c⟩
 ·have:=aa m1 n1;rw[p6]at this;exact aa (ao _ _) this
 ·have:=aa m2 n2;rw[qN]at this;exact aa (ao _ _) this
theorem xg{ts:List T}(h:∀t∈ts,Cn t){D:Nat}(hD:∀p∈cv ts,p.dp≤D):∀t∈ie ts,t.dp≤D+2:=λt ht=>by
 refine dE (xf h) λf1 _ _=>?_;refine dE (um (Ah .nil f1:pi (rj (cv ts)))) λp1 p2 p3=>?_;refine eL (p2 t ht) λa b c d=>?_;refine eL (xc a b c) λs1 s2 s3 s4=>?_;have hk:t.split.2.dp≤D:=by
  refine(qO (key:=nL) d).elim (λz11=>aG z11 λq hq _=>?_) λz12=>aG z12 λu hu e=>?_
  ·exact cg hq
  ·have e:t.split.2=u.split.2:=e;refine(e ..).symm▸?_;exact aa (BF u) (hD u hu)
 refine(s4 ..)▸?_;exact aa (I1 s1.nn s2) (by exact nw [_,_] (.d yA yB .n) (.a yA (.k 2)) (.a yB (.k 2)) rfl hk)
theorem Am{ts:List T}(h:∀t∈ts,Cn t){D:Nat}(hD:∀p∈cv ts,p.dp≤D):(km ts).dp≤D+4:=by
 refine(Aj ..).symm▸?_;have key (l:List T) (hl:∀t∈l,t.dp≤D+2):(ph l).dp≤D+4:=by
  match l,hl with
  | [],_=>show 1≤_;exact nw [_] .n (.k 1) (.a yA (.k 4)) rfl
  | [t],hl=>have:=hl t (.head _);show t.dp≤_;exact nw [_,_] (.d yA (.a yB (.k 2)) .n) yA (.a yB (.k 4)) rfl this
  |t::u::r,hl=>have:=fL.mpr hl;show k6 _+2≤_;exact nw [_,_] (.d yA (.a yB (.k 2)) .n) (.a yA (.k 2)) (.a yB (.k 4)) rfl this
 refine key _ λt ht=>?_;refine(List.mem_append.mp ht).elim (λht=>?_) λht=>?_
 ·exact(xg h hD) t ((fK _).mem_iff.mp ht)
 ·unfold dq at ht;split at ht
  ·exact cg ht
  ·refine(ae.mp ht ..).symm▸?_;show 1≤_;exact nw [_] .n (.k 1) (.a yA (.k 2)) rfl
theorem p8{key:T→T×Int}:∀ {us:List T} {c:gw},(c.map (·.1)++us.map λu=>(key u).1).Nodup→kP key us c=c++us.map λu=>((key u).1,0+(key u).2)
 | [],c,_=>by simp
 |u::us,c,h=>by
  have hn:∀p∈c,p.1≠(key u).1:=λp hp e=>by
   exact((dw.mp h).2.2 p.1 (sB hp) (key u).1 (by simp)) e
  have hl:di c (key u).1=none:=by
   induction q:di c (key u).1 with
   |none=>rfl
   |some j=>exact absurd rfl (hn ((key u).1,j) (gL q))
  have hs:jt c (key u).1 (key u).2=c++ [((key u).1,0+(key u).2)]:=by
   unfold jt rU;rw[hl,if_neg]
   ·rfl
   ·simp only[iD,not_exists,not_and];exact λp hp e=>hn p hp (iy _ _ e)
  show kP key us (jt c (key u).1 (key u).2)=_;rw[hs,p8]
  ·simp
  ·simpa using h
theorem An{fs:List T}{k:Int}(hk:0≤k)(hs:fX fs)(hf:∀t∈fs,Cn t∧t.isNum=false∧t.isSum=false)(hN:(fs.map λt=>t.split.2).Nodup):km (fs++dq k)=ph (fs++dq k):=by
 have e1:cv (fs++dq k)=fs++dq k:=by
  have a:cv fs=fs:=by
   have:∀l:List T,(∀t∈l,t.isSum=false)→cv l=l:=λl hl=>by
    induction l with
    |nil=>rfl
    |cons t l ih=>
     show gu t++cv l=_;refine(ih λu hu=>hl u (.tail _ hu) ..).symm▸?_;have:=hl t (.head _)
     induction t using T.casesOn<;>first|rfl|exact m7 this
   exact this fs λt ht=>(hf t ht).2.2
  unfold cv at a⊢;refine(GR ..).symm▸(a ..).symm▸?_;unfold dq;split<;>simp[gu]
 have r (t:T) (ht:t∈fs):=xc (hf t ht).1 (hf t ht).2.1 (hf t ht).2.2;have ne1:∀t∈fs,t.split.2≠.num 1:=λt ht e=>by have:=(r t ht).1.nn;rw[e]at this;exact m7 this
 have e2:rj (fs++dq k)=fs.map nL++(if k=0 then []else [(.num 1,k)]):=by
  rw[Ai,p8]
  ·unfold dq;split<;>simp[nL,show(T.num k).split=(k,.num 1)from rfl]
  ·simp only[jC,bL,bS];rw[dw];refine⟨hN,?_,λx hx y hy=>?_⟩
   ·unfold dq;split<;>simp
   ·refine aG (List.mem_map.mp hx) λt ht z4=>?_;obtain rfl:=z4;unfold dq at hy;split at hy
    ·exact cg hy
    ·simp only[aE,jC,ae]at hy;refine(hy ..).symm▸?_;exact ne1 t ht
 have l1:di (fs.map nL) (.num 1)=none:=by
  induction q:di (fs.map nL) (.num 1)with
  |none=>rfl
  |some j=>
   refine aG (List.mem_map.mp (gL q)) λt ht e=>?_;exact absurd (congrArg (·.1) e) (ne1 t ht)
 have look_app:∀(c d:gw)(t:T),di (c++d) t=(di c t).or (di d t):=λc d t=>by
  induction c with
  |nil=>rfl
  |cons p c ih=>
   rw[ck,qH.2,qH.2];split
   ·rfl
   ·exact ih
 have e3:mn (fs++dq k)=k:=by
  unfold mn;refine(e1 ..).symm▸(e2 ..).symm▸(look_app ..).symm▸(l1 ..).symm▸?_;split
  ·rename_i q;subst q;rfl
  ·simp[qH,de]
 have e4:mY (fs.map nL++(if k=0 then []else [(.num 1,k)])) (.num 1)=fs.map nL:=by
  unfold mY;refine(tQ ..).symm▸?_;have a:(fs.map nL).filter (λp=>!lQ p.1 (.num 1))=fs.map nL:=List.filter_eq_self.mpr λp hp=>by
   refine aG (List.mem_map.mp hp) λt ht z5=>?_;obtain rfl:=z5;refine(oq (ne1 t ht) ..).symm▸?_;rfl
  refine(a ..).symm▸?_;split<;>simp[de]
 have e5:ie (fs++dq k)=fs:=by
  unfold ie;refine(e1 ..).symm▸(e2 ..).symm▸(e4 ..).symm▸?_;have a:(fs.map nL).filter (λp=>!(p.2==0))=fs.map nL:=List.filter_eq_self.mpr λp hp=>by
   refine aG (List.mem_map.mp hp) λt ht z6=>?_;obtain rfl:=z6;have:=(r t ht).2.1;show(!(t.split.1==0))=true;rw[beq_eq_false_iff_ne.mpr (by omega)];rfl
  refine(a ..).symm▸(bZ ..).symm▸?_
  conv=>rhs;rw[←xQ fs]
  exact bp λt ht=>(r t ht).2.2.2
 have e6:km (fs++dq k)=ph (eK (ie (fs++dq k))++dq (mn (fs++dq k))):=rfl;rw[e6,e5,e3,Bl hs]
noncomputable def CH(t:T):Prop:=Cn t∧t.isNum=false∧t.isProd=false
theorem lX{b:T}(h:er b=true):b.isNum=false∧b.isProd=false∧be b=(b,1):=by induction b using T.casesOn<;>first|exact⟨rfl,rfl,rfl⟩|exact dC h
theorem oO{t:T}(h:CH t):Cn (be t).1∧er (be t).1=true∧1≤(be t).2∧md (be t).1 (be t).2=t∧(be t).1.dp≤t.dp:=by
 refine dE h λh1 h2 h3=>?_;clear h
 induction t using T.casesOn with
 |num i=>exact m7 h2
 |prod l=>exact m7 h3
 |pow b i=>
  refine⟨h1.1,h1.2.1,by have:=h1.2.2;show 1≤i;omega,?_,?_⟩
  ·show md b i=_;unfold md;rw[if_neg (by have:=h1.2.2;omega)]
  ·show b.dp≤max b.dp 1+1;exact aa (aS _ _) (ao _ _)
 |_=>exact⟨h1,rfl,e8 _,rfl,ak _⟩
theorem lY{b:T}{j:Int}(hb:Cn b)(h:er b=true)(hj:1≤j):CH (md b j)∧be (md b j)=(b,j)∧(md b j).val=b.val^j.toNat∧(md b j).lf=b.lf+(if j=1 then 0 else 1)∧(md b j).dp≤max b.dp 1+1:=by
 refine dE (lX h) λf1 f2 f3=>?_;unfold md
 by_cases q:j=1
 ·refine if_pos q ..▸if_pos q ..▸?_;subst q;exact⟨⟨hb,f1,f2⟩,f3,by simp,rfl,by exact aa (aS _ _) (ao _ _)⟩
 ·refine if_neg q ..▸if_neg q ..▸?_;exact⟨⟨⟨hb,h,by omega⟩,rfl,rfl⟩,rfl,rfl,rfl,ak _⟩
noncomputable def PP(t:T):Prop:=(∃k,t=.num k∧1≤k)∨CH t
theorem oP{l:List T}(h:Cn (.prod l)):∀t∈l,PP t:=λt ht=>by
 refine aB h λp1 z2=>?_;refine CL z2 λk fs z1 h1 _ _ _ h5 _=>?_;clear h;obtain rfl:=z1;have hc:=cW.mp p1 t ht;refine(List.mem_append.mp ht).elim (λht=>?_) λht=>?_
 ·unfold eC at ht;split at ht
  ·exact cg ht
  ·refine ae.mp ht ..▸?_;exact .inl (aV k rfl h1)
 ·exact .inr ⟨hc,h5 t ht⟩
theorem tt{ts:List T}(h:∀t∈ts,Cn t):(∀p∈bu ts,PP p)∧dA (bu ts)=dA ts∧eD (bu ts)=eD ts:=by
 induction ts with
 |nil=>exact⟨(λ_ h=>by exact cg h),rfl,rfl⟩
 |cons t ts ih=>
  refine dE (ih λu hu=>h u (.tail _ hu)) λi1 i2 i3=>?_;have ht:=h t (.head _);show(∀p∈jO t++bu ts,_)∧dA (jO t++bu ts)=_∧eD (jO t++bu ts)=_;rw[IW,qN,i2,i3,ju.2,iJ.2]
  induction t using T.casesOn with
  |prod l=>
   refine⟨λp hp=>?_,rfl,rfl⟩;refine(List.mem_append.mp hp).elim (λhp=>?_) λhp=>?_
   ·exact oP ht p hp
   ·exact i1 p hp
  |num k=>
   refine⟨λp hp=>?_,by simp[jO,ju],by simp[jO,iJ]⟩;refine(List.mem_append.mp hp).elim (λhp=>?_) λhp=>?_
   ·refine ae.mp hp ..▸?_;exact .inl (aV k rfl ht)
   ·exact i1 p hp
  |_=>
   refine⟨λp hp=>?_,by simp[jO,ju],by simp[jO,iJ]⟩;refine(List.mem_append.mp hp).elim (λhp=>?_) λhp=>?_
   ·refine ae.mp hp ..▸?_;exact .inr ⟨ht,rfl,rfl⟩
   ·exact i1 p hp
theorem Gc{c:gw}{t:T}(h:t.isNum=false):BE c t=jt c (be t).1 (be t).2:=by induction t using T.casesOn<;>first|rfl|exact m7 h
theorem vR : ∀(us : List T)(c : gw), us.foldl BE c = kP be (us.filter λt => !t.isNum) c
  | [], _ => rfl
  | u :: us, c => by
    refine (gY ..).symm ▸ (bk ..).symm ▸ (vR us ..).symm ▸ ?_
    induction h : u.isNum with
    | true => induction u using T.casesOn <;> first | exact nsN h | exact dC h | cases h | skip
              rfl
    | false => refine (Gc h ..).symm ▸ ?_; rfl
noncomputable def I4(t:T)(e:Int):Nat:=t.val^e.toNat
noncomputable def I5(t:T)(e:Int):Nat:=max t.lf 1+if e=1 then 0 else 1
theorem LB(t:T)(a b:Int)(ha:1≤a)(hb:1≤b):I4 t (a+b)≤I4 t a*I4 t b:=by
 unfold I4;rw[Int.toNat_add (by omega) (by omega),Nat.pow_add];exact ak _
theorem LC(t:T)(a b:Int)(ha:1≤a)(hb:1≤b):I5 t (a+b)≤I5 t a+I5 t b:=by
 unfold I5;split<;>split<;>split<;>omega
theorem xh{t:T}(h:CH t):I4 (be t).1 (be t).2=t.val∧I5 (be t).1 (be t).2=t.lf:=by
 refine m8 (oO h) λa b c d _=>?_;refine m8 (lY a b c) λ_ _ v l _=>?_;rw[d]at v l;unfold I4 I5;refine v ..▸l ..▸(show max (be t).1.lf 1=(be t).1.lf by exact aC (dX (λq0=>q0) (λq0=>aa q0 ((cz a).2.1))) ((aS _ _))).symm▸?_;exact⟨rfl,rfl⟩
structure OW (c:gw):Prop where
 nod:p0 c
 pos:∀p∈c,1≤p.2
 key:∀p∈c,Cn p.1∧er p.1=true
theorem EP{us:List T}(h:∀u∈us,CH u):OW (kP be us []):=by
 have hp:∀u∈us,1≤(be u).2:=λu hu=>(oO (h u hu)).2.2.1;refine aB (BI (key:=be) (us:=us) (c:= []) dP (λ_ h=>by exact cg h) hp) λa b=>?_;refine⟨a,b,λp hp=>?_⟩;refine(qO hp).elim (λz1=>aG z1 λq hq _=>?_) λz2=>aG z2 λu hu e=>?_
 ·exact cg hq
 ·refine e ..▸?_;exact⟨(oO (h u hu)).1,(oO (h u hu)).2.1⟩
noncomputable def p9(c:gw):List T:=c.map λp=>md p.1 p.2
theorem I6{c:gw}(h:OW c):(∀t∈p9 c,CH t∧((be t).1,(be t).2)∈c)∧((p9 c).map λt=>(be t).1).Nodup∧dA (p9 c)=i0 I4 c∧eD (p9 c)=mq I5 c:=by
 refine⟨λt ht=>?_,?_,?_,?_⟩
 ·refine aG (List.mem_map.mp ht) λp hp z3=>?_;obtain rfl:=z3;refine aB (h.key p hp) λk1 k2=>?_;refine dE (lY k1 k2 (h.pos p hp)) λa b _=>?_;refine b ..▸?_;exact⟨a,hp⟩
 ·unfold p9;refine(bZ ..).symm▸?_;have:c.map ((λt=>(be t).1)∘λp=>md p.1 p.2)=c.map (·.1):=bp λp hp=>by
   refine aB (h.key p hp) λk1 k2=>?_;show(be (md p.1 p.2)).1=p.1;exact((lY k1 k2 (h.pos p hp)).2.1 ..).symm▸rfl
  refine(this ..).symm▸?_;exact h.nod
 ·have key (d:gw) (hd:∀p∈d,p∈c):dA (p9 d)=i0 I4 d:=by
   induction d with
   |nil=>rfl
   |cons p d ih=>
    have hp:=hd p (.head _);refine aB (h.key p hp) λk1 k2=>?_;show(md p.1 p.2).val*dA (p9 d)=_;refine(ih λq hq=>hd q (.tail _ hq) ..).symm▸(((lY k1 k2 (h.pos p hp)).2.2.1) ..).symm▸?_;rfl
  exact key c λ_ h=>h
 ·have key (d:gw) (hd:∀p∈d,p∈c):eD (p9 d)=mq I5 d:=by
   induction d with
   |nil=>rfl
   |cons p d ih=>
    have hp:=hd p (.head _);refine aB (h.key p hp) λk1 k2=>?_;show(md p.1 p.2).lf+eD (p9 d)=_;refine(ih λq hq=>hd q (.tail _ hq) ..).symm▸(((lY k1 k2 (h.pos p hp)).2.2.2.1) ..).symm▸?_;simp only[mq,aE,jd,I5,show max p.1.lf 1=p.1.lf by exact aC (dX (λq0=>q0) (λq0=>aa q0 ((cz k1).2.1))) ((aS _ _))]
  exact key c λ_ h=>h
theorem Ao:∀ {us:List T} {k:Int},(∀u∈us,PP u)→1≤k→1≤us.foldl mN k∧
  (us.foldl mN k).toNat*dA (us.filter λt=>!t.isNum)=k.toNat*dA us∧
  ((us.foldl mN k≠k→1+eD (us.filter λt=>!t.isNum)≤eD us)∧eD (us.filter λt=>!t.isNum)≤eD us)
 | [],k,_,hk=>⟨hk,rfl,(λe=>absurd rfl e),ak _⟩
 |u::us,k,h,hk=>by
  have h':=λv hv=>h v (kR _ hv);rcases h u (.head _)with⟨i,rfl,hi⟩|hf
  ·have hki:1≤k*i:=by have:=cH hi (show 0≤k by omega);omega
   refine eL (Ao (us:=us) (k:=k*i) h' hki) λa b c d=>?_;refine gY ..▸?_;show 1≤us.foldl mN (k*i)∧(us.foldl mN (k*i)).toNat*dA (us.filter λt=>!t.isNum)=_∧_;refine⟨a,?_,λ_=>?_,?_⟩
   ·rw[b,ju.2,CC (by omega) (by omega)];simp only[fG,gh]
   ·show 1+eD (us.filter _)≤1+eD us;exact nw [_,_] (.d yA yB .n) (.a (.k 1) yA) (.a (.k 1) yB) rfl d
   ·show eD (us.filter _)≤1+eD us;exact aa d (aD _ _)
  ·have hn:=hf.2.1;refine eL (Ao (us:=us) (k:=k) h' hk) λa b c d=>?_;have e:mN k u=k:=by induction u using T.casesOn<;>first|rfl|exact m7 hn
   refine(gY ..).symm▸(e ..).symm▸(bk ..).symm▸(hn ..).symm▸?_;refine⟨a,?_,λq=>?_,?_⟩
   ·show _*(u.val*dA _)=k.toNat*(u.val*dA us);exact(jW ..).symm▸(b ..).symm▸(jW ..).symm▸rfl
   ·have:=c q;show 1+(u.lf+eD _)≤u.lf+eD us;exact nw [_,_,_] (.d (.a (.k 1) yA) yB .n) (.a (.k 1) (.a yC yA)) (.a yC yB) rfl this
   ·show u.lf+eD _≤u.lf+eD us;exact nw [_,_,_] (.d yA yB .n) (.a yC yA) (.a yC yB) rfl d
theorem xi{fs:List T}(hne:fs≠ [])(hf:∀t∈fs,t.isNum=false∧t.isProd=false):(rV fs).isNum=false∧f8 (rV fs)=fs∧(rV fs).val=dA fs∧(rV fs).lf=eD fs:=by
 match fs,hne,hf with
 | [t],_,hf=>
  have:=hf t (.head _);refine⟨this.1,?_,by simp[rV,ju],by simp[rV,iJ]⟩
  induction t using T.casesOn<;>first|rfl|exact m7 this.2
 |t::u::r,_,_=>exact⟨rfl,rfl,rfl,rfl⟩
theorem vS{fs:List T}{k:Int}(hk:1≤k)(hne:fs≠ [])(hs:fX fs)(hf:∀t∈fs,CH t)(hN:(fs.map λt=>(be t).1).Nodup):Cn (dT k (rV fs))∧(dT k (rV fs)).val=k.toNat*dA fs∧(dT k (rV fs)).lf=(if k=1 then 0 else 1)+eD fs∧dT k (rV fs)=rV (eC k++fs):=by
 refine eL (xi hne λt ht=>(hf t ht).2) λo1 o2 o3 o4=>?_;have hcl:xU fs:=cW.mpr λt ht=>(hf t ht).1
 by_cases q:k=1
 ·subst q;refine(nK o1 ..).symm▸(if_pos rfl ..).symm▸(o3 ..).symm▸(o4 ..).symm▸?_;refine⟨?_,by simp,by simp,rfl⟩;rcases fs with _|⟨t,_|⟨u,r⟩⟩
  ·exact absurd rfl hne
  ·exact(hf t (.head _)).1
  ·exact⟨hcl,1,t::u::r,rfl,hk,by simp,by simp,hs,λv hv=>(hf v hv).2,hN⟩
 ·have hh:eC k= [.num k]:=by unfold eC;exact if_neg q ..▸rfl
  rw[lA o1 (by omega),o2,if_neg q,hh];refine fe (iu hne) λf r z4=>?_;obtain rfl:=z4;exact⟨⟨⟨hk,hcl⟩,k,f::r,by refine hh ..▸?_;rfl,hk,by simp,by simp,hs,λv hv=>(hf v hv).2,hN⟩,rfl,rfl,rfl⟩
theorem qd{ts:List T}(h:∀t∈ts,Cn t)(hne:ts≠ []):Cn (fR ts)∧(fR ts).val≤dA ts∧(fR ts).lf≤eD ts∧(∀t∈d4 ts,CH t)∧1≤nF (bu ts)∧(nF (bu ts)).toNat≤dA ts∧dA (d4 ts)≤dA ts∧eD (d4 ts)≤eD ts:=by
 refine dE (tt h) λf1 f2 f3=>?_;refine eL (Ao (us:=bu ts) (k:=1) f1 (by decide)) λn1 n2 n3 n4=>?_;have hfac:∀u∈(bu ts).filter (λt=>!t.isNum),CH u:=λu hu=>by
  refine aB (List.mem_filter.mp hu) λhu hq=>?_;rcases f1 u hu with⟨k,rfl,_⟩|hf
  ·exact dC hq
  ·exact hf
 have hc:=EP hfac;have hce:Ac (bu ts)=kP be ((bu ts).filter λt=>!t.isNum) []:=vR _ _;rw[←hce]at hc;refine eL (I6 hc) λc1 c2 c3 c4=>?_;have hr:d4 ts=p9 (Ac (bu ts)):=rfl;have hpos:∀u∈(bu ts).filter (λt=>!t.isNum),1≤(be u).2:=λu hu=>(oO (hfac u hu)).2.2.1;have m1:i0 I4 (Ac (bu ts))≤dA ((bu ts).filter λt=>!t.isNum):=by
  have:=xd LB (key:=be) (us:=(bu ts).filter λt=>!t.isNum) (c:= []) dP (λ_ h=>by exact cg h) hpos;rw[←hce]at this;rw[(bp λu hu=>(xh (hfac u hu)).1:((bu ts).filter λt=>!t.isNum).map (λu=>I4 (be u).1 (be u).2)=((bu ts).filter λt=>!t.isNum).map T.val),←xe]at this;simpa[tn]using this
 have m2:mq I5 (Ac (bu ts))≤eD ((bu ts).filter λt=>!t.isNum):=by
  have:=qM LC (key:=be) (us:=(bu ts).filter λt=>!t.isNum) (c:= []) dP (λ_ h=>by exact cg h) hpos;rw[←hce]at this;rw[(bp λu hu=>(xh (hfac u hu)).2:((bu ts).filter λt=>!t.isNum).map (λu=>I5 (be u).1 (be u).2)=((bu ts).filter λt=>!t.isNum).map T.lf),←mO]at this;simpa[mq]using this
 have n1:1≤nF (bu ts):=n1;have n2:(nF (bu ts)).toNat*dA ((bu ts).filter λt=>!t.isNum)=dA ts:=by
  refine (n2:(nF (bu ts)).toNat*dA ((bu ts).filter λt=>!t.isNum)=(1:Int).toNat*dA (bu ts)) ..▸f2 ..▸?_;simp
 have n3:nF (bu ts)≠1→1+eD ((bu ts).filter λt=>!t.isNum)≤eD ts:=λq=>by refine(f3 ..)▸?_;exact n3 q
 rw[f3]at n4;have hp:=fK (d4 ts);have hfs:∀t∈eK (d4 ts),CH t:=λt ht=>(c1 t (hr▸hp.mem_iff.mp ht)).1;have hNod:((eK (d4 ts)).map λt=>(be t).1).Nodup:=(hp.map _).nodup_iff.mpr (hr▸c2);have hv:dA (eK (d4 ts))≤dA ((bu ts).filter λt=>!t.isNum):=by refine F8 hp ..▸hr ..▸c3 ..▸?_;exact m1
 have hl:eD (eK (d4 ts))≤eD ((bu ts).filter λt=>!t.isNum):=by refine BJ hp ..▸hr ..▸c4 ..▸?_;exact m2
 have hN:(nF (bu ts)).toNat≤dA ts:=by refine(n2 ..)▸?_;exact pv _ (IX λu hu=>(cz (hfac u hu).1).1:1≤dA ((bu ts).filter λt=>!t.isNum))
 refine⟨?_,?_,?_,λt ht=>(c1 t (hr▸ht)).1,n1,hN,?_,?_⟩
 ·unfold fR;split
  ·exact n1
  ·rename_i fs hne2;exact(vS n1 hne2 (k5 _) hfs hNod).1
 ·unfold fR;split
  ·exact hN
  ·rename_i fs hne2;refine (vS n1 hne2 (k5 _) hfs hNod).2.1 ..▸(n2 ..)▸?_;exact eN _ hv
 ·unfold fR;split
  ·refine fe (iu hne) λt r z5=>?_;obtain rfl:=z5;show 1≤t.lf+eD r;exact aa ((cz (h t (.head _))).2.1) (ao _ _)
  ·rename_i fs hne2;refine (vS n1 hne2 (k5 _) hfs hNod).2.2.1 ..▸?_
   by_cases q:nF (bu ts)=1
   ·refine if_pos q ..▸?_;exact nw [_,_,_] (.d yA yB (.d yC yA .n)) (.a (.k 0) yC) yB rfl n4 hl
   ·refine if_neg q ..▸?_;have:=n3 q;exact nw [_,_,_] (.d yA yB (.d (.a (.k 1) yB) yC .n)) (.a (.k 1) yA) yC rfl hl this
 ·refine hr ..▸c3 ..▸(n2 ..)▸?_;exact aa m1 (eW _ (by omega))
 ·refine hr ..▸c4 ..▸?_;exact aa m2 n4
theorem BL{ts:List T}(h:∀t∈ts,Cn t){D:Nat}(hD:∀p∈bu ts,p.dp≤D):∀t∈d4 ts,(be t).1.dp≤D∧t.dp≤max D 1+1:=λt ht=>by
 refine dE (tt h) λf1 _ _=>?_;have hfac:∀u∈(bu ts).filter (λt=>!t.isNum),CH u:=λu hu=>by
  refine aB (List.mem_filter.mp hu) λhu hq=>?_;rcases f1 u hu with⟨k,rfl,_⟩|hf
  ·exact dC hq
  ·exact hf
 have hc:=EP hfac;have hce:Ac (bu ts)=kP be ((bu ts).filter λt=>!t.isNum) []:=vR _ _;have ht:t∈p9 (Ac (bu ts)):=ht;rw[hce]at ht;refine aG (List.mem_map.mp ht) λp hp z1=>?_;obtain rfl:=z1;refine aB (hc.key p hp) λk1 k2=>?_;refine m8 (lY k1 k2 (hc.pos p hp)) λ_ b _ _ d=>?_;have hk:p.1.dp≤D:=by
  refine(qO hp).elim (λz1=>aG z1 λq hq _=>?_) λz2=>aG z2 λu hu e=>?_
  ·exact cg hq
  ·refine(e ..).symm▸?_;exact aa (oO (hfac u hu)).2.2.2.2 (hD u (List.mem_filter.mp hu).1)
 refine(b ..).symm▸?_;exact⟨hk,by exact dX (λq0=>nw [_,_,_,_,_] (.d yA (.s yB) (.d yC yD (.d yD yE (.d yB yC .n)))) yA (.s yE) rfl d hk (aS _ _) q0) (λq0=>nw [_,_,_] (.d yA (.s yB) (.d (.k 1) yC (.d yB (.k 1) .n))) yA (.s yC) rfl d (bQ _ _) q0)⟩
theorem tu{ts:List T}(h:∀t∈ts,Cn t){D:Nat}(hD:∀p∈bu ts,p.dp≤D):(fR ts).dp≤max D 1+3:=by
 have hr:=BL h hD;have hp:=fK (d4 ts);refine dE (tt h) λf1 _ _=>?_;have hpp:∀t∈d4 ts,CH t:=by
  by_cases e:ts= []
  ·subst e;intro t ht;exact cg ht
  ·exact(qd h e).2.2.2.1
 unfold fR;split
 ·show 1≤_;exact nw [_] .n (.k 1) (.a yA (.k 3)) rfl
 ·rename_i fs hne;have h2:∀t∈eK (d4 ts),t.dp≤max D 1+1:=λt ht=>(hr t (hp.mem_iff.mp ht)).2;have h3:=fL.mpr h2;refine eL (xi hne λt ht=>(hpp t (hp.mem_iff.mp ht)).2) λo1 o2 o3 o4=>?_;have ho:(rV (eK (d4 ts))).dp≤max D 1+3:=by
   match eK (d4 ts),hne,h2,h3 with
   | [t],_,h2,_=>have:=h2 t (.head _);show t.dp≤_;exact nw [_,_] (.d yA (.s yB) .n) yA (.a yB (.k 3)) rfl this
   |t::u::r,_,_,h3=>show k6 _+2≤_;exact nw [_,_] (.d yA (.s yB) .n) (.a yA (.k 2)) (.a yB (.k 3)) rfl h3
  unfold dT;split
  ·show 1≤_;exact nw [_] .n (.k 1) (.a yA (.k 3)) rfl
  ·split
   ·exact ho
   ·refine(o2 ..).symm▸?_;show k6 (_::_)+2≤_;simp only[pH,cA];omega
theorem BM:∀ {fs:List T},(∀t∈fs,CH t)→(fs.map λt=>(be t).1).Nodup→kP be fs []=fs.map be:=λ{fs} hf hN=>by
 rw[p8 (by simpa using hN),bL];refine bp λt ht=>?_;show((be t).1,0+(be t).2)=be t;exact(iN ..).symm▸rfl
theorem xj{fs:List T}{k:Int}(hk:1≤k)(hs:fX fs)(hf:∀t∈fs,CH t)(hN:(fs.map λt=>(be t).1).Nodup)(hne:eC k++fs≠ []):fR (eC k++fs)=rV (eC k++fs):=by
 have a1:bu fs=fs:=by
  have:∀l:List T,(∀t∈l,t.isProd=false)→bu l=l:=λl hl=>by
   induction l with
   |nil=>rfl
   |cons t l ih=>
    show jO t++bu l=_;refine(ih λu hu=>hl u (.tail _ hu) ..).symm▸?_;have:=hl t (.head _)
    induction t using T.casesOn<;>first|rfl|exact m7 this
  exact this fs λt ht=>(hf t ht).2.2
 have e1:bu (eC k++fs)=eC k++fs:=by
  unfold bu at a1⊢;refine(GR ..).symm▸(a1 ..).symm▸?_;unfold eC;split<;>simp[jO]
 have f1:fs.filter (λt=>!t.isNum)=fs:=List.filter_eq_self.mpr λt ht=>by refine((hf t ht).2.1 ..).symm▸?_;rfl
 have n1:∀l:List T,(∀t∈l,t.isNum=false)→∀j,l.foldl mN j=j:=λl hl=>by
  induction l with
  |nil=>intro j;rfl
  |cons t l ih=>
   intro j;refine(gY ..).symm▸?_;have:=hl t (.head _);have e:mN j t=j:=by induction t using T.casesOn<;>first|rfl|exact m7 this
   refine(e ..).symm▸?_;exact ih (λu hu=>hl u (.tail _ hu)) j
 have e2:nF (bu (eC k++fs))=k:=by
  refine(e1 ..).symm▸?_;unfold nF;rw[List.foldl_append,n1 fs λt ht=>(hf t ht).2.1];unfold eC;split
  ·rename_i q;exact q.symm
  ·show 1*k=k;omega
 have e3:d4 (eC k++fs)=fs:=by
  unfold d4;refine(e1 ..).symm▸?_;unfold Ac;refine(vR ..).symm▸(tQ ..).symm▸(f1 ..).symm▸?_;have:(eC k).filter (λt=>!t.isNum)= []:=by unfold eC;split<;>simp[T.isNum]
  refine(this ..).symm▸(bL ..).symm▸(BM hf hN ..).symm▸(bZ ..).symm▸?_
  conv=>rhs;rw[←xQ fs]
  exact bp λt ht=>(oO (hf t ht)).2.2.2.1
 unfold fR;rw[e2,e3,Bl hs]
 induction fs using am with
 |nil=>
  show T.num k=rV (eC k++ []);unfold eC at hne⊢
  by_cases q:k=1
  ·rw[if_pos q]at hne;exact absurd rfl hne
  ·rw[if_neg q];rfl
 |cons f r=>exact(vS hk (by simp) hs hf hN).2.2.2
theorem qe{t:T}{j:Int}(h:Cn t)(hp:t.isProd=false)(hj:1≤j):Cn (su t j)∧(su t j).val=t.val^j.toNat∧(su t j).lf≤2*t.lf∧(su t j).dp≤max t.dp 1+1:=by
 induction t using T.casesOn with
 |prod l=>exact m7 hp
 |num i=>
  have hi:1≤i:=h;refine⟨?_,?_,by show 1≤2;decide,by show 1≤_;exact aD _ _⟩
  ·show 1≤i^j.toNat;have:∀k:Nat,1≤i^k:=λk=>by
    induction k with
    |zero=>simp
    |succ k ih=>
     refine(Int.pow_succ ..).symm▸?_;have:=cH hi (show 0≤i^k by omega);omega
   exact this _
  ·show(i^j.toNat).toNat=i.toNat^j.toNat;refine aY (eF (show 0≤i by omega)) λm z2=>?_;obtain rfl:=z2;refine(Int.natCast_pow ..)▸?_;rfl
 |pow c k=>
  refine dE h λh1 h2 h3=>?_;clear h;have hkj:1≤k*j:=by have:=cH hj (show 0≤k by omega);omega
  refine m8 (lY h1 h2 hkj) λa b c1 d e=>?_;refine⟨a.1,?_,?_,?_⟩
  ·show(md c (k*j)).val=(c.val^k.toNat)^j.toNat;rw[c1,CC (by omega) (by omega),Nat.pow_mul]
  ·show(md c (k*j)).lf≤2*(c.lf+1);refine(d ..).symm▸?_;split<;>omega
  ·show(md c (k*j)).dp≤max (max c.dp 1+1) 1+1;exact nw [_,_,_] (.d yA (.s yB) (.d (.s yB) yC .n)) yA (.s yC) rfl e (aS _ _)
 |sym x=>
  refine m8 (lY (b:=.sym x) h rfl hj) λa b c1 d e=>?_;exact⟨a.1,c1,by show(md (.sym x) j).lf≤_;refine(d ..).symm▸?_;show 1+_≤2*1;split<;>exact by decide,e⟩
 |sum l=>
  refine m8 (lY (b:=.sum l) h rfl hj) λa b c1 d e=>?_;have:=(cz (t:=.sum l) h).2.1;exact⟨a.1,c1,by show(md (.sum l) j).lf≤_;refine(d ..).symm▸?_;split<;>omega,e⟩
 |call u=>
  refine m8 (lY (b:=.call u) h rfl hj) λa b c1 d e=>?_;have:=(cz (t:=.call u) h).2.1;exact⟨a.1,c1,by show(md (.call u) j).lf≤_;refine(d ..).symm▸?_;split<;>omega,e⟩
theorem oQ{l:List T}(h:Cn (.prod l)):∀t∈l,Cn t∧t.isProd=false:=λt ht=>by
 refine⟨cW.mp h.1 t ht,?_⟩;rcases oP h t ht with⟨k,rfl,_⟩|hf
 ·rfl
 ·exact hf.2.2
theorem BN{l:List T}{j:Int}(hj:1≤j)(h:∀t∈l,Cn t∧t.isProd=false):dA (l.map λt=>su t j)=dA l^j.toNat∧eD (l.map λt=>su t j)≤2*eD l:=by
 induction l with
 |nil=>exact⟨by simp[ju],ak _⟩
 |cons t l ih=>
  refine aB (ih λu hu=>h u (.tail _ hu)) λi1 i2=>?_;refine eL (qe (h t (.head _)).1 (h t (.head _)).2 hj) λa b c _=>?_;simp only[aE,ju,iJ];refine(i1 ..).symm▸(b ..).symm▸(Nat.mul_pow ..).symm▸?_;exact⟨rfl,by exact nw [_,_,_,_] (.d yA (.m 2 yB) (.d yC (.m 2 yD) .n)) (.a yC yA) (.m 2 (.a yD yB)) rfl i2 c⟩
theorem OX{t:T}{j:Int}(h:Cn t)(hj:1≤j):Cn (pw t j)∧(pw t j).val≤t.val^j.toNat∧(pw t j).lf≤2*t.lf:=by
 by_cases hp:t.isProd=true
 ·induction t using T.casesOn<;>first|exact nsN hp|exact dC hp|cases hp|skip
  rename_i l;unfold pw
  by_cases q:j=1
  ·subst q;simp only[if_pos];exact⟨h,by simp,by exact nw [_] .n yA (.m 2 yA) rfl⟩
  ·simp only[if_neg q];have hl:=oQ h;have hne:l.map (λt=>su t j)≠ []:=by
    refine kD h.2 λk fs e _ h2 _=>?_;intro e2;rw[ma]at e2;rw[e2]at h2;simp at h2
   obtain⟨g1,g2,g3,_⟩:=qd (ts:=l.map λt=>su t j) (λt ht=>by
    refine aG (List.mem_map.mp ht) λu hu z3=>?_;obtain rfl:=z3;exact(qe (hl u hu).1 (hl u hu).2 hj).1) hne
   refine aB (BN hj hl) λv1 v2=>?_;rw[v1]at g2;exact⟨g1,g2,aa g3 v2⟩
 ·have hp:t.isProd=false:=by simpa using hp
  have e:pw t j=su t j:=by induction t using T.casesOn<;>first|rfl|exact m7 hp
  refine eL (qe h hp hj) λa b c _=>?_;refine(e ..).symm▸?_;exact⟨a,ah b,c⟩
mutual
noncomputable def bw:T→T
 |.num i=>.num i
 |.sym x=>.sym x
 |.sum l=>km (cj l)
 |.prod l=>fR (cj l)
 |.pow b i=>pw (bw b) i
 |.call t=>.call (bw t)
noncomputable def cj:List T→List T
 | []=> []
 |t::l=>bw t::cj l
end
theorem Ap:(cj []= [])∧(∀(t:T)(l:List T),cj (t::l)=bw t::cj l):=⟨rfl,λ_ _=>rfl⟩
theorem k8:(∀(i:Int),bw (T.num i)=T.num i)∧(∀(x_1:Nm),bw (T.sym x_1)=T.sym x_1)∧(∀(l:List T),bw (T.sum l)=km (cj l))∧(∀(l:List T),bw (T.prod l)=fR (cj l))∧(∀(b:T)(i:Int),bw (b.pow i)=pw (bw b) i)∧(∀(t:T),bw t.call=(bw t).call):=⟨λ_=>rfl,λ_=>rfl,λ_=>rfl,λ_=>rfl,λ_ _=>rfl,λ_=>rfl⟩
theorem i6:∀l:List T,cj l=l.map bw
 | []=>rfl
 |t::l=>by rw[Ap.2,i6 l];rfl
mutual
theorem oR:∀ {t:T},Cn t→bw t=t
 |.num i,_=>rfl
 |.sym _,_=>rfl
 |.sum l,h=>by
  rw[k8.2.2.1,eE h.1];refine Kd h.2 λfs k z4 h1 h2 h3 h4 h5=>?_;obtain rfl:=z4;have hc:=cW.mp h.1;refine(An h1 h3 (λt ht=>⟨hc t (cm _ ht),h4 t ht⟩) h5 ..).symm▸?_
  match fs++dq k,h2 with
  |a::b::r,_=>rfl
 |.prod l,h=>by
  rw[k8.2.2.2.1,eE h.1];refine CL h.2 λk fs z5 h1 h2 h3 h4 h5 h6=>?_;obtain rfl:=z5;have hc:=cW.mp h.1;refine(xj h1 h4 (λt ht=>⟨hc t (bJ _ ht),h5 t ht⟩) h6 (by intro e;rw[e]at h2;simp at h2) ..).symm▸?_
  match eC k++fs,h2 with
  |a::b::r,_=>rfl
 |.pow b i,h=>by
  rw[k8.2.2.2.2.1,oR h.1];have h2:=h.2.1;have e:pw b i=md b i:=by induction b using T.casesOn<;>first|rfl|exact dC h2
  rw[e,md,if_neg (by have:=h.2.2;omega)]
 |.call t,h=>by rw[k8.2.2.2.2.2,oR (t:=t) h]
theorem eE:∀ {l:List T},xU l→cj l=l
 | [],_=>rfl
 |t::l,h=>by rw[Ap.2,oR h.1,eE h.2]
end
mutual
noncomputable def Rw:T→Prop
 |.num i=>1≤i
 |.sym _=>True
 |.sum l=>Ge l∧l≠ []
 |.prod l=>Ge l∧l≠ []
 |.pow b i=>Rw b∧1≤i
 |.call t=>Rw t
noncomputable def Ge:List T→Prop
 | []=>True
 |t::l=>Rw t∧Ge l
end
theorem Ms:(Ge []=True)∧(∀(t:T)(l:List T),Ge (t::l)=(Rw t∧Ge l)):=⟨rfl,λ_ _=>rfl⟩
theorem Qc:(∀(i:Int),Rw (T.num i)=(1≤i))∧(∀(x_1:Nm),Rw (T.sym x_1)=True)∧(∀(l:List T),Rw (T.sum l)=(Ge l∧l≠ []))∧(∀(l:List T),Rw (T.prod l)=(Ge l∧l≠ []))∧(∀(b:T)(i:Int),Rw (b.pow i)=(Rw b∧1≤i))∧(∀(t:T),Rw t.call=Rw t):=⟨λ_=>rfl,λ_=>rfl,λ_=>rfl,λ_=>rfl,λ_ _=>rfl,λ_=>rfl⟩
mutual
noncomputable def T.lr:T→Nat
 |.num _=>1
 |.sym _=>1
 |.sum l=>J3 l
 |.prod l=>J3 l
 |.pow b _=>2*b.lr
 |.call t=>t.lr+1
noncomputable def J3:List T→Nat
 | []=>0
 |t::l=>t.lr+J3 l
end
theorem EQ:(J3 []=0)∧(∀(t:T)(l:List T),J3 (t::l)=t.lr+J3 l):=⟨rfl,λ_ _=>rfl⟩
theorem xO:(∀(i:Int),(T.num i).lr=1)∧(∀(x_1:Nm),(T.sym x_1).lr=1)∧(∀(l:List T),(T.sum l).lr=J3 l)∧(∀(l:List T),(T.prod l).lr=J3 l)∧(∀(b:T)(i:Int),(b.pow i).lr=2*b.lr)∧(∀(t:T),t.call.lr=t.lr+1):=⟨λ_=>rfl,λ_=>rfl,λ_=>rfl,λ_=>rfl,λ_ _=>rfl,λ_=>rfl⟩
mutual
theorem oS:∀ {t:T},Rw t→Cn (bw t)∧(bw t).val≤t.val∧(bw t).lf≤t.lr
 |.num i,h=>⟨h,ak _,ak _⟩
 |.sym _,_=>⟨trivial,ak _,ak _⟩
 |.sum l,h=>by
  refine eL (lZ (l:=l) h.1) λa b c d=>?_;have hne:cj l≠ []:=by refine(i6 ..).symm▸?_;simpa using h.2
  refine eL (Ak a hne) λg1 g2 g3 _=>?_;exact⟨g1,aa g2 b,aa g3 d⟩
 |.prod l,h=>by
  refine eL (lZ (l:=l) h.1) λa b c d=>?_;have hne:cj l≠ []:=by refine(i6 ..).symm▸?_;simpa using h.2
  refine eL (qd a hne) λg1 g2 g3 _=>?_;exact⟨g1,aa g2 c,aa g3 d⟩
 |.pow b i,h=>by
  refine dE (oS (t:=b) h.1) λa v l=>?_;refine dE (OX a h.2) λg1 g2 g3=>?_;simp only[k8,fG,xO];exact⟨g1,aa g2 (dR v _),by exact nw [_,_,_] (.c 2 yA yB (.d yC (.m 2 yA) .n)) yC (.m 2 yB) rfl l g3⟩
 |.call t,h=>by
  refine dE (oS (t:=t) h) λa v l=>?_;exact⟨a,by simp only[k8,fG];exact bh v,by simp only[k8,qn,xO];exact bh l⟩
theorem lZ:∀ {l:List T},Ge l→(∀t∈cj l,Cn t)∧fB (cj l)≤fB l∧dA (cj l)≤dA l∧eD (cj l)≤J3 l
 | [],_=>⟨(λ_ h=>by exact cg h),ak _,ak _,ak _⟩
 |t::l,h=>by
  refine dE (oS (t:=t) h.1) λa v f=>?_;refine eL (lZ (l:=l) h.2) λb c d e=>?_;simp only[Ap,iz,ju,iJ,EQ];refine⟨λu hu=>?_,by exact nw [_,_,_,_] (.d yA yB (.d yC yD .n)) (.a yA yC) (.a yB yD) rfl v c,bG v d,by exact nw [_,_,_,_] (.d yA yB (.d yC yD .n)) (.a yA yC) (.a yB yD) rfl f e⟩;rcases aA.mp hu with rfl|hu
  ·exact a
  ·exact b u hu
end
noncomputable def Vb:Nat:=1099511627776
mutual
theorem yZ:∀ {t:T},Cn t→2*t.ht+1≤t.dp
 |.num _,_=>by simp[qp,cA]
 |.sym _,_=>by simp[qp,cA]
 |.sum l,h=>by
  refine kD h.2 λfs k e _ h2 _=>?_;have hne:l≠ []:=by intro e2;rw[e2]at h2;simp at h2
  simp only[qp,cA];exact nw [_,_] (.d (.s (.m 2 yA)) yB .n) (.s (.m 2 (.s yA))) (.a yB (.k 2)) rfl ((Aq (l:=l) h.1) hne)
 |.prod l,h=>by
  refine kD h.2 λk fs e _ h2 _=>?_;have hne:l≠ []:=by intro e2;rw[e2]at h2;simp at h2
  simp only[qp,cA];exact aa ((Aq (l:=l) h.1) hne) (ao _ _)
 |.pow b i,h=>by have:=yZ (t:=b) h.1;simp only[qp,cA];exact nw [_,_,_] (.d (.s (.m 2 yA)) yB (.d yB yC .n)) (.s (.m 2 yA)) (.s yC) rfl this (aS _ _)
 |.call t,h=>by have:=yZ (t:=t) h;simp only[qp,cA];exact nw [_,_] (.d (.s (.m 2 yA)) yB .n) (.s (.m 2 (.s yA))) (.a yB (.k 2)) rfl this
theorem Aq:∀ {l:List T},xU l→l≠ []→2*tO l+1≤k6 l
 | [t],h,_=>by have:=yZ (t:=t) h.1;simp only[Bn,pH];exact dX (λq0=>nw [_,_,_,_] (.d (.s (.m 2 yA)) yB (.d yB yC (.c 2 yD yA .n))) (.s (.m 2 yD)) yC rfl this (aS _ _) q0) (λq0=>nw [_,_,_,_] (.d (.s (.m 2 yA)) yB (.d yB yC (.c 2 yD (.k 0) .n))) (.s (.m 2 yD)) yC rfl this (aS _ _) q0)
 |t::u::l,h,_=>by
  rw[Bn.2,pH.2];exact dX (λq0=>nw [_,_,_,_] (.d (.s (.m 2 yA)) yB (.d yB yC (.c 2 yD yA .n))) (.s (.m 2 yD)) yC rfl (yZ (t:=t) h.1) (aS _ _) q0) (λq0=>nw [_,_,_,_] (.d (.s (.m 2 yA)) yB (.d yB yC (.c 2 yD yA .n))) (.s (.m 2 yD)) yC rfl (Aq (l:=u::l) h.2 (by simp)) (bQ _ _) q0)
end
theorem I7{t:T}(h:CH t):er t=true∨(∃b i,t=.pow b i):=by
 refine dE h λ_ h2 h3=>?_;clear h
 induction t using T.casesOn<;>first|exact .inl rfl|exact .inr (ik _ _ rfl)|exact nsN h3|exact dC h3|(cases h3;done)|exact nsN h2|exact dC h2|(cases h2;done)
mutual
theorem BP:∀ {t:T},Cn t→t.val≤Vb→t.lf≤900→Gd t
 |.num i,h,hv,_=>by
  have:(1:Int)≤i:=h;simp only[fG,Vb]at hv;show i.natAbs<2^64;omega
 |.sym _,_,_,_=>trivial
 |.sum l,h,hv,hl=>⟨DD h.1 (λt ht=>aa (p7 ht) hv) hl,by have:=(gW h.1).2.1;have:eD l≤900:=hl;exact aa (by assumption) (aa this (by decide))⟩
 |.prod l,h,hv,hl=>by
  refine kD h.2 λk fs e _ h2 _=>?_;refine⟨DD h.1 (λt ht=>aa (kq ht λu hu=>(((gW h.1).2.2) u hu).1).1 hv) hl,by have:=(gW h.1).2.1;have:eD l≤900:=hl;exact aa (by assumption) (aa this (by decide)),by intro e2;rw[e2]at h2;simp at h2,λt ht=>?_⟩;rcases oP h t ht with⟨k,rfl,_⟩|hf
  ·exact .inr (.inr ⟨k,rfl⟩)
  ·exact(I7 hf).imp_right .inl
 |.pow b i,h,hv,hl=>by
  have h2:=(cz h.1).2.2 ((lX h.2.1).1:b.isNum=false);have h3:i.toNat<2^i.toNat:=me;have h4:2^i.toNat≤b.val^i.toNat:=dR h2 _;have h5:b.val^1≤b.val^i.toNat:=dJ (nw [_] (.d (.k 2) yA .n) (.s (.k 0)) yA rfl h2) (by have:=h.2.2;omega);rw[xX]at h5;have hv:b.val^i.toNat≤1099511627776:=hv;refine⟨BP h.1 (by unfold Vb;exact aa h5 hv) (by have:b.lf+1≤900:=hl;exact aW this),h.2.1,?_⟩;show i.natAbs<2^64;have:=h.2.2;omega
 |.call t,h,hv,hl=>BP (t:=t) h (by have:t.val+1≤Vb:=hv;exact aW this) (by have:t.lf+1≤900:=hl;exact aW this)
theorem DD:∀ {l:List T},xU l→(∀t∈l,t.val≤Vb)→eD l≤900→Bm l
 | [],_,_,_=>trivial
 |t::l,h,hv,hl=>by
  simp only[iJ]at hl;exact⟨BP h.1 (hv t (.head _)) (aa (ao _ _) hl),DD h.2 (λu hu=>hv u (.tail _ hu)) (aa (aD _ _) hl)⟩
end
theorem xk{t:T}(h:Cn t):(f8 t).length≤t.lf:=by
 induction t using T.casesOn<;>first|exact((cz h).2.1)|exact(gW h.1).2.1
theorem BQ{p:T}(h:Cn p)(hs:p.isSum=false):(f8 p.split.2).length≤p.lf∧p.split.1.natAbs≤p.val:=by
 refine aB (vQ h hs) λh1 h2=>?_;refine aB (uo h hs) λm1 m2=>?_;rcases h2 with⟨k,rfl,e⟩|⟨hn,a,b,e⟩
 ·rw[e]at*;refine⟨by show 1≤1;decide,?_⟩;show k.natAbs≤k.toNat;have h1:1≤k:=h1;omega
 ·have hl:=xk a.cn;have hlf:=(cz a.cn).2.1;refine(m1 ..)▸(m2 ..)▸?_;refine⟨?_,?_⟩
  ·unfold mL;refine (oq (by intro e;have:=a.nn;rw[e]at this;exact m7 this):lQ p.split.2 (.num 1)=false) ..▸?_;simp only[bR,if_false];exact nw [_,_,_,_] (.d yA yB (.d yB yC .n)) yA (.a yC yD) rfl hl (aS _ _)
  ·unfold mV;refine (by omega:p.split.1.natAbs=p.split.1.toNat) ..▸?_;exact pv _ ((cz a.cn).1)
theorem I8{us:List T}(h:∀p∈us,Cn p∧p.isSum=false):wY us≤fB us:=by
 induction us with
 |nil=>exact ak _
 |cons u us ih=>
  have h1:=ih λv hv=>h v (.tail _ hv);simp only[wY,aE,jd,iz]at h1⊢;exact nw [_,_,_,_] (.d yA yB (.d yC yD .n)) (.a yC yA) (.a yD yB) rfl h1 ((BQ (h u (.head _)).1 (h u (.head _)).2).2)
theorem nM{ts:List T}{D:Nat}(h:∀t∈ts,t.dp≤D):∀p∈cv ts,p.dp≤D:=λp hp=>by
 refine aG (List.mem_flatMap.mp hp) λt ht hp=>?_;have hd:=h t ht
 induction t using T.casesOn with
 |sum l=>
  simp only[cA]at hd;exact nw [_,_,_] (.d (.a yA (.k 2)) yB (.d yC yA .n)) yC yB rfl hd (fL.mp (ak (k6 l)) p hp)
 |_=>refine ae.mp hp ..▸?_;exact hd
theorem kr{ts:List T}{D:Nat}(h:∀t∈ts,t.dp≤D):∀p∈bu ts,p.dp≤D:=λp hp=>by
 refine aG (List.mem_flatMap.mp hp) λt ht hp=>?_;have hd:=h t ht
 induction t using T.casesOn with
 |prod l=>
  simp only[cA]at hd;exact nw [_,_,_] (.d (.a yA (.k 2)) yB (.d yC yA .n)) yC yB rfl hd (fL.mp (ak (k6 l)) p hp)
 |_=>refine ae.mp hp ..▸?_;exact hd
theorem Mt{t:T}(h:CH t):(be t).2.natAbs≤t.val:=by
 refine m8 (oO h) λa b c d _=>?_;have h3:(be t).2.toNat<2^(be t).2.toNat:=me;have h4:2^(be t).2.toNat≤(be t).1.val^(be t).2.toNat:=dR ((cz a).2.2 ((lX b).1)) _;have h5:=(xh h).1;unfold I4 at h5;omega
theorem vT{l:List T}(h:∀t∈l,1≤t.lf):l.length≤eD l:=by
 induction l with
 |nil=>exact ak _
 |cons t l ih=>
  have:=ih λu hu=>h u (.tail _ hu);have:=h t (.head _);simp only[aP,iJ];exact nw [_,_,_] (.d yA yB (.d (.k 1) yC .n)) (.s yA) (.a yC yB) rfl (by assumption) this
theorem PP.lf{t:T}(h:PP t):1≤t.lf∧1≤t.val:=by
 rcases h with⟨k,rfl,hk⟩|h
 ·exact⟨ak _,by simp only[fG];omega⟩
 ·exact⟨(cz h.1).2.1,(cz h.1).1⟩
theorem DE{a b:Int}:fR [.num a,.num b]=.num (a*b):=by
 unfold fR;refine(show d4 [.num a,.num b]= []from rfl).symm▸?_;show T.num (1*a*b)=_;exact xW ..▸rfl
noncomputable def LD(t:T)(j:Int):Prop:=(∃i,t=.num i∧1≤i∧Sm i)∨(∃c k,t=.pow c k∧er c=true∧2≤k∧k*j<2^64∧c.dp≤8)∨(er t=true∧t.dp≤8)
section
variable {n:Nat}
theorem Ar(hn:10≤n){a b:Int}(ha:1≤a)(hb:1≤b)(hs:a*b<2^64):bU n (ofString "gathered_product") [.list [dl a,dl b]] (dl (a*b)):=by
 have h:=ig (n:=n) (h:=1) (k:=0) (ts:= [.num a,.num b]) (by decide) hn (aa (by decide) hn) (show 0≤1 by decide) (show 2≤900 by decide) (λt ht=>by
  have ht:t∈ [T.num a,T.num b]:=ht;rcases aA.mp ht with rfl|ht
  ·exact .inl (aV _ rfl ha)
  ·refine ae.mp ht ..▸?_;exact .inl (aV _ rfl hb)) (by show(1*a*b).natAbs<_;refine xW ..▸?_;have:=(w8 ha hb).2.2;omega) (show 2<2^64 by decide) (λt ht=>by exact cg ht)
 rw[DE]at h;exact h
theorem ER(hn:12≤n){t:T}{j:Int}(h:LD t j)(h1:1≤j)(h2:j≤1000):bU n (ofString "power_of") [a9 t,dl j] (a9 (su t j)):=by
 rcases h with⟨i,rfl,hi,hs⟩|⟨c,k,rfl,hc,hk,hs,hd⟩|⟨hb,hd⟩
 rotate_right
 ·have e:su t j=md t j:=by induction t using T.casesOn<;>first|rfl|exact dC hb
  refine e ..▸?_;exact lW (aa (by decide) hn) hb (aa hd (by decide)) h1
 ·have c0:=(en j 0).trans (so (uk h1))
  induction q:(j==1)with
  |true=>
   refine(show su (.num i) j=.num i by rw[beq_iff_eq.mp q];show T.num (i^1)=_;rw[Int.pow_succ,Int.pow_zero,xW]).symm▸?_;exact aT (pos hn) fN [(0,bx (c0)),(1,bx ((en j 1).trans (so q)))] (by kernel_rfl)
  |false=>exact aT (pos hn) fN [(0,bx (c0)),(1,bx ((en j 1).trans (so q))),(1,bx (qK (b:=.num i) (Dx _))),(4,ar (ul (fz 3 hn) hi hs h1 h2))] (by kernel_rfl)
 ·have c0:=(en j 0).trans (so (uk h1));have k1:1≤k:=cK (by decide) hk
  induction q:(j==1)with
  |true=>
   refine(show su (.pow c k) j=.pow c k by rw[beq_iff_eq.mp q];show md c (k*1)=_;rw[nT,md,if_neg (λe=>by subst e;exact absurd hk (by decide))]).symm▸?_;exact aT (pos hn) fN [(0,bx (c0)),(1,bx ((en j 1).trans (so q)))] (by kernel_rfl)
  |false=>
   have w:=io (fz 1 hn) (.num j);exact aT (pos hn) fN [(0,bx (c0)),(1,bx ((en j 1).trans (so q))),(1,bx (qK (b:=.pow c k) (by simp only[cA];exact dX (λq0=>nw [_,_] (.d yA (.k 8) (.d yB yA .n)) (.s yB) (.k 64) rfl hd q0) (λq0=>nw [_] (.d yA (.k 1) .n) (.s yA) (.k 64) rfl q0)))),(4,ar (w)),(6,ar (w)),(8,ar (Ar (fz 10 hn) k1 h1 hs)),(0,ar (lW (fz 2 hn) hc (aa hd (by decide:8≤64)) (w8 k1 h1).2.2))] (by kernel_rfl)
theorem I9(hn:12≤n){j:Int}(h1:1≤j)(h2:j≤1000):∀(us:List T)(acc:List ab)(x:Option B),(∀t∈us,LD t j)→
  ∃x',fh (Call n) (bY 55) [4,0] [1] 10 (aL us) acc ⟨[(ofString "part",x),(ofString "exponent",some (.v (dl j)))],[]⟩ (acc++aL (us.map λt=>su t j)) ⟨[(ofString "part",x'),(ofString "exponent",some (.v (dl j)))],[]⟩:=by
 intro us
 induction us with
 |nil=>exact λacc x _=>aV x ((aF _).symm) rfl
 |cons u us ih=>
  intro acc x h;refine aY (ih (acc++ [a9 (su u j)]) (some (.v (a9 u))) λt ht=>h t (.tail _ ht)) λx' r=>?_;rw[aw]at r;refine⟨x',.cons ?_ r⟩;exact le [(1,ar (ER hn (h u (.head _)) h1 h2))] (by kernel_rfl)
theorem tw{h k:Nat}{l:List T}{j:Int}(hn:13≤n)(hn2:4*h+5+k≤n)(hk2:(d4 (l.map λt=>su t j)).length≤2^k)(hd:(T.prod l).dp≤64)(hw:∀t∈l,LD t j)(h1:2≤j)(h2:j≤1000)(h0:0<h)
  (hf:(bu (l.map λt=>su t j)).length≤900) (hp:∀t∈bu (l.map λt=>su t j),yU t) (ha:(nF (bu (l.map λt=>su t j))).natAbs<2^64) (he:mZ (bu (l.map λt=>su t j))<2^64)
  (hr:∀t∈d4 (l.map λt=>su t j),Gd t∧t.ht<h):bU n (ofString "power_of") [a9 (.prod l),dl j] (a9 (pw (.prod l) j)):=by
 have j1:1≤j:=cK (by decide) h1;have jn:j≠1:=λe=>by subst e;exact absurd h1 (by decide)
 refine aY (I9 (n:=n-1) (fz 12 hn) j1 h2 l [] none hw) λx r=>?_;refine(show pw (.prod l) j=fR (l.map λt=>su t j)from if_neg jn).symm▸?_;exact aT (pos hn) fN [(0,bx ((en j 0).trans (so (uk j1)))),(1,bx ((en j 1).trans (so (IQ jn)))),(1,bx (qK (b:=.prod l) hd)),(4,ar (io (fz 1 hn) (.num j))),(8,F.comp (r)),(0,ar (ig (n:=n-1) (h:=h) (k:=k) h0 (fz 10 hn) (bI (dc (by refine cL ..▸cL _ 5 ..▸?_;exact fg _) hn2)) hk2 hf hp ha he hr))] (by kernel_rfl)
theorem u8(hn:1≤n)(t:T):bU n (ofString "call_of") [.str (ofString "f"),.list [a9 t]] (a9 (.call t)):=by
 exact aT (pos hn) FM [] (by kernel_rfl)
theorem xl(hn:30≤n){ts:List T}(h:∀t∈ts,Cn t)(hne:ts≠ [])(hv:fB ts≤Vb)(hl:eD ts≤60)(hd:∀p∈cv ts,p.dp≤8):bU n (ofString "gathered_sum") [.list (aL ts)] (a9 (km ts)):=by
 refine dE (xf h) λf1 f2 f3=>?_;refine CK (Ak h hne) λg1 g2 g3 g4 g5 g6=>?_;have hlen:(cv ts).length≤60:=by
  exact nw [_,_,_] (.d yA (.k 60) (.d yB yA (.d yC yB .n))) yC (.k 60) rfl hl (ah f3) (vT (l:=cv ts) λt ht=>(cz (f1 t ht).1).2.1)
 have hr:=xg h hd;have hrl:(ie ts).length≤60:=by
  exact nw [_,_,_] (.d yA (.k 60) (.d yB yA (.d yC yB .n))) yC (.k 60) rfl hl g6 (vT (l:=ie ts) λt ht=>(cz (g4 t ht).1).2.1)
 refine nJ (h:=5) (k:=6) (by decide) (nw [_] (.d (.k 30) yA .n) (.a (.a (.m 4 (.k 5)) (.k 4)) (.k 6)) yA rfl hn) (aa hrl (by decide)) (aa hlen (by decide)) (λp hp=>?_) ?_ λt ht=>?_
 ·refine aB (f1 p hp) λc1 c2=>?_;have hlp:=k7 hp;refine⟨λe=>?_,?_,?_,hd p hp⟩
  ·rw[e]at c1;refine kD c1.2 λk fs e2 _ h2 _=>?_;simp at h2
  ·have:=xk c1;exact nw [_,_,_,_] (.d yA (.k 60) (.d yB yA (.d yC yB (.d yD yC .n)))) yD (.k 900) rfl hl (ah f3) hlp this
  ·have:=(BQ c1 c2).1;exact nw [_,_,_,_] (.d yA (.k 60) (.d yB yA (.d yC yB (.d yD yC .n)))) yD (.k 900) rfl hl (ah f3) hlp this
 ·have:=I8 f1;unfold Vb at hv;exact nw [_,_,_] (.d yA (.k 1099511627776) (.d yB yA (.d yC yB .n))) (.s yC) (.k 18446744073709551616) rfl hv (ah f2) this
 ·refine dE (g4 t ht) λc1 c2 c3=>?_;refine⟨BP c1 (aa (p7 ht) (aa g5 hv)) (aa (k7 ht) (aa g6 (aa hl (by decide)))),?_,c3⟩;have:=yZ c1;have:=hr t ht;exact nk [_,_] (.d (.s (.m 2 yA)) yB (.d yB (.a (.k 8) (.k 2)) .n)) 2 (.s yA) (.k 5) rfl (by assumption) this
theorem PP.ppart{t:T}(h:PP t)(hd:t.dp≤8):yU t:=by
 rcases h with⟨k,rfl,hk⟩|h
 ·exact .inl (aV k rfl hk)
 ·refine m8 (oO h) λa b c d e=>?_;exact .inr ⟨h.2.1,b,c,by exact aa e hd⟩
theorem Gf{us:List T}{V:Nat}(h:∀p∈us,(be p).2.natAbs≤V):mZ us≤us.length*V:=by
 induction us with
 |nil=>simp[mZ]
 |cons u us ih=>
  have:=ih λv hv=>h v (.tail _ hv);simp only[mZ,aE,jd,aP,nY]at this⊢;exact nw [_,_,_,_] (.d yA yB (.d yC yD .n)) (.a yC yA) (.a yB (.m 1 yD)) rfl this (h u (.head _))
theorem y0{ts:List T}(h:∀t∈ts,Cn t)(hne:ts≠ [])(hv:dA ts≤Vb)(hl:eD ts≤60)(hd:∀p∈bu ts,p.dp≤8):(d4 ts).length≤2^6∧(bu ts).length≤900∧(∀t∈bu ts,yU t)∧(nF (bu ts)).natAbs<2^64∧mZ (bu ts)<2^64∧∀t∈d4 ts,Gd t∧t.ht<5:=by
 refine dE (tt h) λf1 f2 f3=>?_;refine Py (qd h hne) λg1 g2 g3 g4 g5 g6 g7 g8=>?_;have hlen:(bu ts).length≤60:=by
  exact nw [_,_,_] (.d yA (.k 60) (.d yB yA (.d yC yB .n))) yC (.k 60) rfl hl (ah f3) (vT (l:=bu ts) λt ht=>(f1 t ht).lf.1)
 have hr:=BL h hd;have hrl:(d4 ts).length≤60:=by
  exact nw [_,_,_] (.d yA (.k 60) (.d yB yA (.d yC yB .n))) yC (.k 60) rfl hl g8 (vT (l:=d4 ts) λt ht=>(cz (g4 t ht).1).2.1)
 refine⟨by exact aa hrl (by decide),by exact aa hlen (by decide),λt ht=>(f1 t ht).ppart (hd t ht),?_,?_,λt ht=>?_⟩
 ·unfold Vb at hv;omega
 ·have:=Gf (us:=bu ts) (V:=Vb) λp hp=>by
   have hm:=(kq hp λu hu=>(f1 u hu).lf.2).1;rw[f2]at hm;rcases f1 p hp with⟨k,rfl,_⟩|hf
   ·show 1≤Vb;decide
   ·exact aa (Mt hf) (aa hm hv)
  have h2:(bu ts).length*Vb≤60*Vb:=dK _ hlen;unfold Vb at*;exact nw [_,_] (.c 1099511627776 yA (.k 60) (.d yB (.w 1099511627776 yA) .n)) (.s yB) (.k 18446744073709551616) rfl hlen this
 ·have c1:=(g4 t ht).1;refine⟨BP c1 (aa (kq ht λu hu=>(cz (g4 u hu).1).1).1 (aa g7 hv)) (aa (k7 ht) (aa g8 (aa hl (by decide)))),?_⟩;have:=yZ c1;have:=(hr t ht).2;exact dX (λq0=>nk [_,_,_] (.d (.s (.m 2 yA)) yB (.d yB (.s yC) (.d yC (.k 8) .n))) 2 (.s yA) (.k 5) rfl (by assumption) this q0) (λq0=>nk [_,_] (.d (.k 8) yA (.d yA (.k 1) .n)) 0 (.s yB) (.k 5) rfl (aS _ _) q0)
theorem uq(hn:30≤n){ts:List T}(h:∀t∈ts,Cn t)(hne:ts≠ [])(hv:dA ts≤Vb)(hl:eD ts≤60)(hd:∀p∈bu ts,p.dp≤8):bU n (ofString "gathered_product") [.list (aL ts)] (a9 (fR ts)):=by
 refine CK (y0 h hne hv hl hd) λa b c d e f=>?_;exact ig (h:=5) (k:=6) (by decide) (aa (by decide) hn) (nw [_] (.d (.k 30) yA .n) (.a (.a (.m 4 (.k 5)) (.k 4)) (.k 6)) yA rfl hn) a b c d e f
theorem DF{t:T}(h:t.isNum=false)(hp:t.isProd=false):(∃c k,t=.pow c k)∨er t=true:=by
 induction t using T.casesOn<;>first|exact .inr rfl|exact .inl (ik _ _ rfl)|exact nsN h|exact dC h|(cases h;done)|exact nsN hp|exact dC hp|(cases hp;done)
theorem ES{t:T}{j:Int}(h:Cn t)(hp:t.isProd=false)(hd:t.dp≤8)(hj:1≤j)(hv:t.val^j.toNat≤Vb):LD t j:=by
 have h5:t.val^1≤t.val^j.toNat:=dJ (cz h).1 (by omega);rw[xX]at h5
 by_cases hn:t.isNum=true
 ·induction t using T.casesOn<;>first|exact nsN hn|exact dC hn|cases hn|skip
  rename_i i;refine .inl (iw i rfl h ?_);have h1:(1:Int)≤i:=h;have h6:i.toNat≤Vb:=aa h5 hv;unfold Vb at h6;show i.natAbs<2^64;omega
 have hn:t.isNum=false:=by simpa using hn
 rcases DF hn hp with⟨c,k,rfl⟩|hb
 ·refine .inr (.inl (PE c k rfl h.2.1 h.2.2 ?_ (by simp only[cA]at hd;exact nw [_,_] (.d (.s yA) (.k 8) (.d yB yA .n)) yB (.k 8) rfl hd (aS _ _))));refine eL (qe h rfl hj) λa b c1 d=>?_;have hkj:1≤k*j:=by have:=cH hj (show 0≤k by have:=h.2.2;omega);have:=h.2.2;omega
  refine eL (lY h.1 h.2.1 hkj) λp1 p2 p3 _=>?_;have h7:=Mt p1;rw[p2,p3]at h7;have e:T.val (.pow c k)^j.toNat=c.val^(k*j).toNat:=by
   simp only[fG];rw[CC (by have:=h.2.2;omega) (by omega),Nat.pow_mul]
  rw[e]at hv;unfold Vb at hv;have h8:(k*j).natAbs≤1099511627776:=aa h7 hv;omega
 ·exact .inr (.inr ⟨hb,hd⟩)
theorem NI(hn:32≤n){t:T}{j:Int}(h:Cn t)(hj:1≤j)(hj2:j≤1000)(hv:t.val^j.toNat≤Vb)(hl:t.lf≤30)(hd:t.dp≤8):bU n (ofString "power_of") [a9 t,dl j] (a9 (pw t j)):=by
 by_cases hp:t.isProd=true
 ·induction t using T.casesOn<;>first|exact nsN hp|exact dC hp|cases hp|skip
  rename_i l
  by_cases q:j=1
  ·subst q;refine(show pw (.prod l) 1=.prod l from rfl).symm▸?_;exact aT (pos (aa (by decide) hn:1≤n)) fN [(0,bx (en 1 0)),(1,bx (en 1 1))] (by kernel_rfl)
  have hl2:=oQ h;have hds:∀u∈l,u.dp≤6:=fL.mp (by simp only[cA]at hd;exact nw [_] (.d (.a yA (.k 2)) (.k 8) .n) yA (.k 6) rfl hd);refine aB (BN hj hl2) λv1 v2=>?_;have hc:∀t∈l.map (λt=>su t j),Cn t:=λt ht=>by
   refine aG (List.mem_map.mp ht) λu hu z1=>?_;obtain rfl:=z1;exact(qe (hl2 u hu).1 (hl2 u hu).2 hj).1
  have hne:l.map (λt=>su t j)≠ []:=by
   refine kD h.2 λk fs e _ h2 _=>?_;intro e2;rw[ma]at e2;rw[e2]at h2;simp at h2
  have hl3:eD l≤30:=hl;obtain⟨a,b,c,d,e,f⟩:=y0 hc hne (by refine v1 ..▸?_;exact hv) (nw [_,_] (.d yA (.m 2 yB) (.c 2 yB (.k 30) .n)) yA (.k 60) rfl v2 hl3) (kr (D:=8) λt ht=>by
   refine aG (List.mem_map.mp ht) λu hu z2=>?_;obtain rfl:=z2;have:=(qe (hl2 u hu).1 (hl2 u hu).2 hj).2.2.2;have:=hds u hu;exact dX (λq0=>nw [_,_,_] (.d yA (.s yB) (.d yC (.k 6) (.d yB yC .n))) yA (.k 8) rfl (by assumption) this q0) (λq0=>nw [_,_] (.d yA (.s yB) (.d yB (.k 1) .n)) yA (.k 8) rfl (by assumption) q0))
  exact tw (h:=5) (k:=6) (aa (by decide) hn) (nw [_] (.d (.k 32) yA .n) (.a (.a (.m 4 (.k 5)) (.k 5)) (.k 6)) yA rfl hn) a (aa hd (by decide)) (λu hu=>ES (hl2 u hu).1 (hl2 u hu).2 (by have:=hds u hu;exact aa this (by decide)) hj (aa (dR ((λu hu=>(kq hu λu hu=>(((gW h.1).2.2) u hu).1).1:∀u∈l,u.val≤dA l) u hu) _) hv)) (by omega) hj2 (by decide) b c d e f
 ·have hp:t.isProd=false:=by simpa using hp
  have e:pw t j=su t j:=by induction t using T.casesOn<;>first|rfl|exact m7 hp
  refine e ..▸?_;exact ER (aa (by decide) hn) (ES h hp hd hj hv) hj hj2
end
mutual
noncomputable def SB:T→Prop
 |.num i=>1≤i
 |.sym _=>True
 |.sum l=>GX l∧l≠ []∧fB (cj l)≤Vb∧eD (cj l)≤60∧∀t∈cj l,Cn t∧t.dp≤8
 |.prod l=>GX l∧l≠ []∧dA (cj l)≤Vb∧eD (cj l)≤60∧∀t∈cj l,Cn t∧t.dp≤8
 |.pow b i=>SB b∧1≤i∧i≤1000∧Cn (bw b)∧(bw b).val^i.toNat≤Vb∧(bw b).lf≤30∧(bw b).dp≤8
 |.call t=>SB t
noncomputable def GX:List T→Prop
 | []=>True
 |t::l=>SB t∧GX l
end
theorem Mu:(GX []=True)∧(∀(t:T)(l:List T),GX (t::l)=(SB t∧GX l)):=⟨rfl,λ_ _=>rfl⟩
theorem Qd:(∀(i:Int),SB (T.num i)=(1≤i))∧(∀(x_1:Nm),SB (T.sym x_1)=True)∧(∀(l:List T),SB (T.sum l)=(GX l∧l≠ []∧fB (cj l)≤Vb∧eD (cj l)≤60∧∀(t:T),t∈cj l→Cn t∧t.dp≤8))∧(∀(l:List T),SB (T.prod l)=(GX l∧l≠ []∧dA (cj l)≤Vb∧eD (cj l)≤60∧∀(t:T),t∈cj l→Cn t∧t.dp≤8))∧(∀(b:T)(i:Int),SB (b.pow i)=(SB b∧1≤i∧i≤1000∧Cn (bw b)∧(bw b).val^i.toNat≤Vb∧(bw b).lf≤30∧(bw b).dp≤8))∧(∀(t:T),SB t.call=SB t):=⟨λ_=>rfl,λ_=>rfl,λ_=>rfl,λ_=>rfl,λ_ _=>rfl,λ_=>rfl⟩
theorem tx:∀ {l:List T},GX l↔∀t∈l,SB t
 | []=>by simp[Mu]
 |t::l=>by simp[Mu,tx (l:=l)]
mutual
noncomputable def T.rd:T→Nat
 |.num _=>0
 |.sym _=>0
 |.sum l=>xm l+1
 |.prod l=>xm l+1
 |.pow b _=>b.rd+1
 |.call t=>t.rd+1
noncomputable def xm:List T→Nat
 | []=>0
 |t::l=>max t.rd (xm l)
end
theorem Mv:(xm []=0)∧(∀(t:T)(l:List T),xm (t::l)=max t.rd (xm l)):=⟨rfl,λ_ _=>rfl⟩
theorem cY:(∀(i:Int),(T.num i).rd=0)∧(∀(x_1:Nm),(T.sym x_1).rd=0)∧(∀(l:List T),(T.sum l).rd=xm l+1)∧(∀(l:List T),(T.prod l).rd=xm l+1)∧(∀(b:T)(i:Int),(b.pow i).rd=b.rd+1)∧(∀(t:T),t.call.rd=t.rd+1):=⟨λ_=>rfl,λ_=>rfl,λ_=>rfl,λ_=>rfl,λ_ _=>rfl,λ_=>rfl⟩
theorem iT{l:List T}{k:Nat}:xm l≤k↔∀t∈l,t.rd≤k:=by
 induction l with
 |nil=>simp[Mv]
 |cons t l ih=>simp[Mv,Nat.max_le,ih]
theorem BR:∀t:T,t.rd+1≤t.dp:=by
 have key:∀k,∀t:T,t.dp≤k→t.rd+1≤t.dp:=λk=>by
  induction k with
  |zero=>intro t h;have:=oL t;exact nk [_,_] (.d yA (.k 0) (.d (.k 1) yA .n)) 0 (.s yB) yA rfl h this
  |succ k ih=>
   intro t h;have lst (l:List T) (hl:k6 l+2≤k+1):xm l≤k6 l:=iT.mpr λt ht=>by
    have h1:=fL.mp (ak (k6 l)) t ht;exact nw [_,_,_] (.d yA yB (.d (.s yC) yA .n)) yC yB rfl h1 (ih t (nw [_,_,_] (.d (.a yA (.k 2)) (.s yB) (.d yC yA .n)) yC yB rfl hl h1))
   induction t using T.casesOn with
   |num i=>simp[cY,cA]
   |sym x=>simp[cY,cA]
   |sum l=>have:=lst l h;simp only[cY,cA];exact nw [_,_] (.d yA yB .n) (.s (.s yA)) (.a yB (.k 2)) rfl this
   |prod l=>have:=lst l h;simp only[cY,cA];exact nw [_,_] (.d yA yB .n) (.s (.s yA)) (.a yB (.k 2)) rfl this
   |pow b i=>have:=ih b (by simp only[cA]at h;exact nw [_,_,_] (.d (.s yA) (.s yB) (.d yC yA .n)) yC yB rfl h (aS _ _));simp only[cY,cA]at*;exact nw [_,_,_] (.d (.s yA) yB (.d yB yC .n)) (.s (.s yA)) (.s yC) rfl this (aS _ _)
   |call t=>have:=ih t (by simp only[cA]at h;exact nw [_,_] (.d (.a yA (.k 2)) (.s yB) .n) yA yB rfl h);simp only[cY,cA]at*;exact nw [_,_] (.d (.s yA) yB .n) (.s (.s yA)) (.a yB (.k 2)) rfl this
 exact λt=>key _ t (ak _)
mutual
theorem BS:∀ {t:T},Cn t→t.val≤Vb→t.lf≤30→t.dp≤9→SB t
 |.num i,h,_,_,_=>h
 |.sym _,_,_,_,_=>trivial
 |.sum l,h,hv,hl,hd=>by
  refine kD h.2 λfs k e _ h2 _=>?_;have hd':∀t∈l,t.dp≤8:=fL.mp (by simp only[cA]at hd;exact nw [_] (.d (.a yA (.k 2)) (.k 9) .n) yA (.k 8) rfl hd);refine⟨As h.1 (λt ht=>aa (p7 ht) hv) hl (λt ht=>by have:=hd' t ht;exact aa this (by decide)),by intro e2;rw[e2]at h2;simp at h2,?_⟩;refine(eE h.1 ..).symm▸?_;exact⟨hv,by exact aa (hl:eD l≤30) (by decide),λt ht=>⟨cW.mp h.1 t ht,hd' t ht⟩⟩
 |.prod l,h,hv,hl,hd=>by
  refine kD h.2 λk fs e _ h2 _=>?_;have hd':∀t∈l,t.dp≤8:=fL.mp (by simp only[cA]at hd;exact nw [_] (.d (.a yA (.k 2)) (.k 9) .n) yA (.k 8) rfl hd);refine⟨As h.1 (λt ht=>aa (kq ht λu hu=>(((gW h.1).2.2) u hu).1).1 hv) hl (λt ht=>by have:=hd' t ht;exact aa this (by decide)),by intro e2;rw[e2]at h2;simp at h2,?_⟩;refine(eE h.1 ..).symm▸?_;exact⟨hv,by exact aa (hl:eD l≤30) (by decide),λt ht=>⟨cW.mp h.1 t ht,hd' t ht⟩⟩
 |.pow b i,h,hv,hl,hd=>by
  have h2:=(cz h.1).2.2 ((lX h.2.1).1:b.isNum=false);have h3:i.toNat<2^i.toNat:=me;have h5:b.val^1≤b.val^i.toNat:=dJ (nw [_] (.d (.k 2) yA .n) (.s (.k 0)) yA rfl h2) (by have:=h.2.2;omega);rw[xX]at h5;have hv':b.val^i.toNat≤Vb:=hv;have h6:i.toNat≤40:=by
   exact(Nat.pow_le_pow_iff_right (by decide)).mp (aa (dR h2 _:2^i.toNat≤b.val^i.toNat) hv':2^i.toNat≤2^40)
  have hl':b.lf+1≤30:=hl;have hd':max b.dp 1+1≤9:=hd;refine⟨BS h.1 (aa h5 hv') (aW hl') (nw [_,_] (.d (.s yA) (.k 9) (.d yB yA .n)) yB (.k 9) rfl hd' (aS _ _)),by have:=h.2.2;omega,by omega,?_⟩;refine(oR h.1 ..).symm▸?_;exact⟨h.1,hv',by exact aW hl',by exact nw [_,_] (.d (.s yA) (.k 9) (.d yB yA .n)) yB (.k 8) rfl hd' (aS _ _)⟩
 |.call t,h,hv,hl,hd=>BS (t:=t) h (by have:t.val+1≤Vb:=hv;exact aW this) (by have:t.lf+1≤30:=hl;exact aW this) (by have:t.dp+2≤9:=hd;exact aa (ao _ _) this)
theorem As:∀ {l:List T},xU l→(∀t∈l,t.val≤Vb)→eD l≤30→(∀t∈l,t.dp≤9)→GX l
 | [],_,_,_,_=>trivial
 |t::l,h,hv,hl,hd=>by
  simp only[iJ]at hl;exact⟨BS h.1 (hv t (.head _)) (aa (ao _ _) hl) (by have:=hd t (.head _);exact this),As h.2 (λu hu=>hv u (.tail _ hu)) (aa (aD _ _) hl) λu hu=>hd u (.tail _ hu)⟩
end
noncomputable def Ja(x:Option B):St:=⟨[(ofString "part",x)],[]⟩
theorem y3{n d:Nat}(ih:∀t,SB t→t.rd≤d→bU n (ofString "simplify") [a9 t] (a9 (bw t))):∀(us:List T)(acc:List ab)(x:Option B),(∀v∈us,SB v)→(∀v∈us,v.rd≤d)→
  ∃x',fh (Call n) (bY 65) [6] [] 13 (aL us) acc (Ja x) (acc++aL (cj us)) (Ja x'):=by
 intro us
 induction us with
 |nil=>exact λacc x _ _=>aV x ((aF _).symm) rfl
 |cons u us ih2=>
  intro acc x h1 h2;refine aY (ih2 (acc++ [a9 (bw u)]) (some (.v (a9 u))) (λt ht=>h1 t (.tail _ ht)) (λt ht=>h2 t (.tail _ ht))) λx' r=>?_;rw[aw]at r;refine⟨x',.cons ?_ r⟩;exact le [(1,ar (ih u (h1 u (.head _)) (h2 u (.head _))))] (by kernel_rfl)
theorem BU{n:Nat}(hn:33≤n)(i:Int):bU n (ofString "simplify") [dl i] (dl i):=by
 exact aT (pos hn) jL [(5,ar (Aa (fz 2 hn) i)),(0,ar (gH (fz 1 hn) i))] (by kernel_rfl)
theorem BV{n:Nat}(hn:33≤n)(x:Nm):bU n (ofString "simplify") [a9 (.sym x)] (a9 (.sym x)):=by
 exact aT (pos hn) jL [] (by kernel_rfl)
theorem ty{l:List T}(h4:∀t∈cj l,Cn t∧t.dp≤8)(hne:l≠ []):cj l≠ []:=by refine i6 ..▸?_;simpa using hne
theorem eJ:∀(d:Nat)(n:Nat)(t:T),SB t→t.rd≤d→33+d≤n→bU n (ofString "simplify") [a9 t] (a9 (bw t)):=by
 intro d
 induction d with
 |zero=>
  intro n t h hd hn
  induction t using T.casesOn with
  |num i=>exact BU hn i
  |sym x=>exact BV hn x
  |_=>exact absurd hd (ll _)
 |succ d ih=>
  intro n t h hd hn;have hn3:33≤n:=aa (ao _ _) hn;have h32:=fz 32 hn3;have ih:=λt h1 h2=>ih (n-1) t h1 h2 (bI hn);have hn:1≤n:=aa (by decide) hn3
  induction t using T.casesOn with
  |num i=>exact BU hn3 i
  |sym x=>exact BV hn3 x
  |pow b i=>
   refine N5 h λh1 h2 h3 h4 h5 h6 h7=>?_;clear h;exact aT (pos hn) jL [(8,ar (ih b h1 (aX hd))),(1,ar (ih (.num i) h2 (a7 _))),(0,ar (NI h32 h4 h2 h3 h5 h6 h7))] (by kernel_rfl)
  |call u=>
   have w:fh (Call (n-1)) (bY 65) [4,0] [2] 10 [a9 u] [] (Ja none) [a9 (bw u)] (Ja (some (.v (a9 u)))):=by
    refine .cons (acc':= [a9 (bw u)]) (s:=Ja (some (.v (a9 u)))) ?_ ⟨rfl,rfl⟩;exact le [(1,ar (ih u h (aX hd)))] (by kernel_rfl)
   exact aT (pos hn) jL [(12,F.comp (w)),(0,ar (u8 (n:=n-1) (aa (by decide) h32) (bw u)))] (by kernel_rfl)
  |sum l=>
   refine m8 h λh1 hne h2 h3 h4=>?_;clear h;refine aY (y3 ih l [] none (tx.mp h1) (iT.mp (aX hd))) λx w=>?_;exact aT (pos hn) jL [(13,F.comp (w)),(2,ar (xl (n:=n-1) (aa (by decide) h32) (λt ht=>(h4 t ht).1) (ty h4 hne) h2 h3 (nM λt ht=>(h4 t ht).2)))] (by kernel_rfl)
  |prod l=>
   refine m8 h λh1 hne h2 h3 h4=>?_;clear h;refine aY (y3 ih l [] none (tx.mp h1) (iT.mp (aX hd))) λx w=>?_;exact aT (pos hn) jL [(13,F.comp (w)),(4,ar (uq (n:=n-1) (aa (by decide) h32) (λt ht=>(h4 t ht).1) (ty h4 hne) h2 h3 (kr λt ht=>(h4 t ht).2)))] (by kernel_rfl)
mutual
noncomputable def T.small:T→Bool
 |.num _=>true
 |.sym _=>true
 |.sum l=>decide (l.length<5)&&iU l
 |.prod l=>decide (l.length<5)&&iU l
 |.pow b _=>b.small
 |.call t=>t.small
noncomputable def iU:List T→Bool
 | []=>true
 |t::l=>t.small&&iU l
end
theorem BW:(iU []=true)∧(∀(t:T)(l:List T),iU (t::l)=(t.small&&iU l)):=⟨rfl,λ_ _=>rfl⟩
theorem zm:(∀(i:Int),(T.num i).small=true)∧(∀(x_1:Nm),(T.sym x_1).small=true)∧(∀(l:List T),(T.sum l).small=(decide (l.length<5)&&iU l))∧(∀(l:List T),(T.prod l).small=(decide (l.length<5)&&iU l))∧(∀(b:T)(i:Int),(b.pow i).small=b.small)∧(∀(t:T),t.call.small=t.small):=⟨λ_=>rfl,λ_=>rfl,λ_=>rfl,λ_=>rfl,λ_ _=>rfl,λ_=>rfl⟩
theorem jQ:∀ {l:List T},iU l=true↔∀t∈l,t.small=true
 | []=>by simp[BW]
 |t::l=>by simp[BW,jQ (l:=l)]
noncomputable abbrev aQ:=List (Nm×T)
noncomputable def cM:aQ→Nm→Option T
 | [],_=>none
 |(y,t)::r,x=>if y=x then some t else cM r x
theorem j6:(∀(x:Nm),cM [] x=none)∧(∀(x y:Nm)(t:T)(r:List (Nm×T)),cM ((y,t)::r) x=if y=x then some t else cM r x):=⟨λ_=>rfl,λ_ _ _ _=>rfl⟩
noncomputable def Nm.blank:Nm→Bool
 |.a_=>true
 |.b_=>true
 |.c_=>true
 |_=>false
noncomputable def T.blank:T→Bool
 |.sym x=>x.blank
 |_=>false
noncomputable def kt(e:aQ)(x:Nm)(t:T):List aQ:=match cM e x with
 |some u=>if lQ u t then [e]else []
 |none=> [e++ [(x,t)]]
noncomputable def ur(e:aQ)(p t:T):List aQ:=match p with
 |.sym x=>kt e x t
 |_=> []
noncomputable abbrev pj:=List aQ×Nat
noncomputable abbrev jR:=T→T→aQ→pj
noncomputable def bd(m:aQ→pj):List aQ→pj
 | []=>([],0)
 |e::r=>((m e).1++(bd m r).1,(m e).2+(bd m r).2)
theorem vU:(∀(m:aQ→pj),bd m []=([],0))∧(∀(m:aQ→pj)(e:aQ)(r:List aQ),bd m (e::r)=((m e).fst++(bd m r).fst,(m e).snd+(bd m r).snd)):=⟨λ_=>rfl,λ_ _ _=>rfl⟩
noncomputable def gc(m:jR):List T→List T→List aQ→pj
 |p::ps,t::ts,rows=>((gc m ps ts (bd (m p t) rows).1).1,(bd (m p t) rows).2+(gc m ps ts (bd (m p t) rows).1).2)
 |_,_,rows=>(rows,0)
noncomputable def jv(s:Bool)(ts:List T):T:=if s then km ts else fR ts
noncomputable def fE(f:Nat→pj):Nat→Nat→pj
 |_,0=>([],0)
 |at_,k+1=>((f at_).1++(fE f (at_+1) k).1,(f at_).2+(fE f (at_+1) k).2)
theorem vV:(∀(f:Nat→pj)(x:Nat),fE f x 0=([],0))∧(∀(f:Nat→pj)(x k:Nat),fE f x k.succ=((f x).fst++(fE f (x+1) k).fst,(f x).snd+(fE f (x+1) k).snd)):=⟨λ_ _=>rfl,λ_ _ _=>rfl⟩
noncomputable def l4(m:jR)(p:T)(g:List T→aQ→pj)(ts:List T)(e:aQ)(i:Nat):pj:=match ts[i]? with
 |none=>([],0)
 |some t=>((bd (g (ts.eraseIdx i)) (m p t e).1).1,(m p t e).2+(bd (g (ts.eraseIdx i)) (m p t e).1).2)
noncomputable def cF(m:jR)(s:Bool):List T→List T→aQ→pj
 | [],ts,e=>(if ts.isEmpty then [e]else [],0)
 |p::ps,ts,e=>
  if ts.length<ps.length+1 then([],0)
  else if ps.isEmpty&&p.blank then(ur e p (jv s ts),0)
  else fE (l4 m p (cF m s ps) ts e) 0 ts.length
theorem ge:(∀(m:jR)(s:Bool)(x:List T)(x_1:aQ),cF m s [] x x_1=(if x.isEmpty=true then [x_1]else [],0))∧(∀(m:jR)(s:Bool)(x:List T)(x_1:aQ)(p:T)(ps:List T),cF m s (p::ps) x x_1=if x.length<ps.length+1 then([],0)else if(ps.isEmpty&&p.blank)=true then(ur x_1 p (jv s x),0)else fE (l4 m p (cF m s ps) x x_1) 0 x.length):=⟨λ_ _ _ _=>rfl,λ_ _ _ _ _ _=>rfl⟩
theorem i7{m:jR}{p:T}{g:List T→aQ→pj}{ts:List T}{e:aQ}{i:Nat}{t:T}(h:ts[i]?=some t):l4 m p g ts e i=((bd (g (ts.eraseIdx i)) (m p t e).1).1,(m p t e).2+(bd (g (ts.eraseIdx i)) (m p t e).1).2):=by
 unfold l4;simp only[h]
theorem mP{m:jR}{p:T}{g:List T→aQ→pj}{ts:List T}{e:aQ}{i:Nat}(h:ts[i]?=none):l4 m p g ts e i=([],0):=by
 unfold l4;simp only[h]
theorem ku{m:jR}{s:Bool}{p:T}{ps ts:List T}{e:aQ}(h1:¬ts.length<ps.length+1)(h2:(ps.isEmpty&&p.blank)=false):cF m s (p::ps) ts e=fE (l4 m p (cF m s ps) ts e) 0 ts.length:=by
 rw[ge.2,if_neg h1,if_neg (by rw[h2];simp)]
noncomputable def aU(ps:List T):List T:=ps.filter (λp=>!p.blank)++ps.filter T.blank
noncomputable def i8(r:pj):pj:=(r.1,r.2+1)
noncomputable def l6(m:jR)(p t:T)(e:aQ):pj:=if p.blank then(ur e p t,1)else match p,t with
 |.num i,.num j=>(if i==j then [e]else [],1)
 |.sym x,.sym y=>(if x==y then [e]else [],1)
 |.pow b i,.pow c j=>i8 (gc m [b,.num i] [c,.num j] [e])
 |.call u,.call v=>i8 (gc m [u] [v] [e])
 |.sum ps,.sum ts=>i8 (cF m true (aU ps) ts e)
 |.prod ps,.prod ts=>i8 (cF m false (aU ps) ts e)
 |_,_=>([],1)
theorem xn{m:jR}{p t:T}{e:aQ}{P:T→T→pj→Prop}(hb:p.blank=true→P p t (ur e p t,1))(hn:∀i j,P (.num i) (.num j) (if i==j then [e]else [],1))
  (hs:∀x y,(T.sym x).blank=false→P (.sym x) (.sym y) (if x==y then [e]else [],1)) (hp:∀b i c j,P (.pow b i) (.pow c j) (i8 (gc m [b,.num i] [c,.num j] [e])))
  (hc:∀u v,P (.call u) (.call v) (i8 (gc m [u] [v] [e]))) (h1:∀ps ts,P (.sum ps) (.sum ts) (i8 (cF m true (aU ps) ts e)))
  (h2:∀ps ts,P (.prod ps) (.prod ts) (i8 (cF m false (aU ps) ts e))) (h0:∀p t,P p t ([],1)):P p t (l6 m p t e):=by
 induction hq:p.blank with
 |true=>rw[show l6 m p t e=(ur e p t,1)from if_pos hq];exact hb hq
 |false=>
  rw[show l6 m p t e=_ from if_neg (hq▸aR)]
  induction p using T.casesOn<;>induction t using T.casesOn<;>first|exact h0 _ _|exact hn _ _|exact hs _ _ hq|exact hp _ _ _ _|exact hc _ _|exact h1 _ _|exact h2 _ _
noncomputable def bB:Nat→jR
 |0=>λ_ _ _=>([],0)
 |d+1=>l6 (bB d)
noncomputable def bH(e:aQ):List (ab×ab):=e.map λp=>(.str p.1.str,a9 p.2)
structure iK (e:aQ):Prop where
 nod:(e.map (·.1)).Nodup
 dp:∀p∈e,p.2.dp≤64
theorem iK.nil:iK []:=⟨dP,λ_ h=>by cases h⟩
theorem Au{α:Type} [DecidableEq α]:∀(l m:List α),l.Nodup→(∀a∈l,a∈m)→l.length≤m.length
 | [],m,_,_=>a7 _
 |a::l,m,h,hs=>by
  have hn:=bK.mp h;have ha:=hs a (.head _);have:=Au l (m.erase a) hn.2 λb hb=>(Fh (λ(e:b=a)=>hn.1 (by refine(e ..)▸?_;exact hb))).mpr (hs b (.tail _ hb));rw[List.length_erase_of_mem ha]at this;simp only[aP];exact nw [_,_,_] (.d yA yB (.d (.s yB) yC .n)) (.s yA) yC rfl (by assumption) (ah (az (aa (aD _ _) (List.length_pos_of_mem ha:0<m.length))))
theorem NJ(l:List Nm)(h:l.Nodup):l.length≤6:=Au l [.x,.y,.z,.a_,.b_,.c_] h λn _=>by induction n using Nm.casesOn<;>simp
theorem iK.len{e:aQ}(h:iK e):e.length≤6:=by have:=NJ _ h.nod;simpa using this
theorem rY(x:Nm):AP (.str x.str)=true:=x.okS
theorem rG(e:aQ)(x:Nm):vx (bH e) (.str x.str)=true:=by
 refine zI ..▸?_;unfold cP;have h:∀x:Nm,ci (.str x.str)=true:=λx=>rN (rY x);refine(h ..).symm▸?_;simp only[jb,dU];refine .inl (aM.mpr λp hp=>?_);refine aG (List.mem_map.mp hp) λq _ z1=>?_;obtain rfl:=z1;exact h q.1
theorem xo(e:aQ):Br (bH e)=true:=by
 refine Bs ..▸?_;refine aM.mpr λp hp=>?_;refine aG (List.mem_map.mp hp) λq _ z2=>?_;obtain rfl:=z2;exact rN (rY q.1)
theorem tz(x y:Nm):aO (.str x.str) (.str y.str)=decide (x=y):=by
 refine jo ..▸?_
 by_cases h:x=y
 ·subst h;simp
 ·have h2:x.str≠y.str:=λe=>h (cast xN e);exact beq_eq_false_iff_ne.mpr h2 ..▸df h ..▸rfl
theorem ut(e:aQ)(x:Nm):gE (bH e) (.str x.str)=(cM e x).map a9:=by
 induction e with
 |nil=>rfl
 |cons p r ih=>
  unfold gE at ih⊢;rw[j6.2];show((_::bH r).find? _).map _=_;refine List.find?_cons ..▸?_;simp only[tz]
  by_cases h:p.1=x
  ·simp[h]
  ·simp only[h,decide_false,if_false];simpa[tz]using ih
theorem LE(e:aQ)(x:Nm):iI .In (.str x.str) (.dict (bH e))=some (cM e x).isSome:=by
 show nj _ _ _=_;refine im ..▸?_;show(if ci (.str x.str)&&cP (bH e) (.str x.str)then some (gE (bH e) (.str x.str)).isSome else none)=_;refine(rN (rY x) ..).symm▸(oA (rG e x) ..).symm▸(ut ..).symm▸?_
 induction cM e x<;>rfl
theorem uu{e:aQ}{x:Nm}{t:T}(h:cM e x=some t):uX (.dict (bH e)) (.str x.str)=some (a9 t):=by
 show(match okS x.str&&(bH e).all (λp=>AP p.1)with|true=>wD (bH e) x.str|false=>none)=_;have ha:((bH e).all λp=>AP p.1)=true:=aM.mpr λp hp=>by
  refine aG (List.mem_map.mp hp) λq _ z3=>?_;obtain rfl:=z3;exact rY q.1
 refine(x.okS ..).symm▸(ha ..).symm▸?_;show wD (bH e) x.str=_;refine wE ha ..▸ut ..▸h ..▸?_;rfl
theorem u9:∀kvs:List (ab×ab),iO (kvs.map λp=>.tuple [p.1,p.2])=some kvs
 | []=>rfl
 |p::r=>by rw[aE,yx.2,u9 r];rfl
theorem uw{e:aQ}{x:Nm}{t:T}(h:cM e x=none):m9 (bH e) (.str x.str) (a9 t)=bH (e++ [(x,t)]):=by
 have hn:((bH e).any λp=>aO p.1 (.str x.str))=false:=by
  rw[List.any_eq_false];intro p hp;refine aG (List.mem_map.mp hp) λq hq z4=>?_;obtain rfl:=z4;refine tz ..▸?_;simp only[decide_eq_true_eq];intro e2;have:∀r:aQ,q∈r→cM r x=none→False:=λr=>by
   induction r with
   |nil=>intro h;exact cg h
   |cons a r ih=>
    intro hm hl;rw[j6.2]at hl;split at hl
    ·exact sN hl
    ·rename_i hne;rcases aA.mp hm with rfl|hm
     ·exact hne e2
     ·exact ih hm hl
  exact this e hq h
 unfold m9;refine hn ..▸?_;simp[bH]
theorem xp:∀(r a:aQ),((a++r).map (·.1)).Nodup→(a++r).length≤6→fq (bH a) (bH r)=some (bH (a++r))
 | [],a,_,_=>by simp[bH,j2]
 |(x,t)::r,a,h,hl=>by
  have hn:cM a x=none:=by
   have h2:x∉a.map (·.1):=by
    rw[bS,dw]at h;exact λhm=>h.2.2 x hm x (by simp) rfl
   clear h hl
   induction a with
   |nil=>rfl
   |cons p a ih=>
    rw[j6.2];rw[if_neg (by intro e;exact h2 (by simp[e]))];exact ih (λhm=>h2 (by simp at hm⊢;exact .inr hm))
  show fq (bH a) ((.str x.str,a9 t)::bH r)=_;rw[j2.2];rw[rN (rY x),j4 (by simp only[bH,aN];simp at hl;exact nw [_,_] (.d (.a yA (.s yB)) (.k 6) .n) yA (.k 1048576) rfl hl)];simp only[AT,if_true];refine uw hn ..▸xp r (a++ [(x,t)]) (by simpa using h) (by simpa using hl) ..▸?_;simp
theorem DG{e:aQ}(h:iK e):Ew ((bH e).map λp=>.tuple [p.1,p.2])=some (.dict (bH e)):=by
 unfold Ew;refine u9 ..▸?_;exact congrArg (sv fI) (xp e [] h.nod h.len)
theorem kx{x:Nm}{u:T}:∀ {r:aQ},cM r x=some u→(x,u)∈r:=λ{r}=>by
 induction r with
 |nil=>intro h;exact nsN h
 |cons a r ih=>
  intro h;rw[j6.2]at h;split at h
  ·rename_i e2;obtain rfl:=Option.some.inj h;refine(e2 ..)▸?_;exact .head _
  ·exact .tail _ (ih h)
section
variable {n:Nat}
theorem cQ(hn:1≤n)(t:T):bU n (ofString "is_blank") [a9 t] (.bool t.blank):=by
 induction t using T.casesOn with
 |sym x=>induction x using Nm.casesOn<;>exact aT (pos hn) jM [] (by kernel_rfl)
 |num _=>exact aT (pos hn) jM [] (by kernel_rfl)
 |sum _=>exact aT (pos hn) jM [] (by kernel_rfl)
 |prod _=>exact aT (pos hn) jM [] (by kernel_rfl)
 |pow _ _=>exact aT (pos hn) jM [] (by kernel_rfl)
 |call _=>exact aT (pos hn) jM [] (by kernel_rfl)
noncomputable def cC(rows:List aQ):ab:=.list (rows.map λe=>.dict (bH e))
theorem qf(hn:1≤n){e:aQ}(he:iK e)(x:Nm){t:T}(hd:t.dp≤64):bU n (ofString "bind_blank") [.dict (bH e),.str x.str,a9 t] (cC (kt e x t)):=by
 unfold kt;have c:=LE e x
 induction q:cM e x with
 |some u=>
  rw[q]at c;have cu:=oM (he.dp _ (kx q)) hd;show bU n _ _ (cC (if lQ u t=true then [e]else []))
  induction hq:lQ u t with
  |true=>exact aT (pos hn) oF [(0,bx (c)),(1,F.d (uu q)),(0,bx (cu.trans (so hq)))] (by kernel_rfl)
  |false=>exact aT (pos hn) oF [(0,bx (c)),(1,F.d (uu q)),(0,bx (cu.trans (so hq)))] (by kernel_rfl)
 |none=>
  rw[q]at c;exact aT (pos hn) oF [(0,bx (c)),(1,F.b (xo e)),(0,F.d (DG he)),(2,F.b (rG e x)),(0,F.b (j4 (k:=(bH e).length) (by rw[bH,aN];exact aa he.len (by decide)))),(0,F.cl (congrArg bE.dct (uw (t:=t) q)))] (by kernel_rfl)
end
structure MO (t:T):Prop where
 cn:Cn t
 val:t.val≤Vb
 lf:t.lf≤30
 dp:t.dp≤9
 small:t.small=true
noncomputable def gQ(k:Nat):Option bE:=some (.lst [.v (.int k)])
noncomputable def Av(P:T→Prop)(n:Nat)(m:jR):Prop:=∀p t e,P p→MO t→iK e→(∀e'∈(m p t e).1,iK e')∧∀k:Nat,k+(m p t e).2≤100000→Call n (ofString "match_with") [.v (a9 p),.v (a9 t),.v (.dict (bH e)),.l 0] [gQ k] (.c (.v (cC (m p t e).1)) [gQ (k+(m p t e).2)])
theorem vW(a b:List aQ):(a.map λe=>B.v (.dict (bH e)))++((b.map λe=>fI (bH e)).map B.v)=(a++b).map λe=>B.v (.dict (bH e)):=by refine(bS ..).symm▸(bZ ..).symm▸?_;rfl
theorem lB(a:List aQ):hU (.lst (a.map λe=>B.v (.dict (bH e))))=some (cC a):=by
 have:(a.map λe=>B.v (.dict (bH e)))=(a.map λe=>fI (bH e)).map B.v:=by refine bZ ..▸?_;rfl
 refine(this ..).symm▸(CO ..).symm▸(wV ..).symm▸?_;rfl
theorem nN{dn r:List aQ}(h:(dn++r).length≤100000):jz ((dn.map λe=>B.v (.dict (bH e))).length+(r.map λe=>fI (bH e)).length)=true:=by
 refine(aN ..).symm▸(aN ..).symm▸(aj ..)▸?_;exact j4 (aa h (by decide))
theorem tA{P:T→Prop}{n:Nat}{m:jR}(X:Av P n m){p t:T}(hp:P p)(ht:MO t):∀ {rows:List aQ},(∀e∈rows,iK e)→∀e'∈(bd (m p t) rows).1,iK e':=by
 intro rows
 induction rows with
 |nil=>exact λ_ e' h=>by exact cg h
 |cons e r ih=>
  intro he e' h;refine(List.mem_append.mp h).elim (λh=>?_) λh=>?_
  ·exact(X p t e hp ht (he e (.head _))).1 e' h
  ·exact ih (λe he'=>he e (.tail _ he')) e' h
noncomputable def Mw:List T→Option T
 | [t]=>some t
 | [t,_]=>some t
 |_=>none
noncomputable def Mx:List T→Option T
 | [_,t]=>some t
 |_=>none
theorem Jb{TS:List T}{t:T}(h:Mw TS=some t):uX (.tuple (aL TS)) (.int 0)=some (a9 t):=by
 rcases TS with _|⟨a,_|⟨b,_|⟨c,r⟩⟩⟩
 ·exact nsN h
 ·obtain rfl:=Option.some.inj h;rfl
 ·obtain rfl:=Option.some.inj h;rfl
 ·exact nsN h
theorem Jc{TS:List T}{t:T}(h:Mx TS=some t):uX (.tuple (aL TS)) (.int 1)=some (a9 t):=by
 rcases TS with _|⟨a,_|⟨b,_|⟨c,r⟩⟩⟩
 ·exact nsN h
 ·exact nsN h
 ·obtain rfl:=Option.some.inj h;rfl
 ·exact nsN h
section
variable {n:Nat} {P:T→Prop}
noncomputable def LF(PS TS:List T)(e:aQ)(rows:List aQ)(a q l w:Option B)(σ:fH):St:=⟨[(ofString "patterns",some (.v (.tuple (aL PS)))),(ofString "terms",some (.v (.tuple (aL TS)))),(ofString "found",some (.v (.dict (bH e)))),(ofString "tries",some (.l 0)),(ofString "rows",some (.v (cC rows))),(ofString "at",a),(ofString "pattern",q),(ofString "later",l),(ofString "row",w)],σ⟩
theorem xq{m:jR}(X:Av P n m){p t:T}{PS TS:List T}{e:aQ}{rows:List aQ}(hp:P p)(ht:MO t)(hi:Mw TS=some t):∀(rs dn:List aQ)(k:Nat)(w:Option B),(∀e∈rs,iK e)→k+(bd (m p t) rs).2≤100000→dn.length+(bd (m p t) rs).1.length≤100000→
  ∃w',fO (Call n) (ofString "match_rows") (bY 77) [2,1] (rs.map λe=>.dict (bH e)) (LF PS TS e rows (some (.v (.int 0))) (some (.v (a9 p))) (some (.l 1)) w [some (.lst [.v (.int (k:Nat))]),some (.lst ((dn).map λe=>B.v (.dict (bH e))))]) .next (LF PS TS e rows (some (.v (.int 0))) (some (.v (a9 p))) (some (.l 1)) w' [some (.lst [.v (.int (k+(bd (m p t) rs).2:Nat))]),some (.lst ((dn++(bd (m p t) rs).1).map λe=>B.v (.dict (bH e))))]):=by
 intro rs
 induction rs with
 |nil=>exact λdn k w _ _ _=>⟨w,by refine(show(bd (m p t) []).1= []from rfl).symm▸aF ..▸?_;exact⟨rfl,rfl⟩⟩
 |cons e1 rs ih=>
  intro dn k w he hk hl;have e1':(bd (m p t) (e1::rs)).1=(m p t e1).1++(bd (m p t) rs).1:=rfl;have e2':(bd (m p t) (e1::rs)).2=(m p t e1).2+(bd (m p t) rs).2:=rfl;rw[e2',←bz]at hk;rw[e1',aj,←bz,←aj]at hl;refine aY (ih (dn++(m p t e1).1) (k+(m p t e1).2) (some (.v (.dict (bH e1)))) (λe h=>he e (.tail _ h)) hk hl) λw' r=>?_;refine e1' ..▸e2' ..▸(bz ..)▸(aw ..)▸?_;refine⟨w',.next ?_ r⟩;exact le [(1,F.d (Jb hi)),(0,F.call (((X p t e1 hp ht (he e1 (.head _))).2 k) (aa (ao _ _) hk))),(1,F.b (nN (dn:=dn) (r:=(m p t e1).1) (aa (ao _ _) hl))),(0,F.cl (congrArg bE.lst (vW dn (m p t e1).1)))] (by kernel_rfl)
theorem DH{m:jR}(X:Av P n m){p t:T}{PS TS:List T}{e:aQ}{rows:List aQ}(hp:P p)(ht:MO t)(hi:Mx TS=some t):∀(rs dn:List aQ)(k:Nat)(w:Option B),(∀e∈rs,iK e)→k+(bd (m p t) rs).2≤100000→dn.length+(bd (m p t) rs).1.length≤100000→
  ∃w',fO (Call n) (ofString "match_rows") (bY 77) [2,1] (rs.map λe=>.dict (bH e)) (LF PS TS e rows (some (.v (.int 1))) (some (.v (a9 p))) (some (.l 2)) w [some (.lst [.v (.int (k:Nat))]),none,some (.lst ((dn).map λe=>B.v (.dict (bH e))))]) .next (LF PS TS e rows (some (.v (.int 1))) (some (.v (a9 p))) (some (.l 2)) w' [some (.lst [.v (.int (k+(bd (m p t) rs).2:Nat))]),none,some (.lst ((dn++(bd (m p t) rs).1).map λe=>B.v (.dict (bH e))))]):=by
 intro rs
 induction rs with
 |nil=>exact λdn k w _ _ _=>⟨w,by refine(show(bd (m p t) []).1= []from rfl).symm▸aF ..▸?_;exact⟨rfl,rfl⟩⟩
 |cons e1 rs ih=>
  intro dn k w he hk hl;have e1':(bd (m p t) (e1::rs)).1=(m p t e1).1++(bd (m p t) rs).1:=rfl;have e2':(bd (m p t) (e1::rs)).2=(m p t e1).2+(bd (m p t) rs).2:=rfl;rw[e2',←bz]at hk;rw[e1',aj,←bz,←aj]at hl;refine aY (ih (dn++(m p t e1).1) (k+(m p t e1).2) (some (.v (.dict (bH e1)))) (λe h=>he e (.tail _ h)) hk hl) λw' r=>?_;refine e1' ..▸e2' ..▸(bz ..)▸(aw ..)▸?_;refine⟨w',.next ?_ r⟩;exact le [(1,F.d (Jc hi)),(0,F.call (((X p t e1 hp ht (he e1 (.head _))).2 k) (aa (ao _ _) hk))),(1,F.b (nN (dn:=dn) (r:=(m p t e1).1) (aa (ao _ _) hl))),(0,F.cl (congrArg bE.lst (vW dn (m p t e1).1)))] (by kernel_rfl)
theorem Gg(hn:1≤n){m:jR}(X:Av P (n-1) m){p t:T}{e:aQ}(hp0:P p)(ht0:MO t)(he:iK e){k:Nat}(hk:k+(gc m [p] [t] [e]).2≤100000)(hl0:(bd (m p t) [e]).1.length≤100000):
  Call n (ofString "match_rows") [.v (.tuple (aL [p])),.v (.tuple (aL [t])),.v (.dict (bH e)),.l 0] [gQ k] (.c (.v (cC (gc m [p] [t] [e]).1)) [gQ (k+(gc m [p] [t] [e]).2)]):=by
 rw[show(gc m [p] [t] [e]).2=(bd (m p t) [e]).2 from qv _]at hk⊢;refine aY (xq X (PS:= [p]) (TS:= [t]) (e:=e) (rows:= [e]) hp0 ht0 rfl [e] [] k none (λe' h=>by refine ae.mp h ..▸?_;exact he) hk (by refine ch ..▸ce ..▸?_;exact hl0)) λw r=>?_;rw[bL]at r;have o:fO (Call (n-1)) (ofString "match_rows") (bY 77) [2] [.tuple [.int 0,a9 p]] (LF [p] [t] e [e] none none none none [gQ k]) .next (LF [p] [t] e (bd (m p t) [e]).1 (some (.v (.int 0))) (some (.v (a9 p))) (some (.v (cC (bd (m p t) [e]).1))) (C8 1 (cC (bd (m p t) [e]).1) w) [gQ (k+(bd (m p t) [e]).2),none]):=by
  refine .next ?_ ⟨rfl,rfl⟩;exact le [(2,F.loop (r)),(1,F.d (lB (bd (m p t) [e]).1))] (by kernel_rfl)
 exact br (pos hn) sY [(5,F.loop (o))] (by kernel_rfl)
theorem Gh(hn:1≤n){m:jR}(X:Av P (n-1) m){p q t u:T}{e:aQ}(hp0:P p)(hp1:P q)(ht0:MO t)(ht1:MO u)(he:iK e){k:Nat}(hk:k+(gc m [p,q] [t,u] [e]).2≤100000)(hl0:(bd (m p t) [e]).1.length≤100000)(hl1:(bd (m q u) (bd (m p t) [e]).1).1.length≤100000):
  Call n (ofString "match_rows") [.v (.tuple (aL [p,q])),.v (.tuple (aL [t,u])),.v (.dict (bH e)),.l 0] [gQ k] (.c (.v (cC (gc m [p,q] [t,u] [e]).1)) [gQ (k+(gc m [p,q] [t,u] [e]).2)]):=by
 rw[show(gc m [p,q] [t,u] [e]).2=(bd (m p t) [e]).2+(bd (m q u) (bd (m p t) [e]).1).2 from congrArg _ (qv _),←bz]at hk⊢;have h0:∀e'∈ [e],iK e':=λe' h=>by refine ae.mp h ..▸?_;exact he
 refine aY (xq X (PS:= [p,q]) (TS:= [t,u]) (e:=e) (rows:= [e]) hp0 ht0 rfl [e] [] k none h0 (aa (ao _ _) hk) (by refine ch ..▸ce ..▸?_;exact hl0)) λw r=>?_;rw[bL]at r;refine aY (DH X (PS:= [p,q]) (TS:= [t,u]) (e:=e) (rows:=(bd (m p t) [e]).1) hp1 ht1 rfl (bd (m p t) [e]).1 [] (k+(bd (m p t) [e]).2) (C8 1 (cC (bd (m p t) [e]).1) w) (tA X hp0 ht0 h0) hk (by refine ch ..▸ce ..▸?_;exact hl1)) λw2 r2=>?_;rw[bL]at r2;have o:fO (Call (n-1)) (ofString "match_rows") (bY 77) [2] [.tuple [.int 0,a9 p],.tuple [.int 1,a9 q]] (LF [p,q] [t,u] e [e] none none none none [gQ k]) .next (LF [p,q] [t,u] e (bd (m q u) (bd (m p t) [e]).1).1 (some (.v (.int 1))) (some (.v (a9 q))) (some (.v (cC (bd (m q u) (bd (m p t) [e]).1).1))) (C8 2 (cC (bd (m q u) (bd (m p t) [e]).1).1) w2) [gQ (k+(bd (m p t) [e]).2+(bd (m q u) (bd (m p t) [e]).1).2),none,none]):=by
  refine .next (s:=LF [p,q] [t,u] e (bd (m p t) [e]).1 (some (.v (.int 0))) (some (.v (a9 p))) (some (.v (cC (bd (m p t) [e]).1))) (C8 1 (cC (bd (m p t) [e]).1) w) [gQ (k+(bd (m p t) [e]).2),none]) ?_ (.next ?_ ⟨rfl,rfl⟩)
  ·exact le [(2,F.loop (r)),(1,F.d (lB (bd (m p t) [e]).1))] (by kernel_rfl)
  ·exact le [(2,F.loop (r2)),(1,F.d (lB (bd (m q u) (bd (m p t) [e]).1).1))] (by kernel_rfl)
 exact br (pos hn) sY [(5,F.loop (o))] (by kernel_rfl)
end
theorem xr{e:aQ}{x:Nm}{t:T}(he:iK e)(ht:t.dp≤64):∀e'∈kt e x t,iK e':=λe' h=>by
 unfold kt at h;split at h
 ·split at h
  ·refine ae.mp h ..▸?_;exact he
  ·exact cg h
 ·rename_i q;refine ae.mp h ..▸?_;refine⟨?_,λp hp=>?_⟩
  ·rw[bS,dw];refine⟨he.nod,by simp,λa ha b hb=>?_⟩;simp only[aE,jC,ae]at hb;subst hb;intro e2;subst e2;have:∀r:aQ,a∈r.map (·.1)→cM r a=none→False:=λr=>by
    induction r with
    |nil=>intro h;exact cg h
    |cons p r ih=>
     intro hm hl;rw[j6.2]at hl;split at hl
     ·exact sN hl
     ·rename_i hne;refine(aA.mp hm).elim (λe3=>?_) λhm=>?_
      ·exact hne e3.symm
      ·exact ih hm hl
   exact this e ha q
  ·refine(List.mem_append.mp hp).elim (λhp=>?_) λhp=>?_
   ·exact he.dp p hp
   ·refine ae.mp hp ..▸?_;exact ht
noncomputable def sk(s:Bool):Str:=if s then ofString "sum" else ofString "prod"
structure TS (s:Bool) (ts:List T):Prop where
 mo:∀t∈ts,MO t∧t.dp≤8
 val:(if s then fB ts else dA ts)≤Vb
 lf:eD ts≤60
theorem Aw{a b:List T}(h:a.Sublist b):eD a≤eD b∧fB a≤fB b:=by
 induction h with
 |slnil=>exact⟨ak _,ak _⟩
 |cons x _ ih=>simp only[iJ,iz];exact⟨aa ih.1 (aD _ _),aa ih.2 (aD _ _)⟩
 |cons_cons x _ ih=>simp only[iJ,iz];exact⟨nw [_,_,_] (.d yA yB .n) (.a yC yA) (.a yC yB) rfl ih.1,nw [_,_,_] (.d yA yB .n) (.a yC yA) (.a yC yB) rfl ih.2⟩
theorem BX{a b:List T}(h:a.Sublist b)(hp:∀t∈b,1≤t.val):dA a≤dA b:=by
 induction h with
 |slnil=>exact ak _
 |cons x h ih=>
  exact aa (ih λt ht=>hp t (.tail _ ht)) (eW _ (hp x (.head _)))
 |cons_cons x h ih=>exact eN _ (ih λt ht=>hp t (.tail _ ht))
theorem TS.sub{s:Bool}{a b:List T}(h:TS s b)(hs:a.Sublist b):TS s a:=by
 refine⟨λt ht=>h.mo t (hs.subset ht),?_,aa (Aw hs).1 h.lf⟩;have:=h.val
 induction s with
 |true=>exact aa (Aw hs).2 this
 |false=>exact aa (BX hs λt ht=>(cz (h.mo t ht).1.cn).1) this
section
variable {n:Nat}
theorem ux(hn:31≤n){s:Bool}{ts:List T}(h:TS s ts)(hne:ts≠ []):bU n (ofString "put_together") [.str (sk s),.list (aL ts)] (a9 (jv s ts))∧(jv s ts).dp≤64:=by
 induction s with
 |true=>
  have r:=xl (fz 30 hn) (λt ht=>(h.mo t ht).1.cn) hne h.val h.lf (nM λt ht=>(h.mo t ht).2);have hn:=pos hn;exact⟨(aT (pos hn) pN [(2,ar (r))] (by kernel_rfl)),aa (Am (ts:=ts) (λt ht=>(h.mo t ht).1.cn) (nM (D:=8) λt ht=>(h.mo t ht).2)) (by decide)⟩
 |false=>
  exact⟨(aT (pos hn) pN [(2,ar ((uq (fz 30 hn) (λt ht=>(h.mo t ht).1.cn) hne h.val h.lf (kr λt ht=>(h.mo t ht).2))))] (by kernel_rfl)),aa (tu (ts:=ts) (λt ht=>(h.mo t ht).1.cn) (kr (D:=8) λt ht=>(h.mo t ht).2)) (by decide)⟩
theorem Jd(hn:1≤n):∀(us:List T)(acc:List ab)(x:Option B),∃x',fh (Call n) (bY 79) [0] [0] 11 (aL us) acc ⟨[(ofString "one",x)],[]⟩ (acc++aL (us.filter λp=>!p.blank)) ⟨[(ofString "one",x')],[]⟩:=by
 intro us
 induction us with
 |nil=>exact λacc x=>aV x ((aF _).symm) rfl
 |cons u us ih=>
  intro acc x;refine bk ..▸?_
  induction q:u.blank with
  |true=>
   refine aY (ih acc (some (.v (a9 u)))) λx' r=>?_;refine⟨x',.cons ?_ r⟩;exact le [(0,ar (cQ hn u)),(1,F.b (nf q))] (by kernel_rfl)
  |false=>
   refine aY (ih (acc++ [a9 u]) (some (.v (a9 u)))) λx' r=>?_;rw[aw]at r;refine⟨x',.cons ?_ r⟩;exact le [(0,ar (cQ hn u)),(1,F.b (nt q))] (by kernel_rfl)
theorem Je(hn:1≤n):∀(us:List T)(acc:List ab)(x:Option B),∃x',fh (Call n) (bY 79) [0] [1] 11 (aL us) acc ⟨[(ofString "one",x)],[]⟩ (acc++aL (us.filter T.blank)) ⟨[(ofString "one",x')],[]⟩:=by
 intro us
 induction us with
 |nil=>exact λacc x=>aV x ((aF _).symm) rfl
 |cons u us ih=>
  intro acc x;refine bk ..▸?_
  induction q:u.blank with
  |false=>
   refine aY (ih acc (some (.v (a9 u)))) λx' r=>?_;refine⟨x',.cons ?_ r⟩;exact le [(0,ar (cQ hn u)),(1,F.b (q))] (by kernel_rfl)
  |true=>
   refine aY (ih (acc++ [a9 u]) (some (.v (a9 u)))) λx' r=>?_;rw[aw]at r;refine⟨x',.cons ?_ r⟩;exact le [(0,ar (cQ hn u)),(1,F.b (q))] (by kernel_rfl)
theorem pk(hn:2≤n){ps:List T}(hl:ps.length≤60):bU n (ofString "blanks_last") [.tuple (aL ps)] (.list (aL (aU ps))):=by
 refine aY (Jd (n:=n-1) (fz 1 hn) ps [] none) λx r=>?_;refine aY (Je (n:=n-1) (fz 1 hn) ps [] none) λy r2=>?_;exact aT (pos hn) yf [(1,F.comp (r)),(1,F.comp (r2)),(0,F.d (nI (ps.filter λp=>!p.blank) (ps.filter T.blank) (by refine aj ..▸?_;exact aa (jV (fk _ _) (fk _ _)) (aa (jV hl hl) (by decide)))))] (by kernel_rfl)
theorem BY(f:Nat→pj)(i k:Nat):fE f i (k+1)=((f i).1++(fE f (i+1) k).1,(f i).2+(fE f (i+1) k).2):=rfl
end
theorem DI{ts:List T}{i:Nat}(h:ts.length≤60):jE .Add (.list ((aL ts).take (i:Int).toNat)) (.list ((aL ts).drop ((i:Int)+1).toNat))=some (.list (aL (ts.eraseIdx i))):=by
 refine(show((i:Int)+1).toNat=i+1 from rfl).symm▸cE ..▸uh ..▸ui ..▸vH ..▸?_;exact nI _ _ (by refine(vH ..)▸?_;exact aa (List.Sublist.length_le (hH ts i)) (aa h (by decide)))
noncomputable def DJ(n:Nat)(f:Str)(as:List ab)(r:pj):Prop:=∀k:Nat,k+r.2≤100000→r.1.length≤100000→Call n f (as.map .v++ [.l 0]) [gQ k] (.c (.v (cC r.1)) [gQ (k+r.2)])
noncomputable def DK(r:pj):Prop:=∀e∈r.1,iK e
theorem DK.app{a b:pj}{c:Nat}(ha:DK a)(hb:DK b):DK (a.1++b.1,c):=λe h=>(List.mem_append.mp h).elim (ha e) (hb e)
section
variable {n:Nat}
noncomputable def Pp(s:Bool)(PS ts:List T)(e:aQ)(k:Nat)(dn:List aQ)(x y z:Option B):St:=⟨[(ofString "kind",some (.v (.str (sk s)))),(ofString "patterns",some (.v (.list (aL PS)))),(ofString "terms",some (.v (.list (aL ts)))),(ofString "found",some (.v (.dict (bH e)))),(ofString "tries",some (.l 0)),(ofString "rows",some (.l 1)),(ofString "at",x),(ofString "term",y),(ofString "later",z)],[gQ k,some (.lst (dn.map λe=>B.v (.dict (bH e))))]⟩
theorem Jf{s:Bool}{p:T}{ps ts:List T}{e:aQ}{i:Nat}{t:T}{g:aQ→pj}(htl:ts.length≤60)(H:∀e1,iK e1→DJ n (ofString "match_parts") [.str (sk s),.list (aL ps),.list (aL (ts.eraseIdx i)),.dict (bH e1)] (g e1)):
  ∀(rs dn:List aQ)(k:Nat)(z:Option B),(∀e∈rs,iK e)→k+(bd g rs).2≤100000→(dn++(bd g rs).1).length≤100000→
  ∃z',fO (Call n) (ofString "match_parts") (bY 78) [4,0] (rs.map λe=>.dict (bH e)) (Pp s (p::ps) ts e k dn (some (.v (.int i))) (some (.v (a9 t))) z) .next (Pp s (p::ps) ts e (k+(bd g rs).2) (dn++(bd g rs).1) (some (.v (.int i))) (some (.v (a9 t))) z'):=by
 intro rs
 induction rs with
 |nil=>exact λdn k z _ _ _=>⟨z,by refine(show(bd g []).1= []from rfl).symm▸aF ..▸?_;exact⟨rfl,rfl⟩⟩
 |cons e1 rs ih=>
  intro dn k z he hk hl;have e1':(bd g (e1::rs)).1=(g e1).1++(bd g rs).1:=rfl;have e2':(bd g (e1::rs)).2=(g e1).2+(bd g rs).2:=rfl;rw[e2',←bz]at hk;rw[e1',←aw]at hl;refine aY (ih (dn++(g e1).1) (k+(g e1).2) (some (.v (.dict (bH e1)))) (λe h=>he e (.tail _ h)) hk hl) λz' r=>?_;refine e1' ..▸e2' ..▸(bz ..)▸(aw ..)▸?_;rw[aj]at hl;have hl1:=aa (ao _ _) hl;refine⟨z',.next ?_ r⟩;exact le [(5,F.d (DI (i:=i) htl)),(0,F.call ((H e1 (he e1 (.head _)) k) (aa (ao _ _) hk) (aa (by refine aj ..▸?_;exact aD _ _) hl1))),(1,F.b (nN (dn:=dn) (r:=(g e1).1) hl1)),(0,F.cl (congrArg bE.lst (vW dn (g e1).1)))] (by kernel_rfl)
theorem Jg{s:Bool}{p:T}{ps ts:List T}{e:aQ}{f:Nat→pj}{a:T→pj}{g:Nat→aQ→pj}(htl:ts.length≤60)(hf:∀i t,ts[i]?=some t→f i=((bd (g i) (a t).1).1,(a t).2+(bd (g i) (a t).1).2))
  (A:∀t∈ts,DK (a t)∧∀k:Nat,k+(a t).2≤100000→Call n (ofString "match_with") [.v (a9 p),.v (a9 t),.v (.dict (bH e)),.l 0] [gQ k] (.c (.v (cC (a t).1)) [gQ (k+(a t).2)]))
  (H:∀i e1,iK e1→DJ n (ofString "match_parts") [.str (sk s),.list (aL ps),.list (aL (ts.eraseIdx i)),.dict (bH e1)] (g i e1)):
  ∀(us:List T)(i:Nat)(dn:List aQ)(k:Nat)(x y z:Option B),us=ts.drop i→k+(fE f i us.length).2≤100000→(dn++(fE f i us.length).1).length≤100000→
  ∃x' y' z',fO (Call n) (ofString "match_parts") (bY 78) [4] (kM i (aL us)) (Pp s (p::ps) ts e k dn x y z) .next (Pp s (p::ps) ts e (k+(fE f i us.length).2) (dn++(fE f i us.length).1) x' y' z'):=by
 intro us
 induction us with
 |nil=>exact λi dn k x y z _ _ _=>zq x y z (by refine(show(fE f i ([]:List T).length).1= []from rfl).symm▸aF ..▸?_;exact⟨rfl,rfl⟩)
 |cons t us ih=>
  intro i dn k x y z hus hk hl;have hi:ts[i]?=some t:=by
   have:(ts.drop i)[0]?=some t:=by refine(hus ..)▸?_;rfl
   rw[List.getElem?_drop,qv]at this;exact this
  have hvs:us=ts.drop (i+1):=by
   have:=congrArg List.tail hus;rw[List.tail_drop]at this;exact this
  refine aB (A t (List.mem_of_getElem? hi)) λA1 A2=>?_;have e1':(fE f i (t::us).length).1=(bd (g i) (a t).1).1++(fE f (i+1) us.length).1:=by exact aP ..▸BY ..▸hf i t hi ..▸rfl
  have e2':(fE f i (t::us).length).2=(a t).2+(bd (g i) (a t).1).2+(fE f (i+1) us.length).2:=by exact aP ..▸BY ..▸hf i t hi ..▸rfl
  rw[e2',←bz,←bz]at hk;rw[e1',←aw]at hl;have hk1:=aa (ao _ _) hk;have hl1:=aa (by rw[aj];exact ao _ _) hl;refine aY (Jf (s:=s) (p:=p) (e:=e) (t:=t) htl (H i) (a t).1 dn (k+(a t).2) z A1 hk1 hl1) λz1 r1=>?_;refine wi (ih (i+1) (dn++(bd (g i) (a t).1).1) (k+(a t).2+(bd (g i) (a t).1).2) (some (.v (.int i))) (some (.v (a9 t))) z1 hvs hk hl) λx' y' z' r=>?_;refine e1' ..▸e2' ..▸(bz ..)▸(bz ..)▸(aw ..)▸?_;refine zq x' y' z' (.next ?_ r);exact le [(1,F.call (A2 k (aa (ao _ _) hk1))),(1,F.loop (r1))] (by kernel_rfl)
theorem BZ(hn:1≤n){s:Bool}{p:T}{ps ts:List T}{e:aQ}(h:ts.length<ps.length+1):DJ n (ofString "match_parts") [.str (sk s),.list (aL (p::ps)),.list (aL ts),.dict (bH e)] ([],0):=λk _ _=>by
 exact br (pos hn) gK [(6,F.b (show decide (((aL (p::ps)).length:Int)>((aL ts).length:Int))=true by refine(cr ..).symm▸(cr ..).symm▸?_;exact dt (Int.ofNat_lt.mpr h)))] (by kernel_rfl)
theorem qg{p:T}{ps ts:List T}(h:¬ts.length<ps.length+1):decide (((aL (p::ps)).length:Int)>((aL ts).length:Int))=false:=by refine(cr ..).symm▸(cr ..).symm▸?_;exact df (λw=>h (Int.ofNat_lt.mp w))
theorem Gj{P:T→Prop}{s:Bool}{m:jR}{N0:Nat}(hN:34≤N0)(X:∀n,N0≤n→Av P n m):∀(ps:List T)(n:Nat),N0+1+ps.length≤n→∀(ts:List T)(e:aQ),(∀p∈ps,P p)→TS s ts→ts.length≤60→iK e→
  DK (cF m s ps ts e)∧DJ n (ofString "match_parts") [.str (sk s),.list (aL ps),.list (aL ts),.dict (bH e)] (cF m s ps ts e):=by
 intro ps
 induction ps with
 |nil=>
  intro n hn ts e hps tO htl he;have hn:1≤n:=aa (aD 1 N0) hn
  induction ts using am with
  |nil=>
   refine⟨λe' h=>by refine ae.mp (show e'∈ [e]from h) ..▸?_;exact he,λk hk hlen=>?_⟩;exact br (pos hn) gK [] (by kernel_rfl)
  |cons t ts=>
   refine⟨λe' h=>(cg h),λk hk hlen=>?_⟩;exact br (pos hn) gK [] (by kernel_rfl)
 |cons p ps ih=>
  intro n hn ts e hps tO htl he;have hn':N0+1+ps.length≤n-1:=bI hn;have h35:35≤n-1:=aa (bh hN) (aa (ao _ _) hn');have hn:1≤n:=aa (aa (by decide) h35) (dH n 1)
  by_cases h1:ts.length<ps.length+1
  ·refine(show cF m s (p::ps) ts e=([],0) by rw[ge.2,if_pos h1]).symm▸?_;exact⟨λe' h=>(cg h),BZ hn h1⟩
  induction h2:(ps.isEmpty&&p.blank)with
  |true=>
   have h2':=h2;rw[ay,iE]at h2;refine aB h2 λz1 hb=>?_;clear h2;obtain rfl:=z1
   induction p using T.casesOn<;>first|exact nsN hb|exact dC hb|cases hb|skip
   rename_i x;have hne:ts≠ []:=by intro e2;rw[e2]at h1;exact h1 (by decide)
   refine(show cF m s [.sym x] ts e=(kt e x (jv s ts),0) by rw[ge.2,if_neg h1,if_pos h2'];rfl).symm▸?_;refine aB (ux (n:=n-1) (aa (by decide) h35) tO hne) λq1 q2=>?_;have rb:=cQ (n:=n-1) (aa (by decide) h35) (.sym x);rw[hb]at rb;refine⟨xr he q2,λk hk hlen=>?_⟩;exact br (pos hn) gK [(6,F.b (qg (p:=.sym x) h1)),(4,ar (rb)),(5,ar (q1)),(0,ar (qf (n:=n-1) (aa (by decide) h35) he x q2))] (by kernel_rfl)
  |false=>
   refine ku (m:=m) (s:=s) (p:=p) (ps:=ps) (ts:=ts) (e:=e) h1 h2 ..▸?_
   generalize hf:l4 m p (cF m s ps) ts e=f
   have hfi:∀(i:Nat)(t:T),ts[i]?=some t→f i=((bd (cF m s ps (ts.eraseIdx i)) (m p t e).1).1,(m p t e).2+(bd (cF m s ps (ts.eraseIdx i)) (m p t e).1).2):=λi t ht=>by refine(hf ..)▸?_;exact i7 ht
   have hm:=λ(t:T)(ht:t∈ts)=>X (n-1) (aa (nW _) (aa (ao _ _) hn'):N0≤n-1) p t e (hps p (.head _)) (tO.mo t ht).1 he;have hin:=λ(i:Nat)(e1:aQ)(he1:iK e1)=>ih (n-1) hn' (ts.eraseIdx i) e1 (λq hq=>hps q (kR p hq)) (tO.sub (hH ts i)) (aa (List.Sublist.length_le (hH ts i)) htl) he1;have heach:∀(i:Nat)(rows:List aQ),(∀e∈rows,iK e)→DK (bd (cF m s ps (ts.eraseIdx i)) rows):=λi rows=>by
    induction rows with
    |nil=>intro _ e' h;exact cg h
    |cons e1 r ihr=>exact λhr=>DK.app (hin i e1 (hr e1 (.head _))).1 (ihr λe2 h2=>hr e2 (.tail _ h2))
   refine⟨?_,λk hk hlen=>?_⟩
   ·have key:∀(j i:Nat),DK (fE f i j):=λj=>by
     induction j with
     |zero=>intro i e' h;exact cg h
     |succ j ihj=>
      intro i;refine DK.app (a:=f i) ?_ (ihj (i+1))
      induction q:ts[i]? with
      |none=>refine(hf ..)▸mP q ..▸?_;intro e' h;exact cg h
      |some t=>refine hfi i t q ..▸?_;exact heach i _ (hm t (List.mem_of_getElem? q)).1
    exact key _ _
   ·refine wi (Jg (n:=n-1) (s:=s) (p:=p) (ps:=ps) (e:=e) (f:=f) (a:=λt=>m p t e) (g:=λi=>cF m s ps (ts.eraseIdx i)) htl hfi hm (λi e1 he1=>(hin i e1 he1).2) ts 0 [] k none none none rfl hk (by refine bL ..▸?_;exact hlen)) λx y z r=>?_;rw[bL]at r
    induction ps using am with
    |nil=>
     have rb:=cQ (n:=n-1) (aa (by decide) h35) p;rw[show p.blank=false from h2]at rb;exact br (pos hn) gK [(6,F.b (qg (p:=p) (ps:= []) h1)),(4,ar (rb)),(5,F.loop (r)),(1,F.d (lB (fE f 0 ts.length).1))] (by kernel_rfl)
    |cons p2 ps=>exact br (pos hn) gK [(6,F.b (qg (p:=p) (ps:=p2::ps) h1)),(6,F.loop (r)),(1,F.d (lB (fE f 0 ts.length).1))] (by kernel_rfl)
end
noncomputable def QH(m:jR):Prop:=∀p t e,(m p t e).1.length≤(m p t e).2
theorem tB{m:aQ→pj}{c:Nat}(h:∀e,(m e).1.length≤(m e).2+c):∀rows:List aQ,(bd m rows).1.length≤(bd m rows).2+c*rows.length
 | []=>a7 _
 |e::r=>by
  simp only[vU,aj,aP,Nat.mul_add];exact nw [_,_,_,_,_,_] (.d yA (.a yB yC) (.d yD (.a yE yF) .n)) (.a yA yD) (.a (.a yB yE) (.a yF (.w 1 yC))) rfl (h e) (tB h r)
theorem Jh(e:aQ)(x:Nm)(t:T):(kt e x t).length≤1:=by
 unfold kt;split
 ·split<;>simp
 ·simp
theorem qP(e:aQ)(p t:T):(ur e p t).length≤1:=by
 induction p using T.casesOn<;>first|exact Jh _ _ _|exact a7 _
theorem B0{f:Nat→pj}(h:∀i,(f i).1.length≤(f i).2):∀j i,(fE f i j).1.length≤(fE f i j).2
 |0,_=>a7 _
 |j+1,i=>by
  simp only[vV,aj];exact nw [_,_,_,_] (.d yA yB (.d yC yD .n)) (.a yA yC) (.a yB yD) rfl (h i) (B0 h j (i+1))
theorem uy{m:jR}{s:Bool}(h:QH m):∀(ps ts:List T)(e:aQ),(cF m s ps ts e).1.length≤(cF m s ps ts e).2+1
 | [],ts,e=>by
  rw[ge.1];split<;>simp
 |p::ps,ts,e=>by
  by_cases h1:ts.length<ps.length+1
  ·rw[ge.2,if_pos h1];simp
  induction h2:(ps.isEmpty&&p.blank)with
  |true=>
   rw[ge.2,if_neg h1,if_pos h2];simpa using(qP e p (jv s ts))
  |false=>
   refine ku h1 h2 ..▸?_;refine dQ (B0 (λi=>?_) _ _)
   induction q:ts[i]? with
   |none=>refine mP q ..▸?_;exact ak _
   |some t=>
    refine i7 q ..▸?_;have h3:=tB (m:=cF m s ps (ts.eraseIdx i)) (c:=1) (λe=>uy h ps _ e) (m p t e).1;simp only at h3⊢;exact nw [_,_,_,_] (.d yA (.a yB (.m 1 yC)) (.d yC yD .n)) yA (.a yD yB) rfl h3 (h p t e)
theorem uz:∀d,QH (bB d)
 |0,_,_,_=>ak _
 |d+1,p,t,e=>by
  have ih:=uz d;have e1 (p t:T) (rows:List aQ):(bd (bB d p t) rows).1.length≤(bd (bB d p t) rows).2:=by
   simpa using(tB (m:=bB d p t) (c:=0) (λe=>ih p t e) rows)
  have e2:∀b:Bool,(if b then [e]else []).length≤1:=λb=>Bool.casesOn b (a7 _) (ak _);exact xn (P:=λ_ _ r=>r.1.length≤r.2) (λ_=>qP e p t) (λ_ _=>e2 _) (λ_ _ _=>e2 _) (λb i c j=>dQ (aa (e1 (.num i) (.num j) (bd (bB d b c) [e]).1) (aa (ao _ _) (aD _ _))))
   (λu v=>dQ (e1 u v [e])) (λps ts=>uy (s:=true) ih _ _ e) (λps ts=>uy (s:=false) ih _ _ e) λ_ _=>a7 _
noncomputable def ef(l:Nat):Nat:= [0,1,2,6,24,48,144,576,1152,3456].getD l 0
noncomputable def nO(l:Nat):Nat:= [0,1,5,16,65,162,474,1848,4274,12701].getD l 0
noncomputable def ym(f:Nat→Nat):Nat→Nat→Nat
 |_,0=>0
 |i,k+1=>f i+ym f (i+1) k
theorem NK:(∀(f:Nat→Nat)(x:Nat),ym f x 0=0)∧(∀(f:Nat→Nat)(x k:Nat),ym f x k.succ=f x+ym f (x+1) k):=⟨λ_ _=>rfl,λ_ _ _=>rfl⟩
noncomputable def J4:Nat→List Nat→Nat
 |0,_=>1
 |k+1,ls=>max 1 (ym (λi=>ef (ls.getD i 0)*J4 k (ls.eraseIdx i)) 0 (k+1))
noncomputable def My:Nat→List Nat→Nat
 |0,_=>0
 |k+1,ls=>ym (λi=>nO (ls.getD i 0)+ef (ls.getD i 0)*My k (ls.eraseIdx i)) 0 (k+1)
theorem Qe:∀a,a<8→∀b,b<8→a+b+2≤9→J4 2 [a+1,b+1]≤ef (a+b+2)∧1+My 2 [a+1,b+1]≤nO (a+b+2):=by decide+kernel
theorem Qf:∀a,a<7→∀b,b<7→∀c,c<7→a+b+c+3≤9→J4 3 [a+1,b+1,c+1]≤ef (a+b+c+3)∧1+My 3 [a+1,b+1,c+1]≤nO (a+b+c+3):=by decide+kernel
theorem OY:((bF 6).all λa=>(bF 6).all λb=>(bF 6).all λc=>(bF 6).all λd=>!decide (a+b+c+d+4≤9)||(decide (J4 4 [a+1,b+1,c+1,d+1]≤ef (a+b+c+d+4))&&decide (1+My 4 [a+1,b+1,c+1,d+1]≤nO (a+b+c+d+4))))=true:=by decide+kernel
theorem Qg(a:Nat)(ha:a<6)(b:Nat)(hb:b<6)(c:Nat)(hc:c<6)(d:Nat)(hd:d<6)(h:a+b+c+d+4≤9):J4 4 [a+1,b+1,c+1,d+1]≤ef (a+b+c+d+4)∧1+My 4 [a+1,b+1,c+1,d+1]≤nO (a+b+c+d+4):=by
 have q:=OY;rw[aM]at q;have q:=q a (List.mem_range.mpr ha);rw[aM]at q;have q:=q b (List.mem_range.mpr hb);rw[aM]at q;have q:=q c (List.mem_range.mpr hc);rw[aM]at q;have q:=q d (List.mem_range.mpr hd);rw[decide_eq_true h]at q;simpa only[nU,jc,ay,decide_eq_true_eq]using q
theorem qQ{α β:Type}(f:α→β):∀(l:List α)(i:Nat),(l.eraseIdx i).map f=(l.map f).eraseIdx i
 | [],_=>rfl
 |_::_,0=>rfl
 |a::l,i+1=>by simp only[po,aE,qQ f l i]
theorem LG:∀l,l<9→1≤l→ef l≤ef (l+1)∧1+nO l+ef l*1≤nO (l+1)∧1≤ef l∧1≤nO l:=by decide+kernel
theorem B3:∀l,l<10→1≤l→1≤ef l∧1≤nO l∧nO l≤12701:=by decide+kernel
theorem uA{f g:Nat→Nat}:∀ {k i:Nat},(∀j,i≤j→j<i+k→f j≤g j)→ym f i k≤ym g i k
 |0,_,_=>ak _
 |k+1,i,h=>jV (h i (ak _) (nw [_,_] .n (.s yA) (.a yA (.s yB)) rfl)) (uA λj h1 h2=>h j (aW h1) (nw [_,_,_] (.d (.s yA) (.a (.s yB) yC) .n) (.s yA) (.a yB (.s yC)) rfl h2))
theorem y4(f:Nat→pj):∀k i,(fE f i k).1.length=ym (λj=>(f j).1.length) i k∧(fE f i k).2=ym (λj=>(f j).2) i k
 |0,_=>⟨rfl,rfl⟩
 |k+1,i=>by
  refine aB (y4 f k (i+1)) λa b=>?_;simp only[vV,NK,aj];exact⟨by exact a ..▸rfl,by exact b ..▸rfl⟩
theorem mQ{m:aQ→pj}{R F:Nat}(h:∀e,(m e).1.length≤R∧(m e).2≤F):∀rows:List aQ,(bd m rows).1.length≤rows.length*R∧(bd m rows).2≤rows.length*F
 | []=>⟨a7 _,a7 _⟩
 |e::r=>by
  refine aB (mQ h r) λa b=>?_;refine aB (h e) λc d=>?_;simp only[vU,aj,aP,nY];exact⟨nw [_,_,_,_] (.d yA yB (.d yC yD .n)) (.a yC yA) (.a yB (.m 1 yD)) rfl a c,nw [_,_,_,_] (.d yA yB (.d yC yD .n)) (.a yC yA) (.a yB (.m 1 yD)) rfl b d⟩
noncomputable def Qh(m:jR)(t:T):Prop:=∀p e,(m p t e).1.length≤ef t.lf∧(m p t e).2≤nO t.lf
theorem tE{m:jR}{s:Bool}:∀(ps ts:List T),(∀t∈ts,Qh m t)→∀e,(cF m s ps ts e).1.length≤J4 ts.length (ts.map T.lf)∧(cF m s ps ts e).2≤My ts.length (ts.map T.lf)
 | [],ts,_,e=>by
  have h1:1≤J4 ts.length (ts.map T.lf):=by
   induction ts.length using cZ with
   |zero=>exact ak _
   |succ k=>exact aS _ _
  rw[ge.1];refine⟨?_,a7 _⟩;split
  ·exact h1
  ·exact a7 _
 |p::ps,ts,tO,e=>by
  have h1:1≤J4 ts.length (ts.map T.lf):=by
   induction ts.length using cZ with
   |zero=>exact ak _
   |succ k=>exact aS _ _
  by_cases q1:ts.length<ps.length+1
  ·rw[ge.2,if_pos q1];exact⟨a7 _,a7 _⟩
  induction q2:(ps.isEmpty&&p.blank)with
  |true=>
   rw[ge.2,if_neg q1,if_pos q2];exact⟨aa (qP _ _ _) h1,a7 _⟩
  |false=>
   refine ku q1 q2 ..▸?_;refine aB (y4 (l4 m p (cF m s ps) ts e) ts.length 0) λa b=>?_;refine a ..▸b ..▸?_;obtain⟨k,hk⟩:∃k,ts.length=k+1:=⟨ts.length-1,by exact aC ((a6 _ _)) ((ah (az (aa (aD _ _) (cB q1)))))⟩
   have key:∀i,i<k+1→(l4 m p (cF m s ps) ts e i).1.length≤ef ((ts.map T.lf).getD i 0)*J4 k ((ts.map T.lf).eraseIdx i)∧(l4 m p (cF m s ps) ts e i).2≤nO ((ts.map T.lf).getD i 0)+ef ((ts.map T.lf).getD i 0)*My k ((ts.map T.lf).eraseIdx i):=λi hi=>by
    have e1:ts[i]?=some ts[i]:=List.getElem?_eq_getElem (aa hi (ah hk.symm));have e2:(ts.map T.lf).getD i 0=ts[i].lf:=by
     refine List.getD_eq_getElem?_getD ..▸List.getElem?_map ..▸e1 ..▸?_;rfl
    have e3:(ts.eraseIdx i).length=k:=by refine zo (aa hi (ah hk.symm)) ..▸?_;exact aC (nw [_,_,_] (.d yA (.s yB) (.d (.s yC) yA .n)) yC yB rfl (ah hk) (ah (az (aa (aD _ _) (cB q1))))) (nw [_,_,_] (.d (.s yA) yB (.d yB (.s yC) .n)) yA yC rfl (ah hk.symm) (a6 _ _))
    refine aB (tO ts[i] (we _) p e) λc d=>?_;have ih:=tE (m:=m) (s:=s) ps (ts.eraseIdx i) λt ht=>tO t ((hH ts i).subset ht);rw[e3,←((qQ _ _ _).symm:(ts.map T.lf).eraseIdx i=(ts.eraseIdx i).map T.lf)]at ih;refine aB (mQ (m:=cF m s ps (ts.eraseIdx i)) ih (m p ts[i] e).1) λf g=>?_;refine i7 e1 ..▸e2 ..▸?_;exact⟨aa f (dK _ c),jV d (aa g (dK _ c))⟩
   refine hk ..▸?_;refine⟨aa (uA λj _ h2=>(key j (nw [_,_] (.d (.s yA) (.a (.k 0) (.s yB)) .n) (.s yA) (.s yB) rfl h2)).1) (bQ _ _),uA λj _ h2=>(key j (nw [_,_] (.d (.s yA) (.a (.k 0) (.s yB)) .n) (.s yA) (.s yB) rfl h2)).2⟩
theorem Ji:∀ {ls:List Nat},2≤ls.length→ls.length≤4→(∀l∈ls,1≤l)→ls.sum≤9→J4 ls.length ls≤ef ls.sum∧1+My ls.length ls≤nO ls.sum
 | [a,b],_,_,h,hs=>by
  obtain⟨a,rfl⟩:∃a',a=a'+1:=⟨a-1,by have:=h a (by simp);exact aC ((a6 _ _)) ((ah (az (this))))⟩
  obtain⟨b,rfl⟩:∃a',b=a'+1:=⟨b-1,by have:=h b (by simp);exact aC ((a6 _ _)) ((ah (az (this))))⟩
  have e: [a+1,b+1].sum=a+b+2:=by simp;exact aC (nw [_,_] .n (.a (.s yA) (.s yB)) (.a (.a yA yB) (.k 2)) rfl) (nw [_,_] .n (.a (.a yA yB) (.k 2)) (.a (.s yA) (.s yB)) rfl)
  rw[e]at hs⊢;exact Qe a (nw [_,_] (.d (.a (.a yA yB) (.k 2)) (.k 9) .n) (.s yA) (.k 8) rfl hs) b (nw [_,_] (.d (.a (.a yA yB) (.k 2)) (.k 9) .n) (.s yB) (.k 8) rfl hs) hs
 | [a,b,c],_,_,h,hs=>by
  obtain⟨a,rfl⟩:∃a',a=a'+1:=⟨a-1,by have:=h a (by simp);exact aC ((a6 _ _)) ((ah (az (this))))⟩
  obtain⟨b,rfl⟩:∃a',b=a'+1:=⟨b-1,by have:=h b (by simp);exact aC ((a6 _ _)) ((ah (az (this))))⟩
  obtain⟨c,rfl⟩:∃a',c=a'+1:=⟨c-1,by have:=h c (by simp);exact aC ((a6 _ _)) ((ah (az (this))))⟩
  have e: [a+1,b+1,c+1].sum=a+b+c+3:=by simp;exact aC (nw [_,_,_] .n (.a (.s yA) (.a (.s yB) (.s yC))) (.a (.a (.a yA yB) yC) (.k 3)) rfl) (nw [_,_,_] .n (.a (.a (.a yA yB) yC) (.k 3)) (.a (.s yA) (.a (.s yB) (.s yC))) rfl)
  rw[e]at hs⊢;exact Qf a (nw [_,_,_] (.d (.a (.a (.a yA yB) yC) (.k 3)) (.k 9) .n) (.s yA) (.k 7) rfl hs) b (nw [_,_,_] (.d (.a (.a (.a yA yB) yC) (.k 3)) (.k 9) .n) (.s yB) (.k 7) rfl hs) c (nw [_,_,_] (.d (.a (.a (.a yA yB) yC) (.k 3)) (.k 9) .n) (.s yC) (.k 7) rfl hs) hs
 | [a,b,c,d],_,_,h,hs=>by
  obtain⟨a,rfl⟩:∃a',a=a'+1:=⟨a-1,by have:=h a (by simp);exact aC ((a6 _ _)) ((ah (az (this))))⟩
  obtain⟨b,rfl⟩:∃a',b=a'+1:=⟨b-1,by have:=h b (by simp);exact aC ((a6 _ _)) ((ah (az (this))))⟩
  obtain⟨c,rfl⟩:∃a',c=a'+1:=⟨c-1,by have:=h c (by simp);exact aC ((a6 _ _)) ((ah (az (this))))⟩
  obtain⟨d,rfl⟩:∃a',d=a'+1:=⟨d-1,by have:=h d (by simp);exact aC ((a6 _ _)) ((ah (az (this))))⟩
  have e: [a+1,b+1,c+1,d+1].sum=a+b+c+d+4:=by simp;exact aC (nw [_,_,_,_] .n (.a (.s yA) (.a (.s yB) (.a (.s yC) (.s yD)))) (.a (.a (.a (.a yA yB) yC) yD) (.k 4)) rfl) (nw [_,_,_,_] .n (.a (.a (.a (.a yA yB) yC) yD) (.k 4)) (.a (.s yA) (.a (.s yB) (.a (.s yC) (.s yD)))) rfl)
  rw[e]at hs⊢;exact Qg a (nw [_,_,_,_] (.d (.a (.a (.a (.a yA yB) yC) yD) (.k 4)) (.k 9) .n) (.s yA) (.k 6) rfl hs) b (nw [_,_,_,_] (.d (.a (.a (.a (.a yA yB) yC) yD) (.k 4)) (.k 9) .n) (.s yB) (.k 6) rfl hs) c (nw [_,_,_,_] (.d (.a (.a (.a (.a yA yB) yC) yD) (.k 4)) (.k 9) .n) (.s yC) (.k 6) rfl hs) d (nw [_,_,_,_] (.d (.a (.a (.a (.a yA yB) yC) yD) (.k 4)) (.k 9) .n) (.s yD) (.k 6) rfl hs) hs
 | [],h,_,_,_=>by simp at h
 | [_],h,_,_,_=>by simp at h
 |_::_::_::_::_::_,_,h,_,_=>by simp at h
theorem Jj{l:List T}(h:xU l):(∀x∈l.map T.lf,1≤x)∧(l.map T.lf).sum=eD l:=by
 refine⟨λx hx=>?_,(mO l).symm⟩;refine aG (List.mem_map.mp hx) λt ht z1=>?_;obtain rfl:=z1;exact(cz (cW.mp h t ht)).2.1
theorem k9:∀(d:Nat){t:T},Cn t→t.small=true→t.lf≤9→Qh (bB d) t
 |0,_,_,_,_=>λ_ _=>⟨a7 _,a7 _⟩
 |d+1,t,hc,hs,hl=>λp e=>by
  show(l6 (bB d) p t e).1.length≤_∧(l6 (bB d) p t e).2≤_;have parts (l:List T) (s:Bool) (ps:List T) (hcl:xU l) (hsm:iU l=true) (h2:2≤l.length) (h4:l.length≤4) (hle:eD l≤9):(i8 (cF (bB d) s ps l e)).1.length≤ef (eD l)∧(i8 (cF (bB d) s ps l e)).2≤nO (eD l):=by
   refine aB (Jj hcl) λp1 p2=>?_;refine aB (tE (s:=s) ps l (λt ht=>k9 d (cW.mp hcl t ht) (jQ.mp hsm t ht) (aa (k7 ht) hle):∀t∈l,Qh (bB d) t) e) λa b=>?_;have:=Ji (ls:=l.map T.lf) (by simpa using h2) (by simpa using h4) p1 (by refine p2 ..▸?_;exact hle);rw[p2,aN]at this;simp only[i8];exact⟨aa a this.1,nw [_,_,_] (.d yA yB (.d (.a (.k 1) yB) yC .n)) (.s yA) yC rfl b this.2⟩
  have one {t:T} (hc:Cn t) (hl:t.lf≤9):1≤ef t.lf∧1≤nO t.lf:=⟨(B3 t.lf (cS hl) (cz hc).2.1).1,(B3 t.lf (cS hl) (cz hc).2.1).2.1⟩
  have ite {t:T} (hc:Cn t) (hl:t.lf≤9) (b:Bool):(if b then [e]else []).length≤ef t.lf∧1≤nO t.lf:=⟨by induction b;exact a7 _;exact(one hc hl).1,(one hc hl).2⟩
  have f1 (b c:T) (hc:Cn c) (hs:c.small=true) (hl:c.lf+1≤9):(bd (bB d b c) [e]).1.length≤ef c.lf∧0+(bd (bB d b c) [e]).2+1≤1+nO c.lf:=by
   refine aB (mQ (λe=>k9 d hc hs (aW hl) b e) [e]) λa1 a2=>?_;rw[fm,nZ]at a1 a2;exact⟨a1,by rw[ce,fV];exact bM a2 1⟩
  refine xn (P:=λp t r=>Cn t→t.small=true→t.lf≤9→r.1.length≤ef t.lf∧r.2≤nO t.lf) (λ_ hc _ hl=>⟨aa (qP _ _ _) (one hc hl).1,(one hc hl).2⟩) (λi j hc _ hl=>ite hc hl _) (λx y _ hc _ hl=>ite hc hl _) (λb i c j hc hs hl=>?_) (λu v hc hs hl=>?_)
   (λps ts hc hs hl=>?_) (λps ts hc hs hl=>?_) (λp t hc _ hl=>⟨a7 _,(one hc hl).2⟩) hc hs hl
  ·have hlc:c.lf+1≤9:=hl;refine aB (f1 b c hc.1 hs hlc) λa1 a2=>?_;refine aB (mQ (λe=>k9 d (t:=.num j) (cK (by decide) hc.2.2:(1:Int)≤j) rfl (by decide:1≤9) (.num i) e) (bd (bB d b c) [e]).1) λb1 b2=>?_;refine eL (LG c.lf hlc (cz hc.1).2.1) λu1 u2 _ _=>?_;rw[show ef (T.num j).lf=1 from rfl,n0]at b1;rw[show nO (T.num j).lf=1 from rfl,n0]at b2;rw[n0]at u2;show(bd (bB d (.num i) (.num j)) (bd (bB d b c) [e]).1).1.length≤ef (c.lf+1)∧(bd (bB d b c) [e]).2+((bd (bB d (.num i) (.num j)) (bd (bB d b c) [e]).1).2+0)+1≤nO (c.lf+1);exact⟨aa b1 (aa a1 u1),nw [_,_,_,_,_,_] (.d (.s (.a (.k 0) yA)) (.a (.k 1) yB) (.d yC yD (.d yD yE (.d (.a (.a (.k 1) yB) yE) yF .n)))) (.s (.a yA (.a yC (.k 0)))) yF rfl a2 b2 a1 u2⟩
  ·have hlc:v.lf+1≤9:=hl;refine aB (f1 u v hc hs hlc) λa1 a2=>?_;refine eL (LG v.lf hlc (cz (t:=v) hc).2.1) λu1 u2 _ _=>?_;exact⟨aa a1 u1,by rw[show(i8 (gc (bB d) [u] [v] [e])).2=(bd (bB d u v) [e]).2+0+1 from rfl,qv];exact aa (ce (bd (bB d u v) [e]).2▸a2) (aa (ao _ _) u2)⟩
  ·have hs:=Bool.and_eq_true_iff.mp hs;refine kD hc.2 λfs k _ _ h2 _=>?_;exact parts ts true _ hc.1 hs.2 h2 (ij (of_decide_eq_true hs.1)) hl
  ·have hs:=Bool.and_eq_true_iff.mp hs;refine kD hc.2 λk fs _ _ h2 _=>?_;exact parts ts false _ hc.1 hs.2 h2 (ij (of_decide_eq_true hs.1)) hl
theorem B4{d:Nat}{p t:T}{e:aQ}(hc:Cn t)(hs:t.small=true)(hl:t.lf≤9):(bB d p t e).2≤100000:=by
 exact aa ((k9 d hc hs hl p e).2) (aa ((B3 t.lf (nw [_] (.d yA (.k 9) .n) (.s yA) (.k 10) rfl hl) (cz hc).2.1).2.2) (by decide))
theorem MO.sumParts{l:List T}(h:MO (.sum l)):(∀t∈l,MO t∧t.dp≤7)∧l.length≤4∧TS true l:=by
 have hs:=h.small;simp only[zm,ay,decide_eq_true_eq]at hs;have hd:k6 l≤7:=by have:=h.dp;simp only[cA]at this;exact nw [_] (.d (.a yA (.k 2)) (.k 9) .n) yA (.k 7) rfl this
 have hp:∀t∈l,MO t∧t.dp≤7:=λt ht=>by
  have:=fL.mp hd t ht;exact⟨⟨cW.mp h.cn.1 t ht,aa (p7 ht) h.val,aa (k7 ht) h.lf,by exact aa this (by decide),jQ.mp hs.2 t ht⟩,this⟩
 exact⟨hp,by exact nw [_] (.d (.s yA) (.k 5) .n) yA (.k 4) rfl hs.1,⟨λt ht=>⟨(hp t ht).1,by have:=(hp t ht).2;exact aa this (by decide)⟩,h.val,aa h.lf (by decide)⟩⟩
theorem MO.prodParts{l:List T}(h:MO (.prod l)):(∀t∈l,MO t∧t.dp≤7)∧l.length≤4∧TS false l:=by
 have hs:=h.small;simp only[zm,ay,decide_eq_true_eq]at hs;have hd:k6 l≤7:=by have:=h.dp;simp only[cA]at this;exact nw [_] (.d (.a yA (.k 2)) (.k 9) .n) yA (.k 7) rfl this
 have hp:∀t∈l,MO t∧t.dp≤7:=λt ht=>by
  have:=fL.mp hd t ht;exact⟨⟨cW.mp h.cn.1 t ht,aa (kq ht λu hu=>(((gW h.cn.1).2.2) u hu).1).1 h.val,aa (k7 ht) h.lf,by exact aa this (by decide),jQ.mp hs.2 t ht⟩,this⟩
 exact⟨hp,by exact nw [_] (.d (.s yA) (.k 5) .n) yA (.k 4) rfl hs.1,⟨λt ht=>⟨(hp t ht).1,by have:=(hp t ht).2;exact aa this (by decide)⟩,h.val,aa h.lf (by decide)⟩⟩
theorem MO.powParts{b:T}{i:Int}(h:MO (.pow b i)):MO b∧MO (.num i):=by
 have h2:=(cz h.cn.1).2.2 ((lX h.cn.2.1).1:b.isNum=false);have hi:=h.cn.2.2;have h5:b.val^1≤b.val^i.toNat:=dJ (nw [_] (.d (.k 2) yA .n) (.s (.k 0)) yA rfl h2) (by omega);rw[xX]at h5;have hv:b.val^i.toNat≤Vb:=h.val;exact⟨⟨h.cn.1,by exact aa h5 hv,by exact aW (h.lf:b.lf+1≤30),by exact nw [_,_] (.d (.s yA) (.k 9) (.d yB yA .n)) yB (.k 9) rfl (h.dp:max b.dp 1+1≤9) (aS _ _),h.small⟩,⟨by show 1≤i;omega,by show i.toNat≤Vb;exact nw [_,_,_,_] (.d (.s yA) yB (.d yB yC (.d yC yD .n))) yA yD rfl (me:i.toNat<2^i.toNat) (dR h2 _:2^i.toNat≤b.val^i.toNat) hv,by show 1≤30;decide,by show 1≤9;decide,rfl⟩⟩
theorem MO.callPart{t:T}(h:MO (.call t)):MO t:=by
 exact⟨h.cn,by exact aW (h.val:t.val+1≤Vb),by exact aW (h.lf:t.lf+1≤30),by exact aa (ao _ _) (h.dp:t.dp+2≤9),h.small⟩
structure MP (p:T):Prop where
 cn:Cn p
 small:p.small=true
 dp:p.dp≤64
noncomputable def GY(d:Nat)(p:T):Prop:=MP p∧p.rd<d
theorem MP.parts{l:List T}(hc:xU l)(hs:(decide (l.length<5)&&iU l)=true)(hd:k6 l+2≤64):(∀t∈l,MP t)∧l.length≤4:=by
 simp only[ay,decide_eq_true_eq]at hs;exact⟨λt ht=>⟨cW.mp hc t ht,jQ.mp hs.2 t ht,by have:=fL.mp (ak (k6 l)) t ht;exact nw [_,_] (.d (.a yA (.k 2)) (.k 64) (.d yB yA .n)) yB (.k 64) rfl hd this⟩,by exact nw [_] (.d (.s yA) (.k 5) .n) yA (.k 4) rfl hs.1⟩
theorem MP.sumParts{l:List T}(h:MP (.sum l)):(∀t∈l,MP t)∧l.length≤4:=MP.parts h.cn.1 h.small h.dp
theorem MP.prodParts{l:List T}(h:MP (.prod l)):(∀t∈l,MP t)∧l.length≤4:=MP.parts h.cn.1 h.small h.dp
theorem MP.powParts{b:T}{i:Int}(h:MP (.pow b i)):MP b∧MP (.num i):=by
 exact⟨⟨h.cn.1,h.small,by exact nw [_,_] (.d (.s yA) (.k 64) (.d yB yA .n)) yB (.k 64) rfl (h.dp:max b.dp 1+1≤64) (aS _ _)⟩,⟨by have:=h.cn.2.2;show 1≤i;omega,rfl,by show 1≤64;decide⟩⟩
theorem MP.callPart{t:T}(h:MP (.call t)):MP t:=⟨h.cn,h.small,by have hd:t.dp+2≤64:=h.dp;exact aa (ao _ _) hd⟩
theorem gz{ps:List T}{p:T}:p∈aU ps→p∈ps:=λh=>by
 refine(List.mem_append.mp h).elim (λh=>?_) λh=>?_<;>exact(List.mem_filter.mp h).1
theorem iV(ps:List T):(aU ps).length=ps.length:=by
 unfold aU;refine aj ..▸?_
 induction ps with
 |nil=>rfl
 |cons p r ih=>
  refine bk ..▸bk ..▸?_
  induction p.blank<;>simp at ih⊢<;>omega
noncomputable def T.kn:T→Nat
 |.num _=>0|.sym _=>1|.sum _=>2|.prod _=>3|.pow _ _=>4|.call _=>5
theorem ET(p t:T):(p.kind==t.kind)=mr p.kn t.kn:=by induction p using T.casesOn<;>induction t using T.casesOn<;>rfl
theorem EU(p t:T):iI .NotEq (.str p.kind) (.str t.kind)=some (!(p.kind==t.kind)):=by
 induction p using T.casesOn<;>induction t using T.casesOn<;>rfl
theorem Jk{m:jR}{p t:T}{e:aQ}(h1:p.blank=false)(h2:(p.kind==t.kind)=false):l6 m p t e=([],1):=by
 rw[ET]at h2;refine(if_neg (h1▸aR)).trans ?_
 induction p using T.casesOn<;>induction t using T.casesOn<;>first|rfl|exact m7 h2
theorem EW(x y:Nm):lQ (.sym x) (.sym y)=(x==y):=rfl
noncomputable def oT(n:Nat)(p t:T)(e:aQ)(r:pj):Prop:=DK r∧∀k:Nat,k+r.2≤100000→Call n (ofString "match_with") [.v (a9 p),.v (a9 t),.v (.dict (bH e)),.l 0] [gQ k] (.c (.v (cC r.1)) [gQ (k+r.2)])
theorem iL{k r:Nat}(h:k+r≤100000)(h1:1≤r):decide ((k:Int)+1>100000)=false:=
 df λw=>absurd (show 100000<k+1 from Int.ofNat_lt.mp w) (Nat.not_lt.mpr (aa (bM h1 k) h))
theorem ii{k r:Nat}:k+(r+1)=k+1+r:=(cL k 1 r).symm
theorem QI{e:aQ}(he:iK e){b:Bool}{c:Nat}:DK ((if b=true then [e]else [],c):pj):=λe' h=>by
 induction b with
 |true=>refine ae.mp h ..▸?_;exact he
 |false=>exact cg h
theorem few{ps:List T}(h:ps.length≤4):decide (((aL ps).length:Int)>6)=false:=by
 refine cr ..▸?_;exact df λw=>absurd (Int.ofNat_lt.mp w) (Nat.not_lt.mpr (aa h (by decide)))
section
variable {n:Nat}
theorem Jl(hn:1≤n-1){p t:T}{e:aQ}(hb:p.blank=false)(hk:(p.kind==t.kind)=false):oT n p t e ([],1):=⟨λe' h=>(cg h),λk h=>by
 have rb:=cQ hn p;rw[hb]at rb;exact br (pos (aa hn (dH n 1):1≤n)) d8 [(10,F.b (iL h (ak 1))),(0,ar (rb)),(2,F.d (dO p)),(0,F.d (dO t)),(0,bx ((EU p t).trans (so (nt hk))))] (by kernel_rfl)⟩
theorem Gl(hn:1≤n-1){i j:Int}{e:aQ}(he:iK e):oT n (.num i) (.num j) e (if i==j then [e]else [],1):=⟨QI he,λk h=>by
 have rb:=cQ hn (.num i);have hn:1≤n:=aa hn (dH n 1)
 induction q:(i==j)with
 |true=>exact br (pos hn) d8 [(10,F.b (iL h (ak 1))),(0,ar (rb)),(8,bx ((en i j).trans (so q)))] (by kernel_rfl)
 |false=>exact br (pos hn) d8 [(10,F.b (iL h (ak 1))),(0,ar (rb)),(8,bx ((en i j).trans (so q)))] (by kernel_rfl)⟩
theorem Gm(hn:1≤n-1){x y:Nm}{e:aQ}(he:iK e)(hb:x.blank=false):oT n (.sym x) (.sym y) e (if x==y then [e]else [],1):=⟨QI he,λk h=>by
 have rb:=cQ hn (.sym x);rw[show T.blank (.sym x)=false from hb]at rb;have hn:1≤n:=aa hn (dH n 1);have c:=oM (s:=.sym x) (t:=.sym y) (show 1≤64 by decide) (show 1≤64 by decide);rw[EW]at c
 induction q:(x==y)with
 |true=>exact br (pos hn) d8 [(10,F.b (iL h (ak 1))),(0,ar (rb)),(8,bx (c.trans (so q)))] (by kernel_rfl)
 |false=>exact br (pos hn) d8 [(10,F.b (iL h (ak 1))),(0,ar (rb)),(8,bx (c.trans (so q)))] (by kernel_rfl)⟩
theorem Gn(hn:2≤n){P:T→Prop}{m:jR}{b c:T}{i j:Int}{e:aQ}(X:Av P (n-2) m)(p1:P b)(p2:P (.num i))(m3:MO c)(m4:MO (.num j))(he:iK e)
  (l0:(bd (m b c) [e]).1.length≤(bd (m b c) [e]).2) (l1:(gc m [b,.num i] [c,.num j] [e]).1.length≤(gc m [b,.num i] [c,.num j] [e]).2+1):oT n (.pow b i) (.pow c j) e (i8 (gc m [b,.num i] [c,.num j] [e])):=by
 refine⟨tA X p2 m4 (tA X p1 m3 λe' h=>by refine ae.mp h ..▸?_;exact he),λk h=>?_⟩;have hk:k+1+(gc m [b,.num i] [c,.num j] [e]).2≤100000:=ii▸h;have h2:1≤n-1:=fz 1 hn;refine(show k+(i8 (gc m [b,.num i] [c,.num j] [e])).2=k+1+(gc m [b,.num i] [c,.num j] [e]).2 from ii).symm▸?_;exact br (pos hn) d8 [(10,F.b (iL h (aD 1 _))),(0,ar (cQ h2 (.pow b i))),(12,F.call ((Gh (n:=n-1) h2 X p1 p2 m3 m4 he (k:=k+1) hk (aa l0 (aa (ao _ _) (aa (aD _ _) hk))) (aa l1 (aa (aD _ k) h)))))] (by kernel_rfl)
theorem DL(hn:2≤n){P:T→Prop}{m:jR}{u v:T}{e:aQ}(X:Av P (n-2) m)(p1:P u)(m1:MO v)(he:iK e)(l1:(gc m [u] [v] [e]).1.length≤(gc m [u] [v] [e]).2+1):oT n (.call u) (.call v) e (i8 (gc m [u] [v] [e])):=by
 refine⟨tA X p1 m1 λe' h=>by refine ae.mp h ..▸?_;exact he,λk h=>?_⟩;have h2:1≤n-1:=fz 1 hn;refine(show k+(i8 (gc m [u] [v] [e])).2=k+1+(gc m [u] [v] [e]).2 from ii).symm▸?_;exact br (pos hn) d8 [(10,F.b (iL h (aD 1 _))),(0,ar (cQ h2 (.call u))),(18,F.call ((Gg (n:=n-1) h2 X p1 m1 he (k:=k+1) (ii▸h:k+1+(gc m [u] [v] [e]).2≤100000) (aa l1 (aa (aD _ k) h)))))] (by kernel_rfl)
theorem Go(hn:3≤n){ps ts:List T}{e:aQ}{r:pj}(l1:ps.length≤4)(l2:ts.length≤4)(R:DK r∧DJ (n-1) (ofString "match_parts") [.str (sk true),.list (aL (aU ps)),.list (aL ts),.dict (bH e)] r)(l:r.1.length≤r.2+1):oT n (.sum ps) (.sum ts) e (i8 r):=by
 refine⟨R.1,λk h=>?_⟩;refine(show k+(i8 r).2=k+1+r.2 from ii).symm▸?_;exact br (pos hn) d8 [(10,F.b (iL h (aD 1 _))),(0,ar (cQ (fz 1 hn) (.sum ps))),(17,F.b (few l1)),(3,F.b (few l2)),(2,ar (pk (fz 2 hn) (aa l1 (by decide)))),(2,F.call ((R.2 (k+1) (ii▸h:k+1+r.2≤100000) (aa l (aa (aD _ k) h)))))] (by kernel_rfl)
theorem DM(hn:3≤n){ps ts:List T}{e:aQ}{r:pj}(l1:ps.length≤4)(l2:ts.length≤4)(R:DK r∧DJ (n-1) (ofString "match_parts") [.str (sk false),.list (aL (aU ps)),.list (aL ts),.dict (bH e)] r)(l:r.1.length≤r.2+1):oT n (.prod ps) (.prod ts) e (i8 r):=by
 refine⟨R.1,λk h=>?_⟩;refine(show k+(i8 r).2=k+1+r.2 from ii).symm▸?_;exact br (pos hn) d8 [(10,F.b (iL h (aD 1 _))),(0,ar (cQ (fz 1 hn) (.prod ps))),(17,F.b (few l1)),(3,F.b (few l2)),(2,ar (pk (fz 2 hn) (aa l1 (by decide)))),(2,F.call ((R.2 (k+1) (ii▸h:k+1+r.2≤100000) (aa l (aa (aD _ k) h)))))] (by kernel_rfl)
theorem B5(hn:3≤n){x:Nm}{t:T}{e:aQ}(hb:x.blank=true)(he:iK e)(hd:t.dp≤64):oT n (.sym x) t e (kt e x t,1):=by
 have rb:=cQ (fz 1 hn) (.sym x);rw[show T.blank (.sym x)=true from hb]at rb;refine⟨xr he hd,λk h=>?_⟩;exact br (pos hn) d8 [(10,F.b (iL h (ak 1))),(0,ar (rb)),(3,ar (qf (fz 1 hn) he x hd))] (by kernel_rfl)
end
theorem qh:∀(d n:Nat),34+6*d≤n→Av (GY d) n (bB d):=by
 intro d
 induction d with
 |zero=>intro n hn p t e hp;exact absurd hp.2 (fT _)
 |succ d ih=>
  intro n hn p t e hp ht he;obtain⟨hp,hrd⟩:=hp;have hle:(l6 (bB d) p t e).1.length≤(l6 (bB d) p t e).2:=uz (d+1) p t e;have X:=ih (n-2) (aa (lm hn:34+6*d≤n-6) (mf (by decide) n));have h3:3≤n:=aa (by decide) (aa (ao _ _) hn:34≤n);show oT n p t e (l6 (bB d) p t e)
  induction hb:p.blank with
  |true=>
   induction p using T.casesOn<;>first|exact nsN hb|exact dC hb|cases hb|skip
   rename_i x;refine(show l6 (bB d) (.sym x) t e=(kt e x t,1)from if_pos hb).symm▸?_;exact B5 h3 hb he (aa ht.dp (by decide):t.dp≤64)
  |false=>
   induction hk:(p.kind==t.kind)with
   |false=>
    refine Jk hb hk ..▸?_;exact Jl (fz 1 h3) hb hk
   |true=>
    rw[ET]at hk;have parts:∀(s:Bool)(ps ts:List T),(∀q∈ps,MP q)→xm ps≤d-1→1≤d→ps.length≤4→TS s ts→ts.length≤4→DK (cF (bB d) s (aU ps) ts e)∧DJ (n-1) (ofString "match_parts") [.str (sk s),.list (aL (aU ps)),.list (aL ts),.dict (bH e)] (cF (bB d) s (aU ps) ts e):=λs ps ts h1 h2 hd1 h3 h4 h5=>
     Gj (P:=GY d) (s:=s) (m:=bB d) (N0:=34+6*d) (ao _ _) (λn hn=>ih n hn) (aU ps) (n-1) (by refine(iV ..).symm▸?_;exact aa (bM h3 _) (lm hn:34+6*d+1+4≤n-1)) ts e (λq hq=>⟨h1 q (gz hq),ba (iT.mp h2 q (gz hq)) (Nat.sub_lt hd1 Nat.one_pos)⟩) h4 (aa h5 (by decide)) he
    induction p using T.casesOn with
    |num i=>
     induction t using T.casesOn<;>first|exact nsN hk|exact dC hk|(cases hk;done)|skip
     rename_i j;exact Gl (fz 1 h3) he
    |sym x=>
     induction t using T.casesOn<;>first|exact nsN hk|exact dC hk|(cases hk;done)|skip
     rename_i y;refine(show l6 (bB d) (.sym x) (.sym y) e=(if x==y then [e]else [],1)from if_neg (hb▸aR)).symm▸?_;exact Gm (fz 1 h3) he hb
    |pow b i=>
     induction t using T.casesOn<;>first|exact nsN hk|exact dC hk|(cases hk;done)|skip
     rename_i c j;refine aB hp.powParts λm1 m2=>?_;refine aB ht.powParts λm3 m4=>?_;simp only[cY]at hrd;exact Gn (aa (by decide) h3) X ⟨m1,by exact aX hrd⟩ ⟨m2,by simp only[cY];exact nw [_,_] (.d (.s (.s yA)) (.s yB) .n) (.s (.k 0)) yB rfl hrd⟩ m3 m4 he (tB (m:=bB d b c) (c:=0) (λe=>uz d b c e) [e]) hle
    |call u=>
     induction t using T.casesOn<;>first|exact nsN hk|exact dC hk|(cases hk;done)|skip
     rename_i v;exact DL (aa (by decide) h3) X ⟨hp.callPart,cp hrd⟩ ht.callPart he hle
    |sum ps=>
     induction t using T.casesOn<;>first|exact nsN hk|exact dC hk|(cases hk;done)|skip
     rename_i ts;refine aB hp.sumParts λq1 q2=>?_;refine dE ht.sumParts λr1 r2 r3=>?_;simp only[cY]at hrd;exact Go h3 q2 r2 (parts true ps ts q1 (nw [_,_,_] (.d (.s (.s yA)) (.s yB) (.d yB (.s yC) .n)) yA yC rfl hrd (a6 _ _)) (nw [_,_] (.d (.s (.s yA)) (.s yB) .n) (.k 1) yB rfl hrd) q2 r3 r2) hle
    |prod ps=>
     induction t using T.casesOn<;>first|exact nsN hk|exact dC hk|(cases hk;done)|skip
     rename_i ts;refine aB hp.prodParts λq1 q2=>?_;refine dE ht.prodParts λr1 r2 r3=>?_;simp only[cY]at hrd;exact DM h3 q2 r2 (parts false ps ts q1 (nw [_,_,_] (.d (.s (.s yA)) (.s yB) (.d yB (.s yC) .n)) yA yC rfl hrd (a6 _ _)) (nw [_,_] (.d (.s (.s yA)) (.s yB) .n) (.k 1) yB rfl hrd) q2 r3 r2) hle
noncomputable def Mz(rows:List aQ):ab:=match rows with
 | []=>.none
 |e::_=>.dict (bH e)
theorem y5{n d:Nat}(hn:35+6*d≤n){p t:T}(hp:GY d p)(ht:MO t)(hc:(bB d p t []).2≤100000):bU n (ofString "match") [a9 p,a9 t] (Mz (bB d p t []).1):=by
 have X:=(qh d (n-1) (bI (dc (Nat.add_lt_add_right (fg 34) _) hn)) p t [] hp ht .nil).2 0 (by refine ce ..▸?_;exact hc);have hn:1≤n:=aa (aa (by decide) (ao 35 _)) hn
 generalize bB d p t []=r at X
 obtain⟨rows,c⟩:=r
 induction rows using am with
 |nil=>exact aT (pos hn) EC [(1,F.call (X))] (by kernel_rfl)
 |cons e rows=>exact aT (pos hn) EC [(1,F.call (X)),(2,F.b (show decide (((((e::rows).map λe=>fI (bH e)).length:Nat):Int)>0)=true from dt (Int.ofNat_lt.mpr (qr _))))] (by kernel_rfl)
structure B6 where
 l:List Int
 s:Int
noncomputable def gk(b:B6):Prop:=0≤b.s∧b.s<2147483647∧b.l.length≤100
noncomputable def iq(b:B6):fH:= [some (.lst (b.l.map λi=>.v (.int i))),some (.lst [.l 0,.v (.int b.s)])]
theorem MA(a:Int){b:Int}(h:1≤b):jE .Mod (.int a) (.int b)=some (.int (a.fmod b)):=by
 show(if(b !=0)=true then some (bX (a.fmod b))else none)=_;rw[if_pos (bne_iff_ne.mpr λe=>by subst e;exact absurd h (by decide))]
theorem oU(a:Int){w:Int}(h:1≤w):0≤a.fmod w∧a.fmod w<w:=⟨Int.fmod_nonneg_of_pos _ (JX (by decide) h),Int.fmod_lt_of_pos _ (JX (by decide) h)⟩
theorem vX{s:Int}(h0:0≤s)(h1:s<2147483647):Sm s:=by unfold Sm;omega
section
variable {n:Nat}
noncomputable def Draws(n:Nat)(f:Str)(as:List ab)(P:ab→Prop):Prop:=∀b,gk b→∃x b',P x∧gk b'∧Call n f (.l 1::as.map .v) (iq b) (.c (.v x) (iq b'))
theorem gJ(hn:1≤n){w:Int}(hw:1≤w):Draws n (ofString "_law_take") [.int w] λx=>∃v:Int,x=.int v∧0≤v∧v<w:=by
 intro⟨l,s⟩ ⟨h1,h2,h3⟩;have key:∀v (b':B6),(∃a:Int,v=a.fmod w)→gk b'→Call n (ofString "_law_take") [.l 1,.v (.int w)] (iq ⟨l,s⟩) (.c (.v (.int v)) (iq b'))→∃x b',(∃v:Int,x=bX v∧0≤v∧v<w)∧gk b'∧Call n (ofString "_law_take") [.l 1,.v (.int w)] (iq ⟨l,s⟩) (.c (.v x) (iq b')):=
  λv b' ⟨a,e⟩ hb h=>⟨.int v,b',(aV v rfl (e▸oU a hw)),hb,h⟩
 induction l using am with
 |nil=>
  refine key ((((s*48271+11).fmod 2147483647).fdiv 97).fmod w) ⟨[],(s*48271+11).fmod 2147483647⟩ ⟨_,rfl⟩ ⟨(oU _ (by decide)).1,(oU _ (by decide)).2,(by decide:0≤100)⟩ ?_;exact br (pos hn) wL [(7,F.d (Iw (a:=s) (b:=48271) (vX h1 h2) (vX (by decide) (by decide)))),(9,F.d (MA (((s*48271+11).fmod 2147483647).fdiv 97) hw))] (by kernel_rfl)
 |cons a r=>
  refine key (a.fmod w) ⟨r,s⟩ ⟨_,rfl⟩ ⟨h1,h2,aW h3⟩ ?_;exact br (pos hn) wL [(4,F.b (show decide (((((a::r).map λi=>B.v (.int i)).length:Nat):Int)>0)=true from dt (Int.ofNat_lt.mpr (qr _)))),(5,F.d (MA a hw))] (by kernel_rfl)
theorem Gp:bm (ofString "_law_box")=some (bY 89):=by kernel_rfl
noncomputable def QJ(l:List Int)(s:Int)(x:Option B):St:=⟨[(ofString "script",some (.v (.list (l.map .int)))),(ofString "seed_here",some (.v (.int s))),(ofString "one",x)],[]⟩
theorem Jm{l:List Int}:∀(r:List Int)(s:Int)(x:Option B),0≤s→s<2147483647→∃s' x',0≤s'∧s'<2147483647∧fO (Call n) (ofString "_law_box") (bY 89) [0] (r.map .int) (QJ l s x) .next (QJ l s' x'):=by
 intro r
 induction r with
 |nil=>exact λs x h1 h2=>zp s x h1 h2 rfl rfl
 |cons a r ih=>
  intro s x h1 h2;refine dS (ih ((s*31+a).fmod 2147483647) (some (.v (.int a))) (oU _ (by decide)).1 (oU _ (by decide)).2) λs' x' g1 g2 h=>?_;refine kT s' x' g1 g2 (.next ?_ h);exact le [(0,F.d (Iw (a:=s) (b:=31) (vX h1 h2) (vX (by decide) (by decide))))] (by kernel_rfl)
theorem LH(hn:1≤n){l:List Int}(hl:l.length≤63):∃b,gk b∧Call n (ofString "_law_box") [.v (.list (l.map .int)),.v (.int 79)] [] (.c (.l 1) (iq b)):=by
 refine dS (Jm (n:=n-1) (l:=l) (l.take 30) 79 none (by decide) (by decide)) λs x h1 h2 r=>?_;rw[AS]at r;refine aV ⟨l.take 30,s⟩ ⟨h1,h2,aa (List.length_take_le _ _) (by decide)⟩ ?_;have c:bE.lst (((l.map bX).take 30).map B.v)=.lst ((l.take 30).map λi=>.v (.int i)):=by refine(AS ..)▸(bZ ..).symm▸?_;rfl
 have hb:iq ⟨l.take 30,s⟩= [some (bE.lst (((l.map bX).take 30).map B.v)),some (.lst [.l 0,.v (.int s)])]:=by refine c ..▸?_;rfl
 refine hb ..▸?_;exact br (pos hn) Gp [(2,F.loop (r))] (by kernel_rfl)
noncomputable def DN(t:T):Prop:=t=.num 2∨t=.num 3∨∃x,t=.sym x
theorem Jn{v:Int}(h0:0≤v)(h:v<4):v=0∨v=1∨v=2∨v=3:=by omega
theorem m0{v:Int}(h0:0≤v)(h:v<2):v=0∨v=1:=by omega
theorem NL{v:Int}(h0:0≤v)(h:v<8):v<4∨v=4∨v=5∨v=6∨v=7:=by omega
theorem B7(hn:2≤n)(o:Bool):Draws n (ofString "_law_leaf") [.bool o] λx=>∃t,x=a9 t∧DN t:=by
 intro b hb;have fin:∀ {t:T} {b':B6},DN t→gk b'→Call n (ofString "_law_leaf") [.l 1,.v (.bool o)] (iq b) (.c (.v (a9 t)) (iq b'))→∃x b',(∃t,x=a9 t∧DN t)∧gk b'∧Call n (ofString "_law_leaf") [.l 1,.v (.bool o)] (iq b) (.c (.v x) (iq b')):=λhl hb h=>⟨_,_,(aV _ rfl hl),hb,h⟩
 have sy:∀x,DN (.sym x):=λx=>.inr (.inr ⟨x,rfl⟩)
 induction o with
 |false=>
  refine dS (gJ (n:=n-1) (fz 1 hn) (w:=4) (by decide) b hb) λ_ b1 z1 hb1 r=>?_;refine eo z1 λv z1 h1 h2=>?_;obtain rfl:=z1;rcases Jn h1 h2 with rfl|rfl|rfl|rfl
  ·refine fin (sy .x) hb1 ?_;exact br (pos hn) dL [(2,F.call (r))] (by kernel_rfl)
  ·refine fin (sy .y) hb1 ?_;exact br (pos hn) dL [(2,F.call (r))] (by kernel_rfl)
  ·refine fin (sy .z) hb1 ?_;exact br (pos hn) dL [(2,F.call (r))] (by kernel_rfl)
  ·refine dS (gJ (n:=n-1) (fz 1 hn) (w:=2) (by decide) b1 hb1) λ_ b2 z2 hb2 r2=>?_;refine eo z2 λu z2 g1 g2=>?_;obtain rfl:=z2;rcases m0 g1 g2 with rfl|rfl
   ·refine fin (.inl rfl) hb2 ?_;exact br (pos hn) dL [(2,F.call (r)),(4,F.call (r2))] (by kernel_rfl)
   ·refine fin (.inr (.inl rfl)) hb2 ?_;exact br (pos hn) dL [(2,F.call (r)),(4,F.call (r2))] (by kernel_rfl)
 |true=>
  refine dS (gJ (n:=n-1) (fz 1 hn) (w:=8) (by decide) b hb) λ_ b1 z3 hb1 r=>?_;refine eo z3 λv z3 h1 h2=>?_;obtain rfl:=z3;rcases NL h1 h2 with h4|rfl|rfl|rfl|rfl
  ·rcases Jn h1 h4 with rfl|rfl|rfl|rfl
   ·refine fin (sy .x) hb1 ?_;exact br (pos hn) dL [(2,F.call (r))] (by kernel_rfl)
   ·refine fin (sy .y) hb1 ?_;exact br (pos hn) dL [(2,F.call (r))] (by kernel_rfl)
   ·refine fin (sy .z) hb1 ?_;exact br (pos hn) dL [(2,F.call (r))] (by kernel_rfl)
   ·refine dS (gJ (n:=n-1) (fz 1 hn) (w:=2) (by decide) b1 hb1) λ_ b2 z4 hb2 r2=>?_;refine eo z4 λu z4 g1 g2=>?_;obtain rfl:=z4;rcases m0 g1 g2 with rfl|rfl
    ·refine fin (.inl rfl) hb2 ?_;exact br (pos hn) dL [(2,F.call (r)),(4,F.call (r2))] (by kernel_rfl)
    ·refine fin (.inr (.inl rfl)) hb2 ?_;exact br (pos hn) dL [(2,F.call (r)),(4,F.call (r2))] (by kernel_rfl)
  ·refine fin (sy .a_) hb1 ?_;exact br (pos hn) dL [(2,F.call (r))] (by kernel_rfl)
  ·refine fin (sy .b_) hb1 ?_;exact br (pos hn) dL [(2,F.call (r))] (by kernel_rfl)
  ·refine fin (sy .c_) hb1 ?_;exact br (pos hn) dL [(2,F.call (r))] (by kernel_rfl)
  ·refine fin (sy .a_) hb1 ?_;exact br (pos hn) dL [(2,F.call (r))] (by kernel_rfl)
noncomputable def DR:Nat→T→Prop
 |0,t=>DN t
 |d+1,t=>DN t∨(∃l:List T,2≤l.length∧l.length≤3∧(∀u∈l,DR d u)∧(t=.sum l∨t=.prod l))∨∃u,DR d u∧(t=.call u∨t=.pow u 2)
noncomputable def B8(n D:Nat):Prop:=∀o,Draws n (ofString "_law_term") [.int D,.bool o] λx=>∃t,x=a9 t∧DR D t
noncomputable def QK(D:Nat)(o:Bool)(b:B6)(x:Option B):St:=⟨[(ofString "turn",x),(ofString "box",some (.l 1)),(ofString "deep",some (.v (.int ((D+1:Nat):Int)))),(ofString "is_open",some (.v (.bool o)))],iq b⟩
theorem qi(D:Nat):jE .Sub (.int ((D+1:Nat):Int)) (.int 1)=some (.int D):=congrArg (λx=>some (bX x)) (show((D+1:Nat):Int)-1=D from Int.add_sub_cancel (D:Int) 1)
theorem Gq{D:Nat}{o:Bool}(X:B8 n D):∀(items:List ab)(b:B6)(acc:List ab)(x:Option B),gk b→
  ∃l b' x',l.length=items.length∧(∀u∈l,DR D u)∧gk b'∧fh (Call n) (bY 91) [1,0] [1,1] 9 items acc (QK D o b x) (acc++aL l) (QK D o b' x'):=by
 intro items
 induction items with
 |nil=>exact λb acc x hb=>ML ([]) b x rfl (λ_ h=>(cg h)) hb ((aF _).symm) rfl
 |cons d r ih=>
  intro b acc x hb;refine dS (X o b hb) λ_ b1 z5 hb1 h1=>?_;refine aG z5 λt z5 ht=>?_;obtain rfl:=z5;refine lH (ih b1 (acc++ [a9 t]) (some (.v d)) hb1) λl b' x' e hl hb' h=>?_;rw[aw]at h;refine N8 (t::l) b' x' (congrArg gA e) (λu hu=>?_) hb' (.cons ?_ h)
  ·rcases aA.mp hu with rfl|hu
   ·exact ht
   ·exact hl u hu
  ·exact le [(1,F.d (qi D)),(0,F.call (h1))] (by kernel_rfl)
theorem qj(D:Nat):decide (((D+1:Nat):Int)>0)=true:=dt (Int.ofNat_lt.mpr (qr _))
theorem Qi{v:Int}(h0:0≤v):v.fmod 2=0∨v.fmod 2=1:=m0 (oU v (by decide)).1 (oU v (by decide)).2
theorem DO{v:Int}(h0:0≤v)(h:v<6):v<4∨v=4∨v=5:=by omega
theorem B9:∀(D n:Nat),3+D≤n→B8 n D:=by
 intro D
 induction D with
 |zero=>
  intro n hn o b hb;refine dS (B7 (n:=n-1) (fz 2 hn) o b hb) λ_ b1 z6 hb1 r=>?_;refine aG z6 λt z6 ht=>?_;obtain rfl:=z6;refine⟨_,b1,(aV t rfl ht),hb1,?_⟩;exact br (pos hn) jN [(6,F.call (r))] (by kernel_rfl)
 |succ D ih=>
  intro n hn o b hb;have X:=ih (n-1) (bI hn);have h3:3≤n:=aa (ao _ _) hn;have h1:=fz 1 h3;have fin:∀ {t:T} {b':B6},DR (D+1) t→gk b'→Call n (ofString "_law_term") [.l 1,.v (.int ((D+1:Nat):Int)),.v (.bool o)] (iq b) (.c (.v (a9 t)) (iq b'))→∃x b',(∃t,x=a9 t∧DR (D+1) t)∧gk b'∧Call n (ofString "_law_term") [.l 1,.v (.int ((D+1:Nat):Int)),.v (.bool o)] (iq b) (.c (.v x) (iq b')):=λhl hb h=>⟨_,_,(aV _ rfl hl),hb,h⟩
  have take:=λ(w:Int)(hw:1≤w)=>gJ (n:=n-1) h1 hw;refine dS (take 6 (by decide) b hb) λ_ b1 z7 hb1 r1=>?_;refine eo z7 λv z7 v0 v6=>?_;obtain rfl:=z7;have hn:1≤n:=aa h1 (dH n 1);rcases DO v0 v6 with v4|rfl|rfl
  ·refine dS (take 2 (by decide) b1 hb1) λ_ b2 z8 hb2 r2=>?_;refine eo z8 λu z8 u0 u2=>?_;obtain rfl:=z8;have sel:∀l:List T,l.length=(lI 0 (2+u)).length→2≤l.length∧l.length≤3:=λl e=>by
    refine e ..▸?_;rcases m0 u0 u2 with rfl|rfl
    ·exact⟨(by decide:2≤2),(by decide:2≤3)⟩
    ·exact⟨(by decide:2≤3),(by decide:3≤3)⟩
   have sm:mW (2+u)=true:=by
    rcases m0 u0 u2 with rfl|rfl<;>rfl
   refine lH (Gq (o:=o) X (lI 0 (2+u)) b2 [] none hb2) λl b3 x3 el hl hb3 r3=>?_;have⟨l2,l3⟩:=sel l el;refine(Qi v0).elim (λm=>?_) λm=>?_
   ·refine fin (t:=.sum l) (.inr (.inl (G6 l l2 l3 hl (.inl rfl)))) hb3 ?_;exact br (pos hn) jN [(1,F.b (qj D)),(0,F.call (r1)),(1,F.b (dt v4)),(0,F.d (show jE .Mod (.int v) (.int 2)=some (.int 0)from congrArg (λx=>some (bX x)) m)),(1,F.call (r2)),(1,F.b (sm)),(0,F.comp (r3))] (by kernel_rfl)
   ·refine fin (t:=.prod l) (.inr (.inl (G6 l l2 l3 hl (.inr rfl)))) hb3 ?_;exact br (pos hn) jN [(1,F.b (qj D)),(0,F.call (r1)),(1,F.b (dt v4)),(0,F.d (show jE .Mod (.int v) (.int 2)=some (.int 1)from congrArg (λx=>some (bX x)) m)),(1,F.call (r2)),(1,F.b (sm)),(0,F.comp (r3))] (by kernel_rfl)
  ·refine dS (X o b1 hb1) λ_ b2 z9 hb2 r2=>?_;refine aG z9 λt z9 ht=>?_;obtain rfl:=z9;refine dS (X o b2 hb2) λ_ b3 z10 hb3 r3=>?_;refine aG z10 λt2 z10 ht2=>?_;obtain rfl:=z10;refine dS (take 2 (by decide) b3 hb3) λ_ b4 z11 hb4 r4=>?_;refine eo z11 λu z11 u0 u2=>?_;obtain rfl:=z11;rcases m0 u0 u2 with rfl|rfl
   ·refine fin (t:=.call t) (.inr (.inr (aV t ht (.inl rfl)))) hb4 ?_;exact br (pos hn) jN [(1,F.b (qj D)),(0,F.call (r1)),(4,F.d (qi D)),(0,F.call (r2)),(0,F.d (qi D)),(0,F.call (r3)),(0,F.call (r4))] (by kernel_rfl)
   ·refine fin (t:=.pow t2 2) (.inr (.inr (aV t2 ht2 (.inr rfl)))) hb4 ?_;exact br (pos hn) jN [(1,F.b (qj D)),(0,F.call (r1)),(4,F.d (qi D)),(0,F.call (r2)),(0,F.d (qi D)),(0,F.call (r3)),(0,F.call (r4))] (by kernel_rfl)
  ·refine dS (B7 (n:=n-1) (fz 2 h3) o b1 hb1) λ_ b2 z12 hb2 r2=>?_;refine aG z12 λt z12 ht=>?_;obtain rfl:=z12;refine fin (.inl ht) hb2 ?_;exact br (pos hn) jN [(1,F.b (qj D)),(0,F.call (r1)),(4,F.call (r2))] (by kernel_rfl)
theorem qR(l:List T):iI .Eq (.list (aL l)) (.list [])=some l.isEmpty:=by
 show nj _ _ _=_;refine im ..▸?_;show Fn _ _=_;unfold Fn
 induction l using am with
 |nil=>split<;>rfl
 |cons t r=>split<;>rfl
theorem DP{d:Nat}(ih:∀t:T,t.rd≤d→bU n (ofString "_law_is_small") [a9 t] (.bool t.small)):∀(us:List T)(ds:List T)(x:Option B),(∀w∈us,w.rd≤d)→
  ∃(ds':List T) (x':Option B),(ds'.isEmpty=(ds.isEmpty&&iU us))∧fh (Call n) (bY 98) [2] [1,0] 10 (aL us) (aL ds) (Ja x) (aL ds') (Ja x'):=by
 intro us
 induction us with
 |nil=>exact λds x _=>kT ds x ((kK _).symm) rfl rfl
 |cons u us ih2=>
  intro ds x h;have hu:=ih u (h u (.head _));show∃(ds':List T) (x':Option B),(ds'.isEmpty=(ds.isEmpty&&(u.small&&iU us)))∧_
  induction q:u.small with
  |true=>
   refine ff (ih2 ds (some (.v (a9 u))) λt ht=>h t (.tail _ ht)) λds' x' e r=>?_;refine kS ds' x' (by exact(e ..).symm▸(jb ..).symm▸rfl) (.cons ?_ r);exact le [(0,ar (hu)),(1,F.b (nf q))] (by kernel_rfl)
  |false=>
   refine ff (ih2 (ds++ [u]) (some (.v (a9 u))) λt ht=>h t (.tail _ ht)) λds' x' e r=>?_;rw[nB]at r;refine kS ds' x' (by refine(e ..).symm▸(rI ..).symm▸(Bool.and_false ..).symm▸?_;induction ds using am<;>rfl) (.cons ?_ r);exact le [(0,ar (hu)),(1,F.b (nt q))] (by kernel_rfl)
end
noncomputable def d5(e:aQ):aQ→Option aQ
 | []=>some e
 |(x,t)::r=>match cM e x with
  |some u=>if lQ u t then d5 e r else none
  |none=>d5 (e++ [(x,t)]) r
theorem vY:(∀(e:aQ),d5 e []=some e)∧(∀(e:aQ)(x_1:Nm)(t:T)(r:List (Nm×T)),d5 e ((x_1,t)::r)=match cM e x_1 with|some u=>if lQ u t=true then d5 e r else none|none=>d5 (e++ [(x_1,t)]) r):=⟨λ_=>rfl,λ_ _ _ _=>rfl⟩
noncomputable abbrev rZ:=T→T→List aQ
noncomputable def r7:Option aQ→List aQ
 |none=> []
 |some e=> [e]
noncomputable def fF(r:rZ):List T→List T→List aQ→List aQ
 |p::ps,t::ts,found=>fF r ps ts (found.flatMap λone=>(r p t).flatMap λother=>r7 (d5 one other))
 |_,_,found=>found
theorem Ax:∀(r:rZ)(x:List aQ)(p:T)(ps:List T)(t:T)(ts:List T),fF r (p::ps) (t::ts) x=fF r ps ts (List.flatMap (λone ↦ List.flatMap (λother ↦ r7 (d5 one other)) (r p t)) x):=λ_ _ _ _ _ _=>rfl
noncomputable def dM:Nat→Nat→List (List Nat)
 |0,_=> [[]]
 |m+1,w=>(dM m w).flatMap λrow=>((bF w).filter λa=>!row.contains a).map λa=>row++ [a]
theorem Gr:(∀(x:Nat),dM 0 x= [[]])∧(∀(x m:Nat),dM m.succ x=List.flatMap (λrow ↦ List.map (λa ↦ row++ [a]) (List.filter (λa ↦ !row.contains a) (bF x))) (dM m x)):=⟨λ_=>rfl,λ_ _=>rfl⟩
noncomputable def eT(ts:List T)(row:List Nat):List T:=((bF ts.length).filter λa=>!row.contains a).map λa=>ts.getD a (.num 0)
noncomputable def pn(s:Bool)(l:List T):T:=match l with
 | [t]=>t
 |l=>if s then km (cj l)else fR (cj l)
noncomputable def d9(ps:List T):Nat:=if(ps.filter T.blank).isEmpty then(aU ps).length else(aU ps).length-1
noncomputable def gg(s:Bool)(ps ts:List T)(row:List Nat):List T:=(row.map λa=>ts.getD a (.num 0))++if(ps.filter T.blank).isEmpty then []else [pn s (eT ts row)]
noncomputable def dh(r:rZ)(s:Bool)(ps ts:List T)(row:List Nat):List aQ:=
 if(eT ts row).isEmpty !=(ps.filter T.blank).isEmpty then []else fF r (aU ps) (gg s ps ts row) [[]]
noncomputable def gX(r:rZ)(s:Bool)(ps ts:List T):List aQ:=(dM (d9 ps) ts.length).flatMap (dh r s ps ts)
noncomputable def nP(r:rZ)(p t:T):List aQ:=if p.blank then(match p with|.sym x=> [[(x,t)]]|_=> [])else match p,t with
 |.num i,.num j=>if i==j then [[]]else []
 |.sym x,.sym y=>if x==y then [[]]else []
 |.pow b i,.pow c j=>fF r [b,.num i] [c,.num j] [[]]
 |.call u,.call v=>fF r [u] [v] [[]]
 |.sum ps,.sum ts=>gX r true ps ts
 |.prod ps,.prod ts=>gX r false ps ts
 |_,_=> []
theorem Ca{r:rZ}{p t:T}{P:T→T→List aQ→Prop}(hb:∀x,(T.sym x).blank=true→p=.sym x→P (.sym x) t [[(x,t)]])(hn:∀i j,P (.num i) (.num j) (if i==j then [[]]else []))
  (hs:∀x y,(T.sym x).blank=false→P (.sym x) (.sym y) (if x==y then [[]]else [])) (hp:∀b i c j,P (.pow b i) (.pow c j) (fF r [b,.num i] [c,.num j] [[]]))
  (hc:∀u v,P (.call u) (.call v) (fF r [u] [v] [[]])) (h1:∀ps ts,P (.sum ps) (.sum ts) (gX r true ps ts)) (h2:∀ps ts,P (.prod ps) (.prod ts) (gX r false ps ts)) (h0:∀p t,P p t []):P p t (nP r p t):=by
 induction hq:p.blank with
 |true=>induction p using T.casesOn<;>first|(cases hq;done)|(rw[show nP r _ t=_ from if_pos hq];exact hb _ hq rfl)
 |false=>
  rw[show nP r p t=_ from if_neg (hq▸aR)]
  induction p using T.casesOn<;>induction t using T.casesOn<;>first|exact h0 _ _|exact hn _ _|exact hs _ _ hq|exact hp _ _ _ _|exact hc _ _|exact h1 _ _|exact h2 _ _
noncomputable def dj:Nat→rZ
 |0=>λ_ _=> []
 |d+1=>nP (dj d)
theorem tG:∀(d n:Nat)(t:T),t.rd≤d→d+1≤n→bU n (ofString "_law_is_small") [a9 t] (.bool t.small):=by
 intro d
 induction d with
 |zero=>
  intro n t hd hn
  induction t using T.casesOn with
  |num i=>exact aT (pos hn) dm [] (by kernel_rfl)
  |sym x=>exact aT (pos hn) dm [] (by kernel_rfl)
  |_=>exact absurd hd (ll _)
 |succ d ih=>
  intro n t hd hn;have lst:∀l:List T,xm l≤d→∃ds x,ds.isEmpty=iU l∧fh (Call (n-1)) (bY 98) [2] [1,0] 10 (aL l) [] (Ja none) (aL ds) (Ja x):=λl h=>by
   refine ff (DP (λt h=>ih (n-1) t h (bI hn)) l [] none (iT.mp h)) λds x e r=>?_;exact kS ds x e r
  induction t using T.casesOn with
  |num i=>exact aT (pos hn) dm [] (by kernel_rfl)
  |sym x=>exact aT (pos hn) dm [] (by kernel_rfl)
  |call u=>
   refine ff (lst [u] (iT.mpr λw hw=>by refine ae.mp hw ..▸?_;exact aX hd)) λds x e r=>?_;refine(show(T.call u).small=ds.isEmpty by rw[e];exact(kK _).symm).symm▸?_;exact aT (pos hn) dm [(12,F.comp (r)),(0,bx (qR ds))] (by kernel_rfl)
  |pow b i=>
   obtain⟨ds,x,e,r⟩:=lst [b,.num i] (iT.mpr λw hw=>by
    rcases aA.mp hw with rfl|hw
    ·exact aX hd
    ·refine ae.mp hw ..▸?_;exact a7 _)
   refine(show(T.pow b i).small=ds.isEmpty by rw[e];exact(kK _).symm).symm▸?_;exact aT (pos hn) dm [(15,F.comp (r)),(0,bx (qR ds))] (by kernel_rfl)
  |sum l=>
   refine ff (lst l (aX hd)) λds x e r=>?_;have hl:decide (((aL l).length:Int)<5)=decide (l.length<5):=by refine cr ..▸?_;exact decide_eq_decide.mpr Int.ofNat_lt
   refine(show(T.sum l).small=(decide (l.length<5)&&ds.isEmpty) by rw[e];rfl).symm▸?_
   induction q:decide (l.length<5)with
   |false=>exact aT (pos hn) dm [(11,bx (so (hl.trans q)))] (by kernel_rfl)
   |true=>exact aT (pos hn) dm [(11,bx (so (hl.trans q))),(3,F.comp (r)),(0,bx (qR ds))] (by kernel_rfl)
  |prod l=>
   refine ff (lst l (aX hd)) λds x e r=>?_;have hl:decide (((aL l).length:Int)<5)=decide (l.length<5):=by refine cr ..▸?_;exact decide_eq_decide.mpr Int.ofNat_lt
   refine(show(T.prod l).small=(decide (l.length<5)&&ds.isEmpty) by rw[e];rfl).symm▸?_
   induction q:decide (l.length<5)with
   |false=>exact aT (pos hn) dm [(11,bx (so (hl.trans q)))] (by kernel_rfl)
   |true=>exact aT (pos hn) dm [(11,bx (so (hl.trans q))),(3,F.comp (r)),(0,bx (qR ds))] (by kernel_rfl)
noncomputable def OZ:Option aQ→ab
 |none=>.none
 |some e=>.dict (bH e)
theorem nQ:∀ {e:aQ} {x:Nm} {t:T},(e.map (·.1)).Nodup→(x,t)∈e→cM e x=some t:=λ{e}=>by
 induction e with
 |nil=>exact λ_ h=>cg h
 |cons yu r ih=>
  refine λ{x t} hn h=>?_;obtain⟨y,u⟩:=yu;simp only[aE,bK]at hn;rw[j6.2];refine(aA.mp h).elim (λe=>?_) λh=>?_
  ·cases e;exact if_pos rfl ..▸rfl
  ·refine if_neg (λ(e2:y=x)=>hn.1 (by rw[e2];exact List.mem_map.mpr (aV _ h rfl))) ..▸?_;exact ih hn.2 h
theorem Gs{e:aQ}{x:Nm}{t:T}(hn:(e.map (·.1)).Nodup)(h:cM e x=some t):m9 (bH e) (.str x.str) (a9 t)=bH e:=by
 unfold m9;rw[if_pos (by
  rw[iD];exact⟨_,List.mem_map.mpr (aV _ (kx h) rfl),by simp[tz]⟩)]
 unfold bH;refine bZ ..▸?_;refine bp λp hp=>?_;simp only[Function.comp_def,tz]
 by_cases q:p.1=x
 ·have:cM e p.1=some p.2:=nQ hn hp;rw[q,h]at this;obtain rfl:=Option.some.inj this;simp[q]
 ·simp[q]
theorem iK.more{e:aQ}{x:Nm}{t:T}(he:iK e)(h:cM e x=none)(hd:t.dp≤64):iK (e++ [(x,t)]):=by
 have:=xr (x:=x) he hd (e++ [(x,t)]);unfold kt at this;rw[h]at this;exact this (.head _)
theorem Jo:∀ {r e f:aQ},iK e→(∀p∈r,p.2.dp≤64)→d5 e r=some f→iK f:=by
 intro r
 induction r with
 |nil=>intro e f he _ h;obtain rfl:=Option.some.inj h;exact he
 |cons p r ih=>
  intro e f he hr h;rw[vY.2]at h
  induction q:cM e p.1 with
  |some u=>
   rw[q]at h
   by_cases w:lQ u p.2=true
   ·exact ih he (λp hp=>hr p (.tail _ hp)) ((if_pos w).symm.trans h)
   ·exact absurd ((if_neg w).symm.trans h) (λe=>by exact nsN e)
  |none=>
   rw[q]at h;exact ih (he.more q (hr p (.head _))) (λp hp=>hr p (.tail _ hp)) h
section
variable {n:Nat}
noncomputable def QL(one other e:aQ)(x:Option B):St:=⟨[(ofString "one",some (.v (.dict (bH one)))),(ofString "other",some (.v (.dict (bH other)))),(ofString "found",some (.l 0)),(ofString "name",x)],[some (.dct (bH e))]⟩
theorem DQ{e r:aQ}{p:Nm×T}{u:T}(h:cM e p.1=some u):d5 e (p::r)=if lQ u p.2 then d5 e r else none:=by
 show(match cM e p.1 with|some u=>if lQ u p.2 then d5 e r else none|none=>d5 (e++ [(p.1,p.2)]) r)=_;exact h ..▸rfl
theorem DS{e r:aQ}{p:Nm×T}(h:cM e p.1=none):d5 e (p::r)=d5 (e++ [(p.1,p.2)]) r:=by
 show(match cM e p.1 with|some u=>if lQ u p.2 then d5 e r else none|none=>d5 (e++ [(p.1,p.2)]) r)=_;exact h ..▸rfl
theorem Jp{e:aQ}(he:iK e):jz (bH e).length=true:=j4 (by rw[bH,aN];exact aa he.len (by decide))
theorem Gu{one other:aQ}(h2:iK other):∀(r e:aQ)(x:Option B),(∀p∈r,p∈other)→iK e→
  ∃e' x',fO (Call n) (ofString "_law_both") (bY 93) [1] (r.map λp=>.str p.1.str) (QL one other e x) (match d5 e r with|none=>.ret (.v .none)|some _=>.next) (QL one other e' x')∧∀f,d5 e r=some f→e'=f:=by
 intro r
 induction r with
 |nil=>exact λe x _ _=>kS e x ⟨rfl,rfl⟩ (λf h=>Option.some.inj h)
 |cons p r ih=>
  intro e x hm he;obtain⟨y,t⟩:=p;have hy:=nQ h2.nod (hm (y,t) (.head _));have hd:=h2.dp (y,t) (hm (y,t) (.head _));have hm':=λp hp=>hm p (.tail _ hp);have so1:∀o,cM e y=o→(gE (bH e) (.str y.str)).isSome=o.isSome:=λo h=>by exact(ut ..).symm▸(h ..).symm▸(Option.isSome_map ..).symm▸rfl
  induction hl:cM e y with
  |some u=>
   have hu:=he.dp _ (kx hl);have gd:gE (bH e) (.str y.str)=some (a9 u):=by refine ut ..▸hl ..▸?_;rfl
   refine DQ (p:=(y,t)) hl ..▸?_
   induction hq:lQ u t with
   |false=>
    refine kS e (some (.v (.str y.str))) (.ret ?_) (λf h=>by cases h);exact le [(1,F.b (rG e y)),(0,F.b (so1 _ hl)),(1,F.b (rG e y)),(0,F.d (gd)),(0,F.d (uu hy)),(0,bx ((pY hu hd).trans (so (nt hq))))] (by kernel_rfl)
   |true=>
    have e2:=iy _ _ hq;subst e2;refine ff (ih e (some (.v (.str y.str))) hm' he) λe' x' k k2=>?_;refine kS e' x' (.next ?_ k) k2;exact le [(1,F.b (rG e y)),(0,F.b (so1 _ hl)),(1,F.b (rG e y)),(0,F.d (gd)),(0,F.d (uu hy)),(0,bx ((pY hu hd).trans (so (nf hq)))),(2,F.d (uu hy)),(1,F.b (rG e y)),(0,F.b (Jp he)),(0,F.cl (congrArg bE.dct (Gs he.nod hl)))] (by kernel_rfl)
  |none=>
   refine DS (p:=(y,t)) hl ..▸?_;refine ff (ih (e++ [(y,t)]) (some (.v (.str y.str))) hm' (he.more hl hd)) λe' x' k k2=>?_;refine kS e' x' (.next ?_ k) k2;exact le [(1,F.b (rG e y)),(0,F.b (so1 _ hl)),(1,F.d (uu hy)),(1,F.b (rG e y)),(0,F.b (Jp he)),(0,F.cl (congrArg bE.dct (uw (t:=t) hl)))] (by kernel_rfl)
theorem Jq(hn:1≤n){one other:aQ}(h1:iK one)(h2:iK other):bU n (ofString "_law_both") [.dict (bH one),.dict (bH other)] (OZ (d5 one other)):=by
 refine ff (Gu (n:=n-1) (one:=one) h2 other one none (λ_ h=>h) h1) λe' x' r k=>?_;rw[show(other.map λp=>e9 p.1.str)=(bH other).map (·.1) by rw[bH,bZ];rfl]at r
 induction q:d5 one other with
 |none=>
  rw[q]at r;exact aT (pos hn) wM [(0,F.b (xo one)),(0,F.d (DG h1)),(1,F.b (xo other)),(0,F.loop (r))] (by kernel_rfl)
 |some f=>
  rw[q]at r;have e2:=k f q;subst e2;exact aT (pos hn) wM [(0,F.b (xo one)),(0,F.d (DG h1)),(1,F.b (xo other)),(0,F.loop (r))] (by kernel_rfl)
end
noncomputable def kz(r:List Nat):ab:=.list (r.map λ(a:Nat)=>.int (a:Int))
noncomputable def QM(l:List (List Nat)):ab:=.list (l.map kz)
theorem vb(w:Nat):∀m,(dM m w).length≤w^m
 |0=>ak _
 |m+1=>by
  have ih:=vb w m;have key:∀l:List (List Nat),(l.flatMap λrow=>((bF w).filter λa=>!row.contains a).map λa=>row++ [a]).length≤l.length*w:=λl=>by
   induction l with
   |nil=>simp
   |cons r l ih=>
    refine(co ..).symm▸(aj ..).symm▸(aN ..).symm▸(aP ..).symm▸(nY ..).symm▸?_;exact nw [_,_,_,_] (.d yA yB (.d yC yD .n)) (.a yC yA) (.a yB (.m 1 yD)) rfl ih (aa (fk _ _) (by simp):((bF w).filter λa=>!r.contains a).length≤w)
  rw[Gr.2,vG];exact aa (key _) (dK _ ih)
theorem i9(w:Nat):∀m,∀r∈dM m w,r.length=m
 |0,r,h=>by refine ae.mp h ..▸?_;rfl
 |m+1,r,h=>by
  refine aG (List.mem_flatMap.mp h) λq hq h=>?_;refine aG (List.mem_map.mp h) λa _ z1=>?_;obtain rfl:=z1;refine aj ..▸i9 w m q hq ..▸?_;rfl
theorem qS(a:Nat)(l:List Nat):iI .NotIn (.int (a:Int)) (kz l)=some (!l.contains a):=by
 show nj _ _ _=_;refine im ..▸?_;have h:(Kh (.int (a:Int)) (l.map λ(a:Nat)=>bX (a:Int)))=some (l.contains a):=by
  unfold Kh;rw[oy,show((l.map λ(a:Nat)=>bX (a:Int)).all SeqAt.shaped)=true by
   rw[aM];intro x hx;refine aG (List.mem_map.mp hx) λb _ z2=>?_;obtain rfl:=z2;exact oy _]
  simp only[AT,if_true,Option.some.injEq]
  induction l with
  |nil=>rfl
  |cons b l ih=>
   rw[aE,gZ,ih,G3,lN]
   congr 1
   by_cases e:b=a
   ·subst e;simp
   ·rw[beq_eq_false_iff_ne.mpr (λh=>e (by omega)),beq_eq_false_iff_ne.mpr (λh=>e h.symm)]
 show(Kh (.int (a:Int)) (l.map λ(a:Nat)=>bX (a:Int))).map (λx=>!x)=_;refine h ..▸?_;rfl
theorem Jr(w:Nat):lI 0 (w:Int)=(bF w).map λ(a:Nat)=>.int (a:Int):=by
 rw[lI,Int.sub_zero,cE];exact bp λi _=>by rw[iN]
theorem LI(u:List Nat)(a:Nat)(h:u.length≤10):jE .Add (kz u) (.list [.int (a:Int)])=some (kz (u++ [a])):=by
 show jE .Add (.list _) _=_;rw[EO (by rw[aN];exact aa (bh h) (by decide))];unfold kz;refine bS ..▸?_;rfl
section
variable {n:Nat}
noncomputable def J5(u l:List Nat):List (List Nat):=(l.filter λa=>!u.contains a).map λa=>u++ [a]
noncomputable def Pq(w:Nat)(x y:Option B):St:=⟨[(ofString "row",x),(ofString "at",y),(ofString "wide",some (.v (.int (w:Int))))],[]⟩
theorem Js{w:Nat}{u:List Nat}(hu:u.length≤10):∀(l:List Nat)(acc:List ab)(y:Option B),(acc++(J5 u l).map kz).length≤1000→
  ∃y',yM (Call n) (bY 95) [1,0] [] 12 (l.map λ(a:Nat)=>.int (a:Int)) acc (Pq w (some (.v (kz u))) y) (acc++(J5 u l).map kz) (Pq w (some (.v (kz u))) y'):=by
 intro l
 induction l with
 |nil=>exact λacc y _=>aV y ((aF _).symm) rfl
 |cons a l ih=>
  intro acc y hl;have e:J5 u (a::l)=(if(!u.contains a)=true then [u++ [a]]else [])++J5 u l:=by
   unfold J5;refine bk ..▸?_;split<;>rfl
  rw[e]at hl⊢
  induction q:u.contains a with
  |true=>
   rw[q]at hl;refine aY (ih acc (some (.v (.int a))) hl) λy' r=>?_;refine⟨y',.cons ?_ r⟩;exact le [(0,bx ((qS a u).trans (so (nf q))))] (by kernel_rfl)
  |false=>
   rw[q]at hl;have hl:(acc++([kz (u++ [a])]++(J5 u l).map kz)).length≤1000:=hl;rw[←aw]at hl;refine aY (ih (acc++ [kz (u++ [a])]) (some (.v (.int a))) hl) λy' r=>?_;rw[aw]at r;rw[aw,aj]at hl;refine⟨y',.cons ?_ r⟩;exact le [(0,bx ((qS a u).trans (so (nt q)))),(2,F.b (qI (k:=acc.length) (m:=1000) (aa (ao _ _) hl))),(0,F.d (LI u a hu))] (by kernel_rfl)
theorem Jt{w:Nat}(hw:w≤4):∀(us:List (List Nat))(acc:List ab)(x y:Option B),(∀u∈us,u.length≤10)→(acc++(us.flatMap λu=>J5 u (bF w)).map kz).length≤1000→
  ∃x' y',fh (Call n) (bY 95) [1,0] [] 12 (us.map kz) acc (Pq w x y) (acc++(us.flatMap λu=>J5 u (bF w)).map kz) (Pq w x' y'):=by
 intro us
 induction us with
 |nil=>exact λacc x y _ _=>kS x y ((aF _).symm) rfl
 |cons u us ih=>
  intro acc x y hu hl;rw[co,bS,←aw]at hl⊢;refine aY (Js (n:=n) (w:=w) (hu u (.head _)) (bF w) acc y (aa (by refine aj (as:=acc++_) ..▸?_;exact ao _ _) hl)) λy1 r1=>?_;refine fe (ih (acc++(J5 u (bF w)).map kz) (some (.v (kz u))) y1 (λv hv=>hu v (.tail _ hv)) hl) λx' y' r=>?_;rw[←Jr]at r1;refine ik x' y' (.cons ?_ r);exact le [(1,F.b (lw (k:=w) (aa hw (by decide)))),(0,JV (r1))] (by kernel_rfl)
noncomputable def O0(m w k:Nat)(x:Option B):St:=⟨[(ofString "many",some (.v (.int (m:Int)))),(ofString "wide",some (.v (.int (w:Int)))),(ofString "found",some (.v (QM (dM k w)))),(ofString "turn",x)],[]⟩
theorem Cb{w:Nat}(hw:w≤4){j:Nat}(hj:j≤4):(dM j w).length≤256:=aa (vb w j) (aa (dR hw j) (dJ (by decide) hj))
theorem LJ{m w:Nat}(hw:w≤4)(hm:m≤4):∀(j k:Nat)(x:Option B),k+j=m→∃x',fO (Call n) (ofString "_law_choices") (bY 95) [1] (rg k j) (O0 m w k x) .next (O0 m w m x'):=by
 intro j
 induction j with
 |zero=>intro k x h;subst h;exact aV x rfl rfl
 |succ j ih=>
  intro k x h;refine aY (ih (k+1) (some (.v (.int (k:Int)))) (by exact(h ..)▸(bz ..).symm▸(fV 1 ..).symm▸rfl)) λx' r=>?_;have k4:k+1≤4:=aa (by refine(h ..)▸?_;exact bM (bh (a7 _)) k) hm;have e:dM (k+1) w=(dM k w).flatMap λu=>J5 u (bF w):=rfl;have lc:((dM (k+1) w).map kz).length≤1000:=by refine(aN ..).symm▸?_;exact aa (Cb hw k4) (by decide)
  refine fe (Jt (n:=n) hw (dM k w) [] none none (λu hu=>by refine i9 w k u hu ..▸?_;exact aa (aW k4) (by decide)) (by refine bL ..▸(e ..)▸?_;exact lc)) λx1 y1 r1=>?_;rw[bL,←e]at r1;refine⟨x',.next ?_ r⟩;exact le [(1,F.comp (r1)),(0,F.b (qI (k:=((dM (k+1) w).map kz).length) (m:=1000) lc))] (by kernel_rfl)
theorem vc(hn:1≤n){m w:Nat}(hm:m≤4)(hw:w≤4):bU n (ofString "_law_choices") [.int (m:Int),.int (w:Int)] (QM (dM m w)):=by
 refine aY (LJ (n:=n-1) hw hm m 0 none (ce m)) λx r=>?_;rw[←qF]at r;exact aT (pos hn) yh [(0,F.b (lw (k:=m) (aa hm (by decide)))),(0,F.loop (r))] (by kernel_rfl)
end
noncomputable def y6(P Q:T→Prop)(n:Nat)(r:rZ):Prop:=∀p t,P p→Q t→(∀e∈r p t,iK e)∧bU n (ofString "_law_readings") [a9 p,a9 t] (cC (r p t))
noncomputable def sq(b:Bool)(xs:List ab):ab:=match b with
 |true=>.list xs
 |false=>.tuple xs
theorem NM(b:Bool)(xs:List ab):jB (sq b xs)=some xs:=by induction b<;>rfl
theorem EX{b:Bool}{ts us:List T}{i:Nat}{t:T}(h:ts.drop i=t::us)(l:ts.length≤1000):uX (sq b (aL ts)) (.int (i:Int))=some (a9 t):=by
 have hi:i<ts.length:=by
  have:=congrArg List.length h;rw[cO,aP]at this;exact Nat.lt_of_sub_ne_zero (by refine this ..▸?_;exact Nat.succ_ne_zero _)
 have:=qG (ts.take i) t us (List.length_take_of_le (fU hi)) (aa (fU hi) l);rw[←(by exact(h ..)▸hJ ..▸rfl:ts=ts.take i++t::us)]at this
 induction b<;>exact this
theorem vA(J:fH)(c:bE):t8 (J++ [some c]) J.length=some c:=by
 unfold t8;refine List.getElem?_append_right (ak _) ..▸vE ..▸?_;rfl
theorem vd(J:fH)(a c:Option bE):Nc (J++ [a]) J.length c=some (.c (.l J.length) (J++ [c])):=by
 refine Es ..▸List.set_append_right _ _ (ak _) ..▸vE ..▸?_;rfl
noncomputable def xu(r:rZ)(p t:T)(found:List aQ):List aQ:=found.flatMap λone=>(r p t).flatMap λother=>r7 (d5 one other)
theorem EY{P Q:T→Prop}{n:Nat}{r:rZ}(X:y6 P Q n r){p t:T}(hp:P p)(ht:Q t){found:List aQ}(h:∀e∈found,iK e):∀e∈xu r p t found,iK e:=λe he=>by
 refine aG (List.mem_flatMap.mp he) λa ha he=>?_;refine aG (List.mem_flatMap.mp he) λb hb he=>?_
 induction q:d5 a b with
 |none=>rw[q]at he;exact cg he
 |some c=>
  rw[q]at he;refine ae.mp he ..▸?_;exact Jo (h a ha) ((X p t hp ht).1 b hb).dp q
theorem l7{α:Type}{a b:List α}{m:Nat}(h:(a++b).length≤m):a.length≤m:=aa (by refine aj ..▸?_;exact ao _ _) h
section
variable {n:Nat} {bq:Bool} {ps ts:List T}
noncomputable def N1(bq:Bool)(ps ts:List T)(found:List aQ)(a p l u v w:Option B)(J:fH):St:=⟨[(ofString "patterns",some (.v (sq bq (aL ps)))),(ofString "terms",some (.v (sq bq (aL ts)))),(ofString "found",some (.v (cC found))),(ofString "at",a),(ofString "pattern",p),(ofString "later",l),(ofString "one",u),(ofString "other",v),(ofString "both",w)],J⟩
noncomputable def DT(dn:List aQ):bE:=.lst (dn.map λe=>.v (.dict (bH e)))
theorem Ju(hn:1≤n){found:List aQ}{a p u:Option B}{J:fH}{e1:aQ}(h1:iK e1):∀(os dn:List aQ)(v w:Option B),(∀e∈os,iK e)→(dn++os.flatMap λo=>r7 (d5 e1 o)).length≤100000→
  ∃v' w',fO (Call n) (ofString "_law_rows") (bY 94) [1,1,0] (os.map λe=>.dict (bH e)) (N1 bq ps ts found a p (some (.l J.length)) (some (.v (.dict (bH e1)))) v w (J++ [some (DT dn)])) .next (N1 bq ps ts found a p (some (.l J.length)) (some (.v (.dict (bH e1)))) v' w' (J++ [some (DT (dn++os.flatMap λo=>r7 (d5 e1 o)))])):=by
 intro os
 induction os with
 |nil=>exact λdn v w _ _=>ik v w (by refine(iC ..).symm▸(aF ..).symm▸?_;exact⟨rfl,rfl⟩)
 |cons o os ih=>
  intro dn v w he hl;rw[co,←aw]at hl⊢;have hb:=Jq hn h1 (he o (.head _));have he':=λe h=>he e (kR o h);have hl1:=l7 hl
  induction q:d5 e1 o with
  |none=>
   rw[q]at hl hb;rw[show dn++r7 none=dn from aF _]at hl⊢;refine fe (ih dn (some (.v (.dict (bH o)))) (some (.v .none)) he' hl) λv' w' r=>?_;refine ik v' w' (.next ?_ r);exact le [(0,ar (hb)),(0,vD (vA J (DT dn))),(2,vD (vA J (DT dn))),(0,F.b (nN (dn:=dn) (r:= []) (by refine aF ..▸?_;exact l7 hl))),(0,F.cl (congrArg bE.lst (aF (dn.map λe=>B.v (.dict (bH e)))))),(0,F.u (vd J (some (DT dn)) (some (DT dn))))] (by kernel_rfl)
  |some e2=>
   rw[q]at hl hb hl1;refine fe (ih (dn++ [e2]) (some (.v (.dict (bH o)))) (some (.v (.dict (bH e2)))) he' hl) λv' w' r=>?_;refine ik v' w' (.next ?_ r);exact le [(0,ar (hb)),(0,vD (vA J (DT dn))),(2,vD (vA J (DT dn))),(0,F.b (nN (dn:=dn) (r:= [e2]) hl1)),(0,F.cl (congrArg bE.lst (vW dn [e2]))),(0,F.u (vd J (some (DT dn)) (some (DT (dn++ [e2])))))] (by kernel_rfl)
theorem Gv(hn:1≤n){found:List aQ}{J:fH}{i:Nat}{p t:T}{rs2:List aQ}{us:List T}(ht:ts.drop i=t::us)(l:ts.length≤1000)(X:bU n (ofString "_law_readings") [a9 p,a9 t] (cC rs2))(h2:∀e∈rs2,iK e):∀(rs dn:List aQ)(u v w:Option B),(∀e∈rs,iK e)→(dn++rs.flatMap λone=>rs2.flatMap λo=>r7 (d5 one o)).length≤100000→
  ∃u' v' w',fO (Call n) (ofString "_law_rows") (bY 94) [1,1] (rs.map λe=>.dict (bH e)) (N1 bq ps ts found (some (.v (.int i))) (some (.v (a9 p))) (some (.l J.length)) u v w (J++ [some (DT dn)])) .next (N1 bq ps ts found (some (.v (.int i))) (some (.v (a9 p))) (some (.l J.length)) u' v' w' (J++ [some (DT (dn++rs.flatMap λone=>rs2.flatMap λo=>r7 (d5 one o)))])):=by
 intro rs
 induction rs with
 |nil=>exact λdn u v w _ _=>zq u v w (by refine(iC ..).symm▸(aF ..).symm▸?_;exact⟨rfl,rfl⟩)
 |cons e1 rs ih=>
  intro dn u v w he hl;rw[co,←aw]at hl⊢;refine fe (Ju (bq:=bq) (ps:=ps) (ts:=ts) (found:=found) (a:=some (.v (.int i))) (p:=some (.v (a9 p))) (u:=u) (J:=J) hn (he e1 (.head _)) rs2 dn v w h2 (l7 hl)) λv1 w1 r1=>?_;refine wi (ih _ (some (.v (.dict (bH e1)))) v1 w1 (λe h=>he e (.tail _ h)) hl) λu' v' w' r=>?_;refine zq u' v' w' (.next ?_ r);exact le [(0,F.d (EX (b:=bq) ht l)),(0,ar (X)),(1,F.loop (r1))] (by kernel_rfl)
theorem y7{l vs:List T}{i:Nat}{p:T}(h:l.drop i=p::vs):l.drop (i+1)=vs:=by
 have:=congrArg List.tail h;rw[List.tail_drop]at this;exact this
theorem Jv(hn:1≤n){P Q:T→Prop}{r:rZ}(X:y6 P Q n r)(l:ts.length≤1000):∀(vs us:List T)(i:Nat)(found:List aQ)(J:fH)(x y z u v w:Option B),(∀p∈vs,P p)→(∀t∈us,Q t)→ts.drop i=us→vs.length=us.length→(∀e∈found,iK e)→(∀j,(fF r (vs.take j) (us.take j) found).length≤100000)→
  ∃J' x' y' z' u' v' w',fO (Call n) (ofString "_law_rows") (bY 94) [1] (kM i (aL vs)) (N1 bq ps ts found x y z u v w J) .next (N1 bq ps ts (fF r vs us found) x' y' z' u' v' w' J'):=by
 intro vs
 induction vs with
 |nil=>exact λus i found J x y z u v w _ _ _ _ _ _=>PL J x y z u v w rfl rfl
 |cons p vs ih=>
  intro us i found J x y z u v w hp hq tO hlen hf hfit
  induction us using am with
  |nil=>cases hlen
  |cons t us=>
   have hP:=hp p (.head _);have hQ:=hq t (.head _);have h1:(xu r p t found).length≤100000:=by
    have:=hfit 1;rw[GS,GS,List.take_zero,List.take_zero]at this;exact this
   refine wi (Gv (bq:=bq) (ps:=ps) (J:=J) (found:=found) hn tO l (X p t hP hQ).2 (X p t hP hQ).1 found [] u v w hf (by refine bL ..▸?_;exact h1)) λu1 v1 w1 r1=>?_;rw[bL]at r1;refine N7 (ih us (i+1) (xu r p t found) (J++ [none]) (some (.v (.int i))) (some (.v (a9 p))) (C8 J.length (cC (xu r p t found)) (some (.l J.length))) (C8 J.length (cC (xu r p t found)) u1) (C8 J.length (cC (xu r p t found)) v1) (C8 J.length (cC (xu r p t found)) w1) (λq h=>hp q (.tail _ h)) (λq h=>hq q (.tail _ h)) (y7 tO) (gA.inj hlen) (EY X hP hQ hf) (λj=>hfit (j+1))) λJ' x' y' z' u' v' w' k=>?_;refine PK J' x' y' z' u' v' w' (.next ?_ k);exact le [(0,F.u (zL J (some (DT [])))),(1,F.loop (r1)),(0,vD (vA J (DT (xu r p t found)))),(0,F.d (lB (xu r p t found))),(0,F.u (vd J (some (DT (xu r p t found))) none))] (by kernel_rfl)
theorem oV{P Q:T→Prop}{r:rZ}(hn:2≤n)(X:y6 P Q (n-1) r)(bq:Bool){ps ts:List T}(hp:∀p∈ps,P p)(ht:∀t∈ts,Q t)(hlen:ps.length=ts.length)(hl4:ps.length≤10)
  (hfit:∀j,(fF r (ps.take j) (ts.take j) [[]]).length≤100000):bU n (ofString "_law_rows") [sq bq (aL ps),sq bq (aL ts)] (cC (fF r ps ts [[]])):=by
 refine N7 (Jv (n:=n-1) (bq:=bq) (ps:=ps) (ts:=ts) (fz 1 hn) X (by refine(hlen ..)▸?_;exact aa hl4 (by decide)) ps ts 0 [[]] [] none none none none none none hp ht rfl hlen (λe he=>by refine ae.mp he ..▸?_;exact .nil) hfit) λJ x y z u v w k=>?_;exact aT (pos hn) De [(0,F.ds (NM bq (aL ps))),(0,F.loop (k))] (by kernel_rfl)
end
theorem Cc{l:List T}(h:∀t∈l,t.dp≤63):SeqAt.shaped (.list (aL l))=true:=by
 unfold SeqAt.shaped;simp only[bN,ed,mF,ou,jb,decide_eq_true_eq];exact nw [_] (.d yA (.k 63) .n) (.s yA) (.k 64) rfl (fL.mpr h)
theorem Cd{l:List T}(h:∀t∈l,t.dp≤63):iI .NotEq (.list (aL l)) (.list [])=some (!l.isEmpty):=by
 show nj _ _ _=_;refine im ..▸?_;show(if SeqAt.shaped (.list (aL l))&&SeqAt.shaped (.list [])then some (!aO (.list (aL l)) (.list []))else none)=_;refine(Cc h ..).symm▸(show SeqAt.shaped (.list [])=true by decide+kernel).symm▸?_
 induction l using am with
 |nil=>rfl
 |cons t r=>rfl
theorem DU{t:T}{l:List T}(ht:t.dp≤63)(h:∀u∈l,u.dp≤63):iI .NotIn (a9 t) (.list (aL l))=some (!l.any λu=>lQ u t):=by
 have e:iI .NotIn (a9 t) (.list (aL l))=nj .NotIn (a9 t) (.list (aL l)):=by induction t using T.casesOn<;>rfl
 refine e ..▸im ..▸?_;show(Kh (a9 t) (aL l)).map (λx=>!x)=_;unfold Kh;rw[ia (aa ht (by decide)),show(aL l).all SeqAt.shaped=true by
  rw[aM];intro x hx;rw[jm]at hx;refine aG (List.mem_map.mp hx) λu hu z1=>?_;obtain rfl:=z1;exact ia (by have:=h u hu;exact aa this (by decide))]
 simp only[AT,if_true,gO]
 congr 2
 refine jm ..▸List.any_map ..▸?_
 congr 1
 funext u
 exact mE u t
theorem Gw{ps:List T}{p:T}(hp:p∈ps):((ps.filter T.blank).any λu=>lQ u p)=p.blank:=by
 induction h:p.blank with
 |true=>exact iD.mpr (aV p (List.mem_filter.mpr ⟨hp,h⟩) (de p))
 |false=>
  rw[List.any_eq_false];intro u hu e;have:=(List.mem_filter.mp hu).2;rw[iy _ _ e,h]at this;exact dC this
theorem l8(w:Nat):∀m,∀r∈dM m w,∀a∈r,a<w
 |0,r,h,a,ha=>by rw[ae.mp h]at ha;exact cg ha
 |m+1,r,h,a,ha=>by
  refine aG (List.mem_flatMap.mp h) λq hq h=>?_;refine aG (List.mem_map.mp h) λb hb z2=>?_;obtain rfl:=z2;refine(List.mem_append.mp ha).elim (λha=>?_) λha=>?_
  ·exact l8 w m q hq a ha
  ·refine(ae.mp ha ..).symm▸?_;exact List.mem_range.mp (List.mem_filter.mp hb).1
theorem xv{a b:List aQ}(h:(a++b).length≤100000):jE .Add (cC a) (cC b)=some (cC (a++b)):=by
 show(if jz ((a.map λe=>fI (bH e)).length+(b.map λe=>fI (bH e)).length)=true then some (PyData.list ((a.map λe=>fI (bH e))++(b.map λe=>fI (bH e))))else none)=_;refine(aN ..).symm▸(aN ..).symm▸(aj ..)▸(if_pos (j4 (aa h (by decide))) ..).symm▸(bS ..)▸?_;rfl
theorem Ay{P Q:T→Prop}{n:Nat}{r:rZ}(X:y6 P Q n r):∀ {ps ts:List T} {f:List aQ},(∀p∈ps,P p)→(∀t∈ts,Q t)→(∀e∈f,iK e)→∀e∈fF r ps ts f,iK e:=by
 intro ps
 induction ps with
 |nil=>intro ts f _ _ hf;induction ts using am<;>exact hf
 |cons p ps ih=>intro ts f hp ht hf;induction ts using am with
  |nil=>exact hf
  |cons t ts=>exact ih (f:=xu r p t f) (λq hq=>hp q (.tail _ hq)) (λu hu=>ht u (.tail _ hu)) (EY X (hp p (.head _)) (ht t (.head _)) hf)
theorem tH(x:List T):Ha (.list (aL x))=some x.length:=congrArg some (cr x)
theorem Az{ts:List T}{a:Nat}(h:a<ts.length):ts.drop a=ts.getD a (.num 0)::ts.drop (a+1):=by
 refine dZ h ..▸List.getD_eq_getElem?_getD ..▸List.getElem?_eq_getElem h ..▸?_;rfl
theorem Jw{ts:List T}{a:Nat}(h:a<ts.length):ts.getD a (.num 0)∈ts:=Fg (i:=a) (by refine Az h ..▸?_;exact .head _)
theorem Jx(J:fH)(c:bE):Nb J (some c)=some (.c (.l J.length) (J++ [some c])):=zL J _
section
variable {n:Nat}
theorem LK:∀(us:List T)(acc:List ab)(x:Option B),∃x',fh (Call n) (bY 96) [1] [] 13 (aL us) acc (Ja x) (acc++aL (us.filter T.blank)) (Ja x'):=by
 intro us
 induction us with
 |nil=>exact λacc x=>aV x ((aF _).symm) rfl
 |cons u us ih=>
  intro acc x;refine bk ..▸?_;have no:=ih acc (some (.v (a9 u)));refine aY (ih (acc++ [a9 u]) (some (.v (a9 u)))) λx1 yes=>?_;refine aY no λx2 no=>?_;rw[aw]at yes
  induction u using T.casesOn with
  |sym y=>induction y using Nm.casesOn with
   |x=>
    refine⟨x2,.cons ?_ no⟩;exact le [] (by kernel_rfl)
   |y=>
    refine⟨x2,.cons ?_ no⟩;exact le [] (by kernel_rfl)
   |z=>
    refine⟨x2,.cons ?_ no⟩;exact le [] (by kernel_rfl)
   |a_=>
    refine⟨x1,.cons ?_ yes⟩;exact le [] (by kernel_rfl)
   |b_=>
    refine⟨x1,.cons ?_ yes⟩;exact le [] (by kernel_rfl)
   |c_=>
    refine⟨x1,.cons ?_ yes⟩;exact le [] (by kernel_rfl)
  |num i=>
   refine⟨x2,.cons ?_ no⟩;exact le [] (by kernel_rfl)
  |sum i=>
   refine⟨x2,.cons ?_ no⟩;exact le [] (by kernel_rfl)
  |prod i=>
   refine⟨x2,.cons ?_ no⟩;exact le [] (by kernel_rfl)
  |pow b i=>
   refine⟨x2,.cons ?_ no⟩;exact le [] (by kernel_rfl)
  |call i=>
   refine⟨x2,.cons ?_ no⟩;exact le [] (by kernel_rfl)
noncomputable def QN(ps:List T)(x:Option B):St:=⟨[(ofString "part",x),(ofString "blanks",some (.v (.list (aL (ps.filter T.blank)))))],[]⟩
theorem LL{ps:List T}(hp:∀p∈ps,p.dp≤63):∀(us:List T)(acc:List ab)(x:Option B),(∀u∈us,u∈ps)→∃x',fh (Call n) (bY 96) [2] [0] 11 (aL us) acc (QN ps x) (acc++aL (us.filter λp=>!p.blank)) (QN ps x'):=by
 intro us
 induction us with
 |nil=>exact λacc x _=>aV x ((aF _).symm) rfl
 |cons u us ih=>
  intro acc x hm;have hu:=hm u (.head _);have c:=DU (hp u hu) (l:=ps.filter T.blank) λv hv=>hp v (List.mem_filter.mp hv).1;rw[Gw hu]at c;refine bk ..▸?_
  induction q:u.blank with
  |true=>
   refine aY (ih acc (some (.v (a9 u))) λv hv=>hm v (.tail _ hv)) λx' r=>?_;refine⟨x',.cons ?_ r⟩;exact le [(0,bx (c.trans (so (nf q))))] (by kernel_rfl)
  |false=>
   refine aY (ih (acc++ [a9 u]) (some (.v (a9 u))) λv hv=>hm v (.tail _ hv)) λx' r=>?_;rw[aw]at r;refine⟨x',.cons ?_ r⟩;exact le [(0,bx (c.trans (so (nt q))))] (by kernel_rfl)
noncomputable def Pr(row:List Nat)(J:fH)(x y:Option B):St:=⟨[(ofString "at",x),(ofString "one",y),(ofString "row",some (.v (kz row)))],J⟩
theorem Jy{m i:Nat}(h:i<m):(bF m).drop i=i::(bF m).drop (i+1):=by
 exact dZ (by rw[vn];exact h) ..▸List.getElem_range ..▸rfl
theorem LM{ts:List T}{row:List Nat}{J:fH}:∀(us:List T)(i:Nat)(acc:List ab)(x y:Option B),ts.drop i=us→
  ∃x' y',fh (Call n) (bY 96) [4,0] [] 12 (kM i (aL us)) acc (Pr row J x y) (acc++aL ((((bF ts.length).drop i).filter λa=>!row.contains a).map λa=>ts.getD a (.num 0))) (Pr row J x' y'):=by
 intro us
 induction us with
 |nil=>
  intro i acc x y h;refine ik x y ?_;refine(CI (by rw[vn];exact List.drop_eq_nil_iff.mp h) ..).symm▸?_;exact⟨(aF _).symm,rfl⟩
 |cons t us ih=>
  intro i acc x y h;have hi:i<ts.length:=by
   refine Nat.lt_of_not_le λw=>?_;rw[CI w]at h;cases h
  have hg:ts.getD i (.num 0)=t:=by rw[Az hi]at h;exact(List.cons.inj h).1
  refine Jy hi ..▸bk ..▸?_;have ih:=λacc=>ih (i+1) acc (some (.v (.int i))) (some (.v (a9 t))) (y7 h)
  induction q:row.contains i with
  |true=>
   refine fe (ih acc) λx' y' r=>?_;refine ik x' y' (.cons ?_ r);exact le [(0,bx ((qS i row).trans (so (nf q))))] (by kernel_rfl)
  |false=>
   refine fe (ih (acc++ [a9 t])) λx' y' r=>?_;rw[aw]at r;refine ik x' y' ?_;refine(if_pos (show(!false)=true from rfl) ..).symm▸(aE ..).symm▸(hg ..).symm▸?_;refine .cons ?_ r;exact le [(0,bx ((qS i row).trans (so (nt q))))] (by kernel_rfl)
noncomputable def QO(ts:List T)(J:fH)(x:Option B):St:=⟨[(ofString "at",x),(ofString "terms",some (.v (.list (aL ts))))],J⟩
theorem LN{ts:List T}{J:fH}(hl:ts.length≤1000):∀(rs:List Nat)(acc:List ab)(x:Option B),(∀a∈rs,a<ts.length)→
  ∃x',fh (Call n) (bY 96) [4,2] [] 12 (rs.map λ(a:Nat)=>.int (a:Int)) acc (QO ts J x) (acc++aL (rs.map λa=>ts.getD a (.num 0))) (QO ts J x'):=by
 intro rs
 induction rs with
 |nil=>exact λacc x _=>aV x ((aF _).symm) rfl
 |cons a rs ih=>
  intro acc x h;refine aY (ih (acc++ [a9 (ts.getD a (.num 0))]) (some (.v (.int a))) λb hb=>h b (.tail _ hb)) λx' r=>?_;rw[aw]at r;refine⟨x',.cons ?_ r⟩;exact le [(1,F.d (EX (b:=true) (Az (h a (.head _))) hl))] (by kernel_rfl)
noncomputable def Pu(s:Bool)(ps ts:List T)(dn:List aQ)(x y z:Option B)(J:fH):St:=⟨[(ofString "kind",some (.v (.str (sk s)))),(ofString "pattern",some (.v (.tuple [.str (sk s),.tuple (aL ps)]))),(ofString "term",some (.v (.tuple [.str (sk s),.tuple (aL ts)]))),(ofString "parts",some (.v (.list (aL (aU ps))))),(ofString "terms",some (.v (.list (aL ts)))),(ofString "blanks",some (.v (.list (aL (ps.filter T.blank))))),(ofString "found",some (.v (cC dn))),(ofString "row",x),(ofString "left",y),(ofString "some",z)],J⟩
noncomputable def AQ(l:List T):bE:=.lst ((aL l).map .v)
structure MB (n:Nat) (r:rZ) (s:Bool) (ps ts:List T) (row:List Nat):Prop where
 lt:∀a∈row,a<ts.length
 ok:(eT ts row).isEmpty=(ps.filter T.blank).isEmpty→bU n (ofString "_law_rows") [.list (aL (aU ps)),.list (aL (gg s ps ts row))] (cC (fF r (aU ps) (gg s ps ts row) [[]]))
 left:(eT ts row).length≠1→(eT ts row)≠ []→bU n (ofString "simplify") [.tuple [.str (sk s),.tuple (aL (eT ts row))]] (a9 (pn s (eT ts row)))
 few:row.length≤10
theorem LO{r:rZ}{s:Bool}{ps ts:List T}(hp:∀p∈ps,p.dp≤63)(hl:ts.length≤1000):∀(rws:List (List Nat))(dn:List aQ)(x y z:Option B)(J:fH),(∀row∈rws,MB n r s ps ts row)→(dn++rws.flatMap (dh r s ps ts)).length≤100000→
  ∃x' y' z' J',fO (Call n) (ofString "_law_parted") (bY 96) [4] (rws.map kz) (Pu s ps ts dn x y z J) .next (Pu s ps ts (dn++rws.flatMap (dh r s ps ts)) x' y' z' J'):=by
 intro rws
 induction rws with
 |nil=>exact λdn x y z J _ _=>CN x y z J (by refine(iC ..).symm▸(aF ..).symm▸?_;exact⟨rfl,rfl⟩)
 |cons row rws ih=>
  intro dn x y z J hr h;have R:=hr row (.head _);have ih:=λdn x y z J=>ih dn x y z J λv hv=>hr v (.tail _ hv);rw[co,←aw]at h⊢;have h1:=l7 h;refine fe (LM (n:=n) (ts:=ts) (row:=row) (J:=J) ts 0 [] none none rfl) λa1 b1 c1=>?_;have c1:fh (Call n) (bY 96) [4,0] [] 12 (kM 0 (aL ts)) [] (Pr row J none none) (aL (eT ts row)) (Pr row J a1 b1):=c1;refine aY (LN (n:=n) (ts:=ts) (J:=J) hl row [] none R.lt) λa2 c2=>?_;rw[bL]at c2;have d1:∀b,(eT ts row).isEmpty=b→iI .Eq (.list (aL (eT ts row))) (.list [])=some b:=λb e=>e▸qR _;have d2:∀b,(ps.filter T.blank).isEmpty=b→iI .Eq (.list (aL (ps.filter T.blank))) (.list [])=some b:=λb e=>e▸qR _;have d3:∀b,(ps.filter T.blank).isEmpty=b→iI .NotEq (.list (aL (ps.filter T.blank))) (.list [])=some (!b):=λb e=>e▸Cd λu hu=>hp u (List.mem_filter.mp hu).1;have o:=R.ok
  induction hb:(ps.filter T.blank).isEmpty with
  |true=>
   induction hle:(eT ts row).isEmpty with
   |false=>
    rw[show dh r s ps ts row= [] by unfold dh;refine(hle ..).symm▸(hb ..).symm▸?_;rfl,aF]at h⊢;refine vq (ih dn (some (.v (kz row))) (some (.v (.list (aL (eT ts row))))) z J h) λx' y' z' J' k=>?_;refine CN x' y' z' J' (.cont ?_ k);exact le [(1,F.comp (c1)),(0,bx (d1 _ hle)),(0,bx (d2 _ hb))] (by kernel_rfl)
   |true=>
    have o:=o (hle.trans hb.symm);rw[show dh r s ps ts row=fF r (aU ps) (gg s ps ts row) [[]] by unfold dh;refine(hle ..).symm▸(hb ..).symm▸?_;rfl]at h h1⊢;have hsm:gg s ps ts row=row.map λa=>ts.getD a (.num 0):=by unfold gg;refine(hb ..).symm▸?_;exact aF _
    rw[hsm]at o h h1⊢;refine vq (ih (dn++fF r (aU ps) (row.map λa=>ts.getD a (.num 0)) [[]]) (some (.v (kz row))) (some (.v (.list (aL (eT ts row))))) (C8 J.length (.list (aL (row.map λa=>ts.getD a (.num 0)))) (some (.l J.length))) (J++ [none]) h) λx' y' z' J' k=>?_;refine CN x' y' z' J' (.next ?_ k);exact le [(1,F.comp (c1)),(0,bx (d1 _ hle)),(0,bx (d2 _ hb)),(3,F.comp (c2)),(0,F.u (Jx J (AQ (row.map λa=>ts.getD a (.num 0))))),(0,bx (d3 _ hb)),(1,vD (vA J (AQ (row.map λa=>ts.getD a (.num 0))))),(0,F.d (f9 (row.map λa=>ts.getD a (.num 0)))),(0,F.u (vd J (some (AQ (row.map λa=>ts.getD a (.num 0)))) none)),(0,ar (o)),(0,F.d (xv h1))] (by kernel_rfl)
  |false=>
   induction hle:(eT ts row).isEmpty with
   |true=>
    rw[show dh r s ps ts row= [] by unfold dh;refine(hle ..).symm▸(hb ..).symm▸?_;rfl,aF]at h⊢;refine vq (ih dn (some (.v (kz row))) (some (.v (.list (aL (eT ts row))))) z J h) λx' y' z' J' k=>?_;refine CN x' y' z' J' (.cont ?_ k);exact le [(1,F.comp (c1)),(0,bx (d1 _ hle)),(0,bx (d2 _ hb))] (by kernel_rfl)
   |false=>
    have o:=o (hle.trans hb.symm);rw[show dh r s ps ts row=fF r (aU ps) (gg s ps ts row) [[]] by unfold dh;refine(hle ..).symm▸(hb ..).symm▸?_;rfl]at h h1⊢;have hsm:gg s ps ts row=(row.map λa=>ts.getD a (.num 0))++ [pn s (eT ts row)]:=by unfold gg;refine hb ..▸?_;rfl
    rw[hsm]at o h h1⊢;have left:=R.left;refine vq (ih (dn++fF r (aU ps) ((row.map λa=>ts.getD a (.num 0))++ [pn s (eT ts row)]) [[]]) (some (.v (kz row))) (some (.v (.list (aL (eT ts row))))) (C8 J.length (.list (aL ((row.map λa=>ts.getD a (.num 0))++ [pn s (eT ts row)]))) (some (.l J.length))) (J++ [none]) h) λx' y' z' J' k=>?_;refine CN x' y' z' J' (.next ?_ k);have ft:jz ((aL (row.map λa=>ts.getD a (.num 0))).map B.v).length=true:=vN (m:=row.length) (aN _) (aa R.few (by decide))
    generalize eT ts row=L at*
    induction L using am with
    |nil=>exact m7 hle
    |cons t L=>induction L using am with
     |nil=>exact le [(1,F.comp (c1)),(0,bx (d1 _ hle)),(0,bx (d2 _ hb)),(3,F.comp (c2)),(0,F.u (Jx J (AQ (row.map λa=>ts.getD a (.num 0))))),(0,bx (d3 _ hb)),(1,vD (vA J (AQ (row.map λa=>ts.getD a (.num 0))))),(4,vD (vA J (AQ (row.map λa=>ts.getD a (.num 0))))),(0,F.b (ft)),(0,F.cl (congrArg bE.lst (fP (row.map λa=>ts.getD a (.num 0)) t))),(0,F.u (vd J (some (AQ (row.map λa=>ts.getD a (.num 0)))) (some (AQ ((row.map λa=>ts.getD a (.num 0))++ [t]))))),(0,vD (vA J (AQ ((row.map λa=>ts.getD a (.num 0))++ [t])))),(0,F.d (f9 ((row.map λa=>ts.getD a (.num 0))++ [t]))),(0,F.u (vd J (some (AQ ((row.map λa=>ts.getD a (.num 0))++ [t]))) none)),(0,ar (o)),(0,F.d (xv h1))] (by kernel_rfl)
     |cons u L=>
      generalize pn s (t::u::L)=v at*
      exact le [(1,F.comp (c1)),(0,bx (d1 _ hle)),(0,bx (d2 _ hb)),(3,F.comp (c2)),(0,F.u (Jx J (AQ (row.map λa=>ts.getD a (.num 0))))),(0,bx (d3 _ hb)),(1,vD (vA J (AQ (row.map λa=>ts.getD a (.num 0))))),(4,ar ((left (λe=>by cases e) (λe=>by cases e)))),(0,vD (vA J (AQ (row.map λa=>ts.getD a (.num 0))))),(0,F.b (ft)),(0,F.cl (congrArg bE.lst (fP (row.map λa=>ts.getD a (.num 0)) v))),(0,F.u (vd J (some (AQ (row.map λa=>ts.getD a (.num 0)))) (some (AQ ((row.map λa=>ts.getD a (.num 0))++ [v]))))),(0,vD (vA J (AQ ((row.map λa=>ts.getD a (.num 0))++ [v])))),(0,F.d (f9 ((row.map λa=>ts.getD a (.num 0))++ [v]))),(0,F.u (vd J (some (AQ ((row.map λa=>ts.getD a (.num 0))++ [v]))) none)),(0,ar (o)),(0,F.d (xv h1))] (by kernel_rfl)
theorem vB(hn:2≤n){r:rZ}{s:Bool}{ps ts:List T}(hp:∀p∈ps,p.dp≤63)(hl1:1≤ps.length)(hl2:ps.length≤4)(hl3:ts.length≤4)
  (hR:∀row∈dM (d9 ps) ts.length,MB (n-1) r s ps ts row) (hbig:(gX r s ps ts).length≤100000):
  bU n (ofString "_law_parted") [.str (sk s),.tuple [.str (sk s),.tuple (aL ps)],.tuple [.str (sk s),.tuple (aL ts)]] (cC (gX r s ps ts)):=by
 refine aY (LK (n:=n-1) ps [] none) λx1 r1=>?_;refine aY (LL (n:=n-1) hp ps [] none λ_ h=>h) λx2 r2=>?_;rw[bL]at r1 r2;have la:=nI (ps.filter λp=>!p.blank) (ps.filter T.blank) (show(aU ps).length≤1001 by refine(iV ..).symm▸?_;exact aa hl2 (by decide));have bl:=iV ps;refine vq (LO (n:=n-1) hp (aa hl3 (by decide)) (dM (d9 ps) ts.length) [] none none none [] hR hbig) λx y z J k=>?_;have k:fO (Call (n-1)) (ofString "_law_parted") (bY 96) [4] ((dM (d9 ps) ts.length).map kz) (Pu s ps ts [] none none none []) .next (Pu s ps ts (gX r s ps ts) x y z J):=k;have d3:∀b,(ps.filter T.blank).isEmpty=b→iI .NotEq (.list (aL (ps.filter T.blank))) (.list [])=some (!b):=λb e=>e▸Cd λu hu=>hp u (List.mem_filter.mp hu).1
 induction hb:(ps.filter T.blank).isEmpty with
 |true=>
  rw[show d9 ps=(aU ps).length by unfold d9;refine(hb ..).symm▸?_;rfl]at k;exact aT (pos hn) s0 [(5,F.comp (r1)),(1,F.comp (r2)),(0,F.d (la)),(0,bx (d3 _ hb)),(1,F.n (tH (aU ps))),(0,F.n (tH ts)),(0,ar (vc (n:=n-1) (fz 1 hn) (m:=(aU ps).length) (w:=ts.length) (bl▸hl2) hl3)),(1,F.loop (k))] (by kernel_rfl)
 |false=>
  rw[show d9 ps=(aU ps).length-1 by unfold d9;refine hb ..▸?_;rfl]at k;exact aT (pos hn) s0 [(5,F.comp (r1)),(1,F.comp (r2)),(0,F.d (la)),(0,bx (d3 _ hb)),(1,F.n (tH (aU ps))),(0,F.d (show jE .Sub (.int ((aU ps).length:Int)) (.int 1)=some (.int (((aU ps).length-1:Nat):Int))from congrArg (λx=>some (bX x)) (Int.ofNat_sub (bl▸hl1)).symm)),(0,F.n (tH ts)),(0,ar (vc (n:=n-1) (fz 1 hn) (m:=(aU ps).length-1) (w:=ts.length) (aa (dH _ _) (bl▸hl2)) hl3)),(1,F.loop (k))] (by kernel_rfl)
end
noncomputable def MC:Nat→Nat
 |0=>1
 |n+1=>(n+1)*MC n
theorem Ce:∀w,w<5→∀m,m<5→(dM m w).length≤MC w:=by decide+kernel
noncomputable def rr:List Nat→Nat
 | []=>1
 |l::r=>ef l*rr r
theorem NN:(rr []=1)∧(∀(l:Nat)(r:List Nat),rr (l::r)=ef l*rr r):=⟨rfl,λ_ _=>rfl⟩
theorem q2:∀a,a<8→∀b,b<8→a+b+2≤9→MC 2*rr [a+1,b+1]≤ef (a+b+2):=by decide+kernel
theorem q3:∀a,a<7→∀b,b<7→∀c,c<7→a+b+c+3≤9→MC 3*rr [a+1,b+1,c+1]≤ef (a+b+c+3):=by decide+kernel
theorem Q4:((bF 6).all λa=>(bF 6).all λb=>(bF 6).all λc=>(bF 6).all λd=>!decide (a+b+c+d+4≤9)||decide (MC 4*rr [a+1,b+1,c+1,d+1]≤ef (a+b+c+d+4)))=true:=by decide+kernel
theorem Gy:∀ {ls:List Nat},2≤ls.length→ls.length≤4→(∀l∈ls,1≤l)→ls.sum≤9→MC ls.length*rr ls≤ef ls.sum
 | [a,b],_,_,h,hs=>by
  obtain⟨a,rfl⟩:∃a',a=a'+1:=⟨a-1,by have:=h a (by simp);exact aC ((a6 _ _)) ((ah (az (this))))⟩
  obtain⟨b,rfl⟩:∃a',b=a'+1:=⟨b-1,by have:=h b (by simp);exact aC ((a6 _ _)) ((ah (az (this))))⟩
  have e: [a+1,b+1].sum=a+b+2:=by simp;exact aC (nw [_,_] .n (.a (.s yA) (.s yB)) (.a (.a yA yB) (.k 2)) rfl) (nw [_,_] .n (.a (.a yA yB) (.k 2)) (.a (.s yA) (.s yB)) rfl)
  rw[e]at hs⊢;exact q2 a (nw [_,_] (.d (.a (.a yA yB) (.k 2)) (.k 9) .n) (.s yA) (.k 8) rfl hs) b (nw [_,_] (.d (.a (.a yA yB) (.k 2)) (.k 9) .n) (.s yB) (.k 8) rfl hs) hs
 | [a,b,c],_,_,h,hs=>by
  obtain⟨a,rfl⟩:∃a',a=a'+1:=⟨a-1,by have:=h a (by simp);exact aC ((a6 _ _)) ((ah (az (this))))⟩
  obtain⟨b,rfl⟩:∃a',b=a'+1:=⟨b-1,by have:=h b (by simp);exact aC ((a6 _ _)) ((ah (az (this))))⟩
  obtain⟨c,rfl⟩:∃a',c=a'+1:=⟨c-1,by have:=h c (by simp);exact aC ((a6 _ _)) ((ah (az (this))))⟩
  have e: [a+1,b+1,c+1].sum=a+b+c+3:=by simp;exact aC (nw [_,_,_] .n (.a (.s yA) (.a (.s yB) (.s yC))) (.a (.a (.a yA yB) yC) (.k 3)) rfl) (nw [_,_,_] .n (.a (.a (.a yA yB) yC) (.k 3)) (.a (.s yA) (.a (.s yB) (.s yC))) rfl)
  rw[e]at hs⊢;exact q3 a (nw [_,_,_] (.d (.a (.a (.a yA yB) yC) (.k 3)) (.k 9) .n) (.s yA) (.k 7) rfl hs) b (nw [_,_,_] (.d (.a (.a (.a yA yB) yC) (.k 3)) (.k 9) .n) (.s yB) (.k 7) rfl hs) c (nw [_,_,_] (.d (.a (.a (.a yA yB) yC) (.k 3)) (.k 9) .n) (.s yC) (.k 7) rfl hs) hs
 | [a,b,c,d],_,_,h,hs=>by
  obtain⟨a,rfl⟩:∃a',a=a'+1:=⟨a-1,by have:=h a (by simp);exact aC ((a6 _ _)) ((ah (az (this))))⟩
  obtain⟨b,rfl⟩:∃a',b=a'+1:=⟨b-1,by have:=h b (by simp);exact aC ((a6 _ _)) ((ah (az (this))))⟩
  obtain⟨c,rfl⟩:∃a',c=a'+1:=⟨c-1,by have:=h c (by simp);exact aC ((a6 _ _)) ((ah (az (this))))⟩
  obtain⟨d,rfl⟩:∃a',d=a'+1:=⟨d-1,by have:=h d (by simp);exact aC ((a6 _ _)) ((ah (az (this))))⟩
  have e: [a+1,b+1,c+1,d+1].sum=a+b+c+d+4:=by simp;exact aC (nw [_,_,_,_] .n (.a (.s yA) (.a (.s yB) (.a (.s yC) (.s yD)))) (.a (.a (.a (.a yA yB) yC) yD) (.k 4)) rfl) (nw [_,_,_,_] .n (.a (.a (.a (.a yA yB) yC) yD) (.k 4)) (.a (.s yA) (.a (.s yB) (.a (.s yC) (.s yD)))) rfl)
  rw[e]at hs⊢;have q:=Q4;rw[aM]at q;have q:=q a (List.mem_range.mpr (nw [_,_,_,_] (.d (.a (.a (.a (.a yA yB) yC) yD) (.k 4)) (.k 9) .n) (.s yA) (.k 6) rfl hs));rw[aM]at q;have q:=q b (List.mem_range.mpr (nw [_,_,_,_] (.d (.a (.a (.a (.a yA yB) yC) yD) (.k 4)) (.k 9) .n) (.s yB) (.k 6) rfl hs));rw[aM]at q;have q:=q c (List.mem_range.mpr (nw [_,_,_,_] (.d (.a (.a (.a (.a yA yB) yC) yD) (.k 4)) (.k 9) .n) (.s yC) (.k 6) rfl hs));rw[aM]at q;have q:=q d (List.mem_range.mpr (nw [_,_,_,_] (.d (.a (.a (.a (.a yA yB) yC) yD) (.k 4)) (.k 9) .n) (.s yD) (.k 6) rfl hs));rw[decide_eq_true hs]at q;simp only[nU,jc,decide_eq_true_eq]at q;exact q
 | [],h,_,_,_=>by simp at h
 | [_],h,_,_,_=>by simp at h
 |_::_::_::_::_::_,_,h,_,_=>by simp at h
theorem LP{r:rZ}{p t:T}{k:Nat}(h:(r p t).length≤k)(f:List aQ):(f.flatMap λone=>(r p t).flatMap λother=>r7 (d5 one other)).length≤f.length*k:=by
 have cJ (one:aQ):((r p t).flatMap λother=>r7 (d5 one other)).length≤k:=by
  refine aa ?_ h
  generalize r p t=l
  induction l with
  |nil=>exact ak _
  |cons a l ih=>
   refine co ..▸aj ..▸aP ..▸?_;have:(r7 (d5 one a)).length≤1:=by induction d5 one a<;>simp[r7]
   exact nw [_,_,_] (.d yA yB (.d yC (.k 1) .n)) (.a yC yA) (.s yB) rfl ih this
 induction f with
 |nil=>simp
 |cons a f ihf=>
  refine co ..▸aj ..▸aP ..▸nY ..▸?_;exact nw [_,_,_,_] (.d yA yB (.d yC yD .n)) (.a yC yA) (.a yB (.m 1 yD)) rfl ihf (cJ a)
inductive r8 (r:rZ):List T→List T→List Nat→Prop
 |nil (ts:List T):r8 r [] ts []
 |cons {p t:T} {k:Nat} {ps ts:List T} {ks:List Nat}:(r p t).length≤k→r8 r ps ts ks→r8 r (p::ps) (t::ts) (k::ks)
theorem oW {r : rZ} {ps ts : List T} {ks : List Nat} (h : r8 r ps ts ks) : ∀ f : List aQ, (fF r ps ts f).length ≤ f.length * ks.foldr (· * ·) 1 := by
  induction h with
  | nil ts => intro f; have e : fF r [] ts f = f := by induction ts using am <;> rfl
              refine (e ..).symm ▸ ?_; simp
  | cons hk _ ih =>
    intro f;simp only [Ax, eG];refine (gh ..) ▸ ?_;exact aa (ih _) (dK _ (LP hk f))
theorem m5(w:Nat):∀m,∀r∈dM m w,r.Nodup
 |0,r,h=>by refine ae.mp h ..▸?_;exact dP
 |m+1,r,h=>by
  refine aG (List.mem_flatMap.mp h) λq hq h=>?_;refine aG (List.mem_map.mp h) λa ha z1=>?_;obtain rfl:=z1;have hn:=(List.mem_filter.mp ha).2;rw[dw];refine⟨m5 w m q hq,by simp,λx hx y hy e=>?_⟩;rw[ae.mp hy]at e;subst e;simp[hx]at hn
theorem Gz{g:Nat→Nat}{a b:List Nat}(h:a.Perm b):(a.map g).foldr (·*·) 1=(b.map g).foldr (·*·) 1:=by
 induction h with
 |nil=>rfl
 |cons x _ ih=>simp only[aE,eG,ih]
 |swap x y l=>simp only[aE,eG,jW]
 |trans _ _ h1 h2=>exact h1.trans h2
theorem Cg{g:Nat→Nat}{l:List Nat}(h:∀a∈l,1≤g a):1≤(l.map g).foldr (·*·) 1:=by
 induction l with
 |nil=>exact ak _
 |cons a l ih=>exact bG (h a (.head _)) (ih λb hb=>h b (.tail _ hb))
theorem Ch{g:Nat→Nat}:∀(l M:List Nat),l.Nodup→(∀a∈l,a∈M)→(∀a∈M,1≤g a)→(l.map g).foldr (·*·) 1≤(M.map g).foldr (·*·) 1
 | [],M,_,_,h=>Cg h
 |a::l,M,hn,hs,h=>by
  have hn':=bK.mp hn;refine Gz (List.perm_cons_erase (hs a (.head _))) ..▸?_;simp only[aE,eG];refine eN _ (Ch l (M.erase a) hn'.2 (λb hb=>?_) λb hb=>h b (List.mem_of_mem_erase hb));exact(Fh (λ(e:b=a)=>hn'.1 (by refine(e ..)▸?_;exact hb))).mpr (hs b (.tail _ hb))
theorem vf{α β:Type}{f:α→List β}{k:Nat}:∀ {l:List α},(∀a∈l,(f a).length≤k)→(l.flatMap f).length≤l.length*k
 | [],_=>by simp
 |a::l,h=>by
  refine co ..▸aj ..▸aP ..▸nY ..▸?_;exact nw [_,_,_,_] (.d yA yB (.d yC yD .n)) (.a yA yC) (.a yD (.m 1 yB)) rfl (h a (.head _)) (vf (f:=f) (l:=l) λb hb=>h b (.tail _ hb))
noncomputable def QR(t:T):Prop:=MO t∧t.lf≤9
theorem r8.take{r:rZ}{ps ts:List T}{ks:List Nat}(h:r8 r ps ts ks):∀j,r8 r (ps.take j) (ts.take j) (ks.take j):=by
 induction h with
 |nil ts=>intro j;refine(kJ ..).symm▸(kJ ..).symm▸?_;exact .nil _
 |cons hk _ ih=>
  intro j
  induction j using cZ with
  |zero=>exact .nil _
  |succ j=>exact .cons hk (ih j)
theorem xw{r:rZ}{b:T→Nat}:∀ {A X:List T},A.length=X.length→(∀p∈A,∀t∈X,(r p t).length≤b t)→r8 r A X (X.map b)
 | [],[],_,_=>.nil _
 |p::A,t::X,h,hr=>.cons (hr p (.head _) t (.head _)) (xw (by simpa using h) λq hq u hu=>hr q (.tail _ hq) u (.tail _ hu))
 | [],_::_,h,_=>by simp at h
 |_::_,[],h,_=>by simp at h
theorem r8.snoc{r:rZ}{p t:T}{k:Nat}(hk:(r p t).length≤k):∀ {A X:List T} {ks:List Nat},r8 r A X ks→A.length=X.length→r8 r (A++ [p]) (X++ [t]) (ks++ [k]):=λH=>by
 induction H with
 |nil X=>exact λh=>(List.length_eq_zero_iff.mp h.symm).symm▸.cons hk (.nil _)
 |cons h1 h2 ih=>exact λh=>.cons h1 (ih (gA.inj h))
theorem y8:∀ks:List Nat,(ks++ [1]).foldr (·*·) 1=ks.foldr (·*·) 1
 | []=>rfl
 |a::ks=>by exact ck ..▸eG ..▸eG ..▸y8 ks ..▸rfl
theorem uB:∀(ks:List Nat)(j:Nat),(∀k∈ks,1≤k)→(ks.take j).foldr (·*·) 1≤ks.foldr (·*·) 1
 | [],j,_=>by refine(kJ ..).symm▸?_;exact ak _
 |a::ks,0,h=>by
  simpa using(Cg (g:=id) (l:=a::ks) h)
 |a::ks,j+1,h=>eN _ (uB ks j λk hk=>h k (.tail _ hk))
theorem y9(g:Nat→Nat):∀ts:List T,rr (ts.map T.lf)=(ts.map λt=>ef t.lf).foldr (·*·) 1
 | []=>rfl
 |t::ts=>by rw[aE,NN.2,y9 g ts];rfl
theorem oX(ts:List T):(bF ts.length).map (λa=>ts.getD a (.num 0))=ts:=by
 apply List.ext_getElem
 ·simp
 ·intro i h1 h2;simp at h1;simp[h1]
theorem xx{ps:List T}(h:(ps.filter T.blank).isEmpty=false):∃A p,aU ps=A++ [p]∧p.blank=true:=by
 have hne:ps.filter T.blank≠ []:=by intro e;rw[e]at h;exact m7 h
 refine kS (ps.filter (λp=>!p.blank)++(ps.filter T.blank).dropLast) ((ps.filter T.blank).getLast hne) ?_ ((List.mem_filter.mp (List.getLast_mem hne)).2);refine aw ..▸xY ..▸?_;rfl
theorem EZ{r:rZ}{s:Bool}{ps ts:List T}{row:List Nat}(hr:∀p∈ps,∀t∈ts,(r p t).length≤ef t.lf)(hb:∀p t,p.blank=true→(r p t).length≤1)(hrow:row∈dM (d9 ps) ts.length)(hl:∀t∈ts,1≤ef t.lf)(j:Nat):
  (fF r ((aU ps).take j) ((gg s ps ts row).take j) [[]]).length≤rr (ts.map T.lf):=by
 have hlt:=l8 _ _ row hrow;have hlen:=i9 _ _ row hrow;have hm:∀a∈row,ts.getD a (.num 0)∈ts:=λa ha=>by
  refine List.getD_eq_getElem?_getD ..▸List.getElem?_eq_getElem (hlt a ha) ..▸?_;exact we _
 have hK:(row.map λa=>ef (ts.getD a (.num 0)).lf).foldr (·*·) 1≤rr (ts.map T.lf):=by
  refine(y9 id ..).symm▸(oX ts ..)▸(bZ ..).symm▸(oX ts ..).symm▸?_;refine Ch row _ (m5 _ _ row hrow) (λa ha=>List.mem_range.mpr (hlt a ha)) λa ha=>?_;refine hl _ ?_;refine List.getD_eq_getElem?_getD ..▸List.getElem?_eq_getElem (List.mem_range.mp ha) ..▸?_;exact we _
 have hk1:∀k∈row.map λa=>ef (ts.getD a (.num 0)).lf,1≤k:=λk hk=>by
  refine aG (List.mem_map.mp hk) λa ha z1=>?_;obtain rfl:=z1;exact hl _ (hm a ha)
 have fin {ks:List Nat} (B:r8 r (aU ps) (gg s ps ts row) ks) (h1:∀k∈ks,1≤k) (h2:ks.foldr (·*·) 1≤rr (ts.map T.lf)):(fF r ((aU ps).take j) ((gg s ps ts row).take j) [[]]).length≤rr (ts.map T.lf):=by
  have:=oW (B.take j) [[]];simp only[fm,nZ]at this;exact nw [_,_,_,_] (.d yA yB (.d yC yA (.d yD yC .n))) yD yB rfl h2 (uB ks j h1) this
 unfold d9 at hlen
 induction h:(ps.filter T.blank).isEmpty with
 |true=>
  have e:gg s ps ts row=row.map λa=>ts.getD a (.num 0):=by unfold gg;refine h ..▸?_;simp
  rw[h,if_pos rfl]at hlen;refine fin (ks:=row.map λa=>ef (ts.getD a (.num 0)).lf) ?_ hk1 hK;refine e ..▸?_;have:=xw (r:=r) (b:=λt=>ef t.lf) (A:=aU ps) (X:=row.map λa=>ts.getD a (.num 0)) (by simp[hlen]) λp hp t ht=>by
   refine aG (List.mem_map.mp ht) λa ha z2=>?_;obtain rfl:=z2;exact hr p (gz hp) _ (hm a ha)
  rw[bZ]at this;exact this
 |false=>
  have e:gg s ps ts row=(row.map λa=>ts.getD a (.num 0))++ [pn s (eT ts row)]:=by unfold gg;refine h ..▸?_;simp
  rw[h,if_neg (by simp)]at hlen;refine ff (xx h) λA p eA hp=>?_;rw[eA]at hlen;simp only[aj,fm,Nat.add_sub_cancel]at hlen;refine fin (ks:=(row.map λa=>ef (ts.getD a (.num 0)).lf)++ [1]) ?_ ?_ (by refine(y8 ..).symm▸?_;exact hK)
  ·refine e ..▸eA ..▸?_;have:=xw (r:=r) (b:=λt=>ef t.lf) (A:=A) (X:=row.map λa=>ts.getD a (.num 0)) (by simp[hlen]) λp hp t ht=>by
    refine aG (List.mem_map.mp ht) λa ha z3=>?_;obtain rfl:=z3;exact hr p (gz (by refine eA ..▸?_;exact cm _ hp)) _ (hm a ha)
   rw[bZ]at this;exact this.snoc (hb p _ hp) (by simp[hlen])
  ·intro k hk;refine(List.mem_append.mp hk).elim (λhk=>?_) λhk=>?_
   ·exact hk1 k hk
   ·refine ae.mp hk ..▸?_;exact ak _
theorem r9{r:rZ}{s:Bool}{ps ts:List T}(hr:∀p∈ps,∀t∈ts,(r p t).length≤ef t.lf)(hb:∀p t,p.blank=true→(r p t).length≤1)(h1:∀t∈ts,1≤t.lf)(h2:2≤ts.length)(h4:ts.length≤4)(hp:ps.length≤4)(hl:eD ts≤9):(gX r s ps ts).length≤ef (eD ts)∧rr (ts.map T.lf)≤ef (eD ts):=by
 have hls:(ts.map T.lf).sum=eD ts:=(mO ts).symm;have q:=Gy (ls:=ts.map T.lf) (by simpa using h2) (by simpa using h4) (λl hl=>by refine aG (List.mem_map.mp hl) λt ht z4=>?_;obtain rfl:=z4;exact h1 t ht) (by refine hls ..▸?_;exact hl);rw[hls,aN]at q;have hf:1≤MC ts.length:=by
  exact(by decide:∀w,w<5→1≤MC w) _ (nw [_] (.d yA (.k 4) .n) (.s yA) (.k 5) rfl h4)
 refine⟨?_,(aa (eW _ hf) q:rr (ts.map T.lf)≤ef (eD ts))⟩;have hbl:=iV ps;have hN:d9 ps<5:=by unfold d9;split<;>omega
 refine aa (vf (k:=rr (ts.map T.lf)) λrow hrow=>?_) (aa (dK _ (Ce ts.length (nw [_] (.d yA (.k 4) .n) (.s yA) (.k 5) rfl h4) (d9 ps) hN)) q);unfold dh;split
 ·exact a7 _
 ·have:=EZ (s:=s) hr hb hrow (λt ht=>(B3 t.lf (by have:=k7 ht;exact nw [_,_] (.d yA (.k 9) (.d yB yA .n)) (.s yB) (.k 10) rfl hl this) (h1 t ht)).1:∀t∈ts,1≤ef t.lf) (max (aU ps).length (gg s ps ts row).length)
  rwa [CJ (aS _ _),CJ (bQ _ _)]at this
theorem qk(d:Nat)(p t:T)(h:p.blank=true):(dj d p t).length≤1:=by
 induction d using cZ with
 |zero=>exact a7 _
 |succ d=>
  induction p using T.casesOn<;>first|exact dC h|skip
  rw[show dj (d+1) (.sym _) t=_ from if_pos h];exact ak 1
theorem QR.parts{s:Bool}{l:List T}(h:QR (if s then .sum l else .prod l)):(∀t∈l,QR t)∧2≤l.length∧l.length≤4∧eD l≤9∧(∀t∈l,1≤t.lf)∧∀t∈l,t.dp≤7:=by
 induction s with
 |true=>
  refine dE (MO.sumParts h.1) λa b c=>?_;refine kD h.1.cn.2 λfs k _ _ h2 _=>?_;have hl:eD l≤9:=h.2;exact⟨λt ht=>⟨(a t ht).1,aa (k7 ht) hl⟩,h2,b,hl,λt ht=>(cz (a t ht).1.cn).2.1,λt ht=>(a t ht).2⟩
 |false=>
  refine dE (MO.prodParts h.1) λa b c=>?_;refine kD h.1.cn.2 λk fs _ _ h2 _=>?_;have hl:eD l≤9:=h.2;exact⟨λt ht=>⟨(a t ht).1,aa (k7 ht) hl⟩,h2,b,hl,λt ht=>(cz (a t ht).1.cn).2.1,λt ht=>(a t ht).2⟩
theorem lD:∀(d:Nat)(p t:T),MP p→QR t→(dj d p t).length≤ef t.lf
 |0,_,_,_,_=>a7 _
 |d+1,p,t,hp,ht=>by
  have ih:=lD d;have one {t:T} (ht:QR t):1≤ef t.lf:=(B3 t.lf (cS ht.2) (cz ht.1.cn).2.1).1;have ite {t:T} (ht:QR t) (b:Bool):(if b then [([]:aQ)]else []).length≤ef t.lf:=by induction b;exact a7 _;exact one ht
  have hb:=qk d;refine Ca (P:=λp t r=>MP p→QR t→r.length≤ef t.lf) (λ_ _ _ _ ht=>one ht) (λ_ _ _ ht=>ite ht _) (λ_ _ _ _ ht=>ite ht _) (λb i c j hp ht=>?_) (λu v hp ht=>?_) (λps ts hp ht=>?_) (λps ts hp ht=>?_) (λ_ _ _ _=>a7 _) hp ht
  ·have m:=hp.powParts;have q:=ht.1.powParts;have hl':c.lf+1≤9:=ht.2;have:=oW (r:=dj d) (.cons (ih b c m.1 ⟨q.1,aW hl'⟩) (.cons (ih (.num i) (.num j) m.2 ⟨q.2,(by decide:1≤9)⟩) (.nil []))) [[]];rw[fm,eG,eG,List.foldr_nil,show ef (T.num j).lf=1 from rfl,nZ,nZ,n0]at this;exact aa this (LG c.lf hl' (cz q.1.cn).2.1).1
  ·have hl':v.lf+1≤9:=ht.2;have:=oW (r:=dj d) (.cons (ih u v hp.callPart ⟨ht.1.callPart,aW hl'⟩) (.nil [])) [[]];rw[fm,eG,List.foldr_nil,nZ,n0]at this;exact aa this (LG v.lf hl' (cz ht.1.callPart.cn).2.1).1
  ·refine aB hp.sumParts λq1 q2=>?_;refine CK (QR.parts (s:=true) ht) λr1 r2 r3 r4 r5 _=>?_;exact(r9 (s:=true) (λp hp t ht=>ih p t (q1 p hp) (r1 t ht)) hb r5 r2 r3 q2 r4).1
  ·refine aB hp.prodParts λq1 q2=>?_;refine CK (QR.parts (s:=false) ht) λr1 r2 r3 r4 r5 _=>?_;exact(r9 (s:=false) (λp hp t ht=>ih p t (q1 p hp) (r1 t ht)) hb r5 r2 r3 q2 r4).1
noncomputable def KT(s:Bool)(l:List T):T:=if s then .sum l else .prod l
theorem ql(ts:List T)(row:List Nat):(eT ts row).Sublist ts:=by
 have:=(sC (p:=λa=>!row.contains a) (l:=bF ts.length)).map λa=>ts.getD a (.num 0)
 rwa [oX]at this
theorem E5{l:List T}{t:T}(h:l.Sublist [t]):l= []∨l= [t]:=by
 cases h with
 |cons _ h=>exact .inl (List.sublist_nil.mp h)
 |cons_cons _ h=>exact .inr (List.sublist_nil.mp h ..▸rfl)
theorem E6{s:Bool}{ts l:List T}(h:Cn (KT s ts))(hs:l.Sublist ts)(h2:2≤l.length):Cn (KT s l):=by
 induction s with
 |true=>
  refine aB h λhc z2=>?_;refine Kd z2 λfs k z1 q1 q2 q3 q4 q5=>?_;clear h;obtain rfl:=z1;have hl:xU l:=cW.mpr λt ht=>cW.mp hc t (hs.subset ht);refine dS (List.sublist_append_iff.mp hs) λl1 l2 z3 s1 s2=>?_;obtain rfl:=z3;have:∃k',l2=dq k'∧0≤k':=by
   unfold dq at s2;split at s2
   ·exact aV 0 (List.sublist_nil.mp s2) (e8 _)
   ·refine(E5 s2).elim (λe=>?_) λe=>?_
    ·exact aV 0 e (e8 _)
    ·rename_i hk;exact aV k (by unfold dq;refine if_neg hk ..▸?_;exact e) q1
  refine aG this λk' z4 hk'=>?_;clear this;obtain rfl:=z4;exact⟨hl,l1,k',rfl,hk',h2,q3.sublist s1,λt ht=>q4 t (s1.subset ht),q5.sublist (s1.map _)⟩
 |false=>
  refine aB h λhc z6=>?_;refine CL z6 λk fs z5 q1 q2 q3 q4 q5 q6=>?_;clear h;obtain rfl:=z5;have hl:xU l:=cW.mpr λt ht=>cW.mp hc t (hs.subset ht);refine dS (List.sublist_append_iff.mp hs) λl1 l2 z7 s1 s2=>?_;obtain rfl:=z7;have:∃k',l1=eC k'∧1≤k':=by
   unfold eC at s1;split at s1
   ·exact aV 1 (List.sublist_nil.mp s1) (e8 _)
   ·refine(E5 s1).elim (λe=>?_) λe=>?_
    ·exact aV 1 e (e8 _)
    ·rename_i hk;exact aV k (by unfold eC;refine if_neg hk ..▸?_;exact e) q1
  refine aG this λk' z8 hk'=>?_;clear this;obtain rfl:=z8;refine⟨hl,k',l2,rfl,hk',h2,?_,q4.sublist s2,λt ht=>q5 t (s2.subset ht),q6.sublist (s2.map _)⟩
  rintro rfl
  unfold eC at h2;split at h2<;>simp at h2
theorem AA{s:Bool}{ts l:List T}(h:QR (KT s ts))(hs:l.Sublist ts)(hne:l≠ []):QR (pn s l)∧(l.length≠1→pn s l=bw (KT s l)∧bw (KT s l)=KT s l∧MO (KT s l)):=by
 refine CK (QR.parts h) λr1 r2 r3 r4 r5 r6=>?_
 match l,hne with
 | [t],_=>exact⟨r1 t (hs.subset (.head _)),λh=>absurd rfl h⟩
 |a::b::l,_=>
  have hc:=E6 h.1.cn hs (by simp);have e1:pn s (a::b::l)=bw (KT s (a::b::l)):=by induction s<;>rfl
  have e2:=oR hc;have hls:=Aw hs;have hsm:(decide ((a::b::l).length<5)&&iU (a::b::l))=true:=by
   simp only[ay,decide_eq_true_eq];exact⟨by exact nw [_,_] (.d yA (.k 4) (.d yB yA .n)) (.s yB) (.k 5) rfl r3 hs.length_le,jQ.mpr λt ht=>(r1 t (hs.subset ht)).1.small⟩
  have hdp:k6 (a::b::l)≤7:=fL.mpr λt ht=>r6 t (hs.subset ht);have hM:MO (KT s (a::b::l))∧(KT s (a::b::l)).lf≤9:=by
   induction s with
   |true=>exact⟨⟨hc,aa hls.2 h.1.val,(by show eD (a::b::l)≤30;exact aa hls.1 (aa r4 (by decide))),(by show k6 (a::b::l)+2≤9;exact nw [_] (.d yA (.k 7) .n) (.a yA (.k 2)) (.k 9) rfl hdp),hsm⟩,aa hls.1 r4⟩
   |false=>exact⟨⟨hc,aa (BX hs λt ht=>((gW h.1.cn.1).2.2 t ht).1) h.1.val,(by show eD (a::b::l)≤30;exact aa hls.1 (aa r4 (by decide))),(by show k6 (a::b::l)+2≤9;exact nw [_] (.d yA (.k 7) .n) (.a yA (.k 2)) (.k 9) rfl hdp),hsm⟩,aa hls.1 r4⟩
  exact⟨by refine(e1 ..).symm▸(e2 ..).symm▸?_;exact hM,λ_=>⟨e1,e2,hM.1⟩⟩
theorem Ci{r:rZ}{ps ts:List T}{ks:List Nat}(B:r8 r ps ts ks)(h1:∀k∈ks,1≤k)(h2:ks.foldr (·*·) 1≤100000)(j:Nat):(fF r (ps.take j) (ts.take j) [[]]).length≤100000:=by
 have:=oW (B.take j) [[]];simp only[fm,nZ]at this;exact nw [_,_,_] (.d yA (.k 100000) (.d yB yA (.d yC yB .n))) yC (.k 100000) rfl h2 (uB ks j h1) this
theorem xy:∀l,l<10→ef l≤3456:=by decide
theorem GA{P:T→Prop}{n:Nat}{r:rZ}(X:y6 P QR n r){s:Bool}{ps ts:List T}(hp:∀p∈ps,P p)(ht:QR (KT s ts)):∀e∈gX r s ps ts,iK e:=λe he=>by
 refine aG (List.mem_flatMap.mp he) λrow hrow he=>?_;unfold dh at he;split at he
 ·exact cg he
 rename_i hq;refine Ay X (λp hp'=>hp p (gz hp')) (λt ht'=>?_) (λe he=>by refine ae.mp he ..▸?_;exact .nil) e he;unfold gg at ht';refine(List.mem_append.mp ht').elim (λh=>?_) λh=>?_
 ·refine aG (List.mem_map.mp h) λa ha z9=>?_;obtain rfl:=z9;have e:ts[a]?=some (ts.getD a (.num 0)):=by refine List.getD_eq_getElem?_getD ..▸List.getElem?_eq_getElem (l8 _ _ row hrow a ha) ..▸?_;rfl
  exact(QR.parts ht).1 _ (List.mem_of_getElem? e)
 ·split at h
  ·exact cg h
  ·rename_i hb;refine ae.mp h ..▸?_;refine(AA ht (ql ts row) λe=>hq ?_).1;refine e ..▸?_
   induction hh:(ps.filter T.blank).isEmpty with
   |true=>exact absurd hh hb
   |false=>rfl
noncomputable def qT(n:Nat)(p t:T)(r:List aQ):Prop:=(∀e∈r,iK e)∧bU n (ofString "_law_readings") [a9 p,a9 t] (cC r)
theorem O5{b:Bool}:∀e∈(if b=true then [([]:aQ)]else []),iK e:=λe h=>by
 induction b with
 |true=>refine ae.mp h ..▸?_;exact .nil
 |false=>exact cg h
theorem O6:∀e∈ [([]:aQ)],iK e:=λe h=>by refine ae.mp h ..▸?_;exact .nil
section
variable {n:Nat}
theorem Cj(hn:1≤n){x:Nm}{t:T}(hb:x.blank=true)(hd:t.dp≤64):qT n (.sym x) t [[(x,t)]]:=by
 refine⟨λe he=>?_,?_⟩
 ·refine ae.mp he ..▸?_;exact iK.nil.more (e:= []) rfl hd
 ·induction x using Nm.casesOn<;>first|exact nsN hb|exact dC hb|cases hb|skip
  ·exact aT (pos hn) bj [] (by kernel_rfl)
  ·exact aT (pos hn) bj [] (by kernel_rfl)
  ·exact aT (pos hn) bj [] (by kernel_rfl)
theorem Jz(hn:1≤n){p t:T}(hb:p.blank=false)(hk:(p.kind==t.kind)=false):qT n p t []:=by
 refine⟨λe he=>(cg he),?_⟩;have k:=(EU p t).trans (so (nt hk))
 induction p using T.casesOn with
 |num i=>exact aT (pos hn) bj [(4,F.d (dO t)),(0,bx (k))] (by kernel_rfl)
 |sym x=>
  induction x using Nm.casesOn<;>first|exact nsN hb|exact dC hb|cases hb|skip
  ·exact aT (pos hn) bj [(8,F.d (dO t)),(0,bx (k))] (by kernel_rfl)
  ·exact aT (pos hn) bj [(8,F.d (dO t)),(0,bx (k))] (by kernel_rfl)
  ·exact aT (pos hn) bj [(8,F.d (dO t)),(0,bx (k))] (by kernel_rfl)
 |sum l=>exact aT (pos hn) bj [(4,F.d (dO t)),(0,bx (k))] (by kernel_rfl)
 |prod l=>exact aT (pos hn) bj [(4,F.d (dO t)),(0,bx (k))] (by kernel_rfl)
 |pow b i=>exact aT (pos hn) bj [(4,F.d (dO t)),(0,bx (k))] (by kernel_rfl)
 |call u=>exact aT (pos hn) bj [(4,F.d (dO t)),(0,bx (k))] (by kernel_rfl)
theorem GB(hn:1≤n)(i j:Int):qT n (.num i) (.num j) (if i==j then [[]]else []):=by
 refine⟨O5,?_⟩
 induction q:(i==j)with
 |true=>exact aT (pos hn) bj [(13,bx ((en i j).trans (so q)))] (by kernel_rfl)
 |false=>exact aT (pos hn) bj [(13,bx ((en i j).trans (so q)))] (by kernel_rfl)
theorem GC(hn:1≤n)(x y:Nm)(hb:x.blank=false):qT n (.sym x) (.sym y) (if x==y then [[]]else []):=by
 refine⟨O5,?_⟩;have c:=oM (s:=.sym x) (t:=.sym y) (show 1≤64 by decide) (show 1≤64 by decide);rw[EW]at c
 induction q:(x==y)with
 |true=>
  have c:=c.trans (so q)
  induction x using Nm.casesOn<;>first|exact nsN hb|exact dC hb|cases hb|skip
  ·exact aT (pos hn) bj [(17,bx (c))] (by kernel_rfl)
  ·exact aT (pos hn) bj [(17,bx (c))] (by kernel_rfl)
  ·exact aT (pos hn) bj [(17,bx (c))] (by kernel_rfl)
 |false=>
  have c:=c.trans (so q)
  induction x using Nm.casesOn<;>first|exact nsN hb|exact dC hb|cases hb|skip
  ·exact aT (pos hn) bj [(17,bx (c))] (by kernel_rfl)
  ·exact aT (pos hn) bj [(17,bx (c))] (by kernel_rfl)
  ·exact aT (pos hn) bj [(17,bx (c))] (by kernel_rfl)
theorem GD(hn:1≤n){b c:T}{i j:Int}{r:List aQ}(h:bU (n-1) (ofString "_law_rows") [.tuple [a9 b,dl i],.tuple [a9 c,dl j]] (cC r)):bU n (ofString "_law_readings") [a9 (.pow b i),a9 (.pow c j)] (cC r):=by
 exact aT (pos hn) bj [(13,ar (h))] (by kernel_rfl)
theorem DV(hn:1≤n){u v:T}{r:List aQ}(h:bU (n-1) (ofString "_law_rows") [.tuple [a9 u],.tuple [a9 v]] (cC r)):bU n (ofString "_law_readings") [a9 (.call u),a9 (.call v)] (cC r):=by
 exact aT (pos hn) bj [(19,ar (h))] (by kernel_rfl)
theorem NO(s:Bool)(l:List T):a9 (KT s l)=.tuple [.str (sk s),.tuple (aL l)]:=by induction s<;>rfl
theorem AB(hn:1≤n){s:Bool}{ps ts:List T}{r:List aQ}(h:bU (n-1) (ofString "_law_parted") [.str (sk s),.tuple [.str (sk s),.tuple (aL ps)],.tuple [.str (sk s),.tuple (aL ts)]] (cC r)):bU n (ofString "_law_readings") [a9 (KT s ps),a9 (KT s ts)] (cC r):=by
 induction s with
 |true=>exact aT (pos hn) bj [(9,ar (h))] (by kernel_rfl)
 |false=>exact aT (pos hn) bj [(9,ar (h))] (by kernel_rfl)
end
theorem JA{r:rZ}{p t:T}(h1:p.blank=false)(h2:(p.kind==t.kind)=false):nP r p t= []:=by
 rw[ET]at h2;refine(if_neg (h1▸aR)).trans ?_
 induction p using T.casesOn<;>induction t using T.casesOn<;>first|rfl|exact m7 h2
theorem tI:∀(d n:Nat),48+3*d≤n→y6 (GY d) QR n (dj d):=by
 intro d
 induction d with
 |zero=>intro n hn p t hp;exact absurd hp.2 (fT _)
 |succ d ih=>
  intro n hn p t hp ht;obtain⟨hp,hrd⟩:=hp;have hn3:48+3*d≤n-3:=lm hn;have h48:48≤n-3:=aa (ao _ _) hn3;have X1:=ih (n-3) hn3;have X2:=ih (n-2) (aa hn3 (mf (by decide) n));have h1:1≤n:=aa (aa (by decide) h48) (dH n 3);have h2:2≤n-1:=aa (aa (by decide) h48) (mf (by decide) n);show qT n p t (nP (dj d) p t)
  induction hb:p.blank with
  |true=>
   induction p using T.casesOn<;>first|exact nsN hb|exact dC hb|cases hb|skip
   rename_i x;refine(show nP (dj d) (.sym x) t= [[(x,t)]]from if_pos hb).symm▸?_;exact Cj h1 hb (aa ht.1.dp (by decide):t.dp≤64)
  |false=>
   induction hk:(p.kind==t.kind)with
   |false=>
    rw[JA hb hk];exact Jz h1 hb hk
   |true=>
    rw[ET]at hk;have parted:∀(s:Bool)(ps ts:List T),(∀p∈ps,MP p)→ps.length≤4→1≤ps.length→xm ps<d→k6 ps+2≤64→QR (KT s ts)→qT n (KT s ps) (KT s ts) (gX (dj d) s ps ts):=λs ps ts q1 q2 q3 q4 q5 ht'=>by
     refine CK (QR.parts ht') λr1 r2 r3 r4 r5 r6=>?_;have hP:∀p∈ps,GY d p:=λq hq=>⟨q1 q hq,ba (iT.mp (ak _) q hq) q4⟩
     refine aB (r9 (r:=dj d) (s:=s) (ps:=ps) (λp hp t ht=>lD d p t (q1 p hp) (r1 t ht)) (qk d) r5 r2 r3 q2 r4) λL1 L2=>?_;have hm:=xy (eD ts) (cS r4);refine⟨GA X1 hP ht',AB h1 (vB (n:=n-1) h2 (λp hp=>aa (fL.mp (ak _) p hp) (aa (aX (aX q5)) (by decide:62≤63))) q3 q2 r3 (λrow hrow=>?_) (aa L1 (aa hm (by decide))))⟩;have lt:=l8 _ _ row hrow;have lrow:=i9 _ _ row hrow;have hq:∀t∈row.map (λa=>ts.getD a (.num 0)),QR t:=λt h=>by
      refine aG (List.mem_map.mp h) λa ha z10=>?_;obtain rfl:=z10;exact r1 _ (Jw (lt a ha))
     refine⟨lt,λhe=>?_,λg1 g2=>?_,aa (by rw[lrow];unfold d9;split<;>first|exact ak _|exact dH _ _) (by rw[iV];exact aa q2 (by decide))⟩
     ·refine oV (P:=GY d) (Q:=QR) (n:=n-1-1) (r:=dj d) (show 2≤n-2 from aa (aa (by decide) h48) (mf (by decide) n)) X1 true (ps:=aU ps) (λp hp=>hP p (gz hp)) ?_ ?_ (by refine(iV ..).symm▸?_;exact aa q2 (by decide)) (λj=>by have:=(λj=>EZ (r:=dj d) (s:=s) (λp hp t ht=>lD d p t (q1 p hp) (r1 t ht)) (qk d) hrow (λt ht=>(B3 t.lf (cS (r1 t ht).2) (r5 t ht)).1) j) j;exact nw [_,_,_] (.d yA yB (.d yB (.k 3456) (.d yC yA .n))) yC (.k 100000) rfl L2 hm this)
      ·intro t h;unfold gg at h;refine(List.mem_append.mp h).elim (λh=>?_) λh=>?_
       ·exact hq t h
       ·split at h
        ·exact cg h
        ·rename_i hb;refine ae.mp h ..▸?_;refine(AA ht' (ql ts row) λe=>?_).1;rw[e]at he;exact hb he.symm
      ·unfold gg;rw[aj,aN,lrow];unfold d9
       induction hbl:(ps.filter T.blank).isEmpty with
       |true=>rfl
       |false=>
        have:1≤(aU ps).length:=by refine(iV ..).symm▸?_;exact q3
        exact(az this).symm
     ·refine dE ((AA ht' (ql ts row) g2).2 g1) λb1 b2 b3=>?_;rw[b1,←NO];exact eJ 8 _ (KT s (eT ts row)) (BS b3.cn b3.val b3.lf b3.dp) (nw [_,_] (.d yA (.k 9) (.d (.s yB) yA .n)) yB (.k 8) rfl b3.dp (BR (KT s (eT ts row)))) (nw [_,_,_,_] (.d (.a (.k 48) (.m 3 (.s yA))) yB (.d yB (.s yC) (.d yC (.s yD) .n))) (.a (.k 33) (.k 8)) yD rfl hn (a6 _ _) (a6 _ _))
    induction p using T.casesOn with
    |num i=>
     induction t using T.casesOn<;>first|exact nsN hk|exact dC hk|(cases hk;done)|skip
     rename_i j;exact GB h1 i j
    |sym x=>
     induction t using T.casesOn<;>first|exact nsN hk|exact dC hk|(cases hk;done)|skip
     rename_i y;rw[show nP (dj d) (.sym x) (.sym y)=if x==y then [[]]else []from if_neg (hb▸aR)];exact GC h1 x y hb
    |pow b i=>
     induction t using T.casesOn<;>first|exact nsN hk|exact dC hk|(cases hk;done)|skip
     rename_i c j;simp only[cY]at hrd;refine aB hp.powParts λm1 m2=>?_;refine aB ht.1.powParts λm3 m4=>?_;have hl':c.lf≤8:=aX ht.2;have q1:QR c:=⟨m3,dQ hl'⟩
     have q2:QR (.num j):=⟨m4,(by decide:1≤9)⟩
     have hP:∀p∈ [b,.num i],GY d p:=λp h=>(aA.mp h).elim (λe=>e▸(⟨m1,by exact aX hrd⟩:GY d b)) λh=>ae.mp h▸(⟨m2,by simp only[cY];exact nw [_,_] (.d (.s (.s yA)) (.s yB) .n) (.s (.k 0)) yB rfl hrd⟩:GY d (.num i));have hQ:∀t∈ [c,.num j],QR t:=λp h=>(aA.mp h).elim (λe=>e▸q1) λh=>ae.mp h▸q2;exact⟨Ay X1 hP hQ O6,GD h1 (oV (n:=n-1) h2 X2 false (ps:= [b,.num i]) (ts:= [c,.num j]) hP hQ rfl (by decide:2≤10) (Ci (.cons (lD d b c m1 q1) (.cons (lD d (.num i) (.num j) m2 q2) (.nil [])):r8 (dj d) [b,.num i] [c,.num j] [ef c.lf,1]) (λk h=>(aA.mp h).elim (λe=>e▸((B3 c.lf (nw [_] (.d yA (.k 8) .n) (.s yA) (.k 10) rfl hl') (cz m3.cn).2.1).1)) λh=>ae.mp h▸ak 1) (by show ef c.lf*1≤100000;exact nw [_] (.d yA (.k 3456) .n) (.w 1 yA) (.k 100000) rfl (xy c.lf (nw [_] (.d yA (.k 8) .n) (.s yA) (.k 10) rfl hl')))))⟩
    |call u=>
     induction t using T.casesOn<;>first|exact nsN hk|exact dC hk|(cases hk;done)|skip
     rename_i v;have hl':v.lf≤8:=aX ht.2;have q1:QR v:=⟨ht.1.callPart,dQ hl'⟩
     have p1:GY d u:=⟨hp.callPart,cp hrd⟩
     have hP:∀p∈ [u],GY d p:=λp h=>ae.mp h▸p1;have hQ:∀t∈ [v],QR t:=λp h=>ae.mp h▸q1;exact⟨Ay X1 hP hQ O6,DV h1 (oV (n:=n-1) h2 X2 false (ps:= [u]) (ts:= [v]) hP hQ rfl (by decide:1≤10) (Ci (.cons (lD d u v p1.1 q1) (.nil []):r8 (dj d) [u] [v] [ef v.lf]) (λk h=>ae.mp h▸((B3 v.lf (nw [_] (.d yA (.k 8) .n) (.s yA) (.k 10) rfl hl') (cz ht.1.callPart.cn).2.1).1)) (by show ef v.lf*1≤100000;exact nw [_] (.d yA (.k 3456) .n) (.w 1 yA) (.k 100000) rfl (xy v.lf (nw [_] (.d yA (.k 8) .n) (.s yA) (.k 10) rfl hl')))))⟩
    |sum ps=>
     induction t using T.casesOn<;>first|exact nsN hk|exact dC hk|(cases hk;done)|skip
     rename_i ts;refine aB hp.sumParts λq1 q2=>?_;refine aB hp.cn λ_ z11=>?_;refine kD z11 λfs k _ _ h3 _=>?_;exact parted true ps ts q1 q2 (aa (by decide) h3) (cp hrd) hp.dp ht
    |prod ps=>
     induction t using T.casesOn<;>first|exact nsN hk|exact dC hk|(cases hk;done)|skip
     rename_i ts;refine aB hp.prodParts λq1 q2=>?_;refine aB hp.cn λ_ z12=>?_;refine kD z12 λk fs _ _ h3 _=>?_;exact parted false ps ts q1 q2 (aa (by decide) h3) (cp hrd) hp.dp ht
inductive J6:List T→List T→Prop
 |nil:J6 [] []
 |cons {a b:T} {l m:List T}:(b=a∨∃x,b=.sym x)→J6 l m→J6 (a::l) (b::m)
inductive OP:T→T→Prop
 |sum {l m:List T}:J6 l m→OP (.sum l) (.sum m)
 |prod {l m:List T}:J6 l m→OP (.prod l) (.prod m)
 |call {t u:T}:OP t u→OP (.call t) (.call u)
 |same (t:T):OP t t
 |blank (t:T):OP t (.sym .a_)
section
variable {n:Nat}
noncomputable def N2(t:T)(b:B6)(m:List T)(x:Option B):St:=⟨[(ofString "box",some (.l 1)),(ofString "term",some (.v (a9 t))),(ofString "parts",some (.l 2)),(ofString "part",x)],iq b++ [some (AQ m)]⟩
theorem NP{v:Int}(h0:0≤v)(h:v<3):v=0∨v=1∨v=2:=by omega
theorem E7{t:T}(hn:1≤n):∀(us m:List T)(b:B6)(x:Option B),gk b→m.length+us.length≤30→
  ∃m' b' x',J6 us m'∧gk b'∧fO (Call n) (ofString "_law_opened") (bY 92) [0,1] (aL us) (N2 t b m x) .next (N2 t b' (m++m') x'):=by
 intro us
 induction us with
 |nil=>exact λm b x hb _=>CM ([]) b x .nil hb (by refine aF ..▸?_;exact⟨rfl,rfl⟩)
 |cons a us ih=>
  intro m b x hb hl;have ft:=vN (fs:=m) rfl (aa (ao _ _) (aa hl (by decide)));have step:∀(v:T)(b1:B6),(v=a∨∃y,v=.sym y)→gk b1→(wO (Call n) (ofString "_law_opened") (bY 92) [0,1] (a9 a) (N2 t b m x)).sat (·=.f .next (N2 t b1 (m++ [v]) (some (.v (a9 a)))))→
    ∃m' b' x',J6 (a::us) m'∧gk b'∧fO (Call n) (ofString "_law_opened") (bY 92) [0,1] (aL (a::us)) (N2 t b m x) .next (N2 t b' (m++m') x'):=λv b1 hv hb1 h=>by
   refine xZ (ih (m++ [v]) b1 (some (.v (a9 a))) hb1 (by refine(aj ..).symm▸(bz ..).symm▸(fV [v].length ..).symm▸?_;exact hl)) λm' b' x' o hb' r=>?_;rw[aw]at r;exact CM (v::m') b' x' (.cons hv o) hb' (.next h r)
  refine dS (gJ hn (w:=2) (by decide) b hb) λ_ b1 z1 hb1 r1=>?_;refine eo z1 λv z1 v0 v2=>?_;obtain rfl:=z1;rcases m0 v0 v2 with rfl|rfl
  ·refine dS (gJ hn (w:=3) (by decide) b1 hb1) λ_ b2 z2 hb2 r2=>?_;refine eo z2 λw z2 w0 w3=>?_;obtain rfl:=z2;rcases NP w0 w3 with rfl|rfl|rfl
   ·refine step (.sym .a_) b2 (.inr ⟨_,rfl⟩) hb2 ?_;exact le [(1,F.call (r1)),(2,F.call (r2)),(2,F.b (ft)),(0,F.cl (congrArg bE.lst (fP m (.sym .a_))))] (by kernel_rfl)
   ·refine step (.sym .b_) b2 (.inr ⟨_,rfl⟩) hb2 ?_;exact le [(1,F.call (r1)),(2,F.call (r2)),(2,F.b (ft)),(0,F.cl (congrArg bE.lst (fP m (.sym .b_))))] (by kernel_rfl)
   ·refine step (.sym .c_) b2 (.inr ⟨_,rfl⟩) hb2 ?_;exact le [(1,F.call (r1)),(2,F.call (r2)),(2,F.b (ft)),(0,F.cl (congrArg bE.lst (fP m (.sym .c_))))] (by kernel_rfl)
  ·refine step a b1 (.inl rfl) hb1 ?_;exact le [(1,F.call (r1)),(3,F.b (ft)),(0,F.cl (congrArg bE.lst (fP m a)))] (by kernel_rfl)
theorem DW:∀(k n:Nat)(t:T),t.rd<k→k+1≤n→t.lf≤30→Cn t→Draws n (ofString "_law_opened") [a9 t] λx=>∃u,x=a9 u∧OP t u:=by
 intro k
 induction k with
 |zero=>exact λn t hk=>absurd hk (fT _)
 |succ k ih=>
  intro n t hk hn hl hc b hb;have h1:1≤n-1:=bI (dc (Nat.succ_lt_succ (qr k)) hn);have ih:=ih (n-1);have hn':k+1≤n-1:=bI hn;have hn:1≤n:=aa (bh (a7 _)) hn;have fin:∀ {t u:T} {b':B6},OP t u→gk b'→Call n (ofString "_law_opened") [.l 1,.v (a9 t)] (iq b) (.c (.v (a9 u)) (iq b'))→∃x b',(∃u,x=a9 u∧OP t u)∧gk b'∧Call n (ofString "_law_opened") [.l 1,.v (a9 t)] (iq b) (.c (.v x) (iq b')):=λho hb h=>⟨_,_,(aV _ rfl ho),hb,h⟩
  refine dS (gJ h1 (w:=2) (by decide) b hb) λ_ b1 z3 hb1 r1=>?_;refine eo z3 λv z3 v0 v2=>?_;obtain rfl:=z3
  induction t using T.casesOn with
  |num i=>
   rcases m0 v0 v2 with rfl|rfl
   ·refine fin (.blank _) hb1 ?_;exact br (pos hn) eI [(6,F.call (r1))] (by kernel_rfl)
   ·refine fin (.same _) hb1 ?_;exact br (pos hn) eI [(6,F.call (r1))] (by kernel_rfl)
  |sym i=>
   rcases m0 v0 v2 with rfl|rfl
   ·refine fin (.blank _) hb1 ?_;exact br (pos hn) eI [(6,F.call (r1))] (by kernel_rfl)
   ·refine fin (.same _) hb1 ?_;exact br (pos hn) eI [(6,F.call (r1))] (by kernel_rfl)
  |pow c i=>
   rcases m0 v0 v2 with rfl|rfl
   ·refine fin (.blank _) hb1 ?_;exact br (pos hn) eI [(6,F.call (r1))] (by kernel_rfl)
   ·refine fin (.same _) hb1 ?_;exact br (pos hn) eI [(6,F.call (r1))] (by kernel_rfl)
  |call u=>
   refine dS (ih u (cp hk) hn' (aW hl) hc b hb) λ_ b1 z4 hb1 r=>?_;refine aG z4 λv z4 ho=>?_;obtain rfl:=z4;refine fin (.call ho) hb1 ?_;exact br (pos hn) eI [(9,F.call (r))] (by kernel_rfl)
  |sum l=>
   refine xZ (E7 (n:=n-1) (t:=.sum l) h1 l [] b none hb (by refine ch ..▸ce ..▸?_;exact aa (gW hc.1).2.1 hl)) λm b1 x1 ho hb1 r=>?_;refine fin (.sum ho) hb1 ?_;exact br (pos hn) eI [(6,F.loop (r)),(2,F.d (f9 m))] (by kernel_rfl)
  |prod l=>
   refine xZ (E7 (n:=n-1) (t:=.prod l) h1 l [] b none hb (by refine ch ..▸ce ..▸?_;exact aa (gW hc.1).2.1 hl)) λm b1 x1 ho hb1 r=>?_;refine fin (.prod ho) hb1 ?_;exact br (pos hn) eI [(6,F.loop (r)),(2,F.d (f9 m))] (by kernel_rfl)
end
theorem E8{l:List T}(h:xU l)(hne:l≠ []):1≤k6 l:=by
 match l,hne with
 |a::_,_=>have:=oL a;simp only[pH];exact aa this (aS _ _)
theorem O7:∀ {t:T},Cn t→3*t.rd≤2*(t.dp-1)+1∧(er t=true∨t.isProd=true∨t.isNum=true→3*t.rd≤2*(t.dp-1)):=by
 have key:∀k,∀t:T,t.dp≤k→Cn t→3*t.rd≤2*(t.dp-1)+1∧(er t=true∨t.isProd=true∨t.isNum=true→3*t.rd≤2*(t.dp-1)):=λk=>by
  induction k with
  |zero=>intro t h;have:=oL t;omega
  |succ k ih=>
   intro t h hc;have lst (l:List T) (hl:k6 l+2≤k+1) (hc:xU l):3*xm l≤2*(k6 l-1)+1:=by
    have:xm l≤(2*(k6 l-1)+1)/3:=iT.mpr λt ht=>by
     have h1:=fL.mp (ak (k6 l)) t ht;have:=(ih t (nw [_,_,_] (.d (.a yA (.k 2)) (.s yB) (.d yC yA .n)) yC yB rfl hl h1) (cW.mp hc t ht)).1;exact(ms _ _).elim (λq0=>nk [_,_,_,_] (.d (.m 3 yA) (.s (.m 2 yB)) (.c 2 yB yC (.c 2 (.s yC) (.k 1) .n))) 3 yA yD rfl this (dH _ _) q0) (λq0=>nk [_,_,_,_,_,_] (.c 2 yA yB (.d (.m 3 yC) (.s (.m 2 yD)) (.d (.s (.s (.m 2 yE))) (.a (.w 3 yF) (.k 3)) (.c 2 yB (.s yE) (.c 2 (.s yD) yA .n))))) 3 yC yF rfl h1 this (gR (by decide)) (a6 _ _) (ah (az q0)))
    exact nw [_,_,_] (.c 3 yA yB (.d (.w 3 yB) (.s (.m 2 yC)) .n)) (.m 3 yA) (.s (.m 2 yC)) rfl this (bV _ _)
   induction t using T.casesOn with
   |num i=>simp[cY,cA]
   |sym x=>simp[cY,cA]
   |sum l=>
    have:=lst l h hc.1;have:=E8 hc.1 (by rintro rfl;refine aB hc λ_ z1=>?_;refine kD z1 λfs k _ _ h2 _=>?_;clear hc;simp at h2);have h1:3*(xm l+1)≤2*(k6 l+2-1):=by exact nw [_,_,_,_] (.d (.m 3 yA) (.s (.m 2 yB)) (.c 2 (.a yC (.k 2)) (.s yD) (.c 2 (.s yB) yC .n))) (.m 3 (.s yA)) (.m 2 yD) rfl (by assumption) (a6 _ _) (ah (az (this)))
    exact⟨dQ h1,λ_=>h1⟩
   |prod l=>
    have:=lst l h hc.1;have:=E8 hc.1 (by rintro rfl;refine aB hc λ_ z2=>?_;refine kD z2 λk fs _ _ h2 _=>?_;clear hc;simp at h2);have h1:3*(xm l+1)≤2*(k6 l+2-1):=by exact nw [_,_,_,_] (.d (.m 3 yA) (.s (.m 2 yB)) (.c 2 (.a yC (.k 2)) (.s yD) (.c 2 (.s yB) yC .n))) (.m 3 (.s yA)) (.m 2 yD) rfl (by assumption) (a6 _ _) (ah (az (this)))
    exact⟨dQ h1,λ_=>h1⟩
   |pow b i=>
    have:=(ih b (by simp only[cA]at h;exact nw [_,_,_] (.d (.s yA) (.s yB) (.d yC yA .n)) yC yB rfl h (aS _ _)) hc.1).2 (.inl hc.2.1);have:=oL b;simp only[cY,cA,er,T.isProd,T.isNum]at*;exact⟨by exact nw [_,_,_,_,_] (.d (.m 3 yA) (.m 2 yB) (.c 2 yC yD (.c 2 (.s yD) (.s yE) (.c 2 (.s yB) yC .n)))) (.m 3 (.s yA)) (.s (.m 2 yE)) rfl (by assumption) (aS _ _) (a6 _ _) (ah (az (this))),λh=>by simp at h⟩
   |call t=>
    have:=(ih t (by simp only[cA]at h;exact nw [_,_] (.d (.a yA (.k 2)) (.s yB) .n) yA yB rfl h) hc).1;have:=oL t;simp only[cY,cA]at*;exact⟨by exact nw [_,_,_,_] (.d (.m 3 yA) (.s (.m 2 yB)) (.c 2 (.a yC (.k 2)) (.s yD) (.c 2 (.s yB) yC .n))) (.m 3 (.s yA)) (.s (.m 2 yD)) rfl (by assumption) (a6 _ _) (ah (az (this))),λ_=>by exact nw [_,_,_,_] (.d (.m 3 yA) (.s (.m 2 yB)) (.c 2 (.a yC (.k 2)) (.s yD) (.c 2 (.s yB) yC .n))) (.m 3 (.s yA)) (.m 2 yD) rfl (by assumption) (a6 _ _) (ah (az (this)))⟩
 exact λ{t}=>key _ t (ak _)
theorem qU{t:T}{D:Nat}(h:t.dp≤D):∀p∈gu t,p.dp≤D:=λp hp=>nM (ts:= [t]) (λu hu=>by refine ae.mp hu ..▸?_;exact h) p (by simpa[cv]using hp)
theorem GE{ts:List T}(h:∀t∈ts,Cn t){D:Nat}(hD:∀p∈cv ts,p.dp≤D):∀p∈gu (km ts),p.dp≤D+2:=by
 refine Aj ..▸?_;have key (l:List T) (hl:∀t∈l,t.dp≤D+2):∀p∈gu (ph l),p.dp≤D+2:=by
  match l,hl with
  | [],_=>intro p hp;refine ae.mp hp ..▸?_;show 1≤_;exact nw [_] .n (.k 1) (.a yA (.k 2)) rfl
  | [t],hl=>exact qU (hl t (.head _))
  |t::u::r,hl=>exact hl
 refine key _ λt ht=>?_;refine(List.mem_append.mp ht).elim (λht=>?_) λht=>?_
 ·exact(xg h hD) t ((fK _).mem_iff.mp ht)
 ·unfold dq at ht;split at ht
  ·exact cg ht
  ·refine ae.mp ht ..▸?_;show 1≤_;exact nw [_] .n (.k 1) (.a yA (.k 2)) rfl
structure MD (t:T) (v l D F:Nat):Prop where
 rw:Rw t
 val:t.val≤v
 lr:t.lr≤l
 sb:SB t
 dp:(bw t).dp≤D
 fl:∀p∈gu (bw t),p.dp≤F
 rd:t.rd≤2
theorem tJ{t:T}(h:DN t):MD t 3 1 1 1∧t.rd=0:=by
 rcases h with rfl|rfl|⟨x,rfl⟩<;>exact⟨⟨by simp[Qc],by simp[fG],by simp[xO],by simp[Qd],by simp[k8,cA],by simp[k8,gu,cA],by simp[cY]⟩,rfl⟩
theorem AD:∀ {ts:List T},Ge ts↔∀t∈ts,Rw t
 | []=>by simp[Ms]
 |t::r=>by simp[Ms,AD (ts:=r)]
theorem ME{l:List T}{v k:Nat}(h3:l.length≤3)(hv:∀t∈l,t.val≤v∧t.lr≤k)(h1:1≤v):fB l≤3*v∧dA l≤v*(v*v)∧J3 l≤3*k:=by
 rcases l with _|⟨a,_|⟨b,_|⟨c,_|⟨d,l⟩⟩⟩⟩
 ·exact⟨a7 _,by show 1*(1*1)≤_;exact bG h1 (bG h1 h1),a7 _⟩
 ·have ha:=hv a (by simp);refine⟨by simp only[iz];exact nw [_,_] (.d yA yB .n) (.a yA (.k 0)) (.m 3 yB) rfl ha.1,?_,by simp only[EQ];exact nw [_,_] (.d yA yB .n) (.a yA (.k 0)) (.m 3 yB) rfl ha.2⟩;show a.val*1≤_;exact bG ha.1 (by show 1*1≤_;exact bG h1 h1)
 ·have ha:=hv a (by simp);have hb:=hv b (by simp);refine⟨by simp only[iz];exact nw [_,_,_] (.d yA yB (.d yC yB .n)) (.a yA (.a yC (.k 0))) (.m 3 yB) rfl ha.1 hb.1,?_,by simp only[EQ];exact nw [_,_,_] (.d yA yB (.d yC yB .n)) (.a yA (.a yC (.k 0))) (.m 3 yB) rfl ha.2 hb.2⟩;show a.val*(b.val*1)≤_;exact bG ha.1 (bG hb.1 h1)
 ·have ha:=hv a (by simp);have hb:=hv b (by simp);have hc:=hv c (by simp);refine⟨by simp only[iz];exact nw [_,_,_,_] (.d yA yB (.d yC yB (.d yD yB .n))) (.a yA (.a yC (.a yD (.k 0)))) (.m 3 yB) rfl ha.1 hb.1 hc.1,?_,by simp only[EQ];exact nw [_,_,_,_] (.d yA yB (.d yC yB (.d yD yB .n))) (.a yA (.a yC (.a yD (.k 0)))) (.m 3 yB) rfl ha.2 hb.2 hc.2⟩;show a.val*(b.val*(c.val*1))≤_;refine n0 ..▸?_;exact bG ha.1 (bG hb.1 hc.1)
 ·exact absurd h3 (Nat.not_le.mpr (aD 4 _))
theorem MF{P:T→Prop}{v k D F r:Nat}(hP:∀u,P u→MD u v k D F∧u.rd≤r)(hr:r≤1)(hv:3≤v)(hv2:v≤100)(hk:1≤k∧k≤9)(hD:1≤D∧D≤5)(hF:F≤D∧1≤F){t:T}(ht:(∃l:List T,2≤l.length∧l.length≤3∧(∀u∈l,P u)∧(t=.sum l∨t=.prod l))∨∃u,P u∧(t=.call u∨t=.pow u 2)):
  MD t (v*(v*v)) (3*k) (max (F+4) (D+3)) (max (F+2) (D+3))∧t.rd≤r+1:=by
 have hvv:v*3≤v*(v*v):=eN _ (aa hv (eW _ (nw [_] (.d (.k 3) yA .n) (.s (.k 0)) yA rfl hv)));have hvb:v*(v*v)≤100*(100*100):=bG hv2 (bG hv2 hv2);have hV:Vb=1099511627776:=rfl;rcases ht with⟨l,l2,l3,hl,rfl|rfl⟩|⟨u,hu,rfl|rfl⟩
 ·refine dE (ME l3 (λt ht=>⟨(hP t (hl t ht)).1.val,(hP t (hl t ht)).1.lr⟩) (aa (by decide) hv:1≤v)) λs1 s2 s3=>?_;have hR:Ge l:=AD.mpr λt ht=>(hP t (hl t ht)).1.rw;refine eL (lZ hR) λa b c d=>?_;have hne:l≠ []:=by rintro rfl;simp at l2
  have hd:∀t∈cj l,t.dp≤D:=λt ht=>by rw[i6]at ht;refine aG (List.mem_map.mp ht) λu hu z3=>?_;obtain rfl:=z3;exact(hP u (hl u hu)).1.dp
  have hf:∀p∈cv (cj l),p.dp≤F:=λp hp=>by
   refine aG (List.mem_flatMap.mp hp) λt ht hp=>?_;rw[i6]at ht;refine aG (List.mem_map.mp ht) λu hu z4=>?_;obtain rfl:=z4;exact(hP u (hl u hu)).1.fl p hp
  have hrd:xm l≤r:=iT.mpr λt ht=>(hP t (hl t ht)).2;exact⟨⟨⟨hR,hne⟩,(by show fB l≤_;exact nw [_,_,_] (.d (.w 3 yA) yB (.d yC (.m 3 yA) .n)) yC yB rfl hvv s1),s3,⟨tx.mpr λt ht=>(hP t (hl t ht)).1.sb,hne,by exact nw [_,_,_,_] (.c 3 yA (.k 100) (.d (.k 1099511627776) yB (.d yC (.m 3 yA) (.d yD yC .n)))) yD yB rfl hv2 (ah hV.symm) s1 b,by exact nw [_,_,_] (.c 3 yA (.k 9) (.d yB (.m 3 yA) (.d yC yB .n))) yC (.k 60) rfl hk.2 s3 d,λt ht=>⟨a t ht,by have:=hd t ht;exact aa this (aa hD.2 (by decide))⟩⟩,by show(km (cj l)).dp≤_;exact aa (Am a hf) (aS _ _),λp hp=>by have:=(GE a hf) p hp;exact nw [_,_,_,_] (.d yA yB (.d yC (.a yA (.k 2)) (.d (.a yB (.k 3)) yD .n))) yC yD rfl hF.1 this (bQ _ _),by simp only[cY];exact nw [_,_] (.d yA (.k 1) (.d yB yA .n)) (.s yB) (.k 2) rfl hr hrd⟩,by simp only[cY];exact bh hrd⟩
 ·refine dE (ME l3 (λt ht=>⟨(hP t (hl t ht)).1.val,(hP t (hl t ht)).1.lr⟩) (aa (by decide) hv:1≤v)) λs1 s2 s3=>?_;have hR:Ge l:=AD.mpr λt ht=>(hP t (hl t ht)).1.rw;refine eL (lZ hR) λa b c d=>?_;have hne:l≠ []:=by rintro rfl;simp at l2
  have hd:∀t∈cj l,t.dp≤D:=λt ht=>by rw[i6]at ht;refine aG (List.mem_map.mp ht) λu hu z5=>?_;obtain rfl:=z5;exact(hP u (hl u hu)).1.dp
  have g1:=tu a (kr hd);have hg:(bw (.prod l)).dp≤D+3:=by show(fR (cj l)).dp≤_;exact dX (λq0=>nw [_,_,_] (.d yA (.a yB (.k 3)) (.d yB yC .n)) yA (.a yC (.k 3)) rfl g1 q0) (λq0=>nw [_,_,_] (.d (.k 1) yA (.d yB (.a yC (.k 3)) (.d yC (.k 1) .n))) yB (.a yA (.k 3)) rfl hD.1 g1 q0)
  have hrd:xm l≤r:=iT.mpr λt ht=>(hP t (hl t ht)).2;exact⟨⟨⟨hR,hne⟩,s2,s3,⟨tx.mpr λt ht=>(hP t (hl t ht)).1.sb,hne,by exact nw [_,_,_,_] (.d yA (.m 100 (.m 100 (.k 100))) (.d (.k 1099511627776) yB (.d yC yA (.d yD yC .n)))) yD yB rfl hvb (ah hV.symm) s2 c,by exact nw [_,_,_] (.c 3 yA (.k 9) (.d yB (.m 3 yA) (.d yC yB .n))) yC (.k 60) rfl hk.2 s3 d,λt ht=>⟨a t ht,by have:=hd t ht;exact aa this (aa hD.2 (by decide))⟩⟩,by exact aa hg (bQ _ _),λp hp=>by have:=qU hg p hp;exact aa this (bQ _ _),by simp only[cY];exact nw [_,_] (.d yA (.k 1) (.d yB yA .n)) (.s yB) (.k 2) rfl hr hrd⟩,by simp only[cY];exact bh hrd⟩
 ·refine aB (hP u hu) λB hr1=>?_;have hg:(bw (.call u)).dp≤D+2:=by show(bw u).dp+2≤_;exact nw [_,_] (.d yA yB .n) (.a yA (.k 2)) (.a yB (.k 2)) rfl B.dp
  exact⟨⟨B.rw,by simp only[fG];exact nw [_,_,_] (.c 2 (.k 3) yA (.d (.w 3 yA) yB (.d yC yA .n))) (.s yC) yB rfl hv hvv B.val,by simp only[xO];exact nw [_,_] (.c 2 (.k 1) yA (.d yB yA .n)) (.s yB) (.m 3 yA) rfl hk.1 B.lr,B.sb,by exact nw [_,_,_] (.d yA (.a yB (.k 2)) (.d (.a yB (.k 3)) yC .n)) yA yC rfl hg (bQ _ _),λp hp=>by have:=qU hg p hp;exact nw [_,_,_] (.d yA (.a yB (.k 2)) (.d (.a yB (.k 3)) yC .n)) yA yC rfl this (bQ _ _),by simp only[cY];exact nw [_,_] (.d yA (.k 1) (.d yB yA .n)) (.s yB) (.k 2) rfl hr hr1⟩,by simp only[cY];exact bh hr1⟩
 ·refine aB (hP u hu) λB hr1=>?_;have b1:=B.val;have b2:=B.lr;have b3:=B.dp;refine dE (oS B.rw) λc1 c2 c3=>?_;have hg:(bw (.pow u 2)).dp≤D+3:=by
   show(pw (bw u) 2).dp≤_
   induction q:(bw u).isProd with
   |false=>
    have e:pw (bw u) 2=su (bw u) 2:=by induction h:bw u using T.casesOn<;>first|rfl|(rw[h]at q;exact m7 q)
    refine e ..▸?_;have:=(qe c1 q (by decide:(1:Int)≤2)).2.2.2;exact dX (λq0=>nw [_,_,_,_] (.d yA yB (.d yC (.s yD) (.d yD yA .n))) yC (.a yB (.k 3)) rfl b3 this q0) (λq0=>nw [_,_,_] (.d yA (.s yB) (.d yB (.k 1) .n)) yA (.a yC (.k 3)) rfl this q0)
   |true=>
    induction h:bw u using T.casesOn<;>first|(rw[h]at q;cases q;done)|skip
    rename_i l;rw[h]at c1 b3;have hl:=oQ c1;refine (rfl:pw (.prod l) 2=fR (l.map λt=>su t 2)) ..▸?_;have hd:k6 l+2≤D:=b3;have hm:∀t∈l.map (λt=>su t 2),Cn t∧t.dp≤D-1:=λt ht=>by
     refine aG (List.mem_map.mp ht) λw hw z6=>?_;obtain rfl:=z6;refine eL (qe (hl w hw).1 (hl w hw).2 (by decide:(1:Int)≤2)) λx1 _ _ x4=>?_;have:=fL.mp (ak (k6 l)) w hw;have:=oL w;exact⟨x1,by exact dX (λq0=>nw [_,_,_,_,_,_] (.d (.a yA (.k 2)) yB (.d yC (.s yD) (.d yE yA (.d yB (.s yF) (.d yD yE .n))))) yC yF rfl hd x4 (by assumption) (a6 _ _) q0) (λq0=>nw [_,_,_,_,_,_] (.d (.a yA (.k 2)) yB (.d yC (.s yD) (.d yE yA (.d (.k 1) yE (.d yB (.s yF) (.d yD (.k 1) .n)))))) yC yF rfl hd x4 (by assumption) this (a6 _ _) q0)⟩
    have:=tu (λt ht=>(hm t ht).1) (kr λt ht=>(hm t ht).2);exact dX (λq0=>nw [_,_,_,_] (.d yA (.a yB (.k 3)) (.d yC yD (.d yB yC .n))) yA (.a yD (.k 3)) rfl this (dH _ _) q0) (λq0=>nw [_,_,_,_] (.d (.a yA (.k 2)) yB (.d yC (.a yD (.k 3)) (.d yD (.k 1) .n))) yC (.a yB (.k 3)) rfl hd this q0)
  have hv':(bw u).val^(2:Int).toNat≤v*v:=by
   show(bw u).val^2≤_;refine(Nat.pow_two ..).symm▸?_;exact bG (aa c2 b1) (aa c2 b1)
  have hv3:u.val^(2:Int).toNat≤v*v:=by
   show u.val^2≤_;refine(Nat.pow_two ..).symm▸?_;exact bG b1 b1
  have hv4:v*v≤v*(v*v):=eW _ (nw [_] (.d (.k 3) yA .n) (.s (.k 0)) yA rfl hv);exact⟨⟨⟨B.rw,by decide⟩,aa hv3 hv4,by simp only[xO];exact nw [_,_] (.c 2 yA yB .n) (.m 2 yA) (.m 3 yB) rfl b2,⟨B.sb,by decide,by decide,c1,by exact nw [_,_,_,_] (.d yA (.m 100 (.m 100 (.k 100))) (.d (.k 1099511627776) yB (.d yC yD (.d yD yA .n)))) yC yB rfl hvb (ah hV.symm) hv' hv4,by exact nw [_,_,_] (.d yA (.k 9) (.d yB yA (.d yC yB .n))) yC (.k 30) rfl hk.2 b2 c3,by exact aa b3 (aa hD.2 (by decide))⟩,by exact aa hg (bQ _ _),λp hp=>by have:=qU hg p hp;exact aa this (bQ _ _),by simp only[cY];exact nw [_,_] (.d yA (.k 1) (.d yB yA .n)) (.s yB) (.k 2) rfl hr hr1⟩,by simp only[cY];exact bh hr1⟩
theorem MD.up{t:T}{v l D F v' l' D' F':Nat}(h:MD t v l D F)(h1:v≤v')(h2:l≤l')(h3:D≤D')(h4:F≤F'):MD t v' l' D' F':=
 ⟨h.rw,aa h.val h1,aa h.lr h2,h.sb,aa h.dp h3,λp hp=>aa (h.fl p hp) h4,h.rd⟩
theorem Q5{t:T}(h:DR 1 t):MD t 27 3 5 4∧t.rd≤1:=by
 refine h.elim (λh=>?_) λh=>?_
 ·have:=tJ h;exact⟨this.1.up (by decide) (by decide) (by decide) (by decide),by exact aa (ah this.2) (by decide)⟩
 ·exact MF (P:=DR 0) (λu hu=>⟨(tJ hu).1,by refine((tJ hu).2 ..).symm▸?_;exact ak 0⟩) (by decide) (by decide) (by decide) (by decide) (by decide) (by decide) h
theorem QP{t:T}(h:DR 2 t):MD t 19683 9 8 8∧t.rd≤2:=by
 refine h.elim (λh=>?_) λh=>?_
 ·have:=tJ h;exact⟨this.1.up (by decide) (by decide) (by decide) (by decide),by exact aa (ah this.2) (by decide)⟩
 ·exact MF (P:=DR 1) (λu hu=>Q5 hu) (by decide) (by decide) (by decide) (by decide) (by decide) (by decide) h
theorem J6.all{l m:List T}(h:J6 l m)(hc:∀t∈l,Cn t){D:Nat}(hd:∀t∈l,t.dp≤D)(hD:1≤D):(∀t∈m,Cn t∧t.dp≤D)∧fB m≤2*fB l∧dA m≤2^l.length*dA l∧eD m≤eD l∧m.length=l.length:=by
 induction h with
 |nil=>exact⟨(λ_ h=>by exact cg h),ak _,ak _,ak _,rfl⟩
 |cons ha _ ih=>
  rename_i a b l m _;refine m8 (ih (λt ht=>hc t (.tail _ ht)) λt ht=>hd t (.tail _ ht)) λi1 i2 i3 i4 i5=>?_;have ca:=hc a (.head _);have da:=hd a (.head _);refine dE (cz ca) λv1 v2 _=>?_;have hb:Cn b∧b.dp≤D∧b.val≤2*a.val∧b.lf≤a.lf:=by
   rcases ha with rfl|⟨x,rfl⟩
   ·exact⟨ca,da,by exact nw [_] .n yA (.m 2 yA) rfl,ak _⟩
   ·exact⟨trivial,hD,by show 2≤_;exact nw [_] (.c 2 (.k 1) yA .n) (.k 2) (.m 2 yA) rfl v1,v2⟩
  refine⟨λt ht=>?_,by simp only[iz];exact nw [_,_,_,_] (.d yA (.m 2 yB) (.d yC (.m 2 yD) .n)) (.a yC yA) (.m 2 (.a yD yB)) rfl i2 hb.2.2.1,?_,by simp only[iJ];exact nw [_,_,_,_] (.d yA yB (.d yC yD .n)) (.a yC yA) (.a yD yB) rfl i4 hb.2.2.2,by simp[i5]⟩
  ·rcases aA.mp ht with rfl|ht
   ·exact⟨hb.1,hb.2.1⟩
   ·exact i1 t ht
  ·simp only[ju,aP,vG]
   calc b.val*dA m≤(2*a.val)*(2^l.length*dA l):=bG hb.2.2.1 i3
    _=2^l.length*2*(a.val*dA l):=by
     refine qu 2 a.val ..▸qu (2^l.length) 2 ..▸?_;simp only[gh,jW]
theorem NQ{t u:T}(h:OP t u):Cn t→t.val≤19683→t.lf≤9→t.dp≤8→SB u∧Cn (bw u)∧(bw u).dp≤t.dp+2∧u.dp≤t.dp:=by
 have hV:Vb=1099511627776:=rfl;have lst {l m:List T} (s:Bool) (h:J6 l m) (hc:Cn (KT s l)) (hv:(KT s l).val≤19683) (hl:(KT s l).lf≤9) (hd:(KT s l).dp≤8):SB (KT s m)∧Cn (bw (KT s m))∧(bw (KT s m)).dp≤(KT s l).dp+2∧(KT s m).dp≤(KT s l).dp:=by
  have hc':xU l:=by induction s<;>exact hc.1
  have hl':eD l≤9:=by induction s<;>exact hl
  have hd':k6 l+2≤8:=by induction s<;>exact hd
  have hd2:(KT s l).dp=k6 l+2:=by induction s<;>rfl
  refine dE (gW hc') λn1 n2 n3=>?_;have h2:2≤l.length:=by
   induction s with
   |true=>refine kD hc.2 λfs k _ _ h2 _=>?_;exact h2
   |false=>refine kD hc.2 λk fs _ _ h2 _=>?_;exact h2
  have hD:1≤k6 l:=by
   match l,h2 with
   |a::_,_=>have:=oL a;simp only[pH];exact aa this (aS _ _)
  refine m8 (h.all (cW.mp hc') (fL.mp (ak _)) hD) λa b c d e=>?_;have hm:xU m:=cW.mpr λt ht=>(a t ht).1;have hne:m≠ []:=by rintro rfl;simp at e;exact nz [_] (.d (.k 2) yA (.d yA (.k 0) .n)) rfl h2 (ah e.symm)
  have hdm:k6 m≤k6 l:=fL.mpr λt ht=>(a t ht).2;have hp2:2^l.length≤512:=aa (dJ (by decide) (aa n2 hl':l.length≤9)) (by decide);have hval:∀t∈m,t.val≤Vb:=by
   induction s with
   |true=>intro t ht;have:=p7 ht;have:fB l≤19683:=hv;exact nw [_,_,_,_] (.d (.k 1099511627776) yA (.d yB (.m 2 yC) (.d yD yB (.c 2 yC (.k 19683) .n)))) yD yA rfl (ah hV.symm) b (by assumption) this
   |false=>
    intro t ht;have:=(kq ht λu hu=>(cz (a u hu).1).1).1;have hv':dA l≤19683:=hv;have:=bG hp2 hv';exact nw [_,_,_,_] (.d (.k 1099511627776) yA (.d yB yC (.d yD yB (.d yC (.m 512 (.k 19683)) .n)))) yD yA rfl (ah hV.symm) c (by assumption) this
  have hsb:GX m:=As hm hval (aa d (aa hl' (by decide))) λt ht=>by have:=(a t ht).2;exact nw [_,_,_] (.d yA (.k 8) (.d (.a yB (.k 2)) yA (.d yC yB .n))) yC (.k 9) rfl hd (ah hd2.symm) this
  have hcm:∀t∈cj m,Cn t∧t.dp≤8:=by refine(eE hm ..).symm▸?_;exact λt ht=>⟨(a t ht).1,by have:=(a t ht).2;exact nw [_,_,_] (.d yA (.k 8) (.d (.a yB (.k 2)) yA (.d yC yB .n))) yC (.k 8) rfl hd (ah hd2.symm) this⟩
  induction s with
  |true=>
   refine⟨⟨hsb,hne,by refine(eE hm ..).symm▸?_;exact nw [_,_,_] (.d (.k 1099511627776) yA (.d yB (.m 2 yC) (.c 2 yC (.k 19683) .n))) yB yA rfl (ah hV.symm) b (hv:fB l≤19683),by refine(eE hm ..).symm▸?_;exact aa d (aa hl' (by decide)),hcm⟩,?_,?_,by show k6 m+2≤k6 l+2;exact nw [_,_] (.d yA yB .n) (.a yA (.k 2)) (.a yB (.k 2)) rfl hdm⟩
   ·show Cn (km (cj m));refine(eE hm ..).symm▸?_;exact(Ak (λt ht=>(a t ht).1) hne).1
   ·show(km (cj m)).dp≤_;refine(eE hm ..).symm▸(hd2 ..).symm▸?_;exact(Am (λt ht=>(a t ht).1) (nM λt ht=>(a t ht).2))
  |false=>
   have g:=tu (λt ht=>(a t ht).1) (kr λt ht=>(a t ht).2);refine⟨⟨hsb,hne,by refine(eE hm ..).symm▸?_;exact nw [_,_,_] (.d (.k 1099511627776) yA (.d yB yC (.d yC (.m 512 (.k 19683)) .n))) yB yA rfl (ah hV.symm) c (bG hp2 (hv:dA l≤19683)),by refine(eE hm ..).symm▸?_;exact aa d (aa hl' (by decide)),hcm⟩,?_,?_,by show k6 m+2≤k6 l+2;exact nw [_,_] (.d yA yB .n) (.a yA (.k 2)) (.a yB (.k 2)) rfl hdm⟩
   ·show Cn (fR (cj m));refine(eE hm ..).symm▸?_;exact(qd (λt ht=>(a t ht).1) hne).1
   ·show(fR (cj m)).dp≤_;refine(eE hm ..).symm▸(hd2 ..).symm▸?_;exact dX (λq0=>nw [_,_,_] (.d yA (.a yB (.k 3)) (.d yB yC .n)) yA (.a (.a yC (.k 2)) (.k 2)) rfl g q0) (λq0=>nw [_,_,_] (.d yA (.a yB (.k 3)) (.d yB (.k 1) .n)) yA (.a (.a yC (.k 2)) (.k 2)) rfl g q0)
 induction h with
 |sum h=>exact λa b c d=>lst true h a b c d
 |prod h=>exact λa b c d=>lst false h a b c d
 |call h ih=>
  rename_i t u;intro hc hv hl hd;refine eL (ih hc (aW (hv:t.val+1≤19683)) (aW (hl:t.lf+1≤9)) (aa (ao _ _) (hd:t.dp+2≤8))) λa b c d=>?_;exact⟨a,b,by show(bw u).dp+2≤t.dp+2+2;exact nw [_,_] (.d yA (.a yB (.k 2)) .n) (.a yA (.k 2)) (.a (.a yB (.k 2)) (.k 2)) rfl c,by show u.dp+2≤t.dp+2;exact nw [_,_] (.d yA yB .n) (.a yA (.k 2)) (.a yB (.k 2)) rfl d⟩
 |same t=>exact λhc hv hl hd=>⟨BS hc (by exact nw [_,_] (.d (.k 1099511627776) yA (.d yB (.k 19683) .n)) yB yA rfl (ah hV.symm) hv) (by exact aa hl (by decide)) (by exact aa hd (by decide)),by refine(oR hc ..).symm▸?_;exact hc,by refine(oR hc ..).symm▸?_;exact ao _ _,ak _⟩
 |blank t=>exact λ_ _ _ _=>⟨trivial,trivial,by show 1≤_;exact nw [_] .n (.k 1) (.a yA (.k 2)) rfl,oL t⟩
noncomputable def jS(S:Nm→T)(e:aQ):Prop:=∀p∈e,S p.1=p.2
section
variable {S:Nm→T}
theorem l9:jS S []:=λ_ h=>by exact cg h
theorem uC{x:Nm}{t:T}{r:aQ}:jS S ((x,t)::r)↔S x=t∧jS S r:=List.forall_mem_cons
theorem za{x:Nm}{t:T}{r:aQ}:jS S (r++ [(x,t)])↔jS S r∧S x=t:=by
 unfold jS;rw[List.forall_mem_append,List.forall_mem_singleton]
noncomputable def Ex(S:Nm→T)(l:List aQ):Prop:=∃e∈l,jS S e
theorem sa:¬Ex S []:=λ⟨_,h,_⟩=>by exact cg h
theorem se{e:aQ}:Ex S [e]↔jS S e:=⟨λ⟨f,h,k⟩=>by rw[ae.mp h]at k;exact k,λh=>⟨e,.head _,h⟩⟩
theorem xz{b:Bool}{e:aQ}:Ex S (if b then [e]else [])↔jS S e∧b=true:=by
 induction b with
 |true=>simp only[if_true,se,and_true]
 |false=>simp[sa]
theorem vZ{α:Type}{l:List α}{f:α→List aQ}:Ex S (l.flatMap f)↔∃a∈l,Ex S (f a):=by
 unfold Ex
 constructor
 ·rintro ⟨e,h,k⟩
  refine aG (List.mem_flatMap.mp h) λa ha h=>?_;exact⟨a,ha,e,h,k⟩
 ·rintro ⟨a,ha,e,h,k⟩
  exact⟨e,List.mem_flatMap.mpr (aV a ha h),k⟩
theorem zb{e:aQ}{x:Nm}{t:T}:Ex S (kt e x t)↔jS S e∧S x=t:=by
 unfold kt
 induction q:cM e x with
 |none=>simp only[se,za]
 |some u=>
  simp only
  constructor
  ·intro h;refine aB (xz.mp h) λa b=>?_;exact⟨a,by refine(iy _ _ b ..)▸?_;exact a _ (kx q)⟩
  ·rintro ⟨h,k⟩
   exact xz.mpr ⟨h,by refine(show u=t from(h _ (kx q)).symm.trans k).symm▸?_;exact de t⟩
theorem qV:∀ {r e:aQ},Ex S (r7 (d5 e r))↔jS S e∧jS S r
 | [],e=>by simp only[vY,r7,se,l9,and_true]
 |(x,t)::r,e=>by
  rw[vY.2];rw[uC]
  induction q:cM e x with
  |none=>
   simp only;rw[qV,za,and_assoc]
  |some u=>
   simp only;have hu:jS S e→S x=u:=λh=>h _ (kx q)
   induction h:lQ u t with
   |true=>
    have:=iy _ _ h;subst this;rw[if_pos rfl,qV];exact⟨λh=>⟨h.1,hu h.1,h.2⟩,λh=>⟨h.1,h.2.2⟩⟩
   |false=>
    rw[if_neg (by simp)];refine⟨λh=>absurd h sa,λ⟨h1,h2,_⟩=>?_⟩;rw[show u=t from(hu h1).symm.trans h2,de]at h;exact m7 h
noncomputable def Al(R:T→T→Prop):List T→List T→Prop
 |p::ps,t::ts=>R p t∧Al R ps ts
 |_,_=>True
theorem O8:∀(R:T→T→Prop)(p:T)(ps:List T)(t:T)(ts:List T),Al R (p::ps) (t::ts)=(R p t∧Al R ps ts):=λ_ _ _ _ _=>rfl
theorem oY{r:rZ}:∀ {ps ts:List T} {f:List aQ},Ex S (fF r ps ts f)↔Ex S f∧Al (λp t=>Ex S (r p t)) ps ts
 | [],ts,f=>by induction ts using am<;>simp[fF,Al]
 |_::_,[],f=>by simp[fF,Al]
 |p::ps,t::ts,f=>by
  have h1:Ex S (f.flatMap λone=>(r p t).flatMap λother=>r7 (d5 one other))↔Ex S f∧Ex S (r p t):=by
   rw[vZ]
   constructor
   ·rintro ⟨a,ha,h⟩
    refine aG (vZ.mp h) λb hb h=>?_;refine aB (qV.mp h) λk1 k2=>?_;exact⟨(aV a ha k1),b,hb,k2⟩
   ·rintro ⟨⟨a,ha,k1⟩,b,hb,k2⟩
    exact⟨a,ha,vZ.mpr (aV b hb (qV.mpr ⟨k1,k2⟩))⟩
  rw[Ax,oY,h1,O8,and_assoc]
theorem jw{m:aQ→pj}{e':aQ}:∀ {rows:List aQ},e'∈(bd m rows).1↔∃e∈rows,e'∈(m e).1
 | []=>by simp[vU]
 |e::r=>by simp[vU,jw (rows:=r)]
theorem tK{f:Nat→pj}{e':aQ}:∀ {k i:Nat},e'∈(fE f i k).1↔∃j,i≤j∧j<i+k∧e'∈(f j).1
 |0,i=>by
  simp only[vV,pt,false_iff]
  rintro ⟨j,h1,h2,_⟩;exact nz [_,_] (.d yA yB (.d (.s yB) (.a yA (.k 0)) .n)) rfl h1 h2
 |k+1,i=>by
  simp only[vV,List.mem_append,tK (k:=k)]
  constructor
  ·rintro (h|⟨j,h1,h2,h⟩)
   ·exact iw i (ak _) (nw [_,_] .n (.s yA) (.a yA (.s yB)) rfl) h
   ·exact iw j (aW h1) (nw [_,_,_] (.d (.s yA) (.a (.s yB) yC) .n) (.s yA) (.a yB (.s yC)) rfl h2) h
  ·rintro ⟨j,h1,h2,h⟩
   by_cases e:j=i
   ·subst e;exact .inl h
   ·exact .inr (iw j (by exact(Nat.lt_of_le_of_ne (h1) (Ne.symm e))) (nw [_,_,_] (.d (.s yA) (.a yB (.s yC)) .n) (.s yA) (.a (.s yB) yC) rfl h2) h)
theorem uD{m:aQ→pj}{R:Prop}(H:∀e,Ex S (m e).1↔jS S e∧R){rows:List aQ}:Ex S (bd m rows).1↔Ex S rows∧R:=by
 constructor
 ·rintro ⟨e',h,k⟩
  refine aG (jw.mp h) λe he h=>?_;refine aB ((H e).mp (aV e' h k)) λa b=>?_;exact⟨(aV e he a),b⟩
 ·rintro ⟨⟨e,he,a⟩,b⟩
  refine aG ((H e).mpr ⟨a,b⟩) λe' h k=>?_;exact⟨e',jw.mpr (aV e he h),k⟩
noncomputable def Gk(R:T→T→Prop)(K:List T→Prop):List T→List T→Prop
 | [],ts=>K ts
 |p::ps,ts=>∃i t,ts[i]?=some t∧R p t∧Gk R K ps (ts.eraseIdx i)
theorem JB{R:T→T→Prop}{K:List T→Prop}{k:Nat}(hK:∀ts,K ts→k≤ts.length):∀ {A ts:List T},Gk R K A ts→A.length+k≤ts.length
 | [],ts,h=>by have:=hK ts h;simp only[ch];exact nw [_,_] (.d yA yB .n) (.a (.k 0) yA) yB rfl this
 |p::A,ts,⟨i,t,h1,_,h⟩=>by
  have:=JB hK h;have hi:=(List.getElem?_eq_some_iff.mp h1).1;rw[zo hi]at this;simp only[aP];exact nw [_,_,_,_] (.d (.a yA yB) yC (.d (.s yC) yD .n)) (.a (.s yA) yB) yD rfl this (ah (az (aa (aD _ _) hi)))
theorem oZ{m:jR}{s:Bool}{R:T→T→Prop}{K:List T→Prop}{tl:List T}(hK:∀ts e,Ex S (cF m s tl ts e).1↔jS S e∧K ts)(hl:∀ts,K ts→tl.length≤ts.length):
  ∀ {A ts:List T} {e:aQ},(∀p∈A,∀t∈ts,∀e,Ex S (m p t e).1↔jS S e∧R p t)→(tl= []→∀p∈A,p.blank=false)→(Ex S (cF m s (A++tl) ts e).1↔jS S e∧Gk R K A ts)
 | [],ts,e,_,_=>hK ts e
 |p::A,ts,e,H,hb=>by
  have hq:((A++tl).isEmpty&&p.blank)=false:=by
   induction tl using am with
   |nil=>refine(hb rfl p (.head _) ..).symm▸?_;simp
   |cons a tl=>simp
  by_cases hlt:ts.length<(A++tl).length+1
  ·rw[ck,ge.2,if_pos hlt];refine⟨λh=>absurd h sa,λ⟨_,h⟩=>?_⟩;have:=JB hl h;simp only[aj,aP]at this hlt;omega
  ·refine ck ..▸ku hlt hq ..▸?_
   constructor
   ·rintro ⟨e',h,k⟩
    refine eo (tK.mp h) λi _ hi h=>?_
    induction q:ts[i]? with
    |none=>rw[mP q]at h;exact cg h
    |some t=>
     rw[i7 q]at h;refine aG (jw.mp h) λa ha h=>?_;refine aB ((oZ hK hl (λp hp t ht=>H p (.tail _ hp) t (AU ht)) (λh p hp=>hb h p (.tail _ hp))).mp (aV e' h k)) λx1 x2=>?_;refine aB ((H p (.head _) t (List.mem_of_getElem? q) e).mp (aV a ha x1)) λy1 y2=>?_;exact⟨y1,i,t,q,y2,x2⟩
   ·rintro ⟨y1,i,t,q,y2,x2⟩
    refine aG ((H p (.head _) t (List.mem_of_getElem? q) e).mpr ⟨y1,y2⟩) λa ha x1=>?_;refine aG ((oZ hK hl (λp hp t ht=>H p (.tail _ hp) t (AU ht)) (λh p hp=>hb h p (.tail _ hp))).mpr ⟨x1,x2⟩) λe' h k=>?_;refine⟨e',tK.mpr (iw i (a7 _) (by have:=(List.getElem?_eq_some_iff.mp q).1;exact aa this (aD _ _)) ?_),k⟩;refine i7 q ..▸?_;exact jw.mpr (aV a ha h)
theorem o0:∀ {is:List Nat} {i a:Nat},is.Nodup→is[i]?=some a→is.eraseIdx i=is.filter λb=>!(b==a)
 | [],_,_,_,h=>by simp at h
 |b::is,0,a,hn,h=>by
  simp only[List.getElem?_cons_zero,Option.some.injEq]at h;subst h;refine CB ..▸bk ..▸?_;simp only[beq_self_eq_true,nU,bR,if_false];refine(List.filter_eq_self.mpr λc hc=>?_).symm;simpa using(λe=>(bK.mp hn).1 (e▸hc):c≠b)
 |b::is,i+1,a,hn,h=>by
  have hn:=bK.mp hn;simp only[List.getElem?_cons_succ]at h;rw[po,o0 hn.2 h,bk,if_pos (by simpa using(λe=>hn.1 (e▸List.mem_of_getElem? h):b≠a))]
theorem MG(a:Nat)(row is:List Nat):((is.filter λb=>!(b==a)).filter λb=>!row.contains b)=is.filter λb=>!(a::row).contains b:=by
 refine List.filter_filter ..▸?_;refine vm λb _=>?_;rw[G3]
 induction b==a<;>induction row.contains b<;>rfl
theorem AE{R:T→T→Prop}{K:List T→Prop}{f:Nat→T}:∀ {A:List T} {is:List Nat},is.Nodup→(Gk R K A (is.map f)↔∃row:List Nat,row.length=A.length∧row.Nodup∧(∀a∈row,a∈is)∧Al R A (row.map f)∧K ((is.filter λb=>!row.contains b).map f))
 | [],is,hn=>by
  have e:(is.filter λb=>!([]:List Nat).contains b)=is:=List.filter_eq_self.mpr λ_ _=>rfl
  constructor
  ·intro h;exact MK ([]) rfl dP (λ_ h=>by exact cg h) trivial (by refine(e ..).symm▸?_;exact h)
  ·rintro ⟨row,h1,_,_,_,h⟩
   rw[List.length_eq_zero_iff.mp h1,e]at h;exact h
 |p::A,is,hn=>by
  have hn2 (a:Nat):(is.filter λb=>!(b==a)).Nodup:=hn.sublist sC
  constructor
  ·rintro ⟨i,t,h1,h2,h3⟩
   rw[List.getElem?_map]at h1;refine aG (aH.mp h1) λa ha z1=>?_;obtain rfl:=z1;rw[←qQ,o0 hn ha]at h3;refine MI ((AE (hn2 a)).mp h3) λrow r1 r2 r3 r4 r5=>?_;rw[MG]at r5;refine MK (a::row) (by simp[r1]) (bK.mpr ⟨λh=>?_,r2⟩) (λb hb=>?_) ⟨h2,r4⟩ r5
   ·have:=(List.mem_filter.mp (r3 a h)).2;simp at this
   ·rcases aA.mp hb with rfl|hb
    ·exact List.mem_of_getElem? ha
    ·exact(List.mem_filter.mp (r3 b hb)).1
  ·rintro ⟨row,r1,r2,r3,r4,r5⟩
   induction row using am with
   |nil=>simp at r1
   |cons a row=>
    have r2:=bK.mp r2;refine aY (List.getElem?_of_mem (r3 a (.head _))) λi hi=>?_;refine kT i (f a) (by refine List.getElem?_map ..▸hi ..▸?_;rfl) r4.1 ?_;refine(qQ ..)▸o0 hn hi ..▸?_;refine(AE (hn2 a)).mpr (MK row (by simpa using r1) r2.2 (λb hb=>List.mem_filter.mpr ⟨r3 b (.tail _ hb),?_⟩) r4.2 (by refine MG ..▸?_;exact r5));simpa using(λe=>r2.1 (e▸hb):b≠a)
theorem vg{w:Nat}:∀ {m:Nat} {row:List Nat},row∈dM m w↔row.length=m∧row.Nodup∧∀a∈row,a<w
 |m,row=>by
  refine⟨λh=>⟨i9 w m row h,m5 w m row h,l8 w m row h⟩,?_⟩
  induction m generalizing row with
  |zero=>rintro ⟨h,_⟩;refine List.length_eq_zero_iff.mp h ..▸?_;exact .head _
  |succ m ih=>
   rintro ⟨h1,h2,h3⟩
   have hne:row≠ []:=by rintro rfl;simp at h1
   obtain⟨q,a,rfl⟩:∃q a,row=q++ [a]:=⟨row.dropLast,row.getLast hne,(xY hne).symm⟩
   have h2:=dw.mp h2;refine List.mem_flatMap.mpr ⟨q,ih _ ⟨by simpa using h1,h2.1,λb hb=>h3 b (cm _ hb)⟩,List.mem_map.mpr (aV a (List.mem_filter.mpr ⟨List.mem_range.mpr (h3 a (by simp)),?_⟩) rfl)⟩;simpa using(λh=>h2.2.2 a h a (.head _) rfl:a∉q)
theorem E9{R:T→T→Prop}{p t:T}:∀ {A X:List T},A.length=X.length→(Al R (A++ [p]) (X++ [t])↔Al R A X∧R p t)
 | [],[],_=>by simp[Al]
 |a::A,x::X,h=>by
  simp only[ck,O8];rw[E9 (by simpa using h),and_assoc]
 | [],_::_,h=>by simp at h
 |_::_,[],h=>by simp at h
end
theorem GF{t:T}(h:Cn t)(hs:t.isSum=false):km [t]=t:=by
 induction q:t.isNum with
 |true=>
  induction t using T.casesOn<;>first|exact nsN q|exact dC q|(cases q;done)|skip
  rename_i k;have hk:1≤k:=h;have e: [T.num k]= []++dq k:=by unfold dq;rw[if_neg (by omega)];rfl
  rw[e,An (by omega) .nil (λ_ h=>by exact cg h) dP,←e];rfl
 |false=>
  have e: [t]= [t]++dq 0:=rfl;rw[e,An (e8 _) (dI _ _) (λu hu=>by rw[ae.mp hu];exact⟨h,q,hs⟩) (by simp)];rfl
theorem DX{t:T}(h:PP t)(h1:t≠.num 1):fR [t]=t:=by
 rcases h with⟨k,rfl,hk⟩|hf
 ·have hk1:k≠1:=λe=>h1 (by rw[e]);have e: [T.num k]=eC k++ []:=by unfold eC;rw[if_neg hk1];rfl
  rw[e,xj hk .nil (λ_ h=>by exact cg h) dP (by rw[←e];simp),←e];rfl
 ·have e: [t]=eC 1++ [t]:=rfl;rw[e,xj (e8 _) (dI _ _) (λu hu=>by rw[ae.mp hu];exact hf) (by simp) (by simp[eC])];rfl
theorem rH{s:Bool}{ts l:List T}(h:Cn (KT s ts))(hs:l.Sublist ts)(hne:l≠ []):jv s l=pn s l:=by
 match l,hne with
 | [t],_=>
  have ht:=hs.subset (.head _)
  induction s with
  |true=>
   refine aB h λhc z2=>?_;refine Kd z2 λfs k z1 q1 q2 q3 q4 q5=>?_;clear h;obtain rfl:=z1;refine GF (cW.mp hc t ht) ?_;refine(List.mem_append.mp ht).elim (λht=>?_) λht=>?_
   ·exact(q4 t ht).2
   ·unfold dq at ht;split at ht
    ·exact cg ht
    ·rw[ae.mp ht];rfl
  |false=>
   refine DX (oP h t ht) ?_;refine aB h λhc z4=>?_;refine CL z4 λk fs z3 q1 q2 q3 q4 q5 q6=>?_;clear h;obtain rfl:=z3
   rintro rfl
   refine(List.mem_append.mp ht).elim (λht=>?_) λht=>?_
   ·unfold eC at ht;split at ht
    ·exact cg ht
    ·rename_i hk;have:=ae.mp ht;cases this
     exact hk rfl
   ·have:=(q5 _ ht).1;exact m7 this
 |a::b::l,_=>
  have hc:=E6 h hs (by simp)
  induction s with
  |true=>show km _=km (cj _);rw[eE hc.1]
  |false=>show fR _=fR (cj _);rw[eE hc.1]
section
variable {S:Nm→T}
theorem Fa{r:rZ}{s:Bool}{ps ts:List T}{row:List Nat}:Ex S (dh r s ps ts row)↔(eT ts row).isEmpty=(ps.filter T.blank).isEmpty∧Al (λp t=>Ex S (r p t)) (aU ps) (gg s ps ts row):=by
 unfold dh
 by_cases h:(eT ts row).isEmpty=(ps.filter T.blank).isEmpty
 ·rw[if_neg (by rw[h];simp),oY];exact⟨λk=>⟨h,k.2⟩,λk=>⟨(aV ([]) (.head _) l9),k.2⟩⟩
 ·rw[if_pos (by simpa using h)];exact⟨λk=>absurd k sa,λk=>absurd k.1 h⟩
theorem JC{d:Nat}(hd:1≤d){x:Nm}(hx:x.blank=true){u:T}:Ex S (dj d (.sym x) u)↔S x=u:=by
 obtain⟨d,rfl⟩:∃k,d=k+1:=⟨d-1,by exact aC ((a6 _ _)) ((ah (az (hd))))⟩
 have:dj (d+1) (.sym x) u= [[(x,u)]]:=by show nP _ _ _=_;unfold nP;rw[if_pos (show(T.sym x).blank=true from hx)]
 rw[this,se,uC];exact⟨λh=>h.1,λh=>⟨h,l9⟩⟩
theorem vh{d:Nat}{s:Bool}{ps ts:List T}{e:aQ}(ih:∀p t e,p.rd<d→Cn t→(Ex S (bB d p t e).1↔jS S e∧Ex S (dj d p t)))(hrd:∀p∈ps,p.rd<d)(hd:1≤d)(hc:Cn (KT s ts)):
  Ex S (cF (bB d) s (aU ps) ts e).1↔jS S e∧Ex S (gX (dj d) s ps ts):=by
 have hcl:∀t∈ts,Cn t:=by induction s<;>exact cW.mp hc.1
 have H:∀p∈aU ps,∀t∈ts,∀e,Ex S (bB d p t e).1↔jS S e∧Ex S (dj d p t):=λp hp t ht e=>ih p t e (hrd p (gz hp)) (hcl t ht);have hR:Ex S (gX (dj d) s ps ts)↔∃row:List Nat,row.length=d9 ps∧row.Nodup∧(∀a∈row,a∈bF ts.length)∧(eT ts row).isEmpty=(ps.filter T.blank).isEmpty∧Al (λp t=>Ex S (dj d p t)) (aU ps) (gg s ps ts row):=by
  unfold gX;rw[vZ]
  constructor
  ·rintro ⟨row,hr,h⟩
   refine dE (vg.mp hr) λc1 c2 c3=>?_;exact G6 row c1 c2 (λa ha=>List.mem_range.mpr (c3 a ha)) (Fa.mp h)
  ·rintro ⟨row,c1,c2,c3,h⟩
   exact aV row (vg.mpr ⟨c1,c2,λa ha=>List.mem_range.mp (c3 a ha)⟩) (Fa.mpr h)
 have hG {K:List T→Prop} {A:List T}:Gk (λp t=>Ex S (dj d p t)) K A ts↔∃row:List Nat,row.length=A.length∧row.Nodup∧(∀a∈row,a∈bF ts.length)∧Al (λp t=>Ex S (dj d p t)) A (row.map λa=>ts.getD a (.num 0))∧K (eT ts row):=by
  have:=AE (R:=λp t=>Ex S (dj d p t)) (K:=K) (f:=λa=>ts.getD a (.num 0)) (A:=A) (is:=bF ts.length) List.nodup_range;rw[oX]at this;exact this
 rw[hR]
 induction hb:(ps.filter T.blank).isEmpty with
 |true=>
  have hN:d9 ps=(aU ps).length:=by unfold d9;rw[hb];rfl
  have hS (row:List Nat):gg s ps ts row=row.map λa=>ts.getD a (.num 0):=by unfold gg;rw[hb];simp
  have:=oZ (S:=S) (m:=bB d) (s:=s) (R:=λp t=>Ex S (dj d p t)) (K:=λts=>ts= []) (tl:= []) (λts e=>by rw[cF,xz,iE]) (λts _=>a7 _) (A:=aU ps) (ts:=ts) (e:=e) H (λ_ p hp=>by
   induction q:p.blank with
   |false=>rfl
   |true=>
    have:p∈ps.filter T.blank:=List.mem_filter.mpr ⟨gz hp,q⟩;rw[iE.mp hb]at this;exact cg this)
  rw[aF]at this;rw[this,hG,hN];refine and_congr_right λ_=>exists_congr λrow=>?_;rw[hS,iE];exact⟨λ⟨a,b,c,d,e⟩=>⟨a,b,c,e,d⟩,λ⟨a,b,c,d,e⟩=>⟨a,b,c,e,d⟩⟩
 |false=>
  refine ff (xx hb) λA p eA hp=>?_
  induction p using T.casesOn<;>first|exact nsN hp|exact dC hp|(cases hp;done)|skip
  rename_i x;have hN:d9 ps=A.length:=by unfold d9;rw[hb,eA];simp
  have hS (row:List Nat):gg s ps ts row=(row.map λa=>ts.getD a (.num 0))++ [pn s (eT ts row)]:=by unfold gg;rw[hb];simp
  have:=oZ (S:=S) (m:=bB d) (s:=s) (R:=λp t=>Ex S (dj d p t)) (K:=λts=>ts≠ []∧S x=jv s ts) (tl:= [.sym x]) (λts e=>by
   by_cases hl:ts.length<([]:List T).length+1
   ·rw[cF,if_pos hl];exact⟨λh=>absurd h sa,λh=>absurd (List.length_eq_zero_iff.mp (by simpa using hl):ts= []) h.2.1⟩
   ·rw[cF,if_neg hl,if_pos (by rw[hp];rfl)];show Ex S (kt e x (jv s ts))↔_;rw[zb];exact⟨λh=>⟨h.1,(by rintro rfl;exact hl (by decide)),h.2⟩,λh=>⟨h.1,h.2.2⟩⟩) (λts h=>by
   induction ts using am with
   |nil=>exact absurd rfl h.1
   |cons a b=>simp) (A:=A) (ts:=ts) (e:=e) (λp hp=>H p (by rw[eA];exact cm _ hp)) (λh=>by cases h)
  rw[eA,this,hG,hN];refine and_congr_right λ_=>exists_congr λrow=>and_congr_right λh1=>and_congr_right λ_=>and_congr_right λ_=>?_;rw[hS,E9 (by simp[h1]),JC hd hp];have hne:(eT ts row).isEmpty=false↔eT ts row≠ []:=by rw[Ne,←iE];simp
  rw[hne]
  constructor
  ·rintro ⟨a,b,c⟩;exact⟨b,a,by rw[c,rH hc (ql ts row) b]⟩
  ·rintro ⟨b,a,c⟩;exact⟨a,b,by rw[c,rH hc (ql ts row) b]⟩
theorem zd{P:Prop}:Ex S []↔P∧Ex S []:=⟨λh=>absurd h sa,λh=>absurd h.2 sa⟩
theorem JD{b:Bool}{e:aQ}:Ex S (if b then [e]else [])↔jS S e∧Ex S (if b then [[]]else []):=xz.trans (and_congr_right λ_=>(and_iff_right l9).symm.trans xz.symm)
theorem same:∀(d:Nat)(p t:T)(e:aQ),p.rd<d→Cn t→(Ex S (bB d p t e).1↔jS S e∧Ex S (dj d p t))
 |0,_,_,_,h,_=>absurd h (fT _)
 |d+1,p,t,e,h,hc=>by
  have ih:=same d;have he:Ex S [([]:aQ)]↔True:=by rw[se];exact⟨λ_=>trivial,λ_=>l9⟩
  have hone:Ex S [e]↔jS S e:=se;show Ex S (l6 (bB d) p t e).1↔jS S e∧Ex S (nP (dj d) p t)
  induction p using T.casesOn with
   |num i=>induction t using T.casesOn<;>first|exact JD|exact zd
   |sym x=>
    induction hb:(T.sym x).blank with
    |true=>
     rw[show l6 (bB d) (.sym x) t e=(kt e x t,1)from if_pos hb,show nP (dj d) (.sym x) t= [[(x,t)]]from if_pos hb,zb,se,uC];exact⟨λh=>⟨h.1,h.2,l9⟩,λh=>⟨h.1,h.2.1⟩⟩
    |false=>
     have hn:¬ (T.sym x).blank=true:=hb▸aR;rw[show l6 (bB d) (.sym x) t e=_ from if_neg hn,show nP (dj d) (.sym x) t=_ from if_neg hn]
     induction t using T.casesOn<;>first|exact JD|exact zd
   |pow b i=>
    induction t using T.casesOn<;>first|exact zd|skip
    rename_i c j;simp only[cY]at h;show Ex S (bd (bB d (.num i) (.num j)) (bd (bB d b c) [e]).1).1↔jS S e∧Ex S (fF (dj d) [b,.num i] [c,.num j] [[]]);rw[uD (λe=>ih (.num i) (.num j) e (by simp only[cY];exact nw [_,_] (.d (.s (.s yA)) (.s yB) .n) (.s (.k 0)) yB rfl h) (by have:=hc.2.2;show 1≤j;omega)),uD (λe=>ih b c e (aX h) hc.1),oY,hone,he];simp only[Al,true_and,and_true,and_assoc]
   |call u=>
    induction t using T.casesOn<;>first|exact zd|skip
    rename_i v;simp only[cY]at h;show Ex S (bd (bB d u v) [e]).1↔jS S e∧Ex S (fF (dj d) [u] [v] [[]]);rw[uD (λe=>ih u v e (aX h) hc),oY,hone,he];simp only[Al,true_and,and_true]
   |sum ps=>
    induction t using T.casesOn<;>first|exact zd|skip
    simp only[cY]at h;exact vh (s:=true) ih (λp hp=>by have:=iT.mp (ak (xm ps)) p hp;exact nw [_,_,_] (.d (.s (.s yA)) (.s yB) (.d yC yA .n)) (.s yC) yB rfl h this) (nw [_,_] (.d (.s (.s yA)) (.s yB) .n) (.k 1) yB rfl h) hc
   |prod ps=>
    induction t using T.casesOn<;>first|exact zd|skip
    simp only[cY]at h;exact vh (s:=false) ih (λp hp=>by have:=iT.mp (ak (xm ps)) p hp;exact nw [_,_,_] (.d (.s (.s yA)) (.s yB) (.d yC yA .n)) (.s yC) yB rfl h this) (nw [_,_] (.d (.s (.s yA)) (.s yB) .n) (.k 1) yB rfl h) hc
end
mutual
noncomputable def T.bl:T→Nm→Bool
 |.num _,_=>false
 |.sym y,x=>y.blank&&decide (y=x)
 |.sum l,x=>Fb l x
 |.prod l,x=>Fb l x
 |.pow b _,x=>b.bl x
 |.call t,x=>t.bl x
noncomputable def Fb:List T→Nm→Bool
 | [],_=>false
 |t::l,x=>t.bl x||Fb l x
end
theorem xA:(∀(x:Nm),Fb [] x=false)∧(∀(x:Nm)(t:T)(l:List T),Fb (t::l) x=(t.bl x||Fb l x)):=⟨λ_=>rfl,λ_ _ _=>rfl⟩
theorem xP:(∀(x:Nm)(i:Int),(T.num i).bl x=false)∧(∀(x y:Nm),(T.sym y).bl x=(y.blank&&decide (y=x)))∧(∀(x:Nm)(l:List T),(T.sum l).bl x=Fb l x)∧(∀(x:Nm)(l:List T),(T.prod l).bl x=Fb l x)∧(∀(x:Nm)(b:T)(i:Int),(b.pow i).bl x=b.bl x)∧(∀(x:Nm)(t:T),t.call.bl x=t.bl x):=⟨λ_ _=>rfl,λ_ _=>rfl,λ_ _=>rfl,λ_ _=>rfl,λ_ _ _=>rfl,λ_ _=>rfl⟩
noncomputable def dom(e:aQ)(x:Nm):Bool:=(cM e x).isSome
theorem AF{e:aQ}{x:Nm}:dom e x=true↔∃t,(x,t)∈e:=by
 unfold dom
 induction e with
 |nil=>simp[j6]
 |cons p r ih=>
  obtain⟨y,u⟩:=p;rw[j6.2]
  by_cases h:y=x
  ·subst h;simp
  ·rw[if_neg h,ih];have h':¬x=y:=λe=>h e.symm;simp[h']
theorem AG{a b:aQ}{x:Nm}:dom (a++b) x=(dom a x||dom b x):=by
 rw[Bool.eq_iff_iff,dU,AF,AF,AF];simp only[List.mem_append,exists_or]
theorem v7{y x:Nm}{t:T}:dom [(y,t)] x=decide (y=x):=by
 unfold dom cM
 by_cases h:y=x<;>simp[h,j6]
theorem Ck{e e':aQ}{y:Nm}{t:T}(h:e'∈kt e y t)(x:Nm):dom e' x=(dom e x||decide (y=x)):=by
 unfold kt at h
 induction q:cM e y with
 |none=>
  rw[q]at h;rw[ae.mp h,AG,v7]
 |some u=>
  rw[q]at h;simp only at h;split at h
  ·rw[ae.mp h]
   by_cases hx:y=x
   ·subst hx;unfold dom;rw[q];simp
   ·simp[hx]
  ·exact cg h
theorem xB:∀ {r e g:aQ},d5 e r=some g→∀x,dom g x=(dom e x||dom r x)
 | [],e,g,h,x=>by obtain rfl:=Option.some.inj h;simp[dom,j6]
 |(y,t)::r,e,g,h,x=>by
  rw[vY.2]at h;have hc:dom ((y,t)::r) x=(decide (y=x)||dom r x):=by
   rw[show(y,t)::r= [(y,t)]++r from rfl,AG,v7]
  induction q:cM e y with
  |none=>
   rw[q]at h;rw[xB h,AG,v7,hc,AV]
  |some u=>
   rw[q]at h;simp only at h;split at h
   ·rw[xB h,hc]
    by_cases hx:y=x
    ·subst hx;unfold dom;rw[q];simp
    ·simp[hx]
   ·exact nsN h
theorem qW{r:rZ}{x:Nm}:∀ {ps ts:List T} {f:List aQ} {b:Bool} {g:aQ},(∀p∈ps,∀t,∀e∈r p t,dom e x=p.bl x)→ps.length≤ts.length→(∀e∈f,dom e x=b)→g∈fF r ps ts f→dom g x=(b||Fb ps x)
 | [],ts,f,b,g,_,_,hf,h=>by
  have:g∈f:=by induction ts using am<;>exact h
  rw[hf g this];simp[xA]
 |p::ps,[],_,_,_,_,hl,_,_=>by simp at hl
 |p::ps,t::ts,f,b,g,H,hl,hf,h=>by
  rw[Ax]at h;have:=qW (b:=b||p.bl x) (λq hq=>H q (.tail _ hq)) (by simpa using hl) (λe he=>by
   refine aG (List.mem_flatMap.mp he) λa ha he=>?_;refine aG (List.mem_flatMap.mp he) λo ho he=>?_
   induction q:d5 a o with
   |none=>rw[q]at he;exact cg he
   |some c=>
    rw[q]at he;rw[ae.mp he,xB q,hf a ha,H p (.head _) t o ho]) h
  rw[this,xA.2,AV]
theorem Fc(l:List T)(x:Nm):Fb l x=true↔∃p∈l,p.bl x=true:=by
 induction l with
 |nil=>simp[xA]
 |cons t l ih=>simp[xA,ih]
theorem xC(ps:List T)(x:Nm):Fb (aU ps) x=Fb ps x:=by
 rw[Bool.eq_iff_iff,Fc,Fc];refine exists_congr λp=>and_congr_left λ_=>⟨gz,λh=>?_⟩
 induction q:p.blank with
 |true=>exact bJ _ (List.mem_filter.mpr ⟨h,q⟩)
 |false=>exact cm _ (List.mem_filter.mpr ⟨h,by rw[q];rfl⟩)
theorem uE{m:jR}{s:Bool}{x:Nm}:∀ {ps ts:List T} {e e':aQ},(∀p∈ps,∀t e,∀e'∈(m p t e).1,dom e' x=(dom e x||p.bl x))→e'∈(cF m s ps ts e).1→dom e' x=(dom e x||Fb ps x)
 | [],ts,e,e',_,h=>by
  rw[ge.1]at h;simp only at h;split at h
  ·rw[ae.mp h];simp[xA]
  ·exact cg h
 |p::ps,ts,e,e',H,h=>by
  by_cases h1:ts.length<ps.length+1
  ·rw[ge.2,if_pos h1]at h;exact cg h
  induction h2:(ps.isEmpty&&p.blank)with
  |true=>
   rw[ge.2,if_neg h1,if_pos h2]at h;simp only[ay]at h2;rw[iE.mp h2.1]
   induction p using T.casesOn<;>first|(cases h2.2;done)|skip
   rename_i y;rw[Ck h];have:y.blank=true:=h2.2;simp[xA,xP,this]
  |false=>
   rw[ku h1 h2]at h;refine eo (tK.mp h) λi _ _ h=>?_
   induction q:ts[i]? with
   |none=>rw[mP q]at h;exact cg h
   |some t=>
    rw[i7 q]at h;refine aG (jw.mp h) λa ha h=>?_;rw[uE (λq hq=>H q (.tail _ hq)) h,H p (.head _) t e a ha,xA.2,AV]
theorem v8{b:Bool}{e e':aQ}(h:e'∈if b then [e]else []):e'=e:=by
 induction b with
 |true=>exact ae.mp h
 |false=>exact cg h
theorem ze(x:Nm):∀(d:Nat)(p t:T)(e:aQ),∀e'∈(bB d p t e).1,dom e' x=(dom e x||p.bl x)
 |0,_,_,_,_,h=>by exact cg h
 |d+1,p,t,e,e',h=>by
  have ih:=ze x d;refine xn (P := λp t r => e' ∈ r.1 → dom e' x = (dom e x || p.bl x)) (λhb h => ?_) (λ_ _ h => (congrArg (dom · x) (v8 h)).trans (n6 _).symm) (λy _ hb h => ?_) (λb i c j h => ?_) (λu v h => ?_) (λps ts h => ?_) (λps ts h => ?_) (λ_ _ h => cg h) h
  ·induction p using T.casesOn<;>first|exact dC hb|skip
   have hb:Nm.blank _=true:=hb;rw[Ck h,xP.2.1,hb,jb]
  ·have hy:y.blank=false:=hb;rw[v8 h,xP.2.1,hy];exact(n6 _).symm
  ·refine aG (jw.mp h) λa ha h=>?_;refine aG (jw.mp ha) λa' ha' ha=>?_;rw[ae.mp ha']at ha;rw[ih _ _ _ _ h,ih _ _ _ _ ha];exact n6 _
  ·refine aG (jw.mp h) λa ha h=>?_;rw[ae.mp ha]at h;exact(ih u v e e' h:)
  ·rw[uE (s:=true) (λp _=>ih p) h,xC];rfl
  ·rw[uE (s:=false) (λp _=>ih p) h,xC];rfl
theorem xD{r:rZ}{x:Nm}{s:Bool}{ps ts:List T}{e:aQ}(H:∀p t,∀e∈r p t,dom e x=p.bl x)(h:e∈gX r s ps ts):dom e x=Fb ps x:=by
 refine aG (List.mem_flatMap.mp h) λrow hr h=>?_;unfold dh at h;split at h
 ·exact cg h
 have hl:=i9 _ _ row hr;rw[qW (b:=false) (λp _=>H p) ?_ (λe he=>by rw[ae.mp he];rfl) h,jc,xC];unfold gg;unfold d9 at hl;rw[aj,aN,hl];split<;>simp<;>exact(a6 _ _)
theorem Cl(x:Nm):∀(d:Nat)(p t:T),∀e∈dj d p t,dom e x=p.bl x
 |0,_,_,_,h=>by exact cg h
 |d+1,p,t,e,h=>by
  have ih:=Cl x d;have h0:∀e∈ [([]:aQ)],dom e x=false:=λe he=>by rw[ae.mp he];rfl
  refine Ca (P := λp t r => e ∈ r → dom e x = p.bl x) (λy hb _ h => ?_) (λ_ _ h => congrArg (dom · x) (v8 h)) (λy _ hb h => ?_) (λb i c j h => ?_) (λu v h => ?_) (λps ts h => xD ih h) (λps ts h => xD ih h) (λ_ _ h => cg h) h
  ·have hb:y.blank=true:=hb;rw[ae.mp h,v7,xP.2.1,hb,jb]
  ·have hy:y.blank=false:=hb;rw[v8 h,xP.2.1,hy];rfl
  ·rw[qW (λp _=>ih p) (by exact ak _) h0 h];exact(jc _).trans (n6 _)
  ·rw[qW (λp _=>ih p) (by exact ak _) h0 h];exact(jc _).trans (n6 _)
noncomputable def asg(e:aQ)(x:Nm):T:=(cM e x).getD (.num 0)
theorem Cm{e:aQ}(h:iK e):jS (asg e) e:=λp hp=>by unfold asg;rw[nQ h.nod hp];rfl
theorem xE{d:Nat}{p t:T}(hp:MP p)(hrd:p.rd<d)(ht:QR t):((bB d p t []).1= []↔dj d p t= [])∧(∀e∈(bB d p t []).1,iK e)∧(∀e∈dj d p t,iK e)∧∀e∈(bB d p t []).1,∃f∈dj d p t,∀x,cM f x=cM e x:=by
 have o1:=(qh d _ (ak _) p t [] ⟨hp,hrd⟩ ht.1 .nil).1;have o2:=(tI d _ (ak _) p t ⟨hp,hrd⟩ ht).1;have key:∀e∈(bB d p t []).1,∃f∈dj d p t,∀x,cM f x=cM e x:=λe he=>by
  refine aB ((same d p t [] hrd ht.1.cn).mp (aV e he (Cm (o1 e he)))) λ_ z1=>?_;refine aG z1 λf hf k=>?_;refine aV f hf (λx=>?_);have d1:=ze x d p t [] e he;have d2:=Cl x d p t f hf;have d0:dom [] x=false:=rfl;rw[d0,jc,←d2]at d1
  induction q:cM f x with
  |none=>
   unfold dom at d1;rw[q]at d1
   induction q2:cM e x with
   |none=>rfl
   |some u=>rw[q2]at d1;exact m7 d1
  |some u=>
   have:=k _ (kx q);unfold asg at this;unfold dom at d1;rw[q]at d1
   induction q2:cM e x with
   |none=>rw[q2]at d1;exact dC d1
   |some v=>rw[q2]at this;exact congrArg some this.symm
 refine⟨⟨λh=>?_,λh=>?_⟩,o1,o2,key⟩
 ·induction q:dj d p t using am with
  |nil=>rfl
  |cons f r=>
   have hf:f∈dj d p t:=by rw[q];exact .head _
   refine aG ((same d p t [] hrd ht.1.cn).mpr ⟨l9,f,hf,Cm (o2 f hf)⟩) λe he _=>?_;rw[h]at he;exact cg he
 ·induction q:(bB d p t []).1 using am with
  |nil=>rfl
  |cons e r=>
   refine aG (key e (by rw[q];exact .head _)) λf hf _=>?_;rw[h]at hf;exact cg hf
theorem AH(e:aQ)(l:List aQ):SeqAt.shaped (cC (e::l))=false:=by
 unfold SeqAt.shaped cC;simp[bN,bo]
theorem qX(l:List aQ):iI .Eq (cC l) (.list [])=some l.isEmpty:=by
 show nj .Eq (cC l) (.list [])=_;refine im ..▸?_;show Fn (cC l) (.list [])=_;unfold Fn
 induction l using am with
 |nil=>refine(show SeqAt.shaped (cC [])=true by decide+kernel).symm▸(show SeqAt.shaped (.list [])=true by decide+kernel).symm▸?_;rfl
 |cons e l=>rw[AH,rI,if_neg (by simp)];rfl
theorem zf{e:aQ}(h:iK e):ji (bH e)=true:=aM.mpr λp hp=>by
 refine aG (List.mem_map.mp hp) λq hq z1=>?_;obtain rfl:=z1;simp only[ay];exact⟨rN (rY q.1),ia (h.dp q hq)⟩
theorem xF{e:aQ}{l:List aQ}(he:iK e)(hl:∀f∈l,iK f):iI .NotIn (.dict (bH e)) (cC l)=some (!l.any λf=>mU (bH f) (bH e)):=by
 show nj .NotIn (.dict (bH e)) (cC l)=_;refine im ..▸?_;show(Kh (.dict (bH e)) (l.map λe=>fI (bH e))).map (λb=>!b)=_;unfold Kh;rw[show SeqAt.shaped (.dict (bH e))=false by unfold SeqAt.shaped;simp[bN],rI,if_neg (by simp)];simp only;rw[if_pos (by
  refine ay ..▸?_;refine⟨zf he,?_⟩;rw[vj,aM];exact λf hf=>zf (hl f hf))]
 simp only[gO,List.any_map];rfl
theorem GG{e f:aQ}(he:iK e)(hf:iK f)(h:∀x,cM f x=cM e x):mU (bH f) (bH e)=true:=by
 have sub {e f:aQ} (hf:iK f) (h:∀x,cM f x=cM e x):f.length≤e.length:=by
  have:=Au (f.map (·.1)) (e.map (·.1)) hf.nod λx hx=>by
   refine aG (List.mem_map.mp hx) λp hp z2=>?_;obtain rfl:=z2;have:=nQ hf.nod hp;rw[h]at this;exact List.mem_map.mpr (aV _ (kx this) rfl)
  simpa using this
 unfold mU;refine ay ..▸?_;refine⟨by simp only[bH,aN,beq_iff_eq];exact aC ((sub hf h)) ((sub he λx=>(h x).symm)),aM.mpr λp hp=>?_⟩;refine aG (List.mem_map.mp hp) λq hq z3=>?_;obtain rfl:=z3;simp only;refine ut ..▸(h ..)▸nQ hf.nod hq ..▸?_;show aO (a9 q.2) (a9 q.2)=true;refine mE ..▸?_;exact de _
theorem LQ{d:Nat}{p t:T}(hp:MP p)(hrd:p.rd<d)(ht:QR t){e:aQ}{r:List aQ}(h:(bB d p t []).1=e::r):iI .NotIn (.dict (bH e)) (cC (dj d p t))=some false:=by
 refine eL (xE hp hrd ht) λ_ o1 o2 k=>?_;have he:e∈(bB d p t []).1:=by refine h ..▸?_;exact .head _
 refine xF (o1 e he) o2 ..▸?_;refine aG (k e he) λf hf hx=>?_;refine(show((dj d p t).any λf=>mU (bH f) (bH e))=true from iD.mpr (aV f hf (GG (o1 e he) (o2 f hf) hx))).symm▸?_;rfl
noncomputable def Fd(n:Nat):Prop:=∀b,gk b→∃b',Call n (ofString "_law_lead_out") [.l 1] (iq b) (.c (.v (.bool true)) (iq b'))
theorem Co{n:Nat}(hn:41≤n){t u:T}(h:OP t u)(hc:Cn t)(hv:t.val≤19683)(hl:t.lf≤9)(hd:t.dp≤8):bU n (ofString "simplify") [a9 u] (a9 (bw u))∧Cn (bw u)∧(bw u).dp≤10:=by
 refine eL (NQ h hc hv hl hd) λa b c d=>?_;exact⟨eJ 8 n u a (nw [_,_,_] (.d yA (.k 8) (.d yB yA (.d (.s yC) yB .n))) yC (.k 8) rfl hd d (BR u)) hn,b,by exact nw [_,_] (.d yA (.k 8) (.d yB (.a yA (.k 2)) .n)) yB (.k 10) rfl hd c⟩
section
variable {n:Nat}
noncomputable def vC(l:List Int)(b:B6)(x y z u v:Option B):St:=⟨[(ofString "script",some (.v (.list (l.map .int)))),(ofString "box",some (.l 1)),(ofString "turn",x),(ofString "term",y),(ofString "pattern",z),(ofString "every",u),(ofString "told",v)],iq b⟩
noncomputable def JE(n:Nat)(t p:T):Prop:=Cn t∧t.val≤19683∧t.lf≤9∧t.dp≤8∧Cn p∧p.dp≤10
structure Qj (n:Nat) (p t:T) where
 every:List aQ
 rows:List aQ
 re:bU n (ofString "_law_readings") [a9 p,a9 t] (cC every)
 ro:bU n (ofString "match") [a9 p,a9 t] (Mz rows)
 none:rows= []↔every= []
 some:∀e r,rows=e::r→iI .NotIn (.dict (bH e)) (cC every)=some false
theorem LR(hn:77≤n){t p:T}(h:JE n t p)(hst:t.small=true)(hsp:p.small=true):Nonempty (Qj n p t):=by
 refine CK h λtc tv tl td pc pd=>?_;clear h;have ht:QR t:=⟨⟨tc,by exact nw [_,_] (.d yA (.k 19683) (.d (.k 1099511627776) yB .n)) yA yB rfl tv (ah (rfl:Vb=1099511627776).symm),aa tl (by decide),dQ td,hst⟩,tl⟩
 have hp:MP p:=⟨pc,hsp,aa pd (by decide)⟩
 have hrd:p.rd<7:=by have:=(O7 pc).1;exact(ms _ _).elim (λq0=>nk [_,_,_] (.d (.m 3 yA) (.s (.m 2 yB)) (.c 2 yB yC (.c 2 (.s yC) (.k 1) .n))) 3 (.s yA) (.k 7) rfl this (dH _ _) q0) (λq0=>nk [_,_,_] (.c 2 yA (.k 10) (.d (.m 3 yB) (.s (.m 2 yC)) (.c 2 (.s yC) yA .n))) 3 (.s yB) (.k 7) rfl pd this (ah (az q0)))
 refine eL (xE hp hrd ht) λk1 _ _ _=>?_;exact⟨⟨dj 7 p t,(bB 7 p t []).1,(tI 7 n (aa (by decide) hn) p t ⟨hp,hrd⟩ ht).2,y5 (d:=7) hn ⟨hp,hrd⟩ ht.1 (B4 ht.1.cn hst ht.2),k1,λe r h=>LQ hp hrd ht h⟩⟩
theorem GH(hn:77≤n){l:List Int}:∀(items:List ab)(b:B6)(x y z u v:Option B),gk b→
  ∃b' x' y' z' u' v',gk b'∧fO (Call n) (ofString "law") (bY 100) [1] items (vC l b x y z u v) .next (vC l b' x' y' z' u' v'):=by
 intro items
 induction items with
 |nil=>exact λb x y z u v hb=>PJ b x y z u v hb rfl rfl
 |cons i items ih=>
  intro b x y z u v hb;have nx:∀ {b'} {y' z' u' v':Option B},gk b'→(wO (Call n) (ofString "law") (bY 100) [1] i (vC l b x y z u v)).sat (·=.f .next (vC l b' (some (.v i)) y' z' u' v'))→∃b' x' y' z' u' v',gk b'∧fO (Call n) (ofString "law") (bY 100) [1] (i::items) (vC l b x y z u v) .next (vC l b' x' y' z' u' v'):=λ{b'} {y'} {z'} {u'} {v'} hb h=>by
   refine MJ (ih b' (some (.v i)) y' z' u' v' hb) λb2 x2 y2 z2 u2 v2 hb2 r=>?_;exact N9 b2 x2 y2 z2 u2 v2 hb2 (.next h r)
  have ct:∀ {b'} {y' z' u' v':Option B},gk b'→(wO (Call n) (ofString "law") (bY 100) [1] i (vC l b x y z u v)).sat (·=.f .cont (vC l b' (some (.v i)) y' z' u' v'))→∃b' x' y' z' u' v',gk b'∧fO (Call n) (ofString "law") (bY 100) [1] (i::items) (vC l b x y z u v) .next (vC l b' x' y' z' u' v'):=λ{b'} {y'} {z'} {u'} {v'} hb h=>by
   refine MJ (ih b' (some (.v i)) y' z' u' v' hb) λb2 x2 y2 z2 u2 v2 hb2 r=>?_;exact N9 b2 x2 y2 z2 u2 v2 hb2 (.cont h r)
  have n5:5≤n:=aa (by decide) hn;have n35:35≤n:=aa (by decide) hn;refine dS (B9 2 n n5 false b hb) λ_ b1 z4 hb1 r1=>?_;refine aG z4 λt0 z1 ht0=>?_;clear z4;obtain rfl:=z1;refine aB (QP ht0) λB1 rd0=>?_;have s1:=eJ 2 n t0 B1.sb rd0 n35;refine dE (oS B1.rw) λtc tv tl=>?_;have td:(bw t0).dp≤8:=B1.dp;have tv2:(bw t0).val≤19683:=by have:=B1.val;exact aa tv this
  have tl2:(bw t0).lf≤9:=by have:=B1.lr;exact aa tl this
  generalize bw t0=t at*
  have sm:=tG 8 n t (by have:=BR t;exact nw [_,_] (.d yA (.k 8) (.d (.s yB) yA .n)) yB (.k 8) rfl td this) (aa (by decide) hn);refine dS (gJ (aa (by decide) hn:1≤n) (w:=3) (by decide) b1 hb1) λ_ b2 z5 hb2 r2=>?_;refine eo z5 λw z2 w0 w3=>?_;clear z5;obtain rfl:=z2;have fin:∀ {u0 p:T} {b3:B6},Cn p→p.dp≤10→gk b3→bU n (ofString "simplify") [a9 u0] (a9 p)→
   (w=0→Call n (ofString "_law_term") [.l 1,.v (.int 2),.v (.bool true)] (iq b2) (.c (.v (a9 u0)) (iq b3)))→((w==0)=false→Call n (ofString "_law_opened") [.l 1,.v (a9 t)] (iq b2) (.c (.v (a9 u0)) (iq b3)))→
   ∃b' x' y' z' u' v',gk b'∧fO (Call n) (ofString "law") (bY 100) [1] (i::items) (vC l b x y z u v) .next (vC l b' x' y' z' u' v'):=λ{u0} {p} {b3} pc pd hb3 s2 c1 c2=>by
   have sp:=tG 10 n p (by have:=BR p;exact nw [_,_] (.d yA (.k 10) (.d (.s yB) yA .n)) yB (.k 10) rfl pd this) (aa (by decide) hn);have pr:=LR hn (⟨tc,tv2,tl2,td,pc,pd⟩:JE n t p)
   induction q:(w==0)with
   |true=>
    have c:=c1 (beq_iff_eq.mp q)
    induction hst:t.small with
    |false=>
     rw[hst]at sm;refine ct (y':=some (.v (a9 t))) (z':=some (.v (a9 p))) (u':=u) (v':=v) hb3 ?_;exact le [(0,F.call (r1)),(0,ar (s1)),(0,F.call (r2)),(1,F.b (q)),(0,F.call (c)),(0,ar (s2)),(0,ar (sm))] (by kernel_rfl)
    |true=>induction hsp:p.small with
     |false=>
      rw[hst]at sm;rw[hsp]at sp;refine ct (y':=some (.v (a9 t))) (z':=some (.v (a9 p))) (u':=u) (v':=v) hb3 ?_;exact le [(0,F.call (r1)),(0,ar (s1)),(0,F.call (r2)),(1,F.b (q)),(0,F.call (c)),(0,ar (s2)),(0,ar (sm)),(2,ar (sp))] (by kernel_rfl)
     |true=>
      obtain⟨every,rows,re,ro,k1,k2⟩:=pr hst hsp;rw[hst]at sm;rw[hsp]at sp
      induction rows using am with
      |nil=>
       have:=k1.mp rfl;subst this;refine nx (y':=some (.v (a9 t))) (z':=some (.v (a9 p))) (u':=some (.v (cC []))) (v':=some (.v .none)) hb3 ?_;exact le [(0,F.call (r1)),(0,ar (s1)),(0,F.call (r2)),(1,F.b (q)),(0,F.call (c)),(0,ar (s2)),(0,ar (sm)),(2,ar (sp)),(3,ar (re)),(0,ar (ro)),(1,bx (qX []))] (by kernel_rfl)
      |cons e rows=>
       induction every using am with
       |nil=>exact absurd (k1.mpr rfl) (λe=>by cases e)
       |cons f every=>
        refine nx (y':=some (.v (a9 t))) (z':=some (.v (a9 p))) (u':=some (.v (cC (f::every)))) (v':=some (.v (.dict (bH e)))) hb3 ?_;exact le [(0,F.call (r1)),(0,ar (s1)),(0,F.call (r2)),(1,F.b (q)),(0,F.call (c)),(0,ar (s2)),(0,ar (sm)),(2,ar (sp)),(3,ar (re)),(0,ar (ro)),(1,bx (qX (f::every))),(4,bx ((k2 e rows rfl)))] (by kernel_rfl)
   |false=>
    have c:=c2 q
    induction hst:t.small with
    |false=>
     rw[hst]at sm;refine ct (y':=some (.v (a9 t))) (z':=some (.v (a9 p))) (u':=u) (v':=v) hb3 ?_;exact le [(0,F.call (r1)),(0,ar (s1)),(0,F.call (r2)),(1,F.b (q)),(0,F.call (c)),(0,ar (s2)),(0,ar (sm))] (by kernel_rfl)
    |true=>induction hsp:p.small with
     |false=>
      rw[hst]at sm;rw[hsp]at sp;refine ct (y':=some (.v (a9 t))) (z':=some (.v (a9 p))) (u':=u) (v':=v) hb3 ?_;exact le [(0,F.call (r1)),(0,ar (s1)),(0,F.call (r2)),(1,F.b (q)),(0,F.call (c)),(0,ar (s2)),(0,ar (sm)),(2,ar (sp))] (by kernel_rfl)
     |true=>
      obtain⟨every,rows,re,ro,k1,k2⟩:=pr hst hsp;rw[hst]at sm;rw[hsp]at sp
      induction rows using am with
      |nil=>
       have:=k1.mp rfl;subst this;refine nx (y':=some (.v (a9 t))) (z':=some (.v (a9 p))) (u':=some (.v (cC []))) (v':=some (.v .none)) hb3 ?_;exact le [(0,F.call (r1)),(0,ar (s1)),(0,F.call (r2)),(1,F.b (q)),(0,F.call (c)),(0,ar (s2)),(0,ar (sm)),(2,ar (sp)),(3,ar (re)),(0,ar (ro)),(1,bx (qX []))] (by kernel_rfl)
      |cons e rows=>
       induction every using am with
       |nil=>exact absurd (k1.mpr rfl) (λe=>by cases e)
       |cons f every=>
        refine nx (y':=some (.v (a9 t))) (z':=some (.v (a9 p))) (u':=some (.v (cC (f::every)))) (v':=some (.v (.dict (bH e)))) hb3 ?_;exact le [(0,F.call (r1)),(0,ar (s1)),(0,F.call (r2)),(1,F.b (q)),(0,F.call (c)),(0,ar (s2)),(0,ar (sm)),(2,ar (sp)),(3,ar (re)),(0,ar (ro)),(1,bx (qX (f::every))),(4,bx ((k2 e rows rfl)))] (by kernel_rfl)
  induction q:(w==0)with
  |true=>
   refine dS (B9 2 n n5 true b2 hb2) λ_ b3 z6 hb3 r3=>?_;refine aG z6 λu0 z3 hu0=>?_;clear z6;obtain rfl:=z3;refine aB (QP hu0) λB2 rd2=>?_;exact fin (oS B2.rw).1 (aa B2.dp (by decide)) hb3 (eJ 2 n u0 B2.sb rd2 n35) (λ_=>r3) (λe=>by rw[q]at e;exact m7 e)
  |false=>
   refine dS (DW 9 n t (by have:=BR t;exact aa this (aa td (by decide))) (aa (by decide) hn) (aa tl2 (by decide)) tc b2 hb2) λ_ b3 z7 hb3 r3=>?_;refine aG z7 λu0 z4 hu0=>?_;clear z7;obtain rfl:=z4;refine dE (Co (aa (by decide) hn:41≤n) hu0 tc tv2 tl2 td) λhs pc pd=>?_;exact fin pc pd hb3 hs (λe=>by subst e;exact m7 q) (λ_=>r3)
theorem JF(hn:78≤n)(H:Fd (n-1)){l:List Int}(hl:l.length≤63):bU n (ofString "law") [.list (l.map .int)] (.bool true):=by
 refine aG (LH (n:=n-1) (fz 1 hn) hl) λb0 hb0 r0=>?_;refine MJ (GH (n:=n-1) (fz 77 hn) (l:=l) [.int 0,.int 1] b0 none none none none none hb0) λb x y z u v hb r=>?_;refine aY (H b hb) λb' r2=>?_;exact aT (pos hn) OB [(0,F.call (r0)),(1,F.loop (r)),(0,F.call (r2))] (by kernel_rfl)
end
noncomputable def cJ:T→List T
 |.sum l=>l
 |.prod l=>l
 |.call t=> [t]
 |.pow b i=> [b,.num i]
 |_=> []
noncomputable def kI:T→List T→T
 |.sum _,l=>.sum l
 |.prod _,l=>.prod l
 |.call _,t::_=>.call t
 |t,_=>t
mutual
noncomputable def kA(e:aQ):T→T
 |.num i=>.num i
 |.sym x=>(cM e x).getD (.sym x)
 |.sum l=>.sum (AI e l)
 |.prod l=>.prod (AI e l)
 |.pow b i=>.pow (kA e b) i
 |.call t=>.call (kA e t)
noncomputable def AI(e:aQ):List T→List T
 | []=> []
 |t::l=>kA e t::AI e l
end
theorem NR:(∀(e:aQ),AI e []= [])∧(∀(e:aQ)(t:T)(l:List T),AI e (t::l)=kA e t::AI e l):=⟨λ_=>rfl,λ_ _ _=>rfl⟩
theorem JG:(∀(e:aQ)(i:Int),kA e (T.num i)=T.num i)∧(∀(e:aQ)(x_1:Nm),kA e (T.sym x_1)=(cM e x_1).getD (T.sym x_1))∧(∀(e:aQ)(l:List T),kA e (T.sum l)=T.sum (AI e l))∧(∀(e:aQ)(l:List T),kA e (T.prod l)=T.prod (AI e l))∧(∀(e:aQ)(b:T)(i:Int),kA e (b.pow i)=(kA e b).pow i)∧(∀(e:aQ)(t:T),kA e t.call=(kA e t).call):=⟨λ_ _=>rfl,λ_ _=>rfl,λ_ _=>rfl,λ_ _=>rfl,λ_ _ _=>rfl,λ_ _=>rfl⟩
mutual
noncomputable def T.easy:T→Bool
 |.num i=>decide (1≤i)&&decide (i≤1000)
 |.sym _=>true
 |.sum l=>qm l&&!l.isEmpty
 |.prod l=>qm l&&!l.isEmpty
 |.pow _ _=>false
 |.call t=>t.easy
noncomputable def qm:List T→Bool
 | []=>true
 |t::l=>t.easy&&qm l
end
theorem v9:(qm []=true)∧(∀(t:T)(l:List T),qm (t::l)=(t.easy&&qm l)):=⟨rfl,λ_ _=>rfl⟩
theorem kB:(∀(i:Int),(T.num i).easy=(decide (1≤i)&&decide (i≤1000)))∧(∀(x_1:Nm),(T.sym x_1).easy=true)∧(∀(l:List T),(T.sum l).easy=(qm l&&!l.isEmpty))∧(∀(l:List T),(T.prod l).easy=(qm l&&!l.isEmpty))∧(∀(b:T)(i:Int),(b.pow i).easy=false)∧(∀(t:T),t.call.easy=t.easy):=⟨λ_=>rfl,λ_=>rfl,λ_=>rfl,λ_=>rfl,λ_ _=>rfl,λ_=>rfl⟩
mutual
noncomputable def T.sz:T→Nat
 |.num _=>1
 |.sym _=>1
 |.sum l=>zg l+1
 |.prod l=>zg l+1
 |.pow b _=>b.sz+2
 |.call t=>t.sz+1
noncomputable def zg:List T→Nat
 | []=>0
 |t::l=>t.sz+zg l
end
theorem Cp:(zg []=0)∧(∀(t:T)(l:List T),zg (t::l)=t.sz+zg l):=⟨rfl,λ_ _=>rfl⟩
theorem NU:(∀(i:Int),(T.num i).sz=1)∧(∀(x_1:Nm),(T.sym x_1).sz=1)∧(∀(l:List T),(T.sum l).sz=zg l+1)∧(∀(l:List T),(T.prod l).sz=zg l+1)∧(∀(b:T)(i:Int),(b.pow i).sz=b.sz+2)∧(∀(t:T),t.call.sz=t.sz+1):=⟨λ_=>rfl,λ_=>rfl,λ_=>rfl,λ_=>rfl,λ_ _=>rfl,λ_=>rfl⟩
mutual
noncomputable def T.sbB:T→Bool
 |.num _=>true
 |.sym _=>true
 |.sum l=>yn l&&decide (fB (cj l)≤Vb)&&decide (eD (cj l)≤60)&&decide (k6 (cj l)≤8)
 |.prod l=>yn l&&decide (dA (cj l)≤Vb)&&decide (eD (cj l)≤60)&&decide (k6 (cj l)≤8)
 |.pow _ _=>false
 |.call t=>t.sbB
noncomputable def yn:List T→Bool
 | []=>true
 |t::l=>t.sbB&&yn l
end
theorem DY:(yn []=true)∧(∀(t:T)(l:List T),yn (t::l)=(t.sbB&&yn l)):=⟨rfl,λ_ _=>rfl⟩
theorem AK:(∀(i:Int),(T.num i).sbB=true)∧(∀(x_1:Nm),(T.sym x_1).sbB=true)∧(∀(l:List T),(T.sum l).sbB=(yn l&&decide (fB (cj l)≤Vb)&&decide (eD (cj l)≤60)&&decide (k6 (cj l)≤8)))∧(∀(l:List T),(T.prod l).sbB=(yn l&&decide (dA (cj l)≤Vb)&&decide (eD (cj l)≤60)&&decide (k6 (cj l)≤8)))∧(∀(b:T)(i:Int),(b.pow i).sbB=false)∧(∀(t:T),t.call.sbB=t.sbB):=⟨λ_=>rfl,λ_=>rfl,λ_=>rfl,λ_=>rfl,λ_ _=>rfl,λ_=>rfl⟩
noncomputable def GZ(t:T):Bool:=decide (t.val≤Vb)&&decide (t.lf≤9)&&decide (t.dp≤9)&&t.small&&t.easy&&decide (t.sz≤60)
noncomputable def DZ(t:T):Bool:=t.easy&&t.sbB&&decide (t.rd≤8)&&decide (t.sz≤60)&&decide ((bw t).dp≤64)
noncomputable abbrev gm:=List (T×T)
noncomputable def j7:gm→T→Option (Option T)
 | [],_=>some none
 |(p,r)::rs,t=>match(bB 3 p t []).1 with
  | []=>j7 rs t
  |e::_=>if DZ (kA e r)then some (some (bw (kA e r)))else none
theorem zh:(∀(x:T),j7 [] x=some none)∧(∀(x p r:T)(rs:List (T×T)),j7 ((p,r)::rs) x=match(bB 3 p x []).fst with| []=>j7 rs x|e::tail=>if DZ (kA e r)=true then some (some (bw (kA e r)))else none):=⟨λ_=>rfl,λ_ _ _ _=>rfl⟩
noncomputable def tL(f:T→Option (T×Bool)):List T→List T→Option (Option (List T))
 |_,[]=>some none
 |dn,p::r=>match f p with
  |none=>none
  |some (u,true)=>some (some (dn++u::r))
  |some (_,false)=>tL f (dn++ [p]) r
theorem NS:(∀(f:T→Option (T×Bool))(x:List T),tL f x []=some none)∧(∀(f:T→Option (T×Bool))(x:List T)(p:T)(r:List T),tL f x (p::r)=match f p with|none=>none|some (u,true)=>some (some (x++u::r))|some (fst,false)=>tL f (x++ [p]) r):=⟨λ_ _=>rfl,λ_ _ _ _=>rfl⟩
noncomputable def tM(f:T→Option (T×Bool))(t:T):Option (T×Bool):=match tL f [] (cJ t)with
 |none=>none
 |some none=>some (t,false)
 |some (some l)=>if DZ (kI t l)then some (bw (kI t l),true)else none
noncomputable def ja(rs:gm):Nat→T→Option (T×Bool)
 |0,_=>none
 |d+1,t=>if GZ t then(match j7 rs t with
  |none=>none
  |some (some u)=>if lQ u t then tM (ja rs d) t else some (u,true)
  |some none=>tM (ja rs d) t)else none
theorem LS:(∀(rs:gm)(x:T),ja rs 0 x=none)∧(∀(rs:gm)(x:T)(d:Nat),ja rs d.succ x=if GZ x=true then match j7 rs x with|none=>none|some (some u)=>if lQ u x=true then tM (ja rs d) x else some (u,true)|some none=>tM (ja rs d) x else none):=⟨λ_ _=>rfl,λ_ _ _=>rfl⟩
noncomputable def iA(rs:gm):Nat→T→Option T
 |0,t=>some t
 |k+1,t=>match ja rs 6 t with
  |none=>none
  |some (u,true)=>if GZ u then iA rs k u else none
  |some (u,false)=>some u
theorem xG:(∀(rs:gm)(x:T),iA rs 0 x=some x)∧(∀(rs:gm)(x:T)(d:Nat),iA rs d.succ x=match ja rs 6 x with|none=>none|some (u,true)=>if GZ u=true then iA rs d u else none|some (u,false)=>some u):=⟨λ_ _=>rfl,λ_ _ _=>rfl⟩
noncomputable def cR(i:Int)(t:T):T:=.prod [.num i,t]
noncomputable def eU:gm:=(.call (.sum [.sym .a_,.sym .b_]),.sum [.call (.sym .a_),.call (.sym .b_)]):: [2,3,4].map λk=>(.call (cR k (.sym .b_)),cR k (.call (.sym .b_)))
noncomputable def jx(a b c:Int):T:=.call (.sum [cR a (.sym .x),cR b (.sym .y),cR c (.sym .z)])
noncomputable def lg(a b c:Int):T:=.sum [cR a (.call (.sym .x)),cR b (.call (.sym .y)),cR c (.call (.sym .z))]
noncomputable def vi(i:Int):Nat:=if 1<i then 1 else 0
noncomputable def cX(a b c:Int):Nat:=2+(vi a+(vi b+vi c))
noncomputable def zi(rs:gm):Nat→T→Option T
 |0,t=>some t
 |k+1,t=>match ja rs 6 t with
  |some (u,true)=>if GZ u then zi rs k u else none
  |_=>none
theorem LU:(∀(rs:gm)(x:T),zi rs 0 x=some x)∧(∀(rs:gm)(x:T)(d:Nat),zi rs d.succ x=match ja rs 6 x with|some (u,true)=>if GZ u=true then zi rs d u else none|x=>none):=⟨λ_ _=>rfl,λ_ _ _=>rfl⟩
theorem mR{rs:gm}{m:Nat}{u:T}:∀ {k:Nat} {t:T},zi rs k t=some u→iA rs (k+m) t=iA rs m u
 |0,t,h=>by obtain rfl:=Option.some.inj h;exact ce ..▸rfl
 |k+1,t,h=>by
  rw[LU.2]at h;refine cL ..▸?_;rw[show iA rs (k+m+1) t=(match ja rs 6 t with
   |none=>none
   |some (u,true)=>if GZ u then iA rs (k+m) u else none
   |some (u,false)=>some u)from rfl]
  induction q:ja rs 6 t with
  |none=>rw[q]at h;exact nsN h
  |some p=>
   obtain⟨v,b⟩:=p;rw[q]at h
   induction b with
   |false=>exact nsN h
   |true=>
    simp only at h⊢;split at h
    ·rename_i hk;refine if_pos hk ..▸?_;exact mR h
    ·exact nsN h
noncomputable def xH(a b c:Int):Bool:=DZ (jx a b c)&&DZ (lg a b c)&&match zi eU (cX a b c-1) (bw (jx a b c))with
 |none=>false
 |some u=>match ja eU 6 u with
  |some (v,true)=>match ja eU 6 v with
   |some (w,false)=>GZ v&&decide (u.dp≤64)&&!lQ u (bw (lg a b c))&&lQ v (bw (lg a b c))&&lQ w v
   |_=>false
  |_=>false
theorem xI(e:aQ):∀l:List T,AI e l=l.map (kA e)
 | []=>rfl
 |t::l=>by rw[NR.2,xI e l];rfl
theorem zj:∀ {l:List T},qm l=true↔∀t∈l,t.easy=true
 | []=>by simp[v9]
 |t::l=>by simp[v9,zj (l:=l)]
theorem Cq{t u:T}(h:u∈cJ t):u.rd<t.rd:=by
 induction t using T.casesOn with
 |num _=>exact cg h
 |sym _=>exact cg h
 |sum l=>have:=iT.mp (ak (xm l)) u h;simp only[cY];exact bh this
 |prod l=>have:=iT.mp (ak (xm l)) u h;simp only[cY];exact bh this
 |pow b i=>
  simp only[cJ,aA,pt,or_false]at h;rcases h with rfl|rfl<;>simp only[cY]<;>omega
 |call v=>refine ae.mp h ..▸?_;simp only[cY];exact ak _
theorem sf{t u:T}(ht:t.easy=true)(h:u∈cJ t):u.easy=true:=by
 induction t using T.casesOn with
 |num _=>exact cg h
 |sym _=>exact cg h
 |pow b i=>exact dC ht
 |call v=>refine ae.mp h ..▸?_;exact ht
 |_=>
  simp only[kB,ay]at ht;exact zj.mp ht.1 u h
theorem xJ(t:T):zg (cJ t)+1=t.sz:=by
 induction t using T.casesOn<;>simp only[cJ,Cp,NU]<;>omega
theorem NT(t:T):1≤t.sz:=by refine(xJ ..)▸?_;exact aD _ _
theorem wa:∀l:List T,l.length≤zg l
 | []=>ak _
 |t::l=>by have:=NT t;have:=wa l;simp only[aP,Cp];exact nw [_,_,_] (.d (.k 1) yA (.d yB yC .n)) (.s yB) (.a yA yC) rfl (by assumption) this
section
variable {n:Nat}
theorem qY(hn:1≤n)(t:T):bU n (ofString "inner_terms") [a9 t] (.list (aL (cJ t))):=by
 induction t using T.casesOn<;>exact aT (pos hn) yb [] (by kernel_rfl)
theorem jy(hn:1≤n){t:T}{l:List T}(hp:t.easy=true)(hl:l.length=(cJ t).length):bU n (ofString "with_inner") [a9 t,.list (aL l)] (a9 (kI t l)):=by
 induction t using T.casesOn with
 |pow b i=>exact dC hp
 |call v=>induction l using am with
  |nil=>cases hl
  |cons u r=>induction r using am with
   |nil=>exact aT (pos hn) js [] (by kernel_rfl)
   |cons _ _=>cases hl
 |num _=>exact aT (pos hn) js [] (by kernel_rfl)
 |sym _=>exact aT (pos hn) js [] (by kernel_rfl)
 |sum _=>exact aT (pos hn) js [] (by kernel_rfl)
 |prod _=>exact aT (pos hn) js [] (by kernel_rfl)
end
theorem D0{e:aQ}{t:T}(h:t.easy=true)(hs:∀x,t≠.sym x):kI t ((cJ t).map (kA e))=kA e t:=by
 induction t using T.casesOn with
 |pow b i=>exact dC h
 |sym x=>exact absurd rfl (hs x)
 |sum l=>simp only[cJ,kI,JG,xI]
 |prod l=>simp only[cJ,kI,JG,xI]
 |_=>rfl
theorem O9(e:aQ)(x:Nm):(gE (bH e) (.str x.str)).getD (a9 (.sym x))=a9 ((cM e x).getD (.sym x)):=by
 refine ut ..▸?_;induction cM e x<;>rfl
noncomputable def QQ(e:aQ)(x:Option B):St:=⟨[(ofString "part",x),(ofString "found",some (.v (.dict (bH e))))],[]⟩
theorem JH{n:Nat}{e:aQ}:∀(us:List T)(acc:List ab)(x:Option B),(∀u∈us,bU n (ofString "put_blanks") [a9 u,.dict (bH e)] (a9 (kA e u)))→
  ∃x',fh (Call n) (bY 82) [1] [2] 11 (aL us) acc (QQ e x) (acc++aL (us.map (kA e))) (QQ e x'):=by
 intro us
 induction us with
 |nil=>exact λacc x _=>aV x ((aF _).symm) rfl
 |cons u us ih=>
  intro acc x h;refine aY (ih (acc++ [a9 (kA e u)]) (some (.v (a9 u))) λv hv=>h v (.tail _ hv)) λx' r=>?_;rw[aw]at r;refine⟨x',.cons ?_ r⟩;exact le [(1,ar (h u (.head _)))] (by kernel_rfl)
theorem LV{e:aQ}(he:iK e):∀(k n:Nat)(t:T),t.rd<k→k+1≤n→t.easy=true→bU n (ofString "put_blanks") [a9 t,.dict (bH e)] (a9 (kA e t)):=by
 intro k
 induction k with
 |zero=>exact λn t h=>absurd h (fT _)
 |succ k ih=>
  intro n t hk hn ht;have hn':k+1≤n-1:=bI hn;have n1:1≤n-1:=aa (bh (a7 _)) hn'
  by_cases hs:∃x,t=.sym x
  ·refine aY hs λx z1=>?_;clear hs;obtain rfl:=z1;exact aT (pos hn) sZ [(4,F.b (show(AP (.str x.str)&&vx (bH e) (.str x.str))=true by refine(rY ..).symm▸(rG ..).symm▸?_;rfl)),(0,F.x (O9 e x))] (by kernel_rfl)
  ·have hs:∀x,t≠.sym x:=λx h=>hs ⟨x,h⟩;refine aY (JH (n:=n-1) (cJ t) [] none λu hu=>ih (n-1) u (dc (Cq hu) (ij hk)) hn' (sf ht hu)) λx r=>?_;have w:=jy n1 (l:=(cJ t).map (kA e)) ht (aN _);rw[D0 ht hs]at w;exact aT (pos hn) sZ [(0,F.d (dO t)),(0,bx (show iI .Eq (.str t.kind) (.str (ofString "sym"))=some false by induction t using T.casesOn<;>first|rfl|exact absurd rfl (hs _))),(1,ar (qY n1 t)),(1,F.comp (r)),(0,ar (w))] (by kernel_rfl)
theorem xK{n:Nat}(hn:1≤n):∀(us:List T)(x:Option B),∃x',fh (Call n) (bY 67) [1] [0,1] 10 (aL us) [] ⟨[(ofString "one",x)],[]⟩ [] ⟨[(ofString "one",x')],[]⟩:=by
 intro us
 induction us with
 |nil=>exact λx=>aV x rfl rfl
 |cons v us ih=>
  intro x;refine aY (ih (some (.v (a9 v)))) λx' r=>?_;refine⟨x',.cons ?_ r⟩
  induction v using T.casesOn with
  |pow b j=>exact le [(4,ar (io hn (.num j)))] (by kernel_rfl)
  |num _=>exact le [] (by kernel_rfl)
  |sym _=>exact le [] (by kernel_rfl)
  |sum _=>exact le [] (by kernel_rfl)
  |prod _=>exact le [] (by kernel_rfl)
  |call _=>exact le [] (by kernel_rfl)
theorem yo{n:Nat}(hn:2≤n)(t:T):bU n (ofString "has_ratio") [a9 t] (.bool false):=by
 have one:=xK (n:=n-1) (fz 1 hn) [t] none
 induction t using T.casesOn with
 |prod l=>
  refine aY (xK (n:=n-1) (fz 1 hn) l none) λx r=>?_;exact aT (pos hn) iZ [(5,F.comp (r))] (by kernel_rfl)
 |num i=>
  refine aY one λx r=>?_;clear one;exact aT (pos hn) iZ [(4,F.comp (r))] (by kernel_rfl)
 |sym i=>
  refine aY one λx r=>?_;clear one;exact aT (pos hn) iZ [(4,F.comp (r))] (by kernel_rfl)
 |sum i=>
  refine aY one λx r=>?_;clear one;exact aT (pos hn) iZ [(4,F.comp (r))] (by kernel_rfl)
 |pow b i=>
  refine aY one λx r=>?_;clear one;exact aT (pos hn) iZ [(4,F.comp (r))] (by kernel_rfl)
 |call i=>
  refine aY one λx r=>?_;clear one;exact aT (pos hn) iZ [(4,F.comp (r))] (by kernel_rfl)
theorem LW(a b:List T):zg (a++b)=zg a+zg b:=by
 induction a with
 |nil=>simp[Cp]
 |cons t a ih=>simp only[ck,Cp,ih];exact aC (nw [_,_,_] .n (.a yA (.a yB yC)) (.a (.a yA yB) yC) rfl) (nw [_,_,_] .n (.a (.a yA yB) yC) (.a yA (.a yB yC)) rfl)
theorem zk:∀L:List T,zg (L.flatMap cJ)+L.length=zg L
 | []=>rfl
 |t::L=>by
  have h1:=zk L;have h2:=xJ t;rw[co,LW,aP,Cp.2];exact aC (nw [_,_,_,_,_] (.d (.a yA yB) yC (.d (.s yD) yE .n)) (.a (.a yD yA) (.s yB)) (.a yE yC) rfl (ah h1) (ah h2)) (nw [_,_,_,_,_] (.d yA (.a yB yC) (.d yD (.s yE) .n)) (.a yD yA) (.a (.a yE yB) (.s yC)) rfl (ah h1.symm) (ah h2.symm))
section
variable {n:Nat}
theorem JI(hn:1≤n):∀(us:List T)(x:Option B),(∀w∈us,w.easy=true)→∃x',fh (Call n) (bY 23) [1,2] [0,1] 9 (aL us) [] ⟨[(ofString "one",x)],[]⟩ [] ⟨[(ofString "one",x')],[]⟩:=by
 intro us
 induction us with
 |nil=>exact λx _=>aV x rfl rfl
 |cons v us ih=>
  intro x he;refine aY (ih (some (.v (a9 v))) λw hw=>he w (.tail _ hw)) λx' r=>?_;refine⟨x',.cons ?_ r⟩
  induction v using T.casesOn with
  |num i=>
   have hi:=he (.num i) (.head _);simp only[kB,ay,decide_eq_true_eq]at hi;refine aY (eF (cK (by decide) hi.1)) λM z1=>?_;obtain rfl:=z1;have h1:=Int.ofNat_le.mp hi.1;refine aG (u7 hn h1 (ba (Int.ofNat_le.mp hi.2) (by decide))) λk k64 rb=>?_;exact le [(6,F.d (vP h1)),(0,ar (rb)),(1,F.b (show decide (((k:Nat):Int)+1>200000)=false from df λw=>absurd (show 200000<k+1 from Int.ofNat_lt.mp w) (Nat.not_lt.mpr (aa (bh k64) (by decide)))))] (by kernel_rfl)
  |sym _=>exact le [] (by kernel_rfl)
  |sum _=>exact le [] (by kernel_rfl)
  |prod _=>exact le [] (by kernel_rfl)
  |pow _ _=>exact le [] (by kernel_rfl)
  |call _=>exact le [] (by kernel_rfl)
noncomputable def LX(x y:Option B):St:=⟨[(ofString "one",x),(ofString "part",y)],[]⟩
theorem JJ{v:T}:∀(ws dn:List T)(y:Option B),(dn++ws).length≤1000→∃y',yM (Call n) (bY 23) [1,4] [] 12 (aL ws) (aL dn) (LX (some (.v (a9 v))) y) (aL (dn++ws)) (LX (some (.v (a9 v))) y'):=by
 intro ws
 induction ws with
 |nil=>exact λdn y _=>⟨y,by refine aF ..▸?_;exact⟨rfl,rfl⟩⟩
 |cons w ws ih=>
  intro dn y h;have e:dn++w::ws=(dn++ [w])++ws:=(aw dn [w] ws).symm;rw[e]at h⊢;refine aY (ih (dn++ [w]) (some (.v (a9 w))) h) λy' r=>?_;rw[nB dn]at r;refine⟨y',.cons ?_ r⟩;exact le [(1,F.b (qI (k:=(aL dn).length) (m:=1000) (by refine cr ..▸?_;exact(l7 (l7 h):dn.length≤1000))))] (by kernel_rfl)
theorem GI(hn:1≤n):∀(us dn:List T)(x y:Option B),(dn++us.flatMap cJ).length≤1000→∃x' y',fh (Call n) (bY 23) [1,4] [] 12 (aL us) (aL dn) (LX x y) (aL (dn++us.flatMap cJ)) (LX x' y'):=by
 intro us
 induction us with
 |nil=>exact λdn x y _=>ik x y (by refine(iC ..).symm▸(aF ..).symm▸?_;exact⟨rfl,rfl⟩)
 |cons u us ih=>
  intro dn x y h;rw[co,←aw]at h⊢;refine aY (JJ (n:=n) (v:=u) (cJ u) dn y (l7 h)) λy1 r1=>?_;refine fe (ih (dn++cJ u) (some (.v (a9 u))) y1 h) λx' y' r=>?_;refine ik x' y' (.cons ?_ r);exact le [(1,ar (qY hn u)),(1,JV (r1))] (by kernel_rfl)
noncomputable def QS(t:T)(L:List T)(m h:Nat):St:=⟨[(ofString "term",some (.v (a9 t))),(ofString "most",some (.v (.int 120))),(ofString "parts",some (.v (.int 20000))),(ofString "level",some (.v (.list (aL L)))),(ofString "many",some (.v (.int (m:Int)))),(ofString "here",some (.v (.int (h:Int))))],[]⟩
theorem D1{a b:Nat}(h:a≤b):decide ((a:Int)>(b:Int))=false:=df λw=>absurd (Int.ofNat_lt.mp w) (Nat.not_lt.mpr h)
theorem D2(hn:1≤n){t:T}:∀(W:Nat)(L:List T)(m h:Nat),zg L<W→m+zg L≤60→h+zg L≤60→(∀u∈L,u.easy=true)→
  ∃m' h',kF (Call n) (ofString "is_too_great") (bY 23) [1] W (QS t L m h) .next (QS t [] m' h'):=by
 intro W
 induction W with
 |zero=>exact λL m h h1=>absurd h1 (fT _)
 |succ W ih=>
  intro L m h h1 h2 h3 h4
  induction L using am with
  |nil=>
   refine ik m h (.done (l:= []) ?_);exact le [] (by kernel_rfl)
  |cons u L=>
   have hs:=zk (u::L);have hl:(u::L).length≤zg (u::L):=wa _;have hp:1≤(u::L).length:=bh (a7 _);have hfl:((u::L).flatMap cJ).length≤60:=aa (wa _) (aa (by refine(hs ..)▸?_;exact ao _ _) (aa (aD _ m) h2));obtain⟨m',h',r⟩:=ih ((u::L).flatMap cJ) (m+1) (h+(u::L).length) (nw [_,_,_,_] (.d (.s yA) (.s yB) (.d (.a yC yD) yA (.d (.k 1) yD .n))) (.s yC) yB rfl h1 (ah hs) hp) (nw [_,_,_,_] (.d (.a yA yB) (.k 60) (.d (.a yC yD) yB (.d (.k 1) yD .n))) (.a (.s yA) yC) (.k 60) rfl h2 (ah hs) hp) (nw [_,_,_,_] (.d (.a yA yB) (.k 60) (.d (.a yC yD) yB .n)) (.a (.a yA yD) yC) (.k 60) rfl h3 (ah hs)) (λw hw=>by
    refine aG (List.mem_flatMap.mp hw) λa ha hw=>?_;exact sf (h4 a ha) hw)
   refine aY (JI hn (u::L) none h4) λx1 r1=>?_;refine fe (GI hn (u::L) [] none none (aa hfl (by decide))) λx2 y2 r2=>?_;rw[bL]at r2;refine ik m' h' (.next ?_ r);have ln:=tH (u::L)
   generalize hM:(u::L).flatMap cJ=M at*
   exact le [(0,F.n (ln)),(1,F.b (show decide ((((u::L).length:Nat):Int)>0)=true from dt (Int.ofNat_lt.mpr hp))),(1,F.n (ln)),(2,F.b (D1 (a:=m+1) (b:=120) (aa (bh (aa (ao _ _) h2)) (by decide)))),(1,F.b (D1 (a:=h+(u::L).length) (b:=20000) (aa (aa (bM hl h) h3) (by decide)))),(2,F.comp (r1)),(3,F.n (ln)),(1,F.b (D1 (a:=(u::L).length) (b:=100) (aa (aa hl (aa (aD _ _) h2):(u::L).length≤60) (by decide)))),(2,F.comp (r2)),(0,F.b (qI (k:=(aL M).length) (m:=60) (by refine cr ..▸?_;exact hfl)))] (by kernel_rfl)
theorem uF(hn:2≤n){t:T}(ht:t.easy=true)(hz:t.sz≤60):bU n (ofString "is_too_great") [a9 t,.int 120,.int 20000] (.bool false):=by
 have e:zg [t]=t.sz:=rfl;refine fe (D2 (n:=n-1) (fz 1 hn) (t:=t) 1000 [t] 0 0 (by refine e ..▸?_;exact ba hz (by decide)) (by refine e ..▸ce ..▸?_;exact hz) (by refine e ..▸ce ..▸?_;exact hz) (λu hu=>by refine ae.mp hu ..▸?_;exact ht)) λm h r=>?_;exact aT (pos hn) wJ [(0,GP (r))] (by kernel_rfl)
theorem mS(hn:3≤n){t:T}(ht:t.easy=true)(hz:t.sz≤60):bU n (ofString "not_too_great") [a9 t] (a9 t):=by
 exact aT (pos hn) vy [(0,ar (uF (fz 2 hn) ht hz))] (by kernel_rfl)
end
mutual
theorem Cr:∀ {t:T},t.easy=true→Rw t
 |.num i,h=>by simp only[kB,ay,decide_eq_true_eq]at h;exact h.1
 |.sym _,_=>trivial
 |.sum l,h=>by simp only[kB,ay]at h;exact⟨D3 h.1,by rintro rfl;simp at h⟩
 |.prod l,h=>by simp only[kB,ay]at h;exact⟨D3 h.1,by rintro rfl;simp at h⟩
 |.pow _ _,h=>by exact dC h
 |.call t,h=>Cr (t:=t) h
theorem D3:∀ {l:List T},qm l=true→Ge l
 | [],_=>trivial
 |t::l,h=>by simp only[v9,ay]at h;exact⟨Cr h.1,D3 h.2⟩
end
mutual
theorem Fe:∀ {t:T},t.easy=true→t.sbB=true→SB t
 |.num i,h,_=>by simp only[kB,ay,decide_eq_true_eq]at h;exact h.1
 |.sym _,_,_=>trivial
 |.sum l,h,k=>by
  have hr:=Cr h;simp only[kB,AK,ay,decide_eq_true_eq]at h k;exact⟨D4 h.1 k.1.1.1,hr.2,k.1.1.2,k.1.2,λt ht=>⟨(lZ hr.1).1 t ht,(fL.mp k.2) t ht⟩⟩
 |.prod l,h,k=>by
  have hr:=Cr h;simp only[kB,AK,ay,decide_eq_true_eq]at h k;exact⟨D4 h.1 k.1.1.1,hr.2,k.1.1.2,k.1.2,λt ht=>⟨(lZ hr.1).1 t ht,(fL.mp k.2) t ht⟩⟩
 |.pow _ _,h,_=>by exact dC h
 |.call t,h,k=>Fe (t:=t) h k
theorem D4:∀ {l:List T},qm l=true→yn l=true→GX l
 | [],_,_=>trivial
 |t::l,h,k=>by simp only[v9,DY,ay]at h k;exact⟨Fe h.1 k.1,D4 h.2 k.2⟩
end
theorem Ct:∀ {l:List T},yn l=true↔∀t∈l,t.sbB=true
 | []=>by simp[DY]
 |t::l=>by simp[DY,Ct (l:=l)]
theorem GJ{t u:T}(ht:t.sbB=true)(h:u∈cJ t):u.sbB=true:=by
 induction t using T.casesOn with
 |num _=>exact cg h
 |sym _=>exact cg h
 |pow b i=>exact dC ht
 |call v=>refine ae.mp h ..▸?_;exact ht
 |_=>
  simp only[AK,ay]at ht;exact Ct.mp ht.1.1.1 u h
noncomputable def QT(x:Option B):St:=⟨[(ofString "part",x),(ofString "levels",some (.v (.int 120))),(ofString "terms",some (.v (.int 20000)))],[]⟩
theorem AJ{n:Nat}:∀(us:List T)(acc:List ab)(x:Option B),(∀u∈us,bU n (ofString "settled") [a9 u,.int 120,.int 20000] (a9 (bw u)))→
  ∃x',fh (Call n) (bY 68) [0] [1] 12 (aL us) acc (QT x) (acc++aL (cj us)) (QT x'):=by
 intro us
 induction us with
 |nil=>exact λacc x _=>aV x ((aF _).symm) rfl
 |cons u us ih=>
  intro acc x h;refine aY (ih (acc++ [a9 (bw u)]) (some (.v (a9 u))) λv hv=>h v (.tail _ hv)) λx' r=>?_;rw[aw]at r;refine⟨x',.cons ?_ r⟩;exact le [(1,ar (h u (.head _)))] (by kernel_rfl)
theorem Cu:∀(k n:Nat)(t:T),t.rd<k→34+k≤n→t.easy=true→t.sbB=true→bU n (ofString "settled") [a9 t,.int 120,.int 20000] (a9 (bw t)):=by
 intro k
 induction k with
 |zero=>exact λn t h=>absurd h (fT _)
 |succ k ih=>
  intro n t hk hn ht hb;have hsb:=Fe ht hb;have hn':34+k≤n-1:=bI hn;have n34:34≤n-1:=aa (ao _ _) hn';have n1:1≤n-1:=aa (by decide) n34;refine aY (AJ (n:=n-1) (cJ t) [] none λu hu=>ih (n-1) u (dc (Cq hu) (ij hk)) hn' (sf ht hu) (GJ hb hu)) λx r=>?_;have ri:=qY n1 t;have hn:1≤n:=aa n1 (dH n 1)
  induction t using T.casesOn with
  |num i=>exact aT (pos hn) nr [(1,ar (ri)),(1,F.comp (r)),(8,ar (eJ 0 (n-1) (.num i) hsb (ak _) (aa (by decide) n34)))] (by kernel_rfl)
  |sym x=>exact aT (pos hn) nr [(1,ar (ri)),(1,F.comp (r)),(8,ar (jy (t:=.sym x) (l:= []) n1 rfl rfl))] (by kernel_rfl)
  |pow b i=>exact dC ht
  |call u=>exact aT (pos hn) nr [(1,ar (ri)),(1,F.comp (r)),(3,ar (u8 n1 (bw u)))] (by kernel_rfl)
  |sum l=>
   refine m8 hsb λb1 b2 b3 b4 b5=>?_;clear hsb;exact aT (pos hn) nr [(1,ar (ri)),(1,F.comp (r)),(4,ar (xl (n:=n-1) (aa (by decide) n34) (λt ht=>(b5 t ht).1) (ty b5 b2) b3 b4 (nM λt ht=>(b5 t ht).2)))] (by kernel_rfl)
  |prod l=>
   refine m8 hsb λb1 b2 b3 b4 b5=>?_;clear hsb;exact aT (pos hn) nr [(1,ar (ri)),(1,F.comp (r)),(8,ar (uq (n:=n-1) (aa (by decide) n34) (λt ht=>(b5 t ht).1) (ty b5 b2) b3 b4 (kr λt ht=>(b5 t ht).2))),(0,ar (jy (t:=.prod l) (l:=cj l) n1 ht (by refine(i6 ..).symm▸(aN ..).symm▸?_;rfl))),(0,ar (yo (n:=n-1) (aa (by decide) n34) (.prod (cj l))))] (by kernel_rfl)
noncomputable def xL(rs:gm):ab:=.list (rs.map λr=>.tuple [a9 r.1,a9 r.2])
structure uG (r:T×T):Prop where
 pd:GY 3 r.1
 easy:r.2.easy=true
 sz:r.2.sz≤100
 rd:r.2.rd≤8
noncomputable def Pa:Option T→ab
 |none=>.none
 |some u=>a9 u
theorem o5{t:T}(h:DZ t=true):t.easy=true∧t.sbB=true∧t.rd≤8∧t.sz≤60∧(bw t).dp≤64:=by
 simp only[DZ,ay,decide_eq_true_eq]at h;exact⟨h.1.1.1.1,h.1.1.1.2,h.1.1.2,h.1.2,h.2⟩
theorem uH{t:T}(h:DZ t=true):SB t∧Cn (bw t):=by
 refine dE (o5 h) λa b _=>?_;exact⟨Fe a b,(oS (Cr a)).1⟩
noncomputable def QU(t:T)(rs:gm)(x y z:Option B):St:=⟨[(ofString "t",some (.v (a9 t))),(ofString "rules",some (.v (xL rs))),(ofString "pattern",x),(ofString "result",y),(ofString "found",z)],[]⟩
noncomputable def Qk:Option T→Fl
 |none=>.next
 |some u=>.ret (.v (a9 u))
theorem JK{t:T}:∀(rs:gm)(m:Option T),j7 rs t=some m→∀u,m=some u→Cn u∧u.dp≤64:=λrs=>by
 induction rs with
 |nil=>intro m h u e;obtain rfl:=Option.some.inj h;cases e
 |cons r rs ih=>
  intro m h u e;obtain⟨p,q⟩:=r;rw[zh.2]at h;split at h
  ·exact ih m h u e
  ·split at h
   ·rename_i hz;obtain rfl:=Option.some.inj h;cases e;exact⟨(uH hz).2,(o5 hz).2.2.2.2⟩
   ·exact nsN h
theorem GK{n:Nat}(hn:53≤n){t:T}(ht:QR t){rs:gm}:∀(us:gm)(m:Option T)(x y z:Option B),(∀r∈us,uG r)→j7 us t=some m→
  ∃x' y' z',fO (Call n) (ofString "rule_at") (bY 84) [0] (us.map λr=>.tuple [a9 r.1,a9 r.2]) (QU t rs x y z) (Qk m) (QU t rs x' y' z'):=by
 intro us
 induction us with
 |nil=>intro m x y z _ h;obtain rfl:=Option.some.inj h;exact PG x y z rfl rfl
 |cons q us ih=>
  intro m x y z hu hm;obtain⟨p,w⟩:=q;have hk:=hu (p,w) (.head _);refine eL (xE hk.pd.1 hk.pd.2 ht) λ_ o1 _ _=>?_;have rm:=y5 (n:=n) (d:=3) hn hk.pd ht.1 (B4 ht.1.cn ht.1.small ht.2);rw[zh.2]at hm
  generalize (bB 3 p t []).1=rows at*
  induction rows using am with
  |nil=>
   refine wi (ih m (some (.v (a9 p))) (some (.v (a9 w))) (some (.v .none)) (λr hr=>hu r (.tail _ hr)) hm) λx' y' z' r=>?_;refine zq x' y' z' (.next ?_ r);exact le [(0,ar (rm))] (by kernel_rfl)
  |cons e rows=>
   by_cases hz:DZ (kA e w)=true
   ·have hm:=(if_pos hz).symm.trans hm;obtain rfl:=Option.some.inj hm;refine m8 (o5 hz) λz1 z2 z3 z4 z5=>?_;refine zq (some (.v (a9 p))) (some (.v (a9 w))) (some (.v (.dict (bH e)))) (.ret ?_);exact le [(0,ar (rm)),(2,ar (LV (o1 e (.head _)) 9 n w (cS hk.rd) (aa (by decide) hn) hk.easy)),(0,ar (mS (n:=n) (aa (by decide) hn) z1 z4)),(0,ar (Cu 9 n (kA e w) (cS z3) (aa (by decide) hn) z1 z2))] (by kernel_rfl)
   ·exact absurd ((if_neg hz).symm.trans hm) (λe=>by exact nsN e)
theorem Cv{n:Nat}(hn:54≤n){rs:gm}(hr:∀r∈rs,uG r){t:T}(ht:QR t){m:Option T}(h:j7 rs t=some m):bU n (ofString "rule_at") [a9 t,xL rs] (Pa m):=by
 refine wi (GK (n:=n-1) (fz 53 hn) ht (rs:=rs) rs m none none none hr h) λx y z r=>?_
 induction m with
 |none=>exact aT (pos hn) yL [(1,F.loop (r))] (by kernel_rfl)
 |some u=>exact aT (pos hn) yL [(1,F.loop (r))] (by kernel_rfl)
theorem JL{t:T}(hc:Cn t)(h:GZ t=true):QR t∧t.easy=true∧t.sz≤60:=by
 simp only[GZ,ay,decide_eq_true_eq]at h;refine aB h λz1 f=>?_;clear h;refine aB z1 λz1 e=>?_;obtain⟨⟨⟨a,b⟩,c⟩,d⟩:=z1;exact⟨⟨⟨hc,a,by exact aa b (by decide),c,d⟩,b⟩,e,f⟩
theorem JM{t u:T}(h:Cn t)(hu:u∈cJ t):Cn u:=by
 induction t using T.casesOn with
 |num _=>exact cg hu
 |sym _=>exact cg hu
 |sum l=>exact cW.mp h.1 u hu
 |prod l=>exact cW.mp h.1 u hu
 |pow b i=>
  simp only[cJ,aA,pt,or_false]at hu;rcases hu with rfl|rfl
  ·exact h.1
  ·have:=h.2.2;show 1≤i;omega
 |call v=>refine ae.mp hu ..▸?_;exact h
theorem xM(u:T):zs (a9 u)=false:=by induction u using T.casesOn<;>rfl
section
variable {n:Nat}
theorem LY{L dn us:List T}{p:T}(hL:L=dn++p::us)(u:T)(h:L.length≤100):jE .Add (.list ((aL L).take ((dn.length:Nat):Int).toNat)) (.list [a9 u])=some (.list (aL (dn++ [u]))):=by
 subst hL;refine cE ..▸uh ..▸List.take_left' rfl ..▸?_;rw[aj]at h;exact nI dn [u] (by refine aj ..▸?_;exact aa (iB (aa (ao _ _) h) 1) (show 100+1≤1001 by decide))
theorem LZ{L dn us:List T}{p:T}(hL:L=dn++p::us)(u:T)(h:L.length≤100):jE .Add (.list (aL (dn++ [u]))) (.list ((aL L).drop (((dn.length:Nat):Int)+1).toNat))=some (.list (aL (dn++u::us))):=by
 subst hL;refine(show(((dn.length:Nat):Int)+1).toNat=dn.length+1 from rfl).symm▸ui ..▸(show(dn++p::us).drop (dn.length+1)=us by rw[←List.drop_drop,List.drop_left' rfl];rfl).symm▸?_;rw[nI (dn++ [u]) us (by
  refine aw ..▸aj ..▸?_;rw[aj]at h;exact aa h (by decide)),aw];rfl
noncomputable def QV(t:T)(rs:gm)(x y z v w:Option B):St:=⟨[(ofString "t",some (.v (a9 t))),(ofString "rules",some (.v (xL rs))),(ofString "made",x),(ofString "parts",some (.v (.list (aL (cJ t))))),(ofString "at",y),(ofString "part",z),(ofString "later",v),(ofString "is_done",w)],[]⟩
noncomputable def Ql(t:T):Option (Option (List T))→Fl
 |some (some l)=>.ret (.v (.tuple [a9 (bw (kI t l)),.bool true]))
 |_=>.next
theorem GL(hn:54≤n){rs:gm}{t:T}(he:t.easy=true)(hz:t.sz≤60){f:T→Option (T×Bool)}(H:∀p∈cJ t,∀res,f p=some res→bU n (ofString "rule_once") [a9 p,xL rs] (.tuple [a9 res.1,.bool res.2])){x:Option B}:
  ∀(us dn:List T)(y z v w:Option B),cJ t=dn++us→tL f dn us≠none→(∀l,tL f dn us=some (some l)→DZ (kI t l)=true)→
  ∃y' z' v' w',fO (Call n) (ofString "rule_once") (bY 85) [3] (kM dn.length (aL us)) (QV t rs x y z v w) (Ql t (tL f dn us)) (QV t rs x y' z' v' w'):=by
 intro us
 induction us with
 |nil=>exact λdn y z v w _ _ _=>MM y z v w rfl rfl
 |cons p us ih=>
  intro dn y z v w hin h1 h2;have hp:p∈cJ t:=by refine hin ..▸?_;exact bJ _ (.head _)
  have hl:(cJ t).length≤100:=aa (wa _) (aa (ao _ 1) (by refine xJ ..▸?_;exact aa hz (by decide)));rw[NS.2]at h1 h2⊢
  induction hf:f p with
  |none=>rw[hf]at h1;exact absurd rfl h1
  |some pr=>
   obtain⟨u,b⟩:=pr;have hrun:=H p hp _ hf;rw[hf]at h1 h2
   induction b with
   |true=>
    have hz2:=h2 (dn++u::us) rfl;refine m8 (o5 hz2) λz1 z2 z3 z4 z5=>?_;refine CN (some (.v (.int dn.length))) (some (.v (a9 p))) (some (.v (a9 u))) (some (.v (.bool true))) (.ret ?_);exact le [(0,ar (hrun)),(3,F.d (LY hin u hl)),(2,F.d (LZ hin u hl)),(0,ar (jy (n:=n) (aa (by decide) hn) (l:=dn++u::us) he (by refine(hin ..).symm▸(aj ..).symm▸(aj ..).symm▸?_;rfl))),(0,ar (eJ 8 n (kI t (dn++u::us)) (uH hz2).1 z3 (aa (by decide) hn)))] (by kernel_rfl)
   |false=>
    refine vq (ih (dn++ [p]) (some (.v (.int dn.length))) (some (.v (a9 p))) (some (.v (a9 u))) (some (.v (.bool false))) (by refine hin ..▸aw ..▸?_;rfl) h1 h2) λy' z' v' w' r=>?_;rw[aj]at r;refine CN y' z' v' w' (.next ?_ r);exact le [(0,ar (hrun))] (by kernel_rfl)
theorem Cw{f:T→Option (T×Bool)}{t:T}{res:T×Bool}(h:tM f t=some res):tL f [] (cJ t)≠none∧(∀l,tL f [] (cJ t)=some (some l)→DZ (kI t l)=true∧res=(bw (kI t l),true))∧(tL f [] (cJ t)=some none→res=(t,false)):=by
 unfold tM at h
 induction q:tL f [] (cJ t)with
 |none=>rw[q]at h;exact nsN h
 |some o=>
  rw[q]at h;refine⟨λe=>(sN e),λl e=>?_,λe=>?_⟩
  ·obtain rfl:=Option.some.inj e
   by_cases hz:DZ (kI t l)=true
   ·exact⟨hz,(Option.some.inj ((if_pos hz).symm.trans h)).symm⟩
   ·exact absurd ((if_neg hz).symm.trans h) (λe=>by exact nsN e)
  ·obtain rfl:=Option.some.inj e;exact(Option.some.inj h).symm
theorem zl(hn:55≤n){rs:gm}{t:T}(he:t.easy=true)(hz:t.sz≤60){f:T→Option (T×Bool)}{res:T×Bool}(hP:tM f t=some res)(H:∀p∈cJ t,∀res,f p=some res→bU (n-1) (ofString "rule_once") [a9 p,xL rs] (.tuple [a9 res.1,.bool res.2])){m:Option T}
  (hA:bU (n-1) (ofString "rule_at") [a9 t,xL rs] (Pa m)) (hm:m=none∨∃u,m=some u∧iI .NotEq (a9 u) (a9 t)=some false):bU n (ofString "rule_once") [a9 t,xL rs] (.tuple [a9 res.1,.bool res.2]):=by
 refine dE (Cw hP) λk1 k2 k3=>?_;have L:=λx=>GL (n:=n-1) (fz 54 hn) he hz H (x:=x) (cJ t) [] none none none none rfl k1 λl e=>(k2 l e).1;have ri:=qY (n:=n-1) (aa (by decide) (fz 54 hn)) t;have hn:1≤n:=aa (by decide) hn
 induction q:tL f [] (cJ t)with
 |none=>exact absurd q k1
 |some o=>
  rw[q]at L
  induction o with
  |none=>
   refine k3 q ..▸?_;rcases hm with rfl|⟨u,rfl,hq⟩
   ·refine vq (L (some (.v .none))) λy z v w r=>?_;exact aT (pos hn) kj [(0,ar (hA)),(3,ar (ri)),(1,F.loop (r))] (by kernel_rfl)
   ·refine vq (L (some (.v (a9 u)))) λy z v w r=>?_;exact aT (pos hn) kj [(0,ar (hA)),(1,F.b (nt (xM u))),(0,bx (hq)),(2,ar (ri)),(1,F.loop (r))] (by kernel_rfl)
  |some l=>
   refine (k2 l q).2 ..▸?_;rcases hm with rfl|⟨u,rfl,hq⟩
   ·refine vq (L (some (.v .none))) λy z v w r=>?_;exact aT (pos hn) kj [(0,ar (hA)),(3,ar (ri)),(1,F.loop (r))] (by kernel_rfl)
   ·refine vq (L (some (.v (a9 u)))) λy z v w r=>?_;exact aT (pos hn) kj [(0,ar (hA)),(1,F.b (nt (xM u))),(0,bx (hq)),(2,ar (ri)),(1,F.loop (r))] (by kernel_rfl)
end
theorem yp{rs:gm}(hr:∀r∈rs,uG r):∀(d n:Nat)(t:T)(res:T×Bool),ja rs d t=some res→Cn t→55+d≤n→Cn res.1∧bU n (ofString "rule_once") [a9 t,xL rs] (.tuple [a9 res.1,.bool res.2]):=by
 intro d
 induction d with
 |zero=>intro n t res h;exact nsN h
 |succ d ih=>
  intro n t res h hc hn;have hn':55+d≤n-1:=bI hn;have h55:55≤n-1:=aa (ao _ _) hn';have hn:55≤n:=aa h55 (dH n 1);rw[LS.2]at h
  by_cases hok:GZ t=true
  rotate_left
  ·exact absurd ((if_neg hok).symm.trans h) (λe=>by exact nsN e)
  have h:=(if_pos hok).symm.trans h;refine dE (JL hc hok) λhq he hz=>?_;have H:∀p∈cJ t,∀res,ja rs d p=some res→bU (n-1) (ofString "rule_once") [a9 p,xL rs] (.tuple [a9 res.1,.bool res.2]):=λp hp res hf=>(ih (n-1) p res hf (JM hc hp) hn').2;have cnP:tM (ja rs d) t=some res→Cn res.1:=λhP=>by
   refine dE (Cw hP) λk1 k2 k3=>?_
   induction q:tL (ja rs d) [] (cJ t)with
   |none=>exact absurd q k1
   |some o=>induction o with
    |none=>refine k3 q ..▸?_;exact hc
    |some l=>refine (k2 l q).2 ..▸?_;exact(uH (k2 l q).1).2
  induction hm:j7 rs t with
  |none=>rw[hm]at h;exact nsN h
  |some m=>
   rw[hm]at h;have hA:=Cv (n:=n-1) (aa (by decide) h55) hr hq hm;have hA2:=JK rs m hm
   induction m with
   |none=>exact⟨cnP h,zl hn he hz h H hA (.inl rfl)⟩
   |some u=>
    refine aB (hA2 u rfl) λcu du=>?_;have c:=pY du (aa hq.1.dp (by decide):t.dp≤64)
    induction q:lQ u t with
    |true=>
     have h:tM (ja rs d) t=some res:=(if_pos q).symm.trans h;exact⟨cnP h,zl hn he hz h H hA (.inr (aV u rfl (c.trans (so (nf q)))))⟩
    |false=>
     obtain rfl:=Option.some.inj ((if_neg (λe=>absurd (q.symm.trans e) aR)).symm.trans h);refine⟨cu,?_⟩;exact aT (pos (pos hn)) kj [(0,ar (hA)),(1,F.b (nt (xM u))),(0,bx (c.trans (so (nt q))))] (by kernel_rfl)
noncomputable def QW(rs:gm)(m:Nat)(u:T)(x y:Option B):St:=⟨[(ofString "t",some (.v (a9 u))),(ofString "rules",some (.v (xL rs))),(ofString "most",some (.v (.int (m:Int)))),(ofString "step",x),(ofString "is_done",y)],[]⟩
theorem D5{n:Nat}(hn:61≤n){rs:gm}(hr:∀r∈rs,uG r){m:Nat}{r:T}:∀(j k:Nat)(u:T)(x y:Option B),Cn u→iA rs j u=some r→
  ∃x' y',fO (Call n) (ofString "apply_rules") (bY 86) [1] (rg k j) (QW rs m u x y) .next (QW rs m r x' y'):=by
 intro j
 induction j with
 |zero=>intro k u x y _ h;obtain rfl:=Option.some.inj h;exact kS x y rfl rfl
 |succ j ih=>
  intro k u x y hc h;rw[xG.2]at h
  induction q:ja rs 6 u with
  |none=>rw[q]at h;exact nsN h
  |some pr=>
   obtain⟨v,b⟩:=pr;rw[q]at h;refine aB (yp hr 6 n u _ q hc hn) λc1 hrun=>?_
   induction b with
   |true=>
    by_cases hok:GZ v=true
    ·refine dE (JL c1 hok) λ_ e1 e2=>?_;refine fe (ih (k+1) v (some (.v (.int k))) (some (.v (.bool true))) c1 ((if_pos hok).symm.trans h)) λx' y' r=>?_;refine ik x' y' (.next ?_ r);exact le [(0,ar (hrun)),(2,ar (mS (n:=n) (aa (by decide) hn) e1 e2))] (by kernel_rfl)
    ·exact absurd ((if_neg hok).symm.trans h) (λe=>by exact nsN e)
   |false=>
    obtain rfl:=Option.some.inj h;refine ik (some (.v (.int k))) (some (.v (.bool false))) (.brk ?_);exact le [(0,ar (hrun))] (by kernel_rfl)
theorem qZ{rs:gm}(hr:∀r∈rs,uG r){n:Nat}(hn:62≤n){t r:T}{m:Nat}(hm:m≤100)(hz:DZ t=true)(h:iA rs m (bw t)=some r):bU n (ofString "apply_rules") [a9 t,xL rs,.int (m:Int)] (a9 r):=by
 refine m8 (o5 hz) λz1 z2 z3 z4 z5=>?_;refine aB (uH hz) λq1 q2=>?_;refine fe (D5 (n:=n-1) (fz 61 hn) hr (m:=m) m 0 (bw t) none none q2 h) λx y k=>?_;rw[←qF]at k;exact aT (pos hn) yg [(0,ar (eJ 8 (n-1) t q1 z3 (aa (by decide) (fz 61 hn)))),(0,F.b (lw (k:=m) (aa hm (by decide)))),(0,F.loop (k))] (by kernel_rfl)
theorem Pb:∀b,b<4→∀c,c<4→xH 1 (1+(b:Nat)) (1+(c:Nat))=true:=by decide+kernel
theorem Pc:∀b,b<4→∀c,c<4→xH 2 (1+(b:Nat)) (1+(c:Nat))=true:=by decide+kernel
theorem Pd:∀b,b<4→∀c,c<4→xH 3 (1+(b:Nat)) (1+(c:Nat))=true:=by decide+kernel
theorem Pe:∀b,b<4→∀c,c<4→xH 4 (1+(b:Nat)) (1+(c:Nat))=true:=by decide+kernel
noncomputable def Pw(a:Int):Prop:=1≤a∧a≤4
theorem JN{a b c:Int}(ha:Pw a)(hb:Pw b)(hc:Pw c):xH a b c=true:=by
 obtain⟨b',rfl⟩:∃k:Nat,b=1+(k:Nat):=⟨(b-1).toNat,by have:=hb.1;omega⟩
 obtain⟨c',rfl⟩:∃k:Nat,c=1+(k:Nat):=⟨(c-1).toNat,by have:=hc.1;omega⟩
 have h1:=hb.2;have h2:=hc.2;have:a=1∨a=2∨a=3∨a=4:=by have:=ha.1;have:=ha.2;omega
 rcases this with rfl|rfl|rfl|rfl
 ·exact Pb b' (by omega) c' (by omega)
 ·exact Pc b' (by omega) c' (by omega)
 ·exact Pd b' (by omega) c' (by omega)
 ·exact Pe b' (by omega) c' (by omega)
theorem Cx(a b c:Int):2≤cX a b c∧cX a b c≤5:=by
 unfold cX vi;split<;>split<;>split<;>exact⟨ao _ _,by decide⟩
theorem D6{a b c:Int}(h:xH a b c=true):DZ (jx a b c)=true∧DZ (lg a b c)=true∧iA eU (cX a b c) (bw (jx a b c))=some (bw (lg a b c))∧
  iA eU 30 (bw (jx a b c))=some (bw (lg a b c))∧∃u,iA eU (cX a b c-1) (bw (jx a b c))=some u∧u.dp≤64∧lQ u (bw (lg a b c))=false:=by
 have hs:=Cx a b c;unfold xH at h;simp only[ay]at h;refine aB h λz1 h=>?_;refine aB z1 λh1 h2=>?_;clear z1;split at h
 ·exact dC h
 rename_i u hu;split at h
 rotate_left
 ·exact dC h
 rename_i v hv;split at h
 rotate_left
 ·exact dC h
 rename_i w hw;simp only[ay,decide_eq_true_eq,nR]at h;refine aB h λz2 h7=>?_;clear h;refine aB z2 λz1 h6=>?_;clear z2;obtain⟨⟨h3,h4⟩,h5⟩:=z1;have e6:=iy _ _ h6;have a0:=mR (m:=0) hu;have a1:=mR (m:=1) hu;have a2:=mR (m:=31-cX a b c) hu;have step (k:Nat):iA eU (k+1) u=iA eU k v:=by
  rw[xG.2,hv];simp only;rw[if_pos h3]
 have step2 (k:Nat):iA eU (k+1) v=some v:=by
  rw[xG.2,hw,(iy _ _ h7)]
 rw[qv]at a0;rw[show cX a b c-1+1=cX a b c by exact aC ((ah (az (aa (by decide) hs.1)))) ((a6 _ _)),step 0]at a1;rw[show cX a b c-1+(31-cX a b c)=30 by exact aC (nw [_,_,_] (.d (.s yA) yB (.d (.a yC yB) (.k 31) .n)) (.a yA yC) (.k 30) rfl (ah (az (aa (by decide) hs.1))) (ah (az (aa hs.2 (by decide))))) (nw [_,_,_] (.d yA (.s yB) (.d (.k 31) (.a yC yA) .n)) (.k 30) (.a yB yC) rfl (a6 _ _) (a6 _ _)),show 31-cX a b c=(29-cX a b c)+1+1 by exact aC (nw [_,_,_] (.d (.k 29) (.a yA yB) (.d (.a yC yB) (.k 31) .n)) yC (.s (.s yA)) rfl (a6 _ _) (ah (az (aa hs.2 (by decide))))) (nw [_,_,_] (.d (.k 31) (.a yA yB) (.d (.a yC yB) (.k 29) .n)) (.s (.s yC)) yA rfl (a6 _ _) (ah (az (aa hs.2 (by decide))))),step,step2]at a2;rw[←e6];exact⟨h1,h2,a1,a2,u,a0,h4,by rw[e6];exact h5⟩
theorem tN:∀r∈eU,uG r:=by
 have c1:Cn (.call (.sum [.sym .a_,.sym .b_])):=⟨⟨trivial,trivial,trivial⟩,[.sym .a_,.sym .b_],0,rfl,by decide,by decide,by decide,by simp[T.isNum,T.isSum],by simp[show ∀x,(T.sym x).split=(1,.sym x) from λ_=>rfl]⟩
 have c2 (k:Int) (hk:2≤k):Cn (.call (cR k (.sym .b_))):=⟨⟨by show 1≤k;omega,trivial,trivial⟩,k,[.sym .b_],by unfold eC;rw[if_neg (by omega)];rfl,by omega,by simp,by simp,by simp,by simp[T.isNum,T.isProd],by simp⟩
 intro r hr;simp only[eU,aE,jC,aA,pt,or_false]at hr;rcases hr with rfl|rfl|rfl|rfl
 ·exact⟨⟨⟨c1,by decide,by decide⟩,by decide⟩,by decide,by decide,by decide⟩
 ·exact⟨⟨⟨c2 2 (by decide),by decide,by decide⟩,by decide⟩,by decide,by decide,by decide⟩
 ·exact⟨⟨⟨c2 3 (by decide),by decide,by decide⟩,by decide⟩,by decide,by decide,by decide⟩
 ·exact⟨⟨⟨c2 4 (by decide),by decide,by decide⟩,by decide⟩,by decide,by decide,by decide⟩
noncomputable def JO(k:Int):T×T:=(.call (cR k (.sym .b_)),cR k (.call (.sym .b_)))
noncomputable def JP:T×T:=(.call (.sum [.sym .a_,.sym .b_]),.sum [.call (.sym .a_),.call (.sym .b_)])
noncomputable def uI(l:List Int):Nat:=(l.filter λi=>decide (1<i)).length
theorem GM(i j k:Int):uI [i,j,k]=vi i+(vi j+vi k):=by
 unfold uI vi;rw[bk,bk,bk]
 by_cases h1:1<i<;>by_cases h2:1<j<;>by_cases h3:1<k<;>simp[h1,h2,h3]
section
variable {n:Nat}
theorem GN{σ:fH}:∀(us:List Int)(acc:List ab)(x:Option B),∃acc' x',acc'.length=acc.length+uI us∧fh (Call n) (bY 99) [6] [1,1] 10 (us.map .int) acc ⟨[(ofString "number",x)],σ⟩ acc' ⟨[(ofString "number",x')],σ⟩:=by
 intro us
 induction us with
 |nil=>exact λacc x=>kT acc x rfl rfl rfl
 |cons u us ih=>
  intro acc x;have e:uI (u::us)=(if decide (1<u)=true then 1 else 0)+uI us:=by
   unfold uI;rw[bk];split
   ·rw[aP,fV]
   ·rw[ce]
  rw[e]
  induction q:decide (1<u)with
  |true=>
   refine ff (ih (acc++ [.int u]) (some (.v (.int u)))) λacc' x' h r=>?_;refine kS acc' x' (by rw[h,aj,bz];rfl) (.cons ?_ r);exact le [(1,F.b (show decide (u>1)=true from q))] (by kernel_rfl)
  |false=>
   refine ff (ih acc (some (.v (.int u)))) λacc' x' h r=>?_;refine kS acc' x' (by rw[h,if_neg aR,ce]) (.cons ?_ r);exact le [(1,F.b (show decide (u>1)=false from q))] (by kernel_rfl)
noncomputable def Pf(b:B6)(i j k:Int)(x y:Option B)(rs:gm):St:=⟨[(ofString "box",some (.l 1)),(ofString "numbers",some (.v (.list [.int i,.int j,.int k]))),(ofString "number",x),(ofString "parts",some (.v (.list (aL [cR i (.sym .x),cR j (.sym .y),cR k (.sym .z)])))),(ofString "call",some (.v (a9 (jx i j k)))),(ofString "far",some (.v (a9 (.sym .b_)))),(ofString "rules",some (.l 2)),(ofString "inner",y),(ofString "due",none),(ofString "steps",none)],iq b++ [some (.lst ((rs.map λr=>.tuple [a9 r.1,a9 r.2]).map .v))]⟩
noncomputable def J7(x y:Option B)(σ:fH):St:=⟨[(ofString "number",x),(ofString "name",y)],σ⟩
theorem D7{b:B6}{i j k:Int}:∃x y,fO (Call n) (ofString "_law_lead_out") (bY 99) [4] [.int 2,.int 3,.int 4] (Pf b i j k none none [JP]) .next (Pf b i j k x y eU):=by
 refine ik (some (.v (.int 4))) (some (.v (a9 (cR 4 (.sym .b_))))) (.next (s:=Pf b i j k (some (.v (.int 2))) (some (.v (a9 (cR 2 (.sym .b_))))) [JP,JO 2]) ?_ (.next (s:=Pf b i j k (some (.v (.int 3))) (some (.v (a9 (cR 3 (.sym .b_))))) [JP,JO 2,JO 3]) ?_ (.next (s:=Pf b i j k (some (.v (.int 4))) (some (.v (a9 (cR 4 (.sym .b_))))) eU) ?_ ⟨rfl,rfl⟩)))
 ·exact le [] (by kernel_rfl)
 ·exact le [] (by kernel_rfl)
 ·exact le [] (by kernel_rfl)
theorem GO{i j k:Int}{σ:fH}:fh (Call n) (bY 99) [1] [] 13 [.tuple [.int i,.str (ofString "x")],.tuple [.int j,.str (ofString "y")],.tuple [.int k,.str (ofString "z")]] [] (J7 none none σ) (aL [cR i (.sym .x),cR j (.sym .y),cR k (.sym .z)]) (J7 (some (.v (.int k))) (some (.v (.str (ofString "z")))) σ):=by
 refine .cons (acc':=aL [cR i (.sym .x)]) (s:=J7 (some (.v (.int i))) (some (.v (.str (ofString "x")))) σ) ?_ (.cons (acc':=aL [cR i (.sym .x),cR j (.sym .y)]) (s:=J7 (some (.v (.int j))) (some (.v (.str (ofString "y")))) σ) ?_ (.cons (acc':=aL [cR i (.sym .x),cR j (.sym .y),cR k (.sym .z)]) (s:=J7 (some (.v (.int k))) (some (.v (.str (ofString "z")))) σ) ?_ ⟨rfl,rfl⟩))
 ·exact le [] (by kernel_rfl)
 ·exact le [] (by kernel_rfl)
 ·exact le [] (by kernel_rfl)
theorem JQ{i j k:Int}{σ:fH}:fh (Call n) (bY 99) [5] [] 13 [.tuple [.int i,.str (ofString "x")],.tuple [.int j,.str (ofString "y")],.tuple [.int k,.str (ofString "z")]] [] (J7 none none σ) (aL [cR i (.call (.sym .x)),cR j (.call (.sym .y)),cR k (.call (.sym .z))]) (J7 (some (.v (.int k))) (some (.v (.str (ofString "z")))) σ):=by
 refine .cons (acc':=aL [cR i (.call (.sym .x))]) (s:=J7 (some (.v (.int i))) (some (.v (.str (ofString "x")))) σ) ?_ (.cons (acc':=aL [cR i (.call (.sym .x)),cR j (.call (.sym .y))]) (s:=J7 (some (.v (.int j))) (some (.v (.str (ofString "y")))) σ) ?_ (.cons (acc':=aL [cR i (.call (.sym .x)),cR j (.call (.sym .y)),cR k (.call (.sym .z))]) (s:=J7 (some (.v (.int k))) (some (.v (.str (ofString "z")))) σ) ?_ ⟨rfl,rfl⟩))
 ·exact le [] (by kernel_rfl)
 ·exact le [] (by kernel_rfl)
 ·exact le [] (by kernel_rfl)
theorem Qm{v:Int}(h0:0≤v)(h:v<4):Pw (1+v):=⟨by omega,by omega⟩
noncomputable def Cz(x:Option B)(b:B6):St:=⟨[(ofString "turn",x),(ofString "box",some (.l 1))],iq b⟩
theorem JR(hn:63≤n):Fd n:=by
 intro b hb;have hn1:1≤n-1:=aa (by decide) (fz 62 hn);refine dS (gJ hn1 (w:=4) (by decide) b hb) λ_ b1 z3 hb1 t1=>?_;refine eo z3 λv1 z2 p1 q1=>?_;clear z3;obtain rfl:=z2;refine dS (gJ hn1 (w:=4) (by decide) b1 hb1) λ_ b2 z4 hb2 t2=>?_;refine eo z4 λv2 z3 p2 q2=>?_;clear z4;obtain rfl:=z3;refine dS (gJ hn1 (w:=4) (by decide) b2 hb2) λ_ b3 z5 hb3 t3=>?_;refine eo z5 λv3 z4 p3 q3=>?_;clear z5;obtain rfl:=z4;have c0:fh (Call (n-1)) (bY 99) [0] [] 13 [.int 0,.int 1,.int 2] [] (Cz none b) [.int (1+v1),.int (1+v2),.int (1+v3)] (Cz (some (.v (.int 2))) b3):=by
  refine .cons (acc':= [.int (1+v1)]) (s:=Cz (some (.v (.int 0))) b1) ?_ (.cons (acc':= [.int (1+v1),.int (1+v2)]) (s:=Cz (some (.v (.int 1))) b2) ?_ (.cons (acc':= [.int (1+v1),.int (1+v2),.int (1+v3)]) (s:=Cz (some (.v (.int 2))) b3) ?_ ⟨rfl,rfl⟩))
  ·exact le [(1,F.call (t1))] (by kernel_rfl)
  ·exact le [(1,F.call (t2))] (by kernel_rfl)
  ·exact le [(1,F.call (t3))] (by kernel_rfl)
 have i1:=Qm p1 q1;have i2:=Qm p2 q2;have i3:=Qm p3 q3
 generalize 1+v1=i at*
 generalize 1+v2=j at*
 generalize 1+v3=k at*
 refine m8 (D6 (JN i1 i2 i3)) λg1 g2 g3 g4 z6=>?_;refine eo z6 λu g5 g6 g7=>?_;have hst:=Cx i j k;have hd1:=(o5 g2).2.2.2.2;have hd2:=(o5 g1).2.2.2.2;refine fe (D7 (n:=n-1) (b:=b3) (i:=i) (j:=j) (k:=k)) λx y r=>?_;have r1:=GO (n:=n-1) (i:=i) (j:=j) (k:=k) (σ:=iq b3);have r2:=JQ (n:=n-1) (i:=i) (j:=j) (k:=k) (σ:=iq b3++ [some (.lst ((eU.map λr=>.tuple [a9 r.1,a9 r.2]).map .v))]);refine ff (GN (n:=n-1) (σ:=iq b3++ [some (.lst ((eU.map λr=>.tuple [a9 r.1,a9 r.2]).map .v))]) [i,j,k] [] none) λacc z hacc r3=>?_;have e4:jE .Add (.int 2) (.int (acc.length:Int))=some (.int ((cX i j k:Nat):Int)):=by
  rw[hacc,GM];exact congrArg (λx=>some (bX x)) (by unfold cX;simp)
 have e5:jE .Sub (.int ((cX i j k:Nat):Int)) (.int 1)=some (.int ((cX i j k-1:Nat):Int)):=congrArg (λx=>some (bX x)) (Int.ofNat_sub (aa (by decide) hst.1)).symm;have h5:cX i j k≤100:=aa hst.2 (by decide);have h62:=fz 62 hn;have h41:33+8≤n-1:=aa (by decide) h62;have a1:=qZ tN h62 h5 g1 g3;have a2:=qZ (m:=30) tN h62 (by decide) g1 g4;have a3:=qZ (m:=0) tN h62 (by decide) g1 rfl;have a4:=qZ tN h62 (aa (dH _ _) h5) g1 g5;have s1:=eJ 8 (n-1) (lg i j k) (uH g2).1 (o5 g2).2.2.1 h41;have s2:=eJ 8 (n-1) (jx i j k) (uH g1).1 (o5 g1).2.2.1 h41;have c1:=(pY hd1 hd1).trans (so (nf (de _)));have c2:=(oM hd2 hd2).trans (so (de _));have c3:=(pY g6 hd1).trans (so (nt g7));refine⟨b3,?_⟩
 generalize cX i j k=st at*
 generalize bw (lg i j k)=due at*
 generalize bw (jx i j k)=cal at*
 exact br (pos hn) wN [(1,F.comp (c0)),(0,F.comp (r1)),(3,F.loop (r)),(0,F.comp (r2)),(1,F.comp (r3)),(1,F.d (e4)),(1,ar (s1)),(3,ar (a1)),(0,bx (c1)),(1,ar (a2)),(0,bx (c1)),(2,ar (a3)),(0,ar (s2)),(0,bx (c2)),(2,F.d (e5)),(0,ar (a4)),(0,bx (c3))] (by kernel_rfl)
theorem JS{l:List Int}(hl:l.length≤63):bU 78 (ofString "law") [.list (l.map .int)] (.bool true):=JF (ak _) (JR (n:=77) (by decide)) hl
end
end Mine
open PySem PySem.W PySem.Calls PyProof.Rows
open PySem.Str (ofString)
namespace Mine
theorem L0:∀r∈Hz,(r.scope.kind=.function∧r.scope.isCoroutine=false∧r.scope.isGenerator=false∧r.params.args.length≤5)∧(∀x∈r.params.args.map (·.arg),r.scope.names.lookup x=some .local∨r.scope.names.lookup x=some .cell)∧(r.params.args.map (·.arg)).Nodup∧(r.scope.names.map (·.1)).Nodup∧r.scope.names.lookup (ofString "__debug__")=none:=by decide+kernel
theorem JT(pm code doc a b c d e:ai):Hz.map (λr=>bindArgs (docDef r.name r.params r.body r.scope pm code doc) ⟨[a,b,c,d,e].take r.params.args.length,[]⟩)=Hz.map λr=>pure ((r.params.args.map (·.arg)).zip ([a,b,c,d,e].take r.params.args.length)):=by kernel_rfl
theorem Qn:∀vs:List ai,vs.length≤5→∃a b c d e,[a,b,c,d,e].take vs.length=vs
 | [],_=>Fk .none .none .none .none .none rfl
 | [a],_=>Fk a .none .none .none .none rfl
 | [a,b],_=>Fk a b .none .none .none rfl
 | [a,b,c],_=>Fk a b c .none .none rfl
 | [a,b,c,d],_=>Fk a b c d .none rfl
 | [a,b,c,d,e],_=>Fk a b c d e rfl
 |_::_::_::_::_::_::l,h=>absurd h (Nat.not_le.mpr (aD 6 l.length))
theorem QX{h₀:bv}{mg:Str→Option ai}(T:∀r∈Hz,∃a o pm code doc,mg r.name=some (.ref a)∧h₀.get? a=some o∧o.data=.func (docDef r.name r.params r.body r.scope pm code doc)∧h₀.CodeRec code r.name){f:Str}{d:sr}(h:bm f=some d):Lm h₀ mg f d:=by
 refine aG (aH.mp h) λr q z1=>?_;obtain rfl:=z1;have hr:=List.mem_of_find?_eq_some q;obtain rfl:=beq_iff_eq.mp (show(r.name==f)=true from List.find?_some (p:=λr:DefRec=>r.name==f) q);refine wj (T r hr) λa o pm code doc h1 h2 h3 h4=>?_;refine m8 (L0 r hr) λc5 c6 c7 c8 c9=>?_;exact⟨⟨a,o,_,h1,h2,h3,h4,rfl,rfl,rfl,c5.1,c5.2.1,c5.2.2.1,rfl,rfl,λvals hv=>by
  have hv:vals.length=r.params.args.length:=hv.trans (aN _);refine PC (Qn vals (hv▸c5.2.2.2)) λv1 v2 v3 v4 v5 e=>?_;have:=List.map_inj_left.mp (JT pm code doc v1 v2 v3 v4 v5) r hr;rw[←hv,e]at this;exact this⟩,c6,c7,c8,c9⟩
section
variable {prog:cD} {w:bi} {h₀:bv} {mg mb:Str→Option ai}
theorem JU{P:Params}{h:bv}(l:List Int):∀ {vs:List ai},WellAll P h vs (l.map λi=>WData.int i)→ei w h.get? vs (l.map .int):=by
 induction l with
 |nil=>intro vs W;cases W;exact .nil
 |cons i l ih=>intro vs W;cases W with|cons a r=>cases a;exact .cons (.int i _) (ih r)
theorem N3{P:Params}{h:bv}{a:aI}{l:List Int}(W:Well P h (.ref a) (.list (l.map λi=>WData.int i)))(hl:l.length≤63):Rp w h.get? (.ref a) (.list (l.map .int)):=by
 cases W with
 |list h1 h2=>exact .list (n:=0) h1 (JU l h2) (by rw[aN];exact aa hl (by decide))
end
theorem Pg{c:Cf}(FN:∀f d,bm f=some d→Lm c.h₀ c.mg f d){A:bC}{E:ai→ag→Prop}{Q:ai→ag→Prop}{s:ag}{a:aI}{v:ai}{l:List Int}(hl:l.length≤63)(B:gi A 78 0)(hf:c.mg (ofString "law")=some (.ref a))
  (hb:∀b o,c.h₀.get? b=some o→s.heap.get? b=some o) (rp:Rp c.w c.h₀.get? v (.list (l.map .int))) (hQ:∀h' tk,(∀b o,c.h₀.get? b=some o→h'.get? b=some o)→Q (.bool true) {s with heap:=h',toks:=tk}):au c.M A (call (.ref a) [v]) Q E s:=by
 refine(Iv FN 78).go (args:= [.v (.list (l.map .int))]) (σ:= []) (θ:= []) B (JS hl) (kS (.v (.bool true)) ([]) rfl rfl) hf (⟨λ_ _ e=>e,hb,rfl,λn c e=>(nsN e),λn m a e=>(by cases e),λa ha=>(by cases ha),λn bs e=>(by cases e)⟩:Wd c.w c.h₀ c.h₀.get? [] [] s.heap) (.cons rp .nil) λb σ' v' h' tk G' θ' r W rv e=>?_;refine aB r λz2 z3=>?_;clear r;obtain rfl:=z2;obtain rfl:=z3;have rv:Rp c.w G' v' (.bool true):=rv;cases rv
 exact hQ h' tk λb o q=>e.keep b o (λq=>by exact cg q) (λq=>by cases q) (hb b o q)
end Mine
set_option maxHeartbeats 0
namespace MineH
open Mine (Rp ei mi pE)
theorem ac{α:Type}{P:α→Prop}{a:α}{l:List α}(h:P a)(k:∀x∈l,P x):∀x∈a::l,P x:=List.forall_mem_cons.mpr ⟨h,k⟩
theorem an{α:Type}{P:α→Prop}:∀x∈([]:List α),P x:=fun _ h=>Mine.cg h
noncomputable def strOf:PyData→Option PySem.Str
 |.str s=>some s
 |_=>none
theorem recs_eq:recsOf vw=Mine.Hz:=by kernel_rfl
section
variable {w:bi} {h:Heap} {mg mb:PySem.Str→Option Value}
theorem mg_eq(g:h.Ns mainGlobals mg)(Y:YP w h):∀p∈MR,mg p.1=some p.2:=fun p hp=>by rw[g.eq_nsMap];exact Y.g p hp
theorem rp3{a:Addr}{x:PySem.Str}{i j:Int}{t u v:Tok}(e:h.get? a=some (CR [.str x t,.int i u,.int j v])):Rp w h.get? (.ref a) (.tuple [.str x,.int i,.int j]):=.tuple e (.cons (.str _ _) (.cons (.int _ _) (.cons (.int _ _) .nil))) (kC rfl)
theorem ranks_ok:Mine.x7 [(.str (ofString "sym"),.int 0),(.str (ofString "call"),.int 1),(.str (ofString "sum"),.int 2),(.str (ofString "prod"),.int 3),(.str (ofString "num"),.int 4),(.str (ofString "pow"),.int 5),(.str (ofString "eq"),.int 6),(.str (ofString "list"),.int 7)]:=⟨.of_map (S:=(·≠·)) strOf (fun _ _ h e=>h (congrArg strOf e)) (by decide+kernel),.inl (by decide+kernel),by decide⟩
theorem o_at(Y:YP w h)(k:Nat)(hk:k<8):h.get? ((objs w).get ⟨k,hk⟩).1=some ((objs w).get ⟨k,hk⟩).2:=Y.o _ (List.get_mem _ _)
theorem g_at(g:h.Ns mainGlobals mg)(Y:YP w h)(k:Nat)(hk:k<13):mg (MR.get ⟨k,hk⟩).1=some (MR.get ⟨k,hk⟩).2:=mg_eq g Y _ (List.get_mem _ _)
theorem free_ok:(Mine.builtins.all fun b=>!startupNames.contains (ofString b)&&!(looseW vw loose).contains (ofString b)&&!((recsOf vw).map (·.name)).contains (ofString b)&&!((litsOf vw).map (·.1)).contains (ofString b)&&!((clssOf vw (looseW vw loose)).map (·.name)).contains (ofString b))=true:=by kernel_rfl
theorem base_ok{mean:ExcName→Option Value}(T:Top vw (looseW vw loose) mean mg mb h)(S:h.NoSeer)(Y:YP w h):pE w h mg mb:=by
 have bb:∀x:PySem.Str,x≠"__name__"→mb x=bootBuiltins x:=T.builtins
 have g:=g_at T.g Y
 have o:=o_at Y
 refine⟨T.g,T.b,T.nolimit,?_,fun x d hx=>?_,fun b hb=>?_,?_,?_,?_,?_,?_,?_,?_,?_,?_,?_,?_⟩
 ·obtain⟨mm,⟨o,_,_,q,_⟩,_⟩:=S.mods
  exact⟨o,q⟩
 ·exact(show∀p∈Mine.CQ,∃v,mg p.1=some v∧Rp w h.get? v p.2 from(ac ⟨_,g 0 (by decide),.int _ _⟩ (ac ⟨_,g 1 (by decide),rp3 (o 0 (by decide))⟩ (ac ⟨_,g 2 (by decide),.int _ _⟩ (ac ⟨_,g 3 (by decide),rp3 (o 1 (by decide))⟩ (ac ⟨_,g 4 (by decide),rp3 (o 2 (by decide))⟩ (ac ⟨_,g 5 (by decide),rp3 (o 3 (by decide))⟩ (ac ⟨_,g 6 (by decide),.tuple (o 5 (by decide)) (.cons (.str _ _) (.cons (.str _ _) (.cons (.tuple (o 6 (by decide)) (.cons (rp3 (o 2 (by decide))) .nil) (by decide)) .nil))) (by decide)⟩ (ac ⟨_,g 7 (by decide),.tuple (o 4 (by decide)) (.cons (.str _ _) (.cons (.str _ _) (.cons (.str _ _) .nil))) (by decide)⟩ (ac ⟨_,g 8 (by decide),.int _ _⟩ (ac ⟨_,g 9 (by decide),.int _ _⟩ (ac ⟨_,g 10 (by decide),.int _ _⟩ (ac ⟨_,g 11 (by decide),.int _ _⟩ (ac ⟨_,g 12 (by decide),.dict (o 7 (by decide)) (.cons (.mk rfl (.str _ _) (.int _ _)) (.cons (.mk rfl (.str _ _) (.int _ _)) (.cons (.mk rfl (.str _ _) (.int _ _)) (.cons (.mk rfl (.str _ _) (.int _ _)) (.cons (.mk rfl (.str _ _) (.int _ _)) (.cons (.mk rfl (.str _ _) (.int _ _)) (.cons (.mk rfl (.str _ _) (.int _ _)) (.cons (.mk rfl (.str _ _) (.int _ _)) .nil)))))))) ranks_ok rfl⟩ an)))))))))))))) _ (PySem.mem_of_lookup hx)
 ·have:=List.all_eq_true.mp free_ok b hb
  simp only[ay,nR,List.contains_eq_mem,decide_eq_false_iff_not]at this
  obtain⟨⟨⟨⟨f1,f2⟩,f3⟩,f4⟩,f5⟩:=this
  exact T.free _ f1 f2 f3 f4 f5
 ·rw[bb _ (by decide+kernel)];decide+kernel
 ·rw[bb _ (by decide+kernel)];decide+kernel
 ·rw[bb _ (by decide+kernel)];decide+kernel
 ·rw[bb _ (by decide+kernel)];decide+kernel
 ·rw[bb _ (by decide+kernel)];decide+kernel
 ·rw[bb _ (by decide+kernel)];decide+kernel
 ·rw[bb _ (by decide+kernel)];decide+kernel
 ·rw[bb _ (by decide+kernel)];decide+kernel
 ·rw[bb _ (by decide+kernel)];decide+kernel
 ·rw[bb _ (by decide+kernel)];decide+kernel
 ·rw[bb _ (by decide+kernel)];decide+kernel
end
theorem ofPy_ints:∀l:List Int,ofPy (.list (l.map .int))=.list (l.map fun i=>WData.int i):=fun l=>by
 have key:∀l:List Int,ofPys (l.map .int)=l.map fun i=>WData.int i:=fun l=>by
  induction l with
  |nil=>rfl
  |cons i l ih=>simp only[aE,ofPys,ih,ofPy]
 show WData.list (ofPys (l.map .int))=_
 rw[key]
abbrev lawRow:=PySem.Challenge.rw_xm0110_01
set_option pp.deepTerms false
set_option pp.deepTerms.threshold 4
set_option pp.maxSteps 3000
theorem top:lawRow.Holds:=by
 refine holds_law Q1 fun said'=>?_
 refine holds_open (r:=lawRow.row) (q:=vw) (loose:=loose) (Xt:=xt) (XP:=fun mg h=>True∧LooseAre [] mg h) (Yf:=Yf) (Ya:=Ya) (YP:=YP) (N:=3000) left Qq Oi (fun _ _=>⟨trivial,⟨fun _ h=>nomatch h⟩⟩) (fun _ _ _ _ _=>⟨trivial,⟨fun _ h=>nomatch h⟩⟩) (by rfl) (by rfl) (by rfl) (fun s e=>recFacts_of e) (by rfl) said' (by decide+kernel) ⟨rfl,rfl,rfl,rfl,rfl,by decide+kernel⟩ ?_ ?_
 ·w_witness2
 ·skip
  intro w s₀ s₁ mg mb G Y fa o pm cd doc dV kV ho hd hcd hD hmg hg args vals as hpre hlay hrd hwl hlo
  refine Ground.open G ?_
  intro T B D TE TW
  have S:=T.seer (by decide+kernel)
  have BO:=base_ok T S Y
  have FN:∀f d,Mine.bm f=some d→Mine.Lm s₁.heap mg f d:=fun f d h=>Mine.QX (fun r hr=>T.fn r (recs_eq▸hr)) h
  wrow_args hpre hlay hrd hwl hlo
  rename_i l hs hlay0 hL0 hr0 hl2 x1 x2 a5 vs x3 hL ra w1 r0 hI hr hc1 hc2
  have hl:l.length≤63:=by omega
  rw[ofPy_ints]at w1
  refine Mine.Pg (c:=⟨lawRow.row.prog,w,s₁.heap,mg,mb,BO⟩) FN (A:=callerA) (s:=s₁) (a:=fa) (v:=.ref a5) (l:=l) hl ?_ hmg (fun _ _ e=>e) (Mine.N3 w1 hl) ?_
  ·exact⟨rfl,kC rfl,kC rfl⟩
  ·intro h' tk keep
   refine GoodW.toG ⟨.inl ⟨_,.bool true,[],rfl,fun cls=>rfl,.bool true,?_,fun _=>⟨dP,fun a ha=>by cases ha⟩⟩,keep,rfl,hg⟩
   first|wrow_post|kc_post
end MineH
theorem PySem.Challenge.cw_xm0110_01_holds : PySem.Challenge.rw_xm0110_01.Holds :=
 MineH.top
