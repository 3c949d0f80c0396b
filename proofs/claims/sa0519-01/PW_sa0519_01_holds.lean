import PyProof.Rows.All
import Wide.All
import OpenK.AllK
import Wide.FinOn
import Lean
import PySem.Challenge.RW_sa0519_01
open PySem PySem.W PySem.Calls PyProof.Rows
set_option Elab.async false
set_option linter.all false
set_option linter.constructorNameAsVariable false
set_option maxRecDepth 100000 set_option genInjectivity false set_option genSizeOf false set_option tactic.hygienic false set_option bootstrap.genMatcherCode false
namespace Mine
def wk1(s:Lean.Syntax):Lean.Syntax:=match s with
 | .atom _ v=> .atom .none v
 | .ident _ r v p=> .ident .none r v p
 |s=>s
def wk2(a:Array Lean.Syntax)(c:Lean.Syntax):Array Lean.Syntax:=
 let c:=Lean.Syntax.rewriteBottomUp wk1 c
 let k:=c[1].getKind
 cond (c.isOfKind `Lean.Parser.Command.universe) (c[1].getArgs.foldl (λa i=>a.push (let t:=a[0]!;t.setArg 1 (t[1].setArg 1 (t[1][1].setArg 0 i)))) a)
  (a.push (cond (k== `Lean.Parser.Command.definition||k== `Lean.Parser.Command.abbrev) (c.setArg 0 (c[0].setArg 4 (.node .none `null #[.node .none `Lean.Parser.Command.noncomputable #[.atom .none ""]]))) c))
local macro_rules (kind:=Lean.Parser.Command.mutual)|x=>cond (x[1][0].isOfKind `Lean.Parser.Command.open) (pure (.node .none `null (x[1].getArgs.foldl wk2 #[] 1))) Lean.Macro.throwUnsupported
namespace Internal
noncomputable section
open _root_.List renaming length_append→ε, length_map→ι, mem_cons→ν, length_cons→ξ, append_assoc→π, mem_singleton→ς, append_nil→υ, map_append→χ, mem_append→ω, not_mem_nil→Γ, map_map→Δ, nodup_cons→Η, mem_append_left→Θ, size_toArray→Ν, getElem?_append_left→Ο, getElem?_eq_getElem→Τ, length_set→Φ, map_cons→Χ, mem_append_right→Ψ, replicate→AA, mem_of_getElem?→AC, mem_map→AD, nodup_append→AE, getElem?_append_right→AG, set_append_right→AI, append_cons→AJ, getElem?_eq_some_iff→AR, take_length→AS, length_reverse→AX, isEmpty_iff→AZ, getElem?_take→Ab, lookup_cons→Ae, reverse_cons→Ag, take_append_of_le_length→Ah, filter_cons→Al, getElem?_set_ne→Ao, mem_map_of_mem→Ar, filterMap_cons→As, all_eq_true→Au, drop_eq_getElem_cons→Av, getElem?_map→Ay, getElem_mem→A0, map_reverse→A5, getD_eq_getElem?_getD→A9, mem_range→BA, nodup_nil→BB, mem_of_mem_take→BC, getLast?_eq_getElem?→BE, toList_toArray→BG, length_nil→BJ, forIn_cons→BK, mem_filter→BL, filter_append→BM, getElem?_set_self→BQ, mem_iff_getElem?→BS, filterMap_eq_map→BU, range→BW, mem_reverse→BY, lookup→Bb, nil_append→Bc, zip_cons_cons→Bh, cons→Bi
open _root_.Bool renaming noConfusion→ζ, or_eq_false_iff→AU, false_ne_true→Aj, and_eq_true→A4, not_eq_true'→A8, or_true→Be
open _root_.Option.some renaming inj→η
open PySem.Str renaming ofString→θ
open _root_.Nat renaming beq→μ, ble_eq_true_of_le→ο, le_of_ble_eq_true→φ, le_add_left→ψ, noConfusion→Α, ble→Ε, le_add_right→Ζ, le_refl→Ι, succ_le_succ→Κ, blt→Μ, lt_of_le_of_lt→Ρ, le_trans→Υ, add_sub_cancel_left→Ω, zero_lt_succ→AB, lt_succ_self→AF, beq_refl→AH, succ→AK, lt_of_succ_lt_succ→AM, eq_of_beq_eq_true→AO, lt_of_lt_of_le→AQ, zero_le→AT, ne_of_lt→AW, le_of_lt→AY, lt_of_succ_lt→Aa, le_succ→Ac, sub_self→Ai, succ_lt_succ→Ak, add_comm→Am, lt_succ_of_le→Ap, le_antisymm→Aq, le_of_not_lt→At, not_lt_zero→Aw, add_le_add_right→Ax, le_succ_of_le→Az, lt_succ_of_lt→A7, succ_pos→BD, add_le_add_left→BF, exists_eq_add_of_le→BN, succ_add→BO, zero_add→BP, lt_trans→BR, lt_of_not_le→BV, add_assoc→BZ, sub_succ_lt_self→Ba
open PySem.Heap renaming get?_push_of_some→Β, get?_push_size→Ξ, lt_size→Ad, dictOf_iff→BI, get?_update_self→BT, size_push→Bg
open _root_.Int renaming natCast_nonneg→AP, lt_of_lt_of_le→An, lt_irrefl→BH, lt_of_le_of_lt→Bf
open _root_.Option renaming isSome_iff_exists→AV, isNone_iff_eq_none→Af, noConfusion→A6, bind_some→BX
open PySem renaming Value→Bj, wpAny_bind→Bk, Shared→Bl, wpAny_pure→Bn, wpAny→Bp, model→Bq, Addr→Br, Around→Bs, wpAny_holding→Bt, wpAny_mono→Bu, wpAny_standAt→Bv, sizeLine_eq→Bw, mainGlobals→Bx, sysModules→By, Heap→Bz, NameKind→B0, wpAny_truthy_bool→B1, PyData→B2, cLine→B3, wpAny_assign_Name→B5, Comprehension→B6, tupleKind_room_in1→B7, callEnvC→B8, intKind→B9, Stmt→CC, FuncData→CD, wpAny_storeName_local→CG, foldedSetIterable→CH, starEach→CJ, Scope→CM, tupleKind→CN, swapsWith→CP, plainId_quiet→CQ, swappedStores→CR, compEnvC→CS, wpAny_specialOf→CU, codeAny_builtin→CW, call_meetsIn→CX, wpAny_typeOf→CY, BindsTo→CZ, assignEach→Ca, wpAny_mkInt→Cc, Flow→Cd, wpAny_call_entry→Ce, wpAny_isInstance→Cf, cellsFrom→Cg, call_meets→Ch, codeAny→Ci, bootBuiltins→Cj, constValue→Cl, backTo→Cm, relabel→Cn, wpAny_operating→Co, letOwnedTupleGo→Cp, wpAny_newList→Cq, comprehension→Cr, wpAny_release→Ct, typeLookup→Cu, builtinsNs→Cv, concat_meets→Cw, evalEach→Cz, compPost→C0, CmpOp→C4, Walks→C5, holding→C6, rawInt→C7, Result→C8
open PySem.W renaming Frag→B4, instObj→CB, emptyDict→CF, findIn→CV, kia_one→Cb, plainGet→Cy, nsIn→C3
open PyProof.Rows renaming Call_Name→CO
section
mutual open A
@[elab_as_elim] theorem C9{α:Sort _}{a:α}{P:α→Prop}{b:α}(h:a=b)(p:P b):P a:=h▸p
@[elab_as_elim] theorem Dr{α:Sort _}{a:α}{P:α→Prop}{b:α}(h:b=a)(p:P b):P a:=h▸p
@[elab_as_elim] theorem NC{α β:Type}{a r:α}{b s:β}{P:α→β→Prop}(e:some (a,b)=some (r,s))(h:P a b):P r s:=by cases e;exact h
theorem wr{G:Prop}(h: ∀Q:Prop,(G→Q)→Q):G:=h G id
theorem wt2{β γ:Type}{P:Prop}(J:β→γ→Prop)(h: ∀I:β→γ→Prop,(∀b g,I b g→J b g)→(∀b g,J b g→I b g)→P):P:=h J (λO O h=>h) λO O h=>h
@[elab_as_elim] theorem Fr{P:Nat→Prop}(h0:P 0)(h: ∀n,P (n+1))(n:Nat):P n:=Nat.casesOn (motive:=P) n h0 h
theorem Y0{k:Nat}{P: ∀z:Nat,z<k+1→Prop}(h0:P 0 (BD k))(h: ∀z (e:z<k),P (z+1) (Ak e)): ∀z e,P z e:=λz=>Nat.casesOn (motive:=λz=> ∀e,P z e) z (λO=>h0) λz e=>h z (AM e)
theorem ltz{P: ∀z:Nat,z<0→Prop}: ∀z e,P z e:=λO e=>absurd e (Aw _)
theorem X1{a b c:Nat}(h:a≤b)(p:Ε b c=true):a≤c:=Υ h (φ p)
theorem IL{a b c:Nat}(h:a<b)(p:Ε b c=true):a<c:=Υ h (φ p)
theorem Pv{a b c:Nat}(h:a<b)(p:Ε b (c+1)=true):a≤c:=Nat.le_of_lt_succ (IL h p)
theorem L7{a b c:Nat}(h:a≤b)(p:Ε (b+1) c=true):a<c:=IL (Ap h) p
theorem PL{a b c:Nat}(h:a+b<c):a<c:=Ρ (Ζ _ _) h
theorem zqC{a b c:Nat}(h:a+b≤c):a≤c:=Υ (Ζ _ _) h
theorem nK{a b c d:Nat}(h:a+b<c)(p:Ε c d=true):a<d:=IL (PL h) p
theorem zqD{a b c d:Nat}(h:a+b<c)(p:Ε c (d+1)=true):a≤d:=Pv (PL h) p
theorem Tg{a b c:Nat}(h:a+(b+1)<c):a+1+b<c:=(BO a b).symm▸h
theorem zqE{a b c:Nat}(h:a+(b+1)≤c):a+1+b≤c:=(BO a b).symm▸h
theorem qu{a b c:Nat}(h:a+(b+1)=c):a+1+b=c:=(BO a b).trans h
theorem Z6{a b c d:Nat}(h:a+(b+1)<c)(p:Ε c d=true):a+1<d:=nK (Tg h) p
theorem vF{a b c:Nat}(h:a+(b+1)=c):a<c:=h▸Ρ (Ζ a b) (AF _)
theorem wU{a:Nat}(h:a<1):a=0:=Nat.lt_one_iff.mp h
theorem YS{a b:Nat}(h:b<a):a=a - 1+1:=(Nat.sub_add_cancel (Ρ (AT _) h)).symm
theorem ZY{a b k c:Nat}(h:a<b)(p:Ε (k+b) c=true):k+a<c:=IL (Nat.add_lt_add_left h k) p
theorem v5{a b k c:Nat}(h:a<b)(p:Ε (k+b) (c+1)=true):k+a≤c:=Pv (Nat.add_lt_add_left h k) p
theorem zqj{a b k c:Nat}(h:a<b)(p:Ε (b+k) c=true):a+k<c:=IL (Nat.add_lt_add_right h k) p
theorem zqk{a:Nat}(h:a<2):a=0∨a=1:=Nat.le_one_iff_eq_zero_or_eq_one.mp (Nat.le_of_lt_succ h)
theorem oM{a:Int}(h:0<a∧a<4):a=1∨a=2∨a=3:=by lia
theorem zqM{a b:Nat}{c:Int}(h:a<b)(p:decide ((b:Int)≤c)=true):(a:Int)<c:=An (Int.ofNat_lt.mpr h) (of_decide_eq_true p)
theorem qf{a:Nat}(h:0<a):0<(a:Int):=Int.natCast_pos.mpr h
theorem zqO{a:Nat}{c:Int}(p:decide (c≤0)=true):c≤(a:Int):=Int.le_trans (of_decide_eq_true p) (AP a)
theorem mY{a b c n:Nat}(h:a+(b+1)<n)(k:c≤a+1):c+b<n:=Ρ (Ax k b) (Tg h)
theorem zqP{a b c n:Nat}(h:a+(b+1)<n)(k:c=a+1):c+b<n:=k▸Tg h
theorem zX{a b c n m:Nat}(h:a+b<n)(k:c≤a)(p:Ε n m=true):c<m:=Ρ k (nK h p)
theorem tx{a:Nat}(h:0<a∧a<4):0<(a:Int)∧(a:Int)<4:=⟨qf h.1,zqM h.2 rfl⟩
theorem zqu{a b j k c:Nat}(h:a<b)(g:c≤a+k)(p:Ε (b+k) j=true):c<j:=Ρ g (zqj h p)
theorem yi{a b k l c d j:Nat}(h:a<b)(g:c≤a+k)(g':d≤c+l)(p:Ε (b+k+l) j=true):d<j:=zqu (Ρ g (Nat.add_lt_add_right h k)) g' p
theorem vy{a b c k l j:Nat}(h:a≤b+k)(g:c≤a+l)(p:Ε (k+l) j=true):c≤b+j:=Υ g (Υ (Ax h l) (BZ b k l▸BF (φ p) b))
theorem wM{a b c d k l m j:Nat}(h:a≤b+k)(g:c≤a+l)(g':d≤c+m)(p:Ε (k+l+m) j=true):d≤b+j:=vy (vy h g (ο (Ι _))) g' p
theorem uJ{a b k l:Nat}(h:a+k<b)(p:Ε l k=true):a+l<b:=Ρ (BF (φ p) a) h
theorem wT{a k l:Nat}(p:Ε k l=true):a+k≤a+l:=BF (φ p) a
theorem jS{a k l:Nat}(h:a=k)(p:μ k l=false): ¬a=l:=λq=>absurd (h.symm.trans q) (Nat.ne_of_beq_eq_false p)
theorem vS{a l u c:Int}(h:l≤a∧a<u)(p:decide (u≤c)=true): ¬a=c:=λq=>BH c (An (q▸h.2) (of_decide_eq_true p))
theorem xS{a l u c:Int}(h:l<a∧a<u)(p:decide (u≤c)=true): ¬a=c:=vS ⟨Int.le_of_lt h.1,h.2⟩ p
theorem wG{a l u c:Int}(h:l≤a∧a<u)(p:decide (u≤c)=true):a<c:=An h.2 (of_decide_eq_true p)
theorem zrm{a l u c:Int}(h:l≤a∧a<u)(q:c≤a)(p:decide (u≤c)=true):False:=BH c (Bf q (wG h p))
theorem zrM{a l u c:Int}(h:l<a∧a<u)(q:c≤a)(p:decide (u≤c)=true):False:=zrm ⟨Int.le_of_lt h.1,h.2⟩ q p
theorem yU{a l u c:Int}(h:l<a∧a<u)(q:a=c)(p:decide (u≤c)=true):False:=xS h p q
theorem zrp{a b:Int}{x:Int}(h:x<a)(g:b≤x)(p:decide (a≤b)=true):False:=BH b (Bf g (An h (of_decide_eq_true p)))
theorem zrr{a:Int}{n k m:Nat}{z c:Int}{l:Int}(h:z≤a∧a<c+(n:Int))(g:m<n∧n≤k)(p:decide (c+(k:Int)≤l)=true):a<l:=An h.2 (Int.le_trans (Int.add_le_add_left (Int.ofNat_le.mpr g.2) c) (of_decide_eq_true p))
theorem zrs{a:Int}{n k:Nat}{c:Int}{l:Int}(h:a<c+(n:Int))(g:n≤k)(p:decide (c+(k:Int)≤l)=true):a<l:=An h (Int.le_trans (Int.add_le_add_left (Int.ofNat_le.mpr g) c) (of_decide_eq_true p))
theorem zrt{a l u c d:Int}(h:l≤a∧a<u)(p:decide (u≤c)=true):a<c∨d<a:= .inl (wG h p)
theorem zru{a c d l:Int}(h:a<c∨d<a)(p:decide (c≤l∧l≤d)=true):a≠l:=λq=>(q▸h).elim (λe=>BH l (An e (of_decide_eq_true p).1)) λe=>BH l (Bf (of_decide_eq_true p).2 e)
theorem xp{a l u c:Int}(h: ¬(l≤a∧a≤u))(p:decide (l≤c∧c≤u)=true):c≠a:=λq=>h (q▸of_decide_eq_true p)
theorem x9{a l u:Int}{c:Int}(q:a=c)(p:decide (l≤c∧c<u)=true):l≤a∧a<u:=q▸of_decide_eq_true p
theorem zrx{a b c d e:Nat}(h:a<b)(g:c≤d)(p:Ε (b+d) e=true):a+c<e:=IL (Nat.add_lt_add_of_lt_of_le h g) p
theorem zry{a b c:Nat}(h:a=b)(g:c<b):c<a:=h▸g
theorem zrY{a b c d:Nat}(h:a=b)(g:b<c)(p:Ε c d=true):a<d:=h▸IL g p
theorem zrz{a b c d:Nat}(h:a≤b)(g:b<c)(p:Ε c d=true):a<d:=Ρ h (IL g p)
theorem sS{a b c d:Nat}(h:a≤b)(g:b≤c)(p:Ε (c+1) d=true):a<d:=L7 (Υ h g) p
theorem zsa{a b c d k:Nat}(h:a=b)(g:b=c)(q:k<c∧c≤d)(p:Ε (d+1) e=true):a<e:=h.trans g▸L7 q.2 p
theorem zsb{a b c d k:Nat}(h:a=b)(g:b=c)(q:k<c∧c≤d):k<a:=h.trans g▸q.1
theorem xN{a b:Nat}:a+(b+1)=a+1+b:=(BO a b).symm
theorem yB{a b:Nat}:a+1+b=a+(b+1):=BO a b
theorem xq{a:Nat}:(a:Int)<((a+1:Nat):Int):=Int.ofNat_lt.mpr (AF a)
theorem zsf{a b:Nat}:(a:Int)≠((a+(b+1):Nat):Int):=λh=>absurd (Int.ofNat_inj.mp h) (AW (Ρ (Ζ a b) (AF _)))
theorem zsh{a b c:Nat}(h:a≤b+c):a+1≤b+1+c:=(BO b c).symm▸Κ h
theorem yV{a b c d:Nat}(h:a+b<c)(p:Ε c d=true):b<d:=Ρ (ψ b a) (IL h p)
theorem zsj{a b c d:Nat}(h:a+b<c)(p:Ε c d=true):0+b<d:=(BP b).symm▸yV h p
theorem zsl{a b c:Nat}(h:a≤b+1)(g:c≤a+d):c≤b+(d+1):=yB (a:=b) (b:=d)▸Υ g (Ax h d)
theorem zsm{a k b c n:Nat}(h:a+k*(b+1)<n)(g:c≤a+k):c+k*b<n:=Ρ (Ax g _) (by rw [BZ,Am k];exact h)
theorem xO{k m:Nat}(h:k+1≤m): ¬a+m≤a+k:=λe=>absurd (Nat.le_of_add_le_add_left e) (Nat.not_le_of_lt h)
theorem zsr{a b:Nat}(h: ¬a≤b): ¬(a:Int)≤b:=λe=>h (Int.ofNat_le.mp e)
theorem zst{a:Nat}(h:a<4):a=0∨a=1∨a=2∨a=3:=by lia
theorem zsx{a:Nat}(h:0<a∧a<4)(p:decide (4≤c)=true):(a:Int)≠c:=λe=>absurd (e▸zqM h.2 (of_decide_eq_true p|>λq=>decide_eq_true (p:=((4:Nat):Int)≤c) q)) (BH _)
end
section
mutual open A
variable{P Q R S T:Prop}{Z:Prop}
theorem Dl(h:P∧Q)(k:P→Q→Z):Z:=k h.1 h.2
theorem ET(h:P∧Q∧R)(k:P→Q→R→Z):Z:=k h.1 h.2.1 h.2.2
theorem Oa(h:P∧Q∧R∧S)(k:P→Q→R→S→Z):Z:=k h.1 h.2.1 h.2.2.1 h.2.2.2
theorem XA(h0:P)(h1:Q)(h2:R)(h3:S):P∧Q∧R∧S:=⟨h0,h1,h2,h3⟩
theorem m9(h0:P)(h1:Q)(h2:R)(h3:S)(h4:T):P∧Q∧R∧S∧T:=⟨h0,h1,h2,h3,h4⟩
end
end
section
mutual open A
variable{A:Type}{P Q R S T:A→Prop}{Z:Prop}
theorem D3(h: ∃x,P x)(k: ∀x,P x→Z):Z:=h.elim λx h=>k x h
theorem DQ(h: ∃x,P x∧Q x)(k: ∀x,P x→Q x→Z):Z:=h.elim λx h=>k x h.1 h.2
theorem ES(h: ∃x,P x∧Q x∧R x)(k: ∀x,P x→Q x→R x→Z):Z:=h.elim λx h=>k x h.1 h.2.1 h.2.2
theorem KX(h: ∃x,P x∧Q x∧R x∧S x)(k: ∀x,P x→Q x→R x→S x→Z):Z:=h.elim λx h=>k x h.1 h.2.1 h.2.2.1 h.2.2.2
theorem XG(h: ∃x,P x∧Q x∧R x∧S x∧T x)(k: ∀x,P x→Q x→R x→S x→T x→Z):Z:=h.elim λx h=>k x h.1 h.2.1 h.2.2.1 h.2.2.2.1 h.2.2.2.2
theorem EF(x)(h0:P x): ∃x,P x:=⟨x,h0⟩
theorem DM(x)(h0:P x)(h1:Q x): ∃x,P x∧Q x:=⟨x,h0,h1⟩
theorem ED(x)(h0:P x)(h1:Q x)(h2:R x): ∃x,P x∧Q x∧R x:=⟨x,h0,h1,h2⟩
theorem J8(x)(h0:P x)(h1:Q x)(h2:R x)(h3:S x): ∃x,P x∧Q x∧R x∧S x:=⟨x,h0,h1,h2,h3⟩
theorem gu(x)(h0:P x)(h1:Q x)(h2:R x)(h3:S x)(h4:T x): ∃x,P x∧Q x∧R x∧S x∧T x:=⟨x,h0,h1,h2,h3,h4⟩
end
end
section
mutual open A
variable{A B:Type}{P Q R S T U V W:A→B→Prop}{Z:Prop}
theorem HY(h: ∃x y,P x y)(k: ∀x y,P x y→Z):Z:=h.elim λx h=>h.elim λy h=>k x y h
theorem GD(h: ∃x y,P x y∧Q x y)(k: ∀x y,P x y→Q x y→Z):Z:=h.elim λx h=>h.elim λy h=>k x y h.1 h.2
theorem D0(h: ∃x y,P x y∧Q x y∧R x y)(k: ∀x y,P x y→Q x y→R x y→Z):Z:=h.elim λx h=>h.elim λy h=>k x y h.1 h.2.1 h.2.2
theorem Ib(h: ∃x y,P x y∧Q x y∧R x y∧S x y)(k: ∀x y,P x y→Q x y→R x y→S x y→Z):Z:=h.elim λx h=>h.elim λy h=>k x y h.1 h.2.1 h.2.2.1 h.2.2.2
theorem IE(h: ∃x y,P x y∧Q x y∧R x y∧S x y∧T x y)(k: ∀x y,P x y→Q x y→R x y→S x y→T x y→Z):Z:=h.elim λx h=>h.elim λy h=>k x y h.1 h.2.1 h.2.2.1 h.2.2.2.1 h.2.2.2.2
theorem ZH(h: ∃x y,P x y∧Q x y∧R x y∧S x y∧T x y∧U x y)(k: ∀x y,P x y→Q x y→R x y→S x y→T x y→U x y→Z):Z:=h.elim λx h=>h.elim λy h=>k x y h.1 h.2.1 h.2.2.1 h.2.2.2.1 h.2.2.2.2.1 h.2.2.2.2.2
theorem Me(h: ∃x y,P x y∧Q x y∧R x y∧S x y∧T x y∧U x y∧V x y∧W x y)(k: ∀x y,P x y→Q x y→R x y→S x y→T x y→U x y→V x y→W x y→Z):Z:=h.elim λx h=>h.elim λy h=>k x y h.1 h.2.1 h.2.2.1 h.2.2.2.1 h.2.2.2.2.1 h.2.2.2.2.2.1 h.2.2.2.2.2.2.1 h.2.2.2.2.2.2.2
theorem TW(x y)(h0:P x y): ∃x y,P x y:=⟨x,y,h0⟩
theorem Gp(x y)(h0:P x y)(h1:Q x y): ∃x y,P x y∧Q x y:=⟨x,y,h0,h1⟩
theorem EK(x y)(h0:P x y)(h1:Q x y)(h2:R x y): ∃x y,P x y∧Q x y∧R x y:=⟨x,y,h0,h1,h2⟩
theorem FL(x y)(h0:P x y)(h1:Q x y)(h2:R x y)(h3:S x y): ∃x y,P x y∧Q x y∧R x y∧S x y:=⟨x,y,h0,h1,h2,h3⟩
theorem LH(x y)(h0:P x y)(h1:Q x y)(h2:R x y)(h3:S x y)(h4:T x y): ∃x y,P x y∧Q x y∧R x y∧S x y∧T x y:=⟨x,y,h0,h1,h2,h3,h4⟩
theorem ID(x y)(h0:P x y)(h1:Q x y)(h2:R x y)(h3:S x y)(h4:T x y)(h5:U x y): ∃x y,P x y∧Q x y∧R x y∧S x y∧T x y∧U x y:=⟨x,y,h0,h1,h2,h3,h4,h5⟩
end
end
section
mutual open A
variable{A B C:Type}{P Q R S T U V:A→B→C→Prop}{Z:Prop}
theorem S5(h: ∃x y z,P x y z)(k: ∀x y z,P x y z→Z):Z:=h.elim λx h=>h.elim λy h=>h.elim λz h=>k x y z h
theorem UA(h: ∃x y z,P x y z∧Q x y z)(k: ∀x y z,P x y z→Q x y z→Z):Z:=h.elim λx h=>h.elim λy h=>h.elim λz h=>k x y z h.1 h.2
theorem Vv(h: ∃x y z,P x y z∧Q x y z∧R x y z)(k: ∀x y z,P x y z→Q x y z→R x y z→Z):Z:=h.elim λx h=>h.elim λy h=>h.elim λz h=>k x y z h.1 h.2.1 h.2.2
theorem Do(h: ∃x y z,P x y z∧Q x y z∧R x y z∧S x y z)(k: ∀x y z,P x y z→Q x y z→R x y z→S x y z→Z):Z:=h.elim λx h=>h.elim λy h=>h.elim λz h=>k x y z h.1 h.2.1 h.2.2.1 h.2.2.2
theorem Ld(h: ∃x y z,P x y z∧Q x y z∧R x y z∧S x y z∧T x y z)(k: ∀x y z,P x y z→Q x y z→R x y z→S x y z→T x y z→Z):Z:=h.elim λx h=>h.elim λy h=>h.elim λz h=>k x y z h.1 h.2.1 h.2.2.1 h.2.2.2.1 h.2.2.2.2
theorem IW(h: ∃x y z,P x y z∧Q x y z∧R x y z∧S x y z∧T x y z∧U x y z)(k: ∀x y z,P x y z→Q x y z→R x y z→S x y z→T x y z→U x y z→Z):Z:=h.elim λx h=>h.elim λy h=>h.elim λz h=>k x y z h.1 h.2.1 h.2.2.1 h.2.2.2.1 h.2.2.2.2.1 h.2.2.2.2.2
theorem JU(h: ∃x y z,P x y z∧Q x y z∧R x y z∧S x y z∧T x y z∧U x y z∧V x y z)(k: ∀x y z,P x y z→Q x y z→R x y z→S x y z→T x y z→U x y z→V x y z→Z):Z:=h.elim λx h=>h.elim λy h=>h.elim λz h=>k x y z h.1 h.2.1 h.2.2.1 h.2.2.2.1 h.2.2.2.2.1 h.2.2.2.2.2.1 h.2.2.2.2.2.2
theorem MT(x y z)(h0:P x y z): ∃x y z,P x y z:=⟨x,y,z,h0⟩
theorem QL(x y z)(h0:P x y z)(h1:Q x y z): ∃x y z,P x y z∧Q x y z:=⟨x,y,z,h0,h1⟩
theorem K6(x y z)(h0:P x y z)(h1:Q x y z)(h2:R x y z): ∃x y z,P x y z∧Q x y z∧R x y z:=⟨x,y,z,h0,h1,h2⟩
theorem Ea(x y z)(h0:P x y z)(h1:Q x y z)(h2:R x y z)(h3:S x y z): ∃x y z,P x y z∧Q x y z∧R x y z∧S x y z:=⟨x,y,z,h0,h1,h2,h3⟩
theorem Lf(x y z)(h0:P x y z)(h1:Q x y z)(h2:R x y z)(h3:S x y z)(h4:T x y z): ∃x y z,P x y z∧Q x y z∧R x y z∧S x y z∧T x y z:=⟨x,y,z,h0,h1,h2,h3,h4⟩
theorem Up(x y z)(h0:P x y z)(h1:Q x y z)(h2:R x y z)(h3:S x y z)(h4:T x y z)(h5:U x y z): ∃x y z,P x y z∧Q x y z∧R x y z∧S x y z∧T x y z∧U x y z:=⟨x,y,z,h0,h1,h2,h3,h4,h5⟩
theorem TT(x y z)(h0:P x y z)(h1:Q x y z)(h2:R x y z)(h3:S x y z)(h4:T x y z)(h5:U x y z)(h6:V x y z): ∃x y z,P x y z∧Q x y z∧R x y z∧S x y z∧T x y z∧U x y z∧V x y z:=⟨x,y,z,h0,h1,h2,h3,h4,h5,h6⟩
end
end
section
mutual open A
variable{A B C D:Type}{P Q R S T U:A→B→C→D→Prop}{Z:Prop}
theorem m6(h: ∃x y z u,P x y z u)(k: ∀x y z u,P x y z u→Z):Z:=h.elim λx h=>h.elim λy h=>h.elim λz h=>h.elim λu h=>k x y z u h
theorem Jm(h: ∃x y z u,P x y z u∧Q x y z u)(k: ∀x y z u,P x y z u→Q x y z u→Z):Z:=h.elim λx h=>h.elim λy h=>h.elim λz h=>h.elim λu h=>k x y z u h.1 h.2
theorem JG(h: ∃x y z u,P x y z u∧Q x y z u∧R x y z u)(k: ∀x y z u,P x y z u→Q x y z u→R x y z u→Z):Z:=h.elim λx h=>h.elim λy h=>h.elim λz h=>h.elim λu h=>k x y z u h.1 h.2.1 h.2.2
theorem GY(h: ∃x y z u,P x y z u∧Q x y z u∧R x y z u∧S x y z u)(k: ∀x y z u,P x y z u→Q x y z u→R x y z u→S x y z u→Z):Z:=h.elim λx h=>h.elim λy h=>h.elim λz h=>h.elim λu h=>k x y z u h.1 h.2.1 h.2.2.1 h.2.2.2
theorem UZ(h: ∃x y z u,P x y z u∧Q x y z u∧R x y z u∧S x y z u∧T x y z u)(k: ∀x y z u,P x y z u→Q x y z u→R x y z u→S x y z u→T x y z u→Z):Z:=h.elim λx h=>h.elim λy h=>h.elim λz h=>h.elim λu h=>k x y z u h.1 h.2.1 h.2.2.1 h.2.2.2.1 h.2.2.2.2
theorem Hk(h: ∃x y z u,P x y z u∧Q x y z u∧R x y z u∧S x y z u∧T x y z u∧U x y z u)(k: ∀x y z u,P x y z u→Q x y z u→R x y z u→S x y z u→T x y z u→U x y z u→Z):Z:=h.elim λx h=>h.elim λy h=>h.elim λz h=>h.elim λu h=>k x y z u h.1 h.2.1 h.2.2.1 h.2.2.2.1 h.2.2.2.2.1 h.2.2.2.2.2
theorem oN(x y z u)(h0:P x y z u): ∃x y z u,P x y z u:=⟨x,y,z,u,h0⟩
theorem QC(x y z u)(h0:P x y z u)(h1:Q x y z u): ∃x y z u,P x y z u∧Q x y z u:=⟨x,y,z,u,h0,h1⟩
theorem RS(x y z u)(h0:P x y z u)(h1:Q x y z u)(h2:R x y z u): ∃x y z u,P x y z u∧Q x y z u∧R x y z u:=⟨x,y,z,u,h0,h1,h2⟩
theorem FQ(x y z u)(h0:P x y z u)(h1:Q x y z u)(h2:R x y z u)(h3:S x y z u): ∃x y z u,P x y z u∧Q x y z u∧R x y z u∧S x y z u:=⟨x,y,z,u,h0,h1,h2,h3⟩
theorem IY(x y z u)(h0:P x y z u)(h1:Q x y z u)(h2:R x y z u)(h3:S x y z u)(h4:T x y z u): ∃x y z u,P x y z u∧Q x y z u∧R x y z u∧S x y z u∧T x y z u:=⟨x,y,z,u,h0,h1,h2,h3,h4⟩
theorem Gs(x y z u)(h0:P x y z u)(h1:Q x y z u)(h2:R x y z u)(h3:S x y z u)(h4:T x y z u)(h5:U x y z u): ∃x y z u,P x y z u∧Q x y z u∧R x y z u∧S x y z u∧T x y z u∧U x y z u:=⟨x,y,z,u,h0,h1,h2,h3,h4,h5⟩
end
end
section
mutual open A
variable{A B C D E:Type}{P Q R S T U:A→B→C→D→E→Prop}{Z:Prop}
theorem aG(h: ∃x y z u v,P x y z u v∧Q x y z u v)(k: ∀x y z u v,P x y z u v→Q x y z u v→Z):Z:=h.elim λx h=>h.elim λy h=>h.elim λz h=>h.elim λu h=>h.elim λv h=>k x y z u v h.1 h.2
theorem FT(h: ∃x y z u v,P x y z u v∧Q x y z u v∧R x y z u v)(k: ∀x y z u v,P x y z u v→Q x y z u v→R x y z u v→Z):Z:=h.elim λx h=>h.elim λy h=>h.elim λz h=>h.elim λu h=>h.elim λv h=>k x y z u v h.1 h.2.1 h.2.2
theorem SF(h: ∃x y z u v,P x y z u v∧Q x y z u v∧R x y z u v∧S x y z u v∧T x y z u v)(k: ∀x y z u v,P x y z u v→Q x y z u v→R x y z u v→S x y z u v→T x y z u v→Z):Z:=h.elim λx h=>h.elim λy h=>h.elim λz h=>h.elim λu h=>h.elim λv h=>k x y z u v h.1 h.2.1 h.2.2.1 h.2.2.2.1 h.2.2.2.2
theorem Qx(h: ∃x y z u v,P x y z u v∧Q x y z u v∧R x y z u v∧S x y z u v∧T x y z u v∧U x y z u v)(k: ∀x y z u v,P x y z u v→Q x y z u v→R x y z u v→S x y z u v→T x y z u v→U x y z u v→Z):Z:=h.elim λx h=>h.elim λy h=>h.elim λz h=>h.elim λu h=>h.elim λv h=>k x y z u v h.1 h.2.1 h.2.2.1 h.2.2.2.1 h.2.2.2.2.1 h.2.2.2.2.2
theorem GV(x y z u v)(h0:P x y z u v)(h1:Q x y z u v)(h2:R x y z u v): ∃x y z u v,P x y z u v∧Q x y z u v∧R x y z u v:=⟨x,y,z,u,v,h0,h1,h2⟩
theorem Si(x y z u v)(h0:P x y z u v)(h1:Q x y z u v)(h2:R x y z u v)(h3:S x y z u v)(h4:T x y z u v): ∃x y z u v,P x y z u v∧Q x y z u v∧R x y z u v∧S x y z u v∧T x y z u v:=⟨x,y,z,u,v,h0,h1,h2,h3,h4⟩
theorem Qt(x y z u v)(h0:P x y z u v)(h1:Q x y z u v)(h2:R x y z u v)(h3:S x y z u v)(h4:T x y z u v)(h5:U x y z u v): ∃x y z u v,P x y z u v∧Q x y z u v∧R x y z u v∧S x y z u v∧T x y z u v∧U x y z u v:=⟨x,y,z,u,v,h0,h1,h2,h3,h4,h5⟩
end
end
section
mutual open A
variable{A B C D E F:Type}{P Q R S T U:A→B→C→D→E→F→Prop}{Z:Prop}
theorem UI(h: ∃x y z u v w,P x y z u v w∧Q x y z u v w∧R x y z u v w)(k: ∀x y z u v w,P x y z u v w→Q x y z u v w→R x y z u v w→Z):Z:=h.elim λx h=>h.elim λy h=>h.elim λz h=>h.elim λu h=>h.elim λv h=>h.elim λw h=>k x y z u v w h.1 h.2.1 h.2.2
theorem Mb(h: ∃x y z u v w,P x y z u v w∧Q x y z u v w∧R x y z u v w∧S x y z u v w)(k: ∀x y z u v w,P x y z u v w→Q x y z u v w→R x y z u v w→S x y z u v w→Z):Z:=h.elim λx h=>h.elim λy h=>h.elim λz h=>h.elim λu h=>h.elim λv h=>h.elim λw h=>k x y z u v w h.1 h.2.1 h.2.2.1 h.2.2.2
theorem Hw(h: ∃x y z u v w,P x y z u v w∧Q x y z u v w∧R x y z u v w∧S x y z u v w∧T x y z u v w∧U x y z u v w)(k: ∀x y z u v w,P x y z u v w→Q x y z u v w→R x y z u v w→S x y z u v w→T x y z u v w→U x y z u v w→Z):Z:=h.elim λx h=>h.elim λy h=>h.elim λz h=>h.elim λu h=>h.elim λv h=>h.elim λw h=>k x y z u v w h.1 h.2.1 h.2.2.1 h.2.2.2.1 h.2.2.2.2.1 h.2.2.2.2.2
theorem F6(x y z u v w)(h0:P x y z u v w)(h1:Q x y z u v w)(h2:R x y z u v w)(h3:S x y z u v w): ∃x y z u v w,P x y z u v w∧Q x y z u v w∧R x y z u v w∧S x y z u v w:=⟨x,y,z,u,v,w,h0,h1,h2,h3⟩
theorem J1(x y z u v w)(h0:P x y z u v w)(h1:Q x y z u v w)(h2:R x y z u v w)(h3:S x y z u v w)(h4:T x y z u v w)(h5:U x y z u v w): ∃x y z u v w,P x y z u v w∧Q x y z u v w∧R x y z u v w∧S x y z u v w∧T x y z u v w∧U x y z u v w:=⟨x,y,z,u,v,w,h0,h1,h2,h3,h4,h5⟩
end
end
mutual open A
theorem ib{Gu:Type}{P0:Prop}{P1:Prop}{P3:Gu→Prop}{P4:Gu→Prop}{P5:Gu→Prop}{Q:Prop}(h:P0∧P1∧ ∃x2:Gu,P3 x2∧P4 x2∧P5 x2)(k: ∀(p0:P0) (p1:P1) (x2:Gu) (p3:P3 x2) (p4:P4 x2) (p5:P5 x2),Q):Q:=(h.2.2).elim λx2 h2=>k h.1 h.2.1 x2 h2.1 h2.2.1 h2.2.2
theorem r9{Gw:Type}{P0:Prop}{P2:Gw→Prop}{Q:Prop}(h:P0∧ ∃x1:Gw,P2 x1)(k: ∀(p0:P0) (x1:Gw) (p2:P2 x1),Q):Q:=(h.2).elim λx1 h1=>k h.1 x1 h1
theorem ri{Gw:Type}{P0:Prop}{P2:Gw→Prop}{P3:Gw→Prop}{Q:Prop}(h:P0∧ ∃x1:Gw,P2 x1∧P3 x1)(k: ∀(p0:P0) (x1:Gw) (p2:P2 x1) (p3:P3 x1),Q):Q:=(h.2).elim λx1 h1=>k h.1 x1 h1.1 h1.2
theorem Qw{Gw:Type}{P0:Prop}{P2:Gw→Prop}{P3:Gw→Prop}{P4:Gw→Prop}{Q:Prop}(h:P0∧ ∃x1:Gw,P2 x1∧P3 x1∧P4 x1)(k: ∀(p0:P0) (x1:Gw) (p2:P2 x1) (p3:P3 x1) (p4:P4 x1),Q):Q:=(h.2).elim λx1 h1=>k h.1 x1 h1.1 h1.2.1 h1.2.2
theorem lW{Gw:Type}{Gu:Type}{P0:Prop}{P3:Gw→Gu→Prop}{P4:Gw→Gu→Prop}{Q:Prop}(h:P0∧ ∃x1:Gw,∃x2:Gu,P3 x1 x2∧P4 x1 x2)(k: ∀(p0:P0) (x1:Gw) (x2:Gu) (p3:P3 x1 x2) (p4:P4 x1 x2),Q):Q:=(h.2).elim λx1 h1=>(h1).elim λx2 h2=>k h.1 x1 x2 h2.1 h2.2
theorem Ke{Gw:Type}{Gu:Type}{P0:Prop}{P3:Gw→Gu→Prop}{P4:Gw→Gu→Prop}{P5:Gw→Gu→Prop}{Q:Prop}(h:P0∧ ∃x1:Gw,∃x2:Gu,P3 x1 x2∧P4 x1 x2∧P5 x1 x2)(k: ∀(p0:P0) (x1:Gw) (x2:Gu) (p3:P3 x1 x2) (p4:P4 x1 x2) (p5:P5 x1 x2),Q):Q:=(h.2).elim λx1 h1=>(h1).elim λx2 h2=>k h.1 x1 x2 h2.1 h2.2.1 h2.2.2
theorem qv{IP:Type}{Gu:Type}{P1:IP→Prop}{P3:IP→Gu→Prop}{Q:Prop}(h: ∃x0:IP,P1 x0∧ ∃x2:Gu,P3 x0 x2)(k: ∀(x0:IP) (p1:P1 x0) (x2:Gu) (p3:P3 x0 x2),Q):Q:=h.elim λx0 h0=>(h0.2).elim λx2 h2=>k x0 h0.1 x2 h2
theorem jF{IP:Type}{Gu:Type}{P1:IP→Prop}{P3:IP→Gu→Prop}{P4:IP→Gu→Prop}{P5:IP→Gu→Prop}{Q:Prop}(h: ∃x0:IP,P1 x0∧ ∃x2:Gu,P3 x0 x2∧P4 x0 x2∧P5 x0 x2)(k: ∀(x0:IP) (p1:P1 x0) (x2:Gu) (p3:P3 x0 x2) (p4:P4 x0 x2) (p5:P5 x0 x2),Q):Q:=h.elim λx0 h0=>(h0.2).elim λx2 h2=>k x0 h0.1 x2 h2.1 h2.2.1 h2.2.2
theorem dK{IP:Type}{Gu:Type}{P1:IP→Prop}{P3:IP→Gu→Prop}{P4:IP→Gu→Prop}{P5:IP→Gu→Prop}{P6:IP→Gu→Prop}{Q:Prop}(h: ∃x0:IP,P1 x0∧ ∃x2:Gu,P3 x0 x2∧P4 x0 x2∧P5 x0 x2∧P6 x0 x2)(k: ∀(x0:IP) (p1:P1 x0) (x2:Gu) (p3:P3 x0 x2) (p4:P4 x0 x2) (p5:P5 x0 x2) (p6:P6 x0 x2),Q):Q:=h.elim λx0 h0=>(h0.2).elim λx2 h2=>k x0 h0.1 x2 h2.1 h2.2.1 h2.2.2.1 h2.2.2.2
theorem Pz{IP:Type}{Gu:Type}{R9:Type}{jP:Type}{P1:IP→Prop}{P5:IP→Gu→R9→jP→Prop}{P6:IP→Gu→R9→jP→Prop}{P7:IP→Gu→R9→jP→Prop}{P8:IP→Gu→R9→jP→Prop}{P9:IP→Gu→R9→jP→Prop}{P10:IP→Gu→R9→jP→Prop}{Q:Prop}(h: ∃x0:IP,P1 x0∧ ∃x2:Gu,∃x3:R9,∃x4:jP,P5 x0 x2 x3 x4∧P6 x0 x2 x3 x4∧P7 x0 x2 x3 x4∧P8 x0 x2 x3 x4∧P9 x0 x2 x3 x4∧P10 x0 x2 x3 x4)(k: ∀(x0:IP) (p1:P1 x0) (x2:Gu) (x3:R9) (x4:jP) (p5:P5 x0 x2 x3 x4) (p6:P6 x0 x2 x3 x4) (p7:P7 x0 x2 x3 x4) (p8:P8 x0 x2 x3 x4) (p9:P9 x0 x2 x3 x4) (p10:P10 x0 x2 x3 x4),Q):Q:=h.elim λx0 h0=>(h0.2).elim λx2 h2=>(h2).elim λx3 h3=>(h3).elim λx4 h4=>k x0 h0.1 x2 x3 x4 h4.1 h4.2.1 h4.2.2.1 h4.2.2.2.1 h4.2.2.2.2.1 h4.2.2.2.2.2
theorem hV{Gw:Type}{P0:Prop}{P2:Gw→Prop}(p0:P0)(x1:Gw)(p2:P2 x1):P0∧ ∃x1:Gw,P2 x1:=⟨p0,x1,p2⟩
theorem GS{Gw:Type}{P0:Prop}{P2:Gw→Prop}{P3:Gw→Prop}(p0:P0)(x1:Gw)(p2:P2 x1)(p3:P3 x1):P0∧ ∃x1:Gw,P2 x1∧P3 x1:=⟨p0,x1,p2,p3⟩
theorem cE{Gw:Type}{P0:Prop}{P2:Gw→Prop}{P3:Gw→Prop}{P4:Gw→Prop}(p0:P0)(x1:Gw)(p2:P2 x1)(p3:P3 x1)(p4:P4 x1):P0∧ ∃x1:Gw,P2 x1∧P3 x1∧P4 x1:=⟨p0,x1,p2,p3,p4⟩
theorem i7{Gw:Type}{R9:Type}{P0:Prop}{P2:Gw→Prop}{P4:Gw→R9→Prop}{P5:Gw→R9→Prop}(p0:P0)(x1:Gw)(p2:P2 x1)(x3:R9)(p4:P4 x1 x3)(p5:P5 x1 x3):P0∧ ∃x1:Gw,P2 x1∧ ∃x3:R9,P4 x1 x3∧P5 x1 x3:=⟨p0,x1,p2,x3,p4,p5⟩
theorem FJ{Gw:Type}{Gu:Type}{P0:Prop}{P3:Gw→Gu→Prop}{P4:Gw→Gu→Prop}{P5:Gw→Gu→Prop}(p0:P0)(x1:Gw)(x2:Gu)(p3:P3 x1 x2)(p4:P4 x1 x2)(p5:P5 x1 x2):P0∧ ∃x1:Gw,∃x2:Gu,P3 x1 x2∧P4 x1 x2∧P5 x1 x2:=⟨p0,x1,x2,p3,p4,p5⟩
theorem JF{IP:Type}{R9:Type}{P1:IP→Prop}{P2:IP→Prop}{P4:IP→R9→Prop}(x0:IP)(p1:P1 x0)(p2:P2 x0)(x3:R9)(p4:P4 x0 x3): ∃x0:IP,P1 x0∧P2 x0∧ ∃x3:R9,P4 x0 x3:=⟨x0,p1,p2,x3,p4⟩
theorem r7{IP:Type}{Gu:Type}{P1:IP→Prop}{P3:IP→Gu→Prop}(x0:IP)(p1:P1 x0)(x2:Gu)(p3:P3 x0 x2): ∃x0:IP,P1 x0∧ ∃x2:Gu,P3 x0 x2:=⟨x0,p1,x2,p3⟩
end
end
section
set_option genInjectivity true
mutual open A
set_option genCtorIdx false in
inductive DO where
 |i (n:Int)|s (n:Nat)|p (a b:Int)|t (x:Str)
def DO.ctorIdx(x:DO):Nat:=DO.casesOn x (λO=>0) (λO=>1) (λO O=>2) λO=>3
def DO.kind:DO→Nat
 | .i _=>0| .s _=>1| .p _ _=>2| .t _=>3
set_option genCtorIdx false in
inductive Hd where
 |tup|lst|Dg (k:Nat) (ks:List DO)|inst (c:Nat)
def Hd.ctorIdx(x:Hd):Nat:=Hd.casesOn x 0 1 (λO O=>2) λO=>3
set_option genCtorIdx false in
inductive D where
 |none|bool (b:Bool)|int (i:Int)|sym (n:Nat)|str (x:Str)|nd (h:Hd) (l:List D)
def D.ctorIdx(x:D):Nat:=D.casesOn x 0 (λO=>1) (λO=>2) (λO=>3) (λO=>4) λO O=>5
set_option genCtorIdx false in
inductive V where
 |d (x:D)|cell (i:Nat)
def V.ctorIdx(x:V):Nat:=V.casesOn x (λO=>0) λO=>1
set_option genCtorIdx false in
inductive Dh where
 |lv (h:Hd) (l:List V)|fz (x:D)
def Dh.ctorIdx(x:Dh):Nat:=Dh.casesOn x (λO O=>0) λO=>1
abbrev Store:=List Dh
abbrev Di:=List (Nat×V)
inductive T where
 |mk (t n:Nat) (k:List T)
structure Fn where
 name:Nat
 ps:List Nat
 df:Nat
 body:List T
abbrev DF(n:Nat):T:= .mk 0 n []
abbrev Dp(n:Nat):T:= .mk 4 n []
abbrev Eu(n:Nat):T:= .mk 5 n []
def Fw:List Str:= [θ "",θ "Catalog",θ "Collector",θ "Count",θ "CropBox",θ "Decimal",θ "INHERITED",θ "Kids",θ "MOST_HOPS",θ "Mark",θ "MediaBox",θ "Name",θ "Names",θ "Page",θ "Pages",θ "Parent",θ "Reference",θ "Resources",θ "Root",θ "Rotate",θ "SINGLE",θ "Shelf",θ "Spot",θ "Stream",θ "String",θ "TreeFault",θ "Type",θ "X",θ "Y",θ "__init__",θ "_law_count",θ "_law_dip",θ "_law_marks",θ "_law_seen",θ "_law_shelf",θ "_law_typed",θ "_law_unfolded",θ "_law_vat",θ "above",θ "abs",θ "add",θ "append",θ "array",θ "assembled",θ "at",θ "bare_page",θ "barred",θ "barred_numbers",θ "before",θ "bool",θ "bytes",θ "cells",θ "collector",θ "collectors",θ "cut",θ "deep",θ "dict",θ "extend",θ "fetch",θ "fields",θ "fields_of",θ "firsts",θ "found",θ "fresh",θ "generation",θ "get",θ "given",θ "great",θ "head",θ "here",θ "home_of",θ "hop",θ "index",θ "indexes",θ "inherited",θ "int",θ "is_node",θ "is_page",θ "is_there",θ "isinstance",θ "joined_twins",θ "key",θ "kid",θ "kids",θ "kids_of",θ "kind",θ "kind_of",θ "laid",θ "lap",θ "law",θ "lay",θ "left",θ "len",θ "line",θ "list",θ "made",θ "many",θ "merged",θ "met",θ "name",θ "names",θ "nodes",θ "null",θ "number",θ "numbers",θ "octets",θ "one",θ "others",θ "page",θ "page_spots",θ "pages",θ "pair",θ "parent",θ "part",θ "parts_of",θ "places",θ "pop",θ "put",θ "range",θ "real",θ "ref",θ "reference",θ "references_in",θ "renumbered",θ "repr",θ "reserve",θ "reversed",θ "root",θ "row",θ "rows",θ "script",θ "seen",θ "self",θ "shelf",θ "shelves",θ "single_numbers",θ "singles",θ "sorted",θ "split_pages",θ "spot",θ "spots",θ "stream",θ "string",θ "sum",θ "table",θ "take_needed",θ "text",θ "thing",θ "to",θ "told",θ "told_objects",θ "told_plain",θ "top",θ "trailer",θ "truth",θ "tuple",θ "twins",θ "update",θ "value",θ "vat",θ "way",θ "whole",θ "word",θ "word_of"]
abbrev vV:T:= .mk 13 1 [DF 81,Eu 15]
abbrev lu:T:= .mk 50 95 [.mk 23 80 [DF 133]]
abbrev sV:T:= .mk 26 8 [DF 133,DF 95]
abbrev ph:T:= .mk 50 133 [.mk 24 34 [DF 159]]
abbrev pL:T:= .mk 50 159 [.mk 24 37 [DF 130]]
abbrev Ui:T:= .mk 13 2 [DF 44, .mk 27 0 [DF 93]]
abbrev vf:T:= .mk 50 112 [.mk 31 40 [DF 95, .mk 2 0 []]]
abbrev ro:T:= .mk 50 127 [.mk 31 40 [DF 95, .mk 2 0 []]]
abbrev vA:T:= .mk 13 8 [DF 103, .mk 8 144 [DF 132]]
abbrev ow:T:= .mk 18 0 [Dp 0, .mk 9 0 [DF 128,DF 72]]
abbrev rz:T:= .mk 70 0 [.mk 50 103 [.mk 11 0 [DF 103,Dp 1]]]
abbrev lg:T:= .mk 31 125 [.mk 9 0 [DF 53,DF 44],DF 108]
abbrev sL:T:= .mk 18 0 [DF 81, .mk 9 0 [.mk 8 59 [DF 108],DF 81]]
abbrev uF:T:= .mk 12 0 [.mk 14 50 [Dp 0,DF 72, .mk 27 0 [DF 128]]]
abbrev re:T:= .mk 34 3 [.mk 0 0 [DF 107], .mk 106 0 [],DF 106,Dp 1]
abbrev lF:T:= .mk 55 0 [.mk 31 117 [DF 133,Dp 40,Dp 0, .mk 19 0 [Dp 5]]]
abbrev sI:T:= .mk 70 0 [.mk 55 0 [.mk 31 41 [DF 115, .mk 18 0 [DF 44,DF 108]]]]
abbrev qx:T:= .mk 33 0 [.mk 0 0 [DF 134], .mk 133 0 [],sV]
abbrev oA:T:= .mk 54 0 [.mk 18 0 [.mk 31 149 [DF 133], .mk 23 33 [DF 133]],DF 48,DF 131]
abbrev t7:T:= .mk 52 0 [.mk 18 0 [Dp 0, .mk 23 35 [DF 159,DF 68,Eu 14]],DF 144,DF 103]
abbrev o5:T:= .mk 55 0 [.mk 31 117 [DF 133,Dp 42,Dp 0, .mk 21 1 [Eu 28, .mk 25 4 [Dp 2,Dp 0]]]]
abbrev mN:T:= .mk 55 0 [.mk 31 117 [DF 133,Dp 41,Dp 0, .mk 21 1 [Eu 28, .mk 25 4 [Dp 3,Dp 0]]]]
abbrev uR:T:= .mk 50 127 [.mk 21 1 [Eu 14, .mk 25 4 [Dp 20,Dp 0],Eu 12, .mk 25 4 [Dp 43,Dp 0]]]
abbrev sj:T:= .mk 54 0 [.mk 18 0 [.mk 27 0 [DF 131], .mk 23 31 [DF 159, .mk 27 0 [DF 131]]],DF 96,DF 139]
abbrev Yl:T:= .mk 50 83 [.mk 29 0 [.mk 33 0 [.mk 1 0 [DF 101], .mk 44 0 [], .mk 35 0 [.mk 11 0 [Dp 20,DF 44], .mk 20 0 []]]]]
abbrev xe:T:= .mk 50 68 [.mk 23 35 [DF 159, .mk 22 1 [Eu 10, .mk 19 0 [Dp 0,Dp 0,Dp 9,Dp 9]],Eu 13]]
abbrev wz:T:= .mk 15 0 [.mk 30 14 [DF 69], .mk 13 9 [.mk 8 103 [DF 69],DF 62], .mk 23 78 [DF 133, .mk 31 111 [DF 69]]]
abbrev rC:T:= .mk 57 0 [.mk 26 5 [DF 144, .mk 21 1 [Eu 18, .mk 25 4 [.mk 11 0 [Dp 1, .mk 23 31 [DF 159,Dp 3]],Dp 0]]]]
abbrev qe:T:= .mk 70 0 [.mk 55 0 [.mk 31 41 [.mk 9 0 [DF 83, .mk 11 0 [Dp 20, .mk 23 31 [DF 159,DF 44]]], .mk 11 0 [Dp 20,DF 44]]]]
abbrev xA:T:= .mk 70 0 [.mk 55 0 [.mk 31 41 [DF 93, .mk 18 0 [DF 82, .mk 11 0 [DF 38, .mk 18 0 [.mk 8 121 [DF 139]]], .mk 8 74 [DF 139]]]]]
abbrev rT:T:= .mk 54 0 [.mk 18 0 [.mk 23 97 [.mk 19 0 [DF 133,DF 133]], .mk 23 138 [DF 133, .mk 19 0 [DF 139,Dp 0]]],DF 161,DF 54]
abbrev za:T:= .mk 70 0 [.mk 52 0 [.mk 3 1 [],DF 62, .mk 8 103 [DF 69]], .mk 50 69 [.mk 9 0 [.mk 9 0 [.mk 8 144 [DF 133], .mk 8 103 [DF 69]],Dp 1]]]
abbrev oh:T:= .mk 58 0 [.mk 16 0 [.mk 13 1 [.mk 23 33 [DF 95],DF 131], .mk 13 1 [.mk 31 149 [DF 133],DF 48]], .mk 70 0 [.mk 57 0 [.mk 3 0 []]], .mk 70 0 []]
abbrev tH:T:= .mk 57 0 [.mk 15 0 [.mk 13 0 [.mk 27 4 [.mk 31 127 [DF 161]], .mk 19 0 [Eu 14,Eu 26]], .mk 13 0 [.mk 27 4 [.mk 31 127 [DF 54]], .mk 19 0 [Eu 14,Eu 26]]]]
abbrev uZ:T:= .mk 50 68 [.mk 22 1 [Eu 7, .mk 32 0 [.mk 0 0 [.mk 9 0 [DF 83,DF 103]], .mk 106 0 [], .mk 25 4 [DF 106,Dp 0]],Eu 3, .mk 23 30 [DF 83,DF 103]]]
abbrev nP:T:= .mk 59 44 [.mk 2 0 [Dp 1,DF 101],qe]
abbrev Tm6:T:= .mk 70 0 [.mk 50 111 [.mk 18 0 [DF 103, .mk 9 0 [.mk 9 0 [.mk 8 144 [DF 95],DF 103],Dp 0]]], .mk 52 0 [.mk 31 65 [DF 144,DF 111,DF 111],DF 100,DF 111]]
abbrev gA:T:= .mk 58 0 [.mk 16 0 [.mk 13 1 [.mk 27 0 [DF 107], .mk 27 0 [re]], .mk 13 0 [.mk 31 127 [DF 95], .mk 21 3 []]], .mk 70 0 [.mk 57 0 [.mk 3 0 []]], .mk 70 0 []]
abbrev gG:T:= .mk 54 0 [.mk 18 0 [.mk 11 0 [Dp 1, .mk 23 31 [DF 159,Dp 3]], .mk 22 0 [Dp 60, .mk 18 0 [Dp 0, .mk 25 1 [Eu 13]],Dp 61, .mk 18 0 [Dp 0, .mk 25 1 [Eu 14]]]],DF 101,DF 144]
abbrev pX:T:= .mk 58 0 [.mk 13 4 [DF 103,Dp 20], .mk 70 0 [.mk 52 0 [.mk 25 4 [.mk 9 0 [.mk 32 0 [.mk 0 0 [DF 83], .mk 106 0 [],DF 106, .mk 13 8 [DF 103, .mk 9 0 [DF 83,DF 106]]],Dp 0],Dp 0],DF 68,Eu 15]], .mk 70 0 []]
abbrev fP:T:= .mk 50 107 [.mk 32 0 [.mk 0 0 [.mk 31 104 [DF 95]], .mk 103 0 [], .mk 27 8 [.mk 23 150 [.mk 9 0 [.mk 9 0 [.mk 8 144 [DF 95],DF 103],Dp 1]]], .mk 15 0 [.mk 12 0 [.mk 14 50 [Dp 20,DF 103,Dp 40]], .mk 13 4 [DF 103,Dp 3]]]]
abbrev sK:T:= .mk 52 0 [.mk 18 0 [Dp 0, .mk 28 1 [.mk 11 0 [.mk 19 0 [.mk 18 0 [Eu 15, .mk 25 4 [DF 38,Dp 0]]], .mk 32 0 [.mk 0 0 [DF 68], .mk 81 0 [], .mk 18 0 [DF 81, .mk 9 0 [DF 68,DF 81]]]]]],DF 144, .mk 11 0 [Dp 30,DF 44]]
abbrev un:T:= .mk 70 0 [.mk 55 0 [.mk 31 117 [.mk 8 95 [DF 132], .mk 9 0 [.mk 9 0 [.mk 8 144 [DF 132],DF 111],Dp 0],Dp 0, .mk 23 123 [.mk 9 0 [.mk 9 0 [.mk 8 144 [.mk 8 133 [DF 132]], .mk 9 0 [DF 111,Dp 0]],Dp 1], .mk 8 144 [DF 132]]]]]
abbrev qS:T:= .mk 15 0 [.mk 30 5 [.mk 9 0 [.mk 9 0 [.mk 8 144 [DF 133],DF 103],Dp 1]], .mk 16 0 [.mk 13 8 [Eu 12, .mk 9 0 [.mk 9 0 [.mk 8 144 [DF 133],DF 103],Dp 1]], .mk 13 8 [Eu 9, .mk 9 0 [.mk 9 0 [.mk 8 144 [DF 133],DF 103],Dp 1]]]]
abbrev Tm7:T:= .mk 70 0 [.mk 53 0 [.mk 9 0 [.mk 8 144 [DF 95],DF 103],DF 64,DF 158], .mk 58 0 [.mk 13 9 [.mk 18 0 [DF 103,DF 64],DF 144], .mk 70 0 [.mk 52 0 [.mk 18 0 [DF 64, .mk 23 123 [DF 158,DF 100]],DF 91,DF 103]], .mk 70 0 []]]
abbrev pQ:T:= .mk 58 0 [.mk 13 0 [.mk 23 31 [DF 159,Dp 3],Dp 0], .mk 70 0 [.mk 52 0 [.mk 25 4 [.mk 9 0 [.mk 18 0 [Dp 1,Dp 2,Dp 3,Dp 30,Dp 40,Dp 41,Dp 42], .mk 23 31 [DF 159,Dp 7]],Dp 0],DF 68,Eu 27]], .mk 70 0 []]
abbrev tc:T:= .mk 55 0 [.mk 31 157 [DF 144, .mk 21 0 [Dp 3, .mk 18 0 [Dp 0,DF 127],Dp 2, .mk 18 0 [Dp 0, .mk 25 4 [Dp 3,Dp 0]],Dp 1, .mk 18 0 [Dp 0, .mk 25 4 [Dp 2,Dp 0]],Dp 43, .mk 18 0 [Dp 0, .mk 21 1 [Eu 9,Dp 1]]]]]
abbrev vL:T:= .mk 50 147 [.mk 9 0 [.mk 18 0 [.mk 28 1 [DF 127], .mk 21 1 [Eu 10, .mk 19 0 [Dp 0,Dp 0,Dp 9,Dp 9],Eu 15, .mk 25 4 [Dp 20,Dp 0]], .mk 19 0 [Dp 5], .mk 21 1 [Eu 28, .mk 25 4 [Dp 40,Dp 0]]], .mk 23 31 [DF 159,Dp 4]]]
abbrev ql:T:= .mk 58 0 [.mk 16 0 [.mk 13 1 [.mk 27 0 [.mk 23 110 [DF 161]], .mk 11 2 [Dp 2,DF 96]], .mk 13 1 [.mk 27 0 [.mk 23 110 [DF 54]],Dp 2], .mk 13 1 [.mk 23 32 [DF 161], .mk 19 0 []], .mk 13 1 [.mk 23 32 [DF 54], .mk 19 0 []]], .mk 70 0 [.mk 57 0 [.mk 3 0 []]], .mk 70 0 []]
abbrev rV:T:= .mk 70 0 [.mk 58 0 [.mk 16 0 [.mk 13 9 [DF 103, .mk 8 144 [DF 95]], .mk 13 1 [.mk 23 36 [DF 95, .mk 9 0 [.mk 9 0 [.mk 8 144 [DF 95],DF 103],Dp 1],Dp 4], .mk 23 36 [DF 133, .mk 9 0 [.mk 9 0 [.mk 8 144 [DF 133],DF 103],Dp 1],Dp 4]]], .mk 70 0 [.mk 57 0 [.mk 3 0 []]], .mk 70 0 []]]
abbrev vQ:T:= .mk 70 0 [.mk 50 69 [.mk 31 116 [DF 93]], .mk 58 0 [.mk 30 14 [DF 69], .mk 70 0 [.mk 58 0 [.mk 13 9 [.mk 31 111 [DF 69],DF 131], .mk 70 0 [.mk 52 0 [.mk 3 1 [],DF 131, .mk 31 111 [DF 69]], .mk 55 0 [.mk 31 41 [DF 62, .mk 31 111 [DF 69]]]], .mk 70 0 []]], .mk 70 0 [.mk 56 0 [DF 93, .mk 23 114 [DF 69]]]]]
abbrev Tm0:T:= .mk 70 0 [.mk 58 0 [.mk 12 0 [.mk 30 14 [DF 69]], .mk 70 0 [.mk 57 0 [DF 69]], .mk 70 0 []], .mk 53 0 [.mk 31 65 [.mk 8 144 [DF 132], .mk 8 103 [DF 69], .mk 18 0 [.mk 6 1 [], .mk 2 0 []]],DF 64,DF 62], .mk 58 0 [.mk 13 1 [DF 64, .mk 8 64 [DF 69]], .mk 70 0 [.mk 57 0 [.mk 2 0 []]], .mk 70 0 []], .mk 50 69 [DF 62]]
abbrev q9:T:= .mk 70 0 [vL, .mk 52 0 [.mk 18 0 [Dp 0,DF 147],DF 144,DF 103]]
abbrev rA:T:= .mk 59 103 [.mk 0 0 [.mk 18 0 [Dp 40,Dp 41,Dp 42]],q9]
abbrev nQ:T:= .mk 70 0 [.mk 53 0 [.mk 9 0 [DF 115,DF 139],DF 44,DF 108], .mk 50 52 [.mk 9 0 [DF 53,DF 44]], .mk 50 59 [.mk 23 45 [DF 108]], .mk 55 0 [.mk 31 90 [DF 52, .mk 31 145 [DF 52,DF 59]]], .mk 50 87 [.mk 24 123 [DF 59, .mk 8 144 [DF 52]]], .mk 52 0 [DF 112,DF 87,Eu 15], .mk 55 0 [.mk 31 117 [DF 95, .mk 8 103 [.mk 9 0 [DF 83,DF 139]],Dp 0,DF 87]]]
abbrev Tm5:T:= .mk 70 0 [.mk 53 0 [.mk 9 0 [.mk 8 144 [DF 133],DF 103],DF 64,DF 158], .mk 58 0 [.mk 16 0 [.mk 13 8 [DF 103,DF 136], .mk 13 8 [.mk 23 163 [DF 158], .mk 1 20 []]], .mk 70 0 [.mk 61 0 []], .mk 70 0 []], .mk 50 81 [.mk 27 8 [.mk 23 150 [DF 158]]], .mk 58 0 [.mk 13 8 [DF 81,DF 61], .mk 70 0 [.mk 52 0 [.mk 9 0 [DF 61,DF 81],DF 144, .mk 18 0 [DF 103,DF 64]]], .mk 70 0 [.mk 52 0 [.mk 18 0 [DF 103,DF 64],DF 61,DF 81]]]]
abbrev fK:T:= .mk 59 103 [.mk 0 0 [.mk 11 0 [.mk 32 0 [.mk 0 0 [.mk 31 104 [DF 133]], .mk 103 0 [],DF 103, .mk 14 50 [Dp 20,DF 103,Dp 30]], .mk 19 0 [Dp 3]]],rV]
abbrev lU:T:= .mk 70 0 [uZ,pX,t7]
abbrev vI:T:= .mk 59 103 [.mk 0 0 [DF 83],lU]
abbrev VO:T:= .mk 70 0 [.mk 50 111 [.mk 9 0 [DF 93,DF 44]], .mk 50 44 [.mk 11 0 [DF 44,Dp 1]], .mk 58 0 [.mk 16 0 [.mk 13 8 [DF 111, .mk 8 144 [DF 132]], .mk 12 0 [.mk 23 78 [.mk 8 133 [DF 132],DF 111]]], .mk 70 0 [.mk 61 0 []], .mk 70 0 []], .mk 58 0 [.mk 13 8 [.mk 9 0 [DF 111,Dp 0], .mk 8 46 [DF 132]], .mk 70 0 [.mk 61 0 []], .mk 70 0 []], .mk 52 0 [.mk 31 111 [.mk 31 40 [.mk 8 95 [DF 132], .mk 2 0 []]], .mk 8 144 [DF 132],DF 111], .mk 55 0 [.mk 31 41 [DF 63,DF 111]], .mk 55 0 [.mk 31 57 [DF 93, .mk 23 122 [.mk 9 0 [.mk 9 0 [.mk 8 144 [.mk 8 133 [DF 132]], .mk 9 0 [DF 111,Dp 0]],Dp 1]]]]]
abbrev ur:T:= .mk 70 0 [.mk 53 0 [.mk 31 116 [DF 93],DF 158,DF 38,DF 74], .mk 50 139 [.mk 23 98 [DF 133,DF 158,DF 38,DF 74]], .mk 58 0 [.mk 16 0 [.mk 13 8 [.mk 8 103 [.mk 8 121 [DF 139]],DF 131], .mk 15 0 [.mk 13 0 [DF 62, .mk 19 0 []], .mk 8 77 [DF 139]]], .mk 70 0 [.mk 64 0 []], .mk 70 0 []], .mk 52 0 [.mk 3 1 [],DF 131, .mk 8 103 [.mk 8 121 [DF 139]]], .mk 55 0 [.mk 31 41 [DF 62,DF 139]], .mk 58 0 [.mk 12 0 [.mk 8 77 [DF 139]], .mk 70 0 [.mk 59 82 [.mk 3 0 [.mk 23 84 [DF 133, .mk 8 68 [DF 139]]],xA]], .mk 70 0 []]]
abbrev yd:T:= .mk 70 0 [.mk 50 144 [.mk 23 156 [DF 95]], .mk 58 0 [.mk 13 0 [DF 144, .mk 21 1 []], .mk 70 0 [.mk 57 0 [DF 95]], .mk 70 0 []], .mk 50 100 [.mk 22 2 []], .mk 59 103 [.mk 0 0 [.mk 8 144 [DF 95]],Tm6], .mk 50 91 [.mk 22 0 []], .mk 59 103 [.mk 0 0 [.mk 31 104 [DF 95]],Tm7], .mk 50 95 [.mk 25 5 [DF 91, .mk 23 123 [.mk 8 153 [DF 95],DF 100]]]]
abbrev nz:T:= .mk 70 0 [.mk 50 38 [.mk 11 0 [Dp 20, .mk 23 31 [DF 159,DF 101]]], .mk 55 0 [.mk 31 41 [.mk 9 0 [DF 83,DF 38], .mk 11 0 [Dp 30,DF 44]]],xe,pQ,sK]
abbrev rF:T:= .mk 59 44 [.mk 1 0 [.mk 11 0 [Dp 1, .mk 23 31 [DF 159,Dp 5]]],nz]
def Su:Fn:=⟨29, [132,146],0, [
 .mk 51 146 [DF 146,DF 132]]⟩
def MA:Fn:=⟨29, [132,103,64],0, [
 .mk 51 103 [DF 103,DF 132],
 .mk 51 64 [DF 64,DF 132]]⟩
def Lj:Fn:=⟨111, [132],0, [
 .mk 57 0 [.mk 18 0 [.mk 8 103 [DF 132], .mk 8 64 [DF 132]]]]⟩
def ZP:Fn:=⟨86, [158],0, [
 .mk 58 0 [.mk 13 6 [DF 158, .mk 2 0 []], .mk 70 0 [.mk 57 0 [Eu 102]], .mk 70 0 []],
 .mk 58 0 [.mk 30 1 [DF 158], .mk 70 0 [.mk 57 0 [Eu 154]], .mk 70 0 []],
 .mk 58 0 [.mk 30 2 [DF 158], .mk 70 0 [.mk 57 0 [Eu 75]], .mk 70 0 []],
 .mk 58 0 [.mk 30 10 [DF 158], .mk 70 0 [.mk 57 0 [Eu 119]], .mk 70 0 []],
 .mk 58 0 [.mk 30 11 [DF 158], .mk 70 0 [.mk 57 0 [Eu 99]], .mk 70 0 []],
 .mk 58 0 [.mk 30 12 [DF 158], .mk 70 0 [.mk 57 0 [Eu 142]], .mk 70 0 []],
 .mk 58 0 [.mk 30 4 [DF 158], .mk 70 0 [.mk 57 0 [Eu 42]], .mk 70 0 []],
 .mk 58 0 [.mk 30 5 [DF 158], .mk 70 0 [.mk 57 0 [Eu 56]], .mk 70 0 []],
 .mk 58 0 [.mk 30 13 [DF 158], .mk 70 0 [.mk 57 0 [Eu 141]], .mk 70 0 []],
 .mk 58 0 [.mk 30 14 [DF 158], .mk 70 0 [.mk 57 0 [Eu 120]], .mk 70 0 []],
 .mk 64 0 []]⟩
def Q4:Fn:=⟨151, [85,158],0, [
 .mk 58 0 [.mk 13 0 [DF 85,Eu 102], .mk 70 0 [.mk 57 0 [.mk 18 0 [Eu 102]]], .mk 70 0 []],
 .mk 58 0 [.mk 13 0 [DF 85,Eu 154], .mk 70 0 [.mk 57 0 [.mk 18 0 [Eu 154, .mk 17 0 [DF 158,Dp 1,Dp 0]]]], .mk 70 0 []],
 .mk 58 0 [.mk 13 0 [DF 85,Eu 75], .mk 70 0 [.mk 57 0 [.mk 18 0 [Eu 75,DF 158]]], .mk 70 0 []],
 .mk 58 0 [.mk 13 0 [DF 85,Eu 119], .mk 70 0 [.mk 57 0 [.mk 18 0 [Eu 119, .mk 8 152 [DF 158], .mk 8 115 [DF 158]]]], .mk 70 0 []],
 .mk 58 0 [.mk 13 0 [DF 85,Eu 99], .mk 70 0 [.mk 57 0 [.mk 18 0 [Eu 99, .mk 8 146 [DF 158]]]], .mk 70 0 []],
 .mk 58 0 [.mk 13 0 [DF 85,Eu 142], .mk 70 0 [.mk 57 0 [.mk 18 0 [Eu 142, .mk 27 7 [.mk 8 105 [DF 158]]]]], .mk 70 0 []],
 .mk 57 0 [.mk 18 0 [Eu 120, .mk 8 103 [DF 158], .mk 8 64 [DF 158]]]]⟩
def pV:Fn:=⟨149, [158],0, [
 .mk 50 85 [.mk 23 86 [DF 158]],
 .mk 58 0 [.mk 13 0 [DF 85,Eu 42], .mk 70 0 [.mk 57 0 [.mk 11 0 [.mk 18 0 [Eu 42], .mk 27 5 [.mk 32 0 [.mk 0 0 [DF 158], .mk 113 0 [], .mk 23 150 [DF 113]]]]]], .mk 70 0 []],
 .mk 58 0 [.mk 13 0 [DF 85,Eu 56], .mk 70 0 [.mk 57 0 [.mk 11 0 [.mk 18 0 [Eu 56], .mk 27 5 [.mk 32 0 [.mk 0 0 [.mk 27 4 [DF 158]], .mk 81 0 [], .mk 18 0 [DF 81, .mk 23 150 [.mk 9 0 [DF 158,DF 81]]], .mk 13 7 [.mk 9 0 [DF 158,DF 81], .mk 2 0 []]]]]]], .mk 70 0 []],
 .mk 58 0 [.mk 13 0 [DF 85,Eu 141], .mk 70 0 [.mk 57 0 [.mk 18 0 [Eu 141, .mk 23 150 [.mk 8 68 [DF 158]], .mk 27 7 [.mk 8 105 [DF 158]]]]], .mk 70 0 []],
 .mk 57 0 [.mk 23 151 [DF 85,DF 158]]]⟩
def UC:Fn:=⟨114, [158],0, [
 .mk 50 85 [.mk 23 86 [DF 158]],
 .mk 58 0 [.mk 13 0 [DF 85,Eu 42], .mk 70 0 [.mk 57 0 [.mk 27 6 [DF 158]]], .mk 70 0 []],
 .mk 58 0 [.mk 13 0 [DF 85,Eu 56], .mk 70 0 [.mk 57 0 [.mk 32 0 [.mk 0 0 [.mk 27 4 [DF 158]], .mk 81 0 [], .mk 9 0 [DF 158,DF 81]]]], .mk 70 0 []],
 .mk 58 0 [.mk 13 0 [DF 85,Eu 141], .mk 70 0 [.mk 57 0 [.mk 23 114 [.mk 8 68 [DF 158]]]], .mk 70 0 []],
 .mk 57 0 [.mk 19 0 []]]⟩
def Mp:Fn:=⟨122, [158],0, [
 .mk 50 62 [.mk 20 0 []],
 .mk 50 131 [.mk 22 2 []],
 .mk 50 93 [.mk 20 0 [DF 158]],
 .mk 60 0 [DF 93,vQ],
 .mk 57 0 [DF 62]]⟩
def Qi:Fn:=⟨123, [158,144],0, [
 .mk 50 85 [.mk 23 86 [DF 158]],
 .mk 58 0 [.mk 13 0 [DF 85,Eu 120], .mk 70 0 [.mk 58 0 [.mk 13 9 [.mk 31 111 [DF 158],DF 144], .mk 70 0 [.mk 57 0 [.mk 2 0 []]], .mk 70 0 []], .mk 53 0 [.mk 9 0 [DF 144, .mk 31 111 [DF 158]],DF 103,DF 64], .mk 57 0 [.mk 25 4 [DF 103,DF 64]]], .mk 70 0 []],
 .mk 58 0 [.mk 13 0 [DF 85,Eu 42], .mk 70 0 [.mk 57 0 [.mk 32 0 [.mk 0 0 [DF 158], .mk 113 0 [], .mk 23 123 [DF 113,DF 144]]]], .mk 70 0 []],
 .mk 58 0 [.mk 13 0 [DF 85,Eu 56], .mk 70 0 [.mk 50 62 [.mk 32 0 [.mk 0 0 [DF 158], .mk 81 0 [], .mk 18 0 [DF 81, .mk 23 123 [.mk 9 0 [DF 158,DF 81],DF 144]]]], .mk 57 0 [.mk 29 1 [.mk 32 0 [.mk 0 0 [DF 62], .mk 111 0 [],DF 111, .mk 13 7 [.mk 9 0 [DF 111,Dp 1], .mk 2 0 []]]]]], .mk 70 0 []],
 .mk 58 0 [.mk 13 0 [DF 85,Eu 141], .mk 70 0 [.mk 57 0 [.mk 25 3 [.mk 23 123 [.mk 8 68 [DF 158],DF 144], .mk 8 105 [DF 158]]]], .mk 70 0 []],
 .mk 57 0 [DF 158]]⟩
def Hr:Fn:=⟨29, [132,144,153],2, [
 .mk 51 144 [.mk 17 0 [.mk 13 6 [DF 144, .mk 2 0 []], .mk 22 0 [],DF 144],DF 132],
 .mk 51 153 [.mk 17 0 [.mk 13 6 [DF 153, .mk 2 0 []], .mk 21 1 [],DF 153],DF 132]]⟩
def OS:Fn:=⟨58, [132,158],0, [
 .mk 50 69 [DF 158],
 .mk 59 71 [.mk 1 0 [.mk 1 8 []],Tm0],
 .mk 57 0 [.mk 17 0 [.mk 30 14 [DF 69], .mk 2 0 [],DF 69]]]⟩
def Py:Fn:=⟨65, [132,68,81],0, [
 .mk 57 0 [.mk 31 58 [DF 132, .mk 31 65 [DF 68,DF 81]]]]⟩
def Se:Fn:=⟨117, [132,103,64,158],0, [
 .mk 52 0 [.mk 18 0 [DF 64,DF 158], .mk 8 144 [DF 132],DF 103]]⟩
def Rp:Fn:=⟨40, [132,158],0, [
 .mk 50 103 [Dp 1],
 .mk 60 0 [vA,rz],
 .mk 52 0 [.mk 18 0 [Dp 0,DF 158], .mk 8 144 [DF 132],DF 103],
 .mk 57 0 [.mk 25 4 [DF 103,Dp 0]]]⟩
def M0:Fn:=⟨104, [132],0, [
 .mk 57 0 [.mk 27 4 [.mk 8 144 [DF 132]]]]⟩
def Qj:Fn:=⟨127, [132],0, [
 .mk 50 62 [.mk 31 65 [DF 132, .mk 8 153 [DF 132],Eu 18]],
 .mk 57 0 [.mk 17 0 [.mk 30 5 [DF 62],DF 62, .mk 21 1 []]]]⟩
def Q3:Fn:=⟨149, [132],0, [
 .mk 50 129 [.mk 27 5 [.mk 32 0 [.mk 0 0 [.mk 31 104 [DF 132]], .mk 103 0 [], .mk 18 0 [DF 103, .mk 9 0 [.mk 9 0 [.mk 8 144 [DF 132],DF 103],Dp 0], .mk 23 150 [.mk 9 0 [.mk 9 0 [.mk 8 144 [DF 132],DF 103],Dp 1]]]]]],
 .mk 57 0 [.mk 18 0 [DF 129, .mk 23 150 [.mk 8 153 [DF 132]]]]]⟩
def RX:Fn:=⟨29, [132,121,59],0, [
 .mk 51 121 [DF 121,DF 132],
 .mk 51 59 [DF 59,DF 132]]⟩
def R8:Fn:=⟨29, [132,121,68,38,74,77],0, [
 .mk 51 121 [DF 121,DF 132],
 .mk 51 68 [DF 68,DF 132],
 .mk 51 38 [DF 38,DF 132],
 .mk 51 74 [DF 74,DF 132],
 .mk 51 77 [DF 77,DF 132]]⟩
def X5:Fn:=⟨70, [133,158],0, [
 .mk 50 69 [DF 158],
 .mk 50 131 [.mk 22 0 []],
 .mk 60 0 [.mk 15 0 [.mk 30 14 [DF 69], .mk 13 9 [.mk 8 103 [DF 69],DF 131]], .mk 70 0 [.mk 52 0 [.mk 3 1 [],DF 131, .mk 8 103 [DF 69]], .mk 53 0 [.mk 31 65 [.mk 8 144 [DF 133], .mk 8 103 [DF 69], .mk 18 0 [.mk 6 1 [], .mk 2 0 []]],DF 64,DF 62], .mk 58 0 [.mk 13 1 [DF 64, .mk 8 64 [DF 69]], .mk 70 0 [.mk 62 0 []], .mk 70 0 []], .mk 58 0 [.mk 12 0 [.mk 30 14 [DF 62]], .mk 70 0 [.mk 57 0 [DF 69]], .mk 70 0 []], .mk 50 69 [DF 62]]],
 .mk 64 0 []]⟩
def ZI:Fn:=⟨76, [133,68],0, [
 .mk 50 85 [.mk 31 65 [DF 133,DF 68,Eu 26]],
 .mk 58 0 [.mk 15 0 [.mk 30 11 [DF 85], .mk 13 8 [.mk 8 146 [DF 85], .mk 18 0 [Eu 14,Eu 13]]], .mk 70 0 [.mk 57 0 [.mk 13 0 [.mk 8 146 [DF 85],Eu 14]]], .mk 70 0 []],
 .mk 57 0 [.mk 13 7 [.mk 31 65 [DF 133,DF 68,Eu 7], .mk 2 0 []]]]⟩
def Y5:Fn:=⟨84, [133,68],0, [
 .mk 50 83 [.mk 31 65 [DF 133,DF 68,Eu 7]],
 .mk 58 0 [.mk 12 0 [.mk 30 4 [DF 83]], .mk 70 0 [.mk 64 0 []], .mk 70 0 []],
 .mk 57 0 [DF 83]]⟩
def tQ:Fn:=⟨98, [133,158,38,74],0, [
 .mk 50 121 [.mk 23 70 [DF 133,DF 158]],
 .mk 50 68 [.mk 31 58 [DF 133,DF 121]],
 .mk 58 0 [.mk 12 0 [.mk 30 5 [DF 68]], .mk 70 0 [.mk 64 0 []], .mk 70 0 []],
 .mk 50 66 [.mk 29 1 [DF 74]],
 .mk 59 81 [.mk 0 0 [.mk 1 6 []], .mk 70 0 [.mk 58 0 [.mk 13 7 [.mk 31 65 [DF 133,DF 68,DF 81], .mk 2 0 []], .mk 70 0 [.mk 52 0 [.mk 9 0 [DF 68,DF 81],DF 66,DF 81]], .mk 70 0 []]]],
 .mk 57 0 [.mk 25 7 [DF 121,DF 68,DF 38,DF 66, .mk 12 0 [.mk 23 76 [DF 133,DF 68]]]]]⟩
def gy:Fn:=⟨140, [133],0, [
 .mk 50 62 [.mk 20 0 []],
 .mk 50 131 [.mk 22 0 []],
 .mk 50 93 [.mk 20 0 [.mk 18 0 [.mk 31 65 [.mk 31 127 [DF 133],Eu 14], .mk 18 0 [], .mk 21 1 []]]],
 .mk 60 0 [DF 93,ur],
 .mk 57 0 [DF 62]]⟩
def R7:Fn:=⟨60, [133,139],0, [
 .mk 50 62 [.mk 29 1 [.mk 8 68 [DF 139]]],
 .mk 59 81 [.mk 0 0 [.mk 1 6 []], .mk 70 0 [.mk 58 0 [.mk 15 0 [.mk 13 8 [DF 81, .mk 8 74 [DF 139]], .mk 13 6 [.mk 31 65 [DF 133, .mk 8 68 [DF 139],DF 81], .mk 2 0 []]], .mk 70 0 [.mk 52 0 [.mk 9 0 [.mk 8 74 [DF 139],DF 81],DF 62,DF 81]], .mk 70 0 []]]],
 .mk 57 0 [DF 62]]⟩
def Qp:Fn:=⟨109, [133],0, [
 .mk 57 0 [.mk 32 0 [.mk 0 0 [.mk 23 140 [DF 133]], .mk 139 0 [],DF 139, .mk 8 77 [DF 139]]]]⟩
def hU:Fn:=⟨110, [133],0, [
 .mk 57 0 [.mk 32 0 [.mk 0 0 [.mk 23 109 [DF 133]], .mk 139 0 [], .mk 25 6 [.mk 8 121 [DF 139], .mk 23 60 [DF 133,DF 139]]]]]⟩
def VH:Fn:=⟨78, [133,111],0, [
 .mk 53 0 [DF 111,DF 103,DF 64],
 .mk 57 0 [.mk 15 0 [.mk 13 8 [DF 103, .mk 8 144 [DF 133]], .mk 13 0 [.mk 9 0 [.mk 9 0 [.mk 8 144 [DF 133],DF 103],Dp 0],DF 64]]]]⟩
def YA:Fn:=⟨163, [158],0, [
 .mk 58 0 [.mk 16 0 [.mk 13 1 [.mk 23 86 [DF 158],Eu 56], .mk 12 0 [.mk 30 11 [.mk 31 65 [DF 158,Eu 26]]]], .mk 70 0 [.mk 57 0 [Eu 0]], .mk 70 0 []],
 .mk 57 0 [.mk 8 146 [.mk 9 0 [DF 158,Eu 26]]]]⟩
def L6:Fn:=⟨47, [133],0, [
 .mk 50 62 [.mk 29 0 [.mk 32 0 [.mk 0 0 [.mk 23 140 [DF 133]], .mk 139 0 [], .mk 18 0 [.mk 8 103 [.mk 8 121 [DF 139]], .mk 3 1 []]]]],
 .mk 50 69 [.mk 31 65 [.mk 8 153 [DF 133],Eu 18]],
 .mk 60 0 [wz,za],
 .mk 57 0 [DF 62]]⟩
def Lq:Fn:=⟨135, [133],0, [
 .mk 63 0 [.mk 70 0 [.mk 57 0 [.mk 23 47 [DF 133]]]]]⟩
def Ga:Fn:=⟨29, [132,133,95],0, [
 .mk 51 133 [DF 133,DF 132],
 .mk 51 95 [DF 95,DF 132],
 .mk 51 144 [.mk 22 2 [],DF 132],
 .mk 51 46 [.mk 23 47 [DF 133],DF 132]]⟩
def Js:Fn:=⟨125, [132,108],0, [
 .mk 50 121 [.mk 31 40 [.mk 8 95 [DF 132], .mk 2 0 []]],
 .mk 58 0 [.mk 13 9 [.mk 31 111 [.mk 8 121 [DF 108]], .mk 8 144 [DF 132]], .mk 70 0 [.mk 52 0 [.mk 31 111 [DF 121], .mk 8 144 [DF 132], .mk 31 111 [.mk 8 121 [DF 108]]]], .mk 70 0 []],
 .mk 57 0 [DF 121]]⟩
def H6:Fn:=⟨145, [132,158],0, [
 .mk 50 93 [.mk 24 122 [DF 158]],
 .mk 50 63 [.mk 20 0 []],
 .mk 50 44 [Dp 0],
 .mk 60 0 [Ui,VO],
 .mk 57 0 [DF 63]]⟩
def Mt:Fn:=⟨90, [132,63],0, [
 .mk 59 111 [.mk 0 0 [DF 63],un]]⟩
def Rb:Fn:=⟨45, [108],0, [
 .mk 50 59 [.mk 29 1 [.mk 32 0 [.mk 0 0 [.mk 8 59 [DF 108]], .mk 81 0 [],sL,vV]]],
 .mk 52 0 [.mk 25 1 [Eu 13],DF 59,Eu 26],
 .mk 57 0 [DF 59]]⟩
def SI:Fn:=⟨43, [134,115],0, [
 .mk 50 95 [.mk 26 5 []],
 ro,
 vf,
 .mk 50 53 [qx],
 .mk 50 83 [.mk 32 0 [.mk 0 0 [DF 115], .mk 44 108 [],lg]],
 .mk 59 139 [.mk 1 0 [.mk 27 0 [DF 115]],nQ],
 .mk 55 0 [.mk 31 117 [DF 95, .mk 8 103 [DF 112],Dp 0, .mk 21 1 [Eu 26, .mk 25 1 [Eu 14],Eu 7, .mk 27 6 [DF 83],Eu 3, .mk 27 0 [DF 83]]]],
 .mk 55 0 [.mk 31 117 [DF 95, .mk 8 103 [DF 127],Dp 0, .mk 21 1 [Eu 26, .mk 25 1 [Eu 1],Eu 14,DF 112]]],
 .mk 51 153 [.mk 21 1 [Eu 18,DF 127],DF 95],
 .mk 57 0 [DF 95]]⟩
def cZ:Fn:=⟨97, [134],0, [
 .mk 50 115 [.mk 20 0 []],
 .mk 59 44 [.mk 1 0 [.mk 27 0 [DF 134]], .mk 70 0 [.mk 59 108 [.mk 0 0 [.mk 23 110 [.mk 9 0 [DF 134,DF 44]]],sI]]],
 .mk 57 0 [.mk 23 43 [DF 134,DF 115]]]⟩
def Ot:Fn:=⟨138, [133,73],0, [
 .mk 50 128 [.mk 23 110 [DF 133]],
 .mk 58 0 [.mk 13 1 [.mk 32 0 [.mk 0 0 [DF 73], .mk 72 0 [],DF 72,uF], .mk 19 0 []], .mk 70 0 [.mk 64 0 []], .mk 70 0 []],
 .mk 57 0 [.mk 23 43 [.mk 19 0 [DF 133], .mk 32 0 [.mk 0 0 [DF 73], .mk 72 0 [],ow]]]]⟩
def iN:Fn:=⟨156, [133],0, [
 .mk 50 61 [.mk 22 3 []],
 .mk 50 144 [.mk 22 2 []],
 .mk 50 136 [.mk 23 135 [DF 133]],
 .mk 59 103 [.mk 0 0 [.mk 31 104 [DF 133]],Tm5],
 .mk 57 0 [DF 144]]⟩
def NZ:Fn:=⟨80, [133],0, [
 .mk 50 95 [.mk 25 5 [.mk 28 1 [.mk 8 144 [DF 133]], .mk 28 1 [.mk 8 153 [DF 133]]]],
 .mk 59 88 [.mk 1 0 [.mk 11 0 [.mk 27 0 [.mk 8 144 [DF 133]],Dp 1]],yd],
 .mk 57 0 [DF 95]]⟩
def Tq:Fn:=⟨37, [130],0, [
 .mk 57 0 [.mk 20 0 [.mk 32 0 [.mk 0 0 [.mk 10 63 [DF 130]], .mk 103 0 [], .mk 27 2 [DF 103]],Dp 0,Dp 0]]]⟩
def Vm:Fn:=⟨31, [159,96],0, [
 .mk 54 0 [.mk 18 0 [.mk 9 0 [DF 159,Dp 1], .mk 9 0 [DF 159,Dp 0]],DF 44,DF 51],
 .mk 58 0 [.mk 13 4 [.mk 9 0 [DF 159,Dp 2],Dp 0], .mk 70 0 [.mk 50 62 [.mk 11 4 [.mk 9 0 [DF 159,Dp 2],DF 96]], .mk 52 0 [.mk 11 3 [.mk 9 0 [DF 159,Dp 2],DF 96],DF 159,Dp 2], .mk 57 0 [DF 62]], .mk 70 0 []],
 .mk 52 0 [.mk 11 0 [DF 44,Dp 1],DF 159,Dp 1],
 .mk 58 0 [.mk 13 5 [DF 44, .mk 27 0 [DF 51]], .mk 70 0 [.mk 57 0 [.mk 11 4 [.mk 11 0 [.mk 11 0 [.mk 11 2 [Dp 10,DF 44], .mk 11 3 [.mk 11 2 [DF 44,DF 44],Dp 6]], .mk 17 0 [.mk 13 1 [DF 51, .mk 19 0 []], .mk 9 0 [DF 51, .mk 11 4 [DF 44, .mk 27 0 [DF 51]]],Dp 1]],DF 96]]], .mk 70 0 []],
 .mk 58 0 [.mk 13 2 [.mk 27 1 [.mk 9 0 [DF 51,DF 44]], .mk 7 18 []], .mk 70 0 [.mk 57 0 [.mk 11 4 [.mk 9 0 [DF 51,DF 44],DF 96]]], .mk 70 0 []],
 .mk 50 67 [.mk 11 1 [.mk 27 1 [.mk 9 0 [DF 51,DF 44]], .mk 7 18 []]],
 .mk 52 0 [.mk 11 3 [DF 67,DF 96],DF 159,Dp 2],
 .mk 57 0 [.mk 11 4 [DF 67,DF 96]]]⟩
def QU:Fn:=⟨35, [159,68,162],0, [
 .mk 50 160 [.mk 23 31 [DF 159,Dp 3]],
 .mk 58 0 [.mk 13 4 [DF 160,Dp 0], .mk 70 0 [.mk 52 0 [.mk 9 0 [.mk 18 0 [.mk 25 1 [DF 162], .mk 25 4 [.mk 17 0 [.mk 13 0 [DF 162,Eu 13],Dp 60,Dp 61],Dp 0]], .mk 11 1 [DF 160,Dp 1]],DF 68,Eu 26]], .mk 70 0 []],
 .mk 57 0 [DF 68]]⟩
def Kn:Fn:=⟨34, [159],0, [
 gG,
 Yl,
 nP,
 rF,
 vI,
 uR,
 tc,
 rA,
 rC]⟩
def Qs:Fn:=⟨30, [83,103],0, [
 .mk 57 0 [.mk 27 3 [.mk 32 0 [.mk 0 0 [.mk 9 0 [DF 83,DF 103]], .mk 106 0 [], .mk 17 0 [.mk 13 5 [DF 106,Dp 30],Dp 1, .mk 23 30 [DF 83,DF 106]]]]]]⟩
def M4:Fn:=⟨36, [133,158,55],0, [
 .mk 58 0 [.mk 30 14 [DF 158], .mk 70 0 [.mk 58 0 [.mk 16 0 [.mk 13 9 [.mk 8 103 [DF 158], .mk 8 144 [DF 133]], .mk 14 50 [Dp 20, .mk 8 103 [DF 158],Dp 40], .mk 13 0 [DF 55,Dp 0]], .mk 70 0 [.mk 57 0 [.mk 18 0 [Eu 148, .mk 17 0 [.mk 14 50 [Dp 20, .mk 8 103 [DF 158],Dp 40], .mk 8 103 [DF 158],Dp 0]]]], .mk 70 0 []], .mk 57 0 [.mk 23 36 [DF 133, .mk 9 0 [.mk 9 0 [.mk 8 144 [DF 133], .mk 8 103 [DF 158]],Dp 1], .mk 11 1 [DF 55,Dp 1]]]], .mk 70 0 []],
 .mk 58 0 [.mk 30 5 [DF 158], .mk 70 0 [.mk 57 0 [.mk 32 0 [.mk 0 0 [.mk 27 4 [DF 158]], .mk 81 0 [], .mk 18 0 [DF 81, .mk 23 36 [DF 133, .mk 9 0 [DF 158,DF 81],DF 55]]]]], .mk 70 0 []],
 .mk 57 0 [.mk 17 0 [.mk 30 4 [DF 158], .mk 32 0 [.mk 0 0 [DF 158], .mk 106 0 [], .mk 23 36 [DF 133,DF 106,DF 55]], .mk 23 150 [DF 158]]]]⟩
def TD:Fn:=⟨33, [133],0, [
 .mk 63 0 [.mk 70 0 [.mk 57 0 [.mk 32 0 [.mk 0 0 [.mk 23 110 [DF 133]], .mk 108 0 [], .mk 18 0 [.mk 8 103 [.mk 8 121 [DF 108]], .mk 23 36 [DF 133, .mk 8 59 [DF 108],Dp 4]]]]]]]⟩
def QQ:Fn:=⟨32, [133],0, [
 .mk 57 0 [.mk 32 0 [.mk 0 0 [.mk 31 104 [DF 133]], .mk 103 0 [],DF 103,qS]]]⟩
def jy:Fn:=⟨89, [130],0, [
 pL,
 ph,
 oA,
 lu,
 oh,
 fK,
 fP,
 gA,
 lF,
 mN,
 o5,
 sj,
 rT,
 ql,
 tH]⟩
def fns:List Fn:= [Su,MA,Lj,ZP,Q4,pV,UC,Mp,Qi,Hr,OS,Py,Se,Rp,M0,Qj,Q3,RX,R8,X5,ZI,Y5,tQ,gy,R7,Qp,hU,VH,YA,L6,Lq,Ga,Js,H6,Mt,Rb,SI,cZ,Ot,iN,NZ,Tq,Vm,QU,Kn,Qs,M4,TD,QQ,jy]
def gfK:List Nat:= [86,151,149,114,122,123,70,76,84,98,140,60,109,110,78,163,47,135,45,43,97,138,156,80,37,31,35,34,30,36,33,32,89,150]
def gfV:List Nat:= [3,4,5,6,7,8,19,20,21,22,23,24,25,26,27,28,29,30,35,36,37,38,39,40,41,42,43,44,45,46,47,48,49,5]
def big:Nat:=1000000
def EI{α β:Type}(x:Option (α×Store))(f:α→Store→Option β):Option β:=match x with
 |some p=>f p.1 p.2
 |none=>none
def DN{α β:Type}(x:Option α)(f:α→Option β):Option β:=match x with
 |some a=>f a
 |none=>none
def GA{α:Type}(b:Bool)(x:Option α):Option α:=match b with
 |true=>x
 |false=>none
def lift{α:Type}(x:Option α)(σ:Store):Option (α×Store):=match x with
 |some a=>some (a,σ)
 |none=>none
def DE{α:Type}:List (Nat×α)→Nat→Option α
 | [],_=>none
 |p::r,x=>cond (μ p.1 x) (some p.2) (DE r x)
def DR:List (Nat×V)→Nat→V→List (Nat×V)
 | [],x,v=> [(x,v)]
 |p::r,x,v=>cond (μ p.1 x) ((p.1,v)::r) (p::DR r x v)
def Nl:List Nat→List Nat→Bool
 | [], []=>true
 |a::l,b::r=>μ a b&&Nl l r
 |_,_=>false
def EQ(a b:Str):Bool:=Nl a.cps.toList b.cps.toList
def Dj:Int→Int→Bool
 | .ofNat a, .ofNat b=>μ a b
 | .negSucc a, .negSucc b=>μ a b
 |_,_=>false
def DO.beq:DO→DO→Bool
 | .i a, .i b=>Dj a b
 | .s a, .s b=>μ a b
 | .p a b, .p c d=>Dj a c&&Dj b d
 | .t a, .t b=>EQ a b
 |_,_=>false
def DU{α:Type}:List DO→List α→DO→Option α
 |k::ks,v::vs,x=>cond (DO.beq k x) (some v) (DU ks vs x)
 |_,_,_=>none
def Dm:List DO→DO→Bool
 | [],_=>false
 |k::ks,x=>DO.beq k x||Dm ks x
def Dz{α:Type}:List DO→List α→DO→α→List α
 |k::ks,v::vs,x,u=>cond (DO.beq k x) (u::vs) (v::Dz ks vs x u)
 |_,_,_,u=> [u]
def D2:List DO→DO→List DO
 | [],x=> [x]
 |k::ks,x=>cond (DO.beq k x) (k::ks) (k::D2 ks x)
def Dt{α:Type}:List Nat→List α→Nat→Option α
 |k::ks,v::vs,x=>cond (μ k x) (some v) (Dt ks vs x)
 |_,_,_=>none
def bc(f:Nat):Option Nat:=Dt gfK gfV f
def Jw{α:Type}:List Nat→List α→Nat→α→List α
 |k::ks,v::vs,x,u=>cond (μ k x) (u::vs) (v::Jw ks vs x u)
 |_,vs,_,_=>vs
def Yb:D→Option Int
 | .int i=>some i
 |_=>none
def wE:V→Option Bool
 | .d (.bool b)=>some b
 |_=>none
def Ir:V→Option D
 | .d x=>some x
 |_=>none
def MQ:Hd→Bool
 | .tup=>true
 |_=>false
def PY:Hd→Bool
 | .lst=>true
 |_=>false
def Wr:Hd→Option (Nat×List DO)
 | .Dg k ks=>some (k,ks)
 |_=>none
def OI:Hd→Option Nat
 | .inst c=>some c
 |_=>none
def jH:List D→Option DO
 | [.int a, .int b]=>some (.p a b)
 |_=>none
def HG:D→Option DO
 | .int i=>some (.i i)
 | .sym n=>some (.s n)
 | .str x=>some (.t x)
 | .nd h l=>GA (MQ h) (jH l)
 |_=>none
def DO.d:DO→D
 | .i n=> .int n
 | .s n=> .sym n
 | .p a b=> .nd .tup [.int a, .int b]
 | .t x=> .str x
def Sw(σ:Store)(i:Nat):Option Dh:=σ[i]?
def Mr:List V→Option (List D)
 | []=>some []
 |v::r=>DN (Ir v) λx=>DN (Mr r) λl=>some (x::l)
def HN(f:V→Store→Option (D×Store)):List V→Store→Option (List D×Store)
 | [],σ=>some ([],σ)
 |v::r,σ=>EI (f v σ) λx σ=>EI (HN f r σ) λl σ=>some (x::l,σ)
def Ht:Nat→V→Store→Option (D×Store)
 |_, .d x,σ=>some (x,σ)
 |0, .cell _,_=>none
 |k+1, .cell i,σ=>DN (Sw σ i) λc=>match c with
  | .fz x=>some (x,σ)
  | .lv h l=>EI (HN (Ht k) l σ) λds σ=>some (.nd h ds,σ.set i (.fz (.nd h ds)))
def FZ:Nat:=5
def dX:D→Option (Hd×List V)
 | .nd h l=>some (h,l.map .d)
 |_=>none
def uj:Dh→Option (Hd×List V)
 | .lv h l=>some (h,l)
 | .fz x=>dX x
def G4(σ:Store):V→Option (Hd×List V)
 | .d x=>dX x
 | .cell i=>DN (Sw σ i) uj
def JE(σ:Store)(v:V):Option (List V):=DN (G4 σ v) λq=>GA (PY q.1) (some q.2)
def Sr(σ:Store)(v:V):Option (List V):=DN (G4 σ v) λq=>GA (MQ q.1) (some q.2)
def GF(σ:Store)(v:V):Option (Nat×List DO×List V):=DN (G4 σ v) λq=>DN (Wr q.1) λr=>some (r.1,r.2,q.2)
def Ey(σ:Store)(v:V):Option (Nat×List V):=DN (G4 σ v) λq=>DN (OI q.1) λc=>some (c,q.2)
def np(k:Nat):Bool:= !μ k 2
def mM(l:List D):Hd→Option (List D)
 | .tup=>some l
 | .lst=>some l
 | .Dg k ks=>GA (np k) (some (ks.map DO.d))
 | .inst _=>none
def KB:D→Option (List D)
 | .nd h l=>mM l h
 |_=>none
def FV(v:V)(σ:Store):Option (List D×Store):=EI (Ht FZ v σ) λx σ=>lift (KB x) σ
def HV(a:Int):Nat→List D
 |0=> []
 |n+1=> .int a::HV (a+1) n
def small(i:Int):Bool:=decide (-(2^62)≤i)&&decide (i<2^62)
def G1(σ:Store):V→Option Bool
 | .d (.bool b)=>some b
 | .d (.int i)=>some (!Dj i 0)
 |v=>DN (JE σ v) λl=>some (!l.isEmpty)
def plain:D→Bool
 | .none=>true| .int _=>true| .sym _=>true
 | .nd h l=>(MQ h||PY h)&&FE l
 |_=>false
where FE:List D→Bool
 | []=>true
 |x::r=>plain x&&FE r
def heq:Hd→Hd→Bool
 | .tup, .tup=>true
 | .lst, .lst=>true
 |_,_=>false
def Ti:D→D→Bool
 | .none, .none=>true
 | .int a, .int b=>Dj a b
 | .sym a, .sym b=>μ a b
 | .nd h a, .nd h' b=>heq h h'&&Vf a b
 |_,_=>false
where Vf:List D→List D→Bool
 | [], []=>true
 |x::a,y::b=>Ti x y&&Vf a b
 |_,_=>false
def ei:D→Nat
 | .nd _ l=>deps l+1
 |_=>0
where deps:List D→Nat
 | []=>0
 |x::r=>Nat.max (ei x) (deps r)
def fits(x:D):Bool:=plain x&&Ε (ei x) 20
def og(a b:V):Option Bool:=DN (Ir a) λx=>DN (Ir b) λy=>GA (fits x&&fits y) (some (Ti x y))
def om:Hd→Nat
 | .lst=>1
 | .Dg _ _=>2
 |_=>0
def Jy:V→Nat
 | .d (.nd h [])=>om h
 |_=>0
def qA(σ:Store)(a b:V):Option Bool:=match Jy b with
 |1=>DN (JE σ a) λl=>some l.isEmpty
 |2=>DN (GF σ a) λr=>some r.2.2.isEmpty
 |_=>og a b
def La(x:D):List D→Bool
 | []=>false
 |y::r=>Ti y x||La x r
def atom:D→Bool
 | .none=>true| .int _=>true| .sym _=>true|_=>false
def atoms:List D→Bool
 | []=>true
 |x::r=>atom x&&atoms r
def T7(x:D)(l:List V):Hd→Option Bool
 | .Dg k ks=>DN (HG x) λkey=>GA (μ key.kind k) (some (Dm ks key))
 | .inst _=>none
 |_=>DN (Mr l) λl=>GA (atom x&&atoms l) (some (La x l))
def lB(σ:Store)(a b:V):Option Bool:=DN (Ir a) λx=>DN (G4 σ b) λq=>T7 x q.2 q.1
def isNone:V→Bool
 | .d .none=>true
 |_=>false
def aX(a b:V)(f:Int→Int→Bool):Option Bool:=DN (Ir a) λx=>DN (Yb x) λi=>DN (Ir b) λy=>DN (Yb y) λj=>some (f i j)
def z7(a b:Int):Bool:=decide (a<b)
def I9(a b:Int):Bool:=decide (a≤b)
def FG(σ:Store)(op:Nat)(a b:V):Option Bool:=match op with
 |0=>qA σ a b
 |1=>GA (Μ (Jy b) 2) (DN (qA σ a b) λr=>some (!r))
 |2=>aX a b z7
 |3=>aX a b I9
 |4=>aX a b λx y=>z7 y x
 |5=>aX a b λx y=>I9 y x
 |6=>GA (isNone b) (some (isNone a))
 |7=>GA (isNone b) (some (!isNone a))
 |8=>lB σ a b
 |9=>DN (lB σ a b) λr=>some (!r)
 |_=>none
def kn(op:Nat)(x y:Int):Option Int:=match op with
 |0=>some (x+y)
 |1=>some (x - y)
 |2=>GA (small x&&small y) (some (x*y))
 |3=>GA (!Dj y 0&&small y) (some (x.fdiv y))
 |4=>GA (!Dj y 0) (some (x.fmod y))
 |_=>none
def s8(op:Nat):D→D→Option D
 | .int x, .int y=>DN (kn op x y) λi=>some (.int i)
 | .nd h x, .nd h' y=>GA (μ op 0&&heq h h'&&Ε (x.length+y.length) big) (some (.nd h (x++y)))
 |_,_=>none
def Mx(op:Nat)(a b:V):Option V:=DN (Ir a) λx=>DN (Ir b) λy=>DN (s8 op x y) λz=>some (.d z)
def qL(l:List V):Int→Option V
 | .ofNat n=>l[n]?
 | .negSucc _=>none
def Um(x:D)(l:List V):Hd→Option V
 | .Dg k ks=>DN (HG x) λkey=>GA (μ key.kind k) (DU ks l key)
 | .inst _=>none
 |_=>DN (Yb x) (qL l)
def E8(σ:Store)(o i:V):Option V:=DN (Ir i) λx=>DN (G4 σ o) λq=>Um x q.2 q.1
def Wm:Nat→List D→List D
 |0,_=> []
 |n+1,x::l=>x::Wm n l
 |_+1, []=> []
def RF:D→Option (List D)
 | .nd h l=>GA (PY h) (some l)
 |_=>none
def kY(o:V)(n:Nat):Option V:=DN (Ir o) λx=>DN (RF x) λl=>some (.d (.nd .lst (Wm n l)))
def ej{α:Type}(le:α→α→Bool)(x:α):List α→List α
 | []=> [x]
 |y::r=>cond (le x y) (x::y::r) (y::ej le x r)
def HD{α:Type}(le:α→α→Bool):List α→List α
 | []=> []
 |x::r=>ej le x (HD le r)
def cJ:DO→Int
 | .i n=>n
 |_=>0
def eO:DO→Nat
 | .s n=>n
 |_=>0
def uu(k:Nat)(ks:List DO):Option (List D):=match k with
 |0=>some ((HD I9 (ks.map cJ)).map .int)
 |1=>some ((HD Ε (ks.map eO)).map .sym)
 |_=>none
def kZ(σ:Store)(v:V):Option V:=DN (GF σ v) λr=>GA (Μ r.2.1.length 64) (DN (uu r.1 r.2.1) λl=>some (.d (.nd .lst l)))
def YM:List D→Option Int
 | []=>some 0
 |x::r=>DN (Yb x) λa=>DN (YM r) λb=>some (a+b)
def nm(n:Nat):Str:=Fw.getD n ""
def EY:D→B2
 | .none=> .none
 | .bool b=> .bool b
 | .int i=> .int i
 | .sym n=> .str (nm n)
 | .str x=> .str x
 | .nd h l=>cond (MQ h) (.tuple (toPys l)) (.list (toPys l))
where toPys:List D→List B2
 | []=> []
 |x::r=>EY x::toPys r
def Je:D→Bool
 | .none=>true
 | .int i=>small i
 | .sym _=>true
 | .nd h l=>MQ h&&N4 l
 |_=>false
where N4:List D→Bool
 | []=>true
 |x::r=>Je x&&N4 r
def FW(x:D):Str:=(EY x).shown
def Pp(x:D):Option V:=GA (Je x&&Ε (ei x) 8&&Ε (FW x).length 1000000) (some (.d (.str (FW x))))
def tn(l:List V):Hd→Option Nat
 | .Dg k ks=>GA (np k) (some ks.length)
 | .inst _=>none
 |_=>some l.length
def lS:D→Option (List D)
 | .nd h l=>GA (MQ h) (some l)
 |_=>none
def Fk(σ:Store)(b:Nat)(v:V):Option V:=match b with
 |0=>DN (G4 σ v) λq=>DN (tn q.2 q.1) λn=>some (.d (.int n))
 |1=>DN (Ir v) λx=>DN (Yb x) λi=>some (.d (.int i.natAbs))
 |2=>DN (Ir v) λx=>DN (Yb x) λi=>some (.d (.int i))
 |3=>DN (Ir v) λx=>DN (RF x) λl=>DN (YM l) λn=>some (.d (.int n))
 |4=>kZ σ v
 |5=>DN (Ir v) λx=>DN (RF x) λl=>some (.d (.nd .tup l))
 |6=>DN (Ir v) λx=>DN (RF x) λl=>some (.d (.nd .lst l))
 |8=>DN (Ir v) λx=>DN (lS x) λl=>Pp (.nd .tup l)
 |_=>none
def push(σ:Store)(c:Dh):V×Store:=(.cell σ.length,σ++ [c])
def Df(keep:Bool)(h:Hd)(vs:List V)(σ:Store):Option (V×Store):=match keep with
 |true=>some (push σ (.lv h vs))
 |false=>EI (HN (Ht FZ) vs σ) λds σ=>some (.d (.nd h ds),σ)
def Sd(kk:Nat)(k v:V)(acc:List DO×List V):Option (List DO×List V):=
 DN (Ir k) λx=>DN (HG x) λkey=>GA (μ key.kind kk&&np kk) (some (D2 acc.1 key,Dz acc.1 acc.2 key v))
def FB(kk:Nat):List (V×V)→List DO×List V→Option (List DO×List V)
 | [],acc=>some acc
 |p::r,acc=>DN (Sd kk p.1 p.2 acc) λacc=>FB kk r acc
def alt:List V→Option (List (V×V))
 | []=>some []
 | [_]=>none
 |a::b::r=>DN (alt r) λl=>some ((a,b)::l)
def two:List V→Option (V×V)
 | [a,b]=>some (a,b)
 |_=>none
def Fo(σ:Store):List V→Option (List (V×V))
 | []=>some []
 |v::r=>DN (Sr σ v) λl=>DN (two l) λp=>DN (Fo σ r) λl=>some (p::l)
def K5(σ:Store)(kk:Nat)(v:V):Option (Nat×List DO×List V):=DN (G4 σ v) λq=>match q.1 with
 | .Dg k ks=>GA (np k) (some (k,ks,q.2))
 | .lst=>DN (Fo σ q.2) λl=>DN (FB kk l ([], [])) λr=>some (kk,r.1,r.2)
 |_=>none
def DX:Nat→List Nat
 |1=> [146]
 |4=> [103,64]
 |5=> [144,153]
 |6=> [121,59]
 |7=> [121,68,38,74,77]
 |8=> [133,95,144,46]
 |_=> []
def kdH:Hd→Option Nat
 | .tup=>some 6
 | .lst=>some 4
 | .Dg _ _=>some 5
 | .inst c=>GA (!(DX c).isEmpty) (some (10+c))
def Lc(σ:Store):V→Option Nat
 | .d .none=>some 0
 | .d (.bool _)=>some 1
 | .d (.int _)=>some 2
 | .d (.sym _)=>some 3
 | .d (.str _)=>some 3
 |v=>DN (G4 σ v) λq=>kdH q.1
def ML(k t:Nat):Bool:=μ k t||(μ k 1&&μ t 2)
def vO(σ:Store)(v:V)(t:Nat):Option V:=DN (Lc σ v) λk=>some (.d (.bool (ML k t)))
def Hj(σ:Store)(v:V)(a:Nat):Option V:=DN (Ey σ v) λr=>Dt (DX r.1) r.2 a
def bh:Dh→Option (Hd×List V)
 | .lv h l=>some (h,l)
 | .fz _=>none
def cellOf(σ:Store):V→Option (Nat×Hd×List V)
 | .d _=>none
 | .cell i=>DN (Sw σ i) λc=>DN (bh c) λq=>some (i,q)
def Q2(σ:Store)(i:Nat)(h:Hd)(l:List V):Store:=σ.set i (.lv h l)
def LG(σ:Store)(o:V)(a:Nat)(v:V):Option Store:=EI (Ht FZ v σ) λx σ=>DN (cellOf σ o) λr=>DN (OI r.2.1) λc=>
 DN (Dt (DX c) r.2.2 a) λO=>some (Q2 σ r.1 (.inst c) (Jw (DX c) r.2.2 a (.d x)))
def mD(l:List V)(x:D):Int→Option (List V)
 | .ofNat n=>GA (Μ n l.length) (some (l.set n (.d x)))
 | .negSucc _=>none
def vU(k x:D)(l:List V):Hd→Option (Hd×List V)
 | .Dg kk ks=>DN (HG k) λkey=>GA (μ key.kind kk&&Μ ks.length big) (some (.Dg kk (D2 ks key),Dz ks l key (.d x)))
 | .lst=>DN (Yb k) λi=>DN (mD l x i) λl=>some (.lst,l)
 |_=>none
def GL(σ:Store)(o i v:V):Option Store:=EI (Ht FZ v σ) λx σ=>DN (cellOf σ o) λr=>DN (Ir i) λk=>
 DN (vU k x r.2.2 r.2.1) λq=>some (Q2 σ r.1 q.1 q.2)
def ol(σ:Store)(o:V):Option (Nat×List V):=DN (cellOf σ o) λr=>GA (PY r.2.1) (some (r.1,r.2.2))
def G8(σ:Store)(o:V)(ds:List D):Option Store:=DN (ol σ o) λr=>GA (Μ (r.2.length+ds.length) big) (some (Q2 σ r.1 .lst (r.2++ds.map .d)))
def Px(σ:Store)(o v:V):Option Store:=EI (Ht FZ v σ) λx σ=>G8 σ o [x]
def pS(σ:Store)(o:V):Option (V×Store):=DN (ol σ o) λr=>DN r.2.getLast? λv=>some (v,Q2 σ r.1 .lst r.2.dropLast)
def U5:List DO→List DO→List DO
 | [],as=>as
 |k::ks,as=>U5 ks (D2 as k)
def Os{α β:Type}(f:β→α):List DO→List β→List DO→List α→List α
 |k::ks,x::xs,as,vs=>Os f ks xs (D2 as k) (Dz as vs k (f x))
 |_,_,_,vs=>vs
def uT:D→Option (List DO×List D)
 | .nd (.Dg 0 ks) l=>some (ks,l)
 |_=>none
def y8(σ:Store)(o:V):Option (Nat×List DO×List V):=DN (cellOf σ o) λr=>DN (Wr r.2.1) λq=>GA (μ q.1 0) (some (r.1,q.2,r.2.2))
def Qe(σ:Store)(o v:V):Option Store:=DN (Ir v) λx=>DN (uT x) λp=>DN (y8 σ o) λr=>
 GA (Μ (p.1.length+r.2.1.length) big) (some (Q2 σ r.1 (.Dg 0 (U5 p.1 r.2.1)) (Os V.d p.1 p.2 r.2.1 r.2.2)))
def aA(σ:Store)(o:V)(vs:List V):Option V:=DN (GF σ o) λr=>match vs with
 |k::vs=>DN (Ir k) λx=>DN (HG x) λkey=>GA (μ key.kind r.1) (match vs with
  | []=>some ((DU r.2.1 r.2.2 key).getD (.d .none))
  | [u]=>some ((DU r.2.1 r.2.2 key).getD u)
  |_=>none)
 | []=>none
def only{α:Type}:List α→Option α
 | [v]=>some v
 |_=>none
def done(x:Option Store):Option (V×Store):=DN x λσ=>some (.d .none,σ)
def GN(m:Nat)(o:V)(vs:List V)(σ:Store):Option (V×Store):=
 cond (μ m 41) (DN (only vs) λv=>done (Px σ o v))<|
 cond (μ m 65) (lift (aA σ o vs) σ)<|
 cond (μ m 116) (GA vs.isEmpty (pS σ o))<|
 cond (μ m 57) (DN (only vs) λv=>EI (Ht FZ v σ) λx σ=>DN (RF x) λl=>done (G8 σ o l))<|
 cond (μ m 157) (DN (only vs) λv=>done (Qe σ o v)) none
def Jr(σ:Store)(m:Nat)(o:V):Bool:=cond (μ m 65||μ m 157) (GF σ o).isSome (JE σ o).isSome
structure HR where
 call:Bool→Nat→List V→Store→Option (V×Store)
 init:Nat→List V→Store→Option (List V×Store)
def fV(n:Nat):Option D:=match n with
 |20=>some (.nd .tup [.sym 13, .sym 14, .sym 1])
 |6=>some (.nd .tup [.sym 17, .sym 10, .sym 4, .sym 19])
 |8=>some (.int 30)
 |_=>none
def KO:Nat→Option Nat
 |1=>some 0|4=>some 1|5=>some 9|6=>some 17|7=>some 18|8=>some 31
 |_=>none
def HZ:Nat→List Nat×List Nat
 |4=>([111], [2])
 |5=>([58,65,117,40,104,127,149], [10,11,12,13,14,15,16])
 |8=>([125,145,90], [32,33,34])
 |_=>([], [])
def Ki(c m:Nat):Option Nat:=Dt (HZ c).1 (HZ c).2 m
def Md(x y:Nat)(d:D)(loc:Di):Option Di:=match y with
 |0=>some ((x, .d d)::loc)
 |_=>match d with
  | .nd .tup [a,b]=>some ((y, .d b)::(x, .d a)::loc)
  |_=>none
def EA{α:Type}(f:D→Store→Option (Option α×Store)):List D→Store→Option (List α×Store)
 | [],σ=>some ([],σ)
 |x::r,σ=>EI (f x σ) λv σ=>EI (EA f r σ) λl σ=>some (v.toList++l,σ)
abbrev Ev:=Di→Store→Option (V×Store)
set_option genCtorIdx false in
inductive HW where
 |go (c:Nat) (loc:Di) (σ:Store)
 |ret (v:V) (σ:Store)
def HW.ctorIdx(x:HW):Nat:=HW.casesOn x (λO O O=>0) λO O=>1
abbrev Ex:=Di→Store→Option HW
structure Nd where
 t:Nat
 n:Nat
 ev:Ev
 kids:List Ev
 ex:Ex
def O3:List Ev→Di→Store→Option (List V×Store)
 | [],_,σ=>some ([],σ)
 |f::fs,loc,σ=>EI (f loc σ) λv σ=>EI (O3 fs loc σ) λvs σ=>some (v::vs,σ)
def mP(x:Nat):Ev:=λloc σ=>lift (DE loc x) σ
def yR(x:Nat):Ev:=λO σ=>lift (DN (fV x) λd=>some (.d d)) σ
def M5(x:D):Ev:=λO σ=>some (.d x,σ)
def XE(a:Nat)(f:Ev):Ev:=λloc σ=>EI (f loc σ) λo σ=>lift (Hj σ o a) σ
def iA(f g:Ev):Ev:=λloc σ=>EI (f loc σ) λo σ=>EI (g loc σ) λi σ=>lift (E8 σ o i) σ
def V5(n:Nat)(f:Ev):Ev:=λloc σ=>EI (f loc σ) λo σ=>lift (kY o n) σ
def gh(op:Nat)(f g:Ev):Ev:=λloc σ=>EI (f loc σ) λa σ=>EI (g loc σ) λb σ=>lift (Mx op a b) σ
def cW(f:Ev):Ev:=λloc σ=>EI (f loc σ) λv σ=>lift (DN (wE v) λb=>some (.d (.bool (!b)))) σ
def Ya(op:Nat)(f g:Ev):Ev:=λloc σ=>EI (f loc σ) λa σ=>EI (g loc σ) λb σ=>lift (DN (FG σ op a b) λr=>some (.d (.bool r))) σ
def OE(op op':Nat)(f g h:Ev):Ev:=λloc σ=>EI (f loc σ) λa σ=>EI (g loc σ) λb σ=>DN (FG σ op a b) λr=>match r with
 |true=>EI (h loc σ) λc σ=>lift (DN (FG σ op' b c) λr=>some (.d (.bool r))) σ
 |false=>some (.d (.bool false),σ)
def LE(q:Bool):List Ev→Ev
 | [],_,σ=>some (.d (.bool q),σ)
 |f::fs,loc,σ=>EI (f loc σ) λv σ=>DN (wE v) λb=>cond (q==b) (LE q fs loc σ) (some (.d (.bool b),σ))
def ci(t f g:Ev):Ev:=λloc σ=>EI (t loc σ) λv σ=>DN (G1 σ v) λb=>cond b (f loc σ) (g loc σ)
def ZW(keep:Bool)(h:Hd)(fs:List Ev):Ev:=λloc σ=>EI (O3 fs loc σ) λvs σ=>Df keep h vs σ
def Yr(keep:Bool)(kk:Nat)(fs:List Ev):Ev:=λloc σ=>EI (O3 fs loc σ) λvs σ=>DN (alt vs) λl=>DN (FB kk l ([], [])) λr=>Df keep (.Dg kk r.1) r.2 σ
def Lv(G:HR)(keep:Bool)(f:Nat)(fs:List Ev):Ev:=λloc σ=>EI (O3 fs loc σ) λvs σ=>DN (bc f) λi=>G.call keep i vs σ
def Lz(G:HR)(keep:Bool)(c:Nat)(fs:List Ev):Ev:=λloc σ=>EI (O3 fs loc σ) λvs σ=>EI (G.init c vs σ) λl σ=>Df keep (.inst c) l σ
def Qh(b:Nat)(f:Ev):Ev:=λloc σ=>EI (f loc σ) λv σ=>lift (Fk σ b v) σ
def Lo(keep:Bool)(kk:Nat)(f:Ev):Ev:=λloc σ=>EI (f loc σ) λv σ=>DN (K5 σ kk v) λr=>Df keep (.Dg r.1 r.2.1) r.2.2 σ
def hG(t:Nat)(f:Ev):Ev:=λloc σ=>EI (f loc σ) λv σ=>lift (vO σ v t) σ
def V7(G:HR)(m:Nat)(f:Ev)(fs:List Ev):Ev:=λloc σ=>EI (f loc σ) λo σ=>match Ey σ o with
 |some r=>GA (Dt (DX r.1) (DX r.1) m).isNone (DN (Ki r.1 m) λi=>EI (O3 fs loc σ) λvs σ=>G.call false i (o::vs) σ)
 |none=>GA (Jr σ m o) (EI (O3 fs loc σ) λvs σ=>GN m o vs σ)
def bE:List Ev→Di→Store→Option (Bool×Store)
 | [],_,σ=>some (true,σ)
 |f::fs,loc,σ=>EI (f loc σ) λv σ=>DN (wE v) λb=>cond b (bE fs loc σ) (some (false,σ))
def FU(a b:Int):Option (List D):=GA (small a&&small b&&Ε (b - a).toNat big) (some (HV a (b - a).toNat))
abbrev aV:=Di→Store→Option (List D×Store)
def RM(q:Nat)(fs:List Ev):aV:=λloc σ=>EI (O3 fs loc σ) λvs σ=>match q with
 |0=>DN (only vs) λv=>FV v σ
 |1=>DN (only vs) λv=>DN (Ir v) λx=>DN (Yb x) λn=>lift (FU 0 n) σ
 |2=>DN (two vs) λp=>DN (Ir p.1) λx=>DN (Yb x) λm=>DN (Ir p.2) λy=>DN (Yb y) λn=>lift (FU m n) σ
 |3=>DN (only vs) λv=>DN (Ir v) λx=>DN (RF x) λl=>some (l.reverse,σ)
 |_=>none
def F2(x y:Nat)(f:Ev)(ifs:List Ev)(loc:Di)(d:D)(σ:Store):Option (Option V×Store):=DN (Md x y d loc) λloc=>EI (bE ifs loc σ) λb σ=>match b with
 |true=>EI (f loc σ) λv σ=>some (some v,σ)
 |false=>some (none,σ)
def Od(keep:Bool)(it:aV)(x y:Nat)(f:Ev)(ifs:List Ev):Ev:=λloc σ=>EI (it loc σ) λl σ=>EI (EA (F2 x y f ifs loc) l σ) λvs σ=>Df keep .lst vs σ
def MM(x:Nat)(f g:Ev)(loc:Di)(d:D)(σ:Store):Option (Option (V×V)×Store):=EI (f ((x, .d d)::loc) σ) λa σ=>EI (g ((x, .d d)::loc) σ) λb σ=>some (some (a,b),σ)
def QO(kk:Nat)(it:aV)(x:Nat)(f g:Ev):Ev:=λloc σ=>EI (it loc σ) λl σ=>EI (EA (MM x f g loc) l σ) λps σ=>DN (FB kk ps ([], [])) λr=>Df false (.Dg kk r.1) r.2 σ
def FP(n:Nat):V→Bool
 | .d _=>false
 | .cell i=>Ε n i
def has(a:Nat):List Nat→Bool
 | []=>false
 |x::r=>μ x a||has a r
def Du(n:Nat)(dead:List Nat):Di→Di
 | []=> []
 |p::r=>cond (has p.1 dead||FP n p.2) (Du n (p.1::dead) r) (p::Du n dead r)
def Ek(body:Ex)(x:Nat):List D→Ex
 | [],loc,σ=>some (.go 0 loc σ)
 |d::r,loc,σ=>DN (body (DR loc x (.d d)) σ) λo=>match o with
  | .go 1 DG DT=>some (.go 0 (Du σ.length [] DG) (DT.take σ.length))
  | .go _ DG DT=>Ek body x r (Du σ.length [] DG) (DT.take σ.length)
  | .ret v DT=>some (.ret v DT)
def EC(test:Di→Store→Option (Bool×Store))(body:Ex):Nat→Ex
 |0,_,_=>none
 |k+1,loc,σ=>EI (test loc σ) λb DD=>match b with
  |true=>DN (body loc DD) λo=>match o with
   | .go 1 DG DT=>some (.go 0 (Du σ.length [] DG) (DT.take σ.length))
   | .go _ DG DT=>EC test body k (Du σ.length [] DG) (DT.take σ.length)
   | .ret v DT=>some (.ret v DT)
  |false=>some (.go 0 loc DD)
def I0:List Nat→List V→Di→Option Di
 | [], [],loc=>some loc
 |x::xs,v::vs,loc=>DN (I0 xs vs loc) λloc=>some (DR loc x v)
 |_,_,_=>none
def TY:Nat:=2000
def VG(x:Option HW)(f:Di→Store→Option HW):Option HW:=DN x λo=>match o with
 | .go 0 loc σ=>f loc σ
 |o=>some o
def hO(x:Nat)(f:Ev):Ex:=λloc σ=>EI (f loc σ) λv σ=>some (.go 0 (DR loc x v) σ)
def Z4(a:Nat)(f o:Ev):Ex:=λloc σ=>EI (f loc σ) λv σ=>EI (o loc σ) λo σ=>DN (LG σ o a v) λσ=>some (.go 0 loc σ)
def cV(f o i:Ev):Ex:=λloc σ=>EI (f loc σ) λv σ=>EI (o loc σ) λo σ=>EI (i loc σ) λi σ=>DN (GL σ o i v) λσ=>some (.go 0 loc σ)
def aY(f:Ev)(xs:List Nat):Ex:=λloc σ=>EI (f loc σ) λv σ=>DN (Ir v) λx=>DN (lS x) λl=>DN (I0 xs (l.map .d) loc) λloc=>some (.go 0 loc σ)
def d7(fs:List Ev)(xs:List Nat):Ex:=λloc σ=>EI (O3 fs loc σ) λvs σ=>DN (I0 xs vs loc) λloc=>some (.go 0 loc σ)
def zh(f:Ev):Ex:=λloc σ=>EI (f loc σ) λv σ=>GA (isNone v) (some (.go 0 loc σ))
def cI(f g:Ev):Ex:=λloc σ=>EI (f loc σ) λo σ=>GA (Jr σ 57 o) (EI (g loc σ) λv σ=>DN (Ir v) λx=>DN (RF x) λl=>DN (G8 σ o l.reverse) λσ=>some (.go 0 loc σ))
def lE(f:Ev):Ex:=λloc σ=>EI (f loc σ) λv σ=>some (.ret v σ)
def zi(t:Ev)(a b:Ex):Ex:=λloc σ=>EI (t loc σ) λv σ=>DN (G1 σ v) λc=>cond c (a loc σ) (b loc σ)
def oP(x:Nat)(it:aV)(b:Ex):Ex:=λloc σ=>EI (it loc σ) λl σ=>Ek b x l loc σ
def NJ(t:Ev)(loc:Di)(σ:Store):Option (Bool×Store):=EI (t loc σ) λv σ=>lift (G1 σ v) σ
def pY(t:Ev)(b:Ex):Ex:=λloc σ=>EC (NJ t) b TY loc σ
def Yh:List Ex→Ex
 | [],loc,σ=>some (.go 0 loc σ)
 |f::fs,loc,σ=>VG (f loc σ) λloc σ=>Yh fs loc σ
def ZX{α:Type}(l:List Nd)(f:Nd→Di→Store→Option α):Di→Store→Option α:=match l with
 | [a]=>f a
 |_=>λO O=>none
def jZ{α:Type}(l:List Nd)(f:Nd→Nd→Di→Store→Option α):Di→Store→Option α:=match l with
 | [a,b]=>f a b
 |_=>λO O=>none
def uG{α:Type}(l:List Nd)(f:Nd→Nd→Nd→Di→Store→Option α):Di→Store→Option α:=match l with
 | [a,b,c]=>f a b c
 |_=>λO O=>none
def on4{α:Type}(l:List Nd)(f:Nd→Nd→Nd→Nd→Di→Store→Option α):Di→Store→Option α:=match l with
 | [a,b,c,d]=>f a b c d
 |_=>λO O=>none
def vn{α:Type}(l:List Nd)(f:Nd→List Nd→Di→Store→Option α):Di→Store→Option α:=match l with
 |a::r=>f a r
 |_=>λO O=>none
def mA{α:Type}(l:List Nd)(f:Nd→Nd→Nd→List Nd→Di→Store→Option α):Di→Store→Option α:=match l with
 |a::b::c::r=>f a b c r
 |_=>λO O=>none
def Nd.it(d:Nd):aV:=RM d.t d.kids
def xw(G:HR)(t n:Nat)(l:List Nd):Ev:=match t with
 |0=>mP n
 |1=>yR n
 |2=>M5 .none
 |3=>M5 (.bool (μ n 1))
 |4=>M5 (.int n)
 |5=>M5 (.sym n)
 |6=>M5 (.int (-(n:Int)))
 |7=>M5 (.int ((10:Int)^n))
 |8=>ZX l λa=>XE n a.ev
 |9=>jZ l λa b=>iA a.ev b.ev
 |10=>ZX l λa=>V5 n a.ev
 |11=>jZ l λa b=>gh n a.ev b.ev
 |12=>ZX l λa=>cW a.ev
 |13=>jZ l λa b=>Ya n a.ev b.ev
 |14=>uG l λa b c=>OE (n / 16) (n % 16) a.ev b.ev c.ev
 |15=>LE true (l.map Nd.ev)
 |16=>LE false (l.map Nd.ev)
 |17=>uG l λa b c=>ci a.ev b.ev c.ev
 |18=>ZW false .tup (l.map Nd.ev)
 |19=>ZW false .lst (l.map Nd.ev)
 |20=>ZW true .lst (l.map Nd.ev)
 |21=>Yr false n (l.map Nd.ev)
 |22=>Yr true n (l.map Nd.ev)
 |23=>Lv G false n (l.map Nd.ev)
 |24=>Lv G true n (l.map Nd.ev)
 |25=>Lz G false n (l.map Nd.ev)
 |26=>Lz G true n (l.map Nd.ev)
 |27=>ZX l λa=>Qh n a.ev
 |28=>ZX l λa=>Lo false n a.ev
 |29=>ZX l λa=>Lo true n a.ev
 |30=>ZX l λa=>hG n a.ev
 |31=>vn l λa r=>V7 G n a.ev (r.map Nd.ev)
 |32=>mA l λi p a r=>Od false i.it p.t p.n a.ev (r.map Nd.ev)
 |33=>mA l λi p a r=>Od true i.it p.t p.n a.ev (r.map Nd.ev)
 |34=>on4 l λi p a b=>QO n i.it p.t a.ev b.ev
 |35=>ZW true .tup (l.map Nd.ev)
 |_=>λO O=>none
def exN(t n:Nat)(l:List Nd):Ex:=match t with
 |50=>ZX l λa=>hO n a.ev
 |51=>jZ l λa o=>Z4 n a.ev o.ev
 |52=>uG l λa o i=>cV a.ev o.ev i.ev
 |53=>vn l λa r=>aY a.ev (r.map Nd.n)
 |54=>vn l λa r=>d7 a.kids (r.map Nd.n)
 |55=>ZX l λa=>zh a.ev
 |56=>jZ l λa b=>cI a.ev b.ev
 |57=>ZX l λa=>lE a.ev
 |58=>uG l λa b c=>zi a.ev b.ex c.ex
 |59=>jZ l λi b=>oP n i.it b.ex
 |60=>jZ l λa b=>pY a.ev b.ex
 |61=>λloc σ=>some (.go 2 loc σ)
 |62=>λloc σ=>some (.go 1 loc σ)
 |63=>ZX l λb=>b.ex
 |70=>Yh (l.map Nd.ex)
 |_=>λO O=>none
def mT(G:HR)(t n:Nat)(l:List Nd):Nd:=⟨t,n,xw G t n l,l.map Nd.ev,exN t n l⟩
end
mutual
noncomputable def nd(G:HR):T→Nd
 | .mk t n ks=>mT G t n (GT G ks)
noncomputable def GT(G:HR):List T→List Nd
 | []=> []
 |a::r=>nd G a::GT G r
end
mutual open A
def bindArgs:List Nat→List V→Nat→Option Di
 | [], [],_=>some []
 |x::xs,v::vs,df=>DN (bindArgs xs vs df) λl=>some ((x,v)::l)
 |x::xs, [],df=>GA (Ε (xs.length+1) df) (DN (bindArgs xs [] df) λl=>some ((x, .d .none)::l))
 | [],_::_,_=>none
def jI:HW→Option (V×Store)
 | .ret v σ=>some (v,σ)
 | .go 0 _ σ=>some (.d .none,σ)
 |_=>none
def run(G:HR)(f:Fn)(args:List V)(σ:Store):Option (V×Store):=
 DN (bindArgs f.ps args f.df) λloc=>DN (Yh ((GT G f.body).map Nd.ex) loc σ) jI
def sH(σ:Store)(i:Nat):Option (Hd×List D):=DN (Sw σ i) λc=>DN (bh c) λq=>DN (Mr q.2) λl=>some (q.1,l)
def JJ(σ:Store)(n:Nat):List V→Store→Option (List V×Store)
 | [],τ=>some ([],τ)
 | .d x::r,τ=>EI (JJ σ n r τ) λl τ=>some (.d x::l,τ)
 | .cell i::r,τ=>GA (Ε n i) (DN (sH σ i) λq=>DN (Wr q.1) λO=>EI (JJ σ (i+1) r (τ++ [.lv q.1 (q.2.map .d)])) λl iy=>some (.cell τ.length::l,iy))
def Z9(n i:Nat)(σ:Store):Option (V×Store):=DN (Sw σ i) λc=>DN (bh c) λq=>match q.1 with
 | .inst c=>EI (JJ σ n q.2 (σ.take n)) λfs τ=>some (push τ (.lv (.inst c) fs))
 | .tup=>none
 |h=>DN (Mr q.2) λl=>some (push (σ.take n) (.lv h (l.map .d)))
def D5(keep:Bool)(n:Nat)(σ:Store):V→Option (V×Store)
 | .d x=>some (.d x,σ.take n)
 | .cell i=>match Ε n i with
  |false=>some (.cell i,σ.take n)
  |true=>match keep with
   |false=>EI (Ht FZ (.cell i) σ) λx σ=>some (.d x,σ.take n)
   |true=>Z9 n i σ
def T.tag:T→Nat
 | .mk t _ _=>t
def T.nr:T→Nat
 | .mk _ n _=>n
def T.ks:T→List T
 | .mk _ _ k=>k
def bS:List T→Option (T×T)
 | [a,b]=>some (a,b)
 |_=>none
def Hy(G:HR)(loc:Di):List Nat→List T→Store→Option (List V×Store)
 | [], [],σ=>some ([],σ)
 |a::as,t::r,σ=>GA (μ t.tag 51&&μ a t.nr) (DN (bS t.ks) λp=>GA (μ p.2.tag 0&&p.2.ks.isEmpty) (EI ((nd G p.1).ev loc σ) λv σ=>EI (Hy G loc as r σ) λl σ=>some (v::l,σ)))
 |_,_,_=>none
def tA(G:HR)(c:Nat)(args:List V)(σ:Store):Option (List V×Store):=DN (KO c) λi=>DN fns[i]? λf=>match f.ps with
 |s::ps=>DN (bindArgs ps args f.df) λloc=>Hy G loc (DX c) f.body σ
 | []=>none
def DZ:Nat→HR
 |0=>⟨λO O O O=>none,λO O O=>none⟩
 |k+1=>⟨λkeep i args σ=>DN fns[i]? λf=>EI (run (DZ k) f args σ) λv DT=>D5 keep σ.length DT v,
       λc args σ=>tA (DZ k) c args σ⟩
end
set_option genInjectivity false
end
section
mutual open A
theorem DP{α β:Type}{x:Option (α×Store)}{f:α→Store→Option β}{r:β}{P:Prop}(e:EI x f=some r)(go: ∀a σ,x=some (a,σ)→f a σ=some r→P):P:=by
 cases x with
 |none=>exact A6 rfl (heq_of_eq e)
 |some p=>exact go p.1 p.2 rfl e
theorem DA{α β:Type}{x:Option α}{f:α→Option β}{r:β}{P:Prop}(e:DN x f=some r)(go: ∀a,x=some a→f a=some r→P):P:=by
 cases x with
 |none=>exact A6 rfl (heq_of_eq e)
 |some a=>exact go a rfl e
theorem DY{α:Type}{b:Bool}{x:Option α}{r:α}{P:Prop}(e:GA b x=some r)(go:b=true→x=some r→P):P:=by
 cases b with
 |false=>exact A6 rfl (heq_of_eq e)
 |true=>exact go rfl e
@[elab_as_elim] theorem De{α:Type}{a r:α}{P:α→Prop}(e:some a=some r)(go:P a):P r:=η e▸go
@[elab_as_elim] theorem Fq{α:Type}{x:Option α}{σ DT:Store}{v:α}{P:α→Store→Prop}(e:lift x σ=some (v,DT))(go: ∀a,x=some a→P a σ):P v DT:=by
 cases x with
 |none=>exact A6 rfl (heq_of_eq e)
 |some a=>cases e;exact go _ rfl
theorem band{a b:Bool}(h:(a&&b)=true):a=true∧b=true:=by cases a<;>cases b<;>first|exact ⟨rfl,rfl⟩|exact ζ h
theorem DC{α:Type}{a:α}{P:Prop}(e:none=some a):P:=A6 rfl (heq_of_eq e)
inductive DS{α β:Type}(R:α→β→Prop):List α→List β→Prop
 |nil:DS R [] []
 |cons {a b l m}:R a b→DS R l m→DS R (a::l) (b::m)
end
section
mutual open A
variable{α β γ:Type}{R S:α→β→Prop}
theorem DS.imp(f: ∀a b,R a b→S a b){l:List α}{m:List β}(h:DS R l m):DS S l m:=by
 induction h with
 |nil=>exact .nil
 |cons a _ ih=>exact .cons (f _ _ a) ih
theorem DS.length{l:List α}{m:List β}(h:DS R l m):l.length=m.length:=by
 induction h with
 |nil=>rfl
 |cons _ _ ih=>exact congrArg (· +1) ih
theorem DS.mapR{T:α→γ→Prop}(g:β→γ)(f: ∀a b,R a b→T a (g b)){l:List α}{m:List β}(h:DS R l m):DS T l (m.map g):=by
 induction h with
 |nil=>exact .nil
 |cons a _ ih=>exact .cons (f _ _ a) ih
theorem DS.ofMap{T:α→γ→Prop}(g:β→γ)(f: ∀a b,T a (g b)→R a b){l:List α}: ∀{m:List β},DS T l (m.map g)→DS R l m:=by
 induction l with
 |nil=>intro m h;cases m with|nil=>exact .nil|cons=>cases h
 |cons x l ih=>intro m h;cases m with|nil=>cases h|cons=>cases h with|cons a b=>exact .cons (f _ _ a) (ih b)
theorem DS.append{l l':List α}{m m':List β}(h:DS R l m)(k:DS R l' m'):DS R (l++l') (m++m'):=by
 induction h with
 |nil=>exact k
 |cons a _ ih=>exact .cons a ih
theorem DS.get{l:List α}{m:List β}(h:DS R l m): ∀{i:Nat} {y:β},m[i]?=some y→ ∃u,l[i]?=some u∧R u y:=by
 induction h with
 |nil=>intro i y e;exact DC (e:none=_)
 |cons a _ ih=>
  intro i y e;cases i with
  |zero=>exact (DM _ rfl (η e▸a))
  |succ i=>exact ih e
theorem DS.pZ{l:List α}{m:List β}(h:DS R l m){i:Nat}{u:α}{y:β}(e1:l[i]?=some u)(e2:m[i]?=some y):R u y:=
 DQ (h.get e2) λO a b=>η (a.symm.trans e1)▸b
theorem LP{l:List α}{b:β}(h:DS R l [b]): ∃a,l= [a]∧R a b:=by
 cases h with|cons a h=>cases h;exact (DM _ rfl a)
theorem dS{l:List α}(h:DS R l ([]:List β)):l= []:=by cases h;rfl
theorem Jh{m:List β}(h:DS R ([]:List α) m):m= []:=by cases h;rfl
theorem HJ{a:α}{l:List α}{m:List β}(h:DS R (a::l) m): ∃b m',m=b::m'∧R a b∧DS R l m':=by
 cases h with|cons a h=>exact (EK _ _ rfl a h)
theorem Yd{l:List α}{b:β}{m:List β}(h:DS R l (b::m)): ∃a l',l=a::l'∧R a b∧DS R l' m:=by
 cases h with|cons a h=>exact (EK _ _ rfl a h)
theorem cK{l:List α}{b d:β}(h:DS R l [b,d]): ∃a e,l= [a,e]∧R a b∧R e d:=
 D0 (Yd h) λa O w h1 h2=>DQ (LP h2) λe w2 h3=>(EK a e (w2▸w) h1 h3)
theorem DS.set{u:α}{y:β}(a:R u y){l:List α}{m:List β}(h:DS R l m): ∀n,DS R (l.set n u) (m.set n y):=by
 induction h with
 |nil=>intro n;exact .nil
 |cons b c ih=>
  intro n;cases n with
  |zero=>exact .cons a c
  |succ n=>exact .cons b (ih n)
theorem DS.dropLast{l:List α}{m:List β}(h:DS R l m):DS R l.dropLast m.dropLast:=by
 induction h with
 |nil=>exact .nil
 |cons a b ih=>cases b with
  |nil=>exact .nil
  |cons=>exact .cons a ih
theorem DS.last{l:List α}{m:List β}(h:DS R l m){y:β}(e:m.getLast?=some y): ∃u,l.getLast?=some u∧R u y:=by
 rw [BE] at e;refine DQ (h.get e) λu a b=> ?_;exact (DM u (by exact C9 (BE)<|C9 h.length a) b)
theorem DS.reverse{l:List α}{m:List β}(h:DS R l m):DS R l.reverse m.reverse:=by
 induction h with
 |nil=>exact .nil
 |cons a _ ih=>exact C9 Ag<|C9 Ag<|ih.append (.cons a .nil)
end
end
mutual open A
abbrev HF:=Br→Option Obj
abbrev RH:=List (Br×Br)
abbrev GW(vs:List Bj)(n:Nat):Obj:={cls:= .type "tuple",data:= .seq vs.toArray n}
abbrev E3(vs:List Bj)(n:Nat):Obj:={cls:= .type "list",data:= .seq vs.toArray n}
structure Cx where
 prog:Program
 w:World
 CL:Nat→Br
 h₀:Bz
inductive Pk(c:Cx):Nat→(K:Type)→ [DecidableEq K]→PySem.KeyKind c.prog c.w K→(K→DO→Prop)→Prop
 |i:Pk c 0 Int (B9 c.prog c.w) (λn k=>k= .i n)
 |s:Pk c 1 Str (strKind c.prog c.w) (λx k=> ∃n,n<Fw.length∧x=nm n∧k= .s n)
 |t:Pk c 3 Str (strKind c.prog c.w) (λx k=>k= .t x)
inductive Rows{K:Type}(rl:K→DO→Prop):List (K×Bj)→List DO→List Bj→Prop
 |nil:Rows rl [] [] []
 |cons {a x v l ks vs}:rl a x→Rows rl l ks vs→Rows rl ((a,v)::l) (x::ks) (v::vs)
abbrev LY:=(Int×Int)×Br×Bj
def lk(x:LY):List Int×Br×Bj:=([x.1.1,x.1.2],x.2)
def jk(c:Cx)(o:Obj)(xs:List LY):Prop:= ∃es ep,o.ExactDict∧o.data= .dict es ep∧es.toList=(xs.map lk).map (entryOfKey (CN (B9 c.prog c.w)))
inductive EB(c:Cx)(hf:HF)(o:Obj):Nat→List DO→List Bj→Prop
 |np {k:Nat} {K:Type} [DecidableEq K] {knd:PySem.KeyKind c.prog c.w K} {rl:K→DO→Prop} {l:List (K×Bj)} {ks vs}:Pk c k K knd rl→vs.length≤big→o.IsDictOf knd l→Rows rl l ks vs→EB c hf o k ks vs
 |pr {xs:List LY} {ks vs}:vs.length≤big→jk c o xs→(∀x∈xs,∃n t u,hf x.2.1=some (GW [.int x.1.1 t, .int x.1.2 u] n))→(xs.map (·.1)).Nodup→ks=xs.map (λx=> .p x.1.1 x.1.2)→vs=xs.map (·.2.2)→EB c hf o 2 ks vs
structure Ix(o:Obj)(as:List Nat)(vs:List Bj):Prop where
 ex: ∃es ep,o.data= .dict es ep∧StrKeys es∧es.size=vs.length∧ ∀a,a<Fw.length→nsFind es (nm a)=Dt as vs a
 len:as.length=vs.length
 lim:vs.length≤100
inductive vK(f:List Bj→Nat→Obj)(p:Br×Br)(o:Obj)(vs:List Bj):Prop
 |mk (s1:p.1=p.2) (s2:vs.length≤big) (n:Nat) (e:o=f vs n)
structure zK(c:Cx)(hf:HF)(p:Br×Br)(o:Obj)(k:Nat)(ks:List DO)(vs:List Bj):Prop where
 s1:p.1=p.2
 s2:(p.2==By)=false
 s3:EB c hf o k ks vs
def Xj(c:Cx)(hf:HF)(p:Br×Br)(o:Obj):Hd→List Bj→Prop
 | .tup,vs=>vK GW p o vs
 | .lst,vs=>vK E3 p o vs
 | .Dg k ks,vs=>zK c hf p o k ks vs
 | .inst cl,vs=>hf p.1=some (CB (c.CL cl) p.2)∧Ix o (DX cl) vs
inductive DV(c:Cx)(hf:HF):Bj→D→Prop
 |none:DV c hf .none .none
 |bool (b):DV c hf (.bool b) (.bool b)
 |int (i t):DV c hf (.int i t) (.int i)
 |sym (n t):n<Fw.length→DV c hf (.str (nm n) t) (.sym n)
 |str (x t):DV c hf (.str x t) (.str x)
 |nd {p:Br×Br} {o h vs l}:hf p.2=some o→Xj c hf p o h vs→DS (DV c hf) vs l→DV c hf (.ref p.1) (.nd h l)
def VV(c:Cx)(hf:HF)(ρ:RH)(v:Bj):V→Prop
 | .d x=>DV c hf v x
 | .cell i=> ∃p,ρ[i]?=some p∧v= .ref p.1
def Gh(c:Cx)(hf:HF)(ρ:RH)(h:Bz)(p:Br×Br):Dh→Prop
 | .lv hd l=>hf p.2=none∧ ∃o vs,h.get? p.2=some o∧Xj c hf p o hd vs∧DS (VV c hf ρ) vs l
 | .fz x=>DV c hf (.ref p.1) x
def I1:Dh→Bool
 | .fz _=>false
 |_=>true
structure F5(c:Cx)(hf:HF)(ρ:RH)(σ:Store)(h:Bz):Prop where
 base: ∀b o,c.h₀.get? b=some o→hf b=some o
 keep: ∀b o,hf b=some o→h.get? b=some o
 len:ρ.length=σ.length
 cells: ∀(i:Nat) k p,σ[i]?=some k→ρ[i]?=some p→Gh c hf (ρ.take i) h p k
 apart: ∀(i j:Nat) k k' p p',σ[i]?=some k→σ[j]?=some k'→I1 k=true→I1 k'=true→ρ[i]?=some p→ρ[j]?=some p'→p.2=p'.2→i=j
 here: ∀(i:Nat) p,ρ[i]?=some p→ ∃o,h.get? p.2=some o
structure St(c:Cx) where
 hf:HF
 ρ:RH
 σ:Store
 s:Bl
 R:F5 c hf ρ σ s.heap
structure Ol(hf:HF)(ρ:RH)(h:Bz)(Fh:HF)(G9:RH)(h':Bz):Prop where
 kf: ∀b o,hf b=some o→Fh b=some o
 JX: ∀(i:Nat) p,ρ[i]?=some p→G9[i]?=some p
 Ee: ∀b o,h.get? b=some o→(∀p∈ρ,p.2≠b)→h'.get? b=some o
 FA: ∀b o,Fh b=some o→hf b=some o∨(∃p∈ρ,p.2=b)∨h.get? b=none
 EE: ∀p∈G9,(∃q∈ρ,q.2=p.2)∨h.get? p.2=none
structure GB(s s':Bl):Prop where
 gens:s'.gens=s.gens
 drawn:s'.drawn=s.drawn
 os:s'.os=s.os
structure Le{c:Cx}(x y:St c):Prop where
 nx:Ol x.hf x.ρ x.s.heap y.hf y.ρ y.s.heap
 sm:GB x.s y.s
theorem GB.refl(s:Bl):GB s s:=⟨rfl,rfl,rfl⟩
theorem GB.trans{a b c:Bl}(x:GB a b)(y:GB b c):GB a c:=⟨y.1.trans x.1,y.2.trans x.2,y.3.trans x.3⟩
theorem Ol.refl{hf:HF}{ρ:RH}{h:Bz}:Ol hf ρ h hf ρ h:=⟨λO O e=>e,λO O e=>e,λO O e O=>e,λO O e=> .inl e,λp e=> .inl (DM p e rfl)⟩
theorem Ol.back{hf Fh:HF}{ρ G9:RH}{h h':Bz}(x:Ol hf ρ h Fh G9 h'){b:Br}(e:h'.get? b=none):(∃p∈ρ,p.2=b)∨h.get? b=none:=by
 by_cases q: ∃p∈ρ,p.2=b
 ·exact .inl q
 ·cases z:h.get? b with
  |none=>exact .inr rfl
  |some o=>exact DC (e.symm.trans (x.Ee b o z λp hp y=>q (DM p hp y)))
theorem Ol.trans{hf Fh YO:HF}{ρ G9 N':RH}{h h' nO:Bz}(x:Ol hf ρ h Fh G9 h')(y:Ol Fh G9 h' YO N' nO):Ol hf ρ h YO N' nO:=by
 refine ⟨λb o e=>y.kf b o (x.kf b o e),λi p e=>y.JX i p (x.JX i p e),λb o e n=>y.Ee b o (x.Ee b o e n) λp hp q=> ?_,λb o e=> ?_,λp hp=> ?_⟩
 ·rcases x.EE p hp with ⟨r,hr,z⟩|z
  ·exact n r hr (z.trans q)
  ·exact DC (z.symm.trans (q▸e))
 ·rcases y.FA b o e with z|⟨p,hp,z⟩|z
  ·exact x.FA b o z
  ·rcases x.EE p hp with ⟨q,hq,e⟩|q
   ·exact .inr (.inl (DM q hq (e.trans z)))
   ·exact .inr (.inr (z▸q))
  ·exact .inr (x.back z)
 ·rcases y.EE p hp with ⟨r,hr,z⟩|z
  ·exact z▸x.EE r hr
  ·exact x.back z
theorem F9(hf:HF)(ρ:RH){h h':Bz}(k: ∀b o,h.get? b=some o→h'.get? b=some o):Ol hf ρ h hf ρ h':=⟨λO O x=>x,λO O x=>x,λb o e O=>k _ _ e,λO O e=> .inl e,λp hp=> .inl (DM p hp rfl)⟩
theorem Le.refl{c:Cx}(x:St c):Le x x:=⟨.refl, .refl _⟩
theorem Le.trans{c:Cx}{x y z:St c}(a:Le x y)(b:Le y z):Le x z:=⟨a.1.trans b.1,a.2.trans b.2⟩
end
section
mutual open A
variable{c:Cx}{hf Fh:HF}{ρ G9:RH}{x y:St c}
theorem EB.mono(hh: ∀b o,hf b=some o→Fh b=some o){k:Nat}{o:Obj}{ks:List DO}{vs:List Bj}(h:EB c hf o k ks vs):EB c Fh o k ks vs:=by
 cases h with
 |np a b d e=>exact .np a b d e
 |pr a b d e f g=>exact .pr a b (λx hx=>S5 (d x hx) λn t u e=>(MT n t u (hh _ _ e))) e f g
theorem Xj.mono(hh: ∀b o,hf b=some o→Fh b=some o){p:Br×Br}{o:Obj}{hd:Hd}{vs:List Bj}(h:Xj c hf p o hd vs):Xj c Fh p o hd vs:=by
 cases hd with
 |tup=>exact h
 |lst=>exact h
 |Dg=>exact ⟨h.s1,h.s2,h.s3.mono hh⟩
 |inst=>exact ⟨hh _ _ h.1,h.2⟩
theorem DV.mono(hh: ∀b o,hf b=some o→Fh b=some o){v:Bj}{x:D}(h:DV c hf v x):DV c Fh v x:=
 DV.rec (motive_1:=λv x O=>DV c Fh v x) (motive_2:=λvs l O=>DS (DV c Fh) vs l) .none .bool .int .sym .str (λa b O d=> .nd (hh _ _ a) (b.mono hh) d) .nil (λO O a b=> .cons a b) h
theorem VV.mono(hh: ∀b o,hf b=some o→Fh b=some o)(hr: ∀(i:Nat) p,ρ[i]?=some p→G9[i]?=some p){v:Bj}{x:V}(h:VV c hf ρ v x):VV c Fh G9 v x:=by
 cases x with
 |d x=>exact DV.mono hh h
 |cell i=>exact DQ h λp a b=>(DM p (hr i p a) b)
abbrev KY(c:Cx)(hf:HF):=DS (DV c hf)
abbrev GC(c:Cx)(hf:HF)(ρ:RH):=DS (VV c hf ρ)
theorem DS.PF(hh: ∀b o,hf b=some o→Fh b=some o){vs:List Bj}{l:List D}(h:KY c hf vs l):KY c Fh vs l:=h.imp λO O=>DV.mono hh
theorem DS.MR(hh: ∀b o,hf b=some o→Fh b=some o)(hr: ∀(i:Nat) p,ρ[i]?=some p→G9[i]?=some p){vs:List Bj}{l:List V}(h:GC c hf ρ vs l):GC c Fh G9 vs l:=h.imp λO O=>VV.mono hh hr
theorem KY.sY{vs:List Bj}{l:List D}(h:KY c hf vs l):GC c hf ρ vs (l.map V.d):=h.mapR V.d λO O a=>a
theorem GC.xV{vs:List Bj}{l:List D}(h:GC c hf ρ vs (l.map V.d)):KY c hf vs l:=h.ofMap V.d λO O a=>a
abbrev St.VV(x:St c):Bj→V→Prop:=Mine.Internal.VV c x.hf x.ρ
abbrev St.GC(x:St c):List Bj→List V→Prop:=DS (Mine.Internal.VV c x.hf x.ρ)
theorem VV.le{v:Bj}{a:V}(h:x.VV v a)(l:Le x y):y.VV v a:=VV.mono l.nx.kf l.nx.JX h
theorem GC.le{v:List Bj}{a:List V}(h:x.GC v a)(l:Le x y):y.GC v a:=h.MR l.nx.kf l.nx.JX
def Ok(x:St c)(DT:Store)(r:V)(Q:Bj→Bl→Prop):Prop:= ∀val (y:St c),Le x y→y.σ=DT→y.VV val r→Q val y.s
def Did(x:St c)(DT:Store)(Q:Bl→Prop):Prop:= ∀y:St c,Le x y→y.σ=DT→Q y.s
theorem Sy{ρ:RH}{n i:Nat}{p:Br×Br}(e:(ρ.take n)[i]?=some p):ρ[i]?=some p:=by
 rw [Ab] at e
 by_cases h:i<n
 ·rw [if_pos h] at e;exact e
 ·rw [if_neg h] at e;exact DC e
theorem gF{n i:Nat}{p:Br×Br}(e:(ρ.take n)[i]?=some p):i<n:=by
 rw [Ab] at e
 by_cases h:i<n
 ·exact h
 ·rw [if_neg h] at e;exact DC e
theorem VV.up{n:Nat}{v:Bj}{a:V}(h:Mine.Internal.VV c hf (ρ.take n) v a):Mine.Internal.VV c hf ρ v a:=h.mono (λO O e=>e) λO O=>Sy
theorem DS.up{n:Nat}{v:List Bj}{a:List V}(h:Mine.Internal.GC c hf (ρ.take n) v a):Mine.Internal.GC c hf ρ v a:=h.imp λO O=>VV.up
end
end
end
section
section
mutual open A
variable{c:Cx}{hf Fh:HF}{ρ G9:RH}{σ:Store}{h h':Bz}{x y:St c}
def Vn(hf:HF)(a:Br)(o:Obj):HF:=λb=>if b=a then some o else hf b
theorem GK(hf:HF)(a:Br)(o:Obj):Vn hf a o a=some o:=if_pos rfl
theorem Nf(hf:HF){a b:Br}(o:Obj)(n:b≠a):Vn hf a o b=hf b:=if_neg n
theorem Hn{a:Br}{o:Obj}(n:hf a=none): ∀b o',hf b=some o'→Vn hf a o b=some o':=λb o' e=>
 (Nf hf o λq=>DC (n.symm.trans (q▸e))).trans e
theorem JT{a b:Br}{o o':Obj}{P:Prop}(e:Vn hf a o b=some o')(h1:b=a→o=o'→P)(h2:b≠a→hf b=some o'→P):P:=by
 by_cases q:b=a
 ·exact h1 q (η ((GK hf a o).symm.trans (q▸e)))
 ·exact h2 q ((Nf hf o q).symm.trans e)
theorem Gh.mono{p:Br×Br}(kf: ∀b o,hf b=some o→Fh b=some o)(kr: ∀(i:Nat) q,ρ[i]?=some q→G9[i]?=some q){k:Dh}
  (l:I1 k=true→Fh p.2=none∧ ∀o,h.get? p.2=some o→h'.get? p.2=some o) (a:Gh c hf ρ h p k):Gh c Fh G9 h' p k:=by
 cases k with
 |lv hd l'=>exact Ke a λO o vs b d e=>(FJ ((l rfl).1) o vs ((l rfl).2 _ b) (d.mono kf) (e.MR kf kr))
 |fz=>exact DV.mono kf a
theorem Gh.GI{p:Br×Br}{k:Dh}(l:I1 k=true)(a:Gh c hf ρ h p k):hf p.2=none:=by
 cases k with
 |lv=>exact a.1
 |fz=>exact ζ l
theorem Gh.Id{p:Br×Br}{k:Dh}(l:I1 k=true)(a:Gh c hf ρ h p k): ∃o,h.get? p.2=some o:=by
 cases k with
 |lv=>exact lW a λO o O e O=>(EF o e)
 |fz=>exact ζ l
theorem FK{α:Type}{l:List α}{i:Nat}{a:α}(e:l[i]?=some a):i<l.length:=(AR.mp e).1
theorem Dc(h:Bz):h.get? h.objs.size=none:=by
 cases z:h.get? h.objs.size with
 |none=>rfl
 |some o=>exact absurd (Ad z) (Nat.lt_irrefl _)
theorem IH(k: ∀b o,h.get? b=some o→h'.get? b=some o){a:Br}(ha:h'.get? a=none):h.get? a=none:=by
 cases q:h.get? a with
 |none=>rfl
 |some o=>exact DC (ha.symm.trans (k _ _ q))
theorem F5.fresh(R:F5 c hf ρ σ h){I:Br}(hI:h.get? I=none):hf I=none∧ ∀p∈ρ,p.2≠I:=by
 refine ⟨?_,λp hp z=> ?_⟩
 ·cases q:hf I with
  |none=>rfl
  |some o=>exact DC (hI.symm.trans (R.keep _ _ q))
 ·refine D3 (BS.mp hp) λi hi=> ?_
  refine D3 (R.here i p hi) λo ho=> ?_;exact DC (hI.symm.trans (z▸ho))
theorem F5.Ef(R:F5 c hf ρ σ h)(k: ∀b o,h.get? b=some o→(hf b=some o∨ ∃p∈ρ,p.2=b)→h'.get? b=some o):F5 c hf ρ σ h':=
 ⟨R.base,λb o e=>k b o (R.keep b o e) (.inl e),R.len,λi z p e q=>(R.cells i z p e q).mono (λO O x=>x) (λO O x=>x) λl=>⟨(R.cells i z p e q).GI l,λo x=>k _ o x (.inr (DM p (AC q) rfl))⟩,R.apart,λi p e=>D3 (R.here i p e) λo ho=>(EF o (k _ o ho (.inr (DM p (AC e) rfl))))⟩
theorem F5.freeze(R:F5 c hf ρ σ h){DT:Store}{a:Br}{o:Obj}(ha:hf a=none)(k: ∀b o,h.get? b=some o→h'.get? b=some o)(ho:h'.get? a=some o)(l:DT.length=σ.length)
  (old: ∀(i:Nat) z p,DT[i]?=some z→ρ[i]?=some p→(σ[i]?=some z∧(I1 z=true→p.2≠a))∨(I1 z=false∧Gh c (Vn hf a o) (ρ.take i) h' p z)):F5 c (Vn hf a o) ρ DT h':=by
 have le:=Hn (o:=o) ha;refine ⟨λb o' e=>le b o' (R.base b o' e),λb o' e=>JT e (λq z=>q▸z▸ho) λO z=>k _ _ (R.keep _ _ z),R.len.trans l.symm,λi z p e q=> ?_,λi j z z' p p' e e' l1 l2 q q' w=> ?_,λi p e=>D3 (R.here i p e) λo' ho=>(EF o' (k _ _ ho))⟩
 ·rcases old i z p e q with ⟨e1,e2⟩|⟨_,e1⟩
  ·exact (R.cells i z p e1 q).mono le (λO O x=>x) λl=>⟨(Nf hf o (e2 l)).trans ((R.cells i z p e1 q).GI l),λo' x=>k _ _ x⟩
  ·exact e1
 ·rcases old i z p e q with ⟨e1,_⟩|⟨e1,_⟩
  ·rcases old j z' p' e' q' with ⟨e2,_⟩|⟨e2,_⟩
   ·exact R.apart i j z z' p p' e1 e2 l1 l2 q q' w
   ·exact ζ (e2.symm.trans l2)
  ·exact ζ (e1.symm.trans l1)
theorem F5.new(R:F5 c hf ρ σ h)(k: ∀b o,h.get? b=some o→h'.get? b=some o){a:Br}{o:Obj}(ha:h.get? a=none)(ho:h'.get? a=some o):F5 c (Vn hf a o) ρ σ h':=
 R.freeze (R.fresh ha).1 k ho rfl λi z p e q=> .inl ⟨e,λO=>(R.fresh ha).2 p (AC q)⟩
theorem W4(R:F5 c hf ρ σ h)(k: ∀b o,h.get? b=some o→h'.get? b=some o){a:Br}{o:Obj}(ha:h.get? a=none):Ol hf ρ h (Vn hf a o) ρ h':=
 ⟨Hn (R.fresh ha).1,λO O x=>x,λb o' e O=>k _ _ e,λb o' e=>JT e (λq O=> .inr (.inr (q▸ha))) λO z=> .inl z,λp hp=> .inl (DM p hp rfl)⟩
theorem E5{α:Type}{l:List α}{a b:α}{i:Nat}{P:Prop}(e:(l++ [a])[i]?=some b)(h1:l[i]?=some b→P)(h2:i=l.length→a=b→P):P:=by
 by_cases q:i<l.length
 ·exact h1 (by rw [Ο q] at e;exact e)
 ·have lt:=FK e
  rw [ε,List.length_singleton] at lt;have z:i=l.length:=Aq (Nat.le_of_lt_succ lt) (At q);refine h2 z ?_;rw [AG (At q),z,Ai] at e;exact η e
theorem F5.cell(R:F5 c hf ρ σ h){p:Br×Br}{k:Dh}(hc:Gh c hf ρ h p k)(hl:I1 k=true)(new: ∀q∈ρ,q.2≠p.2):F5 c hf (ρ++ [p]) (σ++ [k]) h:=by
 refine ⟨R.base,R.keep,by exact C9 ε<|C9 ε<|C9 R.len rfl,λi z q e1 e2=> ?_,λi j z z' q q' e1 e2 l1 l2 f1 f2 w=> ?_,λi q e=>E5 e (R.here i q) λO w=>w▸hc.Id hl⟩
 ·refine E5 e1 (λe1=> ?_) λw1 w2=> ?_
  ·have lt:i<ρ.length:=R.len▸FK e1
   rw [Ο lt] at e2;refine C9 (Ah (AY lt)) ?_;exact R.cells i z q e1 e2
  ·subst w1 w2
   rw [←R.len,AG (Ι _),Ai] at e2;refine Dr R.len<|C9 (Ah (Ι _))<|C9 AS<|Dr (η e2) ?_
   exact hc
 ·refine E5 f1 (λf1=> ?_) λw1 w2=> ?_
  ·refine E5 f2 (λf2=> ?_) λw3 w4=>absurd (w.trans (w4▸rfl)) (new q (AC f1))
   rw [Ο (R.len▸FK f1)] at e1;rw [Ο (R.len▸FK f2)] at e2;exact R.apart i j z z' q q' e1 e2 l1 l2 f1 f2 w
  ·refine E5 f2 (λf2=>absurd (w.symm.trans (w2▸rfl)) (new q' (AC f2))) λw3 O=>w1.trans w3.symm
theorem NU{α:Type}{l:List α}{a b:α}{i j:Nat}{P:Prop}(e:(l.set i a)[j]?=some b)(h1:j≠i→l[j]?=some b→P)(h2:j=i→a=b→P):P:=by
 by_cases q:j=i
 ·subst q
  have lt:=FK e;rw [Φ] at lt;rw [BQ lt] at e;exact h2 rfl (η e)
 ·exact h1 q (by rw [Ao (Ne.symm q)] at e;exact e)
theorem F5.turn(R:F5 c hf ρ σ h){i:Nat}{k k':Dh}{p:Br×Br}(e:σ[i]?=some k)(hl:I1 k=true)(q:ρ[i]?=some p)(hs: ∀b o,b≠p.2→(hf b=some o∨ ∃q∈ρ,q.2=b)→h.get? b=some o→h'.get? b=some o)
  (zF:I1 k'=true) (hc:Gh c hf (ρ.take i) h' p k'):F5 c hf ρ (σ.set i k') h':=by
 have hn:hf p.2=none:=(R.cells i k p e q).GI hl;have back: ∀(j:Nat) z,(σ.set i k')[j]?=some z→I1 z=true→ ∃uH,σ[j]?=some uH∧I1 uH=true:=λj z e1 l1=>NU e1 (λO e1=>(DM z e1 l1)) λw O=>w▸(DM k e hl);refine ⟨R.base,λb o x=>hs b o (λz=>DC (hn.symm.trans (z▸x))) (.inl x) (R.keep b o x),R.len.trans (Φ ..).symm,λj z p' e1 q1=> ?_,λj j' z z' p1 p2 e1 e2 l1 l2 q1 q2 w=> ?_,λj p1 e1=> ?_⟩
 ·refine NU e1 (λne e1=> ?_) λw1 w2=> ?_
  ·exact (R.cells j z p' e1 q1).mono (λO O x=>x) (λO O x=>x) λl=>⟨(R.cells j z p' e1 q1).GI l,λo x=>hs _ o (λw=>ne (R.apart j i z k p' p e1 e l hl q1 q w)) (.inr (DM p' (AC q1) rfl)) x⟩
  ·subst w1 w2
   exact C9 (η (q1.symm.trans q)) hc
 ·refine DQ (back j z e1 l1) λd1 f1 g1=> ?_
  refine DQ (back j' z' e2 l2) λd2 f2 g2=> ?_;exact R.apart j j' d1 d2 p1 p2 f1 f2 g1 g2 q1 q2 w
 ·by_cases z:p1.2=p.2
  ·exact z▸hc.Id zF
  ·exact D3 (R.here j p1 e1) λo ho=>(EF o (hs _ _ z (.inr (DM p1 (AC e1) rfl)) ho))
theorem b9{i:Nat}{p:Br×Br}(q:ρ[i]?=some p)(hs:Bz.SameBut p.2 h h'):Ol hf ρ h hf ρ h':=
 ⟨λO O x=>x,λO O x=>x,λb o e n=>(hs.2 b λz=>n p (AC q) z.symm).trans e,λO O e=> .inl e,λp hp=> .inl (DM p hp rfl)⟩
theorem F5.trunc(R:F5 c hf ρ σ h)(n:Nat):F5 c hf (ρ.take n) (σ.take n) h:=by
 have gt: ∀{α:Type} {l:List α} {i:Nat} {x:α},(l.take n)[i]?=some x→i<n∧l[i]?=some x:=λ{α l i x} e=>by
  rw [Ab] at e
  by_cases h:i<n
  ·rw [if_pos h] at e;exact ⟨h,e⟩
  ·rw [if_neg h] at e;exact DC e
 refine ⟨R.base,R.keep,by (exact C9 List.length_take<|C9 List.length_take<|C9 R.len rfl),λi k p e q=> ?_,λi j k k' p p' e e' l l' q q' z=>R.apart i j k k' p p' (gt e).2 (gt e').2 l l' (gt q).2 (gt q').2 z,λi p e=>R.here i p (gt e).2⟩;refine C9 List.take_take<|C9 (Nat.min_eq_left (AY (gt e).1)) ?_
 exact R.cells i k p (gt e).2 (gt q).2
theorem VV.down{n:Nat}{v:Bj}{a:V}(h:VV c hf ρ v a)(e:FP n a=false):VV c hf (ρ.take n) v a:=by
 cases a with
 |d=>exact h
 |cell i=>exact DQ h λp a b=>(DM p (by exact C9 (Ab)<|C9 (if_pos (BV λz=>ζ ((ο z).symm.trans e))) a) b)
theorem Ok.here{v:Bj}{r:V}{Q:Bj→Bl→Prop}(k:Ok x x.σ r Q)(hv:x.VV v r)(t:Nat):Q v {x.s with toks:=t}:=k v ⟨x.hf,x.ρ,x.σ,{x.s with toks:=t},x.R⟩ ⟨.refl,rfl,rfl,rfl⟩ rfl hv
theorem Ok.Mg{v:Bj}{r:V}{Q:Bj→Bl→Prop}(k:Ok x x.σ r Q)(hv:x.VV v r):Q v x.s:=k v x (.refl x) rfl hv
theorem Ok.keeps{v:Bj}{r:V}{Q:Bj→Bl→Prop}(k:Ok x x.σ r Q){h':Bz}(kp: ∀b o,x.s.heap.get? b=some o→h'.get? b=some o)(hv:x.VV v r)(t:Nat):Q v {x.s with heap:=h',toks:=t}:=
 k v ⟨x.hf,x.ρ,x.σ,{x.s with heap:=h',toks:=t},x.R.Ef λb o e O=>kp b o e⟩ ⟨F9 _ _ kp,rfl,rfl,rfl⟩ rfl hv
theorem Ok.new{r:D}{Q:Bj→Bl→Prop}(k:Ok x x.σ (.d r) Q){h':Bz}(kp: ∀b o,x.s.heap.get? b=some o→h'.get? b=some o){a:Br}{o:Obj}(ha:x.s.heap.get? a=none)(ho:h'.get? a=some o){v:Bj}(hv:DV c (Vn x.hf a o) v r)(t:Nat):Q v {x.s with heap:=h',toks:=t}:=
 k v ⟨_,x.ρ,x.σ,{x.s with heap:=h',toks:=t},x.R.new kp ha ho⟩ ⟨W4 x.R kp ha,rfl,rfl,rfl⟩ rfl hv
theorem Ok.after{DT:Store}{r:V}{Q:Bj→Bl→Prop}(k:Ok x DT r Q)(l:Le x y):Ok y DT r Q:=λval z m e hv=>k val z (l.trans m) e hv
theorem Did.after{DT:Store}{Q:Bl→Prop}(k:Did x DT Q)(l:Le x y):Did y DT Q:=λz m e=>k z (l.trans m) e
theorem Did.turn{DT:Store}{Q:Bl→Prop}{i:Nat}{k k':Dh}{p:Br×Br}(d:Did x DT Q)(es:x.σ.set i k'=DT)(e:x.σ[i]?=some k)(hl:I1 k=true)(q:x.ρ[i]?=some p){h':Bz}(hs:Bz.SameBut p.2 x.s.heap h')(zF:I1 k'=true)(hc:Gh c x.hf (x.ρ.take i) h' p k')(t:Nat):Q {x.s with heap:=h',toks:=t}:=
 d ⟨x.hf,x.ρ,x.σ.set i k',{x.s with heap:=h',toks:=t},x.R.turn e hl q (λb o n O e=>(hs.2 b n).trans e) zF hc⟩ ⟨b9 q hs,rfl,rfl,rfl⟩ es
inductive lK(c:Cx)(hf:HF)(v:Bj)(h:Hd)(l:List D):Prop
 |mk (p:Br×Br) (o:Obj) (vs:List Bj) (w:v= .ref p.1) (g:hf p.2=some o) (sh:Xj c hf p o h vs) (hv:KY c hf vs l)
theorem DV.shape{v:Bj}{h:Hd}{l:List D}(a:DV c hf v (.nd h l)):lK c hf v h l:=by
 cases a with
 |nd a b d=>exact ⟨_,_,_,rfl,a,b,d⟩
inductive Z8(x:St c)(v:Bj)(h:Hd)(l:List V):Prop
 |mk (p:Br×Br) (o:Obj) (vs:List Bj) (w:v= .ref p.1) (g:x.s.heap.get? p.2=some o) (sh:Xj c x.hf p o h vs) (hv:x.GC vs l)
theorem Gk{v:Bj}{a:V}{q:Hd×List V}(hv:x.VV v a)(e:G4 x.σ a=some q):Z8 x v q.1 q.2:=by
 have fz: ∀{d:D} {v:Bj},DV c x.hf v d→dX d=some q→Z8 x v q.1 q.2:=by
  intro d v hv e;cases d with
  |nd h l=>
   obtain ⟨p,o,vs,a,b,d,f⟩:=hv.shape;refine De e ⟨p,o,vs,a,x.R.keep _ _ b,d,f.sY⟩
  |_=>exact DC e
 cases a with
 |d d=>exact fz hv e
 |cell i=>
  refine DQ hv λp hp w=> ?_;clear hv;subst w;refine DA e λk hk e=> ?_;have ca:=x.R.cells i k p hk hp;cases k with
  |lv h l=>exact De e (Ke ca λO o vs a b d=>⟨p,o,vs,rfl,a,b,d.up⟩)
  |fz d=>exact fz ca e
theorem XL{h:Hd}(e:MQ h=true):h= .tup:=by cases h<;>first|rfl|exact ζ e
theorem ah{h:Hd}(e:PY h=true):h= .lst:=by cases h<;>first|rfl|exact ζ e
theorem Nj{h:Hd}{r:Nat×List DO}(e:Wr h=some r):h= .Dg r.1 r.2:=by
 cases h with
 |Dg=>exact De e rfl
 |_=>exact DC e
theorem MS{h:Hd}{r:Nat}(e:OI h=some r):h= .inst r:=by
 cases h with
 |inst=>exact De e rfl
 |_=>exact DC e
inductive T8(x:St c)(f:List Bj→Nat→Obj)(v:Bj)(l:List V):Prop
 |mk (q:Br) (vs:List Bj) (n:Nat) (w:v= .ref q) (g:x.s.heap.get? q=some (f vs n)) (hb:vs.length≤big) (hv:x.GC vs l)
theorem UL{v:Bj}{a:V}{l:List V}(hv:x.VV v a)(e:JE x.σ a=some l):T8 x E3 v l:=by
 refine DA e λr h1 e=>DY e λh2 e=> ?_;obtain ⟨p,o,vs,a,b,d,f⟩:=Gk hv h1;rw [ah h2] at d;obtain ⟨d1,d2,n,d3⟩:=d;exact De e ⟨p.1,vs,n,a,d1▸d3▸b,d2,f⟩
theorem m7{v:Bj}{a:V}{l:List V}(hv:x.VV v a)(e:Sr x.σ a=some l):T8 x GW v l:=by
 refine DA e λr h1 e=>DY e λh2 e=> ?_;obtain ⟨p,o,vs,a,b,d,f⟩:=Gk hv h1;rw [XL h2] at d;obtain ⟨d1,d2,n,d3⟩:=d;exact De e ⟨p.1,vs,n,a,d1▸d3▸b,d2,f⟩
inductive cF(x:St c)(v:Bj)(k:Nat)(ks:List DO)(l:List V):Prop
 |mk (q:Br) (o:Obj) (vs:List Bj) (w:v= .ref q) (g:x.s.heap.get? q=some o) (z:(q==By)=false) (ho:EB c x.hf o k ks vs) (hv:x.GC vs l)
theorem K1{v:Bj}{a:V}{r:Nat×List DO×List V}(hv:x.VV v a)(e:GF x.σ a=some r):cF x v r.1 r.2.1 r.2.2:=by
 refine DA e λr h1 e=>DA e λk h2 e=> ?_;obtain ⟨p,o,vs,a,b,d,f⟩:=Gk hv h1;rw [Nj h2] at d;obtain ⟨d1,d2,d3⟩:=d;exact De e ⟨p.1,o,vs,a,d1▸b,d1▸d2,d3,f⟩
inductive mU(x:St c)(v:Bj)(cl:Nat)(l:List V):Prop
 |mk (q d:Br) (o:Obj) (vs:List Bj) (w:v= .ref q) (g1:x.s.heap.get? q=some (CB (c.CL cl) d)) (g2:x.s.heap.get? d=some o) (ho:Ix o (DX cl) vs) (hv:x.GC vs l)
theorem WG{v:Bj}{a:V}{r:Nat×List V}(hv:x.VV v a)(e:Ey x.σ a=some r):mU x v r.1 r.2:=by
 refine DA e λr h1 e=>DA e λk h2 e=> ?_;obtain ⟨p,o,vs,a,b,d,f⟩:=Gk hv h1;rw [MS h2] at d;exact De e ⟨p.1,p.2,o,vs,a,x.R.keep _ _ d.1,b,d.2,f⟩
inductive lL(x:St c)(v:Bj)(i:Nat)(h:Hd)(l:List V):Prop
 |mk (p:Br×Br) (o:Obj) (vs:List Bj) (w:v= .ref p.1) (hp:x.ρ[i]?=some p) (hk:x.σ[i]?=some (.lv h l)) (g:x.s.heap.get? p.2=some o) (sh:Xj c x.hf p o h vs) (hv:DS (VV c x.hf (x.ρ.take i)) vs l) (hn:x.hf p.2=none)
theorem NL{v:Bj}{a:V}{r:Nat×Hd×List V}(hv:x.VV v a)(e:cellOf x.σ a=some r):lL x v r.1 r.2.1 r.2.2:=by
 cases a with
 |d=>exact DC e
 |cell i=>
  refine DQ hv λp hp w=> ?_;clear hv;refine DA e λk hk e=>DA e λq hq e=> ?_;have ca:=x.R.cells i k p hk hp;cases k with
  |fz=>exact DC hq
  |lv h l=>
   refine Ke ca λb1 o vs b2 b3 b4=> ?_;clear ca;exact De e (De hq ⟨p,o,vs,w,hp,hk,b2,b3,b4,b1⟩)
end
end
section
mutual open A
variable{c:Cx}
def j1(c:Cx)(f:V→Store→Option (D×Store)):Prop:= ∀v σ d DT,f v σ=some (d,DT)→ ∀n hf ρ h val,F5 c hf ρ σ h→VV c hf (ρ.take n) val v→
 ∃Fh,F5 c Fh ρ DT h∧Ol hf ρ h Fh ρ h∧DV c Fh val d∧ ∀j:Nat,n≤j→DT[j]?=σ[j]?
theorem Vt{f:V→Store→Option (D×Store)}(F:j1 c f)(l:List V): ∀σ ds DT,HN f l σ=some (ds,DT)→ ∀n hf ρ h vs,F5 c hf ρ σ h→DS (VV c hf (ρ.take n)) vs l→
  ∃Fh,F5 c Fh ρ DT h∧Ol hf ρ h Fh ρ h∧KY c Fh vs ds∧ ∀j:Nat,n≤j→DT[j]?=σ[j]?:=by
 induction l with
 |nil=>
  intro σ ds DT e n hf ρ h vs R a;refine NC (show some (_,_)=some (ds,DT) from e) ?_;cases a;exact (J8 hf R .refl .nil (λO O=>rfl))
 |cons v l ih=>
  intro σ ds DT e n hf ρ h vs R a;refine DP e λy DD KT e=>DP e λys DK Tx e=> ?_;cases a with
  |cons a b=>
   refine KX (F v σ y DD KT n hf ρ h _ R a) λG3 Mq n₁ yE k₁=> ?_;refine KX (ih DD ys DK Tx n G3 ρ h _ Mq (b.MR n₁.kf λO O z=>z)) λLW KJ bU oz k₂=> ?_;refine NC (show some (_,_)=some (ds,DT) from e) ?_;exact (J8 LW KJ (n₁.trans bU) (.cons (yE.mono bU.kf) oz) (λj hj=>(k₂ j hj).trans (k₁ j hj)))
theorem Zp(k:Nat):j1 c (Ht k):=by
 induction k with
 |zero=>
  intro v σ d DT e n hf ρ h val R a;cases v with
  |d y=>refine NC (show some (_,_)=some (d,DT) from e) ?_;exact (J8 hf R .refl a (λO O=>rfl))
  |cell i=>exact DC e
 |succ k ih=>
  intro v σ d DT e n hf ρ h val R a;cases v with
  |d y=>refine NC (show some (_,_)=some (d,DT) from e) ?_;exact (J8 hf R .refl a (λO O=>rfl))
  |cell i=>
   refine DQ a λp hp w=> ?_;clear a;subst w;refine DA e λk' hk e=> ?_;have WD:=gF hp;have hp:=Sy hp;have ca:=R.cells i k' p hk hp;cases k' with
   |fz y=>refine NC (show some (_,_)=some (d,DT) from e) ?_;exact (J8 hf R .refl ca (λO O=>rfl))
   |lv hd l=>
    refine DP e λds DK Tx e=> ?_;refine Ke ca λhn o vs ho hs hv=> ?_;clear ca;refine KX (Vt ih l σ ds DK Tx i hf ρ h vs R hv) λLW KJ bU oz k₂=> ?_;have jl:=(k₂ i (Ι _)).trans hk;have RY:=(KJ.cells i _ p jl hp).GI rfl;have le:=Hn (o:=o) RY;have dd:DV c (Vn LW p.2 o) (.ref p.1) (.nd hd ds):= .nd (GK _ _ _) ((hs.mono bU.kf).mono le) (oz.PF le);refine NC (show some (_,_)=some (d,DT) from e) ?_;refine (J8 _ (KJ.freeze RY (λO O e=>e) ho (Φ ..) λj z q e1 e2=>NU e1 (λne e1=> .inl ⟨e1,λl w=>ne (KJ.apart j i z _ q p e1 jl l rfl e2 hp w)⟩) λw1 w2=> .inr ?_) (bU.trans ⟨le,λO O e=>e,λO O e O=>e,λb o' e=>JT e (λw O=> .inr (.inl (DM p (AC hp) w.symm))) λO e=> .inl e,λp hp=> .inl (DM p hp rfl)⟩) dd (λj hj=> ?_))
    ·subst w1 w2
     exact C9 (η (e2.symm.trans hp))<|⟨rfl,dd⟩
    ·refine C9 (Ao (AW (AQ WD hj))) ?_
     exact k₂ j (AY (AQ WD hj))
theorem II{x:St c}{k:Nat}{v:V}{DT:Store}{d:D}(e:Ht k v x.σ=some (d,DT)){val:Bj}(a:x.VV val v){P:Prop}(go: ∀Fh (R:F5 c Fh x.ρ DT x.s.heap),Le x ⟨Fh,x.ρ,DT,x.s,R⟩→DV c Fh val d→P):P:=
 KX (Zp k v x.σ d DT e x.ρ.length x.hf x.ρ x.s.heap val x.R (by exact C9 AS a)) λFh a1 a2 a3 O=>
 go Fh a1 ⟨a2, .refl _⟩ a3
theorem Ys{x:St c}{k:Nat}{v:List V}{DT:Store}{d:List D}(e:HN (Ht k) v x.σ=some (d,DT)){val:List Bj}(a:x.GC val v){P:Prop}(go: ∀Fh (R:F5 c Fh x.ρ DT x.s.heap),Le x ⟨Fh,x.ρ,DT,x.s,R⟩→KY c Fh val d→P):P:=
 KX (Vt (Zp k) v x.σ d DT e x.ρ.length x.hf x.ρ x.s.heap val x.R (by exact C9 AS a)) λFh a1 a2 a3 O=>
 go Fh a1 ⟨a2, .refl _⟩ a3
end
end
end
section
mutual open A
theorem nb{a b:Nat}:μ a b=true→a=b:=AO
theorem nbf{a b:Nat}(h:μ a b=false):a≠b:=Nat.ne_of_beq_eq_false h
theorem jM{a b:Nat}(h:a≠b):μ a b=false:=by
 cases q:μ a b with
 |false=>rfl
 |true=>exact absurd (nb q) h
theorem X9{a:List Nat}: ∀{b:List Nat},Nl a b=true→a=b:=by
 induction a with
 |nil=>intro b h;cases b with
  |nil=>rfl
  |cons=>exact ζ h
 |cons x a ih=>intro b h;cases b with
  |nil=>exact ζ h
  |cons y b=>exact Dl (band h) λh1 h2=>nb h1▸ih h2▸rfl
theorem JM(a:List Nat):Nl a a=true:=by
 induction a with
 |nil=>rfl
 |cons x a ih=>show (μ x x&&Nl a a)=true;exact C9 ih<|C9 (AH _) rfl
theorem EH{a b:Str}(h:EQ a b=true):a=b:=by
 have:=X9 h
 cases a;cases b;exact congrArg Str.mk (Array.toList_inj.mp this)
theorem N8(a:Str):EQ a a=true:=JM _
theorem EP{a b:Int}(h:Dj a b=true):a=b:=by
 cases a<;>cases b<;>first|exact ζ h|exact congrArg _ (nb h)
theorem Gg(a:Int):Dj a a=true:=by cases a<;>exact AH _
theorem Wp(a b:Int):(a==b)=Dj a b:=by
 cases h:Dj a b with
 |true=>exact C9 (EP h)<|beq_self_eq_true _
 |false=>exact beq_eq_false_iff_ne.mpr λe=>by subst e;exact ζ (h.symm.trans (Gg a))
theorem rQ{a b:DO}(h:DO.beq a b=true):a=b:=by
 cases a with
 |i=>cases b<;>first|exact ζ h|exact congrArg DO.i (EP h)
 |s=>cases b<;>first|exact ζ h|exact congrArg DO.s (nb h)
 |t=>cases b<;>first|exact ζ h|exact congrArg DO.t (EH h)
 |p=>cases b<;>first|exact ζ h|exact (Dl (band h) λh1 h2=>EP h1▸EP h2▸rfl)
theorem Ff(a:DO):DO.beq a a=true:=by
 cases a with
 |i=>exact Gg _
 |s=>exact AH _
 |t=>exact N8 _
 |p a b=>show (Dj a a&&Dj b b)=true;exact C9 (Gg _)<|C9 (Gg _) rfl
theorem Pr{a b:DO}(h:a≠b):DO.beq a b=false:=by
 cases q:DO.beq a b with
 |false=>rfl
 |true=>exact absurd (rQ q) h
def Wc:List Nat→List Nat→Bool
 |_, []=>false
 | [],_::_=>true
 |a::l,b::r=>Μ a b||(μ a b&&Wc l r)
def Qn:List Str→Bool
 | []=>true
 |a::r=>(match r with| []=>true|b::_=>Wc a.cps.toList b.cps.toList)&&Qn r
theorem Ds{m n:Nat}:Μ m n=true↔m<n:=⟨λh=>φ h,λh=>ο h⟩
theorem U0(a:List Nat):Wc a a=false:=by
 induction a with
 |nil=>rfl
 |cons x a ih=>
  show (Μ x x||(μ x x&&Wc a a))=false;refine C9 ih<|C9 (Bool.and_false _)<|C9 (Bool.or_false _) ?_
  cases h:Μ x x with
  |false=>rfl
  |true=>exact absurd (Ds.mp h) (Nat.lt_irrefl _)
theorem SV{x y:Nat}{a b:List Nat}(h:Wc (x::a) (y::b)=true):x<y∨(x=y∧Wc a b=true):=by
 rcases Bool.or_eq_true _ _▸h with h|h
 ·exact .inl (Ds.mp h)
 ·exact .inr (Dl (band h) λh1 h2=>⟨nb h1,h2⟩)
theorem ZN{a:List Nat}: ∀{b d},Wc a b=true→Wc b d=true→Wc a d=true:=by
 induction a with
 |nil=>intro b d h k;cases d with
  |nil=>cases b<;>exact ζ k
  |cons=>rfl
 |cons x a ih=>intro b d h k;cases b with
  |nil=>exact ζ h
  |cons y b=>cases d with
   |nil=>exact ζ k
   |cons z d=>
    show (Μ x z||(μ x z&&Wc a d))=true;rcases SV h with h|⟨h,h'⟩<;>rcases SV k with k|⟨k,k'⟩
    ·exact C9 (Ds.mpr (BR h k)) rfl
    ·exact C9 (Ds.mpr (k▸h)) rfl
    ·exact C9 (Ds.mpr (h▸k)) rfl
    ·(exact C9 h<|C9 k<|C9 (AH _)<|C9 (ih h' k')<|C9 (Bool.true_and _)<|C9 (Be _) rfl)
theorem Mu{l:List Str}(h:Qn l=true):l.Pairwise λa b=>Wc a.cps.toList b.cps.toList=true:=by
 induction l with
 |nil=>exact .nil
 |cons a r ih=>
  refine Dl (band h) λh1 h2=> ?_;refine .cons (λd hd=> ?_) (ih h2);cases r with
  |nil=>cases hd
  |cons b r=>
   rcases ν.mp hd with q|q
   ·exact q▸h1
   ·exact ZN h1 ((List.pairwise_cons.mp (ih h2)).1 d q)
theorem Uh:Qn Fw=true:=by kernel_rfl
theorem RT{n:Nat}(h:n<Fw.length):nm n=Fw[n]:=by
 unfold nm;exact C9 (A9)<|C9 (Τ h) rfl
theorem ji{i j:Nat}(hj:j<Fw.length)(h:i<j):Wc (nm i).cps.toList (nm j).cps.toList=true:=by
 refine C9 (RT hj)<|C9 (RT (BR h hj)) ?_
 exact List.pairwise_iff_getElem.mp (Mu Uh) i j _ _ h
theorem J7{i j:Nat}(hi:i<Fw.length)(hj:j<Fw.length)(h:nm i=nm j):i=j:=by
 have no: ∀{i j:Nat},j<Fw.length→nm i=nm j→ ¬i<j:=λhj h q=>ζ ((U0 _).symm.trans (h▸ji hj q));exact Aq (At (no hi h.symm)) (At (no hj h))
theorem nT{a b:Nat}(ha:a<Fw.length)(hb:b<Fw.length):(nm a==nm b)=μ a b:=by
 cases h:μ a b with
 |true=>exact C9 (nb h)<|beq_self_eq_true _
 |false=>exact beq_eq_false_iff_ne.mpr λe=>nbf h (J7 ha hb e)
def cN:Bool:=(BW 9).all λc=>(DX c).all λa=>Μ a Fw.length
theorem O4{α:Type}{as:List Nat}{a:Nat}{u:α}: ∀{vs:List α},Dt as vs a=some u→a∈as:=by
 induction as with
 |nil=>intro vs e;cases vs<;>exact DC e
 |cons x as ih=>intro vs e;cases vs with
  |nil=>exact DC e
  |cons v vs=>
   have e:cond (μ x a) (some v) (Dt as vs a)=some u:=e;cases h:μ x a with
   |true=>exact nb h▸ .head _
   |false=>rw [h] at e;exact .tail _ (ih e)
theorem Y4{cl:Nat}(h:(DX cl).isEmpty=false):cl<9:=by
 refine BV λq=> ?_;refine D3 (BN q) λk Fi=> ?_;subst Fi;rw [Am] at h;exact ζ h
theorem Gf{cl a:Nat}(h:a∈DX cl):(DX cl).isEmpty=false:=by
 cases q:DX cl with
 |nil=>rw [q] at h;cases h
 |cons=>rfl
theorem PI{cl a:Nat}(h:a∈DX cl):a<Fw.length:=
 have e:cN=true:=by decide+kernel
 Ds.mp (Au.mp (Au.mp e cl (BA.mpr (Y4 (Gf h)))) a h)
end
section
mutual open A
variable{c:Cx}{hf:HF}{k:Nat}{o:Obj}{ks:List DO}{vs:List Bj}
theorem Pk.inj{K:Type}[DecidableEq K]{knd:PySem.KeyKind c.prog c.w K}{rl:K→DO→Prop}(p:Pk c k K knd rl){a b:K}{x y:DO}(h1:rl a x)(h2:rl b y):a=b↔x=y:=by
 cases p with
 |i=>subst h1;subst h2;exact ⟨λe=>e▸rfl,DO.i.inj⟩
 |t=>subst h1;subst h2;exact ⟨λe=>e▸rfl,DO.t.inj⟩
 |s=>
  refine ES h1 λm hm Gx ij=> ?_;subst Gx;subst ij;clear h1;refine ES h2 λn hn Gx ij=> ?_;subst Gx;subst ij;clear h2;exact ⟨λe=>J7 hm hn e▸rfl,λe=>DO.s.inj e▸rfl⟩
theorem Pk.val{K:Type}[DecidableEq K]{knd:PySem.KeyKind c.prog c.w K}{rl:K→DO→Prop}(p:Pk c k K knd rl){a:K}{x:DO}(h1:rl a x){v:Bj}(hv:knd.is a v=true):DV c hf v x.d:=by
 cases p with
 |i=>subst h1;exact D3 (Bj.isInt_shape hv) λtk e=>by subst e;exact .int _ tk
 |t=>subst h1;exact D3 (Bj.isStrOf_shape hv) λtk e=>by subst e;exact .str _ tk
 |s=>exact ES h1 λn hn e1 e2=>D3 (Bj.isStrOf_shape hv) λtk e=>by subst e2 e1 e;exact .sym n tk hn
theorem uh{x:DO}(e:x.kind=0): ∃n,x= .i n:=by cases x with|i n=>exact (EF n rfl)|_=>exact Α e
theorem sF{x:DO}(e:x.kind=1): ∃n,x= .s n:=by cases x with|s n=>exact (EF n rfl)|i=>exact Α e|_=>exact Α (AK.inj e)
theorem u6{x:DO}(e:x.kind=2): ∃a b,x= .p a b:=by cases x with|p a b=>exact (TW a b rfl)|i=>exact Α e|s=>exact Α (AK.inj e)|t=>exact Α (AK.inj (AK.inj e))
theorem uQ{x:DO}(e:x.kind=3): ∃n,x= .t n:=by cases x with|t n=>exact (EF n rfl)|i=>exact Α e|s=>exact Α (AK.inj e)|p=>exact Α (AK.inj (AK.inj e))
theorem T6{v:Bj}{n:Int}(h:DV c hf v (.int n)): ∃t,v= .int n t:=by cases h with|int _ t=>exact (EF t rfl)
theorem oJ{v:Bj}{n:Str}(h:DV c hf v (.str n)): ∃t,v= .str n t:=by cases h with|str _ t=>exact (EF t rfl)
theorem mJ{v:Bj}{n:Nat}(h:DV c hf v (.sym n)):n<Fw.length∧ ∃t,v= .str (nm n) t:=by cases h with|sym _ t w=>exact (hV w t rfl)
theorem ng{n:Int}{t:Tok}:(B9 c.prog c.w).is n (.int n t)=true:=by simp [B9,Bj.isInt]
theorem ef{n:Str}{t:Tok}:(PySem.strKind c.prog c.w).is n (.str n t)=true:=by simp [PySem.strKind,Bj.isStrOf]
theorem Pk.of{K:Type}[DecidableEq K]{knd:PySem.KeyKind c.prog c.w K}{rl:K→DO→Prop}(p:Pk c k K knd rl){v:Bj}{x:DO}(hv:DV c hf v x.d)(e:x.kind=k): ∃a,rl a x∧knd.is a v=true:=by
 cases p with
 |i=>
  refine D3 (uh e) λn w=> ?_;rw [w] at hv;refine D3 (T6 hv) λtk w2=> ?_;exact C9 w2<|(DM n w ng)
 |t=>
  refine D3 (uQ e) λn w=> ?_;rw [w] at hv;refine D3 (oJ hv) λtk w2=> ?_;exact C9 w2<|(DM n w ef)
 |s=>
  refine D3 (sF e) λn w=> ?_;rw [w] at hv;refine r9 (mJ hv) λhn tk w2=> ?_;exact C9 w2<|(DM (nm n) (ED n hn rfl w) ef)
def Oy{κ α:Type}[DecidableEq κ]:List (κ×α)→κ→α→List (κ×α)
 | [],k,v=> [(k,v)]
 |p::r,k,v=>if p.1=k then (p.1,v)::r else p::Oy r k v
end
section
mutual open A
variable{κ α:Type}[DecidableEq κ]
theorem IG{p:κ×α}{r:List (κ×α)}{k:κ}{v:α}(h:p.1=k):Oy (p::r) k v=(p.1,v)::r:=if_pos h
theorem HK{p:κ×α}{r:List (κ×α)}{k:κ}{v:α}(h:p.1≠k):Oy (p::r) k v=p::Oy r k v:=if_neg h
theorem bv{k:κ}{v:α}{l:List (κ×α)}{p:κ×α}(h:p∈Oy l k v):p=(k,v)∨p∈l:=by
 induction l with
 |nil=>exact .inl (ς.mp h)
 |cons q r ih=>
  by_cases e:q.1=k
  ·rw [IG e] at h
   rcases ν.mp h with h|h
   ·exact .inl (e▸h)
   ·exact .inr (.tail _ h)
  ·rw [HK e] at h
   rcases ν.mp h with h|h
   ·exact .inr (h▸ .head _)
   ·exact (ih h).imp id λh=> .tail _ h
theorem OW{k:κ}{v:α}{l:List (κ×α)}(h:(l.map (·.1)).Nodup):((Oy l k v).map (·.1)).Nodup:=by
 induction l with
 |nil=>exact Η.mpr (And.intro (λh=>nomatch h) BB)
 |cons q r ih=>
  refine Dl (Η.mp h) λh1 h2=> ?_
  by_cases e:q.1=k
  ·exact C9 (IG e) h
  ·refine C9 (HK e) ?_
   refine Η.mpr ⟨λhm=> ?_,ih h2⟩;refine DQ (AD.mp hm) λp hp w=> ?_;rcases bv hp with z|z
   ·exact e (w.symm.trans (z▸rfl))
   ·exact h1 (w▸Ar z)
theorem Pi{k:κ}{v:Bj}{l:List (κ×Bj)}(h:(l.map (·.1)).Nodup):stored l k v=Oy l k v:=by
 induction l with
 |nil=>rfl
 |cons q r ih=>
  refine Dl (Η.mp h) λh1 h2=> ?_;have ih:=ih h2;unfold stored at ih ⊢
  by_cases e:q.1=k
  ·(exact C9 (IG e)<|C9 (if_pos (by rw [List.any_cons,decide_eq_true e];rfl))<|C9 Χ<|C9 (if_pos e)<|C9 (map_store_of_not_mem r _ v (e▸h1)) rfl)
  ·refine C9 (HK e)<|Dr ih ?_
   by_cases z:(r.any λkv=>decide (kv.1=k))=true
   ·(exact C9 (if_pos z)<|C9 (if_pos (by rw [List.any_cons,z,Be]))<|C9 Χ<|C9 (if_neg e) rfl)
   ·exact C9 (if_neg z)<|C9 (if_neg (by rw [List.any_cons,decide_eq_false e];exact z)) rfl
end
end
mutual open A
theorem IsDictOf.nodup{K:Type}[DecidableEq K]{knd:PySem.KeyKind c.prog c.w K}{l:List (K×Bj)}(h:o.IsDictOf knd l):(l.map (·.1)).Nodup:=IE h λO O O O O O h=>h
theorem Rows.len{K:Type}{rl:K→DO→Prop}{l:List (K×Bj)}(h:Rows rl l ks vs):l.length=vs.length∧ks.length=vs.length:=by
 induction h with
 |nil=>exact ⟨rfl,rfl⟩
 |cons _ _ ih=>exact ⟨congrArg (· +1) ih.1,congrArg (· +1) ih.2⟩
theorem cP{α:Type}{b:Bool}(h:b=true)(x y:α):cond b x y=x:=h▸rfl
theorem bC{α:Type}{b:Bool}(h:b=false)(x y:α):cond b x y=y:=h▸rfl
theorem Rows.look{K:Type}[DecidableEq K]{knd:PySem.KeyKind c.prog c.w K}{rl:K→DO→Prop}(p:Pk c k K knd rl){l:List (K×Bj)}{a:K}{x:DO}(hr:rl a x)(h:Rows rl l ks vs):valueAt l a=DU ks vs x:=by
 induction h with
 |nil=>rfl
 | @cons b y v l ks vs hb hl ih=>
  show ((List.find? (λkv=>decide (kv.1=a)) ((b,v)::l)).map (·.2))=cond (DO.beq y x) (some v) (DU ks vs x);refine C9 (List.find?_cons) ?_
  by_cases q:b=a
  ·exact C9 ((p.inj hb hr).mp q)<|C9 (Ff _)<|C9 q<|C9 (decide_eq_true rfl) rfl
  ·exact C9 (Pr λe=>q ((p.inj hb hr).mpr e))<|C9 (show decide (b=a)=false from decide_eq_false q) ih
theorem Rows.put{K:Type}[DecidableEq K]{knd:PySem.KeyKind c.prog c.w K}{rl:K→DO→Prop}(p:Pk c k K knd rl){l:List (K×Bj)}{a:K}{x:DO}(hr:rl a x)(u:Bj)(h:Rows rl l ks vs):Rows rl (Oy l a u) (D2 ks x) (Dz ks vs x u):=by
 induction h with
 |nil=>exact .cons hr .nil
 | @cons b y v l ks vs hb hl ih=>
  show Rows rl _ (cond (DO.beq y x) (y::ks) (y::D2 ks x)) (cond (DO.beq y x) (u::vs) (v::Dz ks vs x u))
  by_cases q:b=a
  ·exact C9 (IG q)<|C9 (cP ((p.inj hb hr).mp q▸Ff _) _ _)<|C9 (cP ((p.inj hb hr).mp q▸Ff _) _ _)<| .cons hb hl
  ·exact C9 (HK q)<|C9 (bC (Pr λe=>q ((p.inj hb hr).mpr e)) _ _)<|C9 (bC (Pr λe=>q ((p.inj hb hr).mpr e)) _ _)<| .cons hb ih
theorem F7{α:Type}(x:DO)(u:α)(ks:List DO): ∀vs:List α,(Dz ks vs x u).length≤vs.length+1:=by
 induction ks with
 |nil=>intro vs;exact Κ (AT _)
 |cons y ks ih=>intro vs;cases vs with
  |nil=>exact Ι _
  |cons v vs=>
   show (cond (DO.beq y x) (u::vs) (v::Dz ks vs x u)).length≤_;cases DO.beq y x with
   |true=>exact Ac _
   |false=>exact Κ (ih vs)
theorem Ye{α:Type}(x:DO){ks:List DO}: ∀{vs:List α},ks.length=vs.length→(DU ks vs x).isSome=Dm ks x:=by
 induction ks with
 |nil=>intro vs _;rfl
 |cons y ks ih=>intro vs e;cases vs with
  |nil=>exact Α e
  |cons v vs=>
   show (cond (DO.beq y x) (some v) (DU ks vs x)).isSome=(DO.beq y x||Dm ks x);cases DO.beq y x with
   |true=>rfl
   |false=>exact ih (AK.inj e)
theorem DS.look{α β:Type}{R:α→β→Prop}(x:DO)(ks:List DO): ∀{vs:List α} {l:List β},DS R vs l→(DU ks vs x=none∧DU ks l x=none)∨ ∃a b,DU ks vs x=some a∧DU ks l x=some b∧R a b:=by
 induction ks with
 |nil=>intro vs l _;exact .inl ⟨rfl,rfl⟩
 |cons y ks ih=>intro vs l h;cases h with
  |nil=>exact .inl ⟨rfl,rfl⟩
  | @cons u w vs l a b=>
   show (cond (DO.beq y x) (some u) (DU ks vs x)=none∧cond (DO.beq y x) (some w) (DU ks l x)=none)∨ ∃a b,cond (DO.beq y x) (some u) (DU ks vs x)=some a∧cond (DO.beq y x) (some w) (DU ks l x)=some b∧R a b;cases DO.beq y x with
   |true=>exact .inr (EK u w rfl rfl a)
   |false=>exact ih b
theorem DS.Xl{α β:Type}{R:α→β→Prop}{x:DO}{ks:List DO}{vs:List α}{l:List β}{b:β}(h:DS R vs l)(e:DU ks l x=some b): ∃a,DU ks vs x=some a∧R a b:=by
 rcases h.look x ks with ⟨_,z⟩|⟨a,b',z1,z2,z3⟩
 ·exact DC (z.symm.trans e)
 ·exact (DM a z1 (η (z2.symm.trans e)▸z3))
theorem DS.put{α β:Type}{R:α→β→Prop}{x:DO}{u:α}{w:β}(hu:R u w)(ks:List DO): ∀{vs:List α} {l:List β},DS R vs l→DS R (Dz ks vs x u) (Dz ks l x w):=by
 induction ks with
 |nil=>intro vs l h;exact .cons hu .nil
 |cons y ks ih=>intro vs l h;cases h with
  |nil=>exact .cons hu .nil
  | @cons u' w' vs l a b=>
   show DS R (cond (DO.beq y x) (u::vs) (u'::Dz ks vs x u)) (cond (DO.beq y x) (w::l) (w'::Dz ks l x w));cases DO.beq y x with
   |true=>exact .cons hu b
   |false=>exact .cons a (ih b)
def Ls(k:Int×Int)(a:Br)(v:Bj):List LY→List LY
 | []=> [(k,a,v)]
 |x::r=>if x.1=k then (x.1,x.2.1,v)::r else x::Ls k a v r
theorem WC{a b c d:Int}(q:(c,d)≠(a,b)):DO.beq (.p c d) (.p a b)=false:=Pr λe=>q (by cases e;rfl)
theorem Nh{a b c d:Int}(q:(c,d)≠(a,b)): [c,d]≠ [a,b]:=λe=>q (by cases e;rfl)
theorem d0(a b:Int)(xs:List LY):(atKey (xs.map lk) [a,b]).map (·.2)=DU (xs.map λx=>DO.p x.1.1 x.1.2) (xs.map (·.2.2)) (.p a b):=by
 induction xs with
 |nil=>rfl
 |cons x r ih=>
  obtain ⟨⟨d,e⟩,u,v⟩:=x;show ((List.find? _ (lk ((d,e),u,v)::r.map lk)).map (·.2)).map (·.2)=cond (DO.beq (.p d e) (.p a b)) (some v) _;refine C9 (List.find?_cons) ?_
  by_cases q:(d,e)=(a,b)
  ·cases q;refine C9 (Ff _) ?_;simp [lk]
  ·exact C9 (WC q)<|C9 (show (decide ((lk ((d,e),u,v)).1= [a,b]))=false from decide_eq_false (Nh q)) ih
theorem UY(a b:Int)(u:Br)(v:Bj){xs:List LY}(h:(xs.map (·.1)).Nodup):storedH (xs.map lk) [a,b] u v=(Ls (a,b) u v xs).map lk:=by
 induction xs with
 |nil=>rfl
 |cons x r ih=>
  obtain ⟨⟨d,e⟩,u',v'⟩:=x;refine Dl (Η.mp h) λh1 h2=> ?_;have ih:=ih h2
  by_cases q:(d,e)=(a,b)
  ·cases q
   rw [Ls,if_pos rfl,storedH,if_pos (by simp [atKey,lk]),Χ,Χ,Χ];refine congr (congrArg Bi (by simp [putAt,lk])) (map_putAt_of_not_mem _ _ _ λhm=>h1 ?_);refine DQ (AD.mp hm) λx hx e=> ?_;refine DQ (AD.mp hx) λy hy Gx=> ?_;subst Gx;exact AD.mpr (DM y hy (by have:=e;simp only [lk,Bi.injEq,and_true] at this;exact Prod.ext this.1 this.2))
  ·have ne:=Nh q
   rw [Ls,if_neg q,Χ,Χ,←ih];unfold storedH;refine C9 (show atKey (lk ((d,e),u',v')::r.map lk) [a,b]=atKey (r.map lk) [a,b] by unfold atKey;rw [List.find?_cons];simp [lk,ne]) ?_
   split
   ·refine C9 Χ ?_;congr 1;simp [putAt,lk,ne]
   ·rfl
theorem Yc(a b:Int)(u:Br)(v:Bj)(xs:List LY):(Ls (a,b) u v xs).map (λx=>DO.p x.1.1 x.1.2)=D2 (xs.map λx=>DO.p x.1.1 x.1.2) (.p a b)∧(Ls (a,b) u v xs).map (·.2.2)=Dz (xs.map λx=>DO.p x.1.1 x.1.2) (xs.map (·.2.2)) (.p a b) v∧(Ls (a,b) u v xs).map (·.1)=(Oy (xs.map λx=>(x.1,x.2.2)) (a,b) v).map (·.1):=by
 induction xs with
 |nil=>exact ⟨rfl,rfl,rfl⟩
 |cons x r ih=>
  obtain ⟨⟨d,e⟩,u',v'⟩:=x;show _=cond (DO.beq (.p d e) (.p a b)) _ _∧_=cond (DO.beq (.p d e) (.p a b)) _ _∧_;rw [Ls,Χ (f:=λx:LY=>(x.1,x.2.2))]
  by_cases q:(d,e)=(a,b)
  ·refine C9 (if_pos q)<|C9 (IG q)<|C9 (show DO.beq (.p d e) (.p a b)=true by cases q;exact Ff _) ?_;exact ⟨rfl,rfl,congrArg (_:: ·) (by exact C9 Δ rfl)⟩
  ·exact C9 (if_neg q)<|C9 (HK q)<|C9 (WC q)<|⟨congrArg (_:: ·) ih.1,congrArg (_:: ·) ih.2.1,congrArg (_:: ·) ih.2.2⟩
theorem eN{k:Int×Int}{u:Br}{v:Bj}{xs:List LY}{x:LY}(h:x∈Ls k u v xs):(x.1=k∧x.2.1=u)∨ ∃y∈xs,y.1=x.1∧y.2.1=x.2.1:=by
 induction xs with
 |nil=>exact C9 (ς.mp h)<| .inl ⟨rfl,rfl⟩
 |cons y r ih=>
  rw [Ls] at h
  by_cases q:y.1=k
  ·rw [if_pos q] at h
   rcases ν.mp h with h|h
   ·exact .inr (ED y (.head _) (h▸rfl) (h▸rfl))
   ·exact .inr (ED x (.tail _ h) rfl rfl)
  ·rw [if_neg q] at h
   rcases ν.mp h with h|h
   ·exact .inr (ED x (h▸ .head _) rfl rfl)
   ·exact (ih h).imp id λ⟨z,hz,e⟩=>(DM z (.tail _ hz) e)
def XZ(c:Cx)(o:Obj)(m:List (List Int×Br×Bj)):Prop:= ∃es ep,o.ExactDict∧o.data= .dict es ep∧es.toList=m.map (entryOfKey (CN (B9 c.prog c.w)))
inductive KD(c:Cx)(hf:HF)(k:Nat)(o:Obj)(ks:List DO)(vs:List Bj)(kv:Bj)(x:DO):Prop
 |one {K:Type} [DecidableEq K] (knd:PySem.KeyKind c.prog c.w K) (l:List (K×Bj)) (a:K):knd.is a kv=true→o.IsDictOf knd l→l.length=vs.length→valueAt l a=DU ks vs x→
   (∀v o',vs.length<big→o'.IsDictOf knd (stored l a v)→EB c hf o' k (D2 ks x) (Dz ks vs x v))→KD c hf k o ks vs kv x
 |two (a:Br) (i j:Int) (xs:List LY) (t u n):kv= .ref a→hf a=some (GW [.int i t, .int j u] n)→xs.length=vs.length→XZ c o (xs.map lk)→(∀x∈xs,∃n t u,hf x.2.1=some (GW [.int x.1.1 t, .int x.1.2 u] n))→(xs.map (·.1)).Nodup→
   (atKey (xs.map lk) [i,j]).map (·.2)=DU ks vs x→(∀v o',vs.length<big→XZ c o' (storedH (xs.map lk) [i,j] a v)→EB c hf o' k (D2 ks x) (Dz ks vs x v))→KD c hf k o ks vs kv x
theorem iG{v:Bj}{i j:Int}(h:DV c hf v (.nd .tup [.int i, .int j])): ∃a t u n,v= .ref a∧hf a=some (GW [.int i t, .int j u] n):=by
 refine wr λZ0 z0=> ?_;have ⟨q,oq,us,w1,w2,⟨w5,_,n,w6⟩,w4⟩:=DV.shape h;refine D0 (cK w4) λa b w h1 h2=> ?_;refine D3 (T6 h1) λt e1=> ?_;refine D3 (T6 h2) λu e2=> ?_;refine z0 ?_;exact (QC q.1 t u n w1 (by (exact C9 w5<|C9 w2<|C9 w6<|C9 w<|C9 e1<|C9 e2 rfl)))
theorem mQ{xs:List LY}{i j:Int}{a:Br}{t u n}{v:Bj}{o':Obj}(w2:hf a=some (GW [.int i t, .int j u] n))(h1: ∀x∈xs,∃n t u,hf x.2.1=some (GW [.int x.1.1 t, .int x.1.2 u] n))(h2:(xs.map (·.1)).Nodup)(hb:(xs.map (·.2.2)).length<big)(h:jk c o' (Ls (i,j) a v xs)):EB c hf o' 2 (D2 (xs.map λx=>DO.p x.1.1 x.1.2) (.p i j)) (Dz (xs.map λx=>DO.p x.1.1 x.1.2) (xs.map (·.2.2)) (.p i j) v):=by
 have r:=Yc i j a v xs;refine .pr (xs:=Ls (i,j) a v xs) (Υ (F7 _ v _ _) hb) h (λy hy=> ?_) (by refine C9 r.2.2 ?_;exact OW (by exact C9 Δ h2)) r.1.symm r.2.1.symm;rcases eN hy with z|⟨z,hz,z1,z2⟩
 ·exact C9 z.1<|C9 z.2<|(MT n t u w2)
 ·exact Dr z1<|Dr z2<|h1 z hz
theorem L4(hd:EB c hf o k ks vs){kv:Bj}{x:DO}(hk:DV c hf kv x.d)(e:x.kind=k):KD c hf k o ks vs kv x:=by
 cases hd with
 | @np _ K _ knd rl l _ _ p hb hl hr=>
  refine DQ (p.of hk e) λa h1 h2=> ?_;exact .one knd l a h2 hl hr.len.1 (hr.look p h1) λv o' Oi h=> .np p (Υ (F7 x v ks vs) Oi) (Pi (IsDictOf.nodup hl)▸h) (hr.put p h1 v)
 | @pr xs _ _ hb h0 h1 h2 e1 e2=>
  refine HY (u6 e) λi j w=> ?_;rw [w] at hk ⊢;refine Jm (iG hk) λa t u n w1 w2=> ?_;refine C9 e1<|C9 e2 ?_
  exact .two a i j xs t u n w1 w2 (ι ..).symm h0 h1 h2 (d0 i j xs) λv o' Oi h=>mQ w2 h1 h2 Oi (show XZ c o' ((Ls (i,j) a v xs).map lk) from UY i j a v h2▸h)
theorem Ub{l:List D}{x:DO}(e:jH l=some x): ∃a b,l= [.int a, .int b]∧x= .p a b:=by
 cases l with
 |nil=>exact DC e
 |cons a l=>cases a with
  |int a=>cases l with
   |nil=>exact DC e
   |cons b l=>cases b with
    |int b=>cases l with
     |nil=>exact (Gp a b rfl ((η e).symm))
     |cons=>exact DC e
    |_=>exact DC e
  |_=>exact DC e
theorem JS{d:D}{x:DO}(e:HG d=some x){v:Bj}(h:DV c hf v d):DV c hf v x.d:=by
 cases d with
 |int=>exact De e h
 |sym=>exact De e h
 |str=>exact De e h
 |nd hd l=>exact DY e λh1 e=>GD (Ub e) λa b w1 w2=>by have h1:=XL h1;subst h1 w1 w2;exact h
 |_=>exact DC e
theorem EB.big(h:EB c hf o k ks vs):vs.length≤big∧ks.length=vs.length:=by
 cases h with
 |np _ a _ b=>exact ⟨a,b.len.2⟩
 |pr a _ _ _ b d=>exact ⟨a,by (exact C9 b<|C9 d<|C9 (ι _)<|C9 (ι _) rfl)⟩
theorem EB.raw(h:EB c hf o k ks vs): ∃es ep,o.ExactDict∧o.data= .dict es ep∧es.size=vs.length:=by
 cases h with
 |np _ _ h r=>exact IE h λes ep h1 h2 O h3 O=>(EK es ep h1 h2 (by have:=h3.length;rw [Array.length_toList] at this;exact this.trans r.len.1))
 |pr _ h _ _ _ e=>exact D0 h λes ep h1 h2 h3=>(EK es ep h1 h2 (by (exact Dr Array.length_toList<|C9 h3<|C9 e<|C9 (ι _)<|C9 (ι _)<|C9 (ι _) rfl)))
theorem EB.typeIs{s:Bl}{q:Br}(e:s.heap.get? q=some o)(h:EB c hf o k ks vs):s.TypeIs (.ref q) "dict" :=D0 h.raw λO O h1 O O=>(DM o e h1.1)
theorem mapOf{K:Type}[DecidableEq K]{knd:PySem.KeyKind c.prog c.w K}{h:Bz}{q:Br}{l:List (K×Bj)}(eo:h.get? q=some o)(d:o.IsDictOf knd l):h.DictOf knd q l:=BI.mpr (DM o eo d)
theorem Im{h:Bz}(kp: ∀b o,hf b=some o→h.get? b=some o){a:Br}{i j:Int}{t u:Tok}{n:Nat}(e:hf a=some (GW [.int i t, .int j u] n)):IsTupleKey (B9 c.prog c.w) h [i,j] a:=
 (Ea _ _ n (kp _ _ e) rfl rfl (.cons (by simp [B9,Bj.isInt]) (.cons (by simp [B9,Bj.isInt]) .nil)))
theorem IK{h:Bz}(kp: ∀b o,hf b=some o→h.get? b=some o){q:Br}{xs:List LY}(eo:h.get? q=some o)(d:XZ c o (xs.map lk))(k: ∀x∈xs,∃n t u,hf x.2.1=some (GW [.int x.1.1 t, .int x.1.2 u] n))(n:(xs.map (·.1)).Nodup):h.DictOfH (CN (B9 c.prog c.w)) q (xs.map lk):=by
 refine D0 d λes ep d1 d2 d3=> ?_;clear d;refine (Up o es ep eo d1 d2 d3 (λx hx=> ?_) ?_)
 ·refine DQ (AD.mp hx) λy hy w=> ?_
  refine S5 (k y hy) λn t u e=> ?_;exact w▸Im kp e
 ·have:(xs.map lk).map (·.1)=(xs.map (·.1)).map λa:Int×Int=> [a.1,a.2]:=by exact C9 Δ<|C9 Δ rfl
  refine C9 this<|C9 (propext (List.nodup_iff_pairwise_ne))<|C9 (propext (List.pairwise_map)) ?_
  exact (List.nodup_iff_pairwise_ne.mp n).imp λne e=>Nh ne e
end
end
end
section
mutual open A
theorem Dn{h:Bz}{q:Br}{vs:List Bj}{n:Nat}(e:h.get? q=some (E3 vs n)):h.IsList q vs.toArray:=(JF _ e rfl n rfl)
theorem Yn{h:Bz}{q:Br}{vs:List Bj}{n:Nat}(e:h.get? q=some (GW vs n)):IsTup h q vs.toArray:=(JF _ e rfl n rfl)
theorem HM{h:Hd}{l:List D}(e:plain (.nd h l)=true):(h= .tup∨h= .lst)∧plain.FE l=true:=by
 refine Dl (band e) λa b=> ?_;refine ⟨?_,b⟩;cases h with
 |tup=>exact .inl rfl
 |lst=>exact .inr rfl
 |_=>exact ζ a
end
section
mutual open A
variable{c:Cx}{hf:HF}{A:Bs}{s:Bl}{E:Bj→Bl→Prop}{x:St c}
theorem DV.reads{h:Bz}(kp: ∀b o,hf b=some o→h.get? b=some o){v:Bj}{d:D}(a:DV c hf v d):plain d=true→ ∃as,Reads h v (EY d) as:=by
 refine DV.rec (motive_1:=λv d O=>plain d=true→ ∃as,Reads h v (EY d) as) (motive_2:=λvs l O=>plain.FE l=true→ ∃as,ReadsAll h vs (EY.toPys l) as) (λO=>(EF _ .none)) (λb O=>(EF _ (.bool b))) (λi t O=>(EF _ (.int i t))) (λn t O O=>(EF _ (.str _ t))) (λO O e=>ζ e) (λ{p o hd vs l} a b O ih e=> ?_) (λO=>(EF _ .nil)) (λO O i1 i2 e=> ?_) a
 ·refine Dl (HM e) λe1 e2=> ?_
  refine D3 (ih e2) λas r=> ?_;rcases e1 with e1|e1<;>subst e1
  ·obtain ⟨b1,_,n,b2⟩:=b
   subst b2;exact (EF _ (.tuple (by exact C9 b1<|kp _ _ a) rfl rfl (by exact C9 BG r)))
  ·obtain ⟨b1,_,n,b2⟩:=b
   subst b2;exact (EF _ (.list (by exact C9 b1<|kp _ _ a) rfl rfl (by exact C9 BG r)))
 ·refine Dl (band e) λe1 e2=> ?_
  exact D3 (i1 e1) λas r=>D3 (i2 e2) λbs q=>(EF _ (.cons r q))
def tC:Bool:=Fw.all λx=>x.cps.all (· <0x110000)
theorem lZ:tC=true:=by decide+kernel
theorem aO(n:Nat):B2.strOk (nm n)=true:=by
 by_cases h:n<Fw.length
 ·exact C9 (RT h)<|Au.mp lZ _ (A0 h)
 ·refine C9 (show nm n= "" by unfold nm;rw [A9,List.getElem?_eq_none (At h)];rfl) ?_;decide+kernel
theorem Ip(d:D):plain d=true→(EY d).canLay0=true:=
 D.rec (motive_1:=λd=>plain d=true→(EY d).canLay0=true) (motive_2:=λl=>plain.FE l=true→B2.canLayAll0 (EY.toPys l)=true) (λO=>rfl) (λO O=>rfl) (λO O=>rfl) (λn O=>aO n) (λO e=>ζ e)
  (λh l ih e=>by
   refine Dl (HM e) λe1 e2=> ?_;rcases e1 with e1|e1<;>subst e1<;>exact ih e2) (λO=>rfl) (λd l i1 i2 e=>by
   refine Dl (band e) λe1 e2=> ?_;exact (show ((EY d).canLay0&&B2.canLayAll0 (EY.toPys l))=true by exact C9 (i1 e1)<|C9 (i2 e2) rfl)) d
theorem Op(l:List D):plain.FE l=true→B2.canLayAll0 (EY.toPys l)=true:=λe=>Ip (.nd .tup l) e
theorem Pe(d:D):(EY d).depth=ei d:=
 D.rec (motive_1:=λd=>(EY d).depth=ei d) (motive_2:=λl=>B2.depthAll (EY.toPys l)=ei.deps l) rfl (λO=>rfl) (λO=>rfl) (λO=>rfl) (λO=>rfl)
  (λh l ih=>by cases h<;>exact congrArg (· +1) ih) rfl (λd l i1 i2=>show Nat.max (EY d).depth (B2.depthAll (EY.toPys l))=_ by exact C9 i1<|C9 i2 rfl) d
theorem lh{h h':Hd}{l m:List D}(a:h= .tup∨h= .lst)(b:h'= .tup∨h'= .lst)(e:B2.eqvAll (EY.toPys l) (EY.toPys m)=Ti.Vf l m):B2.eqv (EY (.nd h l)) (EY (.nd h' m))=Ti (.nd h l) (.nd h' m):=by
 rcases a with a|a<;>rcases b with b|b<;>subst a<;>subst b<;>first|exact e|rfl
theorem XJ(d:D): ∀{v u:Bj} {y:D},DV c hf v d→DV c hf u y→plain d=true→plain y=true→B2.eqv (EY d) (EY y)=Ti d y:=by
 refine D.rec (motive_1:=λd=> ∀{v u:Bj} {y:D},DV c hf v d→DV c hf u y→plain d=true→plain y=true→B2.eqv (EY d) (EY y)=Ti d y) (motive_2:=λl=> ∀{v u:List Bj} {m:List D},KY c hf v l→KY c hf u m→plain.FE l=true→plain.FE m=true→B2.eqvAll (EY.toPys l) (EY.toPys m)=Ti.Vf l m) ?_ ?_ ?_ ?_ ?_ ?_ ?_ ?_ d
 ·intro v u y _ _ _ f
  cases y with
  |nd h l=>exact Dl (HM f) λe O=>by rcases e with e|e<;>subst e<;>rfl
  |_=>rfl
 ·intro b v u y _ _ e _;exact ζ e
 ·intro i v u y _ _ _ f
  cases y with
  |int j=>exact Wp i j
  |nd h l=>exact Dl (HM f) λe O=>by rcases e with e|e<;>subst e<;>rfl
  |bool=>exact ζ f
  |_=>rfl
 ·intro n v u y a b _ f
  cases y with
  |sym m=>cases a with|sym _ _ h=>cases b with|sym _ _ h'=>exact nT h h'
  |nd h l=>exact Dl (HM f) λe O=>by rcases e with e|e<;>subst e<;>rfl
  |str=>exact ζ f
  |_=>rfl
 ·intro b v u y _ _ e _;exact ζ e
 ·intro h l ih v u y a b e f
  refine Dl (HM e) λe1 e2=> ?_;cases y with
  |nd h' m=>exact Dl (HM f) λf1 f2=>let ⟨_,_,_,_,_,_,a⟩:=a.shape;let ⟨_,_,_,_,_,_,b⟩:=b.shape;lh e1 f1 (ih a b e2 f2)
  |_=>rcases e1 with e1|e1<;>subst e1<;>rfl
 ·intro v u m a b _ _
  cases a;cases b<;>rfl
 ·intro d l i1 i2 v u m a b e f
  cases a with
  |cons a1 a2=>cases b with
   |nil=>rfl
   |cons b1 b2=>
    refine Dl (band e) λe1 e2=> ?_;refine Dl (band f) λf1 f2=> ?_;show (B2.eqv _ _&&B2.eqvAll _ _)=_;exact C9 (i1 a1 b1 e1 f1)<|C9 (i2 a2 b2 e2 f2) rfl
theorem Ou{a b:Br}{vs:List Bj}{n m:Nat}(hu:A.units<B3)(ha:s.heap.get? a=some (E3 vs n))(hb:s.heap.get? b=some (E3 [] m)):SeqAt.RcAt A s (.ref a) (.ref b) vs.isEmpty:=by
 cases vs with
 |nil=>exact SeqAt.RcAt.lists (e:=λO=>true) (Dn ha) (Dn hb) rfl hu (λj h1=>absurd h1 (Aw _))
 |cons v vs=>exact SeqAt.RcAt.lists_lengths (Dn ha) (Dn hb) (by simp) hu
theorem Oq{a b:Br}{vs:List Bj}{n m:Nat}(hu:A.units<B3)(ha:s.heap.get? a=some (E3 vs n))(hb:s.heap.get? b=some (E3 [] m)):SeqAt.RcNeAt A s (.ref a) (.ref b) (!vs.isEmpty):=by
 cases vs with
 |nil=>exact SeqAt.RcNeAt.lists (e:=λO=>true) (Dn ha) (Dn hb) rfl hu (λj h1=>absurd h1 (Aw _))
 |cons v vs=>exact SeqAt.RcNeAt.lists_lengths (Dn ha) (Dn hb) (by simp) hu
theorem EB.empty{o:Obj}{k:Nat}{ks:List DO}{K:Type}[DecidableEq K](knd:PySem.KeyKind c.prog c.w K)(h:EB c hf o k ks []):o.IsDictOf knd []:=
 D0 h.raw λes ep h1 h2 h3=>
 have e:es= #[]:=Array.eq_empty_of_size_eq_zero h3
 (LH es ep h1 h2 (λO x=>(by rw [e] at x;simp at x)) (e▸ .nil) BB)
theorem Ms{nm:String}{a b:Br}{oa ob:Obj}{es el:Array DictEntry}{ep yq:Nat}{Q:Bool→Bl→Prop}(ha:(a==By)=false)(hb:(b==By)=false)
  (ea:s.heap.get? a=some oa) (da:oa.data= .dict es ep) (eb:s.heap.get? b=some ob) (db:ob.data= .dict el yq) (ne:es.size≠el.size) (h:Q false s):Bp (Bq c.prog c.w) A (Builtin.Dict.samePairs nm a b) Q E s:=by
 unfold Builtin.Dict.samePairs Builtin.Dict.showsAll;refine C9 (if_neg (show¬(a==By)=true by rw [ha];exact Aj))<|C9 (if_neg (show¬(b==By)=true by rw [hb];exact Aj)) ?_
 refine Bk (Bn (Bk (Bn (Bk (wpAny_dictEntries ea da (Bk (wpAny_dictEntries eb db ?_)))))));refine C9 (if_pos (by simpa using ne)) ?_;exact Bk (wpAny_rule (Bn h))
theorem Ow{a b:Br}{oa ob:Obj}{k k':Nat}{ks EZ:List DO}{vs:List Bj}(hu:A.units<B3)(ha:(a==By)=false)(hb:(b==By)=false)
  (ea:s.heap.get? a=some oa) (da:EB c hf oa k ks vs) (eb:s.heap.get? b=some ob) (db:EB c hf ob k' EZ []) {Q:Bj→Bl→Prop} (h:Q (.bool vs.isEmpty) s):Bp (Bq c.prog c.w) A (compareOp .Eq (.ref a) (.ref b)) Q E s:=by
 cases vs with
 |nil=>exact keq_eq (knd:=B9 c.prog c.w) (ka:= []) (kb:= []) (r:=true) ha hb (mapOf ea (da.empty _)) (mapOf eb (db.empty _)) hu (λO=> .nil) h
 |cons x r=>
  refine D0 da.raw λes ep O d1 d2=> ?_;refine D0 db.raw λel yq O d1' d2'=> ?_;refine wpAny_richCompare_same_room (op:= .Eq) (da.typeIs ea) (db.typeIs eb) PySem.F.slot_dict_eq (Ce PySem.F.slot_dict_eq (da.typeIs ea) PySem.F.entry_dict_eq ?_ (PySem.F.args_dict_eq_2 _ _)) hu;show Bp _ _ (Builtin.Dict.dictSlotArgs "__eq__" ⟨[.ref a, .ref b], []⟩>>=_) _ _ s;refine Bk ?_;unfold Builtin.Dict.dictSlotArgs;refine Bk (wpAny_notOrdered_dict (da.typeIs ea) ?_);show Bp _ _ (pure (Bj.ref a,Bj.ref b)) _ _ s;refine Bn (Bk (Cf (T:= "dict") (db.typeIs eb) PySem.F.sub_dict_dict ?_));simp only [Bool.not_true,Bool.false_eq_true,if_false];refine Bk (Bn (Bk (Bn ?_)));exact Bk (Ms ha hb ea d1 eb d1' (by exact C9 d2<|C9 d2'<|Nat.succ_ne_zero _) (Bn (ED _ rfl (by intro x;cases x) h)))
theorem Mh{d:D}(h:fits d=true):SeqAt.shaped (EY d)=true:=by
 refine Dl (band h) λa b=> ?_;unfold SeqAt.shaped;refine C9 (Ip d a)<|C9 (Pe _)<|C9 (Bool.true_and _) ?_
 exact decide_eq_true (Υ (φ b) (by decide))
theorem N5{α β:Type}{R:α→β→Prop}{l:List α}{m:List β}(h:DS R l m):l.isEmpty=m.isEmpty:=by cases h<;>rfl
inductive OC(x:St c)(b:V)(va vb:Bj)(r:Bool):Prop
 |lst (a a':Br) (vs:List Bj) (n m:Nat):va= .ref a→vb= .ref a'→x.s.heap.get? a=some (E3 vs n)→x.s.heap.get? a'=some (E3 [] m)→vs.isEmpty=r→OC x b va vb r
 |Dg (a a':Br) {oa ob k k' ks EZ} (vs:List Bj):Jy b=2→va= .ref a→vb= .ref a'→(a==By)=false→(a'==By)=false→x.s.heap.get? a=some oa→EB c x.hf oa k ks vs→x.s.heap.get? a'=some ob→EB c x.hf ob k' EZ []→vs.isEmpty=r→OC x b va vb r
 |dat {d e as bs}:Reads x.s.heap va (EY d) as→Reads x.s.heap vb (EY e) bs→SeqAt.shaped (EY d)=true→SeqAt.shaped (EY e)=true→B2.eqv (EY d) (EY e)=r→OC x b va vb r
theorem Er{a:V}{d:D}(e:Ir a=some d):a= .d d:=by
 cases a with
 |d=>exact De e rfl
 |cell=>exact DC e
theorem Gq{d:D}{i:Int}(e:Yb d=some i):d= .int i:=by
 cases d with
 |int=>exact De e rfl
 |_=>exact DC e
theorem Yu{b:V}(h:Jy b=1):b= .d (.nd .lst []):=by
 cases b with
 |cell=>exact Α h
 |d d=>cases d with
  |nd hd l=>cases l with
   |nil=>cases hd with
    |lst=>rfl
    |Dg=>exact Α (AK.inj h)
    |_=>exact Α h
   |cons=>exact Α h
  |_=>exact Α h
theorem Xg{b:V}(h:Jy b=2): ∃k ks,b= .d (.nd (.Dg k ks) []):=by
 cases b with
 |cell=>exact Α h
 |d d=>cases d with
  |nd hd l=>cases l with
   |nil=>cases hd with
    |lst=>exact Α (AK.inj h)
    |Dg=>exact (TW _ _ rfl)
    |_=>exact Α h
   |cons=>exact Α h
  |_=>exact Α h
theorem Sn{va vb:Bj}{a b:V}{r:Bool}(ha:x.VV va a)(hb:x.VV vb b)(e:og a b=some r):OC x b va vb r:=by
 refine DA e λd h1 e=>DA e λd' h2 e=>DY e λh3 e=> ?_;rw [Er h1] at ha;rw [Er h2] at hb;refine Dl (band h3) λf1 f2=> ?_;refine D3 (DV.reads x.R.keep ha (band f1).1) λas r1=> ?_;refine D3 (DV.reads x.R.keep hb (band f2).1) λbs r2=> ?_;exact De e (.dat r1 r2 (Mh f1) (Mh f2) (XJ d ha hb (band f1).1 (band f2).1))
theorem WJ{va vb:Bj}{a b:V}{r:Bool}(ha:x.VV va a)(hb:x.VV vb b)(e:qA x.σ a b=some r):OC x b va vb r:=by
 unfold qA at e;cases q:Jy b with
 |zero=>rw [q] at e;exact Sn ha hb e
 |succ n=>cases n with
  |zero=>
   rw [q] at e;refine DA e λl h1 e=> ?_;obtain ⟨q1,vs,n,w,g,_,hv⟩:=UL ha h1;rw [Yu q] at hb;obtain ⟨p,o,us,w2,g2,sh,zc⟩:=DV.shape hb;obtain ⟨e1,_,m,e2⟩:=sh;cases zc;exact De e (.lst q1 p.1 vs n m w w2 g (e1▸e2▸x.R.keep _ _ g2) (N5 hv))
  |succ n=>cases n with
   |zero=>
    rw [q] at e;refine DA e λl h1 e=> ?_;obtain ⟨q1,o,vs,w,g,z,ho,hv⟩:=K1 ha h1;refine HY (Xg q) λk ks w3=> ?_;rw [w3] at hb;obtain ⟨p,o',us,w2,g2,sh,zc⟩:=DV.shape hb;obtain ⟨e1,e2,e3⟩:=sh;cases zc;exact De e (.Dg q1 p.1 vs q w w2 z (e1▸e2) g ho (e1▸x.R.keep _ _ g2) e3 (N5 hv))
   |succ n=>rw [q] at e;exact Sn ha hb e
theorem eR{b:V}{va vb:Bj}{r:Bool}{Q:Bj→Bl→Prop}(hu:A.units+64<B3)(w:OC x b va vb r)(h:Q (.bool r) x.s):Bp (Bq c.prog c.w) A (compareOp .Eq va vb) Q E x.s:=by
 have wA:A.units<B3:=Ρ (Ζ ..) hu;cases w with
 |lst a b vs n m w1 w2 g1 g2 e=>subst w1;subst w2;subst e;exact Ou wA g1 g2 c.prog c.w E Q h
 |Dg a b vs w0 w1 w2 z1 z2 g1 d1 g2 d2 e=>subst w1;subst w2;subst e;exact Ow wA z1 z2 g1 d1 g2 d2 h
 |dat r1 r2 s1 s2 e=>exact eq_dataH r1 r2 s1 s2 hu (e▸h)
theorem bk{b:V}{va vb:Bj}{r:Bool}{Q:Bj→Bl→Prop}(hu:A.units+64<B3)(w:OC x b va vb r)(nd:Μ (Jy b) 2=true)(h:Q (.bool (!r)) x.s):Bp (Bq c.prog c.w) A (compareOp .NotEq va vb) Q E x.s:=by
 have wA:A.units<B3:=Ρ (Ζ ..) hu;cases w with
 |lst a b vs n m w1 w2 g1 g2 e=>subst w1;subst w2;subst e;exact Oq wA g1 g2 c.prog c.w E Q h
 |Dg a b vs w0 w1 w2 z1 z2 g1 d1 g2 d2 e=>rw [w0] at nd;exact ζ nd
 |dat r1 r2 s1 s2 e=>exact ne_dataH r1 r2 s1 s2 hu (e▸h)
end
end
end
section
mutual open A
variable{c:Cx}{hf:HF}{A:Bs}{s:Bl}{E:Bj→Bl→Prop}{x:St c}
theorem Pb{l:List V}: ∀{m:List D},Mr l=some m→l=m.map V.d:=by
 induction l with
 |nil=>intro m e;exact De e rfl
 |cons v l ih=>intro m e;exact DA e λd h1 e=>DA e λm' h2 e=>De e (by exact C9 (Er h1)<|C9 (ih h2) rfl)
theorem Gc{d:D}(h:atom d=true):plain d=true∧(EY d).depth=0:=by cases d<;>first|exact ⟨rfl,rfl⟩|exact ζ h
theorem MV{l:List D}(h:atoms l=true):plain.FE l=true:=by
 induction l with
 |nil=>rfl
 |cons d l ih=>
  refine Dl (band h) λa b=> ?_;show (plain d&&plain.FE l)=true;exact C9 ((Gc a).1)<|C9 (ih b) rfl
theorem gJ{u:Bj}{d:D}(hu:DV c hf u d)(hx:atom d=true){vs:List Bj}{l:List D}(h:KY c hf vs l)(ha:atoms l=true):((EY.toPys l).any λy=>B2.eqv y (EY d))=La d l:=by
 induction h with
 |nil=>rfl
 |cons a _ ih=>
  refine Dl (band ha) λa1 a2=> ?_;show (B2.eqv _ _||_)=(Ti _ d||_)
  (exact C9 (XJ _ a hu (Gc a1).1 (Gc hx).1)<|C9 (ih a2) rfl)
theorem DS.reads{h:Bz}(kp: ∀b o,hf b=some o→h.get? b=some o){vs:List Bj}{l:List D}(a:KY c hf vs l)(e:plain.FE l=true): ∃as,ReadsAll h vs (EY.toPys l) as:=by
 induction a with
 |nil=>exact (EF _ .nil)
 |cons b _ ih=>exact Dl (band e) λe1 e2=>D3 (DV.reads kp b e1) λas r=>D3 (ih e2) λbs q=>(EF _ (.cons r q))
inductive Nn(x:St c)(A:Bs)(va vb:Bj)(r:Bool):Prop
 |one {K:Type} [DecidableEq K] {knd:PySem.KeyKind c.prog c.w K} {q:Br} {l:List (K×Bj)} {a:K}:vb= .ref q→knd.is a va=true→(q==By)=false→x.s.heap.DictOf knd q l→(valueAt l a).isSome=r→Nn x A va vb r
 |two {q a:Br} {m:List (List Int×Br×Bj)} {i j:Int}:vb= .ref q→va= .ref a→IsTupleKey (B9 c.prog c.w) x.s.heap [i,j] a→(q==By)=false→x.s.heap.DictOfH (CN (B9 c.prog c.w)) q m→(atKey m [i,j]).isSome=r→Nn x A va vb r
 |seq {l:List B2} {d:B2} {as bs} (t:Bool):Reads x.s.heap vb (cond t (.tuple l) (.list l)) bs→Reads x.s.heap va d as→B2.canLayAll0 l=true→d.canLay0=true→d.depth=0→(l.any λy=>B2.eqv y d)=r→Nn x A va vb r
theorem XN{va vb:Bj}{a b:V}{r:Bool}(ha:x.VV va a)(hb:x.VV vb b)(e:lB x.σ a b=some r):Nn x A va vb r:=by
 refine DA e λd h1 e=>DA e λq h2 e=> ?_;rw [Er h1] at ha;obtain ⟨p,o,vs,w,g,sh,hv⟩:=Gk hb h2;obtain ⟨hd,l⟩:=q
 have seq: ∀t:Bool,(∀as m,ReadsAll x.s.heap vs (EY.toPys m) as→ ∃as,Reads x.s.heap vb (cond t (.tuple (EY.toPys m)) (.list (EY.toPys m))) as)→(DN (Mr l) λl=>GA (atom d&&atoms l) (some (La d l)))=some r→Nn x A va vb r:=λt rd e=>by
  refine DA e λm h3 e=>DY e λh4 e=> ?_;refine Dl (band h4) λf1 f2=> ?_;rw [show l=m.map V.d from Pb h3] at hv;refine D3 (DV.reads x.R.keep ha (Gc f1).1) λas ra=> ?_;refine D3 (DS.reads x.R.keep (GC.xV hv) (MV f2)) λbs rb=> ?_;refine D3 (rd bs m rb) λbs rb=> ?_;exact De e (.seq t rb ra (Op m (MV f2)) (Ip d (Gc f1).1) (Gc f1).2 (gJ ha f1 (GC.xV hv) f2))
 cases hd with
 |inst=>exact DC e
 |tup=>
  obtain ⟨e1,_,n,e2⟩:=sh;exact seq true (λas m r=>(EF _ (by refine C9 w ?_;exact .tuple (e1▸e2▸g) rfl rfl (by exact C9 BG r)))) e
 |lst=>
  obtain ⟨e1,_,n,e2⟩:=sh;exact seq false (λas m r=>(EF _ (by refine C9 w ?_;exact .list (e1▸e2▸g) rfl rfl (by exact C9 BG r)))) e
 |Dg k ks=>
  refine DA e λkey h3 e=>DY e λh4 e=> ?_;obtain ⟨e1,e2,e3⟩:=sh;rw [←e1] at g e2;rw [←Ye key e3.big.2] at e;cases L4 e3 (JS h3 ha) (nb h4) with
  |one knd m k k1 k2 k3 k4 k5=>exact De e (.one w k1 e2 (mapOf g k2) (by (exact C9 k4 rfl)))
  |two a i j xs t u n k1 k2 k3 k4 k5 k6 k7 k8=>exact De e (.two w k1 (Im x.R.keep k2) e2 (IK x.R.keep g k4 k5 k6) (by rw [←k7,Option.isSome_map]))
theorem Ec{A:Bs}{n m:Nat}(h:A.units+n<B3)(l:m≤n):A.units+m<B3:=Ρ (BF l _) h
theorem bJ{va vb:Bj}{r:Bool}{Q:Bj→Bl→Prop}(hu:A.units+2<B3)(w:Nn x A va vb r)(h: ∀t,Q (.bool r) {x.s with toks:=t}):Bp (Bq c.prog c.w) A (compareOp .In va vb) Q E x.s:=by
 cases w with
 |one w k1 z d e=>subst w;exact wpAny_in_of k1 z d.mapOf (e▸h _)
 |two w w2 k z d e=>subst w;subst w2;exact wpAny_in_heap (B7 (Ec hu (by decide))) k z d (e▸h _)
 |seq t rb ra l1 l2 l3 e=>cases t with
  |true=>exact SeqAt.in_tuple_reads rb ra l1 l2 (by exact C9 l3<|C9 (Nat.min_zero _)<|(Ec hu (by decide):A.units+1<B3)) (e▸h _)
  |false=>exact SeqAt.in_list_reads rb ra l1 l2 (by exact C9 l3<|C9 (Nat.min_zero _)<|(Ec hu (by decide):A.units+1<B3)) (e▸h _)
theorem Sx{va vb:Bj}{r:Bool}{Q:Bj→Bl→Prop}(hu:A.units+2<B3)(w:Nn x A va vb r)(h: ∀t,Q (.bool (!r)) {x.s with toks:=t}):Bp (Bq c.prog c.w) A (compareOp .NotIn va vb) Q E x.s:=by
 cases w with
 |one w k1 z d e=>subst w;exact wpAny_notIn_of k1 z d.mapOf (e▸h _)
 |two w w2 k z d e=>subst w;subst w2;exact wpAny_notIn_heap (B7 (Ec hu (by decide))) k z d (e▸h _)
 |seq t rb ra l1 l2 l3 e=>cases t with
  |true=>exact SeqAt.notIn_tuple_reads rb ra l1 l2 (by exact C9 l3<|C9 (Nat.min_zero _)<|(Ec hu (by decide):A.units+1<B3)) (e▸h _)
  |false=>exact SeqAt.notIn_list_reads rb ra l1 l2 (by exact C9 l3<|C9 (Nat.min_zero _)<|(Ec hu (by decide):A.units+1<B3)) (e▸h _)
theorem NX{value slice:Expr}{o i:Bj}{T id:String}{Q:Bj→Bl→Prop}(hT:s.TypeIs o T)(hl:Cu (.type T) "__getitem__" =pure (some (.builtin id)))
  (h:Bp (Bq c.prog c.w) A (getItem o i) Q E s):Bp (Bq c.prog c.w) A (subscriptTail value slice o i) Q E s:=by
 have go: ∀ops,Bp (Bq c.prog c.w) A (operate ops (getItem o i)) (λr G7=>Bp (Bq c.prog c.w) A (letTemporaryGo value o r>>=λO=>pure r) Q E G7) E s:=λops=>
  Co (Bu h (λr G7 X2=>Bk (wpAny_letTemporaryGo (Bn X2))) λO O x=>x)
 unfold subscriptTail;refine Bk ?_;refine C9 (getitemInPython_of_ne hT.not_modules) ?_;refine Bk (CU hT hl ?_)
 have fin:Bp (Bq c.prog c.w) A (subscripted slice false o i) (λr G7=>Bp (Bq c.prog c.w) A (letTemporaryGo value o r>>=λO=>pure r) Q E G7) E s:=by
  cases slice with
  |Slice _ _ u _=>cases u with
   |none=>exact go _
   |some=>exact go _
  |_=>exact go _
 first
  |exact Bn (Bk fin)
  |exact Bk (Bn (Bk fin))
  |exact Bk fin
theorem aD{l:List V}{n:Int}{y:V}(e:qL l n=some y): ∃k:Nat,n=k∧l[k]?=some y:=by
 cases n with
 |ofNat k=>exact (DM k rfl e)
 |negSucc k=>exact DC e
theorem QS{n k:Nat}(h1:n<k):seqIndex? (n:Int) k=some n:=by
 unfold seqIndex?
 have: ¬(n:Int)<0:=by lia
 simp only [if_neg this];exact C9 (if_pos (by simp only [A4,decide_eq_true_eq];lia)) rfl
theorem cw{n:Nat}(h:n≤big):(n:Int)<2^63:=by unfold big at h;lia
theorem Xq{value slice:Expr}{vo vi:Bj}{o i r:V}{Q:Bj→Bl→Prop}(hu:A.units+2<B3)(ho:x.VV vo o)(hi:x.VV vi i)(e:E8 x.σ o i=some r)(h:Ok x x.σ r Q):Bp (Bq c.prog c.w) A (subscriptTail value slice vo vi) Q E x.s:=by
 refine DA e λd h1 e=>DA e λq h2 e=> ?_;rw [Er h1] at hi;obtain ⟨p,ob,vs,w,g,sh,hv⟩:=Gk ho h2;obtain ⟨hd,l⟩:=q
 have nt:DN (Yb d) (qL l)=some r→ ∃(n:Nat) (t:Tok) (val:Bj),vi= .int n t∧n<vs.length∧vs[n]?=some val∧x.VV val r:=λe=>by
  refine DA e λi h3 e=> ?_;refine DQ (aD e) λn w2 e=> ?_;refine DQ (hv.get e) λval z1 z2=> ?_;rw [Gq h3,w2] at hi;cases (hi:DV c x.hf vi (.int n)) with
  |int _ t=>exact (Ea n t val rfl (FK z1) z1 z2)
 subst w;cases hd with
 |inst=>exact DC e
 |lst=>
  obtain ⟨e1,hb,m,e2⟩:=sh;subst e2;refine Do (nt e) λn t val w2 lt z1 z2=> ?_;subst w2;have hq:=Dn (e1▸g);exact NX hq.typeIs PySem.slot_list_getitem.lookup (wpAny_getItem_list hq (AP n) (cw (Υ (AY lt) hb)) (by simpa using z1) (h.here z2 _))
 |tup=>
  obtain ⟨e1,hb,m,e2⟩:=sh;subst e2;refine Do (nt e) λn t val w2 lt z1 z2=> ?_;subst w2;have hq:=Yn (e1▸g);exact NX hq.typeIs slot_tuple_getitem.lookup (getItem_tuple hq (by have:=AP n;exact AP _) (cw (Υ (AY lt) hb)) (QS (by simpa using lt)) (by simpa using z1) (h.here z2 _))
 |Dg k ks=>
  refine DA e λkey h3 e=>DY e λh4 e=> ?_;obtain ⟨e1,e2,e3⟩:=sh;refine DQ (hv.Xl e) λval z1 z2=> ?_;refine C9 e1 ?_;refine NX (e3.typeIs g) PySem.slot_dict_getitem.lookup ?_;cases L4 e3 (JS h3 hi) (nb h4) with
  |one knd m k k1 k2 k3 k4 k5=>exact wpAny_getItem_of k1 (mapOf g k2).mapOf (k4.trans z1) (h.here z2 _)
  |two a i j xs t u n k1 k2 k3 k4 k5 k6 k7 k8=>
   subst k1;refine DQ (Option.map_eq_some_iff.mp (k7.trans z1)) λp hp w3=> ?_;exact wpAny_getItem_heap (knd:=CN (B9 c.prog c.w)) (B7 (Ec hu (by decide))) (Im x.R.keep k2) (IK x.R.keep g k4 k5 k6) hp (w3.symm▸h.here z2 _)
end
end
section
mutual open A
variable{c:Cx}{hf:HF}{A:Bs}{s:Bl}{E:Bj→Bl→Prop}{x:St c}
theorem E6{v:Bj}{i:Int}(h:DV c hf v (.int i)): ∃t,v= .int i t:=by cases h with|int _ t=>exact (EF t rfl)
theorem IQ{v:Bj}{b:Bool}(h:DV c hf v (.bool b)):v= .bool b:=by cases h;rfl
theorem KN{v:Bj}(h:DV c hf v .none):v= .none:=by cases h;rfl
theorem MO{a:V}(h:isNone a=true):a= .d .none:=by
 cases a with
 |cell=>exact ζ h
 |d d=>cases d<;>first|rfl|exact ζ h
theorem Rq{v:Bj}{a:V}(h:x.VV v a):plainIs v .none=true∧(v==Bj.none)=isNone a:=by
 cases a with
 |cell=>exact let ⟨_,_,w⟩:=h;w▸⟨rfl,rfl⟩
 |d d=>cases (h:DV c x.hf v d)<;>exact ⟨rfl,rfl⟩
def Lw:C4→Nat
 | .Eq=>0| .NotEq=>1| .Lt=>2| .LtE=>3| .Gt=>4| .GtE=>5| .Is=>6| .IsNot=>7| .In=>8| .NotIn=>9
theorem Jb{a b:V}{f:Int→Int→Bool}{r:Bool}{va vb:Bj}(ha:x.VV va a)(hb:x.VV vb b)(e:aX a b f=some r): ∃i j t u,va= .int i t∧vb= .int j u∧r=f i j:=by
 refine DA e λd h1 e=>DA e λi h2 e=>DA e λd' h3 e=>DA e λj h4 e=> ?_;rw [Er h1,Gq h2] at ha;rw [Er h3,Gq h4] at hb;exact let ⟨t,w⟩:=E6 ha;let ⟨u,w'⟩:=E6 hb;(RS i j t u w w' ((η e).symm))
theorem MC(op:C4){va vb:Bj}{a b:V}{r:Bool}{Q:Bj→Bl→Prop}(hu:A.units+64<B3)(ha:x.VV va a)(hb:x.VV vb b)
  (e:FG x.σ (Lw op) a b=some r) (h: ∀t,Q (.bool r) {x.s with toks:=t}):Bp (Bq c.prog c.w) A (compareOp op va vb) Q E x.s:=by
 cases op with
 |Eq=>exact eR hu (WJ ha hb e) (h _)
 |NotEq=>exact DY e λh1 e=>DA e λr' h2 e=>De (P:=λr=>(∀t,Q (.bool r) {x.s with toks:=t})→_) e (λh=>bk hu (WJ ha hb h2) h1 (h _)) h
 |In=>exact bJ (Ec hu (by decide)) (XN ha hb e) h
 |NotIn=>exact DA e λr' h2 e=>De (P:=λr=>(∀t,Q (.bool r) {x.s with toks:=t})→_) e (λh=>Sx (Ec hu (by decide)) (XN ha hb h2) h) h
 |Is=>
  refine DY e λh1 e=> ?_;rw [MO h1] at hb;refine Dl (Rq ha) λp1 p2=> ?_;refine C9 (KN hb) ?_;exact wpAny_is_plain p1 (by exact C9 p2<|C9 (η e)<|h _)
 |IsNot=>
  refine DY e λh1 e=> ?_;rw [MO h1] at hb;refine Dl (Rq ha) λp1 p2=> ?_;refine C9 (KN hb) ?_;exact wpAny_isNot_plain p1 (by exact C9 p2<|C9 (η e)<|h _)
 |Lt=>refine JG (Jb ha hb e) λi j t u cB NY jB=> ?_;subst cB;subst NY;subst jB;exact PySem.P.lt_int (h _)
 |LtE=>refine JG (Jb ha hb e) λi j t u cB NY jB=> ?_;subst cB;subst NY;subst jB;exact PySem.P.le_int (h _)
 |Gt=>refine JG (Jb ha hb e) λi j t u cB NY jB=> ?_;subst cB;subst NY;subst jB;exact PySem.P.gt_int (h _)
 |GtE=>refine JG (Jb ha hb e) λi j t u cB NY jB=> ?_;subst cB;subst NY;subst jB;exact PySem.P.ge_int (h _)
def fj:Operator→Nat
 | .Add=>0| .Sub=>1| .Mult=>2| .FloorDiv=>3| .Mod=>4|_=>9
theorem KL{i:Int}(h:small i=true): -(2^62)≤i∧i<2^62:=let ⟨a,b⟩:=band h;⟨of_decide_eq_true a,of_decide_eq_true b⟩
theorem Uj{i:Int}(h:small i=true):Builtin.Int.intBits i≤64:=have ⟨a,b⟩:=KL h;PySem.intBits_le_64 (by lia) (by lia)
theorem Nm{i:Int}(h:small i=true):i.natAbs.log2<63:=by
 refine Dl (KL h) λa b=> ?_
 by_cases h0:i.natAbs=0
 ·refine C9 h0 ?_;decide+kernel
 ·exact (Nat.log2_lt h0).mpr (by lia)
theorem RD{i j:Int}(h:small j=true):Builtin.divisionGoesByPylong i j=false:=PyProof.noPylong_of_log2 (AQ (Nm h) (by decide))
theorem RQ{j:Int}(h:(!Dj j 0)=true):j≠0:=λz=>by rw [z] at h;exact ζ h
theorem iU{vs us:List Bj}{l m:List D}(a:KY c hf vs l)(b:KY c hf us m)(h:Ε (l.length+m.length) big=true):(vs++us).length≤big:=by
 exact C9 ε<|C9 a.length<|C9 b.length<|φ h
theorem wg(vs us:List Bj):vs.toArray++us.toArray=(vs++us).toArray:=by simp
theorem R5{vs us:List Bj}(h:(vs++us).length≤big):vs.toArray.size+us.toArray.size≤sizeLine:=by
 rw [ε] at h;refine C9 Ν<|C9 Ν<|C9 Bw ?_;unfold big at h;exact X1 h rfl
theorem Ok.push{vs:List Bj}{l:List D}{hd:Hd}{o:Obj}{Q:Bj→Bl→Prop}(k:Ok x x.σ (.d (.nd hd l)) Q)(hv:KY c x.hf vs l)(fr:o.isFreed=false)(sh: ∀Fh,Xj c Fh (x.s.heap.objs.size,x.s.heap.objs.size) o hd vs):Q (.ref x.s.heap.objs.size) {x.s with heap:=x.s.heap.push o}:=
 have kp: ∀b o',x.s.heap.get? b=some o'→(x.s.heap.push o).get? b=some o':=λO O e=>Β _ e
 k.new kp (Dc _) (Ξ _ fr) (.nd (p:=(x.s.heap.objs.size,x.s.heap.objs.size)) (GK _ _ _) (sh _) (hv.PF (Hn (x.R.fresh (Dc _)).1))) x.s.toks
theorem iV{q q':Br}{vs us:List Bj}{n m:Nat}{l m':List D}{Q:Bj→Bl→Prop}(g1:x.s.heap.get? q=some (GW vs n))(g2:x.s.heap.get? q'=some (GW us m))(a1:KY c x.hf vs l)(b1:KY c x.hf us m')(a2:DV c x.hf (.ref q) (.nd .tup l))(b2:DV c x.hf (.ref q') (.nd .tup m'))
  (hz:(vs++us).length≤big) (h:Ok x x.σ (.d (.nd .tup (l++m'))) Q):Bp (Bq c.prog c.w) A (binaryOp .Add (.ref q) (.ref q')) Q E x.s:=by
 by_cases e1:vs= []
 ·subst e1
  cases a1;exact Cw (DM _ g1 rfl) (DM _ g2 rfl) PySem.noFill_tuple_add PySem.seq_tuple_add PySem.F.slot_tuple_add PySem.F.entry_tuple_add (PySem.F.args_tuple_add_2 _ _) (AutoSeq1.tuple___add___tuple_tuple_0 _ _ _ _ _ _ rfl) ⟨g1,g2,h.Mg b2⟩
 ·by_cases e2:us= []
  ·subst e2
   cases b1;rw [υ] at h;exact Cw (DM _ g1 rfl) (DM _ g2 rfl) PySem.noFill_tuple_add PySem.seq_tuple_add PySem.F.slot_tuple_add PySem.F.entry_tuple_add (PySem.F.args_tuple_add_2 _ _) (AutoSeq1.tuple___add___tuple_tuple_1 _ _ _ _ _ _ (by simpa using e1) rfl) ⟨g1,g2,h.Mg a2⟩
  ·refine Cw (DM _ g1 rfl) (DM _ g2 rfl) PySem.noFill_tuple_add PySem.seq_tuple_add PySem.F.slot_tuple_add PySem.F.entry_tuple_add (PySem.F.args_tuple_add_2 _ _) (AutoSeq1.tuple___add___tuple_tuple_2 _ _ _ _ _ _ (by simpa using e1) (by simpa using e2) (R5 hz)) ⟨g1,g2, ?_⟩
   refine C9 (wg _ _) ?_;exact h.push (a1.append b1) rfl λO=>⟨rfl,hz,0,rfl⟩
theorem UO{op:Operator}{i j k:Int}{t u:Tok}{Q:Bj→Bl→Prop}(h4:kn (fj op) i j=some k)(hh: ∀t,Q (.int k t) {x.s with toks:=x.s.toks+1}):Bp (Bq c.prog c.w) A (binaryOp op (.int i t) (.int j u)) Q E x.s:=by
 have hq: ∀{k' t},some k'=some k→Q (.int k' t) {x.s with toks:=x.s.toks+1}:=λw=>(η w)▸hh _;cases op with
 |Add=>exact PySem.P.add_int (hq h4)
 |Sub=>exact PySem.P.sub_int (hq h4)
 |Mult=>exact DY h4 λh5 h4=>PySem.P.mul_int (hq h4) (IntMulOk.of_left (Uj (band h5).1))
 |FloorDiv=>exact DY h4 λh5 h4=>floordiv_int (RQ (band h5).1) (hq h4) (.inl (RD (band h5).2))
 |Mod=>exact DY h4 λh5 h4=>PyProof.Rows.mod_int (RQ h5) (hq h4)
 |_=>exact DC h4
theorem gQ{h h':Hd}(e:heq h h'=true):(h= .tup∧h'= .tup)∨h= .lst∧h'= .lst:=by
 cases h with
 |tup=>cases h' with|tup=>exact .inl ⟨rfl,rfl⟩|_=>exact ζ e
 |lst=>cases h' with|lst=>exact .inr ⟨rfl,rfl⟩|_=>exact ζ e
 |_=>exact ζ e
theorem aE{n:Nat}{d d' z:D}(e:s8 n d d'=some z):(∃i j k,d= .int i∧d'= .int j∧kn n i j=some k∧z= .int k)∨ ∃h h' l m,d= .nd h l∧d'= .nd h' m∧n=0∧heq h h'=true∧Ε (l.length+m.length) big=true∧z= .nd h (l++m):=by
 cases d with
 |int i=>cases d' with
  |int j=>exact DA e λk h4 e=> .inl (Ea i j k rfl rfl h4 (η e).symm)
  |_=>exact DC e
 |nd h l=>cases d' with
  |nd h' m=>exact DY e λh4 e=> .inr (Gs h h' l m rfl rfl (nb (band (band h4).1).1) ((band (band h4).1).2) ((band h4).2) ((η e).symm))
  |_=>exact DC e
 |_=>exact DC e
theorem ZA(op:Operator){va vb:Bj}{a b r:V}{Q:Bj→Bl→Prop}(ha:x.VV va a)(hb:x.VV vb b)(e:Mx (fj op) a b=some r)(h:Ok x x.σ r Q):Bp (Bq c.prog c.w) A (binaryOp op va vb) Q E x.s:=by
 refine DA e λd h1 e=>DA e λd' h2 e=>DA e λz h3 e=> ?_;rw [Er h1] at ha;rw [Er h2] at hb;have ha:DV c x.hf va d:=ha;have hb:DV c x.hf vb d':=hb;rw [←η e] at h;clear e h1 h2;refine (aE h3).elim (λq=>Do q λi j k w1 w2 h4 w3=> ?_) λq=>Hk q λhd Yi l m w1 w2 h4 h5 hz w3=> ?_
 ·rw [w1] at ha
  rw [w2] at hb;rw [w3] at h;refine D3 (E6 ha) λt w4=>D3 (E6 hb) λu w5=> ?_;refine C9 w4<|C9 w5 ?_
  exact UO h4 λt=>h.here (DV.int k t) _
 ·rw [w1] at ha
  rw [w2] at hb;rw [w3] at h;have w:op= .Add:=by cases op with|Add=>rfl|_=>exact Α h4
  refine C9 w ?_;clear h3 w1 w2 w3 h4 w;obtain ⟨p,o,vs,w,g,sh,hv⟩:=ha.shape;obtain ⟨p',o',us,w',g',v4,hu⟩:=hb.shape;have hz:=iU hv hu hz;have g:=x.R.keep _ _ g;have g':=x.R.keep _ _ g';rw [w] at ha ⊢;rw [w'] at hb ⊢;rcases gQ h5 with e|e
  ·rw [e.1] at sh h ha
   rw [e.2] at v4 hb;have ⟨e1,_,n,e2⟩:=sh;have ⟨f1,_,n',f2⟩:=v4;exact iV (e2▸e1▸g) (f2▸f1▸g') hv hu ha hb hz h
  ·rw [e.1] at sh h
   rw [e.2] at v4;have ⟨e1,_,n,e2⟩:=sh;have ⟨f1,_,n',f2⟩:=v4;exact PySem.P.add_list (e2▸e1▸g) (f2▸f1▸g') (by exact C9 (wg _ _)<|h.push (hv.append hu) rfl λO=>⟨rfl,hz,0,rfl⟩) (R5 hz)
theorem TG{va:Bj}{a:V}{b:Bool}{Q:Bool→Bl→Prop}(ha:x.VV va a)(e:G1 x.σ a=some b)(h: ∀t,Q b {x.s with toks:=t}):Bp (Bq c.prog c.w) A (truthy va) Q E x.s:=by
 have sq:(DN (JE x.σ a) λl=>some (!l.isEmpty))=some b→Bp (Bq c.prog c.w) A (truthy va) Q E x.s:=λe=>by
  refine DA e λl h1 e=> ?_;obtain ⟨q,vs,n,w,g,hb,hv⟩:=UL ha h1;refine C9 w ?_;refine wpAny_truthy_list (Dn g) (by refine C9 Ν ?_;unfold big at hb;lia) ?_;exact C9 (show (!vs.toArray.isEmpty)=b from (by rw [List.isEmpty_toArray,N5 hv];exact η e))<|h _
 cases a with
 |cell i=>exact sq e
 |d d=>cases d with
  |bool=>exact C9 (IQ ha)<|B1 (η e▸h _)
  |int i=>
   refine D3 (E6 ha) λt Fi=> ?_;subst Fi;exact PySem.P.truthy_int (by exact C9 (show (i !=0)=b from (show (!(i==0))=b by rw [Wp];exact η e))<|h _)
  |_=>exact sq e
end
end
section
mutual open A
structure KF(K:B4)(CL:Nat→Br):Prop where
 ga: ∀c,(DX c).isEmpty=false→CV K (.ref (CL c)) "__getattribute__" =some (some (.builtin "object.__getattribute__"))
 cd: ∀c,(DX c).isEmpty=false→(clsIn K (CL c)).any (·.hasDict)=true
 na: ∀c a,a∈DX c→CV K (.ref (CL c)) (nm a)=some none
 sa: ∀c,(DX c).isEmpty=false→CV K (.ref (CL c)) "__setattr__" =some (some (.builtin "object.__setattr__"))
 po: ∀c,(DX c).isEmpty=false→plainOver K (CL c)=true
end
section
mutual open A
variable{c:Cx}{hf:HF}{A:Bs}{s:Bl}{E:Bj→Bl→Prop}{x:St c}{K:B4}{o:Obj}{as jt:List Nat}{vs D4:List Bj}
theorem DS.Jw{α β:Type}{R:α→β→Prop}{a:Nat}{u:α}{w:β}(hu:R u w)(as:List Nat): ∀{vs:List α} {l:List β},DS R vs l→DS R (Jw as vs a u) (Jw as l a w):=by
 induction as with
 |nil=>intro vs l h;exact h
 |cons y as ih=>intro vs l h;cases h with
  |nil=>exact .nil
  | @cons u' w' vs l a' b=>
   show DS R (cond (μ y a) (u::vs) (u'::Mine.Internal.Jw as vs a u)) (cond (μ y a) (w::l) (w'::Mine.Internal.Jw as l a w));cases μ y a with
   |true=>exact .cons hu b
   |false=>exact .cons a' (ih b)
theorem DS.Dt{α β:Type}{R:α→β→Prop}{a:Nat}{w:β}(as:List Nat): ∀{vs:List α} {l:List β},DS R vs l→Dt as l a=some w→ ∃u,Dt as vs a=some u∧R u w:=by
 induction as with
 |nil=>intro vs l h e;cases l<;>exact DC e
 |cons y as ih=>intro vs l h e;cases h with
  |nil=>exact DC e
  | @cons u' w' vs l a' b=>
   have e:cond (μ y a) (some w') (Mine.Internal.Dt as l a)=some w:=e
   show∃u,cond (μ y a) (some u') (Mine.Internal.Dt as vs a)=some u∧R u w
   cases z:μ y a with
   |true=>rw [z] at e;exact (DM u' rfl (η e▸a'))
   |false=>rw [z] at e;exact ih b e
theorem PZ(h:Ix o as vs){a:Nat}(ha:a<Fw.length):lookIn (nm a) o=some (Dt as vs a):=by
 obtain ⟨es,ep,hd,hk,_,hf⟩:=h.ex
 have z2:(es.toList.find? λd=>d.key.isStr (nm a)).map (·.val)=Dt as vs a:=by
  refine Dr (hf a ha) ?_;unfold nsFind findBy;obtain ⟨l⟩:=es;simp
 unfold lookIn;refine C9 hd ?_;dsimp only;cases hfi:es.toList.find? (λx=>x.key.isStr (nm a)) with
 |some e=>rw [hfi] at z2;exact Dr z2 rfl
 |none=>
  rw [hfi] at z2;refine Dr z2 ?_;dsimp only;rw [if_neg]
  ·rfl
  ·intro w
   obtain ⟨e,he,hr⟩:=List.any_eq_true.mp w;obtain ⟨n,t,ht⟩:=hk e (Array.mem_toList_iff.mp he);unfold DictEntry.refKey at hr;rw [ht] at hr;exact ζ hr
theorem ZJ{v:Bj}{a:V}(h:x.VV v a):handedIn v=true:=by
 cases a with
 |d d=>cases (h:DV c x.hf v d)<;>rfl
 |cell=>exact DQ h λO O w=>w▸rfl
theorem Tw(F:KF K c.CL)(X:K.In x.s.heap){v:Bj}{r b:V}{a:Nat}{expr:Bool}{Q:Bj→Bl→Prop}(hv:x.VV v r)(e:Hj x.σ r a=some b)(h:Ok x x.σ b Q):Bp (Bq c.prog c.w) A (getAttr v (nm a) expr) Q E x.s:=by
 refine wr λZ0 z0=> ?_;refine DA e λq h1 e=> ?_;obtain ⟨p,d,o,vs,w,g1,g2,ho,Hx⟩:=WG hv h1;have ha:=O4 e;refine DQ (Hx.Dt _ e) λval z1 z3=> ?_;refine DQ (any_some (F.cd q.1 (Gf ha))) λcd xM hhd=> ?_;refine z0 ?_;refine C9 w ?_;refine get_value X (od:=some o) ⟨g1,rfl,rfl,g2⟩ (F.ga q.1 (Gf ha)) (v:=val) ?_ (ZJ z3) (h.here z3 _);unfold findObj;refine C9 xM<|C9 (BX _ _)<|C9 (F.na q.1 a ha)<|C9 (BX _ _) ?_
 dsimp only;refine C9 (BX _ _)<|C9 (BX _ _) ?_
 unfold W.ownOf;refine C9 hhd<|C9 (if_pos rfl) ?_
 dsimp only;refine C9 (PZ ho (PI ha))<|C9 z1 ?_
 rfl
structure aT(as:List Nat)(vs:List Bj)(a:Nat)(v:Bj)(jt:List Nat)(D4:List Bj):Prop where
 look: ∀b,Dt jt D4 b=if b=a then some v else Dt as vs b
 old:(∃u,Dt as vs a=some u)→D4.length=vs.length
 new:Dt as vs a=none→D4.length=vs.length+1
 len:jt.length=D4.length
 lim:D4.length≤100
theorem Ix.put{a:Nat}(hash:Int)(t:Tok){v:Bj}(h:Ix o as vs)(ha:a<Fw.length)(u:aT as vs a v jt D4):Ix (Obj.putName (nm a) hash (.str (nm a) t) v o) jt D4:=by
 obtain ⟨es,ep,hd,hk,hz,hf⟩:=h.ex;obtain ⟨cl,d,dt,sl⟩:=o;subst hd
 have look: ∀b,b<Fw.length→Dt jt D4 b=if nm b=nm a then some v else nsFind es (nm b):=by
  intro b Oi;refine C9 (u.look _)<|C9 (hf b Oi) ?_
  by_cases q:b=a
  ·(exact C9 (if_pos q)<|C9 (if_pos (q▸rfl)) rfl)
  ·rw [if_neg q,if_neg λe=>q (J7 Oi ha e)]
 have hfa:=hf a ha;refine ⟨?_,u.len,u.lim⟩;cases hi:es.findIdx? (·.key.isStr (nm a)) with
 |some i=>
  have hs: ∃u,Dt as vs a=some u:=by
   rw [←hfa,nsFind,findBy_of_findIdx?,hi];obtain ⟨lt,_⟩:=Array.findIdx?_eq_some_iff_getElem.mp hi;exact ⟨es[i].val,by simp [Array.getElem?_eq_getElem lt]⟩
  refine ⟨_,ep,by simp only [Obj.putName_eq,Obj.putNameByArray,hi];rfl,hk.modify _ _,by (exact C9 Array.size_modify<|C9 hz<|C9 (u.old hs) rfl),λb Oi=> ?_⟩;refine C9 (look b Oi) ?_;exact findBy_modify (λn v=>v.isStr n) Bj.isStr_inj es (nm a) (nm b) v i hi
 |none=>
  have hs:Dt as vs a=none:=by rw [←hfa,nsFind,findBy_of_findIdx?,hi]
  refine ⟨_,ep+1,by simp only [Obj.putName_eq,Obj.putNameByArray,hi];rfl,hk.push _ _ _ _,by (exact C9 (Array.size_push _)<|C9 hz<|C9 (u.new hs) rfl),λb Oi=> ?_⟩;refine C9 (look b Oi) ?_
  exact findBy_push (λn v=>v.isStr n) es (nm a) (nm b) _ _ v (λy=>by
   show (nm a==y)=decide (y=nm a)
   by_cases h:y=nm a
   ·subst h;simp
   ·have: ¬nm a=y:=λe=>h e.symm
    simp [h,this]) hi
theorem UR{α:Type}{a:Nat}{v u:α}{as:List Nat}: ∀{vs:List α},Dt as vs a=some u→(∀b,Dt as (Jw as vs a v) b=if b=a then some v else Dt as vs b)∧(Jw as vs a v).length=vs.length:=by
 induction as with
 |nil=>intro vs e;cases vs<;>exact DC e
 |cons y as ih=>intro vs e;cases vs with
  |nil=>exact DC e
  |cons w vs=>
   have e:cond (μ y a) (some w) (Dt as vs a)=some u:=e;show (∀b,Dt (y::as) (cond (μ y a) (v::vs) (w::Jw as vs a v)) b=if b=a then some v else cond (μ y b) (some w) (Dt as vs b))∧(cond (μ y a) (v::vs) (w::Jw as vs a v)).length=_;cases z:μ y a with
   |true=>
    refine ⟨λb=> ?_,rfl⟩;show cond (μ y b) (some v) (Dt as vs b)=_
    by_cases q:b=a
    ·exact C9 (if_pos q)<|C9 q<|C9 z rfl
    ·exact C9 (if_neg q)<|C9 (jM λw=>q (w.symm.trans (nb z))) rfl
   |false=>
    rw [z] at e;refine Dl (ih e) λi1 i2=> ?_;refine ⟨λb=> ?_,congrArg (· +1) i2⟩;show cond (μ y b) (some w) (Dt as (Jw as vs a v) b)=_;refine C9 (i1 b) ?_
    by_cases q:b=a
    ·exact C9 (if_pos q)<|C9 (if_pos q)<|C9 q<|C9 z rfl
    ·(exact C9 (if_neg q)<|C9 (if_neg q) rfl)
theorem aT.nc{a:Nat}{v u:Bj}(ho:Ix o as vs)(e:Dt as vs a=some u):aT as vs a v as (Jw as vs a v):=
 Dl (UR (v:=v) e) λi1 i2=>
 ⟨i1,λO=>i2,λh=>DC (h.symm.trans e),ho.len.trans i2.symm,i2▸ho.lim⟩
theorem Ix.ne(h:Ix o as vs): ∃es ep,o.data= .dict es ep∧es.size≤100∧StrKeys es:=Ib h.ex λes ep h1 h2 h3 O=>(EK es ep h1 (h3▸h.lim) h2)
theorem NQ(F:KF K c.CL)(X:K.In s.heap){q d:Br}{cl a:Nat}{v:Bj}{Q:Unit→Bl→Prop}(hq:s.heap.get? q=some (CB (c.CL cl) d))(hd:s.heap.get? d=some o)(ho:Ix o as vs)
  (ha:a∈DX cl) (up:aT as vs a v jt D4) (h: ∀t h' o',Bz.SameBut d s.heap h'→h'.get? d=some o'→Ix o' jt D4→Q () {s with heap:=h',toks:=t}):
  Bp (Bq c.prog c.w) A (setAttr (.ref q) (nm a) v) Q E s:=by
 have I:W.InstAt s.heap q (CB (c.CL cl) d) (c.CL cl) (some o):=⟨hq,rfl,rfl,hd⟩;refine set_plain X I (F.sa cl (Gf ha)) ?_;have I':W.InstAt {s with toks:=s.toks+1}.heap q (CB (c.CL cl) d) (c.CL cl) (some o):=I;have X':K.In {s with toks:=s.toks+1}.heap:=X;have ht:takerIn K (c.CL cl) (nm a)=some none:=by unfold takerIn;exact C9 (F.na cl a ha) rfl
 refine osa_open X' I' (F.po cl (Gf ha)) ht λb=> ?_;refine DQ (any_some (F.cd cl (Gf ha))) λcd hc Yi=> ?_;refine Bk (Bn (Bk (Bk (wpAny_loadPart hq (Bk ((looks_clsIn X' hc).here ?_))))));refine C9 Yi ?_;refine Bn (a:=some d) (Bk (Bn (Bk ?_)));unfold nsSet;have hd2:{s with toks:=s.toks+1}.heap.get? d=some o:=hd;refine Bk (Bk (wpAny_askSetting (Bn (Bk (wpAny_mkText (Bk (wpAny_loadPart hd2 ?_)))))));refine D0 ho.ne λes ep e1 e2 e3=> ?_;refine C9 e1 ?_;dsimp only
 have c0:es.any (·.refKey)=false:=by
  refine C9 (propext (Array.any_eq_false')) ?_;intro e he;refine HY (e3 e he) λn t h=> ?_;simp [DictEntry.refKey,h]
 refine C9 (aRefKeyMayBeTheName_at _ _)<|C9 c0<|C9 (Bool.and_false _) ?_
 refine wpAny_updatePart hd2 ?_;have P:=ho.put (B2.keyHash c.w.params (nm a)) (s.toks+1) (PI ha) up;refine D0 P.ne λel yq f1 f2 f3=> ?_;have D':=BT (Obj.putName (nm a) (B2.keyHash c.w.params (nm a)) (.str (nm a) (s.toks+1)) v) hd (Obj.isFreed_of_dict f1);refine Bk (wpAny_lookBehind D' (by refine C9 f1 ?_;exact pastItsLine_dict (by exact C9 Bw<|X1 f2 rfl)) ?_);exact Bn (h _ _ _ (Bz.SameBut.update ..) D' P)
theorem F5.av{ρ:RH}{σ:Store}{h:Bz}(X:K.In c.h₀)(R:F5 c hf ρ σ h):K.In h:=X.keeps λb o e=>R.keep b o (R.base b o e)
end
end
end
section
mutual open A
variable{c:Cx}{A:Bs}{s:Bl}{E:Bj→Bl→Prop}{x:St c}{K:B4}
theorem Om(F:KF K c.CL)(X:K.In c.h₀){vo vv:Bj}{o v:V}{a:Nat}{DT:Store}{Q:Unit→Bl→Prop}(ho:x.VV vo o)(hv:x.VV vv v)
  (e:LG x.σ o a v=some DT) (h:Did x DT (Q ())):Bp (Bq c.prog c.w) A (setAttr vo (nm a) vv) Q E x.s:=by
 refine DP e λd DD KT e=>II KT hv λFh R' l dv=>DA e λr h1 e=>DA e λcl h2 e=>DA e λu h3 e=> ?_;obtain ⟨p,ob,vs,w,hp,hk,g,sh,Hx,hn⟩:=NL (ho.le l) h1;rw [MS h2] at sh hk;refine DQ (Hx.Dt _ h3) λval z O=> ?_;refine C9 w ?_;refine NQ F (R'.av X) (R'.keep _ _ sh.1) g sh.2 (O4 h3) (.nc sh.2 z) λt h' o' hs hg qH=> ?_;exact Did.turn (k':= .lv (.inst cl) (Jw (DX cl) r.2.2 a (.d d))) (h.after l) (η e) hk rfl hp hs rfl (FJ hn o' _ hg ⟨sh.1,qH⟩ (Hx.Jw (a:=a) (w:= .d d) dv _)) t
theorem RJ{l:Br}{vs:List Bj}{n:Nat}{k:Int}{t:Tok}{v:Bj}{Q:Unit→Bl→Prop}(hl:s.heap.get? l=some (E3 vs n))(h0:0≤k)(sQ:k<2^63)(hn:k<vs.length)
  (hQ: ∀h',(∃m,h'.get? l=some (E3 (vs.set k.toNat v) m))→Bz.SameBut l s.heap h'→Q () {s with heap:=h'}):Bp (Bq c.prog c.w) A (setItem (.ref l) (.int k t) v) Q E s:=by
 have hL:=Dn hl;unfold setItem
 try with_reducible refine Bt ?_
 first|refine Bk (Bn ?_)|skip
 refine Bk (wpAny_sequenceKey hL.typeIs (by decide) ?_);refine Bk (wpAny_callSpecial?_slot (name:=θ "__setitem__") hL.typeIs slot_list_setitem (Ce slot_list_setitem hL.typeIs entry_list_setitem ?_ (args_list_setitem _ _ _)));show Bp _ _ (Builtin.List.listSubscript? (.int k t)>>=_) _ _ s;refine Bk (wpAny_listSubscript_int (fitsIndex_of h0 sQ) ?_);clear sQ;refine D3 (Int.eq_ofNat_of_zero_le h0) λj Fi=> ?_;subst Fi;have hj:j<vs.toArray.size:=by simp;lia
 show Bp _ _ ((seqItemAt l j>>=λr=>pure (r.map (j,·)))>>=_) _ _ s;refine Bk (Bk (wpAny_seqItemAt hl rfl (Bn ?_)));refine C9 (Array.getElem?_eq_getElem hj) ?_;show Bp _ _ (setSeqItemAt l j v>>=_) _ _ s;have up:IsL (s.heap.update l (Obj.mapSeq (·.setIfInBounds j v))) l (vs.toArray.setIfInBounds j v) _:=IsL.update hl _;rw [List.setIfInBounds_toArray] at up;have fin:=hQ (s.heap.update l (Obj.mapSeq (·.setIfInBounds j v))) (EF _ up) (Bz.SameBut.update ..);refine Bk (wpAny_setSeqItemAt hl rfl ?_)
 first
  |exact Bk (Bn (Bn (DM .none rfl (Bn fin))))
  |exact Bn (DM .none rfl (Bn fin))
theorem YY{l l':List V}{d:D}{i:Int}(e:mD l d i=some l'): ∃n:Nat,i=n∧n<l.length∧l'=l.set n (.d d):=by
 cases i with
 |ofNat n=>exact DY e λh e=>(ED n rfl (Ds.mp h) ((η e).symm))
 |negSucc=>exact DC e
theorem Kk{n m:Nat}(h:n<big)(e:m=n):m≤sizeLine:=by refine C9 e<|C9 Bw ?_;unfold big at h;exact Pv h rfl
theorem Ox(hu:A.units+2<B3){vo vi vv:Bj}{o i v:V}{DT:Store}{Q:Unit→Bl→Prop}(ho:x.VV vo o)(hi:x.VV vi i)(hv:x.VV vv v)
  (e:GL x.σ o i v=some DT) (h:Did x DT (Q ())):Bp (Bq c.prog c.w) A (setItem vo vi vv) Q E x.s:=by
 refine DP e λd DD KT e=>II KT hv λFh R' l dv=>DA e λr h1 e=>DA e λkd h2 e=>DA e λq h3 e=> ?_;obtain ⟨p,ob,vs,w,hp,hk,g,sh,Hx,hn⟩:=NL (ho.le l) h1;have hi:=hi.le l;rw [Er h2] at hi;have h:=h.after l;have es:=η e;clear e KT h1 h2;obtain ⟨j,hd,m⟩:=r;refine C9 w ?_;cases hd with
 |Dg kk ks=>
  refine DA h3 λkey h4 e=>DY e λh5 e=> ?_;refine Dl (band h5) λh5 h6=> ?_;obtain ⟨s1,s2,s3⟩:=sh;have Eb:vs.length<big:=s3.big.2▸Ds.mp h6
  have fin: ∀h' t,(∃o',h'.get? p.2=some o'∧EB c Fh o' kk (D2 ks key) (Dz ks vs key vv))→Bz.SameBut p.2 x.s.heap h'→Q () {x.s with heap:=h',toks:=t}:=λh' t ⟨o',Jx,iO⟩ hs=>
   Did.turn (k':= .lv (.Dg kk (D2 ks key)) (Dz ks m key (.d d))) h ((congrArg (λq:Hd×List V=>Q2 DD j q.1 q.2) (η e)).trans es) hk rfl hp hs rfl (FJ hn o' _ Jx ⟨s1,s2,iO⟩ (Hx.put (x:=key) (w:= .d d) dv ks)) t
  refine C9 s1 ?_;cases L4 s3 (JS h4 hi) (nb h5) with
  |one knd m k k1 k2 k3 k4 k5=>exact wpAny_setItem_pairs k1 (mapOf g k2) (λh' hm hs=>fin h' _ (DQ (BI.mp hm) λo' Jx iO=>(DM o' Jx (k5 vv o' Eb iO))) hs) (Kk Eb k3)
  |two a i j xs t u n k1 k2 k3 k4 k5 k6 k7 k8=>
   subst k1;exact wpAny_setItem_heap (knd:=CN (B9 c.prog c.w)) (B7 (Ec hu (by decide))) (Im R'.keep k2) (IK R'.keep g k4 k5 k6) (λh' hm hs=>fin h' _ (IW hm λo' es ep Jx d1 d2 d3 O O=>(DM o' Jx (k8 vv o' Eb (EK es ep d1 d2 d3)))) hs) (Kk Eb ((ι ..).trans k3))
 |lst=>
  refine DA h3 λn h4 e=>DA e λm' h5 e=> ?_;refine ES (YY h5) λn' w2 lt ij=> ?_;subst ij;rw [Gq h4,w2] at hi;refine D3 (E6 hi) λt Fi=> ?_;subst Fi;obtain ⟨s1,s2,nn,s3⟩:=sh;subst s3;refine C9 s1 ?_;have lt':n'<vs.length:=Hx.length▸lt;refine RJ g (AP n') (cw (Υ (AY lt') s2)) (by lia) λh' ⟨m2,hm⟩ hs=> ?_;exact Did.turn (k':= .lv .lst (m.set n' (.d d))) h ((congrArg (λq:Hd×List V=>Q2 DD j q.1 q.2) (η e)).trans es) hk rfl hp hs rfl (FJ hn _ _ hm ⟨s1,by exact C9 Φ<|s2,m2,rfl⟩ (show DS (VV c Fh (x.ρ.take j)) (vs.set n' vv) (m.set n' (V.d d)) from DS.set (u:=vv) (y:=V.d d) dv Hx n')) x.s.toks
 |_=>exact DC h3
inductive n4(x:St c)(v:Bj)(i:Nat)(l:List V):Prop
 |mk (p:Br×Br) (vs:List Bj) (n:Nat) (w:v= .ref p.2) (hp:x.ρ[i]?=some p) (hk:x.σ[i]?=some (.lv .lst l)) (g:x.s.heap.get? p.2=some (E3 vs n)) (hb:vs.length≤big) (hv:DS (VV c x.hf (x.ρ.take i)) vs l) (hn:x.hf p.2=none) (s1:p.1=p.2)
theorem eF{v:Bj}{a:V}{r:Nat×List V}(hv:x.VV v a)(e:ol x.σ a=some r):n4 x v r.1 r.2:=by
 refine DA e λq h1 e=>DY e λh2 e=> ?_;obtain ⟨p,ob,vs,w,hp,hk,g,sh,Hx,hn⟩:=NL hv h1;rw [ah h2] at hk sh;obtain ⟨s1,s2,n,rfl⟩:=sh;exact De e ⟨p,vs,n,s1▸w,hp,hk,g,s2,Hx,hn,s1⟩
inductive mh(x:St c)(v:Bj)(l:List D)(DT:Store):Prop
 |mk (i:Nat) (p:Br×Br) (vs:List Bj) (n:Nat) (m:List V) (w:v= .ref p.2) (hp:x.ρ[i]?=some p) (hk:x.σ[i]?=some (.lv .lst m)) (g:x.s.heap.get? p.2=some (E3 vs n)) (hv:DS (VV c x.hf (x.ρ.take i)) vs m) (hn:x.hf p.2=none) (s1:p.1=p.2) (lt:vs.length+l.length<big) (e:DT=x.σ.set i (.lv .lst (m++l.map .d)))
theorem Vj{v:Bj}{a:V}{l:List D}{DT:Store}(hv:x.VV v a)(e:G8 x.σ a l=some DT):mh x v l DT:=by
 refine DA e λr h1 e=>DY e λh2 e=> ?_;obtain ⟨p,vs,n,w,hp,hk,g,s2,Hx,hn,s1⟩:=eF hv h1;exact ⟨r.1,p,vs,n,r.2,w,hp,hk,g,Hx,hn,s1,Hx.length▸Ds.mp h2,(η e).symm⟩
theorem Qy{vo vv:Bj}{o v:V}{DT:Store}{Q:Bj→Bl→Prop}(ho:x.VV vo o)(hv:x.VV vv v)(e:Px x.σ o v=some DT)(h:Did x DT (Q .none)):Bp (Bq c.prog c.w) A (call (.builtin "list.append") [vo,vv]) Q E x.s:=by
 refine DP e λd DD KT e=>II KT hv λFh R' l dv=> ?_;obtain ⟨i,p,vs,n,m,rfl,hp,hk,g,Hx,hn,s1,lt,rfl⟩:=Vj (ho.le l) e;refine Ch PySem.F.slot_list_append (DM _ g rfl) PySem.F.entry_list_append (PySem.F.args_list_append_2 _ _) (list_append p.2 vs.toArray n vv (by refine C9 Ν<|C9 Bw ?_;simp only [List.length_singleton] at lt;unfold big at lt;exact zqD lt rfl)) ⟨g, ?_⟩;have this:=IsL.update (g:IsL x.s.heap p.2 vs.toArray n) (λx=>x.push vv);rw [List.push_toArray] at this;exact Did.turn (k':= .lv .lst (m++ [V.d d])) (h.after l) rfl hk rfl hp (Bz.SameBut.update ..) rfl (FJ hn _ (vs++ [vv]) this ⟨s1,by exact C9 ε<|AY lt,_,rfl⟩ (Hx.append (DS.cons (b:=V.d d) dv .nil))) x.s.toks
theorem X4{vo:Bj}{o r:V}{DT:Store}{Q:Bj→Bl→Prop}(ho:x.VV vo o)(e:pS x.σ o=some (r,DT))(h:Ok x DT r Q):Bp (Bq c.prog c.w) A (call (.builtin "list.pop") [vo]) Q E x.s:=by
 refine DA e λq h1 e=>DA e λy hy e=> ?_;obtain ⟨p,vs,n,rfl,hp,hk,g,s2,Hx,hn,s1⟩:=eF ho h1;cases e;refine DQ (Hx.last hy) λu hu huy=> ?_;have RP:vs≠ []:=by rintro rfl;cases hu
 have hp0:=List.length_pos_iff.mpr RP;refine Ch PySem.F.slot_list_pop (DM _ g rfl) PySem.F.entry_list_pop (PySem.F.args_list_pop_1 _) (MeetsSeq.list_pop_last p.2 vs.toArray n u (by rw [BE] at hu;simpa using hu) (by refine C9 Ν<|C9 Bw ?_;unfold big at s2;exact X1 s2 rfl)) ⟨g, ?_⟩;have this:=IsL.update (g:IsL x.s.heap p.2 vs.toArray n) (λxs=>xs.eraseIdxIfInBounds (vs.toArray.size - 1))
 rw [show vs.toArray.eraseIdxIfInBounds (vs.toArray.size - 1)=vs.dropLast.toArray by
  (exact C9 (List.eraseIdxIfInBounds_toArray _ _)<|C9 Ν<|C9 (List.eraseIdx_eq_take_drop_succ _ _)<|C9 List.dropLast_eq_take<|C9 (List.drop_eq_nil_of_le (by lia))<|C9 (υ _) rfl)] at this
 exact Did.turn (k':= .lv .lst q.2.dropLast) (Q:=λs'=>Q u s') (λz lz ez=>h u z lz ez (VV.le huy.up lz)) rfl hk rfl hp (Bz.SameBut.update ..) rfl (FJ hn _ vs.dropLast this ⟨s1,by refine C9 List.length_dropLast ?_;lia,_,rfl⟩ Hx.dropLast) x.s.toks
theorem LU{vo vv:Bj}{o:V}{l:List D}{DT:Store}{Q:Bj→Bl→Prop}(ho:x.VV vo o)(hv:DV c x.hf vv (.nd .lst l))(e:G8 x.σ o l=some DT)(h:Did x DT (Q .none)):Bp (Bq c.prog c.w) A (call (.builtin "list.extend") [vo,vv]) Q E x.s:=by
 obtain ⟨i,p,vs,n,m,rfl,hp,hk,g,Hx,hn,s1,lt,rfl⟩:=Vj ho e;obtain ⟨a,ob,us,rfl,ha,⟨s2,hb,n',rfl⟩,Tc⟩:=hv.shape;have hu:=Tc.length;refine Ch PySem.F.slot_list_extend (DM _ g rfl) PySem.F.entry_list_extend (PySem.F.args_list_extend_2 _ _) (AutoSeq1.list_extend_list_list_0 p.2 vs.toArray n a.1 us.toArray n' ?_ ?_ ?_) ⟨g,s2▸x.R.keep _ _ ha, ?_⟩
 ·(refine C9 (show Builtin.List.listTooLong (vs.toArray.size+us.toArray.size)=false by
   unfold Builtin.List.listTooLong;rw [Ν,Ν,Bw];exact decide_eq_false (by unfold big at lt;lia))<|C9 (Bool.and_false _) ?_)
  decide
 ·refine C9 Ν<|C9 Bw ?_;unfold big at lt;exact zqD lt rfl
 ·refine C9 Ν<|C9 Ν<|C9 Bw ?_;unfold big at lt;lia
 ·have this:=IsL.update (g:IsL x.s.heap p.2 vs.toArray n) (λx=>x++us.toArray)
  rw [wg] at this;exact Did.turn (k':= .lv .lst (m++l.map V.d)) h rfl hk rfl hp (Bz.SameBut.update ..) rfl (FJ hn _ (vs++us) this ⟨s1,by refine C9 ε ?_;lia,_,rfl⟩ (Hx.append (KY.sY Tc))) x.s.toks
end
end
section
mutual open A
variable{c:Cx}{hf:HF}{A:Bs}{s:Bl}{E:Bj→Bl→Prop}{x:St c}
theorem Nt{vs:List Bj}(h:vs.length≤big):vs.toArray.size≤sizeLine:=by refine C9 Ν<|C9 Bw ?_;unfold big at h;exact X1 h rfl
theorem YV{va:Bj}{a:V}{q:Hd×List V}{n:Nat}{Q:Bj→Bl→Prop}(ha:x.VV va a)(e1:G4 x.σ a=some q)(e:tn q.2 q.1=some n)(h: ∀u t,Q (.int n u) {x.s with toks:=t}):Bp (Bq c.prog c.w) A (call (.builtin "len") [va]) Q E x.s:=by
 obtain ⟨p,o,vs,rfl,g,sh,hv⟩:=Gk ha e1;obtain ⟨hd,l⟩:=q;cases hd with
 |inst=>exact DC e
 |lst=>
  obtain ⟨s1,s2,m,rfl⟩:=sh;exact Calls.call_len_list (Dn (s1▸g)) (by refine C9 Ν ?_;unfold big at s2;lia) (by exact C9 Ν<|C9 hv.length<|C9 (η e)<|h _ _)
 |tup=>
  obtain ⟨s1,s2,m,rfl⟩:=sh;exact PySem.P.len_tuple (s1▸g) (by refine C9 Ν ?_;unfold big at s2;lia) (by exact C9 Ν<|C9 hv.length<|C9 (η e)<|h _ _)
 |Dg k ks=>
  refine DY e λh1 e=> ?_;obtain ⟨s1,s2,s3⟩:=sh;have hb:=s3.big;have en:vs.length=n:=hb.2.symm.trans (η e);cases s3 with
  |pr=>exact ζ h1
  |np _ b1 b2 b3=>
   have hl:=b3.len.1.trans en;exact call_len_dict (s1▸s2) (mapOf (s1▸g) b2) (by refine C9 hl<|Dr en ?_;unfold big at b1;lia) (by exact C9 hl<|h _ _)
theorem YL{va:Bj}{us:List Bj}{a r:V}{vs:List V}{Q:Bj→Bl→Prop}(hu:A.units+2<B3)(ha:x.VV va a)(Tc:x.GC us vs)(e:aA x.σ a vs=some r)(h:Ok x x.σ r Q):Bp (Bq c.prog c.w) A (call (.builtin "dict.get") (va::us)) Q E x.s:=by
 refine DA e λq h1 e=> ?_;obtain ⟨p,o,ws,rfl,g,z,ho,hv⟩:=K1 ha h1;cases Tc with
 |nil=>exact DC e
 |cons a1 a2=>
  refine DA e λd h2 e=>DA e λkey h3 e=>DY e λh4 e=> ?_;rw [Er h2] at a1;have lkp:=hv.look key q.2.1
  have fin: ∀(r':Option Bj) (dv:Bj) (dw:V) t,x.VV dv dw→(DU q.2.1 q.2.2 key).getD dw=r→r'=DU q.2.1 ws key→Q (r'.getD dv) {x.s with toks:=t}:=λr' dv dw t hd er w=>by
   subst w;refine h.here ?_ t;refine Dr er ?_;rcases lkp with ⟨z1,z2⟩|⟨u,y,z1,z2,z3⟩
   ·exact C9 z1<|C9 z2 hd
   ·exact C9 z1<|C9 z2 z3
  cases a2 with
  |nil=>
   have fin:=λr' t=>fin r' .none (.d .none) t .none (η e);cases L4 ho (JS h3 a1) (nb h4) with
   |one knd m k k1 k2 k3 k4 k5=>exact CX PySem.F.slot_dict_get (ho.typeIs g) PySem.F.entry_dict_get (PySem.F.args_dict_get_2 _ _) (meets_dict_get knd p k1 z) (DM _ ((mapOf g k2).mapOf) (fin _ _ k4))
   |two b i j xs t u n k1 k2 k3 k4 k5 k6 k7 k8=>
    subst k1;exact CX PySem.F.slot_dict_get (ho.typeIs g) PySem.F.entry_dict_get (PySem.F.args_dict_get_2 _ _) (meetsH_dict_get (CN (B9 c.prog c.w)) p b z) (FJ (B7 (Ec hu (by decide):A.units+1<B3)) _ _ (Im x.R.keep k2) (IK x.R.keep g k4 k5 k6) (fin _ _ k7))
  | @cons dv dw _ _ b1 b2=>cases b2 with
   |cons=>exact DC e
   |nil=>
    have fin:=λr' t=>fin r' dv dw t b1 (η e);cases L4 ho (JS h3 a1) (nb h4) with
    |one knd m k k1 k2 k3 k4 k5=>exact CX PySem.F.slot_dict_get (ho.typeIs g) PySem.F.entry_dict_get (PySem.F.args_dict_get_3 _ _ _) (meets_dict_get_default knd p k1 z dv) (DM _ ((mapOf g k2).mapOf) (fin _ _ k4))
    |two b i j xs t u n k1 k2 k3 k4 k5 k6 k7 k8=>
     subst k1;exact CX PySem.F.slot_dict_get (ho.typeIs g) PySem.F.entry_dict_get (PySem.F.args_dict_get_3 _ _ _) (meetsH_dict_get_default (CN (B9 c.prog c.w)) p b z dv) (FJ (B7 (Ec hu (by decide):A.units+1<B3)) _ _ (Im x.R.keep k2) (IK x.R.keep g k4 k5 k6) (fin _ _ k7))
theorem TN{va:Bj}{l:List D}{Q:Bj→Bl→Prop}(ha:DV c x.hf va (.nd .lst l))(h:Ok x x.σ (.d (.nd .tup l)) Q):Bp (Bq c.prog c.w) A (call (.type "tuple") [va]) Q E x.s:=by
 obtain ⟨p,o,vs,rfl,g,⟨s1,s2,n,rfl⟩,hv⟩:=ha.shape;refine call_tuple_list (Dn (s1▸x.R.keep _ _ g)) (λh' k=> ?_) (Nt s2);have k2: ∀b o,x.s.heap.get? b=some o→(h'.push (GW vs 0)).get? b=some o:=λb o e=>Β _ (k b o e);exact h.new k2 (IH k (Dc h')) (Ξ _ rfl) (.nd (p:=(h'.objs.size,h'.objs.size)) (GK _ _ _) ⟨rfl,s2,0,rfl⟩ (hv.PF (Hn (x.R.fresh (IH k (Dc h'))).1))) x.s.toks
theorem UJ{va:Bj}{l:List D}{Q:Bj→Bl→Prop}(ha:DV c x.hf va (.nd .lst l))(h:Ok x x.σ (.d (.nd .lst l)) Q):Bp (Bq c.prog c.w) A (call (.type "list") [va]) Q E x.s:=by
 obtain ⟨p,o,vs,rfl,g,⟨s1,s2,n,rfl⟩,hv⟩:=ha.shape;refine call_list_seq p.1 (.inl rfl) (s1▸x.R.keep _ _ g) rfl rfl (λh' c' k ho=> ?_) (Nt s2);exact h.new k (Dc _) ho (.nd (p:=(x.s.heap.objs.size,x.s.heap.objs.size)) (GK _ _ _) ⟨rfl,s2,c',rfl⟩ (hv.PF (Hn (x.R.fresh (Dc _)).1))) x.s.toks
theorem ZF{va:Bj}{i:Int}{Q:Bj→Bl→Prop}(ha:DV c hf va (.int i))(h: ∀u t,Q (.int i.natAbs u) {s with toks:=t}):Bp (Bq c.prog c.w) A (call (.builtin "abs") [va]) Q E s:=by
 refine D3 (E6 ha) λt Fi=> ?_;subst Fi;refine call_abs_int λu tk=> ?_;exact C9 (show (if i<0 then -i else i)=(i.natAbs:Int) by split<;>lia)<|h _ _
theorem Y8{va:Bj}{i:Int}{Q:Bj→Bl→Prop}(ha:DV c hf va (.int i))(h: ∀u,Q (.int i u) s):Bp (Bq c.prog c.w) A (call (.type "int") [va]) Q E s:=by
 refine D3 (E6 ha) λt Fi=> ?_;subst Fi;exact call_int_int (h _)
theorem Sp(d:D):Je d=true→plain d=true∧(EY d).showable=true∧(EY d).hasDict=false:=
 D.rec (motive_1:=λd=>Je d=true→plain d=true∧(EY d).showable=true∧(EY d).hasDict=false) (motive_2:=λl=>Je.N4 l=true→plain.FE l=true∧B2.showableAll (EY.toPys l)=true∧B2.hasDictAll (EY.toPys l)=false)
  (λO=>⟨rfl,rfl,rfl⟩) (λO e=>ζ e) (λi e=>⟨rfl,by
   have e:small i=true:=e
   have:=Nm e
   refine decide_eq_true ?_;exact IL this rfl,rfl⟩) (λO O=>⟨rfl,rfl,rfl⟩) (λO e=>ζ e) (λh l ih e=>by
   refine Dl (band e) λe1 e2=> ?_;refine C9 (XL e1) ?_;exact ih e2) (λO=>⟨rfl,rfl,rfl⟩) (λd l i1 i2 e=>by
   refine wr λZ0 z0=> ?_;refine Dl (band e) λe1 e2=> ?_;refine ET (i1 e1) λa1 a2 a3=> ?_;refine ET (i2 e2) λb1 b2 b3=> ?_;refine z0 ?_;exact ⟨by show (plain d&&plain.FE l)=true;exact C9 a1<|C9 b1 rfl,by show ((EY d).showable&&B2.showableAll (EY.toPys l))=true;exact C9 a2<|C9 b2 rfl,by show ((EY d).hasDict||B2.hasDictAll (EY.toPys l))=false;exact C9 a3<|C9 b3 rfl⟩) d
theorem U'{va:Bj}{l:List D}{r:V}{Q:Bj→Bl→Prop}(hg:A.guards=some [])(hu:A.units+64<B3)(ha:DV c x.hf va (.nd .tup l))(e:Pp (.nd .tup l)=some r)(h:Ok x x.σ r Q):Bp (Bq c.prog c.w) A (call (.builtin "repr") [va]) Q E x.s:=by
 refine wr λZ0 z0=> ?_;refine DY e λh1 e=> ?_;refine Dl (band h1) λh1 h2=> ?_;refine Dl (band h1) λh1 h3=> ?_;refine ET (Sp _ h1) λp1 p2 p3=> ?_;refine D3 (DV.reads x.R.keep ha p1) λas ra=> ?_;obtain ⟨p,_,_,rfl,_⟩:=ha.shape;refine z0 ?_;have hd:=φ h3;have hz:=φ h2;rw [←η e] at h;exact repr_of_reads' ra p2 (λx=>by rw [p3] at x;cases x) hg (by refine C9 (Pe _) ?_;lia) (λO O x=>x) (λh' u tk k=>h.keeps k (DV.str _ _) tk) (by show (FW _).length≤_;exact C9 Bw<|X1 hz rfl)
end
end
section
mutual open A
def Kf(o:Obj):Bool:=match o.cls with
 | .type n=> !(["enumerate", "zip", "dict_itemiterator", "dict_reverseitemiterator", "odict_iterator", "itertools.zip_longest", "itertools.pairwise"].contains n)
 |_=>true
structure Wk(c:Cx)(free:Br→Prop)(hf:HF)(ρ:RH)(l:List D)(I:Br)(fp wr:List Br)(P:Nat→Bj→Prop)(S:Nat→Bz→Prop):Prop where
 W: ∀A:Bs,A.handled=none→C5 c.prog c.w A I fp wr l.length P S
 ex: ∀i h,S i h→(∃o,h.get? I=some o∧Kf o=true)∧ ∀b∈fp,∃o,h.get? b=some o
 dv: ∀(i:Nat) v d,P i v→l[i]?=some d→DV c hf v d
 f1: ∀b∈fp,(∃o,hf b=some o)∨b∈wr
 f2: ∀b∈wr,hf b=none∧(∀p∈ρ,p.2≠b)∧free b
def ER(c:Cx)(free:Br→Prop)(hf:HF)(ρ:RH)(it:Bj)(l:List D)(i:Nat)(h:Bz):Prop:= ∃I fp wr P S,it= .ref I∧Wk c free hf ρ l I fp wr P S∧S i h
end
section
mutual open A
variable{c:Cx}{free:Br→Prop}{hf Fh:HF}{ρ G9:RH}{A:Bs}{s:Bl}{E:Bj→Bl→Prop}{x y:St c}{K:B4}{it:Bj}{l:List D}{i:Nat}
theorem Wk.off{I:Br}{fp wr:List Br}{P:Nat→Bj→Prop}{S:Nat→Bz→Prop}(w:Wk c free hf ρ l I fp wr P S){b:Br}(hb:b∈wr)(q:(∃o,hf b=some o)∨(∃p∈ρ,p.2=b)∨ ¬free b){Z:Prop}:Z:=by
 refine ET (w.f2 b hb) λg1 g2 g3=> ?_;rcases q with ⟨o,q⟩|⟨p,hp,q⟩|q
 ·exact DC (g1.symm.trans q)
 ·exact absurd q (g2 p hp)
 ·exact absurd g3 q
theorem ER.J0{h h':Bz}{σ DT:Store}(w:ER c free hf ρ it l i h)(R:F5 c hf ρ σ h)(N:Ol hf ρ h Fh G9 h')(R':F5 c Fh G9 DT h'):ER c free Fh G9 it l i h':=by
 refine FT w λI fp wr P S e w st=> ?_;refine (GV I fp wr P S e ⟨w.W,w.ex,λi v d p q=>(w.dv i v d p q).mono N.kf,λb hb=>(w.f1 b hb).imp (λ⟨o,ho⟩=>(EF o (N.kf _ _ ho))) id,λb hb=> ?_⟩ ((w.W {} rfl).frame i h h' st λb hb o e=> ?_))
 ·refine ET (w.f2 b hb) λg1 g2 g3=> ?_
  refine D3 ((w.ex i h st).2 b ((w.W {} rfl).sub b hb)) λo ho=> ?_;refine ⟨?_,λp hp e=> ?_,g3⟩
  ·cases q:Fh b with
   |none=>rfl
   |some o'=>
    rcases N.FA b o' q with z|⟨p,hp,z⟩|z
    ·exact DC (g1.symm.trans z)
    ·exact absurd z (g2 p hp)
    ·exact DC (z.symm.trans ho)
  ·rcases N.EE p hp with ⟨q,hq,z⟩|z
   ·exact g2 q hq (z.trans e)
   ·exact DC (z.symm.trans (e▸ho))
 ·rcases w.f1 b hb with ⟨o',Jx⟩|n
  ·exact Dr (η ((R.keep _ _ Jx).symm.trans e))<|R'.keep _ _ (N.kf _ _ Jx)
  ·exact N.Ee b o e (w.f2 b n).2.1
theorem ER.more{h:Bz}{X:Br→Prop}(hx: ∀b,X b→h.get? b=none)(w:ER c free hf ρ it l i h):ER c (λb=>free b∧ ¬X b) hf ρ it l i h:=by
 refine FT w λI fp wr P S e w st=> ?_;refine (GV I fp wr P S e ⟨w.W,w.ex,w.dv,w.f1,λb hb=> ?_⟩ st);refine D3 ((w.ex i h st).2 b ((w.W {} rfl).sub b hb)) λo ho=> ?_;exact (XA ((w.f2 b hb).1) ((w.f2 b hb).2.1) ((w.f2 b hb).2.2) (λz=>DC ((hx b z).symm.trans ho)))
theorem ER.other{h h':Bz}{S:Br}(w:ER c free hf ρ it l i h)(k: ∀b o,b≠S→h.get? b=some o→h'.get? b=some o)(h1:hf S=none)(h2: ¬free S):ER c free hf ρ it l i h':=
 FT w λI fp wr P St e w st=>
 (GV I fp wr P St e w ((w.W {} rfl).frame i h h' st λb hb o e=>k b o (λz=>by
  subst z;rcases w.f1 b hb with ⟨o',q⟩|q
  ·exact DC (h1.symm.trans q)
  ·exact w.off q (.inr (.inr h2))) e))
theorem Wk.rel{I:Br}{fp wr:List Br}{P:Nat→Bj→Prop}{S:Nat→Bz→Prop}{σ:Store}{h h':Bz}(w:Wk c free hf ρ l I fp wr P S)(R:F5 c hf ρ σ h)(k: ∀b o,b ∉ wr→h.get? b=some o→h'.get? b=some o):F5 c hf ρ σ h':=
 R.Ef λb o e q=>k b o (λhb=>w.off hb (q.imp (λq=>(EF _ q)) .inl)) e
theorem ER.item{d:D}{Q:Option Bj→Bl→Prop}(hh:A.handled=none)(w:ER c free x.hf x.ρ it l i x.s.heap)(hi:l[i]?=some d)
  (h: ∀v s' (R:F5 c x.hf x.ρ x.σ s'.heap),DV c x.hf v d→ER c free x.hf x.ρ it l (i+1) s'.heap→(∀b o,¬free b→x.s.heap.get? b=some o→s'.heap.get? b=some o)→GB x.s s'→Q (some v) s'):
  Bp (Bq c.prog c.w) A (pyNext it) Q E x.s:=by
 refine FT w λI fp wr P S NY w st=> ?_;subst NY;clear w;exact (w.W A hh).item i x.s Q E (FK hi) st λv h' tk p qd k=>h v _ (w.rel x.R k) (w.dv i v d p hi) (GV I fp wr P S rfl w qd) (λb o e q=>k b o (λhb=>w.off hb (.inr (.inr e))) q) ⟨rfl,rfl,rfl⟩
theorem ER.done{Q:Option Bj→Bl→Prop}(hh:A.handled=none)(w:ER c free x.hf x.ρ it l l.length x.s.heap)
  (h: ∀s' (R:F5 c x.hf x.ρ x.σ s'.heap),(∀b o,¬free b→x.s.heap.get? b=some o→s'.heap.get? b=some o)→GB x.s s'→Q none s'):Bp (Bq c.prog c.w) A (pyNext it) Q E x.s:=by
 refine FT w λI fp wr P S NY w st=> ?_;subst NY;clear w;exact (w.W A hh).done x.s Q E st λh' tk k=>h _ (w.rel x.R k) (λb o e q=>k b o (λhb=>w.off hb (.inr (.inr e))) q) ⟨rfl,rfl,rfl⟩
theorem Jk{Q:Bj→Bl→Prop}(hh:A.handled=none)(w:ER c free hf ρ it l i s.heap)(h:Q it s):Bp (Bq c.prog c.w) A (pyIter it) Q E s:=by
 refine FT w λI fp wr P S NY w st=> ?_;subst NY;clear w;exact (w.W A hh).self i s Q E st h
abbrev H4(c:Cx)(hs:Bz):=ER c λb=>hs.get? b=none
def qY(x:St c)(DT:Store)(l:List D)(Q:Bj→Bl→Prop):Prop:= ∀it (y:St c),Le x y→y.σ=DT→H4 c x.s.heap y.hf y.ρ it l 0 y.s.heap→Q it y.s
theorem Qq{I:Br}{Z:Br→Prop}(h1:Z I): ∀b∈ [I],Z b:=λb hb=>ς.mp hb▸h1
theorem JL{I a:Br}{Z:Br→Prop}(h1:Z I)(h2:Z a): ∀b∈ [I,a],Z b:=λb hb=>by
 rcases ν.mp hb with e|e
 ·exact e▸h1
 ·exact Qq h2 b e
def St.JV(x:St c)(o:Obj):St c:=⟨x.hf,x.ρ,x.σ,{x.s with heap:=x.s.heap.push o},x.R.Ef λb o' e O=>Β _ e⟩
theorem F3(o:Obj):Le x (x.JV o):=⟨F9 _ _ λb o' e=>Β _ e,rfl,rfl,rfl⟩
theorem IO(fr:hf s.heap.objs.size=none∧ ∀p∈ρ,p.2≠s.heap.objs.size){h':Bz}{fp:List Br}{P:Nat→Bj→Prop}{S:Nat→Bz→Prop}(W: ∀A:Bs,A.handled=none→C5 c.prog c.w A s.heap.objs.size fp [s.heap.objs.size] l.length P S)(st:S 0 h')
  (ex: ∀i h,S i h→(∃o,h.get? s.heap.objs.size=some o∧Kf o=true)∧ ∀b∈fp,∃o,h.get? b=some o) (dv: ∀(i:Nat) v d,P i v→l[i]?=some d→DV c hf v d) (f1: ∀b∈fp,(∃o,hf b=some o)∨b∈ [s.heap.objs.size]):
  H4 c s.heap hf ρ (.ref s.heap.objs.size) l 0 h':=
 (GV _ fp _ P S rfl ⟨W,ex,dv,f1,Qq ⟨fr.1,fr.2,Dc _⟩⟩ st)
theorem qY.mk{Q:Bj→Bl→Prop}(k:qY x x.σ l Q){o:Obj}(w:H4 c x.s.heap x.hf x.ρ (.ref x.s.heap.objs.size) l 0 (x.JV o).s.heap):Q (.ref x.s.heap.objs.size) {x.s with heap:=x.s.heap.push o}:=k _ (x.JV o) (F3 o) rfl w
theorem LJ{o:Obj}{n:String}(h:o.cls= .type n)(e:(["enumerate", "zip", "dict_itemiterator", "dict_reverseitemiterator", "odict_iterator", "itertools.zip_longest", "itertools.pairwise"].contains n)=false):Kf o=true:=by unfold Kf;refine C9 h ?_;dsimp only;exact C9 e rfl
theorem eQ{K:Type}{rl:K→DO→Prop}{m:List (K×Bj)}{ks:List DO}{vs:List Bj}(h:Rows rl m ks vs): ∀{i:Nat} {k:K} {u:Bj} {z:DO},m[i]?=some (k,u)→ks[i]?=some z→rl k z:=by
 induction h with
 |nil=>intro i k u z e;exact DC (e:none=_)
 | @cons a b v l ks vs h1 _ ih=>
  intro i k u z e f;cases i with
  |zero=>have e:=η e;have f:=η f;cases e;cases f;exact h1
  |succ i=>exact ih e f
theorem Na{q:Br}{o:Obj}{k:Nat}{ks:List DO}{vs:List Bj}{Q:Bj→Bl→Prop}(fr:hf s.heap.objs.size=none∧ ∀p∈ρ,p.2≠s.heap.objs.size)(g:s.heap.get? q=some o)(ha:hf q=some o)(hz:(q==By)=false)(ho:EB c hf o k ks vs)(hn:np k=true)
  (h: ∀o',H4 c s.heap hf ρ (.ref s.heap.objs.size) (ks.map DO.d) 0 (s.heap.push o')→Q (.ref s.heap.objs.size) {s with heap:=s.heap.push o'}):Bp (Bq c.prog c.w) A (pyIter (.ref q)) Q E s:=by
 have RP:q≠s.heap.objs.size:=AW (Ad g);cases ho with
 |pr=>exact ζ hn
 | @np _ Kt _ knd rl m _ _ p _ hd r=>
  refine IE hd λes ep d1 d2 d3 d4 d5=> ?_;clear hd;have qH:s.heap.DictAt knd q m ep:=(ID o es g d1 d2 d3 d4 d5);refine wpAny_pyIter_dict hz qH (h _ (IO fr (fp:= [s.heap.objs.size,q]) (P:=λi v=> ∃k u,m[i]?=some (k,u)∧knd.is k v=true) (S:=λi h=>h.IsKeyIter s.heap.objs.size q i m.length ep∧h.DictAt knd q m ep) (λA hA=> ?_) ⟨(ED _ (Ξ _ rfl) rfl rfl),qH.at' λo e=>Β _ e⟩ ?_ ?_ (JL (.inr (.head _)) (.inl (EF _ ha)))))
  ·have W:=C5.dictKeys (prog:=c.prog) (w:=c.w) (knd:=knd) hA s.heap.objs.size q RP m ep
   refine C9 (ι _)<|C9 r.len.2<|Dr r.len.1 ?_
   exact W
  ·rintro i h ⟨⟨o,ho,hc,_⟩,⟨o',el,Jx,_⟩⟩
   exact ⟨(DM o ho (LJ hc (by decide))),JL (EF o ho) (EF o' Jx)⟩
  ·rintro i v d ⟨k,u,hk,hv⟩ q
   rw [Ay] at q;refine DQ (Option.map_eq_some_iff.mp q) λz hz w=> ?_;exact w▸p.val (eQ r hk hz) hv
theorem YW{q:Br}{o:Obj}{k:Nat}{ks:List DO}{vs:List Bj}{Q:Bj→Bl→Prop}(ha:x.hf q=some o)(hz:(q==By)=false)(ho:EB c x.hf o k ks vs)(hn:np k=true)(h:qY x x.σ (ks.map DO.d) Q):Bp (Bq c.prog c.w) A (pyIter (.ref q)) Q E x.s:=
 Na (x.R.fresh (Dc _)) (x.R.keep _ _ ha) ha hz ho hn λO w=>h.mk w
theorem PJ{v:Bj}{d:D}{Q:Bj→Bl→Prop}(hv:DV c x.hf v d)(e:KB d=some l)(h:qY x x.σ l Q):Bp (Bq c.prog c.w) A (pyIter v) Q E x.s:=by
 cases d with
 |nd hd m=>
  obtain ⟨p,o,vs,rfl,g,sh,Hx⟩:=hv.shape;have gg:=x.R.keep _ _ g;have RP:p.2≠x.s.heap.objs.size:=AW (Ad gg);have pN:vs.toArray.size=m.length:=(Ν ..).trans Hx.length;cases hd with
  |inst=>exact DC e
  |Dg k ks=>
   refine DY (x:=some (ks.map DO.d)) e λhn e=> ?_;rw [←η e] at h;exact YW (sh.s1▸g) (sh.s1▸sh.s2) sh.s3 hn h
  |lst=>
   obtain ⟨s1,s2,n,rfl⟩:=sh;rw [←η (e:some m=some l)] at h;refine C9 s1 ?_;refine wpAny_pyIter_list (Dn gg) (h.mk (IO (x.R.fresh (Dc _)) (fp:= [x.s.heap.objs.size,p.2]) (P:=λi v=>vs.toArray[i]?=some v) (S:=λi h=>h.IsListIter x.s.heap.objs.size p.2 i∧h.IsList p.2 vs.toArray) (λA hA=> ?_) ⟨(ED _ (Ξ _ rfl) rfl rfl),(Dn gg).at λo e=>Β _ e⟩ ?_ (λi v d p q=>Hx.pZ (by simpa using p) q) (JL (.inr (.head _)) (.inl (EF _ g)))))
   ·exact pN▸C5.list (prog:=c.prog) (w:=c.w) hA x.s.heap.objs.size p.2 RP vs.toArray
   ·rintro i h ⟨⟨o,ho,hc,_⟩,⟨o',Jx,_⟩⟩
    exact ⟨(DM o ho (LJ hc (by decide))),JL (EF o ho) (EF o' Jx)⟩
  |tup=>
   obtain ⟨s1,s2,n,rfl⟩:=sh;rw [←η (e:some m=some l)] at h;refine C9 s1 ?_;have ht:x.s.heap.IsTuple p.2 vs.toArray:=(JF _ gg rfl n rfl);refine wpAny_pyIter_tuple ht (h.mk (IO (x.R.fresh (Dc _)) (fp:= [x.s.heap.objs.size,p.2]) (P:=λi v=>vs.toArray[i]?=some v) (S:=λi h=>h.IsTupleIter x.s.heap.objs.size p.2 i∧h.IsTuple p.2 vs.toArray) (λA hA=> ?_) ⟨(ED _ (Ξ _ rfl) rfl rfl),(JF _ (Β _ gg) rfl n rfl)⟩ ?_ (λi v d p q=>Hx.pZ (by simpa using p) q) (JL (.inr (.head _)) (.inl (EF _ g)))))
   ·exact pN▸C5.tuple (prog:=c.prog) (w:=c.w) hA x.s.heap.objs.size p.2 RP vs.toArray
   ·rintro i h ⟨⟨o,ho,hc,_⟩,⟨o',Jx,_⟩⟩
    exact ⟨(DM o ho (LJ hc (by decide))),JL (EF o ho) (EF o' Jx)⟩
 |_=>exact DC e
theorem J3(n:Nat): ∀a:Int,(HV a n).length=n:=by
 induction n with
 |zero=>intro a;rfl
 |succ n ih=>intro a;exact congrArg (· +1) (ih _)
theorem U6(n:Nat): ∀(a:Int) (i:Nat) (d:D),(HV a n)[i]?=some d→d= .int (a+i):=by
 induction n with
 |zero=>intro a i d e;exact DC (e:none=_)
 |succ n ih=>
  intro a i d e;cases i with
  |zero=>exact Dr (η e)<|congrArg D.int (Int.add_zero a).symm
  |succ i=>exact C9 (ih _ i d e)<|congrArg D.int (by lia)
theorem Nr(a b:Int):Builtin.Range.rangeSize a b 1=((b - a).toNat:Int):=by
 unfold Builtin.Range.rangeSize;refine C9 (if_pos (by decide)) ?_
 split<;>lia
theorem KR{i:Int}(h:small i=true):Builtin.Range.rangeFitsLong i=true:=by
 refine Dl (KL h) λa b=> ?_;unfold Builtin.Range.rangeFitsLong;simp only [A4,decide_eq_true_eq]
 lia
theorem Ob{r:Br}{a b:Int}{t u v:Tok}{Q:Bj→Bl→Prop}(hr:IsRange x.s.heap r a b 1 t u v)(e:FU a b=some l)(h:qY x x.σ l Q):Bp (Bq c.prog c.w) A (pyIter (.ref r)) Q E x.s:=by
 refine wr λZ0 z0=> ?_;refine DY e λh1 e=> ?_;refine Dl (band h1) λh1 h2=> ?_;refine Dl (band h1) λha hb=> ?_;refine z0 ?_;have hn:=φ h2;rw [←η e] at h
 have hs:Builtin.Range.small a b 1=true:=by
  unfold Builtin.Range.small;refine C9 (KR ha)<|C9 (KR hb)<|C9 (Nr _ _) ?_
  have e1:Builtin.Range.rangeFitsLong 1=true:=by decide+kernel
  have e2:Builtin.Range.rangeFitsLong (((b - a).toNat:Nat):Int)=true:=by
   unfold Builtin.Range.rangeFitsLong;simp only [A4,decide_eq_true_eq];unfold big at hn;lia
  rw [e1,e2,if_pos (by decide),show b+(1 - 1)=b by exact Int.add_zero _,KR hb];simp
 refine wpAny_pyIter_range hr hs (h.mk (IO (x.R.fresh (Dc _)) (fp:= [x.s.heap.objs.size]) (P:=λi v=> ∃t,v= .int (a+i*1) t) (S:=λi h=>IsRangeIter h x.s.heap.objs.size (a+(i:Nat)*1) (((b - a).toNat:Int) - (i:Nat)) 1) (λA hA=> ?_) ?_ (λi h st=>⟨(DM _ st rfl),Qq (EF _ st)⟩) ?_ (Qq (.inr (.head _)))))
 ·exact C9 (J3 _ _)<|C5.range hA x.s.heap.objs.size a 1 (b - a).toNat
 ·refine C9 (Nr _ _) ?_
  have:=Ξ x.s.heap (o:={cls:= .type "range_iterator",data:= .fields #[C7 a,C7 ((b - a).toNat:Int),C7 1]}) rfl
  simpa [IsRangeIter,St.JV] using this
 ·rintro i v d ⟨t,rfl⟩ q
  refine C9 (U6 _ _ _ _ q)<|C9 (Int.mul_one _) ?_
  exact .int _ _
theorem Sm{v:Bj}{Q:Bj→Bl→Prop}(hv:DV c x.hf v (.nd .lst l))(h: ∀it (y:St c),Le x y→y.σ=x.σ→H4 c x.s.heap y.hf y.ρ it l.reverse 0 y.s.heap→y.s.TypeIs it "list_reverseiterator" →Q it y.s):Bp (Bq c.prog c.w) A (call (.type "reversed") [v]) Q E x.s:=by
 obtain ⟨p,o,vs,rfl,g,⟨s1,s2,n,rfl⟩,Hx⟩:=hv.shape;have gg:=x.R.keep _ _ g;have RP:p.2≠x.s.heap.objs.size:=AW (Ad gg);have pN:vs.toArray.size=l.length:=(Ν ..).trans Hx.length;refine C9 s1 ?_;refine call_reversed_list (Dn gg) (h _ (x.JV _) (F3 _) rfl (IO (x.R.fresh (Dc _)) (fp:= [x.s.heap.objs.size,p.2]) (P:=λi v=>vs.toArray[vs.toArray.size - 1 - i]?=some v) (S:=λi h=>i≤vs.toArray.size∧h.IsRevIter x.s.heap.objs.size p.2 ((vs.toArray.size:Int) - 1 - (i:Int))∧h.IsList p.2 vs.toArray) (λA hA=> ?_) ⟨AT _,(ED _ (Ξ _ rfl) rfl ?_),(Dn gg).at λo e=>Β _ e⟩ ?_ ?_ (JL (.inr (.head _)) (.inl (EF _ g)))) (DM _ (Ξ _ rfl) rfl))
 ·have W:=C5.listRev (prog:=c.prog) (w:=c.w) hA x.s.heap.objs.size p.2 RP vs.toArray
  refine C9 (show l.reverse.length=vs.toArray.size by rw [AX,pN]) ?_;exact W
 ·show Data.fields #[.ref p.2,C7 _]=_
  simp
 ·rintro i h ⟨_,⟨o,ho,hc,_⟩,⟨o',Jx,_⟩⟩
  exact ⟨(DM o ho (LJ hc (by decide))),JL (EF o ho) (EF o' Jx)⟩
 ·intro i v d p q
  have hi:=FK q;rw [AX] at hi;rw [List.getElem?_reverse hi] at q;rw [pN] at p;exact Hx.pZ (by simpa using p) q
end
end
end
section
mutual open A
theorem Vg:Cu (.type "list_reverseiterator") "__len__" =pure none:=by refine C9 (typeLookup_type _ _)<|C9 builtinLookup_eq_fast ?_;kernel_rfl
theorem aR:Cu (.type "list_reverseiterator") "__length_hint__" =pure (some (.builtin "list_reverseiterator.__length_hint__")):=by refine C9 (typeLookup_type _ _)<|C9 builtinLookup_eq_fast ?_;kernel_rfl
theorem SX:isSubtype (.type "list_reverseiterator") (.type "list_reverseiterator")=pure true:=by refine C9 (isSubtype_type _ _) ?_;kernel_rfl
theorem Ym:splitId "list_reverseiterator.__length_hint__" =some ("list_reverseiterator", "__length_hint__"):=by decide+kernel
theorem Ni:splitId "dict.__len__" =some ("dict", "__len__"):=by decide+kernel
end
section
mutual open A
variable{c:Cx}{hf:HF}{ρ:RH}{A:Bs}{s:Bl}{E:Bj→Bl→Prop}{x:St c}{it:Bj}{l:List D}
theorem Yf{v:Bj}{Q:Bool→Bl→Prop}(hT:s.TypeIs v "dict")(h:Q false s):Bp (Bq c.prog c.w) A (Builtin.List.listLengthHint v) Q E s:=by
 unfold Builtin.List.listLengthHint;refine Bk (CU hT PySem.F.slot_dict_len.lookup ?_);dsimp only;refine C9 Ni ?_;dsimp only;refine Bk (Cf hT PySem.F.kt_sub_dict ?_);refine C9 (if_neg (by decide: ¬(!true)=true)) ?_;refine C9 (if_pos (by decide+kernel)) ?_;exact Bk (CY hT (Bn h))
theorem cu{v:Bj}{Q:Bool→Bl→Prop}(hT:s.TypeIs v "list_reverseiterator")(h:Q false s):Bp (Bq c.prog c.w) A (Builtin.List.listLengthHint v) Q E s:=by
 unfold Builtin.List.listLengthHint;refine Bk (CU hT Vg ?_);dsimp only;refine C9 (if_neg (by decide+kernel))<|C9 (if_neg (by decide+kernel)) ?_
 refine Bk (CU hT aR ?_);dsimp only;refine C9 Ym ?_;dsimp only;refine Bk (Cf hT SX ?_);refine C9 (if_neg (by decide: ¬(!true)=true)) ?_;refine C9 (if_pos (by decide+kernel))<|C9 (if_neg (by decide+kernel)) ?_
 exact Bn h
theorem Rx{prog:Program}{w:World}{I:Br}{fp wr:List Br}{G:Array GenState→Array GenState→Prop}{n:Nat}{P:Nat→Bj→Prop}{St:Nat→Bl→Prop}(W:WalksS prog w A I fp wr G n P St)(pre:Array Bj):
  WalksS prog w A I fp wr G (pre.size+n) (λj v=>if j<pre.size then pre[j]?=some v else P (j - pre.size) v) (λj s=>pre.size≤j∧St (j - pre.size) s) where
 sub:=W.sub
 grefl:=W.grefl
 gtrans:=W.gtrans
 frame:=λi s h' tk st t k=>⟨st.1,W.frame _ _ _ _ st.2 t k⟩
 item:=λi s Q E hi st hQ=>W.item (i - pre.size) s Q E (by have:=st.1;lia) st.2 λv s' p qd m=>hQ v s' (by exact C9 (if_neg (by have:=st.1;lia)) p) ⟨Az st.1,by exact C9 (Nat.succ_sub st.1) qd⟩ m
 done:=λs Q E st hQ=>W.done s Q E (by have:=st.2;rw [Ω] at this;exact this) hQ
 self:=λi s Q E st hQ=>W.self _ s Q E st.2 hQ
theorem DS.tX{α β:Type}{R:α→β→Prop}{l:List α}: ∀{m:List β},l.length=m.length→(∀(i:Nat) u y,l[i]?=some u→m[i]?=some y→R u y)→DS R l m:=by
 induction l with
 |nil=>intro m e _;cases m with
  |nil=>exact .nil
  |cons=>exact Α e
 |cons a l ih=>intro m e h;cases m with
  |nil=>exact Α e
  |cons b m=>exact .cons (h 0 a b rfl rfl) (ih (AK.inj e) λi u y e1 e2=>h (i+1) u y e1 e2)
theorem SL{pre:List Bj}{P:Nat→Bj→Prop}(dv: ∀(i:Nat) v d,P i v→l[i]?=some d→DV c hf v d){acc:Array Bj}
  (h:ItemsOf (λj v=>if j<pre.toArray.size then pre.toArray[j]?=some v else P (j - pre.toArray.size) v) acc (pre.toArray.size+l.length)): ∃vs,acc=(pre++vs).toArray∧KY c hf vs l:=by
 refine Dl h λh1 h2=> ?_;clear h;rw [Ν] at h1;have Eb:acc.toList.length=pre.length+l.length:=(Array.length_toList ..).trans h1
 have e1:acc.toList.take pre.length=pre:=by
  apply List.ext_getElem?;intro j;refine C9 (Ab) ?_
  by_cases hj:j<pre.length
  ·refine C9 (if_pos hj) ?_
   have z9:j<acc.toList.length:=by lia
   have:=h2 j acc.toList[j] (by refine Dr (Array.getElem?_toList) ?_;exact Τ z9)
   dsimp only at this;rw [if_pos (by exact C9 Ν hj)] at this;refine C9 (Τ z9) ?_;simpa using this.symm
  ·(exact C9 (if_neg hj)<|C9 (List.getElem?_eq_none (At hj)) rfl)
 refine (DM (acc.toList.drop pre.length) (Array.toList_inj.mp ?_) (DS.tX (by (exact C9 List.length_drop<|C9 Eb<|C9 (Ω _ _) rfl)) λi u y f1 f2=>dv i u y ?_ f2))
 ·refine C9 (show (pre++acc.toList.drop pre.length).toArray.toList=pre++acc.toList.drop pre.length from rfl) ?_
  exact (List.take_append_drop pre.length acc.toList).symm.trans (by (exact C9 e1 rfl))
 ·rw [List.getElem?_drop] at f1
  have:=h2 (pre.length+i) u (by exact Dr (Array.getElem?_toList) f1)
  dsimp only at this;rw [Ν,if_neg (by lia),Ω] at this;exact this
theorem LB{hs:Bz}{S:Br}{pre:List Bj}{n:Nat}{res:Bj}{R:C8→Bl→Prop}(hh:A.handled=none)(w:H4 c hs hf ρ it l 0 s.heap)(hS:s.heap.get? S=some (E3 pre n))
  (hSo:hf S=none) (hSf:(∃p∈ρ,p.2=S)∨ ¬hs.get? S=none) (hz:pre.length+l.length≤2*big)
  (h: ∀s' vs n',KY c hf vs l→s'.heap.get? S=some (E3 (pre++vs) n')→(∀b o,b≠S→((∃o,hf b=some o)∨(∃q∈ρ,q.2=b)∨ ¬hs.get? b=none)→s.heap.get? b=some o→s'.heap.get? b=some o)→GB s s'→R (.ok (.ret res)) s'):
  Ci (Bq c.prog c.w) A (.builtin "list.extend.loop" ⟨[.ref S,it,res], []⟩) R s:=by
 refine FT w λI fp wr P St NY w st=> ?_;subst NY;clear w
 have yS:S ∉ fp:=λhm=>by
  rcases w.f1 S hm with ⟨o,q⟩|q
  ·exact DC (hSo.symm.trans q)
  ·exact w.off q (.inr hSf)
 have WS:=Rx ((w.W A.in1 hh).toS) pre.toArray;refine codeAny_extend_loopS WS (by refine C9 Ν<|C9 Bw ?_;unfold big at hz;exact X1 hz rfl) S yS res l.length pre.toArray.size s pre.toArray n (Ω ..) (by exact Ζ _ _) ⟨Ι _,by exact C9 (Ai _) st⟩ hS ⟨rfl,λj v e=> ?_⟩ λs' f9 n' m rP yD=> ?_
 ·dsimp only;exact C9 (if_pos (Array.getElem?_eq_some_iff.mp e).1) e
 ·refine DQ (SL w.dv yD) λvs Fi hv=> ?_;subst Fi
  refine h s' vs n' hv rP (λb o hb q e=>m.heap b o (λhm=> ?_) e) ⟨m.gens,m.drawn,m.os⟩;rcases ν.mp hm with z|z
  ·exact hb z
  ·exact w.off z q
theorem Lr{hs:Bz}{vo:Bj}{o:V}{DT:Store}{Q:Bj→Bl→Prop}(hh:A.handled=none)(ho:x.VV vo o)(w:H4 c hs x.hf x.ρ it l 0 x.s.heap)(hT:x.s.TypeIs it "list_reverseiterator")
  (e:G8 x.σ o l=some DT) (h: ∀s' (R:F5 c x.hf x.ρ DT s'.heap),(∀b o,(∀p∈x.ρ,p.2≠b)→ ¬hs.get? b=none→x.s.heap.get? b=some o→s'.heap.get? b=some o)→GB x.s s'→Q .none s'):
  Bp (Bq c.prog c.w) A (call (.builtin "list.extend") [vo,it]) Q E x.s:=by
 obtain ⟨i,p,vs,n,m,rfl,hp,hk,g,Hx,hn,s1,lt,rfl⟩:=Vj ho e;refine wpAny_call (codeAny_call_builtin PySem.F.slot_list_extend.plain PySem.F.entry_list_extend (PySem.F.slot_list_extend.check _ _ _ _ _ _ _ _ (DM _ g rfl) (PySem.F.args_list_extend_2 _ _) ?_));show Bp _ A.in1 (Builtin.List.listExtendWith (.ref p.2) it .none) _ _ _;unfold Builtin.List.listExtendWith;refine Bk (CY hT ?_)
 have rO:Builtin.List.listSameRef (.ref p.2) it=false:=by
  refine aG w λI fp wr P St NY O=> ?_;subst NY;clear w;refine DQ hT λoi hoi vm=> ?_;clear hT;unfold Builtin.List.listSameRef;refine beq_eq_false_iff_ne.mpr λz=> ?_;have vm:oi.cls=Bj.type "list_reverseiterator" :=vm;rw [←z] at hoi;rw [←η (g.symm.trans hoi)] at vm;exact absurd (show Bj.type "list" =Bj.type "list_reverseiterator" from vm) (by decide)
 refine C9 rO<|C9 (if_neg (by decide)) ?_
 refine Bk (Jk (A:=A.in1) hh w (Bk (Bt (cu hT ?_))));refine C9 (if_neg (by decide+kernel)) ?_;refine Bn ⟨CQ PySem.F.plain_extend_loop _,LB hh w g hn (.inl (DM p (AC hp) rfl)) (by exact Pv lt rfl) λs' us c' Tc rP kp nJ=> ?_⟩;refine h s' (x.R.turn (k':= .lv .lst (m++l.map V.d)) hk rfl hp (λb o hb q e=>kp b o hb ?_ e) rfl (FJ hn _ (vs++us) rP ⟨s1,by exact C9 ε<|C9 Tc.length<|AY lt,_,rfl⟩ (Hx.append (KY.sY Tc)))) (λb o hnb hb e=>kp b o (λz=>hnb p (AC hp) z.symm) (.inr (.inr hb)) e) nJ;exact q.imp (λq=>(EF _ q)) .inl
theorem RB{q:Br}{o:Obj}{k:Nat}{ks:List DO}{vs:List Bj}{Q:List Bj→Bl→Prop}(hh:A.handled=none)(hq:s.heap.get? q=some o)(hz:(q==By)=false)(ho:EB c (λb=>s.heap.get? b) o k ks vs)(hn:np k=true)
  (h: ∀s' us,KY c (λb=>s.heap.get? b) us (ks.map DO.d)→(∀b o,s.heap.get? b=some o→s'.heap.get? b=some o)→GB s s'→Q us s'):Bp (Bq c.prog c.w) A (collect (.ref q)) Q E s:=by
 have RP:s.heap.objs.size≠q:=(AW (Ad hq)).symm;unfold collect;refine Bk (wpAny_runValue (CW PySem.F.entry_proto_collect ?_));refine C9 (Bs.under_plainId PySem.F.plain_proto_collect _) ?_;show Bp _ A.in1 (newList []>>=λl=>again (.builtin "list.__iadd__" ⟨[l, .ref q], []⟩)) _ _ s;refine Bk (wpAny_newObj_type ?_);refine Bn ⟨CQ PySem.F.plain_list_iadd _,CW PySem.F.entry_list_iadd ?_⟩;refine C9 (Bs.under_plainId PySem.F.plain_list_iadd _) ?_;show Bp _ A.in1 (Builtin.List.listExtendWith (.ref s.heap.objs.size) (.ref q) (.ref s.heap.objs.size)) _ _ _;have kp: ∀b o,s.heap.get? b=some o→(s.heap.push (E3 [] 0)).get? b=some o:=λb o e=>Β _ e;have eJ:(s.heap.push (E3 [] 0)).get? s.heap.objs.size=some (E3 [] 0):=Ξ _ rfl;have hT: ∀h',(∀b o,s.heap.get? b=some o→h'.get? b=some o)→({s with heap:=h'}:Bl).TypeIs (.ref q) "dict" :=λh' k=>DQ (ho.typeIs hq) λo e z=>(DM o (k _ _ e) z);unfold Builtin.List.listExtendWith;refine Bk (CY (hT _ kp) ?_);refine C9 (show Builtin.List.listSameRef (.ref s.heap.objs.size) (.ref q)=false by unfold Builtin.List.listSameRef;exact beq_eq_false_iff_ne.mpr RP)<|C9 (if_neg (by decide)) ?_
 have pN:s.heap.get? (s.heap.push (E3 [] 0)).objs.size=none:=IH kp (Dc _);refine Bk (Na (hf:=λb=>s.heap.get? b) (ρ:= []) (s:={s with heap:=s.heap.push (E3 [] 0)}) ⟨pN,λp hp=>by cases hp⟩ (kp _ _ hq) hq hz ho hn λo' w=> ?_);have kp2: ∀b o,s.heap.get? b=some o→((s.heap.push (E3 [] 0)).push o').get? b=some o:=λb o e=>Β _ (kp b o e);have jf:((s.heap.push (E3 [] 0)).push o').get? s.heap.objs.size=some (E3 [] 0):=Β _ eJ;refine Bk (Bt (Yf (hT _ kp2) ?_));refine C9 (if_pos (by decide+kernel)) ?_;refine Bk (wpAny_rule (Bk ?_));show Bp _ A.in1 (updateSeq s.heap.objs.size (·.push .none)>>=λO=>updateSeq s.heap.objs.size (·.pop)) _ _ _;refine Bk (wpAny_updateSeq jf rfl ?_);have jU:=BT (Obj.mapSeq (·.push Bj.none)) jf rfl;refine wpAny_updateSeq jU rfl ?_;have uq:=BT (Obj.mapSeq (·.pop)) jU rfl;have oth:=λb o (hb:b≠s.heap.objs.size) (e:((s.heap.push (E3 [] 0)).push o').get? b=some o)=>(Bz.get?_update_other _ (Obj.mapSeq (·.pop)) (Ne.symm hb)).trans ((Bz.get?_update_other _ (Obj.mapSeq (·.push Bj.none)) (Ne.symm hb)).trans e);have w':=w.other oth (Dc _) (by refine C9 eJ ?_;exact λz=>by cases z);refine Bn ⟨CQ PySem.F.plain_extend_loop _,LB (pre:= []) (s:=⟨_,_,_,_,_⟩) hh w' uq (Dc _) (.inr (by refine C9 eJ ?_;exact λz=>by cases z)) (by have:=ho.big;refine C9 (ι _) ?_;simp only [BJ];lia) λs' us n' hv rP uE ww=> ?_⟩;show Bp _ A (load s.heap.objs.size>>=_) _ _ s';refine Bk (wpAny_load rP (Bn (h s' us hv (λb o e=> ?_) ⟨ww.1,ww.2,ww.3⟩)));have hb:b≠s.heap.objs.size:=AW (Ad e);exact uE b o hb (.inl (EF o e)) (oth b o hb (kp2 _ _ e))
end
end
end
section
section
mutual open A
variable{α:Type}{le:α→α→Bool}
theorem Ry(x:α)(l:List α):(ej le x l).Perm (x::l):=by
 induction l with
 |nil=>exact .refl _
 |cons y r ih=>
  show (cond (le x y) (x::y::r) (y::ej le x r)).Perm _;cases le x y with
  |true=>exact .refl _
  |false=>exact (ih.cons y).trans (.swap x y r)
theorem SS(l:List α):(HD le l).Perm l:=by
 induction l with
 |nil=>exact .refl _
 |cons x r ih=>exact (Ry x _).trans (ih.cons x)
theorem Ur{R:α→α→Prop}(h1: ∀a b,le a b=true→R a b)(h2: ∀a b,le a b=false→R b a)(ht: ∀a b d,R a b→R b d→R a d)(x:α){l:List α}(h:l.Pairwise R):(ej le x l).Pairwise R:=by
 induction l with
 |nil=>exact List.pairwise_singleton ..
 |cons y r ih=>
  refine Dl (List.pairwise_cons.mp h) λa b=> ?_;show (cond (le x y) (x::y::r) (y::ej le x r)).Pairwise R;cases q:le x y with
  |true=>
   refine .cons (λz hz=> ?_) (.cons a b);rcases ν.mp hz with e|hz
   ·exact e▸h1 _ _ q
   ·exact ht _ _ _ (h1 _ _ q) (a z hz)
  |false=>
   refine .cons (λz hz=> ?_) (ih b);rcases ν.mp ((Ry x r).mem_iff.mp hz) with e|hz
   ·exact e▸h2 _ _ q
   ·exact a z hz
theorem Og{R:α→α→Prop}(h1: ∀a b,le a b=true→R a b)(h2: ∀a b,le a b=false→R b a)(ht: ∀a b d,R a b→R b d→R a d)(l:List α):(HD le l).Pairwise R:=by
 induction l with
 |nil=>exact .nil
 |cons x r ih=>exact Ur h1 h2 ht x ih
end
end
mutual open A
theorem iu{ks ns:List Int}(p:ns.Perm ks)(h:ns.Pairwise (· ≤ ·)):ns=HD I9 ks:=
 List.Perm.eq_of_pairwise (λa b O O h1 h2=>Int.le_antisymm h1 h2) h (Og (le:=I9) (R:=(· ≤ ·)) (λO O h=>of_decide_eq_true h) (λa b h=>by have:=of_decide_eq_false h;lia) (λO O O=>Int.le_trans) ks) (p.trans (SS ks).symm)
theorem ia{ks ns:List Nat}(p:ns.Perm ks)(h:ns.Pairwise (· ≤ ·)):ns=HD Ε ks:=
 List.Perm.eq_of_pairwise (λa b O O h1 h2=>Aq h1 h2) h (Og (le:=Ε) (R:=(· ≤ ·)) (λO O h=>φ h) (λa b h=>AY (BV λq=>ζ ((ο q).symm.trans h))) (λO O O=>Υ) ks) (p.trans (SS ks).symm)
theorem Vu{a b:Bool}{p:Prop}(h1:a=true↔p)(h2:b=true↔p):a=b:=by
 cases a<;>cases b<;>first|rfl|exact h1.mpr (h2.mp rfl)|exact (h2.mpr (h1.mp rfl)).symm
theorem lQ(a:List Nat): ∀b,Wc a b=PySem.Spec.ltCps a b:=by
 induction a with
 |nil=>intro b;cases b<;>rfl
 |cons x a ih=>intro b;cases b with
  |nil=>rfl
  |cons y b=>
   show (Μ x y||(μ x y&&Wc a b))=(decide (x<y)||(x==y&&PySem.Spec.ltCps a b))
   (exact C9 (ih b)<|C9 (show Μ x y=decide (x<y) from Vu Ds decide_eq_true_iff)<|C9 (show μ x y=(x==y) from Vu ⟨nb,λe=>e▸AH x⟩ beq_iff_eq) rfl)
theorem NV{n:Nat}(i9:n<Fw.length):Fw.findIdx (λy=>decide (y=nm n))=n:=by
 have hx:(Fw.findIdx λy=>decide (y=nm n))<Fw.length:=List.findIdx_lt_length_of_exists (DM (nm n) (by exact C9 (RT i9)<|A0 i9) (by simp));exact J7 hx i9 (by exact C9 (RT hx)<|of_decide_eq_true (List.findIdx_getElem (w:=hx)))
theorem R6{ks:List Nat}{ss:List Str}(hk: ∀k∈ks,k<Fw.length)(h:ss.Perm (ks.map nm)): ∃EZ,List.Perm EZ ks∧ss=EZ.map nm:=by
 refine (DM (ss.map λx=>Fw.findIdx λy=>decide (y=x)) ?_ ?_)
 ·have:=h.map λx=>Fw.findIdx λy=>decide (y=x)
  rw [Δ,show ks.map ((λx=>Fw.findIdx λy=>decide (y=x))∘nm)=ks from (List.map_congr_left (g:=id) λk zn=>NV (hk k zn)).trans (List.map_id ks)] at this;exact this
 ·refine C9 Δ ?_
  refine ((List.map_congr_left (g:=id) λx hx=> ?_).trans (List.map_id ss)).symm;refine DQ (AD.mp (h.mem_iff.mp hx)) λk zn Gx=> ?_;subst Gx;exact congrArg nm (NV (hk k zn))
theorem UW{ks:List Nat}: ∀{p:Nat},p<Fw.length→(∀k∈ks,k<Fw.length)→risingS (nm p) (ks.map nm)=true→(∀k∈ks,p≤k)∧ks.Pairwise (· ≤ ·):=by
 induction ks with
 |nil=>intro p _ _ _;exact ⟨(λO h=>nomatch h), .nil⟩
 |cons k r ih=>
  intro p hp hk h;refine Dl (band (a:= !(PySem.Spec.ltCps (nm k).cps.toList (nm p).cps.toList)) (b:=risingS (nm k) (r.map nm)) h) λh1 h2=> ?_;have hk0:=hk k (.head _);have le:p≤k:=At λq=>by rw [←lQ,ji hp q] at h1;exact ζ h1
  refine Dl (ih hk0 (λx hx=>hk x (.tail _ hx)) h2) λa b=> ?_;refine ⟨λx hx=> ?_, .cons a b⟩;rcases ν.mp hx with e|hx
  ·exact e▸le
  ·exact Υ le (a x hx)
theorem Uw{ks:List Nat}(hk: ∀k∈ks,k<Fw.length)(h:sortedS (ks.map nm)=true):ks.Pairwise (· ≤ ·):=by
 cases ks with
 |nil=>exact .nil
 |cons k r=>exact Dl (UW (hk k (.head _)) (λx hx=>hk x (.tail _ hx)) h) λa b=> .cons a b
end
section
mutual open A
variable{c:Cx}{hf:HF}{A:Bs}{s:Bl}{E:Bj→Bl→Prop}{x:St c}
theorem ST(ks:List Int): ∀{vs:List Bj},KY c hf vs (ks.map .int)→IntsAre vs ks:=by
 induction ks with
 |nil=>intro vs h;cases h;exact .nil
 |cons k r ih=>intro vs h;cases h with
  |cons a b=>cases a with
   |int _ t=>exact .cons k t (ih b)
theorem Z'{vs:List Bj}{ks:List Int}(h:IntsAre vs ks):KY c hf vs (ks.map .int):=by
 induction h with
 |nil=>exact .nil
 |cons k t _ ih=>exact .cons (.int k t) ih
theorem bI(ks:List Nat): ∀{vs:List Bj},KY c hf vs (ks.map .sym)→StrsAre vs (ks.map nm)∧ ∀k∈ks,k<Fw.length:=by
 induction ks with
 |nil=>intro vs h;cases h;exact ⟨.nil,(λO h=>nomatch h)⟩
 |cons k r ih=>intro vs h;cases h with
  |cons a b=>cases a with
   |sym _ t hk=>
    refine Dl (ih b) λh1 h2=> ?_;refine ⟨.cons _ t h1,λx hx=> ?_⟩;rcases ν.mp hx with e|hx
    ·exact e▸hk
    ·exact h2 x hx
theorem bV(ks:List Nat): ∀{vs:List Bj},StrsAre vs (ks.map nm)→(∀k∈ks,k<Fw.length)→KY c hf vs (ks.map .sym):=by
 induction ks with
 |nil=>intro vs h _;cases h;exact .nil
 |cons k r ih=>intro vs h hk;cases h with
  |cons _ t h=>exact .cons (.sym k t (hk k (.head _))) (ih h λx hx=>hk x (.tail _ hx))
theorem RU{K:Type}{rl:K→DO→Prop}{l:List (K×Bj)}{ks:List DO}{vs:List Bj}{f:DO→D}(h: ∀a z,rl a z→z.d=f z)(r:Rows rl l ks vs):ks.map DO.d=ks.map f:=by
 induction r with
 |nil=>rfl
 | @cons _ z _ _ ks _ a _ ih=>show z.d::ks.map DO.d=f z::ks.map f;(exact C9 (h _ _ a)<|C9 ih rfl)
theorem uy{k:Nat}{o:Obj}{ks:List DO}{vs:List Bj}(h:EB c hf o k ks vs)(e:k=0):ks.map DO.d=(ks.map cJ).map .int:=by
 refine C9 Δ ?_;cases h with
 |pr=>exact Α e
 |np p _ _ r=>cases p with
  |i=>exact RU (λa z w=>by subst w;rfl) r
  |s=>exact Α e
  |t=>exact Α e
theorem sN{k:Nat}{o:Obj}{ks:List DO}{vs:List Bj}(h:EB c hf o k ks vs)(e:k=1):ks.map DO.d=(ks.map eO).map .sym:=by
 refine C9 Δ ?_;cases h with
 |pr=>exact Α (AK.inj e)
 |np p _ _ r=>cases p with
  |i=>exact Α e
  |s=>exact RU (λa z ⟨n,O1,O2,w⟩=>by subst w;rfl) r
  |t=>exact Α (AK.inj e)
theorem N9{va:Bj}{a:V}{r:Nat×List DO×List V}{ds:List D}{Q:Bj→Bl→Prop}(hh:A.handled=none)(ha:x.VV va a)(e:GF x.σ a=some r)(hn:np r.1=true)(h64:r.2.1.length<64)
  (sort: ∀Fh vs,KY c Fh vs (r.2.1.map DO.d)→vs.length<64→ ∀(Ej:Bl) (b:Br) (F:Fin→Bl→Prop),Ej.heap.get? b=some (E3 vs 0)→(∀out,(∃us:List Bj,out=us.toArray∧us.length=vs.length∧ ∀YO,KY c YO us ds)→F (.done (.ret .none)) {Ej with heap:=sortedHeap Ej.heap b vs out})→Bp (Bq c.prog c.w) A.in1.in1 (Builtin.«list.sort» ⟨[.ref b], []⟩) F E Ej)
  (h:Ok x x.σ (.d (.nd .lst ds)) Q):Bp (Bq c.prog c.w) A (call (.builtin "sorted") [va]) Q E x.s:=by
 obtain ⟨q,o,ws,rfl,g,z,ho,hv⟩:=K1 ha e;refine Calls.call_function_entry kind_sorted plain_sorted entry_sorted (args_sorted1 _) ?_;unfold Builtin.«sorted»;refine Bk (m:=checkCount "sorted" 1 1 _) (Bn (Bk (RB (A:=A.in1) hh g z (ho.mono x.R.keep) hn λD6 vs Hx kp sm=> ?_)));have Eb:vs.length<64:=by exact C9 Hx.length<|C9 (ι _) h64
 refine Bk (Cq ?_ (by exact C9 Bw<|Pv Eb rfl));have zW:(D6.heap.push (E3 vs 0)).get? D6.heap.objs.size=some (E3 vs 0):=Ξ _ rfl;refine Bk (Bt (Ce PyProof.Rows.slot_list_sort (DM _ zW rfl) PyProof.Rows.entry_list_sort (sort _ vs Hx Eb {D6 with heap:=D6.heap.push (E3 vs 0)} _ _ zW ?_) (PyProof.Rows.args_list_sort _)))
 rintro out ⟨us,rfl,hul,Tc⟩
 refine (DM _ rfl (Bn (DM _ rfl ?_)))
 have k2: ∀b o,x.s.heap.get? b=some o→(sortedHeap (D6.heap.push (E3 vs 0)) D6.heap.objs.size vs us.toArray).get? b=some o:=λb o e=>by
  have e1:=kp b o e;refine C9 (sortedHeap_old (AW (Ad e1)) (by rw [Bg];exact A7 (Ad e1))) ?_;exact Β _ e1
 refine D3 (sortedHeap_at (n:=0) (vs:=vs) (out:=us.toArray) zW) λn hn=> ?_;have fr:=IH kp (Dc D6.heap);exact h _ ⟨_,x.ρ,x.σ,_,x.R.new k2 fr hn⟩ ⟨W4 x.R k2 fr,sm.1,sm.2,sm.3⟩ rfl (DV.nd (p:=(D6.heap.objs.size,D6.heap.objs.size)) (GK _ _ _) ⟨rfl,by unfold big;lia,n,rfl⟩ (Tc _))
theorem QV{va:Bj}{a r:V}{Q:Bj→Bl→Prop}(hh:A.handled=none)(ha:x.VV va a)(e:kZ x.σ a=some r)(h:Ok x x.σ r Q):Bp (Bq c.prog c.w) A (call (.builtin "sorted") [va]) Q E x.s:=by
 refine DA e λq h1 e=>DY e λh2 e=>DA e λl h3 e=> ?_;rw [←η e] at h;obtain ⟨_,o,ws,_,_,_,ho,_⟩:=K1 ha h1;cases k:q.1 with
 |zero=>
  rw [k] at h3;rw [←η (h3:some ((HD I9 (q.2.1.map cJ)).map D.int)=some l)] at h;refine N9 hh ha h1 (by exact C9 k rfl) (Ds.mp h2) (λFh vs hv Eb Ej b F hb hF=> ?_) h;rw [uy ho k] at hv;refine list_sort_tree hb (ST _ hv) Eb λout ns' a1 a2 a3=>hF out (ED out.toList (by simp) ?_ (λYO=>iu a2 a3▸Z' a1))
  (exact C9 a1.length<|C9 ((ST _ hv).length)<|C9 a2.length_eq rfl)
 |succ k'=>cases k' with
  |succ=>rw [k] at h3;exact DC h3
  |zero=>
   rw [k] at h3;rw [←η (h3:some ((HD Ε (q.2.1.map eO)).map D.sym)=some l)] at h;refine N9 hh ha h1 (by exact C9 k rfl) (Ds.mp h2) (λFh vs hv Eb Ej b F hb hF=> ?_) h;rw [sN ho k] at hv;refine Dl (bI _ hv) λhS Fz=> ?_;refine list_sort_treeK strKind_oneLt hb hS.keysOf (λv₁ v₂ rest e=>keyKind_strs (by exact Dr e hS)) Eb λqd hp hs=> ?_;refine ES (sorted_out_str hS hp hs) λN7 h1 h2 h3=> ?_;refine DQ (R6 Fz h2) λEZ p1 Gx=> ?_;subst Gx;have aI: ∀k∈EZ,k<Fw.length:=λk hk=>Fz k (p1.mem_iff.mp hk);refine hF _ (ED (((arrOf qd).map (·.2)).toList) Array.toArray_toList.symm ?_ (λYO=> ?_))
   ·(exact C9 h1.length<|C9 hS.length<|C9 h2.length_eq rfl)
   ·exact Dr (ia p1 (Uw aI h3))<|bV EZ h1 aI
end
end
end
section
mutual open A
theorem hB:Cu (.type "list") "keys" =pure none:=am_miss_of_fast (by decide+kernel)
theorem GH:plainId "dict.update.loop" =true:=by decide+kernel
theorem JR:entryFor table "dict.update.loop" =some Builtin.«dict.update.loop»:=entryFor_of_fast (by kernel_rfl)
end
section
mutual open A
variable{c:Cx}{hf:HF}{A:Bs}{s:Bl}{E:Bj→Bl→Prop}{x:St c}
set_option maxHeartbeats 1000000 in
theorem Xz{a:Br}{vs:List Bj}{n:Nat}{Q:Option Bj→Bl→Prop}(hA:A.handled=none)(hx:s.heap.get? a=some (E3 vs n))(h: ∀h' tk,(∀b o,s.heap.get? b=some o→h'.get? b=some o)→Q none {s with heap:=h',toks:=tk}):
  Bp (Bq c.prog c.w) A (getAttr? (.ref a) "keys") Q E s:=by
 obtain ⟨hp,g,d,tk,os⟩:=s;have hT: ∀yn,(⟨hp,g,d,yn,os⟩:Bl).TypeIs (.ref a) "list" :=λO=>(DM _ hx rfl);have f1:=PySem.sub_AttributeError;have f3:=PySem.F.slot_list_getattribute.lookup;have f4:=PySem.F.slot_list_getattribute.bind (.ref a);have f5:=PySem.am_list_getattr_none;unfold getAttr? getAttrBy? getAttrBy;repeat (any_goals (first|assumption|exact hT _|((with_reducible show Bp _ _ (call (Bj.builtin "list.__getattribute__") _ _) _ _ _);refine Ch PySem.F.slot_list_getattribute (hT _) am_entry_list_getattribute (PySem.F.args_list_getattribute_2 _ _) (meets_getattribute_miss_list a vs.toArray n #[] "keys" _ hB (by decide+kernel) (by size_fits)) ⟨hx,hA,λh' yn e hx'=> ?_⟩)|wp_step))
 refine HY hx'.there λt' u' he=> ?_;unfold getattributeRaised;repeat (any_goals (first|assumption|wp_step))
 exact h h' yn hx'.keeps
theorem Hz{d:Br}{kv v:Bj}{k:Nat}{o:Obj}{ks:List DO}{vs:List Bj}{key:DO}{Q:Unit→Bl→Prop}(kp: ∀b o,hf b=some o→s.heap.get? b=some o)(hu:A.units<B3)(hd:s.heap.get? d=some o)(ho:EB c hf o k ks vs)(hk:DV c hf kv key.d)(e:key.kind=k)(hb:vs.length<big)
  (h: ∀h' o' t,Bz.SameBut d s.heap h'→h'.get? d=some o'→EB c hf o' k (D2 ks key) (Dz ks vs key v)→Q () {s with heap:=h',toks:=t}):Bp (Bq c.prog c.w) A (dictSet d kv v) Q E s:=by
 cases L4 ho hk e with
 |one knd m k k1 k2 k3 k4 k5=>exact wpAny_dictSet_pairs k1 (mapOf hd k2) (λh' hm hs=>DQ (BI.mp hm) λo' Jx iO=>h _ o' _ hs Jx (k5 v o' hb iO)) (Kk hb k3)
 |two a i j xs t u n k1 k2 k3 k4 k5 k6 k7 k8=>
  subst k1;exact wpAny_dictSet_heap (knd:=CN (B9 c.prog c.w)) hu (Im kp k2) (IK kp hd k4 k5 k6) (λh' hm hs=>IW hm λo' es ep Jx d1 d2 d3 O O=>h _ o' _ hs Jx (k8 v o' hb (EK es ep d1 d2 d3))) (Kk hb ((ι ..).trans k3))
theorem Tl{t:Br}{us:List Bj}{n:Nat}{Q:List Bj→Bl→Prop}(ht:s.heap.get? t=some (GW us n))(h:Q us s):Bp (Bq c.prog c.w) A (Builtin.Dict.pairItems (.ref t)) Q E s:=by
 unfold Builtin.Dict.pairItems;refine Bk (CY (T:= "tuple") (DM _ ht rfl) ?_);refine C9 (if_pos (by decide)) ?_;exact Bk (wpAny_seqItems ht rfl (Bn h))
inductive K9(x:St c):List Bj→List (V×V)→Prop
 |nil:K9 x [] []
 |cons {t a b n us q qs}:x.s.heap.get? t=some (GW [a,b] n)→x.VV a q.1→x.VV b q.2→K9 x us qs→K9 x (.ref t::us) (q::qs)
theorem S6{l:List V}{p:V×V}(e:two l=some p):l= [p.1,p.2]:=by
 cases l with
 |nil=>exact DC e
 |cons a l=>cases l with
  |nil=>exact DC e
  |cons b l=>cases l with
   |nil=>exact De e rfl
   |cons=>exact DC e
theorem Zg{us:List Bj}{vs:List V}(h:x.GC us vs): ∀{qs:List (V×V)},Fo x.σ vs=some qs→K9 x us qs:=by
 induction h with
 |nil=>intro qs e;exact De e .nil
 |cons a _ ih=>
  intro qs e;refine DA e λl h1 e=>DA e λp h2 e=>DA e λqs' h3 e=> ?_;obtain ⟨q,Iu,n,rfl,g,_,hv⟩:=m7 a h1;rw [S6 h2] at hv;cases hv with
  |cons v1 hv=>cases hv with
   |cons v2 hv=>cases hv;exact De e (.cons g v1 v2 (ih h3))
theorem KI{k:Nat}{u v:V}{acc r:List DO×List V}(e:Sd k u v acc=some r): ∃d key,u= .d d∧HG d=some key∧key.kind=k∧r=(D2 acc.1 key,Dz acc.1 acc.2 key v):=
 DA e λd h1 e=>DA e λkey h2 e=>DY e λh3 e=>(FL d key (Er h1) h2 (nb (band h3).1) ((η e).symm))
theorem RR{q I d:Br}{W6:List Bj}{n k:Nat}{r:List DO×List V}{R:C8→Bl→Prop}(hh:A.handled=none)(hu:A.units+2<B3)(hq:x.s.heap.get? q=some (E3 W6 n))(hI:x.s.heap.get? I=none)(hd:x.s.heap.get? d=none)(dI:d≠I)
  (fin: ∀s' o vs,s'.heap.get? d=some o→EB c x.hf o k r.1 vs→x.GC vs r.2→(∀b o,x.s.heap.get? b=some o→s'.heap.get? b=some o)→GB x.s s'→R (.ok (.ret .none)) s') {us:List Bj} {qs:List (V×V)} (hp:K9 x us qs):
  ∀(i:Nat) (acc:List DO×List V) (s:Bl) (vs:List Bj) (o:Obj),W6.drop i=us→i≤W6.length→FB k qs acc=some r→x.GC vs acc.2→s.heap.IsListIter I q i→(∀b o,x.s.heap.get? b=some o→s.heap.get? b=some o)→GB x.s s→s.heap.get? d=some o→EB c x.hf o k acc.1 vs→vs.length+us.length≤big→
  Ci (Bq c.prog c.w) A (.builtin "dict.update.loop" ⟨[.ref d, .ref I,C7 i, .none], []⟩) R s:=by
 induction hp with
 |nil=>
  intro i acc s vs o qB hi e hv hit kp sm g ho hz;rw [Aq hi (List.drop_eq_nil_iff.mp qB)] at hit ⊢;refine CW JR ?_;refine C9 (Bs.under_plainId GH _) ?_;show Bp _ A.in1 (pyNext (.ref I)>>=_) _ _ s;refine Bk (wpAny_pyNext_list_end (A:=A.in1) hh hit (Dn (kp _ _ hq)) (by simp) λh' he=> ?_);show Bp _ _ (Builtin.Dict.addKeywords d []>>=_) _ _ _;rw [←η e] at fin;exact Bk (Bn (Bn (fin _ o vs (he d o dI g) ho hv (λb o e=>he b o (λz=>DC (hI.symm.trans (z▸e))) (kp b o e)) ⟨sm.1,sm.2,sm.3⟩)))
 | @cons t a b m us qp qs ht h1 h2 _ ih=>
  intro i acc s vs o qB hi e hv hit kp sm g ho hz;refine DA e λf9 e1 e=> ?_;refine Ib (KI e1) λkd key w1 w2 w3 NY=> ?_;subst NY;rw [w1] at h1;have i9:i<W6.length:=BV λz=>by rw [List.drop_eq_nil_of_le z] at qB;cases qB
  rw [Av i9] at qB;injection qB with e1 e2
  have wW:vs.length+1+us.length≤big:=by rw [ξ] at hz;exact zqE hz
  refine CW JR ?_;refine C9 (Bs.under_plainId GH _) ?_;show Bp _ A.in1 (pyNext (.ref I)>>=_) _ _ s;refine Bk (wpAny_pyNext_list_item (x:= .ref t) hit (Dn (kp _ _ hq)) (by simp [Τ i9,e1]) λh' xQ bN=> ?_);have uE: ∀b o,x.s.heap.get? b=some o→h'.get? b=some o:=λb o e=>(bN.2 b λz=>DC (hI.symm.trans (z▸e))).trans (kp b o e);refine Bk (Bt (Bk (wpAny_tryCatch (Tl (s:={s with heap:=h'}) (uE _ _ ht) ?_))));refine Bt (Hz (s:={s with heap:=h'}) (A:=A.in1) (λb o e=>uE b o (x.R.keep b o e)) (Ec (A:=A) (m:=1) hu (by decide)) ((bN.2 d dI).trans g) ho (JS w2 h1) w3 (AQ (AF _) (Υ (Ζ ..) wW)) λnO pz tk qz hg rH=> ?_);refine Bn ⟨CQ GH _, ?_⟩;exact ih (i+1) _ {s with heap:=nO,toks:=tk} _ pz e2 i9 e (hv.put h2 _) (xQ.at λo e=>(qz.2 I (Ne.symm dI)).trans e) (λb o e=>(qz.2 b λz=>DC (hd.symm.trans (z▸e))).trans (uE b o e)) ⟨sm.1,sm.2,sm.3⟩ hg rH (Υ (Ax (F7 key b acc.1 vs) _) wW)
inductive NM(x:St c)(k:Nat)(ks:List DO)(l:List V)(v:Bj)(s':Bl):Prop
 |mk (I:Br) (o:Obj) (vs:List Bj) (w:v= .ref I) (hI:x.s.heap.get? I=none) (ho:s'.heap.get? I=some o) (hd:EB c x.hf o k ks vs) (hv:x.GC vs l) (kp: ∀b o,x.s.heap.get? b=some o→s'.heap.get? b=some o) (sm:GB x.s s')
theorem Jd{k:Nat}(hk:k<4):EB c hf {cls:= .type "dict",data:= .dict #[]} k [] []:=by
 have E: ∀{K:Type} [DecidableEq K] (knd:PySem.KeyKind c.prog c.w K),({cls:= .type "dict",data:= .dict #[]}:Obj).IsDictOf knd []:=λknd=>(LH (#[]) 0 ⟨rfl,rfl,rfl⟩ rfl (λO h=>(by simp at h)) .nil .nil);refine Y0 (P:=λk O=>EB c hf {cls:= .type "dict",data:= .dict #[]} k [] []) ?_ (Y0 ?_ (Y0 ?_ (Y0 ?_ ltz))) k hk
 ·exact .np .i (AT _) (E _) .nil
 ·exact .np .s (AT _) (E _) .nil
 ·exact .pr (xs:= []) (AT _) (EK (#[]) 0 ⟨rfl,rfl,rfl⟩ rfl rfl) (λO h=>nomatch h) BB rfl rfl
 ·exact .np .t (AT _) (E _) .nil
theorem UT{va:Bj}{l:List V}{qs:List (V×V)}{k:Nat}{r:List DO×List V}{Q:Bj→Bl→Prop}(hk:k<4)(hh:A.handled=none)(hu:A.units+4<B3)(hv:T8 x E3 va l)(e2:Fo x.σ l=some qs)(e3:FB k qs ([], [])=some r)
  (h: ∀v s',NM x k r.1 r.2 v s'→Q v s'):Bp (Bq c.prog c.w) A (call (.type "dict") [va]) Q E x.s:=by
 obtain ⟨q,us,n,rfl,g,hb,Tc⟩:=hv;refine callType_codes (Q₁:=λobj D6=>obj= .ref x.s.heap.objs.size∧D6={x.s with heap:=x.s.heap.push {cls:= .type "dict",data:= .dict #[]}}) PySem.F.kt_called_dict (PySem.F.kt_typeCall_dict_1 _) PySem.F.entry_dict_init (kt_code_dict_new _ ⟨rfl,rfl⟩) ?_
 rintro obj D6 ⟨rfl,rfl⟩
 have Yj:(x.s.heap.push {cls:= .type "dict",data:= .dict #[]}).get? x.s.heap.objs.size=some {cls:= .type "dict",data:= .dict #[]}:=Ξ _ rfl;have kp: ∀b o,x.s.heap.get? b=some o→(x.s.heap.push {cls:= .type "dict",data:= .dict #[]}).get? b=some o:=λb o e=>Β _ e;refine ⟨(DM _ Yj rfl),PySem.F.args_dict_init_2 _ _, ?_⟩;unfold Builtin.«dict.__init__»;refine Bk ?_;unfold Builtin.Dict.selfAndRest;refine Bk (wpAny_notOrdered_dict (DM _ Yj rfl) ?_);show Bp _ _ (pure (x.s.heap.objs.size, [Bj.ref q])) _ _ _;refine Bn ?_;show Bp _ _ (Builtin.Dict.updateFrom "dict.__init__" x.s.heap.objs.size (.ref q) [] .none) _ _ _;unfold Builtin.Dict.updateFrom;refine Bk (CY (T:= "list") (DM _ (kp _ _ g) rfl) ?_);refine C9 (if_pos (by decide)) ?_;refine Bk (Xz (A:=A.in1.in1) hh (kp _ _ g) λVk tk k₂=> ?_);refine C9 (if_pos (show (none:Option Bj).isNone=true from rfl)) ?_;refine Bk (wpAny_rule (Bk (wpAny_pyIter_list (Dn (k₂ _ _ (kp _ _ g))) ?_)));refine Bn ⟨CQ GH _, ?_⟩;have hI:x.s.heap.get? Vk.objs.size=none:=IH (λb o e=>k₂ b o (kp b o e)) (Dc Vk);have hdI:x.s.heap.objs.size≠Vk.objs.size:=λz=>by have:=k₂ _ _ Yj;rw [z,Dc] at this;cases this
 exact RR (A:=A.in1) hh (Ec (A:=A) (m:=3) hu (by decide)) g hI (Dc _) hdI (λs' o' D4 a1 a2 a3 a4 a5=>⟨rfl,h _ _ ⟨_,o',D4,rfl,Dc _,a1,a2,a3,a4,a5⟩⟩) (Zg Tc e2) 0 ([], []) _ [] _ rfl (AT _) e3 .nil (ED _ (Ξ _ rfl) rfl rfl) (λb o e=>Β _ (k₂ b o (kp b o e))) ⟨rfl,rfl,rfl⟩ (Β _ (k₂ _ _ Yj)) (Jd hk) (by exact C9 BJ<|C9 (BP _) hb)
theorem YR{va:Bj}{k:Nat}{ks:List DO}{l:List V}{Q:Bj→Bl→Prop}(hv:cF x va k ks l)(hn:np k=true)(h: ∀v s',NM x k ks l v s'→Q v s'):Bp (Bq c.prog c.w) A (call (.type "dict") [va]) Q E x.s:=by
 obtain ⟨q,o,vs,rfl,g,z,ho,Hx⟩:=hv;cases ho with
 |pr=>exact ζ hn
 |np p hb h1 r=>
  refine kt_call_dict z (mapOf g h1) (by refine C9 r.len.1<|C9 Bw ?_;unfold big at hb;exact X1 hb rfl) λh' hd hs=> ?_;refine DQ (BI.mp hd) λo' Jx iO=> ?_;exact h _ _ ⟨_,o',vs,rfl,Dc _,Jx, .np p hb iO r,Hx,λb o e=>(hs.2 b (AW (Ad e))).trans (Β _ e),rfl,rfl,rfl⟩
end
end
end
section
mutual open A
variable{c:Cx}{hf:HF}{A:Bs}{s:Bl}{E:Bj→Bl→Prop}{x:St c}
theorem SZ(c:Cx){ml:List (Int×Bj)}{ks:List DO}{us:List Bj}(r:Rows (λn k=>k= .i n) ml ks us): ∀{kl:List (Int×Bj)} {as:List DO} {vs:List Bj},(kl.map (·.1)).Nodup→Rows (λn k=>k= .i n) kl as vs→Rows (λn k=>k= .i n) (merged kl ml) (U5 ks as) (Os id ks us as vs):=by
 induction r with
 |nil=>intro kl as vs _ h;exact h
 | @cons a z v l ks us h1 _ ih=>
  intro kl as vs n h;have e:merged kl ((a,v)::l)=merged (Oy kl a v) l:=by unfold merged;refine C9 List.foldl_cons ?_;dsimp only;(exact C9 (Pi n) rfl)
  refine C9 e ?_;exact ih (OW n) (Rows.put (c:=c) .i h1 v h)
theorem ai{α β γ δ:Type}{R:α→γ→Prop}{f:β→α}{g:δ→γ}(ks:List DO): ∀{us:List β} {xs:List δ} {as:List DO} {vs:List α} {l:List γ},DS (λu x=>R (f u) (g x)) us xs→DS R vs l→DS R (Os f ks us as vs) (Os g ks xs as l):=by
 induction ks with
 |nil=>intro us xs as vs l _ h;cases us<;>cases xs<;>exact h
 |cons k ks ih=>intro us xs as vs l hu h;cases hu with
  |nil=>exact h
  |cons a b=>exact ih b (h.put a as)
theorem SW{α β:Type}{f:β→α}(ks:List DO): ∀{us:List β} {as:List DO} {vs:List α},(Os f ks us as vs).length≤vs.length+us.length:=by
 induction ks with
 |nil=>intro us as vs;cases us<;>exact Ζ ..
 |cons k ks ih=>intro us as vs;cases us with
  |nil=>exact Ι _
  |cons u us=>exact Υ ih (by have:=F7 k (f u) as vs;refine C9 ξ ?_;lia)
theorem Y3{d:D}{p:List DO×List D}(e:uT d=some p):d= .nd (.Dg 0 p.1) p.2:=by
 cases d with
 |nd h l=>cases h with
  |Dg k ks=>cases k with
   |zero=>exact De e rfl
   |succ=>exact DC e
  |_=>exact DC e
 |_=>exact DC e
theorem EB.rows0{o:Obj}{k:Nat}{ks:List DO}{vs:List Bj}(h:EB c hf o k ks vs)(e:k=0): ∃l,o.IsDictOf (B9 c.prog c.w) l∧Rows (λn k=>k= .i n) l ks vs:=by
 cases h with
 |pr=>exact Α e
 |np p _ h r=>cases p with
  |i=>exact (DM _ h r)
  |s=>exact Α e
  |t=>exact Α e
theorem Q6{vo vv:Bj}{o v:V}{DT:Store}{Q:Bj→Bl→Prop}(ho:x.VV vo o)(hv:x.VV vv v)(e:Qe x.σ o v=some DT)(h:Did x DT (Q .none)):Bp (Bq c.prog c.w) A (call (.builtin "dict.update") [vo,vv]) Q E x.s:=by
 refine wr λZ0 z0=> ?_;refine DA e λd h1 e=>DA e λp h2 e=>DA e λr h3 e=>DY e λh4 e=> ?_;refine DA h3 λr' h5 e'=>DA e' λq h6 e'=>DY e' λh7 e'=> ?_;rw [Er h1,Y3 h2] at hv;obtain ⟨p2,o2,us,rfl,g2,⟨t1,t2,t3⟩,Tc⟩:=DV.shape hv;obtain ⟨p1,o1,vs,rfl,hp,hk,g1,sh,Hx,hn⟩:=NL ho h5;refine z0 ?_;rw [Nj h6,nb h7] at sh hk;refine wr λZ0 z0=> ?_;obtain ⟨s1,s2,s3⟩:=sh;refine DQ (s3.rows0 rfl) λkl k1 k2=> ?_;refine DQ (t3.rows0 rfl) λml m1 m2=> ?_;refine z0 ?_;have hb:=Ds.mp h4;rw [←η e'] at hb e;have b1:=s3.big.2;have b2:=t3.big.2;refine C9 s1<|C9 t1 ?_
 have lT:kl.length+ml.length<big:=by exact C9 k2.len.1<|C9 m2.len.1<|Dr b1<|Dr b2<|C9 (Am _ _) hb
 refine CX PySem.F.slot_dict_update (mapOf g1 k1).typeIs PySem.F.entry_dict_update (PySem.F.args_dict_update_2 _ _) (meets_dict_update (B9 c.prog c.w) p1.2 p2.2 (λz=>DC (hn.symm.trans (z▸g2))) t2) (FL kl ml (mapOf g1 k1) (mapOf (x.R.keep _ _ g2) m1) (by refine C9 Bw ?_;unfold big at lT;exact Pv lT rfl) (λh' Yi O hs=> ?_));refine DQ (BI.mp Yi) λo' Jx iO=> ?_;refine Did.turn (k':= .lv (.Dg 0 (U5 p.1 q.2)) (Os V.d p.1 p.2 q.2 r'.2.2)) h (η e) hk rfl hp hs rfl (FJ hn o' _ Jx ⟨s1,s2, .np .i (Υ (SW _) ?_) iO (SZ c m2 (IsDictOf.nodup k1) k2)⟩ (ai (f:=id) (g:=V.d) (R:=VV c x.hf (x.ρ.take r'.1)) p.1 Tc Hx)) x.s.toks;exact Dr k2.len.1<|Dr m2.len.1<|AY lT
theorem Ux{l:List Int}(n:Nat):n≤l.length→preSum (λi=>(l[i]?).getD 0) n=(l.take n).sum:=by
 induction n with
 |zero=>intro _;rfl
 |succ n ih=>
  intro h;have hn:n<l.length:=h;rw [preSum,ih (AY hn),Τ hn,List.take_succ_eq_append_getElem hn,List.sum_append];simp only [Option.getD_some,List.sum_cons,List.sum_nil,Int.add_zero]
theorem ZB{l:List D}: ∀{n:Int},YM l=some n→ ∃ks:List Int,l=ks.map .int∧n=ks.sum:=by
 induction l with
 |nil=>intro n e;exact De e (DM ([]) rfl rfl)
 |cons d l ih=>intro n e;exact DA e λa h1 e=>DA e λb h2 e=>DQ (ih h2) λks w1 w2=>(DM (a::ks) (by exact C9 (Gq h1)<|C9 w1 rfl) (by (exact Dr (η e)<|C9 w2<|C9 List.sum_cons rfl)))
theorem Yq{prog:Program}{w:World}{I:Br}{fp wr:List Br}{n:Nat}{P:Nat→Bj→Prop}{St:Nat→Bz→Prop}(W:C5 prog w A I fp wr n P St):C5 prog w A I fp wr n (λi v=>P i v∧i<n) St where
 sub:=W.sub
 frame:=W.frame
 item:=λi s Q E hi st hQ=>W.item i s Q E hi st λv h' tk p=>hQ v h' tk ⟨p,hi⟩
 done:=W.done
 self:=W.self
theorem ZQ{va:Bj}{l:List D}{n:Int}{Q:Bj→Bl→Prop}(hh:A.handled=none)(hv:DV c x.hf va (.nd .lst l))(e:YM l=some n)(h:Ok x x.σ (.d (.int n)) Q):Bp (Bq c.prog c.w) A (call (.builtin "sum") [va]) Q E x.s:=by
 obtain ⟨ks,rfl,rfl⟩:=ZB e;refine call_sum_walkG (PJ (A:=A.in1) hv rfl λit y ly ey w=> ?_);obtain ⟨I,fp,wr,P,S,rfl,w,st⟩:=w;refine ⟨I,fp,wr,_,_,S,λi=>(ks[i]?).getD 0,rfl,Yq (w.W A.in1 hh),st,λb hb=>D3 ((w.ex 0 _ st).2 b hb) λo ho=>Ad ho,λi v ⟨p,hi⟩=> ?_,λh' tk t' k=> ?_⟩
 ·rw [ι] at hi
  have:=w.dv i v (.int ks[i]) p (by exact C9 (Ay)<|C9 (Τ hi) rfl)
  dsimp only;refine C9 (Τ hi) ?_;exact E6 this
 ·refine C9 (ι _)<|C9 (Ux _ (Ι _))<|C9 AS ?_
  refine h _ ⟨y.hf,y.ρ,y.σ,{y.s with heap:=h',toks:=tk},w.rel y.R λb o hb e=>k b o hb e⟩ ⟨⟨ly.nx.kf,ly.nx.JX,λb o e n=>k b o (λhb=>w.off hb (.inr (.inr λz=>DC (z.symm.trans e)))) (ly.nx.Ee b o e n),ly.nx.FA,ly.nx.EE⟩,ly.sm.1,ly.sm.2,ly.sm.3⟩ ey (DV.int _ _)
end
end
section
mutual open A
def fB(CL:Nat→Br):Nat→Bj
 |0=> .type "NoneType" |1=> .type "bool" |2=> .type "int" |3=> .type "str" |4=> .type "list" |5=> .type "dict" |6=> .type "tuple"
 |k=> .ref (CL (k - 10))
def bZ(k:Nat):Bool:=Μ k 7||(Ε 10 k&& !(DX (k - 10)).isEmpty)
structure xt(K:B4)(CL:Nat→Br):Prop extends KF K CL where
 fE: ∀k t,bZ k=true→Μ t 19=true→kitOne K (fB CL k) (fB CL t)=some (ML k t)
 g1: ∀c,(DX c).isEmpty=false→Cy K (CL c) "__class__" =true
 g2: ∀c,(DX c).isEmpty=false→hasDictIn K (CL c)=true
 g3: ∀c,(DX c).isEmpty=false→CV K (.ref (CL c)) "__class__" =some (some (.builtin "object.__class__"))
 g4:specialIn K (.builtin "object.__class__") "__get__" =some (some (.builtin "getset_descriptor.__get__"))
 g5:takesIn K (.builtin "object.__class__")=some true
 g6: ∀c,(DX c).isEmpty=false→mroIn K (CL c) (.type "object")=some true
end
section
mutual open A
variable{c:Cx}{hf:HF}{A:Bs}{s:Bl}{E:Bj→Bl→Prop}{x:St c}{K:B4}
theorem Xd(F:xt K c.CL)(X:K.In x.s.heap){va:Bj}{a r:V}{t:Nat}{Q:Bj→Bl→Prop}(ht:Μ t 19=true)(ha:x.VV va a)(e:vO x.σ a t=some r)(h:Ok x x.σ r Q):
  Bp (Bq c.prog c.w) A (call (.builtin "isinstance") [va,fB c.CL t]) Q E x.s:=by
 refine DA e λk h1 e=> ?_;rw [←η e] at h;have fin: ∀tk,Q (.bool (ML k t)) {x.s with toks:=tk}:=λtk=>h.here (DV.bool _) tk
 have vw:(DN (G4 x.σ a) λq=>kdH q.1)=some k→Bp (Bq c.prog c.w) A (call (.builtin "isinstance") [va,fB c.CL t]) Q E x.s:=λe=>by
  refine DA e λq h2 e=> ?_;obtain ⟨p,o,vs,rfl,g,sh,_⟩:=Gk ha h2;obtain ⟨hd,l⟩:=q;cases hd with
  |tup=>
   obtain ⟨s1,_,n,rfl⟩:=sh;rw [←η (e:some 6=some k)] at fin;exact Cb kitx_tuple X (DM _ (s1▸g) rfl) (F.fE 6 t rfl ht) (λq=>by cases q) fin
  |lst=>
   obtain ⟨s1,_,n,rfl⟩:=sh;rw [←η (e:some 4=some k)] at fin;exact Cb kitx_list X (DM _ (s1▸g) rfl) (F.fE 4 t rfl ht) (λq=>by cases q) fin
  |Dg=>
   rw [←η (e:some 5=some k)] at fin;exact Cb kitx_dict X (sh.s1▸sh.s3.typeIs g) (F.fE 5 t rfl ht) (λq=>by cases q) fin
  |inst cl=>
   refine DY (x:=some (10+cl)) e λh3 e=> ?_;have ne:(DX cl).isEmpty=false:=by cases q:(DX cl).isEmpty with|false=>rfl|true=>rw [q] at h3;exact ζ h3
   rw [←η e] at fin;have kv:fB c.CL (10+cl)= .ref (c.CL cl):=by exact C9 (Am _ _) rfl
   have ko:bZ (10+cl)=true:=by show (Μ (10+cl) 7||(Ε 10 (10+cl)&& !(DX (10+cl - 10)).isEmpty))=true;exact C9 (Ω _ _)<|C9 ne<|C9 (ο (Ζ 10 cl))<|Be _
   exact Cb (kitx_own (F.g1 cl ne) (F.g2 cl ne) (F.g3 cl ne) F.g4 F.g5 (F.g6 cl ne)) X (⟨x.R.keep _ _ sh.1,rfl,rfl,g⟩:W.InstAt x.s.heap p.1 (CB (c.CL cl) p.2) (c.CL cl) (some o)) (kv▸F.fE (10+cl) t ko ht) (λq=>by cases q) fin
 cases a with
 |cell i=>exact vw h1
 |d d=>cases d with
  |none=>
   rw [←η (h1:some 0=some k)] at fin;refine C9 (KN ha) ?_;exact Cb kitx_none X trivial (F.fE 0 t rfl ht) (λq=>by cases q) fin
  |bool b=>
   rw [←η (h1:some 1=some k)] at fin;refine C9 (IQ ha) ?_;exact Cb kitx_bool X trivial (F.fE 1 t rfl ht) (λq=>by cases q) fin
  |int i=>
   rw [←η (h1:some 2=some k)] at fin;refine D3 (E6 ha) λu Fi=> ?_;subst Fi;exact Cb kitx_int X trivial (F.fE 2 t rfl ht) (λq=>by cases q) fin
  |sym n=>
   rw [←η (h1:some 3=some k)] at fin;cases (ha:DV c x.hf va (.sym n)) with
   |sym=>exact Cb kitx_str X trivial (F.fE 3 t rfl ht) (λq=>by cases q) fin
  |str w=>
   rw [←η (h1:some 3=some k)] at fin;cases (ha:DV c x.hf va (.str w)) with
   |str=>exact Cb kitx_str X trivial (F.fE 3 t rfl ht) (λq=>by cases q) fin
  |nd=>exact vw h1
theorem eI{keep:Bool}{hd:Hd}{l:List V}{r:V}{σ DT:Store}{Q:Bj→Bl→Prop}(e:Df keep hd l σ=some (r,DT)){h':Bz}{G3:HF}{ρ:RH}(N:Ol x.hf x.ρ x.s.heap G3 ρ h')(R:F5 c G3 ρ σ h'){p:Br×Br}{o:Obj}{vs:List Bj}(hp:x.s.heap.get? p.2=none)(hn:G3 p.2=none)(fr: ∀q∈ρ,q.2≠p.2)
  (ho:h'.get? p.2=some o) (sh:Xj c G3 p o hd vs) (hv:GC c G3 ρ vs l) {s':Bl} (hs:s'.heap=h') (sm:GB x.s s')
  (h: ∀val (z:St c),Le x z→z.σ=DT→z.VV val r→(∀b o,h'.get? b=some o→b≠p.2→G3 b=none→(∀q∈ρ,q.2≠b)→z.hf b=none∧ ∀q∈z.ρ,q.2≠b)→z.s=s'→Q val z.s):Q (.ref p.1) s':=by
 subst hs;cases keep with
 |true=>
  revert h;refine NC (show some (V.cell σ.length,σ++ [Dh.lv hd l])=some (r,DT) from e) ?_;intro h;refine h _ ⟨G3,ρ++ [p],σ++ [.lv hd l],s',R.cell (k:= .lv hd l) (FJ hn o vs ho sh hv) rfl fr⟩ ⟨⟨N.kf,λi q e=>(Ο (FK (N.JX i q e))).trans (N.JX i q e),N.Ee,N.FA,λq hq=> ?_⟩,sm⟩ rfl (DM p (by exact Dr R.len<|C9 (AG (Ι _))<|C9 (Ai _) rfl) rfl) (λb o eb nb hn I8=>⟨hn,λq hq=>(ω.mp hq).elim (I8 q) λz w=>nb ((ς.mp z▸w).symm)⟩) rfl;rcases ω.mp hq with z|z
  ·exact N.EE q z
  ·exact .inr (ς.mp z▸hp)
 |false=>
  have e:EI (HN (Ht FZ) l σ) (λds σ=>some (V.d (.nd hd ds),σ))=some (r,DT):=e;refine DP e λds DD KT e=> ?_;revert h;refine NC (show some (V.d (.nd hd ds),DD)=some (r,DT) from e) ?_;intro h;refine Ys (x:=⟨G3,ρ,σ,s',R⟩) KT hv λLW KJ IX dv=> ?_
  have RY:LW p.2=none:=by
   cases q:LW p.2 with
   |none=>rfl
   |some o'=>
    rcases IX.nx.FA _ _ q with z|⟨w,hw,z⟩|z
    ·exact DC (hn.symm.trans z)
    ·exact absurd z (fr w hw)
    ·exact DC (z.symm.trans ho)
  have le:=Hn (o:=o) RY;refine h _ ⟨Vn LW p.2 o,ρ,_,s',KJ.freeze RY (λO O e=>e) ho rfl λi z q e1 e2=> .inl ⟨e1,λO=>fr q (AC e2)⟩⟩ ⟨⟨λb o' e=>le b o' (IX.nx.kf _ _ (N.kf _ _ e)),N.JX,N.Ee,λb o' e=>JT e (λw O=> .inr (.inr (w▸hp))) λO e=>(N.trans IX.nx).FA _ _ e,N.EE⟩,sm⟩ rfl (DV.nd (GK _ _ _) ((sh.mono IX.nx.kf).mono le) (dv.PF le)) (λb o' eb nb qO I8=>⟨?_,I8⟩) rfl;show Vn LW p.2 o b=none;refine C9 (Nf _ _ nb) ?_;cases q:LW b with
  |none=>rfl
  |some pz=>
   rcases IX.nx.FA _ _ q with z|⟨w,hw,z⟩|z
   ·exact DC (qO.symm.trans z)
   ·exact absurd z (I8 w hw)
   ·exact DC (z.symm.trans eb)
theorem OK{keep:Bool}{hd:Hd}{l:List V}{r:V}{σ DT:Store}{Q:Bj→Bl→Prop}(e:Df keep hd l σ=some (r,DT)){h':Bz}{G3:HF}{ρ:RH}(N:Ol x.hf x.ρ x.s.heap G3 ρ h')(R:F5 c G3 ρ σ h'){p:Br×Br}{o:Obj}{vs:List Bj}(hp:x.s.heap.get? p.2=none)(hn:G3 p.2=none)(fr: ∀q∈ρ,q.2≠p.2)
  (ho:h'.get? p.2=some o) (sh:Xj c G3 p o hd vs) (hv:GC c G3 ρ vs l) (h:Ok x DT r Q) {s':Bl} (hs:s'.heap=h') (sm:GB x.s s'):Q (.ref p.1) s':=eI e N R hp hn fr ho sh hv hs sm λval z l e hv O O=>h val z l e hv
theorem VJ{keep:Bool}{us:List Bj}{l:List V}{r:V}{DT:Store}(e:Df keep .lst l x.σ=some (r,DT))(hv:x.GC us l)(hb:us.length≤big){M:Model}{Q:Bj→Bl→Prop}(h:Ok x DT r Q):Bp M A (newList us) Q E x.s:=
 Cq (OK (p:=(x.s.heap.objs.size,x.s.heap.objs.size)) e (F3 (E3 us 0)).nx (x.JV (E3 us 0)).R (Dc _) (x.R.fresh (Dc _)).1 (x.R.fresh (Dc _)).2 (Ξ _ rfl) ⟨rfl,hb,0,rfl⟩ hv h rfl ⟨rfl,rfl,rfl⟩) (by refine C9 Bw ?_;unfold big at hb;exact X1 hb rfl)
theorem Sg{keep:Bool}{us:List Bj}{l:List V}{r:V}{DT:Store}(e:Df keep .tup l x.σ=some (r,DT))(hv:x.GC us l)(hb:us.length≤big){M:Model}{Q:Bj→Bl→Prop}(h:Ok x DT r Q):Bp M A (newTuple us) Q E x.s:=
 wpAny_newTuple (OK (p:=(x.s.heap.objs.size,x.s.heap.objs.size)) e (F3 (GW us 0)).nx (x.JV (GW us 0)).R (Dc _) (x.R.fresh (Dc _)).1 (x.R.fresh (Dc _)).2 (Ξ _ rfl) ⟨rfl,hb,0,rfl⟩ hv h rfl ⟨rfl,rfl,rfl⟩) (by refine C9 Bw ?_;unfold big at hb;exact X1 hb rfl)
theorem QK(SM: ∃o,c.h₀.get? By=some o){I:Br}(hI:x.s.heap.get? I=none):(I==By)=false:=
 beq_eq_false_iff_ne.mpr λz=>D3 SM λo' Jx=>DC (hI.symm.trans (z▸x.R.keep _ _ (x.R.base _ _ Jx)))
theorem T5(SM: ∃o,c.h₀.get? By=some o){keep:Bool}{k:Nat}{ks:List DO}{l:List V}{r:V}{DT:Store}{v:Bj}{s':Bl}{Q:Bj→Bl→Prop}(e:Df keep (.Dg k ks) l x.σ=some (r,DT))(N:NM x k ks l v s')(h:Ok x DT r Q):Q v s':=by
 obtain ⟨I,o,vs,rfl,hI,ho,hd,hv,kp,sm⟩:=N;exact OK (p:=(I,I)) e (F9 _ _ kp) (x.R.Ef λb o e O=>kp b o e) hI (x.R.fresh hI).1 (x.R.fresh hI).2 ho ⟨rfl,QK SM hI,hd⟩ hv h rfl sm
end
end
end
section
mutual open A
structure I2(K:B4)(c:Cx):Prop where
 X:K.In c.h₀
 F:xt K c.CL
 g: ∃mg,c.h₀.Ns Bx mg
 b: ∃mb,c.h₀.Ns Cv mb∧ ∀x:Str,x≠ "__name__" →mb x=Cj x
 nolimit:c.h₀.NoLimit
 SM: ∃o,c.h₀.get? By=some o
structure Mw(A:Bs)(k:Nat):Prop where
 handled:A.handled=none
 guards:A.guards=some []
 depth:A.depth+3*k+10≤1000
 units:A.units+30*k+200≤9900
theorem Mw.deeper{A:Bs}{k:Nat}(h:Mw A (k+1))(env:Env):Mw (A.deeper env) k:=⟨h.handled,h.guards,by have:=h.depth;show A.depth+1+3*k+10≤1000;lia,by have:=h.units;show A.units+3+30*k+200≤9900;lia⟩
theorem Mw.u{A:Bs}{k:Nat}(h:Mw A k):A.units+100<B3:=by have:=h.units;show A.units+100<9900;lia
inductive NK where
 |loc|cf|gl
abbrev Vw:=Str→Option NK
def nk:B0→Option NK
 | .local=>some .loc
 | .cell=>some .cf
 | .free=>some .cf
 | .globalImplicit=>some .gl
 |_=>none
def vw(sc:CM):Vw:=λid=>DN (sc.names.lookup id) nk
def seen(q:Vw)(id:Str):Bool:=match q id with
 |some .loc=>true
 |some .cf=>true
 |_=>false
def MP(env:Env)(h:Bz)(x:Str)(v:Bj):Prop:=
 (env.kindOf x=some .local∧ ∃m,h.Ns env.locals m∧m x=some v)∨((env.kindOf x=some .cell∨env.kindOf x=some .free)∧ ∃b,env.cells.lookup x=some b∧h.IsCell b (some v))
def NO(env:Env)(b:Br):Prop:=b=env.locals∨ ∃n,env.cells.lookup n=some b
structure FS(env:Env):Prop where
 kind:env.scope.kind= .function
 glob:env.globals=Bx
 fb:env.builtins=Cv
 apart:env.cells.Pairwise λx y=>x.2≠y.2
 other: ∀n b,env.cells.lookup n=some b→b≠env.locals
 cf: ∀n,vw env.scope n=some .cf→(env.cells.lookup n).isSome=true
structure FR{c:Cx}(env:Env)(loc:Di)(x:St c):Prop where
 S:FS env
 low: ∀a v,DE loc a=some v→a<Fw.length
 vals: ∀a v,DE loc a=some v→seen (vw env.scope) (nm a)=true→ ∃val,MP env x.s.heap (nm a) val∧x.VV val v
 ns: ∃m,x.s.heap.Ns env.locals m
 cell: ∀n b,env.cells.lookup n=some b→ ∃v,x.s.heap.IsCell b v
 Ee: ∀b,NO env b→x.hf b=none∧ ∀p∈x.ρ,p.2≠b
end
section
mutual open A
variable{c:Cx}{A:Bs}{s:Bl}{E:Bj→Bl→Prop}{x y:St c}{K:B4}{env:Env}{loc:Di}
theorem MP.keeps{h h':Bz}{a:Str}{v:Bj}(N:MP env h a v)(k: ∀b,NO env b→ ∀o,h.get? b=some o→h'.get? b=some o):MP env h' a v:=by
 rcases N with ⟨a,m,⟨o,es,ep,ho,r⟩,z⟩|⟨a,b,hb,o,ho,r⟩
 ·exact .inl (GS a m (QL o es ep (k _ (.inl rfl) _ ho) r) z)
 ·exact .inr (i7 a b hb o (k _ (.inr (EF _ hb)) _ ho) r)
theorem FR.move(f:FR env loc x)(k: ∀b,NO env b→ ∀o,x.s.heap.get? b=some o→y.s.heap.get? b=some o)(vv: ∀val v,x.VV val v→y.VV val v)(pr: ∀b,NO env b→y.hf b=none∧ ∀p∈y.ρ,p.2≠b):FR env loc y:=
 ⟨f.S,f.low,λa v e se=>DQ (f.vals a v e se) λval n b=>(DM val (n.keeps k) (vv _ _ b)),Jm f.ns λm o es ep ho r=>(QC m o es ep (k _ (.inl rfl) _ ho) r),λn b e=>GD (f.cell n b e) λv o ho r=>(Gp v o (k _ (.inr (EF n e)) _ ho) r),pr⟩
theorem FR.ex(f:FR env loc x){b:Br}(hb:NO env b): ∃o,x.s.heap.get? b=some o:=by
 rcases hb with e|⟨n,hn⟩
 ·refine Jm f.ns λm o O O ho O=> ?_;exact (EF o (e▸ho))
 ·refine GD (f.cell n b hn) λv o ho O=> ?_;exact (EF o ho)
theorem FR.J0(f:FR env loc x)(l:Le x y):FR env loc y:=by
 refine f.move (λb hb o e=>l.nx.Ee b o e (f.Ee b hb).2) (λO O h=>VV.le h l) λb hb=> ?_;refine D3 (f.ex hb) λo ho=> ?_;refine ⟨?_,λp hp e=> ?_⟩
 ·cases q:y.hf b with
  |none=>rfl
  |some o'=>
   rcases l.nx.FA b o' q with z|⟨p,hp,z⟩|z
   ·exact DC ((f.Ee b hb).1.symm.trans z)
   ·exact absurd z ((f.Ee b hb).2 p hp)
   ·exact DC (z.symm.trans ho)
 ·rcases l.nx.EE p hp with ⟨q,hq,z⟩|z
  ·exact (f.Ee b hb).2 q hq (z.trans e)
  ·exact DC (z.symm.trans (e▸ho))
def EW(x:Str):Bool:=x==("__debug__" :Str)||x==("__classdict__" :Str)
theorem LX{a:Str}(d:(!EW a)=true):(a==("__debug__" :Str))=false∧(a==("__classdict__" :Str))=false:=by
 unfold EW at d;cases h1:a==("__debug__" :Str) with
 |true=>rw [h1] at d;exact ζ d
 |false=>rw [h1] at d;cases h2:a==("__classdict__" :Str) with
  |true=>rw [h2] at d;exact ζ d
  |false=>exact ⟨rfl,rfl⟩
theorem U8{a:Nat}{v:V}{pos:Pos}{Q:Bj→Bl→Prop}(f:FR env loc x)(e:DE loc a=some v)(se:seen (vw env.scope) (nm a)=true)(d:(!EW (nm a))=true)(h:Ok x x.σ v Q):Bp (Bq c.prog c.w) A (eval (.Name (nm a) pos) env) Q E x.s:=by
 refine DQ (f.vals a v e se) λval N hv=> ?_;refine Dl (LX d) λd1 d2=> ?_;have q:=h.Mg hv;refine wpAny_Name ?_ d1;rcases N with ⟨a,m,b,z⟩|⟨a|a,b,hb,z⟩
 ·exact wpAny_loadName_local f.S.kind a b z q
 ·exact wpAny_loadName_cell f.S.kind a hb z q
 ·exact wpAny_loadName_free f.S.kind a hb z q d2
theorem St.base(x:St c): ∀b o,c.h₀.get? b=some o→x.s.heap.get? b=some o:=λb o e=>x.R.keep _ _ (x.R.base _ _ e)
theorem KS(B:I2 K c)(f:FR env loc x){a:Str}{v:Bj}{pos:Pos}{Q:Bj→Bl→Prop}(hk:env.kindOf a=some .globalImplicit)(e:C3 K Bx a=some (some v))(d:(!EW a)=true)(h:Q v x.s):Bp (Bq c.prog c.w) A (eval (.Name a pos) env) Q E x.s:=
 D3 B.g λmg hg=>
 Name_function_global f.S.kind hk (loadGlobal_global (by exact C9 f.S.glob<|hg.keeps x.base) (mg_of B.X hg e) h) (LX d).1
theorem Un(B:I2 K c)(f:FR env loc x){a:Str}{v:Bj}{pos:Pos}{Q:Bj→Bl→Prop}(hk:env.kindOf a=some .globalImplicit)(e:C3 K Bx a=some none)(hb:Cj a=some v)(hn:a≠ "__name__")(d:(!EW a)=true)(h:Q v x.s):Bp (Bq c.prog c.w) A (eval (.Name a pos) env) Q E x.s:=
 D3 B.g λmg hg=>
 DQ B.b λmb vt cA=>
 Name_function_global f.S.kind hk (loadGlobal_builtin (by exact C9 f.S.glob<|hg.keeps x.base) (mg_none_of B.X hg e) (by exact C9 f.S.fb<|vt.keeps x.base) ((cA a hn).trans hb) h) (LX d).1
theorem E7{a b:Nat}{v:V}{l:Di}:DE (DR l a v) b=if a=b then some v else DE l b:=by
 induction l with
 |nil=>
  show cond (μ a b) (some v) none=_
  by_cases h:a=b
  ·exact C9 h<|C9 (AH _)<|C9 (if_pos rfl) rfl
  ·exact C9 (jM h)<|C9 (if_neg h) rfl
 |cons p r ih=>
  show DE (cond (μ p.1 a) ((p.1,v)::r) (p::DR r a v)) b=if a=b then some v else cond (μ p.1 b) (some p.2) (DE r b)
  by_cases hz:p.1=a
  ·refine C9 hz<|C9 (AH _) ?_
   show cond (μ a b) (some v) (DE r b)=_
   by_cases h:a=b
   ·exact C9 h<|C9 (AH _)<|C9 (if_pos rfl) rfl
   ·exact C9 (jM h)<|C9 (if_neg h) rfl
  ·refine C9 (jM hz) ?_
   show cond (μ p.1 b) (some p.2) (DE (DR r a v) b)=_;refine C9 ih ?_
   by_cases h:a=b
   ·exact C9 (if_pos h)<|C9 (if_pos h)<|C9 (jM (h▸hz)) rfl
   ·(exact C9 (if_neg h)<|C9 (if_neg h) rfl)
theorem S7{a:Nat}{v:V}{val:Bj}{Q:Unit→Bl→Prop}(f:FR env loc x)(ha:a<Fw.length)(hk:env.kindOf (nm a)=some .local∨(env.kindOf (nm a)=some .cell∧(env.cells.lookup (nm a)).isSome=true))(hv:x.VV val v)
  (h: ∀s' (R:F5 c x.hf x.ρ x.σ s'.heap),FR env (DR loc a v) ⟨x.hf,x.ρ,x.σ,s',R⟩→(∀b o,¬NO env b→x.s.heap.get? b=some o→s'.heap.get? b=some o)→GB x.s s'→Q () s'):
  Bp (Bq c.prog c.w) A (storeName env (nm a) val) Q E x.s:=by
 have ne: ∀b v',DE loc b=some v'→a≠b→nm b≠nm a:=λb v' e q z=>q (J7 (f.low b v' e) ha z).symm
 have aI: ∀b u,DE (DR loc a v) b=some u→b<Fw.length:=λb u e=>by
  rw [E7] at e
  by_cases q:a=b
  ·exact q▸ha
  ·rw [if_neg q] at e;exact f.low b u e
 have out: ∀{h':Bz} {d:Br},NO env d→Bz.SameBut d x.s.heap h'→ ∀b o,x.s.heap.get? b=some o→(x.hf b=some o∨ ∃p∈x.ρ,p.2=b)→h'.get? b=some o:=λhd hs b o e q=>(hs.2 b (λz=>by
  subst z;rcases q with q|⟨p,hp,q⟩
  ·exact DC ((f.Ee _ hd).1.symm.trans q)
  ·exact (f.Ee _ hd).2 p hp q)).trans e
 rcases hk with hk|⟨hk,hc⟩
 ·refine D3 f.ns λm hm=> ?_
  refine CG hk hm (λh' qM hs=>h _ (x.R.Ef (out (.inl rfl) hs)) ⟨f.S,aI,λb u e se=> ?_,(EF _ qM),λn d e=>D3 (f.cell n d e) λv' fA=>(EF v' (fA.sameBut hs (f.S.other n d e))),f.Ee⟩ (λb o hb e=>(hs.2 b λz=>hb (.inl z)).trans e) ⟨rfl,rfl,rfl⟩) (by exact C9 f.S.kind rfl);rw [E7] at e
  by_cases q:a=b
  ·subst q
   rw [if_pos rfl] at e;exact (DM val (.inl (GS hk _ qM (if_pos rfl))) (η e▸hv))
  ·rw [if_neg q] at e
   refine DQ (f.vals b u e se) λgc N fA=> ?_;refine (DM gc ?_ fA);rcases N with ⟨z,m2,b1,b2⟩|⟨z,d,hd,b1⟩
   ·refine .inl (GS z _ qM ?_)
    show (if nm b=nm a then some val else m (nm b))=some gc;refine C9 (if_neg (ne b u e q)) ?_;refine Do b1 λo1 e1 p1 g1 d1 O r1=> ?_;clear b1;refine Do hm λo2 e2 p2 g2 d2 O r2=> ?_;clear hm;rw [g1] at g2;cases g2;rw [d1] at d2;cases d2;exact Dr (r2 _)<|C9 (r1 _) b2
   ·exact .inr (GS z d hd (b1.sameBut hs (f.S.other _ _ hd)))
 ·refine D3 (AV.mp hc) λd hd=> ?_
  refine D3 (f.cell _ d hd) λv₀ rK=> ?_;refine wpAny_storeName_cell f.S.kind hk hd rK λh' v9 hs=>h _ (x.R.Ef (out (.inr (EF _ hd)) hs)) ⟨f.S,aI,λb u e se=> ?_,D3 f.ns λm hm=>(EF m (hm.sameBut hs (Ne.symm (f.S.other _ _ hd)))),λn d' e=> ?_,f.Ee⟩ (λb o hb e=>(hs.2 b λz=>hb (.inr (EF _ (z▸hd)))).trans e) ⟨rfl,rfl,rfl⟩
  ·rw [E7] at e
   by_cases q:a=b
   ·subst q
    rw [if_pos rfl] at e;exact (DM val (.inr (GS (.inl hk) d hd v9)) (η e▸hv))
   ·rw [if_neg q] at e
    refine DQ (f.vals b u e se) λgc N fA=> ?_;refine (DM gc ?_ fA);rcases N with ⟨z,m2,b1,b2⟩|⟨z,d2,hd2,b1⟩
    ·exact .inl (GS z m2 (b1.sameBut hs (Ne.symm (f.S.other _ _ hd))) b2)
    ·exact .inr (GS z d2 hd2 (b1.sameBut hs λw=>ne b u e q (name_of_addr f.S.apart (mem_of_lookup hd2) (w▸mem_of_lookup hd))))
  ·by_cases z:d'=d
   ·subst z;exact (EF _ v9)
   ·refine D3 (f.cell n d' e) λv' fA=> ?_
    exact (EF v' (fA.sameBut hs z))
end
end
end
section
mutual open A
abbrev Dq:Bj→Bl→Prop:=λO O=>False
def ru:List Str:= ["Decimal", "Name", "String", "Stream", "Reference", "Shelf", "Page", "Spot", "Collector"]
def Pt(c:Nat):Str:=ru.getD c ""
def QT:List Str:= ["len", "abs", "int", "sum", "sorted", "tuple", "list", "bytes", "repr", "dict", "isinstance", "range", "reversed", "bool"]
structure KG(K:B4)(c:Cx)(fa:Nat→Br):Prop where
 fn: ∀f i,bc f=some i→C3 K Bx (nm f)=some (some (.ref (fa i)))∧i<fns.length
 cls: ∀cl,cl<9→C3 K Bx (Pt cl)=some (some (.ref (c.CL cl)))
 bn: ∀(i:Nat) a,QT[i]?=some a→C3 K Bx a=some none
 gv: ∀a d,fV a=some d→ ∃v,C3 K Bx (nm a)=some (some v)∧DV c (λb=>K.lookup b) v d
 kf: ∀i,i<fns.length→keepIn K (.ref (fa i))=true
 kc: ∀cl,(KO cl).isSome=true→keepIn K (.ref (c.CL cl))=true
 mt: ∀cl m i,Ki cl m=some i→i<fns.length∧Cy K (c.CL cl) (nm m)=true∧CV K (.ref (c.CL cl)) (nm m)=some (some (.ref (fa i)))∧isFn K (.ref (fa i))=true
structure kB(c:Cx)(fa:Nat→Br)(G:HR)(A:Bs):Prop where
 call: ∀{keep i args r DT} {x:St c} {us Q},G.call keep i args x.σ=some (r,DT)→x.GC us args→Ok x DT r Q→Bp (Bq c.prog c.w) A (PySem.call (.ref (fa i)) us) Q Dq x.s
 init: ∀{cl args fs DD keep r DT} {x:St c} {us Q},G.init cl args x.σ=some (fs,DD)→Df keep (.inst cl) fs DD=some (r,DT)→x.GC us args→Ok x DT r Q→Bp (Bq c.prog c.w) A (PySem.call (.ref (c.CL cl)) us) Q Dq x.s
 hi: ∀{cl vs σ r},G.init cl vs σ=some r→(KO cl).isSome=true
structure Zt(K:B4)(c:Cx)(fa:Nat→Br)(G:HR)(A:Bs)(k:Nat):Prop where
 B:I2 K c
 T:KG K c fa
 C:kB c fa G A
 rm:Mw A (k+1)
abbrev EJ:=Vw→Expr→Bool
structure I4{c:Cx}(A:Bs)(env:Env)(loc:Di)(x:St c)(f:Ev)(e:Expr):Prop where
 run: ∀{r DT Q},f loc x.σ=some (r,DT)→Ok x DT r Q→Bp (Bq c.prog c.w) A (eval e env) Q Dq x.s
structure Xv{c:Cx}(A:Bs)(env:Env)(loc:Di)(x:St c)(f:Ev)(e:Expr):Prop where
 run: ∀{r DT b} {Q:Bool→Bl→Prop},f loc x.σ=some (r,DT)→G1 DT r=some b→Did x DT (Q b)→Bp (Bq c.prog c.w) A (isTrue e env (eval e env)) Q Dq x.s
def Db(c:Cx)(A:Bs)(o:EJ)(f:Ev):Prop:= ∀{e env loc} {x:St c},o (vw env.scope) e=true→FR env loc x→I4 A env loc x f e∧Xv A env loc x f e
end
section
mutual open A
variable{c:Cx}{A:Bs}{x y:St c}{K:B4}{env:Env}{loc:Di}{f g h:Ev}{o1 o2 o3:EJ}{e e1 e2 e3:Expr}{pos:Pos}{r:V}{DT:Store}{Q:Bj→Bl→Prop}
theorem I4.EI(H:I4 A env loc x f e){β:Type}{g:V→Store→Option β}{r:β}(ev:EI (f loc x.σ) g=some r)(fr:FR env loc x)(go: ∀val (y:St c) v,Le x y→y.VV val v→FR env loc y→g v y.σ=some r→Q val y.s):Bp (Bq c.prog c.w) A (eval e env) Q Dq x.s:=
 DP ev λa σ h1 h2=>H.run h1 λval y l e hv=>go val y a l hv (fr.J0 l) (e.symm▸h2)
theorem Ok.lift{z:St c}(k:Ok x DT r Q)(l:Le x z){o:Option V}(e:lift o z.σ=some (r,DT)){P:Prop}(go: ∀v,o=some v→Ok z z.σ v Q→P):P:=
 Fq (P:=λr DT=>Ok x DT r Q→P) e (λv h1 k=>go v h1 (k.after l)) k
theorem Ok.some{z:St c}(k:Ok x DT r Q)(l:Le x z){v:V}(e:some (v,z.σ)=some (r,DT)):Ok z z.σ v Q:=by cases e;exact k.after l
def special:Expr→Bool
 | .UnaryOp op _ _=>match op with
  | .Not=>true
  |_=>false
 | .BoolOp .. =>true
 | .IfExp .. =>true
 | .Compare .. =>true
 |_=>false
theorem U2{e:Expr}(h:special e=false)(env:Env)(whole:Sem Bj):isTrue e env whole=(do let v←whole;standAt e.pos;C6 [v] (truthy v)):=by
 cases e with
 |UnaryOp op _ _=>cases op<;>first|rfl|exact ζ h
 |BoolOp=>exact ζ h
 |IfExp=>exact ζ h
 |Compare=>exact ζ h
 |_=>rfl
theorem I4.tr(H:I4 A env loc x f e)(np:special e=false):Xv A env loc x f e:=⟨λev tr k=>
 isTrue_plain (H.run ev λval y l ey hv=>TG hv (ey.symm▸tr) λt=>k ⟨y.hf,y.ρ,y.σ,{y.s with toks:=t},y.R⟩ ⟨l.nx,l.sm.1,l.sm.2,l.sm.3⟩ ey) (U2 np env _)⟩
theorem xX{n:Nat}(se:seen (vw env.scope) (nm n)=true)(d:(!EW (nm n))=true)(fr:FR env loc x):I4 A env loc x (mP n) (.Name (nm n) pos):=⟨λev k=>k.lift (.refl x) ev λv e k=>U8 fr e se d k⟩
def qi:Option NK→Bool
 |some .gl=>true
 |_=>false
def PE(sc:Vw)(id:Str):Bool:=qi (sc id)
theorem sA{k:B0}(h:nk k=some .gl):k= .globalImplicit:=by cases k<;>first|rfl|cases h
theorem Y9{o:Option NK}(h:qi o=true):o=some .gl:=by
 cases o with
 |none=>exact ζ h
 |some k=>cases k<;>first|rfl|exact ζ h
theorem LQ{id:Str}(h:PE (vw env.scope) id=true):env.kindOf id=some .globalImplicit:=
 DA (Y9 h:vw env.scope id=some .gl) λk h1 h2=>h1.trans (congrArg Option.some (sA h2))
theorem St.vT(B:I2 K c)(x:St c): ∀b o,K.lookup b=some o→x.hf b=some o:=λb o e=>x.R.base b o (B.X b o e)
theorem gGv{fa:Nat→Br}(B:I2 K c)(T:KG K c fa){n:Nat}(kg:PE (vw env.scope) (nm n)=true)(d:(!EW (nm n))=true)(fr:FR env loc x):I4 A env loc x (yR n) (.Name (nm n) pos):=⟨λev k=>
 k.lift (.refl x) ev λv e k=>DA e λdd h1 e=>by
  refine DQ (T.gv n dd h1) λu hu hdv=> ?_;rw [←η e] at k;exact KS B fr (LQ kg) hu d (k.Mg (hdv.mono (x.vT B)))⟩
def kU(t n:Nat):Const→Bool
 | .none=>μ t 2
 | .bool b=>μ t 3&&(μ n 1==b)
 | .int i=>μ t 4&&Dj i n
 | .str a=>μ t 5&&EQ a (nm n)&&Μ n Fw.length
 |_=>false
def kD(t n:Nat):D:=match t with
 |2=> .none
 |3=> .bool (μ n 1)
 |4=> .int n
 |_=> .sym n
theorem yH{t n:Nat}{cst:Const}{q:Nat}(ok:kU t n cst=true):I4 A env loc x (M5 (kD t n)) (.Constant cst q pos):=by
 refine ⟨λev k=> ?_⟩;show Bp _ _ (Cl env cst) _ _ _;have k:=k.some (.refl x) ev;cases cst with
 |none=>rw [nb ok] at k;exact Bn (k.Mg DV.none)
 |bool b=>refine Dl (band ok) λh1 h2=> ?_;rw [nb h1] at k;exact Dr (beq_iff_eq.mp h2)<|Bn (k.Mg (DV.bool _))
 |int i=>refine Dl (band ok) λh1 h2=> ?_;rw [nb h1] at k;exact C9 (EP h2)<|Cc (k.here (DV.int _ _) _)
 |str a=>refine Dl (band ok) λh1 h2=> ?_;refine Dl (band h1) λh1 h3=> ?_;rw [nb h1] at k;exact C9 (EH h3)<|wpAny_mkText (k.here (DV.sym _ _ (Ds.mp h2)) _)
 |_=>exact ζ ok
theorem zI{n:Nat}{p:Pos}{q:Nat}:I4 A env loc x (M5 (.int (-(n:Int)))) (.UnaryOp .USub (.Constant (.int n) q p) pos):=by
 refine ⟨λev k=> ?_⟩;have k:=k.some (.refl x) ev;refine wpAny_UnaryOp ?_;show Bp _ _ (Cl env _) _ _ _;exact Cc (PySem.P.neg_int (k.here (DV.int _ _) _))
theorem xy{n:Nat}(hn:n<1000){p p':Pos}{q q':Nat}:I4 A env loc x (M5 (.int ((10:Int)^n))) (.BinOp (.Constant (.int 10) q p) .Pow (.Constant (.int n) q' p') pos):=by
 refine ⟨λev k=> ?_⟩;have k:=k.some (.refl x) ev;refine C9 (arm_eval_BinOp _ _ _ _ _) ?_;refine Bk ?_;show Bp _ _ (Cl env _) _ _ _;refine Cc (Bk (Bt ?_));show Bp _ _ (Cl env _) _ _ _;exact Cc (Bk (Bv (Co (PyProof.Rows.pow_int_small (by exact AP _) (by lia) (by exact ψ _ _) (k.here (DV.int _ _) _)))))
def J6:Expr→Bool
 | .Call f a k _=>match f with
  | .Name _ _=> !(a.isEmpty&&k.isEmpty)
  |_=>true
 |_=>true
theorem WB{o:Expr}(h:J6 o=true)(attr:Str)(env:Env)(whole:Sem Bj):attributeBase o attr env whole=whole:=by
 cases o with
 |Call f a k p=>cases f with
  |Name=>cases a with
   |nil=>cases k with
    |nil=>exact ζ h
    |cons=>rfl
   |cons=>rfl
  |_=>rfl
 |_=>rfl
theorem vZ(B:I2 K c)(H:Db c A o1 f){a:Nat}(ho:o1 (vw env.scope) e=true)(hb:J6 e=true)(fr:FR env loc x):I4 A env loc x (XE a f) (.Attribute e (nm a) pos):=by
 refine ⟨λev k=> ?_⟩;refine C9 (arm_eval_Attribute _ _ _ _)<|C9 (WB hb _ _ _) ?_
 exact Bk ((H ho fr).1.EI ev fr λov y v l hv fy ev=>Bk (Bv (Bk (Bt (k.lift l ev λb hb k=>Tw B.F.toKF (y.R.av B.X) hv hb λval z m ez hz=>Bk (wpAny_letTemporaryGo (Bn (k val z m ez hz))))))))
theorem xC(H1:Db c A o1 f)(H2:Db c A o2 g)(h1:o1 (vw env.scope) e1=true)(h2:o2 (vw env.scope) e2=true)(hu:A.units+2<B3)(fr:FR env loc x):I4 A env loc x (iA f g) (.Subscript e1 e2 pos):=⟨λev k=>
 Subscript_ ((H1 h1 fr).1.EI ev fr λov y a l ho fy ev=>(H2 h2 fy).1.EI ev fy λiv z b m hi fz ev=>k.lift (l.trans m) ev λv hv k=>Xq hu (VV.le ho m) hi hv k)⟩
theorem xj(H1:Db c A o1 f)(H2:Db c A o2 g)(op:Operator)(h1:o1 (vw env.scope) e1=true)(h2:o2 (vw env.scope) e2=true)(fr:FR env loc x):I4 A env loc x (gh (fj op) f g) (.BinOp e1 op e2 pos):=by
 refine ⟨λev k=> ?_⟩;refine C9 (arm_eval_BinOp _ _ _ _ _) ?_;exact Bk ((H1 h1 fr).1.EI ev fr λov y a l ho fy ev=>Bk (Bt ((H2 h2 fy).1.EI ev fy λiv z b m hi fz ev=>Bk (Bv (Co (k.lift (l.trans m) ev λv hv k=>ZA op (VV.le ho m) hi hv k))))))
theorem K2{a:V}{b:Bool}(e:wE a=some b):a= .d (.bool b):=by
 cases a with
 |cell=>exact DC e
 |d d=>cases d with
  |bool=>exact De e rfl
  |_=>exact DC e
theorem yf(H:Db c A o1 f)(ho:o1 (vw env.scope) e=true)(fr:FR env loc x):I4 A env loc x (cW f) (.UnaryOp .Not e pos)∧Xv A env loc x (cW f) (.UnaryOp .Not e pos):=
 ⟨⟨λev k=>wpAny_UnaryOp ((H ho fr).1.EI ev fr λov y v l hv fy ev=>k.lift l ev λb hb k=>DA hb λq h1 hb=>by
   rw [K2 h1] at hv;refine C9 (IQ hv) ?_;rw [←η hb] at k;exact PyProof.Rows.not_of (B1 (k.Mg (DV.bool _))))⟩,
  ⟨λ{r DT b Q} ev tr k=>DP ev λa σ h1 h2=>by
   refine Fq (P:=λr DT=>G1 DT r=some b→Did x DT (Q b)→_) h2 (λv h3 tr k=>DA h3 λq h4 h3=> ?_) tr k;rw [←η h3] at tr;rw [←η (tr:some (!q)=some b)] at k;exact isTrue_not ((H ho fr).2.run h1 (b:=q) (by exact C9 (K2 h4) rfl) λy l ey=>k y l ey)⟩⟩
def J4:Expr→Bool
 | .Set .. =>false
 |_=>true
theorem Jn{r:Expr}(h:J4 r=true)(o:C4):behindInMarks o r=false:=by cases r<;>first|rfl|exact ζ h
theorem WK(H1:Db c A o1 f)(H2:Db c A o2 g)(op:C4)(h1:o1 (vw env.scope) e1=true)(h2:o2 (vw env.scope) e2=true)(hu:A.units+64<B3)(fr:FR env loc x)(ev:Ya (Lw op) f g loc x.σ=some (r,DT))(k: ∀b,r= .d (.bool b)→Did x DT (Q (.bool b))):
  Bp (Bq c.prog c.w) A (eval e1 env) (λa D6=>Bp (Bq c.prog c.w) A (eval e2 env) (λb Ej=>Bp (Bq c.prog c.w) A (compareOp op a b) Q Dq Ej) Dq D6) Dq x.s:=
 (H1 h1 fr).1.EI ev fr λov y a l ho fy ev=>(H2 h2 fy).1.EI ev fy λiv z b m hi fz ev=>Fq (P:=λr DT=>(∀b,r= .d (.bool b)→Did x DT (Q (.bool b)))→_) ev (λv hv k=>DA hv λq h3 hv=>MC op hu (VV.le ho m) hi h3 λt=>k q (η hv).symm ⟨z.hf,z.ρ,z.σ,{z.s with toks:=t},z.R⟩ ⟨(l.trans m).nx,(l.trans m).sm.1,(l.trans m).sm.2,(l.trans m).sm.3⟩ rfl) k
theorem NH{b:Bool}(k:Ok x DT r Q)(w:r= .d (.bool b)):Did x DT (Q (.bool b)):=λy l ey=>k _ y l ey (w▸DV.bool b)
theorem OG{b b':Bool}(w:r= .d (.bool b))(tr:G1 DT r=some b'):b=b':=by subst w;exact η tr
theorem yc(H1:Db c A o1 f)(H2:Db c A o2 g)(op:C4)(ns:J4 e2=true)(h1:o1 (vw env.scope) e1=true)(h2:o2 (vw env.scope) e2=true)(hu:A.units+64<B3)(fr:FR env loc x):I4 A env loc x (Ya (Lw op) f g) (.Compare e1 [op] [e2] pos)∧Xv A env loc x (Ya (Lw op) f g) (.Compare e1 [op] [e2] pos):=
 ⟨⟨λev k=>by
   refine C9 (arm_eval_Compare _ _ _ _ _)<|C9 (markedEach_of_false _ _ _ (show lastMarks [op] [e2]=false from Jn ns _)) ?_
   exact Bk (Bu (WK H1 H2 op h1 h2 hu fr ev λb w=>NH k w) (λa D6 h=>chain_last h) λO O x=>x)⟩,
  ⟨λ{r DT b Q} ev tr k=>by
   refine C9 (arm_isTrue_Compare _ _ _ _ _ _)<|C9 (markedEach_of_false _ _ _ (show lastMarks [op] [e2]=false from Jn ns _)) ?_
   exact Bk (Bu (WK H1 H2 op h1 h2 hu fr ev (Q:=λd Ej=>Bp (Bq c.prog c.w) A (truthy d) Q Dq Ej) λq w y l ey=>B1 (OG w tr▸k y l ey)) (λa D6 h=>test_last h) λO O x=>x)⟩⟩
theorem TU(H1:Db c A o1 f)(H2:Db c A o2 g)(H3:Db c A o3 h)(p q:C4)(h1:o1 (vw env.scope) e1=true)(h2:o2 (vw env.scope) e2=true)(h3:o3 (vw env.scope) e3=true)(hu:A.units+64<B3)(fr:FR env loc x)(ev:OE (Lw p) (Lw q) f g h loc x.σ=some (r,DT))
  {Q':Bool→Bl→Prop} (kf:r= .d (.bool false)→Did x DT (Q' false)) (kt: ∀b,r= .d (.bool b)→Did x DT (Q' b)) {Z:Bj→Bj→Bl→Prop}
  (z1: ∀iv (D6 Ej:Bl),Q' false Ej→Z iv (.bool false) Ej) (z2: ∀iv Ej,Bp (Bq c.prog c.w) A (eval e3 env) (λjv G7=>Bp (Bq c.prog c.w) A (compareOp q iv jv) (λv N3=> ∃b,v= .bool b∧Q' b N3) Dq G7) Dq Ej→Z iv (.bool true) Ej):
  Bp (Bq c.prog c.w) A (eval e1 env) (λa D6=>Bp (Bq c.prog c.w) A (eval e2 env) (λb Ej=>Bp (Bq c.prog c.w) A (compareOp p a b) (Z b) Dq Ej) Dq D6) Dq x.s:=
 (H1 h1 fr).1.EI ev fr λov y a l ho fy ev=>(H2 h2 fy).1.EI ev fy λiv z b m hi fz ev=>DA ev λt h4 ev=>MC p hu (VV.le ho m) hi h4 λtk=>by
  have lz:Le x ⟨z.hf,z.ρ,z.σ,{z.s with toks:=tk},z.R⟩:=⟨(l.trans m).nx,(l.trans m).sm.1,(l.trans m).sm.2,(l.trans m).sm.3⟩;cases t with
  |false=>have e:(V.d (.bool false),z.σ)=(r,DT):=η ev;cases e;exact z1 iv y.s _ (kf rfl _ lz rfl)
  |true=>
   refine z2 iv _ ((H3 h3 (x:=⟨z.hf,z.ρ,z.σ,{z.s with toks:=tk},z.R⟩) (fr.J0 lz)).1.EI ev (fr.J0 lz) λjv w d n hj fw ev=> ?_);refine Fq (P:=λr DT=>(∀b,r= .d (.bool b)→Did x DT (Q' b))→_) ev (λv hv k=>DA hv λb' h5 hv=> ?_) kt;exact MC q hu (VV.le (x:=⟨z.hf,z.ρ,z.σ,{z.s with toks:=tk},z.R⟩) hi n) hj h5 λt=>(DM b' rfl (k b' (η hv).symm ⟨w.hf,w.ρ,w.σ,{w.s with toks:=t},w.R⟩ ⟨(lz.trans n).nx,(lz.trans n).sm.1,(lz.trans n).sm.2,(lz.trans n).sm.3⟩ rfl))
theorem xl(H1:Db c A o1 f)(H2:Db c A o2 g)(H3:Db c A o3 h)(h1:o1 (vw env.scope) e1=true)(h2:o2 (vw env.scope) e2=true)(h3:o3 (vw env.scope) e3=true)(fr:FR env loc x):I4 A env loc x (ci f g h) (.IfExp e1 e2 e3 pos)∧Xv A env loc x (ci f g h) (.IfExp e1 e2 e3 pos):=
 ⟨⟨λev k=>DP ev λa σ q1 ev=>DA ev λb q2 ev=>wpAny_IfExp ((H1 h1 fr).2.run q1 q2 λy l ey=>by
   subst ey;cases b with
   |true=>exact (H2 h2 (fr.J0 l)).1.run ev (k.after l)
   |false=>exact (H3 h3 (fr.J0 l)).1.run ev (k.after l))⟩,
  ⟨λev tr k=>DP ev λa σ q1 ev=>DA ev λb q2 ev=>isTrue_IfExp ((H1 h1 fr).2.run q1 q2 λy l ey=>by
   subst ey;cases b with
   |true=>exact (H2 h2 (fr.J0 l)).2.run ev tr (k.after l)
   |false=>exact (H3 h3 (fr.J0 l)).2.run ev tr (k.after l))⟩⟩
end
end
end
section
mutual open A
variable{c:Cx}{A:Bs}{x y:St c}{env:Env}{loc:Di}{f g h:Ev}{o1 o2 o3:EJ}{e e1 e2 e3:Expr}{pos:Pos}{r:V}{DT:Store}{Q:Bj→Bl→Prop}
theorem q7(H1:Db c A o1 f)(H2:Db c A o2 g)(H3:Db c A o3 h)(p q:C4)(n2:J4 e2=true)(n3:J4 e3=true)(h1:o1 (vw env.scope) e1=true)(h2:o2 (vw env.scope) e2=true)(h3:o3 (vw env.scope) e3=true)(hu:A.units+64<B3)(fr:FR env loc x):
  I4 A env loc x (OE (Lw p) (Lw q) f g h) (.Compare e1 [p,q] [e2,e3] pos)∧Xv A env loc x (OE (Lw p) (Lw q) f g h) (.Compare e1 [p,q] [e2,e3] pos):=
 ⟨⟨λ{r DT Q} ev k=>Compare_chain (hm:=Jn n3 _) (Bu (TU H1 H2 H3 p q h1 h2 h3 hu fr ev (Q':=λb s=>Q (.bool b) s) (NH k) (λb w=>NH k w) (Z:=λiv v s=>Bp (Bq c.prog c.w) A (truthy v) (λb s=>if b=true then Bp (Bq c.prog c.w) A (compareChain pos iv [q] [eval e3 env]) Q Dq s else Q v s) Dq s) (λiv D6 Ej h=>B1 (by exact C9 (if_neg (by decide)) h)) (λiv Ej h=>B1 (by exact C9 (if_pos rfl)<|chain_last (Bu h (λjv G7 h=>Bu h (λv N3 ⟨b,w,h⟩=>w▸h) λO O x=>x) λO O x=>x)))) (λa D6 h=>chain_link h) λO O x=>x)⟩,
  ⟨λ{r DT b Q} ev tr k=>isTrue_chain (hm:=Jn n3 _) (Bu (TU H1 H2 H3 p q h1 h2 h3 hu fr ev (Q':=Q) (λw=>OG w tr▸k) (λb w=>OG w tr▸k) (Z:=λiv v s=>Bp (Bq c.prog c.w) A (truthy v) (λb s=>if b=true then Bp (Bq c.prog c.w) A (testChain pos iv [q] [eval e3 env]) Q Dq s else Q false s) Dq s) (λiv D6 Ej h=>B1 (by exact C9 (if_neg (by decide)) h)) (λiv Ej h=>B1 (by exact C9 (if_pos rfl)<|test_last (Bu h (λjv G7 h=>Bu h (λv N3 ⟨b,w,h⟩=>w▸B1 h) λO O x=>x) λO O x=>x)))) (λa D6 h=>test_link h) λO O x=>x)⟩⟩
abbrev Fy(c:Cx)(A:Bs):=DS (Db c A)
def LZ(sc:Vw):List EJ→List Expr→Bool
 | [], []=>true
 |o::os,e::es=>o sc e&&LZ sc os es
 |_,_=>false
theorem IB{sc:Vw}{o:EJ}{os:List EJ}{es:List Expr}(h:LZ sc (o::os) es=true): ∃e r,es=e::r∧o sc e=true∧LZ sc os r=true:=by
 cases es with
 |nil=>exact ζ h
 |cons e r=>exact Dl (band h) λa b=>(EK e r rfl a b)
theorem Jf{sc:Vw}{es:List Expr}(h:LZ sc [] es=true):es= []:=by
 cases es with
 |nil=>rfl
 |cons=>exact ζ h
theorem NG{sc:Vw}{os:List EJ}: ∀{es:List Expr},LZ sc os es=true→os.length=es.length:=by
 induction os with
 |nil=>intro es h;exact C9 (Jf h) rfl
 |cons o os ih=>intro es h;refine D0 (IB h) λe r Gx O h2=> ?_;subst Gx;exact congrArg (· +1) (ih h2)
def RI:Expr→Bool
 | .Starred .. =>false
 |_=>true
def D8(o:EJ):Prop:= ∀sc e,o sc e=true→RI e=true
theorem NE{e:Expr}(h:RI e=true)(r:List Expr)(env:Env):CJ (e::r) env=(false,eval e env)::CJ r env:=by cases e<;>first|rfl|exact ζ h
def OkL(x:St c)(DT:Store)(vs:List V)(Q:List Bj→Bl→Prop):Prop:= ∀us (y:St c),Le x y→y.σ=DT→y.GC us vs→Q us y.s
theorem NI{os:List EJ}{fs:List Ev}(H:Fy c A os fs)(P: ∀o∈os,D8 o): ∀{es:List Expr} {x:St c} {vs:List V} {DT:Store} {Q:List Bj→Bl→Prop},LZ (vw env.scope) os es=true→FR env loc x→O3 fs loc x.σ=some (vs,DT)→OkL x DT vs Q→Bp (Bq c.prog c.w) A (spliced (Cm pos (CJ es env))) Q Dq x.s:=by
 induction H with
 |nil=>
  intro es x vs DT Q ok fr ev k;refine C9 (Jf ok) ?_;revert k;refine NC (show some (([]:List V),x.σ)=some (vs,DT) from ev) ?_;intro k;exact Calls.spliced_nil (k [] x (.refl x) rfl .nil)
 | @cons o f os fs H1 _ ih=>
  intro es x vs DT Q ok fr ev k;refine D0 (IB ok) λe r Gx h1 h2=> ?_;subst Gx;refine C9 (NE (P o (.head _) _ _ h1) _ _) ?_;show Bp _ _ (spliced ((false,eval e env)::Cm pos (CJ r env))) _ _ _;refine Calls.spliced_cons ((H1 h1 fr).1.EI ev fr λval y v l hv fy ev=>DP ev λus σ e1 e2=> ?_);refine ih (λo ho=>P o (.tail _ ho)) h2 fy e1 λvals z m ez Hx=> ?_;revert k;refine NC (show some (v::us,σ)=some (vs,DT) from e2) ?_;intro k;exact k _ z (l.trans m) ez (.cons (VV.le hv m) Hx)
theorem Q9{os:List EJ}{fs:List Ev}(H:Fy c A os fs){loc:Di}: ∀{vs:List V} {σ DT:Store},O3 fs loc σ=some (vs,DT)→vs.length=os.length:=by
 induction H with
 |nil=>intro vs σ DT e;have e:(([]:List V),σ)=(vs,DT):=η e;cases e;rfl
 |cons _ _ ih=>intro vs σ DT e;exact DP e λv σ e1 e=>DP e λus σ e2 e=>by have e:(v::us,σ)=(vs,DT):=η e;cases e;exact congrArg (· +1) (ih e2)
theorem zQ{os:List EJ}{fs:List Ev}{es:List Expr}{keep:Bool}{q:Nat}(H:Fy c A os fs)(P: ∀o∈os,D8 o)(ok:LZ (vw env.scope) os es=true)(hl:Μ es.length 1000=true)(fr:FR env loc x):I4 A env loc x (ZW keep .tup fs) (.Tuple es q pos):=by
 refine ⟨λev k=>DP ev λvs σ e1 ev=> ?_⟩;refine C9 (arm_eval_Tuple _ _ _ _) ?_;refine Bk (Bv (Bk (NI H P ok fr e1 λus y l ey hv=>Sg (ey.symm▸ev) hv ?_ (k.after l))));exact C9 hv.length<|C9 (Q9 H e1)<|C9 (NG ok)<|Υ (AY (Ds.mp hl)) (by decide)
theorem zd{os:List EJ}{fs:List Ev}{es:List Expr}{keep:Bool}(H:Fy c A os fs)(P: ∀o∈os,D8 o)(ok:LZ (vw env.scope) os es=true)(hl:Μ es.length 1000=true)(fr:FR env loc x):I4 A env loc x (ZW keep .lst fs) (.List es pos):=by
 refine ⟨λev k=>DP ev λvs σ e1 ev=> ?_⟩;refine C9 (arm_eval_List _ _ _) ?_;refine Bk (Bv (Bk (NI H P ok fr e1 λus y l ey hv=>VJ (ey.symm▸ev) hv ?_ (k.after l))));exact C9 hv.length<|C9 (Q9 H e1)<|C9 (NG ok)<|Υ (AY (Ds.mp hl)) (by decide)
def ZS(q:Bool):BoolOp:=cond q .And .Or
theorem Nx{q:Bool}{fs:List Ev}: ∀{σ DT:Store} {r:V},LE q fs loc σ=some (r,DT)→ ∃b,r= .d (.bool b):=by
 induction fs with
 |nil=>intro σ DT r e;exact (EF q ((congrArg Prod.fst (η e)).symm))
 |cons f fs ih=>
  intro σ DT r e;refine DP e λv DD e1 e'=>DA e' λb e2 e3=> ?_;cases h:q==b with
  |true=>rw [h] at e3;exact ih e3
  |false=>rw [h] at e3;exact (EF b ((congrArg Prod.fst (η e3)).symm))
def BoG{c:Cx}(A:Bs)(env:Env)(pos:Pos)(x:St c)(q:Bool)(es:List Expr)(DT:Store)(b:Bool):Prop:=
 (es≠ []→ ∀{Q:Bj→Bl→Prop},Did x DT (Q (.bool b))→Bp (Bq c.prog c.w) A (boolOp pos (ZS q) (Cz es env)) Q Dq x.s)∧ ∀{Q:Bool→Bl→Prop} {whole},Did x DT (Q b)→Bp (Bq c.prog c.w) A (isTrue (.BoolOp (ZS q) es pos) env whole) Q Dq x.s
theorem Vh{b b':Bool}{σ DT:Store}(e:some (V.d (.bool b),σ)=some (V.d (.bool b'),DT)):b=b'∧σ=DT:=by cases e;exact ⟨rfl,rfl⟩
end
section
mutual open A
variable{q b:Bool}{DD:Store}{e e':Expr}{r' es:List Expr}
theorem XB{Q:Bj→Bl→Prop}(head: ∀{Q:Bj→Bl→Prop},Did x DD (Q (.bool b))→Bp (Bq c.prog c.w) A (eval e env) Q Dq x.s)(k:Did x DD (Bp (Bq c.prog c.w) A (cond (q==b) (boolOp pos (ZS q) (Cz (e'::r') env)) (pure (Bj.bool b))) Q Dq)):Bp (Bq c.prog c.w) A (boolOp pos (ZS q) (Cz (e::e'::r') env)) Q Dq x.s:=by
 have k:Did x DD (Bp (Bq c.prog c.w) A (match ZS q,b with| .And,false| .Or,true=>pure (Bj.bool b)|_,_=>boolOp pos (ZS q) (Cz (e'::r') env)) Q Dq):=by cases q<;>cases b<;>exact k
 show Bp _ _ (do
  let v←eval e env
  standAt pos
  let t←C6 [v] (truthy v)
  match ZS q,t with
  | .And,false| .Or,true=>pure v
  |_,_=>boolOp pos (ZS q) (Cz (e'::r') env)) _ _ _
 exact Bk (head λy l ey=>Bk (Bv (Bk (Bt (B1 (k y l ey))))))
theorem V9{Q:Bool→Bl→Prop}{whole:Sem Bj}(test: ∀{Q:Bool→Bl→Prop},Did x DD (Q b)→Bp (Bq c.prog c.w) A (isTrue e env (eval e env)) Q Dq x.s)(k:Did x DD λs=>cond (q==b) (Bp (Bq c.prog c.w) A (isTrue (.BoolOp (ZS q) es pos) env whole) Q Dq s) (Q b s)):Bp (Bq c.prog c.w) A (isTrue (.BoolOp (ZS q) (e::es) pos) env whole) Q Dq x.s:=by
 cases q with
 |true=>exact isTrue_and (test λy l ey=>by cases b<;>exact k y l ey)
 |false=>exact isTrue_or (test λy l ey=>by cases b<;>exact k y l ey)
end
end
mutual open A
theorem Rm(q:Bool){os:List EJ}{fs:List Ev}(H:Fy c A os fs): ∀{es:List Expr} {x:St c} {b:Bool} {DT:Store},LZ (vw env.scope) os es=true→FR env loc x→LE q fs loc x.σ=some (.d (.bool b),DT)→BoG A env pos x q es DT b:=by
 induction H with
 |nil=>
  intro es x b DT ok fr ev;have w:=Vh ev;refine C9 (Jf ok) ?_;refine ⟨λh=>absurd rfl h,λk=> ?_⟩;have k:=k x (.refl x) w.2;rw [←w.1] at k;cases q with
  |true=>exact isTrue_and_nil k
  |false=>exact isTrue_or_nil k
 | @cons o f os fs H1 H2 ih=>
  intro es x b' DT ok fr ev;refine D0 (IB ok) λe es w h1 h2=>DP ev λv DD e1 ev=>DA ev λb e2 ev=> ?_;refine C9 w ?_;rw [K2 e2] at e1;clear e2 w ok;have head: ∀{Q:Bj→Bl→Prop},Did x DD (Q (.bool b))→Bp (Bq c.prog c.w) A (eval e env) Q Dq x.s:=λk=>(H1 h1 fr).1.run e1 λval y l ey hv=>by exact C9 (IQ hv)<|k y l ey
  have test: ∀{Q:Bool→Bl→Prop},Did x DD (Q b)→Bp (Bq c.prog c.w) A (isTrue e env (eval e env)) Q Dq x.s:=λk=>(H1 h1 fr).2.run e1 rfl k;cases hq:q==b with
  |true=>
   rw [hq] at ev;refine ⟨λO {Q} k=> ?_,λ{Q whole} k=>V9 test λy l ey=>by exact C9 hq<|(ih h2 (fr.J0 l) (ey.symm▸ev)).2 (k.after l)⟩;cases es with
   |nil=>
    have n:fs= []:=List.eq_nil_of_length_eq_zero (H2.length.symm.trans (NG h2));rw [n] at ev;have w:=Vh ev;exact head λy l ey=>by exact Dr (beq_iff_eq.mp hq)<|C9 w.1<|k y l (ey.trans w.2)
   |cons e' r'=>exact XB head λy l ey=>by exact C9 hq<|(ih h2 (fr.J0 l) (ey.symm▸ev)).1 (List.cons_ne_nil _ _) (k.after l)
  |false=>
   rw [hq] at ev;have w:=Vh ev;have k': ∀{α:Type} {Q:α→Bl→Prop} {f:Bool→α},Did x DT (Q (f b'))→Did x DD (Q (f b)):=λk=>w.1▸w.2▸k;refine ⟨λO {Q} k=> ?_,λ{Q whole} k=>V9 test λy l ey=>by exact C9 hq<|k' (f:=id) k y l ey⟩;cases es with
   |nil=>exact head (k' k)
   |cons e' r'=>exact XB head λy l ey=>by exact C9 hq<|Bn (k' k y l ey)
theorem vJ(q:Bool){os:List EJ}{fs:List Ev}{es:List Expr}(H:Fy c A os fs)(ok:LZ (vw env.scope) os es=true)(ne:Ε 1 es.length=true)(fr:FR env loc x):I4 A env loc x (LE q fs) (.BoolOp (ZS q) es pos)∧Xv A env loc x (LE q fs) (.BoolOp (ZS q) es pos):=
 ⟨⟨λev k=>by
   refine D3 (Nx ev) λb Fi=> ?_;subst Fi;exact (Rm q H ok fr ev).1 (λq=>by subst q;exact ζ ne) (NH k rfl)⟩,
  ⟨λev tr k=>by
   refine D3 (Nx ev) λb Fi=> ?_;subst Fi;rw [←η (tr:some b=_)] at k;exact (Rm q H ok fr ev).2 k⟩⟩
end
end
section
mutual open A
variable{c:Cx}{A:Bs}{x y:St c}{K:B4}{fa:Nat→Br}{G:HR}{kk:Nat}{env:Env}{loc:Di}{f g h:Ev}{o1 o2:EJ}{e e1 e2:Expr}{pos:Pos}{r:V}{DT:Store}{Q:Bj→Bl→Prop}{os:List EJ}{fs:List Ev}{args:List Expr}{q:Nat}{GQ:Pos}
inductive Lb(K:B4):Bj→Prop
 |bi (id):Lb K (.builtin id)
 |ty (T):Lb K (.type T)
 |rf (a):keepIn K (.ref a)=true→Lb K (.ref a)
theorem PR(P: ∀o∈os,D8 o): ∀{es:List Expr},LZ (vw env.scope) os es=true→(Cm pos (CJ es env)).any (·.1)=false:=by
 induction os with
 |nil=>intro es h;exact C9 (Jf h) rfl
 |cons o os ih=>
  intro es h;refine D0 (IB h) λe r Gx h1 h2=> ?_;subst Gx;refine C9 (NE (P o (.head _) _ _ h1) _ _) ?_;exact (Bool.false_or _).trans (ih (λo ho=>P o (.tail _ ho)) h2)
theorem HB(B:I2 K c)(H:Fy c A os fs)(P: ∀o∈os,D8 o){fv:Bj}{first:List Bj}{vs:List V}(DZ:Lb K fv)(ok:LZ (vw env.scope) os args=true)(fr:FR env loc x)(ev:O3 fs loc x.σ=some (vs,DT))
  (go: ∀us (y:St c),Le x y→y.σ=DT→y.GC us vs→Bp (Bq c.prog c.w) A (PySem.call fv (first++us)) Q Dq y.s):Bp (Bq c.prog c.w) A (callWith pos fv first (Cm pos (CJ args env)) []) Q Dq x.s:=by
 have plain:=PR (pos:=pos) P ok
 have ea: ∀{S:Args→Bl→Prop},(∀us (y:St c),Le x y→y.σ=DT→y.GC us vs→S ⟨us, []⟩ y.s)→Bp (Bq c.prog c.w) A (evalArgs fv true (Cm pos (CJ args env)) []) S Dq x.s:=λ{S} hS=>by
  have sp:=NI (pos:=pos) H P ok fr ev (Q:=λus s=>S ⟨us, []⟩ s) hS;cases os with
  |nil=>
   refine C9 (Jf ok) ?_;cases H;revert hS;refine NC (show some (([]:List V),x.σ)=some (vs,DT) from ev) ?_;intro hS;exact PyProof.Rows.evalArgs_none (hS [] x (.refl x) rfl .nil)
  |cons o os=>
   refine D0 (IB ok) λe r Gx h1 h2=> ?_;subst Gx;rw [NE (P o (.head _) _ _ h1)] at sp ⊢;exact Calls.evalArgs_plain sp
 cases DZ with
 |bi id=>exact Calls.callWith_builtin plain (ea go)
 |ty T=>exact PyProof.Rows.callWith_type plain (ea go)
 |rf a hk=>exact callWith_of (P:=K.In) (by exact C9 plain rfl) (keeps_K hk) (ea λus y l ey hv=>⟨y.R.av B.X,go us y l ey hv⟩)
theorem tM(H:Db c A o1 f):Fy c A [o1] [f]:= .cons H .nil
theorem km(P:D8 o1): ∀o∈ [o1],D8 o:=λo ho=>ς.mp ho▸P
theorem G2{sc:Vw}(h:o1 sc e=true):LZ sc [o1] [e]=true:=by show (o1 sc e&&true)=true;exact C9 h rfl
theorem ev1{v:V}(h:f loc x.σ=some (v,DT)):O3 [f] loc x.σ=some ([v],DT):=by show EI (f loc x.σ) _=_;exact C9 h rfl
theorem Zq(B:I2 K c)(H:Db c A o1 f)(P:D8 o1){fv:Bj}{v:V}(DZ:Lb K fv)(h:o1 (vw env.scope) e=true)(fr:FR env loc x)(ev:f loc x.σ=some (v,DT))(go: ∀u (y:St c),Le x y→y.σ=DT→y.VV u v→Bp (Bq c.prog c.w) A (PySem.call fv [u]) Q Dq y.s):
  Bp (Bq c.prog c.w) A (callWith pos fv [] (Cm pos (CJ [e] env)) []) Q Dq x.s:=
 HB B (tM H) (km P) DZ (G2 h) fr (ev1 ev) λus y l ey hv=>by
  cases hv with
  |cons a b=>cases b;exact go _ y l ey a
def Ue(sc:Vw)(n:Nat)(id:Str):Bool:=EQ id (nm n)&&(PE sc id&& !EW id)
theorem wh(B:I2 K c)(T:KG K c fa){n i:Nat}{id:Str}(hg:bc n=some i)(ok:Ue (vw env.scope) n id=true)(fr:FR env loc x)(k:i<fns.length→Q (.ref (fa i)) x.s):Bp (Bq c.prog c.w) A (eval (.Name id GQ) env) Q Dq x.s:=by
 refine Dl (band ok) λa b=> ?_;refine Dl (band b) λb d=> ?_;rw [EH a] at b d ⊢;exact KS B fr (LQ b) (T.fn n i hg).1 d (k (T.fn n i hg).2)
def XU(sc:Vw)(cl:Nat)(id:Str):Bool:=Μ cl 9&&(EQ id (Pt cl)&&(PE sc id&& !EW id))
theorem vX(B:I2 K c)(T:KG K c fa){cl:Nat}{id:Str}(ok:XU (vw env.scope) cl id=true)(fr:FR env loc x)(k:Q (.ref (c.CL cl)) x.s):Bp (Bq c.prog c.w) A (eval (.Name id GQ) env) Q Dq x.s:=by
 refine Dl (band ok) λz ok=> ?_;refine Dl (band ok) λa b=> ?_;refine Dl (band b) λb d=> ?_;rw [EH a] at b d ⊢;exact KS B fr (LQ b) (T.cls cl (Ds.mp z)) d k
def O0(sc:Vw)(a:Str)(id:Str):Bool:=EQ id a&&PE sc id
theorem ae(B:I2 K c)(T:KG K c fa){a id:Str}{v:Bj}(ok:O0 (vw env.scope) a id=true)(i:Nat)(ha:QT[i]?=some a)(hb:Cj a=some v)(hn:(a==("__name__" :Str))=false)(d:(!EW a)=true)(fr:FR env loc x)(k:Q v x.s):Bp (Bq c.prog c.w) A (eval (.Name id GQ) env) Q Dq x.s:=by
 refine Dl (band ok) λo1 o2=> ?_;rw [EH o1] at o2 ⊢;exact Un B fr (LQ o2) (T.bn i _ ha) hb (λq=>by rw [q,beq_self_eq_true] at hn;exact ζ hn) d k
theorem lG(Z:Zt K c fa G A kk)(H:Fy c A os fs)(P: ∀o∈os,D8 o){keep:Bool}{n:Nat}{id:Str}(ok:Ue (vw env.scope) n id=true)(Mv:LZ (vw env.scope) os args=true)(fr:FR env loc x):I4 A env loc x (Lv G keep n fs) (.Call (.Name id GQ) args [] pos):=
 ⟨λev k=>DP ev λvs σ e1 ev=>DA ev λi e2 ev=>CO rfl (wh Z.B Z.T e2 ok fr λhi=>HB Z.B H P (.rf _ (Z.T.kf i hi)) Mv fr e1 λus y l ey hv=>Z.C.call (ey.symm▸ev) hv (k.after l))⟩
theorem mo(Z:Zt K c fa G A kk)(H:Fy c A os fs)(P: ∀o∈os,D8 o){keep:Bool}{cl:Nat}{id:Str}(ok:XU (vw env.scope) cl id=true)(Mv:LZ (vw env.scope) os args=true)(fr:FR env loc x):I4 A env loc x (Lz G keep cl fs) (.Call (.Name id GQ) args [] pos):=
 ⟨λev k=>DP ev λvs σ e1 ev=>DP ev λls DK e2 ev=>CO rfl (vX Z.B Z.T ok fr (HB Z.B H P (.rf _ (Z.T.kc cl (Z.C.hi e2))) Mv fr e1 λus y l ey hv=>Z.C.init (ey.symm▸e2) ev hv (k.after l)))⟩
def bP:Nat→Str
 |0=> "len" |1=> "abs" |2=> "int" |3=> "sum" |4=> "sorted" |5=> "tuple" |6=> "list" |7=> "bytes" |_=> "repr"
theorem Ge{d:D}{l:List D}(h:RF d=some l):d= .nd .lst l:=by
 cases d with
 |nd hd m=>exact DY h λa b=>by (exact C9 (ah a)<|C9 (η b) rfl)
 |_=>exact DC h
theorem O'{d:D}{l:List D}(h:lS d=some l):d= .nd .tup l:=by
 cases d with
 |nd hd m=>exact DY h λa b=>by (exact C9 (XL a)<|C9 (η b) rfl)
 |_=>exact DC h
theorem HU{a:V}{d:D}{v:Bj}(e:Ir a=some d)(h:x.VV v a):DV c x.hf v d:=by rw [Er e] at h;exact h
theorem Gr(Z:Zt K c fa G A kk)(H:Db c A o1 f)(P:D8 o1){a id:Str}{fv:Bj}{v:V}(ok:O0 (vw env.scope) a id=true)(h1:Cj a=some fv)(i:Nat)(h2:QT[i]?=some a)(h3:(a==("__name__" :Str))=false)(h4:(!EW a)=true)(DZ:Lb K fv)(Mv:o1 (vw env.scope) e=true)(fr:FR env loc x)(e1:f loc x.σ=some (v,DT))
  (go: ∀u (y:St c),Le x y→y.σ=DT→y.VV u v→Bp (Bq c.prog c.w) A (PySem.call fv [u]) Q Dq y.s):Bp (Bq c.prog c.w) A (eval (.Call (.Name id GQ) [e] [] pos) env) Q Dq x.s:=
 CO rfl (ae Z.B Z.T ok i h2 h1 h3 h4 fr (Zq Z.B H P DZ Mv fr e1 go))
theorem nU(Z:Zt K c fa G A kk)(H:Db c A o1 f)(P:D8 o1){b:Nat}{id:Str}(ok:O0 (vw env.scope) (bP b) id=true)(Mv:o1 (vw env.scope) e=true)(fr:FR env loc x):I4 A env loc x (Qh b f) (.Call (.Name id GQ) [e] [] pos):=by
 refine ⟨λ{r DT Q} ev k=>DP ev λa σ e1 ev=> ?_⟩;have hu:=Z.rm.u;revert ok ev;refine Fr (λok ev=>Gr Z H P ok rfl 0 rfl (by decide) (by decide) (.bi _) Mv fr e1 λu y l ey hv=>k.lift l (ey.symm▸ev) λv e k=>DA e λq h1 e=>DA e λn h2 e=>YV hv h1 h2 λt tk=>by rw [←η e] at k;exact k.here (DV.int _ _) _) (λb=> ?_) b;refine Fr (λok ev=>Gr Z H P ok rfl 1 rfl (by decide) (by decide) (.bi _) Mv fr e1 λu y l ey hv=>k.lift l (ey.symm▸ev) λv e k=>DA e λd h1 e=>DA e λn h2 e=>ZF (Gq h2▸HU h1 hv) λt tk=>by rw [←η e] at k;exact k.here (DV.int _ _) _) (λb=> ?_) b;refine Fr (λok ev=>Gr Z H P ok rfl 2 rfl (by decide) (by decide) (.ty _) Mv fr e1 λu y l ey hv=>k.lift l (ey.symm▸ev) λv e k=>DA e λd h1 e=>DA e λn h2 e=>Y8 (Gq h2▸HU h1 hv) λt=>by rw [←η e] at k;exact k.Mg (DV.int _ _)) (λb=> ?_) b;refine Fr (λok ev=>Gr Z H P ok rfl 3 rfl (by decide) (by decide) (.bi _) Mv fr e1 λu y l ey hv=>k.lift l (ey.symm▸ev) λv e k=>DA e λd h1 e=>DA e λm h2 e=>DA e λn h3 e=>ZQ Z.rm.handled (Ge h2▸HU h1 hv) h3 (by rw [←η e] at k;exact k)) (λb=> ?_) b;refine Fr (λok ev=>Gr Z H P ok rfl 4 rfl (by decide) (by decide) (.bi _) Mv fr e1 λu y l ey hv=>k.lift l (ey.symm▸ev) λv e k=>QV Z.rm.handled hv e k) (λb=> ?_) b;refine Fr (λok ev=>Gr Z H P ok rfl 5 rfl (by decide) (by decide) (.ty _) Mv fr e1 λu y l ey hv=>k.lift l (ey.symm▸ev) λv e k=>DA e λd h1 e=>DA e λm h2 e=>TN (Ge h2▸HU h1 hv) (η e▸k)) (λb=> ?_) b;refine Fr (λok ev=>Gr Z H P ok rfl 6 rfl (by decide) (by decide) (.ty _) Mv fr e1 λu y l ey hv=>k.lift l (ey.symm▸ev) λv e k=>DA e λd h1 e=>DA e λm h2 e=>UJ (Ge h2▸HU h1 hv) (η e▸k)) (λb=> ?_) b;refine Fr (λok ev=>DC (ev:lift none σ=_)) (λb=> ?_) b;refine Fr (λok ev=>Gr Z H P ok rfl 8 rfl (by decide) (by decide) (.bi _) Mv fr e1 λu y l ey hv=>k.lift l (ey.symm▸ev) λv e k=>DA e λd h1 e=>DA e λm h2 e=>U' Z.rm.guards (Ec hu (by decide)) (O' h2▸HU h1 hv) e k) (λb=> ?_) b;exact λok ev=>DC (ev:lift none σ=_)
theorem pM(Z:Zt K c fa G A kk)(H:Db c A o1 f)(P:D8 o1){keep:Bool}{k:Nat}{id:Str}(hk:Μ k 4=true)(ok:O0 (vw env.scope) "dict" id=true)(Mv:o1 (vw env.scope) e=true)(fr:FR env loc x):I4 A env loc x (Lo keep k f) (.Call (.Name id GQ) [e] [] pos):=by
 refine ⟨λ{r DT Q} ev kq=>DP ev λa σ e1 ev=>DA ev λrr e2 ev=> ?_⟩;refine CO rfl (ae Z.B Z.T (v:= .type "dict") ok 9 rfl rfl (by decide) (by decide) fr (Zq Z.B H P (.ty _) Mv fr e1 λu y l ey hv=> ?_));subst ey;have fin: ∀v' s',NM y rr.1 rr.2.1 rr.2.2 v' s'→Q v' s':=λv' s' nd=>T5 Z.B.SM ev nd (kq.after l);refine DA e2 λqq h1 e2=> ?_;obtain ⟨hd,m⟩:=qq;cases hd with
 |Dg k' ks=>exact DY e2 λhn e=>YR (k:=k') (ks:=ks) (l:=m) (let ⟨p,o,vs,w,g,⟨s1,s2,s3⟩,hv⟩:=Gk hv h1;⟨p.1,o,vs,w,s1▸g,s1▸s2,s3,hv⟩) hn (by rw [←η e] at fin;exact fin)
 |lst=>exact DA e2 λqs h2 e=>DA e λrr' h3 e=>UT (Ds.mp hk) Z.rm.handled (Ec Z.rm.u (by decide)) (let ⟨p,o,vs,w,g,⟨s1,s2,n,s3⟩,hv⟩:=Gk hv h1;⟨p.1,vs,n,w,s1▸s3▸g,s2,hv⟩) h2 h3 (by rw [←η e] at fin;exact fin)
 |_=>exact DC e2
def nS(sc:Vw)(t:Nat)(id:Str):Bool:=(μ t 1&&O0 sc "bool" id)||(μ t 2&&O0 sc "int" id)||(μ t 4&&O0 sc "list" id)||(μ t 5&&O0 sc "dict" id)||(Ε 10 t&&XU sc (t - 10) id)
theorem bor{a b:Bool}(h:(a||b)=true):a=true∨b=true:=by cases a<;>cases b<;>first|exact .inl rfl|exact .inr rfl|exact ζ h
theorem TyN(Z:Zt K c fa G A kk){t:Nat}{id:Str}(ok:nS (vw env.scope) t id=true)(fr:FR env loc x)(k:Μ t 19=true→Q (fB c.CL t) x.s):Bp (Bq c.prog c.w) A (eval (.Name id GQ) env) Q Dq x.s:=by
 rcases bor ok with ok|ok
 ·rcases bor ok with ok|ok
  ·rcases bor ok with ok|ok
   ·rcases bor ok with ok|ok
    ·refine Dl (band ok) λa b=> ?_;rw [nb a] at k;exact ae Z.B Z.T b 13 rfl rfl (by decide) (by decide) fr (k rfl)
    ·refine Dl (band ok) λa b=> ?_;rw [nb a] at k;exact ae Z.B Z.T b 2 rfl rfl (by decide) (by decide) fr (k rfl)
   ·refine Dl (band ok) λa b=> ?_;rw [nb a] at k;exact ae Z.B Z.T b 6 rfl rfl (by decide) (by decide) fr (k rfl)
  ·refine Dl (band ok) λa b=> ?_;rw [nb a] at k;exact ae Z.B Z.T b 9 rfl rfl (by decide) (by decide) fr (k rfl)
 ·refine Dl (band ok) λa b=> ?_
  refine D3 (BN (φ a)) λn Fi=> ?_;subst Fi;have hn:=Ds.mp (band b).1;rw [Ω] at b hn;refine vX Z.B Z.T b fr ?_
  have:=k (Ds.mpr (by exact ZY hn rfl))
  rw [Am] at this;exact this
theorem zp(Z:Zt K c fa G A kk)(H:Db c A o1 f)(P:D8 o1){t:Nat}{id tid:Str}{yJ:Pos}(ok:O0 (vw env.scope) "isinstance" id=true)(Mv:o1 (vw env.scope) e=true)(okt:nS (vw env.scope) t tid=true)(fr:FR env loc x):I4 A env loc x (hG t f) (.Call (.Name id GQ) [e, .Name tid yJ] [] pos):=by
 refine ⟨λ{r DT Q} ev k=>CO rfl (ae Z.B Z.T (v:= .builtin "isinstance") ok 10 rfl rfl (by decide) (by decide) fr ?_)⟩;refine C9 (NE (P _ _ Mv) _ _) ?_;refine Calls.callWith_builtin rfl (Calls.evalArgs_plain (Calls.spliced_cons ((H Mv fr).1.EI ev fr λu y a l hv fy ev=> ?_)));exact Calls.spliced_cons (TyN Z okt fy λht=>Calls.spliced_nil (k.lift l ev λv e k=>Xd Z.B.F (y.R.av Z.B.X) ht hv e k))
end
end
section
mutual open A
variable{c:Cx}{hf:HF}{ρ:RH}{A:Bs}{s:Bl}{E:Bj→Bl→Prop}{x y:St c}{K:B4}{fa:Nat→Br}{G:HR}{kk:Nat}{env:Env}{loc:Di}{f g h:Ev}{o1 o2:EJ}{e e1 e2 e3:Expr}{pos:Pos}{r:V}{DT:Store}{Q:Bj→Bl→Prop}{os:List EJ}{fs:List Ev}{q:Nat}{GQ:Pos}
theorem bL(n:Nat): ∀l:List D,Wm n l=l.take n:=by
 induction n with
 |zero=>intro l;rfl
 |succ n ih=>intro l;cases l with
  |nil=>rfl
  |cons a l=>exact congrArg (a:: ·) (ih l)
theorem DS.take{α β:Type}{R:α→β→Prop}(n:Nat): ∀{l:List α} {m:List β},DS R l m→DS R (l.take n) (m.take n):=by
 induction n with
 |zero=>intro l m _;exact .nil
 |succ n ih=>intro l m h;cases h with
  |nil=>exact .nil
  |cons a b=>exact .cons a (ih b)
theorem uL(H:Db c A o1 f){id:Str}{n:Nat}{cq:Nat}{X0 yp:Pos}(ho:o1 (vw env.scope) (.Name id GQ)=true)(fr:FR env loc x):I4 A env loc x (V5 n f) (.Subscript (.Name id GQ) (.Slice none (some (.Constant (.int n) cq X0)) none yp) pos):=by
 refine ⟨λ{r DT Q} ev k=>wpAny_Subscript_list_slice ((H ho fr).1.EI ev fr λval y v l hv fy ev=> ?_) (λO O=>rfl)⟩;refine k.lift l ev λv' e k=>DA e λd h1 e=>DA e λm h2 e=> ?_;rw [←η e] at k;refine Bn ?_;refine Bu (show Bp (Bq c.prog c.w) A (Cl env (.int (n:Int))) (λu s'=>(∃t,u= .int n t)∧ ∃t,s'={y.s with toks:=t}) Dq y.s from Cc (hV (EF _ rfl) _ rfl)) (λvu Ej hh=> ?_) λO O x=>x;obtain ⟨⟨t,rfl⟩,tk,rfl⟩:=hh;obtain ⟨p,o,us,rfl,g,⟨s1,s2,n0,rfl⟩,Tc⟩:=(show DV c y.hf val (.nd .lst m) from Ge h2▸HU h1 hv).shape;refine (Gs p.1 _ _ _ rfl (JF _ (s1▸y.R.keep _ _ g) rfl _ rfl) (Nt s2) .none (.int _ t) ?_);refine C9 (slicePick_upto' _ _) ?_;have kp: ∀{o1 o2:Obj} b o',y.s.heap.get? b=some o'→((y.s.heap.push o1).push o2).get? b=some o':=λb o' e=>Β _ (Β _ e);have hI: ∀{o1:Obj},y.s.heap.get? (y.s.heap.push o1).objs.size=none:=λ{o1}=>IH (λb o' e=>Β o1 e) (Dc _);have o:=k.new (v:= .ref (y.s.heap.push {cls:= .type "slice",data:= .fields #[.none, .int n t, .none]}).objs.size) (kp (o1:={cls:= .type "slice",data:= .fields #[.none, .int n t, .none]}) (o2:=E3 (us.take n) 0)) hI (Ξ _ rfl) (DV.nd (p:=((y.s.heap.push {cls:= .type "slice",data:= .fields #[.none, .int n t, .none]}).objs.size,(y.s.heap.push {cls:= .type "slice",data:= .fields #[.none, .int n t, .none]}).objs.size)) (GK _ _ _) ⟨rfl,Υ (List.length_take_le' ..) s2,0,rfl⟩ (by exact C9 (bL _ _)<|(Tc.PF (Hn (y.R.fresh (hI (o1:={cls:= .type "slice",data:= .fields #[.none, .int n t, .none]}))).1)).take n)) tk;rw [Bg] at o;exact o
abbrev Prs(hf:HF)(ρ:RH):List (Bj×Bj)→List (V×V)→Prop:=DS λu v=>VV c hf ρ u.1 v.1∧VV c hf ρ u.2 v.2
theorem Nw{d:Br}(hu:A.units<B3)(hd0:hf d=none){k:Nat}{us:List (Bj×Bj)}{qs:List (V×V)}(h:Prs (c:=c) hf ρ us qs): ∀{acc l:List DO×List V} {vs:List Bj} {o:Obj} {s:Bl} {Q:PUnit→Bl→Prop},FB k qs acc=some l→(∀b o,hf b=some o→s.heap.get? b=some o)→s.heap.get? d=some o→EB c hf o k acc.1 vs→GC c hf ρ vs acc.2→vs.length+us.length<big→
  (∀s' o' D4,Bz.SameBut d s.heap s'.heap→s'.heap.get? d=some o'→EB c hf o' k l.1 D4→GC c hf ρ D4 l.2→GB s s'→Q PUnit.unit s')→Bp (Bq c.prog c.w) A (storeAll d us) Q E s:=by
 induction h with
 |nil=>
  intro acc l vs o s Q e kp hd ho hv hb hQ;rw [←η e] at hQ;exact Bn (hQ s o vs (Bz.SameBut.refl ..) hd ho hv (.refl _))
 | @cons u v us qs h1 _ ih=>
  intro acc l vs o s Q e kp hd ho hv hb hQ;refine DA e λf9 e1 e=> ?_;refine Ib (KI e1) λd' key w1 w2 w3 NY=> ?_;subst NY;refine Dl h1 λh1 h2=> ?_;rw [w1] at h1;obtain ⟨ua,ub⟩:=u;unfold storeAll;simp only [BK];simp only [ξ] at hb;refine Bk (Bk (Hz kp hu hd ho (JS w2 h1) w3 (by exact PL hb) λh' o' t hs Yi Jx=>Bn ?_));exact ih e (λb o e=>(hs.2 b (λz=>DC (hd0.symm.trans (z▸e)))).trans (kp b o e)) Yi Jx (hv.put h2 _) (by have:=F7 key ub acc.1 vs;exact mY hb this) λs' pz D4 g1 g2 g3 g4 g5=>hQ s' pz D4 (hs.trans g1) g2 g3 g4 ⟨g5.1,g5.2,g5.3⟩
theorem Le.own(l:Le x y){I:Br}{o:Obj}(g:x.s.heap.get? I=some o)(p1:x.hf I=none)(p2: ∀p∈x.ρ,p.2≠I):y.hf I=none∧(∀p∈y.ρ,p.2≠I)∧y.s.heap.get? I=some o:=by
 refine ⟨?_,λp hp z=> ?_,l.nx.Ee _ _ g p2⟩
 ·cases q:y.hf I with
  |none=>rfl
  |some o'=>
   rcases l.nx.FA _ _ q with z|⟨p,hp,z⟩|z
   ·exact DC (p1.symm.trans z)
   ·exact absurd z (p2 p hp)
   ·exact DC (z.symm.trans g)
 ·rcases l.nx.EE p hp with ⟨q,hq,w⟩|w
  ·exact p2 q hq (w.trans z)
  ·exact DC (w.symm.trans (z▸g))
theorem St.off(y:St c){I:Br}(p1:y.hf I=none)(p2: ∀p∈y.ρ,p.2≠I){h':Bz}(hs: ∀b o,b≠I→y.s.heap.get? b=some o→h'.get? b=some o):F5 c y.hf y.ρ y.σ h':=
 y.R.Ef λb o e q=>hs b o (λz=>by
  subst z;rcases q with q|⟨p,hp,q⟩
  ·exact DC (p1.symm.trans q)
  ·exact p2 p hp q) e
theorem Ol.off{h h' nO:Bz}{hf Fh:HF}{ρ G9:RH}(N:Ol hf ρ h Fh G9 h'){I:Br}(hI:h.get? I=none)(hs: ∀b o,b≠I→h'.get? b=some o→nO.get? b=some o):Ol hf ρ h Fh G9 nO:=
 ⟨N.kf,N.JX,λb o e n=>hs b o (λz=>DC (hI.symm.trans (z▸e))) (N.Ee b o e n),N.FA,N.EE⟩
def TO(sc:Vw):List EJ→List (Option Expr)→List Expr→Bool
 | [], [], []=>true
 |o1::o2::os,some a::ks,b::es=>o1 sc a&&(o2 sc b&&TO sc os ks es)
 |_,_,_=>false
theorem JP{sc:Vw}{os:List EJ}{es:List Expr}(h:TO sc os [] es=true):os= []∧es= []:=by
 cases os with
 |nil=>cases es with
  |nil=>exact ⟨rfl,rfl⟩
  |cons=>exact ζ h
 |cons o os=>cases os<;>exact ζ h
theorem PC{sc:Vw}{os:List EJ}{es:List Expr}{k:Option Expr}{ks:List (Option Expr)}(h:TO sc os (k::ks) es=true): ∃o1 o2 wB a b el,os=o1::o2::wB∧k=some a∧es=b::el∧o1 sc a=true∧o2 sc b=true∧TO sc wB ks el=true:=by
 cases os with
 |nil=>exact ζ h
 |cons o1 os=>cases os with
  |nil=>exact ζ h
  |cons o2 os=>cases k with
   |none=>exact ζ h
   |some a=>cases es with
    |nil=>exact ζ h
    |cons b es=>exact (J1 o1 o2 os a b es rfl rfl rfl ((band h).1) ((band (band h).2).1) ((band (band h).2).2))
theorem Zz{sc:Vw}{ks:List (Option Expr)}: ∀{os:List EJ} {es:List Expr},TO sc os ks es=true→ks.all (·.isSome)=true∧ks.length=es.length:=by
 induction ks with
 |nil=>intro os es h;exact C9 ((JP h).2)<|⟨rfl,rfl⟩
 |cons k ks ih=>
  intro os es h;refine Hw (PC h) λo1 o2 wB a b el w1 w2 w3 h1 h2 h3=> ?_;refine C9 w2<|C9 w3 ?_
  exact ⟨(ih h3).1,congrArg (· +1) (ih h3).2⟩
theorem S4{f:Ev}{fs:List Ev}{σ DT:Store}{vs:List V}{P:Prop}(e:O3 (f::fs) loc σ=some (vs,DT))(k: ∀v DD D4,f loc σ=some (v,DD)→O3 fs loc DD=some (D4,DT)→vs=v::D4→P):P:=DP e λv DD e1 e=>DP e λD4 DK e2 e=>by
 have w:(v::D4,DK)=(vs,DT):=η e;exact k v DD D4 e1 (e2.trans (congrArg (λz=>some (D4,z)) (congrArg Prod.snd w))) (congrArg Prod.fst w).symm
theorem WE{σ DT:Store}{vs:List V}(e:O3 [] loc σ=some (vs,DT)):vs= []∧σ=DT:=
 have w:(([]:List V),σ)=(vs,DT):=η e
 ⟨(congrArg Prod.fst w).symm,congrArg Prod.snd w⟩
theorem l6{ks:List (Option Expr)}: ∀{os:List EJ} {fs:List Ev} {es:List Expr} {x:St c} {vs:List V} {DT:Store} {qs:List (V×V)} {Q:List (Bj×Bj)→Bl→Prop},Fy c A os fs→TO (vw env.scope) os ks es=true→FR env loc x→O3 fs loc x.σ=some (vs,DT)→alt vs=some qs→
  (∀us (y:St c),Le x y→y.σ=DT→Prs (c:=c) y.hf y.ρ us qs→us.length=ks.length→Q us y.s)→Bp (Bq c.prog c.w) A (evalPairs (pairTrees ks es env pos)) Q Dq x.s:=by
 induction ks with
 |nil=>
  intro os fs es x vs DT qs Q H ok fr ev ea k;rw [(JP ok).1] at H;rw [Jh H] at ev;have w:=WE ev;rw [w.1] at ea;rw [(JP ok).2,←η ea] at*;exact Bn (k [] x (.refl x) w.2 .nil rfl)
 |cons kx ks ih=>
  intro os fs es x vs DT qs Q H ok fr ev ea k;refine wr λZ0 z0=> ?_;refine Hw (PC ok) λo1 o2 wB a b el w1 w2 w3 h1 h2 h3=> ?_;rw [w1] at H;refine D0 (HJ H) λf1 fs1 wf H1 H=>D0 (HJ H) λf2 fs2 wf2 H2 H=> ?_;rw [wf,wf2] at ev;refine S4 ev λv DD vs1 e1 ev wv=>S4 ev λw DK vs2 e2 ev wv2=> ?_;rw [wv,wv2] at ea;refine DA ea λqs' e3 ea=> ?_;refine z0 ?_;rw [←η ea] at k;refine C9 w2<|C9 w3 ?_
  unfold pairTrees evalPairs;refine Bk ((H1 h1 fr).1.run e1 λva y l ey ha=> ?_);refine Bk (Bt (Bk ((H2 h2 (fr.J0 l)).1.run (ey.symm▸e2) λvb z m ez hb=> ?_)));refine Bk (Bv (Bn (Bk (Bt (ih H h3 ((fr.J0 l).J0 m) (ez.symm▸ev) e3 λus u n eu hp hl=> ?_)))));exact Bn (k _ u (l.trans (m.trans n)) eu (.cons ⟨VV.le (VV.le ha m) n,VV.le hb n⟩ hp) (congrArg (· +1) hl))
theorem zo(Z:Zt K c fa G A kk)(H:Fy c A os fs){keep:Bool}{k:Nat}{ks:List (Option Expr)}{es:List Expr}(hk:Μ k 4=true)(ok:TO (vw env.scope) os ks es=true)(hl:Μ ks.length 15=true)(fr:FR env loc x):I4 A env loc x (Yr keep k fs) (.Dict ks es pos):=by
 refine ⟨λ{r DT Q} ev kq=>DP ev λvs σ e1 ev=>DA ev λqs e2 ev=>DA ev λrr e3 ev=> ?_⟩;have fresh:=x.R.fresh (Dc x.s.heap)
 have fin: ∀{y:St c} {Ej:Bl} {o' D4},Le (x.JV {cls:= .type "dict",data:= .dict #[]}) y→y.σ=σ→Bz.SameBut x.s.heap.objs.size y.s.heap Ej.heap→Ej.heap.get? x.s.heap.objs.size=some o'→EB c y.hf o' k rr.1 D4→y.GC D4 rr.2→GB y.s Ej→Q (.ref x.s.heap.objs.size) Ej:=λ{y Ej o' D4} l ey hs ho hd hv sm=>by
  refine ET (l.own (Ξ _ rfl) fresh.1 fresh.2) λp1 p2 O=> ?_;have bN: ∀b o,b≠x.s.heap.objs.size→y.s.heap.get? b=some o→Ej.heap.get? b=some o:=λb o n e=>(hs.2 b n).trans e;exact OK (p:=(x.s.heap.objs.size,x.s.heap.objs.size)) (show Df keep (.Dg k rr.1) rr.2 y.σ=some (r,DT) from ey▸ev) (((F3 _).trans l).nx.off (Dc _) bN) (y.off p1 p2 bN) (Dc _) p1 p2 ho ⟨rfl,QK Z.B.SM (Dc _),hd⟩ hv kq rfl (((F3 _).trans l).sm.trans sm)
 cases ks with
 |nil=>
  rw [(JP ok).1] at H;rw [Jh H] at e1;have w:=WE e1;rw [w.1] at e2;rw [←η e2] at e3;rw [←η e3] at fin;refine C9 ((JP ok).2) ?_;exact wpAny_Dict_empty (fin (.refl _) w.2 (Bz.SameBut.refl ..) (Ξ _ rfl) (Jd (Ds.mp hk)) .nil (.refl _))
 |cons kx ks=>
  have sh:=Zz ok;refine wpAny_Dict_any sh.1 sh.2 (List.cons_ne_nil _ _) (AY (Ds.mp hl)) ?_;refine l6 (x:=x.JV {cls:= .type "dict",data:= .dict #[]}) H ok (fr.J0 (F3 _)) e1 e2 λus y l ey hp Eb=> ?_;refine ET (l.own (Ξ _ rfl) fresh.1 fresh.2) λp1 p2 p3=> ?_;exact Nw (Ec (m:=0) Z.rm.u (AT _)) p1 hp e3 y.R.keep p3 (Jd (Ds.mp hk)) .nil (by refine C9 Eb ?_;have:=Ds.mp hl;refine C9 BJ ?_;unfold big;exact ZY this rfl) λEj o' D4 g1 g2 g3 g4 g5=>fin l ey g1 g2 g3 g4 g5
end
end
section
mutual open A
variable{c:Cx}{hf:HF}{ρ:RH}{A:Bs}{s:Bl}{E:Bj→Bl→Prop}{x y:St c}{K:B4}{fa:Nat→Br}{G:HR}{kk:Nat}{env:Env}{loc:Di}{f g h:Ev}{o1 o2:EJ}{e e1 e2 e3:Expr}{pos:Pos}{r:V}{DT:Store}{Q:Bj→Bl→Prop}{os:List EJ}{fs:List Ev}{args:List Expr}{q:Nat}{GQ:Pos}
theorem O5{o:Expr}{attr:Str}{apos pos:Pos}(hb:J6 o=true)(hl:(apos.endLine==pos.line)=true)(hn:Μ args.length 20=true)(hp:(Cm pos (CJ args env)).any (·.1)=false)
  (h:Bp (Bq c.prog c.w) A (eval o env) (λov D6=> ∃f first,(∀(pl:Sem Bool) (Q':Bj×List Bj→Bl→Prop),Q' (f,first) D6→Bp (Bq c.prog c.w) A (getMethod ov attr pl) Q' E D6)∧Bp (Bq c.prog c.w) A (callWith pos f first (Cm pos (CJ args env)) []) Q E D6) E s):
  Bp (Bq c.prog c.w) A (eval (.Call (.Attribute o attr apos) args [] pos) env) Q E s:=by
 refine C9 (arm_eval_Call _ _ _ _ _ _ _)<|C9 (WB hb _ _ _) ?_
 refine Bk (Bu h (λov D6 R4=> ?_) λO O e=>e);refine GD R4 λf first hm hc=> ?_;clear R4
 refine Bk (Bv ?_)
 have xm:(Cm pos (CJ args env)).all (!·.1)=true:=by
  refine C9 (propext (Au)) ?_;intro x hx;rw [List.any_eq_false] at hp;cases q:x.1 with
  |true=>exact absurd q (hp x hx)
  |false=>rfl
 have rS:methodCallForm (args.length+([]:List Keyword).length) (Cm pos (CJ args env)) (backToKw pos (keywordEach [] env))=true:=by
  unfold methodCallForm;refine C9 xm ?_;show (true&&true&&decide (args.length+0+0<30))=true
  have:=Ds.mp hn
  exact decide_eq_true (by exact IL this rfl)
 have yw:methodCallPos true o env apos pos=pure pos:=by unfold methodCallPos;exact C9 hl rfl
 unfold methodCall;refine C9 rS ?_;refine Bk (Bt (hm _ _ ?_));refine C9 yw ?_;exact Bk (Bn hc)
theorem E9{α:Type}{b:Bool}{X Y:Option α}{r:α}{P:Prop}(e:cond b X Y=some r)(h1:b=true→X=some r→P)(h2:b=false→Y=some r→P):P:=by cases b with|true=>exact h1 rfl e|false=>exact h2 rfl e
theorem Lm{u:Option Store}(e:done u=some (r,DT)):r= .d .none∧u=some DT:=
 DA e λσ h1 e=>by have e:(V.d D.none,σ)=(r,DT):=η e;cases e;exact ⟨rfl,h1⟩
theorem Eh{α:Type}{l:List α}{a:α}(e:only l=some a):l= [a]:=by
 cases l with
 |nil=>exact DC e
 |cons b l=>cases l with
  |nil=>exact De e rfl
  |cons=>exact DC e
theorem Ok.none(k:Ok x DT (.d .none) Q):Did x DT (Q .none):=λz m ez=>k .none z m ez DV.none
theorem Xa{v:Bj}{T:String}{attr:Str}{id:String}{pl:Sem Bool}{Q:Bj×List Bj→Bl→Prop}(h: ∃q o,v= .ref q∧s.heap.get? q=some o∧o.cls= .type T∧o.dict=none)(pa:PlainAttrs T)(slot:Slot T attr id)(ht:typeOf (.builtin id)=pure (.type "method_descriptor"))(hQ:Q (.builtin id, [v]) s):
  Bp (Bq c.prog c.w) A (getMethod v attr pl) Q E s:=by
 refine Ib h λq o Gx h1 h2 h3=> ?_;subst Gx;clear h;exact getMethod_builtin (DM _ h1 h2) pa slot ht (λa e=>by cases e;exact (DM _ h1 h3)) hQ
theorem LK{v:Bj}{o:V}(ho:x.VV v o)(h:(JE x.σ o).isSome=true): ∃q o,v= .ref q∧x.s.heap.get? q=some o∧o.cls= .type "list" ∧o.dict=none:=
 D3 (AV.mp h) λO hl=>let ⟨q,_,_,w,g,_,_⟩:=UL ho hl;(FL q _ w g rfl rfl)
theorem SE{v:Bj}{o:V}(ho:x.VV v o)(h:(GF x.σ o).isSome=true): ∃q o,v= .ref q∧x.s.heap.get? q=some o∧o.cls= .type "dict" ∧o.dict=none:=
 D3 (AV.mp h) λO hl=>let ⟨q,o,_,w,g,_,ho,_⟩:=K1 ho hl;D0 ho.raw λO O h1 O O=>(FL q o w g h1.1 h1.2.1)
def Bm(x:St c)(A:Bs)(m:Nat)(vo:Bj)(o:V)(vs:List V)(DK:Store)(r:V)(DT:Store):Prop:=
  ∃id,(∀(pl:Sem Bool) (Q':Bj×List Bj→Bl→Prop),Q' (.builtin id, [vo]) x.s→Bp (Bq c.prog c.w) A (getMethod vo (nm m) pl) Q' Dq x.s)∧ ∀{y:St c} {us Q},y.σ=DK→y.VV vo o→y.GC us vs→Ok y DT r Q→Bp (Bq c.prog c.w) A (PySem.call (.builtin id) (vo::us)) Q Dq y.s
theorem mx{k:Nat}(rm:Mw A (k+1)){m:Nat}{vo:Bj}{o:V}{vs:List V}{DK:Store}(ho:x.VV vo o)(hb:Jr x.σ m o=true)(e:GN m o vs DK=some (r,DT)):
  Bm x A m vo o vs DK r DT:=by
 refine E9 e (λw e=> ?_) λO e=>E9 e (λw e=> ?_) λO e=>E9 e (λw e=> ?_) λO e=>E9 e (λw e=> ?_) λO e=>E9 e (λw e=> ?_) λO e=>DC e
 ·have w:=nb w;subst w
  refine DA e λv h1 e5=> ?_;refine Dl (Lm e5) λsy e6=> ?_;subst sy;clear e e5;refine C9 (Eh h1) ?_;exact (DM _ (λpl Q' hQ=>Xa (LK ho hb) PySem.F.plainAttrs_list PySem.F.slot_list_append PySem.type_list_append hQ) (λey ho hv k=>by refine DQ (LP hv) λu w a=> ?_;exact C9 w<|Qy ho a (ey▸e6) k.none))
 ·have w:=nb w;subst w
  exact (DM _ (λpl Q' hQ=>Xa (SE ho hb) PySem.F.plainAttrs_dict PySem.F.slot_dict_get PySem.F.type_dict_get hQ) (λey ho hv k=>k.lift (.refl _) (ey▸e) λv e k=>YL (Ec rm.u (by decide)) ho hv e k))
 ·have w:=nb w;subst w
  refine DY e λh1 e=> ?_;refine C9 (AZ.mp h1) ?_;exact (DM _ (λpl Q' hQ=>Xa (LK ho hb) PySem.F.plainAttrs_list PySem.F.slot_list_pop PySem.F.type_list_pop hQ) (λey ho hv k=>by exact C9 (dS hv)<|X4 ho (ey▸e) k))
 ·have w:=nb w;subst w
  refine DA e λv h1 e=>DP e λd Dy KT e=>DA e λl h2 e5=> ?_;refine Dl (Lm e5) λsy e6=> ?_;subst sy;clear e5;refine C9 (Eh h1) ?_;rw [Ge h2] at KT;exact (DM _ (λpl Q' hQ=>Xa (LK ho hb) PySem.F.plainAttrs_list PySem.F.slot_list_extend PySem.F.type_list_extend hQ) (λey ho hv k=>by refine DQ (LP hv) λu w a=> ?_;exact C9 w<|II (ey▸KT) a λFh R' l dv=>LU (x:=⟨Fh,_,_,_,R'⟩) (ho.le l) dv e6 (k.after l).none))
 ·have w:=nb w;subst w
  refine DA e λv h1 e5=> ?_;refine Dl (Lm e5) λsy e6=> ?_;subst sy;clear e e5;refine C9 (Eh h1) ?_;exact (DM _ (λpl Q' hQ=>Xa (SE ho hb) PySem.F.plainAttrs_dict PySem.F.slot_dict_update PySem.F.type_dict_update hQ) (λey ho hv k=>by refine DQ (LP hv) λu w a=> ?_;exact C9 w<|Q6 ho a (ey▸e6) k.none))
theorem Tv{α β:Type}{m:Nat}(as:List Nat): ∀{us:List α} {vs:List β},us.length=vs.length→Dt as us m=none→Dt as vs m=none:=by
 induction as with
 |nil=>intro us vs _ _;cases vs<;>rfl
 |cons y as ih=>intro us vs h e;cases us with
  |nil=>cases vs with
   |nil=>rfl
   |cons=>exact Α h
  |cons u us=>cases vs with
   |nil=>rfl
   |cons v vs=>
    have e:cond (μ y m) (some u) (Dt as us m)=none:=e;show cond (μ y m) (some v) (Dt as vs m)=none;cases z:μ y m with
    |true=>rw [z] at e;cases e
    |false=>rw [z] at e;exact ih (AK.inj h) e
theorem Xr{α:Type}{u:Option α}(h:u.isNone=true):u=none:=by cases u with|none=>rfl|some=>exact ζ h
theorem s9(Z:Zt K c fa G A kk)(H:Db c A o1 f)(Hs:Fy c A os fs)(P: ∀o∈os,D8 o){m:Nat}{apos:Pos}(hm:Μ m Fw.length=true)(hb:J6 e=true)(hl:(apos.endLine==pos.line)=true)(hn:Μ args.length 20=true)(G2:o1 (vw env.scope) e=true)(Jz:LZ (vw env.scope) os args=true)(fr:FR env loc x):
  I4 A env loc x (V7 G m f fs) (.Call (.Attribute e (nm m) apos) args [] pos):=by
 refine ⟨λ{r DT Q} ev k=>O5 hb hl hn (PR P Jz) ((H G2 fr).1.EI ev fr λvo y o l ho fy ev=> ?_)⟩;cases hi:Ey y.σ o with
 |some rr=>
  refine wr λZ0 z0=> ?_;have ev:GA (Dt (DX rr.1) (DX rr.1) m).isNone (DN (Ki rr.1 m) λi=>EI (O3 fs loc y.σ) λvs σ=>G.call false i (o::vs) σ)=some (r,DT):=by rw [hi] at ev;exact ev
  refine DY ev λh1 ev=>DA ev λi h2 ev=>DP ev λvs σ e1 ev=> ?_;refine Oa (Z.T.mt rr.1 m i h2) λmi mg mf mt=> ?_;obtain ⟨q,d,ob,us,rfl,g1,g2,g3,g4⟩:=WG ho hi;refine z0 ?_;refine (Gp (.ref (fa i)) ([.ref q]) (λpl Q' hQ=>method_fn (y.R.av Z.B.X) (od:=some ob) ⟨g1,rfl,rfl,g2⟩ (plainGet_of mg).1 (plainGet_of mg).2 mf (beq_iff_eq.mp mt) ?_ hQ) ?_)
  ·show (lookIn (nm m) ob).map (·.isSome)=some false
   exact C9 (PZ g3 (Ds.mp hm))<|C9 (Tv _ g3.len (Xr h1)) rfl
  ·exact HB Z.B Hs P (.rf _ (Z.T.kf i mi)) Jz fy e1 λus z n ez hv=>Z.C.call (ez.symm▸ev) (.cons (VV.le ho n) hv) (k.after (l.trans n))
 |none=>
  have ev:GA (Jr y.σ m o) (EI (O3 fs loc y.σ) λvs σ=>GN m o vs σ)=some (r,DT):=by rw [hi] at ev;exact ev
  refine DY ev λh1 ev=>DP ev λvs σ e1 ev=> ?_;refine DQ (mx Z.rm ho h1 ev) λid g1 g2=> ?_;exact (Gp (.builtin id) ([vo]) g1 (HB Z.B Hs P (.bi id) Jz fy e1 λus z n ez hv=>g2 ez (VV.le ho n) hv (k.after (l.trans n))))
structure Zc{c:Cx}(A:Bs)(env:Env)(loc:Di)(x:St c)(f:aV)(e:Expr):Prop where
 run: ∀{l DT} {Q:Bj→Bl→Prop},f loc x.σ=some (l,DT)→(∀it (y:St c),Le x y→y.σ=DT→H4 c x.s.heap y.hf y.ρ it l 0 y.s.heap→l.length≤big→Q it y.s)→Bp (Bq c.prog c.w) A (eval e env) (λv D6=>Bp (Bq c.prog c.w) A (pyIter v) Q Dq D6) Dq x.s
theorem ER.since{it:Bj}{l:List D}{i:Nat}{h:Bz}{z:St c}(w:H4 c y.s.heap z.hf z.ρ it l i h)(n:Le x y)(m:Le y z):H4 c x.s.heap z.hf z.ρ it l i h:=by
 refine FT w λI fp wr P S e w st=> ?_;refine (GV I fp wr P S e ⟨w.W,w.ex,w.dv,w.f1,λb hb=> ?_⟩ st);refine ET (w.f2 b hb) λg1 g2 g3=> ?_;refine ⟨g1,g2, ?_⟩;rcases n.nx.back g3 with ⟨p,hp,z⟩|z
 ·refine D3 (BS.mp hp) λi hi=> ?_
  exact absurd z (g2 p (AC (m.nx.JX i p (n.nx.JX i p hi))))
 ·exact z
theorem Po{v:Bj}{d:D}{l:List D}(hv:DV c hf v d)(e:KB d=some l):l.length≤big:=by
 cases d with
 |nd h m=>
  obtain ⟨p,o,vs,_,_,sh,Hx⟩:=hv.shape;cases h with
  |tup=>obtain ⟨_,s2,_⟩:=sh;exact Dr (η (e:some m=some l))<|Dr Hx.length s2
  |lst=>obtain ⟨_,s2,_⟩:=sh;exact Dr (η (e:some m=some l))<|Dr Hx.length s2
  |Dg k ks=>exact DY (x:=some (ks.map DO.d)) e λO e=>by exact Dr (η e)<|C9 (ι _)<|C9 sh.s3.big.2 sh.s3.big.1
  |inst=>exact DC e
 |_=>exact DC e
theorem mK{β:Type}{x:St c}{g:List V→Store→Option β}{r:β}(e:EI (O3 [f] loc x.σ) g=some r):EI (f loc x.σ) (λv σ=>g [v] σ)=some r:=by
 refine DP e λvs σ e1 e2=>DP e1 λv DD e3 e4=> ?_;have w:([v],DD)=(vs,σ):=η e4;cases w;exact C9 e3 e2
theorem iOf(H:Db c A o1 f)(ok:o1 (vw env.scope) e=true)(fr:FR env loc x):Zc A env loc x (RM 0 [f]) e:=by
 refine ⟨λ{b8 tO Q} ev k=>(H ok fr).1.EI (mK ev) fr λval y v l hv fy ev=> ?_⟩;have ev:EI (Ht FZ v y.σ) (λd σ=>lift (KB d) σ)=some (b8,tO):=ev;refine DP ev λd DK e1 ev=>II e1 hv λFh R' n dv=> ?_;refine Fq (P:=λl DT=>(∀it (y:St c),Le x y→y.σ=DT→H4 c x.s.heap y.hf y.ρ it l 0 y.s.heap→l.length≤big→Q it y.s)→_) ev (λds e2 k=> ?_) k;exact PJ (x:=⟨Fh,_,_,_,R'⟩) dv e2 λit z m ez w=>k it z ((l.trans n).trans m) ez (w.since (l.trans n) m) (Po dv e2)
theorem l7{v:V}{d:D}{n:Int}{u:Bj}(h:y.VV u v)(h1:Ir v=some d)(h2:Yb d=some n): ∃t,u= .int n t:=E6 (Gq h2▸HU h1 h)
theorem Oc{a b:Int}{l:List D}(e:FU a b=some l):l.length≤big:=DY e λh e=>by exact Dr (η e)<|C9 (J3 _ _)<|φ (band h).2
theorem iR1(Z:Zt K c fa G A kk)(H:Db c A o1 f)(P:D8 o1){id:Str}(ok:O0 (vw env.scope) "range" id=true)(Mv:o1 (vw env.scope) e=true)(fr:FR env loc x):Zc A env loc x (RM 1 [f]) (.Call (.Name id GQ) [e] [] pos):=by
 refine ⟨λ{b8 DT Q} ev k=>DP (mK ev) λv σ e1 ev=>CO rfl (ae Z.B Z.T (v:= .type "range") ok 11 rfl rfl (by decide) (by decide) fr (Zq Z.B H P (.ty _) Mv fr e1 λu y l ey hv=> ?_))⟩;subst ey;refine DA (x:=Ir v) ev λd h1 ev=>DA ev λn h2 ev=> ?_;refine D3 (l7 hv h1 h2) λt Fi=> ?_;subst Fi;refine Fq (P:=λl DT=>(∀it (y:St c),Le x y→y.σ=DT→H4 c x.s.heap y.hf y.ρ it l 0 y.s.heap→l.length≤big→Q it y.s)→_) ev (λds e2 k=>call_range_1 ?_) k;have lz:Le y ⟨y.hf,y.ρ,y.σ,{y.s with heap:=y.s.heap.push {cls:= .type "range",data:= .fields #[.int 0 y.s.toks, .int n t, .int 1 (y.s.toks+1)]},toks:=y.s.toks+1+1},(y.JV {cls:= .type "range",data:= .fields #[.int 0 y.s.toks, .int n t, .int 1 (y.s.toks+1)]}).R⟩:=⟨(F3 _).nx,rfl,rfl,rfl⟩;exact Ob (IsRange.new y.s.heap 0 n 1 y.s.toks t (y.s.toks+1)) e2 λit z m ez w=>k it z ((l.trans lz).trans m) ez (w.since (l.trans lz) m) (Oc e2)
theorem iR2(Z:Zt K c fa G A kk)(H:Db c A o1 f)(H2:Db c A o2 g)(P:D8 o1)(P2:D8 o2){id:Str}(ok:O0 (vw env.scope) "range" id=true)(Mv:o1 (vw env.scope) e=true)(xE:o2 (vw env.scope) e1=true)(fr:FR env loc x):Zc A env loc x (RM 2 [f,g]) (.Call (.Name id GQ) [e,e1] [] pos):=by
 refine ⟨λ{b8 DT Q} ev k=>DP ev λvs σ q1 ev=>CO rfl (ae Z.B Z.T (v:= .type "range") ok 11 rfl rfl (by decide) (by decide) fr (HB Z.B (.cons H (tM H2)) (λo ho=> ?_) (.ty _) (by show (o1 _ e&&(o2 _ e1&&true))=true;exact C9 Mv<|C9 xE rfl) fr q1 λus y l ey hv=> ?_))⟩
 ·rcases ν.mp ho with w|w
  ·exact w▸P
  ·exact ς.mp w▸P2
 subst ey;refine DA (x:=two vs) ev λp h0 ev=>DA ev λd h1 ev=>DA ev λm h2 ev=>DA ev λd' h3 ev=>DA ev λn h4 ev=> ?_;rw [S6 h0] at hv;cases hv with
 |cons a1 hv=>cases hv with
  |cons a2 hv=>
   cases hv;refine D3 (l7 a1 h1 h2) λt Fi=> ?_;subst Fi;refine D3 (l7 a2 h3 h4) λu Fi=> ?_;subst Fi;refine Fq (P:=λl DT=>(∀it (y:St c),Le x y→y.σ=DT→H4 c x.s.heap y.hf y.ρ it l 0 y.s.heap→l.length≤big→Q it y.s)→_) ev (λds e2 k=>call_range_2 ?_) k;have lz:Le y ⟨y.hf,y.ρ,y.σ,{y.s with heap:=y.s.heap.push {cls:= .type "range",data:= .fields #[.int m t, .int n u, .int 1 y.s.toks]},toks:=y.s.toks+1},(y.JV {cls:= .type "range",data:= .fields #[.int m t, .int n u, .int 1 y.s.toks]}).R⟩:=⟨(F3 _).nx,rfl,rfl,rfl⟩;exact Ob (IsRange.new y.s.heap m n 1 t u y.s.toks) e2 λit z m ez w=>k it z ((l.trans lz).trans m) ez (w.since (l.trans lz) m) (Oc e2)
theorem yG(Z:Zt K c fa G A kk)(H:Db c A o1 f)(P:D8 o1){id:Str}(ok:O0 (vw env.scope) "reversed" id=true)(Mv:o1 (vw env.scope) e=true)(fr:FR env loc x):Zc A env loc x (RM 3 [f]) (.Call (.Name id GQ) [e] [] pos):=by
 refine ⟨λ{b8 DT Q} ev k=>DP (mK ev) λv σ e1 ev=>CO rfl (ae Z.B Z.T (v:= .type "reversed") ok 12 rfl rfl (by decide) (by decide) fr (Zq Z.B H P (.ty _) Mv fr e1 λu y l ey hv=> ?_))⟩;subst ey;refine DA (x:=Ir v) ev λd h1 ev=>DA ev λm h2 ev=> ?_;have w:(m.reverse,y.σ)=(b8,DT):=η ev;cases w;have dv:DV c y.hf u (.nd .lst m):=Ge h2▸HU h1 hv;exact Sm dv λit z n ez w O=>Jk Z.rm.handled w (k it z (l.trans n) ez (w.since l n) (by exact C9 AX<|Po dv rfl))
theorem SC{free:Br→Prop}{it v:Bj}{l:List D}{i:Nat}{target:Expr}{Q:Unit→Bl→Prop}(w:ER c free hf ρ it l i s.heap)(h:Q () s):Bp (Bq c.prog c.w) A (Cp target it v) Q E s:=by
 refine FT w λI fp wr P S NY w st=> ?_;subst NY;clear w;obtain ⟨⟨o,ho,hp⟩,_⟩:=w.ex i _ st
 have tup:Bp (Bq c.prog c.w) A (do
   let (.ref r, .ref a):=((.ref I:Bj),v)|(pure ():Sem Unit)
   let o←load r
   match o.cls,o.data with
   | .type n, .fields vs=>
    if ["enumerate", "zip", "dict_itemiterator", "dict_reverseitemiterator", "odict_iterator", "itertools.zip_longest", "itertools.pairwise"].contains n&&vs[0]?==some (C7 a) then
     rule "for.unpacks-the-owned-tuple"
     updateField r 0 .none
   |_,_=>pure ()) Q E s:=by
  cases v with
  |ref a=>
   refine Bk (wpAny_load ho ?_);unfold Kf at hp;cases hc:o.cls with
   |type n=>
    rw [hc] at hp;dsimp only at hp ⊢;cases hd:o.data with
    |fields vs=>
     dsimp only;refine C9 (if_neg (by rw [A8] at hp;rw [hp];exact Aj)) ?_;exact Bn h
    |_=>exact Bn h
   |_=>exact Bn h
  |_=>exact Bn h
 cases target with
 |Tuple=>exact tup
 |List=>exact tup
 |_=>exact Bn h
end
end
section
mutual open A
variable{c:Cx}{s:Bl}{x y:St c}{env:Env}{loc:Di}
def oB{α:Type}(x:Option α)(f:α→Bool):Bool:=match x with
 |some a=>f a
 |none=>false
theorem DL{α:Type}{x:Option α}{f:α→Bool}{P:Prop}(h:oB x f=true)(go: ∀a,x=some a→f a=true→P):P:=by
 cases x with
 |none=>exact ζ h
 |some a=>exact go a rfl h
def Ps:B0→Bool| .free=>true|_=>false
def bA:ScopeKind→Bool| .function=>true|_=>false
def af:Option NK→Bool|some .loc=>true|_=>false
def uO:Option NK→Bool|some .cf=>true|_=>false
theorem JY{k:ScopeKind}(h:bA k=true):k= .function:=by cases k<;>first|rfl|exact ζ h
theorem YP{k:Option NK}(h:af k=true):k=some .loc:=by
 cases k with
 |none=>exact ζ h
 |some k=>cases k<;>first|rfl|exact ζ h
theorem XV{k:Option NK}(h:uO k=true):k=some .cf:=by
 cases k with
 |none=>exact ζ h
 |some k=>cases k<;>first|rfl|exact ζ h
theorem PO{k:B0}(h:Ps k=true):k= .free:=by cases k<;>first|rfl|exact ζ h
def UX(x y:Nat):List Nat:=match y with
 |0=> [x]
 |_=> [x,y]
def dM:List Str→Bool
 | []=>true
 |x::r=> !(r.any λy=>EQ x y)&&dM r
def dA(outer:Vw)(own:List Nat)(id:Str):B0→Bool
 | .local=>EQ id ".0" ||own.any λy=>EQ (nm y) id
 | .free=>uO (outer id)
 | .cell=>false
 |_=>true
def Fs(outer:Vw)(sc:CM)(x y:Nat):Bool:=bA sc.kind&&((sc.names.all λq=>dA outer (UX x y) q.1 q.2)&&dM (sc.names.map (·.1)))
theorem IS(sc:CM)(env:Env)(x:Str):(sc.names.lookup x=none∧(Cn sc env).names.lookup x=none)∨ ∃k k',sc.names.lookup x=some k∧(Cn sc env).names.lookup x=some k'∧(k'=k∨k= .free∧k'= .cell):=by
 unfold Cn;dsimp only
 induction sc.names with
 |nil=>exact .inl ⟨rfl,rfl⟩
 |cons q r ih=>
  refine C9 Χ<|C9 Ae ?_
  by_cases c:(q.2==B0.free&&env.scope.kind== .function&&env.kindOf q.1==some .cell)=true
  ·refine C9 (if_pos c)<|C9 Ae ?_
   cases hx:x==q.1 with
   |true=>exact .inr (EK q.2 .cell rfl rfl (.inr ⟨beq_iff_eq.mp (band (band c).1).1,rfl⟩))
   |false=>exact ih
  ·refine C9 (if_neg c)<|C9 Ae ?_
   cases hx:x==q.1 with
   |true=>exact .inr (EK q.2 q.2 rfl rfl (.inl rfl))
   |false=>exact ih
theorem Ia(sc:CM)(env:Env):vw (Cn sc env)=vw sc:=by
 funext x
 unfold vw;rcases IS sc env x with ⟨a,b⟩|⟨k,k',a,b,c⟩
 ·(exact C9 a<|C9 b rfl)
 ·refine C9 a<|C9 b ?_
  rcases c with rfl|⟨rfl,rfl⟩<;>rfl
def Fc(env:Env)(names:List (Str×B0)):List (Str×Br):=(names.filter λq=>Ps q.2).map λq=>(q.1,(env.cells.lookup q.1).getD 0)
def OJ(env:Env)(q:Str×B0)(r:List (Str×Br)):Sem (ForInStep (List (Str×Br))):=match q with
 |(name,kind)=>if (kind==B0.free)=true then do
   let y←PySem.cellOf env name
   pure (ForInStep.yield ((name,y)::r))
  else pure (ForInStep.yield r)
theorem Oz{sc:CM}(h: ∀q∈sc.names,q.2= .free→(env.cells.lookup q.1).isSome=true):closureFor sc env=pure (Fc env sc.names).reverse:=by
 have gen: ∀(names:List (Str×B0)) (acc:List (Str×Br)),(∀q∈names,q.2= .free→(env.cells.lookup q.1).isSome=true)→(forIn names acc (OJ env):Sem _)=pure ((Fc env names).reverse++acc):=by
  intro names
  induction names with
  |nil=>intro acc _;rfl
  |cons q r ih=>
   intro acc h;have ih:=λacc=>ih acc λq hq=>h q (.tail _ hq);refine C9 (BK _ _ _ _) ?_;unfold Fc at ih ⊢;cases c:Ps q.2 with
   |true=>
    have c':=PO c;refine D3 (AV.mp (h _ (.head _) c')) λa ha=> ?_
    have hb:OJ env q acc=pure (.yield ((q.1,a)::acc)):=by
     unfold OJ PySem.cellOf;dsimp only;exact C9 c'<|C9 ha rfl
    refine C9 hb<|C9 Al<|C9 (if_pos c)<|C9 Χ<|C9 Ag<|C9 (π _ _ _)<|C9 ha ?_
    exact ih _
   |false=>
    have hb:OJ env q acc=pure (.yield acc):=by
     unfold OJ;dsimp only
     (exact C9 (if_neg λz=>by rw [beq_iff_eq.mp z] at c;exact ζ c) rfl)
    refine C9 hb<|C9 Al<|C9 (if_neg (by rw [c];exact Aj)) ?_
    exact ih _
 unfold closureFor
 have:=gen sc.names [] h
 rw [υ] at this;refine Eq.trans ?_ this;exact bind_pure _
theorem Mn{l:List Str}:dM l=true→l.Nodup:=by
 induction l with
 |nil=>intro _;exact .nil
 |cons x r ih=>
  intro h;refine Dl (band h) λh1 h2=> ?_;refine Η.mpr ⟨λm=> ?_,ih h2⟩;rw [A8,List.any_eq_false] at h1;exact h1 x m (N8 x)
theorem Iw{α:Type}{n:Str}{c:α}{l:List (Str×α)}:(l.map (·.1)).Nodup→(n,c)∈l→l.lookup n=some c:=by
 induction l with
 |nil=>intro _ m;exact absurd m Γ
 |cons p r ih=>
  intro h m;rw [Χ,Η] at h;refine C9 Ae ?_;rcases ν.mp m with e|m'
  ·(exact Dr e<|C9 (beq_self_eq_true _) rfl)
  ·have:(n==p.1)=false:=beq_eq_false_iff_ne.mpr λz=>h.1 (AD.mpr (DM (n,c) m' z))
   exact C9 this<|ih h.2 m'
structure sZ(env:Env)(sc:CM):Prop where
 t1: ∀n,sc.names.lookup n=some .free→(Fc env sc.names).reverse.lookup n=env.cells.lookup n
 t2: ∀n c,(Fc env sc.names).reverse.lookup n=some c→env.cells.lookup n=some c
 t3:(Fc env sc.names).reverse.Pairwise λx y=>x.2≠y.2
theorem b6{sc:CM}(hn:(sc.names.map (·.1)).Nodup)(hap:env.cells.Pairwise λx y=>x.2≠y.2)(h: ∀q∈sc.names,q.2= .free→(env.cells.lookup q.1).isSome=true):sZ env sc:=by
 have keys:((Fc env sc.names).map (·.1)).Nodup:=by
  have:(Fc env sc.names).map (·.1)=(sc.names.filter λq=>Ps q.2).map (·.1):=by
   unfold Fc;exact C9 Δ rfl
  refine C9 this ?_;exact List.Nodup.sublist (List.Sublist.map _ List.filter_sublist) hn
 have jz:((Fc env sc.names).reverse.map (·.1)).Nodup:=by exact C9 A5<|List.pairwise_reverse.mpr (keys.imp Ne.symm)
 have mem: ∀n c,(n,c)∈Fc env sc.names→env.cells.lookup n=some c:=by
  intro n c m;refine DQ (AD.mp m) λq hq e=> ?_;refine Dl (BL.mp hq) λq1 q2=> ?_;refine D3 (AV.mp (h q q1 (PO q2))) λa ha=> ?_;rw [ha] at e;have e1:q.1=n:=congrArg Prod.fst e;have e2:a=c:=congrArg Prod.snd e;exact Dr e1<|Dr e2 ha
 refine ⟨λn e=> ?_,λn c e=>mem n c (BY.mp (mem_of_lookup e)), ?_⟩
 ·have m:=mem_of_lookup e
  refine D3 (AV.mp (h _ m rfl)) λa ha=> ?_;refine C9 (show env.cells.lookup n=some a from ha) ?_;refine Iw jz (BY.mpr (AD.mpr (DM (n, .free) (BL.mpr ⟨m,rfl⟩) ?_)));dsimp only;exact C9 (show env.cells.lookup n=some a from ha) rfl
 ·have pw:(Fc env sc.names).reverse.Pairwise λx y=>x.1≠y.1:=List.pairwise_map.mp jz
  refine (List.Pairwise.and_mem.mp pw).imp λ{x y} ⟨hx,hy,ne⟩ z=>ne ?_;have h1:=mem_of_lookup (mem x.1 x.2 (BY.mp hx));have h2:=mem_of_lookup (mem y.1 y.2 (BY.mp hy));rw [←z] at h2;exact name_of_addr hap h1 h2
theorem zg{x:Nat}(hx:x<Fw.length):EQ (nm x) (".0" :Str)=false:=by
 have:((BW Fw.length).all λx=> !EQ (nm x) (".0" :Str))=true:=by decide+kernel
 have:=Au.mp this x (BA.mpr hx)
 rw [A8] at this;exact this
theorem Ic{outer:Vw}{sc:CM}{p q:Nat}(ok:Fs outer sc p q=true){x:Str}{k:B0}(h:(x,k)∈sc.names):dA outer (UX p q) x k=true:=
 Au.mp (band (band ok).2).1 _ h
theorem Mk{sc:CM}{p q:Nat}(ok:Fs (vw env.scope) sc p q=true)(f:FS env): ∀q∈sc.names,q.2= .free→(env.cells.lookup q.1).isSome=true:=λq hq e=>f.cf q.1 (XV (by
 have:=Ic ok (x:=q.1) (k:= .free) (e▸hq)
 exact this))
theorem Re{sc:CM}{id:Str}(fH:vw sc id=some .loc):(Cn sc env).names.lookup id=some .local:=by
 unfold vw at fH;rcases IS sc env id with ⟨a,b⟩|⟨k,k',a,b,c⟩
 ·rw [a] at fH;exact DC fH
 ·rw [a] at fH;refine C9 b ?_
  cases k with
  |«local»=>rcases c with rfl|⟨c,_⟩;rfl;exact B0.noConfusion c
  |free=>exact absurd (η (show some NK.cf=some NK.loc from fH)) NK.noConfusion
  |cell=>exact absurd (η (show some NK.cf=some NK.loc from fH)) NK.noConfusion
  |globalImplicit=>exact absurd (η (show some NK.gl=some NK.loc from fH)) NK.noConfusion
  |_=>exact DC fH
inductive InB(y:St c)(sc:CM)(p q:Nat)(loc:Di)(m:Str→Option Bj)(a:Nat)(v:V):Prop
 |wX (h1:a∈UX p q) (h2:vw sc (nm a)=some .loc) (val:Bj) (h3:m (nm a)=some val) (h4:y.VV val v)
 |out (h1:a ∉ UX p q) (h2:DE loc a=some v)
theorem eK{sc:CM}{p q:Nat}{DG:Di}{C:Br}{m:Str→Option Bj}(ok:Fs (vw env.scope) sc p q=true)(f:FR env loc y)(hm:y.s.heap.Ns C m)(pc:y.hf C=none∧ ∀q∈y.ρ,q.2≠C)(c3: ∀n,env.cells.lookup n≠some C)
  (hp: ∀a∈UX p q,a<Fw.length) (hv: ∀a v,DE DG a=some v→a<Fw.length∧InB y sc p q loc m a v):
  FR (CS sc (Fc env sc.names).reverse C env) DG y:=by
 have hk:=Mk ok f.S;obtain ⟨t1,t2,t3⟩:=b6 (Mn (band (band ok).2).2) f.S.apart hk;refine ⟨⟨JY (band ok).1,f.S.glob,f.S.fb,t3,λn c e z=>c3 n ((t2 n c e).trans (congrArg some z)),λn e=> ?_⟩,λx v e=>(hv x v e).1,λx v e se=> ?_,(EF m hm),λn c e=>f.cell n c (t2 n c e),λb hb=> ?_⟩
 ·have e:vw (Cn sc env) n=some .cf:=e
  rw [Ia] at e;refine DA (x:=sc.names.lookup n) e λk h1 e=> ?_;cases k with
  |free=>show ((Fc env sc.names).reverse.lookup n).isSome=true;exact C9 (t1 n h1)<|hk _ (mem_of_lookup h1) rfl
  |cell=>exact ζ (Ic ok (mem_of_lookup h1))
  |«local»=>exact absurd (η e) NK.noConfusion
  |globalImplicit=>exact absurd (η e) NK.noConfusion
  |_=>exact DC e
 ·have se:seen (vw (Cn sc env)) (nm x)=true:=se
  rw [Ia] at se;refine Dl (hv x v e) λlow hx=> ?_;cases hx with
  |wX h1 h2 val h3 h4=>exact (DM val (.inl (GS (Re h2) m hm h3)) h4)
  |out hnt hl=>
   unfold seen vw at se;rcases IS sc env (nm x) with ⟨a,b⟩|⟨k,k',a,b,cc⟩
   ·rw [a] at se;exact ζ se
   ·rw [a] at se
    have ky:=Ic ok (mem_of_lookup a);cases k with
    |«local»=>
     have ky:(EQ (nm x) (".0" :Str)||(UX p q).any λy=>EQ (nm y) (nm x))=true:=ky;rw [zg low,Bool.false_or] at ky;refine DQ (List.any_eq_true.mp ky) λy hy z=> ?_;exact absurd (J7 (hp y hy) low (EH z)▸hy) hnt
    |free=>
     have wP:=XV ky;refine DQ (f.vals x v hl (by unfold seen;(exact C9 wP rfl))) λval N xZ=> ?_;rcases N with ⟨q,_⟩|⟨q,c',v9,zM⟩
     ·unfold vw at wP
      unfold Env.kindOf at q;rw [q] at wP;exact absurd (η (show some NK.loc=some NK.cf from wP)) NK.noConfusion
     ·refine (DM val (.inr (GS ?_ c' ((t1 _ a).trans v9) zM)) xZ)
      rcases cc with w|⟨_,w⟩
      ·exact .inr (w▸b)
      ·exact .inl (w▸b)
    |cell=>exact ζ ky
    |_=>exact ζ se
 ·rcases hb with rfl|⟨n,hb⟩
  ·exact pc
  ·exact f.Ee b (.inr (EF n (t2 n b hb)))
end
end
section
mutual open A
variable{c:Cx}{A:Bs}{s:Bl}{E:Bj→Bl→Prop}{x y z:St c}{env:Env}{loc:Di}{it:Bj}{l:List D}{i:Nat}{Dd C:Br}{o:Obj}{f:Ev}
theorem Le.SH{Z:Br→Prop}(l:Le x y)(hZ: ∀b,Z b→x.s.heap.get? b=none){s':Bl}(k: ∀b o,¬Z b→y.s.heap.get? b=some o→s'.heap.get? b=some o)(sm:GB y.s s')(R:F5 c y.hf y.ρ y.σ s'.heap):Le x ⟨y.hf,y.ρ,y.σ,s',R⟩:=
 ⟨⟨l.nx.kf,l.nx.JX,λb o e n=>k b o (λz=>DC ((hZ b z).symm.trans e)) (l.nx.Ee b o e n),l.nx.FA,l.nx.EE⟩,l.sm.trans sm⟩
structure CE(x:St c)(Dd C:Br)(o:Obj)(y:St c):Prop where
 le:Le x y
 nD:x.s.heap.get? Dd=none
 nC:x.s.heap.get? C=none
 ne:Dd≠C
 pD:y.hf Dd=none∧ ∀p∈y.ρ,p.2≠Dd
 pC:y.hf C=none∧ ∀p∈y.ρ,p.2≠C
 d:y.s.heap.get? Dd=some o
 ns: ∃m,y.s.heap.Ns C m
structure CT(x:St c)(it:Bj)(l:List D)(Dd C:Br)(o:Obj)(i:Nat)(y:St c):Prop where
 b:CE x Dd C o y
 w:ER c (λb=>x.s.heap.get? b=none∧ ¬(b=Dd∨b=C)) y.hf y.ρ it l i y.s.heap
theorem eh{h h':Bz}{C:Br}(x: ∃m,h.Ns C m)(k: ∀o,h.get? C=some o→h'.get? C=some o): ∃m,h'.Ns C m:=
 Jm x λm o es ep ho r=>(QC m o es ep (k o ho) r)
theorem CE.on(t:CE x Dd C o y)(m:Le y z):CE x Dd C o z:=by
 refine wr λZ0 z0=> ?_;refine ET (m.own t.d t.pD.1 t.pD.2) λd1 d2 d3=> ?_;refine Jm t.ns λmm oC es ep hC r=> ?_;refine ET (m.own hC t.pC.1 t.pC.2) λc1 c2 c3=> ?_;refine z0 ?_;exact ⟨t.le.trans m,t.nD,t.nC,t.ne,⟨d1,d2⟩,⟨c1,c2⟩,d3,mm,oC,es,ep,c3,r⟩
theorem CT.on(t:CT x it l Dd C o i y)(m:Le y z):CT x it l Dd C o i z:=⟨t.b.on m,t.w.J0 y.R m.nx z.R⟩
theorem CE.put(t:CE x Dd C o y){s':Bl}(k: ∀b o,b≠Dd→y.s.heap.get? b=some o→s'.heap.get? b=some o){o':Obj}(d:s'.heap.get? Dd=some o')(sm:GB y.s s'):CE x Dd C o' ⟨y.hf,y.ρ,y.σ,s',y.off t.pD.1 t.pD.2 k⟩:=
 ⟨t.le.SH (Z:=λb=>b=Dd) (λb z=>z▸t.nD) k sm _,t.nD,t.nC,t.ne,t.pD,t.pC,d,eh t.ns λo e=>k C o (Ne.symm t.ne) e⟩
theorem CT.put(t:CT x it l Dd C o i y){s':Bl}(k: ∀b o,b≠Dd→y.s.heap.get? b=some o→s'.heap.get? b=some o){o':Obj}(d:s'.heap.get? Dd=some o')(sm:GB y.s s'):CT x it l Dd C o' i ⟨y.hf,y.ρ,y.σ,s',y.off t.b.pD.1 t.b.pD.2 k⟩:=
 ⟨t.b.put k d sm,t.w.other (S:=Dd) k t.b.pD.1 λz=>z.2 (.inl rfl)⟩
theorem WL{Q:Option Bj→Bl→Prop}(hh:A.handled=none)(t:CT x it l Dd C o l.length y)(h: ∀z:St c,CE x Dd C o z→z.σ=y.σ→((∀b o,y.hf b=some o→z.hf b=some o)∧ ∀(i:Nat) p,y.ρ[i]?=some p→z.ρ[i]?=some p)→Q none z.s):Bp (Bq c.prog c.w) A (pyNext it) Q E y.s:=
 t.w.done hh λs' R k sm=>h ⟨y.hf,y.ρ,y.σ,s',R⟩ ⟨t.b.le.SH (λb z=>z.1) k sm R,t.b.nD,t.b.nC,t.b.ne,t.b.pD,t.b.pC,k Dd _ (λz=>z.2 (.inl rfl)) t.b.d,eh t.b.ns λo e=>k C o (λz=>z.2 (.inr rfl)) e⟩ rfl ⟨λO O h=>h,λO O h=>h⟩
set_option genInjectivity false in
set_option genSizeOf false in
set_option genSizeOfSpec false in
structure Wx where
 t:Nat
 s:Str
 p:Pos
 a:Expr
 b:Expr
 d:Expr
 l:List Expr
 n:Nat
 k:Const
 u:UnaryOp
 o:Operator
 bo:BoolOp
 cs:List C4
 ks:List (Option Expr)
 gs:List B6
 sc:CM
 x:Option Expr
 y:Option Expr
 z:Option Expr
 kw:List Keyword
def wx(e:Expr):Wx:=match e with
 | .Name s p=>⟨1,s,p,e,e,e, [],0, .none, .Not, .Pow, .And, [], [], [],default,none,none,none, []⟩
 | .Tuple l n p=>⟨2, "",p,e,e,e,l,n, .none, .Not, .Pow, .And, [], [], [],default,none,none,none, []⟩
 | .Constant k n p=>⟨3, "",p,e,e,e, [],n,k, .Not, .Pow, .And, [], [], [],default,none,none,none, []⟩
 | .UnaryOp u a p=>⟨4, "",p,a,e,e, [],0, .none,u, .Pow, .And, [], [], [],default,none,none,none, []⟩
 | .BinOp a o b p=>⟨5, "",p,a,b,e, [],0, .none, .Not,o, .And, [], [], [],default,none,none,none, []⟩
 | .Attribute a s p=>⟨6,s,p,a,e,e, [],0, .none, .Not, .Pow, .And, [], [], [],default,none,none,none, []⟩
 | .Subscript a b p=>⟨7, "",p,a,b,e, [],0, .none, .Not, .Pow, .And, [], [], [],default,none,none,none, []⟩
 | .Slice x y z p=>⟨8, "",p,e,e,e, [],0, .none, .Not, .Pow, .And, [], [], [],default,x,y,z, []⟩
 | .Compare a cs l p=>⟨9, "",p,a,e,e,l,0, .none, .Not, .Pow, .And,cs, [], [],default,none,none,none, []⟩
 | .BoolOp bo l p=>⟨10, "",p,e,e,e,l,0, .none, .Not, .Pow,bo, [], [], [],default,none,none,none, []⟩
 | .IfExp a b d p=>⟨11, "",p,a,b,d, [],0, .none, .Not, .Pow, .And, [], [], [],default,none,none,none, []⟩
 | .List l p=>⟨12, "",p,e,e,e,l,0, .none, .Not, .Pow, .And, [], [], [],default,none,none,none, []⟩
 | .Dict ks l p=>⟨13, "",p,e,e,e,l,0, .none, .Not, .Pow, .And, [],ks, [],default,none,none,none, []⟩
 | .Call a l kw p=>⟨14, "",p,a,e,e,l,0, .none, .Not, .Pow, .And, [], [], [],default,none,none,none,kw⟩
 | .ListComp a gs sc p=>⟨15, "",p,a,e,e, [],0, .none, .Not, .Pow, .And, [], [],gs,sc,none,none,none, []⟩
 | .DictComp a b gs sc p=>⟨16, "",p,a,b,e, [],0, .none, .Not, .Pow, .And, [], [],gs,sc,none,none,none, []⟩
 |_=>⟨0, "",default,e,e,e, [],0, .none, .Not, .Pow, .And, [], [], [],default,none,none,none, []⟩
def unW(t:Nat)(w:Wx):Expr:=cond (μ t 1) (.Name w.s w.p) (cond (μ t 2) (.Tuple w.l w.n w.p) (cond (μ t 3) (.Constant w.k w.n w.p) (cond (μ t 4) (.UnaryOp w.u w.a w.p) (cond (μ t 5) (.BinOp w.a w.o w.b w.p) (cond (μ t 6) (.Attribute w.a w.s w.p) (cond (μ t 7) (.Subscript w.a w.b w.p) (cond (μ t 8) (.Slice w.x w.y w.z w.p) (cond (μ t 9) (.Compare w.a w.cs w.l w.p) (cond (μ t 10) (.BoolOp w.bo w.l w.p) (cond (μ t 11) (.IfExp w.a w.b w.d w.p) (cond (μ t 12) (.List w.l w.p) (cond (μ t 13) (.Dict w.ks w.l w.p) (cond (μ t 14) (.Call w.a w.l w.kw w.p) (cond (μ t 15) (.ListComp w.a w.gs w.sc w.p) (cond (μ t 16) (.DictComp w.a w.b w.gs w.sc w.p) w.a)))))))))))))))
theorem uU(e:Expr):unW (wx e).t (wx e)=e:=by cases e<;>rfl
def oX{α:Type}(t:Nat)(f:Wx→α)(e:Expr):Option α:=cond (μ (wx e).t t) (some (f (wx e))) none
theorem Et{α:Type}{t:Nat}{f:Wx→α}{e:Expr}{k:α}{P:Prop}(h:oX t f e=some k)(g: ∀w,e=unW t w→k=f w→P):P:=by
 unfold oX at h;cases q:μ (wx e).t t with
 |false=>rw [q] at h;exact DC h
 |true=>rw [q] at h;exact g (wx e) (AO q▸(uU e).symm) (η h).symm
def Lp:Expr→Option Str:=oX 1 (·.s)
def Hq:Expr→Option (List Expr):=oX 2 (·.l)
theorem Ei{e:Expr}{id:Str}(h:Lp e=some id): ∃p,e= .Name id p:=Et h λw a b=>(EF w.p (b▸a))
theorem Gn{e:Expr}{l:List Expr}(h:Hq e=some l): ∃q p,e= .Tuple l q p:=Et h λw a b=>(TW w.n w.p (b▸a))
def qZ:List Expr→Option (Expr×Expr)
 | [a,b]=>some (a,b)
 |_=>none
theorem Xo{l:List Expr}{p:Expr×Expr}(h:qZ l=some p):l= [p.1,p.2]:=by
 cases l with
 |nil=>exact DC h
 |cons a l=>cases l with
  |nil=>exact DC h
  |cons b l=>cases l with
   |nil=>(exact Dr (η h) rfl)
   |cons=>exact DC h
def Tu(sc:Vw)(x:Nat)(id:Str):Bool:=EQ id (nm x)&&(Μ x Fw.length&&af (sc (nm x)))
def On(sc:Vw)(x y:Nat)(e:Expr):Bool:=match y with
 |0=>oB (Lp e) (Tu sc x)
 |_=>oB (Hq e) λl=>oB (qZ l) λp=>oB (Lp p.1) λi=>oB (Lp p.2) λj=>Tu sc x i&&(Tu sc y j&& !μ x y)
theorem Jc{sc:Vw}{x:Nat}{id:Str}(h:Tu sc x id=true):id=nm x∧x<Fw.length∧sc (nm x)=some .loc:=
 ⟨EH (band h).1,Ds.mp (band (band h).2).1,YP (band (band h).2).2⟩
theorem dB{sc:Vw}{x y:Nat}{e:Expr}(h:On sc x y e=true): ∀a∈UX x y,a<Fw.length:=by
 cases y with
 |zero=>exact DL (f:=Tu sc x) h λid O h2 a ha=>ς.mp ha▸(Jc h2).2.1
 |succ y=>exact DL (x:=Hq e) h λl O h=>DL h λp O h=>DL h λi O h=>DL h λj O h a ha=>(ν.mp ha).elim (λw=>w▸(Jc (band h).1).2.1) λw=>ς.mp w▸(Jc (band (band h).2).1).2.1
theorem Xx{a b:Nat}{d:D}{DG:Di}(e:Md a (b+1) d loc=some DG): ∃u v,d= .nd .tup [u,v]∧DG=(b+1, .d v)::(a, .d u)::loc:=by
 cases d with
 |nd h m=>cases h with
  |tup=>cases m with
   |nil=>exact DC e
   |cons u m=>cases m with
    |nil=>exact DC e
    |cons v m=>cases m with
     |nil=>exact (Gp u v rfl ((η e).symm))
     |cons=>exact DC e
  |_=>exact DC e
 |_=>exact DC e
theorem dx{KA:Env}{sc:CM}{p q:Nat}{target:Expr}{v:Bj}{d:D}{DG:Di}{m:Str→Option Bj}{Q:Unit→Bl→Prop}(hC:KA.locals=C)(hk:KA.scope.kind= .function)(hl: ∀id,vw sc id=some .loc→KA.kindOf id=some .local)(hh:A.handled=none)(low: ∀a v,DE loc a=some v→a<Fw.length)
  (ok:On (vw sc) p q target=true) (hm:y.s.heap.Ns C m) (pc:y.hf C=none∧ ∀q∈y.ρ,q.2≠C) (hv:DV c y.hf v d) (e:Md p q d loc=some DG)
  (h: ∀s' (R:F5 c y.hf y.ρ y.σ s'.heap) m',(∀b o,b≠C→y.s.heap.get? b=some o→s'.heap.get? b=some o)→s'.heap.Ns C m'→(∀a v,DE DG a=some v→a<Fw.length∧InB ⟨y.hf,y.ρ,y.σ,s',R⟩ sc p q loc m' a v)→GB y.s s'→Q () s'):Bp (Bq c.prog c.w) A (assign target KA v) Q E y.s:=by
 have zH:(KA.scope.kind== .class||(KA.scope.kind== .module&&KA.locals !=KA.globals))=false:=by exact C9 hk rfl
 cases q with
 |zero=>
  refine DL (f:=Tu (vw sc) p) ok λid h1 h2=> ?_;refine D3 (Ei h1) λpos Fi=> ?_;subst Fi;refine ET (Jc h2) λw hn hq=> ?_;rw [w,←η (show some _=some DG from e)] at*;refine B5 (CG (hl _ hq) (hC▸hm) (λh' qM hs=> ?_) zH);rw [hC] at qM hs;have k: ∀b o,b≠C→y.s.heap.get? b=some o→h'.get? b=some o:=λb o hb e=>(hs.2 b hb).trans e;refine h _ (y.off pc.1 pc.2 k) _ k qM (λa u hx=>E9 hx (λhb hx=> ?_) λhb hx=> ?_) ⟨rfl,rfl,rfl⟩
  ·refine Dr (nb hb)<|Dr (η hx) ?_
   exact ⟨hn, .wX (.head _) hq v (if_pos rfl) hv⟩
  ·exact ⟨low a u hx, .out (λoZ=>by rw [ς.mp oZ,AH] at hb;exact ζ hb) hx⟩
 |succ q=>
  refine DL (x:=Hq target) ok λl h1 okA=>DL okA λpr h2 O0=>DL O0 λi h3 okC=>DL okC λj h4 okD=> ?_;refine HY (Gn h1) λq0 pos Gx=> ?_;subst Gx;refine C9 (Xo h2) ?_;refine wr λZ0 z0=> ?_;refine D3 (Ei h3) λpi wi=> ?_;refine D3 (Ei h4) λpj wj=> ?_;refine GD (Xx e) λa b wd wl=> ?_;refine Dl (band okD) λG2 okE=> ?_;refine Dl (band okE) λJz ne=> ?_;refine ET (Jc G2) λw1 hn hq=> ?_;refine ET (Jc Jz) λw2 qO hq'=> ?_;refine z0 ?_;have ne:p≠q+1:=λz=>by rw [z,AH] at ne;exact ζ ne
  refine C9 wi<|C9 wj<|C9 w1<|C9 w2 ?_
  rw [wl] at h;rw [wd] at hv;obtain ⟨pp,o,vs,rfl,g,⟨s1,s2,n,rfl⟩,Hx⟩:=hv.shape;cases Hx with
  | @cons va _ D4 _ ha h3=>cases h3 with
   | @cons vb _ sM _ hb h3=>
    cases h3;have ht:y.s.heap.IsTuple pp.1 #[va,vb]:=(JF _ (s1▸y.R.keep _ _ g) rfl n rfl);refine wpAny_assign_Tuple hh ht rfl rfl λh' hx=> ?_;have kx: ∀b o,y.s.heap.get? b=some o→h'.get? b=some o:=λb o e=>hx b o (AW (Ad e)) e;show Bp _ _ (do C6 [vb] (assign (.Name (nm p) pi) KA va);do C6 [] (assign (.Name (nm (q+1)) pj) KA vb);pure ()) _ _ _;refine Bk (Bt (B5 (CG (hl _ hq) (hC▸hm.keeps kx) (λR4 t5 kV=> ?_) zH)));refine Bk (Bt (B5 (CG (hl _ hq') t5 (λVk S2 ju=> ?_) zH)));rw [hC] at S2 ju kV;have k: ∀b o,b≠C→y.s.heap.get? b=some o→Vk.get? b=some o:=λb o hb e=>(ju.2 b hb).trans ((kV.2 b hb).trans (kx b o e));refine Bn (h _ (y.off pc.1 pc.2 k) _ k S2 (λx u hx=>E9 hx (λOi hx=> ?_) λvt hx=>E9 hx (λOi hx=> ?_) λcA hx=> ?_) ⟨rfl,rfl,rfl⟩)
    ·refine Dr (nb Oi)<|Dr (η hx) ?_
     exact ⟨qO, .wX (.tail _ (.head _)) hq' vb (if_pos rfl) hb⟩
    ·refine Dr (nb Oi)<|Dr (η hx) ?_
     exact ⟨hn, .wX (.head _) hq va ((if_neg λz=>ne (J7 hn qO z)).trans (if_pos rfl)) ha⟩
    ·refine ⟨low x u hx, .out (λoZ=> ?_) hx⟩
     rcases ν.mp oZ with z|z
     ·rw [z,AH] at cA;exact ζ cA
     ·rw [ς.mp z,AH] at vt;exact ζ vt
theorem W3{E1:Bj→Bl→Prop}{sc:CM}{p q:Nat}{target:Expr}{d:D}{DG:Di}{R1:Option Bj→Bl→Prop}{T:Bl→Prop}(hh:A.handled=none)(t:CT x it l Dd C o i y)(fr:FR env loc x)(G2:Fs (vw env.scope) sc p q=true)(Jz:On (vw sc) p q target=true)(hx:l[i]?=some d)(eb:Md p q d loc=some DG)
  (h1: ∀v D6,ER c (λb=>x.s.heap.get? b=none∧ ¬(b=Dd∨b=C)) y.hf y.ρ it l (i+1) D6.heap→Bp (Bq c.prog c.w) A (assign target (CS sc (Fc env sc.names).reverse C env) v) (λO=>T) E1 D6→R1 (some v) D6)
  (h2: ∀z:St c,CT x it l Dd C o (i+1) z→z.σ=y.σ→((∀b o,y.hf b=some o→z.hf b=some o)∧ ∀(i:Nat) p,y.ρ[i]?=some p→z.ρ[i]?=some p)→FR (CS sc (Fc env sc.names).reverse C env) DG z→T z.s):Bp (Bq c.prog c.w) A (pyNext it) R1 E y.s:=by
 refine t.w.item hh hx λv D6 Mq hv cn k₁ TZ=>h1 v D6 cn ?_;have Ov:=t.b.le.SH (λb z=>z.1) k₁ TZ Mq;have fD: ¬(x.s.heap.get? Dd=none∧ ¬(Dd=Dd∨Dd=C)):=λz=>z.2 (.inl rfl);have fC: ¬(x.s.heap.get? C=none∧ ¬(C=Dd∨C=C)):=λz=>z.2 (.inr rfl);refine D3 (eh t.b.ns λo=>k₁ C o fC) λmC hmC=> ?_;refine dx (y:=⟨y.hf,y.ρ,y.σ,D6,Mq⟩) (C:=C) (sc:=sc) rfl (JY (band G2).1) (λid fH=>Re fH) hh fr.low Jz hmC t.b.pC hv eb λEj KJ m₂ k₂ S2 hb tE=> ?_;have IX:Le x ⟨y.hf,y.ρ,y.σ,Ej,KJ⟩:=Ov.SH (Z:=λb=>b=C) (λb z=>z▸t.b.nC) k₂ tE KJ;refine h2 ⟨y.hf,y.ρ,y.σ,Ej,KJ⟩ ⟨⟨IX,t.b.nD,t.b.nC,t.b.ne,t.b.pD,t.b.pC,k₂ Dd _ t.b.ne (k₁ Dd _ fD t.b.d),_,S2⟩,cn.other (S:=C) k₂ t.b.pC.1 fC⟩ rfl ⟨λO O h=>h,λO O h=>h⟩ (eK G2 (fr.J0 IX) S2 t.b.pC (λn z=> ?_) (dB Jz) hb);refine GD (fr.cell n C z) λv o ho O=> ?_;exact DC (t.b.nC.symm.trans ho)
end
end
section
mutual open A
variable{c:Cx}{A:Bs}{s:Bl}{E:Bj→Bl→Prop}{x y z:St c}{env:Env}{loc:Di}{it:Bj}{l:List D}{i:Nat}{Dd C:Br}{o:Obj}{f g:Ev}{oe:EJ}{os:List EJ}{fs:List Ev}{sc:CM}{p q:Nat}{target iter:Expr}{pos:Pos}{fi:aV}
def Qm(ifs:List Expr)(env:Env):Sem Bool:=forIn ifs true λc r=>if r=true then do let ok←isTrue c env (eval c env);pure (ForInStep.yield ok) else pure (ForInStep.yield r)
theorem X3{elt target iter:Expr}{ifs:List Expr}{scope:CM}{pos:Pos}{it acc:Bj}{env:Env}{R:C8→Bl→Prop}(I:Nat→Bl→Prop)
  (turn: ∀n s,I n s→Bp (Bq c.prog c.w) A (pyNext it) (λr D6=>match r with
   |none=>R (.ok .next) D6
   |some v=>Bp (Bq c.prog c.w) A (Cp target it v) (λO D6=>Bp (Bq c.prog c.w) A (assign target env v) (λO Ej=>
     Bp (Bq c.prog c.w) A (Qm ifs env) (λok G7=>if ok=true then Bp (Bq c.prog c.w) A (eval elt env) (λx N3=>Bp (Bq c.prog c.w) A (PySem.call (.builtin "list.append") [acc,x]) (λO rU=> ∃m,m<n∧I m rU) Dq N3) Dq G7
      else∃m,m<n∧I m G7) Dq Ej) Dq D6) Dq D6) Dq s)
  (n:Nat) (h:I n s):Ci (Bq c.prog c.w) A (.compLoop (.ListComp elt [⟨target,iter,ifs,0⟩] scope pos) 0 it acc env) R s:=by
 refine codeAny_loop rfl I (λn s hI=> ?_) n h;show Bp _ A ((compTurn (.ListComp elt [⟨target,iter,ifs,0⟩] scope pos) 0 it acc env).onRaise (λx=>do noteFrame x env;theTreesLotGoes x)) _ _ s;refine wpAny_noted ?_;refine C9 (compTurn_list _ _ _ _ _ _ _ _ _) ?_;refine Bk (Bv (Bk (Bu (turn n s hI) (λr D6 R4=> ?_) λO O x=>x.elim)));cases r with
 |none=>exact Bn R4
 |some v=>
  refine Bk (Bu R4 (λO D6 R4=>Bk (Bu R4 (λO Ej Vk=>Bk (Bu Vk (λok G7 X2=> ?_) λO O x=>x.elim)) λO O x=>x.elim)) λO O x=>x.elim);cases ok with
  |false=>
   rw [if_neg (by decide)] at X2;exact Bn ⟨rfl,X2⟩
  |true=>
   rw [if_pos rfl] at X2;refine Bk (Bk (Bu X2 (λx N3 zV=>Bk (Bu zV (λO rU yh=>Bn (Bn ⟨rfl,yh⟩)) λO O x=>x.elim)) λO O x=>x.elim))
theorem Rs(env:Env){Q:Bool→Bl→Prop}{s:Bl}(es:List Expr)(h:Q false s):Bp (Bq c.prog c.w) A (forIn es false λc r=>if r=true then do let ok←isTrue c env (eval c env);pure (ForInStep.yield ok) else pure (ForInStep.yield r)) Q E s:=by
 induction es with
 |nil=>exact Bn h
 |cons x r ih=>
  refine C9 (BK _ _ _ _)<|C9 (if_neg (by decide)) ?_
  exact Bk (Bn ih)
theorem jC{os:List EJ}{fs:List Ev}(H:Fy c A os fs): ∀{es:List Expr} {x:St c} {b:Bool} {DT:Store} {Q:Bool→Bl→Prop},LZ (vw env.scope) os es=true→FR env loc x→bE fs loc x.σ=some (b,DT)→Did x DT (Q b)→Bp (Bq c.prog c.w) A (Qm es env) Q Dq x.s:=by
 induction H with
 |nil=>
  intro es x b DT Q ok fr ev k;refine C9 (Jf ok) ?_;revert k;refine NC (show some (true,x.σ)=some (b,DT) from ev) ?_;intro k;exact Bn (k x (.refl x) rfl)
 | @cons o f os fs H1 _ ih=>
  intro es x b DT Q ok fr ev k;refine D0 (IB ok) λe r w h1 h2=> ?_;refine C9 w ?_;unfold Qm;refine C9 (BK _ _ _ _)<|C9 (if_pos rfl) ?_
  refine DP ev λv DD e1 ev=>DA ev λb' e2 ev=>Bk (Bk ((H1 h1 fr).2.run e1 (b:=b') (by exact C9 (K2 e2) rfl) λy l ey=> ?_));refine Bn ?_;cases b' with
  |true=>exact ih h2 (fr.J0 l) (ey.symm▸ev) (k.after l)
  |false=>
   revert k;refine NC (show some (false,DD)=some (b,DT) from ev) ?_;intro k;exact Rs env r (k y l ey)
theorem Uk{us:List Bj}{n:Nat}{v:Bj}{Q:Bj→Bl→Prop}(hd:s.heap.get? Dd=some (E3 us n))(hb:us.length<big)(h: ∀h' m,Bz.SameBut Dd s.heap h'→h'.get? Dd=some (E3 (us++ [v]) m)→Q .none {s with heap:=h',toks:=s.toks}):
  Bp (Bq c.prog c.w) A (PySem.call (.builtin "list.append") [.ref Dd,v]) Q E s:=by
 refine Ch PySem.F.slot_list_append (DM _ hd rfl) PySem.F.entry_list_append (PySem.F.args_list_append_2 _ _) (list_append Dd us.toArray n v (by refine C9 Ν<|C9 Bw ?_;unfold big at hb;exact Pv hb rfl)) ⟨hd, ?_⟩;have this:=IsL.update (hd:IsL s.heap Dd us.toArray n) (λx=>x.push v);rw [List.push_toArray] at this;exact h _ _ (Bz.SameBut.update ..) this
structure CI(x:St c)(it:Bj)(l:List D)(F:D→Store→Option (Option V×Store))(vs:List V)(DK:Store)(Dd C:Br)(n:Nat)(s:Bl)(i:Nat)(y:St c)(us:List Bj)(m:Nat)(vd vr:List V):Prop where
 hi:i≤l.length
 hn:n=l.length - i
 hs:s=y.s
 t:CT x it l Dd C (E3 us m) i y
 e:EA F (l.drop i) y.σ=some (vr,DK)
 w:vs=vd++vr
 hv:y.GC us vd
 hb:us.length≤i
theorem dN{α:Type}{F:D→Store→Option (Option α×Store)}{d:D}{dl:List D}{σ DK:Store}{vr:List α}{P:Prop}(e:EA F (d::dl) σ=some (vr,DK))(k: ∀ov Dy fG,F d σ=some (ov,Dy)→EA F dl Dy=some (fG,DK)→vr=ov.toList++fG→P):P:=DP e λov Dy e1 e=>DP e λfG sB e2 e=>by
 have w:(ov.toList++fG,sB)=(vr,DK):=η e;exact k ov Dy fG e1 (e2.trans (congrArg (λz=>some (fG,z)) (congrArg Prod.snd w))) (congrArg Prod.fst w).symm
theorem XC{α:Type}{F:D→Store→Option (Option α×Store)}{σ DK:Store}{vr:List α}(e:EA F [] σ=some (vr,DK)):vr= []∧σ=DK:=
 have w:(([]:List α),σ)=(vr,DK):=η e
 ⟨(congrArg Prod.fst w).symm,congrArg Prod.snd w⟩
theorem nV{p q:Nat}{f:Ev}{fs:List Ev}{loc:Di}{d:D}{σ Dy:Store}{ov:Option V}{P:Prop}(e:F2 p q f fs loc d σ=some (ov,Dy))(k: ∀DG b HL,Md p q d loc=some DG→bE fs DG σ=some (b,HL)→(b=false→ov=none∧HL=Dy)→(b=true→ ∃v,f DG HL=some (v,Dy)∧ov=some v)→P):P:=DA (x:=Md p q d loc) e λDG eb e1=>DP e1 λb HL e3 e1=>by
 cases b with
 |false=>
  have w:((none:Option V),HL)=(ov,Dy):=η e1;exact k DG false HL eb e3 (λO=>⟨(congrArg Prod.fst w).symm,congrArg Prod.snd w⟩) (λh=>ζ h)
 |true=>
  refine DP (x:=f DG HL) e1 λvv dE e4 e1=> ?_;have w:(some vv,dE)=(ov,Dy):=η e1;exact k DG true HL eb e3 (λh=>ζ h) (λO=>(DM vv (e4.trans (congrArg (λz=>some (vv,z)) (congrArg Prod.snd w))) ((congrArg Prod.fst w).symm)))
theorem To{Rc:List Expr}{elt:Expr}{vs:List V}{DK:Store}{R:C8→Bl→Prop}(He:Db c A oe f)(Hi:Fy c A os fs)(hh:A.handled=none)(fr:FR env loc x)(G2:Fs (vw env.scope) sc p q=true)(Jz:On (vw sc) p q target=true)(i8:LZ (vw sc) os Rc=true)(TS:oe (vw sc) elt=true)(Eb:l.length≤big)
  (t:CT x it l Dd C (E3 [] 0) 0 y) (e:EA (F2 p q f fs loc) l y.σ=some (vs,DK)) (fin: ∀(y:St c) us n,CE x Dd C (E3 us n) y→y.σ=DK→y.GC us vs→us.length≤big→R (.ok .next) y.s):
  Ci (Bq c.prog c.w) A (.compLoop (.ListComp elt [⟨target,iter,Rc,0⟩] sc pos) 0 it (.ref Dd) (CS sc (Fc env sc.names).reverse C env)) R y.s:=by
 refine wt2 (λn s=> ∃i y us m vd vr,CI x it l (F2 p q f fs loc) vs DK Dd C n s i y us m vd vr) λI di mi=> ?_;refine X3 I (λn s I=> ?_) l.length (mi _ _ ⟨0,y, [],0, [],vs,AT _,rfl,rfl,t,e,rfl, .nil,Ι _⟩);clear t e;obtain ⟨i,y,us,m,vd,vr,hi,hn,hs,t,e,w,hv,hb⟩:=di _ _ I;clear I;refine C9 hs ?_;have qW:vw (CS sc (Fc env sc.names).reverse C env).scope=vw sc:=Ia sc env;rcases Nat.lt_or_ge i l.length with lt|ge
 ·rw [Av lt] at e
  refine dN e λov Dy fG e1 e2 wv=>nV e1 λDG b HL eb e3 hf ht=> ?_;clear e e1;refine W3 hh t fr G2 Jz (Τ lt) eb (λv D6 w h=>SC w h) λz tz ez up fz=> ?_;refine jC Hi (by exact C9 qW i8) fz (ez.symm▸e3) λz' lz ez'=> ?_;have tz':=tz.on lz;have dec:l.length - (i+1)<n:=hn▸Ba _ _ lt;have fA:z'.GC us vd:=GC.le (x:=z) (hv.MR up.1 up.2) lz;cases b with
  |false=>
   exact ⟨_,dec,mi _ _ ⟨i+1,z',us,m,vd,fG,lt,rfl,rfl,tz',(ez'.trans (hf rfl).2).symm▸e2,w.trans (by exact C9 wv<|C9 ((hf rfl).1) rfl),fA,Az hb⟩⟩
  |true=>
   refine DQ (ht rfl) λvv e4 o1=> ?_;refine C9 (if_pos rfl) ?_;refine (He (by exact C9 qW TS) (fz.J0 lz)).1.run (ez'.symm▸e4) λval TB IX Tx xZ=> ?_;have bf:=tz'.on IX;refine Uk bf.b.d (Ρ hb (AQ lt Eb)) λh' m' bN Yi=> ?_;exact ⟨_,dec,mi _ _ ⟨i+1,_,us++ [val],m',vd++ [vv],fG,lt,rfl,rfl,bf.put (s':={TB.s with heap:=h',toks:=TB.s.toks}) (λb o n e=>(bN.2 b n).trans e) Yi ⟨rfl,rfl,rfl⟩,Tx.symm▸e2,w.trans (by exact C9 wv<|C9 o1<|(π vd [vv] fG).symm),(GC.le fA IX).append (.cons xZ .nil),by exact C9 ε<|Κ hb⟩⟩
 ·have jh:=Aq hi ge
  rw [jh,List.drop_length] at e;rw [jh] at t hb;have n:=XC e;exact WL hh t λz ce ez up=>fin z us m ce (ez.trans n.2) (by exact C9 w<|C9 n.1<|C9 (υ _)<|hv.MR up.1 up.2) (Υ hb Eb)
theorem Lg{h:Bz}{b:Br}(hb:h.objs.size≤b):h.get? b=none:=by
 cases e:h.get? b with
 |none=>rfl
 |some o=>exact absurd (Ad e) (Nat.not_lt.mpr hb)
theorem UP{Q:Env→Bl→Prop}(yl:o.isFreed=false)(G2:Fs (vw env.scope) sc p q=true)
  (h: ∀s',(∀b o,s.heap.get? b=some o→s'.heap.get? b=some o)→s'.heap.get? s.heap.objs.size=some o→(∃m,s'.heap.Ns (s.heap.objs.size+1) m)→GB s s'→ ∀KA:Env,{KA with scope:=Cn sc env}=CS sc (Fc env sc.names).reverse (s.heap.objs.size+1) env→KA.locals=s.heap.objs.size+1→Q KA s'):
  Bp (Bq c.prog c.w) A (newFunctionEnv sc env.globals (Fc env sc.names).reverse [] env.qual none .none (some env)) Q E {s with heap:=s.heap.push o}:=by
 refine wpAny_newFunctionEnv (λx hx z=> ?_) (λx hx=>absurd hx Γ) (λh' wI wy=> ?_) (JY (band G2).1)
 ·exact ζ (Ic G2 (x:=x.1) (k:= .cell) (z▸hx))
 ·have e:({s with heap:=s.heap.push o}:Bl).heap.objs.size=s.heap.objs.size+1:=Bg ..
  rw [e] at wI wy ⊢;exact h {s with heap:=h',toks:=s.toks+([]:List (Str×Bj)).length} (λb o' eb=>(wy.2 b (AW (A7 (Ad eb)))).trans (Β _ (Β _ eb))) ((wy.2 _ (AW (AF _))).trans (Β _ (Ξ _ yl))) (EF _ wI) ⟨rfl,rfl,rfl⟩ _ rfl rfl
theorem Ny{expr:Expr}{g:B6}{gs:List B6}{Zw:Sem Bj}{use:Option (Bj→Sem Unit)}{DD:Store}{Q:Bj→Bl→Prop}(w8:clausesOf expr=g::gs)(hs: ∀v,CH g.iter env v=pure v)(I:Zc A env loc x fi iter)(fr:FR env loc x)(G2:Fs (vw env.scope) sc p q=true)(yl:o.isFreed=false)
  (Yj: ∀{Q':Bj→Bl→Prop} {s:Bl},Q' (.ref s.heap.objs.size) {s with heap:=s.heap.push o}→Bp (Bq c.prog c.w) A Zw Q' Dq s) (e1:fi loc x.σ=some (l,DD))
  (go: ∀it Dd C (y:St c),CT x it l Dd C o 0 y→y.σ=DD→l.length≤big→Ci (Bq c.prog c.w) A (.compStart expr 0 it (.ref Dd) (CS sc (Fc env sc.names).reverse C env)) (C0 (Bq c.prog c.w) A Dq use Q (.ref Dd) C) y.s):
  Bp (Bq c.prog c.w) A (Cr expr sc env pos Zw false (eval iter env) use) Q Dq x.s:=by
 refine wpAny_comprehension_free w8 hs (Oz (Mk G2 fr.S)) (JY (band G2).1) (λx hx e=>Iw (Mn (band (band G2).2).2) (e▸hx)) ?_;refine I.run e1 λitv y l ey W Eb=>Yj (UP (p:=p) (q:=q) yl G2 λs' kp hd wI sm KA hce w8=> ?_);refine C9 hce<|C9 w8 ?_
 have n1:=Dc y.s.heap;have n2:=Lg (h:=y.s.heap) (Ac y.s.heap.objs.size);have m:Le y ⟨y.hf,y.ρ,y.σ,s',y.R.Ef λb o e O=>kp b o e⟩:=⟨F9 _ _ kp,sm⟩
 have back: ∀b,y.s.heap.get? b=none→x.s.heap.get? b=none:=λb hb=>(l.nx.back hb).elim (λ⟨q,hq,z⟩=>by
  refine D3 (BS.mp hq) λi hi=> ?_;exact absurd z ((y.R.fresh hb).2 q (AC (l.nx.JX i q hi)))) id
 refine go itv _ _ ⟨y.hf,y.ρ,y.σ,s',_⟩ ⟨⟨l.trans m,back _ n1,back _ n2,AW (AF _),y.R.fresh n1,y.R.fresh n2,hd,wI⟩, ?_⟩ ey Eb;exact (W.more (X:=λb=>b=y.s.heap.objs.size∨b=y.s.heap.objs.size+1) λb hb=>hb.elim (λz=>z▸n1) λz=>z▸n2).J0 y.R m.nx (y.R.Ef λb o e O=>kp b o e)
end
end
section
mutual open A
variable{c:Cx}{A:Bs}{s:Bl}{x y z:St c}{K:B4}{env:Env}{loc:Di}{it:Bj}{l:List D}{i:Nat}{Dd C:Br}{o:Obj}{f g:Ev}{oe wS:EJ}{os:List EJ}{fs:List Ev}{sc:CM}{p q:Nat}{target iter:Expr}{pos:Pos}{fi:aV}{G:HR}{kk:Nat}{fa:Nat→Br}
theorem TI{pos':Pos}{Rc:List Expr}{elt:Expr}{vs:List V}{DD DK:Store}{use:Option (Bj→Sem Unit)}{Q:Bj→Bl→Prop}(I:Zc A env loc x fi iter)(hs: ∀v,CH iter env v=pure v)(He:Db c A oe f)(Hi:Fy c A os fs)(hh:A.handled=none)(fr:FR env loc x)(G2:Fs (vw env.scope) sc p q=true)(Jz:On (vw sc) p q target=true)(i8:LZ (vw sc) os Rc=true)(TS:oe (vw sc) elt=true)
  (e1:fi loc x.σ=some (l,DD)) (e2:EA (F2 p q f fs loc) l DD=some (vs,DK)) (fin: ∀(y:St c) Dd C us n,CE x Dd C (E3 us n) y→y.σ=DK→y.GC us vs→us.length≤big→C0 (Bq c.prog c.w) A Dq use Q (.ref Dd) C (.ok .next) y.s):
  Bp (Bq c.prog c.w) A (Cr (.ListComp elt [⟨target,iter,Rc,0⟩] sc pos) sc env pos' (newList []) false (eval iter env) use) Q Dq x.s:=
 Ny rfl hs I fr G2 rfl (λh=>Cq h (by decide)) e1 λit Dd C y t ey Eb=>
  have loop:=To (iter:=iter) (pos:=pos) (R:=C0 (Bq c.prog c.w) A Dq use Q (.ref Dd) C) He Hi hh fr G2 Jz i8 TS Eb t (ey.symm▸e2) λy us n ce=>fin y Dd C us n ce
  codeAny_compStart_list loop (Jk hh t.w loop)
theorem tY(Z:Zt K c fa G A kk){keep:Bool}{Rc:List Expr}{elt:Expr}(I:Zc A env loc x fi iter)(hs: ∀v,CH iter env v=pure v)(He:Db c A oe f)(Hi:Fy c A os fs)(fr:FR env loc x)(G2:Fs (vw env.scope) sc p q=true)(Jz:On (vw sc) p q target=true)(i8:LZ (vw sc) os Rc=true)(TS:oe (vw sc) elt=true):
  I4 A env loc x (Od keep fi p q f fs) (.ListComp elt [⟨target,iter,Rc,0⟩] sc pos):=by
 refine ⟨λ{r DT Q} ev k=>DP ev λl DD e1 ev=>DP ev λvs DK e2 ev=> ?_⟩;refine C9 (arm_eval_ListComp _ _ _ _ _) ?_;refine TI I hs He Hi Z.rm.handled fr G2 Jz i8 TS e1 e2 λy Dd C us n ce ey hv hb=> ?_;refine D3 ce.ns λm hm=> ?_;refine (DM m hm (λh' hs=> ?_));have Nb: ∀b o,b≠C→y.s.heap.get? b=some o→h'.get? b=some o:=λb o hb e=>(hs.2 b hb).trans e;exact OK (p:=(Dd,Dd)) ev (ce.le.nx.off ce.nC Nb) (ey▸y.off ce.pC.1 ce.pC.2 Nb) ce.nD ce.pD.1 ce.pD.2 (Nb _ _ ce.ne ce.d) ⟨rfl,hb,n,rfl⟩ hv k rfl ⟨ce.le.sm.1,ce.le.sm.2,ce.le.sm.3⟩
structure DI(x:St c)(it:Bj)(l:List D)(F:D→Store→Option (Option (V×V)×Store))(k:Nat)(rr:List DO×List V)(DK:Store)(Dd C:Br)(n:Nat)(s:Bl)(i:Nat)(y:St c)(o:Obj)(us:List Bj)(acc:List DO×List V)(qr:List (V×V)):Prop where
 hi:i≤l.length
 hn:n=l.length - i
 hs:s=y.s
 t:CT x it l Dd C o i y
 e:EA F (l.drop i) y.σ=some (qr,DK)
 w:FB k qr acc=some rr
 ho:EB c y.hf o k acc.1 us
 hv:y.GC us acc.2
 hb:us.length≤i
theorem hR{p:Nat}{f g:Ev}{loc:Di}{d:D}{σ Dy:Store}{ov:Option (V×V)}{P:Prop}(e:MM p f g loc d σ=some (ov,Dy))(k: ∀a HL b,f ((p, .d d)::loc) σ=some (a,HL)→g ((p, .d d)::loc) HL=some (b,Dy)→ov=some (a,b)→P):P:=DP (x:=f ((p, .d d)::loc) σ) e λa HL e3 e1=>DP e1 λb dE e4 e1=>by
 have w:(some (a,b),dE)=(ov,Dy):=η e1;exact k a HL b e3 (e4.trans (congrArg (λz=>some (b,z)) (congrArg Prod.snd w))) (congrArg Prod.fst w).symm
theorem Rz{ke ve:Expr}{k:Nat}{qs:List (V×V)}{rr:List DO×List V}{DK:Store}{R:C8→Bl→Prop}(H1:Db c A oe f)(H2:Db c A wS g)(rm:Mw A (kk+1))(hk:Μ k 4=true)(fr:FR env loc x)(G2:Fs (vw env.scope) sc p 0=true)(Jz:On (vw sc) p 0 target=true)(i8:oe (vw sc) ke=true)(TS:wS (vw sc) ve=true)(Eb:l.length≤big)
  (t:CT x it l Dd C {cls:= .type "dict",data:= .dict #[]} 0 y) (e:EA (MM p f g loc) l y.σ=some (qs,DK)) (ep:FB k qs ([], [])=some rr) (fin: ∀(y:St c) o us,CE x Dd C o y→y.σ=DK→EB c y.hf o k rr.1 us→y.GC us rr.2→R (.ok .next) y.s):
  Ci (Bq c.prog c.w) A (.compLoop (.DictComp ke ve [⟨target,iter, [],0⟩] sc pos) 0 it (.ref Dd) (CS sc (Fc env sc.names).reverse C env)) R y.s:=by
 have htn: ∀v,Cp target it v=pure ():=DL (f:=Tu (vw sc) p) Jz λid h1 O v=>by refine D3 (Ei h1) λpos Fi=> ?_;subst Fi;rfl
 refine wt2 (λn s=> ∃i y o us acc qr,DI x it l (MM p f g loc) k rr DK Dd C n s i y o us acc qr) λI di mi=> ?_;refine codeAny_compLoop_testsD I (λn s I=> ?_) l.length (mi _ _ ⟨0,y,_, [],([], []),qs,AT _,rfl,rfl,t,e,ep,Jd (Ds.mp hk), .nil,Ι _⟩) htn;clear t e ep;obtain ⟨i,y,o,us,acc,qr,hi,hn,hs,t,e,w,ho,hv,hb⟩:=di _ _ I;clear I;refine C9 hs ?_;have qW:vw (CS sc (Fc env sc.names).reverse C env).scope=vw sc:=Ia sc env;rcases Nat.lt_or_ge i l.length with lt|ge
 ·refine wr λZ0 z0=> ?_
  rw [Av lt] at e;refine dN e λov Dy qr' e1 e2 wv=>hR e1 λa HL b e3 e4 o1=> ?_;rw [wv,o1] at w;clear e e1 wv o1;refine DA w λf9 w1 w=> ?_;refine Ib (KI w1) λkd key g1 g2 g3 g4=> ?_;refine z0 ?_;have dec:l.length - (i+1)<n:=hn▸Ba _ _ lt;refine W3 (p:=p) (q:=0) (DG:=(p, .d l[i])::loc) rm.handled t fr G2 Jz (Τ lt) rfl (λv D6 w h=>h) λz tz ez up fz=> ?_;refine wpAny_tests_nil ?_;refine C9 (if_pos rfl) ?_;refine Bu ((H1 (by exact C9 qW i8) fz).1.run (ez.symm▸e3) λva z₁ Ov KT ha=> ?_) (λO O h=>h) λO O x=>x.elim;refine Bu ((H2 (by exact C9 qW TS) (fz.J0 Ov)).1.run (KT.symm▸e4) λvb TB IX Tx sC=> ?_) (λO O h=>h) λO O x=>x.elim;have bf:=tz.on (Ov.trans IX);have kf: ∀b o,y.hf b=some o→TB.hf b=some o:=λb o e=>(Ov.trans IX).nx.kf b o (up.1 b o e);have g1:a= .d kd:=g1;rw [g1] at ha;refine Hz (c:=c) (hf:=TB.hf) TB.R.keep (Ec (m:=0) rm.u (AT _)) bf.b.d (ho.mono kf) (JS g2 (VV.le ha IX)) g3 (Ρ hb (AQ lt Eb)) λh' o' tk bN Yi zP=> ?_;have hp:TB.GC us acc.2:=GC.le (x:=z) (hv.MR up.1 up.2) (Ov.trans IX);exact ⟨_,dec,mi _ _ ⟨i+1,_,o',_,f9,qr',lt,rfl,rfl,bf.put (s':={TB.s with heap:=h',toks:=tk}) (λb o n e=>(bN.2 b n).trans e) Yi ⟨rfl,rfl,rfl⟩,Tx.symm▸e2,w,by refine C9 g4 ?_;exact zP,by exact C9 g4<|hp.put sC _,Υ (F7 _ _ _ _) (Κ hb)⟩⟩
 ·have jh:=Aq hi ge
  rw [jh,List.drop_length] at e;rw [jh] at t hb;have n:=XC e;rw [n.1] at w;refine WL rm.handled t λz ce ez up=>fin z o us ce (ez.trans n.2) ?_ ?_
  ·exact Dr (η w)<|ho.mono up.1
  ·exact Dr (η w)<|hv.MR up.1 up.2
theorem nq(Z:Zt K c fa G A kk){k:Nat}{ke ve:Expr}(I:Zc A env loc x fi iter)(hs: ∀v,CH iter env v=pure v)(H1:Db c A oe f)(H2:Db c A wS g)(hk:Μ k 4=true)(fr:FR env loc x)(G2:Fs (vw env.scope) sc p 0=true)(Jz:On (vw sc) p 0 target=true)(i8:oe (vw sc) ke=true)(TS:wS (vw sc) ve=true):
  I4 A env loc x (QO k fi p f g) (.DictComp ke ve [⟨target,iter, [],0⟩] sc pos):=by
 refine ⟨λ{r DT Q} ev kq=>DP ev λl DD e1 ev=>DP ev λqs DK e2 ev=>DA ev λrr e3 ev=> ?_⟩;refine C9 (arm_eval_DictComp _ _ _ _ _ _) ?_;refine Ny rfl hs I fr G2 rfl (λh=>wpAny_newObj_type h) e1 λit Dd C y t ey Eb=> ?_
 have loop:=Rz (iter:=iter) (pos:=pos) (R:=C0 (Bq c.prog c.w) A Dq none Q (.ref Dd) C) H1 H2 Z.rm hk fr G2 Jz i8 TS Eb t (ey.symm▸e2) e3 λy o us ce ey ho hv=>by
  refine D3 ce.ns λm hm=> ?_;refine (DM m hm (λh' hs=> ?_));have Nb: ∀b o,b≠C→y.s.heap.get? b=some o→h'.get? b=some o:=λb o hb e=>(hs.2 b hb).trans e;exact OK (p:=(Dd,Dd)) ev (ce.le.nx.off ce.nC Nb) (ey▸y.off ce.pC.1 ce.pC.2 Nb) ce.nD ce.pD.1 ce.pD.2 (Nb _ _ ce.ne ce.d) ⟨rfl,QK Z.B.SM ce.nD,ho⟩ hv kq rfl ⟨ce.le.sm.1,ce.le.sm.2,ce.le.sm.3⟩
 exact codeAny_compStart_dict loop (Jk Z.rm.handled t.w loop)
end
end
section
mutual open A
def Pg:Expr→Option Const:=oX 3 (·.k)
def ox:Expr→Option (UnaryOp×Expr):=oX 4 λw=>(w.u,w.a)
def VR:Expr→Option (Expr×Operator×Expr):=oX 5 λw=>(w.a,w.o,w.b)
def Qc:Expr→Option (Expr×Str):=oX 6 λw=>(w.a,w.s)
def P':Expr→Option (Expr×Expr):=oX 7 λw=>(w.a,w.b)
def ul(w:Wx):Option Expr:=cond (w.x.isNone&&w.z.isNone) w.y none
def XP(e:Expr):Option Expr:=DN (oX 8 id e) ul
def UB:Expr→Option (Expr×List C4×List Expr):=oX 9 λw=>(w.a,w.cs,w.l)
def sG:Expr→Option (BoolOp×List Expr):=oX 10 λw=>(w.bo,w.l)
def jq:Expr→Option (Expr×Expr×Expr):=oX 11 λw=>(w.a,w.b,w.d)
def d8:Expr→Option (List Expr):=oX 12 (·.l)
def bM:Expr→Option (List (Option Expr)×List Expr):=oX 13 λw=>(w.ks,w.l)
def NB(e:Expr):Option (Expr×List Expr×Pos):=DN (oX 14 id e) λw=>cond w.kw.isEmpty (some (w.a,w.l,w.p)) none
def QJ:Expr→Option (Expr×Str×Pos):=oX 6 λw=>(w.a,w.s,w.p)
def nN:Expr→Option (Expr×List B6×CM):=oX 15 λw=>(w.a,w.gs,w.sc)
def uB:Expr→Option (Expr×Expr×List B6×CM):=oX 16 λw=>(w.a,w.b,w.gs,w.sc)
def Zy:List B6→Option (Expr×Expr×List Expr)
 | [g]=>GA (Dj g.is_async 0) (some (g.target,g.iter,g.ifs))
 |_=>none
theorem HQ{e:Expr}{k}(h:Pg e=some k): ∃q p,e= .Constant k q p:=Et h λw a b=>(TW w.n w.p (b▸a))
theorem PU{e:Expr}{k}(h:ox e=some k): ∃p,e= .UnaryOp k.1 k.2 p:=Et h λw a b=>(EF w.p (b▸a))
theorem Mi{e:Expr}{k}(h:VR e=some k): ∃p,e= .BinOp k.1 k.2.1 k.2.2 p:=Et h λw a b=>(EF w.p (b▸a))
theorem Ig{e:Expr}{k}(h:Qc e=some k): ∃p,e= .Attribute k.1 k.2 p:=Et h λw a b=>(EF w.p (b▸a))
theorem JK{e:Expr}{k}(h:P' e=some k): ∃p,e= .Subscript k.1 k.2 p:=Et h λw a b=>(EF w.p (b▸a))
theorem RK{e:Expr}{k}(h:XP e=some k): ∃p,e= .Slice none (some k) none p:=DA h λv h1 h2=>Et h1 λw a b=>by
 unfold ul at h2;cases q:(v.x.isNone&&v.z.isNone) with
 |false=>rw [q] at h2;exact DC h2
 |true=>
  rw [q] at h2;have h2:v.y=some k:=h2;have b:v=w:=b;have a:e= .Slice w.x w.y w.z w.p:=a;rw [←b,Af.mp (band q).1,h2,Af.mp (band q).2] at a;exact (EF _ a)
theorem Mm{e:Expr}{k}(h:UB e=some k): ∃p,e= .Compare k.1 k.2.1 k.2.2 p:=Et h λw a b=>(EF w.p (b▸a))
theorem Y6{e:Expr}{k}(h:sG e=some k): ∃p,e= .BoolOp k.1 k.2 p:=Et h λw a b=>(EF w.p (b▸a))
theorem Vl{e:Expr}{k}(h:jq e=some k): ∃p,e= .IfExp k.1 k.2.1 k.2.2 p:=Et h λw a b=>(EF w.p (b▸a))
theorem Ra{e:Expr}{k}(h:d8 e=some k): ∃p,e= .List k p:=Et h λw a b=>(EF w.p (b▸a))
theorem Sb{e:Expr}{k}(h:bM e=some k): ∃p,e= .Dict k.1 k.2 p:=Et h λw a b=>(EF w.p (b▸a))
theorem Ih{e:Expr}{k}(h:NB e=some k):e= .Call k.1 k.2.1 [] k.2.2:=DA h λv h1 h2=>Et h1 λw a b=>by
 cases q:v.kw.isEmpty with
 |false=>rw [q] at h2;exact DC h2
 |true=>
  rw [q] at h2;have b:v=w:=b;have a:e= .Call w.a w.l w.kw w.p:=a;rw [←b,AZ.mp q] at a;exact Dr (η h2) a
theorem LR{e:Expr}{k}(h:QJ e=some k):e= .Attribute k.1 k.2.1 k.2.2:=Et h λw a b=>b▸a
theorem Xe{e:Expr}{k}(h:nN e=some k): ∃p,e= .ListComp k.1 k.2.1 k.2.2 p:=Et h λw a b=>(EF w.p (b▸a))
theorem YC{e:Expr}{k}(h:uB e=some k): ∃p,e= .DictComp k.1 k.2.1 k.2.2.1 k.2.2.2 p:=Et h λw a b=>(EF w.p (b▸a))
theorem J9{l:List B6}{k}(h:Zy l=some k):l= [⟨k.1,k.2.1,k.2.2,0⟩]:=by
 cases l with
 |nil=>exact DC h
 |cons g l=>cases l with
  |cons=>exact DC h
  |nil=>exact DY (x:=some (g.target,g.iter,g.ifs)) h λh1 h2=>by refine Dr (η h2) ?_;obtain ⟨a,b,d,e⟩:=g;(exact C9 (show e=0 from EP h1) rfl)
end
section
mutual open A
variable{c:Cx}{A:Bs}{x:St c}{K:B4}{env:Env}{loc:Di}{f g h:Ev}{o1 o2 o3:EJ}{e:Expr}{os:List EJ}{fs:List Ev}{fa:Nat→Br}{G:HR}{kk:Nat}{n:Nat}
def nj(n:Nat):EJ:=λsc e=>oB (Lp e) λid=>EQ id (nm n)&&(seen sc (nm n)&& !EW (nm n))
def oGv(n:Nat):EJ:=λsc e=>oB (Lp e) λid=>EQ id (nm n)&&(PE sc (nm n)&& !EW (nm n))
def eX(t n:Nat):EJ:=λO e=>oB (Pg e) (kU t n)
def isInt(n:Nat):Const→Bool
 | .int i=>Dj i n
 |_=>false
theorem K7{n:Nat}{k:Const}(h:isInt n k=true):k= .int n:=by cases k with|int=>exact congrArg Const.int (EP h)|_=>exact ζ h
def n9:UnaryOp→Bool
 | .USub=>true
 |_=>false
def ot:UnaryOp→Bool
 | .Not=>true
 |_=>false
def vH:Operator→Bool
 | .Pow=>true
 |_=>false
def kG(q:Bool):BoolOp→Bool
 | .And=>q
 | .Or=> !q
theorem dZ{q:Bool}{o:BoolOp}(h:kG q o=true):o=ZS q:=by cases o<;>cases q<;>first|rfl|exact ζ h
def qy(n:Nat):EJ:=λO e=>oB (ox e) λp=>n9 p.1&&oB (Pg p.2) (isInt n)
def rZ(n:Nat):EJ:=λO e=>oB (VR e) λp=>vH p.2.1&&(oB (Pg p.1) (isInt 10)&&(oB (Pg p.2.2) (isInt n)&&Μ n 1000))
def jW(n:Nat)(o1:EJ):EJ:=λsc e=>oB (Qc e) λp=>EQ p.2 (nm n)&&(J6 p.1&&o1 sc p.1)
def vY(o1 o2:EJ):EJ:=λsc e=>oB (P' e) λp=>o1 sc p.1&&o2 sc p.2
def je(n:Nat)(o1:EJ):EJ:=λsc e=>oB (P' e) λp=>oB (Lp p.1) λO=>oB (XP p.2) λu=>oB (Pg u) λk=>isInt n k&&o1 sc p.1
def uV(n:Nat)(o1 o2:EJ):EJ:=λsc e=>oB (VR e) λp=>μ n (fj p.2.1)&&(o1 sc p.1&&o2 sc p.2.2)
def rI(o1:EJ):EJ:=λsc e=>oB (ox e) λp=>ot p.1&&o1 sc p.2
def uM(n:Nat)(o1 o2:EJ):EJ:=λsc e=>oB (UB e) λp=>oB (only p.2.1) λop=>oB (only p.2.2) λr=>μ n (Lw op)&&(J4 r&&(o1 sc p.1&&o2 sc r))
def Ru{α:Type}:List α→Option (α×α)
 | [a,b]=>some (a,b)
 |_=>none
theorem IC{α:Type}{l:List α}{p:α×α}(h:Ru l=some p):l= [p.1,p.2]:=by
 cases l with
 |nil=>exact DC h
 |cons a l=>cases l with
  |nil=>exact DC h
  |cons b l=>cases l with
   |nil=>(exact Dr (η h) rfl)
   |cons=>exact DC h
def jK(n m:Nat)(o1 o2 o3:EJ):EJ:=λsc e=>oB (UB e) λp=>oB (Ru p.2.1) λop=>oB (Ru p.2.2) λr=>μ n (Lw op.1)&&(μ m (Lw op.2)&&(J4 r.1&&(J4 r.2&&(o1 sc p.1&&(o2 sc r.1&&o3 sc r.2)))))
def aj(q:Bool)(os:List EJ):EJ:=λsc e=>oB (sG e) λp=>kG q p.1&&(Ε 1 p.2.length&&LZ sc os p.2)
def sJ(o1 o2 o3:EJ):EJ:=λsc e=>oB (jq e) λp=>o1 sc p.1&&(o2 sc p.2.1&&o3 sc p.2.2)
def kj(os:List EJ):EJ:=λsc e=>oB (Hq e) λl=>Μ l.length 1000&&LZ sc os l
def ki(os:List EJ):EJ:=λsc e=>oB (d8 e) λl=>Μ l.length 1000&&LZ sc os l
def ku(k:Nat)(os:List EJ):EJ:=λsc e=>oB (bM e) λp=>Μ k 4&&(Μ p.1.length 15&&TO sc os p.1 p.2)
theorem H9(g:I4 A env loc x f e)(s:special e=false):I4 A env loc x f e∧Xv A env loc x f e:=⟨g,g.tr s⟩
theorem zN:Db c A (nj n) (mP n):=λ{e env loc x} ok fr=>DL ok λid h1 ok=>by
 refine D3 (Ei h1) λp w=> ?_;refine C9 w<|C9 (EH (band ok).1) ?_
 exact H9 (xX (band (band ok).2).1 (band (band ok).2).2 fr) rfl
theorem sGv(B:I2 K c)(T:KG K c fa):Db c A (oGv n) (yR n):=λ{e env loc x} ok fr=>DL ok λid h1 ok=>by
 refine D3 (Ei h1) λp w=> ?_;refine C9 w<|C9 (EH (band ok).1) ?_
 exact H9 (gGv B T (band (band ok).2).1 (band (band ok).2).2 fr) rfl
theorem f6{t:Nat}:Db c A (eX t n) (M5 (kD t n)):=λ{e env loc x} ok fr=>DL ok λk h1 ok=>by
 refine HY (HQ h1) λq p w=> ?_;refine C9 w ?_;exact H9 (yH ok) rfl
theorem zS:Db c A (qy n) (M5 (.int (-(n:Int)))):=λ{e env loc x} ok fr=>DL ok λk h1 ok=>DL (band ok).2 λz h2 h3=>by
 refine wr λZ0 z0=> ?_;refine D3 (PU h1) λp w=> ?_;refine HY (HQ h2) λq p' w'=> ?_;obtain ⟨op,a⟩:=k;refine z0 ?_;have ok:=(band ok).1;cases op with
 |USub=>exact C9 w<|C9 w'<|C9 (K7 h3)<|H9 zI rfl
 |_=>exact ζ ok
theorem yY:Db c A (rZ n) (M5 (.int ((10:Int)^n))):=λ{e env loc x} ok fr=>DL ok λk h1 ok=>DL (band (band ok).2).1 λz h2 h3=>DL (band (band (band ok).2).2).1 λz' h4 h5=>by
 refine wr λZ0 z0=> ?_;refine D3 (Mi h1) λp w=> ?_;refine HY (HQ h2) λq p' w'=> ?_;refine HY (HQ h4) λq' p'' w''=> ?_;obtain ⟨a,op,b⟩:=k;refine z0 ?_;have hn:=Ds.mp (band (band (band ok).2).2).2;have ok:=(band ok).1;cases op with
 |Pow=>exact C9 w<|C9 w'<|C9 w''<|C9 (K7 h3)<|C9 (K7 h5)<|H9 (xy hn) rfl
 |_=>exact ζ ok
theorem qa(B:I2 K c)(H:Db c A o1 f):Db c A (jW n o1) (XE n f):=λ{e env loc x} ok fr=>DL ok λk h1 ok=>by
 refine D3 (Ig h1) λp w=> ?_;refine C9 w<|C9 (EH (band ok).1) ?_
 exact H9 (vZ B H (band (band ok).2).2 (band (band ok).2).1 fr) rfl
theorem xg(hu:A.units+2<B3)(H1:Db c A o1 f)(H2:Db c A o2 g):Db c A (vY o1 o2) (iA f g):=λ{e env loc x} ok fr=>DL ok λk h1 ok=>by
 refine D3 (JK h1) λp w=> ?_;refine C9 w ?_;exact H9 (xC H1 H2 (band ok).1 (band ok).2 hu fr) rfl
theorem qg(H:Db c A o1 f):Db c A (je n o1) (V5 n f):=λ{e env loc x} ok fr=>DL ok λk h1 ok=>DL ok λid h2 ok=>DL ok λu h3 ok=>DL ok λz h4 ok=>by
 refine wr λZ0 z0=> ?_;refine D3 (JK h1) λp w=> ?_;refine D3 (Ei h2) λp1 w1=> ?_;refine D3 (RK h3) λp2 w2=> ?_;refine HY (HQ h4) λq p3 w3=> ?_;refine z0 ?_;have Jz:=(band ok).2;rw [w1] at Jz;refine C9 w<|C9 w1<|C9 w2<|C9 w3<|C9 (K7 (band ok).1) ?_
 exact H9 (uL H Jz fr) rfl
theorem zq(H1:Db c A o1 f)(H2:Db c A o2 g):Db c A (uV n o1 o2) (gh n f g):=λ{e env loc x} ok fr=>DL ok λk h1 ok=>by
 refine D3 (Mi h1) λp w=> ?_;refine C9 w<|C9 (nb (band ok).1) ?_
 exact H9 (xj H1 H2 _ (band (band ok).2).1 (band (band ok).2).2 fr) rfl
theorem zG(H1:Db c A o1 f):Db c A (rI o1) (cW f):=λ{e env loc x} ok fr=>DL ok λk h1 ok=>by
 refine D3 (PU h1) λp w=> ?_;obtain ⟨op,a⟩:=k;have G2:=(band ok).1;cases op with
 |Not=>exact C9 w<|yf H1 (band ok).2 fr
 |_=>exact ζ G2
theorem yb(hu:A.units+64<B3)(H1:Db c A o1 f)(H2:Db c A o2 g):Db c A (uM n o1 o2) (Ya n f g):=λ{e env loc x} ok fr=>DL ok λk h1 ok=>DL ok λop h2 ok=>DL ok λr h3 ok=>by
 refine D3 (Mm h1) λp w=> ?_;refine C9 w<|C9 (Eh h2)<|C9 (Eh h3)<|C9 (nb (band ok).1) ?_
 exact yc H1 H2 _ (band (band ok).2).1 (band (band (band ok).2).2).1 (band (band (band ok).2).2).2 hu fr
theorem t8(hu:A.units+64<B3){m:Nat}(H1:Db c A o1 f)(H2:Db c A o2 g)(H3:Db c A o3 h):Db c A (jK n m o1 o2 o3) (OE n m f g h):=λ{e env loc x} ok fr=>DL ok λk h1 ok=>DL ok λop h2 ok=>DL ok λr h3 ok=>by
 refine wr λZ0 z0=> ?_;refine D3 (Mm h1) λp w=> ?_;refine Dl (band ok) λa1 ok=> ?_;refine Dl (band ok) λa2 ok=> ?_;refine Dl (band ok) λa3 ok=> ?_;refine Dl (band ok) λa4 ok=> ?_;refine Dl (band ok) λa5 ok=> ?_;refine z0 ?_;refine C9 w<|C9 (IC h2)<|C9 (IC h3)<|C9 (nb a1)<|C9 (nb a2) ?_
 exact q7 H1 H2 H3 _ _ a3 a4 a5 (band ok).1 (band ok).2 hu fr
theorem jV(q:Bool)(H:Fy c A os fs):Db c A (aj q os) (LE q fs):=λ{e env loc x} ok fr=>DL ok λk h1 ok=>by
 refine D3 (Y6 h1) λp w=> ?_;refine C9 w<|C9 (dZ (band ok).1) ?_
 exact vJ q H (band (band ok).2).2 (band (band ok).2).1 fr
theorem zw(H1:Db c A o1 f)(H2:Db c A o2 g)(H3:Db c A o3 h):Db c A (sJ o1 o2 o3) (ci f g h):=λ{e env loc x} ok fr=>DL ok λk h1 ok=>by
 refine D3 (Vl h1) λp w=> ?_;refine C9 w ?_;exact xl H1 H2 H3 (band ok).1 (band (band ok).2).1 (band (band ok).2).2 fr
theorem sU{keep:Bool}(H:Fy c A os fs)(P: ∀o∈os,D8 o):Db c A (kj os) (ZW keep .tup fs):=λ{e env loc x} ok fr=>DL ok λk h1 ok=>by
 refine HY (Gn h1) λq p w=> ?_;refine C9 w ?_;exact H9 (zQ H P (band ok).2 (band ok).1 fr) rfl
theorem rL{keep:Bool}(H:Fy c A os fs)(P: ∀o∈os,D8 o):Db c A (ki os) (ZW keep .lst fs):=λ{e env loc x} ok fr=>DL ok λk h1 ok=>by
 refine D3 (Ra h1) λp w=> ?_;refine C9 w ?_;exact H9 (zd H P (band ok).2 (band ok).1 fr) rfl
theorem rh(Z:Zt K c fa G A kk){keep:Bool}{k:Nat}(H:Fy c A os fs):Db c A (ku k os) (Yr keep k fs):=λ{e env loc x} ok fr=>DL ok λq h1 ok=>by
 refine D3 (Sb h1) λp w=> ?_;refine C9 w ?_;exact H9 (zo Z H (band ok).1 (band (band ok).2).2 (band (band ok).2).1 fr) rfl
end
end
end
section
mutual open A
variable{c:Cx}{A:Bs}{x y:St c}{K:B4}{env:Env}{loc:Di}{f g h:Ev}{o1 o2:EJ}{e:Expr}{os:List EJ}{fs:List Ev}{fa:Nat→Br}{G:HR}{kk:Nat}{n:Nat}{fi:aV}
def J2(e:Expr)(f:Str→List Expr→Bool):Bool:=oB (NB e) λp=>oB (Lp p.1) λid=>f id p.2.1
theorem FF{e:Expr}{f:Str→List Expr→Bool}{P:Expr→Prop}(h:J2 e f=true)(go: ∀id GQ args pos,f id args=true→P (.Call (.Name id GQ) args [] pos)):P e:=
 DL h λp h1 h=>DL h λid h2 h=>by
  refine D3 (Ei h2) λq w=> ?_;refine C9 (Ih h1)<|C9 w ?_
  exact go _ _ _ _ h
def Tz(n:Nat)(os:List EJ):EJ:=λsc e=>J2 e λid l=>Ue sc n id&&LZ sc os l
def Uz(n:Nat)(os:List EJ):EJ:=λsc e=>J2 e λid l=>XU sc n id&&LZ sc os l
def de(n:Nat)(o1:EJ):EJ:=λsc e=>J2 e λid l=>oB (only l) λa=>O0 sc (bP n) id&&o1 sc a
def U9(n:Nat)(o1:EJ):EJ:=λsc e=>J2 e λid l=>oB (only l) λa=>Μ n 4&&(O0 sc "dict" id&&o1 sc a)
def tj(n:Nat)(o1:EJ):EJ:=λsc e=>J2 e λid l=>oB (Ru l) λp=>oB (Lp p.2) λt=>O0 sc "isinstance" id&&(nS sc n t&&o1 sc p.1)
def jR(m:Nat)(o1:EJ)(os:List EJ):EJ:=λsc e=>oB (NB e) λp=>oB (QJ p.1) λq=>EQ q.2.1 (nm m)&&(Μ m Fw.length&&(J6 q.1&&((q.2.2.endLine==p.2.2.line)&&(Μ p.2.1.length 20&&(o1 sc q.1&&LZ sc os p.2.1)))))
def WW(o1:EJ):EJ:=λsc e=>J2 e λid l=>oB (only l) λa=>O0 sc "range" id&&o1 sc a
def Vr(o1 o2:EJ):EJ:=λsc e=>J2 e λid l=>oB (Ru l) λp=>O0 sc "range" id&&(o1 sc p.1&&o2 sc p.2)
def vW(o1:EJ):EJ:=λsc e=>J2 e λid l=>oB (only l) λa=>O0 sc "reversed" id&&o1 sc a
def Zd(q:Nat)(os:List EJ):EJ:=λsc e=>J4 e&&match q with
 |0=>oB (only os) λo=>o sc e
 |1=>oB (only os) λo=>WW o sc e
 |2=>oB (Ru os) λp=>Vr p.1 p.2 sc e
 |3=>oB (only os) λo=>vW o sc e
 |_=>false
def WF(oi:EJ)(p q:Nat)(o1:EJ)(os:List EJ):EJ:=λsc e=>oB (nN e) λk=>oB (Zy k.2.1) λg=>Fs sc k.2.2 p q&&(On (vw k.2.2) p q g.1&&(oi sc g.2.1&&(LZ (vw k.2.2) os g.2.2&&o1 (vw k.2.2) k.1)))
def Z5(n:Nat)(oi:EJ)(p:Nat)(o1 o2:EJ):EJ:=λsc e=>oB (uB e) λk=>oB (Zy k.2.2.1) λg=>Μ n 4&&(g.2.2.isEmpty&&(Fs sc k.2.2.2 p 0&&(On (vw k.2.2.2) p 0 g.1&&(oi sc g.2.1&&(o1 (vw k.2.2.2) k.1&&o2 (vw k.2.2.2) k.2.1)))))
theorem dT(Z:Zt K c fa G A kk){keep:Bool}(H:Fy c A os fs)(P: ∀o∈os,D8 o):Db c A (Tz n os) (Lv G keep n fs):=λ{e env loc x} ok fr=>FF (P:=λe=>I4 A env loc x _ e∧Xv A env loc x _ e) ok λid q l p ok=>H9 (lG Z H P (band ok).1 (band ok).2 fr) rfl
theorem aP(Z:Zt K c fa G A kk){keep:Bool}(H:Fy c A os fs)(P: ∀o∈os,D8 o):Db c A (Uz n os) (Lz G keep n fs):=λ{e env loc x} ok fr=>FF (P:=λe=>I4 A env loc x _ e∧Xv A env loc x _ e) ok λid q l p ok=>H9 (mo Z H P (band ok).1 (band ok).2 fr) rfl
theorem lj(Z:Zt K c fa G A kk)(H:Db c A o1 f)(P:D8 o1):Db c A (de n o1) (Qh n f):=λ{e env loc x} ok fr=>FF (P:=λe=>I4 A env loc x _ e∧Xv A env loc x _ e) ok λid q l p ok=>DL ok λa h1 ok=>by
 refine C9 (Eh h1) ?_;exact H9 (nU Z H P (band ok).1 (band ok).2 fr) rfl
theorem eV(Z:Zt K c fa G A kk){keep:Bool}(H:Db c A o1 f)(P:D8 o1):Db c A (U9 n o1) (Lo keep n f):=λ{e env loc x} ok fr=>FF (P:=λe=>I4 A env loc x _ e∧Xv A env loc x _ e) ok λid q l p ok=>DL ok λa h1 ok=>by
 refine C9 (Eh h1) ?_;exact H9 (pM Z H P (band ok).1 (band (band ok).2).1 (band (band ok).2).2 fr) rfl
theorem yr(Z:Zt K c fa G A kk)(H:Db c A o1 f)(P:D8 o1):Db c A (tj n o1) (hG n f):=λ{e env loc x} ok fr=>FF (P:=λe=>I4 A env loc x _ e∧Xv A env loc x _ e) ok λid q l p ok=>DL ok λa h1 ok=>DL ok λt h2 ok=>by
 refine D3 (Ei h2) λtp w=> ?_;refine C9 (IC h1)<|C9 w ?_
 exact H9 (zp Z H P (band ok).1 (band (band ok).2).2 (band (band ok).2).1 fr) rfl
theorem tI(Z:Zt K c fa G A kk)(H:Db c A o1 f)(Hs:Fy c A os fs)(P: ∀o∈os,D8 o):Db c A (jR n o1 os) (V7 G n f fs):=λ{e env loc x} ok fr=>DL ok λp h1 ok=>DL ok λq h2 ok=>by
 refine wr λZ0 z0=> ?_;refine Dl (band ok) λa1 ok=> ?_;refine Dl (band ok) λa2 ok=> ?_;refine Dl (band ok) λa3 ok=> ?_;refine Dl (band ok) λa4 ok=> ?_;refine Dl (band ok) λa5 ok=> ?_;refine z0 ?_;refine C9 (Ih h1)<|C9 (LR h2)<|C9 (EH a1) ?_
 exact H9 (s9 Z H Hs P a2 a3 a4 a5 (band ok).1 (band ok).2 fr) rfl
def Yw(c:Cx)(A:Bs)(o:EJ)(f:aV):Prop:= ∀{e env loc} {x:St c},o (vw env.scope) e=true→FR env loc x→Zc A env loc x f e
theorem Q0{e:Expr}(h:J4 e=true)(env:Env)(v:Bj):CH e env v=pure v:=by cases e<;>first|rfl|exact ζ h
theorem K3{o:EJ}(H:Fy c A os fs)(h:only os=some o):(∃f,fs= [f]∧Db c A o f)∧o∈os:=by
 rw [Eh h] at H ⊢;exact D0 (HJ H) λf m w h1 h2=>⟨(DM f (by (exact C9 w<|C9 (Jh h2) rfl)) h1), .head _⟩
theorem Qg{o:EJ×EJ}(H:Fy c A os fs)(h:Ru os=some o):(∃f g,fs= [f,g]∧Db c A o.1 f∧Db c A o.2 g)∧o.1∈os∧o.2∈os:=by
 rw [IC h] at H ⊢;exact D0 (HJ H) λf m w h1 h2=>D0 (HJ h2) λg m2 w2 h3 h4=>⟨(EK f g (by (exact C9 w<|C9 w2<|C9 (Jh h4) rfl)) h1 h3), .head _, .tail _ (.head _)⟩
theorem sIt(Z:Zt K c fa G A kk){q:Nat}(H:Fy c A os fs)(P: ∀o∈os,D8 o):Yw c A (Zd q os) (RM q fs):=λ{e env loc x} ok fr=>by
 have ok:=(band ok).2;cases q with
 |zero=>exact DL (x:=only os) ok λo h1 TS=>DQ (K3 H h1).1 λf w H=>by exact C9 w<|iOf H TS fr
 |succ q=>cases q with
  |zero=>exact DL (x:=only os) ok λo h1 TS=>DQ (K3 H h1).1 λf w Hf=>by refine C9 w ?_;exact FF (P:=λe=>Zc A env loc x _ e) (TS:WW o (vw env.scope) e=true) λid q l p ok=>DL ok λa h2 ok=>by exact C9 (Eh h2)<|iR1 Z Hf (P _ (K3 H h1).2) (band ok).1 (band ok).2 fr
  |succ q=>cases q with
   |zero=>exact DL (x:=Ru os) ok λo h1 TS=>D0 (Qg H h1).1 λf g w Hf Hg=>by refine C9 w ?_;exact FF (P:=λe=>Zc A env loc x _ e) (TS:Vr o.1 o.2 (vw env.scope) e=true) λid q l p ok=>DL ok λa h2 ok=>by exact C9 (IC h2)<|iR2 Z Hf Hg (P _ (Qg H h1).2.1) (P _ (Qg H h1).2.2) (band ok).1 (band (band ok).2).1 (band (band ok).2).2 fr
   |succ q=>cases q with
    |zero=>exact DL (x:=only os) ok λo h1 TS=>DQ (K3 H h1).1 λf w Hf=>by refine C9 w ?_;exact FF (P:=λe=>Zc A env loc x _ e) (TS:vW o (vw env.scope) e=true) λid q l p ok=>DL ok λa h2 ok=>by exact C9 (Eh h2)<|yG Z Hf (P _ (K3 H h1).2) (band ok).1 (band ok).2 fr
    |succ=>exact ζ ok
theorem ND{q:Nat}{sc:Vw}{e:Expr}(h:Zd q os sc e=true):J4 e=true:=(band h).1
theorem kh(Z:Zt K c fa G A kk){keep:Bool}{p q iq:Nat}{Zu:List EJ}(HI:Yw c A (Zd iq Zu) fi)(H:Db c A o1 f)(Hs:Fy c A os fs):Db c A (WF (Zd iq Zu) p q o1 os) (Od keep fi p q f fs):=λ{e env loc x} ok fr=>DL ok λk h1 ok=>DL ok λg h2 ok=>by
 refine wr λZ0 z0=> ?_;refine D3 (Xe h1) λps w=> ?_;refine Dl (band ok) λa1 ok=> ?_;refine Dl (band ok) λa2 ok=> ?_;refine Dl (band ok) λa3 ok=> ?_;refine z0 ?_;refine C9 w<|C9 (J9 h2) ?_
 exact H9 (tY Z (HI a3 fr) (Q0 (ND a3) env) H Hs fr a1 a2 (band ok).1 (band ok).2) rfl
theorem lH(Z:Zt K c fa G A kk){p iq:Nat}{Zu:List EJ}(HI:Yw c A (Zd iq Zu) fi)(H:Db c A o1 f)(H2:Db c A o2 g):Db c A (Z5 n (Zd iq Zu) p o1 o2) (QO n fi p f g):=λ{e env loc x} ok fr=>DL ok λk h1 ok=>DL ok λg h2 ok=>by
 refine wr λZ0 z0=> ?_;refine D3 (YC h1) λps w=> ?_;refine Dl (band ok) λa0 ok=> ?_;refine Dl (band ok) λaz ok=> ?_;refine Dl (band ok) λa1 ok=> ?_;refine Dl (band ok) λa2 ok=> ?_;refine Dl (band ok) λa3 ok=> ?_;refine z0 ?_;refine C9 w<|C9 (J9 h2)<|C9 (AZ.mp az) ?_
 exact H9 (nq Z (HI a3 fr) (Q0 (ND a3) env) H H2 a0 fr a1 a2 (band ok).1 (band ok).2) rfl
structure Ck where
 t:Nat
 n:Nat
 e:EJ
 es:List EJ
def Ck.it(k:Ck):EJ:=Zd k.t k.es
def c1{κ α:Type}(l:List κ)(f:κ→Vw→α→Bool):Vw→α→Bool:=match l with
 | [a]=>f a
 |_=>λO O=>false
def c2{κ α:Type}(l:List κ)(f:κ→κ→Vw→α→Bool):Vw→α→Bool:=match l with
 | [a,b]=>f a b
 |_=>λO O=>false
def c3{κ α:Type}(l:List κ)(f:κ→κ→κ→Vw→α→Bool):Vw→α→Bool:=match l with
 | [a,b,d]=>f a b d
 |_=>λO O=>false
def c4{κ α:Type}(l:List κ)(f:κ→κ→κ→κ→Vw→α→Bool):Vw→α→Bool:=match l with
 | [a,b,d,e]=>f a b d e
 |_=>λO O=>false
def cC{κ α:Type}(l:List κ)(f:κ→List κ→Vw→α→Bool):Vw→α→Bool:=match l with
 |a::r=>f a r
 |_=>λO O=>false
def xU{κ α:Type}(l:List κ)(f:κ→κ→κ→List κ→Vw→α→Bool):Vw→α→Bool:=match l with
 |a::b::d::r=>f a b d r
 |_=>λO O=>false
end
section
mutual open A
variable{κ α β:Type}{Rl:κ→Nd→Prop}{P:(Vw→α→Bool)→(Di→Store→Option β)→Prop}{l:List κ}{m:List Nd}
theorem w1(hF: ∀g,P (λO O=>false) g)(H:DS Rl l m){f:κ→Vw→α→Bool}{g:Nd→Di→Store→Option β}(go: ∀a b,Rl a b→P (f a) (g b)):P (c1 l f) (ZX m g):=by
 cases H with
 |nil=>exact hF _
 |cons a H=>cases H with
  |nil=>exact go _ _ a
  |cons=>exact hF _
theorem w2(hF: ∀g,P (λO O=>false) g)(H:DS Rl l m){f:κ→κ→Vw→α→Bool}{g:Nd→Nd→Di→Store→Option β}(go: ∀a b a' b',Rl a b→Rl a' b'→P (f a a') (g b b')):P (c2 l f) (jZ m g):=by
 cases H with
 |nil=>exact hF _
 |cons a H=>cases H with
  |nil=>exact hF _
  |cons b H=>cases H with
   |nil=>exact go _ _ _ _ a b
   |cons=>exact hF _
theorem w3(hF: ∀g,P (λO O=>false) g)(H:DS Rl l m){f:κ→κ→κ→Vw→α→Bool}{g:Nd→Nd→Nd→Di→Store→Option β}(go: ∀a b a' b' SR Ss,Rl a b→Rl a' b'→Rl SR Ss→P (f a a' SR) (g b b' Ss)):P (c3 l f) (uG m g):=by
 cases H with
 |nil=>exact hF _
 |cons a H=>cases H with
  |nil=>exact hF _
  |cons b H=>cases H with
   |nil=>exact hF _
   |cons d H=>cases H with
    |nil=>exact go _ _ _ _ _ _ a b d
    |cons=>exact hF _
theorem w4(hF: ∀g,P (λO O=>false) g)(H:DS Rl l m){f:κ→κ→κ→κ→Vw→α→Bool}{g:Nd→Nd→Nd→Nd→Di→Store→Option β}(go: ∀a b a' b' SR Ss oG nh,Rl a b→Rl a' b'→Rl SR Ss→Rl oG nh→P (f a a' SR oG) (g b b' Ss nh)):P (c4 l f) (on4 m g):=by
 cases H with
 |nil=>exact hF _
 |cons a H=>cases H with
  |nil=>exact hF _
  |cons b H=>cases H with
   |nil=>exact hF _
   |cons d H=>cases H with
    |nil=>exact hF _
    |cons e H=>cases H with
     |nil=>exact go _ _ _ _ _ _ _ _ a b d e
     |cons=>exact hF _
theorem wC(hF: ∀g,P (λO O=>false) g)(H:DS Rl l m){f:κ→List κ→Vw→α→Bool}{g:Nd→List Nd→Di→Store→Option β}(go: ∀a b r r',Rl a b→DS Rl r r'→P (f a r) (g b r')):P (cC l f) (vn m g):=by
 cases H with
 |nil=>exact hF _
 |cons a H=>exact go _ _ _ _ a H
theorem wL(hF: ∀g,P (λO O=>false) g)(H:DS Rl l m){f:κ→κ→κ→List κ→Vw→α→Bool}{g:Nd→Nd→Nd→List Nd→Di→Store→Option β}(go: ∀a b a' b' SR Ss r r',Rl a b→Rl a' b'→Rl SR Ss→DS Rl r r'→P (f a a' SR r) (g b b' Ss r')):P (xU l f) (mA m g):=by
 cases H with
 |nil=>exact hF _
 |cons a H=>cases H with
  |nil=>exact hF _
  |cons b H=>cases H with
   |nil=>exact hF _
   |cons d H=>exact go _ _ _ _ _ _ _ _ a b d H
end
end
mutual open A
def qR(t n:Nat)(l:List Ck):EJ:=match t with
 |0=>nj n
 |1=>oGv n
 |2=>eX 2 n
 |3=>eX 3 n
 |4=>eX 4 n
 |5=>eX 5 n
 |6=>qy n
 |7=>rZ n
 |8=>c1 l λa=>jW n a.e
 |9=>c2 l λa b=>vY a.e b.e
 |10=>c1 l λa=>je n a.e
 |11=>c2 l λa b=>uV n a.e b.e
 |12=>c1 l λa=>rI a.e
 |13=>c2 l λa b=>uM n a.e b.e
 |14=>c3 l λa b d=>jK (n / 16) (n % 16) a.e b.e d.e
 |15=>aj true (l.map Ck.e)
 |16=>aj false (l.map Ck.e)
 |17=>c3 l λa b d=>sJ a.e b.e d.e
 |18=>kj (l.map Ck.e)
 |19=>ki (l.map Ck.e)
 |20=>ki (l.map Ck.e)
 |21=>ku n (l.map Ck.e)
 |22=>ku n (l.map Ck.e)
 |23=>Tz n (l.map Ck.e)
 |24=>Tz n (l.map Ck.e)
 |25=>Uz n (l.map Ck.e)
 |26=>Uz n (l.map Ck.e)
 |27=>c1 l λa=>de n a.e
 |28=>c1 l λa=>U9 n a.e
 |29=>c1 l λa=>U9 n a.e
 |30=>c1 l λa=>tj n a.e
 |31=>cC l λa r=>jR n a.e (r.map Ck.e)
 |32=>xU l λi p a r=>WF i.it p.t p.n a.e (r.map Ck.e)
 |33=>xU l λi p a r=>WF i.it p.t p.n a.e (r.map Ck.e)
 |34=>c4 l λi p a b=>Z5 n i.it p.t a.e b.e
 |35=>kj (l.map Ck.e)
 |_=>λO O=>false
def Ku:Expr→Bool
 | .ListComp .. =>true
 |_=>false
def ui(t n:Nat)(l:List Ck):Ck:=⟨t,n,λsc e=>RI e&&((!Ku e||(μ t 32||μ t 33))&&qR t n l sc e),l.map Ck.e⟩
structure xf{c:Cx}(A:Bs)(env:Env)(loc:Di)(x:St c)(f:Ev)(elt:Expr)(gens:List B6)(sc:CM)(pos:Pos):Prop where
 run: ∀{r DT} {use:Option (Bj→Sem Unit)} {Q:Bj→Bl→Prop},f loc x.σ=some (r,DT)→(∀keep vs us n (y:St c) Dd C,CE x Dd C (E3 us n) y→y.GC us vs→us.length≤big→Df keep .lst vs y.σ=some (r,DT)→C0 (Bq c.prog c.w) A Dq use Q (.ref Dd) C (.ok .next) y.s)→
  Bp (Bq c.prog c.w) A (Cr (.ListComp elt gens sc pos) sc env (firstIterPos gens pos) (newList []) (firstAsync gens) (firstIter gens env) use) Q Dq x.s
def UV(c:Cx)(A:Bs)(o:EJ)(f:Ev):Prop:= ∀{elt gens sc pos env loc} {x:St c},o (vw env.scope) (.ListComp elt gens sc pos)=true→FR env loc x→xf A env loc x f elt gens sc pos
theorem Z3(hh:A.handled=none){keep:Bool}{p q iq:Nat}{Zu:List EJ}(HI:Yw c A (Zd iq Zu) fi)(H:Db c A o1 f)(Hs:Fy c A os fs):UV c A (WF (Zd iq Zu) p q o1 os) (Od keep fi p q f fs):=λ{elt gens sc pos env loc x} ok fr=>DL (x:=nN _) ok λk h1 ok=>DL ok λg h2 ok=>⟨λ{r DT use Q} ev fin=>by
 rw [←η (show some (elt,gens,sc)=some k from h1)] at h2 ok;refine wr λZ0 z0=> ?_;refine Dl (band ok) λa1 ok=> ?_;refine Dl (band ok) λa2 ok=> ?_;refine Dl (band ok) λa3 ok=> ?_;refine z0 ?_;refine C9 (show gens= [⟨g.1,g.2.1,g.2.2,0⟩] from J9 h2) ?_;refine DP ev λl DD e1 ev=>DP ev λvs DK e2 ev=>TI (HI a3 fr) (Q0 (ND a3) env) H Hs hh fr a1 a2 (band ok).1 (band ok).2 e1 e2 λy Dd C us n ce ey hv hb=>fin keep vs us n y Dd C ce hv hb (ey.symm▸ev)⟩
structure Good(c:Cx)(A:Bs)(k:Ck)(d:Nd):Prop where
 t:k.t=d.t
 n:k.n=d.n
 e:Db c A k.e d.ev
 p:D8 k.e
 cp:UV c A k.e d.ev
 es:Fy c A k.es d.kids
 ps: ∀o∈k.es,D8 o
variable{l:List Ck}{m:List Nd}
theorem Il(H:DS (Good c A) l m):Fy c A (l.map Ck.e) (m.map Nd.ev):=by
 induction H with
 |nil=>exact .nil
 |cons a _ ih=>exact .cons a.e ih
theorem Qf(H:DS (Good c A) l m): ∀o∈l.map Ck.e,D8 o:=by
 induction H with
 |nil=>exact λo h=>absurd h Γ
 |cons a _ ih=>exact λo h=>(ν.mp h).elim (λw=>w▸a.p) (ih o)
theorem Ji(Z:Zt K c fa G A kk){a:Ck}{b:Nd}(H:Good c A a b):Yw c A a.it b.it:=λ{e env loc x} ok fr=>by
 have ok:Zd a.t a.es (vw env.scope) e=true:=ok;rw [H.t] at ok;exact sIt Z H.es H.ps ok fr
theorem Tf(g:Ev):Db c A (λO O=>false) g:=λh O=>ζ h
theorem noC(g:Ev):UV c A (λO O=>false) g:=λh O=>ζ h
theorem pW(Z:Zt K c fa G A kk)(H:DS (Good c A) l m)(t n:Nat):Db c A (qR t n l) (xw G t n m):=by
 have hE:=Il H;have hP:=Qf H;have hu:=Z.rm.u;refine Fr (λ{O O O O} ok fr=>zN ok fr) (λt=> ?_) t;refine Fr (λ{O O O O} ok fr=>sGv Z.B Z.T ok fr) (λt=> ?_) t;refine Fr (λ{O O O O} ok fr=>f6 (t:=2) ok fr) (λt=> ?_) t;refine Fr (λ{O O O O} ok fr=>f6 (t:=3) ok fr) (λt=> ?_) t;refine Fr (λ{O O O O} ok fr=>f6 (t:=4) ok fr) (λt=> ?_) t;refine Fr (λ{O O O O} ok fr=>f6 (t:=5) ok fr) (λt=> ?_) t;refine Fr (λ{O O O O} ok fr=>zS ok fr) (λt=> ?_) t;refine Fr (λ{O O O O} ok fr=>yY ok fr) (λt=> ?_) t;refine Fr (λ{O O O O} ok fr=>(w1 (P:=Db c A) Tf H λa b A {O O O O} h fr=>qa Z.B A.e h fr) ok fr) (λt=> ?_) t;refine Fr (λ{O O O O} ok fr=>(w2 (P:=Db c A) Tf H λa b a' b' A B {O O O O} h fr=>xg (by exact uJ hu rfl) A.e B.e h fr) ok fr) (λt=> ?_) t;refine Fr (λ{O O O O} ok fr=>(w1 (P:=Db c A) Tf H λa b A {O O O O} h fr=>qg A.e h fr) ok fr) (λt=> ?_) t;refine Fr (λ{O O O O} ok fr=>(w2 (P:=Db c A) Tf H λa b a' b' A B {O O O O} h fr=>zq A.e B.e h fr) ok fr) (λt=> ?_) t;refine Fr (λ{O O O O} ok fr=>(w1 (P:=Db c A) Tf H λa b A {O O O O} h fr=>zG A.e h fr) ok fr) (λt=> ?_) t;refine Fr (λ{O O O O} ok fr=>(w2 (P:=Db c A) Tf H λa b a' b' A B {O O O O} h fr=>yb (by exact uJ hu rfl) A.e B.e h fr) ok fr) (λt=> ?_) t;refine Fr (λ{O O O O} ok fr=>(w3 (P:=Db c A) Tf H λa b a' b' SR Ss A B C {O O O O} h fr=>t8 (by exact uJ hu rfl) A.e B.e C.e h fr) ok fr) (λt=> ?_) t;refine Fr (λ{O O O O} ok fr=>jV true hE ok fr) (λt=> ?_) t;refine Fr (λ{O O O O} ok fr=>jV false hE ok fr) (λt=> ?_) t;refine Fr (λ{O O O O} ok fr=>(w3 (P:=Db c A) Tf H λa b a' b' SR Ss A B C {O O O O} h fr=>zw A.e B.e C.e h fr) ok fr) (λt=> ?_) t;refine Fr (λ{O O O O} ok fr=>sU hE hP ok fr) (λt=> ?_) t;refine Fr (λ{O O O O} ok fr=>rL hE hP ok fr) (λt=> ?_) t;refine Fr (λ{O O O O} ok fr=>rL hE hP ok fr) (λt=> ?_) t;refine Fr (λ{O O O O} ok fr=>rh Z hE ok fr) (λt=> ?_) t;refine Fr (λ{O O O O} ok fr=>rh Z hE ok fr) (λt=> ?_) t;refine Fr (λ{O O O O} ok fr=>dT Z hE hP ok fr) (λt=> ?_) t;refine Fr (λ{O O O O} ok fr=>dT Z hE hP ok fr) (λt=> ?_) t;refine Fr (λ{O O O O} ok fr=>aP Z hE hP ok fr) (λt=> ?_) t;refine Fr (λ{O O O O} ok fr=>aP Z hE hP ok fr) (λt=> ?_) t;refine Fr (λ{O O O O} ok fr=>(w1 (P:=Db c A) Tf H λa b A {O O O O} h fr=>lj Z A.e A.p h fr) ok fr) (λt=> ?_) t;refine Fr (λ{O O O O} ok fr=>(w1 (P:=Db c A) Tf H λa b A {O O O O} h fr=>eV Z A.e A.p h fr) ok fr) (λt=> ?_) t;refine Fr (λ{O O O O} ok fr=>(w1 (P:=Db c A) Tf H λa b A {O O O O} h fr=>eV Z A.e A.p h fr) ok fr) (λt=> ?_) t;refine Fr (λ{O O O O} ok fr=>(w1 (P:=Db c A) Tf H λa b A {O O O O} h fr=>yr Z A.e A.p h fr) ok fr) (λt=> ?_) t;refine Fr (λ{O O O O} ok fr=>(wC (P:=Db c A) Tf H λa b r r' A R {O O O O} h fr=>tI Z A.e (Il R) (Qf R) h fr) ok fr) (λt=> ?_) t;refine Fr (λ{O O O O} ok fr=>(wL (P:=Db c A) Tf H λa b a' b' SR Ss r r' A B C R {O O O O} h fr=>by rw [B.t,B.n] at h;exact kh Z (Ji Z A) C.e (Il R) h fr) ok fr) (λt=> ?_) t;refine Fr (λ{O O O O} ok fr=>(wL (P:=Db c A) Tf H λa b a' b' SR Ss r r' A B C R {O O O O} h fr=>by rw [B.t,B.n] at h;exact kh Z (Ji Z A) C.e (Il R) h fr) ok fr) (λt=> ?_) t;refine Fr (λ{O O O O} ok fr=>(w4 (P:=Db c A) Tf H λa b a' b' SR Ss oG nh A B C D {O O O O} h fr=>by rw [B.t] at h;exact lH Z (Ji Z A) C.e D.e h fr) ok fr) (λt=> ?_) t;refine Fr (λ{O O O O} ok fr=>sU hE hP ok fr) (λt=> ?_) t;exact λ{O O O O} ok O=>ζ ok
theorem lM(Z:Zt K c fa G A kk)(H:DS (Good c A) l m){t n:Nat}(ht:(μ t 32||μ t 33)=true):UV c A (qR t n l) (xw G t n m):=λ{elt gens sc pos env loc x} ok fr=>by
 rcases bor ht with w|w
 ·rw [nb w] at ok ⊢
  exact (wL (P:=UV c A) noC H λa b a' b' SR Ss r r' A B C R {O O O O O O O} h fr=>by rw [B.t,B.n] at h;exact Z3 Z.rm.handled (Ji Z A) C.e (Il R) h fr) ok fr
 ·rw [nb w] at ok ⊢
  exact (wL (P:=UV c A) noC H λa b a' b' SR Ss r r' A B C R {O O O O O O O} h fr=>by rw [B.t,B.n] at h;exact Z3 Z.rm.handled (Ji Z A) C.e (Il R) h fr) ok fr
theorem fJ(Z:Zt K c fa G A kk)(H:DS (Good c A) l m)(t n:Nat):Good c A (ui t n l) (mT G t n m):=
 ⟨rfl,rfl,λok fr=>pW Z H t n (band (band ok).2).2 fr,λO O h=>(band h).1,λ{elt gens sc pos env loc x} ok fr=>lM Z H (band (show ((μ t 32||μ t 33)&&qR t n l (vw env.scope) (.ListComp elt gens sc pos))=true from ok)).1 (band (show ((μ t 32||μ t 33)&&qR t n l (vw env.scope) (.ListComp elt gens sc pos))=true from ok)).2 fr,Il H,Qf H⟩
end
end
section
mutual open A
structure Jo{c:Cx}(env:Env)(x y:St c):Prop where
 kf: ∀b o,x.hf b=some o→y.hf b=some o
 JX: ∀(i:Nat) p,x.ρ[i]?=some p→y.ρ[i]?=some p
 Ee: ∀b o,x.s.heap.get? b=some o→(∀p∈x.ρ,p.2≠b)→ ¬NO env b→y.s.heap.get? b=some o
 FA: ∀b o,y.hf b=some o→x.hf b=some o∨(∃p∈x.ρ,p.2=b)∨x.s.heap.get? b=none
 EE: ∀p∈y.ρ,(∃q∈x.ρ,q.2=p.2)∨x.s.heap.get? p.2=none
 there: ∀b,NO env b→(∃o,x.s.heap.get? b=some o)→ ∃o,y.s.heap.get? b=some o
 sm:GB x.s y.s
def NF(env:Env):Prop:= ∀id,env.kindOf id≠some .free
def ay:Nat→Cd
 |0=> .next
 |1=> .brk
 |_=> .cont
end
section
mutual open A
variable{c:Cx}{A:Bs}{s:Bl}{E:Bj→Bl→Prop}{x y z:St c}{env:Env}{loc:Di}{f g h:Ev}{e:Expr}{a b:Ex}
theorem Jo.refl:Jo env x x:=⟨λO O e=>e,λO O e=>e,λO O e O O=>e,λO O e=> .inl e,λp e=> .inl (DM p e rfl),λO O e=>e, .refl _⟩
theorem Jo.back(l:Jo env x y){b:Br}(e:y.s.heap.get? b=none):(∃p∈x.ρ,p.2=b)∨x.s.heap.get? b=none:=by
 by_cases q: ∃p∈x.ρ,p.2=b
 ·exact .inl q
 ·cases z:x.s.heap.get? b with
  |none=>exact .inr rfl
  |some o=>
   by_cases w:NO env b
   ·refine D3 (l.there b w (EF o z)) λo' Jx=> ?_
    exact DC (e.symm.trans Jx)
   ·exact DC (e.symm.trans (l.Ee b o z (λp hp y=>q (DM p hp y)) w))
theorem Jo.trans(l:Jo env x y)(m:Jo env y z):Jo env x z:=by
 refine ⟨λb o e=>m.kf b o (l.kf b o e),λi p e=>m.JX i p (l.JX i p e),λb o e n nx=>m.Ee b o (l.Ee b o e n nx) (λp hp q=> ?_) nx,λb o e=> ?_,λp hp=> ?_,λb hb e=>m.there b hb (l.there b hb e),l.sm.trans m.sm⟩
 ·rcases l.EE p hp with ⟨r,hr,w⟩|w
  ·exact n r hr (w.trans q)
  ·exact DC (w.symm.trans (q▸e))
 ·rcases m.FA b o e with w|⟨p,hp,w⟩|w
  ·exact l.FA b o w
  ·rcases l.EE p hp with ⟨q,hq,e⟩|q
   ·exact .inr (.inl (DM q hq (e.trans w)))
   ·exact .inr (.inr (w▸q))
  ·exact .inr (l.back w)
 ·rcases m.EE p hp with ⟨r,hr,w⟩|w
  ·exact w▸l.EE r hr
  ·exact l.back w
theorem Le.X(l:Le x y)(fr:FR env loc x):Jo env x y:=
 ⟨l.nx.kf,l.nx.JX,λb o e n O=>l.nx.Ee b o e n,l.nx.FA,l.nx.EE,λb w ⟨o,e⟩=>(EF o (l.nx.Ee b o e (fr.Ee b w).2)),l.sm⟩
theorem gx{DG:Di}{s':Bl}{R:F5 c x.hf x.ρ x.σ s'.heap}(k: ∀b o,¬NO env b→x.s.heap.get? b=some o→s'.heap.get? b=some o)(fr:FR env DG ⟨x.hf,x.ρ,x.σ,s',R⟩)(sm:GB x.s s'):Jo env x ⟨x.hf,x.ρ,x.σ,s',R⟩:=
 ⟨λO O e=>e,λO O e=>e,λb o e O n=>k b o n e,λO O e=> .inl e,λp hp=> .inl (DM p hp rfl),λb w O=>fr.ex w,sm⟩
theorem X8(fr:FR env loc x){id:Str}(h:seen (vw env.scope) id=true)(nf:NF env):env.kindOf id=some .local∨(env.kindOf id=some .cell∧(env.cells.lookup id).isSome=true):=by
 unfold seen at h;have cf:=fr.S.cf id;have nf:=nf id;unfold vw at h cf;unfold Env.kindOf at nf ⊢;cases q:env.scope.names.lookup id with
 |none=>rw [q] at h;exact ζ h
 |some kd=>
  rw [q] at h cf nf;cases kd with
  |«local»=>exact .inl rfl
  |cell=>exact .inr ⟨rfl,cf rfl⟩
  |free=>exact absurd rfl nf
  |_=>exact ζ h
theorem IU{a:Nat}{v:V}{val:Bj}{Q:Unit→Bl→Prop}(Jz:Μ a Fw.length=true)(ok3:seen (vw env.scope) (nm a)=true)(nf:NF env)(fr:FR env loc x)(hv:x.VV val v)
  (h: ∀s' (R:F5 c x.hf x.ρ x.σ s'.heap),FR env (DR loc a v) ⟨x.hf,x.ρ,x.σ,s',R⟩→Jo env x ⟨x.hf,x.ρ,x.σ,s',R⟩→Q () s'):Bp (Bq c.prog c.w) A (storeName env (nm a) val) Q E x.s:=
 S7 fr (Ds.mp Jz) (X8 fr ok3 nf) hv λs' R I8 k sm=>h s' R I8 (gx k I8 sm)
def VT(env:Env)(x:St c)(out:HW)(Q:Cd→Bl→Prop):Prop:=match out with
 | .go n loc σ=> ∀y:St c,Jo env x y→y.σ=σ→FR env loc y→Q (ay n) y.s
 | .ret v σ=> ∀val (y:St c),Jo env x y→y.σ=σ→y.VV val v→Q (.ret val) y.s
theorem VT.after{out:HW}{Q:Cd→Bl→Prop}(k:VT env x out Q)(l:Jo env x y):VT env y out Q:=by
 cases out with
 |go=>exact λz m e fr=>k z (l.trans m) e fr
 |ret=>exact λv z m e fr=>k v z (l.trans m) e fr
structure StG{c:Cx}(A:Bs)(env:Env)(loc:Di)(x:St c)(a:Ex)(st:CC):Prop where
 run: ∀{out} {Q:Cd→Bl→Prop},a loc x.σ=some out→VT env x out Q→Bp (Bq c.prog c.w) A (PySem.exec st env) Q Dq x.s
structure BlG{c:Cx}(A:Bs)(env:Env)(loc:Di)(x:St c)(a:Ex)(l:List CC):Prop where
 run: ∀{out} {Q:Cd→Bl→Prop},a loc x.σ=some out→VT env x out Q→Bp (Bq c.prog c.w) A (PySem.execs l env) Q Dq x.s
abbrev OT:=Vw→CC→Bool
abbrev gT:=Vw→List CC→Bool
def Fx(c:Cx)(A:Bs)(o:OT)(a:Ex):Prop:= ∀{st env loc} {x:St c},o (vw env.scope) st=true→NF env→FR env loc x→StG A env loc x a st
def Ri(c:Cx)(A:Bs)(o:gT)(a:Ex):Prop:= ∀{l env loc} {x:St c},o (vw env.scope) l=true→NF env→FR env loc x→BlG A env loc x a l
theorem Es{out:HW}{Q:Cd→Bl→Prop}{n:Nat}{DG:Di}{σ:Store}(k:VT env x out Q)(e:some (HW.go n DG σ)=some out): ∀y:St c,Jo env x y→y.σ=σ→FR env DG y→Q (ay n) y.s:=by cases e;exact k
theorem SJ{out:HW}{Q:Cd→Bl→Prop}{v:V}{σ:Store}(k:VT env x out Q)(e:some (HW.ret v σ)=some out): ∀val (y:St c),Jo env x y→y.σ=σ→y.VV val v→Q (.ret val) y.s:=by cases e;exact k
def Oe(sc:Vw):List OT→List CC→Bool
 | [], []=>true
 |o::os,st::r=>o sc st&&Oe sc os r
 |_,_=>false
theorem PK{sc:Vw}{o:OT}{os:List OT}{l:List CC}(h:Oe sc (o::os) l=true): ∃st r,l=st::r∧o sc st=true∧Oe sc os r=true:=by
 cases l with
 |nil=>exact ζ h
 |cons st r=>exact (Gp st r rfl (band h))
theorem TJ{sc:Vw}{l:List CC}(h:Oe sc [] l=true):l= []:=by
 cases l with
 |nil=>rfl
 |cons=>exact ζ h
theorem X6{o:Option HW}{k:Di→Store→Option HW}{r:HW}{P:Prop}(e:VG o k=some r)(h1: ∀loc σ,o=some (.go 0 loc σ)→k loc σ=some r→P)(h2:o=some r→(∀{c:Cx} {env} {x:St c} {Q:Cd→Bl→Prop},VT env x r Q→VT env x r λfl s=>Q fl s∧fl≠ .next)→P):P:=by
 refine DA e λout h e=> ?_;cases out with
 |ret v σ=>exact h2 (h.trans e) (by cases e;exact λk val y l ey hv=>⟨k val y l ey hv,λz=>Cd.noConfusion z⟩)
 |go n loc σ=>cases n with
  |zero=>exact h1 loc σ h e
  |succ n=>exact h2 (h.trans e) (by
    cases e;refine λk y l ey fr=>⟨k y l ey fr,λz=> ?_⟩;cases n with
    |zero=>exact Cd.noConfusion z
    |succ=>exact Cd.noConfusion z)
theorem cm{os:List OT}{as:List Ex}(H:DS (Fx c A) os as):Ri c A (λsc=>Oe sc os) (Yh as):=by
 induction H with
 |nil=>
  exact λ{l env loc x} ok nf fr=>⟨λev k=>by
   refine C9 (TJ ok) ?_;exact Bn (Es k ev x .refl rfl fr)⟩
 |cons H1 _ ih=>
  exact λ{l env loc x} ok nf fr=>⟨λ{out Q} ev k=>by
   refine D0 (PK ok) λst r w G2 Jz=> ?_;refine C9 w ?_
   show Bp _ _ (do
    match←PySem.exec st env with
    | .next=>PySem.execs r env
    |f=>pure f) _ _ _
   refine Bk ?_;refine X6 ev (λDG DT e1 ev=>(H1 G2 nf fr).run e1 λy l ey fy=>(ih Jz nf fy).run (ey.symm▸ev) (k.after l)) λe1 k'=> ?_;refine Bu ((H1 G2 nf fr).run e1 (k' k)) (λfl D6 h=> ?_) λO O x=>x;cases fl with
   |next=>exact absurd rfl h.2
   |_=>exact Bn h.1⟩
set_option genInjectivity false in
set_option genSizeOf false in
set_option genSizeOfSpec false in
structure wO where
 t:Nat
 a:Expr
 b:Expr
 x:Option Expr
 l:List Expr
 s:List CC
 r:List CC
 q:List CC
 h:List ExceptHandler
 p:Pos
def e0:Expr:= .Name "" default
def qK(e:CC):wO:=match e with
 | .Return x p=>⟨1,e0,e0,x, [], [], [], [], [],p⟩
 | .Assign l a p=>⟨2,a,e0,none,l, [], [], [], [],p⟩
 | .If a s r p=>⟨3,a,e0,none, [],s,r, [], [],p⟩
 | .For a b s r p=>⟨4,a,b,none, [],s,r, [], [],p⟩
 | .While a s r p=>⟨5,a,e0,none, [],s,r, [], [],p⟩
 | .Expr a p=>⟨6,a,e0,none, [], [], [], [], [],p⟩
 | .Try s h r q p=>⟨7,e0,e0,none, [],s,r,q,h,p⟩
 |_=>⟨0,e0,e0,none, [], [e], [], [], [],default⟩
def unS(t:Nat)(w:wO):CC:=cond (μ t 1) (.Return w.x w.p) (cond (μ t 2) (.Assign w.l w.a w.p) (cond (μ t 3) (.If w.a w.s w.r w.p) (cond (μ t 4) (.For w.a w.b w.s w.r w.p) (cond (μ t 5) (.While w.a w.s w.r w.p) (cond (μ t 6) (.Expr w.a w.p) (cond (μ t 7) (.Try w.s w.h w.r w.q w.p) (w.s.headD (.Pass w.p))))))))
theorem lY(e:CC):unS (qK e).t (qK e)=e:=by cases e<;>rfl
def oS{α:Type}(t:Nat)(f:wO→Option α)(e:CC):Option α:=cond (μ (qK e).t t) (f (qK e)) none
theorem IT{α:Type}{t:Nat}{f:wO→Option α}{e:CC}{k:α}{P:Prop}(h:oS t f e=some k)(g: ∀w,e=unS t w→f w=some k→P):P:=by
 unfold oS at h;cases q:μ (qK e).t t with
 |false=>rw [q] at h;exact DC h
 |true=>rw [q] at h;exact g (qK e) (AO q▸(lY e).symm) h
theorem NS{α:Type}{b:Bool}{x:Option α}{k:α}{P:Prop}(h:cond b x none=some k)(g:b=true→x=some k→P):P:=by
 cases b with
 |true=>exact g rfl h
 |false=>exact DC h
def jJ:CC→Option Expr:=oS 1 (·.x)
def Pf:CC→Option (Expr×Expr×Pos):=oS 2 λw=>DN (only w.l) λt=>some (t,w.a,w.p)
def vP:CC→Option (Expr×List CC×List CC):=oS 3 λw=>some (w.a,w.s,w.r)
def jm:CC→Option (Expr×Expr×List CC):=oS 4 λw=>cond w.r.isEmpty (some (w.a,w.b,w.s)) none
def jp:CC→Option (Expr×List CC):=oS 5 λw=>cond w.r.isEmpty (some (w.a,w.s)) none
def ax:CC→Option Expr:=oS 6 λw=>some w.a
def kH:CC→Option (List CC):=oS 7 λw=>cond (w.r.isEmpty&&(w.q.isEmpty&& !w.h.isEmpty)) (some w.s) none
def nH:CC→Bool
 | .Continue _=>true
 |_=>false
def rj:CC→Bool
 | .Break _=>true
 |_=>false
def gE:CC→Bool
 | .Raise .. =>true
 |_=>false
theorem UE{st:CC}{k}(h:jJ st=some k): ∃p,st= .Return (some k) p:=IT h λw a b=>(EF w.p (b▸a))
theorem GZ{st:CC}{k}(h:Pf st=some k):st= .Assign [k.1] k.2.1 k.2.2:=IT h λw a b=>DA b λt h1 h2=>by
 have a:st= .Assign w.l w.a w.p:=a;rw [Eh h1] at a;exact Dr (η h2) a
theorem YT{st:CC}{k}(h:vP st=some k): ∃p,st= .If k.1 k.2.1 k.2.2 p:=IT h λw a b=>(EF w.p (η b▸a))
theorem T2{st:CC}{k}(h:jm st=some k): ∃p,st= .For k.1 k.2.1 k.2.2 [] p:=IT h λw a b=>NS b λh1 h2=>by
 have a:st= .For w.a w.b w.s w.r w.p:=a;rw [AZ.mp h1] at a;exact (EF w.p (η h2▸a))
theorem U1{st:CC}{k}(h:jp st=some k): ∃p,st= .While k.1 k.2 [] p:=IT h λw a b=>NS b λh1 h2=>by
 have a:st= .While w.a w.s w.r w.p:=a;rw [AZ.mp h1] at a;exact (EF w.p (η h2▸a))
theorem OD{st:CC}{k}(h:ax st=some k): ∃p,st= .Expr k p:=IT h λw a b=>(EF w.p (η b▸a))
theorem VW{st:CC}{k}(h:kH st=some k): ∃a l p,st= .Try k (a::l) [] [] p:=IT h λw a b=>NS b λh1 h2=>by
 have a:st= .Try w.s w.h w.r w.q w.p:=a;rw [AZ.mp (band h1).1,AZ.mp (band (band h1).2).1,η h2] at a;cases q:w.h with
 |nil=>rw [q] at h1;exact ζ (band (band h1).2).2
 |cons x l=>rw [q] at a;exact (MT x l w.p a)
end
end
end
section
mutual open A
variable{c:Cx}{A:Bs}{s:Bl}{E:Bj→Bl→Prop}{x y z:St c}{K:B4}{env:Env}{loc:Di}{f g h:Ev}{o1 o2 o3:EJ}{e:Expr}{a b:Ex}{sa sb:gT}{n:Nat}
def u0(o1:EJ):OT:=λsc st=>oB (jJ st) λe=>o1 sc e
def oIf(o1:EJ)(sa sb:gT):OT:=λsc st=>oB (vP st) λp=>o1 sc p.1&&(sa sc p.2.1&&sb sc p.2.2)
def tu(sa:gT):OT:=λsc st=>oB (kH st) λl=>sa sc l
def jX:OT:=λO st=>nH st
def rW:OT:=λO st=>rj st
def jL:OT:=λO st=>gE st
theorem xK(H:Db c A o1 f):Fx c A (u0 o1) (lE f):=λ{st env loc x} ok nf fr=>DL ok λe h1 ok=>⟨λ{out Q} ev k=>by
 refine D3 (UE h1) λp w=> ?_;refine C9 w<|C9 (arm_exec_Return _ _ _) ?_
 refine Bk (Bv ?_);show Bp _ _ (eval e env>>=λa=>pure (Cd.ret a)) _ _ _;exact Bk ((H ok fr).1.EI ev fr λval y v l hv fy ev=>Bn (SJ k ev val y (l.X fr) rfl hv))⟩
theorem tIf(H:Db c A o1 f)(Ha:Ri c A sa a)(Hb:Ri c A sb b):Fx c A (oIf o1 sa sb) (zi f a b):=λ{st env loc x} ok nf fr=>DL ok λp h1 ok=>⟨λ{out Q} ev k=>by
 refine D3 (YT h1) λps w=> ?_;refine C9 w<|C9 (arm_exec_If _ _ _ _ _) ?_
 refine DP ev λv σ e1 ev=>DA ev λq e2 ev=>Bk (Bv (Bk ((H (band ok).1 fr).2.run e1 e2 λy l ey=> ?_)));cases q with
 |true=>exact C9 (if_pos rfl)<|(Ha (band (band ok).2).1 nf (fr.J0 l)).run (ey.symm▸ev) (k.after (l.X fr))
 |false=>exact C9 (if_neg (by decide))<|(Hb (band (band ok).2).2 nf (fr.J0 l)).run (ey.symm▸ev) (k.after (l.X fr))⟩
theorem yN(Ha:Ri c A sa a):Fx c A (tu sa) a:=λ{st env loc x} ok nf fr=>DL ok λp h1 ok=>⟨λ{out Q} ev k=>by
 refine S5 (VW h1) λhd hs ps w=> ?_;refine C9 w ?_;refine wpAny_Try_except (Bu ((Ha ok nf fr).run ev k) (λfl D6 h=> ?_) λO O x=>x.elim);cases fl with
 |next=>exact Bn h
 |_=>exact h⟩
theorem uY:Fx c A jX λloc σ=>some (.go 2 loc σ):=λ{st env loc x} ok nf fr=>⟨λev k=>by
 cases st with
 |Continue=>exact wpAny_Continue (Es k ev x .refl rfl fr)
 |_=>exact ζ ok⟩
theorem yF:Fx c A rW λloc σ=>some (.go 1 loc σ):=λ{st env loc x} ok nf fr=>⟨λev k=>by
 cases st with
 |Break=>exact wpAny_Break (Es k ev x .refl rfl fr)
 |_=>exact ζ ok⟩
theorem tNo{o:OT}:Fx c A o λO O=>none:=λ{st env loc x} ok nf fr=>⟨λev k=>DC ev⟩
def Vz:Expr→Bool
 | .Call .. =>true
 |_=>false
theorem Mz(fr:FR env loc x):interactive env=false:=by
 unfold interactive;exact C9 fr.S.kind rfl
theorem PB{v:Expr}{pos:Pos}{Q:Cd→Bl→Prop}(hc:Vz v=true)(fr:FR env loc x)(h:Bp (Bq c.prog c.w) A (eval v env) (λu D6=>u= .none∧Q .next D6) E s):Bp (Bq c.prog c.w) A (PySem.exec (.Expr v pos) env) Q E s:=by
 refine C9 (arm_exec_Expr _ _ _) ?_;refine Bk (Bv ?_);refine C9 (Mz fr)<|C9 (if_neg (by decide)) ?_
 have sw:CP v none pos.line env=pure false:=by cases v<;>first|rfl|exact ζ hc
 refine C9 sw ?_;refine Bk (Bn ?_);refine C9 (if_neg (by decide)) ?_;refine Bk (Bu h (λu D6 hu=> ?_) λO O x=>x);refine C9 hu.1 ?_;have dv: ∀{pos},dropValue v pos .none=pure .next:=λ{pos}=>by cases v<;>first|rfl|exact ζ hc
 refine C9 dv ?_;exact Bn hu.2
def oEx(o1:EJ):OT:=λsc st=>oB (ax st) λe=>Vz e&&o1 sc e
theorem eG{v:V}(h:isNone v=true):v= .d .none:=by
 cases v with
 |cell=>exact ζ h
 |d d=>cases d<;>first|rfl|exact ζ h
theorem dg{u:Bj}(h:x.VV u (.d .none)):u= .none:=by
 have h:DV c x.hf u .none:=h;cases h;rfl
theorem tEx(H:Db c A o1 f):Fx c A (oEx o1) (zh f):=λ{st env loc x} ok nf fr=>DL ok λe h1 ok=>⟨λ{out Q} ev k=>by
 refine D3 (OD h1) λp w=> ?_;refine C9 w ?_;refine PB (band ok).1 fr ((H (band ok).2 fr).1.EI ev fr λval y v l hv fy ev=>DY ev λh2 ev=> ?_);rw [eG h2] at hv;exact ⟨dg hv,Es k ev y (l.X fr) rfl fy⟩⟩
theorem IZ{t v:Expr}{pos:Pos}{Q:Cd→Bl→Prop}(h1:CP v (some t) pos.line env=pure false)(h2:CR [t] v env=pure none)(ht:Ca [t] env= [(false,assign t env)])
  (h:Bp (Bq c.prog c.w) A (eval v env) (λu D6=>Bp (Bq c.prog c.w) A (assign t env u) (λO Ej=>Q .next Ej) E D6) E s):Bp (Bq c.prog c.w) A (PySem.exec (.Assign [t] v pos) env) Q E s:=by
 refine C9 (arm_exec_Assign _ _ _ _) ?_;refine Bk (Bv (Bk ?_));show Bp _ _ (CP v (some t) pos.line env) _ _ _;refine C9 h1 ?_;refine Bn ?_;refine C9 (if_neg (by decide)) ?_;refine Bk (Bu h (λu D6 hu=> ?_) λO O x=>x);refine C9 h2<|C9 ht ?_
 refine Bk (Bn ?_);show Bp _ _ (do assign t env u;pure Cd.next) _ _ _;exact Bk (Bu hu (λO Ej hq=>Bn hq) λO O x=>x)
theorem OP{v:Expr}{o:Expr}{attr:Str}{ap:Pos}{line:Nat}:CP v (some (.Attribute o attr ap)) line env=pure false:=by cases v<;>rfl
theorem YI{v:Expr}{o i:Expr}{ap:Pos}{line:Nat}:CP v (some (.Subscript o i ap)) line env=pure false:=by cases v<;>rfl
def Wl(n:Nat)(o1 o2:EJ):OT:=λsc st=>oB (Pf st) λp=>oB (Qc p.1) λq=>EQ q.2 (nm n)&&(o1 sc p.2.1&&o2 sc q.1)
def jg(o1 o2 o3:EJ):OT:=λsc st=>oB (Pf st) λp=>oB (P' p.1) λq=>o1 sc p.2.1&&(o2 sc q.1&&o3 sc q.2)
theorem V'{DT:Store}{out:HW}{Q:Cd→Bl→Prop}(fr:FR env loc x)(k:VT env x out Q)(e:some (HW.go 0 loc DT)=some out)(l:Le x y):Did y DT (Q .next):=λz m ez=>Es k e z ((l.trans m).X fr) ez (fr.J0 (l.trans m))
theorem uS(B:I2 K c)(H1:Db c A o1 f)(H2:Db c A o2 g):Fx c A (Wl n o1 o2) (Z4 n f g):=λ{st env loc x} ok nf fr=>DL ok λp h1 ok=>DL ok λq h2 ok=>⟨λ{out Q} ev k=>by
 refine D3 (Ig h2) λap w2=> ?_;refine C9 (GZ h1)<|C9 w2<|C9 (EH (band ok).1) ?_
 refine IZ OP rfl rfl ((H1 (band (band ok).2).1 fr).1.EI ev fr λval y v l hv fy ev=> ?_);refine C9 (arm_assign_Attribute _ _ _ _ _) ?_;refine Bk (Bt ((H2 (band (band ok).2).2 fy).1.EI ev fy λoval z ov m ho fz ev=>DA ev λDy e3 ev=> ?_));exact Bk (Bv (Bk (Bt (Om B.F.toKF B.X ho (VV.le hv m) e3 λu n ez=>Ct (V' fr k ev (l.trans m) u n ez)))))⟩
theorem vM(hu:A.units+70<B3)(H1:Db c A o1 f)(H2:Db c A o2 g)(H3:Db c A o3 h):Fx c A (jg o1 o2 o3) (cV f g h):=λ{st env loc x} ok nf fr=>DL ok λp h1 ok=>DL ok λq h2 ok=>⟨λ{out Q} ev k=>by
 refine D3 (JK h2) λap w2=> ?_;refine C9 (GZ h1)<|C9 w2 ?_
 refine IZ YI rfl rfl ((H1 (band ok).1 fr).1.EI ev fr λval y v l hv fy ev=> ?_);refine C9 (arm_assign_Subscript _ _ _ _ _) ?_;refine Bk (Bt ((H2 (band (band ok).2).1 fy).1.EI ev fy λoval z ov m ho fz ev=> ?_));refine Bk (Bt ((H3 (band (band ok).2).2 fz).1.EI ev fz λival u iv r hi fu ev=>DA ev λDy e3 ev=> ?_));exact Bk (Bv (Bk (Bt (Ox (by exact uJ hu rfl) (VV.le ho r) hi (VV.le (VV.le hv m) r) e3 λu n ez=>Ct (V' fr k ev (l.trans (m.trans r)) u n ez)))))⟩
end
end
section
mutual open A
variable{c:Cx}{A:Bs}{s:Bl}{x y z:St c}{K:B4}{env:Env}{loc:Di}{f g h:Ev}{o1 o2:EJ}{e:Expr}{a b:Ex}{fa:Nat→Br}{G:HR}{kk n:Nat}
def Wb:Expr→Bool
 | .DictComp .. =>false
 | .SetComp .. =>false
 |_=>true
theorem Uo{elt:Expr}{gens:List B6}{sc:CM}{X0 GQ:Pos}{id:Str}{line:Nat}: ∃b,CP (.ListComp elt gens sc X0) (some (.Name id GQ)) line env=pure b:=(EF _ rfl)
theorem YZ{v:Expr}{t:Expr}{line:Nat}(h1:Ku v=false)(h2:Wb v=true):CP v (some t) line env=pure false:=by
 cases v<;>first|rfl|exact ζ h1|exact ζ h2
theorem dR{v:Expr}(h:Ku v=true): ∃elt gens sc pos,v= .ListComp elt gens sc pos:=by cases v<;>first|exact (oN _ _ _ _ rfl)|exact ζ h
theorem Jo.off{C:Br}(l:Jo env x y)(hC:x.s.heap.get? C=none){s':Bl}(k: ∀b o,b≠C→y.s.heap.get? b=some o→s'.heap.get? b=some o)(sm:GB y.s s')(R:F5 c y.hf y.ρ y.σ s'.heap):Jo env x ⟨y.hf,y.ρ,y.σ,s',R⟩:=
 ⟨l.kf,l.JX,λb o e n nx=>k b o (λz=>DC (hC.symm.trans (z▸e))) (l.Ee b o e n nx),l.FA,l.EE,λb hb ⟨o,e⟩=>D3 (l.there b hb (EF o e)) λo' e'=>(EF o' (k b o' (λz=>DC (hC.symm.trans (z▸e))) e')),l.sm.trans sm⟩
def uW(n:Nat)(o1:EJ):OT:=λsc st=>oB (Pf st) λp=>oB (Lp p.1) λid=>EQ id (nm n)&&(Μ n Fw.length&&(seen sc (nm n)&&(Wb p.2.1&&o1 sc p.2.1)))
theorem Ph{v:Expr}{GQ pos:Pos}{out:HW}{Q:Cd→Bl→Prop}(H:Db c A o1 f)(hs:CP v (some (.Name (nm n) GQ)) pos.line env=pure false)(a2:Μ n Fw.length=true)(a3:seen (vw env.scope) (nm n)=true)(ok:o1 (vw env.scope) v=true)(nf:NF env)(fr:FR env loc x)(ev:hO n f loc x.σ=some out)(k:VT env x out Q):Bp (Bq c.prog c.w) A (PySem.exec (.Assign [.Name (nm n) GQ] v pos) env) Q Dq x.s:=
 IZ hs rfl rfl ((H ok fr).1.EI ev fr λval y u l hv fy ev=>B5 (IU a2 a3 nf fy hv λs' R I8 lx=>Es k ev ⟨y.hf,y.ρ,y.σ,s',R⟩ ((l.X fr).trans lx) rfl I8))
theorem zm(H:Db c A o1 f)(HC:UV c A o1 f):Fx c A (uW n o1) (hO n f):=λ{st env loc x} ok nf fr=>DL ok λp h1 ok=>DL ok λid h2 ok=>⟨λ{out Q} ev k=>by
 refine wr λZ0 z0=> ?_;refine Dl (band ok) λa1 ok=> ?_;refine Dl (band ok) λa2 ok=> ?_;refine Dl (band ok) λa3 ok=> ?_;refine Dl (band ok) λa4 ok=> ?_;refine D3 (Ei h2) λnp w=> ?_;refine z0 ?_;refine C9 (GZ h1)<|C9 w<|C9 (EH a1) ?_
 cases hl:Ku p.2.1 with
 |false=>exact Ph H (YZ hl a4) a2 a3 ok nf fr ev k
 |true=>
  refine m6 (dR hl) λelt gens sc X0 w2=> ?_;rw [w2] at ok ⊢;refine D3 (Uo (env:=env) (elt:=elt) (gens:=gens) (sc:=sc) (X0:=X0) (GQ:=np) (id:=nm n) (line:=p.2.2.line)) λb hb=> ?_;cases b with
  |false=>exact Ph H hb a2 a3 ok nf fr ev k
  |true=>
   refine DP ev λr DT e1 ev=> ?_;refine C9 (arm_exec_Assign _ _ _ _) ?_;refine Bk (Bv (Bk ?_));refine wpAny_of_eq (show swapsWithSole _ _ _ _=pure true from hb) ?_;refine C9 (if_pos rfl)<|C9 (arm_evalThenUse_ListComp _ _ _ _ _ _) ?_
   refine Bk (Bk ((HC ok fr).run (Q:=λO s'=>Bp (Bq c.prog c.w) A (pure ()) (λO s'=>Bp (Bq c.prog c.w) A (pure Cd.next) Q Dq s') Dq s') e1 λkeep vs us m y Dd C ce hv hb em=> ?_));refine Jm ce.ns λmC oC es ep hC rr=> ?_;show Bp _ _ (assign (.Name (nm n) np) env (.ref Dd)) _ _ _;refine eI (p:=(Dd,Dd)) (s':=y.s) (Q:=λv s'=>Bp (Bq c.prog c.w) A (assign (.Name (nm n) np) env v) _ Dq s') em ce.le.nx y.R ce.nD ce.pD.1 ce.pD.2 ce.d ⟨rfl,hb,m,rfl⟩ hv rfl ce.le.sm λval z l ez hz pv hs=> ?_;refine Dl (pv C oC hC (Ne.symm ce.ne) ce.pC.1 ce.pC.2) λpz1 pz2=> ?_
   have ry: ¬NO env C:=λz=>by
    refine D3 (fr.ex z) λo ho=> ?_;exact DC (ce.nC.symm.trans ho)
   refine B5 (IU a2 a3 nf (fr.J0 l) hz λN3 yM ja lx=> ?_);refine (DM mC (QL oC es ep (lx.Ee C oC (by exact C9 hs hC) pz2 ry) rr) (λh' bN=> ?_));have Nb: ∀b o,b≠C→N3.heap.get? b=some o→h'.get? b=some o:=λb o hb e=>(bN.2 b hb).trans e;have uf:F5 c z.hf z.ρ z.σ h':=St.off ⟨z.hf,z.ρ,z.σ,N3,yM⟩ pz1 pz2 Nb;refine Bn (Bn (Es k ev ⟨z.hf,z.ρ,z.σ,{N3 with heap:=h'},uf⟩ (((l.X fr).trans lx).off (s':={N3 with heap:=h'}) ce.nC Nb ⟨rfl,rfl,rfl⟩ uf) ez ?_));exact ja.move (λb hb o e=>Nb b o (λz=>ry (z▸hb)) e) (λO O h=>h) λb hb=>ja.Ee b hb⟩
def j4(o1 o2:EJ):OT:=λsc st=>oB (ax st) λe=>oB (NB e) λp=>oB (QJ p.1) λq=>oB (only p.2.1) λa=>EQ q.2.1 (nm 57)&&(J6 q.1&&((q.2.2.endLine==p.2.2.line)&&(o1 sc q.1&&J2 a λid l=>oB (only l) λv=>O0 sc "reversed" id&&o2 sc v)))
theorem uC(Z:Zt K c fa G A kk)(H1:Db c A o1 f)(H2:Db c A o2 g)(P:D8 o2):Fx c A (j4 o1 o2) (cI f g):=λ{st env loc x} ok nf fr=>DL ok λe h1 ok=>DL ok λp h2 ok=>DL ok λq h3 ok=>DL ok λa h4 ok=>⟨λ{out Q} ev k=>by
 refine wr λZ0 z0=> ?_;refine Dl (band ok) λa1 ok=> ?_;refine Dl (band ok) λa2 ok=> ?_;refine Dl (band ok) λa3 ok=> ?_;refine Dl (band ok) λa4 ok=> ?_;refine D3 (OD h1) λps w1=> ?_;refine z0 ?_;refine C9 w1<|C9 (Ih h2)<|C9 (LR h3)<|C9 (Eh h4)<|C9 (EH a1) ?_
 refine FF (P:=λa=>Bp (Bq c.prog c.w) A (PySem.exec (.Expr (.Call (.Attribute q.1 (nm 57) q.2.2) [a] [] p.2.2) ps) env) Q Dq x.s) ok λid GQ l pos ok=>DL ok λv h5 ok=> ?_;refine C9 (Eh h5) ?_;refine PB rfl fr (O5 a2 a3 rfl rfl ((H1 a4 fr).1.EI ev fr λvo y o l ho fy ev=>DY ev λhb ev=>DP ev λu DK e1 ev=>DA ev λd e2 ev=>DA ev λds e3 ev=>DA ev λDy e4 ev=> ?_));refine (Gp (.builtin "list.extend") ([vo]) (λpl Q' hQ=>Xa (LK ho hb) PySem.F.plainAttrs_list PySem.F.slot_list_extend PySem.F.type_list_extend hQ) ?_);refine Calls.callWith_builtin rfl (Calls.evalArgs_plain (Calls.spliced_cons ?_));refine CO rfl (ae Z.B Z.T (v:= .type "reversed") (band ok).1 12 rfl rfl (by decide) (by decide) fy (Zq Z.B H2 P (.ty _) (band ok).2 fy e1 λuv z m ez hv=> ?_));refine Sm (Ge e3▸HU e2 hv) λit w n ew wd hT=>Calls.spliced_nil (Lr (x:=w) Z.rm.handled (VV.le (VV.le ho m) n) wd hT (by exact C9 ew<|C9 ez e4) λs' R k' sm=>⟨rfl, ?_⟩);have lz:Le z ⟨w.hf,w.ρ,Dy,s',R⟩:=⟨⟨n.nx.kf,n.nx.JX,λb o e nn=>k' b o (λp hp q=>(n.nx.EE p hp).elim (λ⟨r,hr,t⟩=>nn r hr (t.trans q)) λt=>DC (t.symm.trans (q▸e))) (λt=>DC (t.symm.trans e)) (n.nx.Ee b o e nn),n.nx.FA,n.nx.EE⟩,n.sm.trans sm⟩;exact Es k ev ⟨w.hf,w.ρ,Dy,s',R⟩ ((l.trans (m.trans lz)).X fr) rfl (fr.J0 (l.trans (m.trans lz)))⟩
end
end
section
mutual open A
variable{c:Cx}{A:Bs}{s:Bl}{x y z:St c}{env:Env}{loc:Di}{f h:Ev}{o1:EJ}{e:Expr}{a b:Ex}{sa:gT}{n:Nat}{l:List D}{i:Nat}
theorem Nu{n x:Nat}{v:V}{l:Di}: ∀{dead:List Nat},DE (Du n dead l) x=some v→has x dead=false∧DE l x=some v∧FP n v=false:=by
 induction l with
 |nil=>intro dead e;exact DC e
 |cons p r ih=>
  intro dead e;have e:DE (cond (has p.1 dead||FP n p.2) (Du n (p.1::dead) r) (p::Du n dead r)) x=some v:=e;show _∧cond (μ p.1 x) (some p.2) (DE r x)=some v∧_;cases q:has p.1 dead||FP n p.2 with
  |true=>
   rw [q] at e;refine ET (ih e) λh1 h2 h3=> ?_;have h1:(μ p.1 x||has x dead)=false:=h1;cases z:μ p.1 x with
   |true=>rw [z] at h1;exact ζ h1
   |false=>rw [z] at h1;exact ⟨h1,h2,h3⟩
  |false=>
   rw [q] at e;have e:cond (μ p.1 x) (some p.2) (DE (Du n dead r) x)=some v:=e;cases z:μ p.1 x with
   |true=>
    rw [z] at e;have q:=AU.mp q;refine Dr (nb z)<|Dr (η e) ?_
    exact ⟨q.1,rfl,q.2⟩
   |false=>rw [z] at e;exact ih e
def St.cut(y:St c)(n:Nat):St c:=⟨y.hf,y.ρ.take n,y.σ.take n,y.s,y.R.trunc n⟩
theorem au{DG:Di}(l:Jo env x y)(fr:FR env DG y):Jo env x (y.cut x.σ.length)∧FR env (Du x.σ.length [] DG) (y.cut x.σ.length):=by
 refine ⟨⟨l.kf,λi p e=> ?_,l.Ee,l.FA,λp hp=>l.EE p (BC hp),l.there,l.sm⟩,⟨fr.S,λa v e=>fr.low a v (Nu e).2.1,λa v e se=> ?_,fr.ns,fr.cell,λb hb=>⟨(fr.Ee b hb).1,λp hp=>(fr.Ee b hb).2 p (BC hp)⟩⟩⟩
 ·have hi:=FK e
  rw [x.R.len] at hi;exact (Ab.trans (if_pos hi)).trans (l.JX i p e)
 ·refine ET (Nu e) λO h2 h3=> ?_
  refine DQ (fr.vals a v h2 se) λval a b=> ?_;exact (DM val a (b.down h3))
def hW(m:Nat)(out:HW)(k:Di→Store→Option HW):Option HW:=match out with
 | .go 1 loc σ=>some (.go 0 (Du m [] loc) (σ.take m))
 | .go _ loc σ=>k (Du m [] loc) (σ.take m)
 | .ret v σ=>some (.ret v σ)
theorem Sl{tK:St c}{out o:HW}{k:Di→Store→Option HW}{Q:Cd→Bl→Prop}{R:Cd→Bl→Prop}(l:Jo env tK x)(e:hW x.σ.length out k=some o)(q:VT env tK o Q)
  (h1: ∀(y:St c) DG,Jo env x y→FR env DG y→k DG y.σ=some o→R .next y.s∧R .cont y.s) (h2: ∀s,Q .next s→R .brk s) (h3: ∀v s,Q (.ret v) s→R (.ret v) s):VT env x out R:=by
 cases out with
 |ret v σ=>exact λval y m ey hv=>h3 _ _ (SJ q e val y (l.trans m) ey hv)
 |go n loc σ=>
  intro y m ey fr;refine Dl (au m fr) λm' I8=> ?_
  match n,e with
  |0,e=>exact (h1 _ _ m' I8 (by exact C9 (show (y.cut x.σ.length).σ=σ.take x.σ.length from congrArg (List.take x.σ.length) ey) e)).1
  |1,e=>exact h2 _ (Es q e (y.cut x.σ.length) (l.trans m') (congrArg (List.take x.σ.length) ey) I8)
  |n+2,e=>exact (h1 _ _ m' I8 (by exact C9 (show (y.cut x.σ.length).σ=σ.take x.σ.length from congrArg (List.take x.σ.length) ey) e)).2
def vg(o1:EJ)(sa:gT):OT:=λsc st=>oB (jp st) λp=>o1 sc p.1&&sa sc p.2
structure WI(env:Env)(x:St c)(t:Ev)(b:Ex)(out:HW)(n:Nat)(s:Bl)(y:St c)(loc:Di):Prop where
 hs:s=y.s
 l:Jo env x y
 fr:FR env loc y
 e:EC (NJ t) b n loc y.σ=some out
theorem xI(H:Db c A o1 f)(Ha:Ri c A sa a):Fx c A (vg o1 sa) (pY f a):=λ{st env loc x} ok nf fr=>DL ok λp h1 ok=>⟨λ{out Q} ev k=>by
 refine D3 (U1 h1) λps w=> ?_;refine C9 w ?_;refine wpAny_While (codeAny_whileLoop (λn s=> ∃y loc,WI env x f a out n s y loc) (λn s I=> ?_) TY ⟨x,loc,rfl, .refl,fr,ev⟩);obtain ⟨y,DG,hs,l,fy,e⟩:=I;refine C9 hs ?_;cases n with
 |zero=>exact DC e
 |succ n=>
  refine DP (x:=NJ f DG y.σ) e λt DD e1 e=>DP (x:=f DG y.σ) e1 λv DK e2 e3=> ?_
  refine Bu ((H (band ok).1 fy).2.run e2 (b:=t) (Q:=λb Ej=>Bp (Bq c.prog c.w) A (cond b (PySem.execs p.2 env) (pure .next)) (λfl G7=>cond b (match fl with
   | .next| .cont=> ∃m,m<n+1∧ ∃y loc,WI env x f a out m G7 y loc
   | .brk=>Q .next G7
   | .ret v=>Q (.ret v) G7) (Q fl G7)) Dq Ej) ?_ ?_) (λb Ej h=> ?_) λO O x=>x.elim
  ·exact Fq (P:=λt DD=>G1 DK v=some t) e3 λq h=>h
  ·intro z m ez
   have ez:z.σ=DD:=ez.trans (Fq (P:=λt DD=>DK=DD) e3 λO O=>rfl);have mX:=m.X fy;have fz:=fy.J0 m;cases t with
   |false=>exact Bn (Es k e z (l.trans mX) ez fz)
   |true=>
    refine DA (x:=a DG DD) e λo1 e4 e=>(Ha (band ok).2 nf fz).run (ez.symm▸e4) (VT.after ?_ mX);refine Sl l (k:=EC (NJ f) a n) (o:=out) (by cases o1 with|ret=>exact e|go m l s=>exact (match m,e with|0,e=>e|1,e=>e|m+2,e=>e)) k (λu aH m' fu e=> ?_) (λO h=>h) λO O h=>h;have I: ∃m,m<n+1∧ ∃y loc,WI env x f a out m u.s y loc:=⟨n,AF n,u,aH,rfl,l.trans m',fu,e⟩;exact ⟨I,I⟩
  ·cases b with
   |true=>
    refine C9 (if_pos rfl) ?_;refine Bu h (λfl G7 h=> ?_) λO O x=>x.elim;cases fl<;>exact h
   |false=>
    refine C9 (if_neg (by decide)) ?_;exact Bu h (λfl G7 h=>h) λO O x=>x.elim⟩
end
end
section
mutual open A
variable{c:Cx}{A:Bs}{s:Bl}{x y z:St c}{env:Env}{loc:Di}{f h:Ev}{o1:EJ}{e:Expr}{a b:Ex}{sa:gT}{n:Nat}{fi:aV}{it:Bj}{l:List D}{i:Nat}{free:Br→Prop}
theorem ER.lex(W:ER c free x.hf x.ρ it l i x.s.heap)(n:Jo env x y)(hx: ∀b,free b→ ¬NO env b):ER c free y.hf y.ρ it l i y.s.heap:=by
 refine FT W λI fp wr P S e w st=> ?_;clear W;refine (GV I fp wr P S e ⟨w.W,w.ex,λi v d p q=>(w.dv i v d p q).mono n.kf,λb hb=>(w.f1 b hb).imp (λ⟨o,ho⟩=>(EF o (n.kf _ _ ho))) id,λb hb=> ?_⟩ ((w.W {} rfl).frame i _ _ st λb hb o e=> ?_))
 ·refine ET (w.f2 b hb) λg1 g2 g3=> ?_
  refine D3 ((w.ex i _ st).2 b ((w.W {} rfl).sub b hb)) λo ho=> ?_;refine ⟨?_,λp hp e=> ?_,g3⟩
  ·cases q:y.hf b with
   |none=>rfl
   |some o'=>
    rcases n.FA b o' q with z|⟨p,hp,z⟩|z
    ·exact DC (g1.symm.trans z)
    ·exact absurd z (g2 p hp)
    ·exact DC (z.symm.trans ho)
  ·rcases n.EE p hp with ⟨q,hq,z⟩|z
   ·exact g2 q hq (z.trans e)
   ·exact DC (z.symm.trans (e▸ho))
 ·rcases w.f1 b hb with ⟨o',Jx⟩|w'
  ·exact Dr (η ((x.R.keep _ _ Jx).symm.trans e))<|y.R.keep _ _ (n.kf _ _ Jx)
  ·exact n.Ee b o e (w.f2 b w').2.1 (hx b (w.f2 b w').2.2)
theorem Jo.SH{Z:Br→Prop}(l:Jo env x y)(hZ: ∀b,Z b→x.s.heap.get? b=none){s':Bl}(k: ∀b o,¬Z b→y.s.heap.get? b=some o→s'.heap.get? b=some o)(sm:GB y.s s')(R:F5 c y.hf y.ρ y.σ s'.heap):Jo env x ⟨y.hf,y.ρ,y.σ,s',R⟩:=
 ⟨l.kf,l.JX,λb o e n nx=>k b o (λz=>DC ((hZ b z).symm.trans e)) (l.Ee b o e n nx),l.FA,l.EE,λb hb ⟨o,e⟩=>D3 (l.there b hb (EF o e)) λo' e'=>(EF o' (k b o' (λz=>DC ((hZ b z).symm.trans e)) e')),l.sm.trans sm⟩
def ud(n:Nat)(oi:EJ)(sa:gT):OT:=λsc st=>oB (jm st) λp=>oB (Lp p.1) λid=>EQ id (nm n)&&(Μ n Fw.length&&(seen sc (nm n)&&(oi sc p.2.1&&sa sc p.2.2)))
structure FI(env:Env)(x:St c)(a:Ex)(n:Nat)(out:HW)(it:Bj)(l:List D)(m:Nat)(s:Bl)(i:Nat)(y:St c)(loc:Di):Prop where
 hi:i≤l.length
 hn:m=l.length - i
 hs:s=y.s
 lx:Jo env x y
 fr:FR env loc y
 w:ER c (λb=>x.s.heap.get? b=none) y.hf y.ρ it l i y.s.heap
 e:Ek a n (l.drop i) loc y.σ=some out
theorem ii{out:HW}{Q:Cd→Bl→Prop}{body:List CC}{GQ:Pos}(hh:A.handled=none)(Ha:Ri c A sa a)(nf:NF env)(fx:FR env loc x)(a2:Μ n Fw.length=true)(a3:seen (vw env.scope) (nm n)=true)(ok:sa (vw env.scope) body=true)(k:VT env x out Q)(l0:Jo env x y)(fr:FR env loc y)(w:ER c (λb=>x.s.heap.get? b=none) y.hf y.ρ it l 0 y.s.heap)(ev:Ek a n l loc y.σ=some out):
  Ci (Bq c.prog c.w) A (.forLoop (.Name (nm n) GQ) it body [] env) (λr s'=>match r with| .ok f=>Q f s'| .error e=>cameBackBy (Bq c.prog c.w) A env Dq e s') y.s:=by
 refine codeAny_forLoop_any (λm s=> ∃i y loc,FI env x a n out it l m s i y loc) (λm s I=> ?_) l.length ⟨0,y,loc,AT _,rfl,rfl,l0,fr,w,ev⟩;clear l0 fr w ev;obtain ⟨i,y,DG,hi,hn,hs,l0,fr,w,e⟩:=I;refine C9 hs ?_
 have Zo: ∀b,x.s.heap.get? b=none→ ¬NO env b:=λb h z=>by
  refine D3 (fx.ex z) λo ho=> ?_;exact DC (h.symm.trans ho)
 rcases Nat.lt_or_ge i l.length with lt|ge
 ·rw [Av lt] at e
  refine DA (x:=a (DR DG n (.d l[i])) y.σ) e λo1 e1 e=> ?_;refine w.item hh (Τ lt) λv D6 Mq hv cn k₁ TZ=>SC cn ?_;have lx:=l0.SH (λb z=>z) k₁ TZ Mq;have zk:FR env DG ⟨y.hf,y.ρ,y.σ,D6,Mq⟩:=fr.move (λb hb o e=>k₁ b o (λz=>Zo b z hb) e) (λO O h=>h) λb hb=>fr.Ee b hb;refine B5 (IU (x:=⟨y.hf,y.ρ,y.σ,D6,Mq⟩) (v:= .d l[i]) a2 a3 nf zk hv λEj KJ yP kE=> ?_);have xo:=ER.lex (x:=⟨y.hf,y.ρ,y.σ,D6,Mq⟩) (y:=⟨y.hf,y.ρ,y.σ,Ej,KJ⟩) cn kE Zo;have IX:=lx.trans kE
  refine Bu ((Ha ok nf yP).run (x:=⟨y.hf,y.ρ,y.σ,Ej,KJ⟩) e1 (Sl (x:=⟨y.hf,y.ρ,y.σ,Ej,KJ⟩) IX (k:=Ek a n (l.drop (i+1))) (o:=out) (R:=λfl G7=>match fl with
    | .next| .cont=> ∃m',m'<m∧ ∃i y loc,FI env x a n out it l m' G7 i y loc
    | .brk=>Q .next G7
    | .ret v=>Q (.ret v) G7) ?_ k (λu aH m' fu e=> ?_) (λs h=>h) λv s h=>h)) (λfl G7 h=> ?_) λO O x=>x.elim
  ·cases o1 with
   |ret=>exact e
   |go m l s=>exact (match m,e with|0,e=>e|1,e=>e|m+2,e=>e)
  ·have I: ∃m',m'<m∧ ∃i y loc,FI env x a n out it l m' u.s i y loc:=⟨_,hn▸Ba _ _ lt,i+1,u,aH,lt,rfl,rfl,IX.trans m',fu,xo.lex m' Zo,e⟩
   exact ⟨I,I⟩
  ·cases fl<;>exact h
 ·have jh:=Aq hi ge
  rw [jh,List.drop_length] at e;rw [jh] at w;refine w.done hh λD6 Mq k₁ TZ=> ?_;have lx:=l0.SH (λb z=>z) k₁ TZ Mq;exact Bn (Es k e ⟨y.hf,y.ρ,y.σ,D6,Mq⟩ lx rfl (fr.move (λb hb o e=>k₁ b o (λz=>Zo b z hb) e) (λO O h=>h) λb hb=>fr.Ee b hb))
theorem zv(hh:A.handled=none){q:Nat}{Zu:List EJ}(HI:Yw c A (Zd q Zu) fi)(Ha:Ri c A sa a):Fx c A (ud n (Zd q Zu) sa) (oP n fi a):=λ{st env loc x} ok nf fr=>DL ok λp h1 ok=>DL ok λid h2 ok=>⟨λ{out Q} ev k=>by
 refine wr λZ0 z0=> ?_;refine Dl (band ok) λa1 ok=> ?_;refine Dl (band ok) λa2 ok=> ?_;refine Dl (band ok) λa3 ok=> ?_;refine Dl (band ok) λa4 ok=> ?_;refine D3 (Ei h2) λnp w=> ?_;refine D3 (T2 h1) λps w2=> ?_;refine z0 ?_;refine C9 w2<|C9 w<|C9 (EH a1) ?_
 refine DP ev λl DD e1 ev=>wpAny_For ((HI a4 fr).run e1 λit y l0 ey W Eb=> ?_) (Q0 (ND a4) env);exact ii hh Ha nf fr a2 a3 ok k (l0.X fr) (fr.J0 l0) W (ey.symm▸ev)⟩
end
end
section
mutual open A
variable{c:Cx}{A:Bs}{s:Bl}{x y z:St c}{env:Env}{loc:Di}{f h:Ev}{o1:EJ}{e:Expr}{os:List EJ}{fs:List Ev}{n:Nat}{pos:Pos}{xs:List Nat}
def Oo:List Nat→List V→Di→Di
 |x::xs,v::vs,loc=>Oo xs vs (DR loc x v)
 |_,_,loc=>loc
theorem Yo(x:Nat)(v:V)(xs:List Nat): ∀(vs:List V) (loc:Di),xs.length=vs.length→Oo (xs++ [x]) (vs++ [v]) loc=DR (Oo xs vs loc) x v:=by
 induction xs with
 |nil=>intro vs loc h;cases vs with
  |nil=>rfl
  |cons=>exact Α h
 |cons y xs ih=>intro vs loc h;cases vs with
  |nil=>exact Α h
  |cons u vs=>exact ih vs _ (AK.inj h)
theorem MN{xs:List Nat}: ∀{vs:List V} {loc DG:Di},I0 xs vs loc=some DG→xs.length=vs.length:=by
 induction xs with
 |nil=>intro vs loc DG e;cases vs with
  |nil=>rfl
  |cons=>exact DC e
 |cons x xs ih=>intro vs loc DG e;cases vs with
  |nil=>exact DC e
  |cons v vs=>exact DA (x:=I0 xs vs loc) e λl h1 O=>congrArg (· +1) (ih h1)
theorem ZL{xs:List Nat}: ∀{vs:List V} {loc DG:Di},I0 xs vs loc=some DG→Oo xs.reverse vs.reverse loc=DG:=by
 induction xs with
 |nil=>intro vs loc DG e;cases vs with
  |nil=>exact η e
  |cons=>exact DC e
 |cons x xs ih=>intro vs loc DG e;cases vs with
  |nil=>exact DC e
  |cons v vs=>
   refine DA (x:=I0 xs vs loc) e λl h1 e=> ?_;refine C9 Ag<|C9 Ag<|C9 (Yo _ _ _ _ _ (by rw [AX,AX,MN h1]))<|C9 (ih h1) ?_
   exact η e
theorem Va{a:Nat}(xs:List Nat): ∀(vs:List V) {l l':Di},(∀a,DE l a=DE l' a)→DE (Oo xs vs l) a=DE (Oo xs vs l') a:=by
 induction xs with
 |nil=>intro vs l l' h;exact h a
 |cons x xs ih=>intro vs l l' h;cases vs with
  |nil=>exact h a
  |cons v vs=>exact ih vs λb=>by (exact C9 E7<|C9 E7<|C9 (h b) rfl)
def distinct:List Nat→Bool
 | []=>true
 |x::r=> !has x r&&distinct r
theorem cO{x:Nat}{v:V}(xs:List Nat): ∀(vs:List V) (loc:Di) (a:Nat),has x xs=false→DE (Oo xs vs (DR loc x v)) a=DE (DR (Oo xs vs loc) x v) a:=by
 induction xs with
 |nil=>intro vs loc a _;rfl
 |cons y xs ih=>intro vs loc a h;cases vs with
  |nil=>rfl
  |cons u vs=>
   have h:(μ y x||has x xs)=false:=h;have h:=AU.mp h;have ne: ¬y=x:=λz=>by rw [z,AH] at h;exact ζ h.1
   refine Eq.trans (Va xs vs λb=> ?_) (ih vs (DR loc y u) a h.2);refine C9 E7<|C9 E7<|C9 E7<|C9 E7 ?_
   by_cases w:y=b
   ·(exact C9 (if_pos w)<|C9 (if_pos w)<|C9 (if_neg λz=>ne (w.trans z.symm)) rfl)
   ·(exact C9 (if_neg w)<|C9 (if_neg w) rfl)
theorem Tr{xs:List Nat}: ∀{vs:List V} {loc DG:Di},distinct xs=true→I0 xs vs loc=some DG→ ∀a,DE (Oo xs vs loc) a=DE DG a:=by
 induction xs with
 |nil=>intro vs loc DG _ e a;cases vs with
  |nil=>exact Dr (η (e:some loc=some DG)) rfl
  |cons=>exact DC e
 |cons x xs ih=>intro vs loc DG hd e a;cases vs with
  |nil=>exact DC e
  |cons v vs=>
   refine Dl (band hd) λh1 h2=> ?_;refine DA (x:=I0 xs vs loc) e λl e1 e=> ?_;refine Dr (η e) ?_;refine (cO xs vs loc a (by rw [A8] at h1;exact h1)).trans ?_
   (exact C9 E7<|C9 E7<|C9 (ih h2 e1 a) rfl)
theorem FR.look{l l':Di}(fr:FR env l x)(h: ∀a,DE l a=DE l' a):FR env l' x:=⟨fr.S,λa v e=>fr.low a v ((h a).trans e),λa v e=>fr.vals a v ((h a).trans e),fr.ns,fr.cell,fr.Ee⟩
def zD(c:Cx)(A:Bs)(env:Env)(f:Bj→Sem Unit)(n:Nat):Prop:=Μ n Fw.length=true∧seen (vw env.scope) (nm n)=true∧ ∀{v s} {Q:Unit→Bl→Prop},Bp (Bq c.prog c.w) A (storeName env (nm n) v) Q Dq s→Bp (Bq c.prog c.w) A (f v) Q Dq s
theorem Nk{fs:List (Bj→Sem Unit)}(H:DS (zD c A env) fs xs)(nf:NF env): ∀{us:List Bj} {vs:List V} {x:St c} {loc:Di} {Q:Unit→Bl→Prop},x.GC us vs→FR env loc x→
  (∀s' (R:F5 c x.hf x.ρ x.σ s'.heap),FR env (Oo xs vs loc) ⟨x.hf,x.ρ,x.σ,s',R⟩→Jo env x ⟨x.hf,x.ρ,x.σ,s',R⟩→Q () s')→Bp (Bq c.prog c.w) A (assignInOrder fs us) Q Dq x.s:=by
 induction H with
 |nil=>exact λ{us vs x loc Q} hv fr k=>Bn (k x.s x.R fr .refl)
 | @cons f n fs xs H1 _ ih=>
  intro us vs x loc Q hv fr k;cases hv with
  |nil=>exact Bn (k x.s x.R fr .refl)
  | @cons u v us vs h1 h2=>
   show Bp _ _ (do C6 us (f u);assignInOrder fs us) _ _ _;exact Bk (Bt (H1.2.2 (IU H1.1 H1.2.1 nf fr h1 λs' R I8 lx=>ih (x:=⟨x.hf,x.ρ,x.σ,s',R⟩) h2 I8 λs'' R' yj lx'=>k s'' R' yj (lx.trans lx'))))
def ie(sc:Vw):List Nat→List Expr→Bool
 | [], []=>true
 |x::xs,e::es=>oB (Lp e) (λid=>EQ id (nm x)&&(Μ x Fw.length&&seen sc (nm x)))&&ie sc xs es
 |_,_=>false
structure Ts(c:Cx)(A:Bs)(env:Env)(xs:List Nat)(ts:List Expr):Prop where
 star:(Ca ts env).findIdx? (·.1)=none
 len:(Ca ts env).length=xs.length
 len2:ts.length=xs.length
 st:DS (zD c A env) ((Ca ts env).map (·.2)) xs
 st2:DS (zD c A env) ((xs.map nm).map λn=>bindName env n) xs
 ids: ∀q:Str→Pos→Bool,(ts.filterMap fun| .Name id pos=>if q id pos=true then some id else none|_=>none).length=ts.length→(ts.filterMap fun| .Name id pos=>if q id pos=true then some id else none|_=>none)=xs.map nm
theorem kN{xs:List Nat}: ∀{ts:List Expr},ie (vw env.scope) xs ts=true→Ts c A env xs ts:=by
 induction xs with
 |nil=>intro ts ok;cases ts with
  |nil=>exact ⟨rfl,rfl,rfl, .nil, .nil,λO O=>rfl⟩
  |cons=>exact ζ ok
 |cons x xs ih=>intro ts ok;cases ts with
  |nil=>exact ζ ok
  |cons e ts=>
   refine wr λZ0 z0=> ?_;refine Dl (band ok) λG2 Jz=> ?_;obtain ⟨i1,i2,i3,i4,i5,i6⟩:=ih Jz;refine DL G2 λid h1 G2=> ?_;refine Dl (band G2) λa1 G2=> ?_;refine Dl (band G2) λa2 a3=> ?_;refine D3 (Ei h1) λp w=> ?_;refine z0 ?_;refine C9 w<|C9 (EH a1) ?_
   have each:Ca (Expr.Name (nm x) p::ts) env=(false,assign (.Name (nm x) p) env)::Ca ts env:=rfl;refine ⟨?_, ?_,congrArg (· +1) i3, ?_, .cons ⟨a2,a3,λh=>wpAny_bindName h⟩ i5,λq hq=> ?_⟩
   ·exact C9 each<|C9 (List.findIdx?_cons)<|C9 i1 rfl
   ·exact C9 each<|congrArg (· +1) i2
   ·exact C9 each<| .cons ⟨a2,a3,λh=>B5 h⟩ i4
   ·rw [As] at hq ⊢
    dsimp only at hq ⊢;cases hc:q (nm x) p with
    |true=>
     rw [hc,if_pos rfl] at hq;refine C9 (if_pos rfl) ?_;exact congrArg (nm x:: ·) (i6 q (AK.inj hq))
    |false=>
     rw [hc,if_neg Aj] at hq
     have:=List.length_filterMap_le (fun| .Name id pos=>if q id pos=true then some id else none|_=>none) ts
     dsimp only at hq;rw [ξ] at hq;exact absurd (AQ (AF _) (hq▸this)) (Nat.lt_irrefl _)
theorem MD{v:Expr}{ts:List Expr}{q:Nat}{tp:Pos}{line:Nat}:swapsWithSole [.Tuple ts q tp] v line env=pure false:=by cases v<;>rfl
theorem SD{v:Expr}{ts:List Expr}{q:Nat}{tp:Pos}(h:(Hq v).isNone=true):CR [.Tuple ts q tp] v env=pure none:=by cases v<;>first|rfl|exact ζ h
theorem VA{h':Bz}(he:Bz.ExtBut x.s.heap.objs.size x.s.heap h'): ∀b o,x.s.heap.get? b=some o→h'.get? b=some o:=λb o e=>he b o (AW (Ad e)) e
def j5(xs:List Nat)(o1:EJ):OT:=λsc st=>oB (Pf st) λp=>oB (Hq p.1) λts=>ie sc xs ts&&(distinct xs&&((Hq p.2.1).isNone&&o1 sc p.2.1))
theorem bK{p:Br×Br}{us:List Bj}{vs:List V}{DG:Di}{m:Nat}{ts:List Expr}{q:Nat}{tp:Pos}{Q:Unit→Bl→Prop}(hh:A.handled=none)(T:Ts c A env xs ts)(nf:NF env)(fr:FR env loc x)(ht:x.s.heap.get? p.1=some (GW us m))(hv:x.GC us vs)(hd:distinct xs=true)(e:I0 xs vs loc=some DG)
  (k: ∀s' (R:F5 c x.hf x.ρ x.σ s'.heap),FR env DG ⟨x.hf,x.ρ,x.σ,s',R⟩→Jo env x ⟨x.hf,x.ρ,x.σ,s',R⟩→Q () s'):Bp (Bq c.prog c.w) A (assign (.Tuple ts q tp) env (.ref p.1)) Q Dq x.s:=by
 refine wpAny_assign_Tuple hh (items:=us.toArray) (JF _ ht rfl m rfl) (by (exact C9 T.len<|C9 (MN e)<|C9 Ν<|C9 hv.length rfl)) T.star λh' he=> ?_;have R':F5 c x.hf x.ρ x.σ h':=x.R.Ef λb o e O=>VA he b o e;have l:Le x ⟨x.hf,x.ρ,x.σ,{x.s with heap:=h'},R'⟩:=⟨F9 _ _ (VA he),rfl,rfl,rfl⟩;refine Nk (x:=⟨x.hf,x.ρ,x.σ,{x.s with heap:=h'},R'⟩) T.st nf (GC.le hv l) (fr.J0 l) λs' R I8 lx=>k s' R (I8.look (Tr hd e)) ((l.X fr).trans lx)
theorem qV(hh:A.handled=none)(H:Db c A o1 f):Fx c A (j5 xs o1) (aY f xs):=λ{st env loc x} ok nf fr=>DL ok λp h1 ok=>DL ok λts h2 ok=>⟨λ{out Q} ev k=>by
 refine wr λZ0 z0=> ?_;refine Dl (band ok) λa1 ok=> ?_;refine Dl (band ok) λa2 ok=> ?_;refine HY (Gn h2) λq tp w=> ?_;refine z0 ?_;refine C9 (GZ h1)<|C9 w ?_
 refine PyProof.Rows.Assign_Tuple ((H (band ok).2 fr).1.EI ev fr λval y v l hv fy ev=>DA ev λd e1 ev=>DA ev λm e2 ev=>DA ev λDG e3 ev=> ?_) MD (SD (band ok).1);obtain ⟨pp,o,us,wp,gp,⟨s1,s2,j,rfl⟩,Tc⟩:=(O' e2▸HU e1 hv:DV c y.hf val (.nd .tup m)).shape;refine C9 wp ?_;exact bK hh (kN a1) nf fy (s1▸y.R.keep _ _ gp) Tc.sY a2 e3 λs' R I8 lx=>Es k ev ⟨y.hf,y.ρ,y.σ,s',R⟩ ((l.X fr).trans lx) rfl I8⟩
def kI(xs:List Nat)(os:List EJ):OT:=λsc st=>oB (Pf st) λp=>oB (Hq p.1) λts=>oB (Hq p.2.1) λvs=>ie sc xs ts&&(distinct xs&&(!(vs.all (constantsAlone 8))&&(Μ vs.length 100&&LZ sc os vs)))
theorem Ql{ts vs:List Expr}{q q':Nat}{tp vp:Pos}(T:Ts c A env xs ts)(hc:(!(vs.all (constantsAlone 8)))=true):CR [.Tuple ts q tp] (.Tuple vs q' vp) env=pure none∨(CR [.Tuple ts q tp] (.Tuple vs q' vp) env=pure (some (xs.map nm))):=by
 unfold CR;dsimp only
 split
 ·exact .inl rfl
 ·split
  ·exact .inl rfl
  ·split
   ·exact .inl rfl
   ·rename_i Eb
    split
    ·exact .inl rfl
    ·refine C9 (if_neg (by rw [A8] at hc;rw [hc];exact Aj)) ?_
     refine .inr (congrArg (λz=>pure (some z)) ?_);refine T.ids (λid pos=>env.kindOf id==some .local&&pos.line==(Option.map (λx=>x.pos.line) ts.head?).getD 0) ?_;rw [Bool.or_eq_true,not_or] at Eb
     have:=Eb.1
     rw [bne_iff_ne,ne_eq,Decidable.not_not] at this;exact this
theorem vE(hh:A.handled=none)(H:Fy c A os fs)(P: ∀o∈os,D8 o):Fx c A (kI xs os) (d7 fs xs):=λ{st env loc x} ok nf fr=>DL ok λp h1 ok=>DL ok λts h2 ok=>DL ok λvs h3 ok=>⟨λ{out Q} ev k=>by
 refine wr λZ0 z0=> ?_;refine Dl (band ok) λa1 ok=> ?_;refine Dl (band ok) λa2 ok=> ?_;refine Dl (band ok) λa3 ok=> ?_;refine Dl (band ok) λa4 a5=> ?_;refine HY (Gn h2) λq tp w=> ?_;refine HY (Gn h3) λq' vp w'=> ?_;refine z0 ?_;refine C9 (GZ h1)<|C9 w<|C9 w' ?_
 have T:=kN (c:=c) (A:=A) a1;refine DP ev λus σ e1 ev=>DA ev λDG e2 ev=> ?_
 have run: ∀{Q':Bj→Bl→Prop},(∀vals (y:St c),Le x y→y.σ=σ→y.GC vals us→FR env loc y→(y.s.heap.push (GW vals 0)).get? y.s.heap.objs.size=some (GW vals 0)→Q' (.ref y.s.heap.objs.size) (y.JV (GW vals 0)).s)→Bp (Bq c.prog c.w) A (eval (.Tuple vs q' vp) env) Q' Dq x.s:=λ{Q'} h=>by
  refine C9 (arm_eval_Tuple _ _ _ _) ?_;refine Bk (Bv (Bk (NI H P a5 fr e1 λvals y l ey hv=> ?_)));refine wpAny_newTuple (h vals y l ey hv (fr.J0 l) (Ξ _ rfl)) ?_;refine C9 hv.length<|C9 (Q9 H e1)<|C9 (NG a5)<|C9 Bw ?_
  have:=Ds.mp a4
  exact Pv this rfl
 rcases Ql (q:=q) (q':=q') (tp:=tp) (vp:=vp) T a3 with sw|sw
 ·refine PyProof.Rows.Assign_Tuple (run λvals y l ey hv fy hg=> ?_) MD sw
  refine bK (x:=y.JV (GW vals 0)) (p:=(y.s.heap.objs.size,y.s.heap.objs.size)) (DG:=DG) hh T nf (fy.J0 (F3 _)) hg hv a2 e2 λs' R I8 lx=> ?_;exact Es k ev ⟨y.hf,y.ρ,y.σ,s',R⟩ (((l.trans (F3 _)).X fr).trans lx) ey I8
 ·refine PyProof.Rows.Assign_Tuple_swapped (run λvals y l ey hv fy hg=> ?_) MD sw
  have hn:((xs.map nm).length:Nat)=vals.toArray.size:=by (exact C9 (ι _)<|C9 (MN e2)<|C9 Ν<|C9 hv.length rfl)
  refine C9 hn ?_;refine wpAny_unpackItems_tuple hh (items:=vals.toArray) (JF _ hg rfl 0 rfl) λh' he=> ?_;have kx:=VA (x:=y.JV (GW vals 0)) he;have R':F5 c y.hf y.ρ y.σ h':=(y.JV (GW vals 0)).R.Ef λb o e O=>kx b o e;have l':Le x ⟨y.hf,y.ρ,y.σ,{(y.JV (GW vals 0)).s with heap:=h'},R'⟩:=(l.trans (F3 _)).trans ⟨F9 _ _ kx,rfl,rfl,rfl⟩;refine Nk (x:=⟨y.hf,y.ρ,y.σ,{(y.JV (GW vals 0)).s with heap:=h'},R'⟩) (fs:=(xs.map nm).reverse.map λn=>bindName env n) (xs:=xs.reverse) (vs:=us.reverse) (by exact C9 A5 T.st2.reverse) nf (hv.reverse) (fr.J0 l') λs' R I8 lx=> ?_;exact Es k ev ⟨y.hf,y.ρ,y.σ,s',R⟩ ((l'.X fr).trans lx) ey (by rw [ZL e2] at I8;exact I8)⟩
end
end
section
mutual open A
structure Sk where
 k:Ck
 s:OT
 b:gT
def sX(t n:Nat)(l:List Sk):OT:=match t with
 |0=>c1 l λa=>uW n a.k.e
 |1=>c2 l λa o=>Wl n a.k.e o.k.e
 |2=>c3 l λa o i=>jg a.k.e o.k.e i.k.e
 |3=>cC l λa r=>j5 (r.map λq=>q.k.n) a.k.e
 |4=>cC l λa r=>kI (r.map λq=>q.k.n) a.k.es
 |5=>c1 l λa=>oEx a.k.e
 |6=>c2 l λa b=>j4 a.k.e b.k.e
 |7=>c1 l λa=>u0 a.k.e
 |8=>c3 l λa b d=>oIf a.k.e b.b d.b
 |9=>c2 l λi b=>ud n i.k.it b.b
 |10=>c2 l λa b=>vg a.k.e b.b
 |11=>jX
 |12=>rW
 |13=>c1 l λb=>tu b.b
 |14=>jL
 |_=>λO O=>false
def sT(t n:Nat)(l:List Sk):Sk:=⟨ui t n (l.map Sk.k),λsc st=>Ε 50 t&&sX (t - 50) n l sc st,λsc body=>μ t 70&&Oe sc (l.map Sk.s) body⟩
end
mutual
noncomputable def sk:T→Sk
 | .mk t n ks=>sT t n (bD ks)
noncomputable def bD:List T→List Sk
 | []=> []
 |a::r=>sk a::bD r
end
mutual open A
structure Iv(c:Cx)(A:Bs)(q:Sk)(d:Nd):Prop where
 k:Good c A q.k d
 s:Fx c A q.s d.ex
 b:Ri c A q.b d.ex
end
section
mutual open A
variable{c:Cx}{A:Bs}{K:B4}{fa:Nat→Br}{G:HR}{kk:Nat}{l:List Sk}{m:List Nd}
theorem i'(H:DS (Iv c A) l m):DS (Good c A) (l.map Sk.k) m:=by
 induction H with
 |nil=>exact .nil
 |cons a _ ih=>exact .cons a.k ih
theorem XK(H:DS (Iv c A) l m):DS (Fx c A) (l.map Sk.s) (m.map Nd.ex):=by
 induction H with
 |nil=>exact .nil
 |cons a _ ih=>exact .cons (λh nf fr=>a.s h nf fr) ih
theorem Ws(H:DS (Iv c A) l m):(l.map λq=>q.k.n)=m.map Nd.n:=by
 induction H with
 |nil=>rfl
 |cons a _ ih=>exact (congrArg (· ::_) a.k.n).trans (congrArg (_:: ·) ih)
theorem Zb(g:Ex):Fx c A (λO O=>false) g:=λh O O=>ζ h
theorem pR(Z:Zt K c fa G A kk)(H:DS (Iv c A) l m)(t n:Nat):Fx c A (λsc st=>Ε 50 t&&sX (t - 50) n l sc st) (exN t n m):=λ{st env loc x} ok nf fr=>by
 refine D3 (BN (φ (band ok).1)) λq Fi=> ?_;subst Fi;have ok:=(band ok).2;rw [Ω] at ok;have hh:=Z.rm.handled;have hu:=Z.rm.u;revert ok;refine Fr (λok=>(w1 (P:=Fx c A) Zb H λa b A {O O O O} h nf fr=>zm A.k.e A.k.cp h nf fr) ok nf fr) (λq=> ?_) q;refine Fr (λok=>(w2 (P:=Fx c A) Zb H λa b a' b' A B {O O O O} h nf fr=>uS Z.B A.k.e B.k.e h nf fr) ok nf fr) (λq=> ?_) q;refine Fr (λok=>(w3 (P:=Fx c A) Zb H λa b a' b' SR Ss A B C {O O O O} h nf fr=>vM (by exact uJ hu rfl) A.k.e B.k.e C.k.e h nf fr) ok nf fr) (λq=> ?_) q;refine Fr (λok=>(wC (P:=Fx c A) Zb H λa b r r' A R {O O O O} h nf fr=>by rw [Ws R] at h;exact qV hh A.k.e h nf fr) ok nf fr) (λq=> ?_) q;refine Fr (λok=>(wC (P:=Fx c A) Zb H λa b r r' A R {O O O O} h nf fr=>by rw [Ws R] at h;exact vE hh A.k.es A.k.ps h nf fr) ok nf fr) (λq=> ?_) q;refine Fr (λok=>(w1 (P:=Fx c A) Zb H λa b A {O O O O} h nf fr=>tEx A.k.e h nf fr) ok nf fr) (λq=> ?_) q;refine Fr (λok=>(w2 (P:=Fx c A) Zb H λa b a' b' A B {O O O O} h nf fr=>uC Z A.k.e B.k.e B.k.p h nf fr) ok nf fr) (λq=> ?_) q;refine Fr (λok=>(w1 (P:=Fx c A) Zb H λa b A {O O O O} h nf fr=>xK A.k.e h nf fr) ok nf fr) (λq=> ?_) q;refine Fr (λok=>(w3 (P:=Fx c A) Zb H λa b a' b' SR Ss A B C {O O O O} h nf fr=>tIf A.k.e B.b C.b h nf fr) ok nf fr) (λq=> ?_) q;refine Fr (λok=>(w2 (P:=Fx c A) Zb H λa b a' b' A B {O O O O} h nf fr=>zv hh (Ji Z A.k) B.b h nf fr) ok nf fr) (λq=> ?_) q;refine Fr (λok=>(w2 (P:=Fx c A) Zb H λa b a' b' A B {O O O O} h nf fr=>xI A.k.e B.b h nf fr) ok nf fr) (λq=> ?_) q;refine Fr (λok=>uY ok nf fr) (λq=> ?_) q;refine Fr (λok=>yF ok nf fr) (λq=> ?_) q;refine Fr (λok=>(w1 (P:=Fx c A) Zb H λa b A {O O O O} h nf fr=>yN A.b h nf fr) ok nf fr) (λq=> ?_) q;refine Fr (λok=>tNo (o:=jL) ok nf fr) (λq=> ?_) q;exact λok=>ζ ok
theorem Rd(Z:Zt K c fa G A kk)(H:DS (Iv c A) l m)(t n:Nat):Iv c A (sT t n l) (mT G t n m):=by
 refine ⟨fJ Z (i' H) t n,λok nf fr=>pR Z H t n ok nf fr,λ{l env loc x} ok nf fr=> ?_⟩;have Jz:=(band ok).2;have w:=nb (band ok).1;clear ok;subst w;exact cm (XK H) Jz nf fr
theorem Z7(Z:Zt K c fa G A kk)(t:T):Iv c A (sk t) (nd G t):=
 T.rec (motive_1:=λt=>Iv c A (sk t) (nd G t)) (motive_2:=λl=>DS (Iv c A) (bD l) (GT G l)) (λt n ks ih=>Rd Z ih t n) .nil (λa r h1 h2=> .cons h1 h2) t
theorem YJ(Z:Zt K c fa G A kk)(l:List T):DS (Iv c A) (bD l) (GT G l):=
 T.rec_1 (motive_1:=λt=>Iv c A (sk t) (nd G t)) (motive_2:=λl=>DS (Iv c A) (bD l) (GT G l)) (λt n ks ih=>Rd Z ih t n) .nil (λa r h1 h2=> .cons h1 h2) l
end
end
end
section
mutual open A
variable{c:Cx}{s:Bl}{x y z:St c}{K:B4}{hf:HF}{ρ:RH}{σ:Store}{h:Bz}
theorem F5.sD(R:F5 c hf ρ σ h){p:Br×Br}{k:Dh}(hc:Gh c hf ρ h p k)(hl:I1 k=true)(new: ∀(j:Nat) z q,σ[j]?=some z→I1 z=true→ρ[j]?=some q→q.2≠p.2):F5 c hf (ρ++ [p]) (σ++ [k]) h:=by
 refine ⟨R.base,R.keep,by exact C9 ε<|C9 ε<|C9 R.len rfl,λi z q e1 e2=> ?_,λi j z z' q q' e1 e2 l1 l2 f1 f2 w=> ?_,λi q e=>E5 e (R.here i q) λO w=>w▸hc.Id hl⟩
 ·refine E5 e1 (λe1=> ?_) λw1 w2=> ?_
  ·have lt:i<ρ.length:=R.len▸FK e1
   rw [Ο lt] at e2;refine C9 (Ah (AY lt)) ?_;exact R.cells i z q e1 e2
  ·subst w1 w2
   rw [←R.len,AG (Ι _),Ai] at e2;refine Dr R.len<|C9 (Ah (Ι _))<|C9 AS<|Dr (η e2) ?_
   exact hc
 ·refine E5 f1 (λf1=> ?_) λw1 w2=> ?_
  ·rw [Ο (R.len▸FK f1)] at e1
   refine E5 f2 (λf2=> ?_) λw3 w4=>absurd (w.trans (w4▸rfl)) (new i z q e1 l1 f1);rw [Ο (R.len▸FK f2)] at e2;exact R.apart i j z z' q q' e1 e2 l1 l2 f1 f2 w
  ·refine E5 f2 (λf2=> ?_) λw3 O=>w1.trans w3.symm
   rw [Ο (R.len▸FK f2)] at e2;exact absurd (w.symm.trans (w2▸rfl)) (new j z' q' e2 l2 f2)
theorem Vd(l:Le x y):Le x (y.cut x.σ.length):=
 ⟨⟨l.nx.kf,λi p e=>(Ab.trans (if_pos (x.R.len▸FK e))).trans (l.nx.JX i p e),l.nx.Ee,l.nx.FA,λp hp=>l.nx.EE p (BC hp)⟩,l.sm⟩
structure Kp(y:St c)(n m:Nat)(G9:RH)(τ:Store):Prop where
 R:F5 c y.hf G9 τ y.s.heap
 pre: ∀(i:Nat) q,i<n→y.ρ[i]?=some q→G9[i]?=some q
 sub: ∀q∈G9,q∈y.ρ
 idx: ∀(j:Nat) k q,τ[j]?=some k→I1 k=true→G9[j]?=some q→ ∃j' k',j'<m∧y.σ[j']?=some k'∧I1 k'=true∧y.ρ[j']?=some q
theorem Kp.le{n m m':Nat}{G9:RH}{τ:Store}(k:Kp y n m G9 τ)(h:m≤m'):Kp y n m' G9 τ:=⟨k.R,k.pre,k.sub,λj z q e l f=>GD (k.idx j z q e l f) λj' k' a b=>(Gp j' k' (AQ a h) b)⟩
theorem Ja{α:Type}{l:List α}{n i:Nat}{a:α}(e:(l.take n)[i]?=some a):i<n∧l[i]?=some a:=by
 rw [Ab] at e
 by_cases h:i<n
 ·rw [if_pos h] at e;exact ⟨h,e⟩
 ·rw [if_neg h] at e;exact DC e
theorem Kp.start(y:St c)(n:Nat):Kp y n n (y.ρ.take n) (y.σ.take n):=
 ⟨y.R.trunc n,λi q h e=>(Ab.trans (if_pos h)).trans e,λq hq=>BC hq,λj k q e l f=>(FL j k ((Ja e).1) ((Ja e).2) l ((Ja f).2))⟩
theorem Kp.out{m:Nat}{G9:RH}{τ:Store}(k:Kp y x.σ.length m G9 τ)(l:Le x y):Le x ⟨y.hf,G9,τ,y.s,k.R⟩:=
 ⟨⟨l.nx.kf,λi p e=>k.pre i p (x.R.len▸FK e) (l.nx.JX i p e),l.nx.Ee,l.nx.FA,λp hp=>l.nx.EE p (k.sub p hp)⟩,l.sm⟩
theorem Kp.snoc{n m i:Nat}{G9:RH}{τ:Store}{p:Br×Br}{hd:Hd}{l l':List V}{o:Obj}{vs:List Bj}(k:Kp y n m G9 τ)(hi:m≤i)(hk:y.σ[i]?=some (.lv hd l))(hp:y.ρ[i]?=some p)(hn:y.hf p.2=none)(ho:y.s.heap.get? p.2=some o)(sh:Xj c y.hf p o hd vs)(hv:GC c y.hf G9 vs l'):
  Kp y n (i+1) (G9++ [p]) (τ++ [.lv hd l']):=by
 refine ⟨k.R.sD (FJ hn o vs ho sh hv) rfl λj z q e l f w=> ?_,λi q h e=>(Ο (FK (k.pre i q h e))).trans (k.pre i q h e),λq hq=> ?_,λj z q e l f=> ?_⟩
 ·refine Ib (k.idx j z q e l f) λj' k' a1 a2 a3 a4=> ?_
  exact absurd (y.R.apart j' i k' _ q p a2 hk a3 rfl a4 hp w) (AW (AQ a1 hi))
 ·exact (ω.mp hq).elim (k.sub q) λw=>ς.mp w▸AC hp
 ·refine E5 f (λf=> ?_) λw1 w2=>(FL i _ (AF i) hk rfl (w2▸hp))
  rw [Ο (k.R.len▸FK f)] at e;refine GD (k.idx j z q e l f) λj' k' a1 a2=> ?_;exact (Gp j' k' (A7 (AQ a1 hi)) a2)
structure Uv(y:St c)(i:Nat)(p:Br×Br)(hd:Hd)(l:List V)(o:Obj)(vs:List Bj):Prop where
 k:y.σ[i]?=some (.lv hd l)
 r:y.ρ[i]?=some p
 n:y.hf p.2=none
 g:y.s.heap.get? p.2=some o
 sh:Xj c y.hf p o hd vs
 v:DS (VV c y.hf (y.ρ.take i)) vs l
theorem Yp{k:Dh}{q:Hd×List V}(e:bh k=some q):k= .lv q.1 q.2:=by
 cases k with
 |lv h l=>(exact Dr (η e) rfl)
 |fz=>exact DC e
theorem WX{i:Nat}{k:Dh}{q:Hd×List V}{p:Br×Br}(h1:Sw y.σ i=some k)(h2:bh k=some q)(hp:y.ρ[i]?=some p): ∃o vs,Uv y i p q.1 q.2 o vs:=by
 have w:=Yp h2;subst w;refine Ke (y.R.cells i _ p h1 hp) λa o vs b d e=> ?_;exact ⟨o,vs,h1,hp,a,b,d,e⟩
theorem Uv.flat{i:Nat}{p:Br×Br}{hd:Hd}{l:List V}{o:Obj}{vs:List Bj}{ds:List D}(L:Uv y i p hd l o vs)(e:Mr l=some ds){G9:RH}:GC c y.hf G9 vs (ds.map .d):=by
 have v:=L.v;rw [Pb e] at v;exact KY.sY (GC.xV v)
theorem Xu{n:Nat}(l:List V): ∀{vs:List Bj} {m i:Nat} {G9:RH} {τ iy:Store} {l':List V},JJ y.σ m l τ=some (l',iy)→DS (VV c y.hf (y.ρ.take i)) vs l→m≤i→Kp y n m G9 τ→
  ∃N',Kp y n i N' iy∧GC c y.hf N' vs l'∧ ∀(j:Nat) q,G9[j]?=some q→N'[j]?=some q:=by
 induction l with
 |nil=>
  intro vs m i G9 τ iy l' e hv hm k;cases hv;refine NC (show some (([]:List V),τ)=some (l',iy) from e) ?_;exact (ED G9 (k.le hm) .nil (λO O e=>e))
 |cons a r ih=>
  intro vs m i G9 τ iy l' e hv hm k;cases hv with
  | @cons u _ us _ h1 h2=>
   cases a with
   |d d=>
    refine DP (x:=JJ y.σ m r τ) e λOv eY e1 e=> ?_;refine ES (ih e1 h2 hm k) λN' g1 g2 g3=> ?_;refine NC (show some (V.d d::Ov,eY)=some (l',iy) from e) ?_;exact (ED N' g1 (.cons h1 g2) g3)
   |cell j=>
    refine DY e λhj e=>DA e λq h3 e=>DA e λdk h4 e=>DP e λOv eY e1 e9=> ?_;refine DA h3 λck q1 h3=>DA h3 λlv q2 h3=>DA h3 λds q3 h3=> ?_;have w:=η h3;subst w;refine DQ h1 λp hp wu=> ?_;clear h1;refine wr λZ0 z0=> ?_;refine Dl (Ja hp) λhji hp=> ?_;refine HY (WX q1 q2 hp) λo ws L=> ?_;have k':=k.snoc (φ hj) L.k hp L.n L.g L.sh (L.flat q3);refine ES (ih e1 h2 hji k') λN' g1 g2 g3=> ?_;refine z0 ?_;refine NC (show some (V.cell τ.length::Ov,eY)=some (l',iy) from e9) ?_;refine (ED N' g1 (.cons (DM p (g3 _ _ ?_) wu) g2) (λj' q' f=>g3 _ _ ((Ο (FK f)).trans f)));exact Dr k.R.len<|C9 (AG (Ι _))<|C9 (Ai _) rfl
theorem Kp.last{n m:Nat}{G9:RH}{τ:Store}{p:Br×Br}{k:Dh}(K:Kp y n m (G9++ [p]) (τ++ [k])):(G9++ [p])[τ.length]?=some p:=by
 have:=K.R.len
 rw [ε,ε] at this
 have:G9.length=τ.length:=AK.inj this
 exact Dr this<|C9 (AG (Ι _))<|C9 (Ai _) rfl
theorem nB{keep:Bool}{n i:Nat}{σ:Store}(h:Ε n i=false):D5 keep n σ (.cell i)=some (.cell i,σ.take n):=by unfold D5;dsimp only;(exact C9 h rfl)
theorem LS{keep:Bool}{n i:Nat}{σ:Store}(h:Ε n i=true):D5 keep n σ (.cell i)=match keep with
 |false=>EI (Ht FZ (.cell i) σ) λz σ=>some (V.d z,σ.take n)
 |true=>Z9 n i σ:=by unfold D5;dsimp only;refine C9 h ?_;first|done|(cases keep<;>rfl)
theorem TM{keep:Bool}{v:V}{val:Bj}{r:V}{DT:Store}{Q:Bj→Bl→Prop}(l:Le x y)(hv:y.VV val v)(e:D5 keep x.σ.length y.σ v=some (r,DT))(k:Ok x DT r Q):Q val y.s:=by
 cases v with
 |d d=>
  revert k;refine NC (show some (V.d d,y.σ.take x.σ.length)=some (r,DT) from e) ?_;intro k;exact k val (y.cut x.σ.length) (Vd l) rfl hv
 |cell i=>
  cases hb:Ε x.σ.length i with
  |false=>
   revert k;refine NC (show some (V.cell i,y.σ.take x.σ.length)=some (r,DT) from ((nB hb).symm.trans e)) ?_;intro k;exact k val (y.cut x.σ.length) (Vd l) rfl (VV.down hv hb)
  |true=>
   have e:=(LS hb).symm.trans e;have hb:=φ hb;cases keep with
   |false=>
    refine DP (x:=Ht FZ (.cell i) y.σ) (f:=λz σ=>some (V.d z,σ.take x.σ.length)) e λd DD e1 e=>II e1 hv λFh R' l' dv=> ?_;revert k;refine NC (show some (V.d d,DD.take x.σ.length)=some (r,DT) from e) ?_;intro k;exact k val (St.cut ⟨Fh,y.ρ,DD,y.s,R'⟩ x.σ.length) (Vd (l.trans l')) rfl dv
   |true=>
    refine DQ hv λp hp w=> ?_;clear hv;refine wr λZ0 z0=> ?_;have hp:y.ρ[i]?=some p:=hp;refine DA (show Z9 x.σ.length i y.σ=some (r,DT) from e) λck q1 e=>DA e λq q2 e=> ?_;refine HY (WX q1 q2 hp) λo vs L=> ?_;obtain ⟨hd,ls⟩:=q;refine z0 ?_
    have flat:(DN (Mr ls) λl=>some (push (y.σ.take x.σ.length) (.lv hd (l.map .d))))=some (r,DT)→Q val y.s:=λe=>DA e λds q3 e=>by
     have k':=(Kp.start y x.σ.length).snoc hb L.k hp L.n L.g L.sh (L.flat q3);revert k;refine NC (show some (V.cell (y.σ.take x.σ.length).length,y.σ.take x.σ.length++ [Dh.lv hd (ds.map .d)])=some (r,DT) from e) ?_;intro k;exact k val ⟨y.hf,_,_,y.s,k'.R⟩ (k'.out l) rfl (DM p k'.last w)
    cases hd with
    |tup=>exact DC e
    |lst=>exact flat e
    |Dg=>exact flat e
    |inst cl=>
     refine DP (x:=JJ y.σ x.σ.length ls (y.σ.take x.σ.length)) e λfs τ e1 e=> ?_;refine ES (Xu ls e1 L.v hb (Kp.start y x.σ.length)) λN' g1 g2 g3=> ?_;have k':=g1.snoc (Ι i) L.k hp L.n L.g L.sh g2;revert k;refine NC (show some (V.cell τ.length,τ++ [Dh.lv (.inst cl) fs])=some (r,DT) from e) ?_;intro k;exact k val ⟨y.hf,_,_,y.s,k'.R⟩ (k'.out l) rfl (DM p k'.last w)
end
end
section
mutual open A
variable{c:Cx}{A:Bs}{s:Bl}{x y z:St c}{env:Env}{loc:Di}{fd:CD}{binds pre:List (Str×Bj)}
structure zt(fd:CD):Prop where
 kind:fd.scope.kind= .function
 co:fd.scope.isCoroutine=false
 gen:fd.scope.isGenerator=false
 glob:fd.globals=Bx
 fb:fd.builtins=Cv
 clo:fd.closure= []
 cH: ∀n,fd.scope.names.lookup n≠some .free
abbrev Bd(x:St c):List (Str×Bj)→Di→Prop:=DS λb p=>b.1=nm p.1∧x.VV b.2 p.2
theorem PP{k:Str→Option B0}{n:Str}(r:List (Str×Bj)): ∀m:Str→Option Bj,n ∉ r.map (·.1)→bindL k r m n=m n:=by
 induction r with
 |nil=>intro m _;rfl
 |cons b r ih=>
  intro m h;rw [Χ,ν,not_or] at h;show bindL k r (if k b.1=some .local then λy=>if y=b.1 then some b.2 else m y else m) n=m n;refine C9 (ih _ h.2) ?_
  by_cases q:k b.1=some .local
  ·rw [if_pos q,if_neg h.1]
  ·(exact C9 (if_neg q) rfl)
theorem PV{k:Str→Option B0}{n:Str}(r:List (Str×Bj)): ∀m:Str→Option Bj,n ∉ r.map (·.1)→bindC k r m n=m n:=by
 induction r with
 |nil=>intro m _;rfl
 |cons b r ih=>
  intro m h;rw [Χ,ν,not_or] at h;show bindC k r (if k b.1=some .local then m else λy=>if y=b.1 then some b.2 else m y) n=m n;refine C9 (ih _ h.2) ?_
  by_cases q:k b.1=some .local
  ·(exact C9 (if_pos q) rfl)
  ·rw [if_neg q,if_neg h.1]
theorem YH{k:Str→Option B0}(bd:Bd x binds loc):(binds.map (·.1)).Nodup→ ∀{a:Nat} {v:V},DE loc a=some v→ ∃val,x.VV val v∧(k (nm a)=some .local→ ∀m,bindL k binds m (nm a)=some val)∧(k (nm a)≠some .local→ ∀m,bindC k binds m (nm a)=some val):=by
 induction bd with
 |nil=>intro _ a v e;exact DC (e:none=_)
 | @cons b p binds loc h _ ih=>
  intro nd a v e;rw [Χ,Η] at nd;refine E9 (e:cond (μ p.1 a) (some p.2) (DE loc a)=some v) (λhb e=> ?_) λhb e=> ?_
  ·have w:=nb hb
   have hn:nm a ∉ binds.map (·.1):=by exact Dr w<|Dr h.1 nd.1
   refine (ED b.2 (η e▸h.2) (λq m=> ?_) (λq m=> ?_))
   ·refine (PP binds _ hn).trans ?_
    rw [h.1,w,if_pos q,if_pos rfl]
   ·refine (PV binds _ hn).trans ?_
    rw [h.1,w,if_neg q,if_pos rfl]
  ·refine ES (ih nd.2 e) λval h1 h2 h3=> ?_
   exact (ED val h1 (λq m=>h2 q _) (λq m=>h3 q _))
theorem YX{k:Str→Option B0}(r:List (Str×Bj))(pre:List (Str×Bj)): ∀m:Str→Option Bj,∃m',bindL k (pre++r) m=bindL k r m':=by
 induction pre with
 |nil=>intro m;exact (EF m rfl)
 |cons b pre ih=>intro m;exact ih _
theorem Yz{k:Str→Option B0}(r:List (Str×Bj))(pre:List (Str×Bj)): ∀m:Str→Option Bj,∃m',bindC k (pre++r) m=bindC k r m':=by
 induction pre with
 |nil=>intro m;exact (EF m rfl)
 |cons b pre ih=>intro m;exact ih _
theorem Xc{n:Str}(r:List (Str×B0)): ∀(k:Nat) (acc:List (Str×Br)),(acc.lookup n).isSome=true→((Cg k r acc).lookup n).isSome=true:=by
 induction r with
 |nil=>intro k acc h;exact h
 |cons q r ih=>
  intro k acc h;show ((if q.2== .cell then Cg (k+1) r ((q.1,k)::acc) else Cg k r acc).lookup n).isSome=true
  by_cases z:(q.2== .cell)=true
  ·refine C9 (if_pos z) ?_
   refine ih _ _ ?_;refine C9 Ae ?_;cases n==q.1 with
   |true=>rfl
   |false=>exact h
  ·exact C9 (if_neg z)<|ih _ _ h
theorem Jg{n:Str}(r:List (Str×B0)): ∀(k:Nat) (acc:List (Str×Br)),r.lookup n=some .cell→((Cg k r acc).lookup n).isSome=true:=by
 induction r with
 |nil=>intro k acc h;exact DC h
 |cons q r ih=>
  intro k acc h;rw [Ae] at h;show ((if q.2== .cell then Cg (k+1) r ((q.1,k)::acc) else Cg k r acc).lookup n).isSome=true;cases z:n==q.1 with
  |true=>
   rw [z] at h;refine C9 (η h)<|C9 (if_pos (beq_self_eq_true B0.cell)) ?_
   refine Xc r _ _ ?_;exact C9 Ae<|C9 z rfl
  |false=>
   rw [z] at h
   by_cases w:(q.2== .cell)=true
   ·exact C9 (if_pos w)<|ih _ _ h
   ·exact C9 (if_neg w)<|ih _ _ h
theorem Zx{f:Br}{D6:Bl}(S:zt fd)(bd:Bd x binds loc)(nd:(binds.map (·.1)).Nodup)(low: ∀p∈loc,p.1<Fw.length)
  (I:InCallC x.s (B8 fd x.s.heap.objs.size f).locals (bindL (B8 fd x.s.heap.objs.size f).kindOf (pre++binds) λO=>none) (B8 fd x.s.heap.objs.size f).cells (bindC (B8 fd x.s.heap.objs.size f).kindOf (pre++binds) λO=>none) D6):
  ∃R:F5 c x.hf x.ρ x.σ D6.heap,Le x ⟨x.hf,x.ρ,x.σ,D6,R⟩∧FR (B8 fd x.s.heap.objs.size f) loc ⟨x.hf,x.ρ,x.σ,D6,R⟩∧ ∀b,NO (B8 fd x.s.heap.objs.size f) b→x.s.heap.get? b=none:=by
 have R:F5 c x.hf x.ρ x.σ D6.heap:=x.R.Ef λb o e O=>I.toInCall.keep b o e;have sm:GB x.s D6:=HY I.toInCall.same λh t e=>e▸⟨rfl,rfl,rfl⟩
 have own: ∀b,NO (B8 fd x.s.heap.objs.size f) b→x.s.heap.get? b=none:=λb hb=>Lg (by
  rcases hb with w|⟨n,hn⟩
  ·exact Nat.le_of_eq w.symm
  ·exact AY (I.above n b (mem_of_lookup hn)))
 refine ⟨R,⟨F9 _ _ I.toInCall.keep,sm⟩,⟨⟨S.kind,S.glob,S.fb,I.apart,λn b e=>Nat.ne_of_gt (I.above n b (mem_of_lookup e)),λn e=> ?_⟩,λa v e=> ?_,λa v e se=> ?_,⟨_,I.toInCall.ns⟩,λn b e=>⟨_,I.cell n b e⟩,λb hb=>x.R.fresh (own b hb)⟩,own⟩
 ·refine DA (x:=fd.scope.names.lookup n) e λk h1 h2=> ?_
  cases k with
  |cell=>exact Jg _ _ _ h1
  |free=>exact absurd h1 (S.cH n)
  |«local»=>exact absurd (η h2) NK.noConfusion
  |globalImplicit=>exact absurd (η h2) NK.noConfusion
  |_=>exact DC h2
 ·have mem: ∀{l:Di} {a:Nat} {v:V},DE l a=some v→ ∃u,(a,u)∈l:=λ{l}=>by
   induction l with
   |nil=>intro a v e;exact DC (e:none=_)
   |cons p l ih=>intro a v e;exact E9 (e:cond (μ p.1 a) (some p.2) (DE l a)=some v) (λhb O=>⟨p.2,nb hb▸ .head _⟩) λO e=>D3 (ih e) λu h=>⟨u, .tail _ h⟩
  obtain ⟨u,hu⟩:=mem e;exact low _ hu
 ·obtain ⟨val,h1,h2,h3⟩:=YH (k:=(B8 fd x.s.heap.objs.size f).kindOf) bd nd e
  refine ⟨val, ?_,h1⟩
  by_cases q:(B8 fd x.s.heap.objs.size f).kindOf (nm a)=some .local
  ·obtain ⟨m',hm⟩:=YX (k:=(B8 fd x.s.heap.objs.size f).kindOf) binds pre λO=>none
   exact .inl ⟨q,_,I.toInCall.ns,(congrFun hm _).trans (h2 q _)⟩
  ·unfold seen vw at se
   have nf:=S.cH (nm a)
   have hc:fd.scope.names.lookup (nm a)=some .cell:=by
    have se:(match DN (fd.scope.names.lookup (nm a)) nk with|some .loc=>true|some .cf=>true|_=>false)=true:=se;have q: ¬fd.scope.names.lookup (nm a)=some .local:=q;cases w:fd.scope.names.lookup (nm a) with
    |none=>rw [w] at se;exact ζ se
    |some k=>
     rw [w] at se nf q;cases k with
     |cell=>rfl
     |free=>exact absurd rfl nf
     |«local»=>exact absurd rfl q
     |_=>exact ζ se
   obtain ⟨b,hb⟩:=AV.mp (Jg _ (x.s.heap.objs.size+1) [] hc);have hb:(B8 fd x.s.heap.objs.size f).cells.lookup (nm a)=some b:=hb;obtain ⟨m',hm⟩:=Yz (k:=(B8 fd x.s.heap.objs.size f).kindOf) binds pre λO=>none;exact .inr ⟨.inl hc,b,hb,by exact Dr (h3 q m')<|Dr (congrFun hm (nm a))<|I.cell _ _ hb⟩
theorem Vo{R:C8→Bl→Prop}{f:Br}{o:Obj}{body:List CC}{vals:List Bj}(u8:A.depth<recursionLimit)(ho:x.s.heap.get? f=some o)(tV:o.data= .func fd)(yZ:x.s.heap.NoLimit)(xM:x.s.heap.CodeRec fd.code fd.qualname)(tf:fd.body= .stmts body)(S:zt fd)
  (t4:CZ x.s fd ⟨vals, []⟩ (pre++binds)) (bd:Bd x binds loc) (nd:((pre++binds).map (·.1)).Nodup) (low: ∀p∈loc,p.1<Fw.length) (hk: ∀b∈pre++binds,fd.scope.names.lookup b.1=some .local∨fd.scope.names.lookup b.1=some .cell)
  (h: ∀env (y:St c),env.scope=fd.scope→y.σ=x.σ→Le x y→FR env loc y→(∀b∈pre++binds,MP env y.s.heap b.1 b.2)→(∀b,NO env b→x.s.heap.get? b=none)→Bp (Bq c.prog c.w) (A.deeper env) (PySem.execs body env) (λfl s'=>R (.ok (.ret (match fl with| .ret v=>v|_=> .none))) s') Dq y.s):
  Ci (Bq c.prog c.w) A (.call (.ref f) ⟨vals, []⟩) R x.s:=by
 refine codeAny_call_function u8 ho tV S.co S.gen tf xM (t4 _ _ _ _ ?_);refine C9 S.clo ?_;refine wpAny_newFunctionEnv_cells S.kind (λb hb=>(hk b hb).imp id λh=>⟨h,Jg _ _ _ h⟩) λenv he s' I=> ?_;subst he;refine ⟨yZ.keeps I.toInCall.keep,codeAny_func ?_⟩;obtain ⟨R',l,fr,own⟩:=Zx (f:=f) S bd (by rw [χ] at nd;exact (AE.mp nd).2.1) low I;refine Bu (h _ ⟨x.hf,x.ρ,x.σ,s',R'⟩ rfl rfl l fr (λb hb=> ?_) own) (λO O h=>h) λO O z=>z.elim
 have look: ∀{k:Str→Option B0} {l:List (Str×Bj)},(l.map (·.1)).Nodup→b∈l→(k b.1=some .local→ ∀m,bindL k l m b.1=some b.2)∧(k b.1≠some .local→ ∀m,bindC k l m b.1=some b.2):=λ{k l}=>by
  induction l with
  |nil=>intro _ h;exact absurd h Γ
  |cons q l ih=>
   intro nd h;rw [Χ,Η] at nd;rcases ν.mp h with w|w
   ·subst w
    refine ⟨λz m=> ?_,λz m=> ?_⟩
    ·refine (PP l _ nd.1).trans ?_
     rw [if_pos z,if_pos rfl]
    ·refine (PV l _ nd.1).trans ?_
     rw [if_neg z,if_pos rfl]
   ·exact ⟨λz m=>(ih nd.2 w).1 z _,λz m=>(ih nd.2 w).2 z _⟩
 obtain ⟨h1,h2⟩:=look (k:=(B8 fd x.s.heap.objs.size f).kindOf) nd hb;rcases hk b hb with q|q
 ·exact .inl ⟨q,_,I.toInCall.ns,h1 q _⟩
 ·have nl:(B8 fd x.s.heap.objs.size f).kindOf b.1≠some .local:=λz=>by rw [show (B8 fd x.s.heap.objs.size f).kindOf b.1=some .cell from q] at z;exact B0.noConfusion (η z)
  obtain ⟨cc,hc⟩:=AV.mp (Jg _ (x.s.heap.objs.size+1) [] q);have hc:(B8 fd x.s.heap.objs.size f).cells.lookup b.1=some cc:=hc;exact .inr ⟨.inl q,cc,hc,by exact Dr (h2 nl λO=>none)<|I.cell _ _ hc⟩
end
end
section
mutual open A
variable{c:Cx}{A:Bs}{s:Bl}{E:Bj→Bl→Prop}{x y z:St c}{K:B4}{env:Env}{loc:Di}{fd:CD}{fa:Nat→Br}
theorem Jo.out(l:Jo env y z)(l0:Le x y)(own: ∀b,NO env b→x.s.heap.get? b=none):Le x z:=by
 refine ⟨⟨λb o e=>l.kf b o (l0.nx.kf b o e),λi p e=>l.JX i p (l0.nx.JX i p e),λb o e n=>l.Ee b o (l0.nx.Ee b o e n) (λp hp q=> ?_) λw=>DC ((own b w).symm.trans e),λb o e=> ?_,λp hp=> ?_⟩,l0.sm.trans l.sm⟩
 ·rcases l0.nx.EE p hp with ⟨r,hr,w⟩|w
  ·exact n r hr (w.trans q)
  ·exact DC (w.symm.trans (q▸e))
 ·rcases l.FA b o e with w|⟨p,hp,w⟩|w
  ·exact l0.nx.FA b o w
  ·rcases l0.nx.EE p hp with ⟨q,hq,e⟩|q
   ·exact .inr (.inl (DM q hq (e.trans w)))
   ·exact .inr (.inr (w▸q))
  ·exact .inr (l0.nx.back w)
 ·rcases l.EE p hp with ⟨r,hr,w⟩|w
  ·exact w▸l0.nx.EE r hr
  ·exact l0.nx.back w
theorem eP{α β:Type}{f g:α→Option β}: ∀{l:List α},(∀a∈l,f a=g a)→l.filterMap f=l.filterMap g:=λ{l}=>by
 induction l with
 |nil=>intro _;rfl
 |cons a l ih=>intro h;(exact C9 As<|C9 As<|C9 (h a (.head _))<|C9 (ih λb hb=>h b (.tail _ hb)) rfl)
theorem VP{α:Type}(ns:List Str): ∀(us:List α),ns.Nodup→us.length=ns.length→ns.filterMap (λn=>((ns.zip us).lookup n).map (n,·))=ns.zip us:=by
 induction ns with
 |nil=>intro us _ _;rfl
 |cons n ns ih=>
  intro us nd h;cases us with
  |nil=>exact Α h
  |cons u us=>
   rw [Η] at nd;refine C9 Bh<|C9 As<|C9 Ae<|C9 (beq_self_eq_true _) ?_
   refine congrArg ((n,u):: ·) ((eP λm hm=> ?_).trans (ih us nd.2 (AK.inj h)));have ne:(m==n)=false:=beq_eq_false_iff_ne.mpr λz=>nd.1 (z▸hm)
   (exact C9 Ae<|C9 ne rfl)
theorem eD{α:Type}(ns:List Str): ∀(us:List α),us.length=ns.length→ ∀n∈ns,((ns.zip us).lookup n).isNone=false:=by
 induction ns with
 |nil=>intro us _ n h;exact absurd h Γ
 |cons m ns ih=>
  intro us h n hn;cases us with
  |nil=>exact Α h
  |cons u us=>
   refine C9 Bh<|C9 Ae ?_
   cases q:n==m with
   |true=>rfl
   |false=>exact ih us (AK.inj h) n ((ν.mp hn).resolve_left λz=>by rw [z,beq_self_eq_true] at q;exact ζ q)
structure dQ(fd:CD)(ns:List Str):Prop where
 p1:fd.params.posonlyargs= []
 p2:fd.params.args.map (·.arg)=ns
 p3:fd.params.kwonlyargs= []
 p4:fd.params.vararg=none
 p5:fd.params.kwarg=none
 p6:fd.defaults= .none
theorem Zr{α:Type}{M:Model}{A:Bs}{Q:α→Bl→Prop}{E:Bj→Bl→Prop}{st:Bl}{b:Bool}{x y:Sem α}(h:b=false)(k:Bp M A y Q E st):Bp M A (if b=true then x else y) Q E st:=by exact C9 h k
abbrev py:(Str×Bj)→List (Str×Bj)→Sem (ForInStep (List (Str×Bj))):=λx s=>if (Bb x.fst s).isNone=true then pure (ForInStep.yield (s++ [(x.fst,x.snd)])) else pure (ForInStep.yield s)
theorem Pa{as:List Arg}{us ds:List Bj}{r:Option (Array Bj)}{sl bs:List (Str×Bj)}{oo qn bd sc gl cl dv kd dc pm an co ct xx pH df}(hr:(r.getD #[]).toList=ds)
  (hs: ∀{M:Model} {A:Bs} {Q:Option (Array Bj)→Bl→Prop} {E:Bj→Bl→Prop},Q r s→Bp M A (seqItems? dv) Q E s)
  (h1:us.length≤(as.map (·.arg)).length)
  (h2:(!(List.filter (λn=>(Bb n ((as.map (·.arg)).zip us)).isNone) (List.take ((as.map (·.arg)).length - (ds.drop (ds.length - (as.map (·.arg)).length)).length) (as.map (·.arg)))).isEmpty)=false)
  (hl: ∀{M:Model} {A:Bs} {Q:List (Str×Bj)→Bl→Prop} {E:Bj→Bl→Prop},Q sl s→Bp M A (forIn (((as.map (·.arg)).drop ((as.map (·.arg)).length - (ds.drop (ds.length - (as.map (·.arg)).length)).length)).zip (ds.drop (ds.length - (as.map (·.arg)).length))) ((as.map (·.arg)).zip us) py) Q E s)
  (hb:(as.map Arg.arg++ []).filterMap (λn=>(sl.lookup n).map λx=>(n,x))=bs):
  CZ s ⟨oo,qn,⟨[],as,none, [],pH,none,df⟩,bd,sc,gl,cl,dv,kd,dc,pm,an,co,ct,xx⟩ ⟨us, []⟩ bs:=λM A E Q hq=>by
 subst hr hb;refine Bk (Bn (Bk (m:=seqItems? dv) (hs (Zr ?_ (Zr h2 (Bk (hl (Bk (Bn (Zr rfl (Bn hq)))))))))));show (decide (us.length>(as.map (·.arg)).length)&&true)=false;exact C9 (decide_eq_false (Nat.not_lt_of_le h1)) rfl
theorem aB{as:List Arg}{us:List Bj}{oo qn bd sc gl cl kd dc pm an co ct xx pH df}(nd:(as.map (·.arg)).Nodup)(h:us.length=(as.map (·.arg)).length):
  CZ s ⟨oo,qn,⟨[],as,none, [],pH,none,df⟩,bd,sc,gl,cl, .none,kd,dc,pm,an,co,ct,xx⟩ ⟨us, []⟩ ((as.map (·.arg)).zip us):=by
 refine Pa (r:=none) (ds:= []) (sl:=(as.map (·.arg)).zip us) rfl Bn (Nat.le_of_eq h) ?_ (λ{M A Q E} k=> ?_) ?_
 ·generalize as.map (·.arg)=ns at h nd
  rw [List.drop_nil,BJ,Nat.sub_zero,AS,List.filter_eq_nil_iff.mpr]
  ·rfl
  ·exact λn hn=>by exact C9 (eD ns us h n hn) Aj
 ·exact C9 List.drop_nil<|C9 List.zip_nil_right<|Bn k
 ·(exact C9 (υ _)<|VP _ us nd h)
theorem TE{ns:List Str}{us:List Bj}(P:dQ fd ns)(nd:ns.Nodup)(h:us.length=ns.length):CZ s fd ⟨us, []⟩ (ns.zip us):=by
 have ⟨p1,p2,p3,p4,p5,p6⟩:=P;clear P;subst p2;obtain ⟨oo,qn,⟨po,as,va,ko,pH,kw,df⟩,bd,sc,gl,cl,dv,kd,dc,pm,an,co,ct,xx⟩:=fd;dsimp only at p1 p3 p4 p5 p6 nd h ⊢;subst p1 p3 p4 p5 p6;exact aB nd h
theorem Hl{df:Nat}{ps:List Nat}: ∀{args:List V} {loc:Di},Mine.Internal.bindArgs ps args df=some loc→loc.map (·.1)=ps:=by
 induction ps with
 |nil=>intro args loc e;cases args with
  |nil=>exact Dr (η (e:some []=some loc)) rfl
  |cons=>exact DC e
 |cons p ps ih=>intro args loc e;cases args with
  |nil=>exact DY (b:=Ε (ps.length+1) df) e λO e=>DA e λl h1 e=>by exact Dr (η e)<|congrArg (p:: ·) (ih h1)
  |cons a args=>exact DA (x:=Mine.Internal.bindArgs ps args df) e λl h1 e=>by exact Dr (η e)<|congrArg (p:: ·) (ih h1)
def MJ(ps:List Nat)(us:List Bj):List (Str×Bj):=(ps.map nm).zip (us++AA (ps.length - us.length) .none)
theorem W7{df:Nat}{ps:List Nat}: ∀{us:List Bj} {args:List V} {loc:Di},Mine.Internal.bindArgs ps args df=some loc→x.GC us args→us.length≤ps.length∧ps.length≤us.length+df∧Bd x (MJ ps us) loc:=by
 induction ps with
 |nil=>intro us args loc e hv;cases hv with
  |nil=>exact Dr (η (e:some []=some loc))<|⟨Ι _,AT _, .nil⟩
  |cons=>exact DC e
 |cons p ps ih=>
  intro us args loc e hv;cases hv with
  |nil=>
   refine DY (b:=Ε (ps.length+1) df) e λhb e=>DA e λl h1 e=> ?_;have i:=(ih (us:= []) h1 .nil).2.2;refine Dr (η e) ?_;exact ⟨AT _,by exact C9 BJ<|C9 (BP _)<|φ hb,show Bd x ((nm p,Bj.none)::MJ ps []) ((p,V.d .none)::l) from DS.cons ⟨rfl,DV.none⟩ i⟩
  | @cons u _ us args h1 h2=>
   refine DA (x:=Mine.Internal.bindArgs ps args df) e λl e1 e=> ?_;refine ET (ih e1 h2) λi1 i2 i3=> ?_;refine Dr (η e) ?_;refine ⟨Κ i1,by refine C9 ξ<|C9 ξ ?_;exact zsh i2, ?_⟩;unfold MJ;refine C9 ξ<|C9 ξ<|C9 (Nat.succ_sub_succ _ _) ?_
   exact .cons ⟨rfl,h1⟩ i3
theorem TR{binds:List (Str×Bj)}(bd:Bd x binds loc):binds.map (·.1)=(loc.map (·.1)).map nm:=by
 induction bd with
 |nil=>rfl
 |cons h _ ih=>rw [Χ,Χ,Χ,h.1,ih]
structure FnAt(K:B4)(c:Cx)(fa:Nat→Br)(i:Nat)(fn:Fn)(o:Obj)(fd:CD)(body:List CC):Prop where
 ob:K.lookup (fa i)=some o
 dt:o.data= .func fd
 bd:fd.body= .stmts body
 S:zt fd
 cd: ∃cc oc vs t,fd.code= .ref cc∧K.lookup cc=some oc∧oc.data= .fields vs∧vs[1]?=some (.str fd.qualname t)
 ok:Oe (vw fd.scope) ((bD fn.body).map Sk.s) body=true
 nd:(fn.ps.map nm).Nodup
 pk: ∀n∈fn.ps,n<Fw.length∧(fd.scope.names.lookup (nm n)=some .local∨fd.scope.names.lookup (nm n)=some .cell)
 bind: ∀{s:Bl} {us:List Bj},K.In s.heap→us.length≤fn.ps.length→fn.ps.length≤us.length+fn.df→CZ s fd ⟨us, []⟩ (MJ fn.ps us)
structure vq(K:B4)(c:Cx)(fa:Nat→Br):Prop where
 at_: ∀i fn,fns[i]?=some fn→ ∃o fd body,FnAt K c fa i fn o fd body
theorem gV{ps:List Nat}{us:List Bj}(P:dQ fd (ps.map nm))(nd:(ps.map nm).Nodup)(h1:us.length≤ps.length)(h2:ps.length≤us.length+0):CZ s fd ⟨us, []⟩ (MJ ps us):=by
 have e:us.length=ps.length:=Aq h1 h2;unfold MJ;refine C9 e<|C9 (Ai _)<|C9 List.replicate_zero<|C9 (υ _) ?_
 exact TE P nd (by exact C9 (ι _) e)
theorem FnAt.code{i:Nat}{fn:Fn}{o:Obj}{body:List CC}(F:FnAt K c fa i fn o fd body)(X:K.In s.heap):s.heap.CodeRec fd.code fd.qualname:=
 GY F.cd λcc oc vs t h1 h2 h3 h4=>(FQ cc oc vs t h1 (X _ _ h2) h3 h4)
theorem UN{out:HW}{v:V}{σ:Store}{P:Prop}(e:jI out=some (v,σ))(h1:out= .ret v σ→P)(h2: ∀loc,out= .go 0 loc σ→v= .d .none→P):P:=by
 cases out with
 |ret w τ=>
  revert h1;refine NC (show some (w,τ)=some (v,σ) from e) ?_;intro h1;exact h1 rfl
 |go n loc τ=>cases n with
  |zero=>
   revert h2;refine NC (show some (V.d .none,τ)=some (v,σ) from e) ?_;intro h2;exact h2 loc rfl rfl
  |succ=>exact DC e
theorem ip(B:I2 K c)(F:vq K c fa){n:Nat}{keep:Bool}{i:Nat}{args:List V}{r:V}{DT:Store}{us:List Bj}{Q:Bj→Bl→Prop}(hd:A.depth<1000)(Z: ∀env,∃kk,Zt K c fa (DZ n) (A.deeper env) kk)(e:(DZ (n+1)).call keep i args x.σ=some (r,DT))(hv:x.GC us args)(k:Ok x DT r Q):
  Bp (Bq c.prog c.w) A (PySem.call (.ref (fa i)) us) Q Dq x.s:=by
 refine wr λZ0 z0=> ?_;refine DA (x:=fns[i]?) e λfn h1 e=>DP (x:=run (DZ n) fn args x.σ) e λv DD e1 e2=>DA (x:=Mine.Internal.bindArgs fn.ps args fn.df) e1 λloc e3 e4=>DA (x:=Yh ((GT (DZ n) fn.body).map Nd.ex) loc x.σ) e4 λout e5 e6=> ?_;refine S5 (F.at_ i fn h1) λo fd body F=> ?_;refine ET (W7 e3 hv) λb1 b2 bd=> ?_;refine z0 ?_;have X:=x.R.av B.X;have hb:=F.bind X b1 b2;have names:=TR bd;rw [Hl e3] at names;have low: ∀p∈loc,p.1<Fw.length:=λp hp=>(F.pk p.1 (Hl e3▸AD.mpr (DM p hp rfl))).1;refine wpAny_call (Vo (pre:= []) (binds:=MJ fn.ps us) hd (X _ _ F.ob) F.dt (B.nolimit.keeps x.base) (F.code X) F.bd F.S hb bd (by exact C9 (Bc _)<|C9 names F.nd) low (λb hb=> ?_) λenv y hs ey l fr O own=> ?_)
 ·have:b.1∈fn.ps.map nm:=by exact Dr names<|AD.mpr (DM b hb rfl)
  refine DQ (AD.mp this) λm hm w=> ?_;exact w▸(F.pk m hm).2
 ·refine D3 (Z env) λkk Z=> ?_
  refine ((cm (XK (YJ Z fn.body))) (show Oe (vw env.scope) ((bD fn.body).map Sk.s) body=true by exact C9 hs F.ok) (λid=>by unfold Env.kindOf;exact C9 hs<|F.S.cH id) fr).run (Q:=λfl s'=>Q (match fl with| .ret v=>v|_=> .none) s') (ey.symm▸e5) ?_;refine UN e6 (λw=> ?_) λDG w w2=> ?_
  ·refine C9 w ?_
   exact λval z lx ez hz=>TM (lx.out l own) hz (by exact C9 ez e2) k
  ·refine C9 w ?_
   exact λz lx ez fz=>TM (val:= .none) (v:= .d .none) (lx.out l own) DV.none (by exact C9 ez<|Dr w2 e2) k
end
end
section
mutual open A
variable{c:Cx}{A:Bs}{s:Bl}{E:Bj→Bl→Prop}{x y z:St c}{K:B4}{env:Env}{loc:Di}{fa:Nat→Br}{G:HR}{kk:Nat}
def TA(s:Nat):List T→Bool
 | []=>true
 |t::r=>oB (bS t.ks) (λp=>μ p.2.nr s)&&TA s r
theorem UD{l:List T}{p:T×T}(h:bS l=some p):l= [p.1,p.2]:=by
 cases l with
 |nil=>exact DC h
 |cons a l=>cases l with
  |nil=>exact DC h
  |cons b l=>cases l with
   |nil=>(exact Dr (η h) rfl)
   |cons=>exact DC h
theorem VM{a:Nat}{v:Bj}{pos:Pos}{Q:Bj→Bl→Prop}(S:FS env)(N:MP env s.heap (nm a) v)(d:(!EW (nm a))=true)(q:Q v s):Bp (Bq c.prog c.w) A (eval (.Name (nm a) pos) env) Q E s:=by
 refine Dl (LX d) λd1 d2=> ?_;refine wpAny_Name ?_ d1;rcases N with ⟨a,m,b,z⟩|⟨a|a,b,hb,z⟩
 ·exact wpAny_loadName_local S.kind a b z q
 ·exact wpAny_loadName_cell S.kind a hb z q
 ·exact wpAny_loadName_free S.kind a hb z q d2
theorem U4{α:Type}{a b:Nat}{v:α}(pre:List Nat): ∀vs:List α,pre.length=vs.length→a ∉ pre→Dt (pre++ [a]) (vs++ [v]) b=if b=a then some v else Dt pre vs b:=by
 induction pre with
 |nil=>
  intro vs h _;cases vs with
  |cons=>exact Α h
  |nil=>
   show cond (μ a b) (some v) none=_
   by_cases q:b=a
   ·exact C9 (if_pos q)<|C9 q<|C9 (AH _) rfl
   ·exact C9 (if_neg q)<|C9 (jM (Ne.symm q)) rfl
 |cons p pre ih=>
  intro vs h hn;cases vs with
  |nil=>exact Α h
  |cons u vs=>
   rw [ν,not_or] at hn;show cond (μ p b) (some u) (Dt (pre++ [a]) (vs++ [v]) b)=if b=a then some v else cond (μ p b) (some u) (Dt pre vs b)
   refine C9 (ih vs (AK.inj h) hn.2) ?_
   by_cases q:p=b
   ·have RP: ¬b=a:=λz=>hn.1 (z.symm.trans q.symm)
    (exact C9 q<|C9 (AH _)<|C9 (if_neg RP)<|C9 (if_neg RP) rfl)
   ·exact C9 (jM q) rfl
theorem Xw{α:Type}{a:Nat}(pre:List Nat): ∀vs:List α,a ∉ pre→Dt pre vs a=none:=by
 induction pre with
 |nil=>intro vs _;cases vs<;>rfl
 |cons p pre ih=>
  intro vs hn;rw [ν,not_or] at hn;cases vs with
  |nil=>rfl
  |cons u vs=>
   show cond (μ p a) (some u) (Dt pre vs a)=none;exact C9 (jM (Ne.symm hn.1))<|ih vs hn.2
structure UG(x:St c)(cl:Nat)(I d:Br)(pre:List Nat)(o:Obj)(vs:List Bj)(ws:List V)(z:St c):Prop where
 le:Le x z
 nI:x.s.heap.get? I=none
 nd:x.s.heap.get? d=none
 ne:I≠d
 pI:z.hf I=none∧ ∀p∈z.ρ,p.2≠I
 pd:z.hf d=none∧ ∀p∈z.ρ,p.2≠d
 gI:z.s.heap.get? I=some (CB (c.CL cl) d)
 gd:z.s.heap.get? d=some o
 at_:Ix o pre vs
 v:z.GC vs ws
theorem UG.on{cl:Nat}{I d:Br}{pre:List Nat}{o:Obj}{vs:List Bj}{ws:List V}(h:UG x cl I d pre o vs ws y)(l:Le y z):UG x cl I d pre o vs ws z:=
 have a:=l.own h.gI h.pI.1 h.pI.2;have b:=l.own h.gd h.pd.1 h.pd.2
 ⟨h.le.trans l,h.nI,h.nd,h.ne,⟨a.1,a.2.1⟩,⟨b.1,b.2.1⟩,a.2.2,b.2.2,h.at_,GC.le h.v l⟩
theorem fS(Z:Zt K c fa G A kk){cl sn:Nat}{I d:Br}(Zo: ∀b,NO env b→x.s.heap.get? b=none)(hI: ¬NO env I)(hd: ¬NO env d)(nd:(DX cl).Nodup)(low: ∀a∈DX cl,a<Fw.length)(lim:(DX cl).length≤100){R:Cd→Bl→Prop}{as:List Nat}:
  ∀{ts:List T} {body:List CC} {z:St c} {fs:List V} {DD:Store} {pre:List Nat} {o:Obj} {vs:List Bj} {ws:List V},Oe (vw env.scope) ((bD ts).map Sk.s) body=true→TA sn ts=true→Hy G loc as ts z.σ=some (fs,DD)→FR env loc z→MP env z.s.heap (nm sn) (.ref I)→DX cl=pre++as→UG x cl I d pre o vs ws z→
   (∀(y:St c) o' D4,UG x cl I d (DX cl) o' D4 (ws++fs) y→y.σ=DD→R .next y.s)→Bp (Bq c.prog c.w) A (PySem.execs body env) R Dq z.s:=by
 induction as with
 |nil=>
  intro ts body z fs DD pre o vs ws ok sf e fr N ea H fin;cases ts with
  |cons=>exact DC e
  |nil=>
   revert ea fin;refine NC (show some (([]:List V),z.σ)=some (fs,DD) from e) ?_;intro ea fin;refine C9 (TJ ok) ?_;rw [υ] at ea fin;exact Bn (fin z o vs (ea▸H) rfl)
 |cons a as ih=>
  intro ts body z fs DD pre o vs ws ok sf e fr N ea H fin;cases ts with
  |nil=>exact DC e
  |cons t ts=>
   refine wr λZ0 z0=> ?_;refine DY e λh1 e=>DA e λp h2 e=>DY e λh3 e=>DP e λv DK e1 e=>DP e λl Dy e2 e=> ?_;have w:(v::l,Dy)=(fs,DD):=η e;refine Dl (band sf) λzC sf2=> ?_;have zC:μ p.2.nr sn=true:=DL zC λp' h4 h5=>by exact C9 (η (h2.symm.trans h4)) h5
   refine D0 (PK (os:=(bD ts).map Sk.s) (o:=(sk t).s) ok) λst r wb G2 Jz=> ?_
   have wt:t= .mk 51 a [p.1, .mk 0 sn []]:=by
    obtain ⟨tg,b,ks⟩:=t;obtain ⟨q1,q2⟩:=p;obtain ⟨t0,n0,k0⟩:=q2;have a1:tg=51:=nb (band h1).1;have a2:a=b:=nb (band h1).2;have a3:ks= [q1, .mk t0 n0 k0]:=UD h2;have a4:t0=0:=nb (band h3).1;have a5:k0= []:=AZ.mp (band h3).2;have a6:n0=sn:=nb zC
    (exact C9 a1<|Dr a2<|C9 a3<|C9 a4<|C9 a5<|C9 a6 rfl)
   rw [wt] at G2;have G2:Wl a (sk p.1).k.e (sk (.mk 0 sn [])).k.e (vw env.scope) st=true:=(band (show (Ε 50 51&&Wl a (sk p.1).k.e (sk (.mk 0 sn [])).k.e (vw env.scope) st)=true from G2)).2;refine DL G2 λpa h5 G2=>DL G2 λq h6 G2=> ?_;refine D3 (Ig h6) λap w6=> ?_;have okm:(RI q.1&&((!Ku q.1||(μ 0 32||μ 0 33))&&nj sn (vw env.scope) q.1))=true:=(band (band G2).2).2;refine DL (x:=Lp q.1) (band (band okm).2).2 λid h7 ok7=> ?_;refine D3 (Ei h7) λnp w7=> ?_;refine z0 ?_;refine C9 wb<|C9 (GZ h5)<|C9 w6<|C9 w7<|C9 (EH (band ok7).1)<|C9 (EH (band G2).1) ?_
   have ha:a∈DX cl:=ea▸Ψ pre (.head _)
   have uN:a ∉ pre:=λz=>by
    rw [ea,AE] at nd;exact nd.2.2 a z a (.head _) rfl
   have Eb:pre.length+1≤100:=by
    have:=lim
    rw [ea,ε,ξ] at this;exact PL this
   show Bp _ _ (do
    match←PySem.exec (.Assign [.Attribute (.Name (nm sn) np) (nm a) ap] pa.2.1 pa.2.2) env with
    | .next=>PySem.execs r env
    |f=>pure f) _ _ _
   refine Bk (Bu (IZ (Q:=λfl s'=>fl= .next∧Bp (Bq c.prog c.w) A (PySem.execs r env) R Dq s') OP rfl rfl (((Z7 Z p.1).k.e (band (band G2).2).1 fr).1.run e1 λval z1 l1 ez hv=> ?_)) (λfl D6 h=> ?_) λO O x=>x)
   ·have H1:=H.on l1
    have N1:MP env z1.s.heap (nm sn) (.ref I):=N.keeps λb hb o e=>l1.nx.Ee b o e (fr.Ee b hb).2;have f1:=fr.J0 l1;refine C9 (arm_assign_Attribute _ _ _ _ _) ?_;refine Bk (Bt (VM fr.S N1 (band (band ok7).2).2 ?_));have up:aT pre vs a val (pre++ [a]) (vs++ [val]):=⟨λb=>U4 pre vs H1.at_.len uN,λ⟨u,hu⟩=>DC ((Xw pre vs uN).symm.trans hu),λO=>by exact C9 ε rfl,by exact C9 ε<|C9 ε<|C9 H1.at_.len rfl,by exact C9 ε<|Dr H1.at_.len Eb⟩;refine Bk (Bv (Bk (Bt (NQ Z.B.F.toKF (z1.R.av Z.B.X) H1.gI H1.gd H1.at_ ha up λt h' o' hs hg qH=>Ct ⟨rfl, ?_⟩))));have k: ∀b o,b≠d→z1.s.heap.get? b=some o→h'.get? b=some o:=λb o hb e=>(hs.2 b hb).trans e;have R2:F5 c z1.hf z1.ρ z1.σ h':=z1.off H1.pd.1 H1.pd.2 k;have H2:UG x cl I d (pre++ [a]) o' (vs++ [val]) (ws++ [v]) ⟨z1.hf,z1.ρ,z1.σ,{z1.s with heap:=h',toks:=t},R2⟩:=⟨H1.le.SH (s':={z1.s with heap:=h',toks:=t}) (Z:=λb=>b=d) (λb z=>z▸H1.nd) k ⟨rfl,rfl,rfl⟩ R2,H1.nI,H1.nd,H1.ne,H1.pI,H1.pd,k I _ H1.ne H1.gI,hg,qH,H1.v.append (.cons hv .nil)⟩;have ko: ∀b,NO env b→ ∀o,z1.s.heap.get? b=some o→h'.get? b=some o:=λb hb o e=>k b o (λz=>hd (z▸hb)) e;refine ih (z:=⟨z1.hf,z1.ρ,z1.σ,{z1.s with heap:=h',toks:=t},R2⟩) Jz sf2 (show Hy G loc as ts z1.σ=some (l,Dy) by exact C9 ez e2) (f1.move ko (λO O h=>h) λb hb=>f1.Ee b hb) (N1.keeps ko) (by exact C9 ea<|C9 (π _ _ _) rfl) H2 λy pz sM H3 ey=>fin y pz sM ?_ ?_
    ·refine C9 (show fs=v::l from (congrArg Prod.fst w).symm) ?_;rw [π] at H3;exact H3
    ·exact ey.trans (congrArg Prod.snd w)
   ·refine Dl h λw h=> ?_
    refine C9 w ?_;exact h
end
end
section
mutual open A
variable{c:Cx}{A:Bs}{s:Bl}{x y z:St c}{K:B4}{env:Env}{loc:Di}{fd:CD}{fa:Nat→Br}{kk:Nat}
structure qw(K:B4)(c:Cx)(fa:Nat→Br)(cl i:Nat)(fn:Fn)(s:Nat)(ps:List Nat):Prop where
 mks:makesIn K (c.CL cl)=true
 fi:CV K (.ref (c.CL cl)) "__init__" =some (some (.ref (fa i)))
 ty:typeIn K (.ref (fa i))=some (.type "function")
 ps:fn.ps=s::ps
 sf:TA s fn.body=true
structure l8(K:B4)(c:Cx)(fa:Nat→Br):Prop where
 at_: ∀cl i fn,KO cl=some i→fns[i]?=some fn→ ∃s ps,qw K c fa cl i fn s ps
theorem UH(cl:Nat):(DX cl).Nodup∧(∀a∈DX cl,a<Fw.length)∧(DX cl).length≤100:=by
 match cl with
 |0=>decide
 |1=>decide
 |2=>decide
 |3=>decide
 |4=>decide
 |5=>decide
 |6=>decide
 |7=>decide
 |8=>decide
 |n+9=>exact ⟨.nil,λa h=>absurd h Γ,AT _⟩
theorem Mw.make{A:Bs}{k:Nat}(h:Mw A (k+1))(C:Br)(vals:List Bj)(env:Env):Mw ((A.under (.builtin "type.__call__" ⟨.ref C::vals, []⟩)).deeper env) k:=
 ⟨h.handled,(congrArg (pushGuards (Code.guards (.builtin "type.__call__" ⟨.ref C::vals, []⟩))) h.guards).trans rfl,by have:=h.depth;show A.depth+1+1+3*k+10≤1000;lia,by have:=h.units;show A.units+1+3+30*k+200≤9900;lia⟩
theorem Zv(B:I2 K c)(F:vq K c fa)(CK:l8 K c fa){n cl:Nat}{keep:Bool}{args fs:List V}{DD DT:Store}{r:V}{us:List Bj}{Q:Bj→Bl→Prop}(hd: ∀vals,(A.under (.builtin "type.__call__" ⟨.ref (c.CL cl)::vals, []⟩)).depth<1000)(Z: ∀vals env,∃kk,Zt K c fa (DZ n) ((A.under (.builtin "type.__call__" ⟨.ref (c.CL cl)::vals, []⟩)).deeper env) kk)
  (e1:(DZ (n+1)).init cl args x.σ=some (fs,DD)) (e2:Df keep (.inst cl) fs DD=some (r,DT)) (hv:x.GC us args) (k:Ok x DT r Q):Bp (Bq c.prog c.w) A (PySem.call (.ref (c.CL cl)) us) Q Dq x.s:=by
 refine wr λZ0 z0=> ?_;refine DA (x:=KO cl) e1 λi h1 e1=>DA (x:=fns[i]?) e1 λfn h2 e1=> ?_;refine HY (CK.at_ cl i fn h1 h2) λsn ps CA=> ?_;refine S5 (F.at_ i fn h2) λo fd body F=> ?_;rw [CA.ps] at e1;refine DA (x:=Mine.Internal.bindArgs ps args fn.df) e1 λloc e3 e4=> ?_;refine ET (W7 e3 hv) λb1 b2 bd=> ?_;refine ET (UH cl) λn1 n2 n3=> ?_;refine z0 ?_;have X:=x.R.av B.X;have kp: ∀b o,x.s.heap.get? b=some o→((x.s.heap.push CF).push (CB (c.CL cl) x.s.heap.objs.size)).get? b=some o:=λb o e=>Β _ (Β _ e);have R0:F5 c x.hf x.ρ x.σ ((x.s.heap.push CF).push (CB (c.CL cl) x.s.heap.objs.size)):=x.R.Ef λb o e O=>kp b o e;have l0:Le x ⟨x.hf,x.ρ,x.σ,{x.s with heap:=(x.s.heap.push CF).push (CB (c.CL cl) x.s.heap.objs.size)},R0⟩:=⟨F9 _ _ kp,rfl,rfl,rfl⟩;have nd:=Dc x.s.heap;have nI:=Lg (h:=x.s.heap) (Ac x.s.heap.objs.size)
 have gI:((x.s.heap.push CF).push (CB (c.CL cl) x.s.heap.objs.size)).get? (x.s.heap.objs.size+1)=some (CB (c.CL cl) x.s.heap.objs.size):=by
  have:=Ξ (x.s.heap.push CF) (o:=CB (c.CL cl) x.s.heap.objs.size) rfl
  rwa [Bg] at this
 have gd:((x.s.heap.push CF).push (CB (c.CL cl) x.s.heap.objs.size)).get? x.s.heap.objs.size=some CF:=Β _ (Ξ _ rfl);have hb:=F.bind (s:={x.s with heap:=(x.s.heap.push CF).push (CB (c.CL cl) x.s.heap.objs.size)}) (us:= .ref (x.s.heap.objs.size+1)::us) (R0.av B.X) (by exact C9 CA.ps<|Κ b1) (by exact C9 CA.ps<|C9 ξ<|C9 ξ<|zsh b2)
 have hb:CZ {x.s with heap:=(x.s.heap.push CF).push (CB (c.CL cl) x.s.heap.objs.size)} fd ⟨.ref (x.s.heap.objs.size+1)::us, []⟩ ([(nm sn, .ref (x.s.heap.objs.size+1))]++MJ ps us):=by
  rw [CA.ps] at hb;unfold MJ at hb;rw [ξ,ξ,Nat.succ_sub_succ] at hb;exact hb
 have names:([(nm sn,Bj.ref (x.s.heap.objs.size+1))]++MJ ps us).map (·.1)=fn.ps.map nm:=by
  have:=TR bd
  rw [Hl e3] at this;rw [CA.ps,Χ,←this];rfl
 refine wpAny_call (make_core (h:=x.s.heap) (g:=x.s.gens) (d:=x.s.drawn) (t:=x.s.toks) (os:=x.s.os) (makes_of X CA.mks) (looks_findIn X CA.fi) (λself=>bind_fn X self CA.ty) (.inl rfl) ?_);refine Vo (x:=⟨x.hf,x.ρ,x.σ,{x.s with heap:=(x.s.heap.push CF).push (CB (c.CL cl) x.s.heap.objs.size)},R0⟩) (pre:= [(nm sn, .ref (x.s.heap.objs.size+1))]) (binds:=MJ ps us) (hd us) ((R0.av B.X) _ _ F.ob) F.dt ((B.nolimit.keeps x.base).keeps kp) (F.code (R0.av B.X)) F.bd F.S hb (bd.imp λO O h=>⟨h.1,VV.le h.2 l0⟩) (by exact C9 names F.nd) (λp hp=>(F.pk p.1 (by exact C9 CA.ps<|Dr (Hl e3)<| .tail _ (AD.mpr (DM p hp rfl)))).1) (λb hb=> ?_) λenv y hs ey l fr nmd own=> ?_
 ·have:b.1∈fn.ps.map nm:=by exact Dr names<|AD.mpr (DM b hb rfl)
  refine DQ (AD.mp this) λm hm w=> ?_;exact w▸(F.pk m hm).2
 ·refine wr λZ0 z0=> ?_
  refine D3 (Z us env) λkk Z=> ?_;have xx:=l0.trans l;refine ET (l.own gI (x.R.fresh nI).1 (x.R.fresh nI).2) λpI1 pI2 pI3=> ?_;refine ET (l.own gd (x.R.fresh nd).1 (x.R.fresh nd).2) λpd1 pd2 pd3=> ?_;refine z0 ?_
  have z5: ∀b,NO env b→x.s.heap.get? b=none:=λb hb=>by
   cases q:x.s.heap.get? b with
   |none=>rfl
   |some o=>exact DC ((own b hb).symm.trans (kp b o q))
  have H:UG x cl (x.s.heap.objs.size+1) x.s.heap.objs.size [] CF [] [] y:=⟨xx,nI,nd,Nat.succ_ne_self _,⟨pI1,pI2⟩,⟨pd1,pd2⟩,pI3,pd3,⟨(FL (#[]) 0 rfl (λe he=>absurd he (by simp)) rfl (λa O=>rfl)),rfl,AT _⟩, .nil⟩;refine fS Z (x:=x) (sn:=sn) (I:=x.s.heap.objs.size+1) (d:=x.s.heap.objs.size) z5 (λz=>DC ((own _ z).symm.trans gI)) (λz=>DC ((own _ z).symm.trans gd)) n1 n2 n3 (ts:=fn.body) (body:=body) (pre:= []) (by exact C9 hs F.ok) CA.sf (by exact C9 ey e4) fr (nmd (nm sn, .ref (x.s.heap.objs.size+1)) (.head _)) rfl H λw o' D4 H2 ew=>⟨rfl, ?_⟩;have hn:=H2.pI.1;have R2:F5 c (Vn w.hf (x.s.heap.objs.size+1) (CB (c.CL cl) x.s.heap.objs.size)) w.ρ w.σ w.s.heap:=w.R.freeze hn (λO O e=>e) H2.gI rfl λi z q e1 e2=> .inl ⟨e1,λO=>H2.pI.2 q (AC e2)⟩;have N2:Ol x.hf x.ρ x.s.heap (Vn w.hf (x.s.heap.objs.size+1) (CB (c.CL cl) x.s.heap.objs.size)) w.ρ w.s.heap:=⟨λb o e=>Hn hn b o (H2.le.nx.kf b o e),H2.le.nx.JX,H2.le.nx.Ee,λb o e=>JT e (λq O=> .inr (.inr (q▸nI))) λO e=>H2.le.nx.FA b o e,H2.le.nx.EE⟩;exact OK (x:=x) (p:=(x.s.heap.objs.size+1,x.s.heap.objs.size)) e2 N2 (ew▸R2) nd ((Nf _ _ (Ne.symm H2.ne)).trans H2.pd.1) H2.pd.2 H2.gd ⟨GK _ _ _,H2.at_⟩ (H2.v.MR (Hn hn) λO O e=>e) k rfl H2.le.sm
theorem O6{n cl:Nat}{args:List V}{σ:Store}{r:List V×Store}(e:(DZ n).init cl args σ=some r):(KO cl).isSome=true:=by
 cases n with
 |zero=>exact DC e
 |succ n=>exact DA (x:=KO cl) e λi h O=>by exact C9 h rfl
theorem lX(B:I2 K c)(T:KG K c fa)(F:vq K c fa)(CK:l8 K c fa)(n:Nat): ∀A:Bs,Mw A (n+1)→kB c fa (DZ n) A:=by
 induction n with
 |zero=>intro A rm;exact ⟨λe=>DC e,λe=>DC e,λe=>O6 e⟩
 |succ n ih=>
  intro A rm;have dp:A.depth+2<1000:=by have:=rm.depth;lia
  refine ⟨λe hv k=>ip B F (by exact PL dp) (λenv=>⟨n,B,T,ih _ (rm.deeper env),rm.deeper env⟩) e hv k,λe1 e2 hv k=>Zv B F CK (λvals=> ?_) (λvals env=>⟨n,B,T,ih _ (rm.make _ vals env),rm.make _ vals env⟩) e1 e2 hv k,λe=>O6 e⟩;show A.depth+1<1000;exact Aa dp
end
end
section
mutual open A
def SO(i:Nat):Br:= [187,251,258,272,279,284,289,296,301,316,323,330,351,358,372,379,384,404,425,439,446,453,460,467,474,479,484,492,499,504,511,525,532,539,546,558,563,570,575,582,589,594,601,608,613,618,623,628,633,638].getD i 0
def L9(i:Nat):Br:= [155,190,212,233,261,387,407,428,549].getD i 0
def fL:List Nat:= [1,4,5,6,7,8]
theorem dG{c:Nat}(h:(DX c).isEmpty=false):c∈fL:=by
 match c with
 |0=>exact ζ h
 |1=>exact .head _
 |2=>exact ζ h
 |3=>exact ζ h
 |4=>exact .tail _ (.head _)
 |5=>exact .tail _ (.tail _ (.head _))
 |6=>exact .tail _ (.tail _ (.tail _ (.head _)))
 |7=>exact .tail _ (.tail _ (.tail _ (.tail _ (.head _))))
 |8=>exact .tail _ (.tail _ (.tail _ (.tail _ (.tail _ (.head _)))))
 |n+9=>exact ζ h
theorem Fa{α:Type}{f:α→Bool}{l:List α}(h:l.all f=true){x:α}(hx:x∈l):f x=true:=Au.mp h x hx
def zY(K:B4)(c:Nat):Bool:=
 CV K (.ref (L9 c)) "__getattribute__" ==some (some (.builtin "object.__getattribute__"))&&((clsIn K (L9 c)).any (·.hasDict)&&(((DX c).all λa=>CV K (.ref (L9 c)) (nm a)==some none)&&
 (CV K (.ref (L9 c)) "__setattr__" ==some (some (.builtin "object.__setattr__"))&&(plainOver K (L9 c)&&(Cy K (L9 c) "__class__" &&(hasDictIn K (L9 c)&&
 (CV K (.ref (L9 c)) "__class__" ==some (some (.builtin "object.__class__"))&&mroIn K (L9 c) (.type "object")==some true)))))))
def wq(K:B4):Bool:=(BW 19).all λk=> !bZ k||(BW 19).all λt=>kitOne K (fB L9 k) (fB L9 t)==some (ML k t)
def uX(K:B4):Bool:=fL.all (zY K)&&(wq K&&(specialIn K (.builtin "object.__class__") "__get__" ==some (some (.builtin "getset_descriptor.__get__"))&&takesIn K (.builtin "object.__class__")==some true))
theorem fR{k:Nat}(h:bZ k=true):k<19:=by
 unfold bZ at h;rcases Bool.or_eq_true_iff.mp h with w|w
 ·have:k<7:=by simpa using w
  exact IL this rfl
 ·have q:=dG (c:=k - 10) (by have:=(band w).2;cases z:(DX (k - 10)).isEmpty with|true=>rw [z] at this;exact ζ this|false=>rfl)
  have l:k - 10≤8:=by
   have: ∀c∈fL,c≤8:=by decide
   exact this _ q
  lia
theorem o9{K:B4}(h:uX K=true):xt K L9:=by
 refine Dl (band h) λh1 h=> ?_;refine Dl (band h) λh2 h=> ?_;refine Dl (band h) λh3 h4=> ?_;have one:=λ{c:Nat} (e:(DX c).isEmpty=false)=>Fa h1 (dG e)
 have ne: ∀{c a:Nat},a∈DX c→(DX c).isEmpty=false:=λ{c a} w=>by cases z:DX c with
  |nil=>rw [z] at w;exact absurd w Γ
  |cons=>rfl
 refine {ga:=λc e=>eq_of_beq (band (one e)).1,cd:=λc e=>(band (band (one e)).2).1,na:=λc a w=>eq_of_beq (Fa (band (band (band (one (ne w))).2).2).1 w),sa:=λc e=>eq_of_beq (band (band (band (band (one e)).2).2).2).1,po:=λc e=>(band (band (band (band (band (one e)).2).2).2).2).1,fE:=λk t hk ht=> ?_,g1:=λc e=>(band (band (band (band (band (band (one e)).2).2).2).2).2).1,g2:=λc e=>(band (band (band (band (band (band (band (one e)).2).2).2).2).2).2).1,g3:=λc e=>eq_of_beq (band (band (band (band (band (band (band (band (one e)).2).2).2).2).2).2).2).1,g4:=eq_of_beq h3,g5:=eq_of_beq h4,g6:=λc e=>eq_of_beq (band (band (band (band (band (band (band (band (one e)).2).2).2).2).2).2).2).2};have a:=Fa h2 (BA.mpr (fR hk));rw [hk] at a;have ht:t<19:=by simpa using ht
 exact eq_of_beq (Fa (show (BW 19).all (λt=>kitOne K (fB L9 k) (fB L9 t)==some (ML k t))=true from a) (BA.mpr ht))
theorem Jl{x:Nat}{v:Nat}: ∀{ks vs:List Nat},Dt ks vs x=some v→(x,v)∈ks.zip vs:=λ{ks}=>by
 induction ks with
 |nil=>intro vs h;exact DC h
 |cons k ks ih=>
  intro vs h;cases vs with
  |nil=>exact DC h
  |cons u vs=>
   refine E9 (show cond (μ k x) (some u) (Dt ks vs x)=some v from h) (λq e=> ?_) λO e=> .tail _ (ih e);exact Dr (nb q)<|Dr (η e)<| .head _
def jT:List (Nat×List (Nat×Nat)):= [(4,(HZ 4).1.zip (HZ 4).2),(5,(HZ 5).1.zip (HZ 5).2),(8,(HZ 8).1.zip (HZ 8).2)]
def kgB(K:B4):Bool:=
 ((gfK.zip gfV).all λp=>C3 K Bx (nm p.1)==some (some (.ref (SO p.2)))&&Μ p.2 fns.length)&&(((BW 9).all λc=>C3 K Bx (Pt c)==some (some (.ref (L9 c))))&&
 ((QT.all λa=>C3 K Bx a==some none)&&(((BW fns.length).all λi=>keepIn K (.ref (SO i)))&&((fL.all λc=>keepIn K (.ref (L9 c)))&&
 (jT.all λq=>q.2.all λp=>Μ p.2 fns.length&&(Cy K (L9 q.1) (nm p.1)&&(CV K (.ref (L9 q.1)) (nm p.1)==some (some (.ref (SO p.2)))&&isFn K (.ref (SO p.2)))))))))
def Q1:List Bj→List Nat→Bool
 | .str x _::vs,n::ns=>EQ x (nm n)&&(Μ n Fw.length&&Q1 vs ns)
 | [], []=>true
 |_,_=>false
def Q7(K:B4)(n:Nat)(l:List Nat):Bool:=match C3 K Bx (nm n) with
 |some (some (.ref a))=>(match K.lookup a with
  |some o=>(match o.data with
   | .seq vs _=>Q1 vs.toList l&&(o.cls== .type "tuple" &&(o.dict.isNone&&o.slots.isEmpty))
   |_=>false)
  |none=>false)
 |_=>false
theorem gU{c:Cx}{hf:HF}: ∀{vs:List Bj} {l:List Nat},Q1 vs l=true→DS (DV c hf) vs (l.map D.sym):=λ{vs}=>by
 induction vs with
 |nil=>intro l h;cases l with
  |nil=>exact .nil
  |cons=>exact ζ h
 |cons v vs ih=>
  intro l h;cases l with
  |nil=>cases v<;>exact ζ h
  |cons n l=>
   cases v with
   |str x t=>
    have e:=EH (band h).1;have q:n<Fw.length:=by simpa using (band (band h).2).1
    exact .cons (e▸DV.sym n t q) (ih (band (band h).2).2)
   |_=>exact ζ h
theorem PM{K:B4}{c:Cx}{n:Nat}{l:List Nat}(hl:l.length≤big)(h:Q7 K n l=true): ∃v,C3 K Bx (nm n)=some (some v)∧DV c (λb=>K.lookup b) v (.nd .tup (l.map D.sym)):=by
 unfold Q7 at h;cases h1:C3 K Bx (nm n) with
 |none=>rw [h1] at h;exact ζ h
 |some r=>
  rw [h1] at h;cases r with
  |none=>exact ζ h
  |some v=>
   cases v with
   |ref a=>
    refine (DM (.ref a) rfl ?_);have h:(match K.lookup a with|some o=>(match o.data with| .seq vs _=>Q1 vs.toList l&&(o.cls== .type "tuple" &&(o.dict.isNone&&o.slots.isEmpty))|_=>false)|none=>false)=true:=h;cases h2:K.lookup a with
    |none=>rw [h2] at h;exact ζ h
    |some o=>
     rw [h2] at h;obtain ⟨oc,od,dt,sl⟩:=o;cases dt with
     |seq vs k=>
      have q1:oc= .type "tuple" :=eq_of_beq (band (band h).2).1;have q2:od=none:=Af.mp (band (band (band h).2).2).1;have q3:sl= #[]:=Array.isEmpty_iff.mp (band (band (band h).2).2).2;subst q1 q2 q3;have q:=gU (c:=c) (hf:=λb=>K.lookup b) (band h).1;exact DV.nd (p:=(a,a)) (o:=⟨.type "tuple",none, .seq vs k, #[]⟩) (h:= .tup) h2 ⟨rfl,by exact C9 q.length<|C9 (ι _)<|hl,k,rfl⟩ q
     |_=>exact ζ h
   |_=>exact ζ h
def gvB(K:B4):Bool:=Q7 K 20 [13,14,1]&&(Q7 K 6 [17,10,4,19]&&(match C3 K Bx (nm 8) with|some (some (.int i _))=>i==30|_=>false))
theorem qU{K:B4}{prog:Program}{w:World}{h₀:Bz}(h:kgB K=true)(hg:gvB K=true):KG K ⟨prog,w,L9,h₀⟩ SO:=by
 refine Dl (band h) λh1 h=> ?_;refine Dl (band h) λh2 h=> ?_;refine Dl (band h) λh3 h=> ?_;refine Dl (band h) λh4 h=> ?_;refine Dl (band h) λh5 h6=> ?_;refine ⟨λf i e=> ?_,λcl l=>eq_of_beq (Fa h2 (BA.mpr l)),λi a e=>eq_of_beq (Fa h3 (AC e)),λa d e=> ?_,λi l=>Fa h4 (BA.mpr l),λcl e=>Fa h5 ?_,λcl m i e=> ?_⟩
 ·have:=Fa h1 (Jl e)
  exact ⟨eq_of_beq (band this).1,by simpa using (band this).2⟩
 ·refine Dl (band hg) λg1 g=> ?_
  refine Dl (band g) λg2 g3=> ?_;unfold fV at e
  split at e
  ·cases e;exact PM (by decide) g1
  ·cases e;exact PM (by decide) g2
  ·cases e
   cases z:C3 K Bx (nm 8) with
   |none=>rw [z] at g3;exact ζ g3
   |some r=>
    rw [z] at g3;cases r with
    |none=>exact ζ g3
    |some v=>cases v with
     |int i t=>exact (DM _ rfl ((eq_of_beq g3:i=30)▸DV.int i t))
     |_=>exact ζ g3
  ·exact DC e
 ·match cl,e with
  |1,_=>decide
  |4,_=>decide
  |5,_=>decide
  |6,_=>decide
  |7,_=>decide
  |8,_=>decide
 ·have go: ∀q∈jT,(m,i)∈q.2→i<fns.length∧Cy K (L9 q.1) (nm m)=true∧CV K (.ref (L9 q.1)) (nm m)=some (some (.ref (SO i)))∧isFn K (.ref (SO i))=true:=λq hq hp=>by
   have:=Fa (Fa h6 hq) hp
   exact (XA (by simpa using (band this).1) ((band (band this).2).1) (eq_of_beq (band (band (band this).2).2).1) ((band (band (band this).2).2).2))
  match cl,e with
  |4,e=>exact go (4,_) (.head _) (Jl e)
  |5,e=>exact go (5,_) (.tail _ (.head _)) (Jl e)
  |8,e=>exact go (8,_) (.tail _ (.tail _ (.head _))) (Jl e)
end
end
section
mutual open A
variable{s:Bl}{K:B4}{fd:CD}
structure tG(K:B4)(fd:CD)(ns:List Str):Prop where
 p1:fd.params.posonlyargs= []
 p2:fd.params.args.map (·.arg)=ns
 p3:fd.params.kwonlyargs= []
 p4:fd.params.vararg=none
 p5:fd.params.kwarg=none
 p6: ∃T o n,fd.defaults= .ref T∧K.lookup T=some o∧o.data= .seq #[.none, .none] n
def RE(s:List (Str×Bj))(n:Str):List (Str×Bj):=cond (s.lookup n).isNone (s++ [(n, .none)]) s
theorem j6{M:Model}{A:Bs}{Q:List (Str×Bj)→Bl→Prop}{E:Bj→Bl→Prop}{st:Bl}{s0:List (Str×Bj)}{b:Str}{xs:List (Str×Bj)}(k:Bp M A (forIn xs (RE s0 b) py) Q E st):Bp M A (forIn ((b,Bj.none)::xs) s0 py) Q E st:=by
 unfold RE at k;refine C9 (BK _ _ _ _) ?_;cases h1:(s0.lookup b).isNone with
 |true=>rw [h1] at k;exact C9 (show py (b,Bj.none) s0=_ from if_pos h1)<|C9 (pure_bind _ _) k
 |false=>rw [h1] at k;exact C9 (show py (b,Bj.none) s0=_ from if_neg (by rw [h1];exact Aj))<|C9 (pure_bind _ _) k
theorem qm{M:Model}{A:Bs}{Q:List (Str×Bj)→Bl→Prop}{E:Bj→Bl→Prop}{st:Bl}{s0:List (Str×Bj)}{b d:Str}(k:Q (RE (RE s0 b) d) st):Bp M A (forIn [(b,Bj.none),(d,Bj.none)] s0 py) Q E st:=j6 (j6 (Bn k))
theorem vN{α:Type}{us:List α}(h1:us.length≤3)(h2:3≤us.length+2):(∃x,us= [x])∨(∃x y,us= [x,y])∨ ∃x y z,us= [x,y,z]:=by
 cases us with
 |nil=>exact absurd h2 (by show¬3≤2;decide)
 |cons x us=>cases us with
  |nil=>exact .inl (EF x rfl)
  |cons y us=>cases us with
   |nil=>exact .inr (.inl (TW x y rfl))
   |cons z us=>cases us with
    |nil=>exact .inr (.inr (MT x y z rfl))
    |cons=>exact absurd h1 (Nat.not_le_of_lt (ψ 4 _))
theorem Xs{a b d:Str}{us:List Bj}(ab:(b==a)=false)(ad:(d==a)=false)(bd:(d==b)=false)(h1:us.length≤3)(h2:3≤us.length+2):([a,b,d]++ []).filterMap (λn=>((RE (RE ([a,b,d].zip us) b) d).lookup n).map λx=>(n,x))= [a,b,d].zip (us++AA (3 - us.length) .none)∧(Bb a ([a,b,d].zip us)).isNone=false:=by
 rcases vN h1 h2 with ⟨x,rfl⟩|⟨x,y,rfl⟩|⟨x,y,z,rfl⟩<;>simp [ab,ad,bd,Bb,RE,AA]
theorem iB{A1 A2 A3:Arg}{us:List Bj}{T:Br}{o:Obj}{n:Nat}(X:K.In s.heap)(e2:K.lookup T=some o)(e3:o.data= .seq #[.none, .none] n){oo qn bd sc gl cl kd dc pm an co ct xx pH df}(l2:(Bb A1.arg ([A1.arg,A2.arg,A3.arg].zip us)).isNone=false)(h1:us.length≤3):
  CZ s ⟨oo,qn,⟨[], [A1,A2,A3],none, [],pH,none,df⟩,bd,sc,gl,cl, .ref T,kd,dc,pm,an,co,ct,xx⟩ ⟨us, []⟩ (([A1.arg,A2.arg,A3.arg]++ []).filterMap (λn=>((RE (RE ([A1.arg,A2.arg,A3.arg].zip us) A2.arg) A3.arg).lookup n).map λx=>(n,x))):=by
 refine Pa (r:=some #[.none, .none]) (ds:= [.none, .none]) rfl (λk=>wpAny_seqItems (X _ _ e2) e3 k) h1 ?_ (λk=>qm k) rfl;show (!(List.filter (λn=>(Bb n ([A1.arg,A2.arg,A3.arg].zip us)).isNone) [A1.arg]).isEmpty)=false;exact C9 Al<|C9 l2 rfl
theorem zJ{as:List Arg}{a b d:Str}(h:as.map (·.arg)= [a,b,d]): ∃A1 A2 A3,as= [A1,A2,A3]∧A1.arg=a∧A2.arg=b∧A3.arg=d:=by
 cases as with
 |nil=>exact nomatch h
 |cons A1 as=>cases as with
  |nil=>exact nomatch h
  |cons A2 as=>cases as with
   |nil=>exact nomatch h
   |cons A3 as=>cases as with
    |nil=>
     injection h with e1 h
     injection h with e2 h
     injection h with e3 h
     exact (Ea A1 A2 A3 rfl e1 e2 e3)
    |cons=>exact nomatch (Bi.inj (Bi.inj (Bi.inj h).2).2).2
theorem YQ{a b d:Str}{us:List Bj}(X:K.In s.heap)(P:tG K fd [a,b,d])(ab:(b==a)=false)(ad:(d==a)=false)(bd:(d==b)=false)(h1:us.length≤3)(h2:3≤us.length+2):
  CZ s fd ⟨us, []⟩ ([a,b,d].zip (us++AA (3 - us.length) .none)):=by
 refine Dl (Xs ab ad bd h1 h2) λl1 l2=> ?_;refine Dr l1 ?_;clear l1 ab ad bd;have ⟨p1,p2,p3,p4,p5,T,o,n,e1,e2,e3⟩:=P;refine Do (zJ p2) λA1 A2 A3 q q1 q2 q3=> ?_;clear P p2;subst q1 q2 q3;obtain ⟨oo,qn,⟨po,as,va,ko,pH,kw,df⟩,bd,sc,gl,cl,dv,kd,dc,pm,an,co,ct,xx⟩:=fd;dsimp only at p1 p3 p4 p5 e1 q;subst p1 p3 p4 p5 e1 q;exact iB X e2 e3 l2 h1
end
end
section
mutual open A
def VK:List Str→List Str→Bool
 | [], []=>true
 |a::l,b::r=>EQ a b&&VK l r
 |_,_=>false
theorem Xf: ∀{l r:List Str},VK l r=true→l=r:=λ{l}=>by
 induction l with
 |nil=>intro r h;cases r with
  |nil=>rfl
  |cons=>exact ζ h
 |cons a l ih=>intro r h;cases r with
  |nil=>exact ζ h
  |cons b r=>(exact C9 (EH (band h).1)<|C9 (ih (band h).2) rfl)
def qP:ScopeKind→Bool
 | .function=>true
 |_=>false
def gS:B0→Bool
 | .free=>false
 |_=>true
def gm:Option B0→Bool
 |some .local=>true
 |some .cell=>true
 |_=>false
def dY(fd:CD)(ns:List Str):Bool:=fd.params.posonlyargs.isEmpty&&(VK (fd.params.args.map (·.arg)) ns&&(fd.params.kwonlyargs.isEmpty&&(fd.params.vararg.isNone&&fd.params.kwarg.isNone)))
def M9:Bj→Bool
 | .none=>true
 |_=>false
theorem KQ{v:Bj}(h:M9 v=true):v= .none:=by cases v with|none=>rfl|_=>exact ζ h
def OO:List Bj→Bool
 | [a,b]=>M9 a&&M9 b
 |_=>false
theorem SG{l:List Bj}(h:OO l=true):l= [.none, .none]:=by
 cases l with
 |nil=>exact ζ h
 |cons a l=>cases l with
  |nil=>exact ζ h
  |cons b l=>cases l with
   |nil=>(exact C9 (KQ (band h).1)<|C9 (KQ (band h).2) rfl)
   |cons=>exact ζ h
def WU(K:B4)(fd:CD):Bool:=match fd.defaults with
 | .ref T=>(match K.lookup T with
  |some o=>(match o.data with
   | .seq vs _=>OO vs.toList
   |_=>false)
  |none=>false)
 |_=>false
def aW:List Str→Bool
 | [a,b,d]=> !EQ b a&&(!EQ d a&& !EQ d b)
 |_=>false
def Zj(K:B4)(fd:CD)(fn:Fn):Bool:=match fn.df with
 |0=>M9 fd.defaults
 |2=>WU K fd&&aW (fn.ps.map nm)
 |_=>false
def OL:List Str→Bool
 | []=>true
 |a::l=> !(l.any (EQ a))&&OL l
theorem Xm: ∀{l:List Str},OL l=true→l.Nodup:=λ{l}=>by
 induction l with
 |nil=>intro _;exact .nil
 |cons a l ih=>
  intro h;refine Η.mpr ⟨λz=> ?_,ih (band h).2⟩
  have:l.any (EQ a)=true:=List.any_eq_true.mpr (DM a z (by unfold EQ;exact JM _))
  rw [show OL (a::l)=(!(l.any (EQ a))&&OL l) from rfl,this] at h;exact ζ h
def jw(K:B4)(fd:CD)(fn:Fn):Bool:=
 qP fd.scope.kind&&(!fd.scope.isCoroutine&&(!fd.scope.isGenerator&&(μ fd.globals Bx&&(μ fd.builtins Cv&&(fd.closure.isEmpty&&(fd.scope.names.all (λp=>gS p.2)&&
 (codeIn K fd.code fd.qualname&&(OL (fn.ps.map nm)&&((fn.ps.all λn=>Μ n Fw.length&&gm (fd.scope.names.lookup (nm n)))&&(dY fd (fn.ps.map nm)&&Zj K fd fn))))))))))
def yu(K:B4)(i:Nat)(fn:Fn):Bool:=match K.lookup (SO i) with
 |some o=>(match o.data with
  | .func fd=>jw K fd fn&&(match fd.body with
   | .stmts body=>Oe (vw fd.scope) ((bD fn.body).map Sk.s) body
   |_=>false)
  |_=>false)
 |none=>false
def gw(K:B4):Nat→List Fn→Bool
 |_, []=>true
 |i,f::r=>yu K i f&&gw K (i+1) r
theorem Nq{a b:Str}(h:(!EQ a b)=true):(a==b)=false:=beq_eq_false_iff_ne.mpr λz=>by
 rw [z,show EQ b b=true from JM _] at h;exact ζ h
theorem bl{l:List Str}(h:aW l=true): ∃a b d,l= [a,b,d]∧(b==a)=false∧(d==a)=false∧(d==b)=false:=by
 cases l with
 |nil=>exact ζ h
 |cons a l=>cases l with
  |nil=>exact ζ h
  |cons b l=>cases l with
   |nil=>exact ζ h
   |cons d l=>cases l with
    |nil=>exact (Ea a b d rfl (Nq (band h).1) (Nq (band (band h).2).1) (Nq (band (band h).2).2))
    |cons=>exact ζ h
theorem io{K:B4}{fd:CD}(h:WU K fd=true): ∃T o n,fd.defaults= .ref T∧K.lookup T=some o∧o.data= .seq #[.none, .none] n:=by
 unfold WU at h;cases z:fd.defaults with
 |ref T=>
  rw [z] at h;have h:(match K.lookup T with|some o=>(match o.data with| .seq vs _=>OO vs.toList|_=>false)|none=>false)=true:=h;cases z2:K.lookup T with
  |none=>rw [z2] at h;exact ζ h
  |some o=>
   rw [z2] at h;obtain ⟨oc,od,dt,sl⟩:=o;cases dt with
   |seq vs n=>
    obtain ⟨vs⟩:=vs;exact ⟨T,_,n,rfl,z2,by (exact C9 (SG (l:=vs) h) rfl)⟩
   |_=>exact ζ h
 |_=>rw [z] at h;exact ζ h
theorem dO{K:B4}{fd:CD}{fn:Fn}{s:Bl}{us:List Bj}(nd:(fn.ps.map nm).Nodup)(hp:dY fd (fn.ps.map nm)=true)(hb:Zj K fd fn=true)(X:K.In s.heap)(h1:us.length≤fn.ps.length)(h2:fn.ps.length≤us.length+fn.df):CZ s fd ⟨us, []⟩ (MJ fn.ps us):=by
 have q1:=AZ.mp (band hp).1;have q2:=Xf (band (band hp).2).1;have q3:=AZ.mp (band (band (band hp).2).2).1;have q4:=Af.mp (band (band (band (band hp).2).2).2).1;have q5:=Af.mp (band (band (band (band hp).2).2).2).2;unfold Zj at hb;revert hb h2;generalize fn.df=df;intro hb h2;cases df with
 |zero=>exact gV ⟨q1,q2,q3,q4,q5,KQ hb⟩ nd h1 h2
 |succ df=>cases df with
  |zero=>exact ζ hb
  |succ df=>cases df with
   |succ=>exact ζ hb
   |zero=>
    have hd:(WU K fd&&aW (fn.ps.map nm))=true:=hb;refine Do (bl (band hd).2) λa b d e c1 c2 c3=> ?_;have l:fn.ps.length=3:=by exact Dr (ι (f:=nm))<|C9 e rfl
    unfold MJ;refine C9 e<|C9 l ?_
    rw [l] at h1 h2;exact YQ X ⟨q1,q2.trans e,q3,q4,q5,io (band hd).1⟩ c1 c2 c3 h1 h2
set_option tactic.hygienic true in theorem eT {K:B4} {cd:Bj} {q:Str} (e:codeIn K cd q=true): ∃c cls od vs sl t,cd= .ref c∧K.lookup c=some ⟨cls,od, .fields vs,sl⟩∧vs[1]?=some (.str q t):=by
 cases cd with
 |ref c=>
  change (match K.lookup c with|some ⟨_,_, .fields vs,_⟩=>(match vs.toList with|_:: .str n _::_=>n==q|_=>false)|_=>false)=true at e
  cases z:K.lookup c with
  |none=>rw [z] at e;exact ζ e
  |some o=>
   rw [z] at e;cases o with
   |mk a1 a2 a3 a4=>
    cases a3 with
    |fields vs=>
     refine ⟨c,a1,a2,vs,a4, ?_⟩
     have w: ∀l:List Bj,(match l with|_:: .str n _::_=>n==q|_=>false)=true→ ∃t,l[1]?=some (.str q t):=λl h=>by
      cases l with
      |nil=>exact ζ h
      |cons a l=>cases l with
       |nil=>exact ζ h
       |cons b r=>cases b with
        |str n t=>exact ⟨t,congrArg (λy=>some (Bj.str y t)) (beq_iff_eq.mp h)⟩
        |_=>exact ζ h
     exact (w _ e).elim λt h=>⟨t,rfl,z,(Array.getElem?_toList).symm.trans h⟩
    |_=>exact ζ e
 |_=>exact ζ e
theorem sg{K:B4}{c:Cx}{i:Nat}{fn:Fn}(h:yu K i fn=true): ∃o fd body,FnAt K c SO i fn o fd body:=by
 unfold yu at h;cases z1:K.lookup (SO i) with
 |none=>rw [z1] at h;exact ζ h
 |some o=>
  rw [z1] at h;obtain ⟨oc,od,dt,sl⟩:=o;cases dt with
  |func fd=>
   have h:(jw K fd fn&&(match fd.body with| .stmts body=>Oe (vw fd.scope) ((bD fn.body).map Sk.s) body|_=>false))=true:=h;refine Dl (band h) λh hb=> ?_;cases z2:fd.body with
   |stmts body=>
    refine wr λZ0 z0=> ?_;rw [z2] at hb;refine Dl (band h) λa1 h=> ?_;refine Dl (band h) λa2 h=> ?_;refine Dl (band h) λa3 h=> ?_;refine Dl (band h) λa4 h=> ?_;refine Dl (band h) λa5 h=> ?_;refine Dl (band h) λa6 h=> ?_;refine Dl (band h) λa7 h=> ?_;refine Dl (band h) λa8 h=> ?_;refine Dl (band h) λa9 h=> ?_;refine Dl (band h) λa10 h=> ?_;refine Dl (band h) λa11 a12=> ?_;refine z0 ?_;have nd:=Xm a9;refine ⟨_,fd,body,z1,rfl,z2,⟨?_, ?_, ?_,nb a4,nb a5,AZ.mp a6,λn e=> ?_⟩, ?_,hb,nd,λn hn=> ?_,λX h1 h2=>dO nd a11 a12 X h1 h2⟩
    ·cases z:fd.scope.kind with
     |function=>rfl
     |_=>rw [z] at a1;exact ζ a1
    ·cases z:fd.scope.isCoroutine with
     |false=>rfl
     |true=>rw [z] at a2;exact ζ a2
    ·cases z:fd.scope.isGenerator with
     |false=>rfl
     |true=>rw [z] at a3;exact ζ a3
    ·exact ζ (Fa a7 (mem_of_lookup e))
    ·refine UI (eT a8) λcc cls od vs sl t y1 y2 y3=> ?_
     exact (FQ _ _ vs t y1 y2 rfl y3)
    ·have w:=Fa a10 hn
     refine ⟨by simpa using (band w).1, ?_⟩;have w:=(band w).2;cases z:fd.scope.names.lookup (nm n) with
     |none=>rw [z] at w;exact ζ w
     |some k=>
      rw [z] at w;cases k with
      |«local»=>exact .inl rfl
      |cell=>exact .inr rfl
      |_=>exact ζ w
   |_=>rw [z2] at hb;exact ζ hb
  |_=>exact ζ h
theorem nW{K:B4}{c:Cx}: ∀{l:List Fn} {i j:Nat} {fn:Fn},gw K i l=true→l[j]?=some fn→ ∃o fd body,FnAt K c SO (i+j) fn o fd body:=λ{l}=>by
 induction l with
 |nil=>intro i j fn _ e;exact DC e
 |cons f r ih=>
  intro i j fn h e;cases j with
  |zero=>rw [η (e:some f=some fn)] at h;exact sg (band h).1
  |succ j=>have:=ih (i:=i+1) (band h).2 (e:r[j]?=some fn);rwa [BZ,Am 1 j] at this
theorem oy{K:B4}{c:Cx}(h:gw K 0 fns=true):vq K c SO:=⟨λi fn e=>by have:=nW (c:=c) h e;rwa [BP] at this⟩
def kF:List (Nat×Nat):= [(1,0),(4,1),(5,9),(6,17),(7,18),(8,31)]
def ckB(K:B4):Bool:=kF.all λp=>makesIn K (L9 p.1)&&(CV K (.ref (L9 p.1)) "__init__" ==some (some (.ref (SO p.2)))&&(typeIn K (.ref (SO p.2))==some (.type "function")&&(match fns[p.2]? with
 |some f=>(match f.ps with|s::_=>TA s f.body| []=>false)
 |none=>false)))
theorem tJ{K:B4}{prog:Program}{w:World}{h₀:Bz}(h:ckB K=true):l8 K ⟨prog,w,L9,h₀⟩ SO:=by
 refine ⟨λcl i fn e1 e2=> ?_⟩
 have go:(cl,i)∈kF→ ∃s ps,qw K ⟨prog,w,L9,h₀⟩ SO cl i fn s ps:=λhm=>by
  have:=Fa h hm
  refine Dl (band this) λb1 b=> ?_;refine Dl (band b) λb2 b=> ?_;refine Dl (band b) λb3 b4=> ?_;rw [e2] at b4;have b4:(match fn.ps with|s::_=>TA s fn.body| []=>false)=true:=b4;cases z:fn.ps with
  |nil=>rw [z] at b4;exact ζ b4
  |cons s ps=>rw [z] at b4;exact ⟨s,ps,b1,eq_of_beq b2,eq_of_beq b3,z,b4⟩
 revert go e1;refine Fr (λe go=>DC e) (λcl=> ?_) cl;refine Fr (λe go=>by cases e;exact go (.head _)) (λcl=> ?_) cl;refine Fr (λe go=>DC e) (λcl=> ?_) cl;refine Fr (λe go=>DC e) (λcl=> ?_) cl;refine Fr (λe go=>by cases e;exact go (.tail _ (.head _))) (λcl=> ?_) cl;refine Fr (λe go=>by cases e;exact go (.tail _ (.tail _ (.head _)))) (λcl=> ?_) cl;refine Fr (λe go=>by cases e;exact go (.tail _ (.tail _ (.tail _ (.head _))))) (λcl=> ?_) cl;refine Fr (λe go=>by cases e;exact go (.tail _ (.tail _ (.tail _ (.tail _ (.head _)))))) (λcl=> ?_) cl;refine Fr (λe go=>by cases e;exact go (.tail _ (.tail _ (.tail _ (.tail _ (.tail _ (.head _))))))) (λcl=> ?_) cl;exact λe go=>DC e
end
end
section
mutual open A
theorem Sa{c:Cx}{P:Params}{h:Bz}{il:List Int}: ∀{vs:List Bj},WellAll P h vs (ofPys (il.map .int))→KY c (λb=>h.get? b) vs (il.map D.int):=by
 induction il with
 |nil=>intro vs W;cases W;exact .nil
 |cons i il ih=>
  intro vs W;cases W with
  |cons a b=>cases a with|int _ t=>exact .cons (.int i t) (ih b)
theorem Ul{c:Cx}{P:Params}{h:Bz}{il:List Int}{a:Br}(W:Well P h (.ref a) (ofPy (.list (il.map .int))))(hl:il.length≤big):DV c (λb=>h.get? b) (.ref a) (.nd .lst (il.map D.int)):=by
 cases W with
 | @list _ vs _ g wa=>
  have d:=Sa (c:=c) wa;exact DV.nd (p:=(a,a)) g ⟨rfl,by exact C9 d.length<|C9 (ι _)<|hl,0,rfl⟩ d
theorem su{q:Program}{loose:List Str}{yK:ExcName→Option Bj}{prog:Program}{w:World}{K:B4}{s:Bl}{mg mb:Str→Option Bj}{a fa:Br}{il:List Int}{Q:Bj→Bl→Prop}{E:Bj→Bl→Prop}
  (T:Top q loose yK mg mb s.heap) (X:K.In s.heap) (hi:importsNone q=true) (b1:uX K=true) (b2:kgB K=true) (b3:gvB K=true) (b4:ckB K=true) (b5:gw K 0 fns=true)
  (hmg:mg (nm 89)=some (.ref fa)) (hw:Well w.params s.heap (.ref a) (ofPy (.list (il.map .int)))) (hl:il.length≤big)
  (law:(DZ 40).call false 49 [.d (.nd .lst (il.map .int))] []=some (.d (.bool true), []))
  (hQ: ∀s',(∀b o,s.heap.get? b=some o→s'.heap.get? b=some o)→s'.os=s.os→s'.gens=s.gens→Q (.bool true) s'):
  Bp (Bq prog w) callerA (PySem.call (.ref fa) [.ref a]) Q E s:=by
 have B:I2 K ⟨prog,w,L9,s.heap⟩:=⟨X,o9 b1,(EF _ T.g),(DM _ T.b T.builtins),T.nolimit,let ⟨_,⟨o,_,_,ho,_⟩,_⟩:=(T.seer hi).mods;(EF o ho)⟩;have KG:=qU (prog:=prog) (w:=w) (h₀:=s.heap) b2 b3
 have e:fa=SO 49:=by
  have h1:=KG.fn 89 49 rfl;have h2:=mg_of X T.g h1.1;rw [hmg] at h2;exact Bj.ref.inj (η h2)
 have ok:=lX B KG (oy b5) (tJ b4) 40 callerA ⟨rfl,rfl,by decide,by decide⟩;have R:F5 ⟨prog,w,L9,s.heap⟩ (λb=>s.heap.get? b) [] [] s.heap:=⟨λO O h=>h,λO O h=>h,rfl,λO O O e=>DC e,λO O O O O O e=>DC e,λO O e=>DC e⟩;refine C9 e ?_;refine Bu (ok.call (x:=⟨λb=>s.heap.get? b, [], [],s,R⟩) (us:= [.ref a]) (Q:=Q) law (.cons (Ul hw hl) .nil) λval y l O hv=> ?_) (λO O h=>h) λO O h=>h.elim;cases hv;exact hQ y.s (λb o e=>l.nx.Ee b o e λp hp=>absurd hp Γ) l.sm.os l.sm.gens
end
end
section
mutual open A
variable{G:HR}{loc DG:Di}{σ DD DK Dy DT:Store}{n f i c x y q b k:Nat}{v w u va vb vc o r:V}{vs ws:List V}{ds:List D}{a t1 t2 t3:T}{ts l:List T}{h:Hd}{d:D}{B:Bool}{out:HW}
theorem DJ{α β:Type}{x:Option (α×Store)}{a:α}{f:α→Store→Option β}{r:Option β}(h:x=some (a,σ))(k:f a σ=r):EI x f=r:=by rw [h];exact k
theorem DB{α β:Type}{x:Option α}{a:α}{f:α→Option β}{r:Option β}(h:x=some a)(k:f a=r):DN x f=r:=by rw [h];exact k
theorem Ed{α:Type}{x:Option α}{a:α}(h:x=some a):lift x σ=some (a,σ):=by rw [h];rfl
theorem D7{α:Type}{b:Bool}{x r:Option α}(h:b=true)(k:x=r):GA b x=r:=by rw [h];exact k
theorem Fg(h:DE loc n=some v):(nd G (.mk 0 n l)).ev loc σ=some (v,σ):=Ed h
theorem e_gv(h:fV n=some d):(nd G (.mk 1 n l)).ev loc σ=some (.d d,σ):=Ed (DB h rfl)
theorem yx:(nd G (.mk 2 n l)).ev loc σ=some (.d .none,σ):=rfl
theorem xr:(nd G (.mk 3 1 l)).ev loc σ=some (.d (.bool true),σ):=rfl
theorem Fu:(nd G (.mk 4 n l)).ev loc σ=some (.d (.int n),σ):=rfl
theorem e_sym:(nd G (.mk 5 n l)).ev loc σ=some (.d (.sym n),σ):=rfl
theorem e_neg:(nd G (.mk 6 n l)).ev loc σ=some (.d (.int (-(n:Int))),σ):=rfl
theorem e_pow:(nd G (.mk 7 n l)).ev loc σ=some (.d (.int ((10:Int)^n)),σ):=rfl
theorem xG(h1:(nd G a).ev loc σ=some (o,DD))(h2:Hj DD o n=some v):(nd G (.mk 8 n [a])).ev loc σ=some (v,DD):=show XE n (nd G a).ev loc σ=_ from DJ h1 (Ed h2)
theorem e_sub(h1:(nd G t1).ev loc σ=some (o,DD))(h2:(nd G t2).ev loc DD=some (u,DK))(h3:E8 DK o u=some v):(nd G (.mk 9 n [t1,t2])).ev loc σ=some (v,DK):=show iA (nd G t1).ev (nd G t2).ev loc σ=_ from DJ h1 (DJ h2 (Ed h3))
theorem xH(h1:(nd G a).ev loc σ=some (o,DD))(h2:kY o n=some v):(nd G (.mk 10 n [a])).ev loc σ=some (v,DD):=show V5 n (nd G a).ev loc σ=_ from DJ h1 (Ed h2)
theorem dm(h1:(nd G t1).ev loc σ=some (va,DD))(h2:(nd G t2).ev loc DD=some (vb,DK))(h3:Mx n va vb=some v):(nd G (.mk 11 n [t1,t2])).ev loc σ=some (v,DK):=show gh n (nd G t1).ev (nd G t2).ev loc σ=_ from DJ h1 (DJ h2 (Ed h3))
theorem bG(h1:(nd G a).ev loc σ=some (.d (.bool B),DD)):(nd G (.mk 12 n [a])).ev loc σ=some (.d (.bool (!B)),DD):=show cW (nd G a).ev loc σ=_ from DJ h1 rfl
theorem um(h1:(nd G t1).ev loc σ=some (va,DD))(h2:(nd G t2).ev loc DD=some (vb,DK))(h3:FG DK n va vb=some B):(nd G (.mk 13 n [t1,t2])).ev loc σ=some (.d (.bool B),DK):=show Ya n (nd G t1).ev (nd G t2).ev loc σ=_ from DJ h1 (DJ h2 (Ed (DB h3 rfl)))
theorem XQ(h1:(nd G t1).ev loc σ=some (va,DD))(h2:(nd G t2).ev loc DD=some (vb,DK))(h3:FG DK (n / 16) va vb=some false):(nd G (.mk 14 n [t1,t2,t3])).ev loc σ=some (.d (.bool false),DK):=show OE (n / 16) (n % 16) (nd G t1).ev (nd G t2).ev (nd G t3).ev loc σ=_ from DJ h1 (DJ h2 (DB h3 rfl))
theorem LV(h1:(nd G t1).ev loc σ=some (va,DD))(h2:(nd G t2).ev loc DD=some (vb,DK))(h3:FG DK (n / 16) va vb=some true)(h4:(nd G t3).ev loc DK=some (vc,Dy))(h5:FG Dy (n % 16) vb vc=some B):(nd G (.mk 14 n [t1,t2,t3])).ev loc σ=some (.d (.bool B),Dy):=show OE (n / 16) (n % 16) (nd G t1).ev (nd G t2).ev (nd G t3).ev loc σ=_ from DJ h1 (DJ h2 (DB h3 (DJ h4 (Ed (DB h5 rfl)))))
abbrev bQ(G:HR)(q:Bool)(l:List T)(loc:Di)(σ:Store):Option (V×Store):=LE q ((GT G l).map Nd.ev) loc σ
theorem rk(h:bQ G true l loc σ=some (v,DD)):(nd G (.mk 15 n l)).ev loc σ=some (v,DD):=h
theorem e_or(h:bQ G false l loc σ=some (v,DD)):(nd G (.mk 16 n l)).ev loc σ=some (v,DD):=h
theorem xu{q:Bool}:bQ G q [] loc σ=some (.d (.bool q),σ):=rfl
theorem Vs{q:Bool}(h1:(nd G a).ev loc σ=some (.d (.bool B),DD))(h2:cond (q==B) (bQ G q l loc DD) (some (.d (.bool B),DD))=some (v,DK)):bQ G q (a::l) loc σ=some (v,DK):=DJ h1 h2
theorem e_ife(h1:(nd G t1).ev loc σ=some (v,DD))(h2:G1 DD v=some B)(h3:cond B ((nd G t2).ev loc DD) ((nd G t3).ev loc DD)=some (w,DK)):(nd G (.mk 17 n [t1,t2,t3])).ev loc σ=some (w,DK):=show ci (nd G t1).ev (nd G t2).ev (nd G t3).ev loc σ=_ from DJ h1 (DB h2 h3)
abbrev RO(G:HR)(l:List T)(loc:Di)(σ:Store):Option (List V×Store):=O3 ((GT G l).map Nd.ev) loc σ
theorem OA:RO G [] loc σ=some ([],σ):=rfl
theorem Gj(h1:(nd G a).ev loc σ=some (v,DD))(h2:RO G l loc DD=some (vs,DK)):RO G (a::l) loc σ=some (v::vs,DK):=DJ h1 (DJ h2 rfl)
theorem rB(h1:RO G l loc σ=some (vs,DD))(h2:Df false .tup vs DD=some (r,DK)):(nd G (.mk 18 n l)).ev loc σ=some (r,DK):=show ZW false .tup ((GT G l).map Nd.ev) loc σ=_ from DJ h1 h2
theorem u9(h1:RO G l loc σ=some (vs,DD))(h2:Df false .lst vs DD=some (r,DK)):(nd G (.mk 19 n l)).ev loc σ=some (r,DK):=show ZW false .lst ((GT G l).map Nd.ev) loc σ=_ from DJ h1 h2
theorem xL(h1:RO G l loc σ=some (vs,DD))(h2:Df true .lst vs DD=some (r,DK)):(nd G (.mk 20 n l)).ev loc σ=some (r,DK):=show ZW true .lst ((GT G l).map Nd.ev) loc σ=_ from DJ h1 h2
theorem zR(h1:RO G l loc σ=some (vs,DD))(h2:Df true .tup vs DD=some (r,DK)):(nd G (.mk 35 n l)).ev loc σ=some (r,DK):=show ZW true .tup ((GT G l).map Nd.ev) loc σ=_ from DJ h1 h2
theorem e_dct{ps:List (V×V)}{kl:List DO}(h1:RO G l loc σ=some (vs,DD))(h2:alt vs=some ps)(h3:FB n ps ([], [])=some (kl,ws))(h4:Df false (.Dg n kl) ws DD=some (r,DK)):(nd G (.mk 21 n l)).ev loc σ=some (r,DK):=show Yr false n ((GT G l).map Nd.ev) loc σ=_ from DJ h1 (DB h2 (DB h3 h4))
theorem eU{ps:List (V×V)}{kl:List DO}(h1:RO G l loc σ=some (vs,DD))(h2:alt vs=some ps)(h3:FB n ps ([], [])=some (kl,ws))(h4:Df true (.Dg n kl) ws DD=some (r,DK)):(nd G (.mk 22 n l)).ev loc σ=some (r,DK):=show Yr true n ((GT G l).map Nd.ev) loc σ=_ from DJ h1 (DB h2 (DB h3 h4))
theorem lD(h1:RO G l loc σ=some (vs,DD))(h2:bc n=some i)(h3:G.call false i vs DD=some (r,DK)):(nd G (.mk 23 n l)).ev loc σ=some (r,DK):=show Lv G false n ((GT G l).map Nd.ev) loc σ=_ from DJ h1 (DB h2 h3)
theorem QI(h1:RO G l loc σ=some (vs,DD))(h2:bc n=some i)(h3:G.call true i vs DD=some (r,DK)):(nd G (.mk 24 n l)).ev loc σ=some (r,DK):=show Lv G true n ((GT G l).map Nd.ev) loc σ=_ from DJ h1 (DB h2 h3)
theorem tZ(h1:RO G l loc σ=some (vs,DD))(h2:G.init n vs DD=some (ws,DK))(h3:Df false (.inst n) ws DK=some (r,Dy)):(nd G (.mk 25 n l)).ev loc σ=some (r,Dy):=show Lz G false n ((GT G l).map Nd.ev) loc σ=_ from DJ h1 (DJ h2 h3)
theorem ec(h1:RO G l loc σ=some (vs,DD))(h2:G.init n vs DD=some (ws,DK))(h3:Df true (.inst n) ws DK=some (r,Dy)):(nd G (.mk 26 n l)).ev loc σ=some (r,Dy):=show Lz G true n ((GT G l).map Nd.ev) loc σ=_ from DJ h1 (DJ h2 h3)
theorem xD(h1:(nd G a).ev loc σ=some (v,DD))(h2:Fk DD n v=some w):(nd G (.mk 27 n [a])).ev loc σ=some (w,DD):=show Qh n (nd G a).ev loc σ=_ from DJ h1 (Ed h2)
theorem e_mkd{kl:List DO}(h1:(nd G a).ev loc σ=some (v,DD))(h2:K5 DD n v=some (k,kl,vs))(h3:Df false (.Dg k kl) vs DD=some (r,DK)):(nd G (.mk 28 n [a])).ev loc σ=some (r,DK):=show Lo false n (nd G a).ev loc σ=_ from DJ h1 (DB h2 h3)
theorem xk{kl:List DO}(h1:(nd G a).ev loc σ=some (v,DD))(h2:K5 DD n v=some (k,kl,vs))(h3:Df true (.Dg k kl) vs DD=some (r,DK)):(nd G (.mk 29 n [a])).ev loc σ=some (r,DK):=show Lo true n (nd G a).ev loc σ=_ from DJ h1 (DB h2 h3)
theorem e_isa(h1:(nd G a).ev loc σ=some (v,DD))(h2:Lc DD v=some k):(nd G (.mk 30 n [a])).ev loc σ=some (.d (.bool (ML k n)),DD):=show hG n (nd G a).ev loc σ=_ from DJ h1 (Ed (DB h2 rfl))
def dy(G:HR)(n:Nat)(o:V)(l:List T)(loc:Di)(σ:Store):Option (Nat×List V)→Option (V×Store)
 |some r=>GA (Dt (DX r.1) (DX r.1) n).isNone (DN (Ki r.1 n) λi=>EI (RO G l loc σ) λvs σ=>G.call false i (o::vs) σ)
 |none=>GA (Jr σ n o) (EI (RO G l loc σ) λvs σ=>GN n o vs σ)
theorem AAA{z:Option (Nat×List V)}(h1:(nd G a).ev loc σ=some (o,DD))(h2:Ey DD o=z)(h3:dy G n o l loc DD z=some (r,DK)):(nd G (.mk 31 n (a::l))).ev loc σ=some (r,DK):=show V7 G n (nd G a).ev ((GT G l).map Nd.ev) loc σ=_ from DJ h1 (by rw [h2];cases z<;>exact h3)
theorem zL{fl:List V}(h3:(Dt (DX c) (DX c) n).isNone=true)(h4:Ki c n=some i)(h5:RO G l loc DD=some (vs,DK))(h6:G.call false i (o::vs) DK=some (r,Dy)):dy G n o l loc DD (some (c,fl))=some (r,Dy):=D7 h3 (DB h4 (DJ h5 h6))
theorem zj(h3:Jr DD n o=true)(h5:RO G l loc DD=some (vs,DK))(h6:GN n o vs DK=some (r,Dy)):dy G n o l loc DD none=some (r,Dy):=D7 h3 (DJ h5 h6)
theorem vC{ks:List DO}:Ey σ (.d (.nd (.Dg k ks) ds))=none:=rfl
theorem sP:Ey σ (.d (.nd (.inst k) ds))=some (k,ds.map .d):=rfl
theorem xP{dl:List D}(h1:RM i ((GT G ts).map Nd.ev) loc σ=some (dl,DD))(h2:EA (F2 x y (nd G a).ev ((GT G l).map Nd.ev) loc) dl DD=some (vs,DK))(h3:Df false .lst vs DK=some (r,Dy)):(nd G (.mk 32 n (.mk i q ts:: .mk x y []::a::l))).ev loc σ=some (r,Dy):=show Od false (RM i ((GT G ts).map Nd.ev)) x y (nd G a).ev ((GT G l).map Nd.ev) loc σ=_ from DJ h1 (DJ h2 h3)
theorem W8{dl:List D}(h1:RM i ((GT G ts).map Nd.ev) loc σ=some (dl,DD))(h2:EA (F2 x y (nd G a).ev ((GT G l).map Nd.ev) loc) dl DD=some (vs,DK))(h3:Df true .lst vs DK=some (r,Dy)):(nd G (.mk 33 n (.mk i q ts:: .mk x y []::a::l))).ev loc σ=some (r,Dy):=show Od true (RM i ((GT G ts).map Nd.ev)) x y (nd G a).ev ((GT G l).map Nd.ev) loc σ=_ from DJ h1 (DJ h2 h3)
theorem Pn{dl:List D}(h1:(nd G a).ev loc σ=some (v,DD))(h2:FV v DD=some (dl,DK)):RM 0 ((GT G [a]).map Nd.ev) loc σ=some (dl,DK):=DJ (DJ h1 rfl) h2
theorem te{z:Int}{dl:List D}(h1:(nd G a).ev loc σ=some (.d (.int z),DD))(h2:FU 0 z=some dl):RM 1 ((GT G [a]).map Nd.ev) loc σ=some (dl,DD):=DJ (DJ h1 rfl) (Ed h2)
theorem Wn{z z':Int}{dl:List D}(h1:(nd G t1).ev loc σ=some (.d (.int z),DD))(h2:(nd G t2).ev loc DD=some (.d (.int z'),DK))(h3:FU z z'=some dl):RM 2 ((GT G [t1,t2]).map Nd.ev) loc σ=some (dl,DK):=DJ (DJ h1 (DJ (DJ h2 rfl) rfl)) (Ed h3)
theorem yQ(h1:(nd G a).ev loc σ=some (.d (.nd .lst ds),DD)):RM 3 ((GT G [a]).map Nd.ev) loc σ=some (ds.reverse,DD):=DJ (DJ h1 rfl) rfl
abbrev rJ(G:HR)(l:List T)(loc:Di)(σ:Store):Option (Bool×Store):=bE ((GT G l).map Nd.ev) loc σ
theorem FD:rJ G [] loc σ=some (true,σ):=rfl
theorem Jj{B':Bool}(h1:(nd G a).ev loc σ=some (.d (.bool B),DD))(h2:cond B (rJ G l loc DD) (some (false,DD))=some (B',DK)):rJ G (a::l) loc σ=some (B',DK):=DJ h1 h2
theorem EL(h1:Md x y d loc=some DG)(h2:rJ G l DG σ=some (true,DD))(h3:(nd G a).ev DG DD=some (v,DK)):F2 x y (nd G a).ev ((GT G l).map Nd.ev) loc d σ=some (some v,DK):=DB h1 (DJ h2 (DJ h3 rfl))
theorem Mj(h1:Md x y d loc=some DG)(h2:rJ G l DG σ=some (false,DD)):F2 x y (nd G a).ev ((GT G l).map Nd.ev) loc d σ=some (none,DD):=DB h1 (DJ h2 rfl)
theorem KC{α:Type}{f:D→Store→Option (Option α×Store)}:EA f [] σ=some ([],σ):=rfl
theorem FC{α:Type}{f:D→Store→Option (Option α×Store)}{p:Option α}{vs:List α}{dl:List D}(h1:f d σ=some (p,DD))(h2:EA f dl DD=some (vs,DK)):EA f (d::dl) σ=some (p.toList++vs,DK):=DJ h1 (DJ h2 rfl)
theorem KV{α:Type}{f:D→Store→Option (Option α×Store)}{g:D→Option α}: ∀{dl:List D},(∀d∈dl,f d σ=some (g d,σ))→EA f dl σ=some (dl.filterMap g,σ):=λ{dl}=>by
 induction dl with
 |nil=>intro _;rfl
 |cons d dl ih=>
  intro h;refine (FC (h d (.head _)) (ih λd' hd=>h d' (.tail _ hd))).trans ?_;rw [As];cases g d<;>rfl
abbrev KZ(G:HR)(l:List T)(loc:Di)(σ:Store):Option HW:=Yh ((GT G l).map Nd.ex) loc σ
theorem MZ:KZ G [] loc σ=some (.go 0 loc σ):=rfl
theorem x_go(h1:(nd G a).ex loc σ=some (.go 0 DG DD))(h2:KZ G l DG DD=some out):KZ G (a::l) loc σ=some out:=by
 show VG ((nd G a).ex loc σ) _=_;rw [h1];exact h2
theorem q8(h1:(nd G a).ex loc σ=some (.ret v DD)):KZ G (a::l) loc σ=some (.ret v DD):=by
 show VG ((nd G a).ex loc σ) _=_;rw [h1];rfl
def after(G:HR)(l:List T):HW→Option HW
 | .go 0 loc σ=>KZ G l loc σ
 |o=>some o
theorem x_seq{o:HW}(h1:(nd G a).ex loc σ=some o)(h2:after G l o=some out):KZ G (a::l) loc σ=some out:=by
 show VG ((nd G a).ex loc σ) _=_;rw [h1];cases o with
 |ret=>exact h2
 |go n=>cases n<;>exact h2
theorem af_go(h:KZ G l loc σ=some out):after G l (.go 0 loc σ)=some out:=h
theorem zf:after G l (.ret v σ)=some (.ret v σ):=rfl
theorem yk:after G l (.go (n+1) loc σ)=some (.go (n+1) loc σ):=rfl
theorem rq(h1:(nd G a).ev loc σ=some (v,DD)):(nd G (.mk 50 n [a])).ex loc σ=some (.go 0 (DR loc n v) DD):=show hO n (nd G a).ev loc σ=_ from DJ h1 rfl
theorem yC(h1:(nd G t1).ev loc σ=some (v,DD))(h2:(nd G t2).ev loc DD=some (o,DK))(h3:LG DK o n v=some Dy):(nd G (.mk 51 n [t1,t2])).ex loc σ=some (.go 0 loc Dy):=show Z4 n (nd G t1).ev (nd G t2).ev loc σ=_ from DJ h1 (DJ h2 (DB h3 rfl))
theorem x7(h1:(nd G t1).ev loc σ=some (v,DD))(h2:(nd G t2).ev loc DD=some (o,DK))(h3:(nd G t3).ev loc DK=some (u,Dy))(h4:GL Dy o u v=some DT):(nd G (.mk 52 n [t1,t2,t3])).ex loc σ=some (.go 0 loc DT):=show cV (nd G t1).ev (nd G t2).ev (nd G t3).ev loc σ=_ from DJ h1 (DJ h2 (DJ h3 (DB h4 rfl)))
theorem aK(h1:(nd G a).ev loc σ=some (.d (.nd .tup ds),DD))(h2:I0 ((GT G l).map Nd.n) (ds.map .d) loc=some DG):(nd G (.mk 53 n (a::l))).ex loc σ=some (.go 0 DG DD):=show aY (nd G a).ev ((GT G l).map Nd.n) loc σ=_ from DJ h1 (DB rfl (DB rfl (DB h2 rfl)))
theorem ma(h1:RO G ts loc σ=some (vs,DD))(h2:I0 ((GT G l).map Nd.n) vs loc=some DG):(nd G (.mk 54 n (.mk 18 q ts::l))).ex loc σ=some (.go 0 DG DD):=show d7 ((GT G ts).map Nd.ev) ((GT G l).map Nd.n) loc σ=_ from DJ h1 (DB h2 rfl)
theorem x_ex(h1:(nd G a).ev loc σ=some (.d .none,DD)):(nd G (.mk 55 n [a])).ex loc σ=some (.go 0 loc DD):=show zh (nd G a).ev loc σ=_ from DJ h1 rfl
theorem x_ext(h1:(nd G t1).ev loc σ=some (o,DD))(h2:Jr DD 57 o=true)(h3:(nd G t2).ev loc DD=some (.d (.nd .lst ds),DK))(h4:G8 DK o ds.reverse=some Dy):(nd G (.mk 56 n [t1,t2])).ex loc σ=some (.go 0 loc Dy):=show cI (nd G t1).ev (nd G t2).ev loc σ=_ from DJ h1 (D7 h2 (DJ h3 (DB rfl (DB rfl (DB h4 rfl)))))
theorem x_rt(h1:(nd G a).ev loc σ=some (v,DD)):(nd G (.mk 57 n [a])).ex loc σ=some (.ret v DD):=show lE (nd G a).ev loc σ=_ from DJ h1 rfl
theorem x_if(h1:(nd G t1).ev loc σ=some (v,DD))(h2:G1 DD v=some B)(h3:cond B ((nd G t2).ex loc DD) ((nd G t3).ex loc DD)=some out):(nd G (.mk 58 n [t1,t2,t3])).ex loc σ=some out:=show zi (nd G t1).ev (nd G t2).ex (nd G t3).ex loc σ=_ from DJ h1 (DB h2 h3)
theorem Ml{dl:List D}(h1:RM i ((GT G ts).map Nd.ev) loc σ=some (dl,DD))(h2:Ek (nd G a).ex n dl loc DD=some out):(nd G (.mk 59 n [.mk i q ts,a])).ex loc σ=some out:=show oP n (RM i ((GT G ts).map Nd.ev)) (nd G a).ex loc σ=_ from DJ h1 h2
theorem z8(h:EC (NJ (nd G t1).ev) (nd G t2).ex TY loc σ=some out):(nd G (.mk 60 n [t1,t2])).ex loc σ=some out:=show pY (nd G t1).ev (nd G t2).ex loc σ=_ from h
theorem zU:(nd G (.mk 61 n l)).ex loc σ=some (.go 2 loc σ):=rfl
theorem x_try(h:(nd G a).ex loc σ=some out):(nd G (.mk 63 n [a])).ex loc σ=some out:=h
theorem Rg(h:KZ G l loc σ=some out):(nd G (.mk 70 n l)).ex loc σ=some out:=h
theorem Xi{n:Nat}{fn:Fn}{keep:Bool}(h1:fns[i]?=some fn)(h2:bindArgs fn.ps vs fn.df=some loc)(h3:KZ (DZ n) fn.body loc σ=some (.ret v DD))(h4:D5 keep σ.length DD v=some (r,DK)):(DZ (n+1)).call keep i vs σ=some (r,DK):=
 DB h1 (DJ (DB (x:=bindArgs fn.ps vs fn.df) h2 (DB h3 rfl)) h4)
theorem kS{n:Nat}{fn:Fn}{keep:Bool}(h1:fns[i]?=some fn)(h2:bindArgs fn.ps vs fn.df=some loc)(h3:KZ (DZ n) fn.body loc σ=some (.go 0 DG DD))(h4:D5 keep σ.length DD (.d .none)=some (r,DK)):(DZ (n+1)).call keep i vs σ=some (r,DK):=
 DB h1 (DJ (DB (x:=bindArgs fn.ps vs fn.df) h2 (DB h3 rfl)) h4)
theorem HO(r:Store):(σ++r).take σ.length=σ:=by rw [Ah (Ι _),AS]
theorem O8{keep:Bool}(r:Store):D5 keep σ.length (σ++r) (.d d)=some (.d d,σ):=by show some (V.d d,(σ++r).take σ.length)=_;rw [HO]
theorem U3{keep:Bool}:D5 keep σ.length σ (.d d)=some (.d d,σ):=by show some (V.d d,σ.take σ.length)=_;rw [AS]
theorem cR{n:Nat}{fn:Fn}{keep:Bool}(h1:fns[i]?=some fn)(h2:bindArgs fn.ps vs fn.df=some loc)(h3:KZ (DZ n) fn.body loc σ=some (.ret (.d d) σ)):(DZ (n+1)).call keep i vs σ=some (.d d,σ):=Xi h1 h2 h3 U3
theorem uD{n:Nat}{fn:Fn}{keep:Bool}(s:Store)(h1:fns[i]?=some fn)(h2:bindArgs fn.ps vs fn.df=some loc)(h3:KZ (DZ n) fn.body loc (σ++ [])=some (.ret (.d d) (σ++s))):(DZ (n+1)).call keep i vs σ=some (.d d,σ):=by
 rw [υ] at h3;exact Xi h1 h2 h3 (O8 s)
end
end
mutual open A
theorem t_eq{α:Type}{a b:α}(h:False):a=b:=h.elim
theorem t_lt{a b:Nat}(h:False):a<b:=h.elim
theorem t_le{a b:Nat}(h:False):a≤b:=h.elim
theorem t_new{n v b}(h:False):FP n v=b:=h.elim
theorem t_ev{G t loc σ r}(h:False):(nd G t).ev loc σ=r:=h.elim
theorem t_ex{G t loc σ r}(h:False):(nd G t).ex loc σ=r:=h.elim
theorem t_for{a b c d e r}(h:False):Ek a b c d e=r:=h.elim
theorem t_whl{a b c d e r}(h:False):EC a b c d e=r:=h.elim
theorem t_cg{α:Type}{a b c}{r:Option (List α×Store)}(h:False):EA a b c=r:=h.elim
theorem t_cf{a b c d e f g r}(h:False):F2 a b c d e f g=r:=h.elim
theorem xa{a b c d e r}(h:False):HR.call a b c d e=r:=h.elim
theorem y4{a b c d r}(h:False):HR.init a b c d=r:=h.elim
theorem xb{a:Di}{b r}(h:False):DE a b=r:=h.elim
theorem t_end{a b c d r}(h:False):D5 a b c d=r:=h.elim
theorem zl{a b r}(h:False):Ey a b=r:=h.elim
end
open Lean in def TL (k:String) (a:List Syntax):Syntax:= .node .none (.mkStr `Lean.Parser.Tactic k) ⟨.atom .none k::a⟩
open Lean in def wkA (c:Char) (x:Syntax):Syntax:=
 let n:=λa=>Syntax.node .none `null ⟨a⟩
 let a:=TL "apply" [x]
 if c='R' then n [TL "withReducible" [a],TL "tacticRfl" []] else
 if c='G' then a else
 if c='C' then cond (x.isOfKind `Lean.Parser.Term.explicit) (TL "withReducible" [n [TL "apply" [x[1]],TL "assumption" []]]) (TL "withReducible" [a]) else
 TL "withReducible" [if c='A' then a else if c='E' then TL "exact" [x] else n [if c='B' then a else TL "failIfSuccess" [TL "failIfSuccess" [a]],TL "assumption" []]]
open Lean in def wkR (s:String) (cs:List Syntax):Syntax:=
 let c:=s.front
 let l:=cond (c=='C') cs (((s.splitOn " ").drop 1).map λx=>mkIdent (.mkSimple x))
 let r:=TL "first" [.node .none `null ⟨l.map λx=> .node .none `null #[.missing,wkA c x]⟩]
 cond (c=='G') (.node .none `null #[TL "failIfSuccess" [r],TL "tacticRfl" []]) r
open Lean in def wkT (a b:Syntax):Syntax:=
 let n:=λa=>Syntax.node .none `null ⟨a⟩
 TL "first" [n [n [.missing,n [a,b]],n [.missing,TL "skip" []]]]
open Lean in def yg (a:List Syntax):Syntax:= .node .none `PySem.W.tacticCell_ask_ #[.missing, .node .none `Lean.Parser.Term.tuple #[.node .none `null ⟨a⟩]]
local macro_rules (kind:=PySem.W.tacticCell_ask_)
 |x=>λ_ s=>
  let a:=x[1][0].getArgs.toList
  let n:=a.head!.toNat+1
  cond (Ε n 21&&x[1].isOfKind `Lean.Parser.Term.tuple) (.ok (yg (Lean.Syntax.mkNumLit (toString n)::a.tail)) s) (.error .unsupportedSyntax s)
local macro_rules (kind:=PySem.W.tacticCell_ask_)
 |x=>λ_ s=>
  let a:=x[1][0].getArgs.toList
  .ok (cond (x[1].isOfKind `Lean.Parser.Term.tuple) (wkR (("E OA MZ xu FD Fu e_sym yx xr e_false|E e_neg e_pow zf yk zU x_brk TQ Da rX|E cv v7 wc mk0 mk1 mk2 mk3 mk4 mk5|E mkk0 yv mkk2 mkk3 HA Yx vC inst_lst sP|E Jq mW|A Fg Gj x_if Rg x_seq af_go xG um e_isa|A e_sub lD AAA zL zj rk e_or Vs Jj|A bG dm rB u9 xL zR e_dct eU tZ|A ec e_ife xD e_gv e_mkd xk xH x_rt rq|A x_as2 x_as3 x_pr2 x7 yC x_ex x_try Pn te|A Wn yQ Ml x_ext xP W8 z8|R wZ vz|B wZ vz|R qN DH|A D9|T t_new|B oj l_upn|R JB oO|A M7|C|T t_eq t_lt t_le t_tb|G t_ev t_ex t_for t_whl t_cg t_cf xa y4 xb t_end t_tlk zl".splitOn "|").getD a.head!.toNat "") a.tail) (wkT (yg (Lean.Syntax.mkNumLit "0" ::x[1][1].getSepArgs.toList)) x)) s
local macro_rules (kind:=PyProof.Rows.tacticFin2)|x=>pure (wkT (yg [Lean.Syntax.mkNumLit "0"]) x)
section
section
mutual open A
variable{σ DD DK:Store}{i:Nat}{vs:List V}{loc DG:Di}{ps:List Nat}{df a:Nat}{ts:List T}{d:D}{v r:V}
theorem nM{motive: ∀z:Nat,z<1→Prop}(h0:motive 0 (of_decide_eq_true rfl)): ∀z h,motive z h:=Y0 h0 ltz
theorem iw{motive: ∀z:Nat,z<2→Prop}(h0:motive 0 (of_decide_eq_true rfl))(h1:motive 1 (of_decide_eq_true rfl)): ∀z h,motive z h:=Y0 h0 (nM (motive:=λz e=>motive (z+1) (Ak e)) h1)
theorem Xh{motive: ∀z:Nat,z<3→Prop}(h0:motive 0 (of_decide_eq_true rfl))(h1:motive 1 (of_decide_eq_true rfl))(h2:motive 2 (of_decide_eq_true rfl)): ∀z h,motive z h:=Y0 h0 (iw (motive:=λz e=>motive (z+1) (Ak e)) h1 h2)
theorem vB{motive: ∀z:Nat,z<4→Prop}(h0:motive 0 (of_decide_eq_true rfl))(h1:motive 1 (of_decide_eq_true rfl))(h2:motive 2 (of_decide_eq_true rfl))(h3:motive 3 (of_decide_eq_true rfl)): ∀z h,motive z h:=Y0 h0 (Xh (motive:=λz e=>motive (z+1) (Ak e)) h1 h2 h3)
theorem ze{motive: ∀z:Nat,z<5→Prop}(h0:motive 0 (of_decide_eq_true rfl))(h1:motive 1 (of_decide_eq_true rfl))(h2:motive 2 (of_decide_eq_true rfl))(h3:motive 3 (of_decide_eq_true rfl))(h4:motive 4 (of_decide_eq_true rfl)): ∀z h,motive z h:=Y0 h0 (vB (motive:=λz e=>motive (z+1) (Ak e)) h1 h2 h3 h4)
theorem xW{motive: ∀z:Nat,z<6→Prop}(h0:motive 0 (of_decide_eq_true rfl))(h1:motive 1 (of_decide_eq_true rfl))(h2:motive 2 (of_decide_eq_true rfl))(h3:motive 3 (of_decide_eq_true rfl))(h4:motive 4 (of_decide_eq_true rfl))(h5:motive 5 (of_decide_eq_true rfl)): ∀z h,motive z h:=Y0 h0 (ze (motive:=λz e=>motive (z+1) (Ak e)) h1 h2 h3 h4 h5)
theorem sx{motive: ∀z:Nat,z<7→Prop}(h0:motive 0 (of_decide_eq_true rfl))(h1:motive 1 (of_decide_eq_true rfl))(h2:motive 2 (of_decide_eq_true rfl))(h3:motive 3 (of_decide_eq_true rfl))(h4:motive 4 (of_decide_eq_true rfl))(h5:motive 5 (of_decide_eq_true rfl))(h6:motive 6 (of_decide_eq_true rfl)): ∀z h,motive z h:=Y0 h0 (xW (motive:=λz e=>motive (z+1) (Ak e)) h1 h2 h3 h4 h5 h6)
theorem yO{motive: ∀z:Nat,z<8→Prop}(h0:motive 0 (of_decide_eq_true rfl))(h1:motive 1 (of_decide_eq_true rfl))(h2:motive 2 (of_decide_eq_true rfl))(h3:motive 3 (of_decide_eq_true rfl))(h4:motive 4 (of_decide_eq_true rfl))(h5:motive 5 (of_decide_eq_true rfl))(h6:motive 6 (of_decide_eq_true rfl))(h7:motive 7 (of_decide_eq_true rfl)): ∀z h,motive z h:=Y0 h0 (sx (motive:=λz e=>motive (z+1) (Ak e)) h1 h2 h3 h4 h5 h6 h7)
theorem pB{motive: ∀z:Nat,z<9→Prop}(h0:motive 0 (of_decide_eq_true rfl))(h1:motive 1 (of_decide_eq_true rfl))(h2:motive 2 (of_decide_eq_true rfl))(h3:motive 3 (of_decide_eq_true rfl))(h4:motive 4 (of_decide_eq_true rfl))(h5:motive 5 (of_decide_eq_true rfl))(h6:motive 6 (of_decide_eq_true rfl))(h7:motive 7 (of_decide_eq_true rfl))(h8:motive 8 (of_decide_eq_true rfl)): ∀z h,motive z h:=Y0 h0 (yO (motive:=λz e=>motive (z+1) (Ak e)) h1 h2 h3 h4 h5 h6 h7 h8)
theorem qJ{a x y:Int}(h:a∈ [x,y]):a=x∨a=y:=(ν.mp h).imp id ς.mp
theorem z6{a x y z w:Int}(h:a∈ [x,y,z,w]):a=x∨a=y∨a=z∨a=w:=(ν.mp h).imp id λh=>(ν.mp h).imp id qJ
theorem Us{α:Type}{P:α→Prop}: ∀a∈([]:List α),P a:=λO h=>absurd h Γ
theorem F1{α:Type}{P:α→Prop}{x:α}{l:List α}(h:P x)(t: ∀a∈l,P a): ∀a∈x::l,P a:=λa ha=>(ν.mp ha).elim (λe=>e▸h) (t a)
theorem wZ{α:Type}{b:Bool}{x y r:α}(hb:b=true)(h:x=r):cond b x y=r:=by exact C9 hb h
theorem vz{α:Type}{b:Bool}{x y r:α}(hb:b=false)(h:y=r):cond b x y=r:=by exact C9 hb h
theorem TQ{x:Nat}:DE ((x,v)::loc) x=some v:=by show cond (μ x x) (some v) _=_;exact C9 (AH _) rfl
theorem qN{x y:Nat}{w:V}(e:μ y x=false)(h:DE loc x=some v):DE ((y,w)::loc) x=some v:=by show cond (μ y x) (some w) (DE loc x)=_;exact C9 e h
theorem Da{x:Nat}:DE (DR loc x v) x=some v:=by
 induction loc with
 |nil=>exact TQ
 |cons p r ih=>
  show DE (cond (μ p.1 x) ((p.1,v)::r) (p::DR r x v)) x=_;cases q:μ p.1 x with
  |true=>show cond (μ p.1 x) (some v) _=_;exact C9 q rfl
  |false=>show cond (μ p.1 x) (some p.2) (DE (DR r x v) x)=_;exact C9 q ih
theorem DH{x y:Nat}{w:V}(e:μ y x=false)(h:DE loc x=some v):DE (DR loc y w) x=some v:=by
 induction loc with
 |nil=>exact nomatch h
 |cons p r ih=>
  have h:cond (μ p.1 x) (some p.2) (DE r x)=some v:=h;show DE (cond (μ p.1 y) ((p.1,w)::r) (p::DR r y w)) x=_;cases q:μ p.1 y with
  |true=>
   have hp:p.1=y:=AO q;rw [hp,e] at h;show cond (μ p.1 x) (some w) (DE r x)=_;exact C9 hp<|C9 e h
  |false=>
   show cond (μ p.1 x) (some p.2) (DE (DR r y w) x)=_;cases z:μ p.1 x with
   |true=>rw [z] at h;exact h
   |false=>rw [z] at h;exact ih h
theorem x_as2{G:HR}{a:T}{x y q:Nat}{d e:D}(h:(nd G a).ev loc σ=some (.d (.nd .tup [d,e]),DD)):(nd G (.mk 53 q [a, .mk 0 x [], .mk 0 y []])).ex loc σ=some (.go 0 (DR (DR loc y (.d e)) x (.d d)) DD):=aK h rfl
theorem x_as3{G:HR}{a:T}{x y z q:Nat}{d e f:D}(h:(nd G a).ev loc σ=some (.d (.nd .tup [d,e,f]),DD)):(nd G (.mk 53 q [a, .mk 0 x [], .mk 0 y [], .mk 0 z []])).ex loc σ=some (.go 0 (DR (DR (DR loc z (.d f)) y (.d e)) x (.d d)) DD):=aK h rfl
theorem x_pr2{G:HR}{a b:T}{x y q q':Nat}{v w:V}(h:(nd G a).ev loc σ=some (v,DD))(h':(nd G b).ev loc DD=some (w,DK)):(nd G (.mk 54 q [.mk 18 q' [a,b], .mk 0 x [], .mk 0 y []])).ex loc σ=some (.go 0 (DR (DR loc y w) x v) DK):=ma (Gj h (Gj h' OA)) rfl
theorem Pc{x n:Nat}(hv:FP n v=false): ∀{loc:Di} {dead:List Nat},has x dead=false→DE loc x=some v→DE (Du n dead loc) x=some v:=λ{loc}=>by
 induction loc with
 |nil=>intro dead _ h;exact nomatch h
 |cons p r ih=>
  intro dead hd h;have h:cond (μ p.1 x) (some p.2) (DE r x)=some v:=h;show DE (cond (has p.1 dead||FP n p.2) (Du n (p.1::dead) r) (p::Du n dead r)) x=some v;cases q:μ p.1 x with
  |true=>
   rw [q] at h;have e:p.2=v:=η h;refine C9 (AO q)<|C9 hd<|C9 e<|C9 hv ?_
   show cond (μ p.1 x) (some p.2) _=_;exact C9 q<|C9 e rfl
  |false=>
   rw [q] at h;cases z:(has p.1 dead||FP n p.2) with
   |true=>
    refine ih ?_ h;show (μ p.1 x||has x dead)=false;exact C9 q<|C9 hd rfl
   |false=>show cond (μ p.1 x) (some p.2) _=_;exact C9 q<|ih hd h
theorem XR{x n:Nat}(hv:FP n v=false)(h:DE loc x=some v):DE (Du n [] loc) x=some v:=Pc hv rfl h
theorem D9{x n:Nat}(h:DE loc x=some v)(hv:FP n v=false):DE (Du n [] loc) x=some v:=Pc hv rfl h
theorem Tm{body:Ex}{x c:Nat}{l:List D}{out:Option HW}(h:body (DR loc x (.d d)) σ=some (.go c DG DD))(hc:c=0∨c=2)(k:Ek body x l (Du σ.length [] DG) (DD.take σ.length)=out):Ek body x (d::l) loc σ=out:=by
 show DN (body (DR loc x (.d d)) σ) _=_;refine C9 h ?_;rcases hc with rfl|rfl<;>exact k
theorem Wa{body:Ex}{x c:Nat}{l:List D}{out:Option HW}(h:body (DR loc x (.d d)) σ=some (.go c DG σ))(hc:c=0∨c=2)(k:Ek body x l (Du σ.length [] DG) σ=out):Ek body x (d::l) loc σ=out:=Tm h hc (by exact C9 AS k)
theorem QG{body:Ex}{x:Nat}{l:List D}(h:body (DR loc x (.d d)) σ=some (.ret v DD)):Ek body x (d::l) loc σ=some (.ret v DD):=by
 show DN (body (DR loc x (.d d)) σ) _=_;exact C9 h rfl
theorem DW{n:Nat}{keep:Bool}(h1:fns[i]?=some ⟨a,ps,df,ts⟩)(h2:bindArgs ps vs df=some loc)(h3:KZ (DZ n) ts loc σ=some (.ret (.d d) σ)):(DZ (n+1)).call keep i vs σ=some (.d d,σ):=cR h1 h2 h3
theorem aL{n:Nat}{keep:Bool}{d':D}(h1:fns[i]?=some ⟨a,ps,df,ts⟩)(h2:bindArgs ps vs df=some loc)(h3:KZ (DZ n) ts loc σ=some (.ret (.d d') σ))(e:d'=d):(DZ (n+1)).call keep i vs σ=some (.d d,σ):=e▸cR h1 h2 h3
theorem EU{n:Nat}{keep:Bool}{s:Store}{v':V}(h1:fns[i]?=some ⟨a,ps,df,ts⟩)(h2:bindArgs ps vs df=some loc)(h3:KZ (DZ n) ts loc (σ++ [])=some (.ret v' s))(h4:D5 keep σ.length s v'=some (r,DK)):(DZ (n+1)).call keep i vs σ=some (r,DK):=by
 rw [υ] at h3;exact Xi h1 h2 h3 h4
end
end
section
mutual open A
variable{h:Hd}{a b c d:D}{σ r:Store}{vs:List V}{c1 c2 c3:Dh}{l l':List D}
theorem mk0:Df false h [] σ=some (.d (.nd h []),σ):=rfl
theorem mk1:Df false h [.d a] σ=some (.d (.nd h [a]),σ):=rfl
theorem mk2:Df false h [.d a, .d b] σ=some (.d (.nd h [a,b]),σ):=rfl
theorem mk3:Df false h [.d a, .d b, .d c] σ=some (.d (.nd h [a,b,c]),σ):=rfl
theorem mk4:Df false h [.d a, .d b, .d c, .d d] σ=some (.d (.nd h [a,b,c,d]),σ):=rfl
theorem ZK(r:Store):Df true h vs (σ++r)=some (.cell (σ.length+r.length),σ++(r++ [.lv h vs])):=by
 show some (V.cell (σ++r).length,σ++r++ [.lv h vs])=_
 (exact C9 ε<|C9 (π _ _ _) rfl)
theorem mkk0:Df true h vs (σ++ [])=some (.cell (σ.length+0),σ++ [.lv h vs]):=ZK []
theorem yv:Df true h vs (σ++ [c1])=some (.cell (σ.length+1),σ++ [c1, .lv h vs]):=ZK [c1]
theorem mkk2:Df true h vs (σ++ [c1,c2])=some (.cell (σ.length+2),σ++ [c1,c2, .lv h vs]):=ZK [c1,c2]
theorem mkk3:Df true h vs (σ++ [c1,c2,c3])=some (.cell (σ.length+3),σ++ [c1,c2,c3, .lv h vs]):=ZK [c1,c2,c3]
theorem HA:FV (.d (.nd .lst l)) σ=some (l,σ):=rfl
theorem Yx:FV (.d (.nd .tup l)) σ=some (l,σ):=rfl
theorem RA(hl:l.length+l'.length≤big):Mx 0 (.d (.nd .tup l)) (.d (.nd .tup l'))=some (.d (.nd .tup (l++l'))):=by
 show DN (GA (true&&true&&Ε (l.length+l'.length) big) _) _=_;exact C9 (ο hl) rfl
theorem XS(hl:l.length+l'.length≤big):Mx 0 (.d (.nd .lst l)) (.d (.nd .lst l'))=some (.d (.nd .lst (l++l'))):=by
 show DN (GA (true&&true&&Ε (l.length+l'.length) big) _) _=_;exact C9 (ο hl) rfl
end
end
mutual open A
abbrev ref(n:Int):D:= .nd (.inst 4) [.int n, .int 0]
abbrev EM(s:Nat):D:= .nd (.inst 1) [.sym s]
abbrev GP(v:D):D:= .nd .tup [.int 0,v]
end
section
mutual open A
variable{n:Nat}{keep:Bool}{σ:Store}{v:V}
theorem NW(h:Lc σ v=some 2)(hv:isNone v=false):(DZ (n+1)).call keep 3 [v] σ=some (.d (.sym 75),σ):=by
 refine DW rfl rfl ?_
 fin2
theorem Kl(h:Lc σ v=some 4)(hv:isNone v=false):(DZ (n+1)).call keep 3 [v] σ=some (.d (.sym 42),σ):=by
 refine DW rfl rfl ?_
 fin2
theorem LF(h:Lc σ v=some 5)(hv:isNone v=false):(DZ (n+1)).call keep 3 [v] σ=some (.d (.sym 56),σ):=by
 refine DW rfl rfl ?_
 fin2
theorem LI(h:Lc σ v=some 11)(hv:isNone v=false):(DZ (n+1)).call keep 3 [v] σ=some (.d (.sym 99),σ):=by
 refine DW rfl rfl ?_
 fin2
theorem K8(h:Lc σ v=some 14)(hv:isNone v=false):(DZ (n+1)).call keep 3 [v] σ=some (.d (.sym 120),σ):=by
 refine DW rfl rfl ?_
 fin2
theorem HP{a b:Int}:(DZ (n+1)).call keep 2 [.d (.nd (.inst 4) [.int a, .int b])] σ=some (.d (.nd .tup [.int a, .int b]),σ):=by
 refine DW rfl rfl ?_
 fin2
theorem rX:(DZ (n+1)).init 1 [v] σ=some ([v],σ):=rfl
theorem cv{a b:V}:(DZ (n+1)).init 4 [a,b] σ=some ([a,b],σ):=rfl
theorem v7{a b:V}:(DZ (n+1)).init 6 [a,b] σ=some ([a,b],σ):=rfl
theorem wc{a b x y z:V}:(DZ (n+1)).init 7 [a,b,x,y,z] σ=some ([a,b,x,y,z],σ):=rfl
end
end
end
section
mutual open A
variable{n k:Nat}{keep:Bool}{σ:Store}{v x:D}{i:Int}{s:Nat}{l xs vs:List D}{ss:List Nat}
theorem Qz(h:V→Store→Option (D×Store))(hh: ∀d σ,h (.d d) σ=some (d,σ)):HN h (l.map .d) σ=some (l,σ):=by
 induction l with
 |nil=>rfl
 |cons d l ih=>exact DJ (hh d σ) (DJ ih rfl)
theorem mW{h:Hd}:Df false h (l.map .d) σ=some (.d (.nd h l),σ):=show EI (HN (Ht FZ) (l.map .d) σ) (λds σ=>some (V.d (.nd h ds),σ))=_ from DJ (Qz (Ht FZ) λO O=>rfl) rfl
theorem Hm{α:Type}{f:D→Store→Option (Option V×Store)}{g:α→D}{l:List α}(h:DS (λd x=>f (g d) σ=some (some (.d x),σ)) l xs):EA f (l.map g) σ=some (xs.map .d,σ):=by
 induction h with
 |nil=>rfl
 |cons a _ ih=>exact FC a ih
theorem LT{f:D→Store→Option (Option V×Store)}{l:List D}(h:DS (λd x=>f d σ=some (some (.d x),σ)) l xs):EA f l σ=some (xs.map .d,σ):=by
 induction h with
 |nil=>rfl
 |cons a _ ih=>exact FC a ih
theorem k9:(DZ (n+1)).call keep 4 [.d (.sym 75), .d (.int i)] σ=some (.d (.nd .tup [.sym 75, .int i]),σ):=by
 refine DW rfl rfl ?_
 fin2
theorem nG:(DZ (n+1)).call keep 4 [.d (.sym 99), .d (EM s)] σ=some (.d (.nd .tup [.sym 99, .sym s]),σ):=by
 refine DW rfl rfl ?_
 fin2
theorem oR:(DZ (n+1)).call keep 4 [.d (.sym 120), .d (ref i)] σ=some (.d (.nd .tup [.sym 120, .int i, .int 0]),σ):=by
 refine DW rfl rfl ?_
 fin2
theorem Rk:(DZ (n+2)).call keep 5 [.d (.int i)] σ=some (.d (.nd .tup [.sym 75, .int i]),σ):=by
 refine DW rfl rfl ?_
 cell_ask ⟨NW,k9⟩
theorem SQ:(DZ (n+2)).call keep 5 [.d (EM s)] σ=some (.d (.nd .tup [.sym 99, .sym s]),σ):=by
 refine DW rfl rfl ?_
 cell_ask ⟨LI,nG⟩
theorem br:(DZ (n+2)).call keep 5 [.d (ref i)] σ=some (.d (.nd .tup [.sym 120, .int i, .int 0]),σ):=by
 refine DW rfl rfl ?_
 cell_ask ⟨K8,oR⟩
def G5(k:Nat)(v x:D):Prop:= ∀n keep σ,k≤n→(DZ n).call keep 5 [.d v] σ=some (.d x,σ)
theorem Ew{a n:Nat}(b:Nat)(h:a+b≤n): ∃m,n=m+b∧a≤m:=(DM (n - b) (by lia) (by lia))
theorem Np(h:DS (G5 (k+1)) l xs)(hl:xs.length<1000):G5 (k+2) (.nd .lst l) (.nd .tup (.sym 42::xs)):=λn keep σ hn=>by
 refine DQ (Ew 2 hn) λm Fi hm=> ?_;subst Fi;refine DW rfl rfl ?_
 cell_ask ⟨Kl⟩
 refine LT (h.imp λd x e=> ?_);refine EL rfl FD ?_
 fin2
 refine e _ _ _ ?_;exact Κ hm
 fin2
 exact RA (by show 1+xs.length≤1000000;exact v5 hl rfl)
 fin2
abbrev sd(ss:List Nat)(vs:List D):D:= .nd (.Dg 1 (ss.map .s)) vs
theorem En{α β:Type}(f:α→β){ks:List DO}: ∀{vs:List α} {x:DO} {v:α},DU ks vs x=some v→DU ks (vs.map f) x=some (f v):=λ{vs}=>by
 induction ks generalizing vs with
 |nil=>intro x v h;exact nomatch h
 |cons k ks ih=>
  intro x v h;cases vs with
  |nil=>exact nomatch h
  |cons u vs=>
   have h:cond (DO.beq k x) (some u) (DU ks vs x)=some v:=h;show cond (DO.beq k x) (some (f u)) (DU ks (vs.map f) x)=some (f v);cases q:DO.beq k x with
   |true=>rw [q] at h;exact congrArg some (congrArg f (η h))
   |false=>rw [q] at h;exact ih h
theorem MB(h:DU (ss.map .s) vs (.s s)=some v):E8 σ (.d (sd ss vs)) (.d (.sym s))=some (.d v):=En V.d h
theorem dL:(ss.map DO.s).map eO=ss:=by exact C9 Δ<|List.map_id'' (λO=>rfl) _
theorem QY(h:ss.length<64):Fk σ 4 (.d (sd ss vs))=some (.d (.nd .lst ((HD Ε ss).map .sym))):=by
 show GA (Μ (ss.map DO.s).length 64) (some (V.d (.nd .lst ((HD Ε ((ss.map DO.s).map eO)).map .sym))))=_;refine C9 dL<|C9 (ι _) ?_
 exact D7 (ο h) rfl
theorem JD{ys:List D}(hs:ss.length<64)(hy:ys.length<1000)(h:DS (λs y=> ∃v x,y= .nd .tup [.sym s,x]∧DU (ss.map .s) vs (.s s)=some v∧(!isNone (.d v))=true∧G5 (k+1) v x) (HD Ε ss) ys):G5 (k+2) (sd ss vs) (.nd .tup (.sym 56::ys)):=λn keep σ hn=>by
 refine DQ (Ew 2 hn) λm Fi hm=> ?_;subst Fi;refine DW rfl rfl ?_
 cell_ask ⟨LF,QY⟩
 refine Hm (h.imp λs y e=> ?_);refine Ib e λv x Gx e1 e2 e3=> ?_;subst Gx;clear e;refine EL (DD:=σ) rfl ?_ ?_
 cell_ask ⟨MB⟩
 refine e3 _ _ _ ?_;exact Κ hm
 fin2
 exact RA (by show 1+ys.length≤1000000;exact v5 hy rfl)
 fin2
theorem G5.up{k k':Nat}(h:G5 k v x)(e:k≤k'):G5 k' v x:=λn keep σ hn=>h n keep σ (by exact Υ e hn)
theorem Ii{α β:Type}{R:α→β→Prop}: ∀{l:List α},(∀a∈l,∃b,R a b)→ ∃m,DS R l m:=λ{l}=>by
 induction l with
 |nil=>intro _;exact (EF ([]) .nil)
 |cons a l ih=>
  intro h;refine D3 (h a (.head _)) λb hb=> ?_;refine D3 (ih λa ha=>h a (.tail _ ha)) λm hm=> ?_;exact (EF (b::m) (.cons hb hm))
theorem im{α:Type}{le:α→α→Bool}{x y:α}: ∀{l:List α},y∈ej le x l→y=x∨y∈l:=λ{l}=>by
 induction l with
 |nil=>intro h;exact .inl (ς.mp h)
 |cons z l ih=>
  intro h;have h:y∈cond (le x z) (x::z::l) (z::ej le x l):=h;cases q:le x z with
  |true=>rw [q] at h;exact (ν.mp h)
  |false=>
   rw [q] at h;rcases ν.mp h with w|w
   ·exact .inr (w▸ .head _)
   ·exact (ih w).imp id λw=> .tail _ w
theorem Kz{α:Type}{le:α→α→Bool}{y:α}: ∀{l:List α},y∈HD le l→y∈l:=λ{l}=>by
 induction l with
 |nil=>intro h;exact h
 |cons x l ih=>
  intro h;rcases im h with w|w
  ·exact w▸ .head _
  ·exact .tail _ (ih w)
theorem fY{α:Type}{le:α→α→Bool}{x:α}: ∀{l:List α},(ej le x l).length=l.length+1:=λ{l}=>by
 induction l with
 |nil=>rfl
 |cons z l ih=>
  show (cond (le x z) (x::z::l) (z::ej le x l)).length=_;cases le x z with
  |true=>rfl
  |false=>exact congrArg (· +1) ih
theorem NA{α:Type}{le:α→α→Bool}: ∀{l:List α},(HD le l).length=l.length:=λ{l}=>by
 induction l with
 |nil=>rfl
 |cons x l ih=>exact fY.trans (congrArg (· +1) ih)
theorem uc{ss:List Nat}: ∀{vs:List D} {s:Nat},ss.length=vs.length→s∈ss→ ∃v∈vs,DU (ss.map .s) vs (.s s)=some v:=by
 induction ss with
 |nil=>intro vs s _ h;exact absurd h Γ
 |cons a ss ih=>
  intro vs s hl h;cases vs with
  |nil=>exact nomatch hl
  |cons u vs=>
   show∃v∈u::vs,cond (μ a s) (some u) (DU (ss.map .s) vs (.s s))=some v
   cases q:μ a s with
   |true=>exact (DM u (.head _) rfl)
   |false=>
    rcases ν.mp h with w|w
    ·rw [w,AH] at q;exact nomatch q
    ·refine DQ (ih (AK.inj hl) w) λv hv e=> ?_
     exact (DM v (.tail _ hv) e)
theorem PW{l:List D}(h: ∀x∈l,plain x=true):plain.FE l=true:=by
 induction l with
 |nil=>rfl
 |cons x l ih=>show (plain x&&plain.FE l)=true;exact C9 (h x (.head _))<|C9 (ih λy hy=>h y (.tail _ hy)) rfl
theorem V3{m:Nat}{l:List D}(h: ∀x∈l,ei x≤m):ei.deps l≤m:=by
 induction l with
 |nil=>exact AT _
 |cons x l ih=>exact Nat.max_le.mpr ⟨h x (.head _),ih λy hy=>h y (.tail _ hy)⟩
theorem GG{α β:Type}{R:α→β→Prop}{l:List α}{m:List β}(h:DS R l m): ∀b∈m,∃a∈l,R a b:=by
 induction h with
 |nil=>intro b hb;exact absurd hb Γ
 |cons r _ ih=>
  intro b hb;rcases ν.mp hb with w|w
  ·exact (DM _ (.head _) (w▸r))
  ·refine DQ (ih b w) λa ha q=> ?_;exact (DM a (.tail _ ha) q)
def Pl(m:Nat)(x:D):Prop:=plain x=true∧ei x≤m
theorem KH{m:Nat}{l:List D}(h: ∀x∈l,Pl m x):Pl (m+1) (.nd .tup l):=⟨show (true&&plain.FE l)=true from PW λx hx=>(h x hx).1,Κ (V3 λx hx=>(h x hx).2)⟩
theorem Ug{m:Nat}{l:List D}(h: ∀x∈l,Pl m x):Pl (m+1) (.nd .lst l):=⟨show (true&&plain.FE l)=true from PW λx hx=>(h x hx).1,Κ (V3 λx hx=>(h x hx).2)⟩
theorem GX{m:Nat}:Pl m (.int i):=⟨rfl,AT _⟩
theorem Fj{m:Nat}:Pl m (.sym s):=⟨rfl,AT _⟩
theorem Pl.up{m m':Nat}{x:D}(h:Pl m x)(e:m≤m'):Pl m' x:=⟨h.1,Υ h.2 e⟩
end
end
section
mutual open A
variable{n m k i:Nat}{keep:Bool}{σ:Store}{v x u:D}{s:Nat}{l vs:List D}{ss:List Nat}{G:HR}{loc:Di}{ks:List Int}{sh t:V}{tr:D}{a:Int}
def EG(ks:List Int)(vs:List D)(a:Int):Option D:=DU (ks.map .i) vs (.i a)
def Tb(σ:Store)(t:V)(ks:List Int)(vs:List D):Prop:=GF σ t=some (0,ks.map .i,(vs.map GP).map .d)
structure Sh(σ:Store)(sh:V)(ks:List Int)(vs:List D)(tr:D)(fl:List V)(t:V):Prop where
 i:Ey σ sh=some (5,fl)
 a:Hj σ sh 144=some t
 tt:Tb σ t ks vs
 n:Ey σ t=none
 r:Hj σ sh 153=some (.d tr)
 low:FP σ.length sh=false
theorem t_tb{a b c d}(h:False):Tb a b c d:=h.elim
theorem t_tlk{a b c r}(h:False):EG a b c=r:=h.elim
theorem GU(h:Tb σ t ks vs)(e:EG ks vs a=some v):E8 σ t (.d (.int a))=some (.d (GP v)):=by
 refine DQ (DA h λq a b=>(DM q a b)) λq h1 h2=> ?_;obtain ⟨hd,ws⟩:=q;cases hd with
 |Dg k2 qF=>
  obtain ⟨rfl,rfl,rfl⟩:k2=0∧qF=ks.map DO.i∧ws=(vs.map GP).map V.d:=by injection h2 with h2;injection h2 with h2 h3;injection h3 with h3 h4;exact ⟨h2,h3,h4⟩
  exact DB rfl (DB h1 (DB rfl (D7 rfl (En V.d (En GP e)))))
 |_=>exact nomatch h2
theorem XY(h:Tb σ t ks vs):Jr σ 65 t=true:=by show (GF σ t).isSome=true;rw [h];rfl
theorem b7{u':V}(h:Tb σ t ks vs)(e:EG ks vs a=some v):GN 65 t [.d (.int a),u'] σ=some (.d (GP v),σ):=by
 show lift (aA σ t [.d (.int a),u']) σ=_;refine Ed (DB h (DB rfl (DB rfl (D7 rfl ?_))));show some ((DU (ks.map .i) ((vs.map GP).map V.d) (.i a)).getD u')=_;exact C9 (En V.d (En GP e)) rfl
theorem gB(h:Tb σ t ks vs)(e:ks.length<64):Fk σ 4 t=some (.d (.nd .lst ((HD I9 ks).map .int))):=by
 refine DB h ?_;show GA (Μ (ks.map DO.i).length 64) (some (V.d (.nd .lst ((HD I9 ((ks.map DO.i).map cJ)).map .int))))=_;refine C9 Δ<|C9 (show ks.map (cJ∘DO.i)=ks from List.map_id'' (λO=>rfl) _)<|C9 (ι _) ?_
 exact D7 (ο e) rfl
def E0(ss:List Nat)(vs:List D)(s:Nat):D:=(DU (ss.map .s) vs (.s s)).getD .none
theorem Pu:GN 65 (.d (sd ss vs)) [.d (.sym s)] σ=some (.d (E0 ss vs s),σ):=by
 show lift (aA σ (.d (sd ss vs)) [.d (.sym s)]) σ=_;refine Ed ?_;show some ((DU (ss.map .s) (vs.map V.d) (.s s)).getD (.d .none))=_;unfold E0;cases q:DU (ss.map DO.s) vs (.s s) with
 |some v=>exact C9 (En V.d q) rfl
 |none=>
  have: ∀{ks:List DO} {vs:List D},DU ks vs (.s s)=none→DU ks (vs.map V.d) (.s s)=none:=λ{ks}=>by
   induction ks with
   |nil=>intro vs h;rfl
   |cons k ks ih=>
    intro vs h;cases vs with
    |nil=>rfl
    |cons u vs=>
     have h:cond (DO.beq k (.s s)) (some u) (DU ks vs (.s s))=none:=h;show cond (DO.beq k (.s s)) _ (DU ks (vs.map V.d) (.s s))=none;cases z:DO.beq k (.s s) with
     |true=>rw [z] at h;exact nomatch h
     |false=>rw [z] at h;exact ih h
  exact C9 (this q) rfl
inductive Kj(ks:List Int)(vs:List D):Nat→D→D→Prop
 |stop {k:Nat} {v:D}:Lc [] (.d v)=some k→ML k 14=false→Kj ks vs 0 v v
 |O7 {k:Nat} {a:Int} {v u:D}:EG ks vs a=some v→Kj ks vs k v u→Kj ks vs (k+1) (ref a) u
theorem Wf(h:Lc [] (.d v)=some k):Lc σ (.d v)=some k:=by cases v<;>exact h
theorem Ut{fl:List V}(H:Sh σ sh ks vs tr fl t)(f:Kj ks vs k v u): ∀{dl:List D} {loc:Di},k<dl.length→DE loc 132=some sh→DE loc 69=some (.d v)→Ek (nd (DZ n) Tm0).ex 71 dl loc σ=some (.ret (.d u) σ):=by
 obtain ⟨hi,ha,ht,hn,hr,Fz⟩:=H
 induction f with
 | @stop k0 v0 h1 h2=>
  intro dl loc hk l1 l2;cases dl with
  |nil=>exact absurd hk (Aw _)
  |cons d dl=>
   have h1:=Wf (σ:=σ) h1;have h3:(!ML k0 14)=true:=by exact C9 h2 rfl
   refine QG ?_
   fin2
 |O7 e f ih=>
  intro dl loc hk l1 l2;cases dl with
  |nil=>exact absurd hk (Aw _)
  |cons d dl=>
   refine' Wa (c:=0) ?_ (.inl rfl) (ih (AM hk) (XR Fz ?_) (XR (v:= .d _) rfl ?_))
   ·cell_ask ⟨@XY,@b7⟩
   ·fin2
   ·fin2
theorem NR{fl:List V}(H:Sh σ sh ks vs tr fl t)(f:Kj ks vs k v u)(hk:k<30):(DZ (n+1)).call keep 10 [sh, .d v] σ=some (.d u,σ):=by
 refine DW rfl rfl ?_
 fin2
 refine Ut H f hk ?_ ?_
 fin2
theorem GJ{fl:List V}{ws:List D}(H:Sh σ sh ks vs tr fl t)(f:Kj ks vs k (E0 ss ws s) u)(hk:k<30):(DZ (n+2)).call keep 11 [sh, .d (sd ss ws), .d (.sym s)] σ=some (.d u,σ):=by
 obtain ⟨hi,ha,ht,hn,hr,Fz⟩:=id H;refine DW rfl rfl ?_
 cell_ask ⟨Pu,NR H f hk⟩
theorem Gd{fl:List V}(H:Sh σ sh ks vs tr fl t)(hk:ks.length<64):(DZ (n+1)).call keep 14 [sh] σ=some (.d (.nd .lst ((HD I9 ks).map .int)),σ):=by
 obtain ⟨hi,ha,ht,hn,hr,Fz⟩:=H;refine DW rfl rfl ?_
 cell_ask ⟨@gB⟩
theorem Km{fl:List V}{ws:List D}{uss:List Nat}{uvs:List D}(H:Sh σ sh ks vs (sd ss ws) fl t)(f:Kj ks vs k (E0 ss ws 18) (sd uss uvs))(hk:k<30):(DZ (n+3)).call keep 15 [sh] σ=some (.d (sd uss uvs),σ):=by
 have H':=H;obtain ⟨hi,ha,ht,hn,hr,Fz⟩:=H;refine DW rfl rfl ?_;have g:=GJ (n:=n) (keep:=false) H' f hk
 fin2
theorem Zl{fl:List V}{ys:List D}{y:D}(H:Sh σ sh ks vs tr fl t)(hl:ks.length<64)(h:DS (λa y=> ∃v x,y= .nd .tup [.int a, .int 0,x]∧EG ks vs a=some v∧G5 (k+1) v x) (HD I9 ks) ys)(ht:G5 (k+1) tr y)(hn:k+2≤n):(DZ n).call keep 16 [sh] σ=some (.d (.nd .tup [.nd .tup ys,y]),σ):=by
 refine DQ (Ew 2 hn) λm Fi hm=> ?_;subst Fi;have H':=H;obtain ⟨hi,ha,htb,WD,hr,Fz⟩:=H;have nu:=Gd (n:=m) (keep:=false) H' hl;refine DW rfl rfl ?_
 fin2
 refine Hm (h.imp λa y e=> ?_);refine D0 e λv x Gx e1 e2=> ?_;subst Gx;clear e;refine EL rfl FD ?_
 cell_ask ⟨@GU⟩
 refine e2 _ _ _ ?_;exact Κ hm
 fin2
 refine ht _ _ _ ?_;exact Κ hm
 fin2
theorem HT{r:Store}:Sw (σ++r) (σ.length+k)=r[k]?:=by
 show (σ++r)[σ.length+k]?=_
 (exact C9 (AG (Ζ _ _))<|C9 (Ω _ _) rfl)
theorem Sc{r:Store}{h:Hd}{ws:List V}:Q2 (σ++r) (σ.length+k) h ws=σ++r.set k (.lv h ws):=by
 show (σ++r).set (σ.length+k) _=_
 (exact C9 (AI _ _ (Ζ _ _))<|C9 (Ω _ _) rfl)
variable{r:Store}{h hd:Hd}{ws:List V}{w:V}
theorem Gz(e:r[k]?=some (.lv h ws)):G4 (σ++r) (.cell (σ.length+k))=some (h,ws):=DB (HT.trans e) rfl
theorem ON(e:r[k]?=some (.lv h ws)):cellOf (σ++r) (.cell (σ.length+k))=some (σ.length+k,h,ws):=DB (HT.trans e) (DB rfl rfl)
theorem kW{key:D}{q:Hd×List V}(e:r[k]?=some (.lv hd ws))(e2:vU key x ws hd=some q):GL (σ++r) (.cell (σ.length+k)) (.d key) (.d x)=some (σ++r.set k (.lv q.1 q.2)):=DJ rfl (DB (ON e) (DB rfl (DB e2 (congrArg some Sc))))
theorem El{kk:Nat}{kl:List DO}{key:D}{ky:DO}(e:r[k]?=some (.lv (.Dg kk kl) ws))(e2:HG key=some ky)(e3:(μ ky.kind kk&&Μ kl.length big)=true):GL (σ++r) (.cell (σ.length+k)) (.d key) (.d x)=some (σ++r.set k (.lv (.Dg kk (D2 kl ky)) (Dz kl ws ky (.d x)))):=kW e (DB e2 (D7 e3 rfl))
theorem Jp{kl:List DO}(e:np i=true):K5 σ n (.d (.nd (.Dg i kl) l))=some (i,kl,l.map .d):=D7 e rfl
theorem Z2(e:r[k]?=some (.lv .lst ws))(hb:ws.length+l.length<big):G8 (σ++r) (.cell (σ.length+k)) l=some (σ++r.set k (.lv .lst (ws++l.map .d))):=by
 refine DB (DB (ON e) (D7 rfl rfl)) (D7 (ο hb) (congrArg some Sc))
theorem Nz(e:r[k]?=some (.lv .lst ws))(hb:ws.length+1<big):GN 41 (.cell (σ.length+k)) [.d x] (σ++r)=some (.d .none,σ++r.set k (.lv .lst (ws++ [.d x]))):=by
 show DN (only [V.d x]) (λv=>done (Px (σ++r) (.cell (σ.length+k)) v))=_;exact DB rfl (DB (DJ rfl (Z2 (l:= [x]) e hb)) rfl)
theorem qb(e:r[k]?=some (.lv .lst ws))(e2:ws.getLast?=some w):GN 116 (.cell (σ.length+k)) [] (σ++r)=some (w,σ++r.set k (.lv .lst ws.dropLast)):=by
 show GA true (pS (σ++r) (.cell (σ.length+k)))=_;exact D7 rfl (DB (DB (ON e) (D7 rfl rfl)) (DB e2 (congrArg (λz=>some (w,z)) Sc)))
theorem Ho(e:r[k]?=some (.lv h ws))(e2:OI h=none):Ey (σ++r) (.cell (σ.length+k))=none:=DB (Gz e) (by exact C9 (show OI (h,ws).1=none from e2) rfl)
theorem Kr(e:r[k]?=some (.lv .lst ws)):Jr (σ++r) 41 (.cell (σ.length+k))=true:=by
 show (JE (σ++r) (.cell (σ.length+k))).isSome=true;exact C9 (show JE (σ++r) (.cell (σ.length+k))=some ws from DB (Gz e) (D7 rfl rfl)) rfl
theorem Wi(e:r[k]?=some (.lv .lst ws)):Jr (σ++r) 116 (.cell (σ.length+k))=true:=Kr e
theorem j0(e:r[k]?=some (.lv .lst ws)):Jr (σ++r) 57 (.cell (σ.length+k))=true:=Kr e
theorem OM(e:r[k]?=some (.lv .lst ws)):G1 (σ++r) (.cell (σ.length+k))=some (!ws.isEmpty):=DB (show JE (σ++r) (.cell (σ.length+k))=some ws from DB (Gz e) (D7 rfl rfl)) rfl
theorem Wu{q:Nat}{kl:List DO}{key:DO}(e:r[k]?=some (.lv (.Dg q kl) ws))(e2:HG x=some key)(e3:μ key.kind q=true):FG (σ++r) 9 (.d x) (.cell (σ.length+k))=some (!Dm kl key):=DB (DB rfl (DB (Gz e) (DB e2 (D7 e3 rfl)))) rfl
theorem UK{q:Nat}{kl:List DO}{key:DO}(e:r[k]?=some (.lv (.Dg q kl) ws))(e2:HG x=some key)(e3:μ key.kind q=true):FG (σ++r) 8 (.d x) (.cell (σ.length+k))=some (Dm kl key):=show lB (σ++r) (.d x) (.cell (σ.length+k))=_ from DB (show Ir (.d x)=some x from rfl) (DB (Gz e) (DB e2 (D7 e3 rfl)))
theorem JB(e:Ε (k+1) r.length=true):FP (σ++r).length (.cell (σ.length+k))=false:=by
 have e:=φ e;show Ε (σ++r).length (σ.length+k)=false;refine C9 ε ?_;cases q:Ε (σ.length+r.length) (σ.length+k) with
 |false=>rfl
 |true=>exact absurd (φ q) (by exact xO e)
theorem oj{v:V}(h:FP σ.length v=false):FP (σ++r).length v=false:=by
 cases v with
 |d=>rfl
 |cell i=>
  show Ε (σ++r).length i=false;refine C9 ε ?_;cases q:Ε (σ.length+r.length) i with
  |false=>rfl
  |true=>
   have:=φ q
   have h:Ε σ.length i=false:=h;rw [ο (by exact zqC this)] at h;exact nomatch h
theorem o4{r':Store}(e:r'.length=r.length):(σ++r').take (σ++r).length=σ++r':=by
 (exact C9 ε<|Dr e<|Dr ε<|C9 AS rfl)
theorem rc{r' xn:Store}(e:r'.length=r.length):(σ++(r'++xn)).take (σ++r).length=σ++r':=by
 (exact Dr (π _ _ _)<|C9 ε<|Dr e<|Dr ε<|C9 (HO _) rfl)
theorem Nc{q:Hd×List V}{v:V}(h:G4 σ v=some q):G4 (σ++r) v=some q:=by
 cases v with
 |d=>exact h
 |cell i=>
  refine DA (x:=Sw σ i) h λc h1 h2=>DB (a:=c) ?_ h2;have hl:i<σ.length:=(AR.mp h1).1;exact (Ο hl).trans h1
theorem JW{z:Nat×List DO×List V}{v:V}(h:GF σ v=some z):GF (σ++r) v=some z:=DA h λq h1 h2=>DB (Nc h1) h2
theorem Gm{z:Nat×List V}{v:V}(h:Ey σ v=some z):Ey (σ++r) v=some z:=DA h λq h1 h2=>DB (Nc h1) h2
theorem Eo{a:Nat}{v w:V}(h:Hj σ v a=some w):Hj (σ++r) v a=some w:=DA h λq h1 h2=>DB (Gm h1) h2
theorem PQ{z:Nat×List DO×List V}{v:V}(h:GF σ v=some z):Ey (σ++r) v=none:=DA h λq h1 h2=>DA h2 λq2 h3 h4=>DB (Nc h1) (by cases hq:q.1 with|Dg=>rfl|_=>rw [hq] at h3;exact nomatch h3)
theorem Sh.app{fl:List V}(H:Sh σ sh ks vs tr fl t):Sh (σ++r) sh ks vs tr fl t:=⟨Gm H.i,Eo H.a,JW H.tt,PQ H.tt,Eo H.r,oj H.low⟩
theorem M8(h:Tb σ t ks vs)(e:EG ks vs a=some v):E8 (σ++r) t (.d (.int a))=some (.d (GP v)):=GU (JW h) e
theorem gO{u':V}(h:Tb σ t ks vs)(e:EG ks vs a=some v):GN 65 t [.d (.int a),u'] (σ++r)=some (.d (GP v),σ++r):=b7 (JW h) e
theorem lC(h:Tb σ t ks vs):Jr (σ++r) 65 t=true:=XY (JW h)
theorem dV(h:Tb σ t ks vs):Ey (σ++r) t=none:=PQ h
theorem kP(e:r[k]?=some (.lv .lst ws)):FG (σ++r) 0 (.cell (σ.length+k)) (.d (.nd .lst []))=some ws.isEmpty:=show DN (JE (σ++r) (.cell (σ.length+k))) (λl=>some l.isEmpty)=_ from DB (show JE (σ++r) (.cell (σ.length+k))=some ws from DB (Gz e) (D7 rfl rfl)) rfl
theorem MU{fl:List D}(e:r[k]?=some (.lv h (fl.map .d))):D5 false σ.length (σ++r) (.cell (σ.length+k))=some (.d (.nd h fl),σ):=by
 have b:Ε σ.length (σ.length+k)=true:=ο (Ζ _ _);refine (LS b).trans (DJ (a:= .nd h fl) (σ:=(σ++r).set (σ.length+k) (.fz (.nd h fl))) (DB (HT.trans e) (DJ (Qz (Ht 4) λO O=>rfl) rfl)) ?_)
 (exact C9 (AI _ _ (Ζ _ _))<|C9 (HO _) rfl)
variable{t1 t2:T}{DD DK:Store}{DG:Di}{c:Nat}{out:Option HW}{v' w':V}
theorem iQ(h1:(nd G t1).ev loc σ=some (v',DD))(ht:G1 DD v'=some true)(h2:(nd G t2).ex loc DD=some (.ret w' DK)):EC (NJ (nd G t1).ev) (nd G t2).ex (k+1) loc σ=some (.ret w' DK):=DJ (DJ h1 (Ed ht)) (DB h2 rfl)
theorem K0(h1:(nd G t1).ev loc σ=some (v',DD))(ht:G1 DD v'=some false):EC (NJ (nd G t1).ev) (nd G t2).ex (k+1) loc σ=some (.go 0 loc DD):=DJ (DJ h1 (Ed ht)) rfl
theorem UQ(h1:(nd G t1).ev loc σ=some (v',DD))(ht:G1 DD v'=some true)(h2:(nd G t2).ex loc DD=some (.go c DG DK))(hc:c=0∨c=2)(h3:EC (NJ (nd G t1).ev) (nd G t2).ex k (Du σ.length [] DG) (DK.take σ.length)=out):EC (NJ (nd G t1).ev) (nd G t2).ex (k+1) loc σ=out:=DJ (DJ h1 (Ed ht)) (DB h2 (by rcases hc with rfl|rfl<;>exact h3))
theorem Jq{body:Ex}{x:Nat}:Ek body x [] loc σ=some (.go 0 loc σ):=rfl
theorem bt{body:Ex}{x:Nat}{r':Store}(h:body (DR loc x (.d v)) (σ++r)=some (.go c DG (σ++r')))(hc:c=0∨c=2)(e:r'.length=r.length)(k:Ek body x l (Du (σ++r).length [] DG) (σ++r')=out):Ek body x (v::l) loc (σ++r)=out:=Tm h hc (by exact C9 (o4 e) k)
theorem bq{fl:List D}(e:r[k]?=some (.lv h (fl.map .d))):Ht FZ (.cell (σ.length+k)) (σ++r)=some (.nd h fl,σ++r.set k (.fz (.nd h fl))):=DB (HT.trans e) (DJ (Qz (Ht 4) λO O=>rfl) (congrArg (λz=>some (D.nd h fl,z)) (by (exact C9 (AI _ _ (Ζ _ _))<|C9 (Ω _ _) rfl))))
theorem OQ{ys:List V}{ds:List D}(h:HN (Ht FZ) ys σ=some (ds,DD)):HN (Ht FZ) (.d x::ys) σ=some (x::ds,DD):=DJ (show Ht FZ (.d x) σ=some (x,σ) from rfl) (DJ h rfl)
theorem W9{ys:List V}{ds fl:List D}(e:r[k]?=some (.lv h (fl.map .d)))(h2:HN (Ht FZ) ys (σ++r.set k (.fz (.nd h fl)))=some (ds,DD)):HN (Ht FZ) (.cell (σ.length+k)::ys) (σ++r)=some (.nd h fl::ds,DD):=DJ (bq e) (DJ h2 rfl)
theorem tS{d1 d2 d3 d5:D}{h':Hd}(ds:List D)(e:r[k]?=some (.lv h (ds.map .d))):Df false h' [.d d1, .d d2, .d d3, .cell (σ.length+k), .d d5] (σ++r)=some (.d (.nd h' [d1,d2,d3, .nd h ds,d5]),σ++r.set k (.fz (.nd h ds))):=show EI (HN (Ht FZ) _ _) (λds σ=>some (V.d (.nd h' ds),σ))=_ from DJ (OQ (OQ (OQ (W9 e (OQ rfl))))) rfl
theorem EV{body:Ex}{x:Nat}{r':Store}(h:body (DR loc x (.d v)) (σ++r)=some (.go 0 DG (σ++r')))(e:r'.length=r.length)(k:Ek body x l (Du (σ++r).length [] DG) (σ++r')=out):Ek body x (v::l) loc (σ++r)=out:=bt h (.inl rfl) e k
theorem Q5(e:r[k]?=some (.lv .lst (ws++ [w]))):GN 116 (.cell (σ.length+k)) [] (σ++r)=some (w,σ++r.set k (.lv .lst ws)):=by
 have:=qb (σ:=σ) e List.getLast?_concat
 rwa [List.dropLast_concat] at this
theorem HE{x:Option HW}{s s':Store}(h:x=some (.go 0 loc s'))(e:s'=s):x=some (.go 0 loc s):=e▸h
theorem Kv{kl:List DO}{x y:DO}(h:Dm kl y=false)(e:DO.beq x y=false):Dm (D2 kl x) y=false:=by
 induction kl with
 |nil=>show (DO.beq x y||false)=false;exact C9 e rfl
 |cons k kl ih=>
  have h:(DO.beq k y||Dm kl y)=false:=h;rw [AU] at h;show Dm (cond (DO.beq k x) (k::kl) (k::D2 kl x)) y=false;cases DO.beq k x with
  |true=>show (DO.beq k y||Dm kl y)=false;exact C9 h.1<|C9 h.2 rfl
  |false=>show (DO.beq k y||Dm (D2 kl x) y)=false;exact C9 h.1<|C9 (ih h.2) rfl
def ZZ(m x:Nat):List D→Di→Di
 | [],loc=>loc
 |d::dl,loc=>ZZ m x dl (Du m [] (DR loc x (.d d)))
theorem M7{x y:Nat}(h:DE loc y=some v')(e:μ x y=false)(e2:FP m v'=false):DE (ZZ m x l loc) y=some v':=by
 induction l generalizing loc with
 |nil=>exact h
 |cons d dl ih=>exact ih (D9 (DH e h) e2)
theorem oO{j:Nat}(e:Ε (k+1) j=true):FP (σ.length+j) (.cell (σ.length+k))=false:=by
 have e:=φ e;show Ε (σ.length+j) (σ.length+k)=false;cases q:Ε (σ.length+j) (σ.length+k) with
 |false=>rfl
 |true=>exact absurd (φ q) (by exact xO e)
theorem l_upn{j:Nat}(h:FP σ.length v'=false):FP (σ.length+j) v'=false:=by
 cases v' with
 |d=>rfl
 |cell i=>
  have h:Ε σ.length i=false:=h;show Ε (σ.length+j) i=false;cases q:Ε (σ.length+j) i with
  |false=>rfl
  |true=>rw [ο (Υ (Ζ _ _) (φ q))] at h;exact nomatch h
theorem JO{r':Store}(h1:(Mine.Internal.nd G t1).ev loc (σ++r)=some (v',σ++r))(ht:G1 (σ++r) v'=some true)(h2:(Mine.Internal.nd G t2).ex loc (σ++r)=some (.go 0 DG (σ++r')))(e:r'.length=r.length)(h3:EC (NJ (Mine.Internal.nd G t1).ev) (Mine.Internal.nd G t2).ex k (Du (σ++r).length [] DG) (σ++r')=out):EC (NJ (Mine.Internal.nd G t1).ev) (Mine.Internal.nd G t2).ex (k+1) loc (σ++r)=out:=UQ h1 ht h2 (.inl rfl) (by exact C9 (o4 e) h3)
end
end
section
mutual open A
variable{n m k:Nat}{keep:Bool}{σ r:Store}{v u mb ab:D}{s:Nat}{l vs ws G0:List D}{ss:List Nat}{loc:Di}{ks:List Int}{sh t:V}{tr:D}{a:Int}{fl:List V}
theorem Wo(H:Sh σ sh ks vs tr fl t)(e:EG ks vs a=some v)(e2:Lc [] (.d v)=some k)(e3:(!ML k 14)=true):(DZ (n+1)).call keep 19 [sh, .d (ref a)] σ=some (.d (ref a),σ):=by
 obtain ⟨hi,ha,ht,hn,hr,Fz⟩:=H
 refine' EU rfl rfl ?_ (O8 _)
 fin2
 apply iQ (k:=1999)
 cell_ask ⟨Wu,El,@Eo,@gO,@lC,@dV,@Wf⟩
theorem GM:Kj ks vs 0 .none .none:= .stop (k:=0) rfl rfl
theorem Wz(H:Sh σ sh ks vs tr fl t)(f:Kj ks vs k (E0 ss ws 26) (EM s))(hk:k<30)(hs:s=13∨s=14):(DZ (n+3)).call keep 20 [sh, .d (sd ss ws)] σ=some (.d (.bool (μ s 14)),σ):=by
 have g:=GJ (n:=n) (keep:=false) H f hk;obtain ⟨hi,ha,ht,hn,hr,Fz⟩:=H;rcases hs with rfl|rfl
 all_goals (refine' aL rfl rfl ?_ ?_)
 all_goals (fin2)
theorem WH(H:Sh σ sh ks vs tr fl t)(f:E0 ss ws 26= .none)(f':Kj ks vs k (E0 ss ws 7) u)(hk:k<30):(DZ (n+3)).call keep 20 [sh, .d (sd ss ws)] σ=some (.d (.bool (!isNone (.d u))),σ):=by
 have g:=GJ (n:=n) (s:=26) (u:= .none) (keep:=false) H (by exact C9 f GM) (by decide);have g':=GJ (n:=n) (keep:=false) H f' hk;obtain ⟨hi,ha,ht,hn,hr,Fz⟩:=H;refine DW rfl rfl ?_
 fin2
theorem hH(H:Sh σ sh ks vs tr fl t)(f:E0 ss ws 7= .nd .lst l):(DZ (n+3)).call keep 21 [sh, .d (sd ss ws)] σ=some (.d (.nd .lst l),σ):=by
 have g:=GJ (n:=n) (s:=7) (u:= .nd .lst l) (keep:=false) H (by exact C9 f<| .stop (k:=4) rfl rfl) (by decide);obtain ⟨hi,ha,ht,hn,hr,Fz⟩:=H;refine DW rfl rfl ?_
 fin2
abbrev SP(a:Int)(hd mb ab:D):D:= .nd (.inst 7) [ref a,hd,ab,sd [10] [mb], .bool true]
abbrev SN(a:Int)(hd ab:D):D:= .nd (.inst 7) [ref a,hd,ab,sd [] [], .bool false]
structure JI(ks:List Int)(vs:List D)(a:Int)(ss:List Nat)(ws:List D)(ml:List D):Prop where
 e:EG ks vs a=some (sd ss ws)
 ty:(∃k,k<30∧Kj ks vs k (E0 ss ws 26) (EM 13))∨(E0 ss ws 26= .none∧E0 ss ws 7= .none)
 m:DU (ss.map .s) ws (.s 10)=some (.nd .lst ml)
 r:E0 ss ws 17= .none
 c:E0 ss ws 4= .none
 o:E0 ss ws 19= .none
structure JC(ks:List Int)(vs:List D)(a:Int)(ss:List Nat)(ws:List D)(kl:List D):Prop where
 e:EG ks vs a=some (sd ss ws)
 ty:(∃k,k<30∧Kj ks vs k (E0 ss ws 26) (EM 14))∨E0 ss ws 26= .none
 m:E0 ss ws 10= .none
 r:E0 ss ws 17= .none
 c:E0 ss ws 4= .none
 o:E0 ss ws 19= .none
 k:E0 ss ws 7= .nd .lst kl
theorem cD{ml:List D}(H:Sh σ sh ks vs tr fl t)(P:JI ks vs a ss ws ml):(DZ (n+4)).call keep 22 [sh, .d (ref a), .d ab, .d (sd [] [])] σ=some (.d (SP a (sd ss ws) (.nd .lst ml) ab),σ):=by
 have xY: ∀r,(DZ (n+3)).call false 20 [sh, .d (sd ss ws)] (σ++r)=some (.d (.bool false),σ++r):=λr=>by
  rcases P.ty with ⟨k,hk,f⟩|⟨f,f'⟩
  ·exact Wz H.app f hk (.inl rfl)
  ·exact WH (u:= .none) H.app f (by exact C9 f' GM) (by decide)
 have oQ:=λr=>GJ (n:=n+1) (s:=10) (u:= .nd .lst ml) (keep:=false) (H.app (r:=r)) (show Kj ks vs 0 (E0 ss ws 10) _ by exact C9 (show E0 ss ws 10= .nd .lst ml by unfold E0;rw [P.m];rfl)<| .stop (k:=4) rfl rfl) (by decide);have ym:=λr=>GJ (n:=n+1) (s:=17) (u:= .none) (keep:=false) (H.app (r:=r)) (show Kj ks vs 0 (E0 ss ws 17) _ by exact C9 P.r GM) (by decide);have g4:=λr=>GJ (n:=n+1) (s:=4) (u:= .none) (keep:=false) (H.app (r:=r)) (show Kj ks vs 0 (E0 ss ws 4) _ by exact C9 P.c GM) (by decide);have yW:=λr=>GJ (n:=n+1) (s:=19) (u:= .none) (keep:=false) (H.app (r:=r)) (show Kj ks vs 0 (E0 ss ws 19) _ by exact C9 P.o GM) (by decide);have hm:=λr=>Wo (n:=n+2) (keep:=false) (H.app (r:=r)) P.e (k:=5) rfl rfl;have ft:=λr=>NR (n:=n+2) (keep:=false) (H.app (r:=r)) (.O7 P.e (.stop (k:=5) rfl rfl)) (by decide);have pm:=P.m;obtain ⟨hi,ha,ht,hn,hr,Fz⟩:=H
 refine' EU rfl rfl ?_ (O8 _)
 cell_ask ⟨@Eo,@Gm,hm,ft,Jp⟩
 cell_ask ⟨@Eo,@Gm,EV,ym,oQ,g4,yW,MB,El,xY,tS [.nd .lst ml]⟩
theorem cx{kl:List D}(H:Sh σ sh ks vs tr fl t)(P:JC ks vs a ss ws kl):(DZ (n+4)).call keep 22 [sh, .d (ref a), .d ab, .d (sd [] [])] σ=some (.d (SN a (sd ss ws) ab),σ):=by
 have xY: ∀r,(DZ (n+3)).call false 20 [sh, .d (sd ss ws)] (σ++r)=some (.d (.bool true),σ++r):=λr=>by
  rcases P.ty with ⟨k,hk,f⟩|f
  ·exact Wz H.app f hk (.inr rfl)
  ·exact WH (u:= .nd .lst kl) H.app f (by exact C9 P.k<| .stop (k:=4) rfl rfl) (by decide)
 have oQ:=λr=>GJ (n:=n+1) (s:=10) (u:= .none) (keep:=false) (H.app (r:=r)) (show Kj ks vs 0 (E0 ss ws 10) _ by exact C9 P.m GM) (by decide);have ym:=λr=>GJ (n:=n+1) (s:=17) (u:= .none) (keep:=false) (H.app (r:=r)) (show Kj ks vs 0 (E0 ss ws 17) _ by exact C9 P.r GM) (by decide);have g4:=λr=>GJ (n:=n+1) (s:=4) (u:= .none) (keep:=false) (H.app (r:=r)) (show Kj ks vs 0 (E0 ss ws 4) _ by exact C9 P.c GM) (by decide);have yW:=λr=>GJ (n:=n+1) (s:=19) (u:= .none) (keep:=false) (H.app (r:=r)) (show Kj ks vs 0 (E0 ss ws 19) _ by exact C9 P.o GM) (by decide);have hm:=λr=>Wo (n:=n+2) (keep:=false) (H.app (r:=r)) P.e (k:=5) rfl rfl;have ft:=λr=>NR (n:=n+2) (keep:=false) (H.app (r:=r)) (.O7 P.e (.stop (k:=5) rfl rfl)) (by decide);obtain ⟨hi,ha,ht,hn,hr,Fz⟩:=H
 refine' EU rfl rfl ?_ (O8 _)
 cell_ask ⟨@Eo,@Gm,hm,ft,Jp,EV,ym,oQ,g4,yW,xY,tS []⟩
abbrev item(a:Int)(G0:List D):D:= .nd .tup [ref a, .nd .tup G0,sd [] []]
inductive aJ(ks:List Int)(vs:List D):List (Int×List D)→List D→List Int→Prop
 |nil:aJ ks vs [] [] []
 |pg {a:Int} {ss:List Nat} {ws ml G0:List D} {st fs ns}:JI ks vs a ss ws ml→aJ ks vs st fs ns→aJ ks vs ((a,G0)::st) (SP a (sd ss ws) (.nd .lst ml) (.nd .tup G0)::fs) (a::ns)
 |nd {a:Int} {ss:List Nat} {ws G0:List D} {kl:List Int} {st fs ns}:JC ks vs a ss ws (kl.map ref)→G0.length<100→aJ ks vs (kl.map (λb=>(b,G0++ [ref a]))++st) fs ns→aJ ks vs ((a,G0)::st) (SN a (sd ss ws) (.nd .tup G0)::fs) (a::ns)
structure ix(loc:Di)(n:Nat)(sh:V):Prop where
 a:DE loc 133=some sh
 b:DE loc 62=some (.cell (n+0))
 c:DE loc 131=some (.cell (n+1))
 d:DE loc 93=some (.cell (n+2))
theorem ZC{c0 c1:Dh}{sp:D}(hl:G0.length<100)(hsp:Hj σ (.d sp) 121=some (.d (ref a)))(hsi:Hj σ (.d sp) 74=some (.d (sd [] []))): ∀{dl:List D} {loc:Di} {lv:List V},DE loc 93=some (.cell (σ.length+2))→DE loc 38=some (.d (.nd .tup G0))→DE loc 139=some (.d sp)→lv.length+dl.length<1000→
  Ek (nd (DZ n) xA).ex 82 dl loc (σ++ [c0,c1, .lv .lst lv])=some (.go 0 (ZZ (σ.length+3) 82 dl loc) (σ++ [c0,c1, .lv .lst (lv++dl.map λd=> .d (.nd .tup [d, .nd .tup (G0++ [ref a]),sd [] []]))])):=λ{dl}=>by
 induction dl with
 |nil=>intro loc lv _ _ _ _;exact C9 List.map_nil<|C9 (υ _) rfl
 |cons d dl ih=>
  intro loc lv ld l1 l2 hb;have Oi:G0.length+ [ref a].length≤big:=by show G0.length+1≤1000000;exact X1 hl rfl
  have cA:lv.length+1<big:=by show _<1000000;rw [ξ] at hb;exact Z6 hb rfl
  have hn:(σ++ [c0,c1,Dh.lv .lst lv]).length=σ.length+3:=ε;have e:=ih (loc:=Du (σ.length+3) [] (DR loc 82 (.d d))) (lv:=lv++ [.d (.nd .tup [d, .nd .tup (G0++ [ref a]),sd [] []])]) (by fin2) (by fin2) (by fin2) (by refine C9 ε ?_;rw [ξ] at hb;show lv.length+1+dl.length<1000;exact Tg hb);refine C9 Χ<|C9 (AJ lv _ _) ?_
  refine Eq.trans ?_ e;refine Dr hn ?_;apply EV (r':= [c0,c1, .lv .lst (lv++ [.d (.nd .tup [d, .nd .tup (G0++ [ref a]),sd [] []])])])
  cell_ask ⟨Ho,Kr,@Eo,RA,Nz⟩
  rfl
theorem VL{c0 c1:Dh}{sp:D}{dl:List D}{lv:List V}(hl:G0.length<100)(hsp:Hj σ (.d sp) 121=some (.d (ref a)))(hsi:Hj σ (.d sp) 74=some (.d (sd [] [])))(hs:r= [c0,c1, .lv .lst lv])(h1:DE loc 93=some (.cell (σ.length+2)))(h2:DE loc 38=some (.d (.nd .tup G0)))(h3:DE loc 139=some (.d sp))(h4:lv.length+dl.length<1000):
  Ek (nd (DZ n) xA).ex 82 dl loc (σ++r)=some (.go 0 (ZZ (σ.length+3) 82 dl loc) (σ++ [c0,c1, .lv .lst (lv++dl.map λd=> .d (.nd .tup [d, .nd .tup (G0++ [ref a]),sd [] []]))])):=by exact C9 hs<|ZC hl hsp hsi h1 h2 h3 h4
end
end
section
mutual open A
variable{n k i:Nat}{keep:Bool}{σ r:Store}{v x ab:D}{s:Nat}{l vs ws G0 fs:List D}{ss:List Nat}{loc:Di}{ks ns:List Int}{sh t:V}{tr:D}{a:Int}{fl F sv LN:List V}{kl:List DO}{st:List (Int×List D)}
theorem TH{x:Option HW}{s s':Store}{DG:Di}{P:Di→Prop}(h:x=some (.go 0 DG s'))(e:s'=s)(p:P DG): ∃l,x=some (.go 0 l s)∧P l:=(DM DG (HE h e) p)
theorem lV{b:Bool}{x:Option (V×Store)}(h:x=some (.d (.bool false),σ)):cond (true==b) x (some (.d (.bool b),σ))=some (.d (.bool false),σ):=by cases b with|true=>exact h|false=>rfl
theorem ix.of{DG:Di}(L:ix loc σ.length sh)(Fz:FP σ.length sh=false)(hr:3=r.length)(h: ∀x v,DE loc x=some v→(x=133∨x=62∨x=131∨x=93)→FP (σ++r).length v=false→DE DG x=some v):ix DG σ.length sh:=
 ⟨h _ _ L.a (.inl rfl) (oj Fz),h _ _ L.b (.inr (.inl rfl)) (JB (by exact Dr hr rfl)),h _ _ L.c (.inr (.inr (.inl rfl))) (JB (by exact Dr hr rfl)),h _ _ L.d (.inr (.inr (.inr rfl))) (JB (by exact Dr hr rfl))⟩
theorem fT{ml:List D}(H:Sh σ sh ks vs tr fl t)(P:JI ks vs a ss ws ml)(L:ix loc σ.length sh)(hF:F.isEmpty=false)(hk:(false==Dm kl (.i a))=true)(hb:F.length+1<big)(cA:(μ (DO.i a).kind 0&&Μ kl.length big)=true):
  ∃DG,(nd (DZ (n+4)) ur).ex loc (σ++ [.lv .lst F, .lv (.Dg 0 kl) sv, .lv .lst (LN++ [.d (item a G0)])])=some (.go 0 DG (σ++ [.lv .lst (F++ [.d (SP a (sd ss ws) (.nd .lst ml) (.nd .tup G0))]), .lv (.Dg 0 (D2 kl (.i a))) (Dz kl sv (.i a) (.d (.bool true))), .lv .lst LN]))∧ix DG σ.length sh:=by
 have mt:=λr=>cD (n:=n) (keep:=false) (ab:= .nd .tup G0) (H.app (r:=r)) P;obtain ⟨la,lb,lc,ld⟩:=L;obtain ⟨hi,ha,ht,hn,hr,Fz⟩:=H;have hF1:(true==F.isEmpty)=false:=by exact C9 hF rfl
 have hF2:(false==F.isEmpty)=true:=by exact C9 hF rfl
 have O9:Dm kl (.i a)=false:=by cases q:Dm kl (.i a) with|false=>rfl|true=>rw [q] at hk;exact nomatch hk
 apply TH
 cell_ask ⟨mt,Ho,Wi,Q5,UK,kP,El,Kr,Nz⟩
 exact ⟨by fin2,by fin2,by fin2,by fin2⟩
theorem XM{bx:List D}(H:Sh σ sh ks vs tr fl t)(P:JC ks vs a ss ws bx)(L:ix loc σ.length sh)(hk:(false==Dm kl (.i a))=true)(hb:F.length+1<big)(cA:(μ (DO.i a).kind 0&&Μ kl.length big)=true)(hl:G0.length<100)(hL:LN.length+bx.reverse.length<1000):
  ∃DG,(nd (DZ (n+4)) ur).ex loc (σ++ [.lv .lst F, .lv (.Dg 0 kl) sv, .lv .lst (LN++ [.d (item a G0)])])=some (.go 0 DG (σ++ [.lv .lst (F++ [.d (SN a (sd ss ws) (.nd .tup G0))]), .lv (.Dg 0 (D2 kl (.i a))) (Dz kl sv (.i a) (.d (.bool true))), .lv .lst (LN++bx.reverse.map λd=> .d (.nd .tup [d, .nd .tup (G0++ [ref a]),sd [] []]))]))∧ix DG σ.length sh:=by
 have mt:=λr=>cx (n:=n) (keep:=false) (ab:= .nd .tup G0) (H.app (r:=r)) P;have kd:=λr=>hH (n:=n+1) (keep:=false) (H.app (r:=r)) P.k;obtain ⟨la,lb,lc,ld⟩:=L;obtain ⟨hi,ha,ht,hn,hr,Fz⟩:=H;have O9:Dm kl (.i a)=false:=by cases q:Dm kl (.i a) with|false=>rfl|true=>rw [q] at hk;exact nomatch hk
 apply TH
 cell_ask ⟨mt,Ho,Wi,Q5,UK,kP,El,Kr,Nz,kd,VL (sp:=SN a (sd ss ws) (.nd .tup G0)) hl rfl rfl,lV⟩
 exact ⟨by fin2,by fin2,by fin2,by fin2⟩
theorem XH(Q:aJ ks vs st fs ns):st.length≤ns.length:=by
 induction Q with
 |nil=>exact Ι _
 |pg _ _ ih=>exact Κ ih
 |nd _ _ _ ih=>rw [ε] at ih;exact Κ (Υ (ψ _ _) ih)
abbrev Ng(st:List (Int×List D)):List V:=st.reverse.map λp=>V.d (item p.1 p.2)
theorem G6{a b:Int}(h:a≠b):DO.beq (.i a) (.i b)=false:=by
 cases q:DO.beq (.i a) (.i b) with
 |false=>rfl
 |true=>exact absurd (EP q) h
theorem JA{kl:List DO}{x:DO}:(D2 kl x).length≤kl.length+1:=by
 induction kl with
 |nil=>exact Ι _
 |cons k kl ih=>
  show (cond (DO.beq k x) (k::kl) (k::D2 kl x)).length≤_;cases DO.beq k x with
  |true=>exact Ac _
  |false=>exact Κ ih
theorem W'{j:Nat}(h:j<1000):(μ (DO.i a).kind 0&&Μ j big)=true:=by
 show Ε (j+1) 1000000=true;exact ο (by exact X1 h rfl)
theorem VU(H:Sh σ sh ks vs tr fl t)(Q:aJ ks vs st fs ns): ∀{loc:Di} {F:List V} {kl:List DO} {sv:List V} {fuel:Nat},ix loc σ.length sh→F.isEmpty=false→(∀b∈ns,Dm kl (.i b)=false)→ns.Nodup→F.length+ns.length<400→kl.length+ns.length<400→ns.length<fuel→
  ∃DG s',EC (NJ (nd (DZ (n+4)) (DF 93)).ev) (nd (DZ (n+4)) ur).ex fuel loc (σ++ [.lv .lst F, .lv (.Dg 0 kl) sv, .lv .lst (Ng st)])=some (.go 0 DG (σ++(.lv .lst (F++fs.map .d)::s')))∧DE DG 62=some (.cell (σ.length+0)):=by
 induction Q with
 |nil=>
  intro loc F kl sv fuel L hF hk Fl b1 b2 b3;obtain ⟨fuel,rfl⟩: ∃f,fuel=f+1:=(EF (fuel - 1) (by have:0<fuel:=b3;exact YS this));exact (Gp loc _ ((K0 (Fg L.d) (OM (k:=2) (ws:= []) rfl)).trans (by (exact C9 List.map_nil<|C9 (υ _) rfl))) L.b)
 | @pg a ss ws ml G0 st fs ns P Q ih=>
  intro loc F kl sv fuel L hF hk Fl b1 b2 b3;rw [ξ] at b1 b2 b3;rw [Η] at Fl;obtain ⟨fuel,rfl⟩: ∃f,fuel=f+1:=(EF (fuel - 1) (by exact YS b3));have qI:=hk a (.head _);have e0:Ng ((a,G0)::st)=Ng st++ [.d (item a G0)]:=by unfold Ng;exact C9 Ag<|C9 χ rfl
  refine DQ (fT (n:=n) (G0:=G0) (sv:=sv) (LN:=Ng st) H P L hF (by exact C9 qI rfl) (show F.length+1<1000000 by exact Z6 b1 rfl) (W' (by exact nK b2 rfl))) λKK e1 L1=> ?_
  refine GD (ih (loc:=Du (σ++ [Dh.lv .lst F, .lv (.Dg 0 kl) sv, .lv .lst (Ng st++ [.d (item a G0)])]).length [] KK) (F:=F++ [.d (SP a (sd ss ws) (.nd .lst ml) (.nd .tup G0))]) (kl:=D2 kl (.i a)) (sv:=Dz kl sv (.i a) (.d (.bool true))) (fuel:=fuel) (L1.of H.low (r:= [Dh.lv .lst F, .lv (.Dg 0 kl) sv, .lv .lst (Ng st++ [.d (item a G0)])]) rfl λx v h O h2=>D9 h h2)
   (by cases F<;>rfl) (λb hb=>Kv (hk b (.tail _ hb)) (G6 λw=>Fl.1 (by exact C9 w hb))) Fl.2 (by refine C9 ε ?_;show F.length+1+_<_;exact Tg b1) (by have:=JA (kl:=kl) (x:= .i a);exact mY b2 this) (by exact AM b3)) λI5 s' e2 l2=> ?_
  refine (Gp I5 s' ?_ l2);refine C9 e0 ?_;refine JO (Fg L.d) ((OM (k:=2) (ws:=Ng st++ [.d (item a G0)]) rfl).trans (by cases Ng st<;>rfl)) e1 rfl ?_;exact C9 e2<|C9 (π _ _ _) rfl
 | @nd a ss ws G0 bx st fs ns P hab Q ih=>
  intro loc F kl sv fuel L hF hk Fl b1 b2 b3;rw [ξ] at b1 b2 b3;rw [Η] at Fl;obtain ⟨fuel,rfl⟩: ∃f,fuel=f+1:=(EF (fuel - 1) (by exact YS b3));have qI:=hk a (.head _);have Eb:=XH Q;rw [ε,ι] at Eb;have e0:Ng ((a,G0)::st)=Ng st++ [.d (item a G0)]:=by unfold Ng;exact C9 Ag<|C9 χ rfl
  have e3:Ng (bx.map (λb=>(b,G0++ [ref a]))++st)=Ng st++(bx.map ref).reverse.map λd=>V.d (.nd .tup [d, .nd .tup (G0++ [ref a]),sd [] []]):=by
   unfold Ng;exact C9 List.reverse_append<|C9 χ<|Dr A5<|Dr A5<|C9 Δ<|C9 Δ rfl
  refine DQ (XM (n:=n) (G0:=G0) (sv:=sv) (F:=F) (LN:=Ng st) H P L (by exact C9 qI rfl) (show F.length+1<1000000 by exact Z6 b1 rfl) (W' (by exact nK b2 rfl)) hab (by unfold Ng;refine C9 (ι _)<|C9 AX<|C9 AX<|C9 (ι _) ?_;lia)) λKK e1 L1=> ?_;rw [←e3] at e1
  refine GD (ih (loc:=Du (σ++ [Dh.lv .lst F, .lv (.Dg 0 kl) sv, .lv .lst (Ng st++ [.d (item a G0)])]).length [] KK) (F:=F++ [.d (SN a (sd ss ws) (.nd .tup G0))]) (kl:=D2 kl (.i a)) (sv:=Dz kl sv (.i a) (.d (.bool true))) (fuel:=fuel) (L1.of H.low (r:= [Dh.lv .lst F, .lv (.Dg 0 kl) sv, .lv .lst (Ng st++ [.d (item a G0)])]) rfl λx v h O h2=>D9 h h2)
   (by cases F<;>rfl) (λb hb=>Kv (hk b (.tail _ hb)) (G6 λw=>Fl.1 (by exact C9 w hb))) Fl.2 (by refine C9 ε ?_;show F.length+1+_<_;exact Tg b1) (by have:=JA (kl:=kl) (x:= .i a);exact mY b2 this) (by exact AM b3)) λI5 s' e2 l2=> ?_
  refine (Gp I5 s' ?_ l2);refine C9 e0 ?_;refine JO (Fg L.d) ((OM (k:=2) (ws:=Ng st++ [.d (item a G0)]) rfl).trans (by cases Ng st<;>rfl)) e1 rfl ?_;exact C9 e2<|C9 (π _ _ _) rfl
theorem Rh{xh:List Nat}{yt Te:List D}{tss:List Nat}{bx:List Int}(H:Sh σ sh ks vs (sd tss Te) fl t)(f:Kj ks vs k (E0 tss Te 18) (sd xh yt))(hk:k<30)(hp:E0 xh yt 14=ref a)(P:JC ks vs a ss ws (bx.map ref))(Q:aJ ks vs (bx.map λb=>(b, [ref a])) fs ns)(Fl:(a::ns).Nodup)(hn:ns.length<300):(DZ (n+5)).call false 23 [sh] σ=some (.d (.nd .lst (SN a (sd ss ws) (.nd .tup [])::fs)),σ):=by
 have rt:=λr=>Km (n:=n+1) (keep:=false) (H.app (r:=r)) f hk;have gp: ∀r,GN 65 (.d (sd xh yt)) [.d (.sym 14)] (σ++r)=some (.d (ref a),σ++r):=λr=>hp▸Pu;have Eb:=XH Q;rw [ι] at Eb;rw [Η] at Fl;have L0:ix (DR (DR (DR [(133,sh)] 62 (.cell (σ.length+0))) 131 (.cell (σ.length+1))) 93 (.cell (σ.length+2))) σ.length sh:=⟨by fin2,by fin2,by fin2,by fin2⟩;refine DQ (XM (n:=n) (G0:= []) (sv:= []) (kl:= []) (F:= []) (LN:= []) H P L0 rfl (by decide) (W' (by decide)) (by decide) (by refine C9 AX<|C9 (ι _) ?_;show 0+_<_;lia)) λKK e1 L1=> ?_
 have e3:Ng (bx.map (λb=>(b, [ref a])))=([]:List V)++(bx.map ref).reverse.map λd=>V.d (.nd .tup [d, .nd .tup ([]++ [ref a]),sd [] []]):=by
  unfold Ng;exact Dr A5<|Dr A5<|C9 Δ<|C9 Δ rfl
 rw [←e3] at e1;refine GD (VU (n:=n) (loc:=Du (σ++ [Dh.lv .lst [], .lv (.Dg 0 []) [], .lv .lst ([]++ [.d (item a [])])]).length [] KK) (F:= []++ [.d (SN a (sd ss ws) (.nd .tup []))]) (kl:=D2 [] (.i a)) (sv:=Dz [] [] (.i a) (.d (.bool true))) (fuel:=1999) H Q (L1.of H.low (r:= [Dh.lv .lst [], .lv (.Dg 0 []) [], .lv .lst ([]++ [.d (item a [])])]) rfl λx v h O h2=>D9 h h2) rfl (λb hb=>Kv rfl (G6 λw=>Fl.1 (by exact C9 w hb))) Fl.2 (by show 1+_<_;exact ZY hn rfl) (by show 1+_<_;exact ZY hn rfl) (by exact IL hn rfl)) λI5 s' e2 l2=> ?_
 have hw:EC (NJ (nd (DZ (n+4)) (DF 93)).ev) (nd (DZ (n+4)) ur).ex TY (DR (DR (DR [(133,sh)] 62 (.cell (σ.length+0))) 131 (.cell (σ.length+1))) 93 (.cell (σ.length+2))) (σ++ [.lv .lst [], .lv (.Dg 0 []) [], .lv .lst ([]++ [.d (item a [])])])=some (.go 0 I5 (σ++(.lv .lst ([]++ [.d (SN a (sd ss ws) (.nd .tup []))]++fs.map .d)::s'))):=by
  refine JO (k:=1999) (Fg L0.d) ((OM (k:=2) (ws:= []++ [.d (item a [])]) rfl)) e1 rfl ?_;exact e2
 obtain ⟨hi,ha,ht,WD,hr,Fz⟩:=H;apply EU rfl rfl
 cell_ask ⟨@Gm,rt,gp⟩
 exact hw
 fin2
 exact MU (k:=0) (r:= .lv .lst ([]++ [.d (SN a (sd ss ws) (.nd .tup []))]++fs.map .d)::s') (fl:=SN a (sd ss ws) (.nd .tup [])::fs) rfl
end
end
section
mutual open A
variable{n m k:Nat}{keep:Bool}{σ r:Store}{u ab:D}{s:Nat}{vs ws fs:List D}{ss:List Nat}{ks ns:List Int}{sh t:V}{tr:D}{a:Int}{fl:List V}{kl:List DO}{st:List (Int×List D)}
theorem Yk{ml:List D}(H:Sh σ sh ks vs tr fl t)(P:JI ks vs a ss ws ml):(DZ (n+3)).call false 24 [sh, .d (SP a (sd ss ws) (.nd .lst ml) ab)] σ=some (.d (sd ss ws),σ):=by
 have oQ:=λr=>GJ (n:=n) (s:=10) (u:= .nd .lst ml) (keep:=false) (H.app (r:=r)) (show Kj ks vs 0 (E0 ss ws 10) _ by exact C9 (show E0 ss ws 10= .nd .lst ml by unfold E0;rw [P.m];rfl)<| .stop (k:=4) rfl rfl) (by decide);obtain ⟨hi,ha,ht,hn,hr,Fz⟩:=H;apply EU rfl rfl
 cell_ask ⟨@Eo,@Gm,Jp,EV,oQ⟩
 exact MU (k:=0) (h:= .Dg 1 (ss.map .s)) (fl:=ws) rfl
def Qv:D→Bool
 | .nd _ [_,_,_,_, .bool b]=>b
 |_=>false
def bm:D→D
 | .nd _ [r,h,_,_,_]=> .nd (.inst 6) [r,h]
 |d=>d
def eM:D→Int
 | .nd _ (.nd _ [.int a,_]::_)=>a
 |_=>0
inductive nF(ks:List Int)(vs:List D):D→Prop
 |pg {a:Int} {ss:List Nat} {ws ml:List D} {ab:D}:JI ks vs a ss ws ml→nF ks vs (SP a (sd ss ws) (.nd .lst ml) ab)
 |nd {a:Int} {ss:List Nat} {ws:List D} {kl:List D} {ab:D}:JC ks vs a ss ws kl→nF ks vs (SN a (sd ss ws) ab)
theorem Wt(Q:aJ ks vs st fs ns):(∀d∈fs,nF ks vs d)∧fs.map eM=ns:=by
 induction Q with
 |nil=>exact ⟨λO h=>absurd h Γ,rfl⟩
 |pg P _ ih=>exact ⟨λd h=>by rcases ν.mp h with w|w;exact w▸ .pg P;exact ih.1 d w,congrArg (_:: ·) ih.2⟩
 |nd P _ _ ih=>exact ⟨λd h=>by rcases ν.mp h with w|w;exact w▸ .nd P;exact ih.1 d w,congrArg (_:: ·) ih.2⟩
theorem Y2(h:(DZ (n+5)).call false 23 [sh] σ=some (.d (.nd .lst fs),σ))(hs: ∀d∈fs,nF ks vs d):(DZ (n+6)).call false 25 [sh] σ=some (.d (.nd .lst (fs.filter Qv)),σ):=by
 apply DW rfl rfl
 fin2
 refine (KV (g:=λd=>cond (Qv d) (some (.d d)) none) λd hd=> ?_).trans ?_
 ·cases hs d hd with
  |pg P=>refine EL (DD:=σ) rfl ?_ ?_;fin2
  |nd P=>refine Mj rfl ?_;fin2
 ·refine congrArg (λz=>some (z,σ)) (show fs.filterMap _=(fs.filter Qv).map V.d from ?_)
  clear hs h
  induction fs with
  |nil=>rfl
  |cons d fs ih=>
   refine C9 As<|C9 Al ?_
   cases Qv d with
   |true=>exact congrArg (_:: ·) ih
   |false=>exact ih
 fin2
theorem Sz(H:Sh σ sh ks vs tr fl t)(h:(DZ (n+5)).call false 23 [sh] σ=some (.d (.nd .lst fs),σ))(hs: ∀d∈fs,nF ks vs d):(DZ (n+7)).call false 26 [sh] σ=some (.d (.nd .lst ((fs.filter Qv).map bm)),σ):=by
 have ps:=Y2 h hs;apply DW rfl rfl
 fin2
 refine (KV (g:=λd=>some (.d (bm d))) λd hd=> ?_).trans ?_
 ·have Yi:=BL.mp hd
  cases hs d Yi.1 with
  |pg P=>
   have fo:=λab=>Yk (n:=n+3) (ab:=ab) H P;refine EL (DD:=σ) rfl FD ?_
   cell_ask ⟨fo⟩
  |nd P=>exact nomatch Yi.2
 ·refine congrArg (λz=>some (z,σ)) (show (fs.filter Qv).filterMap _=((fs.filter Qv).map bm).map V.d from ?_)
  refine C9 Δ ?_;exact congrFun (BU (f:=V.d∘bm)) _
 fin2
end
end
section
mutual open A
variable{n m k i dp K:Nat}{keep:Bool}{σ DD r:Store}{v x u:D}{s:Nat}{l xs vs ws:List D}{ss:List Nat}{G:HR}{loc:Di}{ks:List Int}{sh t:V}{tr:D}{a:Int}{fl:List V}{kl:List DO}{t2:T}
theorem V6(e:EG ks vs a=some v):Dm (ks.map .i) (.i a)=true:=by
 have: ∀{kl:List DO} {vs:List D} {y:DO},DU kl vs y=some v→Dm kl y=true:=λ{kl}=>by
  induction kl with
  |nil=>intro vs y h;exact nomatch h
  |cons k kl ih=>
   intro vs y h;cases vs with
   |nil=>exact nomatch h
   |cons u vs=>
    have h:cond (DO.beq k y) (some u) (DU kl vs y)=some v:=h;show (DO.beq k y||Dm kl y)=true;cases q:DO.beq k y with
    |true=>rfl
    |false=>rw [q] at h;exact ih h
 exact this e
theorem jb(h:Tb σ t ks vs):lB σ (.d (.int a)) t=some (Dm (ks.map .i) (.i a)):=by
 refine DQ (DA h λq a b=>(DM q a b)) λq h1 h2=> ?_;obtain ⟨hd,ws⟩:=q;cases hd with
 |Dg k2 qF=>
  obtain ⟨rfl,rfl,rfl⟩:k2=0∧qF=ks.map DO.i∧ws=(vs.map GP).map V.d:=by injection h2 with h2;injection h2 with h2 h3;injection h3 with h3 h4;exact ⟨h2,h3,h4⟩
  show DN (Ir (.d (.int a))) (λx=>DN (G4 σ t) λq=>T7 x q.2 q.1)=_;exact DB rfl (DB h1 (show T7 (.int a) _ (.Dg 0 (ks.map DO.i))=_ from DB rfl (D7 rfl rfl)))
 |_=>exact nomatch h2
theorem Pw(h:Tb σ t ks vs):FG σ 9 (.d (.int a)) t=some (!Dm (ks.map .i) (.i a)):=show DN (lB σ (.d (.int a)) t) (λr=>some (!r))=_ from DB (jb h) rfl
theorem jE(h:Tb σ t ks vs):FG σ 8 (.d (.int a)) t=some (Dm (ks.map .i) (.i a)):=jb h
theorem cy{b:Bool}{x:Option (V×Store)}(h:x=some (.d (.bool true),σ)):cond (false==b) x (some (.d (.bool b),σ))=some (.d (.bool true),σ):=by cases b with|true=>rfl|false=>exact h
theorem fN(h1:20≤a)(h2:a<40)(e:(nd G t2).ev loc σ=some (.d (.int a),DD)):(nd G (.mk 14 50 [Dp 20,t2,Dp 40])).ev loc σ=some (.d (.bool true),DD):=
 LV Fu e (show some (decide ((20:Int)≤a))=some true by (exact C9 (decide_eq_true h1) rfl)) Fu (show some (decide (a<(40:Int)))=some true by (exact C9 (decide_eq_true h2) rfl))
theorem bT(h: ¬(20≤a∧a<40))(e:(nd G t2).ev loc σ=some (.d (.int a),DD)):(nd G (.mk 14 50 [Dp 20,t2,Dp 40])).ev loc σ=some (.d (.bool false),DD):=by
 by_cases h1:20≤a
 ·exact LV Fu e (show some (decide ((20:Int)≤a))=some true by (exact C9 (decide_eq_true h1) rfl)) Fu (show some (decide (a<(40:Int)))=some false by (exact C9 (decide_eq_false λw=>h ⟨h1,w⟩) rfl))
 ·exact XQ Fu e (show some (decide ((20:Int)≤a))=some false by (exact C9 (decide_eq_false h1) rfl))
def U(ks:List Int)(vs:List D)(K dp:Nat)(v x:D):Prop:= ∀n keep σ sh tr fl t,Sh σ sh ks vs tr fl t→K≤n→(DZ n).call keep 46 [sh, .d v, .d (.int dp)] σ=some (.d x,σ)
theorem U.up{K':Nat}(h:U ks vs K dp v x)(e:K≤K'):U ks vs K' dp v x:=λn keep σ sh tr fl t H hn=>h n keep σ sh tr fl t H (Υ e hn)
theorem WP(h1:20≤a)(h2:a<40):U ks vs 1 dp (ref a) (.nd .tup [.sym 148, .int a]):=λn keep σ sh tr fl t H hn=>by
 refine DQ (Ew (a:=0) 1 hn) λm Fi O=> ?_;subst Fi;obtain ⟨hi,ha,ht,WD,hr,Fz⟩:=H;apply DW rfl rfl
 cell_ask ⟨@Pw,fN h1 h2,cy⟩
theorem aF(h: ¬(20≤a∧a<40)):U ks vs 1 0 (ref a) (.nd .tup [.sym 148, .int 0]):=λn keep σ sh tr fl t H hn=>by
 refine DQ (Ew (a:=0) 1 hn) λm Fi O=> ?_;subst Fi;obtain ⟨hi,ha,ht,WD,hr,Fz⟩:=H;apply DW rfl rfl
 cell_ask ⟨@Pw,bT h,cy⟩
theorem j3(h: ¬(20≤a∧a<40))(e:EG ks vs a=some v)(hu:U ks vs K dp v x):U ks vs (K+1) (dp+1) (ref a) x:=λn keep σ sh tr fl t H hn=>by
 refine DQ (Ew 1 hn) λm Fi hm=> ?_;subst Fi;have c:=hu m false σ sh tr fl t H hm;have e0:(((dp+1:Nat):Int) - ((1:Nat):Int))=dp:=by lia
 have c':(DZ m).call false 46 [sh, .d v, .d (.int (((dp+1:Nat):Int) - ((1:Nat):Int)))] σ=some (.d x,σ):=by exact C9 e0 c
 obtain ⟨hi,ha,ht,WD,hr,Fz⟩:=H;have hk:(!Dm (ks.map .i) (.i a))=false:=by exact C9 (V6 e) rfl
 have O9:(false== !Dm (ks.map .i) (.i a))=true:=by exact C9 (V6 e) rfl
 have z:FG σ 0 (.d (.int ((dp+1:Nat):Int))) (.d (.int ((0:Nat):Int)))=some false:=by
  show some (Ti (.int ((dp+1:Nat):Int)) (.int ((0:Nat):Int)))=_;exact congrArg some (show μ (dp+1) 0=false from rfl)
 apply DW rfl rfl
 cell_ask ⟨@Pw,bT h,@GU⟩
theorem XF{i:Int}:U ks vs 3 dp (.int i) (.nd .tup [.sym 75, .int i]):=λn keep σ sh tr fl t H hn=>by
 refine DQ (Ew (a:=0) 3 hn) λm Fi hm=> ?_;subst Fi;apply DW rfl rfl
 cell_ask ⟨Rk⟩
theorem XW:U ks vs 3 dp (EM s) (.nd .tup [.sym 99, .sym s]):=λn keep σ sh tr fl t H hn=>by
 refine DQ (Ew (a:=0) 3 hn) λm Fi hm=> ?_;subst Fi;apply DW rfl rfl
 cell_ask ⟨SQ⟩
theorem jx(h:DS (U ks vs K dp) l xs):U ks vs (K+1) dp (.nd .lst l) (.nd .lst xs):=λn keep σ sh tr fl t H hn=>by
 refine DQ (Ew 1 hn) λm Fi hm=> ?_;subst Fi;apply DW rfl rfl
 fin2
 refine LT (h.imp λd x e=> ?_);refine EL rfl FD ?_;have c:=e m false σ sh tr fl t H hm
 fin2
 fin2
theorem kL{ys:List D}(hs:ss.length<64)(h:DS (λs y=> ∃v x,y= .nd .tup [.sym s,x]∧DU (ss.map .s) ws (.s s)=some v∧U ks vs K dp v x) (HD Ε ss) ys):U ks vs (K+1) dp (sd ss ws) (.nd .lst ys):=λn keep σ sh tr fl t H hn=>by
 refine DQ (Ew 1 hn) λm Fi hm=> ?_;subst Fi;apply DW rfl rfl
 cell_ask ⟨QY⟩
 refine Hm (h.imp λd x e=> ?_);refine D0 e λv x Gx e1 e2=> ?_;subst Gx;clear e;refine EL rfl FD ?_;have c:=e2 m false σ sh tr fl t H hm
 cell_ask ⟨MB⟩
 fin2
theorem Wd{pl ys:List D}(H:Sh σ sh ks vs tr fl t)(hp:(DZ m).call false 26 [sh] σ=some (.d (.nd .lst pl),σ))(hK:K≤m)(h:DS (λp y=> ∃a hd x,p= .nd (.inst 6) [ref a,hd]∧y= .nd .tup [.int a,x]∧U ks vs K 4 hd x) pl ys):(DZ (m+1)).call keep 47 [sh] σ=some (.d (.nd .lst ys),σ):=by
 apply DW rfl rfl
 fin2
 refine LT (h.imp λd x e=> ?_);refine Vv e λa hd x ij cB e2=> ?_;subst ij;subst cB;clear e;refine EL rfl FD ?_;have c:(DZ m).call false 46 [sh, .d hd, .d (.int ((4:Nat):Int))] σ=some (.d x,σ):=e2 m false σ sh tr fl t H hK
 fin2
 fin2
end
end
section
mutual open A
variable{m i dp K:Nat}{v v' x u:D}{s:Nat}{l xs vs D4 ws F8:List D}{ss:List Nat}{ks EZ:List Int}{a b:Int}{Rr:Int→Int→Prop}
inductive R0(Rr:Int→Int→Prop):D→D→Prop
 |int (i:Int):R0 Rr (.int i) (.int i)
 |EM (s:Nat):R0 Rr (EM s) (EM s)
 |ref {a b:Int}:Rr a b→R0 Rr (ref a) (ref b)
inductive R1(Rr:Int→Int→Prop):D→D→Prop
 |of {v v':D}:R0 Rr v v'→R1 Rr v v'
 |lst {l l':List D}:l.length<1000→DS (R0 Rr) l l'→R1 Rr (.nd .lst l) (.nd .lst l')
inductive R2(Rr:Int→Int→Prop):D→D→Prop
 |of {v v':D}:R1 Rr v v'→R2 Rr v v'
 |Dg {ss:List Nat} {ws F8:List D}:ss.length<64→ss.length=ws.length→DS (R1 Rr) ws F8→R2 Rr (sd ss ws) (sd ss F8)
structure jG(ks:List Int)(vs:List D)(EZ:List Int)(D4:List D)(Rr:Int→Int→Prop):Prop where
 r: ∀a b,Rr a b→(20≤a∧a<40∧b=a)∨(¬(20≤a∧a<40)∧ ¬(20≤b∧b<40)∧ ∃v v',EG ks vs a=some v∧EG EZ D4 b=some v'∧R2 Rr v v')
def UU(ks:List Int)(vs:List D)(EZ:List Int)(D4:List D)(K m dp:Nat)(v v':D):Prop:= ∃x,U ks vs K dp v x∧U EZ D4 K dp v' x∧Pl m x
theorem Y'{α β γ:Type}{P:α→β→γ→Prop}{l:List α}{l':List β}(h:DS (λa b=> ∃c,P a b c) l l'): ∃m:List γ,DS (λa c=> ∃b,P a b c) l m∧DS (λb c=> ∃a,P a b c) l' m:=by
 induction h with
 |nil=>exact (DM ([]) .nil .nil)
 |cons r _ ih=>refine D3 r λc hc=> ?_;clear r;refine DQ ih λm h1 h2=> ?_;clear ih;exact (DM (c::m) (.cons (EF _ hc) h1) (.cons (EF _ hc) h2))
theorem mc{R:D→D→Prop}{ss:List Nat}: ∀{ws F8:List D} {s:Nat},ss.length=ws.length→DS R ws F8→s∈ss→ ∃v v',DU (ss.map .s) ws (.s s)=some v∧DU (ss.map .s) F8 (.s s)=some v'∧R v v':=by
 induction ss with
 |nil=>intro ws F8 s _ _ h;exact absurd h Γ
 |cons c ss ih=>
  intro ws F8 s hl h hs;cases h with
  |nil=>exact nomatch hl
  | @cons u u' ws F8 r h=>
   show∃v v',cond (μ c s) (some u) (DU (ss.map .s) ws (.s s))=some v∧cond (μ c s) (some u') (DU (ss.map .s) F8 (.s s))=some v'∧R v v'
   cases q:μ c s with
   |true=>exact (EK u u' rfl rfl r)
   |false=>
    rcases ν.mp hs with w|w
    ·rw [w,AH] at q;exact nomatch q
    ·exact ih (AK.inj hl) h w
theorem mq(A:jG ks vs EZ D4 Rr)(dp:Nat):(∀v v',R0 Rr v v'→UU ks vs EZ D4 (3*dp+3) (3*dp+1) dp v v')∧(∀v v',R1 Rr v v'→UU ks vs EZ D4 (3*dp+4) (3*dp+2) dp v v')∧(∀v v',R2 Rr v v'→UU ks vs EZ D4 (3*dp+5) (3*dp+4) dp v v'):=by
 have Sv: ∀{m:Nat} {y z:D},Pl m y→Pl m z→Pl (m+1) (.nd .tup [y,z]):=λhy hz=>KH λx hx=>by
  rcases ν.mp hx with w|w
  ·exact w▸hy
  ·exact (ς.mp w)▸hz
 have go0: ∀dp,(∀v v',R0 Rr v v'→UU ks vs EZ D4 (3*dp+3) (3*dp+1) dp v v')→(∀v v',R1 Rr v v'→UU ks vs EZ D4 (3*dp+4) (3*dp+2) dp v v')∧(∀v v',R2 Rr v v'→UU ks vs EZ D4 (3*dp+5) (3*dp+4) dp v v'):=λdp h0=>by
  have h1: ∀v v',R1 Rr v v'→UU ks vs EZ D4 (3*dp+4) (3*dp+2) dp v v':=λv v' r=>by
   cases r with
   |of r=>refine ES (h0 _ _ r) λx a b c=> ?_;exact (ED x (a.up (by exact Ac _)) (b.up (by exact Ac _)) (c.up (by exact Ac _)))
   |lst _ r=>
    refine DQ (Y' (r.imp λO O w=>h0 _ _ w)) λxs e1 e2=> ?_;exact (ED _ (jx (e1.imp λO O z=>z.elim λO w=>w.1)) (jx (e2.imp λO O z=>z.elim λO w=>w.2.1)) (Ug λx hx=>by refine jF (GG e1 x hx) λO O O O O w=> ?_;exact w))
  refine ⟨h1,λv v' r=> ?_⟩;cases r with
  |of r=>refine ES (h1 _ _ r) λx a b c=> ?_;exact (ED x (a.up (by exact Ac _)) (b.up (by exact Ac _)) (c.up (by exact wT rfl)))
  | @Dg ss ws F8 hs hl r=>
   refine D3 (Ii (R:=λs y=> ∃v v' x,y=D.nd .tup [.sym s,x]∧DU (ss.map DO.s) ws (.s s)=some v∧DU (ss.map DO.s) F8 (.s s)=some v'∧U ks vs (3*dp+4) dp v x∧U EZ D4 (3*dp+4) dp v' x∧Pl (3*dp+2) x) (l:=HD Ε ss) λs hm=>by
    refine D0 (mc hl r (Kz hm)) λv v' e1 e2 w=> ?_;refine ES (h1 _ _ w) λx a b c=> ?_;exact (Gs (.nd .tup [.sym s,x]) v v' x rfl e1 e2 a b c)) λys hy=> ?_
   exact (ED _ (kL hs (hy.imp λO O z=>by exact IW z λv v' x e e1 e2 a b c=>(EK v x e e1 a))) (kL hs (hy.imp λO O z=>by exact IW z λv v' x e e1 e2 a b c=>(EK v' x e e2 b))) (Ug λy hy'=>by
    refine Pz (GG hy y hy') λs O v v' x e O O O O c=> ?_;exact e▸Sv Fj c))
 induction dp with
 |zero=>
  refine (λh0=>⟨h0,go0 0 h0⟩) λv v' r=> ?_;cases r with
  |int i=>exact (ED _ (XF.up (by exact Ι _)) (XF.up (by exact Ι _)) (Sv Fj GX))
  |EM s=>exact (ED _ (XW.up (by exact Ι _)) (XW.up (by exact Ι _)) (Sv Fj Fj))
  |ref h=>
   rcases A.r _ _ h with ⟨h1,h2,rfl⟩|⟨h1,h2,_⟩
   ·exact (ED _ ((WP h1 h2).up (by exact AB _)) ((WP h1 h2).up (by exact AB _)) (Sv Fj GX))
   ·exact (ED _ ((aF h1).up (by exact AB _)) ((aF h2).up (by exact AB _)) (Sv Fj GX))
 |succ dp ih=>
  refine (λh0=>⟨h0,go0 (dp+1) h0⟩) λv v' r=> ?_;cases r with
  |int i=>exact (ED _ (XF.up (by exact ψ _ _)) (XF.up (by exact ψ _ _)) ((Sv Fj GX).up (m:=1) (by exact AB _)))
  |EM s=>exact (ED _ (XW.up (by exact ψ _ _)) (XW.up (by exact ψ _ _)) ((Sv Fj Fj).up (m:=1) (by exact AB _)))
  |ref h=>
   rcases A.r _ _ h with ⟨h1,h2,rfl⟩|⟨h1,h2,w,w',e1,e2,r⟩
   ·exact (ED _ ((WP h1 h2).up (by exact AB _)) ((WP h1 h2).up (by exact AB _)) ((Sv Fj GX).up (m:=1) (by exact AB _)))
   ·refine ES (ih.2.2 _ _ r) λx a b c=> ?_
    exact (ED x ((j3 h1 e1 a).up (by exact Ι _)) ((j3 h2 e2 b).up (by exact Ι _)) (c.up (by exact Ι _)))
end
end
section
mutual open A
variable{n m k K:Nat}{σ r:Store}{v v' x u:D}{s:Nat}{l l' vs ws F8 vl:List D}{ss:List Nat}{a b:Int}{T' o:V}{kl:List DO}{lv:List V}{key:DO}
def PT(σ:Store)(t:V)(kl:List DO)(vl:List D):Prop:=GF σ t=some (2,kl,vl.map .d)
theorem Gl(h:GF σ o=some (k,kl,lv)):G4 σ o=some (.Dg k kl,lv):=DA h λq h1 h2=>by
 obtain ⟨hd,ws⟩:=q;cases hd with
 |Dg=>injection h2 with h2;injection h2 with h2 h3;injection h3 with h3 h4;(exact C9 h1<|Dr h4<|Dr h3<|Dr h2 rfl)
 |_=>exact nomatch h2
theorem XI(h:GF σ o=some (k,kl,lv))(e:HG x=some key)(e2:μ key.kind k=true):FG σ 9 (.d x) o=some (!Dm kl key):=show DN (lB σ (.d x) o) (λr=>some (!r))=_ from DB (show DN (Ir (.d x)) (λx=>DN (G4 σ o) λq=>T7 x q.2 q.1)=_ from DB rfl (DB (Gl h) (show T7 x lv (.Dg k kl)=_ from DB e (D7 e2 rfl)))) rfl
theorem aM(h:GF σ o=some (k,kl,lv))(e:HG x=some key)(e2:μ key.kind k=true):FG σ 8 (.d x) o=some (Dm kl key):=show DN (Ir (.d x)) (λx=>DN (G4 σ o) λq=>T7 x q.2 q.1)=_ from DB rfl (DB (Gl h) (show T7 x lv (.Dg k kl)=_ from DB e (D7 e2 rfl)))
theorem Qk{w:V}(h:GF σ o=some (k,kl,lv))(e:HG x=some key)(e2:μ key.kind k=true)(e3:DU kl lv key=some w):E8 σ o (.d x)=some w:=show DN (Ir (.d x)) (λx=>DN (G4 σ o) λq=>Um x q.2 q.1)=_ from DB rfl (DB (Gl h) (show Um x lv (.Dg k kl)=_ from DB e (D7 e2 e3)))
theorem eA(h:PT σ T' kl vl):FG σ 9 (.d (.nd .tup [.int a, .int b])) T'=some (!Dm kl (.p a b)):=XI h rfl rfl
theorem lO(h:PT σ T' kl vl)(e:DU kl vl (.p a b)=some v):E8 σ T' (.d (.nd .tup [.int a, .int b]))=some (.d v):=Qk h rfl rfl (En V.d e)
theorem Qu{y:DO}: ∀{kl:List DO} {vs:List D},DU kl vs y=some v→Dm kl y=true:=λ{kl}=>by
 induction kl with
 |nil=>intro vs h;exact nomatch h
 |cons k kl ih=>
  intro vs h;cases vs with
  |nil=>exact nomatch h
  |cons u vs=>
   have h:cond (DO.beq k y) (some u) (DU kl vs y)=some v:=h;show (DO.beq k y||Dm kl y)=true;cases q:DO.beq k y with
   |true=>rfl
   |false=>rw [q] at h;exact ih h
def Rn(kl:List DO)(vl:List D)(K:Nat)(v v':D):Prop:= ∀n σ t,PT σ t kl vl→K≤n→(DZ n).call false 8 [.d v,t] σ=some (.d v',σ)
theorem Rn.up{K':Nat}(h:Rn kl vl K v v')(e:K≤K'):Rn kl vl K' v v':=λn σ t H hn=>h n σ t H (Υ e hn)
theorem MI:Rn kl vl 2 (.int a) (.int a):=λn σ t H hn=>by
 refine DQ (Ew (a:=0) 2 hn) λm Fi O=> ?_;subst Fi;apply DW rfl rfl
 cell_ask ⟨NW⟩
theorem ar:Rn kl vl 2 (EM s) (EM s):=λn σ t H hn=>by
 refine DQ (Ew (a:=0) 2 hn) λm Fi O=> ?_;subst Fi;apply DW rfl rfl
 cell_ask ⟨LI⟩
theorem eE(e:DU kl vl (.p a 0)=some (.nd .tup [.int b, .int 0])):Rn kl vl 2 (ref a) (ref b):=λn σ t H hn=>by
 refine DQ (Ew (a:=0) 2 hn) λm Fi O=> ?_;subst Fi;have hk:(!Dm kl (.p a 0))=false:=by exact C9 (Qu e) rfl
 apply DW rfl rfl
 cell_ask ⟨K8,HP,eA H,lO H⟩
theorem iD(e:Dm kl (.p a 0)=false):Rn kl vl 2 (ref a) .none:=λn σ t H hn=>by
 refine DQ (Ew (a:=0) 2 hn) λm Fi O=> ?_;subst Fi;have hk:(!Dm kl (.p a 0))=true:=by exact C9 e rfl
 apply DW rfl rfl
 cell_ask ⟨K8,HP,eA H⟩
theorem VD(h:DS (Rn kl vl (K+1)) l l'):Rn kl vl (K+2) (.nd .lst l) (.nd .lst l'):=λn σ t H hn=>by
 refine DQ (Ew 2 hn) λm Fi hm=> ?_;subst Fi;apply DW rfl rfl
 cell_ask ⟨Kl⟩
 refine LT (h.imp λd x e=> ?_);refine EL rfl FD ?_;have c:=e (m+1) σ t H (by exact Κ hm)
 fin2
 fin2
def FO:List Nat→List D→List Nat
 |s::ss,v::vs=>cond (isNone (.d v)) (FO ss vs) (s::FO ss vs)
 |_,_=> []
def GO:List D→List D
 | []=> []
 |v::vs=>cond (isNone (.d v)) (GO vs) (v::GO vs)
theorem EN{kl:List DO}(h:Dm kl key=false):D2 kl key=kl++ [key]:=by
 induction kl with
 |nil=>rfl
 |cons k kl ih=>
  have h:(DO.beq k key||Dm kl key)=false:=h;rw [AU] at h;show cond (DO.beq k key) (k::kl) (k::D2 kl key)=_;exact C9 h.1<|congrArg (k:: ·) (ih h.2)
theorem Eg{α:Type}{kl:List DO}{x:α}: ∀{vs:List α},Dm kl key=false→kl.length=vs.length→Dz kl vs key x=vs++ [x]:=by
 induction kl with
 |nil=>intro vs _ hl;cases vs with|nil=>rfl|cons=>exact nomatch hl
 |cons k kl ih=>
  intro vs h hl;cases vs with
  |nil=>exact nomatch hl
  |cons v vs=>
   have h:(DO.beq k key||Dm kl key)=false:=h;rw [AU] at h;show cond (DO.beq k key) (x::vs) (v::Dz kl vs key x)=_;exact C9 h.1<|congrArg (v:: ·) (ih h.2 (AK.inj hl))
theorem cY{ss:List Nat}(h:s ∉ ss):Dm (ss.map .s) (.s s)=false:=by
 induction ss with
 |nil=>rfl
 |cons c ss ih=>
  rw [ν,not_or] at h;show (μ c s||Dm (ss.map .s) (.s s))=false;exact C9 (ih h.2)<|C9 (show μ c s=false from by cases q:μ c s with|false=>rfl|true=>exact absurd (AO q).symm h.1) rfl
theorem fO: ∀{ss:List Nat} {ws:List D} {pre:List Nat} {pw:List D},ss.length=ws.length→pre.length=pw.length→(pre++ss).Nodup→FB 1 ((ss.zip ws).map λp=>(.d (.sym p.1), .d p.2)) (pre.map .s,pw.map .d)=some ((pre++ss).map .s,(pw++ws).map .d):=λ{ss}=>by
 induction ss with
 |nil=>intro ws pre pw h _ _;cases ws with|nil=>exact C9 (υ _)<|C9 (υ _) rfl|cons=>exact nomatch h
 |cons s ss ih=>
  intro ws pre pw h h2 nd;cases ws with
  |nil=>exact nomatch h
  |cons w ws=>
   have hs:s ∉ pre:=λz=>by rw [AE] at nd;exact nd.2.2 s z s (.head _) rfl
   have hh:=cY hs;refine (DB (show Sd 1 (.d (.sym s)) (.d w) (pre.map .s,pw.map .d)=some ((pre++ [s]).map .s,(pw++ [w]).map .d) from DB rfl (DB rfl (D7 rfl ?_))) (ih (AK.inj h) (by exact C9 ε<|C9 ε<|C9 h2 rfl) (by exact C9 (π _ _ _) nd))).trans ?_
   ·show some (D2 (pre.map .s) (.s s),Dz (pre.map .s) (pw.map V.d) (.s s) (V.d w))=_
    exact C9 (EN hh)<|C9 (Eg hh (by rw [ι,ι];exact h2))<|C9 χ<|C9 χ rfl
   ·exact C9 (π _ _ _)<|C9 (π _ _ _) rfl
theorem Yt{l:List (Nat×D)}:Fo σ (l.map λp=>V.d (.nd .tup [.sym p.1,p.2]))=some (l.map λp=>(.d (.sym p.1), .d p.2)):=by
 induction l with
 |nil=>rfl
 |cons p l ih=>exact DB (show Sr σ (V.d (.nd .tup [.sym p.1,p.2]))=some [.d (.sym p.1), .d p.2] from rfl) (DB rfl (DB ih rfl))
theorem RW: ∀{ss:List Nat} {ws:List D},ss.length=ws.length→(FO ss ws).length=(GO ws).length:=λ{ss}=>by
 induction ss with
 |nil=>intro ws h;cases ws with|nil=>rfl|cons=>exact nomatch h
 |cons s ss ih=>
  intro ws h;cases ws with
  |nil=>exact nomatch h
  |cons w ws=>
   show (cond (isNone (.d w)) (FO ss ws) (s::FO ss ws)).length=(cond (isNone (.d w)) (GO ws) (w::GO ws)).length;cases isNone (.d w) with
   |true=>exact ih (AK.inj h)
   |false=>exact congrArg (· +1) (ih (AK.inj h))
theorem Rt: ∀{ss:List Nat} {ws:List D},(FO ss ws).Sublist ss:=λ{ss}=>by
 induction ss with
 |nil=>intro ws;exact List.nil_sublist _
 |cons s ss ih=>
  intro ws;cases ws with
  |nil=>exact List.nil_sublist _
  |cons w ws=>
   show (cond (isNone (.d w)) (FO ss ws) (s::FO ss ws)).Sublist _;cases isNone (.d w) with
   |true=>exact ih.cons _
   |false=>exact ih.cons₂ _
theorem YF: ∀{ss:List Nat} {ws:List D},((ss.zip ws).filter λp=> !isNone (.d p.2))=(FO ss ws).zip (GO ws):=λ{ss}=>by
 induction ss with
 |nil=>intro ws;rfl
 |cons s ss ih=>
  intro ws;cases ws with
  |nil=>rfl
  |cons w ws=>
   refine C9 Bh<|C9 Al ?_
   show _=(cond (isNone (.d w)) (FO ss ws) (s::FO ss ws)).zip (cond (isNone (.d w)) (GO ws) (w::GO ws));cases h:isNone (.d w) with
   |true=>exact ih
   |false=>exact congrArg ((s,w):: ·) ih
theorem QZ: ∀{ss:List Nat} {ws:List D},ss.Nodup→ss.length=ws.length→DS (λs v=>DU (ss.map .s) ws (.s s)=some v) ss ws:=λ{ss}=>by
 induction ss with
 |nil=>intro ws _ h;cases ws with|nil=>exact .nil|cons=>exact nomatch h
 |cons s ss ih=>
  intro ws nd h;cases ws with
  |nil=>exact nomatch h
  |cons w ws=>
   rw [Η] at nd;refine .cons (show cond (μ s s) (some w) _=_ by exact C9 (AH _) rfl) ?_;have h1:=ih nd.2 (AK.inj h)
   have go: ∀{l:List Nat} {m:List D},(∀x∈l,x≠s)→DS (λs v=>DU (ss.map .s) ws (.s s)=some v) l m→DS (λs' v=>DU ((s::ss).map .s) (w::ws) (.s s')=some v) l m:=λ{l m} RP q=>by
    induction q with
    |nil=>exact .nil
    | @cons a b l m r _ ih2=>
     refine .cons ?_ (ih2 λx hx=>RP x (.tail _ hx));show cond (μ s a) (some w) (DU (ss.map .s) ws (.s a))=_;exact C9 (show μ s a=false from by cases q:μ s a with|false=>rfl|true=>exact absurd (AO q).symm (RP a (.head _))) r
   exact go (λx hx z=>nd.1 (z▸hx)) h1
theorem Sj{P:Nat→D→Prop}{Q:D→D→Prop}{ss:List Nat}{ws F8:List D}(h1:DS P ss ws)(h2:DS Q ws F8):DS (λs y=> ∃v v',y=D.nd .tup [.sym s,v']∧P s v∧Q v v') ss ((ss.zip F8).map λp=>D.nd .tup [.sym p.1,p.2]):=by
 induction h1 generalizing F8 with
 |nil=>cases h2;exact .nil
 |cons r _ ih=>cases h2 with|cons q h2=>exact .cons (EK _ _ rfl r q) (ih h2)
theorem Ta:FV (.d (sd ss ws)) σ=some (ss.map .sym,σ):=by
 show EI (some (sd ss ws,σ)) _=_;show lift (some ((ss.map DO.s).map DO.d)) σ=_;exact C9 Δ rfl
theorem QP(nd:ss.Nodup)(hl:ss.length=ws.length):K5 σ 1 (.d (.nd .lst ((ss.zip ws).map λp=>D.nd .tup [.sym p.1,p.2])))=some (1,ss.map .s,ws.map .d):=by
 show DN (Fo σ (((ss.zip ws).map λp=>D.nd .tup [.sym p.1,p.2]).map V.d)) (λl=>DN (FB 1 l ([], [])) λr=>some (1,r.1,r.2))=_;refine C9 Δ ?_;exact DB Yt (DB (fO (pre:= []) (pw:= []) hl rfl nd) rfl)
def zu:D→D
 | .nd _ [_,b]=>b
 |d=>d
def eg(d:D):Option V:=cond (isNone (.d (zu d))) none (some (.d d))
theorem iI{l:List (Nat×D)}:(l.map λp=>D.nd .tup [.sym p.1,p.2]).filterMap eg=((l.filter λp=> !isNone (.d p.2)).map λp=>D.nd .tup [.sym p.1,p.2]).map V.d:=by
 induction l with
 |nil=>rfl
 |cons p l ih=>
  have e:eg (D.nd .tup [.sym p.1,p.2])=cond (isNone (.d p.2)) none (some (V.d (D.nd .tup [.sym p.1,p.2]))):=rfl;refine C9 Χ<|C9 Al ?_
  cases h:isNone (.d p.2) with
  |true=>exact C9 (List.filterMap_cons_none (e.trans (by rw [h];rfl))) ih
  |false=>exact C9 (List.filterMap_cons_some (e.trans (by rw [h];rfl)))<|congrArg (_:: ·) ih
theorem cT(nd:ss.Nodup)(hl:ss.length=ws.length)(h:DS (Rn kl vl (K+1)) ws F8)(H:PT σ T' kl vl)(hm:K+1≤m+1){q:Bool}{res:V}{DK:Store}
  (he:D5 q σ.length (σ++ [.lv (.Dg 1 ((FO ss F8).map .s)) ((GO F8).map .d)]) (.cell (σ.length+0))=some (res,DK)):(DZ (m+2)).call q 8 [.d (sd ss ws),T'] σ=some (res,DK):=by
 have lw:ss.length=F8.length:=hl.trans h.length;have H': ∀r,PT (σ++r) T' kl vl:=λr=>JW H;have me:(FO ss F8).Nodup:=nd.sublist Rt;have l2:=RW (ws:=F8) lw;apply EU rfl rfl
 cell_ask ⟨LF,Ta⟩
 refine Hm ((Sj (QZ nd hl) h).imp λs y e=> ?_);refine D0 e λv v' Gx e1 e2=> ?_;subst Gx;clear e;refine EL rfl FD ?_;have c:=e2 (m+1) (σ++ []) T' (H' _) hm
 cell_ask ⟨MB⟩
 fin2
 refine (KV (g:=eg) λd hd=> ?_).trans (congrArg (λz=>some (z,σ++ [])) (iI.trans (by (exact C9 YF rfl))));refine DQ (AD.mp hd) λp O Gx=> ?_;subst Gx;cases hn:isNone (.d p.2) with
 |true=>
  have qO:(!isNone (.d p.2))=false:=by exact C9 hn rfl
  show _=some (cond (isNone (.d p.2)) none (some (V.d _)),_);refine C9 hn ?_;refine Mj (DD:=σ++ []) rfl ?_
  fin2
 |false=>
  have qO:(!isNone (.d p.2))=true:=by exact C9 hn rfl
  show _=some (cond (isNone (.d p.2)) none (some (V.d _)),_);refine C9 hn ?_;refine EL (DD:=σ++ []) rfl ?_ ?_
  fin2
 cell_ask ⟨QP me l2⟩
theorem dz(nd:ss.Nodup)(hl:ss.length=ws.length)(h:DS (Rn kl vl (K+1)) ws F8):Rn kl vl (K+2) (sd ss ws) (sd (FO ss F8) (GO F8)):=λn σ t H hn=>by
 refine DQ (Ew 2 hn) λm Fi hm=> ?_;subst Fi;exact cT nd hl h H (by exact Κ hm) (MU (k:=0) rfl)
theorem ME{h:Hd}(e:r[k]?=some (.lv h (l.map .d)))(hh: ∀c,h≠ .inst c)(hh2:h≠ .tup):D5 true σ.length (σ++r) (.cell (σ.length+k))=some (.cell σ.length,σ++ [.lv h (l.map .d)]):=by
 have b:Ε σ.length (σ.length+k)=true:=ο (Ζ _ _);refine (LS b).trans (DB (HT.trans e) (DB rfl ?_))
 have ad: ∀l:List D,Mr (l.map .d)=some l:=λl=>by
  induction l with
  |nil=>rfl
  |cons d l ih=>exact DB rfl (DB ih rfl)
 cases h with
 |inst c=>exact absurd rfl (hh c)
 |tup=>exact absurd rfl hh2
 |lst=>exact DB (ad l) (by exact C9 (HO _) rfl)
 |Dg=>exact DB (ad l) (by exact C9 (HO _) rfl)
end
end
section
mutual open A
variable{n k i:Nat}{keep:Bool}{σ r:Store}{v v' tr:D}{s:Nat}{l vs ws:List D}{ss:List Nat}{ks ns bs ch:List Int}{a b:Int}{sh t:V}{lv fl:List V}{loc:Di}
abbrev MW(ks:List Int)(vs:List D):D:= .nd (.Dg 0 (ks.map .i)) (vs.map GP)
abbrev E2(ks:List Int)(vs:List D)(tr:D):D:= .nd (.inst 5) [MW ks vs,tr]
theorem F4:Sh σ (.d (E2 ks vs tr)) ks vs tr [.d (MW ks vs), .d tr] (.d (MW ks vs)):=⟨rfl,rfl,rfl,rfl,rfl,rfl⟩
theorem Nv{fl:List V}(H:Sh σ sh ks vs tr fl t)(e:EG ks vs a=some v):(DZ (n+1)).call keep 27 [sh, .d (.nd .tup [.int a, .int 0])] σ=some (.d (.bool true),σ):=by
 obtain ⟨hi,ha,ht,WD,hr,Fz⟩:=H;have h1:(true==Dm (ks.map .i) (.i a))=true:=by exact C9 (V6 e) rfl
 apply aL rfl rfl
 cell_ask ⟨@jE,@GU⟩
inductive KE:D→Prop
 |ref (a:Int):KE (ref a)
 |EM (s:Nat):KE (EM s)
 |lst (l:List D):KE (.nd .lst l)
 |Dg {ss:List Nat} {ws:List D}:E0 ss ws 26= .none→KE (sd ss ws)
theorem gq(h:KE v):(DZ (n+2)).call keep 28 [.d v] σ=some (.d (.sym 0),σ):=by
 cases h with
 |ref a=>apply DW rfl rfl;cell_ask ⟨K8⟩
 |EM s=>apply DW rfl rfl;cell_ask ⟨LI⟩
 |lst l=>apply DW rfl rfl;cell_ask ⟨Kl⟩
 |Dg e=>
  have g: ∀ss ws σ,E0 ss ws 26= .none→GN 65 (.d (sd ss ws)) [.d (.sym 26)] σ=some (.d .none,σ):=λss ws σ e=>e▸Pu;have g:=λσ=>g _ _ σ e;apply DW rfl rfl
  cell_ask ⟨LF,g⟩
theorem Li{ss:List Int}(h:a ∉ ss):Dm (ss.map .i) (.i a)=false:=by
 induction ss with
 |nil=>rfl
 |cons c ss ih=>
  rw [ν,not_or] at h;show (DO.beq (.i c) (.i a)||Dm (ss.map .i) (.i a))=false;exact C9 (ih h.2)<|C9 (G6 λw=>h.1 w.symm) rfl
theorem cj: ∀{ss:List Int} {pre:List Int},(pre++ss).Nodup→FB 0 (ss.map λa=>(.d (.int a), .d (.bool true))) (pre.map .i,pre.map λO=>V.d (.bool true))=some ((pre++ss).map .i,(pre++ss).map λO=>V.d (.bool true)):=λ{ss}=>by
 induction ss with
 |nil=>intro pre _;exact C9 (υ _) rfl
 |cons s ss ih=>
  intro pre nd;have hs:s ∉ pre:=λz=>by rw [AE] at nd;exact nd.2.2 s z s (.head _) rfl
  have hh:=Li hs;refine (DB (show Sd 0 (.d (.int s)) (.d (.bool true)) (pre.map .i,pre.map λO=>V.d (.bool true))=some ((pre++ [s]).map .i,(pre++ [s]).map λO=>V.d (.bool true)) from DB rfl (DB rfl (D7 rfl ?_))) (ih (by exact C9 (π _ _ _) nd))).trans ?_
  ·show some (D2 (pre.map .i) (.i s),Dz (pre.map .i) (pre.map λO=>V.d (.bool true)) (.i s) (V.d (.bool true)))=_
   exact C9 (EN hh)<|C9 (Eg hh (by rw [ι,ι]))<|C9 χ<|C9 χ rfl
  ·exact C9 (π _ _ _) rfl
theorem Zh(nd:ns.Nodup):K5 σ 0 (.d (.nd .lst (ns.map λa=>D.nd .tup [.int a, .bool true])))=some (0,ns.map .i,ns.map λO=>V.d (.bool true)):=by
 have ps:Fo σ ((ns.map λa=>D.nd .tup [.int a, .bool true]).map V.d)=some (ns.map λa=>(.d (.int a), .d (.bool true))):=by
  clear nd
  induction ns with
  |nil=>rfl
  |cons a l ih=>exact DB (show Sr σ (V.d (.nd .tup [.int a, .bool true]))=some [.d (.int a), .d (.bool true)] from rfl) (DB rfl (DB ih rfl))
 show DN (Fo σ ((ns.map λa=>D.nd .tup [.int a, .bool true]).map V.d)) (λl=>DN (FB 0 l ([], [])) λr=>some (0,r.1,r.2))=_;exact DB ps (DB (cj (pre:= []) nd) rfl)
inductive mE(ks:List Int)(vs:List D):Int→List Int→Prop
 |stop {a:Int} {v:D} {k:Nat}:EG ks vs a=some v→Lc [] (.d v)=some k→ML k 14=false→mE ks vs a [a]
 |O7 {a b:Int} {ch:List Int}:EG ks vs a=some (ref b)→mE ks vs b ch→mE ks vs a (a::ch)
theorem VB{fl:List V}(H:Sh σ sh ks vs tr fl t)(C:mE ks vs a ch): ∀{bs:List Int} {loc:Di} {fuel:Nat},(bs++ch).Nodup→bs.length+ch.length<500→ch.length<fuel→DE loc 133=some sh→DE loc 62=some (.cell (σ.length+0))→DE loc 69=some (.d (ref a))→
  ∃DG,EC (NJ (nd (DZ (n+1)) wz).ev) (nd (DZ (n+1)) za).ex fuel loc (σ++ [.lv (.Dg 0 (bs.map .i)) (bs.map λO=>V.d (.bool true))])=some (.go 0 DG (σ++ [.lv (.Dg 0 ((bs++ch).map .i)) ((bs++ch).map λO=>V.d (.bool true))]))∧DE DG 62=some (.cell (σ.length+0)):=by
 have T: ∀{a:Int} {v:D} {bs:List Int} {loc:Di},EG ks vs a=some v→a ∉ bs→DE loc 133=some sh→DE loc 62=some (.cell (σ.length+0))→DE loc 69=some (.d (ref a))→(nd (DZ (n+1)) wz).ev loc (σ++ [.lv (.Dg 0 (bs.map .i)) (bs.map λO=>V.d (.bool true))])=some (.d (.bool true),σ++ [.lv (.Dg 0 (bs.map .i)) (bs.map λO=>V.d (.bool true))]):=λ{a v bs loc} e hb l1 l2 l3=>by
  have z:(true== !Dm (bs.map .i) (.i a))=true:=by exact C9 (Li hb) rfl
  have z2:=Nv (n:=n) (keep:=false) (H.app (r:= [.lv (.Dg 0 (bs.map .i)) (bs.map λO=>V.d (.bool true))])) e
  cell_ask ⟨Wu,HP⟩
 have B: ∀{a:Int} {v:D} {bs:List Int} {loc:Di},EG ks vs a=some v→a ∉ bs→bs.length<1000→DE loc 133=some sh→DE loc 62=some (.cell (σ.length+0))→DE loc 69=some (.d (ref a))→(nd (DZ (n+1)) za).ex loc (σ++ [.lv (.Dg 0 (bs.map .i)) (bs.map λO=>V.d (.bool true))])=some (.go 0 (DR loc 69 (.d v)) (σ++ [.lv (.Dg 0 ((bs++ [a]).map .i)) ((bs++ [a]).map λO=>V.d (.bool true))])):=λ{a v bs loc} e hb hl l1 l2 l3=>by
  obtain ⟨hi,ha,ht,WD,hr,Fz⟩:=H;have b2:(μ (DO.i a).kind 0&&Μ (bs.map DO.i).length big)=true:=W' (by exact C9 (ι _) hl);refine HE (s':=σ++ [.lv (.Dg 0 (bs.map .i)) (bs.map λO=>V.d (.bool true))].set 0 (.lv (.Dg 0 (D2 (bs.map .i) (.i a))) (Dz (bs.map .i) (bs.map λO=>V.d (.bool true)) (.i a) (.d (.bool true))))) ?_ ?_
  cell_ask ⟨El,@Eo,@M8⟩
  exact C9 (EN (Li hb))<|C9 (Eg (Li hb) (by rw [ι,ι]))<|C9 χ<|C9 χ rfl
 induction C with
 | @stop a v k e e2 e3=>
  intro bs loc fuel nd hl hf l1 l2 l3;obtain ⟨fuel,rfl⟩: ∃f,fuel=f+2:=(EF (fuel - 2) (by have:1<fuel:=hf;lia));have hb:a ∉ bs:=λz=>by rw [AE] at nd;exact nd.2.2 a z a (.head _) rfl
  have Fz:=H.low;have kd:=Wf (σ:=σ++ [.lv (.Dg 0 ((bs++ [a]).map .i)) ((bs++ [a]).map λO=>V.d (.bool true))]) e2;refine (DM _ (JO (T e hb l1 l2 l3) rfl (B e hb (by exact nK hl rfl) l1 l2 l3) rfl (K0 (v':= .d (.bool (ML k 14))) ?_ ?_)) ?_)
  ·have z:(true==ML k 14)=false:=by exact C9 e3 rfl
   fin2
  ·exact C9 e3 rfl
  ·fin2
 | @O7 a b ch e C ih=>
  intro bs loc fuel nd hl hf l1 l2 l3;rw [ξ] at hl hf;obtain ⟨fuel,rfl⟩: ∃f,fuel=f+1:=(EF (fuel - 1) (by exact YS hf));have hb:a ∉ bs:=λz=>by rw [AE] at nd;exact nd.2.2 a z a (.head _) rfl
  have Fz:=H.low;refine DQ (ih (bs:=bs++ [a]) (loc:=Du (σ++ [Dh.lv (.Dg 0 (bs.map .i)) (bs.map λO=>V.d (.bool true))]).length [] (DR loc 69 (.d (ref b)))) (fuel:=fuel) (by exact C9 (π _ _ _) nd) (by refine C9 ε ?_;show bs.length+1+_<_;exact Tg hl) (by exact AM hf) (by fin2) (by fin2) (by fin2)) λDG e2 l4=> ?_;refine (DM DG (JO (T e hb l1 l2 l3) rfl (B e hb (by exact nK hl rfl) l1 l2 l3) rfl ?_) l4);exact C9 e2<|C9 (π _ _ _) rfl
end
end
section
mutual open A
variable{n k i K:Nat}{σ r:Store}{v x:D}{vs fs:List D}{ks ns bs ch:List Int}{a r0:Int}{sh t:V}{fl:List V}{loc:Di}
abbrev PX(bs:List Int):D:= .nd (.Dg 0 (bs.map .i)) (bs.map λO=> .bool true)
abbrev Fv(r0:Int):D:=sd [18] [ref r0]
theorem ZE{fl:List V}(H:Sh σ sh ks vs (Fv r0) fl t)(h: ∀r,(DZ (n+5)).call false 23 [sh] (σ++r)=some (.d (.nd .lst fs),σ++r))(hs: ∀d∈fs,nF ks vs d)(hn:fs.map eM=ns)(C:mE ks vs r0 ch)(nd:(ns++ch).Nodup)(hl:ns.length+ch.length<500):(DZ (n+6)).call false 29 [sh] σ=some (.d (PX (ns++ch)),σ):=by
 have gp: ∀r,GN 65 (.d (Fv r0)) [.d (.sym 18)] (σ++r)=some (.d (ref r0),σ++r):=λr=>Pu;have qj:ns.Nodup:=(AE.mp nd).1;have H':=H;refine DQ (VB (n:=n+4) (loc:=DR (DR [(133,sh)] 62 (.cell (σ.length+0))) 69 (.d (ref r0))) (fuel:=TY) H' C nd hl (show ch.length<2000 by exact yV hl rfl) (by fin2) (by fin2) (by fin2)) λDG e l1=> ?_;obtain ⟨hi,ha,ht,WD,hr,Fz⟩:=H;apply EU rfl rfl
 cell_ask ⟨h⟩
 refine (KV (g:=λd=>some (.d (.nd .tup [.int (eM d), .bool true]))) λd hd=> ?_).trans (congrArg (λz=>some (z,σ++ [])) (show fs.filterMap _=(ns.map λa=>D.nd .tup [.int a, .bool true]).map V.d from ?_))
 ·cases hs d hd with
  |pg P=>refine EL (DD:=σ++ []) rfl FD ?_;fin2
  |nd P=>refine EL (DD:=σ++ []) rfl FD ?_;fin2
 ·refine Dr hn<|C9 Δ<|C9 Δ ?_
  exact congrFun (BU (f:=λd=>V.d (.nd .tup [.int (eM d), .bool true]))) _
 cell_ask ⟨Zh qj,@Eo,gp⟩
 exact MU (k:=0) (fl:=(ns++ch).map λO=> .bool true) (by exact C9 Δ rfl)
theorem Xy{d:D}(h:(DZ n).call false 29 [sh] σ=some (.d d,σ)):(DZ (n+1)).call false 30 [sh] σ=some (.d d,σ):=by
 apply DW rfl rfl
 fin2
structure ZU where
 fk:List DO
 fv:List D
 tk:List DO
 tv:List D
def ZV(z:ZU)(a:Int)(x:D):ZU:=match DU z.fk z.fv (.t (FW x)) with
 |some y=>{z with tk:=D2 z.tk (.p a 0),tv:=Dz z.tk z.tv (.p a 0) y}
 |none=>{z with fk:=D2 z.fk (.t (FW x)),fv:=Dz z.fk z.fv (.t (FW x)) (.nd .tup [.int a, .int 0])}
def Te:List (Int×Option D)→ZU→ZU
 | [],z=>z
 |(a,some x)::r,z=>Te r (ZV z a x)
 |(_,none)::r,z=>Te r z
inductive YN(ks:List Int)(vs:List D)(bs:List Int)(K:Nat):Int×Option D→Prop
 |skip {a:Int} {v:D}:EG ks vs a=some v→a∈bs→YN ks vs bs K (a,none)
 |see {a:Int} {v:D} {x':List D}:a ∉ bs→EG ks vs a=some v→KE v→G5 K v (.nd .tup x')→Pp (.nd .tup x')=some (.d (.str (FW (.nd .tup x'))))→YN ks vs bs K (a,some (.nd .tup x'))
end
end
section
mutual open A
variable{n m k i K q:Nat}{keep:Bool}{σ r:Store}{v x u tr:D}{vs:List D}{ks bs:List Int}{a b:Int}{sh t w:V}{kl:List DO}{lv fl:List V}{key:DO}{loc:Di}{h:Hd}
theorem PH(e:r[k]?=some (.lv (.Dg q kl) lv)):GF (σ++r) (.cell (σ.length+k))=some (q,kl,lv):=DB (Gz e) rfl
theorem eW(e:r[k]?=some (.lv (.Dg q kl) lv))(e1:HG x=some key)(e2:μ key.kind q=true)(e3:DU kl lv key=some w):E8 (σ++r) (.cell (σ.length+k)) (.d x)=some w:=Qk (PH e) e1 e2 e3
theorem JZ(h:a∈bs):Dm (bs.map .i) (.i a)=true:=by
 induction bs with
 |nil=>exact absurd h Γ
 |cons c bs ih=>
  show (DO.beq (.i c) (.i a)||Dm (bs.map .i) (.i a))=true;rcases ν.mp h with w|w
  ·exact C9 w<|C9 (show DO.beq (.i c) (.i c)=true from Gg c) rfl
  ·(exact C9 (ih w)<|C9 (Be _) rfl)
theorem WY{B:Bool}(e:Dm (bs.map .i) (.i a)=B):FG σ 8 (.d (.int a)) (.d (PX bs))=some B:=e▸aM (k:=0) (kl:=bs.map .i) (lv:=(bs.map λO=>D.bool true).map .d) rfl rfl rfl
theorem L8{key:DO}: ∀{kl:List DO} {vs:List D},kl.length=vs.length→DU kl vs key=none→Dm kl key=false:=λ{kl}=>by
 induction kl with
 |nil=>intro vs _ _;rfl
 |cons k kl ih=>
  intro vs hl h;cases vs with
  |nil=>exact nomatch hl
  |cons u vs=>
   have h:cond (DO.beq k key) (some u) (DU kl vs key)=none:=h;show (DO.beq k key||Dm kl key)=false;cases q:DO.beq k key with
   |true=>rw [q] at h;exact nomatch h
   |false=>rw [q] at h;exact C9 (ih (AK.inj hl) h) rfl
theorem IV{α:Type}{key:DO}{x:α}: ∀{kl:List DO} {vs:List α},kl.length=vs.length→(D2 kl key).length=(Dz kl vs key x).length:=λ{kl}=>by
 induction kl with
 |nil=>intro vs h;cases vs with|nil=>rfl|cons=>exact nomatch h
 |cons k kl ih=>
  intro vs h;cases vs with
  |nil=>exact nomatch h
  |cons u vs=>
   show (cond (DO.beq k key) (k::kl) (k::D2 kl key)).length=(cond (DO.beq k key) (x::vs) (u::Dz kl vs key x)).length;cases DO.beq k key with
   |true=>exact h
   |false=>exact congrArg (· +1) (ih (AK.inj h))
theorem H5{α β:Type}(f:α→β){key:DO}{x:α}: ∀{kl:List DO} {vs:List α},Dz kl (vs.map f) key (f x)=(Dz kl vs key x).map f:=λ{kl}=>by
 induction kl with
 |nil=>intro vs;cases vs<;>rfl
 |cons k kl ih=>
  intro vs;cases vs with
  |nil=>rfl
  |cons u vs=>
   show cond (DO.beq k key) (f x::vs.map f) (f u::Dz kl (vs.map f) key (f x))=(cond (DO.beq k key) (x::vs) (u::Dz kl vs key x)).map f;cases DO.beq k key with
   |true=>rfl
   |false=>exact congrArg (f u:: ·) ih
abbrev cells(z:ZU):Store:= [.lv (.Dg 3 z.fk) (z.fv.map .d), .lv (.Dg 2 z.tk) (z.tv.map .d)]
structure fc(z:ZU)(j:Nat):Prop where
 f:z.fk.length=z.fv.length
 t:z.tk.length=z.tv.length
 b1:z.fk.length+j<1000
 b2:z.tk.length+j<1000
structure TwL(loc:Di)(n:Nat)(sh:V)(bs:List Int):Prop where
 a:DE loc 133=some sh
 b:DE loc 61=some (.cell (n+0))
 c:DE loc 144=some (.cell (n+1))
 d:DE loc 136=some (.d (PX bs))
theorem fc.step{z:ZU}{j:Nat}(h:fc z (j+1))(a:Int)(x:D):fc (ZV z a x) j:=by
 obtain ⟨h1,h2,h3,h4⟩:=h;unfold ZV;cases DU z.fk z.fv (.t (FW x)) with
 |some y=>exact ⟨h1,IV h2,by show z.fk.length+j<1000;exact Aa h3,by have:=JA (kl:=z.tk) (x:= .p a 0);show (D2 z.tk (.p a 0)).length+j<1000;exact mY h4 this⟩
 |none=>exact ⟨IV h1,h2,by have:=JA (kl:=z.fk) (x:= .t (FW x));show (D2 z.fk (.t (FW x))).length+j<1000;exact mY h3 this,by show z.tk.length+j<1000;exact Aa h4⟩
theorem Ep{key:DO}{q j:Nat}(h:j<1000)(e:μ key.kind q=true):(μ key.kind q&&Μ j big)=true:=by
 refine C9 e ?_;exact ο (show j+1≤1000000 by exact X1 h rfl)
theorem fX{fl:List V}(H:Sh σ sh ks vs tr fl t): ∀{rows:List (Int×Option D)} {z:ZU} {loc:Di},(∀p∈rows,YN ks vs bs K p)→K≤n→2≤n→fc z rows.length→TwL loc σ.length sh bs→
  ∃DG,Ek (nd (DZ n) Tm5).ex 103 (rows.map λp=> .int p.1) loc (σ++cells z)=some (.go 0 DG (σ++cells (Te rows z)))∧DE DG 144=some (.cell (σ.length+1)):=λ{rows}=>by
 induction rows with
 |nil=>intro z loc _ _ _ _ L;exact (DM loc rfl L.c)
 |cons p rows ih=>
  intro z loc hr hn ya hz L;have hp:=hr p (.head _);have r6: ∀p∈rows,YN ks vs bs K p:=λp h=>hr p (.tail _ h);obtain ⟨la,lb,lc,ld⟩:=id L;have H':=H;obtain ⟨hi,ha,ht,WD,qG,Fz⟩:=H;cases hp with
  | @skip a v e hb=>
   have Oi: ∀σ,FG σ 8 (.d (.int a)) (.d (PX bs))=some true:=λσ=>WY (JZ hb);refine DQ (ih (z:=z) (loc:=Du (σ++cells z).length [] (DR (DR (DR loc 103 (.d (.int a))) 158 (.d v)) 64 (.d (.int 0)))) r6 hn ya ⟨hz.f,hz.t,by have:=hz.b1;rw [ξ] at this;exact Aa this,by have:=hz.b2;rw [ξ] at this;exact Aa this⟩ ⟨by fin2,by fin2,by fin2,by fin2⟩) λDG e2 l2=> ?_;refine (DM DG ?_ l2);refine bt (c:=2) (r:=cells z) (r':=cells z) ?_ (.inr rfl) rfl e2
   cell_ask ⟨@Eo,@M8,Oi⟩
  | @see a v x' hb e nw td rp=>
   refine DQ (Ew (a:=0) 2 ya) λm Fi O=> ?_;subst Fi;have Oi: ∀σ,FG σ 8 (.d (.int a)) (.d (PX bs))=some false:=λσ=>WY (Li hb);have c:=λσ=>td (m+2) false σ hn;have wn:=λσ=>gq (n:=m) (keep:=false) (σ:=σ) nw;have rp': ∀σ,Fk σ 8 (.d (.nd .tup x'))=some (.d (.str (FW (.nd .tup x')))):=λσ=>rp;have wW:=hz.step a (.nd .tup x');obtain ⟨z1,z2,z3,z4⟩:=id hz;rw [ξ] at z3 z4;refine DQ (ih (z:=ZV z a (.nd .tup x')) (loc:=Du (σ++cells z).length [] (DR (DR (DR (DR loc 103 (.d (.int a))) 158 (.d v)) 64 (.d (.int 0))) 81 (.d (.str (FW (.nd .tup x')))))) r6 hn ya wW ⟨by fin2,by fin2,by fin2,by fin2⟩) λDG e2 l2=> ?_;refine (DM DG ?_ l2);refine EV (r:=cells z) (r':=cells (ZV z a (.nd .tup x'))) ?_ rfl e2;cases hk:DU z.fk z.fv (.t (FW (.nd .tup x'))) with
   |some y=>
    have k1:=Qu hk;have k2:=En V.d hk;have k3:=Ep (key:= .p a 0) (q:=2) (j:=z.tk.length) (by exact PL z4) rfl;refine HE (s':=σ++(cells z).set 1 (.lv (.Dg 2 (D2 z.tk (.p a 0))) (Dz z.tk (z.tv.map .d) (.p a 0) (.d y)))) ?_ ?_
    cell_ask ⟨@Eo,@M8,Oi,wn,c,rp',UK,eW,El⟩
    refine C9 (H5 V.d) ?_;unfold ZV;exact C9 hk rfl
   |none=>
    have k1:=L8 z1 hk;have k3:=Ep (key:= .t (FW (.nd .tup x'))) (q:=3) (j:=z.fk.length) (by exact PL z3) rfl;refine HE (s':=σ++(cells z).set 0 (.lv (.Dg 3 (D2 z.fk (.t (FW (.nd .tup x'))))) (Dz z.fk (z.fv.map .d) (.t (FW (.nd .tup x'))) (.d (.nd .tup [.int a, .int 0]))))) ?_ ?_
    cell_ask ⟨@Eo,@M8,Oi,wn,c,rp',UK,El⟩
    refine C9 (H5 V.d) ?_;unfold ZV;exact C9 hk rfl
theorem aq{fl:List V}{rows:List (Int×Option D)}(H:Sh σ sh ks vs tr fl t)(hl:ks.length<64)(hs: ∀r,(DZ (n+7)).call false 30 [sh] (σ++r)=some (.d (PX bs),σ++r))(hr: ∀p∈rows,YN ks vs bs K p)(he:rows.map (·.1)=HD I9 ks)(hK:K≤n+7):(DZ (n+8)).call false 39 [sh] σ=some (.d (.nd (.Dg 2 (Te rows ⟨[], [], [], []⟩).tk) (Te rows ⟨[], [], [], []⟩).tv),σ):=by
 have nu:=λr=>Gd (n:=n+6) (keep:=false) (H.app (r:=r)) hl;have Eb:rows.length<64:=by exact Dr (ι (f:=(·.1)))<|C9 he<|C9 NA hl
 refine DQ (fX (n:=n+7) (z:=⟨[], [], [], []⟩) (loc:=DR (DR (DR [(133,sh)] 61 (.cell (σ.length+0))) 144 (.cell (σ.length+1))) 136 (.d (PX bs))) H hr hK (by exact ψ _ _) ⟨rfl,rfl,show 0+_<_ by exact ZY Eb rfl,show 0+_<_ by exact ZY Eb rfl⟩ ⟨by fin2,by fin2,by fin2,by fin2⟩) λDG e l1=> ?_;have e0:rows.map (λp=>D.int p.1)=(HD I9 ks).map .int:=by exact Dr he<|C9 Δ rfl
 rw [e0] at e;obtain ⟨hi,ha,ht,WD,qG,Fz⟩:=H;apply EU rfl rfl
 cell_ask ⟨@Gm,hs,nu⟩
 exact e
 fin2
 exact MU (k:=1) (r:=cells (Te rows ⟨[], [], [], []⟩)) (fl:=(Te rows ⟨[], [], [], []⟩).tv) rfl
end
end
section
mutual open A
variable{n k i K q:Nat}{keep:Bool}{σ r:Store}{v v' x u tr:D}{l vs tv:List D}{ss:List Nat}{ks dn:List Int}{a b:Int}{t w:V}{kl tk:List DO}{lv:List V}{key:DO}{loc:Di}{h:Hd}
theorem M6{body:Ex}{x:Nat}{v:D}{l:List D}{DG:Di}{out:Option HW}{r' xn:Store}(h:body (DR loc x (.d v)) (σ++r)=some (.go 0 DG (σ++(r'++xn))))(e:r'.length=r.length)(k:Ek body x l (Du (σ++r).length [] DG) (σ++r')=out):Ek body x (v::l) loc (σ++r)=out:=Tm h (.inl rfl) (by exact C9 (rc e) k)
def Yg(tk:List DO)(tv:List D)(a:Int):D:=(DU tk tv (.p a 0)).getD (.nd .tup [.int a, .int 0])
theorem VQ{α β:Type}(f:α→β){key:DO}: ∀{kl:List DO} {vs:List α},DU kl vs key=none→DU kl (vs.map f) key=none:=λ{kl}=>by
 induction kl with
 |nil=>intro vs _;rfl
 |cons k kl ih=>
  intro vs h;cases vs with
  |nil=>rfl
  |cons u vs=>
   have h:cond (DO.beq k key) (some u) (DU kl vs key)=none:=h;show cond (DO.beq k key) _ (DU kl (vs.map f) key)=none;cases z:DO.beq k key with
   |true=>rw [z] at h;exact nomatch h
   |false=>rw [z] at h;exact ih h
theorem nZ:GN 65 (.d (.nd (.Dg 2 tk) tv)) [.d (.nd .tup [.int a, .int 0]), .d (.nd .tup [.int a, .int 0])] σ=some (.d (Yg tk tv a),σ):=by
 show lift (aA σ (.d (.nd (.Dg 2 tk) tv)) [.d (.nd .tup [.int a, .int 0]), .d (.nd .tup [.int a, .int 0])]) σ=_;refine Ed ?_;show some ((DU tk (tv.map V.d) (.p a 0)).getD (.d (.nd .tup [.int a, .int 0])))=_;unfold Yg;cases q:DU tk tv (.p a 0) with
 |some v=>exact C9 (En V.d q) rfl
 |none=>exact C9 (VQ V.d q) rfl
theorem sW:Jr σ 65 (.d (.nd (.Dg 2 tk) tv))=true:=rfl
theorem hX{ss:List Int}(h:a ∉ ss):Dm (ss.map λa=>DO.p a 0) (.p a 0)=false:=by
 induction ss with
 |nil=>rfl
 |cons c ss ih=>
  rw [ν,not_or] at h;show (DO.beq (.p c 0) (.p a 0)||Dm (ss.map λa=>DO.p a 0) (.p a 0))=false
  (refine C9 (ih h.2)<|C9 (show DO.beq (.p c 0) (.p a 0)=false from by
   cases q:DO.beq (.p c 0) (.p a 0) with
   |false=>rfl
   |true=>exact absurd (EP (band q).1) λw=>h.1 w.symm) ?_);rfl
theorem aQ:FV (.d (MW ks vs)) σ=some (ks.map .int,σ):=by
 show lift (some ((ks.map DO.i).map DO.d)) σ=_;exact C9 Δ rfl
abbrev I7(tk:List DO)(tv:List D)(dn:List Int):Dh:= .lv (.Dg 2 (dn.map λa=> .p a 0)) (dn.map λa=>V.d (Yg tk tv a))
theorem Tt: ∀{l:List Int} {dn:List Int} {loc:Di},(dn++l).Nodup→dn.length+l.length<1000→(∀a∈l,∃v,EG ks vs a=some v)→DE loc 95=some (.d (E2 ks vs tr))→DE loc 144=some (.d (.nd (.Dg 2 tk) tv))→DE loc 100=some (.cell (σ.length+0))→
  ∃DG,Ek (nd (DZ n) Tm6).ex 103 (l.map .int) loc (σ++ [I7 tk tv dn])=some (.go 0 DG (σ++ [I7 tk tv (dn++l)]))∧ ∀x v,DE loc x=some v→μ 103 x=false→μ 111 x=false→FP (σ.length+1) v=false→DE DG x=some v:=λ{l}=>by
 induction l with
 |nil=>intro dn loc _ _ _ _ _ _;exact (DM loc (by exact C9 (υ _) rfl) (λx v h O O O=>h))
 |cons a l ih=>
  intro dn loc nd hl ht l1 l2 l3;rw [ξ] at hl;refine D3 (ht a (.head _)) λv e=> ?_;have hb:a ∉ dn:=λz=>by rw [AE] at nd;exact nd.2.2 a z a (.head _) rfl
  have hn:(σ++ [I7 tk tv dn]).length=σ.length+1:=ε;have ue: ∀σ,E8 σ (.d (MW ks vs)) (.d (.int a))=some (.d (GP v)):=λσ=>GU (σ:=σ) (t:= .d (MW ks vs)) rfl e;have k3:=Ep (key:= .p a 0) (q:=2) (j:=(dn.map λa=>DO.p a 0).length) (by exact C9 (ι _)<|PL hl) rfl;refine DQ (ih (dn:=dn++ [a]) (loc:=Du (σ++ [I7 tk tv dn]).length [] (DR (DR loc 103 (.d (.int a))) 111 (.d (.nd .tup [.int a, .int 0])))) (by exact C9 (π _ _ _) nd) (by refine C9 ε ?_;show dn.length+1+_<_;exact Tg hl) (λb hb=>ht b (.tail _ hb)) (by fin2) (by fin2) (by fin2)) λDG e2 keep=> ?_;refine (DM DG ?_ (λx w h1 h2 h3 h4=>keep x w (D9 (DH h3 (DH h2 h1)) (by exact C9 hn h4)) h2 h3 h4));refine C9 (show dn++a::l=dn++ [a]++l from AJ dn a l) ?_;refine EV (r':= [I7 tk tv (dn++ [a])]) ?_ rfl e2;refine HE (s':=σ++ [I7 tk tv dn].set 0 (.lv (.Dg 2 (D2 (dn.map λa=> .p a 0) (.p a 0))) (Dz (dn.map λa=> .p a 0) (dn.map λa=>V.d (Yg tk tv a)) (.p a 0) (.d (Yg tk tv a))))) ?_ ?_
  cell_ask ⟨ue,sW,nZ,El⟩
  refine C9 (EN (hX hb))<|C9 (Eg (hX hb) (by rw [ι,ι])) ?_
  show _=σ++ [Dh.lv (.Dg 2 ((dn++ [a]).map λa=>DO.p a 0)) ((dn++ [a]).map λa=>V.d (Yg tk tv a))];exact C9 χ<|C9 χ rfl
def kR:List (Int×Option D)→List Int
 | []=> []
 |(a,some _)::r=>a::kR r
 |(_,none)::r=>kR r
def vR:List (Int×Option D)→List D
 | []=> []
 |(_,some v)::r=>v::vR r
 |(_,none)::r=>vR r
inductive lN(ks:List Int)(vs:List D)(tk:List DO)(tv:List D)(K:Nat):Int×Option D→Prop
 |out {a:Int} {v:D}:EG ks vs a=some v→Dm tk (.p a 0)=true→lN ks vs tk tv K (a,none)
 |«in» {a:Int} {v v':D}:EG ks vs a=some v→Dm tk (.p a 0)=false→Rn (ks.map λa=> .p a 0) (ks.map (Yg tk tv)) K v v'→lN ks vs tk tv K (a,some v')
theorem cS:FG σ 9 (.d (.nd .tup [.int a, .int 0])) (.d (.nd (.Dg 2 tk) tv))=some (!Dm tk (.p a 0)):=XI (k:=2) (kl:=tk) (lv:=tv.map .d) rfl rfl rfl
abbrev Dk(lk:List Int)(lv:List D):Dh:= .lv (.Dg 0 (lk.map .i)) ((lv.map GP).map .d)
theorem ZR(hK:K≤n): ∀{rows:List (Int×Option D)} {dk:List Int} {dv:List D} {loc:Di},(dk++rows.map (·.1)).Nodup→dk.length=dv.length→dk.length+rows.length<1000→(∀p∈rows,lN ks vs tk tv K p)→DE loc 95=some (.d (E2 ks vs tr))→DE loc 144=some (.d (.nd (.Dg 2 tk) tv))→DE loc 100=some (.cell (σ.length+0))→DE loc 91=some (.cell (σ.length+1))→
  ∃DG,Ek (nd (DZ n) Tm7).ex 103 (rows.map λp=> .int p.1) loc (σ++ [I7 tk tv ks,Dk dk dv])=some (.go 0 DG (σ++ [I7 tk tv ks,Dk (dk++kR rows) (dv++vR rows)]))∧ ∀x v,DE loc x=some v→μ 103 x=false→μ 64 x=false→μ 158 x=false→FP (σ.length+2) v=false→DE DG x=some v:=λ{rows}=>by
 induction rows with
 |nil=>intro dk dv loc _ _ _ _ _ _ _ _;exact (DM loc (by exact C9 (show kR []= [] from rfl)<|C9 (show vR []= [] from rfl)<|C9 (υ _)<|C9 (υ _) rfl) (λx v h O O O O=>h))
 |cons p rows ih=>
  intro dk dv loc Fl Eb hl hr l1 l2 l3 l4;rw [ξ] at hl;have hp:=hr p (.head _);have r6: ∀p∈rows,lN ks vs tk tv K p:=λp h=>hr p (.tail _ h);have hn:(σ++ [I7 tk tv ks,Dk dk dv]).length=σ.length+2:=ε;have pt:PT (σ++ [I7 tk tv ks,Dk dk dv]) (.cell (σ.length+0)) (ks.map λa=> .p a 0) (ks.map (Yg tk tv)):=(PH (k:=0) rfl).trans (by exact C9 Δ rfl);rw [Χ] at Fl;cases hp with
  | @out a v e hk=>
   have ue: ∀σ,E8 σ (.d (MW ks vs)) (.d (.int a))=some (.d (GP v)):=λσ=>GU (σ:=σ) (t:= .d (MW ks vs)) rfl e;have k1:(!Dm tk (.p a 0))=false:=by exact C9 hk rfl
   refine DQ (ih (dk:=dk) (dv:=dv) (loc:=Du (σ++ [I7 tk tv ks,Dk dk dv]).length [] (DR (DR (DR loc 103 (.d (.int a))) 158 (.d v)) 64 (.d (.int 0)))) (Fl.sublist (List.Sublist.append_left (List.sublist_cons_self _ _) _)) Eb (by exact Aa hl) r6 (by fin2) (by fin2) (by fin2) (by fin2)) λDG e2 keep=> ?_;refine (DM DG ?_ (λx w h1 h2 h3 h4 h5=>keep x w (D9 (DH h3 (DH h4 (DH h2 h1))) (by exact C9 hn h5)) h2 h3 h4 h5));refine EV (r':= [I7 tk tv ks,Dk dk dv]) ?_ rfl e2
   cell_ask ⟨ue,cS⟩
  | @«in» a v v' e hk rn=>
   have ue: ∀σ,E8 σ (.d (MW ks vs)) (.d (.int a))=some (.d (GP v)):=λσ=>GU (σ:=σ) (t:= .d (MW ks vs)) rfl e;have k1:(!Dm tk (.p a 0))=true:=by exact C9 hk rfl
   have c:=rn n _ _ pt hK;have hb:a ∉ dk:=λz=>by rw [AE] at Fl;exact Fl.2.2 a z a (.head _) rfl
   have k3:=Ep (key:= .i a) (q:=0) (j:=(dk.map DO.i).length) (by exact C9 (ι _)<|PL hl) rfl;refine DQ (ih (dk:=dk++ [a]) (dv:=dv++ [v']) (loc:=Du (σ++ [I7 tk tv ks,Dk dk dv]).length [] (DR (DR (DR loc 103 (.d (.int a))) 158 (.d v)) 64 (.d (.int 0)))) (by exact C9 (π _ _ _) Fl) (by exact C9 ε<|C9 ε<|C9 Eb rfl) (by refine C9 ε ?_;show dk.length+1+_<_;exact Tg hl) r6 (by fin2) (by fin2) (by fin2) (by fin2)) λDG e2 keep=> ?_;refine (DM DG ?_ (λx w h1 h2 h3 h4 h5=>keep x w (D9 (DH h3 (DH h4 (DH h2 h1))) (by exact C9 hn h5)) h2 h3 h4 h5));refine C9 (show dk++kR ((a,some v')::rows)=dk++ [a]++kR rows from AJ dk a _)<|C9 (show dv++vR ((a,some v')::rows)=dv++ [v']++vR rows from AJ dv v' _) ?_
   refine EV (r':= [I7 tk tv ks,Dk (dk++ [a]) (dv++ [v'])]) ?_ rfl e2;refine HE (s':=σ++ [I7 tk tv ks,Dk dk dv].set 1 (.lv (.Dg 0 (D2 (dk.map .i) (.i a))) (Dz (dk.map .i) ((dv.map GP).map .d) (.i a) (.d (GP v'))))) ?_ ?_
   cell_ask ⟨ue,cS,El⟩
   refine C9 (EN (Li hb))<|C9 (Eg (Li hb) (by rw [ι,ι,ι];exact Eb)) ?_
   show _=σ++ [I7 tk tv ks,Dh.lv (.Dg 0 ((dk++ [a]).map .i)) (((dv++ [v']).map GP).map .d)];exact C9 χ<|C9 χ<|C9 χ rfl
end
end
section
mutual open A
variable{n k i K:Nat}{keep:Bool}{σ r:Store}{v x tr IJ y:D}{s:Nat}{l l' vs ws tv:List D}{ks dn:List Int}{a:Int}{sh t:V}{tk tk2:List DO}{lv fl:List V}{loc:Di}{h:Hd}{rows:List (Int×Option D)}
theorem zb{d2:D}{h':Hd}(ds:List D)(e:r[k]?=some (.lv h (ds.map .d))):Df false h' [.cell (σ.length+k), .d d2] (σ++r)=some (.d (.nd h' [.nd h ds,d2]),σ++r.set k (.fz (.nd h ds))):=show EI (HN (Ht FZ) _ _) (λds σ=>some (V.d (.nd h' ds),σ))=_ from DJ (W9 e (OQ rfl)) rfl
theorem Sq{i:Nat}:(DZ (n+1)).init 5 [.cell i, .d (.nd h l)] σ=some ([.cell i, .d (.nd h l)],σ):=rfl
theorem SY{h':Hd}:(DZ (n+1)).init 5 [.d (.nd h' l'), .d (.nd h l)] σ=some ([.d (.nd h' l'), .d (.nd h l)],σ):=rfl
theorem bF(hT:(DZ n).call false 39 [.d (E2 ks vs tr)] σ=some (.d (.nd (.Dg 2 tk) []),σ))(l1:DE loc 95=some (.d (E2 ks vs tr))):(nd (DZ n) yd).ex loc σ=some (.ret (.d (E2 ks vs tr)) σ):=by
 fin2
theorem tR(hT: ∀r,(DZ (n+1)).call false 39 [.d (E2 ks vs tr)] (σ++r)=some (.d (.nd (.Dg 2 tk) (y::tv)),σ++r))(l1:DE loc 95=some (.d (E2 ks vs tr)))(hl:ks.length<64)(nd:ks.Nodup)(hk: ∀a∈ks,∃v,EG ks vs a=some v)(hr: ∀p∈rows,lN ks vs tk (y::tv) K p)(he:rows.map (·.1)=HD I9 ks)(qj:(HD I9 ks).Nodup)(hK:K≤n+1)(qG:Rn (ks.map λa=> .p a 0) (ks.map (Yg tk (y::tv))) K tr IJ)(vh: ∃ks ws,IJ=sd ks ws)(keepL: ∀x v,DE loc x=some v→x≠95→True):
  ∃DG,(Mine.Internal.nd (DZ (n+1)) yd).ex loc (σ++ [])=some (.go 0 DG (σ++([]++ [I7 tk (y::tv) ks, .fz (MW (kR rows) (vR rows))])))∧DE DG 95=some (.d (E2 (kR rows) (vR rows) IJ)):=by
 refine HY vh λts tw Gx=> ?_;subst Gx;clear vh;have Eb:rows.length<64:=by exact Dr (ι (f:=(·.1)))<|C9 he<|C9 NA hl
 refine DQ (Tt (n:=n+1) (σ:=σ) (tk:=tk) (tv:=y::tv) (ks:=ks) (vs:=vs) (tr:=tr) (l:=ks) (dn:= []) (loc:=DR (DR loc 144 (.d (.nd (.Dg 2 tk) (y::tv)))) 100 (.cell (σ.length+0))) nd (show 0+_<_ by exact ZY hl rfl) hk (by fin2) (by fin2) (by fin2)) λKK e1 k1=> ?_;have m1:=k1 95 (.d (E2 ks vs tr)) (by fin2) rfl rfl rfl;have m2:=k1 144 (.d (.nd (.Dg 2 tk) (y::tv))) (by fin2) rfl rfl rfl;have m3:=k1 100 (.cell (σ.length+0)) (by fin2) rfl rfl (by fin2);refine DQ (ZR (n:=n+1) (σ:=σ) (tr:=tr) (dk:= []) (dv:= []) (loc:=DR KK 91 (.cell (σ.length+1))) hK (by exact C9 he qj) rfl (show 0+_<_ by exact ZY Eb rfl) hr (by fin2) (by fin2) (by fin2) (by fin2)) λI5 e2 k2=> ?_;have p1:=k2 95 (.d (E2 ks vs tr)) (by fin2) rfl rfl rfl rfl;have p3:=k2 100 (.cell (σ.length+0)) (by fin2) rfl rfl rfl (by fin2);have p4:=k2 91 (.cell (σ.length+1)) (by fin2) rfl rfl rfl (by fin2);have nu: ∀r,(DZ (n+1)).call false 14 [.d (E2 ks vs tr)] (σ++r)=some (.d (.nd .lst ((HD I9 ks).map .int)),σ++r):=λr=>Gd F4 hl;have e0:rows.map (λp=>D.int p.1)=(HD I9 ks).map .int:=by exact Dr he<|C9 Δ rfl
 rw [e0] at e2;have pt: ∀c,PT (σ++ [I7 tk (y::tv) ks,c]) (.cell (σ.length+0)) (ks.map λa=> .p a 0) (ks.map (Yg tk (y::tv))):=λc=>(PH (k:=0) rfl).trans (by exact C9 Δ rfl);have c:=λz=>qG (n+1) _ _ (pt z) hK;apply TH
 cell_ask ⟨hT,aQ⟩
 exact e1
 cell_ask ⟨nu⟩
 exact e2
 cell_ask ⟨c,Sq,zb ((vR rows).map GP)⟩
 exact Da
theorem WM(h:Tb σ t ks vs):K5 σ n t=some (0,ks.map .i,(vs.map GP).map .d):=DB (Gl h) (D7 rfl rfl)
theorem Zs(h:Tb σ t ks vs):Fk σ 0 t=some (.d (.int ks.length)):=by
 refine DB (Gl h) (DB (a:=ks.length) ?_ rfl);show GA (np 0) (some (ks.map DO.i).length)=_;exact C9 (ι _) rfl
theorem Kw{j:Nat}(h:j<1000):FU 0 ((j:Nat):Int)=some (HV 0 j):=by
 have s:small ((j:Nat):Int)=true:=by
  show (decide _&&decide _)=true;rw [decide_eq_true (by exact AP _),decide_eq_true (by lia)];rfl
 show GA (small 0&&small (j:Int)&&Ε ((j:Int) - 0).toNat big) (some (HV 0 ((j:Int) - 0).toNat))=_;have e:((j:Int) - 0).toNat=j:=by exact rfl
 rw [s,e];exact D7 (ο (show j≤1000000 by exact Pv h rfl)) rfl
theorem SA{fl:List V}{ts:List Nat}{tw:List D}(H:Sh σ sh ks vs (sd ts tw) fl t)(hl:ks.length<64)(hT: ∀σ,(DZ (n+1)).call false 39 [.d (E2 ks vs (sd ts tw))] σ=some (.d (.nd (.Dg 2 tk) []),σ)):(DZ (n+2)).call keep 40 [sh] σ=some (.d (E2 ks vs (sd ts tw)),σ):=by
 obtain ⟨hi,ha,ht,WD,qG,Fz⟩:=H;have rg:FU 0 ((ks.length:Int)+((1:Nat):Int))=some (.int 0::HV (0+1) ks.length):=Kw (j:=ks.length+1) (by exact L7 hl rfl);apply DW rfl rfl
 cell_ask ⟨@WM,Jp,SY,@Zs⟩
 exact QG (bF (hT σ) (by fin2))
 fin2
theorem Uq{fl:List V}{ts:List Nat}{tw:List D}(H:Sh σ sh ks vs (sd ts tw) fl t)(h0:0<ks.length)(hl:ks.length<64)(hT: ∀σ,(DZ (n+1)).call false 39 [.d (E2 ks vs (sd ts tw))] σ=some (.d (.nd (.Dg 2 tk) (y::tv)),σ))(Fl:ks.Nodup)(hk: ∀a∈ks,∃v,EG ks vs a=some v)(hr: ∀p∈rows,lN ks vs tk (y::tv) K p)(he:rows.map (·.1)=HD I9 ks)(qj:(HD I9 ks).Nodup)(hK:K≤n+1)(qG:Rn (ks.map λa=> .p a 0) (ks.map (Yg tk (y::tv))) K (sd ts tw) (sd ts tw))
  (hT2: ∀σ,(DZ (n+1)).call false 39 [.d (E2 (kR rows) (vR rows) (sd ts tw))] σ=some (.d (.nd (.Dg 2 tk2) []),σ)):(DZ (n+2)).call false 40 [sh] σ=some (.d (E2 (kR rows) (vR rows) (sd ts tw)),σ):=by
 refine wr λZ0 z0=> ?_;obtain ⟨hi,ha,ht,WD,htr2,Fz⟩:=H;obtain ⟨j,hj⟩: ∃j,ks.length=j+1:=(EF (ks.length - 1) (by exact YS h0));have rg:FU 0 ((ks.length:Int)+((1:Nat):Int))=some (.int 0:: .int (0+1)::HV (0+1+1) j):=(Kw (j:=ks.length+1) (by exact L7 hl rfl)).trans (by exact C9 hj rfl);refine DQ (tR (n:=n) (σ:=σ) (loc:=DR (DR [(133,sh)] 95 (.d (E2 ks vs (sd ts tw)))) 88 (.d (.int 0))) (λr=>hT (σ++r)) (by fin2) hl Fl hk hr he qj hK qG (TW _ _ rfl) λO O O O=>trivial) λKK e1 l1=> ?_;refine z0 ?_;have ht': ∀r,Tb (σ++r) t ks vs:=λr=>JW ht;have dt:=λr=>WM (n:=1) (ht' r);have lt:=λr=>Zs (ht' r);apply EU rfl rfl
 cell_ask ⟨@Eo,dt,Jp,SY,lt⟩
 exact M6 (r':= []) e1 rfl (QG (bF (hT2 _) (DH rfl (D9 l1 rfl))))
 fin2
 exact O8 _
end
end
section
mutual open A
variable{n k i q at_:Nat}{keep:Bool}{σ DT r:Store}{v' x:D}{s:Nat}{vs ws:List D}{cl:List Int}{a b:Int}{w:V}{lv:List V}{loc:Di}{h:Hd}{B:Bool}{d:D}
theorem mF(h:decide (b<a)=B):FG σ 4 (.d (.int a)) (.d (.int b))=some B:=h▸rfl
theorem gX(h:decide (b≤a)=B):FG σ 5 (.d (.int a)) (.d (.int b))=some B:=h▸rfl
theorem US(h:decide (a<b)=B):FG σ 2 (.d (.int a)) (.d (.int b))=some B:=h▸rfl
theorem Pm(h:(!Dj b 0)=true):Mx 4 (.d (.int a)) (.d (.int b))=some (.d (.int (a.fmod b))):=show DN (DN (GA (!Dj b 0) (some (a.fmod b))) _) _=_ by exact C9 h rfl
theorem Vq(h:(!Dj b 0&&small b)=true):Mx 3 (.d (.int a)) (.d (.int b))=some (.d (.int (a.fdiv b))):=show DN (DN (GA (!Dj b 0&&small b) (some (a.fdiv b))) _) _=_ by exact C9 h rfl
theorem Rv(h:(small a&&small b)=true):Mx 2 (.d (.int a)) (.d (.int b))=some (.d (.int (a*b))):=show DN (DN (GA (small a&&small b) (some (a*b))) _) _=_ by exact C9 h rfl
theorem XO:Mx 0 (.d (.int a)) (.d (.int b))=some (.d (.int (a+b))):=rfl
theorem u4:Mx 1 (.d (.int a)) (.d (.int b))=some (.d (.int (a - b))):=rfl
theorem Kq(h1: -1000000≤a)(h2:a≤1000000):small a=true:=by
 show (decide _&&decide _)=true;exact C9 (decide_eq_true (by lia))<|C9 (decide_eq_true (by lia)) rfl
theorem jY(h:0<b):(!Dj b 0)=true:=by
 cases q:Dj b 0 with
 |false=>rfl
 |true=>have:=EP q;lia
theorem OH(e:r[k]?=some (.lv .lst lv))(e2:qL lv a=some w):E8 (σ++r) (.cell (σ.length+k)) (.d (.int a))=some w:=show DN (Ir (.d (.int a))) (λx=>DN (G4 _ _) λq=>Um x q.2 q.1)=_ from DB rfl (DB (Gz e) (show Um (.int a) lv .lst=_ from DB rfl e2))
theorem OR{ws:List V}(e:r[k]?=some (.lv .lst lv))(e2:mD lv x a=some ws):GL (σ++r) (.cell (σ.length+k)) (.d (.int a)) (.d x)=some (σ++r.set k (.lv .lst ws)):=kW e (DB rfl (DB e2 rfl))
theorem Vy(h:at_<cl.length):E8 σ (.d (.nd .lst (cl.map .int))) (.d (.int (at_:Int)))=some (.d (.int (cl.getD at_ 0))):=by
 show ((cl.map D.int).map V.d)[at_]?=_;exact C9 (Ay)<|C9 (Ay)<|C9 (Τ h)<|C9 (A9)<|C9 (Τ h) rfl
theorem RL:Fk σ 0 (.d (.nd .lst (cl.map .int)))=some (.d (.int cl.length)):=by
 show some (V.d (.int (((cl.map D.int).map V.d).length:Nat)))=_
 (exact C9 (ι _)<|C9 (ι _) rfl)
theorem GE(h:DT.length=σ.length):D5 keep σ.length DT (.d d)=some (.d d,DT):=by show some (V.d d,DT.take σ.length)=_;(exact Dr h<|C9 AS rfl)
theorem Gi{n i a df:Nat}{ps:List Nat}{ts:List T}{vs:List V}{v' r':V}{s DK:Store}(h1:fns[i]?=some ⟨a,ps,df,ts⟩)(h2:bindArgs ps vs df=some loc)(h3:KZ (DZ n) ts loc σ=some (.ret v' s))(h4:D5 keep σ.length s v'=some (r',DK)):(DZ (n+1)).call keep i vs σ=some (r',DK):=Xi h1 h2 h3 h4
abbrev Dw(cl:List Int)(at_:Nat)(q:Int):Dh:= .lv .lst [.d (.nd .lst (cl.map .int)), .d (.int at_), .d (.int q)]
theorem Gy{q:Int}{many:Nat}(hc:cl.length<64)(ha:at_<1000)(hq:0≤q)(hm:0<many)(hm2:many<1000): ∃(z:Nat) (at':Nat) (q':Int),z<many∧at'≤at_+1∧0≤q'∧ ∀n keep,(DZ (n+1)).call keep 42 [.cell (σ.length+0), .d (.int many)] (σ++Dw cl at_ q::r)=some (.d (.int z),σ++Dw cl at' q'::r):=by
 have m0:(!Dj (many:Int) 0)=true:=jY (by exact qf hm);have m1:(!Dj (many:Int) 0&&small (many:Int))=true:=by exact C9 m0<|C9 (Kq (by exact AP _) (by lia)) rfl
 have md: ∀a:Int,∃z:Nat,a.fmod many=z∧z<many:=λa=>by
  have h1:=Int.fmod_nonneg_of_pos a (b:=many) (by exact qf hm);have h2:=Int.fmod_lt_of_pos a (b:=many) (by exact qf hm);exact (DM ((a.fmod many).toNat) (by lia) (by lia))
 by_cases q0:0<q
 ·refine DQ (md q) λz e hz=> ?_
  have g:=mF (σ:=σ++Dw cl at_ q::r) (a:=q) (b:=((0:Nat):Int)) (decide_eq_true q0);refine (Ea z at_ (q.fdiv many) hz (Ac _) (Int.fdiv_nonneg hq (by exact AP _)) (λn keep=> ?_));refine Dr e ?_;apply Gi rfl rfl
  cell_ask ⟨OH,Pm m0,Vq m1,OR⟩
  exact GE (by exact C9 ε<|C9 ε rfl)
 ·have q1:q=0:=by lia
  subst q1;have hs:small (at_:Int)=true:=Kq (by exact zqO rfl) (by lia);have ms:(small (at_:Int)&&small (at_:Int))=true:=by exact C9 hs rfl
  have ms2:(small ((10:Nat):Int)&&small (at_:Int))=true:=by rw [hs];rfl
  have d6:(!Dj ((6:Nat):Int) 0&&small ((6:Nat):Int))=true:=rfl
  by_cases hb:cl.length≤at_
  ·have g:=λσ=>gX (σ:=σ) (a:=(at_:Int)) (b:=(cl.length:Int)) (decide_eq_true (by lia))
   cases cl with
   |nil=>
    refine DQ (md (10*at_+(at_*at_:Int).fdiv 6+1)) λz e hz=> ?_;refine (Ea z (at_+1) 0 hz (Ι _) (Int.le_refl _) (λn keep=> ?_));refine Dr e ?_;apply Gi rfl rfl
    cell_ask ⟨OH,Pm m0,Vq d6,Rv ms,Rv ms2,XO,OR⟩
    exact GE (by exact C9 ε<|C9 ε rfl)
   |cons c cl=>
    have hl:at_ % (c::cl).length<(c::cl).length:=Nat.mod_lt _ (BD _)
    have nm: ∀σ,E8 σ (.d (.nd .lst ((c::cl).map .int))) (.d (.int ((at_:Int).fmod ((c::cl).length:Int))))=some (.d (.int ((c::cl).getD (at_ % (c::cl).length) 0))):=λσ=>by
     refine C9 (show (at_:Int).fmod ((c::cl).length:Int)=((at_ % (c::cl).length:Nat):Int) from (Int.fmod_eq_emod_of_nonneg _ (by exact AP _)).trans rfl) ?_;exact Vy hl
    have ln:(!Dj ((c::cl).length:Int) 0)=true:=jY (by refine C9 ξ ?_;lia);refine DQ (md (10*at_+(at_*at_:Int).fdiv 6+(c::cl).getD (at_ % (c::cl).length) 0)) λz e hz=> ?_;refine (Ea z (at_+1) 0 hz (Ι _) (Int.le_refl _) (λn keep=> ?_));refine Dr e ?_;apply Gi rfl rfl
    cell_ask ⟨OH,RL,nm,g,Pm m0,Pm ln,Vq d6,Rv ms,Rv ms2,XO,OR⟩
    exact GE (by exact C9 ε<|C9 ε rfl)
  ·have i9:at_<cl.length:=by exact Nat.not_le.mp hb
   have g:=λσ=>gX (σ:=σ) (a:=(at_:Int)) (b:=(cl.length:Int)) (decide_eq_false (by exact zsr hb));have nm: ∀σ,E8 σ (.d (.nd .lst (cl.map .int))) (.d (.int (at_:Int)))=some (.d (.int (cl.getD at_ 0))):=λσ=>Vy i9
   by_cases hg:((cl.getD at_ 0).natAbs:Int)<(10:Int)^18
   ·have g2:=λσ=>US (σ:=σ) (decide_eq_true hg)
    refine DQ (md (cl.getD at_ 0)) λz e hz=> ?_;refine (Ea z (at_+1) 0 hz (Ι _) (Int.le_refl _) (λn keep=> ?_));refine Dr e ?_;apply Gi rfl rfl
    cell_ask ⟨OH,RL,nm,g,g2,Pm m0,XO,OR⟩
    exact GE (by exact C9 ε<|C9 ε rfl)
   ·have g2:=λσ=>US (σ:=σ) (decide_eq_false hg)
    refine DQ (md (((cl.getD at_ 0).natAbs:Int) - (10:Int)^18)) λz e hz=> ?_;refine (Ea z (at_+1) ((((cl.getD at_ 0).natAbs:Int) - (10:Int)^18).fdiv many) hz (Ι _) (Int.fdiv_nonneg (by lia) (by exact AP _)) (λn keep=> ?_));refine Dr e ?_;apply Gi rfl rfl
    cell_ask ⟨OH,RL,nm,g,g2,Pm m0,Vq m1,XO,u4,OR⟩
    exact GE (by exact C9 ε<|C9 ε rfl)
end
end
section
mutual open A
variable{n i j at_:Nat}{keep:Bool}{σ DT r:Store}{x:D}{s:Nat}{ws F8:List D}{ss N7:List Nat}{cl:List Int}{b q:Int}{lv:List V}{key:DO}{h:Hd}{d:D}
theorem Qo(hi:i<σ.length)(h:DT.length=σ.length):D5 keep σ.length DT (.cell i)=some (.cell i,DT):=by
 have b:Ε σ.length i=false:=by
  cases q:Ε σ.length i with
  |false=>rfl
  |true=>exact absurd (φ q) (by exact Nat.not_le.mpr hi)
 show (match Ε σ.length i with|false=>some (V.cell i,DT.take σ.length)|true=>_)=_;refine C9 b<|Dr h ?_
 show some (V.cell i,DT.take DT.length)=_
 (exact C9 AS rfl)
inductive Ty(s:Nat)(ss:List Nat)(ws:List D):List Nat→List D→Prop
 |no:Ty s ss ws ss ws
 |EM:Ty s ss ws (ss++ [26]) (ws++ [EM s])
 |ref:Ty s ss ws (ss++ [26]) (ws++ [ref (if s=13 then 60 else 61)])
theorem LM(hs:s ∉ ss)(hl:ss.length=ws.length):(Dh.lv (.Dg 1 (D2 (ss.map .s) (.s s))) (Dz (ss.map .s) (ws.map .d) (.s s) (.d x)))= .lv (.Dg 1 ((ss++ [s]).map .s)) ((ws++ [x]).map .d):=by
 exact C9 (EN (cY hs))<|C9 (Eg (cY hs) (by rw [ι,ι];exact hl))<|C9 χ<|C9 χ rfl
theorem NT{q:Int}(hc:cl.length<64)(ha:at_<999)(hq:0≤q)(hs:s=13∨s=14)(wQ:26 ∉ ss)(hl:ss.length=ws.length)(rG:ss.length<100): ∃(at':Nat) (q':Int) (N7:List Nat) (F8:List D),at'≤at_+1∧0≤q'∧Ty s ss ws N7 F8∧
  ∀n,(DZ (n+2)).call false 43 [.cell (σ.length+0), .cell (σ.length+(r.length+1)), .d (.sym s)] (σ++Dw cl at_ q::(r++ [.lv (.Dg 1 (ss.map .s)) (ws.map .d)]))=some (.cell (σ.length+(r.length+1)),σ++Dw cl at' q'::(r++ [.lv (.Dg 1 (N7.map .s)) (F8.map .d)])):=by
 refine Do (Gy (σ:=σ) (r:=r++ [.lv (.Dg 1 (ss.map .s)) (ws.map .d)]) (many:=3) hc (by exact Az ha:at_<1000) hq (by exact AB _) (by exact ψ _ _)) λz at' q' hz h1 h2 e=> ?_
 have en: ∀{c:Dh},σ.length+(r.length+1)<(σ++Dw cl at_ q::(r++ [c])).length:=λ{c}=>by
  refine C9 ε<|C9 ξ<|C9 ε ?_;show _<σ.length+(r.length+1+1);exact AF _
 have e2: ∀{c c':Dh} {ca cb:Dh},(σ++ca::(r++ [c])).length=(σ++cb::(r++ [c'])).length:=λ{O O O O}=>by exact C9 ε<|C9 ε<|C9 ξ<|C9 ξ<|C9 ε<|C9 ε rfl
 have gi: ∀{c:Dh} {ca:Dh},(ca::(r++ [c]))[r.length+1]?=some c:=λ{c ca}=>List.getElem?_concat_length
 have si: ∀{c c':Dh} {ca:Dh},(ca::(r++ [c])).set (r.length+1) c'=ca::(r++ [c']):=λ{c c' ca}=>by
  show ca::(r++ [c]).set r.length c'=_;exact C9 (AI _ _ (Ι _))<|C9 (Ai _) rfl
 have bb:=Ep (key:= .s 26) (q:=1) (j:=(ss.map DO.s).length) (by exact C9 (ι _)<|IL rG rfl) rfl;have e':=λn=>e n false;cases z,hz using Xh with
 |h0=>
  refine (FQ at' q' ss ws h1 h2 .no (λn=> ?_));apply Gi rfl rfl
  cell_ask ⟨e'⟩
  exact Qo en e2
 |h1=>
  refine (FQ at' q' _ _ h1 h2 .EM (λn=> ?_));rcases hs with rfl|rfl
  all_goals
   apply Gi rfl rfl
   cell_ask ⟨e',El,gi⟩
   refine C9 si<|C9 (LM wQ hl) ?_
   exact Qo en e2
 |h2=>
  refine (FQ at' q' _ _ h1 h2 .ref (λn=> ?_));rcases hs with rfl|rfl
  all_goals
   apply Gi rfl rfl
   cell_ask ⟨e',El,gi⟩
   refine C9 si<|C9 (LM wQ hl) ?_
   exact Qo en e2
end
end
section
mutual open A
variable{n m k i j at_ N:Nat}{σ r:Store}{v v' x y:D}{s:Nat}{l vs ws F8:List D}{ss N7:List Nat}{ks cl:List Int}{a b q:Int}{t w:V}{lv:List V}{key:DO}{loc:Di}{h:Hd}{d:D}{c1 c2:Dh}
theorem aN:(c1::(r++ [c2]))[r.length+1]?=some c2:=List.getElem?_concat_length
theorem nL{c3:Dh}:(c1::(r++ [c2])).set (r.length+1) c3=c1::(r++ [c3]):=by
 show c1::(r++ [c2]).set r.length c3=_;exact C9 (AI _ _ (Ι _))<|C9 (Ai _) rfl
theorem fU:Df true h lv (σ++c1::r)=some (.cell (σ.length+(r.length+1)),σ++c1::(r++ [.lv h lv])):=ZK (c1::r)
theorem js(hs:s ∉ ss)(hl:ss.length=ws.length)(hb:ss.length<1000):GL (σ++c1::(r++ [.lv (.Dg 1 (ss.map .s)) (ws.map .d)])) (.cell (σ.length+(r.length+1))) (.d (.sym s)) (.d x)=some (σ++c1::(r++ [.lv (.Dg 1 ((ss++ [s]).map .s)) ((ws++ [x]).map .d)])):=by
 refine (El aN (ky:= .s s) rfl (Ep (by exact C9 (ι _) hb) rfl)).trans ?_
 (exact C9 nL<|C9 (LM hs hl) rfl)
theorem y5:FV (.cell (σ.length+(r.length+1))) (σ++c1::(r++ [.lv (.Dg 1 (ss.map .s)) (ws.map .d)]))=some (ss.map .sym,σ++c1::(r++ [.fz (sd ss ws)])):=by
 refine DJ ((bq aN).trans (by (exact C9 nL rfl))) ?_;show lift (some ((ss.map DO.s).map DO.d)) _=_;exact C9 Δ rfl
theorem qQ(e:DU (ss.map .s) ws (.s s)=some v):E8 (σ++c1::(r++ [.fz (sd ss ws)])) (.cell (σ.length+(r.length+1))) (.d (.sym s))=some (.d v):=by
 have vw:G4 (σ++c1::(r++ [.fz (sd ss ws)])) (.cell (σ.length+(r.length+1)))=some (.Dg 1 (ss.map .s),ws.map .d):=DB (HT.trans aN) rfl;show DN (Ir (.d (.sym s))) (λx=>DN (G4 _ _) λq=>Um x q.2 q.1)=_;exact DB rfl (DB vw (show Um (.sym s) (ws.map .d) (.Dg 1 (ss.map .s))=_ from DB rfl (D7 rfl (En V.d e))))
theorem LO(hs:a ∉ ks)(hl:ks.length=vs.length):Dh.lv (.Dg 0 (D2 (ks.map .i) (.i a))) (Dz (ks.map .i) ((vs.map GP).map .d) (.i a) (.d (GP x)))=Dk (ks++ [a]) (vs++ [x]):=by
 show _=Dh.lv (.Dg 0 ((ks++ [a]).map .i)) (((vs++ [x]).map GP).map .d);exact C9 (EN (Li hs))<|C9 (Eg (Li hs) (by rw [ι,ι,ι];exact hl))<|C9 χ<|C9 χ<|C9 χ rfl
abbrev HH:D:= .nd .lst [.int 0, .int 0, .int 9, .int 9]
inductive RN:List Nat→List D→Prop
 |plain {ss:List Nat} {ws:List D}:Ty 13 [10] [HH] ss ws→RN ss ws
 |x {ss:List Nat} {ws:List D} {x:Int}:Ty 13 [10] [HH] ss ws→x∈ [1,2,3,30,40,41,42]→RN (ss++ [27]) (ws++ [ref x])
theorem du(h:Ty s ss ws N7 F8)(hl:ss.length=ws.length):N7.length=F8.length∧N7.length≤ss.length+1∧ ∀z∈N7,z∈ss∨z=26:=by
 cases h with
 |no=>exact ⟨hl,Ac _,λz h=> .inl h⟩
 |EM=>exact ⟨by exact C9 ε<|C9 ε<|C9 hl rfl,by exact C9 ε<|Ι _,λz h=>(ω.mp h).imp id ς.mp⟩
 |ref=>exact ⟨by exact C9 ε<|C9 ε<|C9 hl rfl,by exact C9 ε<|Ι _,λz h=>(ω.mp h).imp id ς.mp⟩
structure Za(loc:Di)(n N:Nat)(kids:V):Prop where
 v:DE loc 159=some (.cell (n+0))
 t:DE loc 144=some (.cell (n+1))
 n:DE loc 101=some (.d (.int N))
 k:DE loc 83=some kids
theorem Y1{q:Int}{m:Store}(hc:cl.length<64)(ha:at_<990)(hq:0≤q):
  ∃(at':Nat) (q':Int) (ss:List Nat) (ws:List D),at'≤at_+3∧0≤q'∧RN ss ws∧ ∀n loc,DE loc 159=some (.cell (σ.length+0))→ ∃DG,KZ (DZ (n+2)) [xe,pQ] loc (σ++Dw cl at_ q::m)=some (.go 0 DG (σ++Dw cl at' q'::(m++ [.lv (.Dg 1 (ss.map .s)) (ws.map .d)])))∧DE DG 68=some (.cell (σ.length+(m.length+1)))∧(∀x v,DE loc x=some v→μ 68 x=false→DE DG x=some v):=by
 refine wr λZ0 z0=> ?_;refine GY (NT (σ:=σ) (at_:=at_) (r:=m) (s:=13) (ss:= [10]) (ws:= [HH]) (q:=q) hc (by exact IL ha rfl) hq (.inl rfl) (by decide) rfl (by decide)) λa1 q1 ss ws g1 g2 ty e1=> ?_;refine Do (Gy (σ:=σ) (r:=m++ [.lv (.Dg 1 (ss.map .s)) (ws.map .d)]) (many:=3) hc (show a1<1000 by exact sS g1 ha rfl) g2 (by exact AB _) (by exact ψ _ _)) λz a2 q2 hz g3 g4 e2=> ?_;have xc:=λn=>e2 n false;refine ET (du ty rfl) λtl tb tm=> ?_;refine z0 ?_
 by_cases z0:z=0
 ·subst z0
  refine Do (Gy (σ:=σ) (r:=m++ [.lv (.Dg 1 (ss.map .s)) (ws.map .d)]) (many:=7) hc (show a2<1000 by exact yi ha g1 g3 rfl) g4 (by exact AB _) (by exact ψ _ _)) λz3 a3 q3 zs g5 g6 e3=> ?_;have e3':=λn=>e3 n false
  obtain ⟨x,hx,nx⟩: ∃x∈ [(1:Int),2,3,30,40,41,42],∀σ,E8 σ (.d (.nd .tup [.int ((1:Nat):Int), .int ((2:Nat):Int), .int ((3:Nat):Int), .int ((30:Nat):Int), .int ((40:Nat):Int), .int ((41:Nat):Int), .int ((42:Nat):Int)])) (.d (.int z3))=some (.d (.int x)):=by
   cases z3,zs using sx with
   |h0=>exact (DM 1 (by decide) (λO=>rfl))
   |h1=>exact (DM 2 (by decide) (λO=>rfl))
   |h2=>exact (DM 3 (by decide) (λO=>rfl))
   |h3=>exact (DM 30 (by decide) (λO=>rfl))
   |h4=>exact (DM 40 (by decide) (λO=>rfl))
   |h5=>exact (DM 41 (by decide) (λO=>rfl))
   |h6=>exact (DM 42 (by decide) (λO=>rfl))
  have h27:27 ∉ ss:=λh=>by rcases tm _ h with w|w;exact absurd w (by decide);exact absurd w (by decide)
  refine (FQ a3 q3 _ _ (by exact wM g1 g3 g5 rfl) g6 (.x ty hx) (λn loc hv=> ?_));apply TH
  cell_ask ⟨fU⟩
  exact e1 n;have hb:ss.length<1000:=Ρ tb (by decide)
  cell_ask ⟨xc,e3',nx,js h27 tl hb⟩
  exact ⟨by fin2,λx v h e=>DH e h⟩
 ·have g: ∀σ,FG σ 0 (.d (.int (z:Int))) (.d (.int ((0:Nat):Int)))=some false:=λσ=>by
   show some (μ z 0)=_;exact congrArg some (by cases q:μ z 0 with|false=>rfl|true=>exact absurd (AO q) z0)
  refine (FQ a2 q2 _ _ (by exact vy g1 g3 rfl) g4 (.plain ty) (λn loc hv=> ?_));apply TH
  cell_ask ⟨fU⟩
  exact e1 n
  cell_ask ⟨xc,g⟩
  exact ⟨by fin2,λx v h e=>DH e h⟩
theorem pA(hl:l.length<1000):Mx 0 (.d (.nd .lst [x])) (.d (.nd .lst l))=some (.d (.nd .lst (x::l))):=XS (by show 1+l.length≤1000000;exact v5 hl rfl)
theorem ZO{m:Store}{A i:Int}(hl:ss.length=ws.length)(nd:(15::ss).Nodup)(hb:ss.length<100)(Xt:30+i ∉ ks)(TK:ks.length=vs.length)(O9:ks.length<900)(h1:DE loc 68=some (.cell (σ.length+((Dk ks vs::m).length+1))))(h2:DE loc 38=some (.d (.int A)))(h3:DE loc 44=some (.d (.int i)))(h4:DE loc 144=some (.cell (σ.length+1))):
  KZ (DZ (n+2)) [sK] loc (σ++c1::((Dk ks vs::m)++ [.lv (.Dg 1 (ss.map .s)) (ws.map .d)]))=some (.go 0 loc (σ++(c1::Dk (ks++ [30+i]) (vs++ [sd (15::ss) (ref A::ws)])::m++ [.fz (sd ss ws)]))):=by
 have me:=(Η.mp nd).2;have hz:((ss.zip ws).map λp=>D.nd .tup [.sym p.1,p.2]).length<1000:=by refine C9 (ι _)<|C9 List.length_zip ?_;lia
 have rows:=Sj (QZ me hl) (show DS (λa b=>a=b) ws ws from by
  clear hl nd me hz
  induction ws with
  |nil=>exact .nil
  |cons w ws ih=>exact .cons rfl ih)
 have dd: ∀σ,K5 σ 1 (.d (.nd .lst (.nd .tup [.sym 15,ref A]::(ss.zip ws).map λp=>D.nd .tup [.sym p.1,p.2])))=some (1,(15::ss).map .s,(ref A::ws).map .d):=λσ=>QP (ss:=15::ss) (ws:=ref A::ws) nd (congrArg (· +1) hl);have bb:=Ep (key:= .i (((30:Nat):Int)+i)) (q:=0) (j:=(ks.map DO.i).length) (by exact C9 (ι _)<|IL O9 rfl) rfl;apply HE
 cell_ask ⟨y5⟩
 refine Hm (rows.imp λs y e=> ?_);refine D0 e λv v' Gx e1 cB=> ?_;subst Gx;subst cB;clear e;refine EL rfl FD ?_
 cell_ask ⟨qQ⟩
 fin2
 exact pA hz
 fin2
 exact dd _
 cell_ask ⟨El⟩
 show σ++(c1::((Dk ks vs::m)++ [.fz (sd ss ws)])).set 1 (.lv (.Dg 0 (D2 (ks.map .i) (.i (30+i)))) (Dz (ks.map .i) ((vs.map GP).map .d) (.i (30+i)) (.d (GP (sd (15::ss) (ref A::ws))))))=_;exact C9 (LO Xt TK) rfl
end
end
section
mutual open A
variable{n k i K at_ N:Nat}{σ r:Store}{v x y:D}{s:Nat}{l ws:List D}{cl:List Int}{a b q:Int}{kl:List DO}{lv:List V}{loc:Di}{h:Hd}{B:Bool}{d:D}{c1 c2:Dh}{Ks:List (List Int)}
abbrev OZ(K:List Int):Dh:= .lv .lst (K.map λa=>V.d (.int a))
def HX(n:Nat):List (List Int)→Store
 | [A]=> [OZ A, .lv .tup [.d (.int 20), .cell (n+2)], .lv .lst [.cell (n+3)], .lv (.Dg 0 [.i 20]) [.cell (n+2)]]
 | [A,B]=> [OZ A, .lv .tup [.d (.int 20), .cell (n+2)],OZ B, .lv .tup [.d (.int 21), .cell (n+4)], .lv .lst [.cell (n+3), .cell (n+5)], .lv (.Dg 0 [.i 20, .i 21]) [.cell (n+2), .cell (n+4)]]
 | [A,B,C]=> [OZ A, .lv .tup [.d (.int 20), .cell (n+2)],OZ B, .lv .tup [.d (.int 21), .cell (n+4)],OZ C, .lv .tup [.d (.int 22), .cell (n+6)], .lv .lst [.cell (n+3), .cell (n+5), .cell (n+7)], .lv (.Dg 0 [.i 20, .i 21, .i 22]) [.cell (n+2), .cell (n+4), .cell (n+6)]]
 |_=> []
def mj:Nat→Nat
 |1=>5
 |2=>7
 |_=>9
def Pq(Ks:List (List Int)):Nat:=mj Ks.length
def GR:List (List Int)→Nat→Int→List (List Int)
 | [],_,_=> []
 |K::Ks,0,a=>(K++ [a])::Ks
 |K::Ks,z+1,a=>K::GR Ks z a
def Iq:List (List Int)→Bool
 | [A]=>Μ A.length 100
 | [A,B]=>Μ A.length 100&&Μ B.length 100
 | [A,B,C]=>Μ A.length 100&&(Μ B.length 100&&Μ C.length 100)
 |_=>false
theorem Zf{K:List Int}:Dh.lv .lst ((K.map λa=>V.d (.int a))++ [.d (.int a)])=OZ (K++ [a]):=by rw [OZ,χ];rfl
theorem PD{G:HR}{t1 t2:T}{r1:Store}{kl:List DO}{cs:List V}{A:List Int}{z q:Nat}{b:Int}(h1:DE loc 83=some (.cell (σ.length+z)))(e1:(nd G t1).ev loc (σ++r)=some (.d (.int b),σ++r1))(e2:(nd G t2).ev loc (σ++r1)=some (.d (.int a),σ++r1))(hd:r1[z]?=some (.lv (.Dg 0 kl) cs))(hl:DU kl cs (.i b)=some (.cell (σ.length+q)))(hk:r1[q]?=some (OZ A))(hb:Μ A.length 100=true):
  (nd G (.mk 55 0 [.mk 31 41 [.mk 9 0 [DF 83,t1],t2]])).ex loc (σ++r)=some (.go 0 loc (σ++r1.set q (OZ (A++ [a])))):=by
 have b0:(A.map λa=>V.d (.int a)).length+1<big:=by
  have:=φ hb
  refine C9 (ι _) ?_;show _<1000000;exact L7 this rfl
 have e3:E8 (σ++r1) (.cell (σ.length+z)) (.d (.int b))=some (.cell (σ.length+q)):=eW hd rfl rfl hl;have e4:GN 41 (.cell (σ.length+q)) [.d (.int a)] (σ++r1)=some (.d .none,σ++r1.set q (OZ (A++ [a]))):=(Nz hk b0).trans (by (exact C9 Zf rfl));have e5:=Ho (σ:=σ) hk rfl;have e6:=Kr (σ:=σ) hk
 fin2
theorem zB{motive: ∀Ks:List (List Int),Iq Ks=true→Prop}(h1: ∀A (h:Iq [A]=true),motive [A] h)(h2: ∀A B (h:Iq [A,B]=true),motive [A,B] h)(h3: ∀A B C (h:Iq [A,B,C]=true),motive [A,B,C] h): ∀Ks h,motive Ks h
 | [A],h=>h1 A h
 | [A,B],h=>h2 A B h
 | [A,B,C],h=>h3 A B C h
theorem WO{G:HR}{t1 t2:T}{z:Nat}{pu:Dh}(hz:z<Ks.length)(hK:Iq Ks=true)(h1:DE loc 83=some (.cell (σ.length+Pq Ks)))(e1:(nd G t1).ev loc (σ++c1::c2::HX σ.length Ks)=some (.d (.int (20+z)),σ++pu::c2::HX σ.length Ks))(e2:(nd G t2).ev loc (σ++pu::c2::HX σ.length Ks)=some (.d (.int a),σ++pu::c2::HX σ.length Ks)):
  (nd G (.mk 55 0 [.mk 31 41 [.mk 9 0 [DF 83,t1],t2]])).ex loc (σ++c1::c2::HX σ.length Ks)=some (.go 0 loc (σ++pu::c2::HX σ.length (GR Ks z a))):=by
 cases Ks,hK using zB with
 |h1 A hK=>
  have hz:z<1:=hz;cases z,hz using nM with
  |h0=>exact PD h1 e1 e2 rfl (q:=2) rfl rfl hK
 |h2 A B hK=>
  have hz:z<2:=hz;cases z,hz using iw with
  |h0=>exact PD h1 e1 e2 rfl (q:=2) rfl rfl (band hK).1
  |h1=>exact PD h1 e1 e2 rfl (q:=4) rfl rfl (band hK).2
 |h3 A B C hK=>
  have hz:z<3:=hz;cases z,hz using Xh with
  |h0=>exact PD h1 e1 e2 rfl (q:=2) rfl rfl (band hK).1
  |h1=>exact PD h1 e1 e2 rfl (q:=4) rfl rfl (band (band hK).2).1
  |h2=>exact PD h1 e1 e2 rfl (q:=6) rfl rfl (band (band hK).2).2
theorem pU{c3 c4:Dh}:Df true h lv (σ++ [c1,c2,c3,c4])=some (.cell (σ.length+4),σ++ [c1,c2,c3,c4, .lv h lv]):=ZK [c1,c2,c3,c4]
theorem o8{c3 c4 c5:Dh}:Df true h lv (σ++ [c1,c2,c3,c4,c5])=some (.cell (σ.length+5),σ++ [c1,c2,c3,c4,c5, .lv h lv]):=ZK [c1,c2,c3,c4,c5]
theorem m8{c3 c4 c5 c6:Dh}:Df true h lv (σ++ [c1,c2,c3,c4,c5,c6])=some (.cell (σ.length+6),σ++ [c1,c2,c3,c4,c5,c6, .lv h lv]):=ZK [c1,c2,c3,c4,c5,c6]
theorem nX{c3 c4 c5 c6 c7:Dh}:Df true h lv (σ++ [c1,c2,c3,c4,c5,c6,c7])=some (.cell (σ.length+7),σ++ [c1,c2,c3,c4,c5,c6,c7, .lv h lv]):=ZK [c1,c2,c3,c4,c5,c6,c7]
theorem l9{c3 c4 c5 c6 c7 c8:Dh}:Df true h lv (σ++ [c1,c2,c3,c4,c5,c6,c7,c8])=some (.cell (σ.length+8),σ++ [c1,c2,c3,c4,c5,c6,c7,c8, .lv h lv]):=ZK [c1,c2,c3,c4,c5,c6,c7,c8]
theorem pO{c3 c4 c5 c6 c7 c8 c9:Dh}:Df true h lv (σ++ [c1,c2,c3,c4,c5,c6,c7,c8,c9])=some (.cell (σ.length+9),σ++ [c1,c2,c3,c4,c5,c6,c7,c8,c9, .lv h lv]):=ZK [c1,c2,c3,c4,c5,c6,c7,c8,c9]
theorem Wh{α:Type}{f:D→Store→Option (Option α×Store)}{d:D}{dl:List D}{v:α}{ws:List α}{DD DK:Store}(h1:f d σ=some (some v,DD))(h2:EA f dl DD=some (ws,DK)):EA f (d::dl) σ=some (v::ws,DK):=FC h1 h2
theorem Ua:Fo σ []=some []:=rfl
theorem QE{x:V}{y:V}{ps:List (V×V)}{l:List V}(e:r[k]?=some (.lv .tup [x,y]))(h2:Fo (σ++r) l=some ps):Fo (σ++r) (.cell (σ.length+k)::l)=some ((x,y)::ps):=DB (show Sr (σ++r) (.cell (σ.length+k))=some [x,y] from DB (Gz e) (D7 rfl rfl)) (DB rfl (DB h2 rfl))
theorem Qb{ps:List (V×V)}{l:List V}{kv:List DO×List V}(e:r[k]?=some (.lv .lst l))(h1:Fo (σ++r) l=some ps)(h2:FB 0 ps ([], [])=some kv):K5 (σ++r) 0 (.cell (σ.length+k))=some (0,kv.1,kv.2):=DB (Gz e) (show DN (Fo (σ++r) l) (λl=>DN (FB 0 l ([], [])) λr=>some (0,r.1,r.2))=_ from DB h1 (DB h2 rfl))
abbrev M1:Dh:=Dk [60,61] [EM 13,EM 14]
theorem mH(h:DE loc 101=some (.d (.int 1))):(nd (DZ (n+2)) Yl).ex loc (σ++ [c1,c2])=some (.go 0 (DR loc 83 (.cell (σ.length+5))) (σ++c1::c2::HX σ.length [[]])):=by
 have rv:FU 0 1=some [.int 0]:=rfl;apply HE
 cell_ask ⟨pU,o8,m8,nX,l9,pO,Wh,KC,EL,Qb,QE,Ua⟩
theorem lP(h:DE loc 101=some (.d (.int 2))):(nd (DZ (n+2)) Yl).ex loc (σ++ [c1,c2])=some (.go 0 (DR loc 83 (.cell (σ.length+7))) (σ++c1::c2::HX σ.length [[], []])):=by
 have rv:FU 0 2=some [.int 0, .int 1]:=rfl;apply HE
 cell_ask ⟨pU,o8,m8,nX,l9,pO,Wh,KC,EL,Qb,QE,Ua⟩
theorem Zk(h:DE loc 101=some (.d (.int 3))):(nd (DZ (n+2)) Yl).ex loc (σ++ [c1,c2])=some (.go 0 (DR loc 83 (.cell (σ.length+9))) (σ++c1::c2::HX σ.length [[], [], []])):=by
 have rv:FU 0 3=some [.int 0, .int 1, .int 2]:=rfl;apply HE
 cell_ask ⟨pU,o8,m8,nX,l9,pO,Wh,KC,EL,Qb,QE,Ua⟩
inductive Ky:List (List Int)→Prop
 |one:Ky [[]]
 |two:Ky [[21], []]
 |flat:Ky [[21,22], [], []]
 |deep:Ky [[21], [22], []]
theorem J'{x:Option HW}{DG:Di}{s s':Store}(h:x=some (.go 0 DG s'))(e:DG=loc)(e2:s'=s):x=some (.go 0 loc s):=e▸e2▸h
theorem IA{G:HR}{q q':Int}{at':Nat}{z jj:Nat}(hz:z<Ks.length)(hK:Iq Ks=true)(h1:DE loc 83=some (.cell (σ.length+Pq Ks)))(h2:DE loc 159=some (.cell (σ.length+0)))(e:G.call false 42 [.cell (σ.length+0), .d (.int (jj:Int))] (σ++Dw cl at_ q::c2::HX σ.length Ks)=some (.d (.int z),σ++Dw cl at' q'::c2::HX σ.length Ks)):
  (nd G qe).ex (DR loc 44 (.d (.int (jj:Int)))) (σ++Dw cl at_ q::c2::HX σ.length Ks)=some (.go 0 (DR loc 44 (.d (.int (jj:Int)))) (σ++Dw cl at' q'::c2::HX σ.length (GR Ks z (20+jj)))):=by
 refine Rg (x_go (WO (pu:=Dw cl at' q') hz hK (DH rfl h1) ?_ ?_) MZ)
 fin2
 fin2
theorem fQ{q:Int}(hc:cl.length<64)(ha:at_<900)(hq:0≤q): ∃(at':Nat) (q':Int) (N:Nat) (Ks:List (List Int)),at'≤at_+3∧0≤q'∧Ky Ks∧Ks.length=N∧ ∀n,∃DG,KZ (DZ (n+2)) [gG,Yl,nP] [(159, .cell (σ.length+0))] (σ++ [Dw cl at_ q])=some (.go 0 DG (σ++Dw cl at' q'::M1::HX σ.length Ks))∧Za DG σ.length N (.cell (σ.length+Pq Ks)):=by
 refine Do (Gy (σ:=σ) (at_:=at_) (r:= []) (many:=3) hc (by exact IL ha rfl) hq (by exact AB _) (by exact ψ _ _)) λz a1 q1 hz g1 g2 e1=> ?_;have tF:=λn=>e1 n false
 have S0: ∀n,(nd (DZ (n+2)) gG).ex [(159, .cell (σ.length+0))] (σ++ [Dw cl at_ q])=some (.go 0 (DR (DR [(159, .cell (σ.length+0))] 144 (.cell (σ.length+1))) 101 (.d (.int (1+z)))) (σ++ [Dw cl a1 q1,M1])):=λn=>by
  apply J'
  cell_ask ⟨tF⟩
 cases z,hz using Xh with
 |h0=>
  refine (IY a1 q1 1 ([[]]) (by lia) g2 .one rfl (λn=>(DM _ (x_go (S0 n) (x_go (mH Da) (x_go (Ml (Wn Fu (Fg (DH rfl Da)) (show FU 1 1=some [] from rfl)) Jq) MZ))) ?_)));exact ⟨by fin2,by fin2,by (fin2;exact Da;all_goals fin2),by (fin2;exact Da;all_goals fin2)⟩
 |h1=>
  refine Do (Gy (σ:=σ) (r:=M1::HX σ.length [[], []]) (many:=1) hc (show a1<1000 by exact sS g1 ha rfl) g2 (by exact AF _) (by exact ψ _ _)) λz2 a2 q2 zr g3 g4 e2=> ?_;obtain rfl:z2=0:=by exact wU zr
  refine (IY a2 q2 2 ([[21], []]) (by exact vy g1 g3 rfl) g4 .two rfl (λn=>(DM _ (x_go (S0 n) (x_go (lP Da) (x_go (Ml (Wn Fu (Fg (DH rfl Da)) (show FU 1 2=some [.int 1] from rfl)) (EV (r':=Dw cl a2 q2::M1::HX σ.length [[21], []]) (IA (jj:=1) (Ks:= [[], []]) (by decide) rfl Da (by fin2) (e2 _ _)) rfl Jq)) MZ))) ?_)));exact ⟨by fin2,by fin2,by (fin2;exact Da;all_goals fin2),by (fin2;exact Da;all_goals fin2)⟩
 |h2=>
  refine Do (Gy (σ:=σ) (r:=M1::HX σ.length [[], [], []]) (many:=1) hc (show a1<1000 by exact sS g1 ha rfl) g2 (by exact AF _) (by exact ψ _ _)) λz2 a2 q2 zr g3 g4 e2=> ?_;obtain rfl:z2=0:=by exact wU zr
  refine Do (Gy (σ:=σ) (r:=M1::HX σ.length [[21], [], []]) (many:=2) hc (show a2<1000 by exact yi ha g1 g3 rfl) g4 (by exact Ac _) (by exact ψ _ _)) λz3 a3 q3 zs g5 g6 e3=> ?_;cases z3,zs using iw with
  |h0=>
   refine (IY a3 q3 3 ([[21,22], [], []]) (by exact wM g1 g3 g5 rfl) g6 .flat rfl (λn=>(DM _ (x_go (S0 n) (x_go (Zk Da) (x_go (Ml (Wn Fu (Fg (DH rfl Da)) (show FU 1 3=some [.int 1, .int 2] from rfl)) (EV (r':=Dw cl a2 q2::M1::HX σ.length [[21], [], []]) (IA (jj:=1) (Ks:= [[], [], []]) (by decide) rfl Da (by fin2) (e2 _ _)) rfl (EV (r':=Dw cl a3 q3::M1::HX σ.length [[21,22], [], []]) (IA (jj:=2) (Ks:= [[21], [], []]) (by decide) rfl (by (fin2;exact Da;all_goals fin2)) (by fin2) (e3 _ _)) rfl Jq))) MZ))) ?_)));exact ⟨by fin2,by fin2,by (fin2;exact Da;all_goals fin2),by (fin2;exact Da;all_goals fin2)⟩
  |h1=>
   refine (IY a3 q3 3 ([[21], [22], []]) (by exact wM g1 g3 g5 rfl) g6 .deep rfl (λn=>(DM _ (x_go (S0 n) (x_go (Zk Da) (x_go (Ml (Wn Fu (Fg (DH rfl Da)) (show FU 1 3=some [.int 1, .int 2] from rfl)) (EV (r':=Dw cl a2 q2::M1::HX σ.length [[21], [], []]) (IA (jj:=1) (Ks:= [[], [], []]) (by decide) rfl Da (by fin2) (e2 _ _)) rfl (EV (r':=Dw cl a3 q3::M1::HX σ.length [[21], [22], []]) (IA (jj:=2) (Ks:= [[21], [], []]) (by decide) rfl (by (fin2;exact Da;all_goals fin2)) (by fin2) (e3 _ _)) rfl Jq))) MZ))) ?_)));exact ⟨by fin2,by fin2,by (fin2;exact Da;all_goals fin2),by (fin2;exact Da;all_goals fin2)⟩
end
end
section
mutual open A
variable{n m k i K j at_ N:Nat}{σ DT r:Store}{v x:D}{l vs ws:List D}{ss:List Nat}{ks cl:List Int}{a b q:Int}{t o w:V}{loc:Di}{h:Hd}{B:Bool}{d:D}{c1:Dh}{Ks:List (List Int)}{G:HR}
theorem V1{l1 l2:List T}{out:Option HW}: ∀{loc DG:Di} {σ DT:Store},KZ G l1 loc σ=some (.go 0 DG DT)→KZ G l2 DG DT=out→KZ G (l1++l2) loc σ=out:=by
 induction l1 with
 |nil=>intro loc DG σ DT h k;injection h with h;injection h with _ h1 h2;subst h1 h2;exact k
 |cons a l1 ih=>
  intro loc DG σ DT h k;have h:VG ((nd G a).ex loc σ) (λloc σ=>KZ G l1 loc σ)=some (.go 0 DG DT):=h;show VG ((nd G a).ex loc σ) (λloc σ=>KZ G (l1++l2) loc σ)=out;cases e:(nd G a).ex loc σ with
  |none=>rw [e] at h;exact nomatch h
  |some o=>
   rw [e] at h;cases o with
   |ret v τ=>exact nomatch h
   |go c KK τ=>cases c with
    |zero=>exact ih h k
    |succ c=>injection h with h;exact nomatch h
theorem bj(h:RN ss ws):ss.length=ws.length∧(15::ss).Nodup∧ss.length<100:=by
 have go: ∀{ss ws},Ty 13 [10] [HH] ss ws→ss.length=ws.length∧(ss= [10]∨ss= [10,26]):=λh=>by
  cases h with
  |no=>exact ⟨rfl, .inl rfl⟩
  |EM=>exact ⟨rfl, .inr rfl⟩
  |ref=>exact ⟨rfl, .inr rfl⟩
 cases h with
 |plain h=>obtain ⟨e,rfl|rfl⟩:=go h<;>exact ⟨e,by decide,by decide⟩
 |x h _=>obtain ⟨e,rfl|rfl⟩:=go h<;>exact ⟨by exact C9 ε<|C9 ε<|C9 e rfl,by decide,by decide⟩
theorem IM: ∀{Ks:List (List Int)} {z:Nat},(GR Ks z a).length=Ks.length:=λ{Ks}=>by
 induction Ks with
 |nil=>intro z;rfl
 |cons K Ks ih=>intro z;cases z with|zero=>rfl|succ z=>exact congrArg (· +1) ih
theorem YB{q:Int}{i:Nat}(hc:cl.length<64)(ha:at_<900)(hq:0≤q)(hN:Ks.length=N)(et:0<N)(e8:N<4)(hK:Iq Ks=true)(Xt:30+(i:Int) ∉ ks)(TK:ks.length=vs.length)(O9:ks.length<900)(hY: ∀z a,Pq (GR Ks z a)=Pq Ks):
  ∃(at':Nat) (q':Int) (j:Nat) (ss:List Nat) (ws:List D),at'≤at_+4∧0≤q'∧j<N∧RN ss ws∧ ∀n loc,Za loc σ.length N (.cell (σ.length+Pq Ks))→ ∃DG,(nd (DZ (n+2)) nz).ex (DR loc 44 (.d (.int (i:Int)))) (σ++Dw cl at_ q::Dk ks vs::HX σ.length Ks)=some (.go 0 DG (σ++(Dw cl at' q'::Dk (ks++ [30+(i:Int)]) (vs++ [sd (15::ss) (ref (20+(j:Int))::ws)])::HX σ.length (GR Ks j (30+(i:Int)))++ [.fz (sd ss ws)])))∧
   ∀x v,DE loc x=some v→x=159∨x=144∨x=101∨x=83→DE DG x=some v:=by
 refine wr λZ0 z0=> ?_;refine Do (Gy (σ:=σ) (at_:=at_) (r:=Dk ks vs::HX σ.length Ks) (many:=N) hc (by exact IL ha rfl) hq et (by exact IL e8 rfl)) λz a1 q1 hz g1 g2 e1=> ?_;have tF:=λn=>e1 n false;refine GY (Y1 (σ:=σ) (at_:=a1) (q:=q1) (m:=Dk ks vs::HX σ.length (GR Ks z (30+(i:Int)))) hc (by exact sS g1 ha rfl) g2) λa2 q2 ss ws g3 g4 pf e2=> ?_;refine ET (bj pf) λp1 p2 p3=> ?_;refine z0 ?_;refine (Si a2 q2 z ss ws (by exact zsl g1 g3) g4 hz pf (λn loc L=> ?_));obtain ⟨la,lb,lc,ld⟩:=L;refine ES (e2 n (DR (DR loc 44 (.d (.int (i:Int)))) 38 (.d (.int (20+(z:Int))))) (by fin2)) λDG e3 k1 k2=> ?_;refine (DM DG ?_ (λx v h hx=> ?_))
 ·refine Rg (x_go ?_ (x_go (WO (c1:=Dw cl a1 q1) (pu:=Dw cl a1 q1) (hN▸hz) hK ?_ ?_ ?_) (V1 (l1:= [xe,pQ]) e3 (ZO p1 p2 p3 Xt TK O9 k1 (k2 _ _ Da rfl) (k2 _ _ (DH rfl Da) rfl) (k2 _ _ (DH rfl (DH rfl lb)) rfl)))))
  ·apply J'
   cell_ask ⟨tF⟩
  ·fin2
  ·fin2
  ·exact dm Fu (Fg (DH rfl Da)) rfl
 ·rcases hx with rfl|rfl|rfl|rfl<;>exact k2 _ _ (DH rfl (DH rfl h)) rfl
abbrev F0:=Nat×List Nat×List D
def IF:Nat→List F0→List Int
 |_, []=> []
 |i,_::r=>(30+(i:Int))::IF (i+1) r
def K4(l:List F0):List D:=l.map λp=>sd (15::p.2.1) (ref (20+(p.1:Int))::p.2.2)
def Ik:Nat→List F0→List (List Int)→List (List Int)
 |_, [],Ks=>Ks
 |i,p::r,Ks=>Ik (i+1) r (GR Ks p.1 (30+(i:Int)))
theorem W0{Ks yX:List (List Int)}(h:Ks.length=yX.length):Pq Ks=Pq yX:=by
 show mj Ks.length=mj yX.length
 (exact C9 h rfl)
theorem k3e{motive: ∀Ks:List (List Int),0<Ks.length→Ks.length<4→Prop}(h1: ∀A,motive [A] (BD _) (of_decide_eq_true rfl))(h2: ∀A B,motive [A,B] (BD _) (of_decide_eq_true rfl))(h3: ∀A B C,motive [A,B,C] (BD _) (of_decide_eq_true rfl)): ∀Ks a b,motive Ks a b
 | [A],_,_=>h1 A
 | [A,B],_,_=>h2 A B
 | [A,B,C],_,_=>h3 A B C
 |_::_::_::_::_,_,h=>absurd h (Nat.not_lt_of_le (ψ 4 _))
theorem Xn(et:0<Ks.length)(e8:Ks.length<4)(h: ∀K∈Ks,K.length<100):Iq Ks=true:=by
 have b: ∀{K:List Int},K.length<100→Μ K.length 100=true:=λh=>ο h;cases Ks,et,e8 using k3e with
 |h1 A=>exact b (h A (.head _))
 |h2 A B=>show (_&&_)=true;exact C9 (b (h A (.head _)))<|C9 (b (h B (.tail _ (.head _)))) rfl
 |h3 A B C=>show (_&&(_&&_))=true;exact C9 (b (h A (.head _)))<|C9 (b (h B (.tail _ (.head _))))<|C9 (b (h C (.tail _ (.tail _ (.head _))))) rfl
theorem SK{b:Nat}: ∀{Ks:List (List Int)} {z:Nat},(∀K∈Ks,K.length≤b)→ ∀K∈GR Ks z a,K.length≤b+1:=λ{Ks}=>by
 induction Ks with
 |nil=>intro z _ K hK;exact absurd hK Γ
 |cons A Ks ih=>
  intro z h K hK;cases z with
  |zero=>
   rcases ν.mp hK with w|w
   ·exact C9 w<|C9 ε<|Κ (h A (.head _))
   ·exact Az (h K (.tail _ w))
  |succ z=>
   rcases ν.mp hK with w|w
   ·exact C9 w<|Az (h A (.head _))
   ·exact ih (λK h'=>h K (.tail _ h')) K w
theorem Za.drop{DG:Di}(L:Za loc σ.length N (.cell (σ.length+k)))(h: ∀x v,DE loc x=some v→x=159∨x=144∨x=101∨x=83→DE DG x=some v)(hr:Ε 2 r.length=true)(hk:Ε (k+1) r.length=true):Za (Du (σ++r).length [] DG) σ.length N (.cell (σ.length+k)):=
 have hr:=φ hr
 ⟨D9 (h _ _ L.v (.inl rfl)) (JB (ο (by exact Aa hr))),D9 (h _ _ L.t (.inr (.inl rfl))) (JB (ο (by exact hr))),D9 (h _ _ L.n (.inr (.inr (.inl rfl)))) rfl,D9 (h _ _ L.k (.inr (.inr (.inr rfl)))) (JB hk)⟩
theorem V8{n:Nat}(et:0<Ks.length)(e8:Ks.length<4):(HX n Ks).length+1=Pq Ks:=by
 cases Ks,et,e8 using k3e with
 |h1=>rfl
 |h2=>rfl
 |h3=>rfl
theorem VE(hc:cl.length<64)(et:0<N)(e8:N<4): ∀{c i at_:Nat} {q:Int} {Ks:List (List Int)} {ks:List Int} {vs:List D} {b:Nat},at_+4*c<900→0≤q→Ks.length=N→(∀K∈Ks,K.length≤b)→b+c<90→(∀x∈ks,x<30+(i:Int)∨40≤x)→i+c≤9→ks.length=vs.length→ks.length+c<900→
  ∃(at':Nat) (q':Int) (rows:List F0),at'≤at_+4*c∧0≤q'∧rows.length=c∧(∀p∈rows,p.1<N∧RN p.2.1 p.2.2)∧ ∀n loc,Za loc σ.length N (.cell (σ.length+Pq Ks))→
   ∃DG,Ek (nd (DZ (n+2)) nz).ex 44 (HV (i:Int) c) loc (σ++Dw cl at_ q::Dk ks vs::HX σ.length Ks)=some (.go 0 DG (σ++Dw cl at' q'::Dk (ks++IF i rows) (vs++K4 rows)::HX σ.length (Ik i rows Ks)))∧Za DG σ.length N (.cell (σ.length+Pq Ks)):=λ{c}=>by
 induction c with
 |zero=>
  intro i at_ q Ks ks vs b _ hq _ _ _ _ _ _ _;exact (Lf at_ q ([]) (Ι _) hq rfl (λp h=>absurd h Γ) (λn loc L=>(DM loc (by exact C9 (show IF i []= [] from rfl)<|C9 (show K4 []= [] from rfl)<|C9 (υ _)<|C9 (υ _) rfl) L)))
 |succ c ih=>
  intro i at_ q Ks ks vs b ha hq hN hb cA Xt hi TK O9;have hs:Iq Ks=true:=Xn (hN▸et) (hN▸e8) λK h=>by have:=hb K h;exact zX cA this rfl
  have hY: ∀z a,Pq (GR Ks z a)=Pq Ks:=λz a=>W0 IM;have xB:30+(i:Int) ∉ ks:=λh=>by rcases Xt _ h with w|w<;>lia
  refine SF (YB (σ:=σ) (i:=i) (at_:=at_) (q:=q) hc (by exact PL ha) hq hN et e8 hs xB TK (by exact PL O9) hY) λa1 q1 j ss ws g1 g2 hj pf e1=> ?_
  refine Ld (ih (i:=i+1) (at_:=a1) (q:=q1) (Ks:=GR Ks j (30+(i:Int))) (ks:=ks++ [30+(i:Int)]) (vs:=vs++ [sd (15::ss) (ref (20+(j:Int))::ws)]) (b:=b+1) (by exact zsm ha g1) g2 (IM.trans hN) (SK hb) (by exact Tg cA) (λx hx=>by
   rcases ω.mp hx with w|w
   ·rcases Xt x w with w|w
    ·exact .inl (by lia)
    ·exact .inr w
   ·exact .inl (by exact C9 (ς.mp w) xq)) (by exact zqE hi) (by exact C9 ε<|C9 ε<|C9 TK rfl) (by refine C9 ε ?_;show ks.length+1+c<900;exact Tg O9)) λa2 q2 rows g3 g4 hl hr e2=> ?_
  rw [hY] at e2;refine (Lf a2 q2 ((j,ss,ws)::rows) (by lia) g4 (congrArg (· +1) hl) (λp h=>by rcases ν.mp h with w|w;exact w▸⟨hj,pf⟩;exact hr p w) (λn loc L=> ?_));refine DQ (e1 n loc L) λKK f1 k1=> ?_;have ll:=V8 (n:=σ.length) (Ks:=Ks) (hN▸et) (hN▸e8);refine DQ (e2 n _ (L.drop (r:=Dw cl at_ q::Dk ks vs::HX σ.length Ks) k1 rfl (ο (show Pq Ks+1≤(HX σ.length Ks).length+1+1 by lia)))) λI5 f2 L2=> ?_;refine (DM I5 ?_ L2);refine C9 (show IF i ((j,ss,ws)::rows)= [30+(i:Int)]++IF (i+1) rows from rfl)<|C9 (show K4 ((j,ss,ws)::rows)= [sd (15::ss) (ref (20+(j:Int))::ws)]++K4 rows from rfl)<|Dr (π _ _ _)<|Dr (π _ _ _) ?_
  refine M6 (r':=Dw cl a1 q1::Dk (ks++ [30+(i:Int)]) (vs++ [sd (15::ss) (ref (20+(j:Int))::ws)])::HX σ.length (GR Ks j (30+(i:Int)))) f1 ?_ f2;show (HX _ _).length+1+1=(HX _ _).length+1+1
  (exact C9 ll<|C9 (V8 (Ks:=GR Ks j (30+(i:Int))) (by rw [IM,hN];exact et) (by rw [IM,hN];exact e8))<|C9 (hY _ _) rfl)
end
end
section
mutual open A
variable{n m k i dp K j at_ N κ:Nat}{σ r:Store}{v x:D}{s:Nat}{l xs vs ws F8 vl:List D}{ss N7:List Nat}{ks cl:List Int}{a b q num:Int}{t w:V}{kl:List DO}{lv:List V}{key:DO}{loc:Di}{h:Hd}{d:D}{c1 c2:Dh}{G:HR}
theorem Lk(e:r[k]?=some (.fz (.nd h l))):G4 (σ++r) (.cell (σ.length+k))=some (h,l.map .d):=DB (HT.trans e) rfl
theorem eL{q:Nat}(e:r[k]?=some (.fz (.nd (.Dg q kl) vl)))(e1:HG x=some key)(e2:μ key.kind q=true)(e3:DU kl vl key=some v):E8 (σ++r) (.cell (σ.length+k)) (.d x)=some (.d v):=Qk (DB (Lk e) rfl) e1 e2 (En V.d e3)
theorem xR(e:r[k]?=some (.fz d))(e2:KB d=some l):FV (.cell (σ.length+k)) (σ++r)=some (l,σ++r):=DJ (DB (HT.trans e) rfl) (Ed e2)
structure Tj(kd:D)(κ:Nat)(num:Int)(K:List Int):Prop where
 s: ∃kl vl,kd= .nd (.Dg 0 kl) vl∧DU kl vl (.i num)=some (.nd .lst (K.map .int))
def FX(kd:D)(κ dd:Nat)(num c:Int):Prop:= ∀n σ r,dd≤n→r[κ]?=some (.fz kd)→(DZ n).call false 45 [.cell (σ.length+κ), .d (.int num)] (σ++r)=some (.d (.int c),σ++r)
theorem Ze: ∀{l:List Int},∃c,YM (l.map .int)=some c:=λ{l}=>by
 induction l with
 |nil=>exact (EF 0 rfl)
 |cons a l ih=>refine D3 ih λc e=> ?_;clear ih;exact (EF (a+c) (DB rfl (DB e rfl)))
theorem KW{kd:D}{dd:Nat}{K:List Int}(hk:Tj kd κ num K)(h: ∀a∈K,30≤a∨(a<30∧ ∃c,FX kd κ dd a c)): ∃c,FX kd κ (dd+1) num c:=by
 refine GD hk.s λkl vl Gx e=> ?_;subst Gx
 have one: ∀a∈K,∃c:Int,30≤a∧c=1∨a<30∧FX (.nd (.Dg 0 kl) vl) κ dd a c:=λa ha=>by
  rcases h a ha with w|⟨w,c,e⟩
  ·exact (EF 1 (.inl ⟨w,rfl⟩))
  ·exact (EF c (.inr ⟨w,e⟩))
 refine D3 (Ii one) λcs hcs=> ?_;refine D3 (Ze (l:=cs)) λc hc=> ?_;refine (EF c (λn σ r hn hr=> ?_));refine DQ (Ew 1 hn) λm Fi hm=> ?_;subst Fi;have fin: ∀σ,Fk σ 3 (.d (.nd .lst (cs.map .int)))=some (.d (.int c)):=λσ=>show DN (YM (cs.map .int)) (λn=>some (V.d (.int n)))=_ from DB hc rfl
 have sb:E8 (σ++r) (.cell (σ.length+κ)) (.d (.int num))=some (.d (.nd .lst (K.map .int))):=eL hr rfl rfl e;apply Gi rfl rfl
 fin2
 refine Hm (xs:=cs.map .int) (show DS _ K (cs.map D.int) from (hcs.imp λa c e=>e).mapR (T:=λa x=>_) D.int λa c e=> ?_);rcases e with ⟨w,rfl⟩|⟨w,e⟩
 ·have g:=gX (σ:=σ++r) (a:=a) (b:=((30:Nat):Int)) (decide_eq_true w)
  refine EL (DD:=σ++r) rfl FD ?_
  fin2
  exact Fu
 ·have g:=gX (σ:=σ++r) (a:=a) (b:=((30:Nat):Int)) (decide_eq_false (by exact Int.not_le.mpr w))
  have c:=e m σ r hm hr;refine EL (DD:=σ++r) rfl FD ?_
  fin2
 cell_ask ⟨fin⟩
 exact U3
theorem ao{K:List Int}:EA (F2 106 0 (Mine.Internal.nd (DZ (n+1)) (.mk 25 4 [DF 106,Dp 0])).ev ((GT (DZ (n+1)) []).map Nd.ev) loc) (K.map .int) σ=some ((K.map ref).map .d,σ):=by
 induction K with
 |nil=>rfl
 |cons a K ih=>
  refine Wh (v:= .d (ref a)) (EL (DD:=σ) rfl FD ?_) ih;exact tZ (Gj (Fg TQ) (Gj Fu OA)) cv mk2
def Rj(kd:D)(κ:Nat)(num par:Int):Prop:= ∃kl,KB kd=some kl∧ ∃ds:List D,∀G loc σ r,r[κ]?=some (.fz kd)→DE loc 83=some (.cell (σ.length+κ))→DE loc 103=some (.d (.int num))→
 EA (F2 106 0 (Mine.Internal.nd G (DF 106)).ev ((GT G [.mk 13 8 [DF 103, .mk 9 0 [DF 83,DF 106]]]).map Nd.ev) loc) kl (σ++r)=some ((D.int par::ds).map .d,σ++r)
theorem j7{kd:D}{K:List Int}{c:Int}{m:Store}(hk:Tj kd κ num K)(hm:(c1::m)[κ]?=some (.fz kd))(v6:FX kd κ dp num c)(hd:dp≤n+2)(h1:DE loc 83=some (.cell (σ.length+κ)))(h2:DE loc 103=some (.d (.int num))):
  (Mine.Internal.nd (DZ (n+2)) uZ).ex loc (σ++c1::m)=some (.go 0 (DR loc 68 (.cell (σ.length+(m.length+1)))) (σ++c1::(m++ [.lv (.Dg 1 ([7,3].map .s)) ([.nd .lst (K.map ref), .int c].map .d)]))):=by
 refine GD hk.s λkl vl Gx e=> ?_;subst Gx;have ct:=v6 (n+2) σ _ hd hm;have sb:E8 (σ++c1::m) (.cell (σ.length+κ)) (.d (.int num))=some (.d (.nd .lst (K.map .int))):=eL hm rfl rfl e;apply J'
 fin2
 exact ao
 cell_ask ⟨fU⟩
theorem ux{x:D}:Df false .tup [.d x, .cell (σ.length+(r.length+1))] (σ++c1::(r++ [.lv (.Dg 1 (ss.map .s)) (ws.map .d)]))=some (.d (.nd .tup [x,sd ss ws]),σ++c1::(r++ [.fz (sd ss ws)])):=by
 refine (show EI (HN (Ht FZ) _ _) (λds σ=>some (V.d (.nd .tup ds),σ))=_ from DJ (OQ (W9 aN rfl)) rfl).trans ?_
 (exact C9 nL rfl)
theorem tW{kd:D}{par:Int}{m:Store}(hm: ∀c,(c1::(m++ [c]))[κ]?=some (.fz kd))(hp:Rj kd κ num par)(hg:20<num)(hs:15 ∉ ss)(hl:ss.length=ws.length)(hb:ss.length<1000)(h1:DE loc 83=some (.cell (σ.length+κ)))(h2:DE loc 103=some (.d (.int num)))(h3:DE loc 68=some (.cell (σ.length+(m.length+1)))):
  (Mine.Internal.nd (DZ (n+2)) pX).ex loc (σ++c1::(m++ [.lv (.Dg 1 (ss.map .s)) (ws.map .d)]))=some (.go 0 loc (σ++c1::(m++ [.lv (.Dg 1 ((ss++ [15]).map .s)) ((ws++ [ref par]).map .d)]))):=by
 refine qv hp λkl hi ds hp=> ?_;have it:=xR (σ:=σ) (hm (.lv (.Dg 1 (ss.map .s)) (ws.map .d))) hi;have cp:=hp (DZ (n+2)) loc σ _ (hm (.lv (.Dg 1 (ss.map .s)) (ws.map .d))) h1 h2;have g:=λσ=>mF (σ:=σ) (a:=num) (b:=((20:Nat):Int)) (decide_eq_true hg)
 cell_ask ⟨g,js hs hl hb⟩
theorem mB{m:Store}(hg: ¬20<num)(h2:DE loc 103=some (.d (.int num))):(Mine.Internal.nd (DZ (n+2)) pX).ex loc σ=some (.go 0 loc σ):=by
 have g:=λσ=>mF (σ:=σ) (a:=num) (b:=((20:Nat):Int)) (decide_eq_false hg)
 cell_ask ⟨g⟩
theorem jc{q q':Int}{at':Nat}{m:Store}(ht:(DZ (n+2)).call false 43 [.cell (σ.length+0), .cell (σ.length+((Dk ks vs::m).length+1)), .d (.sym 14)] (σ++Dw cl at_ q::((Dk ks vs::m)++ [.lv (.Dg 1 (ss.map .s)) (ws.map .d)]))=some (.cell (σ.length+((Dk ks vs::m).length+1)),σ++Dw cl at' q'::((Dk ks vs::m)++ [.lv (.Dg 1 (N7.map .s)) (F8.map .d)])))
  (Xt:num ∉ ks) (TK:ks.length=vs.length) (O9:ks.length<900) (h0:DE loc 159=some (.cell (σ.length+0))) (h1:DE loc 144=some (.cell (σ.length+1))) (h2:DE loc 103=some (.d (.int num))) (h3:DE loc 68=some (.cell (σ.length+((Dk ks vs::m).length+1)))):
  (Mine.Internal.nd (DZ (n+2)) t7).ex loc (σ++Dw cl at_ q::((Dk ks vs::m)++ [.lv (.Dg 1 (ss.map .s)) (ws.map .d)]))=some (.go 0 loc (σ++(Dw cl at' q'::Dk (ks++ [num]) (vs++ [sd N7 F8])::m++ [.fz (sd N7 F8)]))):=by
 have bb:=Ep (key:= .i num) (q:=0) (j:=(ks.map DO.i).length) (by exact C9 (ι _)<|IL O9 rfl) rfl;apply HE
 cell_ask ⟨ux,El⟩
 show σ++(Dw cl at' q'::((Dk ks vs::m)++ [.fz (sd N7 F8)])).set 1 (.lv (.Dg 0 (D2 (ks.map .i) (.i num))) (Dz (ks.map .i) ((vs.map GP).map .d) (.i num) (.d (GP (sd N7 F8)))))=_;exact C9 (LO Xt TK) rfl
inductive wJ(num par c:Int)(K:List Int):List Nat→List D→Prop
 |top {ss:List Nat} {ws:List D}: ¬20<num→Ty 14 [7,3] [.nd .lst (K.map ref), .int c] ss ws→wJ num par c K ss ws
 |sub {ss:List Nat} {ws:List D}:20<num→Ty 14 [7,3,15] [.nd .lst (K.map ref), .int c,ref par] ss ws→wJ num par c K ss ws
theorem ZG{kd:D}{K:List Int}{par c q:Int}{N:Nat}{m:Store}(hc:cl.length<64)(ha:at_<900)(hq:0≤q)(Xt:num ∉ ks)(TK:ks.length=vs.length)(O9:ks.length<900)(hk:Tj kd κ num K)(hm: ∀c1 c2 m',(c1::c2::(m++m'))[κ]?=some (.fz kd))(v6:FX kd κ dp num c)(hp:20<num→Rj kd κ num par):
  ∃(at':Nat) (q':Int) (ss:List Nat) (ws:List D),at'≤at_+1∧0≤q'∧wJ num par c K ss ws∧ ∀n loc,dp≤n+2→Za loc σ.length N (.cell (σ.length+κ))→ ∃DG,(Mine.Internal.nd (DZ (n+2)) lU).ex (DR loc 103 (.d (.int num))) (σ++Dw cl at_ q::Dk ks vs::m)=some (.go 0 DG (σ++(Dw cl at' q'::Dk (ks++ [num]) (vs++ [sd ss ws])::m++ [.fz (sd ss ws)])))∧
   ∀x v,DE loc x=some v→x=159∨x=144∨x=101∨x=83→DE DG x=some v:=by
 have m0:(Dw cl at_ q::Dk ks vs::m)[κ]?=some (.fz kd):=by have:=hm (Dw cl at_ q) (Dk ks vs) [];rwa [υ] at this
 have fin: ∀(loc:Di) x v,DE loc x=some v→x=159∨x=144∨x=101∨x=83→DE (DR (DR loc 103 (.d (.int num))) 68 (.cell (σ.length+((Dk ks vs::m).length+1)))) x=some v:=λloc x v h hx=>by
  rcases hx with rfl|rfl|rfl|rfl<;>exact DH rfl (DH rfl h)
 by_cases hg:20<num
 ·refine GY (NT (σ:=σ) (at_:=at_) (r:=Dk ks vs::m) (s:=14) (ss:= [7,3,15]) (ws:= [.nd .lst (K.map ref), .int c,ref par]) (q:=q) hc (by exact IL ha rfl) hq (.inr rfl) (by decide) rfl (by decide)) λa1 q1 ss ws g1 g2 ty e1=> ?_
  refine (FQ a1 q1 ss ws g1 g2 (.sub hg ty) (λn loc hd L=>(DM _ (Rg (x_go (j7 hk m0 v6 hd (DH rfl L.k) Da) (x_go (tW (ss:= [7,3]) (ws:= [.nd .lst (K.map ref), .int c]) (λc=>hm _ _ [c]) (hp hg) hg (by decide) rfl (by decide) (DH rfl (DH rfl L.k)) (DH rfl Da) Da) (x_go (jc (e1 n) Xt TK O9 (DH rfl (DH rfl L.v)) (DH rfl (DH rfl L.t)) (DH rfl Da) Da) MZ)))) (fin loc))))
 ·refine GY (NT (σ:=σ) (at_:=at_) (r:=Dk ks vs::m) (s:=14) (ss:= [7,3]) (ws:= [.nd .lst (K.map ref), .int c]) (q:=q) hc (by exact IL ha rfl) hq (.inr rfl) (by decide) rfl (by decide)) λa1 q1 ss ws g1 g2 ty e1=> ?_
  refine (FQ a1 q1 ss ws g1 g2 (.top hg ty) (λn loc hd L=>(DM _ (Rg (x_go (j7 hk m0 v6 hd (DH rfl L.k) Da) (x_go (mB (m:=m) hg (DH rfl Da)) (x_go (jc (e1 n) Xt TK O9 (DH rfl (DH rfl L.v)) (DH rfl (DH rfl L.t)) (DH rfl Da) Da) MZ)))) (fin loc))))
end
end
section
mutual open A
variable{n k i at_ κ:Nat}{σ r:Store}{x:D}{s:Nat}{l vl:List D}{K:List Int}{a b q num par:Int}{w:V}{kl:List DO}{lv fl:List V}{loc:Di}{h:Hd}{B:Bool}{d:D}{c1 c2:Dh}{G:HR}
abbrev Mc(K:List Int):D:= .nd .lst (K.map .int)
def W5:List (List Int)→D
 | [A]=> .nd (.Dg 0 [.i 20]) [Mc A]
 | [A,B]=> .nd (.Dg 0 [.i 20, .i 21]) [Mc A,Mc B]
 | [A,B,C]=> .nd (.Dg 0 [.i 20, .i 21, .i 22]) [Mc A,Mc B,Mc C]
 |_=> .none
def n6(n:Nat):List (List Int)→Store
 | [A]=> [.fz (Mc A), .lv .tup [.d (.int 20), .cell (n+2)], .lv .lst [.cell (n+3)], .fz (W5 [A])]
 | [A,B]=> [.fz (Mc A), .lv .tup [.d (.int 20), .cell (n+2)], .fz (Mc B), .lv .tup [.d (.int 21), .cell (n+4)], .lv .lst [.cell (n+3), .cell (n+5)], .fz (W5 [A,B])]
 | [A,B,C]=> [.fz (Mc A), .lv .tup [.d (.int 20), .cell (n+2)], .fz (Mc B), .lv .tup [.d (.int 21), .cell (n+4)], .fz (Mc C), .lv .tup [.d (.int 22), .cell (n+6)], .lv .lst [.cell (n+3), .cell (n+5), .cell (n+7)], .fz (W5 [A,B,C])]
 |_=> []
theorem QN:HN (Ht 4) [] σ=some ([],σ):=rfl
theorem Ma{ys:List V}{ds fl:List D}{DD:Store}(e:r[k]?=some (.lv h (fl.map .d)))(h2:HN (Ht 4) ys (σ++r.set k (.fz (.nd h fl)))=some (ds,DD)):HN (Ht 4) (.cell (σ.length+k)::ys) (σ++r)=some (.nd h fl::ds,DD):=
 DJ (show Ht 4 (.cell (σ.length+k)) (σ++r)=some (.nd h fl,σ++r.set k (.fz (.nd h fl))) from DB (HT.trans e) (DJ (Qz (Ht 3) λO O=>rfl) (congrArg (λz=>some (D.nd h fl,z)) (by (exact C9 (AI _ _ (Ζ _ _))<|C9 (Ω _ _) rfl))))) (DJ h2 rfl)
theorem cQ{cs:List V}{ds:List D}{r':Store}(e:r[k]?=some (.lv (.Dg 0 kl) cs))(h:HN (Ht 4) cs (σ++r)=some (ds,σ++r')):FV (.cell (σ.length+k)) (σ++r)=some (kl.map DO.d,σ++r'.set k (.fz (.nd (.Dg 0 kl) ds))):=
 DJ (DB (HT.trans e) (DJ h (congrArg (λz=>some (D.nd (.Dg 0 kl) ds,z)) (by (exact C9 (AI _ _ (Ζ _ _))<|C9 (Ω _ _) rfl))))) rfl
theorem Lx:(K.map D.int).map V.d=K.map λa=>V.d (.int a):=by exact C9 Δ rfl
theorem iK{A:List Int}:FV (.cell (σ.length+5)) (σ++c1::c2::HX σ.length [A])=some ([.int 20],σ++c1::c2::n6 σ.length [A]):=by
 refine (cQ (k:=5) (r':=(c1::c2::HX σ.length [A]).set 2 (.fz (Mc A))) (cs:= [.cell (σ.length+2)]) (ds:= [Mc A]) rfl (Ma (fl:=A.map .int) ?_ QN)).trans rfl;exact C9 Lx rfl
theorem ag{A B:List Int}:FV (.cell (σ.length+7)) (σ++c1::c2::HX σ.length [A,B])=some ([.int 20, .int 21],σ++c1::c2::n6 σ.length [A,B]):=by
 refine (cQ (k:=7) (r':=((c1::c2::HX σ.length [A,B]).set 2 (.fz (Mc A))).set 4 (.fz (Mc B))) (cs:= [.cell (σ.length+2), .cell (σ.length+4)]) (ds:= [Mc A,Mc B]) rfl (Ma (fl:=A.map .int) ?_ (Ma (fl:=B.map .int) ?_ QN))).trans rfl
 ·exact C9 Lx rfl
 ·exact C9 Lx rfl
theorem RZ{A B C:List Int}:FV (.cell (σ.length+9)) (σ++c1::c2::HX σ.length [A,B,C])=some ([.int 20, .int 21, .int 22],σ++c1::c2::n6 σ.length [A,B,C]):=by
 refine (cQ (k:=9) (r':=(((c1::c2::HX σ.length [A,B,C]).set 2 (.fz (Mc A))).set 4 (.fz (Mc B))).set 6 (.fz (Mc C))) (cs:= [.cell (σ.length+2), .cell (σ.length+4), .cell (σ.length+6)]) (ds:= [Mc A,Mc B,Mc C]) rfl (Ma (fl:=A.map .int) ?_ (Ma (fl:=B.map .int) ?_ (Ma (fl:=C.map .int) ?_ QN)))).trans rfl
 ·exact C9 Lx rfl
 ·exact C9 Lx rfl
 ·exact C9 Lx rfl
theorem WR(h: ∀x∈K,x≠a):La (.int a) (K.map .int)=false:=by
 induction K with
 |nil=>rfl
 |cons b K ih=>
  show (Dj b a||La (.int a) (K.map .int))=false;refine C9 (ih λx hx=>h x (.tail _ hx)) ?_;cases q:Dj b a with
  |false=>rfl
  |true=>exact absurd (EP q) (h b (.head _))
theorem JH(h:a∈K):La (.int a) (K.map .int)=true:=by
 induction K with
 |nil=>exact absurd h Γ
 |cons b K ih=>
  show (Dj b a||La (.int a) (K.map .int))=true;rcases ν.mp h with w|w
  ·exact C9 w<|C9 (Gg _) rfl
  ·(exact C9 (ih w)<|C9 (Be _) rfl)
theorem XX:FG σ 8 (.d (.int a)) (.d (Mc K))=some (La (.int a) (K.map .int)):=by
 have ad: ∀l:List D,Mr (l.map .d)=some l:=λl=>by
  induction l with
  |nil=>rfl
  |cons d l ih=>exact DB rfl (DB ih rfl)
 have at_:atoms (K.map .int)=true:=by
  induction K with
  |nil=>rfl
  |cons b K ih=>exact ih
 show DN (Mr ((K.map .int).map .d)) (λl=>GA (atom (.int a)&&atoms l) (some (La (.int a) l)))=_;exact DB (ad _) (by exact C9 at_ rfl)
theorem OX{kd:D}{kl:List Int}{l:List Int}{f:Int→Bool}(hi:KB kd=some (kl.map .int))(hk: ∀a∈kl,∃K,Tj kd κ a K∧La (.int num) (K.map .int)=f a)(hf:kl.filter f=par::l):Rj kd κ num par:=by
 refine (r7 _ hi (l.map .int) (λG loc σ r hr l1 l2=> ?_))
 have e:((kl.map D.int).filterMap λd=>match d with| .int a=>cond (f a) (some (V.d d)) none|_=>none)=(par::l).map (λa=>V.d (.int a)):=by
  refine Dr hf ?_;clear hf hk hi
  induction kl with
  |nil=>rfl
  |cons a kl ih=>
   refine C9 Χ<|C9 Al ?_
   cases h:f a with
   |true=>exact C9 (List.filterMap_cons_some (b:=V.d (.int a)) (by show cond (f a) _ _=_;rw [h];rfl))<|congrArg (_:: ·) ih
   |false=>exact C9 (List.filterMap_cons_none (by show cond (f a) _ _=_;rw [h];rfl)) ih
 refine (KV (g:=λd=>match d with| .int a=>cond (f a) (some (V.d d)) none|_=>none) λd hd=> ?_).trans (congrArg (λz=>some (z,σ++r)) (e.trans (by exact C9 Χ<|C9 Χ<|C9 Δ rfl)));refine DQ (AD.mp hd) λa ha Gx=> ?_;subst Gx;refine DQ (hk a ha) λK hK hm=> ?_;refine GD hK.s λOj vl Gx e3=> ?_;subst Gx;have sb:E8 (σ++r) (.cell (σ.length+κ)) (.d (.int a))=some (.d (Mc K)):=eL hr rfl rfl e3;show _=some (cond (f a) (some (V.d (.int a))) none,σ++r);cases h:f a with
 |true=>
  rw [h] at hm;refine EL (DD:=σ++r) rfl ?_ ?_
  cell_ask ⟨XX⟩
 |false=>
  rw [h] at hm;refine Mj rfl ?_
  cell_ask ⟨XX⟩
end
end
section
mutual open A
variable{n m k at_ N κ:Nat}{σ r:Store}{v x:D}{l vs ws:List D}{ss:List Nat}{ks cl K:List Int}{a b q num par:Int}{w:V}{kl:List DO}{loc:Di}{h:Hd}{d:D}{c1 c2:Dh}{Ks:List (List Int)}
abbrev Dx:=Int×List Int×Int
structure qX(kd:D)(κ:Nat)(p:Dx):Prop where
 k:Tj kd κ p.1 p.2.1
 c: ∃c,FX kd κ 4 p.1 c
 p:20<p.1→Rj kd κ p.1 p.2.2
def jQ(p:Dx)(v:D):Prop:= ∃c ss ws,wJ p.1 p.2.2 c p.2.1 ss ws∧v=sd ss ws
theorem Vi{kd:D}{m:Store}(hc:cl.length<64)(hm: ∀c1 c2 m',(c1::c2::(m++m'))[κ]?=some (.fz kd))(hκ:κ<m.length+2)(h2:0<m.length): ∀{spec:List Dx} {at_:Nat} {q:Int} {ks:List Int} {vs:List D},(∀p∈spec,qX kd κ p)→at_+spec.length<900→0≤q→(ks++spec.map (·.1)).Nodup→ks.length=vs.length→ks.length+spec.length<900→
  ∃(at':Nat) (q':Int) (nv:List D),at'≤at_+spec.length∧0≤q'∧DS jQ spec nv∧ ∀n loc,4≤n+2→Za loc σ.length N (.cell (σ.length+κ))→
   ∃DG,Ek (Mine.Internal.nd (DZ (n+2)) lU).ex 103 (spec.map λp=> .int p.1) loc (σ++Dw cl at_ q::Dk ks vs::m)=some (.go 0 DG (σ++Dw cl at' q'::Dk (ks++spec.map (·.1)) (vs++nv)::m))∧Za DG σ.length N (.cell (σ.length+κ)):=λ{spec}=>by
 induction spec with
 |nil=>
  intro at_ q ks vs _ _ hq _ _ _
  exact (Ea at_ q ([]) (Ι _) hq .nil (λn loc O L=>(DM loc (by
   show _=some (HW.go 0 loc (σ++Dw cl at_ q::Dk (ks++ []) (vs++ [])::m));exact C9 (υ _)<|C9 (υ _) rfl) L)))
 |cons p spec ih=>
  intro at_ q ks vs hs ha hq Fl TK O9;rw [ξ] at ha O9;obtain ⟨hK,⟨c,hC⟩,hP⟩:=hs p (.head _);rw [Χ] at Fl;have hn:p.1 ∉ ks:=λz=>by rw [AE] at Fl;exact Fl.2.2 p.1 z p.1 (.head _) rfl
  refine GY (ZG (σ:=σ) (N:=N) (at_:=at_) (q:=q) (m:=m) hc (by exact PL ha) hq hn TK (by exact PL O9) hK hm hC hP) λa1 q1 ss ws g1 g2 nf e1=> ?_;refine Do (ih (at_:=a1) (q:=q1) (ks:=ks++ [p.1]) (vs:=vs++ [sd ss ws]) (λp h=>hs p (.tail _ h)) (by exact mY ha g1) g2 (by exact C9 (π _ _ _) Fl) (by exact C9 ε<|C9 ε<|C9 TK rfl) (by refine C9 ε ?_;show ks.length+1+_<_;exact Tg O9)) λa2 q2 nv g3 g4 hv e2=> ?_;refine (Ea a2 q2 (sd ss ws::nv) (by exact C9 ξ<|zsl g1 g3) g4 (.cons (QL c ss ws nf rfl) hv) (λn loc hd L=> ?_));refine DQ (e1 n loc hd L) λKK f1 k1=> ?_;refine DQ (e2 n _ hd (L.drop (r:=Dw cl at_ q::Dk ks vs::m) k1 (ο (show 2≤m.length+1+1 by exact ψ _ _)) (ο (show κ+1≤m.length+1+1 by exact hκ)))) λI5 f2 L2=> ?_;refine (DM I5 ?_ L2);refine C9 Χ<|C9 Χ<|C9 (AJ ks _ _)<|C9 (AJ vs _ _) ?_
  exact M6 (r':=Dw cl a1 q1::Dk (ks++ [p.1]) (vs++ [sd ss ws])::m) f1 rfl f2
inductive Ka:List (List Int)→List Dx→Prop
 |one {P0:List Int}:(∀a∈P0,30≤a)→Ka [P0] [(20,P0,0)]
 |two {P0 P1:List Int}:(∀a∈P0,30≤a)→(∀a∈P1,30≤a)→Ka [21::P0,P1] [(20,21::P0,0),(21,P1,20)]
 |flat {P0 P1 P2:List Int}:(∀a∈P0,30≤a)→(∀a∈P1,30≤a)→(∀a∈P2,30≤a)→Ka [21::22::P0,P1,P2] [(20,21::22::P0,0),(21,P1,20),(22,P2,20)]
 |deep {P0 P1 P2:List Int}:(∀a∈P0,30≤a)→(∀a∈P1,30≤a)→(∀a∈P2,30≤a)→Ka [21::P0,22::P1,P2] [(20,21::P0,0),(21,22::P1,20),(22,P2,21)]
theorem JQ{kd:D}{K:List Int}(d:Nat)(hk:Tj kd κ num K)(h: ∀a∈K,30≤a): ∃c,FX kd κ (d+1) num c:=KW (dd:=d) hk λa ha=> .inl (h a ha)
theorem FX.up{kd:D}{d d':Nat}{num c:Int}(h:FX kd κ d num c)(e:d≤d'):FX kd κ d' num c:=λn σ r hn hr=>h n σ r (by exact Υ e hn) hr
theorem Qa{kd:D}{K:List Int}{e:Int}{d:Nat}(hk:Tj kd κ num K)(he:e<30)(hc: ∃c,FX kd κ d e c)(h: ∀a∈K,a=e∨30≤a): ∃c,FX kd κ (d+1) num c:=KW (dd:=d) hk λa ha=>by
 rcases h a ha with w|w
 ·exact .inr (w▸⟨he,hc⟩)
 ·exact .inl w
theorem hD{kd:D}{d:Nat}(h: ∃c,FX kd κ d num c)(e:d≤4): ∃c,FX kd κ 4 num c:=D3 h λc h=>⟨c,h.up e⟩
theorem KP{P:List Int}(h: ∀a∈P,30≤a)(hn:num<30):La (.int num) (P.map .int)=false:=WR λx hx e=>by have:=h x hx;lia
theorem WQ{P:List Int}(h: ∀a∈P,30≤a)(hn:num<30)(hb:b≠num):La (.int num) ((b::P).map .int)=false:=WR λx hx e=>by
 rcases ν.mp hx with w|w
 ·exact hb (w▸e)
 ·have:=h x w;lia
theorem V0{kd:D}{par:Int}{z:Nat}:20<(20:Int)→Rj kd z 20 par:=λh=>absurd h (by decide)
theorem iT{spec:List Dx}(T:Ka Ks spec): ∀p∈spec,qX (W5 Ks) (Pq Ks) p:=by
 cases T with
 | @one P0 h0=>
  have k0:Tj (W5 [P0]) 5 20 P0:=⟨_,_,rfl,rfl⟩;exact F1 ⟨k0,hD (JQ 0 k0 h0) (by decide),V0⟩ Us
 | @two P0 P1 h0 h1=>
  have k0:Tj (W5 [21::P0,P1]) 7 20 (21::P0):=⟨_,_,rfl,rfl⟩;have k1:Tj (W5 [21::P0,P1]) 7 21 P1:=⟨_,_,rfl,rfl⟩;have c1:=JQ 0 k1 h1;exact F1 ⟨k0,hD (Qa k0 (by decide) c1 λa ha=>(ν.mp ha).imp id (h0 a)) (by decide),V0⟩ (F1 ⟨k1,hD c1 (by decide),λO=>OX (kl:= [20,21]) (l:= []) (f:=λa=>decide (a=20)) rfl (F1 ⟨_,k0,JH (.head _)⟩ (F1 ⟨_,k1,KP h1 (of_decide_eq_true rfl)⟩ Us)) rfl⟩ Us)
 | @flat P0 P1 P2 h0 h1 h2=>
  have k0:Tj (W5 [21::22::P0,P1,P2]) 9 20 (21::22::P0):=⟨_,_,rfl,rfl⟩;have k1:Tj (W5 [21::22::P0,P1,P2]) 9 21 P1:=⟨_,_,rfl,rfl⟩;have k2:Tj (W5 [21::22::P0,P1,P2]) 9 22 P2:=⟨_,_,rfl,rfl⟩;have c1:=JQ 0 k1 h1;have c2:=JQ 0 k2 h2
  exact F1 ⟨k0,hD (KW (dd:=1) k0 (F1 (.inr ⟨by decide,c1⟩) (F1 (.inr ⟨by decide,c2⟩) λa ha=> .inl (h0 a ha)))) (by decide),V0⟩
   (F1 ⟨k1,hD c1 (by decide),λO=>OX (kl:= [20,21,22]) (l:= []) (f:=λa=>decide (a=20)) rfl (F1 ⟨_,k0,JH (.head _)⟩ (F1 ⟨_,k1,KP h1 (of_decide_eq_true rfl)⟩ (F1 ⟨_,k2,KP h2 (of_decide_eq_true rfl)⟩ Us))) rfl⟩
   (F1 ⟨k2,hD c2 (by decide),λO=>OX (kl:= [20,21,22]) (l:= []) (f:=λa=>decide (a=20)) rfl (F1 ⟨_,k0,JH (.tail _ (.head _))⟩ (F1 ⟨_,k1,KP h1 (of_decide_eq_true rfl)⟩ (F1 ⟨_,k2,KP h2 (of_decide_eq_true rfl)⟩ Us))) rfl⟩ Us))
 | @deep P0 P1 P2 h0 h1 h2=>
  have k0:Tj (W5 [21::P0,22::P1,P2]) 9 20 (21::P0):=⟨_,_,rfl,rfl⟩;have k1:Tj (W5 [21::P0,22::P1,P2]) 9 21 (22::P1):=⟨_,_,rfl,rfl⟩;have k2:Tj (W5 [21::P0,22::P1,P2]) 9 22 P2:=⟨_,_,rfl,rfl⟩;have c2:=JQ 0 k2 h2;have c1:=Qa k1 (by decide) c2 λa ha=>(ν.mp ha).imp id (h1 a)
  exact F1 ⟨k0,hD (Qa k0 (by decide) c1 λa ha=>(ν.mp ha).imp id (h0 a)) (by decide),V0⟩
   (F1 ⟨k1,hD c1 (by decide),λO=>OX (kl:= [20,21,22]) (l:= []) (f:=λa=>decide (a=20)) rfl (F1 ⟨_,k0,JH (.head _)⟩ (F1 ⟨_,k1,WQ h1 (of_decide_eq_true rfl) (of_decide_eq_true rfl)⟩ (F1 ⟨_,k2,KP h2 (of_decide_eq_true rfl)⟩ Us))) rfl⟩
   (F1 ⟨k2,hD c2 (by decide),λO=>OX (kl:= [20,21,22]) (l:= []) (f:=λa=>decide (a=21)) rfl (F1 ⟨_,k0,WQ h0 (of_decide_eq_true rfl) (of_decide_eq_true rfl)⟩ (F1 ⟨_,k1,JH (.head _)⟩ (F1 ⟨_,k2,KP h2 (of_decide_eq_true rfl)⟩ Us))) rfl⟩ Us))
end
end
section
mutual open A
variable{n k i j at_ N:Nat}{σ r:Store}{vs nv:List D}{ks cl A B C:List Int}{a q:Int}{w:V}{loc:Di}{h:Hd}{c1 c2:Dh}{Ks:List (List Int)}{rows:List F0}{spec:List Dx}
def pg(j:Nat):Nat→List F0→List Int
 |_, []=> []
 |i,p::r=>if p.1=j then (30+(i:Int))::pg j (i+1) r else pg j (i+1) r
theorem HS: ∀{i:Nat},∀a∈pg j i rows,30≤a:=by
 induction rows with
 |nil=>intro i a h;exact absurd h Γ
 |cons p r ih=>
  intro i a h;have h:a∈(if p.1=j then (30+(i:Int))::pg j (i+1) r else pg j (i+1) r):=h
  by_cases e:p.1=j
  ·rw [if_pos e] at h
   rcases ν.mp h with w|w
   ·lia
   ·exact ih a w
  ·rw [if_neg e] at h;exact ih a h
theorem kC: ∀{i:Nat} {A:List Int},(∀p∈rows,p.1<1)→Ik i rows [A]= [A++pg 0 i rows]:=by
 induction rows with
 |nil=>intro i A _;show [A]= [A++ []];(exact C9 (υ _) rfl)
 |cons p r ih=>
  intro i A h;have hp:=h p (.head _);have e:p.1=0:=by exact wU hp
  show Ik (i+1) r (GR [A] p.1 _)= [A++(if p.1=0 then _ else _)];refine C9 (if_pos e)<|C9 e<|C9 (AJ _ _ _) ?_
  exact ih λp h'=>h p (.tail _ h')
theorem jO: ∀{i:Nat} {A B:List Int},(∀p∈rows,p.1<2)→Ik i rows [A,B]= [A++pg 0 i rows,B++pg 1 i rows]:=by
 induction rows with
 |nil=>intro i A B _;show [A,B]= [A++ [],B++ []];(exact C9 (υ _)<|C9 (υ _) rfl)
 |cons p r ih=>
  intro i A B h;have hp:=h p (.head _);have ih:=λ{A B}=>ih (i:=i+1) (A:=A) (B:=B) λp h'=>h p (.tail _ h');show Ik (i+1) r (GR [A,B] p.1 _)= [A++(if p.1=0 then _ else _),B++(if p.1=1 then _ else _)];rcases (by exact zqk hp:p.1=0∨p.1=1) with e|e
  ·exact C9 (if_pos e)<|C9 (if_neg (by exact jS e rfl))<|C9 e<|C9 (AJ _ _ _) ih
  ·exact C9 (if_neg (by exact jS e rfl))<|C9 (if_pos e)<|C9 e<|C9 (AJ B _ _) ih
theorem XD: ∀{i:Nat} {A B C:List Int},(∀p∈rows,p.1<3)→Ik i rows [A,B,C]= [A++pg 0 i rows,B++pg 1 i rows,C++pg 2 i rows]:=by
 induction rows with
 |nil=>intro i A B C _;show [A,B,C]= [A++ [],B++ [],C++ []];(exact C9 (υ _)<|C9 (υ _)<|C9 (υ _) rfl)
 |cons p r ih=>
  intro i A B C h;have hp:=h p (.head _);have ih:=λ{A B C}=>ih (i:=i+1) (A:=A) (B:=B) (C:=C) λp h'=>h p (.tail _ h');show Ik (i+1) r (GR [A,B,C] p.1 _)= [A++(if p.1=0 then _ else _),B++(if p.1=1 then _ else _),C++(if p.1=2 then _ else _)];rcases (by lia:p.1=0∨p.1=1∨p.1=2) with e|e|e
  ·exact C9 (if_pos e)<|C9 (if_neg (by exact jS e rfl))<|C9 (if_neg (by exact jS e rfl))<|C9 e<|C9 (AJ _ _ _) ih
  ·exact C9 (if_neg (by exact jS e rfl))<|C9 (if_pos e)<|C9 (if_neg (by exact jS e rfl))<|C9 e<|C9 (AJ B _ _) ih
  ·exact C9 (if_neg (by exact jS e rfl))<|C9 (if_neg (by exact jS e rfl))<|C9 (if_pos e)<|C9 e<|C9 (AJ C _ _) ih
theorem gC(T:Ky Ks)(hr: ∀p∈rows,p.1<Ks.length): ∃spec,Ka (Ik 0 rows Ks) spec:=by
 cases T with
 |one=>exact C9 (kC hr)<|(EF _ (.one HS))
 |two=>exact C9 (jO hr)<|(EF _ (.two HS HS))
 |flat=>exact C9 (XD hr)<|(EF _ (.flat HS HS HS))
 |deep=>exact C9 (XD hr)<|(EF _ (.deep HS HS HS))
theorem bO(hc:cl.length<64)(T:Ka Ks spec)(ha:at_<800)(hq:0≤q)(Fl:(ks++spec.map (·.1)).Nodup)(TK:ks.length=vs.length)(O9:ks.length<800):
  ∃(at':Nat) (q':Int) (nv:List D) (m':Store),at'≤at_+3∧0≤q'∧DS jQ spec nv∧ ∀n loc,4≤n+2→Za loc σ.length N (.cell (σ.length+Pq Ks))→
   ∃DG,(Mine.Internal.nd (DZ (n+2)) vI).ex loc (σ++Dw cl at_ q::Dk ks vs::HX σ.length Ks)=some (.go 0 DG (σ++Dw cl at' q'::Dk (ks++spec.map (·.1)) (vs++nv)::m'))∧Za DG σ.length N (.cell (σ.length+Pq Ks)):=by
 have ok:=iT T
 suffices hx: ∃(keys:List D) (m':Store),(∀c1 c2,FV (.cell (σ.length+Pq Ks)) (σ++c1::c2::HX σ.length Ks)=some (keys,σ++c1::c2::m'))∧keys=spec.map (λp=> .int p.1)∧(∀c1 c2 m2,(c1::c2::(m'++m2))[Pq Ks]?=some (.fz (W5 Ks)))∧Pq Ks<m'.length+2∧0<m'.length∧spec.length≤3 by
  refine ZH hx λkeys m' h1 h2 h3 h4 h5 h6=> ?_;clear hx;refine Do (Vi (σ:=σ) (N:=N) (at_:=at_) (q:=q) hc h3 h4 h5 ok (by exact zrx ha h6 rfl) hq Fl TK (by exact zrx O9 h6 rfl)) λa1 q1 nv g1 g2 hv e=> ?_;refine (FQ a1 q1 nv m' (by lia) g2 hv (λn loc hd L=> ?_));refine DQ (e n loc hd L) λDG e2 L2=> ?_;exact (DM DG (Ml (Pn (Fg L.k) (h1 _ _)) (h2▸e2)) L2)
 cases T with
 |one=>exact (ID _ _ (λO O=>iK) rfl (λO O O=>rfl) (show 5<4+2 by exact AF _) (show 0<4 by exact AB _) (show 1≤3 by exact AB _))
 |two=>exact (ID _ _ (λO O=>ag) rfl (λO O O=>rfl) (show 7<6+2 by exact AF _) (show 0<6 by exact AB _) (show 2≤3 by exact Ac _))
 |flat=>exact (ID _ _ (λO O=>RZ) rfl (λO O O=>rfl) (show 9<8+2 by exact AF _) (show 0<8 by exact AB _) (show 3≤3 by exact Ι _))
 |deep=>exact (ID _ _ (λO O=>RZ) rfl (λO O O=>rfl) (show 9<8+2 by exact AF _) (show 0<8 by exact AB _) (show 3≤3 by exact Ι _))
end
end
section
mutual open A
variable{n m k i j at_:Nat}{σ r:Store}{v x:D}{vs uv:List D}{ks cl us:List Int}{a q:Int}{kl:List DO}{lv:List V}{key:DO}{loc:Di}{d:D}{c1:Dh}
abbrev Ez:D:=sd [14,12] [ref 20,ref 43]
abbrev Hc:D:=sd [9] [.int 1]
def Hv:Nat→D
 |0=>Ez
 |1=>sd [10,15] [HH,ref 20]
 |2=> .nd .lst [.int 5]
 |_=>sd [28] [ref 40]
theorem gH:(nd (DZ (n+2)) uR).ex loc σ=some (.go 0 (DR loc 127 (.d Ez)) σ):=by
 apply J'
 fin2
theorem dD: ∀{ks:List Int} {vs:List D} {uv:List D},us.length=uv.length→ks.length=vs.length→(ks++us).Nodup→U5 (us.map .i) (ks.map .i)=(ks++us).map .i∧Os V.d (us.map .i) (uv.map GP) (ks.map .i) ((vs.map GP).map V.d)=((vs++uv).map GP).map V.d:=by
 induction us with
 |nil=>intro ks vs uv h1 _ _;cases uv with|nil=>exact C9 (υ _)<|C9 (υ _)<|⟨rfl,rfl⟩|cons=>exact nomatch h1
 |cons a us ih=>
  intro ks vs uv h1 h2 Fl;cases uv with
  |nil=>exact nomatch h1
  |cons x uv=>
   have hn:a ∉ ks:=λz=>by rw [AE] at Fl;exact Fl.2.2 a z a (.head _) rfl
   have i:=ih (ks:=ks++ [a]) (vs:=vs++ [x]) (uv:=uv) (AK.inj h1) (by exact C9 ε<|C9 ε<|C9 h2 rfl) (by exact C9 (π _ _ _) Fl);have e1:D2 (ks.map .i) (.i a)=(ks++ [a]).map .i:=by exact C9 (EN (Li hn))<|C9 χ rfl
   have e2:Dz (ks.map .i) ((vs.map GP).map V.d) (.i a) (V.d (GP x))=((vs++ [x]).map GP).map V.d:=by exact C9 (Eg (Li hn) (by rw [ι,ι,ι];exact h2))<|C9 χ<|C9 χ rfl
   show U5 (us.map .i) (D2 (ks.map .i) (.i a))=_∧Os V.d (us.map .i) (uv.map GP) (D2 (ks.map .i) (.i a)) (Dz (ks.map .i) ((vs.map GP).map V.d) (.i a) (V.d (GP x)))=_;refine C9 e1<|C9 e2<|C9 (show ks++a::us=ks++ [a]++us from AJ ..)<|C9 (show vs++x::uv=vs++ [x]++uv from AJ ..) ?_
   exact i
theorem o7{m:Store}(h1:us.length=uv.length)(h2:ks.length=vs.length)(Fl:(ks++us).Nodup)(hb:us.length+ks.length<1000):GN 157 (.cell (σ.length+1)) [.d (.nd (.Dg 0 (us.map .i)) (uv.map GP))] (σ++c1::Dk ks vs::m)=some (.d .none,σ++c1::Dk (ks++us) (vs++uv)::m):=by
 refine Dl (dD h1 h2 Fl) λe1 e2=> ?_;show DN (only [V.d (.nd (.Dg 0 (us.map .i)) (uv.map GP))]) (λv=>done (Qe (σ++c1::Dk ks vs::m) (.cell (σ.length+1)) v))=_;refine DB rfl (DB (a:=σ++c1::Dk (ks++us) (vs++uv)::m) ?_ rfl);have cc:cellOf (σ++c1::Dk ks vs::m) (.cell (σ.length+1))=some (σ.length+1, .Dg 0 (ks.map .i),(vs.map GP).map .d):=ON rfl;refine DB rfl (DB rfl (DB (a:=(σ.length+1,ks.map .i,(vs.map GP).map .d)) (DB cc (DB rfl (D7 rfl rfl))) (D7 ?_ ?_)))
 ·show Μ ((us.map DO.i).length+(ks.map DO.i).length) big=true
  refine C9 (ι _)<|C9 (ι _) ?_
  exact ο (show us.length+ks.length+1≤1000000 by exact X1 hb rfl)
 ·show some (Q2 (σ++c1::Dk ks vs::m) (σ.length+1) (.Dg 0 (U5 (us.map .i) (ks.map .i))) (Os V.d (us.map .i) (uv.map GP) (ks.map .i) ((vs.map GP).map .d)))=_
  exact C9 e1<|C9 e2<|C9 Sc rfl
theorem tT{q:Nat}(e:r[k]?=some (.lv (.Dg q kl) lv)):Jr (σ++r) 157 (.cell (σ.length+k))=true:=by
 show (GF (σ++r) (.cell (σ.length+k))).isSome=true;exact C9 (PH e) rfl
theorem mw{m:Store}(h2:ks.length=vs.length)(Fl:(ks++ [3,2,1,43]).Nodup)(hb:ks.length<900)(l1:DE loc 144=some (.cell (σ.length+1)))(l2:DE loc 127=some (.d Ez)):(nd (DZ (n+2)) tc).ex loc (σ++c1::Dk ks vs::m)=some (.go 0 loc (σ++c1::Dk (ks++ [3,2,1,43]) (vs++ [Ez,ref 3,ref 2,Hc])::m)):=by
 cell_ask ⟨Ho,tT⟩
 exact o7 (us:= [3,2,1,43]) (uv:= [Ez,ref 3,ref 2,Hc]) rfl h2 Fl (show 4+_<_ by exact ZY hb rfl)
 fin2
theorem QB{q:Int}{m:Store}{aa:Nat}(hc:cl.length<64)(ha:at_<900)(hq:0≤q)(hn:(aa:Int) ∉ ks)(h2:ks.length=vs.length)(hb:ks.length<900):
  ∃(at':Nat) (q':Int) (z:Nat),at'≤at_+1∧0≤q'∧z<4∧ ∀n loc,DE loc 159=some (.cell (σ.length+0))→DE loc 144=some (.cell (σ.length+1))→DE loc 127=some (.d Ez)→
   (nd (DZ (n+2)) q9).ex (DR loc 103 (.d (.int (aa:Int)))) (σ++Dw cl at_ q::Dk ks vs::m)=some (.go 0 (DR (DR loc 103 (.d (.int (aa:Int)))) 147 (.d (Hv z))) (σ++Dw cl at' q'::Dk (ks++ [(aa:Int)]) (vs++ [Hv z])::m)):=by
 refine Do (Gy (σ:=σ) (at_:=at_) (r:=Dk ks vs::m) (many:=4) hc (by exact IL ha rfl) hq (by exact AB _) (by exact ψ _ _)) λz a1 q1 hz g1 g2 e1=> ?_;have tF:=λn=>e1 n false;refine (Ea a1 q1 z g1 g2 hz (λn loc l1 l2 l3=> ?_));have bb:=Ep (key:= .i (aa:Int)) (q:=0) (j:=(ks.map DO.i).length) (by exact C9 (ι _)<|IL hb rfl) rfl
 have S1:(nd (DZ (n+2)) vL).ex (DR loc 103 (.d (.int (aa:Int)))) (σ++Dw cl at_ q::Dk ks vs::m)=some (.go 0 (DR (DR loc 103 (.d (.int (aa:Int)))) 147 (.d (Hv z))) (σ++Dw cl a1 q1::Dk ks vs::m)):=by
  have nx: ∀σ,E8 σ (.d (.nd .tup [Ez,sd [10,15] [HH,ref 20], .nd .lst [.int 5],sd [28] [ref 40]])) (.d (.int z))=some (.d (Hv z)):=λσ=>by
   rcases (by exact zst hz:z=0∨z=1∨z=2∨z=3) with rfl|rfl|rfl|rfl<;>rfl
  apply J'
  cell_ask ⟨Jp,tF⟩
  exact nx _
  fin2
 refine Rg (x_go S1 (x_go ?_ MZ));apply HE
 cell_ask ⟨El⟩
 show σ++(Dw cl a1 q1::Dk ks vs::m).set 1 (.lv (.Dg 0 (D2 (ks.map .i) (.i (aa:Int)))) (Dz (ks.map .i) ((vs.map GP).map .d) (.i (aa:Int)) (.d (GP (Hv z)))))=_;exact C9 (LO hn h2) rfl
end
end
section
mutual open A
variable{n m i at_:Nat}{σ:Store}{tr y:D}{l vs:List D}{ks cl:List Int}{a q:Int}{w:V}{tk:List DO}{lv:List V}{loc:Di}{h:Hd}{d:D}{c0 c1:Dh}
theorem gY{m:Store}:D5 true (σ++ [c0]).length (σ++c1::((Dk ks vs::m)++ [.lv (.inst 5) [.cell (σ.length+1), .d tr]])) (.cell (σ.length+((Dk ks vs::m).length+1)))=some (.cell (σ.length+2),σ++ [c1,Dk ks vs, .lv (.inst 5) [.cell (σ.length+1), .d tr]]):=by
 have en:(σ++ [c0]).length=σ.length+1:=ε
 have tk: ∀rest,(σ++c1::rest).take (σ.length+1)=σ++ [c1]:=λrest=>by
  have e2:(σ++ [c1]).length=σ.length+1:=ε
  (exact C9 (show σ++c1::rest=σ++ [c1]++rest from AJ ..)<|Dr e2<|C9 (HO _) rfl)
 have ad: ∀l:List D,Mr (l.map .d)=some l:=λl=>by
  induction l with
  |nil=>rfl
  |cons d l ih=>exact DB rfl (DB ih rfl)
 refine C9 en ?_;refine (LS (ο (show σ.length+1≤σ.length+((Dk ks vs::m).length+1) by exact wT rfl))).trans ?_;refine DB (HT.trans aN) (DB rfl ?_);show EI (JJ _ _ [V.cell (σ.length+1),V.d tr] (List.take _ _)) _=_;refine C9 (tk _) ?_;refine DJ (a:= [.cell (σ.length+1), .d tr]) (σ:=σ++ [c1,Dk ks vs]) ?_ ?_
 ·refine D7 (ο (Ι _)) (DB (a:=(.Dg 0 (ks.map .i),vs.map GP)) (DB (HT.trans rfl) (DB rfl (DB (ad _) rfl))) (DB rfl (DJ (DJ (show JJ _ _ [] _=some ([],_) from rfl) rfl) ?_)))
  exact C9 (en.symm.trans (show (σ++ [c0]).length=(σ++ [c1]).length by rw [ε,ε];rfl))<|C9 (π _ _ _) rfl
 ·show some (V.cell (σ++ [c1,Dk ks vs]).length,σ++ [c1,Dk ks vs]++ [_])=_
  exact C9 ε<|C9 (π _ _ _) rfl
theorem kz{q:Int}{m:Store}(hc:cl.length<64)(ha:at_<800)(hq:0≤q)(hn: ∀a∈ks,a≠40∧a≠41∧a≠42)(h2:ks.length=vs.length)(hb:ks.length<800):
  ∃(at':Nat) (q':Int) (z0 z1 z2:Nat),at'≤at_+3∧0≤q'∧z0<4∧z1<4∧z2<4∧ ∀n loc,DE loc 159=some (.cell (σ.length+0))→DE loc 144=some (.cell (σ.length+1))→DE loc 127=some (.d Ez)→
   ∃DG,(nd (DZ (n+2)) rA).ex loc (σ++Dw cl at_ q::Dk ks vs::m)=some (.go 0 DG (σ++Dw cl at' q'::Dk (ks++ [40]++ [41]++ [42]) (vs++ [Hv z0]++ [Hv z1]++ [Hv z2])::m))∧DE DG 159=some (.cell (σ.length+0))∧DE DG 144=some (.cell (σ.length+1)):=by
 refine Do (QB (σ:=σ) (at_:=at_) (q:=q) (m:=m) (aa:=40) hc (by exact IL ha rfl) hq (λh=>(hn _ h).1 rfl) h2 (by exact IL hb rfl)) λa1 q1 z0 g1 g2 h0 e1=> ?_;refine Do (QB (σ:=σ) (at_:=a1) (q:=q1) (m:=m) (aa:=41) (ks:=ks++ [40]) (vs:=vs++ [Hv z0]) hc (by exact sS g1 ha rfl) g2 (λh=>by rcases ω.mp h with w|w;exact (hn _ w).2.1 rfl;exact absurd (ς.mp w) (by decide)) (by exact C9 ε<|C9 ε<|C9 h2 rfl) (by refine C9 ε ?_;show ks.length+1<900;exact L7 hb rfl)) λa2 q2 z1 g3 g4 h1 e2=> ?_;refine Do (QB (σ:=σ) (at_:=a2) (q:=q2) (m:=m) (aa:=42) (ks:=ks++ [40]++ [41]) (vs:=vs++ [Hv z0]++ [Hv z1]) hc (by exact yi ha g1 g3 rfl) g4 (λh=>by rcases ω.mp h with w|w;(rcases ω.mp w with w|w;exact (hn _ w).2.2 rfl;exact absurd (ς.mp w) (by decide));exact absurd (ς.mp w) (by decide)) (by exact C9 ε<|C9 ε<|C9 ε<|C9 ε<|C9 h2 rfl) (by refine C9 ε<|C9 ε ?_;show ks.length+1+1<900;lia)) λa3 q3 z2 g5 g6 h3 e3=> ?_;refine (Qt a3 q3 z0 z1 z2 (by exact wM g1 g3 g5 rfl) g6 h0 h1 h3 (λn loc l1 l2 l3=> ?_))
 have D: ∀{q:Int} {a:Nat} {ks vs} {loc:Di} {y:Int} {z:D},DE loc 159=some (.cell (σ.length+0))→DE loc 144=some (.cell (σ.length+1))→DE loc 127=some (.d Ez)→
   DE (Du (σ++Dw cl a q::Dk ks vs::m).length [] (DR (DR loc 103 (.d (.int y))) 147 (.d z))) 159=some (.cell (σ.length+0))∧DE (Du (σ++Dw cl a q::Dk ks vs::m).length [] (DR (DR loc 103 (.d (.int y))) 147 (.d z))) 144=some (.cell (σ.length+1))∧DE (Du (σ++Dw cl a q::Dk ks vs::m).length [] (DR (DR loc 103 (.d (.int y))) 147 (.d z))) 127=some (.d Ez):=λl1 l2 l3=>⟨by fin2,by fin2,by fin2⟩
 refine ET (D (q:=q) (a:=at_) (ks:=ks) (vs:=vs) (y:=((40:Nat):Int)) (z:=Hv z0) l1 l2 l3) λp1 p2 p3=> ?_;refine ET (D (q:=q1) (a:=a1) (ks:=ks++ [40]) (vs:=vs++ [Hv z0]) (y:=((41:Nat):Int)) (z:=Hv z1) p1 p2 p3) λr1 r2 r3=> ?_;refine ET (D (q:=q2) (a:=a2) (ks:=ks++ [40]++ [41]) (vs:=vs++ [Hv z0]++ [Hv z1]) (y:=((42:Nat):Int)) (z:=Hv z2) r1 r2 r3) λs1 s2 s3=> ?_;refine (ED _ (Ml (Pn (rB (Gj Fu (Gj Fu (Gj Fu OA))) mk3) Yx) (EV (e1 n loc l1 l2 l3) rfl (EV (e2 n _ p1 p2 p3) rfl (EV (e3 n _ r1 r2 r3) rfl Jq)))) s1 s2)
end
end
section
mutual open A
variable{n m i j at_ N:Nat}{σ r:Store}{v x y:D}{s:Nat}{vs nv:List D}{ks cl K:List Int}{a b r0 q:Int}{t w:V}{kl:List DO}{lv:List V}{h:Hd}{d:D}{Ks:List (List Int)}{rows:List F0}{spec:List Dx}
structure Kb where
 rows:List F0
 spec:List Dx
 nv:List D
 z0:Nat
 z1:Nat
 z2:Nat
 r0:Nat
def Kb.keys(c:Kb):List Int:= [60,61]++IF 0 c.rows++c.spec.map (λp:Dx=>p.1)++ [3,2,1,43]++ [40]++ [41]++ [42]
def Kb.vals(c:Kb):List D:= [EM 13,EM 14]++K4 c.rows++c.nv++ [Ez,ref 3,ref 2,Hc]++ [Hv c.z0]++ [Hv c.z1]++ [Hv c.z2]
structure EX(c:Kb):Prop where
 len:0<c.rows.length∧c.rows.length≤5
 rows: ∀p∈c.rows,RN p.2.1 p.2.2
 tree: ∃Ks,Ky Ks∧(∀p∈c.rows,p.1<Ks.length)∧Ka (Ik 0 c.rows Ks) c.spec
 nv:DS jQ c.spec c.nv
 z0:c.z0<4
 z1:c.z1<4
 z2:c.z2<4
 r0:0<c.r0∧c.r0<4
theorem Fp: ∀{i:Nat},∀a∈IF i rows,30+(i:Int)≤a∧a<30+(i:Int)+rows.length:=by
 induction rows with
 |nil=>intro i a h;exact absurd h Γ
 |cons p r ih=>
  intro i a h;refine C9 ξ ?_;rcases ν.mp h with w|w
  ·lia
  ·have:=ih a w;lia
theorem Yv: ∀{i:Nat},(IF i rows).Nodup:=by
 induction rows with
 |nil=>intro i;exact .nil
 |cons p r ih=>intro i;exact Η.mpr ⟨λh=>by have:=Fp _ h;lia,ih⟩
theorem WV: ∀{i:Nat},(IF i rows).length=rows.length:=by
 induction rows with
 |nil=>intro i;rfl
 |cons p r ih=>intro i;exact congrArg (· +1) ih
theorem Gb(T:Ka Ks spec):(spec.map (λp:Dx=>p.1)).Nodup∧(∀a∈spec.map (λp:Dx=>p.1),20≤a∧a<30)∧spec.length≤3:=by
 cases T with
 |one=>exact ⟨show ([20]:List Int).Nodup by decide,show∀a∈([20]:List Int),20≤a∧a<30 by decide,show 1≤3 by decide⟩
 |two=>exact ⟨show ([20,21]:List Int).Nodup by decide,show∀a∈([20,21]:List Int),20≤a∧a<30 by decide,show 2≤3 by decide⟩
 |flat=>exact ⟨show ([20,21,22]:List Int).Nodup by decide,show∀a∈([20,21,22]:List Int),20≤a∧a<30 by decide,show 3≤3 by decide⟩
 |deep=>exact ⟨show ([20,21,22]:List Int).Nodup by decide,show∀a∈([20,21,22]:List Int),20≤a∧a<30 by decide,show 3≤3 by decide⟩
theorem Y7(T:Ky Ks):0<Ks.length∧Ks.length<4∧ ∀K∈Ks,K.length≤2:=by
 cases T with
 |one=>exact ⟨by decide,by decide,by decide⟩
 |two=>exact ⟨by decide,by decide,by decide⟩
 |flat=>exact ⟨by decide,by decide,by decide⟩
 |deep=>exact ⟨by decide,by decide,by decide⟩
theorem bY: ∀{i:Nat} {Ks:List (List Int)},(Ik i rows Ks).length=Ks.length:=by
 induction rows with
 |nil=>intro i Ks;rfl
 |cons p r ih=>intro i Ks;exact ih.trans IM
theorem mv{x:Option HW}{v:V}{s:Store}{P:V→Store→Prop}(h:x=some (.ret v s))(p:P v s): ∃v s,x=some (.ret v s)∧P v s:=(Gp v s h p)
theorem YD(hc:cl.length<64): ∃(c:Kb) (at':Nat) (q':Int),at'<900∧0≤q'∧EX c∧ ∀n,4≤n+2→(DZ (n+3)).call true 44 [.cell (σ.length+0)] (σ++ [Dw cl 0 0])=some (.cell (σ.length+2),σ++ [Dw cl at' q',Dk c.keys c.vals, .lv (.inst 5) [.cell (σ.length+1), .d (Fv c.r0)]]):=by
 refine wr λZ0 z0=> ?_;refine UZ (fQ (σ:=σ) (at_:=0) (q:=0) hc (by exact AB _) (Int.le_refl _)) λa1 q1 N Ks g1 g2 T0 hN e1=> ?_;refine ET (Y7 T0) λt1 t2 t3=> ?_;refine Do (Gy (σ:=σ) (at_:=a1) (q:=q1) (r:=M1::HX σ.length Ks) (many:=5) hc (by exact L7 g1 rfl) g2 (by exact AB _) (by exact ψ _ _)) λz a2 q2 hz g3 g4 e2=> ?_;refine Ld (VE (σ:=σ) (N:=N) (c:=1+z) (i:=0) (at_:=a2) (q:=q2) (Ks:=Ks) (ks:= [60,61]) (vs:= [EM 13,EM 14]) (b:=2) hc (hN▸t1) (hN▸t2) (by lia) g4 hN t3 (by lia) (by decide) (by lia) rfl (by show 2+(1+z)<900;lia)) λa3 q3 rows g5 g6 hl hr e3=> ?_;refine D3 (gC (rows:=rows) T0 λp h=>hN▸(hr p h).1) λspec T=> ?_;refine ET (Gb T) λs1 s2 s3=> ?_;have kl:=WV (rows:=rows) (i:=0)
 have m1: ∀a∈([60,61]:List Int)++IF 0 rows,a=60∨a=61∨(30≤a∧a<40):=λa h=>by
  rcases ω.mp h with w|w
  ·exact (qJ w).imp id .inl
  ·have:=Fp a w;exact .inr (.inr ⟨by exact this.1,by lia⟩)
 have n1:(([60,61]:List Int)++IF 0 rows++spec.map (λp:Dx=>p.1)).Nodup:=by
  refine AE.mpr ⟨AE.mpr ⟨by decide,Yv,λa ha b hb=> ?_⟩,s1,λa ha b hb=> ?_⟩
  ·have:=Fp b hb
   refine (qJ ha).elim (λe=> ?_) λe=> ?_<;>lia
  ·have:=s2 b hb
   rcases m1 a ha with w|w|w<;>lia
 have l1:(([60,61]:List Int)++IF 0 rows).length=([EM 13,EM 14]++K4 rows).length:=by refine C9 ε<|C9 ε<|C9 kl ?_;show _=2+(K4 rows).length;exact C9 (show (K4 rows).length=rows.length from ι ..) rfl
 have l1':(([60,61]:List Int)++IF 0 rows).length≤7:=by refine C9 ε<|C9 kl<|C9 hl ?_;show 2+(1+z)≤7;lia
 refine GY (bO (σ:=σ) (N:=N) (at_:=a3) (q:=q3) (ks:=([60,61]:List Int)++IF 0 rows) (vs:= [EM 13,EM 14]++K4 rows) hc T (by lia) g6 n1 l1 (by exact L7 l1' rfl)) λa4 q4 nv m' g7 g8 hv e4=> ?_;refine z0 ?_;have lv:=hv.length;have l2:(([60,61]:List Int)++IF 0 rows++spec.map (λp:Dx=>p.1)).length=([EM 13,EM 14]++K4 rows++nv).length:=by (exact C9 ε<|C9 (ε (as:= [EM 13,EM 14]++K4 rows))<|C9 l1<|C9 (ι _)<|C9 lv rfl)
 have l2':(([60,61]:List Int)++IF 0 rows++spec.map (λp:Dx=>p.1)).length≤10:=by refine C9 ε<|C9 (ι _) ?_;lia
 have m2: ∀a∈([60,61]:List Int)++IF 0 rows++spec.map (λp:Dx=>p.1),a=60∨a=61∨(20≤a∧a<40):=λa h=>by
  rcases ω.mp h with w|w
  ·rcases m1 a w with w|w|w
   ·exact .inl w
   ·exact .inr (.inl w)
   ·exact .inr (.inr ⟨by lia,w.2⟩)
  ·have:=s2 a w;exact .inr (.inr ⟨this.1,by exact wG this rfl⟩)
 have n2:(([60,61]:List Int)++IF 0 rows++spec.map (λp:Dx=>p.1)++ [3,2,1,43]).Nodup:=by
  refine AE.mpr ⟨n1,by decide,λa ha b hb=> ?_⟩;have Oi:b=3∨b=2∨b=1∨b=43:=z6 hb;rcases m2 a ha with w|w|w<;>lia
 have l3:(([60,61]:List Int)++IF 0 rows++spec.map (λp:Dx=>p.1)++ [3,2,1,43]).length=([EM 13,EM 14]++K4 rows++nv++ [Ez,ref 3,ref 2,Hc]).length:=by exact C9 ε<|C9 (ε (as:= [EM 13,EM 14]++K4 rows++nv))<|C9 l2 rfl
 refine Qx (kz (σ:=σ) (at_:=a4) (q:=q4) (m:=m') (ks:=([60,61]:List Int)++IF 0 rows++spec.map (λp:Dx=>p.1)++ [3,2,1,43]) (vs:= [EM 13,EM 14]++K4 rows++nv++ [Ez,ref 3,ref 2,Hc]) hc (by lia) g8 (λa h=>by
  rcases ω.mp h with w|w
  ·rcases m2 a w with w|w|w<;>lia
  ·have Oi:a=3∨a=2∨a=1∨a=43:=z6 w
   lia) l3 (by refine C9 ε ?_;show _+4<800;lia)) λa5 q5 z0 z1 z2 g9 oQ h0 h1 h2 e5=> ?_
 refine Do (Gy (σ:=σ) (at_:=a5) (q:=q5) (r:=Dk (([60,61]:List Int)++IF 0 rows++spec.map (λp:Dx=>p.1)++ [3,2,1,43]++ [40]++ [41]++ [42]) ([EM 13,EM 14]++K4 rows++nv++ [Ez,ref 3,ref 2,Hc]++ [Hv z0]++ [Hv z1]++ [Hv z2])::m') (many:=3) hc (by lia) oQ (by exact AB _) (by exact ψ _ _)) λy a6 q6 hy g11 g12 e6=> ?_;refine (Ea ⟨rows,spec,nv,z0,z1,z2,1+y⟩ a6 q6 (by lia) g12 ⟨⟨by refine C9 hl ?_;exact Ζ _ _,by exact C9 hl<|v5 hz rfl⟩,λp h=>(hr p h).2,(ED Ks T0 (λp h=>hN▸(hr p h).1) T),hv,h0,h1,h2,by show 0<1+y∧1+y<4;lia⟩ (λn hn=> ?_));refine DQ (e1 n) λKK f1 L1=> ?_;have xc:=λn=>e2 n false;have e6':=λn=>e6 n false;refine DQ (e3 n KK L1) λI5 f3 L2=> ?_;rw [←W0 (bY (rows:=rows) (i:=0) (Ks:=Ks))] at L2;refine DQ (e4 n I5 hn L2) λy9 f4 L3=> ?_;refine ES (e5 n (DR y9 127 (.d Ez)) (DH rfl L3.v) (DH rfl L3.t) Da) λgj f7 p1 p2=> ?_
 have S3:(nd (DZ (n+2)) rF).ex KK (σ++Dw cl a1 q1::M1::HX σ.length Ks)=some (.go 0 I5 (σ++Dw cl a3 q3::Dk ([60,61]++IF 0 rows) ([EM 13,EM 14]++K4 rows)::HX σ.length (Ik 0 rows Ks))):=
  Ml (te (dm Fu (lD (Gj (Fg L1.v) (Gj Fu OA)) rfl (e2 _ _)) rfl) (Kw (j:=1+z) (by exact ZY hz rfl))) f3
 have S8: ∃v s,(nd (DZ (n+2)) rC).ex gj (σ++Dw cl a5 q5::Dk ([60,61]++IF 0 rows++spec.map (λp:Dx=>p.1)++ [3,2,1,43]++ [40]++ [41]++ [42]) ([EM 13,EM 14]++K4 rows++nv++ [Ez,ref 3,ref 2,Hc]++ [Hv z0]++ [Hv z1]++ [Hv z2])::m')=some (.ret v s)∧D5 true (σ++ [Dw cl 0 0]).length s v=some (.cell (σ.length+2),σ++ [Dw cl a6 q6,Dk ([60,61]++IF 0 rows++spec.map (λp:Dx=>p.1)++ [3,2,1,43]++ [40]++ [41]++ [42]) ([EM 13,EM 14]++K4 rows++nv++ [Ez,ref 3,ref 2,Hc]++ [Hv z0]++ [Hv z1]++ [Hv z2]), .lv (.inst 5) [.cell (σ.length+1), .d (Fv ((1+y:Nat):Int))]]):=by
  apply mv
  cell_ask ⟨e6',Sq,fU⟩
  exact gY
 refine GD S8 λv s f8 fe=> ?_;clear S8;exact Xi (fn:=Kn) rfl rfl (V1 (l1:= [gG,Yl,nP]) f1 (x_go S3 (x_go f4 (x_go gH (x_go (mw l2 n2 (by exact L7 l2' rfl) (DH rfl L3.t) Da) (x_go f7 (q8 f8))))))) fe
end
end
section
mutual open A
variable{n k i j:Nat}{keep:Bool}{σ DT:Store}{v x:D}{s:Nat}{l ws st ps:List D}{ss:List Nat}{rs:List Int}{a b q:Int}{w:V}{kl:List DO}{lv sv:List V}{key:DO}{loc:Di}{h:Hd}{d:D}
inductive NP:D→List D→Prop
 |int (i:Int):NP (.int i) []
 |EM (s:Nat):NP (EM s) []
 |lst (l:List D):NP (.nd .lst l) l
 |Dg {ss:List Nat} {ws ps:List D}:ss.length<64→DS (λs p=>DU (ss.map .s) ws (.s s)=some p) (HD Ε ss) ps→NP (sd ss ws) ps
theorem eB(h:NP v ps):(DZ (n+2)).call false 6 [.d v] σ=some (.d (.nd .lst ps),σ):=by
 cases h with
 |int i=>apply DW rfl rfl;cell_ask ⟨NW⟩
 |EM s=>apply DW rfl rfl;cell_ask ⟨LI⟩
 |lst l=>apply DW rfl rfl;cell_ask ⟨Kl⟩
 |Dg hs h=>
  apply DW rfl rfl
  cell_ask ⟨LF,QY⟩
  refine Hm (h.imp λs p e=> ?_);refine EL rfl FD ?_
  cell_ask ⟨MB⟩
  fin2
inductive Rf:Nat→List D→List Int→Prop
 |nil:Rf 0 [] []
 |ref {n:Nat} {a:Int} {st:List D} {rs:List Int}:Rf n st rs→Rf (n+1) (ref a::st) (a::rs)
 |other {n:Nat} {v:D} {ps st:List D} {rs:List Int}:NP v ps→Rf n (ps++st) rs→Rf (n+1) (v::st) rs
abbrev FN(a:Int):D:= .nd .tup [.int a, .int 0]
structure zy(loc:Di)(n:Nat):Prop where
 f:DE loc 62=some (.cell (n+0))
 s:DE loc 131=some (.cell (n+1))
 l:DE loc 93=some (.cell (n+2))
theorem T9(h:NP v ps): ∃k,Lc [] (.d v)=some k∧ML k 14=false:=by
 cases h with
 |int=>exact (DM 2 rfl rfl)
 |EM=>exact (DM 11 rfl rfl)
 |lst=>exact (DM 4 rfl rfl)
 |Dg=>exact (DM 5 rfl rfl)
theorem Eb(k:Nat)(st:List D)(rs:List Int)(R:Rf k st rs):st.length≤k:=by
 induction R with
 |nil=>exact Ι _
 |ref _ ih=>exact Κ ih
 |other _ _ ih=>rw [ε] at ih;exact Κ (Υ (ψ _ _) ih)
theorem Yy{k:Nat}(R:Rf k st rs): ∀{loc:Di} {F:List V} {kl:List DO} {sv:List V} {fuel:Nat},zy loc σ.length→(∀a∈rs,Dm kl (.p a 0)=false)→rs.Nodup→F.length+rs.length<400→kl.length+rs.length<400→k<fuel→k<400→
  ∃DG s',EC (NJ (nd (DZ (n+2)) (DF 93)).ev) (nd (DZ (n+2)) vQ).ex fuel loc (σ++ [.lv .lst F, .lv (.Dg 2 kl) sv, .lv .lst (st.reverse.map .d)])=some (.go 0 DG (σ++(.lv .lst (F++rs.map λa=> .d (FN a))::s')))∧DE DG 62=some (.cell (σ.length+0)):=by
 induction R with
 |nil=>
  intro loc F kl sv fuel L _ _ _ _ hf _;obtain ⟨fuel,rfl⟩: ∃f,fuel=f+1:=(EF (fuel - 1) (by have:0<fuel:=hf;exact YS hf));exact (Gp loc _ ((K0 (Fg L.l) (OM (k:=2) (ws:= []) rfl)).trans (by (exact C9 List.map_nil<|C9 (υ _) rfl))) L.f)
 | @ref k a st rs R ih=>
  intro loc F kl sv fuel L hk Fl b1 b2 hf w9;rw [ξ] at b1 b2;rw [Η] at Fl;obtain ⟨fuel,rfl⟩: ∃f,fuel=f+1:=(EF (fuel - 1) (by exact YS hf));have qI:=hk a (.head _);obtain ⟨lf,ls,ll⟩:=id L;have hk1:(!Dm kl (.p a 0))=true:=by exact C9 qI rfl
  have hb:F.length+1<big:=by show _<1000000;exact Z6 b1 rfl
  have cA:=Ep (key:= .p a 0) (q:=2) (j:=kl.length) (by exact nK b2 rfl) rfl;have e0:(ref a::st).reverse.map V.d=st.reverse.map V.d++ [.d (ref a)]:=by exact C9 Ag<|C9 χ rfl
  have W:=λDG (L':zy DG σ.length)=>ih (loc:=DG) (F:=F++ [.d (FN a)]) (kl:=D2 kl (.p a 0)) (sv:=Dz kl sv (.p a 0) (.d (.bool true))) (fuel:=fuel) L' (λb hb=>Kv (hk b (.tail _ hb)) (by
   cases q:DO.beq (.p a 0) (.p b 0) with
   |false=>rfl
   |true=>exact absurd (EP (band q).1) λw=>Fl.1 (by exact C9 w hb))) Fl.2 (by refine C9 ε ?_;show F.length+1+_<_;exact Tg b1) (by have:=JA (kl:=kl) (x:= .p a 0);exact mY b2 this) (by exact AM hf) (by exact Aa w9)
  refine C9 e0 ?_;refine GD (W (Du (σ++ [Dh.lv .lst F, .lv (.Dg 2 kl) sv, .lv .lst (st.reverse.map V.d++ [.d (ref a)])]).length [] (DR loc 69 (.d (ref a)))) ⟨by fin2,by fin2,by fin2⟩) λDG s' e l1=> ?_;refine (Gp DG s' ?_ l1);refine C9 Χ<|C9 (AJ F _ _) ?_
  refine JO (r':= [.lv .lst (F++ [.d (FN a)]), .lv (.Dg 2 (D2 kl (.p a 0))) (Dz kl sv (.p a 0) (.d (.bool true))), .lv .lst (st.reverse.map .d)]) (Fg ll) ((OM (k:=2) (ws:=st.reverse.map V.d++ [.d (ref a)]) rfl).trans (by cases st.reverse<;>rfl)) ?_ rfl e;apply HE
  cell_ask ⟨Ho,Wi,Q5,HP,Wu,El,Kr,Nz⟩
 | @other k v ps st rs P R ih=>
  intro loc F kl sv fuel L hk Fl b1 b2 hf w9;obtain ⟨fuel,rfl⟩: ∃f,fuel=f+1:=(EF (fuel - 1) (by exact YS hf));refine DQ (T9 P) λkd hkd qI=> ?_;obtain ⟨lf,ls,ll⟩:=id L;have po:=λσ=>eB (n:=n) (σ:=σ) P;have e0:(v::st).reverse.map V.d=st.reverse.map V.d++ [.d v]:=by exact C9 Ag<|C9 χ rfl
  have e1:(ps++st).reverse.map V.d=st.reverse.map V.d++ps.reverse.map .d:=by (exact C9 List.reverse_append<|C9 χ rfl)
  have W:=λDG (L':zy DG σ.length)=>ih (loc:=DG) (F:=F) (kl:=kl) (sv:=sv) (fuel:=fuel) L' hk Fl b1 b2 (by exact AM hf) (by exact Aa w9);refine C9 e0 ?_;refine GD (W (Du (σ++ [Dh.lv .lst F, .lv (.Dg 2 kl) sv, .lv .lst (st.reverse.map V.d++ [.d v])]).length [] (DR loc 69 (.d v))) ⟨by fin2,by fin2,by fin2⟩) λDG s' e l1=> ?_;rw [e1] at e;refine (Gp DG s' ?_ l1)
  have hb:(st.reverse.map V.d).length+ps.reverse.length<big:=by
   refine C9 (ι _)<|C9 AX<|C9 AX ?_
   have:=Eb _ _ _ R
   rw [ε] at this;show _<1000000;lia
  have kd':=λσ=>Wf (σ:=σ) hkd;refine JO (r':= [.lv .lst F, .lv (.Dg 2 kl) sv, .lv .lst (st.reverse.map V.d++ps.reverse.map .d)]) (Fg ll) ((OM (k:=2) (ws:=st.reverse.map V.d++ [.d v]) rfl).trans (by cases st.reverse<;>rfl)) ?_ rfl e;apply HE
  cell_ask ⟨Ho,Wi,Q5,kd',j0,po,Z2⟩
theorem Td{k:Nat}{w:V}(R:Rf k [v] rs)(Fl:rs.Nodup)(hr:rs.length<300)(hk:k<300)(h4: ∀s',D5 keep σ.length (σ++(.lv .lst (rs.map λa=> .d (FN a))::s')) (.cell (σ.length+0))=some (w,DT)):(DZ (n+3)).call keep 7 [.d v] σ=some (w,DT):=by
 refine GD (Yy (n:=n) (σ:=σ) R (loc:=DR (DR (DR [(158, .d v)] 62 (.cell (σ.length+0))) 131 (.cell (σ.length+1))) 93 (.cell (σ.length+2))) (F:= []) (kl:= []) (sv:= []) (fuel:=TY) ⟨by fin2,by fin2,by fin2⟩ (λO O=>rfl) Fl (show 0+_<_ by exact ZY hr rfl) (show 0+_<_ by exact ZY hr rfl) (show k<2000 by exact IL hk rfl) (by exact IL hk rfl)) λDG s' e l1=> ?_;apply EU rfl rfl
 fin2
 exact e
 fin2
 exact h4 s'
theorem VF:(rs.map λa=>V.d (FN a))=(rs.map FN).map .d:=by exact C9 Δ rfl
theorem iS{k:Nat}(R:Rf k [v] rs)(Fl:rs.Nodup)(hr:rs.length<300)(hk:k<300):(DZ (n+3)).call false 7 [.d v] σ=some (.d (.nd .lst (rs.map FN)),σ):=Td R Fl hr hk λs'=>MU (k:=0) (by exact C9 VF rfl)
theorem dU{k:Nat}(R:Rf k [v] rs)(Fl:rs.Nodup)(hr:rs.length<300)(hk:k<300):(DZ (n+3)).call true 7 [.d v] σ=some (.cell σ.length,σ++ [.lv .lst (rs.map λa=> .d (FN a))]):=Td R Fl hr hk λs'=>by exact C9 VF<|ME (k:=0) rfl (λc h=>nomatch h) (λh=>nomatch h)
end
end
section
mutual open A
variable{n m k i j:Nat}{keep:Bool}{σ r:Store}{v v' x tr:D}{s:Nat}{vs ps:List D}{a b q:Int}{t w:V}{kl:List DO}{lv:List V}{key:DO}{loc:Di}{h:Hd}{d:D}
theorem FH{q:Nat}(e:r[k]?=some (.lv (.inst q) lv)):Ey (σ++r) (.cell (σ.length+k))=some (q,lv):=DB (Gz e) rfl
theorem Ie{q:Nat}(e:r[k]?=some (.lv (.inst q) lv))(e2:Dt (DX q) lv i=some w):Hj (σ++r) (.cell (σ.length+k)) i=some w:=DB (FH e) e2
def Fd:Nat→Nat→List Int
 |_,0=> []
 |a,m+1=>(a:Int)::Fd (a+1) m
theorem Ft: ∀{m a:Nat} {x:Int},x∈Fd a m↔(a:Int)≤x∧x<(a:Int)+m:=λ{m}=>by
 induction m with
 |zero=>intro a x;exact ⟨λh=>absurd h Γ,λh=>by lia⟩
 |succ m ih=>
  intro a x;show x∈(a:Int)::Fd (a+1) m↔_;refine C9 (propext (ν))<|C9 (propext (ih)) ?_
  lia
theorem Ij: ∀{m a:Nat},(Fd a m).length=m:=λ{m}=>by
 induction m with
 |zero=>intro a;rfl
 |succ m ih=>intro a;exact congrArg (· +1) ih
theorem eZ: ∀{m a:Nat},Fd a m++ [(a:Int)+m]=Fd a (m+1):=λ{m}=>by
 induction m with
 |zero=>intro a;show [(a:Int)+(0:Nat)]= [(a:Int)];(exact C9 (show (a:Int)+((0:Nat):Int)=a by exact Int.add_zero _) rfl)
 |succ m ih=>
  intro a;show (a:Int)::(Fd (a+1) m++ [(a:Int)+((m+1:Nat):Int)])=(a:Int)::Fd (a+1) (m+1)
  (exact Dr ih<|C9 (show (a:Int)+((m+1:Nat):Int)=((a+1:Nat):Int)+m by lia) rfl)
abbrev D1(vs:List D):Dh:=Dk (Fd 1 vs.length) vs
abbrev Dv(n:Nat)(tr:D):Dh:= .lv (.inst 5) [.cell (n+0), .d tr]
theorem YU{n n':Nat}(h:FP n t=false)(e:n≤n'):FP n' t=false:=by
 cases t with
 |d=>rfl
 |cell i=>
  have h:Ε n i=false:=h;show Ε n' i=false;cases q:Ε n' i with
  |false=>rfl
  |true=>rw [ο (Υ e (φ q))] at h;exact nomatch h
theorem cX: ∀{g fuel p:Nat} {loc:Di},p+g=vs.length→g<fuel→DE loc 132=some (.cell (σ.length+1))→DE loc 103=some (.d (.int ((p+1:Nat):Int)))→
  ∃DG,EC (NJ (nd (DZ n) vA).ev) (nd (DZ n) rz).ex fuel loc (σ++D1 vs::Dv σ.length tr::r)=some (.go 0 DG (σ++D1 vs::Dv σ.length tr::r))∧DE DG 103=some (.d (.int ((vs.length+1:Nat):Int)))∧ ∀x v,DE loc x=some v→μ 103 x=false→FP (σ.length+2) v=false→DE DG x=some v:=λ{g}=>by
 have hn:(σ++D1 vs::Dv σ.length tr::r).length=σ.length+(r.length+2):=ε
 induction g with
 |zero=>
  intro fuel p loc hp hf l1 l2;obtain ⟨fuel,rfl⟩: ∃f,fuel=f+1:=(EF (fuel - 1) (by exact YS hf));have hp:p=vs.length:=hp;have hk:Dm ((Fd 1 vs.length).map DO.i) (.i ((p+1:Nat):Int))=false:=Li λh=>by rw [Ft] at h;lia
  refine (ED loc (K0 (v':= .d (.bool (Dm ((Fd 1 vs.length).map DO.i) (.i ((p+1:Nat):Int))))) ?_ ?_) (hp▸l2) (λx v h O O=>h))
  ·cell_ask ⟨Ie,UK⟩
  ·exact C9 hk rfl
 |succ g ih=>
  intro fuel p loc hp hf l1 l2;obtain ⟨fuel,rfl⟩: ∃f,fuel=f+1:=(EF (fuel - 1) (by exact YS hf));have hk:Dm ((Fd 1 vs.length).map DO.i) (.i ((p+1:Nat):Int))=true:=JZ (by refine C9 (propext (Ft)) ?_;lia);refine ES (ih (fuel:=fuel) (p:=p+1) (loc:=Du (σ++D1 vs::Dv σ.length tr::r).length [] (DR loc 103 (.d (.int ((p+1+1:Nat):Int))))) (by exact qu hp) (by exact AM hf) (by fin2) (by fin2)) λDG e k1 k2=> ?_;refine (ED DG (JO (v':= .d (.bool (Dm ((Fd 1 vs.length).map DO.i) (.i ((p+1:Nat):Int))))) (r':=D1 vs::Dv σ.length tr::r) ?_ (by exact C9 hk rfl) ?_ rfl e) k1 (λx v h h2 h3=>k2 x v (D9 (DH h2 h) ?_) h2 h3))
  ·cell_ask ⟨Ie,UK⟩
  ·apply J'
   fin2
  ·exact YU h3 (by exact C9 hn<|wT rfl)
theorem QW(hv:vs.length<500):(DZ (n+2)).call false 13 [.cell (σ.length+1), .d v] (σ++D1 vs::Dv σ.length tr::r)=some (.d (ref ((vs.length+1:Nat):Int)),σ++D1 (vs++ [v])::Dv σ.length tr::r):=by
 refine ES (cX (σ:=σ) (tr:=tr) (r:=r) (n:=n+1) (vs:=vs) (g:=vs.length) (fuel:=TY) (p:=0) (loc:=DR [(132, .cell (σ.length+1)),(158, .d v)] 103 (.d (.int ((0+1:Nat):Int)))) (by exact BP _) (show vs.length<2000 by exact IL hv rfl) (by fin2) (by fin2)) λDG e k1 k2=> ?_;have m1:=k2 132 (.cell (σ.length+1)) (by fin2) rfl (by fin2);have m2:=k2 158 (.d v) (by fin2) rfl rfl;have hs:((vs.length+1:Nat):Int) ∉ Fd 1 vs.length:=λh=>by rw [Ft] at h;lia
 have bb:=Ep (key:= .i ((vs.length+1:Nat):Int)) (q:=0) (j:=((Fd 1 vs.length).map DO.i).length) (by exact C9 (ι _)<|C9 Ij<|IL hv rfl) rfl
 have en:Dk (Fd 1 vs.length++ [((vs.length+1:Nat):Int)]) (vs++ [v])=D1 (vs++ [v]):=by
  show _=Dk (Fd 1 (vs++ [v]).length) (vs++ [v]);exact C9 ε<|C9 (show ((vs.length+1:Nat):Int)=((1:Nat):Int)+vs.length by lia)<|C9 eZ rfl
 apply Gi rfl rfl
 cell_ask ⟨Ie,El⟩
 refine (GE (by exact C9 ε<|C9 ε rfl)).trans ?_;show some (_,σ++Dh.lv (.Dg 0 (D2 ((Fd 1 vs.length).map .i) (.i ((vs.length+1:Nat):Int)))) (Dz ((Fd 1 vs.length).map .i) ((vs.map GP).map .d) (.i ((vs.length+1:Nat):Int)) (.d (GP v)))::Dv σ.length tr::r)=_;exact C9 (LO hs Ij)<|C9 en rfl
theorem RG{kl:List DO}{key:DO}(h:Dm kl key=true):D2 kl key=kl:=by
 induction kl with
 |nil=>exact nomatch h
 |cons k kl ih=>
  have h:(DO.beq k key||Dm kl key)=true:=h;show cond (DO.beq k key) (k::kl) (k::D2 kl key)=_;cases q:DO.beq k key with
  |true=>rfl
  |false=>rw [q] at h;exact congrArg (k:: ·) (ih h)
theorem dJ{α:Type}{x:α}: ∀{m a j:Nat} {vs:List α},vs.length=m→j<m→Dz ((Fd a m).map .i) vs (.i ((a+j:Nat):Int)) x=vs.set j x:=λ{m}=>by
 induction m with
 |zero=>intro a j vs _ h;exact absurd h (Aw _)
 |succ m ih=>
  intro a j vs hl hj;cases vs with
  |nil=>exact nomatch hl
  |cons v vs=>
   show cond (DO.beq (.i (a:Int)) (.i ((a+j:Nat):Int))) (x::vs) (v::Dz ((Fd (a+1) m).map .i) vs (.i ((a+j:Nat):Int)) x)=_;cases j with
   |zero=>
    show cond (DO.beq (.i (a:Int)) (.i (a:Int))) _ _=_;exact C9 (Ff _) rfl
   |succ j=>
    refine C9 (G6 (a:=(a:Int)) (b:=((a+(j+1):Nat):Int)) (by exact zsf))<|C9 (show a+(j+1)=a+1+j by exact xN) ?_
    exact congrArg (v:: ·) (ih (AK.inj hl) (AM hj))
theorem V4{j:Nat}(hj:j<vs.length):Dh.lv (.Dg 0 (D2 ((Fd 1 vs.length).map .i) (.i ((1+j:Nat):Int)))) (Dz ((Fd 1 vs.length).map .i) ((vs.map GP).map .d) (.i ((1+j:Nat):Int)) (.d (GP v)))=D1 (vs.set j v):=by
 refine C9 (RG (JZ (by rw [Ft];lia)))<|C9 (dJ (by rw [ι,ι]) hj) ?_
 show _=Dh.lv (.Dg 0 ((Fd 1 (vs.set j v).length).map .i)) (((vs.set j v).map GP).map .d)
 (exact C9 Φ<|C9 List.map_set<|C9 List.map_set rfl)
theorem OB{n i a df:Nat}{ps:List Nat}{ts:List T}{vs:List V}{r':V}{s DK:Store}{loc DG:Di}(h1:fns[i]?=some ⟨a,ps,df,ts⟩)(h2:bindArgs ps vs df=some loc)(h3:KZ (DZ n) ts loc σ=some (.go 0 DG s))(h4:D5 keep σ.length s (.d .none)=some (r',DK)):(DZ (n+1)).call keep i vs σ=some (r',DK):=kS h1 h2 h3 h4
theorem rD{j:Nat}(hj:j<vs.length)(hv:vs.length<500):(DZ (n+1)).call false 12 [.cell (σ.length+1), .d (.int ((1+j:Nat):Int)), .d (.int ((0:Nat):Int)), .d v] (σ++D1 vs::Dv σ.length tr::r)=some (.d .none,σ++D1 (vs.set j v)::Dv σ.length tr::r):=by
 have bb:=Ep (key:= .i ((1+j:Nat):Int)) (q:=0) (j:=((Fd 1 vs.length).map DO.i).length) (by exact C9 (ι _)<|C9 Ij<|IL hv rfl) rfl;refine Dr (V4 (v:=v) hj) ?_;apply OB rfl rfl
 ·cell_ask ⟨Ie,El⟩
 ·exact GE (by exact C9 ε<|C9 ε rfl)
end
end
section
mutual open A
variable{n k i j N p M d:Nat}{σ cs m:Store}{v v' x:D}{ws tv:List D}{rs:List Int}{a b:Int}{w:V}{kl:List DO}{lv:List V}{key S9:DO}{h:Hd}{c c0 c1 y:Dh}{q:Nat}{S bd:D}
abbrev EO(kl:List DO)(tv:List D):Dh:= .lv (.Dg 2 kl) (tv.map .d)
abbrev Lh(N p:Nat)(S bd:D):Dh:= .lv (.inst 8) [.d S, .cell (N+1), .cell (N+(p+2)), .d bd]
theorem Mf(e:m[j]?=some y):(c0::c1::(cs.set p c++m))[cs.length+(j+2)]?=some y:=by
 show (cs.set p c++m)[cs.length+j]?=_;exact C9 (AG (by rw [Φ];exact Ζ _ _))<|C9 Φ<|C9 (Ω _ _) e
theorem VX:(c0::c1::(cs.set p c++m)).set (cs.length+(j+2)) y=c0::c1::(cs.set p c++m.set j y):=by
 show c0::c1::(cs.set p c++m).set (cs.length+j) y=_
 (exact C9 (AI _ _ (by rw [Φ];exact Ζ _ _))<|C9 Φ<|C9 (Ω _ _) rfl)
theorem So(hp:p<cs.length):(c0::c1::(cs.set p c++m))[p+2]?=some c:=by
 show (cs.set p c++m)[p]?=_
 (exact C9 (Ο (by rw [Φ];exact hp))<|C9 (BQ hp) rfl)
theorem pF(hp:p<cs.length):(c0::c1::(cs.set p c++m)).set (p+2) y=c0::c1::(cs.set p y++m):=by
 show c0::c1::(cs.set p c++m).set p y=_
 (exact C9 (List.set_append_left _ _ (by rw [Φ];exact hp))<|C9 (List.set_set _) rfl)
theorem qh(hc:cs[p+1]?=some y):(c0::c1::(cs.set p c++m))[p+3]?=some y:=by
 show (cs.set p c++m)[p+1]?=_;exact C9 (Ο (by rw [Φ];exact (AR.mp hc).1))<|C9 (Ao (AW (AF p))) hc
theorem MH(hc:cs[p+1]?=some (.lv (.inst q) lv))(e:Dt (DX q) lv i=some w):Hj (σ++c0::c1::(cs.set p c++m)) (.cell (σ.length+(p+3))) i=some w:=Ie (qh hc) e
theorem k_in(hp:p<cs.length):FG (σ++c0::c1::(cs.set p (EO kl tv)++m)) 8 (.d (FN a)) (.cell (σ.length+(p+2)))=some (Dm kl (.p a 0)):=UK (So hp) rfl rfl
theorem qo(hp:p<cs.length):FG (σ++c0::c1::(cs.set p (EO kl tv)++m)) 9 (.d (FN a)) (.cell (σ.length+(p+2)))=some (!Dm kl (.p a 0)):=Wu (So hp) rfl rfl
theorem k_sub(hp:p<cs.length)(e:DU kl tv (.p a 0)=some v):E8 (σ++c0::c1::(cs.set p (EO kl tv)++m)) (.cell (σ.length+(p+2))) (.d (FN a))=some (.d v):=eW (So hp) rfl rfl (En V.d e)
theorem rx(hp:p<cs.length):PT (σ++c0::c1::(cs.set p (EO kl tv)++m)) (.cell (σ.length+(p+2))) kl tv:=PH (So hp)
theorem k_put(hp:p<cs.length)(hb:kl.length<1000):GL (σ++c0::c1::(cs.set p (EO kl tv)++m)) (.cell (σ.length+(p+2))) (.d (FN a)) (.d x)=some (σ++c0::c1::(cs.set p (EO (D2 kl (.p a 0)) (Dz kl tv (.p a 0) x))++m)):=
 (El (So hp) rfl (Ep hb rfl)).trans (by (exact C9 (pF hp)<|C9 (H5 V.d) rfl))
theorem sO(e:m[j]?=some (.lv .lst lv))(hb:lv.length+1<big):GN 41 (.cell (σ.length+(cs.length+(j+2)))) [.d x] (σ++c0::c1::(cs.set p c++m))=some (.d .none,σ++c0::c1::(cs.set p c++m.set j (.lv .lst (lv++ [.d x])))):=(Nz (Mf e) hb).trans (by (exact C9 VX rfl))
theorem vG{l:List D}(e:m[j]?=some (.lv .lst lv))(hb:lv.length+l.length<big):GN 57 (.cell (σ.length+(cs.length+(j+2)))) [.d (.nd .lst l)] (σ++c0::c1::(cs.set p c++m))=some (.d .none,σ++c0::c1::(cs.set p c++m.set j (.lv .lst (lv++l.map .d)))):=by
 show DN (only [V.d (.nd .lst l)]) (λv=>EI (Ht FZ v (σ++c0::c1::(cs.set p c++m))) λx s=>DN (RF x) λl=>done (G8 s _ l))=_;exact DB rfl (DJ rfl (DB rfl (DB (Z2 (Mf e) hb) (by (exact C9 VX rfl)))))
theorem am(e:m[j]?=some (.lv .lst lv)):Fk (σ++c0::c1::(cs.set p c++m)) 0 (.cell (σ.length+(cs.length+(j+2))))=some (.d (.int lv.length)):=DB (Gz (Mf e)) (DB rfl rfl)
theorem dq(e:m[j]?=some (.lv .lst lv))(e2:qL lv a=some w):E8 (σ++c0::c1::(cs.set p c++m)) (.cell (σ.length+(cs.length+(j+2)))) (.d (.int a))=some w:=OH (Mf e) e2
theorem rE(e:m[j]?=some (.lv .lst lv)):Jr (σ++c0::c1::(cs.set p c++m)) 41 (.cell (σ.length+(cs.length+(j+2))))=true:=Kr (Mf e)
theorem r8(e:m[j]?=some (.lv .lst lv)):Jr (σ++c0::c1::(cs.set p c++m)) 57 (.cell (σ.length+(cs.length+(j+2))))=true:=j0 (Mf e)
theorem kO(e:m[j]?=some (.lv .lst lv)):Ey (σ++c0::c1::(cs.set p c++m)) (.cell (σ.length+(cs.length+(j+2))))=none:=Ho (Mf e) rfl
theorem x8{t:List V}:Df true h t (σ++c0::c1::(cs.set p c++m))=some (.cell (σ.length+(cs.length+(m.length+2))),σ++c0::c1::(cs.set p c++(m++ [.lv h t]))):=by
 refine (ZK (c0::c1::(cs.set p c++m))).trans ?_;refine C9 (show (c0::c1::(cs.set p c++m)).length=cs.length+(m.length+2) by rw [ξ,ξ,ε,Φ];exact yB) ?_
 (exact C9 List.cons_append<|C9 List.cons_append<|C9 (π _ _ _) rfl)
theorem Wq{q:Nat}(e:Μ q (cs.length+(m.length+2))=true):FP (σ++c0::c1::(cs.set p c++m)).length (.cell (σ.length+q))=false:=by
 have e:q<cs.length+(m.length+2):=φ e;show Ε _ _=false;refine C9 ε<|C9 ξ<|C9 ξ<|C9 ε<|C9 Φ ?_
 cases z:Ε (σ.length+(cs.length+m.length+1+1)) (σ.length+q) with
 |false=>rfl
 |true=>exact absurd (φ z) (by exact xO e)
theorem PS: ∀{kl:List DO} {tv:List D},kl.length=tv.length→DU (kl++ [key]) (tv++ [x]) S9=(DU kl tv S9).or (cond (DO.beq key S9) (some x) none):=λ{kl}=>by
 induction kl with
 |nil=>intro tv h;cases tv with
  |nil=>rfl
  |cons=>exact nomatch h
 |cons k kl ih=>
  intro tv h;cases tv with
  |nil=>exact nomatch h
  |cons v tv=>
   show cond (DO.beq k S9) (some v) (DU (kl++ [key]) (tv++ [x]) S9)=(cond (DO.beq k S9) (some v) (DU kl tv S9)).or _;cases DO.beq k S9 with
   |true=>rfl
   |false=>exact ih (AK.inj h)
inductive ZT:D→List Int→Prop
 |rf (b:Int):ZT (ref b) [b]
 |ls (z:Int):ZT (.nd .lst [.int z]) []
 |yy (b:Int):ZT (sd [28] [ref b]) [b]
inductive Sf:D→Prop
 |no:Sf .none
 |rf (b:Int):Sf (ref b)
 |ls (l:List D):Sf (.nd .lst l)
 |dc (ss:List Nat) (ws:List D) (h1:9 ∉ ss) (h2:12 ∉ ss):Sf (sd ss ws)
def Jt(kl:List DO)(tv:List D)(M:Nat):Prop:=kl.length=tv.length∧ ∀key v,DU kl tv key=some v→ ∃m:Nat,v=FN ((m+1:Nat):Int)∧m<M
theorem QH(T:Jt kl tv M): ∃v,Rn kl tv 2 (ref b) v∧(v= .none∨ ∃m,v=ref m):=by
 cases q:DU kl tv (.p b 0) with
 |none=>exact (DM _ (iD (L8 T.1 q)) (.inl rfl))
 |some v=>refine DQ (T.2 _ _ q) λm Fi O=> ?_;subst Fi;exact (DM _ (eE q) (.inr (EF _ rfl)))
theorem lJ(T:Jt kl tv M)(s:ZT v rs): ∃v',Rn kl tv 4 v v'∧Sf v':=by
 cases s with
 |rf b=>
  refine DQ (QH (b:=b) T) λv' h e=> ?_;exact (DM v' (h.up (by exact ψ _ _)) (by rcases e with rfl|⟨m,rfl⟩<;>constructor))
 |ls z=>exact (DM _ ((VD (K:=1) (.cons MI .nil)).up (by exact Ac _)) (.ls _))
 |yy b=>
  refine DQ (QH (b:=b) T) λv' h e=> ?_;refine (DM _ (dz (ss:= [28]) (ws:= [ref b]) (F8:= [v']) (K:=2) (by simp) rfl (.cons (h.up (by exact Ac _)) .nil)) ?_);rcases e with rfl|⟨m,rfl⟩
  ·exact .dc [] [] (by decide) (by decide)
  ·exact .dc [28] [ref m] (by decide) (by decide)
theorem pK(s:ZT v rs):Rf 3 [v] rs∨Rf 1 [v] rs∨Rf 2 [v] rs:=by
 cases s with
 |rf b=>exact .inr (.inl (.ref .nil))
 |ls z=>exact .inr (.inr (.other (.lst _) (.other (.int _) .nil)))
 |yy b=>exact .inr (.inr (.other (.Dg (ss:= [28]) (ps:= [ref b]) (by decide) (.cons rfl .nil)) (.ref .nil)))
theorem dr(s:ZT v rs):(DZ (n+3)).call false 7 [.d v] σ=some (.d (.nd .lst (rs.map FN)),σ):=by
 have nd:rs.Nodup:=by cases s<;>simp
 have l:rs.length<300:=by cases s<;>simp
 rcases pK s with R|R|R<;>exact iS R nd l (by exact ψ _ _)
end
end
section
mutual open A
variable{n k i j N p M d:Nat}{keep:Bool}{σ cs m:Store}{v v' x tr IJ:D}{vs D4 M3 ws tv:List D}{ks bs fr ln rs:List Int}{a b:Int}{kl:List DO}{lv:List V}{key:DO}{loc:Di}{h:Hd}{c c0 c1 y:Dh}{q:Nat}
inductive Jv(ks:List Int)(ws:List D)(bs:List Int):Nat→Int→Prop
 |bar {d:Nat} {a:Int} {v:D}:EG ks ws a=some v→a∈bs→Jv ks ws bs d a
 |nil {d:Nat} {a:Int} {v:D}:EG ks ws a=some v→a ∉ bs→ZT v []→Jv ks ws bs (d+1) a
 |step {d:Nat} {a b:Int} {v:D}:EG ks ws a=some v→a ∉ bs→ZT v [b]→Jv ks ws bs d b→Jv ks ws bs (d+1) a
structure Tn(ks:List Int)(ws M3 vs:List D)(kl:List DO)(tv:List D)(fr:List Int):Prop where
 t: ∃us,vs=M3++us∧ ∀x∈us,Sf x
 b:kl.length≤vs.length
 v:Jt kl tv vs.length
 f: ∀b∈fr,∃(m:Nat) (v:D) (rs:List Int),DU kl tv (.p b 0)=some (FN ((m+1:Nat):Int))∧M3.length≤m∧m<vs.length∧EG ks ws b=some v∧ZT v rs
theorem Jt.step(T:Jt kl tv M)(hk:Dm kl (.p a 0)=false):Jt (D2 kl (.p a 0)) (Dz kl tv (.p a 0) (FN ((M+1:Nat):Int))) (M+1):=by
 refine Dl T λhl hv=> ?_;clear T;refine ⟨IV hl,λkey v h=> ?_⟩;rw [EN hk,Eg hk hl,PS hl] at h;cases q:DU kl tv key with
 |some v'=>
  rw [q] at h;refine DQ (hv _ _ q) λm e hm=> ?_;exact (DM m ((η h).symm.trans e) (A7 hm))
 |none=>
  rw [q] at h;have h:cond (DO.beq (.p a 0) key) (some (FN ((M+1:Nat):Int))) none=some v:=h;cases q2:DO.beq (.p a 0) key with
  |false=>rw [q2] at h;exact nomatch h
  |true=>rw [q2] at h;exact (DM M ((η h).symm) (AF _))
theorem Jt.up(T:Jt kl tv M){M':Nat}(h:M≤M'):Jt kl tv M':=⟨T.1,λkey v e=>DQ (T.2 key v e) λm e hm=>(DM m e (AQ hm h))⟩
theorem Tn.step(T:Tn ks ws M3 vs kl tv fr)(e:EG ks ws a=some v)(s:ZT v rs)(hk:Dm kl (.p a 0)=false):Tn ks ws M3 (vs++ [.none]) (D2 kl (.p a 0)) (Dz kl tv (.p a 0) (FN ((vs.length+1:Nat):Int))) (fr++ [a]):=by
 obtain ⟨⟨us,hu,hs⟩,hb,hT,hf⟩:=T;have hl:=hT.1;have g: ∀key,DU (D2 kl (.p a 0)) (Dz kl tv (.p a 0) (FN ((vs.length+1:Nat):Int))) key=(DU kl tv key).or (cond (DO.beq (.p a 0) key) (some (FN ((vs.length+1:Nat):Int))) none):=λkey=>by exact C9 (EN hk)<|C9 (Eg hk hl)<|PS hl
 have z:(vs++ [D.none]).length=vs.length+1:=ε;refine ⟨(DM (us++ [.none]) (by (exact C9 hu<|C9 (π _ _ _) rfl)) (λx hx=> ?_)), ?_,z▸hT.step hk,λb hb=> ?_⟩
 ·rcases ω.mp hx with hx|hx
  ·exact hs x hx
  ·exact C9 (ς.mp hx) .no
 ·exact C9 (EN hk)<|C9 ε<|C9 z<|Κ hb
 ·refine C9 z ?_
  rcases ω.mp hb with hb|hb
  ·refine Do (hf b hb) λm v rs e1 e2 e3 e4=> ?_
   exact (Ea m v rs (by exact C9 (g _)<|C9 e1 rfl) e2 (A7 e3) e4)
  ·refine C9 (ς.mp hb) ?_
   refine (Lf vs.length v rs ?_ (by exact C9 hu<|C9 ε<|Ζ _ _) (AF _) e s);refine C9 (g _) ?_;cases q:DU kl tv (.p a 0) with
   |some v'=>rw [Qu q] at hk;exact nomatch hk
   |none=>show cond (DO.beq _ _) _ _=_;exact C9 (Ff _) rfl
abbrev I6(l:List Int):Dh:= .lv .lst (l.map λa=>V.d (FN a))
theorem Uu: ∀{l:List Int},qL ((l++ [a]).map λa=>V.d (FN a)) ((l.length:Nat):Int)=some (.d (FN a)):=λ{l}=>by
 show (List.map _ _)[l.length]?=_;exact C9 χ<|C9 (AG (by rw [ι];exact Ι _))<|C9 (ι _)<|C9 (Ai _) rfl
theorem bH{B:Bool}(hp:p<cs.length)(e:Dm kl (.p a 0)=B):FG (σ++c0::c1::(cs.set p (EO kl tv)++m)) 8 (.d (FN a)) (.cell (σ.length+(p+2)))=some B:=e▸k_in hp
theorem VC{i:Int}{e:D}:E8 σ (.d (.nd .tup [.int i,e])) (.d (.int ((0:Nat):Int)))=some (.d (.int i)):=rfl
theorem Ln{e f:D}:E8 σ (.d (.nd .tup [e,f])) (.d (.int ((1:Nat):Int)))=some (.d f):=rfl
theorem Vb{fuel:Nat}(l3:DE loc 93=some (.cell (σ.length+(cs.length+(0+2)))))(l4:DE loc 44=some (.d (.int ((ln.length:Nat):Int)))):
  EC (NJ (nd (DZ (n+4)) Ui).ev) (nd (DZ (n+4)) VO).ex (fuel+1) loc (σ++c0::c1::(cs.set p c++ [I6 ln,y]))=some (.go 0 loc (σ++c0::c1::(cs.set p c++ [I6 ln,y]))):=by
 refine K0 (v':= .d (.bool false)) ?_ rfl;have e:decide ((ln.length:Int)<((ln.map λa=>V.d (FN a)).length:Int))=false:=decide_eq_false (by refine C9 (ι _) ?_;lia)
 cell_ask ⟨am,US e⟩
theorem gK{G:HR}{t1 t2:T}{DG:Di}{v':V}{out:Option HW}(h1:(nd G t1).ev loc σ=some (v',σ))(ht:G1 σ v'=some true)(h2:(nd G t2).ex loc σ=some (.go 2 DG σ))(h3:EC (NJ (nd G t1).ev) (nd G t2).ex k (Du σ.length [] DG) σ=out):EC (NJ (nd G t1).ev) (nd G t2).ex (k+1) loc σ=out:=UQ h1 ht h2 (.inr rfl) (by exact C9 AS h3)
theorem QF{fuel:Nat}(hp:p<cs.length)(hc:cs[p+1]?=some (Lh σ.length p (E2 ks ws IJ) (PX bs)))(e:EG ks ws a=some v)(ho:Dm kl (.p a 0)=true∨(Dm kl (.p a 0)=false∧a∈bs))
  (l1:DE loc 132=some (.cell (σ.length+(p+3)))) (l2:DE loc 63=some (.cell (σ.length+(cs.length+(1+2))))) (l3:DE loc 93=some (.cell (σ.length+(cs.length+(0+2))))) (l4:DE loc 44=some (.d (.int ((ln.length:Nat):Int)))):
  ∃DG,EC (NJ (nd (DZ (n+4)) Ui).ev) (nd (DZ (n+4)) VO).ex (fuel+2) loc (σ++c0::c1::(cs.set p (EO kl tv)++ [I6 (ln++ [a]),y]))=some (.go 0 DG (σ++c0::c1::(cs.set p (EO kl tv)++ [I6 (ln++ [a]),y])))∧DE DG 63=some (.cell (σ.length+(cs.length+(1+2)))):=by
 have e1:decide ((ln.length:Int)<(((ln++ [a]).map λa=>V.d (FN a)).length:Int))=true:=decide_eq_true (by refine C9 (ι _)<|C9 ε ?_;show (ln.length:Int)<((ln.length+1:Nat):Int);exact xq);have th:=Nv (n:=n+3) (keep:=false) (σ:=σ++c0::c1::(cs.set p (EO kl tv)++ [I6 (ln++ [a]),y])) (F4 (tr:=IJ)) e;have lw: ∀j,Μ j 2=true→FP (σ++c0::c1::(cs.set p (EO kl tv)++ [I6 (ln++ [a]),y])).length (.cell (σ.length+(cs.length+(j+2))))=false:=λj hj=>Wq (ο (by have:j<2:=φ hj;show _<cs.length+(2+2);lia));have q4:(V.d (.int ((ln.length:Int)+((1:Nat):Int))))= .d (.int (((ln++ [a]).length:Nat):Int)):=by exact C9 ε rfl
 refine (DM (Du (σ++c0::c1::(cs.set p (EO kl tv)++ [I6 (ln++ [a]),y])).length [] (DR (DR loc 111 (.d (FN a))) 44 (.d (.int ((ln.length:Int)+((1:Nat):Int)))))) ?_ (D9 (DH rfl (DH rfl l2)) (lw 1 rfl)));refine gK (v':= .d (.bool true)) (DG:=DR (DR loc 111 (.d (FN a))) 44 (.d (.int ((ln.length:Int)+((1:Nat):Int))))) ?_ rfl ?_ ?_
 ·cell_ask ⟨am,US e1⟩
 ·rcases ho with ho|⟨ho,hb⟩
  ·cell_ask ⟨dq,Uu,MH hc,bH hp ho⟩
  ·have hb:=JZ hb
   cell_ask ⟨dq,Uu,MH hc,bH hp ho,th,VC,WY⟩
 ·exact Vb (D9 (DH rfl (DH rfl l3)) (lw 0 rfl)) (q4▸D9 Da rfl)
theorem WN(hp:p<cs.length)(hc:cs[p+1]?=some (Lh σ.length p (E2 ks ws IJ) (PX bs)))(e:EG ks ws a=some v)(s:ZT v rs)(ho:Dm kl (.p a 0)=false)(hb:a ∉ bs)(hv:vs.length<400)(hk:kl.length<1000)(hl:ln.length<400)(hf:fr.length<400)
  (l1:DE loc 132=some (.cell (σ.length+(p+3)))) (l2:DE loc 63=some (.cell (σ.length+(cs.length+(1+2))))) (l3:DE loc 93=some (.cell (σ.length+(cs.length+(0+2))))) (l4:DE loc 44=some (.d (.int ((ln.length:Nat):Int))))
:
  ∃DG,(∀fuel,EC (NJ (nd (DZ (n+4)) Ui).ev) (nd (DZ (n+4)) VO).ex (fuel+1) loc (σ++D1 vs::Dv σ.length tr::(cs.set p (EO kl tv)++ [I6 (ln++ [a]),I6 fr]))=EC (NJ (nd (DZ (n+4)) Ui).ev) (nd (DZ (n+4)) VO).ex fuel DG (σ++D1 (vs++ [.none])::Dv σ.length tr::(cs.set p (EO (D2 kl (.p a 0)) (Dz kl tv (.p a 0) (FN ((vs.length+1:Nat):Int))))++ [I6 (ln++ [a]++rs),I6 (fr++ [a])])))∧DE DG 132=some (.cell (σ.length+(p+3)))∧DE DG 63=some (.cell (σ.length+(cs.length+(1+2))))∧DE DG 93=some (.cell (σ.length+(cs.length+(0+2))))∧DE DG 44=some (.d (.int (((ln++ [a]).length:Nat):Int))):=by
 have e1:decide ((ln.length:Int)<(((ln++ [a]).map λa=>V.d (FN a)).length:Int))=true:=decide_eq_true (by refine C9 (ι _)<|C9 ε ?_;show (ln.length:Int)<((ln.length+1:Nat):Int);exact xq);have th:=Nv (n:=n+3) (keep:=false) (σ:=σ++D1 vs::Dv σ.length tr::(cs.set p (EO kl tv)++ [I6 (ln++ [a]),I6 fr])) (F4 (tr:=IJ)) e;have lw: ∀j,Μ j 2=true→FP (σ++D1 vs::Dv σ.length tr::(cs.set p (EO kl tv)++ [I6 (ln++ [a]),I6 fr])).length (.cell (σ.length+(cs.length+(j+2))))=false:=λj hj=>Wq (ο (by have:j<2:=φ hj;show _<cs.length+(2+2);lia));have lw2:FP (σ++D1 vs::Dv σ.length tr::(cs.set p (EO kl tv)++ [I6 (ln++ [a]),I6 fr])).length (.cell (σ.length+(p+3)))=false:=Wq (ο (by show _<cs.length+(2+2);lia));have q4:(V.d (.int ((ln.length:Int)+((1:Nat):Int))))= .d (.int (((ln++ [a]).length:Nat):Int)):=by exact C9 ε rfl
 have hbd:=Li hb;have hv5:vs.length<500:=by exact IL hv rfl
 have b1:(fr.map λa=>V.d (FN a)).length+1<big:=by refine C9 (ι _) ?_;show _<1000000;exact L7 hf rfl
 have hr:rs.length<10:=by cases s<;>simp
 have b2:((ln++ [a]).map λa=>V.d (FN a)).length+(rs.map FN).length<big:=by refine C9 (ι _)<|C9 (ι _)<|C9 ε ?_;show _+1+_<1000000;lia
 have sb: ∀τ,E8 τ (.d (MW ks ws)) (.d (.int a))=some (.d (GP v)):=λτ=>GU (ks:=ks) (vs:=ws) rfl e;have sr: ∀τ,(DZ (n+4)).call false 7 [.d v] τ=some (.d (.nd .lst (rs.map FN)),τ):=λτ=>dr (n:=n+1) s;have z:(I6 (ln++ [a]++rs))= .lv .lst (((ln++ [a]).map λa=>V.d (FN a))++(rs.map FN).map .d):=by exact C9 Δ<|congrArg (Dh.lv .lst) χ
 have z2:I6 (fr++ [a])= .lv .lst ((fr.map λa=>V.d (FN a))++ [.d (FN a)]):=congrArg (Dh.lv .lst) χ;refine (gu (Du (σ++D1 vs::Dv σ.length tr::(cs.set p (EO kl tv)++ [I6 (ln++ [a]),I6 fr])).length [] (DR (DR loc 111 (.d (FN a))) 44 (.d (.int ((ln.length:Int)+((1:Nat):Int)))))) (λfuel=> ?_) (D9 (DH rfl (DH rfl l1)) lw2) (D9 (DH rfl (DH rfl l2)) (lw 1 rfl)) (D9 (DH rfl (DH rfl l3)) (lw 0 rfl)) (q4▸D9 Da rfl));refine UQ (c:=0) (DD:=σ++D1 vs::Dv σ.length tr::(cs.set p (EO kl tv)++ [I6 (ln++ [a]),I6 fr])) (v':= .d (.bool true)) (DG:=DR (DR loc 111 (.d (FN a))) 44 (.d (.int ((ln.length:Int)+((1:Nat):Int))))) (DK:=σ++D1 (vs++ [.none])::Dv σ.length tr::(cs.set p (EO (D2 kl (.p a 0)) (Dz kl tv (.p a 0) (FN ((vs.length+1:Nat):Int))))++ [I6 (ln++ [a]++rs),I6 (fr++ [a])])) ?_ rfl ?_ (.inl rfl) ?_
 ·cell_ask ⟨am,US e1⟩
 ·apply J'
  cell_ask ⟨dq,Uu,MH hc,bH hp ho,th,VC,Ln,WY,kO,FH,QW,HP,k_put hp,sO,vG,rE,r8,kO,sb,sr⟩
  exact C9 z<|C9 z2 rfl
 ·(exact C9 (o4 (by rw [ξ,ξ,ξ,ξ,ε,ε,Φ,Φ];rfl)) rfl)
theorem fm{d:Nat}{a:Int}(Nd:Jv ks ws bs d a)(hp:p<cs.length)(hc:cs[p+1]?=some (Lh σ.length p (E2 ks ws IJ) (PX bs))): ∀{vs tv:List D} {kl:List DO} {fr ln:List Int} {loc:Di} {fuel:Nat},d<fuel→vs.length+d<400→ln.length+d<400→fr.length+d<400→Tn ks ws M3 vs kl tv fr→
  DE loc 132=some (.cell (σ.length+(p+3)))→DE loc 63=some (.cell (σ.length+(cs.length+(1+2))))→DE loc 93=some (.cell (σ.length+(cs.length+(0+2))))→DE loc 44=some (.d (.int ((ln.length:Nat):Int)))→
  ∃DG D4 Oj PN I8 c',EC (NJ (nd (DZ (n+4)) Ui).ev) (nd (DZ (n+4)) VO).ex (fuel+1) loc (σ++D1 vs::Dv σ.length tr::(cs.set p (EO kl tv)++ [I6 (ln++ [a]),I6 fr]))=some (.go 0 DG (σ++D1 D4::Dv σ.length tr::(cs.set p (EO Oj PN)++ [c',I6 I8])))∧DE DG 63=some (.cell (σ.length+(cs.length+(1+2))))∧Tn ks ws M3 D4 Oj PN I8∧D4.length≤vs.length+d:=by
 induction Nd with
 | @bar d a v e hb=>
  intro vs tv kl fr ln loc fuel hd h1 h2 h3 T l1 l2 l3 l4;obtain ⟨fuel,rfl⟩: ∃f,fuel=f+1:=(EF (fuel - 1) (by exact YS hd));refine DQ (QF (n:=n) (IJ:=IJ) (ln:=ln) (fuel:=fuel) (c0:=D1 vs) (c1:=Dv σ.length tr) (kl:=kl) (tv:=tv) (y:=I6 fr) hp hc e (by cases q:Dm kl (.p a 0) with|true=>exact .inl rfl|false=>exact .inr ⟨rfl,hb⟩) l1 l2 l3 l4) λDG q k=> ?_;exact (F6 DG _ _ _ _ _ q k T (Ζ _ _))
 | @nil d a v e hb s=>
  intro vs tv kl fr ln loc fuel hd h1 h2 h3 T l1 l2 l3 l4;obtain ⟨fuel,rfl⟩: ∃f,fuel=f+1:=(EF (fuel - 1) (by exact YS hd));cases q:Dm kl (.p a 0) with
  |true=>
   refine DQ (QF (n:=n) (IJ:=IJ) (ln:=ln) (fuel:=fuel) (c0:=D1 vs) (c1:=Dv σ.length tr) (kl:=kl) (tv:=tv) (y:=I6 fr) hp hc e (.inl q) l1 l2 l3 l4) λDG q k=> ?_;exact (F6 DG _ _ _ _ _ q k T (Ζ _ _))
  |false=>
   refine XG (WN (n:=n) (IJ:=IJ) (ln:=ln) (tr:=tr) (tv:=tv) hp hc e s q hb (vs:=vs) (fr:=fr) (by exact PL h1) (by have:=T.b;exact zX h1 this rfl) (by exact PL h2) (by exact PL h3) l1 l2 l3 l4) λDG q2 m1 m2 m3 m4=> ?_;refine (F6 DG (vs++ [.none]) (D2 kl (.p a 0)) (Dz kl tv (.p a 0) (FN ((vs.length+1:Nat):Int))) (fr++ [a]) (I6 (ln++ [a])) ((q2 _).trans ?_) m2 (T.step e s q) (by refine C9 ε ?_;show vs.length+1≤_;exact wT rfl));refine C9 (υ _) ?_;exact Vb m3 m4
 | @step d a b v e hb s N ih=>
  intro vs tv kl fr ln loc fuel hd h1 h2 h3 T l1 l2 l3 l4;obtain ⟨fuel,rfl⟩: ∃f,fuel=f+1:=(EF (fuel - 1) (by exact YS hd));cases q:Dm kl (.p a 0) with
  |true=>
   refine DQ (QF (n:=n) (IJ:=IJ) (ln:=ln) (fuel:=fuel) (c0:=D1 vs) (c1:=Dv σ.length tr) (kl:=kl) (tv:=tv) (y:=I6 fr) hp hc e (.inl q) l1 l2 l3 l4) λDG q k=> ?_;exact (F6 DG _ _ _ _ _ q k T (Ζ _ _))
  |false=>
   refine XG (WN (n:=n) (IJ:=IJ) (ln:=ln) (tr:=tr) (tv:=tv) hp hc e s q hb (vs:=vs) (fr:=fr) (by exact PL h1) (by have:=T.b;exact zX h1 this rfl) (by exact PL h2) (by exact PL h3) l1 l2 l3 l4) λDG q2 m1 m2 m3 m4=> ?_;have z:(vs++ [D.none]).length=vs.length+1:=ε;refine Mb (ih (fuel:=fuel) (loc:=DG) (by exact AM hd) (by exact zqP h1 z) (by refine C9 ε ?_;show ln.length+1+_<_;exact Tg h2) (by refine C9 ε ?_;show fr.length+1+_<_;exact Tg h3) (T.step e s q) m1 m2 m3 m4) λI5 D4 Oj PN I8 c' q3 k3 T3 b3=> ?_;exact (F6 I5 D4 Oj PN I8 c' ((q2 _).trans q3) k3 T3 (by lia))
end
end
section
mutual open A
variable{n k i j N p M d:Nat}{keep:Bool}{σ r cs m:Store}{v v' x tr IJ:D}{vs D4 M3 ws tv us:List D}{ks bs fr ln rs:List Int}{a b:Int}{kl:List DO}{lv fl:List V}{loc:Di}{h:Hd}{c c' c0 c1 y:Dh}{q:Nat}{S bd:D}
theorem OV:(σ++y::c1::cs.set p c').length=σ.length+(cs.length+2):=by (exact C9 ε<|C9 ξ<|C9 ξ<|C9 Φ rfl)
theorem dF:(σ++y::c1::cs.set p c').length+j=σ.length+(cs.length+(j+2)):=by refine C9 OV ?_;lia
theorem k_end{fl:List D}(e:m[j]?=some (.lv h (fl.map .d))):D5 false (σ++c0::c1::cs.set p c).length (σ++y::c1::(cs.set p c'++m)) (.cell (σ.length+(cs.length+(j+2))))=some (.d (.nd h fl),σ++y::c1::cs.set p c'):=by
 have z:=MU (σ:=σ++y::c1::cs.set p c') e;rw [dF,π,OV] at z;exact C9 OV z
theorem VZ(h:m= []):D5 keep (σ++c0::c1::cs.set p c).length (σ++y::c1::(cs.set p c'++m)) (.d v)=some (.d v,σ++y::c1::cs.set p c'):=by
 exact C9 h<|C9 (υ _)<|C9 OV<|Dr (OV (y:=y) (c1:=c1) (c':=c') (σ:=σ) (cs:=cs) (p:=p)) U3
theorem Zm{n i a df:Nat}{ps:List Nat}{ts:List T}{vs:List V}{v' r':V}{s DK:Store}(h1:fns[i]?=some ⟨a,ps,df,ts⟩)(h2:bindArgs ps vs df=some loc)(h3:KZ (DZ n) ts loc (σ++c0::c1::(cs.set p c++ []))=some (.ret v' s))(h4:D5 keep (σ++c0::c1::cs.set p c).length s v'=some (r',DK)):(DZ (n+1)).call keep i vs (σ++c0::c1::cs.set p c)=some (r',DK):=by
 rw [υ] at h3;exact Xi h1 h2 h3 h4
theorem oL{n i a df:Nat}{ps:List Nat}{ts:List T}{vs:List V}{r':V}{s DK:Store}{DG:Di}(h1:fns[i]?=some ⟨a,ps,df,ts⟩)(h2:bindArgs ps vs df=some loc)(h3:KZ (DZ n) ts loc (σ++c0::c1::(cs.set p c++ []))=some (.go 0 DG s))(h4:D5 keep (σ++c0::c1::cs.set p c).length s (.d .none)=some (r',DK)):(DZ (n+1)).call keep i vs (σ++c0::c1::cs.set p c)=some (r',DK):=by
 rw [υ] at h3;exact kS h1 h2 h3 h4
theorem oY(R:Rf k [v] rs)(Fl:rs.Nodup)(hr:rs.length<300)(hk:k<300):(DZ (n+3)).call true 7 [.d v] (σ++c0::c1::(cs.set p c++ []))=some (.cell (σ.length+(cs.length+(0+2))),σ++c0::c1::(cs.set p c++ [I6 rs])):=by
 have z:=dU (n:=n) (σ:=σ++c0::c1::cs.set p c) R Fl hr hk;rw [π,←Nat.add_zero (σ++c0::c1::cs.set p c).length,dF] at z;exact C9 (υ _) z
theorem iW{rs:List Int}(R:Rf k [v] rs)(hk:k<300)(hr:rs= []∨ ∃a,rs= [a]∧Jv ks ws bs d a)(hp:p<cs.length)(hc:cs[p+1]?=some (Lh σ.length p (E2 ks ws IJ) (PX bs)))(T:Tn ks ws vs vs kl tv [])(hv:vs.length+d<300):
  ∃D4 Oj PN I8,(DZ (n+5)).call false 33 [.cell (σ.length+(p+3)), .d v] (σ++D1 vs::Dv σ.length tr::cs.set p (EO kl tv))=some (.d (.nd .lst (I8.map FN)),σ++D1 D4::Dv σ.length tr::cs.set p (EO Oj PN))∧Tn ks ws vs D4 Oj PN I8∧D4.length≤vs.length+d:=by
 have Fl:rs.Nodup:=by rcases hr with rfl|⟨a,rfl,_⟩<;>simp
 have hrl:rs.length<300:=by rcases hr with rfl|⟨a,rfl,_⟩<;>simp
 have rf:=λn=>oY (n:=n) (σ:=σ) (c0:=D1 vs) (c1:=Dv σ.length tr) (cs:=cs) (p:=p) (c:=EO kl tv) R Fl hrl hk
 have hl: ∃DG D4 Oj PN I8 c',EC (NJ (nd (DZ (n+4)) Ui).ev) (nd (DZ (n+4)) VO).ex TY (DR (DR (DR [(132, .cell (σ.length+(p+3))),(158, .d v)] 93 (.cell (σ.length+(cs.length+(0+2))))) 63 (.cell (σ.length+(cs.length+(1+2))))) 44 (.d (.int ((0:Nat):Int)))) (σ++D1 vs::Dv σ.length tr::(cs.set p (EO kl tv)++ [I6 rs,I6 []]))=some (.go 0 DG (σ++D1 D4::Dv σ.length tr::(cs.set p (EO Oj PN)++ [c',I6 I8])))∧DE DG 63=some (.cell (σ.length+(cs.length+(1+2))))∧Tn ks ws vs D4 Oj PN I8∧D4.length≤vs.length+d:=by
  rcases hr with rfl|⟨a,rfl,N⟩
  ·exact (F6 _ vs kl tv ([]) (I6 []) (Vb (fuel:=1999) (ln:= []) (by fin2) Da) (by fin2) T (Ζ _ _))
  ·exact fm (fuel:=1999) (ln:= []) N hp hc (by exact yV hv rfl) (by exact IL hv rfl) (show 0+d<_ by exact zsj hv rfl) (show 0+d<_ by exact zsj hv rfl) T (by fin2) (by fin2) (by fin2) Da
 refine Mb hl λDG D4 Oj PN I8 c' e l1 T' b=> ?_;clear hl;refine (RS D4 Oj PN I8 ?_ T' b);apply Zm rfl rfl
 cell_ask ⟨QI,rf,x8⟩
 exact e
 fin2
 exact k_end (congrArg (λl=>some (Dh.lv .lst l)) VF)
theorem UF{j:Nat}(hj:j<vs.length)(hv:vs.length<500):(DZ (n+1)).call false 12 [.cell (σ.length+1), .d (.int ((j+1:Nat):Int)), .d (.int ((0:Nat):Int)), .d v] (σ++D1 vs::Dv σ.length tr::r)=some (.d .none,σ++D1 (vs.set j v)::Dv σ.length tr::r):=by
 exact C9 (Am j 1)<|rD hj hv
theorem oK{j:Nat}(h: ∀x∈us,Sf x)(hx:Sf x): ∀y∈us.set j x,Sf y:=λy hy=>(List.mem_or_eq_of_mem_set hy).elim (h y) (λe=>e▸hx)
theorem eS(hp:p<cs.length)(hc:cs[p+1]?=some (Lh σ.length p (E2 ks ws IJ) bd))(T:Jt kl tv M): ∀{fr:List Int} {us:List D} {loc:Di},M=(M3++us).length→M<500→(∀x∈us,Sf x)→(∀b∈fr,∃(m:Nat) (v:D) (rs:List Int),DU kl tv (.p b 0)=some (FN ((m+1:Nat):Int))∧M3.length≤m∧m<M∧EG ks ws b=some v∧ZT v rs)→DE loc 132=some (.cell (σ.length+(p+3)))→
  ∃DG Iu,Ek (nd (DZ (n+4)) un).ex 111 (fr.map FN) loc (σ++D1 (M3++us)::Dv σ.length tr::(cs.set p (EO kl tv)++ []))=some (.go 0 DG (σ++D1 (M3++Iu)::Dv σ.length tr::(cs.set p (EO kl tv)++ [])))∧Iu.length=us.length∧ ∀x∈Iu,Sf x:=λ{fr}=>by
 induction fr with
 |nil=>intro us loc _ _ hs _ _;exact (EK loc us rfl rfl hs)
 |cons b fr ih=>
  intro us loc hM hM5 hs hf l1;refine Ld (hf b (.head _)) λm v rs e1 e2 e3 e4 s=> ?_;refine DQ (lJ T s) λv' R sf=> ?_;have e5:(M3++us).set m v'=M3++us.set (m - M3.length) v':=AI _ _ e2;refine D0 (ih (us:=us.set (m - M3.length) v') (loc:=Du (σ++D1 (M3++us)::Dv σ.length tr::(cs.set p (EO kl tv)++ [])).length [] (DR loc 111 (.d (FN b)))) (by exact C9 ε<|C9 Φ<|Dr ε hM) hM5 (oK hs sf) (λc hc=>hf c (.tail _ hc)) (D9 (DH rfl l1) (Wq (ο (by have:=(AR.mp hc).1;show _<cs.length+(0+2);exact Κ (Κ this)))))) λDG Iu q q2 q3=> ?_;refine (EK DG Iu ?_ (q2.trans Φ) q3);have sb: ∀τ,E8 τ (.d (MW ks ws)) (.d (.int b))=some (.d (GP v)):=λτ=>GU (ks:=ks) (vs:=ws) rfl e4;have rn:=R (n+4) _ _ (rx (σ:=σ) (c0:=D1 (M3++us)) (c1:=Dv σ.length tr) (m:= []) hp) (by exact ψ _ _);have h1:m<(M3++us).length:=by lia
  have h2:(M3++us).length<500:=by lia
  refine EV (r':=D1 (M3++us.set (m - M3.length) v')::Dv σ.length tr::(cs.set p (EO kl tv)++ [])) ?_ rfl q;refine Dr e5 ?_
  cell_ask ⟨MH hc,FH,k_sub hp e1,VC,Ln,sb,rn,UF⟩
theorem mR(hp:p<cs.length)(hc:cs[p+1]?=some (Lh σ.length p (E2 ks ws IJ) bd))(T:Tn ks ws M3 vs kl tv fr)(hv:vs.length<500):
  ∃Iu,(DZ (n+5)).call false 34 [.cell (σ.length+(p+3)), .d (.nd .lst (fr.map FN))] (σ++D1 vs::Dv σ.length tr::cs.set p (EO kl tv))=some (.d .none,σ++D1 (M3++Iu)::Dv σ.length tr::cs.set p (EO kl tv))∧(M3++Iu).length=vs.length∧ ∀x∈Iu,Sf x:=by
 obtain ⟨⟨us,rfl,hs⟩,hb,hT,hf⟩:=T;refine D0 (eS (n:=n) (tr:=tr) hp hc hT (us:=us) (loc:= [(132, .cell (σ.length+(p+3))),(63, .d (.nd .lst (fr.map FN)))]) rfl hv hs hf (by fin2)) λDG Iu q q2 q3=> ?_;refine (ED Iu ?_ (by (exact C9 ε<|C9 ε<|C9 q2 rfl)) q3);apply oL rfl rfl
 fin2
 exact VZ rfl
theorem bB{B:Bool}(hp:p<cs.length)(e:Dm kl (.p a 0)=B):FG (σ++c0::c1::(cs.set p (EO kl tv)++m)) 9 (.d (FN a)) (.cell (σ.length+(p+2)))=some (!B):=e▸qo hp
theorem Tp{hd:D}(hp:p<cs.length)(hc:cs[p+1]?=some (Lh σ.length p S bd))(T:Jt kl tv vs.length)(hb:kl.length≤vs.length)(hv:vs.length<400):
  ∃Oj PN,(DZ (n+5)).call false 32 [.cell (σ.length+(p+3)), .d (.nd (.inst 6) [ref a,hd])] (σ++D1 vs::Dv σ.length tr::cs.set p (EO kl tv))=some (.d (ref ((vs.length+1:Nat):Int)),σ++D1 (vs++ [.none])::Dv σ.length tr::cs.set p (EO Oj PN))∧Jt Oj PN (vs++ [D.none]).length∧Oj.length≤(vs++ [D.none]).length:=by
 have z:(vs++ [D.none]).length=vs.length+1:=ε;have ad: ∀x,(DZ (n+4)).call false 13 [.cell (σ.length+1), .d .none] (σ++D1 vs::Dv σ.length tr::x)=some (.d (ref ((vs.length+1:Nat):Int)),σ++D1 (vs++ [.none])::Dv σ.length tr::x):=λx=>QW (n:=n+2) (by exact IL hv rfl);cases q:Dm kl (.p a 0) with
 |true=>
  refine (EK kl tv ?_ (T.up (by lia)) (by lia));apply Zm rfl rfl
  cell_ask ⟨MH hc,FH,ad,HP,bB hp q⟩
  exact VZ rfl
 |false=>
  refine (EK (D2 kl (.p a 0)) (Dz kl tv (.p a 0) (FN ((vs.length+1:Nat):Int))) ?_ (z▸T.step q) (by exact C9 (EN q)<|C9 ε<|C9 z<|Κ hb));have TK:kl.length<1000:=by exact zrz hb hv rfl
  apply Zm rfl rfl
  cell_ask ⟨MH hc,FH,ad,HP,bB hp q,k_put hp⟩
  exact VZ rfl
end
end
section
mutual open A
variable{n k j p d:Nat}{σ DD r:Store}{v:D}{ws My:List D}{a par:Int}{key:DO}{h:Hd}{q:Nat}{Ju ss:List Nat}
theorem mG{s q:Nat}{B:Bool}(h:(!μ s q)=B):FG σ 1 (.d (.sym s)) (.d (.sym q))=some B:=h▸rfl
theorem YG{R:Nat→D→Prop}{Q:Nat→D→Prop}{ss:List Nat}{ws:List D}{f:Nat×D→D}(h:DS R ss ws)(k: ∀s v,s∈ss→R s v→Q s (f (s,v))):DS Q ss ((ss.zip ws).map f):=by
 induction h with
 |nil=>exact .nil
 |cons r _ ih=>exact .cons (k _ _ (.head _) r) (ih λs v hs=>k s v (.tail _ hs))
theorem jA(nd:(15::Ju).Nodup)(hl:Ju.length=My.length)(rG:Ju.length<60):(DZ (n+2)).call false 35 [.d (.nd (.inst 6) [ref a,sd (15::Ju) (ref par::My)])] σ=some (.d (.nd (.Dg 1 (D2 (Ju.map .s) (.s 26))) (Dz (Ju.map .s) My (.s 26) (EM 13))),σ):=by
 have la:=QZ (ss:=15::Ju) (ws:=ref par::My) nd (congrArg (· +1) hl);have me:=(Η.mp nd)
 have cg: ∀τ,EA (F2 81 0 (Mine.Internal.nd (DZ (n+1)) sL).ev ((GT (DZ (n+1)) [vV]).map Nd.ev) [(108, .d (.nd (.inst 6) [ref a,sd (15::Ju) (ref par::My)]))]) ((15::Ju).map .sym) τ=some ((((Ju.zip My).map λp=>D.nd .tup [.sym p.1,p.2])).map .d,τ):=λτ=>by
  refine FC (DD:=τ) (p:=none) (Mj (DD:=τ) rfl (Jj (DD:=τ) (B:=false) ?_ rfl)) ?_
  ·fin2
  ·cases la with
   |cons _ la=>
    refine Hm (g:=D.sym) (YG la λs v hs e=> ?_)
    have RP:(!μ s 15)=true:=by
     cases q:μ s 15 with
     |false=>rfl
     |true=>exact absurd (AO q▸hs) me.1
    refine EL (DD:=τ) rfl ?_ ?_
    ·cell_ask ⟨mG RP⟩
    ·cell_ask ⟨MB⟩
 have bb:=Ep (key:= .s 26) (q:=1) (j:=(Ju.map DO.s).length) (by exact C9 (ι _)<|IL rG rfl) rfl;apply EU rfl rfl
 cell_ask ⟨Ta,cg,QP me.2 hl,El⟩
 exact MU (k:=0) (by exact Dr (H5 _) rfl)
end
end
section
mutual open A
variable{n i d:Nat}{σ DD DK r:Store}{v:D}{w:V}{lv:List V}{loc:Di}{h:Hd}{q:Nat}{S bd:D}{G:HR}{as:List Nat}{tl:List T}{t:T}
theorem Z1:Hy G loc [] [] σ=some ([],σ):=rfl
theorem Wg(h1:(nd G t).ev loc σ=some (w,DD))(h2:Hy G loc as tl DD=some (lv,DK)):Hy G loc (a'::as) (.mk 51 a' [t, .mk 0 q []]::tl) σ=some (w::lv,DK):=by
 show GA (true&&μ a' a') _=_;refine C9 (AH _) ?_;show EI ((nd G t).ev loc σ) (λv σ=>EI (Hy G loc as tl σ) λl σ=>some (v::l,σ))=_;exact DJ h1 (DJ h2 rfl)
theorem UM:(DZ (n+1)).init 5 [] (σ++ [])=some ([.cell (σ.length+0), .d (sd [] [])],σ++ [.lv (.Dg 0 []) []]):=by
 show Hy (DZ n) [(144, .d .none),(153, .d .none)] [144,153] Hr.body (σ++ [])=_;unfold Hr
 cell_ask ⟨Wg,Z1,eU⟩
theorem iR{t:List V}:Df true h t (σ++r)=some (.cell (σ.length+r.length),σ++(r++ [.lv h t])):=ZK r
theorem cz{bd:D}(hb: ∀r,(DZ (n+1)).call false 29 [.d S] (σ++r)=some (.d bd,σ++r)):(DZ (n+2)).init 8 [.d S, .cell i] (σ++r)=some ([.d S, .cell i, .cell (σ.length+r.length), .d bd],σ++(r++ [.lv (.Dg 2 []) []])):=by
 show Hy (DZ (n+1)) [(133, .d S),(95, .cell i)] [133,95,144,46] Ga.body (σ++r)=_;unfold Ga
 cell_ask ⟨Wg,Z1,eU,iR,hb⟩
end
end
section
mutual open A
variable{n k i j N p M M' d J:Nat}{σ DD r cs:Store}{x tr:D}{vs tv:List D}{a:Int}{kl:List DO}{lv:List V}{loc:Di}{h:Hd}{c c0 c1 y:Dh}{q:Nat}{S bd:D}
structure Cs(N J M:Nat)(S bd:D)(cs:Store):Prop where
 t: ∀j,j<J→ ∃kl tv,cs[2*j]?=some (EO kl tv)∧Jt kl tv M∧kl.length≤M
 c: ∀j,j<J→cs[2*j+1]?=some (Lh N (2*j) S bd)
 l: ∃lv,cs[2*J]?=some (.lv .lst lv)∧ ∀j,j<J→lv[j]?=some (.cell (N+(2*j+3)))
theorem Cs.set(C:Cs N J M S bd cs)(hj:j<J)(hM:M≤M')(T:Jt kl tv M')(hk:kl.length≤M'):Cs N J M' S bd (cs.set (2*j) (EO kl tv)):=by
 refine ⟨λi hi=> ?_,λi hi=> ?_, ?_⟩
 ·refine D0 (C.t i hi) λOj PN e T' zZ=> ?_
  rcases Nat.decEq i j with q|q
  ·exact (EK Oj PN (by exact C9 (Ao (by lia)) e) (T'.up hM) (by exact Υ zZ hM))
  ·cases q
   exact (EK kl tv (BQ (AR.mp e).1) T hk)
 ·exact C9 (Ao (by lia))<|C.c i hi
 ·refine DQ C.l λlv e h=> ?_
  exact (DM lv (by exact C9 (Ao (by lia)) e) h)
theorem bw{l:Store}: ∀{p:Nat},l[p]?=some c→l.set p c=l:=by
 induction l with
 |nil=>intro p h;rfl
 |cons a l ih=>
  intro p h;cases p with
  |zero=>exact congrArg (· ::l) (η h).symm
  |succ p=>exact congrArg (a:: ·) (ih h)
abbrev Ll(x:Nat×Int×D):D:= .nd .tup [.int (x.1:Int), .nd (.inst 6) [ref x.2.1,x.2.2]]
theorem Vc(C:Cs N J M S bd cs)(hj:j<J)(hN:N=σ.length):E8 (σ++c0::c1::cs) (.cell (σ.length+(2*J+2))) (.d (.int (j:Int)))=some (.cell (σ.length+(2*j+3)))∧Ey (σ++c0::c1::cs) (.cell (σ.length+(2*j+3)))=some (8, [.d S, .cell (N+1), .cell (N+(2*j+2)), .d bd]):=by
 refine DQ C.l λlv e h=> ?_;exact ⟨OH (r:=c0::c1::cs) (k:=2*J+2) e (hN▸h j hj),FH (r:=c0::c1::cs) (k:=2*j+3) (C.c j hj)⟩
theorem YK(hl:DE loc 53=some (.cell (σ.length+(2*J+2)))): ∀{pl:List (Nat×Int×D)} {vs:List D} {cs:Store},(∀x∈pl,x.1<J)→vs.length+pl.length<400→Cs σ.length J vs.length S bd cs→
  ∃X7,EA (F2 44 108 (nd (DZ (n+5)) lg).ev ((GT (DZ (n+5)) []).map Nd.ev) loc) (pl.map Ll) (σ++D1 vs::Dv σ.length tr::cs)=some ((Fd (vs.length+1) pl.length).map λa=> .d (ref a),σ++D1 (vs++AA pl.length .none)::Dv σ.length tr::X7)∧Cs σ.length J (vs.length+pl.length) S bd X7∧X7.length=cs.length:=λ{pl}=>by
 induction pl with
 |nil=>intro vs cs _ _ C;exact (ED cs (by exact C9 (show AA ([]:List (Nat×Int×D)).length D.none= [] from rfl)<|C9 (υ _) rfl) C rfl)
 |cons x pl ih=>
  intro vs cs hj hv C;refine wr λZ0 z0=> ?_;refine D0 (C.t x.1 (hj x (.head _))) λkl tv e T hk=> ?_;have hp:2*x.1<cs.length:=(AR.mp e).1;have hc:=C.c x.1 (hj x (.head _));rw [ξ] at hv;refine D0 (Tp (n:=n) (σ:=σ) (tr:=tr) (a:=x.2.1) (hd:=x.2.2) hp hc T hk (by exact PL hv)) λOj PN q T' zZ=> ?_;rw [bw e] at q;have z:(vs++ [D.none]).length=vs.length+1:=ε;refine ES (ih (vs:=vs++ [.none]) (cs:=cs.set (2*x.1) (EO Oj PN)) (λy hy=>hj y (.tail _ hy)) (by exact zqP hv z) (C.set (hj x (.head _)) (by lia) T' zZ)) λX7 q2 C' l2=> ?_;refine Dl (Vc (σ:=σ) (c0:=D1 vs) (c1:=Dv σ.length tr) C (hj x (.head _)) rfl) λa1 a2=> ?_;refine z0 ?_
  have h1:F2 44 108 (nd (DZ (n+5)) lg).ev ((GT (DZ (n+5)) []).map Nd.ev) loc (Ll x) (σ++D1 vs::Dv σ.length tr::cs)=some (some (.d (ref ((vs.length+1:Nat):Int))),σ++D1 (vs++ [.none])::Dv σ.length tr::cs.set (2*x.1) (EO Oj PN)):=by
   refine EL (DG:=(108, .d (.nd (.inst 6) [ref x.2.1,x.2.2]))::(44, .d (.int (x.1:Int)))::loc) (DD:=σ++D1 vs::Dv σ.length tr::cs) rfl FD ?_
   cell_ask ⟨a1,a2,q⟩
  refine (ED X7 ((FC h1 q2).trans ?_) ?_ (l2.trans Φ))
  ·exact C9 z<|C9 (π _ _ _)<|C9 (show [D.none]++AA pl.length D.none=AA (pl.length+1) D.none from rfl) rfl
  ·rw [z,BZ,Am 1] at C';exact C'
end
end
section
mutual open A
variable{n k i j M d:Nat}{σ r m:Store}{v x tr:D}{vs ws tv My ps:List D}{rs:List Int}{b:Int}{kl:List DO}{lv fl:List V}{key:DO}{h:Hd}{q:Nat}{Ju ss:List Nat}
structure H0(v:D):Prop where
 e: ∃ss ws,v=sd ss ws∧E0 ss ws 26=EM 13∧DU (ss.map .s) ws (.s 10)=some HH∧E0 ss ws 17= .none∧E0 ss ws 4= .none∧E0 ss ws 19= .none∧9 ∉ ss∧12 ∉ ss
abbrev iM:List Int:= [1,2,3,30,40,41,42]
inductive M2:List Nat→List D→List Int→Prop
 |no:M2 [10,26] [HH,EM 13] []
 |x1 (x:Int):x∈iM→M2 [10,27,26] [HH,ref x,EM 13] [x]
 |x2 (x:Int):x∈iM→M2 [10,26,27] [HH,EM 13,ref x] [x]
theorem M2.len{ss:List Nat}{ws:List D}{rs:List Int}(B:M2 ss ws rs):ss.length<10:=by cases B<;>decide
theorem ff(P:RN Ju My): ∃ss ws rs,D2 (Ju.map .s) (.s 26)=ss.map .s∧Dz (Ju.map .s) My (.s 26) (EM 13)=ws∧M2 ss ws rs:=by
 cases P with
 |plain T=>cases T<;>exact (K6 ([10,26]) _ _ rfl rfl .no)
 |x T hx=>cases T with
  |no=>exact (K6 ([10,27,26]) _ _ rfl rfl (.x1 _ hx))
  |_=>exact (K6 ([10,26,27]) _ _ rfl rfl (.x2 _ hx))
theorem MK:Rf k ps rs→Rf (k+5) (HH::ps) rs:=λh=> .other (.lst _) (.other (.int _) (.other (.int _) (.other (.int _) (.other (.int _) h))))
theorem M2.rf(B:M2 ss ws rs): ∃k,k<300∧Rf k [sd ss ws] rs:=by
 cases B with
 |no=>exact (DM 7 (by decide) (.other (.Dg (ss:= [10,26]) (ps:= [HH,EM 13]) (by decide) (.cons rfl (.cons rfl .nil))) (MK (.other (.EM _) .nil))))
 |x1 x h=>exact (DM 8 (by decide) (.other (.Dg (ss:= [10,27,26]) (ps:= [HH,EM 13,ref x]) (by decide) (.cons rfl (.cons rfl (.cons rfl .nil)))) (MK (.other (.EM _) (.ref .nil)))))
 |x2 x h=>exact (DM 8 (by decide) (.other (.Dg (ss:= [10,26,27]) (ps:= [HH,EM 13,ref x]) (by decide) (.cons rfl (.cons rfl (.cons rfl .nil)))) (MK (.other (.EM _) (.ref .nil)))))
theorem VI:Rn kl tv 4 HH HH:=(VD (K:=1) (.cons MI (.cons MI (.cons MI (.cons MI .nil))))).up (by exact Ac _)
theorem VY{s:Nat}:Rn kl tv 4 (EM s) (EM s):=ar.up (by exact ψ _ _)
theorem M2.rn(B:M2 ss ws rs)(T:Jt kl tv M):ss.Nodup∧ss.length=ws.length∧ ∃F8,DS (Rn kl tv 4) ws F8∧15 ∉ FO ss F8∧H0 (sd (FO ss F8++ [15]) (GO F8++ [ref 2])):=by
 cases B with
 |no=>exact ⟨by decide,rfl, [HH,EM 13], .cons VI (.cons VY .nil),by decide,⟨[10,26,15],_,rfl,rfl,rfl,rfl,rfl,rfl,by decide,by decide⟩⟩
 |x1 x h=>
  obtain ⟨v,R,e⟩:=QH (b:=x) T;refine ⟨by decide,rfl, [HH,v,EM 13], .cons VI (.cons (R.up (by exact ψ _ _)) (.cons VY .nil)), ?_⟩;rcases e with rfl|⟨m,rfl⟩
  ·exact ⟨show 15 ∉ [10,26] by decide,⟨[10,26,15],_,rfl,rfl,rfl,rfl,rfl,rfl,by decide,by decide⟩⟩
  ·exact ⟨show 15 ∉ [10,27,26] by decide,⟨[10,27,26,15],_,rfl,rfl,rfl,rfl,rfl,rfl,by decide,by decide⟩⟩
 |x2 x h=>
  obtain ⟨v,R,e⟩:=QH (b:=x) T;refine ⟨by decide,rfl, [HH,EM 13,v], .cons VI (.cons VY (.cons (R.up (by exact ψ _ _)) .nil)), ?_⟩;rcases e with rfl|⟨m,rfl⟩
  ·exact ⟨show 15 ∉ [10,26] by decide,⟨[10,26,15],_,rfl,rfl,rfl,rfl,rfl,rfl,by decide,by decide⟩⟩
  ·exact ⟨show 15 ∉ [10,26,27] by decide,⟨[10,26,27,15],_,rfl,rfl,rfl,rfl,rfl,rfl,by decide,by decide⟩⟩
theorem M2.refs(B:M2 ss ws rs):rs= []∨ ∃x,rs= [x]∧x∈iM:=by
 cases B with
 |no=>exact .inl rfl
 |x1 x h=>exact .inr (DM x rfl h)
 |x2 x h=>exact .inr (DM x rfl h)
theorem RN.Fl(P:RN Ju My):(15::Ju).Nodup∧Ju.length=My.length∧Ju.length<60:=by
 cases P with
 |plain T=>cases T<;>exact ⟨by decide,rfl,by decide⟩
 |x T hx=>cases T<;>exact ⟨by decide,rfl,by decide⟩
theorem zx{d:D}(ds:List D)(e:r[k]?=some (.lv h (ds.map .d))):Df false .tup [.d d, .cell (σ.length+k)] (σ++r)=some (.d (.nd .tup [d, .nd h ds]),σ++r.set k (.fz (.nd h ds))):=show EI (HN (Ht FZ) _ _) (λds σ=>some (V.d (.nd .tup ds),σ))=_ from DJ (OQ (W9 e rfl)) rfl
theorem uo{j:Nat}{fl:List D}(hj:j<vs.length)(hv:vs.length<500)(e:r[k]?=some (.lv h (fl.map .d))):(DZ (n+1)).call false 12 [.cell (σ.length+1), .d (.int ((j+1:Nat):Int)), .d (.int ((0:Nat):Int)), .cell (σ.length+(k+2))] (σ++D1 vs::Dv σ.length tr::r)=some (.d .none,σ++D1 (vs.set j (.nd h fl))::Dv σ.length tr::r.set k (.fz (.nd h fl))):=by
 refine C9 (Am j 1) ?_;have bb:=Ep (key:= .i ((1+j:Nat):Int)) (q:=0) (j:=((Fd 1 vs.length).map DO.i).length) (by exact C9 (ι _)<|C9 Ij<|IL hv rfl) rfl;have m2:=zx (σ:=σ) (r:=D1 vs::Dv σ.length tr::r) (k:=k+2) (d:= .int ((0:Nat):Int)) fl e;refine Dr (V4 (v:= .nd h fl) hj) ?_;apply OB rfl rfl
 ·cell_ask ⟨m2,Ie,El⟩
 ·exact GE (by exact C9 ε<|C9 ε<|C9 ξ<|C9 ξ<|congrArg (σ.length+ ·) (congrArg (· +2) Φ))
end
end
section
mutual open A
variable{n k i j N p P d J:Nat}{σ r cs m:Store}{v x tr IJ:D}{vs ws tv us My wt:List D}{ks bs fr rs:List Int}{a b par:Int}{pv:V}{kl:List DO}{lv fl:List V}{loc:Di}{h:Hd}{c c0 c1 y y':Dh}{Ju ss:List Nat}
structure px(loc:Di)(N J P:Nat)(pv:V):Prop where
 m:DE loc 95=some (.cell (N+1))
 r:DE loc 127=some (.d (ref 1))
 p:DE loc 112=some (.d (ref 2))
 c:DE loc 53=some (.cell (N+(2*J+2)))
 k:DE loc 83=some (.d (.nd .lst ((Fd 3 P).map ref)))
 l:DE loc 115=some pv
theorem iP: ∀{m a i:Nat},i<m→((Fd a m).map λb=>V.d (ref b))[i]?=some (.d (ref ((a+i:Nat):Int))):=λ{m}=>by
 induction m with
 |zero=>intro a i h;exact absurd h (Aw _)
 |succ m ih=>
  intro a i h;cases i with
  |zero=>rfl
  |succ i=>exact C9 (show a+(i+1)=a+1+i by exact xN)<|ih (a:=a+1) (AM h)
theorem ig(h:i<P):E8 σ (.d (.nd .lst ((Fd 3 P).map ref))) (.d (.int (i:Int)))=some (.d (ref ((i+2+1:Nat):Int))):=by
 show (List.map V.d ((Fd 3 P).map ref))[i]?=_;exact C9 Δ<|C9 (show i+2+1=3+i by lia)<|iP h
theorem uI{x:D}(hs:i ∉ ss)(hl:ss.length=ws.length)(hb:ss.length<900):GL (σ++c0::c1::(cs.set p c++ [.lv (.Dg 1 (ss.map .s)) (ws.map .d)])) (.cell (σ.length+(cs.length+(0+2)))) (.d (.sym i)) (.d x)=some (σ++c0::c1::(cs.set p c++ [.lv (.Dg 1 ((ss++ [i]).map .s)) ((ws++ [x]).map .d)])):=
 (El (Mf (j:=0) rfl) rfl (Ep (by exact C9 (ι _)<|IL hb rfl) rfl)).trans (by exact C9 (LM hs hl)<|C9 VX rfl)
theorem yT{kl:List DO}{tv:List D}(nd:ss.Nodup)(hl:ss.length=ws.length)(h:DS (Rn kl tv 4) ws wt)(hp:p<cs.length):(DZ (n+5)).call true 8 [.d (sd ss ws), .cell (σ.length+(p+2))] (σ++c0::c1::cs.set p (EO kl tv))=some (.cell (σ.length+(cs.length+(0+2))),σ++c0::c1::(cs.set p (EO kl tv)++ [.lv (.Dg 1 ((FO ss wt).map .s)) ((GO wt).map .d)])):=by
 have pt:=rx (σ:=σ) (c0:=c0) (c1:=c1) (kl:=kl) (tv:=tv) (m:= []) hp;rw [υ] at pt;refine cT (K:=3) (m:=n+3) nd hl h pt (by exact ψ _ _) ?_;have z:=ME (σ:=σ++c0::c1::cs.set p (EO kl tv)) (r:= [.lv (.Dg 1 ((FO ss wt).map .s)) ((GO wt).map .d)]) (k:=0) rfl (λc h=>nomatch h) (λh=>nomatch h);exact C9 z<|Dr (Nat.add_zero (σ++c0::c1::cs.set p (EO kl tv)).length)<|C9 dF<|C9 (π _ _ _) rfl
theorem cr:(cs.set p c++ [y]).set cs.length y'=cs.set p c++ [y']:=by
 exact C9 (AI _ _ (by rw [Φ];exact Ι _))<|C9 Φ<|C9 (Ai _) rfl
theorem bz(C:Cs σ.length J vs.length (E2 ks ws IJ) (PX bs) cs)(hN: ∀x∈iM,Jv ks ws bs 3 x)(L:px loc σ.length J P pv)(hj:j<J)(y0:E8 (σ++D1 vs::Dv σ.length tr::cs) pv (.d (.int (i:Int)))=some (.d (Ll (j,a,sd (15::Ju) (ref par::My)))))(F:RN Ju My)(hi:i<P)(hv:vs.length<250)(hi2:i+2<vs.length):
  ∃X7 Iu v ss wb f,(nd (DZ (n+6)) nQ).ex (DR loc 139 (.d (.int (i:Int)))) (σ++D1 vs::Dv σ.length tr::cs)=some (.go 0 (DR (DR (DR (DR (DR (DR loc 139 (.d (.int (i:Int)))) 108 (.d (.nd (.inst 6) [ref a,sd (15::Ju) (ref par::My)]))) 44 (.d (.int (j:Int)))) 52 (.cell (σ.length+(2*j+3)))) 59 (.d (sd ss wb))) 87 (.cell (σ.length+(cs.length+(0+2))))) (σ++(D1 ((vs++Iu).set (i+2) v)::Dv σ.length tr::X7++ [f])))∧
   H0 v∧(∀x∈Iu,Sf x)∧Cs σ.length J (vs++Iu).length (E2 ks ws IJ) (PX bs) X7∧X7.length=cs.length∧Iu.length≤3:=by
 refine wr λZ0 z0=> ?_;refine D0 (C.t j hj) λkl tv e T hk=> ?_;have hp:2*j<cs.length:=(AR.mp e).1;have hc:=C.c j hj;refine Vv (ff F) λss wb rs e1 e2 B=> ?_;refine DQ B.rf λkr hkr R=> ?_;refine ET F.Fl λnd1 nl1 nl2=> ?_;have Bo:=λτ=>jA (n:=n+4) (σ:=τ) (a:=a) (par:=par) nd1 nl1 nl2;rw [e1,e2] at Bo;refine JG (iW (n:=n+1) (σ:=σ) (tr:=tr) (d:=3) R hkr (B.refs.imp id λ⟨x,h1,h2⟩=>(DM x h1 (hN x h2))) hp hc ⟨(DM ([]) ((υ _).symm) (λO h=>absurd h Γ)),hk,T,λO h=>absurd h Γ⟩ (by exact zqj hv rfl)) λvs1 ti uz fr q1 T1 b1=> ?_;rw [bw e] at q1;refine ES (mR (n:=n+1) (σ:=σ) (tr:=tr) hp hc T1 (by exact zqu hv b1 rfl)) λIu q2 z2 sf=> ?_;refine ib (B.rn T1.v) λndb nlb wt rn n15 lo=> ?_;have q3:=yT (n:=n+1) (σ:=σ) (c0:=D1 (vs++Iu)) (c1:=Dv σ.length tr) ndb nlb rn hp;have lw:ss.length=wt.length:=nlb.trans rn.length;have hs:(FO ss wt).length≤ss.length:=Rt.length_le;have wQ:=B.len;have q4:=uI (σ:=σ) (c0:=D1 (vs++Iu)) (c1:=Dv σ.length tr) (cs:=cs) (p:=2*j) (c:=EO ti uz) (x:=ref 2) n15 (RW lw) (by exact zrz hs wQ rfl);have zz:(vs++Iu).length=vs.length+Iu.length:=ε;have q5:=uo (n:=n+5) (σ:=σ) (vs:=vs++Iu) (tr:=tr) (r:=cs.set (2*j) (EO ti uz)++ [.lv (.Dg 1 ((FO ss wt++ [15]).map .s)) ((GO wt++ [ref 2]).map .d)]) (k:=cs.length) (j:=i+2) (h:= .Dg 1 ((FO ss wt++ [15]).map .s)) (fl:=GO wt++ [ref 2]) (by lia) (by lia) (by exact C9 (AG (by rw [Φ];exact Ι _))<|C9 Φ<|C9 (Ai _) rfl);rw [cr] at q5;have C1:Cs σ.length J (vs++Iu).length (E2 ks ws IJ) (PX bs) (cs.set (2*j) (EO ti uz)):=C.set hj (by refine C9 z2 ?_;refine DQ T1.t λus hu O=> ?_;exact C9 hu<|C9 ε<|Ζ _ _) (z2▸T1.v) (z2▸T1.b);refine Dl (Vc (σ:=σ) (c0:=D1 vs) (c1:=Dv σ.length tr) C hj rfl) λa1 a2=> ?_;refine z0 ?_;have a3:=(Vc (σ:=σ) (c0:=D1 (vs++Iu)) (c1:=Dv σ.length tr) C1 hj rfl).2;have at3:Hj (σ++D1 (vs++Iu)::Dv σ.length tr::cs.set (2*j) (EO ti uz)) (.cell (σ.length+(2*j+3))) 144=some (.cell (σ.length+(2*j+2))):=DB a3 rfl;have ik: ∀τ,E8 τ (.d (.nd .lst ((Fd 3 P).map ref))) (.d (.int (i:Int)))=some (.d (ref ((i+2+1:Nat):Int))):=λτ=>ig hi;have lm:=L.m;have lr:=L.r;have lq:=L.p;have lc:=L.c;have lk:=L.k;have ll:=L.l;refine (J1 (cs.set (2*j) (EO ti uz)) Iu (sd (FO ss wt++ [15]) (GO wt++ [ref 2])) ss wb (.fz (sd (FO ss wt++ [15]) (GO wt++ [ref 2]))) ?_ lo sf C1 Φ ?_)
 ·cell_ask ⟨QI,y0,a1,a2,Bo,q1,q2,at3,q3,q4,ik,FH,q5⟩
 ·lia
end
end
section
mutual open A
variable{n k i j N p P d J g:Nat}{σ r cs m:Store}{v x tr IJ:D}{ws us My lp:List D}{ks bs:List Int}{a par:Int}{w pv:V}{loc:Di}{h:Hd}{c:Dh}{q:Nat}{Ju ss:List Nat}
def cL(J:Nat)(x:Nat×Int×D):Prop:=x.1<J∧ ∃Ju My par,x.2.2=sd (15::Ju) (ref par::My)∧RN Ju My
theorem fh: ∀{lp:List D} {z w:D} {l:List D},(lp++z::l).set lp.length w=lp++w::l:=λ{lp}=>by
 induction lp with
 |nil=>intro z w l;rfl
 |cons a lp ih=>intro z w l;exact congrArg (a:: ·) ih
theorem px.turn{m N:Nat}{x1 x2 x3 x4 x5 x6:V}(L:px loc N J P pv)(h1:FP m pv=false)(h2:FP m (.cell (N+1))=false)(h3:FP m (.cell (N+(2*J+2)))=false):px (Du m [] (DR (DR (DR (DR (DR (DR loc 139 x1) 108 x2) 44 x3) 52 x4) 59 x5) 87 x6)) N J P pv:=by
 have k: ∀{x:Nat} {v:V},DE loc x=some v→(μ 139 x||μ 108 x||μ 44 x||μ 52 x||μ 59 x||μ 87 x)=false→FP m v=false→DE (Du m [] (DR (DR (DR (DR (DR (DR loc 139 x1) 108 x2) 44 x3) 52 x4) 59 x5) 87 x6)) x=some v:=λh e hv=>by
  rw [AU,AU,AU,AU,AU] at e;obtain ⟨⟨⟨⟨⟨e1,e2⟩,e3⟩,e4⟩,e5⟩,e6⟩:=e;exact D9 (DH e6 (DH e5 (DH e4 (DH e3 (DH e2 (DH e1 h)))))) hv
 exact ⟨k L.m rfl h2,k L.r rfl rfl,k L.p rfl rfl,k L.c rfl h3,k L.k rfl rfl,k L.l rfl h1⟩
abbrev N0(lp:List D)(g:Nat)(us:List D):List D:=D.none::D.none::(lp++(AA g D.none++us))
theorem cM(hN: ∀x∈iM,Jv ks ws bs 3 x)(xi:FP σ.length pv=false)(mI: ∀r i,i<P→ ∃x,cL J x∧E8 (σ++r) pv (.d (.int (i:Int)))=some (.d (Ll x))): ∀{g i:Nat} {lp us:List D} {cs:Store} {loc:Di},i+g=P→lp.length=i→(∀x∈lp,H0 x)→(∀x∈us,Sf x)→2+P+us.length+3*g<60→Cs σ.length J (2+P+us.length) (E2 ks ws IJ) (PX bs) cs→px loc σ.length J P pv→
  ∃DG X7 yz Iu,Ek (nd (DZ (n+6)) nQ).ex 139 (HV (i:Int) g) loc (σ++D1 (N0 lp g us)::Dv σ.length tr::cs)=some (.go 0 DG (σ++D1 (N0 yz 0 Iu)::Dv σ.length tr::X7))∧yz.length=P∧(∀x∈yz,H0 x)∧(∀x∈Iu,Sf x)∧px DG σ.length J P pv∧2+P+Iu.length<60:=λ{g}=>by
 induction g with
 |zero=>
  intro i lp us cs loc hi hl h1 h2 hb C L;exact ⟨loc,cs,lp,us,rfl,by exact hl.trans hi,h1,h2,L,by exact hb⟩
 |succ g ih=>
  intro i lp us cs loc hi hl h1 h2 hb C L;obtain ⟨⟨j,a,hd⟩,⟨hj,Ju,My,par,rfl,F⟩,hs⟩:=mI (D1 (N0 lp (g+1) us)::Dv σ.length tr::cs) i (by exact vF hi)
  have len:(N0 lp (g+1) us).length=2+P+us.length:=by
   show (lp++(AA (g+1) D.none++us)).length+1+1=_;refine C9 ε<|C9 ε<|C9 List.length_replicate ?_;lia
  refine Hw (bz (n:=n) (σ:=σ) (tr:=tr) (len▸C) hN L hj hs F (by exact vF hi) (by lia) (by lia)) λX7 Iu v ss wb f q lo sf C' l' u3=> ?_
  have e:(N0 lp (g+1) us++Iu).set (i+2) v=N0 (lp++ [v]) g (us++Iu):=by
   show D.none::D.none::((lp++(D.none::(AA g D.none++us)))++Iu).set i v=_;refine C9 (π _ _ _)<|Dr hl ?_
   show D.none::D.none::(lp++D.none::(AA g D.none++us++Iu)).set lp.length v=_;refine C9 fh ?_;show _=D.none::D.none::((lp++ [v])++(AA g D.none++(us++Iu)));exact C9 (π _ _ _)<|C9 (π _ _ _) rfl
  rw [e] at q;rw [ε,len] at C';have lw: ∀{q:Nat},q<cs.length+2→FP (σ++D1 (N0 lp (g+1) us)::Dv σ.length tr::cs).length (.cell (σ.length+q))=false:=λh=>JB (ο h);have cl:2*J<cs.length:=by refine DQ C.l λO e O=> ?_;exact (AR.mp e).1
  have AL:=L.turn (m:=(σ++D1 (N0 lp (g+1) us)::Dv σ.length tr::cs).length) (x1:= .d (.int (i:Int))) (x2:= .d (.nd (.inst 6) [ref a,sd (15::Ju) (ref par::My)])) (x3:= .d (.int (j:Int))) (x4:= .cell (σ.length+(2*j+3))) (x5:= .d (sd ss wb)) (x6:= .cell (σ.length+(cs.length+(0+2)))) (oj xi) (lw (by exact ψ _ _)) (lw (by exact Κ (Κ cl)))
  refine Hk (ih (i:=i+1) (lp:=lp++ [v]) (us:=us++Iu) (cs:=X7) (by exact qu hi) (by exact C9 ε<|C9 hl rfl) (λx hx=>(ω.mp hx).elim (h1 x) (λhx=>ς.mp hx▸lo)) (λx hx=>(ω.mp hx).elim (h2 x) (sf x)) (by refine C9 ε ?_;lia) (by exact C9 ε<|Dr (BZ _ _ _) C')
   AL) λI5 yA wo us2 q2 r1 r2 r3 r4 r5=> ?_
  exact (Gs I5 yA wo us2 (M6 q (congrArg (· +2) l') q2) r1 r2 r3 r4 r5)
end
end
section
mutual open A
variable{n k i j N p P M d J g:Nat}{σ DT DD r cs m:Store}{v x u tr IJ:D}{vs ws us lp:List D}{ks bs:List Int}{a b:Int}{pv:V}{kl:List DO}{lv fl:List V}{key:DO}{loc:Di}{h:Hd}{c0 c1:Dh}{q:Nat}{S bd:D}{pl:List (Nat×Int×D)}
theorem R3{bd:D}{f:Di}(hb: ∀r,(DZ (n+1)).call false 29 [.d S] (σ++r)=some (.d bd,σ++r))(l1:DE loc 95=some (.cell (σ.length+1)))(hr:r.length=p+2):F2 133 0 (nd (DZ (n+2)) sV).ev ((GT (DZ (n+2)) []).map Nd.ev) loc S (σ++r)=some (some (.cell (σ.length+(p+3))),σ++(r++ [EO [] [],Lh σ.length p S bd])):=by
 have ic:=cz (i:=σ.length+1) (r:=r) hb;have mk:=iR (σ:=σ) (h:= .inst 8) (r:=r++ [.lv (.Dg 2 []) []]) (t:= [.d S, .cell (σ.length+1), .cell (σ.length+r.length), .d bd]);rw [hr] at ic mk;rw [π,ε,hr] at mk;refine EL (DG:=(133, .d S)::loc) (DD:=σ++r) rfl FD ?_
 cell_ask ⟨ec,ic⟩
 exact mk
theorem yo:Jt [] [] M:=⟨rfl,λkey v h=>nomatch h⟩
theorem jD{bd:D}(hJ:J=1∨J=2)(hb: ∀r,(DZ (n+1)).call false 29 [.d S] (σ++r)=some (.d bd,σ++r))(l1:DE loc 95=some (.cell (σ.length+1)))(l2:DE loc 134=some (.d (.nd .lst (AA J S)))):
  ∃cs,(nd (DZ (n+2)) qx).ev loc (σ++ [c0,c1])=some (.cell (σ.length+(2*J+2)),σ++c0::c1::cs)∧Cs σ.length J 2 S bd cs:=by
 have t1:=R3 (f:=loc) hb l1 (r:= [c0,c1]) (p:=0) rfl;rcases hJ with rfl|rfl
 ·refine (DM ([EO [] [],Lh σ.length 0 S bd, .lv .lst [.cell (σ.length+3)]]) ?_ ⟨λj hj=> ?_,λj hj=> ?_,_,rfl,λj hj=> ?_⟩)
  ·refine W8 (Pn (Fg l2) HA) (FC t1 KC) ?_
   exact iR
  all_goals (have:j=0:=by exact wU hj);subst this
  ·exact (EK ([]) ([]) rfl yo (by decide))
  ·rfl
  ·rfl
 ·have t2:=R3 (f:=loc) hb l1 (r:= [c0,c1,EO [] [],Lh σ.length 0 S bd]) (p:=2) rfl
  refine (DM ([EO [] [],Lh σ.length 0 S bd,EO [] [],Lh σ.length 2 S bd, .lv .lst [.cell (σ.length+3), .cell (σ.length+5)]]) ?_ ⟨λj hj=> ?_,λj hj=> ?_,_,rfl,λj hj=> ?_⟩)
  ·refine W8 (Pn (Fg l2) HA) (FC t1 (FC t2 KC)) ?_
   exact iR
  all_goals (obtain rfl|rfl:j=0∨j=1:=by exact zqk hj)
  ·exact (EK ([]) ([]) rfl yo (by decide))
  ·exact (EK ([]) ([]) rfl yo (by decide))
  ·rfl
  ·rfl
  ·rfl
  ·rfl
theorem nE{q k a:Nat}{u:V}(e:r[k]?=some (.lv (.inst q) lv))(e2:Dt (DX q) lv a=some u):LG (σ++r) (.cell (σ.length+k)) a (.d x)=some (σ++r.set k (.lv (.inst q) (Jw (DX q) lv a (.d x)))):=DJ rfl (DB (ON e) (DB rfl (DB e2 (congrArg some Sc))))
theorem eC{ks:List Int}(hN:N=σ.length):D5 false N (σ++Dk ks vs::Dv N tr::cs) (.cell (N+1))=some (.d (E2 ks vs tr),σ):=by
 subst hN;have b:Ε σ.length (σ.length+1)=true:=ο (Ζ _ _);refine (LS b).trans ?_;have f0:HN (Ht 4) [.cell (σ.length+0), .d tr] (σ++Dk ks vs::Dv σ.length tr::cs)=some ([MW ks vs,tr],σ++ .fz (MW ks vs)::Dv σ.length tr::cs):=Ma (k:=0) (fl:=vs.map GP) rfl rfl;have f1:Ht FZ (.cell (σ.length+1)) (σ++Dk ks vs::Dv σ.length tr::cs)=some (E2 ks vs tr,(σ++ .fz (MW ks vs)::Dv σ.length tr::cs).set (σ.length+1) (.fz (E2 ks vs tr))):=DB (HT (k:=1)) (DJ f0 rfl);refine DJ f1 ?_
 (exact C9 (AI _ _ (Ζ _ _))<|C9 (HO _) rfl)
abbrev iC:D:=sd [26,14] [EM 1,ref 2]
abbrev dh(P:Nat):D:=sd [26,7,3] [EM 14, .nd .lst ((Fd 3 P).map ref), .int (P:Int)]
abbrev Hp(lp us:List D):List D:=iC::dh lp.length::(lp++us)
theorem bW(hJ:J=1∨J=2)(hN: ∀x∈iM,Jv ks ws bs 3 x)(hb: ∀τ,(DZ (n+5)).call false 29 [.d (E2 ks ws IJ)] τ=some (.d (PX bs),τ))(xi:FP σ.length pv=false)(n5:DT.length=σ.length)(y0:pl.length≤10)(hP: ∀x∈pl,cL J x)
  (hit: ∀r,FV pv (σ++r)=some (pl.map Ll,DT++r)) (Eb: ∀r,Fk (DT++r) 0 pv=some (.d (.int (pl.length:Int)))) (mI: ∀r (i:Nat) x,pl[i]?=some x→E8 (DT++r) pv (.d (.int (i:Int)))=some (.d (Ll x))):
  ∃lp us,lp.length=pl.length∧(∀x∈lp,H0 x)∧(∀x∈us,Sf x)∧2+pl.length+us.length<60∧(DZ (n+7)).call false 36 [.d (.nd .lst (AA J (E2 ks ws IJ))),pv] σ=some (.d (E2 (Fd 1 (2+pl.length+us.length)) (Hp lp us) (Fv 1)),DT):=by
 have s0:(nd (DZ (n+6)) (.mk 50 95 [.mk 26 5 []])).ex [(134, .d (.nd .lst (AA J (E2 ks ws IJ)))),(115,pv)] (σ++ [])=some (.go 0 (DR [(134, .d (.nd .lst (AA J (E2 ks ws IJ)))),(115,pv)] 95 (.cell (DT.length+1))) (σ++ [D1 [],Dv DT.length (sd [] [])])):=by
  refine C9 n5 ?_
  cell_ask ⟨ec,UM⟩
  exact yv
 have s1:(nd (DZ (n+6)) ro).ex (DR [(134, .d (.nd .lst (AA J (E2 ks ws IJ)))),(115,pv)] 95 (.cell (DT.length+1))) (σ++ [D1 [],Dv DT.length (sd [] [])])=some (.go 0 (DR (DR [(134, .d (.nd .lst (AA J (E2 ks ws IJ)))),(115,pv)] 95 (.cell (DT.length+1))) 127 (.d (ref 1))) (σ++ [D1 [.none],Dv DT.length (sd [] [])])):=by
  refine C9 n5 ?_;have ad:=QW (n:=n+4) (σ:=σ) (tr:=sd [] []) (r:= []) (vs:= []) (v:= .none) (by decide)
  cell_ask ⟨FH⟩
  exact ad
 have s2:(nd (DZ (n+6)) vf).ex (DR (DR [(134, .d (.nd .lst (AA J (E2 ks ws IJ)))),(115,pv)] 95 (.cell (DT.length+1))) 127 (.d (ref 1))) (σ++ [D1 [.none],Dv DT.length (sd [] [])])=some (.go 0 (DR (DR (DR [(134, .d (.nd .lst (AA J (E2 ks ws IJ)))),(115,pv)] 95 (.cell (DT.length+1))) 127 (.d (ref 1))) 112 (.d (ref 2))) (σ++ [D1 [.none, .none],Dv DT.length (sd [] [])])):=by
  refine C9 n5 ?_;have ad:=QW (n:=n+4) (σ:=σ) (tr:=sd [] []) (r:= []) (vs:= [.none]) (v:= .none) (by decide)
  cell_ask ⟨FH⟩
  exact ad
 refine DQ (jD (n:=n+4) (σ:=σ) (c0:=D1 [.none, .none]) (c1:=Dv σ.length (sd [] [])) (loc:=DR (DR (DR [(134, .d (.nd .lst (AA J (E2 ks ws IJ)))),(115,pv)] 95 (.cell (DT.length+1))) 127 (.d (ref 1))) 112 (.d (ref 2))) hJ (λr=>hb _) (by refine C9 n5 ?_;fin2) (by fin2)) λcs q1 C1=> ?_;rw [←n5] at q1 C1;refine ES (YK (n:=n+1) (σ:=DT) (tr:=sd [] []) (J:=J) (loc:=DR (DR (DR (DR [(134, .d (.nd .lst (AA J (E2 ks ws IJ)))),(115,pv)] 95 (.cell (DT.length+1))) 127 (.d (ref 1))) 112 (.d (ref 2))) 53 (.cell (DT.length+(2*J+2)))) (by fin2) (pl:=pl) (vs:= [.none, .none]) (cs:=cs) (λx hx=>(hP x hx).1) (show 2+_<_ by lia) C1) λyA q2 C2 O=> ?_;rw [show ((Fd ([D.none,D.none].length+1) pl.length).map λa=>V.d (ref a))=((Fd 3 pl.length).map ref).map .d by exact C9 Δ rfl] at q2;have rN: ∀r i,i<pl.length→ ∃x,cL J x∧E8 (DT++r) pv (.d (.int (i:Int)))=some (.d (Ll x)):=λr i hi=>(DM (pl[i]) (hP _ (A0 hi)) (mI r i _ (Τ hi)));refine Hk (cM (n:=n) (σ:=DT) (tr:=sd [] []) (P:=pl.length) hN (n5▸xi) rN (g:=pl.length) (i:=0) (lp:= []) (us:= []) (cs:=yA) (loc:=DR (DR (DR (DR (DR [(134, .d (.nd .lst (AA J (E2 ks ws IJ)))),(115,pv)] 95 (.cell (DT.length+1))) 127 (.d (ref 1))) 112 (.d (ref 2))) 53 (.cell (DT.length+(2*J+2)))) 83 (.d (.nd .lst ((Fd 3 pl.length).map ref)))) (by exact BP _) rfl (λO h=>absurd h Γ) (λO h=>absurd h Γ) (show 2+pl.length+0+_<_ by lia) C2 ⟨by fin2,by fin2,by fin2,by fin2,by fin2,by fin2⟩) λDG tB lp us q3 r1 r2 r3 A r5=> ?_;rw [show N0 [] pl.length []= [D.none,D.none]++AA pl.length D.none by show D.none::D.none::(AA pl.length D.none++ [])=_;exact C9 (υ _) rfl] at q3;refine (LH lp us r1 r2 r3 r5 ?_)
 have rG:(N0 lp 0 us).length=2+pl.length+us.length:=by
  show (lp++us).length+1+1=_;refine C9 ε ?_;lia
 have p1:(DZ (n+6)).call false 12 [.cell (DT.length+1), .d (.int 2), .d (.int ((0:Nat):Int)), .d (dh lp.length)] (DT++D1 (N0 lp 0 us)::Dv DT.length (sd [] [])::tB)=some (.d .none,DT++D1 (.none::dh lp.length::(lp++us))::Dv DT.length (sd [] [])::tB):=UF (j:=1) (by exact ψ _ _) (by exact zrY rG r5 rfl);have p2:(DZ (n+6)).call false 12 [.cell (DT.length+1), .d (.int 1), .d (.int ((0:Nat):Int)), .d iC] (DT++D1 (.none::dh lp.length::(lp++us))::Dv DT.length (sd [] [])::tB)=some (.d .none,DT++D1 (Hp lp us)::Dv DT.length (sd [] [])::tB):=UF (j:=0) (vs:= .none::dh lp.length::(lp++us)) (BD _) (by show (lp++us).length+1+1<_;refine C9 ε ?_;lia);have rg:FU 0 (pl.length:Int)=some (HV ((0:Nat):Int) pl.length):=Kw (by exact L7 y0 rfl)
 have kl: ∀τ,Fk τ 0 (.d (.nd .lst ((Fd 3 pl.length).map ref)))=some (.d (.int (pl.length:Int))):=λτ=>by
  show some (V.d (.int ((((Fd 3 pl.length).map ref).map V.d).length:Int)))=_
  (exact C9 (ι _)<|C9 (ι _)<|C9 Ij rfl)
 have lm:=A.m;have lr:=A.r;have lq:=A.p;have lk:=A.k;have en:=eC (N:=DT.length) (σ:=DT) (ks:=Fd 1 (Hp lp us).length) (vs:=Hp lp us) (tr:=Fv 1) (cs:=tB) rfl;refine Dr (show (Hp lp us).length=2+pl.length+us.length by show (lp++us).length+1+1=_;rw [ε];lia) ?_;rw [r1] at p1 p2;refine EU rfl rfl (x_go s0 (x_go s1 (x_go s2 (x_go (rq q1) ?_)))) (by exact Dr n5 en)
 cell_ask ⟨hit,q2,Eb,rg,q3,kl,FH⟩
 exact p1
 cell_ask ⟨FH⟩
 exact p2
 cell_ask ⟨nE⟩
end
end
section
mutual open A
variable{n i p P d J:Nat}{σ DT DD r:Store}{v x tr:D}{ws us My lp:List D}{ks bs ln:List Int}{a b par:Int}{pv:V}{loc:Di}{h:Hd}{q:Nat}{Ju:List Nat}{pl:List (Nat×Int×D)}{Fb:List (Int×D)}
abbrev Oh(x:Int×D):D:= .nd (.inst 6) [ref x.1,x.2]
def my(x:Int×D):Prop:= ∃Ju My par,x.2=sd (15::Ju) (ref par::My)∧RN Ju My
def LC(P:Nat)(v:D):Prop:= ∃lp us,lp.length=P∧(∀x∈lp,H0 x)∧(∀x∈us,Sf x)∧2+P+us.length<60∧v=E2 (Fd 1 (2+P+us.length)) (Hp lp us) (Fv 1)
theorem tP{B:Bool}(h:decide (a≤b)=B):FG σ 3 (.d (.int a)) (.d (.int b))=some B:=h▸rfl
theorem XT{α:Type}{f:α→D}: ∀{l:List α} {i:Nat} {x:α},l[i]?=some x→((l.map f).map V.d)[i]?=some (.d (f x)):=λ{l i x} e=>by
 exact C9 (Ay)<|C9 (Ay)<|C9 e rfl
theorem aS{s:Nat}{sh:V}(hN: ∀x∈iM,Jv ks ws bs 3 x)(hb: ∀τ,(DZ (n+5)).call false 29 [.d (E2 ks ws tr)] τ=some (.d (PX bs),τ))(hp:(DZ (n+7)).call false 26 [sh] σ=some (.d (.nd .lst (Fb.map Oh)),σ))(hm:Df false .lst [sh] σ=some (.d (.nd .lst [E2 ks ws tr]),σ))(hP: ∀x∈Fb,my x)(hs:s<Fb.length):
  ∃v,LC 2 v∧(DZ (n+8)).call false 38 [sh, .d (.nd .lst [.int (s:Int), .int ((0:Nat):Int)])] σ=some (.d v,σ):=by
 have e1:Fb[s]?=some Fb[s]:=Τ hs;have h0:0<Fb.length:=by lia
 have e0:Fb[0]?=some Fb[0]:=Τ h0
 have ok: ∀x,x∈ [(0,Fb[s]),(0,Fb[0])]→cL 1 x:=λx hx=>by
  rcases ν.mp hx with rfl|hx
  ·exact ⟨Nat.zero_lt_one,hP _ (A0 _)⟩
  ·cases ς.mp hx;exact ⟨Nat.zero_lt_one,hP _ (A0 _)⟩
 refine IE (bW (n:=n) (σ:=σ) (DT:=σ) (J:=1) (pl:= [(0,Fb[s]),(0,Fb[0])]) (pv:= .d (.nd .lst [Ll (0,Fb[s]),Ll (0,Fb[0])])) (.inl rfl) hN hb rfl rfl (by show 2≤10;decide) ok (λr=>rfl) (λr=>rfl) (λr i x e=>by
  show ([V.d (Ll (0,Fb[s])), .d (Ll (0,Fb[0]))])[i]?=_;rcases i with _|_|i
  ·exact Dr (η e) rfl
  ·exact Dr (η e) rfl
  ·exact nomatch e)) λlp us r1 r2 r3 r4 q=> ?_
 refine (DM _ (LH lp us r1 r2 r3 r4 rfl) ?_)
 have ln: ∀τ,Fk τ 0 (.d (.nd .lst (Fb.map Oh)))=some (.d (.int (Fb.length:Int))):=λτ=>by
  show some (V.d (.int (((Fb.map Oh).map V.d).length:Int)))=_
  (exact C9 (ι _)<|C9 (ι _) rfl)
 have sb: ∀{i:Nat} {x:Int×D} τ,Fb[i]?=some x→E8 τ (.d (.nd .lst (Fb.map Oh))) (.d (.int (i:Int)))=some (.d (Oh x)):=λτ e=>XT e;have d1:decide (((0:Nat):Int)≤(s:Int))=true:=decide_eq_true (by exact AP _);have d2:decide ((s:Int)<(Fb.length:Int))=true:=decide_eq_true (by lia);have d3:decide (((0:Nat):Int)<(Fb.length:Int))=true:=decide_eq_true (by exact qf h0);have d4:decide (((0:Nat):Int)≤((0:Nat):Int))=true:=rfl
 have cg: ∀loc,DE loc 128=some (.d (.nd .lst (Fb.map Oh)))→EA (F2 72 0 (nd (DZ (n+7)) (DF 72)).ev ((GT (DZ (n+7)) [uF]).map Nd.ev) loc) [.int (s:Int), .int ((0:Nat):Int)] σ=some ([],σ):=λloc hl=>by
  refine FC (p:=none) (DD:=σ) (Mj (DG:=(72, .d (.int (s:Int)))::loc) (DD:=σ) rfl ?_) (FC (p:=none) (DD:=σ) (Mj (DG:=(72, .d (.int ((0:Nat):Int)))::loc) (DD:=σ) rfl ?_) KC)
  ·refine Jj (B:=false) (bG (B:=true) ?_) rfl
   apply LV
   cell_ask ⟨tP d1,ln,US d2⟩
  ·refine Jj (B:=false) (bG (B:=true) ?_) rfl
   apply LV
   cell_ask ⟨tP d4,ln,US d3⟩
 have cg2: ∀loc,DE loc 128=some (.d (.nd .lst (Fb.map Oh)))→EA (F2 72 0 (nd (DZ (n+7)) ow).ev ((GT (DZ (n+7)) []).map Nd.ev) loc) [.int (s:Int), .int ((0:Nat):Int)] σ=some ([.d (Ll (0,Fb[s])), .d (Ll (0,Fb[0]))],σ):=λloc hl=>by
  have f: ∀{i:Nat} {x:Int×D},Fb[i]?=some x→F2 72 0 (nd (DZ (n+7)) ow).ev ((GT (DZ (n+7)) []).map Nd.ev) loc (.int (i:Int)) σ=some (some (.d (Ll (0,x))),σ):=λ{i x} e=>by
   have s1:=λτ=>sb τ e;refine EL (DG:=(72, .d (.int (i:Int)))::loc) (DD:=σ) rfl FD ?_
   cell_ask ⟨s1⟩
  exact FC (f e1) (FC (f e0) KC)
 apply DW rfl rfl
 cell_ask ⟨hp,hm,cg,cg2⟩
 exact q
 fin2
end
end
section
mutual open A
variable{n k i d J at_:Nat}{σ DT r:Store}{v x tr:D}{ws us lp:List D}{ks bs ln:List Int}{pv:V}{lv:List V}{loc:Di}{y:Dh}{q:Nat}{pl:List (Nat×Int×D)}{Fb:List (Int×D)}
theorem SU: ∀{Fb:List (Int×D)} {lv:List V} {loc:Di},lv.length+Fb.length<1000→DE loc 115=some (.cell (σ.length+0))→DE loc 44=some (.d (.int (at_:Int)))→
  Ek (nd (DZ n) sI).ex 108 (Fb.map Oh) loc (σ++ [.lv .lst lv])=some (.go 0 (ZZ (σ.length+1) 108 (Fb.map Oh) loc) (σ++ [.lv .lst (lv++Fb.map λx=> .d (Ll (at_,x)))])):=λ{Fb}=>by
 induction Fb with
 |nil=>intro lv loc _ _ _;exact congrArg (λz=>some (HW.go 0 loc (σ++ [Dh.lv .lst z]))) (υ lv).symm
 |cons x Fb ih=>
  intro lv loc hl l1 l2;rw [ξ] at hl;have b1:lv.length+1<big:=by show _<1000000;exact Z6 hl rfl
  have q:=ih (lv:=lv++ [.d (Ll (at_,x))]) (loc:=Du (σ.length+1) [] (DR loc 108 (.d (Oh x)))) (by refine C9 ε ?_;show lv.length+1+_<_;exact Tg hl) (D9 (DH rfl l1) (oO rfl)) (D9 (DH rfl l2) rfl);refine EV (r':= [.lv .lst (lv++ [.d (Ll (at_,x))])]) (DG:=DR loc 108 (.d (Oh x))) ?_ rfl ?_
  ·apply HE
   cell_ask ⟨Nz,Kr,Ho⟩
  ·refine C9 (show (σ++ [Dh.lv .lst lv]).length=σ.length+1 from ε) ?_
   refine q.trans ?_;exact C9 (π _ _ _) rfl
abbrev fI(Fb:List (Int×D)):List (Nat×Int×D):=(Fb.map λx=>(0,x))++Fb.map λx=>(1,x)
theorem YE(hN: ∀x∈iM,Jv ks ws bs 3 x)(hb: ∀τ,(DZ (n+5)).call false 29 [.d (E2 ks ws tr)] τ=some (.d (PX bs),τ))(hp: ∀τ,(DZ (n+7)).call false 26 [.d (E2 ks ws tr)] τ=some (.d (.nd .lst (Fb.map Oh)),τ))(hP: ∀x∈Fb,my x)(hs:Fb.length≤5):
  ∃v,LC (2*Fb.length) v∧(DZ (n+8)).call false 37 [.d (.nd .lst [E2 ks ws tr,E2 ks ws tr])] σ=some (.d v,σ):=by
 have hl:(fI Fb).length=2*Fb.length:=ε.trans (by refine C9 (ι _)<|C9 (ι _) ?_;lia)
 have ok: ∀x∈fI Fb,cL 2 x:=λx hx=>by
  rcases ω.mp hx with hx|hx<;>obtain ⟨y,hy,rfl⟩:=AD.mp hx
  ·exact ⟨Nat.zero_lt_two,hP y hy⟩
  ·exact ⟨Nat.one_lt_two,hP y hy⟩
 obtain ⟨lp,us,r1,r2,r3,r4,q⟩:=bW (n:=n) (σ:=σ++ [.lv .lst (((fI Fb).map Ll).map .d)]) (DT:=σ++ [.fz (.nd .lst ((fI Fb).map Ll))]) (J:=2) (pl:=fI Fb) (pv:= .cell (σ.length+0)) (.inr rfl) hN hb (JB rfl) (by exact C9 ε<|C9 ε rfl) (by lia) ok
  (λr=>by exact C9 (π _ _ _)<|C9 (π _ _ _)<|DJ (bq (k:=0) rfl) rfl)
  (λr=>by
   refine C9 (π _ _ _) ?_;refine DB (Lk (k:=0) rfl) ?_;show some (V.d (.int ((((fI Fb).map Ll).map V.d).length:Int)))=_
   (exact C9 (ι _)<|C9 (ι _) rfl))
  (λr i x e=>by
   refine C9 (π _ _ _) ?_;refine DB rfl (DB (Lk (k:=0) rfl) ?_);exact XT e)
 rw [hl] at r1 r4 q;refine ⟨_,⟨lp,us,r1,r2,r3,r4,rfl⟩, ?_⟩;have lp1:=λ(loc:Di)=>SU (n:=n+7) (σ:=σ) (at_:=0) (Fb:=Fb) (lv:= []) (loc:=loc) (show 0+_<_ by lia);have wo:=λ(loc:Di)=>SU (n:=n+7) (σ:=σ) (at_:=1) (Fb:=Fb) (lv:= []++Fb.map λx=> .d (Ll (0,x))) (loc:=loc) (by refine C9 ε<|C9 (ι _) ?_;show 0+_+_<_;lia)
 have z:([]++Fb.map λx=>V.d (Ll (0,x)))++(Fb.map λx=>V.d (Ll (1,x)))=((fI Fb).map Ll).map .d:=by
  show _=List.map V.d (List.map Ll (fI Fb));exact C9 χ<|C9 χ<|C9 Δ<|C9 Δ<|C9 Δ<|C9 Δ rfl
 have rg:FU 0 (((2:Nat):Int))=some [.int ((0:Nat):Int), .int ((1:Nat):Int)]:=rfl;have ln: ∀τ,Fk τ 0 (.d (.nd .lst [E2 ks ws tr,E2 ks ws tr]))=some (.d (.int ((2:Nat):Int))):=λτ=>rfl;have s0: ∀τ,E8 τ (.d (.nd .lst [E2 ks ws tr,E2 ks ws tr])) (.d (.int ((0:Nat):Int)))=some (.d (E2 ks ws tr)):=λτ=>rfl;have s1: ∀τ,E8 τ (.d (.nd .lst [E2 ks ws tr,E2 ks ws tr])) (.d (.int ((1:Nat):Int)))=some (.d (E2 ks ws tr)):=λτ=>rfl;apply EU rfl rfl
 cell_ask ⟨ln,rg⟩
 refine EV (r':= [.lv .lst ([]++Fb.map λx=> .d (Ll (0,x)))]) (DG:=ZZ (σ.length+1) 108 (Fb.map Oh) (DR (DR [(134, .d (.nd .lst [E2 ks ws tr,E2 ks ws tr]))] 115 (.cell (σ.length+0))) 44 (.d (.int ((0:Nat):Int))))) ?_ rfl (EV (r':= [.lv .lst (((fI Fb).map Ll).map .d)]) (DG:=ZZ (σ.length+1) 108 (Fb.map Oh) (DR (Du (σ.length+1) [] (ZZ (σ.length+1) 108 (Fb.map Oh) (DR (DR [(134, .d (.nd .lst [E2 ks ws tr,E2 ks ws tr]))] 115 (.cell (σ.length+0))) 44 (.d (.int ((0:Nat):Int)))))) 44 (.d (.int ((1:Nat):Int))))) ?_ rfl Jq)
 ·cell_ask ⟨s0,hp,HA,lp1⟩
 ·refine Dr z<|C9 (show (σ++ [Dh.lv .lst []]).length=σ.length+1 from ε) ?_
  cell_ask ⟨s1,hp,HA,wo⟩
 fin2
 exact q
 fin2
 exact O8 _
end
end
section
mutual open A
variable{n k i j P d g:Nat}{keep:Bool}{σ DD m:Store}{v x tr:D}{vs ws us lp:List D}{ks:List Int}{a b:Int}{kl:List DO}{lv:List V}{loc:Di}{h:Hd}{q s:Nat}{S:D}{ss:List Nat}
theorem iY: ∀{vs:List D} {a j:Nat},EG (Fd a vs.length) vs ((a+j:Nat):Int)=vs[j]?:=λ{vs}=>by
 induction vs with
 |nil=>intro a j;rfl
 |cons v vs ih=>
  intro a j;show cond (DO.beq (.i (a:Int)) (.i ((a+j:Nat):Int))) (some v) (EG (Fd (a+1) vs.length) vs ((a+j:Nat):Int))=_;cases j with
  |zero=>
   show cond (DO.beq (.i (a:Int)) (.i (a:Int))) _ _=_;exact C9 (Ff _) rfl
  |succ j=>exact C9 (G6 (a:=(a:Int)) (b:=((a+(j+1):Nat):Int)) (by exact zsf))<|C9 (show a+(j+1)=a+1+j by exact xN) ih
theorem Xb: ∀{m a:Nat},(Fd a m).Nodup:=λ{m}=>by
 induction m with
 |zero=>intro a;exact BB
 |succ m ih=>intro a;exact Η.mpr ⟨λh=>by rw [Ft] at h;lia,ih⟩
theorem H0.at(L:H0 v)(e:EG ks vs a=some v): ∃ss ws ml,v=sd ss ws∧JI ks vs a ss ws ml:=by
 refine Me L.e λss ws Gx h1 h2 h3 h4 h5 O O=> ?_;subst Gx;exact ⟨ss,ws,_,rfl,e, .inl (DM 0 (by decide) (by exact C9 h1<| .stop (k:=11) rfl rfl)),h2,h3,h4,h5⟩
theorem dH: ∀{lp:List D} {a:Nat},(∀x∈lp,H0 x)→(∀i v,lp[i]?=some v→EG ks vs ((a+i:Nat):Int)=some v)→ ∃fs,aJ ks vs ((Fd a lp.length).map λb=>(b, [ref 2])) fs (Fd a lp.length)∧(fs.filter Qv).length=lp.length:=λ{lp}=>by
 induction lp with
 |nil=>intro a _ _;exact (DM ([]) .nil rfl)
 |cons v lp ih=>
  intro a h e;refine UA ((h _ (.head _)).at (e 0 _ rfl)) λss ws ml ij P=> ?_;subst ij;refine DQ (ih (a:=a+1) (λx hx=>h x (.tail _ hx)) (λi v q=>by exact C9 (show a+1+i=a+(i+1) by exact yB)<|e (i+1) v q)) λfs D l=> ?_;exact (DM _ (.pg P D) (congrArg (· +1) l))
theorem LC.at(W:LC P v): ∃lp us m,lp.length=P∧(∀x∈lp,H0 x)∧(∀x∈us,Sf x)∧m<60∧m=(Hp lp us).length∧v=E2 (Fd 1 m) (Hp lp us) (Fv 1)∧ ∀i v,(Hp lp us)[i]?=some v→EG (Fd 1 m) (Hp lp us) ((1+i:Nat):Int)=some v:=by
 refine IE W λlp us r1 r2 r3 r4 jB=> ?_;subst jB;clear W
 have hm:2+P+us.length=(Hp lp us).length:=by
  show _=(lp++us).length+1+1;refine C9 ε ?_;lia
 exact (TT lp us _ r1 r2 r3 r4 hm rfl (λi v e=>by exact C9 hm<|iY.trans e))
theorem OY(W:LC P v):(DZ (n+3)).call false 15 [.d v] σ=some (.d iC,σ):=by
 refine JU W.at λlp us m r1 r2 r3 r4 hm t6 g=> ?_;subst t6;exact Km (k:=1) F4 (.O7 (g 0 _ rfl) (.stop (k:=5) rfl rfl)) (by decide)
theorem MY(W:LC P v): ∃l,l.length=P∧(DZ (n+7)).call false 26 [.d v] σ=some (.d (.nd .lst l),σ):=by
 refine JU W.at λlp us m r1 r2 r3 r4 hm t6 g=> ?_;subst t6;have hl:(Hp lp us).length=lp.length+us.length+2:=congrArg (· +2) ε
 refine DQ (dH (ks:=Fd 1 m) (vs:=Hp lp us) (lp:=lp) (a:=3) r2 (λi v e=>by
  refine C9 (show 3+i=1+(i+2) by lia) ?_;exact g (i+2) v ((Ο (AR.mp e).1).trans e))) λfs D l=> ?_
 have Nd:JC (Fd 1 m) (Hp lp us) 2 [26,7,3] [EM 14, .nd .lst ((Fd 3 lp.length).map ref), .int (lp.length:Int)] ((Fd 3 lp.length).map ref):=⟨g 1 _ rfl, .inl (DM 0 (by decide) (.stop (k:=11) rfl rfl)),rfl,rfl,rfl,rfl,rfl⟩;have sp:=Rh (n:=n) (σ:=σ) (k:=1) (F4 (tr:=Fv 1)) (.O7 (g 0 _ rfl) (.stop (k:=5) rfl rfl)) (by decide) rfl Nd D (Η.mpr ⟨λh=>by rw [Ft] at h;lia,Xb⟩) (by refine C9 Ij ?_;lia);have S:=Wt D
 have ok:=Sz (n:=n) F4 sp (λd hd=>by
  rcases ν.mp hd with rfl|hd
  ·exact .nd Nd
  ·exact S.1 d hd)
 exact (DM _ (by exact C9 (ι _)<|l.trans r1) ok)
theorem MX(W:LC P v):(DZ (n+2)).call false 48 [.d v] σ=some (.d (.nd .lst []),σ):=by
 refine JU W.at λlp us m r1 r2 r3 r4 hm t6 g=> ?_;subst t6
 have sf: ∀x∈Hp lp us,Sf x:=λx hx=>by
  rcases ν.mp hx with rfl|hx
  ·exact .dc _ _ (by decide) (by decide)
  rcases ν.mp hx with rfl|hx
  ·exact .dc _ _ (by decide) (by decide)
  rcases ω.mp hx with hx|hx
  ·refine Me ((r2 x hx).e) λss ws Gx O O O O O h1 h2=> ?_;subst Gx
   exact .dc _ _ h1 h2
  ·exact r3 x hx
 have nu:=Gd (n:=n) (keep:=false) (σ:=σ) (F4 (ks:=Fd 1 m) (vs:=Hp lp us) (tr:=Fv 1)) (by exact C9 Ij<|IL r4 rfl)
 have cg: ∀loc,DE loc 133=some (.d (E2 (Fd 1 m) (Hp lp us) (Fv 1)))→EA (F2 103 0 (nd (DZ (n+1)) (DF 103)).ev ((GT (DZ (n+1)) [qS]).map Nd.ev) loc) ((HD I9 (Fd 1 m)).map .int) σ=some (((HD I9 (Fd 1 m)).map D.int).filterMap λO=>none,σ):=λloc hl=>by
  refine KV λd hd=> ?_;refine DQ (AD.mp hd) λb hb Gx=> ?_;subst Gx;have hb:=Ft.mp (Kz hb);have hi:(b.toNat - 1)<(Hp lp us).length:=by lia
  have e:=g (b.toNat - 1) _ (Τ hi);rw [show ((1+(b.toNat - 1):Nat):Int)=b by lia] at e;have hs:=sf _ (A0 hi);generalize (Hp lp us)[b.toNat - 1]=x at e hs;have sb: ∀τ,E8 τ (.d (MW (Fd 1 m) (Hp lp us))) (.d (.int b))=some (.d (GP x)):=λτ=>GU (ks:=Fd 1 m) (vs:=Hp lp us) rfl e;refine Mj (DG:=(103, .d (.int b))::loc) (DD:=σ) rfl (Jj (B:=false) ?_ rfl);cases hs with
  |dc ss ws h1 h2=>
   have h1:=cY h1;have h2:=cY h2;have i1: ∀s,Dm (ss.map .s) (.s s)=false→FG σ 8 (.d (.sym s)) (.d (sd ss ws))=some false:=λs h=>h▸aM (k:=1) (kl:=ss.map .s) (lv:=ws.map .d) rfl rfl rfl;have i2:=i1 _ h1;have i3:=i1 _ h2
   cell_ask ⟨sb,Ln,i2,i3⟩
  |_=>cell_ask ⟨sb,Ln⟩
 apply DW rfl rfl
 cell_ask ⟨nu,cg⟩
 refine C9 (show ((HD I9 (Fd 1 m)).map D.int).filterMap (λO=>(none:Option V))= [] by generalize (HD I9 (Fd 1 m)).map D.int=l;induction l with|nil=>rfl|cons _ _ ih=>exact ih) ?_
 fin2
end
end
section
mutual open A
variable{n m k:Nat}{σ r:Store}{x:D}{l:List D}{il cl:List Int}{a q:Int}{c:Kb}
theorem Xk: ∀{k:Nat} {il:List Int},Wm k (il.map .int)=(il.take k).map .int:=λ{k}=>by
 induction k with
 |zero=>intro il;rfl
 |succ k ih=>
  intro il;cases il with
  |nil=>rfl
  |cons a il=>exact congrArg (_:: ·) ih
theorem mV:(DZ (n+1)).call true 41 [.d (.nd .lst (il.map .int))] (σ++ [])=some (.cell (σ.length+0),σ++ [Dw (il.take 63) 0 0]):=by
 refine C9 (υ _) ?_;apply EU rfl rfl
 fin2
 refine C9 Xk ?_;refine (KV (g:=λd=>some (.d d)) λd hd=> ?_).trans (congrArg (λz=>some (z,σ++ [])) (congrFun (BU (f:=V.d)) _));refine DQ (AD.mp hd) λa O Gx=> ?_;subst Gx;exact EL (DG:=(103, .d (.int a)):: [(130, .d (.nd .lst (il.map .int)))]) (DD:=σ++ []) rfl FD (xD (Fg rfl) rfl)
 fin2
 exact ME (k:=0) (l:= [.nd .lst ((il.take 63).map .int), .int 0, .int 0]) rfl (λc h=>nomatch h) (λh=>nomatch h)
theorem Xp(n:Nat): ∃(c:Kb) (at':Nat) (q':Int),at'<900∧0≤q'∧EX c∧ ∀n,(DZ (n+5)).call true 44 [.cell (σ.length+0)] (σ++ [Dw (il.take 63) 0 0])=some (.cell (σ.length+2),σ++ [Dw (il.take 63) at' q',Dk c.keys c.vals, .lv (.inst 5) [.cell (σ.length+1), .d (Fv c.r0)]]):=by
 refine Do (YD (cl:=il.take 63) (σ:=σ) (Ρ (List.length_take_le ..) (by decide))) λc a q h1 h2 h3 h4=> ?_;exact (Ea c a q h1 h2 h3 (λn=>h4 (n+2) (ψ _ _)))
end
mutual
theorem TP: ∀x,plain x=true→Ti x x=true
 | .none,_=>rfl
 | .int a,_=>by show Dj a a=true;cases a<;>exact AH _
 | .sym a,_=>AH a
 | .nd h l,e=>by
  have e:((MQ h||PY h)&&plain.FE l)=true:=e;have e:=(A4 _ _).mp e;show (heq h h&&Ti.Vf l l)=true;refine C9 (Pj l e.2) ?_;cases h with
  |tup=>rfl
  |lst=>rfl
  |_=>exact nomatch e.1
theorem Pj: ∀l,plain.FE l=true→Ti.Vf l l=true
 | [],_=>rfl
 |x::l,e=>by
  have e:=(A4 _ _).mp e;show (Ti x x&&Ti.Vf l l)=true;exact C9 (TP x e.1)<|C9 (Pj l e.2) rfl
end
mutual open A
theorem Uy(h:Pl m x)(hm:m≤20)(hn:Jy (.d x)=0):FG σ 1 (.d x) (.d x)=some false:=by
 show GA (Μ (Jy (.d x)) 2) (DN (qA σ (.d x) (.d x)) λr=>some (!r))=_
 have e:qA σ (.d x) (.d x)=some true:=by
  show (match Jy (.d x) with|1=>_|2=>_|_=>og (.d x) (.d x))=_;refine C9 hn ?_;show GA (fits x&&fits x) (some (Ti x x))=_;exact C9 (show fits x=true from (A4 _ _).mpr ⟨h.1,ο (Υ h.2 hm)⟩)<|C9 (TP x h.1) rfl
 exact C9 hn<|C9 e rfl
theorem Ro(h:Pl m x)(hm:m≤20):FG σ 1 (.d x) (.d x)=some false:=by
 cases x with
 |nd hh l=>
  cases l with
  |cons=>exact Uy h hm rfl
  |nil=>
   cases hh with
   |tup=>exact Uy h hm rfl
   |lst=>rfl
   |_=>exact nomatch h.1
 |_=>exact Uy h hm rfl
end
end
section
mutual open A
variable{m k i:Nat}{r:Store}{v:D}{k1 k2 ks:List Int}{v1 v2 vs:List D}{a b:Int}{rows:List F0}{spec:List Dx}{Ks:List (List Int)}
theorem FY:EG (a::ks) (v::vs) a=some v:=by show cond (DO.beq (.i a) (.i a)) (some v) _=_;exact C9 (Ff _) rfl
theorem Em(h:b≠a):EG (b::ks) (v::vs) a=EG ks vs a:=by show cond (DO.beq (.i b) (.i a)) (some v) (EG ks vs a)=_;exact C9 (G6 h) rfl
theorem E4: ∀{k1:List Int} {v1:List D},EG k1 v1 a=some v→EG (k1++k2) (v1++v2) a=some v:=λ{k1}=>by
 induction k1 with
 |nil=>intro v1 e;exact nomatch e
 |cons b k1 ih=>
  intro v1 e;cases v1 with
  |nil=>exact nomatch e
  |cons w v1=>
   by_cases h:b=a
   ·rw [h] at e ⊢;exact FY.trans (FY.symm.trans e)
   ·exact (Em h).trans (ih ((Em h).symm.trans e))
theorem Pd: ∀{k1:List Int} {v1:List D},k1.length=v1.length→a ∉ k1→EG k2 v2 a=some v→EG (k1++k2) (v1++v2) a=some v:=λ{k1}=>by
 induction k1 with
 |nil=>intro v1 l _ e;cases v1 with|nil=>exact e|cons w v1=>exact nomatch l
 |cons b k1 ih=>
  intro v1 l h e;cases v1 with
  |nil=>exact nomatch l
  |cons w v1=>exact (Em λq=>h (by exact C9 q<| .head _)).trans (ih (AK.inj l) (λq=>h (.tail _ q)) e)
theorem Kg: ∀{i:Nat},IF i rows=Fd (30+i) rows.length:=by
 induction rows with
 |nil=>intro i;rfl
 |cons p r ih=>intro i;exact (congrArg (_:: ·) (ih (i:=i+1)))
def pn(m k:Nat):List Int:= [60,61]++Fd 30 m++Fd 20 k++ [3,2,1,43]++ [40]++ [41]++ [42]
def iX(m k:Nat):List Int:= [1,2,3]++(Fd 20 k++(Fd 30 m++ [40,41,42,43,60,61]))
theorem T4: ∀m,m<6→ ∀k,k<4→HD I9 (pn m k)=iX m k∧(iX m k).Nodup∧(pn m k).Nodup∧(pn m k).length<64:=by decide+kernel
inductive Th(rows:List F0):List Dx→List Int→List Int→List Int→Prop
 |one:Th rows [(20,pg 0 0 rows,0)] (pg 0 0 rows) (pg 0 0 rows) (pg 0 0 rows)
 |two:Th rows [(20,21::pg 0 0 rows,0),(21,pg 1 0 rows,20)] (21::pg 0 0 rows) (pg 1 0 rows++pg 0 0 rows) (21::(pg 1 0 rows++pg 0 0 rows))
 |flat:Th rows [(20,21::22::pg 0 0 rows,0),(21,pg 1 0 rows,20),(22,pg 2 0 rows,20)] (21::22::pg 0 0 rows) (pg 1 0 rows++(pg 2 0 rows++pg 0 0 rows)) (21::(pg 1 0 rows++(22::(pg 2 0 rows++pg 0 0 rows))))
 |deep:Th rows [(20,21::pg 0 0 rows,0),(21,22::pg 1 0 rows,20),(22,pg 2 0 rows,21)] (21::pg 0 0 rows) (pg 2 0 rows++(pg 1 0 rows++pg 0 0 rows)) (21::(22::(pg 2 0 rows++(pg 1 0 rows++pg 0 0 rows))))
theorem wm{A:List Int}(T:Ka [A] spec):spec= [(20,A,0)]:=by cases T;rfl
theorem wk{A B:List Int}(T:Ka [A,B] spec):spec= [(20,A,0),(21,B,20)]:=by cases T;rfl
theorem rY{A B C:List Int}(T:Ka [A,B,C] spec):((∃P,A=21::22::P)∧(∀a∈B,30≤a)∧spec= [(20,A,0),(21,B,20),(22,C,20)])∨((∃P,A=21::P∧ ∀a∈P,30≤a)∧(∃P,B=22::P)∧spec= [(20,A,0),(21,B,20),(22,C,21)]):=by
 cases T with
 |flat h0 h1 h2=>exact .inl ⟨(EF _ rfl),h1,rfl⟩
 |deep h0 h1 h2=>exact .inr ⟨(DM _ rfl h0),(EF _ rfl),rfl⟩
theorem mn(T0:Ky Ks)(hr: ∀p∈rows,p.1<Ks.length)(T:Ka (Ik 0 rows Ks) spec):(∃K A N,Th rows spec K A N)∧ ∀p∈rows,p.1<spec.length:=by
 cases T0 with
 |one=>rw [kC hr] at T;exact C9 (wm T)<|⟨(MT _ _ _ .one),hr⟩
 |two=>rw [jO hr] at T;exact C9 (wk T)<|⟨(MT _ _ _ .two),hr⟩
 |flat=>
  rw [XD hr] at T;rcases rY T with ⟨_,_,e⟩|⟨⟨P,e,h⟩,_,_⟩
  ·exact C9 e<|⟨(MT _ _ _ .flat),hr⟩
  ·exact absurd (h 22 (by exact Dr ((Bi.inj e).2)<| .head _)) (by decide)
 |deep=>
  rw [XD hr] at T;rcases rY T with ⟨_,h,_⟩|⟨_,_,e⟩
  ·exact absurd (h 22 (.head _)) (by decide)
  ·exact C9 e<|⟨(MT _ _ _ .deep),hr⟩
end
end
section
mutual open A
variable{n i j:Nat}{r:Store}{v:D}{k1 k2:List Int}{nv:List D}{a:Int}{c:Kb}{rows:List F0}{spec:List Dx}{Ks:List (List Int)}
abbrev n7(p:F0):D:=sd (15::p.2.1) (ref (20+(p.1:Int))::p.2.2)
theorem Kh: ∀{i:Nat},a∈pg j i rows→a∈IF i rows∧ ∃p∈rows,p.1=j∧EG (IF i rows) (K4 rows) a=some (n7 p):=by
 induction rows with
 |nil=>intro i h;exact absurd h Γ
 |cons p r ih=>
  intro i h;have h:a∈(if p.1=j then (30+(i:Int))::pg j (i+1) r else pg j (i+1) r):=h
  have go:a∈pg j (i+1) r→a∈IF i (p::r)∧ ∃q∈p::r,q.1=j∧EG (IF i (p::r)) (K4 (p::r)) a=some (n7 q):=λw=>by
   refine Qw (ih w) λg q hq e t=> ?_;have g2:=Fp a g;exact (cE (.tail _ g) q (.tail _ hq) e ((Em (by lia)).trans t))
  by_cases e:p.1=j
  ·rw [if_pos e] at h
   rcases ν.mp h with w|w
   ·exact C9 w<|(cE (.head _) p (.head _) e FY)
   ·exact go w
  ·rw [if_neg e] at h;exact go h
theorem vj: ∀{spec:List Dx} {nv:List D},DS jQ spec nv→(spec.map λp:Dx=>p.1).Nodup→ ∀p∈spec,∃v,jQ p v∧EG (spec.map λp:Dx=>p.1) nv p.1=some v:=λ{spec nv} h=>by
 induction h with
 |nil=>intro _ p h;exact absurd h Γ
 | @cons q w spec nv r _ ih=>
  intro Fl p hp;have Fl:=Η.mp Fl;rcases ν.mp hp with e|hp
  ·exact C9 e<|(DM w r FY)
  ·refine DQ (ih Fl.2 p hp) λv h1 h2=> ?_
   exact (DM v h1 ((Em λe=>Fl.1 (by exact C9 e<|Ar (f:=λp:Dx=>p.1) hp)).trans h2))
structure Iz(c:Kb)(t:Int→Option D):Prop where
 kQ:t 60=some (EM 13)
 j9:t 61=some (EM 14)
 p: ∀j a,a∈pg j 0 c.rows→ ∃p∈c.rows,p.1=j∧t a=some (n7 p)
 n: ∀p∈c.spec,∃v,jQ p v∧t p.1=some v
 k3:t 3=some Ez
 k2:t 2=some (ref 3)
 k1:t 1=some (ref 2)
 rM:t 43=some Hc
theorem QM(C:EX c):([60,61]++IF 0 c.rows:List Int).length=([EM 13,EM 14]++K4 c.rows).length∧(c.spec.map λp:Dx=>p.1).length=c.nv.length:=⟨congrArg (2+ ·) (WV.trans (ι ..).symm)|>λe=>(Am _ 2).trans (e.trans (Am 2 _)),(ι ..).trans C.nv.length⟩
theorem kT(C:EX c): ∀a∈ [60,61]++IF 0 c.rows++c.spec.map (λp:Dx=>p.1),a=60∨a=61∨(20≤a∧a<40):=λa h=>by
 refine ES C.tree λKs O O T=> ?_;rcases ω.mp h with w|w
 ·rcases ω.mp w with w|w
  ·exact (qJ w).imp id .inl
  ·have:=Fp a w;have:=C.len;exact .inr (.inr ⟨by lia,by exact zrr (by assumption) this rfl⟩)
 ·have:=(Gb T).2.1 a w;exact .inr (.inr ⟨by exact this.1,by exact wG this rfl⟩)
theorem Lu(C:EX c):Iz c (EG c.keys c.vals):=by
 refine Dl (QM C) λl1 l2=> ?_;refine ES C.tree λKs O O T=> ?_;have low:=kT C;have l3:([60,61]++IF 0 c.rows++c.spec.map (λp:Dx=>p.1):List Int).length=([EM 13,EM 14]++K4 c.rows++c.nv).length:=by (exact C9 ε<|C9 (ε (as:= [EM 13,EM 14]++K4 c.rows))<|C9 l1<|C9 l2 rfl)
 have mid: ∀{a v},a=3∨a=2∨a=1∨a=43→EG [3,2,1,43] [Ez,ref 3,ref 2,Hc] a=some v→EG c.keys c.vals a=some v:=λ{a v} ha e=>E4 (E4 (E4 (Pd l3 (λw=>by have:=low a w;lia) e)));refine ⟨E4 (E4 (E4 (E4 (E4 (E4 rfl))))),E4 (E4 (E4 (E4 (E4 (E4 rfl))))),λj a h=> ?_,λp h=> ?_,mid (.inl rfl) rfl,mid (.inr (.inl rfl)) rfl,mid (.inr (.inr (.inl rfl))) rfl,mid (.inr (.inr (.inr rfl))) rfl⟩
 ·refine Qw (Kh h) λg p hp e t=> ?_
  refine (ED p hp e (E4 (E4 (E4 (E4 (E4 (Pd rfl ?_ t)))))))
  have:=Fp a g
  exact λw=>by have:=qJ w;have hl:=C.len;lia
 ·refine DQ (vj C.nv (Gb T).1 p h) λv h1 h2=> ?_
  refine (DM v h1 (E4 (E4 (E4 (E4 (Pd l1 ?_ h2))))));intro w
  have:=(Gb T).2.1 p.1 (Ar h)
  rcases ω.mp w with w|w
  ·have:=qJ w;lia
  ·have:=Fp _ w;lia
end
end
section
mutual open A
variable{n m i j j':Nat}{r:Store}{x:D}{K A N:List Int}{a b:Int}{rows:List F0}{spec:List Dx}
theorem fM(h:a∈pg j i rows)(h':a∈pg j' i rows):j=j':=by
 refine Qw (Kh h) λO p O e t=> ?_;refine Qw (Kh h') λO p' O e' t'=> ?_;have q:n7 p=n7 p':=η (t.symm.trans t');injection q with _ q
 injection q with q _
 injection q with _ q
 injection q with q _
 injection q with q
 lia
theorem Kx: ∀{i:Nat},(pg j i rows).Nodup:=by
 induction rows with
 |nil=>intro i;exact BB
 |cons p r ih=>
  intro i;show (if p.1=j then (30+(i:Int))::pg j (i+1) r else pg j (i+1) r).Nodup
  by_cases e:p.1=j
  ·exact C9 (if_pos e)<|Η.mpr ⟨λh=>by have:=Fp _ (Kh h).1;lia,ih⟩
  ·exact C9 (if_neg e) ih
theorem aw: ∀{i:Nat},(∀p∈rows,p.1<j)→pg j i rows= []:=by
 induction rows with
 |nil=>intro i _;rfl
 |cons p r ih=>
  intro i h;show (if p.1=j then (30+(i:Int))::pg j (i+1) r else pg j (i+1) r)=_;exact C9 (if_neg (AW (h p (.head _))))<|ih λp h'=>h p (.tail _ h')
theorem o6: ∀{i:Nat},(∀p∈rows,p.1<3)→(pg 0 i rows).length+(pg 1 i rows).length+(pg 2 i rows).length=rows.length:=by
 induction rows with
 |nil=>intro i _;rfl
 |cons p r ih=>
  intro i h
  have:=ih (i:=i+1) λp h'=>h p (.tail _ h')
  have hp:=h p (.head _);show (if p.1=0 then (30+(i:Int))::pg 0 (i+1) r else pg 0 (i+1) r).length+(if p.1=1 then (30+(i:Int))::pg 1 (i+1) r else pg 1 (i+1) r).length+(if p.1=2 then (30+(i:Int))::pg 2 (i+1) r else pg 2 (i+1) r).length=r.length+1;rcases p with ⟨q,w⟩;rcases q with _|_|_|q
  ·show (pg 0 (i+1) r).length+1+(pg 1 (i+1) r).length+(pg 2 (i+1) r).length=_;lia
  ·show (pg 0 (i+1) r).length+((pg 1 (i+1) r).length+1)+(pg 2 (i+1) r).length=_;lia
  ·show (pg 0 (i+1) r).length+(pg 1 (i+1) r).length+((pg 2 (i+1) r).length+1)=_;lia
  ·have:q+1+1+1<3:=hp
   lia
structure LA(rows:List F0)(A N:List Int):Prop where
 n:(20::N).Nodup
 m: ∀a∈N,a=21∨a=22∨a∈A
 a: ∀a∈A,∃j,a∈pg j 0 rows
 s: ∀a∈A,a∈N
 l:A.length=rows.length∧N.length<100
 b:rows.length≤5
theorem KU{l1 l2:List Int}(h1:l1.Nodup)(h2:l2.Nodup)(h: ∀a∈l1,a ∉ l2):(l1++l2).Nodup:=AE.mpr ⟨h1,h2,λa ha b hb e=>h a ha (e▸hb)⟩
theorem Vp(T:Th rows spec K A N)(hr: ∀p∈rows,p.1<spec.length)(hl:rows.length≤5):LA rows A N:=by
 have big: ∀{j},∀a∈pg j 0 rows,30≤a:=HS;have h3:spec.length≤3→ ∀p∈rows,p.1<3:=λh p hp=>AQ (hr p hp) h;have dj: ∀{j j' a},j≠j'→a∈pg j 0 rows→a ∉ pg j' 0 rows:=λh w w'=>h (fM w w');have d3: ∀{j j' g0 a},j≠j'→j≠g0→a∈pg j 0 rows→a ∉ pg j' 0 rows++pg g0 0 rows:=λh h' w w'=>(ω.mp w').elim (dj h w) (dj h' w);have no: ∀{l:List Int} {x:Int},x<30→(∀a∈l,30≤a)→x ∉ l:=λhx h w=>by have:=h _ w;exact zrp hx this rfl
 have b2: ∀{j j'},∀a∈pg j 0 rows++pg j' 0 rows,30≤a:=λa w=>(ω.mp w).elim (big a) (big a);have b3: ∀{j j' g0},∀a∈pg j 0 rows++(pg j' 0 rows++pg g0 0 rows),30≤a:=λa w=>(ω.mp w).elim (big a) (b2 a);have c1: ∀{l:List Int} {x y:Int},x≠y→x ∉ l→x ∉ y::l:=λh h' w=>(ν.mp w).elim h h';have ex: ∀{j j' a},a∈pg j 0 rows++pg j' 0 rows→ ∃j,a∈pg j 0 rows:=λw=>(ω.mp w).elim (λh=>(EF _ h)) (λh=>(EF _ h));have ex3: ∀{j j' g0 a},a∈pg j 0 rows++(pg j' 0 rows++pg g0 0 rows)→ ∃j,a∈pg j 0 rows:=λw=>(ω.mp w).elim (λh=>(EF _ h)) ex;have sm:spec.length≤3→(pg 0 0 rows).length+(pg 1 0 rows).length+(pg 2 0 rows).length=rows.length:=λh=>o6 (h3 h);have l2: ∀{j j'},(pg j 0 rows++pg j' 0 rows).length=(pg j 0 rows).length+(pg j' 0 rows).length:=ε;have l3: ∀{j j' g0},(pg j 0 rows++(pg j' 0 rows++pg g0 0 rows)).length=(pg j 0 rows).length+((pg j' 0 rows).length+(pg g0 0 rows).length):=ε.trans (congrArg _ ε);cases T with
 |one=>
  have:=sm (by show 1≤3;decide)
  rw [aw (j:=1) hr,aw (j:=2) λp h=>AQ (hr p h) (by show 1≤2;decide)] at this;exact ⟨Η.mpr ⟨no (by decide) big,Kx⟩,λa h=> .inr (.inr h),λa h=>(EF _ h),λa h=>h,⟨this,Ρ (Nat.le_of_eq this) (by exact L7 hl rfl)⟩,hl⟩
 |two=>
  have:=sm (by show 2≤3;decide)
  rw [aw (j:=2) hr] at this;have e:(pg 1 0 rows++pg 0 0 rows).length=rows.length:=by exact C9 l2<|Dr this<|Am _ _
  exact ⟨Η.mpr ⟨c1 (by decide) (no (by decide) b2),Η.mpr ⟨no (by decide) b2,KU Kx Kx λa=>dj (by decide)⟩⟩,λa h=>(ν.mp h).imp id .inr,λa=>ex,λa h=> .tail _ h,⟨e,by refine C9 ξ<|C9 e ?_;lia⟩,hl⟩
 |flat=>
  have:=sm (by show 3≤3;decide)
  have e:(pg 1 0 rows++(pg 2 0 rows++pg 0 0 rows)).length=rows.length:=by refine C9 l3 ?_;lia
  have e2:(21::(pg 1 0 rows++(22::(pg 2 0 rows++pg 0 0 rows)))).length=rows.length+2:=by refine C9 ξ<|C9 ε<|C9 ξ<|C9 l2 ?_;lia
  have mem: ∀{x:Int},x∈pg 1 0 rows++(22::(pg 2 0 rows++pg 0 0 rows))→x=22∨x∈pg 1 0 rows++(pg 2 0 rows++pg 0 0 rows):=λw=>(ω.mp w).elim (λw=> .inr (Θ _ w)) λw=>(ν.mp w).imp id (Ψ _);have nn: ∀{x:Int},x<30→x≠22→x ∉ pg 1 0 rows++(22::(pg 2 0 rows++pg 0 0 rows)):=λh h' w=>(mem w).elim h' (no h b3);exact ⟨Η.mpr ⟨c1 (by decide) (nn (by decide) (by decide)),Η.mpr ⟨nn (by decide) (by decide),KU Kx (Η.mpr ⟨no (by decide) b2,KU Kx Kx λa=>dj (by decide)⟩) λa h=>c1 (by have:=big a h;lia) (d3 (by decide) (by decide) h)⟩⟩,λa h=>(ν.mp h).imp id mem,λa=>ex3,λa h=> .tail _ ((ω.mp h).elim (Θ _) λw=>Ψ _ (.tail _ w)),⟨e,by refine C9 e2 ?_;lia⟩,hl⟩
 |deep=>
  have:=sm (by show 3≤3;decide)
  have e:(pg 2 0 rows++(pg 1 0 rows++pg 0 0 rows)).length=rows.length:=by refine C9 l3 ?_;lia
  exact ⟨Η.mpr ⟨c1 (by decide) (c1 (by decide) (no (by decide) b3)),Η.mpr ⟨c1 (by decide) (no (by decide) b3),Η.mpr ⟨no (by decide) b3,KU Kx (KU Kx Kx λa=>dj (by decide)) λa=>d3 (by decide) (by decide)⟩⟩⟩,λa h=>(ν.mp h).imp id ν.mp,λa=>ex3,λa h=> .tail _ (.tail _ h),⟨e,by refine C9 ξ<|C9 ξ<|C9 e ?_;lia⟩,hl⟩
end
end
section
mutual open A
variable{n m k j:Nat}{σ r:Store}{v x:D}{k1 k2 ks K A N:List Int}{vs fs:List D}{a b r0:Int}{c:Kb}{rows:List F0}{spec:List Dx}{ss:List Nat}{ws ab:List D}{st:List (Int×List D)}{ns:List Int}{p:Dx}{sh t:V}{fl:List V}
theorem oW(P:RN ss ws)(e:EG ks vs a=some (sd (15::ss) (x::ws)))(e6:EG ks vs 60=some (EM 13)):JI ks vs a (15::ss) (x::ws) [.int 0, .int 0, .int 9, .int 9]:=by
 have f:Kj ks vs 1 (ref 60) (EM 13):= .O7 e6 (.stop (k:=11) rfl rfl);have f':Kj ks vs 0 (EM 13) (EM 13):= .stop (k:=11) rfl rfl;cases P with
 |plain T=>cases T with
  |no=>exact ⟨e, .inr ⟨rfl,rfl⟩,rfl,rfl,rfl,rfl⟩
  |EM=>exact ⟨e, .inl (DM 0 (by decide) f'),rfl,rfl,rfl,rfl⟩
  |ref=>exact ⟨e, .inl (DM 1 (by decide) f),rfl,rfl,rfl,rfl⟩
 |x T _=>cases T with
  |no=>exact ⟨e, .inr ⟨rfl,rfl⟩,rfl,rfl,rfl,rfl⟩
  |EM=>exact ⟨e, .inl (DM 0 (by decide) f'),rfl,rfl,rfl,rfl⟩
  |ref=>exact ⟨e, .inl (DM 1 (by decide) f),rfl,rfl,rfl,rfl⟩
theorem mZ(P:jQ p v)(e:EG ks vs p.1=some v)(e6:EG ks vs 61=some (EM 14)): ∃ss ws,v=sd ss ws∧JC ks vs p.1 ss ws (p.2.1.map ref):=by
 have f:Kj ks vs 1 (ref 61) (EM 14):= .O7 e6 (.stop (k:=11) rfl rfl);have f':Kj ks vs 0 (EM 14) (EM 14):= .stop (k:=11) rfl rfl;refine UA P λc ss ws F ev=> ?_;clear P;refine (Gp ss ws ev ?_);rw [ev] at e;cases F with
 |top _ T=>cases T with
  |no=>exact ⟨e, .inr rfl,rfl,rfl,rfl,rfl,rfl⟩
  |EM=>exact ⟨e, .inl (DM 0 (by decide) f'),rfl,rfl,rfl,rfl,rfl⟩
  |ref=>exact ⟨e, .inl (DM 1 (by decide) f),rfl,rfl,rfl,rfl,rfl⟩
 |sub _ T=>cases T with
  |no=>exact ⟨e, .inr rfl,rfl,rfl,rfl,rfl,rfl⟩
  |EM=>exact ⟨e, .inl (DM 0 (by decide) f'),rfl,rfl,rfl,rfl,rfl⟩
  |ref=>exact ⟨e, .inl (DM 1 (by decide) f),rfl,rfl,rfl,rfl,rfl⟩
abbrev fF(ks:List Int)(vs:List D)(a:Int):Int×D:=(a,(EG ks vs a).getD .none)
def PgA(ks:List Int)(vs:List D)(a:Int):Prop:= ∃ss ws,JI ks vs a ss ws [.int 0, .int 0, .int 9, .int 9]
def yI(ks:List Int)(vs:List D)(a:Int)(kl:List Int):Prop:= ∃ss ws,JC ks vs a ss ws (kl.map ref)
abbrev zT(fs:List D):List D:=(fs.filter Qv).map bm
def cG(ks:List Int)(vs:List D)(st:List (Int×List D))(ns A:List Int):Prop:= ∃fs,aJ ks vs st fs ns∧zT fs=A.map λa=>Oh (fF ks vs a)
theorem cG.Fb: ∀{B:List Int},(∀a∈B,PgA ks vs a)→cG ks vs st ns A→cG ks vs (B.map (λb=>(b,ab))++st) (B++ns) (B++A):=λ{B}=>by
 induction B with
 |nil=>intro _ h;exact h
 |cons a B ih=>
  intro h q;refine DQ (ih (λx hx=>h x (.tail _ hx)) q) λfs d e=> ?_;refine HY (h a (.head _)) λss ws P=> ?_;refine (DM _ (.pg P d) ?_);show D.nd (.inst 6) [ref a,sd ss ws]::zT fs=Oh (a,(EG ks vs a).getD .none)::_;exact C9 e<|C9 P.e rfl
theorem cG.node{kl:List Int}(h:yI ks vs a kl)(hl:ab.length<100)(q:cG ks vs (kl.map (λb=>(b,ab++ [ref a]))++st) ns A):cG ks vs ((a,ab)::st) (a::ns) A:=by
 refine HY h λss ws P=> ?_;clear h;refine DQ q λfs d e=> ?_;clear q;exact (DM _ (.nd P hl d) e)
theorem cG.nil:cG ks vs [] [] []:=(DM ([]) .nil rfl)
theorem fq(T:Th rows spec K A N)(hp: ∀j,∀a∈pg j 0 rows,PgA ks vs a)(hn: ∀p∈spec,yI ks vs p.1 p.2.1):yI ks vs 20 K∧cG ks vs (K.map λb=>(b, [ref 20])) N A:=by
 have e: ∀{l:List Int} {f:Int→Int×List D},l.map f++ []=l.map f:=υ _;have one: ∀j,cG ks vs ((pg j 0 rows).map (λb=>(b, [ref 20]))++ []) (pg j 0 rows++ []) (pg j 0 rows++ []):=λj=> .Fb (hp j) .nil
 have one: ∀j,cG ks vs ((pg j 0 rows).map (λb=>(b, [ref 20]))) (pg j 0 rows) (pg j 0 rows):=λj=>by
  have:=one j
  rw [υ,υ] at this;exact this
 cases T with
 |one=>exact ⟨hn _ (.head _),one 0⟩
 |two=>exact ⟨hn _ (.head _), .node (hn (21,pg 1 0 rows,20) (.tail _ (.head _))) (by show 1<100;decide) (.Fb (hp 1) (one 0))⟩
 |flat=>exact ⟨hn _ (.head _), .node (hn (21,pg 1 0 rows,20) (.tail _ (.head _))) (by show 1<100;decide) (.Fb (hp 1) (.node (hn (22,pg 2 0 rows,20) (.tail _ (.tail _ (.head _)))) (by show 1<100;decide) (.Fb (hp 2) (one 0))))⟩
 |deep=>exact ⟨hn _ (.head _), .node (hn (21,22::pg 1 0 rows,20) (.tail _ (.head _))) (by show 1<100;decide) (.node (hn (22,pg 2 0 rows,21) (.tail _ (.tail _ (.head _)))) (by show 2<100;decide) (.Fb (hp 2) (.Fb (hp 1) (one 0))))⟩
structure Tk(ks:List Int)(vs:List D)(r0:Int)(A N:List Int):Prop where
 s: ∀n σ sh fl t,Sh σ sh ks vs (Fv r0) fl t→ ∃fs,(∀d∈fs,nF ks vs d)∧fs.map eM=20::N∧zT fs=A.map (λa=>Oh (fF ks vs a))∧ ∀r,(DZ (n+5)).call false 23 [sh] (σ++r)=some (.d (.nd .lst fs),σ++r)
theorem LL(C:Iz c (EG ks vs))(hr: ∀p∈c.rows,RN p.2.1 p.2.2)(T:Th c.rows c.spec K A N)(F:LA c.rows A N)(h0:0<r0∧r0<4):Tk ks vs r0 A N:=by
 have ⟨⟨s2,w2,N2⟩,fs,d,e⟩:=fq T (λj a h=>ES (C.p j a h) λp hp O e=>(TW _ _ (oW (hr p hp) e C.kQ))) (λp h=>DQ (C.n p h) λv h1 h2=>GD (mZ h1 h2 C.j9) λss ws O h3=>(TW ss ws h3));have f3:Kj ks vs 1 (ref 3) Ez:= .O7 C.k3 (.stop (k:=5) rfl rfl)
 have f: ∃k,k<30∧Kj ks vs k (ref r0) Ez:=by
  have:r0=1∨r0=2∨r0=3:=by exact oM h0
  rcases this with e|e|e
  ·exact C9 e<|(DM 3 (by decide) (.O7 C.k1 (.O7 C.k2 f3)))
  ·exact C9 e<|(DM 2 (by decide) (.O7 C.k2 f3))
  ·exact C9 e<|(DM 1 (by decide) f3)
 refine DQ f λk hk f=> ?_;have S:=Wt d;have nl:=F.l.2;refine ⟨λn σ sh fl t H=>(J8 (SN 20 (sd s2 w2) (.nd .tup [])::fs) (λd hd=> ?_) (congrArg (20:: ·) S.2) e (λr=>Rh (H.app (r:=r)) f hk rfl N2 d F.n (by exact IL nl rfl)))⟩;rcases ν.mp hd with w|w
 ·exact C9 w<| .nd N2
 ·exact S.1 d w
theorem Tk.Ww(S:Tk ks vs r0 A N)(H:Sh σ sh ks vs (Fv r0) fl t):(DZ (n+7)).call false 26 [sh] σ=some (.d (.nd .lst (A.map λa=>Oh (fF ks vs a))),σ):=by
 refine KX (S.s n σ sh fl t H) λfs h1 h2 h3 h4=> ?_;refine Dr h3 ?_;have h4:=h4 [];rw [υ] at h4;exact Sz H h4 h1
def MG(r0:Int):List Int:=cond (decide (r0=1)) [1,2,3] (cond (decide (r0=2)) [2,3] [3])
theorem pJ(C:Iz c (EG ks vs))(h0:0<r0∧r0<4):mE ks vs r0 (MG r0):=by
 have f3:mE ks vs 3 [3]:= .stop C.k3 (k:=5) rfl rfl
 have:r0=1∨r0=2∨r0=3:=by exact oM h0
 rcases this with e|e|e
 ·exact C9 e<| .O7 C.k1 (.O7 C.k2 f3)
 ·exact C9 e<| .O7 C.k2 f3
 ·exact C9 e f3
theorem uK:MG r0= [1,2,3]∨MG r0= [2,3]∨MG r0= [3]:=by
 show cond (decide (r0=1)) [1,2,3] (cond (decide (r0=2)) [2,3] [3])=_∨cond (decide (r0=1)) [1,2,3] (cond (decide (r0=2)) [2,3] [3])=_∨cond (decide (r0=1)) [1,2,3] (cond (decide (r0=2)) [2,3] [3])=_;cases decide (r0=1) with
 |true=>exact .inl rfl
 |false=>cases decide (r0=2) with
  |true=>exact .inr (.inl rfl)
  |false=>exact .inr (.inr rfl)
theorem QR:(∀a∈MG r0,0<a∧a<4)∧(MG r0).Nodup∧(MG r0).length<4∧3∈MG r0:=by
 rcases uK (r0:=r0) with e|e|e
 ·refine C9 e ?_;decide
 ·refine C9 e ?_;decide
 ·refine C9 e ?_;decide
theorem vk(C:Iz c (EG ks vs))(S:Tk ks vs r0 A N)(F:LA c.rows A N)(h0:0<r0∧r0<4)(H:Sh σ sh ks vs (Fv r0) fl t):(DZ (n+6)).call false 29 [sh] σ=some (.d (PX ((20::N)++MG r0)),σ):=by
 refine KX (S.s n σ sh fl t H) λfs h1 h2 h3 h4=> ?_;refine Oa (QR (r0:=r0)) λl0 l1 l3 O=> ?_;have l2:=F.l.2;refine ZE H h4 h1 h2 (pJ C h0) (KU F.n l1 λa ha w=> ?_) (by refine C9 ξ ?_;lia)
 have:=l0 a w
 rcases ν.mp ha with e|e
 ·exact yU this e rfl
 ·rcases F.m a e with e|e|e
  ·exact yU this e rfl
  ·exact yU this e rfl
  ·refine D3 (F.a a e) λj h=> ?_
   have:=HS a h;exact zrM (by assumption) this rfl
end
end
section
mutual open A
variable{n m k:Nat}{σ:Store}{x:D}{ks bs as:List Int}{vs:List D}{a b:Int}{ss es:List Nat}{p:Dx}{t:V}{e:Nat}
abbrev tU(a:Int):D:= .nd .tup [.sym 120, .int a, .int 0]
abbrev al(a:Int):D:= .nd .tup [.sym 75, .int a]
def tL:Nat→List D
 |0=> [.sym 56, .nd .tup [.sym 12,tU 43], .nd .tup [.sym 14,tU 20]]
 |1=> [.sym 56, .nd .tup [.sym 10, .nd .tup [.sym 42,al 0,al 0,al 9,al 9]], .nd .tup [.sym 15,tU 20]]
 |2=> [.sym 42,al 5]
 |3=> [.sym 56, .nd .tup [.sym 28,tU 40]]
 |4=> [.sym 120, .int 2, .int 0]
 |5=> [.sym 120, .int 3, .int 0]
 |6=> [.sym 56, .nd .tup [.sym 9,al 1]]
 |7=> [.sym 99, .sym 13]
 |_=> [.sym 99, .sym 14]
abbrev tD(e:Nat):D:= .nd .tup (tL e)
def vD:Nat→D
 |4=>ref 2
 |5=>ref 3
 |6=>Hc
 |7=>EM 13
 |8=>EM 14
 |z=>Hv z
abbrev kx(e:Nat):DO:= .t (FW (tD e))
theorem jr: ∀e,e<9→ ∀e',e'<9→DO.beq (kx e) (kx e')=μ e e':=by decide+kernel
theorem ou: ∀e,e<9→(Je (tD e)&&Ε (ei (tD e)) 8&&Ε (FW (tD e)).length 1000000)=true:=by decide+kernel
theorem bp(h:e<9):Pp (tD e)=some (.d (.str (FW (tD e)))):=D7 (ou e h) rfl
theorem Ud:G5 2 (ref a) (tU a):=λn keep σ h=>by refine DQ (Ew (a:=0) 2 h) λm e O=> ?_;exact C9 e br
theorem Uc:G5 2 (.int a) (al a):=λn keep σ h=>by refine DQ (Ew (a:=0) 2 h) λm e O=> ?_;exact C9 e Rk
theorem oH{s:Nat}:G5 2 (EM s) (.nd .tup [.sym 99, .sym s]):=λn keep σ h=>by refine DQ (Ew (a:=0) 2 h) λm e O=> ?_;exact C9 e SQ
theorem uP:G5 3 HH (.nd .tup [.sym 42,al 0,al 0,al 9,al 9]):=Np (k:=1) (.cons Uc (.cons Uc (.cons Uc (.cons Uc .nil)))) (by decide)
theorem TC(h:e<9):G5 4 (vD e) (tD e):=by
 cases e,h using pB with
 |h0=>exact (JD (k:=1) (ss:= [14,12]) (vs:= [ref 20,ref 43]) (by decide) (by decide) (.cons (FL _ _ rfl rfl rfl Ud) (.cons (FL _ _ rfl rfl rfl Ud) .nil))).up (by decide)
 |h1=>exact (JD (k:=2) (ss:= [10,15]) (vs:= [HH,ref 20]) (by decide) (by decide) (.cons (FL _ _ rfl rfl rfl uP) (.cons (FL _ _ rfl rfl rfl (Ud.up (by decide))) .nil)))
 |h2=>exact (Np (k:=1) (.cons Uc .nil) (by decide)).up (by decide)
 |h3=>exact (JD (k:=1) (ss:= [28]) (vs:= [ref 40]) (by decide) (by decide) (.cons (FL _ _ rfl rfl rfl Ud) .nil)).up (by decide)
 |h4=>exact Ud.up (by decide)
 |h5=>exact Ud.up (by decide)
 |h6=>exact (JD (k:=1) (ss:= [9]) (vs:= [.int 1]) (by decide) (by decide) (.cons (FL _ _ rfl rfl rfl Uc) .nil)).up (by decide)
 |h7=>exact oH.up (by decide)
 |h8=>exact oH.up (by decide)
theorem gn(h:e<9):KE (vD e):=by
 cases e,h using pB with
 |h0=>exact .Dg rfl
 |h1=>exact .Dg rfl
 |h2=>exact .lst _
 |h3=>exact .Dg rfl
 |h4=>exact .ref _
 |h5=>exact .ref _
 |h6=>exact .Dg rfl
 |h7=>exact .EM _
 |h8=>exact .EM _
theorem bR(hb:a ∉ bs)(h:EG ks vs a=some (vD e))(he:e<9):YN ks vs bs 4 (a,some (tD e)):= .see hb h (gn he) (TC he) (bp he)
def mz:List Nat→List Int→Nat→Option Int
 |e::es,a::as,x=>cond (μ e x) (some a) (mz es as x)
 |_,_,_=>none
def gM:List (Int×Nat)→List Nat→List Int→List (Int×Int)→List (Int×Int)
 | [],_,_,w=>w
 |p::l,es,as,w=>match mz es as p.2 with
  |some b=>gM l es as (w++ [(p.1,b)])
  |none=>gM l (es++ [p.2]) (as++ [p.1]) w
abbrev wK(w:List (Int×Int)):List DO:=(w.map λp=>p.1).map λa=> .p a 0
abbrev wV(w:List (Int×Int)):List D:=w.map λp=>FN p.2
theorem aU: ∀{es:List Nat} {as:List Int},e<9→(∀x∈es,x<9)→DU (es.map kx) (as.map FN) (kx e)=(mz es as e).map FN:=λ{es}=>by
 induction es with
 |nil=>intro as _ _;rfl
 |cons x es ih=>
  intro as h h';cases as with
  |nil=>rfl
  |cons b as=>
   show cond (DO.beq (kx x) (kx e)) (some (FN b)) (DU (es.map kx) (as.map FN) (kx e))=(cond (μ x e) (some b) (mz es as e)).map FN;refine C9 (jr x (h' x (.head _)) e h)<|C9 (ih h λy hy=>h' y (.tail _ hy)) ?_
   cases μ x e<;>rfl
theorem fZ: ∀{es:List Nat} {as:List Int},es.length=as.length→mz es as e=none→e<9→(∀x∈es,x<9)→Dm (es.map kx) (kx e)=false:=λ{es as} l h he h'=>L8 (vs:=as.map FN) (by (exact C9 (ι _)<|C9 (ι _)<|C9 l rfl)) (by exact C9 (aU he h')<|C9 h rfl)
theorem fg{z:ZU}{y:D}(h:DU z.fk z.fv (.t (FW x))=some y):ZV z a x=⟨z.fk,z.fv,D2 z.tk (.p a 0),Dz z.tk z.tv (.p a 0) y⟩:=by unfold ZV;(exact C9 h rfl)
theorem pb{z:ZU}(h:DU z.fk z.fv (.t (FW x))=none):ZV z a x=⟨D2 z.fk (.t (FW x)),Dz z.fk z.fv (.t (FW x)) (FN a),z.tk,z.tv⟩:=by unfold ZV;(exact C9 h rfl)
def uA(l:List (Int×Nat))(z:ZU)(w:List (Int×Int)):Prop:=(Te (l.map λp=>(p.1,some (tD p.2))) z).tk=wK w∧(Te (l.map λp=>(p.1,some (tD p.2))) z).tv=wV w
theorem oU: ∀{l:List (Int×Nat)} {es:List Nat} {as:List Int} {w:List (Int×Int)},(∀p∈l,p.2<9)→(∀x∈es,x<9)→es.length=as.length→(w.map (λp=>p.1)++l.map (λp=>p.1)).Nodup→
  uA l ⟨es.map kx,as.map FN,wK w,wV w⟩ (gM l es as w):=λ{l}=>by
 induction l with
 |nil=>intro es as w _ _ _ _;exact ⟨rfl,rfl⟩
 |cons p l ih=>
  intro es as w h h' hl Fl;have he:=h p (.head _);have look:=aU (as:=as) he h';have h2: ∀q∈l,q.2<9:=λq hq=>h q (.tail _ hq);have pG:(w.map (λp=>p.1)++p.1::l.map (λp=>p.1)).Nodup:=Fl;show uA l (ZV ⟨es.map kx,as.map FN,wK w,wV w⟩ p.1 (tD p.2)) (match mz es as p.2 with|some b=>gM l es as (w++ [(p.1,b)])|none=>gM l (es++ [p.2]) (as++ [p.1]) w);cases q:mz es as p.2 with
  |some b=>
   have hp:p.1 ∉ w.map λp=>p.1:=λhm=>(AE.mp pG).2.2 _ hm _ (.head _) rfl;have e1:D2 (wK w) (.p p.1 0)=wK (w++ [(p.1,b)]):=(EN (hX hp)).trans (by show _=((w++ [(p.1,b)]).map λp=>p.1).map λa=>DO.p a 0;exact C9 χ<|C9 χ rfl);have e2:Dz (wK w) (wV w) (.p p.1 0) (FN b)=wV (w++ [(p.1,b)]):=(Eg (hX hp) (by (exact C9 (ι _)<|C9 (ι _)<|C9 (ι _) rfl))).trans (by show _=(w++ [(p.1,b)]).map λp=>FN p.2;exact C9 χ rfl);refine C9 (fg (z:=⟨es.map kx,as.map FN,wK w,wV w⟩) (look.trans (by rw [q];rfl))) ?_;show uA l ⟨es.map kx,as.map FN,D2 (wK w) (.p p.1 0),Dz (wK w) (wV w) (.p p.1 0) (FN b)⟩ _;refine C9 e1<|C9 e2 ?_
   exact ih h2 h' hl (by exact C9 χ<|C9 (π _ _ _) pG)
  |none=>
   have no:=fZ hl q he h';have e1:D2 (es.map kx) (kx p.2)=(es++ [p.2]).map kx:=(EN no).trans (by exact C9 χ rfl);have e2:Dz (es.map kx) (as.map FN) (kx p.2) (FN p.1)=(as++ [p.1]).map FN:=(Eg no (by (exact C9 (ι _)<|C9 (ι _)<|C9 hl rfl))).trans (by exact C9 χ rfl);refine C9 (pb (z:=⟨es.map kx,as.map FN,wK w,wV w⟩) (look.trans (by rw [q];rfl))) ?_;show uA l ⟨D2 (es.map kx) (kx p.2),Dz (es.map kx) (as.map FN) (kx p.2) (FN p.1),wK w,wV w⟩ _;refine C9 e1<|C9 e2 ?_
   exact ih h2 (λx hx=>(ω.mp hx).elim (h' x) λe=>(ς.mp e)▸he) (by exact C9 ε<|C9 ε<|C9 hl rfl) (List.Nodup.sublist (List.Sublist.append (List.Sublist.refl _) (List.sublist_cons_self _ _)) pG)
end
end
section
mutual open A
variable{n m j:Nat}{σ r:Store}{v x:D}{k1 k2 ks K A N bs as mid:List Int}{vs:List D}{a b r0:Int}{c:Kb}{rows:List F0}{es:List Nat}{p:Dx}{sh t:V}{fl:List V}{e:Nat}{tl:List (Int×Nat)}{w:List (Int×Int)}
def RV(z0 z1 z2:Nat):List (Int×Int):=cond (μ z1 z0) [(41,40)] []++cond (μ z2 z0) [(42,40)] (cond (μ z2 z1) [(42,41)] [])
def gW(z0 z1 z2:Nat):List (Int×Nat):= [(40,z0),(41,z1),(42,z2),(43,6),(60,7),(61,8)]
def Qr(z0 z1 z2:Nat):List (Int×Nat):= [(40,z0)]++(cond (μ z1 z0) [] [(41,z1)]++(cond (μ z2 z0) [] (cond (μ z2 z1) [] [(42,z2)])++ [(43,6),(60,7),(61,8)]))
def gb(r0:Int):List (Int×Nat):=cond (decide (r0=1)) [] (cond (decide (r0=2)) [(1,4)] [(1,4),(2,5)])
abbrev wF(r0:Int)(z0 z1 z2:Nat):Prop:=gM (gb r0++gW z0 z1 z2) [] [] []=RV z0 z1 z2∧gM (gb r0++Qr z0 z1 z2) [] [] []= []∧((Qr z0 z1 z2).map λp=>p.1).Nodup
set_option synthInstance.maxHeartbeats 400000 in
set_option synthInstance.maxSize 4096 in
theorem ny: ∀z0,z0<4→ ∀z1,z1<4→ ∀z2,z2<4→wF 1 z0 z1 z2∧wF 2 z0 z1 z2∧wF 3 z0 z1 z2:=by decide+kernel
abbrev sm(p:Int×Nat):Int×Option D:=(p.1,some (tD p.2))
abbrev e7(a:Int):Int×Option D:=(a,none)
def wR(r0:Int):List (Int×Option D):=cond (decide (r0=1)) [e7 1,e7 2,e7 3] (cond (decide (r0=2)) [sm (1,4),e7 2,e7 3] [sm (1,4),sm (2,5),e7 3])
theorem N6: ∀{l:List Int} {r:List (Int×Option D)} {z:ZU},Te (l.map e7++r) z=Te r z:=λ{l}=>by
 induction l with
 |nil=>intro r z;rfl
 |cons a l ih=>intro r z;exact ih
theorem r3(h:0<r0∧r0<4):r0=1∨r0=2∨r0=3:=by exact oM h
theorem oI(h:0<r0∧r0<4):Te (wR r0++(mid.map e7++tl.map sm)) ⟨[], [], [], []⟩=Te ((gb r0++tl).map sm) ⟨[], [], [], []⟩:=by
 rcases r3 h with e|e|e
 ·exact C9 e N6
 ·exact C9 e N6
 ·exact C9 e N6
theorem n8(h:0<r0∧r0<4):(wR r0).map (λp=>p.1)= [1,2,3]:=by
 rcases r3 h with e|e|e<;>refine C9 e ?_<;>rfl
theorem mO(C:Iz c (EG ks vs))(h:0<r0∧r0<4)(hb: ∀a,0<a→a<4→(a∈bs↔a∈MG r0)): ∀p∈wR r0,YN ks vs bs 4 p:=by
 have y: ∀{a v},EG ks vs a=some v→0<a∧a<4∧a∈MG r0→YN ks vs bs 4 (e7 a):=λe w=> .skip e ((hb _ w.1 w.2.1).mpr w.2.2);have s: ∀{a e},EG ks vs a=some (vD e)→e<9→0<a∧a<4∧a ∉ MG r0→YN ks vs bs 4 (sm (a,e)):=λe he w=>bR (λq=>w.2.2 ((hb _ w.1 w.2.1).mp q)) e he
 have l3: ∀{q1 q2 q3:Int×Option D},YN ks vs bs 4 q1→YN ks vs bs 4 q2→YN ks vs bs 4 q3→ ∀p∈ [q1,q2,q3],YN ks vs bs 4 p:=λh1 h2 h3 p hp=>by
  rcases ν.mp hp with w|hp
  ·exact C9 w h1
  rcases ν.mp hp with w|hp
  ·exact C9 w h2
  ·exact C9 (ς.mp hp) h3
 rcases r3 h with e|e|e
 ·rw [e] at y s ⊢;exact l3 (y C.k1 (by decide)) (y C.k2 (by decide)) (y C.k3 (by decide))
 ·rw [e] at y s ⊢;exact l3 (s C.k1 (by decide) (by decide)) (y C.k2 (by decide)) (y C.k3 (by decide))
 ·rw [e] at y s ⊢;exact l3 (s C.k1 (by decide) (by decide)) (s C.k2 (by decide) (by decide)) (y C.k3 (by decide))
theorem pe(h:0<r0∧r0<4):(∀p∈gb r0,p.2<9∧p.1<4)∧((gb r0).map λp=>p.1).Nodup:=by
 rcases r3 h with e|e|e<;>refine C9 e ?_<;>decide
theorem aC(F:LA rows A N): ∀a∈20::N,20≤a∧a<40:=λa ha=>by
 rcases ν.mp ha with e|e
 ·exact x9 e rfl
 ·rcases F.m a e with e|e|e
  ·exact x9 e rfl
  ·exact x9 e rfl
  ·refine D3 (F.a a e) λj h=> ?_
   refine Dl (Kh h) λh1 O=> ?_
   have:=Fp a h1
   have:=F.l.1
   have:=F.b
   lia
theorem o0(F:LA rows A N)(g1:0<a)(g2:a<4):a∈(20::N)++MG r0↔a∈MG r0:=⟨λw=>(ω.mp w).elim (λw=>by have:=aC F a w;lia) id,λw=>Ψ _ w⟩
theorem NN(F:LA rows A N)(g:40≤a):a ∉ (20::N)++MG r0:=λw=>(ω.mp w).elim (λw=>by have:=aC F a w;exact zrm this g rfl) (λw=>by have:=QR.1 a w;exact zrM this g rfl)
theorem TX(C:Iz c (EG ks vs))(S:Tk ks vs r0 A N)(F:LA c.rows A N)(h0:0<r0∧r0<4)(hl:ks.length<64)(Xt:HD I9 ks= [1,2,3]++(mid++tl.map λp=>p.1))(xT: ∀a∈mid,a∈20::N∧ ∃v,EG ks vs a=some v)
  (yL: ∀p∈tl,p.2<9∧40≤p.1∧EG ks vs p.1=some (vD p.2)) (Fl:(tl.map λp=>p.1).Nodup) (hw:gM (gb r0++tl) [] [] []=w) (H:Sh σ sh ks vs (Fv r0) fl t):(DZ (n+8)).call false 39 [sh] σ=some (.d (.nd (.Dg 2 (wK w)) (wV w)),σ):=by
 have hb: ∀a,0<a→a<4→(a∈(20::N)++MG r0↔a∈MG r0):=λa=>o0 F;have nb: ∀a,40≤a→a ∉ (20::N)++MG r0:=λa=>NN F;have h3:=pe h0
 have Q:uA (gb r0++tl) ⟨[], [], [], []⟩ (gM (gb r0++tl) [] [] []):=oU (es:= []) (as:= []) (w:= []) (λp hp=>(ω.mp hp).elim (λq=>(h3.1 p q).1) λq=>(yL p q).1) (λx hx=>nomatch hx) rfl (by
  show ((gb r0++tl).map λp=>p.1).Nodup;refine C9 χ ?_;refine KU h3.2 Fl λa ha w=> ?_;refine DQ (AD.mp ha) λp hp e=> ?_;refine DQ (AD.mp w) λq hq e'=> ?_
  have:=(h3.1 p hp).2
  have:=(yL q hq).2.1
  lia)
 have ok:=aq (n:=n) (rows:=wR r0++(mid.map e7++tl.map sm)) (bs:=(20::N)++MG r0) (K:=4) H hl (λr=>Xy (vk C S F h0 H.app)) (λp hp=>by
  rcases ω.mp hp with w|w
  ·exact mO C h0 hb p w
  ·rcases ω.mp w with w|w
   ·refine DQ (AD.mp w) λa ha e=> ?_
    refine r9 (xT a ha) λh1 v h2=> ?_;exact Dr e<| .skip h2 (Θ _ h1)
   ·refine DQ (AD.mp w) λq hq e=> ?_
    refine ET (yL q hq) λh1 h2 h3=> ?_;exact Dr e<|bR (nb _ h2) h3 h1) (by
  refine C9 Xt<|C9 χ<|C9 (n8 h0)<|C9 χ<|C9 Δ<|C9 Δ ?_
  show [1,2,3]++(mid.map id++_)=_;exact C9 (List.map_id _) rfl) (by exact ψ _ _)
 rw [oI h0] at ok;exact Dr hw<|Dr Q.1<|Dr Q.2 ok
end
end
section
mutual open A
variable{i:Nat}{r:Store}{v v' x:D}{k2 ks K:List Int}{vs D4 l l':List D}{a b:Int}{c:Kb}{ss N7:List Nat}{ws F8:List D}{p:Dx}{e s:Nat}{w:List (Int×Int)}
def I3:List (Int×Int)→Int→Option Int
 | [],_=>none
 |p::w,a=>cond (Dj p.1 a) (some p.2) (I3 w a)
def JX(w:List (Int×Int))(a:Int):Int:=(I3 w a).getD a
theorem mL:DU (wK w) (wV w) (.p a 0)=(I3 w a).map FN:=by
 induction w with
 |nil=>rfl
 |cons p w ih=>
  show cond (Dj p.1 a&&Dj 0 0) (some (FN p.2)) (DU (wK w) (wV w) (.p a 0))=(cond (Dj p.1 a) (some p.2) (I3 w a)).map FN;refine C9 ih ?_;cases Dj p.1 a<;>rfl
theorem oT:Yg (wK w) (wV w) a=FN (JX w a):=by
 show (DU (wK w) (wV w) (.p a 0)).getD (FN a)=FN ((I3 w a).getD a);refine C9 mL ?_;cases I3 w a<;>rfl
theorem kJ:Dm (wK w) (.p a 0)=(I3 w a).isSome:=by
 induction w with
 |nil=>rfl
 |cons p w ih=>
  show ((Dj p.1 a&&Dj 0 0)||Dm (wK w) (.p a 0))=(cond (Dj p.1 a) (some p.2) (I3 w a)).isSome;refine C9 ih ?_;cases Dj p.1 a<;>rfl
theorem Uf{z0 z1 z2:Nat}(h1:a≠41)(h2:a≠42):I3 (RV z0 z1 z2) a=none:=by
 have e1:Dj 41 a=false:=by cases q:Dj 41 a with|false=>rfl|true=>exact absurd (EP q).symm h1
 have e2:Dj 42 a=false:=by cases q:Dj 42 a with|false=>rfl|true=>exact absurd (EP q).symm h2
 unfold RV;cases μ z1 z0<;>cases μ z2 z0<;>cases μ z2 z1<;>simp only [cond,I3,υ,Bc,List.cons_append,e1,e2]
theorem VS{z0 z1 z2:Nat}(h1:a≠41)(h2:a≠42):JX (RV z0 z1 z2) a=a:=by show (I3 _ _).getD a=a;exact C9 (Uf h1 h2) rfl
def Rw(ks:List Int)(w:List (Int×Int))(a b:Int):Prop:=a∈ks∧b=JX w a
theorem bX{f:Int→D}: ∀{ks:List Int},a∈ks→DU (ks.map λa=> .p a 0) (ks.map f) (.p a 0)=some (f a):=λ{ks}=>by
 induction ks with
 |nil=>intro h;exact absurd h Γ
 |cons b ks ih=>
  intro h;show cond (Dj b a&&Dj 0 0) (some (f b)) (DU (ks.map λa=> .p a 0) (ks.map f) (.p a 0))=_;cases q:Dj b a with
  |true=>exact C9 (EP q) rfl
  |false=>
   rcases ν.mp h with e|e
   ·rw [e,show Dj b b=true by cases b<;>exact AH _] at q;exact nomatch q
   ·exact ih e
abbrev zO(ks:List Int):List DO:=ks.map λa=> .p a 0
abbrev ye(ks:List Int)(w:List (Int×Int)):List D:=ks.map (Yg (wK w) (wV w))
theorem kA(h:R0 (Rw ks w) v v'):Rn (zO ks) (ye ks w) 2 v v':=by
 cases h with
 |int i=>exact MI
 |EM s=>exact ar
 |ref q=>exact eE ((bX q.1).trans (by (exact C9 oT<|C9 q.2 rfl)))
theorem jd(h:R1 (Rw ks w) v v'):Rn (zO ks) (ye ks w) 3 v v':=by
 cases h with
 |of q=>exact (kA q).up (by decide)
 |lst _ q=>exact VD (K:=1) (q.imp λO O=>kA)
theorem gR(h:R0 (Rw ks w) v v'):isNone (.d v')=false:=by cases h<;>rfl
theorem WT(h:R1 (Rw ks w) v v'):isNone (.d v')=false:=by
 cases h with
 |of q=>exact gR q
 |lst _ q=>rfl
theorem Wv: ∀{ss:List Nat},ss.length=ws.length→DS (R1 (Rw ks w)) ws F8→FO ss F8=ss∧GO F8=F8:=λ{ss} hl h=>by
 induction h generalizing ss with
 |nil=>cases ss with|nil=>exact ⟨rfl,rfl⟩|cons=>exact nomatch hl
 | @cons u u' l l' r _ ih=>
  cases ss with
  |nil=>exact nomatch hl
  |cons s ss=>
   refine Dl (ih (AK.inj hl)) λh1 h2=> ?_
   constructor
   ·show cond (isNone (.d u')) _ (s::FO ss l')=_
    exact C9 (WT r)<|C9 h1 rfl
   ·show cond (isNone (.d u')) _ (u'::GO l')=_
    exact C9 (WT r)<|C9 h2 rfl
def Gv(ks:List Int)(w:List (Int×Int))(v v':D):Prop:=R2 (Rw ks w) v v'∧Rn (zO ks) (ye ks w) 4 v v'
theorem KM(nd:ss.Nodup)(hl:ss.length=ws.length)(h6:ss.length<64)(h:DS (R1 (Rw ks w)) ws F8):Gv ks w (sd ss ws) (sd ss F8):=by
 refine ⟨.Dg h6 hl h, ?_⟩
 have:=dz (K:=2) nd hl (h.imp λO O=>jd)
 rw [(Wv hl h).1,(Wv hl h).2] at this;exact this
theorem dC(h:R1 (Rw ks w) v v'):Gv ks w v v':=⟨.of h,(jd h).up (by decide)⟩
theorem U7:R1 (Rw ks w) HH HH:= .lst (by decide) (.cons (.int _) (.cons (.int _) (.cons (.int _) (.cons (.int _) .nil))))
theorem aZ(h:DS (R1 (Rw ks w)) ws ws)(T:Ty s ss ws N7 F8)(h60:Rw ks w 60 60)(h61:Rw ks w 61 61):DS (R1 (Rw ks w)) F8 F8:=by
 cases T with
 |no=>exact h
 |EM=>exact h.append (.cons (.of (.EM _)) .nil)
 |ref=>
  refine h.append (.cons (.of (.ref ?_)) .nil)
  by_cases e:s=13
  ·exact C9 (if_pos e) h60
  ·exact C9 (if_neg e) h61
structure iz(ks:List Int)(w:List (Int×Int)):Prop where
 kQ:Rw ks w 60 60
 j9:Rw ks w 61 61
 rM:Rw ks w 43 43
 vx:Rw ks w 40 40
 qE:Rw ks w 20 20
 k3:Rw ks w 3 3
 k2:Rw ks w 2 2
 x: ∀x∈ [(1:Int),2,3,30,40,41,42],x∈ks∧JX w x∈ [(1:Int),2,3,30,40,41,42]
theorem tN(S:iz ks w)(P:RN ss ws)(h:Rw ks w b b): ∃F8,RN ss F8∧Gv ks w (sd (15::ss) (ref b::ws)) (sd (15::ss) (ref b::F8)):=by
 have ok: ∀{N7:List Nat} {iE ws2:List D},(15::N7).Nodup→N7.length=iE.length→N7.length<60→DS (R1 (Rw ks w)) iE ws2→Gv ks w (sd (15::N7) (ref b::iE)) (sd (15::N7) (ref b::ws2)):=λh1 h2 h3 h4=>KM h1 (congrArg (· +1) h2) (by exact C9 ξ<|L7 h3 rfl) (.cons (.of (.ref h)) h4);refine ET P.Fl λn1 n2 n3=> ?_;cases P with
 |plain T=>exact (DM ws (.plain T) (ok n1 n2 n3 (aZ (.cons U7 .nil) T S.kQ S.j9)))
 | @x ss ws x T hx=>
  refine Dl (S.x x hx) λh1 h2=> ?_;exact (DM (ws++ [ref (JX w x)]) (.x T h2) (ok n1 n2 n3 ((aZ (.cons U7 .nil) T S.kQ S.j9).append (.cons (.of (.ref ⟨h1,rfl⟩)) .nil))))
theorem nA(S:iz ks w)(P:jQ p v)(h: ∀a∈p.2.1,Rw ks w a a)(hK:p.2.1.length<1000)(hp:20<p.1→Rw ks w p.2.2 p.2.2):Gv ks w v v:=by
 refine UA P λc ss ws F e=> ?_
 have kd:R1 (Rw ks w) (.nd .lst (p.2.1.map ref)) (.nd .lst (p.2.1.map ref)):= .lst (by exact C9 (ι _) hK) (by
  clear hK hp P F;generalize p.2.1=K at h
  induction K with
  |nil=>exact .nil
  |cons a K ih=>exact .cons (.ref (h a (.head _))) (ih λx hx=>h x (.tail _ hx)))
 refine C9 e ?_
 have ty: ∀{lI:List Nat} {iE:List D},DS (R1 (Rw ks w)) iE iE→lI.Nodup→26 ∉ lI→lI.length=iE.length→lI.length<60→Ty 14 lI iE ss ws→Gv ks w (sd ss ws) (sd ss ws):=λ{lI iE} h1 h2 h3 h4 h5 T=>by
  refine ET (du T h4) λl1 l2 O=> ?_;refine KM ?_ l1 (by omega) (aZ h1 T S.kQ S.j9);have n2:(lI++ [26]).Nodup:=AE.mpr ⟨h2,Η.mpr ⟨Γ,BB⟩,λx hx y hy e=>h3 (by exact Dr (ς.mp hy)<|Dr e hx)⟩;cases T with
  |no=>exact h2
  |EM=>exact n2
  |ref=>exact n2
 cases F with
 |top _ T=>exact ty (.cons kd (.cons (.of (.int _)) .nil)) (by decide) (by decide) rfl (by decide) T
 |sub g T=>exact ty (.cons kd (.cons (.of (.int _)) (.cons (.of (.ref (hp g))) .nil))) (by decide) (by decide) rfl (by decide) T
theorem LD(S:iz ks w)(he:e<9):Gv ks w (vD e) (vD e):=by
 cases e,he using pB with
 |h0=>exact KM (by decide) rfl (by decide) (.cons (.of (.ref S.qE)) (.cons (.of (.ref S.rM)) .nil))
 |h1=>exact KM (by decide) rfl (by decide) (.cons U7 (.cons (.of (.ref S.qE)) .nil))
 |h2=>exact dC (.lst (by decide) (.cons (.int _) .nil))
 |h3=>exact KM (by decide) rfl (by decide) (.cons (.of (.ref S.vx)) .nil)
 |h4=>exact dC (.of (.ref S.k2))
 |h5=>exact dC (.of (.ref S.k3))
 |h6=>exact KM (by decide) rfl (by decide) (.cons (.of (.int _)) .nil)
 |h7=>exact dC (.of (.EM _))
 |h8=>exact dC (.of (.EM _))
theorem Ko{R:D→D→Prop}: ∀{ks:List Int} {vs D4:List D},DS R vs D4→EG ks vs a=some v→ ∃v',EG ks D4 a=some v'∧R v v':=λ{ks}=>by
 induction ks with
 |nil=>intro vs D4 _ e;exact nomatch e
 |cons b ks ih=>
  intro vs D4 h e;cases h with
  |nil=>exact nomatch e
  | @cons u u' vs D4 r h=>
   by_cases q:b=a
   ·rw [q] at e ⊢
    exact (DM u' FY (η (FY.symm.trans e)▸r))
   ·refine DQ (ih h ((Em q).symm.trans e)) λv' h1 h2=> ?_
    exact (DM v' ((Em q).trans h1) h2)
end
end
section
mutual open A
variable{m k i j:Nat}{r:Store}{v x:D}{ks K A N:List Int}{nv l l':List D}{a b r0:Int}{c c':Kb}{rows J5:List F0}{spec:List Dx}{F8:List D}{p:Dx}{e:Nat}{w:List (Int×Int)}{Ks:List (List Int)}
theorem TF{z:Nat}(h:z<4):Hv z=vD z:=by
 cases z,h using vB with
 |h0=>rfl
 |h1=>rfl
 |h2=>rfl
 |h3=>rfl
abbrev Hu(c:Kb):List (Int×Int):=RV c.z0 c.z1 c.z2
set_option synthInstance.maxHeartbeats 400000 in
set_option synthInstance.maxSize 4096 in
theorem nY: ∀m,m<6→ ∀k,k<4→0<m→0<k→ ∀a∈ [(60:Int),61,43,40,41,42,20,1,2,3,30],a∈pn m k:=by decide+kernel
theorem H7(C:EX c):c.keys=pn c.rows.length c.spec.length∧0<c.spec.length∧c.spec.length<4:=by
 refine ES C.tree λKs O O T=> ?_
 have h:c.spec.map (λp:Dx=>p.1)=Fd 20 c.spec.length∧0<c.spec.length∧c.spec.length<4:=by
  generalize Ik 0 c.rows Ks=L at T;generalize c.spec=spec at T;cases T with
  |one=>exact ⟨rfl,of_decide_eq_true rfl,of_decide_eq_true rfl⟩
  |two=>exact ⟨rfl,of_decide_eq_true rfl,of_decide_eq_true rfl⟩
  |flat=>exact ⟨rfl,of_decide_eq_true rfl,of_decide_eq_true rfl⟩
  |deep=>exact ⟨rfl,of_decide_eq_true rfl,of_decide_eq_true rfl⟩
 refine ⟨?_,h.2⟩;show [60,61]++IF 0 c.rows++c.spec.map (λp:Dx=>p.1)++ [3,2,1,43]++ [40]++ [41]++ [42]=_;exact C9 h.1<|C9 Kg rfl
theorem Hh(C:EX c):(∃K A N,Th c.rows c.spec K A N)∧ ∀p∈c.rows,p.1<c.spec.length:=ES C.tree λKs T0 h T=>mn T0 h T
theorem mS(h:a∈pg j 0 c.rows):a∈c.keys∧30≤a∧a<30+c.rows.length:=by
 refine Dl (Kh h) λh1 O=> ?_
 have:=Fp a h1
 exact ⟨Θ _ (Θ _ (Θ _ (Θ _ (Θ _ (Ψ _ h1))))),by exact this.1,by exact this.2⟩
theorem Iy{z0 z1 z2:Nat}(h:a∈ks)(h1:a≠41)(h2:a≠42):Rw ks (RV z0 z1 z2) a a:=⟨h,(VS h1 h2).symm⟩
theorem Io(C:EX c):iz c.keys (Hu c):=by
 refine ET (H7 C) λe h1 h2=> ?_;have has: ∀a∈ [(60:Int),61,43,40,41,42,20,1,2,3,30],a∈c.keys:=e▸nY _ (Ap C.len.2) _ h2 C.len.1 h1;refine ⟨Iy (has _ (by decide)) (by decide) (by decide),Iy (has _ (by decide)) (by decide) (by decide),Iy (has _ (by decide)) (by decide) (by decide),Iy (has _ (by decide)) (by decide) (by decide),Iy (has _ (by decide)) (by decide) (by decide),Iy (has _ (by decide)) (by decide) (by decide),Iy (has _ (by decide)) (by decide) (by decide),λx hx=>⟨has x ?_, ?_⟩⟩
 ·revert x;decide
 ·have q: ∀a∈ [(41:Int),42],JX (Hu c) a∈ [(1:Int),2,3,30,40,41,42]:=by
   show∀a∈ [(41:Int),42],JX (RV c.z0 c.z1 c.z2) a∈ [(1:Int),2,3,30,40,41,42]
   unfold RV;cases μ c.z1 c.z0<;>cases μ c.z2 c.z0<;>cases μ c.z2 c.z1<;>decide
  by_cases h1:x=41
  ·exact C9 h1<|q 41 (.head _)
  ·by_cases h2:x=42
   ·exact C9 h2<|q 42 (.tail _ (.head _))
   ·exact C9 (VS h1 h2) hx
def wY(ks:List Int)(w:List (Int×Int))(p p':F0):Prop:=p'.1=p.1∧RN p'.2.1 p'.2.2∧Gv ks w (n7 p) (n7 p')
theorem qt(h:DS (wY ks w) rows J5): ∀i Ks,Ik i J5 Ks=Ik i rows Ks:=by
 induction h with
 |nil=>intro i Ks;rfl
 | @cons p p' l l' q _ ih=>
  intro i Ks;show Ik (i+1) l' (GR Ks p'.1 (30+(i:Int)))=Ik (i+1) l (GR Ks p.1 (30+(i:Int)));exact C9 q.1<|ih _ _
theorem xF(h:DS (wY ks w) rows J5): ∀i,pg j i J5=pg j i rows:=by
 induction h with
 |nil=>intro i;rfl
 | @cons p p' l l' q _ ih=>
  intro i;show (if p'.1=j then (30+(i:Int))::pg j (i+1) l' else pg j (i+1) l')=(if p.1=j then (30+(i:Int))::pg j (i+1) l else pg j (i+1) l)
  (exact C9 q.1<|C9 (ih _) rfl)
theorem y6(h:DS (wY ks w) rows J5):DS (Gv ks w) (K4 rows) (K4 J5):=by
 induction h with
 |nil=>exact .nil
 |cons q _ ih=>exact .cons q.2.2 ih
structure Kc(c c':Kb):Prop where
 ok:EX c'
 k:c'.keys=c.keys
 v:DS (Gv c.keys (Hu c)) c.vals c'.vals
 p: ∀j i,pg j i c'.rows=pg j i c.rows
 e:c'.spec=c.spec∧c'.r0=c.r0∧c'.z0=c.z0∧c'.z1=c.z1∧c'.z2=c.z2
 l:c'.rows.length=c.rows.length
theorem ZM{R:D→D→Prop}(h: ∀v∈l,R v v):DS R l l:=by
 induction l with
 |nil=>exact .nil
 |cons v l ih=>exact .cons (h v (.head _)) (ih λx hx=>h x (.tail _ hx))
theorem sE: ∀{i:Nat},(pg j i rows).length≤rows.length:=by
 induction rows with
 |nil=>intro i;exact Ι _
 |cons p r ih=>
  intro i;show (if p.1=j then (30+(i:Int))::pg j (i+1) r else pg j (i+1) r).length≤_
  by_cases e:p.1=j
  ·exact C9 (if_pos e)<|Κ ih
  ·exact C9 (if_neg e)<|Az ih
theorem u5(C:EX c): ∀v∈c.nv,Gv c.keys (Hu c) v v:=λv hv=>by
 refine DQ (GG C.nv v hv) λp hp P=> ?_;obtain ⟨⟨K,A,N,T⟩,_⟩:=Hh C;have S:=Io C;have pk: ∀{j a},a∈pg j 0 c.rows→Rw c.keys (Hu c) a a:=λh=>ET (mS h) λh1 h2 h3=>have:=C.len;Iy h1 (by lia) (by lia)
 have nk: ∀{q},q∈c.spec→Rw c.keys (Hu c) q.1 q.1:=λ{q} h=>by
  refine ES C.tree λKs O O T=> ?_;have m:=Ar (f:=λp:Dx=>p.1) h
  have:=(Gb T).2.1 _ m
  exact Iy (Θ _ (Θ _ (Θ _ (Θ _ (Ψ _ m))))) (by exact vS this rfl) (by exact vS this rfl)
 have cs: ∀{l:List Int} {b:Int},Rw c.keys (Hu c) b b→(∀a∈l,Rw c.keys (Hu c) a a)→ ∀a∈b::l,Rw c.keys (Hu c) a a:=λhb h a ha=>(ν.mp ha).elim (λe=>e▸hb) (h a);have len: ∀{j},(pg j 0 c.rows).length+2<1000:=λ{j}=>by have:=sE (j:=j) (rows:=c.rows) (i:=0);have:=C.len.2;lia
 have len0: ∀{j},(pg j 0 c.rows).length<1000:=λ{j}=>Ρ (Ζ _ 2) len;have pE: ∀{j},(pg j 0 c.rows).length+1<1000:=λ{j}=>Aa len
 have ok:(∀a∈p.2.1,Rw c.keys (Hu c) a a)∧p.2.1.length<1000∧(20<p.1→Rw c.keys (Hu c) p.2.2 p.2.2):=by
  generalize hs:c.spec=spec at T hp nk;cases T with
  |one=>
   exact C9 (ς.mp hp)<|⟨λa=>pk,len0,λh=>absurd h (by show¬(20:Int)<20;decide)⟩
  |two=>
   rcases ν.mp hp with e|hp
   ·exact C9 e<|⟨cs (nk (.tail _ (.head _))) λa=>pk,pE,λh=>absurd h (by show¬(20:Int)<20;decide)⟩
   ·exact C9 (ς.mp hp)<|⟨λa=>pk,len0,λO=>S.qE⟩
  |flat=>
   rcases ν.mp hp with e|hp
   ·exact C9 e<|⟨cs (nk (.tail _ (.head _))) (cs (nk (.tail _ (.tail _ (.head _)))) λa=>pk),len,λh=>absurd h (by show¬(20:Int)<20;decide)⟩
   ·rcases ν.mp hp with e|hp
    ·exact C9 e<|⟨λa=>pk,len0,λO=>S.qE⟩
    ·exact C9 (ς.mp hp)<|⟨λa=>pk,len0,λO=>S.qE⟩
  |deep=>
   have k21:=nk (.tail _ (.head _));rcases ν.mp hp with e|hp
   ·exact C9 e<|⟨cs k21 λa=>pk,pE,λh=>absurd h (by show¬(20:Int)<20;decide)⟩
   ·rcases ν.mp hp with e|hp
    ·exact C9 e<|⟨cs (nk (.tail _ (.tail _ (.head _)))) λa=>pk,pE,λO=>S.qE⟩
    ·exact C9 (ς.mp hp)<|⟨λa=>pk,len0,λO=>k21⟩
 exact nA S P ok.1 ok.2.1 ok.2.2
theorem gP(C:EX c): ∃c',Kc c c':=by
 refine wr λZ0 z0=> ?_;have S:=Io C;refine ET (H7 C) λek h1 h2=> ?_;refine Dl (Hh C) λO hp=> ?_;refine ES C.tree λKs T0 hK T=> ?_;refine z0 ?_
 refine D3 (Ii (R:=wY c.keys (Hu c)) (l:=c.rows) λp hm=>by
  have q:=hp p hm
  have m:(20+(p.1:Int))∈c.keys:=by
   refine C9 ek ?_;exact Θ _ (Θ _ (Θ _ (Θ _ (Ψ _ (Ft.mpr ⟨by omega,by omega⟩)))))
  have ⟨F8,P,G⟩:=tN S (C.rows p hm) (Iy (z0:=c.z0) (z1:=c.z1) (z2:=c.z2) m (by omega) (by omega));exact (ED (p.1,p.2.1,F8) rfl P G)) λJ5 Q=> ?_
 have hl:=Q.length;have th: ∀{z},z<4→Gv c.keys (Hu c) (Hv z) (Hv z):=λ{z} h=>by exact C9 (TF h)<|LD S (BR h (by decide))
 refine ⟨⟨J5,c.spec,c.nv,c.z0,c.z1,c.z2,c.r0⟩,⟨by refine Dr hl ?_;exact C.len,λp' xv=>by refine DQ (GG Q p' xv) λp O q=> ?_;exact q.2.1,(ED Ks T0 (λp' xv=>by refine DQ (GG Q p' xv) λp h q=> ?_;exact C9 q.1<|hK p h) (by show Ka (Ik 0 J5 Ks) c.spec;exact C9 (qt Q _ _) T)),C.nv,C.z0,C.z1,C.z2,C.r0⟩, ?_, ?_,λj i=>xF Q i,(m9 rfl rfl rfl rfl rfl),hl.symm⟩
 ·show [60,61]++IF 0 J5++_++ [3,2,1,43]++ [40]++ [41]++ [42]= [60,61]++IF 0 c.rows++_++ [3,2,1,43]++ [40]++ [41]++ [42]
  (exact C9 Kg<|C9 Kg<|C9 hl rfl)
 ·have hv:=y6 Q
  have one: ∀{e},e<9→DS (Gv c.keys (Hu c)) [vD e] [vD e]:=λh=> .cons (LD S h) .nil;have rt:Gv c.keys (Hu c) Ez Ez:=LD (e:=0) S (by decide);exact ((((((DS.cons (LD (e:=7) S (by decide)) (.cons (LD (e:=8) S (by decide)) .nil)).append hv).append (ZM (u5 C))).append (.cons rt (.cons (LD (e:=5) S (by decide)) (.cons (LD (e:=4) S (by decide)) (.cons (LD (e:=6) S (by decide)) .nil))))).append (.cons (th C.z0) .nil)).append (.cons (th C.z1) .nil)).append (.cons (th C.z2) .nil)
end
end
section
mutual open A
variable{n m k i j:Nat}{r:Store}{v v':D}{ks K A N bs as:List Int}{vs nv l l':List D}{a b:Int}{c:Kb}{rows:List F0}{spec:List Dx}{p:Dx}{e s:Nat}{w:List (Int×Int)}{F:Int→Option D}
theorem pq: ∀{i:Nat},a∈IF i rows→ ∃p∈rows,a∈pg p.1 i rows:=by
 induction rows with
 |nil=>intro i h;exact absurd h Γ
 |cons q r ih=>
  intro i h;rcases ν.mp h with e|h
  ·exact (DM q (.head _) (by show a∈(if q.1=q.1 then _ else _);exact C9 (if_pos rfl)<|C9 e<| .head _))
  ·refine DQ (ih h) λp hp hm=> ?_
   refine (DM p (.tail _ hp) ?_);show a∈(if q.1=p.1 then (30+(i:Int))::pg p.1 (i+1) r else pg p.1 (i+1) r)
   by_cases e:q.1=p.1
   ·exact C9 (if_pos e)<| .tail _ hm
   ·exact C9 (if_neg e) hm
theorem Vx(T:Th rows spec K A N)(hr: ∀p∈rows,p.1<spec.length)(h:a∈IF 0 rows):a∈A:=by
 refine DQ (pq h) λp hp hm=> ?_;have hl:=hr p hp;revert hl hm;generalize p.1=q;intro hm hl;cases T with
 |one=>
  have hl:q<1:=hl;cases q,hl using nM with
  |h0=>exact hm
 |two=>
  have hl:q<2:=hl;cases q,hl using iw with
  |h0=>exact Ψ _ hm
  |h1=>exact Θ _ hm
 |flat=>
  have hl:q<3:=hl;cases q,hl using Xh with
  |h0=>exact Ψ _ (Ψ _ hm)
  |h1=>exact Θ _ hm
  |h2=>exact Ψ _ (Θ _ hm)
 |deep=>
  have hl:q<3:=hl;cases q,hl using Xh with
  |h0=>exact Ψ _ (Ψ _ hm)
  |h1=>exact Ψ _ (Θ _ hm)
  |h2=>exact Θ _ hm
theorem oF(T:Th rows spec K A N): ∀a∈Fd 20 spec.length,a∈20::N∧ ∃p∈spec,p.1=a:=by
 have c1: ∀{P:Int→Prop} {b:Int} {l:List Int},P b→(∀a∈l,P a)→ ∀a∈b::l,P a:=λh h' a ha=>(ν.mp ha).elim (λe=>e▸h) (h' a);have c0: ∀{P:Int→Prop},∀a∈([]:List Int),P a:=λa h=>nomatch h;cases T with
 |one=>exact c1 (GS (.head _) _ (.head _) rfl) c0
 |two=>exact c1 (GS (.head _) _ (.head _) rfl) (c1 (GS (.tail _ (.head _)) _ (.tail _ (.head _)) rfl) c0)
 |flat=>exact c1 (GS (.head _) _ (.head _) rfl) (c1 (GS (.tail _ (.head _)) _ (.tail _ (.head _)) rfl) (c1 (GS (.tail _ (.tail _ (Ψ _ (.head _)))) _ (.tail _ (.tail _ (.head _))) rfl) c0))
 |deep=>exact c1 (GS (.head _) _ (.head _) rfl) (c1 (GS (.tail _ (.head _)) _ (.tail _ (.head _)) rfl) (c1 (GS (.tail _ (.tail _ (.head _))) _ (.tail _ (.tail _ (.head _))) rfl) c0))
theorem bg(C:EX c)(T:Th c.rows c.spec K A N)(F:LA c.rows A N)(B:Iz c (EG ks vs)): ∀a∈Fd 20 c.spec.length++Fd 30 c.rows.length,a∈20::N∧ ∃v,EG ks vs a=some v:=λa h=>by
 rcases ω.mp h with h|h
 ·refine ri (oF T a h) λh1 p hp e=> ?_
  refine DQ (B.n p hp) λv O h2=> ?_;exact (hV h1 v (e▸h2))
 ·have hA:=Vx T (Hh C).2 (by exact C9 Kg h)
  refine D3 (F.a a hA) λj hj=> ?_;refine ES (B.p j a hj) λp O O e=> ?_;exact (hV (.tail _ (F.s a hA)) _ e)
theorem jo(C:EX c):EG c.keys c.vals 40=some (Hv c.z0)∧EG c.keys c.vals 41=some (Hv c.z1)∧EG c.keys c.vals 42=some (Hv c.z2):=by
 refine Dl (QM C) λl1 l2=> ?_;have low:=kT C;have l3:([60,61]++IF 0 c.rows++c.spec.map (λp:Dx=>p.1)++ [3,2,1,43]:List Int).length=([EM 13,EM 14]++K4 c.rows++c.nv++ [Ez,ref 3,ref 2,Hc]).length:=by exact C9 ε<|C9 (ε (as:=_++c.nv))<|C9 ε<|C9 (ε (as:=_++K4 c.rows))<|C9 l1<|C9 l2 rfl
 have no: ∀{a:Int},40≤a∧a<43→a ∉ ([60,61]++IF 0 c.rows++c.spec.map (λp:Dx=>p.1)++ [3,2,1,43]:List Int):=λ{a} h w=>(ω.mp w).elim (λw=>by have:=low a w;lia) (λw=>by
  have q: ∀a∈([3,2,1,43]:List Int),a<4∨a=43:=by decide
  have:=q a w;lia)
 have wD:(([60,61]++IF 0 c.rows++c.spec.map (λp:Dx=>p.1)++ [3,2,1,43])++ [40]:List Int).length=([EM 13,EM 14]++K4 c.rows++c.nv++ [Ez,ref 3,ref 2,Hc]++ [Hv c.z0]).length:=by exact C9 ε<|C9 (ε (bs:= [Hv c.z0]))<|C9 l3 rfl
 have y7:(([60,61]++IF 0 c.rows++c.spec.map (λp:Dx=>p.1)++ [3,2,1,43])++ [40]++ [41]:List Int).length=([EM 13,EM 14]++K4 c.rows++c.nv++ [Ez,ref 3,ref 2,Hc]++ [Hv c.z0]++ [Hv c.z1]).length:=by exact C9 ε<|C9 (ε (bs:= [Hv c.z1]))<|C9 wD rfl
 have xd: ∀{a b:Int} {l:List Int},a ∉ l→a≠b→a ∉ l++ [b]:=λh h' w=>(ω.mp w).elim h λw=>h' (ς.mp w);exact ⟨E4 (E4 (Pd l3 (no (by decide)) FY)),E4 (Pd wD (xd (no (by decide)) (by decide)) FY),Pd y7 (xd (xd (no (by decide)) (by decide)) (by decide)) FY⟩
theorem in6{P:Int×Nat→Prop}{q1 q2 q3 q4 q5 q6:Int×Nat}(h1:P q1)(h2:P q2)(h3:P q3)(h4:P q4)(h5:P q5)(h6:P q6): ∀p∈ [q1,q2,q3,q4,q5,q6],P p:=λp hp=>by
 rcases ν.mp hp with e|hp
 ·exact C9 e h1
 rcases ν.mp hp with e|hp
 ·exact C9 e h2
 rcases ν.mp hp with e|hp
 ·exact C9 e h3
 rcases ν.mp hp with e|hp
 ·exact C9 e h4
 rcases ν.mp hp with e|hp
 ·exact C9 e h5
 ·exact C9 (ς.mp hp) h6
theorem OU(C:EX c): ∀p∈gW c.z0 c.z1 c.z2,p.2<9∧40≤p.1∧EG c.keys c.vals p.1=some (vD p.2):=by
 refine ET (jo C) λh0 h1 h2=> ?_;have B:=Lu C;have lt: ∀{z},z<4→z<9:=λh=>BR h (by decide);exact in6 ⟨lt C.z0,(by decide:(40:Int)≤40),h0.trans (congrArg some (TF C.z0))⟩ ⟨lt C.z1,(by decide:(40:Int)≤41),h1.trans (congrArg some (TF C.z1))⟩ ⟨lt C.z2,(by decide:(40:Int)≤42),h2.trans (congrArg some (TF C.z2))⟩ ⟨(by decide:6<9),(by decide:(40:Int)≤43),B.rM⟩ ⟨(by decide:7<9),(by decide:(40:Int)≤60),B.kQ⟩ ⟨(by decide:8<9),(by decide:(40:Int)≤61),B.j9⟩
theorem Qd{z0 z1 z2:Nat}:(∀p∈Qr z0 z1 z2,p∈gW z0 z1 z2)∧ ∀p∈Qr z0 z1 z2,I3 (RV z0 z1 z2) p.1=none:=by
 have m0:(40,z0)∈gW z0 z1 z2:= .head _;have m1:(41,z1)∈gW z0 z1 z2:= .tail _ (.head _);have m2:(42,z2)∈gW z0 z1 z2:= .tail _ (.tail _ (.head _));have m3: ∀p∈ [((43:Int),6),(60,7),(61,8)],p∈gW z0 z1 z2:=λp hp=> .tail _ (.tail _ (.tail _ hp));unfold Qr RV;cases μ z1 z0 with
 |true=>cases μ z2 z0 with
  |true=>exact ⟨F1 m0 m3,F1 rfl (F1 rfl (F1 rfl (F1 rfl Us)))⟩
  |false=>cases μ z2 z1 with
   |true=>exact ⟨F1 m0 m3,F1 rfl (F1 rfl (F1 rfl (F1 rfl Us)))⟩
   |false=>exact ⟨F1 m0 (F1 m2 m3),F1 rfl (F1 rfl (F1 rfl (F1 rfl (F1 rfl Us))))⟩
 |false=>cases μ z2 z0 with
  |true=>exact ⟨F1 m0 (F1 m1 m3),F1 rfl (F1 rfl (F1 rfl (F1 rfl (F1 rfl Us))))⟩
  |false=>cases μ z2 z1 with
   |true=>exact ⟨F1 m0 (F1 m1 m3),F1 rfl (F1 rfl (F1 rfl (F1 rfl (F1 rfl Us))))⟩
   |false=>exact ⟨F1 m0 (F1 m1 (F1 m2 m3)),F1 rfl (F1 rfl (F1 rfl (F1 rfl (F1 rfl (F1 rfl Us)))))⟩
def nR(b1 b2:Bool):List Int:= [40]++(cond b1 [] [41]++(cond b2 [] [42]++ [43,60,61]))
theorem i0{z0 z1 z2:Nat}:(Qr z0 z1 z2).map (λp=>p.1)=nR (μ z1 z0) (μ z2 z0||μ z2 z1)∧ [(40:Int),41,42,43,60,61].filter (λa=>(I3 (RV z0 z1 z2) a).isNone)=nR (μ z1 z0) (μ z2 z0||μ z2 z1):=by
 unfold Qr RV nR;cases μ z1 z0<;>cases μ z2 z0<;>cases μ z2 z1<;>exact ⟨rfl,rfl⟩
abbrev j2(m k:Nat):List Int:=Fd 20 k++Fd 30 m
set_option synthInstance.maxHeartbeats 400000 in
set_option synthInstance.maxSize 4096 in
theorem li: ∀m,m<6→ ∀k,k<4→ ∀b1 b2:Bool,HD I9 ([1,2,3]++(j2 m k++nR b1 b2))= [1,2,3]++(j2 m k++nR b1 b2)∧([1,2,3]++(j2 m k++nR b1 b2)).Nodup∧([1,2,3]++(j2 m k++nR b1 b2)).length<64:=by decide+kernel
theorem pT: ∀{l:List Int},kR (l.map λa=>(a,F a))=l.filter λa=>(F a).isSome:=λ{l}=>by
 induction l with
 |nil=>rfl
 |cons a l ih=>
  refine C9 Al ?_;show kR ((a,F a)::_)=_;cases q:F a with
  |none=>exact ih
  |some v=>exact congrArg (a:: ·) ih
theorem qc: ∀{l:List Int},a∈l→F a=some v→EG (kR (l.map λa=>(a,F a))) (vR (l.map λa=>(a,F a))) a=some v:=λ{l}=>by
 induction l with
 |nil=>intro h;exact absurd h Γ
 |cons b l ih=>
  intro h e;show EG (kR ((b,F b)::_)) (vR ((b,F b)::_)) a=_
  by_cases q:b=a
  ·exact C9 q<|C9 e FY
  ·have h':a∈l:=(ν.mp h).elim (λe=>absurd e.symm q) id
   cases F b with
   |none=>exact ih h' e
   |some u=>exact (Em q).trans (ih h' e)
theorem RC{R:D→D→Prop}(f: ∀v v',R v v'→v'=v)(h:DS R l l'):l'=l:=by
 induction h with
 |nil=>rfl
 |cons r _ ih=>(exact C9 (f _ _ r)<|C9 ih rfl)
theorem mr(h:Gv ks [] v v'):v'=v:=by
 have h0: ∀v v',R0 (Rw ks []) v v'→v'=v:=λv v' h=>by
  cases h with
  |int=>rfl
  |EM=>rfl
  |ref q=>exact C9 q.2 rfl
 have h1: ∀v v',R1 (Rw ks []) v v'→v'=v:=λv v' h=>by
  cases h with
  |of q=>exact h0 _ _ q
  |lst _ q=>exact congrArg _ (RC h0 q)
 cases h.1 with
 |of q=>exact h1 _ _ q
 |Dg _ _ q=>exact congrArg _ (RC h1 q)
end
end
section
mutual open A
variable{n m k j:Nat}{σ:Store}{v v' x:D}{k1 k2 ks EZ K A N mid:List Int}{v1 v2 vs D4 fs l:List D}{a b r0:Int}{c c':Kb}{rows:List F0}{spec:List Dx}{sh t:V}{fl:List V}{e:Nat}
set_option synthInstance.maxHeartbeats 400000 in
set_option synthInstance.maxSize 4096 in
theorem u7: ∀m,m<6→ ∀k,k<4→(∀a∈pn m k,a∈iX m k)∧ ∀a∈iX m k,a∈pn m k:=by decide+kernel
theorem fW: ∀{ks:List Int} {vs:List D},EG ks vs a=some v→a∈ks:=λ{ks}=>by
 induction ks with
 |nil=>intro vs e;exact nomatch e
 |cons b ks ih=>
  intro vs e;cases vs with
  |nil=>exact nomatch e
  |cons u vs=>
   by_cases q:b=a
   ·exact C9 q<| .head _
   ·exact .tail _ (ih ((Em q).symm.trans e))
theorem JN: ∀{ks:List Int} {vs:List D},ks.length=vs.length→a∈ks→ ∃v,EG ks vs a=some v:=λ{ks}=>by
 induction ks with
 |nil=>intro vs _ h;exact absurd h Γ
 |cons b ks ih=>
  intro vs l h;cases vs with
  |nil=>exact nomatch l
  |cons u vs=>
   by_cases q:b=a
   ·exact C9 q<|(EF u FY)
   ·refine D3 (ih (AK.inj l) ((ν.mp h).elim (λe=>absurd e.symm q) id)) λv e=> ?_
    exact (EF v ((Em q).trans e))
theorem MF(C:EX c):c.keys.length=c.vals.length:=by
 refine Dl (QM C) λl1 l2=> ?_;have ap: ∀{k1 k2:List Int} {v1 v2:List D},k1.length=v1.length→k2.length=v2.length→(k1++k2).length=(v1++v2).length:=λh1 h2=>by (exact C9 ε<|C9 ε<|C9 h1<|C9 h2 rfl)
 exact ap (ap (ap (ap (ap l1 l2) rfl) rfl) rfl) rfl
structure Mo(c c':Kb)(EZ:List Int)(D4:List D):Prop where
 at': ∀a v,EG c'.keys c'.vals a=some v→I3 (Hu c) a=none→EG EZ D4 a=some v
 k:HD I9 EZ= [1,2,3]++(j2 c.rows.length c.spec.length++(Qr c.z0 c.z1 c.z2).map λp=>p.1)
 l:EZ.length<64
 run: ∀n σ sh fl t,Sh σ sh c.keys c.vals (Fv c.r0) fl t→(DZ (n+9)).call false 40 [sh] σ=some (.d (E2 EZ D4 (Fv c.r0)),σ)
theorem bu{a:Int}(h:I3 (Hu c) a=none→False):a=41∨a=42:=by
 by_cases h1:a=41
 ·exact .inl h1
 ·by_cases h2:a=42
  ·exact .inr h2
  ·exact absurd (Uf h1 h2) h
theorem eH{a:Int}(h:a<41∨42<a):I3 (Hu c) a=none:=Uf (by exact zru h rfl) (by exact zru h rfl)
theorem We(M:Kc c c')(h: ∀a v,EG c'.keys c'.vals a=some v→I3 (Hu c) a=none→EG EZ D4 a=some v):Iz c' (EG EZ D4):=by
 have B:=Lu M.ok;have hl:=M.ok.len;refine ES M.ok.tree λKs O O T=> ?_;refine ⟨h _ _ B.kQ (eH (by decide)),h _ _ B.j9 (eH (by decide)),λj a ha=> ?_,λp hp=> ?_,h _ _ B.k3 (eH (by decide)),h _ _ B.k2 (eH (by decide)),h _ _ B.k1 (eH (by decide)),h _ _ B.rM (eH (by decide))⟩
 ·refine ES (B.p j a ha) λp hp e q=> ?_
  have:=Fp a (Kh ha).1
  exact (ED p hp e (h _ _ q (eH (by lia))))
 ·refine DQ (B.n p hp) λv q e=> ?_
  have:=(Gb T).2.1 _ (Ar (f:=λp:Dx=>p.1) hp)
  exact (DM v q (h _ _ e (eH (by exact zrt this rfl))))
theorem Kd(M:Kc c c')(T:Th c.rows c.spec K A N):Th c'.rows c'.spec K A N:=by
 refine C9 M.e.1 ?_;have p0:=M.p 0 0;have p1:=M.p 1 0;have p2:=M.p 2 0;generalize c.spec=spec at T;cases T with
 |one=>exact Dr p0 .one
 |two=>exact Dr p0<|Dr p1 .two
 |flat=>exact Dr p0<|Dr p1<|Dr p2 .flat
 |deep=>exact Dr p0<|Dr p1<|Dr p2 .deep
theorem gk(C:EX c)(M:Kc c c'): ∃EZ D4,Mo c c' EZ D4:=by
 have ⟨⟨K,A,N,T⟩,hr⟩:=Hh C;have F:=Vp T hr C.len.2;have B:=Lu C;have h0:(0:Int)<c.r0∧(c.r0:Int)<4:=by have:=C.r0;exact tx this
 have S:=LL B C.rows T F h0;refine ET (H7 C) λek g1 g2=> ?_;refine Oa (T4 _ (Ap C.len.2) _ g2) λs1 s2 s3 s4=> ?_;rw [←ek] at s1 s3 s4
 have ⟨w1,w2,w3⟩:wF c.r0 c.z0 c.z1 c.z2:=by
  refine ET (ny _ C.z0 _ C.z1 _ C.z2) λq1 q2 q3=> ?_;rcases r3 h0 with e|e|e
  ·exact C9 e q1
  ·exact C9 e q2
  ·exact C9 e q3
 have so:iX c.rows.length c.spec.length= [1,2,3]++(j2 c.rows.length c.spec.length++(gW c.z0 c.z1 c.z2).map λp=>p.1):=congrArg ([1,2,3]++ ·) (π ..).symm;have mid:=bg C T F B;have t1:=OU C;have tw: ∀n σ,(DZ (n+8)).call false 39 [.d (E2 c.keys c.vals (Fv c.r0))] σ=some (.d (.nd (.Dg 2 (wK (Hu c))) (wV (Hu c))),σ):=λn σ=>TX B S F h0 s4 (s1.trans so) mid t1 (show ([40,41,42,43,60,61]:List Int).Nodup by decide) w1 F4;refine Dl (i0 (z0:=c.z0) (z1:=c.z1) (z2:=c.z2)) λzE nm2=> ?_;refine ET (li _ (Ap C.len.2) _ g2 (μ c.z1 c.z0) (μ c.z2 c.z0||μ c.z2 c.z1)) λb1 b2 b3=> ?_;rw [←zE] at b1 b2 b3;cases hw:Hu c with
 |nil=>
  have ev:c'.vals=c.vals:=RC (λv v' h=>mr h) (hw▸M.v)
  have tl:(Qr c.z0 c.z1 c.z2).map (λp=>p.1)=(gW c.z0 c.z1 c.z2).map λp=>p.1:=by
   exact C9 zE<|Dr nm2<|C9 (show RV c.z0 c.z1 c.z2= [] from hw) rfl
  refine ⟨c.keys,c.vals,λa v e O=>by rw [M.k,ev] at e;exact e,by refine C9 tl ?_;exact s1.trans so,s4,λn σ sh fl t H=>SA (tk:= []) H s4 λσ=> ?_⟩
  have:=tw n σ
  rw [hw] at this;exact this
 |cons p w=>
  have Fe: ∃Fm:Int→Option D,Fm=λa=>cond (I3 (Hu c) a).isSome none (EG c'.keys c'.vals a):=⟨_,rfl⟩;refine D3 Fe λFm Fe=> ?_;refine Dl (u7 _ (Ap C.len.2) _ g2) λks1 qF=> ?_;rw [←ek] at ks1 qF;have look: ∀{a},a∈iX c.rows.length c.spec.length→ ∃v,EG c.keys c.vals a=some v:=λ{a} h=>JN (MF C) (qF a h)
  have fs: ∀a∈iX c.rows.length c.spec.length,(Fm a).isSome=(I3 (Hu c) a).isNone:=λa h=>by
   refine D3 (look h) λv e=> ?_;refine DQ (Ko M.v e) λv' e' O=> ?_;refine C9 Fe ?_;show (cond (I3 (Hu c) a).isSome none (EG c'.keys c'.vals a)).isSome=_;refine C9 M.k<|C9 e' ?_
   cases I3 (Hu c) a<;>rfl
  generalize hr:(iX c.rows.length c.spec.length).map (λa=>(a,Fm a))=R
  have at': ∀a v,EG c'.keys c'.vals a=some v→I3 (Hu c) a=none→EG (kR R) (vR R) a=some v:=λa v e h1=>by
   have h2:a∈iX c.rows.length c.spec.length:=ks1 a (M.k▸fW e);refine Dr hr ?_;refine qc h2 ?_;refine C9 Fe ?_;show cond (I3 (Hu c) a).isSome none (EG c'.keys c'.vals a)=_;exact C9 h1<|C9 e rfl
  have kk:kR R= [1,2,3]++(j2 c.rows.length c.spec.length++(Qr c.z0 c.z1 c.z2).map λp=>p.1):=by
   refine Dr hr<|C9 pT<|C9 (List.filter_congr fs)<|C9 so<|C9 (BM _ _)<|C9 (BM _ _)<|C9 zE<|Dr nm2 ?_
   have ids: ∀{l:List Int},(∀a∈l,a<41)→l.filter (λa=>(I3 (Hu c) a).isNone)=l:=λh=>List.filter_eq_self.mpr λa ha=>by exact C9 (eH (.inl (h a ha))) rfl
   have i1: ∀a∈([1,2,3]:List Int),a<41:=by decide
   have i2: ∀a∈j2 c.rows.length c.spec.length,a<41:=λa h=>by
    have hl:=C.len.2;rcases ω.mp h with h|h
    ·have:=(Ft.mp h).2;lia
    ·have:=(Ft.mp h).2;exact zrs this hl rfl
   exact C9 (ids i1)<|C9 (ids i2) rfl
  have made:=We M at';have FM:LA c'.rows A N:=Vp (Kd M T) (λp hp=>by refine C9 M.e.1 ?_;refine Dl (Hh M.ok) λO h=> ?_;rw [M.e.1] at h;exact h p hp) M.ok.len.2;have SM:=LL (r0:=c.r0) made M.ok.rows (Kd M T) FM h0
  have tm: ∀n σ,(DZ (n+8)).call false 39 [.d (E2 (kR R) (vR R) (Fv c.r0))] σ=some (.d (.nd (.Dg 2 []) []),σ):=λn σ=>TX (w:= []) made SM FM h0 (by exact C9 kk b3) (by exact C9 kk b1) (by exact Dr M.l<|Dr M.e.1<|bg M.ok (Kd M T) FM made) (λq hq=>by
   refine Dl (Qd (z0:=c.z0) (z1:=c.z1) (z2:=c.z2)) λu1 u2=> ?_;refine ET (t1 q (u1 q hq)) λx1 x2 x3=> ?_;refine ET (OU M.ok q (by exact C9 M.e.2.2.1<|C9 M.e.2.2.2.1<|C9 M.e.2.2.2.2<|u1 q hq)) λy1 y2 y3=> ?_;exact ⟨x1,x2,at' _ _ y3 (u2 q hq)⟩) w3 w2 F4
  have kv:=MF C;refine ⟨kR R,vR R,at',by refine C9 kk ?_;exact b1,by refine C9 kk ?_;exact b3,λn σ sh fl t H=> ?_⟩;refine Uq (n:=n+7) (y:=FN p.2) (tv:=wV w) (tk:=wK (p::w)) (tk2:= []) (rows:=R) (K:=4) H (by exact C9 ek<|BD _) s4 (λσ=> ?_) s3 (λa h=>JN kv h) (λq hq=> ?_) ?_ (by exact C9 s1 s2) (by exact ψ _ _) ?_ (tm n)
  ·have:=tw n σ
   rw [hw] at this;exact this
  ·refine wr λZ0 z0=> ?_
   rw [←hr] at hq;refine DQ (AD.mp hq) λa ha e=> ?_;refine D3 (look ha) λv ev=> ?_;refine DQ (Ko M.v ev) λv' ev' G=> ?_;refine z0 ?_;refine Dr e<|C9 Fe ?_
   show lN c.keys c.vals (wK (p::w)) (wV (p::w)) 4 (a,cond (I3 (Hu c) a).isSome none (EG c'.keys c'.vals a));refine Dr hw<|C9 M.k<|C9 ev' ?_
   cases q:I3 (Hu c) a with
   |some b=>exact .out ev (by exact C9 kJ<|C9 q rfl)
   |none=>exact .in ev (by exact C9 kJ<|C9 q rfl) G.2
  ·exact Dr hr<|C9 s1<|C9 Δ<|List.map_id _
  ·have m:(c.r0:Int)∈c.keys:=by
    have:=(Io C).x
    rcases r3 h0 with e|e|e<;>refine C9 e ?_<;>exact (this _ (by decide)).1
   have g:Gv c.keys (Hu c) (Fv c.r0) (Fv c.r0):=KM (by decide) rfl (by decide) (.cons (.of (.ref (Iy m (by exact xS h0 rfl) (by exact xS h0 rfl)))) .nil);rw [hw] at g;exact g.2
end
end
section
mutual open A
variable{n m k j:Nat}{σ r:Store}{v v' x:D}{EZ A N:List Int}{D4 l ys:List D}{a b r0:Int}{c c':Kb}{rows:List F0}{sh t:V}{fl:List V}{e:Nat}
def zz(z0 z1 z2:Nat)(x:Int):Nat:=cond (Dj x 41) z1 (cond (Dj x 42) z2 z0)
def V2(z0 z1 z2:Nat)(a:Int):Bool:=match I3 (RV z0 z1 z2) a with
 |none=>true
 |some b=>μ (zz z0 z1 z2 a) (zz z0 z1 z2 b)&&((I3 (RV z0 z1 z2) b).isNone&&(Dj b 40||Dj b 41))
theorem ZD: ∀z0,z0<4→ ∀z1,z1<4→ ∀z2,z2<4→V2 z0 z1 z2 41=true∧V2 z0 z1 z2 42=true:=by decide+kernel
theorem kK(C:EX c)(h:a=40∨a=41∨a=42):EG c.keys c.vals a=some (Hv (zz c.z0 c.z1 c.z2 a))∧zz c.z0 c.z1 c.z2 a<4:=by
 refine ET (jo C) λh0 h1 h2=> ?_;rcases h with e|e|e
 ·exact C9 e<|⟨h0,C.z0⟩
 ·exact C9 e<|⟨h1,C.z1⟩
 ·exact C9 e<|⟨h2,C.z2⟩
theorem iZ(C:EX c)(h:I3 (Hu c) a=some b):(a=41∨a=42)∧(b=40∨b=41)∧I3 (Hu c) b=none∧zz c.z0 c.z1 c.z2 a=zz c.z0 c.z1 c.z2 b:=by
 have ha:a=41∨a=42:=bu (c:=c) λe=>by rw [h] at e;exact nomatch e
 have t:V2 c.z0 c.z1 c.z2 a=true:=by
  refine Dl (ZD _ C.z0 _ C.z1 _ C.z2) λt1 t2=> ?_;rcases ha with e|e
  ·exact C9 e t1
  ·exact C9 e t2
 unfold V2 at t;rw [show I3 (RV c.z0 c.z1 c.z2) a=some b from h] at t;have t:(μ (zz c.z0 c.z1 c.z2 a) (zz c.z0 c.z1 c.z2 b)&&((I3 (RV c.z0 c.z1 c.z2) b).isNone&&(Dj b 40||Dj b 41)))=true:=t;refine Dl (band t) λt1 t=> ?_;refine Dl (band t) λt2 t3=> ?_;refine (XA ha ?_ (Af.mp t2) (AO t1));cases q:Dj b 40 with
 |true=>exact .inl (EP q)
 |false=>rw [q] at t3;exact .inr (EP t3)
theorem VN(M:Kc c c')(J:Mo c c' EZ D4)(e:EG c.keys c.vals a=some v)(h:I3 (Hu c) a=none): ∃v',EG EZ D4 a=some v'∧Gv c.keys (Hu c) v v':=by
 refine DQ (Ko M.v e) λv' e' G=> ?_;exact (DM v' (J.at' a v' (by exact C9 M.k e') h) G)
theorem oE(M:Kc c c')(J:Mo c c' EZ D4)(h:a=40∨a=41∨a=42)(hn:I3 (Hu c) a=none):EG EZ D4 a=some (Hv (zz c.z0 c.z1 c.z2 a)):=by
 have:=(kK M.ok h).1
 rw [M.e.2.2.1,M.e.2.2.2.1,M.e.2.2.2.2] at this;exact J.at' a _ this hn
theorem ak(C:EX c)(M:Kc c c')(J:Mo c c' EZ D4):jG c.keys c.vals EZ D4 (Rw c.keys (Hu c)):=by
 refine ⟨λa b h=> ?_⟩;refine Dl h λha hb=> ?_;clear h
 by_cases qC:20≤a∧a<40
 ·exact .inl ⟨qC.1,qC.2,hb.trans (VS (by exact vS qC rfl) (by exact vS qC rfl))⟩
 ·refine .inr ⟨qC, ?_⟩
  refine D3 (JN (MF C) ha) λv e=> ?_;cases q:I3 (Hu c) a with
  |none=>
   have hb:b=a:=by refine C9 hb ?_;show (I3 (Hu c) a).getD a=a;exact C9 q rfl
   refine DQ (VN M J e q) λv' e' G=> ?_;exact C9 hb<|(FJ qC v v' e e' G.1)
  |some b'=>
   have hb:b=b':=by refine C9 hb ?_;show (I3 (Hu c) a).getD a=b';exact C9 q rfl
   refine Oa (iZ C q) λw1 w2 w3 w4=> ?_;refine Dl (kK C (.inr w1)) λt1 t2=> ?_;have t3:=oE M J (w2.imp id .inl) w3;rw [←w4] at t3;refine (FJ (by lia) _ _ t1 (by exact C9 hb t3) ?_);refine C9 (TF t2) ?_;exact (LD (Io C) (BR t2 (by decide))).1
theorem kX(C:EX c)(M:Kc c c')(J:Mo c c' EZ D4)(h:Gv c.keys (Hu c) v v'):UU c.keys c.vals EZ D4 17 16 4 v v':=(mq (ak C M J) 4).2.2 v v' h.1
theorem PG{α β γ:Type}{R:β→γ→Prop}{f:α→β}{l:List α}{m:List γ}(h:DS (λa y=>R (f a) y) l m):DS R (l.map f) m:=by
 induction h with
 |nil=>exact .nil
 |cons r _ ih=>exact .cons r ih
structure kM(c:Kb)(EZ:List Int)(D4:List D)(A:List Int)(ys:List D):Prop where
 p:Pl 18 (.nd .lst ys)
 l:ys.length=A.length
 a: ∀n σ sh fl t,Sh σ sh c.keys c.vals (Fv c.r0) fl t→(DZ (n+18)).call false 47 [sh] σ=some (.d (.nd .lst ys),σ)
 b: ∀n σ sh fl t,Sh σ sh EZ D4 (Fv c.r0) fl t→(DZ (n+18)).call false 47 [sh] σ=some (.d (.nd .lst ys),σ)
theorem m5(C:EX c)(M:Kc c c')(J:Mo c c' EZ D4)(F:LA c.rows A N)(S:Tk c.keys c.vals c.r0 A N)(S':Tk EZ D4 c.r0 A N): ∃ys,kM c EZ D4 A ys:=by
 have B:=Lu C
 refine D3 (Ii (R:=λa y=> ∃x,y=D.nd .tup [.int a,x]∧U c.keys c.vals 17 4 (fF c.keys c.vals a).2 x∧U EZ D4 17 4 (fF EZ D4 a).2 x∧Pl 16 x) (l:=A) λa ha=>by
  have ⟨j,hj⟩:=F.a a ha;have ⟨p,_,_,e⟩:=B.p j a hj;have b:=Fp a (Kh hj).1;have hl:=C.len.2;have ⟨v',e',G⟩:=VN M J e (eH (by lia));have ⟨x,h1,h2,h3⟩:=kX C M J G;refine (FL _ x rfl ?_ ?_ h3)
  ·show U _ _ 17 4 ((EG c.keys c.vals a).getD .none) x
   exact C9 e h1
  ·show U _ _ 17 4 ((EG EZ D4 a).getD .none) x
   exact C9 e' h2) λys Q=> ?_
 have hl:=Q.length;refine ⟨ys,Ug λy hy=> ?_,hl.symm,λn σ sh fl t H=> ?_,λn σ sh fl t H=> ?_⟩
 ·refine dK (GG Q y hy) λa O x e O O h3=> ?_
  refine C9 e ?_
  exact KH λz hz=>by
   rcases ν.mp hz with w|w
   ·exact C9 w GX
   ·exact C9 (ς.mp w) h3
 ·exact Wd H (S.Ww H) (by exact ψ _ _) (PG (Q.imp λa y q=>have ⟨x,e,h1,_,_⟩:=q;(K6 a _ x rfl e h1)))
 ·exact Wd H (S'.Ww H) (by exact ψ _ _) (PG (Q.imp λa y q=>have ⟨x,e,_,h2,_⟩:=q;(K6 a _ x rfl e h2)))
end
end
section
mutual open A
variable{n m k i:Nat}{σ r:Store}{v v' x:D}{ks:List Int}{l l' ys ws:List D}{a r0:Int}{c c':Kb}{sh t:V}{fl:List V}{e s:Nat}{keep:Bool}{w:List (Int×Int)}{ss:List Nat}
theorem v8{y z:D}(hy:Pl m y)(hz:Pl m z):Pl (m+1) (.nd .tup [y,z]):=KH λx hx=>by
 rcases ν.mp hx with w|w
 ·exact C9 w hy
 ·exact C9 (ς.mp w) hz
theorem pl3{y z u:D}(hy:Pl m y)(hz:Pl m z)(hu:Pl m u):Pl (m+1) (.nd .tup [y,z,u]):=KH λx hx=>by
 rcases ν.mp hx with w|hx
 ·exact C9 w hy
 rcases ν.mp hx with w|w
 ·exact C9 w hz
 ·exact C9 (ς.mp w) hu
theorem Wy(h:R0 (Rw ks w) v v'): ∃x,G5 2 v x∧Pl 1 x:=by
 cases h with
 |int i=>exact (DM _ Uc (v8 Fj GX))
 |EM s=>exact (DM _ oH (v8 Fj Fj))
 |ref q=>exact (DM _ Ud (pl3 Fj GX GX))
theorem WZ(h:R1 (Rw ks w) v v'):(∃x,G5 3 v x∧Pl 2 x)∧(!isNone (.d v))=true:=by
 cases h with
 |of q=>
  refine DQ (Wy q) λx h1 h2=> ?_;exact ⟨(DM x (h1.up (by decide)) (h2.up (by decide))),by cases q<;>rfl⟩
 | @lst l l' hl q=>
  refine D3 (Ii (R:=λv x=>G5 2 v x∧Pl 1 x) (l:=l) λv hv=>by
   clear hl
   induction q with
   |nil=>exact absurd hv Γ
   |cons r _ ih=>exact (ν.mp hv).elim (λe=>e▸Wy r) ih) λxs h=> ?_
  refine ⟨(DM _ (Np (k:=1) (h.imp λO O e=>e.1) (by exact Dr h.length hl)) (KH λx hx=> ?_)),rfl⟩;rcases ν.mp hx with e|e
  ·exact C9 e Fj
  ·refine DQ (GG h x e) λO O q=> ?_;exact q.2
theorem WA(h:R2 (Rw ks w) v v'): ∃x,G5 4 v x∧Pl 4 x:=by
 cases h with
 |of q=>refine DQ ((WZ q).1) λx h1 h2=> ?_;exact (DM x (h1.up (by decide)) (h2.up (by decide)))
 | @Dg ss ws F8 hs hl q=>
  have all: ∀v∈ws,(∃x,G5 3 v x∧Pl 2 x)∧(!isNone (.d v))=true:=by
   clear hl
   induction q with
   |nil=>exact λv hv=>absurd hv Γ
   |cons r _ ih=>exact λv hv=>(ν.mp hv).elim (λe=>e▸WZ r) (ih v)
  refine D3 (Ii (R:=λs y=>(∃v x,y= .nd .tup [.sym s,x]∧DU (ss.map .s) ws (.s s)=some v∧(!isNone (.d v))=true∧G5 3 v x)∧Pl 3 y) (l:=HD Ε ss) λs hm=>by
   have ⟨v,hv,e⟩:=uc hl (Kz hm);have ⟨⟨x,t,p⟩,o⟩:=all v hv;exact (DM _ (FL v x rfl e o t) (v8 Fj p))) λys h=> ?_
  refine (DM _ (JD (k:=2) hs (by exact Dr h.length<|C9 NA<|IL hs rfl) (h.imp λO O e=>e.1)) (KH λx hx=> ?_));rcases ν.mp hx with e|e
  ·exact C9 e Fj
  ·refine DQ (GG h x e) λO O q=> ?_;exact q.2
theorem oV(C:EX c)(M:Kc c c'): ∃y,Pl 7 y∧ ∀n σ sh fl t keep,Sh σ sh c.keys c.vals (Fv c.r0) fl t→(DZ (n+5)).call keep 16 [sh] σ=some (.d y,σ):=by
 refine wr λZ0 z0=> ?_;refine ET (H7 C) λek g1 g2=> ?_;refine Oa (T4 _ (Ap C.len.2) _ g2) λO O O s4=> ?_;rw [←ek] at s4
 have m:(c.r0:Int)∈c.keys:=by
  have:=(Io C).x
  have h0:(0:Int)<c.r0∧(c.r0:Int)<4:=by have:=C.r0;exact tx this
  rcases r3 h0 with e|e|e<;>refine C9 e ?_<;>exact (this _ (by decide)).1
 have g:R2 (Rw c.keys (Hu c)) (Fv c.r0) (Fv c.r0):= .Dg (by decide) rfl (.cons (.of (.ref (Iy m (by have:=C.r0;exact zsx this rfl) (by have:=C.r0;exact zsx this rfl)))) .nil);refine DQ (WA g) λy t1 t2=> ?_;refine z0 ?_
 refine D3 (Ii (R:=λa y=>(∃v x,y= .nd .tup [.int a, .int 0,x]∧EG c.keys c.vals a=some v∧G5 4 v x)∧Pl 5 y) (l:=HD I9 c.keys) λa hm=>by
  refine wr λZ0 z0=> ?_;refine D3 (JN (MF C) (Kz hm)) λv e=> ?_;refine DQ (Ko M.v e) λv' O G=> ?_;refine DQ (WA G.1) λx q1 q2=> ?_;refine z0 ?_;exact (DM _ (EK v x rfl e q1) (pl3 GX GX q2))) λys h=> ?_
 refine (DM _ (v8 (KH (l:=ys) λx hx=> ?_) (t2.up (by decide))) (λn σ sh fl t keep H=>Zl (k:=3) H s4 (h.imp λO O e=>e.1) t1 (by exact ψ _ _)));refine DQ (GG h x hx) λO O q=> ?_;exact q.2
end
end
section
mutual open A
variable{n i j:Nat}{σ:Store}{v x tr:D}{k1 k2 ks K A N:List Int}{vs l:List D}{a b r0:Int}{c:Kb}{e s:Nat}{c0:Dh}
abbrev Ly(ks:List Int)(vs:List D)(a:Int)(v:D):List D:=Dz (ks.map .i) vs (.i a) v
theorem Wj: ∀{ks:List Int} {vs:List D},a∈ks→ks.length=vs.length→ks.length=(Ly ks vs a v).length:=λ{ks vs} h l=>by
 have:=IV (key:= .i a) (x:=v) (kl:=ks.map DO.i) (vs:=vs) (by (exact C9 (ι _)<|C9 l rfl))
 rw [RG (JZ h),ι] at this;exact this
theorem QX: ∀{ks:List Int} {vs:List D},a∈ks→ks.length=vs.length→EG ks (Ly ks vs a v) a=some v:=λ{ks}=>by
 induction ks with
 |nil=>intro vs h;exact absurd h Γ
 |cons b ks ih=>
  intro vs h l;cases vs with
  |nil=>exact nomatch l
  |cons u vs=>
   show EG (b::ks) (cond (DO.beq (.i b) (.i a)) (v::vs) (u::Ly ks vs a v)) a=_
   by_cases q:b=a
   ·exact C9 q<|C9 (Ff _) FY
   ·refine C9 (G6 q) ?_
    exact (Em q).trans (ih ((ν.mp h).elim (λe=>absurd e.symm q) id) (AK.inj l))
theorem H8(h:a≠b): ∀{ks:List Int} {vs:List D},ks.length=vs.length→EG ks (Ly ks vs a v) b=EG ks vs b:=λ{ks}=>by
 induction ks with
 |nil=>intro vs l;rfl
 |cons d ks ih=>
  intro vs l;cases vs with
  |nil=>exact nomatch l
  |cons u vs=>
   show EG (d::ks) (cond (DO.beq (.i d) (.i a)) (v::vs) (u::Ly ks vs a v)) b=_
   by_cases q:d=a
   ·exact C9 q<|C9 (Ff _)<|(Em h).trans (Em h).symm
   ·refine C9 (G6 q) ?_
    by_cases q2:d=b
    ·exact C9 q2<|FY.trans FY.symm
    ·exact (Em q2).trans ((ih (AK.inj l)).trans (Em q2).symm)
abbrev PA(σ:Store)(c0:Dh)(ks:List Int)(vs:List D)(tr:D):Store:=σ++ [c0,Dk ks vs, .lv (.inst 5) [.cell (σ.length+1), .d tr]]
theorem QA{q:Nat}(h:(q:Int)∈ks)(hl:ks.length<64):(DZ (n+1)).call false 12 [.cell (σ.length+2), .d (.int (q:Int)), .d (.int ((0:Nat):Int)), .d v] (PA σ c0 ks vs tr)=some (.d .none,PA σ c0 ks (Ly ks vs q v) tr):=by
 have bb:=Ep (key:= .i (q:Int)) (q:=0) (j:=(ks.map DO.i).length) (by exact C9 (ι _)<|IL hl rfl) rfl
 have e:Dh.lv (.Dg 0 (D2 (ks.map .i) (.i (q:Int)))) (Dz (ks.map .i) ((vs.map GP).map .d) (.i (q:Int)) (.d (GP v)))=Dk ks (Ly ks vs q v):=by
  (exact C9 (RG (JZ h))<|C9 (H5 V.d)<|C9 (H5 GP) rfl)
 rw [PA,PA,←e];apply OB rfl rfl
 ·cell_ask ⟨Ie,El⟩
 ·exact GE (by exact C9 ε<|C9 ε rfl)
abbrev v3(c:Kb):List D:=Ly c.keys (Ly c.keys (Ly c.keys c.vals 40 (.nd .lst [.int 5])) 41 (sd [28] [ref 3])) 42 (sd [28] [ref 2])
theorem vx(C:EX c):(40:Int)∈c.keys∧(41:Int)∈c.keys∧(42:Int)∈c.keys:=have:=(Io C).x;⟨(this 40 (by decide)).1,(this 41 (by decide)).1,(this 42 (by decide)).1⟩
theorem jN(C:EX c):EG c.keys (v3 c) 40=some (.nd .lst [.int 5])∧EG c.keys (v3 c) 41=some (sd [28] [ref 3])∧EG c.keys (v3 c) 42=some (sd [28] [ref 2])∧ ∀a,¬(40≤a∧a≤42)→EG c.keys (v3 c) a=EG c.keys c.vals a:=by
 refine ET (vx C) λh0 h1 h2=> ?_;have l0:=MF C;have l1:=Wj (v:= .nd .lst [.int 5]) h0 l0;have l2:=Wj (v:=sd [28] [ref 3]) h1 l1;exact (XA ((H8 (by decide) l2).trans ((H8 (by decide) l1).trans (QX h0 l0))) ((H8 (by decide) l2).trans (QX h1 l1)) (QX h2 l2) (λa h=>(H8 (by exact xp h rfl) l2).trans ((H8 (by exact xp h rfl) l1).trans (H8 (by exact xp h rfl) l0))))
theorem dP(C:EX c)(h: ∀a,¬(40≤a∧a≤42)→EG ks vs a=EG c.keys c.vals a):Iz c (EG ks vs):=by
 have B:=Lu C;have hl:=C.len;refine ES C.tree λKs O O T=> ?_;refine ⟨(h _ (by decide)).trans B.kQ,(h _ (by decide)).trans B.j9,λj a ha=> ?_,λp hp=> ?_,(h _ (by decide)).trans B.k3,(h _ (by decide)).trans B.k2,(h _ (by decide)).trans B.k1,(h _ (by decide)).trans B.rM⟩
 ·refine ES (B.p j a ha) λp hp e q=> ?_
  have:=Fp a (Kh ha).1
  exact (ED p hp e ((h _ (by lia)).trans q))
 ·refine DQ (B.n p hp) λv q e=> ?_
  have:=(Gb T).2.1 _ (Ar (f:=λp:Dx=>p.1) hp)
  exact (DM v q ((h _ (by lia)).trans e))
theorem iH(C:EX c)(T:Th c.rows c.spec K A N)(F:LA c.rows A N)(h0:0<r0∧r0<4): ∀x∈iM,Jv c.keys (v3 c) ((20::N)++MG r0) 3 x:=by
 refine Oa (jN C) λwD y7 e42 e=> ?_;have B:=dP C e;have n3: ∀{d},Jv c.keys (v3 c) ((20::N)++MG r0) d 3:= .bar B.k3 (Ψ _ QR.2.2.2)
 have n2: ∀{d},Jv c.keys (v3 c) ((20::N)++MG r0) (d+1) 2:=λ{d}=>by
  by_cases q:(2:Int)∈(20::N)++MG r0
  ·exact .bar B.k2 q
  ·exact .step B.k2 q (.rf 3) n3
 have n1:Jv c.keys (v3 c) ((20::N)++MG r0) 3 1:=by
  by_cases q:(1:Int)∈(20::N)++MG r0
  ·exact .bar B.k1 q
  ·exact .step B.k1 q (.rf 2) n2
 have hA:(30:Int)∈A:=Vx T (Hh C).2 (by refine C9 Kg ?_;exact Ft.mpr ⟨by decide,by have:=C.len.1;lia⟩);refine D3 (F.a _ hA) λj hj=> ?_;refine ES (B.p j _ hj) λp O O ep=> ?_;have n30:Jv c.keys (v3 c) ((20::N)++MG r0) 3 30:= .bar ep (Θ _ (.tail _ (F.s _ hA)));intro x hx;rcases ν.mp hx with w|hx
 ·exact C9 w n1
 rcases ν.mp hx with w|hx
 ·exact C9 w n2
 rcases ν.mp hx with w|hx
 ·exact C9 w n3
 rcases ν.mp hx with w|hx
 ·exact C9 w n30
 rcases ν.mp hx with w|hx
 ·exact C9 w<| .nil wD (NN F (by decide)) (.ls 5)
 rcases ν.mp hx with w|hx
 ·exact C9 w<| .step y7 (NN F (by decide)) (.yy 3) n3
 ·exact C9 (ς.mp hx)<| .step e42 (NN F (by decide)) (.yy 2) n2
theorem gf(C:EX c)(F:LA c.rows A N)(B:Iz c (EG ks vs)): ∀x∈A.map (fF ks vs),my x:=λx hx=>by
 refine DQ (AD.mp hx) λa ha e=> ?_;refine D3 (F.a a ha) λj hj=> ?_;refine ES (B.p j a hj) λp hp O ep=> ?_;refine Dr e ?_;exact (QL _ _ _ (by show (EG ks vs a).getD .none=_;exact C9 ep rfl) (C.rows p hp))
end
end
section
mutual open A
variable{n k i q x y:Nat}{σ DD DK Dy:Store}{v tr:D}{a:Int}{w:V}{e:Nat}{c0:Dh}{G:HR}{loc:Di}{ta tb:T}{ts l:List T}{ks:List Int}{ws:List D}
theorem gN{dl:List D}{ps:List (V×V)}{kv:List DO×List V}(h1:RM i ((GT G ts).map Nd.ev) loc σ=some (dl,DD))(h2:EA (MM x (nd G ta).ev (nd G tb).ev loc) dl DD=some (ps,DK))(h3:FB n ps ([], [])=some kv)(h4:Df false (.Dg n kv.1) kv.2 DK=some (w,Dy)):(nd G (.mk 34 n [.mk i q ts, .mk x y [],ta,tb])).ev loc σ=some (w,Dy):=show QO n (RM i ((GT G ts).map Nd.ev)) x (nd G ta).ev (nd G tb).ev loc σ=_ from DJ h1 (DJ h2 (DB h3 h4))
theorem TV{f:D→Store→Option (Option V×Store)}{P:Int→Bool}{g:Int→D}: ∀{l:List Int},(∀a∈l,f (.int a) σ=some (cond (P a) (some (V.d (g a))) none,σ))→EA f (l.map .int) σ=some (((l.filter P).map g).map .d,σ):=λ{l}=>by
 induction l with
 |nil=>intro _;rfl
 |cons a l ih=>
  intro h;refine (FC (h a (.head _)) (ih λx hx=>h x (.tail _ hx))).trans ?_;refine C9 Al ?_;cases P a<;>rfl
theorem gZ{body:Ex}{P:Di→Prop}(h1: ∀loc d,P loc→P (Du σ.length [] (DR loc x (.d d)))): ∀{dl:List D} {loc:Di},(∀d∈dl,∀loc,P loc→body (DR loc x (.d d)) σ=some (.go 0 (DR loc x (.d d)) σ))→P loc→Ek body x dl loc σ=some (.go 0 (ZZ σ.length x dl loc) σ):=λ{dl}=>by
 induction dl with
 |nil=>intro loc _ _;rfl
 |cons d dl ih=>intro loc h p;exact Wa (h d (.head _) loc p) (.inl rfl) (ih (λd hd=>h d (.tail _ hd)) (h1 _ d p))
theorem pP: ∀{es:List Nat},e<9→(∀x∈es,x<9)→e ∉ es→Dm (es.map kx) (kx e)=false:=λ{es}=>by
 induction es with
 |nil=>intro _ _ _;rfl
 |cons d es ih=>
  intro he h hn;show (DO.beq (kx d) (kx e)||Dm (es.map kx) (kx e))=false;refine C9 (ih he (λx hx=>h x (.tail _ hx)) λw=>hn (.tail _ w))<|C9 (jr d (h d (.head _)) e he) ?_
  cases q:μ d e with
  |false=>rfl
  |true=>exact absurd (AO q▸List.Mem.head _) hn
abbrev sR(e:Nat):D:= .str (FW (tD e))
theorem dW: ∀{es pre:List Nat},(∀x∈pre++es,x<9)→(pre++es).Nodup→FB 3 (es.map λe=>(.d (sR e), .d (.int ((1:Nat):Int)))) (pre.map kx,pre.map λO=>V.d (.int ((1:Nat):Int)))=some ((pre++es).map kx,(pre++es).map λO=>V.d (.int ((1:Nat):Int))):=λ{es}=>by
 induction es with
 |nil=>intro pre _ _;exact C9 (υ _) rfl
 |cons e es ih=>
  intro pre h Fl;have hn:e ∉ pre:=λw=>(AE.mp Fl).2.2 _ w _ (.head _) rfl;have hh:=pP (h e (Ψ _ (.head _))) (λx hx=>h x (Θ _ hx)) hn;refine (DB (show Sd 3 (.d (sR e)) (.d (.int ((1:Nat):Int))) (pre.map kx,pre.map λO=>V.d (.int ((1:Nat):Int)))=some ((pre++ [e]).map kx,(pre++ [e]).map λO=>V.d (.int ((1:Nat):Int))) from DB rfl (DB rfl (D7 rfl ?_))) (ih (by exact C9 (π _ _ _) h) (by exact C9 (π _ _ _) Fl))).trans ?_
  ·show some (D2 (pre.map kx) (kx e),Dz (pre.map kx) (pre.map λO=>V.d (.int ((1:Nat):Int))) (kx e) (V.d (.int ((1:Nat):Int))))=_
   exact C9 (EN hh)<|C9 (Eg hh (by rw [ι,ι]))<|C9 χ<|C9 χ rfl
  ·exact C9 (π _ _ _) rfl
theorem uw{h1 h2:Hd}{l1:List D}{v:D}:Ht FZ (.cell (σ.length+2)) (σ++ [c0, .lv h1 (l1.map .d), .lv h2 [.cell (σ.length+1), .d v]])=some (.nd h2 [.nd h1 l1,v],σ++ [c0, .fz (.nd h1 l1), .fz (.nd h2 [.nd h1 l1,v])]):=
 DB (HT (k:=2)) (DJ (Ma (k:=1) rfl (DJ (show Ht 4 (.d v) _=some (v,_) from rfl) rfl)) (congrArg (λz=>some (D.nd h2 [.nd h1 l1,v],z)) (by exact C9 (AI _ _ (Ζ _ _))<|C9 (Ω _ _) rfl)))
theorem j8{c1:Dh}{d:D}:Ht FZ (.cell (σ.length+2)) (σ++ [c0,c1, .fz d])=some (d,σ++ [c0,c1, .fz d]):=DB (HT (k:=2)) rfl
theorem oD{h1 h2 h3:Hd}{l1:List D}{v:D}:Df false h3 [.cell (σ.length+2), .cell (σ.length+2)] (σ++ [c0, .lv h1 (l1.map .d), .lv h2 [.cell (σ.length+1), .d v]])=some (.d (.nd h3 [.nd h2 [.nd h1 l1,v], .nd h2 [.nd h1 l1,v]]),σ++ [c0, .fz (.nd h1 l1), .fz (.nd h2 [.nd h1 l1,v])]):=show EI (HN (Ht FZ) _ _) (λds σ=>some (V.d (.nd h3 ds),σ))=_ from DJ (DJ uw (DJ (DJ j8 (DJ rfl rfl)) rfl)) rfl
theorem iL{h:Hd}{c1:Dh}{d:D}:Df false h [.cell (σ.length+2)] (σ++ [c0,c1, .fz d])=some (.d (.nd h [d]),σ++ [c0,c1, .fz d]):=show EI (HN (Ht FZ) _ _) (λds σ=>some (V.d (.nd h ds),σ))=_ from DJ (DJ j8 (DJ rfl rfl)) rfl
theorem Q8:Sh (PA σ c0 ks ws tr) (.cell (σ.length+2)) ks ws tr [.cell (σ.length+1), .d tr] (.cell (σ.length+1)):=⟨FH (k:=2) rfl,Ie (k:=2) rfl rfl,PH (k:=1) rfl,Ho (k:=1) rfl rfl,Ie (k:=2) rfl rfl,JB rfl⟩
theorem ug:Sh (σ++ [c0, .fz (MW ks ws), .fz (E2 ks ws tr)]) (.cell (σ.length+2)) ks ws tr [.d (MW ks ws), .d tr] (.d (MW ks ws)):=⟨DB (Lk (k:=2) rfl) rfl,DB (show Ey _ _=some (5,_) from DB (Lk (k:=2) rfl) rfl) rfl,rfl,rfl,DB (show Ey _ _=some (5,_) from DB (Lk (k:=2) rfl) rfl) rfl,JB rfl⟩
end
end
section
mutual open A
variable{n m i q x:Nat}{σ DD DK S:Store}{v v' tr d g:D}{a:Int}{sh:V}{fl:List V}{e:Nat}{keep:Bool}{G:HR}{loc:Di}{ta tb t2:T}{ks EZ:List Int}{ws D4:List D}{B:Bool}
theorem btw(e:(nd G t2).ev loc σ=some (.d (.int a),DD)):(nd G (.mk 14 50 [Dp 20,t2, .mk 4 q []])).ev loc σ=some (.d (.bool (decide (20≤a)&&decide (a<(q:Int)))),DD):=by
 cases h:decide (20≤a) with
 |true=>exact LV Fu e (show some (decide (((20:Nat):Int)≤a))=_ from congrArg some h) Fu rfl
 |false=>exact XQ Fu e (show some (decide (((20:Nat):Int)≤a))=_ from congrArg some h)
theorem d9(h:(nd G ta).ev ((x, .d d)::loc) σ=some (.d (.bool B),σ))(h2:B=true→(nd G tb).ev ((x, .d d)::loc) σ=some (.d g,σ)):F2 x 0 (nd G tb).ev ((GT G [ta]).map Nd.ev) loc d σ=some (cond B (some (V.d g)) none,σ):=by
 cases B with
 |true=>exact EL (DG:=(x, .d d)::loc) rfl (Jj h rfl) (h2 rfl)
 |false=>exact Mj (DG:=(x, .d d)::loc) rfl (Jj h rfl)
theorem zA{B':Bool}(h:(nd G ta).ev loc σ=some (.d (.bool B),σ))(h':(nd G tb).ev loc σ=some (.d (.bool B'),σ)):(nd G (.mk 15 n [ta,tb])).ev loc σ=some (.d (.bool (B&&B')),σ):=by
 refine rk (Vs h ?_);cases B with
 |true=>exact Vs h' (by cases B'<;>rfl)
 |false=>rfl
abbrev p5(a:Int):Bool:=decide (20≤a)&&decide (a<((30:Nat):Int))
abbrev l5(ks:List Int):List Int:=(HD I9 ks).filter p5++ [3]
theorem Zn{tb:V}(H:Sh S sh ks ws tr fl tb)(hl:ks.length<64)(h: ∀a∈l5 ks,∃v v' x m,EG ks ws a=some v∧EG EZ D4 a=some v'∧m≤20∧Pl m x∧U ks ws 17 4 v x∧U EZ D4 17 4 v' x)(l1:DE loc 133=some sh)(l2:DE loc 95=some (.d (E2 EZ D4 tr))):
  (nd (DZ (n+18)) fK).ex loc S=some (.go 0 (ZZ S.length 103 ((l5 ks).map .int) loc) S):=by
 have nu:=Gd (n:=n+17) (keep:=false) H hl;have low:=H.low
 have fa:=gZ (σ:=S) (x:=103) (body:=(nd (DZ (n+18)) rV).ex) (P:=λloc=>DE loc 133=some sh∧DE loc 95=some (.d (E2 EZ D4 tr))) (λloc d p=>⟨D9 (DH rfl p.1) low,D9 (DH rfl p.2) rfl⟩) (dl:=(l5 ks).map .int) (loc:=loc) (λd hd loc p=>by
  refine DQ (AD.mp hd) λa ha e=> ?_;refine Hk (h a ha) λv v' x m e1 e2 g1 g2 u1 u2=> ?_;refine Dl p λp1 p2=> ?_;clear p;have H':Sh S (.d (E2 EZ D4 tr)) EZ D4 tr _ _:=F4;have u1:=u1 (n+18) false S _ _ _ _ H (by exact ψ _ _);have u2:=u2 (n+18) false S _ _ _ _ H' (by exact ψ _ _);have ni:FG S 9 (.d (.int a)) (.d (MW EZ D4))=some (!true):=(Pw H'.tt).trans (by (exact C9 (V6 e2) rfl));have s1:=GU H.tt e1;have s2:=GU H'.tt e2;have ne:=Ro (σ:=S) g2 g1;have at1:=H.a;refine Dr e ?_
  cell_ask ⟨ni,at1,s1,s2,Ln,ne⟩) ⟨l1,l2⟩
 refine Ml (dl:=(l5 ks).map .int) (Pn (v:= .d (.nd .lst ((l5 ks).map .int))) (dm (va:= .d (.nd .lst (((HD I9 ks).filter p5).map .int))) (vb:= .d (.nd .lst [.int 3])) (DD:=S) (DK:=S) ?_ (u9 (Gj Fu OA) rfl) ?_) HA) fa
 ·have hi:=H.i
  fin2
  refine (TV (P:=p5) (g:= .int) λa O=> ?_);exact d9 (btw (Fg rfl)) λO=>Fg rfl;exact mW
 ·refine (XS ?_).trans (by exact C9 χ rfl)
  have:=List.length_filter_le p5 (HD I9 ks)
  have q:(HD I9 ks).length=ks.length:=NA;refine C9 (ι _) ?_;show _+1≤1000000
  lia
abbrev p6(a:Int):Bool:= !(decide (20≤a)&&decide (a<((40:Nat):Int)))&&decide (((3:Nat):Int)<a)
theorem Ve{f:Int→D}(hl:EZ.length<64)(h: ∀a∈HD I9 EZ,p6 a=true→ ∃v x,EG EZ D4 a=some v∧G5 4 v (.nd .tup x)∧Pp (.nd .tup x)=some (.d (f a)))(l2:DE loc 95=some (.d (E2 EZ D4 tr))):
  (nd (DZ (n+18)) fP).ex loc S=some (.go 0 (DR loc 107 (.d (.nd .lst (((HD I9 EZ).filter p6).map f)))) S):=by
 have H:Sh S (.d (E2 EZ D4 tr)) EZ D4 tr _ _:=F4;have nu:=Gd (n:=n+17) (keep:=false) H hl;have hi:=H.i
 fin2
 refine (TV (P:=p6) (g:=f) λa ha=> ?_);refine d9 (zA (bG (btw (Fg rfl))) (um (Fg rfl) Fu rfl)) λhp=> ?_;refine D0 (h a ha hp) λv x e1 t1 t2=> ?_;have s1:=GU H.tt e1;have t1:=t1 (n+18) false S (by exact ψ _ _)
 cell_ask ⟨s1,Ln⟩
 exact DB rfl (DB rfl t2);exact mW
end
end
section
mutual open A
variable{n m k i q x:Nat}{σ S:Store}{v d:D}{a b r0:Int}{c c':Kb}{t:V}{e:Nat}{G:HR}{loc:Di}{EZ:List Int}{D4:List D}{es:List Nat}
theorem dcg: ∀{es:List Nat},EA (MM 106 (nd G (DF 106)).ev (nd G (Dp 1)).ev loc) (es.map sR) S=some (es.map λe=>(.d (sR e), .d (.int ((1:Nat):Int))),S):=λ{es}=>by
 induction es with
 |nil=>rfl
 |cons e es ih=>exact FC (p:=some (.d (sR e), .d (.int ((1:Nat):Int)))) rfl ih
theorem iJ(h9: ∀x∈es,x<9)(Fl:es.Nodup)(B:Iz c (EG EZ D4))(h0:0<r0∧r0<4)(l1:DE loc 107=some (.d (.nd .lst (es.map sR))))(l2:DE loc 95=some (.d (E2 EZ D4 (Fv r0)))):
  (nd (DZ (n+18)) gA).ex loc S=some (.go 0 loc S):=by
 have H:Sh S (.d (E2 EZ D4 (Fv r0))) EZ D4 (Fv r0) _ _:=F4;have f3:Kj EZ D4 1 (ref 3) Ez:= .O7 B.k3 (.stop (k:=5) rfl rfl)
 have rt:(DZ (n+18)).call false 15 [.d (E2 EZ D4 (Fv r0))] S=some (.d Ez,S):=by
  rcases r3 h0 with e|e|e
  ·rw [e] at H ⊢;exact Km H (k:=3) (.O7 B.k1 (.O7 B.k2 f3)) (by decide)
  ·rw [e] at H ⊢;exact Km H (k:=2) (.O7 B.k2 f3) (by decide)
  ·rw [e] at H ⊢;exact Km H (k:=1) f3 (by decide)
 have ln:Fk S 0 (.d (.nd .lst (es.map sR)))=some (.d (.int (es.length:Int))):=by
  show some (V.d (.int (((es.map sR).map V.d).length:Int)))=_
  (exact C9 (ι _)<|C9 (ι _) rfl)
 have ln2:Fk S 0 (.d (.nd (.Dg 3 (es.map kx)) (es.map λO=> .int 1)))=some (.d (.int (es.length:Int))):=by
  show some (V.d (.int ((es.map kx).length:Int)))=_
  (exact C9 (ι _) rfl)
 have ne:=Ro (σ:=S) (m:=0) (x:= .int (es.length:Int)) GX (by decide);have hi:=H.i
 have dc:(nd (DZ (n+18)) re).ev loc S=some (.d (.nd (.Dg 3 (es.map kx)) (es.map λO=> .int 1)),S):=by
  refine gN (Pn (Fg l1) HA) dcg (dW (pre:= []) h9 Fl) ?_;show Df false _ (es.map λO=>V.d (.int 1)) S=_;refine C9 (show (es.map λO=>V.d (.int 1))=(es.map λO=>D.int 1).map V.d by rw [Δ];rfl) ?_;exact mW
 cell_ask ⟨dc,ln,ln2,ne,rt⟩
theorem gD(C:EX c)(M:Kc c c')(J:Mo c c' EZ D4): ∀p∈Qr c.z0 c.z1 c.z2,p.2<9∧EG EZ D4 p.1=some (vD p.2):=λq hq=>by
 refine Dl (Qd (z0:=c.z0) (z1:=c.z1) (z2:=c.z2)) λu1 u2=> ?_;refine ET (OU C q (u1 q hq)) λx1 x2 x3=> ?_;refine ET (OU M.ok q (by exact C9 M.e.2.2.1<|C9 M.e.2.2.2.1<|C9 M.e.2.2.2.2<|u1 q hq)) λy1 y2 y3=> ?_;exact ⟨x1,J.at' _ _ y3 (u2 q hq)⟩
def cls(z0 z1 z2:Nat)(x:Int):Nat:=cond (Dj x 43) 6 (cond (Dj x 60) 7 (cond (Dj x 61) 8 (zz z0 z1 z2 x)))
abbrev qD(c:Kb):List Nat:=(Qr c.z0 c.z1 c.z2).map λp=>p.2
set_option synthInstance.maxHeartbeats 400000 in
set_option synthInstance.maxSize 4096 in
theorem QD: ∀z0,z0<4→ ∀z1,z1<4→ ∀z2,z2<4→((Qr z0 z1 z2).map λp=>p.1).filter p6=(Qr z0 z1 z2).map (λp=>p.1)∧((Qr z0 z1 z2).map λp=>p.1).map (cls z0 z1 z2)=(Qr z0 z1 z2).map (λp=>p.2)∧((Qr z0 z1 z2).map λp=>p.2).Nodup:=by decide+kernel
theorem cU(C:EX c)(J:Mo c c' EZ D4):(HD I9 EZ).filter p6=(Qr c.z0 c.z1 c.z2).map λp=>p.1:=by
 rw [J.k,BM,BM,(QD _ C.z0 _ C.z1 _ C.z2).1,show [(1:Int),2,3].filter p6= [] from rfl,List.filter_eq_nil_iff.mpr,Bc,Bc];intro a ha;have hl:=C.len.2;refine ET (H7 C) λO O hk=> ?_
 have b:20≤a∧a<((40:Nat):Int):=by
  rcases ω.mp ha with h|h
  ·have:=Ft.mp h;lia
  ·have:=Ft.mp h;lia
 show¬(!(decide (20≤a)&&decide (a<((40:Nat):Int)))&&decide (((3:Nat):Int)<a))=true
 rw [decide_eq_true b.1,decide_eq_true b.2];exact ζ
theorem iF(C:EX c)(M:Kc c c')(J:Mo c c' EZ D4): ∀a∈HD I9 EZ,p6 a=true→ ∃v x,EG EZ D4 a=some v∧G5 4 v (.nd .tup x)∧Pp (.nd .tup x)=some (.d (sR (cls c.z0 c.z1 c.z2 a))):=λa ha hp=>by
 have hm:a∈(HD I9 EZ).filter p6:=BL.mpr ⟨ha,hp⟩;rw [cU C J] at hm;refine DQ (AD.mp hm) λp hp e=> ?_;refine Dl (gD C M J p hp) λh9 t=> ?_;have q:=(QD _ C.z0 _ C.z1 _ C.z2).2.1
 have q:cls c.z0 c.z1 c.z2 p.1=p.2:=by
  rw [Δ] at q;exact List.map_inj_left.mp q p hp
 refine Dr e<|C9 q ?_
 exact (EK _ (tL p.2) t (TC h9) (bp h9))
theorem rR(C:EX c):((((Qr c.z0 c.z1 c.z2).map λp=>p.1).map λa=>sR (cls c.z0 c.z1 c.z2 a))=(qD c).map sR)∧(qD c).Nodup∧ ∀x∈qD c,x<9:=by
 refine ET (QD _ C.z0 _ C.z1 _ C.z2) λO q Fl=> ?_;refine ⟨?_,Fl,λx hx=> ?_⟩
 ·exact C9 (show qD c=_ from q.symm)<|C9 Δ<|C9 Δ<|C9 Δ rfl
 ·refine DQ (AD.mp hx) λp hp e=> ?_
  refine Dr e ?_;exact (OU C p (Qd.1 p hp)).1
end
end
section
mutual open A
variable{n m i x:Nat}{σ S:Store}{v v' d:D}{vs:List V}{a b q:Int}{c c':Kb}{keep:Bool}{c0:Dh}{loc:Di}{ks EZ il A:List Int}{ws D4 ys:List D}{y:D}
structure t9(loc:Di)(n:Nat)(EZ:List Int)(D4:List D)(tr:D)(ys:List D):Prop where
 a:DE loc 133=some (.cell (n+2))
 b:DE loc 95=some (.d (E2 EZ D4 tr))
 c:DE loc 131=some (.d (.nd .lst ys))
 d:DE loc 159=some (.cell (n+0))
theorem uk(hs:(DZ (n+18)).call true 44 [.cell (σ.length+0)] (σ++ [Dw (il.take 63) 0 0])=some (.cell (σ.length+2),PA σ c0 c.keys c.vals (Fv c.r0)))
  (ht: ∀keep,(DZ (n+18)).call keep 16 [.cell (σ.length+2)] (PA σ c0 c.keys c.vals (Fv c.r0))=some (.d y,PA σ c0 c.keys c.vals (Fv c.r0))) (hy:Pl 7 y)
  (B:kM c EZ D4 A ys) (J:Mo c c' EZ D4):
  ∃loc,KZ (DZ (n+18)) [pL,ph,oA,lu,oh] [(130, .d (.nd .lst (il.map .int)))] (σ++ [])=some (.go 0 loc (PA σ c0 c.keys c.vals (Fv c.r0)))∧t9 loc σ.length EZ D4 (Fv c.r0) ys:=by
 have H:=Q8 (σ:=σ) (c0:=c0) (ks:=c.keys) (ws:=c.vals) (tr:=Fv c.r0);have va:=mV (n:=n+17) (σ:=σ) (il:=il);have sa:=B.a n _ _ _ _ H;have sb:=B.b n (PA σ c0 c.keys c.vals (Fv c.r0)) _ _ _ F4;have jn:=J.run (n+9) _ _ _ _ H;have hi:=H.i;have n1:=Ro (σ:=PA σ c0 c.keys c.vals (Fv c.r0)) hy (by decide);have n2:=Ro (σ:=PA σ c0 c.keys c.vals (Fv c.r0)) B.p (by decide);have ht:=ht false;refine ⟨DR (DR (DR (DR (DR [(130, .d (.nd .lst (il.map .int)))] 159 (.cell (σ.length+0))) 133 (.cell (σ.length+2))) 131 (.d (.nd .lst ys))) 48 (.d y)) 95 (.d (E2 EZ D4 (Fv c.r0))), ?_, ?_, ?_, ?_, ?_⟩
 ·cell_ask ⟨QI,va,hs,ht,sa,jn,sb,n1,n2⟩
 all_goals fin2
theorem qk(C:EX c)(M:Kc c c')(J:Mo c c' EZ D4)(B':Iz c' (EG EZ D4))(h5: ∀a∈l5 c.keys,∃v v' x m,EG c.keys c.vals a=some v∧EG EZ D4 a=some v'∧m≤20∧Pl m x∧U c.keys c.vals 17 4 v x∧U EZ D4 17 4 v' x)(hl:c.keys.length<64)(L:t9 loc σ.length EZ D4 (Fv c.r0) ys):
  ∃DG,KZ (DZ (n+18)) [fK,fP,gA,lF,mN,o5] loc (PA σ c0 c.keys c.vals (Fv c.r0))=some (.go 0 DG (PA σ c0 c.keys (v3 c) (Fv c.r0)))∧t9 DG σ.length EZ D4 (Fv c.r0) ys:=by
 have H:=Q8 (σ:=σ) (c0:=c0) (ks:=c.keys) (ws:=c.vals) (tr:=Fv c.r0);have h0:(0:Int)<c.r0∧(c.r0:Int)<4:=by have:=C.r0;exact tx this
 have low:=H.low;have xJ:FP (PA σ c0 c.keys c.vals (Fv c.r0)).length (.cell (σ.length+0))=false:=JB rfl;have L5:t9 (ZZ (PA σ c0 c.keys c.vals (Fv c.r0)).length 103 ((l5 c.keys).map .int) loc) σ.length EZ D4 (Fv c.r0) ys:=⟨M7 L.a rfl low,M7 L.b rfl rfl,M7 L.c rfl rfl,M7 L.d rfl xJ⟩;have s5:=Zn (n:=n) H hl h5 L.a L.b;revert s5 L5;generalize ZZ (PA σ c0 c.keys c.vals (Fv c.r0)).length 103 ((l5 c.keys).map .int) loc=gj;intro L5 s5;refine ET (rR C) λe1 e2 e3=> ?_;have s6:=Ve (n:=n) (S:=PA σ c0 c.keys c.vals (Fv c.r0)) J.l (iF C M J) L5.b;rw [cU C J,e1] at s6;have s7:=iJ (n:=n) (S:=PA σ c0 c.keys c.vals (Fv c.r0)) (loc:=DR gj 107 (.d (.nd .lst ((qD c).map sR)))) e3 e2 B' h0 Da (DH rfl L5.b);refine ET (vx C) λk0 k1 k2=> ?_;have p0:=QA (n:=n+17) (σ:=σ) (c0:=c0) (vs:=c.vals) (v:= .nd .lst [.int 5]) (q:=40) (tr:=Fv c.r0) k0 hl;have p1:=QA (n:=n+17) (σ:=σ) (c0:=c0) (vs:=Ly c.keys c.vals 40 (.nd .lst [.int 5])) (v:=sd [28] [ref 3]) (q:=41) (tr:=Fv c.r0) k1 hl;have p2:=QA (n:=n+17) (σ:=σ) (c0:=c0) (vs:=Ly c.keys (Ly c.keys c.vals 40 (.nd .lst [.int 5])) 41 (sd [28] [ref 3])) (v:=sd [28] [ref 2]) (q:=42) (tr:=Fv c.r0) k2 hl;refine ⟨DR gj 107 (.d (.nd .lst ((qD c).map sR))),x_go s5 (x_go s6 (x_go s7 ?_)),DH rfl L5.a,DH rfl L5.b,DH rfl L5.c,DH rfl L5.d⟩;have l1:=L5.a
 cell_ask ⟨FH⟩
 exact p0
 cell_ask ⟨FH⟩
 exact p1
 cell_ask ⟨FH⟩
 exact p2
 fin2
end
end
section
mutual open A
variable{n m i P:Nat}{σ r S:Store}{v d:D}{a b q:Int}{c:Kb}{fl:List V}{at_:Nat}{c0:Dh}{loc:Di}{ks EZ cl A N K:List Int}{ws D4 ys:List D}
theorem LC.inst(W:LC P v): ∃fl,∀S,Ey S (.d v)=some (5,fl):=by
 refine IE W λlp us O O O O e=> ?_;clear W;exact (EF _ (λS=>by exact C9 e rfl))
theorem qT{l:List D}:Fk S 0 (.d (.nd .lst l))=some (.d (.int (l.length:Int))):=by
 show some (V.d (.int ((l.map V.d).length:Int)))=_
 (exact C9 (ι _) rfl)
theorem Zi(h:a=b):FG S 1 (.d (.int a)) (.d (.int b))=some false:=h▸Ro (m:=0) GX (by decide)
theorem ut(C:EX c)(T:Th c.rows c.spec K A N)(F:LA c.rows A N)(hl:ys.length=A.length)(hc:cl.length<64)(ha:at_<1000)(hq:0≤q)(L:t9 loc σ.length EZ D4 (Fv c.r0) ys):
  ∃S',KZ (DZ (n+18)) [sj,rT,ql,tH] loc (PA σ (Dw cl at_ q) c.keys (v3 c) (Fv c.r0))=some (.ret (.d (.bool true)) (σ++S')):=by
 refine wr λZ0 z0=> ?_;have h0:(0:Int)<c.r0∧(c.r0:Int)<4:=by have:=C.r0;exact tx this
 have B:=dP C (jN C).2.2.2;have S3:=LL B C.rows T F h0;have lA:=F.l.1;have lR:=C.len;refine Do (Gy (σ:=σ) (cl:=cl) (at_:=at_) (q:=q) (many:=ys.length) (r:= [Dk c.keys (v3 c), .lv (.inst 5) [.cell (σ.length+1), .d (Fv c.r0)]]) hc ha hq (by exact zsb hl lA lR) (by exact zsa hl lA lR rfl)) λz a1 q1 hz O O dp=> ?_;have dp:=dp (n+17) false;have hN:=iH C T F h0;have hb: ∀τ,(DZ (n+10+5)).call false 29 [.d (E2 c.keys (v3 c) (Fv c.r0))] τ=some (.d (PX ((20::N)++MG c.r0)),τ):=λτ=>vk (n:=n+9) B S3 F h0 F4;have pm:(A.map λa=>Oh (fF c.keys (v3 c) a))=(A.map (fF c.keys (v3 c))).map Oh:=by exact C9 Δ rfl
 have hp: ∀τ,(DZ (n+10+7)).call false 26 [.d (E2 c.keys (v3 c) (Fv c.r0))] τ=some (.d (.nd .lst ((A.map (fF c.keys (v3 c))).map Oh)),τ):=λτ=>pm▸S3.Ww F4;have hP:=gf C F B;have pl:(A.map (fF c.keys (v3 c))).length=ys.length:=by (exact C9 (ι _)<|C9 hl rfl)
 have fz:=oD (σ:=σ) (c0:=Dw cl a1 q1) (h1:= .Dg 0 (c.keys.map .i)) (h2:= .inst 5) (h3:= .lst) (l1:=(v3 c).map GP) (v:=Fv c.r0);have f1:=iL (σ:=σ) (c0:=Dw cl a1 q1) (h:= .lst) (c1:= .fz (MW c.keys (v3 c))) (d:=E2 c.keys (v3 c) (Fv c.r0));have sz:=S3.Ww (n:=n+10) (ug (σ:=σ) (c0:=Dw cl a1 q1) (ks:=c.keys) (ws:=v3 c) (tr:=Fv c.r0));rw [pm] at sz;refine DQ (YE (n:=n+10) (σ:=σ++ [Dw cl a1 q1, .fz (MW c.keys (v3 c)), .fz (E2 c.keys (v3 c) (Fv c.r0))]) hN hb hp hP (by lia)) λw1 W1 e1=> ?_;refine DQ (aS (s:=z) (n:=n+10) (σ:=σ++ [Dw cl a1 q1, .fz (MW c.keys (v3 c)), .fz (E2 c.keys (v3 c) (Fv c.r0))]) hN hb sz f1 hP (by exact zry pl hz)) λw2 W2 e2=> ?_;refine z0 ?_;rw [pl] at W1;refine (EF ([Dw cl a1 q1, .fz (MW c.keys (v3 c)), .fz (E2 c.keys (v3 c) (Fv c.r0))]) ?_);revert e1 e2 f1 sz;generalize hS:σ++ [Dw cl a1 q1, .fz (MW c.keys (v3 c)), .fz (E2 c.keys (v3 c) (Fv c.r0))]=S;intro f1 sz e1 e2;refine wr λZ0 z0=> ?_;refine D3 W1.inst λi1 g1=> ?_;refine D3 W2.inst λi2 g2=> ?_;refine DQ (MY (n:=n+11) (σ:=S) W1) λp1 n1 t1=> ?_;refine DQ (MY (n:=n+11) (σ:=S) W2) λp2 n2 t2=> ?_;refine z0 ?_;have r1:=OY (n:=n+15) (σ:=S) W1;have r2:=OY (n:=n+15) (σ:=S) W2;have m1:=MX (n:=n+16) (σ:=S) W1;have m2:=MX (n:=n+16) (σ:=S) W2;have c1:FG S 1 (.d (.int (p1.length:Int))) (.d (.int (((2:Nat):Int)*(ys.length:Int))))=some false:=Zi (by exact C9 n1 rfl);have c2:FG S 1 (.d (.int (p2.length:Int))) (.d (.int ((2:Nat):Int)))=some false:=Zi (by (exact C9 n2 rfl));have mu:Mx 2 (.d (.int ((2:Nat):Int))) (.d (.int (ys.length:Int)))=some (.d (.int (((2:Nat):Int)*(ys.length:Int)))):=Rv (by rw [Kq (by decide) (by decide),Kq (by exact AP _) (by lia)];rfl);have so:Fk S 4 (.d iC)=some (.d (.nd .lst [.sym 14, .sym 26])):=rfl;rw [hS] at fz;have la:=L.a;have lc:=L.c;have ld:=L.d
 cell_ask ⟨dp,e1,e2,t1,t2,c1,c2,mu,m1,m2,g1,g2,r1,r2,so,qT⟩
end
end
section
mutual open A
variable{n m:Nat}{σ:Store}{c c':Kb}{EZ:List Int}{D4:List D}
theorem tq(C:EX c)(M:Kc c c')(J:Mo c c' EZ D4): ∀a∈l5 c.keys,∃v v' x m,EG c.keys c.vals a=some v∧EG EZ D4 a=some v'∧m≤20∧Pl m x∧U c.keys c.vals 17 4 v x∧U EZ D4 17 4 v' x:=λa ha=>by
 refine wr λZ0 z0=> ?_
 have hk:a∈c.keys∧a<41:=by
  rcases ω.mp ha with h|h
  ·refine Dl (BL.mp h) λh1 h2=> ?_
   exact ⟨Kz h1,by have:=of_decide_eq_true (band h2).2;lia⟩
  ·refine C9 (ς.mp h) ?_;exact ⟨(Io C).k3.1,by decide⟩
 refine D3 (JN (MF C) hk.1) λv e=> ?_;refine DQ (VN M J e (eH (.inl hk.2))) λv' e' G=> ?_;refine ES (kX C M J G) λx u1 u2 p=> ?_;refine z0 ?_;exact (Gs v v' x 16 e e' (by decide) p u1 u2)
theorem gL(n:Nat)(il:List Int):(DZ (n+19)).call false 49 [.d (.nd .lst (il.map .int))] σ=some (.d (.bool true),σ):=by
 refine wr λZ0 z0=> ?_;refine Do (Xp (σ:=σ) (il:=il) n) λc at_ q ha hq C hs=> ?_;have hs:=hs (n+13);refine D3 (gP C) λc' M=> ?_;refine HY (gk C M) λEZ D4 J=> ?_;obtain ⟨⟨K,A,N,T⟩,hr⟩:=Hh C;have F:=Vp T hr C.len.2;have h0:(0:Int)<c.r0∧(c.r0:Int)<4:=by have:=C.r0;exact tx this
 have B':=We M J.at';have T':=Kd M T;have F':LA c'.rows A N:=Vp T' (Hh M.ok).2 M.ok.len.2;have S:=LL (Lu C) C.rows T F h0;have S':=LL B' M.ok.rows T' F' h0;refine D3 (m5 C M J F S S') λys SB=> ?_;refine DQ (oV C M) λy y1 ty=> ?_;refine ET (H7 C) λek g1 g2=> ?_;refine Oa (T4 _ (Ap C.len.2) _ g2) λO O O s4=> ?_;rw [←ek] at s4;refine DQ (uk (n:=n) (c0:=Dw (il.take 63) at_ q) hs (λkeep=>ty (n+13) _ _ _ _ keep Q8) y1 SB J) λKK e1 L1=> ?_;refine DQ (qk (n:=n) (c0:=Dw (il.take 63) at_ q) C M J B' (tq C M J) s4 L1) λI5 e2 L2=> ?_;refine D3 (ut (n:=n) (cl:=il.take 63) C T F SB.l (Ρ (List.length_take_le ..) (by decide)) (BR ha (by decide)) hq L2) λs e3=> ?_;refine z0 ?_;exact uD (fn:=jy) s rfl rfl (V1 (l1:= [pL,ph,oA,lu,oh]) e1 (V1 (l1:= [fK,fP,gA,lF,mN,o5]) e2 e3))
theorem wN(il:List Int):(DZ 40).call false 49 [.d (.nd .lst (il.map .int))] []=some (.d (.bool true), []):=gL 21 il
end
end
end
end Internal
set_option genInjectivity true set_option genSizeOf true set_option tactic.hygienic true set_option bootstrap.genMatcherCode true
open Internal
namespace hda
mutual open A theorem tw5818260042086359902:True:=⟨⟩ universe tw17473504458628295163 tw2803550911377271895 tw13793092939389240011 tw16528420931437272276 tw12387793320553225204 tw1991591795384326370 tw701707489991462210 tw8032173845803121403 tw5395520349997299998 tw5210458322176925402 tw16574474621612224244 tw2757355926001721960 tw16904523705463035103 tw13714871786388456632 tw3006300634904878858 tw15820299493685272865 tw9751526549802347528 tw6644659684282044289 tw14157003057543776463 tw16877963695220012424 tw3561743719729665078 tw13174847621464376500 tw1135186958278111619 tw4433776953338144667 tw17697168223089942912 tw1036440779448897148 tw12059908299166571174 tw8840784383453288663 tw13645894816635557923 tw759613208541532055 tw5278507352468037750 tw17136297912814028146 tw15238578502844364054 tw3330287882882830179 tw2281892075104787901 tw5685144050280856528 tw5415111138397751586 tw9967872862616936415 tw3206757575097965653 tw4754809334428459183 tw7978607245160357548 tw14102412685431564151 tw17997178538015117523 tw17831065356902443056 tw8268566710321354752 tw6313807399485918794 tw17590330805450338682 tw1912824393255515831 tw9437926700624296396 tw15822111827132560712 tw453702169152148271 tw392835851483555068 tw4870489880796621973 tw13049589137553833165 tw12138558384262462724 tw2724232341511622470 tw7876325449596305599 tw13179731557175465495 tw6079959749662867813 tw3469319227574801479 tw4358391242906489356 tw17202797535284978455 tw17638882486498198278 tw13128555355831772301 tw1397931358783087501 tw7036163286616999127 tw8602944108134276922 tw6497616449388602414 tw10912334931371131384 tw16123746908199815694 tw4119131056664272621 tw5441270097816709972 tw632682567219675858 tw11382412516958292572 tw4184432317896537338 tw5373148323881187222 tw17372586140010174709 tw2816773050954508238 tw2808055414077128264 tw9934140721122612580 tw6100226629088200938 tw15964117215239470533 tw9098498430703844080 tw11431103599124468438 tw876295316622025606 tw3181466468418403386 tw10160240763470596597 tw18020399991963874319 tw9475758769236409021 tw9107656385246262048 tw14337326757426681337 tw10821256935917726936 tw7842037409312503682 tw15156388148976362530 tw2336155300294119250 tw7857616463847708148 tw9648155295360955700 tw822702037197639880 tw3030316413054699146 tw655376731679032310 tw11378471908449905819 tw940945722974980728 tw17706095106308104409 tw1454526570557234737 tw12403298664052421753 tw15010192715521670398 tw16546725211761649225 tw4606119393133404829 tw16734005901834944259 tw11194132932371831657 tw11205601336877913849 tw13795131090331311643 tw12438545219839001699 tw7380306995314339929 tw13282410771046429278 tw13148806110242680335 tw1560575263726418180 tw1082766340799622558 tw15219459870108540320 tw2897761431212756813 tw12265047472860958153 tw9866481069503661469 tw10362882708647299067 tw9174597395791785519 tw17830414479688163714 tw7877420727032409712 tw12494623557993062935 tw8291724775849650726 tw6606131519460876649 tw903390326535788550 tw13304887804422873761 tw17092204792803429501 tw11108916133010844463 tw145929790040839640 tw5746991245887223269 tw16287595909963673705 tw11286243474049363722 tw18257827608640303145 tw6261872332586867268 tw46756318535882560 tw570745397082536998 tw5369978353984016492 tw12333887083844791867 tw7925200370460445925 tw14561086952037861196 tw11049001313066454350 tw11756434409894173880 tw2297706947211537899 tw17981135196182271902 tw12096987630660413728 tw14688582601968114855 tw734169593045343932 tw14096862807522929185 tw694142414724265802 tw6373509604325515587 tw8376452102948326237 tw10379359386133920705 tw18111977938923062892 tw10268838769551265417 tw4216389809861686205 tw4732971914255329961 tw1844524937795821751 tw7593120055794410206 tw6611484823398920866 tw13061693278501867650 tw15590649023790059851 tw3589899475212766457 tw2875051395802394366 tw1484611287369247203 tw13527646731107517107 tw2221460206498964152 tw13466252650735373672 tw4982180700948999352 tw11688630328234148238 tw4395635909353064954 tw10624340122667145249 tw17960541275123972908 tw15120918809050158271 tw9327343768249501939 tw6047018587706654387 tw11654516445662114716 tw2599704968895182850 tw322445980666305831 tw5445495944177142737 tw18436222911132310955 tw15996419814490185479 tw1852296004146784959 tw13479272387284612543 tw991774385270222255 tw6854325224252424062 tw1415307513259407620 tw8985113958104619413 tw15844576675024689675 tw9478419909985282060 tw3700151933932265806 tw16603584067698559302 tw2690570203374844845 tw1401990114140324095 tw10719144651373943311 tw18384019903081384567 tw14437327702572009010 tw17180720660460491030 tw12408059527888500973 tw2384231582415919636 tw11589910857833434765 tw14481269185524804122 tw7617919611506237901 tw620633084835861454 tw11615114164722072141 tw12719190275736818951 tw738683297045911645 tw7697193537830285946 tw11234417236131641395 tw6227043453475034216 tw12812527835537947719 tw3079007694701770385 tw4531297005549838988 tw2638560843238338399 tw11274445669890101403 tw12736249923978311380 tw17190257893469458937 tw3141320645970232934 tw3481844831498214244 tw1120522927730618673 tw2364946265117347229 tw4603650299019682531 tw15428327182658878574 tw1179543833388894852 tw17640125028533580605 tw16680554833662063923 tw12270062931973132559 tw6792034348952495791 tw13948832173222081182 tw1970303356433856309 tw15533217617734287957 tw9353871337885987918 tw8756253606261536789 tw17068260966217016637 tw4552590450837677743 tw12982987034658520211 tw15628077662612174733 tw4131775598584141511 tw10213876835339950124 tw2274949121259233961 tw458715724820101706 tw602750523567056244 tw12634840448781237252 tw12647141681863764283 tw6989733085233637672 tw16207261491989313987 tw9750963953047681360 tw889621532744747458 tw4537402954793589940 tw17552017226384438030 tw16225118363453901419 tw4515505178995702167 tw6796906430450918332 tw7994368001581233639 tw12054585467293021842 tw12507778764994478146 tw9923528251646832938 tw6973444850680798944 tw12959968187986038870 tw8108303901331604096 tw7776262590043529712 tw16545208037430640037 tw408294024664406849 tw14324204320952586027 tw12350326380482293708 tw15134274118528308070 tw4063983253474074810 tw8580919479906841029 tw4442187715432813719 tw11686717697483402460 tw2137716474134580820 tw17147242264849040396 tw1357655145382547884 tw11523532197033099451 tw8999265561234638862 tw9651109883721450351 tw1289651854532061407 tw4361780199339452833 tw8728179349085636176 tw16195510613204569778 tw4248803692697521852 tw12749306029128468498 tw3003086683908234770 tw10354085874471990769 tw1853591622485736177 tw9095522672565021317 tw10948192484540572168 tw6272143505855308923 tw16164412360820067906 tw14422374716386250510 tw15559001586200313195 tw7991250213818253707 tw4637336362093237563 tw12908270290460911486 tw1474255319294972961 tw10230201554197045466 tw15425985783063786670 tw8074130866917267086 tw9328062805792813433 tw6510475700772410050 tw3605100217119330153 tw5224943261688064037 tw17118469806331066580 tw18052455855295729920 tw17220206465575608009 tw16013360765087793011 tw10977700164157302871 tw9236400918358052451 tw17161887157914652112 tw726256005582191813 tw15997265628811715757 tw954796225129868880 tw9070021839551491058 tw730408622263355653 tw2116397240176671982 tw7364591545258839654 tw4326771194065949388 tw3713841797122244010 tw3892062261005093103 tw10871288370263910287 tw7588755019305885459 tw7202580957913691134 tw9730674892409419189 tw12194382922975027954 tw852105067013691976 tw12932248319492170508 tw17177381036527376687 tw8337778620856419750 tw14632000930973341289 tw14806498554757304703 tw11616530158680007097 tw11626054786519438678 tw11842050963055292585 tw11464051309563619151 tw13467197562434866343 tw16983015324469838160 tw9785725499787393402 tw6204946798603457240 tw12676580564244283412 tw13710433858654602125 tw14106587723648374096 tw11943635640224260908 tw13757519535656721124 tw1186661889751603503 tw14273547174246440046 tw12965299508731448794 tw3784579490016865315 tw35013720127234272 tw5509542126276899131 tw2602847479025523302 tw5468105710384877564 tw15288298910415685890 tw5590650723349375993 tw5389496026551428477 tw8469171546176651827 tw12848908199733871930 tw9262744641965878367 tw447250095123665273 tw11040456152360753900 tw8686958234747636193 tw1792304242109503329 tw10396746602021597841 tw15897684844668532029 tw9255137454474948877 tw4167737330878479508 tw10036148933772637450 tw7206006172462120647 tw8879973286827898755 tw9721407936378298029 tw5199772008964678304 tw4864002790579559469 tw12574670065072752499 tw7753964456085375353 tw12967875453739501014 tw14830960498219625173 tw16718740586899810260 tw2259122410223327319 tw11038905181812802597 tw4215883739455308152 tw18412776597105905086 tw205988512579504340 tw18135304396814186339 tw14593410238915825074 tw4154663762168476927 tw15579171929360678289 tw3138421166871158058 tw9125351067096282147 tw12250838244116681285 tw15835336052100710580 tw16054390663426605847 tw4910407474647633896 tw6445378760442554250 tw9179613937048357771 tw14154557059660818593 tw12971287805083392132 tw12674893311527902145 tw13009192251650085663 tw1518562041682408665 tw14520194300338346323 tw6776395427281078347 tw4544390740648904068 tw3148980003512912349 tw7461724469870883686 tw11765782160782139866 tw9337992740404578038 tw5716599963760297681 tw14759970876933800639 tw10620918357315204874 tw16465642164337598813 tw16366203405340675074 tw9174604004522727707 tw17883542529183045602 tw15131846964880433630 tw1680078705978408332 tw12445400056171211449 tw17407080123706512953 tw8249336672673577413 tw2006786541101490977 tw1074826623305405834 tw9560671396050767941 tw5778429463187704729 tw16399093973512346780 tw4963915825105472637 tw461383934411098155 tw16814822673607448742 tw13546020015964080859 tw5868360700563847380 tw3099783193117637384 tw883113176039234196 tw12972726331059680351 tw1241730505589496302 tw3154942361322187809 tw725750613753991664 tw12187818647710275466 tw17729661990741652571 tw18383418979422963051 tw3545164728114835970 tw12617147023695078882 tw376382204616439182 tw12579456220433295879 tw2514693603780839425 tw17002434389828113882 tw9975466564013731669 tw5827263527533516636 tw14551594085240914373 tw13298208640985167271 tw13428033039073821489 tw11982034866881303419 tw11501777831131449898 tw6349484070479515257 tw12453279956362239520 tw14821182567224578817 tw10861924056617592643 tw8272500531154460031 tw11466803467286445527 tw3297684505144746791 tw754350297796794013 tw4658350092898856945 tw7885138249564832611 tw7460167844031876701 tw15030212152911609179 tw14423716987882796587 tw3859362217231356845 tw17865602204547128135 tw17901785586311664213 tw17256960581382684487 tw8434206474157059321 tw10380076319993214937 tw6729666783995611511 tw8155968027312173791 tw13829887638831267643 tw9264255215927686128 tw6586871547505108223 tw16582950089451633205 tw11859785189798740136 tw95519424476243979 tw5248269465069559642 tw15822676941237197931 tw8636798655081995236 tw13579913218281105213 tw16082668584781400737 tw6290693005675397317 tw4057160001994844981 tw16984350098250715789 tw10715310158324012531 tw5046189179107704974 tw4988013503452451121 tw15396843471044590545 tw8706623791023728691 tw15205133325341324018 tw3313009405930477608 tw2668498936504558450 tw3181420769907363781 tw11048685601681596564 tw14558519733388524825 tw6927110956367636775 tw9900629910087830831 tw5426389925578265692 tw17837758702709806372 tw16284392406597773669 tw12570941935467919900 tw14615917731012679202 tw13793273909974531342 tw12933659081643304524 tw9321166024447882871 tw14495530718794370439 tw286673917340135628 tw13434269984428711210 tw6960714897141733019 tw14445080194951181019 tw16769017159331359243 tw9157776927964089495 tw5515371941657751679 tw7263162780725561646 tw17429382436326859673 tw11003671252179346586 tw4794898819951816780 tw5160435580402060938 tw11255588324445203830 tw5998135178604726310 tw841880776778033862 tw3053061916762527676 tw4564806314527257659 tw4778681292455558732 tw14986596006238802993 tw14487720587548496119 tw661323264102296315 tw2242930940917157259 tw10721087792291291220 tw4856001070811579272 tw7316764954154628700 tw11180072919030489237 tw12600161333620224811 tw3398848269695057584 tw11300949865428260856 tw10436362848499289508 tw9196335781165073377 tw14793487330079667582 tw9793936264698507321 tw2223822103950897213 tw7077250891504372191 tw16337776796822019208 tw6189874703301476657 tw5416643235825436290 tw11420480075037373427 tw12624126088367892405 tw11969372033538724179 tw17773718384830720430 tw18443073121971975780 tw11309722160265645715 tw13612038155963929537 tw15840126918373275457 tw8563749978372642265 tw14544107072765483014 tw9438021089988661251 tw17667038145650376339 tw7795790449556642662 tw8486071182669121630 tw11136309921524197788 tw7303482202662030751 tw17805717401822952332 tw9063761862451476677 tw8820142084959348384 tw18310071493559077909 tw6344431110110107588 tw14547902606715468202 tw16486591771441213469 tw9722153877485577185 tw3598783206498561450 tw1511317286489275497 tw13077594079717954171 tw16493046378764636631 tw9911693215677168972 tw4253675895468314820 tw8865116562675046233 tw10969905407095455832 tw2383000750874243620 tw3606861157414197726 tw12407204746914195746 tw11274799837608712526 tw11088294510140742711 tw3744725647316633926 tw1091365335147042908 tw10503130549781168381 tw3108358474933828336 tw1704715518520782614 tw15452695960626243235 tw6574203091355587975 tw16598308083706002298 tw12654575583403160484 tw17832614168439115895 tw6434397526911173023 tw14870542957768133476
end
end hda
set_option Elab.async true
set_option maxRecDepth 100000 in
set_option maxHeartbeats 8000000 in
theorem hda:PySem.Challenge.rw_sa0519_01.Holds:=by
 w_on
 o_law
 k_head
 (case hw=>w_witness2)
 intro w s₀ s₁ mg mb G Y fa o pm cd doc dV kV ho hd hcd hD hmg hg args vals as hpre hlay hrd hwl hlo
 have KX:=kIn_of Y
 have T:=G.T
 replace hmg:mg (nm 89)=some (.ref fa):=hmg
 clear hd hcd hD ho
 wrow_args hpre hlay hrd hwl hlo
 rename_i il' _ _ _ _ _ _ _ _ _ _ _ _ hw1 _ _ _ _ _
 refine su T KX (by kernel_rfl) (by kernel_rfl) (by kernel_rfl) (by kernel_rfl) (by kernel_rfl) (by kernel_rfl) hmg hw1 ?_ (wN _) fun s' hk hos hgn=>GoodW.toG ⟨.inl ⟨.bool true, .bool true, [],rfl,raisesW_false ?_, .bool true, ?_, ?_⟩,hk,hos,hgn.trans hg⟩
 ·rename_i _ hc _
  show il'.length≤1000000
  omega
 ·wrow_none_raised
 ·wrow_post
 ·exact fun _=>⟨List.nodup_nil,fun _ h=>absurd h List.not_mem_nil⟩
end Mine
theorem PySem.Challenge.cw_sa0519_01_holds : PySem.Challenge.rw_sa0519_01.Holds :=
 Mine.hda
