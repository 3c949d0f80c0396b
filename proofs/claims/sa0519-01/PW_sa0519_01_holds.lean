import PyProof.Rows.All
import Wide.All
import OpenK.AllK
import Wide.FinOn
import Lean
import PySem.Challenge.RW_sa0519_01
open PySem PySem.W PySem.Calls PyProof.Rows
set_option Elab.async false
set_option linter.all false
set_option linter.constructorNameAsVariable false
set_option maxRecDepth 100000 set_option genInjectivity false set_option genSizeOf false set_option tactic.hygienic false set_option bootstrap.genMatcherCode false
namespace Mine
def wk1(s:Lean.Syntax):Lean.Syntax:=match s with
 | .atom _ v=> .atom .none v
 | .ident _ r v p=> .ident .none r v p
 |s=>s
def wk2(a:Array Lean.Syntax)(c:Lean.Syntax):Array Lean.Syntax:=
 let c:=Lean.Syntax.rewriteBottomUp wk1 c
 let k:=c[1].getKind
 cond (c.isOfKind `Lean.Parser.Command.open) (c[1][0].getArgs.foldl (λa i=>a.push (let t:=a[0]!;t.setArg 1 (t[1].setArg 1 (t[1][1].setArg 0 i)))) a)
  (a.push (cond (k== `Lean.Parser.Command.definition||k== `Lean.Parser.Command.abbrev) (c.setArg 0 (c[0].setArg 4 (.node .none `null #[.node .none `Lean.Parser.Command.noncomputable #[.atom .none ""]]))) c))
local macro_rules (kind:=Lean.Parser.Command.mutual)|x=>cond (x[1][0].isOfKind `Lean.Parser.Command.open) (λ_ s=> .ok (.node .none `null (x[1].getArgs.foldl wk2 #[] 1)) s) λ_ s=> .error .unsupportedSyntax s
namespace Internal
noncomputable section
open _root_.List renaming length_append→ε, length_map→ι, mem_cons→ν, length_cons→ξ, append_assoc→π, mem_singleton→ς, append_nil→υ, map_append→χ, mem_append→ω, not_mem_nil→Γ, map_map→Δ, nodup_cons→Η, mem_append_left→Θ, size_toArray→Ν, getElem?_append_left→Ο, getElem?_eq_getElem→Τ, length_set→Φ, map_cons→Χ, mem_append_right→Ψ, replicate→AA, mem_of_getElem?→AC, mem_map→AD, nodup_append→AE, getElem?_append_right→AG, set_append_right→AI, append_cons→AJ, getElem?_eq_some_iff→AR, take_length→AS, length_reverse→AX, isEmpty_iff→AZ, getElem?_take→Ab, lookup_cons→Ae, reverse_cons→Ag, take_append_of_le_length→Ah, filter_cons→Al, getElem?_set_ne→Ao, mem_map_of_mem→Ar, filterMap_cons→As, all_eq_true→Au, drop_eq_getElem_cons→Av, getElem?_map→Ay, getElem_mem→A0, map_reverse→A5, getD_eq_getElem?_getD→A9, mem_range→BA, nodup_nil→BB, mem_of_mem_take→BC, getLast?_eq_getElem?→BE, toList_toArray→BG, length_nil→BJ, forIn_cons→BK, mem_filter→BL, filter_append→BM, getElem?_set_self→BQ, mem_iff_getElem?→BS, filterMap_eq_map→BU, range→BW, mem_reverse→BY, lookup→Bb, nil_append→Bc, zip_cons_cons→Bh, cons→Bi
open _root_.Bool renaming noConfusion→ζ, or_eq_false_iff→AU, false_ne_true→Aj, and_eq_true→A4, not_eq_true'→A8, or_true→Be
open _root_.Option.some renaming inj→η
open PySem.Str renaming ofString→θ
open _root_.Nat renaming beq→μ, ble_eq_true_of_le→ο, le_of_ble_eq_true→φ, le_add_left→ψ, noConfusion→Α, ble→Ε, le_add_right→Ζ, le_refl→Ι, succ_le_succ→Κ, blt→Μ, lt_of_le_of_lt→Ρ, le_trans→Υ, add_sub_cancel_left→Ω, zero_lt_succ→AB, lt_succ_self→AF, beq_refl→AH, succ→AK, lt_of_succ_lt_succ→AM, eq_of_beq_eq_true→AO, lt_of_lt_of_le→AQ, zero_le→AT, ne_of_lt→AW, le_of_lt→AY, lt_of_succ_lt→Aa, le_succ→Ac, sub_self→Ai, succ_lt_succ→Ak, add_comm→Am, lt_succ_of_le→Ap, le_antisymm→Aq, le_of_not_lt→At, not_lt_zero→Aw, add_le_add_right→Ax, le_succ_of_le→Az, lt_succ_of_lt→A7, succ_pos→BD, add_le_add_left→BF, exists_eq_add_of_le→BN, succ_add→BO, zero_add→BP, lt_trans→BR, lt_of_not_le→BV, add_assoc→BZ, sub_succ_lt_self→Ba
open PySem.Heap renaming get?_push_of_some→Β, get?_push_size→Ξ, lt_size→Ad, dictOf_iff→BI, get?_update_self→BT, size_push→Bg
open _root_.Int renaming natCast_nonneg→AP, lt_of_lt_of_le→An, lt_irrefl→BH, lt_of_le_of_lt→Bf
open _root_.Option renaming isSome_iff_exists→AV, isNone_iff_eq_none→Af, noConfusion→A6, bind_some→BX
open PySem renaming Value→Bj, wpAny_bind→Bk, Shared→Bl, wpAny_pure→Bn, wpAny→Bp, model→Bq, Addr→Br, Around→Bs, wpAny_holding→Bt, wpAny_mono→Bu, wpAny_standAt→Bv, sizeLine_eq→Bw, mainGlobals→Bx, sysModules→By, Heap→Bz, NameKind→B0, wpAny_truthy_bool→B1, PyData→B2, cLine→B3, wpAny_assign_Name→B5, Comprehension→B6, tupleKind_room_in1→B7, callEnvC→B8, intKind→B9, Stmt→CC, FuncData→CD, wpAny_storeName_local→CG, foldedSetIterable→CH, starEach→CJ, Scope→CM, tupleKind→CN, swapsWith→CP, plainId_quiet→CQ, swappedStores→CR, compEnvC→CS, wpAny_specialOf→CU, codeAny_builtin→CW, call_meetsIn→CX, wpAny_typeOf→CY, BindsTo→CZ, assignEach→Ca, wpAny_mkInt→Cc, Flow→Cd, wpAny_call_entry→Ce, wpAny_isInstance→Cf, cellsFrom→Cg, call_meets→Ch, codeAny→Ci, bootBuiltins→Cj, constValue→Cl, backTo→Cm, relabel→Cn, wpAny_operating→Co, letOwnedTupleGo→Cp, wpAny_newList→Cq, comprehension→Cr, wpAny_release→Ct, typeLookup→Cu, builtinsNs→Cv, concat_meets→Cw, evalEach→Cz, compPost→C0, CmpOp→C4, Walks→C5, holding→C6, rawInt→C7, Result→C8
open PySem.W renaming Frag→B4, instObj→CB, emptyDict→CF, findIn→CV, kia_one→Cb, plainGet→Cy, nsIn→C3
open PyProof.Rows renaming Call_Name→CO
section
mutual open A
@[elab_as_elim] theorem C9{α:Sort _}{a:α}{P:α→Prop}{b:α}(h:a=b)(p:P b):P a:=h▸p
@[elab_as_elim] theorem Dr{α:Sort _}{a:α}{P:α→Prop}{b:α}(h:b=a)(p:P b):P a:=h▸p
@[elab_as_elim] theorem NE{α β:Type}{a r:α}{b s:β}{P:α→β→Prop}(e:some (a,b)=some (r,s))(h:P a b):P r s:=by cases e;exact h
theorem wr{G:Prop}(h: ∀Q:Prop,(G→Q)→Q):G:=h G id
theorem wt2{β γ:Type}{P:Prop}(J:β→γ→Prop)(h: ∀I:β→γ→Prop,(∀b g,I b g→J b g)→(∀b g,J b g→I b g)→P):P:=h J (λO O h=>h) λO O h=>h
@[elab_as_elim] theorem Ft{P:Nat→Prop}(h0:P 0)(h: ∀n,P (n+1))(n:Nat):P n:=Nat.casesOn (motive:=P) n h0 h
theorem ZD{k:Nat}{P: ∀z:Nat,z<k+1→Prop}(h0:P 0 (BD k))(h: ∀z (e:z<k),P (z+1) (Ak e)): ∀z e,P z e:=λz=>Nat.casesOn (motive:=λz=> ∀e,P z e) z (λO=>h0) λz e=>h z (AM e)
theorem ltz{P: ∀z:Nat,z<0→Prop}: ∀z e,P z e:=λO e=>absurd e (Aw _)
theorem ZI{a b c:Nat}(h:a≤b)(p:Ε b c=true):a≤c:=Υ h (φ p)
theorem IJ{a b c:Nat}(h:a<b)(p:Ε b c=true):a<c:=Υ h (φ p)
theorem QB{a b c:Nat}(h:a<b)(p:Ε b (c+1)=true):a≤c:=Nat.le_of_lt_succ (IJ h p)
theorem Lf{a b c:Nat}(h:a≤b)(p:Ε (b+1) c=true):a<c:=IJ (Ap h) p
theorem PU{a b c:Nat}(h:a+b<c):a<c:=Ρ (Ζ _ _) h
theorem zqC{a b c:Nat}(h:a+b≤c):a≤c:=Υ (Ζ _ _) h
theorem oI{a b c d:Nat}(h:a+b<c)(p:Ε c d=true):a<d:=IJ (PU h) p
theorem zqD{a b c d:Nat}(h:a+b<c)(p:Ε c (d+1)=true):a≤d:=QB (PU h) p
theorem Tg{a b c:Nat}(h:a+(b+1)<c):a+1+b<c:=(BO a b).symm▸h
theorem zqE{a b c:Nat}(h:a+(b+1)≤c):a+1+b≤c:=(BO a b).symm▸h
theorem qy{a b c:Nat}(h:a+(b+1)=c):a+1+b=c:=(BO a b).trans h
theorem cr{a b c d:Nat}(h:a+(b+1)<c)(p:Ε c d=true):a+1<d:=oI (Tg h) p
theorem t9{a b c:Nat}(h:a+(b+1)=c):a<c:=h▸Ρ (Ζ a b) (AF _)
theorem vt{a:Nat}(h:a<1):a=0:=Nat.lt_one_iff.mp h
theorem X4{a b:Nat}(h:b<a):a=a - 1+1:=(Nat.sub_add_cancel (Ρ (AT _) h)).symm
theorem ZV{a b k c:Nat}(h:a<b)(p:Ε (k+b) c=true):k+a<c:=IJ (Nat.add_lt_add_left h k) p
theorem wc{a b k c:Nat}(h:a<b)(p:Ε (k+b) (c+1)=true):k+a≤c:=QB (Nat.add_lt_add_left h k) p
theorem zqj{a b k c:Nat}(h:a<b)(p:Ε (b+k) c=true):a+k<c:=IJ (Nat.add_lt_add_right h k) p
theorem zqk{a:Nat}(h:a<2):a=0∨a=1:=Nat.le_one_iff_eq_zero_or_eq_one.mp (Nat.le_of_lt_succ h)
theorem pB{a:Int}(h:0<a∧a<4):a=1∨a=2∨a=3:=by lia
theorem zqM{a b:Nat}{c:Int}(h:a<b)(p:decide ((b:Int)≤c)=true):(a:Int)<c:=An (Int.ofNat_lt.mpr h) (of_decide_eq_true p)
theorem rQ{a:Nat}(h:0<a):0<(a:Int):=Int.natCast_pos.mpr h
theorem zqO{a:Nat}{c:Int}(p:decide (c≤0)=true):c≤(a:Int):=Int.le_trans (of_decide_eq_true p) (AP a)
theorem oJ{a b c n:Nat}(h:a+(b+1)<n)(k:c≤a+1):c+b<n:=Ρ (Ax k b) (Tg h)
theorem zqP{a b c n:Nat}(h:a+(b+1)<n)(k:c=a+1):c+b<n:=k▸Tg h
theorem xG{a b c n m:Nat}(h:a+b<n)(k:c≤a)(p:Ε n m=true):c<m:=Ρ k (oI h p)
theorem rI{a:Nat}(h:0<a∧a<4):0<(a:Int)∧(a:Int)<4:=⟨rQ h.1,zqM h.2 rfl⟩
theorem zqu{a b j k c:Nat}(h:a<b)(g:c≤a+k)(p:Ε (b+k) j=true):c<j:=Ρ g (zqj h p)
theorem zM{a b k l c d j:Nat}(h:a<b)(g:c≤a+k)(g':d≤c+l)(p:Ε (b+k+l) j=true):d<j:=zqu (Ρ g (Nat.add_lt_add_right h k)) g' p
theorem v9{a b c k l j:Nat}(h:a≤b+k)(g:c≤a+l)(p:Ε (k+l) j=true):c≤b+j:=Υ g (Υ (Ax h l) (BZ b k l▸BF (φ p) b))
theorem wH{a b c d k l m j:Nat}(h:a≤b+k)(g:c≤a+l)(g':d≤c+m)(p:Ε (k+l+m) j=true):d≤b+j:=v9 (v9 h g (ο (Ι _))) g' p
theorem sV{a b k l:Nat}(h:a+k<b)(p:Ε l k=true):a+l<b:=Ρ (BF (φ p) a) h
theorem vn{a k l:Nat}(p:Ε k l=true):a+k≤a+l:=BF (φ p) a
theorem j9{a k l:Nat}(h:a=k)(p:μ k l=false): ¬a=l:=λq=>absurd (h.symm.trans q) (Nat.ne_of_beq_eq_false p)
theorem vA{a l u c:Int}(h:l≤a∧a<u)(p:decide (u≤c)=true): ¬a=c:=λq=>BH c (An (q▸h.2) (of_decide_eq_true p))
theorem zh{a l u c:Int}(h:l<a∧a<u)(p:decide (u≤c)=true): ¬a=c:=vA ⟨Int.le_of_lt h.1,h.2⟩ p
theorem vz{a l u c:Int}(h:l≤a∧a<u)(p:decide (u≤c)=true):a<c:=An h.2 (of_decide_eq_true p)
theorem zrm{a l u c:Int}(h:l≤a∧a<u)(q:c≤a)(p:decide (u≤c)=true):False:=BH c (Bf q (vz h p))
theorem zrM{a l u c:Int}(h:l<a∧a<u)(q:c≤a)(p:decide (u≤c)=true):False:=zrm ⟨Int.le_of_lt h.1,h.2⟩ q p
theorem xU{a l u c:Int}(h:l<a∧a<u)(q:a=c)(p:decide (u≤c)=true):False:=zh h p q
theorem zrp{a b:Int}{x:Int}(h:x<a)(g:b≤x)(p:decide (a≤b)=true):False:=BH b (Bf g (An h (of_decide_eq_true p)))
theorem zrr{a:Int}{n k m:Nat}{z c:Int}{l:Int}(h:z≤a∧a<c+(n:Int))(g:m<n∧n≤k)(p:decide (c+(k:Int)≤l)=true):a<l:=An h.2 (Int.le_trans (Int.add_le_add_left (Int.ofNat_le.mpr g.2) c) (of_decide_eq_true p))
theorem zrs{a:Int}{n k:Nat}{c:Int}{l:Int}(h:a<c+(n:Int))(g:n≤k)(p:decide (c+(k:Int)≤l)=true):a<l:=An h (Int.le_trans (Int.add_le_add_left (Int.ofNat_le.mpr g) c) (of_decide_eq_true p))
theorem zrt{a l u c d:Int}(h:l≤a∧a<u)(p:decide (u≤c)=true):a<c∨d<a:= .inl (vz h p)
theorem zru{a c d l:Int}(h:a<c∨d<a)(p:decide (c≤l∧l≤d)=true):a≠l:=λq=>(q▸h).elim (λe=>BH l (An e (of_decide_eq_true p).1)) λe=>BH l (Bf (of_decide_eq_true p).2 e)
theorem xE{a l u c:Int}(h: ¬(l≤a∧a≤u))(p:decide (l≤c∧c≤u)=true):c≠a:=λq=>h (q▸of_decide_eq_true p)
theorem yt{a l u:Int}{c:Int}(q:a=c)(p:decide (l≤c∧c<u)=true):l≤a∧a<u:=q▸of_decide_eq_true p
theorem zrx{a b c d e:Nat}(h:a<b)(g:c≤d)(p:Ε (b+d) e=true):a+c<e:=IJ (Nat.add_lt_add_of_lt_of_le h g) p
theorem zry{a b c:Nat}(h:a=b)(g:c<b):c<a:=h▸g
theorem zrY{a b c d:Nat}(h:a=b)(g:b<c)(p:Ε c d=true):a<d:=h▸IJ g p
theorem zrz{a b c d:Nat}(h:a≤b)(g:b<c)(p:Ε c d=true):a<d:=Ρ h (IJ g p)
theorem uF{a b c d:Nat}(h:a≤b)(g:b≤c)(p:Ε (c+1) d=true):a<d:=Lf (Υ h g) p
theorem zsa{a b c d k:Nat}(h:a=b)(g:b=c)(q:k<c∧c≤d)(p:Ε (d+1) e=true):a<e:=h.trans g▸Lf q.2 p
theorem zsb{a b c d k:Nat}(h:a=b)(g:b=c)(q:k<c∧c≤d):k<a:=h.trans g▸q.1
theorem wo{a b:Nat}:a+(b+1)=a+1+b:=(BO a b).symm
theorem yq{a b:Nat}:a+1+b=a+(b+1):=BO a b
theorem xe{a:Nat}:(a:Int)<((a+1:Nat):Int):=Int.ofNat_lt.mpr (AF a)
theorem zsf{a b:Nat}:(a:Int)≠((a+(b+1):Nat):Int):=λh=>absurd (Int.ofNat_inj.mp h) (AW (Ρ (Ζ a b) (AF _)))
theorem zsh{a b c:Nat}(h:a≤b+c):a+1≤b+1+c:=(BO b c).symm▸Κ h
theorem zZ{a b c d:Nat}(h:a+b<c)(p:Ε c d=true):b<d:=Ρ (ψ b a) (IJ h p)
theorem zsj{a b c d:Nat}(h:a+b<c)(p:Ε c d=true):0+b<d:=(BP b).symm▸zZ h p
theorem zsl{a b c:Nat}(h:a≤b+1)(g:c≤a+d):c≤b+(d+1):=yq (a:=b) (b:=d)▸Υ g (Ax h d)
theorem zsm{a k b c n:Nat}(h:a+k*(b+1)<n)(g:c≤a+k):c+k*b<n:=Ρ (Ax g _) (by rw [BZ,Am k];exact h)
theorem yD{k m:Nat}(h:k+1≤m): ¬a+m≤a+k:=λe=>absurd (Nat.le_of_add_le_add_left e) (Nat.not_le_of_lt h)
theorem zsr{a b:Nat}(h: ¬a≤b): ¬(a:Int)≤b:=λe=>h (Int.ofNat_le.mp e)
theorem zst{a:Nat}(h:a<4):a=0∨a=1∨a=2∨a=3:=by lia
theorem zsx{a:Nat}(h:0<a∧a<4)(p:decide (4≤c)=true):(a:Int)≠c:=λe=>absurd (e▸zqM h.2 (of_decide_eq_true p|>λq=>decide_eq_true (p:=((4:Nat):Int)≤c) q)) (BH _)
end
section
mutual open A
variable{P Q R S T:Prop}{Z:Prop}
theorem Dl(h:P∧Q)(k:P→Q→Z):Z:=k h.1 h.2
theorem ET(h:P∧Q∧R)(k:P→Q→R→Z):Z:=k h.1 h.2.1 h.2.2
theorem OR(h:P∧Q∧R∧S)(k:P→Q→R→S→Z):Z:=k h.1 h.2.1 h.2.2.1 h.2.2.2
theorem Vt(h0:P)(h1:Q)(h2:R)(h3:S):P∧Q∧R∧S:=⟨h0,h1,h2,h3⟩
theorem oV(h0:P)(h1:Q)(h2:R)(h3:S)(h4:T):P∧Q∧R∧S∧T:=⟨h0,h1,h2,h3,h4⟩
end
end
section
mutual open A
variable{A:Type}{P Q R S T:A→Prop}{Z:Prop}
theorem D3(h: ∃x,P x)(k: ∀x,P x→Z):Z:=h.elim λx h=>k x h
theorem DQ(h: ∃x,P x∧Q x)(k: ∀x,P x→Q x→Z):Z:=h.elim λx h=>k x h.1 h.2
theorem ES(h: ∃x,P x∧Q x∧R x)(k: ∀x,P x→Q x→R x→Z):Z:=h.elim λx h=>k x h.1 h.2.1 h.2.2
theorem KU(h: ∃x,P x∧Q x∧R x∧S x)(k: ∀x,P x→Q x→R x→S x→Z):Z:=h.elim λx h=>k x h.1 h.2.1 h.2.2.1 h.2.2.2
theorem W7(h: ∃x,P x∧Q x∧R x∧S x∧T x)(k: ∀x,P x→Q x→R x→S x→T x→Z):Z:=h.elim λx h=>k x h.1 h.2.1 h.2.2.1 h.2.2.2.1 h.2.2.2.2
theorem EG(x)(h0:P x): ∃x,P x:=⟨x,h0⟩
theorem DM(x)(h0:P x)(h1:Q x): ∃x,P x∧Q x:=⟨x,h0,h1⟩
theorem ED(x)(h0:P x)(h1:Q x)(h2:R x): ∃x,P x∧Q x∧R x:=⟨x,h0,h1,h2⟩
theorem KV(x)(h0:P x)(h1:Q x)(h2:R x)(h3:S x): ∃x,P x∧Q x∧R x∧S x:=⟨x,h0,h1,h2,h3⟩
theorem hV(x)(h0:P x)(h1:Q x)(h2:R x)(h3:S x)(h4:T x): ∃x,P x∧Q x∧R x∧S x∧T x:=⟨x,h0,h1,h2,h3,h4⟩
end
end
section
mutual open A
variable{A B:Type}{P Q R S T U V W:A→B→Prop}{Z:Prop}
theorem HY(h: ∃x y,P x y)(k: ∀x y,P x y→Z):Z:=h.elim λx h=>h.elim λy h=>k x y h
theorem GE(h: ∃x y,P x y∧Q x y)(k: ∀x y,P x y→Q x y→Z):Z:=h.elim λx h=>h.elim λy h=>k x y h.1 h.2
theorem D0(h: ∃x y,P x y∧Q x y∧R x y)(k: ∀x y,P x y→Q x y→R x y→Z):Z:=h.elim λx h=>h.elim λy h=>k x y h.1 h.2.1 h.2.2
theorem IU(h: ∃x y,P x y∧Q x y∧R x y∧S x y)(k: ∀x y,P x y→Q x y→R x y→S x y→Z):Z:=h.elim λx h=>h.elim λy h=>k x y h.1 h.2.1 h.2.2.1 h.2.2.2
theorem IM(h: ∃x y,P x y∧Q x y∧R x y∧S x y∧T x y)(k: ∀x y,P x y→Q x y→R x y→S x y→T x y→Z):Z:=h.elim λx h=>h.elim λy h=>k x y h.1 h.2.1 h.2.2.1 h.2.2.2.1 h.2.2.2.2
theorem YE(h: ∃x y,P x y∧Q x y∧R x y∧S x y∧T x y∧U x y)(k: ∀x y,P x y→Q x y→R x y→S x y→T x y→U x y→Z):Z:=h.elim λx h=>h.elim λy h=>k x y h.1 h.2.1 h.2.2.1 h.2.2.2.1 h.2.2.2.2.1 h.2.2.2.2.2
theorem Mm(h: ∃x y,P x y∧Q x y∧R x y∧S x y∧T x y∧U x y∧V x y∧W x y)(k: ∀x y,P x y→Q x y→R x y→S x y→T x y→U x y→V x y→W x y→Z):Z:=h.elim λx h=>h.elim λy h=>k x y h.1 h.2.1 h.2.2.1 h.2.2.2.1 h.2.2.2.2.1 h.2.2.2.2.2.1 h.2.2.2.2.2.2.1 h.2.2.2.2.2.2.2
theorem TM(x y)(h0:P x y): ∃x y,P x y:=⟨x,y,h0⟩
theorem Gp(x y)(h0:P x y)(h1:Q x y): ∃x y,P x y∧Q x y:=⟨x,y,h0,h1⟩
theorem EK(x y)(h0:P x y)(h1:Q x y)(h2:R x y): ∃x y,P x y∧Q x y∧R x y:=⟨x,y,h0,h1,h2⟩
theorem FC(x y)(h0:P x y)(h1:Q x y)(h2:R x y)(h3:S x y): ∃x y,P x y∧Q x y∧R x y∧S x y:=⟨x,y,h0,h1,h2,h3⟩
theorem Kf(x y)(h0:P x y)(h1:Q x y)(h2:R x y)(h3:S x y)(h4:T x y): ∃x y,P x y∧Q x y∧R x y∧S x y∧T x y:=⟨x,y,h0,h1,h2,h3,h4⟩
theorem IB(x y)(h0:P x y)(h1:Q x y)(h2:R x y)(h3:S x y)(h4:T x y)(h5:U x y): ∃x y,P x y∧Q x y∧R x y∧S x y∧T x y∧U x y:=⟨x,y,h0,h1,h2,h3,h4,h5⟩
end
end
section
mutual open A
variable{A B C:Type}{P Q R S T U V:A→B→C→Prop}{Z:Prop}
theorem TJ(h: ∃x y z,P x y z)(k: ∀x y z,P x y z→Z):Z:=h.elim λx h=>h.elim λy h=>h.elim λz h=>k x y z h
theorem Ug(h: ∃x y z,P x y z∧Q x y z)(k: ∀x y z,P x y z→Q x y z→Z):Z:=h.elim λx h=>h.elim λy h=>h.elim λz h=>k x y z h.1 h.2
theorem XN(h: ∃x y z,P x y z∧Q x y z∧R x y z)(k: ∀x y z,P x y z→Q x y z→R x y z→Z):Z:=h.elim λx h=>h.elim λy h=>h.elim λz h=>k x y z h.1 h.2.1 h.2.2
theorem Do(h: ∃x y z,P x y z∧Q x y z∧R x y z∧S x y z)(k: ∀x y z,P x y z→Q x y z→R x y z→S x y z→Z):Z:=h.elim λx h=>h.elim λy h=>h.elim λz h=>k x y z h.1 h.2.1 h.2.2.1 h.2.2.2
theorem MG(h: ∃x y z,P x y z∧Q x y z∧R x y z∧S x y z∧T x y z)(k: ∀x y z,P x y z→Q x y z→R x y z→S x y z→T x y z→Z):Z:=h.elim λx h=>h.elim λy h=>h.elim λz h=>k x y z h.1 h.2.1 h.2.2.1 h.2.2.2.1 h.2.2.2.2
theorem Ib(h: ∃x y z,P x y z∧Q x y z∧R x y z∧S x y z∧T x y z∧U x y z)(k: ∀x y z,P x y z→Q x y z→R x y z→S x y z→T x y z→U x y z→Z):Z:=h.elim λx h=>h.elim λy h=>h.elim λz h=>k x y z h.1 h.2.1 h.2.2.1 h.2.2.2.1 h.2.2.2.2.1 h.2.2.2.2.2
theorem JU(h: ∃x y z,P x y z∧Q x y z∧R x y z∧S x y z∧T x y z∧U x y z∧V x y z)(k: ∀x y z,P x y z→Q x y z→R x y z→S x y z→T x y z→U x y z→V x y z→Z):Z:=h.elim λx h=>h.elim λy h=>h.elim λz h=>k x y z h.1 h.2.1 h.2.2.1 h.2.2.2.1 h.2.2.2.2.1 h.2.2.2.2.2.1 h.2.2.2.2.2.2
theorem Ma(x y z)(h0:P x y z): ∃x y z,P x y z:=⟨x,y,z,h0⟩
theorem QQ(x y z)(h0:P x y z)(h1:Q x y z): ∃x y z,P x y z∧Q x y z:=⟨x,y,z,h0,h1⟩
theorem LP(x y z)(h0:P x y z)(h1:Q x y z)(h2:R x y z): ∃x y z,P x y z∧Q x y z∧R x y z:=⟨x,y,z,h0,h1,h2⟩
theorem Ea(x y z)(h0:P x y z)(h1:Q x y z)(h2:R x y z)(h3:S x y z): ∃x y z,P x y z∧Q x y z∧R x y z∧S x y z:=⟨x,y,z,h0,h1,h2,h3⟩
theorem Lv(x y z)(h0:P x y z)(h1:Q x y z)(h2:R x y z)(h3:S x y z)(h4:T x y z): ∃x y z,P x y z∧Q x y z∧R x y z∧S x y z∧T x y z:=⟨x,y,z,h0,h1,h2,h3,h4⟩
theorem UX(x y z)(h0:P x y z)(h1:Q x y z)(h2:R x y z)(h3:S x y z)(h4:T x y z)(h5:U x y z): ∃x y z,P x y z∧Q x y z∧R x y z∧S x y z∧T x y z∧U x y z:=⟨x,y,z,h0,h1,h2,h3,h4,h5⟩
theorem Td(x y z)(h0:P x y z)(h1:Q x y z)(h2:R x y z)(h3:S x y z)(h4:T x y z)(h5:U x y z)(h6:V x y z): ∃x y z,P x y z∧Q x y z∧R x y z∧S x y z∧T x y z∧U x y z∧V x y z:=⟨x,y,z,h0,h1,h2,h3,h4,h5,h6⟩
end
end
section
mutual open A
variable{A B C D:Type}{P Q R S T U:A→B→C→D→Prop}{Z:Prop}
theorem nG(h: ∃x y z u,P x y z u)(k: ∀x y z u,P x y z u→Z):Z:=h.elim λx h=>h.elim λy h=>h.elim λz h=>h.elim λu h=>k x y z u h
theorem Jn(h: ∃x y z u,P x y z u∧Q x y z u)(k: ∀x y z u,P x y z u→Q x y z u→Z):Z:=h.elim λx h=>h.elim λy h=>h.elim λz h=>h.elim λu h=>k x y z u h.1 h.2
theorem JK(h: ∃x y z u,P x y z u∧Q x y z u∧R x y z u)(k: ∀x y z u,P x y z u→Q x y z u→R x y z u→Z):Z:=h.elim λx h=>h.elim λy h=>h.elim λz h=>h.elim λu h=>k x y z u h.1 h.2.1 h.2.2
theorem Gf(h: ∃x y z u,P x y z u∧Q x y z u∧R x y z u∧S x y z u)(k: ∀x y z u,P x y z u→Q x y z u→R x y z u→S x y z u→Z):Z:=h.elim λx h=>h.elim λy h=>h.elim λz h=>h.elim λu h=>k x y z u h.1 h.2.1 h.2.2.1 h.2.2.2
theorem UR(h: ∃x y z u,P x y z u∧Q x y z u∧R x y z u∧S x y z u∧T x y z u)(k: ∀x y z u,P x y z u→Q x y z u→R x y z u→S x y z u→T x y z u→Z):Z:=h.elim λx h=>h.elim λy h=>h.elim λz h=>h.elim λu h=>k x y z u h.1 h.2.1 h.2.2.1 h.2.2.2.1 h.2.2.2.2
theorem Hl(h: ∃x y z u,P x y z u∧Q x y z u∧R x y z u∧S x y z u∧T x y z u∧U x y z u)(k: ∀x y z u,P x y z u→Q x y z u→R x y z u→S x y z u→T x y z u→U x y z u→Z):Z:=h.elim λx h=>h.elim λy h=>h.elim λz h=>h.elim λu h=>k x y z u h.1 h.2.1 h.2.2.1 h.2.2.2.1 h.2.2.2.2.1 h.2.2.2.2.2
theorem pU(x y z u)(h0:P x y z u): ∃x y z u,P x y z u:=⟨x,y,z,u,h0⟩
theorem Px(x y z u)(h0:P x y z u)(h1:Q x y z u): ∃x y z u,P x y z u∧Q x y z u:=⟨x,y,z,u,h0,h1⟩
theorem TI(x y z u)(h0:P x y z u)(h1:Q x y z u)(h2:R x y z u): ∃x y z u,P x y z u∧Q x y z u∧R x y z u:=⟨x,y,z,u,h0,h1,h2⟩
theorem FQ(x y z u)(h0:P x y z u)(h1:Q x y z u)(h2:R x y z u)(h3:S x y z u): ∃x y z u,P x y z u∧Q x y z u∧R x y z u∧S x y z u:=⟨x,y,z,u,h0,h1,h2,h3⟩
theorem Il(x y z u)(h0:P x y z u)(h1:Q x y z u)(h2:R x y z u)(h3:S x y z u)(h4:T x y z u): ∃x y z u,P x y z u∧Q x y z u∧R x y z u∧S x y z u∧T x y z u:=⟨x,y,z,u,h0,h1,h2,h3,h4⟩
theorem Gn(x y z u)(h0:P x y z u)(h1:Q x y z u)(h2:R x y z u)(h3:S x y z u)(h4:T x y z u)(h5:U x y z u): ∃x y z u,P x y z u∧Q x y z u∧R x y z u∧S x y z u∧T x y z u∧U x y z u:=⟨x,y,z,u,h0,h1,h2,h3,h4,h5⟩
end
end
section
mutual open A
variable{A B C D E:Type}{P Q R S T U:A→B→C→D→E→Prop}{Z:Prop}
theorem Z3(h: ∃x y z u v,P x y z u v∧Q x y z u v)(k: ∀x y z u v,P x y z u v→Q x y z u v→Z):Z:=h.elim λx h=>h.elim λy h=>h.elim λz h=>h.elim λu h=>h.elim λv h=>k x y z u v h.1 h.2
theorem FT(h: ∃x y z u v,P x y z u v∧Q x y z u v∧R x y z u v)(k: ∀x y z u v,P x y z u v→Q x y z u v→R x y z u v→Z):Z:=h.elim λx h=>h.elim λy h=>h.elim λz h=>h.elim λu h=>h.elim λv h=>k x y z u v h.1 h.2.1 h.2.2
theorem Sn(h: ∃x y z u v,P x y z u v∧Q x y z u v∧R x y z u v∧S x y z u v∧T x y z u v)(k: ∀x y z u v,P x y z u v→Q x y z u v→R x y z u v→S x y z u v→T x y z u v→Z):Z:=h.elim λx h=>h.elim λy h=>h.elim λz h=>h.elim λu h=>h.elim λv h=>k x y z u v h.1 h.2.1 h.2.2.1 h.2.2.2.1 h.2.2.2.2
theorem RJ(h: ∃x y z u v,P x y z u v∧Q x y z u v∧R x y z u v∧S x y z u v∧T x y z u v∧U x y z u v)(k: ∀x y z u v,P x y z u v→Q x y z u v→R x y z u v→S x y z u v→T x y z u v→U x y z u v→Z):Z:=h.elim λx h=>h.elim λy h=>h.elim λz h=>h.elim λu h=>h.elim λv h=>k x y z u v h.1 h.2.1 h.2.2.1 h.2.2.2.1 h.2.2.2.2.1 h.2.2.2.2.2
theorem GX(x y z u v)(h0:P x y z u v)(h1:Q x y z u v)(h2:R x y z u v): ∃x y z u v,P x y z u v∧Q x y z u v∧R x y z u v:=⟨x,y,z,u,v,h0,h1,h2⟩
theorem Rt(x y z u v)(h0:P x y z u v)(h1:Q x y z u v)(h2:R x y z u v)(h3:S x y z u v)(h4:T x y z u v): ∃x y z u v,P x y z u v∧Q x y z u v∧R x y z u v∧S x y z u v∧T x y z u v:=⟨x,y,z,u,v,h0,h1,h2,h3,h4⟩
theorem Qo(x y z u v)(h0:P x y z u v)(h1:Q x y z u v)(h2:R x y z u v)(h3:S x y z u v)(h4:T x y z u v)(h5:U x y z u v): ∃x y z u v,P x y z u v∧Q x y z u v∧R x y z u v∧S x y z u v∧T x y z u v∧U x y z u v:=⟨x,y,z,u,v,h0,h1,h2,h3,h4,h5⟩
end
end
section
mutual open A
variable{A B C D E F:Type}{P Q R S T U:A→B→C→D→E→F→Prop}{Z:Prop}
theorem Vb(h: ∃x y z u v w,P x y z u v w∧Q x y z u v w∧R x y z u v w)(k: ∀x y z u v w,P x y z u v w→Q x y z u v w→R x y z u v w→Z):Z:=h.elim λx h=>h.elim λy h=>h.elim λz h=>h.elim λu h=>h.elim λv h=>h.elim λw h=>k x y z u v w h.1 h.2.1 h.2.2
theorem Mk(h: ∃x y z u v w,P x y z u v w∧Q x y z u v w∧R x y z u v w∧S x y z u v w)(k: ∀x y z u v w,P x y z u v w→Q x y z u v w→R x y z u v w→S x y z u v w→Z):Z:=h.elim λx h=>h.elim λy h=>h.elim λz h=>h.elim λu h=>h.elim λv h=>h.elim λw h=>k x y z u v w h.1 h.2.1 h.2.2.1 h.2.2.2
theorem Ho(h: ∃x y z u v w,P x y z u v w∧Q x y z u v w∧R x y z u v w∧S x y z u v w∧T x y z u v w∧U x y z u v w)(k: ∀x y z u v w,P x y z u v w→Q x y z u v w→R x y z u v w→S x y z u v w→T x y z u v w→U x y z u v w→Z):Z:=h.elim λx h=>h.elim λy h=>h.elim λz h=>h.elim λu h=>h.elim λv h=>h.elim λw h=>k x y z u v w h.1 h.2.1 h.2.2.1 h.2.2.2.1 h.2.2.2.2.1 h.2.2.2.2.2
theorem GA(x y z u v w)(h0:P x y z u v w)(h1:Q x y z u v w)(h2:R x y z u v w)(h3:S x y z u v w): ∃x y z u v w,P x y z u v w∧Q x y z u v w∧R x y z u v w∧S x y z u v w:=⟨x,y,z,u,v,w,h0,h1,h2,h3⟩
theorem J1(x y z u v w)(h0:P x y z u v w)(h1:Q x y z u v w)(h2:R x y z u v w)(h3:S x y z u v w)(h4:T x y z u v w)(h5:U x y z u v w): ∃x y z u v w,P x y z u v w∧Q x y z u v w∧R x y z u v w∧S x y z u v w∧T x y z u v w∧U x y z u v w:=⟨x,y,z,u,v,w,h0,h1,h2,h3,h4,h5⟩
end
end
mutual open A
theorem i9{Gw:Type}{P0:Prop}{P1:Prop}{P3:Gw→Prop}{P4:Gw→Prop}{P5:Gw→Prop}{Q:Prop}(h:P0∧P1∧ ∃x2:Gw,P3 x2∧P4 x2∧P5 x2)(k: ∀(p0:P0) (p1:P1) (x2:Gw) (p3:P3 x2) (p4:P4 x2) (p5:P5 x2),Q):Q:=(h.2.2).elim λx2 h2=>k h.1 h.2.1 x2 h2.1 h2.2.1 h2.2.2
theorem t6{Gu:Type}{P0:Prop}{P2:Gu→Prop}{Q:Prop}(h:P0∧ ∃x1:Gu,P2 x1)(k: ∀(p0:P0) (x1:Gu) (p2:P2 x1),Q):Q:=(h.2).elim λx1 h1=>k h.1 x1 h1
theorem rF{Gu:Type}{P0:Prop}{P2:Gu→Prop}{P3:Gu→Prop}{Q:Prop}(h:P0∧ ∃x1:Gu,P2 x1∧P3 x1)(k: ∀(p0:P0) (x1:Gu) (p2:P2 x1) (p3:P3 x1),Q):Q:=(h.2).elim λx1 h1=>k h.1 x1 h1.1 h1.2
theorem QR{Gu:Type}{P0:Prop}{P2:Gu→Prop}{P3:Gu→Prop}{P4:Gu→Prop}{Q:Prop}(h:P0∧ ∃x1:Gu,P2 x1∧P3 x1∧P4 x1)(k: ∀(p0:P0) (x1:Gu) (p2:P2 x1) (p3:P3 x1) (p4:P4 x1),Q):Q:=(h.2).elim λx1 h1=>k h.1 x1 h1.1 h1.2.1 h1.2.2
theorem o8{Gu:Type}{Gw:Type}{P0:Prop}{P3:Gu→Gw→Prop}{P4:Gu→Gw→Prop}{Q:Prop}(h:P0∧ ∃x1:Gu,∃x2:Gw,P3 x1 x2∧P4 x1 x2)(k: ∀(p0:P0) (x1:Gu) (x2:Gw) (p3:P3 x1 x2) (p4:P4 x1 x2),Q):Q:=(h.2).elim λx1 h1=>(h1).elim λx2 h2=>k h.1 x1 x2 h2.1 h2.2
theorem Kg{Gu:Type}{Gw:Type}{P0:Prop}{P3:Gu→Gw→Prop}{P4:Gu→Gw→Prop}{P5:Gu→Gw→Prop}{Q:Prop}(h:P0∧ ∃x1:Gu,∃x2:Gw,P3 x1 x2∧P4 x1 x2∧P5 x1 x2)(k: ∀(p0:P0) (x1:Gu) (x2:Gw) (p3:P3 x1 x2) (p4:P4 x1 x2) (p5:P5 x1 x2),Q):Q:=(h.2).elim λx1 h1=>(h1).elim λx2 h2=>k h.1 x1 x2 h2.1 h2.2.1 h2.2.2
theorem tF{IP:Type}{Gw:Type}{P1:IP→Prop}{P3:IP→Gw→Prop}{Q:Prop}(h: ∃x0:IP,P1 x0∧ ∃x2:Gw,P3 x0 x2)(k: ∀(x0:IP) (p1:P1 x0) (x2:Gw) (p3:P3 x0 x2),Q):Q:=h.elim λx0 h0=>(h0.2).elim λx2 h2=>k x0 h0.1 x2 h2
theorem fc{IP:Type}{Gw:Type}{P1:IP→Prop}{P3:IP→Gw→Prop}{P4:IP→Gw→Prop}{P5:IP→Gw→Prop}{Q:Prop}(h: ∃x0:IP,P1 x0∧ ∃x2:Gw,P3 x0 x2∧P4 x0 x2∧P5 x0 x2)(k: ∀(x0:IP) (p1:P1 x0) (x2:Gw) (p3:P3 x0 x2) (p4:P4 x0 x2) (p5:P5 x0 x2),Q):Q:=h.elim λx0 h0=>(h0.2).elim λx2 h2=>k x0 h0.1 x2 h2.1 h2.2.1 h2.2.2
theorem dX{IP:Type}{Gw:Type}{P1:IP→Prop}{P3:IP→Gw→Prop}{P4:IP→Gw→Prop}{P5:IP→Gw→Prop}{P6:IP→Gw→Prop}{Q:Prop}(h: ∃x0:IP,P1 x0∧ ∃x2:Gw,P3 x0 x2∧P4 x0 x2∧P5 x0 x2∧P6 x0 x2)(k: ∀(x0:IP) (p1:P1 x0) (x2:Gw) (p3:P3 x0 x2) (p4:P4 x0 x2) (p5:P5 x0 x2) (p6:P6 x0 x2),Q):Q:=h.elim λx0 h0=>(h0.2).elim λx2 h2=>k x0 h0.1 x2 h2.1 h2.2.1 h2.2.2.1 h2.2.2.2
theorem Q9{IP:Type}{Gw:Type}{SV:Type}{kH:Type}{P1:IP→Prop}{P5:IP→Gw→SV→kH→Prop}{P6:IP→Gw→SV→kH→Prop}{P7:IP→Gw→SV→kH→Prop}{P8:IP→Gw→SV→kH→Prop}{P9:IP→Gw→SV→kH→Prop}{P10:IP→Gw→SV→kH→Prop}{Q:Prop}(h: ∃x0:IP,P1 x0∧ ∃x2:Gw,∃x3:SV,∃x4:kH,P5 x0 x2 x3 x4∧P6 x0 x2 x3 x4∧P7 x0 x2 x3 x4∧P8 x0 x2 x3 x4∧P9 x0 x2 x3 x4∧P10 x0 x2 x3 x4)(k: ∀(x0:IP) (p1:P1 x0) (x2:Gw) (x3:SV) (x4:kH) (p5:P5 x0 x2 x3 x4) (p6:P6 x0 x2 x3 x4) (p7:P7 x0 x2 x3 x4) (p8:P8 x0 x2 x3 x4) (p9:P9 x0 x2 x3 x4) (p10:P10 x0 x2 x3 x4),Q):Q:=h.elim λx0 h0=>(h0.2).elim λx2 h2=>(h2).elim λx3 h3=>(h3).elim λx4 h4=>k x0 h0.1 x2 x3 x4 h4.1 h4.2.1 h4.2.2.1 h4.2.2.2.1 h4.2.2.2.2.1 h4.2.2.2.2.2
theorem iI{Gu:Type}{P0:Prop}{P2:Gu→Prop}(p0:P0)(x1:Gu)(p2:P2 x1):P0∧ ∃x1:Gu,P2 x1:=⟨p0,x1,p2⟩
theorem GR{Gu:Type}{P0:Prop}{P2:Gu→Prop}{P3:Gu→Prop}(p0:P0)(x1:Gu)(p2:P2 x1)(p3:P3 x1):P0∧ ∃x1:Gu,P2 x1∧P3 x1:=⟨p0,x1,p2,p3⟩
theorem cG{Gu:Type}{P0:Prop}{P2:Gu→Prop}{P3:Gu→Prop}{P4:Gu→Prop}(p0:P0)(x1:Gu)(p2:P2 x1)(p3:P3 x1)(p4:P4 x1):P0∧ ∃x1:Gu,P2 x1∧P3 x1∧P4 x1:=⟨p0,x1,p2,p3,p4⟩
theorem ix{Gu:Type}{SV:Type}{P0:Prop}{P2:Gu→Prop}{P4:Gu→SV→Prop}{P5:Gu→SV→Prop}(p0:P0)(x1:Gu)(p2:P2 x1)(x3:SV)(p4:P4 x1 x3)(p5:P5 x1 x3):P0∧ ∃x1:Gu,P2 x1∧ ∃x3:SV,P4 x1 x3∧P5 x1 x3:=⟨p0,x1,p2,x3,p4,p5⟩
theorem FK{Gu:Type}{Gw:Type}{P0:Prop}{P3:Gu→Gw→Prop}{P4:Gu→Gw→Prop}{P5:Gu→Gw→Prop}(p0:P0)(x1:Gu)(x2:Gw)(p3:P3 x1 x2)(p4:P4 x1 x2)(p5:P5 x1 x2):P0∧ ∃x1:Gu,∃x2:Gw,P3 x1 x2∧P4 x1 x2∧P5 x1 x2:=⟨p0,x1,x2,p3,p4,p5⟩
theorem JS{IP:Type}{SV:Type}{P1:IP→Prop}{P2:IP→Prop}{P4:IP→SV→Prop}(x0:IP)(p1:P1 x0)(p2:P2 x0)(x3:SV)(p4:P4 x0 x3): ∃x0:IP,P1 x0∧P2 x0∧ ∃x3:SV,P4 x0 x3:=⟨x0,p1,p2,x3,p4⟩
theorem ut{IP:Type}{Gw:Type}{P1:IP→Prop}{P3:IP→Gw→Prop}(x0:IP)(p1:P1 x0)(x2:Gw)(p3:P3 x0 x2): ∃x0:IP,P1 x0∧ ∃x2:Gw,P3 x0 x2:=⟨x0,p1,x2,p3⟩
end
end
section
set_option genInjectivity true
mutual open A
set_option genCtorIdx false in
inductive DO where
 |i (n:Int)|s (n:Nat)|p (a b:Int)|t (x:Str)
def DO.ctorIdx(x:DO):Nat:=DO.casesOn x (λO=>0) (λO=>1) (λO O=>2) λO=>3
def DO.kind:DO→Nat
 | .i _=>0| .s _=>1| .p _ _=>2| .t _=>3
set_option genCtorIdx false in
inductive Hd where
 |tup|lst|Dg (k:Nat) (ks:List DO)|inst (c:Nat)
def Hd.ctorIdx(x:Hd):Nat:=Hd.casesOn x 0 1 (λO O=>2) λO=>3
set_option genCtorIdx false in
inductive D where
 |none|bool (b:Bool)|int (i:Int)|sym (n:Nat)|str (x:Str)|nd (h:Hd) (l:List D)
def D.ctorIdx(x:D):Nat:=D.casesOn x 0 (λO=>1) (λO=>2) (λO=>3) (λO=>4) λO O=>5
set_option genCtorIdx false in
inductive V where
 |d (x:D)|cell (i:Nat)
def V.ctorIdx(x:V):Nat:=V.casesOn x (λO=>0) λO=>1
set_option genCtorIdx false in
inductive Dh where
 |lv (h:Hd) (l:List V)|fz (x:D)
def Dh.ctorIdx(x:Dh):Nat:=Dh.casesOn x (λO O=>0) λO=>1
abbrev Store:=List Dh
abbrev Di:=List (Nat×V)
inductive T where
 |mk (t n:Nat) (k:List T)
structure Fn where
 name:Nat
 ps:List Nat
 df:Nat
 body:List T
abbrev DF(n:Nat):T:= .mk 0 n []
abbrev Dp(n:Nat):T:= .mk 4 n []
abbrev Et(n:Nat):T:= .mk 5 n []
def Fw:List Str:= [θ "",θ "Catalog",θ "Collector",θ "Count",θ "CropBox",θ "Decimal",θ "INHERITED",θ "Kids",θ "MOST_HOPS",θ "Mark",θ "MediaBox",θ "Name",θ "Names",θ "Page",θ "Pages",θ "Parent",θ "Reference",θ "Resources",θ "Root",θ "Rotate",θ "SINGLE",θ "Shelf",θ "Spot",θ "Stream",θ "String",θ "TreeFault",θ "Type",θ "X",θ "Y",θ "__init__",θ "_law_count",θ "_law_dip",θ "_law_marks",θ "_law_seen",θ "_law_shelf",θ "_law_typed",θ "_law_unfolded",θ "_law_vat",θ "above",θ "abs",θ "add",θ "append",θ "array",θ "assembled",θ "at",θ "bare_page",θ "barred",θ "barred_numbers",θ "before",θ "bool",θ "bytes",θ "cells",θ "collector",θ "collectors",θ "cut",θ "deep",θ "dict",θ "extend",θ "fetch",θ "fields",θ "fields_of",θ "firsts",θ "found",θ "fresh",θ "generation",θ "get",θ "given",θ "great",θ "head",θ "here",θ "home_of",θ "hop",θ "index",θ "indexes",θ "inherited",θ "int",θ "is_node",θ "is_page",θ "is_there",θ "isinstance",θ "joined_twins",θ "key",θ "kid",θ "kids",θ "kids_of",θ "kind",θ "kind_of",θ "laid",θ "lap",θ "law",θ "lay",θ "left",θ "len",θ "line",θ "list",θ "made",θ "many",θ "merged",θ "met",θ "name",θ "names",θ "nodes",θ "null",θ "number",θ "numbers",θ "octets",θ "one",θ "others",θ "page",θ "page_spots",θ "pages",θ "pair",θ "parent",θ "part",θ "parts_of",θ "places",θ "pop",θ "put",θ "range",θ "real",θ "ref",θ "reference",θ "references_in",θ "renumbered",θ "repr",θ "reserve",θ "reversed",θ "root",θ "row",θ "rows",θ "script",θ "seen",θ "self",θ "shelf",θ "shelves",θ "single_numbers",θ "singles",θ "sorted",θ "split_pages",θ "spot",θ "spots",θ "stream",θ "string",θ "sum",θ "table",θ "take_needed",θ "text",θ "thing",θ "to",θ "told",θ "told_objects",θ "told_plain",θ "top",θ "trailer",θ "truth",θ "tuple",θ "twins",θ "update",θ "value",θ "vat",θ "way",θ "whole",θ "word",θ "word_of"]
abbrev ry:T:= .mk 13 1 [DF 81,Et 15]
abbrev m7:T:= .mk 50 95 [.mk 23 80 [DF 133]]
abbrev tI:T:= .mk 26 8 [DF 133,DF 95]
abbrev nL:T:= .mk 50 133 [.mk 24 34 [DF 159]]
abbrev pA:T:= .mk 50 159 [.mk 24 37 [DF 130]]
abbrev T7:T:= .mk 13 2 [DF 44, .mk 27 0 [DF 93]]
abbrev u9:T:= .mk 50 112 [.mk 31 40 [DF 95, .mk 2 0 []]]
abbrev uy:T:= .mk 50 127 [.mk 31 40 [DF 95, .mk 2 0 []]]
abbrev rR:T:= .mk 13 8 [DF 103, .mk 8 144 [DF 132]]
abbrev mP:T:= .mk 18 0 [Dp 0, .mk 9 0 [DF 128,DF 72]]
abbrev qw:T:= .mk 70 0 [.mk 50 103 [.mk 11 0 [DF 103,Dp 1]]]
abbrev nN:T:= .mk 31 125 [.mk 9 0 [DF 53,DF 44],DF 108]
abbrev qh:T:= .mk 18 0 [DF 81, .mk 9 0 [.mk 8 59 [DF 108],DF 81]]
abbrev uq:T:= .mk 12 0 [.mk 14 50 [Dp 0,DF 72, .mk 27 0 [DF 128]]]
abbrev rX:T:= .mk 34 3 [.mk 0 0 [DF 107], .mk 106 0 [],DF 106,Dp 1]
abbrev mO:T:= .mk 55 0 [.mk 31 117 [DF 133,Dp 40,Dp 0, .mk 19 0 [Dp 5]]]
abbrev qW:T:= .mk 70 0 [.mk 55 0 [.mk 31 41 [DF 115, .mk 18 0 [DF 44,DF 108]]]]
abbrev sg:T:= .mk 33 0 [.mk 0 0 [DF 134], .mk 133 0 [],tI]
abbrev mW:T:= .mk 54 0 [.mk 18 0 [.mk 31 149 [DF 133], .mk 23 33 [DF 133]],DF 48,DF 131]
abbrev uP:T:= .mk 52 0 [.mk 18 0 [Dp 0, .mk 23 35 [DF 159,DF 68,Et 14]],DF 144,DF 103]
abbrev pF:T:= .mk 55 0 [.mk 31 117 [DF 133,Dp 42,Dp 0, .mk 21 1 [Et 28, .mk 25 4 [Dp 2,Dp 0]]]]
abbrev mV:T:= .mk 55 0 [.mk 31 117 [DF 133,Dp 41,Dp 0, .mk 21 1 [Et 28, .mk 25 4 [Dp 3,Dp 0]]]]
abbrev qS:T:= .mk 50 127 [.mk 21 1 [Et 14, .mk 25 4 [Dp 20,Dp 0],Et 12, .mk 25 4 [Dp 43,Dp 0]]]
abbrev rG:T:= .mk 54 0 [.mk 18 0 [.mk 27 0 [DF 131], .mk 23 31 [DF 159, .mk 27 0 [DF 131]]],DF 96,DF 139]
abbrev Yx:T:= .mk 50 83 [.mk 29 0 [.mk 33 0 [.mk 1 0 [DF 101], .mk 44 0 [], .mk 35 0 [.mk 11 0 [Dp 20,DF 44], .mk 20 0 []]]]]
abbrev ze:T:= .mk 50 68 [.mk 23 35 [DF 159, .mk 22 1 [Et 10, .mk 19 0 [Dp 0,Dp 0,Dp 9,Dp 9]],Et 13]]
abbrev yY:T:= .mk 15 0 [.mk 30 14 [DF 69], .mk 13 9 [.mk 8 103 [DF 69],DF 62], .mk 23 78 [DF 133, .mk 31 111 [DF 69]]]
abbrev qZ:T:= .mk 57 0 [.mk 26 5 [DF 144, .mk 21 1 [Et 18, .mk 25 4 [.mk 11 0 [Dp 1, .mk 23 31 [DF 159,Dp 3]],Dp 0]]]]
abbrev vQ:T:= .mk 70 0 [.mk 55 0 [.mk 31 41 [.mk 9 0 [DF 83, .mk 11 0 [Dp 20, .mk 23 31 [DF 159,DF 44]]], .mk 11 0 [Dp 20,DF 44]]]]
abbrev yg:T:= .mk 70 0 [.mk 55 0 [.mk 31 41 [DF 93, .mk 18 0 [DF 82, .mk 11 0 [DF 38, .mk 18 0 [.mk 8 121 [DF 139]]], .mk 8 74 [DF 139]]]]]
abbrev ql:T:= .mk 54 0 [.mk 18 0 [.mk 23 97 [.mk 19 0 [DF 133,DF 133]], .mk 23 138 [DF 133, .mk 19 0 [DF 139,Dp 0]]],DF 161,DF 54]
abbrev xa:T:= .mk 70 0 [.mk 52 0 [.mk 3 1 [],DF 62, .mk 8 103 [DF 69]], .mk 50 69 [.mk 9 0 [.mk 9 0 [.mk 8 144 [DF 133], .mk 8 103 [DF 69]],Dp 1]]]
abbrev oH:T:= .mk 58 0 [.mk 16 0 [.mk 13 1 [.mk 23 33 [DF 95],DF 131], .mk 13 1 [.mk 31 149 [DF 133],DF 48]], .mk 70 0 [.mk 57 0 [.mk 3 0 []]], .mk 70 0 []]
abbrev qo:T:= .mk 57 0 [.mk 15 0 [.mk 13 0 [.mk 27 4 [.mk 31 127 [DF 161]], .mk 19 0 [Et 14,Et 26]], .mk 13 0 [.mk 27 4 [.mk 31 127 [DF 54]], .mk 19 0 [Et 14,Et 26]]]]
abbrev sT:T:= .mk 50 68 [.mk 22 1 [Et 7, .mk 32 0 [.mk 0 0 [.mk 9 0 [DF 83,DF 103]], .mk 106 0 [], .mk 25 4 [DF 106,Dp 0]],Et 3, .mk 23 30 [DF 83,DF 103]]]
abbrev me:T:= .mk 59 44 [.mk 2 0 [Dp 1,DF 101],vQ]
abbrev Tm6:T:= .mk 70 0 [.mk 50 111 [.mk 18 0 [DF 103, .mk 9 0 [.mk 9 0 [.mk 8 144 [DF 95],DF 103],Dp 0]]], .mk 52 0 [.mk 31 65 [DF 144,DF 111,DF 111],DF 100,DF 111]]
abbrev jF:T:= .mk 58 0 [.mk 16 0 [.mk 13 1 [.mk 27 0 [DF 107], .mk 27 0 [rX]], .mk 13 0 [.mk 31 127 [DF 95], .mk 21 3 []]], .mk 70 0 [.mk 57 0 [.mk 3 0 []]], .mk 70 0 []]
abbrev fg:T:= .mk 54 0 [.mk 18 0 [.mk 11 0 [Dp 1, .mk 23 31 [DF 159,Dp 3]], .mk 22 0 [Dp 60, .mk 18 0 [Dp 0, .mk 25 1 [Et 13]],Dp 61, .mk 18 0 [Dp 0, .mk 25 1 [Et 14]]]],DF 101,DF 144]
abbrev mU:T:= .mk 58 0 [.mk 13 4 [DF 103,Dp 20], .mk 70 0 [.mk 52 0 [.mk 25 4 [.mk 9 0 [.mk 32 0 [.mk 0 0 [DF 83], .mk 106 0 [],DF 106, .mk 13 8 [DF 103, .mk 9 0 [DF 83,DF 106]]],Dp 0],Dp 0],DF 68,Et 15]], .mk 70 0 []]
abbrev jA:T:= .mk 50 107 [.mk 32 0 [.mk 0 0 [.mk 31 104 [DF 95]], .mk 103 0 [], .mk 27 8 [.mk 23 150 [.mk 9 0 [.mk 9 0 [.mk 8 144 [DF 95],DF 103],Dp 1]]], .mk 15 0 [.mk 12 0 [.mk 14 50 [Dp 20,DF 103,Dp 40]], .mk 13 4 [DF 103,Dp 3]]]]
abbrev t5:T:= .mk 52 0 [.mk 18 0 [Dp 0, .mk 28 1 [.mk 11 0 [.mk 19 0 [.mk 18 0 [Et 15, .mk 25 4 [DF 38,Dp 0]]], .mk 32 0 [.mk 0 0 [DF 68], .mk 81 0 [], .mk 18 0 [DF 81, .mk 9 0 [DF 68,DF 81]]]]]],DF 144, .mk 11 0 [Dp 30,DF 44]]
abbrev tK:T:= .mk 70 0 [.mk 55 0 [.mk 31 117 [.mk 8 95 [DF 132], .mk 9 0 [.mk 9 0 [.mk 8 144 [DF 132],DF 111],Dp 0],Dp 0, .mk 23 123 [.mk 9 0 [.mk 9 0 [.mk 8 144 [.mk 8 133 [DF 132]], .mk 9 0 [DF 111,Dp 0]],Dp 1], .mk 8 144 [DF 132]]]]]
abbrev r9:T:= .mk 15 0 [.mk 30 5 [.mk 9 0 [.mk 9 0 [.mk 8 144 [DF 133],DF 103],Dp 1]], .mk 16 0 [.mk 13 8 [Et 12, .mk 9 0 [.mk 9 0 [.mk 8 144 [DF 133],DF 103],Dp 1]], .mk 13 8 [Et 9, .mk 9 0 [.mk 9 0 [.mk 8 144 [DF 133],DF 103],Dp 1]]]]
abbrev Tm7:T:= .mk 70 0 [.mk 53 0 [.mk 9 0 [.mk 8 144 [DF 95],DF 103],DF 64,DF 158], .mk 58 0 [.mk 13 9 [.mk 18 0 [DF 103,DF 64],DF 144], .mk 70 0 [.mk 52 0 [.mk 18 0 [DF 64, .mk 23 123 [DF 158,DF 100]],DF 91,DF 103]], .mk 70 0 []]]
abbrev oW:T:= .mk 58 0 [.mk 13 0 [.mk 23 31 [DF 159,Dp 3],Dp 0], .mk 70 0 [.mk 52 0 [.mk 25 4 [.mk 9 0 [.mk 18 0 [Dp 1,Dp 2,Dp 3,Dp 30,Dp 40,Dp 41,Dp 42], .mk 23 31 [DF 159,Dp 7]],Dp 0],DF 68,Et 27]], .mk 70 0 []]
abbrev uD:T:= .mk 55 0 [.mk 31 157 [DF 144, .mk 21 0 [Dp 3, .mk 18 0 [Dp 0,DF 127],Dp 2, .mk 18 0 [Dp 0, .mk 25 4 [Dp 3,Dp 0]],Dp 1, .mk 18 0 [Dp 0, .mk 25 4 [Dp 2,Dp 0]],Dp 43, .mk 18 0 [Dp 0, .mk 21 1 [Et 9,Dp 1]]]]]
abbrev uX:T:= .mk 50 147 [.mk 9 0 [.mk 18 0 [.mk 28 1 [DF 127], .mk 21 1 [Et 10, .mk 19 0 [Dp 0,Dp 0,Dp 9,Dp 9],Et 15, .mk 25 4 [Dp 20,Dp 0]], .mk 19 0 [Dp 5], .mk 21 1 [Et 28, .mk 25 4 [Dp 40,Dp 0]]], .mk 23 31 [DF 159,Dp 4]]]
abbrev s8:T:= .mk 58 0 [.mk 16 0 [.mk 13 1 [.mk 27 0 [.mk 23 110 [DF 161]], .mk 11 2 [Dp 2,DF 96]], .mk 13 1 [.mk 27 0 [.mk 23 110 [DF 54]],Dp 2], .mk 13 1 [.mk 23 32 [DF 161], .mk 19 0 []], .mk 13 1 [.mk 23 32 [DF 54], .mk 19 0 []]], .mk 70 0 [.mk 57 0 [.mk 3 0 []]], .mk 70 0 []]
abbrev tu:T:= .mk 70 0 [.mk 58 0 [.mk 16 0 [.mk 13 9 [DF 103, .mk 8 144 [DF 95]], .mk 13 1 [.mk 23 36 [DF 95, .mk 9 0 [.mk 9 0 [.mk 8 144 [DF 95],DF 103],Dp 1],Dp 4], .mk 23 36 [DF 133, .mk 9 0 [.mk 9 0 [.mk 8 144 [DF 133],DF 103],Dp 1],Dp 4]]], .mk 70 0 [.mk 57 0 [.mk 3 0 []]], .mk 70 0 []]]
abbrev sA:T:= .mk 70 0 [.mk 50 69 [.mk 31 116 [DF 93]], .mk 58 0 [.mk 30 14 [DF 69], .mk 70 0 [.mk 58 0 [.mk 13 9 [.mk 31 111 [DF 69],DF 131], .mk 70 0 [.mk 52 0 [.mk 3 1 [],DF 131, .mk 31 111 [DF 69]], .mk 55 0 [.mk 31 41 [DF 62, .mk 31 111 [DF 69]]]], .mk 70 0 []]], .mk 70 0 [.mk 56 0 [DF 93, .mk 23 114 [DF 69]]]]]
abbrev Tm0:T:= .mk 70 0 [.mk 58 0 [.mk 12 0 [.mk 30 14 [DF 69]], .mk 70 0 [.mk 57 0 [DF 69]], .mk 70 0 []], .mk 53 0 [.mk 31 65 [.mk 8 144 [DF 132], .mk 8 103 [DF 69], .mk 18 0 [.mk 6 1 [], .mk 2 0 []]],DF 64,DF 62], .mk 58 0 [.mk 13 1 [DF 64, .mk 8 64 [DF 69]], .mk 70 0 [.mk 57 0 [.mk 2 0 []]], .mk 70 0 []], .mk 50 69 [DF 62]]
abbrev sj:T:= .mk 70 0 [uX, .mk 52 0 [.mk 18 0 [Dp 0,DF 147],DF 144,DF 103]]
abbrev qU:T:= .mk 59 103 [.mk 0 0 [.mk 18 0 [Dp 40,Dp 41,Dp 42]],sj]
abbrev mz:T:= .mk 70 0 [.mk 53 0 [.mk 9 0 [DF 115,DF 139],DF 44,DF 108], .mk 50 52 [.mk 9 0 [DF 53,DF 44]], .mk 50 59 [.mk 23 45 [DF 108]], .mk 55 0 [.mk 31 90 [DF 52, .mk 31 145 [DF 52,DF 59]]], .mk 50 87 [.mk 24 123 [DF 59, .mk 8 144 [DF 52]]], .mk 52 0 [DF 112,DF 87,Et 15], .mk 55 0 [.mk 31 117 [DF 95, .mk 8 103 [.mk 9 0 [DF 83,DF 139]],Dp 0,DF 87]]]
abbrev Tm5:T:= .mk 70 0 [.mk 53 0 [.mk 9 0 [.mk 8 144 [DF 133],DF 103],DF 64,DF 158], .mk 58 0 [.mk 16 0 [.mk 13 8 [DF 103,DF 136], .mk 13 8 [.mk 23 163 [DF 158], .mk 1 20 []]], .mk 70 0 [.mk 61 0 []], .mk 70 0 []], .mk 50 81 [.mk 27 8 [.mk 23 150 [DF 158]]], .mk 58 0 [.mk 13 8 [DF 81,DF 61], .mk 70 0 [.mk 52 0 [.mk 9 0 [DF 61,DF 81],DF 144, .mk 18 0 [DF 103,DF 64]]], .mk 70 0 [.mk 52 0 [.mk 18 0 [DF 103,DF 64],DF 61,DF 81]]]]
abbrev fq:T:= .mk 59 103 [.mk 0 0 [.mk 11 0 [.mk 32 0 [.mk 0 0 [.mk 31 104 [DF 133]], .mk 103 0 [],DF 103, .mk 14 50 [Dp 20,DF 103,Dp 30]], .mk 19 0 [Dp 3]]],tu]
abbrev oy:T:= .mk 70 0 [sT,mU,uP]
abbrev rN:T:= .mk 59 103 [.mk 0 0 [DF 83],oy]
abbrev U4:T:= .mk 70 0 [.mk 50 111 [.mk 9 0 [DF 93,DF 44]], .mk 50 44 [.mk 11 0 [DF 44,Dp 1]], .mk 58 0 [.mk 16 0 [.mk 13 8 [DF 111, .mk 8 144 [DF 132]], .mk 12 0 [.mk 23 78 [.mk 8 133 [DF 132],DF 111]]], .mk 70 0 [.mk 61 0 []], .mk 70 0 []], .mk 58 0 [.mk 13 8 [.mk 9 0 [DF 111,Dp 0], .mk 8 46 [DF 132]], .mk 70 0 [.mk 61 0 []], .mk 70 0 []], .mk 52 0 [.mk 31 111 [.mk 31 40 [.mk 8 95 [DF 132], .mk 2 0 []]], .mk 8 144 [DF 132],DF 111], .mk 55 0 [.mk 31 41 [DF 63,DF 111]], .mk 55 0 [.mk 31 57 [DF 93, .mk 23 122 [.mk 9 0 [.mk 9 0 [.mk 8 144 [.mk 8 133 [DF 132]], .mk 9 0 [DF 111,Dp 0]],Dp 1]]]]]
abbrev qX:T:= .mk 70 0 [.mk 53 0 [.mk 31 116 [DF 93],DF 158,DF 38,DF 74], .mk 50 139 [.mk 23 98 [DF 133,DF 158,DF 38,DF 74]], .mk 58 0 [.mk 16 0 [.mk 13 8 [.mk 8 103 [.mk 8 121 [DF 139]],DF 131], .mk 15 0 [.mk 13 0 [DF 62, .mk 19 0 []], .mk 8 77 [DF 139]]], .mk 70 0 [.mk 64 0 []], .mk 70 0 []], .mk 52 0 [.mk 3 1 [],DF 131, .mk 8 103 [.mk 8 121 [DF 139]]], .mk 55 0 [.mk 31 41 [DF 62,DF 139]], .mk 58 0 [.mk 12 0 [.mk 8 77 [DF 139]], .mk 70 0 [.mk 59 82 [.mk 3 0 [.mk 23 84 [DF 133, .mk 8 68 [DF 139]]],yg]], .mk 70 0 []]]
abbrev zu:T:= .mk 70 0 [.mk 50 144 [.mk 23 156 [DF 95]], .mk 58 0 [.mk 13 0 [DF 144, .mk 21 1 []], .mk 70 0 [.mk 57 0 [DF 95]], .mk 70 0 []], .mk 50 100 [.mk 22 2 []], .mk 59 103 [.mk 0 0 [.mk 8 144 [DF 95]],Tm6], .mk 50 91 [.mk 22 0 []], .mk 59 103 [.mk 0 0 [.mk 31 104 [DF 95]],Tm7], .mk 50 95 [.mk 25 5 [DF 91, .mk 23 123 [.mk 8 153 [DF 95],DF 100]]]]
abbrev m5:T:= .mk 70 0 [.mk 50 38 [.mk 11 0 [Dp 20, .mk 23 31 [DF 159,DF 101]]], .mk 55 0 [.mk 31 41 [.mk 9 0 [DF 83,DF 38], .mk 11 0 [Dp 30,DF 44]]],ze,oW,t5]
abbrev ru:T:= .mk 59 44 [.mk 1 0 [.mk 11 0 [Dp 1, .mk 23 31 [DF 159,Dp 5]]],m5]
def Rh:Fn:=⟨29, [132,146],0, [
 .mk 51 146 [DF 146,DF 132]]⟩
def Lq:Fn:=⟨29, [132,103,64],0, [
 .mk 51 103 [DF 103,DF 132],
 .mk 51 64 [DF 64,DF 132]]⟩
def Lz:Fn:=⟨111, [132],0, [
 .mk 57 0 [.mk 18 0 [.mk 8 103 [DF 132], .mk 8 64 [DF 132]]]]⟩
def Yq:Fn:=⟨86, [158],0, [
 .mk 58 0 [.mk 13 6 [DF 158, .mk 2 0 []], .mk 70 0 [.mk 57 0 [Et 102]], .mk 70 0 []],
 .mk 58 0 [.mk 30 1 [DF 158], .mk 70 0 [.mk 57 0 [Et 154]], .mk 70 0 []],
 .mk 58 0 [.mk 30 2 [DF 158], .mk 70 0 [.mk 57 0 [Et 75]], .mk 70 0 []],
 .mk 58 0 [.mk 30 10 [DF 158], .mk 70 0 [.mk 57 0 [Et 119]], .mk 70 0 []],
 .mk 58 0 [.mk 30 11 [DF 158], .mk 70 0 [.mk 57 0 [Et 99]], .mk 70 0 []],
 .mk 58 0 [.mk 30 12 [DF 158], .mk 70 0 [.mk 57 0 [Et 142]], .mk 70 0 []],
 .mk 58 0 [.mk 30 4 [DF 158], .mk 70 0 [.mk 57 0 [Et 42]], .mk 70 0 []],
 .mk 58 0 [.mk 30 5 [DF 158], .mk 70 0 [.mk 57 0 [Et 56]], .mk 70 0 []],
 .mk 58 0 [.mk 30 13 [DF 158], .mk 70 0 [.mk 57 0 [Et 141]], .mk 70 0 []],
 .mk 58 0 [.mk 30 14 [DF 158], .mk 70 0 [.mk 57 0 [Et 120]], .mk 70 0 []],
 .mk 64 0 []]⟩
def QN:Fn:=⟨151, [85,158],0, [
 .mk 58 0 [.mk 13 0 [DF 85,Et 102], .mk 70 0 [.mk 57 0 [.mk 18 0 [Et 102]]], .mk 70 0 []],
 .mk 58 0 [.mk 13 0 [DF 85,Et 154], .mk 70 0 [.mk 57 0 [.mk 18 0 [Et 154, .mk 17 0 [DF 158,Dp 1,Dp 0]]]], .mk 70 0 []],
 .mk 58 0 [.mk 13 0 [DF 85,Et 75], .mk 70 0 [.mk 57 0 [.mk 18 0 [Et 75,DF 158]]], .mk 70 0 []],
 .mk 58 0 [.mk 13 0 [DF 85,Et 119], .mk 70 0 [.mk 57 0 [.mk 18 0 [Et 119, .mk 8 152 [DF 158], .mk 8 115 [DF 158]]]], .mk 70 0 []],
 .mk 58 0 [.mk 13 0 [DF 85,Et 99], .mk 70 0 [.mk 57 0 [.mk 18 0 [Et 99, .mk 8 146 [DF 158]]]], .mk 70 0 []],
 .mk 58 0 [.mk 13 0 [DF 85,Et 142], .mk 70 0 [.mk 57 0 [.mk 18 0 [Et 142, .mk 27 7 [.mk 8 105 [DF 158]]]]], .mk 70 0 []],
 .mk 57 0 [.mk 18 0 [Et 120, .mk 8 103 [DF 158], .mk 8 64 [DF 158]]]]⟩
def nq:Fn:=⟨149, [158],0, [
 .mk 50 85 [.mk 23 86 [DF 158]],
 .mk 58 0 [.mk 13 0 [DF 85,Et 42], .mk 70 0 [.mk 57 0 [.mk 11 0 [.mk 18 0 [Et 42], .mk 27 5 [.mk 32 0 [.mk 0 0 [DF 158], .mk 113 0 [], .mk 23 150 [DF 113]]]]]], .mk 70 0 []],
 .mk 58 0 [.mk 13 0 [DF 85,Et 56], .mk 70 0 [.mk 57 0 [.mk 11 0 [.mk 18 0 [Et 56], .mk 27 5 [.mk 32 0 [.mk 0 0 [.mk 27 4 [DF 158]], .mk 81 0 [], .mk 18 0 [DF 81, .mk 23 150 [.mk 9 0 [DF 158,DF 81]]], .mk 13 7 [.mk 9 0 [DF 158,DF 81], .mk 2 0 []]]]]]], .mk 70 0 []],
 .mk 58 0 [.mk 13 0 [DF 85,Et 141], .mk 70 0 [.mk 57 0 [.mk 18 0 [Et 141, .mk 23 150 [.mk 8 68 [DF 158]], .mk 27 7 [.mk 8 105 [DF 158]]]]], .mk 70 0 []],
 .mk 57 0 [.mk 23 151 [DF 85,DF 158]]]⟩
def Tz:Fn:=⟨114, [158],0, [
 .mk 50 85 [.mk 23 86 [DF 158]],
 .mk 58 0 [.mk 13 0 [DF 85,Et 42], .mk 70 0 [.mk 57 0 [.mk 27 6 [DF 158]]], .mk 70 0 []],
 .mk 58 0 [.mk 13 0 [DF 85,Et 56], .mk 70 0 [.mk 57 0 [.mk 32 0 [.mk 0 0 [.mk 27 4 [DF 158]], .mk 81 0 [], .mk 9 0 [DF 158,DF 81]]]], .mk 70 0 []],
 .mk 58 0 [.mk 13 0 [DF 85,Et 141], .mk 70 0 [.mk 57 0 [.mk 23 114 [.mk 8 68 [DF 158]]]], .mk 70 0 []],
 .mk 57 0 [.mk 19 0 []]]⟩
def Mx:Fn:=⟨122, [158],0, [
 .mk 50 62 [.mk 20 0 []],
 .mk 50 131 [.mk 22 2 []],
 .mk 50 93 [.mk 20 0 [DF 158]],
 .mk 60 0 [DF 93,sA],
 .mk 57 0 [DF 62]]⟩
def QC:Fn:=⟨123, [158,144],0, [
 .mk 50 85 [.mk 23 86 [DF 158]],
 .mk 58 0 [.mk 13 0 [DF 85,Et 120], .mk 70 0 [.mk 58 0 [.mk 13 9 [.mk 31 111 [DF 158],DF 144], .mk 70 0 [.mk 57 0 [.mk 2 0 []]], .mk 70 0 []], .mk 53 0 [.mk 9 0 [DF 144, .mk 31 111 [DF 158]],DF 103,DF 64], .mk 57 0 [.mk 25 4 [DF 103,DF 64]]], .mk 70 0 []],
 .mk 58 0 [.mk 13 0 [DF 85,Et 42], .mk 70 0 [.mk 57 0 [.mk 32 0 [.mk 0 0 [DF 158], .mk 113 0 [], .mk 23 123 [DF 113,DF 144]]]], .mk 70 0 []],
 .mk 58 0 [.mk 13 0 [DF 85,Et 56], .mk 70 0 [.mk 50 62 [.mk 32 0 [.mk 0 0 [DF 158], .mk 81 0 [], .mk 18 0 [DF 81, .mk 23 123 [.mk 9 0 [DF 158,DF 81],DF 144]]]], .mk 57 0 [.mk 29 1 [.mk 32 0 [.mk 0 0 [DF 62], .mk 111 0 [],DF 111, .mk 13 7 [.mk 9 0 [DF 111,Dp 1], .mk 2 0 []]]]]], .mk 70 0 []],
 .mk 58 0 [.mk 13 0 [DF 85,Et 141], .mk 70 0 [.mk 57 0 [.mk 25 3 [.mk 23 123 [.mk 8 68 [DF 158],DF 144], .mk 8 105 [DF 158]]]], .mk 70 0 []],
 .mk 57 0 [DF 158]]⟩
def Hy:Fn:=⟨29, [132,144,153],2, [
 .mk 51 144 [.mk 17 0 [.mk 13 6 [DF 144, .mk 2 0 []], .mk 22 0 [],DF 144],DF 132],
 .mk 51 153 [.mk 17 0 [.mk 13 6 [DF 153, .mk 2 0 []], .mk 21 1 [],DF 153],DF 132]]⟩
def OI:Fn:=⟨58, [132,158],0, [
 .mk 50 69 [DF 158],
 .mk 59 71 [.mk 1 0 [.mk 1 8 []],Tm0],
 .mk 57 0 [.mk 17 0 [.mk 30 14 [DF 69], .mk 2 0 [],DF 69]]]⟩
def Qg:Fn:=⟨65, [132,68,81],0, [
 .mk 57 0 [.mk 31 58 [DF 132, .mk 31 65 [DF 68,DF 81]]]]⟩
def Rz:Fn:=⟨117, [132,103,64,158],0, [
 .mk 52 0 [.mk 18 0 [DF 64,DF 158], .mk 8 144 [DF 132],DF 103]]⟩
def Sm:Fn:=⟨40, [132,158],0, [
 .mk 50 103 [Dp 1],
 .mk 60 0 [rR,qw],
 .mk 52 0 [.mk 18 0 [Dp 0,DF 158], .mk 8 144 [DF 132],DF 103],
 .mk 57 0 [.mk 25 4 [DF 103,Dp 0]]]⟩
def Mw:Fn:=⟨104, [132],0, [
 .mk 57 0 [.mk 27 4 [.mk 8 144 [DF 132]]]]⟩
def Q4:Fn:=⟨127, [132],0, [
 .mk 50 62 [.mk 31 65 [DF 132, .mk 8 153 [DF 132],Et 18]],
 .mk 57 0 [.mk 17 0 [.mk 30 5 [DF 62],DF 62, .mk 21 1 []]]]⟩
def Q1:Fn:=⟨149, [132],0, [
 .mk 50 129 [.mk 27 5 [.mk 32 0 [.mk 0 0 [.mk 31 104 [DF 132]], .mk 103 0 [], .mk 18 0 [DF 103, .mk 9 0 [.mk 9 0 [.mk 8 144 [DF 132],DF 103],Dp 0], .mk 23 150 [.mk 9 0 [.mk 9 0 [.mk 8 144 [DF 132],DF 103],Dp 1]]]]]],
 .mk 57 0 [.mk 18 0 [DF 129, .mk 23 150 [.mk 8 153 [DF 132]]]]]⟩
def TF:Fn:=⟨29, [132,121,59],0, [
 .mk 51 121 [DF 121,DF 132],
 .mk 51 59 [DF 59,DF 132]]⟩
def SF:Fn:=⟨29, [132,121,68,38,74,77],0, [
 .mk 51 121 [DF 121,DF 132],
 .mk 51 68 [DF 68,DF 132],
 .mk 51 38 [DF 38,DF 132],
 .mk 51 74 [DF 74,DF 132],
 .mk 51 77 [DF 77,DF 132]]⟩
def Xc:Fn:=⟨70, [133,158],0, [
 .mk 50 69 [DF 158],
 .mk 50 131 [.mk 22 0 []],
 .mk 60 0 [.mk 15 0 [.mk 30 14 [DF 69], .mk 13 9 [.mk 8 103 [DF 69],DF 131]], .mk 70 0 [.mk 52 0 [.mk 3 1 [],DF 131, .mk 8 103 [DF 69]], .mk 53 0 [.mk 31 65 [.mk 8 144 [DF 133], .mk 8 103 [DF 69], .mk 18 0 [.mk 6 1 [], .mk 2 0 []]],DF 64,DF 62], .mk 58 0 [.mk 13 1 [DF 64, .mk 8 64 [DF 69]], .mk 70 0 [.mk 62 0 []], .mk 70 0 []], .mk 58 0 [.mk 12 0 [.mk 30 14 [DF 62]], .mk 70 0 [.mk 57 0 [DF 69]], .mk 70 0 []], .mk 50 69 [DF 62]]],
 .mk 64 0 []]⟩
def X7:Fn:=⟨76, [133,68],0, [
 .mk 50 85 [.mk 31 65 [DF 133,DF 68,Et 26]],
 .mk 58 0 [.mk 15 0 [.mk 30 11 [DF 85], .mk 13 8 [.mk 8 146 [DF 85], .mk 18 0 [Et 14,Et 13]]], .mk 70 0 [.mk 57 0 [.mk 13 0 [.mk 8 146 [DF 85],Et 14]]], .mk 70 0 []],
 .mk 57 0 [.mk 13 7 [.mk 31 65 [DF 133,DF 68,Et 7], .mk 2 0 []]]]⟩
def YG:Fn:=⟨84, [133,68],0, [
 .mk 50 83 [.mk 31 65 [DF 133,DF 68,Et 7]],
 .mk 58 0 [.mk 12 0 [.mk 30 4 [DF 83]], .mk 70 0 [.mk 64 0 []], .mk 70 0 []],
 .mk 57 0 [DF 83]]⟩
def u6:Fn:=⟨98, [133,158,38,74],0, [
 .mk 50 121 [.mk 23 70 [DF 133,DF 158]],
 .mk 50 68 [.mk 31 58 [DF 133,DF 121]],
 .mk 58 0 [.mk 12 0 [.mk 30 5 [DF 68]], .mk 70 0 [.mk 64 0 []], .mk 70 0 []],
 .mk 50 66 [.mk 29 1 [DF 74]],
 .mk 59 81 [.mk 0 0 [.mk 1 6 []], .mk 70 0 [.mk 58 0 [.mk 13 7 [.mk 31 65 [DF 133,DF 68,DF 81], .mk 2 0 []], .mk 70 0 [.mk 52 0 [.mk 9 0 [DF 68,DF 81],DF 66,DF 81]], .mk 70 0 []]]],
 .mk 57 0 [.mk 25 7 [DF 121,DF 68,DF 38,DF 66, .mk 12 0 [.mk 23 76 [DF 133,DF 68]]]]]⟩
def gO:Fn:=⟨140, [133],0, [
 .mk 50 62 [.mk 20 0 []],
 .mk 50 131 [.mk 22 0 []],
 .mk 50 93 [.mk 20 0 [.mk 18 0 [.mk 31 65 [.mk 31 127 [DF 133],Et 14], .mk 18 0 [], .mk 21 1 []]]],
 .mk 60 0 [DF 93,qX],
 .mk 57 0 [DF 62]]⟩
def RY:Fn:=⟨60, [133,139],0, [
 .mk 50 62 [.mk 29 1 [.mk 8 68 [DF 139]]],
 .mk 59 81 [.mk 0 0 [.mk 1 6 []], .mk 70 0 [.mk 58 0 [.mk 15 0 [.mk 13 8 [DF 81, .mk 8 74 [DF 139]], .mk 13 6 [.mk 31 65 [DF 133, .mk 8 68 [DF 139],DF 81], .mk 2 0 []]], .mk 70 0 [.mk 52 0 [.mk 9 0 [.mk 8 74 [DF 139],DF 81],DF 62,DF 81]], .mk 70 0 []]]],
 .mk 57 0 [DF 62]]⟩
def QX:Fn:=⟨109, [133],0, [
 .mk 57 0 [.mk 32 0 [.mk 0 0 [.mk 23 140 [DF 133]], .mk 139 0 [],DF 139, .mk 8 77 [DF 139]]]]⟩
def gn:Fn:=⟨110, [133],0, [
 .mk 57 0 [.mk 32 0 [.mk 0 0 [.mk 23 109 [DF 133]], .mk 139 0 [], .mk 25 6 [.mk 8 121 [DF 139], .mk 23 60 [DF 133,DF 139]]]]]⟩
def Vd:Fn:=⟨78, [133,111],0, [
 .mk 53 0 [DF 111,DF 103,DF 64],
 .mk 57 0 [.mk 15 0 [.mk 13 8 [DF 103, .mk 8 144 [DF 133]], .mk 13 0 [.mk 9 0 [.mk 9 0 [.mk 8 144 [DF 133],DF 103],Dp 0],DF 64]]]]⟩
def Xe:Fn:=⟨163, [158],0, [
 .mk 58 0 [.mk 16 0 [.mk 13 1 [.mk 23 86 [DF 158],Et 56], .mk 12 0 [.mk 30 11 [.mk 31 65 [DF 158,Et 26]]]], .mk 70 0 [.mk 57 0 [Et 0]], .mk 70 0 []],
 .mk 57 0 [.mk 8 146 [.mk 9 0 [DF 158,Et 26]]]]⟩
def Ll:Fn:=⟨47, [133],0, [
 .mk 50 62 [.mk 29 0 [.mk 32 0 [.mk 0 0 [.mk 23 140 [DF 133]], .mk 139 0 [], .mk 18 0 [.mk 8 103 [.mk 8 121 [DF 139]], .mk 3 1 []]]]],
 .mk 50 69 [.mk 31 65 [.mk 8 153 [DF 133],Et 18]],
 .mk 60 0 [yY,xa],
 .mk 57 0 [DF 62]]⟩
def L4:Fn:=⟨135, [133],0, [
 .mk 63 0 [.mk 70 0 [.mk 57 0 [.mk 23 47 [DF 133]]]]]⟩
def Gd:Fn:=⟨29, [132,133,95],0, [
 .mk 51 133 [DF 133,DF 132],
 .mk 51 95 [DF 95,DF 132],
 .mk 51 144 [.mk 22 2 [],DF 132],
 .mk 51 46 [.mk 23 47 [DF 133],DF 132]]⟩
def Jr:Fn:=⟨125, [132,108],0, [
 .mk 50 121 [.mk 31 40 [.mk 8 95 [DF 132], .mk 2 0 []]],
 .mk 58 0 [.mk 13 9 [.mk 31 111 [.mk 8 121 [DF 108]], .mk 8 144 [DF 132]], .mk 70 0 [.mk 52 0 [.mk 31 111 [DF 121], .mk 8 144 [DF 132], .mk 31 111 [.mk 8 121 [DF 108]]]], .mk 70 0 []],
 .mk 57 0 [DF 121]]⟩
def IG:Fn:=⟨145, [132,158],0, [
 .mk 50 93 [.mk 24 122 [DF 158]],
 .mk 50 63 [.mk 20 0 []],
 .mk 50 44 [Dp 0],
 .mk 60 0 [T7,U4],
 .mk 57 0 [DF 63]]⟩
def Mt:Fn:=⟨90, [132,63],0, [
 .mk 59 111 [.mk 0 0 [DF 63],tK]]⟩
def Sc:Fn:=⟨45, [108],0, [
 .mk 50 59 [.mk 29 1 [.mk 32 0 [.mk 0 0 [.mk 8 59 [DF 108]], .mk 81 0 [],qh,ry]]],
 .mk 52 0 [.mk 25 1 [Et 13],DF 59,Et 26],
 .mk 57 0 [DF 59]]⟩
def SD:Fn:=⟨43, [134,115],0, [
 .mk 50 95 [.mk 26 5 []],
 uy,
 u9,
 .mk 50 53 [sg],
 .mk 50 83 [.mk 32 0 [.mk 0 0 [DF 115], .mk 44 108 [],nN]],
 .mk 59 139 [.mk 1 0 [.mk 27 0 [DF 115]],mz],
 .mk 55 0 [.mk 31 117 [DF 95, .mk 8 103 [DF 112],Dp 0, .mk 21 1 [Et 26, .mk 25 1 [Et 14],Et 7, .mk 27 6 [DF 83],Et 3, .mk 27 0 [DF 83]]]],
 .mk 55 0 [.mk 31 117 [DF 95, .mk 8 103 [DF 127],Dp 0, .mk 21 1 [Et 26, .mk 25 1 [Et 1],Et 14,DF 112]]],
 .mk 51 153 [.mk 21 1 [Et 18,DF 127],DF 95],
 .mk 57 0 [DF 95]]⟩
def cz:Fn:=⟨97, [134],0, [
 .mk 50 115 [.mk 20 0 []],
 .mk 59 44 [.mk 1 0 [.mk 27 0 [DF 134]], .mk 70 0 [.mk 59 108 [.mk 0 0 [.mk 23 110 [.mk 9 0 [DF 134,DF 44]]],qW]]],
 .mk 57 0 [.mk 23 43 [DF 134,DF 115]]]⟩
def Ox:Fn:=⟨138, [133,73],0, [
 .mk 50 128 [.mk 23 110 [DF 133]],
 .mk 58 0 [.mk 13 1 [.mk 32 0 [.mk 0 0 [DF 73], .mk 72 0 [],DF 72,uq], .mk 19 0 []], .mk 70 0 [.mk 64 0 []], .mk 70 0 []],
 .mk 57 0 [.mk 23 43 [.mk 19 0 [DF 133], .mk 32 0 [.mk 0 0 [DF 73], .mk 72 0 [],mP]]]]⟩
def iH:Fn:=⟨156, [133],0, [
 .mk 50 61 [.mk 22 3 []],
 .mk 50 144 [.mk 22 2 []],
 .mk 50 136 [.mk 23 135 [DF 133]],
 .mk 59 103 [.mk 0 0 [.mk 31 104 [DF 133]],Tm5],
 .mk 57 0 [DF 144]]⟩
def Nz:Fn:=⟨80, [133],0, [
 .mk 50 95 [.mk 25 5 [.mk 28 1 [.mk 8 144 [DF 133]], .mk 28 1 [.mk 8 153 [DF 133]]]],
 .mk 59 88 [.mk 1 0 [.mk 11 0 [.mk 27 0 [.mk 8 144 [DF 133]],Dp 1]],zu],
 .mk 57 0 [DF 95]]⟩
def UC:Fn:=⟨37, [130],0, [
 .mk 57 0 [.mk 20 0 [.mk 32 0 [.mk 0 0 [.mk 10 63 [DF 130]], .mk 103 0 [], .mk 27 2 [DF 103]],Dp 0,Dp 0]]]⟩
def Vh:Fn:=⟨31, [159,96],0, [
 .mk 54 0 [.mk 18 0 [.mk 9 0 [DF 159,Dp 1], .mk 9 0 [DF 159,Dp 0]],DF 44,DF 51],
 .mk 58 0 [.mk 13 4 [.mk 9 0 [DF 159,Dp 2],Dp 0], .mk 70 0 [.mk 50 62 [.mk 11 4 [.mk 9 0 [DF 159,Dp 2],DF 96]], .mk 52 0 [.mk 11 3 [.mk 9 0 [DF 159,Dp 2],DF 96],DF 159,Dp 2], .mk 57 0 [DF 62]], .mk 70 0 []],
 .mk 52 0 [.mk 11 0 [DF 44,Dp 1],DF 159,Dp 1],
 .mk 58 0 [.mk 13 5 [DF 44, .mk 27 0 [DF 51]], .mk 70 0 [.mk 57 0 [.mk 11 4 [.mk 11 0 [.mk 11 0 [.mk 11 2 [Dp 10,DF 44], .mk 11 3 [.mk 11 2 [DF 44,DF 44],Dp 6]], .mk 17 0 [.mk 13 1 [DF 51, .mk 19 0 []], .mk 9 0 [DF 51, .mk 11 4 [DF 44, .mk 27 0 [DF 51]]],Dp 1]],DF 96]]], .mk 70 0 []],
 .mk 58 0 [.mk 13 2 [.mk 27 1 [.mk 9 0 [DF 51,DF 44]], .mk 7 18 []], .mk 70 0 [.mk 57 0 [.mk 11 4 [.mk 9 0 [DF 51,DF 44],DF 96]]], .mk 70 0 []],
 .mk 50 67 [.mk 11 1 [.mk 27 1 [.mk 9 0 [DF 51,DF 44]], .mk 7 18 []]],
 .mk 52 0 [.mk 11 3 [DF 67,DF 96],DF 159,Dp 2],
 .mk 57 0 [.mk 11 4 [DF 67,DF 96]]]⟩
def Qi:Fn:=⟨35, [159,68,162],0, [
 .mk 50 160 [.mk 23 31 [DF 159,Dp 3]],
 .mk 58 0 [.mk 13 4 [DF 160,Dp 0], .mk 70 0 [.mk 52 0 [.mk 9 0 [.mk 18 0 [.mk 25 1 [DF 162], .mk 25 4 [.mk 17 0 [.mk 13 0 [DF 162,Et 13],Dp 60,Dp 61],Dp 0]], .mk 11 1 [DF 160,Dp 1]],DF 68,Et 26]], .mk 70 0 []],
 .mk 57 0 [DF 68]]⟩
def Kl:Fn:=⟨34, [159],0, [
 fg,
 Yx,
 me,
 ru,
 rN,
 qS,
 uD,
 qU,
 qZ]⟩
def Pv:Fn:=⟨30, [83,103],0, [
 .mk 57 0 [.mk 27 3 [.mk 32 0 [.mk 0 0 [.mk 9 0 [DF 83,DF 103]], .mk 106 0 [], .mk 17 0 [.mk 13 5 [DF 106,Dp 30],Dp 1, .mk 23 30 [DF 83,DF 106]]]]]]⟩
def Mz:Fn:=⟨36, [133,158,55],0, [
 .mk 58 0 [.mk 30 14 [DF 158], .mk 70 0 [.mk 58 0 [.mk 16 0 [.mk 13 9 [.mk 8 103 [DF 158], .mk 8 144 [DF 133]], .mk 14 50 [Dp 20, .mk 8 103 [DF 158],Dp 40], .mk 13 0 [DF 55,Dp 0]], .mk 70 0 [.mk 57 0 [.mk 18 0 [Et 148, .mk 17 0 [.mk 14 50 [Dp 20, .mk 8 103 [DF 158],Dp 40], .mk 8 103 [DF 158],Dp 0]]]], .mk 70 0 []], .mk 57 0 [.mk 23 36 [DF 133, .mk 9 0 [.mk 9 0 [.mk 8 144 [DF 133], .mk 8 103 [DF 158]],Dp 1], .mk 11 1 [DF 55,Dp 1]]]], .mk 70 0 []],
 .mk 58 0 [.mk 30 5 [DF 158], .mk 70 0 [.mk 57 0 [.mk 32 0 [.mk 0 0 [.mk 27 4 [DF 158]], .mk 81 0 [], .mk 18 0 [DF 81, .mk 23 36 [DF 133, .mk 9 0 [DF 158,DF 81],DF 55]]]]], .mk 70 0 []],
 .mk 57 0 [.mk 17 0 [.mk 30 4 [DF 158], .mk 32 0 [.mk 0 0 [DF 158], .mk 106 0 [], .mk 23 36 [DF 133,DF 106,DF 55]], .mk 23 150 [DF 158]]]]⟩
def Ry:Fn:=⟨33, [133],0, [
 .mk 63 0 [.mk 70 0 [.mk 57 0 [.mk 32 0 [.mk 0 0 [.mk 23 110 [DF 133]], .mk 108 0 [], .mk 18 0 [.mk 8 103 [.mk 8 121 [DF 108]], .mk 23 36 [DF 133, .mk 8 59 [DF 108],Dp 4]]]]]]]⟩
def Qh:Fn:=⟨32, [133],0, [
 .mk 57 0 [.mk 32 0 [.mk 0 0 [.mk 31 104 [DF 133]], .mk 103 0 [],DF 103,r9]]]⟩
def kE:Fn:=⟨89, [130],0, [
 pA,
 nL,
 mW,
 m7,
 oH,
 fq,
 jA,
 jF,
 mO,
 mV,
 pF,
 rG,
 ql,
 s8,
 qo]⟩
def fns:List Fn:= [Rh,Lq,Lz,Yq,QN,nq,Tz,Mx,QC,Hy,OI,Qg,Rz,Sm,Mw,Q4,Q1,TF,SF,Xc,X7,YG,u6,gO,RY,QX,gn,Vd,Xe,Ll,L4,Gd,Jr,IG,Mt,Sc,SD,cz,Ox,iH,Nz,UC,Vh,Qi,Kl,Pv,Mz,Ry,Qh,kE]
def gfK:List Nat:= [86,151,149,114,122,123,70,76,84,98,140,60,109,110,78,163,47,135,45,43,97,138,156,80,37,31,35,34,30,36,33,32,89,150]
def gfV:List Nat:= [3,4,5,6,7,8,19,20,21,22,23,24,25,26,27,28,29,30,35,36,37,38,39,40,41,42,43,44,45,46,47,48,49,5]
def big:Nat:=1000000
def EI{α β:Type}(x:Option (α×Store))(f:α→Store→Option β):Option β:=match x with
 |some p=>f p.1 p.2
 |none=>none
def DN{α β:Type}(x:Option α)(f:α→Option β):Option β:=match x with
 |some a=>f a
 |none=>none
def F9{α:Type}(b:Bool)(x:Option α):Option α:=match b with
 |true=>x
 |false=>none
def lift{α:Type}(x:Option α)(σ:Store):Option (α×Store):=match x with
 |some a=>some (a,σ)
 |none=>none
def DE{α:Type}:List (Nat×α)→Nat→Option α
 | [],_=>none
 |p::r,x=>cond (μ p.1 x) (some p.2) (DE r x)
def DR:List (Nat×V)→Nat→V→List (Nat×V)
 | [],x,v=> [(x,v)]
 |p::r,x,v=>cond (μ p.1 x) ((p.1,v)::r) (p::DR r x v)
def N3:List Nat→List Nat→Bool
 | [], []=>true
 |a::l,b::r=>μ a b&&N3 l r
 |_,_=>false
def EQ(a b:Str):Bool:=N3 a.cps.toList b.cps.toList
def Dj:Int→Int→Bool
 | .ofNat a, .ofNat b=>μ a b
 | .negSucc a, .negSucc b=>μ a b
 |_,_=>false
def DO.beq:DO→DO→Bool
 | .i a, .i b=>Dj a b
 | .s a, .s b=>μ a b
 | .p a b, .p c d=>Dj a c&&Dj b d
 | .t a, .t b=>EQ a b
 |_,_=>false
def DU{α:Type}:List DO→List α→DO→Option α
 |k::ks,v::vs,x=>cond (DO.beq k x) (some v) (DU ks vs x)
 |_,_,_=>none
def Dm:List DO→DO→Bool
 | [],_=>false
 |k::ks,x=>DO.beq k x||Dm ks x
def Dz{α:Type}:List DO→List α→DO→α→List α
 |k::ks,v::vs,x,u=>cond (DO.beq k x) (u::vs) (v::Dz ks vs x u)
 |_,_,_,u=> [u]
def D2:List DO→DO→List DO
 | [],x=> [x]
 |k::ks,x=>cond (DO.beq k x) (k::ks) (k::D2 ks x)
def Du{α:Type}:List Nat→List α→Nat→Option α
 |k::ks,v::vs,x=>cond (μ k x) (some v) (Du ks vs x)
 |_,_,_=>none
def Zu(f:Nat):Option Nat:=Du gfK gfV f
def Jx{α:Type}:List Nat→List α→Nat→α→List α
 |k::ks,v::vs,x,u=>cond (μ k x) (u::vs) (v::Jx ks vs x u)
 |_,vs,_,_=>vs
def Y2:D→Option Int
 | .int i=>some i
 |_=>none
def vy:V→Option Bool
 | .d (.bool b)=>some b
 |_=>none
def Ix:V→Option D
 | .d x=>some x
 |_=>none
def MQ:Hd→Bool
 | .tup=>true
 |_=>false
def Pq:Hd→Bool
 | .lst=>true
 |_=>false
def Ws:Hd→Option (Nat×List DO)
 | .Dg k ks=>some (k,ks)
 |_=>none
def OC:Hd→Option Nat
 | .inst c=>some c
 |_=>none
def jG:List D→Option DO
 | [.int a, .int b]=>some (.p a b)
 |_=>none
def HG:D→Option DO
 | .int i=>some (.i i)
 | .sym n=>some (.s n)
 | .str x=>some (.t x)
 | .nd h l=>F9 (MQ h) (jG l)
 |_=>none
def DO.d:DO→D
 | .i n=> .int n
 | .s n=> .sym n
 | .p a b=> .nd .tup [.int a, .int b]
 | .t x=> .str x
def Sw(σ:Store)(i:Nat):Option Dh:=σ[i]?
def Mq:List V→Option (List D)
 | []=>some []
 |v::r=>DN (Ix v) λx=>DN (Mq r) λl=>some (x::l)
def HS(f:V→Store→Option (D×Store)):List V→Store→Option (List D×Store)
 | [],σ=>some ([],σ)
 |v::r,σ=>EI (f v σ) λx σ=>EI (HS f r σ) λl σ=>some (x::l,σ)
def Hz:Nat→V→Store→Option (D×Store)
 |_, .d x,σ=>some (x,σ)
 |0, .cell _,_=>none
 |k+1, .cell i,σ=>DN (Sw σ i) λc=>match c with
  | .fz x=>some (x,σ)
  | .lv h l=>EI (HS (Hz k) l σ) λds σ=>some (.nd h ds,σ.set i (.fz (.nd h ds)))
def FZ:Nat:=5
def aM:D→Option (Hd×List V)
 | .nd h l=>some (h,l.map .d)
 |_=>none
def uB:Dh→Option (Hd×List V)
 | .lv h l=>some (h,l)
 | .fz x=>aM x
def G4(σ:Store):V→Option (Hd×List V)
 | .d x=>aM x
 | .cell i=>DN (Sw σ i) uB
def JB(σ:Store)(v:V):Option (List V):=DN (G4 σ v) λq=>F9 (Pq q.1) (some q.2)
def Ru(σ:Store)(v:V):Option (List V):=DN (G4 σ v) λq=>F9 (MQ q.1) (some q.2)
def GH(σ:Store)(v:V):Option (Nat×List DO×List V):=DN (G4 σ v) λq=>DN (Ws q.1) λr=>some (r.1,r.2,q.2)
def Ew(σ:Store)(v:V):Option (Nat×List V):=DN (G4 σ v) λq=>DN (OC q.1) λc=>some (c,q.2)
def np(k:Nat):Bool:= !μ k 2
def mT(l:List D):Hd→Option (List D)
 | .tup=>some l
 | .lst=>some l
 | .Dg k ks=>F9 (np k) (some (ks.map DO.d))
 | .inst _=>none
def KB:D→Option (List D)
 | .nd h l=>mT l h
 |_=>none
def FV(v:V)(σ:Store):Option (List D×Store):=EI (Hz FZ v σ) λx σ=>lift (KB x) σ
def HH(a:Int):Nat→List D
 |0=> []
 |n+1=> .int a::HH (a+1) n
def small(i:Int):Bool:=decide (-(2^62)≤i)&&decide (i<2^62)
def G1(σ:Store):V→Option Bool
 | .d (.bool b)=>some b
 | .d (.int i)=>some (!Dj i 0)
 |v=>DN (JB σ v) λl=>some (!l.isEmpty)
def plain:D→Bool
 | .none=>true| .int _=>true| .sym _=>true
 | .nd h l=>(MQ h||Pq h)&&FF l
 |_=>false
where FF:List D→Bool
 | []=>true
 |x::r=>plain x&&FF r
def heq:Hd→Hd→Bool
 | .tup, .tup=>true
 | .lst, .lst=>true
 |_,_=>false
def Ti:D→D→Bool
 | .none, .none=>true
 | .int a, .int b=>Dj a b
 | .sym a, .sym b=>μ a b
 | .nd h a, .nd h' b=>heq h h'&&Ub a b
 |_,_=>false
where Ub:List D→List D→Bool
 | [], []=>true
 |x::a,y::b=>Ti x y&&Ub a b
 |_,_=>false
def ej:D→Nat
 | .nd _ l=>deps l+1
 |_=>0
where deps:List D→Nat
 | []=>0
 |x::r=>Nat.max (ej x) (deps r)
def fits(x:D):Bool:=plain x&&Ε (ej x) 20
def lO(a b:V):Option Bool:=DN (Ix a) λx=>DN (Ix b) λy=>F9 (fits x&&fits y) (some (Ti x y))
def lF:Hd→Nat
 | .lst=>1
 | .Dg _ _=>2
 |_=>0
def Jy:V→Nat
 | .d (.nd h [])=>lF h
 |_=>0
def qI(σ:Store)(a b:V):Option Bool:=match Jy b with
 |1=>DN (JB σ a) λl=>some l.isEmpty
 |2=>DN (GH σ a) λr=>some r.2.2.isEmpty
 |_=>lO a b
def Lb(x:D):List D→Bool
 | []=>false
 |y::r=>Ti y x||Lb x r
def atom:D→Bool
 | .none=>true| .int _=>true| .sym _=>true|_=>false
def atoms:List D→Bool
 | []=>true
 |x::r=>atom x&&atoms r
def T9(x:D)(l:List V):Hd→Option Bool
 | .Dg k ks=>DN (HG x) λkey=>F9 (μ key.kind k) (some (Dm ks key))
 | .inst _=>none
 |_=>DN (Mq l) λl=>F9 (atom x&&atoms l) (some (Lb x l))
def pR(σ:Store)(a b:V):Option Bool:=DN (Ix a) λx=>DN (G4 σ b) λq=>T9 x q.2 q.1
def isNone:V→Bool
 | .d .none=>true
 |_=>false
def cH(a b:V)(f:Int→Int→Bool):Option Bool:=DN (Ix a) λx=>DN (Y2 x) λi=>DN (Ix b) λy=>DN (Y2 y) λj=>some (f i j)
def z7(a b:Int):Bool:=decide (a<b)
def I9(a b:Int):Bool:=decide (a≤b)
def FJ(σ:Store)(op:Nat)(a b:V):Option Bool:=match op with
 |0=>qI σ a b
 |1=>F9 (Μ (Jy b) 2) (DN (qI σ a b) λr=>some (!r))
 |2=>cH a b z7
 |3=>cH a b I9
 |4=>cH a b λx y=>z7 y x
 |5=>cH a b λx y=>I9 y x
 |6=>F9 (isNone b) (some (isNone a))
 |7=>F9 (isNone b) (some (!isNone a))
 |8=>pR σ a b
 |9=>DN (pR σ a b) λr=>some (!r)
 |_=>none
def ki(op:Nat)(x y:Int):Option Int:=match op with
 |0=>some (x+y)
 |1=>some (x - y)
 |2=>F9 (small x&&small y) (some (x*y))
 |3=>F9 (!Dj y 0&&small y) (some (x.fdiv y))
 |4=>F9 (!Dj y 0) (some (x.fmod y))
 |_=>none
def tR(op:Nat):D→D→Option D
 | .int x, .int y=>DN (ki op x y) λi=>some (.int i)
 | .nd h x, .nd h' y=>F9 (μ op 0&&heq h h'&&Ε (x.length+y.length) big) (some (.nd h (x++y)))
 |_,_=>none
def M0(op:Nat)(a b:V):Option V:=DN (Ix a) λx=>DN (Ix b) λy=>DN (tR op x y) λz=>some (.d z)
def qO(l:List V):Int→Option V
 | .ofNat n=>l[n]?
 | .negSucc _=>none
def T2(x:D)(l:List V):Hd→Option V
 | .Dg k ks=>DN (HG x) λkey=>F9 (μ key.kind k) (DU ks l key)
 | .inst _=>none
 |_=>DN (Y2 x) (qO l)
def E9(σ:Store)(o i:V):Option V:=DN (Ix i) λx=>DN (G4 σ o) λq=>T2 x q.2 q.1
def W6:Nat→List D→List D
 |0,_=> []
 |n+1,x::l=>x::W6 n l
 |_+1, []=> []
def QH:D→Option (List D)
 | .nd h l=>F9 (Pq h) (some l)
 |_=>none
def jJ(o:V)(n:Nat):Option V:=DN (Ix o) λx=>DN (QH x) λl=>some (.d (.nd .lst (W6 n l)))
def ei{α:Type}(le:α→α→Bool)(x:α):List α→List α
 | []=> [x]
 |y::r=>cond (le x y) (x::y::r) (y::ei le x r)
def HA{α:Type}(le:α→α→Bool):List α→List α
 | []=> []
 |x::r=>ei le x (HA le r)
def bl:DO→Int
 | .i n=>n
 |_=>0
def Zr:DO→Nat
 | .s n=>n
 |_=>0
def rK(k:Nat)(ks:List DO):Option (List D):=match k with
 |0=>some ((HA I9 (ks.map bl)).map .int)
 |1=>some ((HA Ε (ks.map Zr)).map .sym)
 |_=>none
def kM(σ:Store)(v:V):Option V:=DN (GH σ v) λr=>F9 (Μ r.2.1.length 64) (DN (rK r.1 r.2.1) λl=>some (.d (.nd .lst l)))
def X5:List D→Option Int
 | []=>some 0
 |x::r=>DN (Y2 x) λa=>DN (X5 r) λb=>some (a+b)
def nm(n:Nat):Str:=Fw.getD n ""
def EY:D→B2
 | .none=> .none
 | .bool b=> .bool b
 | .int i=> .int i
 | .sym n=> .str (nm n)
 | .str x=> .str x
 | .nd h l=>cond (MQ h) (.tuple (toPys l)) (.list (toPys l))
where toPys:List D→List B2
 | []=> []
 |x::r=>EY x::toPys r
def JW:D→Bool
 | .none=>true
 | .int i=>small i
 | .sym _=>true
 | .nd h l=>MQ h&&Np l
 |_=>false
where Np:List D→Bool
 | []=>true
 |x::r=>JW x&&Np r
def FX(x:D):Str:=(EY x).shown
def PC(x:D):Option V:=F9 (JW x&&Ε (ej x) 8&&Ε (FX x).length 1000000) (some (.d (.str (FX x))))
def vE(l:List V):Hd→Option Nat
 | .Dg k ks=>F9 (np k) (some ks.length)
 | .inst _=>none
 |_=>some l.length
def nW:D→Option (List D)
 | .nd h l=>F9 (MQ h) (some l)
 |_=>none
def Fj(σ:Store)(b:Nat)(v:V):Option V:=match b with
 |0=>DN (G4 σ v) λq=>DN (vE q.2 q.1) λn=>some (.d (.int n))
 |1=>DN (Ix v) λx=>DN (Y2 x) λi=>some (.d (.int i.natAbs))
 |2=>DN (Ix v) λx=>DN (Y2 x) λi=>some (.d (.int i))
 |3=>DN (Ix v) λx=>DN (QH x) λl=>DN (X5 l) λn=>some (.d (.int n))
 |4=>kM σ v
 |5=>DN (Ix v) λx=>DN (QH x) λl=>some (.d (.nd .tup l))
 |6=>DN (Ix v) λx=>DN (QH x) λl=>some (.d (.nd .lst l))
 |8=>DN (Ix v) λx=>DN (nW x) λl=>PC (.nd .tup l)
 |_=>none
def push(σ:Store)(c:Dh):V×Store:=(.cell σ.length,σ++ [c])
def Df(keep:Bool)(h:Hd)(vs:List V)(σ:Store):Option (V×Store):=match keep with
 |true=>some (push σ (.lv h vs))
 |false=>EI (HS (Hz FZ) vs σ) λds σ=>some (.d (.nd h ds),σ)
def S5(kk:Nat)(k v:V)(acc:List DO×List V):Option (List DO×List V):=
 DN (Ix k) λx=>DN (HG x) λkey=>F9 (μ key.kind kk&&np kk) (some (D2 acc.1 key,Dz acc.1 acc.2 key v))
def FB(kk:Nat):List (V×V)→List DO×List V→Option (List DO×List V)
 | [],acc=>some acc
 |p::r,acc=>DN (S5 kk p.1 p.2 acc) λacc=>FB kk r acc
def alt:List V→Option (List (V×V))
 | []=>some []
 | [_]=>none
 |a::b::r=>DN (alt r) λl=>some ((a,b)::l)
def two:List V→Option (V×V)
 | [a,b]=>some (a,b)
 |_=>none
def Fo(σ:Store):List V→Option (List (V×V))
 | []=>some []
 |v::r=>DN (Ru σ v) λl=>DN (two l) λp=>DN (Fo σ r) λl=>some (p::l)
def Ku(σ:Store)(kk:Nat)(v:V):Option (Nat×List DO×List V):=DN (G4 σ v) λq=>match q.1 with
 | .Dg k ks=>F9 (np k) (some (k,ks,q.2))
 | .lst=>DN (Fo σ q.2) λl=>DN (FB kk l ([], [])) λr=>some (kk,r.1,r.2)
 |_=>none
def DX:Nat→List Nat
 |1=> [146]
 |4=> [103,64]
 |5=> [144,153]
 |6=> [121,59]
 |7=> [121,68,38,74,77]
 |8=> [133,95,144,46]
 |_=> []
def kdH:Hd→Option Nat
 | .tup=>some 6
 | .lst=>some 4
 | .Dg _ _=>some 5
 | .inst c=>F9 (!(DX c).isEmpty) (some (10+c))
def La(σ:Store):V→Option Nat
 | .d .none=>some 0
 | .d (.bool _)=>some 1
 | .d (.int _)=>some 2
 | .d (.sym _)=>some 3
 | .d (.str _)=>some 3
 |v=>DN (G4 σ v) λq=>kdH q.1
def ME(k t:Nat):Bool:=μ k t||(μ k 1&&μ t 2)
def uL(σ:Store)(v:V)(t:Nat):Option V:=DN (La σ v) λk=>some (.d (.bool (ME k t)))
def Hh(σ:Store)(v:V)(a:Nat):Option V:=DN (Ew σ v) λr=>Du (DX r.1) r.2 a
def bN:Dh→Option (Hd×List V)
 | .lv h l=>some (h,l)
 | .fz _=>none
def cellOf(σ:Store):V→Option (Nat×Hd×List V)
 | .d _=>none
 | .cell i=>DN (Sw σ i) λc=>DN (bN c) λq=>some (i,q)
def QD(σ:Store)(i:Nat)(h:Hd)(l:List V):Store:=σ.set i (.lv h l)
def Kn(σ:Store)(o:V)(a:Nat)(v:V):Option Store:=EI (Hz FZ v σ) λx σ=>DN (cellOf σ o) λr=>DN (OC r.2.1) λc=>
 DN (Du (DX c) r.2.2 a) λO=>some (QD σ r.1 (.inst c) (Jx (DX c) r.2.2 a (.d x)))
def nS(l:List V)(x:D):Int→Option (List V)
 | .ofNat n=>F9 (Μ n l.length) (some (l.set n (.d x)))
 | .negSucc _=>none
def sS(k x:D)(l:List V):Hd→Option (Hd×List V)
 | .Dg kk ks=>DN (HG k) λkey=>F9 (μ key.kind kk&&Μ ks.length big) (some (.Dg kk (D2 ks key),Dz ks l key (.d x)))
 | .lst=>DN (Y2 k) λi=>DN (nS l x i) λl=>some (.lst,l)
 |_=>none
def GO(σ:Store)(o i v:V):Option Store:=EI (Hz FZ v σ) λx σ=>DN (cellOf σ o) λr=>DN (Ix i) λk=>
 DN (sS k x r.2.2 r.2.1) λq=>some (QD σ r.1 q.1 q.2)
def mH(σ:Store)(o:V):Option (Nat×List V):=DN (cellOf σ o) λr=>F9 (Pq r.2.1) (some (r.1,r.2.2))
def G9(σ:Store)(o:V)(ds:List D):Option Store:=DN (mH σ o) λr=>F9 (Μ (r.2.length+ds.length) big) (some (QD σ r.1 .lst (r.2++ds.map .d)))
def Pw(σ:Store)(o v:V):Option Store:=EI (Hz FZ v σ) λx σ=>G9 σ o [x]
def pM(σ:Store)(o:V):Option (V×Store):=DN (mH σ o) λr=>DN r.2.getLast? λv=>some (v,QD σ r.1 .lst r.2.dropLast)
def T5:List DO→List DO→List DO
 | [],as=>as
 |k::ks,as=>T5 ks (D2 as k)
def Op{α β:Type}(f:β→α):List DO→List β→List DO→List α→List α
 |k::ks,x::xs,as,vs=>Op f ks xs (D2 as k) (Dz as vs k (f x))
 |_,_,_,vs=>vs
def sC:D→Option (List DO×List D)
 | .nd (.Dg 0 ks) l=>some (ks,l)
 |_=>none
def yE(σ:Store)(o:V):Option (Nat×List DO×List V):=DN (cellOf σ o) λr=>DN (Ws r.2.1) λq=>F9 (μ q.1 0) (some (r.1,q.2,r.2.2))
def QU(σ:Store)(o v:V):Option Store:=DN (Ix v) λx=>DN (sC x) λp=>DN (yE σ o) λr=>
 F9 (Μ (p.1.length+r.2.1.length) big) (some (QD σ r.1 (.Dg 0 (T5 p.1 r.2.1)) (Op V.d p.1 p.2 r.2.1 r.2.2)))
def cA(σ:Store)(o:V)(vs:List V):Option V:=DN (GH σ o) λr=>match vs with
 |k::vs=>DN (Ix k) λx=>DN (HG x) λkey=>F9 (μ key.kind r.1) (match vs with
  | []=>some ((DU r.2.1 r.2.2 key).getD (.d .none))
  | [u]=>some ((DU r.2.1 r.2.2 key).getD u)
  |_=>none)
 | []=>none
def only{α:Type}:List α→Option α
 | [v]=>some v
 |_=>none
def done(x:Option Store):Option (V×Store):=DN x λσ=>some (.d .none,σ)
def GK(m:Nat)(o:V)(vs:List V)(σ:Store):Option (V×Store):=
 cond (μ m 41) (DN (only vs) λv=>done (Pw σ o v))<|
 cond (μ m 65) (lift (cA σ o vs) σ)<|
 cond (μ m 116) (F9 vs.isEmpty (pM σ o))<|
 cond (μ m 57) (DN (only vs) λv=>EI (Hz FZ v σ) λx σ=>DN (QH x) λl=>done (G9 σ o l))<|
 cond (μ m 157) (DN (only vs) λv=>done (QU σ o v)) none
def Jt(σ:Store)(m:Nat)(o:V):Bool:=cond (μ m 65||μ m 157) (GH σ o).isSome (JB σ o).isSome
structure HL where
 call:Bool→Nat→List V→Store→Option (V×Store)
 init:Nat→List V→Store→Option (List V×Store)
def iM(n:Nat):Option D:=match n with
 |20=>some (.nd .tup [.sym 13, .sym 14, .sym 1])
 |6=>some (.nd .tup [.sym 17, .sym 10, .sym 4, .sym 19])
 |8=>some (.int 30)
 |_=>none
def KI:Nat→Option Nat
 |1=>some 0|4=>some 1|5=>some 9|6=>some 17|7=>some 18|8=>some 31
 |_=>none
def Hc:Nat→List Nat×List Nat
 |4=>([111], [2])
 |5=>([58,65,117,40,104,127,149], [10,11,12,13,14,15,16])
 |8=>([125,145,90], [32,33,34])
 |_=>([], [])
def LG(c m:Nat):Option Nat:=Du (Hc c).1 (Hc c).2 m
def MR(x y:Nat)(d:D)(loc:Di):Option Di:=match y with
 |0=>some ((x, .d d)::loc)
 |_=>match d with
  | .nd .tup [a,b]=>some ((y, .d b)::(x, .d a)::loc)
  |_=>none
def EB{α:Type}(f:D→Store→Option (Option α×Store)):List D→Store→Option (List α×Store)
 | [],σ=>some ([],σ)
 |x::r,σ=>EI (f x σ) λv σ=>EI (EB f r σ) λl σ=>some (v.toList++l,σ)
abbrev Ev:=Di→Store→Option (V×Store)
set_option genCtorIdx false in
inductive HW where
 |go (c:Nat) (loc:Di) (σ:Store)
 |ret (v:V) (σ:Store)
def HW.ctorIdx(x:HW):Nat:=HW.casesOn x (λO O O=>0) λO O=>1
abbrev Ex:=Di→Store→Option HW
structure Nd where
 t:Nat
 n:Nat
 ev:Ev
 kids:List Ev
 ex:Ex
def Ow:List Ev→Di→Store→Option (List V×Store)
 | [],_,σ=>some ([],σ)
 |f::fs,loc,σ=>EI (f loc σ) λv σ=>EI (Ow fs loc σ) λvs σ=>some (v::vs,σ)
def lZ(x:Nat):Ev:=λloc σ=>lift (DE loc x) σ
def yn(x:Nat):Ev:=λO σ=>lift (DN (iM x) λd=>some (.d d)) σ
def Mu(x:D):Ev:=λO σ=>some (.d x,σ)
def XY(a:Nat)(f:Ev):Ev:=λloc σ=>EI (f loc σ) λo σ=>lift (Hh σ o a) σ
def hU(f g:Ev):Ev:=λloc σ=>EI (f loc σ) λo σ=>EI (g loc σ) λi σ=>lift (E9 σ o i) σ
def Wp(n:Nat)(f:Ev):Ev:=λloc σ=>EI (f loc σ) λo σ=>lift (jJ o n) σ
def gJ(op:Nat)(f g:Ev):Ev:=λloc σ=>EI (f loc σ) λa σ=>EI (g loc σ) λb σ=>lift (M0 op a b) σ
def Zs(f:Ev):Ev:=λloc σ=>EI (f loc σ) λv σ=>lift (DN (vy v) λb=>some (.d (.bool (!b)))) σ
def Xw(op:Nat)(f g:Ev):Ev:=λloc σ=>EI (f loc σ) λa σ=>EI (g loc σ) λb σ=>lift (DN (FJ σ op a b) λr=>some (.d (.bool r))) σ
def OG(op op':Nat)(f g h:Ev):Ev:=λloc σ=>EI (f loc σ) λa σ=>EI (g loc σ) λb σ=>DN (FJ σ op a b) λr=>match r with
 |true=>EI (h loc σ) λc σ=>lift (DN (FJ σ op' b c) λr=>some (.d (.bool r))) σ
 |false=>some (.d (.bool false),σ)
def K1(q:Bool):List Ev→Ev
 | [],_,σ=>some (.d (.bool q),σ)
 |f::fs,loc,σ=>EI (f loc σ) λv σ=>DN (vy v) λb=>cond (q==b) (K1 q fs loc σ) (some (.d (.bool b),σ))
def eV(t f g:Ev):Ev:=λloc σ=>EI (t loc σ) λv σ=>DN (G1 σ v) λb=>cond b (f loc σ) (g loc σ)
def Za(keep:Bool)(h:Hd)(fs:List Ev):Ev:=λloc σ=>EI (Ow fs loc σ) λvs σ=>Df keep h vs σ
def Y5(keep:Bool)(kk:Nat)(fs:List Ev):Ev:=λloc σ=>EI (Ow fs loc σ) λvs σ=>DN (alt vs) λl=>DN (FB kk l ([], [])) λr=>Df keep (.Dg kk r.1) r.2 σ
def Lr(G:HL)(keep:Bool)(f:Nat)(fs:List Ev):Ev:=λloc σ=>EI (Ow fs loc σ) λvs σ=>DN (Zu f) λi=>G.call keep i vs σ
def MB(G:HL)(keep:Bool)(c:Nat)(fs:List Ev):Ev:=λloc σ=>EI (Ow fs loc σ) λvs σ=>EI (G.init c vs σ) λl σ=>Df keep (.inst c) l σ
def Py(b:Nat)(f:Ev):Ev:=λloc σ=>EI (f loc σ) λv σ=>lift (Fj σ b v) σ
def Lj(keep:Bool)(kk:Nat)(f:Ev):Ev:=λloc σ=>EI (f loc σ) λv σ=>DN (Ku σ kk v) λr=>Df keep (.Dg r.1 r.2.1) r.2.2 σ
def ig(t:Nat)(f:Ev):Ev:=λloc σ=>EI (f loc σ) λv σ=>lift (uL σ v t) σ
def Wy(G:HL)(m:Nat)(f:Ev)(fs:List Ev):Ev:=λloc σ=>EI (f loc σ) λo σ=>match Ew σ o with
 |some r=>F9 (Du (DX r.1) (DX r.1) m).isNone (DN (LG r.1 m) λi=>EI (Ow fs loc σ) λvs σ=>G.call false i (o::vs) σ)
 |none=>F9 (Jt σ m o) (EI (Ow fs loc σ) λvs σ=>GK m o vs σ)
def dP:List Ev→Di→Store→Option (Bool×Store)
 | [],_,σ=>some (true,σ)
 |f::fs,loc,σ=>EI (f loc σ) λv σ=>DN (vy v) λb=>cond b (dP fs loc σ) (some (false,σ))
def FU(a b:Int):Option (List D):=F9 (small a&&small b&&Ε (b - a).toNat big) (some (HH a (b - a).toNat))
abbrev ef:=Di→Store→Option (List D×Store)
def RM(q:Nat)(fs:List Ev):ef:=λloc σ=>EI (Ow fs loc σ) λvs σ=>match q with
 |0=>DN (only vs) λv=>FV v σ
 |1=>DN (only vs) λv=>DN (Ix v) λx=>DN (Y2 x) λn=>lift (FU 0 n) σ
 |2=>DN (two vs) λp=>DN (Ix p.1) λx=>DN (Y2 x) λm=>DN (Ix p.2) λy=>DN (Y2 y) λn=>lift (FU m n) σ
 |3=>DN (only vs) λv=>DN (Ix v) λx=>DN (QH x) λl=>some (l.reverse,σ)
 |_=>none
def Fz(x y:Nat)(f:Ev)(ifs:List Ev)(loc:Di)(d:D)(σ:Store):Option (Option V×Store):=DN (MR x y d loc) λloc=>EI (dP ifs loc σ) λb σ=>match b with
 |true=>EI (f loc σ) λv σ=>some (some v,σ)
 |false=>some (none,σ)
def Nc(keep:Bool)(it:ef)(x y:Nat)(f:Ev)(ifs:List Ev):Ev:=λloc σ=>EI (it loc σ) λl σ=>EI (EB (Fz x y f ifs loc) l σ) λvs σ=>Df keep .lst vs σ
def Lh(x:Nat)(f g:Ev)(loc:Di)(d:D)(σ:Store):Option (Option (V×V)×Store):=EI (f ((x, .d d)::loc) σ) λa σ=>EI (g ((x, .d d)::loc) σ) λb σ=>some (some (a,b),σ)
def Qm(kk:Nat)(it:ef)(x:Nat)(f g:Ev):Ev:=λloc σ=>EI (it loc σ) λl σ=>EI (EB (Lh x f g loc) l σ) λps σ=>DN (FB kk ps ([], [])) λr=>Df false (.Dg kk r.1) r.2 σ
def FP(n:Nat):V→Bool
 | .d _=>false
 | .cell i=>Ε n i
def has(a:Nat):List Nat→Bool
 | []=>false
 |x::r=>μ x a||has a r
def Dt(n:Nat)(dead:List Nat):Di→Di
 | []=> []
 |p::r=>cond (has p.1 dead||FP n p.2) (Dt n (p.1::dead) r) (p::Dt n dead r)
def El(body:Ex)(x:Nat):List D→Ex
 | [],loc,σ=>some (.go 0 loc σ)
 |d::r,loc,σ=>DN (body (DR loc x (.d d)) σ) λo=>match o with
  | .go 1 DG DT=>some (.go 0 (Dt σ.length [] DG) (DT.take σ.length))
  | .go _ DG DT=>El body x r (Dt σ.length [] DG) (DT.take σ.length)
  | .ret v DT=>some (.ret v DT)
def EC(test:Di→Store→Option (Bool×Store))(body:Ex):Nat→Ex
 |0,_,_=>none
 |k+1,loc,σ=>EI (test loc σ) λb DD=>match b with
  |true=>DN (body loc DD) λo=>match o with
   | .go 1 DG DT=>some (.go 0 (Dt σ.length [] DG) (DT.take σ.length))
   | .go _ DG DT=>EC test body k (Dt σ.length [] DG) (DT.take σ.length)
   | .ret v DT=>some (.ret v DT)
  |false=>some (.go 0 loc DD)
def Iw:List Nat→List V→Di→Option Di
 | [], [],loc=>some loc
 |x::xs,v::vs,loc=>DN (Iw xs vs loc) λloc=>some (DR loc x v)
 |_,_,_=>none
def SE:Nat:=2000
def UO(x:Option HW)(f:Di→Store→Option HW):Option HW:=DN x λo=>match o with
 | .go 0 loc σ=>f loc σ
 |o=>some o
def ij(x:Nat)(f:Ev):Ex:=λloc σ=>EI (f loc σ) λv σ=>some (.go 0 (DR loc x v) σ)
def Zp(a:Nat)(f o:Ev):Ex:=λloc σ=>EI (f loc σ) λv σ=>EI (o loc σ) λo σ=>DN (Kn σ o a v) λσ=>some (.go 0 loc σ)
def aU(f o i:Ev):Ex:=λloc σ=>EI (f loc σ) λv σ=>EI (o loc σ) λo σ=>EI (i loc σ) λi σ=>DN (GO σ o i v) λσ=>some (.go 0 loc σ)
def bH(f:Ev)(xs:List Nat):Ex:=λloc σ=>EI (f loc σ) λv σ=>DN (Ix v) λx=>DN (nW x) λl=>DN (Iw xs (l.map .d) loc) λloc=>some (.go 0 loc σ)
def ak(fs:List Ev)(xs:List Nat):Ex:=λloc σ=>EI (Ow fs loc σ) λvs σ=>DN (Iw xs vs loc) λloc=>some (.go 0 loc σ)
def zn(f:Ev):Ex:=λloc σ=>EI (f loc σ) λv σ=>F9 (isNone v) (some (.go 0 loc σ))
def au(f g:Ev):Ex:=λloc σ=>EI (f loc σ) λo σ=>F9 (Jt σ 57 o) (EI (g loc σ) λv σ=>DN (Ix v) λx=>DN (QH x) λl=>DN (G9 σ o l.reverse) λσ=>some (.go 0 loc σ))
def oE(f:Ev):Ex:=λloc σ=>EI (f loc σ) λv σ=>some (.ret v σ)
def zH(t:Ev)(a b:Ex):Ex:=λloc σ=>EI (t loc σ) λv σ=>DN (G1 σ v) λc=>cond c (a loc σ) (b loc σ)
def pJ(x:Nat)(it:ef)(b:Ex):Ex:=λloc σ=>EI (it loc σ) λl σ=>El b x l loc σ
def M9(t:Ev)(loc:Di)(σ:Store):Option (Bool×Store):=EI (t loc σ) λv σ=>lift (G1 σ v) σ
def lH(t:Ev)(b:Ex):Ex:=λloc σ=>EC (M9 t) b SE loc σ
def YB:List Ex→Ex
 | [],loc,σ=>some (.go 0 loc σ)
 |f::fs,loc,σ=>UO (f loc σ) λloc σ=>YB fs loc σ
def ZW{α:Type}(l:List Nd)(f:Nd→Di→Store→Option α):Di→Store→Option α:=match l with
 | [a]=>f a
 |_=>λO O=>none
def kQ{α:Type}(l:List Nd)(f:Nd→Nd→Di→Store→Option α):Di→Store→Option α:=match l with
 | [a,b]=>f a b
 |_=>λO O=>none
def tc{α:Type}(l:List Nd)(f:Nd→Nd→Nd→Di→Store→Option α):Di→Store→Option α:=match l with
 | [a,b,c]=>f a b c
 |_=>λO O=>none
def on4{α:Type}(l:List Nd)(f:Nd→Nd→Nd→Nd→Di→Store→Option α):Di→Store→Option α:=match l with
 | [a,b,c,d]=>f a b c d
 |_=>λO O=>none
def v5{α:Type}(l:List Nd)(f:Nd→List Nd→Di→Store→Option α):Di→Store→Option α:=match l with
 |a::r=>f a r
 |_=>λO O=>none
def oR{α:Type}(l:List Nd)(f:Nd→Nd→Nd→List Nd→Di→Store→Option α):Di→Store→Option α:=match l with
 |a::b::c::r=>f a b c r
 |_=>λO O=>none
def Nd.it(d:Nd):ef:=RM d.t d.kids
def zt(G:HL)(t n:Nat)(l:List Nd):Ev:=match t with
 |0=>lZ n
 |1=>yn n
 |2=>Mu .none
 |3=>Mu (.bool (μ n 1))
 |4=>Mu (.int n)
 |5=>Mu (.sym n)
 |6=>Mu (.int (-(n:Int)))
 |7=>Mu (.int ((10:Int)^n))
 |8=>ZW l λa=>XY n a.ev
 |9=>kQ l λa b=>hU a.ev b.ev
 |10=>ZW l λa=>Wp n a.ev
 |11=>kQ l λa b=>gJ n a.ev b.ev
 |12=>ZW l λa=>Zs a.ev
 |13=>kQ l λa b=>Xw n a.ev b.ev
 |14=>tc l λa b c=>OG (n / 16) (n % 16) a.ev b.ev c.ev
 |15=>K1 true (l.map Nd.ev)
 |16=>K1 false (l.map Nd.ev)
 |17=>tc l λa b c=>eV a.ev b.ev c.ev
 |18=>Za false .tup (l.map Nd.ev)
 |19=>Za false .lst (l.map Nd.ev)
 |20=>Za true .lst (l.map Nd.ev)
 |21=>Y5 false n (l.map Nd.ev)
 |22=>Y5 true n (l.map Nd.ev)
 |23=>Lr G false n (l.map Nd.ev)
 |24=>Lr G true n (l.map Nd.ev)
 |25=>MB G false n (l.map Nd.ev)
 |26=>MB G true n (l.map Nd.ev)
 |27=>ZW l λa=>Py n a.ev
 |28=>ZW l λa=>Lj false n a.ev
 |29=>ZW l λa=>Lj true n a.ev
 |30=>ZW l λa=>ig n a.ev
 |31=>v5 l λa r=>Wy G n a.ev (r.map Nd.ev)
 |32=>oR l λi p a r=>Nc false i.it p.t p.n a.ev (r.map Nd.ev)
 |33=>oR l λi p a r=>Nc true i.it p.t p.n a.ev (r.map Nd.ev)
 |34=>on4 l λi p a b=>Qm n i.it p.t a.ev b.ev
 |35=>Za true .tup (l.map Nd.ev)
 |_=>λO O=>none
def exN(t n:Nat)(l:List Nd):Ex:=match t with
 |50=>ZW l λa=>ij n a.ev
 |51=>kQ l λa o=>Zp n a.ev o.ev
 |52=>tc l λa o i=>aU a.ev o.ev i.ev
 |53=>v5 l λa r=>bH a.ev (r.map Nd.n)
 |54=>v5 l λa r=>ak a.kids (r.map Nd.n)
 |55=>ZW l λa=>zn a.ev
 |56=>kQ l λa b=>au a.ev b.ev
 |57=>ZW l λa=>oE a.ev
 |58=>tc l λa b c=>zH a.ev b.ex c.ex
 |59=>kQ l λi b=>pJ n i.it b.ex
 |60=>kQ l λa b=>lH a.ev b.ex
 |61=>λloc σ=>some (.go 2 loc σ)
 |62=>λloc σ=>some (.go 1 loc σ)
 |63=>ZW l λb=>b.ex
 |70=>YB (l.map Nd.ex)
 |_=>λO O=>none
def nB(G:HL)(t n:Nat)(l:List Nd):Nd:=⟨t,n,zt G t n l,l.map Nd.ev,exN t n l⟩
end
mutual
noncomputable def nd(G:HL):T→Nd
 | .mk t n ks=>nB G t n (GT G ks)
noncomputable def GT(G:HL):List T→List Nd
 | []=> []
 |a::r=>nd G a::GT G r
end
mutual open A
def bindArgs:List Nat→List V→Nat→Option Di
 | [], [],_=>some []
 |x::xs,v::vs,df=>DN (bindArgs xs vs df) λl=>some ((x,v)::l)
 |x::xs, [],df=>F9 (Ε (xs.length+1) df) (DN (bindArgs xs [] df) λl=>some ((x, .d .none)::l))
 | [],_::_,_=>none
def jI:HW→Option (V×Store)
 | .ret v σ=>some (v,σ)
 | .go 0 _ σ=>some (.d .none,σ)
 |_=>none
def run(G:HL)(f:Fn)(args:List V)(σ:Store):Option (V×Store):=
 DN (bindArgs f.ps args f.df) λloc=>DN (YB ((GT G f.body).map Nd.ex) loc σ) jI
def vP(σ:Store)(i:Nat):Option (Hd×List D):=DN (Sw σ i) λc=>DN (bN c) λq=>DN (Mq q.2) λl=>some (q.1,l)
def JT(σ:Store)(n:Nat):List V→Store→Option (List V×Store)
 | [],τ=>some ([],τ)
 | .d x::r,τ=>EI (JT σ n r τ) λl τ=>some (.d x::l,τ)
 | .cell i::r,τ=>F9 (Ε n i) (DN (vP σ i) λq=>DN (Ws q.1) λO=>EI (JT σ (i+1) r (τ++ [.lv q.1 (q.2.map .d)])) λl hG=>some (.cell τ.length::l,hG))
def dW(n i:Nat)(σ:Store):Option (V×Store):=DN (Sw σ i) λc=>DN (bN c) λq=>match q.1 with
 | .inst c=>EI (JT σ n q.2 (σ.take n)) λfs τ=>some (push τ (.lv (.inst c) fs))
 | .tup=>none
 |h=>DN (Mq q.2) λl=>some (push (σ.take n) (.lv h (l.map .d)))
def D5(keep:Bool)(n:Nat)(σ:Store):V→Option (V×Store)
 | .d x=>some (.d x,σ.take n)
 | .cell i=>match Ε n i with
  |false=>some (.cell i,σ.take n)
  |true=>match keep with
   |false=>EI (Hz FZ (.cell i) σ) λx σ=>some (.d x,σ.take n)
   |true=>dW n i σ
def T.tag:T→Nat
 | .mk t _ _=>t
def T.nr:T→Nat
 | .mk _ n _=>n
def T.ks:T→List T
 | .mk _ _ k=>k
def aP:List T→Option (T×T)
 | [a,b]=>some (a,b)
 |_=>none
def Hx(G:HL)(loc:Di):List Nat→List T→Store→Option (List V×Store)
 | [], [],σ=>some ([],σ)
 |a::as,t::r,σ=>F9 (μ t.tag 51&&μ a t.nr) (DN (aP t.ks) λp=>F9 (μ p.2.tag 0&&p.2.ks.isEmpty) (EI ((nd G p.1).ev loc σ) λv σ=>EI (Hx G loc as r σ) λl σ=>some (v::l,σ)))
 |_,_,_=>none
def uC(G:HL)(c:Nat)(args:List V)(σ:Store):Option (List V×Store):=DN (KI c) λi=>DN fns[i]? λf=>match f.ps with
 |s::ps=>DN (bindArgs ps args f.df) λloc=>Hx G loc (DX c) f.body σ
 | []=>none
def DZ:Nat→HL
 |0=>⟨λO O O O=>none,λO O O=>none⟩
 |k+1=>⟨λkeep i args σ=>DN fns[i]? λf=>EI (run (DZ k) f args σ) λv DT=>D5 keep σ.length DT v,
       λc args σ=>uC (DZ k) c args σ⟩
end
set_option genInjectivity false
end
section
mutual open A
theorem DP{α β:Type}{x:Option (α×Store)}{f:α→Store→Option β}{r:β}{P:Prop}(e:EI x f=some r)(go: ∀a σ,x=some (a,σ)→f a σ=some r→P):P:=by
 cases x with
 |none=>exact A6 rfl (heq_of_eq e)
 |some p=>exact go p.1 p.2 rfl e
theorem DA{α β:Type}{x:Option α}{f:α→Option β}{r:β}{P:Prop}(e:DN x f=some r)(go: ∀a,x=some a→f a=some r→P):P:=by
 cases x with
 |none=>exact A6 rfl (heq_of_eq e)
 |some a=>exact go a rfl e
theorem DY{α:Type}{b:Bool}{x:Option α}{r:α}{P:Prop}(e:F9 b x=some r)(go:b=true→x=some r→P):P:=by
 cases b with
 |false=>exact A6 rfl (heq_of_eq e)
 |true=>exact go rfl e
@[elab_as_elim] theorem De{α:Type}{a r:α}{P:α→Prop}(e:some a=some r)(go:P a):P r:=η e▸go
@[elab_as_elim] theorem Fs{α:Type}{x:Option α}{σ DT:Store}{v:α}{P:α→Store→Prop}(e:lift x σ=some (v,DT))(go: ∀a,x=some a→P a σ):P v DT:=by
 cases x with
 |none=>exact A6 rfl (heq_of_eq e)
 |some a=>cases e;exact go _ rfl
theorem band{a b:Bool}(h:(a&&b)=true):a=true∧b=true:=by cases a<;>cases b<;>first|exact ⟨rfl,rfl⟩|exact ζ h
theorem DC{α:Type}{a:α}{P:Prop}(e:none=some a):P:=A6 rfl (heq_of_eq e)
inductive DS{α β:Type}(R:α→β→Prop):List α→List β→Prop
 |nil:DS R [] []
 |cons {a b l m}:R a b→DS R l m→DS R (a::l) (b::m)
end
section
mutual open A
variable{α β γ:Type}{R S:α→β→Prop}
theorem DS.imp(f: ∀a b,R a b→S a b){l:List α}{m:List β}(h:DS R l m):DS S l m:=by
 induction h with
 |nil=>exact .nil
 |cons a _ ih=>exact .cons (f _ _ a) ih
theorem DS.length{l:List α}{m:List β}(h:DS R l m):l.length=m.length:=by
 induction h with
 |nil=>rfl
 |cons _ _ ih=>exact congrArg (· +1) ih
theorem DS.mapR{T:α→γ→Prop}(g:β→γ)(f: ∀a b,R a b→T a (g b)){l:List α}{m:List β}(h:DS R l m):DS T l (m.map g):=by
 induction h with
 |nil=>exact .nil
 |cons a _ ih=>exact .cons (f _ _ a) ih
theorem DS.ofMap{T:α→γ→Prop}(g:β→γ)(f: ∀a b,T a (g b)→R a b){l:List α}: ∀{m:List β},DS T l (m.map g)→DS R l m:=by
 induction l with
 |nil=>intro m h;cases m with|nil=>exact .nil|cons=>cases h
 |cons x l ih=>intro m h;cases m with|nil=>cases h|cons=>cases h with|cons a b=>exact .cons (f _ _ a) (ih b)
theorem DS.append{l l':List α}{m m':List β}(h:DS R l m)(k:DS R l' m'):DS R (l++l') (m++m'):=by
 induction h with
 |nil=>exact k
 |cons a _ ih=>exact .cons a ih
theorem DS.get{l:List α}{m:List β}(h:DS R l m): ∀{i:Nat} {y:β},m[i]?=some y→ ∃u,l[i]?=some u∧R u y:=by
 induction h with
 |nil=>intro i y e;exact DC (e:none=_)
 |cons a _ ih=>
  intro i y e;cases i with
  |zero=>exact (DM _ rfl (η e▸a))
  |succ i=>exact ih e
theorem DS.pe{l:List α}{m:List β}(h:DS R l m){i:Nat}{u:α}{y:β}(e1:l[i]?=some u)(e2:m[i]?=some y):R u y:=
 DQ (h.get e2) λO a b=>η (a.symm.trans e1)▸b
theorem LJ{l:List α}{b:β}(h:DS R l [b]): ∃a,l= [a]∧R a b:=by
 cases h with|cons a h=>cases h;exact (DM _ rfl a)
theorem aR{l:List α}(h:DS R l ([]:List β)):l= []:=by cases h;rfl
theorem Ja{m:List β}(h:DS R ([]:List α) m):m= []:=by cases h;rfl
theorem HP{a:α}{l:List α}{m:List β}(h:DS R (a::l) m): ∃b m',m=b::m'∧R a b∧DS R l m':=by
 cases h with|cons a h=>exact (EK _ _ rfl a h)
theorem Yi{l:List α}{b:β}{m:List β}(h:DS R l (b::m)): ∃a l',l=a::l'∧R a b∧DS R l' m:=by
 cases h with|cons a h=>exact (EK _ _ rfl a h)
theorem eC{l:List α}{b d:β}(h:DS R l [b,d]): ∃a e,l= [a,e]∧R a b∧R e d:=
 D0 (Yi h) λa O w h1 h2=>DQ (LJ h2) λe w2 h3=>(EK a e (w2▸w) h1 h3)
theorem DS.set{u:α}{y:β}(a:R u y){l:List α}{m:List β}(h:DS R l m): ∀n,DS R (l.set n u) (m.set n y):=by
 induction h with
 |nil=>intro n;exact .nil
 |cons b c ih=>
  intro n;cases n with
  |zero=>exact .cons a c
  |succ n=>exact .cons b (ih n)
theorem DS.dropLast{l:List α}{m:List β}(h:DS R l m):DS R l.dropLast m.dropLast:=by
 induction h with
 |nil=>exact .nil
 |cons a b ih=>cases b with
  |nil=>exact .nil
  |cons=>exact .cons a ih
theorem DS.last{l:List α}{m:List β}(h:DS R l m){y:β}(e:m.getLast?=some y): ∃u,l.getLast?=some u∧R u y:=by
 rw [BE] at e;refine DQ (h.get e) λu a b=> ?_;exact (DM u (by exact C9 (BE)<|C9 h.length a) b)
theorem DS.reverse{l:List α}{m:List β}(h:DS R l m):DS R l.reverse m.reverse:=by
 induction h with
 |nil=>exact .nil
 |cons a _ ih=>exact C9 Ag<|C9 Ag<|ih.append (.cons a .nil)
end
end
mutual open A
abbrev HF:=Br→Option Obj
abbrev RH:=List (Br×Br)
abbrev GZ(vs:List Bj)(n:Nat):Obj:={cls:= .type "tuple",data:= .seq vs.toArray n}
abbrev E0(vs:List Bj)(n:Nat):Obj:={cls:= .type "list",data:= .seq vs.toArray n}
structure Cx where
 prog:Program
 w:World
 CL:Nat→Br
 h₀:Bz
inductive Pk(c:Cx):Nat→(K:Type)→ [DecidableEq K]→PySem.KeyKind c.prog c.w K→(K→DO→Prop)→Prop
 |i:Pk c 0 Int (B9 c.prog c.w) (λn k=>k= .i n)
 |s:Pk c 1 Str (strKind c.prog c.w) (λx k=> ∃n,n<Fw.length∧x=nm n∧k= .s n)
 |t:Pk c 3 Str (strKind c.prog c.w) (λx k=>k= .t x)
inductive Rows{K:Type}(rl:K→DO→Prop):List (K×Bj)→List DO→List Bj→Prop
 |nil:Rows rl [] [] []
 |cons {a x v l ks vs}:rl a x→Rows rl l ks vs→Rows rl ((a,v)::l) (x::ks) (v::vs)
abbrev Kz:=(Int×Int)×Br×Bj
def lk(x:Kz):List Int×Br×Bj:=([x.1.1,x.1.2],x.2)
def ja(c:Cx)(o:Obj)(xs:List Kz):Prop:= ∃es ep,o.ExactDict∧o.data= .dict es ep∧es.toList=(xs.map lk).map (entryOfKey (CN (B9 c.prog c.w)))
inductive EA(c:Cx)(hf:HF)(o:Obj):Nat→List DO→List Bj→Prop
 |np {k:Nat} {K:Type} [DecidableEq K] {knd:PySem.KeyKind c.prog c.w K} {rl:K→DO→Prop} {l:List (K×Bj)} {ks vs}:Pk c k K knd rl→vs.length≤big→o.IsDictOf knd l→Rows rl l ks vs→EA c hf o k ks vs
 |pr {xs:List Kz} {ks vs}:vs.length≤big→ja c o xs→(∀x∈xs,∃n t u,hf x.2.1=some (GZ [.int x.1.1 t, .int x.1.2 u] n))→(xs.map (·.1)).Nodup→ks=xs.map (λx=> .p x.1.1 x.1.2)→vs=xs.map (·.2.2)→EA c hf o 2 ks vs
structure Iv(o:Obj)(as:List Nat)(vs:List Bj):Prop where
 ex: ∃es ep,o.data= .dict es ep∧StrKeys es∧es.size=vs.length∧ ∀a,a<Fw.length→nsFind es (nm a)=Du as vs a
 len:as.length=vs.length
 lim:vs.length≤100
inductive qx(f:List Bj→Nat→Obj)(p:Br×Br)(o:Obj)(vs:List Bj):Prop
 |mk (s1:p.1=p.2) (s2:vs.length≤big) (n:Nat) (e:o=f vs n)
structure zd(c:Cx)(hf:HF)(p:Br×Br)(o:Obj)(k:Nat)(ks:List DO)(vs:List Bj):Prop where
 s1:p.1=p.2
 s2:(p.2==By)=false
 s3:EA c hf o k ks vs
def ZB(c:Cx)(hf:HF)(p:Br×Br)(o:Obj):Hd→List Bj→Prop
 | .tup,vs=>qx GZ p o vs
 | .lst,vs=>qx E0 p o vs
 | .Dg k ks,vs=>zd c hf p o k ks vs
 | .inst cl,vs=>hf p.1=some (CB (c.CL cl) p.2)∧Iv o (DX cl) vs
inductive DV(c:Cx)(hf:HF):Bj→D→Prop
 |none:DV c hf .none .none
 |bool (b):DV c hf (.bool b) (.bool b)
 |int (i t):DV c hf (.int i t) (.int i)
 |sym (n t):n<Fw.length→DV c hf (.str (nm n) t) (.sym n)
 |str (x t):DV c hf (.str x t) (.str x)
 |nd {p:Br×Br} {o h vs l}:hf p.2=some o→ZB c hf p o h vs→DS (DV c hf) vs l→DV c hf (.ref p.1) (.nd h l)
def VV(c:Cx)(hf:HF)(ρ:RH)(v:Bj):V→Prop
 | .d x=>DV c hf v x
 | .cell i=> ∃p,ρ[i]?=some p∧v= .ref p.1
def Ge(c:Cx)(hf:HF)(ρ:RH)(h:Bz)(p:Br×Br):Dh→Prop
 | .lv hd l=>hf p.2=none∧ ∃o vs,h.get? p.2=some o∧ZB c hf p o hd vs∧DS (VV c hf ρ) vs l
 | .fz x=>DV c hf (.ref p.1) x
def I1:Dh→Bool
 | .fz _=>false
 |_=>true
structure F5(c:Cx)(hf:HF)(ρ:RH)(σ:Store)(h:Bz):Prop where
 base: ∀b o,c.h₀.get? b=some o→hf b=some o
 keep: ∀b o,hf b=some o→h.get? b=some o
 len:ρ.length=σ.length
 cells: ∀(i:Nat) k p,σ[i]?=some k→ρ[i]?=some p→Ge c hf (ρ.take i) h p k
 apart: ∀(i j:Nat) k k' p p',σ[i]?=some k→σ[j]?=some k'→I1 k=true→I1 k'=true→ρ[i]?=some p→ρ[j]?=some p'→p.2=p'.2→i=j
 here: ∀(i:Nat) p,ρ[i]?=some p→ ∃o,h.get? p.2=some o
structure St(c:Cx) where
 hf:HF
 ρ:RH
 σ:Store
 s:Bl
 R:F5 c hf ρ σ s.heap
structure Os(hf:HF)(ρ:RH)(h:Bz)(Fg:HF)(G8:RH)(h':Bz):Prop where
 kf: ∀b o,hf b=some o→Fg b=some o
 Jg: ∀(i:Nat) p,ρ[i]?=some p→G8[i]?=some p
 Ee: ∀b o,h.get? b=some o→(∀p∈ρ,p.2≠b)→h'.get? b=some o
 FA: ∀b o,Fg b=some o→hf b=some o∨(∃p∈ρ,p.2=b)∨h.get? b=none
 EE: ∀p∈G8,(∃q∈ρ,q.2=p.2)∨h.get? p.2=none
structure GB(s s':Bl):Prop where
 gens:s'.gens=s.gens
 drawn:s'.drawn=s.drawn
 os:s'.os=s.os
structure Le{c:Cx}(x y:St c):Prop where
 nx:Os x.hf x.ρ x.s.heap y.hf y.ρ y.s.heap
 sm:GB x.s y.s
theorem GB.refl(s:Bl):GB s s:=⟨rfl,rfl,rfl⟩
theorem GB.trans{a b c:Bl}(x:GB a b)(y:GB b c):GB a c:=⟨y.1.trans x.1,y.2.trans x.2,y.3.trans x.3⟩
theorem Os.refl{hf:HF}{ρ:RH}{h:Bz}:Os hf ρ h hf ρ h:=⟨λO O e=>e,λO O e=>e,λO O e O=>e,λO O e=> .inl e,λp e=> .inl (DM p e rfl)⟩
theorem Os.back{hf Fg:HF}{ρ G8:RH}{h h':Bz}(x:Os hf ρ h Fg G8 h'){b:Br}(e:h'.get? b=none):(∃p∈ρ,p.2=b)∨h.get? b=none:=by
 by_cases q: ∃p∈ρ,p.2=b
 ·exact .inl q
 ·cases z:h.get? b with
  |none=>exact .inr rfl
  |some o=>exact DC (e.symm.trans (x.Ee b o z λp hp y=>q (DM p hp y)))
theorem Os.trans{hf Fg Yv:HF}{ρ G8 OU:RH}{h h' lX:Bz}(x:Os hf ρ h Fg G8 h')(y:Os Fg G8 h' Yv OU lX):Os hf ρ h Yv OU lX:=by
 refine ⟨λb o e=>y.kf b o (x.kf b o e),λi p e=>y.Jg i p (x.Jg i p e),λb o e n=>y.Ee b o (x.Ee b o e n) λp hp q=> ?_,λb o e=> ?_,λp hp=> ?_⟩
 ·rcases x.EE p hp with ⟨r,hr,z⟩|z
  ·exact n r hr (z.trans q)
  ·exact DC (z.symm.trans (q▸e))
 ·rcases y.FA b o e with z|⟨p,hp,z⟩|z
  ·exact x.FA b o z
  ·rcases x.EE p hp with ⟨q,hq,e⟩|q
   ·exact .inr (.inl (DM q hq (e.trans z)))
   ·exact .inr (.inr (z▸q))
  ·exact .inr (x.back z)
 ·rcases y.EE p hp with ⟨r,hr,z⟩|z
  ·exact z▸x.EE r hr
  ·exact x.back z
theorem F7(hf:HF)(ρ:RH){h h':Bz}(k: ∀b o,h.get? b=some o→h'.get? b=some o):Os hf ρ h hf ρ h':=⟨λO O x=>x,λO O x=>x,λb o e O=>k _ _ e,λO O e=> .inl e,λp hp=> .inl (DM p hp rfl)⟩
theorem Le.refl{c:Cx}(x:St c):Le x x:=⟨.refl, .refl _⟩
theorem Le.trans{c:Cx}{x y z:St c}(a:Le x y)(b:Le y z):Le x z:=⟨a.1.trans b.1,a.2.trans b.2⟩
end
section
mutual open A
variable{c:Cx}{hf Fg:HF}{ρ G8:RH}{x y:St c}
theorem EA.mono(hh: ∀b o,hf b=some o→Fg b=some o){k:Nat}{o:Obj}{ks:List DO}{vs:List Bj}(h:EA c hf o k ks vs):EA c Fg o k ks vs:=by
 cases h with
 |np a b d e=>exact .np a b d e
 |pr a b d e f g=>exact .pr a b (λx hx=>TJ (d x hx) λn t u e=>(Ma n t u (hh _ _ e))) e f g
theorem ZB.mono(hh: ∀b o,hf b=some o→Fg b=some o){p:Br×Br}{o:Obj}{hd:Hd}{vs:List Bj}(h:ZB c hf p o hd vs):ZB c Fg p o hd vs:=by
 cases hd with
 |tup=>exact h
 |lst=>exact h
 |Dg=>exact ⟨h.s1,h.s2,h.s3.mono hh⟩
 |inst=>exact ⟨hh _ _ h.1,h.2⟩
theorem DV.mono(hh: ∀b o,hf b=some o→Fg b=some o){v:Bj}{x:D}(h:DV c hf v x):DV c Fg v x:=
 DV.rec (motive_1:=λv x O=>DV c Fg v x) (motive_2:=λvs l O=>DS (DV c Fg) vs l) .none .bool .int .sym .str (λa b O d=> .nd (hh _ _ a) (b.mono hh) d) .nil (λO O a b=> .cons a b) h
theorem VV.mono(hh: ∀b o,hf b=some o→Fg b=some o)(hr: ∀(i:Nat) p,ρ[i]?=some p→G8[i]?=some p){v:Bj}{x:V}(h:VV c hf ρ v x):VV c Fg G8 v x:=by
 cases x with
 |d x=>exact DV.mono hh h
 |cell i=>exact DQ h λp a b=>(DM p (hr i p a) b)
abbrev KZ(c:Cx)(hf:HF):=DS (DV c hf)
abbrev GC(c:Cx)(hf:HF)(ρ:RH):=DS (VV c hf ρ)
theorem DS.Pb(hh: ∀b o,hf b=some o→Fg b=some o){vs:List Bj}{l:List D}(h:KZ c hf vs l):KZ c Fg vs l:=h.imp λO O=>DV.mono hh
theorem DS.Mi(hh: ∀b o,hf b=some o→Fg b=some o)(hr: ∀(i:Nat) p,ρ[i]?=some p→G8[i]?=some p){vs:List Bj}{l:List V}(h:GC c hf ρ vs l):GC c Fg G8 vs l:=h.imp λO O=>VV.mono hh hr
theorem KZ.vF{vs:List Bj}{l:List D}(h:KZ c hf vs l):GC c hf ρ vs (l.map V.d):=h.mapR V.d λO O a=>a
theorem GC.yb{vs:List Bj}{l:List D}(h:GC c hf ρ vs (l.map V.d)):KZ c hf vs l:=h.ofMap V.d λO O a=>a
abbrev St.VV(x:St c):Bj→V→Prop:=Mine.Internal.VV c x.hf x.ρ
abbrev St.GC(x:St c):List Bj→List V→Prop:=DS (Mine.Internal.VV c x.hf x.ρ)
theorem VV.le{v:Bj}{a:V}(h:x.VV v a)(l:Le x y):y.VV v a:=VV.mono l.nx.kf l.nx.Jg h
theorem GC.le{v:List Bj}{a:List V}(h:x.GC v a)(l:Le x y):y.GC v a:=h.Mi l.nx.kf l.nx.Jg
def Ok(x:St c)(DT:Store)(r:V)(Q:Bj→Bl→Prop):Prop:= ∀val (y:St c),Le x y→y.σ=DT→y.VV val r→Q val y.s
def Did(x:St c)(DT:Store)(Q:Bl→Prop):Prop:= ∀y:St c,Le x y→y.σ=DT→Q y.s
theorem S9{ρ:RH}{n i:Nat}{p:Br×Br}(e:(ρ.take n)[i]?=some p):ρ[i]?=some p:=by
 rw [Ab] at e
 by_cases h:i<n
 ·rw [if_pos h] at e;exact e
 ·rw [if_neg h] at e;exact DC e
theorem gK{n i:Nat}{p:Br×Br}(e:(ρ.take n)[i]?=some p):i<n:=by
 rw [Ab] at e
 by_cases h:i<n
 ·exact h
 ·rw [if_neg h] at e;exact DC e
theorem VV.up{n:Nat}{v:Bj}{a:V}(h:Mine.Internal.VV c hf (ρ.take n) v a):Mine.Internal.VV c hf ρ v a:=h.mono (λO O e=>e) λO O=>S9
theorem DS.up{n:Nat}{v:List Bj}{a:List V}(h:Mine.Internal.GC c hf (ρ.take n) v a):Mine.Internal.GC c hf ρ v a:=h.imp λO O=>VV.up
end
end
end
section
section
mutual open A
variable{c:Cx}{hf Fg:HF}{ρ G8:RH}{σ:Store}{h h':Bz}{x y:St c}
def Vo(hf:HF)(a:Br)(o:Obj):HF:=λb=>if b=a then some o else hf b
theorem GI(hf:HF)(a:Br)(o:Obj):Vo hf a o a=some o:=if_pos rfl
theorem N7(hf:HF){a b:Br}(o:Obj)(n:b≠a):Vo hf a o b=hf b:=if_neg n
theorem Hv{a:Br}{o:Obj}(n:hf a=none): ∀b o',hf b=some o'→Vo hf a o b=some o':=λb o' e=>
 (N7 hf o λq=>DC (n.symm.trans (q▸e))).trans e
theorem JE{a b:Br}{o o':Obj}{P:Prop}(e:Vo hf a o b=some o')(h1:b=a→o=o'→P)(h2:b≠a→hf b=some o'→P):P:=by
 by_cases q:b=a
 ·exact h1 q (η ((GI hf a o).symm.trans (q▸e)))
 ·exact h2 q ((N7 hf o q).symm.trans e)
theorem Ge.mono{p:Br×Br}(kf: ∀b o,hf b=some o→Fg b=some o)(kr: ∀(i:Nat) q,ρ[i]?=some q→G8[i]?=some q){k:Dh}
  (l:I1 k=true→Fg p.2=none∧ ∀o,h.get? p.2=some o→h'.get? p.2=some o) (a:Ge c hf ρ h p k):Ge c Fg G8 h' p k:=by
 cases k with
 |lv hd l'=>exact Kg a λO o vs b d e=>(FK ((l rfl).1) o vs ((l rfl).2 _ b) (d.mono kf) (e.Mi kf kr))
 |fz=>exact DV.mono kf a
theorem Ge.GM{p:Br×Br}{k:Dh}(l:I1 k=true)(a:Ge c hf ρ h p k):hf p.2=none:=by
 cases k with
 |lv=>exact a.1
 |fz=>exact ζ l
theorem Ge.Ik{p:Br×Br}{k:Dh}(l:I1 k=true)(a:Ge c hf ρ h p k): ∃o,h.get? p.2=some o:=by
 cases k with
 |lv=>exact o8 a λO o O e O=>(EG o e)
 |fz=>exact ζ l
theorem FG{α:Type}{l:List α}{i:Nat}{a:α}(e:l[i]?=some a):i<l.length:=(AR.mp e).1
theorem Dc(h:Bz):h.get? h.objs.size=none:=by
 cases z:h.get? h.objs.size with
 |none=>rfl
 |some o=>exact absurd (Ad z) (Nat.lt_irrefl _)
theorem H7(k: ∀b o,h.get? b=some o→h'.get? b=some o){a:Br}(ha:h'.get? a=none):h.get? a=none:=by
 cases q:h.get? a with
 |none=>rfl
 |some o=>exact DC (ha.symm.trans (k _ _ q))
theorem F5.fresh(R:F5 c hf ρ σ h){I:Br}(hI:h.get? I=none):hf I=none∧ ∀p∈ρ,p.2≠I:=by
 refine ⟨?_,λp hp z=> ?_⟩
 ·cases q:hf I with
  |none=>rfl
  |some o=>exact DC (hI.symm.trans (R.keep _ _ q))
 ·refine D3 (BS.mp hp) λi hi=> ?_
  refine D3 (R.here i p hi) λo ho=> ?_;exact DC (hI.symm.trans (z▸ho))
theorem F5.Ei(R:F5 c hf ρ σ h)(k: ∀b o,h.get? b=some o→(hf b=some o∨ ∃p∈ρ,p.2=b)→h'.get? b=some o):F5 c hf ρ σ h':=
 ⟨R.base,λb o e=>k b o (R.keep b o e) (.inl e),R.len,λi z p e q=>(R.cells i z p e q).mono (λO O x=>x) (λO O x=>x) λl=>⟨(R.cells i z p e q).GM l,λo x=>k _ o x (.inr (DM p (AC q) rfl))⟩,R.apart,λi p e=>D3 (R.here i p e) λo ho=>(EG o (k _ o ho (.inr (DM p (AC e) rfl))))⟩
theorem F5.freeze(R:F5 c hf ρ σ h){DT:Store}{a:Br}{o:Obj}(ha:hf a=none)(k: ∀b o,h.get? b=some o→h'.get? b=some o)(ho:h'.get? a=some o)(l:DT.length=σ.length)
  (old: ∀(i:Nat) z p,DT[i]?=some z→ρ[i]?=some p→(σ[i]?=some z∧(I1 z=true→p.2≠a))∨(I1 z=false∧Ge c (Vo hf a o) (ρ.take i) h' p z)):F5 c (Vo hf a o) ρ DT h':=by
 have le:=Hv (o:=o) ha;refine ⟨λb o' e=>le b o' (R.base b o' e),λb o' e=>JE e (λq z=>q▸z▸ho) λO z=>k _ _ (R.keep _ _ z),R.len.trans l.symm,λi z p e q=> ?_,λi j z z' p p' e e' l1 l2 q q' w=> ?_,λi p e=>D3 (R.here i p e) λo' ho=>(EG o' (k _ _ ho))⟩
 ·rcases old i z p e q with ⟨e1,e2⟩|⟨_,e1⟩
  ·exact (R.cells i z p e1 q).mono le (λO O x=>x) λl=>⟨(N7 hf o (e2 l)).trans ((R.cells i z p e1 q).GM l),λo' x=>k _ _ x⟩
  ·exact e1
 ·rcases old i z p e q with ⟨e1,_⟩|⟨e1,_⟩
  ·rcases old j z' p' e' q' with ⟨e2,_⟩|⟨e2,_⟩
   ·exact R.apart i j z z' p p' e1 e2 l1 l2 q q' w
   ·exact ζ (e2.symm.trans l2)
  ·exact ζ (e1.symm.trans l1)
theorem F5.new(R:F5 c hf ρ σ h)(k: ∀b o,h.get? b=some o→h'.get? b=some o){a:Br}{o:Obj}(ha:h.get? a=none)(ho:h'.get? a=some o):F5 c (Vo hf a o) ρ σ h':=
 R.freeze (R.fresh ha).1 k ho rfl λi z p e q=> .inl ⟨e,λO=>(R.fresh ha).2 p (AC q)⟩
theorem WB(R:F5 c hf ρ σ h)(k: ∀b o,h.get? b=some o→h'.get? b=some o){a:Br}{o:Obj}(ha:h.get? a=none):Os hf ρ h (Vo hf a o) ρ h':=
 ⟨Hv (R.fresh ha).1,λO O x=>x,λb o' e O=>k _ _ e,λb o' e=>JE e (λq O=> .inr (.inr (q▸ha))) λO z=> .inl z,λp hp=> .inl (DM p hp rfl)⟩
theorem E5{α:Type}{l:List α}{a b:α}{i:Nat}{P:Prop}(e:(l++ [a])[i]?=some b)(h1:l[i]?=some b→P)(h2:i=l.length→a=b→P):P:=by
 by_cases q:i<l.length
 ·exact h1 (by rw [Ο q] at e;exact e)
 ·have lt:=FG e
  rw [ε,List.length_singleton] at lt;have z:i=l.length:=Aq (Nat.le_of_lt_succ lt) (At q);refine h2 z ?_;rw [AG (At q),z,Ai] at e;exact η e
theorem F5.cell(R:F5 c hf ρ σ h){p:Br×Br}{k:Dh}(hc:Ge c hf ρ h p k)(hl:I1 k=true)(new: ∀q∈ρ,q.2≠p.2):F5 c hf (ρ++ [p]) (σ++ [k]) h:=by
 refine ⟨R.base,R.keep,by exact C9 ε<|C9 ε<|C9 R.len rfl,λi z q e1 e2=> ?_,λi j z z' q q' e1 e2 l1 l2 f1 f2 w=> ?_,λi q e=>E5 e (R.here i q) λO w=>w▸hc.Ik hl⟩
 ·refine E5 e1 (λe1=> ?_) λw1 w2=> ?_
  ·have lt:i<ρ.length:=R.len▸FG e1
   rw [Ο lt] at e2;refine C9 (Ah (AY lt)) ?_;exact R.cells i z q e1 e2
  ·subst w1 w2
   rw [←R.len,AG (Ι _),Ai] at e2;refine Dr R.len<|C9 (Ah (Ι _))<|C9 AS<|Dr (η e2) ?_
   exact hc
 ·refine E5 f1 (λf1=> ?_) λw1 w2=> ?_
  ·refine E5 f2 (λf2=> ?_) λw3 w4=>absurd (w.trans (w4▸rfl)) (new q (AC f1))
   rw [Ο (R.len▸FG f1)] at e1;rw [Ο (R.len▸FG f2)] at e2;exact R.apart i j z z' q q' e1 e2 l1 l2 f1 f2 w
  ·refine E5 f2 (λf2=>absurd (w.symm.trans (w2▸rfl)) (new q' (AC f2))) λw3 O=>w1.trans w3.symm
theorem NR{α:Type}{l:List α}{a b:α}{i j:Nat}{P:Prop}(e:(l.set i a)[j]?=some b)(h1:j≠i→l[j]?=some b→P)(h2:j=i→a=b→P):P:=by
 by_cases q:j=i
 ·subst q
  have lt:=FG e;rw [Φ] at lt;rw [BQ lt] at e;exact h2 rfl (η e)
 ·exact h1 q (by rw [Ao (Ne.symm q)] at e;exact e)
theorem F5.turn(R:F5 c hf ρ σ h){i:Nat}{k k':Dh}{p:Br×Br}(e:σ[i]?=some k)(hl:I1 k=true)(q:ρ[i]?=some p)(hs: ∀b o,b≠p.2→(hf b=some o∨ ∃q∈ρ,q.2=b)→h.get? b=some o→h'.get? b=some o)
  (xk:I1 k'=true) (hc:Ge c hf (ρ.take i) h' p k'):F5 c hf ρ (σ.set i k') h':=by
 have hn:hf p.2=none:=(R.cells i k p e q).GM hl;have back: ∀(j:Nat) z,(σ.set i k')[j]?=some z→I1 z=true→ ∃ud,σ[j]?=some ud∧I1 ud=true:=λj z e1 l1=>NR e1 (λO e1=>(DM z e1 l1)) λw O=>w▸(DM k e hl);refine ⟨R.base,λb o x=>hs b o (λz=>DC (hn.symm.trans (z▸x))) (.inl x) (R.keep b o x),R.len.trans (Φ ..).symm,λj z p' e1 q1=> ?_,λj j' z z' p1 p2 e1 e2 l1 l2 q1 q2 w=> ?_,λj p1 e1=> ?_⟩
 ·refine NR e1 (λne e1=> ?_) λw1 w2=> ?_
  ·exact (R.cells j z p' e1 q1).mono (λO O x=>x) (λO O x=>x) λl=>⟨(R.cells j z p' e1 q1).GM l,λo x=>hs _ o (λw=>ne (R.apart j i z k p' p e1 e l hl q1 q w)) (.inr (DM p' (AC q1) rfl)) x⟩
  ·subst w1 w2
   exact C9 (η (q1.symm.trans q)) hc
 ·refine DQ (back j z e1 l1) λd1 f1 g1=> ?_
  refine DQ (back j' z' e2 l2) λd2 f2 g2=> ?_;exact R.apart j j' d1 d2 p1 p2 f1 f2 g1 g2 q1 q2 w
 ·by_cases z:p1.2=p.2
  ·exact z▸hc.Ik xk
  ·exact D3 (R.here j p1 e1) λo ho=>(EG o (hs _ _ z (.inr (DM p1 (AC e1) rfl)) ho))
theorem cT{i:Nat}{p:Br×Br}(q:ρ[i]?=some p)(hs:Bz.SameBut p.2 h h'):Os hf ρ h hf ρ h':=
 ⟨λO O x=>x,λO O x=>x,λb o e n=>(hs.2 b λz=>n p (AC q) z.symm).trans e,λO O e=> .inl e,λp hp=> .inl (DM p hp rfl)⟩
theorem F5.trunc(R:F5 c hf ρ σ h)(n:Nat):F5 c hf (ρ.take n) (σ.take n) h:=by
 have gt: ∀{α:Type} {l:List α} {i:Nat} {x:α},(l.take n)[i]?=some x→i<n∧l[i]?=some x:=λ{α l i x} e=>by
  rw [Ab] at e
  by_cases h:i<n
  ·rw [if_pos h] at e;exact ⟨h,e⟩
  ·rw [if_neg h] at e;exact DC e
 refine ⟨R.base,R.keep,by (exact C9 List.length_take<|C9 List.length_take<|C9 R.len rfl),λi k p e q=> ?_,λi j k k' p p' e e' l l' q q' z=>R.apart i j k k' p p' (gt e).2 (gt e').2 l l' (gt q).2 (gt q').2 z,λi p e=>R.here i p (gt e).2⟩;refine C9 List.take_take<|C9 (Nat.min_eq_left (AY (gt e).1)) ?_
 exact R.cells i k p (gt e).2 (gt q).2
theorem VV.down{n:Nat}{v:Bj}{a:V}(h:VV c hf ρ v a)(e:FP n a=false):VV c hf (ρ.take n) v a:=by
 cases a with
 |d=>exact h
 |cell i=>exact DQ h λp a b=>(DM p (by exact C9 (Ab)<|C9 (if_pos (BV λz=>ζ ((ο z).symm.trans e))) a) b)
theorem Ok.here{v:Bj}{r:V}{Q:Bj→Bl→Prop}(k:Ok x x.σ r Q)(hv:x.VV v r)(t:Nat):Q v {x.s with toks:=t}:=k v ⟨x.hf,x.ρ,x.σ,{x.s with toks:=t},x.R⟩ ⟨.refl,rfl,rfl,rfl⟩ rfl hv
theorem Ok.Mc{v:Bj}{r:V}{Q:Bj→Bl→Prop}(k:Ok x x.σ r Q)(hv:x.VV v r):Q v x.s:=k v x (.refl x) rfl hv
theorem Ok.keeps{v:Bj}{r:V}{Q:Bj→Bl→Prop}(k:Ok x x.σ r Q){h':Bz}(kp: ∀b o,x.s.heap.get? b=some o→h'.get? b=some o)(hv:x.VV v r)(t:Nat):Q v {x.s with heap:=h',toks:=t}:=
 k v ⟨x.hf,x.ρ,x.σ,{x.s with heap:=h',toks:=t},x.R.Ei λb o e O=>kp b o e⟩ ⟨F7 _ _ kp,rfl,rfl,rfl⟩ rfl hv
theorem Ok.new{r:D}{Q:Bj→Bl→Prop}(k:Ok x x.σ (.d r) Q){h':Bz}(kp: ∀b o,x.s.heap.get? b=some o→h'.get? b=some o){a:Br}{o:Obj}(ha:x.s.heap.get? a=none)(ho:h'.get? a=some o){v:Bj}(hv:DV c (Vo x.hf a o) v r)(t:Nat):Q v {x.s with heap:=h',toks:=t}:=
 k v ⟨_,x.ρ,x.σ,{x.s with heap:=h',toks:=t},x.R.new kp ha ho⟩ ⟨WB x.R kp ha,rfl,rfl,rfl⟩ rfl hv
theorem Ok.after{DT:Store}{r:V}{Q:Bj→Bl→Prop}(k:Ok x DT r Q)(l:Le x y):Ok y DT r Q:=λval z m e hv=>k val z (l.trans m) e hv
theorem Did.after{DT:Store}{Q:Bl→Prop}(k:Did x DT Q)(l:Le x y):Did y DT Q:=λz m e=>k z (l.trans m) e
theorem Did.turn{DT:Store}{Q:Bl→Prop}{i:Nat}{k k':Dh}{p:Br×Br}(d:Did x DT Q)(es:x.σ.set i k'=DT)(e:x.σ[i]?=some k)(hl:I1 k=true)(q:x.ρ[i]?=some p){h':Bz}(hs:Bz.SameBut p.2 x.s.heap h')(xk:I1 k'=true)(hc:Ge c x.hf (x.ρ.take i) h' p k')(t:Nat):Q {x.s with heap:=h',toks:=t}:=
 d ⟨x.hf,x.ρ,x.σ.set i k',{x.s with heap:=h',toks:=t},x.R.turn e hl q (λb o n O e=>(hs.2 b n).trans e) xk hc⟩ ⟨cT q hs,rfl,rfl,rfl⟩ es
inductive oo(c:Cx)(hf:HF)(v:Bj)(h:Hd)(l:List D):Prop
 |mk (p:Br×Br) (o:Obj) (vs:List Bj) (w:v= .ref p.1) (g:hf p.2=some o) (sh:ZB c hf p o h vs) (hv:KZ c hf vs l)
theorem DV.shape{v:Bj}{h:Hd}{l:List D}(a:DV c hf v (.nd h l)):oo c hf v h l:=by
 cases a with
 |nd a b d=>exact ⟨_,_,_,rfl,a,b,d⟩
inductive aO(x:St c)(v:Bj)(h:Hd)(l:List V):Prop
 |mk (p:Br×Br) (o:Obj) (vs:List Bj) (w:v= .ref p.1) (g:x.s.heap.get? p.2=some o) (sh:ZB c x.hf p o h vs) (hv:x.GC vs l)
theorem Gk{v:Bj}{a:V}{q:Hd×List V}(hv:x.VV v a)(e:G4 x.σ a=some q):aO x v q.1 q.2:=by
 have fz: ∀{d:D} {v:Bj},DV c x.hf v d→aM d=some q→aO x v q.1 q.2:=by
  intro d v hv e;cases d with
  |nd h l=>
   obtain ⟨p,o,vs,a,b,d,f⟩:=hv.shape;refine De e ⟨p,o,vs,a,x.R.keep _ _ b,d,f.vF⟩
  |_=>exact DC e
 cases a with
 |d d=>exact fz hv e
 |cell i=>
  refine DQ hv λp hp w=> ?_;clear hv;subst w;refine DA e λk hk e=> ?_;have ca:=x.R.cells i k p hk hp;cases k with
  |lv h l=>exact De e (Kg ca λO o vs a b d=>⟨p,o,vs,rfl,a,b,d.up⟩)
  |fz d=>exact fz ca e
theorem Vy{h:Hd}(e:MQ h=true):h= .tup:=by cases h<;>first|rfl|exact ζ e
theorem cy{h:Hd}(e:Pq h=true):h= .lst:=by cases h<;>first|rfl|exact ζ e
theorem Nt{h:Hd}{r:Nat×List DO}(e:Ws h=some r):h= .Dg r.1 r.2:=by
 cases h with
 |Dg=>exact De e rfl
 |_=>exact DC e
theorem Mb{h:Hd}{r:Nat}(e:OC h=some r):h= .inst r:=by
 cases h with
 |inst=>exact De e rfl
 |_=>exact DC e
inductive UQ(x:St c)(f:List Bj→Nat→Obj)(v:Bj)(l:List V):Prop
 |mk (q:Br) (vs:List Bj) (n:Nat) (w:v= .ref q) (g:x.s.heap.get? q=some (f vs n)) (hb:vs.length≤big) (hv:x.GC vs l)
theorem UN{v:Bj}{a:V}{l:List V}(hv:x.VV v a)(e:JB x.σ a=some l):UQ x E0 v l:=by
 refine DA e λr h1 e=>DY e λh2 e=> ?_;obtain ⟨p,o,vs,a,b,d,f⟩:=Gk hv h1;rw [cy h2] at d;obtain ⟨d1,d2,n,d3⟩:=d;exact De e ⟨p.1,vs,n,a,d1▸d3▸b,d2,f⟩
theorem nY{v:Bj}{a:V}{l:List V}(hv:x.VV v a)(e:Ru x.σ a=some l):UQ x GZ v l:=by
 refine DA e λr h1 e=>DY e λh2 e=> ?_;obtain ⟨p,o,vs,a,b,d,f⟩:=Gk hv h1;rw [Vy h2] at d;obtain ⟨d1,d2,n,d3⟩:=d;exact De e ⟨p.1,vs,n,a,d1▸d3▸b,d2,f⟩
inductive aA(x:St c)(v:Bj)(k:Nat)(ks:List DO)(l:List V):Prop
 |mk (q:Br) (o:Obj) (vs:List Bj) (w:v= .ref q) (g:x.s.heap.get? q=some o) (z:(q==By)=false) (ho:EA c x.hf o k ks vs) (hv:x.GC vs l)
theorem LO{v:Bj}{a:V}{r:Nat×List DO×List V}(hv:x.VV v a)(e:GH x.σ a=some r):aA x v r.1 r.2.1 r.2.2:=by
 refine DA e λr h1 e=>DA e λk h2 e=> ?_;obtain ⟨p,o,vs,a,b,d,f⟩:=Gk hv h1;rw [Nt h2] at d;obtain ⟨d1,d2,d3⟩:=d;exact De e ⟨p.1,o,vs,a,d1▸b,d1▸d2,d3,f⟩
inductive lB(x:St c)(v:Bj)(cl:Nat)(l:List V):Prop
 |mk (q d:Br) (o:Obj) (vs:List Bj) (w:v= .ref q) (g1:x.s.heap.get? q=some (CB (c.CL cl) d)) (g2:x.s.heap.get? d=some o) (ho:Iv o (DX cl) vs) (hv:x.GC vs l)
theorem XR{v:Bj}{a:V}{r:Nat×List V}(hv:x.VV v a)(e:Ew x.σ a=some r):lB x v r.1 r.2:=by
 refine DA e λr h1 e=>DA e λk h2 e=> ?_;obtain ⟨p,o,vs,a,b,d,f⟩:=Gk hv h1;rw [Mb h2] at d;exact De e ⟨p.1,p.2,o,vs,a,x.R.keep _ _ d.1,b,d.2,f⟩
inductive l9(x:St c)(v:Bj)(i:Nat)(h:Hd)(l:List V):Prop
 |mk (p:Br×Br) (o:Obj) (vs:List Bj) (w:v= .ref p.1) (hp:x.ρ[i]?=some p) (hk:x.σ[i]?=some (.lv h l)) (g:x.s.heap.get? p.2=some o) (sh:ZB c x.hf p o h vs) (hv:DS (VV c x.hf (x.ρ.take i)) vs l) (hn:x.hf p.2=none)
theorem M7{v:Bj}{a:V}{r:Nat×Hd×List V}(hv:x.VV v a)(e:cellOf x.σ a=some r):l9 x v r.1 r.2.1 r.2.2:=by
 cases a with
 |d=>exact DC e
 |cell i=>
  refine DQ hv λp hp w=> ?_;clear hv;refine DA e λk hk e=>DA e λq hq e=> ?_;have ca:=x.R.cells i k p hk hp;cases k with
  |fz=>exact DC hq
  |lv h l=>
   refine Kg ca λb1 o vs b2 b3 b4=> ?_;clear ca;exact De e (De hq ⟨p,o,vs,w,hp,hk,b2,b3,b4,b1⟩)
end
end
section
mutual open A
variable{c:Cx}
def kY(c:Cx)(f:V→Store→Option (D×Store)):Prop:= ∀v σ d DT,f v σ=some (d,DT)→ ∀n hf ρ h val,F5 c hf ρ σ h→VV c hf (ρ.take n) val v→
 ∃Fg,F5 c Fg ρ DT h∧Os hf ρ h Fg ρ h∧DV c Fg val d∧ ∀j:Nat,n≤j→DT[j]?=σ[j]?
theorem XP{f:V→Store→Option (D×Store)}(F:kY c f)(l:List V): ∀σ ds DT,HS f l σ=some (ds,DT)→ ∀n hf ρ h vs,F5 c hf ρ σ h→DS (VV c hf (ρ.take n)) vs l→
  ∃Fg,F5 c Fg ρ DT h∧Os hf ρ h Fg ρ h∧KZ c Fg vs ds∧ ∀j:Nat,n≤j→DT[j]?=σ[j]?:=by
 induction l with
 |nil=>
  intro σ ds DT e n hf ρ h vs R a;refine NE (show some (_,_)=some (ds,DT) from e) ?_;cases a;exact (KV hf R .refl .nil (λO O=>rfl))
 |cons v l ih=>
  intro σ ds DT e n hf ρ h vs R a;refine DP e λy DD KX e=>DP e λys DK VI e=> ?_;cases a with
  |cons a b=>
   refine KU (F v σ y DD KX n hf ρ h _ R a) λG3 M5 n₁ zI k₁=> ?_;refine KU (ih DD ys DK VI n G3 ρ h _ M5 (b.Mi n₁.kf λO O z=>z)) λLS KR aC pV k₂=> ?_;refine NE (show some (_,_)=some (ds,DT) from e) ?_;exact (KV LS KR (n₁.trans aC) (.cons (zI.mono aC.kf) pV) (λj hj=>(k₂ j hj).trans (k₁ j hj)))
theorem av(k:Nat):kY c (Hz k):=by
 induction k with
 |zero=>
  intro v σ d DT e n hf ρ h val R a;cases v with
  |d y=>refine NE (show some (_,_)=some (d,DT) from e) ?_;exact (KV hf R .refl a (λO O=>rfl))
  |cell i=>exact DC e
 |succ k ih=>
  intro v σ d DT e n hf ρ h val R a;cases v with
  |d y=>refine NE (show some (_,_)=some (d,DT) from e) ?_;exact (KV hf R .refl a (λO O=>rfl))
  |cell i=>
   refine DQ a λp hp w=> ?_;clear a;subst w;refine DA e λk' hk e=> ?_;have WD:=gK hp;have hp:=S9 hp;have ca:=R.cells i k' p hk hp;cases k' with
   |fz y=>refine NE (show some (_,_)=some (d,DT) from e) ?_;exact (KV hf R .refl ca (λO O=>rfl))
   |lv hd l=>
    refine DP e λds DK VI e=> ?_;refine Kg ca λhn o vs ho hs hv=> ?_;clear ca;refine KU (XP ih l σ ds DK VI i hf ρ h vs R hv) λLS KR aC pV k₂=> ?_;have js:=(k₂ i (Ι _)).trans hk;have TP:=(KR.cells i _ p js hp).GM rfl;have le:=Hv (o:=o) TP;have dd:DV c (Vo LS p.2 o) (.ref p.1) (.nd hd ds):= .nd (GI _ _ _) ((hs.mono aC.kf).mono le) (pV.Pb le);refine NE (show some (_,_)=some (d,DT) from e) ?_;refine (KV _ (KR.freeze TP (λO O e=>e) ho (Φ ..) λj z q e1 e2=>NR e1 (λne e1=> .inl ⟨e1,λl w=>ne (KR.apart j i z _ q p e1 js l rfl e2 hp w)⟩) λw1 w2=> .inr ?_) (aC.trans ⟨le,λO O e=>e,λO O e O=>e,λb o' e=>JE e (λw O=> .inr (.inl (DM p (AC hp) w.symm))) λO e=> .inl e,λp hp=> .inl (DM p hp rfl)⟩) dd (λj hj=> ?_))
    ·subst w1 w2
     exact C9 (η (e2.symm.trans hp))<|⟨rfl,dd⟩
    ·refine C9 (Ao (AW (AQ WD hj))) ?_
     exact k₂ j (AY (AQ WD hj))
theorem IC{x:St c}{k:Nat}{v:V}{DT:Store}{d:D}(e:Hz k v x.σ=some (d,DT)){val:Bj}(a:x.VV val v){P:Prop}(go: ∀Fg (R:F5 c Fg x.ρ DT x.s.heap),Le x ⟨Fg,x.ρ,DT,x.s,R⟩→DV c Fg val d→P):P:=
 KU (av k v x.σ d DT e x.ρ.length x.hf x.ρ x.s.heap val x.R (by exact C9 AS a)) λFg a1 a2 a3 O=>
 go Fg a1 ⟨a2, .refl _⟩ a3
theorem YF{x:St c}{k:Nat}{v:List V}{DT:Store}{d:List D}(e:HS (Hz k) v x.σ=some (d,DT)){val:List Bj}(a:x.GC val v){P:Prop}(go: ∀Fg (R:F5 c Fg x.ρ DT x.s.heap),Le x ⟨Fg,x.ρ,DT,x.s,R⟩→KZ c Fg val d→P):P:=
 KU (XP (av k) v x.σ d DT e x.ρ.length x.hf x.ρ x.s.heap val x.R (by exact C9 AS a)) λFg a1 a2 a3 O=>
 go Fg a1 ⟨a2, .refl _⟩ a3
end
end
end
section
mutual open A
theorem nb{a b:Nat}:μ a b=true→a=b:=AO
theorem nbf{a b:Nat}(h:μ a b=false):a≠b:=Nat.ne_of_beq_eq_false h
theorem kS{a b:Nat}(h:a≠b):μ a b=false:=by
 cases q:μ a b with
 |false=>rfl
 |true=>exact absurd (nb q) h
theorem Yp{a:List Nat}: ∀{b:List Nat},N3 a b=true→a=b:=by
 induction a with
 |nil=>intro b h;cases b with
  |nil=>rfl
  |cons=>exact ζ h
 |cons x a ih=>intro b h;cases b with
  |nil=>exact ζ h
  |cons y b=>exact Dl (band h) λh1 h2=>nb h1▸ih h2▸rfl
theorem JJ(a:List Nat):N3 a a=true:=by
 induction a with
 |nil=>rfl
 |cons x a ih=>show (μ x x&&N3 a a)=true;exact C9 ih<|C9 (AH _) rfl
theorem EH{a b:Str}(h:EQ a b=true):a=b:=by
 have:=Yp h
 cases a;cases b;exact congrArg Str.mk (Array.toList_inj.mp this)
theorem Oe(a:Str):EQ a a=true:=JJ _
theorem ER{a b:Int}(h:Dj a b=true):a=b:=by
 cases a<;>cases b<;>first|exact ζ h|exact congrArg _ (nb h)
theorem GY(a:Int):Dj a a=true:=by cases a<;>exact AH _
theorem XB(a b:Int):(a==b)=Dj a b:=by
 cases h:Dj a b with
 |true=>exact C9 (ER h)<|beq_self_eq_true _
 |false=>exact beq_eq_false_iff_ne.mpr λe=>by subst e;exact ζ (h.symm.trans (GY a))
theorem tN{a b:DO}(h:DO.beq a b=true):a=b:=by
 cases a with
 |i=>cases b<;>first|exact ζ h|exact congrArg DO.i (ER h)
 |s=>cases b<;>first|exact ζ h|exact congrArg DO.s (nb h)
 |t=>cases b<;>first|exact ζ h|exact congrArg DO.t (EH h)
 |p=>cases b<;>first|exact ζ h|exact (Dl (band h) λh1 h2=>ER h1▸ER h2▸rfl)
theorem Fi(a:DO):DO.beq a a=true:=by
 cases a with
 |i=>exact GY _
 |s=>exact AH _
 |t=>exact Oe _
 |p a b=>show (Dj a a&&Dj b b)=true;exact C9 (GY _)<|C9 (GY _) rfl
theorem Pt{a b:DO}(h:a≠b):DO.beq a b=false:=by
 cases q:DO.beq a b with
 |false=>rfl
 |true=>exact absurd (tN q) h
def Wi:List Nat→List Nat→Bool
 |_, []=>false
 | [],_::_=>true
 |a::l,b::r=>Μ a b||(μ a b&&Wi l r)
def RB:List Str→Bool
 | []=>true
 |a::r=>(match r with| []=>true|b::_=>Wi a.cps.toList b.cps.toList)&&RB r
theorem Ds{m n:Nat}:Μ m n=true↔m<n:=⟨λh=>φ h,λh=>ο h⟩
theorem Va(a:List Nat):Wi a a=false:=by
 induction a with
 |nil=>rfl
 |cons x a ih=>
  show (Μ x x||(μ x x&&Wi a a))=false;refine C9 ih<|C9 (Bool.and_false _)<|C9 (Bool.or_false _) ?_
  cases h:Μ x x with
  |false=>rfl
  |true=>exact absurd (Ds.mp h) (Nat.lt_irrefl _)
theorem SK{x y:Nat}{a b:List Nat}(h:Wi (x::a) (y::b)=true):x<y∨(x=y∧Wi a b=true):=by
 rcases Bool.or_eq_true _ _▸h with h|h
 ·exact .inl (Ds.mp h)
 ·exact .inr (Dl (band h) λh1 h2=>⟨nb h1,h2⟩)
theorem X9{a:List Nat}: ∀{b d},Wi a b=true→Wi b d=true→Wi a d=true:=by
 induction a with
 |nil=>intro b d h k;cases d with
  |nil=>cases b<;>exact ζ k
  |cons=>rfl
 |cons x a ih=>intro b d h k;cases b with
  |nil=>exact ζ h
  |cons y b=>cases d with
   |nil=>exact ζ k
   |cons z d=>
    show (Μ x z||(μ x z&&Wi a d))=true;rcases SK h with h|⟨h,h'⟩<;>rcases SK k with k|⟨k,k'⟩
    ·exact C9 (Ds.mpr (BR h k)) rfl
    ·exact C9 (Ds.mpr (k▸h)) rfl
    ·exact C9 (Ds.mpr (h▸k)) rfl
    ·(exact C9 h<|C9 k<|C9 (AH _)<|C9 (ih h' k')<|C9 (Bool.true_and _)<|C9 (Be _) rfl)
theorem M2{l:List Str}(h:RB l=true):l.Pairwise λa b=>Wi a.cps.toList b.cps.toList=true:=by
 induction l with
 |nil=>exact .nil
 |cons a r ih=>
  refine Dl (band h) λh1 h2=> ?_;refine .cons (λd hd=> ?_) (ih h2);cases r with
  |nil=>cases hd
  |cons b r=>
   rcases ν.mp hd with q|q
   ·exact q▸h1
   ·exact X9 h1 ((List.pairwise_cons.mp (ih h2)).1 d q)
theorem T8:RB Fw=true:=by kernel_rfl
theorem R6{n:Nat}(h:n<Fw.length):nm n=Fw[n]:=by
 unfold nm;exact C9 (A9)<|C9 (Τ h) rfl
theorem jZ{i j:Nat}(hj:j<Fw.length)(h:i<j):Wi (nm i).cps.toList (nm j).cps.toList=true:=by
 refine C9 (R6 hj)<|C9 (R6 (BR h hj)) ?_
 exact List.pairwise_iff_getElem.mp (M2 T8) i j _ _ h
theorem KL{i j:Nat}(hi:i<Fw.length)(hj:j<Fw.length)(h:nm i=nm j):i=j:=by
 have no: ∀{i j:Nat},j<Fw.length→nm i=nm j→ ¬i<j:=λhj h q=>ζ ((Va _).symm.trans (h▸jZ hj q));exact Aq (At (no hi h.symm)) (At (no hj h))
theorem li{a b:Nat}(ha:a<Fw.length)(hb:b<Fw.length):(nm a==nm b)=μ a b:=by
 cases h:μ a b with
 |true=>exact C9 (nb h)<|beq_self_eq_true _
 |false=>exact beq_eq_false_iff_ne.mpr λe=>nbf h (KL ha hb e)
def aY:Bool:=(BW 9).all λc=>(DX c).all λa=>Μ a Fw.length
theorem Po{α:Type}{as:List Nat}{a:Nat}{u:α}: ∀{vs:List α},Du as vs a=some u→a∈as:=by
 induction as with
 |nil=>intro vs e;cases vs<;>exact DC e
 |cons x as ih=>intro vs e;cases vs with
  |nil=>exact DC e
  |cons v vs=>
   have e:cond (μ x a) (some v) (Du as vs a)=some u:=e;cases h:μ x a with
   |true=>exact nb h▸ .head _
   |false=>rw [h] at e;exact .tail _ (ih e)
theorem Y7{cl:Nat}(h:(DX cl).isEmpty=false):cl<9:=by
 refine BV λq=> ?_;refine D3 (BN q) λk Ff=> ?_;subst Ff;rw [Am] at h;exact ζ h
theorem GU{cl a:Nat}(h:a∈DX cl):(DX cl).isEmpty=false:=by
 cases q:DX cl with
 |nil=>rw [q] at h;cases h
 |cons=>rfl
theorem PL{cl a:Nat}(h:a∈DX cl):a<Fw.length:=
 have e:aY=true:=by decide+kernel
 Ds.mp (Au.mp (Au.mp e cl (BA.mpr (Y7 (GU h)))) a h)
end
section
mutual open A
variable{c:Cx}{hf:HF}{k:Nat}{o:Obj}{ks:List DO}{vs:List Bj}
theorem Pk.inj{K:Type}[DecidableEq K]{knd:PySem.KeyKind c.prog c.w K}{rl:K→DO→Prop}(p:Pk c k K knd rl){a b:K}{x y:DO}(h1:rl a x)(h2:rl b y):a=b↔x=y:=by
 cases p with
 |i=>subst h1;subst h2;exact ⟨λe=>e▸rfl,DO.i.inj⟩
 |t=>subst h1;subst h2;exact ⟨λe=>e▸rfl,DO.t.inj⟩
 |s=>
  refine ES h1 λm hm Gx iu=> ?_;subst Gx;subst iu;clear h1;refine ES h2 λn hn Gx iu=> ?_;subst Gx;subst iu;clear h2;exact ⟨λe=>KL hm hn e▸rfl,λe=>DO.s.inj e▸rfl⟩
theorem Pk.val{K:Type}[DecidableEq K]{knd:PySem.KeyKind c.prog c.w K}{rl:K→DO→Prop}(p:Pk c k K knd rl){a:K}{x:DO}(h1:rl a x){v:Bj}(hv:knd.is a v=true):DV c hf v x.d:=by
 cases p with
 |i=>subst h1;exact D3 (Bj.isInt_shape hv) λtk e=>by subst e;exact .int _ tk
 |t=>subst h1;exact D3 (Bj.isStrOf_shape hv) λtk e=>by subst e;exact .str _ tk
 |s=>exact ES h1 λn hn e1 e2=>D3 (Bj.isStrOf_shape hv) λtk e=>by subst e2 e1 e;exact .sym n tk hn
theorem rV{x:DO}(e:x.kind=0): ∃n,x= .i n:=by cases x with|i n=>exact (EG n rfl)|_=>exact Α e
theorem tT{x:DO}(e:x.kind=1): ∃n,x= .s n:=by cases x with|s n=>exact (EG n rfl)|i=>exact Α e|_=>exact Α (AK.inj e)
theorem uU{x:DO}(e:x.kind=2): ∃a b,x= .p a b:=by cases x with|p a b=>exact (TM a b rfl)|i=>exact Α e|s=>exact Α (AK.inj e)|t=>exact Α (AK.inj (AK.inj e))
theorem vf{x:DO}(e:x.kind=3): ∃n,x= .t n:=by cases x with|t n=>exact (EG n rfl)|i=>exact Α e|s=>exact Α (AK.inj e)|p=>exact Α (AK.inj (AK.inj e))
theorem UG{v:Bj}{n:Int}(h:DV c hf v (.int n)): ∃t,v= .int n t:=by cases h with|int _ t=>exact (EG t rfl)
theorem lV{v:Bj}{n:Str}(h:DV c hf v (.str n)): ∃t,v= .str n t:=by cases h with|str _ t=>exact (EG t rfl)
theorem mE{v:Bj}{n:Nat}(h:DV c hf v (.sym n)):n<Fw.length∧ ∃t,v= .str (nm n) t:=by cases h with|sym _ t w=>exact (iI w t rfl)
theorem m6{n:Int}{t:Tok}:(B9 c.prog c.w).is n (.int n t)=true:=by simp [B9,Bj.isInt]
theorem ao{n:Str}{t:Tok}:(PySem.strKind c.prog c.w).is n (.str n t)=true:=by simp [PySem.strKind,Bj.isStrOf]
theorem Pk.of{K:Type}[DecidableEq K]{knd:PySem.KeyKind c.prog c.w K}{rl:K→DO→Prop}(p:Pk c k K knd rl){v:Bj}{x:DO}(hv:DV c hf v x.d)(e:x.kind=k): ∃a,rl a x∧knd.is a v=true:=by
 cases p with
 |i=>
  refine D3 (rV e) λn w=> ?_;rw [w] at hv;refine D3 (UG hv) λtk w2=> ?_;exact C9 w2<|(DM n w m6)
 |t=>
  refine D3 (vf e) λn w=> ?_;rw [w] at hv;refine D3 (lV hv) λtk w2=> ?_;exact C9 w2<|(DM n w ao)
 |s=>
  refine D3 (tT e) λn w=> ?_;rw [w] at hv;refine t6 (mE hv) λhn tk w2=> ?_;exact C9 w2<|(DM (nm n) (ED n hn rfl w) ao)
def O3{κ α:Type}[DecidableEq κ]:List (κ×α)→κ→α→List (κ×α)
 | [],k,v=> [(k,v)]
 |p::r,k,v=>if p.1=k then (p.1,v)::r else p::O3 r k v
end
section
mutual open A
variable{κ α:Type}[DecidableEq κ]
theorem H9{p:κ×α}{r:List (κ×α)}{k:κ}{v:α}(h:p.1=k):O3 (p::r) k v=(p.1,v)::r:=if_pos h
theorem HR{p:κ×α}{r:List (κ×α)}{k:κ}{v:α}(h:p.1≠k):O3 (p::r) k v=p::O3 r k v:=if_neg h
theorem cM{k:κ}{v:α}{l:List (κ×α)}{p:κ×α}(h:p∈O3 l k v):p=(k,v)∨p∈l:=by
 induction l with
 |nil=>exact .inl (ς.mp h)
 |cons q r ih=>
  by_cases e:q.1=k
  ·rw [H9 e] at h
   rcases ν.mp h with h|h
   ·exact .inl (e▸h)
   ·exact .inr (.tail _ h)
  ·rw [HR e] at h
   rcases ν.mp h with h|h
   ·exact .inr (h▸ .head _)
   ·exact (ih h).imp id λh=> .tail _ h
theorem NZ{k:κ}{v:α}{l:List (κ×α)}(h:(l.map (·.1)).Nodup):((O3 l k v).map (·.1)).Nodup:=by
 induction l with
 |nil=>exact Η.mpr (And.intro (λh=>nomatch h) BB)
 |cons q r ih=>
  refine Dl (Η.mp h) λh1 h2=> ?_
  by_cases e:q.1=k
  ·exact C9 (H9 e) h
  ·refine C9 (HR e) ?_
   refine Η.mpr ⟨λhm=> ?_,ih h2⟩;refine DQ (AD.mp hm) λp hp w=> ?_;rcases cM hp with z|z
   ·exact e (w.symm.trans (z▸rfl))
   ·exact h1 (w▸Ar z)
theorem PJ{k:κ}{v:Bj}{l:List (κ×Bj)}(h:(l.map (·.1)).Nodup):stored l k v=O3 l k v:=by
 induction l with
 |nil=>rfl
 |cons q r ih=>
  refine Dl (Η.mp h) λh1 h2=> ?_;have ih:=ih h2;unfold stored at ih ⊢
  by_cases e:q.1=k
  ·(exact C9 (H9 e)<|C9 (if_pos (by rw [List.any_cons,decide_eq_true e];rfl))<|C9 Χ<|C9 (if_pos e)<|C9 (map_store_of_not_mem r _ v (e▸h1)) rfl)
  ·refine C9 (HR e)<|Dr ih ?_
   by_cases z:(r.any λkv=>decide (kv.1=k))=true
   ·(exact C9 (if_pos z)<|C9 (if_pos (by rw [List.any_cons,z,Be]))<|C9 Χ<|C9 (if_neg e) rfl)
   ·exact C9 (if_neg z)<|C9 (if_neg (by rw [List.any_cons,decide_eq_false e];exact z)) rfl
end
end
mutual open A
theorem IsDictOf.nodup{K:Type}[DecidableEq K]{knd:PySem.KeyKind c.prog c.w K}{l:List (K×Bj)}(h:o.IsDictOf knd l):(l.map (·.1)).Nodup:=IM h λO O O O O O h=>h
theorem Rows.len{K:Type}{rl:K→DO→Prop}{l:List (K×Bj)}(h:Rows rl l ks vs):l.length=vs.length∧ks.length=vs.length:=by
 induction h with
 |nil=>exact ⟨rfl,rfl⟩
 |cons _ _ ih=>exact ⟨congrArg (· +1) ih.1,congrArg (· +1) ih.2⟩
theorem bC{α:Type}{b:Bool}(h:b=true)(x y:α):cond b x y=x:=h▸rfl
theorem Z9{α:Type}{b:Bool}(h:b=false)(x y:α):cond b x y=y:=h▸rfl
theorem Rows.look{K:Type}[DecidableEq K]{knd:PySem.KeyKind c.prog c.w K}{rl:K→DO→Prop}(p:Pk c k K knd rl){l:List (K×Bj)}{a:K}{x:DO}(hr:rl a x)(h:Rows rl l ks vs):valueAt l a=DU ks vs x:=by
 induction h with
 |nil=>rfl
 | @cons b y v l ks vs hb hl ih=>
  show ((List.find? (λkv=>decide (kv.1=a)) ((b,v)::l)).map (·.2))=cond (DO.beq y x) (some v) (DU ks vs x);refine C9 (List.find?_cons) ?_
  by_cases q:b=a
  ·exact C9 ((p.inj hb hr).mp q)<|C9 (Fi _)<|C9 q<|C9 (decide_eq_true rfl) rfl
  ·exact C9 (Pt λe=>q ((p.inj hb hr).mpr e))<|C9 (show decide (b=a)=false from decide_eq_false q) ih
theorem Rows.put{K:Type}[DecidableEq K]{knd:PySem.KeyKind c.prog c.w K}{rl:K→DO→Prop}(p:Pk c k K knd rl){l:List (K×Bj)}{a:K}{x:DO}(hr:rl a x)(u:Bj)(h:Rows rl l ks vs):Rows rl (O3 l a u) (D2 ks x) (Dz ks vs x u):=by
 induction h with
 |nil=>exact .cons hr .nil
 | @cons b y v l ks vs hb hl ih=>
  show Rows rl _ (cond (DO.beq y x) (y::ks) (y::D2 ks x)) (cond (DO.beq y x) (u::vs) (v::Dz ks vs x u))
  by_cases q:b=a
  ·exact C9 (H9 q)<|C9 (bC ((p.inj hb hr).mp q▸Fi _) _ _)<|C9 (bC ((p.inj hb hr).mp q▸Fi _) _ _)<| .cons hb hl
  ·exact C9 (HR q)<|C9 (Z9 (Pt λe=>q ((p.inj hb hr).mpr e)) _ _)<|C9 (Z9 (Pt λe=>q ((p.inj hb hr).mpr e)) _ _)<| .cons hb ih
theorem F6{α:Type}(x:DO)(u:α)(ks:List DO): ∀vs:List α,(Dz ks vs x u).length≤vs.length+1:=by
 induction ks with
 |nil=>intro vs;exact Κ (AT _)
 |cons y ks ih=>intro vs;cases vs with
  |nil=>exact Ι _
  |cons v vs=>
   show (cond (DO.beq y x) (u::vs) (v::Dz ks vs x u)).length≤_;cases DO.beq y x with
   |true=>exact Ac _
   |false=>exact Κ (ih vs)
theorem YD{α:Type}(x:DO){ks:List DO}: ∀{vs:List α},ks.length=vs.length→(DU ks vs x).isSome=Dm ks x:=by
 induction ks with
 |nil=>intro vs _;rfl
 |cons y ks ih=>intro vs e;cases vs with
  |nil=>exact Α e
  |cons v vs=>
   show (cond (DO.beq y x) (some v) (DU ks vs x)).isSome=(DO.beq y x||Dm ks x);cases DO.beq y x with
   |true=>rfl
   |false=>exact ih (AK.inj e)
theorem DS.look{α β:Type}{R:α→β→Prop}(x:DO)(ks:List DO): ∀{vs:List α} {l:List β},DS R vs l→(DU ks vs x=none∧DU ks l x=none)∨ ∃a b,DU ks vs x=some a∧DU ks l x=some b∧R a b:=by
 induction ks with
 |nil=>intro vs l _;exact .inl ⟨rfl,rfl⟩
 |cons y ks ih=>intro vs l h;cases h with
  |nil=>exact .inl ⟨rfl,rfl⟩
  | @cons u w vs l a b=>
   show (cond (DO.beq y x) (some u) (DU ks vs x)=none∧cond (DO.beq y x) (some w) (DU ks l x)=none)∨ ∃a b,cond (DO.beq y x) (some u) (DU ks vs x)=some a∧cond (DO.beq y x) (some w) (DU ks l x)=some b∧R a b;cases DO.beq y x with
   |true=>exact .inr (EK u w rfl rfl a)
   |false=>exact ih b
theorem DS.YN{α β:Type}{R:α→β→Prop}{x:DO}{ks:List DO}{vs:List α}{l:List β}{b:β}(h:DS R vs l)(e:DU ks l x=some b): ∃a,DU ks vs x=some a∧R a b:=by
 rcases h.look x ks with ⟨_,z⟩|⟨a,b',z1,z2,z3⟩
 ·exact DC (z.symm.trans e)
 ·exact (DM a z1 (η (z2.symm.trans e)▸z3))
theorem DS.put{α β:Type}{R:α→β→Prop}{x:DO}{u:α}{w:β}(hu:R u w)(ks:List DO): ∀{vs:List α} {l:List β},DS R vs l→DS R (Dz ks vs x u) (Dz ks l x w):=by
 induction ks with
 |nil=>intro vs l h;exact .cons hu .nil
 |cons y ks ih=>intro vs l h;cases h with
  |nil=>exact .cons hu .nil
  | @cons u' w' vs l a b=>
   show DS R (cond (DO.beq y x) (u::vs) (u'::Dz ks vs x u)) (cond (DO.beq y x) (w::l) (w'::Dz ks l x w));cases DO.beq y x with
   |true=>exact .cons hu b
   |false=>exact .cons a (ih b)
def Lo(k:Int×Int)(a:Br)(v:Bj):List Kz→List Kz
 | []=> [(k,a,v)]
 |x::r=>if x.1=k then (x.1,x.2.1,v)::r else x::Lo k a v r
theorem WX{a b c d:Int}(q:(c,d)≠(a,b)):DO.beq (.p c d) (.p a b)=false:=Pt λe=>q (by cases e;rfl)
theorem Nj{a b c d:Int}(q:(c,d)≠(a,b)): [c,d]≠ [a,b]:=λe=>q (by cases e;rfl)
theorem cB(a b:Int)(xs:List Kz):(atKey (xs.map lk) [a,b]).map (·.2)=DU (xs.map λx=>DO.p x.1.1 x.1.2) (xs.map (·.2.2)) (.p a b):=by
 induction xs with
 |nil=>rfl
 |cons x r ih=>
  obtain ⟨⟨d,e⟩,u,v⟩:=x;show ((List.find? _ (lk ((d,e),u,v)::r.map lk)).map (·.2)).map (·.2)=cond (DO.beq (.p d e) (.p a b)) (some v) _;refine C9 (List.find?_cons) ?_
  by_cases q:(d,e)=(a,b)
  ·cases q;refine C9 (Fi _) ?_;simp [lk]
  ·exact C9 (WX q)<|C9 (show (decide ((lk ((d,e),u,v)).1= [a,b]))=false from decide_eq_false (Nj q)) ih
theorem Uc(a b:Int)(u:Br)(v:Bj){xs:List Kz}(h:(xs.map (·.1)).Nodup):storedH (xs.map lk) [a,b] u v=(Lo (a,b) u v xs).map lk:=by
 induction xs with
 |nil=>rfl
 |cons x r ih=>
  obtain ⟨⟨d,e⟩,u',v'⟩:=x;refine Dl (Η.mp h) λh1 h2=> ?_;have ih:=ih h2
  by_cases q:(d,e)=(a,b)
  ·cases q
   rw [Lo,if_pos rfl,storedH,if_pos (by simp [atKey,lk]),Χ,Χ,Χ];refine congr (congrArg Bi (by simp [putAt,lk])) (map_putAt_of_not_mem _ _ _ λhm=>h1 ?_);refine DQ (AD.mp hm) λx hx e=> ?_;refine DQ (AD.mp hx) λy hy Gx=> ?_;subst Gx;exact AD.mpr (DM y hy (by have:=e;simp only [lk,Bi.injEq,and_true] at this;exact Prod.ext this.1 this.2))
  ·have ne:=Nj q
   rw [Lo,if_neg q,Χ,Χ,←ih];unfold storedH;refine C9 (show atKey (lk ((d,e),u',v')::r.map lk) [a,b]=atKey (r.map lk) [a,b] by unfold atKey;rw [List.find?_cons];simp [lk,ne]) ?_
   split
   ·refine C9 Χ ?_;congr 1;simp [putAt,lk,ne]
   ·rfl
theorem ZE(a b:Int)(u:Br)(v:Bj)(xs:List Kz):(Lo (a,b) u v xs).map (λx=>DO.p x.1.1 x.1.2)=D2 (xs.map λx=>DO.p x.1.1 x.1.2) (.p a b)∧(Lo (a,b) u v xs).map (·.2.2)=Dz (xs.map λx=>DO.p x.1.1 x.1.2) (xs.map (·.2.2)) (.p a b) v∧(Lo (a,b) u v xs).map (·.1)=(O3 (xs.map λx=>(x.1,x.2.2)) (a,b) v).map (·.1):=by
 induction xs with
 |nil=>exact ⟨rfl,rfl,rfl⟩
 |cons x r ih=>
  obtain ⟨⟨d,e⟩,u',v'⟩:=x;show _=cond (DO.beq (.p d e) (.p a b)) _ _∧_=cond (DO.beq (.p d e) (.p a b)) _ _∧_;rw [Lo,Χ (f:=λx:Kz=>(x.1,x.2.2))]
  by_cases q:(d,e)=(a,b)
  ·refine C9 (if_pos q)<|C9 (H9 q)<|C9 (show DO.beq (.p d e) (.p a b)=true by cases q;exact Fi _) ?_;exact ⟨rfl,rfl,congrArg (_:: ·) (by exact C9 Δ rfl)⟩
  ·exact C9 (if_neg q)<|C9 (HR q)<|C9 (WX q)<|⟨congrArg (_:: ·) ih.1,congrArg (_:: ·) ih.2.1,congrArg (_:: ·) ih.2.2⟩
theorem eI{k:Int×Int}{u:Br}{v:Bj}{xs:List Kz}{x:Kz}(h:x∈Lo k u v xs):(x.1=k∧x.2.1=u)∨ ∃y∈xs,y.1=x.1∧y.2.1=x.2.1:=by
 induction xs with
 |nil=>exact C9 (ς.mp h)<| .inl ⟨rfl,rfl⟩
 |cons y r ih=>
  rw [Lo] at h
  by_cases q:y.1=k
  ·rw [if_pos q] at h
   rcases ν.mp h with h|h
   ·exact .inr (ED y (.head _) (h▸rfl) (h▸rfl))
   ·exact .inr (ED x (.tail _ h) rfl rfl)
  ·rw [if_neg q] at h
   rcases ν.mp h with h|h
   ·exact .inr (ED x (h▸ .head _) rfl rfl)
   ·exact (ih h).imp id λ⟨z,hz,e⟩=>(DM z (.tail _ hz) e)
def XT(c:Cx)(o:Obj)(m:List (List Int×Br×Bj)):Prop:= ∃es ep,o.ExactDict∧o.data= .dict es ep∧es.toList=m.map (entryOfKey (CN (B9 c.prog c.w)))
inductive KD(c:Cx)(hf:HF)(k:Nat)(o:Obj)(ks:List DO)(vs:List Bj)(kv:Bj)(x:DO):Prop
 |one {K:Type} [DecidableEq K] (knd:PySem.KeyKind c.prog c.w K) (l:List (K×Bj)) (a:K):knd.is a kv=true→o.IsDictOf knd l→l.length=vs.length→valueAt l a=DU ks vs x→
   (∀v o',vs.length<big→o'.IsDictOf knd (stored l a v)→EA c hf o' k (D2 ks x) (Dz ks vs x v))→KD c hf k o ks vs kv x
 |two (a:Br) (i j:Int) (xs:List Kz) (t u n):kv= .ref a→hf a=some (GZ [.int i t, .int j u] n)→xs.length=vs.length→XT c o (xs.map lk)→(∀x∈xs,∃n t u,hf x.2.1=some (GZ [.int x.1.1 t, .int x.1.2 u] n))→(xs.map (·.1)).Nodup→
   (atKey (xs.map lk) [i,j]).map (·.2)=DU ks vs x→(∀v o',vs.length<big→XT c o' (storedH (xs.map lk) [i,j] a v)→EA c hf o' k (D2 ks x) (Dz ks vs x v))→KD c hf k o ks vs kv x
theorem iY{v:Bj}{i j:Int}(h:DV c hf v (.nd .tup [.int i, .int j])): ∃a t u n,v= .ref a∧hf a=some (GZ [.int i t, .int j u] n):=by
 refine wr λZ0 z0=> ?_;have ⟨q,oq,us,w1,w2,⟨w5,_,n,w6⟩,w4⟩:=DV.shape h;refine D0 (eC w4) λa b w h1 h2=> ?_;refine D3 (UG h1) λt e1=> ?_;refine D3 (UG h2) λu e2=> ?_;refine z0 ?_;exact (Px q.1 t u n w1 (by (exact C9 w5<|C9 w2<|C9 w6<|C9 w<|C9 e1<|C9 e2 rfl)))
theorem lD{xs:List Kz}{i j:Int}{a:Br}{t u n}{v:Bj}{o':Obj}(w2:hf a=some (GZ [.int i t, .int j u] n))(h1: ∀x∈xs,∃n t u,hf x.2.1=some (GZ [.int x.1.1 t, .int x.1.2 u] n))(h2:(xs.map (·.1)).Nodup)(hb:(xs.map (·.2.2)).length<big)(h:ja c o' (Lo (i,j) a v xs)):EA c hf o' 2 (D2 (xs.map λx=>DO.p x.1.1 x.1.2) (.p i j)) (Dz (xs.map λx=>DO.p x.1.1 x.1.2) (xs.map (·.2.2)) (.p i j) v):=by
 have r:=ZE i j a v xs;refine .pr (xs:=Lo (i,j) a v xs) (Υ (F6 _ v _ _) hb) h (λy hy=> ?_) (by refine C9 r.2.2 ?_;exact NZ (by exact C9 Δ h2)) r.1.symm r.2.1.symm;rcases eI hy with z|⟨z,hz,z1,z2⟩
 ·exact C9 z.1<|C9 z.2<|(Ma n t u w2)
 ·exact Dr z1<|Dr z2<|h1 z hz
theorem MA(hd:EA c hf o k ks vs){kv:Bj}{x:DO}(hk:DV c hf kv x.d)(e:x.kind=k):KD c hf k o ks vs kv x:=by
 cases hd with
 | @np _ K _ knd rl l _ _ p hb hl hr=>
  refine DQ (p.of hk e) λa h1 h2=> ?_;exact .one knd l a h2 hl hr.len.1 (hr.look p h1) λv o' Oj h=> .np p (Υ (F6 x v ks vs) Oj) (PJ (IsDictOf.nodup hl)▸h) (hr.put p h1 v)
 | @pr xs _ _ hb h0 h1 h2 e1 e2=>
  refine HY (uU e) λi j w=> ?_;rw [w] at hk ⊢;refine Jn (iY hk) λa t u n w1 w2=> ?_;refine C9 e1<|C9 e2 ?_
  exact .two a i j xs t u n w1 w2 (ι ..).symm h0 h1 h2 (cB i j xs) λv o' Oj h=>lD w2 h1 h2 Oj (show XT c o' ((Lo (i,j) a v xs).map lk) from Uc i j a v h2▸h)
theorem Vl{l:List D}{x:DO}(e:jG l=some x): ∃a b,l= [.int a, .int b]∧x= .p a b:=by
 cases l with
 |nil=>exact DC e
 |cons a l=>cases a with
  |int a=>cases l with
   |nil=>exact DC e
   |cons b l=>cases b with
    |int b=>cases l with
     |nil=>exact (Gp a b rfl ((η e).symm))
     |cons=>exact DC e
    |_=>exact DC e
  |_=>exact DC e
theorem JG{d:D}{x:DO}(e:HG d=some x){v:Bj}(h:DV c hf v d):DV c hf v x.d:=by
 cases d with
 |int=>exact De e h
 |sym=>exact De e h
 |str=>exact De e h
 |nd hd l=>exact DY e λh1 e=>GE (Vl e) λa b w1 w2=>by have h1:=Vy h1;subst h1 w1 w2;exact h
 |_=>exact DC e
theorem EA.big(h:EA c hf o k ks vs):vs.length≤big∧ks.length=vs.length:=by
 cases h with
 |np _ a _ b=>exact ⟨a,b.len.2⟩
 |pr a _ _ _ b d=>exact ⟨a,by (exact C9 b<|C9 d<|C9 (ι _)<|C9 (ι _) rfl)⟩
theorem EA.raw(h:EA c hf o k ks vs): ∃es ep,o.ExactDict∧o.data= .dict es ep∧es.size=vs.length:=by
 cases h with
 |np _ _ h r=>exact IM h λes ep h1 h2 O h3 O=>(EK es ep h1 h2 (by have:=h3.length;rw [Array.length_toList] at this;exact this.trans r.len.1))
 |pr _ h _ _ _ e=>exact D0 h λes ep h1 h2 h3=>(EK es ep h1 h2 (by (exact Dr Array.length_toList<|C9 h3<|C9 e<|C9 (ι _)<|C9 (ι _)<|C9 (ι _) rfl)))
theorem EA.typeIs{s:Bl}{q:Br}(e:s.heap.get? q=some o)(h:EA c hf o k ks vs):s.TypeIs (.ref q) "dict" :=D0 h.raw λO O h1 O O=>(DM o e h1.1)
theorem mapOf{K:Type}[DecidableEq K]{knd:PySem.KeyKind c.prog c.w K}{h:Bz}{q:Br}{l:List (K×Bj)}(eo:h.get? q=some o)(d:o.IsDictOf knd l):h.DictOf knd q l:=BI.mpr (DM o eo d)
theorem IZ{h:Bz}(kp: ∀b o,hf b=some o→h.get? b=some o){a:Br}{i j:Int}{t u:Tok}{n:Nat}(e:hf a=some (GZ [.int i t, .int j u] n)):IsTupleKey (B9 c.prog c.w) h [i,j] a:=
 (Ea _ _ n (kp _ _ e) rfl rfl (.cons (by simp [B9,Bj.isInt]) (.cons (by simp [B9,Bj.isInt]) .nil)))
theorem IL{h:Bz}(kp: ∀b o,hf b=some o→h.get? b=some o){q:Br}{xs:List Kz}(eo:h.get? q=some o)(d:XT c o (xs.map lk))(k: ∀x∈xs,∃n t u,hf x.2.1=some (GZ [.int x.1.1 t, .int x.1.2 u] n))(n:(xs.map (·.1)).Nodup):h.DictOfH (CN (B9 c.prog c.w)) q (xs.map lk):=by
 refine D0 d λes ep d1 d2 d3=> ?_;clear d;refine (UX o es ep eo d1 d2 d3 (λx hx=> ?_) ?_)
 ·refine DQ (AD.mp hx) λy hy w=> ?_
  refine TJ (k y hy) λn t u e=> ?_;exact w▸IZ kp e
 ·have:(xs.map lk).map (·.1)=(xs.map (·.1)).map λa:Int×Int=> [a.1,a.2]:=by exact C9 Δ<|C9 Δ rfl
  refine C9 this<|C9 (propext (List.nodup_iff_pairwise_ne))<|C9 (propext (List.pairwise_map)) ?_
  exact (List.nodup_iff_pairwise_ne.mp n).imp λne e=>Nj ne e
end
end
end
section
mutual open A
theorem Dn{h:Bz}{q:Br}{vs:List Bj}{n:Nat}(e:h.get? q=some (E0 vs n)):h.IsList q vs.toArray:=(JS _ e rfl n rfl)
theorem ZO{h:Bz}{q:Br}{vs:List Bj}{n:Nat}(e:h.get? q=some (GZ vs n)):IsTup h q vs.toArray:=(JS _ e rfl n rfl)
theorem HQ{h:Hd}{l:List D}(e:plain (.nd h l)=true):(h= .tup∨h= .lst)∧plain.FF l=true:=by
 refine Dl (band e) λa b=> ?_;refine ⟨?_,b⟩;cases h with
 |tup=>exact .inl rfl
 |lst=>exact .inr rfl
 |_=>exact ζ a
end
section
mutual open A
variable{c:Cx}{hf:HF}{A:Bs}{s:Bl}{E:Bj→Bl→Prop}{x:St c}
theorem DV.reads{h:Bz}(kp: ∀b o,hf b=some o→h.get? b=some o){v:Bj}{d:D}(a:DV c hf v d):plain d=true→ ∃as,Reads h v (EY d) as:=by
 refine DV.rec (motive_1:=λv d O=>plain d=true→ ∃as,Reads h v (EY d) as) (motive_2:=λvs l O=>plain.FF l=true→ ∃as,ReadsAll h vs (EY.toPys l) as) (λO=>(EG _ .none)) (λb O=>(EG _ (.bool b))) (λi t O=>(EG _ (.int i t))) (λn t O O=>(EG _ (.str _ t))) (λO O e=>ζ e) (λ{p o hd vs l} a b O ih e=> ?_) (λO=>(EG _ .nil)) (λO O i1 i2 e=> ?_) a
 ·refine Dl (HQ e) λe1 e2=> ?_
  refine D3 (ih e2) λas r=> ?_;rcases e1 with e1|e1<;>subst e1
  ·obtain ⟨b1,_,n,b2⟩:=b
   subst b2;exact (EG _ (.tuple (by exact C9 b1<|kp _ _ a) rfl rfl (by exact C9 BG r)))
  ·obtain ⟨b1,_,n,b2⟩:=b
   subst b2;exact (EG _ (.list (by exact C9 b1<|kp _ _ a) rfl rfl (by exact C9 BG r)))
 ·refine Dl (band e) λe1 e2=> ?_
  exact D3 (i1 e1) λas r=>D3 (i2 e2) λbs q=>(EG _ (.cons r q))
def tV:Bool:=Fw.all λx=>x.cps.all (· <0x110000)
theorem oh:tV=true:=by decide+kernel
theorem eF(n:Nat):B2.strOk (nm n)=true:=by
 by_cases h:n<Fw.length
 ·exact C9 (R6 h)<|Au.mp oh _ (A0 h)
 ·refine C9 (show nm n= "" by unfold nm;rw [A9,List.getElem?_eq_none (At h)];rfl) ?_;decide+kernel
theorem Io(d:D):plain d=true→(EY d).canLay0=true:=
 D.rec (motive_1:=λd=>plain d=true→(EY d).canLay0=true) (motive_2:=λl=>plain.FF l=true→B2.canLayAll0 (EY.toPys l)=true) (λO=>rfl) (λO O=>rfl) (λO O=>rfl) (λn O=>eF n) (λO e=>ζ e)
  (λh l ih e=>by
   refine Dl (HQ e) λe1 e2=> ?_;rcases e1 with e1|e1<;>subst e1<;>exact ih e2) (λO=>rfl) (λd l i1 i2 e=>by
   refine Dl (band e) λe1 e2=> ?_;exact (show ((EY d).canLay0&&B2.canLayAll0 (EY.toPys l))=true by exact C9 (i1 e1)<|C9 (i2 e2) rfl)) d
theorem Ot(l:List D):plain.FF l=true→B2.canLayAll0 (EY.toPys l)=true:=λe=>Io (.nd .tup l) e
theorem PE(d:D):(EY d).depth=ej d:=
 D.rec (motive_1:=λd=>(EY d).depth=ej d) (motive_2:=λl=>B2.depthAll (EY.toPys l)=ej.deps l) rfl (λO=>rfl) (λO=>rfl) (λO=>rfl) (λO=>rfl)
  (λh l ih=>by cases h<;>exact congrArg (· +1) ih) rfl (λd l i1 i2=>show Nat.max (EY d).depth (B2.depthAll (EY.toPys l))=_ by exact C9 i1<|C9 i2 rfl) d
theorem ow{h h':Hd}{l m:List D}(a:h= .tup∨h= .lst)(b:h'= .tup∨h'= .lst)(e:B2.eqvAll (EY.toPys l) (EY.toPys m)=Ti.Ub l m):B2.eqv (EY (.nd h l)) (EY (.nd h' m))=Ti (.nd h l) (.nd h' m):=by
 rcases a with a|a<;>rcases b with b|b<;>subst a<;>subst b<;>first|exact e|rfl
theorem WG(d:D): ∀{v u:Bj} {y:D},DV c hf v d→DV c hf u y→plain d=true→plain y=true→B2.eqv (EY d) (EY y)=Ti d y:=by
 refine D.rec (motive_1:=λd=> ∀{v u:Bj} {y:D},DV c hf v d→DV c hf u y→plain d=true→plain y=true→B2.eqv (EY d) (EY y)=Ti d y) (motive_2:=λl=> ∀{v u:List Bj} {m:List D},KZ c hf v l→KZ c hf u m→plain.FF l=true→plain.FF m=true→B2.eqvAll (EY.toPys l) (EY.toPys m)=Ti.Ub l m) ?_ ?_ ?_ ?_ ?_ ?_ ?_ ?_ d
 ·intro v u y _ _ _ f
  cases y with
  |nd h l=>exact Dl (HQ f) λe O=>by rcases e with e|e<;>subst e<;>rfl
  |_=>rfl
 ·intro b v u y _ _ e _;exact ζ e
 ·intro i v u y _ _ _ f
  cases y with
  |int j=>exact XB i j
  |nd h l=>exact Dl (HQ f) λe O=>by rcases e with e|e<;>subst e<;>rfl
  |bool=>exact ζ f
  |_=>rfl
 ·intro n v u y a b _ f
  cases y with
  |sym m=>cases a with|sym _ _ h=>cases b with|sym _ _ h'=>exact li h h'
  |nd h l=>exact Dl (HQ f) λe O=>by rcases e with e|e<;>subst e<;>rfl
  |str=>exact ζ f
  |_=>rfl
 ·intro b v u y _ _ e _;exact ζ e
 ·intro h l ih v u y a b e f
  refine Dl (HQ e) λe1 e2=> ?_;cases y with
  |nd h' m=>exact Dl (HQ f) λf1 f2=>let ⟨_,_,_,_,_,_,a⟩:=a.shape;let ⟨_,_,_,_,_,_,b⟩:=b.shape;ow e1 f1 (ih a b e2 f2)
  |_=>rcases e1 with e1|e1<;>subst e1<;>rfl
 ·intro v u m a b _ _
  cases a;cases b<;>rfl
 ·intro d l i1 i2 v u m a b e f
  cases a with
  |cons a1 a2=>cases b with
   |nil=>rfl
   |cons b1 b2=>
    refine Dl (band e) λe1 e2=> ?_;refine Dl (band f) λf1 f2=> ?_;show (B2.eqv _ _&&B2.eqvAll _ _)=_;exact C9 (i1 a1 b1 e1 f1)<|C9 (i2 a2 b2 e2 f2) rfl
theorem Om{a b:Br}{vs:List Bj}{n m:Nat}(hu:A.units<B3)(ha:s.heap.get? a=some (E0 vs n))(hb:s.heap.get? b=some (E0 [] m)):SeqAt.RcAt A s (.ref a) (.ref b) vs.isEmpty:=by
 cases vs with
 |nil=>exact SeqAt.RcAt.lists (e:=λO=>true) (Dn ha) (Dn hb) rfl hu (λj h1=>absurd h1 (Aw _))
 |cons v vs=>exact SeqAt.RcAt.lists_lengths (Dn ha) (Dn hb) (by simp) hu
theorem Ol{a b:Br}{vs:List Bj}{n m:Nat}(hu:A.units<B3)(ha:s.heap.get? a=some (E0 vs n))(hb:s.heap.get? b=some (E0 [] m)):SeqAt.RcNeAt A s (.ref a) (.ref b) (!vs.isEmpty):=by
 cases vs with
 |nil=>exact SeqAt.RcNeAt.lists (e:=λO=>true) (Dn ha) (Dn hb) rfl hu (λj h1=>absurd h1 (Aw _))
 |cons v vs=>exact SeqAt.RcNeAt.lists_lengths (Dn ha) (Dn hb) (by simp) hu
theorem EA.empty{o:Obj}{k:Nat}{ks:List DO}{K:Type}[DecidableEq K](knd:PySem.KeyKind c.prog c.w K)(h:EA c hf o k ks []):o.IsDictOf knd []:=
 D0 h.raw λes ep h1 h2 h3=>
 have e:es= #[]:=Array.eq_empty_of_size_eq_zero h3
 (Kf es ep h1 h2 (λO x=>(by rw [e] at x;simp at x)) (e▸ .nil) BB)
theorem Mr{nm:String}{a b:Br}{oa ob:Obj}{es et:Array DictEntry}{ep xS:Nat}{Q:Bool→Bl→Prop}(ha:(a==By)=false)(hb:(b==By)=false)
  (ea:s.heap.get? a=some oa) (da:oa.data= .dict es ep) (eb:s.heap.get? b=some ob) (db:ob.data= .dict et xS) (ne:es.size≠et.size) (h:Q false s):Bp (Bq c.prog c.w) A (Builtin.Dict.samePairs nm a b) Q E s:=by
 unfold Builtin.Dict.samePairs Builtin.Dict.showsAll;refine C9 (if_neg (show¬(a==By)=true by rw [ha];exact Aj))<|C9 (if_neg (show¬(b==By)=true by rw [hb];exact Aj)) ?_
 refine Bk (Bn (Bk (Bn (Bk (wpAny_dictEntries ea da (Bk (wpAny_dictEntries eb db ?_)))))));refine C9 (if_pos (by simpa using ne)) ?_;exact Bk (wpAny_rule (Bn h))
theorem O0{a b:Br}{oa ob:Obj}{k k':Nat}{ks EZ:List DO}{vs:List Bj}(hu:A.units<B3)(ha:(a==By)=false)(hb:(b==By)=false)
  (ea:s.heap.get? a=some oa) (da:EA c hf oa k ks vs) (eb:s.heap.get? b=some ob) (db:EA c hf ob k' EZ []) {Q:Bj→Bl→Prop} (h:Q (.bool vs.isEmpty) s):Bp (Bq c.prog c.w) A (compareOp .Eq (.ref a) (.ref b)) Q E s:=by
 cases vs with
 |nil=>exact keq_eq (knd:=B9 c.prog c.w) (ka:= []) (kb:= []) (r:=true) ha hb (mapOf ea (da.empty _)) (mapOf eb (db.empty _)) hu (λO=> .nil) h
 |cons x r=>
  refine D0 da.raw λes ep O d1 d2=> ?_;refine D0 db.raw λet xS O d1' d2'=> ?_;refine wpAny_richCompare_same_room (op:= .Eq) (da.typeIs ea) (db.typeIs eb) PySem.F.slot_dict_eq (Ce PySem.F.slot_dict_eq (da.typeIs ea) PySem.F.entry_dict_eq ?_ (PySem.F.args_dict_eq_2 _ _)) hu;show Bp _ _ (Builtin.Dict.dictSlotArgs "__eq__" ⟨[.ref a, .ref b], []⟩>>=_) _ _ s;refine Bk ?_;unfold Builtin.Dict.dictSlotArgs;refine Bk (wpAny_notOrdered_dict (da.typeIs ea) ?_);show Bp _ _ (pure (Bj.ref a,Bj.ref b)) _ _ s;refine Bn (Bk (Cf (T:= "dict") (db.typeIs eb) PySem.F.sub_dict_dict ?_));simp only [Bool.not_true,Bool.false_eq_true,if_false];refine Bk (Bn (Bk (Bn ?_)));exact Bk (Mr ha hb ea d1 eb d1' (by exact C9 d2<|C9 d2'<|Nat.succ_ne_zero _) (Bn (ED _ rfl (by intro x;cases x) h)))
theorem MV{d:D}(h:fits d=true):SeqAt.shaped (EY d)=true:=by
 refine Dl (band h) λa b=> ?_;unfold SeqAt.shaped;refine C9 (Io d a)<|C9 (PE _)<|C9 (Bool.true_and _) ?_
 exact decide_eq_true (Υ (φ b) (by decide))
theorem NU{α β:Type}{R:α→β→Prop}{l:List α}{m:List β}(h:DS R l m):l.isEmpty=m.isEmpty:=by cases h<;>rfl
inductive Og(x:St c)(b:V)(va vb:Bj)(r:Bool):Prop
 |lst (a a':Br) (vs:List Bj) (n m:Nat):va= .ref a→vb= .ref a'→x.s.heap.get? a=some (E0 vs n)→x.s.heap.get? a'=some (E0 [] m)→vs.isEmpty=r→Og x b va vb r
 |Dg (a a':Br) {oa ob k k' ks EZ} (vs:List Bj):Jy b=2→va= .ref a→vb= .ref a'→(a==By)=false→(a'==By)=false→x.s.heap.get? a=some oa→EA c x.hf oa k ks vs→x.s.heap.get? a'=some ob→EA c x.hf ob k' EZ []→vs.isEmpty=r→Og x b va vb r
 |dat {d e as bs}:Reads x.s.heap va (EY d) as→Reads x.s.heap vb (EY e) bs→SeqAt.shaped (EY d)=true→SeqAt.shaped (EY e)=true→B2.eqv (EY d) (EY e)=r→Og x b va vb r
theorem Er{a:V}{d:D}(e:Ix a=some d):a= .d d:=by
 cases a with
 |d=>exact De e rfl
 |cell=>exact DC e
theorem Gs{d:D}{i:Int}(e:Y2 d=some i):d= .int i:=by
 cases d with
 |int=>exact De e rfl
 |_=>exact DC e
theorem Ye{b:V}(h:Jy b=1):b= .d (.nd .lst []):=by
 cases b with
 |cell=>exact Α h
 |d d=>cases d with
  |nd hd l=>cases l with
   |nil=>cases hd with
    |lst=>rfl
    |Dg=>exact Α (AK.inj h)
    |_=>exact Α h
   |cons=>exact Α h
  |_=>exact Α h
theorem ZM{b:V}(h:Jy b=2): ∃k ks,b= .d (.nd (.Dg k ks) []):=by
 cases b with
 |cell=>exact Α h
 |d d=>cases d with
  |nd hd l=>cases l with
   |nil=>cases hd with
    |lst=>exact Α (AK.inj h)
    |Dg=>exact (TM _ _ rfl)
    |_=>exact Α h
   |cons=>exact Α h
  |_=>exact Α h
theorem SY{va vb:Bj}{a b:V}{r:Bool}(ha:x.VV va a)(hb:x.VV vb b)(e:lO a b=some r):Og x b va vb r:=by
 refine DA e λd h1 e=>DA e λd' h2 e=>DY e λh3 e=> ?_;rw [Er h1] at ha;rw [Er h2] at hb;refine Dl (band h3) λf1 f2=> ?_;refine D3 (DV.reads x.R.keep ha (band f1).1) λas r1=> ?_;refine D3 (DV.reads x.R.keep hb (band f2).1) λbs r2=> ?_;exact De e (.dat r1 r2 (MV f1) (MV f2) (WG d ha hb (band f1).1 (band f2).1))
theorem Wm{va vb:Bj}{a b:V}{r:Bool}(ha:x.VV va a)(hb:x.VV vb b)(e:qI x.σ a b=some r):Og x b va vb r:=by
 unfold qI at e;cases q:Jy b with
 |zero=>rw [q] at e;exact SY ha hb e
 |succ n=>cases n with
  |zero=>
   rw [q] at e;refine DA e λl h1 e=> ?_;obtain ⟨q1,vs,n,w,g,_,hv⟩:=UN ha h1;rw [Ye q] at hb;obtain ⟨p,o,us,w2,g2,sh,xR⟩:=DV.shape hb;obtain ⟨e1,_,m,e2⟩:=sh;cases xR;exact De e (.lst q1 p.1 vs n m w w2 g (e1▸e2▸x.R.keep _ _ g2) (NU hv))
  |succ n=>cases n with
   |zero=>
    rw [q] at e;refine DA e λl h1 e=> ?_;obtain ⟨q1,o,vs,w,g,z,ho,hv⟩:=LO ha h1;refine HY (ZM q) λk ks w3=> ?_;rw [w3] at hb;obtain ⟨p,o',us,w2,g2,sh,xR⟩:=DV.shape hb;obtain ⟨e1,e2,e3⟩:=sh;cases xR;exact De e (.Dg q1 p.1 vs q w w2 z (e1▸e2) g ho (e1▸x.R.keep _ _ g2) e3 (NU hv))
   |succ n=>rw [q] at e;exact SY ha hb e
theorem bI{b:V}{va vb:Bj}{r:Bool}{Q:Bj→Bl→Prop}(hu:A.units+64<B3)(w:Og x b va vb r)(h:Q (.bool r) x.s):Bp (Bq c.prog c.w) A (compareOp .Eq va vb) Q E x.s:=by
 have wQ:A.units<B3:=Ρ (Ζ ..) hu;cases w with
 |lst a b vs n m w1 w2 g1 g2 e=>subst w1;subst w2;subst e;exact Om wQ g1 g2 c.prog c.w E Q h
 |Dg a b vs w0 w1 w2 z1 z2 g1 d1 g2 d2 e=>subst w1;subst w2;subst e;exact O0 wQ z1 z2 g1 d1 g2 d2 h
 |dat r1 r2 s1 s2 e=>exact eq_dataH r1 r2 s1 s2 hu (e▸h)
theorem cK{b:V}{va vb:Bj}{r:Bool}{Q:Bj→Bl→Prop}(hu:A.units+64<B3)(w:Og x b va vb r)(nd:Μ (Jy b) 2=true)(h:Q (.bool (!r)) x.s):Bp (Bq c.prog c.w) A (compareOp .NotEq va vb) Q E x.s:=by
 have wQ:A.units<B3:=Ρ (Ζ ..) hu;cases w with
 |lst a b vs n m w1 w2 g1 g2 e=>subst w1;subst w2;subst e;exact Ol wQ g1 g2 c.prog c.w E Q h
 |Dg a b vs w0 w1 w2 z1 z2 g1 d1 g2 d2 e=>rw [w0] at nd;exact ζ nd
 |dat r1 r2 s1 s2 e=>exact ne_dataH r1 r2 s1 s2 hu (e▸h)
end
end
end
section
mutual open A
variable{c:Cx}{hf:HF}{A:Bs}{s:Bl}{E:Bj→Bl→Prop}{x:St c}
theorem Pa{l:List V}: ∀{m:List D},Mq l=some m→l=m.map V.d:=by
 induction l with
 |nil=>intro m e;exact De e rfl
 |cons v l ih=>intro m e;exact DA e λd h1 e=>DA e λm' h2 e=>De e (by exact C9 (Er h1)<|C9 (ih h2) rfl)
theorem Gb{d:D}(h:atom d=true):plain d=true∧(EY d).depth=0:=by cases d<;>first|exact ⟨rfl,rfl⟩|exact ζ h
theorem Me{l:List D}(h:atoms l=true):plain.FF l=true:=by
 induction l with
 |nil=>rfl
 |cons d l ih=>
  refine Dl (band h) λa b=> ?_;show (plain d&&plain.FF l)=true;exact C9 ((Gb a).1)<|C9 (ih b) rfl
theorem iQ{u:Bj}{d:D}(hu:DV c hf u d)(hx:atom d=true){vs:List Bj}{l:List D}(h:KZ c hf vs l)(ha:atoms l=true):((EY.toPys l).any λy=>B2.eqv y (EY d))=Lb d l:=by
 induction h with
 |nil=>rfl
 |cons a _ ih=>
  refine Dl (band ha) λa1 a2=> ?_;show (B2.eqv _ _||_)=(Ti _ d||_)
  (exact C9 (WG _ a hu (Gb a1).1 (Gb hx).1)<|C9 (ih a2) rfl)
theorem DS.reads{h:Bz}(kp: ∀b o,hf b=some o→h.get? b=some o){vs:List Bj}{l:List D}(a:KZ c hf vs l)(e:plain.FF l=true): ∃as,ReadsAll h vs (EY.toPys l) as:=by
 induction a with
 |nil=>exact (EG _ .nil)
 |cons b _ ih=>exact Dl (band e) λe1 e2=>D3 (DV.reads kp b e1) λas r=>D3 (ih e2) λbs q=>(EG _ (.cons r q))
inductive Nk(x:St c)(A:Bs)(va vb:Bj)(r:Bool):Prop
 |one {K:Type} [DecidableEq K] {knd:PySem.KeyKind c.prog c.w K} {q:Br} {l:List (K×Bj)} {a:K}:vb= .ref q→knd.is a va=true→(q==By)=false→x.s.heap.DictOf knd q l→(valueAt l a).isSome=r→Nk x A va vb r
 |two {q a:Br} {m:List (List Int×Br×Bj)} {i j:Int}:vb= .ref q→va= .ref a→IsTupleKey (B9 c.prog c.w) x.s.heap [i,j] a→(q==By)=false→x.s.heap.DictOfH (CN (B9 c.prog c.w)) q m→(atKey m [i,j]).isSome=r→Nk x A va vb r
 |seq {l:List B2} {d:B2} {as bs} (t:Bool):Reads x.s.heap vb (cond t (.tuple l) (.list l)) bs→Reads x.s.heap va d as→B2.canLayAll0 l=true→d.canLay0=true→d.depth=0→(l.any λy=>B2.eqv y d)=r→Nk x A va vb r
theorem Vz{va vb:Bj}{a b:V}{r:Bool}(ha:x.VV va a)(hb:x.VV vb b)(e:pR x.σ a b=some r):Nk x A va vb r:=by
 refine DA e λd h1 e=>DA e λq h2 e=> ?_;rw [Er h1] at ha;obtain ⟨p,o,vs,w,g,sh,hv⟩:=Gk hb h2;obtain ⟨hd,l⟩:=q
 have seq: ∀t:Bool,(∀as m,ReadsAll x.s.heap vs (EY.toPys m) as→ ∃as,Reads x.s.heap vb (cond t (.tuple (EY.toPys m)) (.list (EY.toPys m))) as)→(DN (Mq l) λl=>F9 (atom d&&atoms l) (some (Lb d l)))=some r→Nk x A va vb r:=λt rd e=>by
  refine DA e λm h3 e=>DY e λh4 e=> ?_;refine Dl (band h4) λf1 f2=> ?_;rw [show l=m.map V.d from Pa h3] at hv;refine D3 (DV.reads x.R.keep ha (Gb f1).1) λas ra=> ?_;refine D3 (DS.reads x.R.keep (GC.yb hv) (Me f2)) λbs rb=> ?_;refine D3 (rd bs m rb) λbs rb=> ?_;exact De e (.seq t rb ra (Ot m (Me f2)) (Io d (Gb f1).1) (Gb f1).2 (iQ ha f1 (GC.yb hv) f2))
 cases hd with
 |inst=>exact DC e
 |tup=>
  obtain ⟨e1,_,n,e2⟩:=sh;exact seq true (λas m r=>(EG _ (by refine C9 w ?_;exact .tuple (e1▸e2▸g) rfl rfl (by exact C9 BG r)))) e
 |lst=>
  obtain ⟨e1,_,n,e2⟩:=sh;exact seq false (λas m r=>(EG _ (by refine C9 w ?_;exact .list (e1▸e2▸g) rfl rfl (by exact C9 BG r)))) e
 |Dg k ks=>
  refine DA e λkey h3 e=>DY e λh4 e=> ?_;obtain ⟨e1,e2,e3⟩:=sh;rw [←e1] at g e2;rw [←YD key e3.big.2] at e;cases MA e3 (JG h3 ha) (nb h4) with
  |one knd m k k1 k2 k3 k4 k5=>exact De e (.one w k1 e2 (mapOf g k2) (by (exact C9 k4 rfl)))
  |two a i j xs t u n k1 k2 k3 k4 k5 k6 k7 k8=>exact De e (.two w k1 (IZ x.R.keep k2) e2 (IL x.R.keep g k4 k5 k6) (by rw [←k7,Option.isSome_map]))
theorem Ed{A:Bs}{n m:Nat}(h:A.units+n<B3)(l:m≤n):A.units+m<B3:=Ρ (BF l _) h
theorem eX{va vb:Bj}{r:Bool}{Q:Bj→Bl→Prop}(hu:A.units+2<B3)(w:Nk x A va vb r)(h: ∀t,Q (.bool r) {x.s with toks:=t}):Bp (Bq c.prog c.w) A (compareOp .In va vb) Q E x.s:=by
 cases w with
 |one w k1 z d e=>subst w;exact wpAny_in_of k1 z d.mapOf (e▸h _)
 |two w w2 k z d e=>subst w;subst w2;exact wpAny_in_heap (B7 (Ed hu (by decide))) k z d (e▸h _)
 |seq t rb ra l1 l2 l3 e=>cases t with
  |true=>exact SeqAt.in_tuple_reads rb ra l1 l2 (by exact C9 l3<|C9 (Nat.min_zero _)<|(Ed hu (by decide):A.units+1<B3)) (e▸h _)
  |false=>exact SeqAt.in_list_reads rb ra l1 l2 (by exact C9 l3<|C9 (Nat.min_zero _)<|(Ed hu (by decide):A.units+1<B3)) (e▸h _)
theorem S6{va vb:Bj}{r:Bool}{Q:Bj→Bl→Prop}(hu:A.units+2<B3)(w:Nk x A va vb r)(h: ∀t,Q (.bool (!r)) {x.s with toks:=t}):Bp (Bq c.prog c.w) A (compareOp .NotIn va vb) Q E x.s:=by
 cases w with
 |one w k1 z d e=>subst w;exact wpAny_notIn_of k1 z d.mapOf (e▸h _)
 |two w w2 k z d e=>subst w;subst w2;exact wpAny_notIn_heap (B7 (Ed hu (by decide))) k z d (e▸h _)
 |seq t rb ra l1 l2 l3 e=>cases t with
  |true=>exact SeqAt.notIn_tuple_reads rb ra l1 l2 (by exact C9 l3<|C9 (Nat.min_zero _)<|(Ed hu (by decide):A.units+1<B3)) (e▸h _)
  |false=>exact SeqAt.notIn_list_reads rb ra l1 l2 (by exact C9 l3<|C9 (Nat.min_zero _)<|(Ed hu (by decide):A.units+1<B3)) (e▸h _)
theorem Nq{value slice:Expr}{o i:Bj}{T id:String}{Q:Bj→Bl→Prop}(hT:s.TypeIs o T)(hl:Cu (.type T) "__getitem__" =pure (some (.builtin id)))
  (h:Bp (Bq c.prog c.w) A (getItem o i) Q E s):Bp (Bq c.prog c.w) A (subscriptTail value slice o i) Q E s:=by
 have go: ∀ops,Bp (Bq c.prog c.w) A (operate ops (getItem o i)) (λr G7=>Bp (Bq c.prog c.w) A (letTemporaryGo value o r>>=λO=>pure r) Q E G7) E s:=λops=>
  Co (Bu h (λr G7 Yf=>Bk (wpAny_letTemporaryGo (Bn Yf))) λO O x=>x)
 unfold subscriptTail;refine Bk ?_;refine C9 (getitemInPython_of_ne hT.not_modules) ?_;refine Bk (CU hT hl ?_)
 have fin:Bp (Bq c.prog c.w) A (subscripted slice false o i) (λr G7=>Bp (Bq c.prog c.w) A (letTemporaryGo value o r>>=λO=>pure r) Q E G7) E s:=by
  cases slice with
  |Slice _ _ u _=>cases u with
   |none=>exact go _
   |some=>exact go _
  |_=>exact go _
 first
  |exact Bn (Bk fin)
  |exact Bk (Bn (Bk fin))
  |exact Bk fin
theorem dE{l:List V}{n:Int}{y:V}(e:qO l n=some y): ∃k:Nat,n=k∧l[k]?=some y:=by
 cases n with
 |ofNat k=>exact (DM k rfl e)
 |negSucc k=>exact DC e
theorem RF{n k:Nat}(h1:n<k):seqIndex? (n:Int) k=some n:=by
 unfold seqIndex?
 have: ¬(n:Int)<0:=by lia
 simp only [if_neg this];exact C9 (if_pos (by simp only [A4,decide_eq_true_eq];lia)) rfl
theorem aH{n:Nat}(h:n≤big):(n:Int)<2^63:=by unfold big at h;lia
theorem Y'{value slice:Expr}{vo vi:Bj}{o i r:V}{Q:Bj→Bl→Prop}(hu:A.units+2<B3)(ho:x.VV vo o)(hi:x.VV vi i)(e:E9 x.σ o i=some r)(h:Ok x x.σ r Q):Bp (Bq c.prog c.w) A (subscriptTail value slice vo vi) Q E x.s:=by
 refine DA e λd h1 e=>DA e λq h2 e=> ?_;rw [Er h1] at hi;obtain ⟨p,ob,vs,w,g,sh,hv⟩:=Gk ho h2;obtain ⟨hd,l⟩:=q
 have nt:DN (Y2 d) (qO l)=some r→ ∃(n:Nat) (t:Tok) (val:Bj),vi= .int n t∧n<vs.length∧vs[n]?=some val∧x.VV val r:=λe=>by
  refine DA e λi h3 e=> ?_;refine DQ (dE e) λn w2 e=> ?_;refine DQ (hv.get e) λval z1 z2=> ?_;rw [Gs h3,w2] at hi;cases (hi:DV c x.hf vi (.int n)) with
  |int _ t=>exact (Ea n t val rfl (FG z1) z1 z2)
 subst w;cases hd with
 |inst=>exact DC e
 |lst=>
  obtain ⟨e1,hb,m,e2⟩:=sh;subst e2;refine Do (nt e) λn t val w2 lt z1 z2=> ?_;subst w2;have hq:=Dn (e1▸g);exact Nq hq.typeIs PySem.slot_list_getitem.lookup (wpAny_getItem_list hq (AP n) (aH (Υ (AY lt) hb)) (by simpa using z1) (h.here z2 _))
 |tup=>
  obtain ⟨e1,hb,m,e2⟩:=sh;subst e2;refine Do (nt e) λn t val w2 lt z1 z2=> ?_;subst w2;have hq:=ZO (e1▸g);exact Nq hq.typeIs slot_tuple_getitem.lookup (getItem_tuple hq (by have:=AP n;exact AP _) (aH (Υ (AY lt) hb)) (RF (by simpa using lt)) (by simpa using z1) (h.here z2 _))
 |Dg k ks=>
  refine DA e λkey h3 e=>DY e λh4 e=> ?_;obtain ⟨e1,e2,e3⟩:=sh;refine DQ (hv.YN e) λval z1 z2=> ?_;refine C9 e1 ?_;refine Nq (e3.typeIs g) PySem.slot_dict_getitem.lookup ?_;cases MA e3 (JG h3 hi) (nb h4) with
  |one knd m k k1 k2 k3 k4 k5=>exact wpAny_getItem_of k1 (mapOf g k2).mapOf (k4.trans z1) (h.here z2 _)
  |two a i j xs t u n k1 k2 k3 k4 k5 k6 k7 k8=>
   subst k1;refine DQ (Option.map_eq_some_iff.mp (k7.trans z1)) λp hp w3=> ?_;exact wpAny_getItem_heap (knd:=CN (B9 c.prog c.w)) (B7 (Ed hu (by decide))) (IZ x.R.keep k2) (IL x.R.keep g k4 k5 k6) hp (w3.symm▸h.here z2 _)
end
end
section
mutual open A
variable{c:Cx}{hf:HF}{A:Bs}{s:Bl}{E:Bj→Bl→Prop}{x:St c}
theorem E4{v:Bj}{i:Int}(h:DV c hf v (.int i)): ∃t,v= .int i t:=by cases h with|int _ t=>exact (EG t rfl)
theorem IQ{v:Bj}{b:Bool}(h:DV c hf v (.bool b)):v= .bool b:=by cases h;rfl
theorem KE{v:Bj}(h:DV c hf v .none):v= .none:=by cases h;rfl
theorem MP{a:V}(h:isNone a=true):a= .d .none:=by
 cases a with
 |cell=>exact ζ h
 |d d=>cases d<;>first|rfl|exact ζ h
theorem Su{v:Bj}{a:V}(h:x.VV v a):plainIs v .none=true∧(v==Bj.none)=isNone a:=by
 cases a with
 |cell=>exact let ⟨_,_,w⟩:=h;w▸⟨rfl,rfl⟩
 |d d=>cases (h:DV c x.hf v d)<;>exact ⟨rfl,rfl⟩
def MF:C4→Nat
 | .Eq=>0| .NotEq=>1| .Lt=>2| .LtE=>3| .Gt=>4| .GtE=>5| .Is=>6| .IsNot=>7| .In=>8| .NotIn=>9
theorem Jb{a b:V}{f:Int→Int→Bool}{r:Bool}{va vb:Bj}(ha:x.VV va a)(hb:x.VV vb b)(e:cH a b f=some r): ∃i j t u,va= .int i t∧vb= .int j u∧r=f i j:=by
 refine DA e λd h1 e=>DA e λi h2 e=>DA e λd' h3 e=>DA e λj h4 e=> ?_;rw [Er h1,Gs h2] at ha;rw [Er h3,Gs h4] at hb;exact let ⟨t,w⟩:=E4 ha;let ⟨u,w'⟩:=E4 hb;(TI i j t u w w' ((η e).symm))
theorem Lk(op:C4){va vb:Bj}{a b:V}{r:Bool}{Q:Bj→Bl→Prop}(hu:A.units+64<B3)(ha:x.VV va a)(hb:x.VV vb b)
  (e:FJ x.σ (MF op) a b=some r) (h: ∀t,Q (.bool r) {x.s with toks:=t}):Bp (Bq c.prog c.w) A (compareOp op va vb) Q E x.s:=by
 cases op with
 |Eq=>exact bI hu (Wm ha hb e) (h _)
 |NotEq=>exact DY e λh1 e=>DA e λr' h2 e=>De (P:=λr=>(∀t,Q (.bool r) {x.s with toks:=t})→_) e (λh=>cK hu (Wm ha hb h2) h1 (h _)) h
 |In=>exact eX (Ed hu (by decide)) (Vz ha hb e) h
 |NotIn=>exact DA e λr' h2 e=>De (P:=λr=>(∀t,Q (.bool r) {x.s with toks:=t})→_) e (λh=>S6 (Ed hu (by decide)) (Vz ha hb h2) h) h
 |Is=>
  refine DY e λh1 e=> ?_;rw [MP h1] at hb;refine Dl (Su ha) λp1 p2=> ?_;refine C9 (KE hb) ?_;exact wpAny_is_plain p1 (by exact C9 p2<|C9 (η e)<|h _)
 |IsNot=>
  refine DY e λh1 e=> ?_;rw [MP h1] at hb;refine Dl (Su ha) λp1 p2=> ?_;refine C9 (KE hb) ?_;exact wpAny_isNot_plain p1 (by exact C9 p2<|C9 (η e)<|h _)
 |Lt=>refine JK (Jb ha hb e) λi j t u bA Nu gG=> ?_;subst bA;subst Nu;subst gG;exact PySem.P.lt_int (h _)
 |LtE=>refine JK (Jb ha hb e) λi j t u bA Nu gG=> ?_;subst bA;subst Nu;subst gG;exact PySem.P.le_int (h _)
 |Gt=>refine JK (Jb ha hb e) λi j t u bA Nu gG=> ?_;subst bA;subst Nu;subst gG;exact PySem.P.gt_int (h _)
 |GtE=>refine JK (Jb ha hb e) λi j t u bA Nu gG=> ?_;subst bA;subst Nu;subst gG;exact PySem.P.ge_int (h _)
def jD:Operator→Nat
 | .Add=>0| .Sub=>1| .Mult=>2| .FloorDiv=>3| .Mod=>4|_=>9
theorem KA{i:Int}(h:small i=true): -(2^62)≤i∧i<2^62:=let ⟨a,b⟩:=band h;⟨of_decide_eq_true a,of_decide_eq_true b⟩
theorem VE{i:Int}(h:small i=true):Builtin.Int.intBits i≤64:=have ⟨a,b⟩:=KA h;PySem.intBits_le_64 (by lia) (by lia)
theorem N9{i:Int}(h:small i=true):i.natAbs.log2<63:=by
 refine Dl (KA h) λa b=> ?_
 by_cases h0:i.natAbs=0
 ·refine C9 h0 ?_;decide+kernel
 ·exact (Nat.log2_lt h0).mpr (by lia)
theorem Qe{i j:Int}(h:small j=true):Builtin.divisionGoesByPylong i j=false:=PyProof.noPylong_of_log2 (AQ (N9 h) (by decide))
theorem RQ{j:Int}(h:(!Dj j 0)=true):j≠0:=λz=>by rw [z] at h;exact ζ h
theorem i'{vs us:List Bj}{l m:List D}(a:KZ c hf vs l)(b:KZ c hf us m)(h:Ε (l.length+m.length) big=true):(vs++us).length≤big:=by
 exact C9 ε<|C9 a.length<|C9 b.length<|φ h
theorem wk(vs us:List Bj):vs.toArray++us.toArray=(vs++us).toArray:=by simp
theorem Rd{vs us:List Bj}(h:(vs++us).length≤big):vs.toArray.size+us.toArray.size≤sizeLine:=by
 rw [ε] at h;refine C9 Ν<|C9 Ν<|C9 Bw ?_;unfold big at h;exact ZI h rfl
theorem Ok.push{vs:List Bj}{l:List D}{hd:Hd}{o:Obj}{Q:Bj→Bl→Prop}(k:Ok x x.σ (.d (.nd hd l)) Q)(hv:KZ c x.hf vs l)(fr:o.isFreed=false)(sh: ∀Fg,ZB c Fg (x.s.heap.objs.size,x.s.heap.objs.size) o hd vs):Q (.ref x.s.heap.objs.size) {x.s with heap:=x.s.heap.push o}:=
 have kp: ∀b o',x.s.heap.get? b=some o'→(x.s.heap.push o).get? b=some o':=λO O e=>Β _ e
 k.new kp (Dc _) (Ξ _ fr) (.nd (p:=(x.s.heap.objs.size,x.s.heap.objs.size)) (GI _ _ _) (sh _) (hv.Pb (Hv (x.R.fresh (Dc _)).1))) x.s.toks
theorem gF{q q':Br}{vs us:List Bj}{n m:Nat}{l m':List D}{Q:Bj→Bl→Prop}(g1:x.s.heap.get? q=some (GZ vs n))(g2:x.s.heap.get? q'=some (GZ us m))(a1:KZ c x.hf vs l)(b1:KZ c x.hf us m')(a2:DV c x.hf (.ref q) (.nd .tup l))(b2:DV c x.hf (.ref q') (.nd .tup m'))
  (hz:(vs++us).length≤big) (h:Ok x x.σ (.d (.nd .tup (l++m'))) Q):Bp (Bq c.prog c.w) A (binaryOp .Add (.ref q) (.ref q')) Q E x.s:=by
 by_cases e1:vs= []
 ·subst e1
  cases a1;exact Cw (DM _ g1 rfl) (DM _ g2 rfl) PySem.noFill_tuple_add PySem.seq_tuple_add PySem.F.slot_tuple_add PySem.F.entry_tuple_add (PySem.F.args_tuple_add_2 _ _) (AutoSeq1.tuple___add___tuple_tuple_0 _ _ _ _ _ _ rfl) ⟨g1,g2,h.Mc b2⟩
 ·by_cases e2:us= []
  ·subst e2
   cases b1;rw [υ] at h;exact Cw (DM _ g1 rfl) (DM _ g2 rfl) PySem.noFill_tuple_add PySem.seq_tuple_add PySem.F.slot_tuple_add PySem.F.entry_tuple_add (PySem.F.args_tuple_add_2 _ _) (AutoSeq1.tuple___add___tuple_tuple_1 _ _ _ _ _ _ (by simpa using e1) rfl) ⟨g1,g2,h.Mc a2⟩
  ·refine Cw (DM _ g1 rfl) (DM _ g2 rfl) PySem.noFill_tuple_add PySem.seq_tuple_add PySem.F.slot_tuple_add PySem.F.entry_tuple_add (PySem.F.args_tuple_add_2 _ _) (AutoSeq1.tuple___add___tuple_tuple_2 _ _ _ _ _ _ (by simpa using e1) (by simpa using e2) (Rd hz)) ⟨g1,g2, ?_⟩
   refine C9 (wk _ _) ?_;exact h.push (a1.append b1) rfl λO=>⟨rfl,hz,0,rfl⟩
theorem Ua{op:Operator}{i j k:Int}{t u:Tok}{Q:Bj→Bl→Prop}(h4:ki (jD op) i j=some k)(hh: ∀t,Q (.int k t) {x.s with toks:=x.s.toks+1}):Bp (Bq c.prog c.w) A (binaryOp op (.int i t) (.int j u)) Q E x.s:=by
 have hq: ∀{k' t},some k'=some k→Q (.int k' t) {x.s with toks:=x.s.toks+1}:=λw=>(η w)▸hh _;cases op with
 |Add=>exact PySem.P.add_int (hq h4)
 |Sub=>exact PySem.P.sub_int (hq h4)
 |Mult=>exact DY h4 λh5 h4=>PySem.P.mul_int (hq h4) (IntMulOk.of_left (VE (band h5).1))
 |FloorDiv=>exact DY h4 λh5 h4=>floordiv_int (RQ (band h5).1) (hq h4) (.inl (Qe (band h5).2))
 |Mod=>exact DY h4 λh5 h4=>PyProof.Rows.mod_int (RQ h5) (hq h4)
 |_=>exact DC h4
theorem gk{h h':Hd}(e:heq h h'=true):(h= .tup∧h'= .tup)∨h= .lst∧h'= .lst:=by
 cases h with
 |tup=>cases h' with|tup=>exact .inl ⟨rfl,rfl⟩|_=>exact ζ e
 |lst=>cases h' with|lst=>exact .inr ⟨rfl,rfl⟩|_=>exact ζ e
 |_=>exact ζ e
theorem dH{n:Nat}{d d' z:D}(e:tR n d d'=some z):(∃i j k,d= .int i∧d'= .int j∧ki n i j=some k∧z= .int k)∨ ∃h h' l m,d= .nd h l∧d'= .nd h' m∧n=0∧heq h h'=true∧Ε (l.length+m.length) big=true∧z= .nd h (l++m):=by
 cases d with
 |int i=>cases d' with
  |int j=>exact DA e λk h4 e=> .inl (Ea i j k rfl rfl h4 (η e).symm)
  |_=>exact DC e
 |nd h l=>cases d' with
  |nd h' m=>exact DY e λh4 e=> .inr (Gn h h' l m rfl rfl (nb (band (band h4).1).1) ((band (band h4).1).2) ((band h4).2) ((η e).symm))
  |_=>exact DC e
 |_=>exact DC e
theorem YL(op:Operator){va vb:Bj}{a b r:V}{Q:Bj→Bl→Prop}(ha:x.VV va a)(hb:x.VV vb b)(e:M0 (jD op) a b=some r)(h:Ok x x.σ r Q):Bp (Bq c.prog c.w) A (binaryOp op va vb) Q E x.s:=by
 refine DA e λd h1 e=>DA e λd' h2 e=>DA e λz h3 e=> ?_;rw [Er h1] at ha;rw [Er h2] at hb;have ha:DV c x.hf va d:=ha;have hb:DV c x.hf vb d':=hb;rw [←η e] at h;clear e h1 h2;refine (dH h3).elim (λq=>Do q λi j k w1 w2 h4 w3=> ?_) λq=>Hl q λhd ZP l m w1 w2 h4 h5 hz w3=> ?_
 ·rw [w1] at ha
  rw [w2] at hb;rw [w3] at h;refine D3 (E4 ha) λt w4=>D3 (E4 hb) λu w5=> ?_;refine C9 w4<|C9 w5 ?_
  exact Ua h4 λt=>h.here (DV.int k t) _
 ·rw [w1] at ha
  rw [w2] at hb;rw [w3] at h;have w:op= .Add:=by cases op with|Add=>rfl|_=>exact Α h4
  refine C9 w ?_;clear h3 w1 w2 w3 h4 w;obtain ⟨p,o,vs,w,g,sh,hv⟩:=ha.shape;obtain ⟨p',o',us,w',g',vm,hu⟩:=hb.shape;have hz:=i' hv hu hz;have g:=x.R.keep _ _ g;have g':=x.R.keep _ _ g';rw [w] at ha ⊢;rw [w'] at hb ⊢;rcases gk h5 with e|e
  ·rw [e.1] at sh h ha
   rw [e.2] at vm hb;have ⟨e1,_,n,e2⟩:=sh;have ⟨f1,_,n',f2⟩:=vm;exact gF (e2▸e1▸g) (f2▸f1▸g') hv hu ha hb hz h
  ·rw [e.1] at sh h
   rw [e.2] at vm;have ⟨e1,_,n,e2⟩:=sh;have ⟨f1,_,n',f2⟩:=vm;exact PySem.P.add_list (e2▸e1▸g) (f2▸f1▸g') (by exact C9 (wk _ _)<|h.push (hv.append hu) rfl λO=>⟨rfl,hz,0,rfl⟩) (Rd hz)
theorem TZ{va:Bj}{a:V}{b:Bool}{Q:Bool→Bl→Prop}(ha:x.VV va a)(e:G1 x.σ a=some b)(h: ∀t,Q b {x.s with toks:=t}):Bp (Bq c.prog c.w) A (truthy va) Q E x.s:=by
 have sq:(DN (JB x.σ a) λl=>some (!l.isEmpty))=some b→Bp (Bq c.prog c.w) A (truthy va) Q E x.s:=λe=>by
  refine DA e λl h1 e=> ?_;obtain ⟨q,vs,n,w,g,hb,hv⟩:=UN ha h1;refine C9 w ?_;refine wpAny_truthy_list (Dn g) (by refine C9 Ν ?_;unfold big at hb;lia) ?_;exact C9 (show (!vs.toArray.isEmpty)=b from (by rw [List.isEmpty_toArray,NU hv];exact η e))<|h _
 cases a with
 |cell i=>exact sq e
 |d d=>cases d with
  |bool=>exact C9 (IQ ha)<|B1 (η e▸h _)
  |int i=>
   refine D3 (E4 ha) λt Ff=> ?_;subst Ff;exact PySem.P.truthy_int (by exact C9 (show (i !=0)=b from (show (!(i==0))=b by rw [XB];exact η e))<|h _)
  |_=>exact sq e
end
end
section
mutual open A
structure KF(K:B4)(CL:Nat→Br):Prop where
 ga: ∀c,(DX c).isEmpty=false→CV K (.ref (CL c)) "__getattribute__" =some (some (.builtin "object.__getattribute__"))
 cd: ∀c,(DX c).isEmpty=false→(clsIn K (CL c)).any (·.hasDict)=true
 na: ∀c a,a∈DX c→CV K (.ref (CL c)) (nm a)=some none
 sa: ∀c,(DX c).isEmpty=false→CV K (.ref (CL c)) "__setattr__" =some (some (.builtin "object.__setattr__"))
 po: ∀c,(DX c).isEmpty=false→plainOver K (CL c)=true
end
section
mutual open A
variable{c:Cx}{hf:HF}{A:Bs}{s:Bl}{E:Bj→Bl→Prop}{x:St c}{K:B4}{o:Obj}{as jg:List Nat}{vs D4:List Bj}
theorem DS.Jx{α β:Type}{R:α→β→Prop}{a:Nat}{u:α}{w:β}(hu:R u w)(as:List Nat): ∀{vs:List α} {l:List β},DS R vs l→DS R (Jx as vs a u) (Jx as l a w):=by
 induction as with
 |nil=>intro vs l h;exact h
 |cons y as ih=>intro vs l h;cases h with
  |nil=>exact .nil
  | @cons u' w' vs l a' b=>
   show DS R (cond (μ y a) (u::vs) (u'::Mine.Internal.Jx as vs a u)) (cond (μ y a) (w::l) (w'::Mine.Internal.Jx as l a w));cases μ y a with
   |true=>exact .cons hu b
   |false=>exact .cons a' (ih b)
theorem DS.Du{α β:Type}{R:α→β→Prop}{a:Nat}{w:β}(as:List Nat): ∀{vs:List α} {l:List β},DS R vs l→Du as l a=some w→ ∃u,Du as vs a=some u∧R u w:=by
 induction as with
 |nil=>intro vs l h e;cases l<;>exact DC e
 |cons y as ih=>intro vs l h e;cases h with
  |nil=>exact DC e
  | @cons u' w' vs l a' b=>
   have e:cond (μ y a) (some w') (Mine.Internal.Du as l a)=some w:=e
   show∃u,cond (μ y a) (some u') (Mine.Internal.Du as vs a)=some u∧R u w
   cases z:μ y a with
   |true=>rw [z] at e;exact (DM u' rfl (η e▸a'))
   |false=>rw [z] at e;exact ih b e
theorem Ph(h:Iv o as vs){a:Nat}(ha:a<Fw.length):lookIn (nm a) o=some (Du as vs a):=by
 obtain ⟨es,ep,hd,hk,_,hf⟩:=h.ex
 have z2:(es.toList.find? λd=>d.key.isStr (nm a)).map (·.val)=Du as vs a:=by
  refine Dr (hf a ha) ?_;unfold nsFind findBy;obtain ⟨l⟩:=es;simp
 unfold lookIn;refine C9 hd ?_;dsimp only;cases hfi:es.toList.find? (λx=>x.key.isStr (nm a)) with
 |some e=>rw [hfi] at z2;exact Dr z2 rfl
 |none=>
  rw [hfi] at z2;refine Dr z2 ?_;dsimp only;rw [if_neg]
  ·rfl
  ·intro w
   obtain ⟨e,he,hr⟩:=List.any_eq_true.mp w;obtain ⟨n,t,ht⟩:=hk e (Array.mem_toList_iff.mp he);unfold DictEntry.refKey at hr;rw [ht] at hr;exact ζ hr
theorem ZQ{v:Bj}{a:V}(h:x.VV v a):handedIn v=true:=by
 cases a with
 |d d=>cases (h:DV c x.hf v d)<;>rfl
 |cell=>exact DQ h λO O w=>w▸rfl
theorem U8(F:KF K c.CL)(X:K.In x.s.heap){v:Bj}{r b:V}{a:Nat}{expr:Bool}{Q:Bj→Bl→Prop}(hv:x.VV v r)(e:Hh x.σ r a=some b)(h:Ok x x.σ b Q):Bp (Bq c.prog c.w) A (getAttr v (nm a) expr) Q E x.s:=by
 refine wr λZ0 z0=> ?_;refine DA e λq h1 e=> ?_;obtain ⟨p,d,o,vs,w,g1,g2,ho,Hr⟩:=XR hv h1;have ha:=Po e;refine DQ (Hr.Du _ e) λval z1 z3=> ?_;refine DQ (any_some (F.cd q.1 (GU ha))) λcd zC hhd=> ?_;refine z0 ?_;refine C9 w ?_;refine get_value X (od:=some o) ⟨g1,rfl,rfl,g2⟩ (F.ga q.1 (GU ha)) (v:=val) ?_ (ZQ z3) (h.here z3 _);unfold findObj;refine C9 zC<|C9 (BX _ _)<|C9 (F.na q.1 a ha)<|C9 (BX _ _) ?_
 dsimp only;refine C9 (BX _ _)<|C9 (BX _ _) ?_
 unfold W.ownOf;refine C9 hhd<|C9 (if_pos rfl) ?_
 dsimp only;refine C9 (Ph ho (PL ha))<|C9 z1 ?_
 rfl
structure Z5(as:List Nat)(vs:List Bj)(a:Nat)(v:Bj)(jg:List Nat)(D4:List Bj):Prop where
 look: ∀b,Du jg D4 b=if b=a then some v else Du as vs b
 old:(∃u,Du as vs a=some u)→D4.length=vs.length
 new:Du as vs a=none→D4.length=vs.length+1
 len:jg.length=D4.length
 lim:D4.length≤100
theorem Iv.put{a:Nat}(hash:Int)(t:Tok){v:Bj}(h:Iv o as vs)(ha:a<Fw.length)(u:Z5 as vs a v jg D4):Iv (Obj.putName (nm a) hash (.str (nm a) t) v o) jg D4:=by
 obtain ⟨es,ep,hd,hk,hz,hf⟩:=h.ex;obtain ⟨cl,d,dt,sl⟩:=o;subst hd
 have look: ∀b,b<Fw.length→Du jg D4 b=if nm b=nm a then some v else nsFind es (nm b):=by
  intro b Oj;refine C9 (u.look _)<|C9 (hf b Oj) ?_
  by_cases q:b=a
  ·(exact C9 (if_pos q)<|C9 (if_pos (q▸rfl)) rfl)
  ·rw [if_neg q,if_neg λe=>q (KL Oj ha e)]
 have hfa:=hf a ha;refine ⟨?_,u.len,u.lim⟩;cases hi:es.findIdx? (·.key.isStr (nm a)) with
 |some i=>
  have hs: ∃u,Du as vs a=some u:=by
   rw [←hfa,nsFind,findBy_of_findIdx?,hi];obtain ⟨lt,_⟩:=Array.findIdx?_eq_some_iff_getElem.mp hi;exact ⟨es[i].val,by simp [Array.getElem?_eq_getElem lt]⟩
  refine ⟨_,ep,by simp only [Obj.putName_eq,Obj.putNameByArray,hi];rfl,hk.modify _ _,by (exact C9 Array.size_modify<|C9 hz<|C9 (u.old hs) rfl),λb Oj=> ?_⟩;refine C9 (look b Oj) ?_;exact findBy_modify (λn v=>v.isStr n) Bj.isStr_inj es (nm a) (nm b) v i hi
 |none=>
  have hs:Du as vs a=none:=by rw [←hfa,nsFind,findBy_of_findIdx?,hi]
  refine ⟨_,ep+1,by simp only [Obj.putName_eq,Obj.putNameByArray,hi];rfl,hk.push _ _ _ _,by (exact C9 (Array.size_push _)<|C9 hz<|C9 (u.new hs) rfl),λb Oj=> ?_⟩;refine C9 (look b Oj) ?_
  exact findBy_push (λn v=>v.isStr n) es (nm a) (nm b) _ _ v (λy=>by
   show (nm a==y)=decide (y=nm a)
   by_cases h:y=nm a
   ·subst h;simp
   ·have: ¬nm a=y:=λe=>h e.symm
    simp [h,this]) hi
theorem Ul{α:Type}{a:Nat}{v u:α}{as:List Nat}: ∀{vs:List α},Du as vs a=some u→(∀b,Du as (Jx as vs a v) b=if b=a then some v else Du as vs b)∧(Jx as vs a v).length=vs.length:=by
 induction as with
 |nil=>intro vs e;cases vs<;>exact DC e
 |cons y as ih=>intro vs e;cases vs with
  |nil=>exact DC e
  |cons w vs=>
   have e:cond (μ y a) (some w) (Du as vs a)=some u:=e;show (∀b,Du (y::as) (cond (μ y a) (v::vs) (w::Jx as vs a v)) b=if b=a then some v else cond (μ y b) (some w) (Du as vs b))∧(cond (μ y a) (v::vs) (w::Jx as vs a v)).length=_;cases z:μ y a with
   |true=>
    refine ⟨λb=> ?_,rfl⟩;show cond (μ y b) (some v) (Du as vs b)=_
    by_cases q:b=a
    ·exact C9 (if_pos q)<|C9 q<|C9 z rfl
    ·exact C9 (if_neg q)<|C9 (kS λw=>q (w.symm.trans (nb z))) rfl
   |false=>
    rw [z] at e;refine Dl (ih e) λi1 i2=> ?_;refine ⟨λb=> ?_,congrArg (· +1) i2⟩;show cond (μ y b) (some w) (Du as (Jx as vs a v) b)=_;refine C9 (i1 b) ?_
    by_cases q:b=a
    ·exact C9 (if_pos q)<|C9 (if_pos q)<|C9 q<|C9 z rfl
    ·(exact C9 (if_neg q)<|C9 (if_neg q) rfl)
theorem Z5.lI{a:Nat}{v u:Bj}(ho:Iv o as vs)(e:Du as vs a=some u):Z5 as vs a v as (Jx as vs a v):=
 Dl (Ul (v:=v) e) λi1 i2=>
 ⟨i1,λO=>i2,λh=>DC (h.symm.trans e),ho.len.trans i2.symm,i2▸ho.lim⟩
theorem Iv.ne(h:Iv o as vs): ∃es ep,o.data= .dict es ep∧es.size≤100∧StrKeys es:=IU h.ex λes ep h1 h2 h3 O=>(EK es ep h1 (h3▸h.lim) h2)
theorem NO(F:KF K c.CL)(X:K.In s.heap){q d:Br}{cl a:Nat}{v:Bj}{Q:Unit→Bl→Prop}(hq:s.heap.get? q=some (CB (c.CL cl) d))(hd:s.heap.get? d=some o)(ho:Iv o as vs)
  (ha:a∈DX cl) (up:Z5 as vs a v jg D4) (h: ∀t h' o',Bz.SameBut d s.heap h'→h'.get? d=some o'→Iv o' jg D4→Q () {s with heap:=h',toks:=t}):
  Bp (Bq c.prog c.w) A (setAttr (.ref q) (nm a) v) Q E s:=by
 have I:W.InstAt s.heap q (CB (c.CL cl) d) (c.CL cl) (some o):=⟨hq,rfl,rfl,hd⟩;refine set_plain X I (F.sa cl (GU ha)) ?_;have I':W.InstAt {s with toks:=s.toks+1}.heap q (CB (c.CL cl) d) (c.CL cl) (some o):=I;have X':K.In {s with toks:=s.toks+1}.heap:=X;have ht:takerIn K (c.CL cl) (nm a)=some none:=by unfold takerIn;exact C9 (F.na cl a ha) rfl
 refine osa_open X' I' (F.po cl (GU ha)) ht λb=> ?_;refine DQ (any_some (F.cd cl (GU ha))) λcd hc ZP=> ?_;refine Bk (Bn (Bk (Bk (wpAny_loadPart hq (Bk ((looks_clsIn X' hc).here ?_))))));refine C9 ZP ?_;refine Bn (a:=some d) (Bk (Bn (Bk ?_)));unfold nsSet;have hd2:{s with toks:=s.toks+1}.heap.get? d=some o:=hd;refine Bk (Bk (wpAny_askSetting (Bn (Bk (wpAny_mkText (Bk (wpAny_loadPart hd2 ?_)))))));refine D0 ho.ne λes ep e1 e2 e3=> ?_;refine C9 e1 ?_;dsimp only
 have c0:es.any (·.refKey)=false:=by
  refine C9 (propext (Array.any_eq_false')) ?_;intro e he;refine HY (e3 e he) λn t h=> ?_;simp [DictEntry.refKey,h]
 refine C9 (aRefKeyMayBeTheName_at _ _)<|C9 c0<|C9 (Bool.and_false _) ?_
 refine wpAny_updatePart hd2 ?_;have P:=ho.put (B2.keyHash c.w.params (nm a)) (s.toks+1) (PL ha) up;refine D0 P.ne λet xS f1 f2 f3=> ?_;have D':=BT (Obj.putName (nm a) (B2.keyHash c.w.params (nm a)) (.str (nm a) (s.toks+1)) v) hd (Obj.isFreed_of_dict f1);refine Bk (wpAny_lookBehind D' (by refine C9 f1 ?_;exact pastItsLine_dict (by exact C9 Bw<|ZI f2 rfl)) ?_);exact Bn (h _ _ _ (Bz.SameBut.update ..) D' P)
theorem F5.eM{ρ:RH}{σ:Store}{h:Bz}(X:K.In c.h₀)(R:F5 c hf ρ σ h):K.In h:=X.keeps λb o e=>R.keep b o (R.base b o e)
end
end
end
section
mutual open A
variable{c:Cx}{A:Bs}{s:Bl}{E:Bj→Bl→Prop}{x:St c}{K:B4}
theorem Oo(F:KF K c.CL)(X:K.In c.h₀){vo vv:Bj}{o v:V}{a:Nat}{DT:Store}{Q:Unit→Bl→Prop}(ho:x.VV vo o)(hv:x.VV vv v)
  (e:Kn x.σ o a v=some DT) (h:Did x DT (Q ())):Bp (Bq c.prog c.w) A (setAttr vo (nm a) vv) Q E x.s:=by
 refine DP e λd DD KX e=>IC KX hv λFg R' l dv=>DA e λr h1 e=>DA e λcl h2 e=>DA e λu h3 e=> ?_;obtain ⟨p,ob,vs,w,hp,hk,g,sh,Hr,hn⟩:=M7 (ho.le l) h1;rw [Mb h2] at sh hk;refine DQ (Hr.Du _ h3) λval z O=> ?_;refine C9 w ?_;refine NO F (R'.eM X) (R'.keep _ _ sh.1) g sh.2 (Po h3) (.lI sh.2 z) λt h' o' hs hg qL=> ?_;exact Did.turn (k':= .lv (.inst cl) (Jx (DX cl) r.2.2 a (.d d))) (h.after l) (η e) hk rfl hp hs rfl (FK hn o' _ hg ⟨sh.1,qL⟩ (Hr.Jx (a:=a) (w:= .d d) dv _)) t
theorem Qr{l:Br}{vs:List Bj}{n:Nat}{k:Int}{t:Tok}{v:Bj}{Q:Unit→Bl→Prop}(hl:s.heap.get? l=some (E0 vs n))(h0:0≤k)(vY:k<2^63)(hn:k<vs.length)
  (hQ: ∀h',(∃m,h'.get? l=some (E0 (vs.set k.toNat v) m))→Bz.SameBut l s.heap h'→Q () {s with heap:=h'}):Bp (Bq c.prog c.w) A (setItem (.ref l) (.int k t) v) Q E s:=by
 have hL:=Dn hl;unfold setItem
 try with_reducible refine Bt ?_
 first|refine Bk (Bn ?_)|skip
 refine Bk (wpAny_sequenceKey hL.typeIs (by decide) ?_);refine Bk (wpAny_callSpecial?_slot (name:=θ "__setitem__") hL.typeIs slot_list_setitem (Ce slot_list_setitem hL.typeIs entry_list_setitem ?_ (args_list_setitem _ _ _)));show Bp _ _ (Builtin.List.listSubscript? (.int k t)>>=_) _ _ s;refine Bk (wpAny_listSubscript_int (fitsIndex_of h0 vY) ?_);clear vY;refine D3 (Int.eq_ofNat_of_zero_le h0) λj Ff=> ?_;subst Ff;have hj:j<vs.toArray.size:=by simp;lia
 show Bp _ _ ((seqItemAt l j>>=λr=>pure (r.map (j,·)))>>=_) _ _ s;refine Bk (Bk (wpAny_seqItemAt hl rfl (Bn ?_)));refine C9 (Array.getElem?_eq_getElem hj) ?_;show Bp _ _ (setSeqItemAt l j v>>=_) _ _ s;have up:IsL (s.heap.update l (Obj.mapSeq (·.setIfInBounds j v))) l (vs.toArray.setIfInBounds j v) _:=IsL.update hl _;rw [List.setIfInBounds_toArray] at up;have fin:=hQ (s.heap.update l (Obj.mapSeq (·.setIfInBounds j v))) (EG _ up) (Bz.SameBut.update ..);refine Bk (wpAny_setSeqItemAt hl rfl ?_)
 first
  |exact Bk (Bn (Bn (DM .none rfl (Bn fin))))
  |exact Bn (DM .none rfl (Bn fin))
theorem Xr{l l':List V}{d:D}{i:Int}(e:nS l d i=some l'): ∃n:Nat,i=n∧n<l.length∧l'=l.set n (.d d):=by
 cases i with
 |ofNat n=>exact DY e λh e=>(ED n rfl (Ds.mp h) ((η e).symm))
 |negSucc=>exact DC e
theorem K6{n m:Nat}(h:n<big)(e:m=n):m≤sizeLine:=by refine C9 e<|C9 Bw ?_;unfold big at h;exact QB h rfl
theorem Oy(hu:A.units+2<B3){vo vi vv:Bj}{o i v:V}{DT:Store}{Q:Unit→Bl→Prop}(ho:x.VV vo o)(hi:x.VV vi i)(hv:x.VV vv v)
  (e:GO x.σ o i v=some DT) (h:Did x DT (Q ())):Bp (Bq c.prog c.w) A (setItem vo vi vv) Q E x.s:=by
 refine DP e λd DD KX e=>IC KX hv λFg R' l dv=>DA e λr h1 e=>DA e λkd h2 e=>DA e λq h3 e=> ?_;obtain ⟨p,ob,vs,w,hp,hk,g,sh,Hr,hn⟩:=M7 (ho.le l) h1;have hi:=hi.le l;rw [Er h2] at hi;have h:=h.after l;have es:=η e;clear e KX h1 h2;obtain ⟨j,hd,m⟩:=r;refine C9 w ?_;cases hd with
 |Dg kk ks=>
  refine DA h3 λkey h4 e=>DY e λh5 e=> ?_;refine Dl (band h5) λh5 h6=> ?_;obtain ⟨s1,s2,s3⟩:=sh;have Eb:vs.length<big:=s3.big.2▸Ds.mp h6
  have fin: ∀h' t,(∃o',h'.get? p.2=some o'∧EA c Fg o' kk (D2 ks key) (Dz ks vs key vv))→Bz.SameBut p.2 x.s.heap h'→Q () {x.s with heap:=h',toks:=t}:=λh' t ⟨o',Jv,gS⟩ hs=>
   Did.turn (k':= .lv (.Dg kk (D2 ks key)) (Dz ks m key (.d d))) h ((congrArg (λq:Hd×List V=>QD DD j q.1 q.2) (η e)).trans es) hk rfl hp hs rfl (FK hn o' _ Jv ⟨s1,s2,gS⟩ (Hr.put (x:=key) (w:= .d d) dv ks)) t
  refine C9 s1 ?_;cases MA s3 (JG h4 hi) (nb h5) with
  |one knd m k k1 k2 k3 k4 k5=>exact wpAny_setItem_pairs k1 (mapOf g k2) (λh' hm hs=>fin h' _ (DQ (BI.mp hm) λo' Jv gS=>(DM o' Jv (k5 vv o' Eb gS))) hs) (K6 Eb k3)
  |two a i j xs t u n k1 k2 k3 k4 k5 k6 k7 k8=>
   subst k1;exact wpAny_setItem_heap (knd:=CN (B9 c.prog c.w)) (B7 (Ed hu (by decide))) (IZ R'.keep k2) (IL R'.keep g k4 k5 k6) (λh' hm hs=>fin h' _ (Ib hm λo' es ep Jv d1 d2 d3 O O=>(DM o' Jv (k8 vv o' Eb (EK es ep d1 d2 d3)))) hs) (K6 Eb ((ι ..).trans k3))
 |lst=>
  refine DA h3 λn h4 e=>DA e λm' h5 e=> ?_;refine ES (Xr h5) λn' w2 lt iu=> ?_;subst iu;rw [Gs h4,w2] at hi;refine D3 (E4 hi) λt Ff=> ?_;subst Ff;obtain ⟨s1,s2,nn,s3⟩:=sh;subst s3;refine C9 s1 ?_;have lt':n'<vs.length:=Hr.length▸lt;refine Qr g (AP n') (aH (Υ (AY lt') s2)) (by lia) λh' ⟨m2,hm⟩ hs=> ?_;exact Did.turn (k':= .lv .lst (m.set n' (.d d))) h ((congrArg (λq:Hd×List V=>QD DD j q.1 q.2) (η e)).trans es) hk rfl hp hs rfl (FK hn _ _ hm ⟨s1,by exact C9 Φ<|s2,m2,rfl⟩ (show DS (VV c Fg (x.ρ.take j)) (vs.set n' vv) (m.set n' (V.d d)) from DS.set (u:=vv) (y:=V.d d) dv Hr n')) x.s.toks
 |_=>exact DC h3
inductive nQ(x:St c)(v:Bj)(i:Nat)(l:List V):Prop
 |mk (p:Br×Br) (vs:List Bj) (n:Nat) (w:v= .ref p.2) (hp:x.ρ[i]?=some p) (hk:x.σ[i]?=some (.lv .lst l)) (g:x.s.heap.get? p.2=some (E0 vs n)) (hb:vs.length≤big) (hv:DS (VV c x.hf (x.ρ.take i)) vs l) (hn:x.hf p.2=none) (s1:p.1=p.2)
theorem cu{v:Bj}{a:V}{r:Nat×List V}(hv:x.VV v a)(e:mH x.σ a=some r):nQ x v r.1 r.2:=by
 refine DA e λq h1 e=>DY e λh2 e=> ?_;obtain ⟨p,ob,vs,w,hp,hk,g,sh,Hr,hn⟩:=M7 hv h1;rw [cy h2] at hk sh;obtain ⟨s1,s2,n,rfl⟩:=sh;exact De e ⟨p,vs,n,s1▸w,hp,hk,g,s2,Hr,hn,s1⟩
inductive nM(x:St c)(v:Bj)(l:List D)(DT:Store):Prop
 |mk (i:Nat) (p:Br×Br) (vs:List Bj) (n:Nat) (m:List V) (w:v= .ref p.2) (hp:x.ρ[i]?=some p) (hk:x.σ[i]?=some (.lv .lst m)) (g:x.s.heap.get? p.2=some (E0 vs n)) (hv:DS (VV c x.hf (x.ρ.take i)) vs m) (hn:x.hf p.2=none) (s1:p.1=p.2) (lt:vs.length+l.length<big) (e:DT=x.σ.set i (.lv .lst (m++l.map .d)))
theorem Tq{v:Bj}{a:V}{l:List D}{DT:Store}(hv:x.VV v a)(e:G9 x.σ a l=some DT):nM x v l DT:=by
 refine DA e λr h1 e=>DY e λh2 e=> ?_;obtain ⟨p,vs,n,w,hp,hk,g,s2,Hr,hn,s1⟩:=cu hv h1;exact ⟨r.1,p,vs,n,r.2,w,hp,hk,g,Hr,hn,s1,Hr.length▸Ds.mp h2,(η e).symm⟩
theorem Q7{vo vv:Bj}{o v:V}{DT:Store}{Q:Bj→Bl→Prop}(ho:x.VV vo o)(hv:x.VV vv v)(e:Pw x.σ o v=some DT)(h:Did x DT (Q .none)):Bp (Bq c.prog c.w) A (call (.builtin "list.append") [vo,vv]) Q E x.s:=by
 refine DP e λd DD KX e=>IC KX hv λFg R' l dv=> ?_;obtain ⟨i,p,vs,n,m,rfl,hp,hk,g,Hr,hn,s1,lt,rfl⟩:=Tq (ho.le l) e;refine Ch PySem.F.slot_list_append (DM _ g rfl) PySem.F.entry_list_append (PySem.F.args_list_append_2 _ _) (list_append p.2 vs.toArray n vv (by refine C9 Ν<|C9 Bw ?_;simp only [List.length_singleton] at lt;unfold big at lt;exact zqD lt rfl)) ⟨g, ?_⟩;have this:=IsL.update (g:IsL x.s.heap p.2 vs.toArray n) (λx=>x.push vv);rw [List.push_toArray] at this;exact Did.turn (k':= .lv .lst (m++ [V.d d])) (h.after l) rfl hk rfl hp (Bz.SameBut.update ..) rfl (FK hn _ (vs++ [vv]) this ⟨s1,by exact C9 ε<|AY lt,_,rfl⟩ (Hr.append (DS.cons (b:=V.d d) dv .nil))) x.s.toks
theorem Yn{vo:Bj}{o r:V}{DT:Store}{Q:Bj→Bl→Prop}(ho:x.VV vo o)(e:pM x.σ o=some (r,DT))(h:Ok x DT r Q):Bp (Bq c.prog c.w) A (call (.builtin "list.pop") [vo]) Q E x.s:=by
 refine DA e λq h1 e=>DA e λy hy e=> ?_;obtain ⟨p,vs,n,rfl,hp,hk,g,s2,Hr,hn,s1⟩:=cu ho h1;cases e;refine DQ (Hr.last hy) λu hu huy=> ?_;have RP:vs≠ []:=by rintro rfl;cases hu
 have hp0:=List.length_pos_iff.mpr RP;refine Ch PySem.F.slot_list_pop (DM _ g rfl) PySem.F.entry_list_pop (PySem.F.args_list_pop_1 _) (MeetsSeq.list_pop_last p.2 vs.toArray n u (by rw [BE] at hu;simpa using hu) (by refine C9 Ν<|C9 Bw ?_;unfold big at s2;exact ZI s2 rfl)) ⟨g, ?_⟩;have this:=IsL.update (g:IsL x.s.heap p.2 vs.toArray n) (λxs=>xs.eraseIdxIfInBounds (vs.toArray.size - 1))
 rw [show vs.toArray.eraseIdxIfInBounds (vs.toArray.size - 1)=vs.dropLast.toArray by
  (exact C9 (List.eraseIdxIfInBounds_toArray _ _)<|C9 Ν<|C9 (List.eraseIdx_eq_take_drop_succ _ _)<|C9 List.dropLast_eq_take<|C9 (List.drop_eq_nil_of_le (by lia))<|C9 (υ _) rfl)] at this
 exact Did.turn (k':= .lv .lst q.2.dropLast) (Q:=λs'=>Q u s') (λz lz ez=>h u z lz ez (VV.le huy.up lz)) rfl hk rfl hp (Bz.SameBut.update ..) rfl (FK hn _ vs.dropLast this ⟨s1,by refine C9 List.length_dropLast ?_;lia,_,rfl⟩ Hr.dropLast) x.s.toks
theorem K5{vo vv:Bj}{o:V}{l:List D}{DT:Store}{Q:Bj→Bl→Prop}(ho:x.VV vo o)(hv:DV c x.hf vv (.nd .lst l))(e:G9 x.σ o l=some DT)(h:Did x DT (Q .none)):Bp (Bq c.prog c.w) A (call (.builtin "list.extend") [vo,vv]) Q E x.s:=by
 obtain ⟨i,p,vs,n,m,rfl,hp,hk,g,Hr,hn,s1,lt,rfl⟩:=Tq ho e;obtain ⟨a,ob,us,rfl,ha,⟨s2,hb,n',rfl⟩,TE⟩:=hv.shape;have hu:=TE.length;refine Ch PySem.F.slot_list_extend (DM _ g rfl) PySem.F.entry_list_extend (PySem.F.args_list_extend_2 _ _) (AutoSeq1.list_extend_list_list_0 p.2 vs.toArray n a.1 us.toArray n' ?_ ?_ ?_) ⟨g,s2▸x.R.keep _ _ ha, ?_⟩
 ·(refine C9 (show Builtin.List.listTooLong (vs.toArray.size+us.toArray.size)=false by
   unfold Builtin.List.listTooLong;rw [Ν,Ν,Bw];exact decide_eq_false (by unfold big at lt;lia))<|C9 (Bool.and_false _) ?_)
  decide
 ·refine C9 Ν<|C9 Bw ?_;unfold big at lt;exact zqD lt rfl
 ·refine C9 Ν<|C9 Ν<|C9 Bw ?_;unfold big at lt;lia
 ·have this:=IsL.update (g:IsL x.s.heap p.2 vs.toArray n) (λx=>x++us.toArray)
  rw [wk] at this;exact Did.turn (k':= .lv .lst (m++l.map V.d)) h rfl hk rfl hp (Bz.SameBut.update ..) rfl (FK hn _ (vs++us) this ⟨s1,by refine C9 ε ?_;lia,_,rfl⟩ (Hr.append (KZ.vF TE))) x.s.toks
end
end
section
mutual open A
variable{c:Cx}{hf:HF}{A:Bs}{s:Bl}{E:Bj→Bl→Prop}{x:St c}
theorem OP{vs:List Bj}(h:vs.length≤big):vs.toArray.size≤sizeLine:=by refine C9 Ν<|C9 Bw ?_;unfold big at h;exact ZI h rfl
theorem YZ{va:Bj}{a:V}{q:Hd×List V}{n:Nat}{Q:Bj→Bl→Prop}(ha:x.VV va a)(e1:G4 x.σ a=some q)(e:vE q.2 q.1=some n)(h: ∀u t,Q (.int n u) {x.s with toks:=t}):Bp (Bq c.prog c.w) A (call (.builtin "len") [va]) Q E x.s:=by
 obtain ⟨p,o,vs,rfl,g,sh,hv⟩:=Gk ha e1;obtain ⟨hd,l⟩:=q;cases hd with
 |inst=>exact DC e
 |lst=>
  obtain ⟨s1,s2,m,rfl⟩:=sh;exact Calls.call_len_list (Dn (s1▸g)) (by refine C9 Ν ?_;unfold big at s2;lia) (by exact C9 Ν<|C9 hv.length<|C9 (η e)<|h _ _)
 |tup=>
  obtain ⟨s1,s2,m,rfl⟩:=sh;exact PySem.P.len_tuple (s1▸g) (by refine C9 Ν ?_;unfold big at s2;lia) (by exact C9 Ν<|C9 hv.length<|C9 (η e)<|h _ _)
 |Dg k ks=>
  refine DY e λh1 e=> ?_;obtain ⟨s1,s2,s3⟩:=sh;have hb:=s3.big;have en:vs.length=n:=hb.2.symm.trans (η e);cases s3 with
  |pr=>exact ζ h1
  |np _ b1 b2 b3=>
   have hl:=b3.len.1.trans en;exact call_len_dict (s1▸s2) (mapOf (s1▸g) b2) (by refine C9 hl<|Dr en ?_;unfold big at b1;lia) (by exact C9 hl<|h _ _)
theorem Y3{va:Bj}{us:List Bj}{a r:V}{vs:List V}{Q:Bj→Bl→Prop}(hu:A.units+2<B3)(ha:x.VV va a)(TE:x.GC us vs)(e:cA x.σ a vs=some r)(h:Ok x x.σ r Q):Bp (Bq c.prog c.w) A (call (.builtin "dict.get") (va::us)) Q E x.s:=by
 refine DA e λq h1 e=> ?_;obtain ⟨p,o,ws,rfl,g,z,ho,hv⟩:=LO ha h1;cases TE with
 |nil=>exact DC e
 |cons a1 a2=>
  refine DA e λd h2 e=>DA e λkey h3 e=>DY e λh4 e=> ?_;rw [Er h2] at a1;have lkp:=hv.look key q.2.1
  have fin: ∀(r':Option Bj) (dv:Bj) (dw:V) t,x.VV dv dw→(DU q.2.1 q.2.2 key).getD dw=r→r'=DU q.2.1 ws key→Q (r'.getD dv) {x.s with toks:=t}:=λr' dv dw t hd er w=>by
   subst w;refine h.here ?_ t;refine Dr er ?_;rcases lkp with ⟨z1,z2⟩|⟨u,y,z1,z2,z3⟩
   ·exact C9 z1<|C9 z2 hd
   ·exact C9 z1<|C9 z2 z3
  cases a2 with
  |nil=>
   have fin:=λr' t=>fin r' .none (.d .none) t .none (η e);cases MA ho (JG h3 a1) (nb h4) with
   |one knd m k k1 k2 k3 k4 k5=>exact CX PySem.F.slot_dict_get (ho.typeIs g) PySem.F.entry_dict_get (PySem.F.args_dict_get_2 _ _) (meets_dict_get knd p k1 z) (DM _ ((mapOf g k2).mapOf) (fin _ _ k4))
   |two b i j xs t u n k1 k2 k3 k4 k5 k6 k7 k8=>
    subst k1;exact CX PySem.F.slot_dict_get (ho.typeIs g) PySem.F.entry_dict_get (PySem.F.args_dict_get_2 _ _) (meetsH_dict_get (CN (B9 c.prog c.w)) p b z) (FK (B7 (Ed hu (by decide):A.units+1<B3)) _ _ (IZ x.R.keep k2) (IL x.R.keep g k4 k5 k6) (fin _ _ k7))
  | @cons dv dw _ _ b1 b2=>cases b2 with
   |cons=>exact DC e
   |nil=>
    have fin:=λr' t=>fin r' dv dw t b1 (η e);cases MA ho (JG h3 a1) (nb h4) with
    |one knd m k k1 k2 k3 k4 k5=>exact CX PySem.F.slot_dict_get (ho.typeIs g) PySem.F.entry_dict_get (PySem.F.args_dict_get_3 _ _ _) (meets_dict_get_default knd p k1 z dv) (DM _ ((mapOf g k2).mapOf) (fin _ _ k4))
    |two b i j xs t u n k1 k2 k3 k4 k5 k6 k7 k8=>
     subst k1;exact CX PySem.F.slot_dict_get (ho.typeIs g) PySem.F.entry_dict_get (PySem.F.args_dict_get_3 _ _ _) (meetsH_dict_get_default (CN (B9 c.prog c.w)) p b z dv) (FK (B7 (Ed hu (by decide):A.units+1<B3)) _ _ (IZ x.R.keep k2) (IL x.R.keep g k4 k5 k6) (fin _ _ k7))
theorem S4{va:Bj}{l:List D}{Q:Bj→Bl→Prop}(ha:DV c x.hf va (.nd .lst l))(h:Ok x x.σ (.d (.nd .tup l)) Q):Bp (Bq c.prog c.w) A (call (.type "tuple") [va]) Q E x.s:=by
 obtain ⟨p,o,vs,rfl,g,⟨s1,s2,n,rfl⟩,hv⟩:=ha.shape;refine call_tuple_list (Dn (s1▸x.R.keep _ _ g)) (λh' k=> ?_) (OP s2);have k2: ∀b o,x.s.heap.get? b=some o→(h'.push (GZ vs 0)).get? b=some o:=λb o e=>Β _ (k b o e);exact h.new k2 (H7 k (Dc h')) (Ξ _ rfl) (.nd (p:=(h'.objs.size,h'.objs.size)) (GI _ _ _) ⟨rfl,s2,0,rfl⟩ (hv.Pb (Hv (x.R.fresh (H7 k (Dc h'))).1))) x.s.toks
theorem U6{va:Bj}{l:List D}{Q:Bj→Bl→Prop}(ha:DV c x.hf va (.nd .lst l))(h:Ok x x.σ (.d (.nd .lst l)) Q):Bp (Bq c.prog c.w) A (call (.type "list") [va]) Q E x.s:=by
 obtain ⟨p,o,vs,rfl,g,⟨s1,s2,n,rfl⟩,hv⟩:=ha.shape;refine call_list_seq p.1 (.inl rfl) (s1▸x.R.keep _ _ g) rfl rfl (λh' c' k ho=> ?_) (OP s2);exact h.new k (Dc _) ho (.nd (p:=(x.s.heap.objs.size,x.s.heap.objs.size)) (GI _ _ _) ⟨rfl,s2,c',rfl⟩ (hv.Pb (Hv (x.R.fresh (Dc _)).1))) x.s.toks
theorem X8{va:Bj}{i:Int}{Q:Bj→Bl→Prop}(ha:DV c hf va (.int i))(h: ∀u t,Q (.int i.natAbs u) {s with toks:=t}):Bp (Bq c.prog c.w) A (call (.builtin "abs") [va]) Q E s:=by
 refine D3 (E4 ha) λt Ff=> ?_;subst Ff;refine call_abs_int λu tk=> ?_;exact C9 (show (if i<0 then -i else i)=(i.natAbs:Int) by split<;>lia)<|h _ _
theorem ZH{va:Bj}{i:Int}{Q:Bj→Bl→Prop}(ha:DV c hf va (.int i))(h: ∀u,Q (.int i u) s):Bp (Bq c.prog c.w) A (call (.type "int") [va]) Q E s:=by
 refine D3 (E4 ha) λt Ff=> ?_;subst Ff;exact call_int_int (h _)
theorem Se(d:D):JW d=true→plain d=true∧(EY d).showable=true∧(EY d).hasDict=false:=
 D.rec (motive_1:=λd=>JW d=true→plain d=true∧(EY d).showable=true∧(EY d).hasDict=false) (motive_2:=λl=>JW.Np l=true→plain.FF l=true∧B2.showableAll (EY.toPys l)=true∧B2.hasDictAll (EY.toPys l)=false)
  (λO=>⟨rfl,rfl,rfl⟩) (λO e=>ζ e) (λi e=>⟨rfl,by
   have e:small i=true:=e
   have:=N9 e
   refine decide_eq_true ?_;exact IJ this rfl,rfl⟩) (λO O=>⟨rfl,rfl,rfl⟩) (λO e=>ζ e) (λh l ih e=>by
   refine Dl (band e) λe1 e2=> ?_;refine C9 (Vy e1) ?_;exact ih e2) (λO=>⟨rfl,rfl,rfl⟩) (λd l i1 i2 e=>by
   refine wr λZ0 z0=> ?_;refine Dl (band e) λe1 e2=> ?_;refine ET (i1 e1) λa1 a2 a3=> ?_;refine ET (i2 e2) λb1 b2 b3=> ?_;refine z0 ?_;exact ⟨by show (plain d&&plain.FF l)=true;exact C9 a1<|C9 b1 rfl,by show ((EY d).showable&&B2.showableAll (EY.toPys l))=true;exact C9 a2<|C9 b2 rfl,by show ((EY d).hasDict||B2.hasDictAll (EY.toPys l))=false;exact C9 a3<|C9 b3 rfl⟩) d
theorem Vc{va:Bj}{l:List D}{r:V}{Q:Bj→Bl→Prop}(hg:A.guards=some [])(hu:A.units+64<B3)(ha:DV c x.hf va (.nd .tup l))(e:PC (.nd .tup l)=some r)(h:Ok x x.σ r Q):Bp (Bq c.prog c.w) A (call (.builtin "repr") [va]) Q E x.s:=by
 refine wr λZ0 z0=> ?_;refine DY e λh1 e=> ?_;refine Dl (band h1) λh1 h2=> ?_;refine Dl (band h1) λh1 h3=> ?_;refine ET (Se _ h1) λp1 p2 p3=> ?_;refine D3 (DV.reads x.R.keep ha p1) λas ra=> ?_;obtain ⟨p,_,_,rfl,_⟩:=ha.shape;refine z0 ?_;have hd:=φ h3;have hz:=φ h2;rw [←η e] at h;exact repr_of_reads' ra p2 (λx=>by rw [p3] at x;cases x) hg (by refine C9 (PE _) ?_;lia) (λO O x=>x) (λh' u tk k=>h.keeps k (DV.str _ _) tk) (by show (FX _).length≤_;exact C9 Bw<|ZI hz rfl)
end
end
section
mutual open A
def Kj(o:Obj):Bool:=match o.cls with
 | .type n=> !(["enumerate", "zip", "dict_itemiterator", "dict_reverseitemiterator", "odict_iterator", "itertools.zip_longest", "itertools.pairwise"].contains n)
 |_=>true
structure Wk(c:Cx)(free:Br→Prop)(hf:HF)(ρ:RH)(l:List D)(I:Br)(fp wr:List Br)(P:Nat→Bj→Prop)(S:Nat→Bz→Prop):Prop where
 W: ∀A:Bs,A.handled=none→C5 c.prog c.w A I fp wr l.length P S
 ex: ∀i h,S i h→(∃o,h.get? I=some o∧Kj o=true)∧ ∀b∈fp,∃o,h.get? b=some o
 dv: ∀(i:Nat) v d,P i v→l[i]?=some d→DV c hf v d
 f1: ∀b∈fp,(∃o,hf b=some o)∨b∈wr
 f2: ∀b∈wr,hf b=none∧(∀p∈ρ,p.2≠b)∧free b
def EP(c:Cx)(free:Br→Prop)(hf:HF)(ρ:RH)(it:Bj)(l:List D)(i:Nat)(h:Bz):Prop:= ∃I fp wr P S,it= .ref I∧Wk c free hf ρ l I fp wr P S∧S i h
end
section
mutual open A
variable{c:Cx}{free:Br→Prop}{hf Fg:HF}{ρ G8:RH}{A:Bs}{s:Bl}{E:Bj→Bl→Prop}{x y:St c}{K:B4}{it:Bj}{l:List D}{i:Nat}
theorem Wk.off{I:Br}{fp wr:List Br}{P:Nat→Bj→Prop}{S:Nat→Bz→Prop}(w:Wk c free hf ρ l I fp wr P S){b:Br}(hb:b∈wr)(q:(∃o,hf b=some o)∨(∃p∈ρ,p.2=b)∨ ¬free b){Z:Prop}:Z:=by
 refine ET (w.f2 b hb) λg1 g2 g3=> ?_;rcases q with ⟨o,q⟩|⟨p,hp,q⟩|q
 ·exact DC (g1.symm.trans q)
 ·exact absurd q (g2 p hp)
 ·exact absurd g3 q
theorem EP.Jz{h h':Bz}{σ DT:Store}(w:EP c free hf ρ it l i h)(R:F5 c hf ρ σ h)(N:Os hf ρ h Fg G8 h')(R':F5 c Fg G8 DT h'):EP c free Fg G8 it l i h':=by
 refine FT w λI fp wr P S e w st=> ?_;refine (GX I fp wr P S e ⟨w.W,w.ex,λi v d p q=>(w.dv i v d p q).mono N.kf,λb hb=>(w.f1 b hb).imp (λ⟨o,ho⟩=>(EG o (N.kf _ _ ho))) id,λb hb=> ?_⟩ ((w.W {} rfl).frame i h h' st λb hb o e=> ?_))
 ·refine ET (w.f2 b hb) λg1 g2 g3=> ?_
  refine D3 ((w.ex i h st).2 b ((w.W {} rfl).sub b hb)) λo ho=> ?_;refine ⟨?_,λp hp e=> ?_,g3⟩
  ·cases q:Fg b with
   |none=>rfl
   |some o'=>
    rcases N.FA b o' q with z|⟨p,hp,z⟩|z
    ·exact DC (g1.symm.trans z)
    ·exact absurd z (g2 p hp)
    ·exact DC (z.symm.trans ho)
  ·rcases N.EE p hp with ⟨q,hq,z⟩|z
   ·exact g2 q hq (z.trans e)
   ·exact DC (z.symm.trans (e▸ho))
 ·rcases w.f1 b hb with ⟨o',Jv⟩|n
  ·exact Dr (η ((R.keep _ _ Jv).symm.trans e))<|R'.keep _ _ (N.kf _ _ Jv)
  ·exact N.Ee b o e (w.f2 b n).2.1
theorem EP.more{h:Bz}{X:Br→Prop}(hx: ∀b,X b→h.get? b=none)(w:EP c free hf ρ it l i h):EP c (λb=>free b∧ ¬X b) hf ρ it l i h:=by
 refine FT w λI fp wr P S e w st=> ?_;refine (GX I fp wr P S e ⟨w.W,w.ex,w.dv,w.f1,λb hb=> ?_⟩ st);refine D3 ((w.ex i h st).2 b ((w.W {} rfl).sub b hb)) λo ho=> ?_;exact (Vt ((w.f2 b hb).1) ((w.f2 b hb).2.1) ((w.f2 b hb).2.2) (λz=>DC ((hx b z).symm.trans ho)))
theorem EP.other{h h':Bz}{S:Br}(w:EP c free hf ρ it l i h)(k: ∀b o,b≠S→h.get? b=some o→h'.get? b=some o)(h1:hf S=none)(h2: ¬free S):EP c free hf ρ it l i h':=
 FT w λI fp wr P St e w st=>
 (GX I fp wr P St e w ((w.W {} rfl).frame i h h' st λb hb o e=>k b o (λz=>by
  subst z;rcases w.f1 b hb with ⟨o',q⟩|q
  ·exact DC (h1.symm.trans q)
  ·exact w.off q (.inr (.inr h2))) e))
theorem Wk.rel{I:Br}{fp wr:List Br}{P:Nat→Bj→Prop}{S:Nat→Bz→Prop}{σ:Store}{h h':Bz}(w:Wk c free hf ρ l I fp wr P S)(R:F5 c hf ρ σ h)(k: ∀b o,b ∉ wr→h.get? b=some o→h'.get? b=some o):F5 c hf ρ σ h':=
 R.Ei λb o e q=>k b o (λhb=>w.off hb (q.imp (λq=>(EG _ q)) .inl)) e
theorem EP.item{d:D}{Q:Option Bj→Bl→Prop}(hh:A.handled=none)(w:EP c free x.hf x.ρ it l i x.s.heap)(hi:l[i]?=some d)
  (h: ∀v s' (R:F5 c x.hf x.ρ x.σ s'.heap),DV c x.hf v d→EP c free x.hf x.ρ it l (i+1) s'.heap→(∀b o,¬free b→x.s.heap.get? b=some o→s'.heap.get? b=some o)→GB x.s s'→Q (some v) s'):
  Bp (Bq c.prog c.w) A (pyNext it) Q E x.s:=by
 refine FT w λI fp wr P S Nu w st=> ?_;subst Nu;clear w;exact (w.W A hh).item i x.s Q E (FG hi) st λv h' tk p uY k=>h v _ (w.rel x.R k) (w.dv i v d p hi) (GX I fp wr P S rfl w uY) (λb o e q=>k b o (λhb=>w.off hb (.inr (.inr e))) q) ⟨rfl,rfl,rfl⟩
theorem EP.done{Q:Option Bj→Bl→Prop}(hh:A.handled=none)(w:EP c free x.hf x.ρ it l l.length x.s.heap)
  (h: ∀s' (R:F5 c x.hf x.ρ x.σ s'.heap),(∀b o,¬free b→x.s.heap.get? b=some o→s'.heap.get? b=some o)→GB x.s s'→Q none s'):Bp (Bq c.prog c.w) A (pyNext it) Q E x.s:=by
 refine FT w λI fp wr P S Nu w st=> ?_;subst Nu;clear w;exact (w.W A hh).done x.s Q E st λh' tk k=>h _ (w.rel x.R k) (λb o e q=>k b o (λhb=>w.off hb (.inr (.inr e))) q) ⟨rfl,rfl,rfl⟩
theorem Jq{Q:Bj→Bl→Prop}(hh:A.handled=none)(w:EP c free hf ρ it l i s.heap)(h:Q it s):Bp (Bq c.prog c.w) A (pyIter it) Q E s:=by
 refine FT w λI fp wr P S Nu w st=> ?_;subst Nu;clear w;exact (w.W A hh).self i s Q E st h
abbrev H4(c:Cx)(hs:Bz):=EP c λb=>hs.get? b=none
def tM(x:St c)(DT:Store)(l:List D)(Q:Bj→Bl→Prop):Prop:= ∀it (y:St c),Le x y→y.σ=DT→H4 c x.s.heap y.hf y.ρ it l 0 y.s.heap→Q it y.s
theorem RD{I:Br}{Z:Br→Prop}(h1:Z I): ∀b∈ [I],Z b:=λb hb=>ς.mp hb▸h1
theorem JQ{I a:Br}{Z:Br→Prop}(h1:Z I)(h2:Z a): ∀b∈ [I,a],Z b:=λb hb=>by
 rcases ν.mp hb with e|e
 ·exact e▸h1
 ·exact RD h2 b e
def St.JL(x:St c)(o:Obj):St c:=⟨x.hf,x.ρ,x.σ,{x.s with heap:=x.s.heap.push o},x.R.Ei λb o' e O=>Β _ e⟩
theorem F3(o:Obj):Le x (x.JL o):=⟨F7 _ _ λb o' e=>Β _ e,rfl,rfl,rfl⟩
theorem ID(fr:hf s.heap.objs.size=none∧ ∀p∈ρ,p.2≠s.heap.objs.size){h':Bz}{fp:List Br}{P:Nat→Bj→Prop}{S:Nat→Bz→Prop}(W: ∀A:Bs,A.handled=none→C5 c.prog c.w A s.heap.objs.size fp [s.heap.objs.size] l.length P S)(st:S 0 h')
  (ex: ∀i h,S i h→(∃o,h.get? s.heap.objs.size=some o∧Kj o=true)∧ ∀b∈fp,∃o,h.get? b=some o) (dv: ∀(i:Nat) v d,P i v→l[i]?=some d→DV c hf v d) (f1: ∀b∈fp,(∃o,hf b=some o)∨b∈ [s.heap.objs.size]):
  H4 c s.heap hf ρ (.ref s.heap.objs.size) l 0 h':=
 (GX _ fp _ P S rfl ⟨W,ex,dv,f1,RD ⟨fr.1,fr.2,Dc _⟩⟩ st)
theorem tM.mk{Q:Bj→Bl→Prop}(k:tM x x.σ l Q){o:Obj}(w:H4 c x.s.heap x.hf x.ρ (.ref x.s.heap.objs.size) l 0 (x.JL o).s.heap):Q (.ref x.s.heap.objs.size) {x.s with heap:=x.s.heap.push o}:=k _ (x.JL o) (F3 o) rfl w
theorem LI{o:Obj}{n:String}(h:o.cls= .type n)(e:(["enumerate", "zip", "dict_itemiterator", "dict_reverseitemiterator", "odict_iterator", "itertools.zip_longest", "itertools.pairwise"].contains n)=false):Kj o=true:=by unfold Kj;refine C9 h ?_;dsimp only;exact C9 e rfl
theorem bK{K:Type}{rl:K→DO→Prop}{m:List (K×Bj)}{ks:List DO}{vs:List Bj}(h:Rows rl m ks vs): ∀{i:Nat} {k:K} {u:Bj} {z:DO},m[i]?=some (k,u)→ks[i]?=some z→rl k z:=by
 induction h with
 |nil=>intro i k u z e;exact DC (e:none=_)
 | @cons a b v l ks vs h1 _ ih=>
  intro i k u z e f;cases i with
  |zero=>have e:=η e;have f:=η f;cases e;cases f;exact h1
  |succ i=>exact ih e f
theorem Ny{q:Br}{o:Obj}{k:Nat}{ks:List DO}{vs:List Bj}{Q:Bj→Bl→Prop}(fr:hf s.heap.objs.size=none∧ ∀p∈ρ,p.2≠s.heap.objs.size)(g:s.heap.get? q=some o)(ha:hf q=some o)(hz:(q==By)=false)(ho:EA c hf o k ks vs)(hn:np k=true)
  (h: ∀o',H4 c s.heap hf ρ (.ref s.heap.objs.size) (ks.map DO.d) 0 (s.heap.push o')→Q (.ref s.heap.objs.size) {s with heap:=s.heap.push o'}):Bp (Bq c.prog c.w) A (pyIter (.ref q)) Q E s:=by
 have RP:q≠s.heap.objs.size:=AW (Ad g);cases ho with
 |pr=>exact ζ hn
 | @np _ Kt _ knd rl m _ _ p _ hd r=>
  refine IM hd λes ep d1 d2 d3 d4 d5=> ?_;clear hd;have qL:s.heap.DictAt knd q m ep:=(IB o es g d1 d2 d3 d4 d5);refine wpAny_pyIter_dict hz qL (h _ (ID fr (fp:= [s.heap.objs.size,q]) (P:=λi v=> ∃k u,m[i]?=some (k,u)∧knd.is k v=true) (S:=λi h=>h.IsKeyIter s.heap.objs.size q i m.length ep∧h.DictAt knd q m ep) (λA hA=> ?_) ⟨(ED _ (Ξ _ rfl) rfl rfl),qL.at' λo e=>Β _ e⟩ ?_ ?_ (JQ (.inr (.head _)) (.inl (EG _ ha)))))
  ·have W:=C5.dictKeys (prog:=c.prog) (w:=c.w) (knd:=knd) hA s.heap.objs.size q RP m ep
   refine C9 (ι _)<|C9 r.len.2<|Dr r.len.1 ?_
   exact W
  ·rintro i h ⟨⟨o,ho,hc,_⟩,⟨o',et,Jv,_⟩⟩
   exact ⟨(DM o ho (LI hc (by decide))),JQ (EG o ho) (EG o' Jv)⟩
  ·rintro i v d ⟨k,u,hk,hv⟩ q
   rw [Ay] at q;refine DQ (Option.map_eq_some_iff.mp q) λz hz w=> ?_;exact w▸p.val (bK r hk hz) hv
theorem YP{q:Br}{o:Obj}{k:Nat}{ks:List DO}{vs:List Bj}{Q:Bj→Bl→Prop}(ha:x.hf q=some o)(hz:(q==By)=false)(ho:EA c x.hf o k ks vs)(hn:np k=true)(h:tM x x.σ (ks.map DO.d) Q):Bp (Bq c.prog c.w) A (pyIter (.ref q)) Q E x.s:=
 Ny (x.R.fresh (Dc _)) (x.R.keep _ _ ha) ha hz ho hn λO w=>h.mk w
theorem PO{v:Bj}{d:D}{Q:Bj→Bl→Prop}(hv:DV c x.hf v d)(e:KB d=some l)(h:tM x x.σ l Q):Bp (Bq c.prog c.w) A (pyIter v) Q E x.s:=by
 cases d with
 |nd hd m=>
  obtain ⟨p,o,vs,rfl,g,sh,Hr⟩:=hv.shape;have gg:=x.R.keep _ _ g;have RP:p.2≠x.s.heap.objs.size:=AW (Ad gg);have nT:vs.toArray.size=m.length:=(Ν ..).trans Hr.length;cases hd with
  |inst=>exact DC e
  |Dg k ks=>
   refine DY (x:=some (ks.map DO.d)) e λhn e=> ?_;rw [←η e] at h;exact YP (sh.s1▸g) (sh.s1▸sh.s2) sh.s3 hn h
  |lst=>
   obtain ⟨s1,s2,n,rfl⟩:=sh;rw [←η (e:some m=some l)] at h;refine C9 s1 ?_;refine wpAny_pyIter_list (Dn gg) (h.mk (ID (x.R.fresh (Dc _)) (fp:= [x.s.heap.objs.size,p.2]) (P:=λi v=>vs.toArray[i]?=some v) (S:=λi h=>h.IsListIter x.s.heap.objs.size p.2 i∧h.IsList p.2 vs.toArray) (λA hA=> ?_) ⟨(ED _ (Ξ _ rfl) rfl rfl),(Dn gg).at λo e=>Β _ e⟩ ?_ (λi v d p q=>Hr.pe (by simpa using p) q) (JQ (.inr (.head _)) (.inl (EG _ g)))))
   ·exact nT▸C5.list (prog:=c.prog) (w:=c.w) hA x.s.heap.objs.size p.2 RP vs.toArray
   ·rintro i h ⟨⟨o,ho,hc,_⟩,⟨o',Jv,_⟩⟩
    exact ⟨(DM o ho (LI hc (by decide))),JQ (EG o ho) (EG o' Jv)⟩
  |tup=>
   obtain ⟨s1,s2,n,rfl⟩:=sh;rw [←η (e:some m=some l)] at h;refine C9 s1 ?_;have ht:x.s.heap.IsTuple p.2 vs.toArray:=(JS _ gg rfl n rfl);refine wpAny_pyIter_tuple ht (h.mk (ID (x.R.fresh (Dc _)) (fp:= [x.s.heap.objs.size,p.2]) (P:=λi v=>vs.toArray[i]?=some v) (S:=λi h=>h.IsTupleIter x.s.heap.objs.size p.2 i∧h.IsTuple p.2 vs.toArray) (λA hA=> ?_) ⟨(ED _ (Ξ _ rfl) rfl rfl),(JS _ (Β _ gg) rfl n rfl)⟩ ?_ (λi v d p q=>Hr.pe (by simpa using p) q) (JQ (.inr (.head _)) (.inl (EG _ g)))))
   ·exact nT▸C5.tuple (prog:=c.prog) (w:=c.w) hA x.s.heap.objs.size p.2 RP vs.toArray
   ·rintro i h ⟨⟨o,ho,hc,_⟩,⟨o',Jv,_⟩⟩
    exact ⟨(DM o ho (LI hc (by decide))),JQ (EG o ho) (EG o' Jv)⟩
 |_=>exact DC e
theorem J3(n:Nat): ∀a:Int,(HH a n).length=n:=by
 induction n with
 |zero=>intro a;rfl
 |succ n ih=>intro a;exact congrArg (· +1) (ih _)
theorem UM(n:Nat): ∀(a:Int) (i:Nat) (d:D),(HH a n)[i]?=some d→d= .int (a+i):=by
 induction n with
 |zero=>intro a i d e;exact DC (e:none=_)
 |succ n ih=>
  intro a i d e;cases i with
  |zero=>exact Dr (η e)<|congrArg D.int (Int.add_zero a).symm
  |succ i=>exact C9 (ih _ i d e)<|congrArg D.int (by lia)
theorem Ng(a b:Int):Builtin.Range.rangeSize a b 1=((b - a).toNat:Int):=by
 unfold Builtin.Range.rangeSize;refine C9 (if_pos (by decide)) ?_
 split<;>lia
theorem KM{i:Int}(h:small i=true):Builtin.Range.rangeFitsLong i=true:=by
 refine Dl (KA h) λa b=> ?_;unfold Builtin.Range.rangeFitsLong;simp only [A4,decide_eq_true_eq]
 lia
theorem N0{r:Br}{a b:Int}{t u v:Tok}{Q:Bj→Bl→Prop}(hr:IsRange x.s.heap r a b 1 t u v)(e:FU a b=some l)(h:tM x x.σ l Q):Bp (Bq c.prog c.w) A (pyIter (.ref r)) Q E x.s:=by
 refine wr λZ0 z0=> ?_;refine DY e λh1 e=> ?_;refine Dl (band h1) λh1 h2=> ?_;refine Dl (band h1) λha hb=> ?_;refine z0 ?_;have hn:=φ h2;rw [←η e] at h
 have hs:Builtin.Range.small a b 1=true:=by
  unfold Builtin.Range.small;refine C9 (KM ha)<|C9 (KM hb)<|C9 (Ng _ _) ?_
  have e1:Builtin.Range.rangeFitsLong 1=true:=by decide+kernel
  have e2:Builtin.Range.rangeFitsLong (((b - a).toNat:Nat):Int)=true:=by
   unfold Builtin.Range.rangeFitsLong;simp only [A4,decide_eq_true_eq];unfold big at hn;lia
  rw [e1,e2,if_pos (by decide),show b+(1 - 1)=b by exact Int.add_zero _,KM hb];simp
 refine wpAny_pyIter_range hr hs (h.mk (ID (x.R.fresh (Dc _)) (fp:= [x.s.heap.objs.size]) (P:=λi v=> ∃t,v= .int (a+i*1) t) (S:=λi h=>IsRangeIter h x.s.heap.objs.size (a+(i:Nat)*1) (((b - a).toNat:Int) - (i:Nat)) 1) (λA hA=> ?_) ?_ (λi h st=>⟨(DM _ st rfl),RD (EG _ st)⟩) ?_ (RD (.inr (.head _)))))
 ·exact C9 (J3 _ _)<|C5.range hA x.s.heap.objs.size a 1 (b - a).toNat
 ·refine C9 (Ng _ _) ?_
  have:=Ξ x.s.heap (o:={cls:= .type "range_iterator",data:= .fields #[C7 a,C7 ((b - a).toNat:Int),C7 1]}) rfl
  simpa [IsRangeIter,St.JL] using this
 ·rintro i v d ⟨t,rfl⟩ q
  refine C9 (UM _ _ _ _ q)<|C9 (Int.mul_one _) ?_
  exact .int _ _
theorem Ss{v:Bj}{Q:Bj→Bl→Prop}(hv:DV c x.hf v (.nd .lst l))(h: ∀it (y:St c),Le x y→y.σ=x.σ→H4 c x.s.heap y.hf y.ρ it l.reverse 0 y.s.heap→y.s.TypeIs it "list_reverseiterator" →Q it y.s):Bp (Bq c.prog c.w) A (call (.type "reversed") [v]) Q E x.s:=by
 obtain ⟨p,o,vs,rfl,g,⟨s1,s2,n,rfl⟩,Hr⟩:=hv.shape;have gg:=x.R.keep _ _ g;have RP:p.2≠x.s.heap.objs.size:=AW (Ad gg);have nT:vs.toArray.size=l.length:=(Ν ..).trans Hr.length;refine C9 s1 ?_;refine call_reversed_list (Dn gg) (h _ (x.JL _) (F3 _) rfl (ID (x.R.fresh (Dc _)) (fp:= [x.s.heap.objs.size,p.2]) (P:=λi v=>vs.toArray[vs.toArray.size - 1 - i]?=some v) (S:=λi h=>i≤vs.toArray.size∧h.IsRevIter x.s.heap.objs.size p.2 ((vs.toArray.size:Int) - 1 - (i:Int))∧h.IsList p.2 vs.toArray) (λA hA=> ?_) ⟨AT _,(ED _ (Ξ _ rfl) rfl ?_),(Dn gg).at λo e=>Β _ e⟩ ?_ ?_ (JQ (.inr (.head _)) (.inl (EG _ g)))) (DM _ (Ξ _ rfl) rfl))
 ·have W:=C5.listRev (prog:=c.prog) (w:=c.w) hA x.s.heap.objs.size p.2 RP vs.toArray
  refine C9 (show l.reverse.length=vs.toArray.size by rw [AX,nT]) ?_;exact W
 ·show Data.fields #[.ref p.2,C7 _]=_
  simp
 ·rintro i h ⟨_,⟨o,ho,hc,_⟩,⟨o',Jv,_⟩⟩
  exact ⟨(DM o ho (LI hc (by decide))),JQ (EG o ho) (EG o' Jv)⟩
 ·intro i v d p q
  have hi:=FG q;rw [AX] at hi;rw [List.getElem?_reverse hi] at q;rw [nT] at p;exact Hr.pe (by simpa using p) q
end
end
end
section
mutual open A
theorem VS:Cu (.type "list_reverseiterator") "__len__" =pure none:=by refine C9 (typeLookup_type _ _)<|C9 builtinLookup_eq_fast ?_;kernel_rfl
theorem bM:Cu (.type "list_reverseiterator") "__length_hint__" =pure (some (.builtin "list_reverseiterator.__length_hint__")):=by refine C9 (typeLookup_type _ _)<|C9 builtinLookup_eq_fast ?_;kernel_rfl
theorem Rx:isSubtype (.type "list_reverseiterator") (.type "list_reverseiterator")=pure true:=by refine C9 (isSubtype_type _ _) ?_;kernel_rfl
theorem YR:splitId "list_reverseiterator.__length_hint__" =some ("list_reverseiterator", "__length_hint__"):=by decide+kernel
theorem Ob:splitId "dict.__len__" =some ("dict", "__len__"):=by decide+kernel
end
section
mutual open A
variable{c:Cx}{hf:HF}{ρ:RH}{A:Bs}{s:Bl}{E:Bj→Bl→Prop}{x:St c}{it:Bj}{l:List D}
theorem ZR{v:Bj}{Q:Bool→Bl→Prop}(hT:s.TypeIs v "dict")(h:Q false s):Bp (Bq c.prog c.w) A (Builtin.List.listLengthHint v) Q E s:=by
 unfold Builtin.List.listLengthHint;refine Bk (CU hT PySem.F.slot_dict_len.lookup ?_);dsimp only;refine C9 Ob ?_;dsimp only;refine Bk (Cf hT PySem.F.kt_sub_dict ?_);refine C9 (if_neg (by decide: ¬(!true)=true)) ?_;refine C9 (if_pos (by decide+kernel)) ?_;exact Bk (CY hT (Bn h))
theorem dK{v:Bj}{Q:Bool→Bl→Prop}(hT:s.TypeIs v "list_reverseiterator")(h:Q false s):Bp (Bq c.prog c.w) A (Builtin.List.listLengthHint v) Q E s:=by
 unfold Builtin.List.listLengthHint;refine Bk (CU hT VS ?_);dsimp only;refine C9 (if_neg (by decide+kernel))<|C9 (if_neg (by decide+kernel)) ?_
 refine Bk (CU hT bM ?_);dsimp only;refine C9 YR ?_;dsimp only;refine Bk (Cf hT Rx ?_);refine C9 (if_neg (by decide: ¬(!true)=true)) ?_;refine C9 (if_pos (by decide+kernel))<|C9 (if_neg (by decide+kernel)) ?_
 exact Bn h
theorem So{prog:Program}{w:World}{I:Br}{fp wr:List Br}{G:Array GenState→Array GenState→Prop}{n:Nat}{P:Nat→Bj→Prop}{St:Nat→Bl→Prop}(W:WalksS prog w A I fp wr G n P St)(pre:Array Bj):
  WalksS prog w A I fp wr G (pre.size+n) (λj v=>if j<pre.size then pre[j]?=some v else P (j - pre.size) v) (λj s=>pre.size≤j∧St (j - pre.size) s) where
 sub:=W.sub
 grefl:=W.grefl
 gtrans:=W.gtrans
 frame:=λi s h' tk st t k=>⟨st.1,W.frame _ _ _ _ st.2 t k⟩
 item:=λi s Q E hi st hQ=>W.item (i - pre.size) s Q E (by have:=st.1;lia) st.2 λv s' p uY m=>hQ v s' (by exact C9 (if_neg (by have:=st.1;lia)) p) ⟨Az st.1,by exact C9 (Nat.succ_sub st.1) uY⟩ m
 done:=λs Q E st hQ=>W.done s Q E (by have:=st.2;rw [Ω] at this;exact this) hQ
 self:=λi s Q E st hQ=>W.self _ s Q E st.2 hQ
theorem DS.vZ{α β:Type}{R:α→β→Prop}{l:List α}: ∀{m:List β},l.length=m.length→(∀(i:Nat) u y,l[i]?=some u→m[i]?=some y→R u y)→DS R l m:=by
 induction l with
 |nil=>intro m e _;cases m with
  |nil=>exact .nil
  |cons=>exact Α e
 |cons a l ih=>intro m e h;cases m with
  |nil=>exact Α e
  |cons b m=>exact .cons (h 0 a b rfl rfl) (ih (AK.inj e) λi u y e1 e2=>h (i+1) u y e1 e2)
theorem RV{pre:List Bj}{P:Nat→Bj→Prop}(dv: ∀(i:Nat) v d,P i v→l[i]?=some d→DV c hf v d){acc:Array Bj}
  (h:ItemsOf (λj v=>if j<pre.toArray.size then pre.toArray[j]?=some v else P (j - pre.toArray.size) v) acc (pre.toArray.size+l.length)): ∃vs,acc=(pre++vs).toArray∧KZ c hf vs l:=by
 refine Dl h λh1 h2=> ?_;clear h;rw [Ν] at h1;have Eb:acc.toList.length=pre.length+l.length:=(Array.length_toList ..).trans h1
 have e1:acc.toList.take pre.length=pre:=by
  apply List.ext_getElem?;intro j;refine C9 (Ab) ?_
  by_cases hj:j<pre.length
  ·refine C9 (if_pos hj) ?_
   have z8:j<acc.toList.length:=by lia
   have:=h2 j acc.toList[j] (by refine Dr (Array.getElem?_toList) ?_;exact Τ z8)
   dsimp only at this;rw [if_pos (by exact C9 Ν hj)] at this;refine C9 (Τ z8) ?_;simpa using this.symm
  ·(exact C9 (if_neg hj)<|C9 (List.getElem?_eq_none (At hj)) rfl)
 refine (DM (acc.toList.drop pre.length) (Array.toList_inj.mp ?_) (DS.vZ (by (exact C9 List.length_drop<|C9 Eb<|C9 (Ω _ _) rfl)) λi u y f1 f2=>dv i u y ?_ f2))
 ·refine C9 (show (pre++acc.toList.drop pre.length).toArray.toList=pre++acc.toList.drop pre.length from rfl) ?_
  exact (List.take_append_drop pre.length acc.toList).symm.trans (by (exact C9 e1 rfl))
 ·rw [List.getElem?_drop] at f1
  have:=h2 (pre.length+i) u (by exact Dr (Array.getElem?_toList) f1)
  dsimp only at this;rw [Ν,if_neg (by lia),Ω] at this;exact this
theorem Ke{hs:Bz}{S:Br}{pre:List Bj}{n:Nat}{res:Bj}{R:C8→Bl→Prop}(hh:A.handled=none)(w:H4 c hs hf ρ it l 0 s.heap)(hS:s.heap.get? S=some (E0 pre n))
  (hSo:hf S=none) (hSf:(∃p∈ρ,p.2=S)∨ ¬hs.get? S=none) (hz:pre.length+l.length≤2*big)
  (h: ∀s' vs n',KZ c hf vs l→s'.heap.get? S=some (E0 (pre++vs) n')→(∀b o,b≠S→((∃o,hf b=some o)∨(∃q∈ρ,q.2=b)∨ ¬hs.get? b=none)→s.heap.get? b=some o→s'.heap.get? b=some o)→GB s s'→R (.ok (.ret res)) s'):
  Ci (Bq c.prog c.w) A (.builtin "list.extend.loop" ⟨[.ref S,it,res], []⟩) R s:=by
 refine FT w λI fp wr P St Nu w st=> ?_;subst Nu;clear w
 have zb:S ∉ fp:=λhm=>by
  rcases w.f1 S hm with ⟨o,q⟩|q
  ·exact DC (hSo.symm.trans q)
  ·exact w.off q (.inr hSf)
 have WS:=So ((w.W A.in1 hh).toS) pre.toArray;refine codeAny_extend_loopS WS (by refine C9 Ν<|C9 Bw ?_;unfold big at hz;exact ZI hz rfl) S zb res l.length pre.toArray.size s pre.toArray n (Ω ..) (by exact Ζ _ _) ⟨Ι _,by exact C9 (Ai _) st⟩ hS ⟨rfl,λj v e=> ?_⟩ λs' hY n' m u5 zU=> ?_
 ·dsimp only;exact C9 (if_pos (Array.getElem?_eq_some_iff.mp e).1) e
 ·refine DQ (RV w.dv zU) λvs Ff hv=> ?_;subst Ff
  refine h s' vs n' hv u5 (λb o hb q e=>m.heap b o (λhm=> ?_) e) ⟨m.gens,m.drawn,m.os⟩;rcases ν.mp hm with z|z
  ·exact hb z
  ·exact w.off z q
theorem L7{hs:Bz}{vo:Bj}{o:V}{DT:Store}{Q:Bj→Bl→Prop}(hh:A.handled=none)(ho:x.VV vo o)(w:H4 c hs x.hf x.ρ it l 0 x.s.heap)(hT:x.s.TypeIs it "list_reverseiterator")
  (e:G9 x.σ o l=some DT) (h: ∀s' (R:F5 c x.hf x.ρ DT s'.heap),(∀b o,(∀p∈x.ρ,p.2≠b)→ ¬hs.get? b=none→x.s.heap.get? b=some o→s'.heap.get? b=some o)→GB x.s s'→Q .none s'):
  Bp (Bq c.prog c.w) A (call (.builtin "list.extend") [vo,it]) Q E x.s:=by
 obtain ⟨i,p,vs,n,m,rfl,hp,hk,g,Hr,hn,s1,lt,rfl⟩:=Tq ho e;refine wpAny_call (codeAny_call_builtin PySem.F.slot_list_extend.plain PySem.F.entry_list_extend (PySem.F.slot_list_extend.check _ _ _ _ _ _ _ _ (DM _ g rfl) (PySem.F.args_list_extend_2 _ _) ?_));show Bp _ A.in1 (Builtin.List.listExtendWith (.ref p.2) it .none) _ _ _;unfold Builtin.List.listExtendWith;refine Bk (CY hT ?_)
 have tB:Builtin.List.listSameRef (.ref p.2) it=false:=by
  refine Z3 w λI fp wr P St Nu O=> ?_;subst Nu;clear w;refine DQ hT λoi hoi wW=> ?_;clear hT;unfold Builtin.List.listSameRef;refine beq_eq_false_iff_ne.mpr λz=> ?_;have wW:oi.cls=Bj.type "list_reverseiterator" :=wW;rw [←z] at hoi;rw [←η (g.symm.trans hoi)] at wW;exact absurd (show Bj.type "list" =Bj.type "list_reverseiterator" from wW) (by decide)
 refine C9 tB<|C9 (if_neg (by decide)) ?_
 refine Bk (Jq (A:=A.in1) hh w (Bk (Bt (dK hT ?_))));refine C9 (if_neg (by decide+kernel)) ?_;refine Bn ⟨CQ PySem.F.plain_extend_loop _,Ke hh w g hn (.inl (DM p (AC hp) rfl)) (by exact QB lt rfl) λs' us c' TE u5 kp mw=> ?_⟩;refine h s' (x.R.turn (k':= .lv .lst (m++l.map V.d)) hk rfl hp (λb o hb q e=>kp b o hb ?_ e) rfl (FK hn _ (vs++us) u5 ⟨s1,by exact C9 ε<|C9 TE.length<|AY lt,_,rfl⟩ (Hr.append (KZ.vF TE)))) (λb o hnb hb e=>kp b o (λz=>hnb p (AC hp) z.symm) (.inr (.inr hb)) e) mw;exact q.imp (λq=>(EG _ q)) .inl
theorem QL{q:Br}{o:Obj}{k:Nat}{ks:List DO}{vs:List Bj}{Q:List Bj→Bl→Prop}(hh:A.handled=none)(hq:s.heap.get? q=some o)(hz:(q==By)=false)(ho:EA c (λb=>s.heap.get? b) o k ks vs)(hn:np k=true)
  (h: ∀s' us,KZ c (λb=>s.heap.get? b) us (ks.map DO.d)→(∀b o,s.heap.get? b=some o→s'.heap.get? b=some o)→GB s s'→Q us s'):Bp (Bq c.prog c.w) A (collect (.ref q)) Q E s:=by
 have RP:s.heap.objs.size≠q:=(AW (Ad hq)).symm;unfold collect;refine Bk (wpAny_runValue (CW PySem.F.entry_proto_collect ?_));refine C9 (Bs.under_plainId PySem.F.plain_proto_collect _) ?_;show Bp _ A.in1 (newList []>>=λl=>again (.builtin "list.__iadd__" ⟨[l, .ref q], []⟩)) _ _ s;refine Bk (wpAny_newObj_type ?_);refine Bn ⟨CQ PySem.F.plain_list_iadd _,CW PySem.F.entry_list_iadd ?_⟩;refine C9 (Bs.under_plainId PySem.F.plain_list_iadd _) ?_;show Bp _ A.in1 (Builtin.List.listExtendWith (.ref s.heap.objs.size) (.ref q) (.ref s.heap.objs.size)) _ _ _;have kp: ∀b o,s.heap.get? b=some o→(s.heap.push (E0 [] 0)).get? b=some o:=λb o e=>Β _ e;have ae:(s.heap.push (E0 [] 0)).get? s.heap.objs.size=some (E0 [] 0):=Ξ _ rfl;have hT: ∀h',(∀b o,s.heap.get? b=some o→h'.get? b=some o)→({s with heap:=h'}:Bl).TypeIs (.ref q) "dict" :=λh' k=>DQ (ho.typeIs hq) λo e z=>(DM o (k _ _ e) z);unfold Builtin.List.listExtendWith;refine Bk (CY (hT _ kp) ?_);refine C9 (show Builtin.List.listSameRef (.ref s.heap.objs.size) (.ref q)=false by unfold Builtin.List.listSameRef;exact beq_eq_false_iff_ne.mpr RP)<|C9 (if_neg (by decide)) ?_
 have nT:s.heap.get? (s.heap.push (E0 [] 0)).objs.size=none:=H7 kp (Dc _);refine Bk (Ny (hf:=λb=>s.heap.get? b) (ρ:= []) (s:={s with heap:=s.heap.push (E0 [] 0)}) ⟨nT,λp hp=>by cases hp⟩ (kp _ _ hq) hq hz ho hn λo' w=> ?_);have kp2: ∀b o,s.heap.get? b=some o→((s.heap.push (E0 [] 0)).push o').get? b=some o:=λb o e=>Β _ (kp b o e);have jt:((s.heap.push (E0 [] 0)).push o').get? s.heap.objs.size=some (E0 [] 0):=Β _ ae;refine Bk (Bt (ZR (hT _ kp2) ?_));refine C9 (if_pos (by decide+kernel)) ?_;refine Bk (wpAny_rule (Bk ?_));show Bp _ A.in1 (updateSeq s.heap.objs.size (·.push .none)>>=λO=>updateSeq s.heap.objs.size (·.pop)) _ _ _;refine Bk (wpAny_updateSeq jt rfl ?_);have jY:=BT (Obj.mapSeq (·.push Bj.none)) jt rfl;refine wpAny_updateSeq jY rfl ?_;have tY:=BT (Obj.mapSeq (·.pop)) jY rfl;have oth:=λb o (hb:b≠s.heap.objs.size) (e:((s.heap.push (E0 [] 0)).push o').get? b=some o)=>(Bz.get?_update_other _ (Obj.mapSeq (·.pop)) (Ne.symm hb)).trans ((Bz.get?_update_other _ (Obj.mapSeq (·.push Bj.none)) (Ne.symm hb)).trans e);have w':=w.other oth (Dc _) (by refine C9 ae ?_;exact λz=>by cases z);refine Bn ⟨CQ PySem.F.plain_extend_loop _,Ke (pre:= []) (s:=⟨_,_,_,_,_⟩) hh w' tY (Dc _) (.inr (by refine C9 ae ?_;exact λz=>by cases z)) (by have:=ho.big;refine C9 (ι _) ?_;simp only [BJ];lia) λs' us n' hv u5 re zJ=> ?_⟩;show Bp _ A (load s.heap.objs.size>>=_) _ _ s';refine Bk (wpAny_load u5 (Bn (h s' us hv (λb o e=> ?_) ⟨zJ.1,zJ.2,zJ.3⟩)));have hb:b≠s.heap.objs.size:=AW (Ad e);exact re b o hb (.inl (EG o e)) (oth b o hb (kp2 _ _ e))
end
end
end
section
section
mutual open A
variable{α:Type}{le:α→α→Bool}
theorem Sa(x:α)(l:List α):(ei le x l).Perm (x::l):=by
 induction l with
 |nil=>exact .refl _
 |cons y r ih=>
  show (cond (le x y) (x::y::r) (y::ei le x r)).Perm _;cases le x y with
  |true=>exact .refl _
  |false=>exact (ih.cons y).trans (.swap x y r)
theorem TO(l:List α):(HA le l).Perm l:=by
 induction l with
 |nil=>exact .refl _
 |cons x r ih=>exact (Sa x _).trans (ih.cons x)
theorem VC{R:α→α→Prop}(h1: ∀a b,le a b=true→R a b)(h2: ∀a b,le a b=false→R b a)(ht: ∀a b d,R a b→R b d→R a d)(x:α){l:List α}(h:l.Pairwise R):(ei le x l).Pairwise R:=by
 induction l with
 |nil=>exact List.pairwise_singleton ..
 |cons y r ih=>
  refine Dl (List.pairwise_cons.mp h) λa b=> ?_;show (cond (le x y) (x::y::r) (y::ei le x r)).Pairwise R;cases q:le x y with
  |true=>
   refine .cons (λz hz=> ?_) (.cons a b);rcases ν.mp hz with e|hz
   ·exact e▸h1 _ _ q
   ·exact ht _ _ _ (h1 _ _ q) (a z hz)
  |false=>
   refine .cons (λz hz=> ?_) (ih b);rcases ν.mp ((Sa x r).mem_iff.mp hz) with e|hz
   ·exact e▸h2 _ _ q
   ·exact a z hz
theorem NS{R:α→α→Prop}(h1: ∀a b,le a b=true→R a b)(h2: ∀a b,le a b=false→R b a)(ht: ∀a b d,R a b→R b d→R a d)(l:List α):(HA le l).Pairwise R:=by
 induction l with
 |nil=>exact .nil
 |cons x r ih=>exact VC h1 h2 ht x ih
end
end
mutual open A
theorem gH{ks ns:List Int}(p:ns.Perm ks)(h:ns.Pairwise (· ≤ ·)):ns=HA I9 ks:=
 List.Perm.eq_of_pairwise (λa b O O h1 h2=>Int.le_antisymm h1 h2) h (NS (le:=I9) (R:=(· ≤ ·)) (λO O h=>of_decide_eq_true h) (λa b h=>by have:=of_decide_eq_false h;lia) (λO O O=>Int.le_trans) ks) (p.trans (TO ks).symm)
theorem g0{ks ns:List Nat}(p:ns.Perm ks)(h:ns.Pairwise (· ≤ ·)):ns=HA Ε ks:=
 List.Perm.eq_of_pairwise (λa b O O h1 h2=>Aq h1 h2) h (NS (le:=Ε) (R:=(· ≤ ·)) (λO O h=>φ h) (λa b h=>AY (BV λq=>ζ ((ο q).symm.trans h))) (λO O O=>Υ) ks) (p.trans (TO ks).symm)
theorem W3{a b:Bool}{p:Prop}(h1:a=true↔p)(h2:b=true↔p):a=b:=by
 cases a<;>cases b<;>first|rfl|exact h1.mpr (h2.mp rfl)|exact (h2.mpr (h1.mp rfl)).symm
theorem mF(a:List Nat): ∀b,Wi a b=PySem.Spec.ltCps a b:=by
 induction a with
 |nil=>intro b;cases b<;>rfl
 |cons x a ih=>intro b;cases b with
  |nil=>rfl
  |cons y b=>
   show (Μ x y||(μ x y&&Wi a b))=(decide (x<y)||(x==y&&PySem.Spec.ltCps a b))
   (exact C9 (ih b)<|C9 (show Μ x y=decide (x<y) from W3 Ds decide_eq_true_iff)<|C9 (show μ x y=(x==y) from W3 ⟨nb,λe=>e▸AH x⟩ beq_iff_eq) rfl)
theorem N6{n:Nat}(gw:n<Fw.length):Fw.findIdx (λy=>decide (y=nm n))=n:=by
 have hx:(Fw.findIdx λy=>decide (y=nm n))<Fw.length:=List.findIdx_lt_length_of_exists (DM (nm n) (by exact C9 (R6 gw)<|A0 gw) (by simp));exact KL hx gw (by exact C9 (R6 hx)<|of_decide_eq_true (List.findIdx_getElem (w:=hx)))
theorem TW{ks:List Nat}{ss:List Str}(hk: ∀k∈ks,k<Fw.length)(h:ss.Perm (ks.map nm)): ∃EZ,List.Perm EZ ks∧ss=EZ.map nm:=by
 refine (DM (ss.map λx=>Fw.findIdx λy=>decide (y=x)) ?_ ?_)
 ·have:=h.map λx=>Fw.findIdx λy=>decide (y=x)
  rw [Δ,show ks.map ((λx=>Fw.findIdx λy=>decide (y=x))∘nm)=ks from (List.map_congr_left (g:=id) λk xB=>N6 (hk k xB)).trans (List.map_id ks)] at this;exact this
 ·refine C9 Δ ?_
  refine ((List.map_congr_left (g:=id) λx hx=> ?_).trans (List.map_id ss)).symm;refine DQ (AD.mp (h.mem_iff.mp hx)) λk xB Gx=> ?_;subst Gx;exact congrArg nm (N6 (hk k xB))
theorem U1{ks:List Nat}: ∀{p:Nat},p<Fw.length→(∀k∈ks,k<Fw.length)→risingS (nm p) (ks.map nm)=true→(∀k∈ks,p≤k)∧ks.Pairwise (· ≤ ·):=by
 induction ks with
 |nil=>intro p _ _ _;exact ⟨(λO h=>nomatch h), .nil⟩
 |cons k r ih=>
  intro p hp hk h;refine Dl (band (a:= !(PySem.Spec.ltCps (nm k).cps.toList (nm p).cps.toList)) (b:=risingS (nm k) (r.map nm)) h) λh1 h2=> ?_;have hk0:=hk k (.head _);have le:p≤k:=At λq=>by rw [←mF,jZ hp q] at h1;exact ζ h1
  refine Dl (ih hk0 (λx hx=>hk x (.tail _ hx)) h2) λa b=> ?_;refine ⟨λx hx=> ?_, .cons a b⟩;rcases ν.mp hx with e|hx
  ·exact e▸le
  ·exact Υ le (a x hx)
theorem VW{ks:List Nat}(hk: ∀k∈ks,k<Fw.length)(h:sortedS (ks.map nm)=true):ks.Pairwise (· ≤ ·):=by
 cases ks with
 |nil=>exact .nil
 |cons k r=>exact Dl (U1 (hk k (.head _)) (λx hx=>hk x (.tail _ hx)) h) λa b=> .cons a b
end
section
mutual open A
variable{c:Cx}{hf:HF}{A:Bs}{s:Bl}{E:Bj→Bl→Prop}{x:St c}
theorem TK(ks:List Int): ∀{vs:List Bj},KZ c hf vs (ks.map .int)→IntsAre vs ks:=by
 induction ks with
 |nil=>intro vs h;cases h;exact .nil
 |cons k r ih=>intro vs h;cases h with
  |cons a b=>cases a with
   |int _ t=>exact .cons k t (ih b)
theorem bJ{vs:List Bj}{ks:List Int}(h:IntsAre vs ks):KZ c hf vs (ks.map .int):=by
 induction h with
 |nil=>exact .nil
 |cons k t _ ih=>exact .cons (.int k t) ih
theorem Zx(ks:List Nat): ∀{vs:List Bj},KZ c hf vs (ks.map .sym)→StrsAre vs (ks.map nm)∧ ∀k∈ks,k<Fw.length:=by
 induction ks with
 |nil=>intro vs h;cases h;exact ⟨.nil,(λO h=>nomatch h)⟩
 |cons k r ih=>intro vs h;cases h with
  |cons a b=>cases a with
   |sym _ t hk=>
    refine Dl (ih b) λh1 h2=> ?_;refine ⟨.cons _ t h1,λx hx=> ?_⟩;rcases ν.mp hx with e|hx
    ·exact e▸hk
    ·exact h2 x hx
theorem af(ks:List Nat): ∀{vs:List Bj},StrsAre vs (ks.map nm)→(∀k∈ks,k<Fw.length)→KZ c hf vs (ks.map .sym):=by
 induction ks with
 |nil=>intro vs h _;cases h;exact .nil
 |cons k r ih=>intro vs h hk;cases h with
  |cons _ t h=>exact .cons (.sym k t (hk k (.head _))) (ih h λx hx=>hk x (.tail _ hx))
theorem SA{K:Type}{rl:K→DO→Prop}{l:List (K×Bj)}{ks:List DO}{vs:List Bj}{f:DO→D}(h: ∀a z,rl a z→z.d=f z)(r:Rows rl l ks vs):ks.map DO.d=ks.map f:=by
 induction r with
 |nil=>rfl
 | @cons _ z _ _ ks _ a _ ih=>show z.d::ks.map DO.d=f z::ks.map f;(exact C9 (h _ _ a)<|C9 ih rfl)
theorem uA{k:Nat}{o:Obj}{ks:List DO}{vs:List Bj}(h:EA c hf o k ks vs)(e:k=0):ks.map DO.d=(ks.map bl).map .int:=by
 refine C9 Δ ?_;cases h with
 |pr=>exact Α e
 |np p _ _ r=>cases p with
  |i=>exact SA (λa z w=>by subst w;rfl) r
  |s=>exact Α e
  |t=>exact Α e
theorem s9{k:Nat}{o:Obj}{ks:List DO}{vs:List Bj}(h:EA c hf o k ks vs)(e:k=1):ks.map DO.d=(ks.map Zr).map .sym:=by
 refine C9 Δ ?_;cases h with
 |pr=>exact Α (AK.inj e)
 |np p _ _ r=>cases p with
  |i=>exact Α e
  |s=>exact SA (λa z ⟨n,O1,O2,w⟩=>by subst w;rfl) r
  |t=>exact Α (AK.inj e)
theorem Nv{va:Bj}{a:V}{r:Nat×List DO×List V}{ds:List D}{Q:Bj→Bl→Prop}(hh:A.handled=none)(ha:x.VV va a)(e:GH x.σ a=some r)(hn:np r.1=true)(h64:r.2.1.length<64)
  (sort: ∀Fg vs,KZ c Fg vs (r.2.1.map DO.d)→vs.length<64→ ∀(Ej:Bl) (b:Br) (F:Fin→Bl→Prop),Ej.heap.get? b=some (E0 vs 0)→(∀out,(∃us:List Bj,out=us.toArray∧us.length=vs.length∧ ∀Yv,KZ c Yv us ds)→F (.done (.ret .none)) {Ej with heap:=sortedHeap Ej.heap b vs out})→Bp (Bq c.prog c.w) A.in1.in1 (Builtin.«list.sort» ⟨[.ref b], []⟩) F E Ej)
  (h:Ok x x.σ (.d (.nd .lst ds)) Q):Bp (Bq c.prog c.w) A (call (.builtin "sorted") [va]) Q E x.s:=by
 obtain ⟨q,o,ws,rfl,g,z,ho,hv⟩:=LO ha e;refine Calls.call_function_entry kind_sorted plain_sorted entry_sorted (args_sorted1 _) ?_;unfold Builtin.«sorted»;refine Bk (m:=checkCount "sorted" 1 1 _) (Bn (Bk (QL (A:=A.in1) hh g z (ho.mono x.R.keep) hn λD6 vs Hr kp sm=> ?_)));have Eb:vs.length<64:=by exact C9 Hr.length<|C9 (ι _) h64
 refine Bk (Cq ?_ (by exact C9 Bw<|QB Eb rfl));have zB:(D6.heap.push (E0 vs 0)).get? D6.heap.objs.size=some (E0 vs 0):=Ξ _ rfl;refine Bk (Bt (Ce PyProof.Rows.slot_list_sort (DM _ zB rfl) PyProof.Rows.entry_list_sort (sort _ vs Hr Eb {D6 with heap:=D6.heap.push (E0 vs 0)} _ _ zB ?_) (PyProof.Rows.args_list_sort _)))
 rintro out ⟨us,rfl,hul,TE⟩
 refine (DM _ rfl (Bn (DM _ rfl ?_)))
 have k2: ∀b o,x.s.heap.get? b=some o→(sortedHeap (D6.heap.push (E0 vs 0)) D6.heap.objs.size vs us.toArray).get? b=some o:=λb o e=>by
  have e1:=kp b o e;refine C9 (sortedHeap_old (AW (Ad e1)) (by rw [Bg];exact A7 (Ad e1))) ?_;exact Β _ e1
 refine D3 (sortedHeap_at (n:=0) (vs:=vs) (out:=us.toArray) zB) λn hn=> ?_;have fr:=H7 kp (Dc D6.heap);exact h _ ⟨_,x.ρ,x.σ,_,x.R.new k2 fr hn⟩ ⟨WB x.R k2 fr,sm.1,sm.2,sm.3⟩ rfl (DV.nd (p:=(D6.heap.objs.size,D6.heap.objs.size)) (GI _ _ _) ⟨rfl,by unfold big;lia,n,rfl⟩ (TE _))
theorem Qb{va:Bj}{a r:V}{Q:Bj→Bl→Prop}(hh:A.handled=none)(ha:x.VV va a)(e:kM x.σ a=some r)(h:Ok x x.σ r Q):Bp (Bq c.prog c.w) A (call (.builtin "sorted") [va]) Q E x.s:=by
 refine DA e λq h1 e=>DY e λh2 e=>DA e λl h3 e=> ?_;rw [←η e] at h;obtain ⟨_,o,ws,_,_,_,ho,_⟩:=LO ha h1;cases k:q.1 with
 |zero=>
  rw [k] at h3;rw [←η (h3:some ((HA I9 (q.2.1.map bl)).map D.int)=some l)] at h;refine Nv hh ha h1 (by exact C9 k rfl) (Ds.mp h2) (λFg vs hv Eb Ej b F hb hF=> ?_) h;rw [uA ho k] at hv;refine list_sort_tree hb (TK _ hv) Eb λout ns' a1 a2 a3=>hF out (ED out.toList (by simp) ?_ (λYv=>gH a2 a3▸bJ a1))
  (exact C9 a1.length<|C9 ((TK _ hv).length)<|C9 a2.length_eq rfl)
 |succ k'=>cases k' with
  |succ=>rw [k] at h3;exact DC h3
  |zero=>
   rw [k] at h3;rw [←η (h3:some ((HA Ε (q.2.1.map Zr)).map D.sym)=some l)] at h;refine Nv hh ha h1 (by exact C9 k rfl) (Ds.mp h2) (λFg vs hv Eb Ej b F hb hF=> ?_) h;rw [s9 ho k] at hv;refine Dl (Zx _ hv) λhS Fy=> ?_;refine list_sort_treeK strKind_oneLt hb hS.keysOf (λv₁ v₂ rest e=>keyKind_strs (by exact Dr e hS)) Eb λuY hp hs=> ?_;refine ES (sorted_out_str hS hp hs) λNT h1 h2 h3=> ?_;refine DQ (TW Fy h2) λEZ p1 Gx=> ?_;subst Gx;have cZ: ∀k∈EZ,k<Fw.length:=λk hk=>Fy k (p1.mem_iff.mp hk);refine hF _ (ED (((arrOf uY).map (·.2)).toList) Array.toArray_toList.symm ?_ (λYv=> ?_))
   ·(exact C9 h1.length<|C9 hS.length<|C9 h2.length_eq rfl)
   ·exact Dr (g0 p1 (VW cZ h3))<|af EZ h1 cZ
end
end
end
section
mutual open A
theorem fV:Cu (.type "list") "keys" =pure none:=am_miss_of_fast (by decide+kernel)
theorem GF:plainId "dict.update.loop" =true:=by decide+kernel
theorem JR:entryFor table "dict.update.loop" =some Builtin.«dict.update.loop»:=entryFor_of_fast (by kernel_rfl)
end
section
mutual open A
variable{c:Cx}{hf:HF}{A:Bs}{s:Bl}{E:Bj→Bl→Prop}{x:St c}
set_option maxHeartbeats 1000000 in
theorem Yw{a:Br}{vs:List Bj}{n:Nat}{Q:Option Bj→Bl→Prop}(hA:A.handled=none)(hx:s.heap.get? a=some (E0 vs n))(h: ∀h' tk,(∀b o,s.heap.get? b=some o→h'.get? b=some o)→Q none {s with heap:=h',toks:=tk}):
  Bp (Bq c.prog c.w) A (getAttr? (.ref a) "keys") Q E s:=by
 obtain ⟨hp,g,d,tk,os⟩:=s;have hT: ∀ym,(⟨hp,g,d,ym,os⟩:Bl).TypeIs (.ref a) "list" :=λO=>(DM _ hx rfl);have f1:=PySem.sub_AttributeError;have f3:=PySem.F.slot_list_getattribute.lookup;have f4:=PySem.F.slot_list_getattribute.bind (.ref a);have f5:=PySem.am_list_getattr_none;unfold getAttr? getAttrBy? getAttrBy;repeat (any_goals (first|assumption|exact hT _|((with_reducible show Bp _ _ (call (Bj.builtin "list.__getattribute__") _ _) _ _ _);refine Ch PySem.F.slot_list_getattribute (hT _) am_entry_list_getattribute (PySem.F.args_list_getattribute_2 _ _) (meets_getattribute_miss_list a vs.toArray n #[] "keys" _ fV (by decide+kernel) (by size_fits)) ⟨hx,hA,λh' ym e hx'=> ?_⟩)|wp_step))
 refine HY hx'.there λt' u' he=> ?_;unfold getattributeRaised;repeat (any_goals (first|assumption|wp_step))
 exact h h' ym hx'.keeps
theorem Hq{d:Br}{kv v:Bj}{k:Nat}{o:Obj}{ks:List DO}{vs:List Bj}{key:DO}{Q:Unit→Bl→Prop}(kp: ∀b o,hf b=some o→s.heap.get? b=some o)(hu:A.units<B3)(hd:s.heap.get? d=some o)(ho:EA c hf o k ks vs)(hk:DV c hf kv key.d)(e:key.kind=k)(hb:vs.length<big)
  (h: ∀h' o' t,Bz.SameBut d s.heap h'→h'.get? d=some o'→EA c hf o' k (D2 ks key) (Dz ks vs key v)→Q () {s with heap:=h',toks:=t}):Bp (Bq c.prog c.w) A (dictSet d kv v) Q E s:=by
 cases MA ho hk e with
 |one knd m k k1 k2 k3 k4 k5=>exact wpAny_dictSet_pairs k1 (mapOf hd k2) (λh' hm hs=>DQ (BI.mp hm) λo' Jv gS=>h _ o' _ hs Jv (k5 v o' hb gS)) (K6 hb k3)
 |two a i j xs t u n k1 k2 k3 k4 k5 k6 k7 k8=>
  subst k1;exact wpAny_dictSet_heap (knd:=CN (B9 c.prog c.w)) hu (IZ kp k2) (IL kp hd k4 k5 k6) (λh' hm hs=>Ib hm λo' es ep Jv d1 d2 d3 O O=>h _ o' _ hs Jv (k8 v o' hb (EK es ep d1 d2 d3))) (K6 hb ((ι ..).trans k3))
theorem Tl{t:Br}{us:List Bj}{n:Nat}{Q:List Bj→Bl→Prop}(ht:s.heap.get? t=some (GZ us n))(h:Q us s):Bp (Bq c.prog c.w) A (Builtin.Dict.pairItems (.ref t)) Q E s:=by
 unfold Builtin.Dict.pairItems;refine Bk (CY (T:= "tuple") (DM _ ht rfl) ?_);refine C9 (if_pos (by decide)) ?_;exact Bk (wpAny_seqItems ht rfl (Bn h))
inductive K7(x:St c):List Bj→List (V×V)→Prop
 |nil:K7 x [] []
 |cons {t a b n us q qs}:x.s.heap.get? t=some (GZ [a,b] n)→x.VV a q.1→x.VV b q.2→K7 x us qs→K7 x (.ref t::us) (q::qs)
theorem Sx{l:List V}{p:V×V}(e:two l=some p):l= [p.1,p.2]:=by
 cases l with
 |nil=>exact DC e
 |cons a l=>cases l with
  |nil=>exact DC e
  |cons b l=>cases l with
   |nil=>exact De e rfl
   |cons=>exact DC e
theorem Zi{us:List Bj}{vs:List V}(h:x.GC us vs): ∀{qs:List (V×V)},Fo x.σ vs=some qs→K7 x us qs:=by
 induction h with
 |nil=>intro qs e;exact De e .nil
 |cons a _ ih=>
  intro qs e;refine DA e λl h1 e=>DA e λp h2 e=>DA e λqs' h3 e=> ?_;obtain ⟨q,Ir,n,rfl,g,_,hv⟩:=nY a h1;rw [Sx h2] at hv;cases hv with
  |cons v1 hv=>cases hv with
   |cons v2 hv=>cases hv;exact De e (.cons g v1 v2 (ih h3))
theorem KQ{k:Nat}{u v:V}{acc r:List DO×List V}(e:S5 k u v acc=some r): ∃d key,u= .d d∧HG d=some key∧key.kind=k∧r=(D2 acc.1 key,Dz acc.1 acc.2 key v):=
 DA e λd h1 e=>DA e λkey h2 e=>DY e λh3 e=>(FC d key (Er h1) h2 (nb (band h3).1) ((η e).symm))
theorem Rv{q I d:Br}{Ww:List Bj}{n k:Nat}{r:List DO×List V}{R:C8→Bl→Prop}(hh:A.handled=none)(hu:A.units+2<B3)(hq:x.s.heap.get? q=some (E0 Ww n))(hI:x.s.heap.get? I=none)(hd:x.s.heap.get? d=none)(dI:d≠I)
  (fin: ∀s' o vs,s'.heap.get? d=some o→EA c x.hf o k r.1 vs→x.GC vs r.2→(∀b o,x.s.heap.get? b=some o→s'.heap.get? b=some o)→GB x.s s'→R (.ok (.ret .none)) s') {us:List Bj} {qs:List (V×V)} (hp:K7 x us qs):
  ∀(i:Nat) (acc:List DO×List V) (s:Bl) (vs:List Bj) (o:Obj),Ww.drop i=us→i≤Ww.length→FB k qs acc=some r→x.GC vs acc.2→s.heap.IsListIter I q i→(∀b o,x.s.heap.get? b=some o→s.heap.get? b=some o)→GB x.s s→s.heap.get? d=some o→EA c x.hf o k acc.1 vs→vs.length+us.length≤big→
  Ci (Bq c.prog c.w) A (.builtin "dict.update.loop" ⟨[.ref d, .ref I,C7 i, .none], []⟩) R s:=by
 induction hp with
 |nil=>
  intro i acc s vs o qE hi e hv hit kp sm g ho hz;rw [Aq hi (List.drop_eq_nil_iff.mp qE)] at hit ⊢;refine CW JR ?_;refine C9 (Bs.under_plainId GF _) ?_;show Bp _ A.in1 (pyNext (.ref I)>>=_) _ _ s;refine Bk (wpAny_pyNext_list_end (A:=A.in1) hh hit (Dn (kp _ _ hq)) (by simp) λh' he=> ?_);show Bp _ _ (Builtin.Dict.addKeywords d []>>=_) _ _ _;rw [←η e] at fin;exact Bk (Bn (Bn (fin _ o vs (he d o dI g) ho hv (λb o e=>he b o (λz=>DC (hI.symm.trans (z▸e))) (kp b o e)) ⟨sm.1,sm.2,sm.3⟩)))
 | @cons t a b m us qp qs ht h1 h2 _ ih=>
  intro i acc s vs o qE hi e hv hit kp sm g ho hz;refine DA e λhY e1 e=> ?_;refine IU (KQ e1) λkd key w1 w2 w3 Nu=> ?_;subst Nu;rw [w1] at h1;have gw:i<Ww.length:=BV λz=>by rw [List.drop_eq_nil_of_le z] at qE;cases qE
  rw [Av gw] at qE;injection qE with e1 e2
  have wJ:vs.length+1+us.length≤big:=by rw [ξ] at hz;exact zqE hz
  refine CW JR ?_;refine C9 (Bs.under_plainId GF _) ?_;show Bp _ A.in1 (pyNext (.ref I)>>=_) _ _ s;refine Bk (wpAny_pyNext_list_item (x:= .ref t) hit (Dn (kp _ _ hq)) (by simp [Τ gw,e1]) λh' xb bj=> ?_);have re: ∀b o,x.s.heap.get? b=some o→h'.get? b=some o:=λb o e=>(bj.2 b λz=>DC (hI.symm.trans (z▸e))).trans (kp b o e);refine Bk (Bt (Bk (wpAny_tryCatch (Tl (s:={s with heap:=h'}) (re _ _ ht) ?_))));refine Bt (Hq (s:={s with heap:=h'}) (A:=A.in1) (λb o e=>re b o (x.R.keep b o e)) (Ed (A:=A) (m:=1) hu (by decide)) ((bj.2 d dI).trans g) ho (JG w2 h1) w3 (AQ (AF _) (Υ (Ζ ..) wJ)) λlX qF tk tA hg t7=> ?_);refine Bn ⟨CQ GF _, ?_⟩;exact ih (i+1) _ {s with heap:=lX,toks:=tk} _ qF e2 gw e (hv.put h2 _) (xb.at λo e=>(tA.2 I (Ne.symm dI)).trans e) (λb o e=>(tA.2 b λz=>DC (hd.symm.trans (z▸e))).trans (re b o e)) ⟨sm.1,sm.2,sm.3⟩ hg t7 (Υ (Ax (F6 key b acc.1 vs) _) wJ)
inductive NN(x:St c)(k:Nat)(ks:List DO)(l:List V)(v:Bj)(s':Bl):Prop
 |mk (I:Br) (o:Obj) (vs:List Bj) (w:v= .ref I) (hI:x.s.heap.get? I=none) (ho:s'.heap.get? I=some o) (hd:EA c x.hf o k ks vs) (hv:x.GC vs l) (kp: ∀b o,x.s.heap.get? b=some o→s'.heap.get? b=some o) (sm:GB x.s s')
theorem Jc{k:Nat}(hk:k<4):EA c hf {cls:= .type "dict",data:= .dict #[]} k [] []:=by
 have E: ∀{K:Type} [DecidableEq K] (knd:PySem.KeyKind c.prog c.w K),({cls:= .type "dict",data:= .dict #[]}:Obj).IsDictOf knd []:=λknd=>(Kf (#[]) 0 ⟨rfl,rfl,rfl⟩ rfl (λO h=>(by simp at h)) .nil .nil);refine ZD (P:=λk O=>EA c hf {cls:= .type "dict",data:= .dict #[]} k [] []) ?_ (ZD ?_ (ZD ?_ (ZD ?_ ltz))) k hk
 ·exact .np .i (AT _) (E _) .nil
 ·exact .np .s (AT _) (E _) .nil
 ·exact .pr (xs:= []) (AT _) (EK (#[]) 0 ⟨rfl,rfl,rfl⟩ rfl rfl) (λO h=>nomatch h) BB rfl rfl
 ·exact .np .t (AT _) (E _) .nil
theorem U'{va:Bj}{l:List V}{qs:List (V×V)}{k:Nat}{r:List DO×List V}{Q:Bj→Bl→Prop}(hk:k<4)(hh:A.handled=none)(hu:A.units+4<B3)(hv:UQ x E0 va l)(e2:Fo x.σ l=some qs)(e3:FB k qs ([], [])=some r)
  (h: ∀v s',NN x k r.1 r.2 v s'→Q v s'):Bp (Bq c.prog c.w) A (call (.type "dict") [va]) Q E x.s:=by
 obtain ⟨q,us,n,rfl,g,hb,TE⟩:=hv;refine callType_codes (Q₁:=λobj D6=>obj= .ref x.s.heap.objs.size∧D6={x.s with heap:=x.s.heap.push {cls:= .type "dict",data:= .dict #[]}}) PySem.F.kt_called_dict (PySem.F.kt_typeCall_dict_1 _) PySem.F.entry_dict_init (kt_code_dict_new _ ⟨rfl,rfl⟩) ?_
 rintro obj D6 ⟨rfl,rfl⟩
 have Xl:(x.s.heap.push {cls:= .type "dict",data:= .dict #[]}).get? x.s.heap.objs.size=some {cls:= .type "dict",data:= .dict #[]}:=Ξ _ rfl;have kp: ∀b o,x.s.heap.get? b=some o→(x.s.heap.push {cls:= .type "dict",data:= .dict #[]}).get? b=some o:=λb o e=>Β _ e;refine ⟨(DM _ Xl rfl),PySem.F.args_dict_init_2 _ _, ?_⟩;unfold Builtin.«dict.__init__»;refine Bk ?_;unfold Builtin.Dict.selfAndRest;refine Bk (wpAny_notOrdered_dict (DM _ Xl rfl) ?_);show Bp _ _ (pure (x.s.heap.objs.size, [Bj.ref q])) _ _ _;refine Bn ?_;show Bp _ _ (Builtin.Dict.updateFrom "dict.__init__" x.s.heap.objs.size (.ref q) [] .none) _ _ _;unfold Builtin.Dict.updateFrom;refine Bk (CY (T:= "list") (DM _ (kp _ _ g) rfl) ?_);refine C9 (if_pos (by decide)) ?_;refine Bk (Yw (A:=A.in1.in1) hh (kp _ _ g) λUL tk k₂=> ?_);refine C9 (if_pos (show (none:Option Bj).isNone=true from rfl)) ?_;refine Bk (wpAny_rule (Bk (wpAny_pyIter_list (Dn (k₂ _ _ (kp _ _ g))) ?_)));refine Bn ⟨CQ GF _, ?_⟩;have hI:x.s.heap.get? UL.objs.size=none:=H7 (λb o e=>k₂ b o (kp b o e)) (Dc UL);have hdI:x.s.heap.objs.size≠UL.objs.size:=λz=>by have:=k₂ _ _ Xl;rw [z,Dc] at this;cases this
 exact Rv (A:=A.in1) hh (Ed (A:=A) (m:=3) hu (by decide)) g hI (Dc _) hdI (λs' o' D4 a1 a2 a3 a4 a5=>⟨rfl,h _ _ ⟨_,o',D4,rfl,Dc _,a1,a2,a3,a4,a5⟩⟩) (Zi TE e2) 0 ([], []) _ [] _ rfl (AT _) e3 .nil (ED _ (Ξ _ rfl) rfl rfl) (λb o e=>Β _ (k₂ b o (kp b o e))) ⟨rfl,rfl,rfl⟩ (Β _ (k₂ _ _ Xl)) (Jc hk) (by exact C9 BJ<|C9 (BP _) hb)
theorem Xd{va:Bj}{k:Nat}{ks:List DO}{l:List V}{Q:Bj→Bl→Prop}(hv:aA x va k ks l)(hn:np k=true)(h: ∀v s',NN x k ks l v s'→Q v s'):Bp (Bq c.prog c.w) A (call (.type "dict") [va]) Q E x.s:=by
 obtain ⟨q,o,vs,rfl,g,z,ho,Hr⟩:=hv;cases ho with
 |pr=>exact ζ hn
 |np p hb h1 r=>
  refine kt_call_dict z (mapOf g h1) (by refine C9 r.len.1<|C9 Bw ?_;unfold big at hb;exact ZI hb rfl) λh' hd hs=> ?_;refine DQ (BI.mp hd) λo' Jv gS=> ?_;exact h _ _ ⟨_,o',vs,rfl,Dc _,Jv, .np p hb gS r,Hr,λb o e=>(hs.2 b (AW (Ad e))).trans (Β _ e),rfl,rfl,rfl⟩
end
end
end
section
mutual open A
variable{c:Cx}{hf:HF}{A:Bs}{s:Bl}{E:Bj→Bl→Prop}{x:St c}
theorem R9(c:Cx){ml:List (Int×Bj)}{ks:List DO}{us:List Bj}(r:Rows (λn k=>k= .i n) ml ks us): ∀{kl:List (Int×Bj)} {as:List DO} {vs:List Bj},(kl.map (·.1)).Nodup→Rows (λn k=>k= .i n) kl as vs→Rows (λn k=>k= .i n) (merged kl ml) (T5 ks as) (Op id ks us as vs):=by
 induction r with
 |nil=>intro kl as vs _ h;exact h
 | @cons a z v l ks us h1 _ ih=>
  intro kl as vs n h;have e:merged kl ((a,v)::l)=merged (O3 kl a v) l:=by unfold merged;refine C9 List.foldl_cons ?_;dsimp only;(exact C9 (PJ n) rfl)
  refine C9 e ?_;exact ih (NZ n) (Rows.put (c:=c) .i h1 v h)
theorem cW{α β γ δ:Type}{R:α→γ→Prop}{f:β→α}{g:δ→γ}(ks:List DO): ∀{us:List β} {xs:List δ} {as:List DO} {vs:List α} {l:List γ},DS (λu x=>R (f u) (g x)) us xs→DS R vs l→DS R (Op f ks us as vs) (Op g ks xs as l):=by
 induction ks with
 |nil=>intro us xs as vs l _ h;cases us<;>cases xs<;>exact h
 |cons k ks ih=>intro us xs as vs l hu h;cases hu with
  |nil=>exact h
  |cons a b=>exact ih b (h.put a as)
theorem Sl{α β:Type}{f:β→α}(ks:List DO): ∀{us:List β} {as:List DO} {vs:List α},(Op f ks us as vs).length≤vs.length+us.length:=by
 induction ks with
 |nil=>intro us as vs;cases us<;>exact Ζ ..
 |cons k ks ih=>intro us as vs;cases us with
  |nil=>exact Ι _
  |cons u us=>exact Υ ih (by have:=F6 k (f u) as vs;refine C9 ξ ?_;lia)
theorem YC{d:D}{p:List DO×List D}(e:sC d=some p):d= .nd (.Dg 0 p.1) p.2:=by
 cases d with
 |nd h l=>cases h with
  |Dg k ks=>cases k with
   |zero=>exact De e rfl
   |succ=>exact DC e
  |_=>exact DC e
 |_=>exact DC e
theorem EA.rows0{o:Obj}{k:Nat}{ks:List DO}{vs:List Bj}(h:EA c hf o k ks vs)(e:k=0): ∃l,o.IsDictOf (B9 c.prog c.w) l∧Rows (λn k=>k= .i n) l ks vs:=by
 cases h with
 |pr=>exact Α e
 |np p _ h r=>cases p with
  |i=>exact (DM _ h r)
  |s=>exact Α e
  |t=>exact Α e
theorem Q6{vo vv:Bj}{o v:V}{DT:Store}{Q:Bj→Bl→Prop}(ho:x.VV vo o)(hv:x.VV vv v)(e:QU x.σ o v=some DT)(h:Did x DT (Q .none)):Bp (Bq c.prog c.w) A (call (.builtin "dict.update") [vo,vv]) Q E x.s:=by
 refine wr λZ0 z0=> ?_;refine DA e λd h1 e=>DA e λp h2 e=>DA e λr h3 e=>DY e λh4 e=> ?_;refine DA h3 λr' h5 e'=>DA e' λq h6 e'=>DY e' λh7 e'=> ?_;rw [Er h1,YC h2] at hv;obtain ⟨p2,o2,us,rfl,g2,⟨t1,t2,t3⟩,TE⟩:=DV.shape hv;obtain ⟨p1,o1,vs,rfl,hp,hk,g1,sh,Hr,hn⟩:=M7 ho h5;refine z0 ?_;rw [Nt h6,nb h7] at sh hk;refine wr λZ0 z0=> ?_;obtain ⟨s1,s2,s3⟩:=sh;refine DQ (s3.rows0 rfl) λkl k1 k2=> ?_;refine DQ (t3.rows0 rfl) λml m1 m2=> ?_;refine z0 ?_;have hb:=Ds.mp h4;rw [←η e'] at hb e;have b1:=s3.big.2;have b2:=t3.big.2;refine C9 s1<|C9 t1 ?_
 have pG:kl.length+ml.length<big:=by exact C9 k2.len.1<|C9 m2.len.1<|Dr b1<|Dr b2<|C9 (Am _ _) hb
 refine CX PySem.F.slot_dict_update (mapOf g1 k1).typeIs PySem.F.entry_dict_update (PySem.F.args_dict_update_2 _ _) (meets_dict_update (B9 c.prog c.w) p1.2 p2.2 (λz=>DC (hn.symm.trans (z▸g2))) t2) (FC kl ml (mapOf g1 k1) (mapOf (x.R.keep _ _ g2) m1) (by refine C9 Bw ?_;unfold big at pG;exact QB pG rfl) (λh' ZP O hs=> ?_));refine DQ (BI.mp ZP) λo' Jv gS=> ?_;refine Did.turn (k':= .lv (.Dg 0 (T5 p.1 q.2)) (Op V.d p.1 p.2 q.2 r'.2.2)) h (η e) hk rfl hp hs rfl (FK hn o' _ Jv ⟨s1,s2, .np .i (Υ (Sl _) ?_) gS (R9 c m2 (IsDictOf.nodup k1) k2)⟩ (cW (f:=id) (g:=V.d) (R:=VV c x.hf (x.ρ.take r'.1)) p.1 TE Hr)) x.s.toks;exact Dr k2.len.1<|Dr m2.len.1<|AY pG
theorem Uv{l:List Int}(n:Nat):n≤l.length→preSum (λi=>(l[i]?).getD 0) n=(l.take n).sum:=by
 induction n with
 |zero=>intro _;rfl
 |succ n ih=>
  intro h;have hn:n<l.length:=h;rw [preSum,ih (AY hn),Τ hn,List.take_succ_eq_append_getElem hn,List.sum_append];simp only [Option.getD_some,List.sum_cons,List.sum_nil,Int.add_zero]
theorem ZF{l:List D}: ∀{n:Int},X5 l=some n→ ∃ks:List Int,l=ks.map .int∧n=ks.sum:=by
 induction l with
 |nil=>intro n e;exact De e (DM ([]) rfl rfl)
 |cons d l ih=>intro n e;exact DA e λa h1 e=>DA e λb h2 e=>DQ (ih h2) λks w1 w2=>(DM (a::ks) (by exact C9 (Gs h1)<|C9 w1 rfl) (by (exact Dr (η e)<|C9 w2<|C9 List.sum_cons rfl)))
theorem ZC{prog:Program}{w:World}{I:Br}{fp wr:List Br}{n:Nat}{P:Nat→Bj→Prop}{St:Nat→Bz→Prop}(W:C5 prog w A I fp wr n P St):C5 prog w A I fp wr n (λi v=>P i v∧i<n) St where
 sub:=W.sub
 frame:=W.frame
 item:=λi s Q E hi st hQ=>W.item i s Q E hi st λv h' tk p=>hQ v h' tk ⟨p,hi⟩
 done:=W.done
 self:=W.self
theorem ZK{va:Bj}{l:List D}{n:Int}{Q:Bj→Bl→Prop}(hh:A.handled=none)(hv:DV c x.hf va (.nd .lst l))(e:X5 l=some n)(h:Ok x x.σ (.d (.int n)) Q):Bp (Bq c.prog c.w) A (call (.builtin "sum") [va]) Q E x.s:=by
 obtain ⟨ks,rfl,rfl⟩:=ZF e;refine call_sum_walkG (PO (A:=A.in1) hv rfl λit y ly ey w=> ?_);obtain ⟨I,fp,wr,P,S,rfl,w,st⟩:=w;refine ⟨I,fp,wr,_,_,S,λi=>(ks[i]?).getD 0,rfl,ZC (w.W A.in1 hh),st,λb hb=>D3 ((w.ex 0 _ st).2 b hb) λo ho=>Ad ho,λi v ⟨p,hi⟩=> ?_,λh' tk t' k=> ?_⟩
 ·rw [ι] at hi
  have:=w.dv i v (.int ks[i]) p (by exact C9 (Ay)<|C9 (Τ hi) rfl)
  dsimp only;refine C9 (Τ hi) ?_;exact E4 this
 ·refine C9 (ι _)<|C9 (Uv _ (Ι _))<|C9 AS ?_
  refine h _ ⟨y.hf,y.ρ,y.σ,{y.s with heap:=h',toks:=tk},w.rel y.R λb o hb e=>k b o hb e⟩ ⟨⟨ly.nx.kf,ly.nx.Jg,λb o e n=>k b o (λhb=>w.off hb (.inr (.inr λz=>DC (z.symm.trans e)))) (ly.nx.Ee b o e n),ly.nx.FA,ly.nx.EE⟩,ly.sm.1,ly.sm.2,ly.sm.3⟩ ey (DV.int _ _)
end
end
section
mutual open A
def fH(CL:Nat→Br):Nat→Bj
 |0=> .type "NoneType" |1=> .type "bool" |2=> .type "int" |3=> .type "str" |4=> .type "list" |5=> .type "dict" |6=> .type "tuple"
 |k=> .ref (CL (k - 10))
def dx(k:Nat):Bool:=Μ k 7||(Ε 10 k&& !(DX (k - 10)).isEmpty)
structure zv(K:B4)(CL:Nat→Br):Prop extends KF K CL where
 e7: ∀k t,dx k=true→Μ t 19=true→kitOne K (fH CL k) (fH CL t)=some (ME k t)
 g1: ∀c,(DX c).isEmpty=false→Cy K (CL c) "__class__" =true
 g2: ∀c,(DX c).isEmpty=false→hasDictIn K (CL c)=true
 g3: ∀c,(DX c).isEmpty=false→CV K (.ref (CL c)) "__class__" =some (some (.builtin "object.__class__"))
 g4:specialIn K (.builtin "object.__class__") "__get__" =some (some (.builtin "getset_descriptor.__get__"))
 g5:takesIn K (.builtin "object.__class__")=some true
 g6: ∀c,(DX c).isEmpty=false→mroIn K (CL c) (.type "object")=some true
end
section
mutual open A
variable{c:Cx}{hf:HF}{A:Bs}{s:Bl}{E:Bj→Bl→Prop}{x:St c}{K:B4}
theorem Xk(F:zv K c.CL)(X:K.In x.s.heap){va:Bj}{a r:V}{t:Nat}{Q:Bj→Bl→Prop}(ht:Μ t 19=true)(ha:x.VV va a)(e:uL x.σ a t=some r)(h:Ok x x.σ r Q):
  Bp (Bq c.prog c.w) A (call (.builtin "isinstance") [va,fH c.CL t]) Q E x.s:=by
 refine DA e λk h1 e=> ?_;rw [←η e] at h;have fin: ∀tk,Q (.bool (ME k t)) {x.s with toks:=tk}:=λtk=>h.here (DV.bool _) tk
 have vw:(DN (G4 x.σ a) λq=>kdH q.1)=some k→Bp (Bq c.prog c.w) A (call (.builtin "isinstance") [va,fH c.CL t]) Q E x.s:=λe=>by
  refine DA e λq h2 e=> ?_;obtain ⟨p,o,vs,rfl,g,sh,_⟩:=Gk ha h2;obtain ⟨hd,l⟩:=q;cases hd with
  |tup=>
   obtain ⟨s1,_,n,rfl⟩:=sh;rw [←η (e:some 6=some k)] at fin;exact Cb kitx_tuple X (DM _ (s1▸g) rfl) (F.e7 6 t rfl ht) (λq=>by cases q) fin
  |lst=>
   obtain ⟨s1,_,n,rfl⟩:=sh;rw [←η (e:some 4=some k)] at fin;exact Cb kitx_list X (DM _ (s1▸g) rfl) (F.e7 4 t rfl ht) (λq=>by cases q) fin
  |Dg=>
   rw [←η (e:some 5=some k)] at fin;exact Cb kitx_dict X (sh.s1▸sh.s3.typeIs g) (F.e7 5 t rfl ht) (λq=>by cases q) fin
  |inst cl=>
   refine DY (x:=some (10+cl)) e λh3 e=> ?_;have ne:(DX cl).isEmpty=false:=by cases q:(DX cl).isEmpty with|false=>rfl|true=>rw [q] at h3;exact ζ h3
   rw [←η e] at fin;have kv:fH c.CL (10+cl)= .ref (c.CL cl):=by exact C9 (Am _ _) rfl
   have ko:dx (10+cl)=true:=by show (Μ (10+cl) 7||(Ε 10 (10+cl)&& !(DX (10+cl - 10)).isEmpty))=true;exact C9 (Ω _ _)<|C9 ne<|C9 (ο (Ζ 10 cl))<|Be _
   exact Cb (kitx_own (F.g1 cl ne) (F.g2 cl ne) (F.g3 cl ne) F.g4 F.g5 (F.g6 cl ne)) X (⟨x.R.keep _ _ sh.1,rfl,rfl,g⟩:W.InstAt x.s.heap p.1 (CB (c.CL cl) p.2) (c.CL cl) (some o)) (kv▸F.e7 (10+cl) t ko ht) (λq=>by cases q) fin
 cases a with
 |cell i=>exact vw h1
 |d d=>cases d with
  |none=>
   rw [←η (h1:some 0=some k)] at fin;refine C9 (KE ha) ?_;exact Cb kitx_none X trivial (F.e7 0 t rfl ht) (λq=>by cases q) fin
  |bool b=>
   rw [←η (h1:some 1=some k)] at fin;refine C9 (IQ ha) ?_;exact Cb kitx_bool X trivial (F.e7 1 t rfl ht) (λq=>by cases q) fin
  |int i=>
   rw [←η (h1:some 2=some k)] at fin;refine D3 (E4 ha) λu Ff=> ?_;subst Ff;exact Cb kitx_int X trivial (F.e7 2 t rfl ht) (λq=>by cases q) fin
  |sym n=>
   rw [←η (h1:some 3=some k)] at fin;cases (ha:DV c x.hf va (.sym n)) with
   |sym=>exact Cb kitx_str X trivial (F.e7 3 t rfl ht) (λq=>by cases q) fin
  |str w=>
   rw [←η (h1:some 3=some k)] at fin;cases (ha:DV c x.hf va (.str w)) with
   |str=>exact Cb kitx_str X trivial (F.e7 3 t rfl ht) (λq=>by cases q) fin
  |nd=>exact vw h1
theorem aW{keep:Bool}{hd:Hd}{l:List V}{r:V}{σ DT:Store}{Q:Bj→Bl→Prop}(e:Df keep hd l σ=some (r,DT)){h':Bz}{G3:HF}{ρ:RH}(N:Os x.hf x.ρ x.s.heap G3 ρ h')(R:F5 c G3 ρ σ h'){p:Br×Br}{o:Obj}{vs:List Bj}(hp:x.s.heap.get? p.2=none)(hn:G3 p.2=none)(fr: ∀q∈ρ,q.2≠p.2)
  (ho:h'.get? p.2=some o) (sh:ZB c G3 p o hd vs) (hv:GC c G3 ρ vs l) {s':Bl} (hs:s'.heap=h') (sm:GB x.s s')
  (h: ∀val (z:St c),Le x z→z.σ=DT→z.VV val r→(∀b o,h'.get? b=some o→b≠p.2→G3 b=none→(∀q∈ρ,q.2≠b)→z.hf b=none∧ ∀q∈z.ρ,q.2≠b)→z.s=s'→Q val z.s):Q (.ref p.1) s':=by
 subst hs;cases keep with
 |true=>
  revert h;refine NE (show some (V.cell σ.length,σ++ [Dh.lv hd l])=some (r,DT) from e) ?_;intro h;refine h _ ⟨G3,ρ++ [p],σ++ [.lv hd l],s',R.cell (k:= .lv hd l) (FK hn o vs ho sh hv) rfl fr⟩ ⟨⟨N.kf,λi q e=>(Ο (FG (N.Jg i q e))).trans (N.Jg i q e),N.Ee,N.FA,λq hq=> ?_⟩,sm⟩ rfl (DM p (by exact Dr R.len<|C9 (AG (Ι _))<|C9 (Ai _) rfl) rfl) (λb o eb nb hn I5=>⟨hn,λq hq=>(ω.mp hq).elim (I5 q) λz w=>nb ((ς.mp z▸w).symm)⟩) rfl;rcases ω.mp hq with z|z
  ·exact N.EE q z
  ·exact .inr (ς.mp z▸hp)
 |false=>
  have e:EI (HS (Hz FZ) l σ) (λds σ=>some (V.d (.nd hd ds),σ))=some (r,DT):=e;refine DP e λds DD KX e=> ?_;revert h;refine NE (show some (V.d (.nd hd ds),DD)=some (r,DT) from e) ?_;intro h;refine YF (x:=⟨G3,ρ,σ,s',R⟩) KX hv λLS KR Id dv=> ?_
  have TP:LS p.2=none:=by
   cases q:LS p.2 with
   |none=>rfl
   |some o'=>
    rcases Id.nx.FA _ _ q with z|⟨w,hw,z⟩|z
    ·exact DC (hn.symm.trans z)
    ·exact absurd z (fr w hw)
    ·exact DC (z.symm.trans ho)
  have le:=Hv (o:=o) TP;refine h _ ⟨Vo LS p.2 o,ρ,_,s',KR.freeze TP (λO O e=>e) ho rfl λi z q e1 e2=> .inl ⟨e1,λO=>fr q (AC e2)⟩⟩ ⟨⟨λb o' e=>le b o' (Id.nx.kf _ _ (N.kf _ _ e)),N.Jg,N.Ee,λb o' e=>JE e (λw O=> .inr (.inr (w▸hp))) λO e=>(N.trans Id.nx).FA _ _ e,N.EE⟩,sm⟩ rfl (DV.nd (GI _ _ _) ((sh.mono Id.nx.kf).mono le) (dv.Pb le)) (λb o' eb nb qD I5=>⟨?_,I5⟩) rfl;show Vo LS p.2 o b=none;refine C9 (N7 _ _ nb) ?_;cases q:LS b with
  |none=>rfl
  |some qF=>
   rcases Id.nx.FA _ _ q with z|⟨w,hw,z⟩|z
   ·exact DC (qD.symm.trans z)
   ·exact absurd z (I5 w hw)
   ·exact DC (z.symm.trans eb)
theorem N5{keep:Bool}{hd:Hd}{l:List V}{r:V}{σ DT:Store}{Q:Bj→Bl→Prop}(e:Df keep hd l σ=some (r,DT)){h':Bz}{G3:HF}{ρ:RH}(N:Os x.hf x.ρ x.s.heap G3 ρ h')(R:F5 c G3 ρ σ h'){p:Br×Br}{o:Obj}{vs:List Bj}(hp:x.s.heap.get? p.2=none)(hn:G3 p.2=none)(fr: ∀q∈ρ,q.2≠p.2)
  (ho:h'.get? p.2=some o) (sh:ZB c G3 p o hd vs) (hv:GC c G3 ρ vs l) (h:Ok x DT r Q) {s':Bl} (hs:s'.heap=h') (sm:GB x.s s'):Q (.ref p.1) s':=aW e N R hp hn fr ho sh hv hs sm λval z l e hv O O=>h val z l e hv
theorem Tw{keep:Bool}{us:List Bj}{l:List V}{r:V}{DT:Store}(e:Df keep .lst l x.σ=some (r,DT))(hv:x.GC us l)(hb:us.length≤big){M:Model}{Q:Bj→Bl→Prop}(h:Ok x DT r Q):Bp M A (newList us) Q E x.s:=
 Cq (N5 (p:=(x.s.heap.objs.size,x.s.heap.objs.size)) e (F3 (E0 us 0)).nx (x.JL (E0 us 0)).R (Dc _) (x.R.fresh (Dc _)).1 (x.R.fresh (Dc _)).2 (Ξ _ rfl) ⟨rfl,hb,0,rfl⟩ hv h rfl ⟨rfl,rfl,rfl⟩) (by refine C9 Bw ?_;unfold big at hb;exact ZI hb rfl)
theorem Sq{keep:Bool}{us:List Bj}{l:List V}{r:V}{DT:Store}(e:Df keep .tup l x.σ=some (r,DT))(hv:x.GC us l)(hb:us.length≤big){M:Model}{Q:Bj→Bl→Prop}(h:Ok x DT r Q):Bp M A (newTuple us) Q E x.s:=
 wpAny_newTuple (N5 (p:=(x.s.heap.objs.size,x.s.heap.objs.size)) e (F3 (GZ us 0)).nx (x.JL (GZ us 0)).R (Dc _) (x.R.fresh (Dc _)).1 (x.R.fresh (Dc _)).2 (Ξ _ rfl) ⟨rfl,hb,0,rfl⟩ hv h rfl ⟨rfl,rfl,rfl⟩) (by refine C9 Bw ?_;unfold big at hb;exact ZI hb rfl)
theorem QT(SM: ∃o,c.h₀.get? By=some o){I:Br}(hI:x.s.heap.get? I=none):(I==By)=false:=
 beq_eq_false_iff_ne.mpr λz=>D3 SM λo' Jv=>DC (hI.symm.trans (z▸x.R.keep _ _ (x.R.base _ _ Jv)))
theorem Vf(SM: ∃o,c.h₀.get? By=some o){keep:Bool}{k:Nat}{ks:List DO}{l:List V}{r:V}{DT:Store}{v:Bj}{s':Bl}{Q:Bj→Bl→Prop}(e:Df keep (.Dg k ks) l x.σ=some (r,DT))(N:NN x k ks l v s')(h:Ok x DT r Q):Q v s':=by
 obtain ⟨I,o,vs,rfl,hI,ho,hd,hv,kp,sm⟩:=N;exact N5 (p:=(I,I)) e (F7 _ _ kp) (x.R.Ei λb o e O=>kp b o e) hI (x.R.fresh hI).1 (x.R.fresh hI).2 ho ⟨rfl,QT SM hI,hd⟩ hv h rfl sm
end
end
end
section
mutual open A
structure I2(K:B4)(c:Cx):Prop where
 X:K.In c.h₀
 F:zv K c.CL
 g: ∃mg,c.h₀.Ns Bx mg
 b: ∃mb,c.h₀.Ns Cv mb∧ ∀x:Str,x≠ "__name__" →mb x=Cj x
 nolimit:c.h₀.NoLimit
 SM: ∃o,c.h₀.get? By=some o
structure Ms(A:Bs)(k:Nat):Prop where
 handled:A.handled=none
 guards:A.guards=some []
 depth:A.depth+3*k+10≤1000
 units:A.units+30*k+200≤9900
theorem Ms.deeper{A:Bs}{k:Nat}(h:Ms A (k+1))(env:Env):Ms (A.deeper env) k:=⟨h.handled,h.guards,by have:=h.depth;show A.depth+1+3*k+10≤1000;lia,by have:=h.units;show A.units+3+30*k+200≤9900;lia⟩
theorem Ms.u{A:Bs}{k:Nat}(h:Ms A k):A.units+100<B3:=by have:=h.units;show A.units+100<9900;lia
inductive NK where
 |loc|cf|gl
abbrev Vw:=Str→Option NK
def nk:B0→Option NK
 | .local=>some .loc
 | .cell=>some .cf
 | .free=>some .cf
 | .globalImplicit=>some .gl
 |_=>none
def vw(sc:CM):Vw:=λid=>DN (sc.names.lookup id) nk
def seen(q:Vw)(id:Str):Bool:=match q id with
 |some .loc=>true
 |some .cf=>true
 |_=>false
def MO(env:Env)(h:Bz)(x:Str)(v:Bj):Prop:=
 (env.kindOf x=some .local∧ ∃m,h.Ns env.locals m∧m x=some v)∨((env.kindOf x=some .cell∨env.kindOf x=some .free)∧ ∃b,env.cells.lookup x=some b∧h.IsCell b (some v))
def NP(env:Env)(b:Br):Prop:=b=env.locals∨ ∃n,env.cells.lookup n=some b
structure FS(env:Env):Prop where
 kind:env.scope.kind= .function
 glob:env.globals=Bx
 gX:env.builtins=Cv
 apart:env.cells.Pairwise λx y=>x.2≠y.2
 other: ∀n b,env.cells.lookup n=some b→b≠env.locals
 cf: ∀n,vw env.scope n=some .cf→(env.cells.lookup n).isSome=true
structure FR{c:Cx}(env:Env)(loc:Di)(x:St c):Prop where
 S:FS env
 low: ∀a v,DE loc a=some v→a<Fw.length
 vals: ∀a v,DE loc a=some v→seen (vw env.scope) (nm a)=true→ ∃val,MO env x.s.heap (nm a) val∧x.VV val v
 ns: ∃m,x.s.heap.Ns env.locals m
 cell: ∀n b,env.cells.lookup n=some b→ ∃v,x.s.heap.IsCell b v
 Ee: ∀b,NP env b→x.hf b=none∧ ∀p∈x.ρ,p.2≠b
end
section
mutual open A
variable{c:Cx}{A:Bs}{s:Bl}{E:Bj→Bl→Prop}{x y:St c}{K:B4}{env:Env}{loc:Di}
theorem MO.keeps{h h':Bz}{a:Str}{v:Bj}(N:MO env h a v)(k: ∀b,NP env b→ ∀o,h.get? b=some o→h'.get? b=some o):MO env h' a v:=by
 rcases N with ⟨a,m,⟨o,es,ep,ho,r⟩,z⟩|⟨a,b,hb,o,ho,r⟩
 ·exact .inl (GR a m (QQ o es ep (k _ (.inl rfl) _ ho) r) z)
 ·exact .inr (ix a b hb o (k _ (.inr (EG _ hb)) _ ho) r)
theorem FR.move(f:FR env loc x)(k: ∀b,NP env b→ ∀o,x.s.heap.get? b=some o→y.s.heap.get? b=some o)(vv: ∀val v,x.VV val v→y.VV val v)(pr: ∀b,NP env b→y.hf b=none∧ ∀p∈y.ρ,p.2≠b):FR env loc y:=
 ⟨f.S,f.low,λa v e se=>DQ (f.vals a v e se) λval n b=>(DM val (n.keeps k) (vv _ _ b)),Jn f.ns λm o es ep ho r=>(Px m o es ep (k _ (.inl rfl) _ ho) r),λn b e=>GE (f.cell n b e) λv o ho r=>(Gp v o (k _ (.inr (EG n e)) _ ho) r),pr⟩
theorem FR.ex(f:FR env loc x){b:Br}(hb:NP env b): ∃o,x.s.heap.get? b=some o:=by
 rcases hb with e|⟨n,hn⟩
 ·refine Jn f.ns λm o O O ho O=> ?_;exact (EG o (e▸ho))
 ·refine GE (f.cell n b hn) λv o ho O=> ?_;exact (EG o ho)
theorem FR.Jz(f:FR env loc x)(l:Le x y):FR env loc y:=by
 refine f.move (λb hb o e=>l.nx.Ee b o e (f.Ee b hb).2) (λO O h=>VV.le h l) λb hb=> ?_;refine D3 (f.ex hb) λo ho=> ?_;refine ⟨?_,λp hp e=> ?_⟩
 ·cases q:y.hf b with
  |none=>rfl
  |some o'=>
   rcases l.nx.FA b o' q with z|⟨p,hp,z⟩|z
   ·exact DC ((f.Ee b hb).1.symm.trans z)
   ·exact absurd z ((f.Ee b hb).2 p hp)
   ·exact DC (z.symm.trans ho)
 ·rcases l.nx.EE p hp with ⟨q,hq,z⟩|z
  ·exact (f.Ee b hb).2 q hq (z.trans e)
  ·exact DC (z.symm.trans (e▸ho))
def EV(x:Str):Bool:=x==("__debug__" :Str)||x==("__classdict__" :Str)
theorem K0{a:Str}(d:(!EV a)=true):(a==("__debug__" :Str))=false∧(a==("__classdict__" :Str))=false:=by
 unfold EV at d;cases h1:a==("__debug__" :Str) with
 |true=>rw [h1] at d;exact ζ d
 |false=>rw [h1] at d;cases h2:a==("__classdict__" :Str) with
  |true=>rw [h2] at d;exact ζ d
  |false=>exact ⟨rfl,rfl⟩
theorem UE{a:Nat}{v:V}{pos:Pos}{Q:Bj→Bl→Prop}(f:FR env loc x)(e:DE loc a=some v)(se:seen (vw env.scope) (nm a)=true)(d:(!EV (nm a))=true)(h:Ok x x.σ v Q):Bp (Bq c.prog c.w) A (eval (.Name (nm a) pos) env) Q E x.s:=by
 refine DQ (f.vals a v e se) λval N hv=> ?_;refine Dl (K0 d) λd1 d2=> ?_;have q:=h.Mc hv;refine wpAny_Name ?_ d1;rcases N with ⟨a,m,b,z⟩|⟨a|a,b,hb,z⟩
 ·exact wpAny_loadName_local f.S.kind a b z q
 ·exact wpAny_loadName_cell f.S.kind a hb z q
 ·exact wpAny_loadName_free f.S.kind a hb z q d2
theorem St.base(x:St c): ∀b o,c.h₀.get? b=some o→x.s.heap.get? b=some o:=λb o e=>x.R.keep _ _ (x.R.base _ _ e)
theorem KW(B:I2 K c)(f:FR env loc x){a:Str}{v:Bj}{pos:Pos}{Q:Bj→Bl→Prop}(hk:env.kindOf a=some .globalImplicit)(e:C3 K Bx a=some (some v))(d:(!EV a)=true)(h:Q v x.s):Bp (Bq c.prog c.w) A (eval (.Name a pos) env) Q E x.s:=
 D3 B.g λmg hg=>
 Name_function_global f.S.kind hk (loadGlobal_global (by exact C9 f.S.glob<|hg.keeps x.base) (mg_of B.X hg e) h) (K0 d).1
theorem UB(B:I2 K c)(f:FR env loc x){a:Str}{v:Bj}{pos:Pos}{Q:Bj→Bl→Prop}(hk:env.kindOf a=some .globalImplicit)(e:C3 K Bx a=some none)(hb:Cj a=some v)(hn:a≠ "__name__")(d:(!EV a)=true)(h:Q v x.s):Bp (Bq c.prog c.w) A (eval (.Name a pos) env) Q E x.s:=
 D3 B.g λmg hg=>
 DQ B.b λmb v7 Zy=>
 Name_function_global f.S.kind hk (loadGlobal_builtin (by exact C9 f.S.glob<|hg.keeps x.base) (mg_none_of B.X hg e) (by exact C9 f.S.gX<|v7.keeps x.base) ((Zy a hn).trans hb) h) (K0 d).1
theorem E8{a b:Nat}{v:V}{l:Di}:DE (DR l a v) b=if a=b then some v else DE l b:=by
 induction l with
 |nil=>
  show cond (μ a b) (some v) none=_
  by_cases h:a=b
  ·exact C9 h<|C9 (AH _)<|C9 (if_pos rfl) rfl
  ·exact C9 (kS h)<|C9 (if_neg h) rfl
 |cons p r ih=>
  show DE (cond (μ p.1 a) ((p.1,v)::r) (p::DR r a v)) b=if a=b then some v else cond (μ p.1 b) (some p.2) (DE r b)
  by_cases hz:p.1=a
  ·refine C9 hz<|C9 (AH _) ?_
   show cond (μ a b) (some v) (DE r b)=_
   by_cases h:a=b
   ·exact C9 h<|C9 (AH _)<|C9 (if_pos rfl) rfl
   ·exact C9 (kS h)<|C9 (if_neg h) rfl
  ·refine C9 (kS hz) ?_
   show cond (μ p.1 b) (some p.2) (DE (DR r a v) b)=_;refine C9 ih ?_
   by_cases h:a=b
   ·exact C9 (if_pos h)<|C9 (if_pos h)<|C9 (kS (h▸hz)) rfl
   ·(exact C9 (if_neg h)<|C9 (if_neg h) rfl)
theorem RU{a:Nat}{v:V}{val:Bj}{Q:Unit→Bl→Prop}(f:FR env loc x)(ha:a<Fw.length)(hk:env.kindOf (nm a)=some .local∨(env.kindOf (nm a)=some .cell∧(env.cells.lookup (nm a)).isSome=true))(hv:x.VV val v)
  (h: ∀s' (R:F5 c x.hf x.ρ x.σ s'.heap),FR env (DR loc a v) ⟨x.hf,x.ρ,x.σ,s',R⟩→(∀b o,¬NP env b→x.s.heap.get? b=some o→s'.heap.get? b=some o)→GB x.s s'→Q () s'):
  Bp (Bq c.prog c.w) A (storeName env (nm a) val) Q E x.s:=by
 have ne: ∀b v',DE loc b=some v'→a≠b→nm b≠nm a:=λb v' e q z=>q (KL (f.low b v' e) ha z).symm
 have cZ: ∀b u,DE (DR loc a v) b=some u→b<Fw.length:=λb u e=>by
  rw [E8] at e
  by_cases q:a=b
  ·exact q▸ha
  ·rw [if_neg q] at e;exact f.low b u e
 have out: ∀{h':Bz} {d:Br},NP env d→Bz.SameBut d x.s.heap h'→ ∀b o,x.s.heap.get? b=some o→(x.hf b=some o∨ ∃p∈x.ρ,p.2=b)→h'.get? b=some o:=λhd hs b o e q=>(hs.2 b (λz=>by
  subst z;rcases q with q|⟨p,hp,q⟩
  ·exact DC ((f.Ee _ hd).1.symm.trans q)
  ·exact (f.Ee _ hd).2 p hp q)).trans e
 rcases hk with hk|⟨hk,hc⟩
 ·refine D3 f.ns λm hm=> ?_
  refine CG hk hm (λh' pz hs=>h _ (x.R.Ei (out (.inl rfl) hs)) ⟨f.S,cZ,λb u e se=> ?_,(EG _ pz),λn d e=>D3 (f.cell n d e) λv' fB=>(EG v' (fB.sameBut hs (f.S.other n d e))),f.Ee⟩ (λb o hb e=>(hs.2 b λz=>hb (.inl z)).trans e) ⟨rfl,rfl,rfl⟩) (by exact C9 f.S.kind rfl);rw [E8] at e
  by_cases q:a=b
  ·subst q
   rw [if_pos rfl] at e;exact (DM val (.inl (GR hk _ pz (if_pos rfl))) (η e▸hv))
  ·rw [if_neg q] at e
   refine DQ (f.vals b u e se) λfJ N fB=> ?_;refine (DM fJ ?_ fB);rcases N with ⟨z,m2,b1,b2⟩|⟨z,d,hd,b1⟩
   ·refine .inl (GR z _ pz ?_)
    show (if nm b=nm a then some val else m (nm b))=some fJ;refine C9 (if_neg (ne b u e q)) ?_;refine Do b1 λo1 e1 p1 g1 d1 O r1=> ?_;clear b1;refine Do hm λo2 e2 p2 g2 d2 O r2=> ?_;clear hm;rw [g1] at g2;cases g2;rw [d1] at d2;cases d2;exact Dr (r2 _)<|C9 (r1 _) b2
   ·exact .inr (GR z d hd (b1.sameBut hs (f.S.other _ _ hd)))
 ·refine D3 (AV.mp hc) λd hd=> ?_
  refine D3 (f.cell _ d hd) λv₀ qe=> ?_;refine wpAny_storeName_cell f.S.kind hk hd qe λh' vx hs=>h _ (x.R.Ei (out (.inr (EG _ hd)) hs)) ⟨f.S,cZ,λb u e se=> ?_,D3 f.ns λm hm=>(EG m (hm.sameBut hs (Ne.symm (f.S.other _ _ hd)))),λn d' e=> ?_,f.Ee⟩ (λb o hb e=>(hs.2 b λz=>hb (.inr (EG _ (z▸hd)))).trans e) ⟨rfl,rfl,rfl⟩
  ·rw [E8] at e
   by_cases q:a=b
   ·subst q
    rw [if_pos rfl] at e;exact (DM val (.inr (GR (.inl hk) d hd vx)) (η e▸hv))
   ·rw [if_neg q] at e
    refine DQ (f.vals b u e se) λfJ N fB=> ?_;refine (DM fJ ?_ fB);rcases N with ⟨z,m2,b1,b2⟩|⟨z,d2,hd2,b1⟩
    ·exact .inl (GR z m2 (b1.sameBut hs (Ne.symm (f.S.other _ _ hd))) b2)
    ·exact .inr (GR z d2 hd2 (b1.sameBut hs λw=>ne b u e q (name_of_addr f.S.apart (mem_of_lookup hd2) (w▸mem_of_lookup hd))))
  ·by_cases z:d'=d
   ·subst z;exact (EG _ vx)
   ·refine D3 (f.cell n d' e) λv' fB=> ?_
    exact (EG v' (fB.sameBut hs z))
end
end
end
section
mutual open A
abbrev Dq:Bj→Bl→Prop:=λO O=>False
def tP:List Str:= ["Decimal", "Name", "String", "Stream", "Reference", "Shelf", "Page", "Spot", "Collector"]
def Pr(c:Nat):Str:=tP.getD c ""
def Pz:List Str:= ["len", "abs", "int", "sum", "sorted", "tuple", "list", "bytes", "repr", "dict", "isinstance", "range", "reversed", "bool"]
structure KG(K:B4)(c:Cx)(fa:Nat→Br):Prop where
 fn: ∀f i,Zu f=some i→C3 K Bx (nm f)=some (some (.ref (fa i)))∧i<fns.length
 cls: ∀cl,cl<9→C3 K Bx (Pr cl)=some (some (.ref (c.CL cl)))
 bn: ∀(i:Nat) a,Pz[i]?=some a→C3 K Bx a=some none
 gv: ∀a d,iM a=some d→ ∃v,C3 K Bx (nm a)=some (some v)∧DV c (λb=>K.lookup b) v d
 kf: ∀i,i<fns.length→keepIn K (.ref (fa i))=true
 kc: ∀cl,(KI cl).isSome=true→keepIn K (.ref (c.CL cl))=true
 mt: ∀cl m i,LG cl m=some i→i<fns.length∧Cy K (c.CL cl) (nm m)=true∧CV K (.ref (c.CL cl)) (nm m)=some (some (.ref (fa i)))∧isFn K (.ref (fa i))=true
structure kP(c:Cx)(fa:Nat→Br)(G:HL)(A:Bs):Prop where
 call: ∀{keep i args r DT} {x:St c} {us Q},G.call keep i args x.σ=some (r,DT)→x.GC us args→Ok x DT r Q→Bp (Bq c.prog c.w) A (PySem.call (.ref (fa i)) us) Q Dq x.s
 init: ∀{cl args fs DD keep r DT} {x:St c} {us Q},G.init cl args x.σ=some (fs,DD)→Df keep (.inst cl) fs DD=some (r,DT)→x.GC us args→Ok x DT r Q→Bp (Bq c.prog c.w) A (PySem.call (.ref (c.CL cl)) us) Q Dq x.s
 hi: ∀{cl vs σ r},G.init cl vs σ=some r→(KI cl).isSome=true
structure Zt(K:B4)(c:Cx)(fa:Nat→Br)(G:HL)(A:Bs)(k:Nat):Prop where
 B:I2 K c
 T:KG K c fa
 C:kP c fa G A
 rm:Ms A (k+1)
abbrev EJ:=Vw→Expr→Bool
structure I3{c:Cx}(A:Bs)(env:Env)(loc:Di)(x:St c)(f:Ev)(e:Expr):Prop where
 run: ∀{r DT Q},f loc x.σ=some (r,DT)→Ok x DT r Q→Bp (Bq c.prog c.w) A (eval e env) Q Dq x.s
structure Xu{c:Cx}(A:Bs)(env:Env)(loc:Di)(x:St c)(f:Ev)(e:Expr):Prop where
 run: ∀{r DT b} {Q:Bool→Bl→Prop},f loc x.σ=some (r,DT)→G1 DT r=some b→Did x DT (Q b)→Bp (Bq c.prog c.w) A (isTrue e env (eval e env)) Q Dq x.s
def Db(c:Cx)(A:Bs)(o:EJ)(f:Ev):Prop:= ∀{e env loc} {x:St c},o (vw env.scope) e=true→FR env loc x→I3 A env loc x f e∧Xu A env loc x f e
end
section
mutual open A
variable{c:Cx}{A:Bs}{x y:St c}{K:B4}{env:Env}{loc:Di}{f g h:Ev}{o1 o2 o3:EJ}{e e1 e2 e3:Expr}{pos:Pos}{r:V}{DT:Store}{Q:Bj→Bl→Prop}
theorem I3.EI(H:I3 A env loc x f e){β:Type}{g:V→Store→Option β}{r:β}(ev:EI (f loc x.σ) g=some r)(fr:FR env loc x)(go: ∀val (y:St c) v,Le x y→y.VV val v→FR env loc y→g v y.σ=some r→Q val y.s):Bp (Bq c.prog c.w) A (eval e env) Q Dq x.s:=
 DP ev λa σ h1 h2=>H.run h1 λval y l e hv=>go val y a l hv (fr.Jz l) (e.symm▸h2)
theorem Ok.lift{z:St c}(k:Ok x DT r Q)(l:Le x z){o:Option V}(e:lift o z.σ=some (r,DT)){P:Prop}(go: ∀v,o=some v→Ok z z.σ v Q→P):P:=
 Fs (P:=λr DT=>Ok x DT r Q→P) e (λv h1 k=>go v h1 (k.after l)) k
theorem Ok.some{z:St c}(k:Ok x DT r Q)(l:Le x z){v:V}(e:some (v,z.σ)=some (r,DT)):Ok z z.σ v Q:=by cases e;exact k.after l
def special:Expr→Bool
 | .UnaryOp op _ _=>match op with
  | .Not=>true
  |_=>false
 | .BoolOp .. =>true
 | .IfExp .. =>true
 | .Compare .. =>true
 |_=>false
theorem Tp{e:Expr}(h:special e=false)(env:Env)(whole:Sem Bj):isTrue e env whole=(do let v←whole;standAt e.pos;C6 [v] (truthy v)):=by
 cases e with
 |UnaryOp op _ _=>cases op<;>first|rfl|exact ζ h
 |BoolOp=>exact ζ h
 |IfExp=>exact ζ h
 |Compare=>exact ζ h
 |_=>rfl
theorem I3.tr(H:I3 A env loc x f e)(np:special e=false):Xu A env loc x f e:=⟨λev tr k=>
 isTrue_plain (H.run ev λval y l ey hv=>TZ hv (ey.symm▸tr) λt=>k ⟨y.hf,y.ρ,y.σ,{y.s with toks:=t},y.R⟩ ⟨l.nx,l.sm.1,l.sm.2,l.sm.3⟩ ey) (Tp np env _)⟩
theorem zj{n:Nat}(se:seen (vw env.scope) (nm n)=true)(d:(!EV (nm n))=true)(fr:FR env loc x):I3 A env loc x (lZ n) (.Name (nm n) pos):=⟨λev k=>k.lift (.refl x) ev λv e k=>UE fr e se d k⟩
def rA:Option NK→Bool
 |some .gl=>true
 |_=>false
def Pf(sc:Vw)(id:Str):Bool:=rA (sc id)
theorem qb{k:B0}(h:nk k=some .gl):k= .globalImplicit:=by cases k<;>first|rfl|cases h
theorem X0{o:Option NK}(h:rA o=true):o=some .gl:=by
 cases o with
 |none=>exact ζ h
 |some k=>cases k<;>first|rfl|exact ζ h
theorem LV{id:Str}(h:Pf (vw env.scope) id=true):env.kindOf id=some .globalImplicit:=
 DA (X0 h:vw env.scope id=some .gl) λk h1 h2=>h1.trans (congrArg Option.some (qb h2))
theorem St.q7(B:I2 K c)(x:St c): ∀b o,K.lookup b=some o→x.hf b=some o:=λb o e=>x.R.base b o (B.X b o e)
theorem gGv{fa:Nat→Br}(B:I2 K c)(T:KG K c fa){n:Nat}(kg:Pf (vw env.scope) (nm n)=true)(d:(!EV (nm n))=true)(fr:FR env loc x):I3 A env loc x (yn n) (.Name (nm n) pos):=⟨λev k=>
 k.lift (.refl x) ev λv e k=>DA e λdd h1 e=>by
  refine DQ (T.gv n dd h1) λu hu hdv=> ?_;rw [←η e] at k;exact KW B fr (LV kg) hu d (k.Mc (hdv.mono (x.q7 B)))⟩
def kG(t n:Nat):Const→Bool
 | .none=>μ t 2
 | .bool b=>μ t 3&&(μ n 1==b)
 | .int i=>μ t 4&&Dj i n
 | .str a=>μ t 5&&EQ a (nm n)&&Μ n Fw.length
 |_=>false
def jW(t n:Nat):D:=match t with
 |2=> .none
 |3=> .bool (μ n 1)
 |4=> .int n
 |_=> .sym n
theorem xJ{t n:Nat}{cst:Const}{q:Nat}(ok:kG t n cst=true):I3 A env loc x (Mu (jW t n)) (.Constant cst q pos):=by
 refine ⟨λev k=> ?_⟩;show Bp _ _ (Cl env cst) _ _ _;have k:=k.some (.refl x) ev;cases cst with
 |none=>rw [nb ok] at k;exact Bn (k.Mc DV.none)
 |bool b=>refine Dl (band ok) λh1 h2=> ?_;rw [nb h1] at k;exact Dr (beq_iff_eq.mp h2)<|Bn (k.Mc (DV.bool _))
 |int i=>refine Dl (band ok) λh1 h2=> ?_;rw [nb h1] at k;exact C9 (ER h2)<|Cc (k.here (DV.int _ _) _)
 |str a=>refine Dl (band ok) λh1 h2=> ?_;refine Dl (band h1) λh1 h3=> ?_;rw [nb h1] at k;exact C9 (EH h3)<|wpAny_mkText (k.here (DV.sym _ _ (Ds.mp h2)) _)
 |_=>exact ζ ok
theorem xC{n:Nat}{p:Pos}{q:Nat}:I3 A env loc x (Mu (.int (-(n:Int)))) (.UnaryOp .USub (.Constant (.int n) q p) pos):=by
 refine ⟨λev k=> ?_⟩;have k:=k.some (.refl x) ev;refine wpAny_UnaryOp ?_;show Bp _ _ (Cl env _) _ _ _;exact Cc (PySem.P.neg_int (k.here (DV.int _ _) _))
theorem yN{n:Nat}(hn:n<1000){p p':Pos}{q q':Nat}:I3 A env loc x (Mu (.int ((10:Int)^n))) (.BinOp (.Constant (.int 10) q p) .Pow (.Constant (.int n) q' p') pos):=by
 refine ⟨λev k=> ?_⟩;have k:=k.some (.refl x) ev;refine C9 (arm_eval_BinOp _ _ _ _ _) ?_;refine Bk ?_;show Bp _ _ (Cl env _) _ _ _;refine Cc (Bk (Bt ?_));show Bp _ _ (Cl env _) _ _ _;exact Cc (Bk (Bv (Co (PyProof.Rows.pow_int_small (by exact AP _) (by lia) (by exact ψ _ _) (k.here (DV.int _ _) _)))))
def J6:Expr→Bool
 | .Call f a k _=>match f with
  | .Name _ _=> !(a.isEmpty&&k.isEmpty)
  |_=>true
 |_=>true
theorem Wq{o:Expr}(h:J6 o=true)(attr:Str)(env:Env)(whole:Sem Bj):attributeBase o attr env whole=whole:=by
 cases o with
 |Call f a k p=>cases f with
  |Name=>cases a with
   |nil=>cases k with
    |nil=>exact ζ h
    |cons=>rfl
   |cons=>rfl
  |_=>rfl
 |_=>rfl
theorem r7(B:I2 K c)(H:Db c A o1 f){a:Nat}(ho:o1 (vw env.scope) e=true)(hb:J6 e=true)(fr:FR env loc x):I3 A env loc x (XY a f) (.Attribute e (nm a) pos):=by
 refine ⟨λev k=> ?_⟩;refine C9 (arm_eval_Attribute _ _ _ _)<|C9 (Wq hb _ _ _) ?_
 exact Bk ((H ho fr).1.EI ev fr λov y v l hv fy ev=>Bk (Bv (Bk (Bt (k.lift l ev λb hb k=>U8 B.F.toKF (y.R.eM B.X) hv hb λval z m ez hz=>Bk (wpAny_letTemporaryGo (Bn (k val z m ez hz))))))))
theorem yP(H1:Db c A o1 f)(H2:Db c A o2 g)(h1:o1 (vw env.scope) e1=true)(h2:o2 (vw env.scope) e2=true)(hu:A.units+2<B3)(fr:FR env loc x):I3 A env loc x (hU f g) (.Subscript e1 e2 pos):=⟨λev k=>
 Subscript_ ((H1 h1 fr).1.EI ev fr λov y a l ho fy ev=>(H2 h2 fy).1.EI ev fy λiv z b m hi fz ev=>k.lift (l.trans m) ev λv hv k=>Y' hu (VV.le ho m) hi hv k)⟩
theorem ww(H1:Db c A o1 f)(H2:Db c A o2 g)(op:Operator)(h1:o1 (vw env.scope) e1=true)(h2:o2 (vw env.scope) e2=true)(fr:FR env loc x):I3 A env loc x (gJ (jD op) f g) (.BinOp e1 op e2 pos):=by
 refine ⟨λev k=> ?_⟩;refine C9 (arm_eval_BinOp _ _ _ _ _) ?_;exact Bk ((H1 h1 fr).1.EI ev fr λov y a l ho fy ev=>Bk (Bt ((H2 h2 fy).1.EI ev fy λiv z b m hi fz ev=>Bk (Bv (Co (k.lift (l.trans m) ev λv hv k=>YL op (VV.le ho m) hi hv k))))))
theorem Kk{a:V}{b:Bool}(e:vy a=some b):a= .d (.bool b):=by
 cases a with
 |cell=>exact DC e
 |d d=>cases d with
  |bool=>exact De e rfl
  |_=>exact DC e
theorem zg(H:Db c A o1 f)(ho:o1 (vw env.scope) e=true)(fr:FR env loc x):I3 A env loc x (Zs f) (.UnaryOp .Not e pos)∧Xu A env loc x (Zs f) (.UnaryOp .Not e pos):=
 ⟨⟨λev k=>wpAny_UnaryOp ((H ho fr).1.EI ev fr λov y v l hv fy ev=>k.lift l ev λb hb k=>DA hb λq h1 hb=>by
   rw [Kk h1] at hv;refine C9 (IQ hv) ?_;rw [←η hb] at k;exact PyProof.Rows.not_of (B1 (k.Mc (DV.bool _))))⟩,
  ⟨λ{r DT b Q} ev tr k=>DP ev λa σ h1 h2=>by
   refine Fs (P:=λr DT=>G1 DT r=some b→Did x DT (Q b)→_) h2 (λv h3 tr k=>DA h3 λq h4 h3=> ?_) tr k;rw [←η h3] at tr;rw [←η (tr:some (!q)=some b)] at k;exact isTrue_not ((H ho fr).2.run h1 (b:=q) (by exact C9 (Kk h4) rfl) λy l ey=>k y l ey)⟩⟩
def J5:Expr→Bool
 | .Set .. =>false
 |_=>true
theorem Jd{r:Expr}(h:J5 r=true)(o:C4):behindInMarks o r=false:=by cases r<;>first|rfl|exact ζ h
theorem Wo(H1:Db c A o1 f)(H2:Db c A o2 g)(op:C4)(h1:o1 (vw env.scope) e1=true)(h2:o2 (vw env.scope) e2=true)(hu:A.units+64<B3)(fr:FR env loc x)(ev:Xw (MF op) f g loc x.σ=some (r,DT))(k: ∀b,r= .d (.bool b)→Did x DT (Q (.bool b))):
  Bp (Bq c.prog c.w) A (eval e1 env) (λa D6=>Bp (Bq c.prog c.w) A (eval e2 env) (λb Ej=>Bp (Bq c.prog c.w) A (compareOp op a b) Q Dq Ej) Dq D6) Dq x.s:=
 (H1 h1 fr).1.EI ev fr λov y a l ho fy ev=>(H2 h2 fy).1.EI ev fy λiv z b m hi fz ev=>Fs (P:=λr DT=>(∀b,r= .d (.bool b)→Did x DT (Q (.bool b)))→_) ev (λv hv k=>DA hv λq h3 hv=>Lk op hu (VV.le ho m) hi h3 λt=>k q (η hv).symm ⟨z.hf,z.ρ,z.σ,{z.s with toks:=t},z.R⟩ ⟨(l.trans m).nx,(l.trans m).sm.1,(l.trans m).sm.2,(l.trans m).sm.3⟩ rfl) k
theorem NC{b:Bool}(k:Ok x DT r Q)(w:r= .d (.bool b)):Did x DT (Q (.bool b)):=λy l ey=>k _ y l ey (w▸DV.bool b)
theorem Ni{b b':Bool}(w:r= .d (.bool b))(tr:G1 DT r=some b'):b=b':=by subst w;exact η tr
theorem yz(H1:Db c A o1 f)(H2:Db c A o2 g)(op:C4)(ns:J5 e2=true)(h1:o1 (vw env.scope) e1=true)(h2:o2 (vw env.scope) e2=true)(hu:A.units+64<B3)(fr:FR env loc x):I3 A env loc x (Xw (MF op) f g) (.Compare e1 [op] [e2] pos)∧Xu A env loc x (Xw (MF op) f g) (.Compare e1 [op] [e2] pos):=
 ⟨⟨λev k=>by
   refine C9 (arm_eval_Compare _ _ _ _ _)<|C9 (markedEach_of_false _ _ _ (show lastMarks [op] [e2]=false from Jd ns _)) ?_
   exact Bk (Bu (Wo H1 H2 op h1 h2 hu fr ev λb w=>NC k w) (λa D6 h=>chain_last h) λO O x=>x)⟩,
  ⟨λ{r DT b Q} ev tr k=>by
   refine C9 (arm_isTrue_Compare _ _ _ _ _ _)<|C9 (markedEach_of_false _ _ _ (show lastMarks [op] [e2]=false from Jd ns _)) ?_
   exact Bk (Bu (Wo H1 H2 op h1 h2 hu fr ev (Q:=λd Ej=>Bp (Bq c.prog c.w) A (truthy d) Q Dq Ej) λq w y l ey=>B1 (Ni w tr▸k y l ey)) (λa D6 h=>test_last h) λO O x=>x)⟩⟩
theorem SX(H1:Db c A o1 f)(H2:Db c A o2 g)(H3:Db c A o3 h)(p q:C4)(h1:o1 (vw env.scope) e1=true)(h2:o2 (vw env.scope) e2=true)(h3:o3 (vw env.scope) e3=true)(hu:A.units+64<B3)(fr:FR env loc x)(ev:OG (MF p) (MF q) f g h loc x.σ=some (r,DT))
  {Q':Bool→Bl→Prop} (kf:r= .d (.bool false)→Did x DT (Q' false)) (kt: ∀b,r= .d (.bool b)→Did x DT (Q' b)) {Z:Bj→Bj→Bl→Prop}
  (z1: ∀iv (D6 Ej:Bl),Q' false Ej→Z iv (.bool false) Ej) (z2: ∀iv Ej,Bp (Bq c.prog c.w) A (eval e3 env) (λjv G7=>Bp (Bq c.prog c.w) A (compareOp q iv jv) (λv OB=> ∃b,v= .bool b∧Q' b OB) Dq G7) Dq Ej→Z iv (.bool true) Ej):
  Bp (Bq c.prog c.w) A (eval e1 env) (λa D6=>Bp (Bq c.prog c.w) A (eval e2 env) (λb Ej=>Bp (Bq c.prog c.w) A (compareOp p a b) (Z b) Dq Ej) Dq D6) Dq x.s:=
 (H1 h1 fr).1.EI ev fr λov y a l ho fy ev=>(H2 h2 fy).1.EI ev fy λiv z b m hi fz ev=>DA ev λt h4 ev=>Lk p hu (VV.le ho m) hi h4 λtk=>by
  have lz:Le x ⟨z.hf,z.ρ,z.σ,{z.s with toks:=tk},z.R⟩:=⟨(l.trans m).nx,(l.trans m).sm.1,(l.trans m).sm.2,(l.trans m).sm.3⟩;cases t with
  |false=>have e:(V.d (.bool false),z.σ)=(r,DT):=η ev;cases e;exact z1 iv y.s _ (kf rfl _ lz rfl)
  |true=>
   refine z2 iv _ ((H3 h3 (x:=⟨z.hf,z.ρ,z.σ,{z.s with toks:=tk},z.R⟩) (fr.Jz lz)).1.EI ev (fr.Jz lz) λjv w d n hj fw ev=> ?_);refine Fs (P:=λr DT=>(∀b,r= .d (.bool b)→Did x DT (Q' b))→_) ev (λv hv k=>DA hv λb' h5 hv=> ?_) kt;exact Lk q hu (VV.le (x:=⟨z.hf,z.ρ,z.σ,{z.s with toks:=tk},z.R⟩) hi n) hj h5 λt=>(DM b' rfl (k b' (η hv).symm ⟨w.hf,w.ρ,w.σ,{w.s with toks:=t},w.R⟩ ⟨(lz.trans n).nx,(lz.trans n).sm.1,(lz.trans n).sm.2,(lz.trans n).sm.3⟩ rfl))
theorem xm(H1:Db c A o1 f)(H2:Db c A o2 g)(H3:Db c A o3 h)(h1:o1 (vw env.scope) e1=true)(h2:o2 (vw env.scope) e2=true)(h3:o3 (vw env.scope) e3=true)(fr:FR env loc x):I3 A env loc x (eV f g h) (.IfExp e1 e2 e3 pos)∧Xu A env loc x (eV f g h) (.IfExp e1 e2 e3 pos):=
 ⟨⟨λev k=>DP ev λa σ q1 ev=>DA ev λb q2 ev=>wpAny_IfExp ((H1 h1 fr).2.run q1 q2 λy l ey=>by
   subst ey;cases b with
   |true=>exact (H2 h2 (fr.Jz l)).1.run ev (k.after l)
   |false=>exact (H3 h3 (fr.Jz l)).1.run ev (k.after l))⟩,
  ⟨λev tr k=>DP ev λa σ q1 ev=>DA ev λb q2 ev=>isTrue_IfExp ((H1 h1 fr).2.run q1 q2 λy l ey=>by
   subst ey;cases b with
   |true=>exact (H2 h2 (fr.Jz l)).2.run ev tr (k.after l)
   |false=>exact (H3 h3 (fr.Jz l)).2.run ev tr (k.after l))⟩⟩
end
end
end
section
mutual open A
variable{c:Cx}{A:Bs}{x y:St c}{env:Env}{loc:Di}{f g h:Ev}{o1 o2 o3:EJ}{e e1 e2 e3:Expr}{pos:Pos}{r:V}{DT:Store}{Q:Bj→Bl→Prop}
theorem rc(H1:Db c A o1 f)(H2:Db c A o2 g)(H3:Db c A o3 h)(p q:C4)(n2:J5 e2=true)(n3:J5 e3=true)(h1:o1 (vw env.scope) e1=true)(h2:o2 (vw env.scope) e2=true)(h3:o3 (vw env.scope) e3=true)(hu:A.units+64<B3)(fr:FR env loc x):
  I3 A env loc x (OG (MF p) (MF q) f g h) (.Compare e1 [p,q] [e2,e3] pos)∧Xu A env loc x (OG (MF p) (MF q) f g h) (.Compare e1 [p,q] [e2,e3] pos):=
 ⟨⟨λ{r DT Q} ev k=>Compare_chain (hm:=Jd n3 _) (Bu (SX H1 H2 H3 p q h1 h2 h3 hu fr ev (Q':=λb s=>Q (.bool b) s) (NC k) (λb w=>NC k w) (Z:=λiv v s=>Bp (Bq c.prog c.w) A (truthy v) (λb s=>if b=true then Bp (Bq c.prog c.w) A (compareChain pos iv [q] [eval e3 env]) Q Dq s else Q v s) Dq s) (λiv D6 Ej h=>B1 (by exact C9 (if_neg (by decide)) h)) (λiv Ej h=>B1 (by exact C9 (if_pos rfl)<|chain_last (Bu h (λjv G7 h=>Bu h (λv OB ⟨b,w,h⟩=>w▸h) λO O x=>x) λO O x=>x)))) (λa D6 h=>chain_link h) λO O x=>x)⟩,
  ⟨λ{r DT b Q} ev tr k=>isTrue_chain (hm:=Jd n3 _) (Bu (SX H1 H2 H3 p q h1 h2 h3 hu fr ev (Q':=Q) (λw=>Ni w tr▸k) (λb w=>Ni w tr▸k) (Z:=λiv v s=>Bp (Bq c.prog c.w) A (truthy v) (λb s=>if b=true then Bp (Bq c.prog c.w) A (testChain pos iv [q] [eval e3 env]) Q Dq s else Q false s) Dq s) (λiv D6 Ej h=>B1 (by exact C9 (if_neg (by decide)) h)) (λiv Ej h=>B1 (by exact C9 (if_pos rfl)<|test_last (Bu h (λjv G7 h=>Bu h (λv OB ⟨b,w,h⟩=>w▸B1 h) λO O x=>x) λO O x=>x)))) (λa D6 h=>test_link h) λO O x=>x)⟩⟩
abbrev F0(c:Cx)(A:Bs):=DS (Db c A)
def LZ(sc:Vw):List EJ→List Expr→Bool
 | [], []=>true
 |o::os,e::es=>o sc e&&LZ sc os es
 |_,_=>false
theorem H8{sc:Vw}{o:EJ}{os:List EJ}{es:List Expr}(h:LZ sc (o::os) es=true): ∃e r,es=e::r∧o sc e=true∧LZ sc os r=true:=by
 cases es with
 |nil=>exact ζ h
 |cons e r=>exact Dl (band h) λa b=>(EK e r rfl a b)
theorem Jh{sc:Vw}{es:List Expr}(h:LZ sc [] es=true):es= []:=by
 cases es with
 |nil=>rfl
 |cons=>exact ζ h
theorem NA{sc:Vw}{os:List EJ}: ∀{es:List Expr},LZ sc os es=true→os.length=es.length:=by
 induction os with
 |nil=>intro es h;exact C9 (Jh h) rfl
 |cons o os ih=>intro es h;refine D0 (H8 h) λe r Gx O h2=> ?_;subst Gx;exact congrArg (· +1) (ih h2)
def Qw:Expr→Bool
 | .Starred .. =>false
 |_=>true
def D8(o:EJ):Prop:= ∀sc e,o sc e=true→Qw e=true
theorem NG{e:Expr}(h:Qw e=true)(r:List Expr)(env:Env):CJ (e::r) env=(false,eval e env)::CJ r env:=by cases e<;>first|rfl|exact ζ h
def OkL(x:St c)(DT:Store)(vs:List V)(Q:List Bj→Bl→Prop):Prop:= ∀us (y:St c),Le x y→y.σ=DT→y.GC us vs→Q us y.s
theorem NJ{os:List EJ}{fs:List Ev}(H:F0 c A os fs)(P: ∀o∈os,D8 o): ∀{es:List Expr} {x:St c} {vs:List V} {DT:Store} {Q:List Bj→Bl→Prop},LZ (vw env.scope) os es=true→FR env loc x→Ow fs loc x.σ=some (vs,DT)→OkL x DT vs Q→Bp (Bq c.prog c.w) A (spliced (Cm pos (CJ es env))) Q Dq x.s:=by
 induction H with
 |nil=>
  intro es x vs DT Q ok fr ev k;refine C9 (Jh ok) ?_;revert k;refine NE (show some (([]:List V),x.σ)=some (vs,DT) from ev) ?_;intro k;exact Calls.spliced_nil (k [] x (.refl x) rfl .nil)
 | @cons o f os fs H1 _ ih=>
  intro es x vs DT Q ok fr ev k;refine D0 (H8 ok) λe r Gx h1 h2=> ?_;subst Gx;refine C9 (NG (P o (.head _) _ _ h1) _ _) ?_;show Bp _ _ (spliced ((false,eval e env)::Cm pos (CJ r env))) _ _ _;refine Calls.spliced_cons ((H1 h1 fr).1.EI ev fr λval y v l hv fy ev=>DP ev λus σ e1 e2=> ?_);refine ih (λo ho=>P o (.tail _ ho)) h2 fy e1 λvals z m ez Hr=> ?_;revert k;refine NE (show some (v::us,σ)=some (vs,DT) from e2) ?_;intro k;exact k _ z (l.trans m) ez (.cons (VV.le hv m) Hr)
theorem Qs{os:List EJ}{fs:List Ev}(H:F0 c A os fs){loc:Di}: ∀{vs:List V} {σ DT:Store},Ow fs loc σ=some (vs,DT)→vs.length=os.length:=by
 induction H with
 |nil=>intro vs σ DT e;have e:(([]:List V),σ)=(vs,DT):=η e;cases e;rfl
 |cons _ _ ih=>intro vs σ DT e;exact DP e λv σ e1 e=>DP e λus σ e2 e=>by have e:(v::us,σ)=(vs,DT):=η e;cases e;exact congrArg (· +1) (ih e2)
theorem yI{os:List EJ}{fs:List Ev}{es:List Expr}{keep:Bool}{q:Nat}(H:F0 c A os fs)(P: ∀o∈os,D8 o)(ok:LZ (vw env.scope) os es=true)(hl:Μ es.length 1000=true)(fr:FR env loc x):I3 A env loc x (Za keep .tup fs) (.Tuple es q pos):=by
 refine ⟨λev k=>DP ev λvs σ e1 ev=> ?_⟩;refine C9 (arm_eval_Tuple _ _ _ _) ?_;refine Bk (Bv (Bk (NJ H P ok fr e1 λus y l ey hv=>Sq (ey.symm▸ev) hv ?_ (k.after l))));exact C9 hv.length<|C9 (Qs H e1)<|C9 (NA ok)<|Υ (AY (Ds.mp hl)) (by decide)
theorem yh{os:List EJ}{fs:List Ev}{es:List Expr}{keep:Bool}(H:F0 c A os fs)(P: ∀o∈os,D8 o)(ok:LZ (vw env.scope) os es=true)(hl:Μ es.length 1000=true)(fr:FR env loc x):I3 A env loc x (Za keep .lst fs) (.List es pos):=by
 refine ⟨λev k=>DP ev λvs σ e1 ev=> ?_⟩;refine C9 (arm_eval_List _ _ _) ?_;refine Bk (Bv (Bk (NJ H P ok fr e1 λus y l ey hv=>Tw (ey.symm▸ev) hv ?_ (k.after l))));exact C9 hv.length<|C9 (Qs H e1)<|C9 (NA ok)<|Υ (AY (Ds.mp hl)) (by decide)
def YU(q:Bool):BoolOp:=cond q .And .Or
theorem NW{q:Bool}{fs:List Ev}: ∀{σ DT:Store} {r:V},K1 q fs loc σ=some (r,DT)→ ∃b,r= .d (.bool b):=by
 induction fs with
 |nil=>intro σ DT r e;exact (EG q ((congrArg Prod.fst (η e)).symm))
 |cons f fs ih=>
  intro σ DT r e;refine DP e λv DD e1 e'=>DA e' λb e2 e3=> ?_;cases h:q==b with
  |true=>rw [h] at e3;exact ih e3
  |false=>rw [h] at e3;exact (EG b ((congrArg Prod.fst (η e3)).symm))
def BoG{c:Cx}(A:Bs)(env:Env)(pos:Pos)(x:St c)(q:Bool)(es:List Expr)(DT:Store)(b:Bool):Prop:=
 (es≠ []→ ∀{Q:Bj→Bl→Prop},Did x DT (Q (.bool b))→Bp (Bq c.prog c.w) A (boolOp pos (YU q) (Cz es env)) Q Dq x.s)∧ ∀{Q:Bool→Bl→Prop} {whole},Did x DT (Q b)→Bp (Bq c.prog c.w) A (isTrue (.BoolOp (YU q) es pos) env whole) Q Dq x.s
theorem UT{b b':Bool}{σ DT:Store}(e:some (V.d (.bool b),σ)=some (V.d (.bool b'),DT)):b=b'∧σ=DT:=by cases e;exact ⟨rfl,rfl⟩
end
section
mutual open A
variable{q b:Bool}{DD:Store}{e e':Expr}{r' es:List Expr}
theorem W'{Q:Bj→Bl→Prop}(head: ∀{Q:Bj→Bl→Prop},Did x DD (Q (.bool b))→Bp (Bq c.prog c.w) A (eval e env) Q Dq x.s)(k:Did x DD (Bp (Bq c.prog c.w) A (cond (q==b) (boolOp pos (YU q) (Cz (e'::r') env)) (pure (Bj.bool b))) Q Dq)):Bp (Bq c.prog c.w) A (boolOp pos (YU q) (Cz (e::e'::r') env)) Q Dq x.s:=by
 have k:Did x DD (Bp (Bq c.prog c.w) A (match YU q,b with| .And,false| .Or,true=>pure (Bj.bool b)|_,_=>boolOp pos (YU q) (Cz (e'::r') env)) Q Dq):=by cases q<;>cases b<;>exact k
 show Bp _ _ (do
  let v←eval e env
  standAt pos
  let t←C6 [v] (truthy v)
  match YU q,t with
  | .And,false| .Or,true=>pure v
  |_,_=>boolOp pos (YU q) (Cz (e'::r') env)) _ _ _
 exact Bk (head λy l ey=>Bk (Bv (Bk (Bt (B1 (k y l ey))))))
theorem XW{Q:Bool→Bl→Prop}{whole:Sem Bj}(test: ∀{Q:Bool→Bl→Prop},Did x DD (Q b)→Bp (Bq c.prog c.w) A (isTrue e env (eval e env)) Q Dq x.s)(k:Did x DD λs=>cond (q==b) (Bp (Bq c.prog c.w) A (isTrue (.BoolOp (YU q) es pos) env whole) Q Dq s) (Q b s)):Bp (Bq c.prog c.w) A (isTrue (.BoolOp (YU q) (e::es) pos) env whole) Q Dq x.s:=by
 cases q with
 |true=>exact isTrue_and (test λy l ey=>by cases b<;>exact k y l ey)
 |false=>exact isTrue_or (test λy l ey=>by cases b<;>exact k y l ey)
end
end
mutual open A
theorem SG(q:Bool){os:List EJ}{fs:List Ev}(H:F0 c A os fs): ∀{es:List Expr} {x:St c} {b:Bool} {DT:Store},LZ (vw env.scope) os es=true→FR env loc x→K1 q fs loc x.σ=some (.d (.bool b),DT)→BoG A env pos x q es DT b:=by
 induction H with
 |nil=>
  intro es x b DT ok fr ev;have w:=UT ev;refine C9 (Jh ok) ?_;refine ⟨λh=>absurd rfl h,λk=> ?_⟩;have k:=k x (.refl x) w.2;rw [←w.1] at k;cases q with
  |true=>exact isTrue_and_nil k
  |false=>exact isTrue_or_nil k
 | @cons o f os fs H1 H2 ih=>
  intro es x b' DT ok fr ev;refine D0 (H8 ok) λe es w h1 h2=>DP ev λv DD e1 ev=>DA ev λb e2 ev=> ?_;refine C9 w ?_;rw [Kk e2] at e1;clear e2 w ok;have head: ∀{Q:Bj→Bl→Prop},Did x DD (Q (.bool b))→Bp (Bq c.prog c.w) A (eval e env) Q Dq x.s:=λk=>(H1 h1 fr).1.run e1 λval y l ey hv=>by exact C9 (IQ hv)<|k y l ey
  have test: ∀{Q:Bool→Bl→Prop},Did x DD (Q b)→Bp (Bq c.prog c.w) A (isTrue e env (eval e env)) Q Dq x.s:=λk=>(H1 h1 fr).2.run e1 rfl k;cases hq:q==b with
  |true=>
   rw [hq] at ev;refine ⟨λO {Q} k=> ?_,λ{Q whole} k=>XW test λy l ey=>by exact C9 hq<|(ih h2 (fr.Jz l) (ey.symm▸ev)).2 (k.after l)⟩;cases es with
   |nil=>
    have n:fs= []:=List.eq_nil_of_length_eq_zero (H2.length.symm.trans (NA h2));rw [n] at ev;have w:=UT ev;exact head λy l ey=>by exact Dr (beq_iff_eq.mp hq)<|C9 w.1<|k y l (ey.trans w.2)
   |cons e' r'=>exact W' head λy l ey=>by exact C9 hq<|(ih h2 (fr.Jz l) (ey.symm▸ev)).1 (List.cons_ne_nil _ _) (k.after l)
  |false=>
   rw [hq] at ev;have w:=UT ev;have k': ∀{α:Type} {Q:α→Bl→Prop} {f:Bool→α},Did x DT (Q (f b'))→Did x DD (Q (f b)):=λk=>w.1▸w.2▸k;refine ⟨λO {Q} k=> ?_,λ{Q whole} k=>XW test λy l ey=>by exact C9 hq<|k' (f:=id) k y l ey⟩;cases es with
   |nil=>exact head (k' k)
   |cons e' r'=>exact W' head λy l ey=>by exact C9 hq<|Bn (k' k y l ey)
theorem qf(q:Bool){os:List EJ}{fs:List Ev}{es:List Expr}(H:F0 c A os fs)(ok:LZ (vw env.scope) os es=true)(ne:Ε 1 es.length=true)(fr:FR env loc x):I3 A env loc x (K1 q fs) (.BoolOp (YU q) es pos)∧Xu A env loc x (K1 q fs) (.BoolOp (YU q) es pos):=
 ⟨⟨λev k=>by
   refine D3 (NW ev) λb Ff=> ?_;subst Ff;exact (SG q H ok fr ev).1 (λq=>by subst q;exact ζ ne) (NC k rfl)⟩,
  ⟨λev tr k=>by
   refine D3 (NW ev) λb Ff=> ?_;subst Ff;rw [←η (tr:some b=_)] at k;exact (SG q H ok fr ev).2 k⟩⟩
end
end
section
mutual open A
variable{c:Cx}{A:Bs}{x y:St c}{K:B4}{fa:Nat→Br}{G:HL}{kk:Nat}{env:Env}{loc:Di}{f g h:Ev}{o1 o2:EJ}{e e1 e2:Expr}{pos:Pos}{r:V}{DT:Store}{Q:Bj→Bl→Prop}{os:List EJ}{fs:List Ev}{args:List Expr}{q:Nat}{GQ:Pos}
inductive Lc(K:B4):Bj→Prop
 |bi (id):Lc K (.builtin id)
 |ty (T):Lc K (.type T)
 |rf (a):keepIn K (.ref a)=true→Lc K (.ref a)
theorem O6(P: ∀o∈os,D8 o): ∀{es:List Expr},LZ (vw env.scope) os es=true→(Cm pos (CJ es env)).any (·.1)=false:=by
 induction os with
 |nil=>intro es h;exact C9 (Jh h) rfl
 |cons o os ih=>
  intro es h;refine D0 (H8 h) λe r Gx h1 h2=> ?_;subst Gx;refine C9 (NG (P o (.head _) _ _ h1) _ _) ?_;exact (Bool.false_or _).trans (ih (λo ho=>P o (.tail _ ho)) h2)
theorem HD(B:I2 K c)(H:F0 c A os fs)(P: ∀o∈os,D8 o){fv:Bj}{first:List Bj}{vs:List V}(DZ:Lc K fv)(ok:LZ (vw env.scope) os args=true)(fr:FR env loc x)(ev:Ow fs loc x.σ=some (vs,DT))
  (go: ∀us (y:St c),Le x y→y.σ=DT→y.GC us vs→Bp (Bq c.prog c.w) A (PySem.call fv (first++us)) Q Dq y.s):Bp (Bq c.prog c.w) A (callWith pos fv first (Cm pos (CJ args env)) []) Q Dq x.s:=by
 have plain:=O6 (pos:=pos) P ok
 have ea: ∀{S:Args→Bl→Prop},(∀us (y:St c),Le x y→y.σ=DT→y.GC us vs→S ⟨us, []⟩ y.s)→Bp (Bq c.prog c.w) A (evalArgs fv true (Cm pos (CJ args env)) []) S Dq x.s:=λ{S} hS=>by
  have sp:=NJ (pos:=pos) H P ok fr ev (Q:=λus s=>S ⟨us, []⟩ s) hS;cases os with
  |nil=>
   refine C9 (Jh ok) ?_;cases H;revert hS;refine NE (show some (([]:List V),x.σ)=some (vs,DT) from ev) ?_;intro hS;exact PyProof.Rows.evalArgs_none (hS [] x (.refl x) rfl .nil)
  |cons o os=>
   refine D0 (H8 ok) λe r Gx h1 h2=> ?_;subst Gx;rw [NG (P o (.head _) _ _ h1)] at sp ⊢;exact Calls.evalArgs_plain sp
 cases DZ with
 |bi id=>exact Calls.callWith_builtin plain (ea go)
 |ty T=>exact PyProof.Rows.callWith_type plain (ea go)
 |rf a hk=>exact callWith_of (P:=K.In) (by exact C9 plain rfl) (keeps_K hk) (ea λus y l ey hv=>⟨y.R.eM B.X,go us y l ey hv⟩)
theorem ri(H:Db c A o1 f):F0 c A [o1] [f]:= .cons H .nil
theorem kn(P:D8 o1): ∀o∈ [o1],D8 o:=λo ho=>ς.mp ho▸P
theorem G2{sc:Vw}(h:o1 sc e=true):LZ sc [o1] [e]=true:=by show (o1 sc e&&true)=true;exact C9 h rfl
theorem ev1{v:V}(h:f loc x.σ=some (v,DT)):Ow [f] loc x.σ=some ([v],DT):=by show EI (f loc x.σ) _=_;exact C9 h rfl
theorem dU(B:I2 K c)(H:Db c A o1 f)(P:D8 o1){fv:Bj}{v:V}(DZ:Lc K fv)(h:o1 (vw env.scope) e=true)(fr:FR env loc x)(ev:f loc x.σ=some (v,DT))(go: ∀u (y:St c),Le x y→y.σ=DT→y.VV u v→Bp (Bq c.prog c.w) A (PySem.call fv [u]) Q Dq y.s):
  Bp (Bq c.prog c.w) A (callWith pos fv [] (Cm pos (CJ [e] env)) []) Q Dq x.s:=
 HD B (ri H) (kn P) DZ (G2 h) fr (ev1 ev) λus y l ey hv=>by
  cases hv with
  |cons a b=>cases b;exact go _ y l ey a
def Vj(sc:Vw)(n:Nat)(id:Str):Bool:=EQ id (nm n)&&(Pf sc id&& !EV id)
theorem wm(B:I2 K c)(T:KG K c fa){n i:Nat}{id:Str}(hg:Zu n=some i)(ok:Vj (vw env.scope) n id=true)(fr:FR env loc x)(k:i<fns.length→Q (.ref (fa i)) x.s):Bp (Bq c.prog c.w) A (eval (.Name id GQ) env) Q Dq x.s:=by
 refine Dl (band ok) λa b=> ?_;refine Dl (band b) λb d=> ?_;rw [EH a] at b d ⊢;exact KW B fr (LV b) (T.fn n i hg).1 d (k (T.fn n i hg).2)
def Wd(sc:Vw)(cl:Nat)(id:Str):Bool:=Μ cl 9&&(EQ id (Pr cl)&&(Pf sc id&& !EV id))
theorem tS(B:I2 K c)(T:KG K c fa){cl:Nat}{id:Str}(ok:Wd (vw env.scope) cl id=true)(fr:FR env loc x)(k:Q (.ref (c.CL cl)) x.s):Bp (Bq c.prog c.w) A (eval (.Name id GQ) env) Q Dq x.s:=by
 refine Dl (band ok) λz ok=> ?_;refine Dl (band ok) λa b=> ?_;refine Dl (band b) λb d=> ?_;rw [EH a] at b d ⊢;exact KW B fr (LV b) (T.cls cl (Ds.mp z)) d k
def Oq(sc:Vw)(a:Str)(id:Str):Bool:=EQ id a&&Pf sc id
theorem dN(B:I2 K c)(T:KG K c fa){a id:Str}{v:Bj}(ok:Oq (vw env.scope) a id=true)(i:Nat)(ha:Pz[i]?=some a)(hb:Cj a=some v)(hn:(a==("__name__" :Str))=false)(d:(!EV a)=true)(fr:FR env loc x)(k:Q v x.s):Bp (Bq c.prog c.w) A (eval (.Name id GQ) env) Q Dq x.s:=by
 refine Dl (band ok) λo1 o2=> ?_;rw [EH o1] at o2 ⊢;exact UB B fr (LV o2) (T.bn i _ ha) hb (λq=>by rw [q,beq_self_eq_true] at hn;exact ζ hn) d k
theorem lh(Z:Zt K c fa G A kk)(H:F0 c A os fs)(P: ∀o∈os,D8 o){keep:Bool}{n:Nat}{id:Str}(ok:Vj (vw env.scope) n id=true)(Mp:LZ (vw env.scope) os args=true)(fr:FR env loc x):I3 A env loc x (Lr G keep n fs) (.Call (.Name id GQ) args [] pos):=
 ⟨λev k=>DP ev λvs σ e1 ev=>DA ev λi e2 ev=>CO rfl (wm Z.B Z.T e2 ok fr λhi=>HD Z.B H P (.rf _ (Z.T.kf i hi)) Mp fr e1 λus y l ey hv=>Z.C.call (ey.symm▸ev) hv (k.after l))⟩
theorem o9(Z:Zt K c fa G A kk)(H:F0 c A os fs)(P: ∀o∈os,D8 o){keep:Bool}{cl:Nat}{id:Str}(ok:Wd (vw env.scope) cl id=true)(Mp:LZ (vw env.scope) os args=true)(fr:FR env loc x):I3 A env loc x (MB G keep cl fs) (.Call (.Name id GQ) args [] pos):=
 ⟨λev k=>DP ev λvs σ e1 ev=>DP ev λls DK e2 ev=>CO rfl (tS Z.B Z.T ok fr (HD Z.B H P (.rf _ (Z.T.kc cl (Z.C.hi e2))) Mp fr e1 λus y l ey hv=>Z.C.init (ey.symm▸e2) ev hv (k.after l)))⟩
def eL:Nat→Str
 |0=> "len" |1=> "abs" |2=> "int" |3=> "sum" |4=> "sorted" |5=> "tuple" |6=> "list" |7=> "bytes" |_=> "repr"
theorem GW{d:D}{l:List D}(h:QH d=some l):d= .nd .lst l:=by
 cases d with
 |nd hd m=>exact DY h λa b=>by (exact C9 (cy a)<|C9 (η b) rfl)
 |_=>exact DC h
theorem O4{d:D}{l:List D}(h:nW d=some l):d= .nd .tup l:=by
 cases d with
 |nd hd m=>exact DY h λa b=>by (exact C9 (Vy a)<|C9 (η b) rfl)
 |_=>exact DC h
theorem HV{a:V}{d:D}{v:Bj}(e:Ix a=some d)(h:x.VV v a):DV c x.hf v d:=by rw [Er e] at h;exact h
theorem Gr(Z:Zt K c fa G A kk)(H:Db c A o1 f)(P:D8 o1){a id:Str}{fv:Bj}{v:V}(ok:Oq (vw env.scope) a id=true)(h1:Cj a=some fv)(i:Nat)(h2:Pz[i]?=some a)(h3:(a==("__name__" :Str))=false)(h4:(!EV a)=true)(DZ:Lc K fv)(Mp:o1 (vw env.scope) e=true)(fr:FR env loc x)(e1:f loc x.σ=some (v,DT))
  (go: ∀u (y:St c),Le x y→y.σ=DT→y.VV u v→Bp (Bq c.prog c.w) A (PySem.call fv [u]) Q Dq y.s):Bp (Bq c.prog c.w) A (eval (.Call (.Name id GQ) [e] [] pos) env) Q Dq x.s:=
 CO rfl (dN Z.B Z.T ok i h2 h1 h3 h4 fr (dU Z.B H P DZ Mp fr e1 go))
theorem ou(Z:Zt K c fa G A kk)(H:Db c A o1 f)(P:D8 o1){b:Nat}{id:Str}(ok:Oq (vw env.scope) (eL b) id=true)(Mp:o1 (vw env.scope) e=true)(fr:FR env loc x):I3 A env loc x (Py b f) (.Call (.Name id GQ) [e] [] pos):=by
 refine ⟨λ{r DT Q} ev k=>DP ev λa σ e1 ev=> ?_⟩;have hu:=Z.rm.u;revert ok ev;refine Ft (λok ev=>Gr Z H P ok rfl 0 rfl (by decide) (by decide) (.bi _) Mp fr e1 λu y l ey hv=>k.lift l (ey.symm▸ev) λv e k=>DA e λq h1 e=>DA e λn h2 e=>YZ hv h1 h2 λt tk=>by rw [←η e] at k;exact k.here (DV.int _ _) _) (λb=> ?_) b;refine Ft (λok ev=>Gr Z H P ok rfl 1 rfl (by decide) (by decide) (.bi _) Mp fr e1 λu y l ey hv=>k.lift l (ey.symm▸ev) λv e k=>DA e λd h1 e=>DA e λn h2 e=>X8 (Gs h2▸HV h1 hv) λt tk=>by rw [←η e] at k;exact k.here (DV.int _ _) _) (λb=> ?_) b;refine Ft (λok ev=>Gr Z H P ok rfl 2 rfl (by decide) (by decide) (.ty _) Mp fr e1 λu y l ey hv=>k.lift l (ey.symm▸ev) λv e k=>DA e λd h1 e=>DA e λn h2 e=>ZH (Gs h2▸HV h1 hv) λt=>by rw [←η e] at k;exact k.Mc (DV.int _ _)) (λb=> ?_) b;refine Ft (λok ev=>Gr Z H P ok rfl 3 rfl (by decide) (by decide) (.bi _) Mp fr e1 λu y l ey hv=>k.lift l (ey.symm▸ev) λv e k=>DA e λd h1 e=>DA e λm h2 e=>DA e λn h3 e=>ZK Z.rm.handled (GW h2▸HV h1 hv) h3 (by rw [←η e] at k;exact k)) (λb=> ?_) b;refine Ft (λok ev=>Gr Z H P ok rfl 4 rfl (by decide) (by decide) (.bi _) Mp fr e1 λu y l ey hv=>k.lift l (ey.symm▸ev) λv e k=>Qb Z.rm.handled hv e k) (λb=> ?_) b;refine Ft (λok ev=>Gr Z H P ok rfl 5 rfl (by decide) (by decide) (.ty _) Mp fr e1 λu y l ey hv=>k.lift l (ey.symm▸ev) λv e k=>DA e λd h1 e=>DA e λm h2 e=>S4 (GW h2▸HV h1 hv) (η e▸k)) (λb=> ?_) b;refine Ft (λok ev=>Gr Z H P ok rfl 6 rfl (by decide) (by decide) (.ty _) Mp fr e1 λu y l ey hv=>k.lift l (ey.symm▸ev) λv e k=>DA e λd h1 e=>DA e λm h2 e=>U6 (GW h2▸HV h1 hv) (η e▸k)) (λb=> ?_) b;refine Ft (λok ev=>DC (ev:lift none σ=_)) (λb=> ?_) b;refine Ft (λok ev=>Gr Z H P ok rfl 8 rfl (by decide) (by decide) (.bi _) Mp fr e1 λu y l ey hv=>k.lift l (ey.symm▸ev) λv e k=>DA e λd h1 e=>DA e λm h2 e=>Vc Z.rm.guards (Ed hu (by decide)) (O4 h2▸HV h1 hv) e k) (λb=> ?_) b;exact λok ev=>DC (ev:lift none σ=_)
theorem lu(Z:Zt K c fa G A kk)(H:Db c A o1 f)(P:D8 o1){keep:Bool}{k:Nat}{id:Str}(hk:Μ k 4=true)(ok:Oq (vw env.scope) "dict" id=true)(Mp:o1 (vw env.scope) e=true)(fr:FR env loc x):I3 A env loc x (Lj keep k f) (.Call (.Name id GQ) [e] [] pos):=by
 refine ⟨λ{r DT Q} ev kq=>DP ev λa σ e1 ev=>DA ev λrr e2 ev=> ?_⟩;refine CO rfl (dN Z.B Z.T (v:= .type "dict") ok 9 rfl rfl (by decide) (by decide) fr (dU Z.B H P (.ty _) Mp fr e1 λu y l ey hv=> ?_));subst ey;have fin: ∀v' s',NN y rr.1 rr.2.1 rr.2.2 v' s'→Q v' s':=λv' s' nd=>Vf Z.B.SM ev nd (kq.after l);refine DA e2 λqq h1 e2=> ?_;obtain ⟨hd,m⟩:=qq;cases hd with
 |Dg k' ks=>exact DY e2 λhn e=>Xd (k:=k') (ks:=ks) (l:=m) (let ⟨p,o,vs,w,g,⟨s1,s2,s3⟩,hv⟩:=Gk hv h1;⟨p.1,o,vs,w,s1▸g,s1▸s2,s3,hv⟩) hn (by rw [←η e] at fin;exact fin)
 |lst=>exact DA e2 λqs h2 e=>DA e λrr' h3 e=>U' (Ds.mp hk) Z.rm.handled (Ed Z.rm.u (by decide)) (let ⟨p,o,vs,w,g,⟨s1,s2,n,s3⟩,hv⟩:=Gk hv h1;⟨p.1,vs,n,w,s1▸s3▸g,s2,hv⟩) h2 h3 (by rw [←η e] at fin;exact fin)
 |_=>exact DC e2
def lM(sc:Vw)(t:Nat)(id:Str):Bool:=(μ t 1&&Oq sc "bool" id)||(μ t 2&&Oq sc "int" id)||(μ t 4&&Oq sc "list" id)||(μ t 5&&Oq sc "dict" id)||(Ε 10 t&&Wd sc (t - 10) id)
theorem bor{a b:Bool}(h:(a||b)=true):a=true∨b=true:=by cases a<;>cases b<;>first|exact .inl rfl|exact .inr rfl|exact ζ h
theorem TyN(Z:Zt K c fa G A kk){t:Nat}{id:Str}(ok:lM (vw env.scope) t id=true)(fr:FR env loc x)(k:Μ t 19=true→Q (fH c.CL t) x.s):Bp (Bq c.prog c.w) A (eval (.Name id GQ) env) Q Dq x.s:=by
 rcases bor ok with ok|ok
 ·rcases bor ok with ok|ok
  ·rcases bor ok with ok|ok
   ·rcases bor ok with ok|ok
    ·refine Dl (band ok) λa b=> ?_;rw [nb a] at k;exact dN Z.B Z.T b 13 rfl rfl (by decide) (by decide) fr (k rfl)
    ·refine Dl (band ok) λa b=> ?_;rw [nb a] at k;exact dN Z.B Z.T b 2 rfl rfl (by decide) (by decide) fr (k rfl)
   ·refine Dl (band ok) λa b=> ?_;rw [nb a] at k;exact dN Z.B Z.T b 6 rfl rfl (by decide) (by decide) fr (k rfl)
  ·refine Dl (band ok) λa b=> ?_;rw [nb a] at k;exact dN Z.B Z.T b 9 rfl rfl (by decide) (by decide) fr (k rfl)
 ·refine Dl (band ok) λa b=> ?_
  refine D3 (BN (φ a)) λn Ff=> ?_;subst Ff;have hn:=Ds.mp (band b).1;rw [Ω] at b hn;refine tS Z.B Z.T b fr ?_
  have:=k (Ds.mpr (by exact ZV hn rfl))
  rw [Am] at this;exact this
theorem za(Z:Zt K c fa G A kk)(H:Db c A o1 f)(P:D8 o1){t:Nat}{id tid:Str}{xD:Pos}(ok:Oq (vw env.scope) "isinstance" id=true)(Mp:o1 (vw env.scope) e=true)(okt:lM (vw env.scope) t tid=true)(fr:FR env loc x):I3 A env loc x (ig t f) (.Call (.Name id GQ) [e, .Name tid xD] [] pos):=by
 refine ⟨λ{r DT Q} ev k=>CO rfl (dN Z.B Z.T (v:= .builtin "isinstance") ok 10 rfl rfl (by decide) (by decide) fr ?_)⟩;refine C9 (NG (P _ _ Mp) _ _) ?_;refine Calls.callWith_builtin rfl (Calls.evalArgs_plain (Calls.spliced_cons ((H Mp fr).1.EI ev fr λu y a l hv fy ev=> ?_)));exact Calls.spliced_cons (TyN Z okt fy λht=>Calls.spliced_nil (k.lift l ev λv e k=>Xk Z.B.F (y.R.eM Z.B.X) ht hv e k))
end
end
section
mutual open A
variable{c:Cx}{hf:HF}{ρ:RH}{A:Bs}{s:Bl}{E:Bj→Bl→Prop}{x y:St c}{K:B4}{fa:Nat→Br}{G:HL}{kk:Nat}{env:Env}{loc:Di}{f g h:Ev}{o1 o2:EJ}{e e1 e2 e3:Expr}{pos:Pos}{r:V}{DT:Store}{Q:Bj→Bl→Prop}{os:List EJ}{fs:List Ev}{q:Nat}{GQ:Pos}
theorem dD(n:Nat): ∀l:List D,W6 n l=l.take n:=by
 induction n with
 |zero=>intro l;rfl
 |succ n ih=>intro l;cases l with
  |nil=>rfl
  |cons a l=>exact congrArg (a:: ·) (ih l)
theorem DS.take{α β:Type}{R:α→β→Prop}(n:Nat): ∀{l:List α} {m:List β},DS R l m→DS R (l.take n) (m.take n):=by
 induction n with
 |zero=>intro l m _;exact .nil
 |succ n ih=>intro l m h;cases h with
  |nil=>exact .nil
  |cons a b=>exact .cons a (ih b)
theorem te(H:Db c A o1 f){id:Str}{n:Nat}{cq:Nat}{YQ xL:Pos}(ho:o1 (vw env.scope) (.Name id GQ)=true)(fr:FR env loc x):I3 A env loc x (Wp n f) (.Subscript (.Name id GQ) (.Slice none (some (.Constant (.int n) cq YQ)) none xL) pos):=by
 refine ⟨λ{r DT Q} ev k=>wpAny_Subscript_list_slice ((H ho fr).1.EI ev fr λval y v l hv fy ev=> ?_) (λO O=>rfl)⟩;refine k.lift l ev λv' e k=>DA e λd h1 e=>DA e λm h2 e=> ?_;rw [←η e] at k;refine Bn ?_;refine Bu (show Bp (Bq c.prog c.w) A (Cl env (.int (n:Int))) (λu s'=>(∃t,u= .int n t)∧ ∃t,s'={y.s with toks:=t}) Dq y.s from Cc (iI (EG _ rfl) _ rfl)) (λvu Ej hh=> ?_) λO O x=>x;obtain ⟨⟨t,rfl⟩,tk,rfl⟩:=hh;obtain ⟨p,o,us,rfl,g,⟨s1,s2,n0,rfl⟩,TE⟩:=(show DV c y.hf val (.nd .lst m) from GW h2▸HV h1 hv).shape;refine (Gn p.1 _ _ _ rfl (JS _ (s1▸y.R.keep _ _ g) rfl _ rfl) (OP s2) .none (.int _ t) ?_);refine C9 (slicePick_upto' _ _) ?_;have kp: ∀{o1 o2:Obj} b o',y.s.heap.get? b=some o'→((y.s.heap.push o1).push o2).get? b=some o':=λb o' e=>Β _ (Β _ e);have hI: ∀{o1:Obj},y.s.heap.get? (y.s.heap.push o1).objs.size=none:=λ{o1}=>H7 (λb o' e=>Β o1 e) (Dc _);have o:=k.new (v:= .ref (y.s.heap.push {cls:= .type "slice",data:= .fields #[.none, .int n t, .none]}).objs.size) (kp (o1:={cls:= .type "slice",data:= .fields #[.none, .int n t, .none]}) (o2:=E0 (us.take n) 0)) hI (Ξ _ rfl) (DV.nd (p:=((y.s.heap.push {cls:= .type "slice",data:= .fields #[.none, .int n t, .none]}).objs.size,(y.s.heap.push {cls:= .type "slice",data:= .fields #[.none, .int n t, .none]}).objs.size)) (GI _ _ _) ⟨rfl,Υ (List.length_take_le' ..) s2,0,rfl⟩ (by exact C9 (dD _ _)<|(TE.Pb (Hv (y.R.fresh (hI (o1:={cls:= .type "slice",data:= .fields #[.none, .int n t, .none]}))).1)).take n)) tk;rw [Bg] at o;exact o
abbrev Prs(hf:HF)(ρ:RH):List (Bj×Bj)→List (V×V)→Prop:=DS λu v=>VV c hf ρ u.1 v.1∧VV c hf ρ u.2 v.2
theorem OK{d:Br}(hu:A.units<B3)(hd0:hf d=none){k:Nat}{us:List (Bj×Bj)}{qs:List (V×V)}(h:Prs (c:=c) hf ρ us qs): ∀{acc l:List DO×List V} {vs:List Bj} {o:Obj} {s:Bl} {Q:PUnit→Bl→Prop},FB k qs acc=some l→(∀b o,hf b=some o→s.heap.get? b=some o)→s.heap.get? d=some o→EA c hf o k acc.1 vs→GC c hf ρ vs acc.2→vs.length+us.length<big→
  (∀s' o' D4,Bz.SameBut d s.heap s'.heap→s'.heap.get? d=some o'→EA c hf o' k l.1 D4→GC c hf ρ D4 l.2→GB s s'→Q PUnit.unit s')→Bp (Bq c.prog c.w) A (storeAll d us) Q E s:=by
 induction h with
 |nil=>
  intro acc l vs o s Q e kp hd ho hv hb hQ;rw [←η e] at hQ;exact Bn (hQ s o vs (Bz.SameBut.refl ..) hd ho hv (.refl _))
 | @cons u v us qs h1 _ ih=>
  intro acc l vs o s Q e kp hd ho hv hb hQ;refine DA e λhY e1 e=> ?_;refine IU (KQ e1) λd' key w1 w2 w3 Nu=> ?_;subst Nu;refine Dl h1 λh1 h2=> ?_;rw [w1] at h1;obtain ⟨ua,ub⟩:=u;unfold storeAll;simp only [BK];simp only [ξ] at hb;refine Bk (Bk (Hq kp hu hd ho (JG w2 h1) w3 (by exact PU hb) λh' o' t hs ZP Jv=>Bn ?_));exact ih e (λb o e=>(hs.2 b (λz=>DC (hd0.symm.trans (z▸e)))).trans (kp b o e)) ZP Jv (hv.put h2 _) (by have:=F6 key ub acc.1 vs;exact oJ hb this) λs' qF D4 g1 g2 g3 g4 g5=>hQ s' qF D4 (hs.trans g1) g2 g3 g4 ⟨g5.1,g5.2,g5.3⟩
theorem Le.own(l:Le x y){I:Br}{o:Obj}(g:x.s.heap.get? I=some o)(p1:x.hf I=none)(p2: ∀p∈x.ρ,p.2≠I):y.hf I=none∧(∀p∈y.ρ,p.2≠I)∧y.s.heap.get? I=some o:=by
 refine ⟨?_,λp hp z=> ?_,l.nx.Ee _ _ g p2⟩
 ·cases q:y.hf I with
  |none=>rfl
  |some o'=>
   rcases l.nx.FA _ _ q with z|⟨p,hp,z⟩|z
   ·exact DC (p1.symm.trans z)
   ·exact absurd z (p2 p hp)
   ·exact DC (z.symm.trans g)
 ·rcases l.nx.EE p hp with ⟨q,hq,w⟩|w
  ·exact p2 q hq (w.trans z)
  ·exact DC (w.symm.trans (z▸g))
theorem St.off(y:St c){I:Br}(p1:y.hf I=none)(p2: ∀p∈y.ρ,p.2≠I){h':Bz}(hs: ∀b o,b≠I→y.s.heap.get? b=some o→h'.get? b=some o):F5 c y.hf y.ρ y.σ h':=
 y.R.Ei λb o e q=>hs b o (λz=>by
  subst z;rcases q with q|⟨p,hp,q⟩
  ·exact DC (p1.symm.trans q)
  ·exact p2 p hp q) e
theorem Os.off{h h' lX:Bz}{hf Fg:HF}{ρ G8:RH}(N:Os hf ρ h Fg G8 h'){I:Br}(hI:h.get? I=none)(hs: ∀b o,b≠I→h'.get? b=some o→lX.get? b=some o):Os hf ρ h Fg G8 lX:=
 ⟨N.kf,N.Jg,λb o e n=>hs b o (λz=>DC (hI.symm.trans (z▸e))) (N.Ee b o e n),N.FA,N.EE⟩
def Sr(sc:Vw):List EJ→List (Option Expr)→List Expr→Bool
 | [], [], []=>true
 |o1::o2::os,some a::ks,b::es=>o1 sc a&&(o2 sc b&&Sr sc os ks es)
 |_,_,_=>false
theorem JV{sc:Vw}{os:List EJ}{es:List Expr}(h:Sr sc os [] es=true):os= []∧es= []:=by
 cases os with
 |nil=>cases es with
  |nil=>exact ⟨rfl,rfl⟩
  |cons=>exact ζ h
 |cons o os=>cases os<;>exact ζ h
theorem Pn{sc:Vw}{os:List EJ}{es:List Expr}{k:Option Expr}{ks:List (Option Expr)}(h:Sr sc os (k::ks) es=true): ∃o1 o2 vq a b et,os=o1::o2::vq∧k=some a∧es=b::et∧o1 sc a=true∧o2 sc b=true∧Sr sc vq ks et=true:=by
 cases os with
 |nil=>exact ζ h
 |cons o1 os=>cases os with
  |nil=>exact ζ h
  |cons o2 os=>cases k with
   |none=>exact ζ h
   |some a=>cases es with
    |nil=>exact ζ h
    |cons b es=>exact (J1 o1 o2 os a b es rfl rfl rfl ((band h).1) ((band (band h).2).1) ((band (band h).2).2))
theorem bh{sc:Vw}{ks:List (Option Expr)}: ∀{os:List EJ} {es:List Expr},Sr sc os ks es=true→ks.all (·.isSome)=true∧ks.length=es.length:=by
 induction ks with
 |nil=>intro os es h;exact C9 ((JV h).2)<|⟨rfl,rfl⟩
 |cons k ks ih=>
  intro os es h;refine Ho (Pn h) λo1 o2 vq a b et w1 w2 w3 h1 h2 h3=> ?_;refine C9 w2<|C9 w3 ?_
  exact ⟨(ih h3).1,congrArg (· +1) (ih h3).2⟩
theorem Re{f:Ev}{fs:List Ev}{σ DT:Store}{vs:List V}{P:Prop}(e:Ow (f::fs) loc σ=some (vs,DT))(k: ∀v DD D4,f loc σ=some (v,DD)→Ow fs loc DD=some (D4,DT)→vs=v::D4→P):P:=DP e λv DD e1 e=>DP e λD4 DK e2 e=>by
 have w:(v::D4,DK)=(vs,DT):=η e;exact k v DD D4 e1 (e2.trans (congrArg (λz=>some (D4,z)) (congrArg Prod.snd w))) (congrArg Prod.fst w).symm
theorem WE{σ DT:Store}{vs:List V}(e:Ow [] loc σ=some (vs,DT)):vs= []∧σ=DT:=
 have w:(([]:List V),σ)=(vs,DT):=η e
 ⟨(congrArg Prod.fst w).symm,congrArg Prod.snd w⟩
theorem l6{ks:List (Option Expr)}: ∀{os:List EJ} {fs:List Ev} {es:List Expr} {x:St c} {vs:List V} {DT:Store} {qs:List (V×V)} {Q:List (Bj×Bj)→Bl→Prop},F0 c A os fs→Sr (vw env.scope) os ks es=true→FR env loc x→Ow fs loc x.σ=some (vs,DT)→alt vs=some qs→
  (∀us (y:St c),Le x y→y.σ=DT→Prs (c:=c) y.hf y.ρ us qs→us.length=ks.length→Q us y.s)→Bp (Bq c.prog c.w) A (evalPairs (pairTrees ks es env pos)) Q Dq x.s:=by
 induction ks with
 |nil=>
  intro os fs es x vs DT qs Q H ok fr ev ea k;rw [(JV ok).1] at H;rw [Ja H] at ev;have w:=WE ev;rw [w.1] at ea;rw [(JV ok).2,←η ea] at*;exact Bn (k [] x (.refl x) w.2 .nil rfl)
 |cons kx ks ih=>
  intro os fs es x vs DT qs Q H ok fr ev ea k;refine wr λZ0 z0=> ?_;refine Ho (Pn ok) λo1 o2 vq a b et w1 w2 w3 h1 h2 h3=> ?_;rw [w1] at H;refine D0 (HP H) λf1 fs1 wf H1 H=>D0 (HP H) λf2 fs2 wf2 H2 H=> ?_;rw [wf,wf2] at ev;refine Re ev λv DD vs1 e1 ev wv=>Re ev λw DK vs2 e2 ev wv2=> ?_;rw [wv,wv2] at ea;refine DA ea λqs' e3 ea=> ?_;refine z0 ?_;rw [←η ea] at k;refine C9 w2<|C9 w3 ?_
  unfold pairTrees evalPairs;refine Bk ((H1 h1 fr).1.run e1 λva y l ey ha=> ?_);refine Bk (Bt (Bk ((H2 h2 (fr.Jz l)).1.run (ey.symm▸e2) λvb z m ez hb=> ?_)));refine Bk (Bv (Bn (Bk (Bt (ih H h3 ((fr.Jz l).Jz m) (ez.symm▸ev) e3 λus u n eu hp hl=> ?_)))));exact Bn (k _ u (l.trans (m.trans n)) eu (.cons ⟨VV.le (VV.le ha m) n,VV.le hb n⟩ hp) (congrArg (· +1) hl))
theorem zq(Z:Zt K c fa G A kk)(H:F0 c A os fs){keep:Bool}{k:Nat}{ks:List (Option Expr)}{es:List Expr}(hk:Μ k 4=true)(ok:Sr (vw env.scope) os ks es=true)(hl:Μ ks.length 15=true)(fr:FR env loc x):I3 A env loc x (Y5 keep k fs) (.Dict ks es pos):=by
 refine ⟨λ{r DT Q} ev kq=>DP ev λvs σ e1 ev=>DA ev λqs e2 ev=>DA ev λrr e3 ev=> ?_⟩;have fresh:=x.R.fresh (Dc x.s.heap)
 have fin: ∀{y:St c} {Ej:Bl} {o' D4},Le (x.JL {cls:= .type "dict",data:= .dict #[]}) y→y.σ=σ→Bz.SameBut x.s.heap.objs.size y.s.heap Ej.heap→Ej.heap.get? x.s.heap.objs.size=some o'→EA c y.hf o' k rr.1 D4→y.GC D4 rr.2→GB y.s Ej→Q (.ref x.s.heap.objs.size) Ej:=λ{y Ej o' D4} l ey hs ho hd hv sm=>by
  refine ET (l.own (Ξ _ rfl) fresh.1 fresh.2) λp1 p2 O=> ?_;have bj: ∀b o,b≠x.s.heap.objs.size→y.s.heap.get? b=some o→Ej.heap.get? b=some o:=λb o n e=>(hs.2 b n).trans e;exact N5 (p:=(x.s.heap.objs.size,x.s.heap.objs.size)) (show Df keep (.Dg k rr.1) rr.2 y.σ=some (r,DT) from ey▸ev) (((F3 _).trans l).nx.off (Dc _) bj) (y.off p1 p2 bj) (Dc _) p1 p2 ho ⟨rfl,QT Z.B.SM (Dc _),hd⟩ hv kq rfl (((F3 _).trans l).sm.trans sm)
 cases ks with
 |nil=>
  rw [(JV ok).1] at H;rw [Ja H] at e1;have w:=WE e1;rw [w.1] at e2;rw [←η e2] at e3;rw [←η e3] at fin;refine C9 ((JV ok).2) ?_;exact wpAny_Dict_empty (fin (.refl _) w.2 (Bz.SameBut.refl ..) (Ξ _ rfl) (Jc (Ds.mp hk)) .nil (.refl _))
 |cons kx ks=>
  have sh:=bh ok;refine wpAny_Dict_any sh.1 sh.2 (List.cons_ne_nil _ _) (AY (Ds.mp hl)) ?_;refine l6 (x:=x.JL {cls:= .type "dict",data:= .dict #[]}) H ok (fr.Jz (F3 _)) e1 e2 λus y l ey hp Eb=> ?_;refine ET (l.own (Ξ _ rfl) fresh.1 fresh.2) λp1 p2 p3=> ?_;exact OK (Ed (m:=0) Z.rm.u (AT _)) p1 hp e3 y.R.keep p3 (Jc (Ds.mp hk)) .nil (by refine C9 Eb ?_;have:=Ds.mp hl;refine C9 BJ ?_;unfold big;exact ZV this rfl) λEj o' D4 g1 g2 g3 g4 g5=>fin l ey g1 g2 g3 g4 g5
end
end
section
mutual open A
variable{c:Cx}{hf:HF}{ρ:RH}{A:Bs}{s:Bl}{E:Bj→Bl→Prop}{x y:St c}{K:B4}{fa:Nat→Br}{G:HL}{kk:Nat}{env:Env}{loc:Di}{f g h:Ev}{o1 o2:EJ}{e e1 e2 e3:Expr}{pos:Pos}{r:V}{DT:Store}{Q:Bj→Bl→Prop}{os:List EJ}{fs:List Ev}{args:List Expr}{q:Nat}{GQ:Pos}
theorem O5{o:Expr}{attr:Str}{apos pos:Pos}(hb:J6 o=true)(hl:(apos.endLine==pos.line)=true)(hn:Μ args.length 20=true)(hp:(Cm pos (CJ args env)).any (·.1)=false)
  (h:Bp (Bq c.prog c.w) A (eval o env) (λov D6=> ∃f first,(∀(pl:Sem Bool) (Q':Bj×List Bj→Bl→Prop),Q' (f,first) D6→Bp (Bq c.prog c.w) A (getMethod ov attr pl) Q' E D6)∧Bp (Bq c.prog c.w) A (callWith pos f first (Cm pos (CJ args env)) []) Q E D6) E s):
  Bp (Bq c.prog c.w) A (eval (.Call (.Attribute o attr apos) args [] pos) env) Q E s:=by
 refine C9 (arm_eval_Call _ _ _ _ _ _ _)<|C9 (Wq hb _ _ _) ?_
 refine Bk (Bu h (λov D6 Ta=> ?_) λO O e=>e);refine GE Ta λf first hm hc=> ?_;clear Ta
 refine Bk (Bv ?_)
 have xT:(Cm pos (CJ args env)).all (!·.1)=true:=by
  refine C9 (propext (Au)) ?_;intro x hx;rw [List.any_eq_false] at hp;cases q:x.1 with
  |true=>exact absurd q (hp x hx)
  |false=>rfl
 have rP:methodCallForm (args.length+([]:List Keyword).length) (Cm pos (CJ args env)) (backToKw pos (keywordEach [] env))=true:=by
  unfold methodCallForm;refine C9 xT ?_;show (true&&true&&decide (args.length+0+0<30))=true
  have:=Ds.mp hn
  exact decide_eq_true (by exact IJ this rfl)
 have yx:methodCallPos true o env apos pos=pure pos:=by unfold methodCallPos;exact C9 hl rfl
 unfold methodCall;refine C9 rP ?_;refine Bk (Bt (hm _ _ ?_));refine C9 yx ?_;exact Bk (Bn hc)
theorem E6{α:Type}{b:Bool}{X Y:Option α}{r:α}{P:Prop}(e:cond b X Y=some r)(h1:b=true→X=some r→P)(h2:b=false→Y=some r→P):P:=by cases b with|true=>exact h1 rfl e|false=>exact h2 rfl e
theorem L8{u:Option Store}(e:done u=some (r,DT)):r= .d .none∧u=some DT:=
 DA e λσ h1 e=>by have e:(V.d D.none,σ)=(r,DT):=η e;cases e;exact ⟨rfl,h1⟩
theorem Eg{α:Type}{l:List α}{a:α}(e:only l=some a):l= [a]:=by
 cases l with
 |nil=>exact DC e
 |cons b l=>cases l with
  |nil=>exact De e rfl
  |cons=>exact DC e
theorem Ok.none(k:Ok x DT (.d .none) Q):Did x DT (Q .none):=λz m ez=>k .none z m ez DV.none
theorem Xa{v:Bj}{T:String}{attr:Str}{id:String}{pl:Sem Bool}{Q:Bj×List Bj→Bl→Prop}(h: ∃q o,v= .ref q∧s.heap.get? q=some o∧o.cls= .type T∧o.dict=none)(pa:PlainAttrs T)(slot:Slot T attr id)(ht:typeOf (.builtin id)=pure (.type "method_descriptor"))(hQ:Q (.builtin id, [v]) s):
  Bp (Bq c.prog c.w) A (getMethod v attr pl) Q E s:=by
 refine IU h λq o Gx h1 h2 h3=> ?_;subst Gx;clear h;exact getMethod_builtin (DM _ h1 h2) pa slot ht (λa e=>by cases e;exact (DM _ h1 h3)) hQ
theorem LR{v:Bj}{o:V}(ho:x.VV v o)(h:(JB x.σ o).isSome=true): ∃q o,v= .ref q∧x.s.heap.get? q=some o∧o.cls= .type "list" ∧o.dict=none:=
 D3 (AV.mp h) λO hl=>let ⟨q,_,_,w,g,_,_⟩:=UN ho hl;(FC q _ w g rfl rfl)
theorem RS{v:Bj}{o:V}(ho:x.VV v o)(h:(GH x.σ o).isSome=true): ∃q o,v= .ref q∧x.s.heap.get? q=some o∧o.cls= .type "dict" ∧o.dict=none:=
 D3 (AV.mp h) λO hl=>let ⟨q,o,_,w,g,_,ho,_⟩:=LO ho hl;D0 ho.raw λO O h1 O O=>(FC q o w g h1.1 h1.2.1)
def Bm(x:St c)(A:Bs)(m:Nat)(vo:Bj)(o:V)(vs:List V)(DK:Store)(r:V)(DT:Store):Prop:=
  ∃id,(∀(pl:Sem Bool) (Q':Bj×List Bj→Bl→Prop),Q' (.builtin id, [vo]) x.s→Bp (Bq c.prog c.w) A (getMethod vo (nm m) pl) Q' Dq x.s)∧ ∀{y:St c} {us Q},y.σ=DK→y.VV vo o→y.GC us vs→Ok y DT r Q→Bp (Bq c.prog c.w) A (PySem.call (.builtin id) (vo::us)) Q Dq y.s
theorem mo{k:Nat}(rm:Ms A (k+1)){m:Nat}{vo:Bj}{o:V}{vs:List V}{DK:Store}(ho:x.VV vo o)(hb:Jt x.σ m o=true)(e:GK m o vs DK=some (r,DT)):
  Bm x A m vo o vs DK r DT:=by
 refine E6 e (λw e=> ?_) λO e=>E6 e (λw e=> ?_) λO e=>E6 e (λw e=> ?_) λO e=>E6 e (λw e=> ?_) λO e=>E6 e (λw e=> ?_) λO e=>DC e
 ·have w:=nb w;subst w
  refine DA e λv h1 e5=> ?_;refine Dl (L8 e5) λvB e6=> ?_;subst vB;clear e e5;refine C9 (Eg h1) ?_;exact (DM _ (λpl Q' hQ=>Xa (LR ho hb) PySem.F.plainAttrs_list PySem.F.slot_list_append PySem.type_list_append hQ) (λey ho hv k=>by refine DQ (LJ hv) λu w a=> ?_;exact C9 w<|Q7 ho a (ey▸e6) k.none))
 ·have w:=nb w;subst w
  exact (DM _ (λpl Q' hQ=>Xa (RS ho hb) PySem.F.plainAttrs_dict PySem.F.slot_dict_get PySem.F.type_dict_get hQ) (λey ho hv k=>k.lift (.refl _) (ey▸e) λv e k=>Y3 (Ed rm.u (by decide)) ho hv e k))
 ·have w:=nb w;subst w
  refine DY e λh1 e=> ?_;refine C9 (AZ.mp h1) ?_;exact (DM _ (λpl Q' hQ=>Xa (LR ho hb) PySem.F.plainAttrs_list PySem.F.slot_list_pop PySem.F.type_list_pop hQ) (λey ho hv k=>by exact C9 (aR hv)<|Yn ho (ey▸e) k))
 ·have w:=nb w;subst w
  refine DA e λv h1 e=>DP e λd Dy KX e=>DA e λl h2 e5=> ?_;refine Dl (L8 e5) λvB e6=> ?_;subst vB;clear e5;refine C9 (Eg h1) ?_;rw [GW h2] at KX;exact (DM _ (λpl Q' hQ=>Xa (LR ho hb) PySem.F.plainAttrs_list PySem.F.slot_list_extend PySem.F.type_list_extend hQ) (λey ho hv k=>by refine DQ (LJ hv) λu w a=> ?_;exact C9 w<|IC (ey▸KX) a λFg R' l dv=>K5 (x:=⟨Fg,_,_,_,R'⟩) (ho.le l) dv e6 (k.after l).none))
 ·have w:=nb w;subst w
  refine DA e λv h1 e5=> ?_;refine Dl (L8 e5) λvB e6=> ?_;subst vB;clear e e5;refine C9 (Eg h1) ?_;exact (DM _ (λpl Q' hQ=>Xa (RS ho hb) PySem.F.plainAttrs_dict PySem.F.slot_dict_update PySem.F.type_dict_update hQ) (λey ho hv k=>by refine DQ (LJ hv) λu w a=> ?_;exact C9 w<|Q6 ho a (ey▸e6) k.none))
theorem VQ{α β:Type}{m:Nat}(as:List Nat): ∀{us:List α} {vs:List β},us.length=vs.length→Du as us m=none→Du as vs m=none:=by
 induction as with
 |nil=>intro us vs _ _;cases vs<;>rfl
 |cons y as ih=>intro us vs h e;cases us with
  |nil=>cases vs with
   |nil=>rfl
   |cons=>exact Α h
  |cons u us=>cases vs with
   |nil=>rfl
   |cons v vs=>
    have e:cond (μ y m) (some u) (Du as us m)=none:=e;show cond (μ y m) (some v) (Du as vs m)=none;cases z:μ y m with
    |true=>rw [z] at e;cases e
    |false=>rw [z] at e;exact ih (AK.inj h) e
theorem Y0{α:Type}{u:Option α}(h:u.isNone=true):u=none:=by cases u with|none=>rfl|some=>exact ζ h
theorem rH(Z:Zt K c fa G A kk)(H:Db c A o1 f)(Hs:F0 c A os fs)(P: ∀o∈os,D8 o){m:Nat}{apos:Pos}(hm:Μ m Fw.length=true)(hb:J6 e=true)(hl:(apos.endLine==pos.line)=true)(hn:Μ args.length 20=true)(G2:o1 (vw env.scope) e=true)(J0:LZ (vw env.scope) os args=true)(fr:FR env loc x):
  I3 A env loc x (Wy G m f fs) (.Call (.Attribute e (nm m) apos) args [] pos):=by
 refine ⟨λ{r DT Q} ev k=>O5 hb hl hn (O6 P J0) ((H G2 fr).1.EI ev fr λvo y o l ho fy ev=> ?_)⟩;cases hi:Ew y.σ o with
 |some rr=>
  refine wr λZ0 z0=> ?_;have ev:F9 (Du (DX rr.1) (DX rr.1) m).isNone (DN (LG rr.1 m) λi=>EI (Ow fs loc y.σ) λvs σ=>G.call false i (o::vs) σ)=some (r,DT):=by rw [hi] at ev;exact ev
  refine DY ev λh1 ev=>DA ev λi h2 ev=>DP ev λvs σ e1 ev=> ?_;refine OR (Z.T.mt rr.1 m i h2) λmi mg mf mt=> ?_;obtain ⟨q,d,ob,us,rfl,g1,g2,g3,g4⟩:=XR ho hi;refine z0 ?_;refine (Gp (.ref (fa i)) ([.ref q]) (λpl Q' hQ=>method_fn (y.R.eM Z.B.X) (od:=some ob) ⟨g1,rfl,rfl,g2⟩ (plainGet_of mg).1 (plainGet_of mg).2 mf (beq_iff_eq.mp mt) ?_ hQ) ?_)
  ·show (lookIn (nm m) ob).map (·.isSome)=some false
   exact C9 (Ph g3 (Ds.mp hm))<|C9 (VQ _ g3.len (Y0 h1)) rfl
  ·exact HD Z.B Hs P (.rf _ (Z.T.kf i mi)) J0 fy e1 λus z n ez hv=>Z.C.call (ez.symm▸ev) (.cons (VV.le ho n) hv) (k.after (l.trans n))
 |none=>
  have ev:F9 (Jt y.σ m o) (EI (Ow fs loc y.σ) λvs σ=>GK m o vs σ)=some (r,DT):=by rw [hi] at ev;exact ev
  refine DY ev λh1 ev=>DP ev λvs σ e1 ev=> ?_;refine DQ (mo Z.rm ho h1 ev) λid g1 g2=> ?_;exact (Gp (.builtin id) ([vo]) g1 (HD Z.B Hs P (.bi id) J0 fy e1 λus z n ez hv=>g2 ez (VV.le ho n) hv (k.after (l.trans n))))
structure ZX{c:Cx}(A:Bs)(env:Env)(loc:Di)(x:St c)(f:ef)(e:Expr):Prop where
 run: ∀{l DT} {Q:Bj→Bl→Prop},f loc x.σ=some (l,DT)→(∀it (y:St c),Le x y→y.σ=DT→H4 c x.s.heap y.hf y.ρ it l 0 y.s.heap→l.length≤big→Q it y.s)→Bp (Bq c.prog c.w) A (eval e env) (λv D6=>Bp (Bq c.prog c.w) A (pyIter v) Q Dq D6) Dq x.s
theorem EP.since{it:Bj}{l:List D}{i:Nat}{h:Bz}{z:St c}(w:H4 c y.s.heap z.hf z.ρ it l i h)(n:Le x y)(m:Le y z):H4 c x.s.heap z.hf z.ρ it l i h:=by
 refine FT w λI fp wr P S e w st=> ?_;refine (GX I fp wr P S e ⟨w.W,w.ex,w.dv,w.f1,λb hb=> ?_⟩ st);refine ET (w.f2 b hb) λg1 g2 g3=> ?_;refine ⟨g1,g2, ?_⟩;rcases n.nx.back g3 with ⟨p,hp,z⟩|z
 ·refine D3 (BS.mp hp) λi hi=> ?_
  exact absurd z (g2 p (AC (m.nx.Jg i p (n.nx.Jg i p hi))))
 ·exact z
theorem PI{v:Bj}{d:D}{l:List D}(hv:DV c hf v d)(e:KB d=some l):l.length≤big:=by
 cases d with
 |nd h m=>
  obtain ⟨p,o,vs,_,_,sh,Hr⟩:=hv.shape;cases h with
  |tup=>obtain ⟨_,s2,_⟩:=sh;exact Dr (η (e:some m=some l))<|Dr Hr.length s2
  |lst=>obtain ⟨_,s2,_⟩:=sh;exact Dr (η (e:some m=some l))<|Dr Hr.length s2
  |Dg k ks=>exact DY (x:=some (ks.map DO.d)) e λO e=>by exact Dr (η e)<|C9 (ι _)<|C9 sh.s3.big.2 sh.s3.big.1
  |inst=>exact DC e
 |_=>exact DC e
theorem nX{β:Type}{x:St c}{g:List V→Store→Option β}{r:β}(e:EI (Ow [f] loc x.σ) g=some r):EI (f loc x.σ) (λv σ=>g [v] σ)=some r:=by
 refine DP e λvs σ e1 e2=>DP e1 λv DD e3 e4=> ?_;have w:([v],DD)=(vs,σ):=η e4;cases w;exact C9 e3 e2
theorem iOf(H:Db c A o1 f)(ok:o1 (vw env.scope) e=true)(fr:FR env loc x):ZX A env loc x (RM 0 [f]) e:=by
 refine ⟨λ{Z6 su Q} ev k=>(H ok fr).1.EI (nX ev) fr λval y v l hv fy ev=> ?_⟩;have ev:EI (Hz FZ v y.σ) (λd σ=>lift (KB d) σ)=some (Z6,su):=ev;refine DP ev λd DK e1 ev=>IC e1 hv λFg R' n dv=> ?_;refine Fs (P:=λl DT=>(∀it (y:St c),Le x y→y.σ=DT→H4 c x.s.heap y.hf y.ρ it l 0 y.s.heap→l.length≤big→Q it y.s)→_) ev (λds e2 k=> ?_) k;exact PO (x:=⟨Fg,_,_,_,R'⟩) dv e2 λit z m ez w=>k it z ((l.trans n).trans m) ez (w.since (l.trans n) m) (PI dv e2)
theorem my{v:V}{d:D}{n:Int}{u:Bj}(h:y.VV u v)(h1:Ix v=some d)(h2:Y2 d=some n): ∃t,u= .int n t:=E4 (Gs h2▸HV h1 h)
theorem Nr{a b:Int}{l:List D}(e:FU a b=some l):l.length≤big:=DY e λh e=>by exact Dr (η e)<|C9 (J3 _ _)<|φ (band h).2
theorem iR1(Z:Zt K c fa G A kk)(H:Db c A o1 f)(P:D8 o1){id:Str}(ok:Oq (vw env.scope) "range" id=true)(Mp:o1 (vw env.scope) e=true)(fr:FR env loc x):ZX A env loc x (RM 1 [f]) (.Call (.Name id GQ) [e] [] pos):=by
 refine ⟨λ{Z6 DT Q} ev k=>DP (nX ev) λv σ e1 ev=>CO rfl (dN Z.B Z.T (v:= .type "range") ok 11 rfl rfl (by decide) (by decide) fr (dU Z.B H P (.ty _) Mp fr e1 λu y l ey hv=> ?_))⟩;subst ey;refine DA (x:=Ix v) ev λd h1 ev=>DA ev λn h2 ev=> ?_;refine D3 (my hv h1 h2) λt Ff=> ?_;subst Ff;refine Fs (P:=λl DT=>(∀it (y:St c),Le x y→y.σ=DT→H4 c x.s.heap y.hf y.ρ it l 0 y.s.heap→l.length≤big→Q it y.s)→_) ev (λds e2 k=>call_range_1 ?_) k;have lz:Le y ⟨y.hf,y.ρ,y.σ,{y.s with heap:=y.s.heap.push {cls:= .type "range",data:= .fields #[.int 0 y.s.toks, .int n t, .int 1 (y.s.toks+1)]},toks:=y.s.toks+1+1},(y.JL {cls:= .type "range",data:= .fields #[.int 0 y.s.toks, .int n t, .int 1 (y.s.toks+1)]}).R⟩:=⟨(F3 _).nx,rfl,rfl,rfl⟩;exact N0 (IsRange.new y.s.heap 0 n 1 y.s.toks t (y.s.toks+1)) e2 λit z m ez w=>k it z ((l.trans lz).trans m) ez (w.since (l.trans lz) m) (Nr e2)
theorem iR2(Z:Zt K c fa G A kk)(H:Db c A o1 f)(H2:Db c A o2 g)(P:D8 o1)(P2:D8 o2){id:Str}(ok:Oq (vw env.scope) "range" id=true)(Mp:o1 (vw env.scope) e=true)(zy:o2 (vw env.scope) e1=true)(fr:FR env loc x):ZX A env loc x (RM 2 [f,g]) (.Call (.Name id GQ) [e,e1] [] pos):=by
 refine ⟨λ{Z6 DT Q} ev k=>DP ev λvs σ q1 ev=>CO rfl (dN Z.B Z.T (v:= .type "range") ok 11 rfl rfl (by decide) (by decide) fr (HD Z.B (.cons H (ri H2)) (λo ho=> ?_) (.ty _) (by show (o1 _ e&&(o2 _ e1&&true))=true;exact C9 Mp<|C9 zy rfl) fr q1 λus y l ey hv=> ?_))⟩
 ·rcases ν.mp ho with w|w
  ·exact w▸P
  ·exact ς.mp w▸P2
 subst ey;refine DA (x:=two vs) ev λp h0 ev=>DA ev λd h1 ev=>DA ev λm h2 ev=>DA ev λd' h3 ev=>DA ev λn h4 ev=> ?_;rw [Sx h0] at hv;cases hv with
 |cons a1 hv=>cases hv with
  |cons a2 hv=>
   cases hv;refine D3 (my a1 h1 h2) λt Ff=> ?_;subst Ff;refine D3 (my a2 h3 h4) λu Ff=> ?_;subst Ff;refine Fs (P:=λl DT=>(∀it (y:St c),Le x y→y.σ=DT→H4 c x.s.heap y.hf y.ρ it l 0 y.s.heap→l.length≤big→Q it y.s)→_) ev (λds e2 k=>call_range_2 ?_) k;have lz:Le y ⟨y.hf,y.ρ,y.σ,{y.s with heap:=y.s.heap.push {cls:= .type "range",data:= .fields #[.int m t, .int n u, .int 1 y.s.toks]},toks:=y.s.toks+1},(y.JL {cls:= .type "range",data:= .fields #[.int m t, .int n u, .int 1 y.s.toks]}).R⟩:=⟨(F3 _).nx,rfl,rfl,rfl⟩;exact N0 (IsRange.new y.s.heap m n 1 t u y.s.toks) e2 λit z m ez w=>k it z ((l.trans lz).trans m) ez (w.since (l.trans lz) m) (Nr e2)
theorem xX(Z:Zt K c fa G A kk)(H:Db c A o1 f)(P:D8 o1){id:Str}(ok:Oq (vw env.scope) "reversed" id=true)(Mp:o1 (vw env.scope) e=true)(fr:FR env loc x):ZX A env loc x (RM 3 [f]) (.Call (.Name id GQ) [e] [] pos):=by
 refine ⟨λ{Z6 DT Q} ev k=>DP (nX ev) λv σ e1 ev=>CO rfl (dN Z.B Z.T (v:= .type "reversed") ok 12 rfl rfl (by decide) (by decide) fr (dU Z.B H P (.ty _) Mp fr e1 λu y l ey hv=> ?_))⟩;subst ey;refine DA (x:=Ix v) ev λd h1 ev=>DA ev λm h2 ev=> ?_;have w:(m.reverse,y.σ)=(Z6,DT):=η ev;cases w;have dv:DV c y.hf u (.nd .lst m):=GW h2▸HV h1 hv;exact Ss dv λit z n ez w O=>Jq Z.rm.handled w (k it z (l.trans n) ez (w.since l n) (by exact C9 AX<|PI dv rfl))
theorem ST{free:Br→Prop}{it v:Bj}{l:List D}{i:Nat}{target:Expr}{Q:Unit→Bl→Prop}(w:EP c free hf ρ it l i s.heap)(h:Q () s):Bp (Bq c.prog c.w) A (Cp target it v) Q E s:=by
 refine FT w λI fp wr P S Nu w st=> ?_;subst Nu;clear w;obtain ⟨⟨o,ho,hp⟩,_⟩:=w.ex i _ st
 have tup:Bp (Bq c.prog c.w) A (do
   let (.ref r, .ref a):=((.ref I:Bj),v)|(pure ():Sem Unit)
   let o←load r
   match o.cls,o.data with
   | .type n, .fields vs=>
    if ["enumerate", "zip", "dict_itemiterator", "dict_reverseitemiterator", "odict_iterator", "itertools.zip_longest", "itertools.pairwise"].contains n&&vs[0]?==some (C7 a) then
     rule "for.unpacks-the-owned-tuple"
     updateField r 0 .none
   |_,_=>pure ()) Q E s:=by
  cases v with
  |ref a=>
   refine Bk (wpAny_load ho ?_);unfold Kj at hp;cases hc:o.cls with
   |type n=>
    rw [hc] at hp;dsimp only at hp ⊢;cases hd:o.data with
    |fields vs=>
     dsimp only;refine C9 (if_neg (by rw [A8] at hp;rw [hp];exact Aj)) ?_;exact Bn h
    |_=>exact Bn h
   |_=>exact Bn h
  |_=>exact Bn h
 cases target with
 |Tuple=>exact tup
 |List=>exact tup
 |_=>exact Bn h
end
end
section
mutual open A
variable{c:Cx}{s:Bl}{x y:St c}{env:Env}{loc:Di}
def oB{α:Type}(x:Option α)(f:α→Bool):Bool:=match x with
 |some a=>f a
 |none=>false
theorem DL{α:Type}{x:Option α}{f:α→Bool}{P:Prop}(h:oB x f=true)(go: ∀a,x=some a→f a=true→P):P:=by
 cases x with
 |none=>exact ζ h
 |some a=>exact go a rfl h
def Ps:B0→Bool| .free=>true|_=>false
def dZ:ScopeKind→Bool| .function=>true|_=>false
def eW:Option NK→Bool|some .loc=>true|_=>false
def t8:Option NK→Bool|some .cf=>true|_=>false
theorem Jo{k:ScopeKind}(h:dZ k=true):k= .function:=by cases k<;>first|rfl|exact ζ h
theorem Yc{k:Option NK}(h:eW k=true):k=some .loc:=by
 cases k with
 |none=>exact ζ h
 |some k=>cases k<;>first|rfl|exact ζ h
theorem V0{k:Option NK}(h:t8 k=true):k=some .cf:=by
 cases k with
 |none=>exact ζ h
 |some k=>cases k<;>first|rfl|exact ζ h
theorem PY{k:B0}(h:Ps k=true):k= .free:=by cases k<;>first|rfl|exact ζ h
def VL(x y:Nat):List Nat:=match y with
 |0=> [x]
 |_=> [x,y]
def cY:List Str→Bool
 | []=>true
 |x::r=> !(r.any λy=>EQ x y)&&cY r
def ci(outer:Vw)(own:List Nat)(id:Str):B0→Bool
 | .local=>EQ id ".0" ||own.any λy=>EQ (nm y) id
 | .free=>t8 (outer id)
 | .cell=>false
 |_=>true
def Fr(outer:Vw)(sc:CM)(x y:Nat):Bool:=dZ sc.kind&&((sc.names.all λq=>ci outer (VL x y) q.1 q.2)&&cY (sc.names.map (·.1)))
theorem IT(sc:CM)(env:Env)(x:Str):(sc.names.lookup x=none∧(Cn sc env).names.lookup x=none)∨ ∃k k',sc.names.lookup x=some k∧(Cn sc env).names.lookup x=some k'∧(k'=k∨k= .free∧k'= .cell):=by
 unfold Cn;dsimp only
 induction sc.names with
 |nil=>exact .inl ⟨rfl,rfl⟩
 |cons q r ih=>
  refine C9 Χ<|C9 Ae ?_
  by_cases c:(q.2==B0.free&&env.scope.kind== .function&&env.kindOf q.1==some .cell)=true
  ·refine C9 (if_pos c)<|C9 Ae ?_
   cases hx:x==q.1 with
   |true=>exact .inr (EK q.2 .cell rfl rfl (.inr ⟨beq_iff_eq.mp (band (band c).1).1,rfl⟩))
   |false=>exact ih
  ·refine C9 (if_neg c)<|C9 Ae ?_
   cases hx:x==q.1 with
   |true=>exact .inr (EK q.2 q.2 rfl rfl (.inl rfl))
   |false=>exact ih
theorem Ie(sc:CM)(env:Env):vw (Cn sc env)=vw sc:=by
 funext x
 unfold vw;rcases IT sc env x with ⟨a,b⟩|⟨k,k',a,b,c⟩
 ·(exact C9 a<|C9 b rfl)
 ·refine C9 a<|C9 b ?_
  rcases c with rfl|⟨rfl,rfl⟩<;>rfl
def Fc(env:Env)(names:List (Str×B0)):List (Str×Br):=(names.filter λq=>Ps q.2).map λq=>(q.1,(env.cells.lookup q.1).getD 0)
def Nw(env:Env)(q:Str×B0)(r:List (Str×Br)):Sem (ForInStep (List (Str×Br))):=match q with
 |(name,kind)=>if (kind==B0.free)=true then do
   let y←PySem.cellOf env name
   pure (ForInStep.yield ((name,y)::r))
  else pure (ForInStep.yield r)
theorem Ov{sc:CM}(h: ∀q∈sc.names,q.2= .free→(env.cells.lookup q.1).isSome=true):closureFor sc env=pure (Fc env sc.names).reverse:=by
 have gen: ∀(names:List (Str×B0)) (acc:List (Str×Br)),(∀q∈names,q.2= .free→(env.cells.lookup q.1).isSome=true)→(forIn names acc (Nw env):Sem _)=pure ((Fc env names).reverse++acc):=by
  intro names
  induction names with
  |nil=>intro acc _;rfl
  |cons q r ih=>
   intro acc h;have ih:=λacc=>ih acc λq hq=>h q (.tail _ hq);refine C9 (BK _ _ _ _) ?_;unfold Fc at ih ⊢;cases c:Ps q.2 with
   |true=>
    have c':=PY c;refine D3 (AV.mp (h _ (.head _) c')) λa ha=> ?_
    have hb:Nw env q acc=pure (.yield ((q.1,a)::acc)):=by
     unfold Nw PySem.cellOf;dsimp only;exact C9 c'<|C9 ha rfl
    refine C9 hb<|C9 Al<|C9 (if_pos c)<|C9 Χ<|C9 Ag<|C9 (π _ _ _)<|C9 ha ?_
    exact ih _
   |false=>
    have hb:Nw env q acc=pure (.yield acc):=by
     unfold Nw;dsimp only
     (exact C9 (if_neg λz=>by rw [beq_iff_eq.mp z] at c;exact ζ c) rfl)
    refine C9 hb<|C9 Al<|C9 (if_neg (by rw [c];exact Aj)) ?_
    exact ih _
 unfold closureFor
 have:=gen sc.names [] h
 rw [υ] at this;refine Eq.trans ?_ this;exact bind_pure _
theorem MW{l:List Str}:cY l=true→l.Nodup:=by
 induction l with
 |nil=>intro _;exact .nil
 |cons x r ih=>
  intro h;refine Dl (band h) λh1 h2=> ?_;refine Η.mpr ⟨λm=> ?_,ih h2⟩;rw [A8,List.any_eq_false] at h1;exact h1 x m (Oe x)
theorem I0{α:Type}{n:Str}{c:α}{l:List (Str×α)}:(l.map (·.1)).Nodup→(n,c)∈l→l.lookup n=some c:=by
 induction l with
 |nil=>intro _ m;exact absurd m Γ
 |cons p r ih=>
  intro h m;rw [Χ,Η] at h;refine C9 Ae ?_;rcases ν.mp m with e|m'
  ·(exact Dr e<|C9 (beq_self_eq_true _) rfl)
  ·have:(n==p.1)=false:=beq_eq_false_iff_ne.mpr λz=>h.1 (AD.mpr (DM (n,c) m' z))
   exact C9 this<|ih h.2 m'
structure q9(env:Env)(sc:CM):Prop where
 t1: ∀n,sc.names.lookup n=some .free→(Fc env sc.names).reverse.lookup n=env.cells.lookup n
 t2: ∀n c,(Fc env sc.names).reverse.lookup n=some c→env.cells.lookup n=some c
 t3:(Fc env sc.names).reverse.Pairwise λx y=>x.2≠y.2
theorem du{sc:CM}(hn:(sc.names.map (·.1)).Nodup)(hap:env.cells.Pairwise λx y=>x.2≠y.2)(h: ∀q∈sc.names,q.2= .free→(env.cells.lookup q.1).isSome=true):q9 env sc:=by
 have keys:((Fc env sc.names).map (·.1)).Nodup:=by
  have:(Fc env sc.names).map (·.1)=(sc.names.filter λq=>Ps q.2).map (·.1):=by
   unfold Fc;exact C9 Δ rfl
  refine C9 this ?_;exact List.Nodup.sublist (List.Sublist.map _ List.filter_sublist) hn
 have jh:((Fc env sc.names).reverse.map (·.1)).Nodup:=by exact C9 A5<|List.pairwise_reverse.mpr (keys.imp Ne.symm)
 have mem: ∀n c,(n,c)∈Fc env sc.names→env.cells.lookup n=some c:=by
  intro n c m;refine DQ (AD.mp m) λq hq e=> ?_;refine Dl (BL.mp hq) λq1 q2=> ?_;refine D3 (AV.mp (h q q1 (PY q2))) λa ha=> ?_;rw [ha] at e;have e1:q.1=n:=congrArg Prod.fst e;have e2:a=c:=congrArg Prod.snd e;exact Dr e1<|Dr e2 ha
 refine ⟨λn e=> ?_,λn c e=>mem n c (BY.mp (mem_of_lookup e)), ?_⟩
 ·have m:=mem_of_lookup e
  refine D3 (AV.mp (h _ m rfl)) λa ha=> ?_;refine C9 (show env.cells.lookup n=some a from ha) ?_;refine I0 jh (BY.mpr (AD.mpr (DM (n, .free) (BL.mpr ⟨m,rfl⟩) ?_)));dsimp only;exact C9 (show env.cells.lookup n=some a from ha) rfl
 ·have pw:(Fc env sc.names).reverse.Pairwise λx y=>x.1≠y.1:=List.pairwise_map.mp jh
  refine (List.Pairwise.and_mem.mp pw).imp λ{x y} ⟨hx,hy,ne⟩ z=>ne ?_;have h1:=mem_of_lookup (mem x.1 x.2 (BY.mp hx));have h2:=mem_of_lookup (mem y.1 y.2 (BY.mp hy));rw [←z] at h2;exact name_of_addr hap h1 h2
theorem xc{x:Nat}(hx:x<Fw.length):EQ (nm x) (".0" :Str)=false:=by
 have:((BW Fw.length).all λx=> !EQ (nm x) (".0" :Str))=true:=by decide+kernel
 have:=Au.mp this x (BA.mpr hx)
 rw [A8] at this;exact this
theorem IV{outer:Vw}{sc:CM}{p q:Nat}(ok:Fr outer sc p q=true){x:Str}{k:B0}(h:(x,k)∈sc.names):ci outer (VL p q) x k=true:=
 Au.mp (band (band ok).2).1 _ h
theorem Ml{sc:CM}{p q:Nat}(ok:Fr (vw env.scope) sc p q=true)(f:FS env): ∀q∈sc.names,q.2= .free→(env.cells.lookup q.1).isSome=true:=λq hq e=>f.cf q.1 (V0 (by
 have:=IV ok (x:=q.1) (k:= .free) (e▸hq)
 exact this))
theorem RR{sc:CM}{id:Str}(fE:vw sc id=some .loc):(Cn sc env).names.lookup id=some .local:=by
 unfold vw at fE;rcases IT sc env id with ⟨a,b⟩|⟨k,k',a,b,c⟩
 ·rw [a] at fE;exact DC fE
 ·rw [a] at fE;refine C9 b ?_
  cases k with
  |«local»=>rcases c with rfl|⟨c,_⟩;rfl;exact B0.noConfusion c
  |free=>exact absurd (η (show some NK.cf=some NK.loc from fE)) NK.noConfusion
  |cell=>exact absurd (η (show some NK.cf=some NK.loc from fE)) NK.noConfusion
  |globalImplicit=>exact absurd (η (show some NK.gl=some NK.loc from fE)) NK.noConfusion
  |_=>exact DC fE
inductive InB(y:St c)(sc:CM)(p q:Nat)(loc:Di)(m:Str→Option Bj)(a:Nat)(v:V):Prop
 |wU (h1:a∈VL p q) (h2:vw sc (nm a)=some .loc) (val:Bj) (h3:m (nm a)=some val) (h4:y.VV val v)
 |out (h1:a ∉ VL p q) (h2:DE loc a=some v)
theorem aG{sc:CM}{p q:Nat}{DG:Di}{C:Br}{m:Str→Option Bj}(ok:Fr (vw env.scope) sc p q=true)(f:FR env loc y)(hm:y.s.heap.Ns C m)(pc:y.hf C=none∧ ∀q∈y.ρ,q.2≠C)(c3: ∀n,env.cells.lookup n≠some C)
  (hp: ∀a∈VL p q,a<Fw.length) (hv: ∀a v,DE DG a=some v→a<Fw.length∧InB y sc p q loc m a v):
  FR (CS sc (Fc env sc.names).reverse C env) DG y:=by
 have hk:=Ml ok f.S;obtain ⟨t1,t2,t3⟩:=du (MW (band (band ok).2).2) f.S.apart hk;refine ⟨⟨Jo (band ok).1,f.S.glob,f.S.gX,t3,λn c e z=>c3 n ((t2 n c e).trans (congrArg some z)),λn e=> ?_⟩,λx v e=>(hv x v e).1,λx v e se=> ?_,(EG m hm),λn c e=>f.cell n c (t2 n c e),λb hb=> ?_⟩
 ·have e:vw (Cn sc env) n=some .cf:=e
  rw [Ie] at e;refine DA (x:=sc.names.lookup n) e λk h1 e=> ?_;cases k with
  |free=>show ((Fc env sc.names).reverse.lookup n).isSome=true;exact C9 (t1 n h1)<|hk _ (mem_of_lookup h1) rfl
  |cell=>exact ζ (IV ok (mem_of_lookup h1))
  |«local»=>exact absurd (η e) NK.noConfusion
  |globalImplicit=>exact absurd (η e) NK.noConfusion
  |_=>exact DC e
 ·have se:seen (vw (Cn sc env)) (nm x)=true:=se
  rw [Ie] at se;refine Dl (hv x v e) λlow hx=> ?_;cases hx with
  |wU h1 h2 val h3 h4=>exact (DM val (.inl (GR (RR h2) m hm h3)) h4)
  |out hnt hl=>
   unfold seen vw at se;rcases IT sc env (nm x) with ⟨a,b⟩|⟨k,k',a,b,cc⟩
   ·rw [a] at se;exact ζ se
   ·rw [a] at se
    have ky:=IV ok (mem_of_lookup a);cases k with
    |«local»=>
     have ky:(EQ (nm x) (".0" :Str)||(VL p q).any λy=>EQ (nm y) (nm x))=true:=ky;rw [xc low,Bool.false_or] at ky;refine DQ (List.any_eq_true.mp ky) λy hy z=> ?_;exact absurd (KL (hp y hy) low (EH z)▸hy) hnt
    |free=>
     have wX:=V0 ky;refine DQ (f.vals x v hl (by unfold seen;(exact C9 wX rfl))) λval N x9=> ?_;rcases N with ⟨q,_⟩|⟨q,c',vx,y9⟩
     ·unfold vw at wX
      unfold Env.kindOf at q;rw [q] at wX;exact absurd (η (show some NK.loc=some NK.cf from wX)) NK.noConfusion
     ·refine (DM val (.inr (GR ?_ c' ((t1 _ a).trans vx) y9)) x9)
      rcases cc with w|⟨_,w⟩
      ·exact .inr (w▸b)
      ·exact .inl (w▸b)
    |cell=>exact ζ ky
    |_=>exact ζ se
 ·rcases hb with rfl|⟨n,hb⟩
  ·exact pc
  ·exact f.Ee b (.inr (EG n (t2 n b hb)))
end
end
section
mutual open A
variable{c:Cx}{A:Bs}{s:Bl}{E:Bj→Bl→Prop}{x y z:St c}{env:Env}{loc:Di}{it:Bj}{l:List D}{i:Nat}{Dd C:Br}{o:Obj}{f:Ev}
theorem Le.TY{Z:Br→Prop}(l:Le x y)(hZ: ∀b,Z b→x.s.heap.get? b=none){s':Bl}(k: ∀b o,¬Z b→y.s.heap.get? b=some o→s'.heap.get? b=some o)(sm:GB y.s s')(R:F5 c y.hf y.ρ y.σ s'.heap):Le x ⟨y.hf,y.ρ,y.σ,s',R⟩:=
 ⟨⟨l.nx.kf,l.nx.Jg,λb o e n=>k b o (λz=>DC ((hZ b z).symm.trans e)) (l.nx.Ee b o e n),l.nx.FA,l.nx.EE⟩,l.sm.trans sm⟩
structure CE(x:St c)(Dd C:Br)(o:Obj)(y:St c):Prop where
 le:Le x y
 nD:x.s.heap.get? Dd=none
 nC:x.s.heap.get? C=none
 ne:Dd≠C
 pD:y.hf Dd=none∧ ∀p∈y.ρ,p.2≠Dd
 pC:y.hf C=none∧ ∀p∈y.ρ,p.2≠C
 d:y.s.heap.get? Dd=some o
 ns: ∃m,y.s.heap.Ns C m
structure CT(x:St c)(it:Bj)(l:List D)(Dd C:Br)(o:Obj)(i:Nat)(y:St c):Prop where
 b:CE x Dd C o y
 w:EP c (λb=>x.s.heap.get? b=none∧ ¬(b=Dd∨b=C)) y.hf y.ρ it l i y.s.heap
theorem cj{h h':Bz}{C:Br}(x: ∃m,h.Ns C m)(k: ∀o,h.get? C=some o→h'.get? C=some o): ∃m,h'.Ns C m:=
 Jn x λm o es ep ho r=>(Px m o es ep (k o ho) r)
theorem CE.on(t:CE x Dd C o y)(m:Le y z):CE x Dd C o z:=by
 refine wr λZ0 z0=> ?_;refine ET (m.own t.d t.pD.1 t.pD.2) λd1 d2 d3=> ?_;refine Jn t.ns λmm oC es ep hC r=> ?_;refine ET (m.own hC t.pC.1 t.pC.2) λc1 c2 c3=> ?_;refine z0 ?_;exact ⟨t.le.trans m,t.nD,t.nC,t.ne,⟨d1,d2⟩,⟨c1,c2⟩,d3,mm,oC,es,ep,c3,r⟩
theorem CT.on(t:CT x it l Dd C o i y)(m:Le y z):CT x it l Dd C o i z:=⟨t.b.on m,t.w.Jz y.R m.nx z.R⟩
theorem CE.put(t:CE x Dd C o y){s':Bl}(k: ∀b o,b≠Dd→y.s.heap.get? b=some o→s'.heap.get? b=some o){o':Obj}(d:s'.heap.get? Dd=some o')(sm:GB y.s s'):CE x Dd C o' ⟨y.hf,y.ρ,y.σ,s',y.off t.pD.1 t.pD.2 k⟩:=
 ⟨t.le.TY (Z:=λb=>b=Dd) (λb z=>z▸t.nD) k sm _,t.nD,t.nC,t.ne,t.pD,t.pC,d,cj t.ns λo e=>k C o (Ne.symm t.ne) e⟩
theorem CT.put(t:CT x it l Dd C o i y){s':Bl}(k: ∀b o,b≠Dd→y.s.heap.get? b=some o→s'.heap.get? b=some o){o':Obj}(d:s'.heap.get? Dd=some o')(sm:GB y.s s'):CT x it l Dd C o' i ⟨y.hf,y.ρ,y.σ,s',y.off t.b.pD.1 t.b.pD.2 k⟩:=
 ⟨t.b.put k d sm,t.w.other (S:=Dd) k t.b.pD.1 λz=>z.2 (.inl rfl)⟩
theorem Wb{Q:Option Bj→Bl→Prop}(hh:A.handled=none)(t:CT x it l Dd C o l.length y)(h: ∀z:St c,CE x Dd C o z→z.σ=y.σ→((∀b o,y.hf b=some o→z.hf b=some o)∧ ∀(i:Nat) p,y.ρ[i]?=some p→z.ρ[i]?=some p)→Q none z.s):Bp (Bq c.prog c.w) A (pyNext it) Q E y.s:=
 t.w.done hh λs' R k sm=>h ⟨y.hf,y.ρ,y.σ,s',R⟩ ⟨t.b.le.TY (λb z=>z.1) k sm R,t.b.nD,t.b.nC,t.b.ne,t.b.pD,t.b.pC,k Dd _ (λz=>z.2 (.inl rfl)) t.b.d,cj t.b.ns λo e=>k C o (λz=>z.2 (.inr rfl)) e⟩ rfl ⟨λO O h=>h,λO O h=>h⟩
set_option genInjectivity false in
set_option genSizeOf false in
set_option genSizeOfSpec false in
structure Wx where
 t:Nat
 s:Str
 p:Pos
 a:Expr
 b:Expr
 d:Expr
 l:List Expr
 n:Nat
 k:Const
 u:UnaryOp
 o:Operator
 bo:BoolOp
 cs:List C4
 ks:List (Option Expr)
 gs:List B6
 sc:CM
 x:Option Expr
 y:Option Expr
 z:Option Expr
 kw:List Keyword
def wx(e:Expr):Wx:=match e with
 | .Name s p=>⟨1,s,p,e,e,e, [],0, .none, .Not, .Pow, .And, [], [], [],default,none,none,none, []⟩
 | .Tuple l n p=>⟨2, "",p,e,e,e,l,n, .none, .Not, .Pow, .And, [], [], [],default,none,none,none, []⟩
 | .Constant k n p=>⟨3, "",p,e,e,e, [],n,k, .Not, .Pow, .And, [], [], [],default,none,none,none, []⟩
 | .UnaryOp u a p=>⟨4, "",p,a,e,e, [],0, .none,u, .Pow, .And, [], [], [],default,none,none,none, []⟩
 | .BinOp a o b p=>⟨5, "",p,a,b,e, [],0, .none, .Not,o, .And, [], [], [],default,none,none,none, []⟩
 | .Attribute a s p=>⟨6,s,p,a,e,e, [],0, .none, .Not, .Pow, .And, [], [], [],default,none,none,none, []⟩
 | .Subscript a b p=>⟨7, "",p,a,b,e, [],0, .none, .Not, .Pow, .And, [], [], [],default,none,none,none, []⟩
 | .Slice x y z p=>⟨8, "",p,e,e,e, [],0, .none, .Not, .Pow, .And, [], [], [],default,x,y,z, []⟩
 | .Compare a cs l p=>⟨9, "",p,a,e,e,l,0, .none, .Not, .Pow, .And,cs, [], [],default,none,none,none, []⟩
 | .BoolOp bo l p=>⟨10, "",p,e,e,e,l,0, .none, .Not, .Pow,bo, [], [], [],default,none,none,none, []⟩
 | .IfExp a b d p=>⟨11, "",p,a,b,d, [],0, .none, .Not, .Pow, .And, [], [], [],default,none,none,none, []⟩
 | .List l p=>⟨12, "",p,e,e,e,l,0, .none, .Not, .Pow, .And, [], [], [],default,none,none,none, []⟩
 | .Dict ks l p=>⟨13, "",p,e,e,e,l,0, .none, .Not, .Pow, .And, [],ks, [],default,none,none,none, []⟩
 | .Call a l kw p=>⟨14, "",p,a,e,e,l,0, .none, .Not, .Pow, .And, [], [], [],default,none,none,none,kw⟩
 | .ListComp a gs sc p=>⟨15, "",p,a,e,e, [],0, .none, .Not, .Pow, .And, [], [],gs,sc,none,none,none, []⟩
 | .DictComp a b gs sc p=>⟨16, "",p,a,b,e, [],0, .none, .Not, .Pow, .And, [], [],gs,sc,none,none,none, []⟩
 |_=>⟨0, "",default,e,e,e, [],0, .none, .Not, .Pow, .And, [], [], [],default,none,none,none, []⟩
def unW(t:Nat)(w:Wx):Expr:=cond (μ t 1) (.Name w.s w.p) (cond (μ t 2) (.Tuple w.l w.n w.p) (cond (μ t 3) (.Constant w.k w.n w.p) (cond (μ t 4) (.UnaryOp w.u w.a w.p) (cond (μ t 5) (.BinOp w.a w.o w.b w.p) (cond (μ t 6) (.Attribute w.a w.s w.p) (cond (μ t 7) (.Subscript w.a w.b w.p) (cond (μ t 8) (.Slice w.x w.y w.z w.p) (cond (μ t 9) (.Compare w.a w.cs w.l w.p) (cond (μ t 10) (.BoolOp w.bo w.l w.p) (cond (μ t 11) (.IfExp w.a w.b w.d w.p) (cond (μ t 12) (.List w.l w.p) (cond (μ t 13) (.Dict w.ks w.l w.p) (cond (μ t 14) (.Call w.a w.l w.kw w.p) (cond (μ t 15) (.ListComp w.a w.gs w.sc w.p) (cond (μ t 16) (.DictComp w.a w.b w.gs w.sc w.p) w.a)))))))))))))))
theorem vJ(e:Expr):unW (wx e).t (wx e)=e:=by cases e<;>rfl
def oX{α:Type}(t:Nat)(f:Wx→α)(e:Expr):Option α:=cond (μ (wx e).t t) (some (f (wx e))) none
theorem Ep{α:Type}{t:Nat}{f:Wx→α}{e:Expr}{k:α}{P:Prop}(h:oX t f e=some k)(g: ∀w,e=unW t w→k=f w→P):P:=by
 unfold oX at h;cases q:μ (wx e).t t with
 |false=>rw [q] at h;exact DC h
 |true=>rw [q] at h;exact g (wx e) (AO q▸(vJ e).symm) (η h).symm
def MJ:Expr→Option Str:=oX 1 (·.s)
def H0:Expr→Option (List Expr):=oX 2 (·.l)
theorem Eh{e:Expr}{id:Str}(h:MJ e=some id): ∃p,e= .Name id p:=Ep h λw a b=>(EG w.p (b▸a))
theorem Gl{e:Expr}{l:List Expr}(h:H0 e=some l): ∃q p,e= .Tuple l q p:=Ep h λw a b=>(TM w.n w.p (b▸a))
def uO:List Expr→Option (Expr×Expr)
 | [a,b]=>some (a,b)
 |_=>none
theorem Ya{l:List Expr}{p:Expr×Expr}(h:uO l=some p):l= [p.1,p.2]:=by
 cases l with
 |nil=>exact DC h
 |cons a l=>cases l with
  |nil=>exact DC h
  |cons b l=>cases l with
   |nil=>(exact Dr (η h) rfl)
   |cons=>exact DC h
def VK(sc:Vw)(x:Nat)(id:Str):Bool:=EQ id (nm x)&&(Μ x Fw.length&&eW (sc (nm x)))
def Oz(sc:Vw)(x y:Nat)(e:Expr):Bool:=match y with
 |0=>oB (MJ e) (VK sc x)
 |_=>oB (H0 e) λl=>oB (uO l) λp=>oB (MJ p.1) λi=>oB (MJ p.2) λj=>VK sc x i&&(VK sc y j&& !μ x y)
theorem Jf{sc:Vw}{x:Nat}{id:Str}(h:VK sc x id=true):id=nm x∧x<Fw.length∧sc (nm x)=some .loc:=
 ⟨EH (band h).1,Ds.mp (band (band h).2).1,Yc (band (band h).2).2⟩
theorem ai{sc:Vw}{x y:Nat}{e:Expr}(h:Oz sc x y e=true): ∀a∈VL x y,a<Fw.length:=by
 cases y with
 |zero=>exact DL (f:=VK sc x) h λid O h2 a ha=>ς.mp ha▸(Jf h2).2.1
 |succ y=>exact DL (x:=H0 e) h λl O h=>DL h λp O h=>DL h λi O h=>DL h λj O h a ha=>(ν.mp ha).elim (λw=>w▸(Jf (band h).1).2.1) λw=>ς.mp w▸(Jf (band (band h).2).1).2.1
theorem Xi{a b:Nat}{d:D}{DG:Di}(e:MR a (b+1) d loc=some DG): ∃u v,d= .nd .tup [u,v]∧DG=(b+1, .d v)::(a, .d u)::loc:=by
 cases d with
 |nd h m=>cases h with
  |tup=>cases m with
   |nil=>exact DC e
   |cons u m=>cases m with
    |nil=>exact DC e
    |cons v m=>cases m with
     |nil=>exact (Gp u v rfl ((η e).symm))
     |cons=>exact DC e
  |_=>exact DC e
 |_=>exact DC e
theorem dQ{KK:Env}{sc:CM}{p q:Nat}{target:Expr}{v:Bj}{d:D}{DG:Di}{m:Str→Option Bj}{Q:Unit→Bl→Prop}(hC:KK.locals=C)(hk:KK.scope.kind= .function)(hl: ∀id,vw sc id=some .loc→KK.kindOf id=some .local)(hh:A.handled=none)(low: ∀a v,DE loc a=some v→a<Fw.length)
  (ok:Oz (vw sc) p q target=true) (hm:y.s.heap.Ns C m) (pc:y.hf C=none∧ ∀q∈y.ρ,q.2≠C) (hv:DV c y.hf v d) (e:MR p q d loc=some DG)
  (h: ∀s' (R:F5 c y.hf y.ρ y.σ s'.heap) m',(∀b o,b≠C→y.s.heap.get? b=some o→s'.heap.get? b=some o)→s'.heap.Ns C m'→(∀a v,DE DG a=some v→a<Fw.length∧InB ⟨y.hf,y.ρ,y.σ,s',R⟩ sc p q loc m' a v)→GB y.s s'→Q () s'):Bp (Bq c.prog c.w) A (assign target KK v) Q E y.s:=by
 have ya:(KK.scope.kind== .class||(KK.scope.kind== .module&&KK.locals !=KK.globals))=false:=by exact C9 hk rfl
 cases q with
 |zero=>
  refine DL (f:=VK (vw sc) p) ok λid h1 h2=> ?_;refine D3 (Eh h1) λpos Ff=> ?_;subst Ff;refine ET (Jf h2) λw hn hq=> ?_;rw [w,←η (show some _=some DG from e)] at*;refine B5 (CG (hl _ hq) (hC▸hm) (λh' pz hs=> ?_) ya);rw [hC] at pz hs;have k: ∀b o,b≠C→y.s.heap.get? b=some o→h'.get? b=some o:=λb o hb e=>(hs.2 b hb).trans e;refine h _ (y.off pc.1 pc.2 k) _ k pz (λa u hx=>E6 hx (λhb hx=> ?_) λhb hx=> ?_) ⟨rfl,rfl,rfl⟩
  ·refine Dr (nb hb)<|Dr (η hx) ?_
   exact ⟨hn, .wU (.head _) hq v (if_pos rfl) hv⟩
  ·exact ⟨low a u hx, .out (λog=>by rw [ς.mp og,AH] at hb;exact ζ hb) hx⟩
 |succ q=>
  refine DL (x:=H0 target) ok λl h1 okA=>DL okA λpr h2 Oq=>DL Oq λi h3 okC=>DL okC λj h4 okD=> ?_;refine HY (Gl h1) λq0 pos Gx=> ?_;subst Gx;refine C9 (Ya h2) ?_;refine wr λZ0 z0=> ?_;refine D3 (Eh h3) λpi wi=> ?_;refine D3 (Eh h4) λpj wj=> ?_;refine GE (Xi e) λa b wd wl=> ?_;refine Dl (band okD) λG2 okE=> ?_;refine Dl (band okE) λJ0 ne=> ?_;refine ET (Jf G2) λw1 hn hq=> ?_;refine ET (Jf J0) λw2 qD hq'=> ?_;refine z0 ?_;have ne:p≠q+1:=λz=>by rw [z,AH] at ne;exact ζ ne
  refine C9 wi<|C9 wj<|C9 w1<|C9 w2 ?_
  rw [wl] at h;rw [wd] at hv;obtain ⟨pp,o,vs,rfl,g,⟨s1,s2,n,rfl⟩,Hr⟩:=hv.shape;cases Hr with
  | @cons va _ D4 _ ha h3=>cases h3 with
   | @cons vb _ uo _ hb h3=>
    cases h3;have ht:y.s.heap.IsTuple pp.1 #[va,vb]:=(JS _ (s1▸y.R.keep _ _ g) rfl n rfl);refine wpAny_assign_Tuple hh ht rfl rfl λh' hx=> ?_;have kx: ∀b o,y.s.heap.get? b=some o→h'.get? b=some o:=λb o e=>hx b o (AW (Ad e)) e;show Bp _ _ (do C6 [vb] (assign (.Name (nm p) pi) KK va);do C6 [] (assign (.Name (nm (q+1)) pj) KK vb);pure ()) _ _ _;refine Bk (Bt (B5 (CG (hl _ hq) (hC▸hm.keeps kx) (λTa u7 kL=> ?_) ya)));refine Bk (Bt (B5 (CG (hl _ hq') u7 (λUL SH kJ=> ?_) ya)));rw [hC] at SH kJ kL;have k: ∀b o,b≠C→y.s.heap.get? b=some o→UL.get? b=some o:=λb o hb e=>(kJ.2 b hb).trans ((kL.2 b hb).trans (kx b o e));refine Bn (h _ (y.off pc.1 pc.2 k) _ k SH (λx u hx=>E6 hx (λOj hx=> ?_) λv7 hx=>E6 hx (λOj hx=> ?_) λZy hx=> ?_) ⟨rfl,rfl,rfl⟩)
    ·refine Dr (nb Oj)<|Dr (η hx) ?_
     exact ⟨qD, .wU (.tail _ (.head _)) hq' vb (if_pos rfl) hb⟩
    ·refine Dr (nb Oj)<|Dr (η hx) ?_
     exact ⟨hn, .wU (.head _) hq va ((if_neg λz=>ne (KL hn qD z)).trans (if_pos rfl)) ha⟩
    ·refine ⟨low x u hx, .out (λog=> ?_) hx⟩
     rcases ν.mp og with z|z
     ·rw [z,AH] at Zy;exact ζ Zy
     ·rw [ς.mp z,AH] at v7;exact ζ v7
theorem Wr{E1:Bj→Bl→Prop}{sc:CM}{p q:Nat}{target:Expr}{d:D}{DG:Di}{R1:Option Bj→Bl→Prop}{T:Bl→Prop}(hh:A.handled=none)(t:CT x it l Dd C o i y)(fr:FR env loc x)(G2:Fr (vw env.scope) sc p q=true)(J0:Oz (vw sc) p q target=true)(hx:l[i]?=some d)(eb:MR p q d loc=some DG)
  (h1: ∀v D6,EP c (λb=>x.s.heap.get? b=none∧ ¬(b=Dd∨b=C)) y.hf y.ρ it l (i+1) D6.heap→Bp (Bq c.prog c.w) A (assign target (CS sc (Fc env sc.names).reverse C env) v) (λO=>T) E1 D6→R1 (some v) D6)
  (h2: ∀z:St c,CT x it l Dd C o (i+1) z→z.σ=y.σ→((∀b o,y.hf b=some o→z.hf b=some o)∧ ∀(i:Nat) p,y.ρ[i]?=some p→z.ρ[i]?=some p)→FR (CS sc (Fc env sc.names).reverse C env) DG z→T z.s):Bp (Bq c.prog c.w) A (pyNext it) R1 E y.s:=by
 refine t.w.item hh hx λv D6 M5 hv bP k₁ SZ=>h1 v D6 bP ?_;have On:=t.b.le.TY (λb z=>z.1) k₁ SZ M5;have fD: ¬(x.s.heap.get? Dd=none∧ ¬(Dd=Dd∨Dd=C)):=λz=>z.2 (.inl rfl);have fC: ¬(x.s.heap.get? C=none∧ ¬(C=Dd∨C=C)):=λz=>z.2 (.inr rfl);refine D3 (cj t.b.ns λo=>k₁ C o fC) λmC hmC=> ?_;refine dQ (y:=⟨y.hf,y.ρ,y.σ,D6,M5⟩) (C:=C) (sc:=sc) rfl (Jo (band G2).1) (λid fE=>RR fE) hh fr.low J0 hmC t.b.pC hv eb λEj KR m₂ k₂ SH hb rJ=> ?_;have Id:Le x ⟨y.hf,y.ρ,y.σ,Ej,KR⟩:=On.TY (Z:=λb=>b=C) (λb z=>z▸t.b.nC) k₂ rJ KR;refine h2 ⟨y.hf,y.ρ,y.σ,Ej,KR⟩ ⟨⟨Id,t.b.nD,t.b.nC,t.b.ne,t.b.pD,t.b.pC,k₂ Dd _ t.b.ne (k₁ Dd _ fD t.b.d),_,SH⟩,bP.other (S:=C) k₂ t.b.pC.1 fC⟩ rfl ⟨λO O h=>h,λO O h=>h⟩ (aG G2 (fr.Jz Id) SH t.b.pC (λn z=> ?_) (ai J0) hb);refine GE (fr.cell n C z) λv o ho O=> ?_;exact DC (t.b.nC.symm.trans ho)
end
end
section
mutual open A
variable{c:Cx}{A:Bs}{s:Bl}{E:Bj→Bl→Prop}{x y z:St c}{env:Env}{loc:Di}{it:Bj}{l:List D}{i:Nat}{Dd C:Br}{o:Obj}{f g:Ev}{oe:EJ}{os:List EJ}{fs:List Ev}{sc:CM}{p q:Nat}{target iter:Expr}{pos:Pos}{fi:ef}
def Q5(ifs:List Expr)(env:Env):Sem Bool:=forIn ifs true λc r=>if r=true then do let ok←isTrue c env (eval c env);pure (ForInStep.yield ok) else pure (ForInStep.yield r)
theorem Xx{elt target iter:Expr}{ifs:List Expr}{scope:CM}{pos:Pos}{it acc:Bj}{env:Env}{R:C8→Bl→Prop}(I:Nat→Bl→Prop)
  (turn: ∀n s,I n s→Bp (Bq c.prog c.w) A (pyNext it) (λr D6=>match r with
   |none=>R (.ok .next) D6
   |some v=>Bp (Bq c.prog c.w) A (Cp target it v) (λO D6=>Bp (Bq c.prog c.w) A (assign target env v) (λO Ej=>
     Bp (Bq c.prog c.w) A (Q5 ifs env) (λok G7=>if ok=true then Bp (Bq c.prog c.w) A (eval elt env) (λx OB=>Bp (Bq c.prog c.w) A (PySem.call (.builtin "list.append") [acc,x]) (λO sP=> ∃m,m<n∧I m sP) Dq OB) Dq G7
      else∃m,m<n∧I m G7) Dq Ej) Dq D6) Dq D6) Dq s)
  (n:Nat) (h:I n s):Ci (Bq c.prog c.w) A (.compLoop (.ListComp elt [⟨target,iter,ifs,0⟩] scope pos) 0 it acc env) R s:=by
 refine codeAny_loop rfl I (λn s hI=> ?_) n h;show Bp _ A ((compTurn (.ListComp elt [⟨target,iter,ifs,0⟩] scope pos) 0 it acc env).onRaise (λx=>do noteFrame x env;theTreesLotGoes x)) _ _ s;refine wpAny_noted ?_;refine C9 (compTurn_list _ _ _ _ _ _ _ _ _) ?_;refine Bk (Bv (Bk (Bu (turn n s hI) (λr D6 Ta=> ?_) λO O x=>x.elim)));cases r with
 |none=>exact Bn Ta
 |some v=>
  refine Bk (Bu Ta (λO D6 Ta=>Bk (Bu Ta (λO Ej UL=>Bk (Bu UL (λok G7 Yf=> ?_) λO O x=>x.elim)) λO O x=>x.elim)) λO O x=>x.elim);cases ok with
  |false=>
   rw [if_neg (by decide)] at Yf;exact Bn ⟨rfl,Yf⟩
  |true=>
   rw [if_pos rfl] at Yf;refine Bk (Bk (Bu Yf (λx OB xQ=>Bk (Bu xQ (λO sP xn=>Bn (Bn ⟨rfl,xn⟩)) λO O x=>x.elim)) λO O x=>x.elim))
theorem SW(env:Env){Q:Bool→Bl→Prop}{s:Bl}(es:List Expr)(h:Q false s):Bp (Bq c.prog c.w) A (forIn es false λc r=>if r=true then do let ok←isTrue c env (eval c env);pure (ForInStep.yield ok) else pure (ForInStep.yield r)) Q E s:=by
 induction es with
 |nil=>exact Bn h
 |cons x r ih=>
  refine C9 (BK _ _ _ _)<|C9 (if_neg (by decide)) ?_
  exact Bk (Bn ih)
theorem gQ{os:List EJ}{fs:List Ev}(H:F0 c A os fs): ∀{es:List Expr} {x:St c} {b:Bool} {DT:Store} {Q:Bool→Bl→Prop},LZ (vw env.scope) os es=true→FR env loc x→dP fs loc x.σ=some (b,DT)→Did x DT (Q b)→Bp (Bq c.prog c.w) A (Q5 es env) Q Dq x.s:=by
 induction H with
 |nil=>
  intro es x b DT Q ok fr ev k;refine C9 (Jh ok) ?_;revert k;refine NE (show some (true,x.σ)=some (b,DT) from ev) ?_;intro k;exact Bn (k x (.refl x) rfl)
 | @cons o f os fs H1 _ ih=>
  intro es x b DT Q ok fr ev k;refine D0 (H8 ok) λe r w h1 h2=> ?_;refine C9 w ?_;unfold Q5;refine C9 (BK _ _ _ _)<|C9 (if_pos rfl) ?_
  refine DP ev λv DD e1 ev=>DA ev λb' e2 ev=>Bk (Bk ((H1 h1 fr).2.run e1 (b:=b') (by exact C9 (Kk e2) rfl) λy l ey=> ?_));refine Bn ?_;cases b' with
  |true=>exact ih h2 (fr.Jz l) (ey.symm▸ev) (k.after l)
  |false=>
   revert k;refine NE (show some (false,DD)=some (b,DT) from ev) ?_;intro k;exact SW env r (k y l ey)
theorem Up{us:List Bj}{n:Nat}{v:Bj}{Q:Bj→Bl→Prop}(hd:s.heap.get? Dd=some (E0 us n))(hb:us.length<big)(h: ∀h' m,Bz.SameBut Dd s.heap h'→h'.get? Dd=some (E0 (us++ [v]) m)→Q .none {s with heap:=h',toks:=s.toks}):
  Bp (Bq c.prog c.w) A (PySem.call (.builtin "list.append") [.ref Dd,v]) Q E s:=by
 refine Ch PySem.F.slot_list_append (DM _ hd rfl) PySem.F.entry_list_append (PySem.F.args_list_append_2 _ _) (list_append Dd us.toArray n v (by refine C9 Ν<|C9 Bw ?_;unfold big at hb;exact QB hb rfl)) ⟨hd, ?_⟩;have this:=IsL.update (hd:IsL s.heap Dd us.toArray n) (λx=>x.push v);rw [List.push_toArray] at this;exact h _ _ (Bz.SameBut.update ..) this
structure CI(x:St c)(it:Bj)(l:List D)(F:D→Store→Option (Option V×Store))(vs:List V)(DK:Store)(Dd C:Br)(n:Nat)(s:Bl)(i:Nat)(y:St c)(us:List Bj)(m:Nat)(vd vr:List V):Prop where
 hi:i≤l.length
 hn:n=l.length - i
 hs:s=y.s
 t:CT x it l Dd C (E0 us m) i y
 e:EB F (l.drop i) y.σ=some (vr,DK)
 w:vs=vd++vr
 hv:y.GC us vd
 hb:us.length≤i
theorem dA{α:Type}{F:D→Store→Option (Option α×Store)}{d:D}{dl:List D}{σ DK:Store}{vr:List α}{P:Prop}(e:EB F (d::dl) σ=some (vr,DK))(k: ∀ov Dy e8,F d σ=some (ov,Dy)→EB F dl Dy=some (e8,DK)→vr=ov.toList++e8→P):P:=DP e λov Dy e1 e=>DP e λe8 tf e2 e=>by
 have w:(ov.toList++e8,tf)=(vr,DK):=η e;exact k ov Dy e8 e1 (e2.trans (congrArg (λz=>some (e8,z)) (congrArg Prod.snd w))) (congrArg Prod.fst w).symm
theorem WW{α:Type}{F:D→Store→Option (Option α×Store)}{σ DK:Store}{vr:List α}(e:EB F [] σ=some (vr,DK)):vr= []∧σ=DK:=
 have w:(([]:List α),σ)=(vr,DK):=η e
 ⟨(congrArg Prod.fst w).symm,congrArg Prod.snd w⟩
theorem ma{p q:Nat}{f:Ev}{fs:List Ev}{loc:Di}{d:D}{σ Dy:Store}{ov:Option V}{P:Prop}(e:Fz p q f fs loc d σ=some (ov,Dy))(k: ∀DG b HN,MR p q d loc=some DG→dP fs DG σ=some (b,HN)→(b=false→ov=none∧HN=Dy)→(b=true→ ∃v,f DG HN=some (v,Dy)∧ov=some v)→P):P:=DA (x:=MR p q d loc) e λDG eb e1=>DP e1 λb HN e3 e1=>by
 cases b with
 |false=>
  have w:((none:Option V),HN)=(ov,Dy):=η e1;exact k DG false HN eb e3 (λO=>⟨(congrArg Prod.fst w).symm,congrArg Prod.snd w⟩) (λh=>ζ h)
 |true=>
  refine DP (x:=f DG HN) e1 λvv dm e4 e1=> ?_;have w:(some vv,dm)=(ov,Dy):=η e1;exact k DG true HN eb e3 (λh=>ζ h) (λO=>(DM vv (e4.trans (congrArg (λz=>some (vv,z)) (congrArg Prod.snd w))) ((congrArg Prod.fst w).symm)))
theorem To{TL:List Expr}{elt:Expr}{vs:List V}{DK:Store}{R:C8→Bl→Prop}(He:Db c A oe f)(Hi:F0 c A os fs)(hh:A.handled=none)(fr:FR env loc x)(G2:Fr (vw env.scope) sc p q=true)(J0:Oz (vw sc) p q target=true)(jB:LZ (vw sc) os TL=true)(S7:oe (vw sc) elt=true)(Eb:l.length≤big)
  (t:CT x it l Dd C (E0 [] 0) 0 y) (e:EB (Fz p q f fs loc) l y.σ=some (vs,DK)) (fin: ∀(y:St c) us n,CE x Dd C (E0 us n) y→y.σ=DK→y.GC us vs→us.length≤big→R (.ok .next) y.s):
  Ci (Bq c.prog c.w) A (.compLoop (.ListComp elt [⟨target,iter,TL,0⟩] sc pos) 0 it (.ref Dd) (CS sc (Fc env sc.names).reverse C env)) R y.s:=by
 refine wt2 (λn s=> ∃i y us m vd vr,CI x it l (Fz p q f fs loc) vs DK Dd C n s i y us m vd vr) λI di mi=> ?_;refine Xx I (λn s I=> ?_) l.length (mi _ _ ⟨0,y, [],0, [],vs,AT _,rfl,rfl,t,e,rfl, .nil,Ι _⟩);clear t e;obtain ⟨i,y,us,m,vd,vr,hi,hn,hs,t,e,w,hv,hb⟩:=di _ _ I;clear I;refine C9 hs ?_;have vk:vw (CS sc (Fc env sc.names).reverse C env).scope=vw sc:=Ie sc env;rcases Nat.lt_or_ge i l.length with lt|ge
 ·rw [Av lt] at e
  refine dA e λov Dy e8 e1 e2 wv=>ma e1 λDG b HN eb e3 hf ht=> ?_;clear e e1;refine Wr hh t fr G2 J0 (Τ lt) eb (λv D6 w h=>ST w h) λz tz ez up fz=> ?_;refine gQ Hi (by exact C9 vk jB) fz (ez.symm▸e3) λz' lz ez'=> ?_;have tz':=tz.on lz;have dec:l.length - (i+1)<n:=hn▸Ba _ _ lt;have fB:z'.GC us vd:=GC.le (x:=z) (hv.Mi up.1 up.2) lz;cases b with
  |false=>
   exact ⟨_,dec,mi _ _ ⟨i+1,z',us,m,vd,e8,lt,rfl,rfl,tz',(ez'.trans (hf rfl).2).symm▸e2,w.trans (by exact C9 wv<|C9 ((hf rfl).1) rfl),fB,Az hb⟩⟩
  |true=>
   refine DQ (ht rfl) λvv e4 o1=> ?_;refine C9 (if_pos rfl) ?_;refine (He (by exact C9 vk S7) (fz.Jz lz)).1.run (ez'.symm▸e4) λval RZ Id VI x9=> ?_;have aS:=tz'.on Id;refine Up aS.b.d (Ρ hb (AQ lt Eb)) λh' m' bj ZP=> ?_;exact ⟨_,dec,mi _ _ ⟨i+1,_,us++ [val],m',vd++ [vv],e8,lt,rfl,rfl,aS.put (s':={RZ.s with heap:=h',toks:=RZ.s.toks}) (λb o n e=>(bj.2 b n).trans e) ZP ⟨rfl,rfl,rfl⟩,VI.symm▸e2,w.trans (by exact C9 wv<|C9 o1<|(π vd [vv] e8).symm),(GC.le fB Id).append (.cons x9 .nil),by exact C9 ε<|Κ hb⟩⟩
 ·have kT:=Aq hi ge
  rw [kT,List.drop_length] at e;rw [kT] at t hb;have n:=WW e;exact Wb hh t λz ce ez up=>fin z us m ce (ez.trans n.2) (by exact C9 w<|C9 n.1<|C9 (υ _)<|hv.Mi up.1 up.2) (Υ hb Eb)
theorem MM{h:Bz}{b:Br}(hb:h.objs.size≤b):h.get? b=none:=by
 cases e:h.get? b with
 |none=>rfl
 |some o=>exact absurd (Ad e) (Nat.not_lt.mpr hb)
theorem Ve{Q:Env→Bl→Prop}(yf:o.isFreed=false)(G2:Fr (vw env.scope) sc p q=true)
  (h: ∀s',(∀b o,s.heap.get? b=some o→s'.heap.get? b=some o)→s'.heap.get? s.heap.objs.size=some o→(∃m,s'.heap.Ns (s.heap.objs.size+1) m)→GB s s'→ ∀KK:Env,{KK with scope:=Cn sc env}=CS sc (Fc env sc.names).reverse (s.heap.objs.size+1) env→KK.locals=s.heap.objs.size+1→Q KK s'):
  Bp (Bq c.prog c.w) A (newFunctionEnv sc env.globals (Fc env sc.names).reverse [] env.qual none .none (some env)) Q E {s with heap:=s.heap.push o}:=by
 refine wpAny_newFunctionEnv (λx hx z=> ?_) (λx hx=>absurd hx Γ) (λh' wE xf=> ?_) (Jo (band G2).1)
 ·exact ζ (IV G2 (x:=x.1) (k:= .cell) (z▸hx))
 ·have e:({s with heap:=s.heap.push o}:Bl).heap.objs.size=s.heap.objs.size+1:=Bg ..
  rw [e] at wE xf ⊢;exact h {s with heap:=h',toks:=s.toks+([]:List (Str×Bj)).length} (λb o' eb=>(xf.2 b (AW (A7 (Ad eb)))).trans (Β _ (Β _ eb))) ((xf.2 _ (AW (AF _))).trans (Β _ (Ξ _ yf))) (EG _ wE) ⟨rfl,rfl,rfl⟩ _ rfl rfl
theorem Na{expr:Expr}{g:B6}{gs:List B6}{bT:Sem Bj}{use:Option (Bj→Sem Unit)}{DD:Store}{Q:Bj→Bl→Prop}(zN:clausesOf expr=g::gs)(hs: ∀v,CH g.iter env v=pure v)(I:ZX A env loc x fi iter)(fr:FR env loc x)(G2:Fr (vw env.scope) sc p q=true)(yf:o.isFreed=false)
  (Xl: ∀{Q':Bj→Bl→Prop} {s:Bl},Q' (.ref s.heap.objs.size) {s with heap:=s.heap.push o}→Bp (Bq c.prog c.w) A bT Q' Dq s) (e1:fi loc x.σ=some (l,DD))
  (go: ∀it Dd C (y:St c),CT x it l Dd C o 0 y→y.σ=DD→l.length≤big→Ci (Bq c.prog c.w) A (.compStart expr 0 it (.ref Dd) (CS sc (Fc env sc.names).reverse C env)) (C0 (Bq c.prog c.w) A Dq use Q (.ref Dd) C) y.s):
  Bp (Bq c.prog c.w) A (Cr expr sc env pos bT false (eval iter env) use) Q Dq x.s:=by
 refine wpAny_comprehension_free zN hs (Ov (Ml G2 fr.S)) (Jo (band G2).1) (λx hx e=>I0 (MW (band (band G2).2).2) (e▸hx)) ?_;refine I.run e1 λitv y l ey W Eb=>Xl (Ve (p:=p) (q:=q) yf G2 λs' kp hd wE sm KK hce zN=> ?_);refine C9 hce<|C9 zN ?_
 have n1:=Dc y.s.heap;have n2:=MM (h:=y.s.heap) (Ac y.s.heap.objs.size);have m:Le y ⟨y.hf,y.ρ,y.σ,s',y.R.Ei λb o e O=>kp b o e⟩:=⟨F7 _ _ kp,sm⟩
 have back: ∀b,y.s.heap.get? b=none→x.s.heap.get? b=none:=λb hb=>(l.nx.back hb).elim (λ⟨q,hq,z⟩=>by
  refine D3 (BS.mp hq) λi hi=> ?_;exact absurd z ((y.R.fresh hb).2 q (AC (l.nx.Jg i q hi)))) id
 refine go itv _ _ ⟨y.hf,y.ρ,y.σ,s',_⟩ ⟨⟨l.trans m,back _ n1,back _ n2,AW (AF _),y.R.fresh n1,y.R.fresh n2,hd,wE⟩, ?_⟩ ey Eb;exact (W.more (X:=λb=>b=y.s.heap.objs.size∨b=y.s.heap.objs.size+1) λb hb=>hb.elim (λz=>z▸n1) λz=>z▸n2).Jz y.R m.nx (y.R.Ei λb o e O=>kp b o e)
end
end
section
mutual open A
variable{c:Cx}{A:Bs}{s:Bl}{x y z:St c}{K:B4}{env:Env}{loc:Di}{it:Bj}{l:List D}{i:Nat}{Dd C:Br}{o:Obj}{f g:Ev}{oe wZ:EJ}{os:List EJ}{fs:List Ev}{sc:CM}{p q:Nat}{target iter:Expr}{pos:Pos}{fi:ef}{G:HL}{kk:Nat}{fa:Nat→Br}
theorem R5{pos':Pos}{TL:List Expr}{elt:Expr}{vs:List V}{DD DK:Store}{use:Option (Bj→Sem Unit)}{Q:Bj→Bl→Prop}(I:ZX A env loc x fi iter)(hs: ∀v,CH iter env v=pure v)(He:Db c A oe f)(Hi:F0 c A os fs)(hh:A.handled=none)(fr:FR env loc x)(G2:Fr (vw env.scope) sc p q=true)(J0:Oz (vw sc) p q target=true)(jB:LZ (vw sc) os TL=true)(S7:oe (vw sc) elt=true)
  (e1:fi loc x.σ=some (l,DD)) (e2:EB (Fz p q f fs loc) l DD=some (vs,DK)) (fin: ∀(y:St c) Dd C us n,CE x Dd C (E0 us n) y→y.σ=DK→y.GC us vs→us.length≤big→C0 (Bq c.prog c.w) A Dq use Q (.ref Dd) C (.ok .next) y.s):
  Bp (Bq c.prog c.w) A (Cr (.ListComp elt [⟨target,iter,TL,0⟩] sc pos) sc env pos' (newList []) false (eval iter env) use) Q Dq x.s:=
 Na rfl hs I fr G2 rfl (λh=>Cq h (by decide)) e1 λit Dd C y t ey Eb=>
  have loop:=To (iter:=iter) (pos:=pos) (R:=C0 (Bq c.prog c.w) A Dq use Q (.ref Dd) C) He Hi hh fr G2 J0 jB S7 Eb t (ey.symm▸e2) λy us n ce=>fin y Dd C us n ce
  codeAny_compStart_list loop (Jq hh t.w loop)
theorem t4(Z:Zt K c fa G A kk){keep:Bool}{TL:List Expr}{elt:Expr}(I:ZX A env loc x fi iter)(hs: ∀v,CH iter env v=pure v)(He:Db c A oe f)(Hi:F0 c A os fs)(fr:FR env loc x)(G2:Fr (vw env.scope) sc p q=true)(J0:Oz (vw sc) p q target=true)(jB:LZ (vw sc) os TL=true)(S7:oe (vw sc) elt=true):
  I3 A env loc x (Nc keep fi p q f fs) (.ListComp elt [⟨target,iter,TL,0⟩] sc pos):=by
 refine ⟨λ{r DT Q} ev k=>DP ev λl DD e1 ev=>DP ev λvs DK e2 ev=> ?_⟩;refine C9 (arm_eval_ListComp _ _ _ _ _) ?_;refine R5 I hs He Hi Z.rm.handled fr G2 J0 jB S7 e1 e2 λy Dd C us n ce ey hv hb=> ?_;refine D3 ce.ns λm hm=> ?_;refine (DM m hm (λh' hs=> ?_));have OX: ∀b o,b≠C→y.s.heap.get? b=some o→h'.get? b=some o:=λb o hb e=>(hs.2 b hb).trans e;exact N5 (p:=(Dd,Dd)) ev (ce.le.nx.off ce.nC OX) (ey▸y.off ce.pC.1 ce.pC.2 OX) ce.nD ce.pD.1 ce.pD.2 (OX _ _ ce.ne ce.d) ⟨rfl,hb,n,rfl⟩ hv k rfl ⟨ce.le.sm.1,ce.le.sm.2,ce.le.sm.3⟩
structure DI(x:St c)(it:Bj)(l:List D)(F:D→Store→Option (Option (V×V)×Store))(k:Nat)(rr:List DO×List V)(DK:Store)(Dd C:Br)(n:Nat)(s:Bl)(i:Nat)(y:St c)(o:Obj)(us:List Bj)(acc:List DO×List V)(qr:List (V×V)):Prop where
 hi:i≤l.length
 hn:n=l.length - i
 hs:s=y.s
 t:CT x it l Dd C o i y
 e:EB F (l.drop i) y.σ=some (qr,DK)
 w:FB k qr acc=some rr
 ho:EA c y.hf o k acc.1 us
 hv:y.GC us acc.2
 hb:us.length≤i
theorem fS{p:Nat}{f g:Ev}{loc:Di}{d:D}{σ Dy:Store}{ov:Option (V×V)}{P:Prop}(e:Lh p f g loc d σ=some (ov,Dy))(k: ∀a HN b,f ((p, .d d)::loc) σ=some (a,HN)→g ((p, .d d)::loc) HN=some (b,Dy)→ov=some (a,b)→P):P:=DP (x:=f ((p, .d d)::loc) σ) e λa HN e3 e1=>DP e1 λb dm e4 e1=>by
 have w:(some (a,b),dm)=(ov,Dy):=η e1;exact k a HN b e3 (e4.trans (congrArg (λz=>some (b,z)) (congrArg Prod.snd w))) (congrArg Prod.fst w).symm
theorem Sp{ke ve:Expr}{k:Nat}{qs:List (V×V)}{rr:List DO×List V}{DK:Store}{R:C8→Bl→Prop}(H1:Db c A oe f)(H2:Db c A wZ g)(rm:Ms A (kk+1))(hk:Μ k 4=true)(fr:FR env loc x)(G2:Fr (vw env.scope) sc p 0=true)(J0:Oz (vw sc) p 0 target=true)(jB:oe (vw sc) ke=true)(S7:wZ (vw sc) ve=true)(Eb:l.length≤big)
  (t:CT x it l Dd C {cls:= .type "dict",data:= .dict #[]} 0 y) (e:EB (Lh p f g loc) l y.σ=some (qs,DK)) (ep:FB k qs ([], [])=some rr) (fin: ∀(y:St c) o us,CE x Dd C o y→y.σ=DK→EA c y.hf o k rr.1 us→y.GC us rr.2→R (.ok .next) y.s):
  Ci (Bq c.prog c.w) A (.compLoop (.DictComp ke ve [⟨target,iter, [],0⟩] sc pos) 0 it (.ref Dd) (CS sc (Fc env sc.names).reverse C env)) R y.s:=by
 have htn: ∀v,Cp target it v=pure ():=DL (f:=VK (vw sc) p) J0 λid h1 O v=>by refine D3 (Eh h1) λpos Ff=> ?_;subst Ff;rfl
 refine wt2 (λn s=> ∃i y o us acc qr,DI x it l (Lh p f g loc) k rr DK Dd C n s i y o us acc qr) λI di mi=> ?_;refine codeAny_compLoop_testsD I (λn s I=> ?_) l.length (mi _ _ ⟨0,y,_, [],([], []),qs,AT _,rfl,rfl,t,e,ep,Jc (Ds.mp hk), .nil,Ι _⟩) htn;clear t e ep;obtain ⟨i,y,o,us,acc,qr,hi,hn,hs,t,e,w,ho,hv,hb⟩:=di _ _ I;clear I;refine C9 hs ?_;have vk:vw (CS sc (Fc env sc.names).reverse C env).scope=vw sc:=Ie sc env;rcases Nat.lt_or_ge i l.length with lt|ge
 ·refine wr λZ0 z0=> ?_
  rw [Av lt] at e;refine dA e λov Dy qr' e1 e2 wv=>fS e1 λa HN b e3 e4 o1=> ?_;rw [wv,o1] at w;clear e e1 wv o1;refine DA w λhY w1 w=> ?_;refine IU (KQ w1) λkd key g1 g2 g3 g4=> ?_;refine z0 ?_;have dec:l.length - (i+1)<n:=hn▸Ba _ _ lt;refine Wr (p:=p) (q:=0) (DG:=(p, .d l[i])::loc) rm.handled t fr G2 J0 (Τ lt) rfl (λv D6 w h=>h) λz tz ez up fz=> ?_;refine wpAny_tests_nil ?_;refine C9 (if_pos rfl) ?_;refine Bu ((H1 (by exact C9 vk jB) fz).1.run (ez.symm▸e3) λva z₁ On KX ha=> ?_) (λO O h=>h) λO O x=>x.elim;refine Bu ((H2 (by exact C9 vk S7) (fz.Jz On)).1.run (KX.symm▸e4) λvb RZ Id VI uN=> ?_) (λO O h=>h) λO O x=>x.elim;have aS:=tz.on (On.trans Id);have kf: ∀b o,y.hf b=some o→RZ.hf b=some o:=λb o e=>(On.trans Id).nx.kf b o (up.1 b o e);have g1:a= .d kd:=g1;rw [g1] at ha;refine Hq (c:=c) (hf:=RZ.hf) RZ.R.keep (Ed (m:=0) rm.u (AT _)) aS.b.d (ho.mono kf) (JG g2 (VV.le ha Id)) g3 (Ρ hb (AQ lt Eb)) λh' o' tk bj ZP y0=> ?_;have hp:RZ.GC us acc.2:=GC.le (x:=z) (hv.Mi up.1 up.2) (On.trans Id);exact ⟨_,dec,mi _ _ ⟨i+1,_,o',_,hY,qr',lt,rfl,rfl,aS.put (s':={RZ.s with heap:=h',toks:=tk}) (λb o n e=>(bj.2 b n).trans e) ZP ⟨rfl,rfl,rfl⟩,VI.symm▸e2,w,by refine C9 g4 ?_;exact y0,by exact C9 g4<|hp.put uN _,Υ (F6 _ _ _ _) (Κ hb)⟩⟩
 ·have kT:=Aq hi ge
  rw [kT,List.drop_length] at e;rw [kT] at t hb;have n:=WW e;rw [n.1] at w;refine Wb rm.handled t λz ce ez up=>fin z o us ce (ez.trans n.2) ?_ ?_
  ·exact Dr (η w)<|ho.mono up.1
  ·exact Dr (η w)<|hv.Mi up.1 up.2
theorem nH(Z:Zt K c fa G A kk){k:Nat}{ke ve:Expr}(I:ZX A env loc x fi iter)(hs: ∀v,CH iter env v=pure v)(H1:Db c A oe f)(H2:Db c A wZ g)(hk:Μ k 4=true)(fr:FR env loc x)(G2:Fr (vw env.scope) sc p 0=true)(J0:Oz (vw sc) p 0 target=true)(jB:oe (vw sc) ke=true)(S7:wZ (vw sc) ve=true):
  I3 A env loc x (Qm k fi p f g) (.DictComp ke ve [⟨target,iter, [],0⟩] sc pos):=by
 refine ⟨λ{r DT Q} ev kq=>DP ev λl DD e1 ev=>DP ev λqs DK e2 ev=>DA ev λrr e3 ev=> ?_⟩;refine C9 (arm_eval_DictComp _ _ _ _ _ _) ?_;refine Na rfl hs I fr G2 rfl (λh=>wpAny_newObj_type h) e1 λit Dd C y t ey Eb=> ?_
 have loop:=Sp (iter:=iter) (pos:=pos) (R:=C0 (Bq c.prog c.w) A Dq none Q (.ref Dd) C) H1 H2 Z.rm hk fr G2 J0 jB S7 Eb t (ey.symm▸e2) e3 λy o us ce ey ho hv=>by
  refine D3 ce.ns λm hm=> ?_;refine (DM m hm (λh' hs=> ?_));have OX: ∀b o,b≠C→y.s.heap.get? b=some o→h'.get? b=some o:=λb o hb e=>(hs.2 b hb).trans e;exact N5 (p:=(Dd,Dd)) ev (ce.le.nx.off ce.nC OX) (ey▸y.off ce.pC.1 ce.pC.2 OX) ce.nD ce.pD.1 ce.pD.2 (OX _ _ ce.ne ce.d) ⟨rfl,QT Z.B.SM ce.nD,ho⟩ hv kq rfl ⟨ce.le.sm.1,ce.le.sm.2,ce.le.sm.3⟩
 exact codeAny_compStart_dict loop (Jq Z.rm.handled t.w loop)
end
end
section
mutual open A
def Pj:Expr→Option Const:=oX 3 (·.k)
def pH:Expr→Option (UnaryOp×Expr):=oX 4 λw=>(w.u,w.a)
def VF:Expr→Option (Expr×Operator×Expr):=oX 5 λw=>(w.a,w.o,w.b)
def QM:Expr→Option (Expr×Str):=oX 6 λw=>(w.a,w.s)
def Qv:Expr→Option (Expr×Expr):=oX 7 λw=>(w.a,w.b)
def rS(w:Wx):Option Expr:=cond (w.x.isNone&&w.z.isNone) w.y none
def W5(e:Expr):Option Expr:=DN (oX 8 id e) rS
def Uk:Expr→Option (Expr×List C4×List Expr):=oX 9 λw=>(w.a,w.cs,w.l)
def tZ:Expr→Option (BoolOp×List Expr):=oX 10 λw=>(w.bo,w.l)
def j3:Expr→Option (Expr×Expr×Expr):=oX 11 λw=>(w.a,w.b,w.d)
def dG:Expr→Option (List Expr):=oX 12 (·.l)
def bp:Expr→Option (List (Option Expr)×List Expr):=oX 13 λw=>(w.ks,w.l)
def M6(e:Expr):Option (Expr×List Expr×Pos):=DN (oX 14 id e) λw=>cond w.kw.isEmpty (some (w.a,w.l,w.p)) none
def QS:Expr→Option (Expr×Str×Pos):=oX 6 λw=>(w.a,w.s,w.p)
def lU:Expr→Option (Expr×List B6×CM):=oX 15 λw=>(w.a,w.gs,w.sc)
def qm:Expr→Option (Expr×Expr×List B6×CM):=oX 16 λw=>(w.a,w.b,w.gs,w.sc)
def dJ:List B6→Option (Expr×Expr×List Expr)
 | [g]=>F9 (Dj g.is_async 0) (some (g.target,g.iter,g.ifs))
 |_=>none
theorem HJ{e:Expr}{k}(h:Pj e=some k): ∃q p,e= .Constant k q p:=Ep h λw a b=>(TM w.n w.p (b▸a))
theorem O'{e:Expr}{k}(h:pH e=some k): ∃p,e= .UnaryOp k.1 k.2 p:=Ep h λw a b=>(EG w.p (b▸a))
theorem MX{e:Expr}{k}(h:VF e=some k): ∃p,e= .BinOp k.1 k.2.1 k.2.2 p:=Ep h λw a b=>(EG w.p (b▸a))
theorem Ia{e:Expr}{k}(h:QM e=some k): ∃p,e= .Attribute k.1 k.2 p:=Ep h λw a b=>(EG w.p (b▸a))
theorem JI{e:Expr}{k}(h:Qv e=some k): ∃p,e= .Subscript k.1 k.2 p:=Ep h λw a b=>(EG w.p (b▸a))
theorem P'{e:Expr}{k}(h:W5 e=some k): ∃p,e= .Slice none (some k) none p:=DA h λv h1 h2=>Ep h1 λw a b=>by
 unfold rS at h2;cases q:(v.x.isNone&&v.z.isNone) with
 |false=>rw [q] at h2;exact DC h2
 |true=>
  rw [q] at h2;have h2:v.y=some k:=h2;have b:v=w:=b;have a:e= .Slice w.x w.y w.z w.p:=a;rw [←b,Af.mp (band q).1,h2,Af.mp (band q).2] at a;exact (EG _ a)
theorem MY{e:Expr}{k}(h:Uk e=some k): ∃p,e= .Compare k.1 k.2.1 k.2.2 p:=Ep h λw a b=>(EG w.p (b▸a))
theorem YK{e:Expr}{k}(h:tZ e=some k): ∃p,e= .BoolOp k.1 k.2 p:=Ep h λw a b=>(EG w.p (b▸a))
theorem VO{e:Expr}{k}(h:j3 e=some k): ∃p,e= .IfExp k.1 k.2.1 k.2.2 p:=Ep h λw a b=>(EG w.p (b▸a))
theorem SI{e:Expr}{k}(h:dG e=some k): ∃p,e= .List k p:=Ep h λw a b=>(EG w.p (b▸a))
theorem Rb{e:Expr}{k}(h:bp e=some k): ∃p,e= .Dict k.1 k.2 p:=Ep h λw a b=>(EG w.p (b▸a))
theorem IX{e:Expr}{k}(h:M6 e=some k):e= .Call k.1 k.2.1 [] k.2.2:=DA h λv h1 h2=>Ep h1 λw a b=>by
 cases q:v.kw.isEmpty with
 |false=>rw [q] at h2;exact DC h2
 |true=>
  rw [q] at h2;have b:v=w:=b;have a:e= .Call w.a w.l w.kw w.p:=a;rw [←b,AZ.mp q] at a;exact Dr (η h2) a
theorem Kv{e:Expr}{k}(h:QS e=some k):e= .Attribute k.1 k.2.1 k.2.2:=Ep h λw a b=>b▸a
theorem Xt{e:Expr}{k}(h:lU e=some k): ∃p,e= .ListComp k.1 k.2.1 k.2.2 p:=Ep h λw a b=>(EG w.p (b▸a))
theorem Yl{e:Expr}{k}(h:qm e=some k): ∃p,e= .DictComp k.1 k.2.1 k.2.2.1 k.2.2.2 p:=Ep h λw a b=>(EG w.p (b▸a))
theorem KH{l:List B6}{k}(h:dJ l=some k):l= [⟨k.1,k.2.1,k.2.2,0⟩]:=by
 cases l with
 |nil=>exact DC h
 |cons g l=>cases l with
  |cons=>exact DC h
  |nil=>exact DY (x:=some (g.target,g.iter,g.ifs)) h λh1 h2=>by refine Dr (η h2) ?_;obtain ⟨a,b,d,e⟩:=g;(exact C9 (show e=0 from ER h1) rfl)
end
section
mutual open A
variable{c:Cx}{A:Bs}{x:St c}{K:B4}{env:Env}{loc:Di}{f g h:Ev}{o1 o2 o3:EJ}{e:Expr}{os:List EJ}{fs:List Ev}{fa:Nat→Br}{G:HL}{kk:Nat}{n:Nat}
def ph(n:Nat):EJ:=λsc e=>oB (MJ e) λid=>EQ id (nm n)&&(seen sc (nm n)&& !EV (nm n))
def oGv(n:Nat):EJ:=λsc e=>oB (MJ e) λid=>EQ id (nm n)&&(Pf sc (nm n)&& !EV (nm n))
def Zl(t n:Nat):EJ:=λO e=>oB (Pj e) (kG t n)
def isInt(n:Nat):Const→Bool
 | .int i=>Dj i n
 |_=>false
theorem LH{n:Nat}{k:Const}(h:isInt n k=true):k= .int n:=by cases k with|int=>exact congrArg Const.int (ER h)|_=>exact ζ h
def pN:UnaryOp→Bool
 | .USub=>true
 |_=>false
def mR:UnaryOp→Bool
 | .Not=>true
 |_=>false
def rk:Operator→Bool
 | .Pow=>true
 |_=>false
def jT(q:Bool):BoolOp→Bool
 | .And=>q
 | .Or=> !q
theorem bQ{q:Bool}{o:BoolOp}(h:jT q o=true):o=YU q:=by cases o<;>cases q<;>first|rfl|exact ζ h
def uR(n:Nat):EJ:=λO e=>oB (pH e) λp=>pN p.1&&oB (Pj p.2) (isInt n)
def tG(n:Nat):EJ:=λO e=>oB (VF e) λp=>rk p.2.1&&(oB (Pj p.1) (isInt 10)&&(oB (Pj p.2.2) (isInt n)&&Μ n 1000))
def j8(n:Nat)(o1:EJ):EJ:=λsc e=>oB (QM e) λp=>EQ p.2 (nm n)&&(J6 p.1&&o1 sc p.1)
def q8(o1 o2:EJ):EJ:=λsc e=>oB (Qv e) λp=>o1 sc p.1&&o2 sc p.2
def jP(n:Nat)(o1:EJ):EJ:=λsc e=>oB (Qv e) λp=>oB (MJ p.1) λO=>oB (W5 p.2) λu=>oB (Pj u) λk=>isInt n k&&o1 sc p.1
def rU(n:Nat)(o1 o2:EJ):EJ:=λsc e=>oB (VF e) λp=>μ n (jD p.2.1)&&(o1 sc p.1&&o2 sc p.2.2)
def rz(o1:EJ):EJ:=λsc e=>oB (pH e) λp=>mR p.1&&o1 sc p.2
def rx(n:Nat)(o1 o2:EJ):EJ:=λsc e=>oB (Uk e) λp=>oB (only p.2.1) λop=>oB (only p.2.2) λr=>μ n (MF op)&&(J5 r&&(o1 sc p.1&&o2 sc r))
def Ro{α:Type}:List α→Option (α×α)
 | [a,b]=>some (a,b)
 |_=>none
theorem IH{α:Type}{l:List α}{p:α×α}(h:Ro l=some p):l= [p.1,p.2]:=by
 cases l with
 |nil=>exact DC h
 |cons a l=>cases l with
  |nil=>exact DC h
  |cons b l=>cases l with
   |nil=>(exact Dr (η h) rfl)
   |cons=>exact DC h
def kX(n m:Nat)(o1 o2 o3:EJ):EJ:=λsc e=>oB (Uk e) λp=>oB (Ro p.2.1) λop=>oB (Ro p.2.2) λr=>μ n (MF op.1)&&(μ m (MF op.2)&&(J5 r.1&&(J5 r.2&&(o1 sc p.1&&(o2 sc r.1&&o3 sc r.2)))))
def aK(q:Bool)(os:List EJ):EJ:=λsc e=>oB (tZ e) λp=>jT q p.1&&(Ε 1 p.2.length&&LZ sc os p.2)
def qj(o1 o2 o3:EJ):EJ:=λsc e=>oB (j3 e) λp=>o1 sc p.1&&(o2 sc p.2.1&&o3 sc p.2.2)
def k9(os:List EJ):EJ:=λsc e=>oB (H0 e) λl=>Μ l.length 1000&&LZ sc os l
def km(os:List EJ):EJ:=λsc e=>oB (dG e) λl=>Μ l.length 1000&&LZ sc os l
def kj(k:Nat)(os:List EJ):EJ:=λsc e=>oB (bp e) λp=>Μ k 4&&(Μ p.1.length 15&&Sr sc os p.1 p.2)
theorem H6(g:I3 A env loc x f e)(s:special e=false):I3 A env loc x f e∧Xu A env loc x f e:=⟨g,g.tr s⟩
theorem yM:Db c A (ph n) (lZ n):=λ{e env loc x} ok fr=>DL ok λid h1 ok=>by
 refine D3 (Eh h1) λp w=> ?_;refine C9 w<|C9 (EH (band ok).1) ?_
 exact H6 (zj (band (band ok).2).1 (band (band ok).2).2 fr) rfl
theorem sGv(B:I2 K c)(T:KG K c fa):Db c A (oGv n) (yn n):=λ{e env loc x} ok fr=>DL ok λid h1 ok=>by
 refine D3 (Eh h1) λp w=> ?_;refine C9 w<|C9 (EH (band ok).1) ?_
 exact H6 (gGv B T (band (band ok).2).1 (band (band ok).2).2 fr) rfl
theorem ia{t:Nat}:Db c A (Zl t n) (Mu (jW t n)):=λ{e env loc x} ok fr=>DL ok λk h1 ok=>by
 refine HY (HJ h1) λq p w=> ?_;refine C9 w ?_;exact H6 (xJ ok) rfl
theorem yF:Db c A (uR n) (Mu (.int (-(n:Int)))):=λ{e env loc x} ok fr=>DL ok λk h1 ok=>DL (band ok).2 λz h2 h3=>by
 refine wr λZ0 z0=> ?_;refine D3 (O' h1) λp w=> ?_;refine HY (HJ h2) λq p' w'=> ?_;obtain ⟨op,a⟩:=k;refine z0 ?_;have ok:=(band ok).1;cases op with
 |USub=>exact C9 w<|C9 w'<|C9 (LH h3)<|H6 xC rfl
 |_=>exact ζ ok
theorem xp:Db c A (tG n) (Mu (.int ((10:Int)^n))):=λ{e env loc x} ok fr=>DL ok λk h1 ok=>DL (band (band ok).2).1 λz h2 h3=>DL (band (band (band ok).2).2).1 λz' h4 h5=>by
 refine wr λZ0 z0=> ?_;refine D3 (MX h1) λp w=> ?_;refine HY (HJ h2) λq p' w'=> ?_;refine HY (HJ h4) λq' p'' w''=> ?_;obtain ⟨a,op,b⟩:=k;refine z0 ?_;have hn:=Ds.mp (band (band (band ok).2).2).2;have ok:=(band ok).1;cases op with
 |Pow=>exact C9 w<|C9 w'<|C9 w''<|C9 (LH h3)<|C9 (LH h5)<|H6 (yN hn) rfl
 |_=>exact ζ ok
theorem u0(B:I2 K c)(H:Db c A o1 f):Db c A (j8 n o1) (XY n f):=λ{e env loc x} ok fr=>DL ok λk h1 ok=>by
 refine D3 (Ia h1) λp w=> ?_;refine C9 w<|C9 (EH (band ok).1) ?_
 exact H6 (r7 B H (band (band ok).2).2 (band (band ok).2).1 fr) rfl
theorem xP(hu:A.units+2<B3)(H1:Db c A o1 f)(H2:Db c A o2 g):Db c A (q8 o1 o2) (hU f g):=λ{e env loc x} ok fr=>DL ok λk h1 ok=>by
 refine D3 (JI h1) λp w=> ?_;refine C9 w ?_;exact H6 (yP H1 H2 (band ok).1 (band ok).2 hu fr) rfl
theorem uS(H:Db c A o1 f):Db c A (jP n o1) (Wp n f):=λ{e env loc x} ok fr=>DL ok λk h1 ok=>DL ok λid h2 ok=>DL ok λu h3 ok=>DL ok λz h4 ok=>by
 refine wr λZ0 z0=> ?_;refine D3 (JI h1) λp w=> ?_;refine D3 (Eh h2) λp1 w1=> ?_;refine D3 (P' h3) λp2 w2=> ?_;refine HY (HJ h4) λq p3 w3=> ?_;refine z0 ?_;have J0:=(band ok).2;rw [w1] at J0;refine C9 w<|C9 w1<|C9 w2<|C9 w3<|C9 (LH (band ok).1) ?_
 exact H6 (te H J0 fr) rfl
theorem yS(H1:Db c A o1 f)(H2:Db c A o2 g):Db c A (rU n o1 o2) (gJ n f g):=λ{e env loc x} ok fr=>DL ok λk h1 ok=>by
 refine D3 (MX h1) λp w=> ?_;refine C9 w<|C9 (nb (band ok).1) ?_
 exact H6 (ww H1 H2 _ (band (band ok).2).1 (band (band ok).2).2 fr) rfl
theorem xq(H1:Db c A o1 f):Db c A (rz o1) (Zs f):=λ{e env loc x} ok fr=>DL ok λk h1 ok=>by
 refine D3 (O' h1) λp w=> ?_;obtain ⟨op,a⟩:=k;have G2:=(band ok).1;cases op with
 |Not=>exact C9 w<|zg H1 (band ok).2 fr
 |_=>exact ζ G2
theorem zX(hu:A.units+64<B3)(H1:Db c A o1 f)(H2:Db c A o2 g):Db c A (rx n o1 o2) (Xw n f g):=λ{e env loc x} ok fr=>DL ok λk h1 ok=>DL ok λop h2 ok=>DL ok λr h3 ok=>by
 refine D3 (MY h1) λp w=> ?_;refine C9 w<|C9 (Eg h2)<|C9 (Eg h3)<|C9 (nb (band ok).1) ?_
 exact yz H1 H2 _ (band (band ok).2).1 (band (band (band ok).2).2).1 (band (band (band ok).2).2).2 hu fr
theorem tC(hu:A.units+64<B3){m:Nat}(H1:Db c A o1 f)(H2:Db c A o2 g)(H3:Db c A o3 h):Db c A (kX n m o1 o2 o3) (OG n m f g h):=λ{e env loc x} ok fr=>DL ok λk h1 ok=>DL ok λop h2 ok=>DL ok λr h3 ok=>by
 refine wr λZ0 z0=> ?_;refine D3 (MY h1) λp w=> ?_;refine Dl (band ok) λa1 ok=> ?_;refine Dl (band ok) λa2 ok=> ?_;refine Dl (band ok) λa3 ok=> ?_;refine Dl (band ok) λa4 ok=> ?_;refine Dl (band ok) λa5 ok=> ?_;refine z0 ?_;refine C9 w<|C9 (IH h2)<|C9 (IH h3)<|C9 (nb a1)<|C9 (nb a2) ?_
 exact rc H1 H2 H3 _ _ a3 a4 a5 (band ok).1 (band ok).2 hu fr
theorem jz(q:Bool)(H:F0 c A os fs):Db c A (aK q os) (K1 q fs):=λ{e env loc x} ok fr=>DL ok λk h1 ok=>by
 refine D3 (YK h1) λp w=> ?_;refine C9 w<|C9 (bQ (band ok).1) ?_
 exact qf q H (band (band ok).2).2 (band (band ok).2).1 fr
theorem yQ(H1:Db c A o1 f)(H2:Db c A o2 g)(H3:Db c A o3 h):Db c A (qj o1 o2 o3) (eV f g h):=λ{e env loc x} ok fr=>DL ok λk h1 ok=>by
 refine D3 (VO h1) λp w=> ?_;refine C9 w ?_;exact xm H1 H2 H3 (band ok).1 (band (band ok).2).1 (band (band ok).2).2 fr
theorem uT{keep:Bool}(H:F0 c A os fs)(P: ∀o∈os,D8 o):Db c A (k9 os) (Za keep .tup fs):=λ{e env loc x} ok fr=>DL ok λk h1 ok=>by
 refine HY (Gl h1) λq p w=> ?_;refine C9 w ?_;exact H6 (yI H P (band ok).2 (band ok).1 fr) rfl
theorem vU{keep:Bool}(H:F0 c A os fs)(P: ∀o∈os,D8 o):Db c A (km os) (Za keep .lst fs):=λ{e env loc x} ok fr=>DL ok λk h1 ok=>by
 refine D3 (SI h1) λp w=> ?_;refine C9 w ?_;exact H6 (yh H P (band ok).2 (band ok).1 fr) rfl
theorem vL(Z:Zt K c fa G A kk){keep:Bool}{k:Nat}(H:F0 c A os fs):Db c A (kj k os) (Y5 keep k fs):=λ{e env loc x} ok fr=>DL ok λq h1 ok=>by
 refine D3 (Rb h1) λp w=> ?_;refine C9 w ?_;exact H6 (zq Z H (band ok).1 (band (band ok).2).2 (band (band ok).2).1 fr) rfl
end
end
end
section
mutual open A
variable{c:Cx}{A:Bs}{x y:St c}{K:B4}{env:Env}{loc:Di}{f g h:Ev}{o1 o2:EJ}{e:Expr}{os:List EJ}{fs:List Ev}{fa:Nat→Br}{G:HL}{kk:Nat}{n:Nat}{fi:ef}
def J4(e:Expr)(f:Str→List Expr→Bool):Bool:=oB (M6 e) λp=>oB (MJ p.1) λid=>f id p.2.1
theorem FD{e:Expr}{f:Str→List Expr→Bool}{P:Expr→Prop}(h:J4 e f=true)(go: ∀id GQ args pos,f id args=true→P (.Call (.Name id GQ) args [] pos)):P e:=
 DL h λp h1 h=>DL h λid h2 h=>by
  refine D3 (Eh h2) λq w=> ?_;refine C9 (IX h1)<|C9 w ?_
  exact go _ _ _ _ h
def VP(n:Nat)(os:List EJ):EJ:=λsc e=>J4 e λid l=>Vj sc n id&&LZ sc os l
def UZ(n:Nat)(os:List EJ):EJ:=λsc e=>J4 e λid l=>Wd sc n id&&LZ sc os l
def eU(n:Nat)(o1:EJ):EJ:=λsc e=>J4 e λid l=>oB (only l) λa=>Oq sc (eL n) id&&o1 sc a
def Vk(n:Nat)(o1:EJ):EJ:=λsc e=>J4 e λid l=>oB (only l) λa=>Μ n 4&&(Oq sc "dict" id&&o1 sc a)
def uH(n:Nat)(o1:EJ):EJ:=λsc e=>J4 e λid l=>oB (Ro l) λp=>oB (MJ p.2) λt=>Oq sc "isinstance" id&&(lM sc n t&&o1 sc p.1)
def jR(m:Nat)(o1:EJ)(os:List EJ):EJ:=λsc e=>oB (M6 e) λp=>oB (QS p.1) λq=>EQ q.2.1 (nm m)&&(Μ m Fw.length&&(J6 q.1&&((q.2.2.endLine==p.2.2.line)&&(Μ p.2.1.length 20&&(o1 sc q.1&&LZ sc os p.2.1)))))
def V9(o1:EJ):EJ:=λsc e=>J4 e λid l=>oB (only l) λa=>Oq sc "range" id&&o1 sc a
def Vq(o1 o2:EJ):EJ:=λsc e=>J4 e λid l=>oB (Ro l) λp=>Oq sc "range" id&&(o1 sc p.1&&o2 sc p.2)
def qc(o1:EJ):EJ:=λsc e=>J4 e λid l=>oB (only l) λa=>Oq sc "reversed" id&&o1 sc a
def Zb(q:Nat)(os:List EJ):EJ:=λsc e=>J5 e&&match q with
 |0=>oB (only os) λo=>o sc e
 |1=>oB (only os) λo=>V9 o sc e
 |2=>oB (Ro os) λp=>Vq p.1 p.2 sc e
 |3=>oB (only os) λo=>qc o sc e
 |_=>false
def XE(oi:EJ)(p q:Nat)(o1:EJ)(os:List EJ):EJ:=λsc e=>oB (lU e) λk=>oB (dJ k.2.1) λg=>Fr sc k.2.2 p q&&(Oz (vw k.2.2) p q g.1&&(oi sc g.2.1&&(LZ (vw k.2.2) os g.2.2&&o1 (vw k.2.2) k.1)))
def aE(n:Nat)(oi:EJ)(p:Nat)(o1 o2:EJ):EJ:=λsc e=>oB (qm e) λk=>oB (dJ k.2.2.1) λg=>Μ n 4&&(g.2.2.isEmpty&&(Fr sc k.2.2.2 p 0&&(Oz (vw k.2.2.2) p 0 g.1&&(oi sc g.2.1&&(o1 (vw k.2.2.2) k.1&&o2 (vw k.2.2.2) k.2.1)))))
theorem bf(Z:Zt K c fa G A kk){keep:Bool}(H:F0 c A os fs)(P: ∀o∈os,D8 o):Db c A (VP n os) (Lr G keep n fs):=λ{e env loc x} ok fr=>FD (P:=λe=>I3 A env loc x _ e∧Xu A env loc x _ e) ok λid q l p ok=>H6 (lh Z H P (band ok).1 (band ok).2 fr) rfl
theorem eO(Z:Zt K c fa G A kk){keep:Bool}(H:F0 c A os fs)(P: ∀o∈os,D8 o):Db c A (UZ n os) (MB G keep n fs):=λ{e env loc x} ok fr=>FD (P:=λe=>I3 A env loc x _ e∧Xu A env loc x _ e) ok λid q l p ok=>H6 (o9 Z H P (band ok).1 (band ok).2 fr) rfl
theorem o7(Z:Zt K c fa G A kk)(H:Db c A o1 f)(P:D8 o1):Db c A (eU n o1) (Py n f):=λ{e env loc x} ok fr=>FD (P:=λe=>I3 A env loc x _ e∧Xu A env loc x _ e) ok λid q l p ok=>DL ok λa h1 ok=>by
 refine C9 (Eg h1) ?_;exact H6 (ou Z H P (band ok).1 (band ok).2 fr) rfl
theorem bE(Z:Zt K c fa G A kk){keep:Bool}(H:Db c A o1 f)(P:D8 o1):Db c A (Vk n o1) (Lj keep n f):=λ{e env loc x} ok fr=>FD (P:=λe=>I3 A env loc x _ e∧Xu A env loc x _ e) ok λid q l p ok=>DL ok λa h1 ok=>by
 refine C9 (Eg h1) ?_;exact H6 (lu Z H P (band ok).1 (band (band ok).2).1 (band (band ok).2).2 fr) rfl
theorem yk(Z:Zt K c fa G A kk)(H:Db c A o1 f)(P:D8 o1):Db c A (uH n o1) (ig n f):=λ{e env loc x} ok fr=>FD (P:=λe=>I3 A env loc x _ e∧Xu A env loc x _ e) ok λid q l p ok=>DL ok λa h1 ok=>DL ok λt h2 ok=>by
 refine D3 (Eh h2) λtp w=> ?_;refine C9 (IH h1)<|C9 w ?_
 exact H6 (za Z H P (band ok).1 (band (band ok).2).2 (band (band ok).2).1 fr) rfl
theorem sZ(Z:Zt K c fa G A kk)(H:Db c A o1 f)(Hs:F0 c A os fs)(P: ∀o∈os,D8 o):Db c A (jR n o1 os) (Wy G n f fs):=λ{e env loc x} ok fr=>DL ok λp h1 ok=>DL ok λq h2 ok=>by
 refine wr λZ0 z0=> ?_;refine Dl (band ok) λa1 ok=> ?_;refine Dl (band ok) λa2 ok=> ?_;refine Dl (band ok) λa3 ok=> ?_;refine Dl (band ok) λa4 ok=> ?_;refine Dl (band ok) λa5 ok=> ?_;refine z0 ?_;refine C9 (IX h1)<|C9 (Kv h2)<|C9 (EH a1) ?_
 exact H6 (rH Z H Hs P a2 a3 a4 a5 (band ok).1 (band ok).2 fr) rfl
def X1(c:Cx)(A:Bs)(o:EJ)(f:ef):Prop:= ∀{e env loc} {x:St c},o (vw env.scope) e=true→FR env loc x→ZX A env loc x f e
theorem RE{e:Expr}(h:J5 e=true)(env:Env)(v:Bj):CH e env v=pure v:=by cases e<;>first|rfl|exact ζ h
theorem LW{o:EJ}(H:F0 c A os fs)(h:only os=some o):(∃f,fs= [f]∧Db c A o f)∧o∈os:=by
 rw [Eg h] at H ⊢;exact D0 (HP H) λf m w h1 h2=>⟨(DM f (by (exact C9 w<|C9 (Ja h2) rfl)) h1), .head _⟩
theorem QZ{o:EJ×EJ}(H:F0 c A os fs)(h:Ro os=some o):(∃f g,fs= [f,g]∧Db c A o.1 f∧Db c A o.2 g)∧o.1∈os∧o.2∈os:=by
 rw [IH h] at H ⊢;exact D0 (HP H) λf m w h1 h2=>D0 (HP h2) λg m2 w2 h3 h4=>⟨(EK f g (by (exact C9 w<|C9 w2<|C9 (Ja h4) rfl)) h1 h3), .head _, .tail _ (.head _)⟩
theorem sIt(Z:Zt K c fa G A kk){q:Nat}(H:F0 c A os fs)(P: ∀o∈os,D8 o):X1 c A (Zb q os) (RM q fs):=λ{e env loc x} ok fr=>by
 have ok:=(band ok).2;cases q with
 |zero=>exact DL (x:=only os) ok λo h1 S7=>DQ (LW H h1).1 λf w H=>by exact C9 w<|iOf H S7 fr
 |succ q=>cases q with
  |zero=>exact DL (x:=only os) ok λo h1 S7=>DQ (LW H h1).1 λf w Hf=>by refine C9 w ?_;exact FD (P:=λe=>ZX A env loc x _ e) (S7:V9 o (vw env.scope) e=true) λid q l p ok=>DL ok λa h2 ok=>by exact C9 (Eg h2)<|iR1 Z Hf (P _ (LW H h1).2) (band ok).1 (band ok).2 fr
  |succ q=>cases q with
   |zero=>exact DL (x:=Ro os) ok λo h1 S7=>D0 (QZ H h1).1 λf g w Hf Hg=>by refine C9 w ?_;exact FD (P:=λe=>ZX A env loc x _ e) (S7:Vq o.1 o.2 (vw env.scope) e=true) λid q l p ok=>DL ok λa h2 ok=>by exact C9 (IH h2)<|iR2 Z Hf Hg (P _ (QZ H h1).2.1) (P _ (QZ H h1).2.2) (band ok).1 (band (band ok).2).1 (band (band ok).2).2 fr
   |succ q=>cases q with
    |zero=>exact DL (x:=only os) ok λo h1 S7=>DQ (LW H h1).1 λf w Hf=>by refine C9 w ?_;exact FD (P:=λe=>ZX A env loc x _ e) (S7:qc o (vw env.scope) e=true) λid q l p ok=>DL ok λa h2 ok=>by exact C9 (Eg h2)<|xX Z Hf (P _ (LW H h1).2) (band ok).1 (band ok).2 fr
    |succ=>exact ζ ok
theorem NI{q:Nat}{sc:Vw}{e:Expr}(h:Zb q os sc e=true):J5 e=true:=(band h).1
theorem jM(Z:Zt K c fa G A kk){keep:Bool}{p q iq:Nat}{eQ:List EJ}(HI:X1 c A (Zb iq eQ) fi)(H:Db c A o1 f)(Hs:F0 c A os fs):Db c A (XE (Zb iq eQ) p q o1 os) (Nc keep fi p q f fs):=λ{e env loc x} ok fr=>DL ok λk h1 ok=>DL ok λg h2 ok=>by
 refine wr λZ0 z0=> ?_;refine D3 (Xt h1) λps w=> ?_;refine Dl (band ok) λa1 ok=> ?_;refine Dl (band ok) λa2 ok=> ?_;refine Dl (band ok) λa3 ok=> ?_;refine z0 ?_;refine C9 w<|C9 (KH h2) ?_
 exact H6 (t4 Z (HI a3 fr) (RE (NI a3) env) H Hs fr a1 a2 (band ok).1 (band ok).2) rfl
theorem pK(Z:Zt K c fa G A kk){p iq:Nat}{eQ:List EJ}(HI:X1 c A (Zb iq eQ) fi)(H:Db c A o1 f)(H2:Db c A o2 g):Db c A (aE n (Zb iq eQ) p o1 o2) (Qm n fi p f g):=λ{e env loc x} ok fr=>DL ok λk h1 ok=>DL ok λg h2 ok=>by
 refine wr λZ0 z0=> ?_;refine D3 (Yl h1) λps w=> ?_;refine Dl (band ok) λa0 ok=> ?_;refine Dl (band ok) λaz ok=> ?_;refine Dl (band ok) λa1 ok=> ?_;refine Dl (band ok) λa2 ok=> ?_;refine Dl (band ok) λa3 ok=> ?_;refine z0 ?_;refine C9 w<|C9 (KH h2)<|C9 (AZ.mp az) ?_
 exact H6 (nH Z (HI a3 fr) (RE (NI a3) env) H H2 a0 fr a1 a2 (band ok).1 (band ok).2) rfl
structure Ck where
 t:Nat
 n:Nat
 e:EJ
 es:List EJ
def Ck.it(k:Ck):EJ:=Zb k.t k.es
def c1{κ α:Type}(l:List κ)(f:κ→Vw→α→Bool):Vw→α→Bool:=match l with
 | [a]=>f a
 |_=>λO O=>false
def c2{κ α:Type}(l:List κ)(f:κ→κ→Vw→α→Bool):Vw→α→Bool:=match l with
 | [a,b]=>f a b
 |_=>λO O=>false
def c3{κ α:Type}(l:List κ)(f:κ→κ→κ→Vw→α→Bool):Vw→α→Bool:=match l with
 | [a,b,d]=>f a b d
 |_=>λO O=>false
def c4{κ α:Type}(l:List κ)(f:κ→κ→κ→κ→Vw→α→Bool):Vw→α→Bool:=match l with
 | [a,b,d,e]=>f a b d e
 |_=>λO O=>false
def cC{κ α:Type}(l:List κ)(f:κ→List κ→Vw→α→Bool):Vw→α→Bool:=match l with
 |a::r=>f a r
 |_=>λO O=>false
def w9{κ α:Type}(l:List κ)(f:κ→κ→κ→List κ→Vw→α→Bool):Vw→α→Bool:=match l with
 |a::b::d::r=>f a b d r
 |_=>λO O=>false
end
section
mutual open A
variable{κ α β:Type}{Rl:κ→Nd→Prop}{P:(Vw→α→Bool)→(Di→Store→Option β)→Prop}{l:List κ}{m:List Nd}
theorem w1(hF: ∀g,P (λO O=>false) g)(H:DS Rl l m){f:κ→Vw→α→Bool}{g:Nd→Di→Store→Option β}(go: ∀a b,Rl a b→P (f a) (g b)):P (c1 l f) (ZW m g):=by
 cases H with
 |nil=>exact hF _
 |cons a H=>cases H with
  |nil=>exact go _ _ a
  |cons=>exact hF _
theorem w2(hF: ∀g,P (λO O=>false) g)(H:DS Rl l m){f:κ→κ→Vw→α→Bool}{g:Nd→Nd→Di→Store→Option β}(go: ∀a b a' b',Rl a b→Rl a' b'→P (f a a') (g b b')):P (c2 l f) (kQ m g):=by
 cases H with
 |nil=>exact hF _
 |cons a H=>cases H with
  |nil=>exact hF _
  |cons b H=>cases H with
   |nil=>exact go _ _ _ _ a b
   |cons=>exact hF _
theorem w3(hF: ∀g,P (λO O=>false) g)(H:DS Rl l m){f:κ→κ→κ→Vw→α→Bool}{g:Nd→Nd→Nd→Di→Store→Option β}(go: ∀a b a' b' Sd SL,Rl a b→Rl a' b'→Rl Sd SL→P (f a a' Sd) (g b b' SL)):P (c3 l f) (tc m g):=by
 cases H with
 |nil=>exact hF _
 |cons a H=>cases H with
  |nil=>exact hF _
  |cons b H=>cases H with
   |nil=>exact hF _
   |cons d H=>cases H with
    |nil=>exact go _ _ _ _ _ _ a b d
    |cons=>exact hF _
theorem w4(hF: ∀g,P (λO O=>false) g)(H:DS Rl l m){f:κ→κ→κ→κ→Vw→α→Bool}{g:Nd→Nd→Nd→Nd→Di→Store→Option β}(go: ∀a b a' b' Sd SL nj mN,Rl a b→Rl a' b'→Rl Sd SL→Rl nj mN→P (f a a' Sd nj) (g b b' SL mN)):P (c4 l f) (on4 m g):=by
 cases H with
 |nil=>exact hF _
 |cons a H=>cases H with
  |nil=>exact hF _
  |cons b H=>cases H with
   |nil=>exact hF _
   |cons d H=>cases H with
    |nil=>exact hF _
    |cons e H=>cases H with
     |nil=>exact go _ _ _ _ _ _ _ _ a b d e
     |cons=>exact hF _
theorem wC(hF: ∀g,P (λO O=>false) g)(H:DS Rl l m){f:κ→List κ→Vw→α→Bool}{g:Nd→List Nd→Di→Store→Option β}(go: ∀a b r r',Rl a b→DS Rl r r'→P (f a r) (g b r')):P (cC l f) (v5 m g):=by
 cases H with
 |nil=>exact hF _
 |cons a H=>exact go _ _ _ _ a H
theorem wM(hF: ∀g,P (λO O=>false) g)(H:DS Rl l m){f:κ→κ→κ→List κ→Vw→α→Bool}{g:Nd→Nd→Nd→List Nd→Di→Store→Option β}(go: ∀a b a' b' Sd SL r r',Rl a b→Rl a' b'→Rl Sd SL→DS Rl r r'→P (f a a' Sd r) (g b b' SL r')):P (w9 l f) (oR m g):=by
 cases H with
 |nil=>exact hF _
 |cons a H=>cases H with
  |nil=>exact hF _
  |cons b H=>cases H with
   |nil=>exact hF _
   |cons d H=>exact go _ _ _ _ _ _ _ _ a b d H
end
end
mutual open A
def qP(t n:Nat)(l:List Ck):EJ:=match t with
 |0=>ph n
 |1=>oGv n
 |2=>Zl 2 n
 |3=>Zl 3 n
 |4=>Zl 4 n
 |5=>Zl 5 n
 |6=>uR n
 |7=>tG n
 |8=>c1 l λa=>j8 n a.e
 |9=>c2 l λa b=>q8 a.e b.e
 |10=>c1 l λa=>jP n a.e
 |11=>c2 l λa b=>rU n a.e b.e
 |12=>c1 l λa=>rz a.e
 |13=>c2 l λa b=>rx n a.e b.e
 |14=>c3 l λa b d=>kX (n / 16) (n % 16) a.e b.e d.e
 |15=>aK true (l.map Ck.e)
 |16=>aK false (l.map Ck.e)
 |17=>c3 l λa b d=>qj a.e b.e d.e
 |18=>k9 (l.map Ck.e)
 |19=>km (l.map Ck.e)
 |20=>km (l.map Ck.e)
 |21=>kj n (l.map Ck.e)
 |22=>kj n (l.map Ck.e)
 |23=>VP n (l.map Ck.e)
 |24=>VP n (l.map Ck.e)
 |25=>UZ n (l.map Ck.e)
 |26=>UZ n (l.map Ck.e)
 |27=>c1 l λa=>eU n a.e
 |28=>c1 l λa=>Vk n a.e
 |29=>c1 l λa=>Vk n a.e
 |30=>c1 l λa=>uH n a.e
 |31=>cC l λa r=>jR n a.e (r.map Ck.e)
 |32=>w9 l λi p a r=>XE i.it p.t p.n a.e (r.map Ck.e)
 |33=>w9 l λi p a r=>XE i.it p.t p.n a.e (r.map Ck.e)
 |34=>c4 l λi p a b=>aE n i.it p.t a.e b.e
 |35=>k9 (l.map Ck.e)
 |_=>λO O=>false
def LE:Expr→Bool
 | .ListComp .. =>true
 |_=>false
def qi(t n:Nat)(l:List Ck):Ck:=⟨t,n,λsc e=>Qw e&&((!LE e||(μ t 32||μ t 33))&&qP t n l sc e),l.map Ck.e⟩
structure yZ{c:Cx}(A:Bs)(env:Env)(loc:Di)(x:St c)(f:Ev)(elt:Expr)(gens:List B6)(sc:CM)(pos:Pos):Prop where
 run: ∀{r DT} {use:Option (Bj→Sem Unit)} {Q:Bj→Bl→Prop},f loc x.σ=some (r,DT)→(∀keep vs us n (y:St c) Dd C,CE x Dd C (E0 us n) y→y.GC us vs→us.length≤big→Df keep .lst vs y.σ=some (r,DT)→C0 (Bq c.prog c.w) A Dq use Q (.ref Dd) C (.ok .next) y.s)→
  Bp (Bq c.prog c.w) A (Cr (.ListComp elt gens sc pos) sc env (firstIterPos gens pos) (newList []) (firstAsync gens) (firstIter gens env) use) Q Dq x.s
def VM(c:Cx)(A:Bs)(o:EJ)(f:Ev):Prop:= ∀{elt gens sc pos env loc} {x:St c},o (vw env.scope) (.ListComp elt gens sc pos)=true→FR env loc x→yZ A env loc x f elt gens sc pos
theorem Zz(hh:A.handled=none){keep:Bool}{p q iq:Nat}{eQ:List EJ}(HI:X1 c A (Zb iq eQ) fi)(H:Db c A o1 f)(Hs:F0 c A os fs):VM c A (XE (Zb iq eQ) p q o1 os) (Nc keep fi p q f fs):=λ{elt gens sc pos env loc x} ok fr=>DL (x:=lU _) ok λk h1 ok=>DL ok λg h2 ok=>⟨λ{r DT use Q} ev fin=>by
 rw [←η (show some (elt,gens,sc)=some k from h1)] at h2 ok;refine wr λZ0 z0=> ?_;refine Dl (band ok) λa1 ok=> ?_;refine Dl (band ok) λa2 ok=> ?_;refine Dl (band ok) λa3 ok=> ?_;refine z0 ?_;refine C9 (show gens= [⟨g.1,g.2.1,g.2.2,0⟩] from KH h2) ?_;refine DP ev λl DD e1 ev=>DP ev λvs DK e2 ev=>R5 (HI a3 fr) (RE (NI a3) env) H Hs hh fr a1 a2 (band ok).1 (band ok).2 e1 e2 λy Dd C us n ce ey hv hb=>fin keep vs us n y Dd C ce hv hb (ey.symm▸ev)⟩
structure Good(c:Cx)(A:Bs)(k:Ck)(d:Nd):Prop where
 t:k.t=d.t
 n:k.n=d.n
 e:Db c A k.e d.ev
 p:D8 k.e
 cp:VM c A k.e d.ev
 es:F0 c A k.es d.kids
 ps: ∀o∈k.es,D8 o
variable{l:List Ck}{m:List Nd}
theorem Iq(H:DS (Good c A) l m):F0 c A (l.map Ck.e) (m.map Nd.ev):=by
 induction H with
 |nil=>exact .nil
 |cons a _ ih=>exact .cons a.e ih
theorem Qk(H:DS (Good c A) l m): ∀o∈l.map Ck.e,D8 o:=by
 induction H with
 |nil=>exact λo h=>absurd h Γ
 |cons a _ ih=>exact λo h=>(ν.mp h).elim (λw=>w▸a.p) (ih o)
theorem Jj(Z:Zt K c fa G A kk){a:Ck}{b:Nd}(H:Good c A a b):X1 c A a.it b.it:=λ{e env loc x} ok fr=>by
 have ok:Zb a.t a.es (vw env.scope) e=true:=ok;rw [H.t] at ok;exact sIt Z H.es H.ps ok fr
theorem Th(g:Ev):Db c A (λO O=>false) g:=λh O=>ζ h
theorem noC(g:Ev):VM c A (λO O=>false) g:=λh O=>ζ h
theorem oZ(Z:Zt K c fa G A kk)(H:DS (Good c A) l m)(t n:Nat):Db c A (qP t n l) (zt G t n m):=by
 have hE:=Iq H;have hP:=Qk H;have hu:=Z.rm.u;refine Ft (λ{O O O O} ok fr=>yM ok fr) (λt=> ?_) t;refine Ft (λ{O O O O} ok fr=>sGv Z.B Z.T ok fr) (λt=> ?_) t;refine Ft (λ{O O O O} ok fr=>ia (t:=2) ok fr) (λt=> ?_) t;refine Ft (λ{O O O O} ok fr=>ia (t:=3) ok fr) (λt=> ?_) t;refine Ft (λ{O O O O} ok fr=>ia (t:=4) ok fr) (λt=> ?_) t;refine Ft (λ{O O O O} ok fr=>ia (t:=5) ok fr) (λt=> ?_) t;refine Ft (λ{O O O O} ok fr=>yF ok fr) (λt=> ?_) t;refine Ft (λ{O O O O} ok fr=>xp ok fr) (λt=> ?_) t;refine Ft (λ{O O O O} ok fr=>(w1 (P:=Db c A) Th H λa b A {O O O O} h fr=>u0 Z.B A.e h fr) ok fr) (λt=> ?_) t;refine Ft (λ{O O O O} ok fr=>(w2 (P:=Db c A) Th H λa b a' b' A B {O O O O} h fr=>xP (by exact sV hu rfl) A.e B.e h fr) ok fr) (λt=> ?_) t;refine Ft (λ{O O O O} ok fr=>(w1 (P:=Db c A) Th H λa b A {O O O O} h fr=>uS A.e h fr) ok fr) (λt=> ?_) t;refine Ft (λ{O O O O} ok fr=>(w2 (P:=Db c A) Th H λa b a' b' A B {O O O O} h fr=>yS A.e B.e h fr) ok fr) (λt=> ?_) t;refine Ft (λ{O O O O} ok fr=>(w1 (P:=Db c A) Th H λa b A {O O O O} h fr=>xq A.e h fr) ok fr) (λt=> ?_) t;refine Ft (λ{O O O O} ok fr=>(w2 (P:=Db c A) Th H λa b a' b' A B {O O O O} h fr=>zX (by exact sV hu rfl) A.e B.e h fr) ok fr) (λt=> ?_) t;refine Ft (λ{O O O O} ok fr=>(w3 (P:=Db c A) Th H λa b a' b' Sd SL A B C {O O O O} h fr=>tC (by exact sV hu rfl) A.e B.e C.e h fr) ok fr) (λt=> ?_) t;refine Ft (λ{O O O O} ok fr=>jz true hE ok fr) (λt=> ?_) t;refine Ft (λ{O O O O} ok fr=>jz false hE ok fr) (λt=> ?_) t;refine Ft (λ{O O O O} ok fr=>(w3 (P:=Db c A) Th H λa b a' b' Sd SL A B C {O O O O} h fr=>yQ A.e B.e C.e h fr) ok fr) (λt=> ?_) t;refine Ft (λ{O O O O} ok fr=>uT hE hP ok fr) (λt=> ?_) t;refine Ft (λ{O O O O} ok fr=>vU hE hP ok fr) (λt=> ?_) t;refine Ft (λ{O O O O} ok fr=>vU hE hP ok fr) (λt=> ?_) t;refine Ft (λ{O O O O} ok fr=>vL Z hE ok fr) (λt=> ?_) t;refine Ft (λ{O O O O} ok fr=>vL Z hE ok fr) (λt=> ?_) t;refine Ft (λ{O O O O} ok fr=>bf Z hE hP ok fr) (λt=> ?_) t;refine Ft (λ{O O O O} ok fr=>bf Z hE hP ok fr) (λt=> ?_) t;refine Ft (λ{O O O O} ok fr=>eO Z hE hP ok fr) (λt=> ?_) t;refine Ft (λ{O O O O} ok fr=>eO Z hE hP ok fr) (λt=> ?_) t;refine Ft (λ{O O O O} ok fr=>(w1 (P:=Db c A) Th H λa b A {O O O O} h fr=>o7 Z A.e A.p h fr) ok fr) (λt=> ?_) t;refine Ft (λ{O O O O} ok fr=>(w1 (P:=Db c A) Th H λa b A {O O O O} h fr=>bE Z A.e A.p h fr) ok fr) (λt=> ?_) t;refine Ft (λ{O O O O} ok fr=>(w1 (P:=Db c A) Th H λa b A {O O O O} h fr=>bE Z A.e A.p h fr) ok fr) (λt=> ?_) t;refine Ft (λ{O O O O} ok fr=>(w1 (P:=Db c A) Th H λa b A {O O O O} h fr=>yk Z A.e A.p h fr) ok fr) (λt=> ?_) t;refine Ft (λ{O O O O} ok fr=>(wC (P:=Db c A) Th H λa b r r' A R {O O O O} h fr=>sZ Z A.e (Iq R) (Qk R) h fr) ok fr) (λt=> ?_) t;refine Ft (λ{O O O O} ok fr=>(wM (P:=Db c A) Th H λa b a' b' Sd SL r r' A B C R {O O O O} h fr=>by rw [B.t,B.n] at h;exact jM Z (Jj Z A) C.e (Iq R) h fr) ok fr) (λt=> ?_) t;refine Ft (λ{O O O O} ok fr=>(wM (P:=Db c A) Th H λa b a' b' Sd SL r r' A B C R {O O O O} h fr=>by rw [B.t,B.n] at h;exact jM Z (Jj Z A) C.e (Iq R) h fr) ok fr) (λt=> ?_) t;refine Ft (λ{O O O O} ok fr=>(w4 (P:=Db c A) Th H λa b a' b' Sd SL nj mN A B C D {O O O O} h fr=>by rw [B.t] at h;exact pK Z (Jj Z A) C.e D.e h fr) ok fr) (λt=> ?_) t;refine Ft (λ{O O O O} ok fr=>uT hE hP ok fr) (λt=> ?_) t;exact λ{O O O O} ok O=>ζ ok
theorem lL(Z:Zt K c fa G A kk)(H:DS (Good c A) l m){t n:Nat}(ht:(μ t 32||μ t 33)=true):VM c A (qP t n l) (zt G t n m):=λ{elt gens sc pos env loc x} ok fr=>by
 rcases bor ht with w|w
 ·rw [nb w] at ok ⊢
  exact (wM (P:=VM c A) noC H λa b a' b' Sd SL r r' A B C R {O O O O O O O} h fr=>by rw [B.t,B.n] at h;exact Zz Z.rm.handled (Jj Z A) C.e (Iq R) h fr) ok fr
 ·rw [nb w] at ok ⊢
  exact (wM (P:=VM c A) noC H λa b a' b' Sd SL r r' A B C R {O O O O O O O} h fr=>by rw [B.t,B.n] at h;exact Zz Z.rm.handled (Jj Z A) C.e (Iq R) h fr) ok fr
theorem fW(Z:Zt K c fa G A kk)(H:DS (Good c A) l m)(t n:Nat):Good c A (qi t n l) (nB G t n m):=
 ⟨rfl,rfl,λok fr=>oZ Z H t n (band (band ok).2).2 fr,λO O h=>(band h).1,λ{elt gens sc pos env loc x} ok fr=>lL Z H (band (show ((μ t 32||μ t 33)&&qP t n l (vw env.scope) (.ListComp elt gens sc pos))=true from ok)).1 (band (show ((μ t 32||μ t 33)&&qP t n l (vw env.scope) (.ListComp elt gens sc pos))=true from ok)).2 fr,Iq H,Qk H⟩
end
end
section
mutual open A
structure Jl{c:Cx}(env:Env)(x y:St c):Prop where
 kf: ∀b o,x.hf b=some o→y.hf b=some o
 Jg: ∀(i:Nat) p,x.ρ[i]?=some p→y.ρ[i]?=some p
 Ee: ∀b o,x.s.heap.get? b=some o→(∀p∈x.ρ,p.2≠b)→ ¬NP env b→y.s.heap.get? b=some o
 FA: ∀b o,y.hf b=some o→x.hf b=some o∨(∃p∈x.ρ,p.2=b)∨x.s.heap.get? b=none
 EE: ∀p∈y.ρ,(∃q∈x.ρ,q.2=p.2)∨x.s.heap.get? p.2=none
 there: ∀b,NP env b→(∃o,x.s.heap.get? b=some o)→ ∃o,y.s.heap.get? b=some o
 sm:GB x.s y.s
def NF(env:Env):Prop:= ∀id,env.kindOf id≠some .free
def dr:Nat→Cd
 |0=> .next
 |1=> .brk
 |_=> .cont
end
section
mutual open A
variable{c:Cx}{A:Bs}{s:Bl}{E:Bj→Bl→Prop}{x y z:St c}{env:Env}{loc:Di}{f g h:Ev}{e:Expr}{a b:Ex}
theorem Jl.refl:Jl env x x:=⟨λO O e=>e,λO O e=>e,λO O e O O=>e,λO O e=> .inl e,λp e=> .inl (DM p e rfl),λO O e=>e, .refl _⟩
theorem Jl.back(l:Jl env x y){b:Br}(e:y.s.heap.get? b=none):(∃p∈x.ρ,p.2=b)∨x.s.heap.get? b=none:=by
 by_cases q: ∃p∈x.ρ,p.2=b
 ·exact .inl q
 ·cases z:x.s.heap.get? b with
  |none=>exact .inr rfl
  |some o=>
   by_cases w:NP env b
   ·refine D3 (l.there b w (EG o z)) λo' Jv=> ?_
    exact DC (e.symm.trans Jv)
   ·exact DC (e.symm.trans (l.Ee b o z (λp hp y=>q (DM p hp y)) w))
theorem Jl.trans(l:Jl env x y)(m:Jl env y z):Jl env x z:=by
 refine ⟨λb o e=>m.kf b o (l.kf b o e),λi p e=>m.Jg i p (l.Jg i p e),λb o e n nx=>m.Ee b o (l.Ee b o e n nx) (λp hp q=> ?_) nx,λb o e=> ?_,λp hp=> ?_,λb hb e=>m.there b hb (l.there b hb e),l.sm.trans m.sm⟩
 ·rcases l.EE p hp with ⟨r,hr,w⟩|w
  ·exact n r hr (w.trans q)
  ·exact DC (w.symm.trans (q▸e))
 ·rcases m.FA b o e with w|⟨p,hp,w⟩|w
  ·exact l.FA b o w
  ·rcases l.EE p hp with ⟨q,hq,e⟩|q
   ·exact .inr (.inl (DM q hq (e.trans w)))
   ·exact .inr (.inr (w▸q))
  ·exact .inr (l.back w)
 ·rcases m.EE p hp with ⟨r,hr,w⟩|w
  ·exact w▸l.EE r hr
  ·exact l.back w
theorem Le.X(l:Le x y)(fr:FR env loc x):Jl env x y:=
 ⟨l.nx.kf,l.nx.Jg,λb o e n O=>l.nx.Ee b o e n,l.nx.FA,l.nx.EE,λb w ⟨o,e⟩=>(EG o (l.nx.Ee b o e (fr.Ee b w).2)),l.sm⟩
theorem hB{DG:Di}{s':Bl}{R:F5 c x.hf x.ρ x.σ s'.heap}(k: ∀b o,¬NP env b→x.s.heap.get? b=some o→s'.heap.get? b=some o)(fr:FR env DG ⟨x.hf,x.ρ,x.σ,s',R⟩)(sm:GB x.s s'):Jl env x ⟨x.hf,x.ρ,x.σ,s',R⟩:=
 ⟨λO O e=>e,λO O e=>e,λb o e O n=>k b o n e,λO O e=> .inl e,λp hp=> .inl (DM p hp rfl),λb w O=>fr.ex w,sm⟩
theorem Xg(fr:FR env loc x){id:Str}(h:seen (vw env.scope) id=true)(nf:NF env):env.kindOf id=some .local∨(env.kindOf id=some .cell∧(env.cells.lookup id).isSome=true):=by
 unfold seen at h;have cf:=fr.S.cf id;have nf:=nf id;unfold vw at h cf;unfold Env.kindOf at nf ⊢;cases q:env.scope.names.lookup id with
 |none=>rw [q] at h;exact ζ h
 |some kd=>
  rw [q] at h cf nf;cases kd with
  |«local»=>exact .inl rfl
  |cell=>exact .inr ⟨rfl,cf rfl⟩
  |free=>exact absurd rfl nf
  |_=>exact ζ h
theorem Ig{a:Nat}{v:V}{val:Bj}{Q:Unit→Bl→Prop}(J0:Μ a Fw.length=true)(ok3:seen (vw env.scope) (nm a)=true)(nf:NF env)(fr:FR env loc x)(hv:x.VV val v)
  (h: ∀s' (R:F5 c x.hf x.ρ x.σ s'.heap),FR env (DR loc a v) ⟨x.hf,x.ρ,x.σ,s',R⟩→Jl env x ⟨x.hf,x.ρ,x.σ,s',R⟩→Q () s'):Bp (Bq c.prog c.w) A (storeName env (nm a) val) Q E x.s:=
 RU fr (Ds.mp J0) (Xg fr ok3 nf) hv λs' R I5 k sm=>h s' R I5 (hB k I5 sm)
def Ux(env:Env)(x:St c)(out:HW)(Q:Cd→Bl→Prop):Prop:=match out with
 | .go n loc σ=> ∀y:St c,Jl env x y→y.σ=σ→FR env loc y→Q (dr n) y.s
 | .ret v σ=> ∀val (y:St c),Jl env x y→y.σ=σ→y.VV val v→Q (.ret val) y.s
theorem Ux.after{out:HW}{Q:Cd→Bl→Prop}(k:Ux env x out Q)(l:Jl env x y):Ux env y out Q:=by
 cases out with
 |go=>exact λz m e fr=>k z (l.trans m) e fr
 |ret=>exact λv z m e fr=>k v z (l.trans m) e fr
structure StG{c:Cx}(A:Bs)(env:Env)(loc:Di)(x:St c)(a:Ex)(st:CC):Prop where
 run: ∀{out} {Q:Cd→Bl→Prop},a loc x.σ=some out→Ux env x out Q→Bp (Bq c.prog c.w) A (PySem.exec st env) Q Dq x.s
structure BlG{c:Cx}(A:Bs)(env:Env)(loc:Di)(x:St c)(a:Ex)(l:List CC):Prop where
 run: ∀{out} {Q:Cd→Bl→Prop},a loc x.σ=some out→Ux env x out Q→Bp (Bq c.prog c.w) A (PySem.execs l env) Q Dq x.s
abbrev OZ:=Vw→CC→Bool
abbrev im:=Vw→List CC→Bool
def F1(c:Cx)(A:Bs)(o:OZ)(a:Ex):Prop:= ∀{st env loc} {x:St c},o (vw env.scope) st=true→NF env→FR env loc x→StG A env loc x a st
def R8(c:Cx)(A:Bs)(o:im)(a:Ex):Prop:= ∀{l env loc} {x:St c},o (vw env.scope) l=true→NF env→FR env loc x→BlG A env loc x a l
theorem Es{out:HW}{Q:Cd→Bl→Prop}{n:Nat}{DG:Di}{σ:Store}(k:Ux env x out Q)(e:some (HW.go n DG σ)=some out): ∀y:St c,Jl env x y→y.σ=σ→FR env DG y→Q (dr n) y.s:=by cases e;exact k
theorem Rq{out:HW}{Q:Cd→Bl→Prop}{v:V}{σ:Store}(k:Ux env x out Q)(e:some (HW.ret v σ)=some out): ∀val (y:St c),Jl env x y→y.σ=σ→y.VV val v→Q (.ret val) y.s:=by cases e;exact k
def OJ(sc:Vw):List OZ→List CC→Bool
 | [], []=>true
 |o::os,st::r=>o sc st&&OJ sc os r
 |_,_=>false
theorem PG{sc:Vw}{o:OZ}{os:List OZ}{l:List CC}(h:OJ sc (o::os) l=true): ∃st r,l=st::r∧o sc st=true∧OJ sc os r=true:=by
 cases l with
 |nil=>exact ζ h
 |cons st r=>exact (Gp st r rfl (band h))
theorem TN{sc:Vw}{l:List CC}(h:OJ sc [] l=true):l= []:=by
 cases l with
 |nil=>rfl
 |cons=>exact ζ h
theorem Xv{o:Option HW}{k:Di→Store→Option HW}{r:HW}{P:Prop}(e:UO o k=some r)(h1: ∀loc σ,o=some (.go 0 loc σ)→k loc σ=some r→P)(h2:o=some r→(∀{c:Cx} {env} {x:St c} {Q:Cd→Bl→Prop},Ux env x r Q→Ux env x r λfl s=>Q fl s∧fl≠ .next)→P):P:=by
 refine DA e λout h e=> ?_;cases out with
 |ret v σ=>exact h2 (h.trans e) (by cases e;exact λk val y l ey hv=>⟨k val y l ey hv,λz=>Cd.noConfusion z⟩)
 |go n loc σ=>cases n with
  |zero=>exact h1 loc σ h e
  |succ n=>exact h2 (h.trans e) (by
    cases e;refine λk y l ey fr=>⟨k y l ey fr,λz=> ?_⟩;cases n with
    |zero=>exact Cd.noConfusion z
    |succ=>exact Cd.noConfusion z)
theorem cL{os:List OZ}{as:List Ex}(H:DS (F1 c A) os as):R8 c A (λsc=>OJ sc os) (YB as):=by
 induction H with
 |nil=>
  exact λ{l env loc x} ok nf fr=>⟨λev k=>by
   refine C9 (TN ok) ?_;exact Bn (Es k ev x .refl rfl fr)⟩
 |cons H1 _ ih=>
  exact λ{l env loc x} ok nf fr=>⟨λ{out Q} ev k=>by
   refine D0 (PG ok) λst r w G2 J0=> ?_;refine C9 w ?_
   show Bp _ _ (do
    match←PySem.exec st env with
    | .next=>PySem.execs r env
    |f=>pure f) _ _ _
   refine Bk ?_;refine Xv ev (λDG DT e1 ev=>(H1 G2 nf fr).run e1 λy l ey fy=>(ih J0 nf fy).run (ey.symm▸ev) (k.after l)) λe1 k'=> ?_;refine Bu ((H1 G2 nf fr).run e1 (k' k)) (λfl D6 h=> ?_) λO O x=>x;cases fl with
   |next=>exact absurd rfl h.2
   |_=>exact Bn h.1⟩
set_option genInjectivity false in
set_option genSizeOf false in
set_option genSizeOfSpec false in
structure wG where
 t:Nat
 a:Expr
 b:Expr
 x:Option Expr
 l:List Expr
 s:List CC
 r:List CC
 q:List CC
 h:List ExceptHandler
 p:Pos
def e0:Expr:= .Name "" default
def px(e:CC):wG:=match e with
 | .Return x p=>⟨1,e0,e0,x, [], [], [], [], [],p⟩
 | .Assign l a p=>⟨2,a,e0,none,l, [], [], [], [],p⟩
 | .If a s r p=>⟨3,a,e0,none, [],s,r, [], [],p⟩
 | .For a b s r p=>⟨4,a,b,none, [],s,r, [], [],p⟩
 | .While a s r p=>⟨5,a,e0,none, [],s,r, [], [],p⟩
 | .Expr a p=>⟨6,a,e0,none, [], [], [], [], [],p⟩
 | .Try s h r q p=>⟨7,e0,e0,none, [],s,r,q,h,p⟩
 |_=>⟨0,e0,e0,none, [], [e], [], [], [],default⟩
def unS(t:Nat)(w:wG):CC:=cond (μ t 1) (.Return w.x w.p) (cond (μ t 2) (.Assign w.l w.a w.p) (cond (μ t 3) (.If w.a w.s w.r w.p) (cond (μ t 4) (.For w.a w.b w.s w.r w.p) (cond (μ t 5) (.While w.a w.s w.r w.p) (cond (μ t 6) (.Expr w.a w.p) (cond (μ t 7) (.Try w.s w.h w.r w.q w.p) (w.s.headD (.Pass w.p))))))))
theorem nU(e:CC):unS (px e).t (px e)=e:=by cases e<;>rfl
def oS{α:Type}(t:Nat)(f:wG→Option α)(e:CC):Option α:=cond (μ (px e).t t) (f (px e)) none
theorem Ij{α:Type}{t:Nat}{f:wG→Option α}{e:CC}{k:α}{P:Prop}(h:oS t f e=some k)(g: ∀w,e=unS t w→f w=some k→P):P:=by
 unfold oS at h;cases q:μ (px e).t t with
 |false=>rw [q] at h;exact DC h
 |true=>rw [q] at h;exact g (px e) (AO q▸(nU e).symm) h
theorem NY{α:Type}{b:Bool}{x:Option α}{k:α}{P:Prop}(h:cond b x none=some k)(g:b=true→x=some k→P):P:=by
 cases b with
 |true=>exact g rfl h
 |false=>exact DC h
def jc:CC→Option Expr:=oS 1 (·.x)
def PA:CC→Option (Expr×Expr×Pos):=oS 2 λw=>DN (only w.l) λt=>some (t,w.a,w.p)
def sE:CC→Option (Expr×List CC×List CC):=oS 3 λw=>some (w.a,w.s,w.r)
def j0:CC→Option (Expr×Expr×List CC):=oS 4 λw=>cond w.r.isEmpty (some (w.a,w.b,w.s)) none
def kW:CC→Option (Expr×List CC):=oS 5 λw=>cond w.r.isEmpty (some (w.a,w.s)) none
def aV:CC→Option Expr:=oS 6 λw=>some w.a
def jq:CC→Option (List CC):=oS 7 λw=>cond (w.r.isEmpty&&(w.q.isEmpty&& !w.h.isEmpty)) (some w.s) none
def nR:CC→Bool
 | .Continue _=>true
 |_=>false
def uz:CC→Bool
 | .Break _=>true
 |_=>false
def iK:CC→Bool
 | .Raise .. =>true
 |_=>false
theorem U7{st:CC}{k}(h:jc st=some k): ∃p,st= .Return (some k) p:=Ij h λw a b=>(EG w.p (b▸a))
theorem Gh{st:CC}{k}(h:PA st=some k):st= .Assign [k.1] k.2.1 k.2.2:=Ij h λw a b=>DA b λt h1 h2=>by
 have a:st= .Assign w.l w.a w.p:=a;rw [Eg h1] at a;exact Dr (η h2) a
theorem Xb{st:CC}{k}(h:sE st=some k): ∃p,st= .If k.1 k.2.1 k.2.2 p:=Ij h λw a b=>(EG w.p (η b▸a))
theorem UY{st:CC}{k}(h:j0 st=some k): ∃p,st= .For k.1 k.2.1 k.2.2 [] p:=Ij h λw a b=>NY b λh1 h2=>by
 have a:st= .For w.a w.b w.s w.r w.p:=a;rw [AZ.mp h1] at a;exact (EG w.p (η h2▸a))
theorem Ue{st:CC}{k}(h:kW st=some k): ∃p,st= .While k.1 k.2 [] p:=Ij h λw a b=>NY b λh1 h2=>by
 have a:st= .While w.a w.s w.r w.p:=a;rw [AZ.mp h1] at a;exact (EG w.p (η h2▸a))
theorem OM{st:CC}{k}(h:aV st=some k): ∃p,st= .Expr k p:=Ij h λw a b=>(EG w.p (η b▸a))
theorem VD{st:CC}{k}(h:jq st=some k): ∃a l p,st= .Try k (a::l) [] [] p:=Ij h λw a b=>NY b λh1 h2=>by
 have a:st= .Try w.s w.h w.r w.q w.p:=a;rw [AZ.mp (band h1).1,AZ.mp (band (band h1).2).1,η h2] at a;cases q:w.h with
 |nil=>rw [q] at h1;exact ζ (band (band h1).2).2
 |cons x l=>rw [q] at a;exact (Ma x l w.p a)
end
end
end
section
mutual open A
variable{c:Cx}{A:Bs}{s:Bl}{E:Bj→Bl→Prop}{x y z:St c}{K:B4}{env:Env}{loc:Di}{f g h:Ev}{o1 o2 o3:EJ}{e:Expr}{a b:Ex}{sa sb:im}{n:Nat}
def uQ(o1:EJ):OZ:=λsc st=>oB (jc st) λe=>o1 sc e
def oIf(o1:EJ)(sa sb:im):OZ:=λsc st=>oB (sE st) λp=>o1 sc p.1&&(sa sc p.2.1&&sb sc p.2.2)
def rZ(sa:im):OZ:=λsc st=>oB (jq st) λl=>sa sc l
def ji:OZ:=λO st=>nR st
def sD:OZ:=λO st=>uz st
def jV:OZ:=λO st=>iK st
theorem xv(H:Db c A o1 f):F1 c A (uQ o1) (oE f):=λ{st env loc x} ok nf fr=>DL ok λe h1 ok=>⟨λ{out Q} ev k=>by
 refine D3 (U7 h1) λp w=> ?_;refine C9 w<|C9 (arm_exec_Return _ _ _) ?_
 refine Bk (Bv ?_);show Bp _ _ (eval e env>>=λa=>pure (Cd.ret a)) _ _ _;exact Bk ((H ok fr).1.EI ev fr λval y v l hv fy ev=>Bn (Rq k ev val y (l.X fr) rfl hv))⟩
theorem tIf(H:Db c A o1 f)(Ha:R8 c A sa a)(Hb:R8 c A sb b):F1 c A (oIf o1 sa sb) (zH f a b):=λ{st env loc x} ok nf fr=>DL ok λp h1 ok=>⟨λ{out Q} ev k=>by
 refine D3 (Xb h1) λps w=> ?_;refine C9 w<|C9 (arm_exec_If _ _ _ _ _) ?_
 refine DP ev λv σ e1 ev=>DA ev λq e2 ev=>Bk (Bv (Bk ((H (band ok).1 fr).2.run e1 e2 λy l ey=> ?_)));cases q with
 |true=>exact C9 (if_pos rfl)<|(Ha (band (band ok).2).1 nf (fr.Jz l)).run (ey.symm▸ev) (k.after (l.X fr))
 |false=>exact C9 (if_neg (by decide))<|(Hb (band (band ok).2).2 nf (fr.Jz l)).run (ey.symm▸ev) (k.after (l.X fr))⟩
theorem zE(Ha:R8 c A sa a):F1 c A (rZ sa) a:=λ{st env loc x} ok nf fr=>DL ok λp h1 ok=>⟨λ{out Q} ev k=>by
 refine TJ (VD h1) λhd hs ps w=> ?_;refine C9 w ?_;refine wpAny_Try_except (Bu ((Ha ok nf fr).run ev k) (λfl D6 h=> ?_) λO O x=>x.elim);cases fl with
 |next=>exact Bn h
 |_=>exact h⟩
theorem qT:F1 c A ji λloc σ=>some (.go 2 loc σ):=λ{st env loc x} ok nf fr=>⟨λev k=>by
 cases st with
 |Continue=>exact wpAny_Continue (Es k ev x .refl rfl fr)
 |_=>exact ζ ok⟩
theorem xI:F1 c A sD λloc σ=>some (.go 1 loc σ):=λ{st env loc x} ok nf fr=>⟨λev k=>by
 cases st with
 |Break=>exact wpAny_Break (Es k ev x .refl rfl fr)
 |_=>exact ζ ok⟩
theorem tNo{o:OZ}:F1 c A o λO O=>none:=λ{st env loc x} ok nf fr=>⟨λev k=>DC ev⟩
def XF:Expr→Bool
 | .Call .. =>true
 |_=>false
theorem Mv(fr:FR env loc x):interactive env=false:=by
 unfold interactive;exact C9 fr.S.kind rfl
theorem Pm{v:Expr}{pos:Pos}{Q:Cd→Bl→Prop}(hc:XF v=true)(fr:FR env loc x)(h:Bp (Bq c.prog c.w) A (eval v env) (λu D6=>u= .none∧Q .next D6) E s):Bp (Bq c.prog c.w) A (PySem.exec (.Expr v pos) env) Q E s:=by
 refine C9 (arm_exec_Expr _ _ _) ?_;refine Bk (Bv ?_);refine C9 (Mv fr)<|C9 (if_neg (by decide)) ?_
 have sw:CP v none pos.line env=pure false:=by cases v<;>first|rfl|exact ζ hc
 refine C9 sw ?_;refine Bk (Bn ?_);refine C9 (if_neg (by decide)) ?_;refine Bk (Bu h (λu D6 hu=> ?_) λO O x=>x);refine C9 hu.1 ?_;have dv: ∀{pos},dropValue v pos .none=pure .next:=λ{pos}=>by cases v<;>first|rfl|exact ζ hc
 refine C9 dv ?_;exact Bn hu.2
def oEx(o1:EJ):OZ:=λsc st=>oB (aV st) λe=>XF e&&o1 sc e
theorem eA{v:V}(h:isNone v=true):v= .d .none:=by
 cases v with
 |cell=>exact ζ h
 |d d=>cases d<;>first|rfl|exact ζ h
theorem dM{u:Bj}(h:x.VV u (.d .none)):u= .none:=by
 have h:DV c x.hf u .none:=h;cases h;rfl
theorem tEx(H:Db c A o1 f):F1 c A (oEx o1) (zn f):=λ{st env loc x} ok nf fr=>DL ok λe h1 ok=>⟨λ{out Q} ev k=>by
 refine D3 (OM h1) λp w=> ?_;refine C9 w ?_;refine Pm (band ok).1 fr ((H (band ok).2 fr).1.EI ev fr λval y v l hv fy ev=>DY ev λh2 ev=> ?_);rw [eA h2] at hv;exact ⟨dM hv,Es k ev y (l.X fr) rfl fy⟩⟩
theorem IW{t v:Expr}{pos:Pos}{Q:Cd→Bl→Prop}(h1:CP v (some t) pos.line env=pure false)(h2:CR [t] v env=pure none)(ht:Ca [t] env= [(false,assign t env)])
  (h:Bp (Bq c.prog c.w) A (eval v env) (λu D6=>Bp (Bq c.prog c.w) A (assign t env u) (λO Ej=>Q .next Ej) E D6) E s):Bp (Bq c.prog c.w) A (PySem.exec (.Assign [t] v pos) env) Q E s:=by
 refine C9 (arm_exec_Assign _ _ _ _) ?_;refine Bk (Bv (Bk ?_));show Bp _ _ (CP v (some t) pos.line env) _ _ _;refine C9 h1 ?_;refine Bn ?_;refine C9 (if_neg (by decide)) ?_;refine Bk (Bu h (λu D6 hu=> ?_) λO O x=>x);refine C9 h2<|C9 ht ?_
 refine Bk (Bn ?_);show Bp _ _ (do assign t env u;pure Cd.next) _ _ _;exact Bk (Bu hu (λO Ej hq=>Bn hq) λO O x=>x)
theorem N8{v:Expr}{o:Expr}{attr:Str}{ap:Pos}{line:Nat}:CP v (some (.Attribute o attr ap)) line env=pure false:=by cases v<;>rfl
theorem Yb{v:Expr}{o i:Expr}{ap:Pos}{line:Nat}:CP v (some (.Subscript o i ap)) line env=pure false:=by cases v<;>rfl
def WR(n:Nat)(o1 o2:EJ):OZ:=λsc st=>oB (PA st) λp=>oB (QM p.1) λq=>EQ q.2 (nm n)&&(o1 sc p.2.1&&o2 sc q.1)
def jp(o1 o2 o3:EJ):OZ:=λsc st=>oB (PA st) λp=>oB (Qv p.1) λq=>o1 sc p.2.1&&(o2 sc q.1&&o3 sc q.2)
theorem XX{DT:Store}{out:HW}{Q:Cd→Bl→Prop}(fr:FR env loc x)(k:Ux env x out Q)(e:some (HW.go 0 loc DT)=some out)(l:Le x y):Did y DT (Q .next):=λz m ez=>Es k e z ((l.trans m).X fr) ez (fr.Jz (l.trans m))
theorem sX(B:I2 K c)(H1:Db c A o1 f)(H2:Db c A o2 g):F1 c A (WR n o1 o2) (Zp n f g):=λ{st env loc x} ok nf fr=>DL ok λp h1 ok=>DL ok λq h2 ok=>⟨λ{out Q} ev k=>by
 refine D3 (Ia h2) λap w2=> ?_;refine C9 (Gh h1)<|C9 w2<|C9 (EH (band ok).1) ?_
 refine IW N8 rfl rfl ((H1 (band (band ok).2).1 fr).1.EI ev fr λval y v l hv fy ev=> ?_);refine C9 (arm_assign_Attribute _ _ _ _ _) ?_;refine Bk (Bt ((H2 (band (band ok).2).2 fy).1.EI ev fy λoval z ov m ho fz ev=>DA ev λDy e3 ev=> ?_));exact Bk (Bv (Bk (Bt (Oo B.F.toKF B.X ho (VV.le hv m) e3 λu n ez=>Ct (XX fr k ev (l.trans m) u n ez)))))⟩
theorem sK(hu:A.units+70<B3)(H1:Db c A o1 f)(H2:Db c A o2 g)(H3:Db c A o3 h):F1 c A (jp o1 o2 o3) (aU f g h):=λ{st env loc x} ok nf fr=>DL ok λp h1 ok=>DL ok λq h2 ok=>⟨λ{out Q} ev k=>by
 refine D3 (JI h2) λap w2=> ?_;refine C9 (Gh h1)<|C9 w2 ?_
 refine IW Yb rfl rfl ((H1 (band ok).1 fr).1.EI ev fr λval y v l hv fy ev=> ?_);refine C9 (arm_assign_Subscript _ _ _ _ _) ?_;refine Bk (Bt ((H2 (band (band ok).2).1 fy).1.EI ev fy λoval z ov m ho fz ev=> ?_));refine Bk (Bt ((H3 (band (band ok).2).2 fz).1.EI ev fz λival u iv r hi fu ev=>DA ev λDy e3 ev=> ?_));exact Bk (Bv (Bk (Bt (Oy (by exact sV hu rfl) (VV.le ho r) hi (VV.le (VV.le hv m) r) e3 λu n ez=>Ct (XX fr k ev (l.trans (m.trans r)) u n ez)))))⟩
end
end
section
mutual open A
variable{c:Cx}{A:Bs}{s:Bl}{x y z:St c}{K:B4}{env:Env}{loc:Di}{f g h:Ev}{o1 o2:EJ}{e:Expr}{a b:Ex}{fa:Nat→Br}{G:HL}{kk n:Nat}
def XM:Expr→Bool
 | .DictComp .. =>false
 | .SetComp .. =>false
 |_=>true
theorem Um{elt:Expr}{gens:List B6}{sc:CM}{YQ GQ:Pos}{id:Str}{line:Nat}: ∃b,CP (.ListComp elt gens sc YQ) (some (.Name id GQ)) line env=pure b:=(EG _ rfl)
theorem Yj{v:Expr}{t:Expr}{line:Nat}(h1:LE v=false)(h2:XM v=true):CP v (some t) line env=pure false:=by
 cases v<;>first|rfl|exact ζ h1|exact ζ h2
theorem ag{v:Expr}(h:LE v=true): ∃elt gens sc pos,v= .ListComp elt gens sc pos:=by cases v<;>first|exact (pU _ _ _ _ rfl)|exact ζ h
theorem Jl.off{C:Br}(l:Jl env x y)(hC:x.s.heap.get? C=none){s':Bl}(k: ∀b o,b≠C→y.s.heap.get? b=some o→s'.heap.get? b=some o)(sm:GB y.s s')(R:F5 c y.hf y.ρ y.σ s'.heap):Jl env x ⟨y.hf,y.ρ,y.σ,s',R⟩:=
 ⟨l.kf,l.Jg,λb o e n nx=>k b o (λz=>DC (hC.symm.trans (z▸e))) (l.Ee b o e n nx),l.FA,l.EE,λb hb ⟨o,e⟩=>D3 (l.there b hb (EG o e)) λo' e'=>(EG o' (k b o' (λz=>DC (hC.symm.trans (z▸e))) e')),l.sm.trans sm⟩
def un(n:Nat)(o1:EJ):OZ:=λsc st=>oB (PA st) λp=>oB (MJ p.1) λid=>EQ id (nm n)&&(Μ n Fw.length&&(seen sc (nm n)&&(XM p.2.1&&o1 sc p.2.1)))
theorem Pg{v:Expr}{GQ pos:Pos}{out:HW}{Q:Cd→Bl→Prop}(H:Db c A o1 f)(hs:CP v (some (.Name (nm n) GQ)) pos.line env=pure false)(a2:Μ n Fw.length=true)(a3:seen (vw env.scope) (nm n)=true)(ok:o1 (vw env.scope) v=true)(nf:NF env)(fr:FR env loc x)(ev:ij n f loc x.σ=some out)(k:Ux env x out Q):Bp (Bq c.prog c.w) A (PySem.exec (.Assign [.Name (nm n) GQ] v pos) env) Q Dq x.s:=
 IW hs rfl rfl ((H ok fr).1.EI ev fr λval y u l hv fy ev=>B5 (Ig a2 a3 nf fy hv λs' R I5 lx=>Es k ev ⟨y.hf,y.ρ,y.σ,s',R⟩ ((l.X fr).trans lx) rfl I5))
theorem y8(H:Db c A o1 f)(HC:VM c A o1 f):F1 c A (un n o1) (ij n f):=λ{st env loc x} ok nf fr=>DL ok λp h1 ok=>DL ok λid h2 ok=>⟨λ{out Q} ev k=>by
 refine wr λZ0 z0=> ?_;refine Dl (band ok) λa1 ok=> ?_;refine Dl (band ok) λa2 ok=> ?_;refine Dl (band ok) λa3 ok=> ?_;refine Dl (band ok) λa4 ok=> ?_;refine D3 (Eh h2) λnp w=> ?_;refine z0 ?_;refine C9 (Gh h1)<|C9 w<|C9 (EH a1) ?_
 cases hl:LE p.2.1 with
 |false=>exact Pg H (Yj hl a4) a2 a3 ok nf fr ev k
 |true=>
  refine nG (ag hl) λelt gens sc YQ w2=> ?_;rw [w2] at ok ⊢;refine D3 (Um (env:=env) (elt:=elt) (gens:=gens) (sc:=sc) (YQ:=YQ) (GQ:=np) (id:=nm n) (line:=p.2.2.line)) λb hb=> ?_;cases b with
  |false=>exact Pg H hb a2 a3 ok nf fr ev k
  |true=>
   refine DP ev λr DT e1 ev=> ?_;refine C9 (arm_exec_Assign _ _ _ _) ?_;refine Bk (Bv (Bk ?_));refine wpAny_of_eq (show swapsWithSole _ _ _ _=pure true from hb) ?_;refine C9 (if_pos rfl)<|C9 (arm_evalThenUse_ListComp _ _ _ _ _ _) ?_
   refine Bk (Bk ((HC ok fr).run (Q:=λO s'=>Bp (Bq c.prog c.w) A (pure ()) (λO s'=>Bp (Bq c.prog c.w) A (pure Cd.next) Q Dq s') Dq s') e1 λkeep vs us m y Dd C ce hv hb em=> ?_));refine Jn ce.ns λmC oC es ep hC rr=> ?_;show Bp _ _ (assign (.Name (nm n) np) env (.ref Dd)) _ _ _;refine aW (p:=(Dd,Dd)) (s':=y.s) (Q:=λv s'=>Bp (Bq c.prog c.w) A (assign (.Name (nm n) np) env v) _ Dq s') em ce.le.nx y.R ce.nD ce.pD.1 ce.pD.2 ce.d ⟨rfl,hb,m,rfl⟩ hv rfl ce.le.sm λval z l ez hz pv hs=> ?_;refine Dl (pv C oC hC (Ne.symm ce.ne) ce.pC.1 ce.pC.2) λpz1 pz2=> ?_
   have tJ: ¬NP env C:=λz=>by
    refine D3 (fr.ex z) λo ho=> ?_;exact DC (ce.nC.symm.trans ho)
   refine B5 (Ig a2 a3 nf (fr.Jz l) hz λOB xZ kB lx=> ?_);refine (DM mC (QQ oC es ep (lx.Ee C oC (by exact C9 hs hC) pz2 tJ) rr) (λh' bj=> ?_));have OX: ∀b o,b≠C→OB.heap.get? b=some o→h'.get? b=some o:=λb o hb e=>(bj.2 b hb).trans e;have vG:F5 c z.hf z.ρ z.σ h':=St.off ⟨z.hf,z.ρ,z.σ,OB,xZ⟩ pz1 pz2 OX;refine Bn (Bn (Es k ev ⟨z.hf,z.ρ,z.σ,{OB with heap:=h'},vG⟩ (((l.X fr).trans lx).off (s':={OB with heap:=h'}) ce.nC OX ⟨rfl,rfl,rfl⟩ vG) ez ?_));exact kB.move (λb hb o e=>OX b o (λz=>tJ (z▸hb)) e) (λO O h=>h) λb hb=>kB.Ee b hb⟩
def kI(o1 o2:EJ):OZ:=λsc st=>oB (aV st) λe=>oB (M6 e) λp=>oB (QS p.1) λq=>oB (only p.2.1) λa=>EQ q.2.1 (nm 57)&&(J6 q.1&&((q.2.2.endLine==p.2.2.line)&&(o1 sc q.1&&J4 a λid l=>oB (only l) λv=>Oq sc "reversed" id&&o2 sc v)))
theorem rq(Z:Zt K c fa G A kk)(H1:Db c A o1 f)(H2:Db c A o2 g)(P:D8 o2):F1 c A (kI o1 o2) (au f g):=λ{st env loc x} ok nf fr=>DL ok λe h1 ok=>DL ok λp h2 ok=>DL ok λq h3 ok=>DL ok λa h4 ok=>⟨λ{out Q} ev k=>by
 refine wr λZ0 z0=> ?_;refine Dl (band ok) λa1 ok=> ?_;refine Dl (band ok) λa2 ok=> ?_;refine Dl (band ok) λa3 ok=> ?_;refine Dl (band ok) λa4 ok=> ?_;refine D3 (OM h1) λps w1=> ?_;refine z0 ?_;refine C9 w1<|C9 (IX h2)<|C9 (Kv h3)<|C9 (Eg h4)<|C9 (EH a1) ?_
 refine FD (P:=λa=>Bp (Bq c.prog c.w) A (PySem.exec (.Expr (.Call (.Attribute q.1 (nm 57) q.2.2) [a] [] p.2.2) ps) env) Q Dq x.s) ok λid GQ l pos ok=>DL ok λv h5 ok=> ?_;refine C9 (Eg h5) ?_;refine Pm rfl fr (O5 a2 a3 rfl rfl ((H1 a4 fr).1.EI ev fr λvo y o l ho fy ev=>DY ev λhb ev=>DP ev λu DK e1 ev=>DA ev λd e2 ev=>DA ev λds e3 ev=>DA ev λDy e4 ev=> ?_));refine (Gp (.builtin "list.extend") ([vo]) (λpl Q' hQ=>Xa (LR ho hb) PySem.F.plainAttrs_list PySem.F.slot_list_extend PySem.F.type_list_extend hQ) ?_);refine Calls.callWith_builtin rfl (Calls.evalArgs_plain (Calls.spliced_cons ?_));refine CO rfl (dN Z.B Z.T (v:= .type "reversed") (band ok).1 12 rfl rfl (by decide) (by decide) fy (dU Z.B H2 P (.ty _) (band ok).2 fy e1 λuv z m ez hv=> ?_));refine Ss (GW e3▸HV e2 hv) λit w n ew wd hT=>Calls.spliced_nil (L7 (x:=w) Z.rm.handled (VV.le (VV.le ho m) n) wd hT (by exact C9 ew<|C9 ez e4) λs' R k' sm=>⟨rfl, ?_⟩);have lz:Le z ⟨w.hf,w.ρ,Dy,s',R⟩:=⟨⟨n.nx.kf,n.nx.Jg,λb o e nn=>k' b o (λp hp q=>(n.nx.EE p hp).elim (λ⟨r,hr,t⟩=>nn r hr (t.trans q)) λt=>DC (t.symm.trans (q▸e))) (λt=>DC (t.symm.trans e)) (n.nx.Ee b o e nn),n.nx.FA,n.nx.EE⟩,n.sm.trans sm⟩;exact Es k ev ⟨w.hf,w.ρ,Dy,s',R⟩ ((l.trans (m.trans lz)).X fr) rfl (fr.Jz (l.trans (m.trans lz)))⟩
end
end
section
mutual open A
variable{c:Cx}{A:Bs}{s:Bl}{x y z:St c}{env:Env}{loc:Di}{f h:Ev}{o1:EJ}{e:Expr}{a b:Ex}{sa:im}{n:Nat}{l:List D}{i:Nat}
theorem Nl{n x:Nat}{v:V}{l:Di}: ∀{dead:List Nat},DE (Dt n dead l) x=some v→has x dead=false∧DE l x=some v∧FP n v=false:=by
 induction l with
 |nil=>intro dead e;exact DC e
 |cons p r ih=>
  intro dead e;have e:DE (cond (has p.1 dead||FP n p.2) (Dt n (p.1::dead) r) (p::Dt n dead r)) x=some v:=e;show _∧cond (μ p.1 x) (some p.2) (DE r x)=some v∧_;cases q:has p.1 dead||FP n p.2 with
  |true=>
   rw [q] at e;refine ET (ih e) λh1 h2 h3=> ?_;have h1:(μ p.1 x||has x dead)=false:=h1;cases z:μ p.1 x with
   |true=>rw [z] at h1;exact ζ h1
   |false=>rw [z] at h1;exact ⟨h1,h2,h3⟩
  |false=>
   rw [q] at e;have e:cond (μ p.1 x) (some p.2) (DE (Dt n dead r) x)=some v:=e;cases z:μ p.1 x with
   |true=>
    rw [z] at e;have q:=AU.mp q;refine Dr (nb z)<|Dr (η e) ?_
    exact ⟨q.1,rfl,q.2⟩
   |false=>rw [z] at e;exact ih e
def St.cut(y:St c)(n:Nat):St c:=⟨y.hf,y.ρ.take n,y.σ.take n,y.s,y.R.trunc n⟩
theorem cN{DG:Di}(l:Jl env x y)(fr:FR env DG y):Jl env x (y.cut x.σ.length)∧FR env (Dt x.σ.length [] DG) (y.cut x.σ.length):=by
 refine ⟨⟨l.kf,λi p e=> ?_,l.Ee,l.FA,λp hp=>l.EE p (BC hp),l.there,l.sm⟩,⟨fr.S,λa v e=>fr.low a v (Nl e).2.1,λa v e se=> ?_,fr.ns,fr.cell,λb hb=>⟨(fr.Ee b hb).1,λp hp=>(fr.Ee b hb).2 p (BC hp)⟩⟩⟩
 ·have hi:=FG e
  rw [x.R.len] at hi;exact (Ab.trans (if_pos hi)).trans (l.Jg i p e)
 ·refine ET (Nl e) λO h2 h3=> ?_
  refine DQ (fr.vals a v h2 se) λval a b=> ?_;exact (DM val a (b.down h3))
def fm(m:Nat)(out:HW)(k:Di→Store→Option HW):Option HW:=match out with
 | .go 1 loc σ=>some (.go 0 (Dt m [] loc) (σ.take m))
 | .go _ loc σ=>k (Dt m [] loc) (σ.take m)
 | .ret v σ=>some (.ret v σ)
theorem TA{rT:St c}{out o:HW}{k:Di→Store→Option HW}{Q:Cd→Bl→Prop}{R:Cd→Bl→Prop}(l:Jl env rT x)(e:fm x.σ.length out k=some o)(q:Ux env rT o Q)
  (h1: ∀(y:St c) DG,Jl env x y→FR env DG y→k DG y.σ=some o→R .next y.s∧R .cont y.s) (h2: ∀s,Q .next s→R .brk s) (h3: ∀v s,Q (.ret v) s→R (.ret v) s):Ux env x out R:=by
 cases out with
 |ret v σ=>exact λval y m ey hv=>h3 _ _ (Rq q e val y (l.trans m) ey hv)
 |go n loc σ=>
  intro y m ey fr;refine Dl (cN m fr) λm' I5=> ?_
  match n,e with
  |0,e=>exact (h1 _ _ m' I5 (by exact C9 (show (y.cut x.σ.length).σ=σ.take x.σ.length from congrArg (List.take x.σ.length) ey) e)).1
  |1,e=>exact h2 _ (Es q e (y.cut x.σ.length) (l.trans m') (congrArg (List.take x.σ.length) ey) I5)
  |n+2,e=>exact (h1 _ _ m' I5 (by exact C9 (show (y.cut x.σ.length).σ=σ.take x.σ.length from congrArg (List.take x.σ.length) ey) e)).2
def vV(o1:EJ)(sa:im):OZ:=λsc st=>oB (kW st) λp=>o1 sc p.1&&sa sc p.2
structure WI(env:Env)(x:St c)(t:Ev)(b:Ex)(out:HW)(n:Nat)(s:Bl)(y:St c)(loc:Di):Prop where
 hs:s=y.s
 l:Jl env x y
 fr:FR env loc y
 e:EC (M9 t) b n loc y.σ=some out
theorem yX(H:Db c A o1 f)(Ha:R8 c A sa a):F1 c A (vV o1 sa) (lH f a):=λ{st env loc x} ok nf fr=>DL ok λp h1 ok=>⟨λ{out Q} ev k=>by
 refine D3 (Ue h1) λps w=> ?_;refine C9 w ?_;refine wpAny_While (codeAny_whileLoop (λn s=> ∃y loc,WI env x f a out n s y loc) (λn s I=> ?_) SE ⟨x,loc,rfl, .refl,fr,ev⟩);obtain ⟨y,DG,hs,l,fy,e⟩:=I;refine C9 hs ?_;cases n with
 |zero=>exact DC e
 |succ n=>
  refine DP (x:=M9 f DG y.σ) e λt DD e1 e=>DP (x:=f DG y.σ) e1 λv DK e2 e3=> ?_
  refine Bu ((H (band ok).1 fy).2.run e2 (b:=t) (Q:=λb Ej=>Bp (Bq c.prog c.w) A (cond b (PySem.execs p.2 env) (pure .next)) (λfl G7=>cond b (match fl with
   | .next| .cont=> ∃m,m<n+1∧ ∃y loc,WI env x f a out m G7 y loc
   | .brk=>Q .next G7
   | .ret v=>Q (.ret v) G7) (Q fl G7)) Dq Ej) ?_ ?_) (λb Ej h=> ?_) λO O x=>x.elim
  ·exact Fs (P:=λt DD=>G1 DK v=some t) e3 λq h=>h
  ·intro z m ez
   have ez:z.σ=DD:=ez.trans (Fs (P:=λt DD=>DK=DD) e3 λO O=>rfl);have mX:=m.X fy;have fz:=fy.Jz m;cases t with
   |false=>exact Bn (Es k e z (l.trans mX) ez fz)
   |true=>
    refine DA (x:=a DG DD) e λo1 e4 e=>(Ha (band ok).2 nf fz).run (ez.symm▸e4) (Ux.after ?_ mX);refine TA l (k:=EC (M9 f) a n) (o:=out) (by cases o1 with|ret=>exact e|go m l s=>exact (match m,e with|0,e=>e|1,e=>e|m+2,e=>e)) k (λu eh m' fu e=> ?_) (λO h=>h) λO O h=>h;have I: ∃m,m<n+1∧ ∃y loc,WI env x f a out m u.s y loc:=⟨n,AF n,u,eh,rfl,l.trans m',fu,e⟩;exact ⟨I,I⟩
  ·cases b with
   |true=>
    refine C9 (if_pos rfl) ?_;refine Bu h (λfl G7 h=> ?_) λO O x=>x.elim;cases fl<;>exact h
   |false=>
    refine C9 (if_neg (by decide)) ?_;exact Bu h (λfl G7 h=>h) λO O x=>x.elim⟩
end
end
section
mutual open A
variable{c:Cx}{A:Bs}{s:Bl}{x y z:St c}{env:Env}{loc:Di}{f h:Ev}{o1:EJ}{e:Expr}{a b:Ex}{sa:im}{n:Nat}{fi:ef}{it:Bj}{l:List D}{i:Nat}{free:Br→Prop}
theorem EP.lex(W:EP c free x.hf x.ρ it l i x.s.heap)(n:Jl env x y)(hx: ∀b,free b→ ¬NP env b):EP c free y.hf y.ρ it l i y.s.heap:=by
 refine FT W λI fp wr P S e w st=> ?_;clear W;refine (GX I fp wr P S e ⟨w.W,w.ex,λi v d p q=>(w.dv i v d p q).mono n.kf,λb hb=>(w.f1 b hb).imp (λ⟨o,ho⟩=>(EG o (n.kf _ _ ho))) id,λb hb=> ?_⟩ ((w.W {} rfl).frame i _ _ st λb hb o e=> ?_))
 ·refine ET (w.f2 b hb) λg1 g2 g3=> ?_
  refine D3 ((w.ex i _ st).2 b ((w.W {} rfl).sub b hb)) λo ho=> ?_;refine ⟨?_,λp hp e=> ?_,g3⟩
  ·cases q:y.hf b with
   |none=>rfl
   |some o'=>
    rcases n.FA b o' q with z|⟨p,hp,z⟩|z
    ·exact DC (g1.symm.trans z)
    ·exact absurd z (g2 p hp)
    ·exact DC (z.symm.trans ho)
  ·rcases n.EE p hp with ⟨q,hq,z⟩|z
   ·exact g2 q hq (z.trans e)
   ·exact DC (z.symm.trans (e▸ho))
 ·rcases w.f1 b hb with ⟨o',Jv⟩|w'
  ·exact Dr (η ((x.R.keep _ _ Jv).symm.trans e))<|y.R.keep _ _ (n.kf _ _ Jv)
  ·exact n.Ee b o e (w.f2 b w').2.1 (hx b (w.f2 b w').2.2)
theorem Jl.TY{Z:Br→Prop}(l:Jl env x y)(hZ: ∀b,Z b→x.s.heap.get? b=none){s':Bl}(k: ∀b o,¬Z b→y.s.heap.get? b=some o→s'.heap.get? b=some o)(sm:GB y.s s')(R:F5 c y.hf y.ρ y.σ s'.heap):Jl env x ⟨y.hf,y.ρ,y.σ,s',R⟩:=
 ⟨l.kf,l.Jg,λb o e n nx=>k b o (λz=>DC ((hZ b z).symm.trans e)) (l.Ee b o e n nx),l.FA,l.EE,λb hb ⟨o,e⟩=>D3 (l.there b hb (EG o e)) λo' e'=>(EG o' (k b o' (λz=>DC ((hZ b z).symm.trans e)) e')),l.sm.trans sm⟩
def sU(n:Nat)(oi:EJ)(sa:im):OZ:=λsc st=>oB (j0 st) λp=>oB (MJ p.1) λid=>EQ id (nm n)&&(Μ n Fw.length&&(seen sc (nm n)&&(oi sc p.2.1&&sa sc p.2.2)))
structure FI(env:Env)(x:St c)(a:Ex)(n:Nat)(out:HW)(it:Bj)(l:List D)(m:Nat)(s:Bl)(i:Nat)(y:St c)(loc:Di):Prop where
 hi:i≤l.length
 hn:m=l.length - i
 hs:s=y.s
 lx:Jl env x y
 fr:FR env loc y
 w:EP c (λb=>x.s.heap.get? b=none) y.hf y.ρ it l i y.s.heap
 e:El a n (l.drop i) loc y.σ=some out
theorem hR{out:HW}{Q:Cd→Bl→Prop}{body:List CC}{GQ:Pos}(hh:A.handled=none)(Ha:R8 c A sa a)(nf:NF env)(fx:FR env loc x)(a2:Μ n Fw.length=true)(a3:seen (vw env.scope) (nm n)=true)(ok:sa (vw env.scope) body=true)(k:Ux env x out Q)(l0:Jl env x y)(fr:FR env loc y)(w:EP c (λb=>x.s.heap.get? b=none) y.hf y.ρ it l 0 y.s.heap)(ev:El a n l loc y.σ=some out):
  Ci (Bq c.prog c.w) A (.forLoop (.Name (nm n) GQ) it body [] env) (λr s'=>match r with| .ok f=>Q f s'| .error e=>cameBackBy (Bq c.prog c.w) A env Dq e s') y.s:=by
 refine codeAny_forLoop_any (λm s=> ∃i y loc,FI env x a n out it l m s i y loc) (λm s I=> ?_) l.length ⟨0,y,loc,AT _,rfl,rfl,l0,fr,w,ev⟩;clear l0 fr w ev;obtain ⟨i,y,DG,hi,hn,hs,l0,fr,w,e⟩:=I;refine C9 hs ?_
 have aQ: ∀b,x.s.heap.get? b=none→ ¬NP env b:=λb h z=>by
  refine D3 (fx.ex z) λo ho=> ?_;exact DC (h.symm.trans ho)
 rcases Nat.lt_or_ge i l.length with lt|ge
 ·rw [Av lt] at e
  refine DA (x:=a (DR DG n (.d l[i])) y.σ) e λo1 e1 e=> ?_;refine w.item hh (Τ lt) λv D6 M5 hv bP k₁ SZ=>ST bP ?_;have lx:=l0.TY (λb z=>z) k₁ SZ M5;have y6:FR env DG ⟨y.hf,y.ρ,y.σ,D6,M5⟩:=fr.move (λb hb o e=>k₁ b o (λz=>aQ b z hb) e) (λO O h=>h) λb hb=>fr.Ee b hb;refine B5 (Ig (x:=⟨y.hf,y.ρ,y.σ,D6,M5⟩) (v:= .d l[i]) a2 a3 nf y6 hv λEj KR zl j7=> ?_);have y7:=EP.lex (x:=⟨y.hf,y.ρ,y.σ,D6,M5⟩) (y:=⟨y.hf,y.ρ,y.σ,Ej,KR⟩) bP j7 aQ;have Id:=lx.trans j7
  refine Bu ((Ha ok nf zl).run (x:=⟨y.hf,y.ρ,y.σ,Ej,KR⟩) e1 (TA (x:=⟨y.hf,y.ρ,y.σ,Ej,KR⟩) Id (k:=El a n (l.drop (i+1))) (o:=out) (R:=λfl G7=>match fl with
    | .next| .cont=> ∃m',m'<m∧ ∃i y loc,FI env x a n out it l m' G7 i y loc
    | .brk=>Q .next G7
    | .ret v=>Q (.ret v) G7) ?_ k (λu eh m' fu e=> ?_) (λs h=>h) λv s h=>h)) (λfl G7 h=> ?_) λO O x=>x.elim
  ·cases o1 with
   |ret=>exact e
   |go m l s=>exact (match m,e with|0,e=>e|1,e=>e|m+2,e=>e)
  ·have I: ∃m',m'<m∧ ∃i y loc,FI env x a n out it l m' u.s i y loc:=⟨_,hn▸Ba _ _ lt,i+1,u,eh,lt,rfl,rfl,Id.trans m',fu,y7.lex m' aQ,e⟩
   exact ⟨I,I⟩
  ·cases fl<;>exact h
 ·have kT:=Aq hi ge
  rw [kT,List.drop_length] at e;rw [kT] at w;refine w.done hh λD6 M5 k₁ SZ=> ?_;have lx:=l0.TY (λb z=>z) k₁ SZ M5;exact Bn (Es k e ⟨y.hf,y.ρ,y.σ,D6,M5⟩ lx rfl (fr.move (λb hb o e=>k₁ b o (λz=>aQ b z hb) e) (λO O h=>h) λb hb=>fr.Ee b hb))
theorem xr(hh:A.handled=none){q:Nat}{eQ:List EJ}(HI:X1 c A (Zb q eQ) fi)(Ha:R8 c A sa a):F1 c A (sU n (Zb q eQ) sa) (pJ n fi a):=λ{st env loc x} ok nf fr=>DL ok λp h1 ok=>DL ok λid h2 ok=>⟨λ{out Q} ev k=>by
 refine wr λZ0 z0=> ?_;refine Dl (band ok) λa1 ok=> ?_;refine Dl (band ok) λa2 ok=> ?_;refine Dl (band ok) λa3 ok=> ?_;refine Dl (band ok) λa4 ok=> ?_;refine D3 (Eh h2) λnp w=> ?_;refine D3 (UY h1) λps w2=> ?_;refine z0 ?_;refine C9 w2<|C9 w<|C9 (EH a1) ?_
 refine DP ev λl DD e1 ev=>wpAny_For ((HI a4 fr).run e1 λit y l0 ey W Eb=> ?_) (RE (NI a4) env);exact hR hh Ha nf fr a2 a3 ok k (l0.X fr) (fr.Jz l0) W (ey.symm▸ev)⟩
end
end
section
mutual open A
variable{c:Cx}{A:Bs}{s:Bl}{x y z:St c}{env:Env}{loc:Di}{f h:Ev}{o1:EJ}{e:Expr}{os:List EJ}{fs:List Ev}{n:Nat}{pos:Pos}{xs:List Nat}
def Ou:List Nat→List V→Di→Di
 |x::xs,v::vs,loc=>Ou xs vs (DR loc x v)
 |_,_,loc=>loc
theorem Yd(x:Nat)(v:V)(xs:List Nat): ∀(vs:List V) (loc:Di),xs.length=vs.length→Ou (xs++ [x]) (vs++ [v]) loc=DR (Ou xs vs loc) x v:=by
 induction xs with
 |nil=>intro vs loc h;cases vs with
  |nil=>rfl
  |cons=>exact Α h
 |cons y xs ih=>intro vs loc h;cases vs with
  |nil=>exact Α h
  |cons u vs=>exact ih vs _ (AK.inj h)
theorem Lw{xs:List Nat}: ∀{vs:List V} {loc DG:Di},Iw xs vs loc=some DG→xs.length=vs.length:=by
 induction xs with
 |nil=>intro vs loc DG e;cases vs with
  |nil=>rfl
  |cons=>exact DC e
 |cons x xs ih=>intro vs loc DG e;cases vs with
  |nil=>exact DC e
  |cons v vs=>exact DA (x:=Iw xs vs loc) e λl h1 O=>congrArg (· +1) (ih h1)
theorem Y6{xs:List Nat}: ∀{vs:List V} {loc DG:Di},Iw xs vs loc=some DG→Ou xs.reverse vs.reverse loc=DG:=by
 induction xs with
 |nil=>intro vs loc DG e;cases vs with
  |nil=>exact η e
  |cons=>exact DC e
 |cons x xs ih=>intro vs loc DG e;cases vs with
  |nil=>exact DC e
  |cons v vs=>
   refine DA (x:=Iw xs vs loc) e λl h1 e=> ?_;refine C9 Ag<|C9 Ag<|C9 (Yd _ _ _ _ _ (by rw [AX,AX,Lw h1]))<|C9 (ih h1) ?_
   exact η e
theorem Uz{a:Nat}(xs:List Nat): ∀(vs:List V) {l l':Di},(∀a,DE l a=DE l' a)→DE (Ou xs vs l) a=DE (Ou xs vs l') a:=by
 induction xs with
 |nil=>intro vs l l' h;exact h a
 |cons x xs ih=>intro vs l l' h;cases vs with
  |nil=>exact h a
  |cons v vs=>exact ih vs λb=>by (exact C9 E8<|C9 E8<|C9 (h b) rfl)
def distinct:List Nat→Bool
 | []=>true
 |x::r=> !has x r&&distinct r
theorem d8{x:Nat}{v:V}(xs:List Nat): ∀(vs:List V) (loc:Di) (a:Nat),has x xs=false→DE (Ou xs vs (DR loc x v)) a=DE (DR (Ou xs vs loc) x v) a:=by
 induction xs with
 |nil=>intro vs loc a _;rfl
 |cons y xs ih=>intro vs loc a h;cases vs with
  |nil=>rfl
  |cons u vs=>
   have h:(μ y x||has x xs)=false:=h;have h:=AU.mp h;have ne: ¬y=x:=λz=>by rw [z,AH] at h;exact ζ h.1
   refine Eq.trans (Uz xs vs λb=> ?_) (ih vs (DR loc y u) a h.2);refine C9 E8<|C9 E8<|C9 E8<|C9 E8 ?_
   by_cases w:y=b
   ·(exact C9 (if_pos w)<|C9 (if_pos w)<|C9 (if_neg λz=>ne (w.trans z.symm)) rfl)
   ·(exact C9 (if_neg w)<|C9 (if_neg w) rfl)
theorem UF{xs:List Nat}: ∀{vs:List V} {loc DG:Di},distinct xs=true→Iw xs vs loc=some DG→ ∀a,DE (Ou xs vs loc) a=DE DG a:=by
 induction xs with
 |nil=>intro vs loc DG _ e a;cases vs with
  |nil=>exact Dr (η (e:some loc=some DG)) rfl
  |cons=>exact DC e
 |cons x xs ih=>intro vs loc DG hd e a;cases vs with
  |nil=>exact DC e
  |cons v vs=>
   refine Dl (band hd) λh1 h2=> ?_;refine DA (x:=Iw xs vs loc) e λl e1 e=> ?_;refine Dr (η e) ?_;refine (d8 xs vs loc a (by rw [A8] at h1;exact h1)).trans ?_
   (exact C9 E8<|C9 E8<|C9 (ih h2 e1 a) rfl)
theorem FR.look{l l':Di}(fr:FR env l x)(h: ∀a,DE l a=DE l' a):FR env l' x:=⟨fr.S,λa v e=>fr.low a v ((h a).trans e),λa v e=>fr.vals a v ((h a).trans e),fr.ns,fr.cell,fr.Ee⟩
def zY(c:Cx)(A:Bs)(env:Env)(f:Bj→Sem Unit)(n:Nat):Prop:=Μ n Fw.length=true∧seen (vw env.scope) (nm n)=true∧ ∀{v s} {Q:Unit→Bl→Prop},Bp (Bq c.prog c.w) A (storeName env (nm n) v) Q Dq s→Bp (Bq c.prog c.w) A (f v) Q Dq s
theorem Oa{fs:List (Bj→Sem Unit)}(H:DS (zY c A env) fs xs)(nf:NF env): ∀{us:List Bj} {vs:List V} {x:St c} {loc:Di} {Q:Unit→Bl→Prop},x.GC us vs→FR env loc x→
  (∀s' (R:F5 c x.hf x.ρ x.σ s'.heap),FR env (Ou xs vs loc) ⟨x.hf,x.ρ,x.σ,s',R⟩→Jl env x ⟨x.hf,x.ρ,x.σ,s',R⟩→Q () s')→Bp (Bq c.prog c.w) A (assignInOrder fs us) Q Dq x.s:=by
 induction H with
 |nil=>exact λ{us vs x loc Q} hv fr k=>Bn (k x.s x.R fr .refl)
 | @cons f n fs xs H1 _ ih=>
  intro us vs x loc Q hv fr k;cases hv with
  |nil=>exact Bn (k x.s x.R fr .refl)
  | @cons u v us vs h1 h2=>
   show Bp _ _ (do C6 us (f u);assignInOrder fs us) _ _ _;exact Bk (Bt (H1.2.2 (Ig H1.1 H1.2.1 nf fr h1 λs' R I5 lx=>ih (x:=⟨x.hf,x.ρ,x.σ,s',R⟩) h2 I5 λs'' R' y4 lx'=>k s'' R' y4 (lx.trans lx'))))
def fb(sc:Vw):List Nat→List Expr→Bool
 | [], []=>true
 |x::xs,e::es=>oB (MJ e) (λid=>EQ id (nm x)&&(Μ x Fw.length&&seen sc (nm x)))&&fb sc xs es
 |_,_=>false
structure Ts(c:Cx)(A:Bs)(env:Env)(xs:List Nat)(ts:List Expr):Prop where
 star:(Ca ts env).findIdx? (·.1)=none
 len:(Ca ts env).length=xs.length
 len2:ts.length=xs.length
 st:DS (zY c A env) ((Ca ts env).map (·.2)) xs
 st2:DS (zY c A env) ((xs.map nm).map λn=>bindName env n) xs
 ids: ∀q:Str→Pos→Bool,(ts.filterMap fun| .Name id pos=>if q id pos=true then some id else none|_=>none).length=ts.length→(ts.filterMap fun| .Name id pos=>if q id pos=true then some id else none|_=>none)=xs.map nm
theorem jS{xs:List Nat}: ∀{ts:List Expr},fb (vw env.scope) xs ts=true→Ts c A env xs ts:=by
 induction xs with
 |nil=>intro ts ok;cases ts with
  |nil=>exact ⟨rfl,rfl,rfl, .nil, .nil,λO O=>rfl⟩
  |cons=>exact ζ ok
 |cons x xs ih=>intro ts ok;cases ts with
  |nil=>exact ζ ok
  |cons e ts=>
   refine wr λZ0 z0=> ?_;refine Dl (band ok) λG2 J0=> ?_;obtain ⟨i1,i2,i3,i4,i5,i6⟩:=ih J0;refine DL G2 λid h1 G2=> ?_;refine Dl (band G2) λa1 G2=> ?_;refine Dl (band G2) λa2 a3=> ?_;refine D3 (Eh h1) λp w=> ?_;refine z0 ?_;refine C9 w<|C9 (EH a1) ?_
   have each:Ca (Expr.Name (nm x) p::ts) env=(false,assign (.Name (nm x) p) env)::Ca ts env:=rfl;refine ⟨?_, ?_,congrArg (· +1) i3, ?_, .cons ⟨a2,a3,λh=>wpAny_bindName h⟩ i5,λq hq=> ?_⟩
   ·exact C9 each<|C9 (List.findIdx?_cons)<|C9 i1 rfl
   ·exact C9 each<|congrArg (· +1) i2
   ·exact C9 each<| .cons ⟨a2,a3,λh=>B5 h⟩ i4
   ·rw [As] at hq ⊢
    dsimp only at hq ⊢;cases hc:q (nm x) p with
    |true=>
     rw [hc,if_pos rfl] at hq;refine C9 (if_pos rfl) ?_;exact congrArg (nm x:: ·) (i6 q (AK.inj hq))
    |false=>
     rw [hc,if_neg Aj] at hq
     have:=List.length_filterMap_le (fun| .Name id pos=>if q id pos=true then some id else none|_=>none) ts
     dsimp only at hq;rw [ξ] at hq;exact absurd (AQ (AF _) (hq▸this)) (Nat.lt_irrefl _)
theorem ML{v:Expr}{ts:List Expr}{q:Nat}{tp:Pos}{line:Nat}:swapsWithSole [.Tuple ts q tp] v line env=pure false:=by cases v<;>rfl
theorem Rc{v:Expr}{ts:List Expr}{q:Nat}{tp:Pos}(h:(H0 v).isNone=true):CR [.Tuple ts q tp] v env=pure none:=by cases v<;>first|rfl|exact ζ h
theorem Tm{h':Bz}(he:Bz.ExtBut x.s.heap.objs.size x.s.heap h'): ∀b o,x.s.heap.get? b=some o→h'.get? b=some o:=λb o e=>he b o (AW (Ad e)) e
def jK(xs:List Nat)(o1:EJ):OZ:=λsc st=>oB (PA st) λp=>oB (H0 p.1) λts=>fb sc xs ts&&(distinct xs&&((H0 p.2.1).isNone&&o1 sc p.2.1))
theorem b7{p:Br×Br}{us:List Bj}{vs:List V}{DG:Di}{m:Nat}{ts:List Expr}{q:Nat}{tp:Pos}{Q:Unit→Bl→Prop}(hh:A.handled=none)(T:Ts c A env xs ts)(nf:NF env)(fr:FR env loc x)(ht:x.s.heap.get? p.1=some (GZ us m))(hv:x.GC us vs)(hd:distinct xs=true)(e:Iw xs vs loc=some DG)
  (k: ∀s' (R:F5 c x.hf x.ρ x.σ s'.heap),FR env DG ⟨x.hf,x.ρ,x.σ,s',R⟩→Jl env x ⟨x.hf,x.ρ,x.σ,s',R⟩→Q () s'):Bp (Bq c.prog c.w) A (assign (.Tuple ts q tp) env (.ref p.1)) Q Dq x.s:=by
 refine wpAny_assign_Tuple hh (items:=us.toArray) (JS _ ht rfl m rfl) (by (exact C9 T.len<|C9 (Lw e)<|C9 Ν<|C9 hv.length rfl)) T.star λh' he=> ?_;have R':F5 c x.hf x.ρ x.σ h':=x.R.Ei λb o e O=>Tm he b o e;have l:Le x ⟨x.hf,x.ρ,x.σ,{x.s with heap:=h'},R'⟩:=⟨F7 _ _ (Tm he),rfl,rfl,rfl⟩;refine Oa (x:=⟨x.hf,x.ρ,x.σ,{x.s with heap:=h'},R'⟩) T.st nf (GC.le hv l) (fr.Jz l) λs' R I5 lx=>k s' R (I5.look (UF hd e)) ((l.X fr).trans lx)
theorem uj(hh:A.handled=none)(H:Db c A o1 f):F1 c A (jK xs o1) (bH f xs):=λ{st env loc x} ok nf fr=>DL ok λp h1 ok=>DL ok λts h2 ok=>⟨λ{out Q} ev k=>by
 refine wr λZ0 z0=> ?_;refine Dl (band ok) λa1 ok=> ?_;refine Dl (band ok) λa2 ok=> ?_;refine HY (Gl h2) λq tp w=> ?_;refine z0 ?_;refine C9 (Gh h1)<|C9 w ?_
 refine PyProof.Rows.Assign_Tuple ((H (band ok).2 fr).1.EI ev fr λval y v l hv fy ev=>DA ev λd e1 ev=>DA ev λm e2 ev=>DA ev λDG e3 ev=> ?_) ML (Rc (band ok).1);obtain ⟨pp,o,us,wp,gp,⟨s1,s2,j,rfl⟩,TE⟩:=(O4 e2▸HV e1 hv:DV c y.hf val (.nd .tup m)).shape;refine C9 wp ?_;exact b7 hh (jS a1) nf fy (s1▸y.R.keep _ _ gp) TE.vF a2 e3 λs' R I5 lx=>Es k ev ⟨y.hf,y.ρ,y.σ,s',R⟩ ((l.X fr).trans lx) rfl I5⟩
def jL(xs:List Nat)(os:List EJ):OZ:=λsc st=>oB (PA st) λp=>oB (H0 p.1) λts=>oB (H0 p.2.1) λvs=>fb sc xs ts&&(distinct xs&&(!(vs.all (constantsAlone 8))&&(Μ vs.length 100&&LZ sc os vs)))
theorem QW{ts vs:List Expr}{q q':Nat}{tp vp:Pos}(T:Ts c A env xs ts)(hc:(!(vs.all (constantsAlone 8)))=true):CR [.Tuple ts q tp] (.Tuple vs q' vp) env=pure none∨(CR [.Tuple ts q tp] (.Tuple vs q' vp) env=pure (some (xs.map nm))):=by
 unfold CR;dsimp only
 split
 ·exact .inl rfl
 ·split
  ·exact .inl rfl
  ·split
   ·exact .inl rfl
   ·rename_i Eb
    split
    ·exact .inl rfl
    ·refine C9 (if_neg (by rw [A8] at hc;rw [hc];exact Aj)) ?_
     refine .inr (congrArg (λz=>pure (some z)) ?_);refine T.ids (λid pos=>env.kindOf id==some .local&&pos.line==(Option.map (λx=>x.pos.line) ts.head?).getD 0) ?_;rw [Bool.or_eq_true,not_or] at Eb
     have:=Eb.1
     rw [bne_iff_ne,ne_eq,Decidable.not_not] at this;exact this
theorem ur(hh:A.handled=none)(H:F0 c A os fs)(P: ∀o∈os,D8 o):F1 c A (jL xs os) (ak fs xs):=λ{st env loc x} ok nf fr=>DL ok λp h1 ok=>DL ok λts h2 ok=>DL ok λvs h3 ok=>⟨λ{out Q} ev k=>by
 refine wr λZ0 z0=> ?_;refine Dl (band ok) λa1 ok=> ?_;refine Dl (band ok) λa2 ok=> ?_;refine Dl (band ok) λa3 ok=> ?_;refine Dl (band ok) λa4 a5=> ?_;refine HY (Gl h2) λq tp w=> ?_;refine HY (Gl h3) λq' vp w'=> ?_;refine z0 ?_;refine C9 (Gh h1)<|C9 w<|C9 w' ?_
 have T:=jS (c:=c) (A:=A) a1;refine DP ev λus σ e1 ev=>DA ev λDG e2 ev=> ?_
 have run: ∀{Q':Bj→Bl→Prop},(∀vals (y:St c),Le x y→y.σ=σ→y.GC vals us→FR env loc y→(y.s.heap.push (GZ vals 0)).get? y.s.heap.objs.size=some (GZ vals 0)→Q' (.ref y.s.heap.objs.size) (y.JL (GZ vals 0)).s)→Bp (Bq c.prog c.w) A (eval (.Tuple vs q' vp) env) Q' Dq x.s:=λ{Q'} h=>by
  refine C9 (arm_eval_Tuple _ _ _ _) ?_;refine Bk (Bv (Bk (NJ H P a5 fr e1 λvals y l ey hv=> ?_)));refine wpAny_newTuple (h vals y l ey hv (fr.Jz l) (Ξ _ rfl)) ?_;refine C9 hv.length<|C9 (Qs H e1)<|C9 (NA a5)<|C9 Bw ?_
  have:=Ds.mp a4
  exact QB this rfl
 rcases QW (q:=q) (q':=q') (tp:=tp) (vp:=vp) T a3 with sw|sw
 ·refine PyProof.Rows.Assign_Tuple (run λvals y l ey hv fy hg=> ?_) ML sw
  refine b7 (x:=y.JL (GZ vals 0)) (p:=(y.s.heap.objs.size,y.s.heap.objs.size)) (DG:=DG) hh T nf (fy.Jz (F3 _)) hg hv a2 e2 λs' R I5 lx=> ?_;exact Es k ev ⟨y.hf,y.ρ,y.σ,s',R⟩ (((l.trans (F3 _)).X fr).trans lx) ey I5
 ·refine PyProof.Rows.Assign_Tuple_swapped (run λvals y l ey hv fy hg=> ?_) ML sw
  have hn:((xs.map nm).length:Nat)=vals.toArray.size:=by (exact C9 (ι _)<|C9 (Lw e2)<|C9 Ν<|C9 hv.length rfl)
  refine C9 hn ?_;refine wpAny_unpackItems_tuple hh (items:=vals.toArray) (JS _ hg rfl 0 rfl) λh' he=> ?_;have kx:=Tm (x:=y.JL (GZ vals 0)) he;have R':F5 c y.hf y.ρ y.σ h':=(y.JL (GZ vals 0)).R.Ei λb o e O=>kx b o e;have l':Le x ⟨y.hf,y.ρ,y.σ,{(y.JL (GZ vals 0)).s with heap:=h'},R'⟩:=(l.trans (F3 _)).trans ⟨F7 _ _ kx,rfl,rfl,rfl⟩;refine Oa (x:=⟨y.hf,y.ρ,y.σ,{(y.JL (GZ vals 0)).s with heap:=h'},R'⟩) (fs:=(xs.map nm).reverse.map λn=>bindName env n) (xs:=xs.reverse) (vs:=us.reverse) (by exact C9 A5 T.st2.reverse) nf (hv.reverse) (fr.Jz l') λs' R I5 lx=> ?_;exact Es k ev ⟨y.hf,y.ρ,y.σ,s',R⟩ ((l'.X fr).trans lx) ey (by rw [Y6 e2] at I5;exact I5)⟩
end
end
section
mutual open A
structure Sk where
 k:Ck
 s:OZ
 b:im
def uK(t n:Nat)(l:List Sk):OZ:=match t with
 |0=>c1 l λa=>un n a.k.e
 |1=>c2 l λa o=>WR n a.k.e o.k.e
 |2=>c3 l λa o i=>jp a.k.e o.k.e i.k.e
 |3=>cC l λa r=>jK (r.map λq=>q.k.n) a.k.e
 |4=>cC l λa r=>jL (r.map λq=>q.k.n) a.k.es
 |5=>c1 l λa=>oEx a.k.e
 |6=>c2 l λa b=>kI a.k.e b.k.e
 |7=>c1 l λa=>uQ a.k.e
 |8=>c3 l λa b d=>oIf a.k.e b.b d.b
 |9=>c2 l λi b=>sU n i.k.it b.b
 |10=>c2 l λa b=>vV a.k.e b.b
 |11=>ji
 |12=>sD
 |13=>c1 l λb=>rZ b.b
 |14=>jV
 |_=>λO O=>false
def qt(t n:Nat)(l:List Sk):Sk:=⟨qi t n (l.map Sk.k),λsc st=>Ε 50 t&&uK (t - 50) n l sc st,λsc body=>μ t 70&&OJ sc (l.map Sk.s) body⟩
end
mutual
noncomputable def sk:T→Sk
 | .mk t n ks=>qt t n (cQ ks)
noncomputable def cQ:List T→List Sk
 | []=> []
 |a::r=>sk a::cQ r
end
mutual open A
structure Iz(c:Cx)(A:Bs)(q:Sk)(d:Nd):Prop where
 k:Good c A q.k d
 s:F1 c A q.s d.ex
 b:R8 c A q.b d.ex
end
section
mutual open A
variable{c:Cx}{A:Bs}{K:B4}{fa:Nat→Br}{G:HL}{kk:Nat}{l:List Sk}{m:List Nd}
theorem hX(H:DS (Iz c A) l m):DS (Good c A) (l.map Sk.k) m:=by
 induction H with
 |nil=>exact .nil
 |cons a _ ih=>exact .cons a.k ih
theorem V6(H:DS (Iz c A) l m):DS (F1 c A) (l.map Sk.s) (m.map Nd.ex):=by
 induction H with
 |nil=>exact .nil
 |cons a _ ih=>exact .cons (λh nf fr=>a.s h nf fr) ih
theorem V7(H:DS (Iz c A) l m):(l.map λq=>q.k.n)=m.map Nd.n:=by
 induction H with
 |nil=>rfl
 |cons a _ ih=>exact (congrArg (· ::_) a.k.n).trans (congrArg (_:: ·) ih)
theorem ZU(g:Ex):F1 c A (λO O=>false) g:=λh O O=>ζ h
theorem mL(Z:Zt K c fa G A kk)(H:DS (Iz c A) l m)(t n:Nat):F1 c A (λsc st=>Ε 50 t&&uK (t - 50) n l sc st) (exN t n m):=λ{st env loc x} ok nf fr=>by
 refine D3 (BN (φ (band ok).1)) λq Ff=> ?_;subst Ff;have ok:=(band ok).2;rw [Ω] at ok;have hh:=Z.rm.handled;have hu:=Z.rm.u;revert ok;refine Ft (λok=>(w1 (P:=F1 c A) ZU H λa b A {O O O O} h nf fr=>y8 A.k.e A.k.cp h nf fr) ok nf fr) (λq=> ?_) q;refine Ft (λok=>(w2 (P:=F1 c A) ZU H λa b a' b' A B {O O O O} h nf fr=>sX Z.B A.k.e B.k.e h nf fr) ok nf fr) (λq=> ?_) q;refine Ft (λok=>(w3 (P:=F1 c A) ZU H λa b a' b' Sd SL A B C {O O O O} h nf fr=>sK (by exact sV hu rfl) A.k.e B.k.e C.k.e h nf fr) ok nf fr) (λq=> ?_) q;refine Ft (λok=>(wC (P:=F1 c A) ZU H λa b r r' A R {O O O O} h nf fr=>by rw [V7 R] at h;exact uj hh A.k.e h nf fr) ok nf fr) (λq=> ?_) q;refine Ft (λok=>(wC (P:=F1 c A) ZU H λa b r r' A R {O O O O} h nf fr=>by rw [V7 R] at h;exact ur hh A.k.es A.k.ps h nf fr) ok nf fr) (λq=> ?_) q;refine Ft (λok=>(w1 (P:=F1 c A) ZU H λa b A {O O O O} h nf fr=>tEx A.k.e h nf fr) ok nf fr) (λq=> ?_) q;refine Ft (λok=>(w2 (P:=F1 c A) ZU H λa b a' b' A B {O O O O} h nf fr=>rq Z A.k.e B.k.e B.k.p h nf fr) ok nf fr) (λq=> ?_) q;refine Ft (λok=>(w1 (P:=F1 c A) ZU H λa b A {O O O O} h nf fr=>xv A.k.e h nf fr) ok nf fr) (λq=> ?_) q;refine Ft (λok=>(w3 (P:=F1 c A) ZU H λa b a' b' Sd SL A B C {O O O O} h nf fr=>tIf A.k.e B.b C.b h nf fr) ok nf fr) (λq=> ?_) q;refine Ft (λok=>(w2 (P:=F1 c A) ZU H λa b a' b' A B {O O O O} h nf fr=>xr hh (Jj Z A.k) B.b h nf fr) ok nf fr) (λq=> ?_) q;refine Ft (λok=>(w2 (P:=F1 c A) ZU H λa b a' b' A B {O O O O} h nf fr=>yX A.k.e B.b h nf fr) ok nf fr) (λq=> ?_) q;refine Ft (λok=>qT ok nf fr) (λq=> ?_) q;refine Ft (λok=>xI ok nf fr) (λq=> ?_) q;refine Ft (λok=>(w1 (P:=F1 c A) ZU H λa b A {O O O O} h nf fr=>zE A.b h nf fr) ok nf fr) (λq=> ?_) q;refine Ft (λok=>tNo (o:=jV) ok nf fr) (λq=> ?_) q;exact λok=>ζ ok
theorem SC(Z:Zt K c fa G A kk)(H:DS (Iz c A) l m)(t n:Nat):Iz c A (qt t n l) (nB G t n m):=by
 refine ⟨fW Z (hX H) t n,λok nf fr=>mL Z H t n ok nf fr,λ{l env loc x} ok nf fr=> ?_⟩;have J0:=(band ok).2;have w:=nb (band ok).1;clear ok;subst w;exact cL (V6 H) J0 nf fr
theorem dT(Z:Zt K c fa G A kk)(t:T):Iz c A (sk t) (nd G t):=
 T.rec (motive_1:=λt=>Iz c A (sk t) (nd G t)) (motive_2:=λl=>DS (Iz c A) (cQ l) (GT G l)) (λt n ks ih=>SC Z ih t n) .nil (λa r h1 h2=> .cons h1 h2) t
theorem Ym(Z:Zt K c fa G A kk)(l:List T):DS (Iz c A) (cQ l) (GT G l):=
 T.rec_1 (motive_1:=λt=>Iz c A (sk t) (nd G t)) (motive_2:=λl=>DS (Iz c A) (cQ l) (GT G l)) (λt n ks ih=>SC Z ih t n) .nil (λa r h1 h2=> .cons h1 h2) l
end
end
end
section
mutual open A
variable{c:Cx}{s:Bl}{x y z:St c}{K:B4}{hf:HF}{ρ:RH}{σ:Store}{h:Bz}
theorem F5.sM(R:F5 c hf ρ σ h){p:Br×Br}{k:Dh}(hc:Ge c hf ρ h p k)(hl:I1 k=true)(new: ∀(j:Nat) z q,σ[j]?=some z→I1 z=true→ρ[j]?=some q→q.2≠p.2):F5 c hf (ρ++ [p]) (σ++ [k]) h:=by
 refine ⟨R.base,R.keep,by exact C9 ε<|C9 ε<|C9 R.len rfl,λi z q e1 e2=> ?_,λi j z z' q q' e1 e2 l1 l2 f1 f2 w=> ?_,λi q e=>E5 e (R.here i q) λO w=>w▸hc.Ik hl⟩
 ·refine E5 e1 (λe1=> ?_) λw1 w2=> ?_
  ·have lt:i<ρ.length:=R.len▸FG e1
   rw [Ο lt] at e2;refine C9 (Ah (AY lt)) ?_;exact R.cells i z q e1 e2
  ·subst w1 w2
   rw [←R.len,AG (Ι _),Ai] at e2;refine Dr R.len<|C9 (Ah (Ι _))<|C9 AS<|Dr (η e2) ?_
   exact hc
 ·refine E5 f1 (λf1=> ?_) λw1 w2=> ?_
  ·rw [Ο (R.len▸FG f1)] at e1
   refine E5 f2 (λf2=> ?_) λw3 w4=>absurd (w.trans (w4▸rfl)) (new i z q e1 l1 f1);rw [Ο (R.len▸FG f2)] at e2;exact R.apart i j z z' q q' e1 e2 l1 l2 f1 f2 w
  ·refine E5 f2 (λf2=> ?_) λw3 O=>w1.trans w3.symm
   rw [Ο (R.len▸FG f2)] at e2;exact absurd (w.symm.trans (w2▸rfl)) (new j z' q' e2 l2 f2)
theorem Uh(l:Le x y):Le x (y.cut x.σ.length):=
 ⟨⟨l.nx.kf,λi p e=>(Ab.trans (if_pos (x.R.len▸FG e))).trans (l.nx.Jg i p e),l.nx.Ee,l.nx.FA,λp hp=>l.nx.EE p (BC hp)⟩,l.sm⟩
structure Kp(y:St c)(n m:Nat)(G8:RH)(τ:Store):Prop where
 R:F5 c y.hf G8 τ y.s.heap
 pre: ∀(i:Nat) q,i<n→y.ρ[i]?=some q→G8[i]?=some q
 sub: ∀q∈G8,q∈y.ρ
 idx: ∀(j:Nat) k q,τ[j]?=some k→I1 k=true→G8[j]?=some q→ ∃j' k',j'<m∧y.σ[j']?=some k'∧I1 k'=true∧y.ρ[j']?=some q
theorem Kp.le{n m m':Nat}{G8:RH}{τ:Store}(k:Kp y n m G8 τ)(h:m≤m'):Kp y n m' G8 τ:=⟨k.R,k.pre,k.sub,λj z q e l f=>GE (k.idx j z q e l f) λj' k' a b=>(Gp j' k' (AQ a h) b)⟩
theorem JZ{α:Type}{l:List α}{n i:Nat}{a:α}(e:(l.take n)[i]?=some a):i<n∧l[i]?=some a:=by
 rw [Ab] at e
 by_cases h:i<n
 ·rw [if_pos h] at e;exact ⟨h,e⟩
 ·rw [if_neg h] at e;exact DC e
theorem Kp.start(y:St c)(n:Nat):Kp y n n (y.ρ.take n) (y.σ.take n):=
 ⟨y.R.trunc n,λi q h e=>(Ab.trans (if_pos h)).trans e,λq hq=>BC hq,λj k q e l f=>(FC j k ((JZ e).1) ((JZ e).2) l ((JZ f).2))⟩
theorem Kp.out{m:Nat}{G8:RH}{τ:Store}(k:Kp y x.σ.length m G8 τ)(l:Le x y):Le x ⟨y.hf,G8,τ,y.s,k.R⟩:=
 ⟨⟨l.nx.kf,λi p e=>k.pre i p (x.R.len▸FG e) (l.nx.Jg i p e),l.nx.Ee,l.nx.FA,λp hp=>l.nx.EE p (k.sub p hp)⟩,l.sm⟩
theorem Kp.snoc{n m i:Nat}{G8:RH}{τ:Store}{p:Br×Br}{hd:Hd}{l l':List V}{o:Obj}{vs:List Bj}(k:Kp y n m G8 τ)(hi:m≤i)(hk:y.σ[i]?=some (.lv hd l))(hp:y.ρ[i]?=some p)(hn:y.hf p.2=none)(ho:y.s.heap.get? p.2=some o)(sh:ZB c y.hf p o hd vs)(hv:GC c y.hf G8 vs l'):
  Kp y n (i+1) (G8++ [p]) (τ++ [.lv hd l']):=by
 refine ⟨k.R.sM (FK hn o vs ho sh hv) rfl λj z q e l f w=> ?_,λi q h e=>(Ο (FG (k.pre i q h e))).trans (k.pre i q h e),λq hq=> ?_,λj z q e l f=> ?_⟩
 ·refine IU (k.idx j z q e l f) λj' k' a1 a2 a3 a4=> ?_
  exact absurd (y.R.apart j' i k' _ q p a2 hk a3 rfl a4 hp w) (AW (AQ a1 hi))
 ·exact (ω.mp hq).elim (k.sub q) λw=>ς.mp w▸AC hp
 ·refine E5 f (λf=> ?_) λw1 w2=>(FC i _ (AF i) hk rfl (w2▸hp))
  rw [Ο (k.R.len▸FG f)] at e;refine GE (k.idx j z q e l f) λj' k' a1 a2=> ?_;exact (Gp j' k' (A7 (AQ a1 hi)) a2)
structure Ud(y:St c)(i:Nat)(p:Br×Br)(hd:Hd)(l:List V)(o:Obj)(vs:List Bj):Prop where
 k:y.σ[i]?=some (.lv hd l)
 r:y.ρ[i]?=some p
 n:y.hf p.2=none
 g:y.s.heap.get? p.2=some o
 sh:ZB c y.hf p o hd vs
 v:DS (VV c y.hf (y.ρ.take i)) vs l
theorem Yy{k:Dh}{q:Hd×List V}(e:bN k=some q):k= .lv q.1 q.2:=by
 cases k with
 |lv h l=>(exact Dr (η e) rfl)
 |fz=>exact DC e
theorem Wu{i:Nat}{k:Dh}{q:Hd×List V}{p:Br×Br}(h1:Sw y.σ i=some k)(h2:bN k=some q)(hp:y.ρ[i]?=some p): ∃o vs,Ud y i p q.1 q.2 o vs:=by
 have w:=Yy h2;subst w;refine Kg (y.R.cells i _ p h1 hp) λa o vs b d e=> ?_;exact ⟨o,vs,h1,hp,a,b,d,e⟩
theorem Ud.flat{i:Nat}{p:Br×Br}{hd:Hd}{l:List V}{o:Obj}{vs:List Bj}{ds:List D}(L:Ud y i p hd l o vs)(e:Mq l=some ds){G8:RH}:GC c y.hf G8 vs (ds.map .d):=by
 have v:=L.v;rw [Pa e] at v;exact KZ.vF (GC.yb v)
theorem Xy{n:Nat}(l:List V): ∀{vs:List Bj} {m i:Nat} {G8:RH} {τ hG:Store} {l':List V},JT y.σ m l τ=some (l',hG)→DS (VV c y.hf (y.ρ.take i)) vs l→m≤i→Kp y n m G8 τ→
  ∃OU,Kp y n i OU hG∧GC c y.hf OU vs l'∧ ∀(j:Nat) q,G8[j]?=some q→OU[j]?=some q:=by
 induction l with
 |nil=>
  intro vs m i G8 τ hG l' e hv hm k;cases hv;refine NE (show some (([]:List V),τ)=some (l',hG) from e) ?_;exact (ED G8 (k.le hm) .nil (λO O e=>e))
 |cons a r ih=>
  intro vs m i G8 τ hG l' e hv hm k;cases hv with
  | @cons u _ us _ h1 h2=>
   cases a with
   |d d=>
    refine DP (x:=JT y.σ m r τ) e λOn Z4 e1 e=> ?_;refine ES (ih e1 h2 hm k) λOU g1 g2 g3=> ?_;refine NE (show some (V.d d::On,Z4)=some (l',hG) from e) ?_;exact (ED OU g1 (.cons h1 g2) g3)
   |cell j=>
    refine DY e λhj e=>DA e λq h3 e=>DA e λdk h4 e=>DP e λOn Z4 e1 e9=> ?_;refine DA h3 λck q1 h3=>DA h3 λlv q2 h3=>DA h3 λds q3 h3=> ?_;have w:=η h3;subst w;refine DQ h1 λp hp wu=> ?_;clear h1;refine wr λZ0 z0=> ?_;refine Dl (JZ hp) λhji hp=> ?_;refine HY (Wu q1 q2 hp) λo ws L=> ?_;have k':=k.snoc (φ hj) L.k hp L.n L.g L.sh (L.flat q3);refine ES (ih e1 h2 hji k') λOU g1 g2 g3=> ?_;refine z0 ?_;refine NE (show some (V.cell τ.length::On,Z4)=some (l',hG) from e9) ?_;refine (ED OU g1 (.cons (DM p (g3 _ _ ?_) wu) g2) (λj' q' f=>g3 _ _ ((Ο (FG f)).trans f)));exact Dr k.R.len<|C9 (AG (Ι _))<|C9 (Ai _) rfl
theorem Kp.last{n m:Nat}{G8:RH}{τ:Store}{p:Br×Br}{k:Dh}(K:Kp y n m (G8++ [p]) (τ++ [k])):(G8++ [p])[τ.length]?=some p:=by
 have:=K.R.len
 rw [ε,ε] at this
 have:G8.length=τ.length:=AK.inj this
 exact Dr this<|C9 (AG (Ι _))<|C9 (Ai _) rfl
theorem lS{keep:Bool}{n i:Nat}{σ:Store}(h:Ε n i=false):D5 keep n σ (.cell i)=some (.cell i,σ.take n):=by unfold D5;dsimp only;(exact C9 h rfl)
theorem LY{keep:Bool}{n i:Nat}{σ:Store}(h:Ε n i=true):D5 keep n σ (.cell i)=match keep with
 |false=>EI (Hz FZ (.cell i) σ) λz σ=>some (V.d z,σ.take n)
 |true=>dW n i σ:=by unfold D5;dsimp only;refine C9 h ?_;first|done|(cases keep<;>rfl)
theorem TT{keep:Bool}{v:V}{val:Bj}{r:V}{DT:Store}{Q:Bj→Bl→Prop}(l:Le x y)(hv:y.VV val v)(e:D5 keep x.σ.length y.σ v=some (r,DT))(k:Ok x DT r Q):Q val y.s:=by
 cases v with
 |d d=>
  revert k;refine NE (show some (V.d d,y.σ.take x.σ.length)=some (r,DT) from e) ?_;intro k;exact k val (y.cut x.σ.length) (Uh l) rfl hv
 |cell i=>
  cases hb:Ε x.σ.length i with
  |false=>
   revert k;refine NE (show some (V.cell i,y.σ.take x.σ.length)=some (r,DT) from ((lS hb).symm.trans e)) ?_;intro k;exact k val (y.cut x.σ.length) (Uh l) rfl (VV.down hv hb)
  |true=>
   have e:=(LY hb).symm.trans e;have hb:=φ hb;cases keep with
   |false=>
    refine DP (x:=Hz FZ (.cell i) y.σ) (f:=λz σ=>some (V.d z,σ.take x.σ.length)) e λd DD e1 e=>IC e1 hv λFg R' l' dv=> ?_;revert k;refine NE (show some (V.d d,DD.take x.σ.length)=some (r,DT) from e) ?_;intro k;exact k val (St.cut ⟨Fg,y.ρ,DD,y.s,R'⟩ x.σ.length) (Uh (l.trans l')) rfl dv
   |true=>
    refine DQ hv λp hp w=> ?_;clear hv;refine wr λZ0 z0=> ?_;have hp:y.ρ[i]?=some p:=hp;refine DA (show dW x.σ.length i y.σ=some (r,DT) from e) λck q1 e=>DA e λq q2 e=> ?_;refine HY (Wu q1 q2 hp) λo vs L=> ?_;obtain ⟨hd,ls⟩:=q;refine z0 ?_
    have flat:(DN (Mq ls) λl=>some (push (y.σ.take x.σ.length) (.lv hd (l.map .d))))=some (r,DT)→Q val y.s:=λe=>DA e λds q3 e=>by
     have k':=(Kp.start y x.σ.length).snoc hb L.k hp L.n L.g L.sh (L.flat q3);revert k;refine NE (show some (V.cell (y.σ.take x.σ.length).length,y.σ.take x.σ.length++ [Dh.lv hd (ds.map .d)])=some (r,DT) from e) ?_;intro k;exact k val ⟨y.hf,_,_,y.s,k'.R⟩ (k'.out l) rfl (DM p k'.last w)
    cases hd with
    |tup=>exact DC e
    |lst=>exact flat e
    |Dg=>exact flat e
    |inst cl=>
     refine DP (x:=JT y.σ x.σ.length ls (y.σ.take x.σ.length)) e λfs τ e1 e=> ?_;refine ES (Xy ls e1 L.v hb (Kp.start y x.σ.length)) λOU g1 g2 g3=> ?_;have k':=g1.snoc (Ι i) L.k hp L.n L.g L.sh g2;revert k;refine NE (show some (V.cell τ.length,τ++ [Dh.lv (.inst cl) fs])=some (r,DT) from e) ?_;intro k;exact k val ⟨y.hf,_,_,y.s,k'.R⟩ (k'.out l) rfl (DM p k'.last w)
end
end
section
mutual open A
variable{c:Cx}{A:Bs}{s:Bl}{x y z:St c}{env:Env}{loc:Di}{fd:CD}{binds pre:List (Str×Bj)}
structure yl(fd:CD):Prop where
 kind:fd.scope.kind= .function
 co:fd.scope.isCoroutine=false
 gen:fd.scope.isGenerator=false
 glob:fd.globals=Bx
 gX:fd.builtins=Cv
 clo:fd.closure= []
 bS: ∀n,fd.scope.names.lookup n≠some .free
abbrev Bd(x:St c):List (Str×Bj)→Di→Prop:=DS λb p=>b.1=nm p.1∧x.VV b.2 p.2
theorem PZ{k:Str→Option B0}{n:Str}(r:List (Str×Bj)): ∀m:Str→Option Bj,n ∉ r.map (·.1)→bindL k r m n=m n:=by
 induction r with
 |nil=>intro m _;rfl
 |cons b r ih=>
  intro m h;rw [Χ,ν,not_or] at h;show bindL k r (if k b.1=some .local then λy=>if y=b.1 then some b.2 else m y else m) n=m n;refine C9 (ih _ h.2) ?_
  by_cases q:k b.1=some .local
  ·rw [if_pos q,if_neg h.1]
  ·(exact C9 (if_neg q) rfl)
theorem Pe{k:Str→Option B0}{n:Str}(r:List (Str×Bj)): ∀m:Str→Option Bj,n ∉ r.map (·.1)→bindC k r m n=m n:=by
 induction r with
 |nil=>intro m _;rfl
 |cons b r ih=>
  intro m h;rw [Χ,ν,not_or] at h;show bindC k r (if k b.1=some .local then m else λy=>if y=b.1 then some b.2 else m y) n=m n;refine C9 (ih _ h.2) ?_
  by_cases q:k b.1=some .local
  ·(exact C9 (if_pos q) rfl)
  ·rw [if_neg q,if_neg h.1]
theorem Yz{k:Str→Option B0}(bd:Bd x binds loc):(binds.map (·.1)).Nodup→ ∀{a:Nat} {v:V},DE loc a=some v→ ∃val,x.VV val v∧(k (nm a)=some .local→ ∀m,bindL k binds m (nm a)=some val)∧(k (nm a)≠some .local→ ∀m,bindC k binds m (nm a)=some val):=by
 induction bd with
 |nil=>intro _ a v e;exact DC (e:none=_)
 | @cons b p binds loc h _ ih=>
  intro nd a v e;rw [Χ,Η] at nd;refine E6 (e:cond (μ p.1 a) (some p.2) (DE loc a)=some v) (λhb e=> ?_) λhb e=> ?_
  ·have w:=nb hb
   have hn:nm a ∉ binds.map (·.1):=by exact Dr w<|Dr h.1 nd.1
   refine (ED b.2 (η e▸h.2) (λq m=> ?_) (λq m=> ?_))
   ·refine (PZ binds _ hn).trans ?_
    rw [h.1,w,if_pos q,if_pos rfl]
   ·refine (Pe binds _ hn).trans ?_
    rw [h.1,w,if_neg q,if_pos rfl]
  ·refine ES (ih nd.2 e) λval h1 h2 h3=> ?_
   exact (ED val h1 (λq m=>h2 q _) (λq m=>h3 q _))
theorem Xf{k:Str→Option B0}(r:List (Str×Bj))(pre:List (Str×Bj)): ∀m:Str→Option Bj,∃m',bindL k (pre++r) m=bindL k r m':=by
 induction pre with
 |nil=>intro m;exact (EG m rfl)
 |cons b pre ih=>intro m;exact ih _
theorem X6{k:Str→Option B0}(r:List (Str×Bj))(pre:List (Str×Bj)): ∀m:Str→Option Bj,∃m',bindC k (pre++r) m=bindC k r m':=by
 induction pre with
 |nil=>intro m;exact (EG m rfl)
 |cons b pre ih=>intro m;exact ih _
theorem Yh{n:Str}(r:List (Str×B0)): ∀(k:Nat) (acc:List (Str×Br)),(acc.lookup n).isSome=true→((Cg k r acc).lookup n).isSome=true:=by
 induction r with
 |nil=>intro k acc h;exact h
 |cons q r ih=>
  intro k acc h;show ((if q.2== .cell then Cg (k+1) r ((q.1,k)::acc) else Cg k r acc).lookup n).isSome=true
  by_cases z:(q.2== .cell)=true
  ·refine C9 (if_pos z) ?_
   refine ih _ _ ?_;refine C9 Ae ?_;cases n==q.1 with
   |true=>rfl
   |false=>exact h
  ·exact C9 (if_neg z)<|ih _ _ h
theorem Je{n:Str}(r:List (Str×B0)): ∀(k:Nat) (acc:List (Str×Br)),r.lookup n=some .cell→((Cg k r acc).lookup n).isSome=true:=by
 induction r with
 |nil=>intro k acc h;exact DC h
 |cons q r ih=>
  intro k acc h;rw [Ae] at h;show ((if q.2== .cell then Cg (k+1) r ((q.1,k)::acc) else Cg k r acc).lookup n).isSome=true;cases z:n==q.1 with
  |true=>
   rw [z] at h;refine C9 (η h)<|C9 (if_pos (beq_self_eq_true B0.cell)) ?_
   refine Yh r _ _ ?_;exact C9 Ae<|C9 z rfl
  |false=>
   rw [z] at h
   by_cases w:(q.2== .cell)=true
   ·exact C9 (if_pos w)<|ih _ _ h
   ·exact C9 (if_neg w)<|ih _ _ h
theorem ax{f:Br}{D6:Bl}(S:yl fd)(bd:Bd x binds loc)(nd:(binds.map (·.1)).Nodup)(low: ∀p∈loc,p.1<Fw.length)
  (I:InCallC x.s (B8 fd x.s.heap.objs.size f).locals (bindL (B8 fd x.s.heap.objs.size f).kindOf (pre++binds) λO=>none) (B8 fd x.s.heap.objs.size f).cells (bindC (B8 fd x.s.heap.objs.size f).kindOf (pre++binds) λO=>none) D6):
  ∃R:F5 c x.hf x.ρ x.σ D6.heap,Le x ⟨x.hf,x.ρ,x.σ,D6,R⟩∧FR (B8 fd x.s.heap.objs.size f) loc ⟨x.hf,x.ρ,x.σ,D6,R⟩∧ ∀b,NP (B8 fd x.s.heap.objs.size f) b→x.s.heap.get? b=none:=by
 have R:F5 c x.hf x.ρ x.σ D6.heap:=x.R.Ei λb o e O=>I.toInCall.keep b o e;have sm:GB x.s D6:=HY I.toInCall.same λh t e=>e▸⟨rfl,rfl,rfl⟩
 have own: ∀b,NP (B8 fd x.s.heap.objs.size f) b→x.s.heap.get? b=none:=λb hb=>MM (by
  rcases hb with w|⟨n,hn⟩
  ·exact Nat.le_of_eq w.symm
  ·exact AY (I.above n b (mem_of_lookup hn)))
 refine ⟨R,⟨F7 _ _ I.toInCall.keep,sm⟩,⟨⟨S.kind,S.glob,S.gX,I.apart,λn b e=>Nat.ne_of_gt (I.above n b (mem_of_lookup e)),λn e=> ?_⟩,λa v e=> ?_,λa v e se=> ?_,⟨_,I.toInCall.ns⟩,λn b e=>⟨_,I.cell n b e⟩,λb hb=>x.R.fresh (own b hb)⟩,own⟩
 ·refine DA (x:=fd.scope.names.lookup n) e λk h1 h2=> ?_
  cases k with
  |cell=>exact Je _ _ _ h1
  |free=>exact absurd h1 (S.bS n)
  |«local»=>exact absurd (η h2) NK.noConfusion
  |globalImplicit=>exact absurd (η h2) NK.noConfusion
  |_=>exact DC h2
 ·have mem: ∀{l:Di} {a:Nat} {v:V},DE l a=some v→ ∃u,(a,u)∈l:=λ{l}=>by
   induction l with
   |nil=>intro a v e;exact DC (e:none=_)
   |cons p l ih=>intro a v e;exact E6 (e:cond (μ p.1 a) (some p.2) (DE l a)=some v) (λhb O=>⟨p.2,nb hb▸ .head _⟩) λO e=>D3 (ih e) λu h=>⟨u, .tail _ h⟩
  obtain ⟨u,hu⟩:=mem e;exact low _ hu
 ·obtain ⟨val,h1,h2,h3⟩:=Yz (k:=(B8 fd x.s.heap.objs.size f).kindOf) bd nd e
  refine ⟨val, ?_,h1⟩
  by_cases q:(B8 fd x.s.heap.objs.size f).kindOf (nm a)=some .local
  ·obtain ⟨m',hm⟩:=Xf (k:=(B8 fd x.s.heap.objs.size f).kindOf) binds pre λO=>none
   exact .inl ⟨q,_,I.toInCall.ns,(congrFun hm _).trans (h2 q _)⟩
  ·unfold seen vw at se
   have nf:=S.bS (nm a)
   have hc:fd.scope.names.lookup (nm a)=some .cell:=by
    have se:(match DN (fd.scope.names.lookup (nm a)) nk with|some .loc=>true|some .cf=>true|_=>false)=true:=se;have q: ¬fd.scope.names.lookup (nm a)=some .local:=q;cases w:fd.scope.names.lookup (nm a) with
    |none=>rw [w] at se;exact ζ se
    |some k=>
     rw [w] at se nf q;cases k with
     |cell=>rfl
     |free=>exact absurd rfl nf
     |«local»=>exact absurd rfl q
     |_=>exact ζ se
   obtain ⟨b,hb⟩:=AV.mp (Je _ (x.s.heap.objs.size+1) [] hc);have hb:(B8 fd x.s.heap.objs.size f).cells.lookup (nm a)=some b:=hb;obtain ⟨m',hm⟩:=X6 (k:=(B8 fd x.s.heap.objs.size f).kindOf) binds pre λO=>none;exact .inr ⟨.inl hc,b,hb,by exact Dr (h3 q m')<|Dr (congrFun hm (nm a))<|I.cell _ _ hb⟩
theorem Vn{R:C8→Bl→Prop}{f:Br}{o:Obj}{body:List CC}{vals:List Bj}(sF:A.depth<recursionLimit)(ho:x.s.heap.get? f=some o)(rh:o.data= .func fd)(z5:x.s.heap.NoLimit)(zC:x.s.heap.CodeRec fd.code fd.qualname)(um:fd.body= .stmts body)(S:yl fd)
  (vO:CZ x.s fd ⟨vals, []⟩ (pre++binds)) (bd:Bd x binds loc) (nd:((pre++binds).map (·.1)).Nodup) (low: ∀p∈loc,p.1<Fw.length) (hk: ∀b∈pre++binds,fd.scope.names.lookup b.1=some .local∨fd.scope.names.lookup b.1=some .cell)
  (h: ∀env (y:St c),env.scope=fd.scope→y.σ=x.σ→Le x y→FR env loc y→(∀b∈pre++binds,MO env y.s.heap b.1 b.2)→(∀b,NP env b→x.s.heap.get? b=none)→Bp (Bq c.prog c.w) (A.deeper env) (PySem.execs body env) (λfl s'=>R (.ok (.ret (match fl with| .ret v=>v|_=> .none))) s') Dq y.s):
  Ci (Bq c.prog c.w) A (.call (.ref f) ⟨vals, []⟩) R x.s:=by
 refine codeAny_call_function sF ho rh S.co S.gen um zC (vO _ _ _ _ ?_);refine C9 S.clo ?_;refine wpAny_newFunctionEnv_cells S.kind (λb hb=>(hk b hb).imp id λh=>⟨h,Je _ _ _ h⟩) λenv he s' I=> ?_;subst he;refine ⟨z5.keeps I.toInCall.keep,codeAny_func ?_⟩;obtain ⟨R',l,fr,own⟩:=ax (f:=f) S bd (by rw [χ] at nd;exact (AE.mp nd).2.1) low I;refine Bu (h _ ⟨x.hf,x.ρ,x.σ,s',R'⟩ rfl rfl l fr (λb hb=> ?_) own) (λO O h=>h) λO O z=>z.elim
 have look: ∀{k:Str→Option B0} {l:List (Str×Bj)},(l.map (·.1)).Nodup→b∈l→(k b.1=some .local→ ∀m,bindL k l m b.1=some b.2)∧(k b.1≠some .local→ ∀m,bindC k l m b.1=some b.2):=λ{k l}=>by
  induction l with
  |nil=>intro _ h;exact absurd h Γ
  |cons q l ih=>
   intro nd h;rw [Χ,Η] at nd;rcases ν.mp h with w|w
   ·subst w
    refine ⟨λz m=> ?_,λz m=> ?_⟩
    ·refine (PZ l _ nd.1).trans ?_
     rw [if_pos z,if_pos rfl]
    ·refine (Pe l _ nd.1).trans ?_
     rw [if_neg z,if_pos rfl]
   ·exact ⟨λz m=>(ih nd.2 w).1 z _,λz m=>(ih nd.2 w).2 z _⟩
 obtain ⟨h1,h2⟩:=look (k:=(B8 fd x.s.heap.objs.size f).kindOf) nd hb;rcases hk b hb with q|q
 ·exact .inl ⟨q,_,I.toInCall.ns,h1 q _⟩
 ·have nl:(B8 fd x.s.heap.objs.size f).kindOf b.1≠some .local:=λz=>by rw [show (B8 fd x.s.heap.objs.size f).kindOf b.1=some .cell from q] at z;exact B0.noConfusion (η z)
  obtain ⟨cc,hc⟩:=AV.mp (Je _ (x.s.heap.objs.size+1) [] q);have hc:(B8 fd x.s.heap.objs.size f).cells.lookup b.1=some cc:=hc;exact .inr ⟨.inl q,cc,hc,by exact Dr (h2 nl λO=>none)<|I.cell _ _ hc⟩
end
end
section
mutual open A
variable{c:Cx}{A:Bs}{s:Bl}{E:Bj→Bl→Prop}{x y z:St c}{K:B4}{env:Env}{loc:Di}{fd:CD}{fa:Nat→Br}
theorem Jl.out(l:Jl env y z)(l0:Le x y)(own: ∀b,NP env b→x.s.heap.get? b=none):Le x z:=by
 refine ⟨⟨λb o e=>l.kf b o (l0.nx.kf b o e),λi p e=>l.Jg i p (l0.nx.Jg i p e),λb o e n=>l.Ee b o (l0.nx.Ee b o e n) (λp hp q=> ?_) λw=>DC ((own b w).symm.trans e),λb o e=> ?_,λp hp=> ?_⟩,l0.sm.trans l.sm⟩
 ·rcases l0.nx.EE p hp with ⟨r,hr,w⟩|w
  ·exact n r hr (w.trans q)
  ·exact DC (w.symm.trans (q▸e))
 ·rcases l.FA b o e with w|⟨p,hp,w⟩|w
  ·exact l0.nx.FA b o w
  ·rcases l0.nx.EE p hp with ⟨q,hq,e⟩|q
   ·exact .inr (.inl (DM q hq (e.trans w)))
   ·exact .inr (.inr (w▸q))
  ·exact .inr (l0.nx.back w)
 ·rcases l.EE p hp with ⟨r,hr,w⟩|w
  ·exact w▸l0.nx.EE r hr
  ·exact l0.nx.back w
theorem bz{α β:Type}{f g:α→Option β}: ∀{l:List α},(∀a∈l,f a=g a)→l.filterMap f=l.filterMap g:=λ{l}=>by
 induction l with
 |nil=>intro _;rfl
 |cons a l ih=>intro h;(exact C9 As<|C9 As<|C9 (h a (.head _))<|C9 (ih λb hb=>h b (.tail _ hb)) rfl)
theorem VG{α:Type}(ns:List Str): ∀(us:List α),ns.Nodup→us.length=ns.length→ns.filterMap (λn=>((ns.zip us).lookup n).map (n,·))=ns.zip us:=by
 induction ns with
 |nil=>intro us _ _;rfl
 |cons n ns ih=>
  intro us nd h;cases us with
  |nil=>exact Α h
  |cons u us=>
   rw [Η] at nd;refine C9 Bh<|C9 As<|C9 Ae<|C9 (beq_self_eq_true _) ?_
   refine congrArg ((n,u):: ·) ((bz λm hm=> ?_).trans (ih us nd.2 (AK.inj h)));have ne:(m==n)=false:=beq_eq_false_iff_ne.mpr λz=>nd.1 (z▸hm)
   (exact C9 Ae<|C9 ne rfl)
theorem bR{α:Type}(ns:List Str): ∀(us:List α),us.length=ns.length→ ∀n∈ns,((ns.zip us).lookup n).isNone=false:=by
 induction ns with
 |nil=>intro us _ n h;exact absurd h Γ
 |cons m ns ih=>
  intro us h n hn;cases us with
  |nil=>exact Α h
  |cons u us=>
   refine C9 Bh<|C9 Ae ?_
   cases q:n==m with
   |true=>rfl
   |false=>exact ih us (AK.inj h) n ((ν.mp hn).resolve_left λz=>by rw [z,beq_self_eq_true] at q;exact ζ q)
structure cU(fd:CD)(ns:List Str):Prop where
 p1:fd.params.posonlyargs= []
 p2:fd.params.args.map (·.arg)=ns
 p3:fd.params.kwonlyargs= []
 p4:fd.params.vararg=none
 p5:fd.params.kwarg=none
 p6:fd.defaults= .none
theorem Z1{α:Type}{M:Model}{A:Bs}{Q:α→Bl→Prop}{E:Bj→Bl→Prop}{st:Bl}{b:Bool}{x y:Sem α}(h:b=false)(k:Bp M A y Q E st):Bp M A (if b=true then x else y) Q E st:=by exact C9 h k
abbrev qA:(Str×Bj)→List (Str×Bj)→Sem (ForInStep (List (Str×Bj))):=λx s=>if (Bb x.fst s).isNone=true then pure (ForInStep.yield (s++ [(x.fst,x.snd)])) else pure (ForInStep.yield s)
theorem Pc{as:List Arg}{us ds:List Bj}{r:Option (Array Bj)}{sl bs:List (Str×Bj)}{mq qn bd sc gl cl dv kd dc pm an co ct xx m9 df}(hr:(r.getD #[]).toList=ds)
  (hs: ∀{M:Model} {A:Bs} {Q:Option (Array Bj)→Bl→Prop} {E:Bj→Bl→Prop},Q r s→Bp M A (seqItems? dv) Q E s)
  (h1:us.length≤(as.map (·.arg)).length)
  (h2:(!(List.filter (λn=>(Bb n ((as.map (·.arg)).zip us)).isNone) (List.take ((as.map (·.arg)).length - (ds.drop (ds.length - (as.map (·.arg)).length)).length) (as.map (·.arg)))).isEmpty)=false)
  (hl: ∀{M:Model} {A:Bs} {Q:List (Str×Bj)→Bl→Prop} {E:Bj→Bl→Prop},Q sl s→Bp M A (forIn (((as.map (·.arg)).drop ((as.map (·.arg)).length - (ds.drop (ds.length - (as.map (·.arg)).length)).length)).zip (ds.drop (ds.length - (as.map (·.arg)).length))) ((as.map (·.arg)).zip us) qA) Q E s)
  (hb:(as.map Arg.arg++ []).filterMap (λn=>(sl.lookup n).map λx=>(n,x))=bs):
  CZ s ⟨mq,qn,⟨[],as,none, [],m9,none,df⟩,bd,sc,gl,cl,dv,kd,dc,pm,an,co,ct,xx⟩ ⟨us, []⟩ bs:=λM A E Q hq=>by
 subst hr hb;refine Bk (Bn (Bk (m:=seqItems? dv) (hs (Z1 ?_ (Z1 h2 (Bk (hl (Bk (Bn (Z1 rfl (Bn hq)))))))))));show (decide (us.length>(as.map (·.arg)).length)&&true)=false;exact C9 (decide_eq_false (Nat.not_lt_of_le h1)) rfl
theorem b6{as:List Arg}{us:List Bj}{mq qn bd sc gl cl kd dc pm an co ct xx m9 df}(nd:(as.map (·.arg)).Nodup)(h:us.length=(as.map (·.arg)).length):
  CZ s ⟨mq,qn,⟨[],as,none, [],m9,none,df⟩,bd,sc,gl,cl, .none,kd,dc,pm,an,co,ct,xx⟩ ⟨us, []⟩ ((as.map (·.arg)).zip us):=by
 refine Pc (r:=none) (ds:= []) (sl:=(as.map (·.arg)).zip us) rfl Bn (Nat.le_of_eq h) ?_ (λ{M A Q E} k=> ?_) ?_
 ·generalize as.map (·.arg)=ns at h nd
  rw [List.drop_nil,BJ,Nat.sub_zero,AS,List.filter_eq_nil_iff.mpr]
  ·rfl
  ·exact λn hn=>by exact C9 (bR ns us h n hn) Aj
 ·exact C9 List.drop_nil<|C9 List.zip_nil_right<|Bn k
 ·(exact C9 (υ _)<|VG _ us nd h)
theorem Rp{ns:List Str}{us:List Bj}(P:cU fd ns)(nd:ns.Nodup)(h:us.length=ns.length):CZ s fd ⟨us, []⟩ (ns.zip us):=by
 have ⟨p1,p2,p3,p4,p5,p6⟩:=P;clear P;subst p2;obtain ⟨mq,qn,⟨po,as,va,ko,m9,kw,df⟩,bd,sc,gl,cl,dv,kd,dc,pm,an,co,ct,xx⟩:=fd;dsimp only at p1 p3 p4 p5 p6 nd h ⊢;subst p1 p3 p4 p5 p6;exact b6 nd h
theorem Hm{df:Nat}{ps:List Nat}: ∀{args:List V} {loc:Di},Mine.Internal.bindArgs ps args df=some loc→loc.map (·.1)=ps:=by
 induction ps with
 |nil=>intro args loc e;cases args with
  |nil=>exact Dr (η (e:some []=some loc)) rfl
  |cons=>exact DC e
 |cons p ps ih=>intro args loc e;cases args with
  |nil=>exact DY (b:=Ε (ps.length+1) df) e λO e=>DA e λl h1 e=>by exact Dr (η e)<|congrArg (p:: ·) (ih h1)
  |cons a args=>exact DA (x:=Mine.Internal.bindArgs ps args df) e λl h1 e=>by exact Dr (η e)<|congrArg (p:: ·) (ih h1)
def Ly(ps:List Nat)(us:List Bj):List (Str×Bj):=(ps.map nm).zip (us++AA (ps.length - us.length) .none)
theorem WO{df:Nat}{ps:List Nat}: ∀{us:List Bj} {args:List V} {loc:Di},Mine.Internal.bindArgs ps args df=some loc→x.GC us args→us.length≤ps.length∧ps.length≤us.length+df∧Bd x (Ly ps us) loc:=by
 induction ps with
 |nil=>intro us args loc e hv;cases hv with
  |nil=>exact Dr (η (e:some []=some loc))<|⟨Ι _,AT _, .nil⟩
  |cons=>exact DC e
 |cons p ps ih=>
  intro us args loc e hv;cases hv with
  |nil=>
   refine DY (b:=Ε (ps.length+1) df) e λhb e=>DA e λl h1 e=> ?_;have i:=(ih (us:= []) h1 .nil).2.2;refine Dr (η e) ?_;exact ⟨AT _,by exact C9 BJ<|C9 (BP _)<|φ hb,show Bd x ((nm p,Bj.none)::Ly ps []) ((p,V.d .none)::l) from DS.cons ⟨rfl,DV.none⟩ i⟩
  | @cons u _ us args h1 h2=>
   refine DA (x:=Mine.Internal.bindArgs ps args df) e λl e1 e=> ?_;refine ET (ih e1 h2) λi1 i2 i3=> ?_;refine Dr (η e) ?_;refine ⟨Κ i1,by refine C9 ξ<|C9 ξ ?_;exact zsh i2, ?_⟩;unfold Ly;refine C9 ξ<|C9 ξ<|C9 (Nat.succ_sub_succ _ _) ?_
   exact .cons ⟨rfl,h1⟩ i3
theorem TX{binds:List (Str×Bj)}(bd:Bd x binds loc):binds.map (·.1)=(loc.map (·.1)).map nm:=by
 induction bd with
 |nil=>rfl
 |cons h _ ih=>rw [Χ,Χ,Χ,h.1,ih]
structure FnAt(K:B4)(c:Cx)(fa:Nat→Br)(i:Nat)(fn:Fn)(o:Obj)(fd:CD)(body:List CC):Prop where
 ob:K.lookup (fa i)=some o
 dt:o.data= .func fd
 bd:fd.body= .stmts body
 S:yl fd
 cd: ∃cc oc vs t,fd.code= .ref cc∧K.lookup cc=some oc∧oc.data= .fields vs∧vs[1]?=some (.str fd.qualname t)
 ok:OJ (vw fd.scope) ((cQ fn.body).map Sk.s) body=true
 nd:(fn.ps.map nm).Nodup
 pk: ∀n∈fn.ps,n<Fw.length∧(fd.scope.names.lookup (nm n)=some .local∨fd.scope.names.lookup (nm n)=some .cell)
 bind: ∀{s:Bl} {us:List Bj},K.In s.heap→us.length≤fn.ps.length→fn.ps.length≤us.length+fn.df→CZ s fd ⟨us, []⟩ (Ly fn.ps us)
structure wI(K:B4)(c:Cx)(fa:Nat→Br):Prop where
 at_: ∀i fn,fns[i]?=some fn→ ∃o fd body,FnAt K c fa i fn o fd body
theorem ff{ps:List Nat}{us:List Bj}(P:cU fd (ps.map nm))(nd:(ps.map nm).Nodup)(h1:us.length≤ps.length)(h2:ps.length≤us.length+0):CZ s fd ⟨us, []⟩ (Ly ps us):=by
 have e:us.length=ps.length:=Aq h1 h2;unfold Ly;refine C9 e<|C9 (Ai _)<|C9 List.replicate_zero<|C9 (υ _) ?_
 exact Rp P nd (by exact C9 (ι _) e)
theorem FnAt.code{i:Nat}{fn:Fn}{o:Obj}{body:List CC}(F:FnAt K c fa i fn o fd body)(X:K.In s.heap):s.heap.CodeRec fd.code fd.qualname:=
 Gf F.cd λcc oc vs t h1 h2 h3 h4=>(FQ cc oc vs t h1 (X _ _ h2) h3 h4)
theorem U2{out:HW}{v:V}{σ:Store}{P:Prop}(e:jI out=some (v,σ))(h1:out= .ret v σ→P)(h2: ∀loc,out= .go 0 loc σ→v= .d .none→P):P:=by
 cases out with
 |ret w τ=>
  revert h1;refine NE (show some (w,τ)=some (v,σ) from e) ?_;intro h1;exact h1 rfl
 |go n loc τ=>cases n with
  |zero=>
   revert h2;refine NE (show some (V.d .none,τ)=some (v,σ) from e) ?_;intro h2;exact h2 loc rfl rfl
  |succ=>exact DC e
theorem iC(B:I2 K c)(F:wI K c fa){n:Nat}{keep:Bool}{i:Nat}{args:List V}{r:V}{DT:Store}{us:List Bj}{Q:Bj→Bl→Prop}(hd:A.depth<1000)(Z: ∀env,∃kk,Zt K c fa (DZ n) (A.deeper env) kk)(e:(DZ (n+1)).call keep i args x.σ=some (r,DT))(hv:x.GC us args)(k:Ok x DT r Q):
  Bp (Bq c.prog c.w) A (PySem.call (.ref (fa i)) us) Q Dq x.s:=by
 refine wr λZ0 z0=> ?_;refine DA (x:=fns[i]?) e λfn h1 e=>DP (x:=run (DZ n) fn args x.σ) e λv DD e1 e2=>DA (x:=Mine.Internal.bindArgs fn.ps args fn.df) e1 λloc e3 e4=>DA (x:=YB ((GT (DZ n) fn.body).map Nd.ex) loc x.σ) e4 λout e5 e6=> ?_;refine TJ (F.at_ i fn h1) λo fd body F=> ?_;refine ET (WO e3 hv) λb1 b2 bd=> ?_;refine z0 ?_;have X:=x.R.eM B.X;have hb:=F.bind X b1 b2;have names:=TX bd;rw [Hm e3] at names;have low: ∀p∈loc,p.1<Fw.length:=λp hp=>(F.pk p.1 (Hm e3▸AD.mpr (DM p hp rfl))).1;refine wpAny_call (Vn (pre:= []) (binds:=Ly fn.ps us) hd (X _ _ F.ob) F.dt (B.nolimit.keeps x.base) (F.code X) F.bd F.S hb bd (by exact C9 (Bc _)<|C9 names F.nd) low (λb hb=> ?_) λenv y hs ey l fr O own=> ?_)
 ·have:b.1∈fn.ps.map nm:=by exact Dr names<|AD.mpr (DM b hb rfl)
  refine DQ (AD.mp this) λm hm w=> ?_;exact w▸(F.pk m hm).2
 ·refine D3 (Z env) λkk Z=> ?_
  refine ((cL (V6 (Ym Z fn.body))) (show OJ (vw env.scope) ((cQ fn.body).map Sk.s) body=true by exact C9 hs F.ok) (λid=>by unfold Env.kindOf;exact C9 hs<|F.S.bS id) fr).run (Q:=λfl s'=>Q (match fl with| .ret v=>v|_=> .none) s') (ey.symm▸e5) ?_;refine U2 e6 (λw=> ?_) λDG w w2=> ?_
  ·refine C9 w ?_
   exact λval z lx ez hz=>TT (lx.out l own) hz (by exact C9 ez e2) k
  ·refine C9 w ?_
   exact λz lx ez fz=>TT (val:= .none) (v:= .d .none) (lx.out l own) DV.none (by exact C9 ez<|Dr w2 e2) k
end
end
section
mutual open A
variable{c:Cx}{A:Bs}{s:Bl}{E:Bj→Bl→Prop}{x y z:St c}{K:B4}{env:Env}{loc:Di}{fa:Nat→Br}{G:HL}{kk:Nat}
def Rj(s:Nat):List T→Bool
 | []=>true
 |t::r=>oB (aP t.ks) (λp=>μ p.2.nr s)&&Rj s r
theorem Ur{l:List T}{p:T×T}(h:aP l=some p):l= [p.1,p.2]:=by
 cases l with
 |nil=>exact DC h
 |cons a l=>cases l with
  |nil=>exact DC h
  |cons b l=>cases l with
   |nil=>(exact Dr (η h) rfl)
   |cons=>exact DC h
theorem VT{a:Nat}{v:Bj}{pos:Pos}{Q:Bj→Bl→Prop}(S:FS env)(N:MO env s.heap (nm a) v)(d:(!EV (nm a))=true)(q:Q v s):Bp (Bq c.prog c.w) A (eval (.Name (nm a) pos) env) Q E s:=by
 refine Dl (K0 d) λd1 d2=> ?_;refine wpAny_Name ?_ d1;rcases N with ⟨a,m,b,z⟩|⟨a|a,b,hb,z⟩
 ·exact wpAny_loadName_local S.kind a b z q
 ·exact wpAny_loadName_cell S.kind a hb z q
 ·exact wpAny_loadName_free S.kind a hb z q d2
theorem U5{α:Type}{a b:Nat}{v:α}(pre:List Nat): ∀vs:List α,pre.length=vs.length→a ∉ pre→Du (pre++ [a]) (vs++ [v]) b=if b=a then some v else Du pre vs b:=by
 induction pre with
 |nil=>
  intro vs h _;cases vs with
  |cons=>exact Α h
  |nil=>
   show cond (μ a b) (some v) none=_
   by_cases q:b=a
   ·exact C9 (if_pos q)<|C9 q<|C9 (AH _) rfl
   ·exact C9 (if_neg q)<|C9 (kS (Ne.symm q)) rfl
 |cons p pre ih=>
  intro vs h hn;cases vs with
  |nil=>exact Α h
  |cons u vs=>
   rw [ν,not_or] at hn;show cond (μ p b) (some u) (Du (pre++ [a]) (vs++ [v]) b)=if b=a then some v else cond (μ p b) (some u) (Du pre vs b)
   refine C9 (ih vs (AK.inj h) hn.2) ?_
   by_cases q:p=b
   ·have RP: ¬b=a:=λz=>hn.1 (z.symm.trans q.symm)
    (exact C9 q<|C9 (AH _)<|C9 (if_neg RP)<|C9 (if_neg RP) rfl)
   ·exact C9 (kS q) rfl
theorem Xo{α:Type}{a:Nat}(pre:List Nat): ∀vs:List α,a ∉ pre→Du pre vs a=none:=by
 induction pre with
 |nil=>intro vs _;cases vs<;>rfl
 |cons p pre ih=>
  intro vs hn;rw [ν,not_or] at hn;cases vs with
  |nil=>rfl
  |cons u vs=>
   show cond (μ p a) (some u) (Du pre vs a)=none;exact C9 (kS (Ne.symm hn.1))<|ih vs hn.2
structure VH(x:St c)(cl:Nat)(I d:Br)(pre:List Nat)(o:Obj)(vs:List Bj)(ws:List V)(z:St c):Prop where
 le:Le x z
 nI:x.s.heap.get? I=none
 nd:x.s.heap.get? d=none
 ne:I≠d
 pI:z.hf I=none∧ ∀p∈z.ρ,p.2≠I
 pd:z.hf d=none∧ ∀p∈z.ρ,p.2≠d
 gI:z.s.heap.get? I=some (CB (c.CL cl) d)
 gd:z.s.heap.get? d=some o
 at_:Iv o pre vs
 v:z.GC vs ws
theorem VH.on{cl:Nat}{I d:Br}{pre:List Nat}{o:Obj}{vs:List Bj}{ws:List V}(h:VH x cl I d pre o vs ws y)(l:Le y z):VH x cl I d pre o vs ws z:=
 have a:=l.own h.gI h.pI.1 h.pI.2;have b:=l.own h.gd h.pd.1 h.pd.2
 ⟨h.le.trans l,h.nI,h.nd,h.ne,⟨a.1,a.2.1⟩,⟨b.1,b.2.1⟩,a.2.2,b.2.2,h.at_,GC.le h.v l⟩
theorem iL(Z:Zt K c fa G A kk){cl sn:Nat}{I d:Br}(aQ: ∀b,NP env b→x.s.heap.get? b=none)(hI: ¬NP env I)(hd: ¬NP env d)(nd:(DX cl).Nodup)(low: ∀a∈DX cl,a<Fw.length)(lim:(DX cl).length≤100){R:Cd→Bl→Prop}{as:List Nat}:
  ∀{ts:List T} {body:List CC} {z:St c} {fs:List V} {DD:Store} {pre:List Nat} {o:Obj} {vs:List Bj} {ws:List V},OJ (vw env.scope) ((cQ ts).map Sk.s) body=true→Rj sn ts=true→Hx G loc as ts z.σ=some (fs,DD)→FR env loc z→MO env z.s.heap (nm sn) (.ref I)→DX cl=pre++as→VH x cl I d pre o vs ws z→
   (∀(y:St c) o' D4,VH x cl I d (DX cl) o' D4 (ws++fs) y→y.σ=DD→R .next y.s)→Bp (Bq c.prog c.w) A (PySem.execs body env) R Dq z.s:=by
 induction as with
 |nil=>
  intro ts body z fs DD pre o vs ws ok sf e fr N ea H fin;cases ts with
  |cons=>exact DC e
  |nil=>
   revert ea fin;refine NE (show some (([]:List V),z.σ)=some (fs,DD) from e) ?_;intro ea fin;refine C9 (TN ok) ?_;rw [υ] at ea fin;exact Bn (fin z o vs (ea▸H) rfl)
 |cons a as ih=>
  intro ts body z fs DD pre o vs ws ok sf e fr N ea H fin;cases ts with
  |nil=>exact DC e
  |cons t ts=>
   refine wr λZ0 z0=> ?_;refine DY e λh1 e=>DA e λp h2 e=>DY e λh3 e=>DP e λv DK e1 e=>DP e λl Dy e2 e=> ?_;have w:(v::l,Dy)=(fs,DD):=η e;refine Dl (band sf) λyp sf2=> ?_;have yp:μ p.2.nr sn=true:=DL yp λp' h4 h5=>by exact C9 (η (h2.symm.trans h4)) h5
   refine D0 (PG (os:=(cQ ts).map Sk.s) (o:=(sk t).s) ok) λst r wb G2 J0=> ?_
   have wt:t= .mk 51 a [p.1, .mk 0 sn []]:=by
    obtain ⟨tg,b,ks⟩:=t;obtain ⟨q1,q2⟩:=p;obtain ⟨t0,n0,k0⟩:=q2;have a1:tg=51:=nb (band h1).1;have a2:a=b:=nb (band h1).2;have a3:ks= [q1, .mk t0 n0 k0]:=Ur h2;have a4:t0=0:=nb (band h3).1;have a5:k0= []:=AZ.mp (band h3).2;have a6:n0=sn:=nb yp
    (exact C9 a1<|Dr a2<|C9 a3<|C9 a4<|C9 a5<|C9 a6 rfl)
   rw [wt] at G2;have G2:WR a (sk p.1).k.e (sk (.mk 0 sn [])).k.e (vw env.scope) st=true:=(band (show (Ε 50 51&&WR a (sk p.1).k.e (sk (.mk 0 sn [])).k.e (vw env.scope) st)=true from G2)).2;refine DL G2 λpa h5 G2=>DL G2 λq h6 G2=> ?_;refine D3 (Ia h6) λap w6=> ?_;have okm:(Qw q.1&&((!LE q.1||(μ 0 32||μ 0 33))&&ph sn (vw env.scope) q.1))=true:=(band (band G2).2).2;refine DL (x:=MJ q.1) (band (band okm).2).2 λid h7 ok7=> ?_;refine D3 (Eh h7) λnp w7=> ?_;refine z0 ?_;refine C9 wb<|C9 (Gh h5)<|C9 w6<|C9 w7<|C9 (EH (band ok7).1)<|C9 (EH (band G2).1) ?_
   have ha:a∈DX cl:=ea▸Ψ pre (.head _)
   have tj:a ∉ pre:=λz=>by
    rw [ea,AE] at nd;exact nd.2.2 a z a (.head _) rfl
   have Eb:pre.length+1≤100:=by
    have:=lim
    rw [ea,ε,ξ] at this;exact PU this
   show Bp _ _ (do
    match←PySem.exec (.Assign [.Attribute (.Name (nm sn) np) (nm a) ap] pa.2.1 pa.2.2) env with
    | .next=>PySem.execs r env
    |f=>pure f) _ _ _
   refine Bk (Bu (IW (Q:=λfl s'=>fl= .next∧Bp (Bq c.prog c.w) A (PySem.execs r env) R Dq s') N8 rfl rfl (((dT Z p.1).k.e (band (band G2).2).1 fr).1.run e1 λval z1 l1 ez hv=> ?_)) (λfl D6 h=> ?_) λO O x=>x)
   ·have H1:=H.on l1
    have N1:MO env z1.s.heap (nm sn) (.ref I):=N.keeps λb hb o e=>l1.nx.Ee b o e (fr.Ee b hb).2;have f1:=fr.Jz l1;refine C9 (arm_assign_Attribute _ _ _ _ _) ?_;refine Bk (Bt (VT fr.S N1 (band (band ok7).2).2 ?_));have up:Z5 pre vs a val (pre++ [a]) (vs++ [val]):=⟨λb=>U5 pre vs H1.at_.len tj,λ⟨u,hu⟩=>DC ((Xo pre vs tj).symm.trans hu),λO=>by exact C9 ε rfl,by exact C9 ε<|C9 ε<|C9 H1.at_.len rfl,by exact C9 ε<|Dr H1.at_.len Eb⟩;refine Bk (Bv (Bk (Bt (NO Z.B.F.toKF (z1.R.eM Z.B.X) H1.gI H1.gd H1.at_ ha up λt h' o' hs hg qL=>Ct ⟨rfl, ?_⟩))));have k: ∀b o,b≠d→z1.s.heap.get? b=some o→h'.get? b=some o:=λb o hb e=>(hs.2 b hb).trans e;have R2:F5 c z1.hf z1.ρ z1.σ h':=z1.off H1.pd.1 H1.pd.2 k;have H2:VH x cl I d (pre++ [a]) o' (vs++ [val]) (ws++ [v]) ⟨z1.hf,z1.ρ,z1.σ,{z1.s with heap:=h',toks:=t},R2⟩:=⟨H1.le.TY (s':={z1.s with heap:=h',toks:=t}) (Z:=λb=>b=d) (λb z=>z▸H1.nd) k ⟨rfl,rfl,rfl⟩ R2,H1.nI,H1.nd,H1.ne,H1.pI,H1.pd,k I _ H1.ne H1.gI,hg,qL,H1.v.append (.cons hv .nil)⟩;have ko: ∀b,NP env b→ ∀o,z1.s.heap.get? b=some o→h'.get? b=some o:=λb hb o e=>k b o (λz=>hd (z▸hb)) e;refine ih (z:=⟨z1.hf,z1.ρ,z1.σ,{z1.s with heap:=h',toks:=t},R2⟩) J0 sf2 (show Hx G loc as ts z1.σ=some (l,Dy) by exact C9 ez e2) (f1.move ko (λO O h=>h) λb hb=>f1.Ee b hb) (N1.keeps ko) (by exact C9 ea<|C9 (π _ _ _) rfl) H2 λy qF uo H3 ey=>fin y qF uo ?_ ?_
    ·refine C9 (show fs=v::l from (congrArg Prod.fst w).symm) ?_;rw [π] at H3;exact H3
    ·exact ey.trans (congrArg Prod.snd w)
   ·refine Dl h λw h=> ?_
    refine C9 w ?_;exact h
end
end
section
mutual open A
variable{c:Cx}{A:Bs}{s:Bl}{x y z:St c}{K:B4}{env:Env}{loc:Di}{fd:CD}{fa:Nat→Br}{kk:Nat}
structure sN(K:B4)(c:Cx)(fa:Nat→Br)(cl i:Nat)(fn:Fn)(s:Nat)(ps:List Nat):Prop where
 mks:makesIn K (c.CL cl)=true
 fi:CV K (.ref (c.CL cl)) "__init__" =some (some (.ref (fa i)))
 ty:typeIn K (.ref (fa i))=some (.type "function")
 ps:fn.ps=s::ps
 sf:Rj s fn.body=true
structure nA(K:B4)(c:Cx)(fa:Nat→Br):Prop where
 at_: ∀cl i fn,KI cl=some i→fns[i]?=some fn→ ∃s ps,sN K c fa cl i fn s ps
theorem UH(cl:Nat):(DX cl).Nodup∧(∀a∈DX cl,a<Fw.length)∧(DX cl).length≤100:=by
 match cl with
 |0=>decide
 |1=>decide
 |2=>decide
 |3=>decide
 |4=>decide
 |5=>decide
 |6=>decide
 |7=>decide
 |8=>decide
 |n+9=>exact ⟨.nil,λa h=>absurd h Γ,AT _⟩
theorem Ms.make{A:Bs}{k:Nat}(h:Ms A (k+1))(C:Br)(vals:List Bj)(env:Env):Ms ((A.under (.builtin "type.__call__" ⟨.ref C::vals, []⟩)).deeper env) k:=
 ⟨h.handled,(congrArg (pushGuards (Code.guards (.builtin "type.__call__" ⟨.ref C::vals, []⟩))) h.guards).trans rfl,by have:=h.depth;show A.depth+1+1+3*k+10≤1000;lia,by have:=h.units;show A.units+1+3+30*k+200≤9900;lia⟩
theorem eg(B:I2 K c)(F:wI K c fa)(CK:nA K c fa){n cl:Nat}{keep:Bool}{args fs:List V}{DD DT:Store}{r:V}{us:List Bj}{Q:Bj→Bl→Prop}(hd: ∀vals,(A.under (.builtin "type.__call__" ⟨.ref (c.CL cl)::vals, []⟩)).depth<1000)(Z: ∀vals env,∃kk,Zt K c fa (DZ n) ((A.under (.builtin "type.__call__" ⟨.ref (c.CL cl)::vals, []⟩)).deeper env) kk)
  (e1:(DZ (n+1)).init cl args x.σ=some (fs,DD)) (e2:Df keep (.inst cl) fs DD=some (r,DT)) (hv:x.GC us args) (k:Ok x DT r Q):Bp (Bq c.prog c.w) A (PySem.call (.ref (c.CL cl)) us) Q Dq x.s:=by
 refine wr λZ0 z0=> ?_;refine DA (x:=KI cl) e1 λi h1 e1=>DA (x:=fns[i]?) e1 λfn h2 e1=> ?_;refine HY (CK.at_ cl i fn h1 h2) λsn ps CA=> ?_;refine TJ (F.at_ i fn h2) λo fd body F=> ?_;rw [CA.ps] at e1;refine DA (x:=Mine.Internal.bindArgs ps args fn.df) e1 λloc e3 e4=> ?_;refine ET (WO e3 hv) λb1 b2 bd=> ?_;refine ET (UH cl) λn1 n2 n3=> ?_;refine z0 ?_;have X:=x.R.eM B.X;have kp: ∀b o,x.s.heap.get? b=some o→((x.s.heap.push CF).push (CB (c.CL cl) x.s.heap.objs.size)).get? b=some o:=λb o e=>Β _ (Β _ e);have R0:F5 c x.hf x.ρ x.σ ((x.s.heap.push CF).push (CB (c.CL cl) x.s.heap.objs.size)):=x.R.Ei λb o e O=>kp b o e;have l0:Le x ⟨x.hf,x.ρ,x.σ,{x.s with heap:=(x.s.heap.push CF).push (CB (c.CL cl) x.s.heap.objs.size)},R0⟩:=⟨F7 _ _ kp,rfl,rfl,rfl⟩;have nd:=Dc x.s.heap;have nI:=MM (h:=x.s.heap) (Ac x.s.heap.objs.size)
 have gI:((x.s.heap.push CF).push (CB (c.CL cl) x.s.heap.objs.size)).get? (x.s.heap.objs.size+1)=some (CB (c.CL cl) x.s.heap.objs.size):=by
  have:=Ξ (x.s.heap.push CF) (o:=CB (c.CL cl) x.s.heap.objs.size) rfl
  rwa [Bg] at this
 have gd:((x.s.heap.push CF).push (CB (c.CL cl) x.s.heap.objs.size)).get? x.s.heap.objs.size=some CF:=Β _ (Ξ _ rfl);have hb:=F.bind (s:={x.s with heap:=(x.s.heap.push CF).push (CB (c.CL cl) x.s.heap.objs.size)}) (us:= .ref (x.s.heap.objs.size+1)::us) (R0.eM B.X) (by exact C9 CA.ps<|Κ b1) (by exact C9 CA.ps<|C9 ξ<|C9 ξ<|zsh b2)
 have hb:CZ {x.s with heap:=(x.s.heap.push CF).push (CB (c.CL cl) x.s.heap.objs.size)} fd ⟨.ref (x.s.heap.objs.size+1)::us, []⟩ ([(nm sn, .ref (x.s.heap.objs.size+1))]++Ly ps us):=by
  rw [CA.ps] at hb;unfold Ly at hb;rw [ξ,ξ,Nat.succ_sub_succ] at hb;exact hb
 have names:([(nm sn,Bj.ref (x.s.heap.objs.size+1))]++Ly ps us).map (·.1)=fn.ps.map nm:=by
  have:=TX bd
  rw [Hm e3] at this;rw [CA.ps,Χ,←this];rfl
 refine wpAny_call (make_core (h:=x.s.heap) (g:=x.s.gens) (d:=x.s.drawn) (t:=x.s.toks) (os:=x.s.os) (makes_of X CA.mks) (looks_findIn X CA.fi) (λself=>bind_fn X self CA.ty) (.inl rfl) ?_);refine Vn (x:=⟨x.hf,x.ρ,x.σ,{x.s with heap:=(x.s.heap.push CF).push (CB (c.CL cl) x.s.heap.objs.size)},R0⟩) (pre:= [(nm sn, .ref (x.s.heap.objs.size+1))]) (binds:=Ly ps us) (hd us) ((R0.eM B.X) _ _ F.ob) F.dt ((B.nolimit.keeps x.base).keeps kp) (F.code (R0.eM B.X)) F.bd F.S hb (bd.imp λO O h=>⟨h.1,VV.le h.2 l0⟩) (by exact C9 names F.nd) (λp hp=>(F.pk p.1 (by exact C9 CA.ps<|Dr (Hm e3)<| .tail _ (AD.mpr (DM p hp rfl)))).1) (λb hb=> ?_) λenv y hs ey l fr nmd own=> ?_
 ·have:b.1∈fn.ps.map nm:=by exact Dr names<|AD.mpr (DM b hb rfl)
  refine DQ (AD.mp this) λm hm w=> ?_;exact w▸(F.pk m hm).2
 ·refine wr λZ0 z0=> ?_
  refine D3 (Z us env) λkk Z=> ?_;have xx:=l0.trans l;refine ET (l.own gI (x.R.fresh nI).1 (x.R.fresh nI).2) λpI1 pI2 pI3=> ?_;refine ET (l.own gd (x.R.fresh nd).1 (x.R.fresh nd).2) λpd1 pd2 pd3=> ?_;refine z0 ?_
  have yV: ∀b,NP env b→x.s.heap.get? b=none:=λb hb=>by
   cases q:x.s.heap.get? b with
   |none=>rfl
   |some o=>exact DC ((own b hb).symm.trans (kp b o q))
  have H:VH x cl (x.s.heap.objs.size+1) x.s.heap.objs.size [] CF [] [] y:=⟨xx,nI,nd,Nat.succ_ne_self _,⟨pI1,pI2⟩,⟨pd1,pd2⟩,pI3,pd3,⟨(FC (#[]) 0 rfl (λe he=>absurd he (by simp)) rfl (λa O=>rfl)),rfl,AT _⟩, .nil⟩;refine iL Z (x:=x) (sn:=sn) (I:=x.s.heap.objs.size+1) (d:=x.s.heap.objs.size) yV (λz=>DC ((own _ z).symm.trans gI)) (λz=>DC ((own _ z).symm.trans gd)) n1 n2 n3 (ts:=fn.body) (body:=body) (pre:= []) (by exact C9 hs F.ok) CA.sf (by exact C9 ey e4) fr (nmd (nm sn, .ref (x.s.heap.objs.size+1)) (.head _)) rfl H λw o' D4 H2 ew=>⟨rfl, ?_⟩;have hn:=H2.pI.1;have R2:F5 c (Vo w.hf (x.s.heap.objs.size+1) (CB (c.CL cl) x.s.heap.objs.size)) w.ρ w.σ w.s.heap:=w.R.freeze hn (λO O e=>e) H2.gI rfl λi z q e1 e2=> .inl ⟨e1,λO=>H2.pI.2 q (AC e2)⟩;have N2:Os x.hf x.ρ x.s.heap (Vo w.hf (x.s.heap.objs.size+1) (CB (c.CL cl) x.s.heap.objs.size)) w.ρ w.s.heap:=⟨λb o e=>Hv hn b o (H2.le.nx.kf b o e),H2.le.nx.Jg,H2.le.nx.Ee,λb o e=>JE e (λq O=> .inr (.inr (q▸nI))) λO e=>H2.le.nx.FA b o e,H2.le.nx.EE⟩;exact N5 (x:=x) (p:=(x.s.heap.objs.size+1,x.s.heap.objs.size)) e2 N2 (ew▸R2) nd ((N7 _ _ (Ne.symm H2.ne)).trans H2.pd.1) H2.pd.2 H2.gd ⟨GI _ _ _,H2.at_⟩ (H2.v.Mi (Hv hn) λO O e=>e) k rfl H2.le.sm
theorem Pi{n cl:Nat}{args:List V}{σ:Store}{r:List V×Store}(e:(DZ n).init cl args σ=some r):(KI cl).isSome=true:=by
 cases n with
 |zero=>exact DC e
 |succ n=>exact DA (x:=KI cl) e λi h O=>by exact C9 h rfl
theorem mJ(B:I2 K c)(T:KG K c fa)(F:wI K c fa)(CK:nA K c fa)(n:Nat): ∀A:Bs,Ms A (n+1)→kP c fa (DZ n) A:=by
 induction n with
 |zero=>intro A rm;exact ⟨λe=>DC e,λe=>DC e,λe=>Pi e⟩
 |succ n ih=>
  intro A rm;have dp:A.depth+2<1000:=by have:=rm.depth;lia
  refine ⟨λe hv k=>iC B F (by exact PU dp) (λenv=>⟨n,B,T,ih _ (rm.deeper env),rm.deeper env⟩) e hv k,λe1 e2 hv k=>eg B F CK (λvals=> ?_) (λvals env=>⟨n,B,T,ih _ (rm.make _ vals env),rm.make _ vals env⟩) e1 e2 hv k,λe=>Pi e⟩;show A.depth+1<1000;exact Aa dp
end
end
section
mutual open A
def S2(i:Nat):Br:= [187,251,258,272,279,284,289,296,301,316,323,330,351,358,372,379,384,404,425,439,446,453,460,467,474,479,484,492,499,504,511,525,532,539,546,558,563,570,575,582,589,594,601,608,613,618,623,628,633,638].getD i 0
def Lm(i:Nat):Br:= [155,190,212,233,261,387,407,428,549].getD i 0
def gT:List Nat:= [1,4,5,6,7,8]
theorem cS{c:Nat}(h:(DX c).isEmpty=false):c∈gT:=by
 match c with
 |0=>exact ζ h
 |1=>exact .head _
 |2=>exact ζ h
 |3=>exact ζ h
 |4=>exact .tail _ (.head _)
 |5=>exact .tail _ (.tail _ (.head _))
 |6=>exact .tail _ (.tail _ (.tail _ (.head _)))
 |7=>exact .tail _ (.tail _ (.tail _ (.tail _ (.head _))))
 |8=>exact .tail _ (.tail _ (.tail _ (.tail _ (.tail _ (.head _)))))
 |n+9=>exact ζ h
theorem FY{α:Type}{f:α→Bool}{l:List α}(h:l.all f=true){x:α}(hx:x∈l):f x=true:=Au.mp h x hx
def yR(K:B4)(c:Nat):Bool:=
 CV K (.ref (Lm c)) "__getattribute__" ==some (some (.builtin "object.__getattribute__"))&&((clsIn K (Lm c)).any (·.hasDict)&&(((DX c).all λa=>CV K (.ref (Lm c)) (nm a)==some none)&&
 (CV K (.ref (Lm c)) "__setattr__" ==some (some (.builtin "object.__setattr__"))&&(plainOver K (Lm c)&&(Cy K (Lm c) "__class__" &&(hasDictIn K (Lm c)&&
 (CV K (.ref (Lm c)) "__class__" ==some (some (.builtin "object.__class__"))&&mroIn K (Lm c) (.type "object")==some true)))))))
def yK(K:B4):Bool:=(BW 19).all λk=> !dx k||(BW 19).all λt=>kitOne K (fH Lm k) (fH Lm t)==some (ME k t)
def rE(K:B4):Bool:=gT.all (yR K)&&(yK K&&(specialIn K (.builtin "object.__class__") "__get__" ==some (some (.builtin "getset_descriptor.__get__"))&&takesIn K (.builtin "object.__class__")==some true))
theorem fO{k:Nat}(h:dx k=true):k<19:=by
 unfold dx at h;rcases Bool.or_eq_true_iff.mp h with w|w
 ·have:k<7:=by simpa using w
  exact IJ this rfl
 ·have q:=cS (c:=k - 10) (by have:=(band w).2;cases z:(DX (k - 10)).isEmpty with|true=>rw [z] at this;exact ζ this|false=>rfl)
  have l:k - 10≤8:=by
   have: ∀c∈gT,c≤8:=by decide
   exact this _ q
  lia
theorem nh{K:B4}(h:rE K=true):zv K Lm:=by
 refine Dl (band h) λh1 h=> ?_;refine Dl (band h) λh2 h=> ?_;refine Dl (band h) λh3 h4=> ?_;have one:=λ{c:Nat} (e:(DX c).isEmpty=false)=>FY h1 (cS e)
 have ne: ∀{c a:Nat},a∈DX c→(DX c).isEmpty=false:=λ{c a} w=>by cases z:DX c with
  |nil=>rw [z] at w;exact absurd w Γ
  |cons=>rfl
 refine {ga:=λc e=>eq_of_beq (band (one e)).1,cd:=λc e=>(band (band (one e)).2).1,na:=λc a w=>eq_of_beq (FY (band (band (band (one (ne w))).2).2).1 w),sa:=λc e=>eq_of_beq (band (band (band (band (one e)).2).2).2).1,po:=λc e=>(band (band (band (band (band (one e)).2).2).2).2).1,e7:=λk t hk ht=> ?_,g1:=λc e=>(band (band (band (band (band (band (one e)).2).2).2).2).2).1,g2:=λc e=>(band (band (band (band (band (band (band (one e)).2).2).2).2).2).2).1,g3:=λc e=>eq_of_beq (band (band (band (band (band (band (band (band (one e)).2).2).2).2).2).2).2).1,g4:=eq_of_beq h3,g5:=eq_of_beq h4,g6:=λc e=>eq_of_beq (band (band (band (band (band (band (band (band (one e)).2).2).2).2).2).2).2).2};have a:=FY h2 (BA.mpr (fO hk));rw [hk] at a;have ht:t<19:=by simpa using ht
 exact eq_of_beq (FY (show (BW 19).all (λt=>kitOne K (fH Lm k) (fH Lm t)==some (ME k t))=true from a) (BA.mpr ht))
theorem Jm{x:Nat}{v:Nat}: ∀{ks vs:List Nat},Du ks vs x=some v→(x,v)∈ks.zip vs:=λ{ks}=>by
 induction ks with
 |nil=>intro vs h;exact DC h
 |cons k ks ih=>
  intro vs h;cases vs with
  |nil=>exact DC h
  |cons u vs=>
   refine E6 (show cond (μ k x) (some u) (Du ks vs x)=some v from h) (λq e=> ?_) λO e=> .tail _ (ih e);exact Dr (nb q)<|Dr (η e)<| .head _
def jl:List (Nat×List (Nat×Nat)):= [(4,(Hc 4).1.zip (Hc 4).2),(5,(Hc 5).1.zip (Hc 5).2),(8,(Hc 8).1.zip (Hc 8).2)]
def kgB(K:B4):Bool:=
 ((gfK.zip gfV).all λp=>C3 K Bx (nm p.1)==some (some (.ref (S2 p.2)))&&Μ p.2 fns.length)&&(((BW 9).all λc=>C3 K Bx (Pr c)==some (some (.ref (Lm c))))&&
 ((Pz.all λa=>C3 K Bx a==some none)&&(((BW fns.length).all λi=>keepIn K (.ref (S2 i)))&&((gT.all λc=>keepIn K (.ref (Lm c)))&&
 (jl.all λq=>q.2.all λp=>Μ p.2 fns.length&&(Cy K (Lm q.1) (nm p.1)&&(CV K (.ref (Lm q.1)) (nm p.1)==some (some (.ref (S2 p.2)))&&isFn K (.ref (S2 p.2)))))))))
def Qc:List Bj→List Nat→Bool
 | .str x _::vs,n::ns=>EQ x (nm n)&&(Μ n Fw.length&&Qc vs ns)
 | [], []=>true
 |_,_=>false
def Qn(K:B4)(n:Nat)(l:List Nat):Bool:=match C3 K Bx (nm n) with
 |some (some (.ref a))=>(match K.lookup a with
  |some o=>(match o.data with
   | .seq vs _=>Qc vs.toList l&&(o.cls== .type "tuple" &&(o.dict.isNone&&o.slots.isEmpty))
   |_=>false)
  |none=>false)
 |_=>false
theorem fU{c:Cx}{hf:HF}: ∀{vs:List Bj} {l:List Nat},Qc vs l=true→DS (DV c hf) vs (l.map D.sym):=λ{vs}=>by
 induction vs with
 |nil=>intro l h;cases l with
  |nil=>exact .nil
  |cons=>exact ζ h
 |cons v vs ih=>
  intro l h;cases l with
  |nil=>cases v<;>exact ζ h
  |cons n l=>
   cases v with
   |str x t=>
    have e:=EH (band h).1;have q:n<Fw.length:=by simpa using (band (band h).2).1
    exact .cons (e▸DV.sym n t q) (ih (band (band h).2).2)
   |_=>exact ζ h
theorem PX{K:B4}{c:Cx}{n:Nat}{l:List Nat}(hl:l.length≤big)(h:Qn K n l=true): ∃v,C3 K Bx (nm n)=some (some v)∧DV c (λb=>K.lookup b) v (.nd .tup (l.map D.sym)):=by
 unfold Qn at h;cases h1:C3 K Bx (nm n) with
 |none=>rw [h1] at h;exact ζ h
 |some r=>
  rw [h1] at h;cases r with
  |none=>exact ζ h
  |some v=>
   cases v with
   |ref a=>
    refine (DM (.ref a) rfl ?_);have h:(match K.lookup a with|some o=>(match o.data with| .seq vs _=>Qc vs.toList l&&(o.cls== .type "tuple" &&(o.dict.isNone&&o.slots.isEmpty))|_=>false)|none=>false)=true:=h;cases h2:K.lookup a with
    |none=>rw [h2] at h;exact ζ h
    |some o=>
     rw [h2] at h;obtain ⟨oc,od,dt,sl⟩:=o;cases dt with
     |seq vs k=>
      have q1:oc= .type "tuple" :=eq_of_beq (band (band h).2).1;have q2:od=none:=Af.mp (band (band (band h).2).2).1;have q3:sl= #[]:=Array.isEmpty_iff.mp (band (band (band h).2).2).2;subst q1 q2 q3;have q:=fU (c:=c) (hf:=λb=>K.lookup b) (band h).1;exact DV.nd (p:=(a,a)) (o:=⟨.type "tuple",none, .seq vs k, #[]⟩) (h:= .tup) h2 ⟨rfl,by exact C9 q.length<|C9 (ι _)<|hl,k,rfl⟩ q
     |_=>exact ζ h
   |_=>exact ζ h
def gvB(K:B4):Bool:=Qn K 20 [13,14,1]&&(Qn K 6 [17,10,4,19]&&(match C3 K Bx (nm 8) with|some (some (.int i _))=>i==30|_=>false))
theorem qd{K:B4}{prog:Program}{w:World}{h₀:Bz}(h:kgB K=true)(hg:gvB K=true):KG K ⟨prog,w,Lm,h₀⟩ S2:=by
 refine Dl (band h) λh1 h=> ?_;refine Dl (band h) λh2 h=> ?_;refine Dl (band h) λh3 h=> ?_;refine Dl (band h) λh4 h=> ?_;refine Dl (band h) λh5 h6=> ?_;refine ⟨λf i e=> ?_,λcl l=>eq_of_beq (FY h2 (BA.mpr l)),λi a e=>eq_of_beq (FY h3 (AC e)),λa d e=> ?_,λi l=>FY h4 (BA.mpr l),λcl e=>FY h5 ?_,λcl m i e=> ?_⟩
 ·have:=FY h1 (Jm e)
  exact ⟨eq_of_beq (band this).1,by simpa using (band this).2⟩
 ·refine Dl (band hg) λg1 g=> ?_
  refine Dl (band g) λg2 g3=> ?_;unfold iM at e
  split at e
  ·cases e;exact PX (by decide) g1
  ·cases e;exact PX (by decide) g2
  ·cases e
   cases z:C3 K Bx (nm 8) with
   |none=>rw [z] at g3;exact ζ g3
   |some r=>
    rw [z] at g3;cases r with
    |none=>exact ζ g3
    |some v=>cases v with
     |int i t=>exact (DM _ rfl ((eq_of_beq g3:i=30)▸DV.int i t))
     |_=>exact ζ g3
  ·exact DC e
 ·match cl,e with
  |1,_=>decide
  |4,_=>decide
  |5,_=>decide
  |6,_=>decide
  |7,_=>decide
  |8,_=>decide
 ·have go: ∀q∈jl,(m,i)∈q.2→i<fns.length∧Cy K (Lm q.1) (nm m)=true∧CV K (.ref (Lm q.1)) (nm m)=some (some (.ref (S2 i)))∧isFn K (.ref (S2 i))=true:=λq hq hp=>by
   have:=FY (FY h6 hq) hp
   exact (Vt (by simpa using (band this).1) ((band (band this).2).1) (eq_of_beq (band (band (band this).2).2).1) ((band (band (band this).2).2).2))
  match cl,e with
  |4,e=>exact go (4,_) (.head _) (Jm e)
  |5,e=>exact go (5,_) (.tail _ (.head _)) (Jm e)
  |8,e=>exact go (8,_) (.tail _ (.tail _ (.head _))) (Jm e)
end
end
section
mutual open A
variable{s:Bl}{K:B4}{fd:CD}
structure sH(K:B4)(fd:CD)(ns:List Str):Prop where
 p1:fd.params.posonlyargs= []
 p2:fd.params.args.map (·.arg)=ns
 p3:fd.params.kwonlyargs= []
 p4:fd.params.vararg=none
 p5:fd.params.kwarg=none
 p6: ∃T o n,fd.defaults= .ref T∧K.lookup T=some o∧o.data= .seq #[.none, .none] n
def Q8(s:List (Str×Bj))(n:Str):List (Str×Bj):=cond (s.lookup n).isNone (s++ [(n, .none)]) s
theorem jX{M:Model}{A:Bs}{Q:List (Str×Bj)→Bl→Prop}{E:Bj→Bl→Prop}{st:Bl}{s0:List (Str×Bj)}{b:Str}{xs:List (Str×Bj)}(k:Bp M A (forIn xs (Q8 s0 b) qA) Q E st):Bp M A (forIn ((b,Bj.none)::xs) s0 qA) Q E st:=by
 unfold Q8 at k;refine C9 (BK _ _ _ _) ?_;cases h1:(s0.lookup b).isNone with
 |true=>rw [h1] at k;exact C9 (show qA (b,Bj.none) s0=_ from if_pos h1)<|C9 (pure_bind _ _) k
 |false=>rw [h1] at k;exact C9 (show qA (b,Bj.none) s0=_ from if_neg (by rw [h1];exact Aj))<|C9 (pure_bind _ _) k
theorem ux{M:Model}{A:Bs}{Q:List (Str×Bj)→Bl→Prop}{E:Bj→Bl→Prop}{st:Bl}{s0:List (Str×Bj)}{b d:Str}(k:Q (Q8 (Q8 s0 b) d) st):Bp M A (forIn [(b,Bj.none),(d,Bj.none)] s0 qA) Q E st:=jX (jX (Bn k))
theorem sQ{α:Type}{us:List α}(h1:us.length≤3)(h2:3≤us.length+2):(∃x,us= [x])∨(∃x y,us= [x,y])∨ ∃x y z,us= [x,y,z]:=by
 cases us with
 |nil=>exact absurd h2 (by show¬3≤2;decide)
 |cons x us=>cases us with
  |nil=>exact .inl (EG x rfl)
  |cons y us=>cases us with
   |nil=>exact .inr (.inl (TM x y rfl))
   |cons z us=>cases us with
    |nil=>exact .inr (.inr (Ma x y z rfl))
    |cons=>exact absurd h1 (Nat.not_le_of_lt (ψ 4 _))
theorem ZL{a b d:Str}{us:List Bj}(ab:(b==a)=false)(ad:(d==a)=false)(bd:(d==b)=false)(h1:us.length≤3)(h2:3≤us.length+2):([a,b,d]++ []).filterMap (λn=>((Q8 (Q8 ([a,b,d].zip us) b) d).lookup n).map λx=>(n,x))= [a,b,d].zip (us++AA (3 - us.length) .none)∧(Bb a ([a,b,d].zip us)).isNone=false:=by
 rcases sQ h1 h2 with ⟨x,rfl⟩|⟨x,y,rfl⟩|⟨x,y,z,rfl⟩<;>simp [ab,ad,bd,Bb,Q8,AA]
theorem gA{A1 A2 A3:Arg}{us:List Bj}{T:Br}{o:Obj}{n:Nat}(X:K.In s.heap)(e2:K.lookup T=some o)(e3:o.data= .seq #[.none, .none] n){mq qn bd sc gl cl kd dc pm an co ct xx m9 df}(l2:(Bb A1.arg ([A1.arg,A2.arg,A3.arg].zip us)).isNone=false)(h1:us.length≤3):
  CZ s ⟨mq,qn,⟨[], [A1,A2,A3],none, [],m9,none,df⟩,bd,sc,gl,cl, .ref T,kd,dc,pm,an,co,ct,xx⟩ ⟨us, []⟩ (([A1.arg,A2.arg,A3.arg]++ []).filterMap (λn=>((Q8 (Q8 ([A1.arg,A2.arg,A3.arg].zip us) A2.arg) A3.arg).lookup n).map λx=>(n,x))):=by
 refine Pc (r:=some #[.none, .none]) (ds:= [.none, .none]) rfl (λk=>wpAny_seqItems (X _ _ e2) e3 k) h1 ?_ (λk=>ux k) rfl;show (!(List.filter (λn=>(Bb n ([A1.arg,A2.arg,A3.arg].zip us)).isNone) [A1.arg]).isEmpty)=false;exact C9 Al<|C9 l2 rfl
theorem yW{as:List Arg}{a b d:Str}(h:as.map (·.arg)= [a,b,d]): ∃A1 A2 A3,as= [A1,A2,A3]∧A1.arg=a∧A2.arg=b∧A3.arg=d:=by
 cases as with
 |nil=>exact nomatch h
 |cons A1 as=>cases as with
  |nil=>exact nomatch h
  |cons A2 as=>cases as with
   |nil=>exact nomatch h
   |cons A3 as=>cases as with
    |nil=>
     injection h with e1 h
     injection h with e2 h
     injection h with e3 h
     exact (Ea A1 A2 A3 rfl e1 e2 e3)
    |cons=>exact nomatch (Bi.inj (Bi.inj (Bi.inj h).2).2).2
theorem Xj{a b d:Str}{us:List Bj}(X:K.In s.heap)(P:sH K fd [a,b,d])(ab:(b==a)=false)(ad:(d==a)=false)(bd:(d==b)=false)(h1:us.length≤3)(h2:3≤us.length+2):
  CZ s fd ⟨us, []⟩ ([a,b,d].zip (us++AA (3 - us.length) .none)):=by
 refine Dl (ZL ab ad bd h1 h2) λl1 l2=> ?_;refine Dr l1 ?_;clear l1 ab ad bd;have ⟨p1,p2,p3,p4,p5,T,o,n,e1,e2,e3⟩:=P;refine Do (yW p2) λA1 A2 A3 q q1 q2 q3=> ?_;clear P p2;subst q1 q2 q3;obtain ⟨mq,qn,⟨po,as,va,ko,m9,kw,df⟩,bd,sc,gl,cl,dv,kd,dc,pm,an,co,ct,xx⟩:=fd;dsimp only at p1 p3 p4 p5 e1 q;subst p1 p3 p4 p5 e1 q;exact gA X e2 e3 l2 h1
end
end
section
mutual open A
def UV:List Str→List Str→Bool
 | [], []=>true
 |a::l,b::r=>EQ a b&&UV l r
 |_,_=>false
theorem YX: ∀{l r:List Str},UV l r=true→l=r:=λ{l}=>by
 induction l with
 |nil=>intro r h;cases r with
  |nil=>rfl
  |cons=>exact ζ h
 |cons a l ih=>intro r h;cases r with
  |nil=>exact ζ h
  |cons b r=>(exact C9 (EH (band h).1)<|C9 (ih (band h).2) rfl)
def qQ:ScopeKind→Bool
 | .function=>true
 |_=>false
def iO:B0→Bool
 | .free=>false
 |_=>true
def i7:Option B0→Bool
 |some .local=>true
 |some .cell=>true
 |_=>false
def dz(fd:CD)(ns:List Str):Bool:=fd.params.posonlyargs.isEmpty&&(UV (fd.params.args.map (·.arg)) ns&&(fd.params.kwonlyargs.isEmpty&&(fd.params.vararg.isNone&&fd.params.kwarg.isNone)))
def NH:Bj→Bool
 | .none=>true
 |_=>false
theorem J9{v:Bj}(h:NH v=true):v= .none:=by cases v with|none=>rfl|_=>exact ζ h
def OS:List Bj→Bool
 | [a,b]=>NH a&&NH b
 |_=>false
theorem R7{l:List Bj}(h:OS l=true):l= [.none, .none]:=by
 cases l with
 |nil=>exact ζ h
 |cons a l=>cases l with
  |nil=>exact ζ h
  |cons b l=>cases l with
   |nil=>(exact C9 (J9 (band h).1)<|C9 (J9 (band h).2) rfl)
   |cons=>exact ζ h
def Wa(K:B4)(fd:CD):Bool:=match fd.defaults with
 | .ref T=>(match K.lookup T with
  |some o=>(match o.data with
   | .seq vs _=>OS vs.toList
   |_=>false)
  |none=>false)
 |_=>false
def Zw:List Str→Bool
 | [a,b,d]=> !EQ b a&&(!EQ d a&& !EQ d b)
 |_=>false
def Zg(K:B4)(fd:CD)(fn:Fn):Bool:=match fn.df with
 |0=>NH fd.defaults
 |2=>Wa K fd&&Zw (fn.ps.map nm)
 |_=>false
def NX:List Str→Bool
 | []=>true
 |a::l=> !(l.any (EQ a))&&NX l
theorem Ys: ∀{l:List Str},NX l=true→l.Nodup:=λ{l}=>by
 induction l with
 |nil=>intro _;exact .nil
 |cons a l ih=>
  intro h;refine Η.mpr ⟨λz=> ?_,ih (band h).2⟩
  have:l.any (EQ a)=true:=List.any_eq_true.mpr (DM a z (by unfold EQ;exact JJ _))
  rw [show NX (a::l)=(!(l.any (EQ a))&&NX l) from rfl,this] at h;exact ζ h
def kh(K:B4)(fd:CD)(fn:Fn):Bool:=
 qQ fd.scope.kind&&(!fd.scope.isCoroutine&&(!fd.scope.isGenerator&&(μ fd.globals Bx&&(μ fd.builtins Cv&&(fd.closure.isEmpty&&(fd.scope.names.all (λp=>iO p.2)&&
 (codeIn K fd.code fd.qualname&&(NX (fn.ps.map nm)&&((fn.ps.all λn=>Μ n Fw.length&&i7 (fd.scope.names.lookup (nm n)))&&(dz fd (fn.ps.map nm)&&Zg K fd fn))))))))))
def zm(K:B4)(i:Nat)(fn:Fn):Bool:=match K.lookup (S2 i) with
 |some o=>(match o.data with
  | .func fd=>kh K fd fn&&(match fd.body with
   | .stmts body=>OJ (vw fd.scope) ((cQ fn.body).map Sk.s) body
   |_=>false)
  |_=>false)
 |none=>false
def gN(K:B4):Nat→List Fn→Bool
 |_, []=>true
 |i,f::r=>zm K i f&&gN K (i+1) r
theorem Oc{a b:Str}(h:(!EQ a b)=true):(a==b)=false:=beq_eq_false_iff_ne.mpr λz=>by
 rw [z,show EQ b b=true from JJ _] at h;exact ζ h
theorem cF{l:List Str}(h:Zw l=true): ∃a b d,l= [a,b,d]∧(b==a)=false∧(d==a)=false∧(d==b)=false:=by
 cases l with
 |nil=>exact ζ h
 |cons a l=>cases l with
  |nil=>exact ζ h
  |cons b l=>cases l with
   |nil=>exact ζ h
   |cons d l=>cases l with
    |nil=>exact (Ea a b d rfl (Oc (band h).1) (Oc (band (band h).2).1) (Oc (band (band h).2).2))
    |cons=>exact ζ h
theorem iT{K:B4}{fd:CD}(h:Wa K fd=true): ∃T o n,fd.defaults= .ref T∧K.lookup T=some o∧o.data= .seq #[.none, .none] n:=by
 unfold Wa at h;cases z:fd.defaults with
 |ref T=>
  rw [z] at h;have h:(match K.lookup T with|some o=>(match o.data with| .seq vs _=>OS vs.toList|_=>false)|none=>false)=true:=h;cases z2:K.lookup T with
  |none=>rw [z2] at h;exact ζ h
  |some o=>
   rw [z2] at h;obtain ⟨oc,od,dt,sl⟩:=o;cases dt with
   |seq vs n=>
    obtain ⟨vs⟩:=vs;exact ⟨T,_,n,rfl,z2,by (exact C9 (R7 (l:=vs) h) rfl)⟩
   |_=>exact ζ h
 |_=>rw [z] at h;exact ζ h
theorem dq{K:B4}{fd:CD}{fn:Fn}{s:Bl}{us:List Bj}(nd:(fn.ps.map nm).Nodup)(hp:dz fd (fn.ps.map nm)=true)(hb:Zg K fd fn=true)(X:K.In s.heap)(h1:us.length≤fn.ps.length)(h2:fn.ps.length≤us.length+fn.df):CZ s fd ⟨us, []⟩ (Ly fn.ps us):=by
 have q1:=AZ.mp (band hp).1;have q2:=YX (band (band hp).2).1;have q3:=AZ.mp (band (band (band hp).2).2).1;have q4:=Af.mp (band (band (band (band hp).2).2).2).1;have q5:=Af.mp (band (band (band (band hp).2).2).2).2;unfold Zg at hb;revert hb h2;generalize fn.df=df;intro hb h2;cases df with
 |zero=>exact ff ⟨q1,q2,q3,q4,q5,J9 hb⟩ nd h1 h2
 |succ df=>cases df with
  |zero=>exact ζ hb
  |succ df=>cases df with
   |succ=>exact ζ hb
   |zero=>
    have hd:(Wa K fd&&Zw (fn.ps.map nm))=true:=hb;refine Do (cF (band hd).2) λa b d e c1 c2 c3=> ?_;have l:fn.ps.length=3:=by exact Dr (ι (f:=nm))<|C9 e rfl
    unfold Ly;refine C9 e<|C9 l ?_
    rw [l] at h1 h2;exact Xj X ⟨q1,q2.trans e,q3,q4,q5,iT (band hd).1⟩ c1 c2 c3 h1 h2
set_option tactic.hygienic true in theorem Zo {K:B4} {cd:Bj} {q:Str} (e:codeIn K cd q=true): ∃c cls od vs sl t,cd= .ref c∧K.lookup c=some ⟨cls,od, .fields vs,sl⟩∧vs[1]?=some (.str q t):=by
 cases cd with
 |ref c=>
  change (match K.lookup c with|some ⟨_,_, .fields vs,_⟩=>(match vs.toList with|_:: .str n _::_=>n==q|_=>false)|_=>false)=true at e
  cases z:K.lookup c with
  |none=>rw [z] at e;exact ζ e
  |some o=>
   rw [z] at e;cases o with
   |mk a1 a2 a3 a4=>
    cases a3 with
    |fields vs=>
     refine ⟨c,a1,a2,vs,a4, ?_⟩
     have w: ∀l:List Bj,(match l with|_:: .str n _::_=>n==q|_=>false)=true→ ∃t,l[1]?=some (.str q t):=λl h=>by
      cases l with
      |nil=>exact ζ h
      |cons a l=>cases l with
       |nil=>exact ζ h
       |cons b r=>cases b with
        |str n t=>exact ⟨t,congrArg (λy=>some (Bj.str y t)) (beq_iff_eq.mp h)⟩
        |_=>exact ζ h
     exact (w _ e).elim λt h=>⟨t,rfl,z,(Array.getElem?_toList).symm.trans h⟩
    |_=>exact ζ e
 |_=>exact ζ e
theorem sG{K:B4}{c:Cx}{i:Nat}{fn:Fn}(h:zm K i fn=true): ∃o fd body,FnAt K c S2 i fn o fd body:=by
 unfold zm at h;cases z1:K.lookup (S2 i) with
 |none=>rw [z1] at h;exact ζ h
 |some o=>
  rw [z1] at h;obtain ⟨oc,od,dt,sl⟩:=o;cases dt with
  |func fd=>
   have h:(kh K fd fn&&(match fd.body with| .stmts body=>OJ (vw fd.scope) ((cQ fn.body).map Sk.s) body|_=>false))=true:=h;refine Dl (band h) λh hb=> ?_;cases z2:fd.body with
   |stmts body=>
    refine wr λZ0 z0=> ?_;rw [z2] at hb;refine Dl (band h) λa1 h=> ?_;refine Dl (band h) λa2 h=> ?_;refine Dl (band h) λa3 h=> ?_;refine Dl (band h) λa4 h=> ?_;refine Dl (band h) λa5 h=> ?_;refine Dl (band h) λa6 h=> ?_;refine Dl (band h) λa7 h=> ?_;refine Dl (band h) λa8 h=> ?_;refine Dl (band h) λa9 h=> ?_;refine Dl (band h) λa10 h=> ?_;refine Dl (band h) λa11 a12=> ?_;refine z0 ?_;have nd:=Ys a9;refine ⟨_,fd,body,z1,rfl,z2,⟨?_, ?_, ?_,nb a4,nb a5,AZ.mp a6,λn e=> ?_⟩, ?_,hb,nd,λn hn=> ?_,λX h1 h2=>dq nd a11 a12 X h1 h2⟩
    ·cases z:fd.scope.kind with
     |function=>rfl
     |_=>rw [z] at a1;exact ζ a1
    ·cases z:fd.scope.isCoroutine with
     |false=>rfl
     |true=>rw [z] at a2;exact ζ a2
    ·cases z:fd.scope.isGenerator with
     |false=>rfl
     |true=>rw [z] at a3;exact ζ a3
    ·exact ζ (FY a7 (mem_of_lookup e))
    ·refine Vb (Zo a8) λcc cls od vs sl t y1 y2 y3=> ?_
     exact (FQ _ _ vs t y1 y2 rfl y3)
    ·have w:=FY a10 hn
     refine ⟨by simpa using (band w).1, ?_⟩;have w:=(band w).2;cases z:fd.scope.names.lookup (nm n) with
     |none=>rw [z] at w;exact ζ w
     |some k=>
      rw [z] at w;cases k with
      |«local»=>exact .inl rfl
      |cell=>exact .inr rfl
      |_=>exact ζ w
   |_=>rw [z2] at hb;exact ζ hb
  |_=>exact ζ h
theorem mM{K:B4}{c:Cx}: ∀{l:List Fn} {i j:Nat} {fn:Fn},gN K i l=true→l[j]?=some fn→ ∃o fd body,FnAt K c S2 (i+j) fn o fd body:=λ{l}=>by
 induction l with
 |nil=>intro i j fn _ e;exact DC e
 |cons f r ih=>
  intro i j fn h e;cases j with
  |zero=>rw [η (e:some f=some fn)] at h;exact sG (band h).1
  |succ j=>have:=ih (i:=i+1) (band h).2 (e:r[j]?=some fn);rwa [BZ,Am 1 j] at this
theorem l8{K:B4}{c:Cx}(h:gN K 0 fns=true):wI K c S2:=⟨λi fn e=>by have:=mM (c:=c) h e;rwa [BP] at this⟩
def j5:List (Nat×Nat):= [(1,0),(4,1),(5,9),(6,17),(7,18),(8,31)]
def ckB(K:B4):Bool:=j5.all λp=>makesIn K (Lm p.1)&&(CV K (.ref (Lm p.1)) "__init__" ==some (some (.ref (S2 p.2)))&&(typeIn K (.ref (S2 p.2))==some (.type "function")&&(match fns[p.2]? with
 |some f=>(match f.ps with|s::_=>Rj s f.body| []=>false)
 |none=>false)))
theorem vh{K:B4}{prog:Program}{w:World}{h₀:Bz}(h:ckB K=true):nA K ⟨prog,w,Lm,h₀⟩ S2:=by
 refine ⟨λcl i fn e1 e2=> ?_⟩
 have go:(cl,i)∈j5→ ∃s ps,sN K ⟨prog,w,Lm,h₀⟩ S2 cl i fn s ps:=λhm=>by
  have:=FY h hm
  refine Dl (band this) λb1 b=> ?_;refine Dl (band b) λb2 b=> ?_;refine Dl (band b) λb3 b4=> ?_;rw [e2] at b4;have b4:(match fn.ps with|s::_=>Rj s fn.body| []=>false)=true:=b4;cases z:fn.ps with
  |nil=>rw [z] at b4;exact ζ b4
  |cons s ps=>rw [z] at b4;exact ⟨s,ps,b1,eq_of_beq b2,eq_of_beq b3,z,b4⟩
 revert go e1;refine Ft (λe go=>DC e) (λcl=> ?_) cl;refine Ft (λe go=>by cases e;exact go (.head _)) (λcl=> ?_) cl;refine Ft (λe go=>DC e) (λcl=> ?_) cl;refine Ft (λe go=>DC e) (λcl=> ?_) cl;refine Ft (λe go=>by cases e;exact go (.tail _ (.head _))) (λcl=> ?_) cl;refine Ft (λe go=>by cases e;exact go (.tail _ (.tail _ (.head _)))) (λcl=> ?_) cl;refine Ft (λe go=>by cases e;exact go (.tail _ (.tail _ (.tail _ (.head _))))) (λcl=> ?_) cl;refine Ft (λe go=>by cases e;exact go (.tail _ (.tail _ (.tail _ (.tail _ (.head _)))))) (λcl=> ?_) cl;refine Ft (λe go=>by cases e;exact go (.tail _ (.tail _ (.tail _ (.tail _ (.tail _ (.head _))))))) (λcl=> ?_) cl;exact λe go=>DC e
end
end
section
mutual open A
theorem SQ{c:Cx}{P:Params}{h:Bz}{il:List Int}: ∀{vs:List Bj},WellAll P h vs (ofPys (il.map .int))→KZ c (λb=>h.get? b) vs (il.map D.int):=by
 induction il with
 |nil=>intro vs W;cases W;exact .nil
 |cons i il ih=>
  intro vs W;cases W with
  |cons a b=>cases a with|int _ t=>exact .cons (.int i t) (ih b)
theorem US{c:Cx}{P:Params}{h:Bz}{il:List Int}{a:Br}(W:Well P h (.ref a) (ofPy (.list (il.map .int))))(hl:il.length≤big):DV c (λb=>h.get? b) (.ref a) (.nd .lst (il.map D.int)):=by
 cases W with
 | @list _ vs _ g wa=>
  have d:=SQ (c:=c) wa;exact DV.nd (p:=(a,a)) g ⟨rfl,by exact C9 d.length<|C9 (ι _)<|hl,0,rfl⟩ d
theorem qa{q:Program}{loose:List Str}{zA:ExcName→Option Bj}{prog:Program}{w:World}{K:B4}{s:Bl}{mg mb:Str→Option Bj}{a fa:Br}{il:List Int}{Q:Bj→Bl→Prop}{E:Bj→Bl→Prop}
  (T:Top q loose zA mg mb s.heap) (X:K.In s.heap) (hi:importsNone q=true) (b1:rE K=true) (b2:kgB K=true) (b3:gvB K=true) (b4:ckB K=true) (b5:gN K 0 fns=true)
  (hmg:mg (nm 89)=some (.ref fa)) (hw:Well w.params s.heap (.ref a) (ofPy (.list (il.map .int)))) (hl:il.length≤big)
  (law:(DZ 40).call false 49 [.d (.nd .lst (il.map .int))] []=some (.d (.bool true), []))
  (hQ: ∀s',(∀b o,s.heap.get? b=some o→s'.heap.get? b=some o)→s'.os=s.os→s'.gens=s.gens→Q (.bool true) s'):
  Bp (Bq prog w) callerA (PySem.call (.ref fa) [.ref a]) Q E s:=by
 have B:I2 K ⟨prog,w,Lm,s.heap⟩:=⟨X,nh b1,(EG _ T.g),(DM _ T.b T.builtins),T.nolimit,let ⟨_,⟨o,_,_,ho,_⟩,_⟩:=(T.seer hi).mods;(EG o ho)⟩;have KG:=qd (prog:=prog) (w:=w) (h₀:=s.heap) b2 b3
 have e:fa=S2 49:=by
  have h1:=KG.fn 89 49 rfl;have h2:=mg_of X T.g h1.1;rw [hmg] at h2;exact Bj.ref.inj (η h2)
 have ok:=mJ B KG (l8 b5) (vh b4) 40 callerA ⟨rfl,rfl,by decide,by decide⟩;have R:F5 ⟨prog,w,Lm,s.heap⟩ (λb=>s.heap.get? b) [] [] s.heap:=⟨λO O h=>h,λO O h=>h,rfl,λO O O e=>DC e,λO O O O O O e=>DC e,λO O e=>DC e⟩;refine C9 e ?_;refine Bu (ok.call (x:=⟨λb=>s.heap.get? b, [], [],s,R⟩) (us:= [.ref a]) (Q:=Q) law (.cons (US hw hl) .nil) λval y l O hv=> ?_) (λO O h=>h) λO O h=>h.elim;cases hv;exact hQ y.s (λb o e=>l.nx.Ee b o e λp hp=>absurd hp Γ) l.sm.os l.sm.gens
end
end
section
mutual open A
variable{G:HL}{loc DG:Di}{σ DD DK Dy DT:Store}{n f i c x y q b k:Nat}{v w u va vb vc o r:V}{vs ws:List V}{ds:List D}{a t1 t2 t3:T}{ts l:List T}{h:Hd}{d:D}{B:Bool}{out:HW}
theorem DJ{α β:Type}{x:Option (α×Store)}{a:α}{f:α→Store→Option β}{r:Option β}(h:x=some (a,σ))(k:f a σ=r):EI x f=r:=by rw [h];exact k
theorem DB{α β:Type}{x:Option α}{a:α}{f:α→Option β}{r:Option β}(h:x=some a)(k:f a=r):DN x f=r:=by rw [h];exact k
theorem Ec{α:Type}{x:Option α}{a:α}(h:x=some a):lift x σ=some (a,σ):=by rw [h];rfl
theorem D7{α:Type}{b:Bool}{x r:Option α}(h:b=true)(k:x=r):F9 b x=r:=by rw [h];exact k
theorem Fh(h:DE loc n=some v):(nd G (.mk 0 n l)).ev loc σ=some (v,σ):=Ec h
theorem e_gv(h:iM n=some d):(nd G (.mk 1 n l)).ev loc σ=some (.d d,σ):=Ec (DB h rfl)
theorem zQ:(nd G (.mk 2 n l)).ev loc σ=some (.d .none,σ):=rfl
theorem yC:(nd G (.mk 3 1 l)).ev loc σ=some (.d (.bool true),σ):=rfl
theorem Fu:(nd G (.mk 4 n l)).ev loc σ=some (.d (.int n),σ):=rfl
theorem e_sym:(nd G (.mk 5 n l)).ev loc σ=some (.d (.sym n),σ):=rfl
theorem e_neg:(nd G (.mk 6 n l)).ev loc σ=some (.d (.int (-(n:Int))),σ):=rfl
theorem e_pow:(nd G (.mk 7 n l)).ev loc σ=some (.d (.int ((10:Int)^n)),σ):=rfl
theorem zP(h1:(nd G a).ev loc σ=some (o,DD))(h2:Hh DD o n=some v):(nd G (.mk 8 n [a])).ev loc σ=some (v,DD):=show XY n (nd G a).ev loc σ=_ from DJ h1 (Ec h2)
theorem e_sub(h1:(nd G t1).ev loc σ=some (o,DD))(h2:(nd G t2).ev loc DD=some (u,DK))(h3:E9 DK o u=some v):(nd G (.mk 9 n [t1,t2])).ev loc σ=some (v,DK):=show hU (nd G t1).ev (nd G t2).ev loc σ=_ from DJ h1 (DJ h2 (Ec h3))
theorem zL(h1:(nd G a).ev loc σ=some (o,DD))(h2:jJ o n=some v):(nd G (.mk 10 n [a])).ev loc σ=some (v,DD):=show Wp n (nd G a).ev loc σ=_ from DJ h1 (Ec h2)
theorem bU(h1:(nd G t1).ev loc σ=some (va,DD))(h2:(nd G t2).ev loc DD=some (vb,DK))(h3:M0 n va vb=some v):(nd G (.mk 11 n [t1,t2])).ev loc σ=some (v,DK):=show gJ n (nd G t1).ev (nd G t2).ev loc σ=_ from DJ h1 (DJ h2 (Ec h3))
theorem aT(h1:(nd G a).ev loc σ=some (.d (.bool B),DD)):(nd G (.mk 12 n [a])).ev loc σ=some (.d (.bool (!B)),DD):=show Zs (nd G a).ev loc σ=_ from DJ h1 rfl
theorem vN(h1:(nd G t1).ev loc σ=some (va,DD))(h2:(nd G t2).ev loc DD=some (vb,DK))(h3:FJ DK n va vb=some B):(nd G (.mk 13 n [t1,t2])).ev loc σ=some (.d (.bool B),DK):=show Xw n (nd G t1).ev (nd G t2).ev loc σ=_ from DJ h1 (DJ h2 (Ec (DB h3 rfl)))
theorem Vp(h1:(nd G t1).ev loc σ=some (va,DD))(h2:(nd G t2).ev loc DD=some (vb,DK))(h3:FJ DK (n / 16) va vb=some false):(nd G (.mk 14 n [t1,t2,t3])).ev loc σ=some (.d (.bool false),DK):=show OG (n / 16) (n % 16) (nd G t1).ev (nd G t2).ev (nd G t3).ev loc σ=_ from DJ h1 (DJ h2 (DB h3 rfl))
theorem K3(h1:(nd G t1).ev loc σ=some (va,DD))(h2:(nd G t2).ev loc DD=some (vb,DK))(h3:FJ DK (n / 16) va vb=some true)(h4:(nd G t3).ev loc DK=some (vc,Dy))(h5:FJ Dy (n % 16) vb vc=some B):(nd G (.mk 14 n [t1,t2,t3])).ev loc σ=some (.d (.bool B),Dy):=show OG (n / 16) (n % 16) (nd G t1).ev (nd G t2).ev (nd G t3).ev loc σ=_ from DJ h1 (DJ h2 (DB h3 (DJ h4 (Ec (DB h5 rfl)))))
abbrev dh(G:HL)(q:Bool)(l:List T)(loc:Di)(σ:Store):Option (V×Store):=K1 q ((GT G l).map Nd.ev) loc σ
theorem vS(h:dh G true l loc σ=some (v,DD)):(nd G (.mk 15 n l)).ev loc σ=some (v,DD):=h
theorem e_or(h:dh G false l loc σ=some (v,DD)):(nd G (.mk 16 n l)).ev loc σ=some (v,DD):=h
theorem xO{q:Bool}:dh G q [] loc σ=some (.d (.bool q),σ):=rfl
theorem WF{q:Bool}(h1:(nd G a).ev loc σ=some (.d (.bool B),DD))(h2:cond (q==B) (dh G q l loc DD) (some (.d (.bool B),DD))=some (v,DK)):dh G q (a::l) loc σ=some (v,DK):=DJ h1 h2
theorem e_ife(h1:(nd G t1).ev loc σ=some (v,DD))(h2:G1 DD v=some B)(h3:cond B ((nd G t2).ev loc DD) ((nd G t3).ev loc DD)=some (w,DK)):(nd G (.mk 17 n [t1,t2,t3])).ev loc σ=some (w,DK):=show eV (nd G t1).ev (nd G t2).ev (nd G t3).ev loc σ=_ from DJ h1 (DB h2 h3)
abbrev RO(G:HL)(l:List T)(loc:Di)(σ:Store):Option (List V×Store):=Ow ((GT G l).map Nd.ev) loc σ
theorem N4:RO G [] loc σ=some ([],σ):=rfl
theorem Gi(h1:(nd G a).ev loc σ=some (v,DD))(h2:RO G l loc DD=some (vs,DK)):RO G (a::l) loc σ=some (v::vs,DK):=DJ h1 (DJ h2 rfl)
theorem rj(h1:RO G l loc σ=some (vs,DD))(h2:Df false .tup vs DD=some (r,DK)):(nd G (.mk 18 n l)).ev loc σ=some (r,DK):=show Za false .tup ((GT G l).map Nd.ev) loc σ=_ from DJ h1 h2
theorem u4(h1:RO G l loc σ=some (vs,DD))(h2:Df false .lst vs DD=some (r,DK)):(nd G (.mk 19 n l)).ev loc σ=some (r,DK):=show Za false .lst ((GT G l).map Nd.ev) loc σ=_ from DJ h1 h2
theorem wq(h1:RO G l loc σ=some (vs,DD))(h2:Df true .lst vs DD=some (r,DK)):(nd G (.mk 20 n l)).ev loc σ=some (r,DK):=show Za true .lst ((GT G l).map Nd.ev) loc σ=_ from DJ h1 h2
theorem wz(h1:RO G l loc σ=some (vs,DD))(h2:Df true .tup vs DD=some (r,DK)):(nd G (.mk 35 n l)).ev loc σ=some (r,DK):=show Za true .tup ((GT G l).map Nd.ev) loc σ=_ from DJ h1 h2
theorem e_dct{ps:List (V×V)}{kl:List DO}(h1:RO G l loc σ=some (vs,DD))(h2:alt vs=some ps)(h3:FB n ps ([], [])=some (kl,ws))(h4:Df false (.Dg n kl) ws DD=some (r,DK)):(nd G (.mk 21 n l)).ev loc σ=some (r,DK):=show Y5 false n ((GT G l).map Nd.ev) loc σ=_ from DJ h1 (DB h2 (DB h3 h4))
theorem dR{ps:List (V×V)}{kl:List DO}(h1:RO G l loc σ=some (vs,DD))(h2:alt vs=some ps)(h3:FB n ps ([], [])=some (kl,ws))(h4:Df true (.Dg n kl) ws DD=some (r,DK)):(nd G (.mk 22 n l)).ev loc σ=some (r,DK):=show Y5 true n ((GT G l).map Nd.ev) loc σ=_ from DJ h1 (DB h2 (DB h3 h4))
theorem mx(h1:RO G l loc σ=some (vs,DD))(h2:Zu n=some i)(h3:G.call false i vs DD=some (r,DK)):(nd G (.mk 23 n l)).ev loc σ=some (r,DK):=show Lr G false n ((GT G l).map Nd.ev) loc σ=_ from DJ h1 (DB h2 h3)
theorem Pu(h1:RO G l loc σ=some (vs,DD))(h2:Zu n=some i)(h3:G.call true i vs DD=some (r,DK)):(nd G (.mk 24 n l)).ev loc σ=some (r,DK):=show Lr G true n ((GT G l).map Nd.ev) loc σ=_ from DJ h1 (DB h2 h3)
theorem rD(h1:RO G l loc σ=some (vs,DD))(h2:G.init n vs DD=some (ws,DK))(h3:Df false (.inst n) ws DK=some (r,Dy)):(nd G (.mk 25 n l)).ev loc σ=some (r,Dy):=show MB G false n ((GT G l).map Nd.ev) loc σ=_ from DJ h1 (DJ h2 h3)
theorem cX(h1:RO G l loc σ=some (vs,DD))(h2:G.init n vs DD=some (ws,DK))(h3:Df true (.inst n) ws DK=some (r,Dy)):(nd G (.mk 26 n l)).ev loc σ=some (r,Dy):=show MB G true n ((GT G l).map Nd.ev) loc σ=_ from DJ h1 (DJ h2 h3)
theorem xi(h1:(nd G a).ev loc σ=some (v,DD))(h2:Fj DD n v=some w):(nd G (.mk 27 n [a])).ev loc σ=some (w,DD):=show Py n (nd G a).ev loc σ=_ from DJ h1 (Ec h2)
theorem e_mkd{kl:List DO}(h1:(nd G a).ev loc σ=some (v,DD))(h2:Ku DD n v=some (k,kl,vs))(h3:Df false (.Dg k kl) vs DD=some (r,DK)):(nd G (.mk 28 n [a])).ev loc σ=some (r,DK):=show Lj false n (nd G a).ev loc σ=_ from DJ h1 (DB h2 h3)
theorem zr{kl:List DO}(h1:(nd G a).ev loc σ=some (v,DD))(h2:Ku DD n v=some (k,kl,vs))(h3:Df true (.Dg k kl) vs DD=some (r,DK)):(nd G (.mk 29 n [a])).ev loc σ=some (r,DK):=show Lj true n (nd G a).ev loc σ=_ from DJ h1 (DB h2 h3)
theorem e_isa(h1:(nd G a).ev loc σ=some (v,DD))(h2:La DD v=some k):(nd G (.mk 30 n [a])).ev loc σ=some (.d (.bool (ME k n)),DD):=show ig n (nd G a).ev loc σ=_ from DJ h1 (Ec (DB h2 rfl))
def eB(G:HL)(n:Nat)(o:V)(l:List T)(loc:Di)(σ:Store):Option (Nat×List V)→Option (V×Store)
 |some r=>F9 (Du (DX r.1) (DX r.1) n).isNone (DN (LG r.1 n) λi=>EI (RO G l loc σ) λvs σ=>G.call false i (o::vs) σ)
 |none=>F9 (Jt σ n o) (EI (RO G l loc σ) λvs σ=>GK n o vs σ)
theorem e_mth{z:Option (Nat×List V)}(h1:(nd G a).ev loc σ=some (o,DD))(h2:Ew DD o=z)(h3:eB G n o l loc DD z=some (r,DK)):(nd G (.mk 31 n (a::l))).ev loc σ=some (r,DK):=show Wy G n (nd G a).ev ((GT G l).map Nd.ev) loc σ=_ from DJ h1 (by rw [h2];cases z<;>exact h3)
theorem xd{fl:List V}(h3:(Du (DX c) (DX c) n).isNone=true)(h4:LG c n=some i)(h5:RO G l loc DD=some (vs,DK))(h6:G.call false i (o::vs) DK=some (r,Dy)):eB G n o l loc DD (some (c,fl))=some (r,Dy):=D7 h3 (DB h4 (DJ h5 h6))
theorem zi(h3:Jt DD n o=true)(h5:RO G l loc DD=some (vs,DK))(h6:GK n o vs DK=some (r,Dy)):eB G n o l loc DD none=some (r,Dy):=D7 h3 (DJ h5 h6)
theorem sY{ks:List DO}:Ew σ (.d (.nd (.Dg k ks) ds))=none:=rfl
theorem tn:Ew σ (.d (.nd (.inst k) ds))=some (k,ds.map .d):=rfl
theorem zV{dl:List D}(h1:RM i ((GT G ts).map Nd.ev) loc σ=some (dl,DD))(h2:EB (Fz x y (nd G a).ev ((GT G l).map Nd.ev) loc) dl DD=some (vs,DK))(h3:Df false .lst vs DK=some (r,Dy)):(nd G (.mk 32 n (.mk i q ts:: .mk x y []::a::l))).ev loc σ=some (r,Dy):=show Nc false (RM i ((GT G ts).map Nd.ev)) x y (nd G a).ev ((GT G l).map Nd.ev) loc σ=_ from DJ h1 (DJ h2 h3)
theorem WC{dl:List D}(h1:RM i ((GT G ts).map Nd.ev) loc σ=some (dl,DD))(h2:EB (Fz x y (nd G a).ev ((GT G l).map Nd.ev) loc) dl DD=some (vs,DK))(h3:Df true .lst vs DK=some (r,Dy)):(nd G (.mk 33 n (.mk i q ts:: .mk x y []::a::l))).ev loc σ=some (r,Dy):=show Nc true (RM i ((GT G ts).map Nd.ev)) x y (nd G a).ev ((GT G l).map Nd.ev) loc σ=_ from DJ h1 (DJ h2 h3)
theorem Pp{dl:List D}(h1:(nd G a).ev loc σ=some (v,DD))(h2:FV v DD=some (dl,DK)):RM 0 ((GT G [a]).map Nd.ev) loc σ=some (dl,DK):=DJ (DJ h1 rfl) h2
theorem uG{z:Int}{dl:List D}(h1:(nd G a).ev loc σ=some (.d (.int z),DD))(h2:FU 0 z=some dl):RM 1 ((GT G [a]).map Nd.ev) loc σ=some (dl,DD):=DJ (DJ h1 rfl) (Ec h2)
theorem Wg{z z':Int}{dl:List D}(h1:(nd G t1).ev loc σ=some (.d (.int z),DD))(h2:(nd G t2).ev loc DD=some (.d (.int z'),DK))(h3:FU z z'=some dl):RM 2 ((GT G [t1,t2]).map Nd.ev) loc σ=some (dl,DK):=DJ (DJ h1 (DJ (DJ h2 rfl) rfl)) (Ec h3)
theorem yd(h1:(nd G a).ev loc σ=some (.d (.nd .lst ds),DD)):RM 3 ((GT G [a]).map Nd.ev) loc σ=some (ds.reverse,DD):=DJ (DJ h1 rfl) rfl
abbrev uM(G:HL)(l:List T)(loc:Di)(σ:Store):Option (Bool×Store):=dP ((GT G l).map Nd.ev) loc σ
theorem FE:uM G [] loc σ=some (true,σ):=rfl
theorem JY{B':Bool}(h1:(nd G a).ev loc σ=some (.d (.bool B),DD))(h2:cond B (uM G l loc DD) (some (false,DD))=some (B',DK)):uM G (a::l) loc σ=some (B',DK):=DJ h1 h2
theorem EL(h1:MR x y d loc=some DG)(h2:uM G l DG σ=some (true,DD))(h3:(nd G a).ev DG DD=some (v,DK)):Fz x y (nd G a).ev ((GT G l).map Nd.ev) loc d σ=some (some v,DK):=DB h1 (DJ h2 (DJ h3 rfl))
theorem Mj(h1:MR x y d loc=some DG)(h2:uM G l DG σ=some (false,DD)):Fz x y (nd G a).ev ((GT G l).map Nd.ev) loc d σ=some (none,DD):=DB h1 (DJ h2 rfl)
theorem KS{α:Type}{f:D→Store→Option (Option α×Store)}:EB f [] σ=some ([],σ):=rfl
theorem FH{α:Type}{f:D→Store→Option (Option α×Store)}{p:Option α}{vs:List α}{dl:List D}(h1:f d σ=some (p,DD))(h2:EB f dl DD=some (vs,DK)):EB f (d::dl) σ=some (p.toList++vs,DK):=DJ h1 (DJ h2 rfl)
theorem KN{α:Type}{f:D→Store→Option (Option α×Store)}{g:D→Option α}: ∀{dl:List D},(∀d∈dl,f d σ=some (g d,σ))→EB f dl σ=some (dl.filterMap g,σ):=λ{dl}=>by
 induction dl with
 |nil=>intro _;rfl
 |cons d dl ih=>
  intro h;refine (FH (h d (.head _)) (ih λd' hd=>h d' (.tail _ hd))).trans ?_;rw [As];cases g d<;>rfl
abbrev KY(G:HL)(l:List T)(loc:Di)(σ:Store):Option HW:=YB ((GT G l).map Nd.ex) loc σ
theorem MS:KY G [] loc σ=some (.go 0 loc σ):=rfl
theorem x_go(h1:(nd G a).ex loc σ=some (.go 0 DG DD))(h2:KY G l DG DD=some out):KY G (a::l) loc σ=some out:=by
 show UO ((nd G a).ex loc σ) _=_;rw [h1];exact h2
theorem uZ(h1:(nd G a).ex loc σ=some (.ret v DD)):KY G (a::l) loc σ=some (.ret v DD):=by
 show UO ((nd G a).ex loc σ) _=_;rw [h1];rfl
def after(G:HL)(l:List T):HW→Option HW
 | .go 0 loc σ=>KY G l loc σ
 |o=>some o
theorem x_seq{o:HW}(h1:(nd G a).ex loc σ=some o)(h2:after G l o=some out):KY G (a::l) loc σ=some out:=by
 show UO ((nd G a).ex loc σ) _=_;rw [h1];cases o with
 |ret=>exact h2
 |go n=>cases n<;>exact h2
theorem af_go(h:KY G l loc σ=some out):after G l (.go 0 loc σ)=some out:=h
theorem zx:after G l (.ret v σ)=some (.ret v σ):=rfl
theorem yH:after G l (.go (n+1) loc σ)=some (.go (n+1) loc σ):=rfl
theorem tH(h1:(nd G a).ev loc σ=some (v,DD)):(nd G (.mk 50 n [a])).ex loc σ=some (.go 0 (DR loc n v) DD):=show ij n (nd G a).ev loc σ=_ from DJ h1 rfl
theorem xM(h1:(nd G t1).ev loc σ=some (v,DD))(h2:(nd G t2).ev loc DD=some (o,DK))(h3:Kn DK o n v=some Dy):(nd G (.mk 51 n [t1,t2])).ex loc σ=some (.go 0 loc Dy):=show Zp n (nd G t1).ev (nd G t2).ev loc σ=_ from DJ h1 (DJ h2 (DB h3 rfl))
theorem zo(h1:(nd G t1).ev loc σ=some (v,DD))(h2:(nd G t2).ev loc DD=some (o,DK))(h3:(nd G t3).ev loc DK=some (u,Dy))(h4:GO Dy o u v=some DT):(nd G (.mk 52 n [t1,t2,t3])).ex loc σ=some (.go 0 loc DT):=show aU (nd G t1).ev (nd G t2).ev (nd G t3).ev loc σ=_ from DJ h1 (DJ h2 (DJ h3 (DB h4 rfl)))
theorem bZ(h1:(nd G a).ev loc σ=some (.d (.nd .tup ds),DD))(h2:Iw ((GT G l).map Nd.n) (ds.map .d) loc=some DG):(nd G (.mk 53 n (a::l))).ex loc σ=some (.go 0 DG DD):=show bH (nd G a).ev ((GT G l).map Nd.n) loc σ=_ from DJ h1 (DB rfl (DB rfl (DB h2 rfl)))
theorem oU(h1:RO G ts loc σ=some (vs,DD))(h2:Iw ((GT G l).map Nd.n) vs loc=some DG):(nd G (.mk 54 n (.mk 18 q ts::l))).ex loc σ=some (.go 0 DG DD):=show ak ((GT G ts).map Nd.ev) ((GT G l).map Nd.n) loc σ=_ from DJ h1 (DB h2 rfl)
theorem x_ex(h1:(nd G a).ev loc σ=some (.d .none,DD)):(nd G (.mk 55 n [a])).ex loc σ=some (.go 0 loc DD):=show zn (nd G a).ev loc σ=_ from DJ h1 rfl
theorem x_ext(h1:(nd G t1).ev loc σ=some (o,DD))(h2:Jt DD 57 o=true)(h3:(nd G t2).ev loc DD=some (.d (.nd .lst ds),DK))(h4:G9 DK o ds.reverse=some Dy):(nd G (.mk 56 n [t1,t2])).ex loc σ=some (.go 0 loc Dy):=show au (nd G t1).ev (nd G t2).ev loc σ=_ from DJ h1 (D7 h2 (DJ h3 (DB rfl (DB rfl (DB h4 rfl)))))
theorem x_rt(h1:(nd G a).ev loc σ=some (v,DD)):(nd G (.mk 57 n [a])).ex loc σ=some (.ret v DD):=show oE (nd G a).ev loc σ=_ from DJ h1 rfl
theorem x_if(h1:(nd G t1).ev loc σ=some (v,DD))(h2:G1 DD v=some B)(h3:cond B ((nd G t2).ex loc DD) ((nd G t3).ex loc DD)=some out):(nd G (.mk 58 n [t1,t2,t3])).ex loc σ=some out:=show zH (nd G t1).ev (nd G t2).ex (nd G t3).ex loc σ=_ from DJ h1 (DB h2 h3)
theorem Md{dl:List D}(h1:RM i ((GT G ts).map Nd.ev) loc σ=some (dl,DD))(h2:El (nd G a).ex n dl loc DD=some out):(nd G (.mk 59 n [.mk i q ts,a])).ex loc σ=some out:=show pJ n (RM i ((GT G ts).map Nd.ev)) (nd G a).ex loc σ=_ from DJ h1 h2
theorem x_whl(h:EC (M9 (nd G t1).ev) (nd G t2).ex SE loc σ=some out):(nd G (.mk 60 n [t1,t2])).ex loc σ=some out:=show lH (nd G t1).ev (nd G t2).ex loc σ=_ from h
theorem yU:(nd G (.mk 61 n l)).ex loc σ=some (.go 2 loc σ):=rfl
theorem z9(h:(nd G a).ex loc σ=some out):(nd G (.mk 63 n [a])).ex loc σ=some out:=h
theorem TD(h:KY G l loc σ=some out):(nd G (.mk 70 n l)).ex loc σ=some out:=h
theorem Y1{n:Nat}{fn:Fn}{keep:Bool}(h1:fns[i]?=some fn)(h2:bindArgs fn.ps vs fn.df=some loc)(h3:KY (DZ n) fn.body loc σ=some (.ret v DD))(h4:D5 keep σ.length DD v=some (r,DK)):(DZ (n+1)).call keep i vs σ=some (r,DK):=
 DB h1 (DJ (DB (x:=bindArgs fn.ps vs fn.df) h2 (DB h3 rfl)) h4)
theorem jo{n:Nat}{fn:Fn}{keep:Bool}(h1:fns[i]?=some fn)(h2:bindArgs fn.ps vs fn.df=some loc)(h3:KY (DZ n) fn.body loc σ=some (.go 0 DG DD))(h4:D5 keep σ.length DD (.d .none)=some (r,DK)):(DZ (n+1)).call keep i vs σ=some (r,DK):=
 DB h1 (DJ (DB (x:=bindArgs fn.ps vs fn.df) h2 (DB h3 rfl)) h4)
theorem HK(r:Store):(σ++r).take σ.length=σ:=by rw [Ah (Ι _),AS]
theorem Pd{keep:Bool}(r:Store):D5 keep σ.length (σ++r) (.d d)=some (.d d,σ):=by show some (V.d d,(σ++r).take σ.length)=_;rw [HK]
theorem Uy{keep:Bool}:D5 keep σ.length σ (.d d)=some (.d d,σ):=by show some (V.d d,σ.take σ.length)=_;rw [AS]
theorem ec{n:Nat}{fn:Fn}{keep:Bool}(h1:fns[i]?=some fn)(h2:bindArgs fn.ps vs fn.df=some loc)(h3:KY (DZ n) fn.body loc σ=some (.ret (.d d) σ)):(DZ (n+1)).call keep i vs σ=some (.d d,σ):=Y1 h1 h2 h3 Uy
theorem uE{n:Nat}{fn:Fn}{keep:Bool}(s:Store)(h1:fns[i]?=some fn)(h2:bindArgs fn.ps vs fn.df=some loc)(h3:KY (DZ n) fn.body loc (σ++ [])=some (.ret (.d d) (σ++s))):(DZ (n+1)).call keep i vs σ=some (.d d,σ):=by
 rw [υ] at h3;exact Y1 h1 h2 h3 (Pd s)
end
end
mutual open A
theorem t_eq{α:Type}{a b:α}(h:False):a=b:=h.elim
theorem t_lt{a b:Nat}(h:False):a<b:=h.elim
theorem t_le{a b:Nat}(h:False):a≤b:=h.elim
theorem t_new{n v b}(h:False):FP n v=b:=h.elim
theorem t_ev{G t loc σ r}(h:False):(nd G t).ev loc σ=r:=h.elim
theorem t_ex{G t loc σ r}(h:False):(nd G t).ex loc σ=r:=h.elim
theorem t_for{a b c d e r}(h:False):El a b c d e=r:=h.elim
theorem t_whl{a b c d e r}(h:False):EC a b c d e=r:=h.elim
theorem t_cg{α:Type}{a b c}{r:Option (List α×Store)}(h:False):EB a b c=r:=h.elim
theorem t_cf{a b c d e f g r}(h:False):Fz a b c d e f g=r:=h.elim
theorem zk{a b c d e r}(h:False):HL.call a b c d e=r:=h.elim
theorem xl{a b c d r}(h:False):HL.init a b c d=r:=h.elim
theorem xW{a:Di}{b r}(h:False):DE a b=r:=h.elim
theorem t_end{a b c d r}(h:False):D5 a b c d=r:=h.elim
theorem xg{a b r}(h:False):Ew a b=r:=h.elim
end
open Lean in def TQ (k:String) (a:List Syntax):Syntax:= .node .none (.mkStr `Lean.Parser.Tactic k) ⟨.atom .none k::a⟩
open Lean in def wkA (c:Char) (x:Syntax):Syntax:=
 let n:=λa=>Syntax.node .none `null ⟨a⟩
 let a:=TQ "apply" [x]
 if c='R' then n [TQ "withReducible" [a],TQ "tacticRfl" []] else
 if c='G' then a else
 if c='C' then cond (x.isOfKind `Lean.Parser.Term.explicit) (TQ "withReducible" [n [TQ "apply" [x[1]],TQ "assumption" []]]) (TQ "withReducible" [a]) else
 TQ "withReducible" [if c='A' then a else if c='E' then TQ "exact" [x] else n [if c='B' then a else TQ "failIfSuccess" [TQ "failIfSuccess" [a]],TQ "assumption" []]]
open Lean in def wkR (s:String) (cs:List Syntax):Syntax:=
 let c:=s.front
 let l:=cond (c=='C') cs (((s.splitOn " ").drop 1).map λx=>mkIdent (.mkSimple x))
 let r:=TQ "first" [.node .none `null ⟨l.map λx=> .node .none `null #[.missing,wkA c x]⟩]
 cond (c=='G') (.node .none `null #[TQ "failIfSuccess" [r],TQ "tacticRfl" []]) r
open Lean in def wkT (a b:Syntax):Syntax:=
 let n:=λa=>Syntax.node .none `null ⟨a⟩
 TQ "first" [n [n [.missing,n [a,b]],n [.missing,TQ "skip" []]]]
open Lean in def zG (a:List Syntax):Syntax:= .node .none `PySem.W.tacticCell_ask_ #[.missing, .node .none `Lean.Parser.Term.tuple #[.node .none `null ⟨a⟩]]
local macro_rules (kind:=PySem.W.tacticCell_ask_)
 |x=>λ_ s=>
  let a:=x[1][0].getArgs.toList
  let n:=a.head!.toNat+1
  cond (Ε n 21&&x[1].isOfKind `Lean.Parser.Term.tuple) (.ok (zG (Lean.Syntax.mkNumLit (toString n)::a.tail)) s) (.error .unsupportedSyntax s)
local macro_rules (kind:=PySem.W.tacticCell_ask_)
 |x=>λ_ s=>
  let a:=x[1][0].getArgs.toList
  .ok (cond (x[1].isOfKind `Lean.Parser.Term.tuple) (wkR (("E N4 MS xO FE Fu e_sym zQ yC e_false|E e_neg e_pow zx yH yU x_brk Si Da uh|E Z' wT wB mk0 mk1 mk2 mk3 mk4 mk5|E mkk0 yO mkk2 mkk3 HB Xh sY inst_lst tn|E Jp nV|A Fh Gi x_if TD x_seq af_go zP vN e_isa|A e_sub mx e_mth xd zi vS e_or WF JY|A aT bU rj u4 wq wz e_dct dR rD|A cX e_ife xi e_gv e_mkd zr zL x_rt tH|A x_as2 x_as3 x_pr2 zo xM x_ex z9 Pp uG|A Wg yd Md x_ext zV WC x_whl|R wD wL|B wD wL|R qJ DH|A D9|T t_new|B nK l_upn|R JA nz|A M8|C|T t_eq t_lt t_le t_tb|G t_ev t_ex t_for t_whl t_cg t_cf zk xl xW t_end t_tlk xg".splitOn "|").getD a.head!.toNat "") a.tail) (wkT (zG (Lean.Syntax.mkNumLit "0" ::x[1][1].getSepArgs.toList)) x)) s
local macro_rules (kind:=PyProof.Rows.tacticFin2)|x=>pure (wkT (zG [Lean.Syntax.mkNumLit "0"]) x)
section
section
mutual open A
variable{σ DD DK:Store}{i:Nat}{vs:List V}{loc DG:Di}{ps:List Nat}{df a:Nat}{ts:List T}{d:D}{v r:V}
theorem n4{motive: ∀z:Nat,z<1→Prop}(h0:motive 0 (of_decide_eq_true rfl)): ∀z h,motive z h:=ZD h0 ltz
theorem gZ{motive: ∀z:Nat,z<2→Prop}(h0:motive 0 (of_decide_eq_true rfl))(h1:motive 1 (of_decide_eq_true rfl)): ∀z h,motive z h:=ZD h0 (n4 (motive:=λz e=>motive (z+1) (Ak e)) h1)
theorem YI{motive: ∀z:Nat,z<3→Prop}(h0:motive 0 (of_decide_eq_true rfl))(h1:motive 1 (of_decide_eq_true rfl))(h2:motive 2 (of_decide_eq_true rfl)): ∀z h,motive z h:=ZD h0 (gZ (motive:=λz e=>motive (z+1) (Ak e)) h1 h2)
theorem sW{motive: ∀z:Nat,z<4→Prop}(h0:motive 0 (of_decide_eq_true rfl))(h1:motive 1 (of_decide_eq_true rfl))(h2:motive 2 (of_decide_eq_true rfl))(h3:motive 3 (of_decide_eq_true rfl)): ∀z h,motive z h:=ZD h0 (YI (motive:=λz e=>motive (z+1) (Ak e)) h1 h2 h3)
theorem zR{motive: ∀z:Nat,z<5→Prop}(h0:motive 0 (of_decide_eq_true rfl))(h1:motive 1 (of_decide_eq_true rfl))(h2:motive 2 (of_decide_eq_true rfl))(h3:motive 3 (of_decide_eq_true rfl))(h4:motive 4 (of_decide_eq_true rfl)): ∀z h,motive z h:=ZD h0 (sW (motive:=λz e=>motive (z+1) (Ak e)) h1 h2 h3 h4)
theorem w8{motive: ∀z:Nat,z<6→Prop}(h0:motive 0 (of_decide_eq_true rfl))(h1:motive 1 (of_decide_eq_true rfl))(h2:motive 2 (of_decide_eq_true rfl))(h3:motive 3 (of_decide_eq_true rfl))(h4:motive 4 (of_decide_eq_true rfl))(h5:motive 5 (of_decide_eq_true rfl)): ∀z h,motive z h:=ZD h0 (zR (motive:=λz e=>motive (z+1) (Ak e)) h1 h2 h3 h4 h5)
theorem uf{motive: ∀z:Nat,z<7→Prop}(h0:motive 0 (of_decide_eq_true rfl))(h1:motive 1 (of_decide_eq_true rfl))(h2:motive 2 (of_decide_eq_true rfl))(h3:motive 3 (of_decide_eq_true rfl))(h4:motive 4 (of_decide_eq_true rfl))(h5:motive 5 (of_decide_eq_true rfl))(h6:motive 6 (of_decide_eq_true rfl)): ∀z h,motive z h:=ZD h0 (w8 (motive:=λz e=>motive (z+1) (Ak e)) h1 h2 h3 h4 h5 h6)
theorem yG{motive: ∀z:Nat,z<8→Prop}(h0:motive 0 (of_decide_eq_true rfl))(h1:motive 1 (of_decide_eq_true rfl))(h2:motive 2 (of_decide_eq_true rfl))(h3:motive 3 (of_decide_eq_true rfl))(h4:motive 4 (of_decide_eq_true rfl))(h5:motive 5 (of_decide_eq_true rfl))(h6:motive 6 (of_decide_eq_true rfl))(h7:motive 7 (of_decide_eq_true rfl)): ∀z h,motive z h:=ZD h0 (uf (motive:=λz e=>motive (z+1) (Ak e)) h1 h2 h3 h4 h5 h6 h7)
theorem lK{motive: ∀z:Nat,z<9→Prop}(h0:motive 0 (of_decide_eq_true rfl))(h1:motive 1 (of_decide_eq_true rfl))(h2:motive 2 (of_decide_eq_true rfl))(h3:motive 3 (of_decide_eq_true rfl))(h4:motive 4 (of_decide_eq_true rfl))(h5:motive 5 (of_decide_eq_true rfl))(h6:motive 6 (of_decide_eq_true rfl))(h7:motive 7 (of_decide_eq_true rfl))(h8:motive 8 (of_decide_eq_true rfl)): ∀z h,motive z h:=ZD h0 (yG (motive:=λz e=>motive (z+1) (Ak e)) h1 h2 h3 h4 h5 h6 h7 h8)
theorem qM{a x y:Int}(h:a∈ [x,y]):a=x∨a=y:=(ν.mp h).imp id ς.mp
theorem z6{a x y z w:Int}(h:a∈ [x,y,z,w]):a=x∨a=y∨a=z∨a=w:=(ν.mp h).imp id λh=>(ν.mp h).imp id qM
theorem VZ{α:Type}{P:α→Prop}: ∀a∈([]:List α),P a:=λO h=>absurd h Γ
theorem Fx{α:Type}{P:α→Prop}{x:α}{l:List α}(h:P x)(t: ∀a∈l,P a): ∀a∈x::l,P a:=λa ha=>(ν.mp ha).elim (λe=>e▸h) (t a)
theorem wD{α:Type}{b:Bool}{x y r:α}(hb:b=true)(h:x=r):cond b x y=r:=by exact C9 hb h
theorem wL{α:Type}{b:Bool}{x y r:α}(hb:b=false)(h:y=r):cond b x y=r:=by exact C9 hb h
theorem Si{x:Nat}:DE ((x,v)::loc) x=some v:=by show cond (μ x x) (some v) _=_;exact C9 (AH _) rfl
theorem qJ{x y:Nat}{w:V}(e:μ y x=false)(h:DE loc x=some v):DE ((y,w)::loc) x=some v:=by show cond (μ y x) (some w) (DE loc x)=_;exact C9 e h
theorem Da{x:Nat}:DE (DR loc x v) x=some v:=by
 induction loc with
 |nil=>exact Si
 |cons p r ih=>
  show DE (cond (μ p.1 x) ((p.1,v)::r) (p::DR r x v)) x=_;cases q:μ p.1 x with
  |true=>show cond (μ p.1 x) (some v) _=_;exact C9 q rfl
  |false=>show cond (μ p.1 x) (some p.2) (DE (DR r x v) x)=_;exact C9 q ih
theorem DH{x y:Nat}{w:V}(e:μ y x=false)(h:DE loc x=some v):DE (DR loc y w) x=some v:=by
 induction loc with
 |nil=>exact nomatch h
 |cons p r ih=>
  have h:cond (μ p.1 x) (some p.2) (DE r x)=some v:=h;show DE (cond (μ p.1 y) ((p.1,w)::r) (p::DR r y w)) x=_;cases q:μ p.1 y with
  |true=>
   have hp:p.1=y:=AO q;rw [hp,e] at h;show cond (μ p.1 x) (some w) (DE r x)=_;exact C9 hp<|C9 e h
  |false=>
   show cond (μ p.1 x) (some p.2) (DE (DR r y w) x)=_;cases z:μ p.1 x with
   |true=>rw [z] at h;exact h
   |false=>rw [z] at h;exact ih h
theorem x_as2{G:HL}{a:T}{x y q:Nat}{d e:D}(h:(nd G a).ev loc σ=some (.d (.nd .tup [d,e]),DD)):(nd G (.mk 53 q [a, .mk 0 x [], .mk 0 y []])).ex loc σ=some (.go 0 (DR (DR loc y (.d e)) x (.d d)) DD):=bZ h rfl
theorem x_as3{G:HL}{a:T}{x y z q:Nat}{d e f:D}(h:(nd G a).ev loc σ=some (.d (.nd .tup [d,e,f]),DD)):(nd G (.mk 53 q [a, .mk 0 x [], .mk 0 y [], .mk 0 z []])).ex loc σ=some (.go 0 (DR (DR (DR loc z (.d f)) y (.d e)) x (.d d)) DD):=bZ h rfl
theorem x_pr2{G:HL}{a b:T}{x y q q':Nat}{v w:V}(h:(nd G a).ev loc σ=some (v,DD))(h':(nd G b).ev loc DD=some (w,DK)):(nd G (.mk 54 q [.mk 18 q' [a,b], .mk 0 x [], .mk 0 y []])).ex loc σ=some (.go 0 (DR (DR loc y w) x v) DK):=oU (Gi h (Gi h' N4)) rfl
theorem O9{x n:Nat}(hv:FP n v=false): ∀{loc:Di} {dead:List Nat},has x dead=false→DE loc x=some v→DE (Dt n dead loc) x=some v:=λ{loc}=>by
 induction loc with
 |nil=>intro dead _ h;exact nomatch h
 |cons p r ih=>
  intro dead hd h;have h:cond (μ p.1 x) (some p.2) (DE r x)=some v:=h;show DE (cond (has p.1 dead||FP n p.2) (Dt n (p.1::dead) r) (p::Dt n dead r)) x=some v;cases q:μ p.1 x with
  |true=>
   rw [q] at h;have e:p.2=v:=η h;refine C9 (AO q)<|C9 hd<|C9 e<|C9 hv ?_
   show cond (μ p.1 x) (some p.2) _=_;exact C9 q<|C9 e rfl
  |false=>
   rw [q] at h;cases z:(has p.1 dead||FP n p.2) with
   |true=>
    refine ih ?_ h;show (μ p.1 x||has x dead)=false;exact C9 q<|C9 hd rfl
   |false=>show cond (μ p.1 x) (some p.2) _=_;exact C9 q<|ih hd h
theorem XC{x n:Nat}(hv:FP n v=false)(h:DE loc x=some v):DE (Dt n [] loc) x=some v:=O9 hv rfl h
theorem D9{x n:Nat}(h:DE loc x=some v)(hv:FP n v=false):DE (Dt n [] loc) x=some v:=O9 hv rfl h
theorem VR{body:Ex}{x c:Nat}{l:List D}{out:Option HW}(h:body (DR loc x (.d d)) σ=some (.go c DG DD))(hc:c=0∨c=2)(k:El body x l (Dt σ.length [] DG) (DD.take σ.length)=out):El body x (d::l) loc σ=out:=by
 show DN (body (DR loc x (.d d)) σ) _=_;refine C9 h ?_;rcases hc with rfl|rfl<;>exact k
theorem WP{body:Ex}{x c:Nat}{l:List D}{out:Option HW}(h:body (DR loc x (.d d)) σ=some (.go c DG σ))(hc:c=0∨c=2)(k:El body x l (Dt σ.length [] DG) σ=out):El body x (d::l) loc σ=out:=VR h hc (by exact C9 AS k)
theorem QF{body:Ex}{x:Nat}{l:List D}(h:body (DR loc x (.d d)) σ=some (.ret v DD)):El body x (d::l) loc σ=some (.ret v DD):=by
 show DN (body (DR loc x (.d d)) σ) _=_;exact C9 h rfl
theorem DW{n:Nat}{keep:Bool}(h1:fns[i]?=some ⟨a,ps,df,ts⟩)(h2:bindArgs ps vs df=some loc)(h3:KY (DZ n) ts loc σ=some (.ret (.d d) σ)):(DZ (n+1)).call keep i vs σ=some (.d d,σ):=ec h1 h2 h3
theorem aJ{n:Nat}{keep:Bool}{d':D}(h1:fns[i]?=some ⟨a,ps,df,ts⟩)(h2:bindArgs ps vs df=some loc)(h3:KY (DZ n) ts loc σ=some (.ret (.d d') σ))(e:d'=d):(DZ (n+1)).call keep i vs σ=some (.d d,σ):=e▸ec h1 h2 h3
theorem EW{n:Nat}{keep:Bool}{s:Store}{v':V}(h1:fns[i]?=some ⟨a,ps,df,ts⟩)(h2:bindArgs ps vs df=some loc)(h3:KY (DZ n) ts loc (σ++ [])=some (.ret v' s))(h4:D5 keep σ.length s v'=some (r,DK)):(DZ (n+1)).call keep i vs σ=some (r,DK):=by
 rw [υ] at h3;exact Y1 h1 h2 h3 h4
end
end
section
mutual open A
variable{h:Hd}{a b c d:D}{σ r:Store}{vs:List V}{c1 c2 c3:Dh}{l l':List D}
theorem mk0:Df false h [] σ=some (.d (.nd h []),σ):=rfl
theorem mk1:Df false h [.d a] σ=some (.d (.nd h [a]),σ):=rfl
theorem mk2:Df false h [.d a, .d b] σ=some (.d (.nd h [a,b]),σ):=rfl
theorem mk3:Df false h [.d a, .d b, .d c] σ=some (.d (.nd h [a,b,c]),σ):=rfl
theorem mk4:Df false h [.d a, .d b, .d c, .d d] σ=some (.d (.nd h [a,b,c,d]),σ):=rfl
theorem ZN(r:Store):Df true h vs (σ++r)=some (.cell (σ.length+r.length),σ++(r++ [.lv h vs])):=by
 show some (V.cell (σ++r).length,σ++r++ [.lv h vs])=_
 (exact C9 ε<|C9 (π _ _ _) rfl)
theorem mkk0:Df true h vs (σ++ [])=some (.cell (σ.length+0),σ++ [.lv h vs]):=ZN []
theorem yO:Df true h vs (σ++ [c1])=some (.cell (σ.length+1),σ++ [c1, .lv h vs]):=ZN [c1]
theorem mkk2:Df true h vs (σ++ [c1,c2])=some (.cell (σ.length+2),σ++ [c1,c2, .lv h vs]):=ZN [c1,c2]
theorem mkk3:Df true h vs (σ++ [c1,c2,c3])=some (.cell (σ.length+3),σ++ [c1,c2,c3, .lv h vs]):=ZN [c1,c2,c3]
theorem HB:FV (.d (.nd .lst l)) σ=some (l,σ):=rfl
theorem Xh:FV (.d (.nd .tup l)) σ=some (l,σ):=rfl
theorem QG(hl:l.length+l'.length≤big):M0 0 (.d (.nd .tup l)) (.d (.nd .tup l'))=some (.d (.nd .tup (l++l'))):=by
 show DN (F9 (true&&true&&Ε (l.length+l'.length) big) _) _=_;exact C9 (ο hl) rfl
theorem V8(hl:l.length+l'.length≤big):M0 0 (.d (.nd .lst l)) (.d (.nd .lst l'))=some (.d (.nd .lst (l++l'))):=by
 show DN (F9 (true&&true&&Ε (l.length+l'.length) big) _) _=_;exact C9 (ο hl) rfl
end
end
mutual open A
abbrev ref(n:Int):D:= .nd (.inst 4) [.int n, .int 0]
abbrev EM(s:Nat):D:= .nd (.inst 1) [.sym s]
abbrev GP(v:D):D:= .nd .tup [.int 0,v]
end
section
mutual open A
variable{n:Nat}{keep:Bool}{σ:Store}{v:V}
theorem OY(h:La σ v=some 2)(hv:isNone v=false):(DZ (n+1)).call keep 3 [v] σ=some (.d (.sym 75),σ):=by
 refine DW rfl rfl ?_
 fin2
theorem Ky(h:La σ v=some 4)(hv:isNone v=false):(DZ (n+1)).call keep 3 [v] σ=some (.d (.sym 42),σ):=by
 refine DW rfl rfl ?_
 fin2
theorem Kx(h:La σ v=some 5)(hv:isNone v=false):(DZ (n+1)).call keep 3 [v] σ=some (.d (.sym 56),σ):=by
 refine DW rfl rfl ?_
 fin2
theorem LL(h:La σ v=some 11)(hv:isNone v=false):(DZ (n+1)).call keep 3 [v] σ=some (.d (.sym 99),σ):=by
 refine DW rfl rfl ?_
 fin2
theorem Kq(h:La σ v=some 14)(hv:isNone v=false):(DZ (n+1)).call keep 3 [v] σ=some (.d (.sym 120),σ):=by
 refine DW rfl rfl ?_
 fin2
theorem HM{a b:Int}:(DZ (n+1)).call keep 2 [.d (.nd (.inst 4) [.int a, .int b])] σ=some (.d (.nd .tup [.int a, .int b]),σ):=by
 refine DW rfl rfl ?_
 fin2
theorem uh:(DZ (n+1)).init 1 [v] σ=some ([v],σ):=rfl
theorem Z'{a b:V}:(DZ (n+1)).init 4 [a,b] σ=some ([a,b],σ):=rfl
theorem wT{a b:V}:(DZ (n+1)).init 6 [a,b] σ=some ([a,b],σ):=rfl
theorem wB{a b x y z:V}:(DZ (n+1)).init 7 [a,b,x,y,z] σ=some ([a,b,x,y,z],σ):=rfl
end
end
end
section
mutual open A
variable{n k:Nat}{keep:Bool}{σ:Store}{v x:D}{i:Int}{s:Nat}{l xs vs:List D}{ss:List Nat}
theorem RL(h:V→Store→Option (D×Store))(hh: ∀d σ,h (.d d) σ=some (d,σ)):HS h (l.map .d) σ=some (l,σ):=by
 induction l with
 |nil=>rfl
 |cons d l ih=>exact DJ (hh d σ) (DJ ih rfl)
theorem nV{h:Hd}:Df false h (l.map .d) σ=some (.d (.nd h l),σ):=show EI (HS (Hz FZ) (l.map .d) σ) (λds σ=>some (V.d (.nd h ds),σ))=_ from DJ (RL (Hz FZ) λO O=>rfl) rfl
theorem Hk{α:Type}{f:D→Store→Option (Option V×Store)}{g:α→D}{l:List α}(h:DS (λd x=>f (g d) σ=some (some (.d x),σ)) l xs):EB f (l.map g) σ=some (xs.map .d,σ):=by
 induction h with
 |nil=>rfl
 |cons a _ ih=>exact FH a ih
theorem LA{f:D→Store→Option (Option V×Store)}{l:List D}(h:DS (λd x=>f d σ=some (some (.d x),σ)) l xs):EB f l σ=some (xs.map .d,σ):=by
 induction h with
 |nil=>rfl
 |cons a _ ih=>exact FH a ih
theorem kz:(DZ (n+1)).call keep 4 [.d (.sym 75), .d (.int i)] σ=some (.d (.nd .tup [.sym 75, .int i]),σ):=by
 refine DW rfl rfl ?_
 fin2
theorem mh:(DZ (n+1)).call keep 4 [.d (.sym 99), .d (EM s)] σ=some (.d (.nd .tup [.sym 99, .sym s]),σ):=by
 refine DW rfl rfl ?_
 fin2
theorem pE:(DZ (n+1)).call keep 4 [.d (.sym 120), .d (ref i)] σ=some (.d (.nd .tup [.sym 120, .int i, .int 0]),σ):=by
 refine DW rfl rfl ?_
 fin2
theorem SJ:(DZ (n+2)).call keep 5 [.d (.int i)] σ=some (.d (.nd .tup [.sym 75, .int i]),σ):=by
 refine DW rfl rfl ?_
 cell_ask ⟨OY,kz⟩
theorem TV:(DZ (n+2)).call keep 5 [.d (EM s)] σ=some (.d (.nd .tup [.sym 99, .sym s]),σ):=by
 refine DW rfl rfl ?_
 cell_ask ⟨LL,mh⟩
theorem b9:(DZ (n+2)).call keep 5 [.d (ref i)] σ=some (.d (.nd .tup [.sym 120, .int i, .int 0]),σ):=by
 refine DW rfl rfl ?_
 cell_ask ⟨Kq,pE⟩
def G5(k:Nat)(v x:D):Prop:= ∀n keep σ,k≤n→(DZ n).call keep 5 [.d v] σ=some (.d x,σ)
theorem Ey{a n:Nat}(b:Nat)(h:a+b≤n): ∃m,n=m+b∧a≤m:=(DM (n - b) (by lia) (by lia))
theorem OH(h:DS (G5 (k+1)) l xs)(hl:xs.length<1000):G5 (k+2) (.nd .lst l) (.nd .tup (.sym 42::xs)):=λn keep σ hn=>by
 refine DQ (Ey 2 hn) λm Ff hm=> ?_;subst Ff;refine DW rfl rfl ?_
 cell_ask ⟨Ky⟩
 refine LA (h.imp λd x e=> ?_);refine EL rfl FE ?_
 fin2
 refine e _ _ _ ?_;exact Κ hm
 fin2
 exact QG (by show 1+xs.length≤1000000;exact wc hl rfl)
 fin2
abbrev sd(ss:List Nat)(vs:List D):D:= .nd (.Dg 1 (ss.map .s)) vs
theorem En{α β:Type}(f:α→β){ks:List DO}: ∀{vs:List α} {x:DO} {v:α},DU ks vs x=some v→DU ks (vs.map f) x=some (f v):=λ{vs}=>by
 induction ks generalizing vs with
 |nil=>intro x v h;exact nomatch h
 |cons k ks ih=>
  intro x v h;cases vs with
  |nil=>exact nomatch h
  |cons u vs=>
   have h:cond (DO.beq k x) (some u) (DU ks vs x)=some v:=h;show cond (DO.beq k x) (some (f u)) (DU ks (vs.map f) x)=some (f v);cases q:DO.beq k x with
   |true=>rw [q] at h;exact congrArg some (congrArg f (η h))
   |false=>rw [q] at h;exact ih h
theorem MH(h:DU (ss.map .s) vs (.s s)=some v):E9 σ (.d (sd ss vs)) (.d (.sym s))=some (.d v):=En V.d h
theorem bk:(ss.map DO.s).map Zr=ss:=by exact C9 Δ<|List.map_id'' (λO=>rfl) _
theorem RG(h:ss.length<64):Fj σ 4 (.d (sd ss vs))=some (.d (.nd .lst ((HA Ε ss).map .sym))):=by
 show F9 (Μ (ss.map DO.s).length 64) (some (V.d (.nd .lst ((HA Ε ((ss.map DO.s).map Zr)).map .sym))))=_;refine C9 bk<|C9 (ι _) ?_
 exact D7 (ο h) rfl
theorem JP{ys:List D}(hs:ss.length<64)(hy:ys.length<1000)(h:DS (λs y=> ∃v x,y= .nd .tup [.sym s,x]∧DU (ss.map .s) vs (.s s)=some v∧(!isNone (.d v))=true∧G5 (k+1) v x) (HA Ε ss) ys):G5 (k+2) (sd ss vs) (.nd .tup (.sym 56::ys)):=λn keep σ hn=>by
 refine DQ (Ey 2 hn) λm Ff hm=> ?_;subst Ff;refine DW rfl rfl ?_
 cell_ask ⟨Kx,RG⟩
 refine Hk (h.imp λs y e=> ?_);refine IU e λv x Gx e1 e2 e3=> ?_;subst Gx;clear e;refine EL (DD:=σ) rfl ?_ ?_
 cell_ask ⟨MH⟩
 refine e3 _ _ _ ?_;exact Κ hm
 fin2
 exact QG (by show 1+ys.length≤1000000;exact wc hy rfl)
 fin2
theorem G5.up{k k':Nat}(h:G5 k v x)(e:k≤k'):G5 k' v x:=λn keep σ hn=>h n keep σ (by exact Υ e hn)
theorem IY{α β:Type}{R:α→β→Prop}: ∀{l:List α},(∀a∈l,∃b,R a b)→ ∃m,DS R l m:=λ{l}=>by
 induction l with
 |nil=>intro _;exact (EG ([]) .nil)
 |cons a l ih=>
  intro h;refine D3 (h a (.head _)) λb hb=> ?_;refine D3 (ih λa ha=>h a (.tail _ ha)) λm hm=> ?_;exact (EG (b::m) (.cons hb hm))
theorem iX{α:Type}{le:α→α→Bool}{x y:α}: ∀{l:List α},y∈ei le x l→y=x∨y∈l:=λ{l}=>by
 induction l with
 |nil=>intro h;exact .inl (ς.mp h)
 |cons z l ih=>
  intro h;have h:y∈cond (le x z) (x::z::l) (z::ei le x l):=h;cases q:le x z with
  |true=>rw [q] at h;exact (ν.mp h)
  |false=>
   rw [q] at h;rcases ν.mp h with w|w
   ·exact .inr (w▸ .head _)
   ·exact (ih w).imp id λw=> .tail _ w
theorem LK{α:Type}{le:α→α→Bool}{y:α}: ∀{l:List α},y∈HA le l→y∈l:=λ{l}=>by
 induction l with
 |nil=>intro h;exact h
 |cons x l ih=>
  intro h;rcases iX h with w|w
  ·exact w▸ .head _
  ·exact .tail _ (ih w)
theorem f6{α:Type}{le:α→α→Bool}{x:α}: ∀{l:List α},(ei le x l).length=l.length+1:=λ{l}=>by
 induction l with
 |nil=>rfl
 |cons z l ih=>
  show (cond (le x z) (x::z::l) (z::ei le x l)).length=_;cases le x z with
  |true=>rfl
  |false=>exact congrArg (· +1) ih
theorem NB{α:Type}{le:α→α→Bool}: ∀{l:List α},(HA le l).length=l.length:=λ{l}=>by
 induction l with
 |nil=>rfl
 |cons x l ih=>exact f6.trans (congrArg (· +1) ih)
theorem qY{ss:List Nat}: ∀{vs:List D} {s:Nat},ss.length=vs.length→s∈ss→ ∃v∈vs,DU (ss.map .s) vs (.s s)=some v:=by
 induction ss with
 |nil=>intro vs s _ h;exact absurd h Γ
 |cons a ss ih=>
  intro vs s hl h;cases vs with
  |nil=>exact nomatch hl
  |cons u vs=>
   show∃v∈u::vs,cond (μ a s) (some u) (DU (ss.map .s) vs (.s s))=some v
   cases q:μ a s with
   |true=>exact (DM u (.head _) rfl)
   |false=>
    rcases ν.mp h with w|w
    ·rw [w,AH] at q;exact nomatch q
    ·refine DQ (ih (AK.inj hl) w) λv hv e=> ?_
     exact (DM v (.tail _ hv) e)
theorem PH{l:List D}(h: ∀x∈l,plain x=true):plain.FF l=true:=by
 induction l with
 |nil=>rfl
 |cons x l ih=>show (plain x&&plain.FF l)=true;exact C9 (h x (.head _))<|C9 (ih λy hy=>h y (.tail _ hy)) rfl
theorem XO{m:Nat}{l:List D}(h: ∀x∈l,ej x≤m):ej.deps l≤m:=by
 induction l with
 |nil=>exact AT _
 |cons x l ih=>exact Nat.max_le.mpr ⟨h x (.head _),ih λy hy=>h y (.tail _ hy)⟩
theorem GG{α β:Type}{R:α→β→Prop}{l:List α}{m:List β}(h:DS R l m): ∀b∈m,∃a∈l,R a b:=by
 induction h with
 |nil=>intro b hb;exact absurd hb Γ
 |cons r _ ih=>
  intro b hb;rcases ν.mp hb with w|w
  ·exact (DM _ (.head _) (w▸r))
  ·refine DQ (ih b w) λa ha q=> ?_;exact (DM a (.tail _ ha) q)
def Pl(m:Nat)(x:D):Prop:=plain x=true∧ej x≤m
theorem J8{m:Nat}{l:List D}(h: ∀x∈l,Pl m x):Pl (m+1) (.nd .tup l):=⟨show (true&&plain.FF l)=true from PH λx hx=>(h x hx).1,Κ (XO λx hx=>(h x hx).2)⟩
theorem Tt{m:Nat}{l:List D}(h: ∀x∈l,Pl m x):Pl (m+1) (.nd .lst l):=⟨show (true&&plain.FF l)=true from PH λx hx=>(h x hx).1,Κ (XO λx hx=>(h x hx).2)⟩
theorem Gg{m:Nat}:Pl m (.int i):=⟨rfl,AT _⟩
theorem Fd{m:Nat}:Pl m (.sym s):=⟨rfl,AT _⟩
theorem Pl.up{m m':Nat}{x:D}(h:Pl m x)(e:m≤m'):Pl m' x:=⟨h.1,Υ h.2 e⟩
end
end
section
mutual open A
variable{n m k i:Nat}{keep:Bool}{σ:Store}{v x u:D}{s:Nat}{l vs:List D}{ss:List Nat}{G:HL}{loc:Di}{ks:List Int}{sh t:V}{tr:D}{a:Int}
def EF(ks:List Int)(vs:List D)(a:Int):Option D:=DU (ks.map .i) vs (.i a)
def Tb(σ:Store)(t:V)(ks:List Int)(vs:List D):Prop:=GH σ t=some (0,ks.map .i,(vs.map GP).map .d)
structure Sh(σ:Store)(sh:V)(ks:List Int)(vs:List D)(tr:D)(fl:List V)(t:V):Prop where
 i:Ew σ sh=some (5,fl)
 a:Hh σ sh 144=some t
 tt:Tb σ t ks vs
 n:Ew σ t=none
 r:Hh σ sh 153=some (.d tr)
 low:FP σ.length sh=false
theorem t_tb{a b c d}(h:False):Tb a b c d:=h.elim
theorem t_tlk{a b c r}(h:False):EF a b c=r:=h.elim
theorem Ga(h:Tb σ t ks vs)(e:EF ks vs a=some v):E9 σ t (.d (.int a))=some (.d (GP v)):=by
 refine DQ (DA h λq a b=>(DM q a b)) λq h1 h2=> ?_;obtain ⟨hd,ws⟩:=q;cases hd with
 |Dg k2 py=>
  obtain ⟨rfl,rfl,rfl⟩:k2=0∧py=ks.map DO.i∧ws=(vs.map GP).map V.d:=by injection h2 with h2;injection h2 with h2 h3;injection h3 with h3 h4;exact ⟨h2,h3,h4⟩
  exact DB rfl (DB h1 (DB rfl (D7 rfl (En V.d (En GP e)))))
 |_=>exact nomatch h2
theorem XS(h:Tb σ t ks vs):Jt σ 65 t=true:=by show (GH σ t).isSome=true;rw [h];rfl
theorem dL{u':V}(h:Tb σ t ks vs)(e:EF ks vs a=some v):GK 65 t [.d (.int a),u'] σ=some (.d (GP v),σ):=by
 show lift (cA σ t [.d (.int a),u']) σ=_;refine Ec (DB h (DB rfl (DB rfl (D7 rfl ?_))));show some ((DU (ks.map .i) ((vs.map GP).map V.d) (.i a)).getD u')=_;exact C9 (En V.d (En GP e)) rfl
theorem jE(h:Tb σ t ks vs)(e:ks.length<64):Fj σ 4 t=some (.d (.nd .lst ((HA I9 ks).map .int))):=by
 refine DB h ?_;show F9 (Μ (ks.map DO.i).length 64) (some (V.d (.nd .lst ((HA I9 ((ks.map DO.i).map bl)).map .int))))=_;refine C9 Δ<|C9 (show ks.map (bl∘DO.i)=ks from List.map_id'' (λO=>rfl) _)<|C9 (ι _) ?_
 exact D7 (ο e) rfl
def E3(ss:List Nat)(vs:List D)(s:Nat):D:=(DU (ss.map .s) vs (.s s)).getD .none
theorem Ql:GK 65 (.d (sd ss vs)) [.d (.sym s)] σ=some (.d (E3 ss vs s),σ):=by
 show lift (cA σ (.d (sd ss vs)) [.d (.sym s)]) σ=_;refine Ec ?_;show some ((DU (ss.map .s) (vs.map V.d) (.s s)).getD (.d .none))=_;unfold E3;cases q:DU (ss.map DO.s) vs (.s s) with
 |some v=>exact C9 (En V.d q) rfl
 |none=>
  have: ∀{ks:List DO} {vs:List D},DU ks vs (.s s)=none→DU ks (vs.map V.d) (.s s)=none:=λ{ks}=>by
   induction ks with
   |nil=>intro vs h;rfl
   |cons k ks ih=>
    intro vs h;cases vs with
    |nil=>rfl
    |cons u vs=>
     have h:cond (DO.beq k (.s s)) (some u) (DU ks vs (.s s))=none:=h;show cond (DO.beq k (.s s)) _ (DU ks (vs.map V.d) (.s s))=none;cases z:DO.beq k (.s s) with
     |true=>rw [z] at h;exact nomatch h
     |false=>rw [z] at h;exact ih h
  exact C9 (this q) rfl
inductive LT(ks:List Int)(vs:List D):Nat→D→D→Prop
 |stop {k:Nat} {v:D}:La [] (.d v)=some k→ME k 14=false→LT ks vs 0 v v
 |PN {k:Nat} {a:Int} {v u:D}:EF ks vs a=some v→LT ks vs k v u→LT ks vs (k+1) (ref a) u
theorem WL(h:La [] (.d v)=some k):La σ (.d v)=some k:=by cases v<;>exact h
theorem Uj{fl:List V}(H:Sh σ sh ks vs tr fl t)(f:LT ks vs k v u): ∀{dl:List D} {loc:Di},k<dl.length→DE loc 132=some sh→DE loc 69=some (.d v)→El (nd (DZ n) Tm0).ex 71 dl loc σ=some (.ret (.d u) σ):=by
 obtain ⟨hi,ha,ht,hn,hr,Fy⟩:=H
 induction f with
 | @stop k0 v0 h1 h2=>
  intro dl loc hk l1 l2;cases dl with
  |nil=>exact absurd hk (Aw _)
  |cons d dl=>
   have h1:=WL (σ:=σ) h1;have h3:(!ME k0 14)=true:=by exact C9 h2 rfl
   refine QF ?_
   fin2
 |PN e f ih=>
  intro dl loc hk l1 l2;cases dl with
  |nil=>exact absurd hk (Aw _)
  |cons d dl=>
   refine' WP (c:=0) ?_ (.inl rfl) (ih (AM hk) (XC Fy ?_) (XC (v:= .d _) rfl ?_))
   ·cell_ask ⟨@XS,@dL⟩
   ·fin2
   ·fin2
theorem Nn{fl:List V}(H:Sh σ sh ks vs tr fl t)(f:LT ks vs k v u)(hk:k<30):(DZ (n+1)).call keep 10 [sh, .d v] σ=some (.d u,σ):=by
 refine DW rfl rfl ?_
 fin2
 refine Uj H f hk ?_ ?_
 fin2
theorem GD{fl:List V}{ws:List D}(H:Sh σ sh ks vs tr fl t)(f:LT ks vs k (E3 ss ws s) u)(hk:k<30):(DZ (n+2)).call keep 11 [sh, .d (sd ss ws), .d (.sym s)] σ=some (.d u,σ):=by
 obtain ⟨hi,ha,ht,hn,hr,Fy⟩:=id H;refine DW rfl rfl ?_
 cell_ask ⟨Ql,Nn H f hk⟩
theorem Gc{fl:List V}(H:Sh σ sh ks vs tr fl t)(hk:ks.length<64):(DZ (n+1)).call keep 14 [sh] σ=some (.d (.nd .lst ((HA I9 ks).map .int)),σ):=by
 obtain ⟨hi,ha,ht,hn,hr,Fy⟩:=H;refine DW rfl rfl ?_
 cell_ask ⟨@jE⟩
theorem LB{fl:List V}{ws:List D}{uss:List Nat}{uvs:List D}(H:Sh σ sh ks vs (sd ss ws) fl t)(f:LT ks vs k (E3 ss ws 18) (sd uss uvs))(hk:k<30):(DZ (n+3)).call keep 15 [sh] σ=some (.d (sd uss uvs),σ):=by
 have H':=H;obtain ⟨hi,ha,ht,hn,hr,Fy⟩:=H;refine DW rfl rfl ?_;have g:=GD (n:=n) (keep:=false) H' f hk
 fin2
theorem al{fl:List V}{ys:List D}{y:D}(H:Sh σ sh ks vs tr fl t)(hl:ks.length<64)(h:DS (λa y=> ∃v x,y= .nd .tup [.int a, .int 0,x]∧EF ks vs a=some v∧G5 (k+1) v x) (HA I9 ks) ys)(ht:G5 (k+1) tr y)(hn:k+2≤n):(DZ n).call keep 16 [sh] σ=some (.d (.nd .tup [.nd .tup ys,y]),σ):=by
 refine DQ (Ey 2 hn) λm Ff hm=> ?_;subst Ff;have H':=H;obtain ⟨hi,ha,htb,WD,hr,Fy⟩:=H;have nu:=Gc (n:=m) (keep:=false) H' hl;refine DW rfl rfl ?_
 fin2
 refine Hk (h.imp λa y e=> ?_);refine D0 e λv x Gx e1 e2=> ?_;subst Gx;clear e;refine EL rfl FE ?_
 cell_ask ⟨@Ga⟩
 refine e2 _ _ _ ?_;exact Κ hm
 fin2
 refine ht _ _ _ ?_;exact Κ hm
 fin2
theorem HO{r:Store}:Sw (σ++r) (σ.length+k)=r[k]?:=by
 show (σ++r)[σ.length+k]?=_
 (exact C9 (AG (Ζ _ _))<|C9 (Ω _ _) rfl)
theorem SO{r:Store}{h:Hd}{ws:List V}:QD (σ++r) (σ.length+k) h ws=σ++r.set k (.lv h ws):=by
 show (σ++r).set (σ.length+k) _=_
 (exact C9 (AI _ _ (Ζ _ _))<|C9 (Ω _ _) rfl)
variable{r:Store}{h hd:Hd}{ws:List V}{w:V}
theorem G0(e:r[k]?=some (.lv h ws)):G4 (σ++r) (.cell (σ.length+k))=some (h,ws):=DB (HO.trans e) rfl
theorem Nb(e:r[k]?=some (.lv h ws)):cellOf (σ++r) (.cell (σ.length+k))=some (σ.length+k,h,ws):=DB (HO.trans e) (DB rfl rfl)
theorem kZ{key:D}{q:Hd×List V}(e:r[k]?=some (.lv hd ws))(e2:sS key x ws hd=some q):GO (σ++r) (.cell (σ.length+k)) (.d key) (.d x)=some (σ++r.set k (.lv q.1 q.2)):=DJ rfl (DB (Nb e) (DB rfl (DB e2 (congrArg some SO))))
theorem Em{kk:Nat}{kl:List DO}{key:D}{ky:DO}(e:r[k]?=some (.lv (.Dg kk kl) ws))(e2:HG key=some ky)(e3:(μ ky.kind kk&&Μ kl.length big)=true):GO (σ++r) (.cell (σ.length+k)) (.d key) (.d x)=some (σ++r.set k (.lv (.Dg kk (D2 kl ky)) (Dz kl ws ky (.d x)))):=kZ e (DB e2 (D7 e3 rfl))
theorem Jk{kl:List DO}(e:np i=true):Ku σ n (.d (.nd (.Dg i kl) l))=some (i,kl,l.map .d):=D7 e rfl
theorem aD(e:r[k]?=some (.lv .lst ws))(hb:ws.length+l.length<big):G9 (σ++r) (.cell (σ.length+k)) l=some (σ++r.set k (.lv .lst (ws++l.map .d))):=by
 refine DB (DB (Nb e) (D7 rfl rfl)) (D7 (ο hb) (congrArg some SO))
theorem OW(e:r[k]?=some (.lv .lst ws))(hb:ws.length+1<big):GK 41 (.cell (σ.length+k)) [.d x] (σ++r)=some (.d .none,σ++r.set k (.lv .lst (ws++ [.d x]))):=by
 show DN (only [V.d x]) (λv=>done (Pw (σ++r) (.cell (σ.length+k)) v))=_;exact DB rfl (DB (DJ rfl (aD (l:= [x]) e hb)) rfl)
theorem rY(e:r[k]?=some (.lv .lst ws))(e2:ws.getLast?=some w):GK 116 (.cell (σ.length+k)) [] (σ++r)=some (w,σ++r.set k (.lv .lst ws.dropLast)):=by
 show F9 true (pM (σ++r) (.cell (σ.length+k)))=_;exact D7 rfl (DB (DB (Nb e) (D7 rfl rfl)) (DB e2 (congrArg (λz=>some (w,z)) SO)))
theorem Hn(e:r[k]?=some (.lv h ws))(e2:OC h=none):Ew (σ++r) (.cell (σ.length+k))=none:=DB (G0 e) (by exact C9 (show OC (h,ws).1=none from e2) rfl)
theorem LM(e:r[k]?=some (.lv .lst ws)):Jt (σ++r) 41 (.cell (σ.length+k))=true:=by
 show (JB (σ++r) (.cell (σ.length+k))).isSome=true;exact C9 (show JB (σ++r) (.cell (σ.length+k))=some ws from DB (G0 e) (D7 rfl rfl)) rfl
theorem WT(e:r[k]?=some (.lv .lst ws)):Jt (σ++r) 116 (.cell (σ.length+k))=true:=LM e
theorem kN(e:r[k]?=some (.lv .lst ws)):Jt (σ++r) 57 (.cell (σ.length+k))=true:=LM e
theorem ON(e:r[k]?=some (.lv .lst ws)):G1 (σ++r) (.cell (σ.length+k))=some (!ws.isEmpty):=DB (show JB (σ++r) (.cell (σ.length+k))=some ws from DB (G0 e) (D7 rfl rfl)) rfl
theorem Wv{q:Nat}{kl:List DO}{key:DO}(e:r[k]?=some (.lv (.Dg q kl) ws))(e2:HG x=some key)(e3:μ key.kind q=true):FJ (σ++r) 9 (.d x) (.cell (σ.length+k))=some (!Dm kl key):=DB (DB rfl (DB (G0 e) (DB e2 (D7 e3 rfl)))) rfl
theorem VJ{q:Nat}{kl:List DO}{key:DO}(e:r[k]?=some (.lv (.Dg q kl) ws))(e2:HG x=some key)(e3:μ key.kind q=true):FJ (σ++r) 8 (.d x) (.cell (σ.length+k))=some (Dm kl key):=show pR (σ++r) (.d x) (.cell (σ.length+k))=_ from DB (show Ix (.d x)=some x from rfl) (DB (G0 e) (DB e2 (D7 e3 rfl)))
theorem JA(e:Ε (k+1) r.length=true):FP (σ++r).length (.cell (σ.length+k))=false:=by
 have e:=φ e;show Ε (σ++r).length (σ.length+k)=false;refine C9 ε ?_;cases q:Ε (σ.length+r.length) (σ.length+k) with
 |false=>rfl
 |true=>exact absurd (φ q) (by exact yD e)
theorem nK{v:V}(h:FP σ.length v=false):FP (σ++r).length v=false:=by
 cases v with
 |d=>rfl
 |cell i=>
  show Ε (σ++r).length i=false;refine C9 ε ?_;cases q:Ε (σ.length+r.length) i with
  |false=>rfl
  |true=>
   have:=φ q
   have h:Ε σ.length i=false:=h;rw [ο (by exact zqC this)] at h;exact nomatch h
theorem mn{r':Store}(e:r'.length=r.length):(σ++r').take (σ++r).length=σ++r':=by
 (exact C9 ε<|Dr e<|Dr ε<|C9 AS rfl)
theorem tE{r' yw:Store}(e:r'.length=r.length):(σ++(r'++yw)).take (σ++r).length=σ++r':=by
 (exact Dr (π _ _ _)<|C9 ε<|Dr e<|Dr ε<|C9 (HK _) rfl)
theorem Od{q:Hd×List V}{v:V}(h:G4 σ v=some q):G4 (σ++r) v=some q:=by
 cases v with
 |d=>exact h
 |cell i=>
  refine DA (x:=Sw σ i) h λc h1 h2=>DB (a:=c) ?_ h2;have hl:i<σ.length:=(AR.mp h1).1;exact (Ο hl).trans h1
theorem Ji{z:Nat×List DO×List V}{v:V}(h:GH σ v=some z):GH (σ++r) v=some z:=DA h λq h1 h2=>DB (Od h1) h2
theorem Gq{z:Nat×List V}{v:V}(h:Ew σ v=some z):Ew (σ++r) v=some z:=DA h λq h1 h2=>DB (Od h1) h2
theorem Eu{a:Nat}{v w:V}(h:Hh σ v a=some w):Hh (σ++r) v a=some w:=DA h λq h1 h2=>DB (Gq h1) h2
theorem PM{z:Nat×List DO×List V}{v:V}(h:GH σ v=some z):Ew (σ++r) v=none:=DA h λq h1 h2=>DA h2 λq2 h3 h4=>DB (Od h1) (by cases hq:q.1 with|Dg=>rfl|_=>rw [hq] at h3;exact nomatch h3)
theorem Sh.app{fl:List V}(H:Sh σ sh ks vs tr fl t):Sh (σ++r) sh ks vs tr fl t:=⟨Gq H.i,Eu H.a,Ji H.tt,PM H.tt,Eu H.r,nK H.low⟩
theorem NM(h:Tb σ t ks vs)(e:EF ks vs a=some v):E9 (σ++r) t (.d (.int a))=some (.d (GP v)):=Ga (Ji h) e
theorem iD{u':V}(h:Tb σ t ks vs)(e:EF ks vs a=some v):GK 65 t [.d (.int a),u'] (σ++r)=some (.d (GP v),σ++r):=dL (Ji h) e
theorem nO(h:Tb σ t ks vs):Jt (σ++r) 65 t=true:=XS (Ji h)
theorem Zq(h:Tb σ t ks vs):Ew (σ++r) t=none:=PM h
theorem j6(e:r[k]?=some (.lv .lst ws)):FJ (σ++r) 0 (.cell (σ.length+k)) (.d (.nd .lst []))=some ws.isEmpty:=show DN (JB (σ++r) (.cell (σ.length+k))) (λl=>some l.isEmpty)=_ from DB (show JB (σ++r) (.cell (σ.length+k))=some ws from DB (G0 e) (D7 rfl rfl)) rfl
theorem MZ{fl:List D}(e:r[k]?=some (.lv h (fl.map .d))):D5 false σ.length (σ++r) (.cell (σ.length+k))=some (.d (.nd h fl),σ):=by
 have b:Ε σ.length (σ.length+k)=true:=ο (Ζ _ _);refine (LY b).trans (DJ (a:= .nd h fl) (σ:=(σ++r).set (σ.length+k) (.fz (.nd h fl))) (DB (HO.trans e) (DJ (RL (Hz 4) λO O=>rfl) rfl)) ?_)
 (exact C9 (AI _ _ (Ζ _ _))<|C9 (HK _) rfl)
variable{t1 t2:T}{DD DK:Store}{DG:Di}{c:Nat}{out:Option HW}{v' w':V}
theorem fQ(h1:(nd G t1).ev loc σ=some (v',DD))(ht:G1 DD v'=some true)(h2:(nd G t2).ex loc DD=some (.ret w' DK)):EC (M9 (nd G t1).ev) (nd G t2).ex (k+1) loc σ=some (.ret w' DK):=DJ (DJ h1 (Ec ht)) (DB h2 rfl)
theorem K9(h1:(nd G t1).ev loc σ=some (v',DD))(ht:G1 DD v'=some false):EC (M9 (nd G t1).ev) (nd G t2).ex (k+1) loc σ=some (.go 0 loc DD):=DJ (DJ h1 (Ec ht)) rfl
theorem UJ(h1:(nd G t1).ev loc σ=some (v',DD))(ht:G1 DD v'=some true)(h2:(nd G t2).ex loc DD=some (.go c DG DK))(hc:c=0∨c=2)(h3:EC (M9 (nd G t1).ev) (nd G t2).ex k (Dt σ.length [] DG) (DK.take σ.length)=out):EC (M9 (nd G t1).ev) (nd G t2).ex (k+1) loc σ=out:=DJ (DJ h1 (Ec ht)) (DB h2 (by rcases hc with rfl|rfl<;>exact h3))
theorem Jp{body:Ex}{x:Nat}:El body x [] loc σ=some (.go 0 loc σ):=rfl
theorem Z2{body:Ex}{x:Nat}{r':Store}(h:body (DR loc x (.d v)) (σ++r)=some (.go c DG (σ++r')))(hc:c=0∨c=2)(e:r'.length=r.length)(k:El body x l (Dt (σ++r).length [] DG) (σ++r')=out):El body x (v::l) loc (σ++r)=out:=VR h hc (by exact C9 (mn e) k)
theorem bx{fl:List D}(e:r[k]?=some (.lv h (fl.map .d))):Hz FZ (.cell (σ.length+k)) (σ++r)=some (.nd h fl,σ++r.set k (.fz (.nd h fl))):=DB (HO.trans e) (DJ (RL (Hz 4) λO O=>rfl) (congrArg (λz=>some (D.nd h fl,z)) (by (exact C9 (AI _ _ (Ζ _ _))<|C9 (Ω _ _) rfl))))
theorem OV{ys:List V}{ds:List D}(h:HS (Hz FZ) ys σ=some (ds,DD)):HS (Hz FZ) (.d x::ys) σ=some (x::ds,DD):=DJ (show Hz FZ (.d x) σ=some (x,σ) from rfl) (DJ h rfl)
theorem XQ{ys:List V}{ds fl:List D}(e:r[k]?=some (.lv h (fl.map .d)))(h2:HS (Hz FZ) ys (σ++r.set k (.fz (.nd h fl)))=some (ds,DD)):HS (Hz FZ) (.cell (σ.length+k)::ys) (σ++r)=some (.nd h fl::ds,DD):=DJ (bx e) (DJ h2 rfl)
theorem rL{d1 d2 d3 d5:D}{h':Hd}(ds:List D)(e:r[k]?=some (.lv h (ds.map .d))):Df false h' [.d d1, .d d2, .d d3, .cell (σ.length+k), .d d5] (σ++r)=some (.d (.nd h' [d1,d2,d3, .nd h ds,d5]),σ++r.set k (.fz (.nd h ds))):=show EI (HS (Hz FZ) _ _) (λds σ=>some (V.d (.nd h' ds),σ))=_ from DJ (OV (OV (OV (XQ e (OV rfl))))) rfl
theorem EX{body:Ex}{x:Nat}{r':Store}(h:body (DR loc x (.d v)) (σ++r)=some (.go 0 DG (σ++r')))(e:r'.length=r.length)(k:El body x l (Dt (σ++r).length [] DG) (σ++r')=out):El body x (v::l) loc (σ++r)=out:=Z2 h (.inl rfl) e k
theorem Qa(e:r[k]?=some (.lv .lst (ws++ [w]))):GK 116 (.cell (σ.length+k)) [] (σ++r)=some (w,σ++r.set k (.lv .lst ws)):=by
 have:=rY (σ:=σ) e List.getLast?_concat
 rwa [List.dropLast_concat] at this
theorem HE{x:Option HW}{s s':Store}(h:x=some (.go 0 loc s'))(e:s'=s):x=some (.go 0 loc s):=e▸h
theorem LF{kl:List DO}{x y:DO}(h:Dm kl y=false)(e:DO.beq x y=false):Dm (D2 kl x) y=false:=by
 induction kl with
 |nil=>show (DO.beq x y||false)=false;exact C9 e rfl
 |cons k kl ih=>
  have h:(DO.beq k y||Dm kl y)=false:=h;rw [AU] at h;show Dm (cond (DO.beq k x) (k::kl) (k::D2 kl x)) y=false;cases DO.beq k x with
  |true=>show (DO.beq k y||Dm kl y)=false;exact C9 h.1<|C9 h.2 rfl
  |false=>show (DO.beq k y||Dm (D2 kl x) y)=false;exact C9 h.1<|C9 (ih h.2) rfl
def ZY(m x:Nat):List D→Di→Di
 | [],loc=>loc
 |d::dl,loc=>ZY m x dl (Dt m [] (DR loc x (.d d)))
theorem M8{x y:Nat}(h:DE loc y=some v')(e:μ x y=false)(e2:FP m v'=false):DE (ZY m x l loc) y=some v':=by
 induction l generalizing loc with
 |nil=>exact h
 |cons d dl ih=>exact ih (D9 (DH e h) e2)
theorem nz{j:Nat}(e:Ε (k+1) j=true):FP (σ.length+j) (.cell (σ.length+k))=false:=by
 have e:=φ e;show Ε (σ.length+j) (σ.length+k)=false;cases q:Ε (σ.length+j) (σ.length+k) with
 |false=>rfl
 |true=>exact absurd (φ q) (by exact yD e)
theorem l_upn{j:Nat}(h:FP σ.length v'=false):FP (σ.length+j) v'=false:=by
 cases v' with
 |d=>rfl
 |cell i=>
  have h:Ε σ.length i=false:=h;show Ε (σ.length+j) i=false;cases q:Ε (σ.length+j) i with
  |false=>rfl
  |true=>rw [ο (Υ (Ζ _ _) (φ q))] at h;exact nomatch h
theorem JC{r':Store}(h1:(Mine.Internal.nd G t1).ev loc (σ++r)=some (v',σ++r))(ht:G1 (σ++r) v'=some true)(h2:(Mine.Internal.nd G t2).ex loc (σ++r)=some (.go 0 DG (σ++r')))(e:r'.length=r.length)(h3:EC (M9 (Mine.Internal.nd G t1).ev) (Mine.Internal.nd G t2).ex k (Dt (σ++r).length [] DG) (σ++r')=out):EC (M9 (Mine.Internal.nd G t1).ev) (Mine.Internal.nd G t2).ex (k+1) loc (σ++r)=out:=UJ h1 ht h2 (.inl rfl) (by exact C9 (mn e) h3)
end
end
section
mutual open A
variable{n m k:Nat}{keep:Bool}{σ r:Store}{v u mb ab:D}{s:Nat}{l vs ws Gz:List D}{ss:List Nat}{loc:Di}{ks:List Int}{sh t:V}{tr:D}{a:Int}{fl:List V}
theorem WM(H:Sh σ sh ks vs tr fl t)(e:EF ks vs a=some v)(e2:La [] (.d v)=some k)(e3:(!ME k 14)=true):(DZ (n+1)).call keep 19 [sh, .d (ref a)] σ=some (.d (ref a),σ):=by
 obtain ⟨hi,ha,ht,hn,hr,Fy⟩:=H
 refine' EW rfl rfl ?_ (Pd _)
 fin2
 apply fQ (k:=1999)
 cell_ask ⟨Wv,Em,@Eu,@iD,@nO,@Zq,@WL⟩
theorem GN:LT ks vs 0 .none .none:= .stop (k:=0) rfl rfl
theorem XL(H:Sh σ sh ks vs tr fl t)(f:LT ks vs k (E3 ss ws 26) (EM s))(hk:k<30)(hs:s=13∨s=14):(DZ (n+3)).call keep 20 [sh, .d (sd ss ws)] σ=some (.d (.bool (μ s 14)),σ):=by
 have g:=GD (n:=n) (keep:=false) H f hk;obtain ⟨hi,ha,ht,hn,hr,Fy⟩:=H;rcases hs with rfl|rfl
 all_goals (refine' aJ rfl rfl ?_ ?_)
 all_goals (fin2)
theorem WJ(H:Sh σ sh ks vs tr fl t)(f:E3 ss ws 26= .none)(f':LT ks vs k (E3 ss ws 7) u)(hk:k<30):(DZ (n+3)).call keep 20 [sh, .d (sd ss ws)] σ=some (.d (.bool (!isNone (.d u))),σ):=by
 have g:=GD (n:=n) (s:=26) (u:= .none) (keep:=false) H (by exact C9 f GN) (by decide);have g':=GD (n:=n) (keep:=false) H f' hk;obtain ⟨hi,ha,ht,hn,hr,Fy⟩:=H;refine DW rfl rfl ?_
 fin2
theorem fP(H:Sh σ sh ks vs tr fl t)(f:E3 ss ws 7= .nd .lst l):(DZ (n+3)).call keep 21 [sh, .d (sd ss ws)] σ=some (.d (.nd .lst l),σ):=by
 have g:=GD (n:=n) (s:=7) (u:= .nd .lst l) (keep:=false) H (by exact C9 f<| .stop (k:=4) rfl rfl) (by decide);obtain ⟨hi,ha,ht,hn,hr,Fy⟩:=H;refine DW rfl rfl ?_
 fin2
abbrev SP(a:Int)(hd mb ab:D):D:= .nd (.inst 7) [ref a,hd,ab,sd [10] [mb], .bool true]
abbrev SN(a:Int)(hd ab:D):D:= .nd (.inst 7) [ref a,hd,ab,sd [] [], .bool false]
structure JD(ks:List Int)(vs:List D)(a:Int)(ss:List Nat)(ws:List D)(ml:List D):Prop where
 e:EF ks vs a=some (sd ss ws)
 ty:(∃k,k<30∧LT ks vs k (E3 ss ws 26) (EM 13))∨(E3 ss ws 26= .none∧E3 ss ws 7= .none)
 m:DU (ss.map .s) ws (.s 10)=some (.nd .lst ml)
 r:E3 ss ws 17= .none
 c:E3 ss ws 4= .none
 o:E3 ss ws 19= .none
structure JF(ks:List Int)(vs:List D)(a:Int)(ss:List Nat)(ws:List D)(kl:List D):Prop where
 e:EF ks vs a=some (sd ss ws)
 ty:(∃k,k<30∧LT ks vs k (E3 ss ws 26) (EM 14))∨E3 ss ws 26= .none
 m:E3 ss ws 10= .none
 r:E3 ss ws 17= .none
 c:E3 ss ws 4= .none
 o:E3 ss ws 19= .none
 k:E3 ss ws 7= .nd .lst kl
theorem dy{ml:List D}(H:Sh σ sh ks vs tr fl t)(P:JD ks vs a ss ws ml):(DZ (n+4)).call keep 22 [sh, .d (ref a), .d ab, .d (sd [] [])] σ=some (.d (SP a (sd ss ws) (.nd .lst ml) ab),σ):=by
 have xY: ∀r,(DZ (n+3)).call false 20 [sh, .d (sd ss ws)] (σ++r)=some (.d (.bool false),σ++r):=λr=>by
  rcases P.ty with ⟨k,hk,f⟩|⟨f,f'⟩
  ·exact XL H.app f hk (.inl rfl)
  ·exact WJ (u:= .none) H.app f (by exact C9 f' GN) (by decide)
 have ox:=λr=>GD (n:=n+1) (s:=10) (u:= .nd .lst ml) (keep:=false) (H.app (r:=r)) (show LT ks vs 0 (E3 ss ws 10) _ by exact C9 (show E3 ss ws 10= .nd .lst ml by unfold E3;rw [P.m];rfl)<| .stop (k:=4) rfl rfl) (by decide);have yv:=λr=>GD (n:=n+1) (s:=17) (u:= .none) (keep:=false) (H.app (r:=r)) (show LT ks vs 0 (E3 ss ws 17) _ by exact C9 P.r GN) (by decide);have g4:=λr=>GD (n:=n+1) (s:=4) (u:= .none) (keep:=false) (H.app (r:=r)) (show LT ks vs 0 (E3 ss ws 4) _ by exact C9 P.c GN) (by decide);have x8:=λr=>GD (n:=n+1) (s:=19) (u:= .none) (keep:=false) (H.app (r:=r)) (show LT ks vs 0 (E3 ss ws 19) _ by exact C9 P.o GN) (by decide);have hm:=λr=>WM (n:=n+2) (keep:=false) (H.app (r:=r)) P.e (k:=5) rfl rfl;have ft:=λr=>Nn (n:=n+2) (keep:=false) (H.app (r:=r)) (.PN P.e (.stop (k:=5) rfl rfl)) (by decide);have pm:=P.m;obtain ⟨hi,ha,ht,hn,hr,Fy⟩:=H
 refine' EW rfl rfl ?_ (Pd _)
 cell_ask ⟨@Eu,@Gq,hm,ft,Jk⟩
 cell_ask ⟨@Eu,@Gq,EX,yv,ox,g4,x8,MH,Em,xY,rL [.nd .lst ml]⟩
theorem dY{kl:List D}(H:Sh σ sh ks vs tr fl t)(P:JF ks vs a ss ws kl):(DZ (n+4)).call keep 22 [sh, .d (ref a), .d ab, .d (sd [] [])] σ=some (.d (SN a (sd ss ws) ab),σ):=by
 have xY: ∀r,(DZ (n+3)).call false 20 [sh, .d (sd ss ws)] (σ++r)=some (.d (.bool true),σ++r):=λr=>by
  rcases P.ty with ⟨k,hk,f⟩|f
  ·exact XL H.app f hk (.inr rfl)
  ·exact WJ (u:= .nd .lst kl) H.app f (by exact C9 P.k<| .stop (k:=4) rfl rfl) (by decide)
 have ox:=λr=>GD (n:=n+1) (s:=10) (u:= .none) (keep:=false) (H.app (r:=r)) (show LT ks vs 0 (E3 ss ws 10) _ by exact C9 P.m GN) (by decide);have yv:=λr=>GD (n:=n+1) (s:=17) (u:= .none) (keep:=false) (H.app (r:=r)) (show LT ks vs 0 (E3 ss ws 17) _ by exact C9 P.r GN) (by decide);have g4:=λr=>GD (n:=n+1) (s:=4) (u:= .none) (keep:=false) (H.app (r:=r)) (show LT ks vs 0 (E3 ss ws 4) _ by exact C9 P.c GN) (by decide);have x8:=λr=>GD (n:=n+1) (s:=19) (u:= .none) (keep:=false) (H.app (r:=r)) (show LT ks vs 0 (E3 ss ws 19) _ by exact C9 P.o GN) (by decide);have hm:=λr=>WM (n:=n+2) (keep:=false) (H.app (r:=r)) P.e (k:=5) rfl rfl;have ft:=λr=>Nn (n:=n+2) (keep:=false) (H.app (r:=r)) (.PN P.e (.stop (k:=5) rfl rfl)) (by decide);obtain ⟨hi,ha,ht,hn,hr,Fy⟩:=H
 refine' EW rfl rfl ?_ (Pd _)
 cell_ask ⟨@Eu,@Gq,hm,ft,Jk,EX,yv,ox,g4,x8,xY,rL []⟩
abbrev item(a:Int)(Gz:List D):D:= .nd .tup [ref a, .nd .tup Gz,sd [] []]
inductive d9(ks:List Int)(vs:List D):List (Int×List D)→List D→List Int→Prop
 |nil:d9 ks vs [] [] []
 |pg {a:Int} {ss:List Nat} {ws ml Gz:List D} {st fs ns}:JD ks vs a ss ws ml→d9 ks vs st fs ns→d9 ks vs ((a,Gz)::st) (SP a (sd ss ws) (.nd .lst ml) (.nd .tup Gz)::fs) (a::ns)
 |nd {a:Int} {ss:List Nat} {ws Gz:List D} {kl:List Int} {st fs ns}:JF ks vs a ss ws (kl.map ref)→Gz.length<100→d9 ks vs (kl.map (λb=>(b,Gz++ [ref a]))++st) fs ns→d9 ks vs ((a,Gz)::st) (SN a (sd ss ws) (.nd .tup Gz)::fs) (a::ns)
structure hH(loc:Di)(n:Nat)(sh:V):Prop where
 a:DE loc 133=some sh
 b:DE loc 62=some (.cell (n+0))
 c:DE loc 131=some (.cell (n+1))
 d:DE loc 93=some (.cell (n+2))
theorem Yk{c0 c1:Dh}{sp:D}(hl:Gz.length<100)(hsp:Hh σ (.d sp) 121=some (.d (ref a)))(hsi:Hh σ (.d sp) 74=some (.d (sd [] []))): ∀{dl:List D} {loc:Di} {lv:List V},DE loc 93=some (.cell (σ.length+2))→DE loc 38=some (.d (.nd .tup Gz))→DE loc 139=some (.d sp)→lv.length+dl.length<1000→
  El (nd (DZ n) yg).ex 82 dl loc (σ++ [c0,c1, .lv .lst lv])=some (.go 0 (ZY (σ.length+3) 82 dl loc) (σ++ [c0,c1, .lv .lst (lv++dl.map λd=> .d (.nd .tup [d, .nd .tup (Gz++ [ref a]),sd [] []]))])):=λ{dl}=>by
 induction dl with
 |nil=>intro loc lv _ _ _ _;exact C9 List.map_nil<|C9 (υ _) rfl
 |cons d dl ih=>
  intro loc lv ld l1 l2 hb;have Oj:Gz.length+ [ref a].length≤big:=by show Gz.length+1≤1000000;exact ZI hl rfl
  have Zy:lv.length+1<big:=by show _<1000000;rw [ξ] at hb;exact cr hb rfl
  have hn:(σ++ [c0,c1,Dh.lv .lst lv]).length=σ.length+3:=ε;have e:=ih (loc:=Dt (σ.length+3) [] (DR loc 82 (.d d))) (lv:=lv++ [.d (.nd .tup [d, .nd .tup (Gz++ [ref a]),sd [] []])]) (by fin2) (by fin2) (by fin2) (by refine C9 ε ?_;rw [ξ] at hb;show lv.length+1+dl.length<1000;exact Tg hb);refine C9 Χ<|C9 (AJ lv _ _) ?_
  refine Eq.trans ?_ e;refine Dr hn ?_;apply EX (r':= [c0,c1, .lv .lst (lv++ [.d (.nd .tup [d, .nd .tup (Gz++ [ref a]),sd [] []])])])
  cell_ask ⟨Hn,LM,@Eu,QG,OW⟩
  rfl
theorem U0{c0 c1:Dh}{sp:D}{dl:List D}{lv:List V}(hl:Gz.length<100)(hsp:Hh σ (.d sp) 121=some (.d (ref a)))(hsi:Hh σ (.d sp) 74=some (.d (sd [] [])))(hs:r= [c0,c1, .lv .lst lv])(h1:DE loc 93=some (.cell (σ.length+2)))(h2:DE loc 38=some (.d (.nd .tup Gz)))(h3:DE loc 139=some (.d sp))(h4:lv.length+dl.length<1000):
  El (nd (DZ n) yg).ex 82 dl loc (σ++r)=some (.go 0 (ZY (σ.length+3) 82 dl loc) (σ++ [c0,c1, .lv .lst (lv++dl.map λd=> .d (.nd .tup [d, .nd .tup (Gz++ [ref a]),sd [] []]))])):=by exact C9 hs<|Yk hl hsp hsi h1 h2 h3 h4
end
end
section
mutual open A
variable{n k i:Nat}{keep:Bool}{σ r:Store}{v x ab:D}{s:Nat}{l vs ws Gz fs:List D}{ss:List Nat}{loc:Di}{ks ns:List Int}{sh t:V}{tr:D}{a:Int}{fl F sv LN:List V}{kl:List DO}{st:List (Int×List D)}
theorem Rm{x:Option HW}{s s':Store}{DG:Di}{P:Di→Prop}(h:x=some (.go 0 DG s'))(e:s'=s)(p:P DG): ∃l,x=some (.go 0 l s)∧P l:=(DM DG (HE h e) p)
theorem ol{b:Bool}{x:Option (V×Store)}(h:x=some (.d (.bool false),σ)):cond (true==b) x (some (.d (.bool b),σ))=some (.d (.bool false),σ):=by cases b with|true=>exact h|false=>rfl
theorem hH.of{DG:Di}(L:hH loc σ.length sh)(Fy:FP σ.length sh=false)(hr:3=r.length)(h: ∀x v,DE loc x=some v→(x=133∨x=62∨x=131∨x=93)→FP (σ++r).length v=false→DE DG x=some v):hH DG σ.length sh:=
 ⟨h _ _ L.a (.inl rfl) (nK Fy),h _ _ L.b (.inr (.inl rfl)) (JA (by exact Dr hr rfl)),h _ _ L.c (.inr (.inr (.inl rfl))) (JA (by exact Dr hr rfl)),h _ _ L.d (.inr (.inr (.inr rfl))) (JA (by exact Dr hr rfl))⟩
theorem io{ml:List D}(H:Sh σ sh ks vs tr fl t)(P:JD ks vs a ss ws ml)(L:hH loc σ.length sh)(hF:F.isEmpty=false)(hk:(false==Dm kl (.i a))=true)(hb:F.length+1<big)(Zy:(μ (DO.i a).kind 0&&Μ kl.length big)=true):
  ∃DG,(nd (DZ (n+4)) qX).ex loc (σ++ [.lv .lst F, .lv (.Dg 0 kl) sv, .lv .lst (LN++ [.d (item a Gz)])])=some (.go 0 DG (σ++ [.lv .lst (F++ [.d (SP a (sd ss ws) (.nd .lst ml) (.nd .tup Gz))]), .lv (.Dg 0 (D2 kl (.i a))) (Dz kl sv (.i a) (.d (.bool true))), .lv .lst LN]))∧hH DG σ.length sh:=by
 have mt:=λr=>dy (n:=n) (keep:=false) (ab:= .nd .tup Gz) (H.app (r:=r)) P;obtain ⟨la,lb,lc,ld⟩:=L;obtain ⟨hi,ha,ht,hn,hr,Fy⟩:=H;have hF1:(true==F.isEmpty)=false:=by exact C9 hF rfl
 have hF2:(false==F.isEmpty)=true:=by exact C9 hF rfl
 have PD:Dm kl (.i a)=false:=by cases q:Dm kl (.i a) with|false=>rfl|true=>rw [q] at hk;exact nomatch hk
 apply Rm
 cell_ask ⟨mt,Hn,WT,Qa,VJ,j6,Em,LM,OW⟩
 exact ⟨by fin2,by fin2,by fin2,by fin2⟩
theorem We{eS:List D}(H:Sh σ sh ks vs tr fl t)(P:JF ks vs a ss ws eS)(L:hH loc σ.length sh)(hk:(false==Dm kl (.i a))=true)(hb:F.length+1<big)(Zy:(μ (DO.i a).kind 0&&Μ kl.length big)=true)(hl:Gz.length<100)(hL:LN.length+eS.reverse.length<1000):
  ∃DG,(nd (DZ (n+4)) qX).ex loc (σ++ [.lv .lst F, .lv (.Dg 0 kl) sv, .lv .lst (LN++ [.d (item a Gz)])])=some (.go 0 DG (σ++ [.lv .lst (F++ [.d (SN a (sd ss ws) (.nd .tup Gz))]), .lv (.Dg 0 (D2 kl (.i a))) (Dz kl sv (.i a) (.d (.bool true))), .lv .lst (LN++eS.reverse.map λd=> .d (.nd .tup [d, .nd .tup (Gz++ [ref a]),sd [] []]))]))∧hH DG σ.length sh:=by
 have mt:=λr=>dY (n:=n) (keep:=false) (ab:= .nd .tup Gz) (H.app (r:=r)) P;have kd:=λr=>fP (n:=n+1) (keep:=false) (H.app (r:=r)) P.k;obtain ⟨la,lb,lc,ld⟩:=L;obtain ⟨hi,ha,ht,hn,hr,Fy⟩:=H;have PD:Dm kl (.i a)=false:=by cases q:Dm kl (.i a) with|false=>rfl|true=>rw [q] at hk;exact nomatch hk
 apply Rm
 cell_ask ⟨mt,Hn,WT,Qa,VJ,j6,Em,LM,OW,kd,U0 (sp:=SN a (sd ss ws) (.nd .tup Gz)) hl rfl rfl,ol⟩
 exact ⟨by fin2,by fin2,by fin2,by fin2⟩
theorem Wt(Q:d9 ks vs st fs ns):st.length≤ns.length:=by
 induction Q with
 |nil=>exact Ι _
 |pg _ _ ih=>exact Κ ih
 |nd _ _ _ ih=>rw [ε] at ih;exact Κ (Υ (ψ _ _) ih)
abbrev Nm(st:List (Int×List D)):List V:=st.reverse.map λp=>V.d (item p.1 p.2)
theorem G6{a b:Int}(h:a≠b):DO.beq (.i a) (.i b)=false:=by
 cases q:DO.beq (.i a) (.i b) with
 |false=>rfl
 |true=>exact absurd (ER q) h
theorem JH{kl:List DO}{x:DO}:(D2 kl x).length≤kl.length+1:=by
 induction kl with
 |nil=>exact Ι _
 |cons k kl ih=>
  show (cond (DO.beq k x) (k::kl) (k::D2 kl x)).length≤_;cases DO.beq k x with
  |true=>exact Ac _
  |false=>exact Κ ih
theorem W8{j:Nat}(h:j<1000):(μ (DO.i a).kind 0&&Μ j big)=true:=by
 show Ε (j+1) 1000000=true;exact ο (by exact ZI h rfl)
theorem T6(H:Sh σ sh ks vs tr fl t)(Q:d9 ks vs st fs ns): ∀{loc:Di} {F:List V} {kl:List DO} {sv:List V} {fuel:Nat},hH loc σ.length sh→F.isEmpty=false→(∀b∈ns,Dm kl (.i b)=false)→ns.Nodup→F.length+ns.length<400→kl.length+ns.length<400→ns.length<fuel→
  ∃DG s',EC (M9 (nd (DZ (n+4)) (DF 93)).ev) (nd (DZ (n+4)) qX).ex fuel loc (σ++ [.lv .lst F, .lv (.Dg 0 kl) sv, .lv .lst (Nm st)])=some (.go 0 DG (σ++(.lv .lst (F++fs.map .d)::s')))∧DE DG 62=some (.cell (σ.length+0)):=by
 induction Q with
 |nil=>
  intro loc F kl sv fuel L hF hk Fl b1 b2 b3;obtain ⟨fuel,rfl⟩: ∃f,fuel=f+1:=(EG (fuel - 1) (by have:0<fuel:=b3;exact X4 this));exact (Gp loc _ ((K9 (Fh L.d) (ON (k:=2) (ws:= []) rfl)).trans (by (exact C9 List.map_nil<|C9 (υ _) rfl))) L.b)
 | @pg a ss ws ml Gz st fs ns P Q ih=>
  intro loc F kl sv fuel L hF hk Fl b1 b2 b3;rw [ξ] at b1 b2 b3;rw [Η] at Fl;obtain ⟨fuel,rfl⟩: ∃f,fuel=f+1:=(EG (fuel - 1) (by exact X4 b3));have qN:=hk a (.head _);have e0:Nm ((a,Gz)::st)=Nm st++ [.d (item a Gz)]:=by unfold Nm;exact C9 Ag<|C9 χ rfl
  refine DQ (io (n:=n) (Gz:=Gz) (sv:=sv) (LN:=Nm st) H P L hF (by exact C9 qN rfl) (show F.length+1<1000000 by exact cr b1 rfl) (W8 (by exact oI b2 rfl))) λJ' e1 L1=> ?_
  refine GE (ih (loc:=Dt (σ++ [Dh.lv .lst F, .lv (.Dg 0 kl) sv, .lv .lst (Nm st++ [.d (item a Gz)])]).length [] J') (F:=F++ [.d (SP a (sd ss ws) (.nd .lst ml) (.nd .tup Gz))]) (kl:=D2 kl (.i a)) (sv:=Dz kl sv (.i a) (.d (.bool true))) (fuel:=fuel) (L1.of H.low (r:= [Dh.lv .lst F, .lv (.Dg 0 kl) sv, .lv .lst (Nm st++ [.d (item a Gz)])]) rfl λx v h O h2=>D9 h h2)
   (by cases F<;>rfl) (λb hb=>LF (hk b (.tail _ hb)) (G6 λw=>Fl.1 (by exact C9 w hb))) Fl.2 (by refine C9 ε ?_;show F.length+1+_<_;exact Tg b1) (by have:=JH (kl:=kl) (x:= .i a);exact oJ b2 this) (by exact AM b3)) λI7 s' e2 l2=> ?_
  refine (Gp I7 s' ?_ l2);refine C9 e0 ?_;refine JC (Fh L.d) ((ON (k:=2) (ws:=Nm st++ [.d (item a Gz)]) rfl).trans (by cases Nm st<;>rfl)) e1 rfl ?_;exact C9 e2<|C9 (π _ _ _) rfl
 | @nd a ss ws Gz eS st fs ns P hab Q ih=>
  intro loc F kl sv fuel L hF hk Fl b1 b2 b3;rw [ξ] at b1 b2 b3;rw [Η] at Fl;obtain ⟨fuel,rfl⟩: ∃f,fuel=f+1:=(EG (fuel - 1) (by exact X4 b3));have qN:=hk a (.head _);have Eb:=Wt Q;rw [ε,ι] at Eb;have e0:Nm ((a,Gz)::st)=Nm st++ [.d (item a Gz)]:=by unfold Nm;exact C9 Ag<|C9 χ rfl
  have e3:Nm (eS.map (λb=>(b,Gz++ [ref a]))++st)=Nm st++(eS.map ref).reverse.map λd=>V.d (.nd .tup [d, .nd .tup (Gz++ [ref a]),sd [] []]):=by
   unfold Nm;exact C9 List.reverse_append<|C9 χ<|Dr A5<|Dr A5<|C9 Δ<|C9 Δ rfl
  refine DQ (We (n:=n) (Gz:=Gz) (sv:=sv) (F:=F) (LN:=Nm st) H P L (by exact C9 qN rfl) (show F.length+1<1000000 by exact cr b1 rfl) (W8 (by exact oI b2 rfl)) hab (by unfold Nm;refine C9 (ι _)<|C9 AX<|C9 AX<|C9 (ι _) ?_;lia)) λJ' e1 L1=> ?_;rw [←e3] at e1
  refine GE (ih (loc:=Dt (σ++ [Dh.lv .lst F, .lv (.Dg 0 kl) sv, .lv .lst (Nm st++ [.d (item a Gz)])]).length [] J') (F:=F++ [.d (SN a (sd ss ws) (.nd .tup Gz))]) (kl:=D2 kl (.i a)) (sv:=Dz kl sv (.i a) (.d (.bool true))) (fuel:=fuel) (L1.of H.low (r:= [Dh.lv .lst F, .lv (.Dg 0 kl) sv, .lv .lst (Nm st++ [.d (item a Gz)])]) rfl λx v h O h2=>D9 h h2)
   (by cases F<;>rfl) (λb hb=>LF (hk b (.tail _ hb)) (G6 λw=>Fl.1 (by exact C9 w hb))) Fl.2 (by refine C9 ε ?_;show F.length+1+_<_;exact Tg b1) (by have:=JH (kl:=kl) (x:= .i a);exact oJ b2 this) (by exact AM b3)) λI7 s' e2 l2=> ?_
  refine (Gp I7 s' ?_ l2);refine C9 e0 ?_;refine JC (Fh L.d) ((ON (k:=2) (ws:=Nm st++ [.d (item a Gz)]) rfl).trans (by cases Nm st<;>rfl)) e1 rfl ?_;exact C9 e2<|C9 (π _ _ _) rfl
theorem TR{ye:List Nat}{zf Te:List D}{tss:List Nat}{eS:List Int}(H:Sh σ sh ks vs (sd tss Te) fl t)(f:LT ks vs k (E3 tss Te 18) (sd ye zf))(hk:k<30)(hp:E3 ye zf 14=ref a)(P:JF ks vs a ss ws (eS.map ref))(Q:d9 ks vs (eS.map λb=>(b, [ref a])) fs ns)(Fl:(a::ns).Nodup)(hn:ns.length<300):(DZ (n+5)).call false 23 [sh] σ=some (.d (.nd .lst (SN a (sd ss ws) (.nd .tup [])::fs)),σ):=by
 have rt:=λr=>LB (n:=n+1) (keep:=false) (H.app (r:=r)) f hk;have gp: ∀r,GK 65 (.d (sd ye zf)) [.d (.sym 14)] (σ++r)=some (.d (ref a),σ++r):=λr=>hp▸Ql;have Eb:=Wt Q;rw [ι] at Eb;rw [Η] at Fl;have L0:hH (DR (DR (DR [(133,sh)] 62 (.cell (σ.length+0))) 131 (.cell (σ.length+1))) 93 (.cell (σ.length+2))) σ.length sh:=⟨by fin2,by fin2,by fin2,by fin2⟩;refine DQ (We (n:=n) (Gz:= []) (sv:= []) (kl:= []) (F:= []) (LN:= []) H P L0 rfl (by decide) (W8 (by decide)) (by decide) (by refine C9 AX<|C9 (ι _) ?_;show 0+_<_;lia)) λJ' e1 L1=> ?_
 have e3:Nm (eS.map (λb=>(b, [ref a])))=([]:List V)++(eS.map ref).reverse.map λd=>V.d (.nd .tup [d, .nd .tup ([]++ [ref a]),sd [] []]):=by
  unfold Nm;exact Dr A5<|Dr A5<|C9 Δ<|C9 Δ rfl
 rw [←e3] at e1;refine GE (T6 (n:=n) (loc:=Dt (σ++ [Dh.lv .lst [], .lv (.Dg 0 []) [], .lv .lst ([]++ [.d (item a [])])]).length [] J') (F:= []++ [.d (SN a (sd ss ws) (.nd .tup []))]) (kl:=D2 [] (.i a)) (sv:=Dz [] [] (.i a) (.d (.bool true))) (fuel:=1999) H Q (L1.of H.low (r:= [Dh.lv .lst [], .lv (.Dg 0 []) [], .lv .lst ([]++ [.d (item a [])])]) rfl λx v h O h2=>D9 h h2) rfl (λb hb=>LF rfl (G6 λw=>Fl.1 (by exact C9 w hb))) Fl.2 (by show 1+_<_;exact ZV hn rfl) (by show 1+_<_;exact ZV hn rfl) (by exact IJ hn rfl)) λI7 s' e2 l2=> ?_
 have hw:EC (M9 (nd (DZ (n+4)) (DF 93)).ev) (nd (DZ (n+4)) qX).ex SE (DR (DR (DR [(133,sh)] 62 (.cell (σ.length+0))) 131 (.cell (σ.length+1))) 93 (.cell (σ.length+2))) (σ++ [.lv .lst [], .lv (.Dg 0 []) [], .lv .lst ([]++ [.d (item a [])])])=some (.go 0 I7 (σ++(.lv .lst ([]++ [.d (SN a (sd ss ws) (.nd .tup []))]++fs.map .d)::s'))):=by
  refine JC (k:=1999) (Fh L0.d) ((ON (k:=2) (ws:= []++ [.d (item a [])]) rfl)) e1 rfl ?_;exact e2
 obtain ⟨hi,ha,ht,WD,hr,Fy⟩:=H;apply EW rfl rfl
 cell_ask ⟨@Gq,rt,gp⟩
 exact hw
 fin2
 exact MZ (k:=0) (r:= .lv .lst ([]++ [.d (SN a (sd ss ws) (.nd .tup []))]++fs.map .d)::s') (fl:=SN a (sd ss ws) (.nd .tup [])::fs) rfl
end
end
section
mutual open A
variable{n m k:Nat}{keep:Bool}{σ r:Store}{u ab:D}{s:Nat}{vs ws fs:List D}{ss:List Nat}{ks ns:List Int}{sh t:V}{tr:D}{a:Int}{fl:List V}{kl:List DO}{st:List (Int×List D)}
theorem YS{ml:List D}(H:Sh σ sh ks vs tr fl t)(P:JD ks vs a ss ws ml):(DZ (n+3)).call false 24 [sh, .d (SP a (sd ss ws) (.nd .lst ml) ab)] σ=some (.d (sd ss ws),σ):=by
 have ox:=λr=>GD (n:=n) (s:=10) (u:= .nd .lst ml) (keep:=false) (H.app (r:=r)) (show LT ks vs 0 (E3 ss ws 10) _ by exact C9 (show E3 ss ws 10= .nd .lst ml by unfold E3;rw [P.m];rfl)<| .stop (k:=4) rfl rfl) (by decide);obtain ⟨hi,ha,ht,hn,hr,Fy⟩:=H;apply EW rfl rfl
 cell_ask ⟨@Eu,@Gq,Jk,EX,ox⟩
 exact MZ (k:=0) (h:= .Dg 1 (ss.map .s)) (fl:=ws) rfl
def QA:D→Bool
 | .nd _ [_,_,_,_, .bool b]=>b
 |_=>false
def aF:D→D
 | .nd _ [r,h,_,_,_]=> .nd (.inst 6) [r,h]
 |d=>d
def bL:D→Int
 | .nd _ (.nd _ [.int a,_]::_)=>a
 |_=>0
inductive mB(ks:List Int)(vs:List D):D→Prop
 |pg {a:Int} {ss:List Nat} {ws ml:List D} {ab:D}:JD ks vs a ss ws ml→mB ks vs (SP a (sd ss ws) (.nd .lst ml) ab)
 |nd {a:Int} {ss:List Nat} {ws:List D} {kl:List D} {ab:D}:JF ks vs a ss ws kl→mB ks vs (SN a (sd ss ws) ab)
theorem XA(Q:d9 ks vs st fs ns):(∀d∈fs,mB ks vs d)∧fs.map bL=ns:=by
 induction Q with
 |nil=>exact ⟨λO h=>absurd h Γ,rfl⟩
 |pg P _ ih=>exact ⟨λd h=>by rcases ν.mp h with w|w;exact w▸ .pg P;exact ih.1 d w,congrArg (_:: ·) ih.2⟩
 |nd P _ _ ih=>exact ⟨λd h=>by rcases ν.mp h with w|w;exact w▸ .nd P;exact ih.1 d w,congrArg (_:: ·) ih.2⟩
theorem X2(h:(DZ (n+5)).call false 23 [sh] σ=some (.d (.nd .lst fs),σ))(hs: ∀d∈fs,mB ks vs d):(DZ (n+6)).call false 25 [sh] σ=some (.d (.nd .lst (fs.filter QA)),σ):=by
 apply DW rfl rfl
 fin2
 refine (KN (g:=λd=>cond (QA d) (some (.d d)) none) λd hd=> ?_).trans ?_
 ·cases hs d hd with
  |pg P=>refine EL (DD:=σ) rfl ?_ ?_;fin2
  |nd P=>refine Mj rfl ?_;fin2
 ·refine congrArg (λz=>some (z,σ)) (show fs.filterMap _=(fs.filter QA).map V.d from ?_)
  clear hs h
  induction fs with
  |nil=>rfl
  |cons d fs ih=>
   refine C9 As<|C9 Al ?_
   cases QA d with
   |true=>exact congrArg (_:: ·) ih
   |false=>exact ih
 fin2
theorem Sb(H:Sh σ sh ks vs tr fl t)(h:(DZ (n+5)).call false 23 [sh] σ=some (.d (.nd .lst fs),σ))(hs: ∀d∈fs,mB ks vs d):(DZ (n+7)).call false 26 [sh] σ=some (.d (.nd .lst ((fs.filter QA).map aF)),σ):=by
 have ps:=X2 h hs;apply DW rfl rfl
 fin2
 refine (KN (g:=λd=>some (.d (aF d))) λd hd=> ?_).trans ?_
 ·have ZP:=BL.mp hd
  cases hs d ZP.1 with
  |pg P=>
   have fo:=λab=>YS (n:=n+3) (ab:=ab) H P;refine EL (DD:=σ) rfl FE ?_
   cell_ask ⟨fo⟩
  |nd P=>exact nomatch ZP.2
 ·refine congrArg (λz=>some (z,σ)) (show (fs.filter QA).filterMap _=((fs.filter QA).map aF).map V.d from ?_)
  refine C9 Δ ?_;exact congrFun (BU (f:=V.d∘aF)) _
 fin2
end
end
section
mutual open A
variable{n m k i dp K:Nat}{keep:Bool}{σ DD r:Store}{v x u:D}{s:Nat}{l xs vs ws:List D}{ss:List Nat}{G:HL}{loc:Di}{ks:List Int}{sh t:V}{tr:D}{a:Int}{fl:List V}{kl:List DO}{t2:T}
theorem WZ(e:EF ks vs a=some v):Dm (ks.map .i) (.i a)=true:=by
 have: ∀{kl:List DO} {vs:List D} {y:DO},DU kl vs y=some v→Dm kl y=true:=λ{kl}=>by
  induction kl with
  |nil=>intro vs y h;exact nomatch h
  |cons k kl ih=>
   intro vs y h;cases vs with
   |nil=>exact nomatch h
   |cons u vs=>
    have h:cond (DO.beq k y) (some u) (DU kl vs y)=some v:=h;show (DO.beq k y||Dm kl y)=true;cases q:DO.beq k y with
    |true=>rfl
    |false=>rw [q] at h;exact ih h
 exact this e
theorem kU(h:Tb σ t ks vs):pR σ (.d (.int a)) t=some (Dm (ks.map .i) (.i a)):=by
 refine DQ (DA h λq a b=>(DM q a b)) λq h1 h2=> ?_;obtain ⟨hd,ws⟩:=q;cases hd with
 |Dg k2 py=>
  obtain ⟨rfl,rfl,rfl⟩:k2=0∧py=ks.map DO.i∧ws=(vs.map GP).map V.d:=by injection h2 with h2;injection h2 with h2 h3;injection h3 with h3 h4;exact ⟨h2,h3,h4⟩
  show DN (Ix (.d (.int a))) (λx=>DN (G4 σ t) λq=>T9 x q.2 q.1)=_;exact DB rfl (DB h1 (show T9 (.int a) _ (.Dg 0 (ks.map DO.i))=_ from DB rfl (D7 rfl rfl)))
 |_=>exact nomatch h2
theorem RI(h:Tb σ t ks vs):FJ σ 9 (.d (.int a)) t=some (!Dm (ks.map .i) (.i a)):=show DN (pR σ (.d (.int a)) t) (λr=>some (!r))=_ from DB (kU h) rfl
theorem fY(h:Tb σ t ks vs):FJ σ 8 (.d (.int a)) t=some (Dm (ks.map .i) (.i a)):=kU h
theorem aI{b:Bool}{x:Option (V×Store)}(h:x=some (.d (.bool true),σ)):cond (false==b) x (some (.d (.bool b),σ))=some (.d (.bool true),σ):=by cases b with|true=>rfl|false=>exact h
theorem iU(h1:20≤a)(h2:a<40)(e:(nd G t2).ev loc σ=some (.d (.int a),DD)):(nd G (.mk 14 50 [Dp 20,t2,Dp 40])).ev loc σ=some (.d (.bool true),DD):=
 K3 Fu e (show some (decide ((20:Int)≤a))=some true by (exact C9 (decide_eq_true h1) rfl)) Fu (show some (decide (a<(40:Int)))=some true by (exact C9 (decide_eq_true h2) rfl))
theorem bX(h: ¬(20≤a∧a<40))(e:(nd G t2).ev loc σ=some (.d (.int a),DD)):(nd G (.mk 14 50 [Dp 20,t2,Dp 40])).ev loc σ=some (.d (.bool false),DD):=by
 by_cases h1:20≤a
 ·exact K3 Fu e (show some (decide ((20:Int)≤a))=some true by (exact C9 (decide_eq_true h1) rfl)) Fu (show some (decide (a<(40:Int)))=some false by (exact C9 (decide_eq_false λw=>h ⟨h1,w⟩) rfl))
 ·exact Vp Fu e (show some (decide ((20:Int)≤a))=some false by (exact C9 (decide_eq_false h1) rfl))
def U(ks:List Int)(vs:List D)(K dp:Nat)(v x:D):Prop:= ∀n keep σ sh tr fl t,Sh σ sh ks vs tr fl t→K≤n→(DZ n).call keep 46 [sh, .d v, .d (.int dp)] σ=some (.d x,σ)
theorem U.up{K':Nat}(h:U ks vs K dp v x)(e:K≤K'):U ks vs K' dp v x:=λn keep σ sh tr fl t H hn=>h n keep σ sh tr fl t H (Υ e hn)
theorem WU(h1:20≤a)(h2:a<40):U ks vs 1 dp (ref a) (.nd .tup [.sym 148, .int a]):=λn keep σ sh tr fl t H hn=>by
 refine DQ (Ey (a:=0) 1 hn) λm Ff O=> ?_;subst Ff;obtain ⟨hi,ha,ht,WD,hr,Fy⟩:=H;apply DW rfl rfl
 cell_ask ⟨@RI,iU h1 h2,aI⟩
theorem dV(h: ¬(20≤a∧a<40)):U ks vs 1 0 (ref a) (.nd .tup [.sym 148, .int 0]):=λn keep σ sh tr fl t H hn=>by
 refine DQ (Ey (a:=0) 1 hn) λm Ff O=> ?_;subst Ff;obtain ⟨hi,ha,ht,WD,hr,Fy⟩:=H;apply DW rfl rfl
 cell_ask ⟨@RI,bX h,aI⟩
theorem kF(h: ¬(20≤a∧a<40))(e:EF ks vs a=some v)(hu:U ks vs K dp v x):U ks vs (K+1) (dp+1) (ref a) x:=λn keep σ sh tr fl t H hn=>by
 refine DQ (Ey 1 hn) λm Ff hm=> ?_;subst Ff;have c:=hu m false σ sh tr fl t H hm;have e0:(((dp+1:Nat):Int) - ((1:Nat):Int))=dp:=by lia
 have c':(DZ m).call false 46 [sh, .d v, .d (.int (((dp+1:Nat):Int) - ((1:Nat):Int)))] σ=some (.d x,σ):=by exact C9 e0 c
 obtain ⟨hi,ha,ht,WD,hr,Fy⟩:=H;have hk:(!Dm (ks.map .i) (.i a))=false:=by exact C9 (WZ e) rfl
 have PD:(false== !Dm (ks.map .i) (.i a))=true:=by exact C9 (WZ e) rfl
 have z:FJ σ 0 (.d (.int ((dp+1:Nat):Int))) (.d (.int ((0:Nat):Int)))=some false:=by
  show some (Ti (.int ((dp+1:Nat):Int)) (.int ((0:Nat):Int)))=_;exact congrArg some (show μ (dp+1) 0=false from rfl)
 apply DW rfl rfl
 cell_ask ⟨@RI,bX h,@Ga⟩
theorem V4{i:Int}:U ks vs 3 dp (.int i) (.nd .tup [.sym 75, .int i]):=λn keep σ sh tr fl t H hn=>by
 refine DQ (Ey (a:=0) 3 hn) λm Ff hm=> ?_;subst Ff;apply DW rfl rfl
 cell_ask ⟨SJ⟩
theorem Vu:U ks vs 3 dp (EM s) (.nd .tup [.sym 99, .sym s]):=λn keep σ sh tr fl t H hn=>by
 refine DQ (Ey (a:=0) 3 hn) λm Ff hm=> ?_;subst Ff;apply DW rfl rfl
 cell_ask ⟨TV⟩
theorem jm(h:DS (U ks vs K dp) l xs):U ks vs (K+1) dp (.nd .lst l) (.nd .lst xs):=λn keep σ sh tr fl t H hn=>by
 refine DQ (Ey 1 hn) λm Ff hm=> ?_;subst Ff;apply DW rfl rfl
 fin2
 refine LA (h.imp λd x e=> ?_);refine EL rfl FE ?_;have c:=e m false σ sh tr fl t H hm
 fin2
 fin2
theorem jd{ys:List D}(hs:ss.length<64)(h:DS (λs y=> ∃v x,y= .nd .tup [.sym s,x]∧DU (ss.map .s) ws (.s s)=some v∧U ks vs K dp v x) (HA Ε ss) ys):U ks vs (K+1) dp (sd ss ws) (.nd .lst ys):=λn keep σ sh tr fl t H hn=>by
 refine DQ (Ey 1 hn) λm Ff hm=> ?_;subst Ff;apply DW rfl rfl
 cell_ask ⟨RG⟩
 refine Hk (h.imp λd x e=> ?_);refine D0 e λv x Gx e1 e2=> ?_;subst Gx;clear e;refine EL rfl FE ?_;have c:=e2 m false σ sh tr fl t H hm
 cell_ask ⟨MH⟩
 fin2
theorem Wn{pl ys:List D}(H:Sh σ sh ks vs tr fl t)(hp:(DZ m).call false 26 [sh] σ=some (.d (.nd .lst pl),σ))(hK:K≤m)(h:DS (λp y=> ∃a hd x,p= .nd (.inst 6) [ref a,hd]∧y= .nd .tup [.int a,x]∧U ks vs K 4 hd x) pl ys):(DZ (m+1)).call keep 47 [sh] σ=some (.d (.nd .lst ys),σ):=by
 apply DW rfl rfl
 fin2
 refine LA (h.imp λd x e=> ?_);refine XN e λa hd x iu bA e2=> ?_;subst iu;subst bA;clear e;refine EL rfl FE ?_;have c:(DZ m).call false 46 [sh, .d hd, .d (.int ((4:Nat):Int))] σ=some (.d x,σ):=e2 m false σ sh tr fl t H hK
 fin2
 fin2
end
end
section
mutual open A
variable{m i dp K:Nat}{v v' x u:D}{s:Nat}{l xs vs D4 ws F8:List D}{ss:List Nat}{ks EZ:List Int}{a b:Int}{Rr:Int→Int→Prop}
inductive R0(Rr:Int→Int→Prop):D→D→Prop
 |int (i:Int):R0 Rr (.int i) (.int i)
 |EM (s:Nat):R0 Rr (EM s) (EM s)
 |ref {a b:Int}:Rr a b→R0 Rr (ref a) (ref b)
inductive R1(Rr:Int→Int→Prop):D→D→Prop
 |of {v v':D}:R0 Rr v v'→R1 Rr v v'
 |lst {l l':List D}:l.length<1000→DS (R0 Rr) l l'→R1 Rr (.nd .lst l) (.nd .lst l')
inductive R2(Rr:Int→Int→Prop):D→D→Prop
 |of {v v':D}:R1 Rr v v'→R2 Rr v v'
 |Dg {ss:List Nat} {ws F8:List D}:ss.length<64→ss.length=ws.length→DS (R1 Rr) ws F8→R2 Rr (sd ss ws) (sd ss F8)
structure jH(ks:List Int)(vs:List D)(EZ:List Int)(D4:List D)(Rr:Int→Int→Prop):Prop where
 r: ∀a b,Rr a b→(20≤a∧a<40∧b=a)∨(¬(20≤a∧a<40)∧ ¬(20≤b∧b<40)∧ ∃v v',EF ks vs a=some v∧EF EZ D4 b=some v'∧R2 Rr v v')
def UU(ks:List Int)(vs:List D)(EZ:List Int)(D4:List D)(K m dp:Nat)(v v':D):Prop:= ∃x,U ks vs K dp v x∧U EZ D4 K dp v' x∧Pl m x
theorem YT{α β γ:Type}{P:α→β→γ→Prop}{l:List α}{l':List β}(h:DS (λa b=> ∃c,P a b c) l l'): ∃m:List γ,DS (λa c=> ∃b,P a b c) l m∧DS (λb c=> ∃a,P a b c) l' m:=by
 induction h with
 |nil=>exact (DM ([]) .nil .nil)
 |cons r _ ih=>refine D3 r λc hc=> ?_;clear r;refine DQ ih λm h1 h2=> ?_;clear ih;exact (DM (c::m) (.cons (EG _ hc) h1) (.cons (EG _ hc) h2))
theorem lj{R:D→D→Prop}{ss:List Nat}: ∀{ws F8:List D} {s:Nat},ss.length=ws.length→DS R ws F8→s∈ss→ ∃v v',DU (ss.map .s) ws (.s s)=some v∧DU (ss.map .s) F8 (.s s)=some v'∧R v v':=by
 induction ss with
 |nil=>intro ws F8 s _ _ h;exact absurd h Γ
 |cons c ss ih=>
  intro ws F8 s hl h hs;cases h with
  |nil=>exact nomatch hl
  | @cons u u' ws F8 r h=>
   show∃v v',cond (μ c s) (some u) (DU (ss.map .s) ws (.s s))=some v∧cond (μ c s) (some u') (DU (ss.map .s) F8 (.s s))=some v'∧R v v'
   cases q:μ c s with
   |true=>exact (EK u u' rfl rfl r)
   |false=>
    rcases ν.mp hs with w|w
    ·rw [w,AH] at q;exact nomatch q
    ·exact ih (AK.inj hl) h w
theorem n6(A:jH ks vs EZ D4 Rr)(dp:Nat):(∀v v',R0 Rr v v'→UU ks vs EZ D4 (3*dp+3) (3*dp+1) dp v v')∧(∀v v',R1 Rr v v'→UU ks vs EZ D4 (3*dp+4) (3*dp+2) dp v v')∧(∀v v',R2 Rr v v'→UU ks vs EZ D4 (3*dp+5) (3*dp+4) dp v v'):=by
 have Tc: ∀{m:Nat} {y z:D},Pl m y→Pl m z→Pl (m+1) (.nd .tup [y,z]):=λhy hz=>J8 λx hx=>by
  rcases ν.mp hx with w|w
  ·exact w▸hy
  ·exact (ς.mp w)▸hz
 have go0: ∀dp,(∀v v',R0 Rr v v'→UU ks vs EZ D4 (3*dp+3) (3*dp+1) dp v v')→(∀v v',R1 Rr v v'→UU ks vs EZ D4 (3*dp+4) (3*dp+2) dp v v')∧(∀v v',R2 Rr v v'→UU ks vs EZ D4 (3*dp+5) (3*dp+4) dp v v'):=λdp h0=>by
  have h1: ∀v v',R1 Rr v v'→UU ks vs EZ D4 (3*dp+4) (3*dp+2) dp v v':=λv v' r=>by
   cases r with
   |of r=>refine ES (h0 _ _ r) λx a b c=> ?_;exact (ED x (a.up (by exact Ac _)) (b.up (by exact Ac _)) (c.up (by exact Ac _)))
   |lst _ r=>
    refine DQ (YT (r.imp λO O w=>h0 _ _ w)) λxs e1 e2=> ?_;exact (ED _ (jm (e1.imp λO O z=>z.elim λO w=>w.1)) (jm (e2.imp λO O z=>z.elim λO w=>w.2.1)) (Tt λx hx=>by refine fc (GG e1 x hx) λO O O O O w=> ?_;exact w))
  refine ⟨h1,λv v' r=> ?_⟩;cases r with
  |of r=>refine ES (h1 _ _ r) λx a b c=> ?_;exact (ED x (a.up (by exact Ac _)) (b.up (by exact Ac _)) (c.up (by exact vn rfl)))
  | @Dg ss ws F8 hs hl r=>
   refine D3 (IY (R:=λs y=> ∃v v' x,y=D.nd .tup [.sym s,x]∧DU (ss.map DO.s) ws (.s s)=some v∧DU (ss.map DO.s) F8 (.s s)=some v'∧U ks vs (3*dp+4) dp v x∧U EZ D4 (3*dp+4) dp v' x∧Pl (3*dp+2) x) (l:=HA Ε ss) λs hm=>by
    refine D0 (lj hl r (LK hm)) λv v' e1 e2 w=> ?_;refine ES (h1 _ _ w) λx a b c=> ?_;exact (Gn (.nd .tup [.sym s,x]) v v' x rfl e1 e2 a b c)) λys hy=> ?_
   exact (ED _ (jd hs (hy.imp λO O z=>by exact Ib z λv v' x e e1 e2 a b c=>(EK v x e e1 a))) (jd hs (hy.imp λO O z=>by exact Ib z λv v' x e e1 e2 a b c=>(EK v' x e e2 b))) (Tt λy hy'=>by
    refine Q9 (GG hy y hy') λs O v v' x e O O O O c=> ?_;exact e▸Tc Fd c))
 induction dp with
 |zero=>
  refine (λh0=>⟨h0,go0 0 h0⟩) λv v' r=> ?_;cases r with
  |int i=>exact (ED _ (V4.up (by exact Ι _)) (V4.up (by exact Ι _)) (Tc Fd Gg))
  |EM s=>exact (ED _ (Vu.up (by exact Ι _)) (Vu.up (by exact Ι _)) (Tc Fd Fd))
  |ref h=>
   rcases A.r _ _ h with ⟨h1,h2,rfl⟩|⟨h1,h2,_⟩
   ·exact (ED _ ((WU h1 h2).up (by exact AB _)) ((WU h1 h2).up (by exact AB _)) (Tc Fd Gg))
   ·exact (ED _ ((dV h1).up (by exact AB _)) ((dV h2).up (by exact AB _)) (Tc Fd Gg))
 |succ dp ih=>
  refine (λh0=>⟨h0,go0 (dp+1) h0⟩) λv v' r=> ?_;cases r with
  |int i=>exact (ED _ (V4.up (by exact ψ _ _)) (V4.up (by exact ψ _ _)) ((Tc Fd Gg).up (m:=1) (by exact AB _)))
  |EM s=>exact (ED _ (Vu.up (by exact ψ _ _)) (Vu.up (by exact ψ _ _)) ((Tc Fd Fd).up (m:=1) (by exact AB _)))
  |ref h=>
   rcases A.r _ _ h with ⟨h1,h2,rfl⟩|⟨h1,h2,w,w',e1,e2,r⟩
   ·exact (ED _ ((WU h1 h2).up (by exact AB _)) ((WU h1 h2).up (by exact AB _)) ((Tc Fd Gg).up (m:=1) (by exact AB _)))
   ·refine ES (ih.2.2 _ _ r) λx a b c=> ?_
    exact (ED x ((kF h1 e1 a).up (by exact Ι _)) ((kF h2 e2 b).up (by exact Ι _)) (c.up (by exact Ι _)))
end
end
section
mutual open A
variable{n m k K:Nat}{σ r:Store}{v v' x u:D}{s:Nat}{l l' vs ws F8 vl:List D}{ss:List Nat}{a b:Int}{T' o:V}{kl:List DO}{lv:List V}{key:DO}
def PT(σ:Store)(t:V)(kl:List DO)(vl:List D):Prop:=GH σ t=some (2,kl,vl.map .d)
theorem Gm(h:GH σ o=some (k,kl,lv)):G4 σ o=some (.Dg k kl,lv):=DA h λq h1 h2=>by
 obtain ⟨hd,ws⟩:=q;cases hd with
 |Dg=>injection h2 with h2;injection h2 with h2 h3;injection h3 with h3 h4;(exact C9 h1<|Dr h4<|Dr h3<|Dr h2 rfl)
 |_=>exact nomatch h2
theorem WH(h:GH σ o=some (k,kl,lv))(e:HG x=some key)(e2:μ key.kind k=true):FJ σ 9 (.d x) o=some (!Dm kl key):=show DN (pR σ (.d x) o) (λr=>some (!r))=_ from DB (show DN (Ix (.d x)) (λx=>DN (G4 σ o) λq=>T9 x q.2 q.1)=_ from DB rfl (DB (Gm h) (show T9 x lv (.Dg k kl)=_ from DB e (D7 e2 rfl)))) rfl
theorem dS(h:GH σ o=some (k,kl,lv))(e:HG x=some key)(e2:μ key.kind k=true):FJ σ 8 (.d x) o=some (Dm kl key):=show DN (Ix (.d x)) (λx=>DN (G4 σ o) λq=>T9 x q.2 q.1)=_ from DB rfl (DB (Gm h) (show T9 x lv (.Dg k kl)=_ from DB e (D7 e2 rfl)))
theorem Qj{w:V}(h:GH σ o=some (k,kl,lv))(e:HG x=some key)(e2:μ key.kind k=true)(e3:DU kl lv key=some w):E9 σ o (.d x)=some w:=show DN (Ix (.d x)) (λx=>DN (G4 σ o) λq=>T2 x q.2 q.1)=_ from DB rfl (DB (Gm h) (show T2 x lv (.Dg k kl)=_ from DB e (D7 e2 e3)))
theorem bg(h:PT σ T' kl vl):FJ σ 9 (.d (.nd .tup [.int a, .int b])) T'=some (!Dm kl (.p a b)):=WH h rfl rfl
theorem pP(h:PT σ T' kl vl)(e:DU kl vl (.p a b)=some v):E9 σ T' (.d (.nd .tup [.int a, .int b]))=some (.d v):=Qj h rfl rfl (En V.d e)
theorem Q3{y:DO}: ∀{kl:List DO} {vs:List D},DU kl vs y=some v→Dm kl y=true:=λ{kl}=>by
 induction kl with
 |nil=>intro vs h;exact nomatch h
 |cons k kl ih=>
  intro vs h;cases vs with
  |nil=>exact nomatch h
  |cons u vs=>
   have h:cond (DO.beq k y) (some u) (DU kl vs y)=some v:=h;show (DO.beq k y||Dm kl y)=true;cases q:DO.beq k y with
   |true=>rfl
   |false=>rw [q] at h;exact ih h
def Rn(kl:List DO)(vl:List D)(K:Nat)(v v':D):Prop:= ∀n σ t,PT σ t kl vl→K≤n→(DZ n).call false 8 [.d v,t] σ=some (.d v',σ)
theorem Rn.up{K':Nat}(h:Rn kl vl K v v')(e:K≤K'):Rn kl vl K' v v':=λn σ t H hn=>h n σ t H (Υ e hn)
theorem Lu:Rn kl vl 2 (.int a) (.int a):=λn σ t H hn=>by
 refine DQ (Ey (a:=0) 2 hn) λm Ff O=> ?_;subst Ff;apply DW rfl rfl
 cell_ask ⟨OY⟩
theorem Zm:Rn kl vl 2 (EM s) (EM s):=λn σ t H hn=>by
 refine DQ (Ey (a:=0) 2 hn) λm Ff O=> ?_;subst Ff;apply DW rfl rfl
 cell_ask ⟨LL⟩
theorem b8(e:DU kl vl (.p a 0)=some (.nd .tup [.int b, .int 0])):Rn kl vl 2 (ref a) (ref b):=λn σ t H hn=>by
 refine DQ (Ey (a:=0) 2 hn) λm Ff O=> ?_;subst Ff;have hk:(!Dm kl (.p a 0))=false:=by exact C9 (Q3 e) rfl
 apply DW rfl rfl
 cell_ask ⟨Kq,HM,bg H,pP H⟩
theorem gP(e:Dm kl (.p a 0)=false):Rn kl vl 2 (ref a) .none:=λn σ t H hn=>by
 refine DQ (Ey (a:=0) 2 hn) λm Ff O=> ?_;subst Ff;have hk:(!Dm kl (.p a 0))=true:=by exact C9 e rfl
 apply DW rfl rfl
 cell_ask ⟨Kq,HM,bg H⟩
theorem Us(h:DS (Rn kl vl (K+1)) l l'):Rn kl vl (K+2) (.nd .lst l) (.nd .lst l'):=λn σ t H hn=>by
 refine DQ (Ey 2 hn) λm Ff hm=> ?_;subst Ff;apply DW rfl rfl
 cell_ask ⟨Ky⟩
 refine LA (h.imp λd x e=> ?_);refine EL rfl FE ?_;have c:=e (m+1) σ t H (by exact Κ hm)
 fin2
 fin2
def FO:List Nat→List D→List Nat
 |s::ss,v::vs=>cond (isNone (.d v)) (FO ss vs) (s::FO ss vs)
 |_,_=> []
def GJ:List D→List D
 | []=> []
 |v::vs=>cond (isNone (.d v)) (GJ vs) (v::GJ vs)
theorem EN{kl:List DO}(h:Dm kl key=false):D2 kl key=kl++ [key]:=by
 induction kl with
 |nil=>rfl
 |cons k kl ih=>
  have h:(DO.beq k key||Dm kl key)=false:=h;rw [AU] at h;show cond (DO.beq k key) (k::kl) (k::D2 kl key)=_;exact C9 h.1<|congrArg (k:: ·) (ih h.2)
theorem Ef{α:Type}{kl:List DO}{x:α}: ∀{vs:List α},Dm kl key=false→kl.length=vs.length→Dz kl vs key x=vs++ [x]:=by
 induction kl with
 |nil=>intro vs _ hl;cases vs with|nil=>rfl|cons=>exact nomatch hl
 |cons k kl ih=>
  intro vs h hl;cases vs with
  |nil=>exact nomatch hl
  |cons v vs=>
   have h:(DO.beq k key||Dm kl key)=false:=h;rw [AU] at h;show cond (DO.beq k key) (x::vs) (v::Dz kl vs key x)=_;exact C9 h.1<|congrArg (v:: ·) (ih h.2 (AK.inj hl))
theorem bD{ss:List Nat}(h:s ∉ ss):Dm (ss.map .s) (.s s)=false:=by
 induction ss with
 |nil=>rfl
 |cons c ss ih=>
  rw [ν,not_or] at h;show (μ c s||Dm (ss.map .s) (.s s))=false;exact C9 (ih h.2)<|C9 (show μ c s=false from by cases q:μ c s with|false=>rfl|true=>exact absurd (AO q).symm h.1) rfl
theorem gV: ∀{ss:List Nat} {ws:List D} {pre:List Nat} {pw:List D},ss.length=ws.length→pre.length=pw.length→(pre++ss).Nodup→FB 1 ((ss.zip ws).map λp=>(.d (.sym p.1), .d p.2)) (pre.map .s,pw.map .d)=some ((pre++ss).map .s,(pw++ws).map .d):=λ{ss}=>by
 induction ss with
 |nil=>intro ws pre pw h _ _;cases ws with|nil=>exact C9 (υ _)<|C9 (υ _) rfl|cons=>exact nomatch h
 |cons s ss ih=>
  intro ws pre pw h h2 nd;cases ws with
  |nil=>exact nomatch h
  |cons w ws=>
   have hs:s ∉ pre:=λz=>by rw [AE] at nd;exact nd.2.2 s z s (.head _) rfl
   have hh:=bD hs;refine (DB (show S5 1 (.d (.sym s)) (.d w) (pre.map .s,pw.map .d)=some ((pre++ [s]).map .s,(pw++ [w]).map .d) from DB rfl (DB rfl (D7 rfl ?_))) (ih (AK.inj h) (by exact C9 ε<|C9 ε<|C9 h2 rfl) (by exact C9 (π _ _ _) nd))).trans ?_
   ·show some (D2 (pre.map .s) (.s s),Dz (pre.map .s) (pw.map V.d) (.s s) (V.d w))=_
    exact C9 (EN hh)<|C9 (Ef hh (by rw [ι,ι];exact h2))<|C9 χ<|C9 χ rfl
   ·exact C9 (π _ _ _)<|C9 (π _ _ _) rfl
theorem YO{l:List (Nat×D)}:Fo σ (l.map λp=>V.d (.nd .tup [.sym p.1,p.2]))=some (l.map λp=>(.d (.sym p.1), .d p.2)):=by
 induction l with
 |nil=>rfl
 |cons p l ih=>exact DB (show Ru σ (V.d (.nd .tup [.sym p.1,p.2]))=some [.d (.sym p.1), .d p.2] from rfl) (DB rfl (DB ih rfl))
theorem TU: ∀{ss:List Nat} {ws:List D},ss.length=ws.length→(FO ss ws).length=(GJ ws).length:=λ{ss}=>by
 induction ss with
 |nil=>intro ws h;cases ws with|nil=>rfl|cons=>exact nomatch h
 |cons s ss ih=>
  intro ws h;cases ws with
  |nil=>exact nomatch h
  |cons w ws=>
   show (cond (isNone (.d w)) (FO ss ws) (s::FO ss ws)).length=(cond (isNone (.d w)) (GJ ws) (w::GJ ws)).length;cases isNone (.d w) with
   |true=>exact ih (AK.inj h)
   |false=>exact congrArg (· +1) (ih (AK.inj h))
theorem Rg: ∀{ss:List Nat} {ws:List D},(FO ss ws).Sublist ss:=λ{ss}=>by
 induction ss with
 |nil=>intro ws;exact List.nil_sublist _
 |cons s ss ih=>
  intro ws;cases ws with
  |nil=>exact List.nil_sublist _
  |cons w ws=>
   show (cond (isNone (.d w)) (FO ss ws) (s::FO ss ws)).Sublist _;cases isNone (.d w) with
   |true=>exact ih.cons _
   |false=>exact ih.cons₂ _
theorem Yo: ∀{ss:List Nat} {ws:List D},((ss.zip ws).filter λp=> !isNone (.d p.2))=(FO ss ws).zip (GJ ws):=λ{ss}=>by
 induction ss with
 |nil=>intro ws;rfl
 |cons s ss ih=>
  intro ws;cases ws with
  |nil=>rfl
  |cons w ws=>
   refine C9 Bh<|C9 Al ?_
   show _=(cond (isNone (.d w)) (FO ss ws) (s::FO ss ws)).zip (cond (isNone (.d w)) (GJ ws) (w::GJ ws));cases h:isNone (.d w) with
   |true=>exact ih
   |false=>exact congrArg ((s,w):: ·) ih
theorem QO: ∀{ss:List Nat} {ws:List D},ss.Nodup→ss.length=ws.length→DS (λs v=>DU (ss.map .s) ws (.s s)=some v) ss ws:=λ{ss}=>by
 induction ss with
 |nil=>intro ws _ h;cases ws with|nil=>exact .nil|cons=>exact nomatch h
 |cons s ss ih=>
  intro ws nd h;cases ws with
  |nil=>exact nomatch h
  |cons w ws=>
   rw [Η] at nd;refine .cons (show cond (μ s s) (some w) _=_ by exact C9 (AH _) rfl) ?_;have h1:=ih nd.2 (AK.inj h)
   have go: ∀{l:List Nat} {m:List D},(∀x∈l,x≠s)→DS (λs v=>DU (ss.map .s) ws (.s s)=some v) l m→DS (λs' v=>DU ((s::ss).map .s) (w::ws) (.s s')=some v) l m:=λ{l m} RP q=>by
    induction q with
    |nil=>exact .nil
    | @cons a b l m r _ ih2=>
     refine .cons ?_ (ih2 λx hx=>RP x (.tail _ hx));show cond (μ s a) (some w) (DU (ss.map .s) ws (.s a))=_;exact C9 (show μ s a=false from by cases q:μ s a with|false=>rfl|true=>exact absurd (AO q).symm (RP a (.head _))) r
   exact go (λx hx z=>nd.1 (z▸hx)) h1
theorem Sg{P:Nat→D→Prop}{Q:D→D→Prop}{ss:List Nat}{ws F8:List D}(h1:DS P ss ws)(h2:DS Q ws F8):DS (λs y=> ∃v v',y=D.nd .tup [.sym s,v']∧P s v∧Q v v') ss ((ss.zip F8).map λp=>D.nd .tup [.sym p.1,p.2]):=by
 induction h1 generalizing F8 with
 |nil=>cases h2;exact .nil
 |cons r _ ih=>cases h2 with|cons q h2=>exact .cons (EK _ _ rfl r q) (ih h2)
theorem R4:FV (.d (sd ss ws)) σ=some (ss.map .sym,σ):=by
 show EI (some (sd ss ws,σ)) _=_;show lift (some ((ss.map DO.s).map DO.d)) σ=_;exact C9 Δ rfl
theorem QP(nd:ss.Nodup)(hl:ss.length=ws.length):Ku σ 1 (.d (.nd .lst ((ss.zip ws).map λp=>D.nd .tup [.sym p.1,p.2])))=some (1,ss.map .s,ws.map .d):=by
 show DN (Fo σ (((ss.zip ws).map λp=>D.nd .tup [.sym p.1,p.2]).map V.d)) (λl=>DN (FB 1 l ([], [])) λr=>some (1,r.1,r.2))=_;refine C9 Δ ?_;exact DB YO (DB (gV (pre:= []) (pw:= []) hl rfl nd) rfl)
def zK:D→D
 | .nd _ [_,b]=>b
 |d=>d
def Zn(d:D):Option V:=cond (isNone (.d (zK d))) none (some (.d d))
theorem iP{l:List (Nat×D)}:(l.map λp=>D.nd .tup [.sym p.1,p.2]).filterMap Zn=((l.filter λp=> !isNone (.d p.2)).map λp=>D.nd .tup [.sym p.1,p.2]).map V.d:=by
 induction l with
 |nil=>rfl
 |cons p l ih=>
  have e:Zn (D.nd .tup [.sym p.1,p.2])=cond (isNone (.d p.2)) none (some (V.d (D.nd .tup [.sym p.1,p.2]))):=rfl;refine C9 Χ<|C9 Al ?_
  cases h:isNone (.d p.2) with
  |true=>exact C9 (List.filterMap_cons_none (e.trans (by rw [h];rfl))) ih
  |false=>exact C9 (List.filterMap_cons_some (e.trans (by rw [h];rfl)))<|congrArg (_:: ·) ih
theorem Zv(nd:ss.Nodup)(hl:ss.length=ws.length)(h:DS (Rn kl vl (K+1)) ws F8)(H:PT σ T' kl vl)(hm:K+1≤m+1){q:Bool}{res:V}{DK:Store}
  (he:D5 q σ.length (σ++ [.lv (.Dg 1 ((FO ss F8).map .s)) ((GJ F8).map .d)]) (.cell (σ.length+0))=some (res,DK)):(DZ (m+2)).call q 8 [.d (sd ss ws),T'] σ=some (res,DK):=by
 have lw:ss.length=F8.length:=hl.trans h.length;have H': ∀r,PT (σ++r) T' kl vl:=λr=>Ji H;have oQ:(FO ss F8).Nodup:=nd.sublist Rg;have l2:=TU (ws:=F8) lw;apply EW rfl rfl
 cell_ask ⟨Kx,R4⟩
 refine Hk ((Sg (QO nd hl) h).imp λs y e=> ?_);refine D0 e λv v' Gx e1 e2=> ?_;subst Gx;clear e;refine EL rfl FE ?_;have c:=e2 (m+1) (σ++ []) T' (H' _) hm
 cell_ask ⟨MH⟩
 fin2
 refine (KN (g:=Zn) λd hd=> ?_).trans (congrArg (λz=>some (z,σ++ [])) (iP.trans (by (exact C9 Yo rfl))));refine DQ (AD.mp hd) λp O Gx=> ?_;subst Gx;cases hn:isNone (.d p.2) with
 |true=>
  have qD:(!isNone (.d p.2))=false:=by exact C9 hn rfl
  show _=some (cond (isNone (.d p.2)) none (some (V.d _)),_);refine C9 hn ?_;refine Mj (DD:=σ++ []) rfl ?_
  fin2
 |false=>
  have qD:(!isNone (.d p.2))=true:=by exact C9 hn rfl
  show _=some (cond (isNone (.d p.2)) none (some (V.d _)),_);refine C9 hn ?_;refine EL (DD:=σ++ []) rfl ?_ ?_
  fin2
 cell_ask ⟨QP oQ l2⟩
theorem Z8(nd:ss.Nodup)(hl:ss.length=ws.length)(h:DS (Rn kl vl (K+1)) ws F8):Rn kl vl (K+2) (sd ss ws) (sd (FO ss F8) (GJ F8)):=λn σ t H hn=>by
 refine DQ (Ey 2 hn) λm Ff hm=> ?_;subst Ff;exact Zv nd hl h H (by exact Κ hm) (MZ (k:=0) rfl)
theorem Ld{h:Hd}(e:r[k]?=some (.lv h (l.map .d)))(hh: ∀c,h≠ .inst c)(hh2:h≠ .tup):D5 true σ.length (σ++r) (.cell (σ.length+k))=some (.cell σ.length,σ++ [.lv h (l.map .d)]):=by
 have b:Ε σ.length (σ.length+k)=true:=ο (Ζ _ _);refine (LY b).trans (DB (HO.trans e) (DB rfl ?_))
 have ad: ∀l:List D,Mq (l.map .d)=some l:=λl=>by
  induction l with
  |nil=>rfl
  |cons d l ih=>exact DB rfl (DB ih rfl)
 cases h with
 |inst c=>exact absurd rfl (hh c)
 |tup=>exact absurd rfl hh2
 |lst=>exact DB (ad l) (by exact C9 (HK _) rfl)
 |Dg=>exact DB (ad l) (by exact C9 (HK _) rfl)
end
end
section
mutual open A
variable{n k i:Nat}{keep:Bool}{σ r:Store}{v v' tr:D}{s:Nat}{l vs ws:List D}{ss:List Nat}{ks ns bs ch:List Int}{a b:Int}{sh t:V}{lv fl:List V}{loc:Di}
abbrev Mg(ks:List Int)(vs:List D):D:= .nd (.Dg 0 (ks.map .i)) (vs.map GP)
abbrev E2(ks:List Int)(vs:List D)(tr:D):D:= .nd (.inst 5) [Mg ks vs,tr]
theorem F4:Sh σ (.d (E2 ks vs tr)) ks vs tr [.d (Mg ks vs), .d tr] (.d (Mg ks vs)):=⟨rfl,rfl,rfl,rfl,rfl,rfl⟩
theorem Nh{fl:List V}(H:Sh σ sh ks vs tr fl t)(e:EF ks vs a=some v):(DZ (n+1)).call keep 27 [sh, .d (.nd .tup [.int a, .int 0])] σ=some (.d (.bool true),σ):=by
 obtain ⟨hi,ha,ht,WD,hr,Fy⟩:=H;have h1:(true==Dm (ks.map .i) (.i a))=true:=by exact C9 (WZ e) rfl
 apply aJ rfl rfl
 cell_ask ⟨@fY,@Ga⟩
inductive J7:D→Prop
 |ref (a:Int):J7 (ref a)
 |EM (s:Nat):J7 (EM s)
 |lst (l:List D):J7 (.nd .lst l)
 |Dg {ss:List Nat} {ws:List D}:E3 ss ws 26= .none→J7 (sd ss ws)
theorem fL(h:J7 v):(DZ (n+2)).call keep 28 [.d v] σ=some (.d (.sym 0),σ):=by
 cases h with
 |ref a=>apply DW rfl rfl;cell_ask ⟨Kq⟩
 |EM s=>apply DW rfl rfl;cell_ask ⟨LL⟩
 |lst l=>apply DW rfl rfl;cell_ask ⟨Ky⟩
 |Dg e=>
  have g: ∀ss ws σ,E3 ss ws 26= .none→GK 65 (.d (sd ss ws)) [.d (.sym 26)] σ=some (.d .none,σ):=λss ws σ e=>e▸Ql;have g:=λσ=>g _ _ σ e;apply DW rfl rfl
  cell_ask ⟨Kx,g⟩
theorem Lx{ss:List Int}(h:a ∉ ss):Dm (ss.map .i) (.i a)=false:=by
 induction ss with
 |nil=>rfl
 |cons c ss ih=>
  rw [ν,not_or] at h;show (DO.beq (.i c) (.i a)||Dm (ss.map .i) (.i a))=false;exact C9 (ih h.2)<|C9 (G6 λw=>h.1 w.symm) rfl
theorem bG: ∀{ss:List Int} {pre:List Int},(pre++ss).Nodup→FB 0 (ss.map λa=>(.d (.int a), .d (.bool true))) (pre.map .i,pre.map λO=>V.d (.bool true))=some ((pre++ss).map .i,(pre++ss).map λO=>V.d (.bool true)):=λ{ss}=>by
 induction ss with
 |nil=>intro pre _;exact C9 (υ _) rfl
 |cons s ss ih=>
  intro pre nd;have hs:s ∉ pre:=λz=>by rw [AE] at nd;exact nd.2.2 s z s (.head _) rfl
  have hh:=Lx hs;refine (DB (show S5 0 (.d (.int s)) (.d (.bool true)) (pre.map .i,pre.map λO=>V.d (.bool true))=some ((pre++ [s]).map .i,(pre++ [s]).map λO=>V.d (.bool true)) from DB rfl (DB rfl (D7 rfl ?_))) (ih (by exact C9 (π _ _ _) nd))).trans ?_
  ·show some (D2 (pre.map .i) (.i s),Dz (pre.map .i) (pre.map λO=>V.d (.bool true)) (.i s) (V.d (.bool true)))=_
   exact C9 (EN hh)<|C9 (Ef hh (by rw [ι,ι]))<|C9 χ<|C9 χ rfl
  ·exact C9 (π _ _ _) rfl
theorem Zh(nd:ns.Nodup):Ku σ 0 (.d (.nd .lst (ns.map λa=>D.nd .tup [.int a, .bool true])))=some (0,ns.map .i,ns.map λO=>V.d (.bool true)):=by
 have ps:Fo σ ((ns.map λa=>D.nd .tup [.int a, .bool true]).map V.d)=some (ns.map λa=>(.d (.int a), .d (.bool true))):=by
  clear nd
  induction ns with
  |nil=>rfl
  |cons a l ih=>exact DB (show Ru σ (V.d (.nd .tup [.int a, .bool true]))=some [.d (.int a), .d (.bool true)] from rfl) (DB rfl (DB ih rfl))
 show DN (Fo σ ((ns.map λa=>D.nd .tup [.int a, .bool true]).map V.d)) (λl=>DN (FB 0 l ([], [])) λr=>some (0,r.1,r.2))=_;exact DB ps (DB (bG (pre:= []) nd) rfl)
inductive l7(ks:List Int)(vs:List D):Int→List Int→Prop
 |stop {a:Int} {v:D} {k:Nat}:EF ks vs a=some v→La [] (.d v)=some k→ME k 14=false→l7 ks vs a [a]
 |PN {a b:Int} {ch:List Int}:EF ks vs a=some (ref b)→l7 ks vs b ch→l7 ks vs a (a::ch)
theorem Vg{fl:List V}(H:Sh σ sh ks vs tr fl t)(C:l7 ks vs a ch): ∀{bs:List Int} {loc:Di} {fuel:Nat},(bs++ch).Nodup→bs.length+ch.length<500→ch.length<fuel→DE loc 133=some sh→DE loc 62=some (.cell (σ.length+0))→DE loc 69=some (.d (ref a))→
  ∃DG,EC (M9 (nd (DZ (n+1)) yY).ev) (nd (DZ (n+1)) xa).ex fuel loc (σ++ [.lv (.Dg 0 (bs.map .i)) (bs.map λO=>V.d (.bool true))])=some (.go 0 DG (σ++ [.lv (.Dg 0 ((bs++ch).map .i)) ((bs++ch).map λO=>V.d (.bool true))]))∧DE DG 62=some (.cell (σ.length+0)):=by
 have T: ∀{a:Int} {v:D} {bs:List Int} {loc:Di},EF ks vs a=some v→a ∉ bs→DE loc 133=some sh→DE loc 62=some (.cell (σ.length+0))→DE loc 69=some (.d (ref a))→(nd (DZ (n+1)) yY).ev loc (σ++ [.lv (.Dg 0 (bs.map .i)) (bs.map λO=>V.d (.bool true))])=some (.d (.bool true),σ++ [.lv (.Dg 0 (bs.map .i)) (bs.map λO=>V.d (.bool true))]):=λ{a v bs loc} e hb l1 l2 l3=>by
  have z:(true== !Dm (bs.map .i) (.i a))=true:=by exact C9 (Lx hb) rfl
  have z2:=Nh (n:=n) (keep:=false) (H.app (r:= [.lv (.Dg 0 (bs.map .i)) (bs.map λO=>V.d (.bool true))])) e
  cell_ask ⟨Wv,HM⟩
 have B: ∀{a:Int} {v:D} {bs:List Int} {loc:Di},EF ks vs a=some v→a ∉ bs→bs.length<1000→DE loc 133=some sh→DE loc 62=some (.cell (σ.length+0))→DE loc 69=some (.d (ref a))→(nd (DZ (n+1)) xa).ex loc (σ++ [.lv (.Dg 0 (bs.map .i)) (bs.map λO=>V.d (.bool true))])=some (.go 0 (DR loc 69 (.d v)) (σ++ [.lv (.Dg 0 ((bs++ [a]).map .i)) ((bs++ [a]).map λO=>V.d (.bool true))])):=λ{a v bs loc} e hb hl l1 l2 l3=>by
  obtain ⟨hi,ha,ht,WD,hr,Fy⟩:=H;have b2:(μ (DO.i a).kind 0&&Μ (bs.map DO.i).length big)=true:=W8 (by exact C9 (ι _) hl);refine HE (s':=σ++ [.lv (.Dg 0 (bs.map .i)) (bs.map λO=>V.d (.bool true))].set 0 (.lv (.Dg 0 (D2 (bs.map .i) (.i a))) (Dz (bs.map .i) (bs.map λO=>V.d (.bool true)) (.i a) (.d (.bool true))))) ?_ ?_
  cell_ask ⟨Em,@Eu,@NM⟩
  exact C9 (EN (Lx hb))<|C9 (Ef (Lx hb) (by rw [ι,ι]))<|C9 χ<|C9 χ rfl
 induction C with
 | @stop a v k e e2 e3=>
  intro bs loc fuel nd hl hf l1 l2 l3;obtain ⟨fuel,rfl⟩: ∃f,fuel=f+2:=(EG (fuel - 2) (by have:1<fuel:=hf;lia));have hb:a ∉ bs:=λz=>by rw [AE] at nd;exact nd.2.2 a z a (.head _) rfl
  have Fy:=H.low;have kd:=WL (σ:=σ++ [.lv (.Dg 0 ((bs++ [a]).map .i)) ((bs++ [a]).map λO=>V.d (.bool true))]) e2;refine (DM _ (JC (T e hb l1 l2 l3) rfl (B e hb (by exact oI hl rfl) l1 l2 l3) rfl (K9 (v':= .d (.bool (ME k 14))) ?_ ?_)) ?_)
  ·have z:(true==ME k 14)=false:=by exact C9 e3 rfl
   fin2
  ·exact C9 e3 rfl
  ·fin2
 | @PN a b ch e C ih=>
  intro bs loc fuel nd hl hf l1 l2 l3;rw [ξ] at hl hf;obtain ⟨fuel,rfl⟩: ∃f,fuel=f+1:=(EG (fuel - 1) (by exact X4 hf));have hb:a ∉ bs:=λz=>by rw [AE] at nd;exact nd.2.2 a z a (.head _) rfl
  have Fy:=H.low;refine DQ (ih (bs:=bs++ [a]) (loc:=Dt (σ++ [Dh.lv (.Dg 0 (bs.map .i)) (bs.map λO=>V.d (.bool true))]).length [] (DR loc 69 (.d (ref b)))) (fuel:=fuel) (by exact C9 (π _ _ _) nd) (by refine C9 ε ?_;show bs.length+1+_<_;exact Tg hl) (by exact AM hf) (by fin2) (by fin2) (by fin2)) λDG e2 l4=> ?_;refine (DM DG (JC (T e hb l1 l2 l3) rfl (B e hb (by exact oI hl rfl) l1 l2 l3) rfl ?_) l4);exact C9 e2<|C9 (π _ _ _) rfl
end
end
section
mutual open A
variable{n k i K:Nat}{σ r:Store}{v x:D}{vs fs:List D}{ks ns bs ch:List Int}{a r0:Int}{sh t:V}{fl:List V}{loc:Di}
abbrev PS(bs:List Int):D:= .nd (.Dg 0 (bs.map .i)) (bs.map λO=> .bool true)
abbrev Fv(r0:Int):D:=sd [18] [ref r0]
theorem Xq{fl:List V}(H:Sh σ sh ks vs (Fv r0) fl t)(h: ∀r,(DZ (n+5)).call false 23 [sh] (σ++r)=some (.d (.nd .lst fs),σ++r))(hs: ∀d∈fs,mB ks vs d)(hn:fs.map bL=ns)(C:l7 ks vs r0 ch)(nd:(ns++ch).Nodup)(hl:ns.length+ch.length<500):(DZ (n+6)).call false 29 [sh] σ=some (.d (PS (ns++ch)),σ):=by
 have gp: ∀r,GK 65 (.d (Fv r0)) [.d (.sym 18)] (σ++r)=some (.d (ref r0),σ++r):=λr=>Ql;have r8:ns.Nodup:=(AE.mp nd).1;have H':=H;refine DQ (Vg (n:=n+4) (loc:=DR (DR [(133,sh)] 62 (.cell (σ.length+0))) 69 (.d (ref r0))) (fuel:=SE) H' C nd hl (show ch.length<2000 by exact zZ hl rfl) (by fin2) (by fin2) (by fin2)) λDG e l1=> ?_;obtain ⟨hi,ha,ht,WD,hr,Fy⟩:=H;apply EW rfl rfl
 cell_ask ⟨h⟩
 refine (KN (g:=λd=>some (.d (.nd .tup [.int (bL d), .bool true]))) λd hd=> ?_).trans (congrArg (λz=>some (z,σ++ [])) (show fs.filterMap _=(ns.map λa=>D.nd .tup [.int a, .bool true]).map V.d from ?_))
 ·cases hs d hd with
  |pg P=>refine EL (DD:=σ++ []) rfl FE ?_;fin2
  |nd P=>refine EL (DD:=σ++ []) rfl FE ?_;fin2
 ·refine Dr hn<|C9 Δ<|C9 Δ ?_
  exact congrFun (BU (f:=λd=>V.d (.nd .tup [.int (bL d), .bool true]))) _
 cell_ask ⟨Zh r8,@Eu,gp⟩
 exact MZ (k:=0) (fl:=(ns++ch).map λO=> .bool true) (by exact C9 Δ rfl)
theorem YH{d:D}(h:(DZ n).call false 29 [sh] σ=some (.d d,σ)):(DZ (n+1)).call false 30 [sh] σ=some (.d d,σ):=by
 apply DW rfl rfl
 fin2
structure Zd where
 fk:List DO
 fv:List D
 tk:List DO
 tv:List D
def ZZ(z:Zd)(a:Int)(x:D):Zd:=match DU z.fk z.fv (.t (FX x)) with
 |some y=>{z with tk:=D2 z.tk (.p a 0),tv:=Dz z.tk z.tv (.p a 0) y}
 |none=>{z with fk:=D2 z.fk (.t (FX x)),fv:=Dz z.fk z.fv (.t (FX x)) (.nd .tup [.int a, .int 0])}
def Te:List (Int×Option D)→Zd→Zd
 | [],z=>z
 |(a,some x)::r,z=>Te r (ZZ z a x)
 |(_,none)::r,z=>Te r z
inductive Yu(ks:List Int)(vs:List D)(bs:List Int)(K:Nat):Int×Option D→Prop
 |skip {a:Int} {v:D}:EF ks vs a=some v→a∈bs→Yu ks vs bs K (a,none)
 |see {a:Int} {v:D} {x':List D}:a ∉ bs→EF ks vs a=some v→J7 v→G5 K v (.nd .tup x')→PC (.nd .tup x')=some (.d (.str (FX (.nd .tup x'))))→Yu ks vs bs K (a,some (.nd .tup x'))
end
end
section
mutual open A
variable{n m k i K q:Nat}{keep:Bool}{σ r:Store}{v x u tr:D}{vs:List D}{ks bs:List Int}{a b:Int}{sh t w:V}{kl:List DO}{lv fl:List V}{key:DO}{loc:Di}{h:Hd}
theorem PW(e:r[k]?=some (.lv (.Dg q kl) lv)):GH (σ++r) (.cell (σ.length+k))=some (q,kl,lv):=DB (G0 e) rfl
theorem cv(e:r[k]?=some (.lv (.Dg q kl) lv))(e1:HG x=some key)(e2:μ key.kind q=true)(e3:DU kl lv key=some w):E9 (σ++r) (.cell (σ.length+k)) (.d x)=some w:=Qj (PW e) e1 e2 e3
theorem JX(h:a∈bs):Dm (bs.map .i) (.i a)=true:=by
 induction bs with
 |nil=>exact absurd h Γ
 |cons c bs ih=>
  show (DO.beq (.i c) (.i a)||Dm (bs.map .i) (.i a))=true;rcases ν.mp h with w|w
  ·exact C9 w<|C9 (show DO.beq (.i c) (.i c)=true from GY c) rfl
  ·(exact C9 (ih w)<|C9 (Be _) rfl)
theorem W4{B:Bool}(e:Dm (bs.map .i) (.i a)=B):FJ σ 8 (.d (.int a)) (.d (PS bs))=some B:=e▸dS (k:=0) (kl:=bs.map .i) (lv:=(bs.map λO=>D.bool true).map .d) rfl rfl rfl
theorem Lg{key:DO}: ∀{kl:List DO} {vs:List D},kl.length=vs.length→DU kl vs key=none→Dm kl key=false:=λ{kl}=>by
 induction kl with
 |nil=>intro vs _ _;rfl
 |cons k kl ih=>
  intro vs hl h;cases vs with
  |nil=>exact nomatch hl
  |cons u vs=>
   have h:cond (DO.beq k key) (some u) (DU kl vs key)=none:=h;show (DO.beq k key||Dm kl key)=false;cases q:DO.beq k key with
   |true=>rw [q] at h;exact nomatch h
   |false=>rw [q] at h;exact C9 (ih (AK.inj hl) h) rfl
theorem Ih{α:Type}{key:DO}{x:α}: ∀{kl:List DO} {vs:List α},kl.length=vs.length→(D2 kl key).length=(Dz kl vs key x).length:=λ{kl}=>by
 induction kl with
 |nil=>intro vs h;cases vs with|nil=>rfl|cons=>exact nomatch h
 |cons k kl ih=>
  intro vs h;cases vs with
  |nil=>exact nomatch h
  |cons u vs=>
   show (cond (DO.beq k key) (k::kl) (k::D2 kl key)).length=(cond (DO.beq k key) (x::vs) (u::Dz kl vs key x)).length;cases DO.beq k key with
   |true=>exact h
   |false=>exact congrArg (· +1) (ih (AK.inj h))
theorem IA{α β:Type}(f:α→β){key:DO}{x:α}: ∀{kl:List DO} {vs:List α},Dz kl (vs.map f) key (f x)=(Dz kl vs key x).map f:=λ{kl}=>by
 induction kl with
 |nil=>intro vs;cases vs<;>rfl
 |cons k kl ih=>
  intro vs;cases vs with
  |nil=>rfl
  |cons u vs=>
   show cond (DO.beq k key) (f x::vs.map f) (f u::Dz kl (vs.map f) key (f x))=(cond (DO.beq k key) (x::vs) (u::Dz kl vs key x)).map f;cases DO.beq k key with
   |true=>rfl
   |false=>exact congrArg (f u:: ·) ih
abbrev cells(z:Zd):Store:= [.lv (.Dg 3 z.fk) (z.fv.map .d), .lv (.Dg 2 z.tk) (z.tv.map .d)]
structure iZ(z:Zd)(j:Nat):Prop where
 f:z.fk.length=z.fv.length
 t:z.tk.length=z.tv.length
 b1:z.fk.length+j<1000
 b2:z.tk.length+j<1000
structure TwL(loc:Di)(n:Nat)(sh:V)(bs:List Int):Prop where
 a:DE loc 133=some sh
 b:DE loc 61=some (.cell (n+0))
 c:DE loc 144=some (.cell (n+1))
 d:DE loc 136=some (.d (PS bs))
theorem iZ.step{z:Zd}{j:Nat}(h:iZ z (j+1))(a:Int)(x:D):iZ (ZZ z a x) j:=by
 obtain ⟨h1,h2,h3,h4⟩:=h;unfold ZZ;cases DU z.fk z.fv (.t (FX x)) with
 |some y=>exact ⟨h1,Ih h2,by show z.fk.length+j<1000;exact Aa h3,by have:=JH (kl:=z.tk) (x:= .p a 0);show (D2 z.tk (.p a 0)).length+j<1000;exact oJ h4 this⟩
 |none=>exact ⟨Ih h1,h2,by have:=JH (kl:=z.fk) (x:= .t (FX x));show (D2 z.fk (.t (FX x))).length+j<1000;exact oJ h3 this,by show z.tk.length+j<1000;exact Aa h4⟩
theorem Eo{key:DO}{q j:Nat}(h:j<1000)(e:μ key.kind q=true):(μ key.kind q&&Μ j big)=true:=by
 refine C9 e ?_;exact ο (show j+1≤1000000 by exact ZI h rfl)
theorem gh{fl:List V}(H:Sh σ sh ks vs tr fl t): ∀{rows:List (Int×Option D)} {z:Zd} {loc:Di},(∀p∈rows,Yu ks vs bs K p)→K≤n→2≤n→iZ z rows.length→TwL loc σ.length sh bs→
  ∃DG,El (nd (DZ n) Tm5).ex 103 (rows.map λp=> .int p.1) loc (σ++cells z)=some (.go 0 DG (σ++cells (Te rows z)))∧DE DG 144=some (.cell (σ.length+1)):=λ{rows}=>by
 induction rows with
 |nil=>intro z loc _ _ _ _ L;exact (DM loc rfl L.c)
 |cons p rows ih=>
  intro z loc hr hn xF hz L;have hp:=hr p (.head _);have rM: ∀p∈rows,Yu ks vs bs K p:=λp h=>hr p (.tail _ h);obtain ⟨la,lb,lc,ld⟩:=id L;have H':=H;obtain ⟨hi,ha,ht,WD,qK,Fy⟩:=H;cases hp with
  | @skip a v e hb=>
   have Oj: ∀σ,FJ σ 8 (.d (.int a)) (.d (PS bs))=some true:=λσ=>W4 (JX hb);refine DQ (ih (z:=z) (loc:=Dt (σ++cells z).length [] (DR (DR (DR loc 103 (.d (.int a))) 158 (.d v)) 64 (.d (.int 0)))) rM hn xF ⟨hz.f,hz.t,by have:=hz.b1;rw [ξ] at this;exact Aa this,by have:=hz.b2;rw [ξ] at this;exact Aa this⟩ ⟨by fin2,by fin2,by fin2,by fin2⟩) λDG e2 l2=> ?_;refine (DM DG ?_ l2);refine Z2 (c:=2) (r:=cells z) (r':=cells z) ?_ (.inr rfl) rfl e2
   cell_ask ⟨@Eu,@NM,Oj⟩
  | @see a v x' hb e nw td rp=>
   refine DQ (Ey (a:=0) 2 xF) λm Ff O=> ?_;subst Ff;have Oj: ∀σ,FJ σ 8 (.d (.int a)) (.d (PS bs))=some false:=λσ=>W4 (Lx hb);have c:=λσ=>td (m+2) false σ hn;have wn:=λσ=>fL (n:=m) (keep:=false) (σ:=σ) nw;have rp': ∀σ,Fj σ 8 (.d (.nd .tup x'))=some (.d (.str (FX (.nd .tup x')))):=λσ=>rp;have wJ:=hz.step a (.nd .tup x');obtain ⟨z1,z2,z3,z4⟩:=id hz;rw [ξ] at z3 z4;refine DQ (ih (z:=ZZ z a (.nd .tup x')) (loc:=Dt (σ++cells z).length [] (DR (DR (DR (DR loc 103 (.d (.int a))) 158 (.d v)) 64 (.d (.int 0))) 81 (.d (.str (FX (.nd .tup x')))))) rM hn xF wJ ⟨by fin2,by fin2,by fin2,by fin2⟩) λDG e2 l2=> ?_;refine (DM DG ?_ l2);refine EX (r:=cells z) (r':=cells (ZZ z a (.nd .tup x'))) ?_ rfl e2;cases hk:DU z.fk z.fv (.t (FX (.nd .tup x'))) with
   |some y=>
    have k1:=Q3 hk;have k2:=En V.d hk;have k3:=Eo (key:= .p a 0) (q:=2) (j:=z.tk.length) (by exact PU z4) rfl;refine HE (s':=σ++(cells z).set 1 (.lv (.Dg 2 (D2 z.tk (.p a 0))) (Dz z.tk (z.tv.map .d) (.p a 0) (.d y)))) ?_ ?_
    cell_ask ⟨@Eu,@NM,Oj,wn,c,rp',VJ,cv,Em⟩
    refine C9 (IA V.d) ?_;unfold ZZ;exact C9 hk rfl
   |none=>
    have k1:=Lg z1 hk;have k3:=Eo (key:= .t (FX (.nd .tup x'))) (q:=3) (j:=z.fk.length) (by exact PU z3) rfl;refine HE (s':=σ++(cells z).set 0 (.lv (.Dg 3 (D2 z.fk (.t (FX (.nd .tup x'))))) (Dz z.fk (z.fv.map .d) (.t (FX (.nd .tup x'))) (.d (.nd .tup [.int a, .int 0]))))) ?_ ?_
    cell_ask ⟨@Eu,@NM,Oj,wn,c,rp',VJ,Em⟩
    refine C9 (IA V.d) ?_;unfold ZZ;exact C9 hk rfl
theorem eN{fl:List V}{rows:List (Int×Option D)}(H:Sh σ sh ks vs tr fl t)(hl:ks.length<64)(hs: ∀r,(DZ (n+7)).call false 30 [sh] (σ++r)=some (.d (PS bs),σ++r))(hr: ∀p∈rows,Yu ks vs bs K p)(he:rows.map (·.1)=HA I9 ks)(hK:K≤n+7):(DZ (n+8)).call false 39 [sh] σ=some (.d (.nd (.Dg 2 (Te rows ⟨[], [], [], []⟩).tk) (Te rows ⟨[], [], [], []⟩).tv),σ):=by
 have nu:=λr=>Gc (n:=n+6) (keep:=false) (H.app (r:=r)) hl;have Eb:rows.length<64:=by exact Dr (ι (f:=(·.1)))<|C9 he<|C9 NB hl
 refine DQ (gh (n:=n+7) (z:=⟨[], [], [], []⟩) (loc:=DR (DR (DR [(133,sh)] 61 (.cell (σ.length+0))) 144 (.cell (σ.length+1))) 136 (.d (PS bs))) H hr hK (by exact ψ _ _) ⟨rfl,rfl,show 0+_<_ by exact ZV Eb rfl,show 0+_<_ by exact ZV Eb rfl⟩ ⟨by fin2,by fin2,by fin2,by fin2⟩) λDG e l1=> ?_;have e0:rows.map (λp=>D.int p.1)=(HA I9 ks).map .int:=by exact Dr he<|C9 Δ rfl
 rw [e0] at e;obtain ⟨hi,ha,ht,WD,qK,Fy⟩:=H;apply EW rfl rfl
 cell_ask ⟨@Gq,hs,nu⟩
 exact e
 fin2
 exact MZ (k:=1) (r:=cells (Te rows ⟨[], [], [], []⟩)) (fl:=(Te rows ⟨[], [], [], []⟩).tv) rfl
end
end
section
mutual open A
variable{n k i K q:Nat}{keep:Bool}{σ r:Store}{v v' x u tr:D}{l vs tv:List D}{ss:List Nat}{ks dn:List Int}{a b:Int}{t w:V}{kl tk:List DO}{lv:List V}{key:DO}{loc:Di}{h:Hd}
theorem ND{body:Ex}{x:Nat}{v:D}{l:List D}{DG:Di}{out:Option HW}{r' yw:Store}(h:body (DR loc x (.d v)) (σ++r)=some (.go 0 DG (σ++(r'++yw))))(e:r'.length=r.length)(k:El body x l (Dt (σ++r).length [] DG) (σ++r')=out):El body x (v::l) loc (σ++r)=out:=VR h (.inl rfl) (by exact C9 (tE e) k)
def YV(tk:List DO)(tv:List D)(a:Int):D:=(DU tk tv (.p a 0)).getD (.nd .tup [.int a, .int 0])
theorem UI{α β:Type}(f:α→β){key:DO}: ∀{kl:List DO} {vs:List α},DU kl vs key=none→DU kl (vs.map f) key=none:=λ{kl}=>by
 induction kl with
 |nil=>intro vs _;rfl
 |cons k kl ih=>
  intro vs h;cases vs with
  |nil=>rfl
  |cons u vs=>
   have h:cond (DO.beq k key) (some u) (DU kl vs key)=none:=h;show cond (DO.beq k key) _ (DU kl (vs.map f) key)=none;cases z:DO.beq k key with
   |true=>rw [z] at h;exact nomatch h
   |false=>rw [z] at h;exact ih h
theorem pY:GK 65 (.d (.nd (.Dg 2 tk) tv)) [.d (.nd .tup [.int a, .int 0]), .d (.nd .tup [.int a, .int 0])] σ=some (.d (YV tk tv a),σ):=by
 show lift (cA σ (.d (.nd (.Dg 2 tk) tv)) [.d (.nd .tup [.int a, .int 0]), .d (.nd .tup [.int a, .int 0])]) σ=_;refine Ec ?_;show some ((DU tk (tv.map V.d) (.p a 0)).getD (.d (.nd .tup [.int a, .int 0])))=_;unfold YV;cases q:DU tk tv (.p a 0) with
 |some v=>exact C9 (En V.d q) rfl
 |none=>exact C9 (UI V.d q) rfl
theorem ug:Jt σ 65 (.d (.nd (.Dg 2 tk) tv))=true:=rfl
theorem i8{ss:List Int}(h:a ∉ ss):Dm (ss.map λa=>DO.p a 0) (.p a 0)=false:=by
 induction ss with
 |nil=>rfl
 |cons c ss ih=>
  rw [ν,not_or] at h;show (DO.beq (.p c 0) (.p a 0)||Dm (ss.map λa=>DO.p a 0) (.p a 0))=false
  (refine C9 (ih h.2)<|C9 (show DO.beq (.p c 0) (.p a 0)=false from by
   cases q:DO.beq (.p c 0) (.p a 0) with
   |false=>rfl
   |true=>exact absurd (ER (band q).1) λw=>h.1 w.symm) ?_);rfl
theorem eZ:FV (.d (Mg ks vs)) σ=some (ks.map .int,σ):=by
 show lift (some ((ks.map DO.i).map DO.d)) σ=_;exact C9 Δ rfl
abbrev I4(tk:List DO)(tv:List D)(dn:List Int):Dh:= .lv (.Dg 2 (dn.map λa=> .p a 0)) (dn.map λa=>V.d (YV tk tv a))
theorem U3: ∀{l:List Int} {dn:List Int} {loc:Di},(dn++l).Nodup→dn.length+l.length<1000→(∀a∈l,∃v,EF ks vs a=some v)→DE loc 95=some (.d (E2 ks vs tr))→DE loc 144=some (.d (.nd (.Dg 2 tk) tv))→DE loc 100=some (.cell (σ.length+0))→
  ∃DG,El (nd (DZ n) Tm6).ex 103 (l.map .int) loc (σ++ [I4 tk tv dn])=some (.go 0 DG (σ++ [I4 tk tv (dn++l)]))∧ ∀x v,DE loc x=some v→μ 103 x=false→μ 111 x=false→FP (σ.length+1) v=false→DE DG x=some v:=λ{l}=>by
 induction l with
 |nil=>intro dn loc _ _ _ _ _ _;exact (DM loc (by exact C9 (υ _) rfl) (λx v h O O O=>h))
 |cons a l ih=>
  intro dn loc nd hl ht l1 l2 l3;rw [ξ] at hl;refine D3 (ht a (.head _)) λv e=> ?_;have hb:a ∉ dn:=λz=>by rw [AE] at nd;exact nd.2.2 a z a (.head _) rfl
  have hn:(σ++ [I4 tk tv dn]).length=σ.length+1:=ε;have ue: ∀σ,E9 σ (.d (Mg ks vs)) (.d (.int a))=some (.d (GP v)):=λσ=>Ga (σ:=σ) (t:= .d (Mg ks vs)) rfl e;have k3:=Eo (key:= .p a 0) (q:=2) (j:=(dn.map λa=>DO.p a 0).length) (by exact C9 (ι _)<|PU hl) rfl;refine DQ (ih (dn:=dn++ [a]) (loc:=Dt (σ++ [I4 tk tv dn]).length [] (DR (DR loc 103 (.d (.int a))) 111 (.d (.nd .tup [.int a, .int 0])))) (by exact C9 (π _ _ _) nd) (by refine C9 ε ?_;show dn.length+1+_<_;exact Tg hl) (λb hb=>ht b (.tail _ hb)) (by fin2) (by fin2) (by fin2)) λDG e2 keep=> ?_;refine (DM DG ?_ (λx w h1 h2 h3 h4=>keep x w (D9 (DH h3 (DH h2 h1)) (by exact C9 hn h4)) h2 h3 h4));refine C9 (show dn++a::l=dn++ [a]++l from AJ dn a l) ?_;refine EX (r':= [I4 tk tv (dn++ [a])]) ?_ rfl e2;refine HE (s':=σ++ [I4 tk tv dn].set 0 (.lv (.Dg 2 (D2 (dn.map λa=> .p a 0) (.p a 0))) (Dz (dn.map λa=> .p a 0) (dn.map λa=>V.d (YV tk tv a)) (.p a 0) (.d (YV tk tv a))))) ?_ ?_
  cell_ask ⟨ue,ug,pY,Em⟩
  refine C9 (EN (i8 hb))<|C9 (Ef (i8 hb) (by rw [ι,ι])) ?_
  show _=σ++ [Dh.lv (.Dg 2 ((dn++ [a]).map λa=>DO.p a 0)) ((dn++ [a]).map λa=>V.d (YV tk tv a))];exact C9 χ<|C9 χ rfl
def kR:List (Int×Option D)→List Int
 | []=> []
 |(a,some _)::r=>a::kR r
 |(_,none)::r=>kR r
def vR:List (Int×Option D)→List D
 | []=> []
 |(_,some v)::r=>v::vR r
 |(_,none)::r=>vR r
inductive oL(ks:List Int)(vs:List D)(tk:List DO)(tv:List D)(K:Nat):Int×Option D→Prop
 |out {a:Int} {v:D}:EF ks vs a=some v→Dm tk (.p a 0)=true→oL ks vs tk tv K (a,none)
 |«in» {a:Int} {v v':D}:EF ks vs a=some v→Dm tk (.p a 0)=false→Rn (ks.map λa=> .p a 0) (ks.map (YV tk tv)) K v v'→oL ks vs tk tv K (a,some v')
theorem eT:FJ σ 9 (.d (.nd .tup [.int a, .int 0])) (.d (.nd (.Dg 2 tk) tv))=some (!Dm tk (.p a 0)):=WH (k:=2) (kl:=tk) (lv:=tv.map .d) rfl rfl rfl
abbrev Dk(lk:List Int)(lv:List D):Dh:= .lv (.Dg 0 (lk.map .i)) ((lv.map GP).map .d)
theorem Yt(hK:K≤n): ∀{rows:List (Int×Option D)} {dk:List Int} {dv:List D} {loc:Di},(dk++rows.map (·.1)).Nodup→dk.length=dv.length→dk.length+rows.length<1000→(∀p∈rows,oL ks vs tk tv K p)→DE loc 95=some (.d (E2 ks vs tr))→DE loc 144=some (.d (.nd (.Dg 2 tk) tv))→DE loc 100=some (.cell (σ.length+0))→DE loc 91=some (.cell (σ.length+1))→
  ∃DG,El (nd (DZ n) Tm7).ex 103 (rows.map λp=> .int p.1) loc (σ++ [I4 tk tv ks,Dk dk dv])=some (.go 0 DG (σ++ [I4 tk tv ks,Dk (dk++kR rows) (dv++vR rows)]))∧ ∀x v,DE loc x=some v→μ 103 x=false→μ 64 x=false→μ 158 x=false→FP (σ.length+2) v=false→DE DG x=some v:=λ{rows}=>by
 induction rows with
 |nil=>intro dk dv loc _ _ _ _ _ _ _ _;exact (DM loc (by exact C9 (show kR []= [] from rfl)<|C9 (show vR []= [] from rfl)<|C9 (υ _)<|C9 (υ _) rfl) (λx v h O O O O=>h))
 |cons p rows ih=>
  intro dk dv loc Fl Eb hl hr l1 l2 l3 l4;rw [ξ] at hl;have hp:=hr p (.head _);have rM: ∀p∈rows,oL ks vs tk tv K p:=λp h=>hr p (.tail _ h);have hn:(σ++ [I4 tk tv ks,Dk dk dv]).length=σ.length+2:=ε;have pt:PT (σ++ [I4 tk tv ks,Dk dk dv]) (.cell (σ.length+0)) (ks.map λa=> .p a 0) (ks.map (YV tk tv)):=(PW (k:=0) rfl).trans (by exact C9 Δ rfl);rw [Χ] at Fl;cases hp with
  | @out a v e hk=>
   have ue: ∀σ,E9 σ (.d (Mg ks vs)) (.d (.int a))=some (.d (GP v)):=λσ=>Ga (σ:=σ) (t:= .d (Mg ks vs)) rfl e;have k1:(!Dm tk (.p a 0))=false:=by exact C9 hk rfl
   refine DQ (ih (dk:=dk) (dv:=dv) (loc:=Dt (σ++ [I4 tk tv ks,Dk dk dv]).length [] (DR (DR (DR loc 103 (.d (.int a))) 158 (.d v)) 64 (.d (.int 0)))) (Fl.sublist (List.Sublist.append_left (List.sublist_cons_self _ _) _)) Eb (by exact Aa hl) rM (by fin2) (by fin2) (by fin2) (by fin2)) λDG e2 keep=> ?_;refine (DM DG ?_ (λx w h1 h2 h3 h4 h5=>keep x w (D9 (DH h3 (DH h4 (DH h2 h1))) (by exact C9 hn h5)) h2 h3 h4 h5));refine EX (r':= [I4 tk tv ks,Dk dk dv]) ?_ rfl e2
   cell_ask ⟨ue,eT⟩
  | @«in» a v v' e hk rn=>
   have ue: ∀σ,E9 σ (.d (Mg ks vs)) (.d (.int a))=some (.d (GP v)):=λσ=>Ga (σ:=σ) (t:= .d (Mg ks vs)) rfl e;have k1:(!Dm tk (.p a 0))=true:=by exact C9 hk rfl
   have c:=rn n _ _ pt hK;have hb:a ∉ dk:=λz=>by rw [AE] at Fl;exact Fl.2.2 a z a (.head _) rfl
   have k3:=Eo (key:= .i a) (q:=0) (j:=(dk.map DO.i).length) (by exact C9 (ι _)<|PU hl) rfl;refine DQ (ih (dk:=dk++ [a]) (dv:=dv++ [v']) (loc:=Dt (σ++ [I4 tk tv ks,Dk dk dv]).length [] (DR (DR (DR loc 103 (.d (.int a))) 158 (.d v)) 64 (.d (.int 0)))) (by exact C9 (π _ _ _) Fl) (by exact C9 ε<|C9 ε<|C9 Eb rfl) (by refine C9 ε ?_;show dk.length+1+_<_;exact Tg hl) rM (by fin2) (by fin2) (by fin2) (by fin2)) λDG e2 keep=> ?_;refine (DM DG ?_ (λx w h1 h2 h3 h4 h5=>keep x w (D9 (DH h3 (DH h4 (DH h2 h1))) (by exact C9 hn h5)) h2 h3 h4 h5));refine C9 (show dk++kR ((a,some v')::rows)=dk++ [a]++kR rows from AJ dk a _)<|C9 (show dv++vR ((a,some v')::rows)=dv++ [v']++vR rows from AJ dv v' _) ?_
   refine EX (r':= [I4 tk tv ks,Dk (dk++ [a]) (dv++ [v'])]) ?_ rfl e2;refine HE (s':=σ++ [I4 tk tv ks,Dk dk dv].set 1 (.lv (.Dg 0 (D2 (dk.map .i) (.i a))) (Dz (dk.map .i) ((dv.map GP).map .d) (.i a) (.d (GP v'))))) ?_ ?_
   cell_ask ⟨ue,eT,Em⟩
   refine C9 (EN (Lx hb))<|C9 (Ef (Lx hb) (by rw [ι,ι,ι];exact Eb)) ?_
   show _=σ++ [I4 tk tv ks,Dh.lv (.Dg 0 ((dk++ [a]).map .i)) (((dv++ [v']).map GP).map .d)];exact C9 χ<|C9 χ<|C9 χ rfl
end
end
section
mutual open A
variable{n k i K:Nat}{keep:Bool}{σ r:Store}{v x tr IF y:D}{s:Nat}{l l' vs ws tv:List D}{ks dn:List Int}{a:Int}{sh t:V}{tk tk2:List DO}{lv fl:List V}{loc:Di}{h:Hd}{rows:List (Int×Option D)}
theorem zw{d2:D}{h':Hd}(ds:List D)(e:r[k]?=some (.lv h (ds.map .d))):Df false h' [.cell (σ.length+k), .d d2] (σ++r)=some (.d (.nd h' [.nd h ds,d2]),σ++r.set k (.fz (.nd h ds))):=show EI (HS (Hz FZ) _ _) (λds σ=>some (V.d (.nd h' ds),σ))=_ from DJ (XQ e (OV rfl)) rfl
theorem Sv{i:Nat}:(DZ (n+1)).init 5 [.cell i, .d (.nd h l)] σ=some ([.cell i, .d (.nd h l)],σ):=rfl
theorem RT{h':Hd}:(DZ (n+1)).init 5 [.d (.nd h' l'), .d (.nd h l)] σ=some ([.d (.nd h' l'), .d (.nd h l)],σ):=rfl
theorem aX(hT:(DZ n).call false 39 [.d (E2 ks vs tr)] σ=some (.d (.nd (.Dg 2 tk) []),σ))(l1:DE loc 95=some (.d (E2 ks vs tr))):(nd (DZ n) zu).ex loc σ=some (.ret (.d (E2 ks vs tr)) σ):=by
 fin2
theorem vM(hT: ∀r,(DZ (n+1)).call false 39 [.d (E2 ks vs tr)] (σ++r)=some (.d (.nd (.Dg 2 tk) (y::tv)),σ++r))(l1:DE loc 95=some (.d (E2 ks vs tr)))(hl:ks.length<64)(nd:ks.Nodup)(hk: ∀a∈ks,∃v,EF ks vs a=some v)(hr: ∀p∈rows,oL ks vs tk (y::tv) K p)(he:rows.map (·.1)=HA I9 ks)(r8:(HA I9 ks).Nodup)(hK:K≤n+1)(qK:Rn (ks.map λa=> .p a 0) (ks.map (YV tk (y::tv))) K tr IF)(qV: ∃ks ws,IF=sd ks ws)(keepL: ∀x v,DE loc x=some v→x≠95→True):
  ∃DG,(Mine.Internal.nd (DZ (n+1)) zu).ex loc (σ++ [])=some (.go 0 DG (σ++([]++ [I4 tk (y::tv) ks, .fz (Mg (kR rows) (vR rows))])))∧DE DG 95=some (.d (E2 (kR rows) (vR rows) IF)):=by
 refine HY qV λts tw Gx=> ?_;subst Gx;clear qV;have Eb:rows.length<64:=by exact Dr (ι (f:=(·.1)))<|C9 he<|C9 NB hl
 refine DQ (U3 (n:=n+1) (σ:=σ) (tk:=tk) (tv:=y::tv) (ks:=ks) (vs:=vs) (tr:=tr) (l:=ks) (dn:= []) (loc:=DR (DR loc 144 (.d (.nd (.Dg 2 tk) (y::tv)))) 100 (.cell (σ.length+0))) nd (show 0+_<_ by exact ZV hl rfl) hk (by fin2) (by fin2) (by fin2)) λJ' e1 k1=> ?_;have m1:=k1 95 (.d (E2 ks vs tr)) (by fin2) rfl rfl rfl;have m2:=k1 144 (.d (.nd (.Dg 2 tk) (y::tv))) (by fin2) rfl rfl rfl;have m3:=k1 100 (.cell (σ.length+0)) (by fin2) rfl rfl (by fin2);refine DQ (Yt (n:=n+1) (σ:=σ) (tr:=tr) (dk:= []) (dv:= []) (loc:=DR J' 91 (.cell (σ.length+1))) hK (by exact C9 he r8) rfl (show 0+_<_ by exact ZV Eb rfl) hr (by fin2) (by fin2) (by fin2) (by fin2)) λI7 e2 k2=> ?_;have p1:=k2 95 (.d (E2 ks vs tr)) (by fin2) rfl rfl rfl rfl;have p3:=k2 100 (.cell (σ.length+0)) (by fin2) rfl rfl rfl (by fin2);have p4:=k2 91 (.cell (σ.length+1)) (by fin2) rfl rfl rfl (by fin2);have nu: ∀r,(DZ (n+1)).call false 14 [.d (E2 ks vs tr)] (σ++r)=some (.d (.nd .lst ((HA I9 ks).map .int)),σ++r):=λr=>Gc F4 hl;have e0:rows.map (λp=>D.int p.1)=(HA I9 ks).map .int:=by exact Dr he<|C9 Δ rfl
 rw [e0] at e2;have pt: ∀c,PT (σ++ [I4 tk (y::tv) ks,c]) (.cell (σ.length+0)) (ks.map λa=> .p a 0) (ks.map (YV tk (y::tv))):=λc=>(PW (k:=0) rfl).trans (by exact C9 Δ rfl);have c:=λz=>qK (n+1) _ _ (pt z) hK;apply Rm
 cell_ask ⟨hT,eZ⟩
 exact e1
 cell_ask ⟨nu⟩
 exact e2
 cell_ask ⟨c,Sv,zw ((vR rows).map GP)⟩
 exact Da
theorem WQ(h:Tb σ t ks vs):Ku σ n t=some (0,ks.map .i,(vs.map GP).map .d):=DB (Gm h) (D7 rfl rfl)
theorem eJ(h:Tb σ t ks vs):Fj σ 0 t=some (.d (.int ks.length)):=by
 refine DB (Gm h) (DB (a:=ks.length) ?_ rfl);show F9 (np 0) (some (ks.map DO.i).length)=_;exact C9 (ι _) rfl
theorem Ki{j:Nat}(h:j<1000):FU 0 ((j:Nat):Int)=some (HH 0 j):=by
 have s:small ((j:Nat):Int)=true:=by
  show (decide _&&decide _)=true;rw [decide_eq_true (by exact AP _),decide_eq_true (by lia)];rfl
 show F9 (small 0&&small (j:Int)&&Ε ((j:Int) - 0).toNat big) (some (HH 0 ((j:Int) - 0).toNat))=_;have e:((j:Int) - 0).toNat=j:=by exact rfl
 rw [s,e];exact D7 (ο (show j≤1000000 by exact QB h rfl)) rfl
theorem Sz{fl:List V}{ts:List Nat}{tw:List D}(H:Sh σ sh ks vs (sd ts tw) fl t)(hl:ks.length<64)(hT: ∀σ,(DZ (n+1)).call false 39 [.d (E2 ks vs (sd ts tw))] σ=some (.d (.nd (.Dg 2 tk) []),σ)):(DZ (n+2)).call keep 40 [sh] σ=some (.d (E2 ks vs (sd ts tw)),σ):=by
 obtain ⟨hi,ha,ht,WD,qK,Fy⟩:=H;have rg:FU 0 ((ks.length:Int)+((1:Nat):Int))=some (.int 0::HH (0+1) ks.length):=Ki (j:=ks.length+1) (by exact Lf hl rfl);apply DW rfl rfl
 cell_ask ⟨@WQ,Jk,RT,@eJ⟩
 exact QF (aX (hT σ) (by fin2))
 fin2
theorem Ui{fl:List V}{ts:List Nat}{tw:List D}(H:Sh σ sh ks vs (sd ts tw) fl t)(h0:0<ks.length)(hl:ks.length<64)(hT: ∀σ,(DZ (n+1)).call false 39 [.d (E2 ks vs (sd ts tw))] σ=some (.d (.nd (.Dg 2 tk) (y::tv)),σ))(Fl:ks.Nodup)(hk: ∀a∈ks,∃v,EF ks vs a=some v)(hr: ∀p∈rows,oL ks vs tk (y::tv) K p)(he:rows.map (·.1)=HA I9 ks)(r8:(HA I9 ks).Nodup)(hK:K≤n+1)(qK:Rn (ks.map λa=> .p a 0) (ks.map (YV tk (y::tv))) K (sd ts tw) (sd ts tw))
  (hT2: ∀σ,(DZ (n+1)).call false 39 [.d (E2 (kR rows) (vR rows) (sd ts tw))] σ=some (.d (.nd (.Dg 2 tk2) []),σ)):(DZ (n+2)).call false 40 [sh] σ=some (.d (E2 (kR rows) (vR rows) (sd ts tw)),σ):=by
 refine wr λZ0 z0=> ?_;obtain ⟨hi,ha,ht,WD,htr2,Fy⟩:=H;obtain ⟨j,hj⟩: ∃j,ks.length=j+1:=(EG (ks.length - 1) (by exact X4 h0));have rg:FU 0 ((ks.length:Int)+((1:Nat):Int))=some (.int 0:: .int (0+1)::HH (0+1+1) j):=(Ki (j:=ks.length+1) (by exact Lf hl rfl)).trans (by exact C9 hj rfl);refine DQ (vM (n:=n) (σ:=σ) (loc:=DR (DR [(133,sh)] 95 (.d (E2 ks vs (sd ts tw)))) 88 (.d (.int 0))) (λr=>hT (σ++r)) (by fin2) hl Fl hk hr he r8 hK qK (TM _ _ rfl) λO O O O=>trivial) λJ' e1 l1=> ?_;refine z0 ?_;have ht': ∀r,Tb (σ++r) t ks vs:=λr=>Ji ht;have dt:=λr=>WQ (n:=1) (ht' r);have lt:=λr=>eJ (ht' r);apply EW rfl rfl
 cell_ask ⟨@Eu,dt,Jk,RT,lt⟩
 exact ND (r':= []) e1 rfl (QF (aX (hT2 _) (DH rfl (D9 l1 rfl))))
 fin2
 exact Pd _
end
end
section
mutual open A
variable{n k i q at_:Nat}{keep:Bool}{σ DT r:Store}{v' x:D}{s:Nat}{vs ws:List D}{cl:List Int}{a b:Int}{w:V}{lv:List V}{loc:Di}{h:Hd}{B:Bool}{d:D}
theorem ny(h:decide (b<a)=B):FJ σ 4 (.d (.int a)) (.d (.int b))=some B:=h▸rfl
theorem gC(h:decide (b≤a)=B):FJ σ 5 (.d (.int a)) (.d (.int b))=some B:=h▸rfl
theorem Uf(h:decide (a<b)=B):FJ σ 2 (.d (.int a)) (.d (.int b))=some B:=h▸rfl
theorem PF(h:(!Dj b 0)=true):M0 4 (.d (.int a)) (.d (.int b))=some (.d (.int (a.fmod b))):=show DN (DN (F9 (!Dj b 0) (some (a.fmod b))) _) _=_ by exact C9 h rfl
theorem V2(h:(!Dj b 0&&small b)=true):M0 3 (.d (.int a)) (.d (.int b))=some (.d (.int (a.fdiv b))):=show DN (DN (F9 (!Dj b 0&&small b) (some (a.fdiv b))) _) _=_ by exact C9 h rfl
theorem Ra(h:(small a&&small b)=true):M0 2 (.d (.int a)) (.d (.int b))=some (.d (.int (a*b))):=show DN (DN (F9 (small a&&small b) (some (a*b))) _) _=_ by exact C9 h rfl
theorem WK:M0 0 (.d (.int a)) (.d (.int b))=some (.d (.int (a+b))):=rfl
theorem qv:M0 1 (.d (.int a)) (.d (.int b))=some (.d (.int (a - b))):=rfl
theorem K2(h1: -1000000≤a)(h2:a≤1000000):small a=true:=by
 show (decide _&&decide _)=true;exact C9 (decide_eq_true (by lia))<|C9 (decide_eq_true (by lia)) rfl
theorem jb(h:0<b):(!Dj b 0)=true:=by
 cases q:Dj b 0 with
 |false=>rfl
 |true=>have:=ER q;lia
theorem OO(e:r[k]?=some (.lv .lst lv))(e2:qO lv a=some w):E9 (σ++r) (.cell (σ.length+k)) (.d (.int a))=some w:=show DN (Ix (.d (.int a))) (λx=>DN (G4 _ _) λq=>T2 x q.2 q.1)=_ from DB rfl (DB (G0 e) (show T2 (.int a) lv .lst=_ from DB rfl e2))
theorem Nf{ws:List V}(e:r[k]?=some (.lv .lst lv))(e2:nS lv x a=some ws):GO (σ++r) (.cell (σ.length+k)) (.d (.int a)) (.d x)=some (σ++r.set k (.lv .lst ws)):=kZ e (DB rfl (DB e2 rfl))
theorem V5(h:at_<cl.length):E9 σ (.d (.nd .lst (cl.map .int))) (.d (.int (at_:Int)))=some (.d (.int (cl.getD at_ 0))):=by
 show ((cl.map D.int).map V.d)[at_]?=_;exact C9 (Ay)<|C9 (Ay)<|C9 (Τ h)<|C9 (A9)<|C9 (Τ h) rfl
theorem Qf:Fj σ 0 (.d (.nd .lst (cl.map .int)))=some (.d (.int cl.length)):=by
 show some (V.d (.int (((cl.map D.int).map V.d).length:Nat)))=_
 (exact C9 (ι _)<|C9 (ι _) rfl)
theorem GL(h:DT.length=σ.length):D5 keep σ.length DT (.d d)=some (.d d,DT):=by show some (V.d d,DT.take σ.length)=_;(exact Dr h<|C9 AS rfl)
theorem Gj{n i a df:Nat}{ps:List Nat}{ts:List T}{vs:List V}{v' r':V}{s DK:Store}(h1:fns[i]?=some ⟨a,ps,df,ts⟩)(h2:bindArgs ps vs df=some loc)(h3:KY (DZ n) ts loc σ=some (.ret v' s))(h4:D5 keep σ.length s v'=some (r',DK)):(DZ (n+1)).call keep i vs σ=some (r',DK):=Y1 h1 h2 h3 h4
abbrev Dw(cl:List Int)(at_:Nat)(q:Int):Dh:= .lv .lst [.d (.nd .lst (cl.map .int)), .d (.int at_), .d (.int q)]
theorem Gy{q:Int}{many:Nat}(hc:cl.length<64)(ha:at_<1000)(hq:0≤q)(hm:0<many)(hm2:many<1000): ∃(z:Nat) (at':Nat) (q':Int),z<many∧at'≤at_+1∧0≤q'∧ ∀n keep,(DZ (n+1)).call keep 42 [.cell (σ.length+0), .d (.int many)] (σ++Dw cl at_ q::r)=some (.d (.int z),σ++Dw cl at' q'::r):=by
 have m0:(!Dj (many:Int) 0)=true:=jb (by exact rQ hm);have m1:(!Dj (many:Int) 0&&small (many:Int))=true:=by exact C9 m0<|C9 (K2 (by exact AP _) (by lia)) rfl
 have md: ∀a:Int,∃z:Nat,a.fmod many=z∧z<many:=λa=>by
  have h1:=Int.fmod_nonneg_of_pos a (b:=many) (by exact rQ hm);have h2:=Int.fmod_lt_of_pos a (b:=many) (by exact rQ hm);exact (DM ((a.fmod many).toNat) (by lia) (by lia))
 by_cases q0:0<q
 ·refine DQ (md q) λz e hz=> ?_
  have g:=ny (σ:=σ++Dw cl at_ q::r) (a:=q) (b:=((0:Nat):Int)) (decide_eq_true q0);refine (Ea z at_ (q.fdiv many) hz (Ac _) (Int.fdiv_nonneg hq (by exact AP _)) (λn keep=> ?_));refine Dr e ?_;apply Gj rfl rfl
  cell_ask ⟨OO,PF m0,V2 m1,Nf⟩
  exact GL (by exact C9 ε<|C9 ε rfl)
 ·have q1:q=0:=by lia
  subst q1;have hs:small (at_:Int)=true:=K2 (by exact zqO rfl) (by lia);have ms:(small (at_:Int)&&small (at_:Int))=true:=by exact C9 hs rfl
  have ms2:(small ((10:Nat):Int)&&small (at_:Int))=true:=by rw [hs];rfl
  have d6:(!Dj ((6:Nat):Int) 0&&small ((6:Nat):Int))=true:=rfl
  by_cases hb:cl.length≤at_
  ·have g:=λσ=>gC (σ:=σ) (a:=(at_:Int)) (b:=(cl.length:Int)) (decide_eq_true (by lia))
   cases cl with
   |nil=>
    refine DQ (md (10*at_+(at_*at_:Int).fdiv 6+1)) λz e hz=> ?_;refine (Ea z (at_+1) 0 hz (Ι _) (Int.le_refl _) (λn keep=> ?_));refine Dr e ?_;apply Gj rfl rfl
    cell_ask ⟨OO,PF m0,V2 d6,Ra ms,Ra ms2,WK,Nf⟩
    exact GL (by exact C9 ε<|C9 ε rfl)
   |cons c cl=>
    have hl:at_ % (c::cl).length<(c::cl).length:=Nat.mod_lt _ (BD _)
    have nm: ∀σ,E9 σ (.d (.nd .lst ((c::cl).map .int))) (.d (.int ((at_:Int).fmod ((c::cl).length:Int))))=some (.d (.int ((c::cl).getD (at_ % (c::cl).length) 0))):=λσ=>by
     refine C9 (show (at_:Int).fmod ((c::cl).length:Int)=((at_ % (c::cl).length:Nat):Int) from (Int.fmod_eq_emod_of_nonneg _ (by exact AP _)).trans rfl) ?_;exact V5 hl
    have ln:(!Dj ((c::cl).length:Int) 0)=true:=jb (by refine C9 ξ ?_;lia);refine DQ (md (10*at_+(at_*at_:Int).fdiv 6+(c::cl).getD (at_ % (c::cl).length) 0)) λz e hz=> ?_;refine (Ea z (at_+1) 0 hz (Ι _) (Int.le_refl _) (λn keep=> ?_));refine Dr e ?_;apply Gj rfl rfl
    cell_ask ⟨OO,Qf,nm,g,PF m0,PF ln,V2 d6,Ra ms,Ra ms2,WK,Nf⟩
    exact GL (by exact C9 ε<|C9 ε rfl)
  ·have gw:at_<cl.length:=by exact Nat.not_le.mp hb
   have g:=λσ=>gC (σ:=σ) (a:=(at_:Int)) (b:=(cl.length:Int)) (decide_eq_false (by exact zsr hb));have nm: ∀σ,E9 σ (.d (.nd .lst (cl.map .int))) (.d (.int (at_:Int)))=some (.d (.int (cl.getD at_ 0))):=λσ=>V5 gw
   by_cases hg:((cl.getD at_ 0).natAbs:Int)<(10:Int)^18
   ·have g2:=λσ=>Uf (σ:=σ) (decide_eq_true hg)
    refine DQ (md (cl.getD at_ 0)) λz e hz=> ?_;refine (Ea z (at_+1) 0 hz (Ι _) (Int.le_refl _) (λn keep=> ?_));refine Dr e ?_;apply Gj rfl rfl
    cell_ask ⟨OO,Qf,nm,g,g2,PF m0,WK,Nf⟩
    exact GL (by exact C9 ε<|C9 ε rfl)
   ·have g2:=λσ=>Uf (σ:=σ) (decide_eq_false hg)
    refine DQ (md (((cl.getD at_ 0).natAbs:Int) - (10:Int)^18)) λz e hz=> ?_;refine (Ea z (at_+1) ((((cl.getD at_ 0).natAbs:Int) - (10:Int)^18).fdiv many) hz (Ι _) (Int.fdiv_nonneg (by lia) (by exact AP _)) (λn keep=> ?_));refine Dr e ?_;apply Gj rfl rfl
    cell_ask ⟨OO,Qf,nm,g,g2,PF m0,V2 m1,WK,qv,Nf⟩
    exact GL (by exact C9 ε<|C9 ε rfl)
end
end
section
mutual open A
variable{n i j at_:Nat}{keep:Bool}{σ DT r:Store}{x:D}{s:Nat}{ws F8:List D}{ss NT:List Nat}{cl:List Int}{b q:Int}{lv:List V}{key:DO}{h:Hd}{d:D}
theorem QV(hi:i<σ.length)(h:DT.length=σ.length):D5 keep σ.length DT (.cell i)=some (.cell i,DT):=by
 have b:Ε σ.length i=false:=by
  cases q:Ε σ.length i with
  |false=>rfl
  |true=>exact absurd (φ q) (by exact Nat.not_le.mpr hi)
 show (match Ε σ.length i with|false=>some (V.cell i,DT.take σ.length)|true=>_)=_;refine C9 b<|Dr h ?_
 show some (V.cell i,DT.take DT.length)=_
 (exact C9 AS rfl)
inductive Ty(s:Nat)(ss:List Nat)(ws:List D):List Nat→List D→Prop
 |no:Ty s ss ws ss ws
 |EM:Ty s ss ws (ss++ [26]) (ws++ [EM s])
 |ref:Ty s ss ws (ss++ [26]) (ws++ [ref (if s=13 then 60 else 61)])
theorem LX(hs:s ∉ ss)(hl:ss.length=ws.length):(Dh.lv (.Dg 1 (D2 (ss.map .s) (.s s))) (Dz (ss.map .s) (ws.map .d) (.s s) (.d x)))= .lv (.Dg 1 ((ss++ [s]).map .s)) ((ws++ [x]).map .d):=by
 exact C9 (EN (bD hs))<|C9 (Ef (bD hs) (by rw [ι,ι];exact hl))<|C9 χ<|C9 χ rfl
theorem OE{q:Int}(hc:cl.length<64)(ha:at_<999)(hq:0≤q)(hs:s=13∨s=14)(wA:26 ∉ ss)(hl:ss.length=ws.length)(sO:ss.length<100): ∃(at':Nat) (q':Int) (NT:List Nat) (F8:List D),at'≤at_+1∧0≤q'∧Ty s ss ws NT F8∧
  ∀n,(DZ (n+2)).call false 43 [.cell (σ.length+0), .cell (σ.length+(r.length+1)), .d (.sym s)] (σ++Dw cl at_ q::(r++ [.lv (.Dg 1 (ss.map .s)) (ws.map .d)]))=some (.cell (σ.length+(r.length+1)),σ++Dw cl at' q'::(r++ [.lv (.Dg 1 (NT.map .s)) (F8.map .d)])):=by
 refine Do (Gy (σ:=σ) (r:=r++ [.lv (.Dg 1 (ss.map .s)) (ws.map .d)]) (many:=3) hc (by exact Az ha:at_<1000) hq (by exact AB _) (by exact ψ _ _)) λz at' q' hz h1 h2 e=> ?_
 have en: ∀{c:Dh},σ.length+(r.length+1)<(σ++Dw cl at_ q::(r++ [c])).length:=λ{c}=>by
  refine C9 ε<|C9 ξ<|C9 ε ?_;show _<σ.length+(r.length+1+1);exact AF _
 have e2: ∀{c c':Dh} {ca cb:Dh},(σ++ca::(r++ [c])).length=(σ++cb::(r++ [c'])).length:=λ{O O O O}=>by exact C9 ε<|C9 ε<|C9 ξ<|C9 ξ<|C9 ε<|C9 ε rfl
 have gi: ∀{c:Dh} {ca:Dh},(ca::(r++ [c]))[r.length+1]?=some c:=λ{c ca}=>List.getElem?_concat_length
 have si: ∀{c c':Dh} {ca:Dh},(ca::(r++ [c])).set (r.length+1) c'=ca::(r++ [c']):=λ{c c' ca}=>by
  show ca::(r++ [c]).set r.length c'=_;exact C9 (AI _ _ (Ι _))<|C9 (Ai _) rfl
 have bb:=Eo (key:= .s 26) (q:=1) (j:=(ss.map DO.s).length) (by exact C9 (ι _)<|IJ sO rfl) rfl;have e':=λn=>e n false;cases z,hz using YI with
 |h0=>
  refine (FQ at' q' ss ws h1 h2 .no (λn=> ?_));apply Gj rfl rfl
  cell_ask ⟨e'⟩
  exact QV en e2
 |h1=>
  refine (FQ at' q' _ _ h1 h2 .EM (λn=> ?_));rcases hs with rfl|rfl
  all_goals
   apply Gj rfl rfl
   cell_ask ⟨e',Em,gi⟩
   refine C9 si<|C9 (LX wA hl) ?_
   exact QV en e2
 |h2=>
  refine (FQ at' q' _ _ h1 h2 .ref (λn=> ?_));rcases hs with rfl|rfl
  all_goals
   apply Gj rfl rfl
   cell_ask ⟨e',Em,gi⟩
   refine C9 si<|C9 (LX wA hl) ?_
   exact QV en e2
end
end
section
mutual open A
variable{n m k i j at_ N:Nat}{σ r:Store}{v v' x y:D}{s:Nat}{l vs ws F8:List D}{ss NT:List Nat}{ks cl:List Int}{a b q:Int}{t w:V}{lv:List V}{key:DO}{loc:Di}{h:Hd}{d:D}{c1 c2:Dh}
theorem aj:(c1::(r++ [c2]))[r.length+1]?=some c2:=List.getElem?_concat_length
theorem lP{c3:Dh}:(c1::(r++ [c2])).set (r.length+1) c3=c1::(r++ [c3]):=by
 show c1::(r++ [c2]).set r.length c3=_;exact C9 (AI _ _ (Ι _))<|C9 (Ai _) rfl
theorem gx:Df true h lv (σ++c1::r)=some (.cell (σ.length+(r.length+1)),σ++c1::(r++ [.lv h lv])):=ZN (c1::r)
theorem jw(hs:s ∉ ss)(hl:ss.length=ws.length)(hb:ss.length<1000):GO (σ++c1::(r++ [.lv (.Dg 1 (ss.map .s)) (ws.map .d)])) (.cell (σ.length+(r.length+1))) (.d (.sym s)) (.d x)=some (σ++c1::(r++ [.lv (.Dg 1 ((ss++ [s]).map .s)) ((ws++ [x]).map .d)])):=by
 refine (Em aj (ky:= .s s) rfl (Eo (by exact C9 (ι _) hb) rfl)).trans ?_
 (exact C9 lP<|C9 (LX hs hl) rfl)
theorem yT:FV (.cell (σ.length+(r.length+1))) (σ++c1::(r++ [.lv (.Dg 1 (ss.map .s)) (ws.map .d)]))=some (ss.map .sym,σ++c1::(r++ [.fz (sd ss ws)])):=by
 refine DJ ((bx aj).trans (by (exact C9 lP rfl))) ?_;show lift (some ((ss.map DO.s).map DO.d)) _=_;exact C9 Δ rfl
theorem qR(e:DU (ss.map .s) ws (.s s)=some v):E9 (σ++c1::(r++ [.fz (sd ss ws)])) (.cell (σ.length+(r.length+1))) (.d (.sym s))=some (.d v):=by
 have vw:G4 (σ++c1::(r++ [.fz (sd ss ws)])) (.cell (σ.length+(r.length+1)))=some (.Dg 1 (ss.map .s),ws.map .d):=DB (HO.trans aj) rfl;show DN (Ix (.d (.sym s))) (λx=>DN (G4 _ _) λq=>T2 x q.2 q.1)=_;exact DB rfl (DB vw (show T2 (.sym s) (ws.map .d) (.Dg 1 (ss.map .s))=_ from DB rfl (D7 rfl (En V.d e))))
theorem LU(hs:a ∉ ks)(hl:ks.length=vs.length):Dh.lv (.Dg 0 (D2 (ks.map .i) (.i a))) (Dz (ks.map .i) ((vs.map GP).map .d) (.i a) (.d (GP x)))=Dk (ks++ [a]) (vs++ [x]):=by
 show _=Dh.lv (.Dg 0 ((ks++ [a]).map .i)) (((vs++ [x]).map GP).map .d);exact C9 (EN (Lx hs))<|C9 (Ef (Lx hs) (by rw [ι,ι,ι];exact hl))<|C9 χ<|C9 χ<|C9 χ rfl
abbrev HU:D:= .nd .lst [.int 0, .int 0, .int 9, .int 9]
inductive RN:List Nat→List D→Prop
 |plain {ss:List Nat} {ws:List D}:Ty 13 [10] [HU] ss ws→RN ss ws
 |x {ss:List Nat} {ws:List D} {x:Int}:Ty 13 [10] [HU] ss ws→x∈ [1,2,3,30,40,41,42]→RN (ss++ [27]) (ws++ [ref x])
theorem bq(h:Ty s ss ws NT F8)(hl:ss.length=ws.length):NT.length=F8.length∧NT.length≤ss.length+1∧ ∀z∈NT,z∈ss∨z=26:=by
 cases h with
 |no=>exact ⟨hl,Ac _,λz h=> .inl h⟩
 |EM=>exact ⟨by exact C9 ε<|C9 ε<|C9 hl rfl,by exact C9 ε<|Ι _,λz h=>(ω.mp h).imp id ς.mp⟩
 |ref=>exact ⟨by exact C9 ε<|C9 ε<|C9 hl rfl,by exact C9 ε<|Ι _,λz h=>(ω.mp h).imp id ς.mp⟩
structure Zc(loc:Di)(n N:Nat)(kids:V):Prop where
 v:DE loc 159=some (.cell (n+0))
 t:DE loc 144=some (.cell (n+1))
 n:DE loc 101=some (.d (.int N))
 k:DE loc 83=some kids
theorem Xs{q:Int}{m:Store}(hc:cl.length<64)(ha:at_<990)(hq:0≤q):
  ∃(at':Nat) (q':Int) (ss:List Nat) (ws:List D),at'≤at_+3∧0≤q'∧RN ss ws∧ ∀n loc,DE loc 159=some (.cell (σ.length+0))→ ∃DG,KY (DZ (n+2)) [ze,oW] loc (σ++Dw cl at_ q::m)=some (.go 0 DG (σ++Dw cl at' q'::(m++ [.lv (.Dg 1 (ss.map .s)) (ws.map .d)])))∧DE DG 68=some (.cell (σ.length+(m.length+1)))∧(∀x v,DE loc x=some v→μ 68 x=false→DE DG x=some v):=by
 refine wr λZ0 z0=> ?_;refine Gf (OE (σ:=σ) (at_:=at_) (r:=m) (s:=13) (ss:= [10]) (ws:= [HU]) (q:=q) hc (by exact IJ ha rfl) hq (.inl rfl) (by decide) rfl (by decide)) λa1 q1 ss ws g1 g2 ty e1=> ?_;refine Do (Gy (σ:=σ) (r:=m++ [.lv (.Dg 1 (ss.map .s)) (ws.map .d)]) (many:=3) hc (show a1<1000 by exact uF g1 ha rfl) g2 (by exact AB _) (by exact ψ _ _)) λz a2 q2 hz g3 g4 e2=> ?_;have zW:=λn=>e2 n false;refine ET (bq ty rfl) λtl tb tm=> ?_;refine z0 ?_
 by_cases z0:z=0
 ·subst z0
  refine Do (Gy (σ:=σ) (r:=m++ [.lv (.Dg 1 (ss.map .s)) (ws.map .d)]) (many:=7) hc (show a2<1000 by exact zM ha g1 g3 rfl) g4 (by exact AB _) (by exact ψ _ _)) λz3 a3 q3 zF g5 g6 e3=> ?_;have e3':=λn=>e3 n false
  obtain ⟨x,hx,nx⟩: ∃x∈ [(1:Int),2,3,30,40,41,42],∀σ,E9 σ (.d (.nd .tup [.int ((1:Nat):Int), .int ((2:Nat):Int), .int ((3:Nat):Int), .int ((30:Nat):Int), .int ((40:Nat):Int), .int ((41:Nat):Int), .int ((42:Nat):Int)])) (.d (.int z3))=some (.d (.int x)):=by
   cases z3,zF using uf with
   |h0=>exact (DM 1 (by decide) (λO=>rfl))
   |h1=>exact (DM 2 (by decide) (λO=>rfl))
   |h2=>exact (DM 3 (by decide) (λO=>rfl))
   |h3=>exact (DM 30 (by decide) (λO=>rfl))
   |h4=>exact (DM 40 (by decide) (λO=>rfl))
   |h5=>exact (DM 41 (by decide) (λO=>rfl))
   |h6=>exact (DM 42 (by decide) (λO=>rfl))
  have h27:27 ∉ ss:=λh=>by rcases tm _ h with w|w;exact absurd w (by decide);exact absurd w (by decide)
  refine (FQ a3 q3 _ _ (by exact wH g1 g3 g5 rfl) g6 (.x ty hx) (λn loc hv=> ?_));apply Rm
  cell_ask ⟨gx⟩
  exact e1 n;have hb:ss.length<1000:=Ρ tb (by decide)
  cell_ask ⟨zW,e3',nx,jw h27 tl hb⟩
  exact ⟨by fin2,λx v h e=>DH e h⟩
 ·have g: ∀σ,FJ σ 0 (.d (.int (z:Int))) (.d (.int ((0:Nat):Int)))=some false:=λσ=>by
   show some (μ z 0)=_;exact congrArg some (by cases q:μ z 0 with|false=>rfl|true=>exact absurd (AO q) z0)
  refine (FQ a2 q2 _ _ (by exact v9 g1 g3 rfl) g4 (.plain ty) (λn loc hv=> ?_));apply Rm
  cell_ask ⟨gx⟩
  exact e1 n
  cell_ask ⟨zW,g⟩
  exact ⟨by fin2,λx v h e=>DH e h⟩
theorem oN(hl:l.length<1000):M0 0 (.d (.nd .lst [x])) (.d (.nd .lst l))=some (.d (.nd .lst (x::l))):=V8 (by show 1+l.length≤1000000;exact wc hl rfl)
theorem X3{m:Store}{A i:Int}(hl:ss.length=ws.length)(nd:(15::ss).Nodup)(hb:ss.length<100)(Xm:30+i ∉ ks)(Ri:ks.length=vs.length)(PD:ks.length<900)(h1:DE loc 68=some (.cell (σ.length+((Dk ks vs::m).length+1))))(h2:DE loc 38=some (.d (.int A)))(h3:DE loc 44=some (.d (.int i)))(h4:DE loc 144=some (.cell (σ.length+1))):
  KY (DZ (n+2)) [t5] loc (σ++c1::((Dk ks vs::m)++ [.lv (.Dg 1 (ss.map .s)) (ws.map .d)]))=some (.go 0 loc (σ++(c1::Dk (ks++ [30+i]) (vs++ [sd (15::ss) (ref A::ws)])::m++ [.fz (sd ss ws)]))):=by
 have oQ:=(Η.mp nd).2;have hz:((ss.zip ws).map λp=>D.nd .tup [.sym p.1,p.2]).length<1000:=by refine C9 (ι _)<|C9 List.length_zip ?_;lia
 have rows:=Sg (QO oQ hl) (show DS (λa b=>a=b) ws ws from by
  clear hl nd oQ hz
  induction ws with
  |nil=>exact .nil
  |cons w ws ih=>exact .cons rfl ih)
 have dd: ∀σ,Ku σ 1 (.d (.nd .lst (.nd .tup [.sym 15,ref A]::(ss.zip ws).map λp=>D.nd .tup [.sym p.1,p.2])))=some (1,(15::ss).map .s,(ref A::ws).map .d):=λσ=>QP (ss:=15::ss) (ws:=ref A::ws) nd (congrArg (· +1) hl);have bb:=Eo (key:= .i (((30:Nat):Int)+i)) (q:=0) (j:=(ks.map DO.i).length) (by exact C9 (ι _)<|IJ PD rfl) rfl;apply HE
 cell_ask ⟨yT⟩
 refine Hk (rows.imp λs y e=> ?_);refine D0 e λv v' Gx e1 bA=> ?_;subst Gx;subst bA;clear e;refine EL rfl FE ?_
 cell_ask ⟨qR⟩
 fin2
 exact oN hz
 fin2
 exact dd _
 cell_ask ⟨Em⟩
 show σ++(c1::((Dk ks vs::m)++ [.fz (sd ss ws)])).set 1 (.lv (.Dg 0 (D2 (ks.map .i) (.i (30+i)))) (Dz (ks.map .i) ((vs.map GP).map .d) (.i (30+i)) (.d (GP (sd (15::ss) (ref A::ws))))))=_;exact C9 (LU Xm Ri) rfl
end
end
section
mutual open A
variable{n k i K at_ N:Nat}{σ r:Store}{v x y:D}{s:Nat}{l ws:List D}{cl:List Int}{a b q:Int}{kl:List DO}{lv:List V}{loc:Di}{h:Hd}{B:Bool}{d:D}{c1 c2:Dh}{Ks:List (List Int)}
abbrev OT(K:List Int):Dh:= .lv .lst (K.map λa=>V.d (.int a))
def HX(n:Nat):List (List Int)→Store
 | [A]=> [OT A, .lv .tup [.d (.int 20), .cell (n+2)], .lv .lst [.cell (n+3)], .lv (.Dg 0 [.i 20]) [.cell (n+2)]]
 | [A,B]=> [OT A, .lv .tup [.d (.int 20), .cell (n+2)],OT B, .lv .tup [.d (.int 21), .cell (n+4)], .lv .lst [.cell (n+3), .cell (n+5)], .lv (.Dg 0 [.i 20, .i 21]) [.cell (n+2), .cell (n+4)]]
 | [A,B,C]=> [OT A, .lv .tup [.d (.int 20), .cell (n+2)],OT B, .lv .tup [.d (.int 21), .cell (n+4)],OT C, .lv .tup [.d (.int 22), .cell (n+6)], .lv .lst [.cell (n+3), .cell (n+5), .cell (n+7)], .lv (.Dg 0 [.i 20, .i 21, .i 22]) [.cell (n+2), .cell (n+4), .cell (n+6)]]
 |_=> []
def mj:Nat→Nat
 |1=>5
 |2=>7
 |_=>9
def PR(Ks:List (List Int)):Nat:=mj Ks.length
def GS:List (List Int)→Nat→Int→List (List Int)
 | [],_,_=> []
 |K::Ks,0,a=>(K++ [a])::Ks
 |K::Ks,z+1,a=>K::GS Ks z a
def Ip:List (List Int)→Bool
 | [A]=>Μ A.length 100
 | [A,B]=>Μ A.length 100&&Μ B.length 100
 | [A,B,C]=>Μ A.length 100&&(Μ B.length 100&&Μ C.length 100)
 |_=>false
theorem Zf{K:List Int}:Dh.lv .lst ((K.map λa=>V.d (.int a))++ [.d (.int a)])=OT (K++ [a]):=by rw [OT,χ];rfl
theorem PV{G:HL}{t1 t2:T}{r1:Store}{kl:List DO}{cs:List V}{A:List Int}{z q:Nat}{b:Int}(h1:DE loc 83=some (.cell (σ.length+z)))(e1:(nd G t1).ev loc (σ++r)=some (.d (.int b),σ++r1))(e2:(nd G t2).ev loc (σ++r1)=some (.d (.int a),σ++r1))(hd:r1[z]?=some (.lv (.Dg 0 kl) cs))(hl:DU kl cs (.i b)=some (.cell (σ.length+q)))(hk:r1[q]?=some (OT A))(hb:Μ A.length 100=true):
  (nd G (.mk 55 0 [.mk 31 41 [.mk 9 0 [DF 83,t1],t2]])).ex loc (σ++r)=some (.go 0 loc (σ++r1.set q (OT (A++ [a])))):=by
 have b0:(A.map λa=>V.d (.int a)).length+1<big:=by
  have:=φ hb
  refine C9 (ι _) ?_;show _<1000000;exact Lf this rfl
 have e3:E9 (σ++r1) (.cell (σ.length+z)) (.d (.int b))=some (.cell (σ.length+q)):=cv hd rfl rfl hl;have e4:GK 41 (.cell (σ.length+q)) [.d (.int a)] (σ++r1)=some (.d .none,σ++r1.set q (OT (A++ [a]))):=(OW hk b0).trans (by (exact C9 Zf rfl));have e5:=Hn (σ:=σ) hk rfl;have e6:=LM (σ:=σ) hk
 fin2
theorem xo{motive: ∀Ks:List (List Int),Ip Ks=true→Prop}(h1: ∀A (h:Ip [A]=true),motive [A] h)(h2: ∀A B (h:Ip [A,B]=true),motive [A,B] h)(h3: ∀A B C (h:Ip [A,B,C]=true),motive [A,B,C] h): ∀Ks h,motive Ks h
 | [A],h=>h1 A h
 | [A,B],h=>h2 A B h
 | [A,B,C],h=>h3 A B C h
theorem XZ{G:HL}{t1 t2:T}{z:Nat}{qC:Dh}(hz:z<Ks.length)(hK:Ip Ks=true)(h1:DE loc 83=some (.cell (σ.length+PR Ks)))(e1:(nd G t1).ev loc (σ++c1::c2::HX σ.length Ks)=some (.d (.int (20+z)),σ++qC::c2::HX σ.length Ks))(e2:(nd G t2).ev loc (σ++qC::c2::HX σ.length Ks)=some (.d (.int a),σ++qC::c2::HX σ.length Ks)):
  (nd G (.mk 55 0 [.mk 31 41 [.mk 9 0 [DF 83,t1],t2]])).ex loc (σ++c1::c2::HX σ.length Ks)=some (.go 0 loc (σ++qC::c2::HX σ.length (GS Ks z a))):=by
 cases Ks,hK using xo with
 |h1 A hK=>
  have hz:z<1:=hz;cases z,hz using n4 with
  |h0=>exact PV h1 e1 e2 rfl (q:=2) rfl rfl hK
 |h2 A B hK=>
  have hz:z<2:=hz;cases z,hz using gZ with
  |h0=>exact PV h1 e1 e2 rfl (q:=2) rfl rfl (band hK).1
  |h1=>exact PV h1 e1 e2 rfl (q:=4) rfl rfl (band hK).2
 |h3 A B C hK=>
  have hz:z<3:=hz;cases z,hz using YI with
  |h0=>exact PV h1 e1 e2 rfl (q:=2) rfl rfl (band hK).1
  |h1=>exact PV h1 e1 e2 rfl (q:=4) rfl rfl (band (band hK).2).1
  |h2=>exact PV h1 e1 e2 rfl (q:=6) rfl rfl (band (band hK).2).2
theorem n5{c3 c4:Dh}:Df true h lv (σ++ [c1,c2,c3,c4])=some (.cell (σ.length+4),σ++ [c1,c2,c3,c4, .lv h lv]):=ZN [c1,c2,c3,c4]
theorem oK{c3 c4 c5:Dh}:Df true h lv (σ++ [c1,c2,c3,c4,c5])=some (.cell (σ.length+5),σ++ [c1,c2,c3,c4,c5, .lv h lv]):=ZN [c1,c2,c3,c4,c5]
theorem o4{c3 c4 c5 c6:Dh}:Df true h lv (σ++ [c1,c2,c3,c4,c5,c6])=some (.cell (σ.length+6),σ++ [c1,c2,c3,c4,c5,c6, .lv h lv]):=ZN [c1,c2,c3,c4,c5,c6]
theorem mK{c3 c4 c5 c6 c7:Dh}:Df true h lv (σ++ [c1,c2,c3,c4,c5,c6,c7])=some (.cell (σ.length+7),σ++ [c1,c2,c3,c4,c5,c6,c7, .lv h lv]):=ZN [c1,c2,c3,c4,c5,c6,c7]
theorem nF{c3 c4 c5 c6 c7 c8:Dh}:Df true h lv (σ++ [c1,c2,c3,c4,c5,c6,c7,c8])=some (.cell (σ.length+8),σ++ [c1,c2,c3,c4,c5,c6,c7,c8, .lv h lv]):=ZN [c1,c2,c3,c4,c5,c6,c7,c8]
theorem oP{c3 c4 c5 c6 c7 c8 c9:Dh}:Df true h lv (σ++ [c1,c2,c3,c4,c5,c6,c7,c8,c9])=some (.cell (σ.length+9),σ++ [c1,c2,c3,c4,c5,c6,c7,c8,c9, .lv h lv]):=ZN [c1,c2,c3,c4,c5,c6,c7,c8,c9]
theorem V1{α:Type}{f:D→Store→Option (Option α×Store)}{d:D}{dl:List D}{v:α}{ws:List α}{DD DK:Store}(h1:f d σ=some (some v,DD))(h2:EB f dl DD=some (ws,DK)):EB f (d::dl) σ=some (v::ws,DK):=FH h1 h2
theorem VN:Fo σ []=some []:=rfl
theorem Qq{x:V}{y:V}{ps:List (V×V)}{l:List V}(e:r[k]?=some (.lv .tup [x,y]))(h2:Fo (σ++r) l=some ps):Fo (σ++r) (.cell (σ.length+k)::l)=some ((x,y)::ps):=DB (show Ru (σ++r) (.cell (σ.length+k))=some [x,y] from DB (G0 e) (D7 rfl rfl)) (DB rfl (DB h2 rfl))
theorem Q0{ps:List (V×V)}{l:List V}{kv:List DO×List V}(e:r[k]?=some (.lv .lst l))(h1:Fo (σ++r) l=some ps)(h2:FB 0 ps ([], [])=some kv):Ku (σ++r) 0 (.cell (σ.length+k))=some (0,kv.1,kv.2):=DB (G0 e) (show DN (Fo (σ++r) l) (λl=>DN (FB 0 l ([], [])) λr=>some (0,r.1,r.2))=_ from DB h1 (DB h2 rfl))
abbrev M4:Dh:=Dk [60,61] [EM 13,EM 14]
theorem pQ(h:DE loc 101=some (.d (.int 1))):(nd (DZ (n+2)) Yx).ex loc (σ++ [c1,c2])=some (.go 0 (DR loc 83 (.cell (σ.length+5))) (σ++c1::c2::HX σ.length [[]])):=by
 have rv:FU 0 1=some [.int 0]:=rfl;apply HE
 cell_ask ⟨n5,oK,o4,mK,nF,oP,V1,KS,EL,Q0,Qq,VN⟩
theorem lE(h:DE loc 101=some (.d (.int 2))):(nd (DZ (n+2)) Yx).ex loc (σ++ [c1,c2])=some (.go 0 (DR loc 83 (.cell (σ.length+7))) (σ++c1::c2::HX σ.length [[], []])):=by
 have rv:FU 0 2=some [.int 0, .int 1]:=rfl;apply HE
 cell_ask ⟨n5,oK,o4,mK,nF,oP,V1,KS,EL,Q0,Qq,VN⟩
theorem cE(h:DE loc 101=some (.d (.int 3))):(nd (DZ (n+2)) Yx).ex loc (σ++ [c1,c2])=some (.go 0 (DR loc 83 (.cell (σ.length+9))) (σ++c1::c2::HX σ.length [[], [], []])):=by
 have rv:FU 0 3=some [.int 0, .int 1, .int 2]:=rfl;apply HE
 cell_ask ⟨n5,oK,o4,mK,nF,oP,V1,KS,EL,Q0,Qq,VN⟩
inductive Kw:List (List Int)→Prop
 |one:Kw [[]]
 |two:Kw [[21], []]
 |flat:Kw [[21,22], [], []]
 |deep:Kw [[21], [22], []]
theorem KO{x:Option HW}{DG:Di}{s s':Store}(h:x=some (.go 0 DG s'))(e:DG=loc)(e2:s'=s):x=some (.go 0 loc s):=e▸e2▸h
theorem II{G:HL}{q q':Int}{at':Nat}{z jj:Nat}(hz:z<Ks.length)(hK:Ip Ks=true)(h1:DE loc 83=some (.cell (σ.length+PR Ks)))(h2:DE loc 159=some (.cell (σ.length+0)))(e:G.call false 42 [.cell (σ.length+0), .d (.int (jj:Int))] (σ++Dw cl at_ q::c2::HX σ.length Ks)=some (.d (.int z),σ++Dw cl at' q'::c2::HX σ.length Ks)):
  (nd G vQ).ex (DR loc 44 (.d (.int (jj:Int)))) (σ++Dw cl at_ q::c2::HX σ.length Ks)=some (.go 0 (DR loc 44 (.d (.int (jj:Int)))) (σ++Dw cl at' q'::c2::HX σ.length (GS Ks z (20+jj)))):=by
 refine TD (x_go (XZ (qC:=Dw cl at' q') hz hK (DH rfl h1) ?_ ?_) MS)
 fin2
 fin2
theorem iS{q:Int}(hc:cl.length<64)(ha:at_<900)(hq:0≤q): ∃(at':Nat) (q':Int) (N:Nat) (Ks:List (List Int)),at'≤at_+3∧0≤q'∧Kw Ks∧Ks.length=N∧ ∀n,∃DG,KY (DZ (n+2)) [fg,Yx,me] [(159, .cell (σ.length+0))] (σ++ [Dw cl at_ q])=some (.go 0 DG (σ++Dw cl at' q'::M4::HX σ.length Ks))∧Zc DG σ.length N (.cell (σ.length+PR Ks)):=by
 refine Do (Gy (σ:=σ) (at_:=at_) (r:= []) (many:=3) hc (by exact IJ ha rfl) hq (by exact AB _) (by exact ψ _ _)) λz a1 q1 hz g1 g2 e1=> ?_;have vH:=λn=>e1 n false
 have S0: ∀n,(nd (DZ (n+2)) fg).ex [(159, .cell (σ.length+0))] (σ++ [Dw cl at_ q])=some (.go 0 (DR (DR [(159, .cell (σ.length+0))] 144 (.cell (σ.length+1))) 101 (.d (.int (1+z)))) (σ++ [Dw cl a1 q1,M4])):=λn=>by
  apply KO
  cell_ask ⟨vH⟩
 cases z,hz using YI with
 |h0=>
  refine (Il a1 q1 1 ([[]]) (by lia) g2 .one rfl (λn=>(DM _ (x_go (S0 n) (x_go (pQ Da) (x_go (Md (Wg Fu (Fh (DH rfl Da)) (show FU 1 1=some [] from rfl)) Jp) MS))) ?_)));exact ⟨by fin2,by fin2,by (fin2;exact Da;all_goals fin2),by (fin2;exact Da;all_goals fin2)⟩
 |h1=>
  refine Do (Gy (σ:=σ) (r:=M4::HX σ.length [[], []]) (many:=1) hc (show a1<1000 by exact uF g1 ha rfl) g2 (by exact AF _) (by exact ψ _ _)) λz2 a2 q2 zS g3 g4 e2=> ?_;obtain rfl:z2=0:=by exact vt zS
  refine (Il a2 q2 2 ([[21], []]) (by exact v9 g1 g3 rfl) g4 .two rfl (λn=>(DM _ (x_go (S0 n) (x_go (lE Da) (x_go (Md (Wg Fu (Fh (DH rfl Da)) (show FU 1 2=some [.int 1] from rfl)) (EX (r':=Dw cl a2 q2::M4::HX σ.length [[21], []]) (II (jj:=1) (Ks:= [[], []]) (by decide) rfl Da (by fin2) (e2 _ _)) rfl Jp)) MS))) ?_)));exact ⟨by fin2,by fin2,by (fin2;exact Da;all_goals fin2),by (fin2;exact Da;all_goals fin2)⟩
 |h2=>
  refine Do (Gy (σ:=σ) (r:=M4::HX σ.length [[], [], []]) (many:=1) hc (show a1<1000 by exact uF g1 ha rfl) g2 (by exact AF _) (by exact ψ _ _)) λz2 a2 q2 zS g3 g4 e2=> ?_;obtain rfl:z2=0:=by exact vt zS
  refine Do (Gy (σ:=σ) (r:=M4::HX σ.length [[21], [], []]) (many:=2) hc (show a2<1000 by exact zM ha g1 g3 rfl) g4 (by exact Ac _) (by exact ψ _ _)) λz3 a3 q3 zF g5 g6 e3=> ?_;cases z3,zF using gZ with
  |h0=>
   refine (Il a3 q3 3 ([[21,22], [], []]) (by exact wH g1 g3 g5 rfl) g6 .flat rfl (λn=>(DM _ (x_go (S0 n) (x_go (cE Da) (x_go (Md (Wg Fu (Fh (DH rfl Da)) (show FU 1 3=some [.int 1, .int 2] from rfl)) (EX (r':=Dw cl a2 q2::M4::HX σ.length [[21], [], []]) (II (jj:=1) (Ks:= [[], [], []]) (by decide) rfl Da (by fin2) (e2 _ _)) rfl (EX (r':=Dw cl a3 q3::M4::HX σ.length [[21,22], [], []]) (II (jj:=2) (Ks:= [[21], [], []]) (by decide) rfl (by (fin2;exact Da;all_goals fin2)) (by fin2) (e3 _ _)) rfl Jp))) MS))) ?_)));exact ⟨by fin2,by fin2,by (fin2;exact Da;all_goals fin2),by (fin2;exact Da;all_goals fin2)⟩
  |h1=>
   refine (Il a3 q3 3 ([[21], [22], []]) (by exact wH g1 g3 g5 rfl) g6 .deep rfl (λn=>(DM _ (x_go (S0 n) (x_go (cE Da) (x_go (Md (Wg Fu (Fh (DH rfl Da)) (show FU 1 3=some [.int 1, .int 2] from rfl)) (EX (r':=Dw cl a2 q2::M4::HX σ.length [[21], [], []]) (II (jj:=1) (Ks:= [[], [], []]) (by decide) rfl Da (by fin2) (e2 _ _)) rfl (EX (r':=Dw cl a3 q3::M4::HX σ.length [[21], [22], []]) (II (jj:=2) (Ks:= [[21], [], []]) (by decide) rfl (by (fin2;exact Da;all_goals fin2)) (by fin2) (e3 _ _)) rfl Jp))) MS))) ?_)));exact ⟨by fin2,by fin2,by (fin2;exact Da;all_goals fin2),by (fin2;exact Da;all_goals fin2)⟩
end
end
section
mutual open A
variable{n m k i K j at_ N:Nat}{σ DT r:Store}{v x:D}{l vs ws:List D}{ss:List Nat}{ks cl:List Int}{a b q:Int}{t o w:V}{loc:Di}{h:Hd}{B:Bool}{d:D}{c1:Dh}{Ks:List (List Int)}{G:HL}
theorem XH{l1 l2:List T}{out:Option HW}: ∀{loc DG:Di} {σ DT:Store},KY G l1 loc σ=some (.go 0 DG DT)→KY G l2 DG DT=out→KY G (l1++l2) loc σ=out:=by
 induction l1 with
 |nil=>intro loc DG σ DT h k;injection h with h;injection h with _ h1 h2;subst h1 h2;exact k
 |cons a l1 ih=>
  intro loc DG σ DT h k;have h:UO ((nd G a).ex loc σ) (λloc σ=>KY G l1 loc σ)=some (.go 0 DG DT):=h;show UO ((nd G a).ex loc σ) (λloc σ=>KY G (l1++l2) loc σ)=out;cases e:(nd G a).ex loc σ with
  |none=>rw [e] at h;exact nomatch h
  |some o=>
   rw [e] at h;cases o with
   |ret v τ=>exact nomatch h
   |go c J' τ=>cases c with
    |zero=>exact ih h k
    |succ c=>injection h with h;exact nomatch h
theorem aq(h:RN ss ws):ss.length=ws.length∧(15::ss).Nodup∧ss.length<100:=by
 have go: ∀{ss ws},Ty 13 [10] [HU] ss ws→ss.length=ws.length∧(ss= [10]∨ss= [10,26]):=λh=>by
  cases h with
  |no=>exact ⟨rfl, .inl rfl⟩
  |EM=>exact ⟨rfl, .inr rfl⟩
  |ref=>exact ⟨rfl, .inr rfl⟩
 cases h with
 |plain h=>obtain ⟨e,rfl|rfl⟩:=go h<;>exact ⟨e,by decide,by decide⟩
 |x h _=>obtain ⟨e,rfl|rfl⟩:=go h<;>exact ⟨by exact C9 ε<|C9 ε<|C9 e rfl,by decide,by decide⟩
theorem IO: ∀{Ks:List (List Int)} {z:Nat},(GS Ks z a).length=Ks.length:=λ{Ks}=>by
 induction Ks with
 |nil=>intro z;rfl
 |cons K Ks ih=>intro z;cases z with|zero=>rfl|succ z=>exact congrArg (· +1) ih
theorem Yr{q:Int}{i:Nat}(hc:cl.length<64)(ha:at_<900)(hq:0≤q)(hN:Ks.length=N)(fF:0<N)(el:N<4)(hK:Ip Ks=true)(Xm:30+(i:Int) ∉ ks)(Ri:ks.length=vs.length)(PD:ks.length<900)(iA: ∀z a,PR (GS Ks z a)=PR Ks):
  ∃(at':Nat) (q':Int) (j:Nat) (ss:List Nat) (ws:List D),at'≤at_+4∧0≤q'∧j<N∧RN ss ws∧ ∀n loc,Zc loc σ.length N (.cell (σ.length+PR Ks))→ ∃DG,(nd (DZ (n+2)) m5).ex (DR loc 44 (.d (.int (i:Int)))) (σ++Dw cl at_ q::Dk ks vs::HX σ.length Ks)=some (.go 0 DG (σ++(Dw cl at' q'::Dk (ks++ [30+(i:Int)]) (vs++ [sd (15::ss) (ref (20+(j:Int))::ws)])::HX σ.length (GS Ks j (30+(i:Int)))++ [.fz (sd ss ws)])))∧
   ∀x v,DE loc x=some v→x=159∨x=144∨x=101∨x=83→DE DG x=some v:=by
 refine wr λZ0 z0=> ?_;refine Do (Gy (σ:=σ) (at_:=at_) (r:=Dk ks vs::HX σ.length Ks) (many:=N) hc (by exact IJ ha rfl) hq fF (by exact IJ el rfl)) λz a1 q1 hz g1 g2 e1=> ?_;have vH:=λn=>e1 n false;refine Gf (Xs (σ:=σ) (at_:=a1) (q:=q1) (m:=Dk ks vs::HX σ.length (GS Ks z (30+(i:Int)))) hc (by exact uF g1 ha rfl) g2) λa2 q2 ss ws g3 g4 pf e2=> ?_;refine ET (aq pf) λp1 p2 p3=> ?_;refine z0 ?_;refine (Rt a2 q2 z ss ws (by exact zsl g1 g3) g4 hz pf (λn loc L=> ?_));obtain ⟨la,lb,lc,ld⟩:=L;refine ES (e2 n (DR (DR loc 44 (.d (.int (i:Int)))) 38 (.d (.int (20+(z:Int))))) (by fin2)) λDG e3 k1 k2=> ?_;refine (DM DG ?_ (λx v h hx=> ?_))
 ·refine TD (x_go ?_ (x_go (XZ (c1:=Dw cl a1 q1) (qC:=Dw cl a1 q1) (hN▸hz) hK ?_ ?_ ?_) (XH (l1:= [ze,oW]) e3 (X3 p1 p2 p3 Xm Ri PD k1 (k2 _ _ Da rfl) (k2 _ _ (DH rfl Da) rfl) (k2 _ _ (DH rfl (DH rfl lb)) rfl)))))
  ·apply KO
   cell_ask ⟨vH⟩
  ·fin2
  ·fin2
  ·exact bU Fu (Fh (DH rfl Da)) rfl
 ·rcases hx with rfl|rfl|rfl|rfl<;>exact k2 _ _ (DH rfl (DH rfl h)) rfl
abbrev F2:=Nat×List Nat×List D
def H5:Nat→List F2→List Int
 |_, []=> []
 |i,_::r=>(30+(i:Int))::H5 (i+1) r
def K4(l:List F2):List D:=l.map λp=>sd (15::p.2.1) (ref (20+(p.1:Int))::p.2.2)
def Im:Nat→List F2→List (List Int)→List (List Int)
 |_, [],Ks=>Ks
 |i,p::r,Ks=>Im (i+1) r (GS Ks p.1 (30+(i:Int)))
theorem V3{Ks x7:List (List Int)}(h:Ks.length=x7.length):PR Ks=PR x7:=by
 show mj Ks.length=mj x7.length
 (exact C9 h rfl)
theorem k3e{motive: ∀Ks:List (List Int),0<Ks.length→Ks.length<4→Prop}(h1: ∀A,motive [A] (BD _) (of_decide_eq_true rfl))(h2: ∀A B,motive [A,B] (BD _) (of_decide_eq_true rfl))(h3: ∀A B C,motive [A,B,C] (BD _) (of_decide_eq_true rfl)): ∀Ks a b,motive Ks a b
 | [A],_,_=>h1 A
 | [A,B],_,_=>h2 A B
 | [A,B,C],_,_=>h3 A B C
 |_::_::_::_::_,_,h=>absurd h (Nat.not_lt_of_le (ψ 4 _))
theorem Xp(fF:0<Ks.length)(el:Ks.length<4)(h: ∀K∈Ks,K.length<100):Ip Ks=true:=by
 have b: ∀{K:List Int},K.length<100→Μ K.length 100=true:=λh=>ο h;cases Ks,fF,el using k3e with
 |h1 A=>exact b (h A (.head _))
 |h2 A B=>show (_&&_)=true;exact C9 (b (h A (.head _)))<|C9 (b (h B (.tail _ (.head _)))) rfl
 |h3 A B C=>show (_&&(_&&_))=true;exact C9 (b (h A (.head _)))<|C9 (b (h B (.tail _ (.head _))))<|C9 (b (h C (.tail _ (.tail _ (.head _))))) rfl
theorem Sj{b:Nat}: ∀{Ks:List (List Int)} {z:Nat},(∀K∈Ks,K.length≤b)→ ∀K∈GS Ks z a,K.length≤b+1:=λ{Ks}=>by
 induction Ks with
 |nil=>intro z _ K hK;exact absurd hK Γ
 |cons A Ks ih=>
  intro z h K hK;cases z with
  |zero=>
   rcases ν.mp hK with w|w
   ·exact C9 w<|C9 ε<|Κ (h A (.head _))
   ·exact Az (h K (.tail _ w))
  |succ z=>
   rcases ν.mp hK with w|w
   ·exact C9 w<|Az (h A (.head _))
   ·exact ih (λK h'=>h K (.tail _ h')) K w
theorem Zc.drop{DG:Di}(L:Zc loc σ.length N (.cell (σ.length+k)))(h: ∀x v,DE loc x=some v→x=159∨x=144∨x=101∨x=83→DE DG x=some v)(hr:Ε 2 r.length=true)(hk:Ε (k+1) r.length=true):Zc (Dt (σ++r).length [] DG) σ.length N (.cell (σ.length+k)):=
 have hr:=φ hr
 ⟨D9 (h _ _ L.v (.inl rfl)) (JA (ο (by exact Aa hr))),D9 (h _ _ L.t (.inr (.inl rfl))) (JA (ο (by exact hr))),D9 (h _ _ L.n (.inr (.inr (.inl rfl)))) rfl,D9 (h _ _ L.k (.inr (.inr (.inr rfl)))) (JA hk)⟩
theorem Wl{n:Nat}(fF:0<Ks.length)(el:Ks.length<4):(HX n Ks).length+1=PR Ks:=by
 cases Ks,fF,el using k3e with
 |h1=>rfl
 |h2=>rfl
 |h3=>rfl
theorem UA(hc:cl.length<64)(fF:0<N)(el:N<4): ∀{c i at_:Nat} {q:Int} {Ks:List (List Int)} {ks:List Int} {vs:List D} {b:Nat},at_+4*c<900→0≤q→Ks.length=N→(∀K∈Ks,K.length≤b)→b+c<90→(∀x∈ks,x<30+(i:Int)∨40≤x)→i+c≤9→ks.length=vs.length→ks.length+c<900→
  ∃(at':Nat) (q':Int) (rows:List F2),at'≤at_+4*c∧0≤q'∧rows.length=c∧(∀p∈rows,p.1<N∧RN p.2.1 p.2.2)∧ ∀n loc,Zc loc σ.length N (.cell (σ.length+PR Ks))→
   ∃DG,El (nd (DZ (n+2)) m5).ex 44 (HH (i:Int) c) loc (σ++Dw cl at_ q::Dk ks vs::HX σ.length Ks)=some (.go 0 DG (σ++Dw cl at' q'::Dk (ks++H5 i rows) (vs++K4 rows)::HX σ.length (Im i rows Ks)))∧Zc DG σ.length N (.cell (σ.length+PR Ks)):=λ{c}=>by
 induction c with
 |zero=>
  intro i at_ q Ks ks vs b _ hq _ _ _ _ _ _ _;exact (Lv at_ q ([]) (Ι _) hq rfl (λp h=>absurd h Γ) (λn loc L=>(DM loc (by exact C9 (show H5 i []= [] from rfl)<|C9 (show K4 []= [] from rfl)<|C9 (υ _)<|C9 (υ _) rfl) L)))
 |succ c ih=>
  intro i at_ q Ks ks vs b ha hq hN hb Zy Xm hi Ri PD;have hs:Ip Ks=true:=Xp (hN▸fF) (hN▸el) λK h=>by have:=hb K h;exact xG Zy this rfl
  have iA: ∀z a,PR (GS Ks z a)=PR Ks:=λz a=>V3 IO;have yj:30+(i:Int) ∉ ks:=λh=>by rcases Xm _ h with w|w<;>lia
  refine Sn (Yr (σ:=σ) (i:=i) (at_:=at_) (q:=q) hc (by exact PU ha) hq hN fF el hs yj Ri (by exact PU PD) iA) λa1 q1 j ss ws g1 g2 hj pf e1=> ?_
  refine MG (ih (i:=i+1) (at_:=a1) (q:=q1) (Ks:=GS Ks j (30+(i:Int))) (ks:=ks++ [30+(i:Int)]) (vs:=vs++ [sd (15::ss) (ref (20+(j:Int))::ws)]) (b:=b+1) (by exact zsm ha g1) g2 (IO.trans hN) (Sj hb) (by exact Tg Zy) (λx hx=>by
   rcases ω.mp hx with w|w
   ·rcases Xm x w with w|w
    ·exact .inl (by lia)
    ·exact .inr w
   ·exact .inl (by exact C9 (ς.mp w) xe)) (by exact zqE hi) (by exact C9 ε<|C9 ε<|C9 Ri rfl) (by refine C9 ε ?_;show ks.length+1+c<900;exact Tg PD)) λa2 q2 rows g3 g4 hl hr e2=> ?_
  rw [iA] at e2;refine (Lv a2 q2 ((j,ss,ws)::rows) (by lia) g4 (congrArg (· +1) hl) (λp h=>by rcases ν.mp h with w|w;exact w▸⟨hj,pf⟩;exact hr p w) (λn loc L=> ?_));refine DQ (e1 n loc L) λJ' f1 k1=> ?_;have ll:=Wl (n:=σ.length) (Ks:=Ks) (hN▸fF) (hN▸el);refine DQ (e2 n _ (L.drop (r:=Dw cl at_ q::Dk ks vs::HX σ.length Ks) k1 rfl (ο (show PR Ks+1≤(HX σ.length Ks).length+1+1 by lia)))) λI7 f2 L2=> ?_;refine (DM I7 ?_ L2);refine C9 (show H5 i ((j,ss,ws)::rows)= [30+(i:Int)]++H5 (i+1) rows from rfl)<|C9 (show K4 ((j,ss,ws)::rows)= [sd (15::ss) (ref (20+(j:Int))::ws)]++K4 rows from rfl)<|Dr (π _ _ _)<|Dr (π _ _ _) ?_
  refine ND (r':=Dw cl a1 q1::Dk (ks++ [30+(i:Int)]) (vs++ [sd (15::ss) (ref (20+(j:Int))::ws)])::HX σ.length (GS Ks j (30+(i:Int)))) f1 ?_ f2;show (HX _ _).length+1+1=(HX _ _).length+1+1
  (exact C9 ll<|C9 (Wl (Ks:=GS Ks j (30+(i:Int))) (by rw [IO,hN];exact fF) (by rw [IO,hN];exact el))<|C9 (iA _ _) rfl)
end
end
section
mutual open A
variable{n m k i dp K j at_ N κ:Nat}{σ r:Store}{v x:D}{s:Nat}{l xs vs ws F8 vl:List D}{ss NT:List Nat}{ks cl:List Int}{a b q num:Int}{t w:V}{kl:List DO}{lv:List V}{key:DO}{loc:Di}{h:Hd}{d:D}{c1 c2:Dh}{G:HL}
theorem MD(e:r[k]?=some (.fz (.nd h l))):G4 (σ++r) (.cell (σ.length+k))=some (h,l.map .d):=DB (HO.trans e) rfl
theorem Zk{q:Nat}(e:r[k]?=some (.fz (.nd (.Dg q kl) vl)))(e1:HG x=some key)(e2:μ key.kind q=true)(e3:DU kl vl key=some v):E9 (σ++r) (.cell (σ.length+k)) (.d x)=some (.d v):=Qj (DB (MD e) rfl) e1 e2 (En V.d e3)
theorem xw(e:r[k]?=some (.fz d))(e2:KB d=some l):FV (.cell (σ.length+k)) (σ++r)=some (l,σ++r):=DJ (DB (HO.trans e) rfl) (Ec e2)
structure Tf(kd:D)(κ:Nat)(num:Int)(K:List Int):Prop where
 s: ∃kl vl,kd= .nd (.Dg 0 kl) vl∧DU kl vl (.i num)=some (.nd .lst (K.map .int))
def Fa(kd:D)(κ dd:Nat)(num c:Int):Prop:= ∀n σ r,dd≤n→r[κ]?=some (.fz kd)→(DZ n).call false 45 [.cell (σ.length+κ), .d (.int num)] (σ++r)=some (.d (.int c),σ++r)
theorem Zj: ∀{l:List Int},∃c,X5 (l.map .int)=some c:=λ{l}=>by
 induction l with
 |nil=>exact (EG 0 rfl)
 |cons a l ih=>refine D3 ih λc e=> ?_;clear ih;exact (EG (a+c) (DB rfl (DB e rfl)))
theorem KT{kd:D}{dd:Nat}{K:List Int}(hk:Tf kd κ num K)(h: ∀a∈K,30≤a∨(a<30∧ ∃c,Fa kd κ dd a c)): ∃c,Fa kd κ (dd+1) num c:=by
 refine GE hk.s λkl vl Gx e=> ?_;subst Gx
 have one: ∀a∈K,∃c:Int,30≤a∧c=1∨a<30∧Fa (.nd (.Dg 0 kl) vl) κ dd a c:=λa ha=>by
  rcases h a ha with w|⟨w,c,e⟩
  ·exact (EG 1 (.inl ⟨w,rfl⟩))
  ·exact (EG c (.inr ⟨w,e⟩))
 refine D3 (IY one) λcs hcs=> ?_;refine D3 (Zj (l:=cs)) λc hc=> ?_;refine (EG c (λn σ r hn hr=> ?_));refine DQ (Ey 1 hn) λm Ff hm=> ?_;subst Ff;have fin: ∀σ,Fj σ 3 (.d (.nd .lst (cs.map .int)))=some (.d (.int c)):=λσ=>show DN (X5 (cs.map .int)) (λn=>some (V.d (.int n)))=_ from DB hc rfl
 have sb:E9 (σ++r) (.cell (σ.length+κ)) (.d (.int num))=some (.d (.nd .lst (K.map .int))):=Zk hr rfl rfl e;apply Gj rfl rfl
 fin2
 refine Hk (xs:=cs.map .int) (show DS _ K (cs.map D.int) from (hcs.imp λa c e=>e).mapR (T:=λa x=>_) D.int λa c e=> ?_);rcases e with ⟨w,rfl⟩|⟨w,e⟩
 ·have g:=gC (σ:=σ++r) (a:=a) (b:=((30:Nat):Int)) (decide_eq_true w)
  refine EL (DD:=σ++r) rfl FE ?_
  fin2
  exact Fu
 ·have g:=gC (σ:=σ++r) (a:=a) (b:=((30:Nat):Int)) (decide_eq_false (by exact Int.not_le.mpr w))
  have c:=e m σ r hm hr;refine EL (DD:=σ++r) rfl FE ?_
  fin2
 cell_ask ⟨fin⟩
 exact Uy
theorem aB{K:List Int}:EB (Fz 106 0 (Mine.Internal.nd (DZ (n+1)) (.mk 25 4 [DF 106,Dp 0])).ev ((GT (DZ (n+1)) []).map Nd.ev) loc) (K.map .int) σ=some ((K.map ref).map .d,σ):=by
 induction K with
 |nil=>rfl
 |cons a K ih=>
  refine V1 (v:= .d (ref a)) (EL (DD:=σ) rfl FE ?_) ih;exact rD (Gi (Fh Si) (Gi Fu N4)) Z' mk2
def Rk(kd:D)(κ:Nat)(num par:Int):Prop:= ∃kl,KB kd=some kl∧ ∃ds:List D,∀G loc σ r,r[κ]?=some (.fz kd)→DE loc 83=some (.cell (σ.length+κ))→DE loc 103=some (.d (.int num))→
 EB (Fz 106 0 (Mine.Internal.nd G (DF 106)).ev ((GT G [.mk 13 8 [DF 103, .mk 9 0 [DF 83,DF 106]]]).map Nd.ev) loc) kl (σ++r)=some ((D.int par::ds).map .d,σ++r)
theorem jf{kd:D}{K:List Int}{c:Int}{m:Store}(hk:Tf kd κ num K)(hm:(c1::m)[κ]?=some (.fz kd))(wY:Fa kd κ dp num c)(hd:dp≤n+2)(h1:DE loc 83=some (.cell (σ.length+κ)))(h2:DE loc 103=some (.d (.int num))):
  (Mine.Internal.nd (DZ (n+2)) sT).ex loc (σ++c1::m)=some (.go 0 (DR loc 68 (.cell (σ.length+(m.length+1)))) (σ++c1::(m++ [.lv (.Dg 1 ([7,3].map .s)) ([.nd .lst (K.map ref), .int c].map .d)]))):=by
 refine GE hk.s λkl vl Gx e=> ?_;subst Gx;have ct:=wY (n+2) σ _ hd hm;have sb:E9 (σ++c1::m) (.cell (σ.length+κ)) (.d (.int num))=some (.d (.nd .lst (K.map .int))):=Zk hm rfl rfl e;apply KO
 fin2
 exact aB
 cell_ask ⟨gx⟩
theorem sI{x:D}:Df false .tup [.d x, .cell (σ.length+(r.length+1))] (σ++c1::(r++ [.lv (.Dg 1 (ss.map .s)) (ws.map .d)]))=some (.d (.nd .tup [x,sd ss ws]),σ++c1::(r++ [.fz (sd ss ws)])):=by
 refine (show EI (HS (Hz FZ) _ _) (λds σ=>some (V.d (.nd .tup ds),σ))=_ from DJ (OV (XQ aj rfl)) rfl).trans ?_
 (exact C9 lP rfl)
theorem vW{kd:D}{par:Int}{m:Store}(hm: ∀c,(c1::(m++ [c]))[κ]?=some (.fz kd))(hp:Rk kd κ num par)(hg:20<num)(hs:15 ∉ ss)(hl:ss.length=ws.length)(hb:ss.length<1000)(h1:DE loc 83=some (.cell (σ.length+κ)))(h2:DE loc 103=some (.d (.int num)))(h3:DE loc 68=some (.cell (σ.length+(m.length+1)))):
  (Mine.Internal.nd (DZ (n+2)) mU).ex loc (σ++c1::(m++ [.lv (.Dg 1 (ss.map .s)) (ws.map .d)]))=some (.go 0 loc (σ++c1::(m++ [.lv (.Dg 1 ((ss++ [15]).map .s)) ((ws++ [ref par]).map .d)]))):=by
 refine tF hp λkl hi ds hp=> ?_;have it:=xw (σ:=σ) (hm (.lv (.Dg 1 (ss.map .s)) (ws.map .d))) hi;have cp:=hp (DZ (n+2)) loc σ _ (hm (.lv (.Dg 1 (ss.map .s)) (ws.map .d))) h1 h2;have g:=λσ=>ny (σ:=σ) (a:=num) (b:=((20:Nat):Int)) (decide_eq_true hg)
 cell_ask ⟨g,jw hs hl hb⟩
theorem pS{m:Store}(hg: ¬20<num)(h2:DE loc 103=some (.d (.int num))):(Mine.Internal.nd (DZ (n+2)) mU).ex loc σ=some (.go 0 loc σ):=by
 have g:=λσ=>ny (σ:=σ) (a:=num) (b:=((20:Nat):Int)) (decide_eq_false hg)
 cell_ask ⟨g⟩
theorem jN{q q':Int}{at':Nat}{m:Store}(ht:(DZ (n+2)).call false 43 [.cell (σ.length+0), .cell (σ.length+((Dk ks vs::m).length+1)), .d (.sym 14)] (σ++Dw cl at_ q::((Dk ks vs::m)++ [.lv (.Dg 1 (ss.map .s)) (ws.map .d)]))=some (.cell (σ.length+((Dk ks vs::m).length+1)),σ++Dw cl at' q'::((Dk ks vs::m)++ [.lv (.Dg 1 (NT.map .s)) (F8.map .d)])))
  (Xm:num ∉ ks) (Ri:ks.length=vs.length) (PD:ks.length<900) (h0:DE loc 159=some (.cell (σ.length+0))) (h1:DE loc 144=some (.cell (σ.length+1))) (h2:DE loc 103=some (.d (.int num))) (h3:DE loc 68=some (.cell (σ.length+((Dk ks vs::m).length+1)))):
  (Mine.Internal.nd (DZ (n+2)) uP).ex loc (σ++Dw cl at_ q::((Dk ks vs::m)++ [.lv (.Dg 1 (ss.map .s)) (ws.map .d)]))=some (.go 0 loc (σ++(Dw cl at' q'::Dk (ks++ [num]) (vs++ [sd NT F8])::m++ [.fz (sd NT F8)]))):=by
 have bb:=Eo (key:= .i num) (q:=0) (j:=(ks.map DO.i).length) (by exact C9 (ι _)<|IJ PD rfl) rfl;apply HE
 cell_ask ⟨sI,Em⟩
 show σ++(Dw cl at' q'::((Dk ks vs::m)++ [.fz (sd NT F8)])).set 1 (.lv (.Dg 0 (D2 (ks.map .i) (.i num))) (Dz (ks.map .i) ((vs.map GP).map .d) (.i num) (.d (GP (sd NT F8)))))=_;exact C9 (LU Xm Ri) rfl
inductive v4(num par c:Int)(K:List Int):List Nat→List D→Prop
 |top {ss:List Nat} {ws:List D}: ¬20<num→Ty 14 [7,3] [.nd .lst (K.map ref), .int c] ss ws→v4 num par c K ss ws
 |sub {ss:List Nat} {ws:List D}:20<num→Ty 14 [7,3,15] [.nd .lst (K.map ref), .int c,ref par] ss ws→v4 num par c K ss ws
theorem YM{kd:D}{K:List Int}{par c q:Int}{N:Nat}{m:Store}(hc:cl.length<64)(ha:at_<900)(hq:0≤q)(Xm:num ∉ ks)(Ri:ks.length=vs.length)(PD:ks.length<900)(hk:Tf kd κ num K)(hm: ∀c1 c2 m',(c1::c2::(m++m'))[κ]?=some (.fz kd))(wY:Fa kd κ dp num c)(hp:20<num→Rk kd κ num par):
  ∃(at':Nat) (q':Int) (ss:List Nat) (ws:List D),at'≤at_+1∧0≤q'∧v4 num par c K ss ws∧ ∀n loc,dp≤n+2→Zc loc σ.length N (.cell (σ.length+κ))→ ∃DG,(Mine.Internal.nd (DZ (n+2)) oy).ex (DR loc 103 (.d (.int num))) (σ++Dw cl at_ q::Dk ks vs::m)=some (.go 0 DG (σ++(Dw cl at' q'::Dk (ks++ [num]) (vs++ [sd ss ws])::m++ [.fz (sd ss ws)])))∧
   ∀x v,DE loc x=some v→x=159∨x=144∨x=101∨x=83→DE DG x=some v:=by
 have m0:(Dw cl at_ q::Dk ks vs::m)[κ]?=some (.fz kd):=by have:=hm (Dw cl at_ q) (Dk ks vs) [];rwa [υ] at this
 have fin: ∀(loc:Di) x v,DE loc x=some v→x=159∨x=144∨x=101∨x=83→DE (DR (DR loc 103 (.d (.int num))) 68 (.cell (σ.length+((Dk ks vs::m).length+1)))) x=some v:=λloc x v h hx=>by
  rcases hx with rfl|rfl|rfl|rfl<;>exact DH rfl (DH rfl h)
 by_cases hg:20<num
 ·refine Gf (OE (σ:=σ) (at_:=at_) (r:=Dk ks vs::m) (s:=14) (ss:= [7,3,15]) (ws:= [.nd .lst (K.map ref), .int c,ref par]) (q:=q) hc (by exact IJ ha rfl) hq (.inr rfl) (by decide) rfl (by decide)) λa1 q1 ss ws g1 g2 ty e1=> ?_
  refine (FQ a1 q1 ss ws g1 g2 (.sub hg ty) (λn loc hd L=>(DM _ (TD (x_go (jf hk m0 wY hd (DH rfl L.k) Da) (x_go (vW (ss:= [7,3]) (ws:= [.nd .lst (K.map ref), .int c]) (λc=>hm _ _ [c]) (hp hg) hg (by decide) rfl (by decide) (DH rfl (DH rfl L.k)) (DH rfl Da) Da) (x_go (jN (e1 n) Xm Ri PD (DH rfl (DH rfl L.v)) (DH rfl (DH rfl L.t)) (DH rfl Da) Da) MS)))) (fin loc))))
 ·refine Gf (OE (σ:=σ) (at_:=at_) (r:=Dk ks vs::m) (s:=14) (ss:= [7,3]) (ws:= [.nd .lst (K.map ref), .int c]) (q:=q) hc (by exact IJ ha rfl) hq (.inr rfl) (by decide) rfl (by decide)) λa1 q1 ss ws g1 g2 ty e1=> ?_
  refine (FQ a1 q1 ss ws g1 g2 (.top hg ty) (λn loc hd L=>(DM _ (TD (x_go (jf hk m0 wY hd (DH rfl L.k) Da) (x_go (pS (m:=m) hg (DH rfl Da)) (x_go (jN (e1 n) Xm Ri PD (DH rfl (DH rfl L.v)) (DH rfl (DH rfl L.t)) (DH rfl Da) Da) MS)))) (fin loc))))
end
end
section
mutual open A
variable{n k i at_ κ:Nat}{σ r:Store}{x:D}{s:Nat}{l vl:List D}{K:List Int}{a b q num par:Int}{w:V}{kl:List DO}{lv fl:List V}{loc:Di}{h:Hd}{B:Bool}{d:D}{c1 c2:Dh}{G:HL}
abbrev Mf(K:List Int):D:= .nd .lst (K.map .int)
def WA:List (List Int)→D
 | [A]=> .nd (.Dg 0 [.i 20]) [Mf A]
 | [A,B]=> .nd (.Dg 0 [.i 20, .i 21]) [Mf A,Mf B]
 | [A,B,C]=> .nd (.Dg 0 [.i 20, .i 21, .i 22]) [Mf A,Mf B,Mf C]
 |_=> .none
def o0(n:Nat):List (List Int)→Store
 | [A]=> [.fz (Mf A), .lv .tup [.d (.int 20), .cell (n+2)], .lv .lst [.cell (n+3)], .fz (WA [A])]
 | [A,B]=> [.fz (Mf A), .lv .tup [.d (.int 20), .cell (n+2)], .fz (Mf B), .lv .tup [.d (.int 21), .cell (n+4)], .lv .lst [.cell (n+3), .cell (n+5)], .fz (WA [A,B])]
 | [A,B,C]=> [.fz (Mf A), .lv .tup [.d (.int 20), .cell (n+2)], .fz (Mf B), .lv .tup [.d (.int 21), .cell (n+4)], .fz (Mf C), .lv .tup [.d (.int 22), .cell (n+6)], .lv .lst [.cell (n+3), .cell (n+5), .cell (n+7)], .fz (WA [A,B,C])]
 |_=> []
theorem Qu:HS (Hz 4) [] σ=some ([],σ):=rfl
theorem Mh{ys:List V}{ds fl:List D}{DD:Store}(e:r[k]?=some (.lv h (fl.map .d)))(h2:HS (Hz 4) ys (σ++r.set k (.fz (.nd h fl)))=some (ds,DD)):HS (Hz 4) (.cell (σ.length+k)::ys) (σ++r)=some (.nd h fl::ds,DD):=
 DJ (show Hz 4 (.cell (σ.length+k)) (σ++r)=some (.nd h fl,σ++r.set k (.fz (.nd h fl))) from DB (HO.trans e) (DJ (RL (Hz 3) λO O=>rfl) (congrArg (λz=>some (D.nd h fl,z)) (by (exact C9 (AI _ _ (Ζ _ _))<|C9 (Ω _ _) rfl))))) (DJ h2 rfl)
theorem cm{cs:List V}{ds:List D}{r':Store}(e:r[k]?=some (.lv (.Dg 0 kl) cs))(h:HS (Hz 4) cs (σ++r)=some (ds,σ++r')):FV (.cell (σ.length+k)) (σ++r)=some (kl.map DO.d,σ++r'.set k (.fz (.nd (.Dg 0 kl) ds))):=
 DJ (DB (HO.trans e) (DJ h (congrArg (λz=>some (D.nd (.Dg 0 kl) ds,z)) (by (exact C9 (AI _ _ (Ζ _ _))<|C9 (Ω _ _) rfl))))) rfl
theorem L6:(K.map D.int).map V.d=K.map λa=>V.d (.int a):=by exact C9 Δ rfl
theorem ib{A:List Int}:FV (.cell (σ.length+5)) (σ++c1::c2::HX σ.length [A])=some ([.int 20],σ++c1::c2::o0 σ.length [A]):=by
 refine (cm (k:=5) (r':=(c1::c2::HX σ.length [A]).set 2 (.fz (Mf A))) (cs:= [.cell (σ.length+2)]) (ds:= [Mf A]) rfl (Mh (fl:=A.map .int) ?_ Qu)).trans rfl;exact C9 L6 rfl
theorem eH{A B:List Int}:FV (.cell (σ.length+7)) (σ++c1::c2::HX σ.length [A,B])=some ([.int 20, .int 21],σ++c1::c2::o0 σ.length [A,B]):=by
 refine (cm (k:=7) (r':=((c1::c2::HX σ.length [A,B]).set 2 (.fz (Mf A))).set 4 (.fz (Mf B))) (cs:= [.cell (σ.length+2), .cell (σ.length+4)]) (ds:= [Mf A,Mf B]) rfl (Mh (fl:=A.map .int) ?_ (Mh (fl:=B.map .int) ?_ Qu))).trans rfl
 ·exact C9 L6 rfl
 ·exact C9 L6 rfl
theorem Rs{A B C:List Int}:FV (.cell (σ.length+9)) (σ++c1::c2::HX σ.length [A,B,C])=some ([.int 20, .int 21, .int 22],σ++c1::c2::o0 σ.length [A,B,C]):=by
 refine (cm (k:=9) (r':=(((c1::c2::HX σ.length [A,B,C]).set 2 (.fz (Mf A))).set 4 (.fz (Mf B))).set 6 (.fz (Mf C))) (cs:= [.cell (σ.length+2), .cell (σ.length+4), .cell (σ.length+6)]) (ds:= [Mf A,Mf B,Mf C]) rfl (Mh (fl:=A.map .int) ?_ (Mh (fl:=B.map .int) ?_ (Mh (fl:=C.map .int) ?_ Qu)))).trans rfl
 ·exact C9 L6 rfl
 ·exact C9 L6 rfl
 ·exact C9 L6 rfl
theorem WV(h: ∀x∈K,x≠a):Lb (.int a) (K.map .int)=false:=by
 induction K with
 |nil=>rfl
 |cons b K ih=>
  show (Dj b a||Lb (.int a) (K.map .int))=false;refine C9 (ih λx hx=>h x (.tail _ hx)) ?_;cases q:Dj b a with
  |false=>rfl
  |true=>exact absurd (ER q) (h b (.head _))
theorem JN(h:a∈K):Lb (.int a) (K.map .int)=true:=by
 induction K with
 |nil=>exact absurd h Γ
 |cons b K ih=>
  show (Dj b a||Lb (.int a) (K.map .int))=true;rcases ν.mp h with w|w
  ·exact C9 w<|C9 (GY _) rfl
  ·(exact C9 (ih w)<|C9 (Be _) rfl)
theorem XG:FJ σ 8 (.d (.int a)) (.d (Mf K))=some (Lb (.int a) (K.map .int)):=by
 have ad: ∀l:List D,Mq (l.map .d)=some l:=λl=>by
  induction l with
  |nil=>rfl
  |cons d l ih=>exact DB rfl (DB ih rfl)
 have at_:atoms (K.map .int)=true:=by
  induction K with
  |nil=>rfl
  |cons b K ih=>exact ih
 show DN (Mq ((K.map .int).map .d)) (λl=>F9 (atom (.int a)&&atoms l) (some (Lb (.int a) l)))=_;exact DB (ad _) (by exact C9 at_ rfl)
theorem N'{kd:D}{kl:List Int}{l:List Int}{f:Int→Bool}(hi:KB kd=some (kl.map .int))(hk: ∀a∈kl,∃K,Tf kd κ a K∧Lb (.int num) (K.map .int)=f a)(hf:kl.filter f=par::l):Rk kd κ num par:=by
 refine (ut _ hi (l.map .int) (λG loc σ r hr l1 l2=> ?_))
 have e:((kl.map D.int).filterMap λd=>match d with| .int a=>cond (f a) (some (V.d d)) none|_=>none)=(par::l).map (λa=>V.d (.int a)):=by
  refine Dr hf ?_;clear hf hk hi
  induction kl with
  |nil=>rfl
  |cons a kl ih=>
   refine C9 Χ<|C9 Al ?_
   cases h:f a with
   |true=>exact C9 (List.filterMap_cons_some (b:=V.d (.int a)) (by show cond (f a) _ _=_;rw [h];rfl))<|congrArg (_:: ·) ih
   |false=>exact C9 (List.filterMap_cons_none (by show cond (f a) _ _=_;rw [h];rfl)) ih
 refine (KN (g:=λd=>match d with| .int a=>cond (f a) (some (V.d d)) none|_=>none) λd hd=> ?_).trans (congrArg (λz=>some (z,σ++r)) (e.trans (by exact C9 Χ<|C9 Χ<|C9 Δ rfl)));refine DQ (AD.mp hd) λa ha Gx=> ?_;subst Gx;refine DQ (hk a ha) λK hK hm=> ?_;refine GE hK.s λOi vl Gx e3=> ?_;subst Gx;have sb:E9 (σ++r) (.cell (σ.length+κ)) (.d (.int a))=some (.d (Mf K)):=Zk hr rfl rfl e3;show _=some (cond (f a) (some (V.d (.int a))) none,σ++r);cases h:f a with
 |true=>
  rw [h] at hm;refine EL (DD:=σ++r) rfl ?_ ?_
  cell_ask ⟨XG⟩
 |false=>
  rw [h] at hm;refine Mj rfl ?_
  cell_ask ⟨XG⟩
end
end
section
mutual open A
variable{n m k at_ N κ:Nat}{σ r:Store}{v x:D}{l vs ws:List D}{ss:List Nat}{ks cl K:List Int}{a b q num par:Int}{w:V}{kl:List DO}{loc:Di}{h:Hd}{d:D}{c1 c2:Dh}{Ks:List (List Int)}
abbrev Dx:=Int×List Int×Int
structure ui(kd:D)(κ:Nat)(p:Dx):Prop where
 k:Tf kd κ p.1 p.2.1
 c: ∃c,Fa kd κ 4 p.1 c
 p:20<p.1→Rk kd κ p.1 p.2.2
def jO(p:Dx)(v:D):Prop:= ∃c ss ws,v4 p.1 p.2.2 c p.2.1 ss ws∧v=sd ss ws
theorem U9{kd:D}{m:Store}(hc:cl.length<64)(hm: ∀c1 c2 m',(c1::c2::(m++m'))[κ]?=some (.fz kd))(hκ:κ<m.length+2)(h2:0<m.length): ∀{spec:List Dx} {at_:Nat} {q:Int} {ks:List Int} {vs:List D},(∀p∈spec,ui kd κ p)→at_+spec.length<900→0≤q→(ks++spec.map (·.1)).Nodup→ks.length=vs.length→ks.length+spec.length<900→
  ∃(at':Nat) (q':Int) (nv:List D),at'≤at_+spec.length∧0≤q'∧DS jO spec nv∧ ∀n loc,4≤n+2→Zc loc σ.length N (.cell (σ.length+κ))→
   ∃DG,El (Mine.Internal.nd (DZ (n+2)) oy).ex 103 (spec.map λp=> .int p.1) loc (σ++Dw cl at_ q::Dk ks vs::m)=some (.go 0 DG (σ++Dw cl at' q'::Dk (ks++spec.map (·.1)) (vs++nv)::m))∧Zc DG σ.length N (.cell (σ.length+κ)):=λ{spec}=>by
 induction spec with
 |nil=>
  intro at_ q ks vs _ _ hq _ _ _
  exact (Ea at_ q ([]) (Ι _) hq .nil (λn loc O L=>(DM loc (by
   show _=some (HW.go 0 loc (σ++Dw cl at_ q::Dk (ks++ []) (vs++ [])::m));exact C9 (υ _)<|C9 (υ _) rfl) L)))
 |cons p spec ih=>
  intro at_ q ks vs hs ha hq Fl Ri PD;rw [ξ] at ha PD;obtain ⟨hK,⟨c,hC⟩,hP⟩:=hs p (.head _);rw [Χ] at Fl;have hn:p.1 ∉ ks:=λz=>by rw [AE] at Fl;exact Fl.2.2 p.1 z p.1 (.head _) rfl
  refine Gf (YM (σ:=σ) (N:=N) (at_:=at_) (q:=q) (m:=m) hc (by exact PU ha) hq hn Ri (by exact PU PD) hK hm hC hP) λa1 q1 ss ws g1 g2 nf e1=> ?_;refine Do (ih (at_:=a1) (q:=q1) (ks:=ks++ [p.1]) (vs:=vs++ [sd ss ws]) (λp h=>hs p (.tail _ h)) (by exact oJ ha g1) g2 (by exact C9 (π _ _ _) Fl) (by exact C9 ε<|C9 ε<|C9 Ri rfl) (by refine C9 ε ?_;show ks.length+1+_<_;exact Tg PD)) λa2 q2 nv g3 g4 hv e2=> ?_;refine (Ea a2 q2 (sd ss ws::nv) (by exact C9 ξ<|zsl g1 g3) g4 (.cons (QQ c ss ws nf rfl) hv) (λn loc hd L=> ?_));refine DQ (e1 n loc hd L) λJ' f1 k1=> ?_;refine DQ (e2 n _ hd (L.drop (r:=Dw cl at_ q::Dk ks vs::m) k1 (ο (show 2≤m.length+1+1 by exact ψ _ _)) (ο (show κ+1≤m.length+1+1 by exact hκ)))) λI7 f2 L2=> ?_;refine (DM I7 ?_ L2);refine C9 Χ<|C9 Χ<|C9 (AJ ks _ _)<|C9 (AJ vs _ _) ?_
  exact ND (r':=Dw cl a1 q1::Dk (ks++ [p.1]) (vs++ [sd ss ws])::m) f1 rfl f2
inductive Ka:List (List Int)→List Dx→Prop
 |one {P0:List Int}:(∀a∈P0,30≤a)→Ka [P0] [(20,P0,0)]
 |two {P0 P1:List Int}:(∀a∈P0,30≤a)→(∀a∈P1,30≤a)→Ka [21::P0,P1] [(20,21::P0,0),(21,P1,20)]
 |flat {P0 P1 P2:List Int}:(∀a∈P0,30≤a)→(∀a∈P1,30≤a)→(∀a∈P2,30≤a)→Ka [21::22::P0,P1,P2] [(20,21::22::P0,0),(21,P1,20),(22,P2,20)]
 |deep {P0 P1 P2:List Int}:(∀a∈P0,30≤a)→(∀a∈P1,30≤a)→(∀a∈P2,30≤a)→Ka [21::P0,22::P1,P2] [(20,21::P0,0),(21,22::P1,20),(22,P2,21)]
theorem JM{kd:D}{K:List Int}(d:Nat)(hk:Tf kd κ num K)(h: ∀a∈K,30≤a): ∃c,Fa kd κ (d+1) num c:=KT (dd:=d) hk λa ha=> .inl (h a ha)
theorem Fa.up{kd:D}{d d':Nat}{num c:Int}(h:Fa kd κ d num c)(e:d≤d'):Fa kd κ d' num c:=λn σ r hn hr=>h n σ r (by exact Υ e hn) hr
theorem QJ{kd:D}{K:List Int}{e:Int}{d:Nat}(hk:Tf kd κ num K)(he:e<30)(hc: ∃c,Fa kd κ d e c)(h: ∀a∈K,a=e∨30≤a): ∃c,Fa kd κ (d+1) num c:=KT (dd:=d) hk λa ha=>by
 rcases h a ha with w|w
 ·exact .inr (w▸⟨he,hc⟩)
 ·exact .inl w
theorem fh{kd:D}{d:Nat}(h: ∃c,Fa kd κ d num c)(e:d≤4): ∃c,Fa kd κ 4 num c:=D3 h λc h=>⟨c,h.up e⟩
theorem KJ{P:List Int}(h: ∀a∈P,30≤a)(hn:num<30):Lb (.int num) (P.map .int)=false:=WV λx hx e=>by have:=h x hx;lia
theorem XK{P:List Int}(h: ∀a∈P,30≤a)(hn:num<30)(hb:b≠num):Lb (.int num) ((b::P).map .int)=false:=WV λx hx e=>by
 rcases ν.mp hx with w|w
 ·exact hb (w▸e)
 ·have:=h x w;lia
theorem Wz{kd:D}{par:Int}{z:Nat}:20<(20:Int)→Rk kd z 20 par:=λh=>absurd h (by decide)
theorem gE{spec:List Dx}(T:Ka Ks spec): ∀p∈spec,ui (WA Ks) (PR Ks) p:=by
 cases T with
 | @one P0 h0=>
  have k0:Tf (WA [P0]) 5 20 P0:=⟨_,_,rfl,rfl⟩;exact Fx ⟨k0,fh (JM 0 k0 h0) (by decide),Wz⟩ VZ
 | @two P0 P1 h0 h1=>
  have k0:Tf (WA [21::P0,P1]) 7 20 (21::P0):=⟨_,_,rfl,rfl⟩;have k1:Tf (WA [21::P0,P1]) 7 21 P1:=⟨_,_,rfl,rfl⟩;have c1:=JM 0 k1 h1;exact Fx ⟨k0,fh (QJ k0 (by decide) c1 λa ha=>(ν.mp ha).imp id (h0 a)) (by decide),Wz⟩ (Fx ⟨k1,fh c1 (by decide),λO=>N' (kl:= [20,21]) (l:= []) (f:=λa=>decide (a=20)) rfl (Fx ⟨_,k0,JN (.head _)⟩ (Fx ⟨_,k1,KJ h1 (of_decide_eq_true rfl)⟩ VZ)) rfl⟩ VZ)
 | @flat P0 P1 P2 h0 h1 h2=>
  have k0:Tf (WA [21::22::P0,P1,P2]) 9 20 (21::22::P0):=⟨_,_,rfl,rfl⟩;have k1:Tf (WA [21::22::P0,P1,P2]) 9 21 P1:=⟨_,_,rfl,rfl⟩;have k2:Tf (WA [21::22::P0,P1,P2]) 9 22 P2:=⟨_,_,rfl,rfl⟩;have c1:=JM 0 k1 h1;have c2:=JM 0 k2 h2
  exact Fx ⟨k0,fh (KT (dd:=1) k0 (Fx (.inr ⟨by decide,c1⟩) (Fx (.inr ⟨by decide,c2⟩) λa ha=> .inl (h0 a ha)))) (by decide),Wz⟩
   (Fx ⟨k1,fh c1 (by decide),λO=>N' (kl:= [20,21,22]) (l:= []) (f:=λa=>decide (a=20)) rfl (Fx ⟨_,k0,JN (.head _)⟩ (Fx ⟨_,k1,KJ h1 (of_decide_eq_true rfl)⟩ (Fx ⟨_,k2,KJ h2 (of_decide_eq_true rfl)⟩ VZ))) rfl⟩
   (Fx ⟨k2,fh c2 (by decide),λO=>N' (kl:= [20,21,22]) (l:= []) (f:=λa=>decide (a=20)) rfl (Fx ⟨_,k0,JN (.tail _ (.head _))⟩ (Fx ⟨_,k1,KJ h1 (of_decide_eq_true rfl)⟩ (Fx ⟨_,k2,KJ h2 (of_decide_eq_true rfl)⟩ VZ))) rfl⟩ VZ))
 | @deep P0 P1 P2 h0 h1 h2=>
  have k0:Tf (WA [21::P0,22::P1,P2]) 9 20 (21::P0):=⟨_,_,rfl,rfl⟩;have k1:Tf (WA [21::P0,22::P1,P2]) 9 21 (22::P1):=⟨_,_,rfl,rfl⟩;have k2:Tf (WA [21::P0,22::P1,P2]) 9 22 P2:=⟨_,_,rfl,rfl⟩;have c2:=JM 0 k2 h2;have c1:=QJ k1 (by decide) c2 λa ha=>(ν.mp ha).imp id (h1 a)
  exact Fx ⟨k0,fh (QJ k0 (by decide) c1 λa ha=>(ν.mp ha).imp id (h0 a)) (by decide),Wz⟩
   (Fx ⟨k1,fh c1 (by decide),λO=>N' (kl:= [20,21,22]) (l:= []) (f:=λa=>decide (a=20)) rfl (Fx ⟨_,k0,JN (.head _)⟩ (Fx ⟨_,k1,XK h1 (of_decide_eq_true rfl) (of_decide_eq_true rfl)⟩ (Fx ⟨_,k2,KJ h2 (of_decide_eq_true rfl)⟩ VZ))) rfl⟩
   (Fx ⟨k2,fh c2 (by decide),λO=>N' (kl:= [20,21,22]) (l:= []) (f:=λa=>decide (a=21)) rfl (Fx ⟨_,k0,XK h0 (of_decide_eq_true rfl) (of_decide_eq_true rfl)⟩ (Fx ⟨_,k1,JN (.head _)⟩ (Fx ⟨_,k2,KJ h2 (of_decide_eq_true rfl)⟩ VZ))) rfl⟩ VZ))
end
end
section
mutual open A
variable{n k i j at_ N:Nat}{σ r:Store}{vs nv:List D}{ks cl A B C:List Int}{a q:Int}{w:V}{loc:Di}{h:Hd}{c1 c2:Dh}{Ks:List (List Int)}{rows:List F2}{spec:List Dx}
def pg(j:Nat):Nat→List F2→List Int
 |_, []=> []
 |i,p::r=>if p.1=j then (30+(i:Int))::pg j (i+1) r else pg j (i+1) r
theorem HT: ∀{i:Nat},∀a∈pg j i rows,30≤a:=by
 induction rows with
 |nil=>intro i a h;exact absurd h Γ
 |cons p r ih=>
  intro i a h;have h:a∈(if p.1=j then (30+(i:Int))::pg j (i+1) r else pg j (i+1) r):=h
  by_cases e:p.1=j
  ·rw [if_pos e] at h
   rcases ν.mp h with w|w
   ·lia
   ·exact ih a w
  ·rw [if_neg e] at h;exact ih a h
theorem jx: ∀{i:Nat} {A:List Int},(∀p∈rows,p.1<1)→Im i rows [A]= [A++pg 0 i rows]:=by
 induction rows with
 |nil=>intro i A _;show [A]= [A++ []];(exact C9 (υ _) rfl)
 |cons p r ih=>
  intro i A h;have hp:=h p (.head _);have e:p.1=0:=by exact vt hp
  show Im (i+1) r (GS [A] p.1 _)= [A++(if p.1=0 then _ else _)];refine C9 (if_pos e)<|C9 e<|C9 (AJ _ _ _) ?_
  exact ih λp h'=>h p (.tail _ h')
theorem jQ: ∀{i:Nat} {A B:List Int},(∀p∈rows,p.1<2)→Im i rows [A,B]= [A++pg 0 i rows,B++pg 1 i rows]:=by
 induction rows with
 |nil=>intro i A B _;show [A,B]= [A++ [],B++ []];(exact C9 (υ _)<|C9 (υ _) rfl)
 |cons p r ih=>
  intro i A B h;have hp:=h p (.head _);have ih:=λ{A B}=>ih (i:=i+1) (A:=A) (B:=B) λp h'=>h p (.tail _ h');show Im (i+1) r (GS [A,B] p.1 _)= [A++(if p.1=0 then _ else _),B++(if p.1=1 then _ else _)];rcases (by exact zqk hp:p.1=0∨p.1=1) with e|e
  ·exact C9 (if_pos e)<|C9 (if_neg (by exact j9 e rfl))<|C9 e<|C9 (AJ _ _ _) ih
  ·exact C9 (if_neg (by exact j9 e rfl))<|C9 (if_pos e)<|C9 e<|C9 (AJ B _ _) ih
theorem XU: ∀{i:Nat} {A B C:List Int},(∀p∈rows,p.1<3)→Im i rows [A,B,C]= [A++pg 0 i rows,B++pg 1 i rows,C++pg 2 i rows]:=by
 induction rows with
 |nil=>intro i A B C _;show [A,B,C]= [A++ [],B++ [],C++ []];(exact C9 (υ _)<|C9 (υ _)<|C9 (υ _) rfl)
 |cons p r ih=>
  intro i A B C h;have hp:=h p (.head _);have ih:=λ{A B C}=>ih (i:=i+1) (A:=A) (B:=B) (C:=C) λp h'=>h p (.tail _ h');show Im (i+1) r (GS [A,B,C] p.1 _)= [A++(if p.1=0 then _ else _),B++(if p.1=1 then _ else _),C++(if p.1=2 then _ else _)];rcases (by lia:p.1=0∨p.1=1∨p.1=2) with e|e|e
  ·exact C9 (if_pos e)<|C9 (if_neg (by exact j9 e rfl))<|C9 (if_neg (by exact j9 e rfl))<|C9 e<|C9 (AJ _ _ _) ih
  ·exact C9 (if_neg (by exact j9 e rfl))<|C9 (if_pos e)<|C9 (if_neg (by exact j9 e rfl))<|C9 e<|C9 (AJ B _ _) ih
  ·exact C9 (if_neg (by exact j9 e rfl))<|C9 (if_neg (by exact j9 e rfl))<|C9 (if_pos e)<|C9 e<|C9 (AJ C _ _) ih
theorem iz(T:Kw Ks)(hr: ∀p∈rows,p.1<Ks.length): ∃spec,Ka (Im 0 rows Ks) spec:=by
 cases T with
 |one=>exact C9 (jx hr)<|(EG _ (.one HT))
 |two=>exact C9 (jQ hr)<|(EG _ (.two HT HT))
 |flat=>exact C9 (XU hr)<|(EG _ (.flat HT HT HT))
 |deep=>exact C9 (XU hr)<|(EG _ (.deep HT HT HT))
theorem aN(hc:cl.length<64)(T:Ka Ks spec)(ha:at_<800)(hq:0≤q)(Fl:(ks++spec.map (·.1)).Nodup)(Ri:ks.length=vs.length)(PD:ks.length<800):
  ∃(at':Nat) (q':Int) (nv:List D) (m':Store),at'≤at_+3∧0≤q'∧DS jO spec nv∧ ∀n loc,4≤n+2→Zc loc σ.length N (.cell (σ.length+PR Ks))→
   ∃DG,(Mine.Internal.nd (DZ (n+2)) rN).ex loc (σ++Dw cl at_ q::Dk ks vs::HX σ.length Ks)=some (.go 0 DG (σ++Dw cl at' q'::Dk (ks++spec.map (·.1)) (vs++nv)::m'))∧Zc DG σ.length N (.cell (σ.length+PR Ks)):=by
 have ok:=gE T
 suffices hx: ∃(keys:List D) (m':Store),(∀c1 c2,FV (.cell (σ.length+PR Ks)) (σ++c1::c2::HX σ.length Ks)=some (keys,σ++c1::c2::m'))∧keys=spec.map (λp=> .int p.1)∧(∀c1 c2 m2,(c1::c2::(m'++m2))[PR Ks]?=some (.fz (WA Ks)))∧PR Ks<m'.length+2∧0<m'.length∧spec.length≤3 by
  refine YE hx λkeys m' h1 h2 h3 h4 h5 h6=> ?_;clear hx;refine Do (U9 (σ:=σ) (N:=N) (at_:=at_) (q:=q) hc h3 h4 h5 ok (by exact zrx ha h6 rfl) hq Fl Ri (by exact zrx PD h6 rfl)) λa1 q1 nv g1 g2 hv e=> ?_;refine (FQ a1 q1 nv m' (by lia) g2 hv (λn loc hd L=> ?_));refine DQ (e n loc hd L) λDG e2 L2=> ?_;exact (DM DG (Md (Pp (Fh L.k) (h1 _ _)) (h2▸e2)) L2)
 cases T with
 |one=>exact (IB _ _ (λO O=>ib) rfl (λO O O=>rfl) (show 5<4+2 by exact AF _) (show 0<4 by exact AB _) (show 1≤3 by exact AB _))
 |two=>exact (IB _ _ (λO O=>eH) rfl (λO O O=>rfl) (show 7<6+2 by exact AF _) (show 0<6 by exact AB _) (show 2≤3 by exact Ac _))
 |flat=>exact (IB _ _ (λO O=>Rs) rfl (λO O O=>rfl) (show 9<8+2 by exact AF _) (show 0<8 by exact AB _) (show 3≤3 by exact Ι _))
 |deep=>exact (IB _ _ (λO O=>Rs) rfl (λO O O=>rfl) (show 9<8+2 by exact AF _) (show 0<8 by exact AB _) (show 3≤3 by exact Ι _))
end
end
section
mutual open A
variable{n m k i j at_:Nat}{σ r:Store}{v x:D}{vs uv:List D}{ks cl us:List Int}{a q:Int}{kl:List DO}{lv:List V}{key:DO}{loc:Di}{d:D}{c1:Dh}
abbrev Ez:D:=sd [14,12] [ref 20,ref 43]
abbrev HZ:D:=sd [9] [.int 1]
def Hw:Nat→D
 |0=>Ez
 |1=>sd [10,15] [HU,ref 20]
 |2=> .nd .lst [.int 5]
 |_=>sd [28] [ref 40]
theorem iB:(nd (DZ (n+2)) qS).ex loc σ=some (.go 0 (DR loc 127 (.d Ez)) σ):=by
 apply KO
 fin2
theorem cn: ∀{ks:List Int} {vs:List D} {uv:List D},us.length=uv.length→ks.length=vs.length→(ks++us).Nodup→T5 (us.map .i) (ks.map .i)=(ks++us).map .i∧Op V.d (us.map .i) (uv.map GP) (ks.map .i) ((vs.map GP).map V.d)=((vs++uv).map GP).map V.d:=by
 induction us with
 |nil=>intro ks vs uv h1 _ _;cases uv with|nil=>exact C9 (υ _)<|C9 (υ _)<|⟨rfl,rfl⟩|cons=>exact nomatch h1
 |cons a us ih=>
  intro ks vs uv h1 h2 Fl;cases uv with
  |nil=>exact nomatch h1
  |cons x uv=>
   have hn:a ∉ ks:=λz=>by rw [AE] at Fl;exact Fl.2.2 a z a (.head _) rfl
   have i:=ih (ks:=ks++ [a]) (vs:=vs++ [x]) (uv:=uv) (AK.inj h1) (by exact C9 ε<|C9 ε<|C9 h2 rfl) (by exact C9 (π _ _ _) Fl);have e1:D2 (ks.map .i) (.i a)=(ks++ [a]).map .i:=by exact C9 (EN (Lx hn))<|C9 χ rfl
   have e2:Dz (ks.map .i) ((vs.map GP).map V.d) (.i a) (V.d (GP x))=((vs++ [x]).map GP).map V.d:=by exact C9 (Ef (Lx hn) (by rw [ι,ι,ι];exact h2))<|C9 χ<|C9 χ rfl
   show T5 (us.map .i) (D2 (ks.map .i) (.i a))=_∧Op V.d (us.map .i) (uv.map GP) (D2 (ks.map .i) (.i a)) (Dz (ks.map .i) ((vs.map GP).map V.d) (.i a) (V.d (GP x)))=_;refine C9 e1<|C9 e2<|C9 (show ks++a::us=ks++ [a]++us from AJ ..)<|C9 (show vs++x::uv=vs++ [x]++uv from AJ ..) ?_
   exact i
theorem om{m:Store}(h1:us.length=uv.length)(h2:ks.length=vs.length)(Fl:(ks++us).Nodup)(hb:us.length+ks.length<1000):GK 157 (.cell (σ.length+1)) [.d (.nd (.Dg 0 (us.map .i)) (uv.map GP))] (σ++c1::Dk ks vs::m)=some (.d .none,σ++c1::Dk (ks++us) (vs++uv)::m):=by
 refine Dl (cn h1 h2 Fl) λe1 e2=> ?_;show DN (only [V.d (.nd (.Dg 0 (us.map .i)) (uv.map GP))]) (λv=>done (QU (σ++c1::Dk ks vs::m) (.cell (σ.length+1)) v))=_;refine DB rfl (DB (a:=σ++c1::Dk (ks++us) (vs++uv)::m) ?_ rfl);have cc:cellOf (σ++c1::Dk ks vs::m) (.cell (σ.length+1))=some (σ.length+1, .Dg 0 (ks.map .i),(vs.map GP).map .d):=Nb rfl;refine DB rfl (DB rfl (DB (a:=(σ.length+1,ks.map .i,(vs.map GP).map .d)) (DB cc (DB rfl (D7 rfl rfl))) (D7 ?_ ?_)))
 ·show Μ ((us.map DO.i).length+(ks.map DO.i).length) big=true
  refine C9 (ι _)<|C9 (ι _) ?_
  exact ο (show us.length+ks.length+1≤1000000 by exact ZI hb rfl)
 ·show some (QD (σ++c1::Dk ks vs::m) (σ.length+1) (.Dg 0 (T5 (us.map .i) (ks.map .i))) (Op V.d (us.map .i) (uv.map GP) (ks.map .i) ((vs.map GP).map .d)))=_
  exact C9 e1<|C9 e2<|C9 SO rfl
theorem uI{q:Nat}(e:r[k]?=some (.lv (.Dg q kl) lv)):Jt (σ++r) 157 (.cell (σ.length+k))=true:=by
 show (GH (σ++r) (.cell (σ.length+k))).isSome=true;exact C9 (PW e) rfl
theorem oY{m:Store}(h2:ks.length=vs.length)(Fl:(ks++ [3,2,1,43]).Nodup)(hb:ks.length<900)(l1:DE loc 144=some (.cell (σ.length+1)))(l2:DE loc 127=some (.d Ez)):(nd (DZ (n+2)) uD).ex loc (σ++c1::Dk ks vs::m)=some (.go 0 loc (σ++c1::Dk (ks++ [3,2,1,43]) (vs++ [Ez,ref 3,ref 2,HZ])::m)):=by
 cell_ask ⟨Hn,uI⟩
 exact om (us:= [3,2,1,43]) (uv:= [Ez,ref 3,ref 2,HZ]) rfl h2 Fl (show 4+_<_ by exact ZV hb rfl)
 fin2
theorem Qz{q:Int}{m:Store}{aa:Nat}(hc:cl.length<64)(ha:at_<900)(hq:0≤q)(hn:(aa:Int) ∉ ks)(h2:ks.length=vs.length)(hb:ks.length<900):
  ∃(at':Nat) (q':Int) (z:Nat),at'≤at_+1∧0≤q'∧z<4∧ ∀n loc,DE loc 159=some (.cell (σ.length+0))→DE loc 144=some (.cell (σ.length+1))→DE loc 127=some (.d Ez)→
   (nd (DZ (n+2)) sj).ex (DR loc 103 (.d (.int (aa:Int)))) (σ++Dw cl at_ q::Dk ks vs::m)=some (.go 0 (DR (DR loc 103 (.d (.int (aa:Int)))) 147 (.d (Hw z))) (σ++Dw cl at' q'::Dk (ks++ [(aa:Int)]) (vs++ [Hw z])::m)):=by
 refine Do (Gy (σ:=σ) (at_:=at_) (r:=Dk ks vs::m) (many:=4) hc (by exact IJ ha rfl) hq (by exact AB _) (by exact ψ _ _)) λz a1 q1 hz g1 g2 e1=> ?_;have vH:=λn=>e1 n false;refine (Ea a1 q1 z g1 g2 hz (λn loc l1 l2 l3=> ?_));have bb:=Eo (key:= .i (aa:Int)) (q:=0) (j:=(ks.map DO.i).length) (by exact C9 (ι _)<|IJ hb rfl) rfl
 have S1:(nd (DZ (n+2)) uX).ex (DR loc 103 (.d (.int (aa:Int)))) (σ++Dw cl at_ q::Dk ks vs::m)=some (.go 0 (DR (DR loc 103 (.d (.int (aa:Int)))) 147 (.d (Hw z))) (σ++Dw cl a1 q1::Dk ks vs::m)):=by
  have nx: ∀σ,E9 σ (.d (.nd .tup [Ez,sd [10,15] [HU,ref 20], .nd .lst [.int 5],sd [28] [ref 40]])) (.d (.int z))=some (.d (Hw z)):=λσ=>by
   rcases (by exact zst hz:z=0∨z=1∨z=2∨z=3) with rfl|rfl|rfl|rfl<;>rfl
  apply KO
  cell_ask ⟨Jk,vH⟩
  exact nx _
  fin2
 refine TD (x_go S1 (x_go ?_ MS));apply HE
 cell_ask ⟨Em⟩
 show σ++(Dw cl a1 q1::Dk ks vs::m).set 1 (.lv (.Dg 0 (D2 (ks.map .i) (.i (aa:Int)))) (Dz (ks.map .i) ((vs.map GP).map .d) (.i (aa:Int)) (.d (GP (Hw z)))))=_;exact C9 (LU hn h2) rfl
end
end
section
mutual open A
variable{n m i at_:Nat}{σ:Store}{tr y:D}{l vs:List D}{ks cl:List Int}{a q:Int}{w:V}{tk:List DO}{lv:List V}{loc:Di}{h:Hd}{d:D}{c0 c1:Dh}
theorem gR{m:Store}:D5 true (σ++ [c0]).length (σ++c1::((Dk ks vs::m)++ [.lv (.inst 5) [.cell (σ.length+1), .d tr]])) (.cell (σ.length+((Dk ks vs::m).length+1)))=some (.cell (σ.length+2),σ++ [c1,Dk ks vs, .lv (.inst 5) [.cell (σ.length+1), .d tr]]):=by
 have en:(σ++ [c0]).length=σ.length+1:=ε
 have tk: ∀rest,(σ++c1::rest).take (σ.length+1)=σ++ [c1]:=λrest=>by
  have e2:(σ++ [c1]).length=σ.length+1:=ε
  (exact C9 (show σ++c1::rest=σ++ [c1]++rest from AJ ..)<|Dr e2<|C9 (HK _) rfl)
 have ad: ∀l:List D,Mq (l.map .d)=some l:=λl=>by
  induction l with
  |nil=>rfl
  |cons d l ih=>exact DB rfl (DB ih rfl)
 refine C9 en ?_;refine (LY (ο (show σ.length+1≤σ.length+((Dk ks vs::m).length+1) by exact vn rfl))).trans ?_;refine DB (HO.trans aj) (DB rfl ?_);show EI (JT _ _ [V.cell (σ.length+1),V.d tr] (List.take _ _)) _=_;refine C9 (tk _) ?_;refine DJ (a:= [.cell (σ.length+1), .d tr]) (σ:=σ++ [c1,Dk ks vs]) ?_ ?_
 ·refine D7 (ο (Ι _)) (DB (a:=(.Dg 0 (ks.map .i),vs.map GP)) (DB (HO.trans rfl) (DB rfl (DB (ad _) rfl))) (DB rfl (DJ (DJ (show JT _ _ [] _=some ([],_) from rfl) rfl) ?_)))
  exact C9 (en.symm.trans (show (σ++ [c0]).length=(σ++ [c1]).length by rw [ε,ε];rfl))<|C9 (π _ _ _) rfl
 ·show some (V.cell (σ++ [c1,Dk ks vs]).length,σ++ [c1,Dk ks vs]++ [_])=_
  exact C9 ε<|C9 (π _ _ _) rfl
theorem ku{q:Int}{m:Store}(hc:cl.length<64)(ha:at_<800)(hq:0≤q)(hn: ∀a∈ks,a≠40∧a≠41∧a≠42)(h2:ks.length=vs.length)(hb:ks.length<800):
  ∃(at':Nat) (q':Int) (z0 z1 z2:Nat),at'≤at_+3∧0≤q'∧z0<4∧z1<4∧z2<4∧ ∀n loc,DE loc 159=some (.cell (σ.length+0))→DE loc 144=some (.cell (σ.length+1))→DE loc 127=some (.d Ez)→
   ∃DG,(nd (DZ (n+2)) qU).ex loc (σ++Dw cl at_ q::Dk ks vs::m)=some (.go 0 DG (σ++Dw cl at' q'::Dk (ks++ [40]++ [41]++ [42]) (vs++ [Hw z0]++ [Hw z1]++ [Hw z2])::m))∧DE DG 159=some (.cell (σ.length+0))∧DE DG 144=some (.cell (σ.length+1)):=by
 refine Do (Qz (σ:=σ) (at_:=at_) (q:=q) (m:=m) (aa:=40) hc (by exact IJ ha rfl) hq (λh=>(hn _ h).1 rfl) h2 (by exact IJ hb rfl)) λa1 q1 z0 g1 g2 h0 e1=> ?_;refine Do (Qz (σ:=σ) (at_:=a1) (q:=q1) (m:=m) (aa:=41) (ks:=ks++ [40]) (vs:=vs++ [Hw z0]) hc (by exact uF g1 ha rfl) g2 (λh=>by rcases ω.mp h with w|w;exact (hn _ w).2.1 rfl;exact absurd (ς.mp w) (by decide)) (by exact C9 ε<|C9 ε<|C9 h2 rfl) (by refine C9 ε ?_;show ks.length+1<900;exact Lf hb rfl)) λa2 q2 z1 g3 g4 h1 e2=> ?_;refine Do (Qz (σ:=σ) (at_:=a2) (q:=q2) (m:=m) (aa:=42) (ks:=ks++ [40]++ [41]) (vs:=vs++ [Hw z0]++ [Hw z1]) hc (by exact zM ha g1 g3 rfl) g4 (λh=>by rcases ω.mp h with w|w;(rcases ω.mp w with w|w;exact (hn _ w).2.2 rfl;exact absurd (ς.mp w) (by decide));exact absurd (ς.mp w) (by decide)) (by exact C9 ε<|C9 ε<|C9 ε<|C9 ε<|C9 h2 rfl) (by refine C9 ε<|C9 ε ?_;show ks.length+1+1<900;lia)) λa3 q3 z2 g5 g6 h3 e3=> ?_;refine (Qo a3 q3 z0 z1 z2 (by exact wH g1 g3 g5 rfl) g6 h0 h1 h3 (λn loc l1 l2 l3=> ?_))
 have D: ∀{q:Int} {a:Nat} {ks vs} {loc:Di} {y:Int} {z:D},DE loc 159=some (.cell (σ.length+0))→DE loc 144=some (.cell (σ.length+1))→DE loc 127=some (.d Ez)→
   DE (Dt (σ++Dw cl a q::Dk ks vs::m).length [] (DR (DR loc 103 (.d (.int y))) 147 (.d z))) 159=some (.cell (σ.length+0))∧DE (Dt (σ++Dw cl a q::Dk ks vs::m).length [] (DR (DR loc 103 (.d (.int y))) 147 (.d z))) 144=some (.cell (σ.length+1))∧DE (Dt (σ++Dw cl a q::Dk ks vs::m).length [] (DR (DR loc 103 (.d (.int y))) 147 (.d z))) 127=some (.d Ez):=λl1 l2 l3=>⟨by fin2,by fin2,by fin2⟩
 refine ET (D (q:=q) (a:=at_) (ks:=ks) (vs:=vs) (y:=((40:Nat):Int)) (z:=Hw z0) l1 l2 l3) λp1 p2 p3=> ?_;refine ET (D (q:=q1) (a:=a1) (ks:=ks++ [40]) (vs:=vs++ [Hw z0]) (y:=((41:Nat):Int)) (z:=Hw z1) p1 p2 p3) λr1 r2 r3=> ?_;refine ET (D (q:=q2) (a:=a2) (ks:=ks++ [40]++ [41]) (vs:=vs++ [Hw z0]++ [Hw z1]) (y:=((42:Nat):Int)) (z:=Hw z2) r1 r2 r3) λs1 s2 s3=> ?_;refine (ED _ (Md (Pp (rj (Gi Fu (Gi Fu (Gi Fu N4))) mk3) Xh) (EX (e1 n loc l1 l2 l3) rfl (EX (e2 n _ p1 p2 p3) rfl (EX (e3 n _ r1 r2 r3) rfl Jp)))) s1 s2)
end
end
section
mutual open A
variable{n m i j at_ N:Nat}{σ r:Store}{v x y:D}{s:Nat}{vs nv:List D}{ks cl K:List Int}{a b r0 q:Int}{t w:V}{kl:List DO}{lv:List V}{h:Hd}{d:D}{Ks:List (List Int)}{rows:List F2}{spec:List Dx}
structure Kc where
 rows:List F2
 spec:List Dx
 nv:List D
 z0:Nat
 z1:Nat
 z2:Nat
 r0:Nat
def Kc.keys(c:Kc):List Int:= [60,61]++H5 0 c.rows++c.spec.map (λp:Dx=>p.1)++ [3,2,1,43]++ [40]++ [41]++ [42]
def Kc.vals(c:Kc):List D:= [EM 13,EM 14]++K4 c.rows++c.nv++ [Ez,ref 3,ref 2,HZ]++ [Hw c.z0]++ [Hw c.z1]++ [Hw c.z2]
structure EU(c:Kc):Prop where
 len:0<c.rows.length∧c.rows.length≤5
 rows: ∀p∈c.rows,RN p.2.1 p.2.2
 tree: ∃Ks,Kw Ks∧(∀p∈c.rows,p.1<Ks.length)∧Ka (Im 0 c.rows Ks) c.spec
 nv:DS jO c.spec c.nv
 z0:c.z0<4
 z1:c.z1<4
 z2:c.z2<4
 r0:0<c.r0∧c.r0<4
theorem Fq: ∀{i:Nat},∀a∈H5 i rows,30+(i:Int)≤a∧a<30+(i:Int)+rows.length:=by
 induction rows with
 |nil=>intro i a h;exact absurd h Γ
 |cons p r ih=>
  intro i a h;refine C9 ξ ?_;rcases ν.mp h with w|w
  ·lia
  ·have:=ih a w;lia
theorem YJ: ∀{i:Nat},(H5 i rows).Nodup:=by
 induction rows with
 |nil=>intro i;exact .nil
 |cons p r ih=>intro i;exact Η.mpr ⟨λh=>by have:=Fq _ h;lia,ih⟩
theorem XJ: ∀{i:Nat},(H5 i rows).length=rows.length:=by
 induction rows with
 |nil=>intro i;rfl
 |cons p r ih=>intro i;exact congrArg (· +1) ih
theorem GV(T:Ka Ks spec):(spec.map (λp:Dx=>p.1)).Nodup∧(∀a∈spec.map (λp:Dx=>p.1),20≤a∧a<30)∧spec.length≤3:=by
 cases T with
 |one=>exact ⟨show ([20]:List Int).Nodup by decide,show∀a∈([20]:List Int),20≤a∧a<30 by decide,show 1≤3 by decide⟩
 |two=>exact ⟨show ([20,21]:List Int).Nodup by decide,show∀a∈([20,21]:List Int),20≤a∧a<30 by decide,show 2≤3 by decide⟩
 |flat=>exact ⟨show ([20,21,22]:List Int).Nodup by decide,show∀a∈([20,21,22]:List Int),20≤a∧a<30 by decide,show 3≤3 by decide⟩
 |deep=>exact ⟨show ([20,21,22]:List Int).Nodup by decide,show∀a∈([20,21,22]:List Int),20≤a∧a<30 by decide,show 3≤3 by decide⟩
theorem ZS(T:Kw Ks):0<Ks.length∧Ks.length<4∧ ∀K∈Ks,K.length≤2:=by
 cases T with
 |one=>exact ⟨by decide,by decide,by decide⟩
 |two=>exact ⟨by decide,by decide,by decide⟩
 |flat=>exact ⟨by decide,by decide,by decide⟩
 |deep=>exact ⟨by decide,by decide,by decide⟩
theorem bO: ∀{i:Nat} {Ks:List (List Int)},(Im i rows Ks).length=Ks.length:=by
 induction rows with
 |nil=>intro i Ks;rfl
 |cons p r ih=>intro i Ks;exact ih.trans IO
theorem oM{x:Option HW}{v:V}{s:Store}{P:V→Store→Prop}(h:x=some (.ret v s))(p:P v s): ∃v s,x=some (.ret v s)∧P v s:=(Gp v s h p)
theorem YY(hc:cl.length<64): ∃(c:Kc) (at':Nat) (q':Int),at'<900∧0≤q'∧EU c∧ ∀n,4≤n+2→(DZ (n+3)).call true 44 [.cell (σ.length+0)] (σ++ [Dw cl 0 0])=some (.cell (σ.length+2),σ++ [Dw cl at' q',Dk c.keys c.vals, .lv (.inst 5) [.cell (σ.length+1), .d (Fv c.r0)]]):=by
 refine wr λZ0 z0=> ?_;refine UR (iS (σ:=σ) (at_:=0) (q:=0) hc (by exact AB _) (Int.le_refl _)) λa1 q1 N Ks g1 g2 T0 hN e1=> ?_;refine ET (ZS T0) λt1 t2 t3=> ?_;refine Do (Gy (σ:=σ) (at_:=a1) (q:=q1) (r:=M4::HX σ.length Ks) (many:=5) hc (by exact Lf g1 rfl) g2 (by exact AB _) (by exact ψ _ _)) λz a2 q2 hz g3 g4 e2=> ?_;refine MG (UA (σ:=σ) (N:=N) (c:=1+z) (i:=0) (at_:=a2) (q:=q2) (Ks:=Ks) (ks:= [60,61]) (vs:= [EM 13,EM 14]) (b:=2) hc (hN▸t1) (hN▸t2) (by lia) g4 hN t3 (by lia) (by decide) (by lia) rfl (by show 2+(1+z)<900;lia)) λa3 q3 rows g5 g6 hl hr e3=> ?_;refine D3 (iz (rows:=rows) T0 λp h=>hN▸(hr p h).1) λspec T=> ?_;refine ET (GV T) λs1 s2 s3=> ?_;have kl:=XJ (rows:=rows) (i:=0)
 have m1: ∀a∈([60,61]:List Int)++H5 0 rows,a=60∨a=61∨(30≤a∧a<40):=λa h=>by
  rcases ω.mp h with w|w
  ·exact (qM w).imp id .inl
  ·have:=Fq a w;exact .inr (.inr ⟨by exact this.1,by lia⟩)
 have n1:(([60,61]:List Int)++H5 0 rows++spec.map (λp:Dx=>p.1)).Nodup:=by
  refine AE.mpr ⟨AE.mpr ⟨by decide,YJ,λa ha b hb=> ?_⟩,s1,λa ha b hb=> ?_⟩
  ·have:=Fq b hb
   refine (qM ha).elim (λe=> ?_) λe=> ?_<;>lia
  ·have:=s2 b hb
   rcases m1 a ha with w|w|w<;>lia
 have l1:(([60,61]:List Int)++H5 0 rows).length=([EM 13,EM 14]++K4 rows).length:=by refine C9 ε<|C9 ε<|C9 kl ?_;show _=2+(K4 rows).length;exact C9 (show (K4 rows).length=rows.length from ι ..) rfl
 have l1':(([60,61]:List Int)++H5 0 rows).length≤7:=by refine C9 ε<|C9 kl<|C9 hl ?_;show 2+(1+z)≤7;lia
 refine Gf (aN (σ:=σ) (N:=N) (at_:=a3) (q:=q3) (ks:=([60,61]:List Int)++H5 0 rows) (vs:= [EM 13,EM 14]++K4 rows) hc T (by lia) g6 n1 l1 (by exact Lf l1' rfl)) λa4 q4 nv m' g7 g8 hv e4=> ?_;refine z0 ?_;have lv:=hv.length;have l2:(([60,61]:List Int)++H5 0 rows++spec.map (λp:Dx=>p.1)).length=([EM 13,EM 14]++K4 rows++nv).length:=by (exact C9 ε<|C9 (ε (as:= [EM 13,EM 14]++K4 rows))<|C9 l1<|C9 (ι _)<|C9 lv rfl)
 have l2':(([60,61]:List Int)++H5 0 rows++spec.map (λp:Dx=>p.1)).length≤10:=by refine C9 ε<|C9 (ι _) ?_;lia
 have m2: ∀a∈([60,61]:List Int)++H5 0 rows++spec.map (λp:Dx=>p.1),a=60∨a=61∨(20≤a∧a<40):=λa h=>by
  rcases ω.mp h with w|w
  ·rcases m1 a w with w|w|w
   ·exact .inl w
   ·exact .inr (.inl w)
   ·exact .inr (.inr ⟨by lia,w.2⟩)
  ·have:=s2 a w;exact .inr (.inr ⟨this.1,by exact vz this rfl⟩)
 have n2:(([60,61]:List Int)++H5 0 rows++spec.map (λp:Dx=>p.1)++ [3,2,1,43]).Nodup:=by
  refine AE.mpr ⟨n1,by decide,λa ha b hb=> ?_⟩;have Oj:b=3∨b=2∨b=1∨b=43:=z6 hb;rcases m2 a ha with w|w|w<;>lia
 have l3:(([60,61]:List Int)++H5 0 rows++spec.map (λp:Dx=>p.1)++ [3,2,1,43]).length=([EM 13,EM 14]++K4 rows++nv++ [Ez,ref 3,ref 2,HZ]).length:=by exact C9 ε<|C9 (ε (as:= [EM 13,EM 14]++K4 rows++nv))<|C9 l2 rfl
 refine RJ (ku (σ:=σ) (at_:=a4) (q:=q4) (m:=m') (ks:=([60,61]:List Int)++H5 0 rows++spec.map (λp:Dx=>p.1)++ [3,2,1,43]) (vs:= [EM 13,EM 14]++K4 rows++nv++ [Ez,ref 3,ref 2,HZ]) hc (by lia) g8 (λa h=>by
  rcases ω.mp h with w|w
  ·rcases m2 a w with w|w|w<;>lia
  ·have Oj:a=3∨a=2∨a=1∨a=43:=z6 w
   lia) l3 (by refine C9 ε ?_;show _+4<800;lia)) λa5 q5 z0 z1 z2 g9 ox h0 h1 h2 e5=> ?_
 refine Do (Gy (σ:=σ) (at_:=a5) (q:=q5) (r:=Dk (([60,61]:List Int)++H5 0 rows++spec.map (λp:Dx=>p.1)++ [3,2,1,43]++ [40]++ [41]++ [42]) ([EM 13,EM 14]++K4 rows++nv++ [Ez,ref 3,ref 2,HZ]++ [Hw z0]++ [Hw z1]++ [Hw z2])::m') (many:=3) hc (by lia) ox (by exact AB _) (by exact ψ _ _)) λy a6 q6 hy g11 g12 e6=> ?_;refine (Ea ⟨rows,spec,nv,z0,z1,z2,1+y⟩ a6 q6 (by lia) g12 ⟨⟨by refine C9 hl ?_;exact Ζ _ _,by exact C9 hl<|wc hz rfl⟩,λp h=>(hr p h).2,(ED Ks T0 (λp h=>hN▸(hr p h).1) T),hv,h0,h1,h2,by show 0<1+y∧1+y<4;lia⟩ (λn hn=> ?_));refine DQ (e1 n) λJ' f1 L1=> ?_;have zW:=λn=>e2 n false;have e6':=λn=>e6 n false;refine DQ (e3 n J' L1) λI7 f3 L2=> ?_;rw [←V3 (bO (rows:=rows) (i:=0) (Ks:=Ks))] at L2;refine DQ (e4 n I7 hn L2) λxK f4 L3=> ?_;refine ES (e5 n (DR xK 127 (.d Ez)) (DH rfl L3.v) (DH rfl L3.t) Da) λhO f7 p1 p2=> ?_
 have S3:(nd (DZ (n+2)) ru).ex J' (σ++Dw cl a1 q1::M4::HX σ.length Ks)=some (.go 0 I7 (σ++Dw cl a3 q3::Dk ([60,61]++H5 0 rows) ([EM 13,EM 14]++K4 rows)::HX σ.length (Im 0 rows Ks))):=
  Md (uG (bU Fu (mx (Gi (Fh L1.v) (Gi Fu N4)) rfl (e2 _ _)) rfl) (Ki (j:=1+z) (by exact ZV hz rfl))) f3
 have S8: ∃v s,(nd (DZ (n+2)) qZ).ex hO (σ++Dw cl a5 q5::Dk ([60,61]++H5 0 rows++spec.map (λp:Dx=>p.1)++ [3,2,1,43]++ [40]++ [41]++ [42]) ([EM 13,EM 14]++K4 rows++nv++ [Ez,ref 3,ref 2,HZ]++ [Hw z0]++ [Hw z1]++ [Hw z2])::m')=some (.ret v s)∧D5 true (σ++ [Dw cl 0 0]).length s v=some (.cell (σ.length+2),σ++ [Dw cl a6 q6,Dk ([60,61]++H5 0 rows++spec.map (λp:Dx=>p.1)++ [3,2,1,43]++ [40]++ [41]++ [42]) ([EM 13,EM 14]++K4 rows++nv++ [Ez,ref 3,ref 2,HZ]++ [Hw z0]++ [Hw z1]++ [Hw z2]), .lv (.inst 5) [.cell (σ.length+1), .d (Fv ((1+y:Nat):Int))]]):=by
  apply oM
  cell_ask ⟨e6',Sv,gx⟩
  exact gR
 refine GE S8 λv s f8 fe=> ?_;clear S8;exact Y1 (fn:=Kl) rfl rfl (XH (l1:= [fg,Yx,me]) f1 (x_go S3 (x_go f4 (x_go iB (x_go (oY l2 n2 (by exact Lf l2' rfl) (DH rfl L3.t) Da) (x_go f7 (uZ f8))))))) fe
end
end
section
mutual open A
variable{n k i j:Nat}{keep:Bool}{σ DT:Store}{v x:D}{s:Nat}{l ws st ps:List D}{ss:List Nat}{rs:List Int}{a b q:Int}{w:V}{kl:List DO}{lv sv:List V}{key:DO}{loc:Di}{h:Hd}{d:D}
inductive NQ:D→List D→Prop
 |int (i:Int):NQ (.int i) []
 |EM (s:Nat):NQ (EM s) []
 |lst (l:List D):NQ (.nd .lst l) l
 |Dg {ss:List Nat} {ws ps:List D}:ss.length<64→DS (λs p=>DU (ss.map .s) ws (.s s)=some p) (HA Ε ss) ps→NQ (sd ss ws) ps
theorem bw(h:NQ v ps):(DZ (n+2)).call false 6 [.d v] σ=some (.d (.nd .lst ps),σ):=by
 cases h with
 |int i=>apply DW rfl rfl;cell_ask ⟨OY⟩
 |EM s=>apply DW rfl rfl;cell_ask ⟨LL⟩
 |lst l=>apply DW rfl rfl;cell_ask ⟨Ky⟩
 |Dg hs h=>
  apply DW rfl rfl
  cell_ask ⟨Kx,RG⟩
  refine Hk (h.imp λs p e=> ?_);refine EL rfl FE ?_
  cell_ask ⟨MH⟩
  fin2
inductive Rf:Nat→List D→List Int→Prop
 |nil:Rf 0 [] []
 |ref {n:Nat} {a:Int} {st:List D} {rs:List Int}:Rf n st rs→Rf (n+1) (ref a::st) (a::rs)
 |other {n:Nat} {v:D} {ps st:List D} {rs:List Int}:NQ v ps→Rf n (ps++st) rs→Rf (n+1) (v::st) rs
abbrev FN(a:Int):D:= .nd .tup [.int a, .int 0]
structure yu(loc:Di)(n:Nat):Prop where
 f:DE loc 62=some (.cell (n+0))
 s:DE loc 131=some (.cell (n+1))
 l:DE loc 93=some (.cell (n+2))
theorem Un(h:NQ v ps): ∃k,La [] (.d v)=some k∧ME k 14=false:=by
 cases h with
 |int=>exact (DM 2 rfl rfl)
 |EM=>exact (DM 11 rfl rfl)
 |lst=>exact (DM 4 rfl rfl)
 |Dg=>exact (DM 5 rfl rfl)
theorem Eb(k:Nat)(st:List D)(rs:List Int)(R:Rf k st rs):st.length≤k:=by
 induction R with
 |nil=>exact Ι _
 |ref _ ih=>exact Κ ih
 |other _ _ ih=>rw [ε] at ih;exact Κ (Υ (ψ _ _) ih)
theorem ZA{k:Nat}(R:Rf k st rs): ∀{loc:Di} {F:List V} {kl:List DO} {sv:List V} {fuel:Nat},yu loc σ.length→(∀a∈rs,Dm kl (.p a 0)=false)→rs.Nodup→F.length+rs.length<400→kl.length+rs.length<400→k<fuel→k<400→
  ∃DG s',EC (M9 (nd (DZ (n+2)) (DF 93)).ev) (nd (DZ (n+2)) sA).ex fuel loc (σ++ [.lv .lst F, .lv (.Dg 2 kl) sv, .lv .lst (st.reverse.map .d)])=some (.go 0 DG (σ++(.lv .lst (F++rs.map λa=> .d (FN a))::s')))∧DE DG 62=some (.cell (σ.length+0)):=by
 induction R with
 |nil=>
  intro loc F kl sv fuel L _ _ _ _ hf _;obtain ⟨fuel,rfl⟩: ∃f,fuel=f+1:=(EG (fuel - 1) (by have:0<fuel:=hf;exact X4 hf));exact (Gp loc _ ((K9 (Fh L.l) (ON (k:=2) (ws:= []) rfl)).trans (by (exact C9 List.map_nil<|C9 (υ _) rfl))) L.f)
 | @ref k a st rs R ih=>
  intro loc F kl sv fuel L hk Fl b1 b2 hf yJ;rw [ξ] at b1 b2;rw [Η] at Fl;obtain ⟨fuel,rfl⟩: ∃f,fuel=f+1:=(EG (fuel - 1) (by exact X4 hf));have qN:=hk a (.head _);obtain ⟨lf,ls,ll⟩:=id L;have hk1:(!Dm kl (.p a 0))=true:=by exact C9 qN rfl
  have hb:F.length+1<big:=by show _<1000000;exact cr b1 rfl
  have Zy:=Eo (key:= .p a 0) (q:=2) (j:=kl.length) (by exact oI b2 rfl) rfl;have e0:(ref a::st).reverse.map V.d=st.reverse.map V.d++ [.d (ref a)]:=by exact C9 Ag<|C9 χ rfl
  have W:=λDG (L':yu DG σ.length)=>ih (loc:=DG) (F:=F++ [.d (FN a)]) (kl:=D2 kl (.p a 0)) (sv:=Dz kl sv (.p a 0) (.d (.bool true))) (fuel:=fuel) L' (λb hb=>LF (hk b (.tail _ hb)) (by
   cases q:DO.beq (.p a 0) (.p b 0) with
   |false=>rfl
   |true=>exact absurd (ER (band q).1) λw=>Fl.1 (by exact C9 w hb))) Fl.2 (by refine C9 ε ?_;show F.length+1+_<_;exact Tg b1) (by have:=JH (kl:=kl) (x:= .p a 0);exact oJ b2 this) (by exact AM hf) (by exact Aa yJ)
  refine C9 e0 ?_;refine GE (W (Dt (σ++ [Dh.lv .lst F, .lv (.Dg 2 kl) sv, .lv .lst (st.reverse.map V.d++ [.d (ref a)])]).length [] (DR loc 69 (.d (ref a)))) ⟨by fin2,by fin2,by fin2⟩) λDG s' e l1=> ?_;refine (Gp DG s' ?_ l1);refine C9 Χ<|C9 (AJ F _ _) ?_
  refine JC (r':= [.lv .lst (F++ [.d (FN a)]), .lv (.Dg 2 (D2 kl (.p a 0))) (Dz kl sv (.p a 0) (.d (.bool true))), .lv .lst (st.reverse.map .d)]) (Fh ll) ((ON (k:=2) (ws:=st.reverse.map V.d++ [.d (ref a)]) rfl).trans (by cases st.reverse<;>rfl)) ?_ rfl e;apply HE
  cell_ask ⟨Hn,WT,Qa,HM,Wv,Em,LM,OW⟩
 | @other k v ps st rs P R ih=>
  intro loc F kl sv fuel L hk Fl b1 b2 hf yJ;obtain ⟨fuel,rfl⟩: ∃f,fuel=f+1:=(EG (fuel - 1) (by exact X4 hf));refine DQ (Un P) λkd hkd qN=> ?_;obtain ⟨lf,ls,ll⟩:=id L;have po:=λσ=>bw (n:=n) (σ:=σ) P;have e0:(v::st).reverse.map V.d=st.reverse.map V.d++ [.d v]:=by exact C9 Ag<|C9 χ rfl
  have e1:(ps++st).reverse.map V.d=st.reverse.map V.d++ps.reverse.map .d:=by (exact C9 List.reverse_append<|C9 χ rfl)
  have W:=λDG (L':yu DG σ.length)=>ih (loc:=DG) (F:=F) (kl:=kl) (sv:=sv) (fuel:=fuel) L' hk Fl b1 b2 (by exact AM hf) (by exact Aa yJ);refine C9 e0 ?_;refine GE (W (Dt (σ++ [Dh.lv .lst F, .lv (.Dg 2 kl) sv, .lv .lst (st.reverse.map V.d++ [.d v])]).length [] (DR loc 69 (.d v))) ⟨by fin2,by fin2,by fin2⟩) λDG s' e l1=> ?_;rw [e1] at e;refine (Gp DG s' ?_ l1)
  have hb:(st.reverse.map V.d).length+ps.reverse.length<big:=by
   refine C9 (ι _)<|C9 AX<|C9 AX ?_
   have:=Eb _ _ _ R
   rw [ε] at this;show _<1000000;lia
  have kd':=λσ=>WL (σ:=σ) hkd;refine JC (r':= [.lv .lst F, .lv (.Dg 2 kl) sv, .lv .lst (st.reverse.map V.d++ps.reverse.map .d)]) (Fh ll) ((ON (k:=2) (ws:=st.reverse.map V.d++ [.d v]) rfl).trans (by cases st.reverse<;>rfl)) ?_ rfl e;apply HE
  cell_ask ⟨Hn,WT,Qa,kd',kN,po,aD⟩
theorem TB{k:Nat}{w:V}(R:Rf k [v] rs)(Fl:rs.Nodup)(hr:rs.length<300)(hk:k<300)(h4: ∀s',D5 keep σ.length (σ++(.lv .lst (rs.map λa=> .d (FN a))::s')) (.cell (σ.length+0))=some (w,DT)):(DZ (n+3)).call keep 7 [.d v] σ=some (w,DT):=by
 refine GE (ZA (n:=n) (σ:=σ) R (loc:=DR (DR (DR [(158, .d v)] 62 (.cell (σ.length+0))) 131 (.cell (σ.length+1))) 93 (.cell (σ.length+2))) (F:= []) (kl:= []) (sv:= []) (fuel:=SE) ⟨by fin2,by fin2,by fin2⟩ (λO O=>rfl) Fl (show 0+_<_ by exact ZV hr rfl) (show 0+_<_ by exact ZV hr rfl) (show k<2000 by exact IJ hk rfl) (by exact IJ hk rfl)) λDG s' e l1=> ?_;apply EW rfl rfl
 fin2
 exact e
 fin2
 exact h4 s'
theorem VU:(rs.map λa=>V.d (FN a))=(rs.map FN).map .d:=by exact C9 Δ rfl
theorem gu{k:Nat}(R:Rf k [v] rs)(Fl:rs.Nodup)(hr:rs.length<300)(hk:k<300):(DZ (n+3)).call false 7 [.d v] σ=some (.d (.nd .lst (rs.map FN)),σ):=TB R Fl hr hk λs'=>MZ (k:=0) (by exact C9 VU rfl)
theorem bV{k:Nat}(R:Rf k [v] rs)(Fl:rs.Nodup)(hr:rs.length<300)(hk:k<300):(DZ (n+3)).call true 7 [.d v] σ=some (.cell σ.length,σ++ [.lv .lst (rs.map λa=> .d (FN a))]):=TB R Fl hr hk λs'=>by exact C9 VU<|Ld (k:=0) rfl (λc h=>nomatch h) (λh=>nomatch h)
end
end
section
mutual open A
variable{n m k i j:Nat}{keep:Bool}{σ r:Store}{v v' x tr:D}{s:Nat}{vs ps:List D}{a b q:Int}{t w:V}{kl:List DO}{lv:List V}{key:DO}{loc:Di}{h:Hd}{d:D}
theorem FL{q:Nat}(e:r[k]?=some (.lv (.inst q) lv)):Ew (σ++r) (.cell (σ.length+k))=some (q,lv):=DB (G0 e) rfl
theorem Ii{q:Nat}(e:r[k]?=some (.lv (.inst q) lv))(e2:Du (DX q) lv i=some w):Hh (σ++r) (.cell (σ.length+k)) i=some w:=DB (FL e) e2
def Fk:Nat→Nat→List Int
 |_,0=> []
 |a,m+1=>(a:Int)::Fk (a+1) m
theorem Fp: ∀{m a:Nat} {x:Int},x∈Fk a m↔(a:Int)≤x∧x<(a:Int)+m:=λ{m}=>by
 induction m with
 |zero=>intro a x;exact ⟨λh=>absurd h Γ,λh=>by lia⟩
 |succ m ih=>
  intro a x;show x∈(a:Int)::Fk (a+1) m↔_;refine C9 (propext (ν))<|C9 (propext (ih)) ?_
  lia
theorem Ic: ∀{m a:Nat},(Fk a m).length=m:=λ{m}=>by
 induction m with
 |zero=>intro a;rfl
 |succ m ih=>intro a;exact congrArg (· +1) ih
theorem d7: ∀{m a:Nat},Fk a m++ [(a:Int)+m]=Fk a (m+1):=λ{m}=>by
 induction m with
 |zero=>intro a;show [(a:Int)+(0:Nat)]= [(a:Int)];(exact C9 (show (a:Int)+((0:Nat):Int)=a by exact Int.add_zero _) rfl)
 |succ m ih=>
  intro a;show (a:Int)::(Fk (a+1) m++ [(a:Int)+((m+1:Nat):Int)])=(a:Int)::Fk (a+1) (m+1)
  (exact Dr ih<|C9 (show (a:Int)+((m+1:Nat):Int)=((a+1:Nat):Int)+m by lia) rfl)
abbrev D1(vs:List D):Dh:=Dk (Fk 1 vs.length) vs
abbrev Dv(n:Nat)(tr:D):Dh:= .lv (.inst 5) [.cell (n+0), .d tr]
theorem Xn{n n':Nat}(h:FP n t=false)(e:n≤n'):FP n' t=false:=by
 cases t with
 |d=>rfl
 |cell i=>
  have h:Ε n i=false:=h;show Ε n' i=false;cases q:Ε n' i with
  |false=>rfl
  |true=>rw [ο (Υ e (φ q))] at h;exact nomatch h
theorem cx: ∀{g fuel p:Nat} {loc:Di},p+g=vs.length→g<fuel→DE loc 132=some (.cell (σ.length+1))→DE loc 103=some (.d (.int ((p+1:Nat):Int)))→
  ∃DG,EC (M9 (nd (DZ n) rR).ev) (nd (DZ n) qw).ex fuel loc (σ++D1 vs::Dv σ.length tr::r)=some (.go 0 DG (σ++D1 vs::Dv σ.length tr::r))∧DE DG 103=some (.d (.int ((vs.length+1:Nat):Int)))∧ ∀x v,DE loc x=some v→μ 103 x=false→FP (σ.length+2) v=false→DE DG x=some v:=λ{g}=>by
 have hn:(σ++D1 vs::Dv σ.length tr::r).length=σ.length+(r.length+2):=ε
 induction g with
 |zero=>
  intro fuel p loc hp hf l1 l2;obtain ⟨fuel,rfl⟩: ∃f,fuel=f+1:=(EG (fuel - 1) (by exact X4 hf));have hp:p=vs.length:=hp;have hk:Dm ((Fk 1 vs.length).map DO.i) (.i ((p+1:Nat):Int))=false:=Lx λh=>by rw [Fp] at h;lia
  refine (ED loc (K9 (v':= .d (.bool (Dm ((Fk 1 vs.length).map DO.i) (.i ((p+1:Nat):Int))))) ?_ ?_) (hp▸l2) (λx v h O O=>h))
  ·cell_ask ⟨Ii,VJ⟩
  ·exact C9 hk rfl
 |succ g ih=>
  intro fuel p loc hp hf l1 l2;obtain ⟨fuel,rfl⟩: ∃f,fuel=f+1:=(EG (fuel - 1) (by exact X4 hf));have hk:Dm ((Fk 1 vs.length).map DO.i) (.i ((p+1:Nat):Int))=true:=JX (by refine C9 (propext (Fp)) ?_;lia);refine ES (ih (fuel:=fuel) (p:=p+1) (loc:=Dt (σ++D1 vs::Dv σ.length tr::r).length [] (DR loc 103 (.d (.int ((p+1+1:Nat):Int))))) (by exact qy hp) (by exact AM hf) (by fin2) (by fin2)) λDG e k1 k2=> ?_;refine (ED DG (JC (v':= .d (.bool (Dm ((Fk 1 vs.length).map DO.i) (.i ((p+1:Nat):Int))))) (r':=D1 vs::Dv σ.length tr::r) ?_ (by exact C9 hk rfl) ?_ rfl e) k1 (λx v h h2 h3=>k2 x v (D9 (DH h2 h) ?_) h2 h3))
  ·cell_ask ⟨Ii,VJ⟩
  ·apply KO
   fin2
  ·exact Xn h3 (by exact C9 hn<|vn rfl)
theorem Qp(hv:vs.length<500):(DZ (n+2)).call false 13 [.cell (σ.length+1), .d v] (σ++D1 vs::Dv σ.length tr::r)=some (.d (ref ((vs.length+1:Nat):Int)),σ++D1 (vs++ [v])::Dv σ.length tr::r):=by
 refine ES (cx (σ:=σ) (tr:=tr) (r:=r) (n:=n+1) (vs:=vs) (g:=vs.length) (fuel:=SE) (p:=0) (loc:=DR [(132, .cell (σ.length+1)),(158, .d v)] 103 (.d (.int ((0+1:Nat):Int)))) (by exact BP _) (show vs.length<2000 by exact IJ hv rfl) (by fin2) (by fin2)) λDG e k1 k2=> ?_;have m1:=k2 132 (.cell (σ.length+1)) (by fin2) rfl (by fin2);have m2:=k2 158 (.d v) (by fin2) rfl rfl;have hs:((vs.length+1:Nat):Int) ∉ Fk 1 vs.length:=λh=>by rw [Fp] at h;lia
 have bb:=Eo (key:= .i ((vs.length+1:Nat):Int)) (q:=0) (j:=((Fk 1 vs.length).map DO.i).length) (by exact C9 (ι _)<|C9 Ic<|IJ hv rfl) rfl
 have en:Dk (Fk 1 vs.length++ [((vs.length+1:Nat):Int)]) (vs++ [v])=D1 (vs++ [v]):=by
  show _=Dk (Fk 1 (vs++ [v]).length) (vs++ [v]);exact C9 ε<|C9 (show ((vs.length+1:Nat):Int)=((1:Nat):Int)+vs.length by lia)<|C9 d7 rfl
 apply Gj rfl rfl
 cell_ask ⟨Ii,Em⟩
 refine (GL (by exact C9 ε<|C9 ε rfl)).trans ?_;show some (_,σ++Dh.lv (.Dg 0 (D2 ((Fk 1 vs.length).map .i) (.i ((vs.length+1:Nat):Int)))) (Dz ((Fk 1 vs.length).map .i) ((vs.map GP).map .d) (.i ((vs.length+1:Nat):Int)) (.d (GP v)))::Dv σ.length tr::r)=_;exact C9 (LU hs Ic)<|C9 en rfl
theorem QE{kl:List DO}{key:DO}(h:Dm kl key=true):D2 kl key=kl:=by
 induction kl with
 |nil=>exact nomatch h
 |cons k kl ih=>
  have h:(DO.beq k key||Dm kl key)=true:=h;show cond (DO.beq k key) (k::kl) (k::D2 kl key)=_;cases q:DO.beq k key with
  |true=>rfl
  |false=>rw [q] at h;exact congrArg (k:: ·) (ih h)
theorem cJ{α:Type}{x:α}: ∀{m a j:Nat} {vs:List α},vs.length=m→j<m→Dz ((Fk a m).map .i) vs (.i ((a+j:Nat):Int)) x=vs.set j x:=λ{m}=>by
 induction m with
 |zero=>intro a j vs _ h;exact absurd h (Aw _)
 |succ m ih=>
  intro a j vs hl hj;cases vs with
  |nil=>exact nomatch hl
  |cons v vs=>
   show cond (DO.beq (.i (a:Int)) (.i ((a+j:Nat):Int))) (x::vs) (v::Dz ((Fk (a+1) m).map .i) vs (.i ((a+j:Nat):Int)) x)=_;cases j with
   |zero=>
    show cond (DO.beq (.i (a:Int)) (.i (a:Int))) _ _=_;exact C9 (Fi _) rfl
   |succ j=>
    refine C9 (G6 (a:=(a:Int)) (b:=((a+(j+1):Nat):Int)) (by exact zsf))<|C9 (show a+(j+1)=a+1+j by exact wo) ?_
    exact congrArg (v:: ·) (ih (AK.inj hl) (AM hj))
theorem Wc{j:Nat}(hj:j<vs.length):Dh.lv (.Dg 0 (D2 ((Fk 1 vs.length).map .i) (.i ((1+j:Nat):Int)))) (Dz ((Fk 1 vs.length).map .i) ((vs.map GP).map .d) (.i ((1+j:Nat):Int)) (.d (GP v)))=D1 (vs.set j v):=by
 refine C9 (QE (JX (by rw [Fp];lia)))<|C9 (cJ (by rw [ι,ι]) hj) ?_
 show _=Dh.lv (.Dg 0 ((Fk 1 (vs.set j v).length).map .i)) (((vs.set j v).map GP).map .d)
 (exact C9 Φ<|C9 List.map_set<|C9 List.map_set rfl)
theorem Nx{n i a df:Nat}{ps:List Nat}{ts:List T}{vs:List V}{r':V}{s DK:Store}{loc DG:Di}(h1:fns[i]?=some ⟨a,ps,df,ts⟩)(h2:bindArgs ps vs df=some loc)(h3:KY (DZ n) ts loc σ=some (.go 0 DG s))(h4:D5 keep σ.length s (.d .none)=some (r',DK)):(DZ (n+1)).call keep i vs σ=some (r',DK):=jo h1 h2 h3 h4
theorem vX{j:Nat}(hj:j<vs.length)(hv:vs.length<500):(DZ (n+1)).call false 12 [.cell (σ.length+1), .d (.int ((1+j:Nat):Int)), .d (.int ((0:Nat):Int)), .d v] (σ++D1 vs::Dv σ.length tr::r)=some (.d .none,σ++D1 (vs.set j v)::Dv σ.length tr::r):=by
 have bb:=Eo (key:= .i ((1+j:Nat):Int)) (q:=0) (j:=((Fk 1 vs.length).map DO.i).length) (by exact C9 (ι _)<|C9 Ic<|IJ hv rfl) rfl;refine Dr (Wc (v:=v) hj) ?_;apply Nx rfl rfl
 ·cell_ask ⟨Ii,Em⟩
 ·exact GL (by exact C9 ε<|C9 ε rfl)
end
end
section
mutual open A
variable{n k i j N p M d:Nat}{σ cs m:Store}{v v' x:D}{ws tv:List D}{rs:List Int}{a b:Int}{w:V}{kl:List DO}{lv:List V}{key SS:DO}{h:Hd}{c c0 c1 y:Dh}{q:Nat}{S bd:D}
abbrev EO(kl:List DO)(tv:List D):Dh:= .lv (.Dg 2 kl) (tv.map .d)
abbrev Lp(N p:Nat)(S bd:D):Dh:= .lv (.inst 8) [.d S, .cell (N+1), .cell (N+(p+2)), .d bd]
theorem MT(e:m[j]?=some y):(c0::c1::(cs.set p c++m))[cs.length+(j+2)]?=some y:=by
 show (cs.set p c++m)[cs.length+j]?=_;exact C9 (AG (by rw [Φ];exact Ζ _ _))<|C9 Φ<|C9 (Ω _ _) e
theorem T4:(c0::c1::(cs.set p c++m)).set (cs.length+(j+2)) y=c0::c1::(cs.set p c++m.set j y):=by
 show c0::c1::(cs.set p c++m).set (cs.length+j) y=_
 (exact C9 (AI _ _ (by rw [Φ];exact Ζ _ _))<|C9 Φ<|C9 (Ω _ _) rfl)
theorem RW(hp:p<cs.length):(c0::c1::(cs.set p c++m))[p+2]?=some c:=by
 show (cs.set p c++m)[p]?=_
 (exact C9 (Ο (by rw [Φ];exact hp))<|C9 (BQ hp) rfl)
theorem pT(hp:p<cs.length):(c0::c1::(cs.set p c++m)).set (p+2) y=c0::c1::(cs.set p y++m):=by
 show c0::c1::(cs.set p c++m).set p y=_
 (exact C9 (List.set_append_left _ _ (by rw [Φ];exact hp))<|C9 (List.set_set _) rfl)
theorem uV(hc:cs[p+1]?=some y):(c0::c1::(cs.set p c++m))[p+3]?=some y:=by
 show (cs.set p c++m)[p+1]?=_;exact C9 (Ο (by rw [Φ];exact (AR.mp hc).1))<|C9 (Ao (AW (AF p))) hc
theorem MI(hc:cs[p+1]?=some (.lv (.inst q) lv))(e:Du (DX q) lv i=some w):Hh (σ++c0::c1::(cs.set p c++m)) (.cell (σ.length+(p+3))) i=some w:=Ii (uV hc) e
theorem k_in(hp:p<cs.length):FJ (σ++c0::c1::(cs.set p (EO kl tv)++m)) 8 (.d (FN a)) (.cell (σ.length+(p+2)))=some (Dm kl (.p a 0)):=VJ (RW hp) rfl rfl
theorem vj(hp:p<cs.length):FJ (σ++c0::c1::(cs.set p (EO kl tv)++m)) 9 (.d (FN a)) (.cell (σ.length+(p+2)))=some (!Dm kl (.p a 0)):=Wv (RW hp) rfl rfl
theorem k_sub(hp:p<cs.length)(e:DU kl tv (.p a 0)=some v):E9 (σ++c0::c1::(cs.set p (EO kl tv)++m)) (.cell (σ.length+(p+2))) (.d (FN a))=some (.d v):=cv (RW hp) rfl rfl (En V.d e)
theorem uW(hp:p<cs.length):PT (σ++c0::c1::(cs.set p (EO kl tv)++m)) (.cell (σ.length+(p+2))) kl tv:=PW (RW hp)
theorem k_put(hp:p<cs.length)(hb:kl.length<1000):GO (σ++c0::c1::(cs.set p (EO kl tv)++m)) (.cell (σ.length+(p+2))) (.d (FN a)) (.d x)=some (σ++c0::c1::(cs.set p (EO (D2 kl (.p a 0)) (Dz kl tv (.p a 0) x))++m)):=
 (Em (RW hp) rfl (Eo hb rfl)).trans (by (exact C9 (pT hp)<|C9 (IA V.d) rfl))
theorem tX(e:m[j]?=some (.lv .lst lv))(hb:lv.length+1<big):GK 41 (.cell (σ.length+(cs.length+(j+2)))) [.d x] (σ++c0::c1::(cs.set p c++m))=some (.d .none,σ++c0::c1::(cs.set p c++m.set j (.lv .lst (lv++ [.d x])))):=(OW (MT e) hb).trans (by (exact C9 T4 rfl))
theorem qz{l:List D}(e:m[j]?=some (.lv .lst lv))(hb:lv.length+l.length<big):GK 57 (.cell (σ.length+(cs.length+(j+2)))) [.d (.nd .lst l)] (σ++c0::c1::(cs.set p c++m))=some (.d .none,σ++c0::c1::(cs.set p c++m.set j (.lv .lst (lv++l.map .d)))):=by
 show DN (only [V.d (.nd .lst l)]) (λv=>EI (Hz FZ v (σ++c0::c1::(cs.set p c++m))) λx s=>DN (QH x) λl=>done (G9 s _ l))=_;exact DB rfl (DJ rfl (DB rfl (DB (aD (MT e) hb) (by (exact C9 T4 rfl)))))
theorem am(e:m[j]?=some (.lv .lst lv)):Fj (σ++c0::c1::(cs.set p c++m)) 0 (.cell (σ.length+(cs.length+(j+2))))=some (.d (.int lv.length)):=DB (G0 (MT e)) (DB rfl rfl)
theorem bB(e:m[j]?=some (.lv .lst lv))(e2:qO lv a=some w):E9 (σ++c0::c1::(cs.set p c++m)) (.cell (σ.length+(cs.length+(j+2)))) (.d (.int a))=some w:=OO (MT e) e2
theorem tO(e:m[j]?=some (.lv .lst lv)):Jt (σ++c0::c1::(cs.set p c++m)) 41 (.cell (σ.length+(cs.length+(j+2))))=true:=LM (MT e)
theorem rW(e:m[j]?=some (.lv .lst lv)):Jt (σ++c0::c1::(cs.set p c++m)) 57 (.cell (σ.length+(cs.length+(j+2))))=true:=kN (MT e)
theorem kV(e:m[j]?=some (.lv .lst lv)):Ew (σ++c0::c1::(cs.set p c++m)) (.cell (σ.length+(cs.length+(j+2))))=none:=Hn (MT e) rfl
theorem zT{t:List V}:Df true h t (σ++c0::c1::(cs.set p c++m))=some (.cell (σ.length+(cs.length+(m.length+2))),σ++c0::c1::(cs.set p c++(m++ [.lv h t]))):=by
 refine (ZN (c0::c1::(cs.set p c++m))).trans ?_;refine C9 (show (c0::c1::(cs.set p c++m)).length=cs.length+(m.length+2) by rw [ξ,ξ,ε,Φ];exact yq) ?_
 (exact C9 List.cons_append<|C9 List.cons_append<|C9 (π _ _ _) rfl)
theorem Vx{q:Nat}(e:Μ q (cs.length+(m.length+2))=true):FP (σ++c0::c1::(cs.set p c++m)).length (.cell (σ.length+q))=false:=by
 have e:q<cs.length+(m.length+2):=φ e;show Ε _ _=false;refine C9 ε<|C9 ξ<|C9 ξ<|C9 ε<|C9 Φ ?_
 cases z:Ε (σ.length+(cs.length+m.length+1+1)) (σ.length+q) with
 |false=>rfl
 |true=>exact absurd (φ z) (by exact yD e)
theorem PK: ∀{kl:List DO} {tv:List D},kl.length=tv.length→DU (kl++ [key]) (tv++ [x]) SS=(DU kl tv SS).or (cond (DO.beq key SS) (some x) none):=λ{kl}=>by
 induction kl with
 |nil=>intro tv h;cases tv with
  |nil=>rfl
  |cons=>exact nomatch h
 |cons k kl ih=>
  intro tv h;cases tv with
  |nil=>exact nomatch h
  |cons v tv=>
   show cond (DO.beq k SS) (some v) (DU (kl++ [key]) (tv++ [x]) SS)=(cond (DO.beq k SS) (some v) (DU kl tv SS)).or _;cases DO.beq k SS with
   |true=>rfl
   |false=>exact ih (AK.inj h)
inductive ZT:D→List Int→Prop
 |rf (b:Int):ZT (ref b) [b]
 |ls (z:Int):ZT (.nd .lst [.int z]) []
 |yy (b:Int):ZT (sd [28] [ref b]) [b]
inductive Sf:D→Prop
 |no:Sf .none
 |rf (b:Int):Sf (ref b)
 |ls (l:List D):Sf (.nd .lst l)
 |dc (ss:List Nat) (ws:List D) (h1:9 ∉ ss) (h2:12 ∉ ss):Sf (sd ss ws)
def Ju(kl:List DO)(tv:List D)(M:Nat):Prop:=kl.length=tv.length∧ ∀key v,DU kl tv key=some v→ ∃m:Nat,v=FN ((m+1:Nat):Int)∧m<M
theorem Qd(T:Ju kl tv M): ∃v,Rn kl tv 2 (ref b) v∧(v= .none∨ ∃m,v=ref m):=by
 cases q:DU kl tv (.p b 0) with
 |none=>exact (DM _ (gP (Lg T.1 q)) (.inl rfl))
 |some v=>refine DQ (T.2 _ _ q) λm Ff O=> ?_;subst Ff;exact (DM _ (b8 q) (.inr (EG _ rfl)))
theorem oA(T:Ju kl tv M)(s:ZT v rs): ∃v',Rn kl tv 4 v v'∧Sf v':=by
 cases s with
 |rf b=>
  refine DQ (Qd (b:=b) T) λv' h e=> ?_;exact (DM v' (h.up (by exact ψ _ _)) (by rcases e with rfl|⟨m,rfl⟩<;>constructor))
 |ls z=>exact (DM _ ((Us (K:=1) (.cons Lu .nil)).up (by exact Ac _)) (.ls _))
 |yy b=>
  refine DQ (Qd (b:=b) T) λv' h e=> ?_;refine (DM _ (Z8 (ss:= [28]) (ws:= [ref b]) (F8:= [v']) (K:=2) (by simp) rfl (.cons (h.up (by exact Ac _)) .nil)) ?_);rcases e with rfl|⟨m,rfl⟩
  ·exact .dc [] [] (by decide) (by decide)
  ·exact .dc [28] [ref m] (by decide) (by decide)
theorem oz(s:ZT v rs):Rf 3 [v] rs∨Rf 1 [v] rs∨Rf 2 [v] rs:=by
 cases s with
 |rf b=>exact .inr (.inl (.ref .nil))
 |ls z=>exact .inr (.inr (.other (.lst _) (.other (.int _) .nil)))
 |yy b=>exact .inr (.inr (.other (.Dg (ss:= [28]) (ps:= [ref b]) (by decide) (.cons rfl .nil)) (.ref .nil)))
theorem br(s:ZT v rs):(DZ (n+3)).call false 7 [.d v] σ=some (.d (.nd .lst (rs.map FN)),σ):=by
 have nd:rs.Nodup:=by cases s<;>simp
 have l:rs.length<300:=by cases s<;>simp
 rcases oz s with R|R|R<;>exact gu R nd l (by exact ψ _ _)
end
end
section
mutual open A
variable{n k i j N p M d:Nat}{keep:Bool}{σ cs m:Store}{v v' x tr IF:D}{vs D4 M3 ws tv:List D}{ks bs fr ln rs:List Int}{a b:Int}{kl:List DO}{lv:List V}{key:DO}{loc:Di}{h:Hd}{c c0 c1 y:Dh}{q:Nat}
inductive Js(ks:List Int)(ws:List D)(bs:List Int):Nat→Int→Prop
 |bar {d:Nat} {a:Int} {v:D}:EF ks ws a=some v→a∈bs→Js ks ws bs d a
 |nil {d:Nat} {a:Int} {v:D}:EF ks ws a=some v→a ∉ bs→ZT v []→Js ks ws bs (d+1) a
 |step {d:Nat} {a b:Int} {v:D}:EF ks ws a=some v→a ∉ bs→ZT v [b]→Js ks ws bs d b→Js ks ws bs (d+1) a
structure Tn(ks:List Int)(ws M3 vs:List D)(kl:List DO)(tv:List D)(fr:List Int):Prop where
 t: ∃us,vs=M3++us∧ ∀x∈us,Sf x
 b:kl.length≤vs.length
 v:Ju kl tv vs.length
 f: ∀b∈fr,∃(m:Nat) (v:D) (rs:List Int),DU kl tv (.p b 0)=some (FN ((m+1:Nat):Int))∧M3.length≤m∧m<vs.length∧EF ks ws b=some v∧ZT v rs
theorem Ju.step(T:Ju kl tv M)(hk:Dm kl (.p a 0)=false):Ju (D2 kl (.p a 0)) (Dz kl tv (.p a 0) (FN ((M+1:Nat):Int))) (M+1):=by
 refine Dl T λhl hv=> ?_;clear T;refine ⟨Ih hl,λkey v h=> ?_⟩;rw [EN hk,Ef hk hl,PK hl] at h;cases q:DU kl tv key with
 |some v'=>
  rw [q] at h;refine DQ (hv _ _ q) λm e hm=> ?_;exact (DM m ((η h).symm.trans e) (A7 hm))
 |none=>
  rw [q] at h;have h:cond (DO.beq (.p a 0) key) (some (FN ((M+1:Nat):Int))) none=some v:=h;cases q2:DO.beq (.p a 0) key with
  |false=>rw [q2] at h;exact nomatch h
  |true=>rw [q2] at h;exact (DM M ((η h).symm) (AF _))
theorem Ju.up(T:Ju kl tv M){M':Nat}(h:M≤M'):Ju kl tv M':=⟨T.1,λkey v e=>DQ (T.2 key v e) λm e hm=>(DM m e (AQ hm h))⟩
theorem Tn.step(T:Tn ks ws M3 vs kl tv fr)(e:EF ks ws a=some v)(s:ZT v rs)(hk:Dm kl (.p a 0)=false):Tn ks ws M3 (vs++ [.none]) (D2 kl (.p a 0)) (Dz kl tv (.p a 0) (FN ((vs.length+1:Nat):Int))) (fr++ [a]):=by
 obtain ⟨⟨us,hu,hs⟩,hb,hT,hf⟩:=T;have hl:=hT.1;have g: ∀key,DU (D2 kl (.p a 0)) (Dz kl tv (.p a 0) (FN ((vs.length+1:Nat):Int))) key=(DU kl tv key).or (cond (DO.beq (.p a 0) key) (some (FN ((vs.length+1:Nat):Int))) none):=λkey=>by exact C9 (EN hk)<|C9 (Ef hk hl)<|PK hl
 have z:(vs++ [D.none]).length=vs.length+1:=ε;refine ⟨(DM (us++ [.none]) (by (exact C9 hu<|C9 (π _ _ _) rfl)) (λx hx=> ?_)), ?_,z▸hT.step hk,λb hb=> ?_⟩
 ·rcases ω.mp hx with hx|hx
  ·exact hs x hx
  ·exact C9 (ς.mp hx) .no
 ·exact C9 (EN hk)<|C9 ε<|C9 z<|Κ hb
 ·refine C9 z ?_
  rcases ω.mp hb with hb|hb
  ·refine Do (hf b hb) λm v rs e1 e2 e3 e4=> ?_
   exact (Ea m v rs (by exact C9 (g _)<|C9 e1 rfl) e2 (A7 e3) e4)
  ·refine C9 (ς.mp hb) ?_
   refine (Lv vs.length v rs ?_ (by exact C9 hu<|C9 ε<|Ζ _ _) (AF _) e s);refine C9 (g _) ?_;cases q:DU kl tv (.p a 0) with
   |some v'=>rw [Q3 q] at hk;exact nomatch hk
   |none=>show cond (DO.beq _ _) _ _=_;exact C9 (Fi _) rfl
abbrev I8(l:List Int):Dh:= .lv .lst (l.map λa=>V.d (FN a))
theorem Vi: ∀{l:List Int},qO ((l++ [a]).map λa=>V.d (FN a)) ((l.length:Nat):Int)=some (.d (FN a)):=λ{l}=>by
 show (List.map _ _)[l.length]?=_;exact C9 χ<|C9 (AG (by rw [ι];exact Ι _))<|C9 (ι _)<|C9 (Ai _) rfl
theorem cD{B:Bool}(hp:p<cs.length)(e:Dm kl (.p a 0)=B):FJ (σ++c0::c1::(cs.set p (EO kl tv)++m)) 8 (.d (FN a)) (.cell (σ.length+(p+2)))=some B:=e▸k_in hp
theorem UD{i:Int}{e:D}:E9 σ (.d (.nd .tup [.int i,e])) (.d (.int ((0:Nat):Int)))=some (.d (.int i)):=rfl
theorem L9{e f:D}:E9 σ (.d (.nd .tup [e,f])) (.d (.int ((1:Nat):Int)))=some (.d f):=rfl
theorem UK{fuel:Nat}(l3:DE loc 93=some (.cell (σ.length+(cs.length+(0+2)))))(l4:DE loc 44=some (.d (.int ((ln.length:Nat):Int)))):
  EC (M9 (nd (DZ (n+4)) T7).ev) (nd (DZ (n+4)) U4).ex (fuel+1) loc (σ++c0::c1::(cs.set p c++ [I8 ln,y]))=some (.go 0 loc (σ++c0::c1::(cs.set p c++ [I8 ln,y]))):=by
 refine K9 (v':= .d (.bool false)) ?_ rfl;have e:decide ((ln.length:Int)<((ln.map λa=>V.d (FN a)).length:Int))=false:=decide_eq_false (by refine C9 (ι _) ?_;lia)
 cell_ask ⟨am,Uf e⟩
theorem iF{G:HL}{t1 t2:T}{DG:Di}{v':V}{out:Option HW}(h1:(nd G t1).ev loc σ=some (v',σ))(ht:G1 σ v'=some true)(h2:(nd G t2).ex loc σ=some (.go 2 DG σ))(h3:EC (M9 (nd G t1).ev) (nd G t2).ex k (Dt σ.length [] DG) σ=out):EC (M9 (nd G t1).ev) (nd G t2).ex (k+1) loc σ=out:=UJ h1 ht h2 (.inr rfl) (by exact C9 AS h3)
theorem QI{fuel:Nat}(hp:p<cs.length)(hc:cs[p+1]?=some (Lp σ.length p (E2 ks ws IF) (PS bs)))(e:EF ks ws a=some v)(ho:Dm kl (.p a 0)=true∨(Dm kl (.p a 0)=false∧a∈bs))
  (l1:DE loc 132=some (.cell (σ.length+(p+3)))) (l2:DE loc 63=some (.cell (σ.length+(cs.length+(1+2))))) (l3:DE loc 93=some (.cell (σ.length+(cs.length+(0+2))))) (l4:DE loc 44=some (.d (.int ((ln.length:Nat):Int)))):
  ∃DG,EC (M9 (nd (DZ (n+4)) T7).ev) (nd (DZ (n+4)) U4).ex (fuel+2) loc (σ++c0::c1::(cs.set p (EO kl tv)++ [I8 (ln++ [a]),y]))=some (.go 0 DG (σ++c0::c1::(cs.set p (EO kl tv)++ [I8 (ln++ [a]),y])))∧DE DG 63=some (.cell (σ.length+(cs.length+(1+2)))):=by
 have e1:decide ((ln.length:Int)<(((ln++ [a]).map λa=>V.d (FN a)).length:Int))=true:=decide_eq_true (by refine C9 (ι _)<|C9 ε ?_;show (ln.length:Int)<((ln.length+1:Nat):Int);exact xe);have th:=Nh (n:=n+3) (keep:=false) (σ:=σ++c0::c1::(cs.set p (EO kl tv)++ [I8 (ln++ [a]),y])) (F4 (tr:=IF)) e;have lw: ∀j,Μ j 2=true→FP (σ++c0::c1::(cs.set p (EO kl tv)++ [I8 (ln++ [a]),y])).length (.cell (σ.length+(cs.length+(j+2))))=false:=λj hj=>Vx (ο (by have:j<2:=φ hj;show _<cs.length+(2+2);lia));have q4:(V.d (.int ((ln.length:Int)+((1:Nat):Int))))= .d (.int (((ln++ [a]).length:Nat):Int)):=by exact C9 ε rfl
 refine (DM (Dt (σ++c0::c1::(cs.set p (EO kl tv)++ [I8 (ln++ [a]),y])).length [] (DR (DR loc 111 (.d (FN a))) 44 (.d (.int ((ln.length:Int)+((1:Nat):Int)))))) ?_ (D9 (DH rfl (DH rfl l2)) (lw 1 rfl)));refine iF (v':= .d (.bool true)) (DG:=DR (DR loc 111 (.d (FN a))) 44 (.d (.int ((ln.length:Int)+((1:Nat):Int))))) ?_ rfl ?_ ?_
 ·cell_ask ⟨am,Uf e1⟩
 ·rcases ho with ho|⟨ho,hb⟩
  ·cell_ask ⟨bB,Vi,MI hc,cD hp ho⟩
  ·have hb:=JX hb
   cell_ask ⟨bB,Vi,MI hc,cD hp ho,th,UD,W4⟩
 ·exact UK (D9 (DH rfl (DH rfl l3)) (lw 0 rfl)) (q4▸D9 Da rfl)
theorem Wf(hp:p<cs.length)(hc:cs[p+1]?=some (Lp σ.length p (E2 ks ws IF) (PS bs)))(e:EF ks ws a=some v)(s:ZT v rs)(ho:Dm kl (.p a 0)=false)(hb:a ∉ bs)(hv:vs.length<400)(hk:kl.length<1000)(hl:ln.length<400)(hf:fr.length<400)
  (l1:DE loc 132=some (.cell (σ.length+(p+3)))) (l2:DE loc 63=some (.cell (σ.length+(cs.length+(1+2))))) (l3:DE loc 93=some (.cell (σ.length+(cs.length+(0+2))))) (l4:DE loc 44=some (.d (.int ((ln.length:Nat):Int))))
:
  ∃DG,(∀fuel,EC (M9 (nd (DZ (n+4)) T7).ev) (nd (DZ (n+4)) U4).ex (fuel+1) loc (σ++D1 vs::Dv σ.length tr::(cs.set p (EO kl tv)++ [I8 (ln++ [a]),I8 fr]))=EC (M9 (nd (DZ (n+4)) T7).ev) (nd (DZ (n+4)) U4).ex fuel DG (σ++D1 (vs++ [.none])::Dv σ.length tr::(cs.set p (EO (D2 kl (.p a 0)) (Dz kl tv (.p a 0) (FN ((vs.length+1:Nat):Int))))++ [I8 (ln++ [a]++rs),I8 (fr++ [a])])))∧DE DG 132=some (.cell (σ.length+(p+3)))∧DE DG 63=some (.cell (σ.length+(cs.length+(1+2))))∧DE DG 93=some (.cell (σ.length+(cs.length+(0+2))))∧DE DG 44=some (.d (.int (((ln++ [a]).length:Nat):Int))):=by
 have e1:decide ((ln.length:Int)<(((ln++ [a]).map λa=>V.d (FN a)).length:Int))=true:=decide_eq_true (by refine C9 (ι _)<|C9 ε ?_;show (ln.length:Int)<((ln.length+1:Nat):Int);exact xe);have th:=Nh (n:=n+3) (keep:=false) (σ:=σ++D1 vs::Dv σ.length tr::(cs.set p (EO kl tv)++ [I8 (ln++ [a]),I8 fr])) (F4 (tr:=IF)) e;have lw: ∀j,Μ j 2=true→FP (σ++D1 vs::Dv σ.length tr::(cs.set p (EO kl tv)++ [I8 (ln++ [a]),I8 fr])).length (.cell (σ.length+(cs.length+(j+2))))=false:=λj hj=>Vx (ο (by have:j<2:=φ hj;show _<cs.length+(2+2);lia));have lw2:FP (σ++D1 vs::Dv σ.length tr::(cs.set p (EO kl tv)++ [I8 (ln++ [a]),I8 fr])).length (.cell (σ.length+(p+3)))=false:=Vx (ο (by show _<cs.length+(2+2);lia));have q4:(V.d (.int ((ln.length:Int)+((1:Nat):Int))))= .d (.int (((ln++ [a]).length:Nat):Int)):=by exact C9 ε rfl
 have hbd:=Lx hb;have hv5:vs.length<500:=by exact IJ hv rfl
 have b1:(fr.map λa=>V.d (FN a)).length+1<big:=by refine C9 (ι _) ?_;show _<1000000;exact Lf hf rfl
 have hr:rs.length<10:=by cases s<;>simp
 have b2:((ln++ [a]).map λa=>V.d (FN a)).length+(rs.map FN).length<big:=by refine C9 (ι _)<|C9 (ι _)<|C9 ε ?_;show _+1+_<1000000;lia
 have sb: ∀τ,E9 τ (.d (Mg ks ws)) (.d (.int a))=some (.d (GP v)):=λτ=>Ga (ks:=ks) (vs:=ws) rfl e;have sr: ∀τ,(DZ (n+4)).call false 7 [.d v] τ=some (.d (.nd .lst (rs.map FN)),τ):=λτ=>br (n:=n+1) s;have z:(I8 (ln++ [a]++rs))= .lv .lst (((ln++ [a]).map λa=>V.d (FN a))++(rs.map FN).map .d):=by exact C9 Δ<|congrArg (Dh.lv .lst) χ
 have z2:I8 (fr++ [a])= .lv .lst ((fr.map λa=>V.d (FN a))++ [.d (FN a)]):=congrArg (Dh.lv .lst) χ;refine (hV (Dt (σ++D1 vs::Dv σ.length tr::(cs.set p (EO kl tv)++ [I8 (ln++ [a]),I8 fr])).length [] (DR (DR loc 111 (.d (FN a))) 44 (.d (.int ((ln.length:Int)+((1:Nat):Int)))))) (λfuel=> ?_) (D9 (DH rfl (DH rfl l1)) lw2) (D9 (DH rfl (DH rfl l2)) (lw 1 rfl)) (D9 (DH rfl (DH rfl l3)) (lw 0 rfl)) (q4▸D9 Da rfl));refine UJ (c:=0) (DD:=σ++D1 vs::Dv σ.length tr::(cs.set p (EO kl tv)++ [I8 (ln++ [a]),I8 fr])) (v':= .d (.bool true)) (DG:=DR (DR loc 111 (.d (FN a))) 44 (.d (.int ((ln.length:Int)+((1:Nat):Int))))) (DK:=σ++D1 (vs++ [.none])::Dv σ.length tr::(cs.set p (EO (D2 kl (.p a 0)) (Dz kl tv (.p a 0) (FN ((vs.length+1:Nat):Int))))++ [I8 (ln++ [a]++rs),I8 (fr++ [a])])) ?_ rfl ?_ (.inl rfl) ?_
 ·cell_ask ⟨am,Uf e1⟩
 ·apply KO
  cell_ask ⟨bB,Vi,MI hc,cD hp ho,th,UD,L9,W4,kV,FL,Qp,HM,k_put hp,tX,qz,tO,rW,kV,sb,sr⟩
  exact C9 z<|C9 z2 rfl
 ·(exact C9 (mn (by rw [ξ,ξ,ξ,ξ,ε,ε,Φ,Φ];rfl)) rfl)
theorem iy{d:Nat}{a:Int}(Nd:Js ks ws bs d a)(hp:p<cs.length)(hc:cs[p+1]?=some (Lp σ.length p (E2 ks ws IF) (PS bs))): ∀{vs tv:List D} {kl:List DO} {fr ln:List Int} {loc:Di} {fuel:Nat},d<fuel→vs.length+d<400→ln.length+d<400→fr.length+d<400→Tn ks ws M3 vs kl tv fr→
  DE loc 132=some (.cell (σ.length+(p+3)))→DE loc 63=some (.cell (σ.length+(cs.length+(1+2))))→DE loc 93=some (.cell (σ.length+(cs.length+(0+2))))→DE loc 44=some (.d (.int ((ln.length:Nat):Int)))→
  ∃DG D4 Oi PB I5 c',EC (M9 (nd (DZ (n+4)) T7).ev) (nd (DZ (n+4)) U4).ex (fuel+1) loc (σ++D1 vs::Dv σ.length tr::(cs.set p (EO kl tv)++ [I8 (ln++ [a]),I8 fr]))=some (.go 0 DG (σ++D1 D4::Dv σ.length tr::(cs.set p (EO Oi PB)++ [c',I8 I5])))∧DE DG 63=some (.cell (σ.length+(cs.length+(1+2))))∧Tn ks ws M3 D4 Oi PB I5∧D4.length≤vs.length+d:=by
 induction Nd with
 | @bar d a v e hb=>
  intro vs tv kl fr ln loc fuel hd h1 h2 h3 T l1 l2 l3 l4;obtain ⟨fuel,rfl⟩: ∃f,fuel=f+1:=(EG (fuel - 1) (by exact X4 hd));refine DQ (QI (n:=n) (IF:=IF) (ln:=ln) (fuel:=fuel) (c0:=D1 vs) (c1:=Dv σ.length tr) (kl:=kl) (tv:=tv) (y:=I8 fr) hp hc e (by cases q:Dm kl (.p a 0) with|true=>exact .inl rfl|false=>exact .inr ⟨rfl,hb⟩) l1 l2 l3 l4) λDG q k=> ?_;exact (GA DG _ _ _ _ _ q k T (Ζ _ _))
 | @nil d a v e hb s=>
  intro vs tv kl fr ln loc fuel hd h1 h2 h3 T l1 l2 l3 l4;obtain ⟨fuel,rfl⟩: ∃f,fuel=f+1:=(EG (fuel - 1) (by exact X4 hd));cases q:Dm kl (.p a 0) with
  |true=>
   refine DQ (QI (n:=n) (IF:=IF) (ln:=ln) (fuel:=fuel) (c0:=D1 vs) (c1:=Dv σ.length tr) (kl:=kl) (tv:=tv) (y:=I8 fr) hp hc e (.inl q) l1 l2 l3 l4) λDG q k=> ?_;exact (GA DG _ _ _ _ _ q k T (Ζ _ _))
  |false=>
   refine W7 (Wf (n:=n) (IF:=IF) (ln:=ln) (tr:=tr) (tv:=tv) hp hc e s q hb (vs:=vs) (fr:=fr) (by exact PU h1) (by have:=T.b;exact xG h1 this rfl) (by exact PU h2) (by exact PU h3) l1 l2 l3 l4) λDG q2 m1 m2 m3 m4=> ?_;refine (GA DG (vs++ [.none]) (D2 kl (.p a 0)) (Dz kl tv (.p a 0) (FN ((vs.length+1:Nat):Int))) (fr++ [a]) (I8 (ln++ [a])) ((q2 _).trans ?_) m2 (T.step e s q) (by refine C9 ε ?_;show vs.length+1≤_;exact vn rfl));refine C9 (υ _) ?_;exact UK m3 m4
 | @step d a b v e hb s N ih=>
  intro vs tv kl fr ln loc fuel hd h1 h2 h3 T l1 l2 l3 l4;obtain ⟨fuel,rfl⟩: ∃f,fuel=f+1:=(EG (fuel - 1) (by exact X4 hd));cases q:Dm kl (.p a 0) with
  |true=>
   refine DQ (QI (n:=n) (IF:=IF) (ln:=ln) (fuel:=fuel) (c0:=D1 vs) (c1:=Dv σ.length tr) (kl:=kl) (tv:=tv) (y:=I8 fr) hp hc e (.inl q) l1 l2 l3 l4) λDG q k=> ?_;exact (GA DG _ _ _ _ _ q k T (Ζ _ _))
  |false=>
   refine W7 (Wf (n:=n) (IF:=IF) (ln:=ln) (tr:=tr) (tv:=tv) hp hc e s q hb (vs:=vs) (fr:=fr) (by exact PU h1) (by have:=T.b;exact xG h1 this rfl) (by exact PU h2) (by exact PU h3) l1 l2 l3 l4) λDG q2 m1 m2 m3 m4=> ?_;have z:(vs++ [D.none]).length=vs.length+1:=ε;refine Mk (ih (fuel:=fuel) (loc:=DG) (by exact AM hd) (by exact zqP h1 z) (by refine C9 ε ?_;show ln.length+1+_<_;exact Tg h2) (by refine C9 ε ?_;show fr.length+1+_<_;exact Tg h3) (T.step e s q) m1 m2 m3 m4) λI7 D4 Oi PB I5 c' q3 k3 T3 b3=> ?_;exact (GA I7 D4 Oi PB I5 c' ((q2 _).trans q3) k3 T3 (by lia))
end
end
section
mutual open A
variable{n k i j N p M d:Nat}{keep:Bool}{σ r cs m:Store}{v v' x tr IF:D}{vs D4 M3 ws tv us:List D}{ks bs fr ln rs:List Int}{a b:Int}{kl:List DO}{lv fl:List V}{loc:Di}{h:Hd}{c c' c0 c1 y:Dh}{q:Nat}{S bd:D}
theorem NV:(σ++y::c1::cs.set p c').length=σ.length+(cs.length+2):=by (exact C9 ε<|C9 ξ<|C9 ξ<|C9 Φ rfl)
theorem eY:(σ++y::c1::cs.set p c').length+j=σ.length+(cs.length+(j+2)):=by refine C9 NV ?_;lia
theorem k_end{fl:List D}(e:m[j]?=some (.lv h (fl.map .d))):D5 false (σ++c0::c1::cs.set p c).length (σ++y::c1::(cs.set p c'++m)) (.cell (σ.length+(cs.length+(j+2))))=some (.d (.nd h fl),σ++y::c1::cs.set p c'):=by
 have z:=MZ (σ:=σ++y::c1::cs.set p c') e;rw [eY,π,NV] at z;exact C9 NV z
theorem Tr(h:m= []):D5 keep (σ++c0::c1::cs.set p c).length (σ++y::c1::(cs.set p c'++m)) (.d v)=some (.d v,σ++y::c1::cs.set p c'):=by
 exact C9 h<|C9 (υ _)<|C9 NV<|Dr (NV (y:=y) (c1:=c1) (c':=c') (σ:=σ) (cs:=cs) (p:=p)) Uy
theorem bt{n i a df:Nat}{ps:List Nat}{ts:List T}{vs:List V}{v' r':V}{s DK:Store}(h1:fns[i]?=some ⟨a,ps,df,ts⟩)(h2:bindArgs ps vs df=some loc)(h3:KY (DZ n) ts loc (σ++c0::c1::(cs.set p c++ []))=some (.ret v' s))(h4:D5 keep (σ++c0::c1::cs.set p c).length s v'=some (r',DK)):(DZ (n+1)).call keep i vs (σ++c0::c1::cs.set p c)=some (r',DK):=by
 rw [υ] at h3;exact Y1 h1 h2 h3 h4
theorem mQ{n i a df:Nat}{ps:List Nat}{ts:List T}{vs:List V}{r':V}{s DK:Store}{DG:Di}(h1:fns[i]?=some ⟨a,ps,df,ts⟩)(h2:bindArgs ps vs df=some loc)(h3:KY (DZ n) ts loc (σ++c0::c1::(cs.set p c++ []))=some (.go 0 DG s))(h4:D5 keep (σ++c0::c1::cs.set p c).length s (.d .none)=some (r',DK)):(DZ (n+1)).call keep i vs (σ++c0::c1::cs.set p c)=some (r',DK):=by
 rw [υ] at h3;exact jo h1 h2 h3 h4
theorem mD(R:Rf k [v] rs)(Fl:rs.Nodup)(hr:rs.length<300)(hk:k<300):(DZ (n+3)).call true 7 [.d v] (σ++c0::c1::(cs.set p c++ []))=some (.cell (σ.length+(cs.length+(0+2))),σ++c0::c1::(cs.set p c++ [I8 rs])):=by
 have z:=bV (n:=n) (σ:=σ++c0::c1::cs.set p c) R Fl hr hk;rw [π,←Nat.add_zero (σ++c0::c1::cs.set p c).length,eY] at z;exact C9 (υ _) z
theorem iN{rs:List Int}(R:Rf k [v] rs)(hk:k<300)(hr:rs= []∨ ∃a,rs= [a]∧Js ks ws bs d a)(hp:p<cs.length)(hc:cs[p+1]?=some (Lp σ.length p (E2 ks ws IF) (PS bs)))(T:Tn ks ws vs vs kl tv [])(hv:vs.length+d<300):
  ∃D4 Oi PB I5,(DZ (n+5)).call false 33 [.cell (σ.length+(p+3)), .d v] (σ++D1 vs::Dv σ.length tr::cs.set p (EO kl tv))=some (.d (.nd .lst (I5.map FN)),σ++D1 D4::Dv σ.length tr::cs.set p (EO Oi PB))∧Tn ks ws vs D4 Oi PB I5∧D4.length≤vs.length+d:=by
 have Fl:rs.Nodup:=by rcases hr with rfl|⟨a,rfl,_⟩<;>simp
 have hrl:rs.length<300:=by rcases hr with rfl|⟨a,rfl,_⟩<;>simp
 have rf:=λn=>mD (n:=n) (σ:=σ) (c0:=D1 vs) (c1:=Dv σ.length tr) (cs:=cs) (p:=p) (c:=EO kl tv) R Fl hrl hk
 have hl: ∃DG D4 Oi PB I5 c',EC (M9 (nd (DZ (n+4)) T7).ev) (nd (DZ (n+4)) U4).ex SE (DR (DR (DR [(132, .cell (σ.length+(p+3))),(158, .d v)] 93 (.cell (σ.length+(cs.length+(0+2))))) 63 (.cell (σ.length+(cs.length+(1+2))))) 44 (.d (.int ((0:Nat):Int)))) (σ++D1 vs::Dv σ.length tr::(cs.set p (EO kl tv)++ [I8 rs,I8 []]))=some (.go 0 DG (σ++D1 D4::Dv σ.length tr::(cs.set p (EO Oi PB)++ [c',I8 I5])))∧DE DG 63=some (.cell (σ.length+(cs.length+(1+2))))∧Tn ks ws vs D4 Oi PB I5∧D4.length≤vs.length+d:=by
  rcases hr with rfl|⟨a,rfl,N⟩
  ·exact (GA _ vs kl tv ([]) (I8 []) (UK (fuel:=1999) (ln:= []) (by fin2) Da) (by fin2) T (Ζ _ _))
  ·exact iy (fuel:=1999) (ln:= []) N hp hc (by exact zZ hv rfl) (by exact IJ hv rfl) (show 0+d<_ by exact zsj hv rfl) (show 0+d<_ by exact zsj hv rfl) T (by fin2) (by fin2) (by fin2) Da
 refine Mk hl λDG D4 Oi PB I5 c' e l1 T' b=> ?_;clear hl;refine (TI D4 Oi PB I5 ?_ T' b);apply bt rfl rfl
 cell_ask ⟨Pu,rf,zT⟩
 exact e
 fin2
 exact k_end (congrArg (λl=>some (Dh.lv .lst l)) VU)
theorem Tv{j:Nat}(hj:j<vs.length)(hv:vs.length<500):(DZ (n+1)).call false 12 [.cell (σ.length+1), .d (.int ((j+1:Nat):Int)), .d (.int ((0:Nat):Int)), .d v] (σ++D1 vs::Dv σ.length tr::r)=some (.d .none,σ++D1 (vs.set j v)::Dv σ.length tr::r):=by
 exact C9 (Am j 1)<|vX hj hv
theorem mv{j:Nat}(h: ∀x∈us,Sf x)(hx:Sf x): ∀y∈us.set j x,Sf y:=λy hy=>(List.mem_or_eq_of_mem_set hy).elim (h y) (λe=>e▸hx)
theorem Z7(hp:p<cs.length)(hc:cs[p+1]?=some (Lp σ.length p (E2 ks ws IF) bd))(T:Ju kl tv M): ∀{fr:List Int} {us:List D} {loc:Di},M=(M3++us).length→M<500→(∀x∈us,Sf x)→(∀b∈fr,∃(m:Nat) (v:D) (rs:List Int),DU kl tv (.p b 0)=some (FN ((m+1:Nat):Int))∧M3.length≤m∧m<M∧EF ks ws b=some v∧ZT v rs)→DE loc 132=some (.cell (σ.length+(p+3)))→
  ∃DG Ir,El (nd (DZ (n+4)) tK).ex 111 (fr.map FN) loc (σ++D1 (M3++us)::Dv σ.length tr::(cs.set p (EO kl tv)++ []))=some (.go 0 DG (σ++D1 (M3++Ir)::Dv σ.length tr::(cs.set p (EO kl tv)++ [])))∧Ir.length=us.length∧ ∀x∈Ir,Sf x:=λ{fr}=>by
 induction fr with
 |nil=>intro us loc _ _ hs _ _;exact (EK loc us rfl rfl hs)
 |cons b fr ih=>
  intro us loc hM hM5 hs hf l1;refine MG (hf b (.head _)) λm v rs e1 e2 e3 e4 s=> ?_;refine DQ (oA T s) λv' R sf=> ?_;have e5:(M3++us).set m v'=M3++us.set (m - M3.length) v':=AI _ _ e2;refine D0 (ih (us:=us.set (m - M3.length) v') (loc:=Dt (σ++D1 (M3++us)::Dv σ.length tr::(cs.set p (EO kl tv)++ [])).length [] (DR loc 111 (.d (FN b)))) (by exact C9 ε<|C9 Φ<|Dr ε hM) hM5 (mv hs sf) (λc hc=>hf c (.tail _ hc)) (D9 (DH rfl l1) (Vx (ο (by have:=(AR.mp hc).1;show _<cs.length+(0+2);exact Κ (Κ this)))))) λDG Ir q q2 q3=> ?_;refine (EK DG Ir ?_ (q2.trans Φ) q3);have sb: ∀τ,E9 τ (.d (Mg ks ws)) (.d (.int b))=some (.d (GP v)):=λτ=>Ga (ks:=ks) (vs:=ws) rfl e4;have rn:=R (n+4) _ _ (uW (σ:=σ) (c0:=D1 (M3++us)) (c1:=Dv σ.length tr) (m:= []) hp) (by exact ψ _ _);have h1:m<(M3++us).length:=by lia
  have h2:(M3++us).length<500:=by lia
  refine EX (r':=D1 (M3++us.set (m - M3.length) v')::Dv σ.length tr::(cs.set p (EO kl tv)++ [])) ?_ rfl q;refine Dr e5 ?_
  cell_ask ⟨MI hc,FL,k_sub hp e1,UD,L9,sb,rn,Tv⟩
theorem lC(hp:p<cs.length)(hc:cs[p+1]?=some (Lp σ.length p (E2 ks ws IF) bd))(T:Tn ks ws M3 vs kl tv fr)(hv:vs.length<500):
  ∃Ir,(DZ (n+5)).call false 34 [.cell (σ.length+(p+3)), .d (.nd .lst (fr.map FN))] (σ++D1 vs::Dv σ.length tr::cs.set p (EO kl tv))=some (.d .none,σ++D1 (M3++Ir)::Dv σ.length tr::cs.set p (EO kl tv))∧(M3++Ir).length=vs.length∧ ∀x∈Ir,Sf x:=by
 obtain ⟨⟨us,rfl,hs⟩,hb,hT,hf⟩:=T;refine D0 (Z7 (n:=n) (tr:=tr) hp hc hT (us:=us) (loc:= [(132, .cell (σ.length+(p+3))),(63, .d (.nd .lst (fr.map FN)))]) rfl hv hs hf (by fin2)) λDG Ir q q2 q3=> ?_;refine (ED Ir ?_ (by (exact C9 ε<|C9 ε<|C9 q2 rfl)) q3);apply mQ rfl rfl
 fin2
 exact Tr rfl
theorem eK{B:Bool}(hp:p<cs.length)(e:Dm kl (.p a 0)=B):FJ (σ++c0::c1::(cs.set p (EO kl tv)++m)) 9 (.d (FN a)) (.cell (σ.length+(p+2)))=some (!B):=e▸vj hp
theorem VB{hd:D}(hp:p<cs.length)(hc:cs[p+1]?=some (Lp σ.length p S bd))(T:Ju kl tv vs.length)(hb:kl.length≤vs.length)(hv:vs.length<400):
  ∃Oi PB,(DZ (n+5)).call false 32 [.cell (σ.length+(p+3)), .d (.nd (.inst 6) [ref a,hd])] (σ++D1 vs::Dv σ.length tr::cs.set p (EO kl tv))=some (.d (ref ((vs.length+1:Nat):Int)),σ++D1 (vs++ [.none])::Dv σ.length tr::cs.set p (EO Oi PB))∧Ju Oi PB (vs++ [D.none]).length∧Oi.length≤(vs++ [D.none]).length:=by
 have z:(vs++ [D.none]).length=vs.length+1:=ε;have ad: ∀x,(DZ (n+4)).call false 13 [.cell (σ.length+1), .d .none] (σ++D1 vs::Dv σ.length tr::x)=some (.d (ref ((vs.length+1:Nat):Int)),σ++D1 (vs++ [.none])::Dv σ.length tr::x):=λx=>Qp (n:=n+2) (by exact IJ hv rfl);cases q:Dm kl (.p a 0) with
 |true=>
  refine (EK kl tv ?_ (T.up (by lia)) (by lia));apply bt rfl rfl
  cell_ask ⟨MI hc,FL,ad,HM,eK hp q⟩
  exact Tr rfl
 |false=>
  refine (EK (D2 kl (.p a 0)) (Dz kl tv (.p a 0) (FN ((vs.length+1:Nat):Int))) ?_ (z▸T.step q) (by exact C9 (EN q)<|C9 ε<|C9 z<|Κ hb));have Ri:kl.length<1000:=by exact zrz hb hv rfl
  apply bt rfl rfl
  cell_ask ⟨MI hc,FL,ad,HM,eK hp q,k_put hp⟩
  exact Tr rfl
end
end
section
mutual open A
variable{n k j p d:Nat}{σ DD r:Store}{v:D}{ws M1:List D}{a par:Int}{key:DO}{h:Hd}{q:Nat}{Jw ss:List Nat}
theorem lN{s q:Nat}{B:Bool}(h:(!μ s q)=B):FJ σ 1 (.d (.sym s)) (.d (.sym q))=some B:=h▸rfl
theorem Y8{R:Nat→D→Prop}{Q:Nat→D→Prop}{ss:List Nat}{ws:List D}{f:Nat×D→D}(h:DS R ss ws)(k: ∀s v,s∈ss→R s v→Q s (f (s,v))):DS Q ss ((ss.zip ws).map f):=by
 induction h with
 |nil=>exact .nil
 |cons r _ ih=>exact .cons (k _ _ (.head _) r) (ih λs v hs=>k s v (.tail _ hs))
theorem iw(nd:(15::Jw).Nodup)(hl:Jw.length=M1.length)(sO:Jw.length<60):(DZ (n+2)).call false 35 [.d (.nd (.inst 6) [ref a,sd (15::Jw) (ref par::M1)])] σ=some (.d (.nd (.Dg 1 (D2 (Jw.map .s) (.s 26))) (Dz (Jw.map .s) M1 (.s 26) (EM 13))),σ):=by
 have la:=QO (ss:=15::Jw) (ws:=ref par::M1) nd (congrArg (· +1) hl);have oQ:=(Η.mp nd)
 have cg: ∀τ,EB (Fz 81 0 (Mine.Internal.nd (DZ (n+1)) qh).ev ((GT (DZ (n+1)) [ry]).map Nd.ev) [(108, .d (.nd (.inst 6) [ref a,sd (15::Jw) (ref par::M1)]))]) ((15::Jw).map .sym) τ=some ((((Jw.zip M1).map λp=>D.nd .tup [.sym p.1,p.2])).map .d,τ):=λτ=>by
  refine FH (DD:=τ) (p:=none) (Mj (DD:=τ) rfl (JY (DD:=τ) (B:=false) ?_ rfl)) ?_
  ·fin2
  ·cases la with
   |cons _ la=>
    refine Hk (g:=D.sym) (Y8 la λs v hs e=> ?_)
    have RP:(!μ s 15)=true:=by
     cases q:μ s 15 with
     |false=>rfl
     |true=>exact absurd (AO q▸hs) oQ.1
    refine EL (DD:=τ) rfl ?_ ?_
    ·cell_ask ⟨lN RP⟩
    ·cell_ask ⟨MH⟩
 have bb:=Eo (key:= .s 26) (q:=1) (j:=(Jw.map DO.s).length) (by exact C9 (ι _)<|IJ sO rfl) rfl;apply EW rfl rfl
 cell_ask ⟨R4,cg,QP oQ.2 hl,Em⟩
 exact MZ (k:=0) (by exact Dr (IA _) rfl)
end
end
section
mutual open A
variable{n i d:Nat}{σ DD DK r:Store}{v:D}{w:V}{lv:List V}{loc:Di}{h:Hd}{q:Nat}{S bd:D}{G:HL}{as:List Nat}{tl:List T}{t:T}
theorem bW:Hx G loc [] [] σ=some ([],σ):=rfl
theorem Vs(h1:(nd G t).ev loc σ=some (w,DD))(h2:Hx G loc as tl DD=some (lv,DK)):Hx G loc (a'::as) (.mk 51 a' [t, .mk 0 q []]::tl) σ=some (w::lv,DK):=by
 show F9 (true&&μ a' a') _=_;refine C9 (AH _) ?_;show EI ((nd G t).ev loc σ) (λv σ=>EI (Hx G loc as tl σ) λl σ=>some (v::l,σ))=_;exact DJ h1 (DJ h2 rfl)
theorem Uq:(DZ (n+1)).init 5 [] (σ++ [])=some ([.cell (σ.length+0), .d (sd [] [])],σ++ [.lv (.Dg 0 []) []]):=by
 show Hx (DZ n) [(144, .d .none),(153, .d .none)] [144,153] Hy.body (σ++ [])=_;unfold Hy
 cell_ask ⟨Vs,bW,dR⟩
theorem hW{t:List V}:Df true h t (σ++r)=some (.cell (σ.length+r.length),σ++(r++ [.lv h t])):=ZN r
theorem ah{bd:D}(hb: ∀r,(DZ (n+1)).call false 29 [.d S] (σ++r)=some (.d bd,σ++r)):(DZ (n+2)).init 8 [.d S, .cell i] (σ++r)=some ([.d S, .cell i, .cell (σ.length+r.length), .d bd],σ++(r++ [.lv (.Dg 2 []) []])):=by
 show Hx (DZ (n+1)) [(133, .d S),(95, .cell i)] [133,95,144,46] Gd.body (σ++r)=_;unfold Gd
 cell_ask ⟨Vs,bW,dR,hW,hb⟩
end
end
section
mutual open A
variable{n k i j N p M M' d J:Nat}{σ DD r cs:Store}{x tr:D}{vs tv:List D}{a:Int}{kl:List DO}{lv:List V}{loc:Di}{h:Hd}{c c0 c1 y:Dh}{q:Nat}{S bd:D}
structure Cs(N J M:Nat)(S bd:D)(cs:Store):Prop where
 t: ∀j,j<J→ ∃kl tv,cs[2*j]?=some (EO kl tv)∧Ju kl tv M∧kl.length≤M
 c: ∀j,j<J→cs[2*j+1]?=some (Lp N (2*j) S bd)
 l: ∃lv,cs[2*J]?=some (.lv .lst lv)∧ ∀j,j<J→lv[j]?=some (.cell (N+(2*j+3)))
theorem Cs.set(C:Cs N J M S bd cs)(hj:j<J)(hM:M≤M')(T:Ju kl tv M')(hk:kl.length≤M'):Cs N J M' S bd (cs.set (2*j) (EO kl tv)):=by
 refine ⟨λi hi=> ?_,λi hi=> ?_, ?_⟩
 ·refine D0 (C.t i hi) λOi PB e T' zc=> ?_
  rcases Nat.decEq i j with q|q
  ·exact (EK Oi PB (by exact C9 (Ao (by lia)) e) (T'.up hM) (by exact Υ zc hM))
  ·cases q
   exact (EK kl tv (BQ (AR.mp e).1) T hk)
 ·exact C9 (Ao (by lia))<|C.c i hi
 ·refine DQ C.l λlv e h=> ?_
  exact (DM lv (by exact C9 (Ao (by lia)) e) h)
theorem bF{l:Store}: ∀{p:Nat},l[p]?=some c→l.set p c=l:=by
 induction l with
 |nil=>intro p h;rfl
 |cons a l ih=>
  intro p h;cases p with
  |zero=>exact congrArg (· ::l) (η h).symm
  |succ p=>exact congrArg (a:: ·) (ih h)
abbrev MK(x:Nat×Int×D):D:= .nd .tup [.int (x.1:Int), .nd (.inst 6) [ref x.2.1,x.2.2]]
theorem UW(C:Cs N J M S bd cs)(hj:j<J)(hN:N=σ.length):E9 (σ++c0::c1::cs) (.cell (σ.length+(2*J+2))) (.d (.int (j:Int)))=some (.cell (σ.length+(2*j+3)))∧Ew (σ++c0::c1::cs) (.cell (σ.length+(2*j+3)))=some (8, [.d S, .cell (N+1), .cell (N+(2*j+2)), .d bd]):=by
 refine DQ C.l λlv e h=> ?_;exact ⟨OO (r:=c0::c1::cs) (k:=2*J+2) e (hN▸h j hj),FL (r:=c0::c1::cs) (k:=2*j+3) (C.c j hj)⟩
theorem Y9(hl:DE loc 53=some (.cell (σ.length+(2*J+2)))): ∀{pl:List (Nat×Int×D)} {vs:List D} {cs:Store},(∀x∈pl,x.1<J)→vs.length+pl.length<400→Cs σ.length J vs.length S bd cs→
  ∃Y4,EB (Fz 44 108 (nd (DZ (n+5)) nN).ev ((GT (DZ (n+5)) []).map Nd.ev) loc) (pl.map MK) (σ++D1 vs::Dv σ.length tr::cs)=some ((Fk (vs.length+1) pl.length).map λa=> .d (ref a),σ++D1 (vs++AA pl.length .none)::Dv σ.length tr::Y4)∧Cs σ.length J (vs.length+pl.length) S bd Y4∧Y4.length=cs.length:=λ{pl}=>by
 induction pl with
 |nil=>intro vs cs _ _ C;exact (ED cs (by exact C9 (show AA ([]:List (Nat×Int×D)).length D.none= [] from rfl)<|C9 (υ _) rfl) C rfl)
 |cons x pl ih=>
  intro vs cs hj hv C;refine wr λZ0 z0=> ?_;refine D0 (C.t x.1 (hj x (.head _))) λkl tv e T hk=> ?_;have hp:2*x.1<cs.length:=(AR.mp e).1;have hc:=C.c x.1 (hj x (.head _));rw [ξ] at hv;refine D0 (VB (n:=n) (σ:=σ) (tr:=tr) (a:=x.2.1) (hd:=x.2.2) hp hc T hk (by exact PU hv)) λOi PB q T' zc=> ?_;rw [bF e] at q;have z:(vs++ [D.none]).length=vs.length+1:=ε;refine ES (ih (vs:=vs++ [.none]) (cs:=cs.set (2*x.1) (EO Oi PB)) (λy hy=>hj y (.tail _ hy)) (by exact zqP hv z) (C.set (hj x (.head _)) (by lia) T' zc)) λY4 q2 C' l2=> ?_;refine Dl (UW (σ:=σ) (c0:=D1 vs) (c1:=Dv σ.length tr) C (hj x (.head _)) rfl) λa1 a2=> ?_;refine z0 ?_
  have h1:Fz 44 108 (nd (DZ (n+5)) nN).ev ((GT (DZ (n+5)) []).map Nd.ev) loc (MK x) (σ++D1 vs::Dv σ.length tr::cs)=some (some (.d (ref ((vs.length+1:Nat):Int))),σ++D1 (vs++ [.none])::Dv σ.length tr::cs.set (2*x.1) (EO Oi PB)):=by
   refine EL (DG:=(108, .d (.nd (.inst 6) [ref x.2.1,x.2.2]))::(44, .d (.int (x.1:Int)))::loc) (DD:=σ++D1 vs::Dv σ.length tr::cs) rfl FE ?_
   cell_ask ⟨a1,a2,q⟩
  refine (ED Y4 ((FH h1 q2).trans ?_) ?_ (l2.trans Φ))
  ·exact C9 z<|C9 (π _ _ _)<|C9 (show [D.none]++AA pl.length D.none=AA (pl.length+1) D.none from rfl) rfl
  ·rw [z,BZ,Am 1] at C';exact C'
end
end
section
mutual open A
variable{n k i j M d:Nat}{σ r m:Store}{v x tr:D}{vs ws tv M1 ps:List D}{rs:List Int}{b:Int}{kl:List DO}{lv fl:List V}{key:DO}{h:Hd}{q:Nat}{Jw ss:List Nat}
structure Hp(v:D):Prop where
 e: ∃ss ws,v=sd ss ws∧E3 ss ws 26=EM 13∧DU (ss.map .s) ws (.s 10)=some HU∧E3 ss ws 17= .none∧E3 ss ws 4= .none∧E3 ss ws 19= .none∧9 ∉ ss∧12 ∉ ss
abbrev gc:List Int:= [1,2,3,30,40,41,42]
inductive My:List Nat→List D→List Int→Prop
 |no:My [10,26] [HU,EM 13] []
 |x1 (x:Int):x∈gc→My [10,27,26] [HU,ref x,EM 13] [x]
 |x2 (x:Int):x∈gc→My [10,26,27] [HU,EM 13,ref x] [x]
theorem My.len{ss:List Nat}{ws:List D}{rs:List Int}(B:My ss ws rs):ss.length<10:=by cases B<;>decide
theorem gb(P:RN Jw M1): ∃ss ws rs,D2 (Jw.map .s) (.s 26)=ss.map .s∧Dz (Jw.map .s) M1 (.s 26) (EM 13)=ws∧My ss ws rs:=by
 cases P with
 |plain T=>cases T<;>exact (LP ([10,26]) _ _ rfl rfl .no)
 |x T hx=>cases T with
  |no=>exact (LP ([10,27,26]) _ _ rfl rfl (.x1 _ hx))
  |_=>exact (LP ([10,26,27]) _ _ rfl rfl (.x2 _ hx))
theorem Li:Rf k ps rs→Rf (k+5) (HU::ps) rs:=λh=> .other (.lst _) (.other (.int _) (.other (.int _) (.other (.int _) (.other (.int _) h))))
theorem My.rf(B:My ss ws rs): ∃k,k<300∧Rf k [sd ss ws] rs:=by
 cases B with
 |no=>exact (DM 7 (by decide) (.other (.Dg (ss:= [10,26]) (ps:= [HU,EM 13]) (by decide) (.cons rfl (.cons rfl .nil))) (Li (.other (.EM _) .nil))))
 |x1 x h=>exact (DM 8 (by decide) (.other (.Dg (ss:= [10,27,26]) (ps:= [HU,EM 13,ref x]) (by decide) (.cons rfl (.cons rfl (.cons rfl .nil)))) (Li (.other (.EM _) (.ref .nil)))))
 |x2 x h=>exact (DM 8 (by decide) (.other (.Dg (ss:= [10,26,27]) (ps:= [HU,EM 13,ref x]) (by decide) (.cons rfl (.cons rfl (.cons rfl .nil)))) (Li (.other (.EM _) (.ref .nil)))))
theorem Ut:Rn kl tv 4 HU HU:=(Us (K:=1) (.cons Lu (.cons Lu (.cons Lu (.cons Lu .nil))))).up (by exact Ac _)
theorem VX{s:Nat}:Rn kl tv 4 (EM s) (EM s):=Zm.up (by exact ψ _ _)
theorem My.rn(B:My ss ws rs)(T:Ju kl tv M):ss.Nodup∧ss.length=ws.length∧ ∃F8,DS (Rn kl tv 4) ws F8∧15 ∉ FO ss F8∧Hp (sd (FO ss F8++ [15]) (GJ F8++ [ref 2])):=by
 cases B with
 |no=>exact ⟨by decide,rfl, [HU,EM 13], .cons Ut (.cons VX .nil),by decide,⟨[10,26,15],_,rfl,rfl,rfl,rfl,rfl,rfl,by decide,by decide⟩⟩
 |x1 x h=>
  obtain ⟨v,R,e⟩:=Qd (b:=x) T;refine ⟨by decide,rfl, [HU,v,EM 13], .cons Ut (.cons (R.up (by exact ψ _ _)) (.cons VX .nil)), ?_⟩;rcases e with rfl|⟨m,rfl⟩
  ·exact ⟨show 15 ∉ [10,26] by decide,⟨[10,26,15],_,rfl,rfl,rfl,rfl,rfl,rfl,by decide,by decide⟩⟩
  ·exact ⟨show 15 ∉ [10,27,26] by decide,⟨[10,27,26,15],_,rfl,rfl,rfl,rfl,rfl,rfl,by decide,by decide⟩⟩
 |x2 x h=>
  obtain ⟨v,R,e⟩:=Qd (b:=x) T;refine ⟨by decide,rfl, [HU,EM 13,v], .cons Ut (.cons VX (.cons (R.up (by exact ψ _ _)) .nil)), ?_⟩;rcases e with rfl|⟨m,rfl⟩
  ·exact ⟨show 15 ∉ [10,26] by decide,⟨[10,26,15],_,rfl,rfl,rfl,rfl,rfl,rfl,by decide,by decide⟩⟩
  ·exact ⟨show 15 ∉ [10,26,27] by decide,⟨[10,26,27,15],_,rfl,rfl,rfl,rfl,rfl,rfl,by decide,by decide⟩⟩
theorem My.refs(B:My ss ws rs):rs= []∨ ∃x,rs= [x]∧x∈gc:=by
 cases B with
 |no=>exact .inl rfl
 |x1 x h=>exact .inr (DM x rfl h)
 |x2 x h=>exact .inr (DM x rfl h)
theorem RN.Fl(P:RN Jw M1):(15::Jw).Nodup∧Jw.length=M1.length∧Jw.length<60:=by
 cases P with
 |plain T=>cases T<;>exact ⟨by decide,rfl,by decide⟩
 |x T hx=>cases T<;>exact ⟨by decide,rfl,by decide⟩
theorem zO{d:D}(ds:List D)(e:r[k]?=some (.lv h (ds.map .d))):Df false .tup [.d d, .cell (σ.length+k)] (σ++r)=some (.d (.nd .tup [d, .nd h ds]),σ++r.set k (.fz (.nd h ds))):=show EI (HS (Hz FZ) _ _) (λds σ=>some (V.d (.nd .tup ds),σ))=_ from DJ (OV (XQ e rfl)) rfl
theorem uc{j:Nat}{fl:List D}(hj:j<vs.length)(hv:vs.length<500)(e:r[k]?=some (.lv h (fl.map .d))):(DZ (n+1)).call false 12 [.cell (σ.length+1), .d (.int ((j+1:Nat):Int)), .d (.int ((0:Nat):Int)), .cell (σ.length+(k+2))] (σ++D1 vs::Dv σ.length tr::r)=some (.d .none,σ++D1 (vs.set j (.nd h fl))::Dv σ.length tr::r.set k (.fz (.nd h fl))):=by
 refine C9 (Am j 1) ?_;have bb:=Eo (key:= .i ((1+j:Nat):Int)) (q:=0) (j:=((Fk 1 vs.length).map DO.i).length) (by exact C9 (ι _)<|C9 Ic<|IJ hv rfl) rfl;have m2:=zO (σ:=σ) (r:=D1 vs::Dv σ.length tr::r) (k:=k+2) (d:= .int ((0:Nat):Int)) fl e;refine Dr (Wc (v:= .nd h fl) hj) ?_;apply Nx rfl rfl
 ·cell_ask ⟨m2,Ii,Em⟩
 ·exact GL (by exact C9 ε<|C9 ε<|C9 ξ<|C9 ξ<|congrArg (σ.length+ ·) (congrArg (· +2) Φ))
end
end
section
mutual open A
variable{n k i j N p P d J:Nat}{σ r cs m:Store}{v x tr IF:D}{vs ws tv us M1 wt:List D}{ks bs fr rs:List Int}{a b par:Int}{pv:V}{kl:List DO}{lv fl:List V}{loc:Di}{h:Hd}{c c0 c1 y y':Dh}{Jw ss:List Nat}
structure qH(loc:Di)(N J P:Nat)(pv:V):Prop where
 m:DE loc 95=some (.cell (N+1))
 r:DE loc 127=some (.d (ref 1))
 p:DE loc 112=some (.d (ref 2))
 c:DE loc 53=some (.cell (N+(2*J+2)))
 k:DE loc 83=some (.d (.nd .lst ((Fk 3 P).map ref)))
 l:DE loc 115=some pv
theorem iW: ∀{m a i:Nat},i<m→((Fk a m).map λb=>V.d (ref b))[i]?=some (.d (ref ((a+i:Nat):Int))):=λ{m}=>by
 induction m with
 |zero=>intro a i h;exact absurd h (Aw _)
 |succ m ih=>
  intro a i h;cases i with
  |zero=>rfl
  |succ i=>exact C9 (show a+(i+1)=a+1+i by exact wo)<|ih (a:=a+1) (AM h)
theorem ip(h:i<P):E9 σ (.d (.nd .lst ((Fk 3 P).map ref))) (.d (.int (i:Int)))=some (.d (ref ((i+2+1:Nat):Int))):=by
 show (List.map V.d ((Fk 3 P).map ref))[i]?=_;exact C9 Δ<|C9 (show i+2+1=3+i by lia)<|iW h
theorem rB{x:D}(hs:i ∉ ss)(hl:ss.length=ws.length)(hb:ss.length<900):GO (σ++c0::c1::(cs.set p c++ [.lv (.Dg 1 (ss.map .s)) (ws.map .d)])) (.cell (σ.length+(cs.length+(0+2)))) (.d (.sym i)) (.d x)=some (σ++c0::c1::(cs.set p c++ [.lv (.Dg 1 ((ss++ [i]).map .s)) ((ws++ [x]).map .d)])):=
 (Em (MT (j:=0) rfl) rfl (Eo (by exact C9 (ι _)<|IJ hb rfl) rfl)).trans (by exact C9 (LX hs hl)<|C9 T4 rfl)
theorem yA{kl:List DO}{tv:List D}(nd:ss.Nodup)(hl:ss.length=ws.length)(h:DS (Rn kl tv 4) ws wt)(hp:p<cs.length):(DZ (n+5)).call true 8 [.d (sd ss ws), .cell (σ.length+(p+2))] (σ++c0::c1::cs.set p (EO kl tv))=some (.cell (σ.length+(cs.length+(0+2))),σ++c0::c1::(cs.set p (EO kl tv)++ [.lv (.Dg 1 ((FO ss wt).map .s)) ((GJ wt).map .d)])):=by
 have pt:=uW (σ:=σ) (c0:=c0) (c1:=c1) (kl:=kl) (tv:=tv) (m:= []) hp;rw [υ] at pt;refine Zv (K:=3) (m:=n+3) nd hl h pt (by exact ψ _ _) ?_;have z:=Ld (σ:=σ++c0::c1::cs.set p (EO kl tv)) (r:= [.lv (.Dg 1 ((FO ss wt).map .s)) ((GJ wt).map .d)]) (k:=0) rfl (λc h=>nomatch h) (λh=>nomatch h);exact C9 z<|Dr (Nat.add_zero (σ++c0::c1::cs.set p (EO kl tv)).length)<|C9 eY<|C9 (π _ _ _) rfl
theorem aZ:(cs.set p c++ [y]).set cs.length y'=cs.set p c++ [y']:=by
 exact C9 (AI _ _ (by rw [Φ];exact Ι _))<|C9 Φ<|C9 (Ai _) rfl
theorem cI(C:Cs σ.length J vs.length (E2 ks ws IF) (PS bs) cs)(hN: ∀x∈gc,Js ks ws bs 3 x)(L:qH loc σ.length J P pv)(hj:j<J)(xh:E9 (σ++D1 vs::Dv σ.length tr::cs) pv (.d (.int (i:Int)))=some (.d (MK (j,a,sd (15::Jw) (ref par::M1)))))(F:RN Jw M1)(hi:i<P)(hv:vs.length<250)(hi2:i+2<vs.length):
  ∃Y4 Ir v ss wb f,(nd (DZ (n+6)) mz).ex (DR loc 139 (.d (.int (i:Int)))) (σ++D1 vs::Dv σ.length tr::cs)=some (.go 0 (DR (DR (DR (DR (DR (DR loc 139 (.d (.int (i:Int)))) 108 (.d (.nd (.inst 6) [ref a,sd (15::Jw) (ref par::M1)]))) 44 (.d (.int (j:Int)))) 52 (.cell (σ.length+(2*j+3)))) 59 (.d (sd ss wb))) 87 (.cell (σ.length+(cs.length+(0+2))))) (σ++(D1 ((vs++Ir).set (i+2) v)::Dv σ.length tr::Y4++ [f])))∧
   Hp v∧(∀x∈Ir,Sf x)∧Cs σ.length J (vs++Ir).length (E2 ks ws IF) (PS bs) Y4∧Y4.length=cs.length∧Ir.length≤3:=by
 refine wr λZ0 z0=> ?_;refine D0 (C.t j hj) λkl tv e T hk=> ?_;have hp:2*j<cs.length:=(AR.mp e).1;have hc:=C.c j hj;refine XN (gb F) λss wb rs e1 e2 B=> ?_;refine DQ B.rf λkr hkr R=> ?_;refine ET F.Fl λnd1 nl1 nl2=> ?_;have Bo:=λτ=>iw (n:=n+4) (σ:=τ) (a:=a) (par:=par) nd1 nl1 nl2;rw [e1,e2] at Bo;refine JK (iN (n:=n+1) (σ:=σ) (tr:=tr) (d:=3) R hkr (B.refs.imp id λ⟨x,h1,h2⟩=>(DM x h1 (hN x h2))) hp hc ⟨(DM ([]) ((υ _).symm) (λO h=>absurd h Γ)),hk,T,λO h=>absurd h Γ⟩ (by exact zqj hv rfl)) λvs1 tU sy fr q1 T1 b1=> ?_;rw [bF e] at q1;refine ES (lC (n:=n+1) (σ:=σ) (tr:=tr) hp hc T1 (by exact zqu hv b1 rfl)) λIr q2 z2 sf=> ?_;refine i9 (B.rn T1.v) λndb nlb wt rn n15 lo=> ?_;have q3:=yA (n:=n+1) (σ:=σ) (c0:=D1 (vs++Ir)) (c1:=Dv σ.length tr) ndb nlb rn hp;have lw:ss.length=wt.length:=nlb.trans rn.length;have hs:(FO ss wt).length≤ss.length:=Rg.length_le;have wA:=B.len;have q4:=rB (σ:=σ) (c0:=D1 (vs++Ir)) (c1:=Dv σ.length tr) (cs:=cs) (p:=2*j) (c:=EO tU sy) (x:=ref 2) n15 (TU lw) (by exact zrz hs wA rfl);have zz:(vs++Ir).length=vs.length+Ir.length:=ε;have q5:=uc (n:=n+5) (σ:=σ) (vs:=vs++Ir) (tr:=tr) (r:=cs.set (2*j) (EO tU sy)++ [.lv (.Dg 1 ((FO ss wt++ [15]).map .s)) ((GJ wt++ [ref 2]).map .d)]) (k:=cs.length) (j:=i+2) (h:= .Dg 1 ((FO ss wt++ [15]).map .s)) (fl:=GJ wt++ [ref 2]) (by lia) (by lia) (by exact C9 (AG (by rw [Φ];exact Ι _))<|C9 Φ<|C9 (Ai _) rfl);rw [aZ] at q5;have C1:Cs σ.length J (vs++Ir).length (E2 ks ws IF) (PS bs) (cs.set (2*j) (EO tU sy)):=C.set hj (by refine C9 z2 ?_;refine DQ T1.t λus hu O=> ?_;exact C9 hu<|C9 ε<|Ζ _ _) (z2▸T1.v) (z2▸T1.b);refine Dl (UW (σ:=σ) (c0:=D1 vs) (c1:=Dv σ.length tr) C hj rfl) λa1 a2=> ?_;refine z0 ?_;have a3:=(UW (σ:=σ) (c0:=D1 (vs++Ir)) (c1:=Dv σ.length tr) C1 hj rfl).2;have at3:Hh (σ++D1 (vs++Ir)::Dv σ.length tr::cs.set (2*j) (EO tU sy)) (.cell (σ.length+(2*j+3))) 144=some (.cell (σ.length+(2*j+2))):=DB a3 rfl;have ik: ∀τ,E9 τ (.d (.nd .lst ((Fk 3 P).map ref))) (.d (.int (i:Int)))=some (.d (ref ((i+2+1:Nat):Int))):=λτ=>ip hi;have lm:=L.m;have lr:=L.r;have lq:=L.p;have lc:=L.c;have lk:=L.k;have ll:=L.l;refine (J1 (cs.set (2*j) (EO tU sy)) Ir (sd (FO ss wt++ [15]) (GJ wt++ [ref 2])) ss wb (.fz (sd (FO ss wt++ [15]) (GJ wt++ [ref 2]))) ?_ lo sf C1 Φ ?_)
 ·cell_ask ⟨Pu,xh,a1,a2,Bo,q1,q2,at3,q3,q4,ik,FL,q5⟩
 ·lia
end
end
section
mutual open A
variable{n k i j N p P d J g:Nat}{σ r cs m:Store}{v x tr IF:D}{ws us M1 lp:List D}{ks bs:List Int}{a par:Int}{w pv:V}{loc:Di}{h:Hd}{c:Dh}{q:Nat}{Jw ss:List Nat}
def cP(J:Nat)(x:Nat×Int×D):Prop:=x.1<J∧ ∃Jw M1 par,x.2.2=sd (15::Jw) (ref par::M1)∧RN Jw M1
theorem iG: ∀{lp:List D} {z w:D} {l:List D},(lp++z::l).set lp.length w=lp++w::l:=λ{lp}=>by
 induction lp with
 |nil=>intro z w l;rfl
 |cons a lp ih=>intro z w l;exact congrArg (a:: ·) ih
theorem qH.turn{m N:Nat}{x1 x2 x3 x4 x5 x6:V}(L:qH loc N J P pv)(h1:FP m pv=false)(h2:FP m (.cell (N+1))=false)(h3:FP m (.cell (N+(2*J+2)))=false):qH (Dt m [] (DR (DR (DR (DR (DR (DR loc 139 x1) 108 x2) 44 x3) 52 x4) 59 x5) 87 x6)) N J P pv:=by
 have k: ∀{x:Nat} {v:V},DE loc x=some v→(μ 139 x||μ 108 x||μ 44 x||μ 52 x||μ 59 x||μ 87 x)=false→FP m v=false→DE (Dt m [] (DR (DR (DR (DR (DR (DR loc 139 x1) 108 x2) 44 x3) 52 x4) 59 x5) 87 x6)) x=some v:=λh e hv=>by
  rw [AU,AU,AU,AU,AU] at e;obtain ⟨⟨⟨⟨⟨e1,e2⟩,e3⟩,e4⟩,e5⟩,e6⟩:=e;exact D9 (DH e6 (DH e5 (DH e4 (DH e3 (DH e2 (DH e1 h)))))) hv
 exact ⟨k L.m rfl h2,k L.r rfl rfl,k L.p rfl rfl,k L.c rfl h3,k L.k rfl rfl,k L.l rfl h1⟩
abbrev OL(lp:List D)(g:Nat)(us:List D):List D:=D.none::D.none::(lp++(AA g D.none++us))
theorem aL(hN: ∀x∈gc,Js ks ws bs 3 x)(xj:FP σ.length pv=false)(lT: ∀r i,i<P→ ∃x,cP J x∧E9 (σ++r) pv (.d (.int (i:Int)))=some (.d (MK x))): ∀{g i:Nat} {lp us:List D} {cs:Store} {loc:Di},i+g=P→lp.length=i→(∀x∈lp,Hp x)→(∀x∈us,Sf x)→2+P+us.length+3*g<60→Cs σ.length J (2+P+us.length) (E2 ks ws IF) (PS bs) cs→qH loc σ.length J P pv→
  ∃DG Y4 zs Ir,El (nd (DZ (n+6)) mz).ex 139 (HH (i:Int) g) loc (σ++D1 (OL lp g us)::Dv σ.length tr::cs)=some (.go 0 DG (σ++D1 (OL zs 0 Ir)::Dv σ.length tr::Y4))∧zs.length=P∧(∀x∈zs,Hp x)∧(∀x∈Ir,Sf x)∧qH DG σ.length J P pv∧2+P+Ir.length<60:=λ{g}=>by
 induction g with
 |zero=>
  intro i lp us cs loc hi hl h1 h2 hb C L;exact ⟨loc,cs,lp,us,rfl,by exact hl.trans hi,h1,h2,L,by exact hb⟩
 |succ g ih=>
  intro i lp us cs loc hi hl h1 h2 hb C L;obtain ⟨⟨j,a,hd⟩,⟨hj,Jw,M1,par,rfl,F⟩,hs⟩:=lT (D1 (OL lp (g+1) us)::Dv σ.length tr::cs) i (by exact t9 hi)
  have len:(OL lp (g+1) us).length=2+P+us.length:=by
   show (lp++(AA (g+1) D.none++us)).length+1+1=_;refine C9 ε<|C9 ε<|C9 List.length_replicate ?_;lia
  refine Ho (cI (n:=n) (σ:=σ) (tr:=tr) (len▸C) hN L hj hs F (by exact t9 hi) (by lia) (by lia)) λY4 Ir v ss wb f q lo sf C' l' u3=> ?_
  have e:(OL lp (g+1) us++Ir).set (i+2) v=OL (lp++ [v]) g (us++Ir):=by
   show D.none::D.none::((lp++(D.none::(AA g D.none++us)))++Ir).set i v=_;refine C9 (π _ _ _)<|Dr hl ?_
   show D.none::D.none::(lp++D.none::(AA g D.none++us++Ir)).set lp.length v=_;refine C9 iG ?_;show _=D.none::D.none::((lp++ [v])++(AA g D.none++(us++Ir)));exact C9 (π _ _ _)<|C9 (π _ _ _) rfl
  rw [e] at q;rw [ε,len] at C';have lw: ∀{q:Nat},q<cs.length+2→FP (σ++D1 (OL lp (g+1) us)::Dv σ.length tr::cs).length (.cell (σ.length+q))=false:=λh=>JA (ο h);have cl:2*J<cs.length:=by refine DQ C.l λO e O=> ?_;exact (AR.mp e).1
  have AL:=L.turn (m:=(σ++D1 (OL lp (g+1) us)::Dv σ.length tr::cs).length) (x1:= .d (.int (i:Int))) (x2:= .d (.nd (.inst 6) [ref a,sd (15::Jw) (ref par::M1)])) (x3:= .d (.int (j:Int))) (x4:= .cell (σ.length+(2*j+3))) (x5:= .d (sd ss wb)) (x6:= .cell (σ.length+(cs.length+(0+2)))) (nK xj) (lw (by exact ψ _ _)) (lw (by exact Κ (Κ cl)))
  refine Hl (ih (i:=i+1) (lp:=lp++ [v]) (us:=us++Ir) (cs:=Y4) (by exact qy hi) (by exact C9 ε<|C9 hl rfl) (λx hx=>(ω.mp hx).elim (h1 x) (λhx=>ς.mp hx▸lo)) (λx hx=>(ω.mp hx).elim (h2 x) (sf x)) (by refine C9 ε ?_;lia) (by exact C9 ε<|Dr (BZ _ _ _) C')
   AL) λI7 xu xN us2 q2 r1 r2 r3 r4 r5=> ?_
  exact (Gn I7 xu xN us2 (ND q (congrArg (· +2) l') q2) r1 r2 r3 r4 r5)
end
end
section
mutual open A
variable{n k i j N p P M d J g:Nat}{σ DT DD r cs m:Store}{v x u tr IF:D}{vs ws us lp:List D}{ks bs:List Int}{a b:Int}{pv:V}{kl:List DO}{lv fl:List V}{key:DO}{loc:Di}{h:Hd}{c0 c1:Dh}{q:Nat}{S bd:D}{pl:List (Nat×Int×D)}
theorem TS{bd:D}{f:Di}(hb: ∀r,(DZ (n+1)).call false 29 [.d S] (σ++r)=some (.d bd,σ++r))(l1:DE loc 95=some (.cell (σ.length+1)))(hr:r.length=p+2):Fz 133 0 (nd (DZ (n+2)) tI).ev ((GT (DZ (n+2)) []).map Nd.ev) loc S (σ++r)=some (some (.cell (σ.length+(p+3))),σ++(r++ [EO [] [],Lp σ.length p S bd])):=by
 have ic:=ah (i:=σ.length+1) (r:=r) hb;have mk:=hW (σ:=σ) (h:= .inst 8) (r:=r++ [.lv (.Dg 2 []) []]) (t:= [.d S, .cell (σ.length+1), .cell (σ.length+r.length), .d bd]);rw [hr] at ic mk;rw [π,ε,hr] at mk;refine EL (DG:=(133, .d S)::loc) (DD:=σ++r) rfl FE ?_
 cell_ask ⟨cX,ic⟩
 exact mk
theorem yo:Ju [] [] M:=⟨rfl,λkey v h=>nomatch h⟩
theorem iE{bd:D}(hJ:J=1∨J=2)(hb: ∀r,(DZ (n+1)).call false 29 [.d S] (σ++r)=some (.d bd,σ++r))(l1:DE loc 95=some (.cell (σ.length+1)))(l2:DE loc 134=some (.d (.nd .lst (AA J S)))):
  ∃cs,(nd (DZ (n+2)) sg).ev loc (σ++ [c0,c1])=some (.cell (σ.length+(2*J+2)),σ++c0::c1::cs)∧Cs σ.length J 2 S bd cs:=by
 have t1:=TS (f:=loc) hb l1 (r:= [c0,c1]) (p:=0) rfl;rcases hJ with rfl|rfl
 ·refine (DM ([EO [] [],Lp σ.length 0 S bd, .lv .lst [.cell (σ.length+3)]]) ?_ ⟨λj hj=> ?_,λj hj=> ?_,_,rfl,λj hj=> ?_⟩)
  ·refine WC (Pp (Fh l2) HB) (FH t1 KS) ?_
   exact hW
  all_goals (have:j=0:=by exact vt hj);subst this
  ·exact (EK ([]) ([]) rfl yo (by decide))
  ·rfl
  ·rfl
 ·have t2:=TS (f:=loc) hb l1 (r:= [c0,c1,EO [] [],Lp σ.length 0 S bd]) (p:=2) rfl
  refine (DM ([EO [] [],Lp σ.length 0 S bd,EO [] [],Lp σ.length 2 S bd, .lv .lst [.cell (σ.length+3), .cell (σ.length+5)]]) ?_ ⟨λj hj=> ?_,λj hj=> ?_,_,rfl,λj hj=> ?_⟩)
  ·refine WC (Pp (Fh l2) HB) (FH t1 (FH t2 KS)) ?_
   exact hW
  all_goals (obtain rfl|rfl:j=0∨j=1:=by exact zqk hj)
  ·exact (EK ([]) ([]) rfl yo (by decide))
  ·exact (EK ([]) ([]) rfl yo (by decide))
  ·rfl
  ·rfl
  ·rfl
  ·rfl
theorem oT{q k a:Nat}{u:V}(e:r[k]?=some (.lv (.inst q) lv))(e2:Du (DX q) lv a=some u):Kn (σ++r) (.cell (σ.length+k)) a (.d x)=some (σ++r.set k (.lv (.inst q) (Jx (DX q) lv a (.d x)))):=DJ rfl (DB (Nb e) (DB rfl (DB e2 (congrArg some SO))))
theorem de{ks:List Int}(hN:N=σ.length):D5 false N (σ++Dk ks vs::Dv N tr::cs) (.cell (N+1))=some (.d (E2 ks vs tr),σ):=by
 subst hN;have b:Ε σ.length (σ.length+1)=true:=ο (Ζ _ _);refine (LY b).trans ?_;have f0:HS (Hz 4) [.cell (σ.length+0), .d tr] (σ++Dk ks vs::Dv σ.length tr::cs)=some ([Mg ks vs,tr],σ++ .fz (Mg ks vs)::Dv σ.length tr::cs):=Mh (k:=0) (fl:=vs.map GP) rfl rfl;have f1:Hz FZ (.cell (σ.length+1)) (σ++Dk ks vs::Dv σ.length tr::cs)=some (E2 ks vs tr,(σ++ .fz (Mg ks vs)::Dv σ.length tr::cs).set (σ.length+1) (.fz (E2 ks vs tr))):=DB (HO (k:=1)) (DJ f0 rfl);refine DJ f1 ?_
 (exact C9 (AI _ _ (Ζ _ _))<|C9 (HK _) rfl)
abbrev gM:D:=sd [26,14] [EM 1,ref 2]
abbrev dB(P:Nat):D:=sd [26,7,3] [EM 14, .nd .lst ((Fk 3 P).map ref), .int (P:Int)]
abbrev Ht(lp us:List D):List D:=gM::dB lp.length::(lp++us)
theorem eP(hJ:J=1∨J=2)(hN: ∀x∈gc,Js ks ws bs 3 x)(hb: ∀τ,(DZ (n+5)).call false 29 [.d (E2 ks ws IF)] τ=some (.d (PS bs),τ))(xj:FP σ.length pv=false)(nc:DT.length=σ.length)(xh:pl.length≤10)(hP: ∀x∈pl,cP J x)
  (hit: ∀r,FV pv (σ++r)=some (pl.map MK,DT++r)) (Eb: ∀r,Fj (DT++r) 0 pv=some (.d (.int (pl.length:Int)))) (lT: ∀r (i:Nat) x,pl[i]?=some x→E9 (DT++r) pv (.d (.int (i:Int)))=some (.d (MK x))):
  ∃lp us,lp.length=pl.length∧(∀x∈lp,Hp x)∧(∀x∈us,Sf x)∧2+pl.length+us.length<60∧(DZ (n+7)).call false 36 [.d (.nd .lst (AA J (E2 ks ws IF))),pv] σ=some (.d (E2 (Fk 1 (2+pl.length+us.length)) (Ht lp us) (Fv 1)),DT):=by
 have s0:(nd (DZ (n+6)) (.mk 50 95 [.mk 26 5 []])).ex [(134, .d (.nd .lst (AA J (E2 ks ws IF)))),(115,pv)] (σ++ [])=some (.go 0 (DR [(134, .d (.nd .lst (AA J (E2 ks ws IF)))),(115,pv)] 95 (.cell (DT.length+1))) (σ++ [D1 [],Dv DT.length (sd [] [])])):=by
  refine C9 nc ?_
  cell_ask ⟨cX,Uq⟩
  exact yO
 have s1:(nd (DZ (n+6)) uy).ex (DR [(134, .d (.nd .lst (AA J (E2 ks ws IF)))),(115,pv)] 95 (.cell (DT.length+1))) (σ++ [D1 [],Dv DT.length (sd [] [])])=some (.go 0 (DR (DR [(134, .d (.nd .lst (AA J (E2 ks ws IF)))),(115,pv)] 95 (.cell (DT.length+1))) 127 (.d (ref 1))) (σ++ [D1 [.none],Dv DT.length (sd [] [])])):=by
  refine C9 nc ?_;have ad:=Qp (n:=n+4) (σ:=σ) (tr:=sd [] []) (r:= []) (vs:= []) (v:= .none) (by decide)
  cell_ask ⟨FL⟩
  exact ad
 have s2:(nd (DZ (n+6)) u9).ex (DR (DR [(134, .d (.nd .lst (AA J (E2 ks ws IF)))),(115,pv)] 95 (.cell (DT.length+1))) 127 (.d (ref 1))) (σ++ [D1 [.none],Dv DT.length (sd [] [])])=some (.go 0 (DR (DR (DR [(134, .d (.nd .lst (AA J (E2 ks ws IF)))),(115,pv)] 95 (.cell (DT.length+1))) 127 (.d (ref 1))) 112 (.d (ref 2))) (σ++ [D1 [.none, .none],Dv DT.length (sd [] [])])):=by
  refine C9 nc ?_;have ad:=Qp (n:=n+4) (σ:=σ) (tr:=sd [] []) (r:= []) (vs:= [.none]) (v:= .none) (by decide)
  cell_ask ⟨FL⟩
  exact ad
 refine DQ (iE (n:=n+4) (σ:=σ) (c0:=D1 [.none, .none]) (c1:=Dv σ.length (sd [] [])) (loc:=DR (DR (DR [(134, .d (.nd .lst (AA J (E2 ks ws IF)))),(115,pv)] 95 (.cell (DT.length+1))) 127 (.d (ref 1))) 112 (.d (ref 2))) hJ (λr=>hb _) (by refine C9 nc ?_;fin2) (by fin2)) λcs q1 C1=> ?_;rw [←nc] at q1 C1;refine ES (Y9 (n:=n+1) (σ:=DT) (tr:=sd [] []) (J:=J) (loc:=DR (DR (DR (DR [(134, .d (.nd .lst (AA J (E2 ks ws IF)))),(115,pv)] 95 (.cell (DT.length+1))) 127 (.d (ref 1))) 112 (.d (ref 2))) 53 (.cell (DT.length+(2*J+2)))) (by fin2) (pl:=pl) (vs:= [.none, .none]) (cs:=cs) (λx hx=>(hP x hx).1) (show 2+_<_ by lia) C1) λxu q2 C2 O=> ?_;rw [show ((Fk ([D.none,D.none].length+1) pl.length).map λa=>V.d (ref a))=((Fk 3 pl.length).map ref).map .d by exact C9 Δ rfl] at q2;have qk: ∀r i,i<pl.length→ ∃x,cP J x∧E9 (DT++r) pv (.d (.int (i:Int)))=some (.d (MK x)):=λr i hi=>(DM (pl[i]) (hP _ (A0 hi)) (lT r i _ (Τ hi)));refine Hl (aL (n:=n) (σ:=DT) (tr:=sd [] []) (P:=pl.length) hN (nc▸xj) qk (g:=pl.length) (i:=0) (lp:= []) (us:= []) (cs:=xu) (loc:=DR (DR (DR (DR (DR [(134, .d (.nd .lst (AA J (E2 ks ws IF)))),(115,pv)] 95 (.cell (DT.length+1))) 127 (.d (ref 1))) 112 (.d (ref 2))) 53 (.cell (DT.length+(2*J+2)))) 83 (.d (.nd .lst ((Fk 3 pl.length).map ref)))) (by exact BP _) rfl (λO h=>absurd h Γ) (λO h=>absurd h Γ) (show 2+pl.length+0+_<_ by lia) C2 ⟨by fin2,by fin2,by fin2,by fin2,by fin2,by fin2⟩) λDG rC lp us q3 r1 r2 r3 A r5=> ?_;rw [show OL [] pl.length []= [D.none,D.none]++AA pl.length D.none by show D.none::D.none::(AA pl.length D.none++ [])=_;exact C9 (υ _) rfl] at q3;refine (Kf lp us r1 r2 r3 r5 ?_)
 have sO:(OL lp 0 us).length=2+pl.length+us.length:=by
  show (lp++us).length+1+1=_;refine C9 ε ?_;lia
 have p1:(DZ (n+6)).call false 12 [.cell (DT.length+1), .d (.int 2), .d (.int ((0:Nat):Int)), .d (dB lp.length)] (DT++D1 (OL lp 0 us)::Dv DT.length (sd [] [])::rC)=some (.d .none,DT++D1 (.none::dB lp.length::(lp++us))::Dv DT.length (sd [] [])::rC):=Tv (j:=1) (by exact ψ _ _) (by exact zrY sO r5 rfl);have p2:(DZ (n+6)).call false 12 [.cell (DT.length+1), .d (.int 1), .d (.int ((0:Nat):Int)), .d gM] (DT++D1 (.none::dB lp.length::(lp++us))::Dv DT.length (sd [] [])::rC)=some (.d .none,DT++D1 (Ht lp us)::Dv DT.length (sd [] [])::rC):=Tv (j:=0) (vs:= .none::dB lp.length::(lp++us)) (BD _) (by show (lp++us).length+1+1<_;refine C9 ε ?_;lia);have rg:FU 0 (pl.length:Int)=some (HH ((0:Nat):Int) pl.length):=Ki (by exact Lf xh rfl)
 have kl: ∀τ,Fj τ 0 (.d (.nd .lst ((Fk 3 pl.length).map ref)))=some (.d (.int (pl.length:Int))):=λτ=>by
  show some (V.d (.int ((((Fk 3 pl.length).map ref).map V.d).length:Int)))=_
  (exact C9 (ι _)<|C9 (ι _)<|C9 Ic rfl)
 have lm:=A.m;have lr:=A.r;have lq:=A.p;have lk:=A.k;have en:=de (N:=DT.length) (σ:=DT) (ks:=Fk 1 (Ht lp us).length) (vs:=Ht lp us) (tr:=Fv 1) (cs:=rC) rfl;refine Dr (show (Ht lp us).length=2+pl.length+us.length by show (lp++us).length+1+1=_;rw [ε];lia) ?_;rw [r1] at p1 p2;refine EW rfl rfl (x_go s0 (x_go s1 (x_go s2 (x_go (tH q1) ?_)))) (by exact Dr nc en)
 cell_ask ⟨hit,q2,Eb,rg,q3,kl,FL⟩
 exact p1
 cell_ask ⟨FL⟩
 exact p2
 cell_ask ⟨oT⟩
end
end
section
mutual open A
variable{n i p P d J:Nat}{σ DT DD r:Store}{v x tr:D}{ws us M1 lp:List D}{ks bs ln:List Int}{a b par:Int}{pv:V}{loc:Di}{h:Hd}{q:Nat}{Jw:List Nat}{pl:List (Nat×Int×D)}{Fb:List (Int×D)}
abbrev Oh(x:Int×D):D:= .nd (.inst 6) [ref x.1,x.2]
def nZ(x:Int×D):Prop:= ∃Jw M1 par,x.2=sd (15::Jw) (ref par::M1)∧RN Jw M1
def Kr(P:Nat)(v:D):Prop:= ∃lp us,lp.length=P∧(∀x∈lp,Hp x)∧(∀x∈us,Sf x)∧2+P+us.length<60∧v=E2 (Fk 1 (2+P+us.length)) (Ht lp us) (Fv 1)
theorem vK{B:Bool}(h:decide (a≤b)=B):FJ σ 3 (.d (.int a)) (.d (.int b))=some B:=h▸rfl
theorem Wh{α:Type}{f:α→D}: ∀{l:List α} {i:Nat} {x:α},l[i]?=some x→((l.map f).map V.d)[i]?=some (.d (f x)):=λ{l i x} e=>by
 exact C9 (Ay)<|C9 (Ay)<|C9 e rfl
theorem ar{s:Nat}{sh:V}(hN: ∀x∈gc,Js ks ws bs 3 x)(hb: ∀τ,(DZ (n+5)).call false 29 [.d (E2 ks ws tr)] τ=some (.d (PS bs),τ))(hp:(DZ (n+7)).call false 26 [sh] σ=some (.d (.nd .lst (Fb.map Oh)),σ))(hm:Df false .lst [sh] σ=some (.d (.nd .lst [E2 ks ws tr]),σ))(hP: ∀x∈Fb,nZ x)(hs:s<Fb.length):
  ∃v,Kr 2 v∧(DZ (n+8)).call false 38 [sh, .d (.nd .lst [.int (s:Int), .int ((0:Nat):Int)])] σ=some (.d v,σ):=by
 have e1:Fb[s]?=some Fb[s]:=Τ hs;have h0:0<Fb.length:=by lia
 have e0:Fb[0]?=some Fb[0]:=Τ h0
 have ok: ∀x,x∈ [(0,Fb[s]),(0,Fb[0])]→cP 1 x:=λx hx=>by
  rcases ν.mp hx with rfl|hx
  ·exact ⟨Nat.zero_lt_one,hP _ (A0 _)⟩
  ·cases ς.mp hx;exact ⟨Nat.zero_lt_one,hP _ (A0 _)⟩
 refine IM (eP (n:=n) (σ:=σ) (DT:=σ) (J:=1) (pl:= [(0,Fb[s]),(0,Fb[0])]) (pv:= .d (.nd .lst [MK (0,Fb[s]),MK (0,Fb[0])])) (.inl rfl) hN hb rfl rfl (by show 2≤10;decide) ok (λr=>rfl) (λr=>rfl) (λr i x e=>by
  show ([V.d (MK (0,Fb[s])), .d (MK (0,Fb[0]))])[i]?=_;rcases i with _|_|i
  ·exact Dr (η e) rfl
  ·exact Dr (η e) rfl
  ·exact nomatch e)) λlp us r1 r2 r3 r4 q=> ?_
 refine (DM _ (Kf lp us r1 r2 r3 r4 rfl) ?_)
 have ln: ∀τ,Fj τ 0 (.d (.nd .lst (Fb.map Oh)))=some (.d (.int (Fb.length:Int))):=λτ=>by
  show some (V.d (.int (((Fb.map Oh).map V.d).length:Int)))=_
  (exact C9 (ι _)<|C9 (ι _) rfl)
 have sb: ∀{i:Nat} {x:Int×D} τ,Fb[i]?=some x→E9 τ (.d (.nd .lst (Fb.map Oh))) (.d (.int (i:Int)))=some (.d (Oh x)):=λτ e=>Wh e;have d1:decide (((0:Nat):Int)≤(s:Int))=true:=decide_eq_true (by exact AP _);have d2:decide ((s:Int)<(Fb.length:Int))=true:=decide_eq_true (by lia);have d3:decide (((0:Nat):Int)<(Fb.length:Int))=true:=decide_eq_true (by exact rQ h0);have d4:decide (((0:Nat):Int)≤((0:Nat):Int))=true:=rfl
 have cg: ∀loc,DE loc 128=some (.d (.nd .lst (Fb.map Oh)))→EB (Fz 72 0 (nd (DZ (n+7)) (DF 72)).ev ((GT (DZ (n+7)) [uq]).map Nd.ev) loc) [.int (s:Int), .int ((0:Nat):Int)] σ=some ([],σ):=λloc hl=>by
  refine FH (p:=none) (DD:=σ) (Mj (DG:=(72, .d (.int (s:Int)))::loc) (DD:=σ) rfl ?_) (FH (p:=none) (DD:=σ) (Mj (DG:=(72, .d (.int ((0:Nat):Int)))::loc) (DD:=σ) rfl ?_) KS)
  ·refine JY (B:=false) (aT (B:=true) ?_) rfl
   apply K3
   cell_ask ⟨vK d1,ln,Uf d2⟩
  ·refine JY (B:=false) (aT (B:=true) ?_) rfl
   apply K3
   cell_ask ⟨vK d4,ln,Uf d3⟩
 have cg2: ∀loc,DE loc 128=some (.d (.nd .lst (Fb.map Oh)))→EB (Fz 72 0 (nd (DZ (n+7)) mP).ev ((GT (DZ (n+7)) []).map Nd.ev) loc) [.int (s:Int), .int ((0:Nat):Int)] σ=some ([.d (MK (0,Fb[s])), .d (MK (0,Fb[0]))],σ):=λloc hl=>by
  have f: ∀{i:Nat} {x:Int×D},Fb[i]?=some x→Fz 72 0 (nd (DZ (n+7)) mP).ev ((GT (DZ (n+7)) []).map Nd.ev) loc (.int (i:Int)) σ=some (some (.d (MK (0,x))),σ):=λ{i x} e=>by
   have s1:=λτ=>sb τ e;refine EL (DG:=(72, .d (.int (i:Int)))::loc) (DD:=σ) rfl FE ?_
   cell_ask ⟨s1⟩
  exact FH (f e1) (FH (f e0) KS)
 apply DW rfl rfl
 cell_ask ⟨hp,hm,cg,cg2⟩
 exact q
 fin2
end
end
section
mutual open A
variable{n k i d J at_:Nat}{σ DT r:Store}{v x tr:D}{ws us lp:List D}{ks bs ln:List Int}{pv:V}{lv:List V}{loc:Di}{y:Dh}{q:Nat}{pl:List (Nat×Int×D)}{Fb:List (Int×D)}
theorem TC: ∀{Fb:List (Int×D)} {lv:List V} {loc:Di},lv.length+Fb.length<1000→DE loc 115=some (.cell (σ.length+0))→DE loc 44=some (.d (.int (at_:Int)))→
  El (nd (DZ n) qW).ex 108 (Fb.map Oh) loc (σ++ [.lv .lst lv])=some (.go 0 (ZY (σ.length+1) 108 (Fb.map Oh) loc) (σ++ [.lv .lst (lv++Fb.map λx=> .d (MK (at_,x)))])):=λ{Fb}=>by
 induction Fb with
 |nil=>intro lv loc _ _ _;exact congrArg (λz=>some (HW.go 0 loc (σ++ [Dh.lv .lst z]))) (υ lv).symm
 |cons x Fb ih=>
  intro lv loc hl l1 l2;rw [ξ] at hl;have b1:lv.length+1<big:=by show _<1000000;exact cr hl rfl
  have q:=ih (lv:=lv++ [.d (MK (at_,x))]) (loc:=Dt (σ.length+1) [] (DR loc 108 (.d (Oh x)))) (by refine C9 ε ?_;show lv.length+1+_<_;exact Tg hl) (D9 (DH rfl l1) (nz rfl)) (D9 (DH rfl l2) rfl);refine EX (r':= [.lv .lst (lv++ [.d (MK (at_,x))])]) (DG:=DR loc 108 (.d (Oh x))) ?_ rfl ?_
  ·apply HE
   cell_ask ⟨OW,LM,Hn⟩
  ·refine C9 (show (σ++ [Dh.lv .lst lv]).length=σ.length+1 from ε) ?_
   refine q.trans ?_;exact C9 (π _ _ _) rfl
abbrev fI(Fb:List (Int×D)):List (Nat×Int×D):=(Fb.map λx=>(0,x))++Fb.map λx=>(1,x)
theorem Yg(hN: ∀x∈gc,Js ks ws bs 3 x)(hb: ∀τ,(DZ (n+5)).call false 29 [.d (E2 ks ws tr)] τ=some (.d (PS bs),τ))(hp: ∀τ,(DZ (n+7)).call false 26 [.d (E2 ks ws tr)] τ=some (.d (.nd .lst (Fb.map Oh)),τ))(hP: ∀x∈Fb,nZ x)(hs:Fb.length≤5):
  ∃v,Kr (2*Fb.length) v∧(DZ (n+8)).call false 37 [.d (.nd .lst [E2 ks ws tr,E2 ks ws tr])] σ=some (.d v,σ):=by
 have hl:(fI Fb).length=2*Fb.length:=ε.trans (by refine C9 (ι _)<|C9 (ι _) ?_;lia)
 have ok: ∀x∈fI Fb,cP 2 x:=λx hx=>by
  rcases ω.mp hx with hx|hx<;>obtain ⟨y,hy,rfl⟩:=AD.mp hx
  ·exact ⟨Nat.zero_lt_two,hP y hy⟩
  ·exact ⟨Nat.one_lt_two,hP y hy⟩
 obtain ⟨lp,us,r1,r2,r3,r4,q⟩:=eP (n:=n) (σ:=σ++ [.lv .lst (((fI Fb).map MK).map .d)]) (DT:=σ++ [.fz (.nd .lst ((fI Fb).map MK))]) (J:=2) (pl:=fI Fb) (pv:= .cell (σ.length+0)) (.inr rfl) hN hb (JA rfl) (by exact C9 ε<|C9 ε rfl) (by lia) ok
  (λr=>by exact C9 (π _ _ _)<|C9 (π _ _ _)<|DJ (bx (k:=0) rfl) rfl)
  (λr=>by
   refine C9 (π _ _ _) ?_;refine DB (MD (k:=0) rfl) ?_;show some (V.d (.int ((((fI Fb).map MK).map V.d).length:Int)))=_
   (exact C9 (ι _)<|C9 (ι _) rfl))
  (λr i x e=>by
   refine C9 (π _ _ _) ?_;refine DB rfl (DB (MD (k:=0) rfl) ?_);exact Wh e)
 rw [hl] at r1 r4 q;refine ⟨_,⟨lp,us,r1,r2,r3,r4,rfl⟩, ?_⟩;have lp1:=λ(loc:Di)=>TC (n:=n+7) (σ:=σ) (at_:=0) (Fb:=Fb) (lv:= []) (loc:=loc) (show 0+_<_ by lia);have xN:=λ(loc:Di)=>TC (n:=n+7) (σ:=σ) (at_:=1) (Fb:=Fb) (lv:= []++Fb.map λx=> .d (MK (0,x))) (loc:=loc) (by refine C9 ε<|C9 (ι _) ?_;show 0+_+_<_;lia)
 have z:([]++Fb.map λx=>V.d (MK (0,x)))++(Fb.map λx=>V.d (MK (1,x)))=((fI Fb).map MK).map .d:=by
  show _=List.map V.d (List.map MK (fI Fb));exact C9 χ<|C9 χ<|C9 Δ<|C9 Δ<|C9 Δ<|C9 Δ rfl
 have rg:FU 0 (((2:Nat):Int))=some [.int ((0:Nat):Int), .int ((1:Nat):Int)]:=rfl;have ln: ∀τ,Fj τ 0 (.d (.nd .lst [E2 ks ws tr,E2 ks ws tr]))=some (.d (.int ((2:Nat):Int))):=λτ=>rfl;have s0: ∀τ,E9 τ (.d (.nd .lst [E2 ks ws tr,E2 ks ws tr])) (.d (.int ((0:Nat):Int)))=some (.d (E2 ks ws tr)):=λτ=>rfl;have s1: ∀τ,E9 τ (.d (.nd .lst [E2 ks ws tr,E2 ks ws tr])) (.d (.int ((1:Nat):Int)))=some (.d (E2 ks ws tr)):=λτ=>rfl;apply EW rfl rfl
 cell_ask ⟨ln,rg⟩
 refine EX (r':= [.lv .lst ([]++Fb.map λx=> .d (MK (0,x)))]) (DG:=ZY (σ.length+1) 108 (Fb.map Oh) (DR (DR [(134, .d (.nd .lst [E2 ks ws tr,E2 ks ws tr]))] 115 (.cell (σ.length+0))) 44 (.d (.int ((0:Nat):Int))))) ?_ rfl (EX (r':= [.lv .lst (((fI Fb).map MK).map .d)]) (DG:=ZY (σ.length+1) 108 (Fb.map Oh) (DR (Dt (σ.length+1) [] (ZY (σ.length+1) 108 (Fb.map Oh) (DR (DR [(134, .d (.nd .lst [E2 ks ws tr,E2 ks ws tr]))] 115 (.cell (σ.length+0))) 44 (.d (.int ((0:Nat):Int)))))) 44 (.d (.int ((1:Nat):Int))))) ?_ rfl Jp)
 ·cell_ask ⟨s0,hp,HB,lp1⟩
 ·refine Dr z<|C9 (show (σ++ [Dh.lv .lst []]).length=σ.length+1 from ε) ?_
  cell_ask ⟨s1,hp,HB,xN⟩
 fin2
 exact q
 fin2
 exact Pd _
end
end
section
mutual open A
variable{n k i j P d g:Nat}{keep:Bool}{σ DD m:Store}{v x tr:D}{vs ws us lp:List D}{ks:List Int}{a b:Int}{kl:List DO}{lv:List V}{loc:Di}{h:Hd}{q s:Nat}{S:D}{ss:List Nat}
theorem fZ: ∀{vs:List D} {a j:Nat},EF (Fk a vs.length) vs ((a+j:Nat):Int)=vs[j]?:=λ{vs}=>by
 induction vs with
 |nil=>intro a j;rfl
 |cons v vs ih=>
  intro a j;show cond (DO.beq (.i (a:Int)) (.i ((a+j:Nat):Int))) (some v) (EF (Fk (a+1) vs.length) vs ((a+j:Nat):Int))=_;cases j with
  |zero=>
   show cond (DO.beq (.i (a:Int)) (.i (a:Int))) _ _=_;exact C9 (Fi _) rfl
  |succ j=>exact C9 (G6 (a:=(a:Int)) (b:=((a+(j+1):Nat):Int)) (by exact zsf))<|C9 (show a+(j+1)=a+1+j by exact wo) ih
theorem YW: ∀{m a:Nat},(Fk a m).Nodup:=λ{m}=>by
 induction m with
 |zero=>intro a;exact BB
 |succ m ih=>intro a;exact Η.mpr ⟨λh=>by rw [Fp] at h;lia,ih⟩
theorem Hp.at(L:Hp v)(e:EF ks vs a=some v): ∃ss ws ml,v=sd ss ws∧JD ks vs a ss ws ml:=by
 refine Mm L.e λss ws Gx h1 h2 h3 h4 h5 O O=> ?_;subst Gx;exact ⟨ss,ws,_,rfl,e, .inl (DM 0 (by decide) (by exact C9 h1<| .stop (k:=11) rfl rfl)),h2,h3,h4,h5⟩
theorem bY: ∀{lp:List D} {a:Nat},(∀x∈lp,Hp x)→(∀i v,lp[i]?=some v→EF ks vs ((a+i:Nat):Int)=some v)→ ∃fs,d9 ks vs ((Fk a lp.length).map λb=>(b, [ref 2])) fs (Fk a lp.length)∧(fs.filter QA).length=lp.length:=λ{lp}=>by
 induction lp with
 |nil=>intro a _ _;exact (DM ([]) .nil rfl)
 |cons v lp ih=>
  intro a h e;refine Ug ((h _ (.head _)).at (e 0 _ rfl)) λss ws ml iu P=> ?_;subst iu;refine DQ (ih (a:=a+1) (λx hx=>h x (.tail _ hx)) (λi v q=>by exact C9 (show a+1+i=a+(i+1) by exact yq)<|e (i+1) v q)) λfs D l=> ?_;exact (DM _ (.pg P D) (congrArg (· +1) l))
theorem Kr.at(W:Kr P v): ∃lp us m,lp.length=P∧(∀x∈lp,Hp x)∧(∀x∈us,Sf x)∧m<60∧m=(Ht lp us).length∧v=E2 (Fk 1 m) (Ht lp us) (Fv 1)∧ ∀i v,(Ht lp us)[i]?=some v→EF (Fk 1 m) (Ht lp us) ((1+i:Nat):Int)=some v:=by
 refine IM W λlp us r1 r2 r3 r4 gG=> ?_;subst gG;clear W
 have hm:2+P+us.length=(Ht lp us).length:=by
  show _=(lp++us).length+1+1;refine C9 ε ?_;lia
 exact (Td lp us _ r1 r2 r3 r4 hm rfl (λi v e=>by exact C9 hm<|fZ.trans e))
theorem OA(W:Kr P v):(DZ (n+3)).call false 15 [.d v] σ=some (.d gM,σ):=by
 refine JU W.at λlp us m r1 r2 r3 r4 hm uw g=> ?_;subst uw;exact LB (k:=1) F4 (.PN (g 0 _ rfl) (.stop (k:=5) rfl rfl)) (by decide)
theorem MU(W:Kr P v): ∃l,l.length=P∧(DZ (n+7)).call false 26 [.d v] σ=some (.d (.nd .lst l),σ):=by
 refine JU W.at λlp us m r1 r2 r3 r4 hm uw g=> ?_;subst uw;have hl:(Ht lp us).length=lp.length+us.length+2:=congrArg (· +2) ε
 refine DQ (bY (ks:=Fk 1 m) (vs:=Ht lp us) (lp:=lp) (a:=3) r2 (λi v e=>by
  refine C9 (show 3+i=1+(i+2) by lia) ?_;exact g (i+2) v ((Ο (AR.mp e).1).trans e))) λfs D l=> ?_
 have Nd:JF (Fk 1 m) (Ht lp us) 2 [26,7,3] [EM 14, .nd .lst ((Fk 3 lp.length).map ref), .int (lp.length:Int)] ((Fk 3 lp.length).map ref):=⟨g 1 _ rfl, .inl (DM 0 (by decide) (.stop (k:=11) rfl rfl)),rfl,rfl,rfl,rfl,rfl⟩;have sp:=TR (n:=n) (σ:=σ) (k:=1) (F4 (tr:=Fv 1)) (.PN (g 0 _ rfl) (.stop (k:=5) rfl rfl)) (by decide) rfl Nd D (Η.mpr ⟨λh=>by rw [Fp] at h;lia,YW⟩) (by refine C9 Ic ?_;lia);have S:=XA D
 have ok:=Sb (n:=n) F4 sp (λd hd=>by
  rcases ν.mp hd with rfl|hd
  ·exact .nd Nd
  ·exact S.1 d hd)
 exact (DM _ (by exact C9 (ι _)<|l.trans r1) ok)
theorem Mn(W:Kr P v):(DZ (n+2)).call false 48 [.d v] σ=some (.d (.nd .lst []),σ):=by
 refine JU W.at λlp us m r1 r2 r3 r4 hm uw g=> ?_;subst uw
 have sf: ∀x∈Ht lp us,Sf x:=λx hx=>by
  rcases ν.mp hx with rfl|hx
  ·exact .dc _ _ (by decide) (by decide)
  rcases ν.mp hx with rfl|hx
  ·exact .dc _ _ (by decide) (by decide)
  rcases ω.mp hx with hx|hx
  ·refine Mm ((r2 x hx).e) λss ws Gx O O O O O h1 h2=> ?_;subst Gx
   exact .dc _ _ h1 h2
  ·exact r3 x hx
 have nu:=Gc (n:=n) (keep:=false) (σ:=σ) (F4 (ks:=Fk 1 m) (vs:=Ht lp us) (tr:=Fv 1)) (by exact C9 Ic<|IJ r4 rfl)
 have cg: ∀loc,DE loc 133=some (.d (E2 (Fk 1 m) (Ht lp us) (Fv 1)))→EB (Fz 103 0 (nd (DZ (n+1)) (DF 103)).ev ((GT (DZ (n+1)) [r9]).map Nd.ev) loc) ((HA I9 (Fk 1 m)).map .int) σ=some (((HA I9 (Fk 1 m)).map D.int).filterMap λO=>none,σ):=λloc hl=>by
  refine KN λd hd=> ?_;refine DQ (AD.mp hd) λb hb Gx=> ?_;subst Gx;have hb:=Fp.mp (LK hb);have hi:(b.toNat - 1)<(Ht lp us).length:=by lia
  have e:=g (b.toNat - 1) _ (Τ hi);rw [show ((1+(b.toNat - 1):Nat):Int)=b by lia] at e;have hs:=sf _ (A0 hi);generalize (Ht lp us)[b.toNat - 1]=x at e hs;have sb: ∀τ,E9 τ (.d (Mg (Fk 1 m) (Ht lp us))) (.d (.int b))=some (.d (GP x)):=λτ=>Ga (ks:=Fk 1 m) (vs:=Ht lp us) rfl e;refine Mj (DG:=(103, .d (.int b))::loc) (DD:=σ) rfl (JY (B:=false) ?_ rfl);cases hs with
  |dc ss ws h1 h2=>
   have h1:=bD h1;have h2:=bD h2;have i1: ∀s,Dm (ss.map .s) (.s s)=false→FJ σ 8 (.d (.sym s)) (.d (sd ss ws))=some false:=λs h=>h▸dS (k:=1) (kl:=ss.map .s) (lv:=ws.map .d) rfl rfl rfl;have i2:=i1 _ h1;have i3:=i1 _ h2
   cell_ask ⟨sb,L9,i2,i3⟩
  |_=>cell_ask ⟨sb,L9⟩
 apply DW rfl rfl
 cell_ask ⟨nu,cg⟩
 refine C9 (show ((HA I9 (Fk 1 m)).map D.int).filterMap (λO=>(none:Option V))= [] by generalize (HA I9 (Fk 1 m)).map D.int=l;induction l with|nil=>rfl|cons _ _ ih=>exact ih) ?_
 fin2
end
end
section
mutual open A
variable{n m k:Nat}{σ r:Store}{x:D}{l:List D}{il cl:List Int}{a q:Int}{c:Kc}
theorem ZG: ∀{k:Nat} {il:List Int},W6 k (il.map .int)=(il.take k).map .int:=λ{k}=>by
 induction k with
 |zero=>intro il;rfl
 |succ k ih=>
  intro il;cases il with
  |nil=>rfl
  |cons a il=>exact congrArg (_:: ·) ih
theorem lY:(DZ (n+1)).call true 41 [.d (.nd .lst (il.map .int))] (σ++ [])=some (.cell (σ.length+0),σ++ [Dw (il.take 63) 0 0]):=by
 refine C9 (υ _) ?_;apply EW rfl rfl
 fin2
 refine C9 ZG ?_;refine (KN (g:=λd=>some (.d d)) λd hd=> ?_).trans (congrArg (λz=>some (z,σ++ [])) (congrFun (BU (f:=V.d)) _));refine DQ (AD.mp hd) λa O Gx=> ?_;subst Gx;exact EL (DG:=(103, .d (.int a)):: [(130, .d (.nd .lst (il.map .int)))]) (DD:=σ++ []) rfl FE (xi (Fh rfl) rfl)
 fin2
 exact Ld (k:=0) (l:= [.nd .lst ((il.take 63).map .int), .int 0, .int 0]) rfl (λc h=>nomatch h) (λh=>nomatch h)
theorem YA(n:Nat): ∃(c:Kc) (at':Nat) (q':Int),at'<900∧0≤q'∧EU c∧ ∀n,(DZ (n+5)).call true 44 [.cell (σ.length+0)] (σ++ [Dw (il.take 63) 0 0])=some (.cell (σ.length+2),σ++ [Dw (il.take 63) at' q',Dk c.keys c.vals, .lv (.inst 5) [.cell (σ.length+1), .d (Fv c.r0)]]):=by
 refine Do (YY (cl:=il.take 63) (σ:=σ) (Ρ (List.length_take_le ..) (by decide))) λc a q h1 h2 h3 h4=> ?_;exact (Ea c a q h1 h2 h3 (λn=>h4 (n+2) (ψ _ _)))
end
mutual
theorem RX: ∀x,plain x=true→Ti x x=true
 | .none,_=>rfl
 | .int a,_=>by show Dj a a=true;cases a<;>exact AH _
 | .sym a,_=>AH a
 | .nd h l,e=>by
  have e:((MQ h||Pq h)&&plain.FF l)=true:=e;have e:=(A4 _ _).mp e;show (heq h h&&Ti.Ub l l)=true;refine C9 (PQ l e.2) ?_;cases h with
  |tup=>rfl
  |lst=>rfl
  |_=>exact nomatch e.1
theorem PQ: ∀l,plain.FF l=true→Ti.Ub l l=true
 | [],_=>rfl
 |x::l,e=>by
  have e:=(A4 _ _).mp e;show (Ti x x&&Ti.Ub l l)=true;exact C9 (RX x e.1)<|C9 (PQ l e.2) rfl
end
mutual open A
theorem Uw(h:Pl m x)(hm:m≤20)(hn:Jy (.d x)=0):FJ σ 1 (.d x) (.d x)=some false:=by
 show F9 (Μ (Jy (.d x)) 2) (DN (qI σ (.d x) (.d x)) λr=>some (!r))=_
 have e:qI σ (.d x) (.d x)=some true:=by
  show (match Jy (.d x) with|1=>_|2=>_|_=>lO (.d x) (.d x))=_;refine C9 hn ?_;show F9 (fits x&&fits x) (some (Ti x x))=_;exact C9 (show fits x=true from (A4 _ _).mpr ⟨h.1,ο (Υ h.2 hm)⟩)<|C9 (RX x h.1) rfl
 exact C9 hn<|C9 e rfl
theorem TH(h:Pl m x)(hm:m≤20):FJ σ 1 (.d x) (.d x)=some false:=by
 cases x with
 |nd hh l=>
  cases l with
  |cons=>exact Uw h hm rfl
  |nil=>
   cases hh with
   |tup=>exact Uw h hm rfl
   |lst=>rfl
   |_=>exact nomatch h.1
 |_=>exact Uw h hm rfl
end
end
section
mutual open A
variable{m k i:Nat}{r:Store}{v:D}{k1 k2 ks:List Int}{v1 v2 vs:List D}{a b:Int}{rows:List F2}{spec:List Dx}{Ks:List (List Int)}
theorem FW:EF (a::ks) (v::vs) a=some v:=by show cond (DO.beq (.i a) (.i a)) (some v) _=_;exact C9 (Fi _) rfl
theorem Ek(h:b≠a):EF (b::ks) (v::vs) a=EF ks vs a:=by show cond (DO.beq (.i b) (.i a)) (some v) (EF ks vs a)=_;exact C9 (G6 h) rfl
theorem E7: ∀{k1:List Int} {v1:List D},EF k1 v1 a=some v→EF (k1++k2) (v1++v2) a=some v:=λ{k1}=>by
 induction k1 with
 |nil=>intro v1 e;exact nomatch e
 |cons b k1 ih=>
  intro v1 e;cases v1 with
  |nil=>exact nomatch e
  |cons w v1=>
   by_cases h:b=a
   ·rw [h] at e ⊢;exact FW.trans (FW.symm.trans e)
   ·exact (Ek h).trans (ih ((Ek h).symm.trans e))
theorem O8: ∀{k1:List Int} {v1:List D},k1.length=v1.length→a ∉ k1→EF k2 v2 a=some v→EF (k1++k2) (v1++v2) a=some v:=λ{k1}=>by
 induction k1 with
 |nil=>intro v1 l _ e;cases v1 with|nil=>exact e|cons w v1=>exact nomatch l
 |cons b k1 ih=>
  intro v1 l h e;cases v1 with
  |nil=>exact nomatch l
  |cons w v1=>exact (Ek λq=>h (by exact C9 q<| .head _)).trans (ih (AK.inj l) (λq=>h (.tail _ q)) e)
theorem Kh: ∀{i:Nat},H5 i rows=Fk (30+i) rows.length:=by
 induction rows with
 |nil=>intro i;rfl
 |cons p r ih=>intro i;exact (congrArg (_:: ·) (ih (i:=i+1)))
def o5(m k:Nat):List Int:= [60,61]++Fk 30 m++Fk 20 k++ [3,2,1,43]++ [40]++ [41]++ [42]
def gj(m k:Nat):List Int:= [1,2,3]++(Fk 20 k++(Fk 30 m++ [40,41,42,43,60,61]))
theorem Uu: ∀m,m<6→ ∀k,k<4→HA I9 (o5 m k)=gj m k∧(gj m k).Nodup∧(o5 m k).Nodup∧(o5 m k).length<64:=by decide+kernel
inductive Tj(rows:List F2):List Dx→List Int→List Int→List Int→Prop
 |one:Tj rows [(20,pg 0 0 rows,0)] (pg 0 0 rows) (pg 0 0 rows) (pg 0 0 rows)
 |two:Tj rows [(20,21::pg 0 0 rows,0),(21,pg 1 0 rows,20)] (21::pg 0 0 rows) (pg 1 0 rows++pg 0 0 rows) (21::(pg 1 0 rows++pg 0 0 rows))
 |flat:Tj rows [(20,21::22::pg 0 0 rows,0),(21,pg 1 0 rows,20),(22,pg 2 0 rows,20)] (21::22::pg 0 0 rows) (pg 1 0 rows++(pg 2 0 rows++pg 0 0 rows)) (21::(pg 1 0 rows++(22::(pg 2 0 rows++pg 0 0 rows))))
 |deep:Tj rows [(20,21::pg 0 0 rows,0),(21,22::pg 1 0 rows,20),(22,pg 2 0 rows,21)] (21::pg 0 0 rows) (pg 2 0 rows++(pg 1 0 rows++pg 0 0 rows)) (21::(22::(pg 2 0 rows++(pg 1 0 rows++pg 0 0 rows))))
theorem wh{A:List Int}(T:Ka [A] spec):spec= [(20,A,0)]:=by cases T;rfl
theorem wg{A B:List Int}(T:Ka [A,B] spec):spec= [(20,A,0),(21,B,20)]:=by cases T;rfl
theorem tx{A B C:List Int}(T:Ka [A,B,C] spec):((∃P,A=21::22::P)∧(∀a∈B,30≤a)∧spec= [(20,A,0),(21,B,20),(22,C,20)])∨((∃P,A=21::P∧ ∀a∈P,30≤a)∧(∃P,B=22::P)∧spec= [(20,A,0),(21,B,20),(22,C,21)]):=by
 cases T with
 |flat h0 h1 h2=>exact .inl ⟨(EG _ rfl),h1,rfl⟩
 |deep h0 h1 h2=>exact .inr ⟨(DM _ rfl h0),(EG _ rfl),rfl⟩
theorem oF(T0:Kw Ks)(hr: ∀p∈rows,p.1<Ks.length)(T:Ka (Im 0 rows Ks) spec):(∃K A N,Tj rows spec K A N)∧ ∀p∈rows,p.1<spec.length:=by
 cases T0 with
 |one=>rw [jx hr] at T;exact C9 (wh T)<|⟨(Ma _ _ _ .one),hr⟩
 |two=>rw [jQ hr] at T;exact C9 (wg T)<|⟨(Ma _ _ _ .two),hr⟩
 |flat=>
  rw [XU hr] at T;rcases tx T with ⟨_,_,e⟩|⟨⟨P,e,h⟩,_,_⟩
  ·exact C9 e<|⟨(Ma _ _ _ .flat),hr⟩
  ·exact absurd (h 22 (by exact Dr ((Bi.inj e).2)<| .head _)) (by decide)
 |deep=>
  rw [XU hr] at T;rcases tx T with ⟨_,h,_⟩|⟨_,_,e⟩
  ·exact absurd (h 22 (.head _)) (by decide)
  ·exact C9 e<|⟨(Ma _ _ _ .deep),hr⟩
end
end
section
mutual open A
variable{n i j:Nat}{r:Store}{v:D}{k1 k2:List Int}{nv:List D}{a:Int}{c:Kc}{rows:List F2}{spec:List Dx}{Ks:List (List Int)}
abbrev mr(p:F2):D:=sd (15::p.2.1) (ref (20+(p.1:Int))::p.2.2)
theorem LQ: ∀{i:Nat},a∈pg j i rows→a∈H5 i rows∧ ∃p∈rows,p.1=j∧EF (H5 i rows) (K4 rows) a=some (mr p):=by
 induction rows with
 |nil=>intro i h;exact absurd h Γ
 |cons p r ih=>
  intro i h;have h:a∈(if p.1=j then (30+(i:Int))::pg j (i+1) r else pg j (i+1) r):=h
  have go:a∈pg j (i+1) r→a∈H5 i (p::r)∧ ∃q∈p::r,q.1=j∧EF (H5 i (p::r)) (K4 (p::r)) a=some (mr q):=λw=>by
   refine QR (ih w) λg q hq e t=> ?_;have g2:=Fq a g;exact (cG (.tail _ g) q (.tail _ hq) e ((Ek (by lia)).trans t))
  by_cases e:p.1=j
  ·rw [if_pos e] at h
   rcases ν.mp h with w|w
   ·exact C9 w<|(cG (.head _) p (.head _) e FW)
   ·exact go w
  ·rw [if_neg e] at h;exact go h
theorem uu: ∀{spec:List Dx} {nv:List D},DS jO spec nv→(spec.map λp:Dx=>p.1).Nodup→ ∀p∈spec,∃v,jO p v∧EF (spec.map λp:Dx=>p.1) nv p.1=some v:=λ{spec nv} h=>by
 induction h with
 |nil=>intro _ p h;exact absurd h Γ
 | @cons q w spec nv r _ ih=>
  intro Fl p hp;have Fl:=Η.mp Fl;rcases ν.mp hp with e|hp
  ·exact C9 e<|(DM w r FW)
  ·refine DQ (ih Fl.2 p hp) λv h1 h2=> ?_
   exact (DM v h1 ((Ek λe=>Fl.1 (by exact C9 e<|Ar (f:=λp:Dx=>p.1) hp)).trans h2))
structure Iu(c:Kc)(t:Int→Option D):Prop where
 j2:t 60=some (EM 13)
 jU:t 61=some (EM 14)
 p: ∀j a,a∈pg j 0 c.rows→ ∃p∈c.rows,p.1=j∧t a=some (mr p)
 n: ∀p∈c.spec,∃v,jO p v∧t p.1=some v
 k3:t 3=some Ez
 k2:t 2=some (ref 3)
 k1:t 1=some (ref 2)
 sx:t 43=some HZ
theorem RK(C:EU c):([60,61]++H5 0 c.rows:List Int).length=([EM 13,EM 14]++K4 c.rows).length∧(c.spec.map λp:Dx=>p.1).length=c.nv.length:=⟨congrArg (2+ ·) (XJ.trans (ι ..).symm)|>λe=>(Am _ 2).trans (e.trans (Am 2 _)),(ι ..).trans C.nv.length⟩
theorem jy(C:EU c): ∀a∈ [60,61]++H5 0 c.rows++c.spec.map (λp:Dx=>p.1),a=60∨a=61∨(20≤a∧a<40):=λa h=>by
 refine ES C.tree λKs O O T=> ?_;rcases ω.mp h with w|w
 ·rcases ω.mp w with w|w
  ·exact (qM w).imp id .inl
  ·have:=Fq a w;have:=C.len;exact .inr (.inr ⟨by lia,by exact zrr (by assumption) this rfl⟩)
 ·have:=(GV T).2.1 a w;exact .inr (.inr ⟨by exact this.1,by exact vz this rfl⟩)
theorem MC(C:EU c):Iu c (EF c.keys c.vals):=by
 refine Dl (RK C) λl1 l2=> ?_;refine ES C.tree λKs O O T=> ?_;have low:=jy C;have l3:([60,61]++H5 0 c.rows++c.spec.map (λp:Dx=>p.1):List Int).length=([EM 13,EM 14]++K4 c.rows++c.nv).length:=by (exact C9 ε<|C9 (ε (as:= [EM 13,EM 14]++K4 c.rows))<|C9 l1<|C9 l2 rfl)
 have mid: ∀{a v},a=3∨a=2∨a=1∨a=43→EF [3,2,1,43] [Ez,ref 3,ref 2,HZ] a=some v→EF c.keys c.vals a=some v:=λ{a v} ha e=>E7 (E7 (E7 (O8 l3 (λw=>by have:=low a w;lia) e)));refine ⟨E7 (E7 (E7 (E7 (E7 (E7 rfl))))),E7 (E7 (E7 (E7 (E7 (E7 rfl))))),λj a h=> ?_,λp h=> ?_,mid (.inl rfl) rfl,mid (.inr (.inl rfl)) rfl,mid (.inr (.inr (.inl rfl))) rfl,mid (.inr (.inr (.inr rfl))) rfl⟩
 ·refine QR (LQ h) λg p hp e t=> ?_
  refine (ED p hp e (E7 (E7 (E7 (E7 (E7 (O8 rfl ?_ t)))))))
  have:=Fq a g
  exact λw=>by have:=qM w;have hl:=C.len;lia
 ·refine DQ (uu C.nv (GV T).1 p h) λv h1 h2=> ?_
  refine (DM v h1 (E7 (E7 (E7 (E7 (O8 l1 ?_ h2))))));intro w
  have:=(GV T).2.1 p.1 (Ar h)
  rcases ω.mp w with w|w
  ·have:=qM w;lia
  ·have:=Fq _ w;lia
end
end
section
mutual open A
variable{n m i j j':Nat}{r:Store}{x:D}{K A N:List Int}{a b:Int}{rows:List F2}{spec:List Dx}
theorem gB(h:a∈pg j i rows)(h':a∈pg j' i rows):j=j':=by
 refine QR (LQ h) λO p O e t=> ?_;refine QR (LQ h') λO p' O e' t'=> ?_;have q:mr p=mr p':=η (t.symm.trans t');injection q with _ q
 injection q with q _
 injection q with _ q
 injection q with q _
 injection q with q
 lia
theorem LC: ∀{i:Nat},(pg j i rows).Nodup:=by
 induction rows with
 |nil=>intro i;exact BB
 |cons p r ih=>
  intro i;show (if p.1=j then (30+(i:Int))::pg j (i+1) r else pg j (i+1) r).Nodup
  by_cases e:p.1=j
  ·exact C9 (if_pos e)<|Η.mpr ⟨λh=>by have:=Fq _ (LQ h).1;lia,ih⟩
  ·exact C9 (if_neg e) ih
theorem cR: ∀{i:Nat},(∀p∈rows,p.1<j)→pg j i rows= []:=by
 induction rows with
 |nil=>intro i _;rfl
 |cons p r ih=>
  intro i h;show (if p.1=j then (30+(i:Int))::pg j (i+1) r else pg j (i+1) r)=_;exact C9 (if_neg (AW (h p (.head _))))<|ih λp h'=>h p (.tail _ h')
theorem mI: ∀{i:Nat},(∀p∈rows,p.1<3)→(pg 0 i rows).length+(pg 1 i rows).length+(pg 2 i rows).length=rows.length:=by
 induction rows with
 |nil=>intro i _;rfl
 |cons p r ih=>
  intro i h
  have:=ih (i:=i+1) λp h'=>h p (.tail _ h')
  have hp:=h p (.head _);show (if p.1=0 then (30+(i:Int))::pg 0 (i+1) r else pg 0 (i+1) r).length+(if p.1=1 then (30+(i:Int))::pg 1 (i+1) r else pg 1 (i+1) r).length+(if p.1=2 then (30+(i:Int))::pg 2 (i+1) r else pg 2 (i+1) r).length=r.length+1;rcases p with ⟨q,w⟩;rcases q with _|_|_|q
  ·show (pg 0 (i+1) r).length+1+(pg 1 (i+1) r).length+(pg 2 (i+1) r).length=_;lia
  ·show (pg 0 (i+1) r).length+((pg 1 (i+1) r).length+1)+(pg 2 (i+1) r).length=_;lia
  ·show (pg 0 (i+1) r).length+(pg 1 (i+1) r).length+((pg 2 (i+1) r).length+1)=_;lia
  ·have:q+1+1+1<3:=hp
   lia
structure Ko(rows:List F2)(A N:List Int):Prop where
 n:(20::N).Nodup
 m: ∀a∈N,a=21∨a=22∨a∈A
 a: ∀a∈A,∃j,a∈pg j 0 rows
 s: ∀a∈A,a∈N
 l:A.length=rows.length∧N.length<100
 b:rows.length≤5
theorem KC{l1 l2:List Int}(h1:l1.Nodup)(h2:l2.Nodup)(h: ∀a∈l1,a ∉ l2):(l1++l2).Nodup:=AE.mpr ⟨h1,h2,λa ha b hb e=>h a ha (e▸hb)⟩
theorem XD(T:Tj rows spec K A N)(hr: ∀p∈rows,p.1<spec.length)(hl:rows.length≤5):Ko rows A N:=by
 have big: ∀{j},∀a∈pg j 0 rows,30≤a:=HT;have h3:spec.length≤3→ ∀p∈rows,p.1<3:=λh p hp=>AQ (hr p hp) h;have dj: ∀{j j' a},j≠j'→a∈pg j 0 rows→a ∉ pg j' 0 rows:=λh w w'=>h (gB w w');have d3: ∀{j j' fM a},j≠j'→j≠fM→a∈pg j 0 rows→a ∉ pg j' 0 rows++pg fM 0 rows:=λh h' w w'=>(ω.mp w').elim (dj h w) (dj h' w);have no: ∀{l:List Int} {x:Int},x<30→(∀a∈l,30≤a)→x ∉ l:=λhx h w=>by have:=h _ w;exact zrp hx this rfl
 have b2: ∀{j j'},∀a∈pg j 0 rows++pg j' 0 rows,30≤a:=λa w=>(ω.mp w).elim (big a) (big a);have b3: ∀{j j' fM},∀a∈pg j 0 rows++(pg j' 0 rows++pg fM 0 rows),30≤a:=λa w=>(ω.mp w).elim (big a) (b2 a);have c1: ∀{l:List Int} {x y:Int},x≠y→x ∉ l→x ∉ y::l:=λh h' w=>(ν.mp w).elim h h';have ex: ∀{j j' a},a∈pg j 0 rows++pg j' 0 rows→ ∃j,a∈pg j 0 rows:=λw=>(ω.mp w).elim (λh=>(EG _ h)) (λh=>(EG _ h));have ex3: ∀{j j' fM a},a∈pg j 0 rows++(pg j' 0 rows++pg fM 0 rows)→ ∃j,a∈pg j 0 rows:=λw=>(ω.mp w).elim (λh=>(EG _ h)) ex;have sm:spec.length≤3→(pg 0 0 rows).length+(pg 1 0 rows).length+(pg 2 0 rows).length=rows.length:=λh=>mI (h3 h);have l2: ∀{j j'},(pg j 0 rows++pg j' 0 rows).length=(pg j 0 rows).length+(pg j' 0 rows).length:=ε;have l3: ∀{j j' fM},(pg j 0 rows++(pg j' 0 rows++pg fM 0 rows)).length=(pg j 0 rows).length+((pg j' 0 rows).length+(pg fM 0 rows).length):=ε.trans (congrArg _ ε);cases T with
 |one=>
  have:=sm (by show 1≤3;decide)
  rw [cR (j:=1) hr,cR (j:=2) λp h=>AQ (hr p h) (by show 1≤2;decide)] at this;exact ⟨Η.mpr ⟨no (by decide) big,LC⟩,λa h=> .inr (.inr h),λa h=>(EG _ h),λa h=>h,⟨this,Ρ (Nat.le_of_eq this) (by exact Lf hl rfl)⟩,hl⟩
 |two=>
  have:=sm (by show 2≤3;decide)
  rw [cR (j:=2) hr] at this;have e:(pg 1 0 rows++pg 0 0 rows).length=rows.length:=by exact C9 l2<|Dr this<|Am _ _
  exact ⟨Η.mpr ⟨c1 (by decide) (no (by decide) b2),Η.mpr ⟨no (by decide) b2,KC LC LC λa=>dj (by decide)⟩⟩,λa h=>(ν.mp h).imp id .inr,λa=>ex,λa h=> .tail _ h,⟨e,by refine C9 ξ<|C9 e ?_;lia⟩,hl⟩
 |flat=>
  have:=sm (by show 3≤3;decide)
  have e:(pg 1 0 rows++(pg 2 0 rows++pg 0 0 rows)).length=rows.length:=by refine C9 l3 ?_;lia
  have e2:(21::(pg 1 0 rows++(22::(pg 2 0 rows++pg 0 0 rows)))).length=rows.length+2:=by refine C9 ξ<|C9 ε<|C9 ξ<|C9 l2 ?_;lia
  have mem: ∀{x:Int},x∈pg 1 0 rows++(22::(pg 2 0 rows++pg 0 0 rows))→x=22∨x∈pg 1 0 rows++(pg 2 0 rows++pg 0 0 rows):=λw=>(ω.mp w).elim (λw=> .inr (Θ _ w)) λw=>(ν.mp w).imp id (Ψ _);have nn: ∀{x:Int},x<30→x≠22→x ∉ pg 1 0 rows++(22::(pg 2 0 rows++pg 0 0 rows)):=λh h' w=>(mem w).elim h' (no h b3);exact ⟨Η.mpr ⟨c1 (by decide) (nn (by decide) (by decide)),Η.mpr ⟨nn (by decide) (by decide),KC LC (Η.mpr ⟨no (by decide) b2,KC LC LC λa=>dj (by decide)⟩) λa h=>c1 (by have:=big a h;lia) (d3 (by decide) (by decide) h)⟩⟩,λa h=>(ν.mp h).imp id mem,λa=>ex3,λa h=> .tail _ ((ω.mp h).elim (Θ _) λw=>Ψ _ (.tail _ w)),⟨e,by refine C9 e2 ?_;lia⟩,hl⟩
 |deep=>
  have:=sm (by show 3≤3;decide)
  have e:(pg 2 0 rows++(pg 1 0 rows++pg 0 0 rows)).length=rows.length:=by refine C9 l3 ?_;lia
  exact ⟨Η.mpr ⟨c1 (by decide) (c1 (by decide) (no (by decide) b3)),Η.mpr ⟨c1 (by decide) (no (by decide) b3),Η.mpr ⟨no (by decide) b3,KC LC (KC LC LC λa=>dj (by decide)) λa=>d3 (by decide) (by decide)⟩⟩⟩,λa h=>(ν.mp h).imp id ν.mp,λa=>ex3,λa h=> .tail _ (.tail _ h),⟨e,by refine C9 ξ<|C9 ξ<|C9 e ?_;lia⟩,hl⟩
end
end
section
mutual open A
variable{n m k j:Nat}{σ r:Store}{v x:D}{k1 k2 ks K A N:List Int}{vs fs:List D}{a b r0:Int}{c:Kc}{rows:List F2}{spec:List Dx}{ss:List Nat}{ws ab:List D}{st:List (Int×List D)}{ns:List Int}{p:Dx}{sh t:V}{fl:List V}
theorem mA(P:RN ss ws)(e:EF ks vs a=some (sd (15::ss) (x::ws)))(e6:EF ks vs 60=some (EM 13)):JD ks vs a (15::ss) (x::ws) [.int 0, .int 0, .int 9, .int 9]:=by
 have f:LT ks vs 1 (ref 60) (EM 13):= .PN e6 (.stop (k:=11) rfl rfl);have f':LT ks vs 0 (EM 13) (EM 13):= .stop (k:=11) rfl rfl;cases P with
 |plain T=>cases T with
  |no=>exact ⟨e, .inr ⟨rfl,rfl⟩,rfl,rfl,rfl,rfl⟩
  |EM=>exact ⟨e, .inl (DM 0 (by decide) f'),rfl,rfl,rfl,rfl⟩
  |ref=>exact ⟨e, .inl (DM 1 (by decide) f),rfl,rfl,rfl,rfl⟩
 |x T _=>cases T with
  |no=>exact ⟨e, .inr ⟨rfl,rfl⟩,rfl,rfl,rfl,rfl⟩
  |EM=>exact ⟨e, .inl (DM 0 (by decide) f'),rfl,rfl,rfl,rfl⟩
  |ref=>exact ⟨e, .inl (DM 1 (by decide) f),rfl,rfl,rfl,rfl⟩
theorem lQ(P:jO p v)(e:EF ks vs p.1=some v)(e6:EF ks vs 61=some (EM 14)): ∃ss ws,v=sd ss ws∧JF ks vs p.1 ss ws (p.2.1.map ref):=by
 have f:LT ks vs 1 (ref 61) (EM 14):= .PN e6 (.stop (k:=11) rfl rfl);have f':LT ks vs 0 (EM 14) (EM 14):= .stop (k:=11) rfl rfl;refine Ug P λc ss ws F ev=> ?_;clear P;refine (Gp ss ws ev ?_);rw [ev] at e;cases F with
 |top _ T=>cases T with
  |no=>exact ⟨e, .inr rfl,rfl,rfl,rfl,rfl,rfl⟩
  |EM=>exact ⟨e, .inl (DM 0 (by decide) f'),rfl,rfl,rfl,rfl,rfl⟩
  |ref=>exact ⟨e, .inl (DM 1 (by decide) f),rfl,rfl,rfl,rfl,rfl⟩
 |sub _ T=>cases T with
  |no=>exact ⟨e, .inr rfl,rfl,rfl,rfl,rfl,rfl⟩
  |EM=>exact ⟨e, .inl (DM 0 (by decide) f'),rfl,rfl,rfl,rfl,rfl⟩
  |ref=>exact ⟨e, .inl (DM 1 (by decide) f),rfl,rfl,rfl,rfl,rfl⟩
abbrev fA(ks:List Int)(vs:List D)(a:Int):Int×D:=(a,(EF ks vs a).getD .none)
def PgA(ks:List Int)(vs:List D)(a:Int):Prop:= ∃ss ws,JD ks vs a ss ws [.int 0, .int 0, .int 9, .int 9]
def yr(ks:List Int)(vs:List D)(a:Int)(kl:List Int):Prop:= ∃ss ws,JF ks vs a ss ws (kl.map ref)
abbrev yc(fs:List D):List D:=(fs.filter QA).map aF
def dO(ks:List Int)(vs:List D)(st:List (Int×List D))(ns A:List Int):Prop:= ∃fs,d9 ks vs st fs ns∧yc fs=A.map λa=>Oh (fA ks vs a)
theorem dO.Fb: ∀{B:List Int},(∀a∈B,PgA ks vs a)→dO ks vs st ns A→dO ks vs (B.map (λb=>(b,ab))++st) (B++ns) (B++A):=λ{B}=>by
 induction B with
 |nil=>intro _ h;exact h
 |cons a B ih=>
  intro h q;refine DQ (ih (λx hx=>h x (.tail _ hx)) q) λfs d e=> ?_;refine HY (h a (.head _)) λss ws P=> ?_;refine (DM _ (.pg P d) ?_);show D.nd (.inst 6) [ref a,sd ss ws]::yc fs=Oh (a,(EF ks vs a).getD .none)::_;exact C9 e<|C9 P.e rfl
theorem dO.node{kl:List Int}(h:yr ks vs a kl)(hl:ab.length<100)(q:dO ks vs (kl.map (λb=>(b,ab++ [ref a]))++st) ns A):dO ks vs ((a,ab)::st) (a::ns) A:=by
 refine HY h λss ws P=> ?_;clear h;refine DQ q λfs d e=> ?_;clear q;exact (DM _ (.nd P hl d) e)
theorem dO.nil:dO ks vs [] [] []:=(DM ([]) .nil rfl)
theorem i0(T:Tj rows spec K A N)(hp: ∀j,∀a∈pg j 0 rows,PgA ks vs a)(hn: ∀p∈spec,yr ks vs p.1 p.2.1):yr ks vs 20 K∧dO ks vs (K.map λb=>(b, [ref 20])) N A:=by
 have e: ∀{l:List Int} {f:Int→Int×List D},l.map f++ []=l.map f:=υ _;have one: ∀j,dO ks vs ((pg j 0 rows).map (λb=>(b, [ref 20]))++ []) (pg j 0 rows++ []) (pg j 0 rows++ []):=λj=> .Fb (hp j) .nil
 have one: ∀j,dO ks vs ((pg j 0 rows).map (λb=>(b, [ref 20]))) (pg j 0 rows) (pg j 0 rows):=λj=>by
  have:=one j
  rw [υ,υ] at this;exact this
 cases T with
 |one=>exact ⟨hn _ (.head _),one 0⟩
 |two=>exact ⟨hn _ (.head _), .node (hn (21,pg 1 0 rows,20) (.tail _ (.head _))) (by show 1<100;decide) (.Fb (hp 1) (one 0))⟩
 |flat=>exact ⟨hn _ (.head _), .node (hn (21,pg 1 0 rows,20) (.tail _ (.head _))) (by show 1<100;decide) (.Fb (hp 1) (.node (hn (22,pg 2 0 rows,20) (.tail _ (.tail _ (.head _)))) (by show 1<100;decide) (.Fb (hp 2) (one 0))))⟩
 |deep=>exact ⟨hn _ (.head _), .node (hn (21,22::pg 1 0 rows,20) (.tail _ (.head _))) (by show 1<100;decide) (.node (hn (22,pg 2 0 rows,21) (.tail _ (.tail _ (.head _)))) (by show 2<100;decide) (.Fb (hp 2) (.Fb (hp 1) (one 0))))⟩
structure Tk(ks:List Int)(vs:List D)(r0:Int)(A N:List Int):Prop where
 s: ∀n σ sh fl t,Sh σ sh ks vs (Fv r0) fl t→ ∃fs,(∀d∈fs,mB ks vs d)∧fs.map bL=20::N∧yc fs=A.map (λa=>Oh (fA ks vs a))∧ ∀r,(DZ (n+5)).call false 23 [sh] (σ++r)=some (.d (.nd .lst fs),σ++r)
theorem Kd(C:Iu c (EF ks vs))(hr: ∀p∈c.rows,RN p.2.1 p.2.2)(T:Tj c.rows c.spec K A N)(F:Ko c.rows A N)(h0:0<r0∧r0<4):Tk ks vs r0 A N:=by
 have ⟨⟨s2,w2,N2⟩,fs,d,e⟩:=i0 T (λj a h=>ES (C.p j a h) λp hp O e=>(TM _ _ (mA (hr p hp) e C.j2))) (λp h=>DQ (C.n p h) λv h1 h2=>GE (lQ h1 h2 C.jU) λss ws O h3=>(TM ss ws h3));have f3:LT ks vs 1 (ref 3) Ez:= .PN C.k3 (.stop (k:=5) rfl rfl)
 have f: ∃k,k<30∧LT ks vs k (ref r0) Ez:=by
  have:r0=1∨r0=2∨r0=3:=by exact pB h0
  rcases this with e|e|e
  ·exact C9 e<|(DM 3 (by decide) (.PN C.k1 (.PN C.k2 f3)))
  ·exact C9 e<|(DM 2 (by decide) (.PN C.k2 f3))
  ·exact C9 e<|(DM 1 (by decide) f3)
 refine DQ f λk hk f=> ?_;have S:=XA d;have nl:=F.l.2;refine ⟨λn σ sh fl t H=>(KV (SN 20 (sd s2 w2) (.nd .tup [])::fs) (λd hd=> ?_) (congrArg (20:: ·) S.2) e (λr=>TR (H.app (r:=r)) f hk rfl N2 d F.n (by exact IJ nl rfl)))⟩;rcases ν.mp hd with w|w
 ·exact C9 w<| .nd N2
 ·exact S.1 d w
theorem Tk.Vr(S:Tk ks vs r0 A N)(H:Sh σ sh ks vs (Fv r0) fl t):(DZ (n+7)).call false 26 [sh] σ=some (.d (.nd .lst (A.map λa=>Oh (fA ks vs a))),σ):=by
 refine KU (S.s n σ sh fl t H) λfs h1 h2 h3 h4=> ?_;refine Dr h3 ?_;have h4:=h4 [];rw [υ] at h4;exact Sb H h4 h1
def MN(r0:Int):List Int:=cond (decide (r0=1)) [1,2,3] (cond (decide (r0=2)) [2,3] [3])
theorem ng(C:Iu c (EF ks vs))(h0:0<r0∧r0<4):l7 ks vs r0 (MN r0):=by
 have f3:l7 ks vs 3 [3]:= .stop C.k3 (k:=5) rfl rfl
 have:r0=1∨r0=2∨r0=3:=by exact pB h0
 rcases this with e|e|e
 ·exact C9 e<| .PN C.k1 (.PN C.k2 f3)
 ·exact C9 e<| .PN C.k2 f3
 ·exact C9 e f3
theorem tW:MN r0= [1,2,3]∨MN r0= [2,3]∨MN r0= [3]:=by
 show cond (decide (r0=1)) [1,2,3] (cond (decide (r0=2)) [2,3] [3])=_∨cond (decide (r0=1)) [1,2,3] (cond (decide (r0=2)) [2,3] [3])=_∨cond (decide (r0=1)) [1,2,3] (cond (decide (r0=2)) [2,3] [3])=_;cases decide (r0=1) with
 |true=>exact .inl rfl
 |false=>cases decide (r0=2) with
  |true=>exact .inr (.inl rfl)
  |false=>exact .inr (.inr rfl)
theorem RC:(∀a∈MN r0,0<a∧a<4)∧(MN r0).Nodup∧(MN r0).length<4∧3∈MN r0:=by
 rcases tW (r0:=r0) with e|e|e
 ·refine C9 e ?_;decide
 ·refine C9 e ?_;decide
 ·refine C9 e ?_;decide
theorem vI(C:Iu c (EF ks vs))(S:Tk ks vs r0 A N)(F:Ko c.rows A N)(h0:0<r0∧r0<4)(H:Sh σ sh ks vs (Fv r0) fl t):(DZ (n+6)).call false 29 [sh] σ=some (.d (PS ((20::N)++MN r0)),σ):=by
 refine KU (S.s n σ sh fl t H) λfs h1 h2 h3 h4=> ?_;refine OR (RC (r0:=r0)) λl0 l1 l3 O=> ?_;have l2:=F.l.2;refine Xq H h4 h1 h2 (ng C h0) (KC F.n l1 λa ha w=> ?_) (by refine C9 ξ ?_;lia)
 have:=l0 a w
 rcases ν.mp ha with e|e
 ·exact xU this e rfl
 ·rcases F.m a e with e|e|e
  ·exact xU this e rfl
  ·exact xU this e rfl
  ·refine D3 (F.a a e) λj h=> ?_
   have:=HT a h;exact zrM (by assumption) this rfl
end
end
section
mutual open A
variable{n m k:Nat}{σ:Store}{x:D}{ks bs as:List Int}{vs:List D}{a b:Int}{ss es:List Nat}{p:Dx}{t:V}{e:Nat}
abbrev r6(a:Int):D:= .nd .tup [.sym 120, .int a, .int 0]
abbrev eD(a:Int):D:= .nd .tup [.sym 75, .int a]
def tL:Nat→List D
 |0=> [.sym 56, .nd .tup [.sym 12,r6 43], .nd .tup [.sym 14,r6 20]]
 |1=> [.sym 56, .nd .tup [.sym 10, .nd .tup [.sym 42,eD 0,eD 0,eD 9,eD 9]], .nd .tup [.sym 15,r6 20]]
 |2=> [.sym 42,eD 5]
 |3=> [.sym 56, .nd .tup [.sym 28,r6 40]]
 |4=> [.sym 120, .int 2, .int 0]
 |5=> [.sym 120, .int 3, .int 0]
 |6=> [.sym 56, .nd .tup [.sym 9,eD 1]]
 |7=> [.sym 99, .sym 13]
 |_=> [.sym 99, .sym 14]
abbrev tD(e:Nat):D:= .nd .tup (tL e)
def vD:Nat→D
 |4=>ref 2
 |5=>ref 3
 |6=>HZ
 |7=>EM 13
 |8=>EM 14
 |z=>Hw z
abbrev kx(e:Nat):DO:= .t (FX (tD e))
theorem kD: ∀e,e<9→ ∀e',e'<9→DO.beq (kx e) (kx e')=μ e e':=by decide+kernel
theorem nP: ∀e,e<9→(JW (tD e)&&Ε (ej (tD e)) 8&&Ε (FX (tD e)).length 1000000)=true:=by decide+kernel
theorem d0(h:e<9):PC (tD e)=some (.d (.str (FX (tD e)))):=D7 (nP e h) rfl
theorem Tu:G5 2 (ref a) (r6 a):=λn keep σ h=>by refine DQ (Ey (a:=0) 2 h) λm e O=> ?_;exact C9 e b9
theorem VY:G5 2 (.int a) (eD a):=λn keep σ h=>by refine DQ (Ey (a:=0) 2 h) λm e O=> ?_;exact C9 e SJ
theorem mc{s:Nat}:G5 2 (EM s) (.nd .tup [.sym 99, .sym s]):=λn keep σ h=>by refine DQ (Ey (a:=0) 2 h) λm e O=> ?_;exact C9 e TV
theorem vT:G5 3 HU (.nd .tup [.sym 42,eD 0,eD 0,eD 9,eD 9]):=OH (k:=1) (.cons VY (.cons VY (.cons VY (.cons VY .nil)))) (by decide)
theorem SR(h:e<9):G5 4 (vD e) (tD e):=by
 cases e,h using lK with
 |h0=>exact (JP (k:=1) (ss:= [14,12]) (vs:= [ref 20,ref 43]) (by decide) (by decide) (.cons (FC _ _ rfl rfl rfl Tu) (.cons (FC _ _ rfl rfl rfl Tu) .nil))).up (by decide)
 |h1=>exact (JP (k:=2) (ss:= [10,15]) (vs:= [HU,ref 20]) (by decide) (by decide) (.cons (FC _ _ rfl rfl rfl vT) (.cons (FC _ _ rfl rfl rfl (Tu.up (by decide))) .nil)))
 |h2=>exact (OH (k:=1) (.cons VY .nil) (by decide)).up (by decide)
 |h3=>exact (JP (k:=1) (ss:= [28]) (vs:= [ref 40]) (by decide) (by decide) (.cons (FC _ _ rfl rfl rfl Tu) .nil)).up (by decide)
 |h4=>exact Tu.up (by decide)
 |h5=>exact Tu.up (by decide)
 |h6=>exact (JP (k:=1) (ss:= [9]) (vs:= [.int 1]) (by decide) (by decide) (.cons (FC _ _ rfl rfl rfl VY) .nil)).up (by decide)
 |h7=>exact mc.up (by decide)
 |h8=>exact mc.up (by decide)
theorem gU(h:e<9):J7 (vD e):=by
 cases e,h using lK with
 |h0=>exact .Dg rfl
 |h1=>exact .Dg rfl
 |h2=>exact .lst _
 |h3=>exact .Dg rfl
 |h4=>exact .ref _
 |h5=>exact .ref _
 |h6=>exact .Dg rfl
 |h7=>exact .EM _
 |h8=>exact .EM _
theorem eE(hb:a ∉ bs)(h:EF ks vs a=some (vD e))(he:e<9):Yu ks vs bs 4 (a,some (tD e)):= .see hb h (gU he) (SR he) (d0 he)
def lJ:List Nat→List Int→Nat→Option Int
 |e::es,a::as,x=>cond (μ e x) (some a) (lJ es as x)
 |_,_,_=>none
def fK:List (Int×Nat)→List Nat→List Int→List (Int×Int)→List (Int×Int)
 | [],_,_,w=>w
 |p::l,es,as,w=>match lJ es as p.2 with
  |some b=>fK l es as (w++ [(p.1,b)])
  |none=>fK l (es++ [p.2]) (as++ [p.1]) w
abbrev wK(w:List (Int×Int)):List DO:=(w.map λp=>p.1).map λa=> .p a 0
abbrev wV(w:List (Int×Int)):List D:=w.map λp=>FN p.2
theorem eG: ∀{es:List Nat} {as:List Int},e<9→(∀x∈es,x<9)→DU (es.map kx) (as.map FN) (kx e)=(lJ es as e).map FN:=λ{es}=>by
 induction es with
 |nil=>intro as _ _;rfl
 |cons x es ih=>
  intro as h h';cases as with
  |nil=>rfl
  |cons b as=>
   show cond (DO.beq (kx x) (kx e)) (some (FN b)) (DU (es.map kx) (as.map FN) (kx e))=(cond (μ x e) (some b) (lJ es as e)).map FN;refine C9 (kD x (h' x (.head _)) e h)<|C9 (ih h λy hy=>h' y (.tail _ hy)) ?_
   cases μ x e<;>rfl
theorem ie: ∀{es:List Nat} {as:List Int},es.length=as.length→lJ es as e=none→e<9→(∀x∈es,x<9)→Dm (es.map kx) (kx e)=false:=λ{es as} l h he h'=>Lg (vs:=as.map FN) (by (exact C9 (ι _)<|C9 (ι _)<|C9 l rfl)) (by exact C9 (eG he h')<|C9 h rfl)
theorem f9{z:Zd}{y:D}(h:DU z.fk z.fv (.t (FX x))=some y):ZZ z a x=⟨z.fk,z.fv,D2 z.tk (.p a 0),Dz z.tk z.tv (.p a 0) y⟩:=by unfold ZZ;(exact C9 h rfl)
theorem oj{z:Zd}(h:DU z.fk z.fv (.t (FX x))=none):ZZ z a x=⟨D2 z.fk (.t (FX x)),Dz z.fk z.fv (.t (FX x)) (FN a),z.tk,z.tv⟩:=by unfold ZZ;(exact C9 h rfl)
def rO(l:List (Int×Nat))(z:Zd)(w:List (Int×Int)):Prop:=(Te (l.map λp=>(p.1,some (tD p.2))) z).tk=wK w∧(Te (l.map λp=>(p.1,some (tD p.2))) z).tv=wV w
theorem n9: ∀{l:List (Int×Nat)} {es:List Nat} {as:List Int} {w:List (Int×Int)},(∀p∈l,p.2<9)→(∀x∈es,x<9)→es.length=as.length→(w.map (λp=>p.1)++l.map (λp=>p.1)).Nodup→
  rO l ⟨es.map kx,as.map FN,wK w,wV w⟩ (fK l es as w):=λ{l}=>by
 induction l with
 |nil=>intro es as w _ _ _ _;exact ⟨rfl,rfl⟩
 |cons p l ih=>
  intro es as w h h' hl Fl;have he:=h p (.head _);have look:=eG (as:=as) he h';have h2: ∀q∈l,q.2<9:=λq hq=>h q (.tail _ hq);have oD:(w.map (λp=>p.1)++p.1::l.map (λp=>p.1)).Nodup:=Fl;show rO l (ZZ ⟨es.map kx,as.map FN,wK w,wV w⟩ p.1 (tD p.2)) (match lJ es as p.2 with|some b=>fK l es as (w++ [(p.1,b)])|none=>fK l (es++ [p.2]) (as++ [p.1]) w);cases q:lJ es as p.2 with
  |some b=>
   have hp:p.1 ∉ w.map λp=>p.1:=λhm=>(AE.mp oD).2.2 _ hm _ (.head _) rfl;have e1:D2 (wK w) (.p p.1 0)=wK (w++ [(p.1,b)]):=(EN (i8 hp)).trans (by show _=((w++ [(p.1,b)]).map λp=>p.1).map λa=>DO.p a 0;exact C9 χ<|C9 χ rfl);have e2:Dz (wK w) (wV w) (.p p.1 0) (FN b)=wV (w++ [(p.1,b)]):=(Ef (i8 hp) (by (exact C9 (ι _)<|C9 (ι _)<|C9 (ι _) rfl))).trans (by show _=(w++ [(p.1,b)]).map λp=>FN p.2;exact C9 χ rfl);refine C9 (f9 (z:=⟨es.map kx,as.map FN,wK w,wV w⟩) (look.trans (by rw [q];rfl))) ?_;show rO l ⟨es.map kx,as.map FN,D2 (wK w) (.p p.1 0),Dz (wK w) (wV w) (.p p.1 0) (FN b)⟩ _;refine C9 e1<|C9 e2 ?_
   exact ih h2 h' hl (by exact C9 χ<|C9 (π _ _ _) oD)
  |none=>
   have no:=ie hl q he h';have e1:D2 (es.map kx) (kx p.2)=(es++ [p.2]).map kx:=(EN no).trans (by exact C9 χ rfl);have e2:Dz (es.map kx) (as.map FN) (kx p.2) (FN p.1)=(as++ [p.1]).map FN:=(Ef no (by (exact C9 (ι _)<|C9 (ι _)<|C9 hl rfl))).trans (by exact C9 χ rfl);refine C9 (oj (z:=⟨es.map kx,as.map FN,wK w,wV w⟩) (look.trans (by rw [q];rfl))) ?_;show rO l ⟨D2 (es.map kx) (kx p.2),Dz (es.map kx) (as.map FN) (kx p.2) (FN p.1),wK w,wV w⟩ _;refine C9 e1<|C9 e2 ?_
   exact ih h2 (λx hx=>(ω.mp hx).elim (h' x) λe=>(ς.mp e)▸he) (by exact C9 ε<|C9 ε<|C9 hl rfl) (List.Nodup.sublist (List.Sublist.append (List.Sublist.refl _) (List.sublist_cons_self _ _)) oD)
end
end
section
mutual open A
variable{n m j:Nat}{σ r:Store}{v x:D}{k1 k2 ks K A N bs as mid:List Int}{vs:List D}{a b r0:Int}{c:Kc}{rows:List F2}{es:List Nat}{p:Dx}{sh t:V}{fl:List V}{e:Nat}{tl:List (Int×Nat)}{w:List (Int×Int)}
def Sy(z0 z1 z2:Nat):List (Int×Int):=cond (μ z1 z0) [(41,40)] []++cond (μ z2 z0) [(42,40)] (cond (μ z2 z1) [(42,41)] [])
def fT(z0 z1 z2:Nat):List (Int×Nat):= [(40,z0),(41,z1),(42,z2),(43,6),(60,7),(61,8)]
def QY(z0 z1 z2:Nat):List (Int×Nat):= [(40,z0)]++(cond (μ z1 z0) [] [(41,z1)]++(cond (μ z2 z0) [] (cond (μ z2 z1) [] [(42,z2)])++ [(43,6),(60,7),(61,8)]))
def iR(r0:Int):List (Int×Nat):=cond (decide (r0=1)) [] (cond (decide (r0=2)) [(1,4)] [(1,4),(2,5)])
abbrev wF(r0:Int)(z0 z1 z2:Nat):Prop:=fK (iR r0++fT z0 z1 z2) [] [] []=Sy z0 z1 z2∧fK (iR r0++QY z0 z1 z2) [] [] []= []∧((QY z0 z1 z2).map λp=>p.1).Nodup
set_option synthInstance.maxHeartbeats 400000 in
set_option synthInstance.maxSize 4096 in
theorem mZ: ∀z0,z0<4→ ∀z1,z1<4→ ∀z2,z2<4→wF 1 z0 z1 z2∧wF 2 z0 z1 z2∧wF 3 z0 z1 z2:=by decide+kernel
abbrev sm(p:Int×Nat):Int×Option D:=(p.1,some (tD p.2))
abbrev fG(a:Int):Int×Option D:=(a,none)
def wS(r0:Int):List (Int×Option D):=cond (decide (r0=1)) [fG 1,fG 2,fG 3] (cond (decide (r0=2)) [sm (1,4),fG 2,fG 3] [sm (1,4),sm (2,5),fG 3])
theorem OQ: ∀{l:List Int} {r:List (Int×Option D)} {z:Zd},Te (l.map fG++r) z=Te r z:=λ{l}=>by
 induction l with
 |nil=>intro r z;rfl
 |cons a l ih=>intro r z;exact ih
theorem r3(h:0<r0∧r0<4):r0=1∨r0=2∨r0=3:=by exact pB h
theorem nE(h:0<r0∧r0<4):Te (wS r0++(mid.map fG++tl.map sm)) ⟨[], [], [], []⟩=Te ((iR r0++tl).map sm) ⟨[], [], [], []⟩:=by
 rcases r3 h with e|e|e
 ·exact C9 e OQ
 ·exact C9 e OQ
 ·exact C9 e OQ
theorem m8(h:0<r0∧r0<4):(wS r0).map (λp=>p.1)= [1,2,3]:=by
 rcases r3 h with e|e|e<;>refine C9 e ?_<;>rfl
theorem pO(C:Iu c (EF ks vs))(h:0<r0∧r0<4)(hb: ∀a,0<a→a<4→(a∈bs↔a∈MN r0)): ∀p∈wS r0,Yu ks vs bs 4 p:=by
 have y: ∀{a v},EF ks vs a=some v→0<a∧a<4∧a∈MN r0→Yu ks vs bs 4 (fG a):=λe w=> .skip e ((hb _ w.1 w.2.1).mpr w.2.2);have s: ∀{a e},EF ks vs a=some (vD e)→e<9→0<a∧a<4∧a ∉ MN r0→Yu ks vs bs 4 (sm (a,e)):=λe he w=>eE (λq=>w.2.2 ((hb _ w.1 w.2.1).mp q)) e he
 have l3: ∀{q1 q2 q3:Int×Option D},Yu ks vs bs 4 q1→Yu ks vs bs 4 q2→Yu ks vs bs 4 q3→ ∀p∈ [q1,q2,q3],Yu ks vs bs 4 p:=λh1 h2 h3 p hp=>by
  rcases ν.mp hp with w|hp
  ·exact C9 w h1
  rcases ν.mp hp with w|hp
  ·exact C9 w h2
  ·exact C9 (ς.mp hp) h3
 rcases r3 h with e|e|e
 ·rw [e] at y s ⊢;exact l3 (y C.k1 (by decide)) (y C.k2 (by decide)) (y C.k3 (by decide))
 ·rw [e] at y s ⊢;exact l3 (s C.k1 (by decide) (by decide)) (y C.k2 (by decide)) (y C.k3 (by decide))
 ·rw [e] at y s ⊢;exact l3 (s C.k1 (by decide) (by decide)) (s C.k2 (by decide) (by decide)) (y C.k3 (by decide))
theorem lW(h:0<r0∧r0<4):(∀p∈iR r0,p.2<9∧p.1<4)∧((iR r0).map λp=>p.1).Nodup:=by
 rcases r3 h with e|e|e<;>refine C9 e ?_<;>decide
theorem bc(F:Ko rows A N): ∀a∈20::N,20≤a∧a<40:=λa ha=>by
 rcases ν.mp ha with e|e
 ·exact yt e rfl
 ·rcases F.m a e with e|e|e
  ·exact yt e rfl
  ·exact yt e rfl
  ·refine D3 (F.a a e) λj h=> ?_
   refine Dl (LQ h) λh1 O=> ?_
   have:=Fq a h1
   have:=F.l.1
   have:=F.b
   lia
theorem lG(F:Ko rows A N)(g1:0<a)(g2:a<4):a∈(20::N)++MN r0↔a∈MN r0:=⟨λw=>(ω.mp w).elim (λw=>by have:=bc F a w;lia) id,λw=>Ψ _ w⟩
theorem NL(F:Ko rows A N)(g:40≤a):a ∉ (20::N)++MN r0:=λw=>(ω.mp w).elim (λw=>by have:=bc F a w;exact zrm this g rfl) (λw=>by have:=RC.1 a w;exact zrM this g rfl)
theorem TG(C:Iu c (EF ks vs))(S:Tk ks vs r0 A N)(F:Ko c.rows A N)(h0:0<r0∧r0<4)(hl:ks.length<64)(Xm:HA I9 ks= [1,2,3]++(mid++tl.map λp=>p.1))(zD: ∀a∈mid,a∈20::N∧ ∃v,EF ks vs a=some v)
  (xA: ∀p∈tl,p.2<9∧40≤p.1∧EF ks vs p.1=some (vD p.2)) (Fl:(tl.map λp=>p.1).Nodup) (hw:fK (iR r0++tl) [] [] []=w) (H:Sh σ sh ks vs (Fv r0) fl t):(DZ (n+8)).call false 39 [sh] σ=some (.d (.nd (.Dg 2 (wK w)) (wV w)),σ):=by
 have hb: ∀a,0<a→a<4→(a∈(20::N)++MN r0↔a∈MN r0):=λa=>lG F;have nb: ∀a,40≤a→a ∉ (20::N)++MN r0:=λa=>NL F;have h3:=lW h0
 have Q:rO (iR r0++tl) ⟨[], [], [], []⟩ (fK (iR r0++tl) [] [] []):=n9 (es:= []) (as:= []) (w:= []) (λp hp=>(ω.mp hp).elim (λq=>(h3.1 p q).1) λq=>(xA p q).1) (λx hx=>nomatch hx) rfl (by
  show ((iR r0++tl).map λp=>p.1).Nodup;refine C9 χ ?_;refine KC h3.2 Fl λa ha w=> ?_;refine DQ (AD.mp ha) λp hp e=> ?_;refine DQ (AD.mp w) λq hq e'=> ?_
  have:=(h3.1 p hp).2
  have:=(xA q hq).2.1
  lia)
 have ok:=eN (n:=n) (rows:=wS r0++(mid.map fG++tl.map sm)) (bs:=(20::N)++MN r0) (K:=4) H hl (λr=>YH (vI C S F h0 H.app)) (λp hp=>by
  rcases ω.mp hp with w|w
  ·exact pO C h0 hb p w
  ·rcases ω.mp w with w|w
   ·refine DQ (AD.mp w) λa ha e=> ?_
    refine t6 (zD a ha) λh1 v h2=> ?_;exact Dr e<| .skip h2 (Θ _ h1)
   ·refine DQ (AD.mp w) λq hq e=> ?_
    refine ET (xA q hq) λh1 h2 h3=> ?_;exact Dr e<|eE (nb _ h2) h3 h1) (by
  refine C9 Xm<|C9 χ<|C9 (m8 h0)<|C9 χ<|C9 Δ<|C9 Δ ?_
  show [1,2,3]++(mid.map id++_)=_;exact C9 (List.map_id _) rfl) (by exact ψ _ _)
 rw [nE h0] at ok;exact Dr hw<|Dr Q.1<|Dr Q.2 ok
end
end
section
mutual open A
variable{i:Nat}{r:Store}{v v' x:D}{k2 ks K:List Int}{vs D4 l l':List D}{a b:Int}{c:Kc}{ss NT:List Nat}{ws F8:List D}{p:Dx}{e s:Nat}{w:List (Int×Int)}
def I6:List (Int×Int)→Int→Option Int
 | [],_=>none
 |p::w,a=>cond (Dj p.1 a) (some p.2) (I6 w a)
def Jg(w:List (Int×Int))(a:Int):Int:=(I6 w a).getD a
theorem pX:DU (wK w) (wV w) (.p a 0)=(I6 w a).map FN:=by
 induction w with
 |nil=>rfl
 |cons p w ih=>
  show cond (Dj p.1 a&&Dj 0 0) (some (FN p.2)) (DU (wK w) (wV w) (.p a 0))=(cond (Dj p.1 a) (some p.2) (I6 w a)).map FN;refine C9 ih ?_;cases Dj p.1 a<;>rfl
theorem ot:YV (wK w) (wV w) a=FN (Jg w a):=by
 show (DU (wK w) (wV w) (.p a 0)).getD (FN a)=FN ((I6 w a).getD a);refine C9 pX ?_;cases I6 w a<;>rfl
theorem ju:Dm (wK w) (.p a 0)=(I6 w a).isSome:=by
 induction w with
 |nil=>rfl
 |cons p w ih=>
  show ((Dj p.1 a&&Dj 0 0)||Dm (wK w) (.p a 0))=(cond (Dj p.1 a) (some p.2) (I6 w a)).isSome;refine C9 ih ?_;cases Dj p.1 a<;>rfl
theorem Vm{z0 z1 z2:Nat}(h1:a≠41)(h2:a≠42):I6 (Sy z0 z1 z2) a=none:=by
 have e1:Dj 41 a=false:=by cases q:Dj 41 a with|false=>rfl|true=>exact absurd (ER q).symm h1
 have e2:Dj 42 a=false:=by cases q:Dj 42 a with|false=>rfl|true=>exact absurd (ER q).symm h2
 unfold Sy;cases μ z1 z0<;>cases μ z2 z0<;>cases μ z2 z1<;>simp only [cond,I6,υ,Bc,List.cons_append,e1,e2]
theorem Tx{z0 z1 z2:Nat}(h1:a≠41)(h2:a≠42):Jg (Sy z0 z1 z2) a=a:=by show (I6 _ _).getD a=a;exact C9 (Vm h1 h2) rfl
def Rw(ks:List Int)(w:List (Int×Int))(a b:Int):Prop:=a∈ks∧b=Jg w a
theorem bv{f:Int→D}: ∀{ks:List Int},a∈ks→DU (ks.map λa=> .p a 0) (ks.map f) (.p a 0)=some (f a):=λ{ks}=>by
 induction ks with
 |nil=>intro h;exact absurd h Γ
 |cons b ks ih=>
  intro h;show cond (Dj b a&&Dj 0 0) (some (f b)) (DU (ks.map λa=> .p a 0) (ks.map f) (.p a 0))=_;cases q:Dj b a with
  |true=>exact C9 (ER q) rfl
  |false=>
   rcases ν.mp h with e|e
   ·rw [e,show Dj b b=true by cases b<;>exact AH _] at q;exact nomatch q
   ·exact ih e
abbrev wy(ks:List Int):List DO:=ks.map λa=> .p a 0
abbrev xV(ks:List Int)(w:List (Int×Int)):List D:=ks.map (YV (wK w) (wV w))
theorem kK(h:R0 (Rw ks w) v v'):Rn (wy ks) (xV ks w) 2 v v':=by
 cases h with
 |int i=>exact Lu
 |EM s=>exact Zm
 |ref q=>exact b8 ((bv q.1).trans (by (exact C9 ot<|C9 q.2 rfl)))
theorem kA(h:R1 (Rw ks w) v v'):Rn (wy ks) (xV ks w) 3 v v':=by
 cases h with
 |of q=>exact (kK q).up (by decide)
 |lst _ q=>exact Us (K:=1) (q.imp λO O=>kK)
theorem fX(h:R0 (Rw ks w) v v'):isNone (.d v')=false:=by cases h<;>rfl
theorem W0(h:R1 (Rw ks w) v v'):isNone (.d v')=false:=by
 cases h with
 |of q=>exact fX q
 |lst _ q=>rfl
theorem V': ∀{ss:List Nat},ss.length=ws.length→DS (R1 (Rw ks w)) ws F8→FO ss F8=ss∧GJ F8=F8:=λ{ss} hl h=>by
 induction h generalizing ss with
 |nil=>cases ss with|nil=>exact ⟨rfl,rfl⟩|cons=>exact nomatch hl
 | @cons u u' l l' r _ ih=>
  cases ss with
  |nil=>exact nomatch hl
  |cons s ss=>
   refine Dl (ih (AK.inj hl)) λh1 h2=> ?_
   constructor
   ·show cond (isNone (.d u')) _ (s::FO ss l')=_
    exact C9 (W0 r)<|C9 h1 rfl
   ·show cond (isNone (.d u')) _ (u'::GJ l')=_
    exact C9 (W0 r)<|C9 h2 rfl
def Gv(ks:List Int)(w:List (Int×Int))(v v':D):Prop:=R2 (Rw ks w) v v'∧Rn (wy ks) (xV ks w) 4 v v'
theorem KP(nd:ss.Nodup)(hl:ss.length=ws.length)(h6:ss.length<64)(h:DS (R1 (Rw ks w)) ws F8):Gv ks w (sd ss ws) (sd ss F8):=by
 refine ⟨.Dg h6 hl h, ?_⟩
 have:=Z8 (K:=2) nd hl (h.imp λO O=>kA)
 rw [(V' hl h).1,(V' hl h).2] at this;exact this
theorem cV(h:R1 (Rw ks w) v v'):Gv ks w v v':=⟨.of h,(kA h).up (by decide)⟩
theorem VA:R1 (Rw ks w) HU HU:= .lst (by decide) (.cons (.int _) (.cons (.int _) (.cons (.int _) (.cons (.int _) .nil))))
theorem dg(h:DS (R1 (Rw ks w)) ws ws)(T:Ty s ss ws NT F8)(h60:Rw ks w 60 60)(h61:Rw ks w 61 61):DS (R1 (Rw ks w)) F8 F8:=by
 cases T with
 |no=>exact h
 |EM=>exact h.append (.cons (.of (.EM _)) .nil)
 |ref=>
  refine h.append (.cons (.of (.ref ?_)) .nil)
  by_cases e:s=13
  ·exact C9 (if_pos e) h60
  ·exact C9 (if_neg e) h61
structure fR(ks:List Int)(w:List (Int×Int)):Prop where
 j2:Rw ks w 60 60
 jU:Rw ks w 61 61
 sx:Rw ks w 43 43
 v6:Rw ks w 40 40
 qB:Rw ks w 20 20
 k3:Rw ks w 3 3
 k2:Rw ks w 2 2
 x: ∀x∈ [(1:Int),2,3,30,40,41,42],x∈ks∧Jg w x∈ [(1:Int),2,3,30,40,41,42]
theorem sL(S:fR ks w)(P:RN ss ws)(h:Rw ks w b b): ∃F8,RN ss F8∧Gv ks w (sd (15::ss) (ref b::ws)) (sd (15::ss) (ref b::F8)):=by
 have ok: ∀{NT:List Nat} {gD ws2:List D},(15::NT).Nodup→NT.length=gD.length→NT.length<60→DS (R1 (Rw ks w)) gD ws2→Gv ks w (sd (15::NT) (ref b::gD)) (sd (15::NT) (ref b::ws2)):=λh1 h2 h3 h4=>KP h1 (congrArg (· +1) h2) (by exact C9 ξ<|Lf h3 rfl) (.cons (.of (.ref h)) h4);refine ET P.Fl λn1 n2 n3=> ?_;cases P with
 |plain T=>exact (DM ws (.plain T) (ok n1 n2 n3 (dg (.cons VA .nil) T S.j2 S.jU)))
 | @x ss ws x T hx=>
  refine Dl (S.x x hx) λh1 h2=> ?_;exact (DM (ws++ [ref (Jg w x)]) (.x T h2) (ok n1 n2 n3 ((dg (.cons VA .nil) T S.j2 S.jU).append (.cons (.of (.ref ⟨h1,rfl⟩)) .nil))))
theorem pW(S:fR ks w)(P:jO p v)(h: ∀a∈p.2.1,Rw ks w a a)(hK:p.2.1.length<1000)(hp:20<p.1→Rw ks w p.2.2 p.2.2):Gv ks w v v:=by
 refine Ug P λc ss ws F e=> ?_
 have kd:R1 (Rw ks w) (.nd .lst (p.2.1.map ref)) (.nd .lst (p.2.1.map ref)):= .lst (by exact C9 (ι _) hK) (by
  clear hK hp P F;generalize p.2.1=K at h
  induction K with
  |nil=>exact .nil
  |cons a K ih=>exact .cons (.ref (h a (.head _))) (ih λx hx=>h x (.tail _ hx)))
 refine C9 e ?_
 have ty: ∀{mY:List Nat} {gD:List D},DS (R1 (Rw ks w)) gD gD→mY.Nodup→26 ∉ mY→mY.length=gD.length→mY.length<60→Ty 14 mY gD ss ws→Gv ks w (sd ss ws) (sd ss ws):=λ{mY gD} h1 h2 h3 h4 h5 T=>by
  refine ET (bq T h4) λl1 l2 O=> ?_;refine KP ?_ l1 (by omega) (dg h1 T S.j2 S.jU);have n2:(mY++ [26]).Nodup:=AE.mpr ⟨h2,Η.mpr ⟨Γ,BB⟩,λx hx y hy e=>h3 (by exact Dr (ς.mp hy)<|Dr e hx)⟩;cases T with
  |no=>exact h2
  |EM=>exact n2
  |ref=>exact n2
 cases F with
 |top _ T=>exact ty (.cons kd (.cons (.of (.int _)) .nil)) (by decide) (by decide) rfl (by decide) T
 |sub g T=>exact ty (.cons kd (.cons (.of (.int _)) (.cons (.of (.ref (hp g))) .nil))) (by decide) (by decide) rfl (by decide) T
theorem LD(S:fR ks w)(he:e<9):Gv ks w (vD e) (vD e):=by
 cases e,he using lK with
 |h0=>exact KP (by decide) rfl (by decide) (.cons (.of (.ref S.qB)) (.cons (.of (.ref S.sx)) .nil))
 |h1=>exact KP (by decide) rfl (by decide) (.cons VA (.cons (.of (.ref S.qB)) .nil))
 |h2=>exact cV (.lst (by decide) (.cons (.int _) .nil))
 |h3=>exact KP (by decide) rfl (by decide) (.cons (.of (.ref S.v6)) .nil)
 |h4=>exact cV (.of (.ref S.k2))
 |h5=>exact cV (.of (.ref S.k3))
 |h6=>exact KP (by decide) rfl (by decide) (.cons (.of (.int _)) .nil)
 |h7=>exact cV (.of (.EM _))
 |h8=>exact cV (.of (.EM _))
theorem Km{R:D→D→Prop}: ∀{ks:List Int} {vs D4:List D},DS R vs D4→EF ks vs a=some v→ ∃v',EF ks D4 a=some v'∧R v v':=λ{ks}=>by
 induction ks with
 |nil=>intro vs D4 _ e;exact nomatch e
 |cons b ks ih=>
  intro vs D4 h e;cases h with
  |nil=>exact nomatch e
  | @cons u u' vs D4 r h=>
   by_cases q:b=a
   ·rw [q] at e ⊢
    exact (DM u' FW (η (FW.symm.trans e)▸r))
   ·refine DQ (ih h ((Ek q).symm.trans e)) λv' h1 h2=> ?_
    exact (DM v' ((Ek q).trans h1) h2)
end
end
section
mutual open A
variable{m k i j:Nat}{r:Store}{v x:D}{ks K A N:List Int}{nv l l':List D}{a b r0:Int}{c c':Kc}{rows J2:List F2}{spec:List Dx}{F8:List D}{p:Dx}{e:Nat}{w:List (Int×Int)}{Ks:List (List Int)}
theorem SU{z:Nat}(h:z<4):Hw z=vD z:=by
 cases z,h using sW with
 |h0=>rfl
 |h1=>rfl
 |h2=>rfl
 |h3=>rfl
abbrev Hu(c:Kc):List (Int×Int):=Sy c.z0 c.z1 c.z2
set_option synthInstance.maxHeartbeats 400000 in
set_option synthInstance.maxSize 4096 in
theorem o6: ∀m,m<6→ ∀k,k<4→0<m→0<k→ ∀a∈ [(60:Int),61,43,40,41,42,20,1,2,3,30],a∈o5 m k:=by decide+kernel
theorem IK(C:EU c):c.keys=o5 c.rows.length c.spec.length∧0<c.spec.length∧c.spec.length<4:=by
 refine ES C.tree λKs O O T=> ?_
 have h:c.spec.map (λp:Dx=>p.1)=Fk 20 c.spec.length∧0<c.spec.length∧c.spec.length<4:=by
  generalize Im 0 c.rows Ks=L at T;generalize c.spec=spec at T;cases T with
  |one=>exact ⟨rfl,of_decide_eq_true rfl,of_decide_eq_true rfl⟩
  |two=>exact ⟨rfl,of_decide_eq_true rfl,of_decide_eq_true rfl⟩
  |flat=>exact ⟨rfl,of_decide_eq_true rfl,of_decide_eq_true rfl⟩
  |deep=>exact ⟨rfl,of_decide_eq_true rfl,of_decide_eq_true rfl⟩
 refine ⟨?_,h.2⟩;show [60,61]++H5 0 c.rows++c.spec.map (λp:Dx=>p.1)++ [3,2,1,43]++ [40]++ [41]++ [42]=_;exact C9 h.1<|C9 Kh rfl
theorem Hj(C:EU c):(∃K A N,Tj c.rows c.spec K A N)∧ ∀p∈c.rows,p.1<c.spec.length:=ES C.tree λKs T0 h T=>oF T0 h T
theorem pn(h:a∈pg j 0 c.rows):a∈c.keys∧30≤a∧a<30+c.rows.length:=by
 refine Dl (LQ h) λh1 O=> ?_
 have:=Fq a h1
 exact ⟨Θ _ (Θ _ (Θ _ (Θ _ (Θ _ (Ψ _ h1))))),by exact this.1,by exact this.2⟩
theorem Iy{z0 z1 z2:Nat}(h:a∈ks)(h1:a≠41)(h2:a≠42):Rw ks (Sy z0 z1 z2) a a:=⟨h,(Tx h1 h2).symm⟩
theorem IS(C:EU c):fR c.keys (Hu c):=by
 refine ET (IK C) λe h1 h2=> ?_;have has: ∀a∈ [(60:Int),61,43,40,41,42,20,1,2,3,30],a∈c.keys:=e▸o6 _ (Ap C.len.2) _ h2 C.len.1 h1;refine ⟨Iy (has _ (by decide)) (by decide) (by decide),Iy (has _ (by decide)) (by decide) (by decide),Iy (has _ (by decide)) (by decide) (by decide),Iy (has _ (by decide)) (by decide) (by decide),Iy (has _ (by decide)) (by decide) (by decide),Iy (has _ (by decide)) (by decide) (by decide),Iy (has _ (by decide)) (by decide) (by decide),λx hx=>⟨has x ?_, ?_⟩⟩
 ·revert x;decide
 ·have q: ∀a∈ [(41:Int),42],Jg (Hu c) a∈ [(1:Int),2,3,30,40,41,42]:=by
   show∀a∈ [(41:Int),42],Jg (Sy c.z0 c.z1 c.z2) a∈ [(1:Int),2,3,30,40,41,42]
   unfold Sy;cases μ c.z1 c.z0<;>cases μ c.z2 c.z0<;>cases μ c.z2 c.z1<;>decide
  by_cases h1:x=41
  ·exact C9 h1<|q 41 (.head _)
  ·by_cases h2:x=42
   ·exact C9 h2<|q 42 (.tail _ (.head _))
   ·exact C9 (Tx h1 h2) hx
def wO(ks:List Int)(w:List (Int×Int))(p p':F2):Prop:=p'.1=p.1∧RN p'.2.1 p'.2.2∧Gv ks w (mr p) (mr p')
theorem uk(h:DS (wO ks w) rows J2): ∀i Ks,Im i J2 Ks=Im i rows Ks:=by
 induction h with
 |nil=>intro i Ks;rfl
 | @cons p p' l l' q _ ih=>
  intro i Ks;show Im (i+1) l' (GS Ks p'.1 (30+(i:Int)))=Im (i+1) l (GS Ks p.1 (30+(i:Int)));exact C9 q.1<|ih _ _
theorem yL(h:DS (wO ks w) rows J2): ∀i,pg j i J2=pg j i rows:=by
 induction h with
 |nil=>intro i;rfl
 | @cons p p' l l' q _ ih=>
  intro i;show (if p'.1=j then (30+(i:Int))::pg j (i+1) l' else pg j (i+1) l')=(if p.1=j then (30+(i:Int))::pg j (i+1) l else pg j (i+1) l)
  (exact C9 q.1<|C9 (ih _) rfl)
theorem y5(h:DS (wO ks w) rows J2):DS (Gv ks w) (K4 rows) (K4 J2):=by
 induction h with
 |nil=>exact .nil
 |cons q _ ih=>exact .cons q.2.2 ih
structure Kb(c c':Kc):Prop where
 ok:EU c'
 k:c'.keys=c.keys
 v:DS (Gv c.keys (Hu c)) c.vals c'.vals
 p: ∀j i,pg j i c'.rows=pg j i c.rows
 e:c'.spec=c.spec∧c'.r0=c.r0∧c'.z0=c.z0∧c'.z1=c.z1∧c'.z2=c.z2
 l:c'.rows.length=c.rows.length
theorem Xz{R:D→D→Prop}(h: ∀v∈l,R v v):DS R l l:=by
 induction l with
 |nil=>exact .nil
 |cons v l ih=>exact .cons (h v (.head _)) (ih λx hx=>h x (.tail _ hx))
theorem ti: ∀{i:Nat},(pg j i rows).length≤rows.length:=by
 induction rows with
 |nil=>intro i;exact Ι _
 |cons p r ih=>
  intro i;show (if p.1=j then (30+(i:Int))::pg j (i+1) r else pg j (i+1) r).length≤_
  by_cases e:p.1=j
  ·exact C9 (if_pos e)<|Κ ih
  ·exact C9 (if_neg e)<|Az ih
theorem ro(C:EU c): ∀v∈c.nv,Gv c.keys (Hu c) v v:=λv hv=>by
 refine DQ (GG C.nv v hv) λp hp P=> ?_;obtain ⟨⟨K,A,N,T⟩,_⟩:=Hj C;have S:=IS C;have pk: ∀{j a},a∈pg j 0 c.rows→Rw c.keys (Hu c) a a:=λh=>ET (pn h) λh1 h2 h3=>have:=C.len;Iy h1 (by lia) (by lia)
 have nk: ∀{q},q∈c.spec→Rw c.keys (Hu c) q.1 q.1:=λ{q} h=>by
  refine ES C.tree λKs O O T=> ?_;have m:=Ar (f:=λp:Dx=>p.1) h
  have:=(GV T).2.1 _ m
  exact Iy (Θ _ (Θ _ (Θ _ (Θ _ (Ψ _ m))))) (by exact vA this rfl) (by exact vA this rfl)
 have cs: ∀{l:List Int} {b:Int},Rw c.keys (Hu c) b b→(∀a∈l,Rw c.keys (Hu c) a a)→ ∀a∈b::l,Rw c.keys (Hu c) a a:=λhb h a ha=>(ν.mp ha).elim (λe=>e▸hb) (h a);have len: ∀{j},(pg j 0 c.rows).length+2<1000:=λ{j}=>by have:=ti (j:=j) (rows:=c.rows) (i:=0);have:=C.len.2;lia
 have len0: ∀{j},(pg j 0 c.rows).length<1000:=λ{j}=>Ρ (Ζ _ 2) len;have n8: ∀{j},(pg j 0 c.rows).length+1<1000:=λ{j}=>Aa len
 have ok:(∀a∈p.2.1,Rw c.keys (Hu c) a a)∧p.2.1.length<1000∧(20<p.1→Rw c.keys (Hu c) p.2.2 p.2.2):=by
  generalize hs:c.spec=spec at T hp nk;cases T with
  |one=>
   exact C9 (ς.mp hp)<|⟨λa=>pk,len0,λh=>absurd h (by show¬(20:Int)<20;decide)⟩
  |two=>
   rcases ν.mp hp with e|hp
   ·exact C9 e<|⟨cs (nk (.tail _ (.head _))) λa=>pk,n8,λh=>absurd h (by show¬(20:Int)<20;decide)⟩
   ·exact C9 (ς.mp hp)<|⟨λa=>pk,len0,λO=>S.qB⟩
  |flat=>
   rcases ν.mp hp with e|hp
   ·exact C9 e<|⟨cs (nk (.tail _ (.head _))) (cs (nk (.tail _ (.tail _ (.head _)))) λa=>pk),len,λh=>absurd h (by show¬(20:Int)<20;decide)⟩
   ·rcases ν.mp hp with e|hp
    ·exact C9 e<|⟨λa=>pk,len0,λO=>S.qB⟩
    ·exact C9 (ς.mp hp)<|⟨λa=>pk,len0,λO=>S.qB⟩
  |deep=>
   have k21:=nk (.tail _ (.head _));rcases ν.mp hp with e|hp
   ·exact C9 e<|⟨cs k21 λa=>pk,n8,λh=>absurd h (by show¬(20:Int)<20;decide)⟩
   ·rcases ν.mp hp with e|hp
    ·exact C9 e<|⟨cs (nk (.tail _ (.tail _ (.head _)))) λa=>pk,n8,λO=>S.qB⟩
    ·exact C9 (ς.mp hp)<|⟨λa=>pk,len0,λO=>k21⟩
 exact pW S P ok.1 ok.2.1 ok.2.2
theorem hD(C:EU c): ∃c',Kb c c':=by
 refine wr λZ0 z0=> ?_;have S:=IS C;refine ET (IK C) λek h1 h2=> ?_;refine Dl (Hj C) λO hp=> ?_;refine ES C.tree λKs T0 hK T=> ?_;refine z0 ?_
 refine D3 (IY (R:=wO c.keys (Hu c)) (l:=c.rows) λp hm=>by
  have q:=hp p hm
  have m:(20+(p.1:Int))∈c.keys:=by
   refine C9 ek ?_;exact Θ _ (Θ _ (Θ _ (Θ _ (Ψ _ (Fp.mpr ⟨by omega,by omega⟩)))))
  have ⟨F8,P,G⟩:=sL S (C.rows p hm) (Iy (z0:=c.z0) (z1:=c.z1) (z2:=c.z2) m (by omega) (by omega));exact (ED (p.1,p.2.1,F8) rfl P G)) λJ2 Q=> ?_
 have hl:=Q.length;have th: ∀{z},z<4→Gv c.keys (Hu c) (Hw z) (Hw z):=λ{z} h=>by exact C9 (SU h)<|LD S (BR h (by decide))
 refine ⟨⟨J2,c.spec,c.nv,c.z0,c.z1,c.z2,c.r0⟩,⟨by refine Dr hl ?_;exact C.len,λp' xy=>by refine DQ (GG Q p' xy) λp O q=> ?_;exact q.2.1,(ED Ks T0 (λp' xy=>by refine DQ (GG Q p' xy) λp h q=> ?_;exact C9 q.1<|hK p h) (by show Ka (Im 0 J2 Ks) c.spec;exact C9 (uk Q _ _) T)),C.nv,C.z0,C.z1,C.z2,C.r0⟩, ?_, ?_,λj i=>yL Q i,(oV rfl rfl rfl rfl rfl),hl.symm⟩
 ·show [60,61]++H5 0 J2++_++ [3,2,1,43]++ [40]++ [41]++ [42]= [60,61]++H5 0 c.rows++_++ [3,2,1,43]++ [40]++ [41]++ [42]
  (exact C9 Kh<|C9 Kh<|C9 hl rfl)
 ·have hv:=y5 Q
  have one: ∀{e},e<9→DS (Gv c.keys (Hu c)) [vD e] [vD e]:=λh=> .cons (LD S h) .nil;have rt:Gv c.keys (Hu c) Ez Ez:=LD (e:=0) S (by decide);exact ((((((DS.cons (LD (e:=7) S (by decide)) (.cons (LD (e:=8) S (by decide)) .nil)).append hv).append (Xz (ro C))).append (.cons rt (.cons (LD (e:=5) S (by decide)) (.cons (LD (e:=4) S (by decide)) (.cons (LD (e:=6) S (by decide)) .nil))))).append (.cons (th C.z0) .nil)).append (.cons (th C.z1) .nil)).append (.cons (th C.z2) .nil)
end
end
section
mutual open A
variable{n m k i j:Nat}{r:Store}{v v':D}{ks K A N bs as:List Int}{vs nv l l':List D}{a b:Int}{c:Kc}{rows:List F2}{spec:List Dx}{p:Dx}{e s:Nat}{w:List (Int×Int)}{F:Int→Option D}
theorem pZ: ∀{i:Nat},a∈H5 i rows→ ∃p∈rows,a∈pg p.1 i rows:=by
 induction rows with
 |nil=>intro i h;exact absurd h Γ
 |cons q r ih=>
  intro i h;rcases ν.mp h with e|h
  ·exact (DM q (.head _) (by show a∈(if q.1=q.1 then _ else _);exact C9 (if_pos rfl)<|C9 e<| .head _))
  ·refine DQ (ih h) λp hp hm=> ?_
   refine (DM p (.tail _ hp) ?_);show a∈(if q.1=p.1 then (30+(i:Int))::pg p.1 (i+1) r else pg p.1 (i+1) r)
   by_cases e:q.1=p.1
   ·exact C9 (if_pos e)<| .tail _ hm
   ·exact C9 (if_neg e) hm
theorem WN(T:Tj rows spec K A N)(hr: ∀p∈rows,p.1<spec.length)(h:a∈H5 0 rows):a∈A:=by
 refine DQ (pZ h) λp hp hm=> ?_;have hl:=hr p hp;revert hl hm;generalize p.1=q;intro hm hl;cases T with
 |one=>
  have hl:q<1:=hl;cases q,hl using n4 with
  |h0=>exact hm
 |two=>
  have hl:q<2:=hl;cases q,hl using gZ with
  |h0=>exact Ψ _ hm
  |h1=>exact Θ _ hm
 |flat=>
  have hl:q<3:=hl;cases q,hl using YI with
  |h0=>exact Ψ _ (Ψ _ hm)
  |h1=>exact Θ _ hm
  |h2=>exact Ψ _ (Θ _ hm)
 |deep=>
  have hl:q<3:=hl;cases q,hl using YI with
  |h0=>exact Ψ _ (Ψ _ hm)
  |h1=>exact Ψ _ (Θ _ hm)
  |h2=>exact Θ _ hm
theorem nJ(T:Tj rows spec K A N): ∀a∈Fk 20 spec.length,a∈20::N∧ ∃p∈spec,p.1=a:=by
 have c1: ∀{P:Int→Prop} {b:Int} {l:List Int},P b→(∀a∈l,P a)→ ∀a∈b::l,P a:=λh h' a ha=>(ν.mp ha).elim (λe=>e▸h) (h' a);have c0: ∀{P:Int→Prop},∀a∈([]:List Int),P a:=λa h=>nomatch h;cases T with
 |one=>exact c1 (GR (.head _) _ (.head _) rfl) c0
 |two=>exact c1 (GR (.head _) _ (.head _) rfl) (c1 (GR (.tail _ (.head _)) _ (.tail _ (.head _)) rfl) c0)
 |flat=>exact c1 (GR (.head _) _ (.head _) rfl) (c1 (GR (.tail _ (.head _)) _ (.tail _ (.head _)) rfl) (c1 (GR (.tail _ (.tail _ (Ψ _ (.head _)))) _ (.tail _ (.tail _ (.head _))) rfl) c0))
 |deep=>exact c1 (GR (.head _) _ (.head _) rfl) (c1 (GR (.tail _ (.head _)) _ (.tail _ (.head _)) rfl) (c1 (GR (.tail _ (.tail _ (.head _))) _ (.tail _ (.tail _ (.head _))) rfl) c0))
theorem cw(C:EU c)(T:Tj c.rows c.spec K A N)(F:Ko c.rows A N)(B:Iu c (EF ks vs)): ∀a∈Fk 20 c.spec.length++Fk 30 c.rows.length,a∈20::N∧ ∃v,EF ks vs a=some v:=λa h=>by
 rcases ω.mp h with h|h
 ·refine rF (nJ T a h) λh1 p hp e=> ?_
  refine DQ (B.n p hp) λv O h2=> ?_;exact (iI h1 v (e▸h2))
 ·have hA:=WN T (Hj C).2 (by exact C9 Kh h)
  refine D3 (F.a a hA) λj hj=> ?_;refine ES (B.p j a hj) λp O O e=> ?_;exact (iI (.tail _ (F.s a hA)) _ e)
theorem j4(C:EU c):EF c.keys c.vals 40=some (Hw c.z0)∧EF c.keys c.vals 41=some (Hw c.z1)∧EF c.keys c.vals 42=some (Hw c.z2):=by
 refine Dl (RK C) λl1 l2=> ?_;have low:=jy C;have l3:([60,61]++H5 0 c.rows++c.spec.map (λp:Dx=>p.1)++ [3,2,1,43]:List Int).length=([EM 13,EM 14]++K4 c.rows++c.nv++ [Ez,ref 3,ref 2,HZ]).length:=by exact C9 ε<|C9 (ε (as:=_++c.nv))<|C9 ε<|C9 (ε (as:=_++K4 c.rows))<|C9 l1<|C9 l2 rfl
 have no: ∀{a:Int},40≤a∧a<43→a ∉ ([60,61]++H5 0 c.rows++c.spec.map (λp:Dx=>p.1)++ [3,2,1,43]:List Int):=λ{a} h w=>(ω.mp w).elim (λw=>by have:=low a w;lia) (λw=>by
  have q: ∀a∈([3,2,1,43]:List Int),a<4∨a=43:=by decide
  have:=q a w;lia)
 have v8:(([60,61]++H5 0 c.rows++c.spec.map (λp:Dx=>p.1)++ [3,2,1,43])++ [40]:List Int).length=([EM 13,EM 14]++K4 c.rows++c.nv++ [Ez,ref 3,ref 2,HZ]++ [Hw c.z0]).length:=by exact C9 ε<|C9 (ε (bs:= [Hw c.z0]))<|C9 l3 rfl
 have xt:(([60,61]++H5 0 c.rows++c.spec.map (λp:Dx=>p.1)++ [3,2,1,43])++ [40]++ [41]:List Int).length=([EM 13,EM 14]++K4 c.rows++c.nv++ [Ez,ref 3,ref 2,HZ]++ [Hw c.z0]++ [Hw c.z1]).length:=by exact C9 ε<|C9 (ε (bs:= [Hw c.z1]))<|C9 v8 rfl
 have yB: ∀{a b:Int} {l:List Int},a ∉ l→a≠b→a ∉ l++ [b]:=λh h' w=>(ω.mp w).elim h λw=>h' (ς.mp w);exact ⟨E7 (E7 (O8 l3 (no (by decide)) FW)),E7 (O8 v8 (yB (no (by decide)) (by decide)) FW),O8 xt (yB (yB (no (by decide)) (by decide)) (by decide)) FW⟩
theorem in6{P:Int×Nat→Prop}{q1 q2 q3 q4 q5 q6:Int×Nat}(h1:P q1)(h2:P q2)(h3:P q3)(h4:P q4)(h5:P q5)(h6:P q6): ∀p∈ [q1,q2,q3,q4,q5,q6],P p:=λp hp=>by
 rcases ν.mp hp with e|hp
 ·exact C9 e h1
 rcases ν.mp hp with e|hp
 ·exact C9 e h2
 rcases ν.mp hp with e|hp
 ·exact C9 e h3
 rcases ν.mp hp with e|hp
 ·exact C9 e h4
 rcases ν.mp hp with e|hp
 ·exact C9 e h5
 ·exact C9 (ς.mp hp) h6
theorem OD(C:EU c): ∀p∈fT c.z0 c.z1 c.z2,p.2<9∧40≤p.1∧EF c.keys c.vals p.1=some (vD p.2):=by
 refine ET (j4 C) λh0 h1 h2=> ?_;have B:=MC C;have lt: ∀{z},z<4→z<9:=λh=>BR h (by decide);exact in6 ⟨lt C.z0,(by decide:(40:Int)≤40),h0.trans (congrArg some (SU C.z0))⟩ ⟨lt C.z1,(by decide:(40:Int)≤41),h1.trans (congrArg some (SU C.z1))⟩ ⟨lt C.z2,(by decide:(40:Int)≤42),h2.trans (congrArg some (SU C.z2))⟩ ⟨(by decide:6<9),(by decide:(40:Int)≤43),B.sx⟩ ⟨(by decide:7<9),(by decide:(40:Int)≤60),B.j2⟩ ⟨(by decide:8<9),(by decide:(40:Int)≤61),B.jU⟩
theorem Qy{z0 z1 z2:Nat}:(∀p∈QY z0 z1 z2,p∈fT z0 z1 z2)∧ ∀p∈QY z0 z1 z2,I6 (Sy z0 z1 z2) p.1=none:=by
 have m0:(40,z0)∈fT z0 z1 z2:= .head _;have m1:(41,z1)∈fT z0 z1 z2:= .tail _ (.head _);have m2:(42,z2)∈fT z0 z1 z2:= .tail _ (.tail _ (.head _));have m3: ∀p∈ [((43:Int),6),(60,7),(61,8)],p∈fT z0 z1 z2:=λp hp=> .tail _ (.tail _ (.tail _ hp));unfold QY Sy;cases μ z1 z0 with
 |true=>cases μ z2 z0 with
  |true=>exact ⟨Fx m0 m3,Fx rfl (Fx rfl (Fx rfl (Fx rfl VZ)))⟩
  |false=>cases μ z2 z1 with
   |true=>exact ⟨Fx m0 m3,Fx rfl (Fx rfl (Fx rfl (Fx rfl VZ)))⟩
   |false=>exact ⟨Fx m0 (Fx m2 m3),Fx rfl (Fx rfl (Fx rfl (Fx rfl (Fx rfl VZ))))⟩
 |false=>cases μ z2 z0 with
  |true=>exact ⟨Fx m0 (Fx m1 m3),Fx rfl (Fx rfl (Fx rfl (Fx rfl (Fx rfl VZ))))⟩
  |false=>cases μ z2 z1 with
   |true=>exact ⟨Fx m0 (Fx m1 m3),Fx rfl (Fx rfl (Fx rfl (Fx rfl (Fx rfl VZ))))⟩
   |false=>exact ⟨Fx m0 (Fx m1 (Fx m2 m3)),Fx rfl (Fx rfl (Fx rfl (Fx rfl (Fx rfl (Fx rfl VZ)))))⟩
def oO(b1 b2:Bool):List Int:= [40]++(cond b1 [] [41]++(cond b2 [] [42]++ [43,60,61]))
theorem gf{z0 z1 z2:Nat}:(QY z0 z1 z2).map (λp=>p.1)=oO (μ z1 z0) (μ z2 z0||μ z2 z1)∧ [(40:Int),41,42,43,60,61].filter (λa=>(I6 (Sy z0 z1 z2) a).isNone)=oO (μ z1 z0) (μ z2 z0||μ z2 z1):=by
 unfold QY Sy oO;cases μ z1 z0<;>cases μ z2 z0<;>cases μ z2 z1<;>exact ⟨rfl,rfl⟩
abbrev j1(m k:Nat):List Int:=Fk 20 k++Fk 30 m
set_option synthInstance.maxHeartbeats 400000 in
set_option synthInstance.maxSize 4096 in
theorem mG: ∀m,m<6→ ∀k,k<4→ ∀b1 b2:Bool,HA I9 ([1,2,3]++(j1 m k++oO b1 b2))= [1,2,3]++(j1 m k++oO b1 b2)∧([1,2,3]++(j1 m k++oO b1 b2)).Nodup∧([1,2,3]++(j1 m k++oO b1 b2)).length<64:=by decide+kernel
theorem n7: ∀{l:List Int},kR (l.map λa=>(a,F a))=l.filter λa=>(F a).isSome:=λ{l}=>by
 induction l with
 |nil=>rfl
 |cons a l ih=>
  refine C9 Al ?_;show kR ((a,F a)::_)=_;cases q:F a with
  |none=>exact ih
  |some v=>exact congrArg (a:: ·) ih
theorem vC: ∀{l:List Int},a∈l→F a=some v→EF (kR (l.map λa=>(a,F a))) (vR (l.map λa=>(a,F a))) a=some v:=λ{l}=>by
 induction l with
 |nil=>intro h;exact absurd h Γ
 |cons b l ih=>
  intro h e;show EF (kR ((b,F b)::_)) (vR ((b,F b)::_)) a=_
  by_cases q:b=a
  ·exact C9 q<|C9 e FW
  ·have h':a∈l:=(ν.mp h).elim (λe=>absurd e.symm q) id
   cases F b with
   |none=>exact ih h' e
   |some u=>exact (Ek q).trans (ih h' e)
theorem Qx{R:D→D→Prop}(f: ∀v v',R v v'→v'=v)(h:DS R l l'):l'=l:=by
 induction h with
 |nil=>rfl
 |cons r _ ih=>(exact C9 (f _ _ r)<|C9 ih rfl)
theorem pL(h:Gv ks [] v v'):v'=v:=by
 have h0: ∀v v',R0 (Rw ks []) v v'→v'=v:=λv v' h=>by
  cases h with
  |int=>rfl
  |EM=>rfl
  |ref q=>exact C9 q.2 rfl
 have h1: ∀v v',R1 (Rw ks []) v v'→v'=v:=λv v' h=>by
  cases h with
  |of q=>exact h0 _ _ q
  |lst _ q=>exact congrArg _ (Qx h0 q)
 cases h.1 with
 |of q=>exact h1 _ _ q
 |Dg _ _ q=>exact congrArg _ (Qx h1 q)
end
end
section
mutual open A
variable{n m k j:Nat}{σ:Store}{v v' x:D}{k1 k2 ks EZ K A N mid:List Int}{v1 v2 vs D4 fs l:List D}{a b r0:Int}{c c':Kc}{rows:List F2}{spec:List Dx}{sh t:V}{fl:List V}{e:Nat}
set_option synthInstance.maxHeartbeats 400000 in
set_option synthInstance.maxSize 4096 in
theorem tQ: ∀m,m<6→ ∀k,k<4→(∀a∈o5 m k,a∈gj m k)∧ ∀a∈gj m k,a∈o5 m k:=by decide+kernel
theorem gm: ∀{ks:List Int} {vs:List D},EF ks vs a=some v→a∈ks:=λ{ks}=>by
 induction ks with
 |nil=>intro vs e;exact nomatch e
 |cons b ks ih=>
  intro vs e;cases vs with
  |nil=>exact nomatch e
  |cons u vs=>
   by_cases q:b=a
   ·exact C9 q<| .head _
   ·exact .tail _ (ih ((Ek q).symm.trans e))
theorem JO: ∀{ks:List Int} {vs:List D},ks.length=vs.length→a∈ks→ ∃v,EF ks vs a=some v:=λ{ks}=>by
 induction ks with
 |nil=>intro vs _ h;exact absurd h Γ
 |cons b ks ih=>
  intro vs l h;cases vs with
  |nil=>exact nomatch l
  |cons u vs=>
   by_cases q:b=a
   ·exact C9 q<|(EG u FW)
   ·refine D3 (ih (AK.inj l) ((ν.mp h).elim (λe=>absurd e.symm q) id)) λv e=> ?_
    exact (EG v ((Ek q).trans e))
theorem Ls(C:EU c):c.keys.length=c.vals.length:=by
 refine Dl (RK C) λl1 l2=> ?_;have ap: ∀{k1 k2:List Int} {v1 v2:List D},k1.length=v1.length→k2.length=v2.length→(k1++k2).length=(v1++v2).length:=λh1 h2=>by (exact C9 ε<|C9 ε<|C9 h1<|C9 h2 rfl)
 exact ap (ap (ap (ap (ap l1 l2) rfl) rfl) rfl) rfl
structure Mo(c c':Kc)(EZ:List Int)(D4:List D):Prop where
 at': ∀a v,EF c'.keys c'.vals a=some v→I6 (Hu c) a=none→EF EZ D4 a=some v
 k:HA I9 EZ= [1,2,3]++(j1 c.rows.length c.spec.length++(QY c.z0 c.z1 c.z2).map λp=>p.1)
 l:EZ.length<64
 run: ∀n σ sh fl t,Sh σ sh c.keys c.vals (Fv c.r0) fl t→(DZ (n+9)).call false 40 [sh] σ=some (.d (E2 EZ D4 (Fv c.r0)),σ)
theorem aw{a:Int}(h:I6 (Hu c) a=none→False):a=41∨a=42:=by
 by_cases h1:a=41
 ·exact .inl h1
 ·by_cases h2:a=42
  ·exact .inr h2
  ·exact absurd (Vm h1 h2) h
theorem bu{a:Int}(h:a<41∨42<a):I6 (Hu c) a=none:=Vm (by exact zru h rfl) (by exact zru h rfl)
theorem W9(M:Kb c c')(h: ∀a v,EF c'.keys c'.vals a=some v→I6 (Hu c) a=none→EF EZ D4 a=some v):Iu c' (EF EZ D4):=by
 have B:=MC M.ok;have hl:=M.ok.len;refine ES M.ok.tree λKs O O T=> ?_;refine ⟨h _ _ B.j2 (bu (by decide)),h _ _ B.jU (bu (by decide)),λj a ha=> ?_,λp hp=> ?_,h _ _ B.k3 (bu (by decide)),h _ _ B.k2 (bu (by decide)),h _ _ B.k1 (bu (by decide)),h _ _ B.sx (bu (by decide))⟩
 ·refine ES (B.p j a ha) λp hp e q=> ?_
  have:=Fq a (LQ ha).1
  exact (ED p hp e (h _ _ q (bu (by lia))))
 ·refine DQ (B.n p hp) λv q e=> ?_
  have:=(GV T).2.1 _ (Ar (f:=λp:Dx=>p.1) hp)
  exact (DM v q (h _ _ e (bu (by exact zrt this rfl))))
theorem K8(M:Kb c c')(T:Tj c.rows c.spec K A N):Tj c'.rows c'.spec K A N:=by
 refine C9 M.e.1 ?_;have p0:=M.p 0 0;have p1:=M.p 1 0;have p2:=M.p 2 0;generalize c.spec=spec at T;cases T with
 |one=>exact Dr p0 .one
 |two=>exact Dr p0<|Dr p1 .two
 |flat=>exact Dr p0<|Dr p1<|Dr p2 .flat
 |deep=>exact Dr p0<|Dr p1<|Dr p2 .deep
theorem ii(C:EU c)(M:Kb c c'): ∃EZ D4,Mo c c' EZ D4:=by
 have ⟨⟨K,A,N,T⟩,hr⟩:=Hj C;have F:=XD T hr C.len.2;have B:=MC C;have h0:(0:Int)<c.r0∧(c.r0:Int)<4:=by have:=C.r0;exact rI this
 have S:=Kd B C.rows T F h0;refine ET (IK C) λek g1 g2=> ?_;refine OR (Uu _ (Ap C.len.2) _ g2) λs1 s2 s3 s4=> ?_;rw [←ek] at s1 s3 s4
 have ⟨w1,w2,w3⟩:wF c.r0 c.z0 c.z1 c.z2:=by
  refine ET (mZ _ C.z0 _ C.z1 _ C.z2) λq1 q2 q3=> ?_;rcases r3 h0 with e|e|e
  ·exact C9 e q1
  ·exact C9 e q2
  ·exact C9 e q3
 have so:gj c.rows.length c.spec.length= [1,2,3]++(j1 c.rows.length c.spec.length++(fT c.z0 c.z1 c.z2).map λp=>p.1):=congrArg ([1,2,3]++ ·) (π ..).symm;have mid:=cw C T F B;have t1:=OD C;have tw: ∀n σ,(DZ (n+8)).call false 39 [.d (E2 c.keys c.vals (Fv c.r0))] σ=some (.d (.nd (.Dg 2 (wK (Hu c))) (wV (Hu c))),σ):=λn σ=>TG B S F h0 s4 (s1.trans so) mid t1 (show ([40,41,42,43,60,61]:List Int).Nodup by decide) w1 F4;refine Dl (gf (z0:=c.z0) (z1:=c.z1) (z2:=c.z2)) λyi nm2=> ?_;refine ET (mG _ (Ap C.len.2) _ g2 (μ c.z1 c.z0) (μ c.z2 c.z0||μ c.z2 c.z1)) λb1 b2 b3=> ?_;rw [←yi] at b1 b2 b3;cases hw:Hu c with
 |nil=>
  have ev:c'.vals=c.vals:=Qx (λv v' h=>pL h) (hw▸M.v)
  have tl:(QY c.z0 c.z1 c.z2).map (λp=>p.1)=(fT c.z0 c.z1 c.z2).map λp=>p.1:=by
   exact C9 yi<|Dr nm2<|C9 (show Sy c.z0 c.z1 c.z2= [] from hw) rfl
  refine ⟨c.keys,c.vals,λa v e O=>by rw [M.k,ev] at e;exact e,by refine C9 tl ?_;exact s1.trans so,s4,λn σ sh fl t H=>Sz (tk:= []) H s4 λσ=> ?_⟩
  have:=tw n σ
  rw [hw] at this;exact this
 |cons p w=>
  have Fe: ∃Fm:Int→Option D,Fm=λa=>cond (I6 (Hu c) a).isSome none (EF c'.keys c'.vals a):=⟨_,rfl⟩;refine D3 Fe λFm Fe=> ?_;refine Dl (tQ _ (Ap C.len.2) _ g2) λks1 py=> ?_;rw [←ek] at ks1 py;have look: ∀{a},a∈gj c.rows.length c.spec.length→ ∃v,EF c.keys c.vals a=some v:=λ{a} h=>JO (Ls C) (py a h)
  have fs: ∀a∈gj c.rows.length c.spec.length,(Fm a).isSome=(I6 (Hu c) a).isNone:=λa h=>by
   refine D3 (look h) λv e=> ?_;refine DQ (Km M.v e) λv' e' O=> ?_;refine C9 Fe ?_;show (cond (I6 (Hu c) a).isSome none (EF c'.keys c'.vals a)).isSome=_;refine C9 M.k<|C9 e' ?_
   cases I6 (Hu c) a<;>rfl
  generalize hr:(gj c.rows.length c.spec.length).map (λa=>(a,Fm a))=R
  have at': ∀a v,EF c'.keys c'.vals a=some v→I6 (Hu c) a=none→EF (kR R) (vR R) a=some v:=λa v e h1=>by
   have h2:a∈gj c.rows.length c.spec.length:=ks1 a (M.k▸gm e);refine Dr hr ?_;refine vC h2 ?_;refine C9 Fe ?_;show cond (I6 (Hu c) a).isSome none (EF c'.keys c'.vals a)=_;exact C9 h1<|C9 e rfl
  have kk:kR R= [1,2,3]++(j1 c.rows.length c.spec.length++(QY c.z0 c.z1 c.z2).map λp=>p.1):=by
   refine Dr hr<|C9 n7<|C9 (List.filter_congr fs)<|C9 so<|C9 (BM _ _)<|C9 (BM _ _)<|C9 yi<|Dr nm2 ?_
   have ids: ∀{l:List Int},(∀a∈l,a<41)→l.filter (λa=>(I6 (Hu c) a).isNone)=l:=λh=>List.filter_eq_self.mpr λa ha=>by exact C9 (bu (.inl (h a ha))) rfl
   have i1: ∀a∈([1,2,3]:List Int),a<41:=by decide
   have i2: ∀a∈j1 c.rows.length c.spec.length,a<41:=λa h=>by
    have hl:=C.len.2;rcases ω.mp h with h|h
    ·have:=(Fp.mp h).2;lia
    ·have:=(Fp.mp h).2;exact zrs this hl rfl
   exact C9 (ids i1)<|C9 (ids i2) rfl
  have made:=W9 M at';have FM:Ko c'.rows A N:=XD (K8 M T) (λp hp=>by refine C9 M.e.1 ?_;refine Dl (Hj M.ok) λO h=> ?_;rw [M.e.1] at h;exact h p hp) M.ok.len.2;have SM:=Kd (r0:=c.r0) made M.ok.rows (K8 M T) FM h0
  have tm: ∀n σ,(DZ (n+8)).call false 39 [.d (E2 (kR R) (vR R) (Fv c.r0))] σ=some (.d (.nd (.Dg 2 []) []),σ):=λn σ=>TG (w:= []) made SM FM h0 (by exact C9 kk b3) (by exact C9 kk b1) (by exact Dr M.l<|Dr M.e.1<|cw M.ok (K8 M T) FM made) (λq hq=>by
   refine Dl (Qy (z0:=c.z0) (z1:=c.z1) (z2:=c.z2)) λu1 u2=> ?_;refine ET (t1 q (u1 q hq)) λx1 x2 x3=> ?_;refine ET (OD M.ok q (by exact C9 M.e.2.2.1<|C9 M.e.2.2.2.1<|C9 M.e.2.2.2.2<|u1 q hq)) λy1 y2 y3=> ?_;exact ⟨x1,x2,at' _ _ y3 (u2 q hq)⟩) w3 w2 F4
  have kv:=Ls C;refine ⟨kR R,vR R,at',by refine C9 kk ?_;exact b1,by refine C9 kk ?_;exact b3,λn σ sh fl t H=> ?_⟩;refine Ui (n:=n+7) (y:=FN p.2) (tv:=wV w) (tk:=wK (p::w)) (tk2:= []) (rows:=R) (K:=4) H (by exact C9 ek<|BD _) s4 (λσ=> ?_) s3 (λa h=>JO kv h) (λq hq=> ?_) ?_ (by exact C9 s1 s2) (by exact ψ _ _) ?_ (tm n)
  ·have:=tw n σ
   rw [hw] at this;exact this
  ·refine wr λZ0 z0=> ?_
   rw [←hr] at hq;refine DQ (AD.mp hq) λa ha e=> ?_;refine D3 (look ha) λv ev=> ?_;refine DQ (Km M.v ev) λv' ev' G=> ?_;refine z0 ?_;refine Dr e<|C9 Fe ?_
   show oL c.keys c.vals (wK (p::w)) (wV (p::w)) 4 (a,cond (I6 (Hu c) a).isSome none (EF c'.keys c'.vals a));refine Dr hw<|C9 M.k<|C9 ev' ?_
   cases q:I6 (Hu c) a with
   |some b=>exact .out ev (by exact C9 ju<|C9 q rfl)
   |none=>exact .in ev (by exact C9 ju<|C9 q rfl) G.2
  ·exact Dr hr<|C9 s1<|C9 Δ<|List.map_id _
  ·have m:(c.r0:Int)∈c.keys:=by
    have:=(IS C).x
    rcases r3 h0 with e|e|e<;>refine C9 e ?_<;>exact (this _ (by decide)).1
   have g:Gv c.keys (Hu c) (Fv c.r0) (Fv c.r0):=KP (by decide) rfl (by decide) (.cons (.of (.ref (Iy m (by exact zh h0 rfl) (by exact zh h0 rfl)))) .nil);rw [hw] at g;exact g.2
end
end
section
mutual open A
variable{n m k j:Nat}{σ r:Store}{v v' x:D}{EZ A N:List Int}{D4 l ys:List D}{a b r0:Int}{c c':Kc}{rows:List F2}{sh t:V}{fl:List V}{e:Nat}
def zz(z0 z1 z2:Nat)(x:Int):Nat:=cond (Dj x 41) z1 (cond (Dj x 42) z2 z0)
def XV(z0 z1 z2:Nat)(a:Int):Bool:=match I6 (Sy z0 z1 z2) a with
 |none=>true
 |some b=>μ (zz z0 z1 z2 a) (zz z0 z1 z2 b)&&((I6 (Sy z0 z1 z2) b).isNone&&(Dj b 40||Dj b 41))
theorem ZJ: ∀z0,z0<4→ ∀z1,z1<4→ ∀z2,z2<4→XV z0 z1 z2 41=true∧XV z0 z1 z2 42=true:=by decide+kernel
theorem je(C:EU c)(h:a=40∨a=41∨a=42):EF c.keys c.vals a=some (Hw (zz c.z0 c.z1 c.z2 a))∧zz c.z0 c.z1 c.z2 a<4:=by
 refine ET (j4 C) λh0 h1 h2=> ?_;rcases h with e|e|e
 ·exact C9 e<|⟨h0,C.z0⟩
 ·exact C9 e<|⟨h1,C.z1⟩
 ·exact C9 e<|⟨h2,C.z2⟩
theorem iV(C:EU c)(h:I6 (Hu c) a=some b):(a=41∨a=42)∧(b=40∨b=41)∧I6 (Hu c) b=none∧zz c.z0 c.z1 c.z2 a=zz c.z0 c.z1 c.z2 b:=by
 have ha:a=41∨a=42:=aw (c:=c) λe=>by rw [h] at e;exact nomatch e
 have t:XV c.z0 c.z1 c.z2 a=true:=by
  refine Dl (ZJ _ C.z0 _ C.z1 _ C.z2) λt1 t2=> ?_;rcases ha with e|e
  ·exact C9 e t1
  ·exact C9 e t2
 unfold XV at t;rw [show I6 (Sy c.z0 c.z1 c.z2) a=some b from h] at t;have t:(μ (zz c.z0 c.z1 c.z2 a) (zz c.z0 c.z1 c.z2 b)&&((I6 (Sy c.z0 c.z1 c.z2) b).isNone&&(Dj b 40||Dj b 41)))=true:=t;refine Dl (band t) λt1 t=> ?_;refine Dl (band t) λt2 t3=> ?_;refine (Vt ha ?_ (Af.mp t2) (AO t1));cases q:Dj b 40 with
 |true=>exact .inl (ER q)
 |false=>rw [q] at t3;exact .inr (ER t3)
theorem UP(M:Kb c c')(J:Mo c c' EZ D4)(e:EF c.keys c.vals a=some v)(h:I6 (Hu c) a=none): ∃v',EF EZ D4 a=some v'∧Gv c.keys (Hu c) v v':=by
 refine DQ (Km M.v e) λv' e' G=> ?_;exact (DM v' (J.at' a v' (by exact C9 M.k e') h) G)
theorem pq(M:Kb c c')(J:Mo c c' EZ D4)(h:a=40∨a=41∨a=42)(hn:I6 (Hu c) a=none):EF EZ D4 a=some (Hw (zz c.z0 c.z1 c.z2 a)):=by
 have:=(je M.ok h).1
 rw [M.e.2.2.1,M.e.2.2.2.1,M.e.2.2.2.2] at this;exact J.at' a _ this hn
theorem dF(C:EU c)(M:Kb c c')(J:Mo c c' EZ D4):jH c.keys c.vals EZ D4 (Rw c.keys (Hu c)):=by
 refine ⟨λa b h=> ?_⟩;refine Dl h λha hb=> ?_;clear h
 by_cases qG:20≤a∧a<40
 ·exact .inl ⟨qG.1,qG.2,hb.trans (Tx (by exact vA qG rfl) (by exact vA qG rfl))⟩
 ·refine .inr ⟨qG, ?_⟩
  refine D3 (JO (Ls C) ha) λv e=> ?_;cases q:I6 (Hu c) a with
  |none=>
   have hb:b=a:=by refine C9 hb ?_;show (I6 (Hu c) a).getD a=a;exact C9 q rfl
   refine DQ (UP M J e q) λv' e' G=> ?_;exact C9 hb<|(FK qG v v' e e' G.1)
  |some b'=>
   have hb:b=b':=by refine C9 hb ?_;show (I6 (Hu c) a).getD a=b';exact C9 q rfl
   refine OR (iV C q) λw1 w2 w3 w4=> ?_;refine Dl (je C (.inr w1)) λt1 t2=> ?_;have t3:=pq M J (w2.imp id .inl) w3;rw [←w4] at t3;refine (FK (by lia) _ _ t1 (by exact C9 hb t3) ?_);refine C9 (SU t2) ?_;exact (LD (IS C) (BR t2 (by decide))).1
theorem kC(C:EU c)(M:Kb c c')(J:Mo c c' EZ D4)(h:Gv c.keys (Hu c) v v'):UU c.keys c.vals EZ D4 17 16 4 v v':=(n6 (dF C M J) 4).2.2 v v' h.1
theorem O7{α β γ:Type}{R:β→γ→Prop}{f:α→β}{l:List α}{m:List γ}(h:DS (λa y=>R (f a) y) l m):DS R (l.map f) m:=by
 induction h with
 |nil=>exact .nil
 |cons r _ ih=>exact .cons r ih
structure jr(c:Kc)(EZ:List Int)(D4:List D)(A:List Int)(ys:List D):Prop where
 p:Pl 18 (.nd .lst ys)
 l:ys.length=A.length
 a: ∀n σ sh fl t,Sh σ sh c.keys c.vals (Fv c.r0) fl t→(DZ (n+18)).call false 47 [sh] σ=some (.d (.nd .lst ys),σ)
 b: ∀n σ sh fl t,Sh σ sh EZ D4 (Fv c.r0) fl t→(DZ (n+18)).call false 47 [sh] σ=some (.d (.nd .lst ys),σ)
theorem lg(C:EU c)(M:Kb c c')(J:Mo c c' EZ D4)(F:Ko c.rows A N)(S:Tk c.keys c.vals c.r0 A N)(S':Tk EZ D4 c.r0 A N): ∃ys,jr c EZ D4 A ys:=by
 have B:=MC C
 refine D3 (IY (R:=λa y=> ∃x,y=D.nd .tup [.int a,x]∧U c.keys c.vals 17 4 (fA c.keys c.vals a).2 x∧U EZ D4 17 4 (fA EZ D4 a).2 x∧Pl 16 x) (l:=A) λa ha=>by
  have ⟨j,hj⟩:=F.a a ha;have ⟨p,_,_,e⟩:=B.p j a hj;have b:=Fq a (LQ hj).1;have hl:=C.len.2;have ⟨v',e',G⟩:=UP M J e (bu (by lia));have ⟨x,h1,h2,h3⟩:=kC C M J G;refine (FC _ x rfl ?_ ?_ h3)
  ·show U _ _ 17 4 ((EF c.keys c.vals a).getD .none) x
   exact C9 e h1
  ·show U _ _ 17 4 ((EF EZ D4 a).getD .none) x
   exact C9 e' h2) λys Q=> ?_
 have hl:=Q.length;refine ⟨ys,Tt λy hy=> ?_,hl.symm,λn σ sh fl t H=> ?_,λn σ sh fl t H=> ?_⟩
 ·refine dX (GG Q y hy) λa O x e O O h3=> ?_
  refine C9 e ?_
  exact J8 λz hz=>by
   rcases ν.mp hz with w|w
   ·exact C9 w Gg
   ·exact C9 (ς.mp w) h3
 ·exact Wn H (S.Vr H) (by exact ψ _ _) (O7 (Q.imp λa y q=>have ⟨x,e,h1,_,_⟩:=q;(LP a _ x rfl e h1)))
 ·exact Wn H (S'.Vr H) (by exact ψ _ _) (O7 (Q.imp λa y q=>have ⟨x,e,_,h2,_⟩:=q;(LP a _ x rfl e h2)))
end
end
section
mutual open A
variable{n m k i:Nat}{σ r:Store}{v v' x:D}{ks:List Int}{l l' ys ws:List D}{a r0:Int}{c c':Kc}{sh t:V}{fl:List V}{e s:Nat}{keep:Bool}{w:List (Int×Int)}{ss:List Nat}
theorem wP{y z:D}(hy:Pl m y)(hz:Pl m z):Pl (m+1) (.nd .tup [y,z]):=J8 λx hx=>by
 rcases ν.mp hx with w|w
 ·exact C9 w hy
 ·exact C9 (ς.mp w) hz
theorem pl3{y z u:D}(hy:Pl m y)(hz:Pl m z)(hu:Pl m u):Pl (m+1) (.nd .tup [y,z,u]):=J8 λx hx=>by
 rcases ν.mp hx with w|hx
 ·exact C9 w hy
 rcases ν.mp hx with w|w
 ·exact C9 w hz
 ·exact C9 (ς.mp w) hu
theorem Wj(h:R0 (Rw ks w) v v'): ∃x,G5 2 v x∧Pl 1 x:=by
 cases h with
 |int i=>exact (DM _ VY (wP Fd Gg))
 |EM s=>exact (DM _ mc (wP Fd Fd))
 |ref q=>exact (DM _ Tu (pl3 Fd Gg Gg))
theorem XI(h:R1 (Rw ks w) v v'):(∃x,G5 3 v x∧Pl 2 x)∧(!isNone (.d v))=true:=by
 cases h with
 |of q=>
  refine DQ (Wj q) λx h1 h2=> ?_;exact ⟨(DM x (h1.up (by decide)) (h2.up (by decide))),by cases q<;>rfl⟩
 | @lst l l' hl q=>
  refine D3 (IY (R:=λv x=>G5 2 v x∧Pl 1 x) (l:=l) λv hv=>by
   clear hl
   induction q with
   |nil=>exact absurd hv Γ
   |cons r _ ih=>exact (ν.mp hv).elim (λe=>e▸Wj r) ih) λxs h=> ?_
  refine ⟨(DM _ (OH (k:=1) (h.imp λO O e=>e.1) (by exact Dr h.length hl)) (J8 λx hx=> ?_)),rfl⟩;rcases ν.mp hx with e|e
  ·exact C9 e Fd
  ·refine DQ (GG h x e) λO O q=> ?_;exact q.2
theorem WY(h:R2 (Rw ks w) v v'): ∃x,G5 4 v x∧Pl 4 x:=by
 cases h with
 |of q=>refine DQ ((XI q).1) λx h1 h2=> ?_;exact (DM x (h1.up (by decide)) (h2.up (by decide)))
 | @Dg ss ws F8 hs hl q=>
  have all: ∀v∈ws,(∃x,G5 3 v x∧Pl 2 x)∧(!isNone (.d v))=true:=by
   clear hl
   induction q with
   |nil=>exact λv hv=>absurd hv Γ
   |cons r _ ih=>exact λv hv=>(ν.mp hv).elim (λe=>e▸XI r) (ih v)
  refine D3 (IY (R:=λs y=>(∃v x,y= .nd .tup [.sym s,x]∧DU (ss.map .s) ws (.s s)=some v∧(!isNone (.d v))=true∧G5 3 v x)∧Pl 3 y) (l:=HA Ε ss) λs hm=>by
   have ⟨v,hv,e⟩:=qY hl (LK hm);have ⟨⟨x,t,p⟩,o⟩:=all v hv;exact (DM _ (FC v x rfl e o t) (wP Fd p))) λys h=> ?_
  refine (DM _ (JP (k:=2) hs (by exact Dr h.length<|C9 NB<|IJ hs rfl) (h.imp λO O e=>e.1)) (J8 λx hx=> ?_));rcases ν.mp hx with e|e
  ·exact C9 e Fd
  ·refine DQ (GG h x e) λO O q=> ?_;exact q.2
theorem oG(C:EU c)(M:Kb c c'): ∃y,Pl 7 y∧ ∀n σ sh fl t keep,Sh σ sh c.keys c.vals (Fv c.r0) fl t→(DZ (n+5)).call keep 16 [sh] σ=some (.d y,σ):=by
 refine wr λZ0 z0=> ?_;refine ET (IK C) λek g1 g2=> ?_;refine OR (Uu _ (Ap C.len.2) _ g2) λO O O s4=> ?_;rw [←ek] at s4
 have m:(c.r0:Int)∈c.keys:=by
  have:=(IS C).x
  have h0:(0:Int)<c.r0∧(c.r0:Int)<4:=by have:=C.r0;exact rI this
  rcases r3 h0 with e|e|e<;>refine C9 e ?_<;>exact (this _ (by decide)).1
 have g:R2 (Rw c.keys (Hu c)) (Fv c.r0) (Fv c.r0):= .Dg (by decide) rfl (.cons (.of (.ref (Iy m (by have:=C.r0;exact zsx this rfl) (by have:=C.r0;exact zsx this rfl)))) .nil);refine DQ (WY g) λy t1 t2=> ?_;refine z0 ?_
 refine D3 (IY (R:=λa y=>(∃v x,y= .nd .tup [.int a, .int 0,x]∧EF c.keys c.vals a=some v∧G5 4 v x)∧Pl 5 y) (l:=HA I9 c.keys) λa hm=>by
  refine wr λZ0 z0=> ?_;refine D3 (JO (Ls C) (LK hm)) λv e=> ?_;refine DQ (Km M.v e) λv' O G=> ?_;refine DQ (WY G.1) λx q1 q2=> ?_;refine z0 ?_;exact (DM _ (EK v x rfl e q1) (pl3 Gg Gg q2))) λys h=> ?_
 refine (DM _ (wP (J8 (l:=ys) λx hx=> ?_) (t2.up (by decide))) (λn σ sh fl t keep H=>al (k:=3) H s4 (h.imp λO O e=>e.1) t1 (by exact ψ _ _)));refine DQ (GG h x hx) λO O q=> ?_;exact q.2
end
end
section
mutual open A
variable{n i j:Nat}{σ:Store}{v x tr:D}{k1 k2 ks K A N:List Int}{vs l:List D}{a b r0:Int}{c:Kc}{e s:Nat}{c0:Dh}
abbrev Ln(ks:List Int)(vs:List D)(a:Int)(v:D):List D:=Dz (ks.map .i) vs (.i a) v
theorem Vv: ∀{ks:List Int} {vs:List D},a∈ks→ks.length=vs.length→ks.length=(Ln ks vs a v).length:=λ{ks vs} h l=>by
 have:=Ih (key:= .i a) (x:=v) (kl:=ks.map DO.i) (vs:=vs) (by (exact C9 (ι _)<|C9 l rfl))
 rw [QE (JX h),ι] at this;exact this
theorem Q2: ∀{ks:List Int} {vs:List D},a∈ks→ks.length=vs.length→EF ks (Ln ks vs a v) a=some v:=λ{ks}=>by
 induction ks with
 |nil=>intro vs h;exact absurd h Γ
 |cons b ks ih=>
  intro vs h l;cases vs with
  |nil=>exact nomatch l
  |cons u vs=>
   show EF (b::ks) (cond (DO.beq (.i b) (.i a)) (v::vs) (u::Ln ks vs a v)) a=_
   by_cases q:b=a
   ·exact C9 q<|C9 (Fi _) FW
   ·refine C9 (G6 q) ?_
    exact (Ek q).trans (ih ((ν.mp h).elim (λe=>absurd e.symm q) id) (AK.inj l))
theorem IE(h:a≠b): ∀{ks:List Int} {vs:List D},ks.length=vs.length→EF ks (Ln ks vs a v) b=EF ks vs b:=λ{ks}=>by
 induction ks with
 |nil=>intro vs l;rfl
 |cons d ks ih=>
  intro vs l;cases vs with
  |nil=>exact nomatch l
  |cons u vs=>
   show EF (d::ks) (cond (DO.beq (.i d) (.i a)) (v::vs) (u::Ln ks vs a v)) b=_
   by_cases q:d=a
   ·exact C9 q<|C9 (Fi _)<|(Ek h).trans (Ek h).symm
   ·refine C9 (G6 q) ?_
    by_cases q2:d=b
    ·exact C9 q2<|FW.trans FW.symm
    ·exact (Ek q2).trans ((ih (AK.inj l)).trans (Ek q2).symm)
abbrev PP(σ:Store)(c0:Dh)(ks:List Int)(vs:List D)(tr:D):Store:=σ++ [c0,Dk ks vs, .lv (.inst 5) [.cell (σ.length+1), .d tr]]
theorem QK{q:Nat}(h:(q:Int)∈ks)(hl:ks.length<64):(DZ (n+1)).call false 12 [.cell (σ.length+2), .d (.int (q:Int)), .d (.int ((0:Nat):Int)), .d v] (PP σ c0 ks vs tr)=some (.d .none,PP σ c0 ks (Ln ks vs q v) tr):=by
 have bb:=Eo (key:= .i (q:Int)) (q:=0) (j:=(ks.map DO.i).length) (by exact C9 (ι _)<|IJ hl rfl) rfl
 have e:Dh.lv (.Dg 0 (D2 (ks.map .i) (.i (q:Int)))) (Dz (ks.map .i) ((vs.map GP).map .d) (.i (q:Int)) (.d (GP v)))=Dk ks (Ln ks vs q v):=by
  (exact C9 (QE (JX h))<|C9 (IA V.d)<|C9 (IA GP) rfl)
 rw [PP,PP,←e];apply Nx rfl rfl
 ·cell_ask ⟨Ii,Em⟩
 ·exact GL (by exact C9 ε<|C9 ε rfl)
abbrev v3(c:Kc):List D:=Ln c.keys (Ln c.keys (Ln c.keys c.vals 40 (.nd .lst [.int 5])) 41 (sd [28] [ref 3])) 42 (sd [28] [ref 2])
theorem v6(C:EU c):(40:Int)∈c.keys∧(41:Int)∈c.keys∧(42:Int)∈c.keys:=have:=(IS C).x;⟨(this 40 (by decide)).1,(this 41 (by decide)).1,(this 42 (by decide)).1⟩
theorem kO(C:EU c):EF c.keys (v3 c) 40=some (.nd .lst [.int 5])∧EF c.keys (v3 c) 41=some (sd [28] [ref 3])∧EF c.keys (v3 c) 42=some (sd [28] [ref 2])∧ ∀a,¬(40≤a∧a≤42)→EF c.keys (v3 c) a=EF c.keys c.vals a:=by
 refine ET (v6 C) λh0 h1 h2=> ?_;have l0:=Ls C;have l1:=Vv (v:= .nd .lst [.int 5]) h0 l0;have l2:=Vv (v:=sd [28] [ref 3]) h1 l1;exact (Vt ((IE (by decide) l2).trans ((IE (by decide) l1).trans (Q2 h0 l0))) ((IE (by decide) l2).trans (Q2 h1 l1)) (Q2 h2 l2) (λa h=>(IE (by exact xE h rfl) l2).trans ((IE (by exact xE h rfl) l1).trans (IE (by exact xE h rfl) l0))))
theorem bm(C:EU c)(h: ∀a,¬(40≤a∧a≤42)→EF ks vs a=EF c.keys c.vals a):Iu c (EF ks vs):=by
 have B:=MC C;have hl:=C.len;refine ES C.tree λKs O O T=> ?_;refine ⟨(h _ (by decide)).trans B.j2,(h _ (by decide)).trans B.jU,λj a ha=> ?_,λp hp=> ?_,(h _ (by decide)).trans B.k3,(h _ (by decide)).trans B.k2,(h _ (by decide)).trans B.k1,(h _ (by decide)).trans B.sx⟩
 ·refine ES (B.p j a ha) λp hp e q=> ?_
  have:=Fq a (LQ ha).1
  exact (ED p hp e ((h _ (by lia)).trans q))
 ·refine DQ (B.n p hp) λv q e=> ?_
  have:=(GV T).2.1 _ (Ar (f:=λp:Dx=>p.1) hp)
  exact (DM v q ((h _ (by lia)).trans e))
theorem fj(C:EU c)(T:Tj c.rows c.spec K A N)(F:Ko c.rows A N)(h0:0<r0∧r0<4): ∀x∈gc,Js c.keys (v3 c) ((20::N)++MN r0) 3 x:=by
 refine OR (kO C) λv8 xt e42 e=> ?_;have B:=bm C e;have n3: ∀{d},Js c.keys (v3 c) ((20::N)++MN r0) d 3:= .bar B.k3 (Ψ _ RC.2.2.2)
 have n2: ∀{d},Js c.keys (v3 c) ((20::N)++MN r0) (d+1) 2:=λ{d}=>by
  by_cases q:(2:Int)∈(20::N)++MN r0
  ·exact .bar B.k2 q
  ·exact .step B.k2 q (.rf 3) n3
 have n1:Js c.keys (v3 c) ((20::N)++MN r0) 3 1:=by
  by_cases q:(1:Int)∈(20::N)++MN r0
  ·exact .bar B.k1 q
  ·exact .step B.k1 q (.rf 2) n2
 have hA:(30:Int)∈A:=WN T (Hj C).2 (by refine C9 Kh ?_;exact Fp.mpr ⟨by decide,by have:=C.len.1;lia⟩);refine D3 (F.a _ hA) λj hj=> ?_;refine ES (B.p j _ hj) λp O O ep=> ?_;have n30:Js c.keys (v3 c) ((20::N)++MN r0) 3 30:= .bar ep (Θ _ (.tail _ (F.s _ hA)));intro x hx;rcases ν.mp hx with w|hx
 ·exact C9 w n1
 rcases ν.mp hx with w|hx
 ·exact C9 w n2
 rcases ν.mp hx with w|hx
 ·exact C9 w n3
 rcases ν.mp hx with w|hx
 ·exact C9 w n30
 rcases ν.mp hx with w|hx
 ·exact C9 w<| .nil v8 (NL F (by decide)) (.ls 5)
 rcases ν.mp hx with w|hx
 ·exact C9 w<| .step xt (NL F (by decide)) (.yy 3) n3
 ·exact C9 (ς.mp hx)<| .step e42 (NL F (by decide)) (.yy 2) n2
theorem gq(C:EU c)(F:Ko c.rows A N)(B:Iu c (EF ks vs)): ∀x∈A.map (fA ks vs),nZ x:=λx hx=>by
 refine DQ (AD.mp hx) λa ha e=> ?_;refine D3 (F.a a ha) λj hj=> ?_;refine ES (B.p j a hj) λp hp O ep=> ?_;refine Dr e ?_;exact (QQ _ _ _ (by show (EF ks vs a).getD .none=_;exact C9 ep rfl) (C.rows p hp))
end
end
section
mutual open A
variable{n k i q x y:Nat}{σ DD DK Dy:Store}{v tr:D}{a:Int}{w:V}{e:Nat}{c0:Dh}{G:HL}{loc:Di}{ta tb:T}{ts l:List T}{ks:List Int}{ws:List D}
theorem gW{dl:List D}{ps:List (V×V)}{kv:List DO×List V}(h1:RM i ((GT G ts).map Nd.ev) loc σ=some (dl,DD))(h2:EB (Lh x (nd G ta).ev (nd G tb).ev loc) dl DD=some (ps,DK))(h3:FB n ps ([], [])=some kv)(h4:Df false (.Dg n kv.1) kv.2 DK=some (w,Dy)):(nd G (.mk 34 n [.mk i q ts, .mk x y [],ta,tb])).ev loc σ=some (w,Dy):=show Qm n (RM i ((GT G ts).map Nd.ev)) x (nd G ta).ev (nd G tb).ev loc σ=_ from DJ h1 (DJ h2 (DB h3 h4))
theorem R3{f:D→Store→Option (Option V×Store)}{P:Int→Bool}{g:Int→D}: ∀{l:List Int},(∀a∈l,f (.int a) σ=some (cond (P a) (some (V.d (g a))) none,σ))→EB f (l.map .int) σ=some (((l.filter P).map g).map .d,σ):=λ{l}=>by
 induction l with
 |nil=>intro _;rfl
 |cons a l ih=>
  intro h;refine (FH (h a (.head _)) (ih λx hx=>h x (.tail _ hx))).trans ?_;refine C9 Al ?_;cases P a<;>rfl
theorem fN{body:Ex}{P:Di→Prop}(h1: ∀loc d,P loc→P (Dt σ.length [] (DR loc x (.d d)))): ∀{dl:List D} {loc:Di},(∀d∈dl,∀loc,P loc→body (DR loc x (.d d)) σ=some (.go 0 (DR loc x (.d d)) σ))→P loc→El body x dl loc σ=some (.go 0 (ZY σ.length x dl loc) σ):=λ{dl}=>by
 induction dl with
 |nil=>intro loc _ _;rfl
 |cons d dl ih=>intro loc h p;exact WP (h d (.head _) loc p) (.inl rfl) (ih (λd hd=>h d (.tail _ hd)) (h1 _ d p))
theorem mS: ∀{es:List Nat},e<9→(∀x∈es,x<9)→e ∉ es→Dm (es.map kx) (kx e)=false:=λ{es}=>by
 induction es with
 |nil=>intro _ _ _;rfl
 |cons d es ih=>
  intro he h hn;show (DO.beq (kx d) (kx e)||Dm (es.map kx) (kx e))=false;refine C9 (ih he (λx hx=>h x (.tail _ hx)) λw=>hn (.tail _ w))<|C9 (kD d (h d (.head _)) e he) ?_
  cases q:μ d e with
  |false=>rfl
  |true=>exact absurd (AO q▸List.Mem.head _) hn
abbrev sR(e:Nat):D:= .str (FX (tD e))
theorem ay: ∀{es pre:List Nat},(∀x∈pre++es,x<9)→(pre++es).Nodup→FB 3 (es.map λe=>(.d (sR e), .d (.int ((1:Nat):Int)))) (pre.map kx,pre.map λO=>V.d (.int ((1:Nat):Int)))=some ((pre++es).map kx,(pre++es).map λO=>V.d (.int ((1:Nat):Int))):=λ{es}=>by
 induction es with
 |nil=>intro pre _ _;exact C9 (υ _) rfl
 |cons e es ih=>
  intro pre h Fl;have hn:e ∉ pre:=λw=>(AE.mp Fl).2.2 _ w _ (.head _) rfl;have hh:=mS (h e (Ψ _ (.head _))) (λx hx=>h x (Θ _ hx)) hn;refine (DB (show S5 3 (.d (sR e)) (.d (.int ((1:Nat):Int))) (pre.map kx,pre.map λO=>V.d (.int ((1:Nat):Int)))=some ((pre++ [e]).map kx,(pre++ [e]).map λO=>V.d (.int ((1:Nat):Int))) from DB rfl (DB rfl (D7 rfl ?_))) (ih (by exact C9 (π _ _ _) h) (by exact C9 (π _ _ _) Fl))).trans ?_
  ·show some (D2 (pre.map kx) (kx e),Dz (pre.map kx) (pre.map λO=>V.d (.int ((1:Nat):Int))) (kx e) (V.d (.int ((1:Nat):Int))))=_
   exact C9 (EN hh)<|C9 (Ef hh (by rw [ι,ι]))<|C9 χ<|C9 χ rfl
  ·exact C9 (π _ _ _) rfl
theorem qu{h1 h2:Hd}{l1:List D}{v:D}:Hz FZ (.cell (σ.length+2)) (σ++ [c0, .lv h1 (l1.map .d), .lv h2 [.cell (σ.length+1), .d v]])=some (.nd h2 [.nd h1 l1,v],σ++ [c0, .fz (.nd h1 l1), .fz (.nd h2 [.nd h1 l1,v])]):=
 DB (HO (k:=2)) (DJ (Mh (k:=1) rfl (DJ (show Hz 4 (.d v) _=some (v,_) from rfl) rfl)) (congrArg (λz=>some (D.nd h2 [.nd h1 l1,v],z)) (by exact C9 (AI _ _ (Ζ _ _))<|C9 (Ω _ _) rfl)))
theorem jk{c1:Dh}{d:D}:Hz FZ (.cell (σ.length+2)) (σ++ [c0,c1, .fz d])=some (d,σ++ [c0,c1, .fz d]):=DB (HO (k:=2)) rfl
theorem pb{h1 h2 h3:Hd}{l1:List D}{v:D}:Df false h3 [.cell (σ.length+2), .cell (σ.length+2)] (σ++ [c0, .lv h1 (l1.map .d), .lv h2 [.cell (σ.length+1), .d v]])=some (.d (.nd h3 [.nd h2 [.nd h1 l1,v], .nd h2 [.nd h1 l1,v]]),σ++ [c0, .fz (.nd h1 l1), .fz (.nd h2 [.nd h1 l1,v])]):=show EI (HS (Hz FZ) _ _) (λds σ=>some (V.d (.nd h3 ds),σ))=_ from DJ (DJ qu (DJ (DJ jk (DJ rfl rfl)) rfl)) rfl
theorem gL{h:Hd}{c1:Dh}{d:D}:Df false h [.cell (σ.length+2)] (σ++ [c0,c1, .fz d])=some (.d (.nd h [d]),σ++ [c0,c1, .fz d]):=show EI (HS (Hz FZ) _ _) (λds σ=>some (V.d (.nd h ds),σ))=_ from DJ (DJ jk (DJ rfl rfl)) rfl
theorem RA:Sh (PP σ c0 ks ws tr) (.cell (σ.length+2)) ks ws tr [.cell (σ.length+1), .d tr] (.cell (σ.length+1)):=⟨FL (k:=2) rfl,Ii (k:=2) rfl rfl,PW (k:=1) rfl,Hn (k:=1) rfl rfl,Ii (k:=2) rfl rfl,JA rfl⟩
theorem tq:Sh (σ++ [c0, .fz (Mg ks ws), .fz (E2 ks ws tr)]) (.cell (σ.length+2)) ks ws tr [.d (Mg ks ws), .d tr] (.d (Mg ks ws)):=⟨DB (MD (k:=2) rfl) rfl,DB (show Ew _ _=some (5,_) from DB (MD (k:=2) rfl) rfl) rfl,rfl,rfl,DB (show Ew _ _=some (5,_) from DB (MD (k:=2) rfl) rfl) rfl,JA rfl⟩
end
end
section
mutual open A
variable{n m i q x:Nat}{σ DD DK S:Store}{v v' tr d g:D}{a:Int}{sh:V}{fl:List V}{e:Nat}{keep:Bool}{G:HL}{loc:Di}{ta tb t2:T}{ks EZ:List Int}{ws D4:List D}{B:Bool}
theorem btw(e:(nd G t2).ev loc σ=some (.d (.int a),DD)):(nd G (.mk 14 50 [Dp 20,t2, .mk 4 q []])).ev loc σ=some (.d (.bool (decide (20≤a)&&decide (a<(q:Int)))),DD):=by
 cases h:decide (20≤a) with
 |true=>exact K3 Fu e (show some (decide (((20:Nat):Int)≤a))=_ from congrArg some h) Fu rfl
 |false=>exact Vp Fu e (show some (decide (((20:Nat):Int)≤a))=_ from congrArg some h)
theorem dC(h:(nd G ta).ev ((x, .d d)::loc) σ=some (.d (.bool B),σ))(h2:B=true→(nd G tb).ev ((x, .d d)::loc) σ=some (.d g,σ)):Fz x 0 (nd G tb).ev ((GT G [ta]).map Nd.ev) loc d σ=some (cond B (some (V.d g)) none,σ):=by
 cases B with
 |true=>exact EL (DG:=(x, .d d)::loc) rfl (JY h rfl) (h2 rfl)
 |false=>exact Mj (DG:=(x, .d d)::loc) rfl (JY h rfl)
theorem xH{B':Bool}(h:(nd G ta).ev loc σ=some (.d (.bool B),σ))(h':(nd G tb).ev loc σ=some (.d (.bool B'),σ)):(nd G (.mk 15 n [ta,tb])).ev loc σ=some (.d (.bool (B&&B')),σ):=by
 refine vS (WF h ?_);cases B with
 |true=>exact WF h' (by cases B'<;>rfl)
 |false=>rfl
abbrev p5(a:Int):Bool:=decide (20≤a)&&decide (a<((30:Nat):Int))
abbrev l5(ks:List Int):List Int:=(HA I9 ks).filter p5++ [3]
theorem cO{tb:V}(H:Sh S sh ks ws tr fl tb)(hl:ks.length<64)(h: ∀a∈l5 ks,∃v v' x m,EF ks ws a=some v∧EF EZ D4 a=some v'∧m≤20∧Pl m x∧U ks ws 17 4 v x∧U EZ D4 17 4 v' x)(l1:DE loc 133=some sh)(l2:DE loc 95=some (.d (E2 EZ D4 tr))):
  (nd (DZ (n+18)) fq).ex loc S=some (.go 0 (ZY S.length 103 ((l5 ks).map .int) loc) S):=by
 have nu:=Gc (n:=n+17) (keep:=false) H hl;have low:=H.low
 have fa:=fN (σ:=S) (x:=103) (body:=(nd (DZ (n+18)) tu).ex) (P:=λloc=>DE loc 133=some sh∧DE loc 95=some (.d (E2 EZ D4 tr))) (λloc d p=>⟨D9 (DH rfl p.1) low,D9 (DH rfl p.2) rfl⟩) (dl:=(l5 ks).map .int) (loc:=loc) (λd hd loc p=>by
  refine DQ (AD.mp hd) λa ha e=> ?_;refine Hl (h a ha) λv v' x m e1 e2 g1 g2 u1 u2=> ?_;refine Dl p λp1 p2=> ?_;clear p;have H':Sh S (.d (E2 EZ D4 tr)) EZ D4 tr _ _:=F4;have u1:=u1 (n+18) false S _ _ _ _ H (by exact ψ _ _);have u2:=u2 (n+18) false S _ _ _ _ H' (by exact ψ _ _);have ni:FJ S 9 (.d (.int a)) (.d (Mg EZ D4))=some (!true):=(RI H'.tt).trans (by (exact C9 (WZ e2) rfl));have s1:=Ga H.tt e1;have s2:=Ga H'.tt e2;have ne:=TH (σ:=S) g2 g1;have at1:=H.a;refine Dr e ?_
  cell_ask ⟨ni,at1,s1,s2,L9,ne⟩) ⟨l1,l2⟩
 refine Md (dl:=(l5 ks).map .int) (Pp (v:= .d (.nd .lst ((l5 ks).map .int))) (bU (va:= .d (.nd .lst (((HA I9 ks).filter p5).map .int))) (vb:= .d (.nd .lst [.int 3])) (DD:=S) (DK:=S) ?_ (u4 (Gi Fu N4) rfl) ?_) HB) fa
 ·have hi:=H.i
  fin2
  refine (R3 (P:=p5) (g:= .int) λa O=> ?_);exact dC (btw (Fh rfl)) λO=>Fh rfl;exact nV
 ·refine (V8 ?_).trans (by exact C9 χ rfl)
  have:=List.length_filter_le p5 (HA I9 ks)
  have q:(HA I9 ks).length=ks.length:=NB;refine C9 (ι _) ?_;show _+1≤1000000
  lia
abbrev p6(a:Int):Bool:= !(decide (20≤a)&&decide (a<((40:Nat):Int)))&&decide (((3:Nat):Int)<a)
theorem Uo{f:Int→D}(hl:EZ.length<64)(h: ∀a∈HA I9 EZ,p6 a=true→ ∃v x,EF EZ D4 a=some v∧G5 4 v (.nd .tup x)∧PC (.nd .tup x)=some (.d (f a)))(l2:DE loc 95=some (.d (E2 EZ D4 tr))):
  (nd (DZ (n+18)) jA).ex loc S=some (.go 0 (DR loc 107 (.d (.nd .lst (((HA I9 EZ).filter p6).map f)))) S):=by
 have H:Sh S (.d (E2 EZ D4 tr)) EZ D4 tr _ _:=F4;have nu:=Gc (n:=n+17) (keep:=false) H hl;have hi:=H.i
 fin2
 refine (R3 (P:=p6) (g:=f) λa ha=> ?_);refine dC (xH (aT (btw (Fh rfl))) (vN (Fh rfl) Fu rfl)) λhp=> ?_;refine D0 (h a ha hp) λv x e1 t1 t2=> ?_;have s1:=Ga H.tt e1;have t1:=t1 (n+18) false S (by exact ψ _ _)
 cell_ask ⟨s1,L9⟩
 exact DB rfl (DB rfl t2);exact nV
end
end
section
mutual open A
variable{n m k i q x:Nat}{σ S:Store}{v d:D}{a b r0:Int}{c c':Kc}{t:V}{e:Nat}{G:HL}{loc:Di}{EZ:List Int}{D4:List D}{es:List Nat}
theorem dcg: ∀{es:List Nat},EB (Lh 106 (nd G (DF 106)).ev (nd G (Dp 1)).ev loc) (es.map sR) S=some (es.map λe=>(.d (sR e), .d (.int ((1:Nat):Int))),S):=λ{es}=>by
 induction es with
 |nil=>rfl
 |cons e es ih=>exact FH (p:=some (.d (sR e), .d (.int ((1:Nat):Int)))) rfl ih
theorem gy(h9: ∀x∈es,x<9)(Fl:es.Nodup)(B:Iu c (EF EZ D4))(h0:0<r0∧r0<4)(l1:DE loc 107=some (.d (.nd .lst (es.map sR))))(l2:DE loc 95=some (.d (E2 EZ D4 (Fv r0)))):
  (nd (DZ (n+18)) jF).ex loc S=some (.go 0 loc S):=by
 have H:Sh S (.d (E2 EZ D4 (Fv r0))) EZ D4 (Fv r0) _ _:=F4;have f3:LT EZ D4 1 (ref 3) Ez:= .PN B.k3 (.stop (k:=5) rfl rfl)
 have rt:(DZ (n+18)).call false 15 [.d (E2 EZ D4 (Fv r0))] S=some (.d Ez,S):=by
  rcases r3 h0 with e|e|e
  ·rw [e] at H ⊢;exact LB H (k:=3) (.PN B.k1 (.PN B.k2 f3)) (by decide)
  ·rw [e] at H ⊢;exact LB H (k:=2) (.PN B.k2 f3) (by decide)
  ·rw [e] at H ⊢;exact LB H (k:=1) f3 (by decide)
 have ln:Fj S 0 (.d (.nd .lst (es.map sR)))=some (.d (.int (es.length:Int))):=by
  show some (V.d (.int (((es.map sR).map V.d).length:Int)))=_
  (exact C9 (ι _)<|C9 (ι _) rfl)
 have ln2:Fj S 0 (.d (.nd (.Dg 3 (es.map kx)) (es.map λO=> .int 1)))=some (.d (.int (es.length:Int))):=by
  show some (V.d (.int ((es.map kx).length:Int)))=_
  (exact C9 (ι _) rfl)
 have ne:=TH (σ:=S) (m:=0) (x:= .int (es.length:Int)) Gg (by decide);have hi:=H.i
 have dc:(nd (DZ (n+18)) rX).ev loc S=some (.d (.nd (.Dg 3 (es.map kx)) (es.map λO=> .int 1)),S):=by
  refine gW (Pp (Fh l1) HB) dcg (ay (pre:= []) h9 Fl) ?_;show Df false _ (es.map λO=>V.d (.int 1)) S=_;refine C9 (show (es.map λO=>V.d (.int 1))=(es.map λO=>D.int 1).map V.d by rw [Δ];rfl) ?_;exact nV
 cell_ask ⟨dc,ln,ln2,ne,rt⟩
theorem gY(C:EU c)(M:Kb c c')(J:Mo c c' EZ D4): ∀p∈QY c.z0 c.z1 c.z2,p.2<9∧EF EZ D4 p.1=some (vD p.2):=λq hq=>by
 refine Dl (Qy (z0:=c.z0) (z1:=c.z1) (z2:=c.z2)) λu1 u2=> ?_;refine ET (OD C q (u1 q hq)) λx1 x2 x3=> ?_;refine ET (OD M.ok q (by exact C9 M.e.2.2.1<|C9 M.e.2.2.2.1<|C9 M.e.2.2.2.2<|u1 q hq)) λy1 y2 y3=> ?_;exact ⟨x1,J.at' _ _ y3 (u2 q hq)⟩
def cls(z0 z1 z2:Nat)(x:Int):Nat:=cond (Dj x 43) 6 (cond (Dj x 60) 7 (cond (Dj x 61) 8 (zz z0 z1 z2 x)))
abbrev pu(c:Kc):List Nat:=(QY c.z0 c.z1 c.z2).map λp=>p.2
set_option synthInstance.maxHeartbeats 400000 in
set_option synthInstance.maxSize 4096 in
theorem Qt: ∀z0,z0<4→ ∀z1,z1<4→ ∀z2,z2<4→((QY z0 z1 z2).map λp=>p.1).filter p6=(QY z0 z1 z2).map (λp=>p.1)∧((QY z0 z1 z2).map λp=>p.1).map (cls z0 z1 z2)=(QY z0 z1 z2).map (λp=>p.2)∧((QY z0 z1 z2).map λp=>p.2).Nodup:=by decide+kernel
theorem eR(C:EU c)(J:Mo c c' EZ D4):(HA I9 EZ).filter p6=(QY c.z0 c.z1 c.z2).map λp=>p.1:=by
 rw [J.k,BM,BM,(Qt _ C.z0 _ C.z1 _ C.z2).1,show [(1:Int),2,3].filter p6= [] from rfl,List.filter_eq_nil_iff.mpr,Bc,Bc];intro a ha;have hl:=C.len.2;refine ET (IK C) λO O hk=> ?_
 have b:20≤a∧a<((40:Nat):Int):=by
  rcases ω.mp ha with h|h
  ·have:=Fp.mp h;lia
  ·have:=Fp.mp h;lia
 show¬(!(decide (20≤a)&&decide (a<((40:Nat):Int)))&&decide (((3:Nat):Int)<a))=true
 rw [decide_eq_true b.1,decide_eq_true b.2];exact ζ
theorem iJ(C:EU c)(M:Kb c c')(J:Mo c c' EZ D4): ∀a∈HA I9 EZ,p6 a=true→ ∃v x,EF EZ D4 a=some v∧G5 4 v (.nd .tup x)∧PC (.nd .tup x)=some (.d (sR (cls c.z0 c.z1 c.z2 a))):=λa ha hp=>by
 have hm:a∈(HA I9 EZ).filter p6:=BL.mpr ⟨ha,hp⟩;rw [eR C J] at hm;refine DQ (AD.mp hm) λp hp e=> ?_;refine Dl (gY C M J p hp) λh9 t=> ?_;have q:=(Qt _ C.z0 _ C.z1 _ C.z2).2.1
 have q:cls c.z0 c.z1 c.z2 p.1=p.2:=by
  rw [Δ] at q;exact List.map_inj_left.mp q p hp
 refine Dr e<|C9 q ?_
 exact (EK _ (tL p.2) t (SR h9) (d0 h9))
theorem u8(C:EU c):((((QY c.z0 c.z1 c.z2).map λp=>p.1).map λa=>sR (cls c.z0 c.z1 c.z2 a))=(pu c).map sR)∧(pu c).Nodup∧ ∀x∈pu c,x<9:=by
 refine ET (Qt _ C.z0 _ C.z1 _ C.z2) λO q Fl=> ?_;refine ⟨?_,Fl,λx hx=> ?_⟩
 ·exact C9 (show pu c=_ from q.symm)<|C9 Δ<|C9 Δ<|C9 Δ rfl
 ·refine DQ (AD.mp hx) λp hp e=> ?_
  refine Dr e ?_;exact (OD C p (Qy.1 p hp)).1
end
end
section
mutual open A
variable{n m i x:Nat}{σ S:Store}{v v' d:D}{vs:List V}{a b q:Int}{c c':Kc}{keep:Bool}{c0:Dh}{loc:Di}{ks EZ il A:List Int}{ws D4 ys:List D}{y:D}
structure ul(loc:Di)(n:Nat)(EZ:List Int)(D4:List D)(tr:D)(ys:List D):Prop where
 a:DE loc 133=some (.cell (n+2))
 b:DE loc 95=some (.d (E2 EZ D4 tr))
 c:DE loc 131=some (.d (.nd .lst ys))
 d:DE loc 159=some (.cell (n+0))
theorem uJ(hs:(DZ (n+18)).call true 44 [.cell (σ.length+0)] (σ++ [Dw (il.take 63) 0 0])=some (.cell (σ.length+2),PP σ c0 c.keys c.vals (Fv c.r0)))
  (ht: ∀keep,(DZ (n+18)).call keep 16 [.cell (σ.length+2)] (PP σ c0 c.keys c.vals (Fv c.r0))=some (.d y,PP σ c0 c.keys c.vals (Fv c.r0))) (hy:Pl 7 y)
  (B:jr c EZ D4 A ys) (J:Mo c c' EZ D4):
  ∃loc,KY (DZ (n+18)) [pA,nL,mW,m7,oH] [(130, .d (.nd .lst (il.map .int)))] (σ++ [])=some (.go 0 loc (PP σ c0 c.keys c.vals (Fv c.r0)))∧ul loc σ.length EZ D4 (Fv c.r0) ys:=by
 have H:=RA (σ:=σ) (c0:=c0) (ks:=c.keys) (ws:=c.vals) (tr:=Fv c.r0);have va:=lY (n:=n+17) (σ:=σ) (il:=il);have sa:=B.a n _ _ _ _ H;have sb:=B.b n (PP σ c0 c.keys c.vals (Fv c.r0)) _ _ _ F4;have jn:=J.run (n+9) _ _ _ _ H;have hi:=H.i;have n1:=TH (σ:=PP σ c0 c.keys c.vals (Fv c.r0)) hy (by decide);have n2:=TH (σ:=PP σ c0 c.keys c.vals (Fv c.r0)) B.p (by decide);have ht:=ht false;refine ⟨DR (DR (DR (DR (DR [(130, .d (.nd .lst (il.map .int)))] 159 (.cell (σ.length+0))) 133 (.cell (σ.length+2))) 131 (.d (.nd .lst ys))) 48 (.d y)) 95 (.d (E2 EZ D4 (Fv c.r0))), ?_, ?_, ?_, ?_, ?_⟩
 ·cell_ask ⟨Pu,va,hs,ht,sa,jn,sb,n1,n2⟩
 all_goals fin2
theorem sB(C:EU c)(M:Kb c c')(J:Mo c c' EZ D4)(B':Iu c' (EF EZ D4))(h5: ∀a∈l5 c.keys,∃v v' x m,EF c.keys c.vals a=some v∧EF EZ D4 a=some v'∧m≤20∧Pl m x∧U c.keys c.vals 17 4 v x∧U EZ D4 17 4 v' x)(hl:c.keys.length<64)(L:ul loc σ.length EZ D4 (Fv c.r0) ys):
  ∃DG,KY (DZ (n+18)) [fq,jA,jF,mO,mV,pF] loc (PP σ c0 c.keys c.vals (Fv c.r0))=some (.go 0 DG (PP σ c0 c.keys (v3 c) (Fv c.r0)))∧ul DG σ.length EZ D4 (Fv c.r0) ys:=by
 have H:=RA (σ:=σ) (c0:=c0) (ks:=c.keys) (ws:=c.vals) (tr:=Fv c.r0);have h0:(0:Int)<c.r0∧(c.r0:Int)<4:=by have:=C.r0;exact rI this
 have low:=H.low;have zp:FP (PP σ c0 c.keys c.vals (Fv c.r0)).length (.cell (σ.length+0))=false:=JA rfl;have L5:ul (ZY (PP σ c0 c.keys c.vals (Fv c.r0)).length 103 ((l5 c.keys).map .int) loc) σ.length EZ D4 (Fv c.r0) ys:=⟨M8 L.a rfl low,M8 L.b rfl rfl,M8 L.c rfl rfl,M8 L.d rfl zp⟩;have s5:=cO (n:=n) H hl h5 L.a L.b;revert s5 L5;generalize ZY (PP σ c0 c.keys c.vals (Fv c.r0)).length 103 ((l5 c.keys).map .int) loc=hO;intro L5 s5;refine ET (u8 C) λe1 e2 e3=> ?_;have s6:=Uo (n:=n) (S:=PP σ c0 c.keys c.vals (Fv c.r0)) J.l (iJ C M J) L5.b;rw [eR C J,e1] at s6;have s7:=gy (n:=n) (S:=PP σ c0 c.keys c.vals (Fv c.r0)) (loc:=DR hO 107 (.d (.nd .lst ((pu c).map sR)))) e3 e2 B' h0 Da (DH rfl L5.b);refine ET (v6 C) λk0 k1 k2=> ?_;have p0:=QK (n:=n+17) (σ:=σ) (c0:=c0) (vs:=c.vals) (v:= .nd .lst [.int 5]) (q:=40) (tr:=Fv c.r0) k0 hl;have p1:=QK (n:=n+17) (σ:=σ) (c0:=c0) (vs:=Ln c.keys c.vals 40 (.nd .lst [.int 5])) (v:=sd [28] [ref 3]) (q:=41) (tr:=Fv c.r0) k1 hl;have p2:=QK (n:=n+17) (σ:=σ) (c0:=c0) (vs:=Ln c.keys (Ln c.keys c.vals 40 (.nd .lst [.int 5])) 41 (sd [28] [ref 3])) (v:=sd [28] [ref 2]) (q:=42) (tr:=Fv c.r0) k2 hl;refine ⟨DR hO 107 (.d (.nd .lst ((pu c).map sR))),x_go s5 (x_go s6 (x_go s7 ?_)),DH rfl L5.a,DH rfl L5.b,DH rfl L5.c,DH rfl L5.d⟩;have l1:=L5.a
 cell_ask ⟨FL⟩
 exact p0
 cell_ask ⟨FL⟩
 exact p1
 cell_ask ⟨FL⟩
 exact p2
 fin2
end
end
section
mutual open A
variable{n m i P:Nat}{σ r S:Store}{v d:D}{a b q:Int}{c:Kc}{fl:List V}{at_:Nat}{c0:Dh}{loc:Di}{ks EZ cl A N K:List Int}{ws D4 ys:List D}
theorem Kr.inst(W:Kr P v): ∃fl,∀S,Ew S (.d v)=some (5,fl):=by
 refine IM W λlp us O O O O e=> ?_;clear W;exact (EG _ (λS=>by exact C9 e rfl))
theorem qg{l:List D}:Fj S 0 (.d (.nd .lst l))=some (.d (.int (l.length:Int))):=by
 show some (V.d (.int ((l.map V.d).length:Int)))=_
 (exact C9 (ι _) rfl)
theorem Ze(h:a=b):FJ S 1 (.d (.int a)) (.d (.int b))=some false:=h▸TH (m:=0) Gg (by decide)
theorem sJ(C:EU c)(T:Tj c.rows c.spec K A N)(F:Ko c.rows A N)(hl:ys.length=A.length)(hc:cl.length<64)(ha:at_<1000)(hq:0≤q)(L:ul loc σ.length EZ D4 (Fv c.r0) ys):
  ∃S',KY (DZ (n+18)) [rG,ql,s8,qo] loc (PP σ (Dw cl at_ q) c.keys (v3 c) (Fv c.r0))=some (.ret (.d (.bool true)) (σ++S')):=by
 refine wr λZ0 z0=> ?_;have h0:(0:Int)<c.r0∧(c.r0:Int)<4:=by have:=C.r0;exact rI this
 have B:=bm C (kO C).2.2.2;have S3:=Kd B C.rows T F h0;have lA:=F.l.1;have lR:=C.len;refine Do (Gy (σ:=σ) (cl:=cl) (at_:=at_) (q:=q) (many:=ys.length) (r:= [Dk c.keys (v3 c), .lv (.inst 5) [.cell (σ.length+1), .d (Fv c.r0)]]) hc ha hq (by exact zsb hl lA lR) (by exact zsa hl lA lR rfl)) λz a1 q1 hz O O dp=> ?_;have dp:=dp (n+17) false;have hN:=fj C T F h0;have hb: ∀τ,(DZ (n+10+5)).call false 29 [.d (E2 c.keys (v3 c) (Fv c.r0))] τ=some (.d (PS ((20::N)++MN c.r0)),τ):=λτ=>vI (n:=n+9) B S3 F h0 F4;have pm:(A.map λa=>Oh (fA c.keys (v3 c) a))=(A.map (fA c.keys (v3 c))).map Oh:=by exact C9 Δ rfl
 have hp: ∀τ,(DZ (n+10+7)).call false 26 [.d (E2 c.keys (v3 c) (Fv c.r0))] τ=some (.d (.nd .lst ((A.map (fA c.keys (v3 c))).map Oh)),τ):=λτ=>pm▸S3.Vr F4;have hP:=gq C F B;have pl:(A.map (fA c.keys (v3 c))).length=ys.length:=by (exact C9 (ι _)<|C9 hl rfl)
 have fz:=pb (σ:=σ) (c0:=Dw cl a1 q1) (h1:= .Dg 0 (c.keys.map .i)) (h2:= .inst 5) (h3:= .lst) (l1:=(v3 c).map GP) (v:=Fv c.r0);have f1:=gL (σ:=σ) (c0:=Dw cl a1 q1) (h:= .lst) (c1:= .fz (Mg c.keys (v3 c))) (d:=E2 c.keys (v3 c) (Fv c.r0));have sz:=S3.Vr (n:=n+10) (tq (σ:=σ) (c0:=Dw cl a1 q1) (ks:=c.keys) (ws:=v3 c) (tr:=Fv c.r0));rw [pm] at sz;refine DQ (Yg (n:=n+10) (σ:=σ++ [Dw cl a1 q1, .fz (Mg c.keys (v3 c)), .fz (E2 c.keys (v3 c) (Fv c.r0))]) hN hb hp hP (by lia)) λw1 W1 e1=> ?_;refine DQ (ar (s:=z) (n:=n+10) (σ:=σ++ [Dw cl a1 q1, .fz (Mg c.keys (v3 c)), .fz (E2 c.keys (v3 c) (Fv c.r0))]) hN hb sz f1 hP (by exact zry pl hz)) λw2 W2 e2=> ?_;refine z0 ?_;rw [pl] at W1;refine (EG ([Dw cl a1 q1, .fz (Mg c.keys (v3 c)), .fz (E2 c.keys (v3 c) (Fv c.r0))]) ?_);revert e1 e2 f1 sz;generalize hS:σ++ [Dw cl a1 q1, .fz (Mg c.keys (v3 c)), .fz (E2 c.keys (v3 c) (Fv c.r0))]=S;intro f1 sz e1 e2;refine wr λZ0 z0=> ?_;refine D3 W1.inst λi1 g1=> ?_;refine D3 W2.inst λi2 g2=> ?_;refine DQ (MU (n:=n+11) (σ:=S) W1) λp1 n1 t1=> ?_;refine DQ (MU (n:=n+11) (σ:=S) W2) λp2 n2 t2=> ?_;refine z0 ?_;have r1:=OA (n:=n+15) (σ:=S) W1;have r2:=OA (n:=n+15) (σ:=S) W2;have m1:=Mn (n:=n+16) (σ:=S) W1;have m2:=Mn (n:=n+16) (σ:=S) W2;have c1:FJ S 1 (.d (.int (p1.length:Int))) (.d (.int (((2:Nat):Int)*(ys.length:Int))))=some false:=Ze (by exact C9 n1 rfl);have c2:FJ S 1 (.d (.int (p2.length:Int))) (.d (.int ((2:Nat):Int)))=some false:=Ze (by (exact C9 n2 rfl));have mu:M0 2 (.d (.int ((2:Nat):Int))) (.d (.int (ys.length:Int)))=some (.d (.int (((2:Nat):Int)*(ys.length:Int)))):=Ra (by rw [K2 (by decide) (by decide),K2 (by exact AP _) (by lia)];rfl);have so:Fj S 4 (.d gM)=some (.d (.nd .lst [.sym 14, .sym 26])):=rfl;rw [hS] at fz;have la:=L.a;have lc:=L.c;have ld:=L.d
 cell_ask ⟨dp,e1,e2,t1,t2,c1,c2,mu,m1,m2,g1,g2,r1,r2,so,qg⟩
end
end
section
mutual open A
variable{n m:Nat}{σ:Store}{c c':Kc}{EZ:List Int}{D4:List D}
theorem vg(C:EU c)(M:Kb c c')(J:Mo c c' EZ D4): ∀a∈l5 c.keys,∃v v' x m,EF c.keys c.vals a=some v∧EF EZ D4 a=some v'∧m≤20∧Pl m x∧U c.keys c.vals 17 4 v x∧U EZ D4 17 4 v' x:=λa ha=>by
 refine wr λZ0 z0=> ?_
 have hk:a∈c.keys∧a<41:=by
  rcases ω.mp ha with h|h
  ·refine Dl (BL.mp h) λh1 h2=> ?_
   exact ⟨LK h1,by have:=of_decide_eq_true (band h2).2;lia⟩
  ·refine C9 (ς.mp h) ?_;exact ⟨(IS C).k3.1,by decide⟩
 refine D3 (JO (Ls C) hk.1) λv e=> ?_;refine DQ (UP M J e (bu (.inl hk.2))) λv' e' G=> ?_;refine ES (kC C M J G) λx u1 u2 p=> ?_;refine z0 ?_;exact (Gn v v' x 16 e e' (by decide) p u1 u2)
theorem jC(n:Nat)(il:List Int):(DZ (n+19)).call false 49 [.d (.nd .lst (il.map .int))] σ=some (.d (.bool true),σ):=by
 refine wr λZ0 z0=> ?_;refine Do (YA (σ:=σ) (il:=il) n) λc at_ q ha hq C hs=> ?_;have hs:=hs (n+13);refine D3 (hD C) λc' M=> ?_;refine HY (ii C M) λEZ D4 J=> ?_;obtain ⟨⟨K,A,N,T⟩,hr⟩:=Hj C;have F:=XD T hr C.len.2;have h0:(0:Int)<c.r0∧(c.r0:Int)<4:=by have:=C.r0;exact rI this
 have B':=W9 M J.at';have T':=K8 M T;have F':Ko c'.rows A N:=XD T' (Hj M.ok).2 M.ok.len.2;have S:=Kd (MC C) C.rows T F h0;have S':=Kd B' M.ok.rows T' F' h0;refine D3 (lg C M J F S S') λys SB=> ?_;refine DQ (oG C M) λy y1 ty=> ?_;refine ET (IK C) λek g1 g2=> ?_;refine OR (Uu _ (Ap C.len.2) _ g2) λO O O s4=> ?_;rw [←ek] at s4;refine DQ (uJ (n:=n) (c0:=Dw (il.take 63) at_ q) hs (λkeep=>ty (n+13) _ _ _ _ keep RA) y1 SB J) λJ' e1 L1=> ?_;refine DQ (sB (n:=n) (c0:=Dw (il.take 63) at_ q) C M J B' (vg C M J) s4 L1) λI7 e2 L2=> ?_;refine D3 (sJ (n:=n) (cl:=il.take 63) C T F SB.l (Ρ (List.length_take_le ..) (by decide)) (BR ha (by decide)) hq L2) λs e3=> ?_;refine z0 ?_;exact uE (fn:=kE) s rfl rfl (XH (l1:= [pA,nL,mW,m7,oH]) e1 (XH (l1:= [fq,jA,jF,mO,mV,pF]) e2 e3))
theorem wR(il:List Int):(DZ 40).call false 49 [.d (.nd .lst (il.map .int))] []=some (.d (.bool true), []):=jC 21 il
end
end
end
end Internal
set_option genInjectivity true set_option genSizeOf true set_option tactic.hygienic true set_option bootstrap.genMatcherCode true
open Internal
namespace hda
mutual open A theorem tw5818260042086359902:True:=⟨⟩ open tw17473504458628295163 tw2803550911377271895 tw13793092939389240011 tw16528420931437272276 tw12387793320553225204 tw1991591795384326370 tw701707489991462210 tw8032173845803121403 tw5395520349997299998 tw5210458322176925402 tw16574474621612224244 tw2757355926001721960 tw16904523705463035103 tw13714871786388456632 tw3006300634904878858 tw15820299493685272865 tw9751526549802347528 tw6644659684282044289 tw14157003057543776463 tw16877963695220012424 tw3561743719729665078 tw13174847621464376500 tw1135186958278111619 tw4433776953338144667 tw17697168223089942912 tw1036440779448897148 tw12059908299166571174 tw8840784383453288663 tw13645894816635557923 tw759613208541532055 tw5278507352468037750 tw17136297912814028146 tw15238578502844364054 tw3330287882882830179 tw2281892075104787901 tw5685144050280856528 tw5415111138397751586 tw9967872862616936415 tw3206757575097965653 tw4754809334428459183 tw7978607245160357548 tw14102412685431564151 tw17997178538015117523 tw17831065356902443056 tw8268566710321354752 tw6313807399485918794 tw17590330805450338682 tw1912824393255515831 tw9437926700624296396 tw15822111827132560712 tw453702169152148271 tw392835851483555068 tw4870489880796621973 tw13049589137553833165 tw12138558384262462724 tw2724232341511622470 tw7876325449596305599 tw13179731557175465495 tw6079959749662867813 tw3469319227574801479 tw4358391242906489356 tw17202797535284978455 tw17638882486498198278 tw13128555355831772301 tw1397931358783087501 tw7036163286616999127 tw8602944108134276922 tw6497616449388602414 tw10912334931371131384 tw16123746908199815694 tw4119131056664272621 tw5441270097816709972 tw632682567219675858 tw11382412516958292572 tw4184432317896537338 tw5373148323881187222 tw17372586140010174709 tw2816773050954508238 tw2808055414077128264 tw9934140721122612580 tw6100226629088200938 tw15964117215239470533 tw9098498430703844080 tw11431103599124468438 tw876295316622025606 tw3181466468418403386 tw10160240763470596597 tw18020399991963874319 tw9475758769236409021 tw9107656385246262048 tw14337326757426681337 tw10821256935917726936 tw7842037409312503682 tw15156388148976362530 tw2336155300294119250 tw7857616463847708148 tw9648155295360955700 tw822702037197639880 tw3030316413054699146 tw655376731679032310 tw11378471908449905819 tw940945722974980728 tw17706095106308104409 tw1454526570557234737 tw12403298664052421753 tw15010192715521670398 tw16546725211761649225 tw4606119393133404829 tw16734005901834944259 tw11194132932371831657 tw11205601336877913849 tw13795131090331311643 tw12438545219839001699 tw7380306995314339929 tw13282410771046429278 tw13148806110242680335 tw1560575263726418180 tw1082766340799622558 tw15219459870108540320 tw2897761431212756813 tw12265047472860958153 tw9866481069503661469 tw10362882708647299067 tw9174597395791785519 tw17830414479688163714 tw7877420727032409712 tw12494623557993062935 tw8291724775849650726 tw6606131519460876649 tw903390326535788550 tw13304887804422873761 tw17092204792803429501 tw11108916133010844463 tw145929790040839640 tw5746991245887223269 tw16287595909963673705 tw11286243474049363722 tw18257827608640303145 tw6261872332586867268 tw46756318535882560 tw570745397082536998 tw5369978353984016492 tw12333887083844791867 tw7925200370460445925 tw14561086952037861196 tw11049001313066454350 tw11756434409894173880 tw2297706947211537899 tw17981135196182271902 tw12096987630660413728 tw14688582601968114855 tw734169593045343932 tw14096862807522929185 tw694142414724265802 tw6373509604325515587 tw8376452102948326237 tw10379359386133920705 tw18111977938923062892 tw10268838769551265417 tw4216389809861686205 tw4732971914255329961 tw1844524937795821751 tw7593120055794410206 tw6611484823398920866 tw13061693278501867650 tw15590649023790059851 tw3589899475212766457 tw2875051395802394366 tw1484611287369247203 tw13527646731107517107 tw2221460206498964152 tw13466252650735373672 tw4982180700948999352 tw11688630328234148238 tw4395635909353064954 tw10624340122667145249 tw17960541275123972908 tw15120918809050158271 tw9327343768249501939 tw6047018587706654387 tw11654516445662114716 tw2599704968895182850 tw322445980666305831 tw5445495944177142737 tw18436222911132310955 tw15996419814490185479 tw1852296004146784959 tw13479272387284612543 tw991774385270222255 tw6854325224252424062 tw1415307513259407620 tw8985113958104619413 tw15844576675024689675 tw9478419909985282060 tw3700151933932265806 tw16603584067698559302 tw2690570203374844845 tw1401990114140324095 tw10719144651373943311 tw18384019903081384567 tw14437327702572009010 tw17180720660460491030 tw12408059527888500973 tw2384231582415919636 tw11589910857833434765 tw14481269185524804122 tw7617919611506237901 tw620633084835861454 tw11615114164722072141 tw12719190275736818951 tw738683297045911645 tw7697193537830285946 tw11234417236131641395 tw6227043453475034216 tw12812527835537947719 tw3079007694701770385 tw4531297005549838988 tw2638560843238338399 tw11274445669890101403 tw12736249923978311380 tw17190257893469458937 tw3141320645970232934 tw3481844831498214244 tw1120522927730618673 tw2364946265117347229 tw4603650299019682531 tw15428327182658878574 tw1179543833388894852 tw17640125028533580605 tw16680554833662063923 tw12270062931973132559 tw6792034348952495791 tw13948832173222081182 tw1970303356433856309 tw15533217617734287957 tw9353871337885987918 tw8756253606261536789 tw17068260966217016637 tw4552590450837677743 tw12982987034658520211 tw15628077662612174733 tw4131775598584141511 tw10213876835339950124 tw2274949121259233961 tw458715724820101706 tw602750523567056244 tw12634840448781237252 tw12647141681863764283 tw6989733085233637672 tw16207261491989313987 tw9750963953047681360 tw889621532744747458 tw4537402954793589940 tw17552017226384438030 tw16225118363453901419 tw4515505178995702167 tw6796906430450918332 tw7994368001581233639 tw12054585467293021842 tw12507778764994478146 tw9923528251646832938 tw6973444850680798944 tw12959968187986038870 tw8108303901331604096 tw7776262590043529712 tw16545208037430640037 tw408294024664406849 tw14324204320952586027 tw12350326380482293708 tw15134274118528308070 tw4063983253474074810 tw8580919479906841029 tw4442187715432813719 tw11686717697483402460 tw2137716474134580820 tw17147242264849040396 tw1357655145382547884 tw11523532197033099451 tw8999265561234638862 tw9651109883721450351 tw1289651854532061407 tw4361780199339452833 tw8728179349085636176 tw16195510613204569778 tw4248803692697521852 tw12749306029128468498 tw3003086683908234770 tw10354085874471990769 tw1853591622485736177 tw9095522672565021317 tw10948192484540572168 tw6272143505855308923 tw16164412360820067906 tw14422374716386250510 tw15559001586200313195 tw7991250213818253707 tw4637336362093237563 tw12908270290460911486 tw1474255319294972961 tw10230201554197045466 tw15425985783063786670 tw8074130866917267086 tw9328062805792813433 tw6510475700772410050 tw3605100217119330153 tw5224943261688064037 tw17118469806331066580 tw18052455855295729920 tw17220206465575608009 tw16013360765087793011 tw10977700164157302871 tw9236400918358052451 tw17161887157914652112 tw726256005582191813 tw15997265628811715757 tw954796225129868880 tw9070021839551491058 tw730408622263355653 tw2116397240176671982 tw7364591545258839654 tw4326771194065949388 tw3713841797122244010 tw3892062261005093103 tw10871288370263910287 tw7588755019305885459 tw7202580957913691134 tw9730674892409419189 tw12194382922975027954 tw852105067013691976 tw12932248319492170508 tw17177381036527376687 tw8337778620856419750 tw14632000930973341289 tw14806498554757304703 tw11616530158680007097 tw11626054786519438678 tw11842050963055292585 tw11464051309563619151 tw13467197562434866343 tw16983015324469838160 tw9785725499787393402 tw6204946798603457240 tw12676580564244283412 tw13710433858654602125 tw14106587723648374096 tw11943635640224260908 tw13757519535656721124 tw1186661889751603503 tw14273547174246440046 tw12965299508731448794 tw3784579490016865315 tw35013720127234272 tw5509542126276899131 tw2602847479025523302 tw5468105710384877564 tw15288298910415685890 tw5590650723349375993 tw5389496026551428477 tw8469171546176651827 tw12848908199733871930 tw9262744641965878367 tw447250095123665273 tw11040456152360753900 tw8686958234747636193 tw1792304242109503329 tw10396746602021597841 tw15897684844668532029 tw9255137454474948877 tw4167737330878479508 tw10036148933772637450 tw7206006172462120647 tw8879973286827898755 tw9721407936378298029 tw5199772008964678304 tw4864002790579559469 tw12574670065072752499 tw7753964456085375353 tw12967875453739501014 tw14830960498219625173 tw16718740586899810260 tw2259122410223327319 tw11038905181812802597 tw4215883739455308152 tw18412776597105905086 tw205988512579504340 tw18135304396814186339 tw14593410238915825074 tw4154663762168476927 tw15579171929360678289 tw3138421166871158058 tw9125351067096282147 tw12250838244116681285 tw15835336052100710580 tw16054390663426605847 tw4910407474647633896 tw6445378760442554250 tw9179613937048357771 tw14154557059660818593 tw12971287805083392132 tw12674893311527902145 tw13009192251650085663 tw1518562041682408665 tw14520194300338346323 tw6776395427281078347 tw4544390740648904068 tw3148980003512912349 tw7461724469870883686 tw11765782160782139866 tw9337992740404578038 tw5716599963760297681 tw14759970876933800639 tw10620918357315204874 tw16465642164337598813 tw16366203405340675074 tw9174604004522727707 tw17883542529183045602 tw15131846964880433630 tw1680078705978408332 tw12445400056171211449 tw17407080123706512953 tw8249336672673577413 tw2006786541101490977 tw1074826623305405834 tw9560671396050767941 tw5778429463187704729 tw16399093973512346780 tw4963915825105472637 tw461383934411098155 tw16814822673607448742 tw13546020015964080859 tw5868360700563847380 tw3099783193117637384 tw883113176039234196 tw12972726331059680351 tw1241730505589496302 tw3154942361322187809 tw725750613753991664 tw12187818647710275466 tw17729661990741652571 tw18383418979422963051 tw3545164728114835970 tw12617147023695078882 tw376382204616439182 tw12579456220433295879 tw2514693603780839425 tw17002434389828113882 tw9975466564013731669 tw5827263527533516636 tw14551594085240914373 tw13298208640985167271 tw13428033039073821489 tw11982034866881303419 tw11501777831131449898 tw6349484070479515257 tw12453279956362239520 tw14821182567224578817 tw10861924056617592643 tw8272500531154460031 tw11466803467286445527 tw3297684505144746791 tw754350297796794013 tw4658350092898856945 tw7885138249564832611 tw7460167844031876701 tw15030212152911609179 tw14423716987882796587 tw3859362217231356845 tw17865602204547128135 tw17901785586311664213 tw17256960581382684487 tw8434206474157059321 tw10380076319993214937 tw6729666783995611511 tw8155968027312173791 tw13829887638831267643 tw9264255215927686128 tw6586871547505108223 tw16582950089451633205 tw11859785189798740136 tw95519424476243979 tw5248269465069559642 tw15822676941237197931 tw8636798655081995236 tw13579913218281105213 tw16082668584781400737 tw6290693005675397317 tw4057160001994844981 tw16984350098250715789 tw10715310158324012531 tw5046189179107704974 tw4988013503452451121 tw15396843471044590545 tw8706623791023728691 tw15205133325341324018 tw3313009405930477608 tw2668498936504558450 tw3181420769907363781 tw11048685601681596564 tw14558519733388524825 tw6927110956367636775 tw9900629910087830831 tw5426389925578265692 tw17837758702709806372 tw16284392406597773669 tw12570941935467919900 tw14615917731012679202 tw13793273909974531342 tw12933659081643304524 tw9321166024447882871 tw14495530718794370439 tw286673917340135628 tw13434269984428711210 tw6960714897141733019 tw14445080194951181019 tw16769017159331359243 tw9157776927964089495 tw5515371941657751679 tw7263162780725561646 tw17429382436326859673 tw11003671252179346586 tw4794898819951816780 tw5160435580402060938 tw11255588324445203830 tw5998135178604726310 tw841880776778033862 tw3053061916762527676 tw4564806314527257659 tw4778681292455558732 tw14986596006238802993 tw14487720587548496119 tw661323264102296315 tw2242930940917157259 tw10721087792291291220 tw4856001070811579272 tw7316764954154628700 tw11180072919030489237 tw12600161333620224811 tw3398848269695057584 tw11300949865428260856 tw10436362848499289508 tw9196335781165073377 tw14793487330079667582 tw9793936264698507321 tw2223822103950897213 tw7077250891504372191 tw16337776796822019208 tw6189874703301476657 tw5416643235825436290 tw11420480075037373427 tw12624126088367892405 tw11969372033538724179 tw17773718384830720430 tw18443073121971975780 tw11309722160265645715 tw13612038155963929537 tw15840126918373275457 tw8563749978372642265 tw14544107072765483014 tw9438021089988661251 tw17667038145650376339 tw7795790449556642662 tw8486071182669121630 tw11136309921524197788 tw7303482202662030751 tw17805717401822952332 tw9063761862451476677 tw8820142084959348384 tw18310071493559077909 tw6344431110110107588 tw14547902606715468202 tw16486591771441213469 tw9722153877485577185 tw3598783206498561450 tw1511317286489275497 tw13077594079717954171 tw16493046378764636631 tw9911693215677168972 tw4253675895468314820 tw8865116562675046233 tw10969905407095455832 tw2383000750874243620 tw3606861157414197726 tw12407204746914195746 tw11274799837608712526 tw11088294510140742711 tw3744725647316633926 tw1091365335147042908 tw10503130549781168381 tw3108358474933828336 tw1704715518520782614 tw15452695960626243235 tw6574203091355587975 tw16598308083706002298 tw12654575583403160484 tw17832614168439115895 tw6434397526911173023 tw14870542957768133476
end
end hda
set_option Elab.async true
set_option maxRecDepth 100000 in
set_option maxHeartbeats 8000000 in
theorem hda:PySem.Challenge.rw_sa0519_01.Holds:=by
 w_on
 o_law
 k_head
 (case hw=>w_witness2)
 intro w s₀ s₁ mg mb G Y fa o pm cd doc dV kV ho hd hcd hD hmg hg args vals as hpre hlay hrd hwl hlo
 have KX:=kIn_of Y
 have T:=G.T
 replace hmg:mg (nm 89)=some (.ref fa):=hmg
 clear hd hcd hD ho
 wrow_args hpre hlay hrd hwl hlo
 rename_i il' _ _ _ _ _ _ _ _ _ _ _ _ hw1 _ _ _ _ _
 refine qa T KX (by kernel_rfl) (by kernel_rfl) (by kernel_rfl) (by kernel_rfl) (by kernel_rfl) (by kernel_rfl) hmg hw1 ?_ (wR _) fun s' hk hos hgn=>GoodW.toG ⟨.inl ⟨.bool true, .bool true, [],rfl,raisesW_false ?_, .bool true, ?_, ?_⟩,hk,hos,hgn.trans hg⟩
 ·rename_i _ hc _
  show il'.length≤1000000
  omega
 ·wrow_none_raised
 ·wrow_post
 ·exact fun _=>⟨List.nodup_nil,fun _ h=>absurd h List.not_mem_nil⟩
end Mine
theorem PySem.Challenge.cw_sa0519_01_holds : PySem.Challenge.rw_sa0519_01.Holds :=
 Mine.hda
