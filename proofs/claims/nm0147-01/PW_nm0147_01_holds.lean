import PyProof.Rows.All
import Wide.All
import OpenK.AllK
import Wide.FinOn
import KE.KPar
import Lean
import PySem.Challenge.RW_nm0147_01
set_option Elab.async false
set_option maxRecDepth 1000000
set_option maxHeartbeats 0
set_option bootstrap.genMatcherCode false
set_option genSizeOf false
set_option genCtorIdx false
set_option genInjectivity false
set_option linter.all false
set_option compiler.extract_closed false
open PySem renaming wpAny_bind → aA, wpAny_pure → aI, wpAny_mono → aM, wpAny_holding → aO, wpAny_standAt → aQ, wpAny_truthy_bool → cU, wpAny_loadPart_at → dQ, call → dU, wpAny_operating → fJ, codeAny_mono → fV, wpAny_isSubtype_exc → gE, wpAny_release → gJ, wpAny_execs_nil → gM, slot_list_setitem → gU, wpAny_execs_cons → iA, strKind_is → iB, call_meets → iG, sizeLine_eq → iU, wpAny_loadPart → jL, wpAny_Constant_str → jM
open List renaming length_map → aB, length_append → aD, mem_cons_self → aE, mem_cons_of_mem → aH, mem_cons → aJ, mem_singleton → aK, nodup_cons → aL, append_assoc → aS, getElem?_eq_some_iff → aT, mem_append_left → aU, length_reverse → aW, map_cons → aZ, mem_append → bB, forall_mem_cons → bC, range → bD, mem_append_right → bE, getElem?_map → bH, getElem?_eq_getElem → bI, map_append → bJ, length_singleton → bP, reverse_cons → bQ, lookup_cons → bR, prefix_rfl → bU, nodup_append → bX, append_nil → bY, replicate → bZ, filterMap_cons → cA, mem_of_getElem? → cJ, all_eq_true → cR, getElem?_eq_none_iff → cT, length_range → cV, take_append_drop → cW, take_of_length_le → dH, nil_prefix → dK, getElem?_eq_none → dM, reverse_append → dX, replicate_succ → dY, length_take → eF, zip_cons_cons → eJ, getElem?_append_right → eK, getD_eq_getElem?_getD → eL, mem_map_of_mem → eZ, length_pos_iff → fA, not_mem_nil → fB, length_filter_le → fL, flatten_cons → fO, length_drop → fX, getLast?_eq_getElem? → gC, take_add_one → gY, contains_iff_mem → hY, any_eq_true → iN, map_drop → iR, eq_nil_of_length_eq_zero → iV, range_succ → jA, headD_cons → jB, map_congr_left → jC, filter_eq_self → jD, map_map → jE, Sublist → jF
open Nat renaming le_trans → aC, zero_le → aP, le_refl → aR, succ_le_succ → aY, add_le_add_right → bG, lt_succ_self → cB, le_sub_of_add_le → cC, le_of_ble_eq_true → cD, min_eq_left → cL, le_max_right → cM, le_add_right → cN, add_le_add → cQ, le_of_eq → cZ, le_succ → dA, le_of_succ_le → dE, add_comm → dP, le_max_left → dW, lt_irrefl → eD, sub_add_cancel → eG, lt_of_lt_of_le → eH, ne_of_lt → eP, add_assoc → eW, zero_add → fC, le_of_lt → fD, ble → fN, add_le_add_left → gF, not_lt → gN, add_right_comm → gO, add_sub_cancel_left → gR, le_succ_of_le → gX, min_eq_right → iI, max_le → iJ, max_eq_right → iK
open PySem.Heap renaming get?_push_of_some → aN, get?_none_of_le → bW, lt_size → cG, get?_push_size → cO, get?_update_self → cX, SameBut → dJ, get?_update_other → dZ, ExtBut → gT
open Classical renaming byContradiction → aV
open Option.some renaming inj → aX
open Int renaming emod_lt_of_pos → bA, emod_nonneg → bF, le_of_lt → bK, lt_of_le_of_lt → bN, natCast_nonneg → bT, toNat_natCast → cI, lt_of_lt_of_le → cK, mul_le_mul_of_nonneg_right → cS, pow_add → dB, mul_comm → dI, emod_eq_of_lt → dS, emod_emod → eE, tdiv_eq_ediv_of_nonneg → eM, neg_nonneg_of_nonpos → eX, pow_succ → fE, le_trans → fH, mul_ediv_add_emod → fM, not_lt → fT, sub_emod → fY, ofNat_le → fZ, ne_of_gt → gA, max_eq_right → gB, mul_assoc → gL, eq_ofNat_of_zero_le → gS, sub_zero → gZ, pow_zero → hG, ediv_eq_zero_of_lt → hO, le_of_not_le → iO, sub_nonneg_of_le → iW, mul_le_mul_of_nonneg_left → iX, lt_iff_le_and_ne → iY, emod_emod_of_dvd → iZ, mul_lt_mul_of_pos_right → jG, mul_emod → jH, add_zero → jI, add_emod → jJ
open PySem.Builtin renaming bitAnd → bL, bitOr → fK, bitXor → hV
open False renaming elim → bM
open Array renaming getElem?_toList → cE, mem_toList_iff → fU, getElem?_eq_getElem → gD, toList_append → gH, length_toList → gI
open PySem.W renaming kbt_pos → cF, callWith_of → fQ
open PySem.NameKind renaming free → cH
open PySem.Heap.SameBut renaming update → cP
open List.cons renaming inj → cY
open Bool renaming and_eq_true → dD, not_eq_true' → dT, not_eq_false → eU, false_eq_true → fI, false_ne_true → gP
open PySem.F renaming excBase_Exception → dL, args_tuple_add_2 → gK, entry_tuple_add → gQ, slot_tuple_add → gV
open PySem.Calls renaming spliced_cons → dN, spliced_nil → dR, Name_function_global → gW
open Option renaming isSome_iff_exists → dO, none → eA, getD_none → iH, any_eq_true → jO
open Decidable renaming not_not → eQ
open PySem.Builtin.List renaming listTooLong → eY, listSubscript? → fP
open PySem.PyData renaming keyHash → fR
open Prod.mk renaming inj → fS
open Nat.succ renaming inj → fW
open PySem.Builtin.Int renaming intBits → gG
open Eq renaming mpr → hU
open PySem.Value renaming ref → iE, type → jN
open PySem.W.Looks renaming of_pure → iQ
open And renaming intro → jK
namespace Mine.Internal
open PySem PySem.W PyProof.Rows
open PySem.Str (ofString)
section
set_option autoImplicit false
theorem e11.{u0}{α0:Sort u0}{p:α0->Prop}{G:Prop}(h:∃a,p a)(k:∀a,p a->G):G:=h.elim λa h=>k a h
theorem e02{p q:Prop}{G:Prop}(h:p/\q)(k:p->q->G):G:=k h.1 h.2
theorem e21.{u0,u1}{α0:Sort u0}{α1:Sort u1}{p:α0->α1->Prop}{G:Prop}(h:∃a b,p a b)(k:∀a b,p a b->G):G:=h.elim λa h=>h.elim λb h=>k a b h
theorem e12.{u0}{α0:Sort u0}{p q:α0->Prop}{G:Prop}(h:∃a,p a/\q a)(k:∀a,p a->q a->G):G:=h.elim λa h=>k a h.1 h.2
theorem e03{p q r:Prop}{G:Prop}(h:p/\q/\r)(k:p->q->r->G):G:=k h.1 h.2.1 h.2.2
theorem e31.{u0,u1,u2}{α0:Sort u0}{α1:Sort u1}{α2:Sort u2}{p:α0->α1->α2->Prop}{G:Prop}(h:∃a b c,p a b c)(k:∀a b c,p a b c->G):G:=h.elim λa h=>h.elim λb h=>h.elim λc h=>k a b c h
theorem e22.{u0,u1}{α0:Sort u0}{α1:Sort u1}{p q:α0->α1->Prop}{G:Prop}(h:∃a b,p a b/\q a b)(k:∀a b,p a b->q a b->G):G:=h.elim λa h=>h.elim λb h=>k a b h.1 h.2
theorem e13.{u0}{α0:Sort u0}{p q r:α0->Prop}{G:Prop}(h:∃a,p a/\q a/\r a)(k:∀a,p a->q a->r a->G):G:=h.elim λa h=>k a h.1 h.2.1 h.2.2
theorem e04{p q r s:Prop}{G:Prop}(h:p/\q/\r/\s)(k:p->q->r->s->G):G:=k h.1 h.2.1 h.2.2.1 h.2.2.2
theorem e41.{u0,u1,u2,u3}{α0:Sort u0}{α1:Sort u1}{α2:Sort u2}{α3:Sort u3}{p:α0->α1->α2->α3->Prop}{G:Prop}(h:∃a b c d,p a b c d)(k:∀a b c d,p a b c d->G):G:=h.elim λa h=>h.elim λb h=>h.elim λc h=>h.elim λd h=>k a b c d h
theorem e32.{u0,u1,u2}{α0:Sort u0}{α1:Sort u1}{α2:Sort u2}{p q:α0->α1->α2->Prop}{G:Prop}(h:∃a b c,p a b c/\q a b c)(k:∀a b c,p a b c->q a b c->G):G:=h.elim λa h=>h.elim λb h=>h.elim λc h=>k a b c h.1 h.2
theorem e23.{u0,u1}{α0:Sort u0}{α1:Sort u1}{p q r:α0->α1->Prop}{G:Prop}(h:∃a b,p a b/\q a b/\r a b)(k:∀a b,p a b->q a b->r a b->G):G:=h.elim λa h=>h.elim λb h=>k a b h.1 h.2.1 h.2.2
theorem e14.{u0}{α0:Sort u0}{p q r s:α0->Prop}{G:Prop}(h:∃a,p a/\q a/\r a/\s a)(k:∀a,p a->q a->r a->s a->G):G:=h.elim λa h=>k a h.1 h.2.1 h.2.2.1 h.2.2.2
theorem e05{p q r s t:Prop}{G:Prop}(h:p/\q/\r/\s/\t)(k:p->q->r->s->t->G):G:=k h.1 h.2.1 h.2.2.1 h.2.2.2.1 h.2.2.2.2
theorem e51.{u0,u1,u2,u3,u4}{α0:Sort u0}{α1:Sort u1}{α2:Sort u2}{α3:Sort u3}{α4:Sort u4}{p:α0->α1->α2->α3->α4->Prop}{G:Prop}(h:∃a b c d e,p a b c d e)(k:∀a b c d e,p a b c d e->G):G:=h.elim λa h=>h.elim λb h=>h.elim λc h=>h.elim λd h=>h.elim λe h=>k a b c d e h
theorem e42.{u0,u1,u2,u3}{α0:Sort u0}{α1:Sort u1}{α2:Sort u2}{α3:Sort u3}{p q:α0->α1->α2->α3->Prop}{G:Prop}(h:∃a b c d,p a b c d/\q a b c d)(k:∀a b c d,p a b c d->q a b c d->G):G:=h.elim λa h=>h.elim λb h=>h.elim λc h=>h.elim λd h=>k a b c d h.1 h.2
theorem e33.{u0,u1,u2}{α0:Sort u0}{α1:Sort u1}{α2:Sort u2}{p q r:α0->α1->α2->Prop}{G:Prop}(h:∃a b c,p a b c/\q a b c/\r a b c)(k:∀a b c,p a b c->q a b c->r a b c->G):G:=h.elim λa h=>h.elim λb h=>h.elim λc h=>k a b c h.1 h.2.1 h.2.2
theorem e24.{u0,u1}{α0:Sort u0}{α1:Sort u1}{p q r s:α0->α1->Prop}{G:Prop}(h:∃a b,p a b/\q a b/\r a b/\s a b)(k:∀a b,p a b->q a b->r a b->s a b->G):G:=h.elim λa h=>h.elim λb h=>k a b h.1 h.2.1 h.2.2.1 h.2.2.2
theorem e15.{u0}{α0:Sort u0}{p q r s t:α0->Prop}{G:Prop}(h:∃a,p a/\q a/\r a/\s a/\t a)(k:∀a,p a->q a->r a->s a->t a->G):G:=h.elim λa h=>k a h.1 h.2.1 h.2.2.1 h.2.2.2.1 h.2.2.2.2
theorem e06{p q r s t u:Prop}{G:Prop}(h:p/\q/\r/\s/\t/\u)(k:p->q->r->s->t->u->G):G:=k h.1 h.2.1 h.2.2.1 h.2.2.2.1 h.2.2.2.2.1 h.2.2.2.2.2
theorem nB{n m:Nat}(h:fN n m=true):n<=m:=cD h
theorem nT{a m n:Nat}(h:a<=m)(e:fN m n=true):a<=n:=aC h (nB e)
theorem n2{a b m k n:Nat}(h:a<=m)(g:b<=k)(e:fN (m+k) n=true):a+b<=n:=nT (cQ h g) e
theorem n3{a b c m k l n:Nat}(h:a<=m)(g:b<=k)(i:c<=l)(e:fN (m+k+l) n=true):a+b+c<=n:=n2 (cQ h g) i e
theorem nS{a m n:Nat}(b:Nat)(h:a<=m)(e:fN m n=true):a-b<=n:=nT (aC (Nat.sub_le a b) h) e
theorem nL{a m n:Nat}(h:a<=m)(e:fN (m+1) n=true):a<n:=nT (aY h) e
theorem mL{a b m n:Nat}(h:a<=m)(e:fN m n=true):min a b<=n:=nT (aC (Nat.min_le_left a b) h) e
theorem mR{a b m n:Nat}(h:b<=m)(e:fN m n=true):min a b<=n:=nT (aC (Nat.min_le_right a b) h) e
theorem rm{d k n c l:Nat}(h:d+k*(n+1)+c<=l):d+k*n+c<=l:=aC (bG (gF (Nat.mul_le_mul_left k (dA n)) d) c) h
theorem rm2{d k n m c l:Nat}(h:d+k*m+c<=l)(e:n<=m):d+k*n+c<=l:=aC (bG (gF (Nat.mul_le_mul_left k e) d) c) h
theorem rm0{d k n c l:Nat}(h:d+k*n+c<=l):d+c<=l:=aC (bG (cN d _) c) h
theorem nR{c a b x y:Int}(h:¬(a<=c/\c<b))(e:decide (a<=x/\y<=b)=true):¬(x<=c/\c<y):=λz=>h ⟨fH (of_decide_eq_true e).1 z.1,cK z.2 (of_decide_eq_true e).2⟩
theorem nD{c b x y:Int}(h:c<b)(e:decide (b<=x)=true):¬(x<=c/\c<y):=λz=>fT.mpr (fH (of_decide_eq_true e) z.1) h
theorem nU{c a x y:Int}(h:a<=c)(e:decide (y<=a)=true):¬(x<=c/\c<y):=λz=>fT.mpr (fH (of_decide_eq_true e) h) z.2
theorem nO{c a b:Int}(h:¬(a<=c/\c<b)):c<a∨b<=c:=(Decidable.em (c<a)).elim .inl λu=>.inr (fT.mp λv=>h ⟨fT.mp u,v⟩)
theorem nE{c a b k:Int}(h:¬(a<=c/\c<b))(e:decide (a<=k/\k<b)=true):c≠k:=λz=>absurd (of_decide_eq_true e) (z▸h)
theorem nG{c a k:Int}(h:a<=c)(e:decide (k<a)=true):c≠k:=λz=>fT.mpr h (z▸of_decide_eq_true e)
theorem nH{c b k:Int}(h:c<b)(e:decide (b<=k)=true):c≠k:=λz=>fT.mpr (z▸of_decide_eq_true e) h
theorem iS{c b k n:Int}(h:c<b)(e:decide (b-k<=n+1)=true):c-k<=n:=Int.le_of_lt_add_one (cK (Int.sub_lt_sub_right h k) (of_decide_eq_true e))
theorem iL{b m:Nat}{n:Int}(h:b<=m)(e:decide ((m:Int)<=n)=true):(b:Int)<=n:=fH (fZ.mpr h) (of_decide_eq_true e)
theorem iP{b:Nat}(h:0<b):0<=(b:Int)-1:=iW (fZ.mpr h)
theorem iM{b m:Nat}{n k:Int}(h:b<=m)(e:decide ((m:Int)-k<=n)=true):(b:Int)-k<=n:=fH (Int.sub_le_sub_right (fZ.mpr h) k) (of_decide_eq_true e)
theorem iD{b:Nat}{v:Int}(h:v<b):0<=(b:Int)-v:=iW (bK h)
theorem tL{c b k:Int}{n:Nat}(h:c<b)(e:decide (b-k<=n/\0<n)=true):(c-k).toNat<n:=by have:=of_decide_eq_true e;lia
theorem tC{c k:Int}(h:k<=c):k+((c-k).toNat:Int)=c:=by rw[Int.toNat_of_nonneg (iW h),Int.add_comm,Int.sub_add_cancel]
theorem tT{t:Nat}{k:Int}(h:k<t)(e:0<t):k.toNat<t:=(Int.toNat_lt' e).mpr h
theorem ka(k:Int)(n:Nat):0<= -k+((n:Int)+k):=by rw[Int.add_comm,Int.add_neg_cancel_right];exact bT n
theorem kb(k:Int)(n:Nat):(-k+((n:Int)+k)).toNat=n:=by rw[Int.add_comm,Int.add_neg_cancel_right];exact cI n
theorem m0(z:Int):(2*z+0) % 2=0:=by rw[jI,Int.mul_emod_right]
theorem m1(z:Int):(2*z+1) % 2=1:=by rw[Int.add_comm,Int.add_mul_emod_self_left];rfl
theorem d0(z:Int):(2*z+0)/2=z:=by rw[jI];exact Int.mul_ediv_cancel_left z (by decide)
theorem d1(z:Int):(2*z+1)/2=z:=by rw[Int.add_comm,Int.add_mul_ediv_left _ _ (by decide)];exact Int.zero_add z
theorem d2(z:Int):z*2/2=z:=Int.mul_ediv_cancel z (by decide)
theorem iC{k m:Nat}(h:k<=m)(e:fN m 1000000=true): -2^62<=(k:Int)/\(k:Int)<2^62:=⟨fH (by decide) (bT k),bN (fZ.mpr (nT h e)) (by decide)⟩
theorem tz{t:Nat}(h:t=32∨t=64):(t:Int)≠0:=h.elim (λz=>z▸by decide) λz=>z▸by decide
theorem tp{t:Nat}(h:t=32∨t=64):0<(t:Int):=h.elim (λz=>z▸by decide) λz=>z▸by decide
theorem t0{t:Nat}(h:t=32∨t=64):0<t:=h.elim (λz=>z▸by decide) λz=>z▸by decide
theorem tH{t:Nat}(h:t=32∨t=64):t<=64:=h.elim (λz=>by rw[z];decide) λz=>by rw[z];decide
theorem tV{t:Nat}{v n:Int}(h:t=32∨t=64)(k:v<t)(e:decide (64<=n)=true):v<=n:=fH (bK k) (iL (tH h) e)
theorem tW{t:Nat}{v n:Int}(h:t=32∨t=64)(k:0<=v)(e:decide (64<=n)=true):t-v<=n:=fH (Int.sub_le_self t k) (iL (tH h) e)
@[elab_as_elim] theorem rwM.{u}{α:Sort u}{a b:α}{M:α->Prop}(e:a=b)(h:M b):M a:=e▸h
@[elab_as_elim] theorem rwL.{u}{α:Sort u}{a b:α}{M:α->Prop}(e:b=a)(h:M b):M a:=e▸h
end
set_option tactic.hygienic false
local macro_rules | `(term| $a -> $b) => `(term| ($(Lean.mkIdent `J) : $a) -> $b)
local macro_rules | `(tactic| rewrite [$r]) => do
  if (r.raw.find? fun s => s.isOfKind `Lean.Parser.Term.byTactic || s.isOfKind `Lean.Parser.Term.anonymousCtor || s.isOfKind `Lean.Parser.Term.fun).isSome then Lean.Macro.throwUnsupported
  `(tactic| first | with_reducible_and_instances refine $(Lean.mkIdent (if r.raw[0].isNone then `rwM else `rwL)) ($(⟨r.raw[1]⟩) :) ?_ | fail)
local macro_rules | `(tactic| rw [$rs,*]) => do
  let a := rs.getElems
  `(tactic| first | ($[rewrite [$a]];*; with_reducible try rfl) | fail)
local macro_rules | `(tactic| show $t:term) => `(tactic| first | refine (?_ : $t) | fail)
inductive V where
 |none|bool (b:Bool)|int (i:Int)|str (x:Str)
 |tup (l:List V)|obj (a:Addr)|raw (v:Value)
noncomputable def V.ctorIdx(x:V):Nat:= @V.casesOn (λJ=>Nat) x 0 (λJ=>1) (λJ=>2) (λJ=>3) (λJ=>4) (λJ=>5) (λJ=>6)
inductive O where
 |list (l:List V)
 |sd (es:List (Str×V))
 |nd (es:List (Int×V))
 |inst (C d:Addr)
 |ro (l:List V)
noncomputable def O.ctorIdx(x:O):Nat:= @O.casesOn (λJ=>Nat) x (λJ=>0) (λJ=>1) (λJ=>2) (λJ J=>3) (λJ=>4)
noncomputable abbrev H:=Addr->Option O
noncomputable abbrev Rho:=List (Option V)
noncomputable def upd(σ:H)(a:Addr)(o:O):H:=λb=>if b=a then some o else σ b
@[simp] theorem jP(σ:H)(a:Addr)(o:O):upd σ a o a=some o:=by simp[upd]
theorem jQ(σ:H){a b:Addr}(o:O)(h:b≠a):upd σ a o b=σ b:=by simp[upd,h]
mutual
inductive Rep (h:Heap):Value->V->Prop
 |none:Rep h .none .none
 |bool (b):Rep h (.bool b) (.bool b)
 |int (i t):Rep h (.int i t) (.int i)
 |str (x t):Rep h (.str x t) (.str x)
 |tup {a items l}:IsTup h a items->Reps h items.toList l->Rep h (.ref a) (.tup l)
 |obj (a):Rep h (.ref a) (.obj a)
 |raw (v):Rep h v (.raw v)
inductive Reps (h:Heap):List Value->List V->Prop
 |nil:Reps h [] []
 |cons {v u vs us}:Rep h v u->Reps h vs us->Reps h (v::vs) (u::us)
end
noncomputable def Tk(h h':Heap):Prop:=∀a items,IsTup h a items->IsTup h' a items
theorem Tk.trans{h₁ h₂ h₃:Heap}(x:Tk h₁ h₂)(y:Tk h₂ h₃):Tk h₁ h₃:=λa i z=>y a i (x a i z)
theorem Rep.mono{h h':Heap}(k:Tk h h'){v:Value}{u:V}(r:Rep h v u):Rep h' v u:=
 Rep.rec (motive_1:=λv u J=>Rep h' v u) (motive_2:=λvs us J=>Reps h' vs us) .none .bool .int .str (λt J r=>.tup (k _ _ t) r) .obj .raw .nil (λJ J a b=>.cons a b) r
theorem Reps.ind{h:Heap}{P:List Value->List V->Prop}(n:P [] [])(c:∀{v u vs us},Rep h v u->Reps h vs us->P vs us->P (v::vs) (u::us)){vs:List Value}{us:List V}(r:Reps h vs us):P vs us:=
 Reps.rec (motive_1:=λJ J J=>True) (motive_2:=λvs us J=>P vs us) trivial (λJ=>trivial) (λJ J=>trivial) (λJ J=>trivial) (λJ J J=>trivial) (λJ=>trivial) (λJ=>trivial) n (λa b J i=>c a b i) r
theorem Reps.mono{h h':Heap}(k:Tk h h'){vs:List Value}{us:List V}(r:Reps h vs us):Reps h' vs us:=Reps.ind .nil (λa J i=>.cons (a.mono k) i) r
theorem Reps.length{h:Heap}{vs:List Value}{us:List V}(r:Reps h vs us):vs.length=us.length:=Reps.ind (P:=λvs us=>vs.length=us.length) rfl (λJ J i=>congrArg (· +1) i) r
theorem Reps.append{h:Heap}{vs ws:List Value}{us xs:List V}(r:Reps h vs us)(y:Reps h ws xs):Reps h (vs++ws) (us++xs):=Reps.ind (P:=λvs us=>Reps h (vs++ws) (us++xs)) y (λa J i=>.cons a i) r
theorem Reps.get{h:Heap}{vs:List Value}{us:List V}(r:Reps h vs us):∀{i:Nat} {u:V},us[i]?=some u->∃v,vs[i]?=some v/\Rep h v u:=
 Reps.ind (P:=λvs us=>∀{i:Nat} {u:V},us[i]?=some u->∃v,vs[i]?=some v/\Rep h v u) (λe=>by contradiction) (λa J k=>by
  intro i _ e
  induction i using Nat.casesOn with
  |zero=>exact⟨_,rfl,aX e▸a⟩ |succ i=>exact k e) r
theorem Reps.get'{h:Heap}{vs:List Value}{us:List V}(r:Reps h vs us):∀{i:Nat} {v:Value},vs[i]?=some v->∃u,us[i]?=some u/\Rep h v u:=
 Reps.ind (P:=λvs us=>∀{i:Nat} {v:Value},vs[i]?=some v->∃u,us[i]?=some u/\Rep h v u) (λe=>by contradiction) (λa J k=>by
  intro i _ e
  induction i using Nat.casesOn with
  |zero=>exact⟨_,rfl,aX e▸a⟩ |succ i=>exact k e) r
theorem Reps.drop{h:Heap}(n:Nat){vs:List Value}{us:List V}(r:Reps h vs us):Reps h (vs.drop n) (us.drop n):=
 Reps.ind (P:=λvs us=>∀n,Reps h (vs.drop n) (us.drop n)) (λn=>by cases n<;>exact .nil) (λa b k n=>by
  induction n using Nat.casesOn with
  |zero=>exact .cons a b |succ n=>exact k n) r n
theorem Reps.take{h:Heap}(n:Nat){vs:List Value}{us:List V}(r:Reps h vs us):Reps h (vs.take n) (us.take n):=
 Reps.ind (P:=λvs us=>∀n,Reps h (vs.take n) (us.take n)) (λn=>by cases n<;>exact .nil) (λa b k n=>by
  induction n using Nat.casesOn with
  |zero=>exact .nil |succ n=>exact .cons a (k n)) r n
theorem Reps.set{h:Heap}(n:Nat){vs:List Value}{us:List V}{v:Value}{u:V}(r:Reps h vs us)(x:Rep h v u):Reps h (vs.set n v) (us.set n u):=
 Reps.ind (P:=λvs us=>∀n,Reps h (vs.set n v) (us.set n u)) (λJ=>.nil) (λa b k n=>by
  induction n using Nat.casesOn with
  |zero=>exact .cons x b |succ n=>exact .cons a (k n)) r n
theorem Reps.reverse{h:Heap}{vs:List Value}{us:List V}(r:Reps h vs us):Reps h vs.reverse us.reverse:=
 Reps.ind (P:=λvs us=>Reps h vs.reverse us.reverse) .nil (λa J k=>by rw[bQ,bQ];exact k.append (.cons a .nil)) r
section
variable{h:Heap}{v:Value}{vs:List Value}{u u':V}{us:List V}{P:Value->Prop}{R:List Value->Prop}
@[elab_as_elim] theorem Rep.eN(r:Rep h v .none)(k:P .none):P v:=by cases r;exact k
@[elab_as_elim] theorem Rep.eB{b:Bool}(r:Rep h v (.bool b))(k:P (.bool b)):P v:=by cases r;exact k
@[elab_as_elim] theorem Rep.eI{i:Int}(r:Rep h v (.int i))(k:∀t,P (.int i t)):P v:=by cases r;exact k _
@[elab_as_elim] theorem Rep.eS{x:Str}(r:Rep h v (.str x))(k:∀t,P (.str x t)):P v:=by cases r;exact k _
@[elab_as_elim] theorem Rep.eT{l:List V}(r:Rep h v (.tup l))(k:∀a items,IsTup h a items->Reps h items.toList l->P (.ref a)):P v:=by cases r with|tup t r=>exact k _ _ t r
@[elab_as_elim] theorem Rep.eO{a:Addr}(r:Rep h v (.obj a))(k:P (.ref a)):P v:=by cases r;exact k
@[elab_as_elim] theorem Rep.eR{w:Value}(r:Rep h v (.raw w))(k:P w):P v:=by cases r;exact k
@[elab_as_elim] theorem Reps.e0(r:Reps h vs [])(k:R []):R vs:=by cases r;exact k
@[elab_as_elim] theorem Reps.eC(r:Reps h vs (u::us))(k:∀v vs,Rep h v u->Reps h vs us->R (v::vs)):R vs:=by cases r with|cons a b=>exact k _ _ a b
@[elab_as_elim] theorem Reps.e1(r:Reps h vs [u])(k:∀v,Rep h v u->R [v]):R vs:=r.eC λv J a b=>b.e0 (R:=λz=>R (v::z)) (k v a)
end
structure Cx where
 prog:Program
 w:World
 K:Frag
 h₀:Heap
 mg:Str->Option Value
 mb:Str->Option Value
 g₀:Array GenState
 os₀:OsState
 live:∃o,h₀.get? mainGlobals=some o
noncomputable def OK(cx:Cx)(h:Heap)(a:Addr):O->Prop
 |.list l=>∃items n,h.get? a=some {cls:=.type "list",data:=.seq items n}/\Reps h items.toList l |.sd es=>∃kvs,h.DictOf (strKind cx.prog cx.w) a kvs/\kvs.map (·.1)=es.map (·.1)/\Reps h (kvs.map (·.2)) (es.map (·.2)) |.nd es=>∃kvs,h.DictOf (intKind cx.prog cx.w) a kvs/\kvs.map (·.1)=es.map (·.1)/\Reps h (kvs.map (·.2)) (es.map (·.2)) |.inst C d=>h.get? a=some (instObj C d) |.ro l=>∃items n,h.get? a=some {cls:=.type "list",data:=.seq items n}/\Reps h items.toList l
noncomputable def nJ:Option O->Bool
 |some (.ro _)=>false |some _=>true |none=>false
theorem nJ.ne{o:Option O}(h:nJ o=true):o≠none:=λe=>by rw[e] at h;injection h
noncomputable def get:Rho->Nat->Option V
 | [],_=>none |v::_,0=>v |_::r,i+1=>get r i
noncomputable def set:Rho->Nat->V->Rho
 | [],_,_=> [] |_::r,0,v=>some v::r |w::r,i+1,v=>w::set r i v
theorem mE:∀(ρ:Rho) (i j:Nat) (v:V),j≠i->get (set ρ i v) j=get ρ j
 | [],_,_,_,_=>rfl |_::_,0,0,_,h=>absurd rfl h |_::_,0,_+1,_,_=>rfl |_::_,_+1,0,_,_=>rfl |_::r,i+1,j+1,v,h=>mE r i j v λe=>h (by rw[e])
theorem qD:∀(ρ:Rho) (i:Nat) (v u:V),get (set ρ i v) i=some u->u=v
 | [],_,_,_,h=>by injection h
 |_::_,0,_,_,h=>by injection h with qz;subst qz;rfl
 |_::r,i+1,v,u,h=>qD r i v u h
noncomputable def jZ:Addr:=44
structure Fm where
 env:Env
 nm:List Str
 fs:List Env
 comp:Bool
noncomputable def Fw(fm:Fm)(b:Addr):Prop:=b=fm.env.locals∨(fm.comp=false/\∃x,fm.env.cells.lookup x=some b)
noncomputable def Fr(fs:List Env)(b:Addr):Prop:=b∈fs.filterMap (·.frame)
noncomputable def Kept(F:Addr->Prop)(h':Heap)(b:Addr)(o:Obj):Prop:=∃sl,h'.get? b=some {o with slots:=sl}/\(¬F b->sl=o.slots)
theorem Kept.refl{F:Addr->Prop}{h:Heap}{b:Addr}{o:Obj}(e:h.get? b=some o):Kept F h b o:=⟨o.slots,e,λJ=>rfl⟩
theorem Kept.exact{F:Addr->Prop}{h:Heap}{b:Addr}{o:Obj}(k:Kept F h b o)(hc:¬F b):h.get? b=some o:=by
 refine e12 k λsl e q=>?_
 rw[e,q hc]
structure StpG(F W:Addr->Prop)(σ σ':H)(h h':Heap):Prop where
 keep:∀b o,h.get? b=some o->σ b=none->¬W b->Kept F h' b o
 fresh:∀b,σ' b≠none->σ b≠none∨h.get? b=none
 live:∀b,h.get? b≠none->h'.get? b≠none
noncomputable abbrev StpB(fs:List Env):=StpG (Fr fs) (λJ=>False)
noncomputable abbrev Stp(fm:Fm):=StpG (Fr fm.fs) (Fw fm)
theorem StpG.refl(F W:Addr->Prop)(σ:H)(h:Heap):StpG F W σ σ h h:=⟨λJ J e J J=>.refl e,λJ e=>.inl e,λJ e=>e⟩
theorem StpG.trans{F W:Addr->Prop}{σ₁ σ₂ σ₃:H}{h₁ h₂ h₃:Heap}(x:StpG F W σ₁ σ₂ h₁ h₂)(y:StpG F W σ₂ σ₃ h₂ h₃):StpG F W σ₁ σ₃ h₁ h₃:=by
 refine⟨λb o e hσ hW=>?_,λb e=>?_,λb e=>y.live b (x.live b e)⟩
 ·refine e12 (x.keep b o e hσ hW) λsl e1 q1=>?_
  have hσ2:σ₂ b=none:=by
   induction q:σ₂ b with
   |none=>rfl |some o'=>
    rcases x.fresh b (by rw[q];exact λh=>by injection h) with h|h
    ·exact absurd hσ h
    ·rw[e] at h;injection h
  refine e12 (y.keep b _ e1 hσ2 hW) λsl' e2 q2=>?_
  exact⟨sl',e2,λhc=>(q2 hc).trans (q1 hc)⟩
 ·rcases y.fresh b e with h|h
  ·exact x.fresh b h
  ·exact .inr (aV λhn=>x.live b hn h)
theorem StpG.weaken{F W W':Addr->Prop}{σ σ':H}{h h':Heap}(x:StpG F W σ σ' h h')(k:∀b,W b->W' b):StpG F W' σ σ' h h':=
 ⟨λb o e hσ hW=>x.keep b o e hσ λq=>hW (k b q),x.fresh,x.live⟩
theorem StpG.grow{F W:Addr->Prop}{σ σ':H}{h h':Heap}(k:∀b o,h.get? b=some o->h'.get? b=some o)(f:∀b,σ' b≠none->σ b≠none∨h.get? b=none):StpG F W σ σ' h h':=
 ⟨λb o e J J=>.refl (k b o e),f,λb e=>by
   induction q:h.get? b with
   |none=>exact absurd q e |some o=>rw[k b o q];exact λh=>by injection h⟩
structure StB(cx:Cx)(fs:List Env)(σ:H)(s:Shared):Prop where
 keep:∀b o,cx.h₀.get? b=some o->s.heap.get? b=some o
 gens:s.gens=cx.g₀
 os:s.os=cx.os₀
 own:∀a o,σ a=some o->OK cx s.heap a o
 new:∀a,nJ (σ a)=true->cx.h₀.get? a=none/\sysModules<a
 frames:s.heap.FunFrames cx.h₀ fs
 fsn:∀L,L∈fs.filterMap (·.frame)->σ L=none
structure TopOk(cx:Cx):Prop where
 K:cx.K.In cx.h₀
 g:cx.h₀.Ns mainGlobals cx.mg
 b:cx.h₀.Ns builtinsNs cx.mb
 nolimit:cx.h₀.NoLimit
 builtins:∀x:Str,x≠"__name__"->cx.mb x=bootBuiltins x
structure EnvOk(fm:Fm):Prop where
 kind:fm.env.scope.kind=.function
 globals:fm.env.globals=mainGlobals
 builtins:fm.env.builtins=builtinsNs
 apart:fm.env.cells.Pairwise λx y=>x.2≠y.2
 nodup:fm.nm.Nodup
 cellx:∀x,fm.env.kindOf x=some .cell->∃c,fm.env.cells.lookup x=some c
structure Loc(cx:Cx)(fm:Fm)(ρ:Rho)(σ:H)(h:Heap):Prop where
 env:EnvOk fm
 ns:∃m,h.Ns fm.env.locals m/\∀i x v,fm.nm[i]?=some x->get ρ i=some v->fm.env.kindOf x=some .local->∃val,m x=some val/\Rep h val v
 nsn:cx.h₀.get? fm.env.locals=none/\σ fm.env.locals=none
 cells:∀x c,fm.env.cells.lookup x=some c->(∃v,h.IsCell c v)/\cx.h₀.get? c=none/\σ c=none/\c≠fm.env.locals
 cellv:∀i x v,fm.nm[i]?=some x->get ρ i=some v->(fm.env.kindOf x=some .cell∨fm.env.kindOf x=some .free)->∃c val,fm.env.cells.lookup x=some c/\h.IsCell c (some val)/\Rep h val v
structure St(cx:Cx)(fm:Fm)(ρ:Rho)(σ:H)(s:Shared):Prop extends StB cx fm.fs σ s where
 loc:Loc cx fm ρ σ s.heap
theorem OK.lt{cx:Cx}{h:Heap}{a:Addr}{o:O}(x:OK cx h a o):a<h.objs.size:=by
 induction o with
 |list l=>refine e22 x λz1z z2z e z3z=>?_;exact cG e
 |sd es=>refine e12 x λz4z z5z z6z=>?_;refine e32 z5z λz7z z8z z9z e z10z=>?_;exact cG e
 |nd es=>refine e12 x λz11z z12z z13z=>?_;refine e32 z12z λz14z z15z z16z e z17z=>?_;exact cG e
 |inst C d=>exact cG (show h.get? a=_ from x)
 |ro l=>refine e22 x λz18z z19z e z20z=>?_;exact cG e
theorem OK.noTup{cx:Cx}{h:Heap}{a:Addr}{o:O}(x:OK cx h a o){items:Array Value}:¬IsTup h a items:=by
 rintro⟨ob,e,hc,n,hd⟩
 induction o with
 |list l=>refine e22 x λz21z z22z e' z23z=>?_;rw[e] at e';injection e' with qz;subst qz;injection hc with hc;exact absurd hc (by decide)
 |sd es=>refine e12 x λz24z z25z z26z=>?_;refine e33 z25z λz27z z28z z29z e' hx z30z=>?_;rw[e] at e';injection e' with qz;subst qz;rw[hx.1] at hc;injection hc with hc;exact absurd hc (by decide)
 |nd es=>refine e12 x λz31z z32z z33z=>?_;refine e33 z32z λz34z z35z z36z e' hx z37z=>?_;rw[e] at e';injection e' with qz;subst qz;rw[hx.1] at hc;injection hc with hc;exact absurd hc (by decide)
 |inst C d=>have e':h.get? a=_:=x;rw[e] at e';injection e' with qz;subst qz;injection hc
 |ro l=>refine e22 x λz38z z39z e' z40z=>?_;rw[e] at e';injection e' with qz;subst qz;injection hc with hc;exact absurd hc (by decide)
theorem OK.mono{cx:Cx}{h h':Heap}{a:Addr}{o:O}(x:OK cx h a o)(k:∀ob,h.get? a=some ob->h'.get? a=some ob)(tk:Tk h h'):OK cx h' a o:=by
 induction o with
 |list l=>refine e22 x λi n e r=>?_;exact⟨i,n,k _ e,r.mono tk⟩
 |sd es=>refine e13 x λkvs z41z a1 a2=>?_;refine e32 z41z λob en ep e r=>?_;exact⟨kvs,⟨ob,en,ep,k _ e,r⟩,a1,a2.mono tk⟩
 |nd es=>refine e13 x λkvs z42z a1 a2=>?_;refine e32 z42z λob en ep e r=>?_;exact⟨kvs,⟨ob,en,ep,k _ e,r⟩,a1,a2.mono tk⟩
 |inst C d=>exact k _ x |ro l=>refine e22 x λi n e r=>?_;exact⟨i,n,k _ e,r.mono tk⟩
theorem StB.lt{cx:Cx}{fs:List Env}{σ:H}{s:Shared}(S:StB cx fs σ s){a:Addr}(h:σ a≠none):a<s.heap.objs.size:=by
 induction q:σ a with
 |none=>exact absurd q h |some o=>exact(S.own a o q).lt
theorem StB.free{cx:Cx}{fs:List Env}{σ:H}{s:Shared}(S:StB cx fs σ s){a:Addr}(h:s.heap.objs.size<=a):σ a=none:=by
 induction q:σ a with
 |none=>rfl |some o=>exact absurd (S.own a o q).lt (gN.mpr h)
theorem Kept.isTup{F:Addr->Prop}{h h':Heap}{a:Addr}{items:Array Value}(x:IsTup h a items)(k:∀o,h.get? a=some o->Kept F h' a o):IsTup h' a items:=by
 obtain⟨o,e,hc,n,hd⟩:=x;refine e12 (k o e) λsl e' z43z=>?_
 exact⟨_,e',hc,n,hd⟩
theorem Kept.ns{F:Addr->Prop}{h h':Heap}{a:Addr}{m:Str->Option Value}(x:h.Ns a m)(k:∀o,h.get? a=some o->Kept F h' a o):h'.Ns a m:=by
 refine e33 x λo es ep e hd r=>?_
 refine e12 (k o e) λsl e' z44z=>?_
 exact⟨_,es,ep,e',hd,r⟩
theorem Kept.isCell{F:Addr->Prop}{h h':Heap}{a:Addr}{v:Option Value}(x:h.IsCell a v)(k:∀o,h.get? a=some o->Kept F h' a o):h'.IsCell a v:=by
 refine e12 x λo e hd=>?_
 refine e12 (k o e) λsl e' z45z=>?_
 exact⟨_,e',hd⟩
theorem StpB.tk{cx:Cx}{fs:List Env}{σ σ':H}{s:Shared}{h':Heap}(S:StB cx fs σ s)(x:StpB fs σ σ' s.heap h'):Tk s.heap h':=λa items t=>
 Kept.isTup t λo e=>x.keep a o e (by
  induction q:σ a with
  |none=>rfl |some o'=>exact absurd t (S.own a o' q).noTup) (λz=>z)
theorem Stp.tk{cx:Cx}{fm:Fm}{ρ:Rho}{σ σ':H}{s:Shared}{h':Heap}(S:St cx fm ρ σ s)(x:Stp fm σ σ' s.heap h'):Tk s.heap h':=λa items t=>
 Kept.isTup t λo e=>x.keep a o e (by
  induction q:σ a with
  |none=>rfl |some o'=>exact absurd t (S.own a o' q).noTup) (by
  obtain⟨ot,e1,hc,n,hd⟩:=t;rintro(rfl|⟨_,x,hx⟩)
  ·refine e12 S.loc.ns λm z46z z47z=>?_;refine e33 z46z λob es ep e' hd' z48z=>?_
   rw[e1] at e';injection e' with qz;subst qz;rw[hd] at hd';injection hd'
  ·refine e02 (S.loc.cells x a hx) λz49z z50z=>?_;refine e22 z49z λv ob e' hd'=>?_
   rw[e1] at e';injection e' with qz;subst qz;rw[hd] at hd';injection hd')
theorem Loc.kept{cx:Cx}{fm:Fm}{ρ:Rho}{σ σ':H}{h h':Heap}{fs:List Env}(L:Loc cx fm ρ σ h)(x:StpB fs σ σ' h h')(tk:Tk h h'):Loc cx fm ρ σ' h':=by
 have nl:∀{b:Addr},(∃o,h.get? b=some o)->σ b=none->σ' b=none:=λ{b} hb hσ=>by
  induction q:σ' b with
  |none=>rfl |some o=>
   rcases x.fresh b (by rw[q];exact λh=>by injection h) with y|y
   ·exact absurd hσ y
   ·refine e11 hb λo' hb=>?_;rw[hb] at y;injection y
 refine⟨L.env,?_,⟨L.nsn.1,?_⟩,?_,?_⟩
 ·refine e12 L.ns λm n r=>?_
  refine⟨m,Kept.ns n λo e=>x.keep _ o e L.nsn.2 (λz=>z),λi x v h1 h2 h3=>?_⟩
  refine e12 (r i x v h1 h2 h3) λval a b=>?_
  exact⟨val,a,b.mono tk⟩
 ·refine e12 L.ns λm n z51z=>?_
  exact nl (by refine e32 n λo z52z z53z e z54z=>?_;exact⟨o,e⟩) L.nsn.2
 ·intro y c hc
  refine e04 (L.cells y c hc) λz55z b c' d=>?_;refine e11 z55z λv a=>?_
  exact⟨⟨v,Kept.isCell a λo e=>x.keep _ o e c' (λz=>z)⟩,b,nl (by refine e12 a λo e z56z=>?_;exact⟨o,e⟩) c',d⟩
 ·intro i y v h1 h2 h3
  refine e23 (L.cellv i y v h1 h2 h3) λc val a b d=>?_
  refine e04 (L.cells y c a) λz57z z58z c' z59z=>?_
  exact⟨c,val,a,Kept.isCell b λo e=>x.keep _ o e c' (λz=>z),d.mono tk⟩
theorem St.back{cx:Cx}{fm:Fm}{ρ:Rho}{σ σ':H}{s s':Shared}(S:St cx fm ρ σ s)(S':StB cx fm.fs σ' s')(x:StpB fm.fs σ σ' s.heap s'.heap):St cx fm ρ σ' s':=
 ⟨S',S.loc.kept x (StpB.tk S.toStB x)⟩
theorem StpB.stp{fm:Fm}{σ σ':H}{h h':Heap}(x:StpB fm.fs σ σ' h h'):Stp fm σ σ' h h':=x.weaken λJ z=>z.elim
noncomputable def sR(h h':Heap)(e:Value):Prop:=
 ∃ea oe vs,e=.ref ea/\h.get? ea=none/\h'.get? ea=some oe/\oe.cls=.ref jZ/\oe.data=.fields vs/\
  (vs[1]?=some .none∨∃T oT ts,vs[1]?=some (.ref T)/\h.get? T=none/\T≠ea/\h'.get? T=some oT/\oT.data=.fields ts/\ts[3]?=some .none)
theorem sR.older{h h₁ h':Heap}{e:Value}(hs:∀b,h.get? b≠none->h₁.get? b≠none)(x:sR h₁ h' e):sR h h' e:=by
 refine e31 x λea oe vs q0z=>?_;refine e06 q0z λa b c d f g=>?_
 have un:∀{b:Addr},h₁.get? b=none->h.get? b=none:=λ{b} z=>aV λhn=>hs b hn z
 refine⟨ea,oe,vs,a,un b,c,d,f,g.imp id ?_⟩;rintro⟨T,oT,ts,a,b,c⟩;exact⟨T,oT,ts,a,un b,c⟩
noncomputable def Room(A:Around)(n:Nat):Prop:=A.handled=none/\A.depth+6*n+10<=1000/\A.units+20*n+40<=9900
noncomputable def Post{α β:Type}(cx:Cx)(fm:Fm)(ρ:Rho)(σ:H)(s:Shared)(R:Heap->α->β->Prop)(Q:β->H->Prop):α->Shared->Prop:=
 λa s'=>∃b σ',Q b σ'/\R s'.heap a b/\St cx fm ρ σ' s'/\Stp fm σ σ' s.heap s'.heap
noncomputable def Si{α β:Type}(cx:Cx)(fm:Fm)(σ:H)(s:Shared)(R:Heap->α->β->Prop)(Q:β->Rho->H->Prop):α->Shared->Prop:=
 λa s'=>∃b ρ' σ',Q b ρ' σ'/\R s'.heap a b/\St cx fm ρ' σ' s'/\Stp fm σ σ' s.heap s'.heap
noncomputable def kT(cx:Cx)(fm:Fm)(ρ:Rho)(σ:H)(s:Shared)(X:H->Prop):Value->Shared->Prop:=
 λe s'=>∃σ',X σ'/\sR s.heap s'.heap e/\St cx fm ρ σ' s'/\Stp fm σ σ' s.heap s'.heap
theorem Post.trans{α β:Type}{cx:Cx}{fm:Fm}{ρ:Rho}{σ σ₁:H}{s s₁:Shared}{R:Heap->α->β->Prop}{Q:β->H->Prop}{a:α}{s':Shared}
 (x:Stp fm σ σ₁ s.heap s₁.heap)(y:Post cx fm ρ σ₁ s₁ R Q a s'):Post cx fm ρ σ s R Q a s':=by
 refine e24 y λb σ' h1 h2 h3 h4=>?_
 exact⟨b,σ',h1,h2,h3,x.trans h4⟩
theorem Si.trans{α β:Type}{cx:Cx}{fm:Fm}{σ σ₁:H}{s s₁:Shared}{R:Heap->α->β->Prop}{Q:β->Rho->H->Prop}{a:α}{s':Shared}
 (x:Stp fm σ σ₁ s.heap s₁.heap)(y:Si cx fm σ₁ s₁ R Q a s'):Si cx fm σ s R Q a s':=by
 refine e31 y λb ρ' σ' q0z=>?_;refine e04 q0z λh1 h2 h3 h4=>?_
 exact⟨b,ρ',σ',h1,h2,h3,x.trans h4⟩
theorem kT.trans{cx:Cx}{fm:Fm}{ρ:Rho}{σ σ₁:H}{s s₁:Shared}{X:H->Prop}{e:Value}{s':Shared}
 (x:Stp fm σ σ₁ s.heap s₁.heap)(y:kT cx fm ρ σ₁ s₁ X e s'):kT cx fm ρ σ s X e s':=by
 refine e14 y λσ' h1 h2 h3 h4=>?_
 exact⟨σ',h1,h2.older x.live,h3,x.trans h4⟩
noncomputable def TG{α β:Type}(cx:Cx)(fm:Fm)(n:Nat)(ρ:Rho)(σ:H)(R:Heap->α->β->Prop)(t:Sem α)(Q:β->H->Prop)(X:H->Prop):Prop:=
 ∀A s,Room A n->A.frames=some fm.fs->St cx fm ρ σ s->wpAny (model cx.prog cx.w) A t (Post cx fm ρ σ s R Q) (kT cx fm ρ σ s X) s
noncomputable abbrev TE(cx:Cx)(fm:Fm)(n:Nat)(ρ:Rho)(σ:H)(t:Sem Value)(Q:V->H->Prop)(X:H->Prop):Prop:=TG cx fm n ρ σ Rep t Q X
noncomputable abbrev Same{α:Type}:Heap->α->α->Prop:=λJ a b=>a=b
noncomputable def PostC(cx:Cx)(fs:List Env)(σ:H)(s:Shared)(Q:V->H->Prop)(X:H->Prop):Result->Shared->Prop:=λr s'=>match r with
 |.ok (.ret v)=>∃u σ',Q u σ'/\Rep s'.heap v u/\StB cx fs σ' s'/\StpB fs σ σ' s.heap s'.heap |.ok _=>False |.error e=>∃σ',X σ'/\sR s.heap s'.heap e/\StB cx fs σ' s'/\StpB fs σ σ' s.heap s'.heap
noncomputable def CT(cx:Cx)(n:Nat)(f:Addr)(us:List V)(σ:H)(Q:V->H->Prop)(X:H->Prop):Prop:=
 ∀A fs s vs,Room A n->A.frames=some fs->StB cx fs σ s->Reps s.heap vs us->
  codeAny (model cx.prog cx.w) A (.call (.ref f) ⟨vs,[]⟩) (PostC cx fs σ s Q X) s
theorem CT.more{cx:Cx}{n m:Nat}{f:Addr}{us:List V}{σ:H}{Q:V->H->Prop}{X:H->Prop}(h:CT cx n f us σ Q X)(hm:n<=m):CT cx m f us σ Q X:=
 λA fs s vs a b c d=>h A fs s vs ⟨a.1,by have:=a.2.1;exact rm2 this hm,by have:=a.2.2;exact rm2 this hm⟩ b c d
section
open PySem.Builtin.Str
set_option genCtorIdx true in
inductive Bi where|len|abs|sum|max|min|any|isbool|list
inductive Me where|append|pop|extend|call (f:Addr)
set_option genCtorIdx true in
inductive At where|plain|first|second
noncomputable def At.str:At->Str
 |.plain=>ofString "plain" |.first=>ofString "first"
 |.second=>ofString "second"
noncomputable def Za:List Str:= [At.plain.str,At.first.str,At.second.str]
mutual
inductive IE where
 |val (v:V)
 |loc (i:Nat)
 |bin (op:Operator) (l r:IE)
 |neg (x:IE)|not (x:IE)|truth (x:IE)
 |and (l r:IE)|or (l r:IE)
 |cmp (l:IE) (op:CmpOp) (r:IE)
 |cmp2 (l:IE) (op:CmpOp) (m:IE) (op':CmpOp) (r:IE)
 |ite (t a b:IE)
 |tup (es:IEs)|lst (es:IEs)
 |sdct (ks:List Str) (es:IEs)|ndct (ks:List Int) (es:IEs)
 |sub (e i:IE)|sli (e lo hi:IE)
 |attr (e:IE) (x:At)|prop (e:IE) (f:Addr)
 |call (f:IE) (args:IEs)
 |bi (b:Bi) (args:IEs)
 |meth (o:IE) (m:Me) (args:IEs)
 |split (o:IE)
 |comp (elt:IE) (i:Nat) (it:It) (cond:IE)
 |comp2 (elt:IE) (i:Nat) (it:It) (j:Nat) (it2:It)
 |bad
inductive IEs where|nil|cons (e:IE) (es:IEs)
inductive It where|rng (e:IE)|of (e:IE)
end
noncomputable def IE.ctorIdx(x:IE):Nat:= @IE.casesOn (λJ=>Nat) x (λJ=>0) (λJ=>1) (λJ J J=>2) (λJ=>3) (λJ=>4) (λJ=>5) (λJ J=>6) (λJ J=>7) (λJ J J=>8) (λJ J J J J=>9) (λJ J J=>10) (λJ=>11) (λJ=>12) (λJ J=>13) (λJ J=>14) (λJ J=>15) (λJ J J=>16) (λJ J=>17) (λJ J=>18) (λJ J=>19) (λJ J=>20) (λJ J J=>21) (λJ=>22) (λJ J J J=>23) (λJ J J J J=>24) 25
inductive Tg where|nm (i:Nat)|sub (o i:IE)
noncomputable def Tg.ctorIdx(x:Tg):Nat:= @Tg.casesOn (λJ=>Nat) x (λJ=>0) (λJ J=>1)
inductive Ft where|one (i:Nat)|many (is:List Nat)
mutual
inductive IS where
 |assign (i:Nat) (e:IE)
 |assignT (ts:List Tg) (e:IE)
 |setSub (o i e:IE)
 |setSli (o lo hi e:IE)
 |setAttr (o:IE) (x:At) (e:IE)
 |aug (i:Nat) (op:Operator) (e:IE)
 |expr (e:IE)
 |ret (e:IE)
 |iff (t:IE) (a b:ISs)
 |whl (t:IE) (b:ISs)
 |for_ (t:Ft) (it:It) (b:ISs)
 |raise (c:Addr) (e:IE)
 |try_ (b:ISs)
 |pass
 |bad
inductive ISs where|nil|cons (s:IS) (r:ISs)
end
noncomputable def om{α:Type}(o:Option α)(k:α->Prop):Prop:=match o with|some a=>k a|none=>False
@[simp] theorem jR{α:Type}(a:α)(k:α->Prop):om (some a) k=k a:=rfl
@[simp] theorem om_none{α:Type}(k:α->Prop):om none k=False:=rfl
theorem kH{α:Type}{o:Option α}{k:α->Prop}{G:Prop}(h:om o k)(f:∀a,o=some a->k a->G):G:=by induction o<;>first|exact f _ rfl h|exact bM h
theorem nn0{α:Type}{x:α}{P:Prop}(h:none=some x):P:=by contradiction
theorem mapS{α β:Type}{o:Option α}{g:α->β}{b:β}{G:Prop}(h:o.map g=some b)(f:∀a,o=some a->g a=b->G):G:=by induction o<;>first|exact f _ rfl (aX h)|exact nn0 h
theorem kY{α β:Type}{o:Option α}{g:α->Option β}{b:β}{G:Prop}(h:o.bind g=some b)(f:∀a,o=some a->g a=some b->G):G:=by induction o<;>first|exact f _ rfl h|exact nn0 h
noncomputable def jX:Option O->Option (List V)|some (.list l)=>some l|_=>none
noncomputable def mX:Option O->Option (List V)|some (.list l)=>some l|some (.ro l)=>some l|_=>none
noncomputable def asSd:Option O->Option (List (Str×V))|some (.sd l)=>some l|_=>none
noncomputable def asNd:Option O->Option (List (Int×V))|some (.nd l)=>some l|_=>none
noncomputable def pN:Option O->Option (Addr×Addr)|some (.inst C d)=>some (C,d)|_=>none
@[simp] theorem jW(l:List V):jX (some (.list l))=some l:=rfl
@[simp] theorem kA(l:List V):mX (some (.list l))=some l:=rfl
@[simp] theorem Jg(l:List V):mX (some (.ro l))=some l:=rfl
@[simp] theorem qG(l:List (Str×V)):asSd (some (.sd l))=some l:=rfl
@[simp] theorem asNd_nd(l:List (Int×V)):asNd (some (.nd l))=some l:=rfl
@[simp] theorem uF(C d:Addr):pN (some (.inst C d))=some (C,d):=rfl
theorem kB{o:Option O}{l:List V}(h:jX o=some l):o=some (.list l):=by
 match o,h with|some (.list _),h=>injection h with qz;subst qz;rfl
theorem nZ{o:Option O}{l:List (Str×V)}(h:asSd o=some l):o=some (.sd l):=by
 match o,h with|some (.sd _),h=>injection h with qz;subst qz;rfl
theorem rH{o:Option O}{l:Addr×Addr}(h:pN o=some l):o=some (.inst l.1 l.2):=by
 match o,h with|some (.inst _ _),h=>injection h with qz;subst qz;rfl
noncomputable def isB(v:V)(k:Bool->Prop):Prop:=match v with|.bool b=>k b|_=>False
noncomputable def isI(v:V)(k:Int->Prop):Prop:=match v with|.int i=>k i|_=>False
@[simp] theorem Eo(b:Bool)(k:Bool->Prop):isB (.bool b) k=k b:=rfl
@[simp] theorem Bt(b:Int)(k:Int->Prop):isI (.int b) k=k b:=rfl
noncomputable def oa{α:Type}(o:Option α)(P:α->Prop):Prop:=match o with|some a=>P a|none=>True
theorem nW{α:Type}{o:Option α}{P:α->Prop}{a:α}(h:oa o P)(e:o=some a):P a:=by subst e;exact h
theorem Fv{α:Type}{o:Option α}{P:α->Prop}(h:∀a,o=some a->P a):oa o P:=by
 induction o with
 |none=>exact trivial |some a=>exact h a rfl
theorem Kf{α β:Type}{o:Option α}{g:α->β}{P:β->Prop}(h:∀a,o=some a->P (g a)):oa (o.map g) P:=by
 induction o with
 |none=>exact trivial |some a=>exact h a rfl
theorem ifD{α:Type}{P:α->Prop}{p:Prop}[Decidable p]{a b:α}(ha:p->P a)(hb:¬p->P b):P (if p then a else b):=by
 by_cases h:p
 ·rw[if_pos h];exact ha h
 ·rw[if_neg h];exact hb h
theorem ifO{α:Type}{P:α->Prop}{p:Prop}[Decidable p]{a b:Option α}(ha:p->oa a P)(hb:¬p->oa b P):oa (if p then a else b) P:=ifD (P:=λo=>oa o P) ha hb
theorem Ha{v:V}{k:Bool->Prop}{G:Prop}(h:isB v k)(f:∀b,v=.bool b->k b->G):G:=by induction v using V.casesOn<;>first|exact f _ rfl h|exact bM h
theorem Sf{v:V}{k:Int->Prop}{G:Prop}(h:isI v k)(f:∀b,v=.int b->k b->G):G:=by induction v using V.casesOn<;>first|exact f _ rfl h|exact bM h
noncomputable abbrev QV:=V->H->Prop
noncomputable abbrev XH:=H->Prop
noncomputable def lim:Nat:=1000000
noncomputable def newW(σ:H)(o:O)(Q:QV):Prop:=∀c,σ c=none->Q (.obj c) (upd σ c o)
noncomputable def newL(σ:H)(l:List V)(Q:QV):Prop:=l.length<=lim/\newW σ (.list l) Q
noncomputable def In64(x:Int):Prop:= -(2^64)<x/\x<2^64
noncomputable def kR(x:Int):Prop:= -(2^128)<x/\x<2^128
noncomputable def rept{α:Type}(n:Nat)(l:List α):List α:=(bZ n l).flatten
noncomputable def isT(v:V)(k:List V->Prop):Prop:=match v with|.tup l=>k l|_=>False
noncomputable def isO(v:V)(k:Addr->Prop):Prop:=match v with|.obj a=>k a|_=>False
@[simp] theorem Xs(l:List V)(k:List V->Prop):isT (.tup l) k=k l:=rfl
@[simp] theorem Zs(a:Addr)(k:Addr->Prop):isO (.obj a) k=k a:=rfl
noncomputable def ii(a b:V)(K:Int->Int->Prop):Prop:=isI a λx=>isI b λy=>K x y
noncomputable def addW(a b:V)(σ:H)(Q:QV):Prop:=match a with
 |.int x=>isI b λy=>Q (.int (x+y)) σ |.tup xs=>isT b λys=>(xs.length+ys.length<=lim)/\Q (.tup (xs++ys)) σ |.obj a=>isO b λb=>om (jX (σ a)) λxs=>om (jX (σ b)) λys=>newL σ (xs++ys) Q |_=>False
noncomputable def mulW(a b:V)(σ:H)(Q:QV):Prop:=match a with
 |.int x=>isI b λy=>(In64 x∨In64 y)/\Q (.int (x*y)) σ |.obj a=>isI b λn=>om (jX (σ a)) λxs=>0<=n/\n<=lim/\newL σ (rept n.toNat xs) Q |_=>False
noncomputable def binW(op:Operator)(a b:V)(σ:H)(Q:QV):Prop:=match op with
 |.Add=>addW a b σ Q |.Sub=>ii a b λx y=>Q (.int (x-y)) σ |.Mult=>mulW a b σ Q |.FloorDiv=>ii a b λx y=>y≠0/\kR y/\Q (.int (x.fdiv y)) σ |.Mod=>ii a b λx y=>y≠0/\Q (.int (x.fmod y)) σ |.Pow=>ii a b λx y=>x=2/\0<=y/\y<=1000/\Q (.int (2^y.toNat)) σ |.LShift=>ii a b λx y=>In64 x/\0<=y/\y<=1000/\Q (.int (x*2^y.toNat)) σ |.RShift=>ii a b λx y=>0<=y/\Q (.int (x.fdiv (2^y.toNat))) σ |.BitAnd=>ii a b λx y=>Q (.int (bL x y)) σ |.BitOr=>ii a b λx y=>Q (.int (fK x y)) σ |.BitXor=>ii a b λx y=>Q (.int (hV x y)) σ |_=>False
section
variable{h:Heap}{v w:Value}{a b:V}{P:Value->Prop}{R:Value->Value->Prop}
@[elab_as_elim] theorem Rep.isI{K:Int->Prop}(r:Rep h v a)(q:Internal.isI a K)(k:∀x t,K x->P (.int x t)):P v:=by cases r<;>first|exact k _ _ q|exact bM q
@[elab_as_elim] theorem Rep.isT{K:List V->Prop}(r:Rep h v a)(q:Internal.isT a K)(k:∀l a items,K l->IsTup h a items->Reps h items.toList l->P (.ref a)):P v:=by cases r<;>first|exact k _ _ _ q (by assumption) (by assumption)|exact bM q
@[elab_as_elim] theorem Rep.isO{K:Addr->Prop}(r:Rep h v a)(q:Internal.isO a K)(k:∀a,K a->P (.ref a)):P v:=by cases r<;>first|exact k _ q|exact bM q
@[elab_as_elim] theorem Rep.ii{K:Int->Int->Prop}(r:Rep h v a)(r':Rep h w b)(q:Internal.ii a b K)(k:∀x t y u,K x y->R (.int x t) (.int y u)):R v w:=
  r.isI (P:=λv=>R v w) q λx t q=>r'.isI (P:=λw=>R _ w) q λy u q=>k x t y u q
end
noncomputable def beqV(a b:V):Option Bool:=match a with
 |.none=>match b with
  |.none=>some true |.int _=>some false |_=>none
 |.int x=>match b with
  |.none=>some false |.int y=>some (x==y) |_=>none
 |.bool x=>match b with
  |.bool y=>some (x==y) |_=>none
 |.str x=>match b with
  |.str y=>some (x==y) |_=>none
 |_=>none
noncomputable def ints?:List V->Option (List Int)
 | []=>some [] |.int i::r=>(ints? r).map (i:: ·) |_=>none
noncomputable def rows?:List V->Option (List (List Int))
 | []=>some [] |.tup l::r=>(ints? l).bind λx=>(rows? r).map (x:: ·) |_=>none
noncomputable def Qc(xs ys:List V):Option Bool:=if xs.length=ys.length then none else some false
noncomputable def tR(xs ys:List V):Option Bool:=match rows? xs with
 |some a=>match rows? ys with
  |some b=>some (decide (a=b)) |none=>Qc xs ys
 |none=>Qc xs ys
noncomputable def pL(xs ys:List V):Option Bool:=match ints? xs with
 |some a=>match ints? ys with
  |some b=>some (decide (a=b)) |none=>tR xs ys
 |none=>tR xs ys
noncomputable def eqW(a b:V)(σ:H)(K:Bool->Prop):Prop:=match a,b with
 |.obj a,.obj b=>om (mX (σ a)) λxs=>om (mX (σ b)) λys=>om (pL xs ys) K |a,b=>om (beqV a b) K
noncomputable def isNone:V->Option Bool
 |.none=>some true |.raw _=>none |_=>some false
noncomputable def mY(a:V):List V->Option Bool
 | []=>some false |b::r=>(beqV b a).bind λx=>(mY a r).map (x|| ·)
noncomputable def inW(a b:V)(σ:H)(K:Bool->Prop):Prop:=match b with
 |.tup l=>om (mY a l) K |.obj d=>match a with
  |.str x=>om (asSd (σ d)) λes=>K (es.lookup x).isSome |.none=>om (jX (σ d)) λl=>om (mY .none l) K |_=>False
 |_=>False
noncomputable def Qn(a b:V)(K:Bool->Prop):Prop:=match b with|.none=>om (isNone a) K|_=>False
noncomputable def cmpW(op:CmpOp)(a b:V)(σ:H)(K:Bool->Prop):Prop:=match op with
 |.Eq=>eqW a b σ K |.NotEq=>eqW a b σ λr=>K !r |.Lt=>ii a b λx y=>K (decide (x<y)) |.LtE=>ii a b λx y=>K (decide (x<=y)) |.Gt=>ii a b λx y=>K (decide (y<x)) |.GtE=>ii a b λx y=>K (decide (y<=x)) |.Is=>Qn a b K |.IsNot=>Qn a b λr=>K !r |.In=>inW a b σ K |.NotIn=>inW a b σ λr=>K !r
noncomputable def idx{α:Type}(l:List α)(k:Int):Option α:=if-(2^62)<=k/\k<2^62 then(seqIndex? k l.length).bind (l[·]?) else none
noncomputable def obW(a:Addr)(k:Int)(σ:H)(Q:QV):Prop:=match σ a with
 |some (.list l)=>l.length<=lim/\om (idx l k) λv=>Q v σ |some (.ro l)=>l.length<=lim/\om (idx l k) λv=>Q v σ |some (.nd es)=>om (es.lookup k) λv=>Q v σ |_=>False
noncomputable def subW(a i:V)(σ:H)(Q:QV):Prop:=match a with
 |.tup l=>isI i λk=>l.length<=lim/\om (idx l k) λv=>Q v σ |.obj a=>match i with
  |.int k=>obW a k σ Q |.str x=>om (asSd (σ a)) λes=>om (es.lookup x) λv=>Q v σ |_=>False
 |_=>False
noncomputable def clip(dflt:Nat)(len:Nat)(v:V):Option Nat:=match v with
 |.none=>some dflt |.int k=>if-(2^62)<=k/\k<2^62 then some (min (if k<0 then(k+len).toNat else k.toNat) len) else none
 |_=>none
noncomputable def cut{α:Type}(l:List α)(lo hi:V):Option (List α):=(clip 0 l.length lo).bind λi=>(clip l.length l.length hi).map λj=>(l.drop i).take (j-i)
noncomputable def sliW(a lo hi:V)(σ:H)(Q:QV):Prop:=match a with
 |.tup l=>isI lo λk=>match hi with
  |.none=>(l.length<=lim/\1<=k/\k<=l.length)/\Q (.tup (l.drop k.toNat)) σ |_=>False
 |.obj a=>om (jX (σ a)) λl=>l.length<=lim/\om (cut l lo hi) λr=>newL σ r Q |_=>False
noncomputable def jV:Addr:=379
noncomputable def oD:V->Bool
 |.raw _=>false |_=>true
noncomputable def sP(a:V)(x:At)(σ:H)(Q:QV):Prop:=isO a λa=>om (pN (σ a)) λp=>p.1=jV/\om (asSd (σ p.2)) λes=>om (es.lookup x.str) λv=>oD v=true/\Q v σ
noncomputable def one(l:List V)(K:V->Prop):Prop:=match l with
 | []=>False |a::r=>match r with| []=>K a|_::_=>False
noncomputable def two(l:List V)(K:V->V->Prop):Prop:=match l with
 | []=>False |a::r=>one r λb=>K a b
noncomputable def lenW(v:V)(σ:H)(Q:QV):Prop:=match v with
 |.obj a=>om (mX (σ a)) λl=>l.length<=lim/\Q (.int l.length) σ |.tup l=>l.length<=lim/\Q (.int l.length) σ |_=>False
noncomputable def isRw(v:V)(k:Value->Prop):Prop:=match v with|.raw a=>k a|_=>False
noncomputable def biW(b:Bi)(args:List V)(σ:H)(Q:QV):Prop:=match b with
 |.len=>one args λv=>lenW v σ Q |.abs=>one args λv=>isI v λx=>Q (.int (if x<0 then-x else x)) σ
 |.max=>two args λv w=>ii v w λx y=>Q (.int (max x y)) σ |.min=>two args λv w=>ii v w λx y=>Q (.int (min x y)) σ |.sum=>one args λv=>isO v λa=>om (jX (σ a)) λl=>om (ints? l) λns=>l.length<=lim/\Q (.int ns.sum) σ |.any=>one args λv=>isO v λa=>om (jX (σ a)) λl=>l.length<=lim/\(∀v∈l,v=.bool false)/\Q (.bool false) σ |.isbool=>two args λv w=>isI v λJ=>isRw w λv=>v=.type "bool"/\Q (.bool false) σ |.list=>one args λv=>isO v λa=>om (jX (σ a)) λl=>newL σ l Q
section
variable{h:Heap}{vs:List Value}{us:List V}{R:List Value->Prop}
@[elab_as_elim] theorem Reps.one{K:V->Prop}(r:Reps h vs us)(q:Internal.one us K)(k:∀v u,Rep h v u->K u->R [v]):R vs:=by
  induction us using List.casesOn with
  |nil=>exact q.elim |cons u us=>induction us using List.casesOn with
   |nil=>exact r.e1 λv a=>k v u a q |cons _ _=>exact bM q
@[elab_as_elim] theorem Reps.two{K:V->V->Prop}(r:Reps h vs us)(q:Internal.two us K)(k:∀v u w x,Rep h v u->Rep h w x->K u x->R [v,w]):R vs:=by
  induction us using List.casesOn with
  |nil=>exact q.elim |cons u us=>exact r.eC λv vs a b=>b.one (R:=λz=>R (v::z)) q λw x b q=>k v u w x a b q
end
noncomputable abbrev mJ:=Addr->List V->H->QV->XH->Prop
noncomputable def ownW(C:mJ)(o:V)(f:Addr)(σ:H)(Q:QV)(X:XH):Prop:=isO o λa=>om (pN (σ a)) λp=>p.1=jV/\om (asSd (σ p.2)) λes=>es.map (·.1)=Za/\C f [.obj a] σ Q X
noncomputable def preM(o:V)(m:Me)(σ:H):Prop:=match m with
 |.call f=>ownW (λJ J J J J=>True) o f σ (λJ J=>True) λJ=>True |_=>isO o λa=>om (jX (σ a)) λJ=>True
noncomputable def vS(C:mJ)(o:V)(m:Me)(args:List V)(σ:H)(Q:QV)(X:XH):Prop:=match m with
 |.append=>isO o λa=>one args λv=>om (jX (σ a)) λl=>l.length+1<=lim/\Q .none (upd σ a (.list (l++ [v]))) |.pop=>isO o λa=>match args with
  | []=>om (jX (σ a)) λl=>l.length<=lim/\om l.getLast? λv=>Q v (upd σ a (.list l.dropLast)) |_::_=>False
 |.extend=>isO o λa=>one args λv=>isO v λb=>a≠b/\om (jX (σ a)) λl=>om (jX (σ b)) λr=>l.length+r.length<=lim/\Q .none (upd σ a (.list (l++r))) |.call f=>args= []/\ownW C o f σ Q X
noncomputable def wO(x:Str):Option (List Str):=
 if(!(decide (x.length<1)||decide (strKind x<strKind " "))&& !(occurrences x " " 0 x.length (x.length+1)).isEmpty&&decide (x.length<=lim))=true then some (partsBetween x (occurrences x " " 0 x.length (x.length+1)) 1) else none
noncomputable def isTx(v:V)(k:Str->Prop):Prop:=match v with|.str x=>k x|_=>False
@[elab_as_elim] theorem Rep.isTx{h:Heap}{v:Value}{a:V}{P:Value->Prop}{K:Str->Prop}(r:Rep h v a)(q:Internal.isTx a K)(k:∀x t,K x->P (.str x t)):P v:=by cases r<;>first|exact k _ _ q|exact bM q
noncomputable def Xe(v:V)(σ:H)(Q:QV):Prop:=isTx v λx=>om (wO x) λws=>newL σ (ws.map V.str) Q
inductive Src where|lst (a:Addr)|fix (vs:List V)
noncomputable def mC(it:Src)(i:Nat)(σ:H):Option (Option V):=match it with
 |.lst a=>(jX (σ a)).bind λl=>if l.length<=lim then some l[i]? else none
 |.fix vs=>some vs[i]?
noncomputable def lZ(it:Src)(σ:H):Nat:=match it with
 |.lst a=>((jX (σ a)).getD []).length |.fix vs=>vs.length
noncomputable abbrev CB:=V->H->List V->(List V->H->Prop)->Prop
noncomputable def cmpN(it:Src)(B:CB)(K:List V->H->Prop):Nat->Nat->List V->H->Prop
 |0,_,_,_=>False |n+1,i,acc,σ=>om (mC it i σ) λ
  |none=>K acc σ |some v=>B v σ acc λacc' σ'=>cmpN it B K n (i+1) acc' σ'
noncomputable def mU(it:Src)(B:CB)(K:List V->H->Prop)(acc:List V)(σ:H):Prop:=cmpN it B K (lZ it σ+1) 0 acc σ
noncomputable def kU(n:Int):List V:=(bD n.toNat).map λ(i:Nat)=>V.int i
noncomputable def srcW(v:V)(σ:H)(K:Src->Prop):Prop:=match v with
 |.tup l=>l.length<=lim/\K (.fix l) |.obj a=>om (jX (σ a)) λJ=>K (.lst a) |_=>False
section
variable(C:mJ)
mutual
noncomputable def wpE:IE->Rho->H->QV->XH->Prop
 |.val v,_,σ,Q,_=>Q v σ |.loc i,ρ,σ,Q,_=>om (get ρ i) λv=>Q v σ |.bin op l r,ρ,σ,Q,X=>wpE l ρ σ (λa σ=>wpE r ρ σ (λb σ=>binW op a b σ Q) X) X |.neg x,ρ,σ,Q,X=>wpE x ρ σ (λa σ=>isI a λi=>Q (.int (-i)) σ) X |.truth x,ρ,σ,Q,X=>wpE x ρ σ (λa σ=>isI a λi=>Q (.bool (decide (i≠0))) σ) X |.not x,ρ,σ,Q,X=>wpE x ρ σ (λa σ=>isB a λb=>Q (.bool !b) σ) X |.and l r,ρ,σ,Q,X=>wpE l ρ σ (λa σ=>isB a λb=>if b=true then wpE r ρ σ Q X else Q (.bool false) σ) X
 |.or l r,ρ,σ,Q,X=>wpE l ρ σ (λa σ=>isB a λb=>if b=true then Q (.bool true) σ else wpE r ρ σ Q X) X
 |.cmp l op r,ρ,σ,Q,X=>wpE l ρ σ (λa σ=>wpE r ρ σ (λb σ=>cmpW op a b σ λc=>Q (.bool c) σ) X) X |.cmp2 l op m op' r,ρ,σ,Q,X=>wpE l ρ σ (λa σ=>wpE m ρ σ (λb σ=>cmpW op a b σ λc=>if c=true then wpE r ρ σ (λd σ=>cmpW op' b d σ λc=>Q (.bool c) σ) X else Q (.bool false) σ) X) X
 |.ite t a b,ρ,σ,Q,X=>wpE t ρ σ (λv σ=>isB v λc=>if c=true then wpE a ρ σ Q X else wpE b ρ σ Q X) X
 |.tup es,ρ,σ,Q,X=>wpEs es ρ σ (λvs σ=>vs.length<=lim/\Q (.tup vs) σ) X |.lst es,ρ,σ,Q,X=>wpEs es ρ σ (λvs σ=>newL σ vs Q) X |.sdct ks es,ρ,σ,Q,X=>wpEs es ρ σ (λvs σ=>(vs.length=ks.length/\vs.length<=15/\ks.Nodup)/\newW σ (.sd (ks.zip vs)) Q) X |.ndct ks es,ρ,σ,Q,X=>wpEs es ρ σ (λvs σ=>(vs.length=ks.length/\vs.length<=15/\ks.Nodup)/\newW σ (.nd (ks.zip vs)) Q) X |.sub e i,ρ,σ,Q,X=>wpE e ρ σ (λa σ=>wpE i ρ σ (λb σ=>subW a b σ Q) X) X |.sli e lo hi,ρ,σ,Q,X=>wpE e ρ σ (λa σ=>wpE lo ρ σ (λl σ=>wpE hi ρ σ (λh σ=>sliW a l h σ Q) X) X) X |.attr e x,ρ,σ,Q,X=>wpE e ρ σ (λa σ=>sP a x σ Q) X |.prop e f,ρ,σ,Q,X=>wpE e ρ σ (λa σ=>f=363/\ownW C a f σ (λv σ=>oD v=true/\Q v σ) λJ=>False) X |.call f args,ρ,σ,Q,X=>wpE f ρ σ (λg σ=>wpEs args ρ σ (λvs σ=>match g with|.raw (.ref a)=>C a vs σ Q X|_=>False) X) X
 |.bi b args,ρ,σ,Q,X=>wpEs args ρ σ (λvs σ=>biW b vs σ Q) X |.meth o m args,ρ,σ,Q,X=>wpE o ρ σ (λov σ=>preM ov m σ/\wpEs args ρ σ (λvs σ=>vS C ov m vs σ Q X) X) X |.split o,ρ,σ,Q,X=>wpE o ρ σ (λv σ=>Xe v σ Q) X |.comp elt i it cond,ρ,σ,Q,X=>get ρ i=none/\wpI it ρ σ (λsrc σ=>mU src (λv σ acc k=>wpE cond (set ρ i v) σ (λc σ=>isB c λb=>
    if b=true then wpE elt (set ρ i v) σ (λr σ=>acc.length+1<=lim/\k (acc++ [r]) σ) (λJ=>False) else k acc σ) λJ=>False) (λacc σ=>newL σ acc Q) [] σ) X
 |.comp2 elt i it j it2,ρ,σ,Q,X=>(get ρ i=none/\get ρ j=none/\i≠j)/\wpI it ρ σ (λsrc σ=>mU src (λv σ acc k=>wpI it2 (set ρ i v) σ (λsrc2 σ=>
    mU src2 (λu σ acc k2=>wpE elt (set (set ρ i v) j u) σ (λr σ=>acc.length+1<=lim/\k2 (acc++ [r]) σ) λJ=>False) k acc σ) λJ=>False) (λacc σ=>newL σ acc Q) [] σ) X
 |.bad,_,_,_,_=>False
noncomputable def wpEs:IEs->Rho->H->(List V->H->Prop)->XH->Prop
 |.nil,_,σ,Q,_=>Q [] σ |.cons e es,ρ,σ,Q,X=>wpE e ρ σ (λv σ=>wpEs es ρ σ (λvs σ=>Q (v::vs) σ) X) X
noncomputable def wpI:It->Rho->H->(Src->H->Prop)->XH->Prop
 |.rng e,ρ,σ,Q,X=>wpE e ρ σ (λv σ=>isI v λn=>(0<=n/\n<=1000)/\Q (.fix (kU n)) σ) X |.of e,ρ,σ,Q,X=>wpE e ρ σ (λv σ=>srcW v σ λs=>Q s σ) X
end
inductive Fl where|next|brk|cont|ret (v:V)
noncomputable abbrev QS:=Fl->Rho->H->Prop
noncomputable abbrev XS:=Rho->H->Prop
noncomputable def pY:List Nat->List V->Rho->Option Rho
 | [],[],ρ=>some ρ |i::is,v::vs,ρ=>pY is vs (set ρ i v) |_,_,_=>none
noncomputable def pM:Ft->V->Rho->Option Rho
 |.one i,v,ρ=>some (set ρ i v) |.many is,.tup vs,ρ=>pY is vs ρ |.many _,_,_=>none
noncomputable def nN{α:Type}[DecidableEq α](es:List (α×V))(x:α)(v:V):List (α×V):=
 if(es.lookup x).isSome=true then es.map λe=>if e.1=x then(e.1,v) else e else es++ [(x,v)]
noncomputable def pX(a i v:V)(σ:H)(K:H->Prop):Prop:=isO a λa=>match i with
 |.int k=>om (jX (σ a)) λl=>(l.length<=lim/\0<=k/\k<l.length)/\K (upd σ a (.list (l.set k.toNat v))) |.str x=>om (asSd (σ a)) λes=>(es.length<=1000/\(es.lookup x).isSome=true)/\K (upd σ a (.sd (es.map λe=>if e.1=x then(e.1,v) else e)))
 |_=>False
noncomputable def rZ{α:Type}(l:List α)(lo hi:V)(m:List α):Option (List α):=
 (clip 0 l.length lo).bind λi=>(clip l.length l.length hi).map λj=>l.take i++m++l.drop (max i j)
noncomputable def mM(a lo hi v:V)(σ:H)(K:H->Prop):Prop:=isO a λa=>isO v λb=>a≠b/\om (jX (σ a)) λl=>om (jX (σ b)) λm=>(l.length<=lim/\m.length<=lim)/\om (rZ l lo hi m) λr=>r.length<=lim/\K (upd σ a (.list r))
noncomputable def oC(a:V)(x:At)(v:V)(σ:H)(K:H->Prop):Prop:=isO a λa=>om (pN (σ a)) λp=>p.1=jV/\om (asSd (σ p.2)) λes=>es.length<=100/\
 K (upd σ p.2 (.sd (nN es x.str v)))
noncomputable def augW(op:Operator)(a b:V)(K:V->Prop):Prop:=match op with
 |.Add=>ii a b λx y=>K (.int (x+y)) |.BitAnd=>ii a b λx y=>K (.int (bL x y)) |.RShift=>ii a b λx y=>0<=y/\K (.int (x.fdiv (2^y.toNat))) |_=>False
noncomputable def mW:List Tg->List V->Rho->H->(Rho->H->Prop)->XS->Prop
 | [],[],ρ,σ,K,_=>K ρ σ |.nm i::ts,v::vs,ρ,σ,K,X=>mW ts vs (set ρ i v) σ K X |.sub o i::ts,v::vs,ρ,σ,K,X=>wpE C o ρ σ (λa σ=>wpE C i ρ σ (λb σ=>pX a b v σ λσ=>mW ts vs ρ σ K X) (X ρ)) (X ρ) |_,_,_,_,_,_=>False
noncomputable def whlN(T:Rho->H->(Bool->H->Prop)->Prop)(B:Rho->H->QS->Prop)(Q:QS):Nat->Rho->H->Prop
 |0,_,_=>False |n+1,ρ,σ=>T ρ σ λb σ=>if b=true then B ρ σ (λf ρ σ=>match f with
    |.next=>whlN T B Q n ρ σ |.cont=>whlN T B Q n ρ σ |.brk=>Q .next ρ σ |.ret v=>Q (.ret v) ρ σ) else Q .next ρ σ
noncomputable def forN(it:Src)(t:Ft)(B:Rho->H->QS->Prop)(Q:QS):Nat->Nat->Rho->H->Prop
 |0,_,_,_=>False |n+1,i,ρ,σ=>om (mC it i σ) λ
  |none=>Q .next ρ σ |some v=>om (pM t v ρ) λρ=>B ρ σ λf ρ σ=>match f with
   |.next=>forN it t B Q n (i+1) ρ σ |.cont=>forN it t B Q n (i+1) ρ σ |.brk=>Q .next ρ σ |.ret v=>Q (.ret v) ρ σ
mutual
noncomputable def wpS:IS->Rho->H->QS->XS->Prop
 |.assign i e,ρ,σ,Q,X=>wpE C e ρ σ (λv σ=>Q .next (set ρ i v) σ) (X ρ) |.assignT ts e,ρ,σ,Q,X=>wpE C e ρ σ (λv σ=>isT v λvs=>vs.length=ts.length/\mW C ts vs ρ σ (λρ σ=>Q .next ρ σ) X) (X ρ) |.setSub o i e,ρ,σ,Q,X=>wpE C e ρ σ (λv σ=>wpE C o ρ σ (λa σ=>wpE C i ρ σ (λb σ=>pX a b v σ λσ=>Q .next ρ σ) (X ρ)) (X ρ)) (X ρ) |.setSli o lo hi e,ρ,σ,Q,X=>wpE C e ρ σ (λv σ=>wpE C o ρ σ (λa σ=>wpE C lo ρ σ (λl σ=>wpE C hi ρ σ (λh σ=>mM a l h v σ λσ=>Q .next ρ σ) (X ρ)) (X ρ)) (X ρ)) (X ρ) |.setAttr o x e,ρ,σ,Q,X=>wpE C e ρ σ (λv σ=>wpE C o ρ σ (λa σ=>oC a x v σ λσ=>Q .next ρ σ) (X ρ)) (X ρ) |.aug i op e,ρ,σ,Q,X=>om (get ρ i) λa=>wpE C e ρ σ (λb σ=>augW op a b λv=>Q .next (set ρ i v) σ) (X ρ) |.expr e,ρ,σ,Q,X=>wpE C e ρ σ (λJ σ=>Q .next ρ σ) (X ρ) |.ret e,ρ,σ,Q,X=>wpE C e ρ σ (λv σ=>Q (.ret v) ρ σ) (X ρ) |.iff t a b,ρ,σ,Q,X=>wpE C t ρ σ (λv σ=>isB v λc=>if c=true then wpSs a ρ σ Q X else wpSs b ρ σ Q X) (X ρ)
 |.whl t b,ρ,σ,Q,X=>∃n,whlN (λρ σ k=>wpE C t ρ σ (λv σ=>isB v λc=>k c σ) λJ=>False) (λρ σ q=>wpSs b ρ σ q λJ J=>False) Q n ρ σ |.for_ t it b,ρ,σ,Q,X=>wpI C it ρ σ (λsrc σ=>forN src t (λρ σ q=>wpSs b ρ σ q λJ J=>False) Q (lZ src σ+1) 0 ρ σ) (X ρ) |.raise c e,ρ,σ,_,X=>c=jZ/\wpE C e ρ σ (λv σ=>match v with|.str _=>X ρ σ|_=>False) (X ρ)
 |.try_ b,ρ,σ,Q,_=>wpSs b ρ σ Q (λρ σ=>Q (.ret .none) ρ σ) |.pass,ρ,σ,Q,_=>Q .next ρ σ |.bad,_,_,_,_=>False
noncomputable def wpSs:ISs->Rho->H->QS->XS->Prop
 |.nil,ρ,σ,Q,_=>Q .next ρ σ |.cons s r,ρ,σ,Q,X=>wpS s ρ σ (λf ρ σ=>match f with|.next=>wpSs r ρ σ Q X|f=>Q f ρ σ) X
end
end
end
theorem Mr(h:Heap)(o:Obj):h.objs.size<=(h.push o).objs.size:=by rw[Heap.size_push];exact dA _
theorem FunFrames.on{h h' base:Heap}:∀{l:List Env},h.FunFrames base l->(∀L,L∈l.filterMap (·.frame)->∀o,h.get? L=some o->∃o',h'.get? L=some o'/\o'.data=o.data)->h'.FunFrames base l
 | [],_,_=>trivial |env::rest,⟨hk,⟨L,o,hf,hn,ho,hd⟩,hr⟩,k=>by
   have hm:L∈(env::rest).filterMap (·.frame):=by rw[cA,hf];exact aE
   refine e12 (k L hm o ho) λo' ho' hd'=>?_
   refine⟨hk,⟨L,o',hf,hn,ho',λvs=>hd'▸hd vs⟩,FunFrames.on hr λL' hL' o e=>k L' ?_ o e⟩
   rw[cA,hf];exact aH _ hL'
theorem FunFrames.lt{h base:Heap}{l:List Env}(hl:h.FunFrames base l){L:Addr}(hm:L∈l.filterMap (·.frame)):L<h.objs.size:=by
 obtain⟨z1z,o,ho,z2z⟩:=hl.mem hm;exact cG ho
theorem OK.ofList{cx:Cx}{h:Heap}{a:Addr}{items:Array Value}{n:Nat}{l:List V}(e:h.get? a=some {cls:=.type "list",data:=.seq items n})(r:Reps h items.toList l):OK cx h a (.list l):=⟨items,n,e,r⟩
theorem OK.ofSd{cx:Cx}{h:Heap}{a:Addr}{kvs:List (Str×Value)}{es:List (Str×V)}(d:h.DictOf (strKind cx.prog cx.w) a kvs)(k:kvs.map (·.1)=es.map (·.1))(r:Reps h (kvs.map (·.2)) (es.map (·.2))):OK cx h a (.sd es):=⟨kvs,d,k,r⟩
theorem StB.grow{cx:Cx}{fs:List Env}{σ:H}{s s':Shared}(S:StB cx fs σ s)(k:∀b o,s.heap.get? b=some o->s'.heap.get? b=some o)(hg:s'.gens=s.gens)(ho:s'.os=s.os):StB cx fs σ s' where
 keep b o e:=k b o (S.keep b o e)
 gens:=hg.trans S.gens
 os:=ho.trans S.os
 own a o e:=(S.own a o e).mono (λob h=>k a ob h) λJ J t=>t.keeps k
 new:=S.new
 frames:=FunFrames.on S.frames λL J o e=>⟨o,k L o e,rfl⟩
 fsn:=S.fsn
theorem Loc.grow{cx:Cx}{fm:Fm}{ρ:Rho}{σ:H}{h h':Heap}(L:Loc cx fm ρ σ h)(k:∀b o,h.get? b=some o->h'.get? b=some o):Loc cx fm ρ σ h' where
 env:=L.env
 ns:=let⟨m,n,r⟩:=L.ns;⟨m,n.keeps k,λi x v a b c=>let⟨val,d,e⟩:=r i x v a b c;⟨val,d,e.mono λJ J t=>t.keeps k⟩⟩
 nsn:=L.nsn
 cells x c e:=let⟨⟨v,a⟩,b⟩:=L.cells x c e;⟨⟨v,a.keeps k⟩,b⟩
 cellv i x v a b d:=let⟨c,val,p,q,r⟩:=L.cellv i x v a b d;⟨c,val,p,q.keeps k,r.mono λJ J t=>t.keeps k⟩
theorem St.grow{cx:Cx}{fm:Fm}{ρ:Rho}{σ:H}{s s':Shared}(S:St cx fm ρ σ s)(k:∀b o,s.heap.get? b=some o->s'.heap.get? b=some o)(hg:s'.gens=s.gens)(ho:s'.os=s.os):St cx fm ρ σ s':=
 ⟨S.toStB.grow k hg ho,S.loc.grow k⟩
theorem St.toks{cx:Cx}{fm:Fm}{ρ:Rho}{σ:H}{s:Shared}(S:St cx fm ρ σ s)(t:Nat):St cx fm ρ σ {s with toks:=t}:=S.grow (λJ J e=>e) rfl rfl
theorem StB.claim{cx:Cx}{fs:List Env}{σ:H}{s:Shared}(S:StB cx fs σ s){c:Addr}{o:O}(x:OK cx s.heap c o)(hn:cx.h₀.get? c=none/\sysModules<c)(hf:c∉fs.filterMap (·.frame)):StB cx fs (upd σ c o) s where
 keep:=S.keep
 gens:=S.gens
 os:=S.os
 own a o' e:=by
  by_cases h:a=c
  ·subst h;rw[jP] at e;injection e with qz;subst qz;exact x
  ·rw[jQ _ _ h] at e;exact S.own a o' e
 new a e:=by
  by_cases h:a=c
  ·subst h;exact hn
  ·rw[jQ _ _ h] at e;exact S.new a e
 frames:=S.frames
 fsn L hL:=by rw[jQ _ _ λ(e:L=c)=>hf (e▸hL)];exact S.fsn L hL
theorem Loc.claim{cx:Cx}{fm:Fm}{ρ:Rho}{σ:H}{h:Heap}(L:Loc cx fm ρ σ h){c:Addr}{o:O}(h1:c≠fm.env.locals)(h2:∀x,fm.env.cells.lookup x≠some c):Loc cx fm ρ (upd σ c o) h where
 env:=L.env
 ns:=L.ns
 nsn:=⟨L.nsn.1,by rw[jQ _ _ (Ne.symm h1)];exact L.nsn.2⟩
 cells x d e:=let⟨a,b,q,r⟩:=L.cells x d e;⟨a,b,by rw[jQ _ _ λ(z:d=c)=>h2 x (by rw[e,z])];exact q,r⟩
 cellv:=L.cellv
theorem Loc.apartOf{cx:Cx}{fm:Fm}{ρ:Rho}{σ:H}{h:Heap}(L:Loc cx fm ρ σ h){c:Addr}(hc:h.objs.size<=c):c≠fm.env.locals/\∀x,fm.env.cells.lookup x≠some c:=by
 constructor
 ·refine e12 L.ns λm n z3z=>?_
  exact λe=>eD _ (eH (e▸n.lt) hc)
 ·intro x e
  refine e02 (L.cells x c e) λz4z z5z=>?_;refine e11 z4z λv a=>?_
  exact eD _ (eH a.lt hc)
section
variable{cx:Cx}{fm:Fm}{ρ:Rho}{σ:H}{s s':Shared}{α β:Type}{R:Heap->α->β->Prop}{Q:β->H->Prop}{a:α}{b:β}
theorem jT(S:St cx fm ρ σ s)(hh:s'.heap=s.heap)(hg:s'.gens=s.gens)(ho:s'.os=s.os)(q:Q b σ)(r:R s.heap a b):Post cx fm ρ σ s R Q a s':=
 ⟨b,σ,q,by rw[hh];exact r,S.grow (λJ J e=>by rw[hh];exact e) hg ho,by rw[hh];exact .refl ..⟩
theorem nC(S:St cx fm ρ σ s)(k:∀b o,s.heap.get? b=some o->s'.heap.get? b=some o)(hg:s'.gens=s.gens)(ho:s'.os=s.os)(q:Q b σ)(r:R s'.heap a b):Post cx fm ρ σ s R Q a s':=
 ⟨b,σ,q,r,S.grow k hg ho,.grow k (λJ e=>.inl e)⟩
end
theorem StB.fresh_h₀{cx:Cx}{fs:List Env}{σ:H}{s:Shared}(S:StB cx fs σ s){c:Addr}(hc:s.heap.objs.size<=c):cx.h₀.get? c=none/\sysModules<c:=by
 refine⟨?_,by
  refine e11 cx.live λo e=>?_
  exact eH (Nat.lt_trans (show sysModules<mainGlobals by decide) (cG (S.keep _ o e))) hc⟩
 induction q:cx.h₀.get? c with
 |none=>rfl |some o=>exact absurd (cG (S.keep c o q)) (gN.mpr hc)
theorem StB.new_get{cx:Cx}{fs:List Env}{σ:H}{s:Shared}(S:StB cx fs σ s){c:Addr}(hc:nJ (σ c)=true):cx.h₀.get? c=none:=(S.new c hc).1
theorem qM{cx:Cx}{fm:Fm}{ρ:Rho}{σ:H}{s:Shared}{Q:QV}{o:Obj}{oo:O}{t:Nat}(S:St cx fm ρ σ s)
 (x:OK cx (s.heap.push o) s.heap.objs.size oo)(q:newW σ oo Q):Post cx fm ρ σ s Rep Q (.ref s.heap.objs.size) {s with heap:=s.heap.push o,toks:=t}:=by
 have k:∀b ob,s.heap.get? b=some ob->(s.heap.push o).get? b=some ob:=λb ob e=>aN _ e
 have S':St cx fm ρ σ {s with heap:=s.heap.push o,toks:=t}:=S.grow k rfl rfl
 have hf:σ s.heap.objs.size=none:=S.toStB.free (aR _);refine e02 (S.loc.apartOf (aR _)) λa1 a2=>?_
 refine⟨_,_,q _ hf,.obj _,⟨S'.toStB.claim x (S.toStB.fresh_h₀ (aR _)) (λhm=>eD _ (FunFrames.lt S.frames hm)),S'.loc.claim a1 a2⟩,.grow k (λb e=>?_)⟩
 by_cases h:b=s.heap.objs.size
 ·exact .inr (bW (cZ h.symm))
 ·rw[jQ _ _ h] at e;exact .inl e
theorem pP{cx:Cx}{h:Heap}{items:Array Value}{l:List V}(r:Reps h items.toList l):OK cx (h.push {cls:=.type "list",data:=.seq items}) h.objs.size (.list l):=
 ⟨items,0,cO _ rfl,r.mono λJ J t=>t.push _⟩
theorem OK.live{cx:Cx}{h:Heap}{a:Addr}{o:O}(x:OK cx h a o):h.get? a≠none:=by
 induction o with
 |list l=>refine e22 x λz6z z7z e z8z=>?_;rw[e];exact λh=>by injection h
 |sd es=>refine e12 x λz9z z10z z11z=>?_;refine e32 z10z λz12z z13z z14z e z15z=>?_;rw[e];exact λh=>by injection h
 |nd es=>refine e12 x λz16z z17z z18z=>?_;refine e32 z17z λz19z z20z z21z e z22z=>?_;rw[e];exact λh=>by injection h
 |inst C d=>rw[show h.get? a=_ from x];exact λh=>by injection h
 |ro l=>refine e22 x λz23z z24z e z25z=>?_;rw[e];exact λh=>by injection h
theorem StB.listR{cx:Cx}{fs:List Env}{σ:H}{s:Shared}(S:StB cx fs σ s){a:Addr}{l:List V}(h:mX (σ a)=some l):∃items n,s.heap.get? a=some {cls:=.type "list",data:=.seq items n}/\Reps s.heap items.toList l:=by
 induction q:σ a with
 |none=>rw[q] at h;injection h
 |some o=>
  rw[q] at h;have:=S.own a o q
  induction o with
  |list l'=>injection h with qz;subst qz;exact this
  |ro l'=>injection h with qz;subst qz;exact this
  |sd es=>injection h |nd es=>injection h |inst C d=>injection h
theorem StB.turn_tk{cx:Cx}{fs:List Env}{σ:H}{s:Shared}{h':Heap}{a:Addr}(S:StB cx fs σ s)(ha:σ a≠none)(hs:dJ a s.heap h'):Tk s.heap h':=λb items t=>by
 have ne:b≠a:=λe=>by
  subst e
  induction q:σ b with
  |none=>exact ha q |some o'=>exact(S.own b o' q).noTup t
 refine e12 t λob e r=>?_
 exact⟨ob,(hs.2 b ne).trans e,r⟩
theorem StB.turn{cx:Cx}{fs:List Env}{σ:H}{s s':Shared}{a:Addr}{o:O}(S:StB cx fs σ s)(hm:nJ (σ a)=true)(hs:dJ a s.heap s'.heap)(x:OK cx s'.heap a o)(hg:s'.gens=s.gens)(ho:s'.os=s.os):
 StB cx fs (upd σ a o) s':=by
 have ha:=nJ.ne hm;have tk:=S.turn_tk ha hs
 refine⟨λb ob e=>?_,hg.trans S.gens,ho.trans S.os,λb o' e=>?_,λb e=>?_,FunFrames.on S.frames λL hL ob e=>⟨ob,(hs.2 L λh=>ha (h▸S.fsn L hL)).trans e,rfl⟩,
  λL hL=>by rw[jQ _ _ λ(h:L=a)=>ha (h▸S.fsn L hL)];exact S.fsn L hL⟩
 ·refine(hs.2 b λz=>?_).trans (S.keep b ob e)
  rw[z,S.new_get hm] at e;injection e
 ·by_cases h:b=a
  ·subst h;rw[jP] at e;injection e with qz;subst qz;exact x
  ·rw[jQ _ _ h] at e
   exact(S.own b o' e).mono (λob q=>(hs.2 b h).trans q) tk
 ·by_cases h:b=a
  ·subst h;exact S.new b hm
  ·rw[jQ _ _ h] at e;exact S.new b e
theorem St.turn{cx:Cx}{fm:Fm}{ρ:Rho}{σ:H}{s s':Shared}{a:Addr}{o:O}(S:St cx fm ρ σ s)(hm:nJ (σ a)=true)(hs:dJ a s.heap s'.heap)(x:OK cx s'.heap a o)(hg:s'.gens=s.gens)(ho:s'.os=s.os):
 St cx fm ρ (upd σ a o) s'/\StpB fm.fs σ (upd σ a o) s.heap s'.heap:=by
 have ha:=nJ.ne hm;have B:=S.toStB.turn hm hs x hg ho
 have st:StpB fm.fs σ (upd σ a o) s.heap s'.heap:=⟨λb ob e hσ J=>.refl ((hs.2 b λh=>ha (h▸hσ)).trans e),λb e=>by
  by_cases h:b=a
  ·exact .inl (h▸ha)
  ·rw[jQ _ _ h] at e;exact .inl e,λb e=>by
  by_cases h:b=a
  ·subst h
   exact OK.live x
  ·rw[hs.2 b h];exact e⟩
 exact⟨⟨B,S.loc.kept st (S.toStB.turn_tk ha hs)⟩,st⟩
theorem nA{cx:Cx}{fm:Fm}{ρ:Rho}{σ:H}{s s':Shared}{α β:Type}{R:Heap->α->β->Prop}{Q:β->H->Prop}{x:α}{y:β}{a:Addr}{o:O}
 (S:St cx fm ρ σ s)(hm:nJ (σ a)=true)(hs:dJ a s.heap s'.heap)(k:Tk s.heap s'.heap->OK cx s'.heap a o)(hg:s'.gens=s.gens)(ho:s'.os=s.os)(q:Q y (upd σ a o))(r:Tk s.heap s'.heap->R s'.heap x y):Post cx fm ρ σ s R Q x s':=by
 have tk:=S.toStB.turn_tk (nJ.ne hm) hs;refine e02 (S.turn hm hs (k tk) hg ho) λS' st=>?_
 exact⟨y,_,q,r tk,S',st.stp⟩
theorem kZ{n:Nat}(h:n<=lim):n<=sizeLine:=by rw[iU];unfold lim at h;exact nT h rfl
theorem Sh{n:Nat}(h:n<=lim):(n:Int)<2^63:=by unfold lim at h;lia
theorem log2_lt{n k:Nat}(h:n<2^k)(hk:0<k):n.log2<k:=by
 by_cases h0:n=0
 ·subst h0;exact hk
 ·exact(Nat.log2_lt h0).mpr h
set_option tactic.hygienic true in
theorem Vf{x:Int}{k:Nat}(h1: -(2^k:Int)<x)(h2:x<2^k):gG x<=k:=by
 unfold gG;split
 ·exact aP _
 ·rename_i h0
  have hx:x.natAbs≠0:=by simp at h0;exact Int.natAbs_ne_zero.mpr h0
  have:x.natAbs<2^k:=by
   have e:((2^k:Nat):Int)=2^k:=by push_cast;rfl
   lia
  have:=(Nat.log2_lt hx).mpr this;exact this
theorem In64.bits{x:Int}(h:In64 x):gG x<=64:=Vf h.1 h.2
theorem Bk(items:Array Value)(n:Nat):(List.foldl (λx1 x2=>x1++x2) #[] (bZ (if items.isEmpty=true then 0 else n) items)).toList=rept n items.toList:=by
 have h1:∀(l:List (Array Value)) (a:Array Value),(List.foldl (λx1 x2=>x1++x2) a l).toList=a.toList++(l.map (·.toList)).flatten:=by
  intro l
  induction l with
  |nil=>intro a;simp
  |cons x r ih=>intro a;rw[List.foldl_cons,ih];simp
 rw[h1];unfold rept;by_cases he:items.isEmpty=true
 ·rw[if_pos he]
  have:items.toList= []:=by simpa using he
  simp[this]
 ·rw[if_neg he];simp
theorem Reps.rept{h:Heap}{vs:List Value}{us:List V}(r:Reps h vs us):∀n:Nat,Reps h (rept n vs) (rept n us)
 |0=>.nil |n+1=>by
  unfold Internal.rept;rw[dY,dY,fO,fO];exact r.append (Reps.rept r n)
theorem Xb{α:Type}(n:Nat)(l:List α):(rept n l).length=n*l.length:=by
 unfold rept;simp
section
variable{cx:Cx}{fm:Fm}{ρ:Rho}{σ:H}{s:Shared}{A:Around}{E:Value->Shared->Prop}{Q:QV}
theorem add_ok{va vb:Value}{a b:V}(S:St cx fm ρ σ s)(ra:Rep s.heap va a)(rb:Rep s.heap vb b)(q:addW a b σ Q):
 wpAny (model cx.prog cx.w) A (binaryOp .Add va vb) (Post cx fm ρ σ s Rep Q) E s:=by
 induction a using V.casesOn with
 |int x=>exact ra.eI λt=>rb.isI q λy u q=>PyProof.Rows.add_int (jT S rfl rfl rfl q (.int _ _)) |tup l=>
  refine ra.eT λa xs ta ra=>rb.isT q λl' b ys q tb rb=>?_
  refine e02 q λhl q=>?_
  have s1:xs.size+ys.size<=lim:=by rw[←ra.length,←rb.length] at hl;exact hl
  obtain⟨z1z,ho,hc,n,hd⟩:=id ta;obtain⟨cls,dd,data,sl⟩:=z1z
  obtain⟨z2z,ho2,hc2,n2,hd2⟩:=id tb;obtain⟨cls2,dd2,data2,sl2⟩:=z2z
  subst hc;subst hd;subst hc2;subst hd2
  by_cases hv:xs.isEmpty=true
  ·have e:xs.toList= []:=by simpa using hv
   rw[e] at ra;have el:l= []:=iV ra.length.symm;subst el
   exact concat_meets ⟨_,ho,rfl⟩ ⟨_,ho2,rfl⟩ noFill_tuple_add seq_tuple_add gV gQ (gK _ _)
    (tuple_addW0 a b xs ys n n2 dd dd2 sl sl2 hv) ⟨ho,ho2,jT S rfl rfl rfl q (.tup tb rb)⟩
  ·by_cases hw:ys.isEmpty=true
   ·have e:ys.toList= []:=by simpa using hw
    rw[e] at rb;have el:l'= []:=iV rb.length.symm;subst el
    exact concat_meets ⟨_,ho,rfl⟩ ⟨_,ho2,rfl⟩ noFill_tuple_add seq_tuple_add gV gQ (gK _ _)
     (tuple_addW1 a b xs ys n n2 dd dd2 sl sl2 hv hw) ⟨ho,ho2,jT S rfl rfl rfl q (by rw[bY];exact .tup ta ra)⟩
   ·refine concat_meets ⟨_,ho,rfl⟩ ⟨_,ho2,rfl⟩ noFill_tuple_add seq_tuple_add gV gQ (gK _ _)
     (tuple_addW2 a b xs ys n n2 dd dd2 sl sl2 hv hw (kZ s1)) ⟨ho,ho2,nC S (λb o e=>aN _ e) rfl rfl q (.tup (IsTup.new _ _) ?_)⟩
    rw[gH];exact(ra.append rb).mono λJ J t=>t.push _
 |obj a=>
  refine ra.eO (rb.isO q λb q=>?_)
  refine kH q λxs hx q=>?_
  refine kH q λys hy q0z=>e02 q0z λhl q=>?_
  refine e22 (S.own a _ (kB hx)) λia na ea ra=>?_
  refine e22 (S.own b _ (kB hy)) λib nb eb rb=>?_
  have s1:ia.size+ib.size<=lim:=by rw[aD,←ra.length,←rb.length] at hl;exact hl
  refine concat_meets ⟨_,ea,rfl⟩ ⟨_,eb,rfl⟩ noFill_list_add seq_list_add PySem.F.slot_list_add PySem.F.entry_list_add (PySem.F.args_list_add_2 _ _)
   (list_addW a b ia ib na nb none none #[] #[] (kZ s1)) ⟨ea,eb,qM S (pP ?_) q⟩
  rw[gH];exact ra.append rb
 |_=>exact bM q
theorem My{va vb:Value}{a b:V}(S:St cx fm ρ σ s)(ra:Rep s.heap va a)(rb:Rep s.heap vb b)(q:mulW a b σ Q):
 wpAny (model cx.prog cx.w) A (binaryOp .Mult va vb) (Post cx fm ρ σ s Rep Q) E s:=by
 induction a using V.casesOn with
 |int x=>exact ra.eI λt=>rb.isI q λy u q=>PyProof.Rows.mul_int (jT S rfl rfl rfl q.2 (.int _ _)) (q.1.elim (λh=>.of_left h.bits) λh=>.of_right h.bits) |obj a=>
  refine ra.eO (rb.isI q λx u q=>?_)
  refine kH q λxs hx q0z=>e04 q0z λh0 hn hl q=>?_
  refine e22 (S.own a _ (kB hx)) λia na ea ra=>?_
  rw[Xb,←ra.length,gI] at hl;have hl':ia.size*x.toNat<=lim:=by rw[Nat.mul_comm];exact hl
  refine wpAny_binaryOp_repeat_ref (T:="list") (U:="int") (by decide) ⟨_,ea,rfl⟩ (λs'=>typeIs_int s' x u) noFill_list_mul F.fills_int_mul F.slot_int_rmul repeat_list F.slot_int_index.lookup
   (call_meets F.slot_int_rmul (typeIs_int s x u) F.entry_int_rmul (F.args_int_rmul_2 _ _) (int___rmul___int_list x u a ia na)
     ⟨ea,rfl,⟨_,ea,rfl⟩,call_meets F.slot_list_mul ⟨_,ea,rfl⟩ F.entry_list_mul (F.args_list_mul_2 _ _)
       (AutoListH.list___mul___list_int_3 a ia na x u ?_ ?_ ?_) ⟨ea,qM S (pP ?_) q⟩⟩)
  ·unfold lim at hn;simp[Builtin.List.listFitsIndex];lia
  ·unfold lim at hl';lia
  ·unfold lim at hl';simp[eY,sizeLine];exact nT hl' rfl
  ·rw[Bk];exact ra.rept _
 |_=>exact bM q
theorem bin_ok{op:Operator}{va vb:Value}{a b:V}(S:St cx fm ρ σ s)(ra:Rep s.heap va a)(rb:Rep s.heap vb b)(q:binW op a b σ Q):
 wpAny (model cx.prog cx.w) A (binaryOp op va vb) (Post cx fm ρ σ s Rep Q) E s:=by
 induction op with
 |Add=>exact add_ok S ra rb q |Mult=>exact My S ra rb q |Sub=>exact ra.ii rb q λJ J J J q=>PyProof.Rows.sub_int' (jT S rfl rfl rfl q (.int _ _)) |FloorDiv=>exact ra.ii rb q λJ J J J q=>PyProof.Rows.floordiv_int q.1 (jT S rfl rfl rfl q.2.2 (.int _ _)) (.inl (PyProof.noPylong_of_log2 (Nat.lt_trans (log2_lt (k:=128) (by have:=q.2.1.1;have:=q.2.1.2;lia) (by decide)) (by decide))))
 |Mod=>exact ra.ii rb q λJ J J J q=>PyProof.Rows.mod_int' q.1 (jT S rfl rfl rfl q.2 (.int _ _)) |Pow=>
  refine ra.ii rb q λx J J J q=>?_
  refine e04 q λz3z h0 h1 q2=>?_;obtain rfl:=z3z
  refine PyProof.Rows.pow_int h0 ?_ (jT S rfl rfl rfl q2 (.int _ _));have:gG 2=2:=by decide
  rw[this];lia
 |LShift=>exact ra.ii rb q λJ J J J q=>PyProof.Rows.lshift_int q.2.1 (by have:=q.1.bits;have:=q.2.2.1;lia) (jT S rfl rfl rfl q.2.2.2 (.int _ _))
 |RShift=>exact ra.ii rb q λJ J J J q=>PyProof.Rows.rshift_int q.1 (jT S rfl rfl rfl q.2 (.int _ _)) |BitAnd=>exact ra.ii rb q λJ J J J q=>PyProof.Rows.and_int (jT S rfl rfl rfl q (.int _ _)) |BitOr=>exact ra.ii rb q λJ J J J q=>PyProof.Rows.or_int (jT S rfl rfl rfl q (.int _ _)) |BitXor=>exact ra.ii rb q λJ J J J q=>PyProof.Rows.xor_int (jT S rfl rfl rfl q (.int _ _)) |_=>exact bM q
end
section
open PySem.SeqAt
theorem Room.units{A:Around}{n:Nat}(h:Room A n):A.units+40<=cLine:=rm0 (l:=9900) h.2.2
theorem Room.units1{A:Around}{n:Nat}(h:Room A n):A.units<cLine:=by have:=h.units;exact Nat.lt_of_add_right_lt this
theorem Yh{xs:List V}:∀{a:List Int},ints? xs=some a->xs=a.map V.int:=by
 induction xs with
 |nil=>intro a h;injection h with qz;subst qz;rfl
 |cons u r ih=>
  intro a h
  induction u using V.casesOn with
  |int i=>
   refine mapS h λb hb z1z=>?_;obtain rfl:=z1z
   exact congrArg _ (ih hb)
  |_=>exact by contradiction
theorem lP{xs:List V}{a:List Int}(h:ints? xs=some a):a.length=xs.length:=by rw[Yh h,aB]
theorem sI{xs:List V}{a:List Int}(h:ints? xs=some a){j:Nat}{u:V}(e:xs[j]?=some u):∃i,a[j]?=some i/\u=.int i:=by
 rw[Yh h,bH] at e;refine mapS e λi h1 h2=>?_
 exact⟨i,h1,h2.symm⟩
theorem yA{u:V}{r:List V}{a:List (List Int)}(h:rows? (u::r)=some a):∃l b c,u=.tup l/\ints? l=some b/\rows? r=some c/\a=b::c:=by
 induction u using V.casesOn with
 |tup l=>
  refine kY h λb hb h=>?_
  refine mapS h λc hc h=>?_
  exact⟨l,b,c,rfl,hb,hc,h.symm⟩
 |_=>exact by contradiction
theorem tQ{xs:List V}:∀{a:List (List Int)},rows? xs=some a->a.length=xs.length:=by
 induction xs with
 |nil=>intro a h;injection h with qz;subst qz;rfl
 |cons u r ih=>
  intro a h;refine e31 (yA h) λl b c q0z=>?_;refine e04 q0z λJ J h' r6z=>?_;subst r6z
  exact congrArg (· +1) (ih h')
theorem Vb{xs:List V}:∀{a:List (List Int)},rows? xs=some a->∀{j:Nat} {u:V},xs[j]?=some u->∃l i,a[j]?=some i/\u=.tup l/\ints? l=some i:=by
 induction xs with
 |nil=>exact λJ J J e=>by contradiction
 |cons v r ih=>
  intro a h j u e;refine e31 (yA h) λl b c q0z=>?_;refine e04 q0z λhv hb h' r6z=>?_;subst r6z
  induction j using Nat.casesOn with
  |zero=>exact⟨l,b,rfl,(aX e).symm.trans hv,hb⟩ |succ j=>exact ih h' e
theorem Jq{α:Type}[DecidableEq α]{a b:List α}(n:Nat)(ha:a.length=n)(hb:b.length=n):((bD n).all λj=>decide (a[j]?=b[j]?))=decide (a=b):=by
 refine Bool.eq_iff_iff.mpr ⟨λh=>decide_eq_true (List.ext_getElem? λi=>?_),λh=>cR.mpr λJ J=>decide_eq_true (by rw[of_decide_eq_true h])⟩
 by_cases hi:i<n
 ·exact of_decide_eq_true (cR.mp h i (List.mem_range.mpr hi))
 ·rw[dM (ha▸gN.mp hi),dM (hb▸gN.mp hi)]
theorem Ku{α:Type}[DecidableEq α]{a b:List α}:((bD (min a.length b.length)).all (λj=>decide (a[j]?=b[j]?))&&a.length==b.length)=decide (a=b):=by
 by_cases h:a.length=b.length
 ·rw[h,Nat.min_self,Jq _ h rfl,beq_self_eq_true,Bool.and_true]
 ·rw[beq_eq_false_iff_ne.mpr h,Bool.and_false,decide_eq_false λe=>h (by rw[e])]
noncomputable def eV(a:V)(y:Value):Bool:=match a with
 |.int i=>match y with|.int j _=>j==i|_=>false
 |.str x=>match y with|.str y _=>y==x|_=>false
 |.none=>match y with|.none=>true|_=>false
 |.bool b=>match y with|.bool c=>c==b|_=>false
 |_=>false
section
variable{cx:Cx}{fm:Fm}{ρ:Rho}{σ:H}{s:Shared}{A:Around}{n:Nat}
theorem Zp{va vb:Value}{a b:V}{r:Bool}(ra:Rep s.heap va a)(rb:Rep s.heap vb b)(h:beqV a b=some r):RcAt A s va vb r/\EqAt A s va vb r/\RcNeAt A s va vb (!r)/\eV b va=r:=by
 induction a using V.casesOn with
 |none=>induction b using V.casesOn with
  |none=>injection h with qz;subst qz;exact ra.eN (rb.eN ⟨.none_none,.same _,.none_none,rfl⟩)
  |int i=>injection h with qz;subst qz;exact ra.eN (rb.eI λt=>⟨.none_int _ _,.none_int _ _,.none_int _ _,rfl⟩)
  |_=>exact by contradiction
 |int x=>induction b using V.casesOn with
  |none=>injection h with qz;subst qz;exact ra.eI λt=>rb.eN ⟨.int_none _ _,.int_none _ _,.int_none _ _,rfl⟩
  |int i=>injection h with qz;subst qz;exact ra.eI λt=>rb.eI λt=>⟨.int_int _ _ _ _,.int_int _ _ _ _,.int_int _ _ _ _,rfl⟩
  |_=>exact by contradiction
 |bool x=>induction b using V.casesOn with
  |bool y=>injection h with qz;subst qz;exact ra.eB (rb.eB ⟨.bool_bool _ _,.bool_bool _ _,.bool_bool _ _,rfl⟩)
  |_=>exact by contradiction
 |str x=>induction b using V.casesOn with
  |str y=>injection h with qz;subst qz;exact ra.eS λt=>rb.eS λt=>⟨.str_str _ _ _ _,.str_str _ _ _ _,.str_str _ _ _ _,rfl⟩
  |_=>exact by contradiction
 |_=>exact by contradiction
theorem Reps.at{h:Heap}{items:Array Value}{us:List V}(r:Reps h items.toList us){j:Nat}(h1:j<items.size):∃u,us[j]?=some u/\Rep h items[j] u:=by
 refine e12 (r.get' (i:=j) (v:=items[j]) (by rw[cE];exact gD h1)) λu e x=>?_
 exact⟨u,e,x⟩
theorem Reps.sz{h:Heap}{items:Array Value}{us:List V}(r:Reps h items.toList us):items.size=us.length:=by
 have:=r.length;simpa using this
theorem Jd{α:Type}[DecidableEq α](x y:α):decide (some x=some y)=decide (x=y):=decide_eq_decide.mpr ⟨aX,congrArg _⟩
theorem yS{i j:Array Value}{xs ys:List V}{a b:List Int}(hx:ints? xs=some a)(hy:ints? ys=some b)(ra:Reps s.heap i.toList xs)(rb:Reps s.heap j.toList ys):
 ∀k (h1:k<i.size) (h2:k<j.size),EqAt A s i[k] j[k] (decide (a[k]?=b[k]?)):=λk h1 h2=>by
 refine e12 (ra.at h1) λu eu ru=>?_
 refine e12 (rb.at h2) λv ev rv=>?_
 refine e12 (sI hx eu) λm em z6z=>?_;obtain rfl:=z6z
 refine e12 (sI hy ev) λl el z7z=>?_;obtain rfl:=z7z
 rw[em,el,Jd];exact ru.eI λJ=>rv.eI λJ=>.int_int _ _ _ _
theorem Sl{l b:Addr}{i j:Array Value}{xs ys:List V}{p q:List Int}(hu:A.units<cLine)(hx:ints? xs=some p)(hy:ints? ys=some q)(hl:IsTup s.heap l i)(hb:IsTup s.heap b j)
 (ra:Reps s.heap i.toList xs)(rb:Reps s.heap j.toList ys):EqAt A s (.ref l) (.ref b) (decide (p=q)):=by
 by_cases h:l=b
 ·subst h
  obtain⟨o,e,z8z,n,d⟩:=hl;obtain⟨o',e',z9z,n',d'⟩:=hb
  have hij:i=j:=by
   have:=d.symm.trans ((congrArg Obj.data (aX (e.symm.trans e'))).trans d');injection this
  subst hij
  have hxy:p=q:=by
   refine List.ext_getElem? λk=>?_
   by_cases hk:k<i.size
   ·refine e12 (ra.at hk) λu eu ru=>?_
    refine e12 (rb.at hk) λv ev rv=>?_
    refine e12 (sI hx eu) λm em z10z=>?_;obtain rfl:=z10z
    refine e12 (sI hy ev) λm' em' z11z=>?_;obtain rfl:=z11z
    rw[em,em'];generalize i[k]=z at ru rv;cases ru;cases rv;rfl
   ·rw[dM ((lP hx).trans ra.sz.symm▸gN.mp hk),dM ((lP hy).trans rb.sz.symm▸gN.mp hk)]
  rw[decide_eq_true hxy];exact .same _
 ·have z:=RcAt.tuples (A:=A) (s:=s) (e:=λk=>decide (p[k]?=q[k]?)) hl hb hu (yS hx hy ra rb)
  rw[ra.sz,rb.sz,←lP hx,←lP hy,Ku] at z;exact .of_refs h z
theorem Jj{i j:Array Value}{xs ys:List V}{a b:List (List Int)}(hu:A.units<cLine)(hx:rows? xs=some a)(hy:rows? ys=some b)(ra:Reps s.heap i.toList xs)(rb:Reps s.heap j.toList ys):
 ∀k (h1:k<i.size) (h2:k<j.size),EqAt A s i[k] j[k] (decide (a[k]?=b[k]?)):=λk h1 h2=>by
 refine e12 (ra.at h1) λu eu ru=>?_
 refine e12 (rb.at h2) λv ev rv=>?_
 refine e23 (Vb hx eu) λlu p ep z12z hp=>?_;obtain rfl:=z12z
 refine e23 (Vb hy ev) λlv q eq' z13z hq=>?_;obtain rfl:=z13z
 rw[ep,eq',Jd];exact ru.eT λJ J t1 r1=>rv.eT λJ J t2 r2=>Sl hu hp hq t1 t2 r1 r2
theorem Dd{α:Type}[DecidableEq α]{a c:List α}{l b:Addr}{i j:Array Value}(u1:A.units<cLine)(hl:s.heap.IsList l i)(hb:s.heap.IsList b j)(la:a.length=i.size)(lc:c.length=j.size)
 (z:∀k (h1:k<i.size) (h2:k<j.size),EqAt A.in1 s i[k] j[k] (decide (a[k]?=c[k]?))):RcAt A s (.ref l) (.ref b) (decide (a=c))/\RcNeAt A s (.ref l) (.ref b) !decide (a=c):=by
 by_cases hd:i.size=j.size
 ·rw[←Jq (a:=a) (b:=c) i.size la (lc.trans hd.symm)]
  exact⟨.lists hl hb hd u1 z,.lists hl hb hd u1 z⟩
 ·rw[decide_eq_false (by rintro rfl;exact hd (la.symm.trans lc))]
  exact⟨.lists_lengths hl hb (bne_iff_ne.mpr hd) u1,.lists_lengths hl hb (bne_iff_ne.mpr hd) u1⟩
theorem Qj{l b:Addr}{xs ys:List V}{r:Bool}(hR:Room A n)(ha:∃items n,s.heap.get? l=some {cls:=.type "list",data:=.seq items n}/\Reps s.heap items.toList xs)(hb:∃items n,s.heap.get? b=some {cls:=.type "list",data:=.seq items n}/\Reps s.heap items.toList ys)(h:pL xs ys=some r):
 RcAt A s (.ref l) (.ref b) r/\RcNeAt A s (.ref l) (.ref b) !r:=by
 refine e22 ha λi n1 e1 r1=>?_
 refine e22 hb λj n2 e2 r2=>?_
 have hl:s.heap.IsList l i:=⟨_,e1,rfl,_,rfl⟩;have hb:s.heap.IsList b j:=⟨_,e2,rfl,_,rfl⟩;have u1:=hR.units1;have u2:A.in1.units<cLine:=by have:=hR.units;show A.units+1<cLine;lia
 have diff:Qc xs ys=some r->RcAt A s (.ref l) (.ref b) r/\RcNeAt A s (.ref l) (.ref b) !r:=λh=>by
  by_cases hd:xs.length=ys.length
  ·rw[Qc,if_pos hd] at h;exact by contradiction
  ·rw[Qc,if_neg hd] at h;injection h with qz;subst qz
   have:(i.size !=j.size)=true:=by rw[r1.sz,r2.sz];exact bne_iff_ne.mpr hd
   exact⟨.lists_lengths hl hb this u1,.lists_lengths hl hb this u1⟩
 have row:tR xs ys=some r->RcAt A s (.ref l) (.ref b) r/\RcNeAt A s (.ref l) (.ref b) !r:=λh=>by
  unfold tR at h
  induction ha:rows? xs with
  |none=>rw[ha] at h;exact diff h
  |some a=>
   induction hc:rows? ys with
   |none=>rw[ha,hc] at h;exact diff h
   |some c=>
    rw[ha,hc] at h;injection h with qz;subst qz
    exact Dd u1 hl hb ((tQ ha).trans r1.sz.symm) ((tQ hc).trans r2.sz.symm) (Jj u2 ha hc r1 r2)
 unfold pL at h
 induction ha:ints? xs with
 |none=>rw[ha] at h;exact row h
 |some a=>
  induction hc:ints? ys with
  |none=>rw[ha,hc] at h;exact row h
  |some c=>
   rw[ha,hc] at h;injection h with qz;subst qz
   exact Dd u1 hl hb ((lP ha).trans r1.sz.symm) ((lP hc).trans r2.sz.symm) (yS ha hc r1 r2)
theorem Nv{va vb:Value}{a b:V}{K:Bool->Prop}(hR:Room A n)(S:StB cx fm.fs σ s)(ra:Rep s.heap va a)(rb:Rep s.heap vb b)(q:eqW a b σ K):∃r,K r/\RcAt A s va vb r/\RcNeAt A s va vb !r:=by
 have plain:om (beqV a b) K->∃r,K r/\RcAt A s va vb r/\RcNeAt A s va vb !r:=λq=>by
  refine kH q λr hr q=>?_
  have z:=Zp (A:=A) ra rb hr;exact⟨r,q,z.1,z.2.2.1⟩
 induction a using V.casesOn with
 |obj a=>induction b using V.casesOn with
  |obj b=>
   refine kH q λxs hx q=>?_
   refine kH q λys hy q=>?_
   refine kH q λr hr q=>?_
   exact⟨r,q,ra.eO (rb.eO (Qj hR (S.listR hx) (S.listR hy) hr))⟩
  |_=>exact plain q
 |_=>exact plain q
theorem Wd{va:Value}{a:V}(ra:Rep s.heap va a){ws:List Value}{us:List V}(rs:Reps s.heap ws us):∀{r:Bool},mY a us=some r->(∀y∈ws,EqAt A s y va (eV a y))/\ws.any (eV a)=r:=
 Reps.ind (P:=λws us=>∀{r:Bool},mY a us=some r->(∀y∈ws,EqAt A s y va (eV a y))/\ws.any (eV a)=r) (λh=>⟨by intros;contradiction,aX h⟩) (λrb J ih=>by
  intro r h;refine kY h λx hx h=>?_
  refine mapS h λy hy z14z=>?_;obtain rfl:=z14z
  refine e02 (ih hy) λh1 h2=>?_
  refine e04 (Zp (A:=A) rb ra hx) λz15z b z16z e=>?_
  rw[List.any_cons,e,h2];exact⟨bC.mpr ⟨e▸b,h1⟩,rfl⟩) rs
theorem pK{kvs:List (Str×Value)}{es:List (Str×V)}(h:kvs.map (·.1)=es.map (·.1))(x:Str):(valueAt kvs x).isSome=(es.lookup x).isSome:=by
 induction kvs generalizing es with
 |nil=>cases es with|nil=>rfl|cons _ _=>injection h
 |cons kv r ih=>induction es using List.casesOn with
  |nil=>injection h |cons e es=>
   rw[aZ,aZ] at h;injection h with h1 h2
   obtain⟨k,v⟩:=kv;obtain⟨k',v'⟩:=e;simp only at h1;subst h1;unfold valueAt at ih⊢;rw[List.find?_cons,bR];by_cases hk:k=x
   ·subst hk;simp
   ·have:(x==k)=false:=by simpa using Ne.symm hk
    simp only[hk,decide_false,this];exact ih h2
theorem Jv(TO:TopOk cx){va vb:Value}{a b:V}{K:Bool->Prop}(S:St cx fm ρ σ s)(ra:Rep s.heap va a)(rb:Rep s.heap vb b)(q:inW a b σ K):
 ∃r,K r/\∀{E:Value->Shared->Prop} {Q:Value->Shared->Prop},((∀t,Q (.bool r) {s with toks:=t})->wpAny (model cx.prog cx.w) A (compareOp .In va vb) Q E s)/\((∀t,Q (.bool !r) {s with toks:=t})->wpAny (model cx.prog cx.w) A (compareOp .NotIn va vb) Q E s):=by
 induction b using V.casesOn with
 |tup l=>
  refine kH q λr hr q=>?_
  refine⟨r,q,rb.eT λb xs t rs=>?_⟩
  refine e02 (Wd (A:=A.in1) ra rs hr) λh1 h2=>?_
  rw[Array.any_toList] at h2;exact⟨λh=>in_tupleAt (eV a) t (λy hy=>h1 y (fU.mpr hy)) (by rw[h2];exact h s.toks),λh=>notIn_tupleAt (eV a) t (λy hy=>h1 y (fU.mpr hy)) (by rw[h2];exact h s.toks)⟩
 |obj d=>
  induction a using V.casesOn with
  |str x=>
   refine kH q λes he q=>?_
   refine e13 (S.own _ _ (nZ he)) λkvs hd hk hv=>?_
   have hm:=hd.mapOf;have hl:(d==sysModules)=false:=beq_eq_false_iff_ne.mpr (Nat.ne_of_gt (S.new d (by rw[nZ he];rfl)).2)
   rw[←pK hk] at q;refine⟨_,q,ra.eS λt=>rb.eO ?_⟩
   exact⟨λh=>wpAny_in_of (iB cx.prog cx.w x t) hl hm (h _),λh=>wpAny_notIn_of (iB cx.prog cx.w x t) hl hm (h _)⟩
  |none=>
   refine kH q λl hl q=>?_
   refine kH q λr hr q=>?_
   refine e22 (S.own _ _ (kB hl)) λi n1 e1 r1=>?_
   have hL:s.heap.IsList _ i:=⟨_,e1,rfl,_,rfl⟩;refine e02 (Wd (A:=A.in1) .none r1 hr) λh1 h2=>?_
   rw[Array.any_toList] at h2;refine⟨r,q,ra.eN (rb.eO ?_)⟩;exact⟨λh=>in_listAt (eV .none) hL (λy hy=>h1 y (fU.mpr hy)) (by rw[h2];exact h s.toks),λh=>notIn_listAt (eV .none) hL (λy hy=>h1 y (fU.mpr hy)) (by rw[h2];exact h s.toks)⟩
  |_=>exact bM q
 |_=>exact bM q
theorem Uj{va:Value}{a:V}{r:Bool}(ra:Rep s.heap va a)(h:isNone a=some r):plainIs va .none=true/\(va==Value.none)=r:=by
 induction a using V.casesOn with
 |none=>exact ra.eN ⟨rfl,aX h⟩ |raw=>exact by contradiction
 |bool=>exact ra.eB ⟨rfl,aX h⟩ |int=>exact ra.eI λJ=>⟨rfl,aX h⟩ |str=>exact ra.eS λJ=>⟨rfl,aX h⟩ |tup=>exact ra.eT λJ J J J=>⟨rfl,aX h⟩ |obj=>exact ra.eO ⟨rfl,aX h⟩
theorem tM(TO:TopOk cx){op:CmpOp}{va vb:Value}{a b:V}{K:Bool->Prop}{Q:Value->Shared->Prop}{E:Value->Shared->Prop}(hR:Room A n)(S:St cx fm ρ σ s)(ra:Rep s.heap va a)(rb:Rep s.heap vb b)(q:cmpW op a b σ K)
 (k:∀c t,K c->Q (.bool c) {s with toks:=t}):wpAny (model cx.prog cx.w) A (compareOp op va vb) Q E s:=by
 have nn:∀{K:Bool->Prop},Qn a b K->vb=.none/\plainIs va .none=true/\K (va==Value.none):=λ{K} q=>by
  induction b using V.casesOn with
  |none=>
   refine kH q λr hr q=>?_
   refine e02 (Uj ra hr) λh1 h2=>?_
   exact⟨rb.eN rfl,h1,h2▸q⟩
  |_=>exact bM q
 induction op with
 |Eq=>
  refine e13 (Nv hR S.toStB ra rb q) λr hr z z17z=>?_
  exact z cx.prog cx.w E Q (k r s.toks hr)
 |NotEq=>
  refine e13 (Nv hR S.toStB ra rb q) λr hr z18z z=>?_
  exact z cx.prog cx.w E Q (k _ s.toks hr)
 |Lt=>exact ra.ii rb q λJ J J J q=>PyProof.Rows.lt_int (k _ s.toks q) |LtE=>exact ra.ii rb q λJ J J J q=>PyProof.Rows.le_int (k _ s.toks q) |Gt=>exact ra.ii rb q λJ J J J q=>PyProof.Rows.gt_int (k _ s.toks q) |GtE=>exact ra.ii rb q λJ J J J q=>PyProof.Rows.ge_int (k _ s.toks q) |Is=>
  refine e03 (nn q) λz19z h q=>?_;obtain rfl:=z19z
  exact wpAny_is_plain h (k _ s.toks q)
 |IsNot=>
  refine e03 (nn q) λz20z h q=>?_;obtain rfl:=z20z
  exact wpAny_isNot_plain h (k _ s.toks q)
 |In=>
  refine e12 (Jv (A:=A) TO S ra rb q) λr hr z=>?_
  exact z.1 λt=>k r t hr
 |NotIn=>
  refine e12 (Jv (A:=A) TO S ra rb q) λr hr z=>?_
  exact z.2 λt=>k _ t hr
end
end
section
open PySem.SeqAt
theorem oG(slice:PySem.Expr)(o i:Value):∃ops,subscripted slice false o i=operate ops (getItem o i):=by
 induction slice using Expr.casesOn with
 |Slice _ _ c _=>cases c<;>exact⟨_,rfl⟩
 |_=>exact⟨_,rfl⟩
theorem oV{α:Type}[DecidableEq α]{h:Heap}{kvs:List (α×Value)}:∀{es:List (α×V)},kvs.map (·.1)=es.map (·.1)->Reps h (kvs.map (·.2)) (es.map (·.2))->∀{x:α} {u:V},es.lookup x=some u->
 ∃v,valueAt kvs x=some v/\Rep h v u:=by
 induction kvs with
 |nil=>
  intro es hk _ x u e
  induction es using List.casesOn with
  |nil=>exact by contradiction
  |cons=>exact by contradiction
 |cons kv r ih=>
  intro es hk hv x u e
  induction es using List.casesOn with
  |nil=>exact by contradiction
  |cons e' es=>
   injection hk with h1 h2
   rw[aZ] at hv;refine hv.eC (R:=λl=>kv.2::r.map (·.2)=l->_) (λv vs a b hl=>?_) rfl
   injection hl with h3 h4
   rw[bR] at e;unfold valueAt;rw[List.find?_cons];by_cases hx:kv.1=x
   ·rw[beq_iff_eq.mpr (hx.symm.trans h1)] at e
    rw[decide_eq_true hx];exact⟨kv.2,rfl,aX e▸h3▸a⟩
   ·rw[beq_eq_false_iff_ne.mpr λz=>hx (h1.trans z.symm)] at e
    rw[decide_eq_false hx];exact ih h2 (h4▸b) e
theorem Vc{α:Type}{l:List α}{k:Int}{v:α}(h:idx l k=some v):(-(2^62)<=k/\k<2^62)/\∃j,seqIndex? k l.length=some j/\l[j]?=some v:=by
 by_cases hk: -(2^62)<=k/\k<2^62
 ·rw[idx,if_pos hk] at h
  exact⟨hk,Option.bind_eq_some_iff.mp h⟩
 ·rw[idx,if_neg hk] at h;exact by contradiction
section
variable{cx:Cx}{fm:Fm}{ρ:Rho}{σ:H}{s:Shared}{A:Around}{E:Value->Shared->Prop}{Q:QV}
theorem xC{l:Addr}{items:Array Value}{k:Int}{t:Tok}{j:Nat}{x:Value}{Q:Value->Shared->Prop}(hl:s.heap.IsList l items)(h1: -(2^62)<=k)(h2:k<2^62)(hz:items.size<=lim)
 (hj:seqIndex? k items.size=some j)(hx:items[j]?=some x)(h:Q x s):wpAny (model cx.prog cx.w) A (getItem (.ref l) (.int k t)) Q E s:=by
 unfold seqIndex? at hj;by_cases h0:k<0
 ·rw[if_pos h0] at hj
  by_cases hc:(decide (0<=k+items.size)&&decide (k+items.size<items.size))=true
  ·rw[if_pos hc] at hj
   have hc:=of_decide_eq_true ((dD _ _).mp hc).1;injection hj with qz;subst qz
   exact wpAny_getItem_list_neg hl h0 (by exact Int.add_nonneg_iff_neg_le.mp hc) (by lia) hx h
  ·rw[if_neg hc] at hj;exact by contradiction
 ·rw[if_neg h0] at hj
  by_cases hc:(decide (0<=k)&&decide (k<items.size))=true
  ·rw[if_pos hc] at hj
   injection hj with qz;subst qz
   exact wpAny_getItem_list hl (fT.mp h0) (by lia) hx h
  ·rw[if_neg hc] at hj;exact by contradiction
theorem vD{value slice:PySem.Expr}{a:Addr}{l:List V}{k:Int}{t:Tok}(S:St cx fm ρ σ s)(hl:∃items n,s.heap.get? a=some {cls:=.type "list",data:=.seq items n}/\Reps s.heap items.toList l)
 (q:l.length<=lim/\om (idx l k) λv=>Q v σ):wpAny (model cx.prog cx.w) A (subscriptTail value slice (.ref a) (.int k t)) (Post cx fm ρ σ s Rep Q) E s:=by
 refine e11 (oG slice (.ref a) (.int k t)) λops ho=>?_
 refine kH q.2 λv hv q2=>?_
 obtain⟨hk,j,hj,hx⟩:=Vc hv;refine e22 hl λit n e r=>?_
 refine e12 (r.get hx) λval e' rv=>?_
 have hL:s.heap.IsList _ it:=⟨_,e,rfl,_,rfl⟩;rw[←r.sz] at hj;exact tail_any hL.typeIs slot_list_getitem.lookup (xC hL hk.1 hk.2 (r.sz▸q.1) hj (cE.symm.trans e') (jT S rfl rfl rfl q2 rv)) ho
theorem Ue{value slice:PySem.Expr}{va vi:Value}{a i:V}(S:St cx fm ρ σ s)(ra:Rep s.heap va a)(ri:Rep s.heap vi i)(q:subW a i σ Q):
 wpAny (model cx.prog cx.w) A (subscriptTail value slice va vi) (Post cx fm ρ σ s Rep Q) E s:=by
 refine e11 (oG slice va vi) λops ho=>?_
 induction a using V.casesOn with
 |tup l=>
  revert ho;refine ra.eT λa xs t r=>ri.isI q λk tk q ho=>?_
  refine kH q.2 λv hv q2=>?_
  obtain⟨hk,j,hj,hx⟩:=Vc hv;refine e12 (r.get hx) λval e rv=>?_
  rw[←r.sz] at hj;exact tail_any t.typeIs slot_tuple_getitem.lookup (PyProof.Rows.getItem_tuple t (by lia) (by lia) hj (cE.symm.trans e) (jT S rfl rfl rfl q2 rv)) ho
 |obj a=>induction i using V.casesOn with
  |int k=>
   revert ho;refine ra.eO (ri.eI λt ho=>?_)
   have q:obW a k σ Q:=q;unfold obW at q
   induction hl:σ a with
   |none=>rw[hl] at q;exact bM q
   |some o=>
    rw[hl] at q
    induction o with
    |list l=>exact vD S (S.own _ _ hl) q |ro l=>exact vD S (S.own _ _ hl) q |nd es=>
     refine kH q λv hv q=>?_
     refine e13 (S.own _ _ hl) λkvs hd hk hr=>?_
     refine e12 (oV hk hr hv) λval e rv=>?_
     exact tail_any hd.typeIs slot_dict_getitem.lookup (wpAny_getItem_of (intKind_is _ _ _ _) hd.mapOf e (jT S rfl rfl rfl q rv)) ho
    |_=>exact bM q
  |str x=>
   revert ho;refine ra.eO (ri.eS λt ho=>?_)
   refine kH q λes he q=>?_
   refine kH q λv hv q=>?_
   refine e13 (S.own _ _ (nZ he)) λkvs hd hk hr=>?_
   refine e12 (oV hk hr hv) λval e rv=>?_
   exact tail_any hd.typeIs slot_dict_getitem.lookup (wpAny_getItem_of (iB _ _ _ _) hd.mapOf e (jT S rfl rfl rfl q rv)) ho
  |_=>exact bM q
 |_=>exact bM q
theorem Jp(t:Int)(n:Nat):min t.toNat n=(max 0 (min t n)).toNat:=by
 rcases Int.le_total t n with h|h
 ·rw[Int.min_eq_left h,cL (Int.toNat_le.mpr h)]
  rcases Int.le_total 0 t with h0|h0
  ·rw[gB h0]
  ·rw[Int.max_eq_left h0,Int.toNat_of_nonpos h0];rfl
 ·rw[Int.min_eq_right h,gB (bT n)];exact iI (Int.toNat_le_toNat h)
theorem rD{d len:Nat}{v:V}{n:Nat}{val:Value}{h:Heap}(r:Rep h val v)(e:clip d len v=some n):∃p,IsPart val p/\n=p.elim d (clipAt len):=by
 induction v using V.casesOn with
 |none=>exact r.eN ⟨none,.none,(aX e).symm⟩ |int k=>
  by_cases hk: -(2^62)<=k/\k<2^62
  ·have e:=(if_pos hk).symm.trans e
   refine r.eI λt=>⟨some k,.int _ _,(aX e).symm.trans ?_⟩
   show _=(max 0 (min (if k<0 then k+len else k) (len:Int))).toNat
   rw[←Jp];by_cases h0:k<0
   ·rw[if_pos h0,if_pos h0]
   ·rw[if_neg h0,if_neg h0]
  ·have e:=(if_neg hk).symm.trans e
   exact by contradiction
 |_=>exact by contradiction
theorem Ep{h:Heap}{items:Array Value}{l r:List V}{lo hi:V}{vl vh:Value}(rs:Reps h items.toList l)(rl:Rep h vl lo)(rh:Rep h vh hi)(e:cut l lo hi=some r):
 ∃p q,IsPart vl p/\IsPart vh q/\Reps h (slicePick items p q none).toList r:=by
 refine kY e λi hi' e=>?_
 refine mapS e λj hj z1z=>?_;obtain rfl:=z1z
 refine e12 (rD rl hi') λp hp z2z=>?_;obtain rfl:=z2z
 refine e12 (rD rh hj) λq hq z3z=>?_;obtain rfl:=z3z
 refine⟨p,q,hp,hq,?_⟩;rw[slicePick_plain,rs.sz];exact(rs.drop _).take _
theorem Ze{value slice:PySem.Expr}{va vl vh:Value}{a lo hi:V}(S:St cx fm ρ σ s)(ra:Rep s.heap va a)(rl:Rep s.heap vl lo)(rh:Rep s.heap vh hi)(q:sliW a lo hi σ Q):
 wpAny (model cx.prog cx.w) A (subscriptTail value slice va (.ref s.heap.objs.size)) (Post cx fm ρ σ s Rep Q) E {s with heap:=s.heap.push {cls:=.type "slice",data:=.fields #[vl,vh,.none]}}:=by
 refine e11 (oG slice va (.ref s.heap.objs.size)) λops ho=>?_
 have S1:St cx fm ρ σ {s with heap:=s.heap.push {cls:=.type "slice",data:=.fields #[vl,vh,.none]}}:=S.grow (λJ J e=>aN _ e) rfl rfl
 have st:Stp fm σ σ s.heap (s.heap.push {cls:=.type "slice",data:=.fields #[vl,vh,.none]}):=.grow (λJ J e=>aN _ e) (λJ e=>.inl e)
 induction a using V.casesOn with
 |tup l=>
  revert ho;refine ra.eT λa xs t r ho=>?_
  induction lo using V.casesOn with
  |int k=>induction hi using V.casesOn with
   |none=>
    have q:(l.length<=lim/\1<=k/\k<=l.length)/\Q (.tup (l.drop k.toNat)) σ:=q;refine e02 q λz4z q=>?_;refine e03 z4z λhz h1 h2=>?_
    have sz:=r.sz;refine e11 (gS (fH (by decide) h1)) λk z5z=>?_;obtain rfl:=z5z
    revert st S1;refine rl.eI λu=>rh.eN λS1 st=>?_
    refine tail_any (t.push _).typeIs slot_tuple_getitem.lookup (getItem_tuple_from (a:=k) (t.push _) (Heap.IsSliceOf.new ..) (fZ.mp h1) (by lia) ?_ (kZ (by lia))) ho
    refine Post.trans (s₁:={s with heap:=s.heap.push _}) st (nC S1 (λb o e=>aN _ e) rfl rfl q (.tup (IsTup.new _ _) ?_))
    exact(r.drop k).mono λJ J z=>(z.push _).push _
   |_=>exact bM q
  |_=>exact bM q
 |obj a=>
  revert ho;refine ra.eO λho=>?_
  refine kH q λl hl q0z=>e02 q0z λhz q=>?_
  refine kH q λr hr q=>?_
  refine e22 (S.own _ _ (kB hl)) λit n e rs=>?_
  refine e23 (Ep rs rl rh hr) λp q' hp hq hpick=>?_
  have hL:s.heap.IsList _ it:=⟨_,e,rfl,_,rfl⟩;refine tail_any (hL.push _).typeIs slot_list_getitem.lookup (wpAny_getItem_list_slice (hL.push _) (Heap.IsSliceOf.new ..) hp hq .none (λh=>by injection h) ?_ (kZ (rs.sz▸hz))) ho
  exact Post.trans (s₁:={s with heap:=s.heap.push _}) st (qM S1 (pP (hpick.mono λJ J z=>z.push _)) q.2)
 |_=>exact bM q
theorem wY{l:Addr}{items:Array Value}{n:Nat}{k:Int}{t:Tok}{v:Value}{Q:Unit->Shared->Prop}(ho:s.heap.get? l=some {cls:=.type "list",data:=.seq items n})
 (h0:0<=k)(hfit:k<2^63)(hn:k<items.size)
 (hQ:∀h',(∃n',h'.get? l=some {cls:=.type "list",data:=.seq (items.setIfInBounds k.toNat v) n'})->dJ l s.heap h'->Q () {s with heap:=h'}):
 wpAny (model cx.prog cx.w) A (setItem (.ref l) (.int k t) v) Q E s:=by
 have hl:s.heap.IsList l items:=⟨_,ho,rfl,n,rfl⟩;unfold setItem
 try with_reducible refine aO ?_
 first|refine aA (aI ?_)|skip
 refine aA (wpAny_sequenceKey hl.typeIs (by decide) ?_)
 refine aA (wpAny_callSpecial?_slot (name:=ofString "__setitem__") hl.typeIs gU
  (wpAny_call_entry gU hl.typeIs entry_list_setitem ?_ (args_list_setitem _ _ _)))
 show wpAny _ _ (fP (.int k t)>>=_) _ _ s;refine aA (wpAny_listSubscript_int (fitsIndex_of h0 hfit) ?_);clear hfit;refine e11 (gS h0) λj z6z=>?_;obtain rfl:=z6z
 have hj:j<items.size:=by exact Int.ofNat_lt.mp hn
 have hx':items[j]?=some items[j]:=gD hj;show wpAny _ _ ((seqItemAt l j>>=λr=>pure (r.map (j,·)))>>=_) _ _ s
 refine aA (aA (wpAny_seqItemAt ho rfl (aI ?_)));rw[hx'];show wpAny _ _ (setSeqItemAt l j v>>=_) _ _ s;have hfin:∃n',(s.heap.update l (Obj.mapSeq (·.setIfInBounds j v))).get? l=some {cls:=.type "list",data:=.seq (items.setIfInBounds j v) n'}:=⟨_,cX _ ho rfl⟩;refine aA (wpAny_setSeqItemAt ho rfl ?_)
 first
  |exact aA (aI (aI ⟨.none,rfl,aI (hQ _ hfin (cP ..))⟩))
  |exact aI ⟨.none,rfl,aI (hQ _ hfin (cP ..))⟩
theorem Xo{α:Type}(a:Array α)(i j:Nat):(a.extract i j).size<=a.size:=by rw[Array.size_extract];exact aC (Nat.sub_le _ _) (Nat.min_le_right _ _)
theorem Gs(a b:Nat):(max (a:Int) (b:Int)).toNat=max a b:=by
 rcases Nat.le_total a b with h|h
 ·rw[gB (fZ.mpr h),iK h];rfl
 ·rw[Int.max_eq_left (fZ.mpr h),Nat.max_eq_left h];rfl
theorem Jr{α:Type}{a b c:Array α}{k:Nat}(h1:a.size<=k)(h2:b.size<=lim)(h3:c.size<=k)(hk:k<=lim):(a++b++c).size<=sizeLine:=by
 rw[Array.size_append,Array.size_append,iU];unfold lim at h2 hk;lia
theorem sU{len:Nat}{p q:Option Int}:sliceBounds p q none len=(((p.elim 0 (clipAt len):Nat):Int),((q.elim len (clipAt len):Nat):Int),1):=sliceBounds_plain p q len
theorem vJ{l b sl:Addr}{items new:Array Value}{n n':Nat}{vl vu:Value}{lo hi:Option Int}{Q:Unit->Shared->Prop}(ho:s.heap.get? l=some {cls:=.type "list",data:=.seq items n})
 (hb:s.heap.get? b=some {cls:=.type "list",data:=.seq new n'})(hne:l≠b)(hs:s.heap.IsSliceOf sl vl vu .none)(pl:IsPart vl lo)(pu:IsPart vu hi)(h1:items.size<=lim)(h2:new.size<=lim)
 (hQ:∀h',(∃k,h'.get? l=some {cls:=.type "list",data:=.seq (items.extract 0 (lo.elim 0 (clipAt items.size))++new++items.extract (max (lo.elim 0 (clipAt items.size)) (hi.elim items.size (clipAt items.size))) items.size) k})->
   dJ l s.heap h'->Q () {s with heap:=h'}):
 wpAny (model cx.prog cx.w) A (setItem (.ref l) (.ref sl) (.ref b)) Q E s:=by
 have hl:s.heap.IsList l items:=⟨_,ho,rfl,n,rfl⟩;have hbl:s.heap.IsList b new:=⟨_,hb,rfl,n',rfl⟩;refine e13 (id hs) λos hos hcs hds=>?_
 have hTs:s.TypeIs (.ref sl) "slice":=⟨os,hos,hcs⟩;unfold setItem
 try with_reducible refine aO ?_
 first|refine aA (aI ?_)|skip
 refine aA (wpAny_sequenceKey hl.typeIs (by decide) ?_)
 refine aA (wpAny_callSpecial?_slot (name:=ofString "__setitem__") hl.typeIs gU
  (wpAny_call_entry gU hl.typeIs entry_list_setitem ?_ (args_list_setitem _ _ _)))
 show wpAny _ _ (fP (.ref sl)>>=_) _ _ s;refine aA ?_;unfold fP;refine aA (wpAny_specialOf hTs slice_no_index ?_);simp only[Option.isNone_none,if_true];refine aI ?_;show wpAny _ _ (typeOf (.ref sl)>>=_) _ _ s;refine aA (wpAny_typeOf hTs ?_);rw[if_neg (by decide)]
 rw[listSliceParts_eq];refine aA (aA (wpAny_field hos hds (x:=.none) rfl (aA (wpAny_listPart .none ?_))));rw[if_neg (by exact gP)]
 refine aA (wpAny_field hos hds (x:=vl) rfl (aA (wpAny_listPart pl ?_)));refine aA (wpAny_field hos hds (x:=vu) rfl (aA (wpAny_listPart pu (aI ?_))));have hsr:Builtin.List.listSameRef (.ref l) (.ref b)=false:=by show(l==b)=false;simpa using hne
 have e0:sliceIndices (rawPart lo) (rawPart hi) (rawPart none) items.size=pure (((lo.elim 0 (clipAt items.size):Nat):Int),((hi.elim items.size (clipAt items.size):Nat):Int),1):=by
  rw[sliceIndices_raw lo hi none items.size (by simp),sU]
 rw[hsr,if_neg gP];refine aA (m:=Builtin.List.listAllItems (.ref b) "must assign iterable to extended slice") ?_;unfold Builtin.List.listAllItems;refine aA (wpAny_typeOf hbl.typeIs ?_);rw[if_pos (by decide)]
 unfold Builtin.List.listItems;refine aA (wpAny_seqItems hb rfl (aI ?_));refine aA (aA (wpAny_seqItems ho rfl (aI ?_)));refine aA (wpAny_of_eq e0 ?_);dsimp only;rw[if_pos (by decide)]
 refine aA (wpAny_rule ?_);rw[if_neg (by unfold eY;have:=iU;unfold lim at h1 h2;simp;exact n2 h1 h2 rfl)]
 refine aA (m:=updateSeq l _) (wpAny_updateSeq ho rfl ?_ (kZ h1) ?_)
 ·refine aA (wpAny_letGo (aI ⟨.none,rfl,aI (hQ _ ⟨if(items.extract 0 (lo.elim 0 (clipAt items.size))++new++items.extract (max (lo.elim 0 (clipAt items.size)) (hi.elim items.size (clipAt items.size))) items.size).size==items.size then n else n+1,?_⟩ (cP ..))⟩))
  rw[cX _ ho rfl];simp only[Obj.mapSeq,cI,Gs]
 ·exact gX (Jr (Xo _ _ _) h2 (Xo _ _ _) h1)
theorem rU{α:Type}(x:Str)(w:α)(l:List (Str×α)):(l.map λe=>if e.1=x then(e.1,w) else e).map (·.1)=l.map (·.1):=by
 rw[jE];refine jC λy J=>?_
 show(if y.1=x then(y.1,w) else y).1=y.1
 by_cases h:y.1=x
 ·rw[if_pos h]
 ·rw[if_neg h]
theorem Sb{h:Heap}{x:Str}{vv:Value}{v:V}(rv:Rep h vv v){l:List (Str×Value)}:∀{m:List (Str×V)},l.map (·.1)=m.map (·.1)->Reps h (l.map (·.2)) (m.map (·.2))->
 Reps h ((l.map λkv=>if kv.1=x then(kv.1,vv) else kv).map (·.2)) ((m.map λe=>if e.1=x then(e.1,v) else e).map (·.2)):=by
 induction l with
 |nil=>
  intro m h1 _
  induction m using List.casesOn with
  |nil=>exact .nil |cons=>exact by contradiction
 |cons y l ih=>
  intro m h1 h2
  induction m using List.casesOn with
  |nil=>exact by contradiction
  |cons z m=>
   injection h1 with h1 h1'
   rw[aZ] at h2;refine h2.eC (R:=λt=>y.2::l.map (·.2)=t->_) (λw ws a b hl=>?_) rfl
   injection hl with h3 h4
   refine .cons ?_ (ih h1' (h4▸b));have h1:y.1=z.1:=h1;show Rep h (if y.1=x then(y.1,vv) else y).2 (if z.1=x then(z.1,v) else z).2
   rw[h1];by_cases hk:z.1=x
   ·rw[if_pos hk,if_pos hk];exact rv
   ·rw[if_neg hk,if_neg hk];exact h3▸a
theorem Dj{a:Addr}{k:Int}{t:Tok}{vv:Value}{v:V}{K:H->Prop}(S:St cx fm ρ σ s)(rv:Rep s.heap vv v)(q:om (jX (σ a)) λl=>(l.length<=lim/\0<=k/\k<l.length)/\K (upd σ a (.list (l.set k.toNat v)))):
 wpAny (model cx.prog cx.w) A (setItem (.ref a) (.int k t) vv) (Post cx fm ρ σ s Same (λJ σ=>K σ)) E s:=by
 refine kH q λl hl q0z=>e02 q0z λz7z q=>?_;refine e03 z7z λhz h0 h1=>?_
 refine e22 (S.own _ _ (kB hl)) λit n e rs=>?_
 rw[←rs.sz] at hz h1;refine wY e h0 (by unfold lim at hz;lia) h1 λh' hh hs=>?_
 refine e11 hh λn' e'=>?_
 refine nA S (by rw[kB hl];rfl) hs (λtk=>.ofList e' ?_) rfl rfl q λJ=>rfl
 rw[Array.toList_setIfInBounds];exact(rs.mono tk).set _ (rv.mono tk)
theorem Cj{a:Addr}{x:Str}{t:Tok}{vv:Value}{v:V}{K:H->Prop}(S:St cx fm ρ σ s)(rv:Rep s.heap vv v)(q:om (asSd (σ a)) λes=>(es.length<=1000/\(es.lookup x).isSome=true)/\K (upd σ a (.sd (es.map λe=>if e.1=x then(e.1,v) else e)))):
 wpAny (model cx.prog cx.w) A (setItem (.ref a) (.str x t) vv) (Post cx fm ρ σ s Same (λJ σ=>K σ)) E s:=by
 refine kH q λes he q0z=>e02 q0z λz8z q=>?_;refine e02 z8z λhz hin=>?_
 refine e13 (S.own _ _ (nZ he)) λkvs hd hk hr=>?_
 have hlen:kvs.length=es.length:=(aB ..).symm.trans ((congrArg List.length hk).trans (aB ..))
 have hany:kvs.any (λkv=>decide (kv.1=x))=true:=by
  rw[←pK hk x] at hin;unfold valueAt at hin;rw[Option.isSome_map,List.find?_isSome] at hin;exact iN.mpr hin
 have hst:stored kvs x vv=kvs.map λkv=>if kv.1=x then(kv.1,vv) else kv:=by unfold stored;rw[if_pos hany]
 refine wpAny_setItem_pairs (iB cx.prog cx.w x t) hd (λh' hh hs=>?_) ?_
 ·rw[hst] at hh
  exact nA S (by rw[nZ he];rfl) hs (λtk=>.ofSd hh (by rw[rU,rU];exact hk) (Sb (rv.mono tk) hk (hr.mono tk))) rfl rfl q λJ=>rfl
 ·have:=iU;lia
theorem Hj{va vi vv:Value}{a i v:V}{K:H->Prop}(S:St cx fm ρ σ s)(ra:Rep s.heap va a)(ri:Rep s.heap vi i)(rv:Rep s.heap vv v)(q:pX a i v σ K):
 wpAny (model cx.prog cx.w) A (setItem va vi vv) (Post cx fm ρ σ s Same (λJ σ=>K σ)) E s:=by
 refine ra.isO q λa q=>?_
 induction i using V.casesOn with
 |int k=>exact ri.eI λt=>Dj S rv q |str x=>exact ri.eS λt=>Cj S rv q |_=>exact bM q
theorem Reps.extract{h:Heap}{items:Array Value}{us:List V}(r:Reps h items.toList us)(i j:Nat):Reps h (items.extract i j).toList ((us.drop i).take (j-i)):=by
 rw[Array.toList_extract];exact(r.drop i).take (j-i)
theorem Ij{va vl vh vv:Value}{a lo hi v:V}{K:H->Prop}(S:St cx fm ρ σ s)(ra:Rep s.heap va a)(rl:Rep s.heap vl lo)(rh:Rep s.heap vh hi)(rv:Rep s.heap vv v)(q:mM a lo hi v σ K):
 wpAny (model cx.prog cx.w) A (setItem va (.ref s.heap.objs.size) vv) (Post cx fm ρ σ s Same (λJ σ=>K σ)) E {s with heap:=s.heap.push {cls:=.type "slice",data:=.fields #[vl,vh,.none]}}:=by
 have grow:∀b o,s.heap.get? b=some o->(s.heap.push {cls:=.type "slice",data:=.fields #[vl,vh,.none]}).get? b=some o:=λb o e=>aN _ e
 have S1:St cx fm ρ σ {s with heap:=s.heap.push {cls:=.type "slice",data:=.fields #[vl,vh,.none]}}:=S.grow grow rfl rfl
 have st:Stp fm σ σ s.heap (s.heap.push {cls:=.type "slice",data:=.fields #[vl,vh,.none]}):=.grow grow (λJ e=>.inl e)
 refine ra.isO q λa q=>rv.isO q λb q=>?_
 ·refine e02 q λhne q=>?_
  refine kH q λl hl q=>?_
  refine kH q λm hm q0z=>e02 q0z λz9z q=>?_;refine e02 z9z λz1 z2=>?_
  refine kH q λr hr q0z=>e02 q0z λz3 q=>?_
  refine e22 (S1.own _ _ (kB hl)) λit n e rs=>?_
  refine e22 (S1.own _ _ (kB hm)) λit' n' e' rs'=>?_
  have sz:=rs.sz;have sz':=rs'.sz;unfold rZ at hr;refine kY hr λi hi' hr=>?_
  refine mapS hr λj hj z10z=>?_;obtain rfl:=z10z
  refine e12 (rD rl hi') λp hp z11z=>?_;obtain rfl:=z11z
  refine e12 (rD rh hj) λq' hq z12z=>?_;obtain rfl:=z12z
  refine vJ e e' hne (Heap.IsSliceOf.new ..) hp hq (by lia) (by lia) λh' hh hs=>?_
  refine e11 hh λk hk=>?_
  refine Post.trans (s₁:={s with heap:=s.heap.push _}) st (nA S1 (by rw[kB hl];rfl) hs (λtk=>.ofList hk ?_) rfl rfl q λJ=>rfl)
  simp only[gH];rw[sz];refine((Reps.append ?_ (rs'.mono tk)).append ?_)
  ·have:=(rs.extract 0 (p.elim 0 (clipAt l.length))).mono tk
   simpa using this
  ·have:=(rs.extract (max (p.elim 0 (clipAt l.length)) (q'.elim l.length (clipAt l.length))) l.length).mono tk
   rwa [dH (by simp)] at this
end
end
section
open PySem.SeqAt
structure KOk(K:Frag):Prop where
 ga:findIn K (.ref jV) "__getattribute__"=some (some (.builtin "object.__getattribute__"))
 gt:findIn K (.ref jV) "__getattr__"=some none
 sa:findIn K (.ref jV) "__setattr__"=some (some (.builtin "object.__setattr__"))
 hd:hasDictIn K jV=true
 po:plainOver K jV=true
 at_:∀x:At,findIn K (.ref jV) x.str=some none/\takerIn K jV x.str=some none
 makes:makesIn K jV=true
 init:findIn K (.ref jV) "__init__"=some (some (.ref 356))/\typeIn K (.ref 356)=some (.type "function")
 parts:findIn K (.ref jV) "parts"=some (some (.ref 369))/\typeIn K (.ref 369)=some (.type "function")
 labels:findIn K (.ref jV) "labels"=some (some (.ref 376))/\typeIn K (.ref 376)=some (.type "function")
 code:∃p rest,findIn K (.ref jV) "code"=some (some (.ref p))/\specialIn K (.ref p) "__get__"=some (some (.builtin "property.__get__"))/\takesIn K (.ref p)=some true/\recIn K p "property"=some (.ref 363::rest)
theorem Tc(v:Value)(x:Str):v.isStr x=Value.isStrOf x v:=by
 cases v<;>rfl
section
variable{cx:Cx}{fm:Fm}{ρ:Rho}{σ:H}{s:Shared}{A:Around}{E:Value->Shared->Prop}{Q:QV}
theorem Gv{prog:Program}{w:World}{es:List DictEntry}{kvs:List (Str×Value)}(h:Pairs (strKind prog w) es kvs):es.any (·.refKey)=false:=by
 induction h with
 |nil=>rfl |cons h1 _ _ ih=>
  refine e11 (Value.isStrOf_shape h1) λt ht=>?_
  rw[List.any_cons,ih,Bool.or_false];simp[DictEntry.refKey,ht]
theorem Ra{prog:Program}{w:World}{h:Heap}{d:Addr}{kvs:List (Str×Value)}(D:h.DictOf (strKind prog w) d kvs):∃es n,h.get? d=some (dictOf es n)/\Pairs (strKind prog w) es kvs/\KeysOf (strKind prog w) es.toArray/\(kvs.map (·.1)).Nodup:=by
 obtain⟨⟨oc,od,oda,osl⟩,es,ep,ho,⟨h1,h2,h3⟩,hd,hk,hp,hn⟩:=D;dsimp only at h1 h2 h3 hd;subst h1 h2 h3 hd;exact⟨es.toList,ep,ho,hp,hk,hn⟩
theorem sF{prog:Program}{w:World}{es:List DictEntry}{n:Nat}{kvs:List (Str×Value)}(hp:Pairs (strKind prog w) es kvs)(x:Str):lookIn x (dictOf es n)=some (valueAt kvs x):=by
 rw[lookIn_dict];unfold getL;have hf:=hp.find x;have e:(λe:DictEntry=>e.key.isStr x)=λe=>(strKind prog w).is x e.key:=funext λe=>Tc e.key x
 rw[e]
 induction q:es.find? λe=>(strKind prog w).is x e.key with
 |some y=>rw[q] at hf;simp only[←hf];rfl
 |none=>rw[q] at hf;simp only[Gv hp,fI,if_false,←hf];rfl
theorem Ia{h:Heap}{a C d:Addr}{kvs:List (Str×Value)}{prog:Program}{w:World}(ha:h.get? a=some (instObj C d))(D:h.DictOf (strKind prog w) d kvs):∃es n,InstAt h a (instObj C d) C (some (dictOf es n))/\Pairs (strKind prog w) es kvs:=by
 refine e23 (Ra D) λes n e hp z3z=>?_
 exact⟨es,n,⟨ha,rfl,rfl,e⟩,hp⟩
theorem vZ{h:Heap}{v:Value}{u:V}(r:Rep h v u)(hne:oD u=true):handedIn v=true:=by
 cases r with
 |raw v=>exact by contradiction
 |_=>rfl
theorem St.K{cx:Cx}(T:TopOk cx)(S:St cx fm ρ σ s):cx.K.In s.heap:=T.K.keeps S.keep
end
section
variable{cx:Cx}{fm:Fm}{ρ:Rho}{σ:H}{s:Shared}{A:Around}{E:Value->Shared->Prop}{Q:QV}
theorem Iu{va:Value}{a:V}{x:At}{expr:Bool}(T:TopOk cx)(KO:KOk cx.K)(S:St cx fm ρ σ s)(ra:Rep s.heap va a)(q:sP a x σ Q):
 wpAny (model cx.prog cx.w) A (getAttr va x.str expr) (Post cx fm ρ σ s Rep Q) E s:=by
 refine ra.isO q λa q=>?_
 refine kH q λz4z hi q0z=>e02 q0z λhc q=>?_;obtain⟨C,d⟩:=z4z
 subst hc;refine kH q λes he q=>?_
 refine kH q λv hv q0z=>e02 q0z λhnr q=>?_
 refine e13 (S.own _ _ (nZ he)) λkvs D hk hr=>?_
 refine e12 (oV hk hr hv) λval e rv=>?_
 refine e22 (Ia (S.own _ _ (rH hi)) D) λdes n I hp=>?_
 exact get_value (S.K T) I KO.ga (findObj_own KO.hd (KO.at_ x).1 rfl (by rw[sF hp,e])) (vZ rv hnr) (jT S rfl rfl rfl q rv)
theorem Rb{h:Heap}{kvs:List (Str×Value)}{es:List (Str×V)}(hk:kvs.map (·.1)=es.map (·.1))(hr:Reps h (kvs.map (·.2)) (es.map (·.2)))(x:Str){val:Value}{v:V}(rv:Rep h val v):
 (stored kvs x val).map (·.1)=(nN es x v).map (·.1)/\Reps h ((stored kvs x val).map (·.2)) ((nN es x v).map (·.2)):=by
 have hany:kvs.any (λkv=>decide (kv.1=x))=(es.lookup x).isSome:=by
  rw[←pK hk x];unfold valueAt;rw[Option.isSome_map,Bool.eq_iff_iff,List.find?_isSome,iN]
 unfold stored nN;rw[hany];by_cases hc:(es.lookup x).isSome=true
 ·rw[if_pos hc,if_pos hc]
  exact⟨by rw[rU,rU];exact hk,Sb rv hk hr⟩
 ·rw[if_neg hc,if_neg hc,bJ,bJ,bJ,bJ]
  exact⟨by rw[hk];rfl,hr.append (.cons rv .nil)⟩
theorem Mt(w:World)(x:Str):fR w.params x=hashStr w x:=rfl
set_option tactic.hygienic true in
theorem yG{prog:Program}{w:World}{des:List DictEntry}{n:Nat}{kvs:List (Str×Value)}(hp:Pairs (strKind prog w) des kvs)(hk:KeysOf (strKind prog w) des.toArray)(hn:(kvs.map (·.1)).Nodup)(x:Str)(v:Value)(t:Tok):
 (Obj.putName x (fR w.params x) (.str x t) v (dictOf des n)).IsDictOf (strKind prog w) (stored kvs x v)/\(Obj.putName x (fR w.params x) (.str x t) v (dictOf des n)).isFreed=false:=by
 rw[putName_eq,Mt];refine⟨⟨_,_,⟨rfl,rfl,rfl⟩,rfl,?_,?_,?_⟩,rfl⟩
 all_goals
  have e:(λe:DictEntry=>e.key.isStr x)=λe=>(strKind prog w).is x e.key:=funext λe=>Tc e.key x
 ·unfold PySem.putIn
  rw[e];split
  ·rename_i i _
   have:=hk.modify (knd:=strKind prog w) i v
   rwa [List.modify_toArray] at this
  ·have:=hk.push (knd:=strKind prog w) (k:=x) (key:=.str x t) (iB prog w x t) v
   rwa [List.push_toArray] at this
 ·unfold PySem.putIn stored
  rw[e];have hidx:=hp.findIdx x
  induction hi:des.findIdx? λe=>(strKind prog w).is x e.key with
  |some i=>
   rw[if_pos (any_of_findIdx_some (hidx▸hi))];have:=hp.modify hn hi v
   simpa using this
  |none=>
   have hnot:x∉kvs.map (·.1):=not_mem_of_findIdx_none (hidx▸hi)
   have hany:¬(kvs.any λkv=>decide (kv.1=x))=true:=by
    rw[iN];rintro⟨kv,hkv,he⟩
    exact hnot (List.mem_map.mpr ⟨kv,hkv,of_decide_eq_true he⟩)
   rw[if_neg hany];have:=hp.append (iB prog w x t) (hashStr w x) v
   simpa using this
 ·unfold stored
  split
  ·rw[keys_map_store];exact hn
  ·rename_i hany
   rw[bJ,bX];refine⟨hn,by simp,?_⟩
   intro a ha b hb;simp only[aZ,List.map_nil,aK] at hb;subst hb;intro h;refine e12 (List.mem_map.mp ha) λkv hkv z5z=>?_;obtain rfl:=z5z
   exact hany (iN.mpr ⟨kv,hkv,by simp[h]⟩)
theorem oX(es:List (Str×V))(x:Str)(v:V):(nN es x v).length<=es.length+1:=by
 unfold nN;by_cases h:(es.lookup x).isSome=true
 ·rw[if_pos h,aB];exact dA _
 ·rw[if_neg h,aD];exact aR _
theorem Ve(kvs:List (Str×Value))(x:Str)(v:Value):(stored kvs x v).length<=kvs.length+1:=by
 unfold stored;by_cases h:(kvs.any λkv=>decide (kv.1=x))=true
 ·rw[if_pos h,aB];exact dA _
 ·rw[if_neg h,aD];exact aR _
theorem Ey{prog:Program}{w:World}{K:Frag}{C x d:Addr}{s:Shared}{name:Str}{tk:Tok}{v:Value}{kvs:List (Str×Value)}{R:Result->Shared->Prop}(X:K.In s.heap)(hx:s.heap.get? x=some (instObj C d))(D:s.heap.DictOf (strKind prog w) d kvs)
 (hp:plainOver K C=true)(ht:takerIn K C name=some none)(hh:hasDictIn K C=true)(hz:kvs.length<=1000)
 (h:∀h',h'.DictOf (strKind prog w) d (stored kvs name v)->dJ d s.heap h'->R (.ok (.ret .none)) {s with heap:=h',toks:=s.toks+1}):
 codeAny (model prog w) A (.call (.builtin "object.__setattr__") ⟨[.ref x,.str name tk,v],[]⟩) R s:=by
 refine e24 (Ra D) λdes n e hp' hke hn=>?_
 have hlen':=hp'.length;have I:InstAt s.heap x (instObj C d) C (some (dictOf des n)):=⟨hx,rfl,rfl,e⟩;refine osa_open (r:=none) X I hp ht λb=>?_
 refine e12 (any_some hh) λcd hcd hd'=>?_
 refine e02 (yG (n:=n) hp' hke hn name v s.toks) λP1 P2=>?_
 refine aA (aI (aA (aA (jL hx (aA ((looks_clsIn X hcd).here ?_))))));rw[hd'];refine aI (a:=some d) (aA (aI (aA ?_)));unfold nsSet;refine aA (aA (wpAny_askSetting (aI (aA (wpAny_mkText (aA (jL e ?_)))))));dsimp only
 have c:(!des.toArray.any (·.key.isStr name)&&des.toArray.any (·.refKey))=false:=by
  rw[List.any_toArray,List.any_toArray,Gv hp',Bool.and_false]
 rw[aRefKeyMayBeTheName_at,c];refine wpAny_updatePart e ?_;have D':(s.heap.update d (Obj.putName name (fR w.params name) (.str name s.toks) v)).get? d=some (Obj.putName name (fR w.params name) (.str name s.toks) v (dictOf des n)):=cX _ e P2;refine e21 P1 λes' ep' q0z=>?_;refine e05 q0z λq1 q2 q3 q4 q5=>?_
 have:=q4.length;have hs:(stored kvs name v).length<=kvs.length+1:=Ve ..;refine aA (wpAny_lookBehind D' (by rw[q2];exact pastItsLine_dict (by rw[←gI,iU];lia)) ?_)
 exact aI (h _ ⟨_,es',ep',D',q1,q2,q3,q4,q5⟩ (cP ..))
theorem Df{va vv:Value}{a v:V}{x:At}{K:H->Prop}(T:TopOk cx)(KO:KOk cx.K)(S:St cx fm ρ σ s)(ra:Rep s.heap va a)(rv:Rep s.heap vv v)(q:oC a x v σ K):
 wpAny (model cx.prog cx.w) A (setAttr va x.str vv) (Post cx fm ρ σ s Same (λJ σ=>K σ)) E s:=by
 refine ra.isO q λa q=>?_
 refine kH q λz6z hi q0z=>e02 q0z λhc q=>?_;obtain⟨C,d⟩:=z6z
 subst hc;refine kH q λes he q0z=>e02 q0z λhz q=>?_
 have ha:=S.own _ _ (rH hi);refine e13 (S.own _ _ (nZ he)) λkvs D hk hr=>?_
 refine e22 (Ra D) λdes n e z7z=>?_
 have hlen:kvs.length=es.length:=(aB ..).symm.trans ((congrArg List.length hk).trans (aB ..));have X:=S.K T;have I:InstAt s.heap _ (instObj jV d) jV (some (dictOf des n)):=⟨ha,rfl,rfl,e⟩;refine set_plain X I KO.sa ?_;refine Ey (s:={s with toks:=s.toks+1}) X ha D KO.po (KO.at_ x).2 KO.hd (by lia) λh' D' hs=>?_
 exact nA S (by rw[nZ he];rfl) hs (λtk=>let st:=Rb hk (hr.mono tk) x.str (rv.mono tk);.ofSd D' st.1 st.2) rfl rfl q λJ=>rfl
end
end
section
open PySem.SeqAt
noncomputable def biV:Bi->Value
 |.len=>.builtin "len"|.abs=>.builtin "abs"|.sum=>.builtin "sum"|.max=>.builtin "max"|.min=>.builtin "min"|.any=>.builtin "any"
 |.isbool=>.builtin "isinstance"|.list=>.type "list"
theorem Uf{h:Heap}:∀{us:List V} {vs:List Value} {ns:List Int},Reps h vs us->ints? us=some ns->∃xs:List (Int×Tok),vs=xs.map (λp=>Value.int p.1 p.2)/\xs.map (·.1)=ns:=by
 intro us
 induction us with
 |nil=>intro vs ns r e;exact r.e0 ⟨[],rfl,aX e⟩
 |cons u us ih=>
  intro vs ns r e;refine r.eC λv vs a rs=>?_
  induction u using V.casesOn with
  |int i=>
   refine mapS e λb hb z1z=>?_;obtain rfl:=z1z
   refine e12 (ih rs hb) λxs h1 h2=>?_
   exact a.eI λt=>⟨(_,t)::xs,congrArg _ h1,congrArg _ h2⟩
  |_=>exact by contradiction
section
variable{cx:Cx}{fm:Fm}{ρ:Rho}{σ:H}{s:Shared}{A:Around}{E:Value->Shared->Prop}{Q:QV}
theorem Yy{v:Value}{u:V}(S:St cx fm ρ σ s)(r:Rep s.heap v u)(q:lenW u σ Q):wpAny (model cx.prog cx.w) A (call (biV .len) [v]) (Post cx fm ρ σ s Rep Q) E s:=by
 induction u using V.casesOn with
 |obj a=>
  refine kH q λl hl q0z=>e02 q0z λhz q=>?_
  refine e22 (S.listR hl) λit n e rs=>?_
  have sz:=rs.sz;exact r.eO (Calls.call_len_list ⟨_,e,rfl,n,rfl⟩ (by rw[sz];exact Sh hz) (jT S rfl rfl rfl q (by rw[sz];exact .int _ _)))
 |tup l=>exact r.eT λa xs t rs=>PyProof.Rows.len_tuple t (by rw[rs.sz];exact Sh q.1) (jT S rfl rfl rfl q.2 (by rw[rs.sz];exact .int _ _))
 |_=>exact bM q
theorem Fx{l:List V}{ns:List Int}{a:Addr}(hA:A.handled=none)(S:St cx fm ρ σ s)(hl:jX (σ a)=some l)(hn:ints? l=some ns)(q:Q (.int ns.sum) σ):
 wpAny (model cx.prog cx.w) A (call (biV .sum) [.ref a]) (Post cx fm ρ σ s Rep Q) E s:=by
 refine e22 (S.own _ _ (kB hl)) λit n e rs=>?_
 refine e12 (Uf rs hn) λxs h1 h2=>?_
 refine sum_intListG (xs:=xs.toArray) hA ⟨_,e,rfl,n,?_⟩ λh' tk t' k=>nC S k rfl rfl q ?_
 ·rw[←Array.toArray_toList (xs:=it),h1];exact congrArg (Data.seq · n) (List.map_toArray ..).symm
 ·rw[preSum_eq]
  have:(xs.toArray.toList.map (·.1)).take xs.toArray.size=ns:=by
   subst h2;exact dH (cZ (aB ..))
  rw[this];exact .int _ _
theorem any_ok{l:List V}{a:Addr}(hA:A.handled=none)(S:St cx fm ρ σ s)(hl:jX (σ a)=some l)(hf:∀v∈l,v=.bool false)(q:Q (.bool false) σ):
 wpAny (model cx.prog cx.w) A (call (biV .any) [.ref a]) (Post cx fm ρ σ s Rep Q) E s:=by
 refine e22 (S.own _ _ (kB hl)) λit n e rs=>?_
 have hL:s.heap.IsList _ it:=⟨_,e,rfl,n,rfl⟩;have hlt:=cG e;refine call_any_walk (wpAny_pyIter_list hL ?_)
 refine⟨s.heap.objs.size,[s.heap.objs.size,_],[s.heap.objs.size],it.size,_,_,λi=>false,rfl,Walks.list (A:=A.in1) hA _ _ (eP hlt) it,
  ⟨⟨_,cO _ rfl,rfl,rfl⟩,hL.push _⟩,λi v s' Q' E' hP hQ=>?_,λh' tk hk=>?_⟩
 ·refine e12 (rs.get' (i:=i) (v:=v) (by rw[cE];exact hP)) λu h1 h2=>?_
  rw[hf u (cJ h1)] at h2;exact h2.eB (cU hQ)
 ·refine nC S (λb o e'=>hk b o ?_ (aN _ e')) rfl rfl q ?_
  ·exact λz=>eD _ (aK.mp z▸cG e')
  ·rw[show((bD it.size).any λi=>false)=false from List.any_eq_false.mpr λJ J=>(λh=>by injection h)];exact .bool _
theorem Ls{l:List V}{a:Addr}(S:St cx fm ρ σ s)(hl:jX (σ a)=some l)(q:newL σ l Q):
 wpAny (model cx.prog cx.w) A (call (biV .list) [.ref a]) (Post cx fm ρ σ s Rep Q) E s:=by
 refine e02 q λhz q=>?_
 refine e22 (S.own _ _ (kB hl)) λit n e rs=>?_
 have szl:it.size<=sizeLine:=kZ (by rw[rs.sz];exact hz)
 refine call_list_seq _ (.inl rfl) e rfl rfl (hsz:=szl) λh' c' k hg=>?_
 have hf:s.heap.get? s.heap.objs.size=none:=bW (aR _);have S':St cx fm ρ σ {s with heap:=h'}:=S.grow k rfl rfl
 refine e02 (S.loc.apartOf (aR _)) λa1 a2=>?_
 refine⟨_,_,q _ (S.toStB.free (aR _)),.obj _,⟨S'.toStB.claim (.ofList hg (rs.mono λJ J t=>t.keeps k)) (S.toStB.fresh_h₀ (aR _)) (λhm=>eD _ (FunFrames.lt S.frames hm)),S'.loc.claim a1 a2⟩,.grow k (λb e=>?_)⟩
 by_cases h:b=s.heap.objs.size
 ·subst h;exact .inr hf
 ·rw[jQ _ _ h] at e;exact .inl e
theorem bi_ok{b:Bi}{vals:List Value}{us:List V}(hA:A.handled=none)(S:St cx fm ρ σ s)(ra:Reps s.heap vals us)(q:biW b us σ Q):
 wpAny (model cx.prog cx.w) A (call (biV b) vals) (Post cx fm ρ σ s Rep Q) E s:=by
 induction b with
 |len=>exact ra.one q λv u r q=>Yy S r q |abs=>exact ra.one q λv u r q=>r.isI q λx t q=>call_abs_int λu tk=>jT S rfl rfl rfl q (.int _ _) |max=>
  refine ra.two q λv u w x r r' q=>r.ii r' q λx t y u q=>max_two_ints hA λh' tk k=>nC S k rfl rfl q ?_
  split
  ·rw[gB (bK ‹_›)];exact .int _ _
  ·rw[Int.max_eq_left (fT.mp ‹_›)];exact .int _ _
 |min=>
  refine ra.two q λv u w x r r' q=>r.ii r' q λx t y u q=>min_two_ints hA λh' tk k=>nC S k rfl rfl q ?_
  split
  ·rw[Int.min_eq_right (bK ‹_›)];exact .int _ _
  ·rw[Int.min_eq_left (fT.mp ‹_›)];exact .int _ _
 |sum=>
  refine ra.one q λv u r q=>r.isO q λa q=>?_
  refine kH q λl hl q=>?_
  refine kH q λns hn q0z=>e02 q0z λhz q=>?_
  exact Fx hA S hl hn q
 |any=>
  refine ra.one q λv u r q=>r.isO q λa q=>?_
  refine kH q λl hl q0z=>e03 q0z λhz hf q=>?_
  exact any_ok hA S hl hf q
 |isbool=>
  refine ra.two q λv u w x r r' q=>r.isI q λi t q=>?_
  induction x using V.casesOn with
  |raw z=>
   have q1:z=.type "bool"/\Q (.bool false) σ:=q;refine e02 q1 λz2z q2=>?_;obtain rfl:=z2z
   exact r'.eR (IsiPair.int_bool (jT S rfl rfl rfl q2 (.bool _)))
  |_=>exact bM q
 |list=>
  refine ra.one q λv u r q=>r.isO q λa q=>?_
  refine kH q λl hl q=>?_
  exact Ls S hl q
end
end
section
open PySem.SeqAt
noncomputable def CTK(cx:Cx)(n:Nat):mJ:=λf us σ Q X=>keepIn cx.K (.ref f)=true/\CT cx n f us σ Q X
noncomputable def SE(cx:Cx)(fm:Fm)(n:Nat)(e:Expr)(ie:IE):Prop:=
 ∀ρ σ Q X,wpE (CTK cx n) ie ρ σ Q X->TE cx fm (n+1) ρ σ (eval e fm.env) Q X
noncomputable def ST(cx:Cx)(fm:Fm)(n:Nat)(e:Expr)(ie:IE):Prop:=
 ∀ρ σ (Q:Bool->H->Prop) X,wpE (CTK cx n) ie ρ σ (λv σ=>isB v λb=>Q b σ) X->TG cx fm (n+1) ρ σ Same (isTrue e fm.env (eval e fm.env)) Q X
noncomputable def SEs(cx:Cx)(fm:Fm)(n:Nat)(es:List Expr)(ies:IEs):Prop:=
 ∀pos ρ σ Q X,wpEs (CTK cx n) ies ρ σ Q X->TG cx fm (n+1) ρ σ Reps (spliced (backTo pos (starEach es fm.env))) Q X
section
variable{cx:Cx}{fm:Fm}{ρ:Rho}{σ:H}{s:Shared}{A:Around}{α β γ δ:Type}{R:Heap->α->β->Prop}{R':Heap->γ->δ->Prop}{P:β->H->Prop}{Q:δ->H->Prop}{X:H->Prop}{M:Model}
theorem Kj{t:Sem α}{u:α->Sem γ}(h:wpAny M A t (Post cx fm ρ σ s R P) (kT cx fm ρ σ s X) s)
 (hk:∀a b σ' s',P b σ'->R s'.heap a b->St cx fm ρ σ' s'->Stp fm σ σ' s.heap s'.heap->wpAny M A (u a) (Post cx fm ρ σ' s' R' Q) (kT cx fm ρ σ' s' X) s'):
 wpAny M A t (λa s'=>wpAny M A (u a) (Post cx fm ρ σ s R' Q) (kT cx fm ρ σ s X) s') (kT cx fm ρ σ s X) s:=
 aM h (λa s' ⟨b,σ',p,r,S',st⟩=>aM (hk a b σ' s' p r S' st) (λJ J z=>z.trans st) λJ J z=>z.trans st) λJ J z=>z
theorem jU{t:Sem α}{u:α->Sem γ}(h:wpAny M A t (Post cx fm ρ σ s R P) (kT cx fm ρ σ s X) s)
 (hk:∀a b σ' s',P b σ'->R s'.heap a b->St cx fm ρ σ' s'->Stp fm σ σ' s.heap s'.heap->wpAny M A (u a) (Post cx fm ρ σ' s' R' Q) (kT cx fm ρ σ' s' X) s'):
 wpAny M A (t>>=u) (Post cx fm ρ σ s R' Q) (kT cx fm ρ σ s X) s:=aA (Kj h hk)
theorem lL{G:α->(γ->Shared->Prop)->(Value->Shared->Prop)->Shared->Prop}{t:Sem α}(h:wpAny M A t (Post cx fm ρ σ s R P) (kT cx fm ρ σ s X) s)
 (mono:∀a Q Q' E E' s,(∀x s,Q x s->Q' x s)->(∀e s,E e s->E' e s)->G a Q E s->G a Q' E' s)
 (hk:∀a b σ' s',P b σ'->R s'.heap a b->St cx fm ρ σ' s'->Stp fm σ σ' s.heap s'.heap->G a (Post cx fm ρ σ' s' R' Q) (kT cx fm ρ σ' s' X) s'):
 wpAny M A t (λa s'=>G a (Post cx fm ρ σ s R' Q) (kT cx fm ρ σ s X) s') (kT cx fm ρ σ s X) s:=
 aM h (λa s' ⟨b,σ',p,r,S',st⟩=>mono a _ _ _ _ s' (λJ J z=>z.trans st) (λJ J z=>z.trans st) (hk a b σ' s' p r S' st)) λJ J z=>z
end
section
variable{cx:Cx}{fm:Fm}{n:Nat}
theorem SE.int(i:Int)(k pos):SE cx fm n (.Constant (.int i) k pos) (.val (.int i)):=λρ σ Q X w A s J J S=>
 wpAny_Constant_int (jT S rfl rfl rfl w (.int _ _))
theorem SE.str(x:Str)(k pos):SE cx fm n (.Constant (.str x) k pos) (.val (.str x)):=λρ σ Q X w A s J J S=>
 jM (jT S rfl rfl rfl w (.str _ _))
theorem SE.none(k pos):SE cx fm n (.Constant .none k pos) (.val .none):=λρ σ Q X w A s J J S=>
 wpAny_Constant_none (jT S rfl rfl rfl w .none)
theorem SE.bool(b k pos):SE cx fm n (.Constant (.bool b) k pos) (.val (.bool b)):=λρ σ Q X w A s J J S=>
 wpAny_Constant_bool (jT S rfl rfl rfl w (.bool _))
noncomputable def GV(cx:Cx)(x:Str)(v:V):Prop:=∃val,(cx.mg x=some val∨(cx.mg x=none/\cx.mb x=some val))/\Rep cx.h₀ val v
theorem Tk.of_keep{cx:Cx}{fs:List Env}{σ:H}{s:Shared}(S:StB cx fs σ s):Tk cx.h₀ s.heap:=λa i t=>t.keeps S.keep
theorem SE.glob{x:Str}{pos}{v:V}(T:TopOk cx)(hk:fm.env.kindOf x=some .globalImplicit)(hd:(x==("__debug__":Str))=false)(g:GV cx x v):SE cx fm n (.Name x pos) (.val v):=λρ σ Q X w A s J J S=>by
 refine e12 g λval hv r=>?_
 have hg:s.heap.Ns fm.env.globals cx.mg:=by rw[S.loc.env.globals];exact T.g.keeps S.keep
 have hb:s.heap.Ns fm.env.builtins cx.mb:=by rw[S.loc.env.builtins];exact T.b.keeps S.keep
 have r':=r.mono (Tk.of_keep S.toStB);refine Calls.Name_function_global S.loc.env.kind hk ?_ hd;rcases hv with hv|⟨h0,hv⟩
 ·exact Calls.loadGlobal_global hg hv (jT S rfl rfl rfl w r')
 ·exact Calls.loadGlobal_builtin hg h0 hb hv (jT S rfl rfl rfl w r')
theorem Rh{x:Str}{i:Nat}{ρ:Rho}{σ:H}{s:Shared}{A:Around}{E:Value->Shared->Prop}{v:V}{M:Model}{Q:Value->Shared->Prop}(hx:fm.nm[i]?=some x)(hk:fm.env.kindOf x=some .local∨fm.env.kindOf x=some .cell∨fm.env.kindOf x=some .free)(hn:(x==("__classdict__":Str))=false)
 (S:St cx fm ρ σ s)(hv:get ρ i=some v)(q:∀val,Rep s.heap val v->Q val s):wpAny M A (loadName fm.env x) Q E s:=by
 rcases hk with hk|hk|hk
 ·refine e12 S.loc.ns λm hm hr=>?_
  refine e12 (hr i x v hx hv hk) λval h1 h2=>?_
  exact wpAny_loadName_local S.loc.env.kind hk hm h1 (q val h2)
 ·refine e23 (S.loc.cellv i x v hx hv (.inl hk)) λc val h1 h2 h3=>?_
  exact wpAny_loadName_cell S.loc.env.kind hk h1 h2 (q val h3)
 ·refine e23 (S.loc.cellv i x v hx hv (.inr hk)) λc val h1 h2 h3=>?_
  exact wpAny_loadName_free S.loc.env.kind hk h1 h2 (q val h3) hn
theorem SE.loc{x:Str}{pos}{i:Nat}(hx:fm.nm[i]?=some x)(hk:fm.env.kindOf x=some .local∨fm.env.kindOf x=some .cell∨fm.env.kindOf x=some .free)(hd:(x==("__debug__":Str))=false)(hn:(x==("__classdict__":Str))=false):
 SE cx fm n (.Name x pos) (.loc i):=λρ σ Q X w A s J J S=>by
 refine kH w λv hv q=>?_
 exact wpAny_Name (Rh hx hk hn S hv λval r=>jT S rfl rfl rfl q r) hd
theorem SE.bin{l r:Expr}{il ir:IE}{op pos}(hl:SE cx fm n l il)(hr:SE cx fm n r ir):SE cx fm n (.BinOp l op r pos) (.bin op il ir):=λρ σ Q X w A s a b S=>by
 rw[arm_eval_BinOp];refine jU (hl _ _ _ _ w A s a b S) λva v σ' s' w' ra S' st=>jU (aO (hr _ _ _ _ w' A s' a b S')) λvb u σ₂ s₂ w₂ rb S₂ st₂=>?_
 exact aA (aQ (fJ (bin_ok S₂ (ra.mono (Stp.tk S' st₂)) rb w₂)))
theorem SE.neg{x:Expr}{ix:IE}{pos}(hx:SE cx fm n x ix):SE cx fm n (.UnaryOp .USub x pos) (.neg ix):=λρ σ Q X w A s a b S=>by
 rw[arm_eval_UnaryOp];refine jU (hx _ _ _ _ w A s a b S) λva v σ' s' w' ra S' st=>?_
 refine Sf w' λi z1z q=>?_;obtain rfl:=z1z
 cases ra;exact aA (aQ (aO (PyProof.Rows.neg_int (jT S' rfl rfl rfl q (.int _ _)))))
theorem SE.not{x:Expr}{ix:IE}{pos}(hx:SE cx fm n x ix):SE cx fm n (.UnaryOp .Not x pos) (.not ix):=λρ σ Q X w A s a b S=>by
 rw[arm_eval_UnaryOp];refine jU (hx _ _ _ _ w A s a b S) λva v σ' s' w' ra S' st=>?_
 refine Ha w' λi z2z q=>?_;obtain rfl:=z2z
 cases ra;exact aA (aQ (aO (not_of (cU (jT S' rfl rfl rfl q (.bool _))))))
theorem SE.ite{t x y:Expr}{it ix iy:IE}{pos}(ht:ST cx fm n t it)(hx:SE cx fm n x ix)(hy:SE cx fm n y iy):SE cx fm n (.IfExp t x y pos) (.ite it ix iy):=λρ σ Q X w A s a b S=>by
 rw[arm_eval_IfExp];refine jU (ht _ _ _ _ w A s a b S) λc c' σ' s' w' e S' st=>?_
 have e:c=c':=e;subst e
 induction c
 ·exact hy _ _ _ _ w' A s' a b S'
 ·exact hx _ _ _ _ w' A s' a b S'
theorem wQ(pos:Pos)(op:BoolOp)(e₁ e₂:Expr)(rest:List Expr)(env:Env):eval (.BoolOp op (e₁::e₂::rest) pos) env=(do
 let v←eval e₁ env
 standAt pos
 let c←holding [v] (truthy v)
 match op,c with
 |.And,false|.Or,true=>pure v
 |_,_=>eval (.BoolOp op (e₂::rest) pos) env):=rfl
theorem SE.one{op:BoolOp}{x:Expr}{ix:IE}{pos}(hx:SE cx fm n x ix):SE cx fm n (.BoolOp op [x] pos) ix:=λρ σ Q X w A s a b S=>hx _ _ _ _ w A s a b S
theorem SE.and{x y:Expr}{rest:List Expr}{ix iy:IE}{pos}(hx:SE cx fm n x ix)(hy:SE cx fm n (.BoolOp .And (y::rest) pos) iy):SE cx fm n (.BoolOp .And (x::y::rest) pos) (.and ix iy):=λρ σ Q X w A s a b S=>by
 rw[wQ];refine jU (hx _ _ _ _ w A s a b S) λva v σ' s' w' ra S' st=>?_
 refine Ha w' λc z3z q=>?_;obtain rfl:=z3z
 cases ra;refine aA (aQ (aA (aO (cU ?_))))
 induction c
 ·exact aI (jT S' rfl rfl rfl q (.bool _))
 ·exact hy _ _ _ _ q A s' a b S'
theorem SE.or{x y:Expr}{rest:List Expr}{ix iy:IE}{pos}(hx:SE cx fm n x ix)(hy:SE cx fm n (.BoolOp .Or (y::rest) pos) iy):SE cx fm n (.BoolOp .Or (x::y::rest) pos) (.or ix iy):=λρ σ Q X w A s a b S=>by
 rw[wQ];refine jU (hx _ _ _ _ w A s a b S) λva v σ' s' w' ra S' st=>?_
 refine Ha w' λc z4z q=>?_;obtain rfl:=z4z
 cases ra;refine aA (aQ (aA (aO (cU ?_))))
 induction c
 ·exact hy _ _ _ _ q A s' a b S'
 ·exact aI (jT S' rfl rfl rfl q (.bool _))
theorem qV{op:CmpOp}{r:Expr}(hm:behindInMarks op r=false)(t:Sem Value):markedBehindIn op r t=t:=by
 unfold markedBehindIn;rw[hm]
theorem Gq(l:Expr)(op:CmpOp)(r:Expr)(pos:Pos)(env:Env)(hm:behindInMarks op r=false):eval (.Compare l [op] [r] pos) env=(do
 let a←eval l env
 let b←holding [a] (eval r env)
 standAt pos
 operate [a,b] (compareOp op a b)):=by
 rw[arm_eval_Compare];show(eval l env>>=λa=>compareChain pos a [op] [markedBehindIn op r (eval r env)])=_
 rw[qV hm];rfl
theorem Cq(l:Expr)(op:CmpOp)(r:Expr)(pos:Pos)(env:Env)(whole)(hm:behindInMarks op r=false):isTrue (.Compare l [op] [r] pos) env whole=(do
 let a←eval l env
 let b←holding [a] (eval r env)
 standAt pos
 let c←operate [a,b] (compareOp op a b)
 holding [c] (truthy c)):=by
 rw[arm_isTrue_Compare];show(eval l env>>=λa=>testChain pos a [op] [markedBehindIn op r (eval r env)])=_
 rw[qV hm];rfl
theorem Fq(l:Expr)(op op':CmpOp)(m r:Expr)(pos:Pos)(env:Env)(hm:behindInMarks op' r=false):eval (.Compare l [op,op'] [m,r] pos) env=(do
 let a←eval l env
 let b←holding [a] (eval m env)
 standAt pos
 let c←holding [a,b] (compareOp op a b)
 release [a,b] [c]
 if←holding [c,b] (truthy c) then(do
  let d←holding [b] (eval r env)
  standAt pos
  operate [b,d] (compareOp op' b d)) else pure c):=by
 rw[arm_eval_Compare];show(eval l env>>=λa=>compareChain pos a [op,op'] [eval m env,markedBehindIn op' r (eval r env)])=_
 rw[qV hm];rfl
theorem Bq(l:Expr)(op op':CmpOp)(m r:Expr)(pos:Pos)(env:Env)(whole)(hm:behindInMarks op' r=false):isTrue (.Compare l [op,op'] [m,r] pos) env whole=(do
 let a←eval l env
 let b←holding [a] (eval m env)
 standAt pos
 let c←holding [a,b] (compareOp op a b)
 release [a,b] [c]
 if←holding [c,b] (truthy c) then(do
  let d←holding [b] (eval r env)
  standAt pos
  let c←operate [b,d] (compareOp op' b d)
  holding [c] (truthy c)) else pure false):=by
 rw[arm_isTrue_Compare];show(eval l env>>=λa=>testChain pos a [op,op'] [eval m env,markedBehindIn op' r (eval r env)])=_
 rw[qV hm];rfl
theorem SE.cmp{l r:Expr}{il ir:IE}{op pos}(T:TopOk cx)(hm:behindInMarks op r=false)(hl:SE cx fm n l il)(hr:SE cx fm n r ir):SE cx fm n (.Compare l [op] [r] pos) (.cmp il op ir):=λρ σ Q X w A s a b S=>by
 rw[Gq _ _ _ _ _ hm];refine jU (hl _ _ _ _ w A s a b S) λva v σ' s' w' ra S' st=>jU (aO (hr _ _ _ _ w' A s' a b S')) λvb u σ₂ s₂ w₂ rb S₂ st₂=>?_
 exact aA (aQ (fJ (tM T a S₂ (ra.mono (Stp.tk S' st₂)) rb w₂ λc t q=>jT S₂ rfl rfl rfl q (.bool _))))
theorem ST.cmp{l r:Expr}{il ir:IE}{op pos}(T:TopOk cx)(hm:behindInMarks op r=false)(hl:SE cx fm n l il)(hr:SE cx fm n r ir):ST cx fm n (.Compare l [op] [r] pos) (.cmp il op ir):=λρ σ Q X w A s a b S=>by
 rw[Cq _ _ _ _ _ _ hm];refine jU (hl _ _ _ _ w A s a b S) λva v σ' s' w' ra S' st=>jU (aO (hr _ _ _ _ w' A s' a b S')) λvb u σ₂ s₂ w₂ rb S₂ st₂=>?_
 exact aA (aQ (aA (fJ (tM T a S₂ (ra.mono (Stp.tk S' st₂)) rb w₂ λc t q=>aO (cU (jT S₂ rfl rfl rfl q rfl))))))
theorem SE.cmp2{l m r:Expr}{il im ir:IE}{op op' pos}(T:TopOk cx)(hm:behindInMarks op' r=false)(hl:SE cx fm n l il)(hmm:SE cx fm n m im)(hr:SE cx fm n r ir):SE cx fm n (.Compare l [op,op'] [m,r] pos) (.cmp2 il op im op' ir):=λρ σ Q X w A s a b S=>by
 rw[Fq _ _ _ _ _ _ _ hm];refine jU (hl _ _ _ _ w A s a b S) λva v σ' s' w' ra S' st=>jU (aO (hmm _ _ _ _ w' A s' a b S')) λvb u σ₂ s₂ w₂ rb S₂ st₂=>?_
 refine aA (aQ (aA (aO (tM T a S₂ (ra.mono (Stp.tk S' st₂)) rb w₂ λc t q=>?_))))
 have S₃:St cx fm ρ σ₂ {s₂ with toks:=t}:=S₂.toks t
 refine aA (gJ (aA (aO (cU ?_))))
 induction c
 ·exact aI (jT S₂ rfl rfl rfl q (.bool _))
 ·refine aM (jU (aO (hr _ _ _ _ q A _ a b S₃)) λvd u' σ₄ s₄ w₄ rd S₄ st₄=>aA (aQ (fJ (tM T a S₄ (rb.mono (Stp.tk S₃ st₄)) rd w₄ λc t q=>jT S₄ rfl rfl rfl q (.bool _))))) (λJ J z=>z) λJ J z=>z
theorem ST.cmp2{l m r:Expr}{il im ir:IE}{op op' pos}(T:TopOk cx)(hm:behindInMarks op' r=false)(hl:SE cx fm n l il)(hmm:SE cx fm n m im)(hr:SE cx fm n r ir):ST cx fm n (.Compare l [op,op'] [m,r] pos) (.cmp2 il op im op' ir):=λρ σ Q X w A s a b S=>by
 rw[Bq _ _ _ _ _ _ _ _ hm];refine jU (hl _ _ _ _ w A s a b S) λva v σ' s' w' ra S' st=>jU (aO (hmm _ _ _ _ w' A s' a b S')) λvb u σ₂ s₂ w₂ rb S₂ st₂=>?_
 refine aA (aQ (aA (aO (tM T a S₂ (ra.mono (Stp.tk S' st₂)) rb w₂ λc t q=>?_))))
 have S₃:St cx fm ρ σ₂ {s₂ with toks:=t}:=S₂.toks t
 refine aA (gJ (aA (aO (cU ?_))))
 induction c
 ·exact aI (jT S₂ rfl rfl rfl q rfl)
 ·refine aM (jU (aO (hr _ _ _ _ q A _ a b S₃)) λvd u' σ₄ s₄ w₄ rd S₄ st₄=>aA (aQ (aA (fJ (tM T a S₄ (rb.mono (Stp.tk S₃ st₄)) rd w₄ λc t q=>aO (cU (jT S₄ rfl rfl rfl q rfl))))))) (λJ J z=>z) λJ J z=>z
theorem ST.val{e:Expr}{ie:IE}(he:∀env whole,isTrue e env whole=(do let v←whole;standAt e.pos;holding [v] (truthy v)))(h:SE cx fm n e ie):ST cx fm n e ie:=λρ σ Q X w A s a b S=>by
 rw[he];refine jU (h _ _ _ _ w A s a b S) λva v σ' s' w' ra S' st=>?_
 refine Ha w' λc z5z q=>?_;obtain rfl:=z5z
 cases ra;exact aA (aQ (aO (cU (jT S' rfl rfl rfl q rfl))))
theorem ST.truth{l r:Expr}{op:Operator}{pos}{ie:IE}(h:SE cx fm n (.BinOp l op r pos) ie):ST cx fm n (.BinOp l op r pos) (.truth ie):=λρ σ Q X w A s a b S=>by
 have he:isTrue (.BinOp l op r pos) fm.env (eval (.BinOp l op r pos) fm.env)=(do let v←eval (.BinOp l op r pos) fm.env;standAt pos;holding [v] (truthy v)):=rfl
 rw[he];refine jU (h _ _ _ _ w A s a b S) λva v σ' s' w' ra S' st=>?_
 refine Sf w' λc z6z q=>?_;obtain rfl:=z6z
 cases ra;refine aA (aQ (aO (PyProof.Rows.truthy_int ?_)));have:(c !=0)=decide (c≠0):=by by_cases h:c=0<;>simp[h]
 rw[this];exact jT S' rfl rfl rfl q rfl
theorem ST.not{x:Expr}{ix:IE}{pos}(hx:ST cx fm n x ix):ST cx fm n (.UnaryOp .Not x pos) (.not ix):=λρ σ Q X w A s a b S=>by
 rw[arm_isTrue_UnaryOp]
 have w:wpE (CTK cx n) ix ρ σ (λv σ=>isB v λb=>Q (!b) σ) X:=by
  have e:(λ(a:V) (σ:H)=>isB a λb=>isB (.bool !b) λb=>Q b σ)=λv σ=>isB v λb=>Q (!b) σ:=rfl
  exact e▸w
 refine jU (hx _ _ _ _ w A s a b S) λc c' σ' s' w' e S' st=>?_
 have e:c=c':=e;subst e;exact aI (jT S' rfl rfl rfl w' rfl)
noncomputable def SA(cx:Cx)(fm:Fm)(n:Nat)(op:BoolOp)(es:List Expr)(ie:IE):Prop:=
 ∀ρ σ (Q:Bool->H->Prop) X,wpE (CTK cx n) ie ρ σ (λv σ=>isB v λb=>Q b σ) X->TG cx fm (n+1) ρ σ Same (allTrue op es fm.env) Q X
theorem SA.one{op:BoolOp}{x:Expr}{ix:IE}(hx:ST cx fm n x ix):SA cx fm n op [x] ix:=λρ σ Q X w A s a b S=>by
 rw[arm_allTrue_cons];refine jU (hx _ _ _ _ w A s a b S) λc c' σ' s' w' e S' st=>?_
 have e:c=c':=e;subst e
 induction op<;>induction c<;>exact aI (jT S' rfl rfl rfl w' rfl)
theorem SA.and{x y:Expr}{rest:List Expr}{ix iy:IE}(hx:ST cx fm n x ix)(hy:SA cx fm n .And (y::rest) iy):SA cx fm n .And (x::y::rest) (.and ix iy):=λρ σ Q X w A s a b S=>by
 rw[arm_allTrue_cons];have w:wpE (CTK cx n) ix ρ σ (λv σ=>isB v λb=>if b=true then wpE (CTK cx n) iy ρ σ (λv σ=>isB v λb=>Q b σ) X else isB (.bool false) λb=>Q b σ) X:=w
 refine jU (hx _ _ (λb σ=>if b=true then wpE (CTK cx n) iy ρ σ (λv σ=>isB v λb=>Q b σ) X else isB (.bool false) λb=>Q b σ) _ w A s a b S) λc c' σ' s' w' e S' st=>?_
 have e:c=c':=e;subst e
 induction c
 ·exact aI (jT S' rfl rfl rfl w' rfl)
 ·exact hy _ _ _ _ w' A s' a b S'
theorem SA.or{x y:Expr}{rest:List Expr}{ix iy:IE}(hx:ST cx fm n x ix)(hy:SA cx fm n .Or (y::rest) iy):SA cx fm n .Or (x::y::rest) (.or ix iy):=λρ σ Q X w A s a b S=>by
 rw[arm_allTrue_cons];refine jU (hx _ _ (λb σ=>if b=true then isB (.bool true) λb=>Q b σ else wpE (CTK cx n) iy ρ σ (λv σ=>isB v λb=>Q b σ) X) _ w A s a b S) λc c' σ' s' w' e S' st=>?_
 have e:c=c':=e;subst e
 induction c
 ·exact hy _ _ _ _ w' A s' a b S'
 ·exact aI (jT S' rfl rfl rfl w' rfl)
theorem ST.bool{op:BoolOp}{es:List Expr}{ie:IE}{pos}(h:SA cx fm n op es ie):ST cx fm n (.BoolOp op es pos) ie:=λρ σ Q X w A s a b S=>by
 rw[arm_isTrue_BoolOp];exact h _ _ _ _ w A s a b S
theorem SEs.nil:SEs cx fm n [] .nil:=λpos ρ σ Q X w A s a b S=>dR (jT S rfl rfl rfl w .nil)
theorem SEs.cons{e:Expr}{es:List Expr}{ie:IE}{ies:IEs}(he:SE cx fm n e ie)(hes:SEs cx fm n es ies)(hs:starEach (e::es) fm.env=(false,eval e fm.env)::starEach es fm.env):SEs cx fm n (e::es) (.cons ie ies):=λpos ρ σ Q X w A s a b S=>by
 rw[hs];show wpAny _ A (spliced ((false,eval e fm.env)::backTo pos (starEach es fm.env))) _ _ s;rw[spliced];refine jU (he _ _ _ _ w A s a b S) λva v σ' s' w' ra S' st=>?_
 refine aA (aI ?_);refine jU (aO (hes pos _ _ _ _ w' A s' a b S')) λvs us σ₂ s₂ w₂ rs S₂ st₂=>?_
 exact aI (jT S₂ rfl rfl rfl w₂ (.cons (ra.mono (Stp.tk S' st₂)) rs))
theorem SE.tup{es:List Expr}{ies:IEs}{k pos}(hes:SEs cx fm n es ies):SE cx fm n (.Tuple es k pos) (.tup ies):=λρ σ Q X w A s a b S=>by
 rw[arm_eval_Tuple];refine aA (aQ ?_);refine jU (hes pos _ _ _ _ w A s a b S) λvs us σ' s' w' rs S' st=>?_
 have hl:vs.length=us.length:=rs.length;refine wpAny_newTuple ?_ (kZ (by rw[hl];exact w'.1))
 exact nC S' (λb o e=>aN _ e) rfl rfl w'.2 (.tup (IsTup.new _ _) (rs.mono λJ J t=>t.push _))
theorem SE.lst{es:List Expr}{ies:IEs}{pos}(hes:SEs cx fm n es ies):SE cx fm n (.List es pos) (.lst ies):=λρ σ Q X w A s a b S=>by
 rw[arm_eval_List];refine aA (aQ ?_);refine jU (hes pos _ _ _ _ w A s a b S) λvs us σ' s' w' rs S' st=>?_
 have hl:vs.length=us.length:=rs.length;refine wpAny_newList ?_ (kZ (by rw[hl];exact w'.1))
 exact qM S' (pP rs) w'.2
theorem SE.sub{e i:Expr}{ie ii:IE}{pos}(he:SE cx fm n e ie)(hi:SE cx fm n i ii):SE cx fm n (.Subscript e i pos) (.sub ie ii):=λρ σ Q X w A s a b S=>by
 rw[arm_eval_Subscript];refine jU (he _ _ _ _ w A s a b S) λva v σ' s' w' ra S' st=>jU (aO (hi _ _ _ _ w' A s' a b S')) λvb u σ₂ s₂ w₂ rb S₂ st₂=>?_
 exact aA (aQ (Ue S₂ (ra.mono (Stp.tk S' st₂)) rb w₂))
noncomputable def SO(cx:Cx)(fm:Fm)(n:Nat)(e:Option Expr)(ie:IE):Prop:=
 ∀ρ σ Q X,wpE (CTK cx n) ie ρ σ Q X->TE cx fm (n+1) ρ σ (valueOrNone (evalOpt e fm.env)) Q X
theorem SO.none:SO cx fm n none (.val .none):=λρ σ Q X w A s a b S=>aI (jT S rfl rfl rfl w .none)
theorem SO.some{e:Expr}{ie:IE}(h:SE cx fm n e ie):SO cx fm n (some e) ie:=h
theorem SE.sli{e:Expr}{lo hi:Option Expr}{ie il ih:IE}{p pos}(he:SE cx fm n e ie)(hl:SO cx fm n lo il)(hh:SO cx fm n hi ih):SE cx fm n (.Subscript e (.Slice lo hi eA p) pos) (.sli ie il ih):=λρ σ Q X w A s a b S=>by
 rw[arm_eval_Subscript,arm_eval_Slice];refine jU (he _ _ _ _ w A s a b S) λva v σ' s' w' ra S' st=>?_
 refine aA (aO (aA ?_))
 refine lL (G:=λl Q E s=>wpAny (model cx.prog cx.w) A ((do
  let u←holding [l] (valueOrNone (evalOpt hi fm.env))
  let s←holding [l,u] (valueOrNone (evalOpt eA fm.env))
  newFields "slice" [l,u,s])) (λi s=>wpAny (model cx.prog cx.w) A (do standAt pos;subscriptTail e (.Slice lo hi eA p) va i) Q E s) E s) (hl _ _ _ _ w' A s' a b S')
  (λl Q Q' E E' s h1 h2 z=>aM z (λJ J z=>aM z h1 h2) h2) λvl l σ₂ s₂ w₂ rl S₂ st₂=>?_
 refine aA (aO ?_)
 refine lL (G:=λu Q E s=>wpAny (model cx.prog cx.w) A ((do
  let s←holding [vl,u] (valueOrNone (evalOpt eA fm.env))
  newFields "slice" [vl,u,s])) (λi s=>wpAny (model cx.prog cx.w) A (do standAt pos;subscriptTail e (.Slice lo hi eA p) va i) Q E s) E s) (hh _ _ _ _ w₂ A s₂ a b S₂)
  (λl Q Q' E E' s h1 h2 z=>aM z (λJ J z=>aM z h1 h2) h2) λvh h σ₃ s₃ w₃ rh S₃ st₃=>?_
 refine aA (aO (aI ?_));refine wpAny_newObj_type (aA (aQ ?_));exact Ze S₃ ((ra.mono (Stp.tk S' st₂)).mono (Stp.tk S₂ st₃)) (rl.mono (Stp.tk S₂ st₃)) rh w₃
theorem SE.attr{e:Expr}{ie:IE}{x:At}{pos}(T:TopOk cx)(KO:KOk cx.K)(hb:∀env whole,attributeBase e x.str env whole=whole)(he:SE cx fm n e ie):SE cx fm n (.Attribute e x.str pos) (.attr ie x):=λρ σ Q X w A s a b S=>by
 rw[arm_eval_Attribute,hb];refine jU (he _ _ _ _ w A s a b S) λva v σ' s' w' ra S' st=>?_
 refine aA (aQ (aA (aO ?_)));refine aM (Iu (E:=kT cx fm ρ σ' s' X) T KO S' ra w') (λr s₂ z=>?_) λJ J z=>z
 exact aA (wpAny_letTemporaryGo (aI z))
end
end
section
open PySem.SeqAt
noncomputable def noStar:Expr->Bool
 |.Starred _ _=>false |_=>true
theorem nP{e:Expr}{es:List Expr}{env:Env}(h:noStar e=true):starEach (e::es) env=(false,eval e env)::starEach es env:=by
 induction e using Expr.casesOn with
 |Starred=>exact by contradiction
 |_=>rfl
theorem lD{env:Env}{pos:Pos}{es:List Expr}:es.all noStar=true->(backTo pos (starEach es env)).any (·.1)=false/\(backTo pos (starEach es env)).all (!·.1)=true:=by
 induction es with
 |nil=>exact λJ=>⟨rfl,rfl⟩ |cons e es ih=>
  intro h;refine e02 ((dD _ _).mp h) λh0 h=>?_
  rw[nP h0];exact ih h
theorem lI{M:Model}{A:Around}{E:Value->Shared->Prop}{s:Shared}{f:Value}{trees:List (Bool×Sem Value)}{Q:Args->Shared->Prop}(hp:trees.any (·.1)=false)(h:wpAny M A (spliced trees) (λvs s'=>Q ⟨vs,[]⟩ s') E s):
 wpAny M A (evalArgs f true trees []) Q E s:=by
 induction trees using List.casesOn with
 |nil=>
  unfold evalArgs;show wpAny M A (spliced []>>=_) Q E s;refine aA (aM h (λvs s' z=>aA (aI ?_)) λJ J z=>z)
  exact aO (aA (aI (aA (aI (aI z)))))
 |cons t rest=>
  obtain⟨b,x⟩:=t
  induction b with
  |false=>exact PySem.Calls.evalArgs_plain h |true=>exact by contradiction
section
variable{cx:Cx}{fm:Fm}{n:Nat}{ρ:Rho}{σ:H}{s:Shared}{A:Around}{Q:QV}{X:H->Prop}
theorem Room.sub{A:Around}{n:Nat}(h:Room A (n+1)):Room A n:=⟨h.1,by have:=h.2.1;exact rm this,by have:=h.2.2;exact rm this⟩
theorem zA{f:Addr}{vals:List Value}{us:List V}(hA:Room A n)(hf:A.frames=some fm.fs)(S:St cx fm ρ σ s)(rs:Reps s.heap vals us)(c:CT cx n f us σ Q X):
 codeAny (model cx.prog cx.w) A (.call (.ref f) ⟨vals,[]⟩) (λr s'=>match r with|.ok (.ret v)=>Post cx fm ρ σ s Rep Q v s'|.ok _=>False|.error e=>kT cx fm ρ σ s X e s') s:=
 fV (c A fm.fs s vals hA hf S.toStB rs) λr s' z=>by
  induction r with
  |ok fl=>induction fl with
   |ret v=>
    refine e24 z λu σ' z1 z2 z3 z4=>?_
    exact⟨u,σ',z1,z2,S.back z3 z4,z4.stp⟩
   |_=>exact bM z
  |error e=>
   refine e14 z λσ' z1 z2 z3 z4=>?_
   exact⟨σ',z1,z2,S.back z3 z4,z4.stp⟩
theorem Hi{f:Addr}{vals:List Value}{us:List V}(hA:Room A n)(hf:A.frames=some fm.fs)(S:St cx fm ρ σ s)(rs:Reps s.heap vals us)(c:CT cx n f us σ Q X):
 wpAny (model cx.prog cx.w) A (call (.ref f) vals) (Post cx fm ρ σ s Rep Q) (kT cx fm ρ σ s X) s:=
 wpAny_call (zA hA hf S rs c)
theorem SE.fcall{func:Expr}{args:List Expr}{ifn:IE}{ias:IEs}{pos}(T:TopOk cx)(he:∀env,eval (.Call func args [] pos) env=(do callWith pos (←eval func env) [] (backTo pos (starEach args env)) (backToKw pos (keywordEach [] env))))
 (hp:args.all noStar=true)(hfn:SE cx fm n func ifn)(has:SEs cx fm n args ias):SE cx fm n (.Call func args [] pos) (.call ifn ias):=λρ σ Q X w A s a b S=>by
 rw[he];refine jU (hfn _ _ _ _ w A s a b S) λvf u σ' s' w' rf S' st=>?_
 refine e02 (lD (env:=fm.env) (pos:=pos) hp) λp1 p2=>?_
 refine fQ (P:=λh=>cx.K.In h/\keepIn cx.K vf=true) (by rw[p1];rfl) (λh z=>keeps_K z.2 h z.1) (lI p1 ?_)
 refine lL (G:=λvs Q E s=>(cx.K.In s.heap/\keepIn cx.K vf=true)/\wpAny (model cx.prog cx.w) A (dU vf ([]++vs)) Q E s) (has pos _ _ _ _ w' A s' a b S') (λl Q Q' E E' s h1 h2 z=>⟨z.1,aM z.2 h1 h2⟩) λvs us σ₂ s₂ w₂ rs S₂ st₂=>?_
 split at w₂
 ·cases rf
  refine e02 w₂ λw3 w4=>?_
  exact⟨⟨S₂.K T,w3⟩,Hi a.sub b S₂ rs w4⟩
 ·exact w₂.elim
theorem SE.bi{func:Expr}{args:List Expr}{bi:Bi}{ias:IEs}{pos}(T:TopOk cx)(he:∀env,eval (.Call func args [] pos) env=(do callWith pos (←eval func env) [] (backTo pos (starEach args env)) (backToKw pos (keywordEach [] env))))
 (hp:args.all noStar=true)(hfn:SE cx fm n func (.val (.raw (biV bi))))(has:SEs cx fm n args ias):SE cx fm n (.Call func args [] pos) (.bi bi ias):=λρ σ Q X w A s a b S=>by
 rw[he];refine jU (P:=λ(v:V) (σ':H)=>v=V.raw (biV bi)/\σ'=σ) (hfn ρ σ (λ(v:V) (σ':H)=>v=V.raw (biV bi)/\σ'=σ) X ⟨rfl,rfl⟩ A s a b S) λvf u σ' s' w' rf S' st=>?_
 refine e02 w' λz1z z2z=>?_;obtain rfl:=z1z;obtain rfl:=z2z
 cases rf;refine e02 (lD (env:=fm.env) (pos:=pos) hp) λp1 p2=>?_
 refine fQ (P:=λJ=>True) (by rw[p1];rfl) (λh z=>⟨.machine,.inr (.inl rfl),iQ (by cases bi<;>rfl)⟩) (lI p1 ?_)
 refine lL (G:=λvs Q E s=>True/\wpAny (model cx.prog cx.w) A (dU (biV bi) ([]++vs)) Q E s) (has pos _ _ _ _ w A s' a b S') (λl Q Q' E E' s h1 h2 z=>⟨z.1,aM z.2 h1 h2⟩) λvs us σ₂ s₂ w₂ rs S₂ st₂=>?_
 exact⟨trivial,bi_ok a.1 S₂ rs w₂⟩
theorem SE.prop{e:Expr}{ie:IE}{pos}(T:TopOk cx)(KO:KOk cx.K)(hb:∀env whole,attributeBase e (ofString "code") env whole=whole)(he:SE cx fm n e ie):SE cx fm n (.Attribute e (ofString "code") pos) (.prop ie 363):=λρ σ Q X w A s a b S=>by
 rw[arm_eval_Attribute,hb];refine jU (he _ _ _ _ w A s a b S) λva v σ' s' w' ra S' st=>?_
 refine aA (aQ (aA (aO ?_)));refine e02 w' λz3z w'=>?_
 revert st;refine ra.isO w' λa₁ w' st=>?_
 refine kH w' λz4z hi q0z=>e02 q0z λhc w'=>?_;obtain⟨C,d⟩:=z4z
 subst hc;refine kH w' λes hes q0z=>e03 q0z λhk w3 w4=>?_
 refine e13 (S'.own _ _ (nZ hes)) λkvs D hk' hr=>?_
 refine e22 (Ia (S'.own _ _ (rH hi)) D) λdes nn I hp=>?_
 refine e24 KO.code λp rest c1 c2 c3 c4=>?_
 have S'':St cx fm ρ σ' {s' with toks:=s'.toks+1}:=S'.toks _
 refine get_bind (S'.K T) I KO.ga (findObj_data (by refine e12 (any_some KO.hd) λcd hc z5z=>?_;rw[hc];rfl) c1 c2 c3) KO.gt (wpAny_call (prop_get (s:={s' with toks:=s'.toks+1}) (S''.K T) c4 ?_))
 refine fV (zA (A:=A.in1) (n:=n) ⟨a.1,aC (bG (gF (Nat.mul_le_mul_left 6 (dA n)) _) _) a.2.1,?_⟩ b S'' (.cons (.obj _) .nil) w4) λr s₂ z=>?_
 ·have:=a.2.2;show A.units+1+_+_<=_;lia
 ·induction r with
  |ok fl=>induction fl with
   |ret v=>
    refine e24 z λu σ₃ z6z z3 z4 z5=>?_;refine e02 z6z λz1 z2=>?_
    exact handed_on (vZ z3 z1) (aA (wpAny_letTemporaryGo (aI ⟨u,σ₃,z2,z3,z4,z5⟩)))
   |_=>exact bM z
  |error e=>exact z.elim λJ z=>z.1.elim
theorem updL{items:Array Value}(h:Heap)(l:Addr)(n:Nat)(f:Array Value->Array Value)(e:h.get? l=some {cls:=.type "list",data:=.seq items n}):∃k,(h.update l (Obj.mapSeq f)).get? l=some {cls:=.type "list",data:=.seq (f items) k}:=
 ⟨_,cX _ e rfl⟩
theorem Bg{l:List V}{v:V}(h:l.getLast?=some v):l[l.length-1]?=some v:=by rw[←gC];exact h
section
variable{E:Value->Shared->Prop}{a:Addr}
theorem Hq{v:Value}{u:V}(S:St cx fm ρ σ s)(r:Rep s.heap v u)(q:om (jX (σ a)) λl=>l.length+1<=lim/\Q .none (upd σ a (.list (l++ [u])))):
 wpAny (model cx.prog cx.w) A (dU (.builtin "list.append") [.ref a,v]) (Post cx fm ρ σ s Rep Q) E s:=by
 refine kH q λl hl q0z=>e02 q0z λhz q=>?_
 refine e22 (S.own _ _ (kB hl)) λit k e rl=>?_
 have hL:s.heap.IsList _ it:=⟨_,e,rfl,k,rfl⟩;rw[←rl.sz] at hz;refine iG slot_list_append hL.typeIs entry_list_append (args_list_append _ _) (PySem.list_append _ it k _ (kZ (dE hz))) ⟨e,?_⟩;obtain⟨k',e'⟩:=updL s.heap _ k (λx_1=>x_1.push _) e
 exact nA S (by rw[kB hl];rfl) (cP ..) (λtk=>.ofList e' (by rw[Array.toList_push];exact(rl.mono tk).append (.cons (r.mono tk) .nil))) rfl rfl q λJ=>.none
theorem Ox(S:St cx fm ρ σ s)(q:om (jX (σ a)) λl=>l.length<=lim/\om l.getLast? λv=>Q v (upd σ a (.list l.dropLast))):
 wpAny (model cx.prog cx.w) A (dU (.builtin "list.pop") [.ref a]) (Post cx fm ρ σ s Rep Q) E s:=by
 refine kH q λl hl q0z=>e02 q0z λhz q=>?_
 refine kH q λv hv q=>?_
 refine e22 (S.own _ _ (kB hl)) λit k e rl=>?_
 have hL:s.heap.IsList _ it:=⟨_,e,rfl,k,rfl⟩;refine e12 (rl.get (Bg hv)) λy hy ry=>?_
 rw[←rl.sz,cE] at hy;rw[←rl.sz] at hz;refine iG F.slot_list_pop hL.typeIs F.entry_list_pop (F.args_list_pop_1 _) (PySem.MeetsSeq.list_pop_last _ it k y hy (kZ hz)) ⟨e,?_⟩;refine e11 (updL s.heap _ k (λxs=>xs.eraseIdxIfInBounds (it.size-1)) e) λk' e'=>?_
 refine nA S (by rw[kB hl];rfl) (cP ..) (λtk=>.ofList e' ?_) rfl rfl q λtk=>ry.mono tk
 have:(it.eraseIdxIfInBounds (it.size-1)).toList=it.toList.take (l.length-1):=by
  rw[←rl.sz,Array.toList_eraseIdxIfInBounds,List.eraseIdx_eq_take_drop_succ,List.drop_eq_nil_of_le (by rw[gI];lia),bY]
 rw[this,List.dropLast_eq_take];exact(rl.mono tk).take _
theorem Hk{b:Addr}(S:St cx fm ρ σ s)(q:a≠b/\om (jX (σ a)) λl=>om (jX (σ b)) λr=>l.length+r.length<=lim/\Q .none (upd σ a (.list (l++r)))):
 wpAny (model cx.prog cx.w) A (dU (.builtin "list.extend") [.ref a,.ref b]) (Post cx fm ρ σ s Rep Q) E s:=by
 refine e02 q λhne q=>?_
 refine kH q λl hl q=>?_
 refine kH q λr hr q0z=>e02 q0z λhz q=>?_
 refine e22 (S.own _ _ (kB hl)) λit k e rl=>?_
 refine e22 (S.own _ _ (kB hr)) λit2 k2 e2 rl2=>?_
 have hL:s.heap.IsList _ it:=⟨_,e,rfl,k,rfl⟩;rw[←rl.sz,←rl2.sz] at hz;have hz2:=kZ hz
 have hnt:¬(!it.isEmpty&&eY (it.size+it2.size))=true:=by
  rw[show eY (it.size+it2.size)=false from decide_eq_false (gN.mpr hz2),Bool.and_false];exact gP
 refine iG F.slot_list_extend hL.typeIs F.entry_list_extend (F.args_list_extend_2 _ _) (PySem.AutoSeq1.list_extend_list_list_0 _ it k _ it2 k2 hnt (aC (cN _ _) hz2) (by unfold lim at hz;exact gX hz2)) ⟨e,e2,?_⟩
 refine e11 (updL s.heap _ k (λx=>x++it2) e) λk' e'=>?_
 exact nA S (by rw[kB hl];rfl) (cP ..) (λtk=>.ofList e' (by rw[gH];exact(rl.mono tk).append (rl2.mono tk))) rfl rfl q λJ=>.none
end
theorem Un{m:Me}{id:String}{ov:Value}{vals:List Value}{o:V}{us:List V}{E:Value->Shared->Prop}(hm:m=.append/\id="list.append"∨m=.pop/\id="list.pop"∨m=.extend/\id="list.extend")
 (S:St cx fm ρ σ s)(ro:Rep s.heap ov o)(rs:Reps s.heap vals us)(q:vS (CTK cx n) o m us σ Q X):
 wpAny (model cx.prog cx.w) A (dU (.builtin id) (ov::vals)) (Post cx fm ρ σ s Rep Q) E s:=by
 rcases hm with⟨rfl,rfl⟩|⟨rfl,rfl⟩|⟨rfl,rfl⟩
 ·exact ro.isO q λa q=>rs.one q λv u r q=>Hq S r q
 ·refine ro.isO q λa q=>?_
  induction us using List.casesOn with
  |nil=>exact rs.e0 (Ox S q) |cons=>exact bM q
 ·exact ro.isO q λa q=>rs.one q λv u r q=>r.isO q λb q=>Hk S q
theorem sQ{o:Expr}{name:Str}{apos pos:Pos}{args:List Expr}{env:Env}(hb:∀env whole,attributeBase o name env whole=whole)(hp:args.all noStar=true)(hlen:args.length<30)(hl:(apos.endLine==pos.line)=true):
 eval (.Call (.Attribute o name apos) args [] pos) env=(do
  let ov←eval o env
  standAt apos.atName
  let(f,first)←holding [ov] (getMethod ov name (do return (←importBound o env).getD true))
  callWith pos f first (backTo pos (starEach args env)) []):=by
 rw[arm_eval_Call,hb]
 have h1:methodCallForm (args.length+([]:List Keyword).length) (backTo pos (starEach args env)) (backToKw pos (keywordEach [] env))=true:=by
  refine e02 (lD (env:=env) (pos:=pos) hp) λp1 p2=>?_
  show((backTo pos (starEach args env)).all (!·.1)&&true&&decide (args.length+0+0<30))=true;rw[p2];simp[hlen]
 have h2:methodCallPos true o env apos pos=pure pos:=by unfold methodCallPos;simp[hl]
 unfold methodCall calleeOf;simp only[h1,h2,if_true,pure_bind];rfl
noncomputable def meId:Me->String
 |.append=>"list.append"|.pop=>"list.pop"|_=>"list.extend"
noncomputable def vU:Me->Str
 |.append=>"append"|.pop=>"pop"|_=>"extend"
theorem SE.lmeth{o:Expr}{io:IE}{m:Me}{args:List Expr}{ias:IEs}{apos pos}(hm:m=.append∨m=.pop∨m=.extend)(hb:∀env whole,attributeBase o (vU m) env whole=whole)(hp:args.all noStar=true)(hlen:args.length<30)(hl:(apos.endLine==pos.line)=true)
 (ho:SE cx fm n o io)(has:SEs cx fm n args ias):SE cx fm n (.Call (.Attribute o (vU m) apos) args [] pos) (.meth io m ias):=λρ σ Q X w A s a b S=>by
 rw[sQ hb hp hlen hl];refine jU (ho _ _ _ _ w A s a b S) λov u σ' s' w' ro S' st=>?_
 refine e02 w' λw0 w'=>?_
 refine aA (aQ (aA (aO ?_)))
 have hlist:∃l,u=.obj l/\∃xs,jX (σ' l)=some xs:=by
  rcases hm with rfl|rfl|rfl<;>(induction u using V.casesOn<;>first|exact w0.elim|exact⟨_,rfl,kH w0 λl e J=>⟨l,e⟩⟩)
 obtain⟨l,z7z,xs,hxs⟩:=hlist;obtain rfl:=z7z
 cases ro;refine e22 (S'.own _ _ (kB hxs)) λit k e rl=>?_
 have hL:s'.heap.IsList _ it:=⟨_,e,rfl,k,rfl⟩
 have hget:∀{pl:Sem Bool} {Q':Value×List Value->Shared->Prop} {E:Value->Shared->Prop},Q' (.builtin (meId m),[.ref l]) s'->wpAny (model cx.prog cx.w) A (getMethod (.ref l) (vU m) pl) Q' E s':=by
  rcases hm with rfl|rfl|rfl<;>intro pl Q' E q
  ·exact getMethod_list_of F.slot_list_append F.type_list_append hL ⟨_,e,rfl⟩ q
  ·exact getMethod_list_of F.slot_list_pop F.type_list_pop hL ⟨_,e,rfl⟩ q
  ·exact getMethod_list_of F.slot_list_extend F.type_list_extend hL ⟨_,e,rfl⟩ q
 refine hget ?_;refine e02 (lD (env:=fm.env) (pos:=pos) hp) λp1 p2=>?_
 refine fQ (P:=λJ=>True) (by rw[p1];rfl) (λh z=>⟨.machine,.inr (.inl rfl),iQ rfl⟩) (lI p1 ?_)
 refine lL (G:=λvs Q E s=>True/\wpAny (model cx.prog cx.w) A (dU (.builtin (meId m)) ([.ref l]++vs)) Q E s) (has pos _ _ _ _ w' A s' a b S') (λl Q Q' E E' s h1 h2 z=>⟨z.1,aM z.2 h1 h2⟩) λvs us σ₂ s₂ w₂ rs S₂ st₂=>?_
 refine⟨trivial,Un ?_ S₂ (.obj _) rs w₂⟩;rcases hm with rfl|rfl|rfl
 ·exact .inl ⟨rfl,rfl⟩
 ·exact .inr (.inl ⟨rfl,rfl⟩)
 ·exact .inr (.inr ⟨rfl,rfl⟩)
theorem SE.ometh{o:Expr}{io:IE}{f:Addr}{name:Str}{apos pos}(T:TopOk cx)(KO:KOk cx.K)(hf:name=ofString "parts"/\f=369∨name=ofString "labels"/\f=376)(hb:∀env whole,attributeBase o name env whole=whole)(hl:(apos.endLine==pos.line)=true)
 (ho:SE cx fm n o io):SE cx fm n (.Call (.Attribute o name apos) [] [] pos) (.meth io (.call f) .nil):=λρ σ Q X w A s a b S=>by
 rw[sQ hb rfl (by decide) hl]
 refine jU (ho _ _ _ _ w A s a b S) λov u σ' s' w' ro S' st=>?_
 refine e03 w' λz8z z9z w'=>?_
 refine aA (aQ (aA (aO ?_)));revert st;refine ro.isO w' λa₁ w' st=>?_
 ·refine kH w' λz10z hi q0z=>e02 q0z λhc w'=>?_;obtain⟨C,d⟩:=z10z
  subst hc;refine kH w' λes hes q0z=>e03 q0z λhk w3 w4=>?_
  refine e13 (S'.own _ _ (nZ hes)) λkvs D hk' hr=>?_
  refine e22 (Ia (S'.own _ _ (rH hi)) D) λdes nn I hp=>?_
  have hfind:findIn cx.K (.ref jV) name=some (some (.ref f))/\typeIn cx.K (.ref f)=some (.type "function"):=by
   rcases hf with⟨rfl,rfl⟩|⟨rfl,rfl⟩
   ·exact KO.parts
   ·exact KO.labels
  have hnk:valueAt kvs name=eA:=by
   unfold valueAt;rw[Option.map_eq_none_iff,List.find?_eq_none];intro kv hkv;have h1:kv.1∈Za:=by rw[←hk,←hk'];exact eZ hkv
   have h2:name∉Za:=by rcases hf with⟨rfl,_⟩|⟨rfl,_⟩<;>decide
   exact λe=>h2 (of_decide_eq_true e▸h1)
  refine method_fn (S'.K T) I KO.ga KO.gt hfind.1 hfind.2 ?_ ?_
  ·show(lookIn name (dictOf des nn)).map _=_
   rw[sF hp,hnk];rfl
  ·refine fQ (P:=λh=>cx.K.In h) rfl (λh z=>keeps_K w3 h z) (evalArgs_nil3 ⟨S'.K T,?_⟩)
   exact Hi a.sub b S' (.cons (.obj _) .nil) w4
theorem Bj{h:Heap}(ps:List Str):∀t:Nat,Reps h (strsFrom t ps) (ps.map V.str):=by
 induction ps with
 |nil=>exact λJ=>.nil |cons p r ih=>exact λt=>.cons (.str _ _) (ih (t+1))
set_option tactic.hygienic true in
theorem SE.split{o:Expr}{io:IE}{k}{apos cpos pos}(hb:∀env whole,attributeBase o "split" env whole=whole)(hl:(apos.endLine==pos.line)=true)
 (ho:SE cx fm n o io):SE cx fm n (.Call (.Attribute o "split" apos) [.Constant (.str " ") k cpos] [] pos) (.split io):=λρ σ Q X w A s a b S=>by
 rw[sQ hb rfl (by simp) hl]
 refine jU (ho _ _ _ _ w A s a b S) λov u σ' s' w' ro S' st=>?_
 refine aA (aQ (aA (aO ?_)));revert st;refine ro.isTx w' λx t w' st=>?_
 ·refine kH w' λws hw q0z=>e02 q0z λhz w'=>?_
  unfold wO at hw;split at hw
  ·rename_i hc
   injection hw with qz;subst qz
   refine e02 ((dD _ _).mp hc) λhc h3=>?_
   refine e02 ((dD _ _).mp hc) λh1 h2=>?_
   have h1:=(dT _).mp h1;have h2:=(dT _).mp h2;have h3:=of_decide_eq_true h3;refine GM.split ?_;refine fQ (P:=λJ=>True) rfl (λh z=>⟨.machine,.inr (.inl rfl),iQ rfl⟩) (lI rfl ?_)
   refine dN (jM (k:=k) (pos:=cpos) (dR ⟨trivial,?_⟩));rw[aB] at hz;refine call_meets F.slot_str_split (typeIs_str _ _ _) F.entry_str_split (F.args_str_split_2 _ _) (meets_str_split_sep x " " t _ h1 rfl h2 (kZ h3) (kZ hz)) ?_;exact qM S' (pP (by exact Bj _ _)) w'
  ·injection hw
end
end
section
open PySem.SeqAt
section
variable{cx:Cx}{fm:Fm}{n:Nat}{α:Type}[DecidableEq α](knd:KeyKind cx.prog cx.w α)(kv:α->Nat->Value)
noncomputable def RP(ks:List α)(h:Heap)(vs:List (Value×Value))(us:List V):Prop:=Carries knd vs (ks.zip (vs.map (·.2)))/\Reps h (vs.map (·.2)) us/\vs.length=ks.length
inductive oQ (kc:α->Const):List (Option Expr)->List α->Prop
 |nil:oQ kc [] []
 |cons {k:α} {n pos es ks}:oQ kc es ks->oQ kc (some (.Constant (kc k) n pos)::es) (k::ks)
inductive SVs (cx:Cx) (fm:Fm) (n:Nat):List Expr->IEs->Prop
 |nil:SVs cx fm n [] .nil
 |cons {e es ie ies}:SE cx fm n e ie->SVs cx fm n es ies->SVs cx fm n (e::es) (.cons ie ies)
variable{knd kv}{kc:α->Const}
theorem Gc(hc:∀{k:α} {nn pos env} {M:Model} {A:Around} {E:Value->Shared->Prop} {s:Shared} {Q:Value->Shared->Prop},Q (kv k s.toks) {s with toks:=s.toks+1}->wpAny M A (eval (.Constant (kc k) nn pos) env) Q E s)
 (hk:∀k t,knd.is k (kv k t)=true){pos:Pos}:∀{kes:List (Option Expr)} {ks:List α} {ves:List Expr} {ies:IEs},oQ kc kes ks->SVs cx fm n ves ies->kes.length=ves.length->∀{ρ σ Q X},wpEs (CTK cx n) ies ρ σ Q X->
   TG cx fm (n+1) ρ σ (RP knd ks) (evalPairs (pairTrees kes ves fm.env pos)) Q X
 |_,_,_,_,.nil,.nil,_,ρ,σ,Q,X,w=>λA s a b S=>evalPairs_nil (jT S rfl rfl rfl w ⟨trivial,.nil,rfl⟩) |_,_,_,_,.cons (k:=k) hks,.cons he hves,hl,ρ,σ,Q,X,w=>λA s a b S=>by
  have hl:=fW hl;show wpAny _ A (evalPairs ((eval _ fm.env,(do let x←eval _ fm.env;standAt pos;pure x))::pairTrees _ _ fm.env pos)) _ _ s
  rw[evalPairs];refine aA (hc (k:=k) ?_);refine aA (aO (aA ?_));have S1:St cx fm ρ σ {s with toks:=s.toks+1}:=S.toks _
  refine lL (s:={s with toks:=s.toks+1}) (G:=λx Q E s=>wpAny (model cx.prog cx.w) A (do standAt pos;pure x) (λvv s=>wpAny (model cx.prog cx.w) A (do let rest←holding [kv k _,vv] (evalPairs (pairTrees _ _ fm.env pos));pure ((kv k _,vv)::rest)) Q E s) E s) (he _ _ _ _ w A _ a b S1)
   (λl Q Q' E E' s h1 h2 z=>aM z (λJ J z=>aM z h1 h2) h2) λva v σ' s' w' ra S' st=>?_
  refine aA (aQ (aI ?_));refine jU (aO (Gc hc hk hks hves hl w' A s' a b S')) λvs us σ₂ s₂ w₂ rs S₂ st₂=>?_
  exact aI (jT S₂ rfl rfl rfl w₂ ⟨⟨hk _ _,rfl,rs.1⟩,.cons (ra.mono (Stp.tk S' st₂)) rs.2.1,congrArg (· +1) rs.2.2⟩)
theorem uL(σ:H)(a:Addr)(o o':O):upd (upd σ a o) a o'=upd σ a o':=by
 funext b
 by_cases h:b=a
 ·subst h;rw[jP,jP]
 ·rw[jQ _ _ h,jQ _ _ h,jQ _ _ h]
theorem StpG.reclaim{F W:Addr->Prop}{σ σ':H}{h h₁ h₂:Heap}{d:Addr}{o:O}(x:StpG F W σ σ' h h₁)(hf:h.get? d=none)(hs:dJ d h₁ h₂)(hl:h₂.get? d≠none):StpG F W σ (upd σ' d o) h h₂:=by
 refine⟨λb ob e hσ hW=>?_,λb e=>?_,λb e=>?_⟩
 ·have ne:b≠d:=λq=>by rw[q,hf] at e;injection e
  refine e12 (x.keep b ob e hσ hW) λsl e1 q1=>?_
  exact⟨sl,(hs.2 b ne).trans e1,q1⟩
 ·by_cases q:b=d
  ·subst q;exact .inr hf
  ·rw[jQ _ _ q] at e;exact x.fresh b e
 ·have ne:b≠d:=λq=>e (q▸hf)
  rw[hs.2 b ne];exact x.live b e
theorem uJ{β γ:Type}:∀(a:List β) (b:List γ),a.length=b.length->(a.zip b).map (·.1)=a
 | [],_,_=>rfl |_::_,[],h=>by injection h
 |x::a,y::b,h=>by rw[eJ,aZ,uJ a b (fW h)]
theorem zF{β γ:Type}:∀(a:List β) (b:List γ),a.length=b.length->(a.zip b).map (·.2)=b
 | [],[],_=>rfl | [],_::_,h=>by injection h
 |_::_,[],h=>by injection h
 |x::a,y::b,h=>by rw[eJ,aZ,zF a b (fW h)]
theorem Gi(hc:∀{k:α} {nn pos env} {M:Model} {A:Around} {E:Value->Shared->Prop} {s:Shared} {Q:Value->Shared->Prop},Q (kv k s.toks) {s with toks:=s.toks+1}->wpAny M A (eval (.Constant (kc k) nn pos) env) Q E s)
 (hk:∀k t,knd.is k (kv k t)=true){pos:Pos}{kes:List (Option Expr)}{ks:List α}{ves:List Expr}{ies:IEs}(hks:oQ kc kes ks)(hves:SVs cx fm n ves ies)(hl:kes.length=ves.length)(h0:kes≠ [])(h15:kes.length<=15)(mk:List (α×V)->O)
 (hmk:∀{h:Heap} {d:Addr} {kvs:List (α×Value)} {es:List (α×V)},h.DictOf knd d kvs->kvs.map (·.1)=es.map (·.1)->Reps h (kvs.map (·.2)) (es.map (·.2))->OK cx h d (mk es))(hmi:∀es,nJ (some (mk es))=true)
 {ρ σ Q X}(w:wpEs (CTK cx n) ies ρ σ (λvs σ=>(vs.length=ks.length/\vs.length<=15/\ks.Nodup)/\newW σ (mk (ks.zip vs)) Q) X):
   TE cx fm (n+1) ρ σ (eval (.Dict kes ves pos) fm.env) Q X:=λA s a b S=>by
 have hall:kes.all (·.isSome)=true:=by
  clear w h0 h15 hl
  induction hks with
  |nil=>rfl |cons _ ih=>exact ih
 refine wpAny_Dict_walk (knd:=knd) hall hl h0 h15 ?_;have grow:∀b o,s.heap.get? b=some o->(s.heap.push {cls:=.type "dict",data:=.dict #[]}).get? b=some o:=λb o e=>aN _ e
 have S1:St cx fm ρ σ {s with heap:=s.heap.push {cls:=.type "dict",data:=.dict #[]}}:=S.grow grow rfl rfl
 have hfree:s.heap.get? s.heap.objs.size=none:=bW (aR _);have hd:(s.heap.push {cls:=.type "dict",data:=.dict #[]}).get? s.heap.objs.size=some {cls:=.type "dict",data:=.dict #[]}:=cO _ rfl;refine aM (Gc hc hk hks hves hl w A {s with heap:=s.heap.push {cls:=.type "dict",data:=.dict #[]}} a b S1) (λvs s₁ z=>?_) λe s₁ z=>z.trans (s₁:={s with heap:=s.heap.push _}) (.grow grow λJ e=>.inl e)
 refine e24 z λus σ' z1z z2z S' st=>?_;refine e02 z1z λz3z w4=>?_;refine e03 z3z λw1 w2 w3=>?_;refine e03 z2z λr1 r2 r3=>?_
 have hu:us.length=vs.length:=by have:=r2.length;simpa using this.symm
 have hσ:σ' s.heap.objs.size=none:=by
  induction q:σ' s.heap.objs.size with
  |none=>rfl |some o=>
   rcases st.fresh _ (by rw[q];exact λh=>by injection h) with h|h
   ·exact absurd (S.toStB.free (aR _)) h
   ·rw[hd] at h;injection h
 refine e02 (S.loc.apartOf (c:=s.heap.objs.size) (aR _)) λa1 a2=>?_
 have hd₁:s₁.heap.get? s.heap.objs.size=some {cls:=.type "dict",data:=.dict #[]}:=(st.keep _ _ hd (S.toStB.free (aR _)) (by
  rintro(h|⟨_,x,h⟩)
  ·exact a1 h
  ·exact a2 x h)).exact λhm=>eD _ (FunFrames.lt S.frames hm)
 have D₁:s₁.heap.DictOf knd s.heap.objs.size []:=⟨_, #[],0,hd₁,⟨rfl,rfl,rfl⟩,rfl,λe he=>by simp at he,.nil,.nil⟩
 refine⟨_,r1,D₁,λh' D' hs=>?_⟩
 have hlen:ks.length=(vs.map (·.2)).length:=by rw[aB,r3]
 have hz1:(ks.zip (vs.map (·.2))).map (·.1)=ks:=uJ _ _ hlen;have hz2:(ks.zip (vs.map (·.2))).map (·.2)=vs.map (·.2):=zF _ _ hlen;rw[merged_nil_of_nodup _ (by rw[hz1];exact w3)] at D'
 have C:St cx fm ρ (upd σ' s.heap.objs.size (mk [])) s₁:=⟨S'.toStB.claim (hmk D₁ rfl .nil) (S.toStB.fresh_h₀ (aR _)) (λhm=>eD _ (FunFrames.lt S.frames hm)),S'.loc.claim a1 a2⟩
 have ho:nJ (upd σ' s.heap.objs.size (mk []) s.heap.objs.size)=true:=by rw[jP];exact hmi _
 have tk:=C.toStB.turn_tk (nJ.ne ho) hs;have hok:OK cx h' s.heap.objs.size (mk (ks.zip us)):=hmk D' (by rw[hz1,uJ _ _ w1.symm]) (by rw[hz2,zF _ _ w1.symm];exact r2.mono tk)
 refine e02 (C.turn (s':={s₁ with heap:=h',toks:=s₁.toks+vs.length}) ho hs hok rfl rfl) λS₂ z4z=>?_
 rw[uL] at S₂;refine⟨_,_,w4 _ hσ,.obj _,S₂,?_⟩;have st0:Stp fm σ σ' s.heap s₁.heap:=StpG.trans (.grow grow λJ e=>.inl e) st
 exact st0.reclaim hfree hs hok.live
end
section
variable{cx:Cx}{fm:Fm}{n:Nat}
theorem SE.sdct{pos:Pos}{kes:List (Option Expr)}{ks:List Str}{ves:List Expr}{ies:IEs}(hks:oQ Const.str kes ks)(hves:SVs cx fm n ves ies)(hl:kes.length=ves.length)(h0:kes≠ [])(h15:kes.length<=15):
 SE cx fm n (.Dict kes ves pos) (.sdct ks ies):=λρ σ Q X w=>
 Gi (knd:=PySem.strKind cx.prog cx.w) (kv:=λk t=>.str k t) (λh=>jM h) (λk t=>iB _ _ k t) hks hves hl h0 h15 O.sd (λD h1 h2=>⟨_,D,h1,h2⟩) (λJ=>rfl) w
theorem SE.ndct{pos:Pos}{kes:List (Option Expr)}{ks:List Int}{ves:List Expr}{ies:IEs}(hks:oQ Const.int kes ks)(hves:SVs cx fm n ves ies)(hl:kes.length=ves.length)(h0:kes≠ [])(h15:kes.length<=15):
 SE cx fm n (.Dict kes ves pos) (.ndct ks ies):=λρ σ Q X w=>
 Gi (knd:=PySem.intKind cx.prog cx.w) (kv:=λk t=>.int k t) (λh=>wpAny_Constant_int h) (λk t=>intKind_is _ _ k t) hks hves hl h0 h15 O.nd (λD h1 h2=>⟨_,D,h1,h2⟩) (λJ=>rfl) w
end
end
section
open PySem.SeqAt
theorem FunFrames.turn{h h' base:Heap}:∀{l:List Env},h.FunFrames base l->(∀L,L∈l.filterMap (·.frame)->∀o,h.get? L=some o->(∀vs,o.data≠.fields vs)->∃o',h'.get? L=some o'/\∀vs,o'.data≠.fields vs)->h'.FunFrames base l
 | [],_,_=>trivial |env::rest,⟨hk,⟨L,o,hf,hn,ho,hd⟩,hr⟩,k=>by
   have hm:L∈(env::rest).filterMap (·.frame):=by rw[cA,hf];exact aE
   refine e12 (k L hm o ho hd) λo' ho' hd'=>?_
   refine⟨hk,⟨L,o',hf,hn,ho',hd'⟩,FunFrames.turn hr λL' hL' o e=>k L' ?_ o e⟩
   rw[cA,hf];exact aH _ hL'
theorem OK.other{cx:Cx}{h h':Heap}{a b:Addr}{o:O}(x:OK cx h a o)(hs:gT b h h')(hab:a≠b)(tk:Tk h h'):OK cx h' a o:=x.mono (λob e=>hs a ob hab e) tk
section
variable{cx:Cx}{fm:Fm}{ρ:Rho}{σ:H}{s:Shared}{A:Around}{E:Value->Shared->Prop}{M:Model}
theorem StB.at_{fs:List Env}{s':Shared}{b:Addr}(S:StB cx fs σ s)(hb:σ b=none)(hb₀:cx.h₀.get? b=none)(hs:gT b s.heap s'.heap)(tk:Tk s.heap s'.heap)(hg:s'.gens=s.gens)(ho:s'.os=s.os)
 (hf:b∈fs.filterMap (·.frame)->∃o',s'.heap.get? b=some o'/\∀vs,o'.data≠.fields vs):StB cx fs σ s' where
 keep c o e:=hs c o (λq=>by rw[q,hb₀] at e;injection e) (S.keep c o e)
 gens:=hg.trans S.gens
 os:=ho.trans S.os
 own a o e:=(S.own a o e).other hs (λq=>by rw[q,hb] at e;injection e) tk
 new:=S.new
 frames:=FunFrames.turn S.frames λL hL o e hd=>by
  by_cases q:L=b
  ·subst q;exact hf hL
  ·exact⟨o,hs L o q e,hd⟩
 fsn:=S.fsn
theorem yK{l:List Str}(h:l.Nodup){i j:Nat}{x:Str}(hi:l[i]?=some x)(hj:l[j]?=some x):i=j:=by
 refine e11 (aT.mp hi) λh1 e1=>?_
 refine e11 (aT.mp hj) λh2 e2=>?_
 have hp:=List.pairwise_iff_getElem.mp h;rcases Nat.lt_trichotomy i j with q|q|q
 ·exact absurd (e1.trans e2.symm) (hp i j h1 h2 q)
 ·exact q
 ·exact absurd (e2.trans e1.symm) (hp j i h2 h1 q)
theorem oW{h h':Heap}{b:Addr}(hs:gT b h h')(hb:∀items,¬IsTup h b items):Tk h h':=λa items t=>t.extBut hs λq=>hb items (q▸t)
theorem Kc{h:Heap}{a:Addr}{m:Str->Option Value}(n:h.Ns a m)(items:Array Value):¬IsTup h a items:=by
 rintro⟨o,e,_,k,hd⟩;refine e33 n λo' es ep e' hd' z1z=>?_
 rw[e] at e';injection e' with qz;subst qz;rw[hd] at hd';injection hd'
theorem Gg{h:Heap}{a:Addr}{v:Option Value}(n:h.IsCell a v)(items:Array Value):¬IsTup h a items:=by
 rintro⟨o,e,_,k,hd⟩;refine e12 n λo' e' hd'=>?_
 rw[e] at e';injection e' with qz;subst qz;rw[hd] at hd';injection hd'
noncomputable def Kg(cx:Cx)(fm:Fm)(ρ':Rho)(σ:H)(s:Shared):Unit->Shared->Prop:=λJ s'=>St cx fm ρ' σ s'/\Stp fm σ σ s.heap s'.heap
theorem sE{l:List (Str×Addr)}(h:l.Pairwise λx y=>x.2≠y.2){x y:Str}{c:Addr}(hx:l.lookup x=some c)(hy:l.lookup y=some c):x=y:=
 name_of_addr h (mem_of_lookup hx) (mem_of_lookup hy)
theorem oB{x:Str}{i:Nat}{val:Value}{v:V}(hx:fm.nm[i]?=some x)(hk:fm.env.kindOf x=some .local∨(fm.env.kindOf x=some .cell/\fm.comp=false))(S:St cx fm ρ σ s)(r:Rep s.heap val v):
 wpAny M A (storeName fm.env x val) (Kg cx fm (set ρ i v) σ s) E s:=by
 rcases hk with hk|⟨hk,hc⟩
 ·refine e12 S.loc.ns λm hm hr=>?_
  have hkd:=S.loc.env.kind;refine wpAny_storeName_local hk hm (λh' hn hs=>?_) (by rw[hkd];rfl)
  have tk:Tk s.heap h':=oW hs.extBut (Kc hm)
  have B:StB cx fm.fs σ {s with heap:=h',toks:=s.toks+1}:=S.toStB.at_ S.loc.nsn.2 S.loc.nsn.1 hs.extBut tk rfl rfl λJ=>by
   refine e33 hn λo es ep e hd z2z=>?_
   exact⟨o,e,λvs=>by rw[hd];exact λh=>by injection h⟩
  refine⟨⟨B,⟨S.loc.env,⟨_,hn,λj y u h1 h2 h3=>?_⟩,S.loc.nsn,λy c h1=>?_,λj y u h1 h2 h3=>?_⟩⟩,?_⟩
  ·by_cases q:y=x
   ·subst q
    have:=yK S.loc.env.nodup h1 hx;subst this;have:=qD _ _ _ _ h2;subst this;exact⟨val,by simp,r.mono tk⟩
   ·have hj:j≠i:=λz=>q (by rw[z] at h1;exact aX (h1.symm.trans hx))
    rw[mE _ _ _ _ hj] at h2;refine e12 (hr j y u h1 h2 h3) λw h4 h5=>?_
    exact⟨w,by simp[q,h4],h5.mono tk⟩
  ·refine e04 (S.loc.cells y c h1) λz3z b c' d=>?_;refine e11 z3z λv' a=>?_
   exact⟨⟨v',a.sameBut hs d⟩,b,c',d⟩
  ·have q:y≠x:=λz=>by
    subst z;rcases h3 with h3|h3<;>(rw[hk] at h3;injection h3 with qz;injection qz)
   have hj:j≠i:=λz=>q (by rw[z] at h1;exact aX (h1.symm.trans hx))
   rw[mE _ _ _ _ hj] at h2;refine e23 (S.loc.cellv j y u h1 h2 h3) λc w h4 h5 h6=>?_
   exact⟨c,w,h4,h5.sameBut hs (S.loc.cells y c h4).2.2.2,h6.mono tk⟩
  ·refine⟨λb o e hσ hW=>.refl ((hs.2 b λq=>hW (.inl q)).trans e),λb e=>.inl e,λb e=>?_⟩
   by_cases q:b=fm.env.locals
   ·subst q
    refine e32 hn λo es ep e' z4z=>?_
    rw[e'];exact λh=>by injection h
   ·rw[hs.2 b q];exact e
 ·refine e11 (S.loc.env.cellx x hk) λc hcl=>?_
  refine e04 (S.loc.cells x c hcl) λz5z b c' d=>?_;refine e11 z5z λv₀ a=>?_
  refine wpAny_storeName_cell S.loc.env.kind hk hcl a λh' hn hs=>?_
  have tk:Tk s.heap h':=oW hs.extBut (Gg a)
  have B:StB cx fm.fs σ {s with heap:=h'}:=S.toStB.at_ c' b hs.extBut tk rfl rfl λJ=>by
   refine e12 hn λo e hd=>?_
   exact⟨o,e,λvs=>by rw[hd];exact λh=>by injection h⟩
  refine⟨⟨B,⟨S.loc.env,?_,S.loc.nsn,λy e h1=>?_,λj y u h1 h2 h3=>?_⟩⟩,?_⟩
  ·refine e12 S.loc.ns λm hm hr=>?_
   refine⟨m,hm.sameBut hs d.symm,λj y u h1 h2 h3=>?_⟩
   have q:y≠x:=λz=>by subst z;rw[hk] at h3;injection h3 with qz;injection qz
   have hj:j≠i:=λz=>q (by rw[z] at h1;exact aX (h1.symm.trans hx))
   rw[mE _ _ _ _ hj] at h2;refine e12 (hr j y u h1 h2 h3) λw h4 h5=>?_
   exact⟨w,h4,h5.mono tk⟩
  ·by_cases q:e=c
   ·subst q;exact⟨⟨_,hn⟩,b,c',d⟩
   ·refine e04 (S.loc.cells y e h1) λz6z b' c'' d'=>?_;refine e11 z6z λv' a'=>?_
    exact⟨⟨v',a'.sameBut hs q⟩,b',c'',d'⟩
  ·by_cases q:y=x
   ·subst q
    have:=yK S.loc.env.nodup h1 hx;subst this;have:=qD _ _ _ _ h2;subst this;exact⟨c,val,hcl,hn,r.mono tk⟩
   ·have hj:j≠i:=λz=>q (by rw[z] at h1;exact aX (h1.symm.trans hx))
    rw[mE _ _ _ _ hj] at h2;refine e23 (S.loc.cellv j y u h1 h2 h3) λe w h4 h5 h6=>?_
    exact⟨e,w,h4,h5.sameBut hs (λz=>q (sE S.loc.env.apart (z▸h4) hcl)),h6.mono tk⟩
  ·refine⟨λb o e hσ hW=>.refl ((hs.2 b λq=>hW (.inr ⟨hc,x,q▸hcl⟩)).trans e),λb e=>.inl e,λb e=>?_⟩
   by_cases q:b=c
   ·subst q
    refine e12 hn λo e' z7z=>?_
    rw[e'];exact λh=>by injection h
   ·rw[hs.2 b q];exact e
end
end
section
open PySem.SeqAt
noncomputable def ItAt(h:Heap)(it:Addr):Src->Nat->Prop
 |.lst a,i=>h.IsListIter it a i |.fix vs,i=>(∃t items,IsTupIter h it t i/\IsTup h t items/\Reps h items.toList vs)∨(∃n:Int,n<=1000/\vs=kU n/\i<=n.toNat/\IsRangeIter h it i (n.toNat-i) 1)
structure Hid(cx:Cx)(fm:Fm)(σ:H)(it:Addr):Prop where
 own:σ it=none
 loc:it≠fm.env.locals
 cell:∀x,fm.env.cells.lookup x≠some it
 base:cx.h₀.get? it=none
 frames:it∉fm.fs.filterMap (·.frame)
theorem Hid.fw{cx:Cx}{fm:Fm}{σ:H}{it:Addr}(x:Hid cx fm σ it):¬Fw fm it:=by
 rintro(h|⟨_,y,h⟩)
 ·exact x.loc h
 ·exact x.cell y h
theorem ItAt.live{h:Heap}{it:Addr}{src:Src}{i:Nat}(x:ItAt h it src i):∃o,h.get? it=some o/\o.cls≠.type "frame"/\∃vs,o.data=.fields vs:=by
 induction src with
 |lst a=>refine e13 x λo e hc hd=>?_;exact⟨o,e,by rw[hc];decide,_,hd⟩
 |fix vs=>
  rcases x with⟨t,items,⟨o,e,hc,hd⟩,_⟩|⟨n,_,_,_,e⟩
  ·exact⟨o,e,by rw[hc];decide,_,hd⟩
  ·exact⟨_,e,show jN "range_iterator"≠jN "frame" by decide,_,rfl⟩
theorem ItAt.noTup{h:Heap}{it:Addr}{src:Src}{i:Nat}(x:ItAt h it src i)(items:Array Value):¬IsTup h it items:=by
 rintro⟨o,e,_,k,hd⟩;obtain⟨o',e',z1z,vs,hd'⟩:=x.live;rw[e] at e';injection e' with qz;subst qz;rw[hd] at hd';injection hd'
theorem Hid.step{cx:Cx}{fm:Fm}{σ σ':H}{h h':Heap}{it:Addr}{F W:Addr->Prop}(x:Hid cx fm σ it)(st:StpG F W σ σ' h h')(l:h.get? it≠none):Hid cx fm σ' it:=by
 refine⟨?_,x.loc,x.cell,x.base,x.frames⟩
 induction q:σ' it with
 |none=>rfl |some o=>
  rcases st.fresh it (by rw[q];exact λh=>by injection h) with z|z
  ·exact absurd x.own z
  ·exact absurd z l
theorem ItAt.step{cx:Cx}{fm:Fm}{σ σ':H}{h h':Heap}{it:Addr}{src:Src}{i:Nat}(x:ItAt h it src i)(hd:Hid cx fm σ it)(st:Stp fm σ σ' h h')(tk:Tk h h'):ItAt h' it src i:=by
 have kp:∀o,h.get? it=some o->o.cls≠.type "frame"->h'.get? it=some o:=λo e hc=>(st.keep it o e hd.own hd.fw).exact hd.frames
 induction src with
 |lst a=>refine e13 x λo e hc hd=>?_;exact⟨o,kp o e (by rw[hc];decide),hc,hd⟩
 |fix vs=>
  rcases x with⟨t,items,⟨o,e,hc,hd⟩,ht,hr⟩|⟨n,a,b,c,e⟩
  ·exact .inl ⟨t,items,⟨o,kp o e (by rw[hc];decide),hc,hd⟩,tk _ _ ht,hr.mono tk⟩
  ·exact .inr ⟨n,a,b,c,kp _ e (show jN "range_iterator"≠jN "frame" by decide)⟩
section
variable{cx:Cx}{fm:Fm}{n:Nat}{ρ:Rho}{σ:H}{s:Shared}{A:Around}{E:Value->Shared->Prop}
theorem St.hid{s':Shared}{it:Addr}(S:St cx fm ρ σ s)(x:Hid cx fm σ it)(hs:gT it s.heap s'.heap)(tk:Tk s.heap s'.heap)(hg:s'.gens=s.gens)(ho:s'.os=s.os):St cx fm ρ σ s':=by
 refine⟨S.toStB.at_ x.own x.base hs tk hg ho λh=>absurd h x.frames,S.loc.env,?_,S.loc.nsn,λy c h1=>?_,λj y u h1 h2 h3=>?_⟩
 ·refine e12 S.loc.ns λm z2z hr=>?_;refine e32 z2z λo es ep e r=>?_
  exact⟨m,⟨o,es,ep,hs _ _ x.loc.symm e,r⟩,λi y v a b c=>let⟨w,p,q⟩:=hr i y v a b c;⟨w,p,q.mono tk⟩⟩
 ·refine e04 (S.loc.cells y c h1) λz3z b c' d=>?_;refine e22 z3z λv' o e a=>?_
  exact⟨⟨v',o,hs _ _ (λz=>x.cell y (z▸h1)) e,a⟩,b,c',d⟩
 ·refine e23 (S.loc.cellv j y u h1 h2 h3) λc w h4 z4z h6=>?_;refine e12 z4z λo e h5=>?_
  exact⟨c,w,h4,⟨o,hs _ _ (λz=>x.cell y (z▸h4)) e,h5⟩,h6.mono tk⟩
theorem StpG.hid{F W:Addr->Prop}{σ σ':H}{h₀ h h':Heap}{it:Addr}(x:StpG F W σ σ' h₀ h)(hf:h₀.get? it=none)(hs:gT it h h'):StpG F W σ σ' h₀ h':=by
 refine⟨λb o e hσ hW=>?_,x.fresh,λb e=>?_⟩
 ·refine e12 (x.keep b o e hσ hW) λsl e1 q1=>?_
  exact⟨sl,hs b _ (λq=>by rw[q,hf] at e;injection e) e1,q1⟩
 ·have ne:b≠it:=λq=>e (q▸hf)
  have:=x.live b e
  induction q:h.get? b with
  |none=>exact absurd q this |some o=>rw[hs b o ne q];exact λh=>by injection h
theorem tU(n:Int)(i:Nat):(kU n)[i]?=if i<n.toNat then some (V.int i) else none:=by
 unfold kU;rw[bH];by_cases h:i<n.toNat
 ·rw[if_pos h,List.getElem?_range h];rfl
 ·rw[if_neg h,dM (by simp;lia)];rfl
noncomputable def NextR(h':Heap)(it:Addr)(src:Src)(i:Nat):Option V->Option Value->Prop
 |none,o=>o=none |some v,o=>∃val,o=some val/\Rep h' val v/\ItAt h' it src (i+1)
set_option tactic.hygienic true in
theorem Lh{it:Addr}{src:Src}{i:Nat}{r:Option V}(hA:A.handled=none)(S:St cx fm ρ σ s)(x:ItAt s.heap it src i)(hn:mC src i σ=some r)(hd:Hid cx fm σ it):
 wpAny (model cx.prog cx.w) A (pyNext (.ref it)) (λo s'=>(∃h' t,s'={s with heap:=h',toks:=t}/\gT it s.heap h')/\Tk s.heap s'.heap/\NextR s'.heap it src i r o) E s:=by
 have noT:=x.noTup
 induction src with
 |lst a=>
  refine kY hn λl hl hn=>?_
  refine e22 (S.own _ _ (kB hl)) λitems k e rl=>?_
  have hL:s.heap.IsList a items:=⟨_,e,rfl,k,rfl⟩;have hai:a≠it:=λq=>by have:=hd.own;rw[←q,kB hl] at this;injection this
  split at hn
  ·rename_i hz
   injection hn with qz;subst qz
   induction q:l[i]? with
   |none=>
    have:items[i]?=none:=by
     rw[←cE,cT,rl.length];exact cT.mp q
    exact wpAny_pyNext_list_end hA x hL this λh' hs=>⟨⟨h',_,rfl,hs⟩,oW hs noT,rfl⟩
   |some v=>
    refine e12 (rl.get q) λval h1 h2=>?_
    refine wpAny_pyNext_list_item x hL (by rw[←cE];exact h1) λh' hx hs=>?_
    have tk:=oW hs.extBut noT;exact⟨⟨h',_,rfl,hs.extBut⟩,tk,val,rfl,h2.mono tk,hx⟩
  ·injection hn
 |fix vs=>
  injection hn with qz;subst qz
  rcases x with⟨t,items,hx,ht,hr⟩|⟨m,hm,rfl,hi,hx⟩
  ·have hti:t≠it:=λq=>noT items (q▸ht)
   induction q:vs[i]? with
   |none=>
    have:items[i]?=none:=by
     rw[←cE,cT,hr.length];exact cT.mp q
    exact next_tuple_end hA hx ht this λh' hs=>⟨⟨h',_,rfl,hs⟩,oW hs noT,rfl⟩
   |some v=>
    refine e12 (hr.get q) λval h1 h2=>?_
    refine next_tuple_item hx ht (by rw[←cE];exact h1) λh' hx' hs=>?_
    have tk:=oW hs.extBut noT;exact⟨⟨h',_,rfl,hs.extBut⟩,tk,val,rfl,h2.mono tk,.inl ⟨t,items,hx',tk _ _ ht,hr.mono tk⟩⟩
  ·rw[tU]
   by_cases hlt:i<m.toNat
   ·rw[if_pos hlt]
    refine wpAny_pyNext_range_item hx (by lia) λh' hx' hs=>?_
    have tk:=oW hs.extBut noT;refine⟨⟨h',_,rfl,hs.extBut⟩,tk,_,rfl,.int _ _,.inr ⟨m,hm,rfl,by exact hlt,?_⟩⟩
    have e1:((i+1:Nat):Int)=(i:Int)+1:=by rfl
    rw[e1,show(m.toNat:Int)-((i:Int)+1)=(m.toNat:Int)-i-1 by exact Eq.symm (Int.sub_sub (↑m.toNat) (↑i) 1)]
    exact hx'
   ·rw[if_neg hlt]
    exact wpAny_pyNext_range_end hA hx (by lia) λh' hs=>⟨⟨h',_,rfl,hs⟩,oW hs noT,rfl⟩
noncomputable def wS(cx:Cx)(fm:Fm)(ρ:Rho)(σ:H)(s:Shared)(Q:Src->H->Prop):Value->Shared->Prop:=λiv s'=>
 ∃src σ' it,Q src σ'/\iv=.ref it/\ItAt s'.heap it src 0/\Hid cx fm σ' it/\s.heap.get? it=none/\St cx fm ρ σ' s'/\Stp fm σ σ' s.heap s'.heap
theorem St.hidNew(S:St cx fm ρ σ s):Hid cx fm σ s.heap.objs.size:=
 ⟨S.toStB.free (aR _),(S.loc.apartOf (aR _)).1,(S.loc.apartOf (aR _)).2,(S.toStB.fresh_h₀ (aR _)).1,λhm=>eD _ (FunFrames.lt S.frames hm)⟩
theorem vB{F W:Addr->Prop}{σ σ':H}{h h':Heap}{b:Addr}(x:StpG F W σ σ' h h')(e:h'.get? b=none):h.get? b=none:=aV λhn=>x.live b hn e
theorem Ix{xv:Value}{v:V}{σ₀:H}{s₀:Shared}{Q:Src->H->Prop}(st:Stp fm σ₀ σ s₀.heap s.heap)(S:St cx fm ρ σ s)(r:Rep s.heap xv v)(q:srcW v σ λs=>Q s σ):
 wpAny (model cx.prog cx.w) A (pyIter xv) (wS cx fm ρ σ₀ s₀ Q) E s:=by
 have hnew:s₀.heap.get? s.heap.objs.size=none:=vB st (bW (aR _))
 have fin:∀(o:Obj) (src:Src),Q src σ->ItAt (s.heap.push o) s.heap.objs.size src 0->wS cx fm ρ σ₀ s₀ Q (.ref s.heap.objs.size) {s with heap:=s.heap.push o}:=λo src q x=>
  ⟨src,σ,_,q,rfl,x,S.hidNew,hnew,S.grow (λb ob e=>aN _ e) rfl rfl,StpG.trans st (.grow (λb ob e=>aN _ e) λJ e=>.inl e)⟩
 unfold srcW at q;split at q
 ·cases r with
  |tup t rs=>
  refine iter_tuple t ?_;exact fin _ _ q.2 (.inl ⟨_,_,⟨_,cO _ rfl,rfl,rfl⟩,t.push _,rs.mono λJ J z=>z.push _⟩)
 ·cases r
  refine kH q λl hl q=>?_
  refine e22 (S.own _ _ (kB hl)) λitems k e rl=>?_
  have hL:s.heap.IsList _ items:=⟨_,e,rfl,k,rfl⟩;exact wpAny_pyIter_list hL (fin _ _ q ⟨_,cO _ rfl,rfl,rfl⟩)
 ·exact q.elim
noncomputable def SI(cx:Cx)(fm:Fm)(n:Nat)(e:Expr)(it:It):Prop:=
 ∀ρ σ Q X,wpI (CTK cx n) it ρ σ Q X->∀A s,Room A (n+1)->A.frames=some fm.fs->St cx fm ρ σ s->
  wpAny (model cx.prog cx.w) A (eval e fm.env) (λxv s₁=>wpAny (model cx.prog cx.w) A (pyIter xv) (wS cx fm ρ σ s Q) (kT cx fm ρ σ s X) s₁) (kT cx fm ρ σ s X) s
theorem SI.of{e:Expr}{ie:IE}(h:SE cx fm n e ie):SI cx fm n e (.of ie):=λρ σ Q X w A s a b S=>
 aM (h ρ σ _ X w A s a b S) (λxv s₁ z=>by
  refine e24 z λv σ' w' r S' st=>?_
  exact Ix st S' r w') λJ J z=>z
theorem SI.rng{func:Expr}{e:Expr}{ie:IE}{pos}(T:TopOk cx)(he:∀env,eval (.Call func [e] [] pos) env=(do callWith pos (←eval func env) [] (backTo pos (starEach [e] env)) (backToKw pos (keywordEach [] env))))
 (hp: [e].all noStar=true)(hfn:SE cx fm n func (.val (.raw (.type "range"))))(h:SE cx fm n e ie):SI cx fm n (.Call func [e] [] pos) (.rng ie):=λρ σ Q X w A s a b S=>by
 rw[he];refine aA ?_;refine aM (hfn ρ σ (λ(v:V) (σ':H)=>v=V.raw (.type "range")/\σ'=σ) X ⟨rfl,rfl⟩ A s a b S) (λvf s₁ z=>?_) λJ J z=>z
 refine e24 z λu σ₁ z5z rf S₁ st₁=>?_;refine e02 z5z λz6z z7z=>?_;obtain rfl:=z6z;obtain rfl:=z7z
 cases rf;refine e02 (lD (env:=fm.env) (pos:=pos) hp) λp1 p2=>?_
 refine fQ (P:=λJ=>True) (by rw[p1];rfl) (λh z=>⟨.machine,.inr (.inl rfl),iQ rfl⟩) (lI p1 ?_)
 rw[nP (by simpa using hp)]
 refine dN ?_;refine aM (h ρ _ _ X w A s₁ a b S₁) (λvn s₂ z=>dR ⟨trivial,?_⟩) λJ J z=>z.trans st₁
 refine e24 z λv σ₂ w₂ rn S₂ st₂=>?_
 refine Sf w₂ λm z8z q0z=>e02 q0z λz9z q=>?_;obtain rfl:=z8z;refine e02 z9z λm0 m1=>?_
 cases rn;refine call_range_1 ?_;have k1:∀(o:Obj) b ob,s₂.heap.get? b=some ob->(s₂.heap.push o).get? b=some ob:=λo b ob e=>aN _ e
 refine wpAny_pyIter_range (IsRange.new ..) (small_one (by exact bT _) (by exact bT _) (by lia) (by omega)) ?_
 have S₃:∀(o:Obj) t,St cx fm ρ σ₂ {s₂ with heap:=s₂.heap.push o,toks:=t}:=λo t=>S₂.grow (λb ob e=>aN _ e) rfl rfl
 have st₃:Stp fm σ₁ σ₂ s.heap s₂.heap:=StpG.trans st₁ st₂;refine⟨_,σ₂,_,q,rfl,.inr ⟨m,m1,rfl,aP _,?_⟩,(S₃ _ _).hidNew,?_,(S₃ _ _).grow (λb ob e=>aN _ e) rfl rfl,?_⟩
 ·rw[rangeSize_one]
  have:(if(0:Int)<m then m-0 else 0)=(m.toNat:Int)-((0:Nat):Int):=by split<;>lia
  rw[this];exact cO _ rfl
 ·refine vB st₃ (bW ?_)
  show _<=(s₂.heap.push _).objs.size;exact Mr _ _
 ·exact StpG.trans st₃ (.grow (λb ob e=>aN _ (aN _ e)) λJ e=>.inl e)
end
end
section
open PySem.SeqAt
theorem Loc.keptW{cx:Cx}{fm:Fm}{ρ:Rho}{σ σ':H}{h h':Heap}{F W:Addr->Prop}(L:Loc cx fm ρ σ h)(x:StpG F W σ σ' h h')(hW:∀b,W b->b≠fm.env.locals/\∀y,fm.env.cells.lookup y≠some b)(tk:Tk h h'):Loc cx fm ρ σ' h':=by
 have nl:∀{b:Addr},(∃o,h.get? b=some o)->σ b=none->σ' b=none:=λ{b} hb hσ=>by
  induction q:σ' b with
  |none=>rfl |some o=>
   rcases x.fresh b (by rw[q];exact λh=>by injection h) with y|y
   ·exact absurd hσ y
   ·refine e11 hb λo' hb=>?_;rw[hb] at y;injection y
 refine⟨L.env,?_,⟨L.nsn.1,?_⟩,?_,?_⟩
 ·refine e12 L.ns λm n r=>?_
  refine⟨m,Kept.ns n λo e=>x.keep _ o e L.nsn.2 λz=>(hW _ z).1 rfl,λi x v h1 h2 h3=>?_⟩
  refine e12 (r i x v h1 h2 h3) λval a b=>?_
  exact⟨val,a,b.mono tk⟩
 ·refine e12 L.ns λm n z1z=>?_
  exact nl (by refine e32 n λo z2z z3z e z4z=>?_;exact⟨o,e⟩) L.nsn.2
 ·intro y c hc
  refine e04 (L.cells y c hc) λz5z b c' d=>?_;refine e11 z5z λv a=>?_
  exact⟨⟨v,Kept.isCell a λo e=>x.keep _ o e c' λz=>(hW _ z).2 y hc⟩,b,nl (by refine e12 a λo e z6z=>?_;exact⟨o,e⟩) c',d⟩
 ·intro i y v h1 h2 h3
  refine e23 (L.cellv i y v h1 h2 h3) λc val a b d=>?_
  refine e04 (L.cells y c a) λz7z z8z c' z9z=>?_
  exact⟨c,val,a,Kept.isCell b λo e=>x.keep _ o e c' λz=>(hW _ z).2 y a,d.mono tk⟩
theorem Loc.less{cx:Cx}{fm:Fm}{ρ ρ':Rho}{σ:H}{h:Heap}(L:Loc cx fm ρ σ h)(hl:∀i v,get ρ' i=some v->get ρ i=some v):Loc cx fm ρ' σ h:=
 ⟨L.env,let⟨m,n,r⟩:=L.ns;⟨m,n,λi x v a b c=>r i x v a (hl i v b) c⟩,L.nsn,L.cells,λi x v a b c=>L.cellv i x v a (hl i v b) c⟩
theorem St.less{cx:Cx}{fm:Fm}{ρ ρ':Rho}{σ:H}{s:Shared}(S:St cx fm ρ σ s)(hl:∀i v,get ρ' i=some v->get ρ i=some v):St cx fm ρ' σ s:=⟨S.toStB,S.loc.less hl⟩
theorem StpG.drop{F W W':Addr->Prop}{σ σ':H}{h h':Heap}(x:StpG F W σ σ' h h')(k:∀b,W b->W' b∨h.get? b=none):StpG F W' σ σ' h h':=
 ⟨λb o e hσ hW=>x.keep b o e hσ λq=>(k b q).elim hW (λz=>by rw[z] at e;injection e),x.fresh,x.live⟩
theorem vH{ρ:Rho}{i:Nat}{v:V}(h:get ρ i=none):∀j w,get ρ j=some w->get (set ρ i v) j=some w:=λj w e=>by
 have:j≠i:=λq=>by rw[q,h] at e;injection e
 rw[mE _ _ _ _ this];exact e
structure CI(cx:Cx)(fm fm':Fm)(ρ ρ':Rho)(D:Addr)(acc:List V)(σ:H)(s:Shared):Prop where
 S:St cx fm' ρ' σ s
 L:Loc cx fm ρ σ s.heap
 d:∃items k,s.heap.get? D=some {cls:=.type "list",data:=.seq items k}/\Reps s.heap items.toList acc
 hd:Hid cx fm' σ D
structure CF(cx:Cx)(fm fm':Fm)(D C:Addr):Prop where
 loc:fm'.env.locals=C
 comp:fm'.comp=true
 dC:D≠C
 dn:D≠fm.env.locals/\∀y,fm.env.cells.lookup y≠some D
 cn:C≠fm.env.locals/\∀y,fm.env.cells.lookup y≠some C
 fs:fm'.fs=fm.fs
theorem CF.fw{cx:Cx}{fm fm':Fm}{D C b:Addr}(x:CF cx fm fm' D C)(h:Fw fm' b):b=C:=by
 rcases h with h|⟨h,_⟩
 ·exact h.trans x.loc
 ·rw[x.comp] at h;injection h
section
variable{cx:Cx}{fm fm':Fm}{n:Nat}{ρ₀ ρ ρ':Rho}{σ:H}{s:Shared}{A:Around}{E:Value->Shared->Prop}{D C:Addr}
theorem CI.move{acc:List V}{ρ'':Rho}{σ':H}{s':Shared}(F:CF cx fm fm' D C)(x:CI cx fm fm' ρ ρ' D acc σ s)(S':St cx fm' ρ'' σ' s')(st:Stp fm' σ σ' s.heap s'.heap)(tk:Tk s.heap s'.heap):CI cx fm fm' ρ ρ'' D acc σ' s':=by
 refine e22 x.d λitems k e r=>?_
 refine⟨S',x.L.keptW st (λb hb=>by rw[F.fw hb];exact F.cn) tk,⟨items,k,?_,r.mono tk⟩,x.hd.step st (by rw[e];exact λh=>by injection h)⟩
 exact(st.keep D _ e x.hd.own x.hd.fw).exact x.hd.frames
theorem Zk{acc:List V}{val:Value}{v:V}(F:CF cx fm fm' D C)(x:CI cx fm fm' ρ ρ' D acc σ s)(r:Rep s.heap val v)(hz:acc.length+1<=lim):
 wpAny (model cx.prog cx.w) A (dU (.builtin "list.append") [.ref D,val]) (λJ s'=>CI cx fm fm' ρ ρ' D (acc++ [v]) σ s'/\StpG (Fr fm'.fs) (λb=>b=D) σ σ s.heap s'.heap/\Tk s.heap s'.heap) E s:=by
 refine e22 x.d λitems k e rl=>?_
 have sz:=rl.sz;have hL:s.heap.IsList D items:=⟨_,e,rfl,k,rfl⟩;refine iG slot_list_append hL.typeIs entry_list_append (args_list_append _ _) (PySem.list_append _ items k _ (kZ (by lia))) ⟨e,?_⟩
 refine e11 (updL s.heap _ k (λx_1=>x_1.push val) e) λk' e'=>?_
 have hs:dJ D s.heap (s.heap.update D (Obj.mapSeq λx_1=>x_1.push val)):=cP ..
 have noT:∀its,¬IsTup s.heap D its:=λits ⟨o,e1,hc,_⟩=>by rw[e] at e1;injection e1 with qz;subst qz;injection hc with hc;exact absurd hc (by decide)
 have tk:Tk s.heap (s.heap.update D (Obj.mapSeq λx_1=>x_1.push val)):=oW hs.extBut noT
 have st:StpG (Fr fm'.fs) (λb=>b=D) σ σ s.heap (s.heap.update D (Obj.mapSeq λx_1=>x_1.push val)):=⟨λb o e J hW=>.refl ((hs.2 b hW).trans e),λb e=>.inl e,λb e=>by
  by_cases q:b=D
  ·subst q;rw[e'];exact λh=>by injection h
  ·rw[hs.2 b q];exact e⟩
 exact⟨⟨x.S.hid x.hd hs.extBut tk rfl rfl,x.L.keptW st (λb hb=>by rw[hb];exact F.dn) tk,⟨_,k',e',by rw[Array.toList_push];exact(rl.mono tk).append (.cons (r.mono tk) .nil)⟩,x.hd⟩,st,tk⟩
noncomputable abbrev CW(C D:Addr):Addr->Prop:=λb=>b=C∨b=D
noncomputable def wW(cx:Cx)(fm fm':Fm)(n:Nat)(ρ₀ ρ:Rho)(i:Nat)(D C:Addr)(B:CB)(body:Sem Unit):Prop:=
 ∀v σ K acc A s,Room A (n+1)->A.frames=some fm'.fs->B v σ acc K->CI cx fm fm' ρ₀ (set ρ i v) D acc σ s->
  wpAny (model cx.prog cx.w) A body (λJ s'=>∃acc' σ' ρ'',K acc' σ'/\CI cx fm fm' ρ₀ ρ'' D acc' σ' s'/\(∀j w,get ρ j=some w->get ρ'' j=some w)/\StpG (Fr fm'.fs) (CW C D) σ σ' s.heap s'.heap/\Tk s.heap s'.heap) (λJ J=>False) s
theorem ItAt.stepW{F W:Addr->Prop}{σ σ':H}{h h':Heap}{it:Addr}{src:Src}{i:Nat}(x:ItAt h it src i)(ho:σ it=none)(hF:¬F it)(hw:¬W it)(st:StpG F W σ σ' h h')(tk:Tk h h'):ItAt h' it src i:=by
 have kp:∀o,h.get? it=some o->o.cls≠.type "frame"->h'.get? it=some o:=λo e hc=>(st.keep it o e ho hw).exact hF
 induction src with
 |lst a=>refine e13 x λo e hc hd=>?_;exact⟨o,kp o e (by rw[hc];decide),hc,hd⟩
 |fix vs=>
  rcases x with⟨t,items,⟨o,e,hc,hd⟩,ht,hr⟩|⟨n,a,b,c,e⟩
  ·exact .inl ⟨t,items,⟨o,kp o e (by rw[hc];decide),hc,hd⟩,tk _ _ ht,hr.mono tk⟩
  ·exact .inr ⟨n,a,b,c,kp _ e (show jN "range_iterator"≠jN "frame" by decide)⟩
noncomputable def pI(it:Value)(p:Pos)(tg:Expr)(env:Env)(body:Sem Unit)(c:Code):Sem Fin:=do
 standAt p
 match←pyNext it with
 |none=>pure (.done .next) |some v=>do
  assign tg env v
  body
  again c
theorem Qh{c:Code}{I:Addr}{body:Sem Unit}{p:Pos}{x:Str}{px:Pos}{i:Nat}{src:Src}{B:CB}{K:List V->H->Prop}{R:Result->Shared->Prop}(F:CF cx fm fm' D C)
 (hq:c.quiet=true)(hu:A.under c=A)(hden:(model cx.prog cx.w).den c=(pI (.ref I) p (.Name x px) fm'.env body c).onRaise (λx=>do noteFrame x fm'.env;theTreesLotGoes x))
 (hA:Room A (n+1))(hfr:A.frames=some fm'.fs)(hx:fm'.nm[i]?=some x)(hk:fm'.env.kindOf x=some .local)(hi:get ρ i=none)
 (hb:wW cx fm fm' n ρ₀ ρ i D C B body)(hIC:I≠C)(hID:I≠D){h₀:Heap}{σ₀:H}{W₀:Addr->Prop}(hW₀:∀b,CW C D b->W₀ b)(hI₀:h₀.get? I=eA)(hnl:∀y,fm.env.cells.lookup y≠some I)(hl:I≠fm.env.locals)
 (N j:Nat)(acc:List V)(σ:H)(s:Shared)(hN:cmpN src B K N j acc σ)(X:CI cx fm fm' ρ₀ ρ D acc σ s)(hit:ItAt s.heap I src j)(hh:Hid cx fm' σ I)(st:StpG (Fr fm'.fs) W₀ σ₀ σ h₀ s.heap)(tk:Tk h₀ s.heap)
 (hR:∀acc' σ' s',K acc' σ'->CI cx fm fm' ρ₀ ρ D acc' σ' s'->StpG (Fr fm'.fs) W₀ σ₀ σ' h₀ s'.heap->Tk h₀ s'.heap->R (.ok .next) s'):codeAny (model cx.prog cx.w) A c R s:=by
 refine codeAny_loop hq (λN s'=>∃j acc σ',cmpN src B K N j acc σ'/\CI cx fm fm' ρ₀ ρ D acc σ' s'/\ItAt s'.heap I src j/\Hid cx fm' σ' I/\StpG (Fr fm'.fs) W₀ σ₀ σ' h₀ s'.heap/\Tk h₀ s'.heap) (λN s' hI=>?_) N
  ⟨j,acc,σ,hN,X,hit,hh,st,tk⟩
 clear hN X hit hh st tk;refine e31 hI λj acc σ' q0z=>?_;refine e06 q0z λhN X hit hh st tk=>?_
 rw[hu,hden];refine wpAny_noted ?_;unfold pI;refine aA (aQ ?_)
 induction N using Nat.casesOn with
 |zero=>exact hN.elim |succ N=>
 refine kH hN λr hr hN=>?_
 refine aA (aM (Lh hA.1 X.S hit hr hh) (λo s₁ z=>?_) λJ J z=>z)
 refine e03 z λz10z tk₁ hr'=>?_;refine e22 z10z λh' t z11z hs=>?_;obtain rfl:=z11z
 have st₁:StpG (Fr fm'.fs) W₀ σ₀ σ' h₀ h':=st.hid hI₀ hs;have S₁:St cx fm' ρ σ' {s' with heap:=h',toks:=t}:=X.S.hid hh hs tk₁ rfl rfl
 have L₁:Loc cx fm ρ₀ σ' h':=by
  refine e11 X.L.ns λhns z12z=>?_
  refine⟨X.L.env,?_,X.L.nsn,λy c h1=>?_,λj y u h1 h2 h3=>?_⟩
  ·refine e12 X.L.ns λm z13z hr=>?_;refine e32 z13z λo es ep e r=>?_
   exact⟨m,⟨o,es,ep,hs _ _ hl.symm e,r⟩,λi y v a b c=>let⟨w,p,q⟩:=hr i y v a b c;⟨w,p,q.mono tk₁⟩⟩
  ·refine e04 (X.L.cells y c h1) λz14z b c' d=>?_;refine e22 z14z λv' o e a=>?_
   exact⟨⟨v',o,hs _ _ (λz=>hnl y (z▸h1)) e,a⟩,b,c',d⟩
  ·refine e23 (X.L.cellv j y u h1 h2 h3) λc w h4 z15z h6=>?_;refine e12 z15z λo e h5=>?_
   exact⟨c,w,h4,⟨o,hs _ _ (λz=>hnl y (z▸h4)) e,h5⟩,h6.mono tk₁⟩
 have X₁:CI cx fm fm' ρ₀ ρ D acc σ' {s' with heap:=h',toks:=t}:=by
  refine e22 X.d λitems k e rl=>?_
  exact⟨S₁,L₁,⟨items,k,hs _ _ hID.symm e,rl.mono tk₁⟩,X.hd⟩
 induction r with
 |none=>
  subst hr';exact aI (hR _ _ _ hN X₁ st₁ (tk.trans tk₁))
 |some v=>
  refine e13 hr' λval z16z rv hit₁=>?_;obtain rfl:=z16z
  refine aA (assign_Name (aM (oB hx (.inl hk) S₁ rv) (λJ s₂ z=>?_) λJ J z=>z))
  refine e02 z λS₂ st₂=>?_
  have tk₂:Tk h' s₂.heap:=Stp.tk S₁ st₂;have X₂:=X₁.move F S₂ st₂ tk₂;have hit₂:ItAt s₂.heap I src (j+1):=hit₁.step hh st₂ tk₂;refine e12 hit₂.live λoI eI z17z=>?_
  refine aA (aM (hb v σ' _ acc A s₂ hA hfr hN X₂) (λJ s₃ z=>?_) λJ J z=>z.elim)
  refine e31 z λnew σ₃ ρ₃ q0z=>?_;refine e05 q0z λhN₃ X₃ hle st₃ tk₃=>?_
  have hw:¬CW C D I:=λq=>q.elim hIC hID
  refine aI ⟨rfl,N,cB _,j+1,_,σ₃,hN₃,⟨X₃.S.less hle,X₃.L,X₃.d,X₃.hd⟩,hit₂.stepW hh.own hh.frames hw st₃ tk₃,hh.step st₃ (by rw[eI];exact λh=>by injection h),?_,((tk.trans tk₁).trans tk₂).trans tk₃⟩
  exact(st₁.trans (st₂.weaken λb hb=>hW₀ b (.inl (F.fw hb)))).trans (st₃.weaken hW₀)
noncomputable def sO(ifs:List Expr)(elt:Expr)(env:Env)(acc:Value):Sem Unit:=do
 let mut ok:=true
 for c in ifs do
  if ok then ok←isTrue c env (eval c env)
 if ok then
  (do let _←dU (.builtin "list.append") [acc,←eval elt env])
inductive SI1 (cx:Cx) (fm:Fm) (n:Nat):List Expr->IE->Prop
 |none:SI1 cx fm n [] (.val (.bool true))
 |one {c:Expr} {ic:IE}:ST cx fm n c ic->SI1 cx fm n [c] ic
theorem wM{ifs:List Expr}{elt:Expr}{ic ie:IE}{i:Nat}(F:CF cx fm fm' D C)(hc:SI1 cx fm' n ifs ic)(he:SE cx fm' n elt ie)(hi:get ρ i=eA):
 wW cx fm fm' n ρ₀ ρ i D C (λv σ acc k=>wpE (CTK cx n) ic (set ρ i v) σ (λc σ=>isB c λb=>if b=true then wpE (CTK cx n) ie (set ρ i v) σ (λr σ=>acc.length+1<=lim/\k (acc++ [r]) σ) (λJ=>False) else k acc σ) λJ=>False) (sO ifs elt fm'.env (.ref D)):=by
 intro v σ K acc A s hA hfr w X
 have tail:∀(b:Bool) (σ₁:H) (s₁:Shared),(if b=true then wpE (CTK cx n) ie (set ρ i v) σ₁ (λr σ=>acc.length+1<=lim/\K (acc++ [r]) σ) (λJ=>False) else K acc σ₁)->St cx fm' (set ρ i v) σ₁ s₁->Stp fm' σ σ₁ s.heap s₁.heap->
  wpAny (model cx.prog cx.w) A (if b=true then(do let _←dU (.builtin "list.append") [.ref D,←eval elt fm'.env]) else pure PUnit.unit:Sem Unit) (λJ s'=>∃acc' σ' ρ'',K acc' σ'/\CI cx fm fm' ρ₀ ρ'' D acc' σ' s'/\(∀j w,get ρ j=some w->get ρ'' j=some w)/\StpG (Fr fm'.fs) (CW C D) σ σ' s.heap s'.heap/\Tk s.heap s'.heap) (λJ J=>False) s₁:=by
  intro b σ₁ s₁ w₁ S₁ st₁;have tk₁:Tk s.heap s₁.heap:=Stp.tk X.S st₁;have X₁:=X.move F S₁ st₁ tk₁;have wk:∀{σ σ' h h'},Stp fm' σ σ' h h'->StpG (Fr fm'.fs) (CW C D) σ σ' h h':=λz=>z.weaken λb hb=>.inl (F.fw hb)
  induction b with
  |false=>exact aI ⟨acc,σ₁,_,w₁,X₁,vH hi,wk st₁,tk₁⟩ |true=>
   rw[if_pos rfl];refine aA (aM (he _ _ _ _ w₁ A s₁ hA hfr S₁) (λval s₂ z=>?_) λJ J z=>?_)
   ·refine e24 z λr σ₂ z18z rr S₂ st₂=>?_;refine e02 z18z λhz w₂=>?_
    have tk₂:Tk s₁.heap s₂.heap:=Stp.tk S₁ st₂;have X₂:=X₁.move F S₂ st₂ tk₂;refine aA (aM (Zk F X₂ rr hz) (λJ s₃ z=>?_) λJ J z=>z)
    refine e03 z λX₃ st₃ tk₃=>?_
    exact aI ⟨_,σ₂,_,w₂,X₃,vH hi,((wk st₁).trans (wk st₂)).trans (st₃.weaken λb hb=>.inr hb),(tk₁.trans tk₂).trans tk₃⟩
   ·refine e12 z λz19z z z20z=>?_;exact z.elim
 unfold sO;cases hc with
 |none=>
  simp only[List.forIn_nil,pure_bind];exact tail true σ s w X.S (.refl ..)
 |one hc=>
  refine aA (wpAny_tests_one ?_);refine aM (hc _ _ (λb σ=>if b=true then wpE (CTK cx n) ie (set ρ i v) σ (λr σ=>acc.length+1<=lim/\K (acc++ [r]) σ) (λJ=>False) else K acc σ) _ w A s hA hfr X.S) (λb s₁ z=>?_) λJ J z=>?_
  ·refine e24 z λb' σ₁ w₁ e S₁ st₁=>?_
   have e:b=b':=e;subst e;exact tail b σ₁ s₁ w₁ S₁ st₁
  ·refine e12 z λz21z z z22z=>?_;exact z.elim
end
end
section
open PySem.SeqAt
theorem xA(x:Str)(px:Pos)(it v:Value):letOwnedTupleGo (.Name x px) it v=pure ():=rfl
theorem Ny{α β γ:Type}(r:Option α)(a:Sem β)(b:α->Sem β)(k:β->Sem γ):((match r with|none=>a|some v=>b v)>>=k)=(match r with|none=>a>>=k|some v=>b v>>=k):=by cases r<;>rfl
theorem Ao{β γ:Type}(b:Bool)(a c:Sem β)(k:β->Sem γ):((if b=true then a else c)>>=k)=(if b=true then a>>=k else c>>=k):=by cases b<;>rfl
theorem Wu(elt:Expr)(x:Str)(px:Pos)(iter:Expr)(ifs:List Expr)(scope:Scope)(pos:Pos)(it acc:Value)(env:Env):
 compTurn (.ListComp elt [⟨.Name x px,iter,ifs,0⟩] scope pos) 0 it acc env=pI it iter.pos (.Name x px) env (sO ifs elt env acc) (.compLoop (.ListComp elt [⟨.Name x px,iter,ifs,0⟩] scope pos) 0 it acc env):=by
 rw[compTurn_list];unfold pI sO;simp only[xA,pure_bind,bind_assoc,Ao];rfl
noncomputable def tG(names:List (Str×NameKind)):List (Str×NameKind):=names.map λ(n,k)=>if k== .free then(n,.cell) else(n,k)
structure oP(scope:Scope)(env:Env)(nm:List Str)(tg:List Nat):Prop where
 kind:scope.kind=.function
 nocell:∀y∈scope.names,y.2≠.cell
 names:∀x∈scope.names,x.2=.local->scope.names.lookup x.1=some .local
 nodup:(scope.names.map (·.1)).Nodup
 tgt:∀y,scope.names.lookup y=some .local->∀k,nm[k]?=some y->k∈tg
 free:∀y,(y,cH)∈scope.names->env.kindOf y=some .cell
noncomputable def kQ(cells:List (Str×Addr)):List (Str×NameKind)->List (Str×Addr)->List (Str×Addr)
 | [],cs=>cs |(n,k)::r,cs=>kQ cells r (if k== .free then(match cells.lookup n with|some c=>(n,c)::cs|none=>cs) else cs)
theorem wF{env:Env}:∀(names:List (Str×NameKind)) (cs:List (Str×Addr)),(∀y,(y,cH)∈names->∃c,env.cells.lookup y=some c)->
 (forIn names cs λ(x:Str×NameKind) (cs:List (Str×Addr))=>(if(x.2==cH)=true then do let a←cellOf env x.1;pure (ForInStep.yield ((x.1,a)::cs)) else pure (ForInStep.yield cs):Sem (ForInStep (List (Str×Addr)))))=pure (kQ env.cells names cs)
 | [],cs,_=>rfl |(n,k)::r,cs,h=>by
   have ih:=λcs=>wF r cs λy hy=>h y (aH _ hy)
   rw[List.forIn_cons];unfold kQ;by_cases hk:(k==cH)=true
   ·refine e11 (h n (by rw[show k=cH by simpa using hk];exact aE)) λc hc=>?_
    simp only[hk,if_true,cellOf,hc,pure_bind];exact ih _
   ·simp only[hk,if_false,pure_bind,fI]
    exact ih _
theorem wG{scope:Scope}{env:Env}(h:∀y,(y,cH)∈scope.names->∃c,env.cells.lookup y=some c):closureFor scope env=pure (kQ env.cells scope.names []):=by
 unfold closureFor;have:=wF scope.names [] h;simp only[bind_pure];exact this
set_option tactic.hygienic true in
theorem nY{cells:List (Str×Addr)}:∀{names:List (Str×NameKind)} {cs:List (Str×Addr)},(∀x c,cs.lookup x=some c->cells.lookup x=some c)->∀x c,(kQ cells names cs).lookup x=some c->cells.lookup x=some c
 | [],_,h,x,c,e=>h x c e |(n,k)::r,cs,h,x,c,e=>by
   unfold kQ at e;refine nY (names:=r) (λx c e=>?_) x c e
   split at e
   ·split at e
    ·rename_i c' hc
     rw[bR] at e;split at e
     ·rename_i hq
      injection e with qz;subst qz
      rw[show x=n by simpa using hq];exact hc
     ·exact h x c e
    ·exact h x c e
   ·exact h x c e
theorem rJ{cells:List (Str×Addr)}:∀{names:List (Str×NameKind)} {cs:List (Str×Addr)} {x:Str} {c:Addr},cells.lookup x=some c->((x,cH)∈names∨(cs.lookup x).isSome=true)->((kQ cells names cs).lookup x).isSome=true
 | [],cs,x,c,hc,h=>h.elim (λz=>by cases z) id
 |(n,k)::r,cs,x,c,hc,h=>by
  unfold kQ;refine rJ (names:=r) hc ?_;rcases h with h|h
  ·rcases aJ.mp h with h|h
   ·injection h with qz rz;subst qz rz
    right
    simp[hc,bR]
   ·exact .inl h
  ·right
   split
   ·split
    ·rw[bR];split
     ·rfl
     ·exact h
    ·exact h
   ·exact h
theorem tX{l:List (Str×Addr)}:∀{cs:List (Str×Addr)},(∀p∈cs,l.lookup p.1=some p.2)->(cs.map (·.1)).Nodup->(l.Pairwise λx y=>x.2≠y.2)->cs.Pairwise λx y=>x.2≠y.2
 | [],_,_,_=>.nil |p::cs,h,hn,hp=>by
   rw[aZ,aL] at hn;refine .cons (λq hq e=>?_) (tX (λq hq=>h q (aH _ hq)) hn.2 hp)
   have:=sE hp (h p aE) (e▸h q (aH _ hq));exact hn.1 (this▸eZ hq)
set_option tactic.hygienic true in
theorem rI{cells:List (Str×Addr)}:∀{names:List (Str×NameKind)} {cs:List (Str×Addr)},(∀p∈cs,cells.lookup p.1=some p.2)->∀p∈kQ cells names cs,cells.lookup p.1=some p.2
 | [],_,h,p,e=>h p e |(n,k)::r,cs,h,p,e=>by
   unfold kQ at e;refine rI (names:=r) (λp e=>?_) p e
   split at e
   ·split at e
    ·rename_i c' hc
     rcases aJ.mp e with rfl|e
     ·exact hc
     ·exact h p e
    ·exact h p e
   ·exact h p e
theorem mB{cells:List (Str×Addr)}:∀{names:List (Str×NameKind)} {cs:List (Str×Addr)},(names.map (·.1)).Nodup->(cs.map (·.1)).Nodup->(∀n∈names.map (·.1),n∉cs.map (·.1))->((kQ cells names cs).map (·.1)).Nodup
 | [],_,_,h,_=>h |(n,k)::r,cs,h1,h2,h3=>by
   unfold kQ;rw[aZ,aL] at h1;have old:∀m∈r.map (·.1),m∉cs.map (·.1):=λm hm=>h3 m (by rw[aZ];exact aH _ hm)
   split
   ·split
    ·refine mB h1.2 ?_ λm hm hc=>?_
     ·rw[aZ,aL]
      exact⟨h3 n (by rw[aZ];exact aE),h2⟩
     ·rw[aZ] at hc
      rcases aJ.mp hc with rfl|hc
      ·exact h1.1 hm
      ·exact old m hm hc
    ·exact mB h1.2 h2 old
   ·exact mB h1.2 h2 old
section
variable{cx:Cx}{fm:Fm}{n:Nat}{ρ:Rho}{σ:H}{s:Shared}{A:Around}{E:Value->Shared->Prop}
noncomputable def cfm(fm:Fm)(scope:Scope)(C:Addr):Fm:={env:=compEnvC scope (kQ fm.env.cells scope.names []) C fm.env,nm:=fm.nm,fs:=fm.fs,comp:=true}
theorem vO{scope:Scope}{env:Env}{nm tg}(h:oP scope env nm tg)(hk:env.scope.kind=.function):(relabel scope env).names=tG scope.names:=by
 unfold relabel tG;refine jC λx hx=>?_
 obtain⟨y,k⟩:=x;dsimp only;by_cases q:(k==cH)=true
 ·have hf:=h.free y (by rw[show k=cH by simpa using q] at hx;exact hx)
  simp[q,hk,hf]
 ·simp[q]
set_option tactic.hygienic true in
theorem lX{y:Str}{k:NameKind}:∀{names:List (Str×NameKind)},(∀y∈names,y.2≠.cell)->(tG names).lookup y=some k->(k=.cell/\(y,cH)∈names)∨(k≠.cell/\k≠.free/\(y,k)∈names)
 | [],_,h=>by injection h
 |(m,j)::r,hc,h=>by
  have ih:= @lX y k r λz hz=>hc z (aH _ hz)
  unfold tG at h ih;rw[aZ] at h;dsimp only at h;by_cases q:(j==cH)=true
  ·rw[if_pos q,bR] at h
   split at h
   ·rename_i hq
    injection h with qz;subst qz
    rw[show y=m by simpa using hq,show cH=j by simpa using(beq_iff_eq.mp q).symm]
    exact .inl ⟨rfl,aE⟩
   ·rcases ih h with⟨a,b⟩|⟨a,b,c⟩
    ·exact .inl ⟨a,aH _ b⟩
    ·exact .inr ⟨a,b,aH _ c⟩
  ·rw[if_neg q,bR] at h
   split at h
   ·rename_i hq
    injection h with qz;subst qz
    rw[show y=m by simpa using hq]
    exact .inr ⟨hc _ aE,by simpa using q,aE⟩
   ·rcases ih h with⟨a,b⟩|⟨a,b,c⟩
    ·exact .inl ⟨a,aH _ b⟩
    ·exact .inr ⟨a,b,aH _ c⟩
theorem tF{l:List (Str×NameKind)}{y:Str}{k:NameKind}(hn:(l.map (·.1)).Nodup)(h:(y,k)∈l):l.lookup y=some k:=by
 induction l with
 |nil=>cases h |cons p l ih=>
  rw[aZ,aL] at hn;rcases aJ.mp h with e|h
  ·rw[←e];simp[bR]
  ·rw[bR]
   have:(y==p.1)=false:=by
    rw[beq_eq_false_iff_ne];exact λe=>hn.1 (e▸eZ h)
   rw[this];exact ih hn.2 h
theorem St.comp{scope:Scope}{tg:List Nat}{h':Heap}{t:Nat}{C:Addr}(hs:oP scope fm.env fm.nm tg)(ht:∀k∈tg,get ρ k=none)(S:St cx fm ρ σ s)(k:∀b o,s.heap.get? b=some o->h'.get? b=some o)
 (hC:s.heap.get? C=none)(hn:h'.Ns C λJ=>none):St cx (cfm fm scope C) ρ σ {s with heap:=h',toks:=t}:=by
 have S':St cx fm ρ σ {s with heap:=h',toks:=t}:=S.grow k rfl rfl
 have hre:=vO hs S.loc.env.kind;have hcell:∀y,(y,cH)∈scope.names->∃c,fm.env.cells.lookup y=some c:=λy hy=>S.loc.env.cellx y (hs.free y hy)
 have hsub:∀x c,(kQ fm.env.cells scope.names []).lookup x=some c->fm.env.cells.lookup x=some c:=nY (λJ J e=>by injection e)
 have hkind:∀y,(cfm fm scope C).env.kindOf y=(tG scope.names).lookup y:=λy=>by
  show(relabel scope fm.env).names.lookup y=_;rw[hre]
 have hhas:∀y,(y,cH)∈scope.names->∃c,(kQ fm.env.cells scope.names []).lookup y=some c:=λy hy=>by
  refine e11 (hcell y hy) λc hc=>?_
  exact dO.mp (rJ hc (.inl hy))
 refine⟨S'.toStB,⟨hs.kind,S.loc.env.globals,S.loc.env.builtins,?_,S.loc.env.nodup,λy hy=>?_⟩,⟨_,hn,λi y v h1 h2 h3=>?_⟩,⟨?_,?_⟩,λy c h1=>?_,λi y v h1 h2 h3=>?_⟩
 ·exact tX (rI (λp hp=>by cases hp)) (mB hs.nodup .nil λJ J h=>by cases h) S.loc.env.apart
 ·rw[hkind] at hy
  rcases lX hs.nocell hy with⟨_,h⟩|⟨h,_⟩
  ·exact hhas y h
  ·exact absurd rfl h
 ·rw[hkind] at h3
  rcases lX hs.nocell h3 with⟨h,_⟩|⟨_,_,h⟩
  ·injection h
  ·have:=ht i (hs.tgt y (tF hs.nodup h) i h1)
   rw[this] at h2;injection h2
 ·show cx.h₀.get? C=none
  induction q:cx.h₀.get? C with
  |none=>rfl |some o=>rw[S.keep C o q] at hC;injection hC
 ·show σ C=none
  induction q:σ C with
  |none=>rfl |some o=>exact absurd hC (S.own C o q).live
 ·refine e04 (S.loc.cells y c (hsub y c h1)) λz1z b c' d=>?_;refine e11 z1z λv a=>?_
  refine⟨⟨v,a.keeps k⟩,b,c',λz=>?_⟩
  refine e12 a λo e z2z=>?_
  have z:c=C:=z;rw[z,hC] at e;injection e
 ·rw[hkind] at h3
  have hfree:(y,cH)∈scope.names:=by
   rcases h3 with h3|h3
   ·rcases lX hs.nocell h3 with⟨_,h⟩|⟨h,_⟩
    ·exact h
    ·exact absurd rfl h
   ·rcases lX hs.nocell h3 with⟨h,_⟩|⟨_,h,_⟩
    ·injection h
    ·exact absurd rfl h
  refine e11 (hhas y hfree) λc hc=>?_
  refine e23 (S'.loc.cellv i y v h1 h2 (.inl (hs.free y hfree))) λc₁ w h4 h5 h6=>?_
  have:c₁=c:=aX (h4.symm.trans (hsub y c hc));subst this;exact⟨c₁,w,hc,h5,h6⟩
end
end
section
open PySem.SeqAt
section
variable{cx:Cx}{fm:Fm}{n:Nat}{ρ:Rho}{σ:H}{s:Shared}{A:Around}{E:Value->Shared->Prop}
theorem yP{it:Addr}{src:Src}{i:Nat}{Q:Value->Shared->Prop}(x:ItAt s.heap it src i)(q:Q (.ref it) s):wpAny (model cx.prog cx.w) A (pyIter (.ref it)) Q E s:=by
 induction src with
 |lst a=>exact wpAny_pyIter_listiter x q |fix vs=>
  rcases x with⟨t,items,hx,_⟩|⟨m,_,_,_,hx⟩
  ·exact wpAny_pyIter_tupleiter hx q
  ·exact wpAny_pyIter_rangeiter hx q
theorem Hid.of_new{σ':H}{b:Addr}(S:St cx fm ρ σ s)(hb:s.heap.get? b=none)(ho:σ' b=none):Hid cx fm σ' b:=by
 refine⟨ho,λq=>?_,λy q=>?_,?_,λhm=>?_⟩
 ·refine e12 S.loc.ns λm z1z z2z=>?_;refine e32 z1z λo z3z z4z e z5z=>?_
  rw[q,e] at hb;injection hb
 ·refine e02 (S.loc.cells y b q) λz6z z7z=>?_;refine e22 z6z λv o e z8z=>?_
  rw[e] at hb;injection hb
 ·induction q:cx.h₀.get? b with
  |none=>rfl |some o=>rw[S.keep b o q] at hb;injection hb
 ·obtain⟨z9z,o,ho,z10z⟩:=S.frames.mem hm
  rw[ho] at hb;injection hb
noncomputable def Xd(cx:Cx)(fm:Fm)(ρ:Rho)(σ:H)(s:Shared)(K:List V->H->Prop)(D C:Addr)(s':Shared):Prop:=
 ∃acc σ',K acc σ'/\St cx fm ρ σ' s'/\Stp fm σ σ' s.heap s'.heap/\(∃items k,s'.heap.get? D=some {cls:=.type "list",data:=.seq items k}/\Reps s'.heap items.toList acc)/\Hid cx fm σ' D/\Hid cx fm σ' C/\D≠C/\s.heap.get? D=none/\s.heap.get? C=none/\
  (∃m,s'.heap.Ns C m)/\sysModules<D
theorem yX{elt:Expr}{x:Str}{px p:Pos}{iter:Expr}{ifs:List Expr}{rest:List Comprehension}{scope:Scope}{pos:Pos}{it:It}{B:CB}{K:List V->H->Prop}{X:H->Prop}{tg:List Nat}{i:Nat}{body:Env->Addr->Sem Unit}{RR:Value->Addr->Result->Shared->Prop}
 (hSI:SI cx fm n iter it)(w:wpI (CTK cx n) it ρ σ (λsrc σ'=>mU src B K [] σ') X)(hs:oP scope fm.env fm.nm tg)(ht:∀k∈tg,get ρ k=none)(hx:fm.nm[i]?=some x)(hkx:scope.names.lookup x=some .local)
 (hden:∀env I D,(model cx.prog cx.w).den (.compLoop (.ListComp elt (⟨.Name x px,iter,ifs,0⟩::rest) scope pos) 0 (.ref I) (.ref D) env)=
   (pI (.ref I) p (.Name x px) env (body env D) (.compLoop (.ListComp elt (⟨.Name x px,iter,ifs,0⟩::rest) scope pos) 0 (.ref I) (.ref D) env)).onRaise (λx=>do noteFrame x env;theTreesLotGoes x))
 (hb:∀D C,CF cx fm (cfm fm scope C) D C->wW cx fm (cfm fm scope C) n ρ ρ i D C B (body (cfm fm scope C).env D))
 (hA:Room A (n+1))(hfr:A.frames=some fm.fs)(S:St cx fm ρ σ s)
 (hRR:∀D C s',Xd cx fm ρ σ s K D C s'->RR (.ref D) C (.ok .next) s'):
 wpAny (model cx.prog cx.w) A (eval iter fm.env) (λxv s₁=>wpAny (model cx.prog cx.w) A (pyIter xv) (λit s₂=>wpAny (model cx.prog cx.w) A (newList []) (λacc s₃=>
  wpAny (model cx.prog cx.w) A (newFunctionEnv scope fm.env.globals (kQ fm.env.cells scope.names []) [] fm.env.qual none .none (some fm.env)) (λcenv s₄=>
   codeAny (model cx.prog cx.w) A (.compStart (.ListComp elt (⟨.Name x px,iter,ifs,0⟩::rest) scope pos) 0 it acc {cenv with scope:=relabel scope fm.env}) (RR acc cenv.locals) s₄) (kT cx fm ρ σ s X) s₃) (kT cx fm ρ σ s X) s₂) (kT cx fm ρ σ s X) s₁) (kT cx fm ρ σ s X) s:=by
 refine aM (hSI ρ σ _ X w A s hA hfr S) (λxv s₁ z=>aM z (λiv s₂ z=>?_) λJ J z=>z) λJ J z=>z
 refine e31 z λsrc σ₂ I q0z=>?_;refine e06 q0z λwc r4z hit hI hI₀ q0z=>?_;refine e02 q0z λS₂ st₂=>?_;subst r4z
 refine wpAny_newList ?_ (by show 0<=sizeLine;exact aP _)
 refine wpAny_newFunctionEnv hs.nocell (by intro y hy;cases hy) (λh₁ hn hsb=>?_) hs.kind
 dsimp only at hn hsb⊢;generalize hH:s₂.heap.push {cls:=.type "list",dict:=none,data:=.seq ([]:List Value).toArray}=H2 at hn hsb⊢;have hC:H2.objs.size=s₂.heap.objs.size+1:=by rw[←hH,Heap.size_push]
 have hDC:s₂.heap.objs.size≠H2.objs.size:=by rw[hC];exact eP (cB _)
 have k₂:∀b o,s₂.heap.get? b=some o->h₁.get? b=some o:=λb o e=>by
  have hb:=cG e;refine hsb.extBut b o (by rw[hC];exact eP (Nat.lt_succ_of_lt hb)) (aN _ ?_)
  rw[←hH];exact aN _ e
 have hDn:s₂.heap.get? s₂.heap.objs.size=none:=bW (aR _);have hCn:s₂.heap.get? H2.objs.size=none:=bW (by rw[hC];exact dA _)
 have hD₁:h₁.get? s₂.heap.objs.size=some {cls:=.type "list",data:=.seq #[]}:=by
  refine hsb.extBut _ _ hDC (aN _ ?_);rw[←hH];exact cO _ rfl
 have free:∀{b:Addr},s₂.heap.get? b=none->σ₂ b=none:=λ{b} hb=>by
  induction q:σ₂ b with
  |none=>rfl |some o=>exact absurd hb (S₂.own b o q).live
 have hDh:Hid cx fm σ₂ s₂.heap.objs.size:=Hid.of_new S₂ hDn (free hDn);have hCh:Hid cx fm σ₂ H2.objs.size:=Hid.of_new S₂ hCn (free hCn);have F:CF cx fm (cfm fm scope H2.objs.size) s₂.heap.objs.size H2.objs.size:=⟨rfl,rfl,hDC,⟨hDh.loc,hDh.cell⟩,⟨hCh.loc,hCh.cell⟩,rfl⟩;have sub:∀y b,(cfm fm scope H2.objs.size).env.cells.lookup y=some b->fm.env.cells.lookup y=some b:=nY (λJ J e=>by injection e)
 have toC:∀{b:Addr},Hid cx fm σ₂ b->b≠H2.objs.size->Hid cx (cfm fm scope H2.objs.size) σ₂ b:=λx hb=>⟨x.own,hb,λy e=>x.cell y (sub y _ e),x.base,x.frames⟩
 have hIC:I≠H2.objs.size:=λq=>by
  refine e12 hit.live λo e z12z=>?_
  rw[q,hCn] at e;injection e
 have hID:I≠s₂.heap.objs.size:=λq=>by
  refine e12 hit.live λo e z13z=>?_
  rw[q,hDn] at e;injection e
 have SC:∀t,St cx (cfm fm scope H2.objs.size) ρ σ₂ {s₂ with heap:=h₁,toks:=t}:=λt=>S₂.comp hs ht k₂ hCn (by simpa using hn)
 have st₁:StpG (Fr fm.fs) (CW H2.objs.size s₂.heap.objs.size) σ₂ σ₂ s₂.heap h₁:=.grow k₂ λJ e=>.inl e
 have tk₁:Tk s₂.heap h₁:=λa i t=>t.keeps k₂
 have hit₁:ItAt h₁ I src 0:=hit.stepW (F:=Fr fm.fs) (W:=λJ=>False) (σ:=σ₂) (σ':=σ₂) hI.own hI.frames (λz=>z) (.grow k₂ λJ e=>.inl e) tk₁
 have X₁:∀t,CI cx fm (cfm fm scope H2.objs.size) ρ ρ s₂.heap.objs.size [] σ₂ {s₂ with heap:=h₁,toks:=t}:=λt=>
  ⟨SC t,S₂.loc.grow k₂,⟨#[],0,hD₁,.nil⟩,toC hDh hDC⟩
 have hloc:(cfm fm scope H2.objs.size).env.kindOf x=some .local:=lookup_relabel_local hkx
 have run:∀t,codeAny (model cx.prog cx.w) A (.compLoop (.ListComp elt (⟨.Name x px,iter,ifs,0⟩::rest) scope pos) 0 (.ref I) (.ref s₂.heap.objs.size) (cfm fm scope H2.objs.size).env) (RR (.ref s₂.heap.objs.size) H2.objs.size) {s₂ with heap:=h₁,toks:=t}:=λt=>by
  refine Qh (fm':=cfm fm scope H2.objs.size) (n:=n) (ρ₀:=ρ) (ρ:=ρ) (x:=x) (px:=px) (p:=p) (i:=i) (src:=src) (B:=B) (K:=K) (h₀:=s.heap) (σ₀:=σ) (W₀:=λb=>Fw fm b∨CW H2.objs.size s₂.heap.objs.size b) F rfl rfl (hden _ _ _) hA hfr hx hloc (ht i (hs.tgt x hkx i hx)) (hb _ _ F) hIC hID
   (λb hb=>.inr hb) hI₀ hI.cell hI.loc _ 0 [] σ₂ _ wc (X₁ t) hit₁ (toC hI hIC) ((st₂.weaken λb hb=>.inl hb).trans (st₁.weaken λb hb=>.inr hb)) ((Stp.tk S st₂).trans tk₁) λacc σ₃ s₃ hK X₃ st₃ tk₃=>?_
  have hDs:s.heap.get? s₂.heap.objs.size=none:=vB st₂ hDn;have hCs:s.heap.get? H2.objs.size=none:=vB st₂ hCn;refine hRR _ _ _ ⟨acc,σ₃,hK,⟨X₃.S.toStB,X₃.L⟩,st₃.drop (λb hb=>?_),X₃.d,⟨X₃.hd.own,hDh.loc,hDh.cell,hDh.base,hDh.frames⟩,⟨X₃.S.loc.nsn.2,hCh.loc,hCh.cell,hCh.base,hCh.frames⟩,hDC,hDs,hCs,?_⟩
  ·rcases hb with hb|rfl|rfl
   ·exact .inl hb
   ·exact .inr hCs
   ·exact .inr hDs
  ·refine e12 X₃.S.loc.ns λm hm z14z=>?_
   exact⟨⟨m,hm⟩,(S₂.toStB.fresh_h₀ (aR _)).2⟩
 exact codeAny_compStart_list (run _) (yP (s:={s₂ with heap:=h₁,toks:=_}) hit₁ (run _))
end
end
section
open PySem.SeqAt
section
variable{cx:Cx}{fm:Fm}{n:Nat}{ρ:Rho}{σ:H}{s:Shared}{A:Around}{E:Value->Shared->Prop}
theorem qR{K:List V->H->Prop}{D C:Addr}{s':Shared}(S:St cx fm ρ σ s)(g:Xd cx fm ρ σ s K D C s'):∃acc σ',K acc σ'/\σ' D=none/\St cx fm ρ (upd σ' D (.list acc)) s'/\Stp fm σ (upd σ' D (.list acc)) s.heap s'.heap/\Hid cx fm (upd σ' D (.list acc)) C/\s.heap.get? C=none/\∃m,s'.heap.Ns C m:=by
 obtain⟨acc,σ',hK,S',st,⟨items,k,e,r⟩,hD,hC,hDC,d0,c0,hm,hsys⟩:=g;have ok:OK cx s'.heap D (.list acc):=⟨items,k,e,r⟩;refine⟨acc,σ',hK,hD.own,⟨S'.toStB.claim ok ⟨hD.base,hsys⟩ hD.frames,S'.loc.claim hD.loc hD.cell⟩,st.reclaim d0 (dJ.refl _ _) ok.live,⟨?_,hC.loc,hC.cell,hC.base,hC.frames⟩,c0,hm⟩;rw[jQ _ _ hDC.symm];exact hC.own
theorem Fy{h h':Heap}{C:Addr}{m:Str->Option Value}(n:h.Ns C m)(hs:dJ C h h'):Tk h h':=oW hs.extBut (Kc n)
theorem Pc{ρ':Rho}{σ':H}{s':Shared}{C:Addr}{m:Str->Option Value}{h':Heap}(S':St cx fm ρ' σ' s')(st:Stp fm σ σ' s.heap s'.heap)(hC:Hid cx fm σ' C)(c0:s.heap.get? C=none)(hm:s'.heap.Ns C m)(hs:dJ C s'.heap h'):
 St cx fm ρ' σ' {s' with heap:=h'}/\Stp fm σ σ' s.heap h':=
 ⟨S'.hid hC hs.extBut (Fy hm hs) rfl rfl,st.hid c0 hs.extBut⟩
theorem Dq(elt iter:Expr)(x:Str)(px:Pos)(ifs:List Expr)(rest:List Comprehension)(scope:Scope)(pos:Pos)(env:Env):eval (.ListComp elt (⟨.Name x px,iter,ifs,0⟩::rest) scope pos) env=
 comprehension (.ListComp elt (⟨.Name x px,iter,ifs,0⟩::rest) scope pos) scope env (firstIterPos (⟨.Name x px,iter,ifs,0⟩::rest) pos) (newList []) false (eval iter env):=rfl
theorem Vd(elt iter:Expr)(x:Str)(px:Pos)(ifs:List Expr)(rest:List Comprehension)(scope:Scope)(pos:Pos)(env:Env)(use:Value->Sem Unit):evalThenUse (.ListComp elt (⟨.Name x px,iter,ifs,0⟩::rest) scope pos) env use=(do
 let _←comprehension (.ListComp elt (⟨.Name x px,iter,ifs,0⟩::rest) scope pos) scope env (firstIterPos (⟨.Name x px,iter,ifs,0⟩::rest) pos) (newList []) false (eval iter env) (some use)):=rfl
structure GOk(cx:Cx)(fm:Fm)(n:Nat)(elt:Expr)(x:Str)(px:Pos)(iter:Expr)(ifs:List Expr)(rest:List Comprehension)(scope:Scope)(pos:Pos)(it:It)(i:Nat)(tg:List Nat)(B:Rho->CB):Prop where
 gsi:SI cx fm n iter it
 gfs:∀xv,foldedSetIterable iter fm.env xv=pure xv
 gsc:oP scope fm.env fm.nm tg
 gx:fm.nm[i]?=some x
 gl:scope.names.lookup x=some .local
 gb:∃p,∃body:Env->Addr->Sem Unit,(∀env I D,(model cx.prog cx.w).den (.compLoop (.ListComp elt (⟨.Name x px,iter,ifs,0⟩::rest) scope pos) 0 (.ref I) (.ref D) env)=
    (pI (.ref I) p (.Name x px) env (body env D) (.compLoop (.ListComp elt (⟨.Name x px,iter,ifs,0⟩::rest) scope pos) 0 (.ref I) (.ref D) env)).onRaise (λx=>do noteFrame x env;theTreesLotGoes x))/\
  ∀ρ D C,(∀k∈tg,get ρ k=none)->CF cx fm (cfm fm scope C) D C->wW cx fm (cfm fm scope C) n ρ ρ i D C (B ρ) (body (cfm fm scope C).env D)
variable{elt:Expr}{x:Str}{px:Pos}{iter:Expr}{ifs:List Expr}{rest:List Comprehension}{scope:Scope}{pos:Pos}{it:It}{i:Nat}{tg:List Nat}{B:Rho->CB}
theorem yU(G:GOk cx fm n elt x px iter ifs rest scope pos it i tg B){Q:QV}{X:H->Prop}(ht:∀k∈tg,get ρ k=none)(w:wpI (CTK cx n) it ρ σ (λsrc σ'=>mU src (B ρ) (λacc σ=>newL σ acc Q) [] σ') X)
 (hA:Room A (n+1))(hfr:A.frames=some fm.fs)(S:St cx fm ρ σ s):wpAny (model cx.prog cx.w) A (eval (.ListComp elt (⟨.Name x px,iter,ifs,0⟩::rest) scope pos) fm.env) (Post cx fm ρ σ s Rep Q) (kT cx fm ρ σ s X) s:=by
 refine e22 G.gb λp body hden hb=>?_
 rw[Dq];refine wpAny_comprehension_free (use:=none) rfl G.gfs (wG λy hy=>S.loc.env.cellx y (G.gsc.free y hy)) G.gsc.kind G.gsc.names ?_
 refine yX (RR:=λacc C=>compPost (model cx.prog cx.w) A (kT cx fm ρ σ s X) none (Post cx fm ρ σ s Rep Q) acc C) G.gsi w G.gsc ht G.gx G.gl hden (λD C F=>hb ρ D C ht F) hA hfr S λD C s' g=>?_
 obtain⟨acc,σ',hK,hD,S',st,hC,c0,m,hm⟩:=qR S g;refine⟨m,hm,λh' hs=>?_⟩
 refine e02 (Pc S' st hC c0 hm hs) λS₂ st₂=>?_
 exact⟨_,_,hK.2 D hD,.obj _,S₂,st₂⟩
theorem SE.comp{ic ie:IE}(si:SI cx fm n iter it)(fs:∀env xv,foldedSetIterable iter env xv=pure xv)(sc:oP scope fm.env fm.nm [i])(hx:fm.nm[i]?=some x)(hl:scope.names.lookup x=some .local)
 (hc:∀C,SI1 cx (cfm fm scope C) n ifs ic)(he:∀C,SE cx (cfm fm scope C) n elt ie):SE cx fm n (.ListComp elt [⟨.Name x px,iter,ifs,0⟩] scope pos) (.comp ie i it ic):=λρ σ Q X w A s a b S=>by
 refine e02 w λw0 w=>?_
 refine yU (tg:= [i]) (B:=λρ v σ acc k=>wpE (CTK cx n) ic (set ρ i v) σ (λc σ=>isB c λb=>if b=true then wpE (CTK cx n) ie (set ρ i v) σ (λr σ=>acc.length+1<=lim/\k (acc++ [r]) σ) (λJ=>False) else k acc σ) λJ=>False)
  ⟨si,fs _,sc,hx,hl,iter.pos,λenv D=>sO ifs elt env (.ref D),λenv I D=>?_,λρ D C h0 F=>wM F (hc C) (he C) (h0 i (by simp))⟩ (λk hk=>by rw[aK.mp hk];exact w0) w a b S
 rw[←Wu];rfl
noncomputable def Td(e:Expr)(iter2:Expr)(env:Env)(acc:Value):Sem Unit:=do
 let x←eval iter2 env
 standAt iter2.pos
 let x←foldedSetIterable iter2 env x
 let _←runOwn (.compStart e 1 (←holding [x] (pyIter x)) acc env) env
theorem turn2(elt:Expr)(x y:Str)(px py:Pos)(iter iter2:Expr)(scope:Scope)(pos:Pos)(it acc:Value)(env:Env):
 compTurn (.ListComp elt [⟨.Name x px,iter,[],0⟩,⟨.Name y py,iter2,[],0⟩] scope pos) 0 it acc env=
  pI it iter.pos (.Name x px) env (Td (.ListComp elt [⟨.Name x px,iter,[],0⟩,⟨.Name y py,iter2,[],0⟩] scope pos) iter2 env acc) (.compLoop (.ListComp elt [⟨.Name x px,iter,[],0⟩,⟨.Name y py,iter2,[],0⟩] scope pos) 0 it acc env):=by
 unfold pI Td;simp only[bind_assoc];rfl
theorem Yw(elt:Expr)(x y:Str)(px py:Pos)(iter iter2:Expr)(scope:Scope)(pos:Pos)(it acc:Value)(env:Env):
 compTurn (.ListComp elt [⟨.Name x px,iter,[],0⟩,⟨.Name y py,iter2,[],0⟩] scope pos) 1 it acc env=
  pI it iter2.pos (.Name y py) env (sO [] elt env acc) (.compLoop (.ListComp elt [⟨.Name x px,iter,[],0⟩,⟨.Name y py,iter2,[],0⟩] scope pos) 1 it acc env):=by
 unfold pI sO;simp only[List.forIn_nil,pure_bind,if_true];rfl
theorem Hx{elt:Expr}{x y:Str}{px py:Pos}{iter iter2:Expr}{scope:Scope}{pos:Pos}{it acc:Value}{env:Env}{R:Result->Shared->Prop}{prog:Program}{w:World}{A:Around}{s:Shared}
 (h0:codeAny (model prog w) A (.compLoop (.ListComp elt [⟨.Name x px,iter,[],0⟩,⟨.Name y py,iter2,[],0⟩] scope pos) 1 it acc env) R s)
 (h:wpAny (model prog w) A (pyIter it) (λit' s'=>codeAny (model prog w) A (.compLoop (.ListComp elt [⟨.Name x px,iter,[],0⟩,⟨.Name y py,iter2,[],0⟩] scope pos) 1 it' acc env) R s')
   (notedBy (model prog w) A env λx s'=>R (.error x) s') s):
 codeAny (model prog w) A (.compStart (.ListComp elt [⟨.Name x px,iter,[],0⟩,⟨.Name y py,iter2,[],0⟩] scope pos) 1 it acc env) R s:=by
 refine codeAny_of_tree ?_;show wpAny _ _ ((compStart (.ListComp elt [⟨.Name x px,iter,[],0⟩,⟨.Name y py,iter2,[],0⟩] scope pos) 1 it acc env).onRaise (λx=>do noteFrame x env;standAt theWindowsPlace)) _ _ s
 refine wpAny_notedAt ?_;unfold compStart;show wpAny _ _ (ask>>=_) _ _ s;refine aA (wpAny_askSetting (wpAny_ite ?_));split
 ·first
   |exact aA (aI (aI (jK rfl h0)))
   |exact aI (jK rfl h0)
 ·first
   |exact aA (wpAny_rule (aA (aQ (aA (aM h (λit' s' h'=>aI (jK rfl h')) λJ J x=>x))))) |(refine aA (wpAny_rule ?_);show wpAny _ _ (standAt iter2.pos>>=_) _ _ s;exact aA (aQ (aA (aM h (λit' s' h'=>aI (jK rfl h')) λJ J x=>x))))
theorem Vp{D C:Addr}{fm':Fm}{elt iter iter2:Expr}{x y:Str}{px py:Pos}{scope:Scope}{pos:Pos}{ie:IE}{it2:It}{i j:Nat}(F:CF cx fm fm' D C)(hfs:∀env xv,foldedSetIterable iter2 env xv=pure xv)(hsi:SI cx fm' n iter2 it2)(he:SE cx fm' n elt ie)
 (hi:get ρ i=eA)(hj:get ρ j=eA)(hij:i≠j)(hy:fm'.nm[j]?=some y)(hk:fm'.env.kindOf y=some .local)(hsub:∀z b,fm'.env.cells.lookup z=some b->fm.env.cells.lookup z=some b)(hnew:∀{ρ':Rho} {acc:List V} {σ:H} {s:Shared} {b:Addr},CI cx fm fm' ρ ρ' D acc σ s->s.heap.get? b=none->b≠fm.env.locals/\∀z,fm.env.cells.lookup z≠some b):
 wW cx fm fm' n ρ ρ i D C (λv σ acc k=>wpI (CTK cx n) it2 (set ρ i v) σ (λsrc2 σ=>mU src2 (λu σ acc k2=>wpE (CTK cx n) ie (set (set ρ i v) j u) σ (λr σ=>acc.length+1<=lim/\k2 (acc++ [r]) σ) λJ=>False) k acc σ) λJ=>False)
  (Td (.ListComp elt [⟨.Name x px,iter,[],0⟩,⟨.Name y py,iter2,[],0⟩] scope pos) iter2 fm'.env (.ref D)):=by
 intro v σ K acc A s hA hfr w X;have hj':get (set ρ i v) j=eA:=by rw[mE _ _ _ _ (Ne.symm hij)];exact hj
 unfold Td;refine aA (aM (hsi _ _ _ _ w A s hA hfr X.S) (λxv s₁ z=>?_) λ_ _ ⟨_,z,_⟩=>z.elim)
 refine aA (aQ (aA ?_));rw[hfs];refine aI (aA (aO (aM z (λiv s₂ z=>?_) λ_ _ ⟨_,z,_⟩=>z.elim)))
 refine e31 z λsrc σ₂ I q0z=>?_;refine e06 q0z λwc r4z hit hI hI₀ q0z=>?_;refine e02 q0z λS₂ st₂=>?_;subst r4z
 have tk₂:Tk s.heap s₂.heap:=Stp.tk X.S st₂;have X₂:=X.move F S₂ st₂ tk₂;have hIC:I≠C:=λq=>hI.loc (q.trans F.loc.symm)
 have hID:I≠D:=λq=>by
  refine e22 X.d λitems k e z3z=>?_
  rw[q,e] at hI₀;injection hI₀
 refine e02 (hnew X hI₀) λhl hnl=>?_
 have run:codeAny (model cx.prog cx.w) A (.compLoop (.ListComp elt [⟨.Name x px,iter,[],0⟩,⟨.Name y py,iter2,[],0⟩] scope pos) 1 (.ref I) (.ref D) fm'.env)
  (λr s'=>match r with|.ok _=>(∃acc' σ' ρ'',K acc' σ'/\CI cx fm fm' ρ ρ'' D acc' σ' s'/\(∀j w,get ρ j=some w->get ρ'' j=some w)/\StpG (Fr fm'.fs) (CW C D) σ σ' s.heap s'.heap/\Tk s.heap s'.heap)|.error e=>cameBackBy (model cx.prog cx.w) A fm'.env (λJ J=>False) e s') s₂:=by
  refine Qh (n:=n) (ρ:=set ρ i v) (ρ₀:=ρ) (x:=y) (px:=py) (p:=iter2.pos) (i:=j) (src:=src) (K:=K) (h₀:=s.heap) (σ₀:=σ) (W₀:=CW C D) (body:=sO [] elt fm'.env (.ref D)) F rfl rfl ?_ hA hfr hy hk hj'
   (wM (ic:=.val (.bool true)) F .none he hj') hIC hID (λb hb=>hb) hI₀ hnl hl _ 0 acc σ₂ _ wc X₂ hit hI (st₂.weaken λb hb=>.inl (F.fw hb)) tk₂ λacc' σ' s' hK X' st' tk'=>?_
  ·rw[←Yw]
   rfl
  ·exact⟨acc',σ',_,hK,X',vH hi,st',tk'⟩
 refine aA (wpAny_runOwn (fV (Hx run (yP hit run)) λr s' z=>?_))
 induction r with
 |ok f=>exact aI z |error e=>exact z
theorem SE.comp2{elt iter iter2:Expr}{x y:Str}{px py:Pos}{scope:Scope}{pos:Pos}{ie:IE}{it it2:It}{i j:Nat}(si:SI cx fm n iter it)(fs:∀env xv,foldedSetIterable iter env xv=pure xv)(fs2:∀env xv,foldedSetIterable iter2 env xv=pure xv)(sc:oP scope fm.env fm.nm [i,j])
 (hx:fm.nm[i]?=some x)(hl:scope.names.lookup x=some .local)(hy:fm.nm[j]?=some y)(hly:scope.names.lookup y=some .local)(si2:∀C,SI cx (cfm fm scope C) n iter2 it2)(he:∀C,SE cx (cfm fm scope C) n elt ie):
 SE cx fm n (.ListComp elt [⟨.Name x px,iter,[],0⟩,⟨.Name y py,iter2,[],0⟩] scope pos) (.comp2 ie i it j it2):=λρ σ Q X w A s a b S=>by
 refine e02 w λz4z w=>?_;refine e03 z4z λwi wj hij=>?_
 refine yU (tg:= [i,j]) (B:=λρ v σ acc k=>wpI (CTK cx n) it2 (set ρ i v) σ (λsrc2 σ=>mU src2 (λu σ acc k2=>wpE (CTK cx n) ie (set (set ρ i v) j u) σ (λr σ=>acc.length+1<=lim/\k2 (acc++ [r]) σ) λJ=>False) k acc σ) λJ=>False)
  ⟨si,fs _,sc,hx,hl,iter.pos,λenv D=>Td (.ListComp elt [⟨.Name x px,iter,[],0⟩,⟨.Name y py,iter2,[],0⟩] scope pos) iter2 env (.ref D),λenv I D=>?_,λρ D C h0 F=>?_⟩ (λk hk=>?_) w a b S
 ·rw[←turn2];rfl
 ·refine Vp F fs2 (si2 C) (he C) (h0 i (by simp)) (h0 j (by simp)) hij hy (lookup_relabel_local hly) (nY (λJ J e=>by injection e)) λ{ρ' acc σ s b} X hb=>?_
  refine⟨λq=>?_,λz q=>?_⟩
  ·refine e12 X.L.ns λm z5z z6z=>?_;refine e32 z5z λo z7z z8z e z9z=>?_
   rw[q,e] at hb;injection hb
  ·refine e02 (X.L.cells z b q) λz10z z11z=>?_;refine e22 z10z λv o e z12z=>?_
   rw[e] at hb;injection hb
 ·rcases aJ.mp hk with rfl|hk
  ·exact wi
  ·rw[aK.mp hk];exact wj
end
end
section
open PySem.SeqAt
noncomputable def FlR(h:Heap):Flow->Fl->Prop
 |.next,.next=>True |.brk,.brk=>True |.cont,.cont=>True |.ret val,.ret v=>Rep h val v |_,_=>False
noncomputable def mG(cx:Cx)(fm:Fm)(σ:H)(s:Shared)(X:XS):Value->Shared->Prop:=
 λe s'=>∃ρ' σ',X ρ' σ'/\sR s.heap s'.heap e/\St cx fm ρ' σ' s'/\Stp fm σ σ' s.heap s'.heap
noncomputable abbrev zD(cx:Cx)(fm:Fm)(σ:H)(s:Shared)(Q:QS):Flow->Shared->Prop:=Si cx fm σ s FlR Q
noncomputable def uG(cx:Cx)(fm:Fm)(σ:H)(s:Shared)(K:Rho->H->Prop):Unit->Shared->Prop:=λJ s'=>∃ρ' σ',K ρ' σ'/\St cx fm ρ' σ' s'/\Stp fm σ σ' s.heap s'.heap
noncomputable def SS(cx:Cx)(fm:Fm)(n:Nat)(t:Sem Flow)(w:Rho->H->QS->XS->Prop):Prop:=
 ∀ρ σ Q X,w ρ σ Q X->∀A s,Room A (n+1)->A.frames=some fm.fs->St cx fm ρ σ s->wpAny (model cx.prog cx.w) A t (zD cx fm σ s Q) (mG cx fm σ s X) s
noncomputable abbrev S1(cx:Cx)(fm:Fm)(n:Nat)(st:Stmt)(is:IS):Prop:=SS cx fm n (exec st fm.env) (wpS (CTK cx n) is)
noncomputable abbrev Ss(cx:Cx)(fm:Fm)(n:Nat)(st:List Stmt)(is:ISs):Prop:=SS cx fm n (execs st fm.env) (wpSs (CTK cx n) is)
section
variable{cx:Cx}{fm:Fm}{n:Nat}{ρ:Rho}{σ:H}{s:Shared}{A:Around}{α β:Type}{M:Model}
theorem mG.trans{σ₁:H}{s₁:Shared}{X:XS}{e:Value}{s':Shared}(x:Stp fm σ σ₁ s.heap s₁.heap)(y:mG cx fm σ₁ s₁ X e s'):mG cx fm σ s X e s':=by
 refine e24 y λρ' σ' h1 h2 h3 h4=>?_
 exact⟨ρ',σ',h1,h2.older x.live,h3,x.trans h4⟩
theorem uG.trans{σ₁:H}{s₁:Shared}{K:Rho->H->Prop}{u:Unit}{s':Shared}(x:Stp fm σ σ₁ s.heap s₁.heap)(y:uG cx fm σ₁ s₁ K u s'):uG cx fm σ s K u s':=by
 refine e23 y λρ' σ' h1 h3 h4=>?_
 exact⟨ρ',σ',h1,h3,x.trans h4⟩
theorem kT.toS{X:XS}{e:Value}{s':Shared}(y:kT cx fm ρ σ s (X ρ) e s'):mG cx fm σ s X e s':=by
 refine e14 y λσ' h1 h2 h3 h4=>?_
 exact⟨ρ,σ',h1,h2,h3,h4⟩
theorem oA{R:Heap->α->β->Prop}{P:β->H->Prop}{Q:QS}{X:XS}{t:Sem α}{u:α->Sem Flow}(h:wpAny M A t (Post cx fm ρ σ s R P) (kT cx fm ρ σ s (X ρ)) s)
 (hk:∀a b σ' s',P b σ'->R s'.heap a b->St cx fm ρ σ' s'->Stp fm σ σ' s.heap s'.heap->wpAny M A (u a) (zD cx fm σ' s' Q) (mG cx fm σ' s' X) s'):
 wpAny M A (t>>=u) (zD cx fm σ s Q) (mG cx fm σ s X) s:=
 aA (aM h (λa s' ⟨b,σ',p,r,S',st⟩=>aM (hk a b σ' s' p r S' st) (λJ J z=>z.trans st) λJ J z=>z.trans st) λJ J z=>z.toS)
theorem oR{K:Rho->H->Prop}{Q:QS}{X:XS}{t:Sem Unit}{u:Unit->Sem Flow}(h:wpAny M A t (uG cx fm σ s K) (mG cx fm σ s X) s)
 (hk:∀ρ' σ' s',K ρ' σ'->St cx fm ρ' σ' s'->Stp fm σ σ' s.heap s'.heap->wpAny M A (u ()) (zD cx fm σ' s' Q) (mG cx fm σ' s' X) s'):
 wpAny M A (t>>=u) (zD cx fm σ s Q) (mG cx fm σ s X) s:=
 aA (aM h (λa s' ⟨ρ',σ',p,S',st⟩=>aM (hk ρ' σ' s' p S' st) (λJ J z=>z.trans st) λJ J z=>z.trans st) λJ J z=>z)
set_option tactic.hygienic true in
theorem mI{Q:QS}(q:Q .next ρ σ)(S:St cx fm ρ σ s):zD cx fm σ s Q .next s:=⟨.next,ρ,σ,q,trivial,S,.refl ..⟩
theorem S1.pass{pos}:S1 cx fm n (.Pass pos) .pass:=λρ σ Q X w A s J J S=>wpAny_Pass (mI w S)
theorem S1.ret{e:Expr}{ie:IE}{pos}(h:SE cx fm n e ie):S1 cx fm n (.Return (some e) pos) (.ret ie):=λρ σ Q X w A s a b S=>by
 rw[arm_exec_Return];refine aA (aQ (oA (h _ _ _ _ w A s a b S) λv u σ' s' w' r S' st=>?_))
 exact aI ⟨.ret u,ρ,σ',w',r,S',.refl ..⟩
theorem S1.retNone{pos}:S1 cx fm n (.Return none pos) (.ret (.val .none)):=λρ σ Q X w A s a b S=>by
 rw[arm_exec_Return];exact aA (aQ (aI ⟨.ret .none,ρ,σ,w,.none,S,.refl ..⟩))
theorem Ss.nil:Ss cx fm n [] .nil:=λρ σ Q X w A s a b S=>gM (mI w S)
theorem Ss.cons{st:Stmt}{rest:List Stmt}{i:IS}{is:ISs}(h:S1 cx fm n st i)(hr:Ss cx fm n rest is):Ss cx fm n (st::rest) (.cons i is):=λρ σ Q X w A s a b S=>by
 refine iA (aM (h _ _ _ _ w A s a b S) (λf s' z=>?_) λJ J z=>z)
 refine e31 z λb' ρ' σ' q0z=>?_;refine e04 q0z λw' r S' st=>?_
 match f,b',r with
 |.next,.next,_=>exact aM (hr _ _ _ _ w' A s' a b S') (λJ J z=>z.trans st) λJ J z=>z.trans st |.brk,.brk,r=>exact⟨.brk,ρ',σ',w',r,S',st⟩ |.cont,.cont,r=>exact⟨.cont,ρ',σ',w',r,S',st⟩ |.ret v,.ret u,r=>exact⟨.ret u,ρ',σ',w',r,S',st⟩
theorem S1.iff{t:Expr}{x y:List Stmt}{it:IE}{ix iy:ISs}{pos}(ht:ST cx fm n t it)(hx:Ss cx fm n x ix)(hy:Ss cx fm n y iy):S1 cx fm n (.If t x y pos) (.iff it ix iy):=λρ σ Q X w A s a b S=>by
 rw[arm_exec_If];refine aA (aQ (oA (ht _ _ _ _ w A s a b S) λc c' σ' s' w' e S' st=>?_))
 have e:c=c':=e;subst e
 induction c
 ·exact hy _ _ _ _ w' A s' a b S'
 ·exact hx _ _ _ _ w' A s' a b S'
theorem S1.expr{e:Expr}{ie:IE}{pos}(hi:fm.env.scope.kind=.function)(hs:∀env,swapsWith e none pos.line env=pure false)(h:SE cx fm n e ie):S1 cx fm n (.Expr e pos) (.expr ie):=λρ σ Q X w A s a b S=>by
 have hint:interactive fm.env=false:=by unfold interactive;rw[hi];rfl
 refine wpAny_Expr_any ?_ hint (hs _);refine aM (h _ _ _ _ w A s a b S) (λv s' z=>?_) λJ J z=>z.toS
 refine e24 z λu σ' w' r S' st=>?_
 exact⟨.next,ρ,σ',w',trivial,S',st⟩
theorem xX{o i:Expr}{io ii:IE}{pos}{v:V}{ρ σ}{K:H->Prop}{X:XS}(ho:SE cx fm n o io)(hi:SE cx fm n i ii)(w:wpE (CTK cx n) io ρ σ (λa σ=>wpE (CTK cx n) ii ρ σ (λb σ=>pX a b v σ K) (X ρ)) (X ρ))
 {A s val}(a:Room A (n+1))(b:A.frames=some fm.fs)(S:St cx fm ρ σ s)(r:Rep s.heap val v):
 wpAny (model cx.prog cx.w) A (assign (.Subscript o i pos) fm.env val) (uG cx fm σ s (λρ' σ=>ρ'=ρ/\K σ)) (mG cx fm σ s X) s:=by
 rw[arm_assign_Subscript]
 have main:∀rl:Value->Value->List Value,wpAny (model cx.prog cx.w) A (do
  let ov←holding [val] (eval o fm.env)
  let iv←holding [val,ov] (eval i fm.env)
  standAt pos
  holding [val,ov,iv] (setItem ov iv val)
  release (rl ov iv) []) (Post cx fm ρ σ s Same λJ σ=>K σ) (kT cx fm ρ σ s (X ρ)) s:=by
  intro rl;refine jU (aO (ho _ _ _ _ w A s a b S)) λov u σ' s' w' ro S' st=>?_
  refine jU (aO (hi _ _ _ _ w' A s' a b S')) λiv u' σ₂ s₂ w₂ ri S₂ st₂=>?_
  refine aA (aQ ?_);refine jU (aO (Hj S₂ (ro.mono (Stp.tk S' st₂)) ri ((r.mono (Stp.tk S st)).mono (Stp.tk S' st₂)) w₂)) λJ J σ₃ s₃ w₃ J S₃ st₃=>?_
  exact gJ (jT S₃ rfl rfl rfl w₃ rfl)
 exact aM (main _) (λ_ _ ⟨_,σ',k,_,S',st⟩=>⟨ρ,σ',⟨rfl,k⟩,S',st⟩) λJ J z=>z.toS
theorem oF{t value:Expr}{pos:Pos}{env:Env}(ht:assignEach [t] env= [(false,assign t env)])(hs:swapsWith value (some t) pos.line env=pure false)(hw:swappedStores [t] value env=pure none):
 exec (.Assign [t] value pos) env=(do
  standAt pos
  let v←eval value env
  assign t env v
  pure .next):=by
 rw[arm_exec_Assign];have e:swapsWithSole [t] value pos.line env=pure false:=hs;rw[e,ht,hw];rfl
theorem S1.assign{value:Expr}{ie:IE}{x:Str}{px pos:Pos}{i:Nat}(hs:swapsWith value (some (.Name x px)) pos.line fm.env=pure false)(hx:fm.nm[i]?=some x)(hk:fm.env.kindOf x=some .local∨(fm.env.kindOf x=some .cell/\fm.comp=false))(h:SE cx fm n value ie):
 S1 cx fm n (.Assign [.Name x px] value pos) (.assign i ie):=λρ σ Q X w A s a b S=>by
 rw[oF rfl hs rfl];refine aA (aQ (oA (h _ _ _ _ w A s a b S) λv u σ' s' w' r S' st=>?_))
 refine oR (K:=λρ' σ=>ρ'=set ρ i u/\Q .next (set ρ i u) σ) (aM (assign_Name (oB hx hk S' r)) (λJ J z=>⟨_,_,⟨rfl,w'⟩,z.1,z.2⟩) λJ J z=>z) λρ₂ σ₂ s₂ w₂ S₂ st₂=>?_
 obtain⟨rfl,w₂⟩:=w₂;exact aI (mI w₂ S₂)
end
end
section
open PySem.SeqAt
section
variable{cx:Cx}{fm:Fm}{n:Nat}{ρ:Rho}{σ:H}{s:Shared}{A:Around}{M:Model}
theorem S1.setSub{value o i:Expr}{ie io ii:IE}{p pos:Pos}(hs:swapsWith value (some (.Subscript o i p)) pos.line fm.env=pure false)(h:SE cx fm n value ie)(ho:SE cx fm n o io)(hi:SE cx fm n i ii):
 S1 cx fm n (.Assign [.Subscript o i p] value pos) (.setSub io ii ie):=λρ σ Q X w A s a b S=>by
 rw[oF rfl hs rfl];refine aA (aQ (oA (h _ _ _ _ w A s a b S) λv u σ' s' w' r S' st=>?_))
 refine oR (xX (K:=λσ=>Q .next ρ σ) ho hi w' a b S' r) λρ₂ σ₂ s₂ w₂ S₂ st₂=>?_
 obtain⟨rfl,w₂⟩:=w₂;exact aI (mI w₂ S₂)
theorem S1.setSli{value o:Expr}{lo hi:Option Expr}{ie io il ih:IE}{p sp pos:Pos}(hs:swapsWith value (some (.Subscript o (.Slice lo hi none sp) p)) pos.line fm.env=pure false)(h:SE cx fm n value ie)(ho:SE cx fm n o io)(hl:SO cx fm n lo il)(hh:SO cx fm n hi ih):
 S1 cx fm n (.Assign [.Subscript o (.Slice lo hi none sp) p] value pos) (.setSli io il ih ie):=λρ σ Q X w A s a b S=>by
 rw[oF rfl hs rfl];refine aA (aQ (oA (h _ _ _ _ w A s a b S) λvv u σ' s' w' r S' st=>?_))
 refine oR (K:=λρ' σ=>ρ'=ρ/\Q .next ρ σ) ?_ λρ₂ σ₂ s₂ w₂ S₂ st₂=>?_
 ·rw[arm_assign_Subscript,arm_eval_Slice]
  refine aM (Q:=Post cx fm ρ σ' s' Same λJ σ=>Q .next ρ σ) (E:=kT cx fm ρ σ' s' (X ρ)) ?_ (λ_ _ ⟨_,σ',k,_,S',st⟩=>⟨ρ,σ',⟨rfl,k⟩,S',st⟩) λJ J z=>z.toS
  refine jU (aO (ho _ _ _ _ w' A s' a b S')) λva v σ₁ s₁ w₁ ra S₁ st₁=>?_
  have r₁:=r.mono (Stp.tk S' st₁);refine aA (aO (aA ?_))
  refine lL (G:=λl Q E s=>wpAny (model cx.prog cx.w) A ((do
   let u←holding [l] (valueOrNone (evalOpt hi fm.env))
   let s←holding [l,u] (valueOrNone (evalOpt none fm.env))
   newFields "slice" [l,u,s])) (λi s=>wpAny (model cx.prog cx.w) A (do standAt p;holding [vv,va,i] (setItem va i vv);release [i,vv,va] []) Q E s) E s) (hl _ _ _ _ w₁ A s₁ a b S₁)
   (λl Q Q' E E' s h1 h2 z=>aM z (λJ J z=>aM z h1 h2) h2) λvl l σ₂ s₂ w₂ rl S₂ st₂=>?_
  refine aA (aO ?_)
  refine lL (G:=λu Q E s=>wpAny (model cx.prog cx.w) A ((do
   let s←holding [vl,u] (valueOrNone (evalOpt none fm.env))
   newFields "slice" [vl,u,s])) (λi s=>wpAny (model cx.prog cx.w) A (do standAt p;holding [vv,va,i] (setItem va i vv);release [i,vv,va] []) Q E s) E s) (hh _ _ _ _ w₂ A s₂ a b S₂)
   (λl Q Q' E E' s h1 h2 z=>aM z (λJ J z=>aM z h1 h2) h2) λvh h σ₃ s₃ w₃ rh S₃ st₃=>?_
  have tk₂:=Stp.tk S₁ st₂;have tk₃:=Stp.tk S₂ st₃;refine aA (aO (aI ?_));refine wpAny_newObj_type (aA (aQ (aA (aO ?_))));refine aM (Ij (E:=kT cx fm ρ σ₃ s₃ (X ρ)) S₃ ((ra.mono tk₂).mono tk₃) (rl.mono tk₃) rh ((r₁.mono tk₂).mono tk₃) w₃) (λJ s₄ z=>?_) λJ J z=>z
  exact gJ z
 ·obtain⟨rfl,w₂⟩:=w₂
  exact aI (mI w₂ S₂)
theorem S1.setAttr{value o:Expr}{ie io:IE}{x:At}{p pos:Pos}(T:TopOk cx)(KO:KOk cx.K)(hs:swapsWith value (some (.Attribute o x.str p)) pos.line fm.env=pure false)(h:SE cx fm n value ie)(ho:SE cx fm n o io):
 S1 cx fm n (.Assign [.Attribute o x.str p] value pos) (.setAttr io x ie):=λρ σ Q X w A s a b S=>by
 rw[oF rfl hs rfl];refine aA (aQ (oA (h _ _ _ _ w A s a b S) λvv u σ' s' w' r S' st=>?_))
 refine oR (K:=λρ' σ=>ρ'=ρ/\Q .next ρ σ) ?_ λρ₂ σ₂ s₂ w₂ S₂ st₂=>?_
 ·rw[arm_assign_Attribute]
  refine aM (Q:=Post cx fm ρ σ' s' Same λJ σ=>Q .next ρ σ) (E:=kT cx fm ρ σ' s' (X ρ)) ?_ (λ_ _ ⟨_,σ',k,_,S',st⟩=>⟨ρ,σ',⟨rfl,k⟩,S',st⟩) λJ J z=>z.toS
  refine jU (aO (ho _ _ _ _ w' A s' a b S')) λva v σ₁ s₁ w₁ ra S₁ st₁=>?_
  refine aA (aQ ?_);refine jU (aO (Df T KO S₁ ra (r.mono (Stp.tk S' st₁)) w₁)) λJ J σ₂ s₂ w₂ J S₂ st₂=>?_
  exact gJ (jT S₂ rfl rfl rfl w₂ rfl)
 ·obtain⟨rfl,w₂⟩:=w₂
  exact aI (mI w₂ S₂)
theorem aug_ok{op:Operator}{va vb:Value}{a b:V}{K:V->Prop}{E:Value->Shared->Prop}{Q:Value->Shared->Prop}(ra:Rep s.heap va a)(rb:Rep s.heap vb b)(q:augW op a b K)(k:∀val v t,Rep s.heap val v->K v->Q val {s with toks:=t}):
 wpAny (model cx.prog cx.w) A (inplaceOp op va vb) Q E s:=by
 induction op with
 |Add=>exact ra.ii rb q λJ J J J q=>PyProof.Rows.iadd_int (k _ _ _ (.int _ _) q) |BitAnd=>exact ra.ii rb q λJ J J J q=>PyProof.Rows.iand_int (k _ _ _ (.int _ _) q) |RShift=>exact ra.ii rb q λJ J J J q=>PyProof.Rows.irshift_int q.1 (k _ _ _ (.int _ _) q.2) |_=>exact bM q
theorem S1.aug{value:Expr}{ie:IE}{op:Operator}{x:Str}{px pos:Pos}{i:Nat}(hx:fm.nm[i]?=some x)(hk:fm.env.kindOf x=some .local)(hn:(x==("__classdict__":Str))=false)(h:SE cx fm n value ie):
 S1 cx fm n (.AugAssign (.Name x px) op value pos) (.aug i op ie):=λρ σ Q X w A s a b S=>by
 rw[arm_exec_AugAssign];refine kH w λv hv w=>?_
 refine aA (aQ (aA (Rh hx (.inl hk) hn S hv λold ro=>?_)))
 refine oA (aO (h _ _ _ _ w A s a b S)) λvb u σ' s' w' r S' st=>?_
 refine aA (aQ (aA (fJ (aug_ok (ro.mono (Stp.tk S st)) r w' λval v t rv kv=>?_))))
 have S₁:St cx fm ρ σ' {s' with toks:=t}:=S'.toks t
 refine aA (aQ ?_);refine oR (s:={s' with toks:=t}) (K:=λρ' σ=>ρ'=set ρ i v/\Q .next (set ρ i v) σ) (wpAny_bindName (aM (oB hx (.inl hk) S₁ rv) (λJ J z=>⟨_,_,⟨rfl,kv⟩,z.1,z.2⟩) λJ J z=>z)) λρ₂ σ₂ s₂ w₂ S₂ st₂=>?_
 obtain⟨rfl,w₂⟩:=w₂;exact aI (mI w₂ S₂)
theorem xL{elt iter:Expr}{x y:Str}{px py:Pos}{ifs:List Expr}{rest:List Comprehension}{scope:Scope}{spos pos:Pos}{env:Env}(hs:swapsWith (.ListComp elt (⟨.Name x px,iter,ifs,0⟩::rest) scope spos) (some (.Name y py)) pos.line env=pure true):
 exec (.Assign [.Name y py] (.ListComp elt (⟨.Name x px,iter,ifs,0⟩::rest) scope spos) pos) env=(do
  standAt pos
  evalThenUse (.ListComp elt (⟨.Name x px,iter,ifs,0⟩::rest) scope spos) env (assign (.Name y py) env)
  pure .next):=by
 rw[arm_exec_Assign];have e:swapsWithSole [.Name y py] (.ListComp elt (⟨.Name x px,iter,ifs,0⟩::rest) scope spos) pos.line env=pure true:=hs;rw[e];rfl
theorem S1.gather{elt:Expr}{x y:Str}{px py:Pos}{iter:Expr}{ifs:List Expr}{rest:List Comprehension}{scope:Scope}{spos pos:Pos}{it:It}{i j:Nat}{tg:List Nat}{B:Rho->CB}{ie:IE}
 (hw:∀ρ σ Q X,wpE (CTK cx n) ie ρ σ Q X->(∀k∈tg,get ρ k=none)/\wpI (CTK cx n) it ρ σ (λsrc σ'=>mU src (B ρ) (λacc σ=>newL σ acc Q) [] σ') X)
 (G:GOk cx fm n elt x px iter ifs rest scope spos it i tg B)(hs:swapsWith (.ListComp elt (⟨.Name x px,iter,ifs,0⟩::rest) scope spos) (some (.Name y py)) pos.line fm.env=pure true)
 (hy:fm.nm[j]?=some y)(hk:fm.env.kindOf y=some .local):S1 cx fm n (.Assign [.Name y py] (.ListComp elt (⟨.Name x px,iter,ifs,0⟩::rest) scope spos) pos) (.assign j ie):=λρ σ Q X w A s a b S=>by
 refine e02 (hw _ _ _ _ w) λht w=>?_
 refine e22 G.gb λp body hden hb=>?_
 rw[xL hs,Vd];refine aA (aQ (aA (aA ?_)));have E0:∀e s',kT cx fm ρ σ s (X ρ) e s'->mG cx fm σ s X e s':=λe s' z=>z.toS
 refine aM (E:=kT cx fm ρ σ s (X ρ)) ?_ (λJ J z=>z) E0
 refine wpAny_comprehension_free rfl G.gfs (wG λy hy=>S.loc.env.cellx y (G.gsc.free y hy)) G.gsc.kind G.gsc.names ?_
 refine yX (RR:=λacc C=>compPost (model cx.prog cx.w) A (kT cx fm ρ σ s (X ρ)) (some (PySem.assign (.Name y py) fm.env)) _ acc C) G.gsi w G.gsc ht G.gx G.gl hden (λD C F=>hb ρ D C ht F) a b S λD C s' g=>?_
 obtain⟨acc,σ',hK,hD,S',st,hC,c0,m,hm⟩:=qR S g;refine assign_Name (aM (oB hy (.inl hk) S' (.obj D)) (λJ s₂ z=>?_) λJ J z=>z)
 refine e02 z λS₂ st₂=>?_
 have hmC:∃m,s₂.heap.Ns C m:=⟨m,Kept.ns hm λo e=>st₂.keep C o e hC.own hC.fw⟩
 refine e11 hmC λm₂ hm₂=>?_
 refine⟨m₂,hm₂,λh' hs'=>?_⟩
 refine e02 (Pc S₂ (st.trans st₂) hC c0 hm₂ hs') λS₃ st₃=>?_
 exact aI (aI ⟨.next,_,_,hK.2 D hD,trivial,S₃,st₃⟩)
end
end
section
open PySem.SeqAt
section
variable{cx:Cx}{fm:Fm}{n:Nat}{ρ:Rho}{σ:H}{s:Shared}{A:Around}{M:Model}
theorem S1.whl{t:Expr}{x:List Stmt}{it:IE}{ix:ISs}{pos}(ht:ST cx fm n t it)(hx:Ss cx fm n x ix):S1 cx fm n (.While t x [] pos) (.whl it ix):=λρ σ Q X w A s a b S=>by
 refine e11 w λN w=>?_
 refine wpAny_While ?_;refine codeAny_whileLoop (λN s'=>∃ρ' σ',whlN (λρ σ k=>wpE (CTK cx n) it ρ σ (λv σ=>isB v λc=>k c σ) λJ=>False) (λρ σ q=>wpSs (CTK cx n) ix ρ σ q λJ J=>False) Q N ρ' σ'/\St cx fm ρ' σ' s'/\Stp fm σ σ' s.heap s'.heap) (λN s' hI=>?_) N ⟨ρ,σ,w,S,.refl ..⟩
 clear w S;refine e23 hI λρ' σ' w S st=>?_
 induction N using Nat.casesOn with
 |zero=>exact w.elim |succ N=>
 refine aM (ht ρ' σ' _ _ w A s' a b S) (λc s₁ z=>?_) λ_ _ ⟨_,z,_⟩=>z.elim
 refine e24 z λc' σ₁ w₁ e S₁ st₁=>?_
 have e:c=c':=e;subst e
 induction c with
 |false=>exact gM ⟨.next,ρ',σ₁,w₁,trivial,S₁,st.trans st₁⟩ |true=>
  rw[if_pos rfl] at w₁⊢;refine aM (hx ρ' σ₁ _ _ w₁ A s₁ a b S₁) (λf s₂ z=>?_) λ_ _ ⟨_,_,z,_⟩=>z.elim
  refine e31 z λf' ρ₂ σ₂ q0z=>?_;refine e04 q0z λw₂ r S₂ st₂=>?_
  have st₃:=(st.trans st₁).trans st₂
  match f,f',r with
  |.next,.next,_=>exact⟨N,cB _,ρ₂,σ₂,w₂,S₂,st₃⟩ |.cont,.cont,_=>exact⟨N,cB _,ρ₂,σ₂,w₂,S₂,st₃⟩ |.brk,.brk,_=>exact⟨.next,ρ₂,σ₂,w₂,trivial,S₂,st₃⟩ |.ret v,.ret u,r=>exact⟨.ret u,ρ₂,σ₂,w₂,r,S₂,st₃⟩
structure SF(cx:Cx)(fm:Fm)(t:Expr)(ft:Ft):Prop where
 go:∀{A:Around} {s:Shared} {E:Value->Shared->Prop} {Q:Unit->Shared->Prop} {I:Addr} {src:Src} {i:Nat} {val:Value},ItAt s.heap I src i->Q () s->wpAny (model cx.prog cx.w) A (letOwnedTupleGo t (.ref I) val) Q E s
 st:∀{v ρ σ ρ' A s val} {E:Value->Shared->Prop},pM ft v ρ=some ρ'->A.handled=none->St cx fm ρ σ s->Rep s.heap val v->wpAny (model cx.prog cx.w) A (assign t fm.env val) (Kg cx fm ρ' σ s) E s
theorem SF.one{x:Str}{px:Pos}{i:Nat}(hx:fm.nm[i]?=some x)(hk:fm.env.kindOf x=some .local∨(fm.env.kindOf x=some .cell/\fm.comp=false)):SF cx fm (.Name x px) (.one i):=
 ⟨λJ q=>aI q,λe hA S r=>by injection e with qz;subst qz;exact assign_Name (oB hx hk S r)⟩
theorem S1.for{t iter:Expr}{ft:Ft}{it:It}{x:List Stmt}{ix:ISs}{pos}(hfs:∀env xv,foldedSetIterable iter env xv=pure xv)(hf:SF cx fm t ft)(hi:SI cx fm n iter it)(hx:Ss cx fm n x ix):S1 cx fm n (.For t iter x [] pos) (.for_ ft it ix):=λρ σ Q X w A s a b S=>by
 rw[arm_exec_For];refine aA (aQ (aA ?_));refine aM (hi ρ σ _ _ w A s a b S) (λxv s₁ z=>?_) λJ J z=>z.toS
 rw[hfs];refine aA (aI ?_);refine aA (aQ (aA (aO (aM z (λiv s₂ z=>?_) λJ J z=>z.toS))))
 rcases z with⟨src,σ₂,I,w,rfl,hit,hI,hI₀,S₂,st₂⟩
 refine wpAny_runOwn ?_;generalize lZ src σ₂+1=N at w;show codeAny _ A (.forLoop t (.ref I) x [] fm.env) _ s₂;refine codeAny_loop' rfl (λN s'=>∃j ρ' σ',forN src ft (λρ σ q=>wpSs (CTK cx n) ix ρ σ q λJ J=>False) Q N j ρ' σ'/\St cx fm ρ' σ' s'/\Stp fm σ σ' s.heap s'.heap/\ItAt s'.heap I src j/\Hid cx fm σ' I) (λN s' hJ=>?_) N ⟨0,ρ,σ₂,w,S₂,st₂,hit,hI⟩
 clear w S₂ st₂ hit hI;refine e31 hJ λj ρ' σ' q0z=>?_;refine e05 q0z λw S' st hit hh=>?_
 show wpAny _ A ((forTurn t (.ref I) x [] fm.env).onRaise (λx=>do noteFrame x fm.env;theTreesLotGoes x)) _ _ s'
 refine wpAny_noted ?_;unfold forTurn
 induction N using Nat.casesOn with
 |zero=>exact w.elim |succ N=>
 refine kH w λr hr w=>?_
 refine aA (aQ (aA (wpAny_onRaise (aM (Lh (E:=λJ J=>False) a.1 S' hit hr hh) (λo s₁ z=>?_) λJ J z=>z.elim))))
 refine e03 z λz2z tk₁ hr'=>?_;refine e22 z2z λh' tt z3z hs=>?_;obtain rfl:=z3z
 have S₁:St cx fm ρ' σ' {s' with heap:=h',toks:=tt}:=S'.hid hh hs tk₁ rfl rfl
 have st₁:Stp fm σ σ' s.heap h':=st.hid hI₀ hs
 induction r with
 |none=>
  subst hr';exact aI (.inr ⟨rfl,codeAny_block (gM ⟨.next,ρ',σ',w,trivial,S₁,st₁⟩)⟩)
 |some v=>
  refine e13 hr' λval z4z rv hit₁=>?_;obtain rfl:=z4z
  refine kH w λρ₂ hb w=>?_
  refine aA (hf.go hit₁ ?_);refine aA (aM (hf.st (E:=λJ J=>False) hb a.1 S₁ rv) (λJ s₃ z=>?_) λJ J z=>z.elim)
  refine e02 z λS₃ st₃=>?_
  have tk₃:Tk h' s₃.heap:=Stp.tk S₁ st₃;have hit₃:ItAt s₃.heap I src (j+1):=hit₁.step hh st₃ tk₃;refine e12 hit₃.live λoI eI z5z=>?_
  refine aA (aM (hx ρ₂ σ' _ _ w A s₃ a b S₃) (λf s₄ z=>?_) λ_ _ ⟨_,_,z,_⟩=>z.elim)
  refine e31 z λf' ρ₄ σ₄ q0z=>?_;refine e04 q0z λw₄ r S₄ st₄=>?_
  have st₅:=(st₁.trans st₃).trans st₄;have hit₄:=hit₃.step hh st₄ (Stp.tk S₃ st₄);have hh₄:=hh.step st₄ (by rw[eI];exact λh=>by injection h)
  match f,f',r with
  |.next,.next,_=>exact aI (.inl ⟨rfl,N,cB _,j+1,ρ₄,σ₄,w₄,S₄,st₅,hit₄,hh₄⟩) |.cont,.cont,_=>exact aI (.inl ⟨rfl,N,cB _,j+1,ρ₄,σ₄,w₄,S₄,st₅,hit₄,hh₄⟩) |.brk,.brk,_=>exact aI ⟨.next,ρ₄,σ₄,w₄,trivial,S₄,st₅⟩ |.ret v,.ret u,r=>exact aI ⟨.ret u,ρ₄,σ₄,w₄,r,S₄,st₅⟩
end
end
section
open PySem.SeqAt
section
variable{cx:Cx}{fm:Fm}{n:Nat}{ρ:Rho}{σ:H}{s:Shared}{A:Around}{M:Model}
inductive TGs (cx:Cx) (fm:Fm) (n:Nat):List Expr->List Tg->Prop
 |nil:TGs cx fm n [] []
 |nm {x px i ts tgs}:fm.nm[i]?=some x->(fm.env.kindOf x=some .local∨(fm.env.kindOf x=some .cell/\fm.comp=false))->TGs cx fm n ts tgs->TGs cx fm n (.Name x px::ts) (.nm i::tgs)
 |sub {o i p io ii ts tgs}:SE cx fm n o io->SE cx fm n i ii->TGs cx fm n ts tgs->TGs cx fm n (.Subscript o i p::ts) (.sub io ii::tgs)
theorem TGs.plain{ts:List Expr}{tgs:List Tg}(h:TGs cx fm n ts tgs):(assignEach ts fm.env).map (·.1)=ts.map (λJ=>false)/\ts.length=tgs.length:=by
 induction h with
 |nil=>exact⟨rfl,rfl⟩ |nm _ _ _ ih=>exact⟨congrArg (false:: ·) ih.1,congrArg (· +1) ih.2⟩ |sub _ _ _ ih=>exact⟨congrArg (false:: ·) ih.1,congrArg (· +1) ih.2⟩
theorem Nn{ts:List Expr}{tgs:List Tg}{K:Rho->H->Prop}{X:XS}(ht:TGs cx fm n ts tgs):∀{items:List Value} {vs:List V} {ρ:Rho} {σ:H} {s:Shared},mW (CTK cx n) tgs vs ρ σ K X->Room A (n+1)->A.frames=some fm.fs->St cx fm ρ σ s->Reps s.heap items vs->
 wpAny (model cx.prog cx.w) A (assignInOrder ((assignEach ts fm.env).map (·.2)) items) (uG cx fm σ s K) (mG cx fm σ s X) s:=by
 induction ht with
 |nil=>
  intro items vs ρ σ s w a b S rs
  induction vs using List.casesOn with
  |nil=>exact rs.e0 (aI ⟨ρ,σ,w,S,.refl ..⟩) |cons=>exact bM w
 |nm hx hk _ ih=>
  intro items vs ρ σ s w a b S rs
  induction vs using List.casesOn with
  |nil=>exact bM w |cons v vs=>
   refine rs.eC λJ J r rs=>aA (aO (assign_Name (aM (oB hx hk S r) (λJ s' z=>?_) λJ J z=>z)))
   exact aM (ih w a b z.1 (rs.mono (Stp.tk S z.2))) (λJ J y=>y.trans z.2) λJ J y=>y.trans z.2
 | @sub _ _ _ _ _ _ tgs ho hi _ ih=>
   intro items vs ρ σ s w a b S rs
   induction vs using List.casesOn with
   |nil=>exact bM w |cons v vs=>
    refine rs.eC λJ J r rs=>aA (aO (aM (xX (K:=λσ=>mW (CTK cx n) tgs vs ρ σ K X) ho hi w a b S r) (λJ s' z=>?_) λJ J z=>z))
    refine e23 z λρ' σ' z1z S' st=>?_
    cases z1z.1;exact aM (ih z1z.2 a b S' (rs.mono (Stp.tk S st))) (λJ J z=>z.trans st) λJ J z=>z.trans st
theorem rK{l:List (Bool×(Value->Sem Unit))}:∀{ts:List Expr},l.map (·.1)=ts.map (λJ=>false)->l.findIdx? (·.1)=none:=by
 induction l with
 |nil=>exact λJ=>rfl |cons p l ih=>
  intro ts h
  induction ts using List.casesOn with
  |nil=>exact by contradiction
  |cons t ts=>
   injection h with h1 h2
   have h1:p.1=false:=h1;rw[List.findIdx?_cons,h1,ih h2];rfl
theorem pH(ts:List Expr)(env:Env):(assignEach ts env).length=ts.length:=by
 induction ts with
 |nil=>rfl |cons t ts ih=>induction t using Expr.casesOn<;>exact congrArg (· +1) ih
theorem Lm(ρ:Rho):∀(i j:Nat) (v w:V),i≠j->set (set ρ i v) j w=set (set ρ j w) i v:=by
 induction ρ with
 |nil=>exact λJ J J J J=>rfl |cons x r ih=>
  intro i j v w h
  induction i using Nat.casesOn with
  |zero=>induction j using Nat.casesOn with
   |zero=>exact absurd rfl h |succ j=>rfl
  |succ i=>induction j using Nat.casesOn with
   |zero=>rfl |succ j=>exact congrArg (x:: ·) (ih i j v w λe=>h (congrArg _ e))
noncomputable def oH:List (Nat×V)->Rho->Rho
 | [],ρ=>ρ |p::l,ρ=>oH l (set ρ p.1 p.2)
theorem Ef(l:List (Nat×V)):∀(ρ:Rho) (i:Nat) (v:V),i∉l.map (·.1)->oH l (set ρ i v)=set (oH l ρ) i v:=by
 induction l with
 |nil=>exact λJ J J J=>rfl |cons p l ih=>
  intro ρ i v h;show oH l (set (set ρ i v) p.1 p.2)=set (oH l (set ρ p.1 p.2)) i v;rw[Lm _ _ _ _ _ (show i≠p.1 from λe=>h (aJ.mpr (.inl e))),ih _ i v λz=>h (aH _ z)]
theorem wZ(l:List (Nat×V)):∀(m:List (Nat×V)) (ρ:Rho),oH (l++m) ρ=oH m (oH l ρ):=by
 induction l with
 |nil=>exact λJ J=>rfl |cons p l ih=>exact λm ρ=>ih m _
theorem vK(l:List (Nat×V)):∀ρ:Rho,(l.map (·.1)).Nodup->oH l.reverse ρ=oH l ρ:=by
 induction l with
 |nil=>exact λJ J=>rfl |cons p l ih=>
  intro ρ h;have h:=aL.mp h;rw[bQ,wZ,ih ρ h.2];exact(Ef l ρ _ _ h.1).symm
theorem Hs{K:Rho->H->Prop}{E:Value->Shared->Prop}{names:List Str}:∀{is:List Nat} {items:List Value} {vs:List V} {ρ:Rho} {s:Shared},(names.length=is.length/\is.length=vs.length)->(∀p∈names.zip is,fm.nm[p.2]?=some p.1/\fm.env.kindOf p.1=some .local)->K (oH (is.zip vs) ρ) σ->St cx fm ρ σ s->Reps s.heap items vs->
 wpAny M A (assignInOrder (names.map λn=>bindName fm.env n) items) (uG cx fm σ s K) E s:=by
 induction names with
 |nil=>
  intro is items vs ρ s hl _ k S rs
  induction is using List.casesOn with
  |cons=>exact by have h:=hl.1;contradiction
  |nil=>induction vs using List.casesOn with
   |cons=>exact by have h:=hl.2;contradiction
   |nil=>exact rs.e0 (aI ⟨ρ,σ,k,S,.refl ..⟩)
 |cons x names ih=>
  intro is items vs ρ s hl h k S rs
  induction is using List.casesOn with
  |nil=>exact by have h:=hl.1;contradiction
  |cons i is=>induction vs using List.casesOn with
   |nil=>exact by have h:=hl.2;contradiction
   |cons v vs=>
    have h0:=h (x,i) aE;refine rs.eC λJ J r rs=>aA (aO (wpAny_bindName (aM (oB h0.1 (.inl h0.2) S r) (λJ s' z=>?_) λJ J z=>z)))
    exact aM (ih ⟨fW hl.1,fW hl.2⟩ (λp hp=>h p (aH _ hp)) k z.1 (rs.mono (Stp.tk S z.2))) (λJ J y=>y.trans z.2) λJ J y=>y
theorem Ud{C:mJ}{K:Rho->H->Prop}{X:XS}{is:List Nat}:∀{vs:List V} {ρ:Rho},is.length=vs.length->mW C (is.map Tg.nm) vs ρ σ K X->K (oH (is.zip vs) ρ) σ:=by
 induction is with
 |nil=>
  intro vs ρ h w
  induction vs using List.casesOn with
  |nil=>exact w |cons=>exact by contradiction
 |cons i is ih=>
  intro vs ρ h w
  induction vs using List.casesOn with
  |nil=>exact by contradiction
  |cons v vs=>exact ih (fW h) w
noncomputable def lN(env:Env)(line:Nat):Expr->Option Str
 |.Name id pos=>if env.kindOf id==some .local&&pos.line==line then some id else none
 |_=>none
theorem Zg{line:Nat}{t:Expr}{ts:List Expr}{P:Prop}(e:lN fm.env line t=none)(h:((t::ts).filterMap (lN fm.env line)).length=(t::ts).length):P:=by
 rw[cA,e] at h;exact absurd h (eP (Nat.lt_succ_of_le (List.length_filterMap_le _ _)))
theorem Xl{line:Nat}{ts:List Expr}{tgs:List Tg}(ht:TGs cx fm n ts tgs):(ts.filterMap (lN fm.env line)).length=ts.length->
 ∃is:List Nat,tgs=is.map Tg.nm/\(ts.filterMap (lN fm.env line)).length=is.length/\∀p∈(ts.filterMap (lN fm.env line)).zip is,fm.nm[p.2]?=some p.1/\fm.env.kindOf p.1=some .local:=by
 induction ht with
 |nil=>exact λJ=>⟨[],rfl,rfl,by intros;contradiction⟩
 | @nm x px i ts _ hx hk _ ih=>
   intro h;by_cases q:(fm.env.kindOf x==some .local&&px.line==line)=true
   ·have e:lN fm.env line (.Name x px)=some x:=if_pos q
    rw[cA,e] at h⊢;refine e13 (ih (fW h)) λis h1 h2 h3=>?_
    refine⟨i::is,congrArg _ h1,congrArg (· +1) h2,λp hp=>?_⟩
    rcases aJ.mp hp with rfl|hp
    ·exact⟨hx,beq_iff_eq.mp ((dD _ _).mp q).1⟩
    ·exact h3 p hp
   ·have e:lN fm.env line (.Name x px)=none:=if_neg q
    exact Zg e h
 |sub _ _ _ _=>exact λh=>Zg rfl h
noncomputable def Bz:Expr->Bool
 |.Starred .. =>true |_=>false
theorem Se(ts vs:List Expr)(k k2:Nat)(tp p:Pos)(env:Env):swappedStores [.Tuple ts k tp] (.Tuple vs k2 p) env=
 (if(!(ts.length==2||ts.length==3)||vs.length !=ts.length||env.blockKind != .function)=true then pure none
  else if vs.any Bz=true then pure none
  else if((ts.filterMap (lN env ((ts.head?.map (·.pos.line)).getD 0))).length !=ts.length||(ts.filterMap (lN env ((ts.head?.map (·.pos.line)).getD 0))).eraseDups.length !=(ts.filterMap (lN env ((ts.head?.map (·.pos.line)).getD 0))).length)=true then pure none
  else if vs.all (foldedForSure 8)=true then pure none
  else if vs.all (constantsAlone 8)=true then(do unsupported "assign.tuple-of-constant-expressions:order-of-the-stores";pure (some (ts.filterMap (lN env ((ts.head?.map (·.pos.line)).getD 0)))))
  else pure (some (ts.filterMap (lN env ((ts.head?.map (·.pos.line)).getD 0))))):=by rfl
set_option tactic.hygienic true in
theorem wX(ts:List Expr)(k:Nat)(tp:Pos)(value:Expr)(env:Env)(hc:∀vs k p,value=.Tuple vs k p->vs.all (constantsAlone 8)=false):
 swappedStores [.Tuple ts k tp] value env=pure none∨(∃line,swappedStores [.Tuple ts k tp] value env=pure (some (ts.filterMap (lN env line)))/\(ts.filterMap (lN env line)).length=ts.length):=by
 induction value using Expr.casesOn with
 |Tuple vs k2 p=>
  have hcc:=hc vs k2 p rfl;rw[Se];split
  ·exact .inl rfl
  ·split
   ·exact .inl rfl
   ·split
    ·exact .inl rfl
    ·rename_i h3
     split
     ·exact .inl rfl
     ·rw[hcc]
      refine .inr ⟨_,rfl,?_⟩;simp only[Bool.or_eq_true,not_or,bne_iff_ne,ne_eq,eQ] at h3;exact h3.1
 |_=>exact .inl rfl
theorem S1.assignT{value:Expr}{ie:IE}{ts:List Expr}{tgs:List Tg}{k:Nat}{tp pos:Pos}(hs:swapsWith value (some (.Tuple ts k tp)) pos.line fm.env=pure false)(hc:∀vs k p,value=.Tuple vs k p->vs.all (constantsAlone 8)=false)
 (hnd:∀is:List Nat,tgs=is.map Tg.nm->is.Nodup)(ht:TGs cx fm n ts tgs)(h:SE cx fm n value ie):S1 cx fm n (.Assign [.Tuple ts k tp] value pos) (.assignT tgs ie):=λρ σ Q X w A s a b S=>by
 have hss:swapsWithSole [.Tuple ts k tp] value pos.line fm.env=pure false:=hs;rw[arm_exec_Assign,hss];refine aA (aQ (aA (aI ?_)));rw[if_neg (by decide)]
 refine oA (h _ _ _ _ w A s a b S) λval u σ' s' w' r S' st=>?_
 revert st;refine r.isT w' λvs J items w' t rs st=>?_
 ·refine e02 w' λhlen w'=>?_
  have szi:items.size=vs.length:=rs.sz;have grow:∀{h'},gT s'.heap.objs.size s'.heap h'->∀b o,s'.heap.get? b=some o->h'.get? b=some o:=λhx b o e=>hx b o (eP (cG e)) e
  rcases wX ts k tp value fm.env hc with hw|⟨line,hw,hl⟩
  ·rw[hw]
   refine aA (aI ?_);show wpAny _ A (do PySem.assign (.Tuple ts k tp) fm.env (.ref _);pure Flow.next) _ _ s'
   refine oR (K:=λρ σ=>Q .next ρ σ) ?_ λρ₂ σ₂ s₂ w₂ S₂ st₂=>aI (mI w₂ S₂)
   refine assign_Tuple_tuple a.1 t (by rw[pH,szi,hlen,ht.plain.2]) (rK ht.plain.1) λh' hx=>?_
   have k':=grow hx;have S₁:St cx fm ρ σ' {s' with heap:=h'}:=S'.grow k' rfl rfl
   refine aM (Nn ht w' a b S₁ (rs.mono λJ J t=>t.keeps k')) (λJ J z=>z.trans (s₁:={s' with heap:=h'}) (.grow k' λJ e=>.inl e)) λJ J z=>z.trans (s₁:={s' with heap:=h'}) (.grow k' λJ e=>.inl e)
  ·rw[hw]
   refine aA (aI ?_);refine e13 (Xl ht hl) λis z3z h2 h3=>?_;obtain rfl:=z3z
   have hil:is.length=vs.length:=by rw[hlen];simp
   refine aA (wpAny_rule (aA ?_));have hsz:(ts.filterMap (lN fm.env line)).length=items.size:=by rw[h2,hil,szi]
   rw[hsz];refine unpackItems_tuple a.1 t λh' hx=>?_
   have k':=grow hx;have S₁:St cx fm ρ σ' {s' with heap:=h'}:=S'.grow k' rfl rfl
   have w₁:=Ud hil w';have hnd':=hnd is rfl;have e1:∀{α β:Type} (a:List α) (b:List β),a.length=b.length->a.reverse.zip b.reverse=(a.zip b).reverse:=λa b h=>(List.reverse_zipWith h).symm
   have stg:Stp fm σ' σ' s'.heap h':=.grow k' λJ e=>.inl e
   have g:wpAny (model cx.prog cx.w) A (assignInOrder ((ts.filterMap (lN fm.env line)).reverse.map λn=>bindName fm.env n) items.toList.reverse) (uG cx fm σ' s' λρ σ=>Q .next ρ σ) (mG cx fm σ' s' X) {s' with heap:=h'}:=by
    refine aM (Hs (cx:=cx) (fm:=fm) (σ:=σ') (ρ:=ρ) (K:=λρ σ=>Q .next ρ σ) (is:=is.reverse) (vs:=vs.reverse) ⟨by simp[h2],by simp[hil]⟩ (λp hp=>?_) ?_ S₁ ?_) (λJ J z=>z.trans (s₁:={s' with heap:=h'}) stg) λJ J z=>z
    ·rw[e1 _ _ h2] at hp
     exact h3 p (List.mem_reverse.mp hp)
    ·rw[e1 _ _ hil,vK]
     ·exact w₁
     ·rw[uJ _ _ hil];exact hnd'
    ·exact(rs.mono λJ J t=>t.keeps k').reverse
   show wpAny _ A (do assignInOrder ((ts.filterMap (lN fm.env line)).reverse.map λn=>bindName fm.env n) items.toList.reverse;pure Flow.next) _ _ _
   exact aA (aM g (λ_ s₂ ⟨ρ₂,σ₂,w₂,S₂,st₂⟩=>aI ⟨.next,ρ₂,σ₂,w₂,trivial,S₂,st₂⟩) λJ J z=>z)
theorem Ko{elts:List Expr}{k:Nat}{pos:Pos}{E:Value->Shared->Prop}{Q:Unit->Shared->Prop}{I:Addr}{src:Src}{i:Nat}{val:Value}(x:ItAt s.heap I src i)(q:Q () s):wpAny (model cx.prog cx.w) A (letOwnedTupleGo (.Tuple elts k pos) (.ref I) val) Q E s:=by
 have hcls:∃o T vs,s.heap.get? I=some o/\o.cls=.type T/\o.data=.fields vs/\ ["enumerate","zip","dict_itemiterator","dict_reverseitemiterator","odict_iterator","itertools.zip_longest","itertools.pairwise"].contains T=false:=by
  induction src with
  |lst a=>refine e13 x λo e hc hd=>?_;exact⟨o,_,_,e,hc,hd,by decide⟩
  |fix vs=>
   rcases x with⟨t,items,⟨o,e,hc,hd⟩,_⟩|⟨n,_,_,_,e⟩
   ·exact⟨o,_,_,e,hc,hd,by decide⟩
   ·exact⟨_,_,_,e,rfl,rfl,by decide⟩
 refine e31 hcls λo T vs q0z=>?_;refine e04 q0z λe hc hd hn=>?_
 unfold letOwnedTupleGo
 induction val with
 |ref a=>
  refine aA (wpAny_load e ?_);rw[hc,hd];dsimp only;rw[hn];exact aI q
 |_=>exact aI q
@[elab_as_elim] theorem TGs.eN{i:Nat}{ts:List Expr}{tgs:List Tg}{P:List Expr->Prop}(h:TGs cx fm n ts (.nm i::tgs))(k:∀x px ts,fm.nm[i]?=some x->(fm.env.kindOf x=some .local∨(fm.env.kindOf x=some .cell/\fm.comp=false))->TGs cx fm n ts tgs->P (.Name x px::ts)):P ts:=by
  cases h with|nm a b c=>exact k _ _ _ a b c
theorem Lf{E:Value->Shared->Prop}{is:List Nat}:∀{ts:List Expr} {items:List Value} {vs:List V} {ρ ρ':Rho} {s:Shared},TGs cx fm n ts (is.map Tg.nm)->pY is vs ρ=some ρ'->St cx fm ρ σ s->Reps s.heap items vs->
 wpAny M A (assignInOrder ((assignEach ts fm.env).map (·.2)) items) (Kg cx fm ρ' σ s) E s:=by
 induction is with
 |nil=>
  intro ts items vs ρ ρ' s ht h S rs
  induction vs using List.casesOn with
  |cons=>exact by contradiction
  |nil=>
   injection h with qz;subst qz
   cases ht with
   |nil=>exact rs.e0 (aI ⟨S,.refl ..⟩)
 |cons i is ih=>
  intro ts items vs ρ ρ' s ht h S rs
  induction vs using List.casesOn with
  |nil=>exact by contradiction
  |cons v vs=>
   refine ht.eN λx px ts hx hk hr=>rs.eC λJ J r rs=>aA (aO (assign_Name (aM (oB hx hk S r) (λJ s' z=>?_) λJ J z=>z)))
   exact aM (ih hr h z.1 (rs.mono (Stp.tk S z.2))) (λJ J y=>⟨y.1,z.2.trans y.2⟩) λJ J y=>y
theorem vI{is:List Nat}:∀{vs:List V} {ρ ρ':Rho},pY is vs ρ=some ρ'->is.length=vs.length:=by
 induction is with
 |nil=>
  intro vs ρ ρ' h
  induction vs using List.casesOn with
  |nil=>rfl |cons=>exact by contradiction
 |cons i is ih=>
  intro vs ρ ρ' h
  induction vs using List.casesOn with
  |nil=>exact by contradiction
  |cons v vs=>exact congrArg (· +1) (ih h)
theorem SF.many{ts:List Expr}{is:List Nat}{k:Nat}{pos:Pos}(ht:TGs cx fm n ts (is.map Tg.nm)):SF cx fm (.Tuple ts k pos) (.many is) where
 go x q:=Ko x q
 st {v ρ σ ρ' A s val E} hb hA S r:=by
  induction v using V.casesOn with
  |tup vs=>?_ |_=>exact by contradiction
  have hb:pY is vs ρ=some ρ':=hb;refine r.eT λJ items t rs=>?_
  have szi:items.size=vs.length:=rs.sz;refine assign_Tuple_tuple hA t (by rw[pH,szi,ht.plain.2,aB,vI hb]) (rK ht.plain.1) λh' hx=>?_
  have k':∀b o,s.heap.get? b=some o->h'.get? b=some o:=λb o e=>hx b o (eP (cG e)) e
  have S₁:St cx fm ρ σ {s with heap:=h'}:=S.grow k' rfl rfl
  exact aM (Lf ht hb S₁ (rs.mono λJ J t=>t.keeps k')) (λJ J z=>⟨z.1,StpG.trans (.grow k' λJ e=>.inl e) z.2⟩) λJ J z=>z
end
end
section
open PySem.SeqAt
noncomputable abbrev tbm:List Value:= [.ref 31,.type "Exception",.type "BaseException",.type "object"]
structure TOk(K:Frag):Prop where
 trap:∃nm q N bs hdct sn sub ab col dd k0 k1 k2 k3 k5,K.lookup jZ=some (excClassObj nm q jZ N bs tbm hdct sn sub ab col dd k0 k1 k2 k3 k5 "Exception.__new__")
 init:findIn K (.ref jZ) "__init__"=some (some (.ref 28))/\typeIn K (.ref 28)=some (.type "function")
 call:specialIn K (.ref jZ) "__call__"=some (some (.builtin "type.__call__"))
 typ:instIn K (.ref jZ) (.type "type")=some true
 keep:keepIn K (.ref jZ)=true
 self:mroIn K jZ (.ref jZ)=some true
section
variable{nm q:Str}{C N:Addr}{bs:List Value}{hdct:Bool}{sn:List Str}{sub:List Value}{ab:Bool}{col:Option Bool}{dd:Option Addr}{k0 k1 k2 k3 k5:Option Value}
theorem vC{M:Model}{A:Around}{E:Value->Shared->Prop}{h:Heap}{g:Array GenState}{d:Drawn}{t:Nat}{os:OsState}{rest:List Value}{Q:Unit->Shared->Prop}
 (hC:h.get? C=some (excClassObj nm q C N bs tbm hdct sn sub ab col dd k0 k1 k2 k3 k5 "Exception.__new__"))(hq:Q () ⟨h,g,d,t,os⟩):wpAny M A (checkBuiltinCall "Exception.__new__" ⟨.ref C::rest,[]⟩) Q E ⟨h,g,d,t,os⟩:=by
 have F:=dL;have hcont:(iE C::tbm).contains (.type "Exception")=true:=by simp
 have hstar:=F.noStar;simp only[checkBuiltinCall,F.newKind,F.newSplit,F.newRow]
 repeat (first|refine dQ hC ?_|(refine gE hC ?_;rw[hcont])|refine wpAny_staticBase_exc hC ?_|refine wpAny_madeBy_exc hC ?_|simp only[bne_self_eq_false,fI,if_false]|wp_step)
 exact hq
theorem Ul{prog:Program}{w:World}{A:Around}{R:Result->Shared->Prop}{h:Heap}{g:Array GenState}{d:Drawn}{t:Nat}{os:OsState}{rest:List Value}
 (hC:h.get? C=some (excClassObj nm q C N bs tbm hdct sn sub ab col dd k0 k1 k2 k3 k5 "Exception.__new__"))
 (hq:R (.ok (.ret (.ref (h.objs.size+1)))) ⟨(h.push {cls:=.type "tuple",data:=.seq rest.toArray}).push
   {cls:=.ref C,data:=.fields #[.ref h.objs.size,.none,.none,.none,.bool false,.none]},g,d,t,os⟩)(hrest:rest.length<=sizeLine):
 codeAny (model prog w) A (.builtin "Exception.__new__" ⟨.ref C::rest,[]⟩) R ⟨h,g,d,t,os⟩:=by
 have F:=dL;have hends:=F.ends;have hcB:(iE C::tbm).contains (.type "Exception")=true:=by simp
 have hcA:(iE C::tbm).contains (.type "AttributeError")=false:=by rw[List.contains_cons];rfl
 have hcN:(iE C::tbm).contains (.type "NameError")=false:=by rw[List.contains_cons];rfl
 refine codeAny_builtinAt F.entry ?_;unfold Builtin.«BaseException.__new__»;refine PySem.wpAt_bind ?_;show PySem.wpAt _ _ _ (stack>>=_) _ _ _;refine PySem.wpAt_bind (PySem.wpAt_stack λp below=>PySem.wpAt_of_wpAny ?_)
 wp_walk
 refine PySem.wpAt_of_wpAny ?_;rw[F.owner]
 repeat (first|with_reducible refine wpAny_madeHere_exc F.canon hC ?_|with_reducible refine dQ hC ?_|(with_reducible refine gE hC ?_;first|rw[hcB]|rw[hcA]|rw[hcN])|wp_step)
 show R _ _;rw[Heap.size_push];exact hq
noncomputable abbrev oK(C t:Addr):Obj:={cls:=.ref C,data:=.fields #[.ref t,.none,.none,.none,.bool false,.none]}
theorem Yi{prog:Program}{w:World}{A:Around}{R:Result->Shared->Prop}{K:Frag}{h:Heap}{g:Array GenState}{d:Drawn}{t:Nat}{os:OsState}{rest:List Value}(X:K.In h)(TK:TOk K)(hrest:rest.length<=sizeLine)
 (hq:codeAny (model prog w) (A.under (.builtin "type.__call__" ⟨.ref jZ::rest,[]⟩)) (.call (.ref 28) ⟨.ref (h.objs.size+1)::rest,[]⟩) (InitBack (h.objs.size+1) R) ⟨(h.push {cls:=.type "tuple",data:=.seq rest.toArray}).push (oK jZ h.objs.size),g,d,t,os⟩):
 codeAny (model prog w) A (.call (.ref jZ) ⟨rest,[]⟩) R ⟨h,g,d,t,os⟩:=by
 obtain⟨nm,q,N,bs,hdct,sn,sub,ab,col,dd,k0,k1,k2,k3,k5,hK⟩:=TK.trap;have hC:=X _ _ hK;have F:=dL;have call:=looks_specialIn (M:=model prog w) X TK.call;have typ:=looks_instIn (M:=model prog w) X TK.typ;refine codeAny_of_tree ?_;show wpAny _ _ (callAny (.ref jZ) _) _ _ _;refine nd_load hC ?_;show wpAny _ _ (callAny.viaDunder (.ref jZ) _) _ _ _;unfold callAny.viaDunder;refine aA (call.at ?_);dsimp only;rw[tc_bind];refine aA (aI (aA (aI ?_)));refine aI (a:=Fin.again (.call (.builtin "type.__call__") ⟨.ref jZ::rest,[]⟩)) (jK rfl ?_);refine codeAny_call_builtin_at (Code.quiet_builtin _ (by decide+kernel)) entry_typeCall (check_slot tc_kind tc_split typ (tc_args _ _ _) ?_)
 repeat (first|with_reducible refine dQ hC ?_|with_reducible refine wpAny_madeBy_exc hC ?_|wp_step)
 refine codeAny_call_builtin_code (Code.quiet_builtin _ F.quiet) (vC hC ?_);refine Ul hC ?_ hrest;show wpAny _ _ _ _ _ _;have k:∀b o,h.get? b=some o->((h.push {cls:=.type "tuple",data:=.seq rest.toArray}).push (oK jZ h.objs.size)).get? b=some o:=λb o e=>aN _ (aN _ e)
 have hx:((h.push {cls:=.type "tuple",data:=.seq rest.toArray}).push (oK jZ h.objs.size)).get? (h.objs.size+1)=some (oK jZ h.objs.size):=by heap_get
 have t1:Looks (model prog w) ((h.push {cls:=.type "tuple",data:=.seq rest.toArray}).push (oK jZ h.objs.size)) (typeOf (.ref (h.objs.size+1))) (.ref jZ):=(Looks.ld hx).andThen .now;have s1:=(looks_mroIn (M:=model prog w) X TK.self).keeps k;have i1:=(looks_findIn (M:=model prog w) X TK.init.1).keeps k;have b1:=(bind_fn (M:=model prog w) X (.ref (h.objs.size+1)) TK.init.2).keeps k;unfold isInstance callSpecial? specialOf
 repeat (first|with_reducible refine wpAny_call ?_|lk)
 refine fV hq λr s' z=>?_
 rcases r with e|(v|_|_|_)<;>first|exact z|exact z.elim|skip
 obtain⟨rfl,z⟩:=z;exact aI (aI z)
end
end
section
open PySem.SeqAt
noncomputable def uD(h:Heap)(S:List Addr):Heap:={h with objs:=Array.ofFn λi:Fin h.objs.size=>if i.1∈S then{cls:=.none,data:=.freed} else h.objs[i]}
set_option tactic.hygienic true in
theorem pS{h:Heap}{S:List Addr}{b:Addr}(hb:b∈S):(uD h S).get? b=none:=by
 unfold uD Heap.get?;dsimp only;rw[Array.getElem?_ofFn];split
 ·rfl
 ·rename_i o hne
  by_cases hlt:b<h.objs.size
  ·simp only[hlt,dif_pos,hb,if_true,Option.some.injEq] at hne
   exact absurd rfl (hne _ _ _)
  ·simp[hlt]
theorem tK{h:Heap}{S:List Addr}{b:Addr}(hb:b∉S):(uD h S).get? b=h.get? b:=by
 unfold uD Heap.get?;dsimp only;rw[Array.getElem?_ofFn];by_cases hlt:b<h.objs.size
 ·simp only[hlt,dif_pos,hb,if_false]
  rw[gD hlt];rfl
 ·simp only[hlt,dif_neg,not_false_eq_true]
  rw[Array.getElem?_eq_none (gN.mp hlt)]
theorem FunFrames.base{h b b':Heap}:∀{l:List Env},h.FunFrames b l->(∀L∈l.filterMap (·.frame),b'.get? L=none)->h.FunFrames b' l
 | [],_,_=>trivial |env::rest,⟨hk,⟨L,o,hf,hn,ho,hd⟩,hr⟩,k=>by
   refine⟨hk,⟨L,o,hf,k L (by rw[cA,hf];exact aE),ho,hd⟩,FunFrames.base hr λL' hL'=>k L' ?_⟩
   rw[cA,hf];exact aH _ hL'
structure Ti(cx:Cx)(fs:List Env)(hb:Heap)(e:Value)(h h':Heap):Prop where
 exc:sR hb h' e
 frames:h'.FunFrames cx.h₀ fs
 kept:∀b o,h.get? b=some o->(hb.get? b≠none∨∀vs,o.data≠.fields vs)->Kept (Fr fs) h' b o
theorem tZ{cx:Cx}{M:Model}{A:Around}{E:Value->Shared->Prop}{s:Shared}{env:Env}{outer:List Env}{L:Addr}{e:Value}{hb:Heap}{Q:Unit->Shared->Prop}(hfr:A.frames=some (env::outer))(hl:s.heap.FunFrames cx.h₀ (env::outer))(hf:env.frame=some L)
 (hlv:∀b,hb.get? b≠none->s.heap.get? b≠none)(hx:sR hb s.heap e)(h:∀h',Ti cx (env::outer) hb e s.heap h'->Q () {s with heap:=h'}):wpAny M A (leaving env e) Q E s:=by
 refine e31 hx λea oe vs q0z=>?_;refine e06 q0z λr3z hn he hc hd ht=>?_;subst r3z
 have fin:∀(S:List Addr) (h':Heap),(∀b∈(env::outer).filterMap (·.frame),b∈S)->(∀b∈S,b∈(env::outer).filterMap (·.frame)∨(hb.get? b=none/\∃o us,s.heap.get? b=some o/\o.data=.fields us))->Heap.Left (uD s.heap S) (env::outer) ea oe.cls s.heap h'->Ti cx (env::outer) hb (.ref ea) s.heap h':=by
  rintro S h' hS1 hS2 ⟨k1,k2,k3,k4⟩;refine⟨?_,FunFrames.base k2 λL' hL'=>(hl.mem hL').1,λb o ho hq=>?_⟩
  ·refine e51 k3 λoe' vs' T oT ts q0z=>?_;refine e06 q0z λa1 a2 a3 a4 a5 q0z=>?_;refine e04 q0z λa6 a7 a8 a9=>?_
   refine⟨ea,oe',vs',rfl,hn,a1,a2.trans hc,a3,.inr ⟨T,oT,ts,a4,?_,a6,a7,a8,a9⟩⟩
   induction q:hb.get? T with
   |none=>rfl |some o=>
    exfalso;by_cases hTS:T∈S
    ·rcases hS2 T hTS with z|⟨z,_⟩
     ·obtain⟨z2z,o',ho',hnf⟩:=k2.mem z
      rw[a7] at ho';injection ho' with qz;subst qz
      exact hnf _ a8
     ·rw[z] at q;injection q
    ·rw[tK hTS] at a5
     exact hlv T (by rw[q];exact λh=>by injection h) a5
  ·by_cases hbS:b∈S
   ·rcases hS2 b hbS with hfrm|⟨h1,o',us,h2,h3⟩
    ·obtain⟨z3z,o',ho',hnf⟩:=hl.mem hfrm
     rw[ho] at ho';injection ho' with qz;subst qz
     refine e11 (k4 b o ho hnf) λsl e'=>?_
     exact⟨sl,e',λz=>absurd hfrm z⟩
    ·rcases hq with hq|hq
     ·exact absurd h1 hq
     ·rw[ho] at h2;injection h2 with qz;subst qz;exact absurd h3 (hq us)
   ·exact .refl (k1 b o ((tK hbS).trans ho))
 have stay:∀S,(uD s.heap S).StaysIn s.heap:=λS b o hb=>by
  by_cases hbS:b∈S
  ·rw[pS hbS] at hb;injection hb
  ·rw[tK hbS] at hb;exact hb
 rcases ht with h1|⟨T,oT,ts,h1,hTn,hTe,hT,hTd,h3⟩
 ·let S:=ea::(env::outer).filterMap (·.frame)
  refine wpAny_leaving_first (base:=uD s.heap S) hfr (FunFrames.base hl λL' hL'=>pS (aH _ hL')) hf he (stay S) (pS aE) hd h1 λh' hL=>h h' (fin S h' (λb hb=>aH _ hb) (λb hb=>?_) hL)
  rcases aJ.mp hb with rfl|hb
  ·exact .inr ⟨hn,oe,vs,he,hd⟩
  ·exact .inl hb
 ·let S:=ea::T::(env::outer).filterMap (·.frame)
  refine wpAny_leaving_next (base:=uD s.heap S) hfr (FunFrames.base hl λL' hL'=>pS (aH _ (aH _ hL'))) hf ⟨oe,vs,T,oT,ts,he,rfl,hd,h1,pS (aH _ aE),hTe,hT,hTd,h3⟩ (stay S) (pS aE)
   λh' hL=>h h' (fin S h' (λb hb=>aH _ (aH _ hb)) (λb hb=>?_) hL)
  rcases aJ.mp hb with rfl|hb
  ·exact .inr ⟨hn,oe,vs,he,hd⟩
  ·rcases aJ.mp hb with rfl|hb
   ·exact .inr ⟨hTn,oT,ts,hT,hTd⟩
   ·exact .inl hb
theorem Ti.st{cx:Cx}{fm:Fm}{ρ:Rho}{σ σ₀:H}{s:Shared}{hb h':Heap}{e:Value}(x:Ti cx fm.fs hb e s.heap h')(S:St cx fm ρ σ s)(hk:∀b o,cx.h₀.get? b=some o->hb.get? b≠none){W:Addr->Prop}(st:StpG (Fr fm.fs) W σ₀ σ hb s.heap):
 St cx fm ρ σ {s with heap:=h'}/\StpG (Fr fm.fs) W σ₀ σ hb h':=by
 have tk:Tk s.heap h':=λa items t=>Kept.isTup t λo e=>x.kept a o e (.inr λvs q=>by
  obtain⟨o',e',z4z,n,hd⟩:=t;rw[e] at e';injection e' with qz;subst qz;rw[hd] at q;injection q)
 have ownk:∀a o,σ a=some o->OK cx h' a o:=λa o e=>by
  have hnF:¬Fr fm.fs a:=λz=>by rw[S.fsn a z] at e;injection e
  refine(S.own a o e).mono (λob h=>(x.kept a ob h (.inr λvs q=>?_)).exact hnF) tk
  have:=S.own a o e
  induction o with
  |list l=>refine e22 this λz5z z6z e' z7z=>?_;rw[h] at e';injection e' with qz;subst qz;injection q
  |sd es=>refine e12 this λz8z z9z z10z=>?_;refine e31 z9z λJ J J q0z=>?_;refine e04 q0z λe' J hd J=>?_;rw[h] at e';injection e' with qz;subst qz;rw[hd] at q;injection q
  |nd es=>refine e12 this λz16z z17z z18z=>?_;refine e31 z17z λJ J J q0z=>?_;refine e04 q0z λe' J hd J=>?_;rw[h] at e';injection e' with qz;subst qz;rw[hd] at q;injection q
  |inst C d=>rw[show s.heap.get? a=_ from this] at h;injection h with qz;subst qz;injection q
  |ro l=>refine e22 this λz24z z25z e' z26z=>?_;rw[h] at e';injection e' with qz;subst qz;injection q
 refine⟨⟨⟨λb o e=>?_,S.gens,S.os,ownk,S.new,x.frames,S.fsn⟩,⟨S.loc.env,?_,S.loc.nsn,λy c h1=>?_,λj y u h1 h2 h3=>?_⟩⟩,⟨λb o e hσ hW=>?_,st.fresh,λb e=>?_⟩⟩
 ·refine(x.kept b o (S.keep b o e) (.inl (hk b o e))).exact λhF=>?_
  rw[(S.frames.mem hF).1] at e;injection e
 ·refine e12 S.loc.ns λm n r=>?_
  refine⟨m,Kept.ns n λo e=>x.kept _ o e (.inr λvs q=>?_),λi y v a b c=>let⟨w,p,q⟩:=r i y v a b c;⟨w,p,q.mono tk⟩⟩
  refine e33 n λo' z27z z28z e' hd z29z=>?_
  rw[e] at e';injection e' with qz;subst qz;rw[hd] at q;injection q
 ·refine e04 (S.loc.cells y c h1) λz30z b c' d=>?_;refine e11 z30z λv a=>?_
  refine⟨⟨v,Kept.isCell a λo e=>x.kept _ o e (.inr λvs q=>?_)⟩,b,c',d⟩
  refine e12 a λo' e' hd=>?_
  rw[e] at e';injection e' with qz;subst qz;rw[hd] at q;injection q
 ·refine e23 (S.loc.cellv j y u h1 h2 h3) λc w h4 a h6=>?_
  refine⟨c,w,h4,Kept.isCell a λo e=>x.kept _ o e (.inr λvs q=>?_),h6.mono tk⟩
  refine e12 a λo' e' hd=>?_
  rw[e] at e';injection e' with qz;subst qz;rw[hd] at q;injection q
 ·refine e12 (st.keep b o e hσ hW) λsl e1 q1=>?_
  refine e12 (x.kept b _ e1 (.inl (by rw[e];exact λh=>by injection h))) λsl' e2 q2=>?_
  exact⟨sl',e2,λhc=>(q2 hc).trans (q1 hc)⟩
 ·induction q:s.heap.get? b with
  |none=>exact absurd q (st.live b e) |some o=>
   refine e12 (x.kept b o q (.inl e)) λsl e2 z31z=>?_
   rw[e2];exact λh=>by injection h
end
section
open PySem.SeqAt
structure Yd(K:Frag)(f:Addr)(fd:FuncData)(body:List Stmt)(ps:List Str)(nd:Nat):Prop where
 ob:∃o,K.lookup f=some o/\o.data=.func fd
 body:fd.body=.stmts body
 glob:fd.globals=mainGlobals
 blt:fd.builtins=builtinsNs
 clo:fd.closure= []
 kind:fd.scope.kind=.function
 co:fd.scope.isCoroutine=false
 gen:fd.scope.isGenerator=false
 code:∃c o vs t,fd.code=.ref c/\K.lookup c=some o/\o.data=.fields vs/\vs[1]?=some (.str fd.qualname t)
 bind:∀(s:Shared) (vals:List Value),K.In s.heap->vals.length+nd=ps.length->BindsTo s fd ⟨vals,[]⟩ (ps.zip (vals++bZ nd .none))
 kinds:∀p∈ps,fd.scope.names.lookup p=some .local∨fd.scope.names.lookup p=some .cell
 nodup:ps.Nodup
noncomputable abbrev FnIn(K:Frag)(f:Addr)(fd:FuncData)(body:List Stmt)(ps:List Str):Prop:=Yd K f fd body ps 0
set_option tactic.hygienic true in
theorem pT:∀{names:List (Str×NameKind)} {n:Nat} {acc:List (Str×Addr)} {x:Str},((x,NameKind.cell)∈names∨(acc.lookup x).isSome=true)->((cellsFrom n names acc).lookup x).isSome=true
 | [],_,acc,x,h=>h.elim (λz=>by cases z) id
 |(m,k)::r,n,acc,x,h=>by
  unfold cellsFrom
  have acc':∀n',(acc.lookup x).isSome=true->(((m,n')::acc:List (Str×Addr)).lookup x).isSome=true:=λn' z=>by
   rw[bR];split
   ·rfl
   ·exact z
  split
  ·refine pT (names:=r) ?_
   rcases h with h|h
   ·rcases aJ.mp h with h|h
    ·injection h with qz rz;subst qz rz;right;simp
    ·exact .inl h
   ·exact .inr (acc' n h)
  ·rename_i hk
   refine pT (names:=r) ?_;rcases h with h|h
   ·rcases aJ.mp h with h|h
    ·injection h with qz rz;subst qz rz;exact absurd rfl hk
    ·exact .inl h
   ·exact .inr h
theorem qB{l:List (Str×NameKind)}{x:Str}{k:NameKind}(h:l.lookup x=some k):(x,k)∈l:=mem_of_lookup h
theorem tO{kindOf:Str->Option NameKind}:∀{ps:List Str} {vals:List Value} {m:Str->Option Value} {i:Nat} {x:Str} {v:Value},ps.Nodup->ps[i]?=some x->vals[i]?=some v->kindOf x=some .local->bindL kindOf (ps.zip vals) m x=some v:=by
 have keep:∀(ps:List Str) (vals:List Value) (m:Str->Option Value) (x:Str),x∉ps->bindL kindOf (ps.zip vals) m x=m x:=by
  intro ps
  induction ps with
  |nil=>intros;rfl
  |cons p ps ih=>
   intro vals m x hx;rw[aJ,not_or] at hx
   induction vals using List.casesOn with
   |nil=>rfl |cons v vals=>
    rw[eJ];unfold bindL;rw[ih _ _ _ hx.2];split
    ·simp[hx.1]
    ·rfl
 intro ps
 induction ps with
 |nil=>intro _ _ i _ _ _ h;injection h
 |cons p ps ih=>
  intro vals m i x v hn h1 h2 hk;rw[aL] at hn
  induction vals using List.casesOn with
  |nil=>injection h2 |cons w vals=>
   rw[eJ];unfold bindL
   induction i using Nat.casesOn with
   |zero=>
    injection h1 with qz;subst qz;injection h2 with qz;subst qz
    rw[keep _ _ _ _ hn.1,if_pos hk];simp
   |succ i=>exact ih hn.2 h1 h2 hk
theorem Vk{kindOf:Str->Option NameKind}:∀{ps:List Str} {vals:List Value} {m:Str->Option Value} {i:Nat} {x:Str} {v:Value},ps.Nodup->ps[i]?=some x->vals[i]?=some v->kindOf x=some .cell->bindC kindOf (ps.zip vals) m x=some v:=by
 have keep:∀(ps:List Str) (vals:List Value) (m:Str->Option Value) (x:Str),x∉ps->bindC kindOf (ps.zip vals) m x=m x:=by
  intro ps
  induction ps with
  |nil=>intros;rfl
  |cons p ps ih=>
   intro vals m x hx;rw[aJ,not_or] at hx
   induction vals using List.casesOn with
   |nil=>rfl |cons v vals=>
    rw[eJ];unfold bindC;rw[ih _ _ _ hx.2];split
    ·rfl
    ·simp[hx.1]
 intro ps
 induction ps with
 |nil=>intro _ _ i _ _ _ h;injection h
 |cons p ps ih=>
  intro vals m i x v hn h1 h2 hk;rw[aL] at hn
  induction vals using List.casesOn with
  |nil=>injection h2 |cons w vals=>
   rw[eJ];unfold bindC
   induction i using Nat.casesOn with
   |zero=>
    injection h1 with qz;subst qz;injection h2 with qz;subst qz
    rw[keep _ _ _ _ hn.1,if_neg (by rw[hk];decide)]
    simp
   |succ i=>exact ih hn.2 h1 h2 hk
noncomputable def rho0(us:List V)(k:Nat):Rho:=us.map some++bZ k none
theorem Wc:∀{us:List V} {k i:Nat} {v:V},get (rho0 us k) i=some v->us[i]?=some v
 | [],k,i,v,h=>by
   exfalso
   have:∀(k i:Nat),get (bZ k none) i≠some v:=by
    intro k
    induction k with
    |zero=>intro i h;injection h
    |succ k ih=>intro i;induction i using Nat.casesOn with
     |zero=>intro h;injection h
     |succ i=>exact ih i
   exact this k i h
 |u::us,k,0,v,h=>by injection h with qz;subst qz;rfl
 |u::us,k,i+1,v,h=>by rw[List.getElem?_cons_succ];exact Wc (us:=us) h
theorem StpG.leave{fs:List Env}{env:Env}{L:Addr}{W:Addr->Prop}{σ σ':H}{h h':Heap}(x:StpG (Fr (env::fs)) W σ σ' h h')(hf:env.frame=some L)(hL:h.get? L=none)(hW:∀b,W b->h.get? b=none):StpB fs σ σ' h h':=by
 refine⟨λb o e hσ J=>?_,x.fresh,x.live⟩
 refine e12 (x.keep b o e hσ λz=>by rw[hW b z] at e;injection e) λsl e1 q1=>?_
 refine⟨sl,e1,λz=>q1 λz'=>?_⟩
 have z':b∈(env::fs).filterMap (·.frame):=z';rw[cA,hf] at z';rcases aJ.mp z' with rfl|z'
 ·rw[hL] at e;injection e
 ·exact z z'
theorem StB.leave{cx:Cx}{env:Env}{L:Addr}{fs:List Env}{σ:H}{s:Shared}(hf:env.frame=some L)(S:StB cx (env::fs) σ s):StB cx fs σ s:=
 ⟨S.keep,S.gens,S.os,S.own,S.new,S.frames.2.2,λL' hL'=>S.fsn L' (by rw[cA,hf];exact aH _ hL')⟩
noncomputable def ffm(fd:FuncData)(nm:List Str)(L f:Addr)(fs:List Env):Fm:={env:=callEnvC fd L f,nm:=nm,fs:=callEnvC fd L f::fs,comp:=false}
theorem wI{prog:Program}{w:World}{A:Around}{s:Shared}{R:Result->Shared->Prop}{a:Addr}{o:Obj}{fd:FuncData}{body:List Stmt}{vals:List Value}{binds:List (Str×Value)}
 (hroom:A.depth<recursionLimit)(ho:s.heap.get? a=some o)(hdata:o.data=.func fd)(hlim:s.heap.NoLimit)(hcd:s.heap.CodeRec fd.code fd.qualname)
 (hbody:fd.body=.stmts body)(hbind:BindsTo s fd ⟨vals,[]⟩ binds)(hclo:fd.closure= [])
 (hkind:∀x∈binds,fd.scope.names.lookup x.1=some .local∨(fd.scope.names.lookup x.1=some .cell/\((cellsFrom (s.heap.objs.size+1) fd.scope.names []).lookup x.1).isSome=true))
 (h:∀s₁,InCallC s (callEnvC fd s.heap.objs.size a).locals (bindL (callEnvC fd s.heap.objs.size a).kindOf binds λJ=>none) (callEnvC fd s.heap.objs.size a).cells
    (bindC (callEnvC fd s.heap.objs.size a).kindOf binds λJ=>none) s₁->
   wpAny (model prog w) (A.deeper (callEnvC fd s.heap.objs.size a)) (execs body (callEnvC fd s.heap.objs.size a)) (λf s'=>R (.ok (.ret (match f with|.ret v=>v|_=>.none))) s')
    (λe s'=>wpAny (model prog w) (A.deeper (callEnvC fd s.heap.objs.size a)) (leaving (callEnvC fd s.heap.objs.size a) e) (λJ s''=>R (.error e) s'') (λe' s''=>R (.error e') s'') s') s₁)
 (hco:fd.scope.isCoroutine=false)(hgen:fd.scope.isGenerator=false)(hk:fd.scope.kind=.function):
 codeAny (model prog w) A (.call (.ref a) ⟨vals,[]⟩) R s:=by
 refine codeAny_call_function hroom ho hdata hco hgen hbody hcd (hbind _ _ _ _ ?_);rw[hclo];refine wpAny_newFunctionEnv_cells hk hkind λenv he s' x=>?_
 subst he;exact⟨hlim.keeps x.toInCall.keep,codeAny_func (h s' x)⟩
theorem To{cx:Cx}{n nd:Nat}{f:Addr}{fd:FuncData}{body:List Stmt}{ps nm rest:List Str}{us:List V}{σ:H}{Q:QV}{X:XH}{ib:ISs}(T:TopOk cx)(F:Yd cx.K f fd body ps nd)(hnm:nm=ps++rest)(hnd:nm.Nodup)(hus:us.length+nd=ps.length)
 (hB:∀L fs,Ss cx (ffm fd nm L f fs) n body ib)(w:wpSs (CTK cx n) ib (rho0 (us++bZ nd .none) rest.length) σ (λfl J σ=>match fl with|.ret v=>Q v σ|.next=>Q .none σ|_=>False) (λJ σ=>X σ)):CT cx (n+2) f us σ Q X:=by
 intro A fs s vs₀ hA hfr S hvs₀
 have rnone:∀(h:Heap) (k:Nat),Reps h (bZ k Value.none) (bZ k V.none):=λh k=>by
  induction k with
  |zero=>exact .nil |succ k ih=>exact .cons .none ih
 generalize hvs':vs₀++bZ nd Value.none=vs;have hvs:Reps s.heap vs (us++bZ nd .none):=hvs'▸hvs₀.append (rnone _ _);refine e12 F.ob λo hK ho=>?_
 have KI:=T.K.keeps S.keep;have hul:(us++bZ nd V.none).length=ps.length:=by rw[aD,List.length_replicate];exact hus
 have hvl:vs.length=ps.length:=hvs.length.trans hul
 have hcode:s.heap.CodeRec fd.code fd.qualname:=by
  refine e41 F.code λc o vs t q0z=>?_;refine e04 q0z λh1 h2 h3 h4=>?_
  exact⟨c,o,vs,t,h1,KI _ _ h2,h3,h4⟩
 have hroom:A.depth<recursionLimit:=by have:=hA.2.1;show A.depth<1000;omega
 refine wI (fd:=fd) (binds:=ps.zip vs) hroom (KI _ _ hK) ho (T.nolimit.keeps S.keep) hcode F.body (hvs'▸F.bind s vs₀ KI (by rw[hvs₀.length];exact hus)) F.clo (λx hx=>?_) (λs₁ Y=>?_) F.co F.gen F.kind
 ·have hp:x.1∈ps:=(List.of_mem_zip hx).1
  rcases F.kinds _ hp with h|h
  ·exact .inl h
  ·exact .inr ⟨h,pT (.inl (qB h))⟩
 ·refine e22 Y.done λh₁ tk z1z hkeep=>?_;obtain rfl:=z1z
  have hL:s.heap.get? s.heap.objs.size=none:=bW (aR _)
  have hcell:∀x c,(callEnvC fd s.heap.objs.size f).cells.lookup x=some c->s.heap.get? c=none/\c≠s.heap.objs.size:=λx c e=>by
   have:=Y.above x c (mem_of_lookup e);have h3:s.heap.objs.size<c:=this;exact⟨bW (fD h3),Nat.ne_of_gt h3⟩
  have none₀:∀{b:Addr},s.heap.get? b=none->cx.h₀.get? b=none:=λ{b} hb=>by
   induction q:cx.h₀.get? b with
   |none=>rfl |some o=>rw[S.keep b o q] at hb;injection hb
  have noneσ:∀{b:Addr},s.heap.get? b=none->σ b=none:=λ{b} hb=>by
   induction q:σ b with
   |none=>rfl |some o=>exact absurd hb (S.own b o q).live
  have B₁:StB cx fs σ {s with heap:=h₁,toks:=tk}:=S.grow hkeep rfl rfl
  have B₂:StB cx (callEnvC fd s.heap.objs.size f::fs) σ {s with heap:=h₁,toks:=tk}:=by
   refine⟨B₁.keep,B₁.gens,B₁.os,B₁.own,B₁.new,Heap.FunFrames.cons (by show fd.scope.kind≠_;rw[F.kind];decide) rfl Y.toInCall.ns (none₀ hL) B₁.frames,λL' hL'=>?_⟩
   rw[show(callEnvC fd s.heap.objs.size f::fs).filterMap (·.frame)=s.heap.objs.size::fs.filterMap (·.frame) from rfl] at hL'
   rcases aJ.mp hL' with rfl|hL'
   ·exact noneσ hL
   ·exact S.fsn L' hL'
  have tkk:Tk s.heap h₁:=λa i t=>t.keeps hkeep
  have nmi:∀i x v,nm[i]?=some x->get (rho0 (us++bZ nd .none) rest.length) i=some v->ps[i]?=some x/\∃val,vs[i]?=some val/\Rep h₁ val v:=λi x v h1 h2=>by
   have h3:=Wc h2;refine e12 (hvs.get h3) λval h4 h5=>?_
   refine⟨?_,val,h4,h5.mono tkk⟩;have hlt:i<ps.length:=by rw[←hul];exact(aT.mp h3).1
   rw[hnm,List.getElem?_append_left hlt] at h1;exact h1
  have LL:Loc cx (ffm fd nm s.heap.objs.size f fs) (rho0 (us++bZ nd .none) rest.length) σ h₁:=by
   refine⟨⟨F.kind,F.glob,F.blt,Y.apart,hnd,λx hx=>dO.mp (pT (.inl (qB hx)))⟩,⟨_,Y.toInCall.ns,λi x v h1 h2 h3=>?_⟩,⟨none₀ hL,noneσ hL⟩,λx c h1=>?_,λi x v h1 h2 h3=>?_⟩
   ·obtain⟨h4,val,h5,h6⟩:=nmi i x v h1 h2
    exact⟨val,tO F.nodup h4 h5 h3,h6⟩
   ·refine e02 (hcell x c h1) λh2 h3=>?_
    exact⟨⟨_,Y.cell x c h1⟩,none₀ h2,noneσ h2,h3⟩
   ·obtain⟨h4,val,h5,h6⟩:=nmi i x v h1 h2
    have hp:=F.kinds x (cJ h4)
    have h3:fd.scope.names.lookup x=some .cell:=by
     rcases h3 with h3|h3
     ·exact h3
     ·have h3:fd.scope.names.lookup x=some .free:=h3
      rcases hp with hp|hp<;>(rw[hp] at h3;cases h3)
    refine e11 (dO.mp (pT (n:=s.heap.objs.size+1) (acc:= []) (.inl (qB h3)))) λc hc=>?_
    refine⟨c,val,hc,?_,h6⟩;have:=Y.cell x c hc;rw[Vk F.nodup h4 h5 h3] at this;exact this
  have S₁:St cx (ffm fd nm s.heap.objs.size f fs) (rho0 (us++bZ nd .none) rest.length) σ {s with heap:=h₁,toks:=tk}:=⟨B₂,LL⟩
  have st₁:Stp (ffm fd nm s.heap.objs.size f fs) σ σ s.heap h₁:=.grow hkeep λJ e=>.inl e
  have hA':Room (A.deeper (callEnvC fd s.heap.objs.size f)) (n+1):=⟨hA.1,by have:=hA.2.1;show A.depth+1+_+_<=_;omega,by have:=hA.2.2;show A.units+3+_+_<=_;omega⟩
  have hfr':(A.deeper (callEnvC fd s.heap.objs.size f)).frames=some (ffm fd nm s.heap.objs.size f fs).fs:=Around.frames_deeper hfr
  have hW:∀b,Fw (ffm fd nm s.heap.objs.size f fs) b->s.heap.get? b=none:=λb hb=>by
   rcases hb with rfl|⟨_,x,hx⟩
   ·exact hL
   ·exact(hcell x b hx).1
  have back:∀{σ':H} {h':Heap},Stp (ffm fd nm s.heap.objs.size f fs) σ σ' s.heap h'->StpB fs σ σ' s.heap h':=λz=>z.leave rfl hL hW
  refine aM (hB s.heap.objs.size fs _ _ _ _ w _ {s with heap:=h₁,toks:=tk} hA' hfr' S₁) (λfl s' z=>?_) λe s' z=>?_
  ·refine e31 z λfl' ρ' σ' q0z=>?_;refine e04 q0z λq r S' st=>?_
   have st':=back (st₁.trans st);have S'':=S'.toStB.leave (L:=s.heap.objs.size) rfl
   match fl,fl',r with
   |.next,.next,_=>exact⟨.none,σ',q,.none,S'',st'⟩ |.brk,.brk,_=>exact q.elim |.cont,.cont,_=>exact q.elim |.ret v,.ret u,r=>exact⟨u,σ',q,r,S'',st'⟩
  ·refine e24 z λρ' σ' x ex S' st=>?_
   have st₂:=st₁.trans st;refine tZ (cx:=cx) (hb:=s.heap) (L:=s.heap.objs.size) hfr' S'.frames rfl st₂.live (ex.older st₁.live) λh' lr=>?_
   refine e02 (lr.st S' (λb o e=>by rw[S.keep b o e];exact λh=>by injection h) st₂) λS₃ st₃=>?_
   exact⟨σ',x,lr.exc,S₃.toStB.leave (L:=s.heap.objs.size) rfl,back st₃⟩
theorem fn_ct{cx:Cx}{n:Nat}{f:Addr}{fd:FuncData}{body:List Stmt}{ps nm rest:List Str}{us:List V}{σ:H}{Q:QV}{X:XH}{ib:ISs}(T:TopOk cx)(F:FnIn cx.K f fd body ps)(hnm:nm=ps++rest)(hnd:nm.Nodup)(hus:us.length=ps.length)
 (hB:∀L fs,Ss cx (ffm fd nm L f fs) n body ib)(w:wpSs (CTK cx n) ib (rho0 us rest.length) σ (λfl J σ=>match fl with|.ret v=>Q v σ|.next=>Q .none σ|_=>False) (λJ σ=>X σ)):CT cx (n+2) f us σ Q X:=
 To T F hnm hnd hus hB (by rw[List.replicate_zero,bY];exact w)
end
section
open PySem.SeqAt
open Builtin.ObjectAttr
theorem Zb(self:Value):refuseLoop self "__setattr__" [.type "Exception",.type "BaseException",.type "object"]=pure ():=by kernel_rfl
structure TSet(K:Frag):Prop where
 sa:findIn K (.ref jZ) "__setattr__"=some (some (.builtin "object.__setattr__"))
 cls:∃cd,clsIn K jZ=some cd/\cd.mro=.ref jZ::tbm/\cd.hasDict=true
 why:findIn K (.ref jZ) "why"=some none
 top:mroIn K jZ (.type "object")=some true
theorem Tt{prog:Program}{w:World}{A:Around}{E:Value->Shared->Prop}{s:Shared}{K:Frag}{x:Addr}{vs:Array Value}{v:Value}{Q:Unit->Shared->Prop}(X:K.In s.heap)(TS:TSet K)
 (hx:s.heap.get? x=some {cls:=.ref jZ,data:=.fields vs})
 (h:∀h' t,(∀b o,b≠x->s.heap.get? b=some o->h'.get? b=some o)->(∃d,h'.get? x=some {cls:=.ref jZ,dict:=some d,data:=.fields vs})->Q () {s with heap:=h',toks:=t}):
 wpAny (model prog w) A (setAttr (.ref x) (ofString "why") v) Q E s:=by
 have I:InstAt s.heap x {cls:=.ref jZ,data:=.fields vs} jZ none:=⟨hx,rfl,rfl,trivial⟩;refine set_plain X I TS.sa ?_;refine e13 TS.cls λcd hcd hmro hdict=>?_
 obtain⟨hh,g,dr,t,os⟩:=s;dsimp only at X hx h;have SF:=PySem.F.store_object;have I:InstAt hh x {cls:=.ref jZ,data:=.fields vs} jZ none:=⟨hx,rfl,rfl,trivial⟩;have sub:Looks (model prog w) hh (isInstance (.ref x) (.type "object")) true:=I.type.andThen (looks_mroIn X TS.top);have hm:Looks (model prog w) hh (mroOf (.ref jZ)) cd.mro:=(looks_clsIn X hcd).andThen .now;refine codeAny_call_builtin SF.slot.plain SF.entry (@check_slot (model prog w) _ _ _ "object.__setattr__" "object" "__setattr__" (.ref x) [.str (ofString "why") t,v] [] _ SF.kind SF.split sub (SF.args (.ref x) (.str (ofString "why") t) v) ?_);rw[osa_eq,refuse_eq];refine aA (aA (I.type.here (aA (hm.here ?_))));rw[hmro,refuseLoop_ref,refuseLoop_ref,Zb];refine aI (aA (I.type.here (aA ((looks_findIn X TS.why).here (aA (aI ?_))))));refine aA (aI (aA ?_));refine aA (jL hx (aA ((looks_clsIn X hcd).here ?_)));rw[hdict]
 show wpAny _ _ (do
  let d←alloc {cls:=.type "dict",data:=.dict #[]}
  update x λo=>{o with dict:=some d}
  dictMade (.ref jZ) x d) _ _ _
 have hx1:=aN {cls:=.type "dict",data:=.dict #[]} hx;have hxd:x≠hh.objs.size:=eP (cG hx);refine aA (wpAny_alloc (aA (wpAny_update hx1 (aI ?_))))
 have hd2:((hh.push {cls:=.type "dict",data:=.dict #[]}).update x λo=>{o with dict:=some hh.objs.size}).get? hh.objs.size=some (dictOf [] 0):=
  (dZ _ _ hxd).trans (cO _ rfl)
 have hx2:((hh.push {cls:=.type "dict",data:=.dict #[]}).update x λo=>{o with dict:=some hh.objs.size}).get? x=some {cls:=.ref jZ,dict:=some hh.objs.size,data:=.fields vs}:=
  cX _ hx1 rfl
 dsimp only;unfold storeInDict;refine aA (aI (aA ?_));unfold nsSet;refine e02 (yG (prog:=prog) (w:=w) (des:= []) (n:=0) (kvs:= []) .nil (λe he=>by simp at he) .nil (ofString "why") v (t+1)) λP1 P2=>?_
 refine aA (aA (wpAny_askSetting (aI (aA (wpAny_mkText (aA (jL hd2 ?_)))))));dsimp only;have c:(!([]:List DictEntry).toArray.any (·.key.isStr (ofString "why"))&&([]:List DictEntry).toArray.any (·.refKey))=false:=by simp
 rw[aRefKeyMayBeTheName_at,c];refine wpAny_updatePart hd2 ?_;refine e21 P1 λes' ep' q0z=>?_;refine e05 q0z λq1 q2 q3 q4 q5=>?_
 have hlen:=q4.length;have D':=cX (Obj.putName (ofString "why") (fR w.params (ofString "why")) (.str (ofString "why") (t+1)) v) hd2 P2;refine aA (wpAny_lookBehind D' (by rw[q2];exact pastItsLine_dict (by rw[←gI,hlen,iU];simp[stored])) ?_)
 refine aI ?_;refine h _ _ (λb o hb e=>?_) ⟨_,(dZ _ _ (Ne.symm hxd)).trans hx2⟩
 have hbd:b≠hh.objs.size:=eP (cG e);rw[dZ _ _ (Ne.symm hbd),dZ _ _ (Ne.symm hb)];exact aN _ e
section
variable{nm q:Str}{C N:Addr}{bs:List Value}{hdct:Bool}{sn:List Str}{sub:List Value}{ab:Bool}{col:Option Bool}{dd:Option Addr}{k0 k1 k2 k3 k5:Option Value}{newId:String}
theorem uH{M:Model}{A:Around}{E:Value->Shared->Prop}{h:Heap}{g:Array GenState}{d:Drawn}{t:Nat}{os:OsState}{e:Addr}{oe:Obj}{rest:List Value}{Q:Unit->Shared->Prop}
 (hC:h.get? C=some (excClassObj nm q C N bs tbm hdct sn sub ab col dd k0 k1 k2 k3 k5 newId))(he:h.get? e=some oe)(hcls:oe.cls=.ref C)(hq:Q () ⟨h,g,d,t,os⟩):
 wpAny M A (checkBuiltinCall "Exception.__init__" ⟨.ref e::rest,[]⟩) Q E ⟨h,g,d,t,os⟩:=by
 have F:=dL;have hcB:(iE C::tbm).contains (.type "Exception")=true:=by simp
 have hshort:=F.noStar;simp only[checkBuiltinCall,F.initKind,F.initSplit,F.initRow]
 repeat (first|(with_reducible refine dQ he ?_;rw[hcls])|with_reducible refine dQ hC ?_|(with_reducible refine gE hC ?_;rw[hcB])|wp_step)
 refine wpAny_onRaise ?_
 rw[show∀(a b:String) (n:Nat),Bind.check ⟨.positional,"*","Exception",.self,[⟨"args",.varPos,false⟩]⟩ a b n (List.map (λx=>x.fst) ({pos:=iE e::rest}:Args).kw)=pure () from
  λa b n=>check_star_args _ _ _ _ _ _]
 exact aI hq
theorem Yo{prog:Program}{w:World}{A:Around}{E:Value->Shared->Prop}{s:Shared}{e t0:Addr}{v:Value}{Q:Value->Shared->Prop}(hC:s.heap.get? jZ=some (excClassObj nm q jZ N bs tbm hdct sn sub ab col dd k0 k1 k2 k3 k5 newId))
 (he:s.heap.get? e=some (oK jZ t0))(h:∀h' t1,(∀b o,b≠e->s.heap.get? b=some o->h'.get? b=some o)->h'.get? e=some (oK jZ t1)->Q .none {s with heap:=h'}):
 wpAny (model prog w) A (dU (.builtin "Exception.__init__") [.ref e,v]) Q E s:=by
 obtain⟨hh,g,dr,t,os⟩:=s;have F:=dL;refine wpAny_call (codeAny_call_builtin F.init.plain F.initEntry (uH hC he rfl ?_))
 wp_walk
 have hee:e≠hh.objs.size:=eP (cG he);refine h _ hh.objs.size (λb o hb hbo=>?_) ?_
 ·rw[dZ _ _ (Ne.symm hb)]
  exact aN _ hbo
 ·rw[cX _ (aN _ he) rfl]
  rfl
end
structure zC(K:Frag)(fd:FuncData)(body:List Stmt):Prop extends TOk K,TSet K where
 fn:FnIn K 28 fd body [ofString "self",ofString "why"]
 bd:∃p1 p2 p3 p4 p5 p6 p7 p8 p9 p10,body= [.Expr (.Call (.Attribute (.Name (ofString "Exception") p1) (ofString "__init__") p2) [.Name (ofString "self") p3,.Name (ofString "why") p4] [] p5) p6,
  .Assign [.Attribute (.Name (ofString "self") p7) (ofString "why") p8] (.Name (ofString "why") p9) p10]/\(p2.endLine==p5.line)=true
 nself:fd.scope.names.lookup (ofString "self")=some .local
 nwhy:fd.scope.names.lookup (ofString "why")=some .local
 nexc:fd.scope.names.lookup (ofString "Exception")=some .globalImplicit
 einit:findCls K (.type "Exception") (.type "type") "__init__"=some (.val (.builtin "Exception.__init__"))
theorem Zi{cx:Cx}{fd:FuncData}{body:List Stmt}{A:Around}{s:Shared}{e t0:Addr}{v:Value}{R:Result->Shared->Prop}(T:TopOk cx)(TI:zC cx.K fd body)(hmg:cx.mg (ofString "Exception")=none)(hmb:cx.mb (ofString "Exception")=some (.type "Exception"))
 (hA:A.depth<recursionLimit)(hk:∀b o,cx.h₀.get? b=some o->s.heap.get? b=some o)(hen:cx.h₀.get? e=none)(he:s.heap.get? e=some (oK jZ t0))
 (h:∀h' t,(∀b o,b≠e->s.heap.get? b=some o->h'.get? b=some o)->(∃d t1,h'.get? e=some {cls:=.ref jZ,dict:=some d,data:=.fields #[.ref t1,.none,.none,.none,.bool false,.none]})->R (.ok (.ret .none)) {s with heap:=h',toks:=t}):
 codeAny (model cx.prog cx.w) A (.call (.ref 28) ⟨[.ref e,v],[]⟩) R s:=by
 refine e12 TI.fn.ob λo hK ho=>?_
 obtain⟨nm,q,N,bs,hdct,sn,sub,ab,col,dd,k0,k1,k2,k3,k5,hKt⟩:=TI.trap;refine e51 TI.bd λp1 p2 p3 p4 p5 q0z=>?_;refine e51 q0z λp6 p7 p8 p9 p10 q0z=>?_;refine e02 q0z λr10z hline=>?_;subst r10z
 have KI:=T.K.keeps hk
 have hcode:s.heap.CodeRec fd.code fd.qualname:=by
  refine e41 TI.fn.code λc o vs t q0z=>?_;refine e04 q0z λh1 h2 h3 h4=>?_
  exact⟨c,o,vs,t,h1,KI _ _ h2,h3,h4⟩
 refine wI (fd:=fd) (binds:= [(ofString "self",.ref e),(ofString "why",v)]) hA (KI _ _ hK) ho (T.nolimit.keeps hk) hcode TI.fn.body (TI.fn.bind s [.ref e,v] KI rfl) TI.fn.clo (λx hx=>?_) (λs₁ Y=>?_) TI.fn.co TI.fn.gen TI.fn.kind
 ·left
  rcases aJ.mp hx with rfl|hx
  ·exact TI.nself
  ·rw[aK.mp hx];exact TI.nwhy
 ·refine e22 Y.done λh₁ tk z2z hkeep=>?_;obtain rfl:=z2z
  have hkind:∀x,(callEnvC fd s.heap.objs.size 28).kindOf x=fd.scope.names.lookup x:=λJ=>rfl
  have hk1:∀b o,cx.h₀.get? b=some o->h₁.get? b=some o:=λb o z=>hkeep b o (hk b o z)
  have KI₁:=T.K.keeps hk1;have hns:=Y.toInCall.ns;have hnd: [ofString "self",ofString "why"].Nodup:=TI.fn.nodup
  have hself:bindL (callEnvC fd s.heap.objs.size 28).kindOf [(ofString "self",.ref e),(ofString "why",v)] (λJ=>none) (ofString "self")=some (.ref e):=
   tO (ps:= [ofString "self",ofString "why"]) (vals:= [.ref e,v]) (i:=0) hnd rfl rfl TI.nself
  have hwhy:bindL (callEnvC fd s.heap.objs.size 28).kindOf [(ofString "self",.ref e),(ofString "why",v)] (λJ=>none) (ofString "why")=some v:=
   tO (ps:= [ofString "self",ofString "why"]) (vals:= [.ref e,v]) (i:=1) hnd rfl rfl TI.nwhy
  generalize hm:bindL (callEnvC fd s.heap.objs.size 28).kindOf [(ofString "self",.ref e),(ofString "why",v)] (λJ=>none)=m at hns hself hwhy
  have he₁:h₁.get? e=some (oK jZ t0):=hkeep _ _ he;have hLe:s.heap.objs.size≠e:=Nat.ne_of_gt (cG he)
  have ld:∀{x:Str} {px:Pos} {A':Around} {u:Value} {s':Shared} {E':Value->Shared->Prop} {Q':Value->Shared->Prop},s'.heap.Ns s.heap.objs.size m->fd.scope.names.lookup x=some .local->m x=some u->(x==("__debug__":Str))=false->Q' u s'->
   wpAny (model cx.prog cx.w) A' (eval (.Name x px) (callEnvC fd s.heap.objs.size 28)) Q' E' s':=λhn hl hv hd q=>wpAny_Name (wpAny_loadName_local TI.fn.kind hl hn hv q) hd
  refine iA (wpAny_Expr_any ?_ (by unfold interactive;rw[show(callEnvC fd s.heap.objs.size 28).scope.kind=.function from TI.fn.kind];rfl) rfl)
  rw[sQ (λJ J=>rfl) rfl (by simp) hline]
  have hg:h₁.Ns (callEnvC fd s.heap.objs.size 28).globals cx.mg:=by rw[show(callEnvC fd s.heap.objs.size 28).globals=mainGlobals from TI.fn.glob];exact T.g.keeps hk1
  have hb:h₁.Ns (callEnvC fd s.heap.objs.size 28).builtins cx.mb:=by rw[show(callEnvC fd s.heap.objs.size 28).builtins=builtinsNs from TI.fn.blt];exact T.b.keeps hk1
  refine aA (gW TI.fn.kind TI.nexc (PySem.Calls.loadGlobal_builtin hg hmg hb hmb ?_) (by decide))
  refine aA (aQ (aA (aO ?_)));have F:PyProof.Rows.Fr s.heap s.heap.objs.size h₁ m:=⟨hns,hkeep,aR _⟩;refine method_type (h₀:=s.heap) F KI (T:="Exception") (by kernel_rfl) (by decide+kernel) TI.einit rfl ?_
  refine fQ (P:=λJ=>True) rfl (λh z=>⟨.machine,.inr (.inl rfl),iQ rfl⟩) (lI rfl ?_)
  refine dN (ld hns TI.nself hself (by decide) (dN (ld hns TI.nwhy hwhy (by decide) (dR ⟨trivial,?_⟩))))
  refine Yo (e:=e) (t0:=t0) (KI₁ _ _ hKt) he₁ λh₂ t1 k2 he₂=>?_
  have hns₂:h₂.Ns s.heap.objs.size m:=by
   refine e32 hns λo es ep e1 r=>?_
   exact⟨o,es,ep,k2 _ _ hLe e1,r⟩
  have noe:∀b o,cx.h₀.get? b=some o->b≠e:=λb o hbo q=>by rw[q,hen] at hbo;injection hbo
  have KI₂:cx.K.In h₂:=T.K.keeps λb o z=>k2 b o (noe b o z) (hk1 b o z)
  show wpAny _ _ (execs _ _) _ _ _;refine iA ?_;rw[oF rfl rfl rfl];refine aA (aQ (aA (ld hns₂ TI.nwhy hwhy (by decide) ?_)))
  rw[arm_assign_Attribute];refine aA (aA (aO (ld hns₂ TI.nself hself (by decide) ?_)))
  refine aA (aQ (aA (aO (Tt KI₂ TI.toTSet he₂ λh₃ t3 k3 he₃=>?_))))
  refine e11 he₃ λd he₃=>?_
  refine gJ (aI (gM (h h₃ t3 (λb o hb hbo=>k3 b o hb (k2 b o hb (hkeep b o hbo))) ⟨d,t1,he₃⟩)))
noncomputable abbrev Di(t1 d:Addr):Obj:={cls:=.ref jZ,dict:=some d,data:=.fields #[.ref t1,.none,.none,.none,.bool false,.none]}
theorem Aj{cx:Cx}{fd:FuncData}{body:List Stmt}{A:Around}{s:Shared}{v:Value}{E:Value->Shared->Prop}{Q:Value->Shared->Prop}(T:TopOk cx)(TI:zC cx.K fd body)(hmg:cx.mg (ofString "Exception")=none)(hmb:cx.mb (ofString "Exception")=some (.type "Exception"))
 (hA:A.depth+1<recursionLimit)(hk:∀b o,cx.h₀.get? b=some o->s.heap.get? b=some o)
 (h:∀h' t e,s.heap.get? e=none->(∀b o,s.heap.get? b=some o->h'.get? b=some o)->(∃d t1,h'.get? e=some (Di t1 d))->Q (.ref e) {s with heap:=h',toks:=t}):
 wpAny (model cx.prog cx.w) A (dU (.ref jZ) [v]) Q E s:=by
 obtain⟨hh,g,dr,t,os⟩:=s;dsimp only at hk h;refine wpAny_call (Yi (T.K.keeps hk) TI.toTOk (by size_fits) ?_)
 have k:∀b o,hh.get? b=some o->((hh.push {cls:=.type "tuple",data:=.seq [v].toArray}).push (oK jZ hh.objs.size)).get? b=some o:=λb o e=>aN _ (aN _ e)
 have hx:((hh.push {cls:=.type "tuple",data:=.seq [v].toArray}).push (oK jZ hh.objs.size)).get? (hh.objs.size+1)=some (oK jZ hh.objs.size):=by heap_get
 have hen:hh.get? (hh.objs.size+1)=none:=bW (dA _)
 have hen0:cx.h₀.get? (hh.objs.size+1)=none:=by
  induction q:cx.h₀.get? (hh.objs.size+1) with
  |none=>rfl |some o=>rw[hk _ o q] at hen;injection hen
 refine Zi T TI hmg hmb hA (λb o e=>k b o (hk b o e)) hen0 hx λh' t' k' he'=>?_
 refine jK rfl ?_;exact h h' t' _ hen (λb o hb=>k' b o (λq=>by rw[q,hen] at hb;injection hb) (k b o hb)) he'
theorem Hf{M:Model}{A:Around}{s:Shared}{env:Env}{K:Frag}{x:Sem Value}{E:Value->Shared->Prop}{Q:Flow->Shared->Prop}(TK:TOk K)(hh:A.handled=none)
 (h:wpAny M A x (λv s₁=>∃e d t1,v=.ref e/\K.In s₁.heap/\s₁.heap.get? e=some (Di t1 d)/\E (.ref e) s₁) E s):wpAny M A (raiseStmt env (some x) none) Q E s:=by
 obtain⟨nm,q,N,bs,hdct,sn,sub,ab,col,dd,k0,k1,k2,k3,k5,hKt⟩:=TK.trap;have hcB:(iE jZ::tbm).contains (.type "BaseException")=true:=by simp
 unfold raiseStmt;refine aA (aM h (λv s₁ h₁=>?_) λJ J x=>x)
 refine e31 h₁ λe d t1 q0z=>?_;refine e04 q0z λr3z X he hE=>?_;subst r3z
 have hC:=X _ _ hKt;obtain⟨hp,g,dr,tk,os⟩:=s₁;dsimp only at hC he
 repeat (first|with_reducible refine dQ he ?_|with_reducible refine dQ hC ?_|(with_reducible refine gE hC ?_;rw[hcB])|wp_step)
 exact wpAny_raiseNew_none hh hE
section
variable{cx:Cx}{fm:Fm}{n:Nat}
theorem S1.raise{func arg:Expr}{ia:IE}{fd:FuncData}{body:List Stmt}{cpos pos:Pos}(T:TopOk cx)(TI:zC cx.K fd body)(hmg:cx.mg (ofString "Exception")=none)(hmb:cx.mb (ofString "Exception")=some (.type "Exception"))
 (he:∀env,eval (.Call func [arg] [] cpos) env=(do callWith cpos (←eval func env) [] (backTo cpos (starEach [arg] env)) (backToKw cpos (keywordEach [] env))))(hp: [arg].all noStar=true)
 (hf:SE cx fm n func (.val (.raw (.ref jZ))))(ha:SE cx fm n arg ia):S1 cx fm n (.Raise (some (.Call func [arg] [] cpos)) none pos) (.raise jZ ia):=λρ σ Q X w A s a b S=>by
 refine e02 w λz4z w=>?_
 rw[arm_exec_Raise];refine aA (aQ ?_);refine Hf TI.toTOk a.1 ?_;show wpAny _ A (do let v←eval (.Call func [arg] [] cpos) fm.env;standAt pos;pure v) _ _ s
 rw[he];refine aA (aA ?_);refine aM (hf ρ σ (λ(v:V) (σ':H)=>v=V.raw (.ref jZ)/\σ'=σ) (X ρ) ⟨rfl,rfl⟩ A s a b S) (λvf s₁ z=>?_) λJ J z=>z.toS
 refine e24 z λu σ₁ z5z rf S₁ st₁=>?_;refine e02 z5z λz6z z7z=>?_;obtain rfl:=z6z;obtain rfl:=z7z
 cases rf;refine e02 (lD (env:=fm.env) (pos:=cpos) hp) λp1 p2=>?_
 refine fQ (P:=λh=>cx.K.In h) (by rw[p1];rfl) (λh z=>keeps_K TI.keep h z) (lI p1 ?_)
 rw[nP (by simpa using hp)]
 refine dN ?_;refine aM (ha ρ _ _ (X ρ) w A s₁ a b S₁) (λvn s₂ z=>dR ?_) λJ J z=>mG.trans st₁ z.toS
 refine e24 z λv σ₂ w₂ rn S₂ st₂=>?_
 refine⟨S₂.K T,?_⟩;have st₃:Stp fm σ₁ σ₂ s.heap s₂.heap:=st₁.trans st₂;have hd:A.depth+1<recursionLimit:=by have:=a.2.1;show A.depth+1<1000;lia
 refine Aj T TI hmg hmb hd S₂.keep λh' t e hen hk he'=>?_
 refine e21 he' λd t1 he'=>?_
 have S₃:St cx fm ρ σ₂ {s₂ with heap:=h',toks:=t}:=S₂.grow hk rfl rfl
 refine aA (aQ (aI ⟨e,d,t1,rfl,S₃.K T,he',?_⟩))
 have xw:X ρ σ₂:=by
  split at w₂
  ·exact w₂
  ·exact w₂.elim
 refine⟨ρ,σ₂,xw,⟨e,_,_,rfl,vB st₃ hen,he',rfl,rfl,.inl rfl⟩,S₃,st₃.trans (.grow hk λJ e=>.inl e)⟩
end
end
section
open PySem.SeqAt
theorem Ax(body orelse:Sem Flow)(h₀:ExceptHandler)(env:Env):tryStmt false body [h₀] orelse [] env=(do
 match←body.attempt with
 |.ok .next=>orelse |.ok f=>pure f |.error e=>do
  leaving env e
  handleBy e env [h₀]):=by
 unfold tryStmt leaving;simp only[List.isEmpty_nil,if_true,List.isEmpty_cons,fI,if_false,bind_assoc,Bool.false_and];rfl
noncomputable def tP(px:Pos)(k:Nat)(pc pr pos:Pos):ExceptHandler:=.ExceptHandler (some (.Name (ofString "Trap") px)) none [.Return (some (.Constant .none k pc)) pr] pos
section
variable{cx:Cx}{fm:Fm}{n:Nat}
theorem Cg{ρ:Rho}{σ σ₀:H}{s₀ s:Shared}{e:Value}{M:Model}{A:Around}{E:Value->Shared->Prop}{Q:Unit->Shared->Prop}{W:Addr->Prop}(S₀:St cx fm ρ σ₀ s₀){ρ':Rho}(S:St cx fm ρ' σ s)(x:sR s₀.heap s.heap e)(st:StpG (Fr fm.fs) W σ₀ σ s₀.heap s.heap)
 (h:∀h',St cx fm ρ' σ {s with heap:=h'}->StpG (Fr fm.fs) W σ₀ σ s₀.heap h'->Q () {s with heap:=h'}):wpAny M A (setFlight e none) Q E s:=by
 refine e31 x λea oe vs q0z=>?_;refine e06 q0z λr3z hn he hc hd ht=>?_;subst r3z
 unfold setFlight;rcases ht with h1|⟨T,oT,ts,h1,hTn,hTe,hT,hTd,h3⟩
 ·refine aA (wpAny_field he hd h1 ?_)
  exact aI (h s.heap S st)
 ·refine aA (wpAny_field he hd h1 ?_)
  rw[if_pos (show(iE T !=Value.none)=true from by simp)]
  refine wpAny_setField hT hTd (Array.getElem?_eq_some_iff.mp h3).1 ?_;have hs:dJ T s.heap (s.heap.update T (Obj.mapFields (·.setIfInBounds 3 .none))):=cP ..
  have σT:σ T=none:=by
   induction q:σ T with
   |none=>rfl |some o=>
    exfalso;have:=S.own T o q
    induction o with
    |list l=>refine e22 this λz2z z3z e' z4z=>?_;rw[hT] at e';injection e' with qz;subst qz;injection hTd
    |sd es=>refine e12 this λz5z z6z z7z=>?_;refine e31 z6z λJ J J q0z=>?_;refine e04 q0z λe' J hd' J=>?_;rw[hT] at e';injection e' with qz;subst qz;rw[hd'] at hTd;injection hTd
    |nd es=>refine e12 this λz13z z14z z15z=>?_;refine e31 z14z λJ J J q0z=>?_;refine e04 q0z λe' J hd' J=>?_;rw[hT] at e';injection e' with qz;subst qz;rw[hd'] at hTd;injection hTd
    |inst C d=>rw[show s.heap.get? T=_ from this] at hT;injection hT with qz;subst qz;injection hTd
    |ro l=>refine e22 this λz21z z22z e' z23z=>?_;rw[hT] at e';injection e' with qz;subst qz;injection hTd
  have hH:Hid cx fm σ T:=Hid.of_new S₀ hTn σT;have noT:∀items,¬IsTup s.heap T items:=λitems ⟨o,e1,_,k,hd'⟩=>by rw[hT] at e1;injection e1 with qz;subst qz;rw[hd'] at hTd;injection hTd
  exact h _ (S.hid hH hs.extBut (oW hs.extBut noT) rfl rfl) (st.hid hTn hs.extBut)
theorem S1.try_{b:List Stmt}{ib:ISs}{fd:FuncData}{body:List Stmt}{px:Pos}{k:Nat}{pc pr hp pos:Pos}{outer:List Env}{L:Addr}(T:TopOk cx)(TI:zC cx.K fd body)(hfs:fm.fs=fm.env::outer)(hL:fm.env.frame=some L)(hk:fm.env.kindOf (ofString "Trap")=some .globalImplicit)(hg:cx.mg (ofString "Trap")=some (.ref jZ))
 (hb:Ss cx fm n b ib):S1 cx fm n (.Try b [tP px k pc pr hp] [] [] pos) (.try_ ib):=λρ σ Q X w A s a fr S=>by
 rw[arm_exec_Try,Ax];refine aA (aQ (aA (wpAny_attempt (aM (hb _ _ _ _ w A s a fr S) (λf s' z=>?_) λe s' z=>?_))))
 ·refine e31 z λf' ρ' σ' q0z=>?_;refine e04 q0z λq r S' st=>?_
  match f,f',r with
  |.next,.next,_=>exact gM ⟨.next,ρ',σ',q,trivial,S',st⟩ |.brk,.brk,_=>exact aI ⟨.brk,ρ',σ',q,trivial,S',st⟩ |.cont,.cont,_=>exact aI ⟨.cont,ρ',σ',q,trivial,S',st⟩ |.ret v,.ret u,r=>exact aI ⟨.ret u,ρ',σ',q,r,S',st⟩
 ·refine e24 z λρ' σ' q ex S' st=>?_
  have fr':A.frames=some (fm.env::outer):=hfs▸fr;have hl:s'.heap.FunFrames cx.h₀ (fm.env::outer):=hfs▸S'.frames;refine aA (tZ (cx:=cx) (hb:=s.heap) (L:=L) fr' hl hL st.live ex λh' lr=>?_)
  rw[←hfs] at lr;refine e02 (lr.st S' (λb o e=>by rw[S.keep b o e];exact λh=>by injection h) st) λS₁ st₁=>?_
  have hex:=lr.exc;refine e31 (id hex) λea oe vs q0z=>?_;refine e06 q0z λr3z hn he hc hd ht=>?_;subst r3z
  have KI:cx.K.In h':=S₁.K T;obtain⟨nm,qn,N,bs,hdct,sn,sub,ab,col,dd,k0,k1,k2,k3,k5,hKt⟩:=TI.trap;refine wpAny_handleBy_cons (codeAny_handlers_test ?_) (by intro q;injection q)
  have hgl:h'.Ns fm.env.globals cx.mg:=by rw[S₁.loc.env.globals];exact T.g.keeps S₁.keep
  refine gW S₁.loc.env.kind hk (PySem.Calls.loadGlobal_global hgl hg ?_) (by decide)
  obtain⟨hp',g',dr',tk',os'⟩:=s';refine wpAny_excMatches_sub_self (KI _ _ hKt) he hc (by decide+kernel) ?_
  refine codeAny_handlers_suite (Cg (s:=⟨h',g',dr',tk',os'⟩) (W:=Fw fm) S S₁ hex st₁ λh₂ S₂ st₂=>?_)
  refine iA (wpAny_Return_some (wpAny_Constant_none ?_));exact⟨.ret .none,ρ',σ',q,.none,S₂,st₂⟩
end
end
set_option backward.match.sparseCases false
section
open PySem.SeqAt
theorem Ql(σ:H){a b:Addr}(o o':O)(h:a≠b):upd (upd σ a o) b o'=upd (upd σ b o') a o:=by
 funext c
 by_cases h1:c=b
 ·subst h1;rw[jP,jQ _ _ (Ne.symm h),jP]
 ·by_cases h2:c=a
  ·subst h2;rw[jQ _ _ h1,jP,jP]
  ·rw[jQ _ _ h1,jQ _ _ h2,jQ _ _ h2,jQ _ _ h1]
noncomputable def kD(p f g:V):List (Str×V):= [(At.plain.str,p),(At.first.str,f),(At.second.str,g)]
noncomputable def vX:ISs:=.cons (.setAttr (.loc 0) .plain (.loc 1)) (.cons (.setAttr (.loc 0) .first (.loc 2)) (.cons (.setAttr (.loc 0) .second (.loc 3)) .nil))
theorem Mm{σ:H}{a d:Addr}{es:List (Str×V)}{x:At}{v:V}{K:H->Prop}(ha:σ a=some (.inst jV d))(hd:σ d=some (.sd es))(hz:es.length<=100)(h:K (upd σ d (.sd (nN es x.str v)))):oC (.obj a) x v σ K:=by
 show om (pN (σ a)) _;rw[ha];refine⟨rfl,?_⟩;show om (asSd (σ d)) _;rw[hd];exact⟨hz,h⟩
theorem Ht{C:mJ}{σ:H}{a d:Addr}{p f g:V}{Q:QS}{X:XS}(had:a≠d)(ha:σ a=some (.inst jV d))(hd:σ d=some (.sd []))(hQ:Q .next [some (.obj a),some p,some f,some g] (upd σ d (.sd (kD p f g)))):
 wpSs C vX [some (.obj a),some p,some f,some g] σ Q X:=by
 show oC (.obj a) .plain p σ λσ=>oC (.obj a) .first f σ λσ=>oC (.obj a) .second g σ λσ=>Q .next [some (.obj a),some p,some f,some g] σ
 have k:∀{o:O},upd σ d o a=some (.inst jV d):=λ{o}=>(jQ _ _ had).trans ha
 refine Mm ha hd (aP _) (Mm k (jP ..) (aC (oX ..) (by decide)) ?_)
 rw[uL];refine Mm k (jP ..) (aC (oX ..) (aC (aY (oX ..)) (by decide))) ?_
 rw[uL];exact hQ
noncomputable def qU(σ:H)(p f g:V)(Q:QV):Prop:=∀a d,σ a=none->σ d=none->a≠d->Q (.obj a) (upd (upd σ d (.sd (kD p f g))) a (.inst jV d))
theorem Cc{cx:Cx}{n nd:Nat}{fd:FuncData}{body:List Stmt}{us:List V}{p f g:V}{σ:H}{Q:QV}{X:XH}(T:TopOk cx)(KO:KOk cx.K)(F:Yd cx.K 356 fd body [ofString "self",At.plain.str,At.first.str,At.second.str] nd)
 (hB:∀L fs,Ss cx (ffm fd [ofString "self",At.plain.str,At.first.str,At.second.str] L 356 fs) n body vX)(hus:us.length+nd=3)(hpf:us++bZ nd .none= [p,f,g])(hq:qU σ p f g Q):
 CT cx (n+3) jV us σ Q X:=by
 intro A fs s vs hA hfr S hvs;have X₀:=T.K.keeps S.keep;have S0:=S;obtain⟨hh,gg,dr,t,os⟩:=s;refine make_core (makes_of X₀ KO.makes) (looks_findIn X₀ KO.init.1) (λself=>bind_fn X₀ self KO.init.2) (.inl rfl) ?_
 have k:∀b o,hh.get? b=some o->((hh.push emptyDict).push (instObj jV hh.objs.size)).get? b=some o:=λb o e=>aN _ (aN _ e)
 have hx:((hh.push emptyDict).push (instObj jV hh.objs.size)).get? (hh.objs.size+1)=some (instObj jV hh.objs.size):=by heap_get
 have hd:((hh.push emptyDict).push (instObj jV hh.objs.size)).get? hh.objs.size=some emptyDict:=aN _ (cO _ rfl);have had:hh.objs.size+1≠hh.objs.size:=Nat.succ_ne_self _;have σd:σ hh.objs.size=none:=S0.free (aR _);have σa:σ (hh.objs.size+1)=none:=S0.free (dA _);have B₁:StB cx fs σ ⟨(hh.push emptyDict).push (instObj jV hh.objs.size),gg,dr,t,os⟩:=S0.grow k rfl rfl;have nfr:∀b,hh.objs.size<=b->b∉fs.filterMap (·.frame):=λb hb hm=>eD _ (eH (FunFrames.lt S0.frames hm) hb)
 have B₂:=B₁.claim (c:=hh.objs.size) (o:=.sd []) ⟨[],⟨_, #[],0,hd,⟨rfl,rfl,rfl⟩,rfl,λe he=>by simp at he,.nil,.nil⟩,rfl,.nil⟩ (S0.fresh_h₀ (aR _)) (nfr _ (aR _))
 have B₃:=B₂.claim (c:=hh.objs.size+1) (o:=.inst jV hh.objs.size) hx (S0.fresh_h₀ (dA _)) (nfr _ (dA _));have tk:Tk hh ((hh.push emptyDict).push (instObj jV hh.objs.size)):=λa i z=>z.keeps k
 have c:=To (n:=n) (us:=.obj (hh.objs.size+1)::us) (σ:=upd (upd σ hh.objs.size (.sd [])) (hh.objs.size+1) (.inst jV hh.objs.size)) (rest:= []) (Q:=λv σ'=>v=.none/\Q (.obj (hh.objs.size+1)) σ') (X:=X) (ib:=vX) T F rfl F.nodup (by rw[List.length_cons];show us.length+1+nd=4;lia) hB (by
  rw[List.cons_append,hpf];refine Ht had (by rw[jP]) (by rw[jQ _ _ had.symm,jP]) ⟨rfl,?_⟩
  rw[Ql _ _ _ had,uL];exact hq _ _ σa σd had)
 have hA':Room (A.under (.builtin "type.__call__" ⟨.ref jV::vs,[]⟩)) (n+2):=⟨hA.1,by have:=hA.2.1;show A.depth+1+_+_<=_;lia,by have:=hA.2.2;show A.units+1+_+_<=_;lia⟩
 have hfr':(A.under (.builtin "type.__call__" ⟨.ref jV::vs,[]⟩)).frames=some fs:=by
  have e:(Code.builtin "type.__call__" ⟨.ref jV::vs,[]⟩).envs= []:=by rfl
  unfold Around.under;rw[e,hfr]<;>rfl
 refine fV (c _ fs _ (.ref (hh.objs.size+1)::vs) hA' hfr' B₃ (.cons (.obj _) (hvs.mono tk))) λr s' z=>?_
 have fin:∀{σ':H} {h':Heap},StpB fs (upd (upd σ hh.objs.size (.sd [])) (hh.objs.size+1) (.inst jV hh.objs.size)) σ' ((hh.push emptyDict).push (instObj jV hh.objs.size)) h'->StpB fs σ σ' hh h':=λ{σ' h'} z=>by
  have dn:hh.get? hh.objs.size=none:=bW (aR _);have an:hh.get? (hh.objs.size+1)=none:=bW (dA _);refine⟨λb o e hσ hW=>z.keep b o (k b o e) ?_ hW,λb e=>?_,λb e=>z.live b ?_⟩
  ·have h1:b≠hh.objs.size:=λq=>by rw[q,dn] at e;injection e
   have h2:b≠hh.objs.size+1:=λq=>by rw[q,an] at e;injection e
   rw[jQ _ _ h2,jQ _ _ h1];exact hσ
  ·by_cases h1:b=hh.objs.size
   ·exact .inr (h1▸dn)
   ·by_cases h2:b=hh.objs.size+1
    ·exact .inr (h2▸an)
    ·rcases z.fresh b e with y|y
     ·rw[jQ _ _ h2,jQ _ _ h1] at y;exact .inl y
     ·right
      induction q:hh.get? b with
      |none=>rfl |some o=>rw[k b o q] at y;injection y
  ·induction q:hh.get? b with
   |none=>exact absurd q e |some o=>rw[k b o q];exact λh=>by injection h
 match r,z with
 |.ok (.ret v),⟨u,σ',⟨z0,z1⟩,z2,z3,z4⟩=>
  subst z0;cases z2;exact jK rfl ⟨.obj _,σ',z1,.obj _,z3,fin z4⟩
 |.error e,⟨σ',z1,z2,z3,z4⟩=>
  refine⟨σ',z1,z2.older λb e=>?_,z3,fin z4⟩
  induction q:hh.get? b with
  |none=>exact absurd q e |some o=>rw[k b o q];exact λh=>by injection h
end
section
open PySem.SeqAt
theorem ff0{P:Prop}(h:false=true):P:=Bool.noConfusion h
structure Sc where
 nm:List Str
 kd:List (Str×NameKind)
 gt:List (Str×V)
 comp:Bool
noncomputable def ixOf(x:Str):List Str->Nat->Option Nat
 | [],_=>none |y::r,i=>if y=x then some i else ixOf x r (i+1)
noncomputable def Xh(x:Str):Bool:=(x==("__debug__":Str))||(x==("__classdict__":Str))
noncomputable def Dg(sc:Sc)(x:Str):IE:=if Xh x=true then .bad else match sc.kd.lookup x with
 |some .globalImplicit=>match sc.gt.lookup x with
  |some v=>.val v |none=>.bad
 |some .local|some .cell|some .free=>match ixOf x sc.nm 0 with
  |some i=>.loc i |none=>.bad
 |_=>.bad
noncomputable def biOf:V->Option Bi
 |.raw (.builtin s)=>if s="len" then some .len else if s="abs" then some .abs else if s="sum" then some .sum else if s="max" then some .max else if s="min" then some .min else if s="any" then some .any else if s="isinstance" then some .isbool else none
 |.raw (.type s)=>if s="list" then some .list else none
 |_=>none
noncomputable def meOf(x:Str):Option Me:=if x="append" then some .append else if x="pop" then some .pop else if x="extend" then some .extend else none
noncomputable def omOf(x:Str):Option Addr:=if x=ofString "parts" then some 369 else if x=ofString "labels" then some 376 else none
noncomputable def atOf(x:Str):Option At:=if x=At.plain.str then some .plain else if x=At.first.str then some .first else if x=At.second.str then some .second else none
noncomputable def Tf(e:Expr):Bool:=Nat.beq e.ctorIdx 16
noncomputable def sG(e:Expr):Bool:=Nat.beq e.ctorIdx 7
noncomputable def Wh(e:Expr):Bool:=Nat.beq e.ctorIdx 26
noncomputable def tI(e:Expr):Bool:=Nat.beq e.ctorIdx 8||Nat.beq e.ctorIdx 9||Nat.beq e.ctorIdx 10
noncomputable def cOf:Expr->Option Const
 |.Constant c _ _=>some c |_=>none
noncomputable def xW:Expr->Option Str
 |.Name x _=>some x |_=>none
noncomputable def vA:Expr->Option (Expr×Expr)
 |.Call f [x] [] _=>some (f,x) |_=>none
noncomputable def aOf:Expr->Option (Expr×Str×Pos)
 |.Attribute o x p=>some (o,x,p) |_=>none
noncomputable def sOf:Expr->Option (Option Expr×Option Expr×Option Expr)
 |.Slice lo hi st _=>some (lo,hi,st) |_=>none
noncomputable def asS:Const->Option Str
 |.str k=>some k |_=>none
noncomputable def asI:Const->Option Int
 |.int k=>some k |_=>none
noncomputable def cIE:Const->IE
 |.int i=>.val (.int i) |.str x=>.val (.str x) |.none=>.val .none |.bool b=>.val (.bool b) |_=>.bad
noncomputable def xV:IE->Option V
 |.val v=>some v |_=>none
noncomputable def Fh:V->Option Value
 |.raw w=>some w |_=>none
noncomputable def isRg(o:Option V):Bool:=decide (o.bind Fh=some (.type "range"))
noncomputable def keyS(o:Option Expr):Option Str:=(o.bind cOf).bind asS
noncomputable def keyI(o:Option Expr):Option Int:=(o.bind cOf).bind asI
noncomputable def uM:List (Option Expr)->Option (List Str)
 | []=>some [] |o::r=>(keyS o).bind λk=>(uM r).map (k:: ·)
noncomputable def uS:List (Option Expr)->Option (List Int)
 | []=>some [] |o::r=>(keyI o).bind λk=>(uS r).map (k:: ·)
noncomputable def isSp:List Expr->Bool
 | [e]=>decide (cOf e=some (.str (ofString " "))) |_=>false
noncomputable def gen1(g:Comprehension):Option (Str×Expr×List Expr):=if g.is_async=0 then(xW g.target).map λx=>(x,g.iter,g.ifs) else none
noncomputable def qJ(scope:Scope)(sc:Sc)(tg:List Nat):Bool:=
 scope.kind== .function&&scope.names.all (λy=>y.2 != .cell)&&scope.names.all (λx=>x.2 != .local||scope.names.lookup x.1==some .local)&&decide ((scope.names.map (·.1)).Nodup)&&
  scope.names.all (λy=>y.2 != .local||(bD sc.nm.length).all λk=>sc.nm[k]? !=some y.1||tg.contains k)&&
  scope.names.all (λy=>y.2 != .free||sc.kd.lookup y.1==some .cell)&& !sc.comp
noncomputable def tst(t:Expr)(ie:IE):IE:=bif Nat.beq t.ctorIdx 2 then .truth ie else ie
noncomputable def iss:List IS->ISs
 | []=>.nil |s::r=>.cons s (iss r)
noncomputable def ies:List IE->IEs
 | []=>.nil |s::r=>.cons s (ies r)
noncomputable def Ca(f:Expr->IE):List Expr->IEs
 | []=>.nil |e::es=>.cons (f e) (Ca f es)
noncomputable def inner(scope:Scope)(sc:Sc):Sc:={nm:=sc.nm,kd:=tG scope.names,gt:=sc.gt,comp:=true}
mutual
noncomputable def erE(sc:Sc):Nat->Expr->IE
 |0,_=>.bad |N+1,e=>match e with
  |.Constant c _ _=>cIE c |.Name x _=>Dg sc x |.BinOp l op r _=>.bin op (erE sc N l) (erE sc N r) |.UnaryOp .USub x _=>.neg (erE sc N x) |.UnaryOp .Not x _=>.not (erE sc N x) |.BoolOp op xs _=>erB sc N op xs |.IfExp t a b _=>.ite (tst t (erE sc N t)) (erE sc N a) (erE sc N b) |.Compare l [op] [r] _=>if sG r=true then .bad else .cmp (erE sc N l) op (erE sc N r)
  |.Compare l [op,op'] [m,r] _=>if sG r=true then .bad else .cmp2 (erE sc N l) op (erE sc N m) op' (erE sc N r)
  |.Tuple es _ _=>.tup (erEs sc N es) |.List es _=>.lst (erEs sc N es) |.Dict kes ves _=>if kes.length=ves.length/\kes≠ []/\kes.length<=15 then(match uM kes,uS kes with
   |some ks,_=>.sdct ks (Ca (erE sc N) ves) |_,some ks=>.ndct ks (Ca (erE sc N) ves) |_,_=>.bad) else .bad
  |.Subscript o i _=>match sOf i with
   |none=>.sub (erE sc N o) (erE sc N i) |some (lo,hi,none)=>.sli (erE sc N o) (erO sc N lo) (erO sc N hi) |_=>.bad
  |.Attribute o x _=>if Tf o=true then .bad else if x=ofString "code" then .prop (erE sc N o) 363 else match atOf x with
   |some a=>.attr (erE sc N o) a |none=>.bad
  |.Call f args [] pos=>match aOf f with
   |some (o,x,apos)=>if Tf o=true∨args.all noStar=false∨args.length≥30∨(apos.endLine==pos.line)=false then .bad else match meOf x with
    |some m=>.meth (erE sc N o) m (erEs sc N args) |none=>match omOf x with
     |some f=>if args.isEmpty=true then .meth (erE sc N o) (.call f) .nil else .bad
     |none=>if x="split"/\isSp args=true then .split (erE sc N o) else .bad
   |none=>if args.all noStar=false then .bad else match(xV (erE sc N f)).bind biOf with
    |some b=>.bi b (erEs sc N args) |none=>.call (erE sc N f) (erEs sc N args)
  |.ListComp elt [g] scope _=>match gen1 g with
   |some (x,iter,ifs)=>(match ixOf x sc.nm 0 with
    |some i=>if sG iter=true∨qJ scope sc [i]=false∨scope.names.lookup x≠some .local then .bad else match ifs with
     | []=>.comp (erE (inner scope sc) N elt) i (erI sc N iter) (.val (.bool true)) | [c]=>.comp (erE (inner scope sc) N elt) i (erI sc N iter) (erE (inner scope sc) N c) |_=>.bad
    |none=>.bad)
   |none=>.bad
  |.ListComp elt [g,g2] scope _=>match gen1 g,gen1 g2 with
   |some (x,iter,[]),some (y,iter2,[])=>(match ixOf x sc.nm 0,ixOf y sc.nm 0 with
    |some i,some j=>if sG iter=true∨sG iter2=true∨qJ scope sc [i,j]=false∨scope.names.lookup x≠some .local∨scope.names.lookup y≠some .local then .bad else
     .comp2 (erE (inner scope sc) N elt) i (erI sc N iter) j (erI (inner scope sc) N iter2)
    |_,_=>.bad)
   |_,_=>.bad
  |_=>.bad
noncomputable def erEs(sc:Sc):Nat->List Expr->IEs
 |0,_=>.cons .bad .nil |_+1,[]=>.nil |N+1,e::es=>if noStar e=true then .cons (erE sc N e) (erEs sc N es) else .cons .bad .nil
noncomputable def erB(sc:Sc):Nat->BoolOp->List Expr->IE
 |0,_,_=>.bad |_+1,_,[]=>.bad |N+1,_,[x]=>erE sc N x |N+1,.And,x::y::r=>.and (erE sc N x) (erB sc N .And (y::r)) |N+1,.Or,x::y::r=>.or (erE sc N x) (erB sc N .Or (y::r))
noncomputable def erO(sc:Sc):Nat->Option Expr->IE
 |_,none=>.val .none |0,some _=>.bad |N+1,some e=>erE sc N e
noncomputable def erI(sc:Sc):Nat->Expr->It
 |0,_=>.of .bad |N+1,e=>match vA e with
  |some (f,x)=>if isRg (xV (erE sc N f))=true/\aOf f=none/\noStar x=true then .rng (erE sc N x) else .of (erE sc N e)
  |none=>.of (erE sc N e)
end
noncomputable def nmOf(sc:Sc)(x:Str):Option Nat:=match sc.kd.lookup x with
 |some .local=>ixOf x sc.nm 0 |some .cell=>if sc.comp=true then none else ixOf x sc.nm 0
 |_=>none
noncomputable def erTg(sc:Sc)(N:Nat):Expr->Option Tg
 |.Name x _=>(nmOf sc x).map Tg.nm |.Subscript o i _=>if Wh i=true then none else some (.sub (erE sc N o) (erE sc N i))
 |_=>none
noncomputable def wD(sc:Sc)(N:Nat):List Expr->Option (List Tg)
 | []=>some [] |t::ts=>(erTg sc N t).bind λa=>(wD sc N ts).map (a:: ·)
noncomputable def tY:List Tg->Option (List Nat)
 | []=>some [] |.nm i::r=>(tY r).map (i:: ·) |_=>none
noncomputable def Kh(tgs:List Tg):Bool:=match tY tgs with
 |some is=>decide is.Nodup |none=>true
noncomputable def Zl(sc:Sc)(value:Expr)(t:Str)(pos:Pos):Bool:=match value with
 |.ListComp _ [_] scope _=>sc.kd.lookup t==some .local&&pos.line==value.pos.line&& !(scope.names.any λ(n,k)=>n==t&&(k== .local||k== .cell)) |_=>false
noncomputable def Tl:Expr->Bool
 |.Tuple vs _ _=>vs.all (constantsAlone 8) |_=>false
noncomputable def Fa(o:Option Expr):Bool:=decide (o.bind xW=some (ofString "Trap"))
noncomputable def Zu:Stmt->Option Expr
 |.Return (some e) _=>some e |_=>none
noncomputable def Rf(s:Stmt):Bool:=decide ((Zu s).bind cOf=some .none)
noncomputable def yQ:ExceptHandler->Bool
 |.ExceptHandler o none [s] _=>Fa o&&Rf s |_=>false
noncomputable def erA(sc:Sc)(N:Nat)(tg value:Expr):IS:=match tg with
 |.Name x p=>if tI value=true then(if Zl sc value x p=true/\sc.kd.lookup x=some .local then(match ixOf x sc.nm 0 with
    |some j=>.assign j (erE sc N value) |none=>.bad) else .bad) else match nmOf sc x with
    |some i=>.assign i (erE sc N value) |none=>.bad
 |.Subscript o i _=>if tI value=true then .bad else match sOf i with
  |none=>.setSub (erE sc N o) (erE sc N i) (erE sc N value) |some (lo,hi,none)=>.setSli (erE sc N o) (erO sc N lo) (erO sc N hi) (erE sc N value) |_=>.bad
 |.Attribute o x _=>if tI value=true then .bad else match atOf x with
    |some a=>.setAttr (erE sc N o) a (erE sc N value) |none=>.bad
 |.Tuple ts _ _=>if tI value=true∨Tl value=true then .bad else match wD sc N ts with
    |some tgs=>if Kh tgs=true then .assignT tgs (erE sc N value) else .bad
    |none=>.bad
 |_=>.bad
mutual
noncomputable def erS(sc:Sc):Nat->Stmt->IS
 |0,_=>.bad |N+1,st=>match st with
  |.Pass _=>.pass |.Return none _=>.ret (.val .none) |.Return (some e) _=>.ret (erE sc N e) |.Expr e _=>if tI e=true then .bad else .expr (erE sc N e)
  |.If t a b _=>.iff (tst t (erE sc N t)) (erSs sc N a) (erSs sc N b) |.While t b [] _=>.whl (tst t (erE sc N t)) (erSs sc N b) |.For t iter b [] _=>if sG iter=true then .bad else match t with
   |.Name x _=>match nmOf sc x with
    |some i=>.for_ (.one i) (erI sc N iter) (erSs sc N b) |none=>.bad
   |.Tuple ts _ _=>match(wD sc N ts).bind tY with
    |some is=>.for_ (.many is) (erI sc N iter) (erSs sc N b) |none=>.bad
   |_=>.bad
  |.AugAssign tg op e _=>match xW tg with
   |some x=>if sc.kd.lookup x=some .local/\Xh x=false then(match ixOf x sc.nm 0 with
    |some i=>.aug i op (erE sc N e) |none=>.bad) else .bad
   |none=>.bad
  |.Assign [tg] value pos=>erA sc N tg value |.Raise o none _=>match o.bind vA with
   |some (f,x)=>if aOf f=none/\noStar x=true/\(xV (erE sc N f)).bind Fh=some (.ref jZ) then .raise jZ (erE sc N x) else .bad
   |none=>.bad
  |.Try b [h] [] [] _=>if yQ h=true/\sc.kd.lookup (ofString "Trap")=some .globalImplicit then .try_ (erSs sc N b) else .bad
  |_=>.bad
noncomputable def erSs(sc:Sc):Nat->List Stmt->ISs
 |0,_=>.cons .bad .nil |_+1,[]=>.nil |N+1,s::r=>.cons (erS sc N s) (erSs sc N r)
end
end
section
open PySem.SeqAt
structure Fits(cx:Cx)(sc:Sc)(fm:Fm):Prop where
 nm:fm.nm=sc.nm
 kd:∀x,fm.env.kindOf x=sc.kd.lookup x
 comp:fm.comp=sc.comp
 kind:fm.env.scope.kind=.function
 gt:∀x v,sc.gt.lookup x=some v->GV cx x v
theorem Sj{x:Str}{l:List Str}:∀{k i:Nat},ixOf x l k=some i->∃j,i=k+j/\l[j]?=some x:=by
 induction l with
 |nil=>exact λh=>nn0 h |cons y r ih=>
  intro k i h
  have q:oa (ixOf x (y::r) k) λi=>∃j,i=k+j/\(y::r)[j]?=some x:=by
   unfold ixOf;exact ifO (λe=>⟨0,rfl,congrArg some e⟩) λJ=>Fv λi h=>e12 (ih h) λj e g=>⟨j+1,e.trans (Nat.succ_add_eq_add_succ k j),g⟩
  exact(nW q h:)
theorem mP{x:Str}{l:List Str}{i:Nat}(h:ixOf x l 0=some i):l[i]?=some x:=e12 (Sj h) λj e g=>by rw[e,fC];exact g
section
variable{cx:Cx}{fm:Fm}{n:Nat}
theorem SE.bad(e:Expr):SE cx fm n e .bad:=λJ J J J w=>w.elim
theorem ST.bad(e:Expr):ST cx fm n e .bad:=λJ J J J w=>w.elim
theorem S1.bad(e:Stmt):S1 cx fm n e .bad:=λJ J J J w=>w.elim
noncomputable abbrev Both(cx:Cx)(fm:Fm)(n:Nat)(e:Expr)(ie:IE):Prop:=SE cx fm n e ie/\ST cx fm n e ie
theorem Both.bad(e:Expr):Both cx fm n e .bad:=⟨.bad e,.bad e⟩
theorem both{e:Expr}{ie:IE}(h:SE cx fm n e ie)(he:∀env whole,isTrue e env whole=(do let v←whole;standAt e.pos;holding [v] (truthy v))):Both cx fm n e ie:=⟨h,.val he h⟩
theorem deb{x:Str}(h:¬Xh x=true):(x==("__debug__":Str))=false/\(x==("__classdict__":Str))=false:=by
 unfold Xh at h
 simpa using h
theorem ifB{M:IE->Prop}{p:Prop}[Decidable p]{b:IE}(h0:M .bad)(h:¬p->M b):M (if p then .bad else b):=ifD (λJ=>h0) h
theorem ifG{M:IE->Prop}{p:Prop}[Decidable p]{b:IE}(h0:M .bad)(h:p->M b):M (if p then b else .bad):=ifD h λJ=>h0
theorem Ik{sc:Sc}{x:Str}{p:Pos}(T:TopOk cx)(F:Fits cx sc fm):SE cx fm n (.Name x p) (Dg sc x):=by
 unfold Dg;refine ifB (M:=SE cx fm n (.Name x p)) (.bad _) λhd=>?_
 refine e02 (deb hd) λd1 d2=>?_
 have loc:∀k,sc.kd.lookup x=some k->(k=.local∨k=.cell∨k=.free)->SE cx fm n (.Name x p) (match ixOf x sc.nm 0 with|some i=>.loc i|none=>.bad):=λk hk h=>by
  induction hi:ixOf x sc.nm 0 with
  |none=>exact .bad _ |some i=>exact .loc (by rw[F.nm];exact mP hi) (by rw[F.kd,hk];rcases h with rfl|rfl|rfl<;>decide) d1 d2
 induction hk:sc.kd.lookup x with
 |none=>exact .bad _ |some k=>induction k with
  |globalImplicit=>induction hv:sc.gt.lookup x with
   |none=>exact .bad _ |some v=>exact .glob T (by rw[F.kd,hk]) d1 (F.gt x v hv)
  |globalExplicit=>exact .bad _ |«local»=>exact loc _ hk (.inl rfl) |cell=>exact loc _ hk (.inr (.inl rfl)) |free=>exact loc _ hk (.inr (.inr rfl))
theorem sC{o:Expr}(h:¬Tf o=true)(x:Str):∀env whole,attributeBase o x env whole=whole:=by
 intro env whole
 induction o using Expr.casesOn<;>first|rfl|exact absurd rfl h
theorem zZ{f:Expr}(h:aOf f=none)(args:List Expr)(pos:Pos):∀env,eval (.Call f args [] pos) env=(do callWith pos (←eval f env) [] (backTo pos (starEach args env)) (backToKw pos (keywordEach [] env))):=by
 intro env
 induction f using Expr.casesOn<;>first|rfl|exact nn0 h.symm
theorem oO{op:CmpOp}{r:Expr}(h:¬sG r=true):behindInMarks op r=false:=by
 induction r using Expr.casesOn<;>first|rfl|exact absurd rfl h
theorem lM{e:Expr}(h:¬sG e=true):∀env xv,foldedSetIterable e env xv=pure xv:=by
 intro env xv
 induction e using Expr.casesOn<;>first|rfl|exact absurd rfl h
theorem lK{v:Expr}(h:¬tI v=true)(t:Option Expr)(l:Nat)(env:Env):swapsWith v t l env=pure false:=by
 induction v using Expr.casesOn<;>first|rfl|exact absurd rfl h
theorem Wa{e:Expr}{c:Const}:cOf e=some c->∃n p,e=.Constant c n p:=by
 induction e using Expr.casesOn with
 |Constant c n p=>intro h;injection h with qz;subst qz;exact⟨n,p,rfl⟩
 |_=>exact nn0
theorem uZ{e:Expr}{x:Str}:xW e=some x->∃p,e=.Name x p:=by
 induction e using Expr.casesOn with
 |Name c p=>intro h;injection h with qz;subst qz;exact⟨p,rfl⟩
 |_=>exact nn0
theorem aOf_ok{e:Expr}{r:Expr×Str×Pos}:aOf e=some r->e=.Attribute r.1 r.2.1 r.2.2:=by
 induction e using Expr.casesOn with
 |Attribute o x p=>intro h;injection h with qz;subst qz;rfl
 |_=>exact nn0
theorem Qm{e:Expr}{r:Option Expr×Option Expr×Option Expr}:sOf e=some r->∃p,e=.Slice r.1 r.2.1 r.2.2 p:=by
 induction e using Expr.casesOn with
 |Slice l h s p=>intro h;injection h with qz;subst qz;exact⟨p,rfl⟩
 |_=>exact nn0
theorem Kb{e:Expr}{r:Expr×Expr}:vA e=some r->∃p,e=.Call r.1 [r.2] [] p:=by
 induction e using Expr.casesOn with
 |Call f xs kw p=>induction xs using List.casesOn with
  |nil=>exact nn0 |cons x xs=>induction xs using List.casesOn with
   |cons _ _=>exact nn0 |nil=>induction kw using List.casesOn with
    |cons _ _=>exact nn0 |nil=>intro h;injection h with qz;subst qz;exact⟨p,rfl⟩
 |_=>exact nn0
theorem Jb{e:IE}{v:V}:xV e=some v->e=.val v:=by
 induction e using IE.casesOn with
 |val v=>exact λh=>congrArg IE.val (aX h) |_=>exact nn0
theorem Ym{u:V}{w:Value}:Fh u=some w->u=.raw w:=by
 induction u using V.casesOn with
 |raw v=>exact λh=>congrArg V.raw (aX h) |_=>exact nn0
theorem Pl{e:IE}{w:Value}(h:(xV e).bind Fh=some w):e=.val (.raw w):=kY h λJ h1 h2=>(Jb h1).trans (congrArg IE.val (Ym h2))
theorem Ts{o:Option Expr}{k:Str}(h:keyS o=some k):∃n p,o=some (.Constant (.str k) n p):=
 kY h λc h h2=>kY h λe h1 h=>e21 (Wa h) λn p e=>⟨n,p,by
  induction c with
  |str s=>rw[h1,e,aX h2] |_=>exact nn0 h2⟩
theorem Us{o:Option Expr}{k:Int}(h:keyI o=some k):∃n p,o=some (.Constant (.int k) n p):=
 kY h λc h h2=>kY h λe h1 h=>e21 (Wa h) λn p e=>⟨n,p,by
  induction c with
  |int s=>rw[h1,e,aX h2] |_=>exact nn0 h2⟩
theorem uV{g:Comprehension}{r:Str×Expr×List Expr}(h:gen1 g=some r):∃p,g=⟨.Name r.1 p,r.2.1,r.2.2,0⟩:=by
 obtain⟨t,i,f,a⟩:=g
 have k:oa (gen1 ⟨t,i,f,a⟩) λr=>∃p,Comprehension.mk t i f a=⟨.Name r.1 p,r.2.1,r.2.2,0⟩:=by
  unfold gen1;refine ifO (λe=>Kf λx hx=>e11 (uZ hx) λp q=>⟨p,?_⟩) λJ=>trivial
  rw[show t=_ from q,show a=0 from e]
 exact(nW k h:)
theorem vE:∀(kes:List (Option Expr)) {ks:List Str},uM kes=some ks->oQ Const.str kes ks
 | [],_,h=>by injection h with qz;subst qz;exact .nil
 |o::r,ks,h=>by
  refine kY h λk h0 h=>?_
  refine mapS h λks' h1 z1z=>?_;obtain rfl:=z1z
  refine e21 (Ts h0) λn p z2z=>?_;obtain rfl:=z2z
  exact .cons (vE r h1)
theorem vW:∀(kes:List (Option Expr)) {ks:List Int},uS kes=some ks->oQ Const.int kes ks
 | [],_,h=>by injection h with qz;subst qz;exact .nil
 |o::r,ks,h=>by
  refine kY h λk h0 h=>?_
  refine mapS h λks' h1 z3z=>?_;obtain rfl:=z3z
  refine e21 (Us h0) λn p z4z=>?_;obtain rfl:=z4z
  exact .cons (vW r h1)
theorem SEs.bad(es:List Expr)(r:IEs):SEs cx fm n es (.cons .bad r):=λJ J J J J w=>w.elim
theorem zI{e:Expr}{ie:IE}(h:Both cx fm n e ie):ST cx fm n e (tst e ie):=by
 induction e using Expr.casesOn<;>first|exact h.2|exact .truth h.1
theorem ST.ite{t x y:Expr}{it ix iy:IE}{pos}(ht:ST cx fm n t it)(hx:ST cx fm n x ix)(hy:ST cx fm n y iy):ST cx fm n (.IfExp t x y pos) (.ite it ix iy):=λρ σ Q X w A s a b S=>by
 rw[arm_isTrue_IfExp];refine jU (ht _ _ (λc σ=>if c=true then wpE (CTK cx n) ix ρ σ (λv σ=>isB v λb=>Q b σ) X else wpE (CTK cx n) iy ρ σ (λv σ=>isB v λb=>Q b σ) X) _ w A s a b S) λc c' σ' s' w' e S' st=>?_
 have e:c=c':=e;subst e
 induction c
 ·exact hy _ _ _ _ w' A s' a b S'
 ·exact hx _ _ _ _ w' A s' a b S'
theorem SVs.of{f:Expr->IE}(h:∀e,SE cx fm n e (f e)):∀es,SVs cx fm n es (Ca f es)
 | []=>.nil |e::es=>.cons (h e) (SVs.of h es)
end
structure Snd(cx:Cx)(n:Nat)(N:Nat):Prop where
 e:∀sc fm ex,Fits cx sc fm->Both cx fm n ex (erE sc N ex)
 es:∀sc fm es,Fits cx sc fm->SEs cx fm n es (erEs sc N es)
 b:∀sc fm op es pos,Fits cx sc fm->SE cx fm n (.BoolOp op es pos) (erB sc N op es)/\SA cx fm n op es (erB sc N op es)
 o:∀sc fm eo,Fits cx sc fm->SO cx fm n eo (erO sc N eo)
 i:∀sc fm ex,Fits cx sc fm->SI cx fm n ex (erI sc N ex)
theorem Hm(cx:Cx)(n:Nat):Snd cx n 0 where
 e _ _ ex _:=.bad ex
 es _ _ es _:=.bad es _
 b _ _ _ _ _ _:=⟨.bad _,λJ J J J w=>w.elim⟩
 o _ _ eo _:=by induction eo with
   |none=>exact .none |some e=>exact λJ J J J w=>w.elim
 i _ _ ex _:=.of (.bad ex)
end
section
open PySem.SeqAt
section
variable{cx:Cx}{fm:Fm}{n N:Nat}
theorem rL{scope:Scope}{sc:Sc}{tg:List Nat}(F:Fits cx sc fm)(h:qJ scope sc tg=true):oP scope fm.env fm.nm tg/\sc.comp=false:=by
 unfold qJ at h;simp only[dD,beq_iff_eq,cR,bne_iff_ne,ne_eq,Bool.or_eq_true,decide_eq_true_eq,dT] at h;refine e02 h λz1z h7=>?_;refine e02 z1z λz2z h6=>?_;refine e02 z2z λz3z h5=>?_;refine e02 z3z λz4z h4=>?_;refine e02 z4z λz5z h3=>?_;refine e02 z5z λh1 h2=>?_
 refine⟨⟨h1,h2,λx hx hl=>(h3 x hx).elim (λz=>absurd hl z) id,h4,λy hy k hk=>?_,λy hy=>?_⟩,h7⟩
 ·have hm:=qB hy
  rcases h5 _ hm with z|z
  ·exact absurd rfl z
  ·rw[F.nm] at hk
   have hlt:k<sc.nm.length:=(aT.mp hk).1;rcases z k (List.mem_range.mpr hlt) with z|z
   ·exact absurd hk z
   ·simpa using z
 ·rcases h6 _ hy with z|z
  ·exact absurd rfl z
  ·rw[F.kd];exact z
theorem Fits.inner{scope:Scope}{sc:Sc}{tg:List Nat}(F:Fits cx sc fm)(h:oP scope fm.env fm.nm tg)(C:Addr):Fits cx (inner scope sc) (cfm fm scope C):=
 ⟨F.nm,λx=>by
   show(relabel scope fm.env).names.lookup x=_;rw[vO h F.kind];rfl,rfl,h.kind,F.gt⟩
theorem Fs{x:Str}{m:Me}(h:meOf x=some m):x=vU m/\(m=.append∨m=.pop∨m=.extend):=by
 have k:oa (meOf x) λm=>x=vU m/\(m=.append∨m=.pop∨m=.extend):=by
  unfold meOf;exact ifO (λe=>⟨e,.inl rfl⟩) λJ=>ifO (λe=>⟨e,.inr (.inl rfl)⟩) λJ=>ifO (λe=>⟨e,.inr (.inr rfl)⟩) λJ=>trivial
 exact(nW k h:)
theorem Wr{x:Str}{f:Addr}(h:omOf x=some f):x=ofString "parts"/\f=369∨x=ofString "labels"/\f=376:=by
 have k:oa (omOf x) λf=>x=ofString "parts"/\f=369∨x=ofString "labels"/\f=376:=by
  unfold omOf;exact ifO (λe=>.inl ⟨e,rfl⟩) λJ=>ifO (λe=>.inr ⟨e,rfl⟩) λJ=>trivial
 exact(nW k h:)
theorem Ri{x:Str}{a:At}(h:atOf x=some a):x=a.str:=by
 have k:oa (atOf x) λa=>x=a.str:=by
  unfold atOf;exact ifO (λe=>e) λJ=>ifO (λe=>e) λJ=>ifO (λe=>e) λJ=>trivial
 exact(nW k h:)
theorem Gu{v:V}{b:Bi}(h:biOf v=some b):v=.raw (biV b):=by
 have k:oa (biOf v) λb=>v=.raw (biV b):=by
  induction v using V.casesOn with
  |raw w=>induction w with
   |builtin s=>
    have q:=λ{x:String} (e:s=x)=>congrArg (λs=>V.raw (.builtin s)) e
    exact ifO q λJ=>ifO q λJ=>ifO q λJ=>ifO q λJ=>ifO q λJ=>ifO q λJ=>ifO q λJ=>trivial
   |type s=>exact ifO (λe=>congrArg (λs=>V.raw (.type s)) e) λJ=>trivial |_=>exact trivial
  |_=>exact trivial
 exact(nW k h:)
theorem Ys{args:List Expr}(h:isSp args=true):∃k p,args= [.Constant (.str (ofString " ")) k p]:=by
 induction args using List.casesOn with
 |nil=>exact ff0 h |cons e r=>induction r using List.casesOn with
  |cons _ _=>exact ff0 h |nil=>exact e21 (Wa (of_decide_eq_true (show decide _=true from h))) λk p e=>⟨k,p,congrArg (λe=> [e]) e⟩
theorem Jm{sc:Sc}(T:TopOk cx)(KO:KOk cx.K)(ih:Snd cx n N)(F:Fits cx sc fm)(o:Expr)(x:Str)(apos:Pos)(args:List Expr)(pos:Pos):SE cx fm n (.Call (.Attribute o x apos) args [] pos) (erE sc (N+1) (.Call (.Attribute o x apos) args [] pos)):=by
 refine ifB (M:=SE cx fm n _) (.bad _) λhc=>?_
 rw[not_or,not_or,not_or,eU,eU] at hc;refine e04 hc λc1 c2 c3 c4=>?_
 induction hm:meOf x with
 |some m=>
  refine e02 (Fs hm) λz6z hm'=>?_;obtain rfl:=z6z
  exact .lmeth hm' (sC c1 _) c2 (Nat.lt_of_not_le c3) c4 (ih.e _ _ _ F).1 (ih.es _ _ _ F)
 |none=>
  induction hf:omOf x with
  |some f=>
   induction args using List.casesOn with
   |nil=>exact .ometh T KO (Wr hf) (sC c1 _) c4 (ih.e _ _ _ F).1 |cons a r=>exact .bad _
  |none=>
   refine ifG (M:=SE cx fm n _) (.bad _) λh=>?_
   obtain⟨rfl,h⟩:=h;refine e21 (Ys h) λk p z8z=>?_;obtain rfl:=z8z
   exact .split (sC c1 _) c4 (ih.e _ _ _ F).1
theorem snd_e(T:TopOk cx)(KO:KOk cx.K)(ih:Snd cx n N){sc:Sc}(F:Fits cx sc fm)(ex:Expr):Both cx fm n ex (erE sc (N+1) ex):=by
 have E:=λe=>(ih.e sc fm e F).1
 induction ex using Expr.casesOn with
 |Constant c k p=>induction c with
  |int i=>exact both (.int _ _ _) λJ J=>rfl |str i=>exact both (.str _ _ _) λJ J=>rfl |none=>exact both (.none _ _) λJ J=>rfl |bool b=>exact both (.bool _ _ _) λJ J=>rfl |_=>exact .bad _
 |Name x p=>exact both (Ik T F) λJ J=>rfl |BinOp l op r p=>exact both (.bin (E _) (E _)) λJ J=>rfl |UnaryOp op x p=>induction op with
  |USub=>exact both (.neg (E _)) λJ J=>rfl |Not=>exact⟨.not (E _),.not (ih.e _ _ _ F).2⟩ |_=>exact .bad _
 |BoolOp op xs p=>exact⟨(ih.b _ _ _ _ _ F).1,.bool (ih.b _ _ _ _ default F).2⟩ |IfExp t a b p=>exact⟨.ite (zI (ih.e _ _ _ F)) (E _) (E _),.ite (zI (ih.e _ _ _ F)) (ih.e _ _ _ F).2 (ih.e _ _ _ F).2⟩ |Compare l ops rs p=>
  induction ops using List.casesOn with
  |nil=>exact .bad _ |cons op ops=>induction ops using List.casesOn with
   |nil=>induction rs using List.casesOn with
    |nil=>exact .bad _ |cons r rs=>induction rs using List.casesOn with
     |nil=>exact ifB (.bad _) λh=>⟨.cmp T (oO h) (E _) (E _),.cmp T (oO h) (E _) (E _)⟩ |cons _ _=>exact .bad _
   |cons op' ops=>induction ops using List.casesOn with
    |cons _ _=>exact .bad _ |nil=>induction rs using List.casesOn with
     |nil=>exact .bad _ |cons m rs=>induction rs using List.casesOn with
      |nil=>exact .bad _ |cons r rs=>induction rs using List.casesOn with
       |nil=>exact ifB (.bad _) λh=>⟨.cmp2 T (oO h) (E _) (E _) (E _),.cmp2 T (oO h) (E _) (E _) (E _)⟩ |cons _ _=>exact .bad _
 |Tuple es k p=>exact both (.tup (ih.es _ _ _ F)) λJ J=>rfl |List es p=>exact both (.lst (ih.es _ _ _ F)) λJ J=>rfl |Dict kes ves p=>
  refine ifG (.bad _) λhc=>?_
  induction hs:uM kes with
  |some ks=>exact both (.sdct (vE _ hs) (.of (λe=>E e) _) hc.1 hc.2.1 hc.2.2) λJ J=>rfl |none=>
   induction hi:uS kes with
   |some ks=>exact both (.ndct (vW _ hi) (.of (λe=>E e) _) hc.1 hc.2.1 hc.2.2) λJ J=>rfl |none=>exact .bad _
 |Subscript o i p=>
  show Both cx fm n _ (match sOf i with|none=>_|some (lo,hi,none)=>_|_=>_)
  induction hi:sOf i with
  |none=>exact both (.sub (E _) (E _)) λJ J=>rfl |some r=>
   refine e11 (Qm hi) λq z13z=>?_;obtain rfl:=z13z
   obtain⟨lo,hi,st⟩:=r
   induction st with
   |none=>exact both (.sli (E _) (ih.o _ _ _ F) (ih.o _ _ _ F)) λJ J=>rfl |some _=>exact .bad _
 |Attribute o x p=>
  refine ifB (.bad _) λhc=>ifD (P:=Both cx fm n _) (λhx=>?_) λJ=>?_
  ·subst hx
   exact both (.prop T KO (sC hc _) (E _)) λJ J=>rfl
  ·induction ha:atOf x with
   |some a=>
    have:=Ri ha;subst this;exact both (.attr T KO (sC hc _) (E _)) λJ J=>rfl
   |none=>exact .bad _
 |Call f args kws p=>induction kws using List.casesOn with
  |cons _ _=>exact .bad _ |nil=>
   refine both ?_ λJ J=>rfl
   induction hf:aOf f with
   |some r=>
    have:=aOf_ok hf;subst this;exact Jm T KO ih F _ _ _ _ _
   |none=>
    show SE cx fm n _ (match aOf f with|some (o,x,apos)=>_|none=>_)
    rw[hf];refine ifB (M:=SE cx fm n _) (.bad _) λha=>?_
    rw[eU] at ha;have na:=zZ hf
    induction hb:(xV (erE sc N f)).bind biOf with
    |some b=>
     refine kY hb λv h1 h2=>.bi T (na _ _) ha ?_ (ih.es _ _ _ F)
     rw[←Gu h2,←Jb h1];exact E _
    |none=>exact .fcall T (na _ _) ha (E _) (ih.es _ _ _ F)
 |ListComp elt gens scope p=>induction gens using List.casesOn with
  |nil=>exact .bad _ |cons g gens=>induction gens using List.casesOn with
   |nil=>
    show Both cx fm n _ (match gen1 g with|some (x,iter,ifs)=>_|none=>.bad)
    induction hg:gen1 g with
    |none=>exact .bad _ |some r=>
     refine e11 (uV hg) λq z9z=>?_;obtain rfl:=z9z
     obtain⟨x,iter,ifs⟩:=r;show Both cx fm n _ (match ixOf x sc.nm 0 with|some i=>_|none=>.bad)
     induction hi:ixOf x sc.nm 0 with
     |none=>exact .bad _ |some i=>
      refine ifB (.bad _) λhc=>?_
      rw[not_or,not_or,eU] at hc;refine e03 hc λc1 c2 c3=>?_
      refine e02 (rL F c2) λso z10z=>?_
      have hx:=mP hi;rw[←F.nm] at hx
      induction ifs using List.casesOn with
      |nil=>exact both (.comp (ih.i _ _ _ F) (lM c1) so hx (eQ.mp c3) (λC=>.none) λC=>(ih.e _ _ _ (F.inner so C)).1) λJ J=>rfl |cons c ifs=>induction ifs using List.casesOn with
       |nil=>exact both (.comp (ih.i _ _ _ F) (lM c1) so hx (eQ.mp c3) (λC=>.one (ih.e _ _ _ (F.inner so C)).2) λC=>(ih.e _ _ _ (F.inner so C)).1) λJ J=>rfl |cons _ _=>exact .bad _
   |cons g2 gens=>induction gens using List.casesOn with
    |cons _ _=>exact .bad _ |nil=>
     show Both cx fm n _ (match gen1 g,gen1 g2 with|some (x,iter,[]),some (y,iter2,[])=>_|_,_=>.bad)
     induction hg:gen1 g with
     |none=>exact .bad _ |some r=>
      refine e11 (uV hg) λq z11z=>?_;obtain rfl:=z11z
      obtain⟨x,iter,ifs⟩:=r
      induction ifs using List.casesOn with
      |cons _ _=>exact .bad _ |nil=>
       induction hg2:gen1 g2 with
       |none=>exact .bad _ |some r2=>
        refine e11 (uV hg2) λq2 z12z=>?_;obtain rfl:=z12z
        obtain⟨y,iter2,ifs2⟩:=r2
        induction ifs2 using List.casesOn with
        |cons _ _=>exact .bad _ |nil=>
         show Both cx fm n _ (match ixOf x sc.nm 0,ixOf y sc.nm 0 with|some i,some j=>_|_,_=>.bad)
         induction hi:ixOf x sc.nm 0 with
         |none=>exact .bad _ |some i=>induction hj:ixOf y sc.nm 0 with
          |none=>exact .bad _ |some j=>
           refine ifB (.bad _) λhc=>?_
           rw[not_or,not_or,not_or,not_or,eU] at hc;refine e05 hc λc1 c2 c3 c4 c5=>?_
           refine e02 (rL F c3) λso z13z=>?_
           have hx:=mP hi;have hy:=mP hj;rw[←F.nm] at hx hy;exact both (.comp2 (ih.i _ _ _ F) (lM c1) (lM c2) so hx (eQ.mp c4) hy (eQ.mp c5) (λC=>ih.i _ _ _ (F.inner so C)) λC=>(ih.e _ _ _ (F.inner so C)).1) λJ J=>rfl
 |_=>exact .bad _
theorem Im(T:TopOk cx)(KO:KOk cx.K)(ih:Snd cx n N):Snd cx n (N+1) where
 es sc fm es F:=by
  induction es using List.casesOn with
  |nil=>exact .nil |cons e es=>
   exact ifD (P:=SEs cx fm n (e::es)) (λh=>.cons (ih.e sc fm e F).1 (ih.es sc fm es F) (nP h)) λJ=>.bad _ _
 b sc fm op es pos F:=by
   induction es using List.casesOn with
   |nil=>exact⟨.bad _,λJ J J J w=>w.elim⟩ |cons x xs=>
    induction xs using List.casesOn with
    |nil=>exact⟨.one (ih.e _ _ _ F).1,.one (ih.e _ _ _ F).2⟩ |cons y ys=>
     refine e02 (ih.b sc fm op (y::ys) pos F) λh1 h2=>?_
     induction op with
     |And=>exact⟨.and (ih.e _ _ _ F).1 h1,.and (ih.e _ _ _ F).2 h2⟩ |Or=>exact⟨.or (ih.e _ _ _ F).1 h1,.or (ih.e _ _ _ F).2 h2⟩
 o sc fm eo F:=by
   induction eo with
   |none=>exact .none |some e=>exact .some (ih.e sc fm e F).1
 i sc fm ex F:=by
   show SI cx fm n _ (match vA ex with|some (f,x)=>_|none=>_)
   induction hv:vA ex with
   |none=>exact .of (ih.e _ _ _ F).1 |some r=>
    refine e11 (Kb hv) λpos z14z=>?_;obtain rfl:=z14z
    obtain⟨f,x⟩:=r;refine ifD (P:=SI cx fm n _) (λh=>?_) λJ=>.of (ih.e _ _ _ F).1
    have hf:=(ih.e sc fm f F).1;rw[Pl (of_decide_eq_true h.1)] at hf;exact .rng T (zZ h.2.1 [x] pos) (by rw[List.all_cons,h.2.2];rfl) hf (ih.e _ _ _ F).1
 e sc fm ex F:=snd_e T KO ih F ex
end
end
section
open PySem.SeqAt
structure TopX(cx:Cx):Prop extends TopOk cx where
 KO:KOk cx.K
 TI:∃fd body,zC cx.K fd body
 noExc:cx.mg (ofString "Exception")=none
 exc:cx.mb (ofString "Exception")=some (.type "Exception")
 trap:cx.mg (ofString "Trap")=some (.ref jZ)
theorem snd{cx:Cx}{n:Nat}(T:TopX cx):∀N,Snd cx n N
 |0=>Hm cx n |N+1=>Im T.toTopOk T.KO (snd T N)
section
variable{cx:Cx}{fm:Fm}{n N:Nat}
theorem Aa{sc:Sc}{x:Str}{i:Nat}(F:Fits cx sc fm)(h:nmOf sc x=some i):fm.nm[i]?=some x/\(fm.env.kindOf x=some .local∨(fm.env.kindOf x=some .cell/\fm.comp=false)):=by
 rw[F.nm,F.kd]
 induction hk:sc.kd.lookup x with
 |none=>rw[nmOf,hk] at h;exact nn0 h
 |some k=>
  rw[nmOf,hk] at h
  induction k with
  |«local»=>exact⟨mP h,.inl rfl⟩ |cell=>
   have q:oa (if sc.comp=true then none else ixOf x sc.nm 0) λi=>sc.nm[i]?=some x/\(some NameKind.cell=some .local∨some NameKind.cell=some .cell/\fm.comp=false):=
    ifO (λJ=>trivial) λhc=>Fv λi h=>⟨mP h,.inr ⟨rfl,F.comp.trans (Bool.eq_false_iff.mpr hc)⟩⟩
   exact(nW q h:)
  |_=>exact nn0 h
theorem wC{sc:Sc}(F:Fits cx sc fm)(ih:Snd cx n N):∀{ts:List Expr} {tgs:List Tg},wD sc N ts=some tgs->TGs cx fm n ts tgs
 | [],_,h=>by injection h with qz;subst qz;exact .nil
 |t::ts,tgs,h=>by
  refine kY h λa ha h=>?_
  refine mapS h λr hr z1z=>?_;obtain rfl:=z1z
  have hts:=wC F ih hr
  induction t using Expr.casesOn with
  |Name x p=>
   refine mapS ha λi hi z2z=>?_;obtain rfl:=z2z
   refine e02 (Aa F hi) λh1 h2=>?_
   exact .nm h1 h2 hts
  |Subscript o i p=>
   have q:oa (if Wh i=true then none else some (Tg.sub (erE sc N o) (erE sc N i))) λa=>TGs cx fm n (.Subscript o i p::ts) (a::r):=ifO (λJ=>trivial) λJ=>.sub (ih.e _ _ _ F).1 (ih.e _ _ _ F).1 hts
   exact(nW q ha:)
  |_=>exact nn0 ha
theorem Mc:∀{tgs:List Tg} {is:List Nat},tY tgs=some is->tgs=is.map Tg.nm
 | [],_,h=>by injection h with qz;subst qz;rfl
 |.nm i::r,is,h=>by
  refine mapS h λis' h1 z3z=>?_;obtain rfl:=z3z
  rw[Mc h1];rfl
theorem yL:∀(is:List Nat),tY (is.map Tg.nm)=some is
 | []=>rfl |i::is=>by show(tY (is.map Tg.nm)).map (i:: ·)=_;rw[yL is];rfl
theorem Xi{value:Expr}(h:¬Tl value=true):∀vs k p,value=.Tuple vs k p->vs.all (constantsAlone 8)=false:=λvs k p e=>by
 subst e;exact Bool.eq_false_iff.mpr h
theorem Qf{o:Option Expr}(e:Fa o=true):∃p,o=some (.Name (ofString "Trap") p):=
 kY (of_decide_eq_true e) λJ h1 h2=>e11 (uZ h2) λp h=>⟨p,h1.trans (congrArg some h)⟩
theorem Tm{s:Stmt}{e:Expr}:Zu s=some e->∃q,s=.Return (some e) q:=by
 induction s using Stmt.casesOn with
 |Return o q=>induction o with
  |none=>exact nn0 |some t=>intro h;injection h with qz;subst qz;exact⟨q,rfl⟩
 |_=>exact nn0
theorem Tj{s:Stmt}(e:Rf s=true):∃k p q,s=.Return (some (.Constant .none k p)) q:=
 kY (of_decide_eq_true e) λt h1 h2=>e21 (Wa h2) λk p h=>e11 (Tm h1) λq g=>⟨k,p,q,h▸g⟩
theorem Ga{h:ExceptHandler}(e:yQ h=true):∃px k pc pr pos,h=tP px k pc pr pos:=by
 obtain⟨o,nm,b,p⟩:=h
 induction nm with
 |some _=>exact ff0 e |none=>induction b using List.casesOn with
  |nil=>exact ff0 e |cons s r=>induction r using List.casesOn with
   |cons _ _=>exact ff0 e |nil=>
    have e:(Fa o&&Rf s)=true:=e;have⟨e1,e2⟩:=Bool.and_eq_true_iff.mp e;refine e11 (Qf e1) λpx z4z=>?_;obtain rfl:=z4z
    refine e31 (Tj e2) λk q r z5z=>?_;obtain rfl:=z5z
    exact⟨_,_,_,_,_,rfl⟩
structure Lq(cx:Cx)(sc:Sc)(fm:Fm):Prop extends Fits cx sc fm where
 fr:∃outer L,fm.fs=fm.env::outer/\fm.env.frame=some L
theorem Yl{sc:Sc}{value:Expr}{t:Str}{pos:Pos}(F:Fits cx sc fm)(h:Zl sc value t pos=true)(l:Nat):swapsWith value (some (.Name t pos)) l fm.env=pure true:=by
 induction value using Expr.casesOn with
 |ListComp elt gens scope p=>induction gens using List.casesOn with
  |nil=>exact ff0 h |cons g gens=>induction gens using List.casesOn with
   |cons _ _=>exact ff0 h |nil=>
    unfold swapsWith;dsimp only
    have hb:(fm.env.blockKind== .function)=true:=by
     unfold Env.blockKind;rw[F.kind];rfl
    rw[hb,F.kd,Bool.true_and];exact congrArg pure h
 |_=>exact ff0 h
theorem Lo{sc:Sc}{value:Expr}{y:Str}{py pos:Pos}{j:Nat}(T:TopX cx)(F:Fits cx sc fm)(hy:fm.nm[j]?=some y)(hk:fm.env.kindOf y=some .local)(hs:swapsWith value (some (.Name y py)) pos.line fm.env=pure true)(hB:Zl sc value y py=true):
 S1 cx fm n (.Assign [.Name y py] value pos) (.assign j (erE sc N value)):=by
 induction N using Nat.casesOn with
 |zero=>exact λJ J J J w=>w.elim |succ N=>
 have ih:Snd cx n N:=snd T N;have triv:S1 cx fm n (.Assign [.Name y py] value pos) (.assign j .bad):=λρ σ Q X w=>w.elim
 have single:∀(elt:Expr) (x:Str) (px:Pos) (iter:Expr) (ifs:List Expr) (scope:Scope) (spos:Pos) (i:Nat) (ic:IE),ixOf x sc.nm 0=some i->¬(sG iter=true∨qJ scope sc [i]=false∨scope.names.lookup x≠some .local)->
  (∀(so:oP scope fm.env fm.nm [i]) C,SI1 cx (cfm fm scope C) n ifs ic)->value=.ListComp elt [⟨.Name x px,iter,ifs,0⟩] scope spos->S1 cx fm n (.Assign [.Name y py] value pos) (.assign j (.comp (erE (inner scope sc) N elt) i (erI sc N iter) ic)):=by
  intro elt x px iter ifs scope spos i ic hi hc hci e;subst e;rw[not_or,not_or,eU] at hc;refine e03 hc λc1 c2 c3=>?_
  have c3:=eQ.mp c3;refine e02 (rL F c2) λso z6z=>?_
  have hx:=mP hi;rw[←F.nm] at hx
  refine S1.gather (tg:= [i]) (it:=erI sc N iter) (B:=λρ v σ acc k=>wpE (CTK cx n) ic (set ρ i v) σ (λc σ=>isB c λb=>if b=true then wpE (CTK cx n) (erE (inner scope sc) N elt) (set ρ i v) σ (λr σ=>acc.length+1<=lim/\k (acc++ [r]) σ) (λJ=>False) else k acc σ) λJ=>False)
   (λρ σ Q X w=>⟨λk hk=>by rw[aK.mp hk];exact w.1,w.2⟩)
   ⟨ih.i _ _ _ F,lM c1 _,so,hx,c3,iter.pos,λenv D=>sO ifs elt env (.ref D),λenv I D=>?_,λρ D C h0 CFx=>wM CFx (hci so C) (ih.e _ _ _ (F.inner so C)).1 (h0 i aE)⟩ hs hy hk
  rw[←Wu];rfl
 induction value using Expr.casesOn with
 |ListComp elt gens scope spos=>induction gens using List.casesOn with
  |nil=>exact ff0 hB |cons g gens=>induction gens using List.casesOn with
   |cons _ _=>exact ff0 hB |nil=>
    induction hg:gen1 g with
    |none=>
     show S1 cx fm n _ (.assign j (match gen1 g with|some (x,iter,ifs)=>_|none=>.bad))
     rw[hg];exact triv
    |some r=>
     refine e11 (uV hg) λq z7z=>?_;obtain rfl:=z7z
     obtain⟨x,iter,ifs⟩:=r;show S1 cx fm n _ (.assign j (match ixOf x sc.nm 0 with|some i=>_|none=>.bad))
     induction hi:ixOf x sc.nm 0 with
     |none=>exact triv |some i=>
      refine ifB (M:=λie=>S1 cx fm n _ (.assign j ie)) triv λhc=>?_
      induction ifs using List.casesOn with
      |nil=>exact single _ _ _ _ _ _ _ i _ hi hc (λJ J=>.none) rfl |cons c ifs=>induction ifs using List.casesOn with
       |nil=>exact single _ _ _ _ _ _ _ i _ hi hc (λso C=>.one (ih.e _ _ _ (F.inner so C)).2) rfl |cons _ _=>exact triv
 |_=>exact ff0 hB
end
end
section
open PySem.SeqAt
structure SndS(cx:Cx)(n N:Nat):Prop where
 s:∀sc fm st,Lq cx sc fm->S1 cx fm n st (erS sc N st)
 ss:∀sc fm st,Lq cx sc fm->Ss cx fm n st (erSs sc N st)
theorem Ej(cx:Cx)(n:Nat):SndS cx n 0:=⟨λJ J st J=>.bad st,λJ J J J J J J J w=>w.elim⟩
section
variable{cx:Cx}{fm:Fm}{n N:Nat}
theorem ifS{st:Stmt}{p:Prop}[Decidable p]{b:IS}(h0:S1 cx fm n st .bad)(h:¬p->S1 cx fm n st b):S1 cx fm n st (if p then .bad else b):=ifD (λJ=>h0) h
theorem ifU{st:Stmt}{p:Prop}[Decidable p]{b:IS}(h0:S1 cx fm n st .bad)(h:p->S1 cx fm n st b):S1 cx fm n st (if p then b else .bad):=ifD (P:=S1 cx fm n st) h λJ=>h0
theorem snd_a{sc:Sc}(T:TopX cx)(F:Fits cx sc fm)(tg value:Expr)(pos:Pos):S1 cx fm n (.Assign [tg] value pos) (erA sc N tg value):=by
 have ihE:Snd cx n N:=snd T N;have E:=λe=>(ihE.e sc fm e F).1
 induction tg using Expr.casesOn with
 |Name x p=>
  refine ifD (P:=S1 cx fm n _) (λJ=>ifU (.bad _) λhsw=>?_) λhc=>?_
  ·induction hj:ixOf x sc.nm 0 with
   |some j=>
    have hx:=mP hj;rw[←F.nm] at hx;exact Lo T F hx (by rw[F.kd];exact hsw.2) (Yl F hsw.1 _) hsw.1
   |none=>exact .bad _
  ·induction hi:nmOf sc x with
   |some i=>
    refine e02 (Aa F hi) λh1 h2=>?_
    exact .assign (lK hc _ _ _) h1 h2 (E _)
   |none=>exact .bad _
 |Subscript o i p=>
  refine ifS (.bad _) λhc=>?_
  show S1 cx fm n _ (match sOf i with|none=>_|some (lo,hi,none)=>_|_=>_)
  induction hi:sOf i with
  |none=>exact .setSub (lK hc _ _ _) (E _) (E _) (E _) |some r=>
   refine e11 (Qm hi) λq z1z=>?_;obtain rfl:=z1z
   obtain⟨lo,hi',st⟩:=r
   induction st with
   |none=>exact .setSli (lK hc _ _ _) (E _) (E _) (ihE.o _ _ _ F) (ihE.o _ _ _ F) |some _=>exact .bad _
 |Attribute o x p=>
  refine ifS (.bad _) λhc=>?_
  induction ha:atOf x with
  |some a=>
   have:=Ri ha;subst this;exact .setAttr T.toTopOk T.KO (lK hc _ _ _) (E _) (E _)
  |none=>exact .bad _
 |Tuple ts k p=>
  refine ifS (.bad _) λhc=>?_
  rw[not_or] at hc
  induction ht:wD sc N ts with
  |some tgs=>
   refine ifU (.bad _) λhnd=>.assignT (lK hc.1 _ _ _) (Xi hc.2) (λis e=>?_) (wC F ihE ht) (E _)
   subst e;unfold Kh at hnd;rw[yL] at hnd;exact of_decide_eq_true hnd
  |none=>exact .bad _
 |_=>exact .bad _
theorem snd_s{sc:Sc}(T:TopX cx)(ih:SndS cx n N)(F':Lq cx sc fm)(st:Stmt):S1 cx fm n st (erS sc (N+1) st):=by
 have F:=F'.toFits;have ihE:Snd cx n N:=snd T N;have E:=λe=>(ihE.e sc fm e F).1
 induction st using Stmt.casesOn with
 |Pass p=>exact .pass |Return o p=>induction o with
  |none=>exact .retNone |some e=>exact .ret (E _)
 |Expr e p=>
  exact ifS (.bad _) λhc=>.expr F.kind (λenv=>lK hc _ _ _) (E _)
 |If t a b p=>exact .iff (zI (ihE.e _ _ _ F)) (ih.ss _ _ _ F') (ih.ss _ _ _ F') |While t b o p=>induction o using List.casesOn with
  |nil=>exact .whl (zI (ihE.e _ _ _ F)) (ih.ss _ _ _ F') |cons _ _=>exact .bad _
 |For t iter b o p=>induction o using List.casesOn with
  |cons _ _=>exact .bad _ |nil=>
   refine ifS (.bad _) λhc=>?_
   induction t using Expr.casesOn with
   |Name x q=>
    show S1 cx fm n _ (match nmOf sc x with|some i=>_|none=>.bad)
    induction hi:nmOf sc x with
    |some i=>
     refine e02 (Aa F hi) λh1 h2=>?_
     exact .for (lM hc) (.one h1 h2) (ihE.i _ _ _ F) (ih.ss _ _ _ F')
    |none=>exact .bad _
   |Tuple ts k q=>
    show S1 cx fm n _ (match(wD sc N ts).bind tY with|some is=>_|none=>.bad)
    induction hi:(wD sc N ts).bind tY with
    |some is=>
     refine kY hi λtgs h1 h2=>?_
     have:=Mc h2;subst this;exact .for (lM hc) (.many (n:=n) (wC F ihE h1)) (ihE.i _ _ _ F) (ih.ss _ _ _ F')
    |none=>exact .bad _
   |_=>exact .bad _
 |AugAssign tg op e p=>
  show S1 cx fm n _ (match xW tg with|some x=>_|none=>.bad)
  induction hn:xW tg with
  |none=>exact .bad _ |some x=>
   refine e11 (uZ hn) λq z1z=>?_;obtain rfl:=z1z
   refine ifU (.bad _) λhc=>?_
   induction hi:ixOf x sc.nm 0 with
   |some i=>
    have hx:=mP hi;rw[←F.nm] at hx;exact .aug hx (by rw[F.kd];exact hc.1) (deb (by rw[hc.2];decide)).2 (E _)
   |none=>exact .bad _
 |Assign tgs value p=>induction tgs using List.casesOn with
  |nil=>exact .bad _ |cons tg r=>induction r using List.casesOn with
   |nil=>exact snd_a T F tg value p |cons _ _=>exact .bad _
 |Raise o c p=>induction c with
  |some _=>exact .bad _ |none=>
   show S1 cx fm n _ (match o.bind vA with|some (f,x)=>_|none=>.bad)
   induction hv:o.bind vA with
   |none=>exact .bad _ |some r=>
    refine kY hv λe z1z hv=>?_;obtain rfl:=z1z
    refine e11 (Kb hv) λq z2z=>?_;obtain rfl:=z2z
    refine ifU (.bad _) λhc=>?_
    have hf:=E r.1;rw[Pl hc.2.2] at hf;refine e21 T.TI λfd body TI=>?_
    exact .raise T.toTopOk TI T.noExc T.exc (zZ hc.1 _ _) (by rw[List.all_cons,hc.2.1];rfl) hf (E _)
 |Try b hs o f p=>induction hs using List.casesOn with
  |nil=>exact .bad _ |cons h hs=>induction hs using List.casesOn with
   |cons _ _=>exact .bad _ |nil=>induction o using List.casesOn with
    |cons _ _=>exact .bad _ |nil=>induction f using List.casesOn with
     |cons _ _=>exact .bad _ |nil=>
      refine ifU (.bad _) λhc=>?_
      refine e51 (Ga hc.1) λpx k pc pr hp z3z=>?_;obtain rfl:=z3z
      refine e21 T.TI λfd body TI=>?_
      refine e22 F'.fr λouter L h1 h2=>?_
      exact .try_ T.toTopOk TI h1 h2 (by rw[F.kd];exact hc.2) T.trap (ih.ss _ _ _ F')
 |_=>exact .bad _
theorem Fj(T:TopX cx)(ih:SndS cx n N):SndS cx n (N+1) where
 ss sc fm st F:=by
  induction st using List.casesOn with
  |nil=>exact .nil |cons s r=>exact .cons (ih.s _ _ _ F) (ih.ss _ _ _ F)
 s sc fm st F':=snd_s T ih F' st
theorem sndS(T:TopX cx):∀N,SndS cx n N
 |0=>Ej cx n |N+1=>Fj T (sndS T N)
end
structure Fn(cx:Cx)(f:Addr)(fd:FuncData)(body:List Stmt)(ps rest:List Str)(nd:Nat)(gt:List (Str×V))(ib:ISs):Prop where
 fin:Yd cx.K f fd body ps nd
 nod:(ps++rest).Nodup
 glo:∀x v,gt.lookup x=some v->GV cx x v
 rd:erSs {nm:=ps++rest,kd:=fd.scope.names,gt:=gt,comp:=false} 60 body=ib
theorem Fn.body{cx:Cx}{f:Addr}{fd:FuncData}{body:List Stmt}{ps rest:List Str}{nd:Nat}{gt:List (Str×V)}{ib:ISs}(T:TopX cx)(F:Fn cx f fd body ps rest nd gt ib)(n:Nat)(L:Addr)(fs:List Env):Ss cx (ffm fd (ps++rest) L f fs) n body ib:=by
 rw[←F.rd];exact(sndS T 60).ss _ _ _ ⟨⟨rfl,λJ=>rfl,rfl,F.fin.kind,F.glo⟩,fs,L,rfl,rfl⟩
theorem Fn.ct{cx:Cx}{n:Nat}{f:Addr}{fd:FuncData}{body:List Stmt}{ps rest:List Str}{gt:List (Str×V)}{ib:ISs}{us:List V}{σ:H}{Q:QV}{X:XH}(T:TopX cx)(F:Fn cx f fd body ps rest 0 gt ib)(hus:us.length=ps.length)
 (w:wpSs (CTK cx n) ib (rho0 us rest.length) σ (λfl J σ=>match fl with|.ret v=>Q v σ|.next=>Q .none σ|_=>False) (λJ σ=>X σ)):CT cx (n+2) f us σ Q X:=
 fn_ct T.toTopOk F.fin rfl F.nod hus (λL fs=>F.body T n L fs) w
end
noncomputable def gtab:List (Str×V):=
 [(ofString "I32_EQZ",.int 69),
  (ofString "I32_EQ",.int 70),
  (ofString "I64_EQZ",.int 80),
  (ofString "I64_EQ",.int 81),
  (ofString "I32_CLZ",.int 103),
  (ofString "I32_ADD",.int 106),
  (ofString "I64_CLZ",.int 121),
  (ofString "I64_ADD",.int 124),
  (ofString "WRAP",.int 167),
  (ofString "EXTEND_S",.int 172),
  (ofString "EXTEND_U",.int 173),
  (ofString "I32_EXTEND8",.int 192),
  (ofString "I64_EXTEND8",.int 194),
  (ofString "BLOCK",.int 2),
  (ofString "LOOP",.int 3),
  (ofString "IF",.int 4),
  (ofString "ELSE",.int 5),
  (ofString "END",.int 11),
  (ofString "BR",.int 12),
  (ofString "BR_IF",.int 13),
  (ofString "BR_TABLE",.int 14),
  (ofString "DROP",.int 26),
  (ofString "SELECT",.int 27),
  (ofString "SELECT_KINDS",.int 28),
  (ofString "LOCAL_GET",.int 32),
  (ofString "GLOBAL_GET",.int 35),
  (ofString "MEMORY_SIZE",.int 63),
  (ofString "I32_CONST",.int 65),
  (ofString "I64_CONST",.int 66),
  (ofString "REF_NULL",.int 208),
  (ofString "REF_FUNC",.int 210),
  (ofString "TABLE_SIZE",.int 64528),
  (ofString "unsigned",.raw (.ref 65)),
  (ofString "signed",.raw (.ref 72)),
  (ofString "least_signed",.raw (.ref 79)),
  (ofString "widened",.raw (.ref 86)),
  (ofString "eqz",.raw (.ref 93)),
  (ofString "clz",.raw (.ref 100)),
  (ofString "ctz",.raw (.ref 107)),
  (ofString "popcnt",.raw (.ref 114)),
  (ofString "add",.raw (.ref 121)),
  (ofString "sub",.raw (.ref 128)),
  (ofString "mul",.raw (.ref 135)),
  (ofString "toward_nought",.raw (.ref 142)),
  (ofString "div_s",.raw (.ref 149)),
  (ofString "div_u",.raw (.ref 156)),
  (ofString "rem_s",.raw (.ref 163)),
  (ofString "rem_u",.raw (.ref 170)),
  (ofString "bits_and",.raw (.ref 177)),
  (ofString "bits_or",.raw (.ref 184)),
  (ofString "bits_xor",.raw (.ref 191)),
  (ofString "shl",.raw (.ref 198)),
  (ofString "shr_s",.raw (.ref 205)),
  (ofString "shr_u",.raw (.ref 212)),
  (ofString "rotl",.raw (.ref 219)),
  (ofString "rotr",.raw (.ref 226)),
  (ofString "eq",.raw (.ref 233)),
  (ofString "ne",.raw (.ref 240)),
  (ofString "lt_s",.raw (.ref 247)),
  (ofString "lt_u",.raw (.ref 254)),
  (ofString "gt_s",.raw (.ref 261)),
  (ofString "gt_u",.raw (.ref 268)),
  (ofString "le_s",.raw (.ref 275)),
  (ofString "le_u",.raw (.ref 282)),
  (ofString "ge_s",.raw (.ref 289)),
  (ofString "ge_u",.raw (.ref 296)),
  (ofString "place_in",.raw (.ref 306)),
  (ofString "narrow_of",.raw (.ref 313)),
  (ofString "is_unary",.raw (.ref 320)),
  (ofString "is_binary",.raw (.ref 327)),
  (ofString "reckon1",.raw (.ref 334)),
  (ofString "reckon2",.raw (.ref 341)),
  (ofString "Piece",.raw (.ref 379)),
  (ofString "pieces_of",.raw (.ref 390)),
  (ofString "put_pieces",.raw (.ref 397)),
  (ofString "body_of",.raw (.ref 404)),
  (ofString "neutral_of",.raw (.ref 412)),
  (ofString "constant_of",.raw (.ref 419)),
  (ofString "constant",.raw (.ref 426)),
  (ofString "widths_of",.raw (.ref 433)),
  (ofString "reckoned",.raw (.ref 438)),
  (ofString "fold_number",.raw (.ref 443)),
  (ofString "chosen_label",.raw (.ref 450)),
  (ofString "fold_select",.raw (.ref 457)),
  (ofString "fold_choice",.raw (.ref 464)),
  (ofString "fold_last",.raw (.ref 471)),
  (ofString "fold_pieces",.raw (.ref 478)),
  (ofString "folded",.raw (.ref 485)),
  (ofString "_law_op",.raw (.ref 492)),
  (ofString "_law_code",.raw (.ref 499)),
  (ofString "_law_idle",.raw (.ref 507)),
  (ofString "_law_round",.raw (.ref 515)),
  (ofString "_law_one",.raw (.ref 520)),
  (ofString "_law_parted",.raw (.ref 527)),
  (ofString "_law_two",.raw (.ref 534)),
  (ofString "_law_sum",.raw (.ref 541)),
  (ofString "_law_sides",.raw (.ref 548)),
  (ofString "_law_folded",.raw (.ref 555)),
  (ofString "_law_leaf",.raw (.ref 562)),
  (ofString "_law_do",.raw (.ref 569)),
  (ofString "_law_carried",.raw (.ref 576)),
  (ofString "_law_shut",.raw (.ref 581)),
  (ofString "_law_end",.raw (.ref 588)),
  (ofString "_law_branch",.raw (.ref 593)),
  (ofString "_law_turn",.raw (.ref 600)),
  (ofString "law",.raw (.ref 605)),
  (ofString "Trap",.raw (.ref 44)),
  (ofString "Misused",.raw (.ref 56)),
  (ofString "WasmFault",.raw (.ref 31)),
  (ofString "DIVIDE_BY_ZERO",.str (ofString "integer divide by zero")),
  (ofString "OVERFLOW",.str (ofString "integer overflow")),
  (ofString "COUNTS",.tup [.raw (.ref 100),.raw (.ref 107),.raw (.ref 114)]),
  (ofString "COMPARES",.tup [.raw (.ref 233),.raw (.ref 240),.raw (.ref 247),.raw (.ref 254),.raw (.ref 261),.raw (.ref 268),.raw (.ref 275),.raw (.ref 282),.raw (.ref 289),.raw (.ref 296)]),
  (ofString "REST",.tup [.raw (.ref 121),.raw (.ref 128),.raw (.ref 135),.raw (.ref 149),.raw (.ref 156),.raw (.ref 163),.raw (.ref 170),.raw (.ref 177),.raw (.ref 184),.raw (.ref 191),.raw (.ref 198),.raw (.ref 205),.raw (.ref 212),.raw (.ref 219),.raw (.ref 226)]),
  (ofString "PUTS",.tup [.int 32,.int 35,.int 65,.int 66,.int 63,.int 64528,.int 208,.int 210]),
  (ofString "_law_puts",.tup [.int 32,.int 35,.int 63,.int 65,.int 66,.int 208,.int 210,.int 64528]),
  (ofString "_law_single",.tup [.str (ofString "eqz"),.str (ofString "clz"),.str (ofString "ctz"),.str (ofString "popcnt"),.str (ofString "wrap"),.str (ofString "wide"),.str (ofString "spread8"),.str (ofString "spread16"),.str (ofString "spread32")]),
  (ofString "len",.raw (.builtin "len")),
  (ofString "abs",.raw (.builtin "abs")),
  (ofString "sum",.raw (.builtin "sum")),
  (ofString "max",.raw (.builtin "max")),
  (ofString "min",.raw (.builtin "min")),
  (ofString "any",.raw (.builtin "any")),
  (ofString "isinstance",.raw (.builtin "isinstance")),
  (ofString "list",.raw (.type "list")),
  (ofString "range",.raw (.type "range")),
  (ofString "bool",.raw (.type "bool"))]
noncomputable abbrev ib_pinit:ISs:=(iss [(.setAttr (.loc 0) .plain (.loc 1)),
 (.setAttr (.loc 0) .first (.loc 2)),
 (.setAttr (.loc 0) .second (.loc 3))])
noncomputable abbrev ib_code:ISs:=(iss [(.ret (.sub (.attr (.loc 0) .plain) (.val (.int 0))))])
noncomputable abbrev ib_parts:ISs:=(iss [(.ret (.comp (.loc 1) 1 (.of (.tup (ies [(.attr (.loc 0) .first),(.attr (.loc 0) .second)]))) (.cmp (.loc 1) .IsNot (.val .none))))])
noncomputable abbrev ib_labels:ISs:=(iss [(.ret (.ite (.cmp (.prop (.loc 0) 363) .In (.tup (ies [(.val (.int 12)),(.val (.int 13)),(.val (.int 14))]))) (.sli (.attr (.loc 0) .plain) (.val (.int 1)) (.val .none)) (.tup (ies []))))])
noncomputable abbrev ib_unsigned:ISs:=(iss [(.ret (.bin .BitAnd (.loc 0) (.bin .Sub (.bin .LShift (.val (.int 1)) (.loc 1)) (.val (.int 1)))))])
noncomputable abbrev ib_signed:ISs:=(iss [(.ret (.ite (.truth (.bin .RShift (.loc 0) (.bin .Sub (.loc 1) (.val (.int 1))))) (.bin .Sub (.loc 0) (.bin .LShift (.val (.int 1)) (.loc 1))) (.loc 0)))])
noncomputable abbrev ib_least_signed:ISs:=(iss [(.ret (.neg (.bin .LShift (.val (.int 1)) (.bin .Sub (.loc 0) (.val (.int 1))))))])
noncomputable abbrev ib_widened:ISs:=(iss [(.ret (.call (.val (.raw (.ref 65))) (ies [(.call (.val (.raw (.ref 72))) (ies [(.call (.val (.raw (.ref 65))) (ies [(.loc 0),(.loc 1)])),(.loc 1)])),(.loc 2)])))])
noncomputable abbrev ib_eqz:ISs:=(iss [(.ret (.ite (.cmp (.loc 0) .Eq (.val (.int 0))) (.val (.int 1)) (.val (.int 0))))])
noncomputable abbrev ib_clz:ISs:=(iss [(.iff (.cmp (.loc 0) .Eq (.val (.int 0))) (iss [(.ret (.loc 1))]) (iss [])),
 (.assign 2 (.val (.int 0))),
 (.assign 3 (.bin .RShift (.loc 1) (.val (.int 1)))),
 (.whl (.cmp (.loc 3) .Gt (.val (.int 0))) (iss [(.iff (.cmp (.bin .RShift (.loc 0) (.bin .Sub (.loc 1) (.loc 3))) .Eq (.val (.int 0))) (iss [(.aug 2 .Add (.loc 3)),
 (.assign 0 (.call (.val (.raw (.ref 65))) (ies [(.bin .LShift (.loc 0) (.loc 3)),(.loc 1)])))]) (iss [])),
 (.aug 3 .RShift (.val (.int 1)))])),
 (.ret (.loc 2))])
noncomputable abbrev ib_ctz:ISs:=(iss [(.iff (.cmp (.loc 0) .Eq (.val (.int 0))) (iss [(.ret (.loc 1))]) (iss [])),
 (.assign 2 (.val (.int 0))),
 (.assign 3 (.bin .RShift (.loc 1) (.val (.int 1)))),
 (.whl (.cmp (.loc 3) .Gt (.val (.int 0))) (iss [(.iff (.cmp (.call (.val (.raw (.ref 65))) (ies [(.loc 0),(.loc 3)])) .Eq (.val (.int 0))) (iss [(.aug 2 .Add (.loc 3)),
 (.aug 0 .RShift (.loc 3))]) (iss [])),
 (.aug 3 .RShift (.val (.int 1)))])),
 (.ret (.loc 2))])
noncomputable abbrev ib_popcnt:ISs:=(iss [(.assign 2 (.val (.int 0))),
 (.whl (.cmp (.loc 0) .NotEq (.val (.int 0))) (iss [(.aug 0 .BitAnd (.bin .Sub (.loc 0) (.val (.int 1)))),
 (.aug 2 .Add (.val (.int 1)))])),
 (.ret (.loc 2))])
noncomputable abbrev ib_add:ISs:=(iss [(.ret (.call (.val (.raw (.ref 65))) (ies [(.bin .Add (.loc 0) (.loc 1)),(.loc 2)])))])
noncomputable abbrev ib_sub:ISs:=(iss [(.ret (.call (.val (.raw (.ref 65))) (ies [(.bin .Sub (.loc 0) (.loc 1)),(.loc 2)])))])
noncomputable abbrev ib_mul:ISs:=(iss [(.ret (.call (.val (.raw (.ref 65))) (ies [(.bin .Mult (.loc 0) (.loc 1)),(.loc 2)])))])
noncomputable abbrev ib_toward_nought:ISs:=(iss [(.assign 2 (.bin .FloorDiv (.bi .abs (ies [(.loc 0)])) (.bi .abs (ies [(.loc 1)])))),
 (.ret (.ite (.cmp (.cmp (.loc 0) .Lt (.val (.int 0))) .Eq (.cmp (.loc 1) .Lt (.val (.int 0)))) (.loc 2) (.neg (.loc 2))))])
noncomputable abbrev ib_div_s:ISs:=(iss [(.iff (.cmp (.loc 1) .Eq (.val (.int 0))) (iss [(.raise 44 (.val (.str (ofString "integer divide by zero"))))]) (iss [])),
 (.assignT [(.nm 3),(.nm 4)] (.tup (ies [(.call (.val (.raw (.ref 72))) (ies [(.loc 0),(.loc 2)])),(.call (.val (.raw (.ref 72))) (ies [(.loc 1),(.loc 2)]))]))),
 (.iff (.and (.cmp (.loc 3) .Eq (.call (.val (.raw (.ref 79))) (ies [(.loc 2)]))) (.cmp (.loc 4) .Eq (.neg (.val (.int 1))))) (iss [(.raise 44 (.val (.str (ofString "integer overflow"))))]) (iss [])),
 (.ret (.call (.val (.raw (.ref 65))) (ies [(.call (.val (.raw (.ref 142))) (ies [(.loc 3),(.loc 4)])),(.loc 2)])))])
noncomputable abbrev ib_div_u:ISs:=(iss [(.iff (.cmp (.loc 1) .Eq (.val (.int 0))) (iss [(.raise 44 (.val (.str (ofString "integer divide by zero"))))]) (iss [])),
 (.ret (.bin .FloorDiv (.loc 0) (.loc 1)))])
noncomputable abbrev ib_rem_s:ISs:=(iss [(.iff (.cmp (.loc 1) .Eq (.val (.int 0))) (iss [(.raise 44 (.val (.str (ofString "integer divide by zero"))))]) (iss [])),
 (.assignT [(.nm 3),(.nm 4)] (.tup (ies [(.call (.val (.raw (.ref 72))) (ies [(.loc 0),(.loc 2)])),(.call (.val (.raw (.ref 72))) (ies [(.loc 1),(.loc 2)]))]))),
 (.ret (.call (.val (.raw (.ref 65))) (ies [(.bin .Sub (.loc 3) (.bin .Mult (.loc 4) (.call (.val (.raw (.ref 142))) (ies [(.loc 3),(.loc 4)])))),(.loc 2)])))])
noncomputable abbrev ib_rem_u:ISs:=(iss [(.iff (.cmp (.loc 1) .Eq (.val (.int 0))) (iss [(.raise 44 (.val (.str (ofString "integer divide by zero"))))]) (iss [])),
 (.ret (.bin .Mod (.loc 0) (.loc 1)))])
noncomputable abbrev ib_bits_and:ISs:=(iss [(.ret (.bin .BitAnd (.loc 0) (.loc 1)))])
noncomputable abbrev ib_bits_or:ISs:=(iss [(.ret (.bin .BitOr (.loc 0) (.loc 1)))])
noncomputable abbrev ib_bits_xor:ISs:=(iss [(.ret (.bin .BitXor (.loc 0) (.loc 1)))])
noncomputable abbrev ib_shl:ISs:=(iss [(.ret (.call (.val (.raw (.ref 65))) (ies [(.bin .LShift (.loc 0) (.bin .Mod (.loc 1) (.loc 2))),(.loc 2)])))])
noncomputable abbrev ib_shr_s:ISs:=(iss [(.ret (.call (.val (.raw (.ref 65))) (ies [(.bin .RShift (.call (.val (.raw (.ref 72))) (ies [(.loc 0),(.loc 2)])) (.bin .Mod (.loc 1) (.loc 2))),(.loc 2)])))])
noncomputable abbrev ib_shr_u:ISs:=(iss [(.ret (.bin .RShift (.loc 0) (.bin .Mod (.loc 1) (.loc 2))))])
noncomputable abbrev ib_rotl:ISs:=(iss [(.assign 3 (.bin .Mod (.loc 1) (.loc 2))),
 (.ret (.bin .BitOr (.call (.val (.raw (.ref 65))) (ies [(.bin .LShift (.loc 0) (.loc 3)),(.loc 2)])) (.bin .RShift (.loc 0) (.bin .Sub (.loc 2) (.loc 3)))))])
noncomputable abbrev ib_rotr:ISs:=(iss [(.ret (.call (.val (.raw (.ref 219))) (ies [(.loc 0),(.bin .Sub (.loc 2) (.bin .Mod (.loc 1) (.loc 2))),(.loc 2)])))])
noncomputable abbrev ib_eq:ISs:=(iss [(.ret (.ite (.cmp (.loc 0) .Eq (.loc 1)) (.val (.int 1)) (.val (.int 0))))])
noncomputable abbrev ib_ne:ISs:=(iss [(.ret (.ite (.cmp (.loc 0) .NotEq (.loc 1)) (.val (.int 1)) (.val (.int 0))))])
noncomputable abbrev ib_lt_s:ISs:=(iss [(.ret (.ite (.cmp (.call (.val (.raw (.ref 72))) (ies [(.loc 0),(.loc 2)])) .Lt (.call (.val (.raw (.ref 72))) (ies [(.loc 1),(.loc 2)]))) (.val (.int 1)) (.val (.int 0))))])
noncomputable abbrev ib_lt_u:ISs:=(iss [(.ret (.ite (.cmp (.loc 0) .Lt (.loc 1)) (.val (.int 1)) (.val (.int 0))))])
noncomputable abbrev ib_gt_s:ISs:=(iss [(.ret (.call (.val (.raw (.ref 247))) (ies [(.loc 1),(.loc 0),(.loc 2)])))])
noncomputable abbrev ib_gt_u:ISs:=(iss [(.ret (.call (.val (.raw (.ref 254))) (ies [(.loc 1),(.loc 0),(.loc 2)])))])
noncomputable abbrev ib_le_s:ISs:=(iss [(.ret (.bin .Sub (.val (.int 1)) (.call (.val (.raw (.ref 247))) (ies [(.loc 1),(.loc 0),(.loc 2)]))))])
noncomputable abbrev ib_le_u:ISs:=(iss [(.ret (.bin .Sub (.val (.int 1)) (.call (.val (.raw (.ref 254))) (ies [(.loc 1),(.loc 0),(.loc 2)]))))])
noncomputable abbrev ib_ge_s:ISs:=(iss [(.ret (.bin .Sub (.val (.int 1)) (.call (.val (.raw (.ref 247))) (ies [(.loc 0),(.loc 1),(.loc 2)]))))])
noncomputable abbrev ib_ge_u:ISs:=(iss [(.ret (.bin .Sub (.val (.int 1)) (.call (.val (.raw (.ref 254))) (ies [(.loc 0),(.loc 1),(.loc 2)]))))])
noncomputable abbrev ib_place_in:ISs:=(iss [(.iff (.cmp2 (.loc 1) .LtE (.loc 0) .Lt (.bin .Add (.loc 1) (.loc 3))) (iss [(.ret (.tup (ies [(.bin .Sub (.loc 0) (.loc 1)),(.val (.int 32))])))]) (iss [])),
 (.iff (.cmp2 (.loc 2) .LtE (.loc 0) .Lt (.bin .Add (.loc 2) (.loc 3))) (iss [(.ret (.tup (ies [(.bin .Sub (.loc 0) (.loc 2)),(.val (.int 64))])))]) (iss [])),
 (.ret (.val .none))])
noncomputable abbrev ib_narrow_of:ISs:=(iss [(.iff (.cmp2 (.val (.int 192)) .LtE (.loc 0) .Lt (.val (.int 194))) (iss [(.ret (.tup (ies [(.bin .LShift (.val (.int 8)) (.bin .Sub (.loc 0) (.val (.int 192)))),(.val (.int 32))])))]) (iss [])),
 (.iff (.cmp2 (.val (.int 194)) .LtE (.loc 0) .Lt (.bin .Add (.val (.int 194)) (.val (.int 3)))) (iss [(.ret (.tup (ies [(.bin .LShift (.val (.int 8)) (.bin .Sub (.loc 0) (.val (.int 194)))),(.val (.int 64))])))]) (iss [])),
 (.ret (.ite (.cmp (.loc 0) .Eq (.val (.int 172))) (.tup (ies [(.val (.int 32)),(.val (.int 64))])) (.val .none)))])
noncomputable abbrev ib_is_unary:ISs:=(iss [(.iff (.cmp (.loc 0) .In (.tup (ies [(.val (.int 69)),(.val (.int 80)),(.val (.int 167)),(.val (.int 173))]))) (iss [(.ret (.val (.bool .true)))]) (iss [])),
 (.ret (.or (.cmp (.call (.val (.raw (.ref 306))) (ies [(.loc 0),(.val (.int 103)),(.val (.int 121)),(.bi .len (ies [(.val (.tup [(.raw (.ref 100)),(.raw (.ref 107)),(.raw (.ref 114))]))]))])) .IsNot (.val .none)) (.cmp (.call (.val (.raw (.ref 313))) (ies [(.loc 0)])) .IsNot (.val .none))))])
noncomputable abbrev ib_is_binary:ISs:=(iss [(.iff (.cmp (.call (.val (.raw (.ref 306))) (ies [(.loc 0),(.val (.int 70)),(.val (.int 81)),(.bi .len (ies [(.val (.tup [(.raw (.ref 233)),(.raw (.ref 240)),(.raw (.ref 247)),(.raw (.ref 254)),(.raw (.ref 261)),(.raw (.ref 268)),(.raw (.ref 275)),(.raw (.ref 282)),(.raw (.ref 289)),(.raw (.ref 296))]))]))])) .IsNot (.val .none)) (iss [(.ret (.val (.bool .true)))]) (iss [])),
 (.ret (.cmp (.call (.val (.raw (.ref 306))) (ies [(.loc 0),(.val (.int 106)),(.val (.int 124)),(.bi .len (ies [(.val (.tup [(.raw (.ref 121)),(.raw (.ref 128)),(.raw (.ref 135)),(.raw (.ref 149)),(.raw (.ref 156)),(.raw (.ref 163)),(.raw (.ref 170)),(.raw (.ref 177)),(.raw (.ref 184)),(.raw (.ref 191)),(.raw (.ref 198)),(.raw (.ref 205)),(.raw (.ref 212)),(.raw (.ref 219)),(.raw (.ref 226))]))]))])) .IsNot (.val .none)))])
noncomputable abbrev ib_reckon1:ISs:=(iss [(.iff (.or (.cmp (.loc 0) .Eq (.val (.int 69))) (.cmp (.loc 0) .Eq (.val (.int 80)))) (iss [(.ret (.call (.val (.raw (.ref 93))) (ies [(.loc 1),(.val (.int 32))])))]) (iss [])),
 (.iff (.cmp (.loc 0) .Eq (.val (.int 167))) (iss [(.ret (.call (.val (.raw (.ref 65))) (ies [(.loc 1),(.val (.int 32))])))]) (iss [])),
 (.iff (.cmp (.loc 0) .Eq (.val (.int 173))) (iss [(.ret (.loc 1))]) (iss [])),
 (.assign 2 (.call (.val (.raw (.ref 306))) (ies [(.loc 0),(.val (.int 103)),(.val (.int 121)),(.bi .len (ies [(.val (.tup [(.raw (.ref 100)),(.raw (.ref 107)),(.raw (.ref 114))]))]))]))),
 (.iff (.cmp (.loc 2) .IsNot (.val .none)) (iss [(.ret (.call (.sub (.val (.tup [(.raw (.ref 100)),(.raw (.ref 107)),(.raw (.ref 114))])) (.sub (.loc 2) (.val (.int 0)))) (ies [(.loc 1),(.sub (.loc 2) (.val (.int 1)))])))]) (iss [])),
 (.assign 3 (.call (.val (.raw (.ref 313))) (ies [(.loc 0)]))),
 (.iff (.cmp (.loc 3) .Is (.val .none)) (iss [.bad]) (iss [])),
 (.ret (.call (.val (.raw (.ref 86))) (ies [(.loc 1),(.sub (.loc 3) (.val (.int 0))),(.sub (.loc 3) (.val (.int 1)))])))])
noncomputable abbrev ib_reckon2:ISs:=(iss [(.assign 3 (.call (.val (.raw (.ref 306))) (ies [(.loc 0),(.val (.int 106)),(.val (.int 124)),(.bi .len (ies [(.val (.tup [(.raw (.ref 121)),(.raw (.ref 128)),(.raw (.ref 135)),(.raw (.ref 149)),(.raw (.ref 156)),(.raw (.ref 163)),(.raw (.ref 170)),(.raw (.ref 177)),(.raw (.ref 184)),(.raw (.ref 191)),(.raw (.ref 198)),(.raw (.ref 205)),(.raw (.ref 212)),(.raw (.ref 219)),(.raw (.ref 226))]))]))]))),
 (.iff (.cmp (.loc 3) .IsNot (.val .none)) (iss [(.ret (.call (.sub (.val (.tup [(.raw (.ref 121)),(.raw (.ref 128)),(.raw (.ref 135)),(.raw (.ref 149)),(.raw (.ref 156)),(.raw (.ref 163)),(.raw (.ref 170)),(.raw (.ref 177)),(.raw (.ref 184)),(.raw (.ref 191)),(.raw (.ref 198)),(.raw (.ref 205)),(.raw (.ref 212)),(.raw (.ref 219)),(.raw (.ref 226))])) (.sub (.loc 3) (.val (.int 0)))) (ies [(.loc 1),(.loc 2),(.sub (.loc 3) (.val (.int 1)))])))]) (iss [])),
 (.assign 3 (.call (.val (.raw (.ref 306))) (ies [(.loc 0),(.val (.int 70)),(.val (.int 81)),(.bi .len (ies [(.val (.tup [(.raw (.ref 233)),(.raw (.ref 240)),(.raw (.ref 247)),(.raw (.ref 254)),(.raw (.ref 261)),(.raw (.ref 268)),(.raw (.ref 275)),(.raw (.ref 282)),(.raw (.ref 289)),(.raw (.ref 296))]))]))]))),
 (.iff (.cmp (.loc 3) .Is (.val .none)) (iss [.bad]) (iss [])),
 (.ret (.call (.sub (.val (.tup [(.raw (.ref 233)),(.raw (.ref 240)),(.raw (.ref 247)),(.raw (.ref 254)),(.raw (.ref 261)),(.raw (.ref 268)),(.raw (.ref 275)),(.raw (.ref 282)),(.raw (.ref 289)),(.raw (.ref 296))])) (.sub (.loc 3) (.val (.int 0)))) (ies [(.loc 1),(.loc 2),(.sub (.loc 3) (.val (.int 1)))])))])
noncomputable abbrev ib_pieces_of:ISs:=(iss [(.assignT [(.nm 1),(.nm 2)] (.tup (ies [(.lst (ies [])),(.lst (ies []))]))),
 (.for_ (.one 3) (.of (.sli (.loc 0) (.val .none) (.bin .Sub (.bi .len (ies [(.loc 0)])) (.val (.int 1))))) (iss [(.iff (.cmp (.sub (.loc 3) (.val (.int 0))) .In (.tup (ies [(.val (.int 2)),(.val (.int 3)),(.val (.int 4))]))) (iss [(.assign 4 (.call (.val (.raw (.ref 379))) (ies [(.loc 3),(.lst (ies []))]))),
 (.expr (.meth (.loc 1) .append (ies [(.loc 4)]))),
 (.expr (.meth (.loc 2) .append (ies [(.tup (ies [(.loc 4),(.loc 1)]))]))),
 (.assign 1 (.attr (.loc 4) .first))]) (iss [(.iff (.cmp (.sub (.loc 3) (.val (.int 0))) .Eq (.val (.int 5))) (iss [(.assign 4 (.sub (.sub (.loc 2) (.neg (.val (.int 1)))) (.val (.int 0)))),
 (.setAttr (.loc 4) .second (.lst (ies []))),
 (.assign 1 (.attr (.loc 4) .second))]) (iss [(.iff (.cmp (.sub (.loc 3) (.val (.int 0))) .Eq (.val (.int 11))) (iss [(.assignT [(.nm 4),(.nm 1)] (.meth (.loc 2) .pop (ies [])))]) (iss [(.expr (.meth (.loc 1) .append (ies [(.call (.val (.raw (.ref 379))) (ies [(.loc 3)]))])))]))]))]))])),
 (.ret (.loc 1))])
noncomputable abbrev ib_put_pieces:ISs:=(iss [(.for_ (.one 2) (.of (.loc 0)) (iss [(.expr (.meth (.loc 1) .append (ies [(.attr (.loc 2) .plain)]))),
 (.iff (.cmp (.attr (.loc 2) .first) .IsNot (.val .none)) (iss [(.expr (.call (.val (.raw (.ref 397))) (ies [(.attr (.loc 2) .first),(.loc 1)]))),
 (.iff (.cmp (.attr (.loc 2) .second) .IsNot (.val .none)) (iss [(.expr (.meth (.loc 1) .append (ies [(.tup (ies [(.val (.int 5))]))]))),
 (.expr (.call (.val (.raw (.ref 397))) (ies [(.attr (.loc 2) .second),(.loc 1)])))]) (iss [])),
 (.expr (.meth (.loc 1) .append (ies [(.tup (ies [(.val (.int 11))]))])))]) (iss []))]))])
noncomputable abbrev ib_body_of:ISs:=(iss [(.assign 1 (.lst (ies []))),
 (.expr (.call (.val (.raw (.ref 397))) (ies [(.loc 0),(.loc 1)]))),
 (.expr (.meth (.loc 1) .append (ies [(.tup (ies [(.val (.int 11))]))]))),
 (.ret (.loc 1))])
noncomputable abbrev ib_neutral_of:ISs:=(iss [(.assign 1 (.ite (.cmp2 (.val (.int 121)) .LtE (.loc 0) .LtE (.val (.int 138))) (.bin .Sub (.loc 0) (.val (.int 18))) (.loc 0))),
 (.iff (.or (.cmp (.loc 1) .In (.tup (ies [(.val (.int 106)),(.val (.int 107))]))) (.cmp2 (.val (.int 114)) .LtE (.loc 1) .LtE (.val (.int 120)))) (iss [(.ret (.val (.int 0)))]) (iss [])),
 (.iff (.cmp2 (.val (.int 108)) .LtE (.loc 1) .LtE (.val (.int 110))) (iss [(.ret (.val (.int 1)))]) (iss [])),
 (.ret (.ite (.cmp (.loc 1) .Eq (.val (.int 113))) (.neg (.val (.int 1))) (.val .none)))])
noncomputable abbrev ib_constant_of:ISs:=(iss [(.ret (.ite (.cmp (.prop (.loc 0) 363) .In (.tup (ies [(.val (.int 65)),(.val (.int 66))]))) (.sub (.attr (.loc 0) .plain) (.val (.int 1))) (.val .none)))])
noncomputable abbrev ib_constant:ISs:=(iss [(.ret (.call (.val (.raw (.ref 379))) (ies [(.tup (ies [(.ite (.cmp (.loc 0) .Eq (.val (.int 32))) (.val (.int 65)) (.val (.int 66))),(.call (.val (.raw (.ref 72))) (ies [(.loc 1),(.loc 0)]))]))])))])
noncomputable abbrev ib_widths_of:ISs:=(iss [(.iff (.cmp (.loc 0) .Eq (.val (.int 167))) (iss [(.ret (.tup (ies [(.val (.int 64)),(.val (.int 32))])))]) (iss [])),
 (.iff (.cmp (.loc 0) .In (.tup (ies [(.val (.int 172)),(.val (.int 173))]))) (iss [(.ret (.tup (ies [(.val (.int 32)),(.val (.int 64))])))]) (iss [])),
 (.assign 1 (.ite (.or (.cmp2 (.val (.int 80)) .LtE (.loc 0) .LtE (.val (.int 90))) (.or (.cmp2 (.val (.int 121)) .LtE (.loc 0) .LtE (.val (.int 138))) (.cmp (.loc 0) .GtE (.val (.int 194))))) (.val (.int 64)) (.val (.int 32)))),
 (.ret (.tup (ies [(.loc 1),(.ite (.cmp (.loc 0) .LtE (.val (.int 90))) (.val (.int 32)) (.loc 1))])))])
noncomputable abbrev ib_reckoned:ISs:=(iss [(.assignT [(.nm 2),(.nm 3)] (.call (.val (.raw (.ref 433))) (ies [(.loc 0)]))),
 (.assign 4 (.comp (.call (.val (.raw (.ref 65))) (ies [(.loc 5),(.loc 2)])) 5 (.of (.loc 1)) (.val (.bool .true)))),
 (.try_ (iss [(.assign 6 (.ite (.cmp (.bi .len (ies [(.loc 4)])) .Eq (.val (.int 1))) (.call (.val (.raw (.ref 334))) (ies [(.loc 0),(.sub (.loc 4) (.val (.int 0)))])) (.call (.val (.raw (.ref 341))) (ies [(.loc 0),(.sub (.loc 4) (.val (.int 0))),(.sub (.loc 4) (.val (.int 1)))]))))])),
 (.ret (.call (.val (.raw (.ref 426))) (ies [(.loc 3),(.loc 6)])))])
noncomputable abbrev ib_fold_number:ISs:=(iss [(.assign 1 (.prop (.sub (.loc 0) (.neg (.val (.int 1)))) 363)),
 (.assign 2 (.ite (.call (.val (.raw (.ref 320))) (ies [(.loc 1)])) (.val (.int 1)) (.val (.int 2)))),
 (.assign 3 (.comp (.call (.val (.raw (.ref 419))) (ies [(.loc 4)])) 4 (.of (.sli (.sli (.loc 0) (.val .none) (.neg (.val (.int 1)))) (.neg (.loc 2)) (.val .none))) (.val (.bool .true)))),
 (.iff (.and (.cmp (.bi .len (ies [(.loc 3)])) .Eq (.loc 2)) (.cmp (.val .none) .NotIn (.loc 3))) (iss [(.assign 4 (.call (.val (.raw (.ref 438))) (ies [(.loc 1),(.loc 3)]))),
 (.iff (.cmp (.loc 4) .IsNot (.val .none)) (iss [(.setSli (.loc 0) (.bin .Sub (.neg (.val (.int 1))) (.loc 2)) (.val .none) (.lst (ies [(.loc 4)]))),
 (.ret (.val (.bool .true)))]) (iss []))]) (iss [])),
 (.iff (.and (.cmp (.loc 2) .Eq (.val (.int 2))) (.and (.cmp (.loc 3) .NotEq (.lst (ies []))) (.and (.cmp (.sub (.loc 3) (.neg (.val (.int 1)))) .IsNot (.val .none)) (.cmp (.sub (.loc 3) (.neg (.val (.int 1)))) .Eq (.call (.val (.raw (.ref 412))) (ies [(.loc 1)])))))) (iss [(.setSli (.loc 0) (.neg (.val (.int 2))) (.val .none) (.lst (ies []))),
 (.ret (.val (.bool .true)))]) (iss [])),
 (.ret (.val (.bool .false)))])
noncomputable abbrev ib_chosen_label:ISs:=(iss [(.assign 2 (.call (.val (.raw (.ref 65))) (ies [(.loc 1),(.val (.int 32))]))),
 (.ret (.ite (.cmp (.loc 2) .Lt (.bin .Sub (.bi .len (ies [(.loc 0)])) (.val (.int 1)))) (.sub (.loc 0) (.loc 2)) (.sub (.loc 0) (.neg (.val (.int 1))))))])
noncomputable abbrev ib_fold_select:ISs:=(iss [(.iff (.cmp (.loc 1) .NotEq (.val (.int 0))) (iss [(.setSli (.loc 0) (.neg (.val (.int 2))) (.val .none) (.lst (ies [(.call (.val (.raw (.ref 379))) (ies [(.tup (ies [(.val (.int 26))]))]))]))),
 (.ret (.val (.bool .true)))]) (iss [])),
 (.iff (.and (.cmp (.bi .len (ies [(.loc 0)])) .Gt (.val (.int 2))) (.cmp (.prop (.sub (.loc 0) (.neg (.val (.int 3)))) 363) .In (.val (.tup [(.int 32),(.int 35),(.int 65),(.int 66),(.int 63),(.int 64528),(.int 208),(.int 210)])))) (iss [(.setSli (.loc 0) (.neg (.val (.int 3))) (.val .none) (.lst (ies [(.call (.val (.raw (.ref 379))) (ies [(.tup (ies [(.val (.int 26))]))])),(.sub (.loc 0) (.neg (.val (.int 3))))]))),
 (.ret (.val (.bool .true)))]) (iss [])),
 (.ret (.val (.bool .false)))])
noncomputable abbrev ib_fold_choice:ISs:=(iss [(.assignT [(.nm 1),(.nm 2)] (.tup (ies [(.sub (.loc 0) (.neg (.val (.int 1)))),(.call (.val (.raw (.ref 419))) (ies [(.sub (.loc 0) (.neg (.val (.int 2))))]))]))),
 (.iff (.cmp (.loc 2) .Is (.val .none)) (iss [(.ret (.val (.bool .false)))]) (iss [])),
 (.iff (.cmp (.prop (.loc 1) 363) .In (.tup (ies [(.val (.int 27)),(.val (.int 28))]))) (iss [(.ret (.call (.val (.raw (.ref 457))) (ies [(.loc 0),(.loc 2)])))]) (iss [])),
 (.iff (.cmp (.prop (.loc 1) 363) .Eq (.val (.int 4))) (iss [(.assign 3 (.ite (.cmp (.loc 2) .NotEq (.val (.int 0))) (.attr (.loc 1) .first) (.attr (.loc 1) .second))),
 (.setSli (.loc 0) (.neg (.val (.int 2))) (.val .none) (.lst (ies [(.call (.val (.raw (.ref 379))) (ies [(.tup (ies [(.val (.int 2)),(.sub (.attr (.loc 1) .plain) (.val (.int 1)))])),(.ite (.cmp (.loc 3) .IsNot (.val .none)) (.loc 3) (.lst (ies [])))]))])))]) (iss [(.iff (.cmp (.prop (.loc 1) 363) .Eq (.val (.int 14))) (iss [(.setSli (.loc 0) (.neg (.val (.int 2))) (.val .none) (.lst (ies [(.call (.val (.raw (.ref 379))) (ies [(.tup (ies [(.val (.int 12)),(.call (.val (.raw (.ref 450))) (ies [(.meth (.loc 1) (.call 376) (ies [])),(.loc 2)]))]))]))])))]) (iss [(.iff (.cmp (.loc 2) .NotEq (.val (.int 0))) (iss [(.setSli (.loc 0) (.neg (.val (.int 2))) (.val .none) (.lst (ies [(.call (.val (.raw (.ref 379))) (ies [(.tup (ies [(.val (.int 12)),(.sub (.attr (.loc 1) .plain) (.val (.int 1)))]))]))])))]) (iss [(.setSli (.loc 0) (.neg (.val (.int 2))) (.val .none) (.lst (ies [])))]))]))])),
 (.ret (.val (.bool .true)))])
noncomputable abbrev ib_fold_last:ISs:=(iss [(.iff (.cmp (.bi .len (ies [(.loc 0)])) .Lt (.val (.int 2))) (iss [(.ret (.val (.bool .false)))]) (iss [])),
 (.iff (.or (.call (.val (.raw (.ref 320))) (ies [(.prop (.sub (.loc 0) (.neg (.val (.int 1)))) 363)])) (.call (.val (.raw (.ref 327))) (ies [(.prop (.sub (.loc 0) (.neg (.val (.int 1)))) 363)]))) (iss [(.ret (.call (.val (.raw (.ref 443))) (ies [(.loc 0)])))]) (iss [])),
 (.iff (.cmp (.prop (.sub (.loc 0) (.neg (.val (.int 1)))) 363) .In (.tup (ies [(.val (.int 27)),(.val (.int 28)),(.val (.int 4)),(.val (.int 13)),(.val (.int 14))]))) (iss [(.ret (.call (.val (.raw (.ref 464))) (ies [(.loc 0)])))]) (iss [])),
 (.ret (.val (.bool .false)))])
noncomputable abbrev ib_fold_pieces:ISs:=(iss [(.assign 1 (.lst (ies []))),
 (.for_ (.one 2) (.of (.loc 0)) (iss [(.for_ (.one 3) (.of (.meth (.loc 2) (.call 369) (ies []))) (iss [(.expr (.call (.val (.raw (.ref 478))) (ies [(.loc 3)])))])),
 (.expr (.meth (.loc 1) .append (ies [(.loc 2)]))),
 (.whl (.call (.val (.raw (.ref 471))) (ies [(.loc 1)])) (iss [.pass]))])),
 (.setSli (.loc 0) (.val .none) (.val .none) (.loc 1))])
noncomputable abbrev ib_folded:ISs:=(iss [(.iff (.cmp (.loc 0) .Is (.val .none)) (iss [(.ret (.val .none))]) (iss [])),
 (.assign 1 (.call (.val (.raw (.ref 390))) (ies [(.loc 0)]))),
 (.expr (.call (.val (.raw (.ref 478))) (ies [(.loc 1)]))),
 (.ret (.call (.val (.raw (.ref 404))) (ies [(.loc 1)])))])
noncomputable abbrev ib__law_op:ISs:=(iss [(.iff (.cmp (.loc 0) .In (.tup (ies [(.val (.int 167)),(.val (.int 172)),(.val (.int 173))]))) (iss [(.ret (.sub (.ndct [167,172,173] (ies [(.tup (ies [(.val (.str (ofString "wrap"))),(.val (.int 64)),(.val (.int 32))])),(.tup (ies [(.val (.str (ofString "spread32"))),(.val (.int 32)),(.val (.int 64))])),(.tup (ies [(.val (.str (ofString "wide"))),(.val (.int 32)),(.val (.int 64))]))])) (.loc 0)))]) (iss [])),
 (.iff (.cmp2 (.val (.int 192)) .LtE (.loc 0) .Lt (.val (.int 197))) (iss [(.assign 1 (.ite (.cmp (.loc 0) .Lt (.val (.int 194))) (.val (.int 32)) (.val (.int 64)))),
 (.ret (.tup (ies [(.sub (.tup (ies [(.val (.str (ofString "spread8"))),(.val (.str (ofString "spread16"))),(.val (.str (ofString "spread8"))),(.val (.str (ofString "spread16"))),(.val (.str (ofString "spread32")))])) (.bin .Sub (.loc 0) (.val (.int 192)))),(.loc 1),(.loc 1)])))]) (iss [])),
 (.for_ (.many [1,2,3]) (.of (.tup (ies [(.tup (ies [(.val (.int 32)),(.val (.int 69)),(.val (.int 103))])),(.tup (ies [(.val (.int 64)),(.val (.int 80)),(.val (.int 121))]))]))) (iss [(.iff (.cmp2 (.loc 2) .LtE (.loc 0) .Lt (.bin .Add (.loc 2) (.val (.int 11)))) (iss [(.ret (.tup (ies [(.sub (.split (.val (.str (ofString "eqz eq ne lt_s lt_u gt_s gt_u le_s le_u ge_s ge_u")))) (.bin .Sub (.loc 0) (.loc 2))),(.loc 1),(.val (.int 32))])))]) (iss [])),
 (.iff (.cmp2 (.loc 3) .LtE (.loc 0) .Lt (.bin .Add (.loc 3) (.val (.int 18)))) (iss [(.assign 4 (.val (.str (ofString "clz ctz popcnt add sub mul div_s div_u rem_s rem_u and or xor shl shr_s shr_u rotl rotr")))),
 (.ret (.tup (ies [(.sub (.split (.loc 4)) (.bin .Sub (.loc 0) (.loc 3))),(.loc 1),(.loc 1)])))]) (iss []))])),
 (.ret (.val .none))])
noncomputable abbrev ib__law_code:ISs:=(iss [(.iff (.cmp (.loc 0) .Lt (.val (.int 58))) (iss [(.ret (.ite (.cmp (.loc 0) .Lt (.val (.int 22))) (.bin .Add (.val (.int 69)) (.loc 0)) (.bin .Add (.val (.int 81)) (.loc 0))))]) (iss [])),
 (.ret (.sub (.tup (ies [(.val (.int 167)),(.val (.int 172)),(.val (.int 173)),(.val (.int 192)),(.val (.int 193)),(.val (.int 194)),(.val (.int 195)),(.val (.int 196))])) (.bin .Sub (.loc 0) (.val (.int 58)))))])
noncomputable abbrev ib__law_idle:ISs:=(iss [(.ret (.sdct [(ofString "add"),(ofString "sub"),(ofString "or"),(ofString "xor"),(ofString "shl"),(ofString "shr_s"),(ofString "shr_u"),(ofString "rotl"),(ofString "rotr"),(ofString "mul"),(ofString "div_s"),(ofString "div_u"),(ofString "and")] (ies [(.val (.int 0)),(.val (.int 0)),(.val (.int 0)),(.val (.int 0)),(.val (.int 0)),(.val (.int 0)),(.val (.int 0)),(.val (.int 0)),(.val (.int 0)),(.val (.int 1)),(.val (.int 1)),(.val (.int 1)),(.neg (.val (.int 1)))])))])
noncomputable abbrev ib__law_round:ISs:=(iss [(.ret (.bin .Sub (.bin .Mod (.bin .Add (.loc 0) (.bin .Pow (.val (.int 2)) (.bin .Sub (.loc 1) (.val (.int 1))))) (.bin .Pow (.val (.int 2)) (.loc 1))) (.bin .Pow (.val (.int 2)) (.bin .Sub (.loc 1) (.val (.int 1))))))])
noncomputable abbrev ib__law_one:ISs:=(iss [(.assign 3 (.bin .Mod (.loc 1) (.bin .Pow (.val (.int 2)) (.loc 2)))),
 (.iff (.cmp (.loc 0) .Eq (.val (.str (ofString "eqz")))) (iss [(.ret (.ite (.cmp (.loc 1) .Eq (.val (.int 0))) (.val (.int 1)) (.val (.int 0))))]) (iss [])),
 (.iff (.cmp (.loc 0) .Eq (.val (.str (ofString "clz")))) (iss [(.ret (.bi .sum (ies [(.comp (.val (.int 1)) 4 (.rng (.loc 2)) (.cmp (.loc 3) .Lt (.bin .Pow (.val (.int 2)) (.loc 4))))])))]) (iss [])),
 (.iff (.cmp (.loc 0) .Eq (.val (.str (ofString "ctz")))) (iss [(.ret (.bi .sum (ies [(.comp (.val (.int 1)) 4 (.rng (.loc 2)) (.cmp (.bin .Mod (.loc 3) (.bin .Pow (.val (.int 2)) (.bin .Add (.loc 4) (.val (.int 1))))) .Eq (.val (.int 0))))])))]) (iss [])),
 (.iff (.cmp (.loc 0) .Eq (.val (.str (ofString "popcnt")))) (iss [(.ret (.bi .sum (ies [(.comp (.bin .Mod (.bin .FloorDiv (.loc 3) (.bin .Pow (.val (.int 2)) (.loc 4))) (.val (.int 2))) 4 (.rng (.loc 2)) (.val (.bool .true)))])))]) (iss [])),
 (.iff (.cmp (.loc 0) .Eq (.val (.str (ofString "wrap")))) (iss [(.ret (.call (.val (.raw (.ref 515))) (ies [(.loc 1),(.val (.int 32))])))]) (iss [])),
 (.iff (.cmp (.loc 0) .Eq (.val (.str (ofString "wide")))) (iss [(.ret (.loc 3))]) (iss [])),
 (.ret (.call (.val (.raw (.ref 515))) (ies [(.loc 1),(.sub (.sdct [(ofString "spread8"),(ofString "spread16"),(ofString "spread32")] (ies [(.val (.int 8)),(.val (.int 16)),(.val (.int 32))])) (.loc 0))])))])
noncomputable abbrev ib__law_parted:ISs:=(iss [(.assignT [(.nm 4),(.nm 5)] (.tup (ies [(.bin .Mod (.loc 1) (.bin .Pow (.val (.int 2)) (.loc 3))),(.bin .Mod (.loc 2) (.bin .Pow (.val (.int 2)) (.loc 3)))]))),
 (.iff (.or (.cmp (.loc 2) .Eq (.val (.int 0))) (.and (.cmp (.loc 0) .Eq (.val (.str (ofString "div_s")))) (.and (.cmp (.loc 1) .Eq (.neg (.bin .Pow (.val (.int 2)) (.bin .Sub (.loc 3) (.val (.int 1)))))) (.cmp (.loc 2) .Eq (.neg (.val (.int 1))))))) (iss [(.ret (.val .none))]) (iss [])),
 (.iff (.cmp (.loc 0) .Eq (.val (.str (ofString "div_u")))) (iss [(.ret (.bin .FloorDiv (.loc 4) (.loc 5)))]) (iss [])),
 (.iff (.cmp (.loc 0) .Eq (.val (.str (ofString "rem_u")))) (iss [(.ret (.bin .Mod (.loc 4) (.loc 5)))]) (iss [])),
 (.assign 6 (.bin .FloorDiv (.loc 1) (.loc 2))),
 (.iff (.and (.cmp (.loc 6) .Lt (.val (.int 0))) (.cmp (.bin .Mult (.loc 6) (.loc 2)) .NotEq (.loc 1))) (iss [(.assign 6 (.bin .Add (.loc 6) (.val (.int 1))))]) (iss [])),
 (.ret (.ite (.cmp (.loc 0) .Eq (.val (.str (ofString "div_s")))) (.loc 6) (.bin .Sub (.loc 1) (.bin .Mult (.loc 6) (.loc 2)))))])
noncomputable abbrev ib__law_two:ISs:=(iss [(.assignT [(.nm 4),(.nm 5),(.nm 6)] (.tup (ies [(.bin .Mod (.loc 1) (.bin .Pow (.val (.int 2)) (.loc 3))),(.bin .Mod (.loc 2) (.bin .Pow (.val (.int 2)) (.loc 3))),(.bin .Mod (.loc 2) (.loc 3))]))),
 (.iff (.cmp (.loc 0) .In (.tup (ies [(.val (.str (ofString "div_s"))),(.val (.str (ofString "div_u"))),(.val (.str (ofString "rem_s"))),(.val (.str (ofString "rem_u")))]))) (iss [(.ret (.call (.val (.raw (.ref 527))) (ies [(.loc 0),(.loc 1),(.loc 2),(.loc 3)])))]) (iss [])),
 (.iff (.cmp (.loc 0) .In (.tup (ies [(.val (.str (ofString "eq"))),(.val (.str (ofString "ne"))),(.val (.str (ofString "lt_s"))),(.val (.str (ofString "lt_u"))),(.val (.str (ofString "gt_s"))),(.val (.str (ofString "gt_u"))),(.val (.str (ofString "le_s"))),(.val (.str (ofString "le_u"))),(.val (.str (ofString "ge_s"))),(.val (.str (ofString "ge_u")))]))) (iss [(.assign 7 (.sub (.sdct [(ofString "eq"),(ofString "ne"),(ofString "lt_s"),(ofString "lt_u"),(ofString "gt_s"),(ofString "gt_u"),(ofString "le_s"),(ofString "le_u"),(ofString "ge_s"),(ofString "ge_u")] (ies [(.cmp (.loc 1) .Eq (.loc 2)),(.cmp (.loc 1) .NotEq (.loc 2)),(.cmp (.loc 1) .Lt (.loc 2)),(.cmp (.loc 4) .Lt (.loc 5)),(.cmp (.loc 1) .Gt (.loc 2)),(.cmp (.loc 4) .Gt (.loc 5)),(.cmp (.loc 1) .LtE (.loc 2)),(.cmp (.loc 4) .LtE (.loc 5)),(.cmp (.loc 1) .GtE (.loc 2)),(.cmp (.loc 4) .GtE (.loc 5))])) (.loc 0))),
 (.ret (.ite (.loc 7) (.val (.int 1)) (.val (.int 0))))]) (iss [])),
 (.ret (.sub (.sdct [(ofString "add"),(ofString "sub"),(ofString "mul"),(ofString "and"),(ofString "or"),(ofString "xor"),(ofString "shl"),(ofString "shr_s"),(ofString "shr_u"),(ofString "rotl"),(ofString "rotr")] (ies [(.bin .Add (.loc 1) (.loc 2)),(.bin .Sub (.loc 1) (.loc 2)),(.bin .Mult (.loc 1) (.loc 2)),(.bin .BitAnd (.loc 1) (.loc 2)),(.bin .BitOr (.loc 1) (.loc 2)),(.bin .BitXor (.loc 1) (.loc 2)),(.bin .Mult (.loc 1) (.bin .Pow (.val (.int 2)) (.loc 6))),(.bin .FloorDiv (.loc 1) (.bin .Pow (.val (.int 2)) (.loc 6))),(.bin .FloorDiv (.loc 4) (.bin .Pow (.val (.int 2)) (.loc 6))),(.bin .Add (.bin .Mult (.loc 4) (.bin .Pow (.val (.int 2)) (.loc 6))) (.bin .FloorDiv (.loc 4) (.bin .Pow (.val (.int 2)) (.bin .Sub (.loc 3) (.loc 6))))),(.bin .Add (.bin .Mult (.loc 4) (.bin .Pow (.val (.int 2)) (.bin .Sub (.loc 3) (.loc 6)))) (.bin .FloorDiv (.loc 4) (.bin .Pow (.val (.int 2)) (.loc 6))))])) (.loc 0)))])
noncomputable abbrev ib__law_sum:ISs:=(iss [(.assignT [(.nm 3),(.nm 4),(.nm 5)] (.call (.val (.raw (.ref 492))) (ies [(.sub (.loc 0) (.val (.int 0)))]))),
 (.iff (.cmp (.loc 3) .In (.val (.tup [(.str (ofString "eqz")),(.str (ofString "clz")),(.str (ofString "ctz")),(.str (ofString "popcnt")),(.str (ofString "wrap")),(.str (ofString "wide")),(.str (ofString "spread8")),(.str (ofString "spread16")),(.str (ofString "spread32"))]))) (iss [(.ret (.tup (ies [(.val (.int 1)),(.lst (ies [(.tup (ies [(.ite (.cmp (.loc 5) .Eq (.val (.int 32))) (.val (.int 65)) (.val (.int 66))),(.call (.val (.raw (.ref 515))) (ies [(.call (.val (.raw (.ref 520))) (ies [(.loc 3),(.loc 2),(.loc 4)])),(.loc 5)]))]))]))])))]) (iss [])),
 (.assign 6 (.ite (.cmp (.loc 1) .Is (.val .none)) (.val .none) (.call (.val (.raw (.ref 534))) (ies [(.loc 3),(.loc 1),(.loc 2),(.loc 4)])))),
 (.iff (.cmp (.loc 6) .IsNot (.val .none)) (iss [(.ret (.tup (ies [(.val (.int 2)),(.lst (ies [(.tup (ies [(.ite (.cmp (.loc 5) .Eq (.val (.int 32))) (.val (.int 65)) (.val (.int 66))),(.call (.val (.raw (.ref 515))) (ies [(.loc 6),(.loc 5)]))]))]))])))]) (iss [])),
 (.ret (.ite (.and (.cmp (.loc 3) .In (.call (.val (.raw (.ref 507))) (ies []))) (.cmp (.sub (.call (.val (.raw (.ref 507))) (ies [])) (.loc 3)) .Eq (.loc 2))) (.tup (ies [(.val (.int 1)),(.lst (ies []))])) (.val .none)))])
noncomputable abbrev ib__law_sides:ISs:=(iss [(.assignT [(.nm 2),(.nm 3),(.nm 4)] (.tup (ies [(.val (.int 0)),(.val .none),(.bin .Add (.loc 1) (.val (.int 1)))]))),
 (.whl (.or (.cmp (.loc 2) .Gt (.val (.int 0))) (.cmp (.sub (.sub (.loc 0) (.loc 4)) (.val (.int 0))) .NotEq (.val (.int 11)))) (iss [(.assign 5 (.sub (.sub (.loc 0) (.loc 4)) (.val (.int 0)))),
 (.iff (.and (.cmp (.loc 5) .Eq (.val (.int 5))) (.cmp (.loc 2) .Eq (.val (.int 0)))) (iss [(.assign 3 (.loc 4))]) (iss [])),
 (.assign 2 (.bin .Add (.loc 2) (.ite (.cmp (.loc 5) .In (.tup (ies [(.val (.int 2)),(.val (.int 3)),(.val (.int 4))]))) (.val (.int 1)) (.ite (.cmp (.loc 5) .Eq (.val (.int 11))) (.neg (.val (.int 1))) (.val (.int 0)))))),
 (.assign 4 (.bin .Add (.loc 4) (.val (.int 1))))])),
 (.ret (.ite (.cmp (.loc 3) .Is (.val .none)) (.tup (ies [(.sli (.loc 0) (.bin .Add (.loc 1) (.val (.int 1))) (.loc 4)),(.lst (ies [])),(.loc 4)])) (.tup (ies [(.sli (.loc 0) (.bin .Add (.loc 1) (.val (.int 1))) (.loc 3)),(.sli (.loc 0) (.bin .Add (.loc 3) (.val (.int 1))) (.loc 4)),(.loc 4)]))))])
noncomputable abbrev ib__law_folded:ISs:=(iss [(.assignT [(.nm 0),(.nm 1)] (.tup (ies [(.bi .list (ies [(.loc 0)])),(.val (.int 1))]))),
 (.whl (.cmp (.loc 1) .Lt (.bi .len (ies [(.loc 0)]))) (iss [(.assignT [(.nm 2),(.nm 3)] (.tup (ies [(.sub (.loc 0) (.loc 1)),(.ite (.cmp (.sub (.sub (.loc 0) (.bin .Sub (.loc 1) (.val (.int 1)))) (.val (.int 0))) .In (.tup (ies [(.val (.int 65)),(.val (.int 66))]))) (.sub (.sub (.loc 0) (.bin .Sub (.loc 1) (.val (.int 1)))) (.val (.int 1))) (.val .none))]))),
 (.assignT [(.nm 4),(.nm 5)] (.tup (ies [(.val .none),(.loc 1)]))),
 (.iff (.and (.cmp (.loc 3) .IsNot (.val .none)) (.cmp (.call (.val (.raw (.ref 492))) (ies [(.sub (.loc 2) (.val (.int 0)))])) .IsNot (.val .none))) (iss [(.assign 4 (.call (.val (.raw (.ref 541))) (ies [(.loc 2),(.ite (.and (.cmp (.loc 1) .Gt (.val (.int 1))) (.cmp (.sub (.sub (.loc 0) (.bin .Sub (.loc 1) (.val (.int 2)))) (.val (.int 0))) .In (.tup (ies [(.val (.int 65)),(.val (.int 66))])))) (.sub (.sub (.loc 0) (.bin .Sub (.loc 1) (.val (.int 2)))) (.val (.int 1))) (.val .none)),(.loc 3)])))]) (iss [(.iff (.and (.cmp (.loc 3) .IsNot (.val .none)) (.cmp (.sub (.loc 2) (.val (.int 0))) .In (.tup (ies [(.val (.int 27)),(.val (.int 28))])))) (iss [(.iff (.cmp (.loc 3) .NotEq (.val (.int 0))) (iss [(.assign 4 (.tup (ies [(.val (.int 1)),(.lst (ies [(.tup (ies [(.val (.int 26))]))]))])))]) (iss [(.iff (.and (.cmp (.loc 1) .Gt (.val (.int 1))) (.cmp (.sub (.sub (.loc 0) (.bin .Sub (.loc 1) (.val (.int 2)))) (.val (.int 0))) .In (.val (.tup [(.int 32),(.int 35),(.int 63),(.int 65),(.int 66),(.int 208),(.int 210),(.int 64528)])))) (iss [(.assign 4 (.tup (ies [(.val (.int 2)),(.lst (ies [(.tup (ies [(.val (.int 26))])),(.sub (.loc 0) (.bin .Sub (.loc 1) (.val (.int 2))))]))])))]) (iss []))]))]) (iss [(.iff (.and (.cmp (.loc 3) .IsNot (.val .none)) (.cmp (.sub (.loc 2) (.val (.int 0))) .Eq (.val (.int 13)))) (iss [(.assign 4 (.tup (ies [(.val (.int 1)),(.ite (.cmp (.loc 3) .NotEq (.val (.int 0))) (.lst (ies [(.tup (ies [(.val (.int 12)),(.sub (.loc 2) (.val (.int 1)))]))])) (.lst (ies [])))])))]) (iss [(.iff (.and (.cmp (.loc 3) .IsNot (.val .none)) (.cmp (.sub (.loc 2) (.val (.int 0))) .Eq (.val (.int 14)))) (iss [(.assign 4 (.tup (ies [(.val (.int 1)),(.lst (ies [(.tup (ies [(.val (.int 12)),(.ite (.cmp2 (.val (.int 0)) .LtE (.loc 3) .Lt (.bin .Sub (.bi .len (ies [(.loc 2)])) (.val (.int 2)))) (.sub (.loc 2) (.bin .Add (.val (.int 1)) (.loc 3))) (.sub (.loc 2) (.neg (.val (.int 1)))))]))]))])))]) (iss [(.iff (.and (.cmp (.loc 3) .IsNot (.val .none)) (.cmp (.sub (.loc 2) (.val (.int 0))) .Eq (.val (.int 4)))) (iss [(.assignT [(.nm 6),(.nm 7),(.nm 5)] (.call (.val (.raw (.ref 548))) (ies [(.loc 0),(.loc 1)]))),
 (.assign 4 (.tup (ies [(.val (.int 1)),(.bin .Add (.bin .Add (.lst (ies [(.tup (ies [(.val (.int 2)),(.sub (.loc 2) (.val (.int 1)))]))])) (.ite (.cmp (.loc 3) .NotEq (.val (.int 0))) (.loc 6) (.loc 7))) (.lst (ies [(.tup (ies [(.val (.int 11))]))])))])))]) (iss []))]))]))]))])),
 (.iff (.cmp (.loc 4) .Is (.val .none)) (iss [(.assign 1 (.bin .Add (.loc 1) (.val (.int 1))))]) (iss [(.setSli (.loc 0) (.bin .Sub (.loc 1) (.sub (.loc 4) (.val (.int 0)))) (.bin .Add (.loc 5) (.val (.int 1))) (.sub (.loc 4) (.val (.int 1)))),
 (.assign 1 (.bi .max (ies [(.val (.int 1)),(.bin .Sub (.loc 1) (.sub (.loc 4) (.val (.int 0))))])))]))])),
 (.ret (.loc 0))])
noncomputable abbrev ib__law_leaf:ISs:=(iss [(.assignT [(.nm 2),(.nm 3)] (.tup (ies [(.bin .Mod (.loc 1) (.val (.int 9))),(.ite (.cmp (.loc 0) .Eq (.neg (.val (.int 1)))) (.val (.int 32)) (.val (.int 64)))]))),
 (.iff (.cmp (.loc 0) .Eq (.neg (.val (.int 16)))) (iss [(.ret (.ite (.cmp (.bin .Mod (.loc 1) (.val (.int 2))) .Eq (.val (.int 0))) (.tup (ies [(.val (.int 208)),(.neg (.val (.int 16)))])) (.tup (ies [(.val (.int 210)),(.val (.int 1))]))))]) (iss [])),
 (.iff (.cmp (.loc 2) .Eq (.val (.int 0))) (iss [(.ret (.tup (ies [(.val (.int 32)),(.ite (.cmp (.loc 0) .Eq (.neg (.val (.int 1)))) (.val (.int 0)) (.val (.int 1)))])))]) (iss [])),
 (.iff (.cmp (.loc 2) .Eq (.val (.int 1))) (iss [(.ret (.ite (.cmp (.loc 0) .Eq (.neg (.val (.int 1)))) (.sub (.tup (ies [(.tup (ies [(.val (.int 35)),(.val (.int 0))])),(.tup (ies [(.val (.int 63))])),(.tup (ies [(.val (.int 64528)),(.val (.int 0))]))])) (.bin .Mod (.bin .FloorDiv (.loc 1) (.val (.int 9))) (.val (.int 3)))) (.tup (ies [(.val (.int 35)),(.val (.int 1))]))))]) (iss [])),
 (.ret (.tup (ies [(.bin .Sub (.val (.int 64)) (.loc 0)),(.sub (.tup (ies [(.val (.int 0)),(.val (.int 1)),(.neg (.val (.int 1))),(.val (.int 2)),(.neg (.bin .Pow (.val (.int 2)) (.bin .Sub (.loc 3) (.val (.int 1))))),(.call (.val (.raw (.ref 515))) (ies [(.bin .FloorDiv (.loc 1) (.val (.int 9))),(.loc 3)])),(.val (.int 33))])) (.bin .Sub (.loc 2) (.val (.int 2))))])))])
noncomputable abbrev ib__law_do:ISs:=(iss [(.assign 5 (.sub (.loc 0) (.val (.str (ofString "stack"))))),
 (.iff (.cmp (.sli (.loc 5) (.bi .max (ies [(.val (.int 0)),(.bin .Sub (.bi .len (ies [(.loc 5)])) (.bi .len (ies [(.loc 2)])))])) (.val .none)) .NotEq (.loc 2)) (iss [(.for_ (.one 6) (.of (.loc 2)) (iss [(.expr (.meth (.sub (.loc 0) (.val (.str (ofString "out")))) .append (ies [(.call (.val (.raw (.ref 562))) (ies [(.loc 6),(.loc 4)]))]))),
 (.expr (.meth (.loc 5) .append (ies [(.loc 6)]))),
 (.assign 4 (.bin .FloorDiv (.loc 4) (.val (.int 9))))]))]) (iss [])),
 (.expr (.meth (.sub (.loc 0) (.val (.str (ofString "out")))) .append (ies [(.loc 1)]))),
 (.setSub (.loc 0) (.val (.str (ofString "stack"))) (.bin .Add (.sli (.loc 5) (.val .none) (.bin .Sub (.bi .len (ies [(.loc 5)])) (.bi .len (ies [(.loc 2)])))) (.loc 3)))])
noncomputable abbrev ib__law_carried:ISs:=(iss [(.assign 2 (.sub (.sub (.loc 0) (.val (.str (ofString "frames")))) (.bin .Sub (.bin .Sub (.bi .len (ies [(.sub (.loc 0) (.val (.str (ofString "frames"))))])) (.val (.int 1))) (.loc 1)))),
 (.ret (.ite (.cmp (.sub (.loc 2) (.val (.int 0))) .Eq (.val (.int 3))) (.lst (ies [])) (.sub (.loc 2) (.val (.int 1)))))])
noncomputable abbrev ib__law_shut:ISs:=(iss [(.assignT [(.nm 3),(.nm 4)] (.tup (ies [(.sub (.sub (.loc 0) (.val (.str (ofString "frames")))) (.neg (.val (.int 1)))),(.sub (.loc 0) (.val (.str (ofString "stack"))))]))),
 (.iff (.cmp (.loc 4) .NotEq (.sub (.loc 3) (.val (.int 1)))) (iss [(.expr (.meth (.sub (.loc 0) (.val (.str (ofString "out")))) .extend (ies [(.bin .Add (.bin .Mult (.lst (ies [(.tup (ies [(.val (.int 26))]))])) (.bi .len (ies [(.loc 4)]))) (.comp (.call (.val (.raw (.ref 562))) (ies [(.loc 5),(.loc 2)])) 5 (.of (.sub (.loc 3) (.val (.int 1)))) (.val (.bool .true))))])))]) (iss [])),
 (.expr (.meth (.sub (.loc 0) (.val (.str (ofString "out")))) .append (ies [(.tup (ies [(.loc 1)]))]))),
 (.iff (.cmp (.loc 1) .Eq (.val (.int 5))) (iss [(.assignT [(.sub (.loc 3) (.val (.int 0))),(.sub (.loc 0) (.val (.str (ofString "stack"))))] (.tup (ies [(.val (.int 5)),(.lst (ies []))])))]) (iss [(.expr (.meth (.sub (.loc 0) (.val (.str (ofString "frames")))) .pop (ies []))),
 (.setSub (.loc 0) (.val (.str (ofString "stack"))) (.bin .Add (.sub (.loc 3) (.val (.int 2))) (.sub (.loc 3) (.val (.int 1)))))]))])
noncomputable abbrev ib__law_end:ISs:=(iss [(.iff (.and (.cmp (.sub (.sub (.sub (.loc 0) (.val (.str (ofString "frames")))) (.neg (.val (.int 1)))) (.val (.int 0))) .Eq (.val (.int 4))) (.cmp (.sub (.sub (.sub (.loc 0) (.val (.str (ofString "frames")))) (.neg (.val (.int 1)))) (.val (.int 1))) .NotEq (.lst (ies [])))) (iss [(.expr (.call (.val (.raw (.ref 581))) (ies [(.loc 0),(.val (.int 5)),(.loc 1)])))]) (iss [])),
 (.expr (.call (.val (.raw (.ref 581))) (ies [(.loc 0),(.val (.int 11)),(.bin .FloorDiv (.loc 1) (.val (.int 9)))])))])
noncomputable abbrev ib__law_branch:ISs:=(iss [(.assign 3 (.bi .len (ies [(.sub (.loc 0) (.val (.str (ofString "frames"))))]))),
 (.assign 4 (.bin .Mod (.loc 2) (.loc 3))),
 (.assign 5 (.call (.val (.raw (.ref 576))) (ies [(.loc 0),(.loc 4)]))),
 (.iff (.cmp (.loc 1) .Eq (.val (.int 8))) (iss [(.expr (.call (.val (.raw (.ref 569))) (ies [(.loc 0),(.tup (ies [(.val (.int 13)),(.loc 4)])),(.bin .Add (.loc 5) (.lst (ies [(.neg (.val (.int 1)))]))),(.loc 5),(.bin .FloorDiv (.loc 2) (.val (.int 5)))]))),
 (.ret (.val .none))]) (iss [])),
 (.iff (.cmp (.loc 1) .Eq (.val (.int 10))) (iss [(.expr (.call (.val (.raw (.ref 569))) (ies [(.loc 0),(.ite (.cmp (.bin .Mod (.bin .FloorDiv (.loc 2) (.val (.int 5))) (.val (.int 3))) .Gt (.val (.int 0))) (.tup (ies [(.val (.int 12)),(.loc 4)])) (.tup (ies [(.val (.int 0))]))),(.loc 5),(.lst (ies [])),(.bin .FloorDiv (.loc 2) (.val (.int 15)))])))]) (iss [(.assign 6 (.comp (.loc 7) 7 (.rng (.loc 3)) (.cmp (.call (.val (.raw (.ref 576))) (ies [(.loc 0),(.loc 7)])) .Eq (.loc 5)))),
 (.assign 8 (.tup (ies [(.sub (.loc 6) (.bin .Mod (.bin .FloorDiv (.loc 2) (.val (.int 5))) (.bi .len (ies [(.loc 6)])))),(.sub (.loc 6) (.bin .Mod (.bin .FloorDiv (.loc 2) (.val (.int 25))) (.bi .len (ies [(.loc 6)])))),(.loc 4)]))),
 (.expr (.call (.val (.raw (.ref 569))) (ies [(.loc 0),(.bin .Add (.tup (ies [(.val (.int 14))])) (.loc 8)),(.bin .Add (.loc 5) (.lst (ies [(.neg (.val (.int 1)))]))),(.lst (ies [])),(.bin .FloorDiv (.loc 2) (.val (.int 125)))])))])),
 (.setSub (.loc 0) (.val (.str (ofString "stack"))) (.lst (ies [])))])
noncomputable abbrev ib__law_turn:ISs:=(iss [(.assign 3 (.sub (.loc 0) (.val (.str (ofString "frames"))))),
 (.iff (.cmp (.loc 1) .Lt (.val (.int 7))) (iss [(.assign 4 (.call (.val (.raw (.ref 499))) (ies [(.bin .Mod (.loc 2) (.val (.int 66)))]))),
 (.assignT [(.nm 5),(.nm 6),(.nm 7)] (.call (.val (.raw (.ref 492))) (ies [(.loc 4)]))),
 (.assign 8 (.bin .Mult (.lst (ies [(.ite (.cmp (.loc 6) .Eq (.val (.int 32))) (.neg (.val (.int 1))) (.neg (.val (.int 2))))])) (.ite (.cmp (.loc 5) .In (.val (.tup [(.str (ofString "eqz")),(.str (ofString "clz")),(.str (ofString "ctz")),(.str (ofString "popcnt")),(.str (ofString "wrap")),(.str (ofString "wide")),(.str (ofString "spread8")),(.str (ofString "spread16")),(.str (ofString "spread32"))]))) (.val (.int 1)) (.val (.int 2))))),
 (.expr (.call (.val (.raw (.ref 569))) (ies [(.loc 0),(.tup (ies [(.loc 4)])),(.loc 8),(.lst (ies [(.ite (.cmp (.loc 7) .Eq (.val (.int 32))) (.neg (.val (.int 1))) (.neg (.val (.int 2))))])),(.bin .FloorDiv (.loc 2) (.val (.int 66)))])))]) (iss [(.iff (.cmp (.loc 1) .Eq (.val (.int 7))) (iss [(.assign 9 (.sub (.tup (ies [(.neg (.val (.int 1))),(.neg (.val (.int 2))),(.neg (.val (.int 16)))])) (.bin .Mod (.loc 2) (.val (.int 3))))),
 (.assign 10 (.ite (.or (.cmp (.loc 9) .Eq (.neg (.val (.int 16)))) (.cmp (.bin .Mod (.bin .FloorDiv (.loc 2) (.val (.int 3))) (.val (.int 2))) .Eq (.val (.int 1)))) (.tup (ies [(.val (.int 28)),(.loc 9)])) (.tup (ies [(.val (.int 27))])))),
 (.expr (.call (.val (.raw (.ref 569))) (ies [(.loc 0),(.loc 10),(.lst (ies [(.loc 9),(.loc 9),(.neg (.val (.int 1)))])),(.lst (ies [(.loc 9)])),(.bin .FloorDiv (.loc 2) (.val (.int 6)))])))]) (iss [(.iff (.cmp2 (.val (.int 8)) .LtE (.loc 1) .Lt (.val (.int 11))) (iss [(.expr (.call (.val (.raw (.ref 593))) (ies [(.loc 0),(.loc 1),(.loc 2)])))]) (iss [(.iff (.and (.cmp (.loc 1) .Lt (.val (.int 13))) (.cmp (.bi .len (ies [(.loc 3)])) .Lt (.val (.int 5)))) (iss [(.assignT [(.nm 4),(.nm 11)] (.tup (ies [(.ite (.cmp (.loc 1) .Eq (.val (.int 11))) (.val (.int 4)) (.bin .Add (.val (.int 2)) (.bin .Mod (.bin .FloorDiv (.loc 2) (.val (.int 3))) (.val (.int 2))))),(.ite (.cmp (.bin .Mod (.loc 2) (.val (.int 3))) .Eq (.val (.int 2))) (.lst (ies [(.neg (.val (.int 1)))])) (.lst (ies [])))]))),
 (.expr (.call (.val (.raw (.ref 569))) (ies [(.loc 0),(.tup (ies [(.loc 4),(.ite (.cmp (.loc 11) .NotEq (.lst (ies []))) (.neg (.val (.int 1))) (.neg (.val (.int 64))))])),(.ite (.cmp (.loc 4) .Eq (.val (.int 4))) (.lst (ies [(.neg (.val (.int 1)))])) (.lst (ies []))),(.lst (ies [])),(.bin .FloorDiv (.loc 2) (.val (.int 6)))]))),
 (.expr (.meth (.loc 3) .append (ies [(.lst (ies [(.loc 4),(.loc 11),(.sub (.loc 0) (.val (.str (ofString "stack"))))]))]))),
 (.setSub (.loc 0) (.val (.str (ofString "stack"))) (.lst (ies [])))]) (iss [(.iff (.and (.cmp (.loc 1) .Eq (.val (.int 13))) (.cmp (.sub (.sub (.loc 3) (.neg (.val (.int 1)))) (.val (.int 0))) .Eq (.val (.int 4)))) (iss [(.expr (.call (.val (.raw (.ref 581))) (ies [(.loc 0),(.val (.int 5)),(.loc 2)])))]) (iss [(.iff (.and (.cmp (.loc 1) .Eq (.val (.int 14))) (.cmp (.bi .len (ies [(.loc 3)])) .Gt (.val (.int 1)))) (iss [(.expr (.call (.val (.raw (.ref 588))) (ies [(.loc 0),(.loc 2)])))]) (iss [(.assignT [(.nm 10),(.nm 6),(.nm 11)] (.sub (.tup (ies [(.tup (ies [(.tup (ies [(.val (.int 33)),(.val (.int 0))])),(.lst (ies [(.neg (.val (.int 1)))])),(.lst (ies []))])),(.tup (ies [(.tup (ies [(.val (.int 34)),(.val (.int 1))])),(.lst (ies [(.neg (.val (.int 2)))])),(.lst (ies [(.neg (.val (.int 2)))]))])),(.tup (ies [(.tup (ies [(.val (.int 26))])),(.lst (ies [(.neg (.val (.int 1)))])),(.lst (ies []))])),(.tup (ies [(.tup (ies [(.val (.int 1))])),(.lst (ies [])),(.lst (ies []))])),(.tup (ies [(.tup (ies [(.val (.int 65)),(.val (.int 0))])),(.lst (ies [])),(.lst (ies [(.neg (.val (.int 1)))]))]))])) (.bin .Mod (.loc 2) (.val (.int 5))))),
 (.expr (.call (.val (.raw (.ref 569))) (ies [(.loc 0),(.loc 10),(.loc 6),(.loc 11),(.bin .FloorDiv (.loc 2) (.val (.int 5)))])))]))]))]))]))]))]))])
noncomputable abbrev ib_law:ISs:=(iss [(.assign 1 (.ite (.cmp (.loc 0) .NotEq (.lst (ies []))) (.sub (.loc 0) (.val (.int 0))) (.val (.int 0)))),
 (.assign 2 (.lst (ies [(.tup (ies [(.val (.int 65)),(.sub (.tup (ies [(.neg (.bin .Pow (.val (.int 2)) (.val (.int 31)))),(.neg (.val (.int 7))),(.bin .Sub (.bin .Pow (.val (.int 2)) (.val (.int 31))) (.val (.int 1)))])) (.bin .Mod (.loc 1) (.val (.int 3))))])),(.tup (ies [(.val (.int 65)),(.sub (.tup (ies [(.neg (.val (.int 1))),(.val (.int 0)),(.val (.int 1)),(.val (.int 2)),(.neg (.bin .Pow (.val (.int 2)) (.val (.int 31))))])) (.bin .Mod (.bin .FloorDiv (.loc 1) (.val (.int 3))) (.val (.int 5))))]))]))),
 (.assign 3 (.sdct [(ofString "out"),(ofString "stack"),(ofString "frames")] (ies [(.bin .Add (.loc 2) (.lst (ies [(.tup (ies [(.bin .Add (.val (.int 109)) (.bin .Mod (.bin .FloorDiv (.loc 1) (.val (.int 15))) (.val (.int 4))))])),(.tup (ies [(.val (.int 26))]))]))),(.lst (ies [])),(.lst (ies [(.lst (ies [(.val (.int 2)),(.lst (ies [(.neg (.val (.int 1)))])),(.lst (ies []))]))]))]))),
 (.for_ (.one 4) (.rng (.bi .max (ies [(.val (.int 10)),(.bi .min (ies [(.val (.int 14)),(.bin .Sub (.bi .len (ies [(.loc 0)])) (.val (.int 1)))]))]))) (iss [(.assign 5 (.ite (.cmp (.bin .Add (.loc 4) (.val (.int 1))) .Lt (.bi .len (ies [(.loc 0)]))) (.sub (.loc 0) (.bin .Add (.loc 4) (.val (.int 1)))) (.val (.int 0)))),
 (.expr (.call (.val (.raw (.ref 600))) (ies [(.loc 3),(.bin .Mod (.bin .Add (.loc 5) (.bin .Mult (.val (.int 11)) (.loc 4))) (.val (.int 16))),(.bin .Add (.bin .Mod (.bin .FloorDiv (.loc 5) (.val (.int 16))) (.bin .Pow (.val (.int 2)) (.val (.int 80)))) (.bin .Mult (.val (.int 7)) (.loc 4)))])))])),
 (.whl (.cmp (.sub (.loc 3) (.val (.str (ofString "frames")))) .NotEq (.lst (ies []))) (iss [(.expr (.call (.val (.raw (.ref 588))) (ies [(.loc 3),(.bin .Mod (.loc 1) (.val (.int 729)))])))])),
 (.assign 6 (.bi .list (ies [(.sub (.loc 3) (.val (.str (ofString "out"))))]))),
 (.assign 7 (.call (.val (.raw (.ref 485))) (ies [(.loc 6)]))),
 (.iff (.or (.cmp (.loc 7) .NotEq (.call (.val (.raw (.ref 555))) (ies [(.loc 6)]))) (.or (.cmp (.loc 6) .NotEq (.sub (.loc 3) (.val (.str (ofString "out"))))) (.cmp (.call (.val (.raw (.ref 485))) (ies [(.val .none)])) .IsNot (.val .none)))) (iss [(.ret (.val (.bool .false)))]) (iss [])),
 (.ret (.and (.cmp (.call (.val (.raw (.ref 485))) (ies [(.loc 7)])) .Eq (.loc 7)) (.not (.bi .any (ies [(.comp2 (.bi .isbool (ies [(.loc 9),(.val (.raw (.type "bool")))])) 8 (.of (.loc 7)) 9 (.of (.loc 8)))])))))])
noncomputable def Mo:Data->Option FuncData
 |.func fd=>some fd |_=>none
noncomputable def Bd:Data->Option (Array Value)
 |.fields vs=>some vs |_=>none
noncomputable def zL:FuncBody->Option (List Stmt)
 |.stmts b=>some b |_=>none
noncomputable def Wm:Value->Option Addr
 |.ref a=>some a |_=>none
noncomputable def Iv:Value->Option Int
 |.int i _=>some i |_=>none
noncomputable def Gm:Value->Option Str
 |.str s _=>some s |_=>none
theorem Zj{d:Data}{fd:FuncData}(h:Mo d=some fd):d=.func fd:=by
 cases d<;>first|exact congrArg _ (aX h)|exact by contradiction
theorem Ad{d:Data}{vs:Array Value}(h:Bd d=some vs):d=.fields vs:=by
 cases d<;>first|exact congrArg _ (aX h)|exact by contradiction
theorem Ac{v:Value}{a:Addr}(h:Wm v=some a):v=.ref a:=by
 cases v<;>first|exact congrArg _ (aX h)|exact by contradiction
theorem Fo{v:Value}{i:Int}(h:Iv v=some i):∃t,v=.int i t:=by
 cases v<;>first|(cases h;exact⟨_,rfl⟩)|exact by contradiction
theorem Qb{v:Value}{s:Str}(h:Gm v=some s):∃t,v=.str s t:=by
 cases v<;>first|(cases h;exact⟨_,rfl⟩)|exact by contradiction
theorem We{b:FuncBody}{l:List Stmt}(h:zL b=some l):b=.stmts l:=by
 cases b<;>first|exact congrArg _ (aX h)|exact by contradiction
theorem Ah{α:Type}{o:Option α}{d:α}(h:o.isSome=true):o=some (o.getD d):=by
 cases o
 ·exact by contradiction
 ·rfl
noncomputable def fd?(K:Frag)(f:Addr):Option FuncData:=(K.lookup f).bind λo=>Mo o.data
noncomputable def fdOf(K:Frag)(f:Addr):FuncData:=(fd? K f).getD default
noncomputable def rR(fd:FuncData):List Stmt:=(zL fd.body).getD []
structure Ent where
 f:Addr
 ps:List Str
 rest:List Str
 nd:Nat
 ib:ISs
noncomputable def Xz(K:Frag)(v:Value):Option Str:=(Wm v).bind λc=>(K.lookup c).bind λo=>(Bd o.data).bind λvs=>vs[1]?.bind Gm
noncomputable def kindB(l:List (Str×NameKind))(p:Str):Bool:=l.lookup p==some .local||l.lookup p==some .cell
noncomputable def fnB(K:Frag)(f:Addr)(ps:List Str):Bool:=
 (fd? K f).isSome&&((zL (fdOf K f).body).isSome&&((fdOf K f).globals==mainGlobals&&((fdOf K f).builtins==builtinsNs&&((fdOf K f).closure.isEmpty&&((fdOf K f).scope.kind== .function&&(!(fdOf K f).scope.isCoroutine&&(!(fdOf K f).scope.isGenerator&&
   (Xz K (fdOf K f).code==some (fdOf K f).qualname&&(ps.all (kindB (fdOf K f).scope.names)&&(decide ps.Nodup&&fN ps.length 5))))))))))
theorem or_tt{a b:Bool}(h:(a||b)=true):a=true∨b=true:=Bool.or_eq_true_iff.mp h
theorem kN{a b:Bool}(h:(a&&b)=true):a=true/\b=true:=Bool.and_eq_true_iff.mp h
noncomputable def five(n:Nat)(a b c d e:Value):List Value:= [a,b,c,d,e].take n
theorem Rt:∀vs:List Value,vs.length<=5->∃a b c d e,five vs.length a b c d e=vs
 | [],_=>⟨.none,.none,.none,.none,.none,rfl⟩ | [a],_=>⟨a,.none,.none,.none,.none,rfl⟩ | [a,b],_=>⟨a,b,.none,.none,.none,rfl⟩ | [a,b,c],_=>⟨a,b,c,.none,.none,rfl⟩ | [a,b,c,d],_=>⟨a,b,c,d,.none,rfl⟩ | [a,b,c,d,e],_=>⟨a,b,c,d,e,rfl⟩ |_::_::_::_::_::_::l,h=>absurd h (Nat.not_le.mpr (eH (by decide:5<6) (Nat.le_add_left 6 l.length)))
noncomputable def Xp(K:Frag)(f:Addr)(n:Nat):Value->Value->Value->Value->Value->Setting->Option (List (Str×Value)):=λa b c d e S=>peek K S (bindArgs (fdOf K f) ⟨five n a b c d e,[]⟩)
noncomputable def Wp(ps:List Str)(nd n:Nat):Value->Value->Value->Value->Value->Setting->Option (List (Str×Value)):=λa b c d e J=>some (ps.zip (five n a b c d e++bZ nd .none))
theorem Mv{K:Frag}{f:Addr}{ps:List Str}{nd:Nat}(h:fnB K f ps=true)(hb:Xp K f (ps.length-nd)=Wp ps nd (ps.length-nd)):Yd K f (fdOf K f) (rR (fdOf K f)) ps nd:=by
 refine e02 (kN h) λh1 h=>?_
 refine e02 (kN h) λh2 h=>?_
 refine e02 (kN h) λh3 h=>?_
 refine e02 (kN h) λh4 h=>?_
 refine e02 (kN h) λh5 h=>?_
 refine e02 (kN h) λh6 h=>?_
 refine e02 (kN h) λh7 h=>?_
 refine e02 (kN h) λh8 h=>?_
 refine e02 (kN h) λh9 h=>?_
 refine e02 (kN h) λh10 h=>?_
 refine e02 (kN h) λh11 h12=>?_
 have hf:=Ah (d:=default) h1;refine⟨?_,We (Ah h2:_=some (rR _)),eq_of_beq h3,eq_of_beq h4,List.isEmpty_iff.mp h5,eq_of_beq h6,(dT _).mp h7,(dT _).mp h8,?_,λs vals X e=>?_,λp hp=>?_,of_decide_eq_true h11⟩
 ·refine kY hf λo ho e=>?_
  exact⟨o,ho,Zj e⟩
 ·refine kY (eq_of_beq h9) λc hc e=>?_
  refine kY e λo ho e=>?_
  refine kY e λvs hv e=>?_
  refine kY e λq hq e=>?_
  refine e11 (Qb e) λt z1z=>?_;obtain rfl:=z1z
  exact⟨c,o,vs,t,Ac hc,ho,Ad hv,hq⟩
 ·have hl:ps.length-nd=vals.length:=by exact Eq.symm (Nat.eq_sub_of_add_eq e)
  refine e51 (Rt vals (aC (Nat.le.intro e) (cD h12))) λa b c d x hx=>?_
  rw[hl] at hb;have:=kp_binds (fd:=fdOf K f) (args:=⟨five vals.length a b c d x,[]⟩) X λS=>congrFun (congrFun (congrFun (congrFun (congrFun (congrFun hb a) b) c) d) x) S
  rw[hx] at this;exact this
 ·exact(or_tt (cR.mp h10 p hp)).imp eq_of_beq eq_of_beq
noncomputable abbrev Obs:=Bool×ISs×(Value->Value->Value->Value->Value->Setting->Option (List (Str×Value)))
noncomputable def obsE(K:Frag)(e:Ent):Obs:=(fnB K e.f e.ps&&decide (e.ps++e.rest).Nodup,erSs {nm:=e.ps++e.rest,kd:=(fdOf K e.f).scope.names,gt:=gtab,comp:=false} 60 (rR (fdOf K e.f)),Xp K e.f (e.ps.length-e.nd))
noncomputable def valE(e:Ent):Obs:=(true,e.ib,Wp e.ps e.nd (e.ps.length-e.nd))
noncomputable def Xf:List Str:= [ofString "self",At.plain.str,At.first.str,At.second.str]
noncomputable def ftab:List Ent:=
 [⟨363,[ofString "self"],[],0,ib_code⟩,
  ⟨369,[ofString "self"],[ofString "part"],0,ib_parts⟩,
  ⟨376,[ofString "self"],[],0,ib_labels⟩,
  ⟨65,[ofString "x",ofString "bits"],[],0,ib_unsigned⟩,
  ⟨72,[ofString "x",ofString "bits"],[],0,ib_signed⟩,
  ⟨79,[ofString "bits"],[],0,ib_least_signed⟩,
  ⟨86,[ofString "x",ofString "narrow",ofString "bits"],[],0,ib_widened⟩,
  ⟨93,[ofString "x",ofString "bits"],[],0,ib_eqz⟩,
  ⟨100,[ofString "x",ofString "bits"],[ofString "found",ofString "half"],0,ib_clz⟩,
  ⟨107,[ofString "x",ofString "bits"],[ofString "found",ofString "half"],0,ib_ctz⟩,
  ⟨114,[ofString "x",ofString "bits"],[ofString "found"],0,ib_popcnt⟩,
  ⟨121,[ofString "x",ofString "y",ofString "bits"],[],0,ib_add⟩,
  ⟨128,[ofString "x",ofString "y",ofString "bits"],[],0,ib_sub⟩,
  ⟨135,[ofString "x",ofString "y",ofString "bits"],[],0,ib_mul⟩,
  ⟨142,[ofString "a",ofString "b"],[ofString "found"],0,ib_toward_nought⟩,
  ⟨149,[ofString "x",ofString "y",ofString "bits"],[ofString "a",ofString "b"],0,ib_div_s⟩,
  ⟨156,[ofString "x",ofString "y",ofString "bits"],[],0,ib_div_u⟩,
  ⟨163,[ofString "x",ofString "y",ofString "bits"],[ofString "a",ofString "b"],0,ib_rem_s⟩,
  ⟨170,[ofString "x",ofString "y",ofString "bits"],[],0,ib_rem_u⟩,
  ⟨177,[ofString "x",ofString "y",ofString "bits"],[],0,ib_bits_and⟩,
  ⟨184,[ofString "x",ofString "y",ofString "bits"],[],0,ib_bits_or⟩,
  ⟨191,[ofString "x",ofString "y",ofString "bits"],[],0,ib_bits_xor⟩,
  ⟨198,[ofString "x",ofString "y",ofString "bits"],[],0,ib_shl⟩,
  ⟨205,[ofString "x",ofString "y",ofString "bits"],[],0,ib_shr_s⟩,
  ⟨212,[ofString "x",ofString "y",ofString "bits"],[],0,ib_shr_u⟩,
  ⟨219,[ofString "x",ofString "y",ofString "bits"],[ofString "turn"],0,ib_rotl⟩,
  ⟨226,[ofString "x",ofString "y",ofString "bits"],[],0,ib_rotr⟩,
  ⟨233,[ofString "x",ofString "y",ofString "bits"],[],0,ib_eq⟩,
  ⟨240,[ofString "x",ofString "y",ofString "bits"],[],0,ib_ne⟩,
  ⟨247,[ofString "x",ofString "y",ofString "bits"],[],0,ib_lt_s⟩,
  ⟨254,[ofString "x",ofString "y",ofString "bits"],[],0,ib_lt_u⟩,
  ⟨261,[ofString "x",ofString "y",ofString "bits"],[],0,ib_gt_s⟩,
  ⟨268,[ofString "x",ofString "y",ofString "bits"],[],0,ib_gt_u⟩,
  ⟨275,[ofString "x",ofString "y",ofString "bits"],[],0,ib_le_s⟩,
  ⟨282,[ofString "x",ofString "y",ofString "bits"],[],0,ib_le_u⟩,
  ⟨289,[ofString "x",ofString "y",ofString "bits"],[],0,ib_ge_s⟩,
  ⟨296,[ofString "x",ofString "y",ofString "bits"],[],0,ib_ge_u⟩,
  ⟨306,[ofString "code",ofString "first32",ofString "first64",ofString "many"],[],0,ib_place_in⟩,
  ⟨313,[ofString "code"],[],0,ib_narrow_of⟩,
  ⟨320,[ofString "code"],[],0,ib_is_unary⟩,
  ⟨327,[ofString "code"],[],0,ib_is_binary⟩,
  ⟨334,[ofString "code",ofString "x"],[ofString "found",ofString "widths"],0,ib_reckon1⟩,
  ⟨341,[ofString "code",ofString "x",ofString "y"],[ofString "found"],0,ib_reckon2⟩,
  ⟨390,[ofString "body"],[ofString "here",ofString "opened",ofString "plain",ofString "piece"],0,ib_pieces_of⟩,
  ⟨397,[ofString "pieces",ofString "body"],[ofString "piece"],0,ib_put_pieces⟩,
  ⟨404,[ofString "pieces"],[ofString "body"],0,ib_body_of⟩,
  ⟨412,[ofString "code"],[ofString "low"],0,ib_neutral_of⟩,
  ⟨419,[ofString "piece"],[],0,ib_constant_of⟩,
  ⟨426,[ofString "bits",ofString "number"],[],0,ib_constant⟩,
  ⟨433,[ofString "code"],[ofString "takes"],0,ib_widths_of⟩,
  ⟨438,[ofString "code",ofString "numbers"],[ofString "takes",ofString "puts",ofString "bare",ofString "number",ofString "found"],0,ib_reckoned⟩,
  ⟨443,[ofString "found"],[ofString "code",ofString "many",ofString "ahead",ofString "piece"],0,ib_fold_number⟩,
  ⟨450,[ofString "labels",ofString "number"],[ofString "spot"],0,ib_chosen_label⟩,
  ⟨457,[ofString "found",ofString "number"],[],0,ib_fold_select⟩,
  ⟨464,[ofString "found"],[ofString "last",ofString "number",ofString "part"],0,ib_fold_choice⟩,
  ⟨471,[ofString "found"],[],0,ib_fold_last⟩,
  ⟨478,[ofString "pieces"],[ofString "found",ofString "piece",ofString "part"],0,ib_fold_pieces⟩,
  ⟨485,[ofString "body"],[ofString "pieces"],0,ib_folded⟩,
  ⟨492,[ofString "code"],[ofString "bits",ofString "test",ofString "first",ofString "names"],0,ib__law_op⟩,
  ⟨499,[ofString "place"],[],0,ib__law_code⟩,
  ⟨507,[],[],0,ib__law_idle⟩,
  ⟨515,[ofString "number",ofString "bits"],[],0,ib__law_round⟩,
  ⟨520,[ofString "name",ofString "x",ofString "bits"],[ofString "u",ofString "k"],0,ib__law_one⟩,
  ⟨527,[ofString "name",ofString "x",ofString "y",ofString "bits"],[ofString "u",ofString "v",ofString "many"],0,ib__law_parted⟩,
  ⟨534,[ofString "name",ofString "x",ofString "y",ofString "bits"],[ofString "u",ofString "v",ofString "k",ofString "holds"],0,ib__law_two⟩,
  ⟨541,[ofString "op",ofString "ahead",ofString "last"],[ofString "name",ofString "takes",ofString "puts",ofString "told"],0,ib__law_sum⟩,
  ⟨548,[ofString "body",ofString "at"],[ofString "deep",ofString "other",ofString "end",ofString "code"],0,ib__law_sides⟩,
  ⟨555,[ofString "body"],[ofString "at",ofString "op",ofString "last",ofString "change",ofString "end",ofString "yes",ofString "no"],0,ib__law_folded⟩,
  ⟨562,[ofString "kind",ofString "digits"],[ofString "pick",ofString "bits"],0,ib__law_leaf⟩,
  ⟨569,[ofString "world",ofString "op",ofString "takes",ofString "gives",ofString "digits"],[ofString "stack",ofString "kind"],0,ib__law_do⟩,
  ⟨576,[ofString "world",ofString "label"],[ofString "frame"],0,ib__law_carried⟩,
  ⟨581,[ofString "world",ofString "code",ofString "digits"],[ofString "frame",ofString "stack",ofString "kind"],0,ib__law_shut⟩,
  ⟨588,[ofString "world",ofString "digits"],[],0,ib__law_end⟩,
  ⟨593,[ofString "world",ofString "pick",ofString "digits"],[ofString "many",ofString "label",ofString "carried",ofString "alike",ofString "other",ofString "labels"],0,ib__law_branch⟩,
  ⟨600,[ofString "world",ofString "pick",ofString "digits"],[ofString "frames",ofString "code",ofString "name",ofString "takes",ofString "puts",ofString "kinds",ofString "kind",ofString "op",ofString "gives"],0,ib__law_turn⟩,
  ⟨605,[ofString "script"],[ofString "first",ofString "parts",ofString "world",ofString "turn",ofString "number",ofString "body",ofString "told",ofString "op",ofString "part"],0,ib_law⟩,
  ⟨356,Xf,[],0,ib_pinit⟩,
  ⟨356,Xf,[],1,ib_pinit⟩,
  ⟨356,Xf,[],2,ib_pinit⟩]
theorem Nz{cx:Cx}{e:Ent}(h:obsE cx.K e=valE e)(GA:∀x v,gtab.lookup x=some v->GV cx x v):Fn cx e.f (fdOf cx.K e.f) (rR (fdOf cx.K e.f)) e.ps e.rest e.nd gtab e.ib:=
 have b:=kN (congrArg (·.1) h)
 ⟨Mv b.1 (congrArg (·.2.2) h),of_decide_eq_true b.2,GA,congrArg (·.2.1) h⟩
noncomputable def Eh(v:Value)(u:V):Bool:=match u with
 |.int j=>Iv v==some j |.str s=>Gm v==some s |.raw w=>decide (v=w) |_=>false
noncomputable def Vm:List Value->List V->Bool
 | [],[]=>true |v::vs,u::us=>Eh v u&&Vm vs us |_,_=>false
noncomputable def Yu:Data->Option (Array Value×Nat)
 |.seq items n=>some (items,n) |_=>none
theorem Om{d:Data}{q:Array Value×Nat}(h:Yu d=some q):d=.seq q.1 q.2:=by
 cases d<;>first|(cases h;rfl)|exact by contradiction
noncomputable def tupOf(K:Frag)(v:Value):Option (Array Value):=(Wm v).bind λa=>(K.lookup a).bind λo=>if o.cls=.type "tuple" then(Yu o.data).map (·.1) else none
noncomputable def repB(K:Frag)(v:Value)(u:V):Bool:=match u with
 |.tup us=>(tupOf K v).any λitems=>Vm items.toList us |u=>Eh v u
theorem vN{h:Heap}{v:Value}{u:V}(e:Eh v u=true):Rep h v u:=by
 cases u with
 |int j=>refine e11 (Fo (eq_of_beq e)) λt z2z=>?_;obtain rfl:=z2z;exact .int _ _
 |str s=>refine e11 (Qb (eq_of_beq e)) λt z3z=>?_;obtain rfl:=z3z;exact .str _ _
 |raw w=>obtain rfl:=of_decide_eq_true e;exact .raw _
 |_=>exact by contradiction
theorem Yb{h:Heap}:∀{vs:List Value} {us:List V},Vm vs us=true->Reps h vs us
 | [],[],_=>.nil |v::vs,u::us,e=>.cons (vN (kN e).1) (Yb (kN e).2)
theorem Lr{K:Frag}{h:Heap}(X:K.In h){v:Value}{u:V}(e:repB K v u=true):Rep h v u:=by
 cases u with
 |tup us=>
  refine e12 ((jO _ _).mp e) λitems h1 e=>?_
  refine kY h1 λa ha h2=>?_
  refine kY h2 λo ho h3=>?_
  obtain rfl:=Ac ha;by_cases c:o.cls=.type "tuple"
  ·rw[if_pos c] at h3
   refine mapS h3 λq hq z4z=>?_;obtain rfl:=z4z
   exact .tup ⟨o,X _ _ ho,c,q.2,Om hq⟩ (Yb e)
  ·rw[if_neg c] at h3;exact by contradiction
 |_=>exact vN e
noncomputable def gvB(K:Frag)(y:Str×V):Bool:=
 (nsIn K mainGlobals y.1).any λo=>o.elim ((bootBuiltins y.1).any λv=>Eh v y.2&& !(y.1==("__name__":Str))) λv=>repB K v y.2
theorem gv_ok{cx:Cx}(T:TopOk cx){x:Str}{u:V}(e:gvB cx.K (x,u)=true):GV cx x u:=by
 refine e12 ((jO _ _).mp e) λo q e=>?_
 cases o with
 |some v=>exact⟨v,.inl (mg_of T.K T.g q),Lr T.K e⟩ |none=>
  refine e12 ((jO _ _).mp e) λv b e=>?_
  exact⟨v,.inr ⟨mg_none_of T.K T.g q,(T.builtins x λz=>by rw[z] at e;exact by have h:=(kN e).2;contradiction).trans b⟩,vN (kN e).1⟩
theorem vT{x:Str}{v:V}:∀{l:List (Str×V)},l.lookup x=some v->(x,v)∈l
 |(y,w)::l,e=>by
  rw[bR] at e;cases q:x==y with
  |true=>rw[q] at e;injection e with qz;subst qz;rw[eq_of_beq q];exact .head _
  |false=>rw[q] at e;exact .tail _ (vT e)
noncomputable def atB(K:Frag)(x:At):Option (Option Value)×Option (Option Value):=(findIn K (.ref jV) x.str,takerIn K jV x.str)
noncomputable def posn(l a b:Nat):Pos:=⟨l,a,l,b⟩
noncomputable def bod28:List Stmt:= [.Expr (.Call (.Attribute (.Name (ofString "Exception") (posn 5 8 17)) (ofString "__init__") (posn 5 8 26)) [.Name (ofString "self") (posn 5 27 31),.Name (ofString "why") (posn 5 33 36)] [] (posn 5 8 37)) (posn 5 8 37),
 .Assign [.Attribute (.Name (ofString "self") (posn 6 8 12)) (ofString "why") (posn 6 8 16)] (.Name (ofString "why") (posn 6 19 22)) (posn 6 8 22)]
noncomputable def Xu:Obj:=excClassObj (ofString "Trap") (ofString "Trap") jZ 43 [.ref 31] tbm true [] [] false none none (some (.ref 35)) none (some (.str (ofString "Trap") 218)) (some (.str (ofString "Trap") 226)) (some (.bool true)) "Exception.__new__"
noncomputable def allF:List Addr:= [65,72,79,86,93,100,107,114,121,128,135,142,149,156,163,170,177,184,191,198,205,212,219,226,233,240,247,254,261,268,275,282,289,296,306,313,320,327,334,341,363,369,376,379,390,397,404,412,419,426,433,438,443,450,457,464,471,478,485,492,499,507,515,520,527,534,541,548,555,562,569,576,581,588,593,600,605]
noncomputable def obsK(K:Frag):=
 (findIn K (.ref jV) "__getattribute__",findIn K (.ref jV) "__getattr__",findIn K (.ref jV) "__setattr__",hasDictIn K jV&&plainOver K jV&&makesIn K jV&&(gtab.all (gvB K)&&allF.all λf=>keepIn K (.ref f))&&fnB K 28 [ofString "self",ofString "why"],[atB K .plain,atB K .first,atB K .second],
  (findIn K (.ref jV) "__init__",typeIn K (.ref 356)),(findIn K (.ref jV) "parts",typeIn K (.ref 369)),(findIn K (.ref jV) "labels",typeIn K (.ref 376)),
  (findIn K (.ref jV) "code",specialIn K (.ref 364) "__get__",takesIn K (.ref 364),(recIn K 364 "property").map List.head?),
  K.lookup jZ,(findIn K (.ref jZ) "__init__",typeIn K (.ref 28)),(specialIn K (.ref jZ) "__call__",instIn K (.ref jZ) (.type "type"),keepIn K (.ref jZ),mroIn K jZ (.ref jZ)),
  (findIn K (.ref jZ) "__setattr__",findIn K (.ref jZ) "why",mroIn K jZ (.type "object")),
  (Xp K 28 2,rR (fdOf K 28),[ofString "self",ofString "why",ofString "Exception"].map (λx=>(fdOf K 28).scope.names.lookup x),findCls K (.type "Exception") (.type "type") "__init__"),
  nsIn K mainGlobals (ofString "Exception"),nsIn K mainGlobals (ofString "Trap"),nsIn K mainGlobals (ofString "law"))
noncomputable def valK:Option (Option Value)×Option (Option Value)×Option (Option Value)×Bool×List (Option (Option Value)×Option (Option Value))×(Option (Option Value)×Option Value)×(Option (Option Value)×Option Value)×(Option (Option Value)×Option Value)×
 (Option (Option Value)×Option (Option Value)×Option Bool×Option (Option Value))×Option Obj×(Option (Option Value)×Option Value)×(Option (Option Value)×Option Bool×Bool×Option Bool)×(Option (Option Value)×Option (Option Value)×Option Bool)×
 ((Value->Value->Value->Value->Value->Setting->Option (List (Str×Value)))×List Stmt×List (Option NameKind)×Option CFound)×Option (Option Value)×Option (Option Value)×Option (Option Value):=
 (some (some (.builtin "object.__getattribute__")),some none,some (some (.builtin "object.__setattr__")),true,[(some none,some none),(some none,some none),(some none,some none)],
  (some (some (.ref 356)),some (.type "function")),(some (some (.ref 369)),some (.type "function")),(some (some (.ref 376)),some (.type "function")),
  (some (some (.ref 364)),some (some (.builtin "property.__get__")),some true,some (some (.ref 363))),
  some Xu,
  (some (some (.ref 28)),some (.type "function")),(some (some (.builtin "type.__call__")),some true,true,some true),
  (some (some (.builtin "object.__setattr__")),some none,some true),
  (Wp [ofString "self",ofString "why"] 0 2,bod28,[some .local,some .local,some .globalImplicit],some (.val (.builtin "Exception.__init__"))),
  some none,some (some (.ref 44)),some (some (.ref 605)))
theorem kok{K:Frag}(h:obsK K=valK):KOk K:=
 have b:=kN (congrArg (·.2.2.2.1) h);have b2:=kN (kN (kN b.1).1).1;have a:=congrArg (·.2.2.2.2.1) h;have c:=congrArg (·.2.2.2.2.2.2.2.2.1) h
 {ga:=congrArg (·.1) h
  gt:=congrArg (·.2.1) h
  sa:=congrArg (·.2.2.1) h
  hd:=b2.1
  po:=b2.2
  at_:=λx=>match x with
   |.plain=>fS (cY a).1 |.first=>fS (cY (cY a).2).1
   |.second=>fS (cY (cY (cY a).2).2).1
  makes:=(kN (kN b.1).1).2
  init:=fS (congrArg (·.2.2.2.2.2.1) h)
  parts:=fS (congrArg (·.2.2.2.2.2.2.1) h)
  labels:=fS (congrArg (·.2.2.2.2.2.2.2.1) h)
  code:=by
   refine mapS ((congrArg (·.2.2.2) c)) λl hl e=>?_
   cases l with
   |nil=>exact by contradiction
   |cons v l=>injection e with qz;subst qz;exact⟨364,l,congrArg (·.1) c,congrArg (·.2.1) c,congrArg (·.2.2.1) c,hl⟩}
theorem tinit{K:Frag}(h:obsK K=valK):zC K (fdOf K 28) (rR (fdOf K 28)):=
 have t:K.lookup jZ=some Xu:=congrArg (·.2.2.2.2.2.2.2.2.2.1) h;have i:=congrArg (·.2.2.2.2.2.2.2.2.2.2.1) h;have c:=congrArg (·.2.2.2.2.2.2.2.2.2.2.2.1) h;have s:=congrArg (·.2.2.2.2.2.2.2.2.2.2.2.2.1) h;have f:=congrArg (·.2.2.2.2.2.2.2.2.2.2.2.2.2.1) h;have n:=congrArg (·.2.2.1) f
 {trap:=⟨_,_,_,_,_,_,_,_,_,_,_,_,_,_,_,t⟩
  init:=fS i
  call:=congrArg (·.1) c
  typ:=congrArg (·.2.1) c
  keep:=congrArg (·.2.2.1) c
  self:=congrArg (·.2.2.2) c
  sa:=congrArg (·.1) s
  cls:=⟨_,by unfold clsIn;rw[t];rfl,rfl,rfl⟩
  why:=congrArg (·.2.1) s
  top:=congrArg (·.2.2) s
  fn:=Mv (kN (congrArg (·.2.2.2.1) h)).2 (congrArg (·.1) f)
  bd:=⟨_,_,_,_,_,_,_,_,_,_,congrArg (·.2.1) f,rfl⟩
  nself:=(cY n).1
  nwhy:=(cY (cY n).2).1
  nexc:=(cY (cY (cY n).2).2).1
  einit:=congrArg (·.2.2.2) f}
structure Prog(cx:Cx):Prop extends TopX cx where
 GA:∀x v,gtab.lookup x=some v->GV cx x v
 keep:(allF.all λf=>keepIn cx.K (.ref f))=true
 fns:ftab.map (obsE cx.K)=ftab.map valE
theorem Nr{cx:Cx}(T:TopOk cx)(h:obsK cx.K=valK)(hf:ftab.map (obsE cx.K)=ftab.map valE):Prog cx where
 toTopOk:=T
 KO:=kok h
 TI:=⟨_,_,tinit h⟩
 noExc:=mg_none_of T.K T.g (congrArg (·.2.2.2.2.2.2.2.2.2.2.2.2.2.2.1) h)
 exc:=T.builtins _ (by decide)
 trap:=mg_of T.K T.g (congrArg (·.2.2.2.2.2.2.2.2.2.2.2.2.2.2.2.1) h)
 GA:=λJ J e=>gv_ok T (cR.mp (kN (kN (kN (congrArg (·.2.2.2.1) h)).1).2).1 _ (vT e))
 keep:=(kN (kN (kN (congrArg (·.2.2.2.1) h)).1).2).2
 fns:=hf
noncomputable def FnX(cx:Cx)(f:Addr)(ps rest:List Str)(ib:ISs):Prop:=∃fd body,Fn cx f fd body ps rest 0 gtab ib
theorem FnX.ct{cx:Cx}{n:Nat}{f:Addr}{ps rest:List Str}{ib:ISs}{us:List V}{σ:H}{Q:QV}{X:XH}(F:FnX cx f ps rest ib)(T:TopX cx)(hus:us.length=ps.length)
 (w:wpSs (CTK cx n) ib (rho0 us rest.length) σ (λfl J σ=>match fl with|.ret v=>Q v σ|.next=>Q .none σ|_=>False) (λJ σ=>X σ)):CT cx (n+2) f us σ Q X:=by
 refine e21 F λfd body F=>?_
 exact F.ct T hus w
theorem Prog.ent{cx:Cx}(T:Prog cx)(i:Nat){e:Ent}(h:ftab[i]?=some e):Fn cx e.f (fdOf cx.K e.f) (rR (fdOf cx.K e.f)) e.ps e.rest e.nd gtab e.ib:=
 Nz (List.map_inj_left.mp T.fns e (cJ h)) T.GA
theorem Prog.at{cx:Cx}(T:Prog cx)(i:Nat){f:Addr}{ps rest:List Str}{ib:ISs}(h:ftab[i]?=some ⟨f,ps,rest,0,ib⟩):FnX cx f ps rest ib:=⟨_,_,T.ent i h⟩
theorem F_code{cx:Cx}(T:Prog cx):FnX cx 363 [ofString "self"] [] ib_code:=T.at 0 rfl
theorem Qu{cx:Cx}(T:Prog cx):FnX cx 369 [ofString "self"] [ofString "part"] ib_parts:=T.at 1 rfl
theorem Oq{cx:Cx}(T:Prog cx):FnX cx 376 [ofString "self"] [] ib_labels:=T.at 2 rfl
theorem Lg{cx:Cx}(T:Prog cx):FnX cx 65 [ofString "x",ofString "bits"] [] ib_unsigned:=T.at 3 rfl
theorem Mq{cx:Cx}(T:Prog cx):FnX cx 72 [ofString "x",ofString "bits"] [] ib_signed:=T.at 4 rfl
theorem wT{cx:Cx}(T:Prog cx):FnX cx 79 [ofString "bits"] [] ib_least_signed:=T.at 5 rfl
theorem Dl{cx:Cx}(T:Prog cx):FnX cx 86 [ofString "x",ofString "narrow",ofString "bits"] [] ib_widened:=T.at 6 rfl
theorem F_eqz{cx:Cx}(T:Prog cx):FnX cx 93 [ofString "x",ofString "bits"] [] ib_eqz:=T.at 7 rfl
theorem F_clz{cx:Cx}(T:Prog cx):FnX cx 100 [ofString "x",ofString "bits"] [ofString "found",ofString "half"] ib_clz:=T.at 8 rfl
theorem F_ctz{cx:Cx}(T:Prog cx):FnX cx 107 [ofString "x",ofString "bits"] [ofString "found",ofString "half"] ib_ctz:=T.at 9 rfl
theorem Nq{cx:Cx}(T:Prog cx):FnX cx 114 [ofString "x",ofString "bits"] [ofString "found"] ib_popcnt:=T.at 10 rfl
theorem F_add{cx:Cx}(T:Prog cx):FnX cx 121 [ofString "x",ofString "y",ofString "bits"] [] ib_add:=T.at 11 rfl
theorem F_sub{cx:Cx}(T:Prog cx):FnX cx 128 [ofString "x",ofString "y",ofString "bits"] [] ib_sub:=T.at 12 rfl
theorem F_mul{cx:Cx}(T:Prog cx):FnX cx 135 [ofString "x",ofString "y",ofString "bits"] [] ib_mul:=T.at 13 rfl
theorem uI{cx:Cx}(T:Prog cx):FnX cx 142 [ofString "a",ofString "b"] [ofString "found"] ib_toward_nought:=T.at 14 rfl
theorem Su{cx:Cx}(T:Prog cx):FnX cx 149 [ofString "x",ofString "y",ofString "bits"] [ofString "a",ofString "b"] ib_div_s:=T.at 15 rfl
theorem Ru{cx:Cx}(T:Prog cx):FnX cx 156 [ofString "x",ofString "y",ofString "bits"] [] ib_div_u:=T.at 16 rfl
theorem Pu{cx:Cx}(T:Prog cx):FnX cx 163 [ofString "x",ofString "y",ofString "bits"] [ofString "a",ofString "b"] ib_rem_s:=T.at 17 rfl
theorem Ou{cx:Cx}(T:Prog cx):FnX cx 170 [ofString "x",ofString "y",ofString "bits"] [] ib_rem_u:=T.at 18 rfl
theorem Sg{cx:Cx}(T:Prog cx):FnX cx 177 [ofString "x",ofString "y",ofString "bits"] [] ib_bits_and:=T.at 19 rfl
theorem Hl{cx:Cx}(T:Prog cx):FnX cx 184 [ofString "x",ofString "y",ofString "bits"] [] ib_bits_or:=T.at 20 rfl
theorem Rg{cx:Cx}(T:Prog cx):FnX cx 191 [ofString "x",ofString "y",ofString "bits"] [] ib_bits_xor:=T.at 21 rfl
theorem F_shl{cx:Cx}(T:Prog cx):FnX cx 198 [ofString "x",ofString "y",ofString "bits"] [] ib_shl:=T.at 22 rfl
theorem Mu{cx:Cx}(T:Prog cx):FnX cx 205 [ofString "x",ofString "y",ofString "bits"] [] ib_shr_s:=T.at 23 rfl
theorem Lu{cx:Cx}(T:Prog cx):FnX cx 212 [ofString "x",ofString "y",ofString "bits"] [] ib_shr_u:=T.at 24 rfl
theorem F_rotl{cx:Cx}(T:Prog cx):FnX cx 219 [ofString "x",ofString "y",ofString "bits"] [ofString "turn"] ib_rotl:=T.at 25 rfl
theorem F_rotr{cx:Cx}(T:Prog cx):FnX cx 226 [ofString "x",ofString "y",ofString "bits"] [] ib_rotr:=T.at 26 rfl
theorem F_eq{cx:Cx}(T:Prog cx):FnX cx 233 [ofString "x",ofString "y",ofString "bits"] [] ib_eq:=T.at 27 rfl
theorem F_ne{cx:Cx}(T:Prog cx):FnX cx 240 [ofString "x",ofString "y",ofString "bits"] [] ib_ne:=T.at 28 rfl
theorem F_lt_s{cx:Cx}(T:Prog cx):FnX cx 247 [ofString "x",ofString "y",ofString "bits"] [] ib_lt_s:=T.at 29 rfl
theorem F_lt_u{cx:Cx}(T:Prog cx):FnX cx 254 [ofString "x",ofString "y",ofString "bits"] [] ib_lt_u:=T.at 30 rfl
theorem F_gt_s{cx:Cx}(T:Prog cx):FnX cx 261 [ofString "x",ofString "y",ofString "bits"] [] ib_gt_s:=T.at 31 rfl
theorem F_gt_u{cx:Cx}(T:Prog cx):FnX cx 268 [ofString "x",ofString "y",ofString "bits"] [] ib_gt_u:=T.at 32 rfl
theorem F_le_s{cx:Cx}(T:Prog cx):FnX cx 275 [ofString "x",ofString "y",ofString "bits"] [] ib_le_s:=T.at 33 rfl
theorem F_le_u{cx:Cx}(T:Prog cx):FnX cx 282 [ofString "x",ofString "y",ofString "bits"] [] ib_le_u:=T.at 34 rfl
theorem F_ge_s{cx:Cx}(T:Prog cx):FnX cx 289 [ofString "x",ofString "y",ofString "bits"] [] ib_ge_s:=T.at 35 rfl
theorem F_ge_u{cx:Cx}(T:Prog cx):FnX cx 296 [ofString "x",ofString "y",ofString "bits"] [] ib_ge_u:=T.at 36 rfl
theorem Ng{cx:Cx}(T:Prog cx):FnX cx 306 [ofString "code",ofString "first32",ofString "first64",ofString "many"] [] ib_place_in:=T.at 37 rfl
theorem Be{cx:Cx}(T:Prog cx):FnX cx 313 [ofString "code"] [] ib_narrow_of:=T.at 38 rfl
theorem Og{cx:Cx}(T:Prog cx):FnX cx 320 [ofString "code"] [] ib_is_unary:=T.at 39 rfl
theorem Ce{cx:Cx}(T:Prog cx):FnX cx 327 [ofString "code"] [] ib_is_binary:=T.at 40 rfl
theorem pV{cx:Cx}(T:Prog cx):FnX cx 334 [ofString "code",ofString "x"] [ofString "found",ofString "widths"] ib_reckon1:=T.at 41 rfl
theorem El{cx:Cx}(T:Prog cx):FnX cx 341 [ofString "code",ofString "x",ofString "y"] [ofString "found"] ib_reckon2:=T.at 42 rfl
theorem Ae{cx:Cx}(T:Prog cx):FnX cx 390 [ofString "body"] [ofString "here",ofString "opened",ofString "plain",ofString "piece"] ib_pieces_of:=T.at 43 rfl
theorem Eb{cx:Cx}(T:Prog cx):FnX cx 397 [ofString "pieces",ofString "body"] [ofString "piece"] ib_put_pieces:=T.at 44 rfl
theorem Gl{cx:Cx}(T:Prog cx):FnX cx 404 [ofString "pieces"] [ofString "body"] ib_body_of:=T.at 45 rfl
theorem Fb{cx:Cx}(T:Prog cx):FnX cx 412 [ofString "code"] [ofString "low"] ib_neutral_of:=T.at 46 rfl
theorem xQ{cx:Cx}(T:Prog cx):FnX cx 419 [ofString "piece"] [] ib_constant_of:=T.at 47 rfl
theorem Qg{cx:Cx}(T:Prog cx):FnX cx 426 [ofString "bits",ofString "number"] [] ib_constant:=T.at 48 rfl
theorem Zd{cx:Cx}(T:Prog cx):FnX cx 433 [ofString "code"] [ofString "takes"] ib_widths_of:=T.at 49 rfl
theorem Mg{cx:Cx}(T:Prog cx):FnX cx 438 [ofString "code",ofString "numbers"] [ofString "takes",ofString "puts",ofString "bare",ofString "number",ofString "found"] ib_reckoned:=T.at 50 rfl
theorem xO{cx:Cx}(T:Prog cx):FnX cx 443 [ofString "found"] [ofString "code",ofString "many",ofString "ahead",ofString "piece"] ib_fold_number:=T.at 51 rfl
theorem wU{cx:Cx}(T:Prog cx):FnX cx 450 [ofString "labels",ofString "number"] [ofString "spot"] ib_chosen_label:=T.at 52 rfl
theorem xM{cx:Cx}(T:Prog cx):FnX cx 457 [ofString "found",ofString "number"] [] ib_fold_select:=T.at 53 rfl
theorem xP{cx:Cx}(T:Prog cx):FnX cx 464 [ofString "found"] [ofString "last",ofString "number",ofString "part"] ib_fold_choice:=T.at 54 rfl
theorem Ee{cx:Cx}(T:Prog cx):FnX cx 471 [ofString "found"] [] ib_fold_last:=T.at 55 rfl
theorem xN{cx:Cx}(T:Prog cx):FnX cx 478 [ofString "pieces"] [ofString "found",ofString "piece",ofString "part"] ib_fold_pieces:=T.at 56 rfl
theorem De{cx:Cx}(T:Prog cx):FnX cx 485 [ofString "body"] [ofString "pieces"] ib_folded:=T.at 57 rfl
theorem Il{cx:Cx}(T:Prog cx):FnX cx 492 [ofString "code"] [ofString "bits",ofString "test",ofString "first",ofString "names"] ib__law_op:=T.at 58 rfl
theorem Je{cx:Cx}(T:Prog cx):FnX cx 499 [ofString "place"] [] ib__law_code:=T.at 59 rfl
theorem Ie{cx:Cx}(T:Prog cx):FnX cx 507 [] [] ib__law_idle:=T.at 60 rfl
theorem Hb{cx:Cx}(T:Prog cx):FnX cx 515 [ofString "number",ofString "bits"] [] ib__law_round:=T.at 61 rfl
theorem Wg{cx:Cx}(T:Prog cx):FnX cx 520 [ofString "name",ofString "x",ofString "bits"] [ofString "u",ofString "k"] ib__law_one:=T.at 62 rfl
theorem xR{cx:Cx}(T:Prog cx):FnX cx 527 [ofString "name",ofString "x",ofString "y",ofString "bits"] [ofString "u",ofString "v",ofString "many"] ib__law_parted:=T.at 63 rfl
theorem Ug{cx:Cx}(T:Prog cx):FnX cx 534 [ofString "name",ofString "x",ofString "y",ofString "bits"] [ofString "u",ofString "v",ofString "k",ofString "holds"] ib__law_two:=T.at 64 rfl
theorem Vg{cx:Cx}(T:Prog cx):FnX cx 541 [ofString "op",ofString "ahead",ofString "last"] [ofString "name",ofString "takes",ofString "puts",ofString "told"] ib__law_sum:=T.at 65 rfl
theorem Gb{cx:Cx}(T:Prog cx):FnX cx 548 [ofString "body",ofString "at"] [ofString "deep",ofString "other",ofString "end",ofString "code"] ib__law_sides:=T.at 66 rfl
theorem xS{cx:Cx}(T:Prog cx):FnX cx 555 [ofString "body"] [ofString "at",ofString "op",ofString "last",ofString "change",ofString "end",ofString "yes",ofString "no"] ib__law_folded:=T.at 67 rfl
theorem He{cx:Cx}(T:Prog cx):FnX cx 562 [ofString "kind",ofString "digits"] [ofString "pick",ofString "bits"] ib__law_leaf:=T.at 68 rfl
theorem Jl{cx:Cx}(T:Prog cx):FnX cx 569 [ofString "world",ofString "op",ofString "takes",ofString "gives",ofString "digits"] [ofString "stack",ofString "kind"] ib__law_do:=T.at 69 rfl
theorem wV{cx:Cx}(T:Prog cx):FnX cx 576 [ofString "world",ofString "label"] [ofString "frame"] ib__law_carried:=T.at 70 rfl
theorem Ge{cx:Cx}(T:Prog cx):FnX cx 581 [ofString "world",ofString "code",ofString "digits"] [ofString "frame",ofString "stack",ofString "kind"] ib__law_shut:=T.at 71 rfl
theorem Xg{cx:Cx}(T:Prog cx):FnX cx 588 [ofString "world",ofString "digits"] [] ib__law_end:=T.at 72 rfl
theorem xT{cx:Cx}(T:Prog cx):FnX cx 593 [ofString "world",ofString "pick",ofString "digits"] [ofString "many",ofString "label",ofString "carried",ofString "alike",ofString "other",ofString "labels"] ib__law_branch:=T.at 73 rfl
theorem Fe{cx:Cx}(T:Prog cx):FnX cx 600 [ofString "world",ofString "pick",ofString "digits"] [ofString "frames",ofString "code",ofString "name",ofString "takes",ofString "puts",ofString "kinds",ofString "kind",ofString "op",ofString "gives"] ib__law_turn:=T.at 74 rfl
theorem F_law{cx:Cx}(T:Prog cx):FnX cx 605 [ofString "script"] [ofString "first",ofString "parts",ofString "world",ofString "turn",ofString "number",ofString "body",ofString "told",ofString "op",ofString "part"] ib_law:=T.at 75 rfl
theorem Bn{cx:Cx}(T:Prog cx){n:Nat}{p:V}{σ:H}{Q:QV}{X:XH}(hq:qU σ p .none .none Q):CT cx (n+3) jV [p] σ Q X:=
 have F:=T.ent 78 rfl
 Cc T.toTopOk T.KO F.fin (λL fs=>F.body T.toTopX n L fs) rfl rfl hq
theorem Tx{cx:Cx}(T:Prog cx){n:Nat}{p f:V}{σ:H}{Q:QV}{X:XH}(hq:qU σ p f .none Q):CT cx (n+3) jV [p,f] σ Q X:=
 have F:=T.ent 77 rfl
 Cc T.toTopOk T.KO F.fin (λL fs=>F.body T.toTopX n L fs) rfl rfl hq
noncomputable def topG(stp:SharedT->Thread->Option (SharedT×Thread))(n₀:Nat)(ann:Option Value):Nat->SharedT->Thread->Option SharedT
 |0,_,_=>none |n+1,s,t=>match through t with
  |true=>some s |false=>match stepOk n₀ ann t with
   |false=>none |true=>(stp s t).bind λr=>topG stp n₀ ann n r.1 r.2
theorem Cr{tb:String->Option Builtin}{p:Program}{w:World}{n₀:Nat}{ann:Option Value}{s':SharedT}(n:Nat):∀{s:SharedT} {t:Thread},topG (stepT (denote tb) p w) n₀ ann n s t=some s'->topRun tb p w n₀ ann n s.abs t=some s'.abs:=by
 induction n with
 |zero=>exact λh=>nomatch h |succ n ih=>
  intro s t h;change (match through t with|true=>some s|false=>match stepOk n₀ ann t with|false=>none|true=>(stepT (denote tb) p w s t).bind λr=>topG (stepT (denote tb) p w) n₀ ann n r.1 r.2)=some s' at h
  unfold topRun
  induction ht:through t with
  |true=>rw[ht] at h;injection h with qz;subst qz;rfl
  |false=>
   rw[ht] at h
   induction hk:stepOk n₀ ann t with
   |false=>rw[hk] at h;exact nomatch h
   |true=>
    rw[hk] at h;refine kY h λr hs h=>?_
    rw[stepT_spec hs];exact ih h
noncomputable def btOf:List Obj->Nat->BT->Option BT
 | [],_,t=>some t |o::l,n,t=>if((t.ins n o).get n).isSome=true then btOf l (n+1) (t.ins n o) else none
theorem Sd{life:Life}:∀{l:List Obj} {n:Nat} {t t':BT} {a:Array Obj},btOf l n t=some t'->absHeap t n life=⟨a,life⟩->absHeap t' (n+l.length) life=⟨a++l.toArray,life⟩
 | [],n,t,t',a,h,e=>by injection h with qz;subst qz;exact e.trans (congrArg (Heap.mk · life) (Array.append_empty).symm)
 |o::l,n,t,t',a,h,e=>by
  unfold btOf at h;by_cases g:((t.ins n o).get n).isSome=true
  ·rw[if_pos g] at h
   have:=Sd (a:=a.push o) h (by rw[absHeap_ins g,e];rfl)
   rw[List.length_cons,dP l.length,←eW,this];exact congrArg (Heap.mk · life) (Array.ext' (by simp))
  ·rw[if_neg g] at h;exact nomatch h
noncomputable def ofS(s:Shared):Option SharedT:=(btOf s.heap.objs.toList 0 .nil).map λt=>⟨t,s.heap.objs.size,s.heap.life,s.gens,s.drawn,s.toks,s.os⟩
theorem Xr{s:Shared}{z:SharedT}(h:ofS s=some z):z.abs=s:=by
 obtain⟨z1z,gens,drawn,toks,os⟩:=s;obtain⟨objs,life⟩:=z1z
 refine mapS h λt ht z2z=>?_;obtain rfl:=z2z
 have:=Sd (life:=life) (a:= #[]) ht rfl;rw[fC] at this;unfold SharedT.abs;refine congrArg (Shared.mk · gens drawn toks os) (Eq.trans this ?_);exact congrArg (Heap.mk · life) (Array.ext' (by simp))
noncomputable def tJ(h:Heap):Frag:=(bD h.objs.size).filterMap λa=>(h.get? a).map λo=>(a,o)
noncomputable def Oo(z:SharedT):Frag:=(bD z.n).filterMap λa=>(alive ((z.tree.get a).getD default)).map λo=>(a,o)
theorem Xc{a:Addr}{o:Obj}:∀{l:Frag},l.lookup a=some o->(a,o)∈l
 |(b,x)::l,e=>by
  rw[bR] at e
  induction q:a==b with
  |true=>rw[q] at e;injection e with qz;subst qz;rw[eq_of_beq q];exact .head _
  |false=>rw[q] at e;exact .tail _ (Xc e)
theorem Ot(h:Heap):(tJ h).In h:=λa o e=>by
 obtain⟨b,z3z,hb⟩:=List.mem_filterMap.mp (Xc e);refine mapS hb λx hx e=>?_
 injection e with qz rz;subst qz rz
 exact hx
theorem uC{α β:Type}{f g:α->Option β}:∀{l:List α},(∀a∈l,f a=g a)->l.filterMap f=l.filterMap g
 | [],_=>rfl |a::l,h=>by
   rw[cA,cA,h a (.head _),uC λb hb=>h b (.tail _ hb)]
theorem No(z:SharedT):tJ z.abs.heap=Oo z:=by
 unfold tJ Oo;rw[show z.abs.heap.objs.size=z.n from absHeap_size _ _ _]
 refine uC λa ha=>?_
 refine congrArg (Option.map _) ?_;show(absHeap z.tree z.n z.life).get? a=_;unfold Heap.get?;rw[absHeap_at,if_pos (List.mem_range.mp ha)];generalize(z.tree.get a).getD default=o;obtain⟨c,d,dt,sl⟩:=o;cases dt<;>rfl
noncomputable abbrev pp:Program:=PySem.Challenge.pw_nm0147_01
noncomputable def qq:Program:=view pp [121]
noncomputable def lse:List Str:=pp.boundNames.filter λx=> !(x==ofString "law")
noncomputable def Qe:List Ent->List Obs
 | []=> [] |e::l=>valE e::Qe l
theorem xU:∀l:List Ent,Qe l=l.map valE
 | []=>rfl |e::l=>congrArg (valE e:: ·) (xU l)
noncomputable def obsF(K:Frag):=(obsK K,ftab.map (obsE K))
theorem Ms{p q:Program}{loose:List Str}{Xt:Shared->Bool}{α:Type}{Yf:Frag->α}{Ya:World->α}{N:Nat}
 (h:∀w,((fencedOpening treeTable p w N).bind λs₀=>(ofS s₀).bind λz₀=>(topG (stepT (denote treeTable) p w) s₀.heap.objs.size (s₀.heap.nsMap mainGlobals "__annotations__") N z₀ (topStub p)).map λz=>
   ((s₀.heap.isNs mainGlobals&&s₀.gens.size==0)&&(staticsOk (importedModules p.main.body) s₀.heap z.abs.heap&&namesBound p z.abs.heap&&gensDone z.abs&&laidKept s₀.heap z.abs.heap),openSeen q loose (importedModules p.main.body) Xt true z.abs,Yf (Oo z)))=
   some (true,openGood q loose,Ya w)):LeftO p q loose Xt (λs=>Yf (tJ s.heap)) Ya N:=λw=>by
 refine kY (h w) λs₀ h0 h=>?_
 refine kY h λz₀ h1 h=>?_
 refine mapS h λz h2 h=>?_
 obtain⟨c1,c2⟩:=kN (congrArg (·.1) h);have r:=Cr _ h2;rw[Xr h1] at r;unfold openEnds;rw[h0];show(topFrom treeTable p w N s₀).map _=_;unfold topFrom;rw[c1,r];show(match(_&&_&&_&&_:Bool) with|true=>_|false=>_:Option Shared).map _=_
 rw[c2];exact congrArg some (Prod.ext (congrArg (·.2.1) h) ((congrArg Yf (No z)).trans (congrArg (·.2.2) h)))
section
open PySem.W.Fast in
theorem left:LeftO pp qq lse (λJ=>true) (λs=>obsF (tJ s.heap)) (λJ=>(valK,Qe ftab)) 7696:=by
 refine Ms λw=>?_
 unfold fencedOpening;rw[te10274390034422433532,te14364793385576792824,te14289696077712309145,te1435165496053646825,te8920871248978507458,te10156331382660048174,te11892475500146522536,te4187177175401517315]
 kernel_rfl
end
noncomputable abbrev Op:=List Int
inductive T where
 |leaf (op:Op)
 |blk (op:Op) (f:List T)
 |ife (op:Op) (f s:List T)
noncomputable def T.ctorIdx(x:T):Nat:= @T.casesOn (λJ=>Nat) x (λJ=>0) (λJ J=>1) (λJ J J=>2)
mutual
noncomputable def T.fl:T->List Op
 |.leaf op=> [op] |.blk op f=>op::(fls f++ [[11]]) |.ife op f s=>op::(fls f++ [5]::(fls s++ [[11]]))
noncomputable def fls:List T->List Op
 | []=> [] |t::r=>t.fl++fls r
end
theorem qE(a b:List T):fls (a++b)=fls a++fls b:=by
 induction a with
 |nil=>rfl |cons t r ih=>rw[List.cons_append,fls,fls,ih,aS]
set_option genCtorIdx true in
inductive Nm where
 |eqz|clz|ctz|popcnt|wrap|wide|sp8|sp16|sp32
 |add|sub|mul|div_s|div_u|rem_s|rem_u|and|or|xor|shl|shr_s|shr_u|rotl|rotr
 |eq|ne|lt_s|lt_u|gt_s|gt_u|le_s|le_u|ge_s|ge_u
 deriving DecidableEq
noncomputable def Nm.single:Nm->Bool
 |.eqz|.clz|.ctz|.popcnt|.wrap|.wide|.sp8|.sp16|.sp32=>true
 |_=>false
noncomputable def Nm.idle:Nm->Option Int
 |.add|.sub|.or|.xor|.shl|.shr_s|.shr_u|.rotl|.rotr=>some 0
 |.mul|.div_s|.div_u=>some 1
 |.and=>some (-1) |_=>none
noncomputable def yZ:List Nm:= [.eqz,.eq,.ne,.lt_s,.lt_u,.gt_s,.gt_u,.le_s,.le_u,.ge_s,.ge_u]
noncomputable def arN:List Nm:= [.clz,.ctz,.popcnt,.add,.sub,.mul,.div_s,.div_u,.rem_s,.rem_u,.and,.or,.xor,.shl,.shr_s,.shr_u,.rotl,.rotr]
noncomputable def spN:List Nm:= [.sp8,.sp16,.sp8,.sp16,.sp32]
noncomputable def opOf(c:Int):Option (Nm×Nat×Nat):=
 if c=167 then some (.wrap,64,32) else if c=172 then some (.sp32,32,64) else if c=173 then some (.wide,32,64)
 else if 192<=c/\c<197 then(spN[(c-192).toNat]?).map λnm=>(nm,if c<194 then(32,32) else(64,64))
 else if 69<=c/\c<80 then(yZ[(c-69).toNat]?).map λnm=>(nm,32,32)
 else if 103<=c/\c<121 then(arN[(c-103).toNat]?).map λnm=>(nm,32,32)
 else if 80<=c/\c<91 then(yZ[(c-80).toNat]?).map λnm=>(nm,64,32)
 else if 121<=c/\c<139 then(arN[(c-121).toNat]?).map λnm=>(nm,64,64)
 else none
theorem tn1(b:Nat):((b:Int)-1).toNat=b-1:=Int.toNat_sub b 1
theorem tn2(k n:Nat):(-(k:Int)+n).toNat=n-k:=by
 rw[Int.add_comm,←Int.sub_eq_add_neg];exact Int.toNat_sub n k
noncomputable def kindOf(b:Nat):Int:=if b=32 then-1 else-2
noncomputable def kO(b:Nat)(v:Int):Op:= [if b=32 then 65 else 66,v]
noncomputable def InS(x:Int)(b:Nat):Prop:= -2^(b-1)<=x/\x<2^(b-1)
noncomputable def mN:List Int:= [32,35,63,65,66,208,210,64528]
noncomputable def code(op:Op):Int:=op.headD 0
noncomputable def cstO:Op->Option Int
 | [c,n]=>if c=65∨c=66 then some n else none
 |_=>none
noncomputable def putO(op:Op):Option Op:=if code op∈mN then some op else none
noncomputable def lab(op:Op)(c:Int):Int:=if 0<=c/\c<op.length-2 then op.getD (c.toNat+1) 0 else op.getLastD 0
noncomputable def chg(r1:Nm->Int->Nat->Nat->Int)(r2:Nm->Int->Int->Nat->Nat->Option Int)(op:Op)(c:Int)(a:Option Int)(p:Option Op):Option (Nat×List Op):=
 match opOf (code op) with
 |some (nm,takes,puts)=>
  if nm.single=true then some (1,[kO puts (r1 nm c takes puts)]) else
   match a.bind λx=>r2 nm x c takes puts with
   |some v=>some (2,[kO puts v]) |none=>if nm.idle=some c then some (1,[]) else none
 |none=>
  if code op=27∨code op=28 then(if c≠0 then some (1,[[26]]) else p.map λq=>(2,[[26],q]))
  else if code op=13 then some (1,if c≠0 then [[12,op.getD 1 0]] else [])
  else if code op=14 then some (1,[[12,lab op c]])
  else none
noncomputable def T.plain:T->Op
 |.leaf op=>op |.blk op _=>op |.ife op _ _=>op
noncomputable def T.cst:T->Option Int
 |.leaf op=>cstO op |_=>none
noncomputable def T.put:T->Option Op
 |.leaf op=>putO op |_=>none
section
variable(r1:Nm->Int->Nat->Nat->Int)(r2:Nm->Int->Int->Nat->Nat->Option Int)
noncomputable def red:List T->Option (List T)
 |t::p::r=>match p.cst with
  |none=>none |some c=>match t with
   |.leaf op=>(chg r1 r2 op c (r.head?.bind T.cst) (r.head?.bind T.put)).map λx=>(x.2.map T.leaf).reverse++(p::r).drop x.1 |.blk op f=>if code op=4 then some (.blk [2,op.getD 1 0] (if c≠0 then f else [])::r) else none
   |.ife op f s=>if code op=4 then some (.blk [2,op.getD 1 0] (if c≠0 then f else s)::r) else none
 |_=>none
noncomputable def settle(l:List T):List T:=(red r1 r2 l).getD l
mutual
noncomputable def T.fo:T->T
 |.leaf op=>.leaf op |.blk op f=>.blk op (fos f []).reverse |.ife op f s=>.ife op (fos f []).reverse (fos s []).reverse
noncomputable def fos:List T->List T->List T
 | [],acc=>acc |t::r,acc=>fos r (settle r1 r2 (t.fo::acc))
end
noncomputable def fch(op:Op)(R:List Op):Option (Nat×List Op):=(R.head?.bind cstO).bind λc=>chg r1 r2 op c (R.tail.head?.bind cstO) (R.tail.head?.bind putO)
end
mutual
noncomputable def T.wf:T->Prop
 |.leaf op=>op≠ []/\code op∉ [2,3,4,5,11] |.blk op f=>(∃c k,op= [c,k]/\(c=2∨c=3∨c=4))/\wfs f |.ife op f s=>(∃k,op= [4,k])/\wfs f/\wfs s
noncomputable def wfs:List T->Prop
 | []=>True |t::r=>t.wf/\wfs r
end
section
variable(r1:Nm->Int->Nat->Nat->Int)(r2:Nm->Int->Int->Nat->Nat->Option Int)
noncomputable def Okl(op:Op)(R:List Op):Prop:=∀nm t p c,opOf (code op)=some (nm,t,p)->R.head?.bind cstO=some c->InS c t
inductive Flat:List Op->List Op->List Op->Prop
 |done (R:List Op):Flat R [] R.reverse
 |keep {op:Op} {R B out:List Op}:Okl op R->(R.head?.bind cstO=none∨(code op≠4/\fch r1 r2 op R=none))->Flat (op::R) B out->Flat R (op::B) out
 |chg {op:Op} {R B out:List Op} {n:Nat} {new:List Op}:Okl op R->code op≠4->fch r1 r2 op R=some (n,new)->Flat (R.drop n) (new++B) out->Flat R (op::B) out
 |ife {p:Op} {R B out:List Op} {k c:Int} {t:T} {f s:List T}:t.wf->cstO p=some c->(t=.blk [4,k] f/\s= []∨t=.ife [4,k] f s)->Flat R ([2,k]::(fls (if c≠0 then f else s)++ [11]::B)) out->Flat (p::R) (t.fl++B) out
end
noncomputable def kP:List Int->List Int->Prop
 |a::t,b::s=>a=b/\kP t s |_,_=>True
inductive Eff:Op->List Int->List Int->Prop
 |un {c nm t p}:opOf c=some (nm,t,p)->nm.single=true->Eff [c] [kindOf t] [kindOf p]
 |bin {c nm t p}:opOf c=some (nm,t,p)->nm.single=false->Eff [c] [kindOf t,kindOf t] [kindOf p]
 |sel {k}:Eff [27] [-1,k,k] [k]
 |selk {k}:Eff [28,k] [-1,k,k] [k]
 |drop {k}:Eff [26] [k] []
 |nop:Eff [1] [] []
 |lset {n}:Eff [33,n] [-1] []
 |ltee {n}:Eff [34,n] [-2] [-2]
 |c32 {v}:InS v 32->Eff [65,v] [] [-1]
 |c64 {v}:InS v 64->Eff [66,v] [] [-2]
 |put {op k}:code op∈ [32,35,63,208,210,64528]->op≠ []->op.length<=2->Eff op [] [k]
 |brif {l}:Eff [13,l] [-1] []
inductive St1:Op->List Int->List Int->Prop
 |eff {op t g S}:Eff op t g->kP t S->St1 op S (g++S.drop t.length)
 |br {l S}:St1 [12,l] S []
 |stop {S}:St1 [0] S []
 |tab {a b l S}:kP [-1] S->St1 [14,a,b,l] S []
mutual
inductive Ty:T->List Int->List Int->Prop
 |leaf {op S S'}:St1 op S S'->Ty (.leaf op) S S'
 |blk {c k f S Z g}:c=2∨c=3->Tys f [] Z->Ty (.blk [c,k] f) S (g++S)
 |if1 {k f S Z g}:kP [-1] S->Tys f [] Z->Ty (.blk [4,k] f) S (g++S.drop 1)
 |ife {k f s S Z Z' g}:kP [-1] S->Tys f [] Z->Tys s [] Z'->Ty (.ife [4,k] f s) S (g++S.drop 1)
inductive Tys:List T->List Int->List Int->Prop
 |nil {S}:Tys [] S S
 |cons {t r S S' S''}:Ty t S S'->Tys r S' S''->Tys (t::r) S S''
end
theorem Ty.ind{M:T->List Int->List Int->Prop}{N:List T->List Int->List Int->Prop}(leaf:∀{op S S'},St1 op S S'->M (.leaf op) S S')
 (blk:∀{c k f S Z g},c=2∨c=3->Tys f [] Z->N f [] Z->M (.blk [c,k] f) S (g++S))(if1:∀{k f S Z g},kP [-1] S->Tys f [] Z->N f [] Z->M (.blk [4,k] f) S (g++S.drop 1))
 (ife:∀{k f s S Z Z' g},kP [-1] S->Tys f [] Z->Tys s [] Z'->N f [] Z->N s [] Z'->M (.ife [4,k] f s) S (g++S.drop 1))(nil:∀{S},N [] S S)
 (cons:∀{t r S S' S''},Ty t S S'->Tys r S' S''->M t S S'->N r S' S''->N (t::r) S S''):(∀{t S S'},Ty t S S'->M t S S')/\∀{ts S S'},Tys ts S S'->N ts S S':=
 ⟨λh=>Ty.rec (motive_1:=λt S S' J=>M t S S') (motive_2:=λts S S' J=>N ts S S') leaf blk if1 ife nil cons h,λh=>Tys.rec (motive_1:=λt S S' J=>M t S S') (motive_2:=λts S S' J=>N ts S S') leaf blk if1 ife nil cons h⟩
noncomputable def RTy:List T->List Int->Prop
 | [],S=>S= [] |t::r,S'=>∃S,RTy r S/\Ty t S S'
mutual
noncomputable def T.dep:T->Nat
 |.leaf _=>0 |.blk _ f=>deps f+1 |.ife _ f s=>max (deps f) (deps s)+1
noncomputable def deps:List T->Nat
 | []=>0 |t::r=>max t.dep (deps r)
end
theorem pF(a b:List T):deps (a++b)=max (deps a) (deps b):=by
 induction a with
 |nil=>simp[deps] |cons t r ih=>simp[deps,ih,Nat.max_assoc]
theorem lS(a:List T):deps a.reverse=deps a:=by
 induction a with
 |nil=>rfl |cons t r ih=>simp[pF,deps,ih,Nat.max_comm]
theorem Pe{a b:List T}:wfs (a++b)↔wfs a/\wfs b:=by
 induction a with
 |nil=>simp[wfs] |cons t r ih=>simp[wfs,ih,and_assoc]
theorem Tu{a:List T}:wfs a.reverse↔wfs a:=by
 induction a with
 |nil=>simp |cons t r ih=>simp[Pe,wfs,ih,and_comm]
noncomputable def kK(acc:List T):List Op:=(fls acc.reverse).reverse
@[simp] theorem flatR_nil:kK []= []:=rfl
theorem qF(t:T)(r:List T):kK (t::r)=t.fl.reverse++kK r:=by simp[kK,qE,fls]
theorem kX(op:Op)(r:List T):kK (.leaf op::r)=op::kK r:=by rw[qF];rfl
theorem Ip:cstO [11]=none:=rfl
theorem An:putO [11]=none:=by decide
noncomputable def Base(b:List Op):Prop:=b.head?.bind cstO=none/\b.head?.bind putO=none
theorem Qt(t:T)(R:List Op):(∃op,t=.leaf op)∨(t.cst=none/\t.put=none/\∃R',t.fl.reverse++R= [11]::R'):=by
 induction t using T.casesOn with
 |leaf op=>exact .inl ⟨op,rfl⟩ |blk op f=>exact .inr ⟨rfl,rfl,_,by simp[T.fl];rfl⟩
 |ife op f s=>exact .inr ⟨rfl,rfl,_,by simp[T.fl];rfl⟩
theorem pQ(r:List T){b:List Op}(hb:Base b):(kK r++b).head?.bind cstO=r.head?.bind T.cst/\(kK r++b).head?.bind putO=r.head?.bind T.put:=by
 induction r using List.casesOn with
 |nil=>exact hb |cons t r=>
  rcases Qt t (kK r++b) with⟨op,rfl⟩|⟨h1,h2,R',h3⟩
  ·rw[kX];exact⟨rfl,rfl⟩
  ·rw[qF,aS,h3]
   simp[h1,h2,Ip,An]
theorem mT{t:T}{c:Int}(h:t.cst=some c):∃op,t=.leaf op/\cstO op=some c:=by
 induction t using T.casesOn with
 |leaf op=>exact⟨op,rfl,h⟩ |blk op f=>injection h |ife op f s=>injection h
theorem rX{t:T}{c:Op}(h:t.put=some c):∃op,t=.leaf op/\putO op=some c:=by
 induction t using T.casesOn with
 |leaf op=>exact⟨op,rfl,h⟩ |blk op f=>injection h |ife op f s=>injection h
noncomputable def lH(op:Op):Prop:=opOf (code op)=none/\code op∉ [27,28,13,14,4]
theorem lH.ne4{op:Op}(h:lH op):code op≠4:=λe=>h.2 (by rw[e];decide)
section
variable{r1:Nm->Int->Nat->Nat->Int}{r2:Nm->Int->Int->Nat->Nat->Option Int}
theorem lH.chg{op:Op}(h:lH op)(c a p):chg r1 r2 op c a p=none:=by
 have h2:=h.2;simp only[aJ,fB,or_false,not_or] at h2;unfold Internal.chg;rw[h.1];simp[h2.1,h2.2.1,h2.2.2.1,h2.2.2.2.1]
theorem lH.fch{op:Op}(h:lH op)(R):fch r1 r2 op R=none:=by
 unfold Internal.fch
 induction R.head?.bind cstO with
 |none=>rfl |some c=>exact h.chg _ _ _
theorem lH.okl{op:Op}(h:lH op)(R:List Op):Okl op R:=λnm t p c ho J=>by rw[h.1] at ho;injection ho
theorem uA(b:Nat)(v:Int):lH (kO b v):=by unfold kO;split<;>exact⟨by simp[code];decide,by simp[code]⟩
theorem Ai{c:Int}{r:List Int}(h1:opOf c=none)(h2:c∉ [27,28,13,14,4]):lH (c::r):=⟨h1,h2⟩
theorem Wj{op:Op}(h:code op∈mN):lH op:=by
 unfold lH;generalize code op=c at*;simp only[mN,aJ,fB,or_false] at h;rcases h with h|h|h|h|h|h|h|h<;>subst h<;>decide
set_option tactic.hygienic true in
theorem zU{op q:Op}(h:putO op=some q):q=op/\code op∈mN:=by
 unfold putO at h;split at h
 ·rename_i hc;injection h with qz;subst qz;exact⟨rfl,hc⟩
 ·injection h
theorem Md{op:Op}{c:Int}{a:Option Int}{p:Option Op}{n:Nat}{new:List Op}{M:Nat->List Op->Prop}(h:chg r1 r2 op c a p=some (n,new))
 (one:∀nm t u,opOf (code op)=some (nm,t,u)->nm.single=true->M 1 [kO u (r1 nm c t u)])(two:∀nm t u x v,opOf (code op)=some (nm,t,u)->nm.single=false->a=some x->r2 nm x c t u=some v->M 2 [kO u v])
 (idle:∀nm t u,opOf (code op)=some (nm,t,u)->nm.single=false->nm.idle=some c->M 1 [])(selT:code op=27∨code op=28->M 1 [[26]])(selF:∀q,code op=27∨code op=28->p=some q->M 2 [[26],q])
 (br:code op=13->M 1 (if c≠0 then [[12,op.getD 1 0]] else []))(tab:code op=14->M 1 [[12,lab op c]]):M n new:=by
 have k:oa (chg r1 r2 op c a p) λx=>M x.1 x.2:=by
  unfold Internal.chg
  induction e:opOf (code op) with
  |some x=>
   refine ifO (λhs=>one _ _ _ e hs) λhs=>?_
   have hs:=Bool.eq_false_iff.mpr hs
   induction hv:a.bind λy=>r2 x.1 y c x.2.1 x.2.2 with
   |some v=>exact kY hv λy hy hv=>two _ _ _ _ _ e hs hy hv |none=>exact ifO (λhi=>idle _ _ _ e hs hi) λJ=>trivial
  |none=>exact ifO (λh1=>ifO (λJ=>selT h1) λJ=>Kf λJ=>selF _ h1) λJ=>ifO br λJ=>ifO tab λJ=>trivial
 exact(nW k h:)
theorem ifP{α:Type}{P:α->Prop}{p:Prop}[Decidable p]{a b:α}(ha:P a)(hb:P b):P (if p then a else b):=by
 by_cases h:p
 ·rw[if_pos h];exact ha
 ·rw[if_neg h];exact hb
theorem rE{op:Op}{c:Int}{a:Option Int}{p:Option Op}{n:Nat}{new:List Op}(hp:∀q,p=some q->code q∈mN)(h:chg r1 r2 op c a p=some (n,new)):
 (∀o∈new,lH o)/\new.length<=n/\(n=1∨(n=2/\(a≠none∨p≠none))):=by
 have one:∀{o:Op},lH o->∀x∈ [o],lH x:=λi x hx=>aK.mp hx▸i
 have i26:lH [26]:=Ai (by decide) (by decide)
 have i12:∀k,lH [12,k]:=λJ=>Ai (by decide) (by decide)
 exact Md (M:=λn new=>(∀o∈new,lH o)/\new.length<=n/\(n=1∨(n=2/\(a≠none∨p≠none)))) h (λJ J J J J=>⟨one (uA _ _),aR _,.inl rfl⟩) (λJ J J J J J J ha J=>⟨one (uA _ _),dA 1,.inr ⟨rfl,.inl (ha▸(λh=>by injection h))⟩⟩)
  (λJ J J J J J=>⟨by intros;contradiction,aP _,.inl rfl⟩) (λJ=>⟨one i26,aR _,.inl rfl⟩) (λq J hq=>⟨bC.mpr ⟨i26,one (Wj (hp q hq))⟩,aR _,.inr ⟨rfl,.inr (hq▸(λh=>by injection h))⟩⟩)
  (λJ=>ifP (P:=λnew:List Op=>(∀o∈new,lH o)/\new.length<=1/\_) ⟨one (i12 _),aR _,.inl rfl⟩ ⟨by intros;contradiction,aP _,.inl rfl⟩) λJ=>⟨one (i12 _),aR _,.inl rfl⟩
theorem rW{l l':List T}{M:List T->Prop}(h:red r1 r2 l=some l')
 (leaf:∀op po c r n new,l=.leaf op:: .leaf po::r->cstO po=some c->chg r1 r2 op c (r.head?.bind T.cst) (r.head?.bind T.put)=some (n,new)->M ((new.map T.leaf).reverse++(.leaf po::r).drop n))
 (blk:∀op f po c r,l=.blk op f:: .leaf po::r->cstO po=some c->code op=4->M (.blk [2,op.getD 1 0] (if c≠0 then f else [])::r))
 (ife:∀op f s po c r,l=.ife op f s:: .leaf po::r->cstO po=some c->code op=4->M (.blk [2,op.getD 1 0] (if c≠0 then f else s)::r)):M l':=by
 refine nW (P:=M) ?_ h
 induction l using List.casesOn with
 |nil=>exact trivial |cons t r=>induction r using List.casesOn with
  |nil=>exact trivial |cons p r=>
   rw[red]
   induction hc:p.cst with
   |none=>exact trivial |some c=>
    refine e12 (mT hc) λpo z1z hc=>?_;obtain rfl:=z1z
    induction t using T.casesOn with
    |leaf op=>exact Kf λx hx=>leaf _ _ _ _ _ _ rfl hc hx |blk op f=>exact ifO (λh4=>blk _ _ _ _ _ rfl hc h4) λJ=>trivial |ife op f s=>exact ifO (λh4=>ife _ _ _ _ _ _ rfl hc h4) λJ=>trivial
theorem yE{op:Op}(h:lH op)(r:List T):red r1 r2 (.leaf op::r)=none:=by
 induction r using List.casesOn with
 |nil=>rfl |cons p r=>
  simp only[red]
  induction p.cst with
  |none=>rfl |some c=>simp[h.chg]
theorem uN{op:Op}{f:List T}(h:code op≠4)(r:List T):red r1 r2 (.blk op f::r)=none:=by
 induction r using List.casesOn with
 |nil=>rfl |cons p r=>
  simp only[red]
  induction p.cst with
  |none=>rfl |some c=>simp[h]
theorem Xm{op:Op}{acc:List T}{b:List Op}(hb:Base b):(acc.head?.bind T.cst=none/\fch r1 r2 op (kK acc++b)=none/\red r1 r2 (.leaf op::acc)=none)∨
 ∃p c r,acc=.leaf p::r/\cstO p=some c/\fch r1 r2 op (kK acc++b)=chg r1 r2 op c (r.head?.bind T.cst) (r.head?.bind T.put)/\
  red r1 r2 (.leaf op::acc)=(chg r1 r2 op c (r.head?.bind T.cst) (r.head?.bind T.put)).map λx=>(x.2.map T.leaf).reverse++(.leaf p::r).drop x.1:=by
 induction hc:acc.head?.bind T.cst with
 |none=>
  refine .inl ⟨rfl,?_,?_⟩
  ·unfold fch;rw[(pQ acc hb).1,hc];rfl
  ·induction acc using List.casesOn with
   |nil=>rfl |cons p r=>
    have hc:p.cst=none:=hc;simp[red,hc]
 |some c=>
  induction acc using List.casesOn with
  |nil=>injection hc |cons t r=>
   have hc:t.cst=some c:=hc;refine e12 (mT hc) λp z2z hp=>?_;obtain rfl:=z2z
   refine .inr ⟨p,c,r,rfl,hp,?_,?_⟩
   ·unfold fch
    rw[kX];show Option.bind (cstO p) _=_;rw[hp];show chg r1 r2 op c ((kK r++b).head?.bind cstO) ((kK r++b).head?.bind putO)=_;rw[(pQ r hb).1,(pQ r hb).2]
   ·simp[red,T.cst,hp]
theorem vP{r:List T}:∀q,r.head?.bind T.put=some q->code q∈mN:=λq h=>by
 induction r using List.casesOn with
 |nil=>injection h |cons t r=>
  refine e12 (rX (show t.put=some q from h)) λop z3z h=>?_;obtain rfl:=z3z
  refine e02 (zU h) λz4z h=>?_;obtain rfl:=z4z
  exact h
theorem Jk{p:Op}{r:List T}{n:Nat}{b:List Op}(h:n=1∨(n=2/\(r.head?.bind T.cst≠none∨r.head?.bind T.put≠none))):(kK (.leaf p::r)++b).drop n=kK ((T.leaf p::r).drop n)++b:=by
 rcases h with rfl|⟨rfl,h⟩
 ·rw[kX];rfl
 ·induction r using List.casesOn with
  |nil=>rcases h with h|h<;>exact absurd rfl h
  |cons t r=>
   have:∃op,t=.leaf op:=by
    rcases h with h|h
    ·induction e:t.cst with
     |none=>exact absurd e h |some c=>refine e12 (mT e) λop z5z z6z=>?_;obtain rfl:=z5z;exact⟨op,rfl⟩
    ·induction e:t.put with
     |none=>exact absurd e h |some c=>refine e12 (rX e) λop z7z z8z=>?_;obtain rfl:=z7z;exact⟨op,rfl⟩
   refine e11 this λop z9z=>?_;obtain rfl:=z9z
   rw[kX,kX];rfl
theorem Uo{new:List Op}:∀{l:List T} {b B out:List Op},(∀o∈new,lH o)->Flat r1 r2 (kK ((new.map T.leaf).reverse++l)++b) B out->Flat r1 r2 (kK l++b) (new++B) out:=by
 induction new with
 |nil=>intro l b B out _ h;exact h
 |cons o new ih=>
  intro l b B out hi h;have ho:=hi o aE;refine .keep (ho.okl _) (.inr ⟨ho.ne4,ho.fch _⟩) ?_;have:=ih (l:=.leaf o::l) (b:=b) (B:=B) (out:=out) (λo h=>hi o (aH _ h)) (by simpa using h)
  rwa [kX] at this
theorem Base.cons{op:Op}{b:List Op}(h1:cstO op=none)(h2:putO op=none):Base (op::b):=⟨h1,h2⟩
theorem wP{c k:Int}{b:List Op}(h:c=2∨c=3∨c=4):Base ([c,k]::b):=by
 rcases h with rfl|rfl|rfl<;>exact⟨rfl,by simp[putO,code,mN]⟩
theorem Xk{b:List Op}:Base ([5]::b):=⟨rfl,(by decide:putO [5]=none)⟩
theorem uT{c k:Int}(h:c=2∨c=3):lH [c,k]:=by
 rcases h with rfl|rfl
 ·exact⟨(by decide:opOf 2=none),by simp[code]⟩
 ·exact⟨(by decide:opOf 3=none),by simp[code]⟩
theorem nK:lH [11]:=⟨by decide,by decide⟩
theorem Zf:lH [5]:=⟨by decide,by decide⟩
theorem qI{op:Op}{R B out:List Op}(h:lH op)(x:Flat r1 r2 (op::R) B out):Flat r1 r2 R (op::B) out:=.keep (h.okl _) (.inr ⟨h.ne4,h.fch _⟩) x
theorem pR(op:Op)(f:List T)(acc:List T)(b:List Op):kK (.blk op f.reverse::acc)++b= [11]::(kK f++op::(kK acc++b)):=by
 rw[qF];simp[T.fl,kK]
theorem Ek(op:Op)(f s:List T)(acc:List T)(b:List Op):kK (.ife op f.reverse s.reverse::acc)++b= [11]::(kK s++ [5]::(kK f++op::(kK acc++b))):=by
 rw[qF];simp[T.fl,kK]
end
theorem kP.pre:∀{t S S0:List Int},kP t S->S0<+:S->kP t S0
 | [],_,_,_,_=>trivial |_::_,_,[],_,_=>trivial |a::t,S,s::S0,h,p=>by
   refine e11 p λr z1z=>?_;obtain rfl:=z1z
   exact⟨h.1,kP.pre h.2 ⟨r,rfl⟩⟩
theorem wE{n:Nat}{S S0:List Int}(p:S0<+:S):S0.drop n<+:S.drop n:=by
 refine e11 p λr z2z=>?_;obtain rfl:=z2z
 by_cases h:n<=S0.length
 ·rw[List.drop_append_of_le_length h];exact⟨r,rfl⟩
 ·rw[List.drop_eq_nil_of_le (by exact Nat.le_of_not_ge h:S0.length<=n)];exact dK
theorem uX{g S S0:List Int}(p:S0<+:S):g++S0<+:g++S:=by
 refine e11 p λr z3z=>?_;obtain rfl:=z3z;exact⟨r,by simp⟩
theorem St1.weak{op:Op}{S S' S0:List Int}(h:St1 op S S')(p:S0<+:S):∃S0',S0'<+:S'/\St1 op S0 S0':=by
 cases h with
 |eff e a=>exact⟨_,uX (wE p),.eff e (a.pre p)⟩ |br=>exact⟨[],dK,.br⟩ |stop=>exact⟨[],dK,.stop⟩ |tab a=>exact⟨[],dK,.tab (a.pre p)⟩
theorem Ty.weak{t:T}{S S' S0:List Int}(h:Ty t S S')(p:S0<+:S):∃S0',S0'<+:S'/\Ty t S0 S0':=by
 cases h with
 |leaf h=>refine e12 (h.weak p) λx a b=>?_;exact⟨x,a,.leaf b⟩
 |blk h z=>exact⟨_,uX p,.blk h z⟩ |if1 h z=>exact⟨_,uX (wE p),.if1 (h.pre p) z⟩ |ife h z z'=>exact⟨_,uX (wE p),.ife (h.pre p) z z'⟩
theorem oS{c:Int}(h:c<69∨197<=c):opOf c=none:=by
 have e:∀{k:Int},69<=k->k<197->c≠k:=λh1 h2 z=>h.elim (λq=>absurd (bN h1 (z▸q)) (by decide)) λq=>absurd (bN (z▸q) h2) (by decide)
 have f:∀{j k:Int},69<=j->k<=197->¬(j<=c/\c<k):=λh1 h2 z=>h.elim (λq=>absurd (bN (fH h1 z.1) q) (by decide)) λq=>absurd (bN q (cK z.2 h2)) (by decide)
 unfold opOf;rw[if_neg (e (by decide) (by decide)),if_neg (e (by decide) (by decide)),if_neg (e (by decide) (by decide)),if_neg (f (by decide) (by decide)),if_neg (f (by decide) (by decide)),if_neg (f (by decide) (by decide)),if_neg (f (by decide) (by decide)),if_neg (f (by decide) (by decide))]
theorem Vr{c:Int}{x:Nm×Nat×Nat}(h:opOf c=some x):69<=c/\c<197:=
 ⟨fT.mp λq=>(by have h:=(oS (.inl q)).symm.trans h;contradiction),Int.not_le.mp λq=>(by have h:=(oS (.inr q)).symm.trans h;contradiction)⟩
theorem zV(P:Int->Nm×Nat×Nat->Bool)(h:((bD 128).all λi=>(opOf ((i:Int)+69)).all (P ((i:Int)+69)))=true){c:Int}{x:Nm×Nat×Nat}(o:opOf c=some x):P c x=true:=by
 refine e02 (Vr o) λh1 h2=>?_
 have e:(((c-69).toNat:Nat):Int)+69=c:=by rw[Int.toNat_of_nonneg (iW h1),Int.sub_add_cancel]
 have:=cR.mp h (c-69).toNat (List.mem_range.mpr (Int.ofNat_lt.mp (Int.lt_of_add_lt_add_right (by rw[e];exact h2:_+(69:Int)<(128:Nat)+69))))
 rw[e,o] at this;exact this
theorem jY{c:Int}{nm:Nm}{t p:Nat}(h:opOf c=some (nm,t,p)):(t=32∨t=64)/\(p=32∨p=64)/\(nm.idle≠none->t=p)/\((nm=.wrap->t=64/\p=32)/\(nm=.wide->t=32/\p=64)/\(nm=.sp32->p=64))/\69<=c/\c<197:=
 of_decide_eq_true (zV (λc x=>decide ((x.2.1=32∨x.2.1=64)/\(x.2.2=32∨x.2.2=64)/\(x.1.idle≠none->x.2.1=x.2.2)/\((x.1=.wrap->x.2.1=64/\x.2.2=32)/\(x.1=.wide->x.2.1=32/\x.2.2=64)/\(x.1=.sp32->x.2.2=64))/\69<=c/\c<197)) (by decide+kernel) h)
theorem mD{a b:Nat}(ha:a=32∨a=64)(hb:b=32∨b=64)(h:kindOf a=kindOf b):a=b:=by
 rcases ha with rfl|rfl<;>rcases hb with rfl|rfl<;>first|rfl|exact absurd h (by decide)
theorem Bc{op:Op}(h:code op∈ [32,35,63,208,210,64528]):(code op<69∨197<=code op)/\code op≠65/\code op≠66/\code op≠27/\code op≠28/\code op≠13/\code op≠14/\code op∉ [2,3,4,5,11]:=
 (by decide:∀c∈([32,35,63,208,210,64528]:List Int),(c<69∨197<=c)/\c≠65/\c≠66/\c≠27/\c≠28/\c≠13/\c≠14/\c∉ [2,3,4,5,11]) _ h
theorem Wz{op:Op}{c:Int}(h:cstO op=some c):∃k,(k=65∨k=66)/\op= [k,c]:=by
 match op,h with
 | [k,n],h=>
   by_cases q:k=65∨k=66
   ·rw[cstO,if_pos q] at h;injection h with qz;subst qz;exact⟨k,q,rfl⟩
   ·rw[cstO,if_neg q] at h;exact by contradiction
theorem pW{op:Op}{S S':List Int}(h:St1 op S S'){P:Int->Bool}(hP:P (code op)=true)(Q:Op->List Int->List Int->Prop)
 (num:∀{c nm t p},opOf c=some (nm,t,p)->P c=true->(nm.single=true->kP [kindOf t] S->Q [c] S (kindOf p::S.drop 1))/\(nm.single=false->kP [kindOf t,kindOf t] S->Q [c] S (kindOf p::S.drop 2)))
 (sel:P 27=true->∀k,kP [-1,k,k] S->Q [27] S (k::S.drop 3))(selk:P 28=true->∀k,kP [-1,k,k] S->Q [28,k] S (k::S.drop 3))
 (idle:∀op S',code op∈ [26,1,33,34,12,0]->P (code op)=true->St1 op S S'->op≠ []->op.length<=4->Q op S S')
 (c32:P 65=true->∀v,InS v 32->Q [65,v] S (-1::S))(c64:P 66=true->∀v,InS v 64->Q [66,v] S (-2::S))
 (put:∀op k,P (code op)=true->code op∈ [32,35,63,208,210,64528]->op≠ []->op.length<=2->Q op S (k::S))
 (brif:P 13=true->∀l,kP [-1] S->Q [13,l] S (S.drop 1))(tab:P 14=true->∀a b l,kP [-1] S->Q [14,a,b,l] S []):Q op S S':=by
 cases h with
 |eff e a=>
  cases e with
  |un o s=>exact(num o hP).1 s a |bin o s=>exact(num o hP).2 s a |sel=>exact sel hP _ a |selk=>exact selk hP _ a |drop=>exact idle _ _ (by decide) hP (.eff .drop a) (λh=>by injection h) (by decide)
  |nop=>exact idle _ _ (by decide) hP (.eff .nop a) (λh=>by injection h) (by decide)
  |lset=>exact idle _ _ (by decide:(33:Int)∈_) hP (.eff .lset a) (λh=>by injection h) (nB rfl)
  |ltee=>exact idle _ _ (by decide:(34:Int)∈_) hP (.eff .ltee a) (λh=>by injection h) (nB rfl)
  |c32 v=>exact c32 hP _ v |c64 v=>exact c64 hP _ v |put h1 h2 h3=>exact put _ _ hP h1 h2 h3 |brif=>exact brif hP _ a
 |br=>exact idle _ _ (by decide:(12:Int)∈_) hP .br (λh=>by injection h) (nB rfl)
 |stop=>exact idle _ _ (by decide) hP .stop (λh=>by injection h) (by decide)
 |tab a=>exact tab hP _ _ _ a
theorem out{b:Bool}{A:Prop}(h:b=true)(e:b=false):A:=by rw[e] at h;exact by contradiction
theorem oJ{P:Int->Bool}{c:Int}{l:List Int}{A:Prop}(h:P c=true)(m:c∈l)(e:(l.all λc=> !P c)=true):A:=out h ((dT _).mp (cR.mp e c m))
theorem rN{P:Int->Bool}{c:Int}{x:Nm×Nat×Nat}{A:Prop}(h:P c=true)(o:opOf c=some x)(e:((bD 128).all λi=>(opOf ((i:Int)+69)).all λJ=> !P ((i:Int)+69))=true):A:=out h ((dT _).mp (zV (λc J=> !P c) e o))
noncomputable def isC(c:Int):Bool:=decide (c=65∨c=66)
noncomputable def isN(c:Int):Bool:=(opOf c).isSome
noncomputable def isS(c:Int):Bool:=decide (c=27∨c=28)
noncomputable def is13(c:Int):Bool:=decide (c=13)
noncomputable def is14(c:Int):Bool:=decide (c=14)
noncomputable def isP(c:Int):Bool:=decide (c∈mN)
theorem qT{op:Op}{c:Int}{S S':List Int}(hc:cstO op=some c)(h:St1 op S S'):∃b,(b=32∨b=64)/\op=kO b c/\InS c b/\S'=kindOf b::S:=by
 refine e12 (Wz hc) λk hk z4z=>?_;obtain rfl:=z4z
 refine pW (P:=isC) h (decide_eq_true hk) (λop S S'=>op= [k,c]->∃b,(b=32∨b=64)/\op=kO b c/\InS c b/\S'=kindOf b::S) (λo z=>rN z o (by decide+kernel)) (λz=>by contradiction) (λz=>by contradiction) (λJ J m z=>oJ z m (by decide)) (λJ v hv q=>?_) (λJ v hv q=>?_) (λJ J z m=>oJ z m (by decide)) (λz=>by contradiction) (λz=>by contradiction) rfl
 ·cases q;exact⟨32,.inl rfl,rfl,hv,rfl⟩
 ·cases q;exact⟨64,.inr rfl,rfl,hv,rfl⟩
theorem Nx{op:Op}{S S':List Int}(hc:code op∈mN)(h:St1 op S S'):∃k,S'=k::S/\∀S,St1 op S (k::S):=by
 cases h with
 |eff e a=>
  cases e with
  |un o=>exact rN (P:=isP) (decide_eq_true hc) o (by decide+kernel)
  |bin o=>exact rN (P:=isP) (decide_eq_true hc) o (by decide+kernel)
  |c32 v=>exact⟨-1,rfl,λS=>.eff (.c32 v) trivial⟩ |c64 v=>exact⟨-2,rfl,λS=>.eff (.c64 v) trivial⟩ | @put _ k h1 h2 h3=>exact⟨k,rfl,λS=>.eff (.put h1 h2 h3) trivial⟩ |sel=>exact absurd hc (by decide)
  |drop=>exact absurd hc (by decide)
  |nop=>exact absurd hc (by decide)
  |selk=>exact absurd hc (by decide:(28:Int)∉mN)
  |lset=>exact absurd hc (by decide:(33:Int)∉mN)
  |ltee=>exact absurd hc (by decide:(34:Int)∉mN)
  |brif=>exact absurd hc (by decide:(13:Int)∉mN)
 |br=>exact absurd hc (by decide:(12:Int)∉mN)
 |stop=>exact absurd hc (by decide)
 |tab=>exact absurd hc (by decide:(14:Int)∉mN)
theorem tD{op:Op}{nm:Nm}{t p:Nat}{S S':List Int}(hc:opOf (code op)=some (nm,t,p))(h:St1 op S S'):
 (nm.single=true->kP [kindOf t] S/\S'=kindOf p::S.drop 1)/\(nm.single=false->kP [kindOf t,kindOf t] S/\S'=kindOf p::S.drop 2):=
 pW (P:=isN) h (by rw[isN,hc];rfl) (λop S S'=>opOf (code op)=some (nm,t,p)->(nm.single=true->kP [kindOf t] S/\S'=kindOf p::S.drop 1)/\(nm.single=false->kP [kindOf t,kindOf t] S/\S'=kindOf p::S.drop 2))
  (λ{c nm' t' p'} o _=>⟨λs a q=>by cases o.symm.trans (show opOf c=_ from q);exact⟨λJ=>⟨a,rfl⟩,λz=>absurd (s.symm.trans z) (λh=>by injection h)⟩,λs a q=>by cases o.symm.trans (show opOf c=_ from q);exact⟨λz=>absurd (s.symm.trans z) (λh=>by injection h),λJ=>⟨a,rfl⟩⟩⟩)
  (λz=>out z (by decide)) (λz=>out z (by decide)) (λJ J m z=>oJ z m (by decide)) (λz=>out z (by decide)) (λz=>out z (by decide)) (λJ J z m=>oJ z m (by decide)) (λz=>out z (by decide)) (λz=>out z (by decide)) hc
theorem Wt{c nm t p}(o:opOf c=some (nm,t,p)):c≠27/\c≠28/\c≠13/\c≠14/\c∉ [2,3,4,5,11]:=
 of_decide_eq_true (zV (λc J=>decide (c≠27/\c≠28/\c≠13/\c≠14/\c∉ [2,3,4,5,11])) (by decide+kernel) o)
theorem Pm{op:Op}{S S':List Int}(hc:code op=27∨code op=28)(h:St1 op S S'):∃k,kP [-1,k,k] S/\S'=k::S.drop 3:=
 pW (P:=isS) h (decide_eq_true hc) (λJ S S'=>∃k,kP [-1,k,k] S/\S'=k::S.drop 3) (λo z=>rN z o (by decide+kernel)) (λJ k a=>⟨k,a,rfl⟩) (λJ k a=>⟨k,a,rfl⟩) (λJ J m z=>oJ z m (by decide)) (λz=>by contradiction) (λz=>by contradiction) (λJ J z m=>oJ z m (by decide)) (λz=>by contradiction) λz=>by contradiction
theorem Oi{op:Op}{S S':List Int}(hc:code op=13)(h:St1 op S S'):∃l,op= [13,l]/\kP [-1] S/\S'=S.drop 1:=
 pW (P:=is13) h (decide_eq_true hc) (λop S S'=>∃l,op= [13,l]/\kP [-1] S/\S'=S.drop 1) (λo z=>rN z o (by decide+kernel)) (λz=>by contradiction) (λz=>by contradiction) (λJ J m z=>oJ z m (by decide)) (λz=>by contradiction) (λz=>by contradiction) (λJ J z m=>oJ z m (by decide)) (λJ l a=>⟨l,rfl,a,rfl⟩) λz=>by contradiction
theorem Bx{op:Op}{S S':List Int}(hc:code op=14)(h:St1 op S S'):∃a b l,op= [14,a,b,l]/\kP [-1] S/\S'= []:=
 pW (P:=is14) h (decide_eq_true hc) (λop S S'=>∃a b l,op= [14,a,b,l]/\kP [-1] S/\S'= []) (λo z=>rN z o (by decide+kernel)) (λz=>by contradiction) (λz=>by contradiction) (λJ J m z=>oJ z m (by decide)) (λz=>by contradiction) (λz=>by contradiction) (λJ J z m=>oJ z m (by decide)) (λz=>by contradiction) λJ a b l g=>⟨a,b,l,rfl,g,rfl⟩
theorem qW{op:Op}{S S':List Int}(h:St1 op S S'):op≠ []/\code op∉ [2,3,4,5,11]/\op.length<=4:=
 pW (P:=λJ=>true) h rfl (λop J J=>op≠ []/\code op∉ [2,3,4,5,11]/\op.length<=4) (λo J=>have q:=⟨(λh=>by injection h),(Wt o).2.2.2.2,nB rfl⟩;⟨λJ J=>q,λJ J=>q⟩)
  (λJ J J=>⟨(λh=>by injection h),by decide,nB rfl⟩) (λJ J J=>⟨(λh=>by injection h),(by decide:(28:Int)∉_),nB rfl⟩) (λJ J m J J h1 h2=>⟨h1,(by decide:∀c∈([26,1,33,34,12,0]:List Int),c∉ [2,3,4,5,11]) _ m,h2⟩)
  (λJ J J=>⟨(λh=>by injection h),(by decide:(65:Int)∉_),nB rfl⟩) (λJ J J=>⟨(λh=>by injection h),(by decide:(66:Int)∉_),nB rfl⟩) (λJ J J m h1 h2=>⟨h1,(Bc m).2.2.2.2.2.2.2,aC h2 (by decide)⟩)
  (λJ J J=>⟨(λh=>by injection h),(by decide:(13:Int)∉_),nB rfl⟩) λJ J J J J=>⟨(λh=>by injection h),(by decide:(14:Int)∉_),nB rfl⟩
theorem Uu:(∀{t:T} {S S':List Int},Ty t S S'->t.wf)/\∀{t:List T} {S S':List Int},Tys t S S'->wfs t:=
 Ty.ind (M:=λt J J=>t.wf) (N:=λt J J=>wfs t) (λh=>⟨(qW h).1,(qW h).2.1⟩) (λh J z=>⟨⟨_,_,rfl,h.elim .inl λq=>.inr (.inl q)⟩,z⟩) (λJ J z=>⟨⟨_,_,rfl,.inr (.inr rfl)⟩,z⟩) (λJ J J z z'=>⟨⟨_,rfl⟩,z,z'⟩) trivial λJ J a b=>⟨a,b⟩
theorem Ty.wf{t:T}{S S':List Int}(h:Ty t S S'):t.wf:=Uu.1 h
theorem Tys.wf{t:List T}{S S':List Int}(h:Tys t S S'):wfs t:=Uu.2 h
theorem Tys.append{a b:List T}{S S' S'':List Int}(h:Tys a S S'):Tys b S' S''->Tys (a++b) S S'':=
 (Ty.ind (M:=λJ J J=>True) (N:=λa S S'=>Tys b S' S''->Tys (a++b) S S'') (λJ=>trivial) (λJ J J=>trivial) (λJ J J=>trivial) (λJ J J J J=>trivial) (λy=>y) λh J J i y=>.cons h (i y)).2 h
theorem RTy.tys:∀{l:List T} {S:List Int},RTy l S->Tys l.reverse [] S
 | [],_,h=>by rw[show _=_ from h];exact .nil
 |t::r,S,⟨S',h,ht⟩=>by
  rw[bQ];exact(RTy.tys h).append (.cons ht .nil)
theorem lO{op:Op}{S S':List Int}(h:Ty (.leaf op) S S'):St1 op S S':=by cases h;assumption
section
variable{r1:Nm->Int->Nat->Nat->Int}{r2:Nm->Int->Int->Nat->Nat->Option Int}
structure Rng(r1:Nm->Int->Nat->Nat->Int)(r2:Nm->Int->Int->Nat->Nat->Option Int):Prop where
 a:∀{c nm t p x},opOf c=some (nm,t,p)->nm.single=true->InS x t->InS (r1 nm x t p) p
 b:∀{c nm t p x y v},opOf c=some (nm,t,p)->nm.single=false->InS x t->InS y t->r2 nm x y t p=some v->InS v p
theorem Lb{b:Nat}{v:Int}(hb:b=32∨b=64)(h:InS v b)(S:List Int):Ty (.leaf (kO b v)) S (kindOf b::S):=by
 rcases hb with rfl|rfl
 ·exact .leaf (.eff (.c32 h) trivial)
 ·exact .leaf (.eff (.c64 h) trivial)
theorem rC{po:Op}{r:List T}{S:List Int}{x:Int}(h:RTy (.leaf po::r) S)(hx:cstO po=some x):∃b S',(b=32∨b=64)/\InS x b/\S=kindOf b::S'/\RTy r S':=by
 refine e12 h λS' h' ht=>?_
 refine e14 (qT hx (lO ht)) λb hb z5z hi z6z=>?_;obtain rfl:=z6z
 exact⟨b,S',hb,hi,rfl,h'⟩
theorem Ei{S:List Int}:Ty (.leaf [26]) S (S.drop 1):=by
 induction S using List.casesOn with
 |nil=>exact .leaf (.eff (t:= [0]) .drop trivial) |cons s S=>exact .leaf (.eff (t:= [s]) .drop ⟨rfl,trivial⟩)
theorem Lx(hr:Rng r1 r2){l l':List T}{S:List Int}(h:RTy l S)(e:red r1 r2 l=some l'):∃S1,S1<+:S/\RTy l' S1:=by
 refine rW (M:=λl'=>∃S1,S1<+:S/\RTy l' S1) e (λop po c r n new hl hc hx=>?_) (λop f po c r hl hc h4=>?_) λop f s po c r hl hc h4=>?_
 ·subst hl
  refine e12 h λS2 hp ht=>?_
  have ht:=lO ht;refine e24 (rC hp hc) λb S3 hb hi z7z hr3=>?_;obtain rfl:=z7z
  refine Md (M:=λn new=>∃S1,S1<+:S/\RTy ((new.map T.leaf).reverse++(.leaf po::r).drop n) S1) hx (λnm t u o hs=>?_) (λnm t u x v o hs hx' hv=>?_) (λnm t u o hs hid=>?_) (λho=>?_) (λq ho hq=>?_) (λho=>?_) λho=>⟨[],dK,S3,hr3,.leaf .br⟩
  ·refine e03 (jY o) λw1 w2 z8z=>?_
   refine e02 ((tD o ht).1 hs) λz9z z10z=>?_;refine e02 z9z λa z11z=>?_;obtain rfl:=z10z
   cases mD w1 hb a;exact⟨_,bU,S3,hr3,Lb w2 (hr.a o hs hi) _⟩
  ·refine e03 (jY o) λw1 w2 z12z=>?_
   refine e02 ((tD o ht).2 hs) λz13z z14z=>?_;refine e02 z13z λa a2=>?_;obtain rfl:=z14z
   cases mD w1 hb a
   induction r using List.casesOn with
   |nil=>exact by contradiction
   |cons q r=>
    refine e12 (mT (show q.cst=some x from hx')) λqo z15z hq=>?_;obtain rfl:=z15z
    refine e24 (rC hr3 hq) λb' S4 hb' hi' z16z hr4=>?_;obtain rfl:=z16z
    cases mD w1 hb' a2.1;exact⟨_,bU,S4,hr4,Lb w2 (hr.b o hs hi' hi hv) _⟩
  ·refine e04 (jY o) λw1 z17z w3 z18z=>?_
   refine e02 ((tD o ht).2 hs) λz19z z20z=>?_;refine e02 z19z λa a2=>?_;obtain rfl:=z20z
   cases w3 (by rw[hid];exact λh=>by injection h)
   refine⟨S3,?_,hr3⟩
   induction S3 using List.casesOn with
   |nil=>exact dK |cons s S4=>rw[show s=kindOf t from a2.1.symm];exact bU
  ·refine e12 (Pm ho ht) λk z21z z22z=>?_;refine e02 z21z λz23z a2=>?_;obtain rfl:=z22z
   refine⟨S3.drop 1,?_,S3,hr3,Ei⟩
   match S3,a2 with
   | [],_=>exact dK | [_],_=>exact dK |x::y::S4,⟨_,a3,_⟩=>rw[show y=k from a3.symm];exact bU
  ·refine e12 (Pm ho ht) λk z24z z25z=>?_;refine e02 z24z λz26z a2=>?_;obtain rfl:=z25z
   induction r using List.casesOn with
   |nil=>exact by contradiction
   |cons tq r'=>
    refine e12 (rX (show tq.put=some q from hq)) λq' z27z hq=>?_;obtain rfl:=z27z
    refine e02 (zU hq) λz28z hq=>?_;obtain rfl:=z28z
    refine e12 hr3 λS4 hr4 hty=>?_
    refine e12 (Nx hq (lO hty)) λkq z29z hput=>?_;obtain rfl:=z29z
    cases (show k=kq from a2.1)
    exact⟨_,bU,S4.drop 1,⟨S4,hr4,Ei⟩,.leaf (hput _)⟩
  ·refine e13 (Oi ho ht) λl z30z z31z z32z=>?_;obtain rfl:=z30z;obtain rfl:=z32z
   exact ifP (P:=λnew:List Op=>∃S1,S1<+:_/\RTy ((new.map T.leaf).reverse++r) S1) ⟨[],dK,_,hr3,.leaf .br⟩ ⟨_,bU,hr3⟩
 ·subst hl
  refine e12 h λS2 hp ht=>?_
  refine e24 (rC hp hc) λb S3 hb hi z33z hr3=>?_;obtain rfl:=z33z
  cases ht with
  |blk hq z=>exact hq.elim (λe=>absurd (e▸h4) (by decide:(2:Int)≠4)) λe=>absurd (e▸h4) (by decide:(3:Int)≠4)
  |if1 hq z=>exact⟨_,bU,_,hr3,ifP (P:=λf=>Ty (.blk [2,_] f) S3 _) (.blk (.inl rfl) z) (.blk (.inl rfl) .nil)⟩
 ·subst hl
  refine e12 h λS2 hp ht=>?_
  refine e24 (rC hp hc) λb S3 hb hi z34z hr3=>?_;obtain rfl:=z34z
  cases ht with
  |ife hq z z'=>exact⟨_,bU,_,hr3,ifP (P:=λf=>Ty (.blk [2,_] f) S3 _) (.blk (.inl rfl) z) (.blk (.inl rfl) z')⟩
theorem sV(hr:Rng r1 r2){l:List T}{S:List Int}(h:RTy l S):∃S1,S1<+:S/\RTy (settle r1 r2 l) S1:=by
 unfold settle
 induction e:red r1 r2 l with
 |none=>exact⟨S,bU,h⟩ |some l'=>exact Lx hr h e
theorem Vu(hr:Rng r1 r2):(∀{t:T} {S S':List Int},Ty t S S'->Ty (t.fo r1 r2) S S')/\∀{ts:List T} {S S':List Int},Tys ts S S'->∀{acc:List T} {S0:List Int},RTy acc S0->S0<+:S->∃S1,S1<+:S'/\RTy (fos r1 r2 ts acc) S1:=
 have k:∀{f:List T} {S:List Int},(∀{acc:List T} {S0:List Int},RTy acc S0->S0<+: []->∃S1,S1<+:S/\RTy (fos r1 r2 f acc) S1)->∃Z,Tys (fos r1 r2 f []).reverse [] Z:=λz=>e12 (z (acc:= []) (S0:= []) rfl bU) λZ J h=>⟨Z,h.tys⟩
 Ty.ind (M:=λt S S'=>Ty (t.fo r1 r2) S S') (N:=λts S S'=>∀{acc:List T} {S0:List Int},RTy acc S0->S0<+:S->∃S1,S1<+:S'/\RTy (fos r1 r2 ts acc) S1)
  .leaf (λh J z=>e11 (k z) λJ z=>.blk h z) (λh J z=>e11 (k z) λJ z=>.if1 h z) (λh J J z z'=>e11 (k z) λJ z=>e11 (k z') λJ z'=>.ife h z z') (λh p=>⟨_,p,h⟩)
  λJ J ht z acc S0 h p=>e12 (ht.weak p) λS0' p' ht'=>e12 (sV hr (show RTy (_::acc) S0' from⟨S0,h,ht'⟩)) λS1 p1 h1=>z h1 (p1.trans p')
theorem Lv(hr:Rng r1 r2){t:T}{S S':List Int}(h:Ty t S S'):Ty (t.fo r1 r2) S S':=(Vu hr).1 h
theorem Lz(hr:Rng r1 r2){ts:List T}{S S':List Int}(h:Tys ts S S'){acc:List T}{S0:List Int}(k:RTy acc S0)(p:S0<+:S):∃S1,S1<+:S'/\RTy (fos r1 r2 ts acc) S1:=(Vu hr).2 h k p
noncomputable def RN(r1:Nm->Int->Nat->Nat->Int)(r2:Nm->Int->Int->Nat->Nat->Option Int):List T->Prop
 | []=>True |t::r=>red r1 r2 (t::r)=none/\t.fo r1 r2=t/\RN r1 r2 r
theorem RN.tail:∀{a b:List T},RN r1 r2 (a++b)->RN r1 r2 b
 | [],_,h=>h |_::a,_,h=>RN.tail (a:=a) h.2.2
theorem RN.drop{n:Nat}{l:List T}(h:RN r1 r2 l):RN r1 r2 (l.drop n):=by
 have:l.take n++l.drop n=l:=cW n l;rw[←this] at h;exact h.tail
theorem Ci:∀{ts acc:List T},RN r1 r2 (ts.reverse++acc)->fos r1 r2 ts acc=ts.reverse++acc
 | [],acc,_=>rfl |t::r,acc,h=>by
   rw[bQ,aS] at h⊢;refine e03 (h.tail (a:=r.reverse)) λh1 h2 z35z=>?_
   show fos r1 r2 r (settle r1 r2 (t.fo r1 r2::acc))=_;rw[h2,settle,show red r1 r2 (t::acc)=none from h1]
   exact Ci h
theorem Pa{op:Op}{f:List T}(h:(fos r1 r2 f []).reverse=f):(T.blk op f).fo r1 r2=.blk op f:=congrArg (T.blk op) h
theorem sK{f:List T}(h:RN r1 r2 f):(fos r1 r2 f.reverse []).reverse=f.reverse:=by
 rw[Ci (by rw[List.reverse_reverse,bY];exact h),bY,List.reverse_reverse]
theorem Jy{new:List Op}:∀{l:List T},(∀o∈new,lH o)->RN r1 r2 l->RN r1 r2 ((new.map T.leaf).reverse++l):=by
 induction new with
 |nil=>intro l _ h;exact h
 |cons o new ih=>
  intro l hi h;rw[aZ,bQ,aS];exact ih (λo h=>hi o (aH _ h)) ⟨yE (hi o aE) _,rfl,h⟩
theorem xZ{t:T}{acc:List T}(ht:t.fo r1 r2=t)(h:RN r1 r2 acc):RN r1 r2 (settle r1 r2 (t::acc)):=by
 unfold settle
 induction e:red r1 r2 (t::acc) with
 |none=>exact⟨e,ht,h⟩ |some l'=>
  refine rW (M:=RN r1 r2) e (λop po c r n new hl hc hx=>?_) (λop f po c r hl hc h4=>?_) λop f s po c r hl hc h4=>?_
  ·injection hl with qz rz;subst qz rz;exact Jy (rE vP hx).1 h.drop
  ·injection hl with qz rz;subst qz rz
   exact⟨uN (op:= [2,op.getD 1 0]) (by decide:(2:Int)≠4) _,Pa (ifP (P:=λf=>(fos r1 r2 f []).reverse=f) (by injection ht) rfl),h.2.2⟩
  ·injection hl with qz rz;subst qz rz
   exact⟨uN (op:= [2,op.getD 1 0]) (by decide:(2:Int)≠4) _,Pa (ifP (P:=λf=>(fos r1 r2 f []).reverse=f) (by injection ht) (by injection ht)),h.2.2⟩
mutual
theorem Qo:∀(t:T),(t.fo r1 r2).fo r1 r2=t.fo r1 r2
 |.leaf op=>rfl |.blk op f=>Pa (sK (wB f (acc:= []) trivial)) |.ife op f s=>(congr (congrArg (T.ife op) (sK (wB f (acc:= []) trivial))) (sK (wB s (acc:= []) trivial)):T.ife op _ _=.ife op _ _)
theorem wB:∀(ts:List T) {acc:List T},RN r1 r2 acc->RN r1 r2 (fos r1 r2 ts acc)
 | [],_,h=>h |t::r,_,h=>wB r (xZ (Qo t) h)
end
theorem Ak(ts:List T):(fos r1 r2 (fos r1 r2 ts []).reverse []).reverse=(fos r1 r2 ts []).reverse:=sK (wB ts trivial)
theorem Rc:∀l:List Op,deps (l.map T.leaf)=0
 | []=>rfl |_::l=>(Nat.zero_max _).trans (Rc l)
theorem Hd:∀(n:Nat) (l:List T),deps (l.drop n)<=deps l
 |0,_=>aR _ |_+1,[]=>aR _ |n+1,_::l=>aC (Hd n l) (cM _ _)
theorem Qi{op op' po:Op}{f g:List T}{r:List T}(h:deps g<=deps f):deps (.blk op' g::r)<=deps (.blk op f:: .leaf po::r):=
 iJ.mpr ⟨aC (aY h) (dW _ _),aC (cM 0 _) (cM _ _)⟩
theorem Cf(l:List T):deps (settle r1 r2 l)<=deps l:=by
 unfold settle
 induction e:red r1 r2 l with
 |none=>exact aR _ |some l'=>
  refine rW (M:=λl'=>deps l'<=deps l) e (λop po c r n new hl hc hx=>?_) (λop f po c r hl hc h4=>?_) λop f s po c r hl hc h4=>?_
  ·subst hl
   rw[pF,lS,Rc];exact iJ.mpr ⟨aP _,aC (Hd n _) (cM _ _)⟩
  ·subst hl
   exact Qi (ifP (P:=λg=>deps g<=deps f) (aR _) (aP _))
  ·subst hl
   exact aC (Qi (op:=op) (f:=if c≠0 then f else s) (aR _)) (iJ.mpr ⟨aC (aY (ifP (P:=λg=>deps g<=max (deps f) (deps s)) (dW _ _) (cM _ _))) (dW _ _),cM _ _⟩)
theorem Ba{n:Nat}{f:List T}(h:n<=max (deps f) (deps [])):n<=deps f:=aC h (iJ.mpr ⟨aR _,aP _⟩)
mutual
theorem Mz:∀(t:T),(t.fo r1 r2).dep<=t.dep
 |.leaf _=>aR _ |.blk _ f=>aY (by rw[lS];exact Ba (rB f []))
 |.ife _ f s=>aY (by rw[lS,lS];exact iJ.mpr ⟨aC (Ba (rB f [])) (dW _ _),aC (Ba (rB s [])) (cM _ _)⟩)
theorem rB:∀(ts acc:List T),deps (fos r1 r2 ts acc)<=max (deps ts) (deps acc)
 | [],_=>cM _ _ |t::r,acc=>aC (rB r (settle r1 r2 (t.fo r1 r2::acc))) (iJ.mpr ⟨aC (cM t.dep _) (dW _ _),aC (Cf _) (iJ.mpr ⟨aC (Mz t) (aC (dW _ (deps r)) (dW _ _)),cM _ _⟩)⟩)
end
noncomputable def fln(l:List T):Nat:=(fls l).length
theorem rP(a b:List T):fln (a++b)=fln a+fln b:=by unfold fln;rw[qE,aD]
theorem lA(t:T)(r:List T):fln (t::r)=t.fl.length+fln r:=aD
theorem lR:∀l:List T,fln l.reverse=fln l
 | []=>rfl |t::r=>by rw[bQ,rP,lR r,lA,lA,dP];rfl
theorem Zc:∀l:List Op,fln (l.map T.leaf)=l.length
 | []=>rfl |_::l=>congrArg Nat.succ (Zc l)
theorem Vo:∀t:T,1<=t.fl.length
 |.leaf _=>aR _ |.blk _ _=>aY (aP _) |.ife _ _ _=>aY (aP _)
theorem uW:∀l:List T,l.length<=fln l
 | []=>aR _ |t::r=>by rw[lA,dP];exact cQ (uW r) (Vo t)
theorem Fd:∀(n:Nat) (l:List T),n<=l.length->n+fln (l.drop n)<=fln l
 |0,_,_=>cZ (fC _) |n+1,t::l,h=>by rw[lA,dP t.fl.length,gO];exact cQ (Fd n l (Nat.le_of_succ_le_succ h)) (Vo t)
theorem wN(op:Op)(f:List T):(T.blk op f).fl.length=fln f+2:=congrArg Nat.succ aD
theorem Ag(op:Op)(f s:List T):(T.ife op f s).fl.length=fln f+fln s+3:=by
 show(fls f++ [5]::(fls s++ [[11]])).length+1=_;rw[aD,List.length_cons,aD,eW (fln f)];rfl
theorem vF(l:List T):fln (settle r1 r2 l)<=fln l:=by
 unfold settle
 induction e:red r1 r2 l with
 |none=>exact aR _ |some l'=>
  refine rW (M:=λl'=>fln l'<=fln l) e (λop po c r n new hl hc hx=>?_) (λop f po c r hl hc h4=>?_) λop f s po c r hl hc h4=>?_
  ·subst hl
   refine e03 (rE vP hx) λz36z h2 h3=>?_
   rw[rP,lR,Zc];refine aC (bG h2 _) (aC (Fd n (.leaf po::r) ?_) (gX (cZ rfl)));rcases h3 with rfl|⟨rfl,h⟩
   ·exact aY (aP _)
   ·induction r using List.casesOn with
    |nil=>exact h.elim (λh=>absurd rfl h) λh=>absurd rfl h |cons q r=>exact aY (aY (aP _))
  ·subst hl
   rw[lA,lA,wN,wN];exact cQ (bG (ifP (P:=λg=>fln g<=fln f) (aR _) (aP _)) 2) (dA _)
  ·subst hl
   rw[lA,lA,wN,Ag];exact cQ (gX (bG (ifP (P:=λg=>fln g<=fln f+fln s) (cN _ _) (Nat.le_add_left _ _)) 2)) (dA _)
mutual
theorem Po:∀(t:T),(t.fo r1 r2).fl.length<=t.fl.length
 |.leaf _=>aR _ |.blk _ f=>by
  show(T.blk _ (fos r1 r2 f []).reverse).fl.length<=_;rw[wN,wN,lR];exact bG (rA f []) 2
 |.ife _ f s=>by
  show(T.ife _ (fos r1 r2 f []).reverse (fos r1 r2 s []).reverse).fl.length<=_;rw[Ag,Ag,lR,lR];exact bG (cQ (rA f []) (rA s [])) 3
theorem rA:∀(ts acc:List T),fln (fos r1 r2 ts acc)<=fln ts+fln acc
 | [],acc=>Nat.le_add_left _ _ |t::r,acc=>by
   refine aC (rA r (settle r1 r2 (t.fo r1 r2::acc))) ?_;rw[lA,dP t.fl.length,eW];exact gF (aC (vF _) (by rw[lA];exact bG (Po t) _)) _
end
end
noncomputable def rnd(x:Int)(b:Nat):Int:=(x+2^(b-1)) % 2^b-2^(b-1)
noncomputable def sg(x:Int)(b:Nat):Int:=if x/2^(b-1)≠0 then x-2^b else x
noncomputable def lV(nm:Nm)(x y:Int)(t:Nat):Option Int:=
 if y=0∨(nm=.div_s/\x= -2^(t-1)/\y= -1) then none
 else if nm=.div_u then some (x % 2^t/(y % 2^t))
 else if nm=.rem_u then some (x % 2^t % (y % 2^t))
 else
  let many:=if x.fdiv y<0/\x.fdiv y*y≠x then x.fdiv y+1 else x.fdiv y
  some (if nm=.div_s then many else x-many*y)
noncomputable def l1(nm:Nm)(x:Int)(t:Nat):Int:=match nm with
 |.eqz=>if x=0 then 1 else 0
 |.clz=>((bD t).filter λ(k:Nat)=>decide (x % 2^t<2^k)).length |.ctz=>((bD t).filter λ(k:Nat)=>decide (x % 2^t % 2^(k+1)=0)).length |.popcnt=>((bD t).map λ(k:Nat)=>x % 2^t/2^k % 2).sum |.wrap=>rnd x 32 |.wide=>x % 2^t |.sp8=>rnd x 8 |.sp16=>rnd x 16 |.sp32=>rnd x 32 |_=>0
noncomputable def b01(p:Prop)[Decidable p]:Int:=if p then 1 else 0
noncomputable def l2(nm:Nm)(x y:Int)(t:Nat):Option Int:=match nm with
 |.div_s|.div_u|.rem_s|.rem_u=>lV nm x y t
 |.eq=>some (b01 (x=y))|.ne=>some (b01 (x≠y))
 |.lt_s=>some (b01 (x<y))|.lt_u=>some (b01 (x % 2^t<y % 2^t))
 |.gt_s=>some (b01 (y<x))|.gt_u=>some (b01 (y % 2^t<x % 2^t))
 |.le_s=>some (b01 (x<=y))|.le_u=>some (b01 (x % 2^t<=y % 2^t))
 |.ge_s=>some (b01 (y<=x))|.ge_u=>some (b01 (y % 2^t<=x % 2^t))
 |.add=>some (x+y)|.sub=>some (x-y)|.mul=>some (x*y)
 |.and=>some (bL x y)|.or=>some (fK x y)|.xor=>some (hV x y)
 |.shl=>some (x*2^(y % t).toNat)|.shr_s=>some (x/2^(y % t).toNat)|.shr_u=>some (x % 2^t/2^(y % t).toNat)
 |.rotl=>some (x % 2^t*2^(y % t).toNat+x % 2^t/2^(t-y % t).toNat) |.rotr=>some (x % 2^t*2^(t-y % t).toNat+x % 2^t/2^(y % t).toNat) |_=>none
noncomputable def lr1(nm:Nm)(x:Int)(t p:Nat):Int:=rnd (l1 nm x t) p
noncomputable def lr2(nm:Nm)(x y:Int)(t p:Nat):Option Int:=(l2 nm x y t).map λv=>rnd v p
noncomputable def tow(a b:Int):Int:=if(a<0↔b<0) then(if a<0 then-a else a)/(if b<0 then-b else b) else-((if a<0 then-a else a)/(if b<0 then-b else b))
noncomputable def rtl(u v:Int)(t:Nat):Int:=fK (u*2^(v % t).toNat % 2^t) (u/2^(t-v % t).toNat)
noncomputable def p1(nm:Nm)(u:Int)(t p:Nat):Int:=match nm with
 |.eqz=>b01 (u=0) |.clz=>((bD t).filter λ(k:Nat)=>decide (u<2^k)).length |.ctz=>((bD t).filter λ(k:Nat)=>decide (u % 2^(k+1)=0)).length |.popcnt=>((bD t).map λ(k:Nat)=>u/2^k % 2).sum |.wrap=>u % 2^32 |.wide=>u |.sp8=>sg (u % 2^8) 8 % 2^p |.sp16=>sg (u % 2^16) 16 % 2^p |.sp32=>sg (u % 2^32) 32 % 2^p |_=>0
noncomputable def p2(nm:Nm)(u v:Int)(t:Nat):Option Int:=match nm with
 |.div_s=>if v=0∨(sg u t= -2^(t-1)/\sg v t= -1) then none else some (tow (sg u t) (sg v t) % 2^t)
 |.div_u=>if v=0 then none else some (u/v)
 |.rem_s=>if v=0 then none else some ((sg u t-sg v t*tow (sg u t) (sg v t)) % 2^t)
 |.rem_u=>if v=0 then none else some (u % v)
 |.eq=>some (b01 (u=v))|.ne=>some (b01 (u≠v))
 |.lt_s=>some (b01 (sg u t<sg v t))|.lt_u=>some (b01 (u<v))
 |.gt_s=>some (b01 (sg v t<sg u t))|.gt_u=>some (b01 (v<u))
 |.le_s=>some (1-b01 (sg v t<sg u t))|.le_u=>some (1-b01 (v<u))
 |.ge_s=>some (1-b01 (sg u t<sg v t))|.ge_u=>some (1-b01 (u<v))
 |.add=>some ((u+v) % 2^t)|.sub=>some ((u-v) % 2^t)|.mul=>some (u*v % 2^t)
 |.and=>some (bL u v)|.or=>some (fK u v)|.xor=>some (hV u v)
 |.shl=>some (u*2^(v % t).toNat % 2^t)|.shr_s=>some (sg u t/2^(v % t).toNat % 2^t)|.shr_u=>some (u/2^(v % t).toNat)
 |.rotl=>some (rtl u v t) |.rotr=>some (rtl u (t-v % t) t) |_=>none
theorem qQ{b:Nat}(hb:0<b):(2:Int)^b=2*2^(b-1):=by
 obtain⟨n,rfl⟩:∃n,b=n+1:=⟨b-1,by exact(Nat.sub_eq_iff_eq_add hb).mp rfl⟩
 rw[fE,Nat.add_sub_cancel,dI]
theorem sW{b:Nat}(hb:0<b)(x:Int):InS (rnd x b) b:=by
 have h1:=bF (x+2^(b-1)) (gA (cF b));have h2:=bA (x+2^(b-1)) (cF b);have h3:=qQ hb;unfold InS rnd;generalize(x+2^(b-1)) % 2^b=y at*;generalize(2:Int)^(b-1)=z at*;lia
theorem sX{b:Nat}{x y:Int}(h:x % 2^b=y % 2^b):rnd x b=rnd y b:=by
 unfold rnd;rw[jJ,h,←jJ]
theorem Kr{b:Nat}(x:Int):rnd x b % 2^b=x % 2^b:=by
 unfold rnd;rw[fY,eE,←fY]
 congr 1;exact Int.add_sub_cancel x (2^(b-1))
theorem Bf{b:Nat}(hb:0<b){v:Int}(h0:0<=v)(h1:v<2^b):sg v b=rnd v b:=by
 have h3:=qQ hb;have hp:=cF (b-1);unfold sg rnd;generalize hz:(2:Int)^(b-1)=z at*;by_cases h:v<z
 ·rw[if_neg (by rw[hO h0 h];decide),dS (by lia) (by lia)];exact Eq.symm (Int.add_sub_cancel v z)
 ·have:v/z=1:=by
   refine(kbt_unique hp (q:=1) (r:=v-z) ?_ ?_ ?_).1
   ·lia
   ·lia
   ·lia
  rw[if_pos (by rw[this];decide),h3]
  have:(v+z) % (2*z)=v-z:=(kbt_unique (by lia) (q:=1) (r:=v-z) (by lia) (by lia) (by lia)).2
  rw[this];lia
theorem Ct{b:Nat}(hb:0<b){x:Int}(h:InS x b):rnd x b=x:=by
 have h3:=qQ hb;unfold InS at h;unfold rnd;generalize hz:(2:Int)^(b-1)=z at*;rw[dS (by lia) (by lia)];exact Int.add_sub_cancel x z
theorem kI(x:Int)(b:Nat):0<=x % 2^b/\x % 2^b<2^b:=⟨bF _ (gA (cF b)),bA _ (cF b)⟩
theorem rV{b:Nat}(hb:0<b){x:Int}(h:InS x b):sg (x % 2^b) b=x:=by
 rw[Bf hb (kI x b).1 (kI x b).2,sX (eE x _),Ct hb h]
theorem Rl{b:Nat}(hb:0<b){x y:Int}(hx:InS x b)(hy:InS y b)(h:x % 2^b=y % 2^b):x=y:=by
 rw[←rV hb hx,h,rV hb hy]
theorem nM{b:Nat}(hb:0<b){x:Int}(hx:InS x b):x % 2^b=0↔x=0:=by
 refine⟨λh=>Rl hb hx ?_ (by rw[h];simp),λh=>by rw[h];simp⟩
 have:=cF (b-1);unfold InS;lia
noncomputable def Res(p:Nat)(w v:Int):Prop:=(0<=v/\v<2^p)/\v % 2^p=w % 2^p
theorem Res.eq{p:Nat}(hp:0<p){w v:Int}(h:Res p w v):sg v p=rnd w p:=by
 rw[Bf hp h.1.1 h.1.2];exact sX h.2
theorem oN{p:Nat}{a w:Int}(h:a % 2^p=w % 2^p):Res p w (a % 2^p):=⟨kI a p,by rw[eE];exact h⟩
theorem qK{p:Nat}(hp:0<p){q r:Prop}[Decidable q][Decidable r](h:q↔r):Res p (b01 q) (b01 r):=by
 have:(2:Int)<=2^p:=by
  have:=qQ hp;have:=cF (p-1);lia
 unfold b01 Res;by_cases hq:q
 ·rw[if_pos hq,if_pos (h.mp hq)];lia
 ·rw[if_neg hq,if_neg (λz=>hq (h.mpr z))];lia
theorem zS{p:Nat}(hp:0<p){q r:Prop}[Decidable q][Decidable r](h:q↔¬r):Res p (b01 q) (1-b01 r):=by
 have:(1-b01 r)=b01 (¬r):=by unfold b01;by_cases hr:r<;>simp[hr]
 rw[this];exact qK hp h
theorem tA{k:Nat}(x:Int):x % 2^(k+1)=2*(x/2 % 2^k)+x % 2:=by
 have h1:=kI (x/2) k;have h2:=bF x (show(2:Int)≠0 by decide)
 have h3:=bA x (show(0:Int)<2 by decide)
 have h4:=fM (x/2) (2^k);have h5:=fM x 2;have e:(2:Int)^(k+1)=2*2^k:=by rw[fE,dI]
 refine(kbt_unique (cF _) (q:=x/2/2^k) ?_ (by lia) (by lia)).2
 rw[e,gL];lia
theorem Bb(k:Nat):∀(x y:Int),bL (x % 2^k) (y % 2^k)=bL x y % 2^k:=by
 induction k with
 |zero=>intro x y;simp[Int.emod_one];rfl
 |succ k ih=>
  intro x y;rw[kbt_halves,tA (bL x y)];have e1:∀x:Int,x % 2^(k+1)/2=x/2 % 2^k:=λx=>by rw[tA];lia
  have e2:∀x:Int,x % 2^(k+1) % 2=x % 2:=λx=>by rw[tA];lia
  rw[e1,e1,e2,e2,ih];have h:=kbt_halves x y;generalize bL (x/2) (y/2)=z at*;have h1:bL x y/2=z:=by rw[h];split<;>lia
  have h2:bL x y % 2=if x % 2=1/\y % 2=1 then 1 else 0:=by rw[h];split<;>lia
  rw[h1,h2]
theorem Hc(x y:Int):fK x y=x+y-bL x y:=bitOr_and x y
theorem On(k:Nat):∀(x y:Int),0<=x->x<2^k->0<=y->y<2^k->x+y-bL x y<2^k:=by
 induction k with
 |zero=>
  intro x y h1 h2 h3 h4;have e1:x=0:=by rw[hG] at h2;lia
  have e2:y=0:=by rw[hG] at h4;lia
  subst e1;subst e2;decide
 |succ k ih=>
  intro x y h1 h2 h3 h4;have e:(2:Int)^(k+1)=2*2^k:=by rw[fE,dI]
  rw[e] at h2 h4⊢;have h5:=ih (x/2) (y/2) (by lia) (by lia) (by lia) (by lia)
  rw[kbt_halves x y];split<;>lia
theorem Cb(x y:Int)(hx:0<=x)(hy:0<=y):0<=bL x y/\bL x y<=x/\bL x y<=y:=by
 have h1:=bitAnd_range x hy;have h2:=bitAnd_range y hx;rw[bitAnd_comm] at h2;exact⟨h1.1,h2.2,h1.2⟩
theorem Bl(k:Nat):∀(a b:Int),0<=b->b<2^k->bL (a*2^k) b=0:=by
 induction k with
 |zero=>
  intro a b h1 h2;have:b=0:=by rw[hG] at h2;lia
  subst this;exact bitAnd_zero _
 |succ k ih=>
  intro a b h1 h2;have e:(2:Int)^(k+1)=2*2^k:=by rw[fE,dI]
  have e2:a*2^(k+1)=2*(a*2^k):=by rw[e,Int.mul_left_comm]
  rw[kbt_halves,e2];have h3:2*(a*2^k)/2=a*2^k:=Int.mul_ediv_cancel_left _ (by decide)
  rw[h3,ih a (b/2) (by lia) (by lia),if_neg (by lia)];rfl
theorem Vt{t:Nat}(ht:t=32∨t=64)(y:Int):y % 2^t % t=y % t:=by
 rcases ht with rfl|rfl
 ·exact iZ y (by decide)
 ·exact iZ y (by decide)
theorem Gj{t k:Nat}(hk:k<=t)(u:Int):u*2^k % 2^t=u % 2^(t-k)*2^k:=by
 obtain⟨d,rfl⟩:∃d,t=d+k:=⟨t-k,by exact(Nat.sub_eq_iff_eq_add hk).mp rfl⟩
 rw[Nat.add_sub_cancel,dB,dI u,dI (2^d),Int.mul_emod_mul_of_pos _ _ (cF k),dI]
theorem Bh{t:Nat}(ht:0<t){u v:Int}(hu:0<=u/\u<2^t):Res t (u*2^(v % t).toNat+u/2^(t-v % t).toNat) (rtl u v t):=by
 have hv0:0<=v % t:=bF _ (by exact Int.natCast_ne_zero_iff_pos.mpr ht)
 have hv1:v % t<t:=bA _ (by exact Int.ofNat_lt.mpr ht)
 unfold rtl;obtain⟨k,hk⟩:∃k:Nat,v % t=k:=⟨(v % t).toNat,by exact Eq.symm (Int.toNat_of_nonneg hv0)⟩
 rw[hk];have e1:((k:Int)).toNat=k:=rfl;have e2:=Int.toNat_sub t k;rw[e1,e2];have hkt:k<t:=by lia
 have hdiv:u/2^(t-k)<2^k:=by
  refine Int.ediv_lt_of_lt_mul (cF _) ?_;rw[←dB,show k+(t-k)=t by lia];exact hu.2
 have hd0:0<=u/2^(t-k):=Int.ediv_nonneg hu.1 (bK (cF _));have h0:=Bl k (u % 2^(t-k)) (u/2^(t-k)) hd0 hdiv;rw[←Gj (by exact fD hkt)] at h0
 have hm:=kI (u*2^k) t
 have hle:(2:Int)^k<=2^t:=by
  rw[show t=k+(t-k) by lia,dB]
  have:=cF k;have h2:=cF (t-k);have:=iX (show(1:Int)<=2^(t-k) by exact h2) (bK (cF k))
  lia
 have hlt:=On t (u*2^k % 2^t) (u/2^(t-k)) hm.1 hm.2 hd0 (by exact cK hdiv hle)
 rw[Hc];rw[h0] at hlt⊢;refine⟨⟨by lia,hlt⟩,?_⟩
 rw[gZ,jJ,eE,←jJ]
theorem Mb(a b:Int):tow a b=a.tdiv b:=by
 unfold tow;rcases Int.lt_or_le a 0 with ha|ha<;>rcases Int.lt_or_le b 0 with hb|hb
 ·rw[if_pos (by simp[ha,hb]),if_pos ha,if_pos hb,←Int.neg_tdiv_neg,eM (by lia)]
 ·rw[if_neg (by lia),if_pos ha,if_neg (by exact Int.not_lt_of_ge hb)]
  rw[←eM (by lia:0<= -a),Int.neg_tdiv,Int.neg_neg]
 ·rw[if_neg (by lia),if_neg (by exact Int.not_lt_of_ge ha),if_pos hb]
  rw[←eM ha,Int.tdiv_neg,Int.neg_neg]
 ·rw[if_pos (by lia),if_neg (by exact Int.not_lt_of_ge ha),if_neg (by exact Int.not_lt_of_ge hb),eM ha]
theorem yN{x y:Int}(hy:y≠0):(if x.fdiv y<0/\x.fdiv y*y≠x then x.fdiv y+1 else x.fdiv y)=x.tdiv y:=by
 by_cases hd:y∣x
 ·rw[if_neg λh=>h.2 (Int.fdiv_mul_cancel hd),Int.fdiv_eq_tdiv,if_pos hd,gZ]
 ·have hm:x.fdiv y*y≠x:=λh=>hd ⟨_,(dI .. ▸h).symm⟩
  have e:x.fdiv y=x.tdiv y-if 0<=x then if 0<=y then 0 else 1 else if 0<=y then y.sign else 1+y.sign:=by rw[Int.fdiv_eq_tdiv,if_neg hd]
  by_cases hx:0<=x
  ·rw[if_pos hx] at e
   by_cases h:0<=y
   ·rw[if_pos h,gZ] at e
    rw[if_neg λz=>fT.mpr (e▸Int.tdiv_nonneg hx h) z.1,e]
   ·rw[if_neg h] at e
    have:=Int.tdiv_nonpos_of_nonneg_of_nonpos hx (iO h);rw[if_pos ⟨by omega,hm⟩,e,Int.sub_add_cancel]
  ·rw[if_neg hx] at e
   by_cases h:0<=y
   ·rw[if_pos h,Int.sign_eq_one_of_pos (iY.mpr ⟨h,hy.symm⟩)] at e
    have:x.tdiv y<=0:=by
     have:=Int.tdiv_nonneg (eX (iO hx)) h;rw[Int.neg_tdiv] at this;exact Int.zero_le_neg_iff.mp this
    rw[if_pos ⟨by omega,hm⟩,e,Int.sub_add_cancel]
   ·rw[if_neg h,Int.sign_eq_neg_one_of_neg (Int.not_le.mp h),show(1:Int)+ -1=0 from rfl,gZ] at e
    have:0<=x.tdiv y:=by
     have:=Int.tdiv_nonneg (eX (iO hx)) (eX (iO h))
     rwa [Int.neg_tdiv,Int.tdiv_neg,Int.neg_neg] at this
    rw[if_neg λz=>fT.mpr (e▸this) z.1,e]
theorem Ih{c:Int}{nm:Nm}{t p:Nat}(h:opOf c=some (nm,t,p)):(nm∈arN->t=p)/\(nm∈yZ->p=32):=
 of_decide_eq_true (zV (λJ x=>decide ((x.1∈arN->x.2.1=x.2.2)/\(x.1∈yZ->x.2.2=32))) (by decide+kernel) h)
theorem rM{a b:Nat}(h:a<=b):(2:Int)^a<=2^b:=by
 obtain⟨d,rfl⟩:∃d,b=a+d:=⟨b-a,by exact Eq.symm (Nat.add_sub_of_le h)⟩
 rw[dB];have:=cF a;have:=cF d;have:=iX (show(1:Int)<=2^d by exact this) (bK (cF a))
 lia
theorem sS{p:Nat}(hp:p=32∨p=64){w:Int}(h0:0<=w)(h1:w<=64):Res p w w:=by
 refine⟨⟨h0,?_⟩,rfl⟩;rcases hp with rfl|rfl
 ·have:(2:Int)^32=4294967296:=by decide
  lia
 ·have:(2:Int)^64=18446744073709551616:=by decide
  lia
theorem Fu(l:List Nat)(u:Int):0<=(l.map λ(k:Nat)=>u/2^k % 2).sum/\(l.map λ(k:Nat)=>u/2^k % 2).sum<=l.length:=by
 induction l with
 |nil=>simp |cons k r ih=>
  have h1:=bF (u/2^k) (show(2:Int)≠0 by decide)
  have h2:=bA (u/2^k) (show(0:Int)<2 by decide)
  simp only[aZ,List.sum_cons,List.length_cons];lia
theorem vR{a b:Nat}(h:a<=b)(x:Int):x % 2^b % 2^a=x % 2^a:=by
 obtain⟨d,rfl⟩:∃d,b=a+d:=⟨b-a,by exact Eq.symm (Nat.add_sub_of_le h)⟩
 exact iZ x (by rw[dB];exact Int.dvd_mul_right _ _)
theorem Ye{n t p:Nat}(hn:0<n)(hnt:n<=t)(x:Int):Res p (rnd x n) (sg (x % 2^t % 2^n) n % 2^p):=by
 rw[vR hnt,Bf hn (kI x n).1 (kI x n).2,sX (eE x _)];exact oN rfl
theorem Cy{c:Int}{nm:Nm}{t p:Nat}{x:Int}(ho:opOf c=some (nm,t,p))(hs:nm.single=true)(hx:InS x t):Res p (l1 nm x t) (p1 nm (x % 2^t) t p):=by
 refine e05 (jY ho) λw1 w2 z1z z2z z3z=>?_;refine e03 z2z λs1 s2 s3=>?_
 refine e02 (Ih ho) λa1 a2=>?_
 have ht:0<t:=by exact t0 w1
 have hp:0<p:=by exact t0 w2
 induction nm with
 |eqz=>exact qK hp (nM ht hx).symm |clz=>
  have:=fL (λ(k:Nat)=>decide (x % 2^t<2^k)) (bD t)
  rw[cV] at this;have e:l1 .clz x t=(((bD t).filter λ(k:Nat)=>decide (x % 2^t<2^k)).length:Int):=rfl
  exact sS w2 (by rw[e];exact bT _) (by rw[e];lia)
 |ctz=>
  have:=fL (λ(k:Nat)=>decide (x % 2^t % 2^(k+1)=0)) (bD t)
  rw[cV] at this;have e:l1 .ctz x t=(((bD t).filter λ(k:Nat)=>decide (x % 2^t % 2^(k+1)=0)).length:Int):=rfl
  exact sS w2 (by rw[e];exact bT _) (by rw[e];lia)
 |popcnt=>
  have:=Fu (bD t) (x % 2^t);rw[cV] at this;exact sS w2 this.1 (fH this.2 (by lia))
 |wrap=>
  refine e02 (s1 rfl) λz4z z5z=>?_;obtain rfl:=z4z;obtain rfl:=z5z
  exact oN (by rw[vR (by decide)];exact(Kr x).symm)
 |wide=>
  refine e02 (s2 rfl) λz6z z7z=>?_;obtain rfl:=z6z;obtain rfl:=z7z
  have:=kI x 32;have h2:=rM (show 32<=64 by decide)
  exact⟨⟨this.1,cK this.2 h2⟩,rfl⟩
 |sp8=>exact Ye (by decide) (by lia) x
 |sp16=>exact Ye (by decide) (by lia) x
 |sp32=>exact Ye (by decide) (by lia) x
 |_=>injection hs
theorem wR(x y:Int)(m:Int):(x % m+y % m) % m=(x+y) % m:=(jJ x y m).symm
noncomputable def P2(nm:Nm)(t p:Nat)(x y:Int):Prop:=(l2 nm x y t=none/\p2 nm (x % 2^t) (y % 2^t) t=none)∨∃w v,l2 nm x y t=some w/\p2 nm (x % 2^t) (y % 2^t) t=some v/\Res p w v
section
variable{t p:Nat}{x y:Int}
theorem Mn(ht:0<t)(hx:InS x t)(hy:InS y t):P2 .div_s t t x y:=by
 show(lV _ _ _ _=none/\p2 _ _ _ _=none)∨∃w v,lV _ _ _ _=some w/\_;unfold lV p2;dsimp only;rw[rV ht hx,rV ht hy];by_cases hc:y=0∨(x= -2^(t-1)/\y= -1)
 ·rw[if_pos (hc.imp id λz=>⟨rfl,z⟩),if_pos (hc.imp (nM ht hy).mpr id)]
  exact .inl ⟨rfl,rfl⟩
 ·have h1:¬(y=0∨(Nm.div_s=.div_s/\x= -2^(t-1)/\y= -1)):=λz=>hc (z.imp id λq=>q.2)
  have h2:¬(y % 2^t=0∨(x= -2^(t-1)/\y= -1)):=λz=>hc (z.imp (nM ht hy).mp id)
  rw[if_neg h1,if_neg h2,if_neg (by decide:¬Nm.div_s=.div_u),if_neg (by decide:¬Nm.div_s=.rem_u),if_pos rfl,yN (λz=>hc (.inl z)),Mb]
  exact .inr ⟨_,_,rfl,rfl,oN rfl⟩
theorem Ln(ht:0<t)(hy:InS y t):P2 .div_u t t x y:=by
 have ux:=kI x t;have uy:=kI y t;show(lV _ _ _ _=none/\p2 _ _ _ _=none)∨∃w v,lV _ _ _ _=some w/\_;unfold lV p2;dsimp only;by_cases hc:y=0
 ·rw[if_pos (.inl hc),if_pos ((nM ht hy).mpr hc)]
  exact .inl ⟨rfl,rfl⟩
 ·rw[if_neg (λz=>z.elim hc (λq=>absurd q.1 (by decide))),if_neg λz=>hc ((nM ht hy).mp z),if_pos rfl]
  exact .inr ⟨_,_,rfl,rfl,⟨Int.ediv_nonneg ux.1 uy.1,bN (Int.ediv_le_self _ ux.1) ux.2⟩,rfl⟩
theorem Kn(ht:0<t)(hx:InS x t)(hy:InS y t):P2 .rem_s t t x y:=by
 show(lV _ _ _ _=none/\p2 _ _ _ _=none)∨∃w v,lV _ _ _ _=some w/\_;unfold lV p2;dsimp only;rw[rV ht hx,rV ht hy];by_cases hc:y=0
 ·rw[if_pos (.inl hc),if_pos ((nM ht hy).mpr hc)]
  exact .inl ⟨rfl,rfl⟩
 ·rw[if_neg (λz=>z.elim hc (λq=>absurd q.1 (by decide))),if_neg λz=>hc ((nM ht hy).mp z),if_neg (by decide),if_neg (by decide),if_neg (by decide),yN hc,Mb,dI]
  exact .inr ⟨_,_,rfl,rfl,oN rfl⟩
theorem Jn(ht:0<t)(hy:InS y t):P2 .rem_u t t x y:=by
 show(lV _ _ _ _=none/\p2 _ _ _ _=none)∨∃w v,lV _ _ _ _=some w/\_;unfold lV p2;dsimp only;by_cases hc:y=0
 ·rw[if_pos (.inl hc),if_pos ((nM ht hy).mpr hc)]
  exact .inl ⟨rfl,rfl⟩
 ·have hv:y % 2^t≠0:=λz=>hc ((nM ht hy).mp z)
  have uy:=kI y t;rw[if_neg (λz=>z.elim hc (λq=>absurd q.1 (by decide))),if_neg hv,if_neg (by decide),if_pos rfl]
  exact .inr ⟨_,_,rfl,rfl,⟨bF _ hv,Int.lt_trans (bA (x % 2^t) (by lia)) uy.2⟩,rfl⟩
theorem By:P2 .and t t x y:=
 have h:=Cb (x % 2^t) (y % 2^t) (kI x t).1 (kI y t).1
 .inr ⟨_,_,rfl,rfl,⟨h.1,bN h.2.1 (kI x t).2⟩,by rw[Bb,eE]⟩
theorem Dm(a b d m:Int):(a % m+b % m-d % m) % m=(a+b-d) % m:=by rw[fY,wR,eE,←fY]
theorem p2_or:P2 .or t t x y:=by
 have ux:=kI x t;have uy:=kI y t;have land:=Cb (x % 2^t) (y % 2^t) ux.1 uy.1;refine .inr ⟨_,_,rfl,rfl,⟨?_,?_⟩,?_⟩
 ·rw[Hc];lia
 ·rw[Hc];exact On t (x % 2^t) (y % 2^t) ux.1 ux.2 uy.1 uy.2
 ·rw[Hc,Hc,Bb];exact Dm _ _ _ _
theorem Yx:P2 .xor t t x y:=by
 have ux:=kI x t;have uy:=kI y t;have land:=Cb (x % 2^t) (y % 2^t) ux.1 uy.1;have lor:=On t (x % 2^t) (y % 2^t) ux.1 ux.2 uy.1 uy.2;refine .inr ⟨_,_,rfl,rfl,⟨?_,?_⟩,?_⟩
 ·rw[bitXor_and];lia
 ·rw[bitXor_and];omega
 ·rw[bitXor_and,bitXor_and,Bb,fY,wR,jH 2 (_ % _),eE,←jH,←fY]
theorem Zx(km:y % 2^t % t=y % t):P2 .shl t t x y:=by
 refine .inr ⟨_,_,rfl,rfl,?_⟩;rw[km];exact oN (by rw[jH,eE,←jH])
theorem Hn(ht:0<t)(hx:InS x t)(km:y % 2^t % t=y % t):P2 .shr_s t t x y:=by
 refine .inr ⟨_,_,rfl,rfl,?_⟩;rw[km,rV ht hx];exact oN rfl
theorem Gn(km:y % 2^t % t=y % t):P2 .shr_u t t x y:=by
 refine .inr ⟨_,_,rfl,rfl,?_⟩;rw[km];exact⟨⟨Int.ediv_nonneg (kI x t).1 (bK (cF _)),bN (Int.ediv_le_self _ (kI x t).1) (kI x t).2⟩,rfl⟩
theorem Ur(ht:0<t)(km:y % 2^t % t=y % t):P2 .rotl t t x y:=by
 refine .inr ⟨_,_,rfl,rfl,?_⟩;have h:=Bh ht (u:=x % 2^t) (v:=y % 2^t) (kI x t)
 rwa [km] at h
theorem Tr(ht:0<t)(km:y % 2^t % t=y % t):P2 .rotr t t x y:=by
 refine .inr ⟨_,_,rfl,rfl,?_⟩;have ux:=kI x t;have h:=Bh ht (u:=x % 2^t) (v:=t-y % t) ux;rw[km];have tn:(t:Int)≠0:=gA (Int.natCast_pos.mpr ht);have k0:0<=y % t:=bF _ tn;have k1:y % t<t:=bA _ (Int.natCast_pos.mpr ht);generalize y % (t:Int)=k at*;by_cases hk:k=0
 ·subst hk
  rw[gZ,Int.emod_self] at h;refine⟨h.1,h.2.trans ?_⟩;rw[gZ,cI,show(0:Int).toNat=0 from rfl,hG,Int.ediv_one,Int.mul_one,hO ux.1 ux.2,Int.add_comm (x % 2^t*2^t),Int.add_mul_emod_self_right,jI]
 ·rw[dS (bK (Int.sub_pos_of_lt k1)) (by lia),show((t:Int)-(t-k)).toNat=k.toNat by rw[Int.sub_sub_self]] at h
  exact h
end
theorem Ay{c:Int}{nm:Nm}{t p:Nat}{x y:Int}(ho:opOf c=some (nm,t,p))(hs:nm.single=false)(hx:InS x t)(hy:InS y t):P2 nm t p x y:=by
 have w:=jY ho;have a1:=(Ih ho).1;have ht:0<t:=by have:=w.1;exact t0 this
 have hp:0<p:=by have:=w.2.1;exact t0 this
 have km:=Vt w.1 y;have inj:x=y↔x % 2^t=y % 2^t:=⟨λh=>by rw[h],Rl ht hx hy⟩
 have sx:=rV ht hx;have sy:=rV ht hy
 induction nm with
 |div_s=>exact a1 (by decide)▸Mn ht hx hy
 |div_u=>exact a1 (by decide)▸Ln ht hy
 |rem_s=>exact a1 (by decide)▸Kn ht hx hy
 |rem_u=>exact a1 (by decide)▸Jn ht hy
 |eq=>exact .inr ⟨_,_,rfl,rfl,qK hp inj⟩ |ne=>exact .inr ⟨_,_,rfl,rfl,qK hp (not_congr inj)⟩ |lt_s=>exact .inr ⟨_,_,rfl,rfl,qK hp (by rw[sx,sy])⟩
 |lt_u=>exact .inr ⟨_,_,rfl,rfl,qK hp Iff.rfl⟩ |gt_s=>exact .inr ⟨_,_,rfl,rfl,qK hp (by rw[sx,sy])⟩
 |gt_u=>exact .inr ⟨_,_,rfl,rfl,qK hp Iff.rfl⟩ |le_s=>exact .inr ⟨_,_,rfl,rfl,zS hp (by rw[sx,sy];exact Iff.symm fT)⟩
 |le_u=>exact .inr ⟨_,_,rfl,rfl,zS hp (by exact Iff.symm fT)⟩
 |ge_s=>exact .inr ⟨_,_,rfl,rfl,zS hp (by rw[sx,sy];exact Iff.symm fT)⟩
 |ge_u=>exact .inr ⟨_,_,rfl,rfl,zS hp (by exact Iff.symm fT)⟩
 |add=>exact a1 (by decide)▸ .inr ⟨_,_,rfl,rfl,oN (wR _ _ _)⟩
 |sub=>exact a1 (by decide)▸ .inr ⟨_,_,rfl,rfl,oN (fY x y _).symm⟩
 |mul=>exact a1 (by decide)▸ .inr ⟨_,_,rfl,rfl,oN (jH x y _).symm⟩
 |and=>exact a1 (by decide)▸By
 |or=>exact a1 (by decide)▸p2_or
 |xor=>exact a1 (by decide)▸Yx
 |shl=>exact a1 (by decide)▸Zx km
 |shr_s=>exact a1 (by decide)▸Hn ht hx km
 |shr_u=>exact a1 (by decide)▸Gn km
 |rotl=>exact a1 (by decide)▸Ur ht km
 |rotr=>exact a1 (by decide)▸Tr ht km
 |_=>exact by contradiction
theorem Wb:Rng lr1 lr2 where
 a {c nm t p x} ho _ _:=sW (by have:=(jY ho).2.1;exact t0 this) _
 b {c nm t p x y v} ho _ _ _ h:=by
   refine mapS h λw z9z z10z=>?_;obtain rfl:=z10z
   exact sW (by have:=(jY ho).2.1;exact t0 this) _
theorem pr1{c:Int}{nm:Nm}{t p:Nat}{x:Int}(ho:opOf c=some (nm,t,p))(hs:nm.single=true)(hx:InS x t):sg (p1 nm (x % 2^t) t p) p=lr1 nm x t p:=
 (Cy ho hs hx).eq (by have:=(jY ho).2.1;exact t0 this)
theorem pr2{c:Int}{nm:Nm}{t p:Nat}{x y:Int}(ho:opOf c=some (nm,t,p))(hs:nm.single=false)(hx:InS x t)(hy:InS y t):(p2 nm (x % 2^t) (y % 2^t) t).map (sg · p)=lr2 nm x y t p:=by
 unfold lr2;rcases Ay ho hs hx hy with⟨h1,h2⟩|⟨w,v,h1,h2,h3⟩
 ·rw[h1,h2];rfl
 ·rw[h1,h2]
  exact congrArg some (h3.eq (by have:=(jY ho).2.1;exact t0 this))
set_option backward.match.sparseCases true
theorem Ea{cx:Cx}(T:Prog cx){f:Addr}(h:f∈allF):keepIn cx.K (.ref f)=true:=cR.mp T.keep f h
theorem ctk{cx:Cx}{n:Nat}{f:Addr}{ps rest:List Str}{ib:ISs}{us:List V}{σ:H}{Q:QV}{X:XH}(T:Prog cx)(F:FnX cx f ps rest ib)(m:Nat)(hn:m+2<=n)(hf:f∈allF)(hus:us.length=ps.length)
 (w:wpSs (CTK cx m) ib (rho0 us rest.length) σ (λfl J σ=>match fl with|.ret v=>Q v σ|.next=>Q .none σ|_=>False) (λJ σ=>X σ)):CTK cx n f us σ Q X:=
 ⟨Ea T hf,(F.ct T.toTopX hus w).more hn⟩
theorem Ib{T:Rho->H->(Bool->H->Prop)->Prop}{B:Rho->H->QS->Prop}{Q:QS}(I:Nat->Rho->H->Prop)
 (h:∀N ρ σ,I N ρ σ->∀(W:Rho->H->Prop),(∀M ρ' σ',M<N->I M ρ' σ'->W ρ' σ')->T ρ σ λb σ=>if b=true then B ρ σ (λf ρ σ=>match f with
   |.next=>W ρ σ
   |.cont=>W ρ σ
   |.brk=>Q .next ρ σ
   |.ret v=>Q (.ret v) ρ σ) else Q .next ρ σ):∀(n N:Nat) ρ σ,N<n->I N ρ σ->whlN T B Q n ρ σ
 |0,N,_,_,hN,_=>by lia
 |n+1,N,ρ,σ,hN,hI=>by
  exact h N ρ σ hI (whlN T B Q n) λM ρ' σ' hM hI'=>Ib I h n M ρ' σ' (by lia) hI'
theorem Uw{T:Rho->H->(Bool->H->Prop)->Prop}{B:Rho->H->QS->Prop}{Q:QS}{N:Nat}{ρ:Rho}{σ:H}(I:Nat->Rho->H->Prop)(h0:I N ρ σ)
 (h:∀N ρ σ,I N ρ σ->∀(W:Rho->H->Prop),(∀M ρ' σ',M<N->I M ρ' σ'->W ρ' σ')->T ρ σ λb σ=>if b=true then B ρ σ (λf ρ σ=>match f with
   |.next=>W ρ σ
   |.cont=>W ρ σ
   |.brk=>Q .next ρ σ
   |.ret v=>Q (.ret v) ρ σ) else Q .next ρ σ):∃n,whlN T B Q n ρ σ:=⟨N+1,Ib I h _ N ρ σ (cB _) h0⟩
theorem Yc{src:Src}{t:Ft}{B:Rho->H->QS->Prop}{Q:QS}{vs:List V}(I:Nat->Rho->H->Prop)
 (hs:∀i ρ σ,I i ρ σ->mC src i σ=some vs[i]?)
 (hend:∀ρ σ,I vs.length ρ σ->Q .next ρ σ)
 (h:∀i ρ σ v,I i ρ σ->vs[i]?=some v->∃ρ',pM t v ρ=some ρ'/\∀(W:Rho->H->Prop),(∀ρ' σ',I (i+1) ρ' σ'->W ρ' σ')->B ρ' σ (λf ρ σ=>match f with
   |.next=>W ρ σ
   |.cont=>W ρ σ
   |.brk=>Q .next ρ σ
   |.ret v=>Q (.ret v) ρ σ)):∀(n i:Nat) ρ σ,I i ρ σ->i<=vs.length->vs.length<n+i->forN src t B Q n i ρ σ
 |0,i,_,_,_,h1,h2=>by lia
 |n+1,i,ρ,σ,hI,h1,h2=>by
  show om (mC src i σ) _;rw[hs i ρ σ hI,jR]
  induction e:vs[i]? with
  |none=>
   have:i=vs.length:=by
    have:=cT.mp e;exact Nat.le_antisymm h1 this
   subst this;exact hend ρ σ hI
  |some v=>
   have hlt:=(aT.mp e).1;refine e12 (h i ρ σ v hI e) λρ' hb h'=>?_
   dsimp only;rw[hb,jR];exact h' _ λρ' σ' hI'=>Yc I hs hend h n (i+1) ρ' σ' hI' (by exact hlt) (by lia)
theorem Nc(vs:List V)(i:Nat)(σ:H):mC (.fix vs) i σ=some vs[i]?:=rfl
theorem mO{a:Addr}{l:List V}{σ:H}(h:σ a=some (.list l))(hz:l.length<=lim)(i:Nat):mC (.lst a) i σ=some l[i]?:=by
 show(jX (σ a)).bind _=_;rw[h];show(if l.length<=lim then some l[i]? else none)=_
 rw[if_pos hz]
theorem mK{a:Addr}{l:List V}{σ:H}(h:σ a=some (.list l)):lZ (.lst a) σ=l.length:=by show((jX (σ a)).getD []).length=_;rw[h];rfl
theorem pC{src:Src}{B:CB}{K:List V->H->Prop}{vs:List V}(I:Nat->List V->H->Prop)
 (hs:∀i acc σ,I i acc σ->mC src i σ=some vs[i]?)
 (hend:∀acc σ,I vs.length acc σ->K acc σ)
 (h:∀i acc σ v,I i acc σ->vs[i]?=some v->∀(W:List V->H->Prop),(∀acc' σ',I (i+1) acc' σ'->W acc' σ')->B v σ acc W):∀(n i:Nat) acc σ,I i acc σ->i<=vs.length->vs.length<n+i->cmpN src B K n i acc σ
 |0,i,_,_,_,h1,h2=>by lia
 |n+1,i,acc,σ,hI,h1,h2=>by
  show om (mC src i σ) _;rw[hs i acc σ hI,jR]
  induction e:vs[i]? with
  |none=>
   have:i=vs.length:=by
    have:=cT.mp e;exact Nat.le_antisymm h1 this
   subst this;exact hend acc σ hI
  |some v=>
   have hlt:=(aT.mp e).1;exact h i acc σ v hI e _ λacc' σ' hI'=>pC I hs hend h n (i+1) acc' σ' hI' (by exact hlt) (by lia)
theorem oZ(x:Int)(k:Nat):x.fmod (2^k)=x % 2^k:=Int.fmod_eq_emod_of_nonneg _ (bK (cF k))
theorem lY(x:Int)(k:Nat):x.fdiv (2^k)=x/2^k:=Int.fdiv_eq_ediv_of_nonneg _ (bK (cF k))
theorem kL(x:Int){k:Int}(h:0<=k):x.fmod k=x % k:=Int.fmod_eq_emod_of_nonneg _ h
theorem qS(x:Int){k:Int}(h:0<=k):x.fdiv k=x/k:=Int.fdiv_eq_ediv_of_nonneg _ h
theorem bw_add{σ:H}{Q:QV}(x y:Int):binW .Add (.int x) (.int y) σ Q=(Q (.int (x+y)) σ):=rfl
theorem bw_sub{σ:H}{Q:QV}(x y:Int):binW .Sub (.int x) (.int y) σ Q=(Q (.int (x-y)) σ):=rfl
theorem bw_mul{σ:H}{Q:QV}(x y:Int):binW .Mult (.int x) (.int y) σ Q=((In64 x∨In64 y)/\Q (.int (x*y)) σ):=rfl
theorem bw_fd{σ:H}{Q:QV}(x y:Int):binW .FloorDiv (.int x) (.int y) σ Q=(y≠0/\kR y/\Q (.int (x.fdiv y)) σ):=rfl
theorem bw_mod{σ:H}{Q:QV}(x y:Int):binW .Mod (.int x) (.int y) σ Q=(y≠0/\Q (.int (x.fmod y)) σ):=rfl
theorem bw_pow{σ:H}{Q:QV}(x y:Int):binW .Pow (.int x) (.int y) σ Q=(x=2/\0<=y/\y<=1000/\Q (.int (2^y.toNat)) σ):=rfl
theorem bw_shl{σ:H}{Q:QV}(x y:Int):binW .LShift (.int x) (.int y) σ Q=(In64 x/\0<=y/\y<=1000/\Q (.int (x*2^y.toNat)) σ):=rfl
theorem bw_shr{σ:H}{Q:QV}(x y:Int):binW .RShift (.int x) (.int y) σ Q=(0<=y/\Q (.int (x.fdiv (2^y.toNat))) σ):=rfl
theorem bw_and{σ:H}{Q:QV}(x y:Int):binW .BitAnd (.int x) (.int y) σ Q=(Q (.int (bL x y)) σ):=rfl
theorem bw_or{σ:H}{Q:QV}(x y:Int):binW .BitOr (.int x) (.int y) σ Q=(Q (.int (fK x y)) σ):=rfl
theorem bw_xor{σ:H}{Q:QV}(x y:Int):binW .BitXor (.int x) (.int y) σ Q=(Q (.int (hV x y)) σ):=rfl
theorem Cu{σ:H}{Q:QV}(x y:List V):binW .Add (.tup x) (.tup y) σ Q=((x.length+y.length<=lim)/\Q (.tup (x++y)) σ):=rfl
theorem Du{σ:H}{Q:QV}(a b:Addr):binW .Add (.obj a) (.obj b) σ Q=om (jX (σ a)) λxs=>om (jX (σ b)) λys=>newL σ (xs++ys) Q:=rfl
theorem Ni{σ:H}{Q:QV}(a:Addr)(n:Int):binW .Mult (.obj a) (.int n) σ Q=om (jX (σ a)) λxs=>0<=n/\n<=lim/\newL σ (rept n.toNat xs) Q:=rfl
theorem cw_eq{σ:H}{K:Bool->Prop}(a b:V):cmpW .Eq a b σ K=eqW a b σ K:=rfl
theorem cw_ne{σ:H}{K:Bool->Prop}(a b:V):cmpW .NotEq a b σ K=eqW a b σ λr=>K !r:=rfl
theorem cw_lt{σ:H}{K:Bool->Prop}(x y:Int):cmpW .Lt (.int x) (.int y) σ K=K (decide (x<y)):=rfl
theorem cw_le{σ:H}{K:Bool->Prop}(x y:Int):cmpW .LtE (.int x) (.int y) σ K=K (decide (x<=y)):=rfl
theorem cw_gt{σ:H}{K:Bool->Prop}(x y:Int):cmpW .Gt (.int x) (.int y) σ K=K (decide (y<x)):=rfl
theorem cw_ge{σ:H}{K:Bool->Prop}(x y:Int):cmpW .GtE (.int x) (.int y) σ K=K (decide (y<=x)):=rfl
theorem cw_is{σ:H}{K:Bool->Prop}(a:V):cmpW .Is a .none σ K=om (isNone a) K:=rfl
theorem Vz{σ:H}{K:Bool->Prop}(a:V):cmpW .IsNot a .none σ K=om (isNone a) λr=>K !r:=rfl
theorem cw_in{σ:H}{K:Bool->Prop}(a b:V):cmpW .In a b σ K=inW a b σ K:=rfl
theorem Uz{σ:H}{K:Bool->Prop}(a b:V):cmpW .NotIn a b σ K=inW a b σ λr=>K !r:=rfl
theorem Zo{σ:H}{K:Bool->Prop}(x y:Int):eqW (.int x) (.int y) σ K=K (x==y):=rfl
theorem Ut{σ:H}{K:Bool->Prop}(x y:Bool):eqW (.bool x) (.bool y) σ K=K (x==y):=rfl
theorem Rz{σ:H}{K:Bool->Prop}(x y:Str):eqW (.str x) (.str y) σ K=K (x==y):=rfl
theorem ew_nn{σ:H}{K:Bool->Prop}:eqW .none .none σ K=K true:=rfl
theorem ew_in{σ:H}{K:Bool->Prop}(x:Int):eqW (.int x) .none σ K=K false:=rfl
theorem ew_ni{σ:H}{K:Bool->Prop}(x:Int):eqW .none (.int x) σ K=K false:=rfl
theorem Qa{σ:H}{K:Bool->Prop}(a b:Addr):eqW (.obj a) (.obj b) σ K=om (mX (σ a)) λxs=>om (mX (σ b)) λys=>om (pL xs ys) K:=rfl
theorem Jt:isNone .none=some true:=rfl
theorem Fz(x:Int):isNone (.int x)=some false:=rfl
theorem Kt(x:Bool):isNone (.bool x)=some false:=rfl
theorem Dz(x:Str):isNone (.str x)=some false:=rfl
theorem Cz(x:List V):isNone (.tup x)=some false:=rfl
theorem Ez(x:Addr):isNone (.obj x)=some false:=rfl
theorem Zy{σ:H}{K:Bool->Prop}(a:V)(l:List V):inW a (.tup l) σ K=om (mY a l) K:=rfl
theorem Az{σ:H}{K:Bool->Prop}(x:Str)(d:Addr):inW (.str x) (.obj d) σ K=om (asSd (σ d)) λes=>K (es.lookup x).isSome:=rfl
theorem Vs{σ:H}{K:Bool->Prop}(d:Addr):inW .none (.obj d) σ K=om (jX (σ d)) λl=>om (mY .none l) K:=rfl
theorem Uv(x y:Int):beqV (.int x) (.int y)=some (x==y):=rfl
theorem Tv(x y:Str):beqV (.str x) (.str y)=some (x==y):=rfl
theorem bq_nn:beqV .none .none=some true:=rfl
theorem bq_ni(x:Int):beqV .none (.int x)=some false:=rfl
theorem bq_in(x:Int):beqV (.int x) .none=some false:=rfl
theorem aw_add{K:V->Prop}(x y:Int):augW .Add (.int x) (.int y) K=K (.int (x+y)):=rfl
theorem aw_and{K:V->Prop}(x y:Int):augW .BitAnd (.int x) (.int y) K=K (.int (bL x y)):=rfl
theorem aw_shr{K:V->Prop}(x y:Int):augW .RShift (.int x) (.int y) K=(0<=y/\K (.int (x.fdiv (2^y.toNat)))):=rfl
theorem Oh{σ:H}{Q:QV}(a:Addr):biW .len [.obj a] σ Q=om (mX (σ a)) λl=>l.length<=lim/\Q (.int l.length) σ:=rfl
theorem Js{σ:H}{Q:QV}(l:List V):biW .len [.tup l] σ Q=(l.length<=lim/\Q (.int l.length) σ):=rfl
theorem Uy{σ:H}{Q:QV}(x:Int):biW .abs [.int x] σ Q=Q (.int (if x<0 then-x else x)) σ:=rfl
theorem Qy{σ:H}{Q:QV}(x y:Int):biW .max [.int x,.int y] σ Q=Q (.int (max x y)) σ:=rfl
theorem Py{σ:H}{Q:QV}(x y:Int):biW .min [.int x,.int y] σ Q=Q (.int (min x y)) σ:=rfl
theorem Oy{σ:H}{Q:QV}(a:Addr):biW .sum [.obj a] σ Q=om (jX (σ a)) λl=>om (ints? l) λns=>l.length<=lim/\Q (.int ns.sum) σ:=rfl
theorem Sy{σ:H}{Q:QV}(a:Addr):biW .any [.obj a] σ Q=om (jX (σ a)) λl=>l.length<=lim/\(∀v∈l,v=.bool false)/\Q (.bool false) σ:=rfl
theorem Ry{σ:H}{Q:QV}(x:Int):biW .isbool [.int x,.raw (.type "bool")] σ Q=Q (.bool false) σ:=propext ⟨λh=>h.2,λh=>⟨rfl,h⟩⟩
theorem Nh{σ:H}{Q:QV}(a:Addr):biW .list [.obj a] σ Q=om (jX (σ a)) λl=>newL σ l Q:=rfl
theorem Te{σ:H}{Q:QV}(l:List V)(k:Int):subW (.tup l) (.int k) σ Q=(l.length<=lim/\om (idx l k) λv=>Q v σ):=rfl
theorem zJ{σ:H}{Q:QV}(a:Addr)(x:Str):subW (.obj a) (.str x) σ Q=om (asSd (σ a)) λes=>om (es.lookup x) λv=>Q v σ:=rfl
theorem Xv{σ:H}{Q:QV}(l:List V)(k:Int):sliW (.tup l) (.int k) .none σ Q=((l.length<=lim/\1<=k/\k<=l.length)/\Q (.tup (l.drop k.toNat)) σ):=rfl
theorem Yv{σ:H}{Q:QV}(a:Addr)(lo hi:V):sliW (.obj a) lo hi σ Q=om (jX (σ a)) λl=>l.length<=lim/\om (cut l lo hi) λr=>newL σ r Q:=rfl
theorem Xw{σ:H}{Q:QV}(a:Addr)(x:At):sP (.obj a) x σ Q=om (pN (σ a)) λp=>p.1=jV/\om (asSd (σ p.2)) λes=>om (es.lookup x.str) λv=>oD v=true/\Q v σ:=rfl
theorem Dy{σ:H}{Q:QV}{C:mJ}{X:XH}(a f:Addr):ownW C (.obj a) f σ Q X=om (pN (σ a)) λp=>p.1=jV/\om (asSd (σ p.2)) λes=>es.map (·.1)=Za/\C f [.obj a] σ Q X:=rfl
theorem Sx{σ:H}(a:Addr):preM (.obj a) .append σ=om (jX (σ a)) λJ=>True:=rfl
theorem Qx{σ:H}(a:Addr):preM (.obj a) .pop σ=om (jX (σ a)) λJ=>True:=rfl
theorem Rx{σ:H}(a:Addr):preM (.obj a) .extend σ=om (jX (σ a)) λJ=>True:=rfl
theorem Qr{σ:H}(o:V)(f:Addr):preM o (.call f) σ=ownW (λJ J J J J=>True) o f σ (λJ J=>True) λJ=>True:=rfl
theorem Ly{σ:H}{Q:QV}{C:mJ}{X:XH}(a:Addr)(v:V):vS C (.obj a) .append [v] σ Q X=om (jX (σ a)) λl=>l.length+1<=lim/\Q .none (upd σ a (.list (l++ [v]))):=rfl
theorem Ky{σ:H}{Q:QV}{C:mJ}{X:XH}(a:Addr):vS C (.obj a) .pop [] σ Q X=om (jX (σ a)) λl=>l.length<=lim/\om l.getLast? λv=>Q v (upd σ a (.list l.dropLast)):=rfl
theorem Sn{σ:H}{Q:QV}{C:mJ}{X:XH}(a b:Addr):vS C (.obj a) .extend [.obj b] σ Q X=(a≠b/\om (jX (σ a)) λl=>om (jX (σ b)) λr=>l.length+r.length<=lim/\Q .none (upd σ a (.list (l++r)))):=rfl
theorem Ds{σ:H}{Q:QV}{C:mJ}{X:XH}(o:V)(f:Addr):vS C o (.call f) [] σ Q X=(([]:List V)= []/\ownW C o f σ Q X):=rfl
theorem Mx{σ:H}{Q:QV}(x:Str):Xe (.str x) σ Q=om (wO x) λws=>newL σ (ws.map V.str) Q:=rfl
theorem Rm{σ:H}{K:Src->Prop}(l:List V):srcW (.tup l) σ K=(l.length<=lim/\K (.fix l)):=rfl
theorem Sm{σ:H}{K:Src->Prop}(a:Addr):srcW (.obj a) σ K=om (jX (σ a)) λJ=>K (.lst a):=rfl
theorem Ww{σ:H}{K:H->Prop}(a:Addr)(k:Int)(v:V):pX (.obj a) (.int k) v σ K=om (jX (σ a)) λl=>(l.length<=lim/\0<=k/\k<l.length)/\K (upd σ a (.list (l.set k.toNat v))):=rfl
theorem Vw{σ:H}{K:H->Prop}(a:Addr)(x:Str)(v:V):pX (.obj a) (.str x) v σ K=om (asSd (σ a)) λes=>(es.length<=1000/\(es.lookup x).isSome=true)/\K (upd σ a (.sd (es.map λe=>if e.1=x then(e.1,v) else e))):=rfl
theorem Ol{σ:H}{K:H->Prop}(a b:Addr)(lo hi:V):mM (.obj a) lo hi (.obj b) σ K=(a≠b/\om (jX (σ a)) λl=>om (jX (σ b)) λm=>(l.length<=lim/\m.length<=lim)/\om (rZ l lo hi m) λr=>r.length<=lim/\K (upd σ a (.list r))):=rfl
theorem xw_obj{σ:H}{K:H->Prop}(a:Addr)(x:At)(v:V):oC (.obj a) x v σ K=om (pN (σ a)) λp=>p.1=jV/\om (asSd (σ p.2)) λes=>es.length<=100/\K (upd σ p.2 (.sd (nN es x.str v))):=rfl
theorem Iy(x:Int):oD (.int x)=true:=rfl
theorem Gy(x:List V):oD (.tup x)=true:=rfl
theorem Hy(x:Addr):oD (.obj x)=true:=rfl
theorem Yr:oD .none=true:=rfl
theorem bf_one(i:Nat)(v:V)(ρ:Rho):pM (.one i) v ρ=some (set ρ i v):=rfl
theorem Hu(is:List Nat)(vs:List V)(ρ:Rho):pM (.many is) (.tup vs) ρ=pY is vs ρ:=rfl
theorem ix0{α:Type}(a:α)(l:List α):idx (a::l) 0=some a:=by
 unfold idx seqIndex?;simp
theorem ix1{α:Type}(a b:α)(l:List α):idx (a::b::l) 1=some b:=by
 unfold idx seqIndex?;have:(1:Int)<(l.length:Int)+1+1:=by exact Int.compare_eq_gt.mp rfl
 simp[this]
theorem ix2{α:Type}(a b c:α)(l:List α):idx (a::b::c::l) 2=some c:=by
 unfold idx seqIndex?;have:(2:Int)<(l.length:Int)+1+1+1:=by exact Int.compare_eq_gt.mp rfl
 simp[this]
section
variable{C:mJ}{ρ:Rho}{σ:H}{Q:QS}{X:XS}
noncomputable def blk(C:mJ)(b:ISs)(ρ:Rho)(σ:H)(Q:QS)(X:XS):Prop:=wpSs C b ρ σ Q X
noncomputable def nx(C:mJ)(r:ISs)(Q:QS)(X:XS):QS:=λf ρ σ=>match f with|.next=>blk C r ρ σ Q X|f=>Q f ρ σ
theorem zY{r:ISs}:nx C r Q X .next ρ σ=blk C r ρ σ Q X:=rfl
theorem nx_ret{r:ISs}{v:V}:nx C r Q X (.ret v) ρ σ=Q (.ret v) ρ σ:=rfl
theorem nx_brk{r:ISs}:nx C r Q X .brk ρ σ=Q .brk ρ σ:=rfl
theorem nx_cont{r:ISs}:nx C r Q X .cont ρ σ=Q .cont ρ σ:=rfl
theorem bk_nil:blk C .nil ρ σ Q X=Q .next ρ σ:=rfl
theorem Xa{s:IS}{r:ISs}:blk C (.cons s r) ρ σ Q X=wpS C s ρ σ (nx C r Q X) X:=rfl
theorem bk1{s:IS}{r:List IS}(h:wpS C s ρ σ (nx C (iss r) Q X) X):blk C (iss (s::r)) ρ σ Q X:=h
theorem bk0(h:Q .next ρ σ):blk C (iss []) ρ σ Q X:=h
theorem bk2{s:IS}{r:ISs}(h:wpS C s ρ σ (nx C r Q X) X):blk C (.cons s r) ρ σ Q X:=h
theorem bk3(h:Q .next ρ σ):blk C .nil ρ σ Q X:=h
theorem nx1{r:ISs}(h:blk C r ρ σ Q X):nx C r Q X .next ρ σ:=h
theorem nx2{r:ISs}{v:V}(h:Q (.ret v) ρ σ):nx C r Q X (.ret v) ρ σ:=h
theorem nx3{r:ISs}(h:Q .brk ρ σ):nx C r Q X .brk ρ σ:=h
theorem nx4{r:ISs}(h:Q .cont ρ σ):nx C r Q X .cont ρ σ:=h
theorem Wi{i:Nat}{e:IE}:wpS C (.assign i e) ρ σ Q X=wpE C e ρ σ (λv σ=>Q .next (set ρ i v) σ) (X ρ):=rfl
theorem Qw{e:IE}:wpS C (.ret e) ρ σ Q X=wpE C e ρ σ (λv σ=>Q (.ret v) ρ σ) (X ρ):=rfl
theorem Br{e:IE}:wpS C (.expr e) ρ σ Q X=wpE C e ρ σ (λJ σ=>Q .next ρ σ) (X ρ):=rfl
theorem Le{t:IE}{a b:ISs}:wpS C (.iff t a b) ρ σ Q X=wpE C t ρ σ (λv σ=>isB v λc=>if c=true then blk C a ρ σ Q X else blk C b ρ σ Q X) (X ρ):=rfl
theorem ws_T{ts:List Tg}{es:IEs}:wpS C (.assignT ts (.tup es)) ρ σ Q X=wpEs C es ρ σ (λvs σ=>vs.length<=lim/\vs.length=ts.length/\mW C ts vs ρ σ (λρ σ=>Q .next ρ σ) X) (X ρ):=rfl
theorem Oe{ts:List Tg}{e:IE}:wpS C (.assignT ts e) ρ σ Q X=wpE C e ρ σ (λv σ=>isT v λvs=>vs.length=ts.length/\mW C ts vs ρ σ (λρ σ=>Q .next ρ σ) X) (X ρ):=rfl
theorem Ui{o i e:IE}:wpS C (.setSub o i e) ρ σ Q X=wpE C e ρ σ (λv σ=>wpE C o ρ σ (λa σ=>wpE C i ρ σ (λb σ=>pX a b v σ λσ=>Q .next ρ σ) (X ρ)) (X ρ)) (X ρ):=rfl
theorem Vi{o lo hi e:IE}:wpS C (.setSli o lo hi e) ρ σ Q X=wpE C e ρ σ (λv σ=>wpE C o ρ σ (λa σ=>wpE C lo ρ σ (λl σ=>wpE C hi ρ σ (λh σ=>mM a l h v σ λσ=>Q .next ρ σ) (X ρ)) (X ρ)) (X ρ)) (X ρ):=rfl
theorem Ke{o:IE}{x:At}{e:IE}:wpS C (.setAttr o x e) ρ σ Q X=wpE C e ρ σ (λv σ=>wpE C o ρ σ (λa σ=>oC a x v σ λσ=>Q .next ρ σ) (X ρ)) (X ρ):=rfl
theorem Sw{i:Nat}{op:Operator}{e:IE}:wpS C (.aug i op e) ρ σ Q X=om (get ρ i) λa=>wpE C e ρ σ (λb σ=>augW op a b λv=>Q .next (set ρ i v) σ) (X ρ):=rfl
theorem Ow{t:IE}{b:ISs}:wpS C (.whl t b) ρ σ Q X=∃n,whlN (λρ σ k=>wpE C t ρ σ (λv σ=>isB v λc=>k c σ) λJ=>False) (λρ σ q=>blk C b ρ σ q λJ J=>False) Q n ρ σ:=rfl
theorem Rw{t:Ft}{it:It}{b:ISs}:wpS C (.for_ t it b) ρ σ Q X=wpI C it ρ σ (λsrc σ=>forN src t (λρ σ q=>blk C b ρ σ q λJ J=>False) Q (lZ src σ+1) 0 ρ σ) (X ρ):=rfl
theorem Nl{c:Addr}{e:IE}:wpS C (.raise c e) ρ σ Q X=(c=jZ/\wpE C e ρ σ (λv σ=>match v with|.str _=>X ρ σ|_=>False) (X ρ)):=rfl
theorem Pw{b:ISs}:wpS C (.try_ b) ρ σ Q X=blk C b ρ σ Q (λρ σ=>Q (.ret .none) ρ σ):=rfl
theorem Ar:wpS C .pass ρ σ Q X=Q .next ρ σ:=rfl
end
section
variable{C:mJ}{ρ:Rho}{σ:H}{X:XH}
theorem Bw(v){Q:QV}:wpE C (.val v) ρ σ Q X=(Q v σ):=rfl
theorem Jw(i){Q:QV}:wpE C (.loc i) ρ σ Q X=(om (get ρ i) λv=>Q v σ):=rfl
theorem Mw(op l r){Q:QV}:wpE C (.bin op l r) ρ σ Q X=(wpE C l ρ σ (λa σ=>wpE C r ρ σ (λb σ=>binW op a b σ Q) X) X):=rfl
theorem Hw(x){Q:QV}:wpE C (.neg x) ρ σ Q X=(wpE C x ρ σ (λa σ=>isI a λi=>Q (.int (-i)) σ) X):=rfl
theorem Kl(x){Q:QV}:wpE C (.truth x) ρ σ Q X=(wpE C x ρ σ (λa σ=>isI a λi=>Q (.bool (decide (i≠0))) σ) X):=rfl
theorem Gw(x){Q:QV}:wpE C (.not x) ρ σ Q X=(wpE C x ρ σ (λa σ=>isB a λb=>Q (.bool !b) σ) X):=rfl
theorem Nw(l r){Q:QV}:wpE C (.and l r) ρ σ Q X=(wpE C l ρ σ (λa σ=>isB a λb=>if b=true then wpE C r ρ σ Q X else Q (.bool false) σ) X):=rfl
theorem xe_or(l r){Q:QV}:wpE C (.or l r) ρ σ Q X=(wpE C l ρ σ (λa σ=>isB a λb=>if b=true then Q (.bool true) σ else wpE C r ρ σ Q X) X):=rfl
theorem Lw(l op r){Q:QV}:wpE C (.cmp l op r) ρ σ Q X=(wpE C l ρ σ (λa σ=>wpE C r ρ σ (λb σ=>cmpW op a b σ λc=>Q (.bool c) σ) X) X):=rfl
theorem Wq(l op m op' r){Q:QV}:wpE C (.cmp2 l op m op' r) ρ σ Q X=(wpE C l ρ σ (λa σ=>wpE C m ρ σ (λb σ=>cmpW op a b σ λc=>if c=true then wpE C r ρ σ (λd σ=>cmpW op' b d σ λc=>Q (.bool c) σ) X else Q (.bool false) σ) X) X):=rfl
theorem Kw(t a b){Q:QV}:wpE C (.ite t a b) ρ σ Q X=(wpE C t ρ σ (λv σ=>isB v λc=>if c=true then wpE C a ρ σ Q X else wpE C b ρ σ Q X) X):=rfl
theorem Cw(es){Q:QV}:wpE C (.tup es) ρ σ Q X=(wpEs C es ρ σ (λvs σ=>vs.length<=lim/\Q (.tup vs) σ) X):=rfl
theorem Iw(es){Q:QV}:wpE C (.lst es) ρ σ Q X=(wpEs C es ρ σ (λvs σ=>newL σ vs Q) X):=rfl
theorem Qq(ks es){Q:QV}:wpE C (.sdct ks es) ρ σ Q X=(wpEs C es ρ σ (λvs σ=>(vs.length=ks.length/\vs.length<=15/\ks.Nodup)/\newW σ (.sd (ks.zip vs)) Q) X):=rfl
theorem Tq(ks es){Q:QV}:wpE C (.ndct ks es) ρ σ Q X=(wpEs C es ρ σ (λvs σ=>(vs.length=ks.length/\vs.length<=15/\ks.Nodup)/\newW σ (.nd (ks.zip vs)) Q) X):=rfl
theorem Dw(e i){Q:QV}:wpE C (.sub e i) ρ σ Q X=(wpE C e ρ σ (λa σ=>wpE C i ρ σ (λb σ=>subW a b σ Q) X) X):=rfl
theorem Ew(e lo hi){Q:QV}:wpE C (.sli e lo hi) ρ σ Q X=(wpE C e ρ σ (λa σ=>wpE C lo ρ σ (λl σ=>wpE C hi ρ σ (λh σ=>sliW a l h σ Q) X) X) X):=rfl
theorem Yq(e x){Q:QV}:wpE C (.attr e x) ρ σ Q X=(wpE C e ρ σ (λa σ=>sP a x σ Q) X):=rfl
theorem Rq(e f){Q:QV}:wpE C (.prop e f) ρ σ Q X=(wpE C e ρ σ (λa σ=>f=363/\ownW C a f σ (λv σ=>oD v=true/\Q v σ) λJ=>False) X):=rfl
theorem Xq(f args){Q:QV}:wpE C (.call f args) ρ σ Q X=(wpE C f ρ σ (λg σ=>wpEs C args ρ σ (λvs σ=>match g with|.raw (.ref a)=>C a vs σ Q X|_=>False) X) X):=rfl
theorem xe_bi(b args){Q:QV}:wpE C (.bi b args) ρ σ Q X=(wpEs C args ρ σ (λvs σ=>biW b vs σ Q) X):=rfl
theorem Uq(o m args){Q:QV}:wpE C (.meth o m args) ρ σ Q X=(wpE C o ρ σ (λov σ=>preM ov m σ/\wpEs C args ρ σ (λvs σ=>vS C ov m vs σ Q X) X) X):=rfl
theorem Ll(o){Q:QV}:wpE C (.split o) ρ σ Q X=(wpE C o ρ σ (λv σ=>Xe v σ Q) X):=rfl
theorem Vq(elt i it cond){Q:QV}:wpE C (.comp elt i it cond) ρ σ Q X=(get ρ i=none/\wpI C it ρ σ (λsrc σ=>mU src (λv σ acc k=>wpE C cond (set ρ i v) σ (λc σ=>isB c λb=>if b=true then wpE C elt (set ρ i v) σ (λr σ=>acc.length+1<=lim/\k (acc++ [r]) σ) (λJ=>False) else k acc σ) λJ=>False) (λacc σ=>newL σ acc Q) [] σ) X):=rfl
theorem Ml(elt i it j it2){Q:QV}:wpE C (.comp2 elt i it j it2) ρ σ Q X=((get ρ i=none/\get ρ j=none/\i≠j)/\wpI C it ρ σ (λsrc σ=>mU src (λv σ acc k=>wpI C it2 (set ρ i v) σ (λsrc2 σ=>mU src2 (λu σ acc k2=>wpE C elt (set (set ρ i v) j u) σ (λr σ=>acc.length+1<=lim/\k2 (acc++ [r]) σ) λJ=>False) k acc σ) λJ=>False) (λacc σ=>newL σ acc Q) [] σ) X):=rfl
theorem Zv{Q:List V->H->Prop}:wpEs C (.nil) ρ σ Q X=(Q [] σ):=rfl
theorem Pq(e es){Q:List V->H->Prop}:wpEs C (.cons e es) ρ σ Q X=(wpE C e ρ σ (λv σ=>wpEs C es ρ σ (λvs σ=>Q (v::vs) σ) X) X):=rfl
theorem Aw(e){Q:Src->H->Prop}:wpI C (.rng e) ρ σ Q X=(wpE C e ρ σ (λv σ=>isI v λn=>(0<=n/\n<=1000)/\Q (.fix (kU n)) σ) X):=rfl
theorem xi_of(e){Q:Src->H->Prop}:wpI C (.of e) ρ σ Q X=(wpE C e ρ σ (λv σ=>srcW v σ λs=>Q s σ) X):=rfl
end
theorem om_s{α:Type}{a:α}{k:α->Prop}(h:k a):om (some a) k:=h
theorem om_e{α:Type}{o:Option α}{a:α}{k:α->Prop}(e:o=some a)(h:k a):om o k:=by rw[e];exact h
theorem om_l{o:Option O}{l:List V}{k:List V->Prop}(e:o=some (.list l))(h:k l):om (jX o) k:=by rw[e];exact h
theorem lU{o:Option O}{l:List V}{k:List V->Prop}(e:o=some (.list l))(h:k l):om (mX o) k:=by rw[e];exact h
theorem Ev{o:Option O}{l:List V}{k:List V->Prop}(e:o=some (.ro l))(h:k l):om (mX o) k:=by rw[e];exact h
theorem yJ{o:Option O}{l:List (Str×V)}{k:List (Str×V)->Prop}(e:o=some (.sd l))(h:k l):om (asSd o) k:=by rw[e];exact h
theorem om_in{o:Option O}{C d:Addr}{k:Addr×Addr->Prop}(e:o=some (.inst C d))(h:k (C,d)):om (pN o) k:=by rw[e];exact h
theorem Hv{A B:Prop}(h:B):om (isNone .none) λr=>if(!r)=true then A else B:=h
theorem Bo{A B:Prop}{a:Addr}(h:A):om (isNone (.obj a)) λr=>if(!r)=true then A else B:=h
theorem iT{A B:Prop}{d:Decidable (true=true)}(h:A): @ite _ (true=true) d A B:=(if_pos rfl).mpr h
theorem iF{A B:Prop}{d:Decidable (false=true)}(h:B): @ite _ (false=true) d A B:=(if_neg gP).mpr h
theorem ifT{A B:Prop}:(if true=true then A else B)=A:=rfl
theorem ifNF{A B:Prop}:(if(!false)=true then A else B)=A:=rfl
theorem ifNT{A B:Prop}:(if(!true)=true then A else B)=B:=rfl
theorem ifF{A B:Prop}:(if false=true then A else B)=B:=rfl
theorem br{p A B:Prop}[Decidable p](a:p->A)(b:¬p->B):if decide p=true then A else B:=by
 by_cases h:p
 ·rw[decide_eq_true h];exact a h
 ·rw[decide_eq_false h];exact b h
theorem e_int{σ:H}{K:Bool->Prop}(x y:Int):eqW (.int x) (.int y) σ K=K (decide (x=y)):=rfl
theorem e_str{σ:H}{K:Bool->Prop}(x y:Str):eqW (.str x) (.str y) σ K=K (decide (x=y)):=rfl
theorem brn{p A B:Prop}[Decidable p](a:p->B)(b:¬p->A):if(!decide p)=true then A else B:=by
 by_cases h:p
 ·rw[decide_eq_true h];exact a h
 ·rw[decide_eq_false h];exact b h
theorem Ed{x y:Int}{σ:H}{A B:Prop}(a:x=y->A)(b:¬x=y->B):eqW (.int x) (.int y) σ λc=>if c=true then A else B:=br a b
theorem kE{k:Nat}(h:k<=1000):k<=lim:=aC h (by decide)
theorem ll{k:Nat}(h:fN k 1000=true):k<=lim:=kE (nB h)
noncomputable def rq(Q:QV):QS:=λfl J σ=>match fl with|.ret v=>Q v σ|.next=>Q .none σ|_=>False
theorem rq_ret{Q:QV}{v:V}{ρ:Rho}{σ:H}:rq Q (.ret v) ρ σ=Q v σ:=rfl
theorem rq1{Q:QV}{v:V}{ρ:Rho}{σ:H}(h:Q v σ):rq Q (.ret v) ρ σ:=h
theorem rq2{Q:QV}{ρ:Rho}{σ:H}(h:Q .none σ):rq Q .next ρ σ:=h
theorem rq_next{Q:QV}{ρ:Rho}{σ:H}:rq Q .next ρ σ=Q .none σ:=rfl
noncomputable def Jh:List Str->List (Option V)
 | []=> [] |_::r=>none::Jh r
theorem Lc:∀r:List Str,Jh r=bZ r.length none
 | []=>rfl |_::r=>congrArg (none:: ·) (Lc r)
theorem fv{k j n:Nat}(h:k<=n)(e:fN j k=true):j<=n:=aC (cD e) h
theorem fu{k j n:Nat}(h:k<=n)(e:fN (j+2) k=true):j<=n-2:=cC (aC (cD e) h)
theorem ctl{cx:Cx}{n k:Nat}{f:Addr}{ps rest:List Str}{ib:ISs}{us:List V}{σ:H}{Q:QV}{X:XH}(T:Prog cx)(F:FnX cx f ps rest ib)(hn:k<=n)(hk:fN 2 k=true)(hf:(allF.contains f)=true)(hus:us.length=ps.length)
 (w:blk (CTK cx (n-2)) ib (us.map some++Jh rest) σ (rq Q) (λJ σ=>X σ)):CTK cx n f us σ Q X:=by
 rw[Lc] at w;exact ctk T F (n-2) (cZ (eG (fv hn hk))) (hY.mp hf) hus w
theorem vY{C:mJ}{ρ:Rho}{σ:H}{Q:QS}{X:XS}{t:IE}{a c:ISs}(p:Prop)[Decidable p](h:∀Z:QV,Z (.bool (decide p)) σ->wpE C t ρ σ Z (X ρ))(h1:p->blk C a ρ σ Q X)(h2:¬p->blk C c ρ σ Q X):wpS C (.iff t a c) ρ σ Q X:=by
 rw[Le];exact h _ (br h1 h2)
theorem Vv{C:mJ}{ρ:Rho}{σ:H}{Q:QS}{X:XS}{i:Nat}{e:IE}(v:V)(h:∀Z:QV,Z v σ->wpE C e ρ σ Z (X ρ))(k:Q .next (set ρ i v) σ):wpS C (.assign i e) ρ σ Q X:=h _ k
theorem oL{p q A B:Prop}[Decidable p][Decidable q](a:p->q->A)(b:¬(p/\q)->B):if decide p=true then(if decide q=true then A else B) else B:=br (λh=>br (a h) λh2=>b λz=>h2 z.2) λh=>b λz=>h z.1
theorem zi_t{p:Prop}[Decidable p]{x y:Int}{Z:QV}{σ:H}(z:Z (.int (if p then x else y)) σ)(h:p):Z (.int x) σ:=by rw[if_pos h] at z;exact z
theorem zi_f{p:Prop}[Decidable p]{x y:Int}{Z:QV}{σ:H}(z:Z (.int (if p then x else y)) σ)(h:¬p):Z (.int y) σ:=by rw[if_neg h] at z;exact z
theorem Uc{C:mJ}{ρ:Rho}{σ:H}{Q:QS}{X:XS}{t:IE}{a c:ISs}(h:∀Z:QV,Z (.bool false) σ->wpE C t ρ σ Z (X ρ))(h2:blk C c ρ σ Q X):wpS C (.iff t a c) ρ σ Q X:=by rw[Le];exact h _ h2
noncomputable def lpQ(W:Rho->H->Prop)(Q:QS):QS:=λf ρ σ=>match f with|.next=>W ρ σ|.cont=>W ρ σ|.brk=>Q .next ρ σ|.ret v=>Q (.ret v) ρ σ
theorem lp1{W:Rho->H->Prop}{Q:QS}{ρ:Rho}{σ:H}(h:W ρ σ):lpQ W Q .next ρ σ:=h
theorem lp2{W:Rho->H->Prop}{Q:QS}{ρ:Rho}{σ:H}{v:V}(h:Q (.ret v) ρ σ):lpQ W Q (.ret v) ρ σ:=h
theorem Kv{vs:List V}{t:Ft}{B:Rho->H->QS->Prop}{Q:QS}{n i:Nat}{ρ ρ':Rho}{σ:H}(v:V)(hv:vs[i]?=some v)(hb:pM t v ρ=some ρ')(h:B ρ' σ (lpQ (λρ σ=>forN (.fix vs) t B Q n (i+1) ρ σ) Q)):forN (.fix vs) t B Q (n+1) i ρ σ:=by
 show om (mC (.fix vs) i σ) _;rw[Nc,hv,jR];show om (pM t v ρ) _;rw[hb,jR];exact h
theorem for_e{vs:List V}{t:Ft}{B:Rho->H->QS->Prop}{Q:QS}{n i:Nat}{ρ:Rho}{σ:H}(hv:vs[i]?=none)(h:Q .next ρ σ):forN (.fix vs) t B Q (n+1) i ρ σ:=by
 show om (mC (.fix vs) i σ) _;rw[Nc,hv,jR];exact h
theorem Ka{src:Src}{t:Ft}{B:Rho->H->QS->Prop}{Q:QS}{vs:List V}(I:Nat->Rho->H->Prop)
 (hs:∀i ρ σ,I i ρ σ->mC src i σ=some vs[i]?)
 (hend:∀ρ σ,I vs.length ρ σ->Q .next ρ σ)
 (h:∀i ρ σ v,I i ρ σ->vs[i]?=some v->∃ρ',pM t v ρ=some ρ'/\∀(W:Rho->H->Prop),(∀ρ' σ',I (i+1) ρ' σ'->W ρ' σ')->B ρ' σ (lpQ W Q)):∀(n i:Nat) ρ σ,I i ρ σ->i<=vs.length->vs.length<n+i->forN src t B Q n i ρ σ:=Yc I hs hend h
theorem zG{T:Rho->H->(Bool->H->Prop)->Prop}{B:Rho->H->QS->Prop}{Q:QS}{N:Nat}{ρ:Rho}{σ:H}(I:Nat->Rho->H->Prop)(h0:I N ρ σ)
 (h:∀N ρ σ,I N ρ σ->∀(W:Rho->H->Prop),(∀M ρ' σ',M<N->I M ρ' σ'->W ρ' σ')->T ρ σ λb σ=>if b=true then B ρ σ (lpQ W Q) else Q .next ρ σ):∃n,whlN T B Q n ρ σ:=Uw I h0 h
theorem z_t{p:Prop}[Decidable p]{Z:QV}{σ:H}(z:Z (.bool (decide p)) σ)(h:p):Z (.bool true) σ:=by rw[decide_eq_true h] at z;exact z
theorem tN{p:Prop}[Decidable p]{Q:QV}{σ:H}{x y:Int}(h:Q (.int (if p then x else y)) σ):if decide p=true then Q (.int x) σ else Q (.int y) σ:=br (λq=>by rw[if_pos q] at h;exact h) λq=>by rw[if_neg q] at h;exact h
theorem Eu{p:Prop}[Decidable p]{Q:QV}{σ:H}{x y:Int}(h:Q (.int (if¬p then x else y)) σ):if(!decide p)=true then Q (.int x) σ else Q (.int y) σ:=brn (λq=>by rw[if_neg (not_not_intro q)] at h;exact h) λq=>by rw[if_pos q] at h;exact h
theorem z_d{p q:Prop}[Decidable p][Decidable q]{Z:QV}{σ:H}(z:Z (.bool (decide p)) σ)(h:p↔q):Z (.bool (decide q)) σ:=(decide_eq_decide.mpr h)▸z
theorem z_n{p q:Prop}[Decidable p][Decidable q]{Z:QV}{σ:H}(z:Z (.bool (decide p)) σ)(h:p↔¬q):Z (.bool (!decide q)) σ:=by rw[←decide_not];exact z_d z h
theorem z_f{p:Prop}[Decidable p]{Z:QV}{σ:H}(z:Z (.bool (decide p)) σ)(h:¬p):Z (.bool false) σ:=by rw[decide_eq_false h] at z;exact z
noncomputable def Nm.str:Nm->Str
 |.eqz=>ofString "eqz"|.clz=>ofString "clz"|.ctz=>ofString "ctz"|.popcnt=>ofString "popcnt"|.wrap=>ofString "wrap"|.wide=>ofString "wide"|.sp8=>ofString "spread8"|.sp16=>ofString "spread16"|.sp32=>ofString "spread32"
 |.add=>ofString "add"|.sub=>ofString "sub"|.mul=>ofString "mul"|.div_s=>ofString "div_s"|.div_u=>ofString "div_u"|.rem_s=>ofString "rem_s"|.rem_u=>ofString "rem_u"|.and=>ofString "and"|.or=>ofString "or"|.xor=>ofString "xor"
 |.shl=>ofString "shl"|.shr_s=>ofString "shr_s"|.shr_u=>ofString "shr_u"|.rotl=>ofString "rotl"|.rotr=>ofString "rotr"
 |.eq=>ofString "eq"|.ne=>ofString "ne"|.lt_s=>ofString "lt_s"|.lt_u=>ofString "lt_u"|.gt_s=>ofString "gt_s"|.gt_u=>ofString "gt_u"|.le_s=>ofString "le_s"|.le_u=>ofString "le_u"|.ge_s=>ofString "ge_s"|.ge_u=>ofString "ge_u"
noncomputable def Kq:List Nm:= [.eqz,.clz,.ctz,.popcnt,.wrap,.wide,.sp8,.sp16,.sp32,.add,.sub,.mul,.div_s,.div_u,.rem_s,.rem_u,.and,.or,.xor,.shl,.shr_s,.shr_u,.rotl,.rotr,.eq,.ne,.lt_s,.lt_u,.gt_s,.gt_u,.le_s,.le_u,.ge_s,.ge_u]
theorem yM(a:Nm):a∈Kq:=by induction a<;>decide
theorem Em:(Kq.all λa=>Kq.all λb=>(a.str==b.str)==decide (a=b))=true:=by decide+kernel
theorem zK(a b:Nm):(a.str==b.str)=decide (a=b):=by
 have:=cR.mp (cR.mp Em a (yM a)) b (yM b);exact beq_iff_eq.mp this
theorem brS{x y:Nm}{A B:Prop}(a:x=y->A)(b:x≠y->B):if(x.str==y.str)=true then A else B:=by rw[zK];exact br a b
theorem uQ(l:List (Nm×V))(a:Nm):(l.map λp=>(p.1.str,p.2)).lookup a.str=l.lookup a:=by
 induction l with
 |nil=>rfl |cons p l ih=>
  rw[aZ,bR,bR,ih,zK];rfl
theorem Iq(l:List Nm)(a:Nm):mY (.str a.str) (l.map λm=>.str m.str)=some (decide (a∈l)):=by
 induction l with
 |nil=>rfl |cons m l ih=>
  rw[aZ,mY,ih,Tv,Option.bind_some,Option.map_some,zK];refine congrArg some ?_;by_cases h:m=a
  ·rw[decide_eq_true h,Bool.true_or];exact(decide_eq_true (h▸aE)).symm
  ·rw[decide_eq_false h,Bool.false_or];exact decide_eq_decide.mpr ⟨aH _,λq=>(aJ.mp q).elim (λz=>absurd z.symm h) id⟩
theorem Cl(l:List Int)(a:Int):mY (.int a) (l.map V.int)=some (decide (a∈l)):=by
 induction l with
 |nil=>rfl |cons m l ih=>
  rw[aZ,mY,ih,Uv,Option.bind_some,Option.map_some];refine congrArg some ?_;show(decide (m=a)||_)=_;by_cases h:m=a
  ·rw[decide_eq_true h,Bool.true_or];exact(decide_eq_true (h▸aE)).symm
  ·rw[decide_eq_false h,Bool.false_or];exact decide_eq_decide.mpr ⟨aH _,λq=>(aJ.mp q).elim (λz=>absurd z.symm h) id⟩
theorem Ff(n:Nat):(kU n).length=n:=by unfold kU;rw[aB,cV];rfl
theorem Gf{n i:Nat}{v:V}(h:(kU n)[i]?=some v):i<n/\v=.int i:=by
 rw[tU] at h;by_cases z:i<n
 ·rw[if_pos (show i<(n:Int).toNat from z)] at h;injection h with qz;subst qz;exact⟨z,rfl⟩
 ·rw[if_neg (show¬i<(n:Int).toNat from z)] at h;exact by contradiction
theorem kJ{l:List Int}{a:Int}{K:Bool->Prop}(h:K (decide (a∈l))):om (mY (.int a) (l.map V.int)) K:=by rw[Cl];exact h
theorem sA{l:List Nm}{a:Nm}{K:Bool->Prop}(h:K (decide (a∈l))):om (mY (.str a.str) (l.map λm=>.str m.str)) K:=by rw[Iq];exact h
local macro_rules | `(tactic| walk_at "N") => do
  let t ← ("nx1 bk1 nx2 bk0 rq1 lp1 lp2 bk2 bk3 rq2 nx3 nx4".splitOn " ").toArray.mapM fun s => `(tactic| refine $(Lean.mkIdent s.toName) ?_)
  `(tactic| (repeat with_reducible first $[| $t:tactic]*))
local macro_rules | `(tactic| walk_at "D") => do
  let t := ("ies Wi Qw Br Le ws_T Oe Ui Vi Ke Sw Ow Rw Nl Pw Ar Bw Jw Mw Hw Kl Gw Nw xe_or Lw Wq Kw Cw Iw Qq Tq Dw Ew Yq Rq Xq xe_bi Uq Ll Vq Ml Zv Pq Aw xi_of Xs Zs mW List.map Jh List.nil_append List.cons_append get set pY jR Bt Eo jW kA qG Int.ofNat_eq_natCast Int.cast_ofNat_Int ifT ifF ifNF ifNT List.length_cons List.length_nil Bool.not_true Bool.not_false Int.reduceBEq Int.reduceAdd Int.reduceSub Int.reduceMul Int.reduceNeg Int.reducePow Int.reduceToNat Nat.reduceAdd Nat.reduceSub Bool.true_and Bool.true_or Bool.false_or Bool.false_and Option.map_some Option.bind_some Option.map_none Option.bind_none bw_add bw_sub bw_mul bw_fd bw_mod bw_pow bw_shl bw_shr bw_and bw_or bw_xor Cu Du Ni cw_eq cw_ne cw_lt cw_le cw_gt cw_ge cw_is Vz cw_in Uz Zo Ut Rz ew_nn ew_in ew_ni Qa Jt Fz Kt Dz Cz Ez Zy Az Vs Uv Tv bq_nn bq_ni bq_in aw_add aw_and aw_shr Oh Js Uy Qy Py Oy Sy Nh Te zJ Xv Yv Sx Qx Rx Ly Ky Sn Ds Mx Rm Sm Ww Vw Ol Iy Gy Hy Yr bf_one Hu".splitOn " ").toArray.map fun s => Lean.mkIdent s.toName
  `(tactic| (walk_at "N"; (try dsimp only [$[$t:ident],*])))
set_option backward.match.sparseCases false
section
variable{cx:Cx}(T:Prog cx){n:Nat}{σ:H}{Q:QV}{X:XH}
include T
omit T in theorem in64_one:In64 1:=⟨by decide,by decide⟩
theorem kM(hn:2<=n){x bi:Int}{b:Nat}(hb:bi=b)(h:b<=1000)(hQ:Q (.int (x % 2^b)) σ):CTK cx n 65 [.int x,.int bi] σ Q X:=by
 subst hb;refine ctl T (Lg T) hn rfl rfl rfl ?_;walk_at "D";refine⟨in64_one,by exact bT _,by exact fZ.mpr h,?_⟩
 rw[cI,Int.one_mul,kbt_mask];exact hQ
theorem mV(hn:2<=n){x bi:Int}{b:Nat}(hb:bi=b)(h0:0<b)(h:b<=1000)(hQ:Q (.int (sg x b)) σ):CTK cx n 72 [.int x,.int bi] σ Q X:=by
 subst hb;refine ctl T (Mq T) hn rfl rfl rfl ?_;walk_at "D";have e:=tn1 b;refine⟨by exact iP h0,?_⟩
 rw[e,lY,cI,Int.one_mul];unfold sg at hQ;refine br (λh1=>?_) λh1=>?_
 ·rw[if_pos h1] at hQ;exact⟨in64_one,bT b,by exact fZ.mpr h,hQ⟩
 ·rw[if_neg h1] at hQ;exact hQ
theorem Au(hn:2<=n){bi:Int}{b:Nat}(hb:bi=b)(h0:0<b)(h:b<=1000)(hQ:Q (.int (-2^(b-1))) σ):CTK cx n 79 [.int bi] σ Q X:=by
 subst hb;refine ctl T (wT T) hn rfl rfl rfl ?_;walk_at "D";have e:=tn1 b;refine⟨in64_one,by exact iP h0,by exact iM h rfl,?_⟩
 rw[e,Int.one_mul];exact hQ
theorem Nk(hn:4<=n){x ki bi:Int}{k b:Nat}(hk:ki=k)(k0:0<k)(k1:k<=1000)(hb:bi=b)(h:b<=1000)(hQ:Q (.int (sg (x % 2^k) k % 2^b)) σ):CTK cx n 86 [.int x,.int ki,.int bi] σ Q X:=by
 subst hb;subst hk
 refine ctl T (Dl T) hn rfl rfl rfl ?_;walk_at "D";refine kM T (fu hn rfl) rfl k1 (mV T (fu hn rfl) rfl k0 k1 (kM T (fu hn rfl) rfl h ?_));exact hQ
theorem Pv(hn:2<=n){x bi:Int}(hQ:Q (.int (b01 (x=0))) σ):CTK cx n 93 [.int x,.int bi] σ Q X:=by
 refine ctl T (F_eqz T) hn rfl rfl rfl ?_;walk_at "D";exact tN hQ
omit T in theorem in128_of {x:Int} (h:In64 x):kR x:=⟨Int.lt_trans (by decide) h.1,Int.lt_trans h.2 (by decide)⟩
theorem Ov(hn:2<=n){a b:Int}(hb:b≠0)(hb2:In64 b)(hQ:Q (.int (tow a b)) σ):CTK cx n 142 [.int a,.int b] σ Q X:=by
 refine ctl T (uI T) hn rfl rfl rfl ?_;walk_at "D"
 have h0:0<=(if b<0 then-b else b)/\(if b<0 then-b else b)≠0/\kR (if b<0 then-b else b):=
  ifD (P:=λz:Int=>0<=z/\z≠0/\kR z) (λh=>⟨eX (bK h),λz=>hb (Int.neg_eq_zero.mp z),in128_of ⟨Int.neg_lt_neg hb2.2,Int.neg_lt_of_neg_lt hb2.1⟩⟩) λh=>⟨fT.mp h,hb,in128_of hb2⟩
 refine⟨h0.2.1,h0.2.2,?_⟩;rw[qS _ h0.1];walk_at "D";refine tN ?_;unfold tow at hQ;have e:(decide (a<0)=decide (b<0))=(a<0↔b<0):=propext decide_eq_decide;by_cases h:a<0↔b<0
 ·rw[if_pos h] at hQ;rw[if_pos (e▸h)];exact hQ
 ·rw[if_neg h] at hQ;rw[if_neg (e▸h)];exact hQ
noncomputable def U64(u:Int)(t:Nat):Prop:=0<=u/\u<2^t
omit T in theorem U64.in64 {u:Int} {t:Nat} (h:U64 u t) (ht:t=32∨t=64):In64 u:=⟨cK (by decide) h.1,cK h.2 (rM (ht.elim (λe=>e▸by decide) λe=>e▸aR _))⟩
omit T in theorem sg_in {u:Int} {t:Nat} (h:U64 u t) (ht:t=32∨t=64):In64 (sg u t):=by
 have h64:(2:Int)^t<=2^64:=rM (ht.elim (λe=>e▸by decide) λe=>e▸aR _)
 refine ifD (P:=In64) (λhn=>?_) λJ=>⟨cK (by decide) h.1,cK h.2 h64⟩
 have hu:0<u:=iY.mpr ⟨h.1,λz=>hn (by rw[←z];exact Int.zero_ediv _)⟩
 refine⟨bN (Int.neg_le_neg h64) ?_,bN (Int.sub_le_self u (bK (cF t))) (cK h.2 h64)⟩;rw[Int.sub_eq_add_neg];exact Int.lt_add_of_pos_left _ hu
omit T in theorem sg_ne {v:Int} {t:Nat} (hv:U64 v t) (ht:0<t) (h:v≠0):sg v t≠0:=λz=>by
 have:=qQ ht;unfold sg at z;unfold U64 at hv;split at z<;>lia
theorem Pp(hn:4<=n){u v bi:Int}{t:Nat}(hb:bi=t)(ht:t=32∨t=64)(hu:U64 u t)(hQ:Q (.int (rtl u v t)) σ):CTK cx n 219 [.int u,.int v,.int bi] σ Q X:=by
 subst hb;refine ctl T (F_rotl T) hn rfl rfl rfl ?_;walk_at "D";have h0:0<=v % (t:Int):=bF _ (by exact tz ht)
 have h1:v % (t:Int)<t:=bA _ (by exact tp ht)
 rw[kL _ (by exact bT _:(0:Int)<=t)]
 refine⟨by exact tz ht,hu.in64 ht,by exact h0,by exact tV ht h1 rfl,kM T (fu hn rfl) rfl (by lia) ⟨by exact iD h1,?_⟩⟩
 rw[lY];exact hQ
noncomputable def binF:Nm->Option Addr
 |.add=>some 121|.sub=>some 128|.mul=>some 135|.div_s=>some 149|.div_u=>some 156|.rem_s=>some 163|.rem_u=>some 170|.and=>some 177|.or=>some 184|.xor=>some 191
 |.shl=>some 198|.shr_s=>some 205|.shr_u=>some 212|.rotl=>some 219|.rotr=>some 226|.eq=>some 233|.ne=>some 240|.lt_s=>some 247|.lt_u=>some 254|.gt_s=>some 261|.gt_u=>some 268
 |.le_s=>some 275|.le_u=>some 282|.ge_s=>some 289|.ge_u=>some 296|_=>none
theorem Va(hn:4<=n){u v bi:Int}{t:Nat}(hb:bi=t)(ht:t=32∨t=64)(hQ:Q (.int (b01 (sg u t<sg v t))) σ):CTK cx n 247 [.int u,.int v,.int bi] σ Q X:=by
 subst hb;refine ctl T (F_lt_s T) hn rfl rfl rfl ?_;walk_at "D";refine mV T (fu hn rfl) rfl (by exact t0 ht) (by lia) (mV T (fu hn rfl) rfl (by exact t0 ht) (by lia) ?_)
 walk_at "D";exact tN hQ
theorem Ua(hn:2<=n){u v bi:Int}(hQ:Q (.int (b01 (u<v))) σ):CTK cx n 254 [.int u,.int v,.int bi] σ Q X:=by
 refine ctl T (F_lt_u T) hn rfl rfl rfl ?_;walk_at "D";exact tN hQ
theorem c_bin(hn:8<=n){nm:Nm}{f:Addr}(hf:binF nm=some f){u v bi:Int}{t:Nat}(hb:bi=t)(ht:t=32∨t=64)(hu:U64 u t)(hv:U64 v t)(hQ:∀r,p2 nm u v t=some r->Q (.int r) σ)(hX:p2 nm u v t=none->X σ):
 CTK cx n f [.int u,.int v,.int bi] σ Q X:=by
 subst hb;have h0:0<=v % (t:Int):=bF _ (by exact tz ht)
 have h1:v % (t:Int)<t:=bA _ (by exact tp ht)
 have t0:(0:Int)<=t:=bT t;have tp:0<t:=by exact Internal.t0 ht
 have tm:t<=1000:=by lia
 have tq:v % (t:Int)<=1000:=by exact tV ht h1 rfl
 have tn:(t:Int)≠0:=by exact Int.natCast_ne_zero_iff_pos.mpr tp
 induction nm with
 |add=>
  injection hf with qz;subst qz
  refine ctl T (F_add T) hn rfl rfl rfl ?_;walk_at "D";exact kM T (fu hn rfl) rfl tm (hQ _ rfl)
 |sub=>
  injection hf with qz;subst qz
  refine ctl T (F_sub T) hn rfl rfl rfl ?_;walk_at "D";exact kM T (fu hn rfl) rfl tm (hQ _ rfl)
 |mul=>
  injection hf with qz;subst qz
  refine ctl T (F_mul T) hn rfl rfl rfl ?_;walk_at "D";exact⟨.inl (hu.in64 ht),kM T (fu hn rfl) rfl tm (hQ _ rfl)⟩
 |div_s=>
  injection hf with qz;subst qz
  refine ctl T (Su T) hn rfl rfl rfl ?_;unfold p2 at hQ hX;dsimp only at hQ hX;walk_at "D";refine br (λhv0=>?_) λhv0=>?_
  ·walk_at "D"
   exact⟨rfl,hX (if_pos (.inl hv0))⟩
  walk_at "D";refine mV T (fu hn rfl) rfl tp tm (mV T (fu hn rfl) rfl tp tm ⟨ll rfl,rfl,?_⟩);walk_at "D";refine Au T (fu hn rfl) rfl tp tm ?_;walk_at "D";have hn0:=sg_ne hv tp hv0
  have fin:¬(sg u t= -2^(t-1)/\sg v t= -1)->CTK cx (n-2) 142 [.int (sg u t),.int (sg v t)] σ (λv σ=>CTK cx (n-2) 65 [v,.int t] σ (λv σ=>Q v σ) λσ=>X σ) λσ=>X σ:=λz=>
   Ov T (fu hn rfl) hn0 (sg_in hv ht) (kM T (fu hn rfl) rfl tm (hQ _ (if_neg λq=>q.elim hv0 z)))
  refine br (λh1=>br (λh2=>?_) λh2=>?_) λh1=>?_
  ·walk_at "D"
   exact⟨rfl,hX (if_pos (.inr ⟨h1,h2⟩))⟩
  ·walk_at "D"
   exact fin λq=>h2 q.2
  ·walk_at "D"
   exact fin λq=>h1 q.1
 |div_u=>
  injection hf with qz;subst qz
  refine ctl T (Ru T) hn rfl rfl rfl ?_;unfold p2 at hQ hX;dsimp only at hQ hX;walk_at "D";refine br (λhv0=>?_) λhv0=>?_
  ·walk_at "D"
   exact⟨rfl,hX (if_pos hv0)⟩
  ·walk_at "D"
   rw[if_neg hv0] at hQ;rw[qS _ hv.1];exact⟨hv0,in128_of (hv.in64 ht),hQ _ rfl⟩
 |rem_s=>
  injection hf with qz;subst qz
  refine ctl T (Pu T) hn rfl rfl rfl ?_;unfold p2 at hQ hX;dsimp only at hQ hX;walk_at "D";refine br (λhv0=>?_) λhv0=>?_
  ·walk_at "D"
   exact⟨rfl,hX (if_pos hv0)⟩
  walk_at "D";rw[if_neg hv0] at hQ;refine mV T (fu hn rfl) rfl tp tm (mV T (fu hn rfl) rfl tp tm ⟨ll rfl,rfl,?_⟩);walk_at "D";refine Ov T (fu hn rfl) (sg_ne hv tp hv0) (sg_in hv ht) ?_;walk_at "D";exact⟨.inl (sg_in hv ht),kM T (fu hn rfl) rfl tm (hQ _ rfl)⟩
 |rem_u=>
  injection hf with qz;subst qz
  refine ctl T (Ou T) hn rfl rfl rfl ?_;unfold p2 at hQ hX;dsimp only at hQ hX;walk_at "D";refine br (λhv0=>?_) λhv0=>?_
  ·walk_at "D"
   exact⟨rfl,hX (if_pos hv0)⟩
  ·walk_at "D"
   rw[if_neg hv0] at hQ;rw[kL _ hv.1];exact⟨hv0,hQ _ rfl⟩
 |and=>
  injection hf with qz;subst qz
  refine ctl T (Sg T) hn rfl rfl rfl ?_;walk_at "D";exact hQ _ rfl
 |or=>
  injection hf with qz;subst qz
  refine ctl T (Hl T) hn rfl rfl rfl ?_;walk_at "D";exact hQ _ rfl
 |xor=>
  injection hf with qz;subst qz
  refine ctl T (Rg T) hn rfl rfl rfl ?_;walk_at "D";exact hQ _ rfl
 |shl=>
  injection hf with qz;subst qz
  refine ctl T (F_shl T) hn rfl rfl rfl ?_;walk_at "D";rw[kL _ t0];exact⟨tn,hu.in64 ht,h0,tq,kM T (fu hn rfl) rfl tm (hQ _ rfl)⟩
 |shr_s=>
  injection hf with qz;subst qz
  refine ctl T (Mu T) hn rfl rfl rfl ?_;walk_at "D";rw[kL _ t0];refine mV T (fu hn rfl) rfl tp tm ?_;walk_at "D";refine⟨tn,h0,kM T (fu hn rfl) rfl tm ?_⟩;rw[lY];exact hQ _ rfl
 |shr_u=>
  injection hf with qz;subst qz
  refine ctl T (Lu T) hn rfl rfl rfl ?_;walk_at "D";rw[kL _ t0,lY];exact⟨tn,h0,hQ _ rfl⟩
 |rotl=>injection hf with qz;subst qz;exact Pp T (fv hn rfl) rfl ht hu (hQ _ rfl)
 |rotr=>
  injection hf with qz;subst qz
  refine ctl T (F_rotr T) hn rfl rfl rfl ?_;walk_at "D";rw[kL _ t0];exact⟨tn,Pp T (fu hn rfl) rfl ht hu (hQ _ rfl)⟩
 |eq=>
  injection hf with qz;subst qz
  refine ctl T (F_eq T) hn rfl rfl rfl ?_;walk_at "D";exact tN (hQ _ rfl)
 |ne=>
  injection hf with qz;subst qz
  refine ctl T (F_ne T) hn rfl rfl rfl ?_;walk_at "D";exact Eu (hQ _ rfl)
 |lt_s=>injection hf with qz;subst qz;exact Va T (fv hn rfl) rfl ht (hQ _ rfl)
 |lt_u=>injection hf with qz;subst qz;exact Ua T (fv hn rfl) (hQ _ rfl)
 |gt_s=>
  injection hf with qz;subst qz
  refine ctl T (F_gt_s T) hn rfl rfl rfl ?_;walk_at "D";exact Va T (fu hn rfl) rfl ht (hQ _ rfl)
 |gt_u=>
  injection hf with qz;subst qz
  refine ctl T (F_gt_u T) hn rfl rfl rfl ?_;walk_at "D";exact Ua T (fu hn rfl) (hQ _ rfl)
 |le_s=>
  injection hf with qz;subst qz
  refine ctl T (F_le_s T) hn rfl rfl rfl ?_;walk_at "D";refine Va T (fu hn rfl) rfl ht ?_;walk_at "D";exact hQ _ rfl
 |le_u=>
  injection hf with qz;subst qz
  refine ctl T (F_le_u T) hn rfl rfl rfl ?_;walk_at "D";refine Ua T (fu hn rfl) ?_;walk_at "D";exact hQ _ rfl
 |ge_s=>
  injection hf with qz;subst qz
  refine ctl T (F_ge_s T) hn rfl rfl rfl ?_;walk_at "D";refine Va T (fu hn rfl) rfl ht ?_;walk_at "D";exact hQ _ rfl
 |ge_u=>
  injection hf with qz;subst qz
  refine ctl T (F_ge_u T) hn rfl rfl rfl ?_;walk_at "D";refine Ua T (fu hn rfl) ?_;walk_at "D";exact hQ _ rfl
 |_=>injection hf
end
noncomputable def hf:Nat->Int
 |0=>0 |n+1=>2^n
theorem uU(n:Nat):(hf (n+1)).fdiv 2=hf n:=by
 rw[qS _ (by decide)]
 induction n using Nat.casesOn with
 |zero=>rfl |succ n=>show(2:Int)^(n+1)/2=2^n;rw[fE];exact d2 _
theorem Gk(a t:Nat):((bD t).filter λk=>decide (a<=k)).length=t-a:=by
 induction t with
 |zero=>exact(Nat.zero_sub a).symm |succ t ih=>
  rw[jA,List.filter_append,aD,ih];by_cases h:a<=t
  ·rw[Nat.succ_sub h];simp[h]
  ·rw[Nat.sub_eq_zero_of_le (Nat.not_le.mp h),Nat.sub_eq_zero_of_le (Nat.le_of_not_le h)];simp[h]
theorem Fk(a t:Nat):((bD t).filter λk=>decide (k+1<=a)).length=min t a:=by
 induction t with
 |zero=>exact(Nat.zero_min a).symm |succ t ih=>
  rw[jA,List.filter_append,aD,ih];by_cases h:t+1<=a
  ·rw[cL h,cL (dE h)];simp[h]
  ·rw[iI (Nat.le_of_not_le h),iI (Nat.le_of_lt_succ (Nat.not_le.mp h))];simp[h]
theorem pJ{a b:Nat}(h:(2:Int)^a<2^b):a<b:=aV λz=>by
 exact fT.mpr (rM (Nat.le_of_not_lt z)) h
theorem Lk{u:Int}{t f:Nat}(h1:2^(t-1)<=u*2^f)(h2:u*2^f<2^t)(ht:0<t):((bD t).filter λ(k:Nat)=>decide (u<2^k)).length=f:=by
 have hp:=cF f
 have hu:1<=u:=by
  refine aV λz=>?_
  have a:=cS (show u<=0 from fT.mp z) (bK hp)
  exact fT.mpr (fH a (Int.le_of_eq (Int.zero_mul _))) (cK (cF (t-1)) h1)
 have hft:f<t:=by
  refine pJ (bN ?_ h2);exact fH (Int.le_of_eq (Int.one_mul _).symm) (cS hu (bK hp))
 have e:∀k:Nat,decide (u<2^k)=decide (t-f<=k):=λk=>by
  have:(u<2^k)↔t-f<=k:=by
   constructor
   ·intro h
    have h3:=jG h hp;rw[←dB] at h3;exact Nat.sub_le_of_le_add (Nat.le_of_pred_lt (pJ (bN h1 h3)))
   ·intro h
    have h3:=rM (show t<=k+f by exact Nat.le_add_of_sub_le h)
    rw[dB] at h3;exact Int.lt_of_mul_lt_mul_right (cK h2 h3) (bK hp)
  simp[this]
 have:(λ(k:Nat)=>decide (u<2^k))=λk=>decide (t-f<=k):=funext e
 rw[this,Gk];exact Nat.sub_sub_self (fD hft)
theorem Kk{u x:Int}{t f:Nat}(h1:x*2^f=u)(h2:x % 2≠0)(h3:U64 u t):((bD t).filter λ(k:Nat)=>decide (u % 2^(k+1)=0)).length=f:=by
 have hp:=cF f
 have hx:1<=x:=by
  refine aV λz=>?_
  have a:=cS (show x<= -1 from Int.le_of_lt_add_one (iY.mpr ⟨Int.le_of_lt_add_one (Int.not_le.mp z),λe=>h2 (by rw[e];rfl)⟩)) (bK hp)
  rw[h1,Int.neg_mul,Int.one_mul] at a;exact fT.mpr (fH h3.1 a) (Int.neg_neg_of_pos hp)
 have hft:f<t:=by
  refine pJ (bN ?_ h3.2);have a:=cS hx (bK hp);rw[h1,Int.one_mul] at a;exact a
 have e:∀k:Nat,decide (u % 2^(k+1)=0)=decide (k+1<=f):=λk=>by
  have:(u % 2^(k+1)=0)↔k+1<=f:=by
   constructor
   ·intro h
    refine aV λz=>h2 ?_
    obtain⟨d,hd⟩:∃d,k+1=f+(d+1):=⟨k-f,(congrArg (· +1) (Nat.add_sub_of_le (Nat.le_of_lt_succ (Nat.not_le.mp z)))).symm⟩;refine e11 (Int.dvd_of_emod_eq_zero h) λq hq=>?_
    rw[hd,dB,fE,←h1] at hq
    have:x=2^d*2*q:=by
     refine Int.eq_of_mul_eq_mul_right (gA hp) (hq.trans ?_);rw[gL,dI]
    rw[this,gL,Int.mul_left_comm];exact Int.mul_emod_right _ _
   ·intro h
    obtain⟨d,rfl⟩:∃d,f=(k+1)+d:=⟨f-(k+1),(Nat.add_sub_of_le h).symm⟩;rw[←h1,dB,Int.mul_left_comm];exact Int.mul_emod_right _ _
  simp[this]
 have:(λ(k:Nat)=>decide (u % 2^(k+1)=0))=λk=>decide (k+1<=f):=funext e
 rw[this,Fk];exact iI (fD hft)
noncomputable def pcs(t:Nat)(u:Int):Int:=((bD t).map λ(k:Nat)=>u/2^k % 2).sum
theorem Dc(t:Nat)(u:Int):pcs (t+1) u=u % 2+pcs t (u/2):=by
 unfold pcs;rw[List.range_succ_eq_map,aZ,jE,List.sum_cons,hG,Int.ediv_one]
 congr 2
 refine jC λk J=>?_
 show u/2^(k+1) % 2=u/2/2^k % 2;rw[fE,dI,Int.ediv_ediv_of_nonneg (by decide)]
theorem En(t:Nat):pcs t 0=0:=by
 unfold pcs
 induction t with
 |zero=>rfl |succ t ih=>rw[jA,bJ,List.sum_append,ih];simp
theorem par(x:Int):(∃z,x=2*z)∨∃z,x=2*z+1:=
 (Int.emod_two_eq x).elim (λh=>.inl ⟨x/2,by have q:=fM x 2;rw[h,jI] at q;exact q.symm⟩) λh=>.inr ⟨x/2,by have q:=fM x 2;rw[h] at q;exact q.symm⟩
theorem Ec:∀(t:Nat) (x:Int),0<x->x<2^t->pcs t (bL x (x-1))=pcs t x-1
 |0,x,h1,h2=>by rw[hG] at h2;omega
 |t+1,x,h1,h2=>by
  rw[Dc,Dc,kbt_halves x (x-1)];rw[fE,dI] at h2;rcases par x with⟨z,rfl⟩|⟨z,rfl⟩
  ·have q:2*z-1=2*(z-1)+1:=by lia
   rw[if_neg (λh=>absurd h.1 (by rw[Int.mul_emod_right];decide)),q,d1,Int.mul_ediv_cancel_left z (by decide),m0,d0,Int.mul_emod_right,Ec t z (by lia) (Int.lt_of_mul_lt_mul_left h2 (by decide))]
   exact(Int.add_sub_assoc 0 _ 1).symm
  ·rw[Int.add_sub_cancel,Int.mul_ediv_cancel_left z (by decide),d1,bitAnd_self,if_neg (by rw[Int.mul_emod_right];exact λh=>absurd h.2 (by decide)),m0,d0,m1,Int.zero_add,Int.add_comm,Int.add_sub_cancel]
theorem zH{m t:Nat}(h:2^(m+1)<=t):2^m<t/\t-2^(m+1)+2^m=t-2^m/\t-2^m+2^m=t:=by
 have hp:=Nat.two_pow_pos m;rw[Nat.pow_succ,Nat.mul_two] at h⊢;have k:=eH (Nat.lt_add_of_pos_left hp) h;exact⟨k,by rw[Nat.sub_add_eq];exact eG (cC h),eG (fD k)⟩
theorem Ob{t:Nat}(ht:t=32∨t=64):t<=1000:=ht.elim (λe=>e▸by decide) λe=>e▸by decide
section
variable{cx:Cx}(T:Prog cx){n:Nat}{σ:H}{Q:QV}{X:XH}
include T
theorem Sv(hn:4<=n){u bi:Int}{t:Nat}(hb:bi=t)(ht:t=32∨t=64)(hu:U64 u t)(hQ:Q (.int ((bD t).filter λ(k:Nat)=>decide (u<2^k)).length) σ):CTK cx n 100 [.int u,.int bi] σ Q X:=by
 subst hb;refine ctl T (F_clz T) hn rfl rfl rfl ?_;walk_at "D";by_cases h0:u=0
 ·rw[if_pos (by simpa using h0)]
  subst h0
  have e:((bD t).filter λ(k:Nat)=>decide ((0:Int)<2^k))=bD t:=by
   refine jD.mpr λk J=>?_
   have:=cF k
   simpa using this
  rw[e,cV] at hQ;exact hQ
 ·rw[if_neg (by simpa using h0)]
  walk_at "D";walk_at "D"
  obtain⟨N,hN⟩:∃N:Nat,t=2^N/\((t:Int).fdiv 2=hf N)/\0<N:=by
   rcases ht with rfl|rfl
   ·exact⟨5,rfl,rfl,by decide⟩
   ·exact⟨6,rfl,rfl,by decide⟩
  refine⟨by decide,?_⟩
  walk_at "D"
  refine zG (N:=N) (λN ρ σ'=>σ'=σ/\∃(x:Int) (f:Nat),ρ= [some (.int x),some (.int t),some (.int f),some (.int (hf N))]/\x=u*2^f/\2^(t-2^N)<=x/\x<2^t/\2^N<=t)
   ⟨rfl,u,0,by rw[hN.2.1];rfl,by simp,by rw[hN.1];simp;have:=hu.1;lia,hu.2,by rw[hN.1];exact aR _⟩ λM ρ σ' hI W hW=>?_
  clear hN;obtain⟨rfl,x,f,rfl,rfl,hx1,hx2,hM⟩:=hI;walk_at "D"
  induction M using Nat.casesOn with
  |zero=>
   rw[if_neg (by decide)]
   rw[Lk (f:=f) (by simpa using hx1) hx2 (by exact hM)] at hQ
   exact hQ
  |succ m=>
   have hm:(0:Int)<hf (m+1):=cF m;rw[if_pos (by simpa using hm)]
   have hmt:=(zH hM).1;have le1:(2^m:Nat)<=1000:=aC (fD hmt) (Ob ht);have e1:hf (m+1)=((2^m:Nat):Int):=(kbt_cast m).symm;have e2:((t:Int)-hf (m+1)).toNat=t-2^m:=by rw[e1,←Int.ofNat_sub (fD hmt)];rfl
   have e3:(hf (m+1)).toNat=2^m:=by rw[e1];rfl
   have hx0:0<=u*2^f:=fH (bK (cF _)) hx1;walk_at "D";rw[e2,lY];refine⟨by rw[e1];exact iW (fZ.mpr (fD hmt)),?_⟩
   by_cases hz:u*2^f/2^(t-2^m)=0
   ·rw[if_pos (by simpa using hz)]
    have hlt:u*2^f<2^(t-2^m):=by
     have h1:=fM (u*2^f) (2^(t-2^m));have h2:=kI (u*2^f) (t-2^m);rw[hz,Int.mul_zero] at h1;lia
    have hmul:u*2^f*2^2^m<2^t:=by
     have:=jG hlt (cF (2^m))
     rwa [←dB,(zH hM).2.2] at this
    have hge:(2:Int)^(t-2^m)<=u*2^f*2^2^m:=by
     have:=cS hx1 (bK (cF (2^m)))
     rwa [←dB,(zH hM).2.1] at this
    walk_at "D";walk_at "D";rw[e3];refine⟨U64.in64 ⟨hx0,hx2⟩ ht,bK hm,by rw[e1];exact fZ.mpr le1,kM T (fu hn rfl) rfl (by exact Ob ht) ?_⟩
    walk_at "D";walk_at "D";refine⟨by decide,hW m _ _ (by exact Nat.lt_add_one m) ⟨rfl,u*2^f*2^2^m,f+2^m,?_,by rw[dB,gL],hge,hmul,by exact fD hmt⟩⟩
    rw[dS (fH (bK (cF _)) hge) hmul,uU,e1,Int.natCast_add]
   ·rw[if_neg (by simpa using hz)]
    walk_at "D";refine⟨by decide,hW m _ _ (by exact Nat.lt_add_one m) ⟨rfl,u*2^f,f,?_,rfl,?_,hx2,by exact fD hmt⟩⟩
    ·rw[uU]
    ·refine aV λh=>hz ?_
     exact hO hx0 (by exact Int.lt_of_not_ge h)
theorem Rv(hn:4<=n){u bi:Int}{t:Nat}(hb:bi=t)(ht:t=32∨t=64)(hu:U64 u t)(hQ:Q (.int ((bD t).filter λ(k:Nat)=>decide (u % 2^(k+1)=0)).length) σ):CTK cx n 107 [.int u,.int bi] σ Q X:=by
 subst hb;refine ctl T (F_ctz T) hn rfl rfl rfl ?_;walk_at "D";by_cases h0:u=0
 ·rw[if_pos (by simpa using h0)]
  subst h0
  have e:((bD t).filter λ(k:Nat)=>decide ((0:Int) % 2^(k+1)=0))=bD t:=by
   refine jD.mpr λk J=>?_
   simp
  rw[e,cV] at hQ;exact hQ
 ·rw[if_neg (by simpa using h0)]
  walk_at "D";walk_at "D"
  obtain⟨N,hN⟩:∃N:Nat,t=2^N/\((t:Int).fdiv 2=hf N)/\0<N:=by
   rcases ht with rfl|rfl
   ·exact⟨5,rfl,rfl,by decide⟩
   ·exact⟨6,rfl,rfl,by decide⟩
  refine⟨by decide,?_⟩
  walk_at "D"
  refine zG (N:=N) (λN ρ σ'=>σ'=σ/\∃(x:Int) (f:Nat),ρ= [some (.int x),some (.int t),some (.int f),some (.int (hf N))]/\x*2^f=u/\x % 2^2^N≠0/\2^N<=t)
   ⟨rfl,u,0,by rw[hN.2.1];rfl,by simp,by rw[←hN.1,dS hu.1 hu.2];exact h0,by rw[hN.1];exact aR _⟩ λM ρ σ' hI W hW=>?_
  clear hN;obtain⟨rfl,x,f,rfl,hxu,hx2,hM⟩:=hI;walk_at "D"
  induction M using Nat.casesOn with
  |zero=>
   rw[if_neg (by decide)]
   rw[Kk (f:=f) hxu (by simpa using hx2) hu] at hQ
   exact hQ
  |succ m=>
   have hm:(0:Int)<hf (m+1):=cF m;rw[if_pos (by simpa using hm)]
   have hmt:=(zH hM).1;have le1:(2^m:Nat)<=1000:=aC (fD hmt) (Ob ht);have e1:hf (m+1)=((2^m:Nat):Int):=(kbt_cast m).symm;have e3:(hf (m+1)).toNat=2^m:=by rw[e1];rfl
   walk_at "D";refine kM T (b:=2^m) (by exact fu hn rfl) e1 (by exact le1) ?_
   walk_at "D";by_cases hz:x % 2^2^m=0
   ·rw[if_pos (by simpa using hz)]
    walk_at "D";walk_at "D";rw[e3,lY];have hd:=fM x (2^2^m);rw[hz,jI] at hd;refine⟨by rw[e1];exact bT _,?_⟩
    walk_at "D";refine⟨by decide,hW m _ _ (by exact Nat.lt_add_one m) ⟨rfl,x/2^2^m,f+2^m,?_,?_,?_,by exact fD hmt⟩⟩
    ·rw[uU,e1,Int.natCast_add]
    ·rw[dP,dB,←gL,dI (x/2^2^m),hd];exact hxu
    ·intro h
     refine hx2 ?_;refine e11 (Int.dvd_of_emod_eq_zero h) λq hq=>?_
     rw[←hd,hq,Nat.pow_succ,Nat.mul_two,dB,←gL];exact Int.mul_emod_right _ _
   ·rw[if_neg (by simpa using hz)]
    walk_at "D";refine⟨by decide,hW m _ _ (by exact Nat.lt_add_one m) ⟨rfl,x,f,?_,hxu,hz,by exact fD hmt⟩⟩
    rw[uU]
theorem Nd(hn:2<=n){u bi:Int}{t:Nat}(hu:U64 u t)(hQ:Q (.int (pcs t u)) σ):CTK cx n 114 [.int u,.int bi] σ Q X:=by
 refine ctl T (Nq T) hn rfl rfl rfl ?_;walk_at "D"
 refine zG (N:=u.toNat) (λN ρ σ'=>σ'=σ/\∃(x f:Int),ρ= [some (.int x),some (.int bi),some (.int f)]/\f+pcs t x=pcs t u/\U64 x t/\x.toNat=N)
  ⟨rfl,u,0,rfl,by exact Int.zero_add (pcs t u),hu,rfl⟩ λM ρ σ' hI W hW=>?_
 obtain⟨rfl,x,f,rfl,hs,hx,rfl⟩:=hI;walk_at "D";by_cases hz:x=0
 ·rw[if_neg (by simpa using hz)]
  rw[hz,En,jI] at hs;rw[hs];exact hQ
 ·rw[if_pos (by simpa using hz)]
  have hp:0<x:=iY.mpr ⟨hx.1,Ne.symm hz⟩;have h1:=Cb x (x-1) hx.1 (Int.le_sub_one_of_lt hp);have h2:=Ec t x hp hx.2;exact hW _ _ _ ((Int.toNat_lt_toNat hp).mpr (bN h1.2.2 (Int.sub_lt_self x (by decide)))) ⟨rfl,_,_,rfl,by rw[h2,←hs,Int.add_assoc,←Int.add_sub_assoc,Int.add_comm 1,Int.add_sub_cancel],⟨h1.1,bN h1.2.1 hx.2⟩,rfl⟩
end
theorem rG{P:Int->Prop}(h:∀k:Fin 128,P (69+(k.val:Int))){c:Int}(h1:69<=c)(h2:c<197):P c:=by
 have this:P (69+(((c-69).toNat:Nat):Int)):=h ⟨(c-69).toNat,by exact tL h2 rfl⟩
 have e:(69:Int)+(((c-69).toNat:Nat):Int)=c:=by exact tC h1
 rwa [e] at this
theorem pD{α:Type}{l:List α}{k:Int}(h0:0<=k)(h1:k<l.length)(hz:l.length<=lim):idx l k=l[k.toNat]?:=by
 have:(2:Int)^62=4611686018427387904:=by decide
 unfold lim at hz;unfold idx;rw[if_pos (by lia)]
 have:seqIndex? k l.length=some k.toNat:=by
  unfold seqIndex?;have e:¬k<0:=by exact Int.not_lt_of_ge h0
  simp only[e,if_false];rw[if_pos (by rw[dD,decide_eq_true_eq,decide_eq_true_eq];exact And.symm ⟨h1,h0⟩)]
 rw[this];rfl
theorem qX{α:Type}{l:List α}{k:Int}(h0:k<0)(h1:0<=k+l.length)(hz:l.length<=lim):idx l k=l[(k+l.length).toNat]?:=by
 have:(2:Int)^62=4611686018427387904:=by decide
 unfold lim at hz;unfold idx;rw[if_pos (by lia)]
 have:seqIndex? k l.length=some (k+l.length).toNat:=by
  unfold seqIndex?;simp only[h0,if_true];rw[if_pos (by rw[dD,decide_eq_true_eq,decide_eq_true_eq];lia)]
 rw[this];rfl
theorem pZ{a:V}{l:List V}{K:V->Prop}(h:K a):om (idx (a::l) 0) K:=by rw[ix0];exact h
theorem nI{a b:V}{l:List V}{K:V->Prop}(h:K b):om (idx (a::b::l) 1) K:=by rw[ix1];exact h
theorem Jo:In64 8:=⟨by decide,by decide⟩
noncomputable def kW(c a b m:Int):V:=if a<=c/\c<a+m then .tup [.int (c-a),.int 32] else if b<=c/\c<b+m then .tup [.int (c-b),.int 64] else .none
noncomputable def nX(c:Int):V:=if 192<=c/\c<194 then .tup [.int (8*2^(c-192).toNat),.int 32] else if 194<=c/\c<197 then .tup [.int (8*2^(c-194).toNat),.int 64] else if c=172 then .tup [.int 32,.int 64] else .none
noncomputable def isV:V->Bool
 |.none=>false |_=>true
theorem sH(v:V)(h:v=.none∨∃l,v=.tup l):isNone v=some !(isV v):=by
 rcases h with rfl|⟨l,rfl⟩<;>rfl
theorem vQ(c a b m:Int):kW c a b m=.none∨∃l,kW c a b m=.tup l:=by unfold kW;split;exact .inr ⟨_,rfl⟩;split;exact .inr ⟨_,rfl⟩;exact .inl rfl
theorem Nj(c:Int):nX c=.none∨∃l,nX c=.tup l:=by unfold nX;split;exact .inr ⟨_,rfl⟩;split;exact .inr ⟨_,rfl⟩;split;exact .inr ⟨_,rfl⟩;exact .inl rfl
noncomputable def isUn(c:Int):Bool:=match opOf c with|some (nm,_,_)=>nm.single|none=>false
noncomputable def yR(c:Int):Bool:=match opOf c with|some (nm,_,_)=> !nm.single|none=>false
theorem Ws(c:Int):isUn c=(decide (c∈ [69,80,167,173])||(isV (kW c 103 121 3)||isV (nX c))):=by
 by_cases h:69<=c/\c<197
 ·exact rG (P:=λc=>isUn c=(decide (c∈ [69,80,167,173])||(isV (kW c 103 121 3)||isV (nX c)))) (by decide+kernel) h.1 h.2
 ·unfold isUn
  rw[oS (by exact nO h)]
  have e1:kW c 103 121 3=.none:=by unfold kW;rw[if_neg (by exact nR h rfl),if_neg (by exact nR h rfl)]
  have e2:nX c=.none:=by unfold nX;rw[if_neg (by exact nR h rfl),if_neg (by exact nR h rfl),if_neg (by exact nE h rfl)]
  rw[e1,e2];rw[decide_eq_false (by simp;lia)];rfl
theorem Co(c:Int):yR c=(isV (kW c 70 81 10)||isV (kW c 106 124 15)):=by
 by_cases h:69<=c/\c<197
 ·exact rG (P:=λc=>yR c=(isV (kW c 70 81 10)||isV (kW c 106 124 15))) (by decide+kernel) h.1 h.2
 ·unfold yR
  rw[oS (by exact nO h)]
  have e1:kW c 70 81 10=.none:=by unfold kW;rw[if_neg (by exact nR h rfl),if_neg (by exact nR h rfl)]
  have e2:kW c 106 124 15=.none:=by unfold kW;rw[if_neg (by exact nR h rfl),if_neg (by exact nR h rfl)]
  rw[e1,e2];rfl
noncomputable def zO:List (Int×Nm×Nat×Nat):= [(69,.eqz,32,32),(80,.eqz,64,32),(167,.wrap,64,32),(172,.sp32,32,64),(173,.wide,32,64),(192,.sp8,32,32),(193,.sp16,32,32),(194,.sp8,64,64),(195,.sp16,64,64),(196,.sp32,64,64),
 (103,.clz,32,32),(104,.ctz,32,32),(105,.popcnt,32,32),(121,.clz,64,64),(122,.ctz,64,64),(123,.popcnt,64,64)]
theorem zN{c:Int}{nm:Nm}{t p:Nat}(h:opOf c=some (nm,t,p))(hs:nm.single=true):(c,nm,t,p)∈zO:=by
 refine e02 ((jY h).2.2.2.2) λh1 h2=>?_
 have:=rG (P:=λc=>(match opOf c with|some (nm,t,p)=> !nm.single||zO.contains (c,nm,t,p)|none=>true)=true) (by decide+kernel) h1 h2
 rw[h] at this
 simpa [hs] using this
noncomputable def yC:List Addr:= [121,128,135,149,156,163,170,177,184,191,198,205,212,219,226]
noncomputable def yY:List Addr:= [233,240,247,254,261,268,275,282,289,296]
noncomputable def Yp(c:Int):Bool:=match opOf c with
 |some (nm,t,p)=>nm.single||(decide (106<=c)&&decide (c<121)&&t==32&&yC[(c-106).toNat]?==binF nm&&(binF nm).isSome)||(decide (124<=c)&&decide (c<139)&&t==64&&yC[(c-124).toNat]?==binF nm&&(binF nm).isSome)||
   (decide (70<=c)&&decide (c<80)&&t==32&&yY[(c-70).toNat]?==binF nm&&(binF nm).isSome)||(decide (81<=c)&&decide (c<91)&&t==64&&yY[(c-81).toNat]?==binF nm&&(binF nm).isSome)
 |none=>true
theorem Wk{c:Int}{nm:Nm}{t p:Nat}(h:opOf c=some (nm,t,p))(hs:nm.single=false):∃f,binF nm=some f/\
 ((106<=c/\c<121/\t=32/\yC[(c-106).toNat]?=some f)∨(124<=c/\c<139/\t=64/\yC[(c-124).toNat]?=some f)∨(70<=c/\c<80/\t=32/\yY[(c-70).toNat]?=some f)∨(81<=c/\c<91/\t=64/\yY[(c-81).toNat]?=some f)):=by
 refine e02 ((jY h).2.2.2.2) λh1 h2=>?_
 have:=rG (P:=λc=>Yp c=true) (by decide+kernel) h1 h2
 unfold Yp at this;rw[h] at this;simp only[hs,Bool.false_or,Bool.or_eq_true,dD,decide_eq_true_eq,beq_iff_eq] at this;rcases this with((⟨⟨⟨⟨a,b⟩,d⟩,e⟩,g⟩|⟨⟨⟨⟨a,b⟩,d⟩,e⟩,g⟩)|⟨⟨⟨⟨a,b⟩,d⟩,e⟩,g⟩)|⟨⟨⟨⟨a,b⟩,d⟩,e⟩,g⟩<;>refine e11 (dO.mp g) λf hf=>?_<;>refine⟨f,hf,?_⟩<;>rw[hf] at e
 ·exact .inl ⟨a,b,d,e⟩
 ·exact .inr (.inl ⟨a,b,d,e⟩)
 ·exact .inr (.inr (.inl ⟨a,b,d,e⟩))
 ·exact .inr (.inr (.inr ⟨a,b,d,e⟩))
noncomputable def Mh(c:Int):V:=
 let low:=if 121<=c/\c<=138 then c-18 else c
 if low=106∨low=107∨(114<=low/\low<=120) then .int 0 else if 108<=low/\low<=110 then .int 1 else if low=113 then .int (-1) else .none
noncomputable def optV:Option Int->V
 |some i=>.int i |none=>.none
noncomputable def Aq:V->V->Bool
 |.int i,.int j=>i==j |.none,.none=>true |_,_=>false
theorem Cs{c:Int}{nm:Nm}{t p:Nat}(h:opOf c=some (nm,t,p))(hs:nm.single=false):Mh c=optV nm.idle:=by
 refine e02 ((jY h).2.2.2.2) λh1 h2=>?_
 have:=rG (P:=λc=>(match opOf c with|some (nm,t,p)=>nm.single||Aq (Mh c) (optV nm.idle)|none=>true)=true) (by decide+kernel) h1 h2
 rw[h] at this;simp only[hs,Bool.false_or] at this
 have sound:∀a b:V,Aq a b=true->a=b:=by
  intro a b e;unfold Aq at e;split at e
  ·rw[beq_iff_eq] at e;rw[e]
  ·rfl
  ·injection e
 exact sound _ _ this
noncomputable def widV(c:Int):Int×Int:=
 if c=167 then(64,32) else if c=172∨c=173 then(32,64) else
  let t:=if(80<=c/\c<=90)∨(121<=c/\c<=138)∨194<=c then 64 else 32
  (t,if c<=90 then 32 else t)
theorem Tw{c:Int}{nm:Nm}{t p:Nat}(h:opOf c=some (nm,t,p)):widV c=((t:Int),(p:Int)):=by
 refine e02 ((jY h).2.2.2.2) λh1 h2=>?_
 have:=rG (P:=λc=>(match opOf c with|some (nm,t,p)=>decide (widV c=((t:Int),(p:Int)))|none=>true)=true) (by decide+kernel) h1 h2
 rw[h] at this
 simpa using this
section
variable{cx:Cx}(T:Prog cx){n:Nat}{σ:H}{Q:QV}{X:XH}
include T
theorem pG(hn:2<=n){c a b m:Int}(hQ:Q (kW c a b m) σ):CTK cx n 306 [.int c,.int a,.int b,.int m] σ Q X:=by
 refine ctl T (Ng T) hn rfl rfl rfl ?_;unfold kW at hQ;walk_at "D";refine oL (λh1 h2=>?_) λh=>?_
 ·rw[if_pos ⟨h1,h2⟩] at hQ
  walk_at "D";exact⟨ll rfl,hQ⟩
 rw[if_neg h] at hQ;walk_at "D";refine oL (λh1 h2=>?_) λh=>?_
 ·rw[if_pos ⟨h1,h2⟩] at hQ
  walk_at "D";exact⟨ll rfl,hQ⟩
 rw[if_neg h] at hQ;walk_at "D";exact hQ
theorem Pd(hn:2<=n){c:Int}(hQ:Q (nX c) σ):CTK cx n 313 [.int c] σ Q X:=by
 refine ctl T (Be T) hn rfl rfl rfl ?_;unfold nX at hQ;walk_at "D";refine oL (λh1 h2=>?_) λh=>?_
 ·rw[if_pos ⟨h1,h2⟩] at hQ
  walk_at "D";exact⟨Jo,by exact iW h1,by exact iS h2 rfl,ll rfl,hQ⟩
 rw[if_neg h] at hQ;walk_at "D";refine oL (λh1 h2=>?_) λh=>?_
 ·rw[if_pos ⟨h1,h2⟩] at hQ
  walk_at "D";exact⟨Jo,by exact iW h1,by exact iS h2 rfl,ll rfl,hQ⟩
 rw[if_neg h] at hQ;walk_at "D";refine br (λh=>?_) λh=>?_
 ·rw[if_pos h] at hQ
  exact⟨ll rfl,hQ⟩
 ·rw[if_neg h] at hQ
  exact hQ
theorem wK(hn:4<=n){c:Int}(hQ:Q (.bool (isUn c)) σ):CTK cx n 320 [.int c] σ Q X:=by
 refine ctl T (Og T) hn rfl rfl rfl ?_;rw[Ws] at hQ;walk_at "D";refine⟨ll rfl,kJ (l:= [69,80,167,173]) (br (λh=>?_) λh=>?_)⟩
 ·walk_at "D"
  rw[decide_eq_true h] at hQ;exact hQ
 rw[decide_eq_false h,Bool.false_or] at hQ;walk_at "D";refine⟨ll rfl,pG T (fu hn rfl) ?_⟩;rw[sH _ (vQ c 103 121 3),jR,Bool.not_not]
 induction h1:isV (kW c 103 121 3) with
 |true=>rw[h1] at hQ;exact hQ
 |false=>
  rw[h1] at hQ;refine Pd T (fu hn rfl) ?_;rw[sH _ (Nj c),jR,Bool.not_not];exact hQ
theorem Qd(hn:4<=n){c:Int}(hQ:Q (.bool (yR c)) σ):CTK cx n 327 [.int c] σ Q X:=by
 refine ctl T (Ce T) hn rfl rfl rfl ?_;walk_at "D";rw[Co] at hQ;refine⟨ll rfl,pG T (fu hn rfl) ?_⟩;rw[sH _ (vQ c 70 81 10),jR,Bool.not_not]
 induction h1:isV (kW c 70 81 10) with
 |true=>rw[h1] at hQ;exact hQ
 |false=>
  rw[h1] at hQ;walk_at "D";walk_at "D";refine⟨ll rfl,pG T (fu hn rfl) ?_⟩;rw[sH _ (vQ c 106 124 15),jR,Bool.not_not];exact hQ
theorem Qk(hn:2<=n){c:Int}(hQ:Q (Mh c) σ):CTK cx n 412 [.int c] σ Q X:=by
 refine ctl T (Fb T) hn rfl rfl rfl ?_;walk_at "N";refine Vv (.int (if 121<=c/\c<=138 then c-18 else c)) (λZ z=>?_) ?_
 ·walk_at "D"
  exact oL (λh1 h2=>zi_t z ⟨h1,h2⟩) λh=>zi_f z h
 unfold Mh at hQ;dsimp only at hQ;generalize(if 121<=c/\c<=138 then c-18 else c)=low at*
 walk_at "N";refine vY (low=106∨low=107∨(114<=low/\low<=120)) (λZ z=>?_) (λh=>?_) λh=>?_
 ·walk_at "D"
  refine⟨ll rfl,kJ (l:= [106,107]) (br (λh=>z_t z ?_) λh=>?_)⟩
  ·rcases aJ.mp h with h|h
   ·exact .inl h
   ·exact .inr (.inl (aK.mp h))
  ·have h1:low≠106:=λe=>h (e▸aE)
   have h2:low≠107:=λe=>h (e▸aH _ aE)
   refine br (λh3=>z_d z ⟨λq=>(q.resolve_left h1).resolve_left h2|>.2,λq=>.inr (.inr ⟨h3,q⟩)⟩) λh3=>z_f z λq=>h3 ((q.resolve_left h1).resolve_left h2).1
 ·walk_at "D"
  rw[if_pos h] at hQ;exact hQ
 rw[if_neg h] at hQ;walk_at "D";refine oL (λh1 h2=>?_) λh=>?_
 ·walk_at "D"
  rw[if_pos ⟨h1,h2⟩] at hQ;exact hQ
 rw[if_neg h] at hQ;walk_at "D";refine br (λh=>?_) λh=>?_
 ·rw[if_pos h] at hQ
  exact hQ
 ·rw[if_neg h] at hQ
  exact hQ
theorem Lp(hn:2<=n){c:Int}(hQ:Q (.tup [.int (widV c).1,.int (widV c).2]) σ):CTK cx n 433 [.int c] σ Q X:=by
 refine ctl T (Zd T) hn rfl rfl rfl ?_;walk_at "D";unfold widV at hQ;dsimp only at hQ;refine br (λh=>?_) λh=>?_
 ·rw[if_pos h] at hQ
  walk_at "D";exact⟨ll rfl,hQ⟩
 rw[if_neg h] at hQ;walk_at "D";refine⟨ll rfl,kJ (l:= [172,173]) (br (λh=>?_) λh=>?_)⟩
 ·rw[if_pos (by simpa using h)] at hQ
  walk_at "D";exact⟨ll rfl,hQ⟩
 rw[if_neg (by simpa using h)] at hQ
 walk_at "N";refine Vv (.int (if(80<=c/\c<=90)∨(121<=c/\c<=138)∨194<=c then 64 else 32)) (λZ z=>?_) ?_
 ·walk_at "D"
  have e:∀h:¬(80<=c/\c<=90),if decide (121<=c)=true then(if decide (c<=138)=true then Z (V.int 64) σ else if decide (194<=c)=true then Z (V.int 64) σ else Z (V.int 32) σ) else if decide (194<=c)=true then Z (V.int 64) σ else Z (V.int 32) σ:=λh=>
   have e2:∀h2:¬(121<=c/\c<=138),if decide (194<=c)=true then Z (V.int 64) σ else Z (V.int 32) σ:=λh2=>br (λq=>zi_t z (.inr (.inr q))) λq=>zi_f z λy=>y.elim h λy=>y.elim h2 q
   oL (λa b=>zi_t z (.inr (.inl ⟨a,b⟩))) e2
  exact oL (λa b=>zi_t z (.inl ⟨a,b⟩)) e
 generalize(if(80<=c/\c<=90)∨(121<=c/\c<=138)∨194<=c then(64:Int) else 32)=t at*
 walk_at "D";exact br (λq=>⟨ll rfl,by rw[if_pos q] at hQ;exact hQ⟩) λq=>⟨ll rfl,by rw[if_neg q] at hQ;exact hQ⟩
omit T in theorem fetch {l:List Addr} {k:Int} {f:Addr} {K:V->Prop} (h0:0<=k) (h1:k<l.length) (h2:fN l.length 20=true) (h3:l[k.toNat]?=some f) (hK:K (.raw (.ref f))):(l.map λa=>V.raw (.ref a)).length<=lim/\om (idx (l.map λa=>V.raw (.ref a)) k) K:=by
 have h4:l.length<=lim:=kE (aC (cD h2) (by decide))
 rw[aB,pD h0 (by rw[aB];exact h1) (by rw[aB];exact h4),bH,h3]
 exact⟨h4,hK⟩
theorem Ok(hn:12<=n){c u v:Int}{nm:Nm}{t p:Nat}(ho:opOf c=some (nm,t,p))(hs:nm.single=false)(hu:U64 u t)(hv:U64 v t)(hQ:∀r,p2 nm u v t=some r->Q (.int r) σ)(hX:p2 nm u v t=none->X σ):CTK cx n 341 [.int c,.int u,.int v] σ Q X:=by
 refine ctl T (El T) hn rfl rfl rfl ?_;walk_at "D";refine e12 (Wk ho hs) λf hf hc=>?_
 have fin:∀(bi:Int),bi=t->CTK cx (n-2) f [.int u,.int v,.int bi] σ (λv σ=>Q v σ) λσ=>X σ:=λbi hb=>c_bin T (fu hn rfl) hf hb (jY ho).1 hu hv hQ hX
 refine⟨ll rfl,pG T (fu hn rfl) ?_⟩;unfold kW;rcases hc with⟨a,b,d,e⟩|⟨a,b,d,e⟩|⟨a,b,d,e⟩|⟨a,b,d,e⟩
 ·refine rwM (if_pos ⟨a,b⟩) ?_
  walk_at "D";walk_at "D";refine⟨ll rfl,pZ (fetch (l:=yC) (by exact iW a) (show c-106<15 by exact Int.sub_lt_iff.mpr b) rfl e ⟨ll rfl,nI (fin 32 (by rw[d];rfl))⟩)⟩
 ·rw[if_neg (by exact nU a rfl)];refine rwM (if_pos ⟨a,b⟩) ?_
  walk_at "D";walk_at "D";refine⟨ll rfl,pZ (fetch (l:=yC) (by exact iW a) (show c-124<15 by exact Int.sub_lt_iff.mpr b) rfl e ⟨ll rfl,nI (fin 64 (by rw[d];rfl))⟩)⟩
 ·rw[if_neg (by exact nD b rfl),if_neg (by exact nD b rfl)]
  walk_at "D";walk_at "D";walk_at "D";refine⟨ll rfl,pG T (fu hn rfl) ?_⟩;unfold kW;refine rwM (if_pos ⟨a,b⟩) ?_;walk_at "D";walk_at "D";refine⟨ll rfl,pZ (fetch (l:=yY) (by exact iW a) (show c-70<10 by exact Int.sub_lt_iff.mpr b) rfl e ⟨ll rfl,nI (fin 32 (by rw[d];rfl))⟩)⟩
 ·rw[if_neg (by exact nD b rfl),if_neg (by exact nD b rfl)]
  walk_at "D";walk_at "D";walk_at "D";refine⟨ll rfl,pG T (fu hn rfl) ?_⟩;unfold kW;rw[if_neg (by exact nU a rfl)];refine rwM (if_pos ⟨a,b⟩) ?_
  walk_at "D";walk_at "D";refine⟨ll rfl,pZ (fetch (l:=yY) (by exact iW a) (show c-81<10 by exact Int.sub_lt_iff.mpr b) rfl e ⟨ll rfl,nI (fin 64 (by rw[d];rfl))⟩)⟩
theorem Dh(hn:12<=n){c u:Int}(h: [69,80,167,173].contains c=false)(hw:CTK cx (n-2) 306 [.int c,.int 103,.int 121,.int 3] σ (λv σ=>blk (CTK cx (n-2)) (iss [(.iff (.cmp (.loc 2) .IsNot (.val .none)) (iss [(.ret (.call (.sub (.val (.tup [(.raw (.ref 100)),(.raw (.ref 107)),(.raw (.ref 114))])) (.sub (.loc 2) (.val (.int 0)))) (ies [(.loc 1),(.sub (.loc 2) (.val (.int 1)))])))]) (iss [])),
 (.assign 3 (.call (.val (.raw (.ref 313))) (ies [(.loc 0)]))),
 (.iff (.cmp (.loc 3) .Is (.val .none)) (iss [.bad]) (iss [])),
 (.ret (.call (.val (.raw (.ref 86))) (ies [(.loc 1),(.sub (.loc 3) (.val (.int 0))),(.sub (.loc 3) (.val (.int 1)))])))]) [some (.int c),some (.int u),some v,none] σ (rq Q) λJ σ=>X σ) λσ=>X σ):CTK cx n 334 [.int c,.int u] σ Q X:=by
 have h:(c==69||(c==80||(c==167||(c==173||false))))=false:=h;simp only[Bool.or_eq_false_iff] at h;refine e05 h λh1 h2 h3 h4 z1z=>?_
 refine ctl T (pV T) hn rfl rfl rfl ?_;walk_at "D";rw[h1,h2];walk_at "D";walk_at "D";rw[h3];walk_at "D";walk_at "D";rw[h4];walk_at "D";walk_at "D";exact⟨ll rfl,hw⟩
theorem sY(hn:12<=n){c u:Int}(h: [69,80,167,173].contains c=false)(h5:kW c 103 121 3=.none){k t:Nat}(h6:nX c=.tup [.int k,.int t])(k0:fN 1 k=true)(k1:fN k 1000=true)(t1:fN t 1000=true)(hQ:Q (.int (sg (u % 2^k) k % 2^t)) σ):CTK cx n 334 [.int c,.int u] σ Q X:=by
 refine Dh T hn h (pG T (fu hn rfl) ?_);rw[h5];walk_at "D";walk_at "D";refine Pd T (fu hn rfl) ?_;rw[h6];walk_at "D";walk_at "D";exact⟨ll rfl,pZ ⟨ll rfl,nI (Nk T (fu hn rfl) rfl (cD k0) (cD k1) rfl (cD t1) hQ)⟩⟩
theorem yB(hn:12<=n){c u:Int}(h: [69,80,167,173].contains c=false){i:Int}{t:Nat}(h5:kW c 103 121 3=.tup [.int i,.int t]){f:Addr}(hi:0<=i)(hi3:i<3)(hf: [100,107,114][i.toNat]?=some f)(hQ:CTK cx (n-2) f [.int u,.int t] σ Q X):CTK cx n 334 [.int c,.int u] σ Q X:=by
 refine Dh T hn h (pG T (fu hn rfl) ?_);rw[h5];walk_at "D";walk_at "D";exact⟨ll rfl,pZ (fetch (l:= [100,107,114]) hi hi3 rfl hf ⟨ll rfl,nI hQ⟩)⟩
theorem Pk(hn:12<=n){c u:Int}{nm:Nm}{t p:Nat}(ho:opOf c=some (nm,t,p))(hs:nm.single=true)(hu:U64 u t)(hQ:Q (.int (p1 nm u t p)) σ):CTK cx n 334 [.int c,.int u] σ Q X:=by
 have hm:=zN ho hs;have ht:=(jY ho).1;simp only[zO,aJ,fB,or_false,Prod.mk.injEq] at hm;rcases hm with h|h|h|h|h|h|h|h|h|h|h|h|h|h|h|h
 all_goals (refine e04 h λz2z z3z z4z z5z=>?_;obtain rfl:=z2z;obtain rfl:=z3z;obtain rfl:=z4z;obtain rfl:=z5z)
 ·refine ctl T (pV T) hn rfl rfl rfl ?_;walk_at "D";walk_at "D";exact Pv T (fu hn rfl) hQ
 ·refine ctl T (pV T) hn rfl rfl rfl ?_;walk_at "D";walk_at "D";exact Pv T (fu hn rfl) hQ
 ·refine ctl T (pV T) hn rfl rfl rfl ?_;walk_at "D";walk_at "D";walk_at "D";exact kM T (b:=32) (fu hn rfl) rfl (nB rfl) hQ
 ·exact sY T hn (c:=172) rfl rfl (k:=32) (t:=64) rfl rfl rfl rfl hQ
 ·refine ctl T (pV T) hn rfl rfl rfl ?_;walk_at "D";walk_at "D";walk_at "D";walk_at "D";exact hQ
 ·exact sY T hn (c:=192) rfl rfl (k:=8) (t:=32) rfl rfl rfl rfl hQ
 ·exact sY T hn (c:=193) rfl rfl (k:=16) (t:=32) rfl rfl rfl rfl hQ
 ·exact sY T hn (c:=194) rfl rfl (k:=8) (t:=64) rfl rfl rfl rfl hQ
 ·exact sY T hn (c:=195) rfl rfl (k:=16) (t:=64) rfl rfl rfl rfl hQ
 ·exact sY T hn (c:=196) rfl rfl (k:=32) (t:=64) rfl rfl rfl rfl hQ
 ·exact yB T hn (c:=103) rfl (i:=0) (t:=32) rfl (f:=100) (by decide) (by decide) rfl (Sv T (fu hn rfl) rfl ht hu hQ)
 ·exact yB T hn (c:=104) rfl (i:=1) (t:=32) rfl (f:=107) (by decide) (by decide) rfl (Rv T (fu hn rfl) rfl ht hu hQ)
 ·exact yB T hn (c:=105) rfl (i:=2) (t:=32) rfl (f:=114) (by decide) (by decide) rfl (Nd T (fu hn rfl) hu hQ)
 ·exact yB T hn (c:=121) rfl (i:=0) (t:=64) rfl (f:=100) (by decide) (by decide) rfl (Sv T (fu hn rfl) rfl ht hu hQ)
 ·exact yB T hn (c:=122) rfl (i:=1) (t:=64) rfl (f:=107) (by decide) (by decide) rfl (Rv T (fu hn rfl) rfl ht hu hQ)
 ·exact yB T hn (c:=123) rfl (i:=2) (t:=64) rfl (f:=114) (by decide) (by decide) rfl (Nd T (fu hn rfl) hu hQ)
end
theorem yW{src:Src}{B:CB}{K:List V->H->Prop}{vs rs:List V}{σ:H}(hs:∀i,mC src i σ=some vs[i]?)(hz:lZ src σ=vs.length)(hlen:rs.length=vs.length)
 (hB:∀i v r,vs[i]?=some v->rs[i]?=some r->∀W:List V->H->Prop,W (rs.take i++ [r]) σ->B v σ (rs.take i) W)(hK:K rs σ):mU src B K [] σ:=by
 unfold mU;rw[hz];refine pC (vs:=vs) (λi acc σ'=>σ'=σ/\acc=rs.take i) (λi acc σ' h=>h.1▸hs i) (λacc σ' h=>?_) (λi acc σ' v h e W hW=>?_) _ 0 [] σ ⟨rfl,rfl⟩ (aP _) (cB _)
 ·rw[h.1,h.2,←hlen,List.take_length];exact hK
 ·have hi:i<rs.length:=hlen▸(aT.mp e).1
  have hr:rs[i]?=some rs[i]:=bI hi;rw[h.1,h.2];refine hB i v _ e hr W (hW _ _ ⟨rfl,?_⟩);rw[gY,hr];rfl
theorem jS{σ:H}{l:List V}{Q:QV}(hz:l.length<=lim)(h:∀c,σ c=none->Q (.obj c) (upd σ c (.list l))):newL σ l Q:=⟨hz,h⟩
set_option backward.match.sparseCases true in
theorem kC{σ:H}{Q:QV}{a:Addr}{l:List V}{k:Int}{v:V}(h:σ a=some (.list l))(hz:l.length<=lim)(hi:idx l k=some v):subW (.obj a) (.int k) σ Q=Q v σ:=by
 show(match σ a with|some (.list l)=>_|some (.ro l)=>_|some (.nd es)=>_|_=>False)=_
 rw[h];show(_/\om (idx l k) λv=>Q v σ)=_
 rw[hi];exact propext ⟨λz=>z.2,λz=>⟨hz,z⟩⟩
noncomputable def nn:V->List V
 |.none=> [] |v=> [v]
noncomputable def tupO(op:Op):V:=.tup (op.map V.int)
noncomputable def P3(σ:H)(a:Addr)(op:Op)(f g:V):Prop:=∃d,σ a=some (.inst jV d)/\σ d=some (.sd (kD (tupO op) f g))
noncomputable def Ext(σ σ':H):Prop:=∀b o,σ b=some o->σ' b=some o
theorem Ext.refl(σ:H):Ext σ σ:=λJ J h=>h
theorem Ext.trans{σ σ₁ σ₂:H}(x:Ext σ σ₁)(y:Ext σ₁ σ₂):Ext σ σ₂:=λb o h=>y b o (x b o h)
theorem Ext.upd{σ:H}{c:Addr}{o:O}(h:σ c=none):Ext σ (upd σ c o):=λb o' e=>by
 rw[jQ _ _ (λq=>by rw[q,h] at e;injection e)];exact e
theorem Ext.ne{σ σ':H}(x:Ext σ σ'){b:Addr}(h:σ' b=none):σ b=none:=by
 induction q:σ b with
 |none=>rfl |some o=>exact by have h:=(x b o q).symm.trans h;contradiction
theorem Wn{x:Str}{v:V}{r:List (Str×V)}:((x,v)::r).lookup x=some v:=by rw[bR,beq_self_eq_true]
theorem Vn{x y:Str}{v:V}{r:List (Str×V)}(h:(x==y)=false):((y,v)::r).lookup x=r.lookup x:=by rw[bR,h]
theorem Cn(p f g:V):(kD p f g).lookup At.plain.str=some p:=Wn
theorem Dn(p f g:V):(kD p f g).lookup At.first.str=some f:=(Vn (by decide)).trans Wn
theorem yH(p f g:V):(kD p f g).lookup At.second.str=some g:=(Vn (by decide)).trans ((Vn (by decide)).trans Wn)
section
variable{σ:H}{Q:QV}{a:Addr}{op:Op}{f g:V}
theorem Ig{x:At}{v:V}(h:P3 σ a op f g)(hl:(kD (tupO op) f g).lookup x.str=some v)(hf:oD v=true)(hQ:Q v σ):sP (.obj a) x σ Q:=by
 refine e12 h λd h1 h2=>?_
 rw[Xw,h1,uF,jR];refine⟨rfl,?_⟩;rw[h2,qG,jR,hl];exact⟨hf,hQ⟩
theorem pU(h:P3 σ a op f g)(hQ:Q (tupO op) σ):sP (.obj a) .plain σ Q:=Ig h (Cn ..) rfl hQ
theorem oE(h:P3 σ a op f g)(hf:oD f=true)(hQ:Q f σ):sP (.obj a) .first σ Q:=Ig h (Dn ..) hf hQ
theorem oU(h:P3 σ a op f g)(hf:oD g=true)(hQ:Q g σ):sP (.obj a) .second σ Q:=Ig h (yH ..) hf hQ
theorem Hh{C:mJ}{fn:Addr}{X:XH}(h:P3 σ a op f g)(hC:C fn [.obj a] σ Q X):ownW C (.obj a) fn σ Q X:=by
 refine e12 h λd h1 h2=>?_
 rw[Dy,h1,uF,jR];refine⟨rfl,?_⟩;rw[h2,qG,jR];exact⟨rfl,hC⟩
theorem Cv{fn:Addr}(h:P3 σ a op f g):preM (.obj a) (.call fn) σ:=by
 rw[Qr];exact Hh h trivial
end
section
variable{cx:Cx}(T:Prog cx){n:Nat}{σ:H}{Q:QV}{X:XH}{a:Addr}{op:Op}{f g:V}
include T
theorem c_code(hn:2<=n)(h:P3 σ a op f g)(h0:op≠ [])(hz:op.length<=1000)(hQ:Q (.int (code op)) σ):CTK cx n 363 [.obj a] σ Q X:=by
 refine ctl T (F_code T) hn rfl rfl rfl ?_;walk_at "D";refine pU h ?_
 induction op using List.casesOn with
 |nil=>exact absurd rfl h0 |cons c r=>exact⟨by rw[aB];exact kE hz,by rw[aZ,ix0];exact hQ⟩
theorem nQ(hn:2<=n)(h:P3 σ a op f g)(h0:op≠ [])(hz:op.length<=1000)(hQ:Q (.int (code op)) σ):ownW (CTK cx n) (.obj a) 363 σ (λv σ=>oD v=true/\Q v σ) λJ=>False:=
 Hh h (c_code T hn h h0 hz ⟨rfl,hQ⟩)
theorem xK(hn:4<=n)(h:P3 σ a op f g)(h0:op≠ [])(hz:op.length<=1000)(hs:code op=65∨code op=66->∃c n,op= [c,n])(hQ:Q (optV (cstO op)) σ):CTK cx n 419 [.obj a] σ Q X:=by
 refine ctl T (xQ T) hn rfl rfl rfl ?_;walk_at "D";refine⟨rfl,nQ T (fu hn rfl) h h0 hz ⟨kE (by decide),kJ (l:= [65,66]) (br (λhc=>?_) λhc=>?_)⟩⟩
 ·have hc:code op=65∨code op=66:=(aJ.mp hc).imp id aK.mp
  refine e21 (hs hc) λc k e=>?_
  subst e;walk_at "D";refine pU h ?_;have e:cstO [c,k]=some k:=if_pos hc;rw[e] at hQ;exact⟨ll rfl,hQ⟩
 ·have e:cstO op=none:=by
   induction op using List.casesOn with
   |nil=>rfl |cons c r=>induction r using List.casesOn with
    |nil=>rfl |cons k r=>induction r using List.casesOn with
     |nil=>exact if_neg λz=>hc (z.elim (λe=>e▸aE) λe=>e▸ .tail _ (.head _)) |cons=>rfl
  rw[e] at hQ;walk_at "D";walk_at "D";exact hQ
theorem wL(hn:6<=n){v bi:Int}{p:Nat}(hb:bi=p)(hp:p=32∨p=64)(hQ:qU σ (tupO (kO p (sg v p))) .none .none Q):CTK cx n 426 [.int bi,.int v] σ Q X:=by
 subst hb;refine ctl T (Qg T) hn rfl rfl rfl ?_;walk_at "D"
 have key:∀k:Int,V.tup [.int k,.int (sg v p)]=tupO (kO p (sg v p))->CTK cx (n-2) 72 [.int v,.int p] σ (λv σ=>2<=lim/\CTK cx (n-2) 379 [.tup [.int k,v]] σ (λv σ=>Q v σ) λσ=>X σ) λσ=>X σ:=λk hk=>by
  refine mV T (fu hn rfl) rfl (by exact t0 hp) (by exact Ob hp) ⟨kE (by decide),Ea T (by decide),?_⟩
  rw[hk];exact(Bn T (n:=n-5) hQ).more (by lia)
 refine br (λh=>key 65 ?_) λh=>key 66 ?_
 ·induction hp with
  |inl e=>subst e;rfl
  |inr e=>subst e;exact absurd h (by decide)
 ·induction hp with
  |inl e=>subst e;exact absurd rfl h
  |inr e=>subst e;rfl
theorem Zt(hn:2<=n)(h:P3 σ a op f g)(hf:oD f=true)(hg:oD g=true)(hf':f=.none∨∃b,f=.obj b)(hg':g=.none∨∃b,g=.obj b)(hQ:newL σ (nn f++nn g) Q):CTK cx n 369 [.obj a] σ Q X:=by
 refine ctl T (Qu T) hn rfl rfl rfl ?_;walk_at "D";refine⟨rfl,oE h hf (oU h hg ⟨kE (by decide),kE (by decide),?_⟩)⟩
 have two:∀r,r<=1->r+1<=lim:=λr h=>kE (aC (aY h) (by decide))
 rcases hf' with rfl|⟨b,rfl⟩<;>rcases hg' with rfl|⟨b',rfl⟩
 ·exact hQ
 ·exact⟨two 0 (by decide),hQ⟩
 ·exact⟨two 0 (by decide),hQ⟩
 ·exact⟨two 0 (by decide),two 1 (by decide),hQ⟩
theorem Rp(hn:4<=n){k:Int}{ls:List Int}(h:P3 σ a (k::ls) f g)(hk:k=12∨k=13∨k=14)(hz:ls.length<=100)(hl:ls≠ [])(hQ:Q (tupO ls) σ):CTK cx n 376 [.obj a] σ Q X:=by
 refine ctl T (Oq T) hn rfl rfl rfl ?_;walk_at "D";have hm:k∈([12,13,14]:List Int):=by rcases hk with rfl|rfl|rfl<;>decide
 refine⟨rfl,nQ T (fu hn rfl) h (λe=>by contradiction) (aY (aC hz (by decide))) ⟨kE (by decide),kJ (l:= [12,13,14]) (br (λJ=>?_) λhc=>absurd hm hc)⟩⟩
 walk_at "D";refine pU h ?_;have hp:1<=ls.length:=fA.mpr hl;exact⟨⟨by rw[aB];exact kE (aY (aC hz (by decide))),by decide,by rw[aB,List.length_cons];exact fZ.mpr (aY (aP _))⟩,hQ⟩
theorem wJ(hn:16<=n){c:Int}{nm:Nm}{t p:Nat}{l:Addr}{xs:List Int}(ho:opOf c=some (nm,t,p))(hl:σ l=some (.list (xs.map V.int)))(r:Option Int)
 (hr:(nm.single=true/\∃x,xs= [x]/\InS x t/\r=some (lr1 nm x t p))∨(nm.single=false/\∃x y,xs= [x,y]/\InS x t/\InS y t/\r=lr2 nm x y t p))
 (h0:r=none->∀σ',Ext σ σ'->Q .none σ')(h1:∀v,r=some v->∀σ',Ext σ σ'->qU σ' (tupO (kO p v)) .none .none Q):CTK cx n 438 [.int c,.obj l] σ Q X:=by
 refine ctl T (Mg T) hn rfl rfl rfl ?_;walk_at "D";refine Lp T (fu hn rfl) ?_;rw[Tw ho]
 have hxs:xs.length<=2:=by
  rcases hr with⟨_,x,e,_⟩|⟨_,x,y,e,_⟩<;>(rw[e];exact nB rfl)
 have l2:∀{k},k<=xs.length->k+1<=lim:=λh=>kE (aC (aY (aC h hxs)) (by decide))
 have e1:(xs.map V.int).length=xs.length:=aB ..;have hz:(xs.map V.int).length<=lim:=e1▸dE (l2 (aR _));have ht:=(jY ho).1;have hp:=(jY ho).2.1;refine⟨rfl,?_⟩;walk_at "D";walk_at "D";rw[hl,jW,jR];refine⟨rfl,yW (vs:=xs.map V.int) (rs:=xs.map λx=>V.int (x % 2^t)) (λi=>mO hl hz i) (mK hl) (by rw[aB,aB]) (λi v r hv hr W hW=>?_) ?_⟩
 ·rw[bH] at hv hr
  refine mapS hv λx hx e=>?_
  subst e;rw[hx] at hr;injection hr with qz;subst qz
  refine kM T (fu hn rfl) rfl (by exact Ob ht) ⟨?_,hW⟩
  rw[eF,aB];exact l2 (Nat.min_le_right _ _)
 ·refine jS (by rw[aB];exact dE (l2 (aR _))) λb hb=>?_
  have ext:Ext σ (upd σ b (.list (xs.map λx=>V.int (x % 2^t)))):=.upd hb
  walk_at "D";walk_at "D";rw[jP,kA,jR];refine⟨by rw[aB];exact dE (l2 (aR _)),?_⟩
  rcases hr with⟨hs,x,e,hx,e'⟩|⟨hs,x,y,e,hx,hy,e'⟩
  ·subst e
   subst e';walk_at "D";refine iT ?_;refine hU (kC (jP ..) (ll rfl) (ix0 _ _)) (Pk T (fu hn rfl) ho hs (kI x t) ?_);walk_at "D";walk_at "D";refine wL T (fu hn rfl) rfl hp ?_;rw[pr1 ho hs hx];exact h1 _ rfl _ ext
  ·subst e
   walk_at "D";refine iF ?_;refine hU (kC (jP ..) (ll rfl) (ix0 _ _)) (hU (kC (jP ..) (ll rfl) (ix1 _ _ _)) ?_);have hval:=pr2 ho hs hx hy;refine Ok T (fu hn rfl) ho hs (kI x t) (kI y t) (λr hr=>?_) λhn=>?_
   ·walk_at "D"
    walk_at "D";refine wL T (fu hn rfl) rfl hp ?_;rw[hr] at hval;exact h1 _ (e'.trans hval.symm) _ ext
   ·rw[hn] at hval
    exact h0 (e'.trans hval.symm) _ ext
end
inductive A where
 |leaf (a d:Addr) (op:Op)
 |blk (a d l:Addr) (op:Op) (f:List A)
 |ife (a d l m:Addr) (op:Op) (f s:List A)
noncomputable def A.ad:A->Addr
 |.leaf a _ _=>a |.blk a _ _ _ _=>a |.ife a _ _ _ _ _ _=>a
noncomputable def ob(x:A):V:=.obj x.ad
mutual
noncomputable def A.er:A->T
 |.leaf _ _ op=>.leaf op |.blk _ _ _ op f=>.blk op (ers f) |.ife _ _ _ _ op f s=>.ife op (ers f) (ers s)
noncomputable def ers:List A->List T
 | []=> [] |x::r=>x.er::ers r
end
mutual
noncomputable def A.fp:A->List Addr
 |.leaf a d _=> [a,d] |.blk a d l _ f=>a::d::l::fps f |.ife a d l m _ f s=>a::d::l::m::(fps f++fps s)
noncomputable def fps:List A->List Addr
 | []=> [] |x::r=>x.fp++fps r
end
mutual
noncomputable def A.hold(σ:H):A->Prop
 |.leaf a d op=>σ a=some (.inst jV d)/\σ d=some (.sd (kD (tupO op) .none .none)) |.blk a d l op f=>(σ a=some (.inst jV d)/\σ d=some (.sd (kD (tupO op) (.obj l) .none)))/\σ l=some (.list (f.map ob))/\holds σ f |.ife a d l m op f s=>(σ a=some (.inst jV d)/\σ d=some (.sd (kD (tupO op) (.obj l) (.obj m))))/\(σ l=some (.list (f.map ob))/\holds σ f)/\σ m=some (.list (s.map ob))/\holds σ s
noncomputable def holds(σ:H):List A->Prop
 | []=>True |x::r=>x.hold σ/\holds σ r
end
theorem mS(l:List A):ers l=l.map A.er:=by
 induction l with
 |nil=>rfl |cons x r ih=>rw[ers,ih];rfl
theorem mF(a b:List A):ers (a++b)=ers a++ers b:=by rw[mS,mS,mS,bJ]
theorem Cd(a:List A):ers a.reverse=(ers a).reverse:=by rw[mS,mS,List.map_reverse]
theorem Ap(n:Nat)(a:List A):ers (a.drop n)=(ers a).drop n:=by rw[mS,mS,iR]
theorem lQ(a b:List A):fps (a++b)=fps a++fps b:=by
 induction a with
 |nil=>rfl |cons x r ih=>rw[List.cons_append,fps,fps,ih,aS]
theorem mQ{σ:H}{a b:List A}:holds σ (a++b)↔holds σ a/\holds σ b:=by
 induction a with
 |nil=>exact⟨λh=>⟨trivial,h⟩,λh=>h.2⟩ |cons x r ih=>exact⟨λh=>⟨⟨h.1,(ih.mp h.2).1⟩,(ih.mp h.2).2⟩,λh=>⟨h.1.1,ih.mpr ⟨h.1.2,h.2⟩⟩⟩
theorem xB{σ:H}{a:List A}:holds σ a.reverse↔holds σ a:=by
 induction a with
 |nil=>exact Iff.rfl |cons x r ih=>
  rw[bQ,mQ,ih];exact⟨λh=>⟨h.2.1,h.1⟩,λh=>⟨h.2,h.1,trivial⟩⟩
theorem qZ(x:A):fps [x]=x.fp:=bY _
theorem mA{b:Addr}{a:List A}:b∈fps a.reverse↔b∈fps a:=by
 induction a with
 |nil=>exact Iff.rfl |cons x r ih=>
  rw[bQ,lQ,qZ,fps,bB,bB,ih];exact or_comm
theorem sD{a:List A}:(fps a.reverse).Nodup↔(fps a).Nodup:=by
 induction a with
 |nil=>exact Iff.rfl |cons x r ih=>
  rw[bQ,lQ,qZ,fps,bX,bX,ih];exact⟨λh=>⟨h.2.1,h.1,λa ha b hb e=>h.2.2 b (mA.mpr hb) a ha e.symm⟩,λh=>⟨h.2.1,h.1,λa ha b hb e=>h.2.2 b hb a (mA.mp ha) e.symm⟩⟩
mutual
theorem A.hold.frame{σ σ':H}:∀{x:A},x.hold σ->(∀b∈x.fp,σ' b=σ b)->x.hold σ'
 |.leaf a d op,h,e=>by
  exact⟨(e a (.head _)).trans h.1,(e d (.tail _ (.head _))).trans h.2⟩
 |.blk a d l op f,h,e=>by
  exact⟨⟨(e a (.head _)).trans h.1.1,(e d (.tail _ (.head _))).trans h.1.2⟩,(e l (.tail _ (.tail _ (.head _)))).trans h.2.1,holds.frame h.2.2 λb hb=>e b (.tail _ (.tail _ (.tail _ hb)))⟩
 |.ife a d l m op f s,h,e=>by
  exact⟨⟨(e a (.head _)).trans h.1.1,(e d (.tail _ (.head _))).trans h.1.2⟩,⟨(e l (.tail _ (.tail _ (.head _)))).trans h.2.1.1,holds.frame h.2.1.2 λb hb=>e b (.tail _ (.tail _ (.tail _ (.tail _ (aU _ hb)))))⟩,
   (e m (.tail _ (.tail _ (.tail _ (.head _))))).trans h.2.2.1,holds.frame h.2.2.2 λb hb=>e b (.tail _ (.tail _ (.tail _ (.tail _ (bE _ hb)))))⟩
theorem holds.frame{σ σ':H}:∀{l:List A},holds σ l->(∀b∈fps l,σ' b=σ b)->holds σ' l
 | [],_,_=>trivial |x::r,h,e=>⟨A.hold.frame h.1 λb hb=>e b (aU _ hb),holds.frame h.2 λb hb=>e b (bE _ hb)⟩
end
theorem lv{σ:H}{a:Addr}{o:O}(h:σ a=some o):σ a≠none:=λe=>by have h:=h.symm.trans e;contradiction
theorem all_cons{a:Addr}{l:List Addr}{P:Addr->Prop}(h:P a)(k:∀b∈l,P b):∀b∈a::l,P b:=λb hb=>(aJ.mp hb).elim (λe=>e▸h) (k b)
theorem uY{l m:List Addr}{P:Addr->Prop}(h:∀b∈l,P b)(k:∀b∈m,P b):∀b∈l++m,P b:=λb hb=>(bB.mp hb).elim (h b) (k b)
mutual
theorem A.hold.live{σ:H}:∀{x:A},x.hold σ->∀b∈x.fp,σ b≠none
 |.leaf a d op,h=>by
  exact all_cons (lv h.1) (all_cons (lv h.2) λJ h=>by contradiction)
 |.blk a d l op f,h=>by
  exact all_cons (lv h.1.1) (all_cons (lv h.1.2) (all_cons (lv h.2.1) (holds.live h.2.2)))
 |.ife a d l m op f s,h=>by
  exact all_cons (lv h.1.1) (all_cons (lv h.1.2) (all_cons (lv h.2.1.1) (all_cons (lv h.2.2.1) (uY (holds.live h.2.1.2) (holds.live h.2.2.2)))))
theorem holds.live{σ:H}:∀{l:List A},holds σ l->∀b∈fps l,σ b≠none
 | [],_=>λJ h=>by contradiction
 |x::r,h=>uY (A.hold.live h.1) (holds.live h.2)
end
theorem Ext.eq{σ σ':H}(x:Ext σ σ'){b:Addr}(h:σ b≠none):σ' b=σ b:=by
 induction q:σ b with
 |none=>exact absurd q h |some o=>exact x b o q
theorem holds.ext{σ σ':H}{l:List A}(h:holds σ l)(x:Ext σ σ'):holds σ' l:=h.frame λb hb=>x.eq (h.live b hb)
noncomputable def A.fst:A->V
 |.leaf .. =>.none |.blk _ _ l _ _=>.obj l |.ife _ _ l _ _ _ _=>.obj l
noncomputable def A.snd:A->V
 |.leaf .. =>.none |.blk .. =>.none |.ife _ _ _ m _ _ _=>.obj m
theorem A.hold.p3{σ:H}{x:A}(h:x.hold σ):P3 σ x.ad x.er.plain x.fst x.snd:=by
 induction x using A.casesOn with
 |leaf a d op=>exact⟨d,h⟩ |blk a d l op f=>exact⟨d,h.1⟩ |ife a d l m op f s=>exact⟨d,h.1⟩
theorem A.fst_ok(x:A):oD x.fst=true/\(x.fst=.none∨∃b,x.fst=.obj b):=by induction x using A.casesOn<;>exact⟨rfl,by first|exact .inl rfl|exact .inr ⟨_,rfl⟩⟩
theorem A.snd_ok(x:A):oD x.snd=true/\(x.snd=.none∨∃b,x.snd=.obj b):=by induction x using A.casesOn<;>exact⟨rfl,by first|exact .inl rfl|exact .inr ⟨_,rfl⟩⟩
structure Gd(t:T):Prop where
 ne:t.plain≠ []
 len:t.plain.length<=4
 cs:code t.plain=65∨code t.plain=66->∃c n,t.plain= [c,n]
 cst:cstO t.plain=t.cst
 put:putO t.plain=t.put
theorem no65{c:Int}{P:Prop}(h:(c==65||c==66)=false)(hc:c=65∨c=66):P:=by
 rcases hc with rfl|rfl<;>exact by contradiction
theorem Os{op:Op}{S S':List Int}(h:St1 op S S')(hc:code op=65∨code op=66):∃c n,op= [c,n]:=
 pW (P:=isC) h (decide_eq_true hc) (λop J J=>∃c n,op= [c,n]) (λo z=>rN z o (by decide+kernel)) (λz=>by contradiction) (λz=>by contradiction) (λJ J m z=>oJ z m (by decide)) (λJ v hv=>⟨_,_,rfl⟩) (λJ v hv=>⟨_,_,rfl⟩) (λJ J z m=>oJ z m (by decide)) (λz=>by contradiction) (λz=>by contradiction)
theorem ty_gd{t:T}{S S':List Int}(h:Ty t S S'):Gd t:=by
 cases h with
 |leaf h=>exact⟨(qW h).1,(qW h).2.2,Os h,rfl,rfl⟩ |blk h z=>
  rcases h with e|e
  ·subst e;exact⟨(λe=>by contradiction),nB rfl,no65 rfl,rfl,rfl⟩
  ·subst e;exact⟨(λe=>by contradiction),nB rfl,no65 rfl,rfl,rfl⟩
 |if1 h z=>exact⟨(λe=>by contradiction),nB rfl,no65 rfl,rfl,rfl⟩
 |ife h z z'=>exact⟨(λe=>by contradiction),nB rfl,no65 rfl,rfl,rfl⟩
theorem Kx{l:List T}:∀{S:List Int},RTy l S->∀t∈l,Gd t:=by
 induction l with
 |nil=>exact λJ J h=>by contradiction
 |cons x r ih=>
  intro S h t ht;refine e12 h λS' h hx=>?_
  exact(aJ.mp ht).elim (λe=>e▸ty_gd hx) (ih h t)
theorem wH{len k:Nat}(hk:0<k)(hz:k<=1000000)(d:Nat):clip d len (.int (-(k:Int)))=some (len-k):=by
 have:(2:Int)^62=4611686018427387904:=by decide
 refine(if_pos ⟨by lia,by lia⟩).trans (congrArg some ?_)
 rw[if_pos (by lia),tn2 k len]
 exact cL (Nat.sub_le _ _)
theorem Gp{α:Type}{xs:List α}{x:α}(_:xs.length+1<=lim):cut (xs++ [x]) .none (.int (-1))=some xs:=by
 show(clip _ _ _).bind (λi=>(clip _ _ (.int (-((1:Nat):Int)))).map _)=_
 rw[wH (by decide) (by decide)]
 show some _=_;rw[aD];exact congrArg some List.take_left
theorem Fp{α:Type}{xs:List α}{k:Nat}(hk:0<k)(hz:k<=1000000)(_:xs.length<=lim):cut xs (.int (-(k:Int))) .none=some (xs.drop (xs.length-k)):=by
 unfold cut;rw[wH hk hz];exact congrArg some (dH (cZ (fX ..)))
theorem Jf{α:Type}{xs m:List α}{k:Nat}(hk:0<k)(hz:k<=1000000):rZ xs (.int (-(k:Int))) .none m=some (xs.take (xs.length-k)++m):=by
 unfold rZ;rw[wH hk hz];refine congrArg some ?_;show _++List.drop (max (xs.length-k) xs.length) xs=_;rw[iK (Nat.sub_le _ _),List.drop_length,bY]
theorem Lj{α:Type}{xs m:List α}:rZ xs .none .none m=some m:=by
 refine congrArg some ?_;show List.take 0 xs++m++List.drop (max 0 xs.length) xs=m;rw[iK (aP _),List.drop_length,bY];rfl
theorem vG{σ:H}{K:H->Prop}{fd b:Addr}{acc news:List A}{k:Nat}(hfd:σ fd=some (.list (acc.reverse.map ob)))(hb:σ b=some (.list (news.reverse.map ob)))(hne:fd≠b)(hk:0<k)(hkz:k<=1000)(h1:acc.length<=100000)(h2:news.length<=100000)
 (hK:K (upd σ fd (.list ((news++acc.drop k).reverse.map ob)))):mM (.obj fd) (.int (-(k:Int))) .none (.obj b) σ K:=by
 have len:∀l:List A,(l.reverse.map ob).length=l.length:=λl=>(aB ..).trans aW
 rw[Ol,hfd,hb,jW,jR,jW,jR];refine⟨hne,⟨len acc▸aC h1 (by decide),len news▸aC h2 (by decide)⟩,?_⟩
 rw[Jf hk (aC hkz (by decide)),jR]
 have e:List.take ((acc.reverse.map ob).length-k) (acc.reverse.map ob)++news.reverse.map ob=(news++acc.drop k).reverse.map ob:=by
  rw[aB,aW,←List.map_take,←List.reverse_drop,dX,bJ]
 rw[e];refine⟨?_,hK⟩;rw[len,aD];exact aC (cQ h2 (aC (by rw[fX];exact Nat.sub_le _ _) h1)) (by decide)
structure Step(σ σ':H)(fd:Addr)(acc acc':List A):Prop where
 lst:σ' fd=some (.list (acc'.reverse.map ob))
 hold:holds σ' acc'
 fr:∀b,σ b≠none->b≠fd->σ' b=σ b
 new:∀b∈fps acc',b∈fps acc∨σ b=none
 nodup:(fd::fps acc').Nodup
theorem zM{σ σ₁:H}{fd:Addr}{acc news:List A}{k:Nat}(x:Ext σ σ₁)(hfd:σ fd=some (.list (acc.reverse.map ob)))(hh:holds σ acc)(hnd:(fd::fps acc).Nodup)(hn:holds σ₁ news)
 (hnew:∀b∈fps news,b∈fps (acc.take k)∨σ b=none)(hnn:(fps news).Nodup):Step σ (upd σ₁ fd (.list ((news++acc.drop k).reverse.map ob))) fd acc (news++acc.drop k):=by
 have hsplit:fps acc=fps (acc.take k)++fps (acc.drop k):=by rw[←lQ,cW]
 have hd:holds σ (acc.drop k):=(mQ.mp ((cW k acc).symm▸hh)).2;rw[hsplit] at hnd;have nd:=aL.mp hnd;have nd2:=bX.mp nd.2;have nfd:fd∉fps news:=λh=>(hnew fd h).elim (λh=>nd.1 (aU _ h)) (lv hfd)
 have nfr:fd∉fps (acc.drop k):=λh=>nd.1 (bE _ h)
 refine⟨jP ..,mQ.mpr ⟨hn.frame λb hb=>jQ _ _ λe=>nfd (e▸hb),(hd.ext x).frame λb hb=>jQ _ _ λe=>nfr (e▸hb)⟩,λb hb hne=>(jQ _ _ hne).trans (x.eq hb),?_,?_⟩
 ·rw[lQ,hsplit]
  exact λb hb=>(bB.mp hb).elim (λh=>(hnew b h).imp (aU _) id) λh=>.inl (bE _ h)
 ·rw[lQ,aL,bX]
  exact⟨λh=>(bB.mp h).elim nfd nfr,hnn,nd2.2.1,λa ha b hb e=>(hnew a ha).elim (λh=>nd2.2.2 a h b hb e) (hd.live a (e▸hb))⟩
theorem zX{acc:List A}(x:A):((x::acc).reverse.map ob)=acc.reverse.map ob++ [ob x]:=by simp
theorem sJ{α:Type}{xs:List α}{x:α}(hz:xs.length+1<=lim):idx (xs++ [x]) (-1)=some x:=by
 rw[qX (by decide) (by simp;exact ka _ _) (by simpa using hz)]
 have:((-1:Int)+((xs++ [x]).length:Int)).toNat=xs.length:=by simp;exact kb _ _
 rw[this];simp
theorem Yj{α:Type}{xs:List α}{x y:α}(hz:xs.length+2<=lim):idx (xs++ [y,x]) (-2)=some y:=by
 rw[qX (by decide) (by simp;exact ka _ _) (by simpa using hz)]
 have:((-2:Int)+((xs++ [y,x]).length:Int)).toNat=xs.length:=by simp;exact kb _ _
 rw[this];simp
theorem Xj{α:Type}{xs:List α}{x y z:α}(hz:xs.length+3<=lim):idx (xs++ [z,y,x]) (-3)=some z:=by
 rw[qX (by decide) (by simp;exact ka _ _) (by simpa using hz)]
 have:((-3:Int)+((xs++ [z,y,x]).length:Int)).toNat=xs.length:=by simp;exact kb _ _
 rw[this];simp
structure Fnd(σ:H)(fd:Addr)(acc:List A):Prop where
 lst:σ fd=some (.list (acc.reverse.map ob))
 hold:holds σ acc
 nodup:(fd::fps acc).Nodup
 len:acc.length<=1000
 gd:∀t∈ers acc,Gd t
theorem Fnd.ext{σ σ':H}{fd:Addr}{acc:List A}(h:Fnd σ fd acc)(x:Ext σ σ'):Fnd σ' fd acc:=⟨x _ _ h.lst,h.hold.ext x,h.nodup,h.len,h.gd⟩
theorem Fnd.top{σ:H}{fd:Addr}{t:A}{acc:List A}(h:Fnd σ fd (t::acc)):P3 σ t.ad t.er.plain t.fst t.snd/\Gd t.er:=⟨A.hold.p3 h.hold.1,h.gd _ (by rw[ers];exact aE)⟩
theorem Fnd.tl{σ:H}{fd:Addr}{t:A}{acc:List A}(h:Fnd σ fd (t::acc))(hh:holds σ acc):∀x∈acc,P3 σ x.ad x.er.plain x.fst x.snd/\Gd x.er:=λx hx=>by
 refine⟨A.hold.p3 ?_,h.gd _ (by rw[ers];exact aH _ (by rw[mS];exact eZ hx))⟩
 clear h
 induction acc with
 |nil=>cases hx |cons y r ih=>
  rcases aJ.mp hx with rfl|hx
  ·exact hh.1
  ·exact ih hh.2 hx
section
variable{cx:Cx}(T:Prog cx){n:Nat}{σ:H}{Q:QV}{X:XH}{fd:Addr}
include T
omit T in
theorem rT{t:A}{acc:List A}(h:Fnd σ fd (t::acc)):subW (.obj fd) (.int (-1)) σ Q=Q (ob t) σ:=by
 have hz:=h.len;rw[List.length_cons] at hz;refine kC h.lst (by simp[lim];exact nT (Nat.le_of_add_right_le hz) rfl) ?_
 rw[zX];exact sJ (by simp[lim];exact nT (Nat.le_of_add_right_le hz) rfl)
omit T in
theorem Bm{t p:A}{acc:List A}(h:Fnd σ fd (t::p::acc)):subW (.obj fd) (.int (-2)) σ Q=Q (ob p) σ:=by
 have hz:=h.len;simp only[List.length_cons] at hz;refine kC h.lst (by simp[lim];lia) ?_
 rw[show((t::p::acc).reverse.map ob)=acc.reverse.map ob++ [ob p,ob t] by simp];exact Yj (by simp[lim];lia)
omit T in
theorem Pb{t p q:A}{acc:List A}(h:Fnd σ fd (t::p::q::acc)):subW (.obj fd) (.int (-3)) σ Q=Q (ob q) σ:=by
 have hz:=h.len;simp only[List.length_cons] at hz;refine kC h.lst (by simp[lim];lia) ?_
 rw[show((t::p::q::acc).reverse.map ob)=acc.reverse.map ob++ [ob q,ob p,ob t] by simp];exact Xj (by simp[lim];lia)
theorem Mi(hn:4<=n){x:A}(h:P3 σ x.ad x.er.plain x.fst x.snd)(g:Gd x.er)(hQ:Q (optV x.er.cst) σ):CTK cx n 419 [ob x] σ Q X:=
 xK T hn h g.ne (by have:=g.len;exact nT this rfl) g.cs (by rw[g.cst];exact hQ)
theorem gather{t:A}{r:List A}(hn:4<=n)(h:Fnd σ fd (t::r))(m:Nat)(hm:0<m)(hm2:m<=2){Z:QV}(hZ:∀c σ',Ext σ σ'->σ' c=some (.list ((r.take m).reverse.map λx=>optV x.er.cst))->Z (.obj c) σ'):
 om (jX (σ fd)) λl=>l.length<=lim/\om (cut l .none (.int (-1))) λr=>newL σ r λa σ=>sliW a (.int (-(m:Int))) .none σ λv σ=>srcW v σ λs=>
  mU s (λv σ acc k=>CTK cx n 419 [v] σ (λr σ=>acc.length+1<=lim/\k (acc++ [r]) σ) λJ=>False) (λacc σ=>newL σ acc Z) [] σ:=by
 have hz:=h.len;rw[List.length_cons] at hz;refine om_l h.lst ?_;rw[zX,Gp (by simp[lim];exact nT (Nat.le_of_add_right_le hz) rfl),jR]
 refine⟨by simp[lim];exact nT (Nat.le_of_add_right_le hz) rfl,jS (by simp[lim];exact nT (Nat.le_of_add_right_le hz) rfl) λc1 hc1=>?_⟩
 refine om_l (jP ..) ?_;rw[Fp hm (by exact nT hm2 rfl) (by simp[lim];exact nT (Nat.le_of_add_right_le hz) rfl),jR]
 have e:List.drop ((r.reverse.map ob).length-m) (r.reverse.map ob)=(r.take m).reverse.map ob:=by
  rw[aB,aW,←iR,←List.reverse_take]
 rw[e];have hlen:(r.take m).length<=2:=by rw[eF];exact mL hm2 rfl
 refine⟨by simp[lim];exact nT (Nat.le_of_add_right_le hz) rfl,jS (by simp[lim];exact mL hm2 rfl) λc2 hc2=>?_⟩
 refine om_l (jP ..) ?_;have x1:Ext σ (upd σ c1 (.list (r.reverse.map ob))):=.upd hc1;have x2:=x1.trans (Ext.upd (o:=.list ((r.take m).reverse.map ob)) hc2);have hc:upd (upd σ c1 (.list (r.reverse.map ob))) c2 (.list ((r.take m).reverse.map ob)) c2=some (.list ((r.take m).reverse.map ob)):=jP ..;generalize upd (upd σ c1 (.list (r.reverse.map ob))) c2 (.list ((r.take m).reverse.map ob))=σ2 at*;have hh:holds σ r:=h.hold.2;have hp:=(h.ext x2).tl (hh.ext x2);have hz2:((r.take m).reverse.map ob).length<=lim:=by simp[lim];exact mL hm2 rfl
 refine yW (vs:=(r.take m).reverse.map ob) (rs:=(r.take m).reverse.map λx=>optV x.er.cst) (λi=>mO hc hz2 i) (mK hc) (by simp) (λi v w hv hw W hW=>?_) ?_
 ·rw[bH] at hv hw
  refine mapS hv λx hx z1z=>?_;obtain rfl:=z1z
  rw[hx] at hw;injection hw with qz;subst qz
  have hmem:x∈r:=by
   have:=cJ hx;exact List.mem_of_mem_take (List.mem_reverse.mp this)
  refine e02 (hp x hmem) λq1 q2=>?_
  refine Mi T hn q1 q2 ⟨?_,hW⟩;rw[eF];simp[lim];lia
 ·refine jS (by simp[lim];exact mL hm2 rfl) λc3 hc3=>?_
  exact hZ c3 _ (x2.trans (.upd hc3)) (jP ..)
omit T in
theorem zT{op:Op}{nm:Nm}{tt pp:Nat}{p:Internal.T}{c:Int}{r:List Internal.T}(ho:opOf (code op)=some (nm,tt,pp))(hp:p.cst=some c):
 red lr1 lr2 (.leaf op::p::r)=(if nm.single=true then some (.leaf (kO pp (lr1 nm c tt pp))::r) else
  match(r.head?.bind Internal.T.cst).bind λx=>lr2 nm x c tt pp with
  |some v=>some (.leaf (kO pp v)::r.drop 1) |none=>if nm.idle=some c then some r else none):=by
 simp only[red,hp,chg,ho];generalize((r.head?.bind Internal.T.cst).bind λx=>lr2 nm x c tt pp)=z
 split
 ·rfl
 ·induction z with
  |some v=>rfl |none=>dsimp only;split<;>rfl
omit T in
theorem Nf{L:List V}(hL:∀v∈L,v=.none∨∃i,v=.int i)(hne:L≠ []):pL L []=some false:=by
 induction L using List.casesOn with
 |nil=>exact absurd rfl hne |cons v r=>
  have h2:rows? (v::r)=none:=by
   rcases hL v aE with rfl|⟨i,rfl⟩<;>rfl
  unfold pL
  induction h:ints? (v::r) with
  |some a=>exact congrArg some (decide_eq_false λe=>by rw[e] at h;exact by have h:=lP h;contradiction)
  |none=>
   show tR (v::r) []=_;unfold tR;rw[h2];exact if_neg λe=>by contradiction
omit T in
theorem Ro{t p:A}{r:List A}{op:Op}{pp:Nat}(h:Fnd σ fd (t::p::r))(hers:ers (t::p::r)=.leaf op::p.er::ers r)
 (h1:∀σ' acc',red lr1 lr2 (ers (t::p::r))=some (ers acc')->Step σ σ' fd (t::p::r) acc'->Q (.bool true) σ'){σ₁:H}{k:Nat}{v:Int}{K:H->Prop}(hK:∀σ,Q (.bool true) σ->K σ)(x:Ext σ σ₁)(hk:0<k)(hk3:k<=3)
 (hred:red lr1 lr2 (.leaf op::p.er::ers r)=some (.leaf (kO pp v)::(.leaf op::p.er::ers r).drop k)):
 qU σ₁ (tupO (kO pp v)) .none .none λw σ=>newL σ [w] λv σ=>mM (.obj fd) (.int (-(k:Int))) .none v σ K:=λa d ha hd had=>by
 have lens:=h.len;have nd:=h.nodup;refine jS (ll rfl) λb hb=>?_
 have x2:Ext σ₁ (upd (upd σ₁ d (.sd (kD (tupO (kO pp v)) .none .none))) a (.inst jV d)):=(Ext.upd hd).trans (.upd (by rw[jQ _ _ had];exact ha))
 have x3:=x2.trans (Ext.upd (o:=.list [V.obj a]) hb);have ba:b≠a:=λe=>by rw[e,jP] at hb;injection hb
 have bd:b≠d:=λe=>by rw[e,jQ _ _ had.symm,jP] at hb;injection hb
 have bfd:fd≠b:=λe=>by
  have:=x2 _ _ (x _ _ h.lst);rw[e,hb] at this;injection this
 refine vG (acc:=t::p::r) (news:= [.leaf a d (kO pp v)]) (x3 _ _ (x _ _ h.lst)) (by rw[jP];rfl) bfd hk (aC hk3 (by decide)) (aC lens (by decide)) (nB rfl) (hK _ ?_)
 refine h1 _ _ ?_ (zM (x.trans x3) h.lst h.hold nd ?_ ?_ ?_)
 ·rw[hers,hred,mF,Ap,hers];rfl
 ·refine⟨⟨?_,?_⟩,trivial⟩
  ·rw[jQ _ _ ba.symm,jP]
  ·rw[jQ _ _ bd.symm,jQ _ _ had.symm,jP]
 ·intro z hz
  rcases aJ.mp hz with rfl|hz
  ·exact .inr (x.ne ha)
  ·rw[aK.mp hz];exact .inr (x.ne hd)
 ·exact aL.mpr ⟨λz=>had (aK.mp z),aL.mpr ⟨(λh=>by cases h),.nil⟩⟩
omit T in
theorem Pn(x:Option Int):optV x=.none∨∃i,optV x=.int i:=by cases x;exact .inl rfl;exact .inr ⟨_,rfl⟩
omit T in
theorem Mj(x:Option Int):isNone (optV x)=some x.isNone:=by induction x<;>rfl
omit T in
theorem Sz{k:Int}{x:Option Int}{K:Bool->Prop}(h:K (decide (x=some k))):eqW (.int k) (optV x) σ K:=by
 induction x with
 |none=>exact h |some j=>
  have e:decide (some j=some k)=(k==j):=decide_eq_decide.mpr ⟨λz=>(aX z).symm,λz=>congrArg some z.symm⟩
  rw[e] at h;exact h
omit T in
theorem Ju(a b:Option Int):mY .none [optV a,optV b]=some (a.isNone||b.isNone):=by induction a<;>induction b<;>rfl
theorem Ck(hn:22<=n){t p:A}{r:List A}{op:Op}{nm:Nm}{tt pp:Nat}(h:Fnd σ fd (t::p::r))(hers:ers (t::p::r)=.leaf op::p.er::ers r)(ho:opOf (code op)=some (nm,tt,pp))(hu:nm.single=false)
 (h0:red lr1 lr2 (ers (t::p::r))=none->∀σ',Ext σ σ'->Q (.bool false) σ')
 (h1:∀σ' acc',red lr1 lr2 (ers (t::p::r))=some (ers acc')->Step σ σ' fd (t::p::r) acc'->Q (.bool true) σ'){σ':H}{c:Addr}{L:List V}{x4:Option V}(x:Ext σ σ')(hc:σ' c=some (.list (L++ [optV p.er.cst])))(hL:L.length<=5)(hLi:∀v∈L,v=.none∨∃i,v=.int i)
 (hno:∀k,p.er.cst=some k->((ers r).head?.bind Internal.T.cst).bind (λx=>lr2 nm x k tt pp)=none):
 blk (CTK cx (n-2)) (iss [(.iff (.and (.cmp (.loc 2) .Eq (.val (.int 2))) (.and (.cmp (.loc 3) .NotEq (.lst (ies []))) (.and (.cmp (.sub (.loc 3) (.neg (.val (.int 1)))) .IsNot (.val .none)) (.cmp (.sub (.loc 3) (.neg (.val (.int 1)))) .Eq (.call (.val (.raw (.ref 412))) (ies [(.loc 1)])))))) (iss [(.setSli (.loc 0) (.neg (.val (.int 2))) (.val .none) (.lst (ies []))),
  (.ret (.val (.bool .true)))]) (iss [])),
  (.ret (.val (.bool .false)))]) [some (.obj fd),some (.int (code op)),some (.int 2),some (.obj c),x4] σ' (rq Q) λJ σ=>X σ:=by
 have lens:=h.len;have hz:L.length+1<=lim:=kE (aC (bG hL 1) (by decide))
 have hz':(L++ [optV p.er.cst]).length<=lim:=by rw[aD];exact hz
 walk_at "D";refine jS (aP _) λb hb=>?_
 have x1:Ext σ' (upd σ' b (.list [])):=.upd hb;have hc1:=x1 _ _ hc
 rw[Qa,hc1,kA,jR,jP,kA,jR,Nf (λv hv=>by
  rcases bB.mp hv with hv|hv
  ·exact hLi v hv
  ·rw[aK.mp hv] at⊢;exact Pn _) (by simp),jR] at⊢
 walk_at "D";rw[kC hc1 hz' (sJ hz),Mj,jR];have hred:=λc (hp:p.er.cst=some c)=>zT (r:=ers r) ho hp
 rw[hers] at h0 h1
 induction hp:p.er.cst with
 |none=>
  walk_at "D";walk_at "D";exact h0 (by simp[red,hp]) _ (x.trans x1)
 |some k=>
  walk_at "D";rw[kC hc1 hz' (by rw[sJ hz,hp])]
  refine Qk T (fu hn rfl) ?_;rw[Cs ho hu];have hred:=hred k hp;rw[hno k hp,hu] at hred;refine Sz (br (λhi=>?_) λhi=>?_)
  ·rw[if_neg (λh=>by injection h)] at hred
   dsimp only at hred;rw[if_pos hi] at hred;walk_at "D";refine jS (aP _) λb2 hb2=>?_
   have x2:=x1.trans (Ext.upd (o:=.list []) hb2)
   have bfd:fd≠b2:=λe=>by
    have:=x1 _ _ (x _ _ h.lst);rw[e,hb2] at this;injection this
   refine vG (k:=2) (acc:=t::p::r) (news:= []) (x2 _ _ (x _ _ h.lst)) (by rw[jP];rfl) bfd (by decide) (by decide) (aC lens (by decide)) (aP _) ?_
   walk_at "D";refine h1 _ _ ?_ (zM (news:= []) (k:=2) (x.trans x2) h.lst h.hold h.nodup trivial (λz hz=>by cases hz) .nil)
   rw[hred];rfl
  ·rw[if_neg (λh=>by injection h)] at hred
   dsimp only at hred;rw[if_neg hi] at hred;walk_at "D";exact h0 hred _ (x.trans x1)
theorem xI(hn:22<=n){t p:A}{r:List A}{S:List Int}(h:Fnd σ fd (t::p::r))(hty:RTy (ers (t::p::r)) S){op:Op}{nm:Nm}{tt pp:Nat}(hop:t.er=.leaf op)(ho:opOf (code op)=some (nm,tt,pp))
 (h0:red lr1 lr2 (ers (t::p::r))=none->∀σ',Ext σ σ'->Q (.bool false) σ')
 (h1:∀σ' acc',red lr1 lr2 (ers (t::p::r))=some (ers acc')->Step σ σ' fd (t::p::r) acc'->Q (.bool true) σ'):CTK cx n 443 [.obj fd] σ Q X:=by
 refine ctl T (xO T) hn rfl rfl rfl ?_;walk_at "D";rw[rT h];refine e02 h.top λpt gt=>?_
 refine⟨rfl,nQ T (fu hn rfl) pt gt.ne (aC gt.len (by decide)) ?_⟩
 rw[show code t.er.plain=code op by rw[hop];rfl]
 walk_at "D";refine wK T (fu hn rfl) ?_;have hers:ers (t::p::r)=.leaf op::p.er::ers r:=by rw[ers,ers,hop]
 have hput:=λ{σ₁:H} {k:Nat} {v:Int} {K:H->Prop}=>Ro (Q:=Q) (σ₁:=σ₁) (k:=k) (v:=v) (K:=K) (pp:=pp) h hers h1
 have hidle:=λ{σ':H} {c:Addr} {L:List V} {x4:Option V}=>Ck T (Q:=Q) (X:=X) (σ':=σ') (c:=c) (L:=L) (x4:=x4) hn h hers ho (h0:=h0) (h1:=h1)
 rw[hers] at h0 hty;refine e12 hty λS2 z4z htt=>?_;refine e12 z4z λS3 hr3 hpt=>?_
 have gp:=h.gd p.er (by rw[hers];exact aH _ aE)
 have hpc:∀{c:Int},p.er.cst=some c->_:=λ{c} hp=>qT (op:=p.er.plain) (c:=c) (S:=S3) (S':=S2) (by rw[gp.cst];exact hp) (by
  refine e12 (mT hp) λpo e z5z=>?_
  rw[e] at hpt⊢;exact lO hpt)
 induction hu:nm.single with
 |true=>
  rw[show isUn (code op)=true by unfold isUn;rw[ho];exact hu]
  walk_at "D";walk_at "D";refine⟨rfl,gather T (fu hn rfl) h 1 (by decide) (by decide) λc σ' x hc=>?_⟩
  rw[show((p::r).take 1).reverse.map (λx=>optV x.er.cst)= [optV p.er.cst] from rfl] at hc
  walk_at "D";rw[hc,kA,jR];refine⟨ll rfl,?_⟩;walk_at "D"
  induction hp:p.er.cst with
  |none=>
   refine om_s ?_;walk_at "D";walk_at "D";walk_at "D";refine h0 ?_ _ x;simp[red,hp]
  |some k=>
   refine om_s ?_;rw[hp] at hc;refine e14 (hpc hp) λb hb z6z hi z7z=>?_;obtain rfl:=z7z
   refine e02 (tD ho (lO htt)) λn1 z8z=>?_
   refine e02 (n1 hu) λz9z z10z=>?_;refine e02 z9z λag z11z=>?_
   have:=mD (jY ho).1 hb ag;subst this;have hred:=zT (r:=ers r) ho hp;rw[if_pos hu] at hred;walk_at "D";walk_at "D";refine wJ T (fu hn rfl) ho (xs:= [k]) hc (some (lr1 nm k tt pp)) (.inl ⟨hu,k,rfl,hi,rfl⟩) (by intros;contradiction) λv hv σ₁ x1=>?_
   injection hv with qz;subst qz
   intro a d ha hd had;walk_at "D";walk_at "D";walk_at "D";exact hput (k:=2) (λσ h=>h) (x.trans x1) (by decide) (by decide) hred a d ha hd had
 |false=>
  rw[show isUn (code op)=false by unfold isUn;rw[ho];exact hu]
  have hred:=λc (hp:p.er.cst=some c)=>zT (r:=ers r) ho hp
  simp only[hu,if_false,fI] at hred;walk_at "D";walk_at "D";refine⟨rfl,gather T (fu hn rfl) h 2 (by decide) (by decide) λc σ' x hc=>?_⟩
  walk_at "D"
  induction r using List.casesOn with
  |nil=>
   rw[show([p].take 2).reverse.map (λx=>optV x.er.cst)= [optV p.er.cst] from rfl] at hc
   refine lU hc ?_;refine⟨ll rfl,?_⟩;walk_at "D";exact nx1 (bk0 (nx1 (hidle hu (L:= []) x hc (aP _) (λv hv=>by cases hv) λk J=>rfl)))
  |cons q r=>
   rw[show((p::q::r).take 2).reverse.map (λx=>optV x.er.cst)= [optV q.er.cst,optV p.er.cst] from rfl] at hc
   rw[hc,kA,jR];refine⟨ll rfl,?_⟩;walk_at "D";have idle':=λ{σ₁:H} {x4:Option V} (x1:Ext σ σ₁) hc=>hidle (c:=c) (σ':=σ₁) (x4:=x4) hu (L:= [optV q.er.cst]) x1 hc (nB rfl) (λv hv=>by rw[aK.mp hv];exact Pn _)
   rw[Ju,jR]
   induction hq:q.er.cst with
   |none=>
    walk_at "D";exact idle' x hc λk J=>by rw[ers];simp[hq]
   |some j=>
    induction hp:p.er.cst with
    |none=>
     walk_at "D";exact idle' x hc λk hk=>by rw[hp] at hk;injection hk
    |some k=>
     walk_at "D";rw[hq,hp] at hc;have hred:=hred k hp;refine e14 (hpc hp) λb hb z12z hi z13z=>?_;obtain rfl:=z13z
     refine e12 hr3 λS4 hr4 hqt=>?_
     obtain⟨b',hb',-,hi',rfl⟩:=qT (op:=q.er.plain) (c:=j) (S:=S4) (S':=S3) (by rw[(h.gd _ (by rw[hers,ers];simp)).cst];exact hq) (by
      refine e12 (mT hq) λpo e z14z=>?_
      rw[e] at hqt⊢;exact lO hqt)
     refine e02 (tD ho (lO htt)) λz15z n2=>?_
     refine e02 (n2 hu) λz16z z17z=>?_;refine e03 z16z λag ag2 z18z=>?_
     have:=mD (jY ho).1 hb ag;subst this;have:=mD (jY ho).1 hb' ag2;subst this;have hbind:((ers (q::r)).head?.bind Internal.T.cst).bind (λx=>lr2 nm x k tt pp)=lr2 nm j k tt pp:=by rw[ers];simp[hq]
     rw[hbind] at hred;walk_at "D";refine wJ T (fu hn rfl) ho (xs:= [j,k]) hc (lr2 nm j k tt pp) (.inr ⟨hu,j,k,rfl,hi',hi,rfl⟩) (λhn σ₁ x1=>?_) λv hv σ₁ x1=>?_
     ·walk_at "D"
      walk_at "D";have hc':=x1 _ _ hc;refine idle' (x.trans x1) (by rw[hp,hq];exact hc') λk' hk'=>?_
      rw[hp] at hk';injection hk' with qz;subst qz
      rw[hbind];exact hn
     ·rw[hv] at hred
      intro a d ha hd had;walk_at "D";walk_at "D";exact hput (k:=3) (λσ h=>h) (x.trans x1) (by decide) (by decide) hred a d ha hd had
end
theorem qL{σ σ₁:H}{fd:Addr}{acc news:List A}(h:Fnd σ fd acc)(x:Ext σ σ₁)(k:Nat)(hk:0<k)(hk2:k<=1000)(hn:holds σ₁ news)(hnew:∀b∈fps news,b∈fps (acc.take k)∨σ b=none)(hnn:(fps news).Nodup)(hlen:news.length<=10){K:H->Prop}
 (hK:∀σ',Step σ σ' fd acc (news++acc.drop k)->K σ'):newL σ₁ (news.reverse.map ob) λv σ=>mM (.obj fd) (.int (-(k:Int))) .none v σ K:=by
 have hz:=h.len;refine jS (by simp[lim];exact nT hlen rfl) λb hb=>?_
 have x1:=x.trans (Ext.upd (o:=.list (news.reverse.map ob)) hb)
 have bfd:fd≠b:=λe=>by
  have:=x _ _ h.lst;rw[e,hb] at this;injection this
 refine vG (acc:=acc) (news:=news) (x1 _ _ h.lst) (jP ..) bfd hk hk2 (by exact nT hz rfl) (by exact nT hlen rfl) (hK _ (zM x1 h.lst h.hold h.nodup ?_ hnew hnn))
 exact hn.ext (.upd hb)
theorem Rn{σ:H}{a d:Addr}{op:Op}(ha:σ a=none)(hd:σ d=none)(had:a≠d):
 Ext σ (upd (upd σ d (.sd (kD (tupO op) .none .none))) a (.inst jV d))/\(A.leaf a d op).hold (upd (upd σ d (.sd (kD (tupO op) .none .none))) a (.inst jV d)):=by
 refine⟨(Ext.upd hd).trans (.upd (by rw[jQ _ _ had];exact ha)),?_⟩
 show _/\_;exact⟨jP ..,by rw[jQ _ _ had.symm,jP]⟩
theorem Zr{σ:H}{a d l:Addr}{op:Op}{f:List A}(ha:σ a=none)(hd:σ d=none)(had:a≠d)(hl:σ l=some (.list (f.map ob)))(hf:holds σ f):
 Ext σ (upd (upd σ d (.sd (kD (tupO op) (.obj l) .none))) a (.inst jV d))/\(A.blk a d l op f).hold (upd (upd σ d (.sd (kD (tupO op) (.obj l) .none))) a (.inst jV d)):=by
 have x:Ext σ (upd (upd σ d (.sd (kD (tupO op) (.obj l) .none))) a (.inst jV d)):=(Ext.upd hd).trans (.upd (by rw[jQ _ _ had];exact ha))
 refine⟨x,?_⟩;show _/\_;exact⟨⟨jP ..,by rw[jQ _ _ had.symm,jP]⟩,x _ _ hl,hf.ext x⟩
theorem tS{op:Op}{p:T}{r:List T}{c:Int}(hp:p.cst=some c):red lr1 lr2 (.leaf op::p::r)=(chg lr1 lr2 op c (r.head?.bind T.cst) (r.head?.bind T.put)).map λx=>(x.2.map T.leaf).reverse++(p::r).drop x.1:=by
 simp[red,hp]
theorem opOf_27:opOf 27=none:=by decide
theorem opOf_28:opOf 28=none:=by decide
theorem opOf_13:opOf 13=none:=by decide
theorem opOf_14:opOf 14=none:=by decide
section
variable{cx:Cx}(T:Prog cx){n:Nat}{σ:H}{Q:QV}{X:XH}{fd:Addr}
include T
theorem mk1(hn:3<=n){p:V}(hQ:qU σ p .none .none Q):CTK cx n 379 [p] σ Q X:=⟨Ea T (hY.mp rfl),(Bn T (n:=n-3) hQ).more (cZ (eG hn))⟩
theorem mk2(hn:3<=n){p f:V}(hQ:qU σ p f .none Q):CTK cx n 379 [p,f] σ Q X:=⟨Ea T (hY.mp rfl),(Tx T (n:=n-3) hQ).more (cZ (eG hn))⟩
omit T in
theorem fp2{σ:H}{a d:Addr}{op:Op}{acc:List A}{k:Nat}(ha:σ a=none)(hd:σ d=none):∀b∈fps [.leaf a d op],b∈fps (acc.take k)∨σ b=none:=λb hb=>by
 rcases aJ.mp hb with rfl|hb
 ·exact .inr ha
 ·rw[aK.mp hb];exact .inr hd
omit T in
theorem nd2{a d:Addr}{op:Op}(had:a≠d):(fps [.leaf a d op]).Nodup:=aL.mpr ⟨λz=>had (aK.mp z),aL.mpr ⟨(λh=>by cases h),.nil⟩⟩
omit T in
theorem yF(c:Int):c∈ [(32:Int),35,65,66,63,64528,208,210]↔c∈mN:=List.Perm.mem_iff (by decide)
theorem sZ(hn:3<=n){acc:List A}(h:Fnd σ fd acc){op:Op}{K:QV}(hK:∀a d σ₁,σ a=none->σ d=none->a≠d->Ext σ σ₁->(A.leaf a d op).hold σ₁->K (.obj a) σ₁):CTK cx n 379 [tupO op] σ K X:=
 mk1 T hn λa d ha hd had=>have q:=Rn (op:=op) ha hd had;hK a d _ ha hd had q.1 q.2
theorem xF(hn:8<=n){t p:A}{r:List A}(h:Fnd σ fd (t::p::r)){op:Op}(hop:t.er=.leaf op)(hc:code op=27∨code op=28){c:Int}(hp:p.er.cst=some c)
 (h0:red lr1 lr2 (ers (t::p::r))=none->∀σ',Ext σ σ'->Q (.bool false) σ')
 (h1:∀σ' acc',red lr1 lr2 (ers (t::p::r))=some (ers acc')->Step σ σ' fd (t::p::r) acc'->Q (.bool true) σ'):CTK cx n 457 [.obj fd,.int c] σ Q X:=by
 refine ctl T (xM T) hn rfl rfl rfl ?_;walk_at "D";have hers:ers (t::p::r)=.leaf op::p.er::ers r:=by rw[ers,ers,hop]
 rw[hers,tS hp] at h0 h1;have ho:opOf (code op)=none:=by rcases hc with e|e<;>rw[e]<;>decide
 have lens:=h.len;unfold chg at h0 h1;rw[ho] at h0 h1;dsimp only at h0 h1;rw[if_pos hc] at h0 h1;refine brn (λhz=>?_) λhz=>?_
 ·rw[if_neg (not_not_intro hz)] at h0 h1
  walk_at "D";refine lU h.lst ?_;refine⟨by rw[aB,aW];exact kE lens,?_⟩
  induction r using List.casesOn with
  |nil=>
   refine br (λz=>absurd z (show¬(2:Int)<2 by decide)) λJ=>?_
   walk_at "D";exact h0 rfl _ (.refl _)
  |cons q r=>
   refine br (λJ=>?_) λz=>absurd (by rw[aB,aW];simp only[List.length_cons];exact Int.compare_eq_gt.mp rfl) z
   rw[Pb h];refine e02 (h.tl (acc:=p::q::r) h.hold.2 q (aH _ aE)) λq1 q2=>?_
   refine⟨rfl,nQ T (fu hn rfl) q1 q2.ne (aC q2.len (by decide)) ?_⟩
   walk_at "D";have hput:(ers (q::r)).head?.bind Internal.T.put=q.er.put:=by rw[ers];rfl
   rw[hput,←q2.put] at h0 h1;refine kJ (l:= [32,35,65,66,63,64528,208,210]) (br (λhm=>?_) λhm=>?_)
   ·have hmem:=(yF _).mp hm
    have hpq:putO q.er.plain=some q.er.plain:=if_pos hmem;have hqt:=q2.put;rw[hpq] at h1 hqt;refine e12 (rX hqt.symm) λqop hqe z1z=>?_
    walk_at "D";refine⟨ll rfl,sZ T (fu hn rfl) h (op:= [26]) λa d σ₁ ha hd had x hh=>?_⟩
    refine hU (Pb (h.ext x)) ?_;have hhq:holds σ [q]:=⟨h.hold.2.2.1,trivial⟩;refine qL (news:= [q,.leaf a d [26]]) h x 3 (by decide) (by decide) ⟨(hhq.ext x).1,hh,trivial⟩ (λb hb=>?_) ?_ (nB rfl) (λσ' st=>nx1 (bk1 (h1 _ _ ?_ st)))
    ·rcases bB.mp hb with hb|hb
     ·exact .inl (bE _ (bE _ (aU _ hb)))
     ·exact fp2 (acc:=t::p::q::r) (op:= [26]) ha hd b hb
    ·have nd:=h.nodup
     simp only[fps,aL,bX] at nd;refine bX.mpr ⟨nd.2.2.1.2.1.1,nd2 (op:= [26]) had,λz hz w hw e=>?_⟩
     subst e;have:=A.hold.live h.hold.2.2.1 z hz;rcases aJ.mp hw with rfl|hw
     ·exact this ha
     ·exact this (aK.mp hw▸hd)
    ·show some _=some _
     rw[mF];simp only[ers,aZ,List.map_nil,bQ,List.reverse_nil,List.nil_append,List.cons_append,List.drop_succ_cons,List.drop_zero,A.er,hqe,Internal.T.plain]
   ·have hpq:putO q.er.plain=none:=if_neg λz=>hm ((yF _).mpr z)
    rw[hpq] at h0;walk_at "D";exact h0 rfl _ (.refl _)
 ·rw[if_pos hz] at h0 h1
  walk_at "D";refine⟨ll rfl,sZ T (fu hn rfl) h (op:= [26]) λa d σ₁ ha hd had x hh=>?_⟩
  refine qL (news:= [.leaf a d [26]]) h x 2 (by decide) (by decide) ⟨hh,trivial⟩ (fp2 (op:= [26]) ha hd) (nd2 had) (nB rfl) (λσ' st=>nx1 (bk1 (h1 _ _ ?_ st)))
  show some _=some _;rw[mF];rfl
theorem Tp(hn:4<=n){ls:List Int}{c:Int}(hl:ls≠ [])(hz:ls.length<=100)(hc:InS c 32)(hQ:Q (.int (lab (14::ls) c)) σ):CTK cx n 450 [tupO ls,.int c] σ Q X:=by
 refine ctl T (wU T) hn rfl rfl rfl ?_;unfold ib_chosen_label tupO;walk_at "D";refine kM T (b:=32) (fu hn rfl) rfl (by decide) ?_
 walk_at "D";have n32:(2:Int)^32=4294967296:=by decide
 have n31:(2:Int)^31=2147483648:=by decide
 have hpos:0<ls.length:=fA.mpr hl;refine e02 hc λc1 c2=>?_
 rw[show(2:Int)^(32-1)=2147483648 from n31] at c1 c2
 have hlm:(ls.map V.int).length<=lim:=by rw[aB];exact kE (aC hz (by decide))
 unfold lab at hQ
 have hlast:ls.getLastD 0=(14::ls).getLastD 0:=by
  induction ls using List.casesOn with
  |nil=>exact absurd rfl hl |cons a b=>simp[List.getLastD]
 have mapget:∀(k:Nat) (h:k<ls.length),(ls.map V.int)[k]?=some (.int (ls.getD k 0)):=λk h=>by
  rw[bH,bI h,eL,bI h];rfl
 refine⟨hlm,?_⟩;rw[aB];by_cases hin:0<=c/\c<((14::ls).length:Int)-2
 ·rw[if_pos hin] at hQ
  rw[List.length_cons] at hin;have e:c % 4294967296=c:=dS hin.1 (by lia)
  rw[e];refine br (λJ=>?_) λz=>absurd (by lia) z
  rw[pD hin.1 (by rw[aB];lia) hlm,mapget _ (by lia)]
  exact⟨by rw[aB] at hlm;exact hlm,hQ⟩
 ·rw[if_neg hin] at hQ
  rw[List.length_cons] at hin;refine br (λz=>absurd z ?_) λJ=>?_
  ·by_cases h0:0<=c
   ·rw[dS h0 (by lia)];lia
   ·lia
  rw[qX (by decide) (by rw[aB];exact iP hpos) hlm]
  have e2:((-1:Int)+((ls.map V.int).length:Int)).toNat=ls.length-1:=by rw[aB];exact tn2 1 _
  rw[e2,mapget _ (by exact Nat.sub_one_lt_of_lt hpos)]
  have e3:ls.getD (ls.length-1) 0=(14::ls).getLastD 0:=by
   rw[←hlast,List.getLastD_eq_getLast?,gC,eL]
  rw[←e3] at hQ;exact⟨by rw[aB] at hlm;exact hlm,hQ⟩
end
theorem uK{t:T}(h:t.wf):(∃op,t=.leaf op/\code op∉ [2,3,4,5,11])∨(∃c k f,t=.blk [c,k] f/\(c=2∨c=3∨c=4))∨(∃k f s,t=.ife [4,k] f s):=by
 induction t using Internal.T.casesOn with
 |leaf op=>exact .inl ⟨op,rfl,h.2⟩ |blk op f=>refine e02 h λz1z z2z=>?_;refine e22 z1z λc k z3z hc=>?_;obtain rfl:=z3z;exact .inr (.inl ⟨c,k,f,rfl,hc⟩)
 |ife op f s=>refine e02 h λz4z z5z=>?_;refine e11 z4z λk z6z=>?_;obtain rfl:=z6z;exact .inr (.inr ⟨k,f,s,rfl⟩)
section
variable{cx:Cx}(T:Prog cx){n:Nat}{σ:H}{Q:QV}{X:XH}{fd:Addr}
include T
omit T in
theorem Ja{a l:Addr}{f:List A}{t:A}{acc:List A}(h:(fd::fps (t::acc)).Nodup)(hs:jF (l::fps f) t.fp):(l::fps f).Nodup:=((aL.mp h).2.sublist (List.sublist_append_left _ _)).sublist hs
theorem Qz(hn:3<=n){t p:A}{r:List A}(h:Fnd σ fd (t::p::r))(h1:∀σ' acc',red lr1 lr2 (ers (t::p::r))=some (ers acc')->Step σ σ' fd (t::p::r) acc'->Q (.bool true) σ'){K:H->Prop}(hK:∀σ,Q (.bool true) σ->K σ)
 {σ₁:H}{l:Addr}{f:List A}{k:Int}(x:Ext σ σ₁)(hl:σ₁ l=some (.list (f.map ob)))(hf:holds σ₁ f)(hfp:∀b∈l::fps f,b∈fps ((t::p::r).take 2)∨σ b=none)(hnd:(l::fps f).Nodup)(hred:red lr1 lr2 (ers (t::p::r))=some (.blk [2,k] (ers f)::ers r)):
 CTK cx n 379 [.tup [.int 2,.int k],.obj l] σ₁ (λv σ=>newL σ [v] λv σ=>mM (.obj fd) (.int (-2)) .none v σ K) X:=by
 refine mk2 T hn λa d ha hd had=>?_
 refine e02 (Zr (op:= [2,k]) ha hd had hl hf) λx1 hh=>?_
 have live:∀b∈l::fps f,σ₁ b≠none:=λb hb=>by
  rcases aJ.mp hb with rfl|hb
  ·rw[hl];exact λh=>by injection h
  ·exact hf.live b hb
 have e:fps [.blk a d l [2,k] f]=a::d::l::fps f:=by rw[fps,fps,bY,A.fp]
 refine qL (news:= [.blk a d l [2,k] f]) h (x.trans x1) 2 (by decide) (by decide) ⟨hh,trivial⟩ (λb hb=>?_) ?_ (nB rfl) (λσ' st=>hK _ (h1 _ _ ?_ st))
 ·rw[e] at hb
  rcases aJ.mp hb with rfl|hb
  ·exact .inr (x.ne ha)
  ·rcases aJ.mp hb with rfl|hb
   ·exact .inr (x.ne hd)
   ·exact hfp b hb
 ·rw[e]
  refine aL.mpr ⟨λhm=>?_,aL.mpr ⟨λhm=>live d hm hd,hnd⟩⟩
  rcases aJ.mp hm with e|hm
  ·exact had e
  ·exact live a hm ha
 ·rw[hred];rfl
omit T in
theorem Wo{t p:A}{r:List A}{k c:Int}{f s:List Internal.T}(hop:t.er=.blk [4,k] f/\s= []∨t.er=.ife [4,k] f s)(hp:p.er.cst=some c):red lr1 lr2 (ers (t::p::r))=some (.blk [2,k] (if c≠0 then f else s)::ers r):=by
 have e1:ers (t::p::r)=t.er::p.er::ers r:=rfl;rw[e1];rcases hop with⟨hop,rfl⟩|hop
 ·rw[hop]
  simp only[red,hp];rw[if_pos (by rfl)]
  by_cases hz:c=0<;>simp[hz,code]
 ·rw[hop]
  simp only[red,hp];by_cases hz:c=0<;>simp[hz,code]
theorem fc_if(hn:12<=n){t p:A}{r:List A}(h:Fnd σ fd (t::p::r))(twf:t.er.wf)(h4:code t.er.plain=4){c:Int}(hp:p.er.cst=some c)
 (h1:∀σ' acc',red lr1 lr2 (ers (t::p::r))=some (ers acc')->Step σ σ' fd (t::p::r) acc'->Q (.bool true) σ'){K:H->Prop}(hK:∀σ,Q (.bool true) σ->K σ):
 ∃v k,(if c≠0 then t.fst else t.snd)=v/\t.er.plain= [4,k]/\((v=.none/\newL σ [] λw σ=>CTK cx n 379 [.tup [.int 2,.int k],w] σ (λv σ=>newL σ [v] λv σ=>mM (.obj fd) (.int (-2)) .none v σ K) X)∨
  ∃l,v=.obj l/\CTK cx n 379 [.tup [.int 2,.int k],v] σ (λv σ=>newL σ [v] λv σ=>mM (.obj fd) (.int (-2)) .none v σ K) X):=by
 have hH:t.hold σ:=h.hold.1;have nd:=h.nodup;have B:=λ{σ₁:H} {l:Addr} {f:List A} {k:Int}=>Qz T (X:=X) (σ₁:=σ₁) (l:=l) (f:=f) (k:=k) (fv hn rfl) h h1 hK
 have inn:∀{l:Addr} {f:List A},jF (l::fps f) t.fp->∀b∈l::fps f,b∈fps ((t::p::r).take 2)∨σ b=none:=λ{l f} hs b hb=>.inl (aU _ (hs.subset hb))
 induction t using A.casesOn with
 |leaf a d op=>
  exfalso;have h4:code op=4:=h4;exact twf.2 (by rw[h4];decide)
 |blk a d l op f=>
  refine e02 twf λz7z z8z=>?_;refine e22 z7z λc' k z9z z10z=>?_;obtain rfl:=z9z
  cases show c'=4 from h4
  have hred:=Wo (r:=r) (t:=.blk a d l [4,k] f) (p:=p) (.inl ⟨rfl,rfl⟩) hp;by_cases hz:c=0
  ·rw[if_neg (not_not_intro hz)] at hred⊢
   exact⟨_,k,rfl,rfl,.inl ⟨rfl,jS (aP _) λl' hl'=>B (f:= []) (.upd hl') (jP ..) trivial (λb hb=>.inr (aK.mp hb▸hl')) (aL.mpr ⟨(λh=>by cases h),.nil⟩) hred⟩⟩
  ·rw[if_pos hz] at hred⊢
   have hs:jF (l::fps f) (A.blk a d l [4,k] f).fp:=((jF.refl _).cons _).cons _;exact⟨_,k,rfl,rfl,.inr ⟨l,rfl,B (f:=f) (.refl _) hH.2.1 hH.2.2 (inn hs) (Ja (a:=a) nd hs) hred⟩⟩
 |ife a d l m op f s=>
  obtain⟨k,rfl⟩:∃k,op= [4,k]:=twf.1;have hred:=Wo (r:=r) (t:=.ife a d l m [4,k] f s) (p:=p) (.inr rfl) hp;by_cases hz:c=0
  ·rw[if_neg (not_not_intro hz)] at hred⊢
   have hs:jF (m::fps s) (A.ife a d l m [4,k] f s).fp:=((((List.sublist_append_right _ _).cons_cons _).cons _).cons _).cons _;exact⟨_,k,rfl,rfl,.inr ⟨m,rfl,B (f:=s) (.refl _) hH.2.2.1 hH.2.2.2 (inn hs) (Ja (a:=a) nd hs) hred⟩⟩
  ·rw[if_pos hz] at hred⊢
   have hs:jF (l::fps f) (A.ife a d l m [4,k] f s).fp:=((((List.sublist_append_left _ _).cons _).cons_cons _).cons _).cons _;exact⟨_,k,rfl,rfl,.inr ⟨l,rfl,B (f:=f) (.refl _) hH.2.1.1 hH.2.1.2 (inn hs) (Ja (a:=a) nd hs) hred⟩⟩
theorem xJ(hn:14<=n){t p:A}{r:List A}{S:List Int}(h:Fnd σ fd (t::p::r))(hty:RTy (ers (t::p::r)) S)(hc:code t.er.plain∈ [(27:Int),28,4,13,14])
 (h0:red lr1 lr2 (ers (t::p::r))=none->∀σ',Ext σ σ'->Q (.bool false) σ')
 (h1:∀σ' acc',red lr1 lr2 (ers (t::p::r))=some (ers acc')->Step σ σ' fd (t::p::r) acc'->Q (.bool true) σ'):CTK cx n 464 [.obj fd] σ Q X:=by
 refine ctl T (xP T) hn rfl rfl rfl ?_;walk_at "D";rw[rT h,Bm h];refine e02 h.top λpt gt=>?_
 refine e02 (h.tl (acc:=p::r) h.hold.2 p aE) λpp gp=>?_
 have gl:t.er.plain.length<=1000:=aC gt.len (by decide)
 have e1:ers (t::p::r)=t.er::p.er::ers r:=rfl;refine Mi T (fu hn rfl) pp gp ⟨ll rfl,rfl,?_⟩
 induction hp:p.er.cst with
 |none=>
  dsimp only[optV];walk_at "D";walk_at "D";exact h0 (by rw[e1];simp[red,hp]) _ (.refl _)
 |some c=>
  dsimp only[optV];walk_at "D";walk_at "D"
  have twf:t.er.wf:=by
   rw[e1] at hty;refine e12 hty λz11z z12z htt=>?_
   exact htt.wf
  have put:∀{op':Op} {K:H->Prop},red lr1 lr2 (ers (t::p::r))=some (.leaf op'::ers r)->(∀σ,Q (.bool true) σ->K σ)->CTK cx (n-2) 379 [tupO op'] σ (λw σ=>newL σ [w] λv σ=>mM (.obj fd) (.int (-2)) .none v σ K) λσ=>X σ:=λ{op' K} hred hK=>
   sZ T (fu hn rfl) h λa d σ₁ ha hd had x hh=>qL (news:= [.leaf a d op']) h x 2 (by decide) (by decide) ⟨hh,trivial⟩ (fp2 (op:=op') ha hd) (nd2 had) (nB rfl) λσ' st=>hK _ (h1 _ (.leaf a d op'::r) hred st)
  walk_at "D";refine⟨rfl,nQ T (fu hn rfl) pt gt.ne gl ⟨ll rfl,kJ (l:= [27,28]) (br (λhsel=>?_) λhsel=>?_)⟩⟩
  ·walk_at "D"
   rcases uK twf with⟨op,hop,_⟩|⟨c',k,f,hop,hc'⟩|⟨k,f,s,hop⟩
   ·exact xF T (fu hn rfl) h hop (by rw[hop] at hsel;rcases aJ.mp hsel with e|e;exact .inl e;exact .inr (aK.mp e)) hp h0 h1
   ·rw[hop] at hsel;simp only[Internal.T.plain,code,jB,aJ,fB,or_false] at hsel;lia
   ·rw[hop] at hsel;exact absurd hsel (show(4:Int)∉ [(27:Int),28] by decide)
  walk_at "D";walk_at "D";refine⟨rfl,nQ T (fu hn rfl) pt gt.ne gl (br (λh4=>?_) λh4=>?_)⟩
  ·refine e23 (fc_if T (n:=n-2) (X:=λσ=>X σ) (fu hn rfl) h twf h4 hp h1 (K:=λσ'=>nx (CTK cx (n-2)) (iss []) (nx (CTK cx (n-2)) (iss []) (nx (CTK cx (n-2)) (iss [IS.ret (IE.val (V.bool true))]) (rq Q) λJ σ=>X σ) (λJ σ=>X σ)) (λJ σ=>X σ) Fl.next [some (.obj fd),some (ob t),some (.int c),some (if c≠0 then t.fst else t.snd)] σ') λσ h=>by walk_at "D";exact h) λv k hv hk hw=>?_
   have at1:∀{Z:QV},Z (.int k) σ->sP (ob t) .plain σ λa σ=>subW a (.int 1) σ Z:=λ{Z} hZ=>by
    refine pU pt ?_;rw[hk];exact⟨ll rfl,nI hZ⟩
   have go:nx (CTK cx (n-2)) (iss [.setSli (.loc 0) (.neg (.val (.int 2))) (.val .none) (.lst (ies [(.call (.val (.raw (.ref 379))) (ies [(.tup (ies [(.val (.int 2)),(.sub (.attr (.loc 1) .plain) (.val (.int 1)))])),(.ite (.cmp (.loc 3) .IsNot (.val .none)) (.loc 3) (.lst (ies [])))]))]))]) (nx (CTK cx (n-2)) (iss []) (nx (CTK cx (n-2)) (iss [IS.ret (IE.val (V.bool true))]) (rq Q) λJ σ=>X σ) (λJ σ=>X σ)) (λJ σ=>X σ) .next [some (.obj fd),some (ob t),some (.int c),some (if c≠0 then t.fst else t.snd)] σ:=by
    rw[hv] at hw⊢;rcases hw with⟨rfl,hw⟩|⟨l,rfl,hw⟩
    ·walk_at "D"
     exact at1 ⟨ll rfl,hw⟩
    ·walk_at "D"
     exact at1 ⟨ll rfl,hw⟩
   walk_at "D";refine brn (λhz=>?_) λhz=>?_
   ·rw[if_neg (not_not_intro hz)] at go
    exact oU pt (A.snd_ok t).1 go
   ·rw[if_pos hz] at go
    exact oE pt (A.fst_ok t).1 go
  ·obtain⟨op,hop⟩:∃op,t.er=.leaf op:=by
    rcases uK twf with⟨op,hop,_⟩|⟨c',k,f,hop,hc'⟩|⟨k,f,s,hop⟩
    ·exact⟨op,hop⟩
    ·rw[hop] at hc h4;simp only[Internal.T.plain,code,jB,aJ,fB,or_false] at hc h4;lia
    ·rw[hop] at h4;exact absurd rfl h4
   have hpl:t.er.plain=op:=by rw[hop];rfl
   rw[hpl] at hc hsel h4 gl
   have htt:∃S2,RTy (p.er::ers r) S2/\St1 op S2 S:=by
    rw[e1,hop] at hty;refine e12 hty λS2 h2 ht=>?_
    exact⟨S2,h2,lO ht⟩
   refine e12 htt λS2 hr2 hst=>?_
   have h27:¬(code op=27∨code op=28):=λz=>hsel (z.elim (λe=>e▸aE) λe=>e▸aH _ aE)
   have hc2:code op=13∨code op=14:=by simp only[aJ,fB,or_false] at hc;lia
   have ho:opOf (code op)=none:=by
    rcases hc2 with e|e<;>rw[e]<;>decide
   have hred:red lr1 lr2 (ers (t::p::r))=_:=(show _=red lr1 lr2 (.leaf op::p.er::ers r) by rw[e1,hop]).trans (tS hp)
   unfold chg at hred;rw[ho] at hred;dsimp only at hred;rw[if_neg h27] at hred;rw[hpl] at pt;walk_at "D";walk_at "D";refine⟨rfl,nQ T (fu hn rfl) pt (hpl▸gt.ne) gl (br (λh14=>?_) λh14=>?_)⟩
   ·rw[if_neg (by lia),if_pos h14] at hred
    refine e33 (Bx h14 hst) λa b l z13z ag z14z=>?_;obtain rfl:=z13z
    have hi:InS c 32:=by
     refine e12 hr2 λS3 z15z hpt=>?_
     refine e12 (mT hp) λpo e hpo=>?_
     rw[e] at hpt;refine e14 (qT hpo (lO hpt)) λb' hb' z16z hi z17z=>?_;obtain rfl:=z17z
     rcases hb' with rfl|rfl
     ·exact hi
     ·exact absurd ag.1 (by decide)
    walk_at "D";refine⟨Cv pt,rfl,Hh pt (Rp T (fu hn rfl) pt (.inr (.inr rfl)) (nB rfl) (λh=>by injection h) ?_)⟩
    refine Tp T (ls:= [a,b,l]) (fu hn rfl) (λh=>by injection h) (nB rfl) hi ⟨ll rfl,put (op':= [12,lab [14,a,b,l] c]) hred λσ h=>by walk_at "D";exact h⟩
   ·have h13:code op=13:=hc2.resolve_right h14
    rw[if_pos h13] at hred;refine e13 (Oi h13 hst) λl z18z ag z19z=>?_;obtain rfl:=z18z
    walk_at "D";walk_at "D";refine brn (λhz=>?_) λhz=>?_
    ·rw[if_neg (not_not_intro hz)] at hred
     walk_at "D";exact qL (news:= []) h (.refl _) 2 (by decide) (by decide) trivial (λb hb=>by cases hb) .nil (aP _) λσ' st=>by walk_at "D";exact h1 _ _ (by rw[hred];rfl) st
    ·rw[if_pos hz] at hred
     walk_at "D";refine pU pt ⟨ll rfl,nI ⟨ll rfl,put (op':= [12,l]) hred λσ h=>by walk_at "D";exact h⟩⟩
theorem uE(hn:24<=n){acc:List A}{S:List Int}(h:Fnd σ fd acc)(hty:RTy (ers acc) S)
 (h0:red lr1 lr2 (ers acc)=none->∀σ',Ext σ σ'->Q (.bool false) σ')
 (h1:∀σ' acc',red lr1 lr2 (ers acc)=some (ers acc')->Step σ σ' fd acc acc'->Q (.bool true) σ'):CTK cx n 471 [.obj fd] σ Q X:=by
 refine ctl T (Ee T) hn rfl rfl rfl ?_;walk_at "D";have lens:=h.len;refine lU h.lst ?_;refine⟨by rw[aB,aW];exact kE lens,?_⟩
 rw[aB,aW]
 match acc,h,hty,h0,h1,lens with
 | [],h,hty,h0,h1,lens=>refine br (λJ=>?_) λz=>absurd (by decide) z;walk_at "D";exact h0 rfl _ (.refl _)
 | [t],h,hty,h0,h1,lens=>refine br (λJ=>?_) λz=>absurd (show(1:Int)<2 by decide) z;walk_at "D";exact h0 rfl _ (.refl _)
 |t::p::r,h,hty,h0,h1,lens=>
  refine br (λz=>absurd z (by simp only[List.length_cons];exact of_decide_eq_false rfl)) λJ=>?_
  walk_at "D";walk_at "D";rw[rT h];refine e02 h.top λpt gt=>?_
  have gl:t.er.plain.length<=1000:=aC gt.len (by decide)
  have twf:t.er.wf:=by
   have:ers (t::p::r)=t.er::p.er::ers r:=rfl;rw[this] at hty;refine e12 hty λz20z z21z htt=>?_
   exact htt.wf
  have num:∀x,opOf (code t.er.plain)=some x->CTK cx (n-2) 443 [.obj fd] σ Q λσ=>X σ:=λx hx=>by
   obtain⟨nm,tt,q⟩:=x;rcases uK twf with⟨op,hop,_⟩|⟨c',k,f,hop,hc'⟩|⟨k,f,s,hop⟩
   ·exact xI T (fu hn rfl) h hty hop (by rw[hop] at hx;exact hx) h0 h1
   ·rw[hop] at hx
    rw[show code (Internal.T.blk [c',k] f).plain=c' from rfl,oS (by lia)] at hx;injection hx
   ·rw[hop] at hx
    exact absurd (show opOf 4=_ from hx) (by rw[oS (by decide)];(intros;contradiction))
  refine⟨rfl,nQ T (fu hn rfl) pt gt.ne gl (wK T (fu hn rfl) ?_)⟩
  have isb:isUn (code t.er.plain)=false->yR (code t.er.plain)=(opOf (code t.er.plain)).isSome:=λhu=>by
   unfold isUn at hu;unfold yR
   induction hx:opOf (code t.er.plain) with
   |none=>rfl |some x=>
    obtain⟨nm,tt,q⟩:=x;rw[hx] at hu;dsimp only at hu⊢;rw[hu];rfl
  induction hu:isUn (code t.er.plain) with
  |true=>
   walk_at "D";walk_at "D"
   induction hx:opOf (code t.er.plain) with
   |none=>unfold isUn at hu;rw[hx] at hu;injection hu
   |some x=>exact num x hx
  |false=>
   walk_at "D";rw[rT h];refine⟨rfl,nQ T (fu hn rfl) pt gt.ne gl (Qd T (fu hn rfl) ?_)⟩;rw[isb hu]
   induction hx:opOf (code t.er.plain) with
   |some x=>
    dsimp only[Option.isSome_some];walk_at "D";walk_at "D";exact num x hx
   |none=>
    dsimp only[Option.isSome_none];walk_at "D";walk_at "D";walk_at "D";rw[rT h];refine⟨rfl,nQ T (fu hn rfl) pt gt.ne gl ⟨ll rfl,kJ (l:= [27,28,4,13,14]) (br (λhc=>?_) λhc=>?_)⟩⟩
    ·walk_at "D"
     exact xJ T (fu hn rfl) h hty hc h0 h1
    ·walk_at "D"
     walk_at "D";refine h0 ?_ _ (.refl _);have e1:ers (t::p::r)=t.er::p.er::ers r:=rfl;rw[e1];rcases uK twf with⟨op,hop,_⟩|⟨c',k,f,hop,hc'⟩|⟨k,f,s,hop⟩
     ·rw[hop]
      rw[hop] at hx hc;exact yE ⟨hx,λz=>hc ((List.Perm.mem_iff (by decide)).mp z)⟩ _
     ·rw[hop]
      rw[hop] at hc;exact uN (op:= [c',k]) (λz=>hc (show c'∈_ from(show c'=4 from z)▸aH _ (aH _ aE))) _
     ·rw[hop] at hc
      exact absurd (show(4:Int)∈_ by decide) hc
end
structure zE(σ σ':H)(l:Addr)(as as':List A):Prop where
 er:ers as'=(fos lr1 lr2 (ers as) []).reverse
 lst:σ' l=some (.list (as'.map ob))
 hold:holds σ' as'
 nodup:(l::fps as').Nodup
 fr:∀b,σ b≠none->b∉l::fps as->σ' b=σ b
 new:∀b∈fps as',b∈fps as∨σ b=none
 live:∀b,σ b≠none->σ' b≠none
noncomputable def uP(x:A):List V:=nn x.fst++nn x.snd
noncomputable def FP(cx:Cx)(m D:Nat):Prop:=∀(l:Addr) (as:List A) (σ:H) (Q:QV) (X:XH) (S':List Int),σ l=some (.list (as.map ob))->holds σ as->(l::fps as).Nodup->Tys (ers as) [] S'->deps (ers as)<D->fln (ers as)<=1000->
 (∀σ' as',zE σ σ' l as as'->Q .none σ')->CTK cx m 478 [.obj l] σ Q X
theorem lE{a:Addr}{l l':List Addr}{σ:H}(ha:a∉l)(hn:∀b∈l',b∈l∨σ b=none)(hl:σ a≠none):a∉l':=λh=>(hn a h).elim ha hl
theorem Oa(op:Op)(f:List T):(T.blk op f).fl.length=fln f+2:=by simp[T.fl,fln]
theorem Na(op:Op)(f s:List T):(T.ife op f s).fl.length=fln f+fln s+3:=by simp[T.fl,fln];exact cI _
theorem nm2{a b:Addr}{l:List Addr}(h:a≠b)(h':a∉l):a∉b::l:=List.not_mem_cons_of_ne_of_not_mem h h'
theorem nm_e{a b:Addr}{l:List Addr}(h:a∉b::l):a≠b/\a∉l:=⟨List.ne_of_not_mem_cons h,List.not_mem_of_not_mem_cons h⟩
theorem nb{a d l:Addr}{F:List Addr}:(a::d::l::F).Nodup↔(a≠d/\a≠l/\a∉F)/\(d≠l/\d∉F)/\(l::F).Nodup:=by
 rw[aL,aL (a:=d)];exact⟨λh=>⟨⟨(nm_e h.1).1,nm_e (nm_e h.1).2⟩,nm_e h.2.1,h.2.2⟩,λh=>⟨nm2 h.1.1 (nm2 h.1.2.1 h.1.2.2),nm2 h.2.1.1 h.2.1.2,h.2.2⟩⟩
theorem na_e{a:Addr}{F G:List Addr}(h:a∉F++G):a∉F/\a∉G:=⟨λz=>h (aU _ z),λz=>h (bE _ z)⟩
theorem na{a:Addr}{F G:List Addr}(h:a∉F)(h':a∉G):a∉F++G:=λz=>(bB.mp z).elim h h'
theorem oY{x:Addr}{F F':List Addr}{σ:H}(h:∀b∈F',b∈F∨σ b=none):∀b∈x::F',b∈x::F∨σ b=none:=λb hb=>(aJ.mp hb).elim (λe=>.inl (e▸ .head _)) λz=>(h b z).imp (.tail _) id
theorem Bs{F F' G G':List Addr}{σ:H}(h:∀b∈F',b∈F∨σ b=none)(h':∀b∈G',b∈G∨σ b=none):∀b∈F'++G',b∈F++G∨σ b=none:=λb hb=>
 (bB.mp hb).elim (λz=>(h b z).imp (aU _) id) λz=>(h' b z).imp (bE _) id
structure Inn(σ σ':H)(x x':A):Prop where
 er:x'.er=x.er.fo lr1 lr2
 ad:x'.ad=x.ad
 hold:x'.hold σ'
 nodup:x'.fp.Nodup
 fr:∀b,σ b≠none->b∉x.fp->σ' b=σ b
 new:∀b∈x'.fp,b∈x.fp∨σ b=none
 live:∀b,σ b≠none->σ' b≠none
theorem Io{σ:H}{a d:Addr}{op:Op}(h:(A.leaf a d op).hold σ)(nd:(A.leaf a d op).fp.Nodup):Inn σ σ (.leaf a d op) (.leaf a d op):=
 ⟨rfl,rfl,h,nd,λJ J J=>rfl,λJ hb=>.inl hb,λJ h=>h⟩
theorem Et{σ σ':H}{a d l:Addr}{op:Op}{f f':List A}(h:(A.blk a d l op f).hold σ)(nd:(a::d::l::fps f).Nodup)(P:zE σ σ' l f f'):Inn σ σ' (.blk a d l op f) (.blk a d l op f'):=by
 have nd:=nb.mp nd;refine⟨congrArg (T.blk _) P.er,rfl,?_,?_,λb hb hn=>P.fr b hb λz=>hn (.tail _ (.tail _ z)),oY (oY (oY P.new)),P.live⟩
 ·show _/\_
  exact⟨⟨(P.fr a (lv h.1.1) (nm2 nd.1.2.1 nd.1.2.2)).trans h.1.1,(P.fr d (lv h.1.2) (nm2 nd.2.1.1 nd.2.1.2)).trans h.1.2⟩,P.lst,P.hold⟩
 ·exact nb.mpr ⟨⟨nd.1.1,nd.1.2.1,lE nd.1.2.2 P.new (lv h.1.1)⟩,⟨nd.2.1.1,lE nd.2.1.2 P.new (lv h.1.2)⟩,P.nodup⟩
structure Nd4(a d l k:Addr)(F G:List Addr):Prop where
 ad:a≠d
 al:a≠l
 ak:a≠k
 aF:a∉F
 aG:a∉G
 dl:d≠l
 dk:d≠k
 dF:d∉F
 dG:d∉G
 lk:l≠k
 lF:l∉F
 lG:l∉G
 kF:k∉F
 kG:k∉G
 nF:F.Nodup
 nG:G.Nodup
 FG:∀b∈F,b∉G
theorem nd4{a d l k:Addr}{F G:List Addr}(h:(a::d::l::k::(F++G)).Nodup):Nd4 a d l k F G:=by
 have h:=nb.mp h;have h3:=aL.mp h.2.2;have h4:=aL.mp h3.2;have h5:=bX.mp h4.2;have a3:=nm_e h.1.2.2;have d3:=nm_e h.2.1.2;have l3:=nm_e h3.1;exact⟨h.1.1,h.1.2.1,a3.1,(na_e a3.2).1,(na_e a3.2).2,h.2.1.1,d3.1,(na_e d3.2).1,(na_e d3.2).2,l3.1,(na_e l3.2).1,(na_e l3.2).2,(na_e h4.1).1,(na_e h4.1).2,h5.1,h5.2.1,λb hb hb'=>h5.2.2 b hb b hb' rfl⟩
theorem Nd4.mk'{a d l k:Addr}{F G:List Addr}(h:Nd4 a d l k F G):(a::d::l::k::(F++G)).Nodup:=
 nb.mpr ⟨⟨h.ad,h.al,nm2 h.ak (na h.aF h.aG)⟩,⟨h.dl,nm2 h.dk (na h.dF h.dG)⟩,aL.mpr ⟨nm2 h.lk (na h.lF h.lG),aL.mpr ⟨na h.kF h.kG,bX.mpr ⟨h.nF,h.nG,λb hb b' hb' e=>h.FG b hb (e▸hb')⟩⟩⟩⟩
theorem Es{σ σ₁:H}{a d l k:Addr}{op:Op}{f f' g:List A}(h:(A.ife a d l k op f g).hold σ)(N:Nd4 a d l k (fps f) (fps g))(P:zE σ σ₁ l f f'):σ₁ k=some (.list (g.map ob))/\holds σ₁ g:=by
 exact⟨(P.fr k (lv h.2.2.1) (nm2 N.lk.symm N.kF)).trans h.2.2.1,h.2.2.2.frame λb hb=>P.fr b (h.2.2.2.live b hb) (nm2 (λe=>N.lG (e▸hb)) λz=>N.FG b z hb)⟩
theorem Dt{σ σ₁ σ':H}{a d l k:Addr}{op:Op}{f f' g g':List A}(h:(A.ife a d l k op f g).hold σ)(N:Nd4 a d l k (fps f) (fps g))(P:zE σ σ₁ l f f')(R:zE σ₁ σ' k g g'):Inn σ σ' (.ife a d l k op f g) (.ife a d l k op f' g'):=by
 have lg:=h.2.2.2.live;have ea:σ₁ a=σ a:=P.fr a (lv h.1.1) (nm2 N.al N.aF);have ed:σ₁ d=σ d:=P.fr d (lv h.1.2) (nm2 N.dl N.dF);have la:σ₁ a≠none:=by rw[ea];exact lv h.1.1
 have ld:σ₁ d≠none:=by rw[ed];exact lv h.1.2
 have fg:∀b∈fps f',b∉k::fps g:=λb hb=>(P.new b hb).elim (λz=>nm2 (λe=>N.kF (e▸z)) (N.FG b z)) λz=>nm2 (λe=>lv h.2.2.1 (e▸z)) λy=>lg b y z
 have pl:=P.hold.live;have np:=aL.mp P.nodup;have nr:=aL.mp R.nodup;have rnew:∀b∈fps g',b∈fps g∨σ b=none:=λb hb=>(R.new b hb).imp id λz=>aV λy=>P.live b y z
 refine⟨congr (congrArg (T.ife _) P.er) R.er,rfl,?_,Nd4.mk' ⟨N.ad,N.al,N.ak,lE N.aF P.new (lv h.1.1),lE N.aG R.new la,N.dl,N.dk,lE N.dF P.new (lv h.1.2),lE N.dG R.new ld,N.lk,np.1,lE N.lG R.new (lv P.lst),lE N.kF P.new (lv h.2.2.1),nr.1,np.2,nr.2,λb hb hb'=>?_⟩,
  λb hb hn=>?_,oY (oY (oY (oY (Bs P.new rnew)))),λb z=>R.live b (P.live b z)⟩
 ·show _/\_
  exact⟨⟨((R.fr a la (nm2 N.ak N.aG)).trans ea).trans h.1.1,((R.fr d ld (nm2 N.dk N.dG)).trans ed).trans h.1.2⟩,⟨(R.fr l (lv P.lst) (nm2 N.lk N.lG)).trans P.lst,P.hold.frame λb hb=>R.fr b (pl b hb) (fg b hb)⟩,R.lst,R.hold⟩
 ·exact(R.new b hb').elim (λz=>fg b hb (.tail _ z)) (pl b hb)
 ·have hn:=nm_e (nm_e (nm_e hn).2).2
  have hk:=nm_e hn.2;have hF:=na_e hk.2;have h1:σ₁ b=σ b:=P.fr b hb (nm2 hn.1 hF.1);exact(R.fr b (by rw[h1];exact hb) (nm2 hk.1 hF.2)).trans h1
section
variable{cx:Cx}{m D:Nat}{t:Ft}{B:Rho->H->QS->Prop}{Q:QS}{n i:Nat}{ρ:Rho}{σ:H}{c:Addr}{vs:List V}
theorem Ma{ρ':Rho}{v:V}(hc:σ c=some (.list vs))(hz:vs.length<=lim)(hv:vs[i]?=some v)(hb:pM t v ρ=some ρ')(h:B ρ' σ (lpQ (λρ σ=>forN (.lst c) t B Q n (i+1) ρ σ) Q)):forN (.lst c) t B Q (n+1) i ρ σ:=by
 show om (mC (.lst c) i σ) _;rw[mO hc hz,hv,jR];show om (pM t v ρ) _;rw[hb,jR];exact h
theorem La(hc:σ c=some (.list vs))(hz:vs.length<=lim)(hv:vs[i]?=none)(h:Q .next ρ σ):forN (.lst c) t B Q (n+1) i ρ σ:=by
 show om (mC (.lst c) i σ) _;rw[mO hc hz,hv,jR];exact h
theorem yI(x:A):(uP x).length<=lim:=by induction x using A.casesOn<;>exact ll rfl
noncomputable def Bin(cx:Cx)(m:Nat):Rho->H->QS->Prop:=λρ σ q=>blk (CTK cx m) (iss [(.expr (.call (.val (.raw (.ref 478))) (ies [(.loc 3)])))]) ρ σ q λJ J=>False
theorem Hg{l:Addr}{p q r:Option V}{K:QS}(h:CTK cx m 478 [.obj l] σ (λJ σ=>K .next [p,q,r,some (.obj l)] σ) λJ=>False):Bin cx m [p,q,r,some (.obj l)] σ K:=h
theorem Wf(IH:FP cx m D){x:A}{c:Addr}{S S':List Int}{p q r s:Option V}(hx:x.hold σ)(nd:x.fp.Nodup)(ty:Ty x.er S S')(hd:x.er.dep<D+1)(hf:x.er.fl.length<=1000)(hc:σ c=some (.list (uP x)))(hcf:c∉x.fp)
 (hQ:∀(σ':H) (x':A) y,Inn σ σ' x x'->Q .next [p,q,r,y] σ'):forN (Src.lst c) (Ft.one 3) (Bin cx m) Q (lZ (Src.lst c) σ+1) 0 [p,q,r,s] σ:=by
 rw[mK hc];have hz:=yI x
 induction x using A.casesOn with
 |leaf a d op=>exact La hc hz rfl (hQ σ _ s (Io hx nd)) |blk a d l op f=>
  have fty:∃Z,Tys (ers f) [] Z:=by
   change Ty (.blk op (ers f)) _ _ at ty;cases ty with
   |blk _ z=>exact⟨_,z⟩ |if1 _ z=>exact⟨_,z⟩
  refine e11 fty λZ fty=>?_
  change deps (ers f)+1<_ at hd;change (T.blk op (ers f)).fl.length<=_ at hf;rw[Oa] at hf;have hh:=hx;refine Ma hc hz rfl rfl (Hg (IH l f σ _ _ Z hh.2.1 hh.2.2 (nb.mp nd).2.2 fty (Nat.lt_of_succ_lt_succ hd) (aC (cN _ _) hf) λσ' f' P=>lp1 ?_))
  exact La ((P.fr c (lv hc) (nm_e (nm_e hcf).2).2).trans hc) hz rfl (hQ σ' _ _ (Et hx nd P))
 |ife a d l k op f g=>
  have fty:∃Z Z',Tys (ers f) [] Z/\Tys (ers g) [] Z':=by
   change Ty (.ife op (ers f) (ers g)) _ _ at ty;cases ty with
   |ife _ z z'=>exact⟨_,_,z,z'⟩
  refine e22 fty λZ Z' fty gty=>?_
  change max (deps (ers f)) (deps (ers g))+1<_ at hd;change (T.ife op (ers f) (ers g)).fl.length<=_ at hf;rw[Na] at hf;have N:=nd4 nd;have hh:=hx;have hcf:=nm_e (nm_e (nm_e hcf).2).2;have hck:=nm_e hcf.2;have hF:=na_e hck.2;refine Ma hc hz rfl rfl (Hg (IH l f σ _ _ Z hh.2.1.1 hh.2.1.2 (aL.mpr ⟨N.lF,N.nF⟩) fty (by lia) (by lia) λσ₁ f' P=>lp1 ?_))
  have hc1:=(P.fr c (lv hc) (nm2 hcf.1 hF.1)).trans hc;have M:=Es hx N P;refine Ma hc1 hz rfl rfl (Hg (IH k g σ₁ _ _ Z' M.1 M.2 (aL.mpr ⟨N.kG,N.nG⟩) gty (by lia) (by lia) λσ' g' R=>lp1 ?_))
  exact La ((R.fr c (lv hc1) (nm2 hck.1 hF.2)).trans hc1) hz rfl (hQ σ' _ _ (Dt hx N P R))
end
structure LIc(σ0 σ:H)(l fd:Addr)(as rest acc:List A):Prop where
 fl:σ fd=some (.list (acc.reverse.map ob))
 ho:holds σ acc
 lst:σ l=some (.list (as.map ob))
 hr:holds σ rest
 nd:(l::fd::(fps acc++fps rest)).Nodup
 fr:∀b,σ0 b≠none->b∉l::fps as->σ b=σ0 b
 new:∀b∈fps acc,b∈fps as∨σ0 b=none
 live:∀b,σ0 b≠none->σ b≠none
 sub:∀b∈fps rest,b∈fps as
 fd0:σ0 fd=none
structure LIp(as rest acc:List T)(Z:List Int):Prop where
 ty:∃S S0,RTy acc S0/\S0<+:S/\Tys rest S Z
 val:fos lr1 lr2 rest acc=fos lr1 lr2 as []
 rn:RN lr1 lr2 acc
 sz:fln acc+fln rest<=fln as
 tot:fln as<=1000
theorem LIc.ext{σ0 σ σ':H}{l fd:Addr}{as rest acc:List A}(h:LIc σ0 σ l fd as rest acc)(x:Ext σ σ'):LIc σ0 σ' l fd as rest acc:=
 ⟨x _ _ h.fl,h.ho.ext x,x _ _ h.lst,h.hr.ext x,h.nd,λb hb hn=>by
   rw[x.eq (h.live b hb)];exact h.fr b hb hn,h.new,λb hb=>by rw[x.eq (h.live b hb)];exact h.live b hb,h.sub,h.fd0⟩
theorem So{σ0 σ:H}{l fd:Addr}{as rest acc:List A}{S:List Int}(h:LIc σ0 σ l fd as rest acc)(ht:RTy (ers acc) S)(hz:fln (ers acc)<=1000):Fnd σ fd acc:=by
 have nd:=h.nd;rw[aL,aL] at nd;refine⟨h.fl,h.ho,aL.mpr ⟨λhm=>nd.2.1 (aU _ hm),(bX.mp nd.2.2).1⟩,?_,Kx ht⟩
 have:=uW (ers acc);rw[mS,aB] at this;rw[←mS] at this;exact aC this hz
theorem tE{F G:List Addr}(h:F.Nodup)(h':G.Nodup)(k:∀b∈F,b∉G):(F++G).Nodup:=bX.mpr ⟨h,h',λb hb b' hb' e=>k b hb (e▸hb')⟩
structure Nd3(l fd:Addr)(F G:List Addr):Prop where
 lfd:l≠fd
 lF:l∉F
 lG:l∉G
 fF:fd∉F
 fG:fd∉G
 nF:F.Nodup
 nG:G.Nodup
 FG:∀b∈F,b∉G
theorem nd3{l fd:Addr}{F G:List Addr}(h:(l::fd::(F++G)).Nodup):Nd3 l fd F G:=by
 have h3:=aL.mp h;have h4:=aL.mp h3.2;have h5:=bX.mp h4.2;have l3:=nm_e h3.1;exact⟨l3.1,(na_e l3.2).1,(na_e l3.2).2,(na_e h4.1).1,(na_e h4.1).2,h5.1,h5.2.1,λb hb hb'=>h5.2.2 b hb b hb' rfl⟩
theorem Nd3.mk'{l fd:Addr}{F G:List Addr}(h:Nd3 l fd F G):(l::fd::(F++G)).Nodup:=
 aL.mpr ⟨nm2 h.lfd (na h.lF h.lG),aL.mpr ⟨na h.fF h.fG,tE h.nF h.nG h.FG⟩⟩
theorem LIc.step{σ0 σ σ':H}{l fd:Addr}{as rest acc acc':List A}(h:LIc σ0 σ l fd as rest acc)(st:Step σ σ' fd acc acc'):LIc σ0 σ' l fd as rest acc':=by
 have N:=nd3 h.nd;have ll:=lv h.lst;have lr:=h.hr.live;have snd:=aL.mp st.nodup;have fdn:∀b,σ0 b≠none->b≠fd:=λb hb e=>hb (e▸h.fd0)
 have e:∀b,σ0 b≠none->σ' b=σ b:=λb hb=>st.fr b (h.live b hb) (fdn b hb)
 exact⟨st.lst,st.hold,(st.fr l ll N.lfd).trans h.lst,h.hr.frame λb hb=>st.fr b (lr b hb) λe=>N.fG (e▸hb),
  Nd3.mk' ⟨N.lfd,lE N.lF st.new ll,N.lG,snd.1,N.fG,snd.2,N.nG,λb hb hb'=>(st.new b hb).elim (λz=>N.FG b z hb') λz=>lr b hb' z⟩,
  λb hb hn=>(e b hb).trans (h.fr b hb hn),λb hb=>(st.new b hb).elim (h.new b) λz=>.inr (aV λq=>h.live b q z),λb hb=>by rw[e b hb];exact h.live b hb,h.sub,h.fd0⟩
theorem LIc.push{σ0 σ σ1 σ2:H}{l fd:Addr}{as rest acc:List A}{x x':A}(h:LIc σ0 σ l fd as (x::rest) acc)(xe:Ext σ σ1)(I:Inn σ1 σ2 x x'):LIc σ0 (upd σ2 fd (.list ((x'::acc).reverse.map ob))) l fd as rest (x'::acc):=by
 have N:=nd3 h.nd;have nx:=bX.mp N.nG;have xG:∀b∈x.fp,b∉fps rest:=λb hb hb'=>nx.2.2 b hb b hb' rfl
 have ll:=lv h.lst;have lfd:=lv h.fl;have la:=h.ho.live;have lr:=h.hr.2.live;have fr:∀b,σ b≠none->b∉x.fp->σ2 b=σ b:=λb hb hn=>(I.fr b (by rw[xe.eq hb];exact hb) hn).trans (xe.eq hb)
 have new:∀b∈x'.fp,b∈x.fp∨σ b=none:=λb hb=>(I.new b hb).imp id λz=>xe.ne z
 have lx:=na_e (show l∉x.fp++fps rest from N.lG)
 have fx:=na_e (show fd∉x.fp++fps rest from N.fG)
 have ax:∀b∈fps acc,b∉x.fp/\b∉fps rest:=λb hb=>na_e (show b∉x.fp++fps rest from N.FG b hb)
 refine⟨jP ..,⟨I.hold.frame λb hb=>jQ _ _ λe=>(new b hb).elim (λz=>fx.1 (e▸z)) λz=>lfd (e▸z),h.ho.frame λb hb=>?_⟩,?_,h.hr.2.frame λb hb=>?_,
  Nd3.mk' ⟨N.lfd,na (lE lx.1 new ll) N.lF,lx.2,na (lE fx.1 new lfd) N.fF,fx.2,tE I.nodup N.nF λb hb hb'=>(new b hb).elim (λz=>(ax b hb').1 z) λz=>la b hb' z,nx.2.1,λb hb hb'=>(bB.mp hb).elim (λhb=>(new b hb).elim (λz=>xG b z hb') λz=>lr b hb' z) λhb=>(ax b hb).2 hb'⟩,
  λb hb hn=>?_,λb hb=>?_,λb hb=>?_,λb hb=>h.sub b (bE _ hb),h.fd0⟩
 ·rw[jQ _ _ λe=>N.fF (by rw[←e];exact hb)]
  exact fr b (la b hb) (ax b hb).1
 ·rw[jQ _ _ N.lfd,fr l ll lx.1];exact h.lst
 ·rw[jQ _ _ λe=>fx.2 (by rw[←e];exact hb)]
  exact fr b (lr b hb) λz=>xG b z hb
 ·rw[jQ _ _ (show b≠fd from λe=>hb (e▸h.fd0)),fr b (h.live b hb) λz=>hn (.tail _ (h.sub b (aU _ z)))]
  exact h.fr b hb hn
 ·exact(bB.mp hb).elim (λhb=>(new b hb).elim (λz=>.inl (h.sub b (aU _ z))) λz=>.inr (aV λq=>h.live b q z)) (h.new b)
 ·rw[jQ _ _ (show b≠fd from λe=>hb (e▸h.fd0))]
  exact I.live b (by rw[xe.eq (h.live b hb)];exact h.live b hb)
theorem LIc.done{σ0 σ:H}{l fd:Addr}{as acc:List A}(h:LIc σ0 σ l fd as [] acc)(hv:ers acc=fos lr1 lr2 (ers as) []):zE σ0 (upd σ l (.list (acc.reverse.map ob))) l as acc.reverse:=by
 have N:=nd3 h.nd;refine⟨by rw[Cd,hv],jP ..,?_,?_,λb hb hn=>?_,λb hb=>h.new b (mA.mp hb),λb hb=>?_⟩
 ·rw[xB]
  exact h.ho.frame λb hb=>jQ _ _ λe=>N.lF (e▸hb)
 ·rw[aL,sD]
  exact⟨λhm=>N.lF (mA.mp hm),N.nF⟩
 ·rw[jQ _ _ (nm_e hn).1];exact h.fr b hb hn
 ·by_cases e:b=l
  ·rw[e,jP];exact λz=>by contradiction
  ·rw[jQ _ _ e];exact h.live b hb
set_option tactic.hygienic true in
theorem LIp.settle{as rest acc:List T}{Z:List Int}{t:T}(h:LIp as (t::rest) acc Z):(∃S S0,RTy (t.fo lr1 lr2::acc) S0/\S0<+:S)/\LIp as rest (settle lr1 lr2 (t.fo lr1 lr2::acc)) Z/\fln (t.fo lr1 lr2::acc)<=1000:=by
 refine e23 h.ty λS S0 h1 h2 h3=>?_
 cases h3 with
 |cons ht hz=>
  rename_i S'
  refine e12 ((Lv Wb ht).weak h2) λS0' p' ht'=>?_
  have hr:RTy (t.fo lr1 lr2::acc) S0':=⟨S0,h1,ht'⟩;refine e12 (sV Wb hr) λS1 p1 hr1=>?_
  have e1:=Po (r1:=lr1) (r2:=lr2) t;have e2:=vF (r1:=lr1) (r2:=lr2) (t.fo lr1 lr2::acc);have e3:=h.sz;have e4:=h.tot;rw[lA] at e2 e3;refine⟨⟨S',S0',hr,p'⟩,⟨⟨S',S1,hr1,p1.trans p',hz⟩,?_,xZ (Qo t) h.rn,by lia,h.tot⟩,by rw[lA];lia⟩
  rw[←h.val];rfl
theorem LIp.room{as rest acc:List T}{Z:List Int}(h:LIp as rest acc Z):fln acc<=1000:=aC (aC (cN _ _) h.sz) h.tot
theorem LIp.head{as rest acc:List T}{Z:List Int}{t:T}(h:LIp as (t::rest) acc Z):(∃S S',Ty t S S')/\t.fl.length<=1000:=by
 refine e23 h.ty λS S0 h1 h2 h3=>?_
 have e1:=h.sz;have e2:=h.tot;rw[lA] at e1;refine⟨?_,by lia⟩
 cases h3 with
 |cons ht _=>exact⟨_,_,ht⟩
theorem yV{as:List A}{i:Nat}{x:A}(h:as.drop i=x::as.drop (i+1)){D:Nat}(hd:deps (ers as)<D):x.er.dep<D:=by
 have e:deps (ers as)=max (deps (ers (as.take i))) (deps (ers (as.drop i))):=by
  rw[←pF,←mF,cW]
 rw[h,show ers (x::as.drop (i+1))=x.er::ers (as.drop (i+1)) from rfl,deps] at e
 exact Nat.lt_of_le_of_lt (aC (dW _ _) (e▸cM _ _)) hd
theorem Db{acc:List A}(h:fln (ers acc)<=1000):acc.length<=1000:=by
 have:=uW (ers acc);rw[mS,aB,←mS] at this;exact aC this h
section
variable{cx:Cx}(T:Prog cx){m D:Nat}{l fd:Addr}{as:List A}{σ0 σ:H}{i:Nat}{S':List Int}{W:Rho->H->Prop}{Q:QS}{n:Nat}
include T
theorem Kz{acc rest:List A}{x y:Option V}(hm:24<=n)(hW:∀acc y σ',LIc σ0 σ' l fd as rest acc->LIp (ers as) (ers rest) (ers acc) S'->W [some (.obj l),some (.obj fd),x,y] σ')
 (hc:LIc σ0 σ l fd as rest acc)(hty:∃S,RTy (ers acc) S)(hz:fln (ers acc)<=1000)(hp:LIp (ers as) (ers rest) (settle lr1 lr2 (ers acc)) S'):
 blk (CTK cx n) (iss [(.whl (.call (.val (.raw (.ref 471))) (ies [(.loc 1)])) (iss [.pass]))]) [some (.obj l),some (.obj fd),x,y] σ (lpQ W Q) λJ J=>False:=by
 refine e11 hty λS hty=>?_
 refine bk1 ⟨3,?_⟩;refine uE T hm (So hc hty hz) hty (λhred σ' xe=>?_) λσ' acc2 hred st=>?_
 ·rw[show settle lr1 lr2 (ers acc)=ers acc by unfold settle;rw[hred];rfl] at hp
  exact lp1 (Q:=Q) (hW _ _ _ (hc.ext xe) hp)
 ·rw[show settle lr1 lr2 (ers acc)=ers acc2 by unfold settle;rw[hred];rfl] at hp
  have hc4:=hc.step st;refine e23 hp.ty λV V0 hty2 z1 z2=>?_
  have hnone:red lr1 lr2 (ers acc2)=none:=by
   have:=hp.rn
   induction h:ers acc2 using List.casesOn with
   |nil=>rfl |cons t r=>rw[h] at this;exact this.1
  refine uE T hm (So hc4 hty2 hp.room) hty2 (λJ σ'' xe=>lp1 (Q:=Q) (hW _ _ _ (hc4.ext xe) hp)) λσ'' acc3 hr2 J=>?_
  rw[hnone] at hr2;exact by contradiction
theorem Pt(hm:24<=n)(IH:FP cx n D){acc:List A}{x:A}{y:Option V}(hdrop:as.drop i=x::as.drop (i+1))(hd:deps (ers as)<D+1)
 (hW:∀acc x y σ',LIc σ0 σ' l fd as (as.drop (i+1)) acc->LIp (ers as) (ers (as.drop (i+1))) (ers acc) S'->W [some (.obj l),some (.obj fd),x,y] σ')
 (hc:LIc σ0 σ l fd as (x::as.drop (i+1)) acc)(hp:LIp (ers as) (ers (x::as.drop (i+1))) (ers acc) S'):
 blk (CTK cx n) (iss [(.for_ (.one 3) (.of (.meth (.loc 2) (.call 369) (ies []))) (iss [(.expr (.call (.val (.raw (.ref 478))) (ies [(.loc 3)])))])),(.expr (.meth (.loc 1) .append (ies [(.loc 2)]))),(.whl (.call (.val (.raw (.ref 471))) (ies [(.loc 1)])) (iss [.pass]))]) [some (.obj l),some (.obj fd),some (ob x),y] σ (lpQ W Q) λJ J=>False:=by
 have hxh:x.hold σ:=hc.hr.1;have px:=hxh.p3;walk_at "D";refine e02 (A.fst_ok x) λf1 f2=>?_
 refine e02 (A.snd_ok x) λs1 s2=>?_
 refine⟨Cv px,rfl,Hh px (Zt T (fv hm rfl) px f1 s1 f2 s2 (jS (yI x) λc hcn=>?_))⟩
 have xc:Ext σ (upd σ c (.list (uP x))):=.upd hcn;show om (jX (upd σ c (.list (uP x)) c)) _;rw[jP,jW,jR];refine e02 hp.head λU hfl=>?_
 refine e21 U λU U' hty=>?_
 refine Wf IH (hxh.frame λb hb=>xc.eq (hxh.live b hb)) (bX.mp (nd3 hc.nd).nG).1 hty (yV hdrop hd) hfl (jP ..) (λhm=>hxh.live c hm hcn) λσ2 x' y I=>?_
 have hc3:=hc.push xc I;refine e03 hp.settle λz1 hp' hsz=>?_
 refine e22 z1 λS S0 hty2 z2=>?_
 have ers3:ers (x'::acc)=x.er.fo lr1 lr2::ers acc:=by rw[←I.er];rfl
 rw[←ers3] at hty2 hp' hsz;have efd:σ2 fd=some (.list (acc.reverse.map ob)):=(I.fr fd (λe=>lv hc.fl ((xc.eq (lv hc.fl)).symm.trans e)) λz=>(nd3 hc.nd).fG (aU _ z)).trans ((xc.eq (lv hc.fl)).trans hc.fl)
 walk_at "D";rw[efd,jW,jR,jR];have eacc:acc.reverse.map ob++ [ob x]=(x'::acc).reverse.map ob:=by rw[show ob x=ob x' by unfold ob;rw[I.ad],zX]
 rw[eacc];refine⟨trivial,by rw[aB,aW];exact kE (Db hsz),nx1 ?_⟩
 exact Kz T hm (λacc y σ' a b=>hW acc _ y σ' a b) hc3 ⟨S0,hty2⟩ hsz hp'
theorem xH(D:Nat):∀m,26+2*D<=m->FP cx m D:=by
 induction D with
 |zero=>intro m hm l as σ Q X S' _ _ _ _ hd;exact absurd hd (Nat.not_lt_zero _)
 |succ D ih=>
  intro m hm l as σ0 Q X S' hl hh nd ty hd hf hQ;refine ctl (k:=26) T (xN T) (aC (cN _ _) hm) rfl rfl rfl ?_;have IH:=ih (m-2) (cC hm);walk_at "D";refine jS (aP _) λfd hfd=>?_
  have hlen:as.length<=1000:=Db hf;have hzl:(as.map ob).length<=lim:=by rw[aB];exact kE hlen
  have fdl:fd≠l:=λe=>by rw[e,hl] at hfd;exact by contradiction
  have fda:fd∉fps as:=λhm=>hh.live fd hm hfd
  have x0:Ext σ0 (upd σ0 fd (.list [])):=.upd hfd;have hl0:=x0 _ _ hl;walk_at "D";rw[hl0,jW,jR,mK hl0]
  refine Ka (vs:=as.map ob) (λi ρ σ=>∃acc x y,ρ= [some (.obj l),some (.obj fd),x,y]/\LIc σ0 σ l fd as (as.drop i) acc/\LIp (ers as) (ers (as.drop i)) (ers acc) S')
   (λi ρ σ h=>?_) (λρ σ h=>?_) (λi ρ σ v h hv=>?_) _ 0 _ _ ?_ (aP _) (cB _)
  ·refine e33 h λacc x y z0 hc z1=>?_
   exact mO hc.lst hzl i
  ·refine e33 h λacc x y z0 hc hp=>?_
   subst z0;rw[aB,List.drop_length] at hc hp
   have hval:ers acc=fos lr1 lr2 (ers as) []:=by
    have:=hp.val
    rwa [show ers ([]:List A)= [] from rfl,fos] at this
   walk_at "D";rw[hc.lst,hc.fl,jW,jR,jW,jR,Lj,jR];have hal:(acc.reverse.map ob).length<=lim:=by rw[aB,aW];exact kE (Db hp.room)
   exact⟨fdl.symm,⟨hzl,hal⟩,hal,nx1 (bk0 (hQ _ acc.reverse (hc.done hval)))⟩
  ·refine e33 h λacc xx yy z0 hc hp=>?_
   subst z0;rw[bH] at hv;refine mapS hv λx hx z1=>?_
   subst z1
   have hdrop:as.drop i=x::as.drop (i+1):=by
    rw[List.drop_eq_getElem_cons (aT.mp hx).1];exact congrArg (· ::_) (aT.mp hx).2
   rw[hdrop] at hc hp;exact⟨_,rfl,λW hW=>Pt T (cC (aC (cN _ _) hm)) IH hdrop hd (λacc x y σ' a b=>hW _ _ ⟨_,_,_,rfl,a,b⟩) hc hp⟩
  ·refine⟨[],none,none,rfl,⟨jP ..,trivial,hl0,hh.ext x0,?_,λb hb hn=>x0.eq hb,by intros;contradiction,λb hb=>(by rw[x0.eq hb];exact hb),λb hb=>hb,hfd⟩,⟨⟨[],[],rfl,bU,ty⟩,rfl,trivial,?_,hf⟩⟩
   ·have nd:=aL.mp nd
    exact aL.mpr ⟨nm2 fdl.symm nd.1,aL.mpr ⟨fda,nd.2⟩⟩
   ·exact cZ (fC _)
end
noncomputable def PP(cx:Cx)(m D:Nat):Prop:=∀(l b:Addr) (as:List A) (pre:List Op) (σ:H) (Q:QV) (X:XH),σ l=some (.list (as.map ob))->holds σ as->σ b=some (.list (pre.map tupO))->b∉l::fps as->(∀t∈ers as,True)->deps (ers as)<D->pre.length+fln (ers as)<=2000->
 (∀σ',σ' b=some (.list ((pre++fls (ers as)).map tupO))->(∀c,c≠b->σ' c=σ c)->Q .none σ')->CTK cx m 397 [.obj l,.obj b] σ Q X
theorem Ab(pre:List Op)(op:Op):pre.map tupO++ [tupO op]=(pre++ [op]).map tupO:=by rw[bJ];rfl
theorem uO{pre:List Op}(hz:pre.length<=2001):(pre.map tupO).length+1<=lim:=by rw[aB];exact aC (aY hz) (by decide)
theorem app5(pre:List Op):pre.map tupO++ [V.tup [.int 5]]=(pre++ [[5]]).map tupO:=Ab pre [5]
theorem Wv(pre:List Op):pre.map tupO++ [V.tup [.int 11]]=(pre++ [[11]]).map tupO:=Ab pre [11]
theorem Zq{as:List A}{i:Nat}{x:A}(hx:as[i]?=some x):as.drop i=x::as.drop (i+1)/\as.take (i+1)=as.take i++ [x]/\as=as.take i++x::as.drop (i+1):=by
 have hdrop:as.drop i=x::as.drop (i+1):=by
  rw[List.drop_eq_getElem_cons (aT.mp hx).1];exact congrArg (· ::_) (aT.mp hx).2
 exact⟨hdrop,by rw[gY,hx];rfl,by rw[←hdrop,cW]⟩
noncomputable def But(b:Addr)(σ σ':H):Prop:=∀c,c≠b->σ' c=σ c
theorem But.trans{b:Addr}{σ σ₁ σ₂:H}(h:But b σ σ₁)(k:But b σ₁ σ₂):But b σ σ₂:=λc hc=>(k c hc).trans (h c hc)
theorem But.upd{b:Addr}{σ:H}{o:O}:But b σ (upd σ b o):=λJ hc=>jQ _ _ hc
theorem A.hold.but{b:Addr}{σ σ':H}{x:A}(h:x.hold σ)(k:But b σ σ')(hb:b∉x.fp):x.hold σ':=h.frame λc hc=>k c λe=>hb (e▸hc)
section
variable{cx:Cx}(T:Prog cx){m D:Nat}{l b:Addr}{pre:List Op}{σ:H}{y:Option V}{W:Rho->H->Prop}{Q:QS}
include T
noncomputable def putA:ISs:=iss [(.expr (.meth (.loc 1) .append (ies [(.tup (ies [(.val (.int 11))]))])))]
omit T in
theorem Bv{x:A}(hb:σ b=some (.list (pre.map tupO)))(hz:pre.length<=2001)(h:∀σ',σ' b=some (.list ((pre++ [[11]]).map tupO))->But b σ σ'->Q .next [some (.obj l),some (.obj b),some (ob x)] σ'):
 blk (CTK cx m) putA [some (.obj l),some (.obj b),some (ob x)] σ Q λJ J=>False:=by
 unfold putA;walk_at "D";refine⟨om_l hb trivial,kE (by decide),om_l hb ⟨uO hz,?_⟩⟩
 rw[Wv];exact nx1 (bk0 (h _ (jP ..) .upd))
theorem Zm(IH:PP cx m D){x:A}(hxh:x.hold σ)(hxb:b∉x.fp)(hb:σ b=some (.list (pre.map tupO)))(hfl:pre.length+x.er.fl.length<=2000)(hxd:x.er.dep<D+1)
 (fin:∀σ',σ' b=some (.list ((pre++x.er.fl).map tupO))->But b σ σ'->Q .next [some (.obj l),some (.obj b),some (ob x)] σ'):
 blk (CTK cx m) (iss [(.expr (.meth (.loc 1) .append (ies [(.attr (.loc 2) .plain)]))),
  (.iff (.cmp (.attr (.loc 2) .first) .IsNot (.val .none)) (iss [(.expr (.call (.val (.raw (.ref 397))) (ies [(.attr (.loc 2) .first),(.loc 1)]))),
  (.iff (.cmp (.attr (.loc 2) .second) .IsNot (.val .none)) (iss [(.expr (.meth (.loc 1) .append (ies [(.tup (ies [(.val (.int 5))]))]))),(.expr (.call (.val (.raw (.ref 397))) (ies [(.attr (.loc 2) .second),(.loc 1)])))]) (iss [])),
  (.expr (.meth (.loc 1) .append (ies [(.tup (ies [(.val (.int 11))]))])))]) (iss []))]) [some (.obj l),some (.obj b),some (ob x)] σ Q λJ J=>False:=by
 walk_at "D";have hp:pre.length<=2001:=aC (cN _ _) (aC hfl (by decide))
 refine⟨om_l hb trivial,pU hxh.p3 (om_l hb ⟨uO hp,?_⟩)⟩;rw[Ab];have b1:But b σ (upd σ b (.list ((pre++ [x.er.plain]).map tupO))):=.upd;have hx1:=hxh.but b1 hxb;have hb1:upd σ b (.list ((pre++ [x.er.plain]).map tupO)) b=some (.list ((pre++ [x.er.plain]).map tupO)):=jP ..;generalize upd σ b (.list ((pre++ [x.er.plain]).map tupO))=σ1 at b1 hx1 hb1;walk_at "D"
 induction x using A.casesOn with
 |leaf a d op=>exact oE hx1.p3 rfl (Hv (nx1 (bk0 (fin _ hb1 b1)))) |blk a d lf op f=>
  refine oE hx1.p3 rfl (Bo ?_);walk_at "D";have hH:=hx1;rw[show(A.blk a d lf op f).er=Internal.T.blk op (ers f) from rfl,Oa] at hfl
  rw[show(A.blk a d lf op f).er=Internal.T.blk op (ers f) from rfl,Internal.T.dep] at hxd
  have len1:(pre++ [op]).length=pre.length+1:=aD;refine oE hx1.p3 rfl (IH lf b f (pre++ [op]) _ _ _ hH.2.1 hH.2.2 hb1 (nm_e (nm_e hxb).2).2 (λJ J=>trivial) (Nat.lt_of_succ_lt_succ hxd) (by rw[len1];lia) λσ' h3 h4=>?_)
  walk_at "D";refine oU (hx1.but h4 hxb).p3 rfl (Hv (nx1 ?_));refine Bv (x:=.blk a d lf op f) h3 (by rw[aD,len1];unfold fln at hfl;lia) λσ'' h5 h6=>fin _ ?_ ((b1.trans h4).trans h6)
  rw[h5,aS,aS];rfl
 |ife a d lf ls op f g=>
  refine oE hx1.p3 rfl (Bo ?_);walk_at "D";have hH:=hx1;rw[show(A.ife a d lf ls op f g).er=Internal.T.ife op (ers f) (ers g) from rfl,Na] at hfl
  rw[show(A.ife a d lf ls op f g).er=Internal.T.ife op (ers f) (ers g) from rfl,Internal.T.dep] at hxd
  have len1:(pre++ [op]).length=pre.length+1:=aD;have q1:=nm_e (nm_e (nm_e hxb).2).2;have q2:=nm_e q1.2;have q3:=na_e q2.2;refine oE hx1.p3 rfl (IH lf b f (pre++ [op]) _ _ _ hH.2.1.1 hH.2.1.2 hb1 (nm2 q1.1 q3.1) (λJ J=>trivial) (by lia) (by rw[len1];lia) λσ' h3 h4=>?_)
  have hx2:=hx1.but h4 hxb;walk_at "D";refine oU hx2.p3 rfl (Bo ?_);walk_at "D";have len2:(pre++ [op]++fls (ers f)).length=pre.length+1+fln (ers f):=by rw[aD,len1];rfl
  refine⟨om_l h3 trivial,kE (by decide),om_l h3 ⟨uO (by rw[len2];lia),?_⟩⟩
  rw[app5];have b3:But b σ' (upd σ' b (.list ((pre++ [op]++fls (ers f)++ [[5]]).map tupO))):=.upd;have hx3:=hx2.but b3 hxb;have hb3:upd σ' b (.list ((pre++ [op]++fls (ers f)++ [[5]]).map tupO)) b=some (.list ((pre++ [op]++fls (ers f)++ [[5]]).map tupO)):=jP ..;generalize upd σ' b (.list ((pre++ [op]++fls (ers f)++ [[5]]).map tupO))=σ3 at b3 hx3 hb3;walk_at "D";have hH3:=hx3;have len3:(pre++ [op]++fls (ers f)++ [[5]]).length=pre.length+1+fln (ers f)+1:=by rw[aD,len2];rfl
  refine oU hx3.p3 rfl (IH ls b g _ _ _ _ hH3.2.2.1 hH3.2.2.2 hb3 (nm2 q2.1 q3.2) (λJ J=>trivial) (by lia) (by rw[len3];lia) λσ'' h5 h6=>nx1 (bk0 (nx1 ?_)))
  refine Bv (x:=.ife a d lf ls op f g) h5 (by rw[aD,len3];unfold fln at hfl⊢;lia) λσ4 h7 h8=>fin _ ?_ ((((b1.trans h4).trans b3).trans h6).trans h8)
  rw[h7,aS,aS,aS,aS];rfl
theorem Ta(D:Nat):∀m,2+2*D<=m->PP cx m D:=by
 induction D with
 |zero=>intro m hm l b as pre σ Q X _ _ _ _ _ hd;exact absurd hd (Nat.not_lt_zero _)
 |succ D ih=>
  intro m hm l b as pre σ0 Q X hl hh hb hbn _ hd hz hQ;refine ctl (k:=2) T (Eb T) (aC (cN _ _) hm) rfl rfl rfl ?_;have IH:=ih (m-2) (cC hm);walk_at "D"
  have hlen:as.length<=2000:=by
   have:=uW (ers as);rw[mS,aB,←mS] at this;lia
  have hzl:(as.map ob).length<=lim:=by rw[aB];exact aC hlen (by decide)
  refine om_l hl ?_;rw[mK hl];have hbn:=nm_e hbn
  refine Ka (vs:=as.map ob) (λi ρ σ=>(∃y,ρ= [some (.obj l),some (.obj b),y])/\σ b=some (.list ((pre++fls (ers (as.take i))).map tupO))/\But b σ0 σ)
   (λi ρ σ h=>mO ((h.2.2 l hbn.1.symm).trans hl) hzl i) (λρ σ h=>?_) (λi ρ σ v h hv=>?_) _ 0 _ _ ⟨⟨none,rfl⟩,by rw[show fls (ers (as.take 0))= [] from rfl,bY];exact hb,λJ J=>rfl⟩ (aP _) (cB _)
  ·refine e03 h λz1z h1 h2=>?_
   rw[aB,List.take_length] at h1;exact nx1 (bk0 (hQ σ h1 h2))
  ·refine e03 h λz3z h1 h2=>?_
   refine e11 z3z λy z4z=>?_
   subst z4z;rw[bH] at hv;refine mapS hv λx hx z5z=>?_
   subst z5z;refine e03 (Zq hx) λhdrop htake hsplit=>?_
   have hh2:holds σ0 (as.take i++x::as.drop (i+1)):=hsplit▸hh
   have hxb:b∉x.fp:=λhm=>hbn.2 (by
    rw[hsplit,lQ];exact bE _ (aU _ hm))
   have e1:fln (ers as)=fln (ers (as.take i))+(x.er.fl.length+fln (ers (as.drop (i+1)))):=by
    conv=>lhs;rw[hsplit]
    rw[mF,rP];exact congrArg _ (lA _ _)
   refine⟨_,rfl,λW hW=>Zm T IH ((mQ.mp hh2).2.1.but h2 hxb) hxb h1 ?_ (yV hdrop hd) λσ' h3 h4=>lp1 (hW _ _ ⟨⟨_,rfl⟩,?_,h2.trans h4⟩)⟩
   ·rw[aD]
    show pre.length+fln (ers (as.take i))+_<=_;lia
   ·rw[h3,htake,mF,qE,aS,show fls (ers [x])=x.er.fl from bY _]
theorem Uk(D m:Nat)(hm:4+2*D<=m){l:Addr}{as:List A}{σ:H}{Q:QV}{X:XH}(hl:σ l=some (.list (as.map ob)))(hh:holds σ as)(hd:deps (ers as)<D)(hz:fln (ers as)<=1000)
 (hQ:∀c σ',σ c=none->σ' c=some (.list ((fls (ers as)++ [[11]]).map tupO))->(∀z,z≠c->σ' z=σ z)->Q (.obj c) σ'):CTK cx m 404 [.obj l] σ Q X:=by
 refine ctl (k:=4) T (Gl T) (aC (cN _ _) hm) rfl rfl rfl ?_;walk_at "D";refine jS (aP _) λb hb=>?_
 have x0:Ext σ (upd σ b (.list [])):=.upd hb;walk_at "D";refine Ta T D _ (cC (by rw[gO];exact hm)) l b as [] _ _ _ (x0 _ _ hl) (hh.ext x0) (jP ..) ?_ (λJ J=>trivial) hd (by rw[List.length_nil,fC];exact aC hz (by decide)) λσ' h1 h2=>?_
 ·exact nm2 (λe=>by rw[←e,hb] at hl;exact by contradiction) λhm=>hh.live b hm hb
 ·rw[List.nil_append] at h1
  walk_at "D";refine⟨om_l h1 trivial,kE (by decide),om_l h1 ⟨uO (aC hz (by decide)),?_⟩⟩
  rw[Wv];walk_at "D";exact hQ b _ hb (jP ..) λz hz=>by rw[jQ _ _ hz,h2 z hz,jQ _ _ hz]
end
noncomputable def nV:ISs:=(iss [(.iff (.cmp (.sub (.loc 3) (.val (.int 0))) .In (.tup (ies [(.val (.int 2)),(.val (.int 3)),(.val (.int 4))]))) (iss [(.assign 4 (.call (.val (.raw (.ref 379))) (ies [(.loc 3),(.lst (ies []))]))),
 (.expr (.meth (.loc 1) .append (ies [(.loc 4)]))),
 (.expr (.meth (.loc 2) .append (ies [(.tup (ies [(.loc 4),(.loc 1)]))]))),
 (.assign 1 (.attr (.loc 4) .first))]) (iss [(.iff (.cmp (.sub (.loc 3) (.val (.int 0))) .Eq (.val (.int 5))) (iss [(.assign 4 (.sub (.sub (.loc 2) (.neg (.val (.int 1)))) (.val (.int 0)))),
 (.setAttr (.loc 4) .second (.lst (ies []))),
 (.assign 1 (.attr (.loc 4) .second))]) (iss [(.iff (.cmp (.sub (.loc 3) (.val (.int 0))) .Eq (.val (.int 11))) (iss [(.assignT [(.nm 4),(.nm 1)] (.meth (.loc 2) .pop (ies [])))]) (iss [(.expr (.meth (.loc 1) .append (ies [(.call (.val (.raw (.ref 379))) (ies [(.loc 3)]))])))]))]))]))])
theorem Px:ib_pieces_of=iss [(.assignT [(.nm 1),(.nm 2)] (.tup (ies [(.lst (ies [])),(.lst (ies []))]))),(.for_ (.one 3) (.of (.sli (.loc 0) (.val .none) (.bin .Sub (.bi .len (ies [(.loc 0)])) (.val (.int 1))))) nV),(.ret (.loc 1))]:=rfl
theorem kS{σ:H}{Z:QV}{op:Op}(h0:op≠ [])(hz:op.length<=100)(hZ:Z (.int (code op)) σ):subW (tupO op) (.int 0) σ Z:=by
 induction op using List.casesOn with
 |nil=>exact absurd rfl h0 |cons c r=>exact⟨by rw[aB];exact kE (aC hz (by decide)),by rw[aZ,ix0];exact hZ⟩
theorem l3:3<=lim:=kE (by decide)
section
variable{cx:Cx}(T:Prog cx){m:Nat}{σ:H}{q:QS}{X:XS}{bd:Option V}{h o:Addr}{y:Option V}{L stk:List V}{op:Op}
include T
theorem Vl(hm:5<=m)(h0:op≠ [])(hz:op.length<=100)(hc:code op∉ [2,3,4,5,11])(hh:σ h=some (.list L))(hL:L.length<=5000)
 (hq:∀a d,σ a=none->σ d=none->a≠d->q .next [bd,some (.obj h),some (.obj o),some (tupO op),y] (upd (upd (upd σ d (.sd (kD (tupO op) .none .none))) a (.inst jV d)) h (.list (L++ [.obj a])))):
 blk (CTK cx m) nV [bd,some (.obj h),some (.obj o),some (tupO op),y] σ q X:=by
 unfold nV;walk_at "D";refine kS h0 hz ⟨l3,kJ (l:= [2,3,4]) (br (λz=>absurd (aU [5,11] z) hc) λJ=>?_)⟩
 walk_at "D";refine kS h0 hz (Ed (λz=>absurd (by rw[z];decide) hc) λJ=>?_)
 walk_at "D";refine kS h0 hz (Ed (λz=>absurd (by rw[z];decide) hc) λJ=>?_)
 walk_at "D";refine⟨om_l hh trivial,mk1 T (aC (by decide) hm) λa d ha hd had=>?_⟩
 have x:Ext σ (upd (upd σ d (.sd (kD (tupO op) .none .none))) a (.inst jV d)):=(Ext.upd hd).trans (.upd (by rw[jQ _ _ had];exact ha))
 exact om_l (x _ _ hh) ⟨aC (aY hL) (by decide),nx1 (bk0 (nx1 (bk0 (nx1 (bk0 (nx1 (bk0 (hq a d ha hd had))))))))⟩
theorem Nb(hm:5<=m)(h0:op≠ [])(hz:op.length<=100)(hc:code op=2∨code op=3∨code op=4)(hh:σ h=some (.list L))(ho:σ o=some (.list stk))(hne:h≠o)(hL:L.length<=5000)(hS:stk.length<=5000)
 (hq:∀l a d,σ l=none->upd σ l (.list []) a=none->upd σ l (.list []) d=none->a≠d->q .next [bd,some (.obj l),some (.obj o),some (tupO op),some (.obj a)]
   (upd (upd (upd (upd (upd σ l (.list [])) d (.sd (kD (tupO op) (.obj l) .none))) a (.inst jV d)) h (.list (L++ [.obj a]))) o (.list (stk++ [.tup [.obj a,.obj h]])))):
 blk (CTK cx m) nV [bd,some (.obj h),some (.obj o),some (tupO op),y] σ q X:=by
 unfold nV;walk_at "D";have hc:code op∈([2,3,4]:List Int):=by rcases hc with e|e|e<;>(rw[e];decide)
 refine kS h0 hz ⟨l3,kJ (l:= [2,3,4]) (br (λJ=>?_) λz=>absurd hc z)⟩
 walk_at "D";refine jS (aP _) λl hl=>mk2 T (aC (by decide) hm) λa d ha hd had=>?_
 have x1:Ext σ (upd σ l (.list [])):=.upd hl;have x:Ext (upd σ l (.list [])) (upd (upd (upd σ l (.list [])) d (.sd (kD (tupO op) (.obj l) .none))) a (.inst jV d)):=(Ext.upd hd).trans (.upd (by rw[jQ _ _ had];exact ha))
 have hh1:=x _ _ (x1 _ _ hh);have ho1:=x _ _ (x1 _ _ ho);have ah:a≠h:=λe=>by rw[e,x1 _ _ hh] at ha;exact by contradiction
 have ao:a≠o:=λe=>by rw[e,x1 _ _ ho] at ha;exact by contradiction
 have dh:d≠h:=λe=>by rw[e,x1 _ _ hh] at hd;exact by contradiction
 have d_o:d≠o:=λe=>by rw[e,x1 _ _ ho] at hd;exact by contradiction
 have ho2:=(jQ _ (.list (L++ [.obj a])) hne.symm).trans ho1;walk_at "D";refine⟨om_l hh1 trivial,om_l hh1 ⟨aC (aY hL) (by decide),?_⟩⟩
 walk_at "D";refine⟨om_l ho2 trivial,ll rfl,om_l ho2 ⟨aC (aY hS) (by decide),?_⟩⟩
 walk_at "D";exact oE (op:=op) (g:=.none) ⟨d,(jQ _ _ ao).trans ((jQ _ _ ah).trans (jP ..)),(jQ _ _ d_o).trans ((jQ _ _ dh).trans ((jQ _ _ had.symm).trans (jP ..)))⟩ rfl (nx1 (bk0 (nx1 (bk0 (hq l a d hl ha hd had)))))
omit T in
theorem Gr{pl:Op}{l k:V}:nN (kD (tupO pl) l .none) At.second.str k=kD (tupO pl) l k:=by
 unfold nN;rw[yH];refine(if_pos rfl).trans ?_;have n1:¬At.plain.str=At.second.str:=by decide
 have n2:¬At.first.str=At.second.str:=by decide
 show [if At.plain.str=At.second.str then(At.plain.str,k) else(At.plain.str,tupO pl),if At.first.str=At.second.str then(At.first.str,k) else(At.first.str,l),if At.second.str=At.second.str then(At.second.str,k) else(At.second.str,V.none)]=_
 rw[if_neg n1,if_neg n2,if_pos rfl];rfl
omit T in
theorem Wl{a d l:Addr}{z:V}{pl:Op}(hh:σ o=some (.list (stk++ [.tup [.obj a,z]])))(ha:σ a=some (.inst jV d))(hd:σ d=some (.sd (kD (tupO pl) (.obj l) .none)))(hS:stk.length<=5000)
 (hq:∀k,σ k=none->q .next [bd,some (.obj k),some (.obj o),some (tupO [5]),some (.obj a)] (upd (upd σ k (.list [])) d (.sd (kD (tupO pl) (.obj l) (.obj k))))):
 blk (CTK cx m) nV [bd,some (.obj h),some (.obj o),some (tupO [5]),y] σ q X:=by
 unfold nV;walk_at "D";refine kS (λh=>by injection h) (by decide) ⟨l3,kJ (l:= [2,3,4]) (br (λz=>absurd z (by decide)) λJ=>?_)⟩
 walk_at "D";refine kS (λh=>by injection h) (by decide) (Ed (λJ=>?_) λz=>absurd rfl z)
 walk_at "D";have hz:stk.length+1<=lim:=aC (aY hS) (by decide)
 refine hU (kC hh (by rw[aD];exact hz) (sJ hz)) ⟨ll rfl,om_e (ix0 _ _) ?_⟩
 walk_at "D";refine jS (aP _) λk hk=>?_
 have x:Ext σ (upd σ k (.list [])):=.upd hk;refine om_in (x _ _ ha) ⟨rfl,yJ (x _ _ hd) ⟨nB rfl,?_⟩⟩;rw[Gr];have ad:a≠d:=λq=>by rw[q,hd] at ha;exact by have h:=ha;injection h with qz;injection qz
 walk_at "D";exact oU (op:=pl) (f:=.obj l) ⟨d,(jQ _ _ ad).trans (x _ _ ha),jP ..⟩ rfl (nx1 (bk0 (nx1 (bk0 (nx1 (bk0 (hq k hk)))))))
omit T in
theorem Yg{a b:Addr}(ho:σ o=some (.list (stk++ [.tup [.obj a,.obj b]])))(hS:stk.length<=5000)
 (hq:q .next [bd,some (.obj b),some (.obj o),some (tupO [11]),some (.obj a)] (upd σ o (.list stk))):
 blk (CTK cx m) nV [bd,some (.obj h),some (.obj o),some (tupO [11]),y] σ q X:=by
 unfold nV;walk_at "D";refine kS (λh=>by injection h) (by decide) ⟨l3,kJ (l:= [2,3,4]) (br (λz=>absurd z (by decide)) λJ=>?_)⟩
 walk_at "D";refine kS (λh=>by injection h) (by decide) (Ed (λz=>absurd z (by decide)) λJ=>?_)
 walk_at "D";refine kS (λh=>by injection h) (by decide) (Ed (λJ=>?_) λz=>absurd rfl z)
 walk_at "D";refine⟨om_l ho trivial,om_l ho ⟨by rw[aD];exact aC (aY hS) (by decide),om_e List.getLast?_concat ?_⟩⟩
 rw[List.dropLast_concat];exact⟨rfl,nx1 (bk0 (nx1 (bk0 (nx1 (bk0 (nx1 (bk0 hq)))))))⟩
end
structure Sq(σ σ':H)(h:Addr)(L:List V)(as:List A):Prop where
 lst:σ' h=some (.list (L++as.map ob))
 hold:holds σ' as
 nodup:(fps as).Nodup
 fresh:∀b∈fps as,σ b=none
 fr:∀b,σ b≠none->b≠h->σ' b=σ b
theorem Sq.live{σ σ':H}{h:Addr}{L:List V}{as:List A}(x:Sq σ σ' h L as):∀b,σ b≠none->σ' b≠none:=λb hb=>by
 by_cases e:b=h
 ·rw[e];exact lv x.lst
 ·rw[x.fr b hb e];exact hb
theorem Sq.ne{σ σ':H}{h:Addr}{L:List V}{as:List A}(x:Sq σ σ' h L as){b:Addr}(hb:σ' b=none):σ b=none:=aV λz=>x.live b z hb
theorem Sq.nil{σ:H}{h:Addr}{L:List V}(hh:σ h=some (.list L)):Sq σ σ h L []:=⟨by rw[List.map_nil,bY];exact hh,trivial,.nil,(λJ h=>by contradiction),λJ J J=>rfl⟩
theorem Sq.trans{σ σ1 σ2:H}{h:Addr}{L:List V}{as bs:List A}(hh:σ h=some (.list L))(s1:Sq σ σ1 h L as)(s2:Sq σ1 σ2 h (L++as.map ob) bs):Sq σ σ2 h L (as++bs):=by
 have zl:=s1.hold.live;refine⟨by rw[s2.lst,bJ,aS],mQ.mpr ⟨s1.hold.frame λb hb=>s2.fr b (zl b hb) λe=>lv hh (s1.fresh h (e▸hb)),s2.hold⟩,?_,?_,λb hb hn=>(s2.fr b (s1.live b hb) hn).trans (s1.fr b hb hn)⟩
 ·rw[lQ];exact tE s1.nodup s2.nodup λb hb hb'=>zl b hb (s2.fresh b hb')
 ·rw[lQ];exact uY s1.fresh λb hb=>s1.ne (s2.fresh b hb)
theorem lC{toks rest:List Op}{a:Op}{i:Nat}(h:toks.drop i=a::rest):toks[i]?=some a/\toks.drop (i+1)=rest:=
 ⟨by have:=congrArg List.head? h;rwa [List.head?_drop] at this,by have:=congrArg List.tail h;rwa [List.tail_drop] at this⟩
theorem pA{toks xs rest:List Op}{i:Nat}(h:toks.drop i=xs++rest):toks.drop (i+xs.length)=rest:=by
 have:=congrArg (List.drop xs.length) h
 rwa [List.drop_drop,List.drop_left] at this
structure Ps(σ:H)(c:Addr)(toks:List Op)(h o:Addr)(L stk:List V):Prop where
 hc:σ c=some (.list (toks.map tupO))
 hh:σ h=some (.list L)
 ho:σ o=some (.list stk)
 ch:c≠h
 co:c≠o
 hho:h≠o
theorem Ps.next{σ σ':H}{c h o:Addr}{toks:List Op}{L stk:List V}{as:List A}(S:Ps σ c toks h o L stk)(s:Sq σ σ' h L as):Ps σ' c toks h o (L++as.map ob) stk:=
 ⟨(s.fr c (lv S.hc) S.ch).trans S.hc,s.lst,(s.fr o (lv S.ho) S.hho.symm).trans S.ho,S.ch,S.co,S.hho⟩
theorem Ir{σ:H}{h a d:Addr}{L:List V}{op:Op}(hh:σ h=some (.list L))(ha:σ a=none)(hd:σ d=none)(had:a≠d):Sq σ (upd (upd (upd σ d (.sd (kD (tupO op) .none .none))) a (.inst jV d)) h (.list (L++ [.obj a]))) h L [.leaf a d op]:=by
 have ah:a≠h:=λe=>lv hh (e▸ha)
 have dh:d≠h:=λe=>lv hh (e▸hd)
 refine⟨jP ..,⟨?_,trivial⟩,?_,?_,λb hb hn=>?_⟩
 ·show _/\_
  exact⟨(jQ _ _ ah).trans (jP ..),(jQ _ _ dh).trans ((jQ _ _ had.symm).trans (jP ..))⟩
 ·exact aL.mpr ⟨λz=>had (aK.mp z),aL.mpr ⟨(λz=>by contradiction),.nil⟩⟩
 ·exact all_cons ha (all_cons hd λJ h=>by contradiction)
 ·exact(jQ _ _ hn).trans ((jQ _ _ λe:b=a=>hb (e▸ha)).trans (jQ _ _ λe:b=d=>hb (e▸hd)))
structure Opn(σ σd:H)(h o l a d:Addr)(L stk:List V)(op:Op):Prop where
 hl:σ l=none
 a0:σ a=none
 d0:σ d=none
 had:a≠d
 la:a≠l
 ld:d≠l
 lh:l≠h
 lo:l≠o
 ao:a≠o
 d_o:d≠o
 dh:d≠h
 vo:σd o=some (.list (stk++ [.tup [.obj a,.obj h]]))
 vh:σd h=some (.list (L++ [.obj a]))
 va:σd a=some (.inst jV d)
 vd:σd d=some (.sd (kD (tupO op) (.obj l) .none))
 vl:σd l=some (.list [])
 old:∀b,σ b≠none->b≠h->b≠o->σd b=σ b
theorem opn{σ:H}{h o l a d:Addr}{L stk:List V}{op:Op}(hh:σ h=some (.list L))(ho:σ o=some (.list stk))(hho:h≠o)(hl:σ l=none)(ha:upd σ l (.list []) a=none)(hd':upd σ l (.list []) d=none)(had:a≠d):
 Opn σ (upd (upd (upd (upd (upd σ l (.list [])) d (.sd (kD (tupO op) (.obj l) .none))) a (.inst jV d)) h (.list (L++ [.obj a]))) o (.list (stk++ [.tup [.obj a,.obj h]]))) h o l a d L stk op:=by
 have x1:Ext σ (upd σ l (.list [])):=.upd hl;have a0:σ a=none:=x1.ne ha;have d0:σ d=none:=x1.ne hd';have la:a≠l:=λe=>lv (jP σ l _) (e▸ha)
 have ld:d≠l:=λe=>lv (jP σ l _) (e▸hd')
 have ah:a≠h:=λe=>lv hh (e▸a0)
 have ao:a≠o:=λe=>lv ho (e▸a0)
 have dh:d≠h:=λe=>lv hh (e▸d0)
 have d_o:d≠o:=λe=>lv ho (e▸d0)
 have lh:l≠h:=λe=>lv hh (e▸hl)
 have lo:l≠o:=λe=>lv ho (e▸hl)
 exact⟨hl,a0,d0,had,la,ld,lh,lo,ao,d_o,dh,jP ..,(jQ _ _ hho).trans (jP ..),(jQ _ _ ao).trans ((jQ _ _ ah).trans (jP ..)),
  (jQ _ _ d_o).trans ((jQ _ _ dh).trans ((jQ _ _ had.symm).trans (jP ..))),(jQ _ _ lo).trans ((jQ _ _ lh).trans ((jQ _ _ la.symm).trans ((jQ _ _ ld.symm).trans (jP ..)))),
  λb hb h1 h2=>(jQ _ _ h2).trans ((jQ _ _ h1).trans ((jQ _ _ λe:b=a=>hb (e▸a0)).trans ((jQ _ _ λe:b=d=>hb (e▸d0)).trans (jQ _ _ λe:b=l=>hb (e▸hl)))))⟩
section
variable{σ σd σ1 σ2:H}{h o l a d k c:Addr}{L stk:List V}{op:Op}{toks:List Op}{as bs:List A}
theorem Opn.live(O:Opn σ σd h o l a d L stk op):∀b,σ b≠none->σd b≠none:=λb hb=>by
 by_cases h1:b=h
 ·rw[h1];exact lv O.vh
 ·by_cases h2:b=o
  ·rw[h2];exact lv O.vo
  ·rw[O.old b hb h1 h2];exact hb
theorem Opn.ps(O:Opn σ σd h o l a d L stk op)(S:Ps σ c toks h o L stk):Ps σd c toks l o [] (stk++ [.tup [.obj a,.obj h]]):=
 ⟨(O.old c (lv S.hc) S.ch S.co).trans S.hc,O.vl,O.vo,λe=>lv S.hc (e▸O.hl),S.co,O.lo⟩
theorem Opn.fresh(O:Opn σ σd h o l a d L stk op)(sq:Sq σd σ1 l [] as):∀b∈fps as,σ b=none:=λb hb=>aV λz=>O.live b z (sq.fresh b hb)
theorem Opn.sq_blk(O:Opn σ σd h o l a d L stk op)(ho:σ o=some (.list stk))(hho:h≠o)(sq:Sq σd σ1 l [] as):Sq σ (upd σ1 o (.list stk)) h L [.blk a d l op as]:=by
 refine⟨(jQ _ _ hho).trans ((sq.fr h (lv O.vh) O.lh.symm).trans O.vh),⟨?_,trivial⟩,?_,?_,λb hb hn=>?_⟩
 ·show _/\_
  exact⟨⟨(jQ _ _ O.ao).trans ((sq.fr a (lv O.va) O.la).trans O.va),(jQ _ _ O.d_o).trans ((sq.fr d (lv O.vd) O.ld).trans O.vd)⟩,(jQ _ _ O.lo).trans sq.lst,sq.hold.frame λb hb=>jQ _ _ λe=>lv O.vo (sq.fresh o (e▸hb))⟩
 ·rw[qZ]
  exact nb.mpr ⟨⟨O.had,O.la,λz=>lv O.va (sq.fresh a z)⟩,⟨O.ld,λz=>lv O.vd (sq.fresh d z)⟩,aL.mpr ⟨λz=>lv O.vl (sq.fresh l z),sq.nodup⟩⟩
 ·rw[qZ]
  exact all_cons O.a0 (all_cons O.d0 (all_cons O.hl (O.fresh sq)))
 ·by_cases h2:b=o
  ·rw[h2,jP];exact ho.symm
  ·exact(jQ _ _ h2).trans ((sq.fr b (O.live b hb) λe=>hb (e▸O.hl)).trans (O.old b hb hn h2))
structure Els(σ1 σe:H)(l d k:Addr)(op:Op):Prop where
 hk:σ1 k=none
 kd:k≠d
 wd:σe d=some (.sd (kD (tupO op) (.obj l) (.obj k)))
 wk:σe k=some (.list [])
 we:∀b,b≠d->b≠k->σe b=σ1 b
theorem els(hd:σ1 d≠none)(hk:σ1 k=none):Els σ1 (upd (upd σ1 k (.list [])) d (.sd (kD (tupO op) (.obj l) (.obj k)))) l d k op:=
 have kd:k≠d:=λe=>hd (e▸hk)
 ⟨hk,kd,jP ..,(jQ _ _ kd).trans (jP ..),λJ h1 h2=>(jQ _ _ h1).trans (jQ _ _ h2)⟩
theorem Els.live{σe:H}(E:Els σ1 σe l d k op):∀b,σ1 b≠none->σe b≠none:=λb hb=>by
 by_cases h1:b=d
 ·rw[h1];exact lv E.wd
 ·by_cases h2:b=k
  ·rw[h2];exact lv E.wk
  ·rw[E.we b h1 h2];exact hb
theorem Els.ps{σe:H}(E:Els σ1 σe l d k op)(O:Opn σ σd h o l a d L stk op){M:List V}(S:Ps σ1 c toks l o M (stk++ [.tup [.obj a,.obj h]]))(cd:c≠d):Ps σe c toks k o [] (stk++ [.tup [.obj a,.obj h]]):=
 have kc:c≠k:=λe=>lv S.hc (e▸E.hk)
 have ko:k≠o:=λe=>lv S.ho (e▸E.hk)
 ⟨(E.we c cd kc).trans S.hc,E.wk,(E.we o O.d_o.symm ko.symm).trans S.ho,kc,S.co,ko⟩
theorem Opn.sq_ife{σe:H}(O:Opn σ σd h o l a d L stk op)(ho:σ o=some (.list stk))(hho:h≠o)(sq1:Sq σd σ1 l [] as)(E:Els σ1 σe l d k op)(sq2:Sq σe σ2 k [] bs):Sq σ (upd σ2 o (.list stk)) h L [.ife a d l k op as bs]:=by
 have sa1:=(sq1.fr a (lv O.va) O.la).trans O.va;have sd1:=(sq1.fr d (lv O.vd) O.ld).trans O.vd;have so1:=(sq1.fr o (lv O.vo) O.lo.symm).trans O.vo;have sh1:=(sq1.fr h (lv O.vh) O.lh.symm).trans O.vh;have k0:σ k=none:=aV λz=>sq1.live k (O.live k z) E.hk
 have ka:k≠a:=λe=>lv sa1 (e▸E.hk)
 have ko:k≠o:=λe=>lv so1 (e▸E.hk)
 have kh:k≠h:=λe=>lv sh1 (e▸E.hk)
 have kl:k≠l:=λe=>lv sq1.lst (e▸E.hk)
 have ae:=(E.we a O.had ka.symm).trans sa1;have le:=(E.we l O.ld.symm kl.symm).trans sq1.lst;have he:=(E.we h O.dh.symm kh.symm).trans sh1;have oe:=(E.we o O.d_o.symm ko.symm).trans so1;have f2:∀b∈fps bs,σ1 b=none:=λb hb=>aV λz=>E.live b z (sq2.fresh b hb)
 have f1live:=sq1.hold.live
 have fr12:∀b∈fps as,σ2 b=σ1 b:=λb hb=>by
  have b2:b≠d:=λe=>lv O.vd (sq1.fresh d (e▸hb))
  have b3:b≠k:=λe=>f1live b hb (e▸E.hk)
  exact(sq2.fr b (E.live b (f1live b hb)) b3).trans (E.we b b2 b3)
 refine⟨(jQ _ _ hho).trans ((sq2.fr h (lv he) kh.symm).trans he),⟨?_,trivial⟩,?_,?_,λb hb hn=>?_⟩
 ·show _/\_
  exact⟨⟨(jQ _ _ O.ao).trans ((sq2.fr a (lv ae) ka.symm).trans ae),(jQ _ _ O.d_o).trans ((sq2.fr d (lv E.wd) E.kd.symm).trans E.wd)⟩,
   ⟨(jQ _ _ O.lo).trans ((sq2.fr l (lv le) kl.symm).trans le),sq1.hold.frame λb hb=>(jQ _ _ λe:b=o=>lv O.vo (sq1.fresh o (e▸hb))).trans (fr12 b hb)⟩,
   (jQ _ _ ko).trans sq2.lst,sq2.hold.frame λb hb=>jQ _ _ λe=>lv oe (sq2.fresh o (e▸hb))⟩
 ·rw[qZ]
  exact Nd4.mk' ⟨O.had,O.la,ka.symm,λz=>lv O.va (sq1.fresh a z),λz=>lv sa1 (f2 a z),O.ld,E.kd.symm,λz=>lv O.vd (sq1.fresh d z),λz=>lv sd1 (f2 d z),kl.symm,λz=>lv O.vl (sq1.fresh l z),λz=>lv sq1.lst (f2 l z),
   λz=>f1live k z E.hk,λz=>lv E.wk (sq2.fresh k z),sq1.nodup,sq2.nodup,λb hb hb'=>f1live b hb (f2 b hb')⟩
 ·rw[qZ]
  exact all_cons O.a0 (all_cons O.d0 (all_cons O.hl (all_cons k0 (uY (O.fresh sq1) λb hb=>aV λz=>sq1.live b (O.live b z) (f2 b hb)))))
 ·by_cases h2:b=o
  ·rw[h2,jP];exact ho.symm
  ·have b1:b≠l:=λe=>hb (e▸O.hl)
   have b2:b≠d:=λe=>hb (e▸O.d0)
   have b3:b≠k:=λe=>hb (e▸k0)
   exact(jQ _ _ h2).trans ((sq2.fr b (E.live b (sq1.live b (O.live b hb))) b3).trans ((E.we b b2 b3).trans ((sq1.fr b (O.live b hb) b1).trans (O.old b hb hn h2))))
end
section
variable(B:Rho->H->QS->Prop)(Q:QS)(c:Addr)(toks:List Op)
noncomputable def Fr1(i:Nat)(ρ:Rho)(σ:H):Prop:=forN (.lst c) (.one 3) B Q (toks.length+1-i) i ρ σ
end
section
variable{cx:Cx}(T:Prog cx){m:Nat}{Q:QS}{c:Addr}{toks:List Op}
noncomputable def pB(cx:Cx)(m:Nat):Rho->H->QS->Prop:=λρ σ q=>blk (CTK cx m) nV ρ σ q λJ J=>False
theorem qY{σ:H}{i:Nat}{tok:Op}{p h o x y:Option V}(hc:σ c=some (.list (toks.map tupO)))(hz:toks.length<=1000)(hi:toks[i]?=some tok)
 (hB:pB cx m [p,h,o,some (tupO tok),y] σ (lpQ (λρ σ=>Fr1 (pB cx m) Q c toks (i+1) ρ σ) Q)):Fr1 (pB cx m) Q c toks i [p,h,o,x,y] σ:=by
 have hlt:=(aT.mp hi).1;unfold Fr1;rw[show toks.length+1-i=(toks.length+1-(i+1))+1 from(Nat.succ_sub (fD hlt)).trans (congrArg Nat.succ (Nat.add_sub_add_right _ 1 i).symm)]
 exact Ma hc (by rw[aB];exact kE hz) (by rw[bH,hi];rfl) rfl hB
noncomputable def Pg(cx:Cx)(m:Nat)(Q:QS)(c:Addr)(toks xs:List Op)(ts:List Internal.T):Prop:=∀(i:Nat) (post:List Op) (h o:Addr) (L stk:List V) (p x y:Option V) (σ:H),toks.drop i=xs++post->Ps σ c toks h o L stk->L.length+xs.length<=5000->stk.length+xs.length<=5000->
 (∀σ' as x' y',ers as=ts->as.length<=xs.length->Sq σ σ' h L as->Fr1 (pB cx m) Q c toks (i+xs.length) [p,some (.obj h),some (.obj o),x',y'] σ')->Fr1 (pB cx m) Q c toks i [p,some (.obj h),some (.obj o),x,y] σ
theorem Ux:Pg cx m Q c toks [] []:=λJ J J J J J J x y σ J S J J hF=>hF σ [] x y rfl (aR _) (.nil S.hh)
set_option tactic.hygienic true in
theorem Xx{xs ys:List Op}{ts us:List Internal.T}(g1:Pg cx m Q c toks xs ts)(g2:Pg cx m Q c toks ys us):Pg cx m Q c toks (xs++ys) (ts++us):=λi post h o L stk p x y σ hd S hL hS hF=>by
 rw[aS] at hd;rw[aD] at hL hS hF;refine g1 i _ h o L stk p x y σ hd S (by lia) (by lia) λσ1 as1 x1 y1 e1 n1 s1=>g2 _ post h o _ stk p x1 y1 σ1 (pA hd) (S.next s1) (by rw[aD,aB];lia) (by lia) λσ2 as2 x2 y2 e2 n2 s2=>?_
 rw[eW];exact hF σ2 (as1++as2) x2 y2 (by rw[mF,e1,e2]) (by rw[aD];exact cQ n1 n2) (s1.trans S.hh s2)
theorem zW{a:A}{x:Op}{r:List Op}: [a].length<=(x::r).length:=aY (aP _)
include T
theorem Rr(hm:5<=m)(hz:toks.length<=1000){op:Op}(h0:op≠ [])(hl:op.length<=100)(hc:code op∉ [2,3,4,5,11]):Pg cx m Q c toks [op] [.leaf op]:=λi post h o L stk p x y σ hd S hL hS hF=>
 qY S.hc hz (lC hd).1 (Vl T hm h0 hl hc S.hh (dE hL) λa d ha hd' had=>lp1 (hF _ [.leaf a d op] _ _ (by rw[ers,A.er];rfl) zW (Ir S.hh ha hd' had)))
set_option tactic.hygienic true in
theorem Wx(hm:5<=m)(hz:toks.length<=1000){k kk:Int}{xs:List Op}{ts:List Internal.T}(hk:k=2∨k=3∨k=4)(g:Pg cx m Q c toks xs ts):Pg cx m Q c toks ([k,kk]::(xs++ [[11]])) [.blk [k,kk] ts]:=λi post h o L stk p x y σ hd S hL hS hF=>by
 rw[List.length_cons,aD,bP] at hL hS;rw[List.cons_append,aS] at hd;have d1:=lC hd;have d2:=lC (pA d1.2);refine qY S.hc hz d1.1 (Nb T hm (λh=>by injection h) (nB rfl) hk S.hh S.ho S.hho (by exact Nat.le_of_add_right_le hL) (by exact Nat.le_of_add_right_le hS) λl a d hl ha hd' had=>lp1 ?_)
 have O:=opn (op:= [k,kk]) S.hh S.ho S.hho hl ha hd' had;generalize upd (upd (upd (upd (upd σ l (.list [])) d (.sd (kD (tupO [k,kk]) (.obj l) .none))) a (.inst jV d)) h (.list (L++ [.obj a]))) o (.list (stk++ [.tup [.obj a,.obj h]]))=σd at O;refine g (i+1) _ l o [] _ p _ _ σd d1.2 (O.ps S) (by rw[List.length_nil];lia) (by rw[aD,bP];lia) λσ' as' x' y' her J sq=>?_
 have S':=(O.ps S).next sq;refine qY S'.hc hz d2.1 (Yg S'.ho (by exact Nat.le_of_add_right_le hS) (lp1 ?_))
 have:=hF _ [.blk a d l [k,kk] as'] (some (tupO [11])) (some (.obj a)) (by rw[ers,A.er,her];rfl) zW (O.sq_blk S.ho S.hho sq)
 rw[List.length_cons,aD,bP] at this;rw[show i+1+xs.length+1=i+(xs.length+1+1) by lia]
 exact this
set_option tactic.hygienic true in
theorem Vx(hm:5<=m)(hz:toks.length<=1000){kk:Int}{xs ys:List Op}{ts us:List Internal.T}(g:Pg cx m Q c toks xs ts)(g':Pg cx m Q c toks ys us):Pg cx m Q c toks ([4,kk]::(xs++ [5]::(ys++ [[11]]))) [.ife [4,kk] ts us]:=λi post h o L stk p x y σ hd S hL hS hF=>by
 rw[List.length_cons,aD,List.length_cons,aD,bP] at hL hS;rw[List.cons_append,aS,List.cons_append,aS] at hd;have d1:=lC hd;have d2:=lC (pA d1.2);have d3:=lC (pA d2.2);refine qY S.hc hz d1.1 (Nb T hm (λh=>by injection h) (nB rfl) (.inr (.inr rfl)) S.hh S.ho S.hho (by exact Nat.le_of_add_right_le hL) (by exact Nat.le_of_add_right_le hS) λl a d hl ha hd' had=>lp1 ?_)
 have O:=opn (op:= [4,kk]) S.hh S.ho S.hho hl ha hd' had;generalize upd (upd (upd (upd (upd σ l (.list [])) d (.sd (kD (tupO [4,kk]) (.obj l) .none))) a (.inst jV d)) h (.list (L++ [.obj a]))) o (.list (stk++ [.tup [.obj a,.obj h]]))=σd at O;have len1:(stk++ [V.tup [.obj a,.obj h]]).length=stk.length+1:=aD;refine g (i+1) _ l o [] _ p _ _ σd d1.2 (O.ps S) (by rw[List.length_nil];lia) (by rw[len1];lia) λσ1 as1 x1 y1 her1 J sq1=>?_
 have S1:=(O.ps S).next sq1;have sd1:=(sq1.fr d (lv O.vd) O.ld).trans O.vd;refine qY S1.hc hz d2.1 (Wl S1.ho ((sq1.fr a (lv O.va) O.la).trans O.va) sd1 (by exact Nat.le_of_add_right_le hS) λk hk=>lp1 ?_)
 have E:=els (l:=l) (op:= [4,kk]) (lv sd1) hk;generalize upd (upd σ1 k (.list [])) d (.sd (kD (tupO [4,kk]) (.obj l) (.obj k)))=σe at E;refine g' _ _ k o [] _ p _ _ σe d2.2 (E.ps O S1 λe=>lv S.hc (e▸O.d0)) (by rw[List.length_nil];lia) (by rw[len1];lia) λσ2 as2 x2 y2 her2 J sq2=>?_
 have S2:=(E.ps O S1 λe=>lv S.hc (e▸O.d0)).next sq2
 refine qY S2.hc hz d3.1 (Yg S2.ho (by exact Nat.le_of_add_right_le hS) (lp1 ?_))
 have:=hF _ [.ife a d l k [4,kk] as1 as2] (some (tupO [11])) (some (.obj a)) (by rw[ers,A.er,her1,her2];rfl) zW (O.sq_ife S.ho S.hho sq1 E sq2)
 rw[List.length_cons,aD,List.length_cons,aD,bP] at this;rw[show i+1+xs.length+1+ys.length+1=i+(xs.length+(ys.length+1+1)+1) by lia]
 exact this
mutual
theorem Sr(hm:5<=m)(hz:toks.length<=1000):∀(t:Internal.T),t.wf->(∀op∈t.fl,op.length<=100)->Pg cx m Q c toks t.fl [t]
 |.leaf op,hw,hop=>Rr T hm hz hw.1 (hop op (.head _)) hw.2 |.blk op f,hw,hop=>by
  refine e02 hw λz1z hwf=>?_
  refine e22 z1z λk kk z2z hk=>?_
  subst z2z;exact Wx T hm hz hk (qN hm hz f hwf λop h=>hop op (.tail _ (aU _ h)))
 |.ife op f g,hw,hop=>by
  refine e03 hw λz3z hwf hwg=>?_
  refine e11 z3z λkk z4z=>?_
  subst z4z;exact Vx T hm hz (qN hm hz f hwf λop h=>hop op (.tail _ (aU _ h))) (qN hm hz g hwg λop h=>hop op (.tail _ (bE _ (.tail _ (aU _ h)))))
theorem qN(hm:5<=m)(hz:toks.length<=1000):∀(ts:List Internal.T),wfs ts->(∀op∈fls ts,op.length<=100)->Pg cx m Q c toks (fls ts) ts
 | [],_,_=>Ux |t::r,hw,hop=>Xx (Sr hm hz t hw.1 λop h=>hop op (aU _ h)) (qN hm hz r hw.2 λop h=>hop op (bE _ h))
end
end
theorem len4{k kk:Int}{f:List Op}(h:∀op∈f,op.length<=4):∀op∈ [k,kk]::(f++ [[11]]),op.length<=4:=λop ho=>(aJ.mp ho).elim (λe=>e▸nB rfl) λho=>(bB.mp ho).elim (h op) λho=>aK.mp ho▸nB rfl
theorem len5{k kk:Int}{f g:List Op}(h:∀op∈f,op.length<=4)(h':∀op∈g,op.length<=4):∀op∈ [k,kk]::(f++ [5]::(g++ [[11]])),op.length<=4:=λop ho=>(aJ.mp ho).elim (λe=>e▸nB rfl) λho=>(bB.mp ho).elim (h op) λho=>
 (aJ.mp ho).elim (λe=>e▸nB rfl) λho=>(bB.mp ho).elim (h' op) λho=>aK.mp ho▸nB rfl
theorem Ty.lens{t:T}{S S':List Int}(h:Ty t S S'):∀op∈t.fl,op.length<=4:=
 Ty.rec (motive_1:=λt J J J=>∀op∈t.fl,op.length<=4) (motive_2:=λt J J J=>∀op∈fls t,op.length<=4) (λh op ho=>aK.mp ho▸(qW h).2.2) (λJ J i=>len4 i) (λJ J i=>len4 i) (λJ J J i j=>len5 i j) (λJ h=>by contradiction)
  (λJ J i j op ho=>(bB.mp ho).elim (i op) (j op)) h
theorem Tys.lens{t:List T}{S S':List Int}(h:Tys t S S'):∀op∈fls t,op.length<=4:=
 Tys.rec (motive_1:=λt J J J=>∀op∈t.fl,op.length<=4) (motive_2:=λt J J J=>∀op∈fls t,op.length<=4) (λh op ho=>aK.mp ho▸(qW h).2.2) (λJ J i=>len4 i) (λJ J i=>len4 i) (λJ J J i j=>len5 i j) (λJ h=>by contradiction)
  (λJ J i j op ho=>(bB.mp ho).elim (i op) (j op)) h
theorem Fg{d len k:Nat}(hk:k<=10000):clip d len (.int k)=some (min k len):=by
 have:(2:Int)^62=4611686018427387904:=by decide
 unfold clip;dsimp only;rw[if_pos ⟨by exact bT _,by lia⟩,if_neg (fT.mpr (bT k))];rfl
theorem Hp{xs:List V}{x:V}{k:Int}(hk:k=((xs++ [x]).length:Int)-1)(hz:xs.length<=5000):cut (xs++ [x]) .none (.int k)=some xs:=by
 have e:k=((xs.length:Nat):Int):=by rw[hk,aD,bP];exact Int.sub_eq_iff_eq_add.mpr rfl
 subst e;show(clip _ _ _).bind (λi=>(clip _ _ _).map _)=_
 rewrite[Fg (aC hz (by decide)),aD,cL (cN _ _)]
 exact congrArg some List.take_left
section
variable{cx:Cx}(T:Prog cx){n:Nat}{σ:H}{Q:QV}{X:XH}
include T
theorem Od(hn:7<=n){bl:Addr}{ts:List Internal.T}(hb:σ bl=some (.list ((fls ts++ [[11]]).map tupO)))(hw:wfs ts)(ho:∀op∈fls ts,op.length<=100)(hz:fln ts<=1000)
 (hQ:∀h σ' as,σ h=none->ers as=ts->σ' h=some (.list (as.map ob))->holds σ' as->(h::fps as).Nodup->(∀b∈fps as,σ b=none)->Ext σ σ'->Q (.obj h) σ'):CTK cx n 390 [.obj bl] σ Q X:=by
 refine ctl T (Ae T) hn rfl rfl rfl ?_;rw[Px];walk_at "D";refine jS (aP _) λh hh=>jS (aP _) λo ho'=>⟨ll rfl,rfl,?_⟩
 have x1:Ext σ (upd σ h (.list [])):=.upd hh;have x2:Ext (upd σ h (.list [])) (upd (upd σ h (.list [])) o (.list [])):=.upd ho';have x:=x1.trans x2;have hb2:=x _ _ hb;have o0:=x1.ne ho';have hne:h≠o:=λe=>by rw[←e,jP] at ho';exact by contradiction
 have hz:(fls ts).length<=1000:=hz;have e1:((fls ts++ [[11]]).map tupO).length=(fls ts).length+1:=(aB ..).trans aD;have lz:((fls ts).map tupO).length<=lim:=by rw[aB];exact kE hz
 have lz1:((fls ts++ [[11]]).map tupO).length<=lim:=e1▸aC (aY hz) (by decide)
 walk_at "D";refine lU hb2 ⟨lz1,om_l hb2 ⟨lz1,?_⟩⟩;have em:(fls ts++ [[11]]).map tupO=(fls ts).map tupO++ [tupO [11]]:=bJ;rw[em,Hp rfl (by rw[aB];exact aC hz (by decide)),jR]
 refine jS lz λc hc=>om_l (jP ..) ?_
 show forN (.lst c) _ _ _ (lZ (.lst c) _+1) 0 _ _;rw[mK (jP ..)];have x3:=Ext.upd (o:=.list ((fls ts).map tupO)) hc;have ch:c≠h:=λe=>by rw[e,x2 _ _ (jP ..)] at hc;exact by contradiction
 have co:c≠o:=λe=>by rw[e,jP] at hc;exact by contradiction
 have vh:upd (upd (upd σ h (.list [])) o (.list [])) c (.list ((fls ts).map tupO)) h=some (.list []):=(jQ _ _ ch.symm).trans ((jQ _ _ hne).trans (jP ..));have vo:upd (upd (upd σ h (.list [])) o (.list [])) c (.list ((fls ts).map tupO)) o=some (.list []):=(jQ _ _ co.symm).trans (jP ..)
 have go:=qN (cx:=cx) (m:=n-2) (Q:=nx (CTK cx (n-2)) (iss [(.ret (.loc 1))]) (rq Q) λJ σ=>X σ) (c:=c) (toks:=fls ts) T (fu hn rfl) hz ts hw ho 0 [] h o [] [] (some (.obj bl)) none none _ (bY _).symm ⟨jP ..,vh,vo,ch,co,hne⟩
  (by rw[List.length_nil,fC];exact aC hz (by decide)) (by rw[List.length_nil,fC];exact aC hz (by decide)) λσ' as x' y' her J sq=>?_
 ·unfold Fr1 at go
  rw[aB];exact go
 ·unfold Fr1
  rw[fC,gR];refine La ((sq.fr c (lv (jP ..)) ch).trans (jP ..)) lz (dM (by rw[aB];exact aR _)) ?_
  walk_at "D";have xs:=x.trans x3;refine hQ h σ' as hh her sq.lst sq.hold (aL.mpr ⟨λhm=>lv vh (sq.fresh h hm),sq.nodup⟩) (λb hb=>xs.ne (sq.fresh b hb)) λb o' e=>?_
  have e2:=xs b o' e;exact(sq.fr b (lv e2) λq=>lv e (q▸hh)).trans e2
theorem xE(hn:2<=n)(hQ:Q .none σ):CTK cx n 485 [.none] σ Q X:=by
 refine ctl T (De T) hn rfl rfl rfl ?_;walk_at "D";walk_at "D";exact hQ
theorem Rd{D:Nat}(hn:28+2*D<=n){bl:Addr}{ts:List Internal.T}{Z:List Int}(hb:σ bl=some (.list ((fls ts++ [[11]]).map tupO)))(ty:Tys ts [] Z)(hd:deps ts<D)(hz:fln ts<=1000)
 (hQ:∀c σ',σ c=none->σ' c=some (.list ((fls (fos lr1 lr2 ts []).reverse++ [[11]]).map tupO))->Ext σ σ'->Q (.obj c) σ'):CTK cx n 485 [.obj bl] σ Q X:=by
 have h28:28<=n:=aC (cN _ _) hn;refine ctl T (De T) h28 rfl rfl rfl ?_;walk_at "D";walk_at "D";walk_at "D";refine Od T (fu h28 rfl) hb ty.wf (λop ho=>aC (ty.lens op ho) (by decide)) hz λh σ1 as hh her hl hho hnd hfr x=>?_
 subst her;walk_at "D";have live1:∀b,σ b≠none->σ1 b≠none:=λb hb=>by rw[x.eq hb];exact hb
 refine xH T D _ (cC (by rw[gO];exact hn)) h as σ1 _ _ Z hl hho hnd ty hd hz λσ2 as' P=>?_
 have dep':deps (ers as')<D:=by
  rw[P.er,lS];have:=rB (r1:=lr1) (r2:=lr2) (ers as) [];rw[show deps ([]:List Internal.T)=0 from rfl] at this
  lia
 have fln':fln (ers as')<=1000:=by
  rw[P.er,lR];have:=rA (r1:=lr1) (r2:=lr2) (ers as) [];rw[show fln ([]:List Internal.T)=0 from rfl] at this
  exact aC this hz
 walk_at "D";refine Uk T D _ (cC (by rw[gO];exact aC (bG (nB rfl:4+2<=28) _) hn)) P.lst P.hold dep' fln' λc σ3 hc hc2 hfr3=>?_
 rw[←P.er] at hQ;have c0:σ c=none:=aV λz=>P.live c (live1 c z) hc
 refine hQ c σ3 c0 hc2 λb o e=>?_
 have hbn:σ b≠none:=lv e;exact(hfr3 b λq=>hbn (q▸c0)).trans ((P.fr b (live1 b hbn) λhm=>(aJ.mp hm).elim (λq=>hbn (q▸hh)) λhm=>hbn (hfr b hm)).trans (x b o e))
end
theorem Eg:wO (ofString "eqz eq ne lt_s lt_u gt_s gt_u le_s le_u ge_s ge_u")=some (yZ.map Nm.str):=by decide+kernel
theorem Yk:wO (ofString "clz ctz popcnt add sub mul div_s div_u rem_s rem_u and or xor shl shr_s shr_u rotl rotr")=some (arN.map Nm.str):=by decide+kernel
noncomputable def lopV(c:Int):V:=match opOf c with
 |some (nm,t,p)=>.tup [.str nm.str,.int t,.int p] |none=>.none
set_option backward.match.sparseCases true in
theorem Gx{σ:H}{Q:QV}{a:Addr}{es:List (Int×V)}{k:Int}(h:σ a=some (.nd es)):subW (.obj a) (.int k) σ Q=om (es.lookup k) λv=>Q v σ:=by
 show(match σ a with|some (.list l)=>_|some (.ro l)=>_|some (.nd es)=>_|_=>False)=_
 rw[h]
noncomputable def Ph:ISs:=(iss [(.iff (.cmp2 (.loc 2) .LtE (.loc 0) .Lt (.bin .Add (.loc 2) (.val (.int 11)))) (iss [(.ret (.tup (ies [(.sub (.split (.val (.str (ofString "eqz eq ne lt_s lt_u gt_s gt_u le_s le_u ge_s ge_u")))) (.bin .Sub (.loc 0) (.loc 2))),(.loc 1),(.val (.int 32))])))]) (iss [])),
 (.iff (.cmp2 (.loc 3) .LtE (.loc 0) .Lt (.bin .Add (.loc 3) (.val (.int 18)))) (iss [(.assign 4 (.val (.str (ofString "clz ctz popcnt add sub mul div_s div_u rem_s rem_u and or xor shl shr_s shr_u rotl rotr")))),
 (.ret (.tup (ies [(.sub (.split (.loc 4)) (.bin .Sub (.loc 0) (.loc 3))),(.loc 1),(.loc 1)])))]) (iss []))])
section
variable{cx:Cx}(T:Prog cx){n:Nat}{σ:H}{Q:QV}{X:XH}
include T
omit T in
theorem Tn{C:mJ}{c t a b:Int}{W:Rho->H->Prop}{r:ISs}{X:XS}(h1:a<=c->c<a+11->newL σ ((yZ.map Nm.str).map V.str) λl σ=>subW l (.int (c-a)) σ λv σ=>3<=lim/\Q (.tup [v,.int t,.int 32]) σ)
 (h2:¬(a<=c/\c<a+11)->b<=c->c<b+18->newL σ ((arN.map Nm.str).map V.str) λl σ=>subW l (.int (c-b)) σ λv σ=>3<=lim/\Q (.tup [v,.int t,.int t]) σ)
 (h3:¬(a<=c/\c<a+11)->¬(b<=c/\c<b+18)->W [some (.int c),some (.int t),some (.int a),some (.int b),none] σ):blk C Ph [some (.int c),some (.int t),some (.int a),some (.int b),none] σ (lpQ W (nx C r (rq Q) X)) λJ J=>False:=by
 unfold Ph;walk_at "D";refine oL (λx y=>?_) λz=>?_
 ·walk_at "D"
  rw[Eg,jR];exact h1 x y
 walk_at "D";walk_at "D";refine oL (λx y=>?_) λz'=>?_
 ·walk_at "D"
  walk_at "D";rw[Yk,jR];exact h2 z x y
 walk_at "N";exact h3 z z'
theorem Ji(hn:2<=n){c:Int}(hQ:∀σ',Ext σ σ'->Q (lopV c) σ'):CTK cx n 492 [.int c] σ Q X:=by
 refine ctl T (Il T) hn rfl rfl rfl ?_
 have sml:∀(l:List Nm) (k:Int) (nm:Nm),l.length<=20->0<=k->l[k.toNat]?=some nm->idx (l.map λx=>V.str x.str) k=some (.str nm.str):=λl k nm h1 h2 h3=>by
  have hl:=(aT.mp h3).1;rw[pD h2 (by rw[aB];exact(Int.toNat_lt h2).mp hl) (by rw[aB];exact kE (aC h1 (by decide))),bH,h3];rfl
 unfold lopV at hQ;walk_at "D";refine⟨ll rfl,kJ (l:= [167,172,173]) (br (λhA=>?_) λhA=>?_)⟩
 ·walk_at "D"
  refine⟨ll rfl,ll rfl,ll rfl,⟨rfl,nB rfl,by decide⟩,λd hd=>?_⟩
  have:=hQ _ (Ext.upd (o:=.nd ([(167:Int),172,173].zip [V.tup [V.str (ofString "wrap"),V.int 64,V.int 32],V.tup [V.str (ofString "spread32"),V.int 32,V.int 64],V.tup [V.str (ofString "wide"),V.int 32,V.int 64]])) hd);show subW (.obj d) (.int c) _ _;rw[Gx (jP ..)];have hA:c=167∨c=172∨c=173:=by simpa using hA
  rcases hA with h|h|h<;>subst h
  ·exact this
  ·exact this
  ·exact this
 have h3:¬c=167/\¬c=172/\¬c=173:=by simpa using hA
 unfold opOf at hQ;rw[if_neg h3.1,if_neg h3.2.1,if_neg h3.2.2] at hQ;walk_at "D";refine oL (λh1 h2=>?_) λhB=>?_
 ·rw[if_pos ⟨h1,h2⟩] at hQ
  obtain⟨nm,hnm⟩:∃nm,spN[(c-192).toNat]?=some nm:=⟨spN[(c-192).toNat]'(by show _<5;exact tL h2 rfl),bI _⟩
  rw[hnm] at hQ;have e2:idx [V.str (ofString "spread8"),V.str (ofString "spread16"),V.str (ofString "spread8"),V.str (ofString "spread16"),V.str (ofString "spread32")] (c-192)=some (.str nm.str):=sml spN (c-192) nm (by decide) (by exact iW h1) hnm
  have q:=hQ σ (.refl σ);walk_at "D";refine br (λh=>?_) λh=>?_
  ·walk_at "D"
   rw[e2];rw[if_pos h] at q;exact⟨ll rfl,ll rfl,ll rfl,q⟩
  ·walk_at "D"
   rw[e2];rw[if_neg h] at q;exact⟨ll rfl,ll rfl,ll rfl,q⟩
 rw[if_neg hB] at hQ
 have fin:∀{l:List Nm} {k:Int} {t p:Nat},l.length<=20->0<=k->k<l.length->(∀σ',Ext σ σ'->Q (match(l[k.toNat]?).map λnm=>(nm,t,p) with|some (nm,t,p)=>.tup [.str nm.str,.int t,.int p]|none=>.none) σ')->
  newL σ ((l.map Nm.str).map V.str) λa σ=>subW a (.int k) σ λv σ=>3<=lim/\Q (.tup [v,.int t,.int p]) σ:=λ{l k t p} h1 h2 h4 hq=>by
  rw[jE];have hz:(l.map (V.str∘Nm.str)).length<=lim:=by rw[aB];exact kE (aC h1 (by decide))
  refine jS hz λd hd=>?_
  obtain⟨nm,hnm⟩:∃nm,l[k.toNat]?=some nm:=⟨l[k.toNat]'(by exact(Int.toNat_lt h2).mpr h4),bI _⟩
  rw[kC (jP ..) hz (show idx (l.map (V.str∘Nm.str)) k=some _ from sml l k nm h1 h2 hnm)]
  rw[hnm] at hq;exact⟨ll rfl,hq _ (Ext.upd hd)⟩
 walk_at "D";walk_at "D";refine⟨ll rfl,ll rfl,ll rfl,ll rfl,?_⟩;refine Kv (n:=2) _ rfl rfl (Tn (λx y=>?_) (λz x y=>?_) λz1 z2=>Kv (n:=1) _ rfl rfl (Tn (λx y=>?_) (λz x y=>?_) λz3 z4=>for_e rfl ?_))
 ·rw[if_pos (show 69<=c/\c<80 from⟨x,y⟩)] at hQ
  exact fin (k:=c-69) (t:=32) (p:=32) (by decide) (by exact iW x) (show c-69<11 by exact Int.sub_lt_iff.mpr y) hQ
 ·rw[if_neg (show¬(69<=c/\c<80) from z),if_pos (show 103<=c/\c<121 from⟨x,y⟩)] at hQ
  exact fin (k:=c-103) (t:=32) (p:=32) (by decide) (by exact iW x) (show c-103<18 by exact Int.sub_lt_iff.mpr y) hQ
 ·rw[if_neg (show¬(69<=c/\c<80) from z1),if_neg (show¬(103<=c/\c<121) from z2),if_pos (show 80<=c/\c<91 from⟨x,y⟩)] at hQ
  exact fin (k:=c-80) (t:=64) (p:=32) (by decide) (by exact iW x) (show c-80<11 by exact Int.sub_lt_iff.mpr y) hQ
 ·rw[if_neg (show¬(69<=c/\c<80) from z1),if_neg (show¬(103<=c/\c<121) from z2),if_neg (show¬(80<=c/\c<91) from z),if_pos (show 121<=c/\c<139 from⟨x,y⟩)] at hQ
  exact fin (k:=c-121) (t:=64) (p:=64) (by decide) (by exact iW x) (show c-121<18 by exact Int.sub_lt_iff.mpr y) hQ
 ·rw[if_neg (show¬(69<=c/\c<80) from z1),if_neg (show¬(103<=c/\c<121) from z2),if_neg (show¬(80<=c/\c<91) from z3),if_neg (show¬(121<=c/\c<139) from z4)] at hQ
  walk_at "D";exact hQ σ (.refl σ)
end
theorem qP(l:List Int):ints? (l.map V.int)=some l:=by
 induction l with
 |nil=>rfl |cons i r ih=>rw[aZ,ints?,ih];rfl
theorem rQ{B:CB}{K:List V->H->Prop}{σ:H}{t:Nat}(p:Nat->Bool)(f:Nat->V)
 (hB:∀i,i<t->∀acc (W:List V->H->Prop),acc.length<=i->W (if p i=true then acc++ [f i] else acc) σ->B (.int i) σ acc W)(hK:K (((bD t).filter p).map f) σ):mU (.fix (kU t)) B K [] σ:=by
 have hlen:=Ff t;unfold mU;rw[show lZ (.fix (kU t)) σ=(kU t).length from rfl]
 refine pC (vs:=kU t) (λi acc σ'=>σ'=σ/\i<=t/\acc=((bD i).filter p).map f) (λi acc σ' h=>rfl) (λacc σ' h=>?_) (λi acc σ' v h e W hW=>?_) _ 0 [] σ ⟨rfl,aP _,rfl⟩ (aP _) (by exact Nat.lt_add_one (kU ↑t).length)
 ·refine e03 h λz1z z2z z3z=>?_;obtain rfl:=z1z;obtain rfl:=z3z
  rw[hlen];exact hK
 ·refine e03 h λz4z z5z z6z=>?_;obtain rfl:=z4z;obtain rfl:=z6z
  refine e02 (Gf e) λhi z7z=>?_;obtain rfl:=z7z
  refine hB i hi _ W (by have:=fL p (bD i);simp at*;exact this) (hW _ _ ⟨rfl,hi,?_⟩)
  rw[jA,List.filter_append,bJ];by_cases hp:p i=true
  ·rw[if_pos hp];simp[hp]
  ·rw[if_neg hp];simp[hp]
theorem Am(l:List Nat):(l.map λJ=>(1:Int)).sum=l.length:=by
 induction l with
 |nil=>rfl |cons a r ih=>rw[aZ,List.sum_cons,ih,List.length_cons];lia
theorem Re(k:Nat)(h:k<=100):kR (2^k):=
 ⟨Int.lt_trans (by decide) (cF k),bN (rM (aC h (by decide:100<=127))) (by decide)⟩
theorem oI(k:Nat):(2:Int)^k≠0:=gA (cF k)
section
variable{cx:Cx}(T:Prog cx){n:Nat}{σ:H}{Q:QV}{X:XH}
include T
theorem rF(hn:2<=n){x bi:Int}{b:Nat}(hb:bi=b)(h0:0<b)(h1:b<=100)(hQ:Q (.int (rnd x b)) σ):CTK cx n 515 [.int x,.int bi] σ Q X:=by
 subst hb;refine ctl T (Hb T) hn rfl rfl rfl ?_;walk_at "D";have e:=tn1 b;have h2:(0:Int)<=b-1/\(b:Int)-1<=1000/\(b:Int)<=1000:=by lia
 rw[e,cI,oZ];exact⟨rfl,h2.1,h2.2.1,rfl,bT b,h2.2.2,oI b,rfl,h2.1,h2.2.1,hQ⟩
theorem Sp(hn:2<=n)(hQ:∀d,σ d=none->Q (.obj d) (upd σ d (.sd [(ofString "add",.int 0),(ofString "sub",.int 0),(ofString "or",.int 0),(ofString "xor",.int 0),(ofString "shl",.int 0),(ofString "shr_s",.int 0),(ofString "shr_u",.int 0),(ofString "rotl",.int 0),(ofString "rotr",.int 0),(ofString "mul",.int 1),(ofString "div_s",.int 1),(ofString "div_u",.int 1),(ofString "and",.int (-1))]))):CTK cx n 507 [] σ Q X:=by
 refine ctl T (Ie T) hn rfl rfl rfl ?_;walk_at "D";exact⟨⟨rfl,nB rfl,by decide+kernel⟩,λd hd=>hQ d hd⟩
omit T in theorem lone_ones {K:QV} (l:List Nat) (hQ:∀σ',Ext σ σ'->K (.int l.length) σ') (hl:l.length<=100):newL σ (l.map λJ=>V.int 1) λv σ=>biW Bi.sum [v] σ K:=by
 have hz:(l.map λJ=>V.int 1).length<=lim:=by rw[aB];exact kE (aC hl (by decide))
 refine jS hz λd hd=>?_
 refine om_l (jP ..) ?_;rw[show(l.map λJ=>V.int 1)=(l.map λJ=>(1:Int)).map V.int by rw[jE];rfl,qP,jR]
 rw[Am];exact⟨by rw[aB,aB];exact kE (aC hl (by decide)),hQ _ (.upd hd)⟩
theorem Mf(hn:2<=n){x:Int}{nm:Nm}{k:Nat}(hl:([(.sp8,.int 8),(.sp16,.int 16),(.sp32,.int 32)]:List (Nm×V)).lookup nm=some (.int k))(h0:0<k)(h1:k<=100)(h:∀σ',Ext σ σ'->Q (.int (rnd x k)) σ'):
 newW σ (O.sd ([ofString "spread8",ofString "spread16",ofString "spread32"].zip [V.int 8,V.int 16,V.int 32])) λa σ=>subW a (V.str nm.str) σ λv σ=>CTK cx n 515 [V.int x,v] σ Q X:=λd hd=>by
 show subW (.obj d) (.str nm.str) (upd σ d (.sd (([(.sp8,.int 8),(.sp16,.int 16),(.sp32,.int 32)]:List (Nm×V)).map λp=>(p.1.str,p.2)))) _
 refine yJ (jP ..) ?_;rw[uQ,hl,jR];exact rF T hn rfl h0 h1 (h _ (.upd hd))
theorem c_lone(hn:4<=n){nm:Nm}(hs:nm.single=true){x bi:Int}{t:Nat}(hb:bi=t)(ht:t=32∨t=64)(hQ:∀σ',Ext σ σ'->Q (.int (l1 nm x t)) σ'):CTK cx n 520 [.str nm.str,.int x,.int bi] σ Q X:=by
 subst hb;refine ctl T (Wg T) hn rfl rfl rfl ?_;walk_at "D";have t0:(0:Int)<=t:=bT t;have t1:(t:Int)<=1000:=by lia
 have t2:t<=64:=by exact tH ht
 have q0:=hQ σ (.refl σ);rw[cI,oZ];refine⟨rfl,t0,t1,oI t,?_⟩;have flen:∀p:Nat->Bool,((bD t).filter p).length<=100:=λp=>aC (fL p (bD t)) (by rw[cV];exact aC t2 (by decide))
 have il:∀i:Nat,i<t->(i:Int)<=1000/\(i:Int)+1<=1000/\(0:Int)<=i+1/\i<=100:=λi hi=>by lia
 have al:∀{i:Nat} {acc:List V},i<t->acc.length<=i->acc.length+1<=lim:=λ{i acc} hi h=>kE (by lia)
 walk_at "D";refine brS (y:=.eqz) (λh=>?_) λh1=>?_
 ·subst h
  walk_at "D";exact tN q0
 walk_at "D";refine brS (y:=.clz) (λh=>?_) λh2=>?_
 ·subst h
  walk_at "D";refine⟨rfl,⟨t0,t1⟩,rQ (λk=>decide (x % 2^t<2^k)) (λJ=>.int 1) (λi hi acc W hl hW=>?_) (lone_ones _ (λσ' x'=>hQ σ' x') (flen _))⟩
  walk_at "D";rw[cI];refine⟨rfl,bT i,(il i hi).1,br (λh=>?_) λh=>?_⟩
  ·rw[decide_eq_true h] at hW;exact⟨al hi hl,hW⟩
  ·rw[decide_eq_false h] at hW;exact hW
 walk_at "D";refine brS (y:=.ctz) (λh=>?_) λh3=>?_
 ·subst h
  walk_at "D";refine⟨rfl,⟨t0,t1⟩,rQ (λk=>decide (x % 2^t % 2^(k+1)=0)) (λJ=>.int 1) (λi hi acc W hl hW=>?_) (lone_ones _ (λσ' x'=>hQ σ' x') (flen _))⟩
  walk_at "D";have e:((i:Int)+1).toNat=i+1:=rfl;rw[e,oZ];refine⟨rfl,(il i hi).2.2.1,(il i hi).2.1,oI _,br (λh=>?_) λh=>?_⟩
  ·rw[decide_eq_true h] at hW;exact⟨al hi hl,hW⟩
  ·rw[decide_eq_false h] at hW;exact hW
 walk_at "D";refine brS (y:=.popcnt) (λh=>?_) λh4=>?_
 ·subst h
  walk_at "D";refine⟨rfl,⟨t0,t1⟩,rQ (λk=>true) (λk=>.int (x % 2^t/2^k % 2)) (λi hi acc W hl hW=>?_) ?_⟩
  ·walk_at "D"
   rw[cI,lY,kL _ (by decide)]
   exact⟨rfl,bT i,(il i hi).1,oI _,Re i (il i hi).2.2.2,by decide,al hi hl,hW⟩
  ·rw[jD.mpr (λJ J=>rfl)]
   refine jS (by rw[aB,cV];exact kE (aC t2 (by decide))) λd hd=>?_
   refine om_l (jP ..) ?_;rw[show((bD t).map λk=>V.int (x % 2^t/2^k % 2))=((bD t).map λ(k:Nat)=>x % 2^t/2^k % 2).map V.int by rw[jE];rfl,qP,jR]
   exact⟨by rw[aB,aB,cV];exact kE (aC t2 (by decide)),hQ _ (.upd hd)⟩
 walk_at "D";refine brS (y:=.wrap) (λh=>?_) λh5=>?_
 ·subst h
  walk_at "D";exact rF T (b:=32) (fu hn rfl) rfl (by decide) (by decide) q0
 walk_at "D";refine brS (y:=.wide) (λh=>?_) λh6=>?_
 ·subst h
  exact q0
 walk_at "D";refine⟨⟨rfl,nB rfl,by decide+kernel⟩,?_⟩
 induction nm with
 |eqz=>exact absurd rfl h1 |clz=>exact absurd rfl h2 |ctz=>exact absurd rfl h3 |popcnt=>exact absurd rfl h4 |wrap=>exact absurd rfl h5 |wide=>exact absurd rfl h6 |sp8=>exact Mf T (fu hn rfl) (k:=8) rfl (by decide) (by decide) hQ
 |sp16=>exact Mf T (fu hn rfl) (k:=16) rfl (by decide) (by decide) hQ
 |sp32=>exact Mf T (fu hn rfl) (k:=32) rfl (by decide) (by decide) hQ
 |_=>injection hs
end
noncomputable def rO:List (Str×V):= [(ofString "add",.int 0),(ofString "sub",.int 0),(ofString "or",.int 0),(ofString "xor",.int 0),(ofString "shl",.int 0),(ofString "shr_s",.int 0),(ofString "shr_u",.int 0),(ofString "rotl",.int 0),(ofString "rotr",.int 0),(ofString "mul",.int 1),(ofString "div_s",.int 1),(ofString "div_u",.int 1),(ofString "and",.int (-1))]
theorem uB(nm:Nm):rO.lookup nm.str=nm.idle.map V.int:=by
 rw[show rO=([(.add,.int 0),(.sub,.int 0),(.or,.int 0),(.xor,.int 0),(.shl,.int 0),(.shr_s,.int 0),(.shr_u,.int 0),(.rotl,.int 0),(.rotr,.int 0),(.mul,.int 1),(.div_s,.int 1),(.div_u,.int 1),(.and,.int (-1))]:List (Nm×V)).map λp=>(p.1.str,p.2) from rfl,uQ]
 induction nm<;>rfl
theorem Ho{x:Int}{t:Nat}(h:InS x t)(ht:t=32∨t=64):In64 x:=by
 have k:(2:Int)^(t-1)<=2^63:=rM (ht.elim (λe=>e▸by decide) λe=>e▸by decide)
 exact⟨cK (by decide: -(2:Int)^64< -2^63) (fH (Int.neg_le_neg k) h.1),cK h.2 (fH k (by decide))⟩
section
variable{cx:Cx}(T:Prog cx){n:Nat}{σ:H}{Q:QV}{X:XH}
include T
theorem Rk(hn:2<=n){nm:Nm}(hm:nm=.div_s∨nm=.div_u∨nm=.rem_s∨nm=.rem_u){x y bi:Int}{t:Nat}(hb:bi=t)(ht:t=32∨t=64)(hx:In64 x)(hy:InS y t)(hQ:Q (optV (lV nm x y t)) σ):CTK cx n 527 [.str nm.str,.int x,.int y,.int bi] σ Q X:=by
 subst hb;refine ctl T (xR T) hn rfl rfl rfl ?_;walk_at "D";have t0:(0:Int)<=t:=bT t;have t1:(t:Int)<=1000:=by lia
 have t2:(0:Int)<=t-1:=by lia
 have t3:(t:Int)-1<=1000:=by lia
 have e:=tn1 t;refine⟨rfl,t0,t1,oI _,rfl,t0,t1,oI _,ll rfl,rfl,?_⟩;dsimp only[zY,Xa];unfold lV at hQ;refine vY (y=0∨(nm=.div_s/\x= -2^(t-1)/\y= -1)) (λZ z=>?_) (λh=>?_) λh=>?_
 ·walk_at "D"
  refine br (λh0=>z_t z (.inl h0)) λh0=>brS (y:=.div_s) (λh1=>⟨rfl,t2,t3,br (λh2=>?_) λh2=>?_⟩) λh1=>z_f z λq=>q.elim h0 λq=>h1 q.1
  ·rw[e] at h2
   exact z_d z ⟨λq=>q.elim (λq=>absurd q h0) λq=>q.2.2,λh3=>.inr ⟨h1,h2,h3⟩⟩
  ·rw[e] at h2
   exact z_f z λq=>q.elim h0 λq=>h2 q.2.1
 ·walk_at "D"
  rw[if_pos h] at hQ;exact hQ
 rw[if_neg h] at hQ;rw[not_or] at h;have hy64:In64 y:=Ho hy ht;have uy:y % 2^t≠0:=λz=>h.1 ((nM (by exact Internal.t0 ht) hy).mp z)
 have up:=kI y t;walk_at "D";rw[cI,oZ,oZ];refine brS (y:=.div_u) (λh1=>?_) λh1=>?_
 ·walk_at "D"
  rw[if_pos h1,←qS _ up.1] at hQ;exact⟨uy,in128_of (U64.in64 up ht),hQ⟩
 walk_at "D";rw[if_neg h1] at hQ;refine brS (y:=.rem_u) (λh2=>?_) λh2=>?_
 ·walk_at "D"
  rw[if_pos h2,←kL _ up.1] at hQ;exact⟨uy,hQ⟩
 rw[if_neg h2] at hQ;walk_at "D";refine⟨h.1,in128_of hy64,?_⟩
 have fin:∀m,Q (.int (if nm=.div_s then m else x-m*y)) σ->blk (CTK cx (n-2)) (ISs.cons (IS.ret (((IE.loc 0).cmp CmpOp.Eq (IE.val (V.str (ofString "div_s")))).ite (IE.loc 6) (IE.bin Operator.Sub (IE.loc 1) (IE.bin Operator.Mult (IE.loc 6) (IE.loc 2))))) ISs.nil)
  [some (.str nm.str),some (.int x),some (.int y),some (.int t),some (.int (x % 2^t)),some (.int (y % 2^t)),some (.int m)] σ (rq Q) (λJ σ=>X σ):=λm hq=>by
  walk_at "D";refine brS (y:=.div_s) (λh3=>?_) λh3=>?_
  ·rw[if_pos h3] at hq;exact hq
  ·rw[if_neg h3] at hq;exact⟨.inr hy64,hq⟩
 dsimp only[zY,Xa];refine vY (x.fdiv y<0/\x.fdiv y*y≠x) (λZ z=>?_) (λh=>?_) λh=>?_
 ·walk_at "D"
  exact br (λh0=>⟨.inr hy64,z_n z ⟨λq=>q.2,λh1=>⟨h0,h1⟩⟩⟩) λh0=>z_f z λq=>h0 q.1
 ·walk_at "D"
  rw[if_pos h] at hQ;exact fin _ hQ
 ·walk_at "D"
  rw[if_neg h] at hQ;exact fin _ hQ
noncomputable def cmpL(x y:Int)(t:Nat):List (Nm×V):= [(.eq,.bool (x==y)),(.ne,.bool !x==y),(.lt_s,.bool (decide (x<y))),(.lt_u,.bool (decide (x % 2^t<y % 2^t))),(.gt_s,.bool (decide (y<x))),(.gt_u,.bool (decide (y % 2^t<x % 2^t))),
 (.le_s,.bool (decide (x<=y))),(.le_u,.bool (decide (x % 2^t<=y % 2^t))),(.ge_s,.bool (decide (y<=x))),(.ge_u,.bool (decide (y % 2^t<=x % 2^t)))]
noncomputable def arL(x y:Int)(t:Nat):List (Nm×V):= [(.add,.int (x+y)),(.sub,.int (x-y)),(.mul,.int (x*y)),(.and,.int (bL x y)),(.or,.int (fK x y)),(.xor,.int (hV x y)),(.shl,.int (x*2^(y % t).toNat)),(.shr_s,.int (x/2^(y % t).toNat)),(.shr_u,.int (x % 2^t/2^(y % t).toNat)),
 (.rotl,.int (x % 2^t*2^(y % t).toNat+x % 2^t/2^(t-y % t).toNat)),(.rotr,.int (x % 2^t*2^(t-y % t).toNat+x % 2^t/2^(y % t).toNat))]
omit T in theorem cmpL_ok (nm:Nm) (x y:Int) (t:Nat) (h:nm∈ [Nm.eq,.ne,.lt_s,.lt_u,.gt_s,.gt_u,.le_s,.le_u,.ge_s,.ge_u]):∃p:Prop,∃d:Decidable p,(cmpL x y t).lookup nm=some (.bool (decide p))/\l2 nm x y t=some (@b01 p d):=by
 induction nm<;>first
  |exact⟨_,_,rfl,rfl⟩
  |exact⟨_,_,congrArg (λb=>some (V.bool b)) (decide_not (p:=x=y)).symm,rfl⟩
  |(exfalso;revert h;decide)
omit T in theorem arL_ok (nm:Nm) (x y:Int) (t:Nat) (hs:nm.single=false) (h1:nm∉ [Nm.div_s,.div_u,.rem_s,.rem_u]) (h:nm∉ [Nm.eq,.ne,.lt_s,.lt_u,.gt_s,.gt_u,.le_s,.le_u,.ge_s,.ge_u]):(arL x y t).lookup nm=some (optV (l2 nm x y t)):=by
 revert hs h1 h
 induction nm<;>first|exact λJ J J=>rfl|(intro h;cases h;done)|exact λJ h=>absurd (by decide) h|exact λJ J h=>absurd (by decide) h
theorem Zz(hn:4<=n){nm:Nm}(hs:nm.single=false){x y bi:Int}{t:Nat}(hb:bi=t)(ht:t=32∨t=64)(hx:In64 x)(hy:InS y t)(hQ:∀σ',Ext σ σ'->Q (optV (l2 nm x y t)) σ'):CTK cx n 534 [.str nm.str,.int x,.int y,.int bi] σ Q X:=by
 subst hb;refine ctl T (Ug T) hn rfl rfl rfl ?_;walk_at "D";have hy64:In64 y:=Ho hy ht;have t1:(0:Int)<t:=by exact tp ht
 have t0:(0:Int)<=t:=bK t1;have t2:(t:Int)<=1000:=by lia
 have tn:(t:Int)≠0:=gA t1;have k0:0<=y % (t:Int):=bF _ tn;have k1:y % (t:Int)<t:=bA _ t1;have ux:In64 (x % 2^t):=U64.in64 (kI x t) ht;rw[cI,kL y t0,oZ,oZ];refine⟨rfl,t0,t2,oI _,rfl,t0,t2,oI _,tn,ll rfl,rfl,?_⟩;dsimp only[zY,Xa];refine vY (nm∈ [Nm.div_s,.div_u,.rem_s,.rem_u]) (λZ z=>by walk_at "D";exact⟨ll rfl,sA (l:= [Nm.div_s,.div_u,.rem_s,.rem_u]) z⟩) (λh=>?_) λh1=>?_
 ·walk_at "D"
  refine Rk T (cC hn) (by simpa using h) rfl ht hx hy ?_
  have:=hQ σ (.refl σ);have e:l2 nm x y t=lV nm x y t:=by revert h;induction nm<;>first|exact λJ=>rfl|exact λh=>absurd h (by decide)
  rw[e] at this;exact this
 walk_at "N";refine vY (nm∈ [Nm.eq,.ne,.lt_s,.lt_u,.gt_s,.gt_u,.le_s,.le_u,.ge_s,.ge_u]) (λZ z=>by walk_at "D";exact⟨ll rfl,sA (l:= [Nm.eq,.ne,.lt_s,.lt_u,.gt_s,.gt_u,.le_s,.le_u,.ge_s,.ge_u]) z⟩) (λh=>?_) λh=>?_
 ·walk_at "D"
  refine⟨by decide+kernel,λd hd=>?_⟩
  obtain⟨p,dp,h2,h3⟩:=cmpL_ok nm x y t h;refine hU (zJ ..) ?_;refine yJ (jP ..) ?_;show om (((cmpL x y t).map λp=>(p.1.str,p.2)).lookup nm.str) _
  rw[uQ,h2,jR];have x':=hQ _ (Ext.upd (o:=.sd ((cmpL x y t).map λp=>(p.1.str,p.2))) hd)
  rw[h3] at x';unfold b01 at x';walk_at "D";exact br (λq=>by rw[if_pos q] at x';exact x') λq=>by rw[if_neg q] at x';exact x'
 walk_at "D";have p1:=Re (y % (t:Int)).toNat (by lia)
 have p2:=Re ((t:Int)-y % t).toNat (by lia)
 have k2:y % (t:Int)<=1000:=fH (bK k1) t2;have k3:0<=t-y % (t:Int):=iW (bK k1);have k4:t-y % (t:Int)<=1000:=by exact tW ht k0 rfl
 refine⟨.inr hy64,rfl,k0,k2,.inl hx,rfl,k0,k2,oI _,p1,rfl,k0,k2,oI _,p1,rfl,k0,k2,.inl ux,rfl,k3,k4,oI _,p2,rfl,k3,k4,.inl ux,rfl,k0,k2,oI _,p1,⟨rfl,nB rfl,by decide+kernel⟩,λd hd=>?_⟩
 refine hU (zJ ..) ?_;refine yJ (jP ..) ?_;rw[lY,lY,lY];show om (((arL x y t).map λp=>(p.1.str,p.2)).lookup nm.str) _
 rw[uQ,arL_ok nm x y t hs h1 h,jR];exact hQ _ (Ext.upd hd)
end
theorem yO{Q:QV}{σ σ2:H}{p:Nat}{k:Nat}{v:Int}(hp:p=32∨p=64)(x:Ext σ σ2)(h:∀σ',Ext σ σ'->∀l,σ' l=some (.list [tupO (kO p v)])->σ l=none->Q (.tup [.int k,.obj l]) σ'){c:Int}(hc:c=if p=32 then 65 else 66):
 newL σ2 [V.tup [V.int c,.int v]] λv σ=>2<=lim/\Q (V.tup [V.int k,v]) σ:=by
 have e:(.tup [.int c,.int v]:V)=tupO (kO p v):=by
  subst hc;rcases hp with rfl|rfl<;>rfl
 rw[e];exact jS (ll rfl) λl hl=>⟨ll rfl,h _ (x.trans (.upd hl)) l (jP ..) (x.ne hl)⟩
theorem Dv{p:Nat}(hp:p=32∨p=64){A:V->Prop}(h:A (.int (if p=32 then 65 else 66))):if((p:Int)==32)=true then A (.int 65) else A (.int 66):=by
 rcases hp with rfl|rfl<;>exact h
section
variable{cx:Cx}(T:Prog cx){n:Nat}{σ:H}{Q:QV}{X:XH}
include T
theorem Oj(hn:4<=n){nm:Nm}{last:Int}{σ2:H}(x2:Ext σ σ2){L:V->V->V}(h:∀σ',Ext σ σ'->if nm.idle=some last then(∀l,σ' l=some (.list [])->σ l=none->Q (.tup [.int 1,.obj l]) σ') else Q .none σ'):
 CTK cx n 507 [] σ2 (λb σ=>inW (V.str nm.str) b σ λb=>if b=true then CTK cx n 507 [] σ (λa σ=>subW a (V.str nm.str) σ λa σ=>eqW a (V.int last) σ λc=>
      if c=true then newL σ [] λv σ=>2<=lim/\Q (V.tup [V.int 1,v]) σ else Q V.none σ) (λσ=>X σ) else Q V.none σ) (λσ=>X σ):=by
 refine Sp T (aC (by decide) hn) λd hd=>?_
 have x3:=x2.trans (Ext.upd (o:=.sd rO) hd);show inW (.str nm.str) (.obj d) (upd σ2 d (.sd rO)) _;refine yJ (jP ..) ?_;rw[uB]
 induction hi:nm.idle with
 |none=>
  have:=h _ x3;rw[hi,if_neg (λh=>by injection h)] at this
  exact this
 |some i=>
  refine Sp T (aC (by decide) hn) λd2 hd2=>?_
  have x4:=x3.trans (Ext.upd (o:=.sd rO) hd2);show subW (.obj d2) (.str nm.str) (upd (upd σ2 d (.sd rO)) d2 (.sd rO)) _;rw[zJ,jP,qG,jR,uB,hi,Option.map_some,jR,Zo];refine br (λe=>?_) λe=>?_
  ·exact jS (aP _) λl hl=>⟨ll rfl,by
    have:=h _ (x4.trans (.upd (o:=.list []) hl));rw[hi,if_pos (congrArg some e)] at this;exact this l (jP ..) (x4.ne hl)⟩
  ·have:=h _ x4
   rw[hi,if_neg λz=>e (aX z)] at this
   exact this
set_option tactic.hygienic true in
theorem c_lsum(hn:8<=n){op:Op}{last:Int}{a:Option Int}{pp:Option Op}{nm:Nm}{t p:Nat}(ho:opOf (code op)=some (nm,t,p))(h0:op≠ [])(hz:op.length<=100)(hy:InS last t)(ha:∀x,a=some x->In64 x)
 (hQ:∀σ',Ext σ σ'->match chg lr1 lr2 op last a pp with
   |none=>Q .none σ'
   |some (k,new)=>∀l,σ' l=some (.list (new.map tupO))->σ l=none->Q (.tup [.int k,.obj l]) σ'):CTK cx n 541 [tupO op,optV a,.int last] σ Q X:=by
 have h6:6<=n-2:=cC hn;have h4:4<=n-2:=aC (by decide) h6
 refine ctl T (Vg T) hn rfl rfl rfl ?_;walk_at "D";refine e03 (jY ho) λw1 w2 z1z=>?_
 refine kS h0 hz (Ji T (aC (by decide) h4) λσ1 x1=>?_)
 unfold lopV;rw[ho];walk_at "D";unfold chg at hQ;simp only[ho] at hQ;have hp0:0<p:=by exact t0 w2
 have hp1:p<=100:=by lia
 refine⟨rfl,?_⟩;walk_at "D";refine sA (l:= [Nm.eqz,.clz,.ctz,.popcnt,.wrap,.wide,.sp8,.sp16,.sp32]) (br (λh=>?_) λh=>?_)
 ·have hs:nm.single=true:=by revert h;induction nm<;>first|exact λJ=>rfl|exact λh=>absurd h (by decide)
  rw[if_pos hs] at hQ;walk_at "D"
  refine Dv w2 (A:=λc=>CTK cx (n-2) 520 [V.str nm.str,V.int last,V.int ↑t] σ1 (λv σ=>CTK cx (n-2) 515 [v,V.int ↑p] σ
   (λv σ=>2<=lim/\newL σ [V.tup [c,v]] λv σ=>2<=lim/\Q (V.tup [V.int 1,v]) σ) λσ=>X σ) λσ=>X σ) ?_
  refine c_lone T h4 hs rfl w1 λσ2 x2=>rF T (aC (by decide) h4) rfl hp0 hp1 ⟨ll rfl,?_⟩
  exact yO w2 (x1.trans x2) (λσ' x' l hl h0=>hQ σ' x' l hl h0) rfl
 have hs:nm.single=false:=by revert h;induction nm<;>first|exact λJ=>rfl|exact λh=>absurd (by decide) h
 rw[if_neg (by rw[hs];exact λh=>by injection h)] at hQ
 walk_at "D"
 have idle:∀σ2,Ext σ σ2->(∀σ',Ext σ σ'->match(if nm.idle=some last then some (1,[]) else none:Option (Nat×List Op)) with
       |none=>Q .none σ' |some (k,new)=>∀l,σ' l=some (.list (new.map tupO))->σ l=none->Q (.tup [.int k,.obj l]) σ')->_:=λσ2 x2 h=>Oj T (X:=X) (L:=λa J=>a) h4 x2 (nm:=nm) (last:=last) λσ' x'=>by
  have:=h σ' x';split
  ·rename_i e;rw[if_pos e] at this;exact this
  ·rename_i e;rw[if_neg e] at this;exact this
 induction a with
 |none=>
  walk_at "D";walk_at "D";exact idle σ1 x1 hQ
 |some x=>
  refine Zz T h4 hs rfl w1 (ha x rfl) hy λσ2 x2=>?_
  have xx:=x1.trans x2;unfold lr2 at hQ;dsimp only[Option.bind_some] at hQ
  induction hl:l2 nm x last t with
  |none=>
   rw[hl] at hQ;walk_at "D";walk_at "D";exact idle σ2 xx hQ
  |some w=>
   rw[hl] at hQ;walk_at "D";walk_at "D"
   refine Dv w2 (A:=λc=>CTK cx (n-2) 515 [V.int w,V.int ↑p] σ2
    (λv σ=>2<=lim/\newL σ [V.tup [c,v]] λv σ=>2<=lim/\Q (V.tup [V.int 2,v]) σ) λσ=>X σ) ?_
   refine rF T (aC (by decide) h4) rfl hp0 hp1 ⟨ll rfl,?_⟩
   exact yO w2 xx (λσ' x' l hl h0=>hQ σ' x' l hl h0) rfl
end
noncomputable def Typ(t:T)(acc:List T):Prop:=∃S S0 S',RTy acc S0/\S0<+:S/\Ty t S S'
noncomputable def Typs(ts acc:List T):Prop:=∃S S0 S',RTy acc S0/\S0<+:S/\Tys ts S S'
theorem Ic{op:Op}{R:List Op}(h:R.head?.bind cstO=none):Okl op R:=λnm t p c J hc=>by rw[h] at hc;injection hc
theorem Jc{op p:Op}{r:List T}{b:List Op}{c:Int}(hp:cstO p=some c)(h:Typ (.leaf op) (.leaf p::r)):Okl op (kK (.leaf p::r)++b):=λnm t pp c' ho hc=>by
 rw[kX] at hc;have hc:cstO p=some c':=hc;refine e33 h λS S0 S' h1 h2 h3=>?_
 refine e12 (h3.weak h2) λS0' z1z h4=>?_
 refine e12 h1 λS2 z2z hpt=>?_
 refine e14 (qT hc (lO hpt)) λb' hb z3z hi z4z=>?_;obtain rfl:=z4z
 refine e02 (tD ho (lO h4)) λn1 n2=>?_
 have ag:kindOf t=kindOf b':=by
  induction hs:nm.single with
  |true=>exact(n1 hs).1.1 |false=>exact(n2 hs).1.1
 have:=mD (jY ho).1 hb ag;subst this;exact hi
theorem Zn{c k:Int}{acc:List T}{b B out:List Op}(hb:Base b)(h:c=2∨c=3∨(c=4/\acc.head?.bind T.cst=none))(x:Flat lr1 lr2 ([c,k]::(kK acc++b)) B out):Flat lr1 lr2 (kK acc++b) ([c,k]::B) out:=by
 rcases h with h|h|⟨rfl,h⟩
 ·exact qI (uT (.inl h)) x
 ·exact qI (uT (.inr h)) x
 ·refine .keep (Ic (by rw[(pQ acc hb).1];exact h)) (.inl ?_) x
  rw[(pQ acc hb).1];exact h
mutual
theorem Oz:∀(t:T) (acc:List T) (b B out:List Op),t.wf->Typ t acc->Base b->Flat lr1 lr2 (kK (settle lr1 lr2 (t.fo lr1 lr2::acc))++b) B out->Flat lr1 lr2 (kK acc++b) (t.fl++B) out
 |.leaf op,acc,b,B,out,hw,hty,hb,h=>by
  have h4:code op≠4:=λe=>hw.2 (by rw[e];decide)
  change Flat lr1 lr2 (kK (Option.getD (red lr1 lr2 (T.leaf op::acc)) (T.leaf op::acc))++b) B out at h;rcases Xm (r1:=lr1) (r2:=lr2) (op:=op) (acc:=acc) hb with⟨h1,h2,h3⟩|⟨p,c,r,rfl,hp,h2,h3⟩
  ·rw[h3] at h
   refine .keep (Ic ((pQ acc hb).1.trans h1)) (.inr ⟨h4,h2⟩) ?_;rw[iH,kX] at h;exact h
  ·rw[h3] at h
   induction hx:chg lr1 lr2 op c (r.head?.bind T.cst) (r.head?.bind T.put) with
   |none=>
    rw[hx] at h h2;rw[Option.map_none,iH,kX] at h;exact .keep (Jc hp hty) (.inr ⟨h4,h2⟩) h
   |some x=>
    obtain⟨n,new⟩:=x;rw[hx] at h h2;rw[Option.map_some,Option.getD_some] at h;refine e03 (rE vP hx) λi1 z5z i2=>?_
    refine .chg (Jc hp hty) h4 h2 ?_;rw[Jk i2];exact Uo i1 h
 |.blk op f,acc,b,B,out,hw,hty,hb,h=>by
  refine e02 hw λz6z hf=>?_;refine e22 z6z λc k z7z hc=>?_;obtain rfl:=z7z
  have ft:Typs f []:=by
   refine e33 hty λz8z z9z z10z z11z z12z h3=>?_
   cases h3 with
   |blk _ z=>exact⟨[],[],_,rfl,bU,z⟩ |if1 _ z=>exact⟨[],[],_,rfl,bU,z⟩
  change Flat lr1 lr2 (kK (Option.getD (red lr1 lr2 (T.blk [c,k] (fos lr1 lr2 f []).reverse::acc)) (T.blk [c,k] (fos lr1 lr2 f []).reverse::acc))++b) B out at h;by_cases hq:c=4/\acc.head?.bind T.cst≠none
  ·obtain⟨rfl,hq⟩:=hq
   induction acc using List.casesOn with
   |nil=>exact absurd rfl hq |cons t r=>
    induction hcst:t.cst with
    |none=>exact absurd hcst hq |some v=>
     refine e12 (mT hcst) λp z14z hp=>?_;obtain rfl:=z14z
     have e:red lr1 lr2 (.blk [4,k] (fos lr1 lr2 f []).reverse:: .leaf p::r)=some (.blk [2,k] (if v≠0 then(fos lr1 lr2 f []).reverse else [])::r):=by
      simp[red,T.cst,hp,code]
     rw[e,Option.getD_some] at h;rw[kX];refine .ife (t:=.blk [4,k] f) (f:=f) (s:= []) ⟨⟨_,_,rfl,.inr (.inr rfl)⟩,hf⟩ hp (.inl ⟨rfl,rfl⟩) ?_;refine qI (uT (.inl rfl)) ?_;by_cases hv:v≠0
     ·rw[if_pos hv] at h⊢
      rw[pR] at h;have:=pE f [] ([2,k]::(kK r++b)) ([11]::B) out hf ft (wP (.inl rfl)) (qI nK h);exact this
     ·rw[if_neg hv] at h⊢
      have h:=(pR [2,k] [] r b)▸h;exact qI nK h
  ·have e:red lr1 lr2 (.blk [c,k] (fos lr1 lr2 f []).reverse::acc)=none:=by
    by_cases h4:c=4
    ·induction acc using List.casesOn with
     |nil=>rfl |cons t r=>
      have:t.cst=none:=aV λz=>hq ⟨h4,z⟩
      simp[red,this]
    ·exact uN (op:= [c,k]) h4 _
   rw[e,iH,pR] at h
   have hk:c=2∨c=3∨(c=4/\acc.head?.bind T.cst=none):=by
    rcases hc with h|h|h
    ·exact .inl h
    ·exact .inr (.inl h)
    ·exact .inr (.inr ⟨h,aV λz=>hq ⟨h,z⟩⟩)
   show Flat lr1 lr2 _ ([c,k]::((fls f++ [[11]])++B)) out;refine Zn hb hk ?_;have:=pE f [] ([c,k]::(kK acc++b)) ([11]::B) out hf ft (wP hc) (qI nK h)
   simpa using this
 |.ife op f s,acc,b,B,out,hw,hty,hb,h=>by
  refine e03 hw λz15z hf hs=>?_;refine e11 z15z λk z16z=>?_;obtain rfl:=z16z
  have ft:Typs f []/\Typs s []:=by
   refine e33 hty λz17z z18z z19z z20z z21z h3=>?_
   cases h3 with
   |ife _ z z'=>exact⟨⟨[],[],_,rfl,bU,z⟩,⟨[],[],_,rfl,bU,z'⟩⟩
  change Flat lr1 lr2 (kK (Option.getD (red lr1 lr2 (T.ife [4,k] (fos lr1 lr2 f []).reverse (fos lr1 lr2 s []).reverse::acc)) (T.ife [4,k] (fos lr1 lr2 f []).reverse (fos lr1 lr2 s []).reverse::acc))++b) B out at h;by_cases hq:acc.head?.bind T.cst≠none
  ·induction acc using List.casesOn with
   |nil=>exact absurd rfl hq |cons t r=>
    induction hcst:t.cst with
    |none=>exact absurd hcst hq |some v=>
     refine e12 (mT hcst) λp z22z hp=>?_;obtain rfl:=z22z
     have e:red lr1 lr2 (.ife [4,k] (fos lr1 lr2 f []).reverse (fos lr1 lr2 s []).reverse:: .leaf p::r)=some (.blk [2,k] (if v≠0 then(fos lr1 lr2 f []).reverse else(fos lr1 lr2 s []).reverse)::r):=by
      simp[red,T.cst,hp,code]
     rw[e,Option.getD_some] at h;rw[kX];refine .ife (t:=.ife [4,k] f s) (f:=f) (s:=s) ⟨⟨_,rfl⟩,hf,hs⟩ hp (.inr rfl) ?_;refine qI (uT (.inl rfl)) ?_;by_cases hv:v≠0
     ·rw[if_pos hv] at h⊢
      rw[pR] at h;have:=pE f [] ([2,k]::(kK r++b)) ([11]::B) out hf ft.1 (wP (.inl rfl)) (qI nK h);exact this
     ·rw[if_neg hv] at h⊢
      rw[pR] at h;have:=pE s [] ([2,k]::(kK r++b)) ([11]::B) out hs ft.2 (wP (.inl rfl)) (qI nK h);exact this
  ·have hq:acc.head?.bind T.cst=none:=aV hq
   have e:red lr1 lr2 (.ife [4,k] (fos lr1 lr2 f []).reverse (fos lr1 lr2 s []).reverse::acc)=none:=by
    induction acc using List.casesOn with
    |nil=>rfl |cons t r=>
     have:t.cst=none:=hq;simp[red,this]
   rw[e,iH,Ek] at h;show Flat lr1 lr2 _ ([4,k]::((fls f++ [5]::(fls s++ [[11]]))++B)) out;refine Zn hb (.inr (.inr ⟨rfl,hq⟩)) ?_;have h2:=pE s [] ([5]::(kK (fos lr1 lr2 f [])++ [4,k]::(kK acc++b))) ([11]::B) out hs ft.2 Xk (qI nK h);have:=pE f [] ([4,k]::(kK acc++b)) ([5]::(fls s++ [11]::B)) out hf ft.1 (wP (.inr (.inr rfl))) (qI Zf h2)
   simpa using this
theorem pE:∀(ts:List T) (acc:List T) (b B out:List Op),wfs ts->Typs ts acc->Base b->Flat lr1 lr2 (kK (fos lr1 lr2 ts acc)++b) B out->Flat lr1 lr2 (kK acc++b) (fls ts++B) out
 | [],acc,b,B,out,_,_,_,h=>h |t::r,acc,b,B,out,hw,hty,hb,h=>by
   show Flat lr1 lr2 _ ((t.fl++fls r)++B) out;rw[aS];refine e33 hty λS S0 S' h1 h2 h3=>?_
   cases h3 with
   |cons ht hz=>
    refine e12 ((Lv Wb ht).weak h2) λS0' p' ht'=>?_
    refine e12 (sV Wb (show RTy (t.fo lr1 lr2::acc) S0' from⟨S0,h1,ht'⟩)) λS1 p1 hr1=>?_
    exact Oz t acc b _ out hw.1 ⟨_,S0,_,h1,h2,ht⟩ hb (pE r _ b B out hw.2 ⟨_,S1,_,hr1,p1.trans p',hz⟩ hb h)
end
theorem Dk{ts:List T}{Z:List Int}(ty:Tys ts [] Z):Flat lr1 lr2 [] (fls ts++ [[11]]) (fls (fos lr1 lr2 ts []).reverse++ [[11]]):=by
 have h:Flat lr1 lr2 ([11]::kK (fos lr1 lr2 ts [])) [] _:=.done _;have:=pE ts [] [] [[11]] _ ty.wf ⟨[],[],_,rfl,bU,ty⟩ ⟨rfl,rfl⟩ (qI nK (by simpa using h))
 simpa [kK,fls] using this
noncomputable def zQ:ISs:=(iss [(.assign 5 (.sub (.sub (.loc 0) (.loc 4)) (.val (.int 0)))),
 (.iff (.and (.cmp (.loc 5) .Eq (.val (.int 5))) (.cmp (.loc 2) .Eq (.val (.int 0)))) (iss [(.assign 3 (.loc 4))]) (iss [])),
 (.assign 2 (.bin .Add (.loc 2) (.ite (.cmp (.loc 5) .In (.tup (ies [(.val (.int 2)),(.val (.int 3)),(.val (.int 4))]))) (.val (.int 1)) (.ite (.cmp (.loc 5) .Eq (.val (.int 11))) (.neg (.val (.int 1))) (.val (.int 0)))))),
 (.assign 4 (.bin .Add (.loc 4) (.val (.int 1))))])
noncomputable def zP:IE:=(.or (.cmp (.loc 2) .Gt (.val (.int 0))) (.cmp (.sub (.sub (.loc 0) (.loc 4)) (.val (.int 0))) .NotEq (.val (.int 11))))
noncomputable def dlt(c:Int):Int:=if c∈([2,3,4]:List Int) then 1 else if c=11 then-1 else 0
theorem Dp{c:Int}(h:c∈([2,3,4]:List Int)):dlt c=1:=if_pos h
theorem Tz:dlt 11= -1:=rfl
theorem Cp{c:Int}(h:c∉([2,3,4]:List Int))(h':c≠11):dlt c=0:=(if_neg h).trans (if_neg h')
theorem Jx:ib__law_sides=iss [(.assignT [(.nm 2),(.nm 3),(.nm 4)] (.tup (ies [(.val (.int 0)),(.val .none),(.bin .Add (.loc 1) (.val (.int 1)))]))),(.whl zP zQ),(.ret (.ite (.cmp (.loc 3) .Is (.val .none)) (.tup (ies [(.sli (.loc 0) (.bin .Add (.loc 1) (.val (.int 1))) (.loc 4)),(.lst (ies [])),(.loc 4)])) (.tup (ies [(.sli (.loc 0) (.bin .Add (.loc 1) (.val (.int 1))) (.loc 3)),(.sli (.loc 0) (.bin .Add (.loc 3) (.val (.int 1))) (.loc 4)),(.loc 4)]))))]:=rfl
theorem rS{toks:List Op}(hz:toks.length<=5000):(toks.map tupO).length<=lim:=by rw[aB];exact aC hz (by decide)
theorem oM{σ:H}{Q:QV}{b:Addr}{toks:List Op}{i:Nat}{tok:Op}(h:σ b=some (.list (toks.map tupO)))(hz:toks.length<=5000)(hi:toks[i]?=some tok):subW (.obj b) (.int i) σ Q=Q (tupO tok) σ:=by
 have hl:=(aT.mp hi).1;refine kC h (rS hz) ?_;rw[pD (bT _) (by rw[aB];exact Int.ofNat_lt.mpr hl) (rS hz),bH]
 show Option.map tupO toks[i]?=_;rw[hi];rfl
theorem Sa{toks xs rest:List Op}{i j:Nat}(hi:i<=toks.length)(h:toks.drop i=xs++rest)(hj:j=i+xs.length)(hz:toks.length<=5000):cut (toks.map tupO) (.int i) (.int j)=some (xs.map tupO):=by
 have hl:=congrArg List.length h;rw[fX,aD] at hl;have hj2:j<=toks.length:=by lia
 show(clip _ _ _).bind (λi=>(clip _ _ _).map _)=_
 rw[Fg (by exact nT (aC hi hz) rfl),Fg (by exact nT (aC hj2 hz) rfl),aB,cL hi,cL hj2]
 show some (List.take (j-i) (List.drop i (toks.map tupO)))=some _;rw[←iR,h,bJ,show j-i=(xs.map tupO).length by rw[aB,hj,gR],List.take_left]
section
variable{cx:Cx}{m:Nat}{σ:H}{Q:QS}{b:Addr}{toks:List Op}{at_ cc:Option V}
noncomputable abbrev sT(cx:Cx)(m:Nat):Rho->H->(Bool->H->Prop)->Prop:=λρ σ k=>wpE (CTK cx m) zP ρ σ (λv σ=>isB v λc=>k c σ) λJ=>False
noncomputable abbrev sB(cx:Cx)(m:Nat):Rho->H->QS->Prop:=λρ σ q=>blk (CTK cx m) zQ ρ σ q λJ J=>False
theorem Tb{i:Nat}{tok:Op}{D:Int}{w:Option V}{K:Bool->H->Prop}(h:σ b=some (.list (toks.map tupO)))(hz:toks.length<=5000)(hi:toks[i]?=some tok)(h0:tok≠ [])(hl:tok.length<=100)
 (hK:K (decide (0<D)|| !(code tok==11)) σ):sT cx m [some (.obj b),at_,some (.int D),w,some (.int i),cc] σ K:=by
 unfold sT zP;walk_at "D";refine br (λhD=>?_) λhD=>?_
 ·rw[decide_eq_true hD,Bool.true_or] at hK;exact hK
 ·rw[oM h hz hi]
  rw[decide_eq_false hD,Bool.false_or] at hK;exact kS h0 hl hK
theorem Km{i:Nat}{tok:Op}{D:Int}{w:V}{q:QS}(h:σ b=some (.list (toks.map tupO)))(hz:toks.length<=5000)(hi:toks[i]?=some tok)(h0:tok≠ [])(hl:tok.length<=100)
 (hn:q .next [some (.obj b),at_,some (.int (D+dlt (code tok))),some (if code tok=5/\D=0 then .int i else w),some (.int ((i:Int)+1)),some (.int (code tok))] σ):
 sB cx m [some (.obj b),at_,some (.int D),some w,some (.int i),cc] σ q:=by
 unfold sB zQ;walk_at "D";rw[oM h hz hi];refine kS h0 hl ?_;walk_at "D"
 have rest:∀w',w'=(if code tok=5/\D=0 then V.int i else w)->blk (CTK cx m) (iss [(.assign 2 (.bin .Add (.loc 2) (.ite (.cmp (.loc 5) .In (.tup (ies [(.val (.int 2)),(.val (.int 3)),(.val (.int 4))]))) (.val (.int 1)) (.ite (.cmp (.loc 5) .Eq (.val (.int 11))) (.neg (.val (.int 1))) (.val (.int 0)))))),(.assign 4 (.bin .Add (.loc 4) (.val (.int 1))))])
  [some (.obj b),at_,some (.int D),some w',some (.int i),some (.int (code tok))] σ q λJ J=>False:=λw' e=>by
  subst e;generalize(if code tok=5/\D=0 then V.int i else w)=w' at hn
  have fin:∀d',dlt (code tok)=d'->blk (CTK cx m) (iss [(.assign 4 (.bin .Add (.loc 4) (.val (.int 1))))]) [some (.obj b),at_,some (.int (D+d')),some w',some (.int i),some (.int (code tok))] σ q λJ J=>False:=λd' e=>by
   subst e;walk_at "D";exact bk0 hn
  walk_at "D";exact⟨kE (by decide),kJ (l:= [2,3,4]) (br (λh=>nx1 (fin _ (Dp h))) λh=>br (λh'=>nx1 (fin _ (h'▸Tz))) λh'=>nx1 (fin _ (Cp h h')))⟩
 refine br (λh5=>br (λhD=>?_) λhD=>nx1 (bk0 (nx1 (rest _ (if_neg λz=>hD z.2).symm)))) λh5=>nx1 (bk0 (nx1 (rest _ (if_neg λz=>h5 z.1).symm)))
 walk_at "D";exact nx1 (bk0 (nx1 (rest _ (if_pos ⟨h5,hD⟩).symm)))
noncomputable def sL(cx:Cx)(m:Nat)(Q:QS)(b:Addr)(at_:Option V)(σ:H)(n:Nat)(D:Int)(w:V)(i:Nat)(cc:Option V):Prop:=whlN (sT cx m) (sB cx m) Q n [some (.obj b),at_,some (.int D),some w,some (.int i),cc] σ
noncomputable def Go(cx:Cx)(m:Nat)(Q:QS)(b:Addr)(at_:Option V)(σ:H)(toks xs:List Op):Prop:=∀(i n:Nat) (post:List Op) (D:Int) (w:V) (cc:Option V),0<=D->toks.drop i=xs++post->(∀cc,sL cx m Q b at_ σ n D w (i+xs.length) cc)->sL cx m Q b at_ σ (n+xs.length) D w i cc
theorem mZ{n i:Nat}{tok:Op}{D:Int}{w:V}(h:σ b=some (.list (toks.map tupO)))(hz:toks.length<=5000)(hi:toks[i]?=some tok)(h0:tok≠ [])(hl:tok.length<=100)(hD:0<D∨code tok≠11)
 {D':Int}{w':V}(hD':D+dlt (code tok)=D')(hw:(if code tok=5/\D=0 then .int i else w)=w')(hn:∀cc,sL cx m Q b at_ σ n D' w' (i+1) cc):sL cx m Q b at_ σ (n+1) D w i cc:=by
 subst hD' hw;unfold sL;refine Tb h hz hi h0 hl ?_;rw[show(decide (0<D)|| !(code tok==11))=true from hD.elim (λh=>by rw[decide_eq_true h];rfl) λh=>by rw[beq_eq_false_iff_ne.mpr h];exact Bool.or_true _,if_pos rfl]
 exact Km h hz hi h0 hl (hn _)
theorem Ub{n i:Nat}{w:V}(h:σ b=some (.list (toks.map tupO)))(hz:toks.length<=5000)(hi:toks[i]?=some [11])
 (hn:Q .next [some (.obj b),at_,some (.int 0),some w,some (.int i),cc] σ):sL cx m Q b at_ σ (n+1) 0 w i cc:=by
 unfold sL;refine Tb h hz hi (λe=>by contradiction) (by decide) ?_
 rw[show(decide ((0:Int)<0)|| !(code [11]==11))=false by decide,if_neg (by decide)]
 exact hn
theorem Gz:Go cx m Q b at_ σ toks []:=λJ J J J J cc J J h=>h cc
theorem Jz{xs ys:List Op}(h1:Go cx m Q b at_ σ toks xs)(h2:Go cx m Q b at_ σ toks ys):Go cx m Q b at_ σ toks (xs++ys):=λi n post D w cc h0 hd hF=>by
 rw[aS] at hd;rw[aD] at hF⊢;rw[dP xs.length,←eW];refine h1 i _ _ D w cc h0 hd λcc=>h2 _ n post D w cc h0 (pA hd) λcc=>?_
 rw[eW,dP xs.length];exact dP ys.length _▸hF cc
theorem Nt{op:Op}(h:σ b=some (.list (toks.map tupO)))(hz:toks.length<=5000)(h0:op≠ [])(hl:op.length<=100)(hc:code op∉ [2,3,4,5,11]):Go cx m Q b at_ σ toks [op]:=λi n post D w cc J hd hF=>by
 have h2:code op∉([2,3,4]:List Int):=λz=>hc (aU [5,11] z)
 have h5:code op≠5:=λe=>hc (by rw[e];decide)
 have h11:code op≠11:=λe=>hc (by rw[e];decide)
 exact mZ h hz (lC hd).1 h0 hl (.inr h11) (by rw[Cp h2 h11,jI]) (if_neg λz=>h5 z.1) hF
theorem Iz{k kk:Int}{xs:List Op}(h:σ b=some (.list (toks.map tupO)))(hz:toks.length<=5000)(hk:k∈([2,3,4]:List Int))(g:Go cx m Q b at_ σ toks xs):Go cx m Q b at_ σ toks ([k,kk]::(xs++ [[11]])):=λi n post D w cc h0 hd hF=>by
 rw[List.length_cons,aD,bP] at hF⊢;rw[List.cons_append,aS] at hd;have d1:=lC hd;have d2:=lC (pA d1.2);have h1:0<D+1:=Int.lt_add_one_of_le h0;refine mZ (n:=n+(xs.length+1)) h hz d1.1 (λe=>by contradiction) (nB rfl) (.inr λe=>by rw[show code [k,kk]=k from rfl] at e;rw[e] at hk;exact absurd hk (by decide)) (by rw[show dlt (code [k,kk])=1 from Dp hk]) (if_neg λz=>by rw[show code [k,kk]=k from rfl] at z;rw[z.1] at hk;exact absurd hk (by decide)) λcc=>?_
 rw[dP xs.length,←eW];refine g (i+1) (n+1) _ (D+1) w cc (bK h1) d1.2 λcc=>mZ h hz d2.1 (λe=>by contradiction) (by decide) (.inl h1) (Int.add_neg_cancel_right D 1) (if_neg λz=>absurd z.1 (by decide)) λcc=>?_
 rw[show i+1+xs.length+1=i+(xs.length+1+1) by lia]
 exact hF cc
theorem Hz{kk:Int}{xs ys:List Op}(h:σ b=some (.list (toks.map tupO)))(hz:toks.length<=5000)(g:Go cx m Q b at_ σ toks xs)(g':Go cx m Q b at_ σ toks ys):Go cx m Q b at_ σ toks ([4,kk]::(xs++ [5]::(ys++ [[11]]))):=λi n post D w cc h0 hd hF=>by
 rw[List.length_cons,aD,List.length_cons,aD,bP] at hF⊢;rw[List.cons_append,aS,List.cons_append,aS] at hd;have d1:=lC hd;have d2:=lC (pA d1.2);have d3:=lC (pA d2.2);have h1:0<D+1:=Int.lt_add_one_of_le h0;rw[show n+(xs.length+(ys.length+1+1)+1)=n+1+ys.length+1+xs.length+1 by lia]
 refine mZ h hz d1.1 (λe=>by contradiction) (nB rfl) (.inr (by decide:(4:Int)≠11)) rfl (if_neg λz=>absurd (show(4:Int)=5 from z.1) (by decide)) λcc=>?_
 refine g (i+1) _ _ (D+1) w cc (bK h1) d1.2 λcc=>mZ h hz d2.1 (λe=>by contradiction) (by decide) (.inl h1) (jI _) (if_neg λz=>absurd z.2 (gA h1)) λcc=>?_
 refine g' _ _ _ (D+1) w cc (bK h1) d2.2 λcc=>mZ h hz d3.1 (λe=>by contradiction) (by decide) (.inl h1) (Int.add_neg_cancel_right D 1) (if_neg λz=>absurd z.1 (by decide)) λcc=>?_
 rw[show i+1+xs.length+1+ys.length+1=i+(xs.length+(ys.length+1+1)+1) by lia]
 exact hF cc
mutual
theorem go_T(h:σ b=some (.list (toks.map tupO)))(hz:toks.length<=5000):∀(t:Internal.T),t.wf->(∀op∈t.fl,op.length<=100)->Go cx m Q b at_ σ toks t.fl
 |.leaf op,hw,hop=>Nt h hz hw.1 (hop op (.head _)) hw.2 |.blk op f,hw,hop=>by
  refine e02 hw λz1z hwf=>?_
  refine e22 z1z λk kk z2z hk=>?_
  subst z2z;exact Iz h hz (by rcases hk with rfl|rfl|rfl<;>decide) (wA h hz f hwf λop h=>hop op (.tail _ (aU _ h)))
 |.ife op f g,hw,hop=>by
  refine e03 hw λz3z hwf hwg=>?_
  refine e11 z3z λkk z4z=>?_
  subst z4z;exact Hz h hz (wA h hz f hwf λop h=>hop op (.tail _ (aU _ h))) (wA h hz g hwg λop h=>hop op (.tail _ (bE _ (.tail _ (aU _ h)))))
theorem wA(h:σ b=some (.list (toks.map tupO)))(hz:toks.length<=5000):∀(ts:List Internal.T),wfs ts->(∀op∈fls ts,op.length<=100)->Go cx m Q b at_ σ toks (fls ts)
 | [],_,_=>Gz |t::r,hw,hop=>Jz (go_T h hz t hw.1 λop h=>hop op (aU _ h)) (wA h hz r hw.2 λop h=>hop op (bE _ h))
end
end
section
variable{cx:Cx}(T:Prog cx){n:Nat}{σ:H}{Q:QV}{X:XH}
include T
theorem Yt(hn:2<=n){b:Addr}{toks post:List Op}{i:Nat}{t:Internal.T}{k:Int}{f s:List Internal.T}(h:σ b=some (.list (toks.map tupO)))(hz:toks.length<=5000)(hd:toks.drop i=t.fl++post)(ht:(t=.blk [4,k] f/\s= [])∨t=.ife [4,k] f s)(hw:t.wf)(hop:∀op∈t.fl,op.length<=100)
 (hQ:∀ly ln σ',Ext σ σ'->σ ly=none->σ ln=none->σ' ly=some (.list ((fls f).map tupO))->σ' ln=some (.list ((fls s).map tupO))->Q (.tup [.obj ly,.obj ln,.int ((i+t.fl.length-1:Nat):Int)]) σ'):CTK cx n 548 [.obj b,.int i] σ Q X:=by
 refine ctl T (Gb T) hn rfl rfl rfl ?_;rw[Jx];walk_at "D";refine⟨by decide,rfl,?_⟩
 walk_at "D"
 have bound:∀{i:Nat} {xs ys:List Op},toks.drop i=xs++ys->xs.length<=toks.length:=λ{i xs ys} e=>by
  have hl:=congrArg List.length e;rw[fX,aD] at hl;lia
 have lmx:∀{i:Nat} {xs ys:List Op},toks.drop i=xs++ys->(xs.map tupO).length<=lim:=λ{i xs ys} e=>by rw[aB];exact aC (aC (bound e) hz) (by decide)
 rcases ht with⟨rfl,rfl⟩|rfl
 ·rw[show(Internal.T.blk [4,k] f).fl= [4,k]::(fls f++ [[11]]) from rfl] at hd hQ
  rw[List.cons_append,aS] at hd;have d1:=lC hd;have d2:=lC (pA d1.2);have l1:=(aT.mp d2.1).1;refine⟨0+1+(fls f).length,wA h hz f hw.2 (λop h=>hop op (.tail _ (aU _ h))) (i+1) (0+1) _ 0 _ _ (Int.le_refl _) d1.2 λcc=>Ub h hz d2.1 ?_⟩
  walk_at "D";rw[show(i:Int)+1=((i+1:Nat):Int) by exact Int.ofNat_add_one_out i]
  have c1:=Sa (i:=i+1) (j:=i+1+(fls f).length) (by lia) d1.2 rfl hz
  refine om_l h ⟨rS hz,?_⟩;rw[c1,jR];refine jS (lmx d1.2) λly hly=>jS (aP _) λln hln=>⟨l3,?_⟩
  have this:=hQ ly ln _ ((Ext.upd hly).trans (Ext.upd (o:=.list []) hln)) hly ((Ext.upd hly).ne hln) ((Ext.upd hln) _ _ (jP ..)) (jP ..);rw[show i+([4,k]::(fls f++ [[11]])).length-1=i+1+(fls f).length by rw[List.length_cons,aD,bP];exact Eq.symm (Nat.succ_add i (fls f).length)] at this
  exact this
 ·rw[show(Internal.T.ife [4,k] f s).fl= [4,k]::(fls f++ [5]::(fls s++ [[11]])) from rfl] at hd hQ
  rw[List.cons_append,aS,List.cons_append,aS] at hd;have d1:=lC hd;have d2:=lC (pA d1.2);have d3:=lC (pA d2.2);have l1:=(aT.mp d2.1).1;have l2:=(aT.mp d3.1).1;refine⟨(0+1+(fls s).length+1)+(fls f).length,wA h hz f hw.2.1 (λop h=>hop op (.tail _ (aU _ h))) (i+1) _ _ 0 _ _ (Int.le_refl _) d1.2 λcc=>mZ h hz d2.1 (λe=>by contradiction) (by decide) (.inr (by decide)) rfl (if_pos ⟨rfl,rfl⟩) λcc=>?_⟩
  refine wA h hz s hw.2.2 (λop h=>hop op (.tail _ (bE _ (.tail _ (aU _ h))))) _ (0+1) _ 0 _ _ (Int.le_refl _) d2.2 λcc=>Ub h hz d3.1 ?_
  walk_at "D";rw[show(i:Int)+1=((i+1:Nat):Int) by exact Int.ofNat_add_one_out i]
  have c1:=Sa (i:=i+1) (j:=i+1+(fls f).length) (by lia) d1.2 rfl hz
  refine om_l h ⟨rS hz,?_⟩;rw[c1,jR];refine jS (lmx d1.2) λly hly=>?_
  have x1:=Ext.upd (o:=.list ((fls f).map tupO)) hly;rw[show((i+1+(fls f).length:Nat):Int)+1=((i+1+(fls f).length+1:Nat):Int) by exact Int.ofNat_add_one_out (i+1+(fls f).length)]
  have c2:=Sa (i:=i+1+(fls f).length+1) (j:=i+1+(fls f).length+1+(fls s).length) (by exact l1) d2.2 rfl hz
  refine om_l (x1 _ _ h) ⟨rS hz,?_⟩;rw[c2,jR];refine jS (lmx d2.2) λln hln=>⟨l3,?_⟩
  have this:=hQ ly ln _ (x1.trans (Ext.upd (o:=.list ((fls s).map tupO)) hln)) hly (x1.ne hln) ((Ext.upd hln) _ _ (jP ..)) (jP ..);rw[show i+([4,k]::(fls f++ [5]::(fls s++ [[11]]))).length-1=i+1+(fls f).length+1+(fls s).length by rw[List.length_cons,aD,List.length_cons,aD,bP];lia] at this
  exact this
end
noncomputable def lf1:IS:=(.assignT [(.nm 2),(.nm 3)] (.tup (ies [(.sub (.loc 0) (.loc 1)),(.ite (.cmp (.sub (.sub (.loc 0) (.bin .Sub (.loc 1) (.val (.int 1)))) (.val (.int 0))) .In (.tup (ies [(.val (.int 65)),(.val (.int 66))]))) (.sub (.sub (.loc 0) (.bin .Sub (.loc 1) (.val (.int 1)))) (.val (.int 1))) (.val .none))])))
noncomputable def lf2:IS:=(.assignT [(.nm 4),(.nm 5)] (.tup (ies [(.val .none),(.loc 1)])))
noncomputable def lf3:IS:=(.iff (.and (.cmp (.loc 3) .IsNot (.val .none)) (.cmp (.call (.val (.raw (.ref 492))) (ies [(.sub (.loc 2) (.val (.int 0)))])) .IsNot (.val .none))) (iss [(.assign 4 (.call (.val (.raw (.ref 541))) (ies [(.loc 2),(.ite (.and (.cmp (.loc 1) .Gt (.val (.int 1))) (.cmp (.sub (.sub (.loc 0) (.bin .Sub (.loc 1) (.val (.int 2)))) (.val (.int 0))) .In (.tup (ies [(.val (.int 65)),(.val (.int 66))])))) (.sub (.sub (.loc 0) (.bin .Sub (.loc 1) (.val (.int 2)))) (.val (.int 1))) (.val .none)),(.loc 3)])))]) (iss [(.iff (.and (.cmp (.loc 3) .IsNot (.val .none)) (.cmp (.sub (.loc 2) (.val (.int 0))) .In (.tup (ies [(.val (.int 27)),(.val (.int 28))])))) (iss [(.iff (.cmp (.loc 3) .NotEq (.val (.int 0))) (iss [(.assign 4 (.tup (ies [(.val (.int 1)),(.lst (ies [(.tup (ies [(.val (.int 26))]))]))])))]) (iss [(.iff (.and (.cmp (.loc 1) .Gt (.val (.int 1))) (.cmp (.sub (.sub (.loc 0) (.bin .Sub (.loc 1) (.val (.int 2)))) (.val (.int 0))) .In (.val (.tup [(.int 32),(.int 35),(.int 63),(.int 65),(.int 66),(.int 208),(.int 210),(.int 64528)])))) (iss [(.assign 4 (.tup (ies [(.val (.int 2)),(.lst (ies [(.tup (ies [(.val (.int 26))])),(.sub (.loc 0) (.bin .Sub (.loc 1) (.val (.int 2))))]))])))]) (iss []))]))]) (iss [(.iff (.and (.cmp (.loc 3) .IsNot (.val .none)) (.cmp (.sub (.loc 2) (.val (.int 0))) .Eq (.val (.int 13)))) (iss [(.assign 4 (.tup (ies [(.val (.int 1)),(.ite (.cmp (.loc 3) .NotEq (.val (.int 0))) (.lst (ies [(.tup (ies [(.val (.int 12)),(.sub (.loc 2) (.val (.int 1)))]))])) (.lst (ies [])))])))]) (iss [(.iff (.and (.cmp (.loc 3) .IsNot (.val .none)) (.cmp (.sub (.loc 2) (.val (.int 0))) .Eq (.val (.int 14)))) (iss [(.assign 4 (.tup (ies [(.val (.int 1)),(.lst (ies [(.tup (ies [(.val (.int 12)),(.ite (.cmp2 (.val (.int 0)) .LtE (.loc 3) .Lt (.bin .Sub (.bi .len (ies [(.loc 2)])) (.val (.int 2)))) (.sub (.loc 2) (.bin .Add (.val (.int 1)) (.loc 3))) (.sub (.loc 2) (.neg (.val (.int 1)))))]))]))])))]) (iss [(.iff (.and (.cmp (.loc 3) .IsNot (.val .none)) (.cmp (.sub (.loc 2) (.val (.int 0))) .Eq (.val (.int 4)))) (iss [(.assignT [(.nm 6),(.nm 7),(.nm 5)] (.call (.val (.raw (.ref 548))) (ies [(.loc 0),(.loc 1)]))),
 (.assign 4 (.tup (ies [(.val (.int 1)),(.bin .Add (.bin .Add (.lst (ies [(.tup (ies [(.val (.int 2)),(.sub (.loc 2) (.val (.int 1)))]))])) (.ite (.cmp (.loc 3) .NotEq (.val (.int 0))) (.loc 6) (.loc 7))) (.lst (ies [(.tup (ies [(.val (.int 11))]))])))])))]) (iss []))]))]))]))]))
noncomputable def lf4:IS:=(.iff (.cmp (.loc 4) .Is (.val .none)) (iss [(.assign 1 (.bin .Add (.loc 1) (.val (.int 1))))]) (iss [(.setSli (.loc 0) (.bin .Sub (.loc 1) (.sub (.loc 4) (.val (.int 0)))) (.bin .Add (.loc 5) (.val (.int 1))) (.sub (.loc 4) (.val (.int 1)))),
 (.assign 1 (.bi .max (ies [(.val (.int 1)),(.bin .Sub (.loc 1) (.sub (.loc 4) (.val (.int 0))))])))]))
noncomputable def Pf:IE:=(.cmp (.loc 1) .Lt (.bi .len (ies [(.loc 0)])))
theorem lf_eq:ib__law_folded=iss [(.assignT [(.nm 0),(.nm 1)] (.tup (ies [(.bi .list (ies [(.loc 0)])),(.val (.int 1))]))),(.whl Pf (iss [lf1,lf2,lf3,lf4])),(.ret (.loc 0))]:=rfl
structure lJ(op:Op):Prop where
 ne:op≠ []
 len:op.length<=100
 cs:code op=65∨code op=66->∃c v,op= [c,v]/\In64 v
 two:code op=13∨code op=14->2<=op.length
theorem Kd{p:Op}(hg:lJ p)(h:code p∈ [(65:Int),66]):∃c v,p= [c,v]/\cstO p=some v/\In64 v:=by
 have h:code p=65∨code p=66:=by simpa using h
 refine e22 (hg.cs h) λc v z1z h64=>?_;obtain rfl:=z1z
 exact⟨c,v,rfl,if_pos h,h64⟩
theorem Ld{p:Op}(h:code p∉ [(65:Int),66]):cstO p=none:=by
 match p with
 | []| [_]|_::_::_::_=>rfl
 | [c,k]=>exact if_neg λz=>h (z.elim (λe=>e▸aE) λe=>e▸aH _ aE)
theorem lim5{k:Nat}(h:k<=5000):k<=lim:=aC h (nB rfl)
theorem lim1{k:Nat}(h:k<=100):k<=lim:=aC h (nB rfl)
section
variable{cx:Cx}{m:Nat}{σ:H}{fb:Addr}{R B:List Op}
theorem Oc{at_:Int}{b0 op last en y n:Option V}{q:QS}(h:q .next [b0,some (.int (at_+1)),op,last,some .none,en,y,n] σ):wpS (CTK cx m) lf4 [b0,some (.int at_),op,last,some .none,en,y,n] σ q λJ J=>False:=by
 unfold lf4;walk_at "D";exact h
theorem Uh{at_ k en:Int}{l:Addr}{op last y n:Option V}{xs ms r:List V}{q:QS}(hb:σ fb=some (.list xs))(hl:σ l=some (.list ms))(hne:fb≠l)(hx:xs.length<=5000)(hm:ms.length<=5000)(hp:rZ xs (.int (at_-k)) (.int (en+1)) ms=some r)(hr:r.length<=5000)
 (h:q .next [some (.obj fb),some (.int (max 1 (at_-k))),op,last,some (.tup [.int k,.obj l]),some (.int en),y,n] (upd σ fb (.list r))):
 wpS (CTK cx m) lf4 [some (.obj fb),some (.int at_),op,last,some (.tup [.int k,.obj l]),some (.int en),y,n] σ q λJ J=>False:=by
 unfold lf4;walk_at "D";walk_at "D";refine⟨ll rfl,nI ⟨ll rfl,pZ ⟨hne,?_⟩⟩⟩;refine om_l hb ?_;refine om_l hl ?_;rw[hp,jR];refine⟨⟨lim5 hx,lim5 hm⟩,lim5 hr,?_⟩;walk_at "D";exact⟨ll rfl,pZ h⟩
theorem Xn{at_:Int}{op:Op}{b0 ch en y n:Option V}{q:QS}(h:q .next [b0,some (.int at_),some (tupO op),some .none,ch,en,y,n] σ):
 wpS (CTK cx m) lf3 [b0,some (.int at_),some (tupO op),some .none,ch,en,y,n] σ q λJ J=>False:=by
 unfold lf3;refine Uc (λZ z=>z) ?_
 walk_at "N";refine Uc (λZ z=>z) ?_
 walk_at "N";refine Uc (λZ z=>z) ?_
 walk_at "N";refine Uc (λZ z=>z) ?_
 walk_at "N";refine Uc (λZ z=>z) ?_
 walk_at "N";exact h
theorem Xy{toks:List Op}{i:Nat}{op p:Op}{x2 x3 x4 x5 x6 x7:Option V}{q:QS}(hb:σ fb=some (.list (toks.map tupO)))(hz:toks.length<=5000)(hi:toks[i+1]?=some op)(hp:toks[i]?=some p)(hg:lJ p)
 (h:q .next [some (.obj fb),some (.int ((i:Int)+1)),some (tupO op),some (optV (cstO p)),x4,x5,x6,x7] σ):wpS (CTK cx m) lf1 [some (.obj fb),some (.int ((i:Int)+1)),x2,x3,x4,x5,x6,x7] σ q λJ J=>False:=by
 unfold lf1;walk_at "D";rw[Int.add_sub_cancel];refine hU (oM hb hz hi) (hU (oM hb hz hp) (kS hg.ne hg.len ⟨ll rfl,kJ (l:= [65,66]) (br (λhc=>hU (oM hb hz hp) ?_) λhc=>?_)⟩))
 ·refine e23 (Kd hg hc) λc v z2z e z3z=>?_;obtain rfl:=z2z
  rw[e] at h;exact⟨ll rfl,nI ⟨ll rfl,rfl,h⟩⟩
 ·rw[Ld hc] at h
  exact⟨ll rfl,rfl,h⟩
end
theorem Mk{op:Op}{σ:H}{Z:QV}(h:2<=op.length)(hz:op.length<=100)(z:Z (.int (op.getD 1 0)) σ):subW (tupO op) (.int 1) σ Z:=by
 induction op using List.casesOn with
 |nil=>exact absurd h (by decide)
 |cons a r=>induction r using List.casesOn with
  |nil=>exact absurd h (by simp)
  |cons b r=>exact⟨by rw[aB];exact lim1 hz,nI z⟩
noncomputable def r3(fb:Addr)(R:List Op)(op:Op)(c:Int)(v:V)(en y n:Option V):Rho:= [some (.obj fb),some (.int ((R.length:Int)+1)),some (tupO op),some (.int c),some v,en,y,n]
section
variable{cx:Cx}(T:Prog cx){m:Nat}{σ:H}{fb:Addr}
include T
set_option tactic.hygienic true in
theorem Vh{toks:List Op}{op p:Op}{R B:List Op}{c:Int}{en y n:Option V}{q:QS}(hm:12<=m)(hb:σ fb=some (.list (toks.map tupO)))(hz:toks.length<=5000)(hR:toks=R.reverse++p::op::B)(hg:lJ op)(hgR:∀o∈R,lJ o)(hp:cstO p=some c)(hok:Okl op (p::R))(h4:code op≠4)
 (hN:fch lr1 lr2 op (p::R)=none->∀σ',Ext σ σ'->q .next (r3 fb R op c (.none) en y n) σ')
 (hC:∀k new,fch lr1 lr2 op (p::R)=some (k,new)->∀σ' l,Ext σ σ'->σ l=none->σ' l=some (.list (new.map tupO))->q .next (r3 fb R op c ((.tup [.int k,.obj l])) en y n) σ'):
 wpS (CTK cx m) lf3 [some (.obj fb),some (.int ((R.length:Int)+1)),some (tupO op),some (.int c),some .none,en,y,n] σ q λJ J=>False:=by
 have hf:fch lr1 lr2 op (p::R)=chg lr1 lr2 op c (R.head?.bind cstO) (R.head?.bind putO):=by
  unfold fch;show Option.bind (cstO p) _=_;rw[hp];rfl
 rw[hf] at hN hC
 have rget:∀r R',R=r::R'->((R.length:Int)+1-2)=(R'.length:Int)/\toks[R'.length]?=some r:=λr R' e=>by
  subst e;refine⟨by simp only[List.length_cons];exact Int.sub_eq_iff_eq_add.mpr rfl,?_⟩
  rw[hR,bQ,aS,eK (by simp)]
  simp
 unfold lf3;walk_at "D";refine kS hg.ne hg.len (Ji T (fv hm rfl) λσ1 x1=>?_)
 have hb1:=x1 _ _ hb
 have told:∀(k:Nat) (new:List Op),chg lr1 lr2 op c (R.head?.bind cstO) (R.head?.bind putO)=some (k,new)->new.length<=10->newL σ1 (new.map tupO) λv σ=>2<=lim/\q Fl.next (r3 fb R op c ((.tup [.int k,v])) en y n) σ:=λk new hk hl=>
  jS (by rw[aB];exact kE (aC hl (by decide))) λl hl'=>⟨ll rfl,hC k new hk _ l (x1.trans (.upd hl')) (x1.ne hl') (jP ..)⟩
 induction ho:opOf (code op) with
 |some x=>
  obtain⟨nm,t,pp⟩:=x;rw[show lopV (code op)=.tup [.str nm.str,.int t,.int pp] by unfold lopV;rw[ho]]
  walk_at "D";walk_at "D";have hin:InS c t:=hok nm t pp c ho (by show cstO p=_;exact hp)
  have sum:∀σ2,Ext σ σ2->(∀x,R.head?.bind cstO=some x->In64 x)->CTK cx m 541 [tupO op,optV (R.head?.bind cstO),V.int c] σ2 (λv σ=>nx (CTK cx m) .nil q (λJ J=>False) Fl.next (r3 fb R op c (v) en y n) σ) λx=>False:=λσ2 x2 h64=>by
   refine c_lsum T (pp:=R.head?.bind putO) (fv hm rfl) ho hg.ne hg.len hin h64 λσ' x'=>?_
   split
   ·rename_i hn;exact hN hn σ' (x2.trans x')
   ·rename_i k new hk
    intro l hl h0;exact hC k new hk σ' l (x2.trans x') (x2.ne h0) hl
  induction R using List.casesOn with
  |nil=>exact br (λz=>absurd z (by decide)) λJ=>sum σ1 x1 λx hx=>by injection hx
  |cons r R'=>
   refine br (λJ=>?_) λz=>absurd (by simp only[List.length_cons];exact Int.compare_eq_gt.mp rfl) z
   refine e02 (rget r R' rfl) λe1 e2=>?_
   have hgr:=hgR r aE;rw[e1];have hs:=sum σ1 x1;refine hU (oM hb1 hz e2) (kS hgr.ne hgr.len ⟨ll rfl,kJ (l:= [65,66]) (br (λhc=>?_) λhc=>?_)⟩)
   ·refine hU (oM hb1 hz e2) ?_
    refine e23 (Kd hgr hc) λcc v z4z e h64=>?_;obtain rfl:=z4z
    rw[show([cc,v]::R').head?.bind cstO=some v from e] at hs
    exact⟨ll rfl,nI (hs λx hx=>by injection hx with qz;subst qz;exact h64)⟩
   ·rw[show(r::R').head?.bind cstO=none from Ld hc] at hs
    exact hs λx hx=>by injection hx
 |none=>
  rw[show lopV (code op)=.none by unfold lopV;rw[ho]]
  walk_at "D";walk_at "D";have S0:∀{σ:H} {Z:QV},Z (.int (code op)) σ->subW (tupO op) (.int 0) σ Z:=λz=>kS hg.ne hg.len z
  have ch:chg lr1 lr2 op c (R.head?.bind cstO) (R.head?.bind putO)=if code op=27∨code op=28 then(if c≠0 then some (1,[[26]]) else(R.head?.bind putO).map λq=>(2,[[26],q])) else if code op=13 then some (1,if c≠0 then [[12,op.getD 1 0]] else []) else if code op=14 then some (1,[[12,lab op c]]) else none:=by
   rw[chg,ho]
  refine S0 ⟨ll rfl,kJ (l:= [27,28]) (br (λhsel=>?_) λhsel=>?_)⟩
  ·have hsel:code op=27∨code op=28:=by simpa using hsel
   have ch:=ch.trans (if_pos hsel);walk_at "D";refine brn (λhc0=>?_) λhc0=>?_
   ·have ch:=ch.trans (if_neg (not_not_intro hc0))
    walk_at "D"
    induction R using List.casesOn with
    |nil=>
     refine br (λz=>absurd z (by decide)) λJ=>?_
     walk_at "D";exact hN ch σ1 x1
    |cons r R'=>
     refine br (λJ=>?_) λz=>absurd (by simp only[List.length_cons];exact Int.compare_eq_gt.mp rfl) z
     refine e02 (rget r R' rfl) λe1 e2=>?_
     have hgr:=hgR r aE;rw[e1,oM hb1 hz e2];have ch:_=Option.map _ (if code r∈mN then some r else none):=ch
     refine kS hgr.ne hgr.len (kJ (l:=mN) (br (λhpc=>?_) λhpc=>?_))
     ·rw[if_pos hpc] at ch
      walk_at "D";have e1:((R'.length+1:Nat):Int)+1-2=(R'.length:Int):=e1;rw[e1,oM hb1 hz e2];exact⟨ll rfl,told 2 [[26],r] ch (nB rfl)⟩
     ·rw[if_neg hpc] at ch
      walk_at "D";exact hN ch σ1 x1
   ·walk_at "D"
    exact⟨ll rfl,told 1 [[26]] (ch.trans (if_pos hc0)) (nB rfl)⟩
  have ch:=ch.trans (if_neg λz=>hsel (by simpa using z))
  walk_at "D";refine S0 (br (λh13=>?_) λh13=>?_)
  ·have ch:=ch.trans (if_pos h13)
   have h2:=hg.two (.inl h13);walk_at "D";refine brn (λhc0=>?_) λhc0=>?_
   ·exact told 1 [] (ch.trans (by rw[if_neg (not_not_intro hc0)])) (aP _)
   ·have:=told 1 [[12,op.getD 1 0]] (ch.trans (by rw[if_pos hc0])) (nB rfl)
    exact Mk h2 hg.len ⟨ll rfl,this⟩
  have ch:=ch.trans (if_neg h13);walk_at "D";refine S0 (br (λh14=>?_) λh14=>?_)
  ·have h2:=hg.two (.inr h14)
   have hl:=hg.len;have this:=told 1 [[12,lab op c]] (ch.trans (if_pos h14)) (nB rfl);have hlm:(op.map V.int).length<=lim:=by rw[aB];exact lim1 hl
   have mapget:∀(k:Nat) (h:k<op.length),(op.map V.int)[k]?=some (.int (op.getD k 0)):=λk h=>by
    rw[bH,bI h,eL,bI h];rfl
   have lst:lab op c=op.getLastD 0->subW (tupO op) (V.int (-1)) σ1 λv σ=>2<=lim/\newL σ [V.tup [V.int 12,v]] λv σ=>2<=lim/\q Fl.next (r3 fb R op c ((V.tup [V.int 1,v])) en y n) σ:=λe=>by
    show subW (.tup (op.map V.int)) _ _ _;have e2:((-1:Int)+((op.map V.int).length:Int)).toNat=op.length-1:=by rw[aB];exact tn2 1 _
    rw[Te,qX (by decide) (by rw[aB];lia) hlm,e2,mapget _ (by exact Nat.sub_one_lt_of_lt h2),jR]
    refine⟨hlm,ll rfl,?_⟩
    have e3:op.getD (op.length-1) 0=lab op c:=by
     rw[e,List.getLastD_eq_getLast?,gC,eL]
    rw[e3];exact this
   walk_at "D";refine br (λhc0=>?_) λhc0=>lst (if_neg λz=>hc0 z.1)
   refine⟨hlm,?_⟩;rw[aB];refine br (λhlt=>?_) λhlt=>lst (if_neg λz=>hlt z.2)
   show subW (.tup (op.map V.int)) _ _ _;have e2:((1:Int)+c).toNat=c.toNat+1:=by rw[Int.add_comm];exact Int.toNat_add_nat hc0 1
   rw[Te,pD (by lia) (by rw[aB];lia) hlm,e2,mapget _ (by lia),jR]
   refine⟨hlm,ll rfl,?_⟩;have e3:op.getD (c.toNat+1) 0=lab op c:=(if_pos ⟨hc0,hlt⟩:lab op c=_).symm;rw[e3];exact this
  have ch:=ch.trans (if_neg h14);walk_at "D";refine S0 (br (λz=>absurd z h4) λJ=>?_)
  walk_at "D";exact hN ch σ1 x1
end
theorem qC{b:Nat}{v:Int}(hb:b=32∨b=64)(h:InS v b):lJ (kO b v):=by
 refine⟨(λh=>by injection h),by simp[kO],λJ=>⟨_,_,rfl,Ho h hb⟩,λhc=>?_⟩
 simp[kO]
theorem lW{c:Int}{r:List Int}(h1:c≠65)(h2:c≠66)(h3:c≠13)(h4:c≠14)(hl:r.length<=50):lJ (c::r):=
 ⟨(λh=>by injection h),by simp;exact nT hl rfl,λh=>by simp only[code,jB] at h;lia,λh=>by simp only[code,jB] at h;lia⟩
set_option tactic.hygienic true in
theorem Kp{op:Op}{c:Int}{a:Option Int}{p:Option Op}{n:Nat}{new:List Op}(hp:∀q,p=some q->lJ q)(h:chg lr1 lr2 op c a p=some (n,new)):∀o∈new,lJ o:=by
 unfold chg at h;split at h
 ·rename_i nm t pp ho
  refine e03 (jY ho) λz1z w2 z2z=>?_
  split at h
  ·injection h with qz;injection qz with qz rz;subst qz rz
   intro o hm;rw[aK.mp hm];exact qC w2 (sW (by exact t0 w2) _)
  ·split at h
   ·rename_i v hv
    injection h with qz;injection qz with qz rz;subst qz rz
    intro o hm;rw[aK.mp hm];refine kY hv λx z3z hv=>?_
    refine mapS hv λw z4z z5z=>?_;obtain rfl:=z5z
    exact qC w2 (sW (by exact t0 w2) _)
   ·split at h
    ·injection h with qz;injection qz with qz rz;subst qz rz;intro o hm;cases hm
    ·injection h
 ·split at h
  ·split at h
   ·injection h with qz;injection qz with qz rz;subst qz rz
    intro o hm;rw[aK.mp hm];exact lW (by decide) (by decide) (by decide) (by decide) (by decide)
   ·refine mapS h λq hq h=>?_
    injection h with qz rz;subst qz rz
    intro o hm;rcases aJ.mp hm with rfl|hm
    ·exact lW (by decide) (by decide) (by decide) (by decide) (by decide)
    ·rw[aK.mp hm];exact hp q hq
  ·split at h
   ·injection h with qz;injection qz with qz rz;subst qz rz
    intro o hm;split at hm
    ·rw[aK.mp hm];exact lW (by decide) (by decide) (by decide) (by decide) (by simp)
    ·cases hm
   ·split at h
    ·injection h with qz;injection qz with qz rz;subst qz rz
     intro o hm;rw[aK.mp hm];exact lW (by decide) (by decide) (by decide) (by decide) (by simp)
    ·injection h
theorem sN{d len k:Nat}(hk:k<=10000):clip d len (.int k)=some (min k len):=by
 have:(2:Int)^62=4611686018427387904:=by decide
 unfold clip;simp only;rw[if_pos (by exact iC hk rfl),if_neg (by exact Int.not_ofNat_neg k)]
 rfl
theorem Fc{xs ys zs ms:List Op}{lo hi:Int}(h1:lo=(xs.length:Int))(h2:hi=((xs.length+ys.length:Nat):Int))(hz:xs.length+ys.length+zs.length<=5000):rZ ((xs++(ys++zs)).map tupO) (.int lo) (.int hi) (ms.map tupO)=some ((xs++(ms++zs)).map tupO):=by
 subst h1;subst h2
 unfold rZ;rw[sN (by lia),sN (by exact nT (Nat.le_of_add_right_le hz) rfl)]
 show some _=_
 congr 1
 dsimp only;simp only[aB,aD];rw[cL (by exact cN _ _),cL (by lia),iK (by exact cN _ _),←List.map_take,←iR,List.take_left,←aS xs ys zs,←aD,List.drop_left]
 simp
section
variable{cx:Cx}(T:Prog cx){m:Nat}{σ:H}{fb:Addr}
include T
theorem Vy{toks:List Op}{p:Op}{R B:List Op}{c k:Int}{t:Internal.T}{f s:List Internal.T}{en y n:Option V}{q:QS}(hm:12<=m)(hb:σ fb=some (.list (toks.map tupO)))(hz:toks.length<=5000)(hR:toks=R.reverse++p::(t.fl++B))(ht:(t=.blk [4,k] f/\s= [])∨t=.ife [4,k] f s)(hw:t.wf)(hop:∀op∈t.fl,op.length<=100)
 (hC:∀σ' l y n,Ext σ σ'->σ l=none->σ' l=some (.list (([2,k]::(fls (if c≠0 then f else s)++ [[11]])).map tupO))->q .next [some (.obj fb),some (.int ((R.length:Int)+1)),some (tupO [4,k]),some (.int c),some (.tup [.int 1,.obj l]),some (.int ((R.length+t.fl.length:Nat):Int)),y,n] σ'):
 wpS (CTK cx m) lf3 [some (.obj fb),some (.int ((R.length:Int)+1)),some (tupO [4,k]),some (.int c),some .none,en,y,n] σ q λJ J=>False:=by
 unfold lf3;walk_at "D";have S0:∀{σ:H} {Z:QV},Z (.int 4) σ->subW (tupO [4,k]) (.int 0) σ Z:=λz=>kS (λh=>by injection h) (nB rfl) z
 refine S0 (Ji T (fv hm rfl) λσ1 x1=>?_)
 have hb1:=x1 _ _ hb;rw[show lopV 4=.none from rfl]
 walk_at "D";walk_at "D";refine S0 ⟨ll rfl,kJ (l:= [27,28]) (br (λz=>absurd z (by decide)) λJ=>?_)⟩
 walk_at "D";walk_at "D";refine S0 ?_;walk_at "D";walk_at "D";refine S0 ?_;walk_at "D";walk_at "D";refine S0 ?_;walk_at "D";walk_at "D";have e1:(R.length:Int)+1=((R.length+1:Nat):Int):=rfl;rw[e1] at hC⊢
 have hd:toks.drop (R.length+1)=t.fl++B:=by
  rw[hR,show R.reverse++p::(t.fl++B)=(R.reverse++ [p])++(t.fl++B) by simp,show R.length+1=(R.reverse++ [p]).length by simp,List.drop_left]
 refine Yt T (fv hm rfl) hb1 hz hd ht hw hop λly ln σ2 x2 hly hln vy vn=>⟨rfl,?_⟩
 walk_at "D";have tlen:R.length+1+t.fl.length+B.length<=5000:=by rw[hR] at hz;simp at hz;lia
 have flen:(fls f).length<=5000/\(fls s).length<=5000:=by
  rcases ht with⟨rfl,rfl⟩|rfl
  ·rw[Oa] at tlen;unfold fln at tlen;simp[fls];lia
  ·rw[Na] at tlen;unfold fln at tlen;lia
 have fin:∀{σ3:H} {la lb:Addr} {side:List Op} {K:QV} {y n:Option V},Ext σ σ3->σ3 la=some (.list ([[2,k]].map tupO))->σ3 lb=some (.list (side.map tupO))->side.length<=5000->side=fls (if c≠0 then f else s)->
  (∀v σ,q .next [some (V.obj fb),some (V.int ↑(R.length+1)),some (tupO [4,k]),some (V.int c),some (V.tup [V.int 1,v]),some (V.int ↑(R.length+1+t.fl.length-1)),y,n] σ->K v σ)->
  binW Operator.Add (.obj la) (.obj lb) σ3 λa σ=>1<=lim/\newL σ [V.tup [V.int 11]] λb σ=>binW Operator.Add a b σ K:=by
  intro σ3 la lb side K y n x3 h1 h2 h3 h4 hK;refine om_l h1 ?_;refine om_l h2 ?_;rw[←bJ];have hz1:(([[2,k]]++side).map tupO).length<=lim:=by rw[aB,aD];exact aC (cQ (aR 1) h3) (by decide)
  refine jS hz1 λl1 hl1=>⟨ll rfl,jS (ll rfl) λl2 hl2=>?_⟩
  have x4:=x3.trans (Ext.upd (o:=.list (([[2,k]]++side).map tupO)) hl1);have h5:=(Ext.upd (o:=.list [V.tup [V.int 11]]) hl2) _ _ (jP σ3 l1 (.list (([[2,k]]++side).map tupO)));refine om_l h5 ?_;refine om_l (jP ..) ?_;rw[show [V.tup [V.int 11]]= [[11]].map tupO from rfl,←bJ]
  refine jS (by rw[aB,aD,aD];exact aC (cQ (cQ (aR 1) h3) (aR 1)) (by decide)) λl3 hl3=>hK _ _ ?_
  have x5:=x4.trans (Ext.upd (o:=.list ([[11]].map tupO)) hl2);have:=hC _ l3 y n (x5.trans (Ext.upd (o:=.list (([[2,k]]++side++ [[11]]).map tupO)) hl3)) (x5.ne hl3) (by rw[jP,h4];rfl)
  rw[show R.length+1+t.fl.length-1=R.length+t.fl.length by exact Nat.succ_add_sub_one t.fl.length R.length]
  exact this
 refine⟨ll rfl,nI ⟨ll rfl,jS (ll rfl) λla hla=>?_⟩⟩
 have x12:=x1.trans x2;have x3:=x12.trans (Ext.upd (o:=.list [V.tup [V.int 2,V.int k]]) hla);refine brn (λhc=>?_) λhc=>?_
 ·exact fin x3 (jP ..) ((Ext.upd hla) _ _ vn) flen.2 (by rw[if_neg (not_not_intro hc)]) λv σ h=>⟨ll rfl,h⟩
 ·exact fin x3 (jP ..) ((Ext.upd hla) _ _ vy) flen.1 (by rw[if_pos hc]) λv σ h=>⟨ll rfl,h⟩
structure LS(σ0 σ:H)(fb:Addr)(toks:List Op):Prop where
 lst:σ fb=some (.list (toks.map tupO))
 fr:∀z,σ0 z≠none->σ z=σ0 z
 fb0:σ0 fb=none
omit T in
theorem LS.ext{σ0 σ σ':H}{toks:List Op}(h:LS σ0 σ fb toks)(x:Ext σ σ'):LS σ0 σ' fb toks:=⟨x _ _ h.lst,λz hz=>by rw[x.eq (by rw[h.fr z hz];exact hz)];exact h.fr z hz,h.fb0⟩
omit T in
theorem LS.put{σ0 σ:H}{toks toks':List Op}(h:LS σ0 σ fb toks):LS σ0 (upd σ fb (.list (toks'.map tupO))) fb toks':=⟨jP ..,λz hz=>by
 rw[jQ _ _ λe=>hz (by rw[e];exact h.fb0)];exact h.fr z hz,h.fb0⟩
noncomputable abbrev lT(cx:Cx)(m:Nat):Rho->H->(Bool->H->Prop)->Prop:=λρ σ k=>wpE (CTK cx m) Pf ρ σ (λv σ=>isB v λc=>k c σ) λJ=>False
noncomputable abbrev lB(cx:Cx)(m:Nat):Rho->H->QS->Prop:=λρ σ q=>blk (CTK cx m) (iss [lf1,lf2,lf3,lf4]) ρ σ q λJ J=>False
omit T in
theorem Th{toks:List Op}{at_:Int}{x2 x3 x4 x5 x6 x7:Option V}{K:Bool->H->Prop}(hb:σ fb=some (.list (toks.map tupO)))(hz:toks.length<=5000)(h:K (decide (at_<toks.length)) σ):lT cx m [some (.obj fb),some (.int at_),x2,x3,x4,x5,x6,x7] σ K:=by
 unfold lT Pf;walk_at "D";refine lU hb ?_;rw[aB];exact⟨lim5 hz,h⟩
omit T in
theorem Wy{b0:Option V}{at_:V}{op last x4 x5 x6 x7:Option V}{q:QS}(h:q .next [b0,some at_,op,last,some .none,some at_,x6,x7] σ):wpS (CTK cx m) lf2 [b0,some at_,op,last,x4,x5,x6,x7] σ q λJ J=>False:=by
 unfold lf2;walk_at "D";exact⟨ll rfl,rfl,h⟩
omit T in
theorem zR(p:Op)(R X:List Op):(p::R).reverse++X=R.reverse++p::X:=by rw[bQ,aS];rfl
structure At2(toks R B:List Op)(p op:Op):Prop where
 eq:toks=R.reverse++p::op::B
 len:toks.length=(R.length+1)+(B.length+1)
 hp:toks[R.length]?=some p
 ho:toks[R.length+1]?=some op
omit T in
theorem at2(R B:List Op)(p op:Op):At2 ((p::R).reverse++op::B) R B p op:=by
 have e:=zR p R (op::B);have l:R.reverse.length=R.length:=aW;refine⟨e,by rw[aD,aW];rfl,?_,?_⟩
 ·rw[e,eK (cZ l),l,Nat.sub_self];rfl
 ·rw[e,eK (l▸dA _),l,gR];rfl
omit T in
theorem max1(p:Op)(R:List Op):max 1 (((p::R).length:Nat):Int)=(R.length:Int)+1:=gB (Int.le_add_of_nonneg_left (bT _))
omit T in
theorem Da{n:Nat}{Q:QS}{toks R B:List Op}{p op:Op}{x2 x3 x4 x5 x6 x7:Option V}(A:At2 toks R B p op)(hz:toks.length<=5000)(hb:σ fb=some (.list (toks.map tupO)))(hg:lJ p)
 (h:wpS (CTK cx m) lf3 [some (.obj fb),some (.int ((R.length:Int)+1)),some (tupO op),some (optV (cstO p)),some .none,some (.int ((R.length:Int)+1)),x6,x7] σ (nx (CTK cx m) (iss [lf4]) (lpQ (λρ σ=>whlN (lT cx m) (lB cx m) Q n ρ σ) Q) λJ J=>False) λJ J=>False):
 whlN (lT cx m) (lB cx m) Q (n+1) [some (.obj fb),some (.int ((R.length:Int)+1)),x2,x3,x4,x5,x6,x7] σ:=by
 refine Th hb hz ?_;rw[if_pos (decide_eq_true (show(R.length:Int)+1<(toks.length:Int) by rw[A.len];lia))]
 exact bk1 (Xy hb hz A.ho A.hp hg (nx1 (bk1 (Wy (nx1 (bk1 h))))))
omit T in
theorem spl(L B:List Op)(op:Op)(k:Nat):L.reverse++op::B=(L.drop k).reverse++(((L.take k).reverse++ [op])++B):=by
 rw[aS,←aS,←dX,cW];rfl
theorem Of(hm:12<=m){σ0:H}{Q:QS}{R B out:List Op}(F:Flat lr1 lr2 R B out):
 (∀o∈R,lJ o)->(∀o∈B,lJ o)->R.length+B.length<=5000->(∀σ' at_ x2 x3 x4 x5 x6 x7,LS σ0 σ' fb out->Q .next [some (.obj fb),at_,x2,x3,x4,x5,x6,x7] σ')->
 ∃n,∀σ x2 x3 x4 x5 x6 x7,LS σ0 σ fb (R.reverse++B)->whlN (lT cx m) (lB cx m) Q n [some (.obj fb),some (.int (max 1 (R.length:Int))),x2,x3,x4,x5,x6,x7] σ:=by
 induction F with
 |done R=>
  intro hgR hgB hz hQ;refine⟨1,λσ x2 x3 x4 x5 x6 x7 h=>?_⟩
  rw[bY] at h;refine Th h.lst (by rw[aW];exact hz) ?_
  rw[aW,if_neg λz=>fT.mpr (Int.le_max_right 1 (R.length:Int)) (of_decide_eq_true z)]
  exact hQ σ _ _ _ _ _ _ _ h
 | @keep op R B out hok hk F ih=>
   intro hgR hgB hz hQ;have hgo:=hgB op aE;refine e11 (ih (λo h=>(aJ.mp h).elim (λe=>e▸hgo) (hgR o)) (λo h=>hgB o (aH _ h)) (aC (cZ (Nat.succ_add_eq_add_succ _ _)) hz) hQ) λn hn=>?_
   induction R using List.casesOn with
   |nil=>exact⟨n,λσ x2 x3 x4 x5 x6 x7 h=>hn σ x2 x3 x4 x5 x6 x7 h⟩ |cons p R=>
    refine⟨n+1,λσ x2 x3 x4 x5 x6 x7 h=>?_⟩
    have A:=at2 R B p op;have hlen:=aC (cZ A.len) hz;rw[max1];rw[max1,zR] at hn;have keepN:∀σ' last,Ext σ σ'->whlN (lT cx m) (lB cx m) Q n [some (.obj fb),some (.int ((R.length:Int)+1+1)),some (tupO op),last,some .none,some (.int ((R.length:Int)+1)),x6,x7] σ':=λσ' last x=>hn σ' _ _ _ _ _ _ (h.ext x)
    refine Da A hlen h.lst (hgR p aE) ?_
    induction hc:cstO p with
    |none=>exact Xn (nx1 (bk1 (Oc (nx1 (bk0 (lp1 (keepN σ _ (.refl σ)))))))) |some c=>
     have hk:=hk.resolve_left (show¬cstO p=none from λe=>by have h:=e.symm.trans hc;contradiction)
     refine Vh T hm h.lst hlen A.eq hgo (λo ho=>hgR o (aH _ ho)) hc hok hk.1 (λJ σ' x=>nx1 (bk1 (Oc (nx1 (bk0 (lp1 (keepN σ' _ x))))))) λk new hf=>?_
     exact by have h:=hk.2.symm.trans hf;contradiction
 | @chg op R B out k new hok h4 hf F ih=>
   intro hgR hgB hz hQ;have hgo:=hgB op aE
   induction R using List.casesOn with
   |nil=>exact by contradiction
   |cons p R=>
    induction hc:cstO p with
    |none=>
     have hf:Option.bind (cstO p) _=_:=hf;rw[hc] at hf;exact by contradiction
    |some c=>
     have hf':chg lr1 lr2 op c (R.head?.bind cstO) (R.head?.bind putO)=some (k,new):=by
      have hf:Option.bind (cstO p) _=_:=hf;rw[hc] at hf;exact hf
     have hputs:∀q,R.head?.bind putO=some q->code q∈mN/\q∈R:=λq hq=>by
      induction R using List.casesOn with
      |nil=>exact by contradiction
      |cons r R'=>
       refine e02 (zU (show putO r=some q from hq)) λz6z h=>?_
       obtain rfl:=z6z;exact⟨h,aE⟩
     refine e03 (rE (λq hq=>(hputs q hq).1) hf') λz7z hlk hk12=>?_
     have hkR:k<=R.length+1/\0<k:=by
      rcases hk12 with e|⟨e,h⟩
      ·subst e;exact⟨aY (aP _),by decide⟩
      ·subst e
       induction R using List.casesOn with
       |nil=>rcases h with h|h<;>exact absurd rfl h
       |cons r R'=>exact⟨aY (aY (aP _)),by decide⟩
     have hgn:=Kp (λq hq=>hgR q (aH _ (hputs q hq).2)) hf'
     have hdl:((p::R).drop k).length=R.length+1-k:=fX;have hz:(R.length+1)+(B.length+1)<=5000:=hz;refine e11 (ih (λo h=>hgR o (List.mem_of_mem_drop h)) (λo h=>(bB.mp h).elim (hgn o) λh=>hgB o (aH _ h)) (by rw[hdl,aD];omega) hQ) λn hn=>?_
     refine⟨n+1,λσ x2 x3 x4 x5 x6 x7 h=>?_⟩
     have A:=at2 R B p op;have hlen:=aC (cZ A.len) hz;rw[max1];refine Da A hlen h.lst (hgR p aE) ?_;rw[hc];refine Vh T hm h.lst hlen A.eq hgo (λo ho=>hgR o (aH _ ho)) hc hok h4 (λhn=>by have h:=hn.symm.trans hf;contradiction) λk' new' hf2 σ' l x hl hl2=>?_
     refine e02 (fS (aX (hf.symm.trans hf2))) λe1 e2=>?_
     subst e1 e2;have hS:=h.ext x;have tl:((p::R).take k).reverse.length=k:=by rw[aW,eF];exact cL hkR.1
     have el:((p::R).drop k).reverse.length=R.length+1-k:=aW.trans hdl;have e1:(R.length:Int)+1-k=(((p::R).drop k).reverse.length:Int):=by rw[el,Int.ofNat_sub hkR.1];rfl
     have e2:(R.length:Int)+1+1=((((p::R).drop k).reverse.length+(((p::R).take k).reverse++ [op]).length:Nat):Int):=by
      rw[el,aD,tl,bP,←eW,eG hkR.1];rfl
     have hfl:fb≠l:=λe=>lv h.lst (e▸hl)
     have hS1:=hS.lst;have hl5:=hlen;rw[spl] at hS1 hl5;refine nx1 (bk1 (Uh hS1 hl2 hfl (by rw[aB];exact hl5) (by rw[aB];lia) (Fc e1 e2 (by rw[←aS,aD,aD] at hl5;exact hl5)) (by rw[aB,aD,aD,el];lia) (nx1 (bk0 (lp1 ?_)))))
     have:=hn _ (some (tupO op)) (some (V.int c)) (some (.tup [.int k,.obj l])) (some (.int ((R.length:Int)+1))) x6 x7 (hS.put (toks':=((p::R).drop k).reverse++(new++B)));rw[hdl,Int.ofNat_sub hkR.1] at this;exact this
 | @ife p R B out k c t f s hw hc ht F ih=>
   intro hgR hgB hz hQ;have hgp:=hgR p aE;have hgt:∀o∈t.fl,lJ o:=λo h=>hgB o (aU _ h)
   obtain⟨rest,hfl⟩:∃rest,t.fl= [4,k]::rest:=by
    rcases ht with⟨rfl,_⟩|rfl
    ·exact⟨_,rfl⟩
    ·exact⟨_,rfl⟩
   have hside:∀o∈fls (if c≠0 then f else s),lJ o:=λo h=>by
    rcases ht with⟨rfl,rfl⟩|rfl
    ·split at h
     ·exact hgt o (by simp[Internal.T.fl,h])
     ·cases h
    ·split at h
     ·exact hgt o (by simp[Internal.T.fl,h])
     ·exact hgt o (by simp[Internal.T.fl,h])
   have hslen:(fls (if c≠0 then f else s)).length+2<=t.fl.length:=by
    rcases ht with⟨rfl,rfl⟩|rfl
    ·rw[Oa];unfold fln;split<;>simp[fls]
    ·rw[Na];unfold fln;split<;>lia
   obtain⟨n,hn⟩:=ih (λo h=>hgR o (aH _ h)) (λo h=>by
    rcases aJ.mp h with rfl|h
    ·exact lW (by decide) (by decide) (by decide) (by decide) (by simp)
    ·rcases bB.mp h with h|h
     ·exact hside o h
     ·rcases aJ.mp h with rfl|h
      ·exact lW (by decide) (by decide) (by decide) (by decide) (by simp)
      ·exact hgB o (bE _ h)) (by simp at hz hslen⊢;lia) hQ
   refine⟨n+1,λσ x2 x3 x4 x5 x6 x7 h=>?_⟩
   have ht':=zR p R (t.fl++B);have A:At2 ((p::R).reverse++(t.fl++B)) R (rest++B) p [4,k]:=by rw[hfl];exact at2 R (rest++B) p [4,k]
   have hlen:((p::R).reverse++(t.fl++B)).length<=5000:=by simp at hz⊢;lia
   rw[max1];refine Da A hlen h.lst hgp ?_;rw[hc];refine Vy T hm h.lst hlen ht' ht hw (λo ho=>(hgt o ho).len) λσ' l y n' x hl hl2=>?_
   have hS:=h.ext x;have split:(p::R).reverse++(t.fl++B)=R.reverse++(([p]++t.fl)++B):=by simp
   have hfb:fb≠l:=λe=>lv h.lst (e▸hl)
   have hS1:=hS.lst;rw[split] at hS1
   refine nx1 (bk1 (Uh (k:=1) hS1 hl2 hfb (by rw[←split];simpa using hlen) (by simp at hz hslen⊢;lia) (Fc (by simp) (by simp;exact Int.add_assoc (↑R.length) (↑t.fl.length) 1) (by
    have:=hlen;rw[split] at this;simp only[aD,aW] at this⊢;lia)) (by simp at hz hslen⊢;lia) (nx1 (bk0 (lp1 ?_)))))
   have heq:R.reverse++([2,k]::(fls (if c≠0 then f else s)++ [11]::B))=R.reverse++([2,k]::(fls (if c≠0 then f else s)++ [[11]])++B):=by simp
   have hL:LS σ0 (upd σ' fb (.list ((R.reverse++([2,k]::(fls (if c≠0 then f else s)++ [[11]])++B)).map tupO))) fb (R.reverse++([2,k]::(fls (if c≠0 then f else s)++ [11]::B))):=by
    rw[heq];exact hS.put
   have:=hn _ (some (tupO [4,k])) (some (V.int c)) (some (.tup [.int 1,.obj l])) (some (.int ((R.length+t.fl.length:Nat):Int))) y n' hL;rw[show max 1 ((R.length:Nat):Int)=max 1 ((R.length:Int)+1-1) by lia] at this
   exact this
theorem Sk{n:Nat}{Q:QV}{X:XH}{b:Addr}{body out:List Op}(hn:14<=n)(hb:σ b=some (.list (body.map tupO)))(hg:∀o∈body,lJ o)(hz:body.length<=5000)(F:Flat lr1 lr2 [] body out)
 (hQ:∀c σ',σ c=none->σ' c=some (.list (out.map tupO))->(∀z,σ z≠none->σ' z=σ z)->Q (.obj c) σ'):CTK cx n 555 [.obj b] σ Q X:=by
 refine ctl T (xS T) hn rfl rfl rfl ?_;rw[lf_eq];walk_at "D";refine om_l hb ?_;refine jS (by rw[aB];exact lim5 hz) λfb hfb=>⟨ll rfl,rfl,?_⟩
 walk_at "N"
 obtain⟨k,hk⟩:=Of (m:=n-2) (fb:=fb) (Q:=nx (CTK cx (n-2)) (iss [.ret (.loc 0)]) (rq Q) λJ σ=>X σ) T (fu hn rfl) F (λo h=>by cases h) hg (by simpa using hz) (σ0:=σ) λσ' at_ x2 x3 x4 x5 x6 x7 h=>by
  walk_at "D";exact hQ fb σ' hfb h.lst h.fr
 refine⟨k,?_⟩;exact hk (upd σ fb (.list (body.map tupO))) none none none none none none ⟨jP ..,λz hz=>jQ _ _ λe=>hz (by rw[e];exact hfb),hfb⟩
end
noncomputable def K3(k:Int):Prop:=k= -1∨k= -2∨k= -16
theorem yT{x:Int}{b:Nat}(hb:b=32∨b=64)(h: -5<=x/\x<=50):InS x b:=by
 have n31:(2:Int)^(32-1)=2147483648:=by decide
 have n63:(2:Int)^(64-1)=9223372036854775808:=by decide
 unfold InS;rcases hb with rfl|rfl<;>lia
theorem Vj{b:Nat}(hb:b=32∨b=64):InS (-2^(b-1)) b:=by
 have:=cF (b-1);unfold InS;lia
theorem qA{l:List V}{k:Int}{K:V->Prop}(h0:0<=k)(h1:k<l.length)(hz:l.length<=lim)(h:∀v∈l,K v):om (idx l k) K:=by
 rw[pD h0 h1 hz,bI (by exact(Int.toNat_lt h0).mpr h1)]
 exact h _ (List.getElem_mem _)
theorem qH{l:List Int}{K:V->Prop}(h:∀x∈l,K (.int x)):∀v∈l.map V.int,K v:=λv hv=>by
 refine e12 (List.mem_map.mp hv) λx hx z1z=>?_;obtain rfl:=z1z
 exact h x hx
section
variable{cx:Cx}(T:Prog cx){n:Nat}{σ:H}{Q:QV}{X:XH}
include T
omit T in
theorem vV{b:Nat}(hb:b=32∨b=64){low w:Int}(hl:low= -2^(b-1))(hw:InS w b){P:Int->Prop}(h:∀v,InS v b->P v):∀x∈ [0,1,-1,2,low,w,33],P x:=
 have s:=λ{x:Int} (z: -5<=x/\x<=50)=>h x (yT hb z)
 bC.mpr ⟨s (by decide),bC.mpr ⟨s (by decide),bC.mpr ⟨s (by decide),bC.mpr ⟨s (by decide),bC.mpr ⟨h _ (hl▸Vj hb),bC.mpr ⟨h _ hw,bC.mpr ⟨s (by decide),by intros;contradiction⟩⟩⟩⟩⟩⟩⟩
theorem Qp(hn:4<=n){k d:Int}(hk:K3 k)(hQ:∀op,Eff op [] [k]->Q (tupO op) σ):CTK cx n 562 [.int k,.int d] σ Q X:=by
 refine ctl T (He T) hn rfl rfl rfl ?_;walk_at "D";have m9:0<=d % 9:=bF _ (by decide)
 have m9':d % 9<9:=bA _ (by decide)
 rw[kL d (by decide:(0:Int)<=9)]
 have m3:0<=(d.fdiv 9).fmod 3/\(d.fdiv 9).fmod 3<3:=by
  rw[qS _ (by decide),kL _ (by decide)]
  exact⟨bF _ (by decide),bA _ (by decide)⟩
 have put:∀op:Op,code op∈ [32,35,63,208,210,64528]->op≠ []->op.length<=2->Q (tupO op) σ:=λop h1 h2 h3=>hQ op (.put h1 h2 h3)
 have l2:2<=lim:=ll rfl;refine⟨by decide,?_⟩
 rcases hk with rfl|rfl|rfl
 ·walk_at "D"
  refine⟨l2,rfl,?_⟩;walk_at "D";walk_at "D";refine br (λJ=>?_) λh0=>?_
  ·walk_at "D"
   exact⟨l2,put [32,0] (by decide) (λh=>by injection h) (nB rfl)⟩
  walk_at "D";refine br (λJ=>?_) λh1=>?_
  ·walk_at "D"
   refine⟨l2,ll rfl,l2,ll rfl,by decide,⟨by decide,by decide⟩,by decide,ll rfl,qA m3.1 m3.2 (ll rfl) ?_⟩
   exact bC.mpr ⟨put [35,0] (by decide) (λh=>by injection h) (nB rfl),bC.mpr ⟨put [63] (by decide) (λh=>by injection h) (nB rfl),bC.mpr ⟨put [64528,0] (by decide) (λh=>by injection h) (nB rfl),by intros;contradiction⟩⟩⟩
  walk_at "D";refine⟨rfl,by decide,by decide,by decide,⟨by decide,by decide⟩,rF T (b:=32) (fu hn rfl) rfl (by decide) (by decide) ⟨ll rfl,ll rfl,?_⟩⟩
  exact qA (l:=([0,1,-1,2,_,_,33]:List Int).map V.int) (by lia) (show d % 9-2<7 by exact Int.sub_lt_iff.mpr m9') (ll rfl) (qH (vV (b:=32) (.inl rfl) (by decide) (sW (by decide) _) λv hv=>⟨l2,hQ [65,v] (.c32 hv)⟩))
 ·walk_at "D"
  refine⟨l2,rfl,?_⟩;walk_at "D";walk_at "D";refine br (λJ=>?_) λh0=>?_
  ·walk_at "D"
   exact⟨l2,put [32,1] (by decide) (λh=>by injection h) (nB rfl)⟩
  walk_at "D";refine br (λJ=>?_) λh1=>?_
  ·walk_at "D"
   exact⟨l2,put [35,1] (by decide) (λh=>by injection h) (nB rfl)⟩
  walk_at "D";refine⟨rfl,by decide,by decide,by decide,⟨by decide,by decide⟩,rF T (b:=64) (fu hn rfl) rfl (by decide) (by decide) ⟨ll rfl,ll rfl,?_⟩⟩
  exact qA (l:=([0,1,-1,2,_,_,33]:List Int).map V.int) (by lia) (show d % 9-2<7 by exact Int.sub_lt_iff.mpr m9') (ll rfl) (qH (vV (b:=64) (.inr rfl) (by decide) (sW (by decide) _) λv hv=>⟨l2,hQ [66,v] (.c64 hv)⟩))
 ·walk_at "D"
  refine⟨l2,rfl,?_⟩;walk_at "D";walk_at "D";refine⟨by decide,br (λJ=>?_) λJ=>?_⟩
  ·exact⟨l2,put [208,-16] (by decide) (λh=>by injection h) (nB rfl)⟩
  ·exact⟨l2,put [210,1] (by decide) (λh=>by injection h) (nB rfl)⟩
theorem Bu(hn:2<=n){p:Int}(h0:0<=p)(h1:p<66)(hQ:∀c nm t q,opOf c=some (nm,t,q)->Q (.int c) σ):CTK cx n 499 [.int p] σ Q X:=by
 refine ctl T (Je T) hn rfl rfl rfl ?_
 have ex:∀c:Int,(opOf c).isSome=true->Q (.int c) σ:=λc h=>by
  refine e11 (dO.mp h) λz2z e=>?_;obtain⟨nm,t,q⟩:=z2z
  exact hQ c nm t q e
 have codes:∀k:Fin 58,(opOf (if(k.val:Int)<22 then 69+(k.val:Int) else 81+(k.val:Int))).isSome=true:=by decide+kernel
 walk_at "D";refine br (λh=>?_) λh=>?_
 ·have hc:=codes ⟨p.toNat,by exact(Int.toNat_lt h0).mpr h⟩
  rw[show(((⟨p.toNat,by exact(Int.toNat_lt h0).mpr h⟩:Fin 58).val:Nat):Int)=p from Int.toNat_of_nonneg h0] at hc
  walk_at "D";refine br (λh2=>?_) λh2=>?_
  ·rw[if_pos h2] at hc;exact ex _ hc
  ·rw[if_neg h2] at hc;exact ex _ hc
 ·walk_at "D"
  walk_at "D";exact⟨ll rfl,ll rfl,qA (l:=([167,172,173,192,193,194,195,196]:List Int).map V.int) (by lia) (show p-58<8 by exact Int.sub_lt_iff.mpr h1) (ll rfl) (qH λc hc=>ex c (of_decide_eq_true (p:=(opOf c).isSome=true) (by revert c;decide)))⟩
end
structure Dfr where
 a:Addr
 g:Addr
 v:Addr
 c:Int
 gs:List Int
 vs:List Int
inductive CxI:List Dfr->List Op->List Int->Prop
 |base {r:Dfr} {ts S}:r.c=2->Tys ts [] S->deps ts<=4->CxI [r] (fls ts) S
 |thn {r:Dfr} {fs k out S0 ts S}:CxI fs out S0->r.c=2∨r.c=3∨r.c=4->(r.c=4->kP [-1] S0)->r.vs.reverse=S0.drop (if r.c=4 then 1 else 0)->Tys ts [] S->deps ts+fs.length<=4->CxI (r::fs) (out++ [r.c,k]::fls ts) S
 |els {r:Dfr} {fs k out S0 f Z ts S}:CxI fs out S0->r.c=5->kP [-1] S0->r.vs.reverse=S0.drop 1->Tys f [] Z->Tys ts [] S->deps f+fs.length<=4->deps ts+fs.length<=4->CxI (r::fs) (out++ [4,k]::(fls f++ [5]::fls ts)) S
theorem CxI.ne{fs out S}(h:CxI fs out S):fs≠ []:=by cases h<;>exact λh=>by injection h
theorem CxI.many{fs out S}(h:CxI fs out S):fs.length<=5:=by
 cases h with
 |base=>simp |thn _ _ _ _ _ d=>simp;exact Nat.le_of_add_left_le d
 |els _ _ _ _ _ _ d=>simp;exact Nat.le_of_add_left_le J_6
theorem Tys.one{t:T}{S S':List Int}(h:Ty t S S'):Tys [t] S S':=.cons h .nil
theorem CxI.tree{fs out S}(h:CxI fs out S){t:T}{S':List Int}(ht:Ty t S S')(hd:t.dep+fs.length<=5):CxI fs (out++t.fl) S':=by
 have e:∀ts:List T,fls ts++t.fl=fls (ts++ [t]):=λts=>by simp[qE,fls]
 have d:∀ts:List T,deps (ts++ [t])=max (deps ts) t.dep:=λts=>by simp[pF,deps]
 cases h with
 |base h1 h2 h3=>rw[e];exact .base h1 (h2.append (.one ht)) (by rw[d];simp at hd;exact Nat.max_le_of_le_of_le h3 hd)
 |thn h1 h2 h3 h4 h5 h6=>
  rw[aS,List.cons_append,e];exact .thn h1 h2 h3 h4 (h5.append (.one ht)) (by rw[d];simp at hd;lia)
 |els h1 h2 h3 h4 h5 h6 h7 h8=>
  rw[aS,List.cons_append,aS,List.cons_append,e];exact .els h1 h2 h3 h4 h5 (h6.append (.one ht)) h7 (by rw[d];simp at hd;lia)
theorem CxI.op{fs out S}(h:CxI fs out S){op:Op}{S':List Int}(ht:St1 op S S'):CxI fs (out++ [op]) S':=h.tree (.leaf ht) (by have:=h.many;simp[T.dep];exact this)
theorem CxI.open_{fs out S}(h:CxI fs out S){r:Dfr}{k:Int}(hc:r.c=2∨r.c=3∨r.c=4)(ha:r.c=4->kP [-1] S)(hv:r.vs.reverse=S.drop (if r.c=4 then 1 else 0))(hl:fs.length<=4):CxI (r::fs) (out++ [[r.c,k]]) []:=by
 have:=CxI.thn (k:=k) h hc ha hv (.nil:Tys [] [] []) (by simp[deps];exact hl)
 simpa [fls] using this
set_option tactic.hygienic true in
theorem CxI.else_{r:Dfr}{fs out S}(h:CxI (r::fs) out S)(hc:r.c=4):CxI ({r with c:=5}::fs) (out++ [[5]]) []:=by
 cases h with
 |base h1=>lia |els _ h1=>lia |thn h1 h2 h3 h4 h5 h6=>
  rename_i k out0 S0 ts
  have:=CxI.els (r:={r with c:=5}) (k:=k) h1 rfl (h3 hc) (by rw[h4,if_pos hc]) h5 (.nil:Tys [] [] []) h6 (by simp[deps];exact Nat.le_of_add_left_le h6)
  rw[hc]
  simpa [fls] using this
set_option tactic.hygienic true in
theorem CxI.shut{r:Dfr}{fs out S}(h:CxI (r::fs) out S)(hn:fs≠ [])(g:List Int):CxI fs (out++ [[11]]) (g++r.vs.reverse):=by
 cases h with
 |base h1=>exact absurd rfl hn |thn h1 h2 h3 h4 h5 h6=>
  rename_i k out0 S0 ts
  have e:out0++ [r.c,k]::fls ts++ [[11]]=out0++(T.blk [r.c,k] ts).fl:=by simp[T.fl]
  rw[e,h4];by_cases hc:r.c=4
  ·rw[if_pos hc,hc]
   exact h1.tree (.if1 (h3 hc) h5) (by simp[T.dep];lia)
  ·rw[if_neg hc]
   exact h1.tree (.blk (by lia) h5) (by simp[T.dep];lia)
 |els h1 h2 h3 h4 h5 h6 h7 h8=>
  rename_i k out0 S0 f Z ts
  have e:out0++ [4,k]::(fls f++ [5]::fls ts)++ [[11]]=out0++(T.ife [4,k] f ts).fl:=by simp[T.fl]
  rw[e,h4];exact h1.tree (.ife h3 h5 h6) (by simp[T.dep];lia)
theorem CxI.last{r:Dfr}{out S}(h:CxI [r] out S):∃ts Z,out=fls ts/\Tys ts [] Z/\deps ts<=4:=by
 cases h with
 |base h1 h2 h3=>exact⟨_,_,rfl,h2,h3⟩ |thn h1=>exact absurd rfl h1.ne |els h1=>exact absurd rfl h1.ne
theorem CxI.drops{fs}:∀{S out},CxI fs out S->CxI fs (out++rept S.length [[26]]) []
 | [],out,h=>by simpa [rept] using h
 |k::S,out,h=>by
  have:=(h.op (.eff (.drop (k:=k)) (by simp[kP]))).drops
  simpa [rept,dY] using this
inductive Lvs:List Op->List Int->Prop
 |nil:Lvs [] []
 |cons {op k lv ks}:Eff op [] [k]->Lvs lv ks->Lvs (op::lv) (k::ks)
set_option tactic.hygienic true in
theorem CxI.leaves{fs}:∀{lv:List Op} {ks S out},CxI fs out S->Lvs lv ks->CxI fs (out++lv) (ks.reverse++S)
 |_,_,S,out,h,.nil=>by simpa using h
 |_,_,S,out,h,.cons e z=>by
  rename_i op k lv ks
  have:=(h.op (S':=k::S) (.eff e (by simp[kP]))).leaves z
  simpa using this
noncomputable def pot(out:List Op)(stk:List Int)(fs:List Dfr):Nat:=out.length+2*stk.length+(fs.map λr=>2*r.vs.length+6).sum
structure WD(σ0 σ:H)(w o s f:Addr)(fs:List Dfr)(out:List Op)(stk:List Int):Prop where
 hw:σ w=some (.sd [(ofString "out",.obj o),(ofString "stack",.obj s),(ofString "frames",.obj f)])
 ho:σ o=some (.list (out.map tupO))
 hs:σ s=some (.list (stk.map .int))
 hf:σ f=some (.list ((fs.map λr=>V.obj r.a).reverse))
 hr:∀r∈fs,σ r.a=some (.list [.int r.c,.obj r.g,.obj r.v])/\σ r.g=some (.list (r.gs.map .int))/\σ r.v=some (.list (r.vs.map .int))
 tg:∃τ:Addr->Nat,τ w=0/\τ o=1/\τ s=2/\τ f=3/\∀r∈fs,τ r.a=4/\τ r.g=5/\τ r.v=5
 nd:(fs.map (·.a)).Nodup
 ke:∀b,σ0 b≠none->σ b=σ0 b
 fw:σ0 w=none/\σ0 o=none/\σ0 s=none/\σ0 f=none
 fr:∀r∈fs,σ0 r.a=none/\σ0 r.g=none/\σ0 r.v=none
section
variable{σ0 σ σ':H}{w o s f:Addr}{fs:List Dfr}{out:List Op}{stk:List Int}
theorem WD.ext(h:WD σ0 σ w o s f fs out stk)(x:∀b,σ b≠none->σ' b=σ b):WD σ0 σ' w o s f fs out stk:=by
 have y:∀{b v},σ b=some v->σ' b=some v:=λ{b v} e=>by rw[x b (by rw[e];exact λh=>by injection h)];exact e
 exact⟨y h.hw,y h.ho,y h.hs,y h.hf,λr m=>⟨y (h.hr r m).1,y (h.hr r m).2.1,y (h.hr r m).2.2⟩,h.tg,h.nd,λb hb=>by rw[x b (by rw[h.ke b hb];exact hb)];exact h.ke b hb,h.fw,h.fr⟩
noncomputable def Out(σ0:H)(w o s f:Addr)(fs:List Dfr)(n:Addr):Prop:=σ0 n=none/\n≠w/\n≠o/\n≠s/\n≠f/\∀r∈fs,n≠r.a/\n≠r.g/\n≠r.v
theorem WD.fresh(h:WD σ0 σ w o s f fs out stk){n:Addr}(hn:σ n=none):Out σ0 w o s f fs n:=by
 have y:∀{b v},σ b=some v->n≠b:=λ{b v} e q=>by rw[q,e] at hn;injection hn
 refine⟨?_,y h.hw,y h.ho,y h.hs,y h.hf,λr m=>⟨y (h.hr r m).1,y (h.hr r m).2.1,y (h.hr r m).2.2⟩⟩
 induction e:σ0 n with
 |none=>rfl |some v=>have:=h.ke n (by rw[e];exact λh=>by injection h);rw[hn,e] at this;injection this
theorem WD.app(h:WD σ0 σ w o s f fs out stk){out':List Op}:WD σ0 (upd σ o (.list (out'.map tupO))) w o s f fs out' stk:=by
 refine e15 h.tg λτ t1 t2 t3 t4 t5=>?_
 have ne:∀{b},τ b≠1->b≠o:=λq e=>q (e▸t2)
 refine⟨?_,jP _ _ _,?_,?_,λr m=>?_,h.tg,h.nd,λb hb=>?_,h.fw,h.fr⟩
 ·rw[jQ _ _ (ne (by lia))];exact h.hw
 ·rw[jQ _ _ (ne (by lia))];exact h.hs
 ·rw[jQ _ _ (ne (by lia))];exact h.hf
 ·refine e03 (t5 r m) λa b c=>?_
  rw[jQ _ _ (ne (by lia)),jQ _ _ (ne (by lia)),jQ _ _ (ne (by lia))];exact h.hr r m
 ·rw[jQ _ _ (λe=>hb (by rw[e];exact h.fw.2.1))];exact h.ke b hb
theorem WD.put(h:WD σ0 σ w o s f fs out stk){stk':List Int}:WD σ0 (upd σ s (.list (stk'.map .int))) w o s f fs out stk':=by
 refine e15 h.tg λτ t1 t2 t3 t4 t5=>?_
 have ne:∀{b},τ b≠2->b≠s:=λq e=>q (e▸t3)
 refine⟨?_,?_,jP _ _ _,?_,λr m=>?_,h.tg,h.nd,λb hb=>?_,h.fw,h.fr⟩
 ·rw[jQ _ _ (ne (by lia))];exact h.hw
 ·rw[jQ _ _ (ne (by lia))];exact h.ho
 ·rw[jQ _ _ (ne (by lia))];exact h.hf
 ·refine e03 (t5 r m) λa b c=>?_
  rw[jQ _ _ (ne (by lia)),jQ _ _ (ne (by lia)),jQ _ _ (ne (by lia))];exact h.hr r m
 ·rw[jQ _ _ (λe=>hb (by rw[e];exact h.fw.2.2.1))];exact h.ke b hb
theorem WD.new(h:WD σ0 σ w o s f fs out stk){n:Addr}{stk':List Int}(hn:Out σ0 w o s f fs n)(hv:σ n=some (.list (stk'.map .int))):WD σ0 (upd σ w (.sd [(ofString "out",.obj o),(ofString "stack",.obj n),(ofString "frames",.obj f)])) w o n f fs out stk':=by
 refine e15 h.tg λτ t1 t2 t3 t4 t5=>?_
 refine e06 hn λn0 n1 n2 n3 n4 n5=>?_
 have ne:∀{b},τ b≠0->b≠w:=λq e=>q (e▸t1)
 refine⟨jP _ _ _,?_,?_,?_,λr m=>?_,⟨λb=>if b=n then 2 else τ b,?_,?_,?_,?_,λr m=>?_⟩,h.nd,λb hb=>?_,⟨h.fw.1,h.fw.2.1,n0,h.fw.2.2.2⟩,h.fr⟩
 ·rw[jQ _ _ (ne (by lia))];exact h.ho
 ·rw[jQ _ _ n1];exact hv
 ·rw[jQ _ _ (ne (by lia))];exact h.hf
 ·refine e03 (t5 r m) λa b c=>?_
  rw[jQ _ _ (ne (by lia)),jQ _ _ (ne (by lia)),jQ _ _ (ne (by lia))];exact h.hr r m
 ·show(if w=n then 2 else τ w)=0;rw[if_neg n1.symm];exact t1
 ·show(if o=n then 2 else τ o)=1;rw[if_neg n2.symm];exact t2
 ·exact if_pos rfl
 ·show(if f=n then 2 else τ f)=3;rw[if_neg n4.symm];exact t4
 ·refine e03 (n5 r m) λa b c=>?_
  show(if _=n then 2 else τ _)=4/\(if _=n then 2 else τ _)=5/\(if _=n then 2 else τ _)=5
  rw[if_neg a.symm,if_neg b.symm,if_neg c.symm];exact t5 r m
 ·rw[jQ _ _ (λe=>hb (by rw[e];exact h.fw.1))];exact h.ke b hb
theorem WD.push(h:WD σ0 σ w o s f fs out stk){n:Addr}{r:Dfr}(hn:Out σ0 w o s f fs n)(ha:Out σ0 w o s f fs r.a)(hg:Out σ0 w o s f fs r.g)(hv:r.v=s)(hvs:r.vs=stk)
 (hna:n≠r.a)(hng:n≠r.g)(hag:r.a≠r.g)(hgv:σ r.g=some (.list (r.gs.map .int)))
 (hw':σ' w=some (.sd [(ofString "out",.obj o),(ofString "stack",.obj n),(ofString "frames",.obj f)]))(hf':σ' f=some (.list (((r::fs).map λr=>V.obj r.a).reverse)))
 (hn':σ' n=some (.list []))(ha':σ' r.a=some (.list [.int r.c,.obj r.g,.obj r.v]))(x:∀b,b≠w->b≠f->b≠n->b≠r.a->σ' b=σ b):WD σ0 σ' w o n f (r::fs) out []:=by
 refine e15 h.tg λτ t1 t2 t3 t4 t5=>?_
 refine e06 hn λn0 n1 n2 n3 n4 n5=>?_
 refine e06 ha λa0 a1 a2 a3 a4 a5=>?_
 refine e06 hg λg0 g1 g2 g3 g4 g5=>?_
 have ne:∀{b c},τ b≠τ c->b≠c:=λq e=>q (by rw[e])
 have keep:∀{b v},σ b=some v->τ b≠0->τ b≠3->b≠n->b≠r.a->σ' b=some v:=λ{b v} e h1 h2 h3 h4=>by rw[x b (ne (by lia)) (ne (by lia)) h3 h4];exact e
 refine⟨hw',keep h.ho (by lia) (by lia) n2.symm a2.symm,hn',hf',λq m=>?_,⟨λb=>if b=n then 2 else if b=r.a then 4 else if b=r.g then 5 else if b=s then 5 else τ b,?_,?_,?_,?_,λq m=>?_⟩,?_,λb hb=>?_,⟨h.fw.1,h.fw.2.1,n0,h.fw.2.2.2⟩,λq m=>?_⟩
 ·rcases aJ.mp m with rfl|m
  ·refine⟨ha',?_,?_⟩
   ·rw[x _ g1 g4 hng.symm hag.symm];exact hgv
   ·rw[hv,hvs];exact keep h.hs (by lia) (by lia) n3.symm a3.symm
  ·refine e03 (n5 q m) λx1 x2 x3=>?_
   refine e03 (a5 q m) λy1 y2 y3=>?_
   refine e03 (t5 q m) λz1 z2 z3=>?_
   refine e03 (h.hr q m) λe1 e2 e3=>?_
   exact⟨keep e1 (by lia) (by lia) x1.symm y1.symm,keep e2 (by lia) (by lia) x2.symm y2.symm,keep e3 (by lia) (by lia) x3.symm y3.symm⟩
 ·dsimp only;rw[if_neg n1.symm,if_neg a1.symm,if_neg g1.symm,if_neg (ne (by lia))];exact t1
 ·dsimp only;rw[if_neg n2.symm,if_neg a2.symm,if_neg g2.symm,if_neg (ne (by lia))];exact t2
 ·exact if_pos rfl
 ·dsimp only;rw[if_neg n4.symm,if_neg a4.symm,if_neg g4.symm,if_neg (ne (by lia))];exact t4
 ·dsimp only
  rcases aJ.mp m with rfl|m
  ·rw[if_neg hna.symm,if_pos rfl,if_neg hng.symm,if_neg hag.symm,if_pos rfl,hv,if_neg n3.symm,if_neg a3.symm,if_neg g3.symm,if_pos rfl]
   exact⟨rfl,rfl,rfl⟩
  ·refine e03 (n5 q m) λx1 x2 x3=>?_
   refine e03 (a5 q m) λy1 y2 y3=>?_
   refine e03 (g5 q m) λw1 w2 w3=>?_
   refine e03 (t5 q m) λz1 z2 z3=>?_
   rw[if_neg x1.symm,if_neg y1.symm,if_neg w1.symm,if_neg (ne (by lia)),if_neg x2.symm,if_neg y2.symm,if_neg w2.symm,if_neg (ne (by lia)),if_neg x3.symm,if_neg y3.symm,if_neg w3.symm,if_neg (ne (by lia))]
   exact⟨z1,z2,z3⟩
 ·rw[aZ,aL]
  refine⟨λhm=>?_,h.nd⟩
  refine e12 (List.mem_map.mp hm) λq hq e=>?_
  exact(a5 q hq).1 e.symm
 ·rw[x b (λe=>hb (by rw[e];exact h.fw.1)) (λe=>hb (by rw[e];exact h.fw.2.2.2)) (λe=>hb (by rw[e];exact n0)) (λe=>hb (by rw[e];exact a0))]
  exact h.ke b hb
 ·rcases aJ.mp m with rfl|m
  ·exact⟨a0,g0,by rw[hv];exact h.fw.2.2.1⟩
  ·exact h.fr q m
theorem WD.els{r:Dfr}(h:WD σ0 σ w o s f (r::fs) out stk){n:Addr}(hn:Out σ0 w o s f (r::fs) n)(hv:σ n=some (.list [])):WD σ0 (upd (upd σ r.a (.list [.int 5,.obj r.g,.obj r.v])) w (.sd [(ofString "out",.obj o),(ofString "stack",.obj n),(ofString "frames",.obj f)])) w o n f ({r with c:=5}::fs) out []:=by
 refine e15 h.tg λτ t1 t2 t3 t4 t5=>?_
 have ne:∀{b c},τ b≠τ c->b≠c:=λq e=>q (by rw[e])
 have nd:=h.nd;rw[aZ,aL] at nd;refine e03 (t5 r aE) λm1 m2 m3=>?_
 refine e03 (h.hr r aE) λe1 e2 e3=>?_
 have h1:WD σ0 (upd σ r.a (.list [.int 5,.obj r.g,.obj r.v])) w o s f ({r with c:=5}::fs) out stk:=by
  refine⟨?_,?_,?_,?_,λq m=>?_,⟨τ,t1,t2,t3,t4,λq m=>?_⟩,?_,λb hb=>?_,h.fw,λq m=>?_⟩
  ·rw[jQ _ _ (ne (by lia))];exact h.hw
  ·rw[jQ _ _ (ne (by lia))];exact h.ho
  ·rw[jQ _ _ (ne (by lia))];exact h.hs
  ·rw[jQ _ _ (ne (by lia))];exact h.hf
  ·rcases aJ.mp m with rfl|m
   ·refine⟨jP _ _ _,?_,?_⟩
    ·dsimp only;rw[jQ _ _ (ne (by lia))];exact e2
    ·dsimp only;rw[jQ _ _ (ne (by lia))];exact e3
   ·refine e03 (t5 q (aH _ m)) λz1 z2 z3=>?_
    have:q.a≠r.a:=λe=>nd.1 (e▸eZ m)
    rw[jQ _ _ this,jQ _ _ (ne (by lia)),jQ _ _ (ne (by lia))]
    exact h.hr q (aH _ m)
  ·rcases aJ.mp m with rfl|m
   ·exact⟨m1,m2,m3⟩
   ·exact t5 q (aH _ m)
  ·exact h.nd
  ·rw[jQ _ _ (λe=>hb (by rw[e];exact(h.fr r aE).1))];exact h.ke b hb
  ·rcases aJ.mp m with rfl|m
   ·exact h.fr r aE
   ·exact h.fr q (aH _ m)
 refine e06 hn λn0 n1 n2 n3 n4 n5=>?_
 refine h1.new (stk':= []) ⟨n0,n1,n2,n3,n4,λq m=>?_⟩ ?_
 ·rcases aJ.mp m with rfl|m
  ·exact n5 r aE
  ·exact n5 q (aH _ m)
 ·rw[jQ _ _ (n5 r aE).1];exact hv
theorem WD.pop{r:Dfr}(h:WD σ0 σ w o s f (r::fs) out stk):WD σ0 (upd σ f (.list ((fs.map λr=>V.obj r.a).reverse))) w o s f fs out stk:=by
 refine e15 h.tg λτ t1 t2 t3 t4 t5=>?_
 have ne:∀{b},τ b≠3->b≠f:=λq e=>q (e▸t4)
 have nd:=h.nd;rw[aZ,aL] at nd;refine⟨?_,?_,?_,jP _ _ _,λq m=>?_,⟨τ,t1,t2,t3,t4,λq m=>t5 q (aH _ m)⟩,nd.2,λb hb=>?_,h.fw,λq m=>h.fr q (aH _ m)⟩
 ·rw[jQ _ _ (ne (by lia))];exact h.hw
 ·rw[jQ _ _ (ne (by lia))];exact h.ho
 ·rw[jQ _ _ (ne (by lia))];exact h.hs
 ·refine e03 (t5 q (aH _ m)) λz1 z2 z3=>?_
  rw[jQ _ _ (ne (by lia)),jQ _ _ (ne (by lia)),jQ _ _ (ne (by lia))]
  exact h.hr q (aH _ m)
 ·rw[jQ _ _ (λe=>hb (by rw[e];exact h.fw.2.2.2))];exact h.ke b hb
end
theorem lkO(a b c:V):List.lookup (ofString "out") [(ofString "out",a),(ofString "stack",b),(ofString "frames",c)]=some a:=rfl
theorem lkS(a b c:V):List.lookup (ofString "stack") [(ofString "out",a),(ofString "stack",b),(ofString "frames",c)]=some b:=rfl
theorem lkF(a b c:V):List.lookup (ofString "frames") [(ofString "out",a),(ofString "stack",b),(ofString "frames",c)]=some c:=rfl
theorem stS(a b c v:V):List.map (λe:Str×V=>if e.1=ofString "stack" then(e.1,v) else e) [(ofString "out",a),(ofString "stack",b),(ofString "frames",c)]= [(ofString "out",a),(ofString "stack",v),(ofString "frames",c)]:=rfl
section
variable{σ0 σ σ':H}{w o s f:Addr}{fs:List Dfr}{out:List Op}{stk:List Int}
theorem WD.omO(h:WD σ0 σ w o s f fs out stk)(K:V->Prop):(om (asSd (σ w)) λes=>om (es.lookup (ofString "out")) λv=>K v)=K (.obj o):=by rw[h.hw,qG,jR,lkO,jR]
theorem WD.omS(h:WD σ0 σ w o s f fs out stk)(K:V->Prop):(om (asSd (σ w)) λes=>om (es.lookup (ofString "stack")) λv=>K v)=K (.obj s):=by rw[h.hw,qG,jR,lkS,jR]
theorem WD.omF(h:WD σ0 σ w o s f fs out stk)(K:V->Prop):(om (asSd (σ w)) λes=>om (es.lookup (ofString "frames")) λv=>K v)=K (.obj f):=by rw[h.hw,qG,jR,lkF,jR]
theorem pO{a b c v:V}{K:H->Prop}(h:σ w=some (.sd [(ofString "out",a),(ofString "stack",b),(ofString "frames",c)]))(hK:K (upd σ w (.sd [(ofString "out",a),(ofString "stack",v),(ofString "frames",c)]))):
 om (asSd (σ w)) λes=>(es.length<=1000/\(es.lookup (ofString "stack")).isSome=true)/\K (upd σ w (.sd (es.map λe=>if e.1=ofString "stack" then(e.1,v) else e))):=by
 refine yJ h ?_;rw[lkS,stS];exact⟨⟨by simp,rfl⟩,hK⟩
theorem tups(out:List Op)(op:Op):out.map tupO++ [tupO op]=(out++ [op]).map tupO:=by simp
theorem Zh(l r:List Int):l.map V.int++r.map V.int=(l++r).map V.int:=by simp
theorem mH(x y:List Int):pL (x.map .int) (y.map .int)=some (decide (x=y)):=by unfold pL;rw[qP,qP]
theorem Lvs.app:∀{lv:List Op} {ks:List Int} {op k},Lvs lv ks->Eff op [] [k]->Lvs (lv++ [op]) (ks++ [k])
 |_,_,_,_,.nil,e=>.cons e .nil |_,_,_,_,.cons a z,e=>.cons a (z.app e)
theorem Lvs.len:∀{lv:List Op} {ks:List Int},Lvs lv ks->lv.length=ks.length
 |_,_,.nil=>rfl |_,_,.cons _ z=>by simp[z.len]
end
noncomputable def doL:ISs:=(iss [(.expr (.meth (.sub (.loc 0) (.val (.str (ofString "out")))) .append (ies [(.call (.val (.raw (.ref 562))) (ies [(.loc 6),(.loc 4)]))]))),
 (.expr (.meth (.loc 5) .append (ies [(.loc 6)]))),
 (.assign 4 (.bin .FloorDiv (.loc 4) (.val (.int 9))))])
noncomputable def doT:ISs:=(iss [(.expr (.meth (.sub (.loc 0) (.val (.str (ofString "out")))) .append (ies [(.loc 1)]))),
 (.setSub (.loc 0) (.val (.str (ofString "stack"))) (.bin .Add (.sli (.loc 5) (.val .none) (.bin .Sub (.bi .len (ies [(.loc 5)])) (.bi .len (ies [(.loc 2)])))) (.loc 3)))])
section
variable{cx:Cx}(T:Prog cx){n:Nat}{σ0 σ:H}{Q:QV}{X:XH}{w o s f:Addr}{fs:List Dfr}{out:List Op}{stk:List Int}
include T
omit T in
theorem Fi{m:Nat}{σ1:H}{op:Op}{t g:Addr}{tk gv R:List Int}{lv:List Op}{x4 x6:Option V}(h:WD σ0 σ1 w o s f fs (out++lv) (R++tk))(ht:σ1 t=some (.list (tk.map .int)))(hg:σ1 g=some (.list (gv.map .int)))
 (tn:t≠w/\t≠o/\t≠s)(gn:g≠w/\g≠o/\g≠s)(zo:(out++lv).length<=600)(zs:R.length<=600)(zt:tk.length<=10)(zg:gv.length<=10)(fr:∀b,b≠w->b≠o->b≠s->σ b≠none->σ1 b=σ b)(nn:∀b,σ1 b=none->σ b=none)
 (hQ:∀σ' s',WD σ0 σ' w o s' f fs (out++lv++ [op]) (R++gv)->(∀b,b≠w->b≠o->b≠s->σ b≠none->σ' b=σ b)->σ s'=none->Q .none σ'):
 blk (CTK cx m) doT [some (.obj w),some (tupO op),some (.obj t),some (.obj g),x4,some (.obj s),x6] σ1 (rq Q) (λJ σ=>X σ):=by
 have lmt:∀{k:Nat},k<=2000->k<=lim:=λhk=>aC hk (by decide)
 unfold doT;walk_at "D";rw[h.omO];walk_at "D";rw[h.ho,jW,jR,jR,tups];have h2:=h.app (out':=out++lv++ [op]);have hs2:=h2.hs;rw[aD] at zo;refine⟨trivial,lmt (by simp;exact nT zo rfl),?_⟩
 walk_at "D";rw[hs2,kA,jR,jQ _ _ tn.2.1,ht,kA,jR,jW,jR];refine⟨lmt (by simp;exact n2 zs zt rfl),lmt (by simp;exact nT zt rfl),lmt (by simp;exact n2 zs zt rfl),?_⟩
 have c2:cut ((R++tk).map V.int) .none (.int (((R++tk).map V.int).length-(tk.map V.int).length:Int))=some (R.map V.int):=by
  unfold cut;rw[show(((R++tk).map V.int).length-(tk.map V.int).length:Int)=((R.length:Nat):Int) by simp,sN (by exact nT zs rfl)]
  show some _=_;simp only[aB,aD];rw[cL (by exact cN _ _),List.drop_zero,Nat.sub_zero,bJ,List.take_left' (by simp)]
 rw[c2,jR];refine jS (lmt (by simp;exact nT zs rfl)) λc hc=>?_
 refine om_l (jP ..) ?_;have gc:g≠c:=λe=>by rw[←e,jQ _ _ gn.2.1,hg] at hc;injection hc
 refine om_l ((jQ _ _ gc).trans ((jQ _ _ gn.2.1).trans hg)) ?_;rw[Zh];refine jS (lmt (by simp;exact n2 zs zg rfl)) λc' hc'=>?_
 have h3:=h2.ext (σ':=upd (upd σ1 o (.list ((out++lv++ [op]).map tupO))) c (.list (R.map V.int))) λb hb=>jQ _ _ λe=>hb (e▸hc)
 have h4:=h3.ext (σ':=upd (upd (upd σ1 o (.list ((out++lv++ [op]).map tupO))) c (.list (R.map V.int))) c' (.list ((R++gv).map V.int))) λb hb=>jQ _ _ λe=>hb (e▸hc')
 have h5:=h4.new (h3.fresh hc') (jP _ _ _);have c'o:c'≠o:=(h3.fresh hc').2.2.1;have co:c≠o:=(h2.fresh hc).2.2.1;have none1:∀{b},b≠o->(upd σ1 o (.list ((out++lv++ [op]).map tupO))) b=none->σ b=none:=λhb e=>nn _ (by rw[jQ _ _ hb] at e;exact e)
 have cc:c'≠c:=λe=>by rw[e,jP] at hc';injection hc'
 rw[jQ _ _ cc] at hc';refine pO h4.hw (hQ _ _ h5 (λb b1 b2 b3 hb=>?_) (none1 c'o hc'))
 rw[jQ _ _ b1,jQ _ _ λe=>hb (by rw[e];exact none1 c'o hc'),jQ _ _ λe=>hb (by rw[e];exact none1 co hc),jQ _ _ b2]
 exact fr b b1 b2 b3 hb
theorem c_do{op:Op}{t g:Addr}{tk gv:List Int}{d:Int}(hn:6<=n)(h:WD σ0 σ w o s f fs out stk)(ht:σ t=some (.list (tk.map .int)))(hg:σ g=some (.list (gv.map .int)))
 (tn:t≠w/\t≠o/\t≠s)(gn:g≠w/\g≠o/\g≠s)(hk:∀k∈tk,K3 k)(zo:out.length<=500)(zs:stk.length<=500)(zt:tk.length<=10)(zg:gv.length<=10)
 (hQ:∀σ' s' lv R,WD σ0 σ' w o s' f fs (out++lv++ [op]) (R++gv)->(Lvs lv tk/\R=stk∨lv= []/\stk=R++tk)->(∀b,b≠w->b≠o->b≠s->σ b≠none->σ' b=σ b)->σ s'=none->Q .none σ'):CTK cx n 569 [.obj w,tupO op,.obj t,.obj g,.int d] σ Q X:=by
 refine ctl T (Jl T) hn rfl rfl rfl ?_;have lmt:∀{k:Nat},k<=2000->k<=lim:=λhk=>aC hk (by decide)
 walk_at "D";rw[h.omS];walk_at "D";rw[h.hs,kA,jR,ht,kA,jR,jW,jR];simp only[aB];refine⟨lmt (by exact nT zs rfl),lmt (by exact nT zt rfl),lmt (by exact nT zs rfl),?_⟩
 have mx:max (0:Int) ((stk.length:Int)-(tk.length:Int))=((stk.length-tk.length:Nat):Int):=by lia
 have c1:cut (stk.map V.int) (.int (max 0 ((stk.length:Int)-(tk.length:Int)))) .none=some ((stk.drop (stk.length-tk.length)).map V.int):=by
  unfold cut;rw[mx,sN (by exact nS _ zs rfl)]
  show some _=_;simp only[aB];rw[cL (by exact Nat.sub_le _ _),←iR,←List.map_take,dH (by simp)]
 rw[c1,jR];refine jS (lmt (by simp;lia)) λc hc=>?_
 have h1:WD σ0 (upd σ c (.list ((stk.drop (stk.length-tk.length)).map V.int))) w o s f fs out stk:=h.ext λb hb=>jQ _ _ λe=>hb (e▸hc)
 have ct:t≠c:=λe=>by rw[e,hc] at ht;injection ht
 have cg:g≠c:=λe=>by rw[e,hc] at hg;injection hg
 have off1:∀b,b≠w->b≠o->b≠s->σ b≠none->(upd σ c (.list ((stk.drop (stk.length-tk.length)).map V.int))) b=σ b:=λb J J J hb=>jQ _ _ λe=>hb (e▸hc)
 have nn1:∀b,(upd σ c (.list ((stk.drop (stk.length-tk.length)).map V.int))) b=none->σ b=none:=λb hb=>by
  by_cases e:b=c
  ·rw[e];exact hc
  ·rw[jQ _ _ e] at hb;exact hb
 have ht1:(upd σ c (.list ((stk.drop (stk.length-tk.length)).map V.int))) t=some (.list (tk.map .int)):=by rw[jQ _ _ ct];exact ht
 have hg1:(upd σ c (.list ((stk.drop (stk.length-tk.length)).map V.int))) g=some (.list (gv.map .int)):=by rw[jQ _ _ cg];exact hg
 refine lU (jP ..) ?_;refine lU ht1 ?_;rw[mH,jR];have hsp:=cW (stk.length-tk.length) stk;refine brn (λhe=>?_) λhe=>?_
 ·rw[he] at hsp
  walk_at "N";refine Fi (cx:=cx) (m:=n-2) (out:=out) (X:=X) (σ0:=σ0) (fs:=fs) (op:=op) (Q:=Q) (f:=f) (w:=w) (o:=o) (s:=s) (R:=stk.take (stk.length-tk.length)) (lv:= []) (σ:=σ) (x4:=some (.int d)) (x6:=none) (gv:=gv) (g:=g) (t:=t) (tk:=tk) ?_ ht1 hg1 tn gn (by simp;exact nT zo rfl) (by simp;lia) zt zg off1 nn1 λσ' s' a b c=>?_
  ·rw[hsp,bY];exact h1
  ·exact hQ σ' s' [] _ (by simpa using a) (.inr ⟨rfl,hsp.symm⟩) b c
 ·walk_at "D"
  refine om_l ht1 ?_;rw[mK ht1];have zl:(tk.map V.int).length<=lim:=lmt (by simp;exact nT zt rfl)
  refine Ka (vs:=tk.map V.int) (λi ρ σ1=>∃lv dd x6,ρ= [some (.obj w),some (tupO op),some (.obj t),some (.obj g),some (.int dd),some (.obj s),x6]/\WD σ0 σ1 w o s f fs (out++lv) (stk++tk.take i)/\Lvs lv (tk.take i)/\
   σ1 t=some (.list (tk.map .int))/\σ1 g=some (.list (gv.map .int))/\(∀b,b≠w->b≠o->b≠s->σ b≠none->σ1 b=σ b)/\∀b,σ1 b=none->σ b=none)
   (λi ρ σ1 hI=>?_) (λρ σ1 hI=>?_) (λi ρ σ1 v hI hv=>?_) _ 0 _ _ ?_ (aP _) (by exact Nat.lt_add_one (List.map V.int tk).length)
  ·refine e31 hI λlv dd x6 q0z=>?_;refine e05 q0z λJ J J ht2 J=>?_
   exact mO ht2 zl i
  ·refine e31 hI λlv dd x6 q0z=>?_;refine e06 q0z λr3z hd hl ht2 hg2 q0z=>?_;refine e02 q0z λof2 nn2=>?_;subst r3z
   rw[aB,dH (aR _)] at hd hl;have:=hl.len;exact Fi (cx:=cx) (m:=n-2) (out:=out) (X:=X) (σ0:=σ0) (fs:=fs) (op:=op) (Q:=Q) (f:=f) (w:=w) (o:=o) (s:=s) (R:=stk) (lv:=lv) (σ:=σ) (x4:=some (.int dd)) (x6:=x6) (gv:=gv) (g:=g) (t:=t) (tk:=tk) hd ht2 hg2 tn gn (by simp;lia) (by exact nT zs rfl) zt zg of2 nn2 λσ' s' a b c=>hQ σ' s' lv _ a (.inl ⟨hl,rfl⟩) b c
  ·refine e31 hI λlv dd x6 q0z=>?_;refine e06 q0z λr3z hd hl ht2 hg2 q0z=>?_;refine e02 q0z λof2 nn2=>?_;subst r3z
   rw[bH] at hv;refine mapS hv λk hk2 z7z=>?_;obtain rfl:=z7z
   have hlt:=(aT.mp hk2).1;have htk:tk.take (i+1)=tk.take i++ [k]:=by rw[gY,hk2];rfl
   refine⟨_,rfl,λW hW=>?_⟩
   walk_at "D";rw[hd.omO];walk_at "D";have hlen:=hl.len;rw[hd.ho,jW,jR];refine⟨trivial,Qp T (fu hn rfl) (hk k (cJ hk2)) λlf hlf=>?_⟩
   have hd2:=hd.app (out':=out++lv++ [lf]);have h9:kR 9:=by unfold kR;decide
   rw[eF] at hlen;have hk1:(stk++tk.take i).map V.int++ [.int k]=(stk++tk.take (i+1)).map V.int:=by rw[htk];simp
   have hd3:=hd2.put (stk':=stk++tk.take (i+1));have t2:∀b,b≠o->b≠s->(upd (upd σ1 o (.list ((out++lv++ [lf]).map tupO))) s (.list ((stk++tk.take (i+1)).map .int))) b=σ1 b:=λb b1 b2=>by rw[jQ _ _ b2,jQ _ _ b1]
   refine om_l hd.ho ?_;rw[tups];refine⟨lmt (by rw[aB,aD];exact n3 zo (aC (cZ hlen) (aC (Nat.min_le_right _ _) zt)) (aR 1) rfl),?_⟩
   walk_at "D";rw[hd2.hs,jW,jR,jR,hk1];refine⟨trivial,lmt (by rw[aB,aD,eF];exact n3 zs (aC (Nat.min_le_right _ _) zt) (aR 1) rfl),?_⟩
   walk_at "D";refine⟨by decide,h9,nx1 (bk0 (lp1 (hW _ _ ⟨lv++ [lf],dd.fdiv 9,some (.int k),rfl,?_,?_,?_,?_,?_,?_⟩)))⟩
   ·rw[←aS];exact hd3
   ·rw[htk];exact hl.app hlf
   ·rw[t2 _ tn.2.1 tn.2.2];exact ht2
   ·rw[t2 _ gn.2.1 gn.2.2];exact hg2
   ·intro b b1 b2 b3 hb
    rw[t2 b b2 b3];exact of2 b b1 b2 b3 hb
   ·intro b hb
    by_cases e:b=s
    ·rw[e,jP] at hb;injection hb
    ·by_cases e2:b=o
     ·rw[jQ _ _ e,e2,jP] at hb;injection hb
     ·rw[t2 b e2 e] at hb;exact nn2 b hb
  ·exact⟨[],d,none,rfl,by simpa using h1,by simpa using Lvs.nil,ht1,hg1,off1,nn1⟩
end
theorem nq{α:Type}{τ:α->Nat}{b c:α}{m n:Nat}(e:τ b=m)(f:τ c=n)(h:decide (m=n)=false):b≠c:=λz=>of_decide_eq_false h (e.symm.trans ((congrArg τ z).trans f))
theorem CxI.did{fs:List Dfr}{out lv:List Op}{stk tk R:List Int}(h:CxI fs out stk.reverse)(hl:Lvs lv tk/\R=stk∨lv= []/\stk=R++tk):CxI fs (out++lv) (tk.reverse++R.reverse):=by
 rcases hl with⟨a,rfl⟩|⟨rfl,rfl⟩
 ·exact h.leaves a
 ·simpa using h
noncomputable def Drp(stk gs:List Int)(lv:List Op):Prop:=lv= []∨∃gl,lv=rept stk.length [[26]]++gl/\Lvs gl gs
theorem vM{α:Type}(n:Nat)(l:List α):(rept n l).length=n*l.length:=by
 unfold rept
 induction n with
 |zero=>simp |succ n ih=>rw[dY,fO,aD,ih,Nat.succ_mul,dP]
theorem Drp.len{stk gs:List Int}{lv:List Op}(h:Drp stk gs lv):lv.length<=stk.length+gs.length:=by
 rcases h with rfl|⟨gl,rfl,h⟩
 ·simp
 ·have:=h.len
  rw[aD,vM];simp;exact cZ this
theorem CxI.drp{fs:List Dfr}{out lv:List Op}{stk gs:List Int}(h:CxI fs out stk.reverse)(hd:Drp stk gs lv):∃S,CxI fs (out++lv) S:=by
 rcases hd with rfl|⟨gl,rfl,hl⟩
 ·exact⟨_,by simpa using h⟩
 ·have:=h.drops
  rw[aW] at this;exact⟨_,by simpa using this.leaves hl⟩
theorem Um(n:Nat)(op:Op):rept n [tupO op]=(rept n [op]).map tupO:=by
 unfold rept
 induction n with
 |zero=>rfl |succ n ih=>rw[dY,dY,fO,fO,bJ,ih];rfl
noncomputable def shT:ISs:=(iss [(.expr (.meth (.sub (.loc 0) (.val (.str (ofString "out")))) .append (ies [(.tup (ies [(.loc 1)]))]))),
 (.iff (.cmp (.loc 1) .Eq (.val (.int 5))) (iss [(.assignT [(.sub (.loc 3) (.val (.int 0))),(.sub (.loc 0) (.val (.str (ofString "stack"))))] (.tup (ies [(.val (.int 5)),(.lst (ies []))])))]) (iss [(.expr (.meth (.sub (.loc 0) (.val (.str (ofString "frames")))) .pop (ies []))),
 (.setSub (.loc 0) (.val (.str (ofString "stack"))) (.bin .Add (.sub (.loc 3) (.val (.int 2))) (.sub (.loc 3) (.val (.int 1)))))]))])
theorem sh_eq:ib__law_shut=.cons (.assignT [(.nm 3),(.nm 4)] (.tup (ies [(.sub (.sub (.loc 0) (.val (.str (ofString "frames")))) (.neg (.val (.int 1)))),(.sub (.loc 0) (.val (.str (ofString "stack"))))]))) (.cons (.iff (.cmp (.loc 4) .NotEq (.sub (.loc 3) (.val (.int 1)))) (iss [(.expr (.meth (.sub (.loc 0) (.val (.str (ofString "out")))) .extend (ies [(.bin .Add (.bin .Mult (.lst (ies [(.tup (ies [(.val (.int 26))]))])) (.bi .len (ies [(.loc 4)]))) (.comp (.call (.val (.raw (.ref 562))) (ies [(.loc 5),(.loc 2)])) 5 (.of (.sub (.loc 3) (.val (.int 1)))) (.val (.bool .true))))])))]) (iss [])) shT):=rfl
section
variable{cx:Cx}(T:Prog cx){n:Nat}{σ0 σ:H}{Q:QV}{X:XH}{w o s f:Addr}{fs:List Dfr}{out:List Op}{stk:List Int}
include T
theorem zB{r:Dfr}{l:Nat}(hn:2<=n)(h:WD σ0 σ w o s f fs out stk)(hr:fs[l]?=some r)(hz:fs.length<=100)
 (hQ:∀σ' c g,g=(if r.c=3 then [] else r.gs)->σ' c=some (.list (g.map .int))->Ext σ σ'->c≠w->c≠o->c≠s->c≠f->Q (.obj c) σ'):CTK cx n 576 [.obj w,.int l] σ Q X:=by
 refine ctl T (wV T) hn rfl rfl rfl ?_;have lmt:∀{k:Nat},k<=2000->k<=lim:=λhk=>aC hk (by decide)
 refine e11 (aT.mp hr) λhlt hre=>?_
 walk_at "D";rw[h.omF,h.omF];walk_at "D";refine lU h.hf ?_;simp only[aW,aB];refine⟨lmt (by exact nT hz rfl),?_⟩
 have hi:idx ((fs.map λr=>V.obj r.a).reverse) ((fs.length:Int)-1-l)=some (.obj r.a):=by
  refine e11 (Nat.exists_eq_add_of_lt hlt) λk hk=>?_
  have e:((fs.length:Int)-1-l)=(k:Int):=by rw[hk];exact(congrArg (· -(l:Int)) (Int.add_sub_cancel (l+k:Nat) 1)).trans ((congrArg (· -(l:Int)) (Int.add_comm (l:Int) k)).trans (Int.add_sub_cancel (k:Int) l))
  have z:((fs.map λr=>V.obj r.a).reverse).length=fs.length:=by rw[aW,aB]
  have kl:k<fs.length:=by rw[hk];exact Nat.lt_succ_of_le (Nat.le_add_left k l)
  rw[e,pD (bT k) (by rw[z];exact Int.ofNat_lt.mpr kl) (lmt (by rw[z];exact nT hz rfl)),cI,List.getElem?_reverse (by rw[aB];exact kl),aB,bH,hk,Nat.add_sub_cancel,Nat.add_sub_cancel,hr]
  rfl
 have hm:=cJ hr;refine e03 (h.hr r hm) λe1 e2 e3=>?_
 rw[kC h.hf (lmt (by rw[aW,aB];exact nT hz rfl)) hi]
 walk_at "D";rw[kC e1 (ll rfl) (ix0 _ _)];refine br (λh3=>?_) λh3=>?_
 ·refine jS (aP _) λc hc=>?_
  refine e06 (h.fresh hc) λn0 n1 n2 n3 n4 n5=>?_
  exact hQ _ c [] (by rw[if_pos h3]) (jP _ _ _) (.upd hc) n1 n2 n3 n4
 ·rw[kC e1 (ll rfl) (ix1 _ _ _)]
  refine e15 h.tg λτ t1 t2 t3 t4 t5=>?_
  refine e03 (t5 r hm) λm1 m2 m3=>?_
  exact hQ _ r.g r.gs (by rw[if_neg h3]) e2 (.refl _) (nq m2 t1 rfl) (nq m2 t2 rfl) (nq m2 t3 rfl) (nq m2 t4 rfl)
omit T in
theorem uR(fs:List Dfr)(r:Dfr)(hz:fs.length<=100):idx (((r::fs).map λr=>V.obj r.a).reverse) (-1)=some (.obj r.a):=by
 rw[qX (by decide) (by simp;exact ka _ _) (by simp[lim];exact nT hz rfl),aW,aB,List.length_cons,aZ,bQ,eK (by simp;lia)]
 rw[show(-1+((fs.length+1:Nat):Int)).toNat=fs.length from tn2 1 (fs.length+1)]
 simp
omit T in
theorem xY{m:Nat}{σ1:H}{r:Dfr}{c d:Int}(h:WD σ0 σ1 w o s f (r::fs) out stk)(zg:r.gs.length<=10)(zf:fs.length<=100)(zo:out.length<=1500)(zs:stk.length<=500)(zv:r.vs.length<=500)
 (hc:c=5∨c=11)
 (h5:c=5->∀σ' s',WD σ0 σ' w o s' f ({r with c:=5}::fs) (out++ [[5]]) []->Q .none σ')
 (h11:c=11->∀σ' s',WD σ0 σ' w o s' f fs (out++ [[11]]) (r.vs++r.gs)->Q .none σ'):
 blk (CTK cx m) shT [some (.obj w),some (.int c),some (.int d),some (.obj r.a),some (.obj s),none] σ1 (rq Q) (λJ σ=>X σ):=by
 have lmt:∀{k:Nat},k<=2000->k<=lim:=λhk=>aC hk (by decide)
 unfold shT;walk_at "D";rw[h.omO];walk_at "D";rw[h.ho,jW,jR,jR,show V.tup [V.int c]=tupO [c] from rfl,tups]
 have h2:=h.app (out':=out++ [[c]]);refine⟨trivial,lmt (nB rfl),lmt (by rw[aB];exact nT (aY zo) rfl),?_⟩
 rcases hc with rfl|rfl
 ·walk_at "D"
  walk_at "D";refine jS (aP _) λn hn=>⟨lmt (nB rfl),rfl,?_⟩
  have h3:=h2.ext (σ':=upd (upd σ1 o (.list ((out++ [[5]]).map tupO))) n (.list [])) λb hb=>jQ _ _ λe=>hb (by rw[e];exact hn)
  have hf:=h2.fresh hn;refine e03 (h3.hr r aE) λe1 e2 e3=>?_
  refine om_l e1 ?_;have h4:=h3.els hf (jP _ _ _)
  have hw:(upd (upd (upd σ1 o (.list ((out++ [[5]]).map tupO))) n (.list [])) r.a (.list [.int 5,.obj r.g,.obj r.v])) w=some (.sd [(ofString "out",.obj o),(ofString "stack",.obj s),(ofString "frames",.obj f)]):=by
   refine e15 h3.tg λτ t1 t2 t3 t4 t5=>?_
   have:=(t5 r aE).1;rw[jQ _ _ (nq t1 this rfl)];exact h3.hw
  exact⟨⟨lmt (nB rfl),by decide,show(0:Int)<3 by decide⟩,pO hw (nx1 (bk0 (nx1 (bk0 (h5 rfl _ _ h4)))))⟩
 ·walk_at "D"
  walk_at "D";rw[h2.omF];walk_at "D";rw[h2.hf,jW,jR,jR,aZ,bQ,List.getLast?_concat,List.dropLast_concat,jR];have h3:=h2.pop;refine e03 (h2.hr r aE) λe1 e2 e3=>?_
  refine e15 h2.tg λτ t1 t2 t3 t4 t5=>?_
  refine e03 (t5 r aE) λm1 m2 m3=>?_
  have k1:=(jQ (upd σ1 o (.list ((out++ [[11]]).map tupO))) (.list ((fs.map λr=>V.obj r.a).reverse)) (nq m1 t4 rfl)).trans e1
  have k2:=(jQ (upd σ1 o (.list ((out++ [[11]]).map tupO))) (.list ((fs.map λr=>V.obj r.a).reverse)) (nq m2 t4 rfl)).trans e2
  have k3:=(jQ (upd σ1 o (.list ((out++ [[11]]).map tupO))) (.list ((fs.map λr=>V.obj r.a).reverse)) (nq m3 t4 rfl)).trans e3
  refine⟨trivial,lmt (by rw[aD,aW,aB];exact aC (bG zf 1) (by decide)),?_⟩
  walk_at "D";refine hU (kC k1 (ll rfl) (ix2 _ _ _ _)) ?_;refine hU (kC k1 (ll rfl) (ix1 _ _ _)) ?_;refine om_l k3 ?_;refine om_l k2 ?_;rw[Zh];refine jS (lmt (by rw[aB,aD];exact n2 zv zg rfl)) λn hn=>?_
  have h4:=h3.ext (σ':=upd (upd (upd σ1 o (.list ((out++ [[11]]).map tupO))) f (.list ((fs.map λr=>V.obj r.a).reverse))) n (.list ((r.vs++r.gs).map V.int))) λb hb=>jQ _ _ λe=>hb (by rw[e];exact hn)
  exact pO h4.hw (nx1 (bk0 (nx1 (bk0 (h11 rfl _ _ (h4.new (h3.fresh hn) (jP _ _ _)))))))
theorem Np{r:Dfr}{c d:Int}(hn:6<=n)(h:WD σ0 σ w o s f (r::fs) out stk)(hk:∀k∈r.gs,K3 k)(zg:r.gs.length<=10)(zf:fs.length<=100)(zo:out.length<=500)(zs:stk.length<=500)(zv:r.vs.length<=500)
 (hc:c=5∨c=11)
 (h5:c=5->∀σ' s' lv,Drp stk r.gs lv->WD σ0 σ' w o s' f ({r with c:=5}::fs) (out++lv++ [[5]]) []->Q .none σ')
 (h11:c=11->∀σ' s' lv,Drp stk r.gs lv->WD σ0 σ' w o s' f fs (out++lv++ [[11]]) (r.vs++r.gs)->Q .none σ'):CTK cx n 581 [.obj w,.int c,.int d] σ Q X:=by
 refine ctl T (Ge T) hn rfl rfl rfl ?_;rw[sh_eq];have lmt:∀{k:Nat},k<=2000->k<=lim:=λhk=>aC hk (by decide)
 walk_at "D";rw[h.omF];refine e03 (h.hr r aE) λe1 e2 e3=>?_
 rw[kC h.hf (lmt (by simp;exact nT zf rfl)) (uR fs r zf),h.omS]
 refine⟨ll rfl,rfl,?_⟩;walk_at "D";refine hU (kC e1 (ll rfl) (ix1 _ _ _)) ?_;refine lU h.hs ?_;refine lU e2 ?_;rw[mH,jR];refine brn (λhe=>?_) λhe=>?_
 ·walk_at "N"
  exact xY (cx:=cx) (m:=n-2) (σ1:=σ) (X:=X) (d:=d) h zg zf (by exact nT zo rfl) zs zv hc (λe σ' s' a=>h5 e σ' s' [] (.inl rfl) (by simpa using a)) λe σ' s' a=>h11 e σ' s' [] (.inl rfl) (by simpa using a)
 ·walk_at "D"
  rw[h.omO];walk_at "D";rw[h.ho,jW,jR];refine⟨trivial,ll rfl,jS (ll rfl) λn1 hn1=>?_⟩
  have h1:=h.ext (σ':=upd σ n1 (.list [V.tup [.int 26]])) λb hb=>jQ _ _ λe=>hb (by rw[e];exact hn1)
  rw[h1.hs,kA,jR,aB,Ni,jP,jW,jR];refine⟨lmt (by exact nT zs rfl),by exact bT _,by simp[lim];exact iL zs rfl,jS (lmt (by rw[vM];simp;exact nT zs rfl)) λn2 hn2=>?_⟩
  have h2:=h1.ext (σ':=upd (upd σ n1 (.list [V.tup [.int 26]])) n2 (.list (rept (stk.length:Int).toNat [V.tup [.int 26]]))) λb hb=>jQ _ _ λe=>hb (by rw[e];exact hn2)
  have l2:=jP (upd σ n1 (.list [V.tup [.int 26]])) n2 (.list (rept (stk.length:Int).toNat [V.tup [.int 26]]));rw[show V.tup [.int 26]=tupO [26] from rfl,cI,Um] at*
  generalize upd (upd σ n1 (.list [tupO [26]])) n2 (.list ((rept stk.length [[26]]).map tupO))=σ2 at*;refine e03 (h2.hr r aE) λk1 k2 k3=>?_
  rw[kC k1 (ll rfl) (ix1 _ _ _),Sm,k2,jW,jR];unfold mU;rw[mK k2];have zl:(r.gs.map V.int).length<=lim:=lmt (by simp;exact nT zg rfl)
  refine⟨rfl,?_⟩;refine pC (vs:=r.gs.map V.int) (λi acc σ'=>σ'=σ2/\∃gl,acc=gl.map tupO/\Lvs gl (r.gs.take i)) (λi acc σ' hI=>?_) (λacc σ' hI=>?_) (λi acc σ' v hI hv W hW=>?_) _ 0 [] σ2 ⟨rfl,[],rfl,Lvs.nil⟩ (aP _) (cB _)
  ·rw[hI.1];exact mO k2 zl i
  ·obtain⟨z1z,gl,z2z,hl⟩:=hI;obtain rfl:=z1z;obtain rfl:=z2z
   rw[aB,dH (aR _)] at hl;have hlen:=hl.len;refine jS (lmt (by simp;lia)) λn3 hn3=>?_
   have n32:n2≠n3:=λe=>by rw[←e,l2] at hn3;injection hn3
   refine om_l ((jQ _ _ n32).trans l2) ?_;refine om_l (jP ..) ?_;rw[←bJ];refine jS (lmt (by rw[aB,aD,vM];simp;lia)) λn4 hn4=>?_
   have h3:=h2.ext (σ':=upd σ' n3 (.list (gl.map tupO))) λb hb=>jQ _ _ λe=>hb (by rw[e];exact hn3)
   have h4:=h3.ext (σ':=upd (upd σ' n3 (.list (gl.map tupO))) n4 (.list ((rept stk.length [[26]]++gl).map tupO))) λb hb=>jQ _ _ λe=>hb (by rw[e];exact hn4)
   have o4:=(h3.fresh hn4).2.2.1;rw[Sn,h4.ho,jW,jR,jP,jW,jR,←bJ];have hDr:Drp stk r.gs (rept stk.length [[26]]++gl):=.inr ⟨gl,rfl,hl⟩;have hDl:=hDr.len;refine⟨λe=>o4 e.symm,lmt (by simp only[aB] at*;lia),?_⟩
   walk_at "N";exact xY (cx:=cx) (m:=n-2) (X:=X) (d:=d) h4.app zg zf (by rw[aD];lia) zs zv hc (λe σ' s' a=>h5 e σ' s' _ hDr a) λe σ' s' a=>h11 e σ' s' _ hDr a
  ·obtain⟨z3z,gl,z4z,hl⟩:=hI;obtain rfl:=z3z;obtain rfl:=z4z
   rw[bH] at hv;refine mapS hv λk hk2 z5z=>?_;obtain rfl:=z5z
   have hlt:=(aT.mp hk2).1;have htk:r.gs.take (i+1)=r.gs.take i++ [k]:=by rw[gY,hk2];rfl
   have hlen:=hl.len;rw[eF] at hlen;refine Qp T (fu hn rfl) (hk k (cJ hk2)) λlf hlf=>⟨lmt (by simp;lia),hW _ _ ⟨rfl,gl++ [lf],by simp,?_⟩⟩
   rw[htk];exact hl.app hlf
end
structure GI(σ0 σ:H)(w o s f:Addr)(fs:List Dfr)(out:List Op)(stk:List Int)(B:Nat):Prop where
 wd:WD σ0 σ w o s f fs out stk
 cx:fs≠ []->CxI fs out stk.reverse
 fin:fs= []->∃ts Z,out=fls ts++ [[11]]/\Tys ts [] Z/\deps ts<=4
 gv:∀r∈fs,r.gs= []∨r.gs= [-1]
 pt:pot out stk fs<=B
theorem rY(out:List Op)(stk:List Int)(r:Dfr)(fs:List Dfr):pot out stk (r::fs)=pot out stk fs+2*r.vs.length+6:=by simp only[pot,aZ,List.sum_cons];lia
theorem bO{x y B:Nat}(a:x+2*y<=B)(h:B<=400):x<=500:=nT (aC (Nat.le_of_add_right_le a) h) rfl
theorem bV{y p B:Nat}(a:2*y<=p)(g:p<=B)(h:B<=400):y<=500:=nT (Nat.le_of_mul_le_mul_left (a:=y) (b:=200) (c:=2) (aC a (aC g h)) (by decide)) rfl
theorem bS{x y B:Nat}(a:x+2*y<=B)(h:B<=400):y<=500:=bV (Nat.le_of_add_left_le a) h (aR 400)
theorem Gh{out:List Op}{stk:List Int}{r:Dfr}{fs:List Dfr}(h:r∈fs):2*r.vs.length<=pot out stk fs:=by
 induction fs with
 |nil=>cases h |cons q fs ih=>
  rw[rY];rcases aJ.mp h with rfl|h
  ·lia
  ·have:=ih h;lia
theorem Pr(out:List Op)(stk:List Int)(fs:List Dfr):out.length+2*stk.length<=pot out stk fs:=by simp[pot]
theorem tB(out out':List Op)(stk stk':List Int)(fs:List Dfr):pot out stk fs+out'.length+2*stk'.length=pot out' stk' fs+out.length+2*stk.length:=by simp[pot];lia
section
variable{σ0 σ σ':H}{w o s s' f:Addr}{fs:List Dfr}{out lv:List Op}{stk:List Int}{B:Nat}{r:Dfr}
theorem GI.many(g:GI σ0 σ w o s f fs out stk B):fs.length<=5:=by
 by_cases h:fs= []
 ·simp[h]
 ·exact(g.cx h).many
theorem GI.gs_len(g:GI σ0 σ w o s f fs out stk B)(h:r∈fs):r.gs.length<=1/\∀k∈r.gs,K3 k:=by
 rcases g.gv r h with e|e<;>rw[e]
 ·exact⟨by simp,by simp⟩
 ·exact⟨by simp,by simp[K3]⟩
theorem GI.out_le(g:GI σ0 σ w o s f fs out stk B):out.length+2*stk.length<=B:=aC (Pr _ _ _) g.pt
theorem GI.shut5(g:GI σ0 σ w o s f (r::fs) out stk B)(h4:r.c=4)(hd:Drp stk r.gs lv)(h:WD σ0 σ' w o s' f ({r with c:=5}::fs) (out++lv++ [[5]]) []):GI σ0 σ' w o s' f ({r with c:=5}::fs) (out++lv++ [[5]]) [] (B+2):=by
 refine e11 ((g.cx λh=>by injection h).drp hd) λS hS=>?_
 have hl:=hd.len;have hg:=(g.gs_len (r:=r) aE).1;have hp:=g.pt;refine⟨h,λJ=>hS.else_ h4,by intros;contradiction,λq m=>?_,?_⟩
 ·rcases aJ.mp m with rfl|m
  ·exact g.gv r aE
  ·exact g.gv q (aH _ m)
 ·have e:=tB out (out++lv++ [[5]]) stk [] fs
  rw[rY] at hp⊢;simp at e⊢;lia
theorem GI.shut11(g:GI σ0 σ w o s f (r::fs) out stk B)(hd:Drp stk r.gs lv)(h:WD σ0 σ' w o s' f fs (out++lv++ [[11]]) (r.vs++r.gs)):GI σ0 σ' w o s' f fs (out++lv++ [[11]]) (r.vs++r.gs) B:=by
 refine e11 ((g.cx λh=>by injection h).drp hd) λS hS=>?_
 have hl:=hd.len;have hg:=(g.gs_len (r:=r) aE).1;have hp:=g.pt;refine⟨h,λhn=>?_,λe=>?_,λq m=>g.gv q (aH _ m),?_⟩
 ·rw[dX];exact hS.shut hn _
 ·subst e
  refine e23 hS.last λts Z e1 e2 e3=>?_
  exact⟨ts,Z,by rw[e1],e2,e3⟩
 ·have e:=tB out (out++lv++ [[11]]) stk (r.vs++r.gs) fs
  rw[rY] at hp;simp at e⊢;lia
end
section
variable{σ0 σ σ':H}{w o s s' f:Addr}{fs:List Dfr}{out lv:List Op}{stk:List Int}{B B':Nat}
theorem GI.more(g:GI σ0 σ w o s f fs out stk B)(h:B<=B'):GI σ0 σ w o s f fs out stk B':=⟨g.wd,g.cx,g.fin,g.gv,aC g.pt h⟩
theorem GI.ext(g:GI σ0 σ w o s f fs out stk B)(x:Ext σ σ'):GI σ0 σ' w o s f fs out stk B:=⟨g.wd.ext λb hb=>x.eq hb,g.cx,g.fin,g.gv,g.pt⟩
end
section
variable{cx:Cx}(T:Prog cx){n:Nat}{σ0 σ:H}{Q:QV}{X:XH}{w o s f:Addr}{fs:List Dfr}{out:List Op}{stk:List Int}{B:Nat}{r:Dfr}{d:Int}
include T
theorem Ii(hn:6<=n)(g:GI σ0 σ w o s f (r::fs) out stk B)(hB:B<=400)(h4:r.c=4)(hQ:∀σ' s' out',GI σ0 σ' w o s' f ({r with c:=5}::fs) out' [] (B+2)->Q .none σ'):CTK cx n 581 [.obj w,.int 5,.int d] σ Q X:=by
 have a:=g.out_le;have b:=g.gs_len (r:=r) aE;have c:=Gh (out:=out) (stk:=stk) (r:=r) (fs:=r::fs) aE;have e:=g.pt;have hm:=g.many;exact Np T hn g.wd b.2 (by exact nT b.1 rfl) (by simp at hm;exact nT hm rfl) (bO a hB) (bS a hB) (bV c g.pt hB) (.inl rfl) (λJ σ' s' lv hd h=>hQ σ' s' _ (g.shut5 h4 hd h)) (λe=>absurd e (by decide))
theorem Mp(hn:6<=n)(g:GI σ0 σ w o s f (r::fs) out stk B)(hB:B<=400)(hQ:∀σ' s' out' stk',GI σ0 σ' w o s' f fs out' stk' B->Q .none σ'):CTK cx n 581 [.obj w,.int 11,.int d] σ Q X:=by
 have a:=g.out_le;have b:=g.gs_len (r:=r) aE;have c:=Gh (out:=out) (stk:=stk) (r:=r) (fs:=r::fs) aE;have e:=g.pt;have hm:=g.many;exact Np T hn g.wd b.2 (by exact nT b.1 rfl) (by simp at hm;exact nT hm rfl) (bO a hB) (bS a hB) (bV c g.pt hB) (.inr rfl) (λe=>absurd e (by decide)) (λJ σ' s' lv hd h=>hQ σ' s' _ _ (g.shut11 hd h))
theorem Qv(hn:8<=n)(g:GI σ0 σ w o s f (r::fs) out stk B)(hB:B<=390)(hQ:∀σ' s' out' stk',GI σ0 σ' w o s' f fs out' stk' (B+2)->Q .none σ'):CTK cx n 588 [.obj w,.int d] σ Q X:=by
 refine ctl T (Xg T) hn rfl rfl rfl ?_;have hm:=g.many;have zf:fs.length<=100:=by simp at hm;exact nT hm rfl
 have lmt:∀{k:Nat},k<=2000->k<=lim:=λhk=>aC hk (by decide)
 walk_at "D";refine e03 (g.wd.hr r aE) λe1 e2 e3=>?_
 rw[g.wd.omF,kC g.wd.hf (lmt (by simp;exact nT zf rfl)) (uR fs r zf),kC e1 (by simp[lim]) (ix0 _ _)]
 walk_at "D";have h9:kR 9:=by unfold kR;decide
 have fin:∀{σ1:H} {out1:List Op} {r1:Dfr} {s1:Addr} {stk1:List Int} {K:H->Prop},GI σ0 σ1 w o s1 f (r1::fs) out1 stk1 (B+2)->(∀σ,Q .none σ->K σ)->CTK cx (n-2) 581 [.obj w,.int 11,.int (d.fdiv 9)] σ1 (λJ σ=>K σ) λσ=>X σ:=λg2 hK=>Mp T (fu hn rfl) g2 (by exact n2 hB (aR _) rfl) λσ'' s'' out'' stk'' g4=>hK _ (hQ _ _ _ _ g4)
 refine br (λh4=>?_) λh4=>?_
 ·rw[g.wd.omF,kC g.wd.hf (lmt (by simp;exact nT zf rfl)) (uR fs r zf),kC e1 (ll rfl) (ix1 _ _ _)]
  refine jS (aP _) λc hc=>?_
  have g2:=g.ext (.upd (o:=.list []) hc);have k2:=(g2.wd.hr r aE).2.1;refine lU k2 ?_;refine lU (jP ..) ?_;rw[show([]:List V)=([]:List Int).map .int from rfl,mH,jR]
  refine brn (λJ=>?_) λJ=>?_
  ·walk_at "D"
   walk_at "D";exact⟨by decide,h9,fin (g2.more (by exact cN _ _)) λσ h=>by walk_at "N";exact h⟩
  ·walk_at "D"
   refine Ii T (fu hn rfl) g2 (by exact nT hB rfl) h4 λσ' s' out' g3=>?_
   walk_at "D";exact⟨by decide,h9,fin g3 λσ h=>by walk_at "N";exact h⟩
 ·walk_at "D"
  walk_at "D";exact⟨by decide,h9,fin (g.more (by exact cN _ _)) λσ h=>by walk_at "N";exact h⟩
end
theorem kP.self:∀(t S:List Int),kP t (t++S)
 | [],S=>by cases S<;>simp[kP]
 |a::t,S=>⟨rfl,kP.self t S⟩
theorem St1.of{op:Op}{t g:List Int}(e:Eff op t g)(S:List Int):St1 op (t++S) (g++S):=by
 have:=St1.eff e (kP.self t S)
 rwa [List.drop_left] at this
section
variable{cx:Cx}(T:Prog cx){n:Nat}{σ0 σ:H}{Q:QV}{X:XH}{w o s f:Addr}{fs:List Dfr}{out:List Op}{stk:List Int}{B:Nat}
include T
theorem Ki{op:Op}{t g:Addr}{tk gv:List Int}{d:Int}(hn:6<=n)(G:GI σ0 σ w o s f fs out stk B)(hf:fs≠ [])(hB:B<=400)(ht:σ t=some (.list (tk.map .int)))(hg:σ g=some (.list (gv.map .int)))
 (tn:t≠w/\t≠o/\t≠s)(gn:g≠w/\g≠o/\g≠s)(hk:∀k∈tk,K3 k)(zt:tk.length<=10)(zg:gv.length<=10)
 (hQ:∀σ' s' out1 R,WD σ0 σ' w o s' f fs (out1++ [op]) (R++gv)->CxI fs out1 (tk.reverse++R.reverse)->pot out1 R fs<=B+tk.length->(∀b,b≠w->b≠o->b≠s->σ b≠none->σ' b=σ b)->σ s'=none->Q .none σ'):CTK cx n 569 [.obj w,tupO op,.obj t,.obj g,.int d] σ Q X:=by
 have a:=G.out_le;have b:=G.pt;refine c_do T hn G.wd ht hg tn gn hk (bO a hB) (bS a hB) zt zg λσ' s' lv R hW hl x y=>hQ σ' s' _ R hW ((G.cx hf).did hl) ?_ x y
 have e:=tB out (out++lv) stk R fs;rcases hl with⟨l,rfl⟩|⟨rfl,rfl⟩
 ·have:=l.len
  rw[aD] at e;lia
 ·simp at e⊢
  lia
theorem Li{op:Op}{t g:Addr}{tk gv:List Int}{d:Int}(hn:6<=n)(G:GI σ0 σ w o s f fs out stk B)(hf:fs≠ [])(hB:B<=400)(ht:σ t=some (.list (tk.map .int)))(hg:σ g=some (.list (gv.map .int)))
 (tn:t≠w/\t≠o/\t≠s)(gn:g≠w/\g≠o/\g≠s)(hk:∀k∈tk,K3 k)(zt:tk.length<=3)(zg:gv.length<=1)(he:∀S,St1 op (tk.reverse++S) (gv.reverse++S))
 (hQ:∀σ' s' out' stk',GI σ0 σ' w o s' f fs out' stk' (B+6)->Q .none σ'):CTK cx n 569 [.obj w,tupO op,.obj t,.obj g,.int d] σ Q X:=by
 refine Ki T hn G hf hB ht hg tn gn hk (by exact nT zt rfl) (by exact nT zg rfl) λσ' s' out1 R hW hc hp J J=>hQ σ' s' _ _ ⟨hW,λJ=>?_,λe=>absurd e hf,G.gv,?_⟩
 ·rw[dX];exact hc.op (he _)
 ·have e:=tB out1 (out1++ [op]) R (R++gv) fs
  simp at e;lia
end
theorem xD{r:Dfr}{g:List Int}(hg:g=(if r.c=3 then [] else r.gs))(h:r.gs= []∨r.gs= [-1]):g= []∨g= [-1]:=by
 rw[hg];split
 ·exact .inl rfl
 ·exact h
theorem GI.nots{σ0 σ:H}{w o s f:Addr}{fs:List Dfr}{out:List Op}{stk:List Int}{B:Nat}(G:GI σ0 σ w o s f fs out stk B){c:Addr}(h:σ c=none):c≠w/\c≠o/\c≠s:=by
 refine e06 (G.wd.fresh h) λn0 n1 n2 n3 n4 n5=>?_
 exact⟨n1,n2,n3⟩
theorem pick{ls:List Nat}(h:ls≠ [])(hz:ls.length<=100)(x:Int):∃k:Int,idx (ls.map λ(k:Nat)=>V.int k) (x.fmod ((ls.map λ(k:Nat)=>V.int k).length:Nat))=some (.int k):=by
 have hpos:0<ls.length:=fA.mpr h;rw[aB,kL x (by exact bT _)]
 have m1:=bF x (show(ls.length:Int)≠0 by exact Int.natCast_ne_zero_iff_pos.mpr hpos)
 have m2:=bA x (show(0:Int)<ls.length by exact Int.ofNat_lt.mpr hpos)
 rw[pD m1 (by simpa using m2) (by simp[lim];exact nT hz rfl),bH,bI (by exact(Int.toNat_lt m1).mpr m2)]
 exact⟨_,rfl⟩
theorem Av{σ0 σ1:H}{w o s1 f:Addr}{fs:List Dfr}{out1:List Op}{R S:List Int}{op:Op}{B:Nat}{K:H->Prop}(hf:fs≠ [])(hW:WD σ0 σ1 w o s1 f fs (out1++ [op]) (R++ []))(hc:CxI fs out1 S)(hs:St1 op S [])(hp:pot out1 R fs<=B+2)(gv:∀r∈fs,r.gs= []∨r.gs= [-1])
 (hK:∀σ' s',GI σ0 σ' w o s' f fs (out1++ [op]) [] (B+6)->K σ'):
 newL σ1 [] λv σ=>om (asSd (σ w)) λes=>(es.length<=1000/\(es.lookup (ofString "stack")).isSome=true)/\K (upd σ w (.sd (es.map λe=>if e.1=ofString "stack" then(e.1,v) else e))):=by
 refine jS (by simp[lim]) λc hc'=>?_
 have h2:=hW.ext (σ':=upd σ1 c (.list [])) λb hb=>jQ _ _ λe=>hb (by rw[e];exact hc')
 refine pO h2.hw (hK _ c ⟨h2.new (stk':= []) (hW.fresh hc') (jP _ _ _),λJ=>hc.op hs,λe=>absurd e hf,gv,?_⟩)
 have e:=tB out1 (out1++ [op]) R [] fs;simp at e;lia
section
variable{cx:Cx}(T:Prog cx){n:Nat}{σ0 σ:H}{Q:QV}{X:XH}{w o s f:Addr}{fs:List Dfr}{out:List Op}{stk:List Int}{B:Nat}
include T
theorem Up{c d:Int}(hn:10<=n)(G:GI σ0 σ w o s f fs out stk B)(hf:fs≠ [])(hB:B<=400)(hc:c=8∨c=9∨c=10)(hQ:∀σ' s' out' stk',GI σ0 σ' w o s' f fs out' stk' (B+6)->Q .none σ'):CTK cx n 593 [.obj w,.int c,.int d] σ Q X:=by
 refine ctl T (xT T) hn rfl rfl rfl ?_;have lmt:∀{k:Nat},k<=2000->k<=lim:=λhk=>aC hk (by decide)
 have hm:=G.many;have hpos:0<fs.length:=fA.mpr hf;walk_at "D";rw[G.wd.omF,Oh,G.wd.hf,kA,jR,aW,aB];refine⟨lmt (by exact nT hm rfl),?_⟩
 walk_at "D";rw[kL d (bT fs.length)];have hn0:(fs.length:Int)≠0:=by exact Int.natCast_ne_zero_iff_pos.mpr hpos
 have m1:=bF d hn0;have m2:=bA d (show(0:Int)<fs.length by exact Int.ofNat_lt.mpr hpos)
 refine e11 (gS m1) λl hl=>?_
 rw[hl] at m2⊢;have hlt:l<fs.length:=Int.ofNat_lt.mp m2;refine⟨hn0,?_⟩;walk_at "D";obtain⟨r,hr⟩:∃r,fs[l]?=some r:=⟨_,bI hlt⟩;refine zB T (fu hn rfl) G.wd hr (by exact nT hm rfl) λσ1 c5 g5 e5 k5 x1 n1 n2 n3 n4=>?_
 have G1:=G.ext x1;have hg5:=xD e5 (G.gv r (cJ hr))
 have hgk:g5.length<=1/\∀k∈g5,K3 k:=by
  rcases hg5 with e|e<;>rw[e]
  ·exact⟨by simp,by simp⟩
  ·exact⟨by simp,by simp[K3]⟩
 have hgl:(∀k∈g5++ [-1],K3 k)/\(g5++ [-1]).length<=3:=⟨λk hk=>(bB.mp hk).elim (hgk.2 k) λhk=>aK.mp hk▸ .inl rfl,by rw[aD];exact aC (bG hgk.1 1) (by decide)⟩
 have i5:kR 5:=by unfold kR;decide
 have i15:kR 15:=by unfold kR;decide
 have i25:kR 25:=by unfold kR;decide
 have i125:kR 125:=by unfold kR;decide
 have zz:fs.length<=5:=hm;walk_at "D";refine br (λh8=>?_) λh8=>?_
 ·walk_at "D"
  refine⟨lmt (nB rfl),jS (lmt (nB rfl)) λc1 hc1=>?_⟩
  have q1:c5≠c1:=λe=>by rw[e,hc1] at k5;injection k5
  refine om_l ((jQ _ _ q1).trans k5) ?_;refine om_l (jP ..) ?_;rw[show [V.int (-1)]=([-1]:List Int).map .int from rfl,Zh]
  refine jS (lmt (by rw[aB,aD];exact aC (bG hgk.1 1) (by decide))) λc2 hc2=>⟨by decide,i5,?_⟩
  have x2:Ext σ1 (upd (upd σ1 c1 (.list (([-1]:List Int).map .int))) c2 (.list ((g5++ [-1]).map .int))):=(Ext.upd hc1).trans (.upd hc2);have G2:=G1.ext x2;have n2:=(G1.ext (.upd (o:=.list (([-1]:List Int).map .int)) hc1)).nots hc2;refine Li T (op:= [13,l]) (gv:=g5) (tk:=g5++ [-1]) (fu hn rfl) G2 hf hB (jP _ _ _) (x2 _ _ k5) n2 ⟨n1,‹_›,‹_›⟩ hgl.1 (by rw[aD];exact aC (bG hgk.1 1) (by decide)) hgk.1 (λS=>?_) λσ' s' out' stk' g=>by walk_at "D";exact hQ _ _ _ _ g
  rw[dX];exact St1.of (op:= [13,l]) (t:= [-1]) (g:= []) .brif (g5.reverse++S)
 walk_at "D";walk_at "D";refine br (λh10=>?_) λh10=>?_
 ·walk_at "D"
  refine⟨by decide,i5,by decide,?_⟩
  have stop:∀{op:Op} {K:QV},(∀S,St1 op S [])->(∀v σ,(newL σ [] λv σ=>om (asSd (σ w)) λes=>(es.length<=1000/\(es.lookup (ofString "stack")).isSome=true)/\Q .none (upd σ w (.sd (es.map λe=>if e.1=ofString "stack" then(e.1,v) else e))))->K v σ)->
   newL σ1 [] λv σ=>(15:Int)≠0/\kR 15/\CTK cx (n-2) 569 [V.obj w,tupO op,.obj c5,v,V.int (d.fdiv 15)] σ K λσ=>X σ:=λ{op K} hop hK=>by
   refine jS (aP _) λc1 hc1=>⟨by decide,i15,?_⟩
   have x2:Ext σ1 (upd σ1 c1 (.list [])):=.upd hc1;have G2:=G1.ext x2;refine Ki T (gv:= []) (tk:=g5) (fu hn rfl) G2 hf hB (x2 _ _ k5) (jP _ _ _) ⟨n1,‹_›,‹_›⟩ (G1.nots hc1) hgk.2 (aC hgk.1 (by decide)) (aP _) λσ' s' out1 R hW hc hp J J=>hK _ _ ?_
   exact Av (K:=λσ=>Q .none σ) hf hW hc (hop _) (by lia) G.gv λσ' s' g=>hQ σ' s' _ _ g
  have done:∀(v:V) (σ:H),(newL σ [] λv σ=>om (asSd (σ w)) λes=>(es.length<=1000/\(es.lookup (ofString "stack")).isSome=true)/\Q .none (upd σ w (.sd (es.map λe=>if e.1=ofString "stack" then(e.1,v) else e))))->
   nx (CTK cx (n-2)) (iss []) (nx (CTK cx (n-2)) (iss [IS.setSub (IE.loc 0) (IE.val (V.str (ofString "stack"))) (IE.lst (ies []))]) (rq Q) λJ σ=>X σ) (λJ σ=>X σ) .next [some (.obj w),some (.int c),some (.int d),some (.int fs.length),some (.int l),some (.obj c5),none,none,none] σ:=λv σ h=>by
   walk_at "D";exact h
  refine br (λJ=>?_) λJ=>?_
  ·exact⟨lmt (nB rfl),stop (op:= [12,l]) (λJ=>.br) done⟩
  ·exact⟨lmt (nB rfl),stop (op:= [0]) (λJ=>.stop) done⟩
 ·walk_at "D"
  refine⟨rfl,⟨bT _,by exact iL zz rfl⟩,?_⟩
  have hlen:=Ff fs.length;unfold mU;rw[show lZ (.fix (kU fs.length)) σ1=(kU fs.length).length from rfl]
  refine pC (vs:=kU fs.length) (λi acc σ'=>Ext σ1 σ'/\∃ls:List Nat,acc=ls.map (λ(k:Nat)=>V.int k)/\ls.length<=i/\i<=fs.length/\(l<i->ls≠ [])) (λi acc σ' hI=>rfl) (λacc σ' hI=>?_) (λi acc σ' v hI hv W hW=>?_) _ 0 [] σ1 ⟨.refl _,[],rfl,aP _,aP _,λz=>absurd z (Nat.not_lt_zero _)⟩ (aP _) (cB _)
  ·obtain⟨x2,ls,z1z,hll,hle,hne⟩:=hI;obtain rfl:=z1z
   rw[hlen] at hll hne;have hne:=hne hlt;have hpos2:0<ls.length:=fA.mpr hne;have zl:(ls.map λ(k:Nat)=>V.int k).length<=lim:=lmt (by rw[aB];exact nT (aC hll zz) rfl)
   have zn:((ls.map λ(k:Nat)=>V.int k).length:Int)≠0:=by rw[aB];exact Int.natCast_ne_zero_iff_pos.mpr hpos2
   refine jS zl λcl hcl=>?_
   have x3:Ext σ1 (upd σ' cl (.list (ls.map λ(k:Nat)=>V.int k))):=x2.trans (.upd hcl)
   have kl:=jP σ' cl (.list (ls.map λ(k:Nat)=>V.int k))
   generalize upd σ' cl (.list (ls.map λ(k:Nat)=>V.int k))=σ2 at*
   refine e11 (pick hne (by exact nT (aC hll zz) rfl) (d.fdiv 5)) λk1 hk1=>?_
   refine e11 (pick hne (by exact nT (aC hll zz) rfl) (d.fdiv 25)) λk2 hk2=>?_
   walk_at "D";rw[kl,kA,jR,kC kl zl hk1];refine⟨by decide,i5,zl,zn,by decide,i25,?_⟩
   refine lU kl ?_;rw[kC kl zl hk2];refine⟨zl,zn,lmt (nB rfl),?_⟩;walk_at "D";refine⟨lmt (nB rfl),lmt (nB rfl),jS (lmt (nB rfl)) λc1 hc1=>?_⟩
   have k5':=x3 _ _ k5;have q1:c5≠c1:=λe=>by rw[e,hc1] at k5';injection k5'
   refine om_l ((jQ _ _ q1).trans k5') ?_;refine om_l (jP ..) ?_;rw[show [V.int (-1)]=([-1]:List Int).map .int from rfl,Zh]
   refine jS (by rw[aB];exact lmt (aC hgl.2 (by decide))) λc2 hc2=>?_
   have x4:Ext σ2 (upd (upd σ2 c1 (.list (([-1]:List Int).map .int))) c2 (.list ((g5++ [-1]).map .int))):=(Ext.upd hc1).trans (.upd hc2);have kt:=jP (upd σ2 c1 (.list (([-1]:List Int).map .int))) c2 (.list ((g5++ [-1]).map .int));have n2':=((G1.ext x3).ext (.upd (o:=.list (([-1]:List Int).map .int)) hc1)).nots hc2;generalize upd (upd σ2 c1 (.list (([-1]:List Int).map .int))) c2 (.list ((g5++ [-1]).map .int))=σ3 at*;have G3:=(G1.ext x3).ext x4;refine jS (aP _) λc3 hc3=>⟨by decide,i125,?_⟩
   have x5:Ext σ3 (upd σ3 c3 (.list [])):=.upd hc3;refine Ki T (op:= [14,k1,k2,l]) (gv:= []) (tk:=g5++ [-1]) (fu hn rfl) (G3.ext x5) hf hB (x5 _ _ kt) (jP _ _ _) n2' (G3.nots hc3) hgl.1 (aC hgl.2 (by decide)) (aP _) λσ' s' out1 R hW hc hp J J=>?_
   walk_at "D";rw[dX] at hc;have hp:=aC hp (gF (show(g5++ [-1]).length<=2 by rw[aD];exact bG hgk.1 1) B)
   exact Av (K:=λσ=>Q .none σ) hf hW hc (.tab (by simp[kP])) (by exact hp) G.gv λσ' s' g=>hQ σ' s' _ _ g
  ·obtain⟨x2,ls,z2z,hll,hle,hne⟩:=hI;obtain rfl:=z2z
   refine e02 (Gf hv) λhi z3z=>?_;obtain rfl:=z3z
   have G2:=G1.ext x2;refine zB T (fu hn rfl) G2.wd (bI hi) (by exact nT zz rfl) λσ2 ca ga ea ka xa J J J J=>?_
   have x3:=x2.trans xa;refine lU ka ?_;refine lU (x3 _ _ k5) ?_;rw[mH,jR];refine br (λhe=>?_) λhe=>?_
   ·exact⟨lmt (by rw[aB];lia),hW _ _ ⟨x3,ls++ [i],by rw[bJ];rfl,by rw[aD];exact bG hll 1,hi,λJ=>by simp⟩⟩
   ·refine hW _ _ ⟨x3,ls,rfl,gX hll,hi,λh=>?_⟩
    by_cases hil:l<i
    ·exact hne hil
    ·exfalso
     have:i=l:=by exact Eq.symm (Nat.eq_of_lt_succ_of_not_lt h hil)
     subst this;rw[bI hi] at hr;injection hr with qz;subst qz
     exact he (by rw[ea,e5])
end
noncomputable def tuA:ISs:=(iss [(.assign 4 (.call (.val (.raw (.ref 499))) (ies [(.bin .Mod (.loc 2) (.val (.int 66)))]))),
 (.assignT [(.nm 5),(.nm 6),(.nm 7)] (.call (.val (.raw (.ref 492))) (ies [(.loc 4)]))),
 (.assign 8 (.bin .Mult (.lst (ies [(.ite (.cmp (.loc 6) .Eq (.val (.int 32))) (.neg (.val (.int 1))) (.neg (.val (.int 2))))])) (.ite (.cmp (.loc 5) .In (.val (.tup [(.str (ofString "eqz")),(.str (ofString "clz")),(.str (ofString "ctz")),(.str (ofString "popcnt")),(.str (ofString "wrap")),(.str (ofString "wide")),(.str (ofString "spread8")),(.str (ofString "spread16")),(.str (ofString "spread32"))]))) (.val (.int 1)) (.val (.int 2))))),
 (.expr (.call (.val (.raw (.ref 569))) (ies [(.loc 0),(.tup (ies [(.loc 4)])),(.loc 8),(.lst (ies [(.ite (.cmp (.loc 7) .Eq (.val (.int 32))) (.neg (.val (.int 1))) (.neg (.val (.int 2))))])),(.bin .FloorDiv (.loc 2) (.val (.int 66)))])))])
noncomputable def tuB:ISs:=(iss [(.assign 9 (.sub (.tup (ies [(.neg (.val (.int 1))),(.neg (.val (.int 2))),(.neg (.val (.int 16)))])) (.bin .Mod (.loc 2) (.val (.int 3))))),
 (.assign 10 (.ite (.or (.cmp (.loc 9) .Eq (.neg (.val (.int 16)))) (.cmp (.bin .Mod (.bin .FloorDiv (.loc 2) (.val (.int 3))) (.val (.int 2))) .Eq (.val (.int 1)))) (.tup (ies [(.val (.int 28)),(.loc 9)])) (.tup (ies [(.val (.int 27))])))),
 (.expr (.call (.val (.raw (.ref 569))) (ies [(.loc 0),(.loc 10),(.lst (ies [(.loc 9),(.loc 9),(.neg (.val (.int 1)))])),(.lst (ies [(.loc 9)])),(.bin .FloorDiv (.loc 2) (.val (.int 6)))])))])
noncomputable def tuD:ISs:=(iss [(.assignT [(.nm 4),(.nm 11)] (.tup (ies [(.ite (.cmp (.loc 1) .Eq (.val (.int 11))) (.val (.int 4)) (.bin .Add (.val (.int 2)) (.bin .Mod (.bin .FloorDiv (.loc 2) (.val (.int 3))) (.val (.int 2))))),(.ite (.cmp (.bin .Mod (.loc 2) (.val (.int 3))) .Eq (.val (.int 2))) (.lst (ies [(.neg (.val (.int 1)))])) (.lst (ies [])))]))),
 (.expr (.call (.val (.raw (.ref 569))) (ies [(.loc 0),(.tup (ies [(.loc 4),(.ite (.cmp (.loc 11) .NotEq (.lst (ies []))) (.neg (.val (.int 1))) (.neg (.val (.int 64))))])),(.ite (.cmp (.loc 4) .Eq (.val (.int 4))) (.lst (ies [(.neg (.val (.int 1)))])) (.lst (ies []))),(.lst (ies [])),(.bin .FloorDiv (.loc 2) (.val (.int 6)))]))),
 (.expr (.meth (.loc 3) .append (ies [(.lst (ies [(.loc 4),(.loc 11),(.sub (.loc 0) (.val (.str (ofString "stack"))))]))]))),
 (.setSub (.loc 0) (.val (.str (ofString "stack"))) (.lst (ies [])))])
noncomputable def tuG:ISs:=(iss [(.assignT [(.nm 10),(.nm 6),(.nm 11)] (.sub (.tup (ies [(.tup (ies [(.tup (ies [(.val (.int 33)),(.val (.int 0))])),(.lst (ies [(.neg (.val (.int 1)))])),(.lst (ies []))])),(.tup (ies [(.tup (ies [(.val (.int 34)),(.val (.int 1))])),(.lst (ies [(.neg (.val (.int 2)))])),(.lst (ies [(.neg (.val (.int 2)))]))])),(.tup (ies [(.tup (ies [(.val (.int 26))])),(.lst (ies [(.neg (.val (.int 1)))])),(.lst (ies []))])),(.tup (ies [(.tup (ies [(.val (.int 1))])),(.lst (ies [])),(.lst (ies []))])),(.tup (ies [(.tup (ies [(.val (.int 65)),(.val (.int 0))])),(.lst (ies [])),(.lst (ies [(.neg (.val (.int 1)))]))]))])) (.bin .Mod (.loc 2) (.val (.int 5))))),
 (.expr (.call (.val (.raw (.ref 569))) (ies [(.loc 0),(.loc 10),(.loc 6),(.loc 11),(.bin .FloorDiv (.loc 2) (.val (.int 5)))])))])
theorem tu_eq:ib__law_turn=.cons (.assign 3 (.sub (.loc 0) (.val (.str (ofString "frames"))))) (.cons (.iff (.cmp (.loc 1) .Lt (.val (.int 7))) tuA (iss [(.iff (.cmp (.loc 1) .Eq (.val (.int 7))) tuB (iss [(.iff (.cmp2 (.val (.int 8)) .LtE (.loc 1) .Lt (.val (.int 11))) (iss [(.expr (.call (.val (.raw (.ref 593))) (ies [(.loc 0),(.loc 1),(.loc 2)])))]) (iss [(.iff (.and (.cmp (.loc 1) .Lt (.val (.int 13))) (.cmp (.bi .len (ies [(.loc 3)])) .Lt (.val (.int 5)))) tuD (iss [(.iff (.and (.cmp (.loc 1) .Eq (.val (.int 13))) (.cmp (.sub (.sub (.loc 3) (.neg (.val (.int 1)))) (.val (.int 0))) .Eq (.val (.int 4)))) (iss [(.expr (.call (.val (.raw (.ref 581))) (ies [(.loc 0),(.val (.int 5)),(.loc 2)])))]) (iss [(.iff (.and (.cmp (.loc 1) .Eq (.val (.int 14))) (.cmp (.bi .len (ies [(.loc 3)])) .Gt (.val (.int 1)))) (iss [(.expr (.call (.val (.raw (.ref 588))) (ies [(.loc 0),(.loc 2)])))]) tuG)]))]))]))]))])) .nil):=rfl
theorem Af(nm:Nm):decide (nm∈ [Nm.eqz,.clz,.ctz,.popcnt,.wrap,.wide,.sp8,.sp16,.sp32])=nm.single:=by induction nm<;>rfl
theorem ksel{t:Nat}(ht:t=32∨t=64){σ:H}{K:QV}(h:newL σ [.int (kindOf t)] K):if((t:Int)==32)=true then newL σ [.int (-1)] K else newL σ [.int (-2)] K:=by rcases ht with rfl|rfl<;>exact h
noncomputable def rhoT(w f:Addr)(c d:Int):Rho:= [some (.obj w),some (.int c),some (.int d),some (.obj f),none,none,none,none,none,none,none,none]
section
variable{cx:Cx}(T:Prog cx){m:Nat}{σ0 σ:H}{w o s f:Addr}{fs:List Dfr}{out:List Op}{stk:List Int}{B:Nat}{c d:Int}{q:QS}{x:XS}
include T
theorem t_op(hm:6<=m)(G:GI σ0 σ w o s f fs out stk B)(hf:fs≠ [])(hB:B<=400)(hQ:∀ρ σ' s' out' stk',GI σ0 σ' w o s' f fs out' stk' (B+8)->q .next ρ σ'):blk (CTK cx m) tuA (rhoT w f c d) σ q x:=by
 have lmt:∀{k:Nat},k<=2000->k<=lim:=λhk=>aC hk (by decide)
 have i66:kR 66:=by unfold kR;decide
 unfold tuA rhoT;walk_at "D";rw[kL d (by decide:(0:Int)<=66)]
 refine⟨by decide,Bu T (fv hm rfl) (bF _ (by decide)) (bA _ (by decide)) λop nm t p hop=>?_⟩
 walk_at "D";refine Ji T (fv hm rfl) λσ1 x1=>?_
 have G1:=G.ext x1;rw[show lopV op=.tup [.str nm.str,.int t,.int p] by unfold lopV;rw[hop]]
 refine⟨rfl,?_⟩;walk_at "D";refine e03 (jY hop) λht hp z1z=>?_
 have k3:K3 (kindOf t):=by rcases ht with rfl|rfl;exact .inl rfl;exact .inr (.inl rfl)
 walk_at "D";refine ksel ht (jS (lmt (nB rfl)) λc1 hc1=>?_)
 have G2:=G1.ext (Ext.upd (o:=.list [.int (kindOf t)]) hc1)
 have go:∀{σ2:H} {v:Addr} {tk:List Int},GI σ0 σ2 w o s f fs out stk B->σ2 v=some (.list (tk.map .int))->v≠w/\v≠o/\v≠s->(∀k∈tk,K3 k)->tk.length<=3->Eff [op] tk.reverse [kindOf p]->
  blk (CTK cx m) (iss [(.expr (.call (.val (.raw (.ref 569))) (ies [(.loc 0),(.tup (ies [(.loc 4)])),(.loc 8),(.lst (ies [(.ite (.cmp (.loc 7) .Eq (.val (.int 32))) (.neg (.val (.int 1))) (.neg (.val (.int 2))))])),(.bin .FloorDiv (.loc 2) (.val (.int 66)))])))]) [some (.obj w),some (.int c),some (.int d),some (.obj f),some (.int op),some (.str nm.str),some (.int t),some (.int p),some (.obj v),none,none,none] σ2 q x:=λ{σ2 v tk} G2 h1 h2 h3 h4 h5=>by
  walk_at "D";refine⟨lmt (nB rfl),ksel hp (jS (lmt (nB rfl)) λc1 hc1=>⟨by decide,i66,?_⟩)⟩
  have x2:Ext σ2 (upd σ2 c1 (.list [V.int (kindOf p)])):=.upd hc1;exact Li T (op:= [op]) (tk:=tk) (gv:= [kindOf p]) hm (G2.ext x2) hf hB (x2 _ _ h1) (jP _ _ _) h2 (G2.nots hc1) h3 h4 (nB rfl) (λS=>St1.of h5 S) λσ' s' out' stk' g=>nx1 (bk0 (hQ _ _ _ _ _ (g.more (by lia))))
 refine sA (l:= [Nm.eqz,.clz,.ctz,.popcnt,.wrap,.wide,.sp8,.sp16,.sp32]) ?_;rw[Af]
 induction hs:nm.single with
 |true=>
  walk_at "D";refine om_l (jP ..) ?_;refine⟨by decide,by decide,jS (lmt (nB rfl)) λc2 hc2=>nx1 (go (tk:= [kindOf t]) (G2.ext (.upd hc2)) (jP _ _ _) (G2.nots hc2) (λk hk=>aK.mp hk▸k3) (nB rfl) (.un hop hs))⟩
 |false=>
  walk_at "D";refine om_l (jP ..) ?_;refine⟨by decide,by decide,jS (lmt (nB rfl)) λc2 hc2=>nx1 (go (tk:= [kindOf t,kindOf t]) (G2.ext (.upd hc2)) (jP _ _ _) (G2.nots hc2) (λk hk=>(aJ.mp hk).elim (λe=>e▸k3) λhk=>aK.mp hk▸k3) (nB rfl) (.bin hop hs))⟩
end
section
variable{cx:Cx}(T:Prog cx){m:Nat}{σ0 σ:H}{w o s f:Addr}{fs:List Dfr}{out:List Op}{stk:List Int}{B:Nat}{c d:Int}{q:QS}{x:XS}
include T
theorem t_sel(hm:6<=m)(G:GI σ0 σ w o s f fs out stk B)(hf:fs≠ [])(hB:B<=400)(hQ:∀ρ σ' s' out' stk',GI σ0 σ' w o s' f fs out' stk' (B+8)->q .next ρ σ'):blk (CTK cx m) tuB (rhoT w f c d) σ q x:=by
 have lmt:∀{k:Nat},k<=2000->k<=lim:=λhk=>aC hk (by decide)
 have i3:kR 3:=by unfold kR;decide
 have i6:kR 6:=by unfold kR;decide
 unfold tuB rhoT;walk_at "D";rw[kL d (by decide:(0:Int)<=3)]
 refine⟨lmt (nB rfl),by decide,lmt (nB rfl),qA (l:=([-1,-2,-16]:List Int).map V.int) (bF d (by decide)) (bA d (by decide)) (lmt (nB rfl)) (qH λk hk=>?_)⟩
 have hk:K3 k:=by unfold K3;simpa using hk
 have sel:∀{op:Op},Eff op [-1,k,k] [k]->nx (CTK cx m) (iss [(.expr (.call (.val (.raw (.ref 569))) (ies [(.loc 0),(.loc 10),(.lst (ies [(.loc 9),(.loc 9),(.neg (.val (.int 1)))])),(.lst (ies [(.loc 9)])),(.bin .FloorDiv (.loc 2) (.val (.int 6)))])))]) q x .next [some (.obj w),some (.int c),some (.int d),some (.obj f),none,none,none,none,none,some (.int k),some (tupO op),none] σ:=λ{op} he=>by
  walk_at "D";refine jS (lmt (nB rfl)) λc1 hc1=>jS (lmt (nB rfl)) λc2 hc2=>⟨by decide,i6,?_⟩
  have x1:Ext σ (upd σ c1 (.list [V.int k,V.int k,V.int (-1)])):=.upd hc1;have G1:=G.ext x1;have x2:Ext (upd σ c1 (.list [V.int k,V.int k,V.int (-1)])) (upd (upd σ c1 (.list [V.int k,V.int k,V.int (-1)])) c2 (.list [V.int k])):=.upd hc2;exact Li T (op:=op) (tk:= [k,k,-1]) (gv:= [k]) hm (G1.ext x2) hf hB (x2 _ _ (jP _ _ _)) (jP _ _ _) (G.nots hc1) (G1.nots hc2) (by simp[hk];exact .inl rfl) (nB rfl) (nB rfl) (λS=>St1.of he S) λσ' s' out' stk' g=>nx1 (bk0 (hQ _ _ _ _ _ (g.more (by lia))))
 have k28:=sel (op:= [28,k]) .selk;walk_at "D";refine br (λJ=>⟨lmt (nB rfl),k28⟩) λJ=>⟨by decide,i3,by decide,br (λJ=>⟨lmt (nB rfl),k28⟩) λJ=>⟨lmt (nB rfl),sel (op:= [27]) .sel⟩⟩
theorem Dx(hm:6<=m)(G:GI σ0 σ w o s f fs out stk B)(hf:fs≠ [])(hB:B<=400)(hQ:∀ρ σ' s' out' stk',GI σ0 σ' w o s' f fs out' stk' (B+8)->q .next ρ σ'):blk (CTK cx m) tuG (rhoT w f c d) σ q x:=by
 have lmt:∀{k:Nat},k<=2000->k<=lim:=λhk=>aC hk (by decide)
 have i5:kR 5:=by unfold kR;decide
 unfold tuG rhoT;walk_at "D";refine⟨lmt (nB rfl),?_⟩;refine jS (lmt (nB rfl)) λa0 ha0=>?_
 have x0:Ext σ (upd σ a0 (.list [V.int (-1)])):=.upd ha0;have e0:=jP σ a0 (.list [V.int (-1)]);have k0:=G.nots ha0;generalize upd σ a0 (.list [V.int (-1)])=s0 at*;have G0:=G.ext x0;refine jS (lmt (nB rfl)) λa1 ha1=>?_
 have x1:Ext s0 (upd s0 a1 (.list [])):=.upd ha1;have e1:=jP s0 a1 (.list []);have k1:=G0.nots ha1;generalize upd s0 a1 (.list [])=s1 at*;have G1:=G0.ext x1;refine⟨by decide,by decide,?_⟩
 refine jS (lmt (nB rfl)) λa2 ha2=>?_
 have x2:Ext s1 (upd s1 a2 (.list [V.int (-2)])):=.upd ha2;have e2:=jP s1 a2 (.list [V.int (-2)]);have k2:=G1.nots ha2;generalize upd s1 a2 (.list [V.int (-2)])=s2 at*;have G2:=G1.ext x2;refine jS (lmt (nB rfl)) λa3 ha3=>?_
 have x3:Ext s2 (upd s2 a3 (.list [V.int (-2)])):=.upd ha3;have e3:=jP s2 a3 (.list [V.int (-2)]);have k3:=G2.nots ha3;generalize upd s2 a3 (.list [V.int (-2)])=s3 at*;have G3:=G2.ext x3;refine⟨by decide,by decide,?_⟩
 refine jS (lmt (nB rfl)) λa4 ha4=>?_
 have x4:Ext s3 (upd s3 a4 (.list [V.int (-1)])):=.upd ha4;have e4:=jP s3 a4 (.list [V.int (-1)]);have k4:=G3.nots ha4;generalize upd s3 a4 (.list [V.int (-1)])=s4 at*;have G4:=G3.ext x4;refine jS (lmt (nB rfl)) λa5 ha5=>?_
 have x5:Ext s4 (upd s4 a5 (.list [])):=.upd ha5;have e5:=jP s4 a5 (.list []);have k5:=G4.nots ha5;generalize upd s4 a5 (.list [])=s5 at*;have G5:=G4.ext x5;refine⟨by decide,by decide,?_⟩
 refine jS (lmt (nB rfl)) λa6 ha6=>?_
 have x6:Ext s5 (upd s5 a6 (.list [])):=.upd ha6;have e6:=jP s5 a6 (.list []);have k6:=G5.nots ha6;generalize upd s5 a6 (.list [])=s6 at*;have G6:=G5.ext x6;refine jS (lmt (nB rfl)) λa7 ha7=>?_
 have x7:Ext s6 (upd s6 a7 (.list [])):=.upd ha7;have e7:=jP s6 a7 (.list []);have k7:=G6.nots ha7;generalize upd s6 a7 (.list [])=s7 at*;have G7:=G6.ext x7;refine⟨by decide,by decide,?_⟩
 refine jS (lmt (nB rfl)) λa8 ha8=>?_
 have x8:Ext s7 (upd s7 a8 (.list [])):=.upd ha8;have e8:=jP s7 a8 (.list []);have k8:=G7.nots ha8;generalize upd s7 a8 (.list [])=s8 at*;have G8:=G7.ext x8;refine jS (lmt (nB rfl)) λa9 ha9=>?_
 have x9:Ext s8 (upd s8 a9 (.list [V.int (-1)])):=.upd ha9;have e9:=jP s8 a9 (.list [V.int (-1)]);have k9:=G8.nots ha9;generalize upd s8 a9 (.list [V.int (-1)])=s9 at*;have G9:=G8.ext x9;refine⟨by decide,by decide,by decide,by decide,?_⟩
 have y0:=x9 _ _ (x8 _ _ (x7 _ _ (x6 _ _ (x5 _ _ (x4 _ _ (x3 _ _ (x2 _ _ (x1 _ _ (e0)))))))));have y1:=x9 _ _ (x8 _ _ (x7 _ _ (x6 _ _ (x5 _ _ (x4 _ _ (x3 _ _ (x2 _ _ (e1))))))));have y2:=x9 _ _ (x8 _ _ (x7 _ _ (x6 _ _ (x5 _ _ (x4 _ _ (x3 _ _ (e2)))))));have y3:=x9 _ _ (x8 _ _ (x7 _ _ (x6 _ _ (x5 _ _ (x4 _ _ (e3))))));have y4:=x9 _ _ (x8 _ _ (x7 _ _ (x6 _ _ (x5 _ _ (e4)))));have y5:=x9 _ _ (x8 _ _ (x7 _ _ (x6 _ _ (e5))));have y6:=x9 _ _ (x8 _ _ (x7 _ _ (e6)));have y7:=x9 _ _ (x8 _ _ (e7));have y8:=x9 _ _ (e8);rw[kL d (by decide:(0:Int)<=5)]
 have fin:∀{op:Op} {t g:Addr} {tk gv:List Int},s9 t=some (.list (tk.map .int))->s9 g=some (.list (gv.map .int))->(t≠w/\t≠o/\t≠s)->(g≠w/\g≠o/\g≠s)->(∀k∈tk,K3 k)->tk.length<=3->gv.length<=1->Eff op tk.reverse gv.reverse->
  [tupO op,V.obj t,V.obj g].length=3/\nx (CTK cx m) (iss [(.expr (.call (.val (.raw (.ref 569))) (ies [(.loc 0),(.loc 10),(.loc 6),(.loc 11),(.bin .FloorDiv (.loc 2) (.val (.int 5)))])))]) q x .next [some (.obj w),some (.int c),some (.int d),some (.obj f),none,none,some (.obj t),none,none,none,some (tupO op),some (.obj g)] s9:=λ{op t g tk gv} h1 h2 h3 h4 h5 h6 h7 h8=>⟨rfl,by
  walk_at "D";exact⟨by decide,i5,Li T (op:=op) (tk:=tk) (gv:=gv) hm G9 hf hB h1 h2 h3 h4 h5 h6 h7 (λS=>St1.of h8 S) λσ' s' out' stk' g=>nx1 (bk0 (hQ _ _ _ _ _ (g.more (by lia))))⟩⟩
 have o1:∀{z:Int},K3 z->∀k∈ [z],K3 k:=λh k hk=>aK.mp hk▸h
 have l1:1<=3:=by decide
 exact qA (bF d (by decide)) (bA d (by decide)) (lmt (nB rfl)) (bC.mpr ⟨fin (op:= [33,0]) (tk:= [-1]) (gv:= []) y0 y1 k0 k1 (o1 (.inl rfl)) l1 (aP _) .lset,bC.mpr ⟨fin (op:= [34,1]) (tk:= [-2]) (gv:= [-2]) y2 y3 k2 k3 (o1 (.inr (.inl rfl))) l1 (aR _) .ltee,
  bC.mpr ⟨fin (op:= [26]) (tk:= [-1]) (gv:= []) y4 y5 k4 k5 (o1 (.inl rfl)) l1 (aP _) .drop,bC.mpr ⟨fin (op:= [1]) (tk:= []) (gv:= []) y6 y7 k6 k7 (by intros;contradiction) (aP _) (aP _) .nop,bC.mpr ⟨fin (op:= [65,0]) (tk:= []) (gv:= [-1]) y8 e9 k8 k9 (by intros;contradiction) (aP _) (aR _) (.c32 (yT (.inl rfl) (by decide))),by intros;contradiction⟩⟩⟩⟩⟩)
end
noncomputable def tuP:ISs:=(iss [(.expr (.meth (.loc 3) .append (ies [(.lst (ies [(.loc 4),(.loc 11),(.sub (.loc 0) (.val (.str (ofString "stack"))))]))]))),
 (.setSub (.loc 0) (.val (.str (ofString "stack"))) (.lst (ies [])))])
noncomputable def tuO:ISs:=.cons (.expr (.call (.val (.raw (.ref 569))) (ies [(.loc 0),(.tup (ies [(.loc 4),(.ite (.cmp (.loc 11) .NotEq (.lst (ies []))) (.neg (.val (.int 1))) (.neg (.val (.int 64))))])),(.ite (.cmp (.loc 4) .Eq (.val (.int 4))) (.lst (ies [(.neg (.val (.int 1)))])) (.lst (ies []))),(.lst (ies [])),(.bin .FloorDiv (.loc 2) (.val (.int 6)))]))) tuP
theorem Zw:tuD=.cons (.assignT [(.nm 4),(.nm 11)] (.tup (ies [(.ite (.cmp (.loc 1) .Eq (.val (.int 11))) (.val (.int 4)) (.bin .Add (.val (.int 2)) (.bin .Mod (.bin .FloorDiv (.loc 2) (.val (.int 3))) (.val (.int 2))))),(.ite (.cmp (.bin .Mod (.loc 2) (.val (.int 3))) .Eq (.val (.int 2))) (.lst (ies [(.neg (.val (.int 1)))])) (.lst (ies [])))]))) tuO:=rfl
section
variable{cx:Cx}(T:Prog cx){m:Nat}{σ0 σ:H}{w o s f:Addr}{fs:List Dfr}{out:List Op}{stk:List Int}{B:Nat}{c d:Int}{q:QS}{x:XS}
theorem Er{σ1:H}{k kk:Int}{v s1:Addr}{gs tk R:List Int}{out1:List Op}(hf:fs≠ [])(hl:fs.length<5)(hB:B<=400)(hW:WD σ0 σ1 w o s1 f fs (out1++ [[k,kk]]) R)(hc:CxI fs out1 (tk.reverse++R.reverse))(htk:tk=if k=4 then [-1] else [])(hp:pot out1 R fs<=B+1)(hgv:∀r∈fs,r.gs= []∨r.gs= [-1])
 (hv:σ1 v=some (.list (gs.map .int)))(hvo:Out σ0 w o s1 f fs v)(hg:gs= []∨gs= [-1])(hk:k=2∨k=3∨k=4)
 (hQ:∀ρ σ' s' fs' out' stk',fs'≠ []->GI σ0 σ' w o s' f fs' out' stk' (B+8)->q .next ρ σ'):blk (CTK cx m) tuP [some (.obj w),some (.int c),some (.int d),some (.obj f),some (.int k),none,none,none,none,none,none,some (.obj v)] σ1 q x:=by
 have lmt:∀{k:Nat},k<=2000->k<=lim:=λhk=>aC hk (by decide)
 unfold tuP;walk_at "D";rw[hW.hf,jW,jR,hW.omS];refine⟨trivial,jS (lmt (nB rfl)) λa ha=>?_⟩
 have o1:=hW.fresh ha;have h1:=hW.ext (σ':=upd σ1 a (.list [.int k,.obj v,.obj s1])) λb hb=>jQ _ _ λe=>hb (by rw[e];exact ha)
 have av:a≠v:=λe=>by rw[e,hv] at ha;injection ha
 have as1:a≠s1:=o1.2.2.2.1;have hv1:(upd σ1 a (.list [.int k,.obj v,.obj s1])) v=some (.list (gs.map .int)):=by rw[jQ _ _ av.symm];exact hv
 have ka:=jP σ1 a (.list [.int k,.obj v,.obj s1]);generalize upd σ1 a (.list [.int k,.obj v,.obj s1])=σ2 at*;refine om_l h1.hf ?_;refine⟨lmt (by rw[aW,aB];exact nT hl rfl),?_⟩
 walk_at "D";refine jS (aP _) λn hn=>?_
 have nf:n≠f:=λe=>by rw[e,jP] at hn;injection hn
 rw[jQ _ _ nf] at hn;have o2:=h1.fresh hn;have na:n≠a:=λe=>by rw[e,ka] at hn;injection hn
 have nv:n≠v:=λe=>by rw[e,hv1] at hn;injection hn
 have wf:w≠f:=by
  refine e15 h1.tg λτ t1 t2 t3 t4 t5=>?_
  exact λe=>by rw[e] at t1;lia
 have hw1:(upd (upd σ2 f (.list ((fs.map λr=>V.obj r.a).reverse++ [.obj a]))) n (.list [])) w=some (.sd [(ofString "out",.obj o),(ofString "stack",.obj s1),(ofString "frames",.obj f)]):=by
  rw[jQ _ _ o2.2.1.symm,jQ _ _ wf];exact h1.hw
 refine pO hw1 (nx1 (bk0 (hQ _ _ n (⟨a,v,s1,k,gs,R⟩::fs) (out1++ [[k,kk]]) [] (λh=>by injection h) ⟨?_,λJ=>?_,by intros;contradiction,λr hr=>?_,?_⟩)))
 ·refine h1.push (r:=⟨a,v,s1,k,gs,R⟩) o2 o1 hvo rfl rfl na nv av hv1 (jP _ _ _) ?_ ?_ ?_ λb b1 b2 b3 b4=>?_
  ·rw[jQ _ _ wf.symm,jQ _ _ nf.symm,jP];simp
  ·rw[jQ _ _ o2.2.1,jP]
  ·show upd _ _ _ a=_
   rw[jQ _ _ o1.2.1,jQ _ _ na.symm,jQ _ _ o1.2.2.2.2.1];exact ka
  ·rw[jQ _ _ b1,jQ _ _ b3,jQ _ _ b2]
 ·refine hc.open_ (r:=⟨a,v,s1,k,gs,R⟩) (k:=kk) hk (λe=>?_) ?_ (by exact Nat.le_of_lt_succ hl)
  ·have e:k=4:=e
   rw[htk,if_pos e];simp[kP]
  ·show R.reverse=_
   rw[htk];show R.reverse=List.drop (if k=4 then 1 else 0) _
   split<;>simp
 ·rcases aJ.mp hr with rfl|hr
  ·exact hg
  ·exact hgv r hr
 ·have e:=tB out1 (out1++ [[k,kk]]) R [] fs
  rw[rY];simp at e⊢;lia
include T
theorem Dr{k:Int}{v:Addr}{gs:List Int}(hm:6<=m)(G:GI σ0 σ w o s f fs out stk B)(hf:fs≠ [])(hl:fs.length<5)(hB:B<=400)(hv:σ v=some (.list (gs.map .int)))(hvo:Out σ0 w o s f fs v)(hg:gs= []∨gs= [-1])(hk:k=2∨k=3∨k=4)
 (hQ:∀ρ σ' s' fs' out' stk',fs'≠ []->GI σ0 σ' w o s' f fs' out' stk' (B+8)->q .next ρ σ'):blk (CTK cx m) tuO [some (.obj w),some (.int c),some (.int d),some (.obj f),some (.int k),none,none,none,none,none,none,some (.obj v)] σ q x:=by
 have lmt:∀{k:Nat},k<=2000->k<=lim:=λhk=>aC hk (by decide)
 have i6:kR 6:=by unfold kR;decide
 unfold tuO;walk_at "D";refine jS (lmt (nB rfl)) λc0 hc0=>?_
 have x0:Ext σ (upd σ c0 (.list [])):=.upd hc0;have k0:=jP σ c0 (.list []);generalize upd σ c0 (.list [])=σ1 at*;have G1:=G.ext x0;refine lU (x0 _ _ hv) ?_;refine lU k0 ?_;rw[show([]:List V)=([]:List Int).map .int from rfl,mH,jR]
 have go:∀{kk:Int} {tk:List Int},tk=(if k=4 then [-1] else [])->newL σ1 (tk.map V.int) λv1 σ=>newL σ [] λv2 σ=>(6:Int)≠0/\kR 6/\CTK cx m 569 [V.obj w,V.tup [V.int k,V.int kk],v1,v2,V.int (d.fdiv 6)] σ (λJ σ=>nx (CTK cx m) tuP q x .next [some (.obj w),some (.int c),some (.int d),some (.obj f),some (.int k),none,none,none,none,none,none,some (.obj v)] σ) (x [some (.obj w),some (.int c),some (.int d),some (.obj f),some (.int k),none,none,none,none,none,none,some (.obj v)]):=λ{kk tk} htk=>by
  have htl:tk.length<=1/\∀k∈tk,K3 k:=by
   rw[htk];split
   ·exact⟨aR _,λk hk=>aK.mp hk▸ .inl rfl⟩
   ·exact⟨aP _,by intros;contradiction⟩
  refine jS (by rw[aB];exact lmt (aC htl.1 (by decide))) λc1 hc1=>jS (aP _) λc2 hc2=>⟨by decide,i6,?_⟩
  have x1:Ext σ1 (upd σ1 c1 (.list (tk.map V.int))):=.upd hc1;have G2:=G1.ext x1;have x2:Ext (upd σ1 c1 (.list (tk.map V.int))) (upd (upd σ1 c1 (.list (tk.map V.int))) c2 (.list [])):=.upd hc2;have xa:=(x0.trans x1).trans x2;refine Ki T (op:= [k,kk]) (tk:=tk) (gv:= []) hm (G2.ext x2) hf hB (x2 _ _ (jP _ _ _)) (jP _ _ _) (G1.nots hc1) (G2.nots hc2) htl.2 (aC htl.1 (by decide)) (aP _) λσ' s' out1 R hW hc hp off hs=>?_
  refine e06 hvo λv0 v1 v2 v3 v4 v5=>?_
  have hva:=xa _ _ hv;have hv':=(off v v1 v2 v3 (by rw[hva];exact λh=>by injection h)).trans hva
  rw[bY] at hW;exact nx1 (Er hf hl hB hW hc htk (aC hp (gF htl.1 B)) G.gv hv' ⟨v0,v1,v2,(λe=>by rw[←e,hva] at hs;injection hs),v4,v5⟩ hg hk hQ)
 refine brn (λJ=>⟨lmt (nB rfl),br (λh4=>go (tk:= [-1]) (by rw[if_pos h4])) λh4=>go (tk:= []) (by rw[if_neg h4])⟩) λJ=>⟨lmt (nB rfl),br (λh4=>go (tk:= [-1]) (by rw[if_pos h4])) λh4=>go (tk:= []) (by rw[if_neg h4])⟩
end
section
variable{cx:Cx}(T:Prog cx){m:Nat}{σ0 σ:H}{w o s f:Addr}{fs:List Dfr}{out:List Op}{stk:List Int}{B:Nat}{c d:Int}{q:QS}{x:XS}
include T
theorem Ex(hm:6<=m)(G:GI σ0 σ w o s f fs out stk B)(hf:fs≠ [])(hl:fs.length<5)(hB:B<=400)(hQ:∀ρ σ' s' fs' out' stk',fs'≠ []->GI σ0 σ' w o s' f fs' out' stk' (B+8)->q .next ρ σ'):blk (CTK cx m) tuD (rhoT w f c d) σ q x:=by
 have i3:kR 3:=by unfold kR;decide
 rw[Zw];unfold rhoT;walk_at "D";have l2:2<=lim:=ll rfl
 have go:∀{k:Int} {gs:List Int},(k=2∨k=3∨k=4)->(gs= []∨gs= [-1])->newL σ (gs.map V.int) λv σ=>2<=lim/\2=2/\nx (CTK cx m) tuO q x .next [some (.obj w),some (.int c),some (.int d),some (.obj f),some (.int k),none,none,none,none,none,none,some v] σ:=λ{k gs} hk hg=>by
  refine jS (by rcases hg with rfl|rfl<;>exact ll rfl) λv hv=>⟨l2,rfl,?_⟩
  have h0:=G.wd.fresh hv;exact nx1 (Dr T hm (G.ext (.upd hv)) hf hl hB (jP _ _ _) h0 hg hk hQ)
 refine br (λJ=>⟨by decide,br (λJ=>go (gs:= [-1]) (.inr (.inr rfl)) (.inr rfl)) λJ=>go (gs:= []) (.inr (.inr rfl)) (.inl rfl)⟩) λJ=>?_
 have m1:=bF (d.fdiv 3) (show(2:Int)≠0 by decide)
 have m2:=bA (d.fdiv 3) (show(0:Int)<2 by decide)
 have hk:2+(d.fdiv 3).fmod 2=2∨2+(d.fdiv 3).fmod 2=3∨2+(d.fdiv 3).fmod 2=4:=by
  rw[kL _ (by decide:(0:Int)<=2)];lia
 exact⟨by decide,i3,by decide,by decide,br (λJ=>go (gs:= [-1]) hk (.inr rfl)) λJ=>go (gs:= []) hk (.inl rfl)⟩
theorem Yz{n:Nat}{Q:QV}{X:XH}(hn:12<=n)(G:GI σ0 σ w o s f fs out stk B)(hf:fs≠ [])(hB:B<=380)(hc:0<=c/\c<16)(hQ:∀σ' s' fs' out' stk',fs'≠ []->GI σ0 σ' w o s' f fs' out' stk' (B+8)->Q .none σ'):CTK cx n 600 [.obj w,.int c,.int d] σ Q X:=by
 refine ctl T (Fe T) hn rfl rfl rfl ?_;rw[tu_eq];have B4:B<=400:=aC hB (by decide)
 have B39:B<=390:=aC hB (by decide)
 walk_at "D";rw[G.wd.omF];have hm:=G.many;have last:fs.length<=5:=hm;have hlim:fs.length<=lim:=kE (aC last (by decide))
 have hq:∀{ρ:Rho} {σ' s' fs' out' stk'},fs'≠ []->GI σ0 σ' w o s' f fs' out' stk' (B+8)->nx (CTK cx (n-2)) .nil (rq Q) (λJ σ=>X σ) .next ρ σ':=λhf g=>nx1 (bk3 (rq2 (hQ _ _ _ _ _ hf g)))
 have go4:∀{q:QS} {x:XS},(∀ρ σ',nx (CTK cx (n-2)) .nil (rq Q) (λJ σ=>X σ) .next ρ σ'->q .next ρ σ')->blk (CTK cx (n-2)) tuG (rhoT w f c d) σ q x:=λh=>Dx T (fu hn rfl) G hf B4 λρ σ' s' out' stk' g=>h _ _ (hq hf g)
 walk_at "D";refine br (λh7=>?_) λh7=>?_
 ·exact t_op T (c:=c) (d:=d) (fu hn rfl) G hf B4 λρ σ' s' out' stk' g=>hq hf g
 walk_at "D";refine br (λh7'=>?_) λh7'=>?_
 ·exact t_sel T (c:=c) (d:=d) (fu hn rfl) G hf B4 λρ σ' s' out' stk' g=>nx1 (bk0 (hq hf g))
 walk_at "D";refine oL (λh8 h11=>?_) λh11=>?_
 ·walk_at "D"
  refine Up T (fu hn rfl) G hf B4 (by lia) λσ' s' out' stk' g=>?_
  walk_at "N";exact hQ _ _ _ _ _ hf (g.more (by lia))
 walk_at "D"
 obtain⟨r,fs,rfl⟩:∃r l,fs=r::l:=by
  induction fs using List.casesOn with
  |nil=>exact absurd rfl hf |cons r l=>exact⟨r,l,rfl⟩
 refine e03 (G.wd.hr r aE) λe1 e2 e3=>?_
 have zf:fs.length<=100:=aC (dE last) (by decide)
 have zl:(((r::fs).map λr=>V.obj r.a).reverse).length<=lim:=by rw[aW,aB];exact hlim
 rw[G.wd.hf,kA,jR,aW,aB]
 have rest:blk (CTK cx (n-2)) (iss [(.iff (.and (.cmp (.loc 1) .Eq (.val (.int 13))) (.cmp (.sub (.sub (.loc 3) (.neg (.val (.int 1)))) (.val (.int 0))) .Eq (.val (.int 4)))) (iss [(.expr (.call (.val (.raw (.ref 581))) (ies [(.loc 0),(.val (.int 5)),(.loc 2)])))]) (iss [(.iff (.and (.cmp (.loc 1) .Eq (.val (.int 14))) (.cmp (.bi .len (ies [(.loc 3)])) .Gt (.val (.int 1)))) (iss [(.expr (.call (.val (.raw (.ref 588))) (ies [(.loc 0),(.loc 2)])))]) tuG)]))]) (rhoT w f c d) σ (nx (CTK cx (n-2)) (iss []) (nx (CTK cx (n-2)) (iss []) (nx (CTK cx (n-2)) (iss []) (nx (CTK cx (n-2)) .nil (rq Q) λJ σ=>X σ) λJ σ=>X σ) λJ σ=>X σ) λJ σ=>X σ) (λJ σ=>X σ):=by
  unfold rhoT
  have r2:blk (CTK cx (n-2)) (iss [(.iff (.and (.cmp (.loc 1) .Eq (.val (.int 14))) (.cmp (.bi .len (ies [(.loc 3)])) .Gt (.val (.int 1)))) (iss [(.expr (.call (.val (.raw (.ref 588))) (ies [(.loc 0),(.loc 2)])))]) tuG)]) (rhoT w f c d) σ (nx (CTK cx (n-2)) (iss []) (nx (CTK cx (n-2)) (iss []) (nx (CTK cx (n-2)) (iss []) (nx (CTK cx (n-2)) (iss []) (nx (CTK cx (n-2)) .nil (rq Q) λJ σ=>X σ) λJ σ=>X σ) λJ σ=>X σ) λJ σ=>X σ) λJ σ=>X σ) (λJ σ=>X σ):=by
   unfold rhoT;walk_at "D";refine br (λe14=>?_) λe14=>go4 λρ σ' h=>nx1 (bk0 (nx1 (bk0 (nx1 (bk0 (nx1 (bk0 (nx1 (bk0 h)))))))))
   refine lU G.wd.hf ?_;rw[aW,aB];refine⟨hlim,br (λhl=>?_) λhl=>go4 λρ σ' h=>nx1 (bk0 (nx1 (bk0 (nx1 (bk0 (nx1 (bk0 (nx1 (bk0 h)))))))))⟩
   walk_at "D";refine Qv T (fu hn rfl) G B39 λσ' s' out' stk' g=>?_
   walk_at "N";exact hQ _ _ _ _ _ (λe=>by rw[e] at hl;exact absurd hl (show¬(1:Int)<1 by decide)) (g.more (by lia))
  walk_at "D";refine br (λe13=>?_) λe13=>r2
  rw[kC G.wd.hf zl (uR fs r zf),kC e1 (ll rfl) (ix0 _ _)];refine br (λh4=>?_) λh4=>r2
  walk_at "D";refine Ii T (fu hn rfl) G B4 h4 λσ' s' out' g=>?_
  walk_at "N";exact hQ _ _ _ _ _ (List.cons_ne_nil _ _) (g.more (by lia))
 refine br (λh13=>⟨hlim,br (λhl=>?_) λhl=>rest⟩) λh13=>rest
 exact Ex T (c:=c) (d:=d) (fu hn rfl) G hf (Int.ofNat_lt.mp hl) B4 λρ σ' s' fs' out' stk' hf' g=>nx1 (bk0 (nx1 (bk0 (nx1 (bk0 (hq hf' g))))))
end
theorem Bp{op:Op}{t g:List Int}(h:Eff op t g):lJ op:=by
 cases h with
 |un h=>have:=(jY h).2.2.2.2;exact lW (by exact nG this.1 rfl) (by exact nG this.1 rfl) (by exact nG this.1 rfl) (by exact nG this.1 rfl) (by simp)
 |bin h=>have:=(jY h).2.2.2.2;exact lW (by exact nG this.1 rfl) (by exact nG this.1 rfl) (by exact nG this.1 rfl) (by exact nG this.1 rfl) (by simp)
 |c32 h=>exact qC (b:=32) (.inl rfl) h |c64 h=>exact qC (b:=64) (.inr rfl) h |put h h1 h2=>
  have:=Bc h;exact⟨h1,by exact nT h2 rfl,λe=>by lia,λe=>by lia⟩
 |brif=>exact⟨(λh=>by injection h),by simp,λe=>by simp[code] at e,λJ=>by simp⟩
 |_=>exact lW (by decide) (by decide) (by decide) (by decide) (by simp)
theorem Hr{op:Op}{S S':List Int}(h:St1 op S S'):lJ op:=by
 cases h with
 |eff e _=>exact Bp e |br=>exact lW (by decide) (by decide) (by decide) (by decide) (by simp)
 |stop=>exact lW (by decide) (by decide) (by decide) (by decide) (by simp)
 |tab _=>exact⟨(λh=>by injection h),by simp,λe=>by simp[code] at e,λJ=>by simp⟩
theorem sM:lJ [11]:=lW (by decide) (by decide) (by decide) (by decide) (by simp)
mutual
theorem Ty.good:∀{t:T} {S S':List Int},Ty t S S'->∀op∈t.fl,lJ op
 |_,_,_,.leaf h=>λop ho=>by
  rw[T.fl] at ho;rw[aK.mp ho];exact Hr h
 |_,_,_,.blk h z=>λop ho=>by
  rw[T.fl] at ho;rcases aJ.mp ho with rfl|ho
  ·exact lW (by lia) (by lia) (by lia) (by lia) (by simp)
  ·rcases bB.mp ho with ho|ho
   ·exact Tys.good z op ho
   ·rw[aK.mp ho];exact sM
 |_,_,_,.if1 h z=>λop ho=>by
  rw[T.fl] at ho;rcases aJ.mp ho with rfl|ho
  ·exact lW (by decide) (by decide) (by decide) (by decide) (by simp)
  ·rcases bB.mp ho with ho|ho
   ·exact Tys.good z op ho
   ·rw[aK.mp ho];exact sM
 |_,_,_,.ife h z z'=>λop ho=>by
  rw[T.fl] at ho;rcases aJ.mp ho with rfl|ho
  ·exact lW (by decide) (by decide) (by decide) (by decide) (by simp)
  ·rcases bB.mp ho with ho|ho
   ·exact Tys.good z op ho
   ·rcases aJ.mp ho with rfl|ho
    ·exact lW (by decide) (by decide) (by decide) (by decide) (by simp)
    ·rcases bB.mp ho with ho|ho
     ·exact Tys.good z' op ho
     ·rw[aK.mp ho];exact sM
theorem Tys.good:∀{t:List T} {S S':List Int},Tys t S S'->∀op∈fls t,lJ op
 |_,_,_,.nil=>λop ho=>by cases ho
 |_,_,_,.cons h z=>λop ho=>by
  rw[fls] at ho;rcases bB.mp ho with ho|ho
  ·exact Ty.good h op ho
  ·exact Tys.good z op ho
end
noncomputable def Al(P:Addr->Nat->O->Prop):List (Addr×Nat×O)->Prop
 | []=>True |p::r=>P p.1 p.2.1 p.2.2/\Al P r
theorem Al.imp{P R:Addr->Nat->O->Prop}(h:∀a i o,P a i o->R a i o):∀{l:List (Addr×Nat×O)},Al P l->Al R l
 | [],_=>trivial |_::_,⟨a,b⟩=>⟨h _ _ _ a,b.imp h⟩
noncomputable def Nu(σ s:H)(l:List (Addr×Nat×O)):Prop:=Ext σ s/\∃τ:Addr->Nat,Al (λb i o=>s b=some o/\σ b=none/\τ b=i) l
theorem Nu.add{σ s:H}{l:List (Addr×Nat×O)}(h:Nu σ s l){b:Addr}{o:O}(i:Nat)(hb:s b=none):Nu σ (upd s b o) ((b,i,o)::l):=by
 obtain⟨x,τ,h⟩:=h;refine⟨x.trans (.upd hb),λc=>if c=b then i else τ c,⟨jP _ _ _,x.ne hb,if_pos rfl⟩,h.imp λc j o' z=>?_⟩
 have ne:c≠b:=λe=>by rw[e,hb] at z;exact by have h:=z.1;contradiction
 exact⟨(jQ _ _ ne).trans z.1,z.2.1,(if_neg ne).trans z.2.2⟩
theorem WD.init{σ0 σ:H}{w o s f a g v:Addr}{out:List Op}(h:Nu σ0 σ [(w,0,.sd [(ofString "out",.obj o),(ofString "stack",.obj s),(ofString "frames",.obj f)]),(f,3,.list [.obj a]),(a,4,.list [.int 2,.obj g,.obj v]),(v,5,.list []),(g,5,.list [.int (-1)]),(s,2,.list []),(o,1,.list (out.map tupO))]):
 WD σ0 σ w o s f [⟨a,g,v,2,[-1],[]⟩] out []:=by
 obtain⟨x,τ,hw,hf,ha,hv,hg,hs,ho,_⟩:=h;have one:∀{P:Dfr->Prop},P ⟨a,g,v,2,[-1],[]⟩->∀r∈ [(⟨a,g,v,2,[-1],[]⟩:Dfr)],P r:=λh r m=>aK.mp m▸h
 exact⟨hw.1,ho.1,hs.1,hf.1,one ⟨ha.1,hg.1,hv.1⟩,⟨τ,hw.2.2,ho.2.2,hs.2.2,hf.2.2,one ⟨ha.2.2,hg.2.2,hv.2.2⟩⟩,aL.mpr ⟨(λh=>by cases h),List.nodup_nil⟩,λb h=>x.eq h,⟨hw.2.1,ho.2.1,hs.2.1,hf.2.1⟩,one ⟨ha.2.1,hg.2.1,hv.2.1⟩⟩
theorem GI.init{σ0 σ:H}{w o s f a g v:Addr}{x y c:Int}(h:WD σ0 σ w o s f [⟨a,g,v,2,[-1],[]⟩] [[65,x],[65,y],[c],[26]] [])(hx:InS x 32)(hy:InS y 32)(hc:109<=c/\c<113):GI σ0 σ w o s f [⟨a,g,v,2,[-1],[]⟩] [[65,x],[65,y],[c],[26]] [] 10:=by
 have ho:∃nm,opOf c=some (nm,32,32)/\nm.single=false:=by
  have:c=109∨c=110∨c=111∨c=112:=by lia
  rcases this with rfl|rfl|rfl|rfl
  ·exact⟨.div_s,by decide,rfl⟩
  ·exact⟨.div_u,by decide,rfl⟩
  ·exact⟨.rem_s,by decide,rfl⟩
  ·exact⟨.rem_u,by decide,rfl⟩
 refine e12 ho λnm ho hs=>?_
 refine⟨h,λJ=>?_,by intros;contradiction,by simp,by simp[pot]⟩
 have b1:Tys [.leaf [65,x],.leaf [65,y],.leaf [c],.leaf [26]] [] []:=
  .cons (.leaf (St1.of (.c32 hx) [])) (.cons (.leaf (St1.of (.c32 hy) [-1])) (.cons (.leaf (St1.of (.bin ho hs) [])) (.cons (.leaf (St1.of (.drop (k:=kindOf 32)) [])) .nil)))
 have:=CxI.base (r:=⟨a,g,v,2,[-1],[]⟩) rfl b1 (by simp[deps,T.dep])
 simpa [fls,T.fl] using this
noncomputable def laD:ISs:=(iss [(.assign 6 (.bi .list (ies [(.sub (.loc 3) (.val (.str (ofString "out"))))]))),
 (.assign 7 (.call (.val (.raw (.ref 485))) (ies [(.loc 6)]))),
 (.iff (.or (.cmp (.loc 7) .NotEq (.call (.val (.raw (.ref 555))) (ies [(.loc 6)]))) (.or (.cmp (.loc 6) .NotEq (.sub (.loc 3) (.val (.str (ofString "out"))))) (.cmp (.call (.val (.raw (.ref 485))) (ies [(.val .none)])) .IsNot (.val .none)))) (iss [(.ret (.val (.bool .false)))]) (iss [])),
 (.ret (.and (.cmp (.call (.val (.raw (.ref 485))) (ies [(.loc 7)])) .Eq (.loc 7)) (.not (.bi .any (ies [(.comp2 (.bi .isbool (ies [(.loc 9),(.val (.raw (.type "bool")))])) 8 (.of (.loc 7)) 9 (.of (.loc 8)))])))))])
noncomputable def laC:ISs:=.cons (.whl (.cmp (.sub (.loc 3) (.val (.str (ofString "frames")))) .NotEq (.lst (ies []))) (iss [(.expr (.call (.val (.raw (.ref 588))) (ies [(.loc 3),(.bin .Mod (.loc 1) (.val (.int 729)))])))])) laD
noncomputable def laB:ISs:=.cons (.for_ (.one 4) (.rng (.bi .max (ies [(.val (.int 10)),(.bi .min (ies [(.val (.int 14)),(.bin .Sub (.bi .len (ies [(.loc 0)])) (.val (.int 1)))]))]))) (iss [(.assign 5 (.ite (.cmp (.bin .Add (.loc 4) (.val (.int 1))) .Lt (.bi .len (ies [(.loc 0)]))) (.sub (.loc 0) (.bin .Add (.loc 4) (.val (.int 1)))) (.val (.int 0)))),
 (.expr (.call (.val (.raw (.ref 600))) (ies [(.loc 3),(.bin .Mod (.bin .Add (.loc 5) (.bin .Mult (.val (.int 11)) (.loc 4))) (.val (.int 16))),(.bin .Add (.bin .Mod (.bin .FloorDiv (.loc 5) (.val (.int 16))) (.bin .Pow (.val (.int 2)) (.val (.int 80)))) (.bin .Mult (.val (.int 7)) (.loc 4)))])))])) laC
noncomputable def laA:ISs:=.cons (.assign 2 (.lst (ies [(.tup (ies [(.val (.int 65)),(.sub (.tup (ies [(.neg (.bin .Pow (.val (.int 2)) (.val (.int 31)))),(.neg (.val (.int 7))),(.bin .Sub (.bin .Pow (.val (.int 2)) (.val (.int 31))) (.val (.int 1)))])) (.bin .Mod (.loc 1) (.val (.int 3))))])),(.tup (ies [(.val (.int 65)),(.sub (.tup (ies [(.neg (.val (.int 1))),(.val (.int 0)),(.val (.int 1)),(.val (.int 2)),(.neg (.bin .Pow (.val (.int 2)) (.val (.int 31))))])) (.bin .Mod (.bin .FloorDiv (.loc 1) (.val (.int 3))) (.val (.int 5))))]))]))) (.cons (.assign 3 (.sdct [(ofString "out"),(ofString "stack"),(ofString "frames")] (ies [(.bin .Add (.loc 2) (.lst (ies [(.tup (ies [(.bin .Add (.val (.int 109)) (.bin .Mod (.bin .FloorDiv (.loc 1) (.val (.int 15))) (.val (.int 4))))])),(.tup (ies [(.val (.int 26))]))]))),(.lst (ies [])),(.lst (ies [(.lst (ies [(.val (.int 2)),(.lst (ies [(.neg (.val (.int 1)))])),(.lst (ies []))]))]))]))) laB)
theorem la_eq:ib_law=.cons (.assign 1 (.ite (.cmp (.loc 0) .NotEq (.lst (ies []))) (.sub (.loc 0) (.val (.int 0))) (.val (.int 0)))) laA:=rfl
section
variable{cx:Cx}{m:Nat}{σ:H}{q:QS}{xs:XS}
theorem Rj{sa:Addr}{x:Int}(hQ:∀σ' w o s f fs out y,fs≠ []->GI σ σ' w o s f fs out [] 10->blk (CTK cx m) laB [some (.obj sa),some (.int x),some y,some (.obj w),none,none,none,none,none,none] σ' q xs):
 blk (CTK cx m) laA [some (.obj sa),some (.int x),none,none,none,none,none,none,none,none] σ q xs:=by
 have lm:∀{k:Nat},fN k 1000=true->k<=lim:=λhk=>kE (cD hk)
 have i3:kR 3:=by unfold kR;decide
 have i15:kR 15:=by unfold kR;decide
 unfold laA;walk_at "D";rw[kL x (by decide:(0:Int)<=3),kL _ (by decide:(0:Int)<=5)]
 refine⟨rfl,by decide,by decide,rfl,by decide,by decide,lm rfl,by decide,lm rfl,qA (l:=([-2147483648,-7,2147483647]:List Int).map V.int) (bF x (by decide)) (bA x (by decide)) (lm rfl) (qH λk1 hk1=>?_)⟩
 refine⟨lm rfl,rfl,by decide,by decide,lm rfl,by decide,i3,by decide,lm rfl,qA (l:=([-1,0,1,2,-2147483648]:List Int).map V.int) (bF _ (by decide)) (bA _ (by decide)) (lm rfl) (qH λk2 hk2=>⟨lm rfl,jS (lm rfl) λb1 hb1=>?_⟩)⟩
 have hk1:InS k1 32:=by revert k1;unfold InS;decide
 have hk2:InS k2 32:=by revert k2;unfold InS;decide
 walk_at "D";rw[kL _ (by decide:(0:Int)<=4)]
 refine⟨by decide,i15,by decide,lm rfl,lm rfl,jS (lm rfl) λb2 hb2=>?_⟩
 have n12:b1≠b2:=λe=>by rw[←e,jP] at hb2;injection hb2
 have n0:Nu σ (upd (upd σ b1 (.list [.tup [.int 65,.int k1],.tup [.int 65,.int k2]])) b2 (.list [.tup [.int (109+x.fdiv 15 % 4)],.tup [.int 26]])) []:=⟨(Ext.upd hb1).trans (.upd hb2),λJ=>0,trivial⟩
 refine om_l ((jQ _ _ n12).trans (jP ..)) ?_;refine om_l (jP ..) ?_;generalize upd (upd σ b1 (.list [.tup [.int 65,.int k1],.tup [.int 65,.int k2]])) b2 (.list [.tup [.int (109+x.fdiv 15 % 4)],.tup [.int 26]])=s0 at*;refine jS (lm rfl) λo ho=>jS (lm rfl) λs hs=>jS (lm rfl) λg hg=>jS (lm rfl) λv hv=>jS (lm rfl) λa ha=>jS (lm rfl) λf hf=>⟨⟨rfl,by decide,by decide+kernel⟩,λw hw=>nx1 ?_⟩
 exact hQ _ w o s f _ _ _ (List.cons_ne_nil _ _) (GI.init (a:=a) (g:=g) (v:=v) (x:=k1) (y:=k2) (c:=109+x.fdiv 15 % 4) (WD.init (((((((n0.add 1 ho).add 2 hs).add 5 hg).add 5 hv).add 4 ha).add 3 hf).add 0 hw)) hk1 hk2 ⟨Int.le_add_of_nonneg_right (bF _ (by decide)),Int.add_lt_add_left (bA _ (by decide)) 109⟩)
end
set_option backward.match.sparseCases true in
theorem Cm{σ:H}{Q:QV}{a:Addr}{l:List V}{k:Int}(h:σ a=some (.ro l))(hz:l.length<=lim)(hi:om (idx l k) λv=>Q v σ):subW (.obj a) (.int k) σ Q:=by
 show(match σ a with|some (.list l)=>l.length<=lim/\om (idx l k) λv=>Q v σ|some (.ro l)=>l.length<=lim/\om (idx l k) λv=>Q v σ|some (.nd es)=>om (es.lookup k) λv=>Q v σ|_=>False)
 rw[h];exact⟨hz,hi⟩
section
variable{cx:Cx}(T:Prog cx){m:Nat}{σ:H}{q:QS}{xq:XS}{w o f:Addr}
include T
theorem Rs{σ1:H}{sa s:Addr}{x:Int}{y:V}{xs:List Int}{fs:List Dfr}{out:List Op}(hm:12<=m)(hs:σ sa=some (.ro (xs.map .int)))(hz:xs.length<=63)(hf:fs≠ [])(G:GI σ σ1 w o s f fs out [] 10)
 (hQ:∀σ' s fs out stk y4 y5,fs≠ []->GI σ σ' w o s f fs out stk 122->blk (CTK cx m) laC [some (.obj sa),some (.int x),some y,some (.obj w),y4,y5,none,none,none,none] σ' q xq):
 blk (CTK cx m) laB [some (.obj sa),some (.int x),some y,some (.obj w),none,none,none,none,none,none] σ1 q xq:=by
 have zl:(xs.map V.int).length<=lim:=by rw[aB];exact kE (aC hz (by decide))
 have keep:∀{σ' s fs out stk B},GI σ σ' w o s f fs out stk B->σ' sa=some (.ro (xs.map .int)):=λg=>by rw[g.wd.ke sa (by rw[hs];exact λh=>by injection h)];exact hs
 unfold laB;walk_at "D";refine Ev (keep G) ?_;obtain⟨N,hN,hN1⟩:∃N:Nat,max (10:Int) (min 14 (((xs.map V.int).length:Nat)-1))=N/\N<=14:=⟨_,(Int.toNat_of_nonneg (fH (by decide) (Int.le_max_left 10 _))).symm,Int.toNat_le.mpr (Int.max_le.mpr ⟨by decide,Int.min_le_left _ _⟩)⟩
 rw[hN];rw[show lZ (.fix (kU N)) σ1=(kU N).length from rfl]
 refine⟨zl,⟨bT _,fZ.mpr (aC hN1 (by decide))⟩,Ka (vs:=kU N) (λi ρ σ'=>∃y4 y5 s fs out stk,ρ= [some (.obj sa),some (.int x),some y,some (.obj w),y4,y5,none,none,none,none]/\fs≠ []/\GI σ σ' w o s f fs out stk (10+8*i)) (λi ρ σ' hI=>rfl) (λρ σ' hI=>?_) (λi ρ σ' v hI hv=>?_) _ 0 _ _ ⟨none,none,s,fs,out,[],rfl,hf,G⟩ (aP _) (cB _)⟩
 ·refine e51 hI λy4 y5 s fs out q0z=>?_;refine e11 q0z λstk q0z=>?_;refine e03 q0z λr6z hf g=>?_;subst r6z
  rw[Ff] at g;exact nx1 (hQ _ _ _ _ _ _ _ hf (g.more (nT (gF (Nat.mul_le_mul_left 8 hN1) 10) rfl)))
 ·refine e51 hI λy4 y5 s fs out q0z=>?_;refine e11 q0z λstk q0z=>?_;refine e03 q0z λr6z hf g=>?_;subst r6z
  refine e02 (Gf hv) λhi z3z=>?_;obtain rfl:=z3z
  refine⟨_,rfl,λW hW=>?_⟩
  have i11:In64 11:=by unfold In64;decide
  have i7:In64 7:=by unfold In64;decide
  have i16:kR 16:=by unfold kR;decide
  have turn:∀(u:Int),nx (CTK cx m) (iss [(.expr (.call (.val (.raw (.ref 600))) (ies [(.loc 3),(.bin .Mod (.bin .Add (.loc 5) (.bin .Mult (.val (.int 11)) (.loc 4))) (.val (.int 16))),(.bin .Add (.bin .Mod (.bin .FloorDiv (.loc 5) (.val (.int 16))) (.bin .Pow (.val (.int 2)) (.val (.int 80)))) (.bin .Mult (.val (.int 7)) (.loc 4)))])))]) (lpQ W (nx (CTK cx m) laC q xq)) (λJ J=>False) .next [some (.obj sa),some (.int x),some y,some (.obj w),some (.int i),some (.int u),none,none,none,none] σ':=λu=>by
   walk_at "D";rw[kL (u+_) (by decide:(0:Int)<=16)]
   exact⟨.inl i11,by decide,by decide,i16,rfl,by decide,by decide,by decide,.inl i7,Yz T hm g hf (nT (gF (Nat.mul_le_mul_left 8 (aC (fD hi) hN1)) 10) rfl) ⟨bF _ (by decide),bA _ (by decide)⟩ λσ'' s' fs' out' stk' hf' g'=>nx1 (bk0 (lp1 (hW _ _ ⟨_,_,_,_,_,_,rfl,hf',g'⟩)))⟩
  walk_at "D";refine Ev (keep g) ?_;refine⟨zl,br (λhlt=>?_) λJ=>turn _⟩
  have z1:0<=(i:Int)+1:=by exact bT _
  generalize(i:Int)+1=k at*;exact Cm (keep g) zl (qA z1 hlt zl (qH λu J=>turn u))
end
theorem Pj(fs:List Dfr):pL ((fs.map λr=>V.obj r.a).reverse) []=some (decide (fs= [])):=by
 induction fs using List.casesOn with
 |nil=>rfl |cons r fs=>
  have:∃b L,((r::fs).map λr=>V.obj r.a).reverse=V.obj b::L:=by
   rw[←List.map_reverse]
   induction e:(r::fs).reverse using List.casesOn with
   |nil=>simp at e |cons q L=>exact⟨_,_,rfl⟩
  refine e21 this λb L e=>?_
  rw[e];rfl
section
variable{cx:Cx}(T:Prog cx){m:Nat}{σ:H}{q:QS}{xq:XS}{w o f:Addr}
include T
theorem Qs{σ1:H}{sa s:Addr}{x:Int}{y:V}{y4 y5:Option V}{fs:List Dfr}{out:List Op}{stk:List Int}(hm:12<=m)(G:GI σ σ1 w o s f fs out stk 122)
 (hQ:∀σ' s out stk,GI σ σ' w o s f [] out stk 200->blk (CTK cx m) laD [some (.obj sa),some (.int x),some y,some (.obj w),y4,y5,none,none,none,none] σ' q xq):
 blk (CTK cx m) laC [some (.obj sa),some (.int x),some y,some (.obj w),y4,y5,none,none,none,none] σ1 q xq:=by
 have hm5:=G.many;unfold laC;walk_at "D";refine zG (N:=fs.length) (λN ρ σ'=>ρ= [some (.obj sa),some (.int x),some y,some (.obj w),y4,y5,none,none,none,none]/\∃s fs out stk,N=fs.length/\N<=5/\GI σ σ' w o s f fs out stk (200-2*N)) ⟨rfl,s,fs,out,stk,rfl,hm5,G.more (cC (nT (gF (Nat.mul_le_mul_left 2 hm5) 122) rfl))⟩ λN ρ σ' hI W hW=>?_
 obtain⟨rfl,s,fs,out,stk,rfl,hN5,g⟩:=hI;walk_at "D";rw[g.wd.omF];refine jS (kE (aP _)) λc hc=>?_
 have g1:=g.ext (.upd (o:=.list []) hc);refine lU g1.wd.hf ?_;refine lU (jP ..) ?_;rw[Pj,jR]
 induction fs using List.casesOn with
 |nil=>exact nx1 (hQ _ _ _ _ (g1.more (aR _))) |cons r fs=>
  have h5:fs.length+1<=5:=hN5;show blk _ _ _ _ _ _;walk_at "D";exact⟨by decide,Qv T (fv hm rfl) g1 (nS _ (aR _) rfl) λσ'' s' out' stk' g2=>nx1 (bk0 (lp1 (hW fs.length _ _ (cB _) ⟨rfl,s',fs,out',stk',rfl,dE h5,g2.more (cC (by rw[eW,dP 2];exact cZ (eG (n:=200) (m:=2*fs.length+2) (nT (Nat.mul_le_mul_left 2 h5) rfl))))⟩)))⟩
end
theorem Ch(l:List Op):rows? (l.map tupO)=some l:=by
 induction l with
 |nil=>rfl |cons a l ih=>
  show(ints? (a.map V.int)).bind _=_;rw[qP,ih];rfl
theorem vL(x y:List Op):tR (x.map tupO) (y.map tupO)=some (decide (x=y)):=by unfold tR;rw[Ch,Ch]
theorem qO(x y:List Op):pL (x.map tupO) (y.map tupO)=some (decide (x=y)):=by
 induction x using List.casesOn with
 |nil=>induction y using List.casesOn with
  |nil=>rfl |cons b y=>exact vL [] (b::y)
 |cons a x=>exact vL (a::x) y
section
variable{cx:Cx}(T:Prog cx){m:Nat}{σ:H}{Q:QV}{X:XH}{w o f:Addr}
include T
theorem Yn{σ1:H}{sa s:Addr}{x:Int}{y:V}{y4 y5:Option V}{out:List Op}{stk:List Int}(hm:50<=m)(G:GI σ σ1 w o s f [] out stk 200)(hQ:∀σ',Ext σ σ'->Q (.bool true) σ'):
 blk (CTK cx m) laD [some (.obj sa),some (.int x),some y,some (.obj w),y4,y5,none,none,none,none] σ1 (rq Q) (λJ σ=>X σ):=by
 have lmt:∀{k:Nat},k<=2000->k<=lim:=λhk=>aC hk (by decide)
 refine e23 (G.fin rfl) λts Z z1z ty hd=>?_;obtain rfl:=z1z
 have hz:=G.out_le;have hfl:fln ts<=200:=by unfold fln;simp at hz;lia
 unfold laD;walk_at "D";rw[G.wd.omO,Nh,G.wd.ho,jW,jR];refine jS (lmt (by simp only[aB];exact nT (Nat.le_of_add_right_le hz) rfl)) λc6 hc6=>?_
 have G2:=G.ext (.upd (o:=.list ((fls ts++ [[11]]).map tupO)) hc6);have k6:=jP σ1 c6 (.list ((fls ts++ [[11]]).map tupO));generalize upd σ1 c6 (.list ((fls ts++ [[11]]).map tupO))=σ2 at*;walk_at "D";refine Rd T (D:=5) (fv hm rfl) k6 ty (by exact Nat.lt_succ_of_le hd) (aC hfl (by decide)) λc7 σ3 hc7 k7 x3=>?_
 have G3:=G2.ext x3;walk_at "D";refine Sk T (fv hm rfl) (x3 _ _ k6) (λop ho=>?_) (by exact nT (Nat.le_of_add_right_le hz) rfl) (Dk ty) λc8 σ4 hc8 k8 x4=>?_
 ·rcases bB.mp ho with ho|ho
  ·exact ty.good op ho
  ·rw[aK.mp ho];exact sM
 have x4':Ext σ3 σ4:=λb v e=>by rw[x4 b (by rw[e];exact λh=>by injection h)];exact e
 have G4:=G3.ext x4';have k7':=x4' _ _ k7;walk_at "D";refine lU k7' ?_;refine lU k8 ?_;rw[qO,jR];refine brn (λJ=>?_) λz=>absurd rfl z
 rw[G4.wd.omO,Qa,x4' _ _ (x3 _ _ k6),kA,jR,G4.wd.ho,kA,jR,qO,jR];refine brn (λJ=>?_) λz=>absurd rfl z
 refine xE T (fv hm rfl) ?_;walk_at "D";walk_at "D";refine e12 (Lz Wb ty (acc:= []) (S0:= []) rfl bU) λS1 z2z r1=>?_
 have ty2:=r1.tys;have d2:=rB (r1:=lr1) (r2:=lr2) ts [];have f2:=rA (r1:=lr1) (r2:=lr2) ts [];rw[←lS] at d2;rw[←lR] at f2;have f0:fln ([]:List Internal.T)=0:=rfl;have dd0:deps ([]:List Internal.T)=0:=rfl;have twice:=Ak (r1:=lr1) (r2:=lr2) ts;generalize(fos lr1 lr2 ts []).reverse=ts2 at*;refine Rd T (D:=5) (fv hm rfl) k7' ty2 (by lia) (by lia) λc9 σ5 hc9 k9 x5=>?_
 have k7'':=x5 _ _ k7';rw[twice] at k9;walk_at "D";rw[k9,kA,jR,k7'',kA,jR,qO,jR];refine br (λJ=>?_) λz=>absurd rfl z
 refine⟨by decide,?_⟩
 rw[jW,jR];have hlen:(fls ts2++ [[11]]).length<=201:=by unfold fln at f2 hfl f0;simp only[aD,bP];lia
 have zl:((fls ts2++ [[11]]).map tupO).length<=lim:=lmt (by rw[aB];exact nT hlen rfl)
 have hops:∀op∈fls ts2++ [[11]],op.length<=4:=λop ho=>by
  rcases bB.mp ho with ho|ho
  ·exact ty2.lens op ho
  ·rw[aK.mp ho];simp
 generalize fls ts2++ [[11]]=rows at*
 have xx:Ext σ σ5:=λb v e=>by
  have:=(G4.ext x5).wd.ke b (by rw[e];exact λh=>by injection h)
  rw[this];exact e
 unfold mU;rw[mK k7''];refine pC (vs:=rows.map tupO) (λi acc σ'=>σ'=σ5/\acc.length<=4*i/\∀v∈acc,v=V.bool false) (λi acc σ' hI=>?_) (λacc σ' hI=>?_) (λi acc σ' v hI hv W hW=>?_) _ 0 [] σ5 ⟨rfl,by simp,by simp⟩ (aP _) (by exact Nat.lt_add_one (List.map tupO rows).length)
 ·rw[hI.1];exact mO k7'' zl i
 ·refine e03 hI λz3z hl hall=>?_;obtain rfl:=z3z
  rw[aB] at hl;refine jS (lmt (by lia)) λc hc=>?_
  refine om_l (jP ..) ?_;refine⟨lmt (by lia),hall,?_⟩
  walk_at "N";exact hQ _ (xx.trans (.upd hc))
 ·refine e03 hI λz4z hl hall=>?_;obtain rfl:=z4z
  rw[bH] at hv;refine mapS hv λop hop z5z=>?_;obtain rfl:=z5z
  have hi:=(aT.mp hop).1;have h4:=hops op (cJ hop);unfold tupO;rw[Rm];refine⟨lmt (by rw[aB];exact nT h4 rfl),?_⟩
  rw[show lZ (.fix (op.map V.int)) σ'=(op.map V.int).length from rfl]
  refine pC (vs:=op.map V.int) (λj acc' σ''=>σ''=σ'/\acc'.length<=4*i+j/\∀v∈acc',v=V.bool false) (λj acc' σ'' hI=>rfl) (λacc' σ'' hI=>?_) (λj acc' σ'' u hI hu W' hW'=>?_) _ 0 acc σ' ⟨rfl,by exact hl,hall⟩ (aP _) (by exact Nat.lt_add_one (List.map V.int op).length)
  ·refine e03 hI λz6z hl' hall'=>?_;obtain rfl:=z6z
   rw[aB] at hl';exact hW _ _ ⟨rfl,by lia,hall'⟩
  ·refine e03 hI λz7z hl' hall'=>?_;obtain rfl:=z7z
   rw[bH] at hu;refine mapS hu λk hk z8z=>?_;obtain rfl:=z8z
   have hj:=(aT.mp hk).1;rw[Ry];refine⟨lmt (by lia),hW' _ _ ⟨rfl,by simp;exact Nat.lt_succ_of_le hl',λv hv=>?_⟩⟩
   rcases bB.mp hv with hv|hv
   ·exact hall' v hv
   ·exact aK.mp hv
end
section
variable{cx:Cx}(T:Prog cx){n:Nat}{σ:H}{Q:QV}{X:XH}
include T
theorem c_law{sa:Addr}{xs:List Int}(hn:60<=n)(hs:σ sa=some (.ro (xs.map .int)))(hz:xs.length<=63)(hQ:∀σ',Ext σ σ'->Q (.bool true) σ'):CTK cx n 605 [.obj sa] σ Q X:=by
 refine ctl T (F_law T) hn rfl rfl rfl ?_;rw[la_eq];have zl:(xs.map V.int).length<=lim:=by rw[aB];exact kE (aC hz (by decide))
 walk_at "D";refine jS (kE (aP _)) λc hc=>?_
 have x1:Ext σ (upd σ c (.list [])):=.upd hc;have k1:=jP σ c (.list []);generalize upd σ c (.list [])=σ1 at*
 have go:∀x:Int,blk (CTK cx (n-2)) laA [some (.obj sa),some (.int x),none,none,none,none,none,none,none,none] σ1 (rq Q) (λJ σ=>X σ):=λx=>
  Rj λσ' w o s f fs out y hf G=>Rs T (fu hn rfl) (x1 _ _ hs) hz hf G λσ'' s fs out stk y4 y5 hf G=>Qs T (fu hn rfl) G λσ3 s out stk G=>Yn T (fu hn rfl) G λσ4 x4=>hQ σ4 (x1.trans x4)
 rw[Qa,x1 _ _ hs,Jg,jR,k1,kA,jR,show([]:List V)=([]:List Int).map .int from rfl,mH,jR]
 refine brn (λh=>nx1 (go 0)) λh=>?_
 induction xs using List.casesOn with
 |nil=>exact absurd rfl h |cons a l=>exact Cm (x1 _ _ hs) zl (pZ (nx1 (go a)))
end
noncomputable def YY(h:Heap):Prop:=∃K:Frag,K.In h/\obsK K=valK/\ftab.map (obsE K)=ftab.map valE
theorem YY.keeps{h h':Heap}(y:YY h)(x:∀b o,h.get? b=some o->h'.get? b=some o):YY h':=by
 refine e12 y λK k r=>?_
 exact⟨K,k.keeps x,r⟩
theorem yD(h:Heap):∀{vs:List Value} {ns:List Int},IntsAre vs ns->Reps h vs (ns.map .int)
 |_,_,.nil=>.nil |_,_,.cons n t r=>.cons (.int n t) (yD h r)
theorem Ks{h:Heap}{m:Str->Option Value}(g:h.Ns mainGlobals m):∃o,h.get? mainGlobals=some o:=by
 induction e:h.get? mainGlobals with
 |some o=>exact⟨o,rfl⟩ |none=>simp[Heap.Ns,e] at g
theorem Pz{w:World}{s₁:Shared}{mg mb:Str->Option Value}{l:Addr}{vs:List Value}{ns:List Int}{c:ClaimW}{cl:Str->Option Addr}{mean:ExcName->Option Value}{args:List WData}(prog:Program)
 (Y:YY s₁.heap)(g:s₁.heap.Ns mainGlobals mg)(b:s₁.heap.Ns builtinsNs mb)(nl:s₁.heap.NoLimit)(bi:∀x:Str,x≠"__name__"->mb x=bootBuiltins x)(hg:s₁.gens= #[])
 (hl:s₁.heap.get? l=some {cls:=.type "list",data:=.seq vs.toArray})(hI:IntsAre vs ns)(hz:ns.length<=63)
 (fin:∀s',(∀b o,s₁.heap.get? b=some o->s'.heap.get? b=some o)->s'.os=s₁.os->s'.gens= #[]->GoodW c cl mean args s₁ (.ok (.ret (.bool true))) s'):
 wpAny (model prog w) callerA (call (.ref 605) [.ref l]) (λv s'=>GoodWG c cl mean args s₁ (.ok (.ret v)) s') (λe s'=>GoodWG c cl mean args s₁ (.error e) s') s₁:=by
 refine e13 Y λK KI hk hf=>?_
 let cx:Cx:={prog,w,K,h₀:=s₁.heap,mg,mb,g₀:=s₁.gens,os₀:=s₁.os,live:=Ks g}
 have T:Prog cx:=Nr ⟨KI,g,b,nl,bi⟩ hk hf;refine enter_call (fV ?_ (λJ J g=>GoodW.toG g))
 let σ:H:=λa=>if a=l then some (.ro (ns.map .int)) else none
 have hσ:σ l=some (.ro (ns.map .int)):=if_pos rfl
 have S:StB cx [] σ s₁:=by
  refine⟨λJ J h=>h,rfl,rfl,λa o e=>?_,λa e=>?_,trivial,λL hL=>by cases hL⟩
  ·by_cases h:a=l
   ·subst h
    rw[hσ] at e;injection e with qz;subst qz
    exact⟨_,_,hl,by simpa using yD _ hI⟩
   ·have:σ a=none:=if_neg h
    rw[this] at e;injection e
  ·by_cases h:a=l
   ·subst h;rw[hσ] at e;injection e
   ·have:σ a=none:=if_neg h
    rw[this] at e;injection e
 have W:=(c_law T (n:=100) (Q:=λv J=>v=.bool true) (X:=λJ=>False) (by exact Nat.le_add_left _ _) hσ hz λJ J=>rfl).2
 refine fV (W callerA [] s₁ [.ref l] ⟨rfl,by decide+kernel,by decide+kernel⟩ rfl S (.cons (.obj l) .nil)) λr s' z=>?_
 match r,z with
 |.ok (.ret v),⟨u,σ',hu,hr,S',_⟩=>
  subst hu;cases hr;exact fin s' S'.keep S'.os (S'.gens.trans hg)
 |.error e,⟨σ',x,_⟩=>exact x.elim
section
open PySem.W.Fast in
theorem said:(PySem.Challenge.rw_nm0147_01).wellSaid=true:=by
 rw[te9446332074065402090];decide+kernel
noncomputable abbrev rr:OpenRow:=(PySem.Challenge.rw_nm0147_01).row
noncomputable def dd:DefRec×List (Str×Expr):=(defOf qq rr.name).get (by rfl)
set_option tactic.hygienic true in
theorem walk:WalkO qq lse (λJ J=>True) (λJ h=>YY h) rr.toRowW dd.1 dd.2 λf vs=>dU f vs:=by
 intro w s₀ s₁ mg mb G Y fa o pm cd doc dV kV ho hd hcd hD hmg hg args vals as hpre hlay hrd hwl hlo;refine Ground.open G ?_;intro T B D TE TW
 have e605:mg (ofString "law")=some (.ref 605):=by
  obtain⟨K,KI,hk,hf⟩:=Y;exact mg_of KI T.g (congrArg (·.2.2.2.2.2.2.2.2.2.2.2.2.2.2.2.2) hk)
 have hfa:fa=605:=by
  have h2:mg (ofString "law")=some (.ref fa):=hmg;rw[e605] at h2;injection h2 with h2;injection h2 with h2;exact h2.symm
 subst hfa;clear hd hcd hD hmg ho
 wrow_args hpre hlay hrd hwl hlo
 clear G B D TE TW
 rename_i ns _ _ _ _ _ _ _ l vs _ hL _ w1 _ hI _ hc _
 have w2:Well w.params s₁.heap (.ref l) (.list (ofPys (ns.map PyData.int))):=w1;cases w2 with
 |list hl _=>
  obtain⟨o',h1,h2,n',h3⟩:=hL;rw[hl] at h1;cases h1;cases h3;refine Pz _ Y T.g T.b T.nolimit T.builtins hg hl hI (by lia) λs' hk hos hgs=>⟨.inl ⟨_,.bool true,[],rfl,?_,.bool true,?_,λJ=>⟨List.nodup_nil,nofun⟩⟩,hk,hos,hgs⟩
  ·first|wrow_none_raised|exact λJ=>rfl|(intro cls;simp)
  ·first|wrow_post|rfl
theorem cw:PySem.Challenge.rw_nm0147_01.Holds:=by
 refine holds_law said λsaid=>?_
 refine holds_open (q:=qq) (loose:=lse) (Xt:=λJ=>true) (XP:=λJ J=>True) (YP:=λJ h=>YY h) (d:=dd.1) (kwd:=dd.2) (N:=7696) left (λw s e=>⟨tJ s.heap,Ot _,congrArg (·.1) e,(congrArg (·.2) e).trans (xU _)⟩) (λJ J J y x=>y.keeps x) (λJ J=>trivial) (λJ J J J J=>trivial)
  (by rfl) (by rfl) (by rfl) (λJ J=>recFacts_nil rfl) (by rfl) said (by decide+kernel) ⟨rfl,rfl,rfl,rfl,rfl,by decide+kernel⟩ ?hw walk
 case hw=>w_witness2
end
end Mine.Internal
theorem PySem.Challenge.cw_nm0147_01_holds : PySem.Challenge.rw_nm0147_01.Holds :=
  Mine.Internal.cw
